import PyProof.Rows.All
import Wide.All
import OpenK.AllK
import Wide.FinOn
import HandS.ForMost
import HandS.ForExc
import HandS.Lambda
import HandS.EndTab
import HandS.More
import HandS.Strs
import HandS.SortInts
import HandS.Conv
import HandS.WrittenGet
import HandS.CallLocal
import HandS.Style
import HandS.Small
import HandS.TupMul
import HandS.IsInst
import HandS.TupAny
import HandS.Deep
import PyProof.ReprRoads
import PyProof.Draws
import PyProof.EnumMake
import HandS.Zip
import HandS.SetFor
import HandS.EndOwn
import PySem.Challenge.RW_oncepages_k11_marks_of_rows
set_option Elab.async false
set_option linter.all false
set_option maxRecDepth 100000
set_option maxHeartbeats 4000000
/-! OA: values as data with owners, what stands for them, steps, the canonical readings -/
namespace OP
open PySem PySem.Spec PyProof.Rows L2

/-- data: lists, instances and dicts bear a flag: owned (it may be changed) or frozen -/
inductive D where
  | non | bl (b : Bool) | int (i : Int) | str (s : Str) | fn (n : Str)
  | tup (l : List D) | lst (o : Bool) (l : List D) | xls (l : List D)
  | ins (o : Bool) (c : Str) (ks : List Str) (l : List D)
  | dic (o : Bool) (ks : List Key) (l : List D) | xdc (ks : List Str) (l : List D)

/-- the surroundings: the written part, the module's names, the tables -/
structure G where
  K : PySem.W.Frag
  mg : Str → Option Value
  T : List (Addr × Str)
  w : World

def Sub (Z H : Hp) : Prop := ∀ a o, Z a = some o → H a = some o
theorem Sub.refl (H : Hp) : Sub H H := fun _ _ h => h
theorem Sub.trans {A B C : Hp} (x : Sub A B) (y : Sub B C) : Sub A C := fun a o h => y a o (x a o h)
theorem Sub.seqL {K : PySem.W.Frag} {H H' : Hp} {a : Addr} {xs : List V} (e : Sub H H') (h : SqL K H a xs) : SqL K H' a xs := Same.seq e h
theorem Sub.seqT {K : PySem.W.Frag} {H H' : Hp} {a : Addr} {xs : List V} (e : Sub H H') (h : SqT K H a xs) : SqT K H' a xs := by
  rcases h with (h | ⟨o, h⟩) | h
  · exact .inl (.inl (e _ _ h))
  · exact .inl (.inr ⟨o, e _ _ h⟩)
  · exact .inr h

/-- a written dict: its keys are texts -/
def XDc (g : G) (a : Addr) (ks : List Str) (xs : List V) : Prop := (∃ es n, KDict g.K g.w a es n) ∧ ks.length = xs.length ∧ ∀ z, ∃ r, PySem.W.nsIn g.K a z = some r ∧ RelO (valV (ks.zip xs) z) r
mutual
def R (g : G) (Z H : Hp) : D → V → List Addr → Prop
  | .non, v, fp => v = .non ∧ fp = []
  | .bl b, v, fp => v = .bl b ∧ fp = []
  | .int i, v, fp => v = .int i ∧ fp = []
  | .str s, v, fp => (v = .str s ∧ s.length ≤ 16777216) ∧ fp = []
  | .fn n, v, fp => (∃ f, v = .ref f ∧ g.mg n = some (.ref f)) ∧ fp = []
  | .tup ds, v, fp => fp = [] ∧ ∃ a xs, v = .ref a ∧ SqT g.K Z a xs ∧ Rs g Z H ds xs []
  | .lst false ds, v, fp => fp = [] ∧ ∃ a xs, v = .ref a ∧ Z a = some (.lst xs) ∧ Rs g Z H ds xs []
  | .xls ds, v, fp => fp = [] ∧ ∃ a xs, v = .ref a ∧ SqL g.K Z a xs ∧ Rs g Z H ds xs []
  | .lst true ds, v, fp => ∃ a xs fr, v = .ref a ∧ fp = a :: fr ∧ H a = some (.lst xs) ∧ Rs g Z H ds xs fr
  | .ins false c ks ds, v, fp => fp = [] ∧ ∃ a C dx fs, v = .ref a ∧ g.mg c = some (.ref C) ∧ Z a = some (.ins C dx fs) ∧ Z dx = some (.own a) ∧ fs.map (·.1) = ks ∧ Rs g Z H ds (fs.map (·.2)) []
  | .ins true c ks ds, v, fp => ∃ a C dx fs fr, v = .ref a ∧ g.mg c = some (.ref C) ∧ fp = a :: dx :: fr ∧ H a = some (.ins C dx fs) ∧ H dx = some (.own a) ∧ fs.map (·.1) = ks ∧ Rs g Z H ds (fs.map (·.2)) fr
  | .dic false ks ds, v, fp => fp = [] ∧ ∃ a kvs, v = .ref a ∧ Z a = some (.dK kvs) ∧ kvs.map (·.1) = ks ∧ Rs g Z H ds (kvs.map (·.2)) []
  | .dic true ks ds, v, fp => ∃ a kvs fr, v = .ref a ∧ fp = a :: fr ∧ H a = some (.dK kvs) ∧ kvs.map (·.1) = ks ∧ Rs g Z H ds (kvs.map (·.2)) fr
  | .xdc ks ds, v, fp => fp = [] ∧ ∃ a xs, v = .ref a ∧ XDc g a ks xs ∧ Rs g Z H ds xs []
def Rs (g : G) (Z H : Hp) : List D → List V → List Addr → Prop
  | [], xs, fp => xs = [] ∧ fp = []
  | d :: ds, xs, fp => ∃ x r f1 f2, xs = x :: r ∧ fp = f1 ++ f2 ∧ R g Z H d x f1 ∧ Rs g Z H ds r f2
end

mutual
/-- owned by none: frozen -/
def D.fz : D → D
  | .tup l => .tup (D.fzs l)
  | .lst _ l => .lst false (D.fzs l)
  | .xls l => .xls (D.fzs l)
  | .ins _ c ks l => .ins false c ks (D.fzs l)
  | .dic _ ks l => .dic false ks (D.fzs l)
  | .xdc ks l => .xdc ks (D.fzs l)
  | d => d
def D.fzs : List D → List D
  | [] => []
  | d :: r => d.fz :: D.fzs r
end
mutual
def D.frz : D → Bool
  | .tup l => D.frzs l
  | .lst o l => !o && D.frzs l
  | .xls l => D.frzs l
  | .ins o _ _ l => !o && D.frzs l
  | .dic o _ l => !o && D.frzs l
  | .xdc _ l => D.frzs l
  | _ => true
def D.frzs : List D → Bool
  | [] => true
  | d :: r => d.frz && D.frzs r
end

mutual
theorem R.mono {g : G} {Z H Z' H' : Hp} (zz : Sub Z Z') : ∀ {d : D} {v : V} {fp : List Addr}, (∀ a ∈ fp, H' a = H a) → R g Z H d v fp → R g Z' H' d v fp
  | .non, _, _, _, h => h
  | .bl _, _, _, _, h => h
  | .int _, _, _, _, h => h
  | .str _, _, _, _, h => h
  | .fn _, _, _, _, h => h
  | .tup ds, v, fp, k, h => by
    obtain ⟨e, a, xs, e1, h1, h2⟩ := h
    exact ⟨e, a, xs, e1, zz.seqT h1, Rs.mono zz (by simp) h2⟩
  | .lst false ds, v, fp, k, h => by
    obtain ⟨e, a, xs, e1, h1, h2⟩ := h
    exact ⟨e, a, xs, e1, zz _ _ h1, Rs.mono zz (by simp) h2⟩
  | .xls ds, v, fp, k, h => by
    obtain ⟨e, a, xs, e1, h1, h2⟩ := h
    exact ⟨e, a, xs, e1, zz.seqL h1, Rs.mono zz (by simp) h2⟩
  | .lst true ds, v, fp, k, h => by
    obtain ⟨a, xs, fr, e1, e2, h1, h2⟩ := h
    exact ⟨a, xs, fr, e1, e2, (k a (by rw [e2]; simp)).trans h1, Rs.mono zz (fun b hb => k b (by rw [e2]; simp [hb])) h2⟩
  | .ins false c ks ds, v, fp, k, h => by
    obtain ⟨e, a, C, dx, fs, e1, hc, h1, h2, h3, h4⟩ := h
    exact ⟨e, a, C, dx, fs, e1, hc, zz _ _ h1, zz _ _ h2, h3, Rs.mono zz (by simp) h4⟩
  | .ins true c ks ds, v, fp, k, h => by
    obtain ⟨a, C, dx, fs, fr, e1, hc, e2, h1, h2, h3, h4⟩ := h
    exact ⟨a, C, dx, fs, fr, e1, hc, e2, (k a (by rw [e2]; simp)).trans h1, (k dx (by rw [e2]; simp)).trans h2, h3, Rs.mono zz (fun b hb => k b (by rw [e2]; simp [hb])) h4⟩
  | .dic false ks ds, v, fp, k, h => by
    obtain ⟨e, a, kvs, e1, h1, h2, h3⟩ := h
    exact ⟨e, a, kvs, e1, zz _ _ h1, h2, Rs.mono zz (by simp) h3⟩
  | .dic true ks ds, v, fp, k, h => by
    obtain ⟨a, kvs, fr, e1, e2, h1, h2, h3⟩ := h
    exact ⟨a, kvs, fr, e1, e2, (k a (by rw [e2]; simp)).trans h1, h2, Rs.mono zz (fun b hb => k b (by rw [e2]; simp [hb])) h3⟩
  | .xdc ks ds, v, fp, k, h => by
    obtain ⟨e, a, xs, e1, h1, h2⟩ := h
    exact ⟨e, a, xs, e1, h1, Rs.mono zz (by simp) h2⟩
theorem Rs.mono {g : G} {Z H Z' H' : Hp} (zz : Sub Z Z') : ∀ {ds : List D} {xs : List V} {fp : List Addr}, (∀ a ∈ fp, H' a = H a) → Rs g Z H ds xs fp → Rs g Z' H' ds xs fp
  | [], _, _, _, h => h
  | d :: ds, xs, fp, k, h => by
    obtain ⟨x, r, f1, f2, e1, e2, h1, h2⟩ := h
    exact ⟨x, r, f1, f2, e1, e2, R.mono zz (fun b hb => k b (by rw [e2]; simp [hb])) h1, Rs.mono zz (fun b hb => k b (by rw [e2]; simp [hb])) h2⟩
end
theorem R.mono0 {g : G} {Z H Z' H' : Hp} (zz : Sub Z Z') {d : D} {v : V} (h : R g Z H d v []) : R g Z' H' d v [] := R.mono zz (by simp) h
theorem Rs.mono0 {g : G} {Z H Z' H' : Hp} (zz : Sub Z Z') {d : List D} {v : List V} (h : Rs g Z H d v []) : Rs g Z' H' d v [] := Rs.mono zz (by simp) h

mutual
/-- freezing: what was owned is laid into Z -/
theorem R.freeze {g : G} {Z H Z' : Hp} (zz : Sub Z Z') : ∀ {d : D} {v : V} {fp : List Addr}, (∀ a ∈ fp, Z' a = H a) → R g Z H d v fp → R g Z' H d.fz v []
  | .non, _, _, _, h => ⟨h.1, rfl⟩
  | .bl _, _, _, _, h => ⟨h.1, rfl⟩
  | .int _, _, _, _, h => ⟨h.1, rfl⟩
  | .str _, _, _, _, h => ⟨h.1, rfl⟩
  | .fn _, _, _, _, h => ⟨h.1, rfl⟩
  | .tup ds, v, fp, k, h => by
    obtain ⟨e, a, xs, e1, h1, h2⟩ := h
    exact ⟨rfl, a, xs, e1, zz.seqT h1, Rs.freeze zz (fp := []) (by simp) h2⟩
  | .lst false ds, v, fp, k, h => by
    obtain ⟨e, a, xs, e1, h1, h2⟩ := h
    exact ⟨rfl, a, xs, e1, zz _ _ h1, Rs.freeze zz (fp := []) (by simp) h2⟩
  | .xls ds, v, fp, k, h => by
    obtain ⟨e, a, xs, e1, h1, h2⟩ := h
    exact ⟨rfl, a, xs, e1, zz.seqL h1, Rs.freeze zz (fp := []) (by simp) h2⟩
  | .lst true ds, v, fp, k, h => by
    obtain ⟨a, xs, fr, e1, e2, h1, h2⟩ := h
    exact ⟨rfl, a, xs, e1, (k a (by rw [e2]; simp)).trans h1, Rs.freeze zz (fun b hb => k b (by rw [e2]; simp [hb])) h2⟩
  | .ins false c ks ds, v, fp, k, h => by
    obtain ⟨e, a, C, dx, fs, e1, hc, h1, h2, h3, h4⟩ := h
    exact ⟨rfl, a, C, dx, fs, e1, hc, zz _ _ h1, zz _ _ h2, h3, Rs.freeze zz (fp := []) (by simp) h4⟩
  | .ins true c ks ds, v, fp, k, h => by
    obtain ⟨a, C, dx, fs, fr, e1, hc, e2, h1, h2, h3, h4⟩ := h
    exact ⟨rfl, a, C, dx, fs, e1, hc, (k a (by rw [e2]; simp)).trans h1, (k dx (by rw [e2]; simp)).trans h2, h3, Rs.freeze zz (fun b hb => k b (by rw [e2]; simp [hb])) h4⟩
  | .dic false ks ds, v, fp, k, h => by
    obtain ⟨e, a, kvs, e1, h1, h2, h3⟩ := h
    exact ⟨rfl, a, kvs, e1, zz _ _ h1, h2, Rs.freeze zz (fp := []) (by simp) h3⟩
  | .dic true ks ds, v, fp, k, h => by
    obtain ⟨a, kvs, fr, e1, e2, h1, h2, h3⟩ := h
    exact ⟨rfl, a, kvs, e1, (k a (by rw [e2]; simp)).trans h1, h2, Rs.freeze zz (fun b hb => k b (by rw [e2]; simp [hb])) h3⟩
  | .xdc ks ds, v, fp, k, h => by
    obtain ⟨e, a, xs, e1, h1, h2⟩ := h
    exact ⟨rfl, a, xs, e1, h1, Rs.freeze zz (fp := []) (by simp) h2⟩
theorem Rs.freeze {g : G} {Z H Z' : Hp} (zz : Sub Z Z') : ∀ {ds : List D} {xs : List V} {fp : List Addr}, (∀ a ∈ fp, Z' a = H a) → Rs g Z H ds xs fp → Rs g Z' H (D.fzs ds) xs []
  | [], _, _, _, h => ⟨h.1, rfl⟩
  | d :: ds, xs, fp, k, h => by
    obtain ⟨x, r, f1, f2, e1, e2, h1, h2⟩ := h
    exact ⟨x, r, [], [], e1, rfl, R.freeze zz (fun b hb => k b (by rw [e2]; simp [hb])) h1, Rs.freeze zz (fun b hb => k b (by rw [e2]; simp [hb])) h2⟩
end

mutual
theorem R.frz {g : G} {Z H : Hp} : ∀ {d : D} {v : V} {fp : List Addr}, d.frz = true → R g Z H d v fp → fp = []
  | .non, _, _, _, h => h.2
  | .bl _, _, _, _, h => h.2
  | .int _, _, _, _, h => h.2
  | .str _, _, _, _, h => h.2
  | .fn _, _, _, _, h => h.2
  | .tup ds, v, fp, k, h => h.1
  | .lst false ds, v, fp, k, h => h.1
  | .xls ds, v, fp, k, h => h.1
  | .lst true ds, v, fp, k, h => by simp [D.frz] at k
  | .ins false c ks ds, v, fp, k, h => h.1
  | .ins true c ks ds, v, fp, k, h => by simp [D.frz] at k
  | .dic false ks ds, v, fp, k, h => h.1
  | .dic true ks ds, v, fp, k, h => by simp [D.frz] at k
  | .xdc ks ds, v, fp, k, h => h.1
theorem Rs.frz {g : G} {Z H : Hp} : ∀ {ds : List D} {xs : List V} {fp : List Addr}, D.frzs ds = true → Rs g Z H ds xs fp → fp = []
  | [], _, _, _, h => h.2
  | d :: ds, xs, fp, k, h => by
    obtain ⟨x, r, f1, f2, e1, e2, h1, h2⟩ := h
    have k' : d.frz = true ∧ D.frzs ds = true := by simpa [D.frzs] using k
    rw [e2, R.frz k'.1 h1, Rs.frz k'.2 h2]
    rfl
end
theorem app_nil {f1 f2 : List Addr} (h : [] = f1 ++ f2) : f1 = [] ∧ f2 = [] := by
  have := h.symm
  simpa using this
mutual
/-- what has no owner's addresses is frozen -/
theorem R.isFz {g : G} {Z H : Hp} : ∀ {d : D} {v : V}, R g Z H d v [] → d.fz = d
  | .non, _, _ => rfl
  | .bl _, _, _ => rfl
  | .int _, _, _ => rfl
  | .str _, _, _ => rfl
  | .fn _, _, _ => rfl
  | .tup ds, v, h => by
    obtain ⟨_, a, xs, e1, h1, h2⟩ := h
    show D.tup (D.fzs ds) = _
    rw [Rs.isFz h2]
  | .lst false ds, v, h => by
    obtain ⟨_, a, xs, e1, h1, h2⟩ := h
    show D.lst false (D.fzs ds) = _
    rw [Rs.isFz h2]
  | .xls ds, v, h => by
    obtain ⟨_, a, xs, e1, h1, h2⟩ := h
    show D.xls (D.fzs ds) = _
    rw [Rs.isFz h2]
  | .lst true ds, v, h => by
    obtain ⟨a, xs, fr, e1, e2, h1, h2⟩ := h
    cases e2
  | .ins false c ks ds, v, h => by
    obtain ⟨e, a, C, dx, fs, e1, hc, h1, h2, h3, h4⟩ := h
    show D.ins false c ks (D.fzs ds) = _
    rw [Rs.isFz h4]
  | .ins true c ks ds, v, h => by
    obtain ⟨a, C, dx, fs, fr, e1, hc, e2, h1, h2, h3, h4⟩ := h
    cases e2
  | .dic false ks ds, v, h => by
    obtain ⟨e, a, kvs, e1, h1, h2, h3⟩ := h
    show D.dic false ks (D.fzs ds) = _
    rw [Rs.isFz h3]
  | .dic true ks ds, v, h => by
    obtain ⟨a, kvs, fr, e1, e2, h1, h2, h3⟩ := h
    cases e2
  | .xdc ks ds, v, h => by
    obtain ⟨e, a, xs, e1, h1, h2⟩ := h
    show D.xdc ks (D.fzs ds) = _
    rw [Rs.isFz h2]
theorem Rs.isFz {g : G} {Z H : Hp} : ∀ {ds : List D} {xs : List V}, Rs g Z H ds xs [] → D.fzs ds = ds
  | [], _, _ => rfl
  | d :: ds, xs, h => by
    obtain ⟨x, r, f1, f2, e1, e2, h1, h2⟩ := h
    obtain ⟨z1, z2⟩ := app_nil e2
    subst z1; subst z2
    show d.fz :: D.fzs ds = _
    rw [R.isFz h1, Rs.isFz h2]
end
mutual
theorem D.frz_fz : ∀ d : D, d.fz.frz = true
  | .non => rfl
  | .bl _ => rfl
  | .int _ => rfl
  | .str _ => rfl
  | .fn _ => rfl
  | .tup ds => D.frzs_fzs ds
  | .lst _ ds => by show (!false && D.frzs (D.fzs ds)) = true; rw [D.frzs_fzs ds]; rfl
  | .xls ds => D.frzs_fzs ds
  | .ins _ c ks ds => by show (!false && D.frzs (D.fzs ds)) = true; rw [D.frzs_fzs ds]; rfl
  | .dic _ ks ds => by show (!false && D.frzs (D.fzs ds)) = true; rw [D.frzs_fzs ds]; rfl
  | .xdc ks ds => D.frzs_fzs ds
theorem D.frzs_fzs : ∀ ds : List D, D.frzs (D.fzs ds) = true
  | [] => rfl
  | d :: ds => by show (d.fz.frz && D.frzs (D.fzs ds)) = true; rw [D.frz_fz d, D.frzs_fzs ds]; rfl
end
theorem R.isFrz {g : G} {Z H : Hp} {d : D} {v : V} (h : R g Z H d v []) : d.frz = true := by rw [← R.isFz h]; exact D.frz_fz d
mutual
theorem D.fz_of : ∀ {d : D}, d.frz = true → d.fz = d
  | .non, _ => rfl
  | .bl _, _ => rfl
  | .int _, _ => rfl
  | .str _, _ => rfl
  | .fn _, _ => rfl
  | .tup ds, h => by show D.tup (D.fzs ds) = _; rw [D.fzs_of h]
  | .lst false ds, h => by show D.lst false (D.fzs ds) = _; rw [D.fzs_of (by simpa [D.frz] using h)]
  | .lst true ds, h => by simp [D.frz] at h
  | .xls ds, h => by show D.xls (D.fzs ds) = _; rw [D.fzs_of h]
  | .ins false c ks ds, h => by show D.ins false c ks (D.fzs ds) = _; rw [D.fzs_of (by simpa [D.frz] using h)]
  | .ins true c ks ds, h => by simp [D.frz] at h
  | .dic false ks ds, h => by show D.dic false ks (D.fzs ds) = _; rw [D.fzs_of (by simpa [D.frz] using h)]
  | .dic true ks ds, h => by simp [D.frz] at h
  | .xdc ks ds, h => by show D.xdc ks (D.fzs ds) = _; rw [D.fzs_of h]
theorem D.fzs_of : ∀ {ds : List D}, D.frzs ds = true → D.fzs ds = ds
  | [], _ => rfl
  | d :: ds, h => by
    have k' : d.frz = true ∧ D.frzs ds = true := by simpa [D.frzs] using h
    show d.fz :: D.fzs ds = _
    rw [D.fz_of k'.1, D.fzs_of k'.2]
end

/-! ### worlds -/
/-- nothing stands there, or a table -/
def Nt (H : Hp) (a : Addr) : Prop := ∀ o, H a = some o → ∃ ps, o = .tbl ps
theorem Nt.none {H : Hp} {a : Addr} (h : H a = none) : Nt H a := fun o e => by rw [h] at e; cases e
structure Ok (g : G) (Z H : Hp) (fp : List Addr) : Prop where
  zh : Sub Z H
  nt : ∀ a ps, Z a ≠ some (.tbl ps)
  nd : fp.Nodup
  zf : ∀ a ∈ fp, Z a = none
  hf : ∀ a ∈ fp, ¬ Nt H a
  tab : LamX.Tabs g.T H
structure Stp (g : G) (Z H : Hp) (fp : List Addr) (Z' H' : Hp) (fp' : List Addr) : Prop where
  ok : Ok g Z' H' fp'
  zz : Sub Z Z'
  keep : ∀ a o, H a = some o → a ∉ fp → (∀ ps, o ≠ .tbl ps) → H' a = some o
  newZ : ∀ a o, Z' a = some o → Z a = some o ∨ a ∈ fp ∨ Nt H a
  newF : ∀ a ∈ fp', a ∈ fp ∨ Nt H a
section
variable {g : G} {Z H Z' H' Z2 H2 : Hp} {fp fp' fp2 fr : List Addr}
theorem Ok.perm (o : Ok g Z H fp) (p : fp.Perm fp') : Ok g Z H fp' :=
  ⟨o.zh, o.nt, p.nodup_iff.mp o.nd, fun a h => o.zf a (p.mem_iff.mpr h), fun a h => o.hf a (p.mem_iff.mpr h), o.tab⟩
theorem Ok.sub (o : Ok g Z H (fp ++ fr)) : Ok g Z H fp :=
  ⟨o.zh, o.nt, (List.nodup_append.mp o.nd).1, fun a h => o.zf a (by simp [h]), fun a h => o.hf a (by simp [h]), o.tab⟩
theorem Ok.subR (o : Ok g Z H (fp ++ fr)) : Ok g Z H fr := (o.perm List.perm_append_comm).sub
theorem Ok.none (o : Ok g Z H fp) : Ok g Z H [] := Ok.sub (fp := []) o
theorem Stp.refl (o : Ok g Z H fp) : Stp g Z H fp Z H fp := ⟨o, Sub.refl _, fun _ _ h _ _ => h, fun _ _ h => .inl h, fun _ h => .inl h⟩
theorem Stp.permL (s : Stp g Z H fp Z' H' fp') (p : fp.Perm fp2) : Stp g Z H fp2 Z' H' fp' :=
  ⟨s.ok, s.zz, fun a o h1 h2 h3 => s.keep a o h1 (fun z => h2 (p.mem_iff.mp z)) h3, fun a o h => (s.newZ a o h).imp id fun z => z.imp (fun q => p.mem_iff.mp q) id, fun a h => (s.newF a h).imp (fun q => p.mem_iff.mp q) id⟩
theorem Stp.permR (s : Stp g Z H fp Z' H' fp') (p : fp'.Perm fp2) : Stp g Z H fp Z' H' fp2 :=
  ⟨s.ok.perm p, s.zz, s.keep, s.newZ, fun a h => s.newF a (p.mem_iff.mpr h)⟩
/-- some owned addresses are given up -/
theorem Stp.drop (s : Stp g Z H fp Z' H' (fp' ++ fr)) : Stp g Z H fp Z' H' fp' := ⟨s.ok.sub, s.zz, s.keep, s.newZ, fun a h => s.newF a (by simp [h])⟩
theorem Stp.dropL (s : Stp g Z H fp Z' H' (fr ++ fp')) : Stp g Z H fp Z' H' fp' := (s.permR List.perm_append_comm).drop
theorem Nt.back (a : Stp g Z H fp Z' H' fp') {c : Addr} (q : Nt H' c) : c ∈ fp ∨ Nt H c := by
  by_cases hc : c ∈ fp
  · exact .inl hc
  · refine .inr fun o e => ?_
    by_cases ht : ∃ ps, o = .tbl ps
    · exact ht
    · exact q o (a.keep c o e hc fun ps z => ht ⟨ps, z⟩)
theorem Stp.trans (a : Stp g Z H fp Z' H' fp') (b : Stp g Z' H' fp' Z2 H2 fp2) : Stp g Z H fp Z2 H2 fp2 where
  ok := b.ok
  zz := a.zz.trans b.zz
  keep := fun c o h1 h2 h3 => b.keep c o (a.keep c o h1 h2 h3) (fun z => by
    rcases a.newF c z with q | q
    · exact h2 q
    · obtain ⟨ps, e⟩ := q o h1
      exact h3 ps e) h3
  newZ := fun c o h => by
    rcases b.newZ c o h with q | q | q
    · exact a.newZ c o q
    · exact .inr (a.newF c q)
    · exact .inr (q.back a)
  newF := fun c h => by
    rcases b.newF c h with q | q
    · exact a.newF c q
    · exact q.back a
/-- what others own stays -/
theorem Stp.frame (s : Stp g Z H fp Z' H' fp') (o : Ok g Z H (fp ++ fr)) : Stp g Z H (fp ++ fr) Z' H' (fp' ++ fr) := by
  have dis : ∀ a ∈ fr, a ∉ fp := fun a h1 h2 => (List.nodup_append.mp o.nd).2.2 a h2 a h1 rfl
  have hf : ∀ a ∈ fr, ∃ u, H a = some u ∧ (∀ ps, u ≠ .tbl ps) ∧ H' a = some u := fun a h => by
    have q := o.hf a (by simp [h])
    cases e : H a with
    | none => exact absurd (Nt.none e) q
    | some u =>
      by_cases ht : ∃ ps, u = .tbl ps
      · exact absurd (fun o e' => by rw [e] at e'; cases e'; exact ht) q
      · have ht' : ∀ ps, u ≠ .tbl ps := fun ps z => ht ⟨ps, z⟩
        exact ⟨u, rfl, ht', s.keep a u e (dis a h) ht'⟩
  have nN : ∀ a ∈ fr, ¬ Nt H a := fun a h q => by
    obtain ⟨u, e, n, _⟩ := hf a h
    obtain ⟨ps, z⟩ := q u e
    exact n ps z
  refine ⟨⟨s.ok.zh, s.ok.nt, List.nodup_append.mpr ⟨s.ok.nd, (List.nodup_append.mp o.nd).2.1, fun a h1 b h2 e => ?_⟩, fun a h => ?_, fun a h => ?_, s.ok.tab⟩, s.zz, fun a u h1 h2 h3 => s.keep a u h1 (fun z => h2 (by simp [z])) h3, fun a u h => ?_, fun a h => ?_⟩
  · subst e
    rcases s.newF a h1 with q | q
    · exact dis a h2 q
    · exact nN a h2 q
  · rcases List.mem_append.mp h with h | h
    · exact s.ok.zf a h
    · cases e : Z' a with
      | none => rfl
      | some u =>
        rcases s.newZ a u e with q | q | q
        · rw [o.zf a (by simp [h])] at q; cases q
        · exact absurd q (dis a h)
        · exact absurd q (nN a h)
  · rcases List.mem_append.mp h with h | h
    · exact s.ok.hf a h
    · obtain ⟨u, _, n, e⟩ := hf a h
      intro q
      obtain ⟨ps, z⟩ := q u e
      exact n ps z
  · exact (s.newZ a u h).imp id fun z => z.imp (fun q => by simp [q]) id
  · rcases List.mem_append.mp h with h | h
    · exact (s.newF a h).imp (fun q => by simp [q]) id
    · exact .inl (by simp [h])
theorem Stp.frameL (s : Stp g Z H fp Z' H' fp') (o : Ok g Z H (fr ++ fp)) : Stp g Z H (fr ++ fp) Z' H' (fr ++ fp') :=
  ((s.frame (o.perm List.perm_append_comm)).permL List.perm_append_comm).permR List.perm_append_comm
theorem Stp.at (s : Stp g Z H fp Z' H' fp') (o : Ok g Z H (fp ++ fr)) : ∀ a ∈ fr, H' a = H a := fun a h => by
  have dis : a ∉ fp := fun h2 => (List.nodup_append.mp o.nd).2.2 a h2 a h rfl
  have q := o.hf a (by simp [h])
  cases e : H a with
  | none => exact absurd (Nt.none e) q
  | some u =>
    by_cases ht : ∃ ps, u = .tbl ps
    · exact absurd (fun o e' => by rw [e] at e'; cases e'; exact ht) q
    · exact s.keep a u e dis fun ps z => ht ⟨ps, z⟩
/-- what others own still stands for the same -/
theorem R.frame {d : D} {v : V} (h : R g Z H d v fr) (o : Ok g Z H (fp ++ fr)) (s : Stp g Z H fp Z' H' fp') : R g Z' H' d v fr := h.mono s.zz (s.at o)
theorem Rs.frame {d : List D} {v : List V} (h : Rs g Z H d v fr) (o : Ok g Z H (fp ++ fr)) (s : Stp g Z H fp Z' H' fp') : Rs g Z' H' d v fr := Rs.mono s.zz (s.at o) h

/-! ### single steps -/
theorem tabs_upd {p : Addr} {o : HO} (hn : H p = none) (t : LamX.Tabs g.T H) : LamX.Tabs g.T (upd H p o) := t.ext fun b u e => by
  rw [upd_ne (ne_of_none e hn)]
  exact e
/-- a new frozen object -/
theorem Stp.newZ_ {p : Addr} {o : HO} (k : Ok g Z H fp) (hn : H p = none) (ht : ∀ ps, o ≠ .tbl ps) : Stp g Z H fp (upd Z p o) (upd H p o) fp := by
  have zn : Z p = none := by
    cases e : Z p with
    | none => rfl
    | some u => rw [k.zh p u e] at hn; cases hn
  have zz : Sub Z (upd Z p o) := fun a u e => by rw [upd_ne (ne_of_none e zn)]; exact e
  have hh : Sub H (upd H p o) := fun a u e => by rw [upd_ne (ne_of_none e hn)]; exact e
  have np : ∀ a ∈ fp, a ≠ p := fun a h z => k.hf a h (by rw [z]; exact Nt.none hn)
  refine ⟨⟨fun a u e => ?_, fun a ps e => ?_, k.nd, fun a h => by rw [upd_ne (np a h)]; exact k.zf a h, fun a h => ?_, tabs_upd hn k.tab⟩, zz, fun a u e _ _ => hh a u e, fun a u e => ?_, fun a h => .inl h⟩
  · by_cases q : a = p
    · rw [q, upd_same] at e; rw [q, upd_same]; exact e
    · rw [upd_ne q] at e; exact hh a u (k.zh a u e)
  · by_cases q : a = p
    · rw [q, upd_same] at e; exact ht ps (Option.some.inj e)
    · rw [upd_ne q] at e; exact k.nt a ps e
  · intro z
    refine k.hf a h fun u e => z u ?_
    rw [upd_ne (np a h)]; exact e
  · by_cases q : a = p
    · rw [q]; exact .inr (.inr (Nt.none hn))
    · rw [upd_ne q] at e; exact .inl e
/-- a new owned object -/
theorem Stp.newO {p : Addr} {o : HO} (k : Ok g Z H fp) (hn : H p = none) (ht : ∀ ps, o ≠ .tbl ps) : Stp g Z H fp Z (upd H p o) (p :: fp) := by
  have zn : Z p = none := by
    cases e : Z p with
    | none => rfl
    | some u => rw [k.zh p u e] at hn; cases hn
  have hh : Sub H (upd H p o) := fun a u e => by rw [upd_ne (ne_of_none e hn)]; exact e
  have np : ∀ a ∈ fp, a ≠ p := fun a h z => k.hf a h (by rw [z]; exact Nt.none hn)
  refine ⟨⟨fun a u e => hh a u (k.zh a u e), k.nt, List.nodup_cons.mpr ⟨fun h => np p h rfl, k.nd⟩, fun a h => ?_, fun a h => ?_, tabs_upd hn k.tab⟩, Sub.refl _, fun a u e _ _ => hh a u e, fun a u e => .inl e, fun a h => ?_⟩
  · rcases List.mem_cons.mp h with q | q
    · rw [q]; exact zn
    · exact k.zf a q
  · rcases List.mem_cons.mp h with q | q
    · intro z
      obtain ⟨ps, e⟩ := z o (by rw [q, upd_same])
      exact ht ps e
    · intro z
      refine k.hf a q fun u e => z u ?_
      rw [upd_ne (np a q)]; exact e
  · rcases List.mem_cons.mp h with q | q
    · rw [q]; exact .inr (Nt.none hn)
    · exact .inl q
/-- an owned object is written -/
theorem Stp.write {p : Addr} {o u : HO} (k : Ok g Z H fp) (hp : p ∈ fp) (hu : H p = some u) (htu : ∀ ps, u ≠ .tbl ps) (ht : ∀ ps, o ≠ .tbl ps) (ho : ∀ c q, u ≠ LamX.CodeO c q) : Stp g Z H fp Z (upd H p o) fp := by
  have zp := k.zf p hp
  refine ⟨⟨fun a u e => ?_, k.nt, k.nd, k.zf, fun a h => ?_, fun x hx => ?_⟩, Sub.refl _, fun a u e n _ => ?_, fun a u e => .inl e, fun a h => .inl h⟩
  · rw [upd_ne (ne_of_none e zp)]; exact k.zh a u e
  · intro z
    by_cases q : a = p
    · obtain ⟨ps, e⟩ := z o (by rw [q, upd_same]); exact ht ps e
    · refine k.hf a h fun u e => z u ?_
      rw [upd_ne q]; exact e
  · obtain ⟨ps, h1, h2, h3⟩ := k.tab x hx
    have n1 : x.1 ≠ p := fun z => by rw [z, hu] at h1; cases h1; exact htu ps rfl
    refine ⟨ps, by rw [upd_ne n1]; exact h1, h2, fun pos cv hc => ?_⟩
    obtain ⟨c, e1, e2⟩ := h3 pos cv hc
    refine ⟨c, e1, ?_⟩
    rw [upd_ne (fun z => by rw [z, hu] at e2; exact ho _ _ (Option.some.inj e2))]
    exact e2
  · rw [upd_ne (fun z => n (by rw [z]; exact hp))]; exact e
/-- owned ones are frozen -/
theorem Stp.freeze {ff : List Addr} (k : Ok g Z H (ff ++ fp)) (hn : ∀ a ∈ ff, ∀ ps, H a ≠ some (.tbl ps)) : Stp g Z H (ff ++ fp) (fun a => if a ∈ ff then H a else Z a) H fp := by
  have dis : ∀ a ∈ fp, a ∉ ff := fun a h1 h2 => (List.nodup_append.mp k.nd).2.2 a h2 a h1 rfl
  refine ⟨⟨fun a u e => ?_, fun a ps e => ?_, (List.nodup_append.mp k.nd).2.1, fun a h => ?_, fun a h => k.hf a (by simp [h]), k.tab⟩, fun a u e => ?_, fun a u e _ _ => e, fun a u e => ?_, fun a h => .inl (by simp [h])⟩
  · by_cases q : a ∈ ff
    · rw [if_pos q] at e; exact e
    · rw [if_neg q] at e; exact k.zh a u e
  · by_cases q : a ∈ ff
    · rw [if_pos q] at e; exact hn a q ps e
    · rw [if_neg q] at e; exact k.nt a ps e
  · rw [if_neg (dis a h)]; exact k.zf a (by simp [h])
  · have : a ∉ ff := fun z => by rw [k.zf a (by simp [z])] at e; cases e
    show (if a ∈ ff then H a else Z a) = _
    rw [if_neg this]; exact e
  · by_cases q : a ∈ ff
    · exact .inr (.inl (by simp [q]))
    · have e' : (if a ∈ ff then H a else Z a) = some u := e
      rw [if_neg q] at e'; exact .inl e'
end
mutual
theorem R.notbl {g : G} {Z H : Hp} : ∀ {d : D} {v : V} {fp : List Addr}, R g Z H d v fp → ∀ a ∈ fp, ∀ ps, H a ≠ some (.tbl ps)
  | .non, _, _, h, a, ha, _ => by rw [h.2] at ha; cases ha
  | .bl _, _, _, h, a, ha, _ => by rw [h.2] at ha; cases ha
  | .int _, _, _, h, a, ha, _ => by rw [h.2] at ha; cases ha
  | .str _, _, _, h, a, ha, _ => by rw [h.2] at ha; cases ha
  | .fn _, _, _, h, a, ha, _ => by rw [h.2] at ha; cases ha
  | .tup ds, _, _, h, a, ha, _ => by rw [h.1] at ha; cases ha
  | .lst false ds, _, _, h, a, ha, _ => by rw [h.1] at ha; cases ha
  | .xls ds, _, _, h, a, ha, _ => by rw [h.1] at ha; cases ha
  | .lst true ds, v, fp, h, b, hb, ps => by
    obtain ⟨a, xs, fr, e1, e2, h1, h2⟩ := h
    rw [e2] at hb
    rcases List.mem_cons.mp hb with q | q
    · rw [q, h1]; intro z; cases z
    · exact Rs.notbl h2 b q ps
  | .ins false _ _ ds, _, _, h, a, ha, _ => by rw [h.1] at ha; cases ha
  | .ins true c ks ds, v, fp, h, b, hb, ps => by
    obtain ⟨a, C, dx, fs, fr, e1, hc, e2, h1, h2, h3, h4⟩ := h
    rw [e2] at hb
    rcases List.mem_cons.mp hb with q | q
    · rw [q, h1]; intro z; cases z
    · rcases List.mem_cons.mp q with q | q
      · rw [q, h2]; intro z; cases z
      · exact Rs.notbl h4 b q ps
  | .dic false _ ds, _, _, h, a, ha, _ => by rw [h.1] at ha; cases ha
  | .dic true ks ds, v, fp, h, b, hb, ps => by
    obtain ⟨a, kvs, fr, e1, e2, h1, h2, h3⟩ := h
    rw [e2] at hb
    rcases List.mem_cons.mp hb with q | q
    · rw [q, h1]; intro z; cases z
    · exact Rs.notbl h3 b q ps
  | .xdc _ ds, _, _, h, a, ha, _ => by rw [h.1] at ha; cases ha
theorem Rs.notbl {g : G} {Z H : Hp} : ∀ {ds : List D} {xs : List V} {fp : List Addr}, Rs g Z H ds xs fp → ∀ a ∈ fp, ∀ ps, H a ≠ some (.tbl ps)
  | [], _, _, h, a, ha, _ => by rw [h.2] at ha; cases ha
  | d :: ds, xs, fp, h, a, ha, ps => by
    obtain ⟨x, r, f1, f2, e1, e2, h1, h2⟩ := h
    rw [e2] at ha
    rcases List.mem_append.mp ha with q | q
    · exact R.notbl h1 a q ps
    · exact Rs.notbl h2 a q ps
end
/-- a value is frozen: a step, and what it then stands for -/
theorem R.toFz {g : G} {Z H : Hp} {d : D} {v : V} {ff fp : List Addr} (h : R g Z H d v ff) (k : Ok g Z H (ff ++ fp)) : ∃ Z', Stp g Z H (ff ++ fp) Z' H fp ∧ R g Z' H d.fz v [] := by
  refine ⟨_, Stp.freeze k (R.notbl h), R.freeze (Stp.freeze k (R.notbl h)).zz (fun a ha => if_pos ha) h⟩

/-! ### the slots -/
def RS (g : G) (Z H : Hp) : Option D → Option V → List Addr → Prop
  | none, _, f => f = []
  | some d, y, f => ∃ v, y = some v ∧ R g Z H d v f
def RE (g : G) (Z H : Hp) : List (Option D) → List (Option V) → List Addr → Prop
  | [], σ, fp => σ = [] ∧ fp = []
  | d :: ρ, σ, fp => ∃ y r f1 f2, σ = y :: r ∧ fp = f1 ++ f2 ∧ RS g Z H d y f1 ∧ RE g Z H ρ r f2
section
variable {g : G} {Z H Z' H' : Hp}
theorem RS.mono (zz : Sub Z Z') {d : Option D} {y : Option V} {f : List Addr} (k : ∀ a ∈ f, H' a = H a) (h : RS g Z H d y f) : RS g Z' H' d y f := by
  cases d with
  | none => exact h
  | some d =>
    obtain ⟨v, e, h⟩ := h
    exact ⟨v, e, h.mono zz k⟩
theorem RE.mono (zz : Sub Z Z') : ∀ {ρ : List (Option D)} {σ : List (Option V)} {fp : List Addr}, (∀ a ∈ fp, H' a = H a) → RE g Z H ρ σ fp → RE g Z' H' ρ σ fp
  | [], _, _, _, h => h
  | d :: ρ, σ, fp, k, h => by
    obtain ⟨y, r, f1, f2, e1, e2, h1, h2⟩ := h
    exact ⟨y, r, f1, f2, e1, e2, RS.mono zz (fun a ha => k a (by rw [e2]; simp [ha])) h1, RE.mono zz (fun a ha => k a (by rw [e2]; simp [ha])) h2⟩
theorem RE.frame {ρ : List (Option D)} {σ : List (Option V)} {fp fp' fr : List Addr} (h : RE g Z H ρ σ fr) (o : Ok g Z H (fp ++ fr)) (s : Stp g Z H fp Z' H' fp') : RE g Z' H' ρ σ fr := RE.mono s.zz (s.at o) h
theorem RE.len : ∀ {ρ : List (Option D)} {σ : List (Option V)} {fp : List Addr}, RE g Z H ρ σ fp → σ.length = ρ.length
  | [], _, _, h => by rw [h.1]; rfl
  | d :: ρ, σ, fp, h => by
    obtain ⟨y, r, f1, f2, e1, e2, h1, h2⟩ := h
    rw [e1, List.length_cons, List.length_cons, RE.len h2]
/-- one slot, and what it may be exchanged by -/
theorem RE.at : ∀ {ρ : List (Option D)} {σ : List (Option V)} {fp : List Addr} {i : Nat} {d : Option D}, RE g Z H ρ σ fp → ρ[i]? = some d →
    ∃ y f1 fi f2, σ[i]? = some y ∧ fp = f1 ++ fi ++ f2 ∧ RS g Z H d y fi ∧ ∀ (Z' H' : Hp) e w fw, Sub Z Z' → (∀ a ∈ f1 ++ f2, H' a = H a) → RS g Z' H' e w fw → RE g Z' H' (ρ.set i e) (σ.set i w) (f1 ++ fw ++ f2)
  | [], _, _, _, _, _, h => by simp at h
  | d :: ρ, σ, fp, 0, d', h, hd => by
    obtain ⟨y, r, f1, f2, e1, e2, h1, h2⟩ := h
    have : d = d' := by simpa using hd
    subst this
    refine ⟨y, [], f1, f2, by rw [e1]; rfl, by rw [e2]; rfl, h1, fun Z' H' e w fw zz k he => ?_⟩
    rw [e1]
    exact ⟨w, r, fw, f2, rfl, rfl, he, RE.mono zz (fun a ha => k a (by simp [ha])) h2⟩
  | d :: ρ, σ, fp, i + 1, d', h, hd => by
    obtain ⟨y, r, f1, f2, e1, e2, h1, h2⟩ := h
    obtain ⟨y', g1, gi, g2, a1, a2, a3, a4⟩ := RE.at (i := i) h2 (by simpa using hd)
    refine ⟨y', f1 ++ g1, gi, g2, by rw [e1]; simpa using a1, by rw [e2, a2]; simp [List.append_assoc], a3, fun Z' H' e w fw zz k he => ?_⟩
    rw [e1]
    refine ⟨y, r.set i w, f1, g1 ++ fw ++ g2, rfl, by simp [List.append_assoc], RS.mono zz (fun a ha => k a (by simp [ha])) h1, a4 Z' H' e w fw zz (fun a ha => k a ?_) he⟩
    rcases List.mem_append.mp ha with q | q
    · simp [q]
    · simp [q]
end
theorem upd_other {H : Hp} {p : Addr} {o : HO} {fr : List Addr} (h : p ∉ fr) : ∀ a ∈ fr, upd H p o a = H a := fun a ha => upd_ne fun z => h (by rw [← z]; exact ha)
end OP

/-! OB: the canonical readings of pure expressions (the slots stay, the heap grows) -/
namespace OP
open PySem PySem.Spec PyProof.Rows L2

abbrev Rho := List (Option D)
/-- what comes of a piece of syntax: a thing, or an own exception (its class, its fields) -/
inductive O (α : Type) where
  | ok (a : α)
  | exc (c : Str) (ks : List Str) (vs : List D)
def bnd {α β : Type} (m : Option (O α)) (k : α → Option (O β)) : Option (O β) :=
  match m with
  | some (.ok a) => k a
  | some (.exc c ks vs) => some (.exc c ks vs)
  | none => none
@[simp] theorem bnd_ok {α β : Type} (a : α) (k : α → Option (O β)) : bnd (some (.ok a)) k = k a := rfl
@[simp] theorem bnd_exc {α β : Type} (c ks vs) (k : α → Option (O β)) : bnd (some (.exc c ks vs)) k = some (.exc c ks vs) := rfl
@[simp] theorem bnd_none {α β : Type} (k : α → Option (O β)) : bnd none k = none := rfl
theorem bnd_some {α β : Type} {m : Option (O α)} {k : α → Option (O β)} {o : O β} (h : bnd m k = some o) :
    (∃ a, m = some (.ok a) ∧ k a = some o) ∨ ∃ c ks vs, m = some (.exc c ks vs) ∧ o = .exc c ks vs := by
  cases m with
  | none => cases h
  | some x =>
    cases x with
    | ok a => exact .inl ⟨a, rfl, h⟩
    | exc c ks vs => exact .inr ⟨c, ks, vs, rfl, (Option.some.inj h).symm⟩
def ret {α : Type} (o : Option α) : Option (O α) := o.map O.ok
@[simp] theorem ret_some {α : Type} (a : α) : ret (some a) = some (.ok a) := rfl
@[simp] theorem ret_none {α : Type} : ret (none : Option α) = none := rfl
theorem ret_eq {α : Type} {o : Option α} {x : O α} (h : ret o = some x) : ∃ a, o = some a ∧ x = .ok a := by
  cases o with
  | none => cases h
  | some a => exact ⟨a, rfl, (Option.some.inj h).symm⟩

abbrev gx (X : Cx) (T : List (Addr × Str)) : G := ⟨X.K, X.mg, T, X.w⟩

/-- the heap grows: nothing owned is touched -/
abbrev Grw (g : G) (Z H Z' H' : Hp) : Prop := Stp g Z H [] Z' H' []
mutual
theorem R.there {g : G} {Z H : Hp} : ∀ {d : D} {v : V} {fp : List Addr}, R g Z H d v fp → ∀ a ∈ fp, ∃ o, H a = some o
  | .non, _, _, h, a, ha => by rw [h.2] at ha; cases ha
  | .bl _, _, _, h, a, ha => by rw [h.2] at ha; cases ha
  | .int _, _, _, h, a, ha => by rw [h.2] at ha; cases ha
  | .str _, _, _, h, a, ha => by rw [h.2] at ha; cases ha
  | .fn _, _, _, h, a, ha => by rw [h.2] at ha; cases ha
  | .tup ds, _, _, h, a, ha => by rw [h.1] at ha; cases ha
  | .lst false ds, _, _, h, a, ha => by rw [h.1] at ha; cases ha
  | .xls ds, _, _, h, a, ha => by rw [h.1] at ha; cases ha
  | .lst true ds, v, fp, h, b, hb => by
    obtain ⟨a, xs, fr, e1, e2, h1, h2⟩ := h
    rw [e2] at hb
    rcases List.mem_cons.mp hb with q | q
    · rw [q]; exact ⟨_, h1⟩
    · exact Rs.there h2 b q
  | .ins false _ _ ds, _, _, h, a, ha => by rw [h.1] at ha; cases ha
  | .ins true c ks ds, v, fp, h, b, hb => by
    obtain ⟨a, C, dx, fs, fr, e1, hc, e2, h1, h2, h3, h4⟩ := h
    rw [e2] at hb
    rcases List.mem_cons.mp hb with q | q
    · rw [q]; exact ⟨_, h1⟩
    · rcases List.mem_cons.mp q with q | q
      · rw [q]; exact ⟨_, h2⟩
      · exact Rs.there h4 b q
  | .dic false _ ds, _, _, h, a, ha => by rw [h.1] at ha; cases ha
  | .dic true ks ds, v, fp, h, b, hb => by
    obtain ⟨a, kvs, fr, e1, e2, h1, h2, h3⟩ := h
    rw [e2] at hb
    rcases List.mem_cons.mp hb with q | q
    · rw [q]; exact ⟨_, h1⟩
    · exact Rs.there h3 b q
  | .xdc _ ds, _, _, h, a, ha => by rw [h.1] at ha; cases ha
theorem Rs.there {g : G} {Z H : Hp} : ∀ {ds : List D} {xs : List V} {fp : List Addr}, Rs g Z H ds xs fp → ∀ a ∈ fp, ∃ o, H a = some o
  | [], _, _, h, a, ha => by rw [h.2] at ha; cases ha
  | d :: ds, xs, fp, h, a, ha => by
    obtain ⟨x, r, f1, f2, e1, e2, h1, h2⟩ := h
    rw [e2] at ha
    rcases List.mem_append.mp ha with q | q
    · exact R.there h1 a q
    · exact Rs.there h2 a q
end
theorem RE.there {g : G} {Z H : Hp} : ∀ {ρ : Rho} {σ : L2.St} {fp : List Addr}, RE g Z H ρ σ fp → ∀ a ∈ fp, ∃ o, H a = some o
  | [], _, _, h, a, ha => by rw [h.2] at ha; cases ha
  | d :: ρ, σ, fp, h, a, ha => by
    obtain ⟨y, r, f1, f2, e1, e2, h1, h2⟩ := h
    rw [e2] at ha
    rcases List.mem_append.mp ha with q | q
    · cases d with
      | none => rw [show f1 = [] from h1] at q; cases q
      | some d => obtain ⟨v, _, h1⟩ := h1; exact h1.there a q
    · exact RE.there h2 a q
section
variable {g : G} {Z H Z' H' Z2 H2 : Hp} {fp : List Addr}
theorem Grw.refl (k : Ok g Z H fp) : Grw g Z H Z H := Stp.refl k.none
theorem Grw.trans (a : Grw g Z H Z' H') (b : Grw g Z' H' Z2 H2) : Grw g Z H Z2 H2 := Stp.trans a b
theorem Grw.stp (a : Grw g Z H Z' H') (k : Ok g Z H fp) : Stp g Z H fp Z' H' fp := Stp.frame (fr := fp) a k
theorem Grw.ok (a : Grw g Z H Z' H') (k : Ok g Z H fp) : Ok g Z' H' fp := (Grw.stp a k).ok
theorem Grw.at (a : Grw g Z H Z' H') (t : ∀ a ∈ fp, ∃ o, H a = some o) (n : ∀ a ∈ fp, ∀ ps, H a ≠ some (.tbl ps)) : ∀ a ∈ fp, H' a = H a := fun c hc => by
  obtain ⟨o, e⟩ := t c hc
  rw [e]
  exact a.keep c o e (by simp) fun ps z => n c hc ps (by rw [e, z])
theorem R.grow {d : D} {v : V} (h : R g Z H d v fp) (a : Grw g Z H Z' H') : R g Z' H' d v fp := h.mono a.zz (Grw.at a h.there h.notbl)
theorem Rs.grow {d : List D} {v : List V} (h : Rs g Z H d v fp) (a : Grw g Z H Z' H') : Rs g Z' H' d v fp := Rs.mono a.zz (Grw.at a h.there h.notbl) h
theorem RE.notbl {g : G} {Z H : Hp} : ∀ {ρ : Rho} {σ : L2.St} {fp : List Addr}, RE g Z H ρ σ fp → ∀ a ∈ fp, ∀ ps, H a ≠ some (.tbl ps)
  | [], _, _, h, a, ha, _ => by rw [h.2] at ha; cases ha
  | d :: ρ, σ, fp, h, a, ha, ps => by
    obtain ⟨y, r, f1, f2, e1, e2, h1, h2⟩ := h
    rw [e2] at ha
    rcases List.mem_append.mp ha with q | q
    · cases d with
      | none => rw [show f1 = [] from h1] at q; cases q
      | some d => obtain ⟨v, _, h1⟩ := h1; exact h1.notbl a q ps
    · exact RE.notbl h2 a q ps
theorem RE.grow {ρ : Rho} {σ : L2.St} (h : RE g Z H ρ σ fp) (a : Grw g Z H Z' H') : RE g Z' H' ρ σ fp := RE.mono a.zz (Grw.at a h.there h.notbl) h
/-- a new frozen object -/
theorem Grw.new {p : Addr} {o : HO} (k : Ok g Z H fp) (hn : H p = none) (ht : ∀ ps, o ≠ .tbl ps) : Grw g Z H (upd Z p o) (upd H p o) := Stp.newZ_ k.none hn ht
end

/-- what an own exception is -/
def XRp (g : G) (Z H : Hp) (c : Str) (ks : List Str) (vs : List D) (cls : Value) (dx : Option Addr) : Prop :=
  ∃ C, g.mg c = some (.ref C) ∧ cls = .ref C ∧ match dx with
    | none => ks = [] ∧ vs = []
    | some x => ∃ fs, H x = some (.xd fs) ∧ fs.map (·.1) = ks ∧ Rs g Z H vs (fs.map (·.2)) []

/-- some borrowed value -/
def B (g : G) (Z H : Hp) (d : D) (v : V) : Prop := ∃ fq, R g Z H d v fq
theorem B.grow {g : G} {Z H Z' H' : Hp} {d : D} {v : V} (h : B g Z H d v) (a : Grw g Z H Z' H') : B g Z' H' d v := let ⟨fq, r⟩ := h; ⟨fq, r.grow a⟩
theorem B.frz {g : G} {Z H : Hp} {d : D} {v : V} (h : B g Z H d v) (f : d.frz = true) : R g Z H d v [] := by
  obtain ⟨fq, r⟩ := h
  have := r.frz f
  rw [this] at r
  exact r
abbrev Bs (g : G) (Z H : Hp) (ds : List D) (vs : List V) : Prop := Paired (B g Z H) ds vs
theorem Bs.grow {g : G} {Z H Z' H' : Hp} {ds : List D} {vs : List V} (h : Bs g Z H ds vs) (a : Grw g Z H Z' H') : Bs g Z' H' ds vs := Paired.mapP h fun _ _ r => r.grow a

section
variable {g : G} {W : WX}
def PostP (g : G) (W : WX) (σ : L2.St) (Z H : Hp) (o : O D) (Q : VK) : Prop := match o with
  | .ok d => ∀ v Z' H', Grw g Z H Z' H' → B g Z' H' d v → Q v H'
  | .exc c ks vs => ∀ cls dx Z' H', Grw g Z H Z' H' → XRp g Z' H' c ks vs cls dx → W cls dx σ H'
/-- the canonical reading of a pure expression -/
def cP (g : G) (W : WX) (m : Rho → Option (O D)) : TE := fun σ H Q => ∃ Z ρ fp o, m ρ = some o ∧ Ok g Z H fp ∧ RE g Z H ρ σ fp ∧ PostP g W σ Z H o Q
def PostPT (g : G) (W : WX) (σ : L2.St) (Z H : Hp) (o : O Bool) (Q : Bool → Hp → Prop) : Prop := match o with
  | .ok b => ∀ Z' H', Grw g Z H Z' H' → Q b H'
  | .exc c ks vs => ∀ cls dx Z' H', Grw g Z H Z' H' → XRp g Z' H' c ks vs cls dx → W cls dx σ H'
/-- of a pure test -/
def cPT (g : G) (W : WX) (m : Rho → Option (O Bool)) : TT := fun σ H Q => ∃ Z ρ fp o, m ρ = some o ∧ Ok g Z H fp ∧ RE g Z H ρ σ fp ∧ PostPT g W σ Z H o Q
def PostPA (g : G) (W : WX) (σ : L2.St) (Z H : Hp) (o : O (List D)) (Q : List V → Hp → Prop) : Prop := match o with
  | .ok ds => ∀ vs Z' H', Grw g Z H Z' H' → Bs g Z' H' ds vs → Q vs H'
  | .exc c ks vs => ∀ cls dx Z' H', Grw g Z H Z' H' → XRp g Z' H' c ks vs cls dx → W cls dx σ H'
/-- of pure arguments -/
def cPA (g : G) (W : WX) (m : Rho → Option (O (List D))) : TA := fun σ H Q => ∃ Z ρ fp o, m ρ = some o ∧ Ok g Z H fp ∧ RE g Z H ρ σ fp ∧ PostPA g W σ Z H o Q
end
theorem _root_.L2.PE.imp {X : Cx} {e : Expr} {t t' : TE} (h : PE X e t) (i : ∀ σ H Q, t' σ H Q → t σ H Q) : PE X e t' := ⟨fun pins s σ H Q I q => h.run pins s σ H Q I (i σ H Q q)⟩
theorem _root_.L2.PT.imp {X : Cx} {e : Expr} {t t' : TT} (h : PT X e t) (i : ∀ σ H Q, t' σ H Q → t σ H Q) : PT X e t' := ⟨fun pins s σ H Q I q => h.run pins s σ H Q I (i σ H Q q)⟩
theorem _root_.L2.PW.imp {X : Cx} {e : Expr} {t t' : TT} (h : PW X e t) (i : ∀ σ H Q, t' σ H Q → t σ H Q) : PW X e t' := ⟨fun w pins s σ H Q I q => h.run w pins s σ H Q I (i σ H Q q)⟩
theorem _root_.L2.PA.imp {X : Cx} {e : List Expr} {t t' : TA} (h : PA X e t) (i : ∀ σ H Q, t' σ H Q → t σ H Q) : PA X e t' := ⟨fun pos pins s σ H Q I q => h.run pos pins s σ H Q I (i σ H Q q)⟩
theorem _root_.L2.PS.imp {X : Cx} {e : Stmt} {t t' : TS} (h : PS X e t) (i : ∀ D σ H, t' D σ H → t D σ H) : PS X e t' := ⟨fun pins s σ H D I q => h.run pins s σ H D I (i D σ H q)⟩
theorem _root_.L2.PSs.imp {X : Cx} {e : List Stmt} {t t' : TS} (h : PSs X e t) (i : ∀ D σ H, t' D σ H → t D σ H) : PSs X e t' := ⟨fun pins s σ H D I q => h.run pins s σ H D I (i D σ H q)⟩

/-! ### the ways on: a pure piece, then what is behind it -/
section
variable {g : G} {W : WX} {σ : L2.St} {Z H : Hp} {ρ : Rho} {fp : List Addr}
/-- a pure piece is gone through: it is ok, and the rest is shown; or its exception is the whole's -/
theorem cP.go {m : Rho → Option (O D)} {β : Type} {k : D → Option (O β)} {o : O β} {Q : VK} (h : bnd (m ρ) k = some o) (ok : Ok g Z H fp) (re : RE g Z H ρ σ fp)
    (hx : ∀ c ks vs, o = .exc c ks vs → ∀ cls dx Z' H', Grw g Z H Z' H' → XRp g Z' H' c ks vs cls dx → W cls dx σ H')
    (hk : ∀ d v Z' H', k d = some o → Grw g Z H Z' H' → Ok g Z' H' fp → RE g Z' H' ρ σ fp → B g Z' H' d v → Q v H') : cP g W m σ H Q := by
  rcases bnd_some h with ⟨a, e, hka⟩ | ⟨c, ks, vs, e, eo⟩
  · exact ⟨Z, ρ, fp, _, e, ok, re, fun v Z' H' gr b => hk a v Z' H' hka gr (Grw.ok gr ok) (re.grow gr) b⟩
  · exact ⟨Z, ρ, fp, _, e, ok, re, fun cls dx Z' H' gr x => hx c ks vs eo cls dx Z' H' gr x⟩
theorem cPT.go {m : Rho → Option (O Bool)} {β : Type} {k : Bool → Option (O β)} {o : O β} {Q : Bool → Hp → Prop} (h : bnd (m ρ) k = some o) (ok : Ok g Z H fp) (re : RE g Z H ρ σ fp)
    (hx : ∀ c ks vs, o = .exc c ks vs → ∀ cls dx Z' H', Grw g Z H Z' H' → XRp g Z' H' c ks vs cls dx → W cls dx σ H')
    (hk : ∀ d Z' H', k d = some o → Grw g Z H Z' H' → Ok g Z' H' fp → RE g Z' H' ρ σ fp → Q d H') : cPT g W m σ H Q := by
  rcases bnd_some h with ⟨a, e, hka⟩ | ⟨c, ks, vs, e, eo⟩
  · exact ⟨Z, ρ, fp, _, e, ok, re, fun Z' H' gr => hk a Z' H' hka gr (Grw.ok gr ok) (re.grow gr)⟩
  · exact ⟨Z, ρ, fp, _, e, ok, re, fun cls dx Z' H' gr x => hx c ks vs eo cls dx Z' H' gr x⟩
theorem cPA.go {m : Rho → Option (O (List D))} {β : Type} {k : List D → Option (O β)} {o : O β} {Q : List V → Hp → Prop} (h : bnd (m ρ) k = some o) (ok : Ok g Z H fp) (re : RE g Z H ρ σ fp)
    (hx : ∀ c ks vs, o = .exc c ks vs → ∀ cls dx Z' H', Grw g Z H Z' H' → XRp g Z' H' c ks vs cls dx → W cls dx σ H')
    (hk : ∀ d v Z' H', k d = some o → Grw g Z H Z' H' → Ok g Z' H' fp → RE g Z' H' ρ σ fp → Bs g Z' H' d v → Q v H') : cPA g W m σ H Q := by
  rcases bnd_some h with ⟨a, e, hka⟩ | ⟨c, ks, vs, e, eo⟩
  · exact ⟨Z, ρ, fp, _, e, ok, re, fun v Z' H' gr b => hk a v Z' H' hka gr (Grw.ok gr ok) (re.grow gr) b⟩
  · exact ⟨Z, ρ, fp, _, e, ok, re, fun cls dx Z' H' gr x => hx c ks vs eo cls dx Z' H' gr x⟩
/-- the exceptions of what is posted, seen from a grown heap -/
theorem PostP.x {o : O D} {Q : VK} (h : PostP g W σ Z H o Q) : ∀ c ks vs, o = .exc c ks vs → ∀ cls dx Z' H', Grw g Z H Z' H' → XRp g Z' H' c ks vs cls dx → W cls dx σ H' := fun c ks vs e => by
  subst e; exact h
theorem PostP.mono {o : O D} {Q : VK} {Z' H' : Hp} (h : PostP g W σ Z H o Q) (gr : Grw g Z H Z' H') : PostP g W σ Z' H' o Q := by
  cases o with
  | ok d => exact fun v Z2 H2 g2 b => h v Z2 H2 (gr.trans g2) b
  | exc c ks vs => exact fun cls dx Z2 H2 g2 b => h cls dx Z2 H2 (gr.trans g2) b
theorem PostPT.x {o : O Bool} {Q : Bool → Hp → Prop} (h : PostPT g W σ Z H o Q) : ∀ c ks vs, o = .exc c ks vs → ∀ cls dx Z' H', Grw g Z H Z' H' → XRp g Z' H' c ks vs cls dx → W cls dx σ H' := fun c ks vs e => by
  subst e; exact h
theorem PostPT.mono {o : O Bool} {Q : Bool → Hp → Prop} {Z' H' : Hp} (h : PostPT g W σ Z H o Q) (gr : Grw g Z H Z' H') : PostPT g W σ Z' H' o Q := by
  cases o with
  | ok d => exact fun Z2 H2 g2 => h Z2 H2 (gr.trans g2)
  | exc c ks vs => exact fun cls dx Z2 H2 g2 b => h cls dx Z2 H2 (gr.trans g2) b
theorem PostPA.x {o : O (List D)} {Q : List V → Hp → Prop} (h : PostPA g W σ Z H o Q) : ∀ c ks vs, o = .exc c ks vs → ∀ cls dx Z' H', Grw g Z H Z' H' → XRp g Z' H' c ks vs cls dx → W cls dx σ H' := fun c ks vs e => by
  subst e; exact h
theorem PostPA.mono {o : O (List D)} {Q : List V → Hp → Prop} {Z' H' : Hp} (h : PostPA g W σ Z H o Q) (gr : Grw g Z H Z' H') : PostPA g W σ Z' H' o Q := by
  cases o with
  | ok d => exact fun v Z2 H2 g2 b => h v Z2 H2 (gr.trans g2) b
  | exc c ks vs => exact fun cls dx Z2 H2 g2 b => h cls dx Z2 H2 (gr.trans g2) b
end

/-! ### names and written things -/
section
variable {X : Cx} {T : List (Addr × Str)} {W : WX} {e a b : Expr} {pos : Pos}
def mVar (i : Nat) : Rho → Option (O D) := fun ρ => ret ((ρ[i]?).join)
theorem cp_var {i : Nat} (h : PE X e (tVar i)) : PE X e (cP (gx X T) W (mVar i)) := h.imp fun σ H Q ⟨Z, ρ, fp, o, hm, ok, re, q⟩ => by
  obtain ⟨d, hd, rfl⟩ := ret_eq hm
  have hd' : ρ[i]? = some (some d) := by
    cases e : ρ[i]? with
    | none => rw [e] at hd; cases hd
    | some y => rw [e] at hd; rw [show y = some d from hd]
  obtain ⟨y, f1, fi, f2, h1, h2, ⟨v, e1, r⟩, _⟩ := re.at hd'
  exact ⟨v, by rw [h1, e1], q v Z H (Grw.refl ok) ⟨fi, r⟩⟩
def mC (d : D) : Rho → Option (O D) := fun _ => some (.ok d)
theorem cp_lit {v : V} {d : D} (h : PE X e (tC v)) (hR : ∀ Z H, R (gx X T) Z H d v []) : PE X e (cP (gx X T) W (mC d)) := h.imp fun σ H Q ⟨Z, ρ, fp, o, hm, ok, re, q⟩ => by
  cases Option.some.inj hm
  exact q v Z H (Grw.refl ok) ⟨[], hR Z H⟩
theorem cp_int {i : Int} (h : PE X e (tC (.int i)) := by exact pe_int) : PE X e (cP (gx X T) W (mC (.int i))) := cp_lit h fun _ _ => ⟨rfl, rfl⟩
theorem cp_str {x : Str} (h : PE X e (tC (.str x)) := by exact pe_str) (hx : x.length ≤ 16777216 := by decide +kernel) : PE X e (cP (gx X T) W (mC (.str x))) := cp_lit h fun _ _ => ⟨⟨rfl, hx⟩, rfl⟩
theorem cp_bl {x : Bool} (h : PE X e (tC (.bl x)) := by exact pe_bl) : PE X e (cP (gx X T) W (mC (.bl x))) := cp_lit h fun _ _ => ⟨rfl, rfl⟩
theorem cp_non (h : PE X e (tC .non) := by exact pe_non) : PE X e (cP (gx X T) W (mC .non)) := cp_lit h fun _ _ => ⟨rfl, rfl⟩

/-! ### two-place operations -/
/-- a rule by values does what f says -/
def PR2 (g : G) (r : R2) (f : D → D → Option D) : Prop := ∀ Z H d e v w z, Ok g Z H [] → B g Z H d v → B g Z H e w → f d e = some z →
  ∀ Q : VK, (∀ u Z' H', Grw g Z H Z' H' → B g Z' H' z u → Q u H') → r v w H Q
def m2 (f : D → D → Option D) (ma mb : Rho → Option (O D)) : Rho → Option (O D) := fun ρ => bnd (ma ρ) fun x => bnd (mb ρ) fun y => ret (f x y)
theorem c2 {r : R2} {f : D → D → Option D} {ma mb : Rho → Option (O D)} {σ : L2.St} {H : Hp} {Q : VK} (hr : PR2 (gx X T) r f) (h : cP (gx X T) W (m2 f ma mb) σ H Q) : tOp r (cP (gx X T) W ma) (cP (gx X T) W mb) σ H Q := by
  obtain ⟨Z, ρ, fp, o, hm, ok, re, q⟩ := h
  refine cP.go hm ok re q.x fun x v Z1 H1 hm1 g1 ok1 re1 b1 => ?_
  refine cP.go hm1 ok1 re1 (q.mono g1).x fun y w Z2 H2 hm2 g2 ok2 re2 b2 => ?_
  obtain ⟨z, hz, rfl⟩ := ret_eq hm2
  exact hr Z2 H2 x y v w z ok2.none (b1.grow g2) b2 hz Q fun u Z3 H3 g3 b3 => q u Z3 H3 (g1.trans (g2.trans g3)) b3
theorem cp_bin {op : Operator} {r : R2} {f : D → D → Option D} {ma mb : Rho → Option (O D)} (ho : OpR X (binaryOp op) r) (hr : PR2 (gx X T) r f) (ha : PE X a (cP (gx X T) W ma)) (hb : PE X b (cP (gx X T) W mb)) : PE X (.BinOp a op b pos) (cP (gx X T) W (m2 f ma mb)) :=
  (pe_op ho ha hb).imp fun _ _ _ h => c2 hr h
theorem cp_cmp {op : CmpOp} {r : R2} {f : D → D → Option D} {ma mb : Rho → Option (O D)} (ho : OpR X (compareOp op) r) (hr : PR2 (gx X T) r f) (ha : PE X a (cP (gx X T) W ma)) (hb : PE X b (cP (gx X T) W mb)) (hm : behindInMarks op b = false) :
    PE X (.Compare a [op] [b] pos) (cP (gx X T) W (m2 f ma mb)) := (pe_cmpR ho ha hb hm).imp fun _ _ _ h => c2 hr h
/-- a value as a test -/
def asB : D → Option Bool
  | .bl b => some b
  | _ => none
@[simp] theorem asB_bl (b : Bool) : asB (.bl b) = some b := rfl
def mT (m : Rho → Option (O D)) : Rho → Option (O Bool) := fun ρ => bnd (m ρ) fun d => ret (asB d)
theorem asB_eq {d : D} {b : Bool} (h : asB d = some b) : d = .bl b := by
  cases d <;> simp [asB] at h
  rw [h]
theorem cT {m : Rho → Option (O D)} {σ : L2.St} {H : Hp} {Q : Bool → Hp → Prop} (h : cPT (gx X T) W (mT m) σ H Q) : cP (gx X T) W m σ H fun x H' => ∃ k, x = .bl k ∧ Q k H' := by
  obtain ⟨Z, ρ, fp, o, hm, ok, re, q⟩ := h
  refine cP.go hm ok re q.x fun x v Z1 H1 hm1 g1 ok1 re1 ⟨fq, r⟩ => ?_
  obtain ⟨z, hz, rfl⟩ := ret_eq hm1
  rw [asB_eq hz] at r
  exact ⟨z, r.1, q Z1 H1 g1⟩
theorem cpt_cmp {op : CmpOp} {r : R2} {f : D → D → Option D} {ma mb : Rho → Option (O D)} (ho : OpR X (compareOp op) r) (hr : PR2 (gx X T) r f) (ha : PE X a (cP (gx X T) W ma)) (hb : PE X b (cP (gx X T) W mb)) (hm : behindInMarks op b = false) :
    PT X (.Compare a [op] [b] pos) (cPT (gx X T) W (mT (m2 f ma mb))) := (pt_cmpR ho ha hb hm).imp fun σ H Q h => by
  obtain ⟨Z, ρ, fp, o, hm, ok, re, q⟩ := cT h
  exact c2 hr ⟨Z, ρ, fp, o, hm, ok, re, q⟩
theorem cpt_val {m : Rho → Option (O D)} (h : PE X e (cP (gx X T) W m)) (he : ∀ whole, isTrue e X.env whole = (do let v ← whole; standAt e.pos; holding [v] (truthy v)) := by intro _; rfl) : PT X e (cPT (gx X T) W (mT m)) :=
  (pt_val h he).imp fun σ H Q h => cT h

/-! ### and, or, not, if -/
variable {rest : List Expr}
def mAndT (ma mb : Rho → Option (O Bool)) : Rho → Option (O Bool) := fun ρ => bnd (ma ρ) fun x => if x = true then mb ρ else some (.ok false)
def mOrT (ma mb : Rho → Option (O Bool)) : Rho → Option (O Bool) := fun ρ => bnd (ma ρ) fun x => if x = true then some (.ok true) else mb ρ
def mNotT (ma : Rho → Option (O Bool)) : Rho → Option (O Bool) := fun ρ => bnd (ma ρ) fun x => some (.ok (!x))
theorem cpt_and {ma mb : Rho → Option (O Bool)} (ha : PT X a (cPT (gx X T) W ma)) (hb : PW X (.BoolOp .And (b :: rest) pos) (cPT (gx X T) W mb)) : PW X (.BoolOp .And (a :: b :: rest) pos) (cPT (gx X T) W (mAndT ma mb)) :=
  (pw_and ha hb).imp fun σ H Q ⟨Z, ρ, fp, o, hm, ok, re, q⟩ => by
    refine cPT.go hm ok re q.x fun x Z1 H1 hm1 g1 ok1 re1 => ?_
    cases x with
    | true => exact ⟨Z1, ρ, fp, o, hm1, ok1, re1, q.mono g1⟩
    | false => cases Option.some.inj hm1; exact q Z1 H1 g1
theorem cpt_or {ma mb : Rho → Option (O Bool)} (ha : PT X a (cPT (gx X T) W ma)) (hb : PW X (.BoolOp .Or (b :: rest) pos) (cPT (gx X T) W mb)) : PW X (.BoolOp .Or (a :: b :: rest) pos) (cPT (gx X T) W (mOrT ma mb)) :=
  (pw_or ha hb).imp fun σ H Q ⟨Z, ρ, fp, o, hm, ok, re, q⟩ => by
    refine cPT.go hm ok re q.x fun x Z1 H1 hm1 g1 ok1 re1 => ?_
    cases x with
    | false => exact ⟨Z1, ρ, fp, o, hm1, ok1, re1, q.mono g1⟩
    | true => cases Option.some.inj hm1; exact q Z1 H1 g1
theorem cpt_not {ma : Rho → Option (O Bool)} (ha : PT X a (cPT (gx X T) W ma)) : PT X (.UnaryOp .Not a pos) (cPT (gx X T) W (mNotT ma)) :=
  (pt_not ha).imp fun σ H Q ⟨Z, ρ, fp, o, hm, ok, re, q⟩ => by
    refine cPT.go hm ok re q.x fun x Z1 H1 hm1 g1 ok1 re1 => ?_
    cases Option.some.inj hm1; exact q Z1 H1 g1
/-- as values: the ones ahead are truths -/
def mAnd (ma mb : Rho → Option (O D)) : Rho → Option (O D) := fun ρ => bnd (ma ρ) fun x => bnd (ret (asB x)) fun c => if c = true then mb ρ else some (.ok (.bl false))
def mOr (ma mb : Rho → Option (O D)) : Rho → Option (O D) := fun ρ => bnd (ma ρ) fun x => bnd (ret (asB x)) fun c => if c = true then some (.ok (.bl true)) else mb ρ
def mNot (ma : Rho → Option (O D)) : Rho → Option (O D) := fun ρ => bnd (ma ρ) fun x => bnd (ret (asB x)) fun c => some (.ok (.bl (!c)))
theorem B.bl {g : G} {Z H : Hp} {b : Bool} : B g Z H (.bl b) (.bl b) := ⟨[], rfl, rfl⟩
theorem B.int {g : G} {Z H : Hp} {b : Int} : B g Z H (.int b) (.int b) := ⟨[], rfl, rfl⟩
theorem B.str {g : G} {Z H : Hp} {b : Str} (h : b.length ≤ 16777216) : B g Z H (.str b) (.str b) := ⟨[], ⟨rfl, h⟩, rfl⟩
theorem B.non {g : G} {Z H : Hp} : B g Z H .non .non := ⟨[], rfl, rfl⟩
theorem cp_and {ma mb : Rho → Option (O D)} (ha : PE X a (cP (gx X T) W ma)) (hb : PE X (.BoolOp .And (b :: rest) pos) (cP (gx X T) W mb)) : PE X (.BoolOp .And (a :: b :: rest) pos) (cP (gx X T) W (mAnd ma mb)) :=
  (pe_and ha hb).imp fun σ H Q ⟨Z, ρ, fp, o, hm, ok, re, q⟩ => by
    refine cP.go hm ok re q.x fun x v Z1 H1 hm1 g1 ok1 re1 ⟨fq, r⟩ => ?_
    rcases bnd_some hm1 with ⟨c, e, hm2⟩ | ⟨c, ks, vs, e, _⟩
    · obtain ⟨c', hc, e2⟩ := ret_eq e
      cases e2
      rw [asB_eq hc] at r
      refine ⟨c, r.1, ?_⟩
      cases c with
      | true => exact ⟨Z1, ρ, fp, o, hm2, ok1, re1, q.mono g1⟩
      | false => cases Option.some.inj hm2; exact q _ Z1 H1 g1 B.bl
    · obtain ⟨_, _, e2⟩ := ret_eq e
      cases e2
theorem cp_or {ma mb : Rho → Option (O D)} (ha : PE X a (cP (gx X T) W ma)) (hb : PE X (.BoolOp .Or (b :: rest) pos) (cP (gx X T) W mb)) : PE X (.BoolOp .Or (a :: b :: rest) pos) (cP (gx X T) W (mOr ma mb)) :=
  (pe_or ha hb).imp fun σ H Q ⟨Z, ρ, fp, o, hm, ok, re, q⟩ => by
    refine cP.go hm ok re q.x fun x v Z1 H1 hm1 g1 ok1 re1 ⟨fq, r⟩ => ?_
    rcases bnd_some hm1 with ⟨c, e, hm2⟩ | ⟨c, ks, vs, e, _⟩
    · obtain ⟨c', hc, e2⟩ := ret_eq e
      cases e2
      rw [asB_eq hc] at r
      refine ⟨c, r.1, ?_⟩
      cases c with
      | false => exact ⟨Z1, ρ, fp, o, hm2, ok1, re1, q.mono g1⟩
      | true => cases Option.some.inj hm2; exact q _ Z1 H1 g1 B.bl
    · obtain ⟨_, _, e2⟩ := ret_eq e
      cases e2
theorem cp_not {ma : Rho → Option (O D)} (ha : PE X a (cP (gx X T) W ma)) : PE X (.UnaryOp .Not a pos) (cP (gx X T) W (mNot ma)) :=
  (pe_not ha).imp fun σ H Q ⟨Z, ρ, fp, o, hm, ok, re, q⟩ => by
    refine cP.go hm ok re q.x fun x v Z1 H1 hm1 g1 ok1 re1 ⟨fq, r⟩ => ?_
    rcases bnd_some hm1 with ⟨c, e, hm2⟩ | ⟨c, ks, vs, e, _⟩
    · obtain ⟨c', hc, e2⟩ := ret_eq e
      cases e2
      rw [asB_eq hc] at r
      refine ⟨c, r.1, ?_⟩
      cases Option.some.inj hm2; exact q _ Z1 H1 g1 B.bl
    · obtain ⟨_, _, e2⟩ := ret_eq e
      cases e2
def mIf (mc : Rho → Option (O Bool)) (ma mb : Rho → Option (O D)) : Rho → Option (O D) := fun ρ => bnd (mc ρ) fun x => if x = true then ma ρ else mb ρ
theorem cp_if {c : Expr} {mc : Rho → Option (O Bool)} {ma mb : Rho → Option (O D)} (hc : PT X c (cPT (gx X T) W mc)) (ha : PE X a (cP (gx X T) W ma)) (hb : PE X b (cP (gx X T) W mb)) : PE X (.IfExp c a b pos) (cP (gx X T) W (mIf mc ma mb)) :=
  (pe_ifExp hc ha hb).imp fun σ H Q ⟨Z, ρ, fp, o, hm, ok, re, q⟩ => by
    refine cPT.go hm ok re q.x fun x Z1 H1 hm1 g1 ok1 re1 => ?_
    cases x with
    | true => exact ⟨Z1, ρ, fp, o, hm1, ok1, re1, q.mono g1⟩
    | false => exact ⟨Z1, ρ, fp, o, hm1, ok1, re1, q.mono g1⟩

/-! ### arguments, displays, calls of built-ins -/
variable {es : List Expr}
def mNil : Rho → Option (O (List D)) := fun _ => some (.ok [])
def mCons (ma : Rho → Option (O D)) (mr : Rho → Option (O (List D))) : Rho → Option (O (List D)) := fun ρ => bnd (ma ρ) fun x => bnd (mr ρ) fun r => some (.ok (x :: r))
theorem cpa_nil : PA X [] (cPA (gx X T) W mNil) := pa_nil.imp fun σ H Q ⟨Z, ρ, fp, o, hm, ok, re, q⟩ => by
  cases Option.some.inj hm
  exact q [] Z H (Grw.refl ok) .nil
theorem cpa_cons {ma : Rho → Option (O D)} {mr : Rho → Option (O (List D))} (ha : PE X e (cP (gx X T) W ma)) (hr : PA X es (cPA (gx X T) W mr)) (hs : starEach (e :: es) X.env = (false, eval e X.env) :: starEach es X.env := by rfl) :
    PA X (e :: es) (cPA (gx X T) W (mCons ma mr)) := (pa_cons ha hr hs).imp fun σ H Q ⟨Z, ρ, fp, o, hm, ok, re, q⟩ => by
  refine cP.go hm ok re q.x fun x v Z1 H1 hm1 g1 ok1 re1 b1 => ?_
  refine cPA.go hm1 ok1 re1 (q.mono g1).x fun y w Z2 H2 hm2 g2 ok2 re2 b2 => ?_
  cases Option.some.inj hm2
  exact q _ Z2 H2 (g1.trans g2) (.cons (b1.grow g2) b2)
/-- a rule by arguments does what f says -/
def PRC (g : G) (r : List V → Hp → VK → Prop) (f : List D → Option D) : Prop := ∀ Z H ds vs z, Ok g Z H [] → Bs g Z H ds vs → f ds = some z →
  ∀ Q : VK, (∀ u Z' H', Grw g Z H Z' H' → B g Z' H' z u → Q u H') → r vs H Q
def mCall (f : List D → Option D) (ma : Rho → Option (O (List D))) : Rho → Option (O D) := fun ρ => bnd (ma ρ) fun x => ret (f x)
theorem cC {r : List V → Hp → VK → Prop} {f : List D → Option D} {ma : Rho → Option (O (List D))} {σ : L2.St} {H : Hp} {Q : VK} (hr : PRC (gx X T) r f) (h : cP (gx X T) W (mCall f ma) σ H Q) : tCB r (cPA (gx X T) W ma) σ H Q := by
  obtain ⟨Z, ρ, fp, o, hm, ok, re, q⟩ := h
  refine cPA.go hm ok re q.x fun x v Z1 H1 hm1 g1 ok1 re1 b1 => ?_
  obtain ⟨z, hz, rfl⟩ := ret_eq hm1
  exact hr Z1 H1 x v z ok1.none b1 hz Q fun u Z3 H3 g3 b3 => q u Z3 H3 (g1.trans g3) b3
theorem cp_call {x : Str} {p : Pos} {id : String} {r : List V → Hp → VK → Prop} {f : List D → Option D} {ma : Rho → Option (O (List D))} (hc : CallR X (.builtin id) r) (hr : PRC (gx X T) r f) (hg : Gl X x) (hm : X.mg x = none) (hv : bootBuiltins x = some (.builtin id)) (ha : PA X (e :: es) (cPA (gx X T) W ma))
    (hn : x ≠ "__name__" := by decide) (hdb : (x == ("__debug__" : Str)) = false := by decide) (he : starEach (e :: es) X.env = (false, eval e X.env) :: starEach es X.env := by rfl) (hpl : (backTo pos (starEach es X.env)).any (·.1) = false := by rfl) :
    PE X (.Call (.Name x p) (e :: es) [] pos) (cP (gx X T) W (mCall f ma)) := (pe_callB hc hg hm hv ha hn hdb he hpl).imp fun _ _ _ h => cC hr h
theorem cp_callT {x : Str} {p : Pos} {id : String} {r : List V → Hp → VK → Prop} {f : List D → Option D} {ma : Rho → Option (O (List D))} (hc : CallR X (.type id) r) (hr : PRC (gx X T) r f) (hg : Gl X x) (hm : X.mg x = none) (hv : bootBuiltins x = some (.type id)) (ha : PA X (e :: es) (cPA (gx X T) W ma))
    (hn : x ≠ "__name__" := by decide) (hdb : (x == ("__debug__" : Str)) = false := by decide) (he : starEach (e :: es) X.env = (false, eval e X.env) :: starEach es X.env := by rfl) (hpl : (backTo pos (starEach es X.env)).any (·.1) = false := by rfl) :
    PE X (.Call (.Name x p) (e :: es) [] pos) (cP (gx X T) W (mCall f ma)) := (pe_callTy hc hg hm hv ha hn hdb he hpl).imp fun _ _ _ h => cC hr h
end
end OP

/-! OC: the built-in operations on data, pure -/
namespace OP
open PySem PySem.Spec PyProof.Rows L2

theorem sl_eq : sizeLine = 16777216 := sizeLine_eq
/-! ### rows of values -/
section
variable {g : G} {Z H Z' H' : Hp}
theorem Rs.len : ∀ {ds : List D} {xs : List V} {fp : List Addr}, Rs g Z H ds xs fp → xs.length = ds.length
  | [], _, _, h => by rw [h.1]; rfl
  | d :: ds, xs, fp, h => by
    obtain ⟨x, r, f1, f2, e1, e2, h1, h2⟩ := h
    rw [e1, List.length_cons, List.length_cons, Rs.len h2]
theorem Rs.get : ∀ {ds : List D} {xs : List V} {fp : List Addr} {i : Nat} {d : D}, Rs g Z H ds xs fp → ds[i]? = some d → ∃ x, xs[i]? = some x ∧ B g Z H d x
  | [], _, _, _, _, h, e => by simp at e
  | d :: ds, xs, fp, 0, d', h, e => by
    obtain ⟨x, r, f1, f2, e1, e2, h1, h2⟩ := h
    have : d = d' := by simpa using e
    subst this
    exact ⟨x, by rw [e1]; rfl, f1, h1⟩
  | d :: ds, xs, fp, i + 1, d', h, e => by
    obtain ⟨x, r, f1, f2, e1, e2, h1, h2⟩ := h
    obtain ⟨y, h3, h4⟩ := Rs.get (i := i) h2 (by simpa using e)
    exact ⟨y, by rw [e1]; simpa using h3, h4⟩
theorem Rs.bs : ∀ {ds : List D} {xs : List V} {fp : List Addr}, Rs g Z H ds xs fp → Bs g Z H ds xs
  | [], _, _, h => by rw [h.1]; exact .nil
  | d :: ds, xs, fp, h => by
    obtain ⟨x, r, f1, f2, e1, e2, h1, h2⟩ := h
    rw [e1]
    exact .cons ⟨f1, h1⟩ (Rs.bs h2)
theorem Bs.rs : ∀ {ds : List D} {xs : List V}, Bs g Z H ds xs → D.frzs ds = true → Rs g Z H ds xs []
  | _, _, .nil, _ => ⟨rfl, rfl⟩
  | d :: ds, x :: xs, .cons h t, f => by
    have k' : d.frz = true ∧ D.frzs ds = true := by simpa [D.frzs] using f
    exact ⟨x, xs, [], [], rfl, rfl, h.frz k'.1, Bs.rs t k'.2⟩
theorem Rs.nil' {d : D} {ds : List D} {xs : List V} (h : Rs g Z H (d :: ds) xs []) : ∃ x r, xs = x :: r ∧ R g Z H d x [] ∧ Rs g Z H ds r [] := by
  obtain ⟨x, r, f1, f2, e1, e2, h1, h2⟩ := h
  obtain ⟨z1, z2⟩ := app_nil e2
  subst z1; subst z2
  exact ⟨x, r, e1, h1, h2⟩
theorem Rs.drop : ∀ {ds : List D} {xs : List V} (n : Nat), Rs g Z H ds xs [] → Rs g Z H (ds.drop n) (xs.drop n) []
  | [], _, n, h => by rw [h.1, List.drop_nil, List.drop_nil]; exact ⟨rfl, rfl⟩
  | d :: ds, xs, 0, h => by simpa using h
  | d :: ds, xs, n + 1, h => by
    obtain ⟨x, r, e1, h1, h2⟩ := h.nil'
    rw [e1]
    simpa using Rs.drop n h2
theorem Rs.take : ∀ {ds : List D} {xs : List V} (n : Nat), Rs g Z H ds xs [] → Rs g Z H (ds.take n) (xs.take n) []
  | [], _, n, h => by rw [h.1, List.take_nil, List.take_nil]; exact ⟨rfl, rfl⟩
  | d :: ds, xs, 0, h => by rw [List.take_zero, List.take_zero]; exact ⟨rfl, rfl⟩
  | d :: ds, xs, n + 1, h => by
    obtain ⟨x, r, e1, h1, h2⟩ := h.nil'
    rw [e1]
    exact ⟨x, r.take n, [], [], by simp, rfl, h1, Rs.take n h2⟩
theorem Rs.app : ∀ {ds es : List D} {xs ys : List V} {f1 f2 : List Addr}, Rs g Z H ds xs f1 → Rs g Z H es ys f2 → Rs g Z H (ds ++ es) (xs ++ ys) (f1 ++ f2)
  | [], _, _, _, _, _, h, k => by rw [h.1, h.2]; exact k
  | d :: ds, es, xs, ys, f1, f2, h, k => by
    obtain ⟨x, r, g1, g2, e1, e2, h1, h2⟩ := h
    rw [e1, e2]
    exact ⟨x, r ++ ys, g1, g2 ++ f2, rfl, by rw [List.append_assoc], h1, Rs.app h2 k⟩
theorem Rs.rev : ∀ {ds : List D} {xs : List V}, Rs g Z H ds xs [] → Rs g Z H ds.reverse xs.reverse []
  | [], _, h => by rw [h.1]; exact ⟨rfl, rfl⟩
  | d :: ds, xs, h => by
    obtain ⟨x, r, e1, h1, h2⟩ := h.nil'
    rw [e1, List.reverse_cons, List.reverse_cons]
    exact Rs.app (f1 := []) (f2 := []) (Rs.rev h2) ⟨x, [], [], [], rfl, rfl, h1, rfl, rfl⟩

/-- the items of a list or tuple -/
def D.its : D → Option (List D)
  | .tup l => some l
  | .lst _ l => some l
  | .xls l => some l
  | _ => none
theorem B.lst {o : Bool} {l : List D} {v : V} (zh : Sub Z H) (h : B g Z H (.lst o l) v) : ∃ a xs fq, v = .ref a ∧ H a = some (.lst xs) ∧ Rs g Z H l xs fq := by
  obtain ⟨fq, h⟩ := h
  cases o with
  | false =>
    obtain ⟨_, a, xs, e1, h1, h2⟩ := h
    exact ⟨a, xs, _, e1, zh _ _ h1, h2⟩
  | true =>
    obtain ⟨a, xs, fr, e1, e2, h1, h2⟩ := h
    exact ⟨a, xs, _, e1, h1, h2⟩
theorem B.tup {l : List D} {v : V} (zh : Sub Z H) (h : B g Z H (.tup l) v) : ∃ a xs, v = .ref a ∧ SqT g.K H a xs ∧ Rs g Z H l xs [] := by
  obtain ⟨fq, _, a, xs, e1, h1, h2⟩ := h
  exact ⟨a, xs, e1, zh.seqT h1, h2⟩
theorem B.xls {l : List D} {v : V} (zh : Sub Z H) (h : B g Z H (.xls l) v) : ∃ a xs, v = .ref a ∧ SqL g.K H a xs ∧ Rs g Z H l xs [] := by
  obtain ⟨fq, _, a, xs, e1, h1, h2⟩ := h
  exact ⟨a, xs, e1, zh.seqL h1, h2⟩
theorem B.seq {d : D} {l : List D} {v : V} (zh : Sub Z H) (h : B g Z H d v) (e : d.its = some l) : ∃ a xs fq, v = .ref a ∧ (SqL g.K H a xs ∨ SqT g.K H a xs) ∧ Rs g Z H l xs fq := by
  cases d with
  | tup l' => cases e; obtain ⟨a, xs, e1, h1, h2⟩ := h.tup zh; exact ⟨a, xs, _, e1, .inr h1, h2⟩
  | lst o l' => cases e; obtain ⟨a, xs, fq, e1, h1, h2⟩ := h.lst zh; exact ⟨a, xs, _, e1, .inl (SqL.of h1), h2⟩
  | xls l' => cases e; obtain ⟨a, xs, e1, h1, h2⟩ := h.xls zh; exact ⟨a, xs, _, e1, .inl h1, h2⟩
  | _ => cases e
theorem B.int_eq {i : Int} {v : V} (h : B g Z H (.int i) v) : v = .int i := by obtain ⟨_, h⟩ := h; exact h.1
theorem B.bl_eq {i : Bool} {v : V} (h : B g Z H (.bl i) v) : v = .bl i := by obtain ⟨_, h⟩ := h; exact h.1
theorem B.str_eq {i : Str} {v : V} (h : B g Z H (.str i) v) : v = .str i ∧ i.length ≤ 16777216 := by obtain ⟨_, h⟩ := h; exact h.1
theorem B.non_eq {v : V} (h : B g Z H .non v) : v = .non := by obtain ⟨_, h⟩ := h; exact h.1
/-- a new frozen list, tuple -/
theorem newL {l : List D} {xs : List V} {Q : VK} (k : Ok g Z H []) (h : Rs g Z H l xs []) (q : ∀ u Z' H', Grw g Z H Z' H' → B g Z' H' (.lst false l) u → Q u H') : ∀ p, H p = none → Q (.ref p) (upd H p (.lst xs)) := fun p hp => by
  have gr := Grw.new k hp (o := .lst xs) (fun ps z => by cases z)
  exact q _ _ _ gr ⟨[], rfl, p, xs, rfl, upd_same, Rs.grow h gr⟩
theorem newT {l : List D} {xs : List V} {Q : VK} (k : Ok g Z H []) (h : Rs g Z H l xs []) (q : ∀ u Z' H', Grw g Z H Z' H' → B g Z' H' (.tup l) u → Q u H') : ∀ p, H p = none → Q (.ref p) (upd H p (.tup xs)) := fun p hp => by
  have gr := Grw.new k hp (o := .tup xs) (fun ps z => by cases z)
  exact q _ _ _ gr ⟨[], rfl, p, xs, rfl, SqT.of upd_same, Rs.grow h gr⟩
end

/-! ### arithmetic -/
section
variable {X : Cx} {T : List (Addr × Str)}
def fII (f : Int → Int → D) : D → D → Option D
  | .int i, .int j => some (f i j)
  | _, _ => none
theorem fII_eq {f : Int → Int → D} {d e z : D} (h : fII f d e = some z) : ∃ i j, d = .int i ∧ e = .int j ∧ z = f i j := by
  cases d <;> cases e <;> simp [fII] at h
  exact ⟨_, _, rfl, rfl, h.symm⟩
theorem pr_I {f : Int → Int → V} {f' : Int → Int → D} (hf : ∀ i j (Z H : Hp), B (gx X T) Z H (f' i j) (f i j)) : PR2 (gx X T) (rI0 f) (fII f') := fun Z H d e v w z ok hd he hz Q q => by
  obtain ⟨i, j, rfl, rfl, rfl⟩ := fII_eq hz
  exact ⟨i, j, hd.int_eq, he.int_eq, q _ Z H (Grw.refl ok) (hf i j Z H)⟩
def gSub : D → D → Option D := fII fun i j => .int (i - j)
theorem pr_sub : PR2 (gx X T) (rI0 fun i j => .int (i - j)) gSub := pr_I fun _ _ _ _ => B.int
def gLt : D → D → Option D := fII fun i j => .bl (decide (i < j))
theorem pr_lt : PR2 (gx X T) (rI0 fun i j => .bl (decide (i < j))) gLt := pr_I fun _ _ _ _ => B.bl
def gLe : D → D → Option D := fII fun i j => .bl (decide (i ≤ j))
theorem pr_le : PR2 (gx X T) (rI0 fun i j => .bl (decide (i ≤ j))) gLe := pr_I fun _ _ _ _ => B.bl
def gGt : D → D → Option D := fII fun i j => .bl (decide (j < i))
theorem pr_gt : PR2 (gx X T) (rI0 fun i j => .bl (decide (j < i))) gGt := pr_I fun _ _ _ _ => B.bl
def gGe : D → D → Option D := fII fun i j => .bl (decide (j ≤ i))
theorem pr_ge : PR2 (gx X T) (rI0 fun i j => .bl (decide (j ≤ i))) gGe := pr_I fun _ _ _ _ => B.bl
def fIC (C : Int → Int → Prop) [∀ i j, Decidable (C i j)] (f : Int → Int → D) : D → D → Option D
  | .int i, .int j => if C i j then some (f i j) else none
  | _, _ => none
theorem fIC_eq {C : Int → Int → Prop} [∀ i j, Decidable (C i j)] {f : Int → Int → D} {d e z : D} (h : fIC C f d e = some z) : ∃ i j, d = .int i ∧ e = .int j ∧ C i j ∧ z = f i j := by
  cases d <;> cases e <;> simp [fIC] at h
  exact ⟨_, _, rfl, rfl, h.1, h.2.symm⟩
theorem pr_IC {C : Int → Int → Prop} [∀ i j, Decidable (C i j)] {C' : Int → Int → Prop} (hC : ∀ i j, C i j → C' i j) {f : Int → Int → V} {f' : Int → Int → D} (hf : ∀ i j (Z H : Hp), B (gx X T) Z H (f' i j) (f i j)) : PR2 (gx X T) (rI C' f) (fIC C f') := fun Z H d e v w z ok hd he hz Q q => by
  obtain ⟨i, j, rfl, rfl, hc, rfl⟩ := fIC_eq hz
  exact ⟨i, j, hd.int_eq, he.int_eq, hC _ _ hc, q _ Z H (Grw.refl ok) (hf i j Z H)⟩
abbrev CM (i j : Int) : Prop := (-(2 ^ 64) < i ∧ i < 2 ^ 64) ∨ (-(2 ^ 64) < j ∧ j < 2 ^ 64)
def gMul : D → D → Option D := fIC CM fun i j => .int (i * j)
theorem pr_mul : PR2 (gx X T) (rI CMul fun i j => .int (i * j)) gMul := pr_IC (C := CM) (fun _ _ h => h) fun _ _ _ _ => B.int
def gMod : D → D → Option D := fIC (fun _ j => 0 < j) fun i j => .int (i % j)
theorem pr_mod : PR2 (gx X T) (rI (fun _ j => 0 < j) fun i j => .int (i % j)) gMod := pr_IC (C := fun _ j => 0 < j) (fun _ _ h => h) fun _ _ _ _ => B.int
def gDiv : D → D → Option D := fIC (fun _ j => 0 < j ∧ j < 1073741824) fun i j => .int (i / j)
theorem pr_div : PR2 (gx X T) (rI CDiv fun i j => .int (i / j)) gDiv := pr_IC (C := fun _ j => 0 < j ∧ j < 1073741824) (fun _ _ h => h) fun _ _ _ _ => B.int
def gPow : D → D → Option D := fIC (fun i j => 0 ≤ j ∧ j ≤ 1000000 ∧ i.natAbs < 2 ^ 64) fun i j => .int (i ^ j.toNat)
theorem pr_pow : PR2 (gx X T) (rI CPow fun i j => .int (i ^ j.toNat)) gPow := pr_IC (C := fun i j => 0 ≤ j ∧ j ≤ 1000000 ∧ i.natAbs < 2 ^ 64) (fun _ _ h => h) fun _ _ _ _ => B.int

/-- + : ints, texts, lists, tuples -/
def gAdd : D → D → Option D
  | .int i, .int j => some (.int (i + j))
  | .str x, .str y => if x.length + y.length ≤ 16777216 then some (.str (x ++ y)) else none
  | .lst _ l, .lst _ m => if D.frzs l && D.frzs m && decide (l.length + m.length ≤ 16777216) then some (.lst false (l ++ m)) else none
  | .tup l, .tup m => if l.length + m.length ≤ 16777216 then some (.tup (l ++ m)) else none
  | _, _ => none
def rAdd4 (K : PySem.W.Frag) : R2 := fun x y H Q => rI0 (fun i j => .int (i + j)) x y H Q ∨ (∃ i j, x = .str i ∧ y = .str j ∧ i.length + j.length ≤ sizeLine ∧ Q (.str (i ++ j)) H) ∨ rCat x y H Q ∨ rCatA K x y H Q
theorem op_add4 : OpR X (binaryOp .Add) (rAdd4 X.K) := op_add.or (op_add_str.or (op_cat.or op_catA))
theorem len_app (x y : Str) : (x ++ y).length = x.length + y.length := by
  show (x.cps ++ y.cps).size = _
  rw [Array.size_append]; rfl
theorem pr_add : PR2 (gx X T) (rAdd4 X.K) gAdd := fun Z H d e v w z ok hd he hz Q q => by
  cases d <;> cases e <;> simp only [gAdd] at hz <;> try contradiction
  · cases hz
    exact .inl ⟨_, _, hd.int_eq, he.int_eq, q _ Z H (Grw.refl ok) B.int⟩
  · split at hz
    · rename_i c
      cases hz
      refine .inr (.inl ⟨_, _, hd.str_eq.1, he.str_eq.1, by rw [sl_eq]; exact c, q _ Z H (Grw.refl ok) (B.str (by rw [len_app]; exact c))⟩)
    · cases hz
  · obtain ⟨a, xs, e1, h1, h2⟩ := hd.tup ok.zh
    obtain ⟨b, ys, e2, h3, h4⟩ := he.tup ok.zh
    split at hz
    · rename_i c
      cases hz
      refine .inr (.inr (.inr ⟨a, b, xs, ys, e1, e2, h1, h3, by rw [Rs.len h2, Rs.len h4, sl_eq]; exact c, fun z => ?_, fun _ z => ?_, fun _ _ => newT ok (Rs.app (f1 := []) (f2 := []) h2 h4) q⟩))
      · have hl : _ = [] := List.eq_nil_of_length_eq_zero (by rw [← Rs.len h2, z]; rfl)
        subst hl
        refine q _ Z H (Grw.refl ok) ?_
        rw [← e2]; exact he
      · have hl : _ = [] := List.eq_nil_of_length_eq_zero (by rw [← Rs.len h4, z]; rfl)
        subst hl
        refine q _ Z H (Grw.refl ok) ?_
        rw [← e1, List.append_nil]; exact hd
    · cases hz
  · obtain ⟨a, xs, f1, e1, h1, h2⟩ := hd.lst ok.zh
    obtain ⟨b, ys, f2, e2, h3, h4⟩ := he.lst ok.zh
    split at hz
    · rename_i c
      cases hz
      simp only [Bool.and_eq_true, decide_eq_true_eq] at c
      rw [Rs.frz c.1.1 h2] at h2
      rw [Rs.frz c.1.2 h4] at h4
      refine .inr (.inr (.inl ⟨a, b, xs, ys, e1, e2, h1, h3, by rw [Rs.len h2, Rs.len h4, sl_eq]; exact c.2, newL ok (Rs.app (f1 := []) (f2 := []) h2 h4) q⟩))
    · cases hz
/-- -i -/
def PR1 (g : G) (r : V → Hp → VK → Prop) (f : D → Option D) : Prop := ∀ Z H d v z, Ok g Z H [] → B g Z H d v → f d = some z → ∀ Q : VK, (∀ u Z' H', Grw g Z H Z' H' → B g Z' H' z u → Q u H') → r v H Q
def m1 (f : D → Option D) (ma : Rho → Option (O D)) : Rho → Option (O D) := fun ρ => bnd (ma ρ) fun x => ret (f x)
variable {W : WX} {e a b : Expr} {pos : Pos} {es : List Expr}
theorem cp_un {op : UnaryOp} {r : V → Hp → VK → Prop} {f : D → Option D} {ma : Rho → Option (O D)} (ho : UnR X (unaryOp op) r) (hr : PR1 (gx X T) r f) (ha : PE X a (cP (gx X T) W ma)) : PE X (.UnaryOp op a pos) (cP (gx X T) W (m1 f ma)) :=
  (pe_un ho ha).imp fun σ H Q ⟨Z, ρ, fp, o, hm, ok, re, q⟩ => by
    refine cP.go hm ok re q.x fun x v Z1 H1 hm1 g1 ok1 re1 b1 => ?_
    obtain ⟨z, hz, rfl⟩ := ret_eq hm1
    exact hr Z1 H1 x v z ok1.none b1 hz Q fun u Z3 H3 g3 b3 => q u Z3 H3 (g1.trans g3) b3
def gNeg : D → Option D
  | .int i => some (.int (-i))
  | _ => none
theorem pr_neg : PR1 (gx X T) (rU fun i => .int (-i)) gNeg := fun Z H d v z ok hd hz Q q => by
  cases d <;> simp only [gNeg] at hz <;> try contradiction
  cases hz
  exact ⟨_, hd.int_eq, q _ Z H (Grw.refl ok) B.int⟩

/-! ### ==, !=, is None, in -/
mutual
def D.py : D → Option PyData
  | .non => some .none
  | .bl b => some (.bool b)
  | .int i => some (.int i)
  | .str s => some (.str s)
  | .tup l => (D.pys l).map .tuple
  | .lst _ l => (D.pys l).map .list
  | .xls l => (D.pys l).map .list
  | _ => none
def D.pys : List D → Option (List PyData)
  | [] => some []
  | d :: r => match d.py, D.pys r with
    | some x, some y => some (x :: y)
    | _, _ => none
end
mutual
theorem R.dp {g : G} {Z H : Hp} (zh : Sub Z H) : ∀ {d : D} {v : V} {fp : List Addr} {p : PyData}, R g Z H d v fp → d.py = some p → Dp g.K H v p
  | .non, v, fp, p, h, e => by cases e; rw [h.1]; exact .non
  | .bl b, v, fp, p, h, e => by cases e; rw [h.1]; exact .bl b
  | .int b, v, fp, p, h, e => by cases e; rw [h.1]; exact .int b
  | .str b, v, fp, p, h, e => by cases e; rw [h.1.1]; exact .str b
  | .fn _, v, fp, p, h, e => by cases e
  | .tup l, v, fp, p, h, e => by
    obtain ⟨_, a, xs, e1, h1, h2⟩ := h
    have e : (D.pys l).map PyData.tuple = some p := e
    cases q : D.pys l with
    | none => rw [q] at e; cases e
    | some ps => rw [q] at e; cases e; rw [e1]; exact .tup (zh.seqT h1) (Rs.dp zh h2 q)
  | .lst false l, v, fp, p, h, e => by
    obtain ⟨_, a, xs, e1, h1, h2⟩ := h
    have e : (D.pys l).map PyData.list = some p := e
    cases q : D.pys l with
    | none => rw [q] at e; cases e
    | some ps => rw [q] at e; cases e; rw [e1]; exact .lst (SqL.of (zh _ _ h1)) (Rs.dp zh h2 q)
  | .xls l, v, fp, p, h, e => by
    obtain ⟨_, a, xs, e1, h1, h2⟩ := h
    have e : (D.pys l).map PyData.list = some p := e
    cases q : D.pys l with
    | none => rw [q] at e; cases e
    | some ps => rw [q] at e; cases e; rw [e1]; exact .lst (zh.seqL h1) (Rs.dp zh h2 q)
  | .lst true l, v, fp, p, h, e => by
    obtain ⟨a, xs, fr, e1, e2, h1, h2⟩ := h
    have e : (D.pys l).map PyData.list = some p := e
    cases q : D.pys l with
    | none => rw [q] at e; cases e
    | some ps => rw [q] at e; cases e; rw [e1]; exact .lst (SqL.of h1) (Rs.dp zh h2 q)
  | .ins _ _ _ _, v, fp, p, h, e => by cases e
  | .dic _ _ _, v, fp, p, h, e => by cases e
  | .xdc _ _, v, fp, p, h, e => by cases e
theorem Rs.dp {g : G} {Z H : Hp} (zh : Sub Z H) : ∀ {ds : List D} {vs : List V} {fp : List Addr} {ps : List PyData}, Rs g Z H ds vs fp → D.pys ds = some ps → DpAll g.K H vs ps
  | [], vs, fp, ps, h, e => by cases e; rw [h.1]; exact .nil
  | d :: ds, vs, fp, ps, h, e => by
    obtain ⟨x, r, f1, f2, e1, e2, h1, h2⟩ := h
    simp only [D.pys] at e
    cases q1 : d.py with
    | none => rw [q1] at e; cases e
    | some p1 =>
      cases q2 : D.pys ds with
      | none => rw [q1, q2] at e; cases e
      | some p2 => rw [q1, q2] at e; cases e; rw [e1]; exact .cons (R.dp zh h1 q1) (Rs.dp zh h2 q2)
end
def eqD (d e : D) : Option Bool := match d.py, e.py with
  | some p, some q => if SeqAt.shaped p && SeqAt.shaped q then some (PyData.eqv p q) else none
  | _, _ => none
def gEq (d e : D) : Option D := (eqD d e).map .bl
def gNe (d e : D) : Option D := (eqD d e).map fun b => .bl (!b)
theorem eqD_eq {d e : D} {b : Bool} (h : eqD d e = some b) : ∃ p q, d.py = some p ∧ e.py = some q ∧ SeqAt.shaped p = true ∧ SeqAt.shaped q = true ∧ b = PyData.eqv p q := by
  unfold eqD at h
  split at h
  · rename_i p q e1 e2
    split at h
    · rename_i c
      simp only [Bool.and_eq_true] at c
      exact ⟨p, q, e1, e2, c.1, c.2, (Option.some.inj h).symm⟩
    · cases h
  · cases h
theorem pr_eq : PR2 (gx X T) (rEqD X.K) gEq := fun Z H d e v w z ok ⟨_, hd⟩ ⟨_, he⟩ hz Q q => by
  unfold gEq at hz
  cases c : eqD d e with
  | none => rw [c] at hz; cases hz
  | some b =>
    rw [c] at hz; cases hz
    obtain ⟨p1, p2, e1, e2, s1, s2, rfl⟩ := eqD_eq c
    exact ⟨p1, p2, R.dp ok.zh hd e1, R.dp ok.zh he e2, s1, s2, q _ Z H (Grw.refl ok) B.bl⟩
theorem pr_ne : PR2 (gx X T) (rNeD X.K) gNe := fun Z H d e v w z ok ⟨_, hd⟩ ⟨_, he⟩ hz Q q => by
  unfold gNe at hz
  cases c : eqD d e with
  | none => rw [c] at hz; cases hz
  | some b =>
    rw [c] at hz; cases hz
    obtain ⟨p1, p2, e1, e2, s1, s2, rfl⟩ := eqD_eq c
    exact ⟨p1, p2, R.dp ok.zh hd e1, R.dp ok.zh he e2, s1, s2, q _ Z H (Grw.refl ok) B.bl⟩
def D.isNon : D → Bool
  | .non => true
  | _ => false
theorem R.nonV {g : G} {Z H : Hp} {d : D} {v : V} {fp : List Addr} (h : R g Z H d v fp) : decide (v = .non) = d.isNon := by
  cases d with
  | non => rw [h.1]; rfl
  | bl b => rw [h.1]; rfl
  | int b => rw [h.1]; rfl
  | str b => rw [h.1.1]; rfl
  | fn n => obtain ⟨f, e, _⟩ := h.1; rw [e]; rfl
  | tup l => obtain ⟨_, a, xs, e, _⟩ := h; rw [e]; rfl
  | xls l => obtain ⟨_, a, xs, e, _⟩ := h; rw [e]; rfl
  | lst o l =>
    cases o with
    | false => obtain ⟨_, a, xs, e, _⟩ := h; rw [e]; rfl
    | true => obtain ⟨a, xs, _, e, _⟩ := h; rw [e]; rfl
  | ins o c ks l =>
    cases o with
    | false => obtain ⟨_, a, _, _, _, e, _⟩ := h; rw [e]; rfl
    | true => obtain ⟨a, _, _, _, _, e, _⟩ := h; rw [e]; rfl
  | dic o ks l =>
    cases o with
    | false => obtain ⟨_, a, _, e, _⟩ := h; rw [e]; rfl
    | true => obtain ⟨a, _, _, e, _⟩ := h; rw [e]; rfl
  | xdc ks l => obtain ⟨_, a, xs, e, _⟩ := h; rw [e]; rfl
def gIs : D → D → Option D
  | d, .non => some (.bl d.isNon)
  | _, _ => none
def gIsNot : D → D → Option D
  | d, .non => some (.bl (!d.isNon))
  | _, _ => none
theorem pr_is : PR2 (gx X T) (fun x y H Q => y = .non ∧ Q (.bl (decide (x = .non))) H) gIs := fun Z H d e v w z ok ⟨_, hd⟩ he hz Q q => by
  cases e <;> simp only [gIs] at hz <;> try contradiction
  cases hz
  exact ⟨he.non_eq, by rw [hd.nonV]; exact q _ Z H (Grw.refl ok) B.bl⟩
theorem pr_isnot : PR2 (gx X T) (fun x y H Q => y = .non ∧ Q (.bl (!decide (x = .non))) H) gIsNot := fun Z H d e v w z ok ⟨_, hd⟩ he hz Q q => by
  cases e <;> simp only [gIsNot] at hz <;> try contradiction
  cases hz
  exact ⟨he.non_eq, by rw [hd.nonV]; exact q _ Z H (Grw.refl ok) B.bl⟩
/-- in: a sign in a text, a flat thing in a row of such, a thing in a list -/
def D.flat : D → Option V
  | .non => some .non
  | .bl b => some (.bl b)
  | .int i => some (.int i)
  | .str s => some (.str s)
  | _ => none
def D.flats : List D → Option (List V)
  | [] => some []
  | d :: r => match d.flat, D.flats r with
    | some x, some y => some (x :: y)
    | _, _ => none
theorem R.flat {g : G} {Z H : Hp} {d : D} {v x : V} {fp : List Addr} (h : R g Z H d v fp) (e : d.flat = some x) : v = x ∧ flatV x = true := by
  cases d <;> simp only [D.flat] at e <;> try contradiction
  · cases e; exact ⟨h.1, rfl⟩
  · cases e; exact ⟨h.1, rfl⟩
  · cases e; exact ⟨h.1, rfl⟩
  · cases e; exact ⟨h.1.1, rfl⟩
theorem Rs.flat {g : G} {Z H : Hp} : ∀ {ds : List D} {vs xs : List V} {fp : List Addr}, Rs g Z H ds vs fp → D.flats ds = some xs → vs = xs ∧ xs.all flatV = true
  | [], vs, xs, fp, h, e => by cases e; exact ⟨h.1, rfl⟩
  | d :: ds, vs, xs, fp, h, e => by
    obtain ⟨x, r, f1, f2, e1, e2, h1, h2⟩ := h
    simp only [D.flats] at e
    cases q1 : d.flat with
    | none => rw [q1] at e; cases e
    | some p1 =>
      cases q2 : D.flats ds with
      | none => rw [q1, q2] at e; cases e
      | some p2 =>
        rw [q1, q2] at e; cases e
        obtain ⟨a1, a2⟩ := h1.flat q1
        obtain ⟨a3, a4⟩ := Rs.flat h2 q2
        rw [e1, a1, a3]
        exact ⟨rfl, by rw [List.all_cons, a2, a4]; rfl⟩
def inD : D → D → Option Bool
  | .str x, .str z => match x.cps.toList with
    | [c] => some (decide (c ∈ z.cps.toList))
    | _ => some (!(Builtin.Str.occurrences z x 0 z.length 1).isEmpty)
  | d, e => match d.flat, e.its with
    | some x, some l => match D.flats l with
      | some xs => some (inV x xs)
      | none => none
    | _, _ => none
def gIn (d e : D) : Option D := (inD d e).map .bl
def gNotIn (d e : D) : Option D := (inD d e).map fun b => .bl (!b)
def rIn3 (K : PySem.W.Frag) : R2 := fun x y H Q => (∃ (c : Nat) (z : Str), x = .str ⟨#[c]⟩ ∧ y = .str z ∧ Q (.bl (decide (c ∈ z.cps.toList))) H) ∨ (∃ i j, x = .str i ∧ y = .str j ∧ Q (.bl (!(Builtin.Str.occurrences j i 0 j.length 1).isEmpty)) H) ∨ rIn K false x y H Q
theorem op_in3 : OpR X (compareOp .In) (rIn3 X.K) := op_in_sign.or (op_in_str.or op_in_seq)
def rNotIn3 (K : PySem.W.Frag) : R2 := fun x y H Q => (∃ (c : Nat) (z : Str), x = .str ⟨#[c]⟩ ∧ y = .str z ∧ Q (.bl (!decide (c ∈ z.cps.toList))) H) ∨ (∃ i j, x = .str i ∧ y = .str j ∧ Q (.bl (!(!(Builtin.Str.occurrences j i 0 j.length 1).isEmpty))) H) ∨ rIn K true x y H Q
theorem op_notin3 : OpR X (compareOp .NotIn) (rNotIn3 X.K) := op_notIn_sign.or (op_notIn_str.or op_notIn_seq)
theorem str_one {x : Str} {c : Nat} (h : x.cps.toList = [c]) : x = ⟨#[c]⟩ := by
  obtain ⟨⟨l⟩⟩ := x
  have : l = [c] := h
  rw [this]
theorem inD_seq {d e : D} {b : Bool} (h : inD d e = some b) : (∃ c z, d = .str ⟨#[c]⟩ ∧ e = .str z ∧ b = decide (c ∈ z.cps.toList)) ∨ (∃ x z, d = .str x ∧ e = .str z ∧ b = !(Builtin.Str.occurrences z x 0 z.length 1).isEmpty) ∨
    ∃ x l xs, d.flat = some x ∧ e.its = some l ∧ D.flats l = some xs ∧ b = inV x xs := by
  have fin : ∀ {d e : D}, (match d.flat, e.its with
    | some x, some l => match D.flats l with
      | some xs => some (inV x xs)
      | none => none
    | _, _ => none) = some b → ∃ x l xs, d.flat = some x ∧ e.its = some l ∧ D.flats l = some xs ∧ b = inV x xs := fun {d e} h => by
    split at h
    · rename_i x l e1 e2
      split at h
      · rename_i xs e3
        exact ⟨x, l, xs, e1, e2, e3, (Option.some.inj h).symm⟩
      · cases h
    · cases h
  unfold inD at h
  split at h
  · rename_i x z
    split at h
    · rename_i c e1
      rw [str_one e1]
      exact .inl ⟨c, z, rfl, rfl, (Option.some.inj h).symm⟩
    · exact .inr (.inl ⟨x, z, rfl, rfl, (Option.some.inj h).symm⟩)
  · exact .inr (.inr (fin h))
theorem pr_in : PR2 (gx X T) (rIn3 X.K) gIn := fun Z H d e v w z ok hd he hz Q q => by
  unfold gIn at hz
  cases c : inD d e with
  | none => rw [c] at hz; cases hz
  | some b =>
    rw [c] at hz; cases hz
    rcases inD_seq c with ⟨c', z, rfl, rfl, rfl⟩ | ⟨x, z, rfl, rfl, rfl⟩ | ⟨x, l, xs, e1, e2, e3, rfl⟩
    · exact .inl ⟨c', z, hd.str_eq.1, he.str_eq.1, q _ Z H (Grw.refl ok) B.bl⟩
    · exact .inr (.inl ⟨x, z, hd.str_eq.1, he.str_eq.1, q _ Z H (Grw.refl ok) B.bl⟩)
    · obtain ⟨a, ys, fq, e4, h1, h2⟩ := he.seq ok.zh e2
      obtain ⟨_, hd⟩ := hd
      obtain ⟨a1, a2⟩ := hd.flat e1
      obtain ⟨a3, a4⟩ := Rs.flat h2 e3
      subst a1; subst a3
      exact .inr (.inr ⟨a, ys, e4, h1, a2, a4, q _ Z H (Grw.refl ok) B.bl⟩)
theorem pr_notin : PR2 (gx X T) (rNotIn3 X.K) gNotIn := fun Z H d e v w z ok hd he hz Q q => by
  unfold gNotIn at hz
  cases c : inD d e with
  | none => rw [c] at hz; cases hz
  | some b =>
    rw [c] at hz; cases hz
    rcases inD_seq c with ⟨c', z, rfl, rfl, rfl⟩ | ⟨x, z, rfl, rfl, rfl⟩ | ⟨x, l, xs, e1, e2, e3, rfl⟩
    · exact .inl ⟨c', z, hd.str_eq.1, he.str_eq.1, q _ Z H (Grw.refl ok) B.bl⟩
    · exact .inr (.inl ⟨x, z, hd.str_eq.1, he.str_eq.1, q _ Z H (Grw.refl ok) B.bl⟩)
    · obtain ⟨a, ys, fq, e4, h1, h2⟩ := he.seq ok.zh e2
      obtain ⟨_, hd⟩ := hd
      obtain ⟨a1, a2⟩ := hd.flat e1
      obtain ⟨a3, a4⟩ := Rs.flat h2 e3
      subst a1; subst a3
      exact .inr (.inr ⟨a, ys, e4, h1, a2, a4, q _ Z H (Grw.refl ok) B.bl⟩)

/-! ### len, x[i], x[i:j] -/
def fLen : List D → Option D
  | [.str s] => some (.int s.length)
  | [d] => d.its.map fun l => .int l.length
  | _ => none
theorem pr_len : PRC (gx X T) (fun xs H Q => ∃ x n, xs = [x] ∧ LenV X.K x H n ∧ Q (.int n) H) fLen := fun Z H ds vs z ok hb hz Q q => by
  have one : ∃ d, ds = [d] := by
    unfold fLen at hz
    split at hz
    · exact ⟨_, rfl⟩
    · exact ⟨_, rfl⟩
    · cases hz
  obtain ⟨d, rfl⟩ := one
  cases hb with
  | cons h t =>
    cases t
    by_cases hs : ∃ s, d = .str s
    · obtain ⟨s, rfl⟩ := hs
      cases hz
      obtain ⟨e1, e2⟩ := h.str_eq
      exact ⟨_, s.length, rfl, by rw [e1]; exact ⟨by rw [sl_eq]; exact e2, rfl⟩, q _ Z H (Grw.refl ok) B.int⟩
    · have hz' : d.its.map (fun l => D.int l.length) = some z := by
        cases d <;> first | exact hz | exact absurd ⟨_, rfl⟩ hs
      cases e : d.its with
      | none => rw [e] at hz'; cases hz'
      | some l =>
        rw [e] at hz'; cases hz'
        obtain ⟨a, xs, fq, e1, h1, h2⟩ := h.seq ok.zh e
        refine ⟨_, l.length, rfl, ?_, q _ Z H (Grw.refl ok) B.int⟩
        rw [e1]
        rcases h1 with h1 | h1
        · exact .inl ⟨xs, h1, (Rs.len h2).symm⟩
        · exact .inr ⟨xs, h1, (Rs.len h2).symm⟩
def gIx : D → D → Option D
  | .str s, .int i => (atI s.cps.toList i).map fun c => .str ⟨#[c]⟩
  | d, .int i => match d.its with
    | some l => atI l i
    | none => none
  | _, _ => none
theorem Rs.at {g : G} {Z H : Hp} {l : List D} {xs : List V} {fq : List Addr} {i : Int} {d : D} (h : Rs g Z H l xs fq) (e : atI l i = some d) : ∃ x, atI xs i = some x ∧ B g Z H d x := by
  unfold atI at e ⊢
  rw [Rs.len h]
  cases q : ixN l.length i with
  | none => rw [q] at e; cases e
  | some j =>
    rw [q] at e
    exact h.get e
theorem pr_ix : PR2 (gx X T) (rIx X.K) gIx := fun Z H d e v w z ok hd he hz Q q => by
  cases e <;> simp only [gIx] at hz <;> try (cases d <;> contradiction)
  rename_i i
  by_cases hs : ∃ s, d = .str s
  · obtain ⟨s, rfl⟩ := hs
    simp only [gIx] at hz
    cases c : atI s.cps.toList i with
    | none => rw [c] at hz; cases hz
    | some y =>
      rw [c] at hz; cases hz
      exact .inr (.inr ⟨s, i, y, hd.str_eq.1, he.int_eq, by rw [sl_eq]; exact hd.str_eq.2, c, q _ Z H (Grw.refl ok) (B.str (by show (1 : Nat) ≤ 16777216; decide))⟩)
  · have hz' : (match d.its with | some l => atI l i | none => none) = some z := by
      cases d <;> first | exact hz | exact absurd ⟨_, rfl⟩ hs
    cases e : d.its with
    | none => rw [e] at hz'; cases hz'
    | some l =>
      rw [e] at hz'
      obtain ⟨a, xs, fq, e1, h1, h2⟩ := hd.seq ok.zh e
      obtain ⟨x, h3, h4⟩ := Rs.at h2 hz'
      rcases h1 with h1 | h1
      · exact .inl ⟨a, xs, i, x, e1, he.int_eq, h1, h3, q _ Z H (Grw.refl ok) h4⟩
      · exact .inr (.inl ⟨a, xs, i, x, e1, he.int_eq, h1, h3, q _ Z H (Grw.refl ok) h4⟩)
theorem cp_ix {ma mb : Rho → Option (O D)} (ha : PE X a (cP (gx X T) W ma)) (hb : PE X b (cP (gx X T) W mb)) (hs : PlainIx b := by exact fun _ _ => rfl) : PE X (.Subscript a b pos) (cP (gx X T) W (m2 gIx ma mb)) :=
  (pe_ix ix_seq ha hb hs).imp fun _ _ _ h => c2 pr_ix h

/-! slices -/
def cPO (g : G) (W : WX) (m : Rho → Option (O (Option Int))) : TO := fun σ H Q => ∃ Z ρ fp o, m ρ = some o ∧ Ok g Z H fp ∧ RE g Z H ρ σ fp ∧ match o with
  | .ok d => ∀ Z' H', Grw g Z H Z' H' → Q d H'
  | .exc c ks vs => ∀ cls dx Z' H', Grw g Z H Z' H' → XRp g Z' H' c ks vs cls dx → W cls dx σ H'
theorem _root_.L2.PO.imp {X : Cx} {e : Option Expr} {t t' : TO} (h : PO X e t) (i : ∀ σ H Q, t' σ H Q → t σ H Q) : PO X e t' := ⟨fun pins s σ H Q I q => h.run pins s σ H Q I (i σ H Q q)⟩
theorem cPO.go {g : G} {W : WX} {σ : L2.St} {Z H : Hp} {ρ : Rho} {fp : List Addr} {m : Rho → Option (O (Option Int))} {β : Type} {k : Option Int → Option (O β)} {o : O β} {Q : Option Int → Hp → Prop} (h : bnd (m ρ) k = some o) (ok : Ok g Z H fp) (re : RE g Z H ρ σ fp)
    (hx : ∀ c ks vs, o = .exc c ks vs → ∀ cls dx Z' H', Grw g Z H Z' H' → XRp g Z' H' c ks vs cls dx → W cls dx σ H')
    (hk : ∀ d Z' H', k d = some o → Grw g Z H Z' H' → Ok g Z' H' fp → RE g Z' H' ρ σ fp → Q d H') : cPO g W m σ H Q := by
  rcases bnd_some h with ⟨a, e, hka⟩ | ⟨c, ks, vs, e, eo⟩
  · exact ⟨Z, ρ, fp, _, e, ok, re, fun Z' H' gr => hk a Z' H' hka gr (Grw.ok gr ok) (re.grow gr)⟩
  · exact ⟨Z, ρ, fp, _, e, ok, re, fun cls dx Z' H' gr x => hx c ks vs eo cls dx Z' H' gr x⟩
def mNoPart : Rho → Option (O (Option Int)) := fun _ => some (.ok none)
def asI : D → Option Int
  | .int i => some i
  | _ => none
def mPart (m : Rho → Option (O D)) : Rho → Option (O (Option Int)) := fun ρ => bnd (m ρ) fun d => ret ((asI d).map some)
theorem cpo_none : PO X none (cPO (gx X T) W mNoPart) := po_none.imp fun σ H Q ⟨Z, ρ, fp, o, hm, ok, re, q⟩ => by
  cases Option.some.inj hm
  exact q Z H (Grw.refl ok)
theorem cpo_some {m : Rho → Option (O D)} (h : PE X e (cP (gx X T) W m)) : PO X (some e) (cPO (gx X T) W (mPart m)) := (po_some h).imp fun σ H Q ⟨Z, ρ, fp, o, hm, ok, re, q⟩ => by
  refine cP.go hm ok re (fun c ks vs e => by subst e; exact q) fun x v Z1 H1 hm1 g1 ok1 re1 b1 => ?_
  obtain ⟨z, hz, rfl⟩ := ret_eq hm1
  cases x <;> simp only [asI] at hz <;> try contradiction
  cases hz
  exact ⟨_, b1.int_eq, q Z1 H1 g1⟩
def cutD {α : Type} (xs : List α) (lo hi : Option Int) : List α := (xs.drop (HT.sIx xs.length 0 lo)).take (HT.sIx xs.length xs.length hi - HT.sIx xs.length 0 lo)
theorem Rs.cut {g : G} {Z H : Hp} {l : List D} {xs : List V} (lo hi : Option Int) (h : Rs g Z H l xs []) : Rs g Z H (cutD l lo hi) (cutV xs lo hi) [] := by
  unfold cutD cutV
  rw [Rs.len h]
  exact (h.drop _).take _
def gSl (d : D) (lo hi : Option Int) : Option D := match d with
  | .str s => some (.str (cutS s lo hi))
  | .lst _ l => if D.frzs l then some (.lst false (cutD l lo hi)) else none
  | .xls l => some (.lst false (cutD l lo hi))
  | .tup l => some (.tup (cutD l lo hi))
  | _ => none
def mSl (me : Rho → Option (O D)) (ml mh : Rho → Option (O (Option Int))) : Rho → Option (O D) := fun ρ => bnd (me ρ) fun d => bnd (ml ρ) fun lo => bnd (mh ρ) fun hi => ret (gSl d lo hi)
def rSl3 (K : PySem.W.Frag) : V → Option Int → Option Int → Hp → VK → Prop := fun x lo hi H Q => rSlS x lo hi H Q ∨ rSlL K x lo hi H Q ∨ rSlA K x lo hi H Q
theorem sl_3 : SlR X (rSl3 X.K) := sl_str.or (sl_list.or sl_tupA)
theorem cut_whole {α : Type} {xs : List α} {lo hi : Option Int} (h1 : HT.sIx xs.length 0 lo = 0) (h2 : HT.sIx xs.length xs.length hi = xs.length) : cutD xs lo hi = xs := by
  unfold cutD
  rw [h1, h2]
  simp
theorem pr_sl {Z H : Hp} {d z : D} {v : V} {lo hi : Option Int} {Q : VK} (ok : Ok (gx X T) Z H []) (hd : B (gx X T) Z H d v) (hz : gSl d lo hi = some z) (q : ∀ u Z' H', Grw (gx X T) Z H Z' H' → B (gx X T) Z' H' z u → Q u H') : rSl3 X.K v lo hi H Q := by
  cases d <;> simp only [gSl] at hz <;> try contradiction
  · cases hz
    obtain ⟨e1, e2⟩ := hd.str_eq
    exact .inl ⟨_, e1, by rw [sl_eq]; exact e2, q _ Z H (Grw.refl ok) (B.str (Nat.le_trans (cutS_length _ _ _) e2))⟩
  · rename_i l
    cases hz
    obtain ⟨a, xs, e1, h1, h2⟩ := hd.tup ok.zh
    refine .inr (.inr ⟨a, xs, e1, h1, fun w => ?_, fun _ => newT ok (Rs.cut lo hi h2) q⟩)
    refine q _ Z H (Grw.refl ok) ?_
    rw [Rs.len h2] at w
    rw [cut_whole w.1 w.2, ← e1]
    exact hd
  · split at hz
    · rename_i c
      cases hz
      obtain ⟨a, xs, fq, e1, h1, h2⟩ := hd.lst ok.zh
      rw [Rs.frz c h2] at h2
      exact .inr (.inl ⟨a, xs, e1, SqL.of h1, newL ok (Rs.cut lo hi h2) q⟩)
    · cases hz
  · cases hz
    obtain ⟨a, xs, e1, h1, h2⟩ := hd.xls ok.zh
    exact .inr (.inl ⟨a, xs, e1, h1, newL ok (Rs.cut lo hi h2) q⟩)
theorem cp_sl {lo hi : Option Expr} {p2 : Pos} {me : Rho → Option (O D)} {ml mh : Rho → Option (O (Option Int))} (he : PE X e (cP (gx X T) W me)) (hl : PO X lo (cPO (gx X T) W ml)) (hh : PO X hi (cPO (gx X T) W mh)) :
    PE X (.Subscript e (.Slice lo hi none p2) pos) (cP (gx X T) W (mSl me ml mh)) := (pe_slice sl_3 he hl hh).imp fun σ H Q ⟨Z, ρ, fp, o, hm, ok, re, q⟩ => by
  refine cP.go hm ok re q.x fun x v Z1 H1 hm1 g1 ok1 re1 b1 => ?_
  refine cPO.go hm1 ok1 re1 (q.mono g1).x fun l Z2 H2 hm2 g2 ok2 re2 => ?_
  refine cPO.go hm2 ok2 re2 (q.mono (g1.trans g2)).x fun u Z3 H3 hm3 g3 ok3 re3 => ?_
  obtain ⟨z, hz, rfl⟩ := ret_eq hm3
  exact pr_sl ok3.none ((b1.grow g2).grow g3) hz fun u Z4 H4 g4 b4 => q u Z4 H4 (((g1.trans g2).trans g3).trans g4) b4

/-! ### displays -/
def mTup (ma : Rho → Option (O (List D))) : Rho → Option (O D) := fun ρ => bnd (ma ρ) fun l => if D.frzs l && decide (l.length ≤ 16777216) then some (.ok (.tup l)) else none
theorem cp_tup {x1} {ma : Rho → Option (O (List D))} (h : PA X es (cPA (gx X T) W ma)) : PE X (.Tuple es x1 pos) (cP (gx X T) W (mTup ma)) := (pe_tup h).imp fun σ H Q ⟨Z, ρ, fp, o, hm, ok, re, q⟩ => by
  refine cPA.go hm ok re q.x fun l vs Z1 H1 hm1 g1 ok1 re1 b1 => ?_
  split at hm1
  · rename_i c
    cases Option.some.inj hm1
    simp only [Bool.and_eq_true, decide_eq_true_eq] at c
    have r := Bs.rs b1 c.1
    exact ⟨by rw [Rs.len r, sl_eq]; exact c.2, newT ok1.none r fun u Z3 H3 g3 b3 => q u Z3 H3 (g1.trans g3) b3⟩
  · cases hm1
/-- a list display, frozen at once -/
def mLst (ma : Rho → Option (O (List D))) : Rho → Option (O D) := fun ρ => bnd (ma ρ) fun l => if D.frzs l && decide (l.length ≤ 16777216) then some (.ok (.lst false l)) else none
theorem cp_lst {ma : Rho → Option (O (List D))} (h : PA X es (cPA (gx X T) W ma)) : PE X (.List es pos) (cP (gx X T) W (mLst ma)) := (pe_lst h).imp fun σ H Q ⟨Z, ρ, fp, o, hm, ok, re, q⟩ => by
  refine cPA.go hm ok re q.x fun l vs Z1 H1 hm1 g1 ok1 re1 b1 => ?_
  split at hm1
  · rename_i c
    cases Option.some.inj hm1
    simp only [Bool.and_eq_true, decide_eq_true_eq] at c
    have r := Bs.rs b1 c.1
    exact ⟨by rw [Rs.len r, sl_eq]; exact c.2, newL ok1.none r fun u Z3 H3 g3 b3 => q u Z3 H3 (g1.trans g3) b3⟩
  · cases hm1
end
end OP

/-! OD: expressions whose values are owned (the slots' data may change) -/
namespace OP
open PySem PySem.Spec PyProof.Rows L2

def bE {α β : Type} (m : Option (O α × Rho)) (k : α → Rho → Option (O β × Rho)) : Option (O β × Rho) :=
  match m with
  | some (.ok a, ρ) => k a ρ
  | some (.exc c ks vs, ρ) => some (.exc c ks vs, ρ)
  | none => none
@[simp] theorem bE_ok {α β : Type} (a : α) (ρ : Rho) (k : α → Rho → Option (O β × Rho)) : bE (some (.ok a, ρ)) k = k a ρ := rfl
@[simp] theorem bE_exc {α β : Type} (c ks vs ρ) (k : α → Rho → Option (O β × Rho)) : bE (some (.exc c ks vs, ρ)) k = some (.exc c ks vs, ρ) := rfl
@[simp] theorem bE_none {α β : Type} (k : α → Rho → Option (O β × Rho)) : bE none k = none := rfl
theorem bE_some {α β : Type} {m : Option (O α × Rho)} {k : α → Rho → Option (O β × Rho)} {x : O β × Rho} (h : bE m k = some x) :
    (∃ a ρ, m = some (.ok a, ρ) ∧ k a ρ = some x) ∨ ∃ c ks vs ρ, m = some (.exc c ks vs, ρ) ∧ x = (.exc c ks vs, ρ) := by
  cases m with
  | none => cases h
  | some y =>
    obtain ⟨o, ρ⟩ := y
    cases o with
    | ok a => exact .inl ⟨a, ρ, rfl, h⟩
    | exc c ks vs => exact .inr ⟨c, ks, vs, ρ, rfl, (Option.some.inj h).symm⟩
def retE {α : Type} (o : Option α) (ρ : Rho) : Option (O α × Rho) := o.map fun a => (O.ok a, ρ)
@[simp] theorem retE_some {α : Type} (a : α) (ρ : Rho) : retE (some a) ρ = some (.ok a, ρ) := rfl
@[simp] theorem retE_none {α : Type} (ρ : Rho) : retE (none : Option α) ρ = none := rfl
theorem retE_eq {α : Type} {o : Option α} {ρ : Rho} {x : O α × Rho} (h : retE o ρ = some x) : ∃ a, o = some a ∧ x = (.ok a, ρ) := by
  cases o with
  | none => cases h
  | some a => exact ⟨a, rfl, (Option.some.inj h).symm⟩

abbrev ME := Rho → Option (O D × Rho)
abbrev MEA := Rho → Option (O (List D) × Rho)
abbrev MET := Rho → Option (O Bool × Rho)
/-- the exceptions' half of what is posted -/
def PostX (g : G) (W : WX) (σ : L2.St) (Z H : Hp) (fp : List Addr) (c : Str) (ks : List Str) (vs : List D) (ρ' : Rho) : Prop :=
  ∀ cls dx Z' H' fe, Stp g Z H fp Z' H' fe → RE g Z' H' ρ' σ fe → XRp g Z' H' c ks vs cls dx → W cls dx σ H'
def PostE (g : G) (W : WX) (σ : L2.St) (Z H : Hp) (fp : List Addr) (x : O D × Rho) (Q : VK) : Prop := match x with
  | (.ok d, ρ') => ∀ v Z' H' fe fd, Stp g Z H fp Z' H' (fe ++ fd) → RE g Z' H' ρ' σ fe → R g Z' H' d v fd → Q v H'
  | (.exc c ks vs, ρ') => PostX g W σ Z H fp c ks vs ρ'
def cE (g : G) (W : WX) (m : ME) : TE := fun σ H Q => ∃ Z ρ fp x, m ρ = some x ∧ Ok g Z H fp ∧ RE g Z H ρ σ fp ∧ PostE g W σ Z H fp x Q
def PostEA (g : G) (W : WX) (σ : L2.St) (Z H : Hp) (fp : List Addr) (x : O (List D) × Rho) (Q : List V → Hp → Prop) : Prop := match x with
  | (.ok d, ρ') => ∀ v Z' H' fe fd, Stp g Z H fp Z' H' (fe ++ fd) → RE g Z' H' ρ' σ fe → Rs g Z' H' d v fd → Q v H'
  | (.exc c ks vs, ρ') => PostX g W σ Z H fp c ks vs ρ'
def cEA (g : G) (W : WX) (m : MEA) : TA := fun σ H Q => ∃ Z ρ fp x, m ρ = some x ∧ Ok g Z H fp ∧ RE g Z H ρ σ fp ∧ PostEA g W σ Z H fp x Q
def PostET (g : G) (W : WX) (σ : L2.St) (Z H : Hp) (fp : List Addr) (x : O Bool × Rho) (Q : Bool → Hp → Prop) : Prop := match x with
  | (.ok b, ρ') => ∀ Z' H' fe, Stp g Z H fp Z' H' fe → RE g Z' H' ρ' σ fe → Q b H'
  | (.exc c ks vs, ρ') => PostX g W σ Z H fp c ks vs ρ'
def cET (g : G) (W : WX) (m : MET) : TT := fun σ H Q => ∃ Z ρ fp x, m ρ = some x ∧ Ok g Z H fp ∧ RE g Z H ρ σ fp ∧ PostET g W σ Z H fp x Q

section
variable {g : G} {W : WX} {σ : L2.St} {Z H Z1 H1 : Hp} {ρ ρ1 : Rho} {fp f1 : List Addr}
theorem PostX.mono {c ks vs ρ'} (h : PostX g W σ Z H fp c ks vs ρ') (s : Stp g Z H fp Z1 H1 f1) : PostX g W σ Z1 H1 f1 c ks vs ρ' := fun cls dx Z' H' fe s' r x => h cls dx Z' H' fe (s.trans s') r x
/-- what is posted of the exceptions of x, as a hypothesis for the pieces -/
def XH (g : G) (W : WX) (σ : L2.St) (Z H : Hp) (fp : List Addr) {β : Type} (x : O β × Rho) : Prop := ∀ c ks vs ρ', x = (.exc c ks vs, ρ') → PostX g W σ Z H fp c ks vs ρ'
theorem XH.mono {β : Type} {x : O β × Rho} (h : XH g W σ Z H fp x) (s : Stp g Z H fp Z1 H1 f1) : XH g W σ Z1 H1 f1 x := fun c ks vs ρ' e => (h c ks vs ρ' e).mono s
theorem PostE.x {x : O D × Rho} {Q : VK} (h : PostE g W σ Z H fp x Q) : XH g W σ Z H fp x := fun c ks vs ρ' e => by subst e; exact h
theorem PostEA.x {x : O (List D) × Rho} {Q : List V → Hp → Prop} (h : PostEA g W σ Z H fp x Q) : XH g W σ Z H fp x := fun c ks vs ρ' e => by subst e; exact h
theorem PostET.x {x : O Bool × Rho} {Q : Bool → Hp → Prop} (h : PostET g W σ Z H fp x Q) : XH g W σ Z H fp x := fun c ks vs ρ' e => by subst e; exact h
theorem PostE.mono {x : O D × Rho} {Q : VK} (h : PostE g W σ Z H fp x Q) (s : Stp g Z H fp Z1 H1 f1) : PostE g W σ Z1 H1 f1 x Q := by
  obtain ⟨o, ρ'⟩ := x
  cases o with
  | ok d => exact fun v Z' H' fe fd s' r q => h v Z' H' fe fd (s.trans s') r q
  | exc c ks vs => exact PostX.mono h s
theorem PostEA.mono {x : O (List D) × Rho} {Q : List V → Hp → Prop} (h : PostEA g W σ Z H fp x Q) (s : Stp g Z H fp Z1 H1 f1) : PostEA g W σ Z1 H1 f1 x Q := by
  obtain ⟨o, ρ'⟩ := x
  cases o with
  | ok d => exact fun v Z' H' fe fd s' r q => h v Z' H' fe fd (s.trans s') r q
  | exc c ks vs => exact PostX.mono h s
theorem PostET.mono {x : O Bool × Rho} {Q : Bool → Hp → Prop} (h : PostET g W σ Z H fp x Q) (s : Stp g Z H fp Z1 H1 f1) : PostET g W σ Z1 H1 f1 x Q := by
  obtain ⟨o, ρ'⟩ := x
  cases o with
  | ok d => exact fun Z' H' fe s' r => h Z' H' fe (s.trans s') r
  | exc c ks vs => exact PostX.mono h s
theorem cE.go {m : ME} {β : Type} {k : D → Rho → Option (O β × Rho)} {x : O β × Rho} {Q : VK} (h : bE (m ρ) k = some x) (ok : Ok g Z H fp) (re : RE g Z H ρ σ fp) (hx : XH g W σ Z H fp x)
    (hk : ∀ d v ρ1 Z1 H1 fe fd, k d ρ1 = some x → Stp g Z H fp Z1 H1 (fe ++ fd) → RE g Z1 H1 ρ1 σ fe → R g Z1 H1 d v fd → Q v H1) : cE g W m σ H Q := by
  rcases bE_some h with ⟨a, ρ1, e, hka⟩ | ⟨c, ks, vs, ρ1, e, eo⟩
  · exact ⟨Z, ρ, fp, _, e, ok, re, fun v Z' H' fe fd s r q => hk a v ρ1 Z' H' fe fd hka s r q⟩
  · exact ⟨Z, ρ, fp, _, e, ok, re, hx c ks vs ρ1 eo⟩
theorem cEA.go {m : MEA} {β : Type} {k : List D → Rho → Option (O β × Rho)} {x : O β × Rho} {Q : List V → Hp → Prop} (h : bE (m ρ) k = some x) (ok : Ok g Z H fp) (re : RE g Z H ρ σ fp) (hx : XH g W σ Z H fp x)
    (hk : ∀ d v ρ1 Z1 H1 fe fd, k d ρ1 = some x → Stp g Z H fp Z1 H1 (fe ++ fd) → RE g Z1 H1 ρ1 σ fe → Rs g Z1 H1 d v fd → Q v H1) : cEA g W m σ H Q := by
  rcases bE_some h with ⟨a, ρ1, e, hka⟩ | ⟨c, ks, vs, ρ1, e, eo⟩
  · exact ⟨Z, ρ, fp, _, e, ok, re, fun v Z' H' fe fd s r q => hk a v ρ1 Z' H' fe fd hka s r q⟩
  · exact ⟨Z, ρ, fp, _, e, ok, re, hx c ks vs ρ1 eo⟩
theorem cET.go {m : MET} {β : Type} {k : Bool → Rho → Option (O β × Rho)} {x : O β × Rho} {Q : Bool → Hp → Prop} (h : bE (m ρ) k = some x) (ok : Ok g Z H fp) (re : RE g Z H ρ σ fp) (hx : XH g W σ Z H fp x)
    (hk : ∀ d ρ1 Z1 H1 fe, k d ρ1 = some x → Stp g Z H fp Z1 H1 fe → RE g Z1 H1 ρ1 σ fe → Q d H1) : cET g W m σ H Q := by
  rcases bE_some h with ⟨a, ρ1, e, hka⟩ | ⟨c, ks, vs, ρ1, e, eo⟩
  · exact ⟨Z, ρ, fp, _, e, ok, re, fun Z' H' fe s r => hk a ρ1 Z' H' fe hka s r⟩
  · exact ⟨Z, ρ, fp, _, e, ok, re, hx c ks vs ρ1 eo⟩
end

section
variable {X : Cx} {T : List (Addr × Str)} {W : WX} {e a b : Expr} {pos : Pos} {es : List Expr}
/-- a pure one, its value frozen -/
def eP (m : Rho → Option (O D)) : ME := fun ρ => match m ρ with
  | some (.ok d) => if d.frz then some (.ok d, ρ) else none
  | some (.exc c ks vs) => some (.exc c ks vs, ρ)
  | none => none
theorem ce_p {m : Rho → Option (O D)} (h : PE X e (cP (gx X T) W m)) : PE X e (cE (gx X T) W (eP m)) := h.imp fun σ H Q ⟨Z, ρ, fp, x, hm, ok, re, q⟩ => by
  unfold eP at hm
  split at hm
  · rename_i d e1
    split at hm
    · rename_i f
      cases Option.some.inj hm
      refine ⟨Z, ρ, fp, _, e1, ok, re, fun v Z' H' gr b => q v Z' H' fp [] ?_ (re.grow gr) (b.frz f)⟩
      rw [List.append_nil]
      exact Grw.stp gr ok
    · cases hm
  · rename_i c ks vs e1
    cases Option.some.inj hm
    exact ⟨Z, ρ, fp, _, e1, ok, re, fun cls dx Z' H' gr x => q cls dx Z' H' fp (Grw.stp gr ok) (re.grow gr) x⟩
  · cases hm
def etP (m : Rho → Option (O Bool)) : MET := fun ρ => match m ρ with
  | some (.ok d) => some (.ok d, ρ)
  | some (.exc c ks vs) => some (.exc c ks vs, ρ)
  | none => none
theorem cet_p {m : Rho → Option (O Bool)} (h : PT X e (cPT (gx X T) W m)) : PT X e (cET (gx X T) W (etP m)) := h.imp fun σ H Q ⟨Z, ρ, fp, x, hm, ok, re, q⟩ => by
  unfold etP at hm
  split at hm
  · rename_i d e1
    cases Option.some.inj hm
    exact ⟨Z, ρ, fp, _, e1, ok, re, fun Z' H' gr => q Z' H' fp (Grw.stp gr ok) (re.grow gr)⟩
  · rename_i c ks vs e1
    cases Option.some.inj hm
    exact ⟨Z, ρ, fp, _, e1, ok, re, fun cls dx Z' H' gr x => q cls dx Z' H' fp (Grw.stp gr ok) (re.grow gr) x⟩
  · cases hm
theorem set_self {α : Type} {σ : List α} {i : Nat} {y : α} (h : σ[i]? = some y) : σ.set i y = σ := by
  refine List.ext_getElem? fun j => ?_
  by_cases q : i = j
  · subst q
    have hi : i < σ.length := by
      obtain ⟨hi, _⟩ := List.getElem?_eq_some_iff.mp h
      exact hi
    rw [List.getElem?_set_self hi, h]
  · rw [List.getElem?_set_ne q]
/-- a name: what it holds is frozen -/
def eName (i : Nat) : ME := fun ρ => match (ρ[i]?).join with
  | some d => some (.ok d.fz, ρ.set i (some d.fz))
  | none => none
/-- a name for the last time: what it holds is handed on -/
def eMove (i : Nat) : ME := fun ρ => match (ρ[i]?).join with
  | some d => some (.ok d, ρ.set i none)
  | none => none
theorem join_eq {α : Type} {l : List (Option α)} {i : Nat} {d : α} (h : (l[i]?).join = some d) : l[i]? = some (some d) := by
  cases e : l[i]? with
  | none => rw [e] at h; cases h
  | some y => rw [e] at h; rw [show y = some d from h]
theorem ce_name {i : Nat} (h : PE X e (tVar i)) : PE X e (cE (gx X T) W (eName i)) := h.imp fun σ H Q ⟨Z, ρ, fp, x, hm, ok, re, q⟩ => by
  unfold eName at hm
  split at hm
  · rename_i d e1
    cases Option.some.inj hm
    obtain ⟨y, f1, fi, f2, h1, h2, ⟨v, e2, r⟩, ex⟩ := re.at (join_eq e1)
    subst h2
    have p : (f1 ++ fi ++ f2).Perm (fi ++ (f1 ++ f2)) := by
      rw [List.append_assoc]
      exact (List.perm_append_comm_assoc f1 fi f2)
    obtain ⟨Z', s, r'⟩ := r.toFz (ok.perm p)
    have s' := s.permL p.symm
    refine ⟨v, by rw [h1, e2], q v Z' H (f1 ++ f2) [] (by rw [List.append_nil]; exact s') ?_ r'⟩
    have := ex Z' H (some d.fz) y [] s'.zz (fun _ _ => rfl) ⟨v, e2, r'⟩
    rw [set_self h1, List.append_nil] at this
    exact this
  · cases hm
theorem ce_move {i : Nat} (h : PE X e (tVar i)) : PE X e (cE (gx X T) W (eMove i)) := h.imp fun σ H Q ⟨Z, ρ, fp, x, hm, ok, re, q⟩ => by
  unfold eMove at hm
  split at hm
  · rename_i d e1
    cases Option.some.inj hm
    obtain ⟨y, f1, fi, f2, h1, h2, ⟨v, e2, r⟩, ex⟩ := re.at (join_eq e1)
    subst h2
    have p : (f1 ++ fi ++ f2).Perm ((f1 ++ f2) ++ fi) := by
      rw [List.append_assoc, List.append_assoc]
      exact List.Perm.append_left f1 List.perm_append_comm
    refine ⟨v, by rw [h1, e2], q v Z H (f1 ++ f2) fi ((Stp.refl (ok.perm p)).permL p.symm) ?_ r⟩
    have := ex Z H none y [] (Sub.refl _) (fun _ _ => rfl) rfl
    rw [set_self h1, List.append_nil] at this
    exact this
  · cases hm

/-! ### two-place operations, their operands owned -/
def e2 (f : D → D → Option D) (ma mb : ME) : ME := fun ρ => bE (ma ρ) fun x ρ1 => bE (mb ρ1) fun y ρ2 => match f x y with
  | some z => if z.frz then some (.ok z, ρ2) else none
  | none => none
theorem ec2 {r : R2} {f : D → D → Option D} {ma mb : ME} {σ : L2.St} {H : Hp} {Q : VK} (hr : PR2 (gx X T) r f) (h : cE (gx X T) W (e2 f ma mb) σ H Q) : tOp r (cE (gx X T) W ma) (cE (gx X T) W mb) σ H Q := by
  obtain ⟨Z, ρ, fp, x, hm, ok, re, q⟩ := h
  refine cE.go hm ok re q.x fun d v ρ1 Z1 H1 fe1 fd1 hm1 s1 re1 r1 => ?_
  have s1' := s1.drop
  refine cE.go hm1 s1'.ok re1 (q.x.mono s1') fun y w ρ2 Z2 H2 fe2 fd2 hm2 s2 re2 r2 => ?_
  have r1' := r1.frame s1.ok s2
  have s3 : Stp (gx X T) Z H fp Z2 H2 fe2 := by
    have := s1.trans (s2.frame s1.ok)
    rw [List.append_assoc] at this
    exact this.drop
  split at hm2
  · rename_i z hz
    split at hm2
    · rename_i f
      cases Option.some.inj hm2
      refine hr Z2 H2 d y v w z s3.ok.none ⟨_, r1'⟩ ⟨_, r2⟩ hz Q fun u Z3 H3 g3 b3 => q u Z3 H3 fe2 [] ?_ (re2.grow g3) (b3.frz f)
      rw [List.append_nil]
      exact s3.trans (Grw.stp g3 s3.ok)
    · cases hm2
  · cases hm2
theorem ce_bin {op : Operator} {r : R2} {f : D → D → Option D} {ma mb : ME} (ho : OpR X (binaryOp op) r) (hr : PR2 (gx X T) r f) (ha : PE X a (cE (gx X T) W ma)) (hb : PE X b (cE (gx X T) W mb)) : PE X (.BinOp a op b pos) (cE (gx X T) W (e2 f ma mb)) :=
  (pe_op ho ha hb).imp fun _ _ _ h => ec2 hr h
theorem ce_cmp {op : CmpOp} {r : R2} {f : D → D → Option D} {ma mb : ME} (ho : OpR X (compareOp op) r) (hr : PR2 (gx X T) r f) (ha : PE X a (cE (gx X T) W ma)) (hb : PE X b (cE (gx X T) W mb)) (hm : behindInMarks op b = false) :
    PE X (.Compare a [op] [b] pos) (cE (gx X T) W (e2 f ma mb)) := (pe_cmpR ho ha hb hm).imp fun _ _ _ h => ec2 hr h
theorem ce_ix {ma mb : ME} (ha : PE X a (cE (gx X T) W ma)) (hb : PE X b (cE (gx X T) W mb)) (hs : PlainIx b := by exact fun _ _ => rfl) : PE X (.Subscript a b pos) (cE (gx X T) W (e2 gIx ma mb)) :=
  (pe_ix ix_seq ha hb hs).imp fun _ _ _ h => ec2 pr_ix h
/-! tests -/
def eT (m : ME) : MET := fun ρ => bE (m ρ) fun d ρ1 => retE (asB d) ρ1
theorem ecT {m : ME} {σ : L2.St} {H : Hp} {Q : Bool → Hp → Prop} (h : cET (gx X T) W (eT m) σ H Q) : cE (gx X T) W m σ H fun x H' => ∃ k, x = .bl k ∧ Q k H' := by
  obtain ⟨Z, ρ, fp, x, hm, ok, re, q⟩ := h
  refine cE.go hm ok re q.x fun d v ρ1 Z1 H1 fe1 fd1 hm1 s1 re1 r1 => ?_
  obtain ⟨z, hz, rfl⟩ := retE_eq hm1
  rw [asB_eq hz] at r1
  exact ⟨z, r1.1, q Z1 H1 fe1 s1.drop re1⟩
theorem cet_cmp {op : CmpOp} {r : R2} {f : D → D → Option D} {ma mb : ME} (ho : OpR X (compareOp op) r) (hr : PR2 (gx X T) r f) (ha : PE X a (cE (gx X T) W ma)) (hb : PE X b (cE (gx X T) W mb)) (hm : behindInMarks op b = false) :
    PT X (.Compare a [op] [b] pos) (cET (gx X T) W (eT (e2 f ma mb))) := (pt_cmpR ho ha hb hm).imp fun σ H Q h => by
  obtain ⟨Z, ρ, fp, o, hm, ok, re, q⟩ := ecT h
  exact ec2 hr ⟨Z, ρ, fp, o, hm, ok, re, q⟩
theorem cet_val {m : ME} (h : PE X e (cE (gx X T) W m)) (he : ∀ whole, isTrue e X.env whole = (do let v ← whole; standAt e.pos; holding [v] (truthy v)) := by intro _; rfl) : PT X e (cET (gx X T) W (eT m)) :=
  (pt_val h he).imp fun σ H Q h => ecT h
variable {rest : List Expr}
def eAndT (ma mb : MET) : MET := fun ρ => bE (ma ρ) fun x ρ1 => if x = true then mb ρ1 else some (.ok false, ρ1)
def eOrT (ma mb : MET) : MET := fun ρ => bE (ma ρ) fun x ρ1 => if x = true then some (.ok true, ρ1) else mb ρ1
def eNotT (ma : MET) : MET := fun ρ => bE (ma ρ) fun x ρ1 => some (.ok (!x), ρ1)
theorem cet_and {ma mb : MET} (ha : PT X a (cET (gx X T) W ma)) (hb : PW X (.BoolOp .And (b :: rest) pos) (cET (gx X T) W mb)) : PW X (.BoolOp .And (a :: b :: rest) pos) (cET (gx X T) W (eAndT ma mb)) :=
  (pw_and ha hb).imp fun σ H Q ⟨Z, ρ, fp, o, hm, ok, re, q⟩ => by
    refine cET.go hm ok re q.x fun x ρ1 Z1 H1 fe1 hm1 s1 re1 => ?_
    cases x with
    | true => exact ⟨Z1, ρ1, fe1, o, hm1, s1.ok, re1, q.mono s1⟩
    | false => cases Option.some.inj hm1; exact q Z1 H1 fe1 s1 re1
theorem cet_or {ma mb : MET} (ha : PT X a (cET (gx X T) W ma)) (hb : PW X (.BoolOp .Or (b :: rest) pos) (cET (gx X T) W mb)) : PW X (.BoolOp .Or (a :: b :: rest) pos) (cET (gx X T) W (eOrT ma mb)) :=
  (pw_or ha hb).imp fun σ H Q ⟨Z, ρ, fp, o, hm, ok, re, q⟩ => by
    refine cET.go hm ok re q.x fun x ρ1 Z1 H1 fe1 hm1 s1 re1 => ?_
    cases x with
    | false => exact ⟨Z1, ρ1, fe1, o, hm1, s1.ok, re1, q.mono s1⟩
    | true => cases Option.some.inj hm1; exact q Z1 H1 fe1 s1 re1
theorem cet_not {ma : MET} (ha : PT X a (cET (gx X T) W ma)) : PT X (.UnaryOp .Not a pos) (cET (gx X T) W (eNotT ma)) :=
  (pt_not ha).imp fun σ H Q ⟨Z, ρ, fp, o, hm, ok, re, q⟩ => by
    refine cET.go hm ok re q.x fun x ρ1 Z1 H1 fe1 hm1 s1 re1 => ?_
    cases Option.some.inj hm1; exact q Z1 H1 fe1 s1 re1
/-- and, or, not as values -/
def eAnd (ma mb : ME) : ME := fun ρ => bE (ma ρ) fun x ρ1 => bE (retE (asB x) ρ1) fun c ρ1 => if c = true then mb ρ1 else some (.ok (.bl false), ρ1)
def eOr (ma mb : ME) : ME := fun ρ => bE (ma ρ) fun x ρ1 => bE (retE (asB x) ρ1) fun c ρ1 => if c = true then some (.ok (.bl true), ρ1) else mb ρ1
def eNot (ma : ME) : ME := fun ρ => bE (ma ρ) fun x ρ1 => bE (retE (asB x) ρ1) fun c ρ1 => some (.ok (.bl (!c)), ρ1)
theorem Stp.nilR {g : G} {Z H Z' H' : Hp} {fp fe : List Addr} (s : Stp g Z H fp Z' H' fe) : Stp g Z H fp Z' H' (fe ++ []) := by rw [List.append_nil]; exact s
theorem ce_and {ma mb : ME} (ha : PE X a (cE (gx X T) W ma)) (hb : PE X (.BoolOp .And (b :: rest) pos) (cE (gx X T) W mb)) : PE X (.BoolOp .And (a :: b :: rest) pos) (cE (gx X T) W (eAnd ma mb)) :=
  (pe_and ha hb).imp fun σ H Q ⟨Z, ρ, fp, o, hm, ok, re, q⟩ => by
    refine cE.go hm ok re q.x fun x v ρ1 Z1 H1 fe1 fd1 hm1 s1 re1 r => ?_
    rcases bE_some hm1 with ⟨c, ρ2, e, hm2⟩ | ⟨c, ks, vs, ρ2, e, _⟩
    · obtain ⟨c', hc, e2⟩ := retE_eq e
      cases e2
      rw [asB_eq hc] at r
      refine ⟨c, r.1, ?_⟩
      cases c with
      | true => exact ⟨Z1, _, fe1, o, hm2, s1.drop.ok, re1, q.mono s1.drop⟩
      | false => cases Option.some.inj hm2; exact q _ Z1 H1 fe1 [] s1.drop.nilR re1 ⟨rfl, rfl⟩
    · obtain ⟨_, _, e2⟩ := retE_eq e
      cases e2
theorem ce_or {ma mb : ME} (ha : PE X a (cE (gx X T) W ma)) (hb : PE X (.BoolOp .Or (b :: rest) pos) (cE (gx X T) W mb)) : PE X (.BoolOp .Or (a :: b :: rest) pos) (cE (gx X T) W (eOr ma mb)) :=
  (pe_or ha hb).imp fun σ H Q ⟨Z, ρ, fp, o, hm, ok, re, q⟩ => by
    refine cE.go hm ok re q.x fun x v ρ1 Z1 H1 fe1 fd1 hm1 s1 re1 r => ?_
    rcases bE_some hm1 with ⟨c, ρ2, e, hm2⟩ | ⟨c, ks, vs, ρ2, e, _⟩
    · obtain ⟨c', hc, e2⟩ := retE_eq e
      cases e2
      rw [asB_eq hc] at r
      refine ⟨c, r.1, ?_⟩
      cases c with
      | false => exact ⟨Z1, _, fe1, o, hm2, s1.drop.ok, re1, q.mono s1.drop⟩
      | true => cases Option.some.inj hm2; exact q _ Z1 H1 fe1 [] s1.drop.nilR re1 ⟨rfl, rfl⟩
    · obtain ⟨_, _, e2⟩ := retE_eq e
      cases e2
theorem ce_not {ma : ME} (ha : PE X a (cE (gx X T) W ma)) : PE X (.UnaryOp .Not a pos) (cE (gx X T) W (eNot ma)) :=
  (pe_not ha).imp fun σ H Q ⟨Z, ρ, fp, o, hm, ok, re, q⟩ => by
    refine cE.go hm ok re q.x fun x v ρ1 Z1 H1 fe1 fd1 hm1 s1 re1 r => ?_
    rcases bE_some hm1 with ⟨c, ρ2, e, hm2⟩ | ⟨c, ks, vs, ρ2, e, _⟩
    · obtain ⟨c', hc, e2⟩ := retE_eq e
      cases e2
      rw [asB_eq hc] at r
      refine ⟨c, r.1, ?_⟩
      cases Option.some.inj hm2; exact q _ Z1 H1 fe1 [] s1.drop.nilR re1 ⟨rfl, rfl⟩
    · obtain ⟨_, _, e2⟩ := retE_eq e
      cases e2
def eIf (mc : MET) (ma mb : ME) : ME := fun ρ => bE (mc ρ) fun x ρ1 => if x = true then ma ρ1 else mb ρ1
theorem ce_if {c : Expr} {mc : MET} {ma mb : ME} (hc : PT X c (cET (gx X T) W mc)) (ha : PE X a (cE (gx X T) W ma)) (hb : PE X b (cE (gx X T) W mb)) : PE X (.IfExp c a b pos) (cE (gx X T) W (eIf mc ma mb)) :=
  (pe_ifExp hc ha hb).imp fun σ H Q ⟨Z, ρ, fp, o, hm, ok, re, q⟩ => by
    refine cET.go hm ok re q.x fun x ρ1 Z1 H1 fe1 hm1 s1 re1 => ?_
    cases x with
    | true => exact ⟨Z1, ρ1, fe1, o, hm1, s1.ok, re1, q.mono s1⟩
    | false => exact ⟨Z1, ρ1, fe1, o, hm1, s1.ok, re1, q.mono s1⟩

/-! ### arguments and displays -/
def eNil : MEA := fun ρ => some (.ok [], ρ)
def eCons (ma : ME) (mr : MEA) : MEA := fun ρ => bE (ma ρ) fun x ρ1 => bE (mr ρ1) fun r ρ2 => some (.ok (x :: r), ρ2)
theorem cea_nil : PA X [] (cEA (gx X T) W eNil) := pa_nil.imp fun σ H Q ⟨Z, ρ, fp, o, hm, ok, re, q⟩ => by
  cases Option.some.inj hm
  exact q [] Z H fp [] (Stp.refl ok).nilR re ⟨rfl, rfl⟩
theorem cea_cons {ma : ME} {mr : MEA} (ha : PE X e (cE (gx X T) W ma)) (hr : PA X es (cEA (gx X T) W mr)) (hs : starEach (e :: es) X.env = (false, eval e X.env) :: starEach es X.env := by rfl) :
    PA X (e :: es) (cEA (gx X T) W (eCons ma mr)) := (pa_cons ha hr hs).imp fun σ H Q ⟨Z, ρ, fp, o, hm, ok, re, q⟩ => by
  refine cE.go hm ok re q.x fun d v ρ1 Z1 H1 fe1 fd1 hm1 s1 re1 r1 => ?_
  have s1' := s1.drop
  refine cEA.go hm1 s1'.ok re1 (q.x.mono s1') fun y w ρ2 Z2 H2 fe2 fd2 hm2 s2 re2 r2 => ?_
  have r1' := r1.frame s1.ok s2
  cases Option.some.inj hm2
  refine q (v :: w) Z2 H2 fe2 (fd1 ++ fd2) ?_ re2 ⟨v, w, fd1, fd2, rfl, rfl, r1', r2⟩
  refine (s1.trans (s2.frame s1.ok)).permR ?_
  rw [List.append_assoc]
  exact List.Perm.append_left fe2 List.perm_append_comm
/-- pure arguments -/
def eaP (m : Rho → Option (O (List D))) : MEA := fun ρ => match m ρ with
  | some (.ok d) => if D.frzs d then some (.ok d, ρ) else none
  | some (.exc c ks vs) => some (.exc c ks vs, ρ)
  | none => none
theorem cea_p {m : Rho → Option (O (List D))} (h : PA X es (cPA (gx X T) W m)) : PA X es (cEA (gx X T) W (eaP m)) := h.imp fun σ H Q ⟨Z, ρ, fp, x, hm, ok, re, q⟩ => by
  unfold eaP at hm
  split at hm
  · rename_i d e1
    split at hm
    · rename_i f
      cases Option.some.inj hm
      exact ⟨Z, ρ, fp, _, e1, ok, re, fun v Z' H' gr b => q v Z' H' fp [] (Grw.stp gr ok).nilR (re.grow gr) (Bs.rs b f)⟩
    · cases hm
  · rename_i c ks vs e1
    cases Option.some.inj hm
    exact ⟨Z, ρ, fp, _, e1, ok, re, fun cls dx Z' H' gr x => q cls dx Z' H' fp (Grw.stp gr ok) (re.grow gr) x⟩
  · cases hm
theorem Rs.toFz {g : G} {Z H : Hp} {d : List D} {v : List V} {ff fp : List Addr} (h : Rs g Z H d v ff) (k : Ok g Z H (ff ++ fp)) : ∃ Z', Stp g Z H (ff ++ fp) Z' H fp ∧ Rs g Z' H (D.fzs d) v [] :=
  ⟨_, Stp.freeze k (Rs.notbl h), Rs.freeze (Stp.freeze k (Rs.notbl h)).zz (fun a ha => if_pos ha) h⟩
/-- a tuple: its items are frozen -/
def eTup (ma : MEA) : ME := fun ρ => bE (ma ρ) fun l ρ1 => if l.length ≤ 16777216 then some (.ok (.tup (D.fzs l)), ρ1) else none
theorem ce_tup {x1} {ma : MEA} (h : PA X es (cEA (gx X T) W ma)) : PE X (.Tuple es x1 pos) (cE (gx X T) W (eTup ma)) := (pe_tup h).imp fun σ H Q ⟨Z, ρ, fp, o, hm, ok, re, q⟩ => by
  refine cEA.go hm ok re q.x fun l vs ρ1 Z1 H1 fe1 fd1 hm1 s1 re1 r1 => ?_
  split at hm1
  · rename_i c
    cases Option.some.inj hm1
    refine ⟨by rw [Rs.len r1, sl_eq]; exact c, fun p hp => ?_⟩
    have s1p := s1.permR List.perm_append_comm
    obtain ⟨Z2, s2, r2⟩ := Rs.toFz r1 s1p.ok
    have s3 := Stp.newZ_ s2.ok hp (o := .tup vs) (fun ps z => by cases z)
    refine q _ _ _ fe1 [] ((s1p.trans s2).trans s3).nilR ?_ ⟨rfl, p, vs, rfl, SqT.of upd_same, Rs.mono0 s3.zz r2⟩
    have re2 : RE (gx X T) Z2 H1 ρ1 σ fe1 := RE.mono s2.zz (fun _ _ => rfl) re1
    exact re2.grow (Grw.new s2.ok hp (fun ps z => by cases z))
  · cases hm1
/-- a list: new and owned -/
def eLst (ma : MEA) : ME := fun ρ => bE (ma ρ) fun l ρ1 => if l.length ≤ 16777216 then some (.ok (.lst true l), ρ1) else none
theorem ce_lst {ma : MEA} (h : PA X es (cEA (gx X T) W ma)) : PE X (.List es pos) (cE (gx X T) W (eLst ma)) := (pe_lst h).imp fun σ H Q ⟨Z, ρ, fp, o, hm, ok, re, q⟩ => by
  refine cEA.go hm ok re q.x fun l vs ρ1 Z1 H1 fe1 fd1 hm1 s1 re1 r1 => ?_
  split at hm1
  · rename_i c
    cases Option.some.inj hm1
    refine ⟨by rw [Rs.len r1, sl_eq]; exact c, fun p hp => ?_⟩
    have s3 := Stp.newO s1.ok hp (o := .lst vs) (fun ps z => by cases z)
    have np : p ∉ fe1 ++ fd1 := fun z => s1.ok.hf p z (Nt.none hp)
    refine q _ _ _ fe1 (p :: fd1) ((s1.trans s3).permR (List.perm_middle.symm)) (RE.mono (Sub.refl _) (upd_other fun z => np (by simp [z])) re1) ⟨p, vs, fd1, rfl, rfl, upd_same, Rs.mono (Sub.refl _) (upd_other fun z => np (by simp [z])) r1⟩
  · cases hm1
end
end OP

/-! OE: statements, targets, what is walked, for, while, comprehensions -/
namespace OP
open PySem PySem.Spec PyProof.Rows L2

inductive Fl where
  | nx | ret (d : D) | bk | ct
abbrev MS := Rho → Option (O Fl × Rho)
/-- slots that stay as they are -/
def Kp (J : Nat → Prop) (σ σ' : L2.St) : Prop := σ'.length = σ.length ∧ ∀ i, J i → σ'[i]? = σ[i]?
theorem Kp.refl {J : Nat → Prop} {σ : L2.St} : Kp J σ σ := ⟨rfl, fun _ _ => rfl⟩
theorem Kp.trans {J : Nat → Prop} {σ σ1 σ2 : L2.St} (a : Kp J σ σ1) (b : Kp J σ1 σ2) : Kp J σ σ2 := ⟨b.1.trans a.1, fun i hi => (b.2 i hi).trans (a.2 i hi)⟩
theorem Kp.set {J : Nat → Prop} {σ : L2.St} {i : Nat} {y : Option V} (h : ¬ J i) : Kp J σ (σ.set i y) := ⟨by simp, fun j hj => by rw [List.getElem?_set_ne fun z => h (by rw [z]; exact hj)]⟩
def PostSX (g : G) (J : Nat → Prop) (W : WX) (σ : L2.St) (Z H : Hp) (fp : List Addr) (c : Str) (ks : List Str) (vs : List D) (ρ' : Rho) : Prop :=
  ∀ cls dx σ' Z' H' fe, Kp J σ σ' → Stp g Z H fp Z' H' fe → RE g Z' H' ρ' σ' fe → XRp g Z' H' c ks vs cls dx → W cls dx σ' H'
def PostSN (g : G) (J : Nat → Prop) (σ : L2.St) (Z H : Hp) (fp : List Addr) (ρ' : Rho) (Q : L2.St → Hp → Prop) : Prop :=
  ∀ σ' Z' H' fe, Kp J σ σ' → Stp g Z H fp Z' H' fe → RE g Z' H' ρ' σ' fe → Q σ' H'
def PostSR (g : G) (J : Nat → Prop) (σ : L2.St) (Z H : Hp) (fp : List Addr) (d : D) (ρ' : Rho) (Q : VK) : Prop :=
  ∀ v σ' Z' H' fe fd, Kp J σ σ' → Stp g Z H fp Z' H' (fe ++ fd) → RE g Z' H' ρ' σ' fe → R g Z' H' d v fd → Q v H'
def PostS (g : G) (J : Nat → Prop) (W : WX) (σ : L2.St) (Z H : Hp) (fp : List Addr) (x : O Fl × Rho) (D : Ends) : Prop := match x with
  | (.ok .nx, ρ') => PostSN g J σ Z H fp ρ' D.nx
  | (.ok .bk, ρ') => PostSN g J σ Z H fp ρ' D.bk
  | (.ok .ct, ρ') => PostSN g J σ Z H fp ρ' D.ct
  | (.ok (.ret d), ρ') => PostSR g J σ Z H fp d ρ' D.rt
  | (.exc c ks vs, ρ') => PostSX g J W σ Z H fp c ks vs ρ'
def cS (g : G) (J : Nat → Prop) (W : WX) (m : MS) : TS := fun D σ H => ∃ Z ρ fp x, m ρ = some x ∧ Ok g Z H fp ∧ RE g Z H ρ σ fp ∧ PostS g J W σ Z H fp x D
section
variable {g : G} {J : Nat → Prop} {W : WX} {σ σ1 : L2.St} {Z H Z1 H1 : Hp} {ρ ρ1 : Rho} {fp f1 : List Addr}
theorem PostS.mono {x : O Fl × Rho} {D : Ends} (h : PostS g J W σ Z H fp x D) (k : Kp J σ σ1) (s : Stp g Z H fp Z1 H1 f1) : PostS g J W σ1 Z1 H1 f1 x D := by
  obtain ⟨o, ρ'⟩ := x
  cases o with
  | ok f =>
    cases f with
    | nx => exact fun σ' Z' H' fe k' s' r => h σ' Z' H' fe (k.trans k') (s.trans s') r
    | bk => exact fun σ' Z' H' fe k' s' r => h σ' Z' H' fe (k.trans k') (s.trans s') r
    | ct => exact fun σ' Z' H' fe k' s' r => h σ' Z' H' fe (k.trans k') (s.trans s') r
    | ret d => exact fun v σ' Z' H' fe fd k' s' r q => h v σ' Z' H' fe fd (k.trans k') (s.trans s') r q
  | exc c ks vs => exact fun cls dx σ' Z' H' fe k' s' r q => h cls dx σ' Z' H' fe (k.trans k') (s.trans s') r q
/-- the exceptions of an expression within a statement -/
theorem PostS.x {x : O Fl × Rho} {D : Ends} (h : PostS g J W σ Z H fp x D) : XH g W σ Z H fp x := fun c ks vs ρ' e => by
  subst e
  exact fun cls dx Z' H' fe s r q => h cls dx σ Z' H' fe Kp.refl s r q
end

section
variable {X : Cx} {T : List (Addr × Str)} {J : Nat → Prop} {W : WX} {e a b : Expr} {pos : Pos} {es : List Expr} {st : Stmt} {rest : List Stmt}
def sNx : MS := fun ρ => some (.ok .nx, ρ)
theorem css_nil : PSs X [] (cS (gx X T) J W sNx) := pss_nil.imp fun D σ H ⟨Z, ρ, fp, x, hm, ok, re, q⟩ => by
  cases Option.some.inj hm
  exact q σ Z H fp Kp.refl (Stp.refl ok) re
def sSeq (m k : MS) : MS := fun ρ => match m ρ with
  | some (.ok .nx, ρ1) => k ρ1
  | y => y
theorem sSeq_some {m k : MS} {ρ : Rho} {x : O Fl × Rho} (h : sSeq m k ρ = some x) : (∃ ρ1, m ρ = some (.ok .nx, ρ1) ∧ k ρ1 = some x) ∨ (m ρ = some x ∧ ∀ ρ1, x ≠ (.ok .nx, ρ1)) := by
  unfold sSeq at h
  split at h
  · rename_i ρ1 e
    exact .inl ⟨ρ1, e, h⟩
  · rename_i e
    exact .inr ⟨h, fun ρ1 z => e ρ1 (by rw [h, z])⟩
theorem css_cons {m k : MS} (h1 : PS X st (cS (gx X T) J W m)) (h2 : PSs X rest (cS (gx X T) J W k)) : PSs X (st :: rest) (cS (gx X T) J W (sSeq m k)) := (pss_cons h1 h2).imp fun D σ H ⟨Z, ρ, fp, x, hm, ok, re, q⟩ => by
  rcases sSeq_some hm with ⟨ρ1, e, hk⟩ | ⟨e, n⟩
  · exact ⟨Z, ρ, fp, _, e, ok, re, fun σ1 Z1 H1 f1 k1 s1 re1 => ⟨Z1, ρ1, f1, x, hk, s1.ok, re1, q.mono k1 s1⟩⟩
  · refine ⟨Z, ρ, fp, x, e, ok, re, ?_⟩
    obtain ⟨o, ρ'⟩ := x
    cases o with
    | ok f =>
      cases f with
      | nx => exact absurd rfl (n ρ')
      | bk => exact q
      | ct => exact q
      | ret d => exact q
    | exc c ks vs => exact q
theorem css_one {m : MS} (h1 : PS X st (cS (gx X T) J W m)) : PSs X [st] (cS (gx X T) J W m) := pss_one h1
def sBk : MS := fun ρ => some (.ok .bk, ρ)
def sCt : MS := fun ρ => some (.ok .ct, ρ)
theorem cs_pass : PS X (.Pass pos) (cS (gx X T) J W sNx) := ps_pass.imp fun D σ H ⟨Z, ρ, fp, x, hm, ok, re, q⟩ => by
  cases Option.some.inj hm
  exact q σ Z H fp Kp.refl (Stp.refl ok) re
theorem cs_break : PS X (.Break pos) (cS (gx X T) J W sBk) := ps_break.imp fun D σ H ⟨Z, ρ, fp, x, hm, ok, re, q⟩ => by
  cases Option.some.inj hm
  exact q σ Z H fp Kp.refl (Stp.refl ok) re
theorem cs_cont : PS X (.Continue pos) (cS (gx X T) J W sCt) := ps_continue.imp fun D σ H ⟨Z, ρ, fp, x, hm, ok, re, q⟩ => by
  cases Option.some.inj hm
  exact q σ Z H fp Kp.refl (Stp.refl ok) re
def sExpr (m : ME) : MS := fun ρ => bE (m ρ) fun _ ρ1 => some (.ok .nx, ρ1)
theorem cs_expr {m : ME} (he : PE X e (cE (gx X T) W m)) (hs : swapsWith e none pos.line X.env = pure false := by rfl) : PS X (.Expr e pos) (cS (gx X T) J W (sExpr m)) := (ps_expr he hs).imp fun D σ H ⟨Z, ρ, fp, x, hm, ok, re, q⟩ => by
  refine cE.go hm ok re q.x fun d v ρ1 Z1 H1 fe fd hm1 s1 re1 r1 => ?_
  cases Option.some.inj hm1
  exact q σ Z1 H1 fe Kp.refl s1.drop re1
def sRet (m : ME) : MS := fun ρ => bE (m ρ) fun d ρ1 => some (.ok (.ret d), ρ1)
theorem cs_ret {m : ME} (he : PE X e (cE (gx X T) W m)) : PS X (.Return (some e) pos) (cS (gx X T) J W (sRet m)) := (ps_ret he).imp fun D σ H ⟨Z, ρ, fp, x, hm, ok, re, q⟩ => by
  refine cE.go hm ok re q.x fun d v ρ1 Z1 H1 fe fd hm1 s1 re1 r1 => ?_
  cases Option.some.inj hm1
  exact q v σ Z1 H1 fe fd Kp.refl s1 re1 r1
def sIf (mc : MET) (ma mb : MS) : MS := fun ρ => bE (mc ρ) fun c ρ1 => if c = true then ma ρ1 else mb ρ1
theorem cs_if {c : Expr} {sa sb : List Stmt} {mc : MET} {ma mb : MS} (hc : PT X c (cET (gx X T) W mc)) (ha : PSs X sa (cS (gx X T) J W ma)) (hb : PSs X sb (cS (gx X T) J W mb)) : PS X (.If c sa sb pos) (cS (gx X T) J W (sIf mc ma mb)) :=
  (ps_if hc ha hb).imp fun D σ H ⟨Z, ρ, fp, x, hm, ok, re, q⟩ => by
    refine cET.go hm ok re q.x fun d ρ1 Z1 H1 fe hm1 s1 re1 => ?_
    cases d with
    | true => exact ⟨Z1, ρ1, fe, x, hm1, s1.ok, re1, q.mono Kp.refl s1⟩
    | false => exact ⟨Z1, ρ1, fe, x, hm1, s1.ok, re1, q.mono Kp.refl s1⟩

/-! ### slots written -/
theorem RE.put {g : G} {Z H : Hp} {ρ : Rho} {σ : L2.St} {fp fd : List Addr} {i : Nat} {d : D} {v : V} (re : RE g Z H ρ σ fp) (r : R g Z H d v fd) : ∃ fe fr, RE g Z H (ρ.set i (some d)) (σ.set i (some v)) fe ∧ (fp ++ fd).Perm (fe ++ fr) := by
  by_cases hi : i < ρ.length
  · obtain ⟨y, f1, fi, f2, h1, h2, h3, ex⟩ := re.at (i := i) (List.getElem?_eq_getElem hi)
    refine ⟨_, fi, ex Z H (some d) (some v) fd (Sub.refl _) (fun _ _ => rfl) ⟨v, rfl, r⟩, ?_⟩
    rw [h2]
    have p1 : (f1 ++ fi ++ f2 ++ fd).Perm (f1 ++ (fi ++ (f2 ++ fd))) := by simp [List.append_assoc]
    have p2 : (f1 ++ (fi ++ (f2 ++ fd))).Perm (f1 ++ ((fd ++ f2) ++ fi)) := List.Perm.append_left f1 (List.perm_append_comm.trans (List.Perm.append_right fi List.perm_append_comm))
    refine (p1.trans p2).trans ?_
    simp [List.append_assoc]
  · refine ⟨fp, fd, ?_, List.Perm.refl _⟩
    rw [List.set_eq_of_length_le (by omega), List.set_eq_of_length_le (by rw [re.len]; omega)]
    exact re
def sSet (i : Nat) (m : ME) : MS := fun ρ => bE (m ρ) fun d ρ1 => some (.ok .nx, ρ1.set i (some d))
theorem cs_set {i : Nat} {x : Str} {m : ME} {pos' : Pos} (hJ : ¬ J i) (hN : X.N.Nodup) (hi : X.N[i]? = some x) (hx : Loc X.env.scope x) (he : PE X e (cE (gx X T) W m)) (hs : swapsWith e (some (.Name x pos')) pos.line X.env = pure false := by rfl)
    (hf : X.fn x = true ∨ X.env.scope.names.lookup x = some .local := by first | exact .inl rfl | exact .inr rfl | assumption) : PS X (.Assign [.Name x pos'] e pos) (cS (gx X T) J W (sSet i m)) :=
  (ps_set hN hi hx he hs hf).imp fun D σ H ⟨Z, ρ, fp, x, hm, ok, re, q⟩ => by
    refine cE.go hm ok re q.x fun d v ρ1 Z1 H1 fe fd hm1 s1 re1 r1 => ?_
    cases Option.some.inj hm1
    obtain ⟨f2, fr, re2, p⟩ := RE.put (i := i) re1 r1
    exact q _ Z1 H1 f2 (Kp.set hJ) (s1.permR p).drop re2
/-- name op= e -/
def PrIp (g : G) (r : TIp) (f : D → D → Option D) : Prop := PR2 g r f
def sAug (f : D → D → Option D) (i : Nat) (m : ME) : MS := fun ρ => match (ρ[i]?).join with
  | some x => if x.frz then bE (m ρ) fun y ρ1 => match f x y with
    | some z => if z.frz then some (.ok .nx, ρ1.set i (some z)) else none
    | none => none
    else none
  | none => none
theorem cs_aug {i : Nat} {x : Str} {op : Operator} {ti : TIp} {f : D → D → Option D} {m : ME} {pos' : Pos} (hJ : ¬ J i) (hr : PR2 (gx X T) ti f) (hN : X.N.Nodup) (hi : X.N[i]? = some x) (hx : Loc X.env.scope x) (he : PE X e (cE (gx X T) W m)) (ho : PIp X op ti)
    (hf : X.fn x = true ∨ X.env.scope.names.lookup x = some .local := by first | exact .inl rfl | exact .inr rfl | assumption) : PS X (.AugAssign (.Name x pos') op e pos) (cS (gx X T) J W (sAug f i m)) :=
  (ps_aug hN hi hx he ho hf).imp fun D σ H ⟨Z, ρ, fp, x, hm, ok, re, q⟩ => by
    unfold sAug at hm
    split at hm
    · rename_i d hd
      split at hm
      · rename_i hz
        obtain ⟨y, f1, fi, f2, h1, h2, ⟨v, e2, r⟩, ex⟩ := re.at (join_eq hd)
        rw [r.frz hz] at r
        refine ⟨v, by rw [h1, e2], ?_⟩
        refine cE.go hm ok re q.x fun d2 v2 ρ1 Z1 H1 fe fd hm1 s1 re1 r1 => ?_
        split at hm1
        · rename_i z hz1
          split at hm1
          · rename_i hz2
            cases Option.some.inj hm1
            refine hr Z1 H1 _ _ _ _ z s1.ok.none ⟨_, r.mono0 s1.zz⟩ ⟨_, r1⟩ hz1 _ fun u Z2 H2 g2 b2 => ?_
            have s2 := s1.drop.trans (Grw.stp g2 s1.drop.ok)
            obtain ⟨f2, fr, re2, p⟩ := RE.put (i := i) (re1.grow g2) (b2.frz hz2)
            exact q _ Z2 H2 f2 (Kp.set hJ) (s2.nilR.permR p).drop re2
          · cases hm1
        · cases hm1
      · cases hm
    · cases hm
theorem ip_pr {g : G} {f : Int → Int → Int} : PR2 g (ipI f) (fII fun i j => .int (f i j)) := fun Z H d e v w z ok hd he hz Q q => by
  obtain ⟨i, j, rfl, rfl, rfl⟩ := fII_eq hz
  exact ⟨i, j, hd.int_eq, he.int_eq, q _ Z H (Grw.refl ok) B.int⟩

/-! ### targets -/
abbrev MT := D → Rho → Option Rho
def cG (g : G) (J : Nat → Prop) (m : MT) : TG := fun v σ H Q => ∃ Z ρ fp fd d ρ', m d ρ = some ρ' ∧ Ok g Z H (fp ++ fd) ∧ RE g Z H ρ σ fp ∧ R g Z H d v fd ∧
  ∀ σ' fe fr, Kp J σ σ' → (fp ++ fd).Perm (fe ++ fr) → RE g Z H ρ' σ' fe → Q σ' H
def cGs (g : G) (J : Nat → Prop) (m : List D → Rho → Option Rho) : TGs := fun vs σ H Q => ∃ Z ρ fp ds ρ', m ds ρ = some ρ' ∧ Ok g Z H fp ∧ RE g Z H ρ σ fp ∧ Rs g Z H ds vs [] ∧
  ∀ σ' fe fr, Kp J σ σ' → fp.Perm (fe ++ fr) → RE g Z H ρ' σ' fe → Q σ' H
theorem _root_.L2.PG.imp {X : Cx} {e : Expr} {t t' : TG} (h : PG X e t) (i : ∀ v σ H Q, t' v σ H Q → t v σ H Q) : PG X e t' := ⟨fun pins s σ H v u Q I r q => h.run pins s σ H v u Q I r (i v σ H Q q)⟩
theorem _root_.L2.PGs.imp {X : Cx} {e : List Expr} {t t' : TGs} (h : PGs X e t) (i : ∀ v σ H Q, t' v σ H Q → t v σ H Q) : PGs X e t' := ⟨fun pins s σ H v u Q I r q => h.run pins s σ H v u Q I r (i v σ H Q q)⟩
def tN (i : Nat) : MT := fun d ρ => some (ρ.set i (some d))
theorem cg_name {i : Nat} {x : Str} (hJ : ¬ J i) (hN : X.N.Nodup) (hi : X.N[i]? = some x) (hx : Loc X.env.scope x) (hf : X.fn x = true ∨ X.env.scope.names.lookup x = some .local := by first | exact .inl rfl | exact .inr rfl | assumption) : PG X (.Name x pos) (cG (gx X T) J (tN i)) :=
  (pg_name hN hi hx hf).imp fun v σ H Q ⟨Z, ρ, fp, fd, d, ρ', hm, ok, re, r, q⟩ => by
    cases Option.some.inj hm
    obtain ⟨f2, fr, re2, p⟩ := RE.put (i := i) re r
    exact q _ f2 fr (Kp.set hJ) p re2
def tsNil : List D → Rho → Option Rho := fun ds ρ => match ds with
  | [] => some ρ
  | _ => none
def tsCons (m : MT) (r : List D → Rho → Option Rho) : List D → Rho → Option Rho := fun ds ρ => match ds with
  | d :: ds => (m d ρ).bind fun ρ1 => r ds ρ1
  | _ => none
theorem cgs_nil : PGs X [] (cGs (gx X T) J tsNil) := pgs_nil.imp fun vs σ H Q ⟨Z, ρ, fp, ds, ρ', hm, ok, re, r, q⟩ => by
  cases ds with
  | nil =>
    cases Option.some.inj hm
    exact ⟨r.1, q σ fp [] Kp.refl (by rw [List.append_nil]) re⟩
  | cons d ds => cases hm
theorem cgs_cons {m : MT} {mr : List D → Rho → Option Rho} (h1 : PG X e (cG (gx X T) J m)) (h2 : PGs X es (cGs (gx X T) J mr)) (hs : (assignEach (e :: es) X.env).map (·.2) = assign e X.env :: (assignEach es X.env).map (·.2) := by rfl) :
    PGs X (e :: es) (cGs (gx X T) J (tsCons m mr)) := (pgs_cons h1 h2 hs).imp fun vs σ H Q ⟨Z, ρ, fp, ds, ρ', hm, ok, re, r, q⟩ => by
  cases ds with
  | nil => cases hm
  | cons d ds =>
    obtain ⟨x, xs, e1, r1, r2⟩ := r.nil'
    have hm : (m d ρ).bind (fun ρ1 => mr ds ρ1) = some ρ' := hm
    cases e2 : m d ρ with
    | none => rw [e2] at hm; cases hm
    | some ρ1 =>
      rw [e2] at hm
      have hm : mr ds ρ1 = some ρ' := hm
      refine ⟨x, xs, e1, Z, ρ, fp, [], d, ρ1, e2, by rw [List.append_nil]; exact ok, re, r1, fun σ1 fe fr k1 p1 re1 => ?_⟩
      rw [List.append_nil] at p1
      exact ⟨Z, ρ1, fe, ds, ρ', hm, (ok.perm p1).sub, re1, r2, fun σ2 f2 fr2 k2 p2 re2 => q σ2 f2 (fr2 ++ fr) (k1.trans k2) (by rw [← List.append_assoc]; exact p1.trans (List.Perm.append_right fr p2)) re2⟩
/-- (a, b, ..) = a tuple, its items frozen -/
def tTp (n : Nat) (m : List D → Rho → Option Rho) : MT := fun d ρ => match d with
  | .tup ds => if ds.length = n then m ds ρ else none
  | _ => none
theorem cg_tup {k n : Nat} {m : List D → Rho → Option Rho} (hc : X.calm = true) (h : PGs X es (cGs (gx X T) J m)) (hn : (assignEach es X.env).length = n := by rfl) (hst : (assignEach es X.env).findIdx? (·.1) = none := by rfl) :
    PG X (.Tuple es k pos) (cG (gx X T) J (tTp n m)) := (pg_tup hc h hn hst).imp fun v σ H Q ⟨Z, ρ, fp, fd, d, ρ', hm, ok, re, r, q⟩ => by
  cases d with
  | tup ds =>
    simp only [tTp] at hm
    split at hm
    · rename_i hl
      obtain ⟨rfl, a, xs, e1, h1, h2⟩ := r
      rw [List.append_nil] at ok q
      exact ⟨a, xs, e1, ok.zh.seqT h1, by rw [Rs.len h2]; exact hl, Z, ρ, fp, ds, ρ', hm, ok, re, h2, q⟩
    · cases hm
  | _ => cases hm
/-- .. = a list, its items frozen -/
def tLs (n : Nat) (m : List D → Rho → Option Rho) : MT := fun d ρ => match d with
  | .lst false ds => if ds.length = n then m ds ρ else none
  | .xls ds => if ds.length = n then m ds ρ else none
  | _ => none
theorem cg_lst {k n : Nat} {m : List D → Rho → Option Rho} (hc : X.calm = true) (h : PGs X es (cGs (gx X T) J m)) (hn : (assignEach es X.env).length = n := by rfl) (hst : (assignEach es X.env).findIdx? (·.1) = none := by rfl) :
    PG X (.Tuple es k pos) (cG (gx X T) J (tLs n m)) := (pg_lst hc h hn hst).imp fun v σ H Q ⟨Z, ρ, fp, fd, d, ρ', hm, ok, re, r, q⟩ => by
  cases d with
  | lst o ds =>
    cases o with
    | true => cases hm
    | false =>
      simp only [tLs] at hm
      split at hm
      · rename_i hl
        obtain ⟨rfl, a, xs, e1, h1, h2⟩ := r
        rw [List.append_nil] at ok q
        exact ⟨a, xs, e1, SqL.of (ok.zh _ _ h1), by rw [Rs.len h2]; exact hl, Z, ρ, fp, ds, ρ', hm, ok, re, h2, q⟩
      · cases hm
  | xls ds =>
    simp only [tLs] at hm
    split at hm
    · rename_i hl
      obtain ⟨rfl, a, xs, e1, h1, h2⟩ := r
      rw [List.append_nil] at ok q
      exact ⟨a, xs, e1, ok.zh.seqL h1, by rw [Rs.len h2]; exact hl, Z, ρ, fp, ds, ρ', hm, ok, re, h2, q⟩
    · cases hm
  | _ => cases hm
/-- target = value -/
def sAsg (m : ME) (t : MT) : MS := fun ρ => bE (m ρ) fun d ρ1 => (t d ρ1).map fun ρ2 => (.ok .nx, ρ2)
theorem cs_asg {tg : Expr} {m : ME} {t : MT} (he : PE X e (cE (gx X T) W m)) (hg : PG X tg (cG (gx X T) J t)) (hs : swapsWithSole [tg] e pos.line X.env = pure false := by rfl) (hw : swappedStores [tg] e X.env = pure none := by rfl)
    (h1 : (assignEach [tg] X.env).map (·.2) = [assign tg X.env] := by rfl) : PS X (.Assign [tg] e pos) (cS (gx X T) J W (sAsg m t)) := (ps_asg he hg hs hw h1).imp fun D σ H ⟨Z, ρ, fp, x, hm, ok, re, q⟩ => by
  refine cE.go hm ok re q.x fun d v ρ1 Z1 H1 fe fd hm1 s1 re1 r1 => ?_
  cases e2 : t d ρ1 with
  | none => rw [e2] at hm1; cases hm1
  | some ρ2 =>
    rw [e2] at hm1
    cases Option.some.inj hm1
    exact ⟨Z1, ρ1, fe, fd, d, ρ2, e2, s1.ok, re1, r1, fun σ2 f2 fr k2 p2 re2 => q σ2 Z1 H1 f2 k2 (s1.permR p2).drop re2⟩
/-- a, b = x, y with plain local names -/
def sPar (i j : Nat) (m : MEA) : MS := fun ρ => bE (m ρ) fun ds ρ1 => match ds with
  | [x, y] => some (.ok .nx, (ρ1.set i (some x)).set j (some y))
  | _ => none
theorem cs_par {i j : Nat} {x y : Str} {m : MEA} {px py pt : Pos} {kt k2 pt2} (hiJ : ¬ J i) (hjJ : ¬ J j) (hc : X.calm = true) (hN : X.N.Nodup) (hi : X.N[i]? = some x) (hj : X.N[j]? = some y) (hij : i ≠ j)
    (hx : X.env.scope.names.lookup x = some .local) (hy : X.env.scope.names.lookup y = some .local) (ha : PA X [a, b] (cEA (gx X T) W m))
    (hw : swappedStores [.Tuple [.Name x px, .Name y py] kt pt] (.Tuple [a, b] k2 pt2) X.env = pure (some [x, y]))
    (hs : swapsWithSole [.Tuple [.Name x px, .Name y py] kt pt] (.Tuple [a, b] k2 pt2) pos.line X.env = pure false := by rfl) :
    PS X (.Assign [.Tuple [.Name x px, .Name y py] kt pt] (.Tuple [a, b] k2 pt2) pos) (cS (gx X T) J W (sPar i j m)) := (ps_par hc hN hi hj hij hx hy ha hw hs).imp fun D σ H ⟨Z, ρ, fp, x, hm, ok, re, q⟩ => by
  refine cEA.go hm ok re q.x fun ds vs ρ1 Z1 H1 fe fd hm1 s1 re1 r1 => ?_
  split at hm1
  · rename_i d1 d2
    cases Option.some.inj hm1
    obtain ⟨v1, w1, f1, f2, e1, e2, r1, v2, w2, f3, f4, e3, e4, r2, e5, e6⟩ := r1
    subst e1 e2 e3 e4 e5 e6
    refine ⟨v1, v2, rfl, ?_⟩
    obtain ⟨g1, h1, re2, p1⟩ := RE.put (i := i) re1 r1
    obtain ⟨g2, h2, re3, p2⟩ := RE.put (i := j) re2 r2
    refine q _ Z1 H1 g2 ((Kp.set hiJ).trans (Kp.set hjJ)) ?_ re3
    have p3 : (fe ++ (f1 ++ (f3 ++ []))).Perm (g2 ++ (h2 ++ h1)) := by
      rw [List.append_nil, ← List.append_assoc]
      refine (List.Perm.append_right f3 p1).trans ?_
      rw [List.append_assoc]
      refine (List.Perm.append_left g1 List.perm_append_comm).trans ?_
      rw [← List.append_assoc, ← List.append_assoc]
      exact List.Perm.append_right h1 p2
    exact (s1.permR p3).drop
  · cases hm1
end
end OP

/-! OF: what is walked, for, while, comprehensions -/
namespace OP
open PySem PySem.Spec PyProof.Rows L2

/-! ### what is walked -/
structure ItP (g : G) (Z H : Hp) (ds : List D) (J : It) : Prop where
  go : ∀ i Z2 H2, i < ds.length → Grw g Z H Z2 H2 → J.go i H2
  stop : ∀ Z2 H2, Grw g Z H Z2 H2 → J.stop ds.length H2
  yld : ∀ i Z2 H2 x H3, i < ds.length → Grw g Z H Z2 H2 → J.yld i H2 x H3 → ∃ d Z3, ds[i]? = some d ∧ Grw g Z2 H2 Z3 H3 ∧ B g Z3 H3 d x
structure ItF (g : G) (Z : Hp) (ds : List D) (J : It) : Prop where
  go : ∀ i Z2 H2, i < ds.length → Sub Z Z2 → Ok g Z2 H2 [] → J.go i H2
  stop : ∀ Z2 H2, Sub Z Z2 → Ok g Z2 H2 [] → J.stop ds.length H2
  yld : ∀ i Z2 H2 x H3, i < ds.length → Sub Z Z2 → Ok g Z2 H2 [] → J.yld i H2 x H3 → ∃ d Z3, ds[i]? = some d ∧ Grw g Z2 H2 Z3 H3 ∧ R g Z3 H3 d x []
theorem _root_.L2.PI.imp {X : Cx} {tg e : Expr} {t t' : TI} (h : PI X tg e t) (i : ∀ σ H R, t' σ H R → t σ H R) : PI X tg e t' := ⟨fun pins s σ H R I q => h.run pins s σ H R I (i σ H R q)⟩
def PostIP (g : G) (W : WX) (σ : L2.St) (Z H : Hp) (o : O (List D)) (R : It → Hp → Prop) : Prop := match o with
  | .ok ds => ∀ J Z' H', Grw g Z H Z' H' → ItP g Z' H' ds J → R J H'
  | .exc c ks vs => ∀ cls dx Z' H', Grw g Z H Z' H' → XRp g Z' H' c ks vs cls dx → W cls dx σ H'
def cIP (g : G) (W : WX) (m : Rho → Option (O (List D))) : TI := fun σ H R => ∃ Z ρ fp o, m ρ = some o ∧ Ok g Z H fp ∧ RE g Z H ρ σ fp ∧ PostIP g W σ Z H o R
def PostIE (g : G) (W : WX) (σ : L2.St) (Z H : Hp) (fp : List Addr) (x : O (List D) × Rho) (R : It → Hp → Prop) : Prop := match x with
  | (.ok ds, ρ') => ∀ J Z' H' fe, Stp g Z H fp Z' H' fe → RE g Z' H' ρ' σ fe → ItF g Z' ds J → R J H'
  | (.exc c ks vs, ρ') => PostX g W σ Z H fp c ks vs ρ'
def cIE (g : G) (W : WX) (m : MEA) : TI := fun σ H R => ∃ Z ρ fp x, m ρ = some x ∧ Ok g Z H fp ∧ RE g Z H ρ σ fp ∧ PostIE g W σ Z H fp x R
theorem PostIP.x {g : G} {W : WX} {σ : L2.St} {Z H : Hp} {o : O (List D)} {R : It → Hp → Prop} (h : PostIP g W σ Z H o R) : ∀ c ks vs, o = .exc c ks vs → ∀ cls dx Z' H', Grw g Z H Z' H' → XRp g Z' H' c ks vs cls dx → W cls dx σ H' := fun c ks vs e => by
  subst e; exact h
theorem PostIE.x {g : G} {W : WX} {σ : L2.St} {Z H : Hp} {fp : List Addr} {x : O (List D) × Rho} {R : It → Hp → Prop} (h : PostIE g W σ Z H fp x R) : XH g W σ Z H fp x := fun c ks vs ρ' e => by subst e; exact h
section
variable {X : Cx} {tg : Expr}
/-- a list, a tuple, a text -/
def iAny (K : PySem.W.Frag) (tl : TE) : TI := fun σ H R => tl σ H fun x H1 => (∃ a, x = .ref a ∧ (∃ xs, SqL K H1 a xs) ∧ R (Itl K a) H1) ∨ (∃ a, x = .ref a ∧ (∃ xs, SqT K H1 a xs) ∧ R (Itt K a) H1) ∨ ∃ z, x = .str z ∧ R (Its z) H1
theorem pi_any {l : Expr} {tl : TE} (hl : PE X l tl) : PI X tg l (iAny X.K tl) := by
  refine ⟨fun pins s σ H R I h => ?_⟩
  have h1 := hl.run pins s σ H _ I h
  refine thn h1 fun v s1 ⟨x, H1, I1, r1, q1⟩ => ?_
  rcases q1 with ⟨a, e, ⟨xs, hq⟩, q⟩ | ⟨a, e, ⟨xs, hq⟩, q⟩ | ⟨z, e, q⟩
  · subst e
    cases r1
    obtain ⟨its, rv, p, hz⟩ := I1.list hq
    refine wpAny_pyIter_list p.isList ?_
    refine ⟨s1.heap.objs.size, [s1.heap.objs.size], _, _, H1, rfl, I1.kept (t' := s1.toks) fun b o e => Heap.get?_push_of_some _ e, turn_list a _, ⟨_, Heap.get?_push_size _ rfl, rfl, rfl⟩, fun b hb => ?_, q⟩
    have e : b = s1.heap.objs.size := by simpa using hb
    subst e
    exact I1.fpOk (Nat.le_refl _) (I1.hok.fresh (Nat.le_refl _))
  · subst e
    cases r1
    obtain ⟨its, rv, p, hz⟩ := I1.tuple hq
    refine wpAny_pyIter_tuple (show s1.heap.IsTuple a its.toArray from p) ?_
    refine ⟨s1.heap.objs.size, [s1.heap.objs.size], _, _, H1, rfl, I1.kept (t' := s1.toks) fun b o e => Heap.get?_push_of_some _ e, turn_tuple a _, ⟨_, Heap.get?_push_size _ rfl, rfl, rfl⟩, fun b hb => ?_, q⟩
    have e : b = s1.heap.objs.size := by simpa using hb
    subst e
    exact I1.fpOk (Nat.le_refl _) (I1.hok.fresh (Nat.le_refl _))
  · subst e
    obtain ⟨t, rfl⟩ := r1
    cases ha : z.cps.all (· < 128)
    · exact wpAny_pyIter_wide ha (pi_one (tk := s1.toks) I1 _ (turn_str _ z t "str_iterator" (.inr rfl)) ⟨_, Heap.get?_push_size _ rfl, rfl, rfl⟩ q)
    · exact wpAny_pyIter_ascii ha (pi_one (tk := s1.toks) I1 _ (turn_str _ z t "str_ascii_iterator" (.inl rfl)) ⟨_, Heap.get?_push_size _ rfl, rfl, rfl⟩ q)
end
/-- what a for goes over -/
def D.walk : D → Option (List D)
  | .tup l => some l
  | .lst _ l => some l
  | .xls l => some l
  | .str s => some (s.cps.toList.map fun c => .str ⟨#[c]⟩)
  | _ => none
def iAtD (d : D) : Option (List D) := d.walk
section
variable {g : G} {Z H Z' H' : Hp}
theorem Grw.refl' (a : Grw g Z H Z' H') : Grw g Z' H' Z' H' := Stp.refl (Stp.ok a)
theorem itp_list {a : Addr} {xs : List V} {ds : List D} {fq : List Addr} (hs : SqL g.K H a xs) (nt : ∀ ps, H a ≠ some (.tbl ps)) (r : Rs g Z H ds xs fq) : ItP g Z H ds (Itl g.K a) where
  go := fun i Z2 H2 hi gr => by
    obtain ⟨x, h1, _⟩ := r.get (List.getElem?_eq_getElem hi)
    exact ⟨xs, x, sq_grow hs nt gr, h1⟩
  stop := fun Z2 H2 gr => ⟨xs, sq_grow hs nt gr, by rw [Rs.len r]; exact Nat.le_refl _⟩
  yld := fun i Z2 H2 x H3 hi gr y => by
    obtain ⟨x', h1, b⟩ := r.get (List.getElem?_eq_getElem hi)
    obtain ⟨e, y⟩ := y
    subst e
    have := y xs (sq_grow hs nt gr)
    rw [h1] at this
    cases this
    exact ⟨_, Z2, List.getElem?_eq_getElem hi, Grw.refl' gr, b.grow gr⟩
where
  sq_grow {a : Addr} {xs : List V} {Z2 H2 : Hp} (hs : SqL g.K H a xs) (nt : ∀ ps, H a ≠ some (.tbl ps)) (gr : Grw g Z H Z2 H2) : SqL g.K H2 a xs := by
    rcases hs with (h | ⟨o, h⟩) | h
    · exact .inl (.inl (gr.keep a _ h (by simp) fun ps z => by cases z))
    · exact .inl (.inr ⟨o, gr.keep a _ h (by simp) fun ps z => by cases z⟩)
    · exact .inr h
theorem sqt_grow {a : Addr} {xs : List V} {Z2 H2 : Hp} (hs : SqT g.K H a xs) (gr : Grw g Z H Z2 H2) : SqT g.K H2 a xs := by
  rcases hs with (h | ⟨o, h⟩) | h
  · exact .inl (.inl (gr.keep a _ h (by simp) fun ps z => by cases z))
  · exact .inl (.inr ⟨o, gr.keep a _ h (by simp) fun ps z => by cases z⟩)
  · exact .inr h
theorem sql_grow {a : Addr} {xs : List V} {Z2 H2 : Hp} (hs : SqL g.K H a xs) (gr : Grw g Z H Z2 H2) : SqL g.K H2 a xs := by
  rcases hs with (h | ⟨o, h⟩) | h
  · exact .inl (.inl (gr.keep a _ h (by simp) fun ps z => by cases z))
  · exact .inl (.inr ⟨o, gr.keep a _ h (by simp) fun ps z => by cases z⟩)
  · exact .inr h
theorem itp_tup {a : Addr} {xs : List V} {ds : List D} {fq : List Addr} (hs : SqT g.K H a xs) (r : Rs g Z H ds xs fq) : ItP g Z H ds (Itt g.K a) where
  go := fun i Z2 H2 hi gr => by
    obtain ⟨x, h1, _⟩ := r.get (List.getElem?_eq_getElem hi)
    exact ⟨xs, x, sqt_grow hs gr, h1⟩
  stop := fun Z2 H2 gr => ⟨xs, sqt_grow hs gr, by rw [Rs.len r]; exact Nat.le_refl _⟩
  yld := fun i Z2 H2 x H3 hi gr y => by
    obtain ⟨x', h1, b⟩ := r.get (List.getElem?_eq_getElem hi)
    obtain ⟨e, y⟩ := y
    subst e
    have := y xs (sqt_grow hs gr)
    rw [h1] at this
    cases this
    exact ⟨_, Z2, List.getElem?_eq_getElem hi, Grw.refl' gr, b.grow gr⟩
theorem itp_str {z : Str} : ItP g Z H (z.cps.toList.map fun c => .str ⟨#[c]⟩) (Its z) where
  go := fun i Z2 H2 hi gr => by show i < z.cps.size; simpa using hi
  stop := fun Z2 H2 gr => by show z.cps.size ≤ _; simp
  yld := fun i Z2 H2 x H3 hi gr y => by
    obtain ⟨e, c, hc, ex⟩ := y
    subst e; subst ex
    refine ⟨.str ⟨#[c]⟩, Z2, ?_, Grw.refl' gr, B.str (by show (1 : Nat) ≤ 16777216; decide)⟩
    rw [List.getElem?_map, Array.getElem?_toList, hc]
    rfl
theorem itf_list {a : Addr} {xs : List V} {ds : List D} (hs : SqL g.K Z a xs) (r : Rs g Z H ds xs []) : ItF g Z ds (Itl g.K a) where
  go := fun i Z2 H2 hi zz ok => by
    obtain ⟨x, h1, _⟩ := r.get (List.getElem?_eq_getElem hi)
    exact ⟨xs, x, ok.zh.seqL (zz.seqL hs), h1⟩
  stop := fun Z2 H2 zz ok => ⟨xs, ok.zh.seqL (zz.seqL hs), by rw [Rs.len r]; exact Nat.le_refl _⟩
  yld := fun i Z2 H2 x H3 hi zz ok y => by
    obtain ⟨x', h1, b⟩ := Rs.getZ r (List.getElem?_eq_getElem hi)
    obtain ⟨e, y⟩ := y
    subst e
    have := y xs (ok.zh.seqL (zz.seqL hs))
    rw [h1] at this
    cases this
    exact ⟨_, Z2, List.getElem?_eq_getElem hi, Stp.refl ok, b.mono0 zz⟩
where
  Rs.getZ : ∀ {ds : List D} {xs : List V} {i : Nat} {d : D}, Rs g Z H ds xs [] → ds[i]? = some d → ∃ x, xs[i]? = some x ∧ R g Z H d x []
    | [], _, _, _, h, e => by simp at e
    | d :: ds, xs, 0, d', h, e => by
      obtain ⟨x, r, e1, h1, h2⟩ := h.nil'
      have : d = d' := by simpa using e
      subst this
      exact ⟨x, by rw [e1]; rfl, h1⟩
    | d :: ds, xs, i + 1, d', h, e => by
      obtain ⟨x, r, e1, h1, h2⟩ := h.nil'
      obtain ⟨y, h3, h4⟩ := Rs.getZ (i := i) h2 (by simpa using e)
      exact ⟨y, by rw [e1]; simpa using h3, h4⟩
theorem Rs.getZ {ds : List D} {xs : List V} {i : Nat} {d : D} (h : Rs g Z H ds xs []) (e : ds[i]? = some d) : ∃ x, xs[i]? = some x ∧ R g Z H d x [] := itf_list.Rs.getZ h e
theorem itf_tup {a : Addr} {xs : List V} {ds : List D} (hs : SqT g.K Z a xs) (r : Rs g Z H ds xs []) : ItF g Z ds (Itt g.K a) where
  go := fun i Z2 H2 hi zz ok => by
    obtain ⟨x, h1, _⟩ := r.get (List.getElem?_eq_getElem hi)
    exact ⟨xs, x, ok.zh.seqT (zz.seqT hs), h1⟩
  stop := fun Z2 H2 zz ok => ⟨xs, ok.zh.seqT (zz.seqT hs), by rw [Rs.len r]; exact Nat.le_refl _⟩
  yld := fun i Z2 H2 x H3 hi zz ok y => by
    obtain ⟨x', h1, b⟩ := Rs.getZ r (List.getElem?_eq_getElem hi)
    obtain ⟨e, y⟩ := y
    subst e
    have := y xs (ok.zh.seqT (zz.seqT hs))
    rw [h1] at this
    cases this
    exact ⟨_, Z2, List.getElem?_eq_getElem hi, Stp.refl ok, b.mono0 zz⟩
theorem itf_str {z : Str} : ItF g Z (z.cps.toList.map fun c => .str ⟨#[c]⟩) (Its z) where
  go := fun i Z2 H2 hi zz ok => by show i < z.cps.size; simpa using hi
  stop := fun Z2 H2 zz ok => by show z.cps.size ≤ _; simp
  yld := fun i Z2 H2 x H3 hi zz ok y => by
    obtain ⟨e, c, hc, ex⟩ := y
    subst e; subst ex
    refine ⟨.str ⟨#[c]⟩, Z2, ?_, Stp.refl ok, ⟨rfl, by show (1 : Nat) ≤ 16777216; decide⟩, rfl⟩
    rw [List.getElem?_map, Array.getElem?_toList, hc]
    rfl
theorem itf_rng {lo : Int} {n : Nat} : ItF g Z ((List.range n).map fun (k : Nat) => D.int (lo + k)) (Itr lo n) where
  go := fun i Z2 H2 hi zz ok => by show i < n; simpa using hi
  stop := fun Z2 H2 zz ok => by show n ≤ _; simp
  yld := fun i Z2 H2 x H3 hi zz ok y => by
    obtain ⟨e, ex⟩ := y
    subst e; subst ex
    have hi' : i < n := by simpa using hi
    exact ⟨.int (lo + i), Z2, by rw [List.getElem?_map, List.getElem?_range hi']; rfl, Stp.refl ok, rfl, rfl⟩
theorem ItF.itp {ds : List D} {J : It} (h : ItF g Z ds J) : ItP g Z H ds J :=
  ⟨fun i Z2 H2 hi gr => h.go i Z2 H2 hi gr.zz (Stp.ok gr), fun Z2 H2 gr => h.stop Z2 H2 gr.zz (Stp.ok gr), fun i Z2 H2 x H3 hi gr y => by
    obtain ⟨d, Z3, e, g3, r⟩ := h.yld i Z2 H2 x H3 hi gr.zz (Stp.ok gr) y
    exact ⟨d, Z3, e, g3, [], r⟩⟩
theorem walkP {d : D} {l : List D} {v : V} {R' : It → Hp → Prop} (ok : Ok g Z H []) (b : B g Z H d v) (e : d.walk = some l) (q : ∀ J, ItP g Z H l J → R' J H) :
    (∃ a, v = .ref a ∧ (∃ xs, SqL g.K H a xs) ∧ R' (Itl g.K a) H) ∨ (∃ a, v = .ref a ∧ (∃ xs, SqT g.K H a xs) ∧ R' (Itt g.K a) H) ∨ ∃ z, v = .str z ∧ R' (Its z) H := by
  cases d with
  | tup l' =>
    cases e
    obtain ⟨a, xs, e1, h1, h2⟩ := b.tup ok.zh
    exact .inr (.inl ⟨a, e1, ⟨xs, h1⟩, q _ (itp_tup h1 h2)⟩)
  | lst o l' =>
    cases e
    obtain ⟨a, xs, fq, e1, h1, h2⟩ := b.lst ok.zh
    exact .inl ⟨a, e1, ⟨xs, SqL.of h1⟩, q _ (itp_list (SqL.of h1) (fun ps z => by rw [h1] at z; cases z) h2)⟩
  | xls l' =>
    cases e
    obtain ⟨fq, _, a, xs, e1, h1, h2⟩ := b
    exact .inl ⟨a, e1, ⟨xs, ok.zh.seqL h1⟩, q _ (itf_list h1 h2).itp⟩
  | str s =>
    cases e
    exact .inr (.inr ⟨s, b.str_eq.1, q _ itp_str⟩)
  | _ => cases e
theorem walkF {d : D} {l : List D} {v : V} {R' : It → Hp → Prop} (zh : Sub Z H) (b : R g Z H d v []) (e : d.walk = some l) (q : ∀ J, ItF g Z l J → R' J H) :
    (∃ a, v = .ref a ∧ (∃ xs, SqL g.K H a xs) ∧ R' (Itl g.K a) H) ∨ (∃ a, v = .ref a ∧ (∃ xs, SqT g.K H a xs) ∧ R' (Itt g.K a) H) ∨ ∃ z, v = .str z ∧ R' (Its z) H := by
  cases d with
  | tup l' =>
    cases e
    obtain ⟨_, a, xs, e1, h1, h2⟩ := b
    exact .inr (.inl ⟨a, e1, ⟨xs, zh.seqT h1⟩, q _ (itf_tup h1 h2)⟩)
  | lst o l' =>
    cases e
    cases o with
    | false =>
      obtain ⟨_, a, xs, e1, h1, h2⟩ := b
      exact .inl ⟨a, e1, ⟨xs, SqL.of (zh _ _ h1)⟩, q _ (itf_list (SqL.of h1) h2)⟩
    | true =>
      obtain ⟨a, xs, fr, e1, e2, _⟩ := b
      cases e2
  | xls l' =>
    cases e
    obtain ⟨_, a, xs, e1, h1, h2⟩ := b
    exact .inl ⟨a, e1, ⟨xs, zh.seqL h1⟩, q _ (itf_list h1 h2)⟩
  | str s =>
    cases e
    exact .inr (.inr ⟨s, b.1.1, q _ itf_str⟩)
  | _ => cases e
end
section
variable {X : Cx} {T : List (Addr × Str)} {J : Nat → Prop} {W : WX} {e a b tg : Expr} {pos : Pos} {es : List Expr} {rest : List Stmt}
/-- over a pure thing, the slots untouched -/
def wP (m : Rho → Option (O D)) : Rho → Option (O (List D)) := fun ρ => bnd (m ρ) fun d => ret d.walk
theorem ci_p {m : Rho → Option (O D)} (h : PE X e (cP (gx X T) W m)) : PI X tg e (cIP (gx X T) W (wP m)) := (pi_any h).imp fun σ H R' ⟨Z, ρ, fp, o, hm, ok, re, q⟩ => by
  refine cP.go hm ok re q.x fun d v Z1 H1 hm1 g1 ok1 re1 b1 => ?_
  obtain ⟨l, hl, rfl⟩ := ret_eq hm1
  exact walkP ok1.none b1 hl fun J it => q J Z1 H1 g1 it
/-- over an owned thing: it is frozen -/
def wE (m : ME) : MEA := fun ρ => bE (m ρ) fun d ρ1 => retE d.fz.walk ρ1
theorem ci_e {m : ME} (h : PE X e (cE (gx X T) W m)) : PI X tg e (cIE (gx X T) W (wE m)) := (pi_any h).imp fun σ H R' ⟨Z, ρ, fp, o, hm, ok, re, q⟩ => by
  refine cE.go hm ok re q.x fun d v ρ1 Z1 H1 fe fd hm1 s1 re1 r1 => ?_
  obtain ⟨l, hl, rfl⟩ := retE_eq hm1
  have s1p := s1.permR List.perm_append_comm
  obtain ⟨Z2, s2, r2⟩ := r1.toFz s1p.ok
  exact walkF s2.ok.zh r2 hl fun J it => q J Z2 H1 fe (s1p.trans s2) (RE.mono s2.zz (fun _ _ => rfl) re1) it
/-- from the pure to the owned reading: what is walked is frozen -/
def wEP (m : Rho → Option (O D)) : MEA := wE (eP m)
/-- range(n), range(a, b) -/
def wRng1 (m : MEA) : MEA := fun ρ => bE (m ρ) fun ds ρ1 => match ds with
  | [.int n] => if -(2 ^ 62) ≤ n ∧ n < 2 ^ 62 then some (.ok ((List.range n.toNat).map fun (k : Nat) => D.int (0 + k)), ρ1) else none
  | _ => none
def wRng2 (m : MEA) : MEA := fun ρ => bE (m ρ) fun ds ρ1 => match ds with
  | [.int i, .int j] => if -(2 ^ 62) ≤ i ∧ i < 2 ^ 62 ∧ -(2 ^ 62) ≤ j ∧ j < 2 ^ 62 then some (.ok ((List.range (j - i).toNat).map fun (k : Nat) => D.int (i + k)), ρ1) else none
  | _ => none
theorem ci_rng1 {p : Pos} {m : MEA} (hg : Gl X "range") (hmg : X.mg "range" = none) (ha : PA X [a] (cEA (gx X T) W m)) (hs : starEach [a] X.env = [(false, eval a X.env)] := by rfl) : PI X tg (.Call (.Name "range" p) [a] [] pos) (cIE (gx X T) W (wRng1 m)) :=
  (pi_range1 hg hmg ha hs).imp fun σ H R' ⟨Z, ρ, fp, o, hm, ok, re, q⟩ => by
  refine cEA.go hm ok re q.x fun ds vs ρ1 Z1 H1 fe fd hm1 s1 re1 r1 => ?_
  split at hm1
  · rename_i n
    split at hm1
    · rename_i c
      cases Option.some.inj hm1
      obtain ⟨x, r, f1, f2, e1, e2, h1, h2⟩ := r1
      rw [h2.1, h1.1] at e1
      exact ⟨n, e1, c.1, c.2, q _ Z1 H1 fe s1.drop re1 itf_rng⟩
    · cases hm1
  · cases hm1
theorem ci_rng2 {p : Pos} {m : MEA} (hg : Gl X "range") (hmg : X.mg "range" = none) (ha : PA X [a, b] (cEA (gx X T) W m)) (hs : starEach [a, b] X.env = [(false, eval a X.env), (false, eval b X.env)] := by rfl) (hs2 : starEach [b] X.env = [(false, eval b X.env)] := by rfl) :
    PI X tg (.Call (.Name "range" p) [a, b] [] pos) (cIE (gx X T) W (wRng2 m)) :=
  (pi_range2 hg hmg ha hs hs2).imp fun σ H R' ⟨Z, ρ, fp, o, hm, ok, re, q⟩ => by
  refine cEA.go hm ok re q.x fun ds vs ρ1 Z1 H1 fe fd hm1 s1 re1 r1 => ?_
  split at hm1
  · rename_i i j
    split at hm1
    · rename_i c
      cases Option.some.inj hm1
      obtain ⟨x, r, f1, f2, e1, e2, h1, x', r', f1', f2', e1', e2', h1', h2⟩ := r1
      rw [e1', h2.1, h1'.1, h1.1] at e1
      exact ⟨i, j, e1, c, q _ Z1 H1 fe s1.drop re1 itf_rng⟩
    · cases hm1
  · cases hm1
/-- range in a pure place -/
def wpRng1 (m : Rho → Option (O (List D))) : Rho → Option (O (List D)) := fun ρ => bnd (m ρ) fun ds => match ds with
  | [.int n] => if -(2 ^ 62) ≤ n ∧ n < 2 ^ 62 then some (.ok ((List.range n.toNat).map fun (k : Nat) => D.int (0 + k))) else none
  | _ => none
def wpRng2 (m : Rho → Option (O (List D))) : Rho → Option (O (List D)) := fun ρ => bnd (m ρ) fun ds => match ds with
  | [.int i, .int j] => if -(2 ^ 62) ≤ i ∧ i < 2 ^ 62 ∧ -(2 ^ 62) ≤ j ∧ j < 2 ^ 62 then some (.ok ((List.range (j - i).toNat).map fun (k : Nat) => D.int (i + k))) else none
  | _ => none
theorem cip_rng1 {p : Pos} {m : Rho → Option (O (List D))} (hg : Gl X "range") (hmg : X.mg "range" = none) (ha : PA X [a] (cPA (gx X T) W m)) (hs : starEach [a] X.env = [(false, eval a X.env)] := by rfl) : PI X tg (.Call (.Name "range" p) [a] [] pos) (cIP (gx X T) W (wpRng1 m)) :=
  (pi_range1 hg hmg ha hs).imp fun σ H R' ⟨Z, ρ, fp, o, hm, ok, re, q⟩ => by
  refine cPA.go hm ok re q.x fun ds vs Z1 H1 hm1 g1 ok1 re1 b1 => ?_
  split at hm1
  · rename_i n
    split at hm1
    · rename_i c
      cases Option.some.inj hm1
      cases b1 with
      | cons h1 h2 =>
        cases h2
        rw [h1.int_eq]
        exact ⟨n, rfl, c.1, c.2, q _ Z1 H1 g1 itf_rng.itp⟩
    · cases hm1
  · cases hm1
theorem cip_rng2 {p : Pos} {m : Rho → Option (O (List D))} (hg : Gl X "range") (hmg : X.mg "range" = none) (ha : PA X [a, b] (cPA (gx X T) W m)) (hs : starEach [a, b] X.env = [(false, eval a X.env), (false, eval b X.env)] := by rfl) (hs2 : starEach [b] X.env = [(false, eval b X.env)] := by rfl) :
    PI X tg (.Call (.Name "range" p) [a, b] [] pos) (cIP (gx X T) W (wpRng2 m)) :=
  (pi_range2 hg hmg ha hs hs2).imp fun σ H R' ⟨Z, ρ, fp, o, hm, ok, re, q⟩ => by
  refine cPA.go hm ok re q.x fun ds vs Z1 H1 hm1 g1 ok1 re1 b1 => ?_
  split at hm1
  · rename_i i j
    split at hm1
    · rename_i c
      cases Option.some.inj hm1
      cases b1 with
      | cons h1 h2 =>
        cases h2 with
        | cons h2 h3 =>
          cases h3
          rw [h1.int_eq, h2.int_eq]
          exact ⟨i, j, rfl, c, q _ Z1 H1 g1 itf_rng.itp⟩
    · cases hm1
  · cases hm1

/-! ### for -/
def loopF (t : MT) (b : MS) : List D → Rho → Option (O Fl × Rho)
  | [], ρ => some (.ok .nx, ρ)
  | d :: ds, ρ => match t d ρ with
    | none => none
    | some ρ1 => match b ρ1 with
      | some (.ok .nx, ρ2) => loopF t b ds ρ2
      | some (.ok .ct, ρ2) => loopF t b ds ρ2
      | some (.ok .bk, ρ2) => some (.ok .nx, ρ2)
      | y => y
def sFor (m : MEA) (t : MT) (b : MS) : MS := fun ρ => bE (m ρ) fun ds ρ1 => loopF t b ds ρ1
theorem cs_for {iter : Expr} {body : List Stmt} {m : MEA} {t : MT} {mb : MS} (hp : PassesOwn (model X.prog X.w) X.A X.env X.xe) (hc : X.calm = true) (hi : PI X tg iter (cIE (gx X T) W m)) (hg : PG X tg (cG (gx X T) J t)) (hb : PSs X body (cS (gx X T) J W mb))
    (hs : ∀ x, foldedSetIterable iter X.env x = pure x := by intro _; rfl) : PS X (.For tg iter body [] pos) (cS (gx X T) J W (sFor m t mb)) := (ps_for hp hc hi hg hb hs).imp fun D σ H ⟨Z, ρ, fp, x, hm, ok, re, q⟩ => by
  rcases bE_some hm with ⟨ds, ρ1, e, hka⟩ | ⟨c, ks, vs, ρ1, e, eo⟩
  · refine ⟨Z, ρ, fp, _, e, ok, re, fun It Z1 H1 fe s1 re1 it => ?_⟩
    refine ⟨fun i m σ' H' => i + m = ds.length ∧ ∃ Z' ρ' fp', loopF t mb (ds.drop i) ρ' = some x ∧ RE (gx X T) Z' H' ρ' σ' fp' ∧ Kp J σ σ' ∧ Stp (gx X T) Z H fp Z' H' fp' ∧ Sub Z1 Z', ⟨ds.length, by simp, Z1, ρ1, fe, by simpa using hka, re1, Kp.refl, s1, Sub.refl _⟩, ?_⟩
    rintro i m σ' H' ⟨hl, Z', ρ', fp', hlp, re', k', s', zz⟩
    by_cases hi : i < ds.length
    · refine .inr ⟨it.go i Z' H' hi zz s'.ok.none, fun σ2 H2 => ∃ Z2 ρ2 f2, loopF t mb (ds.drop (i + 1)) ρ2 = some x ∧ RE (gx X T) Z2 H2 ρ2 σ2 f2 ∧ Kp J σ σ2 ∧ Stp (gx X T) Z H fp Z2 H2 f2 ∧ Sub Z1 Z2, fun σ2 H2 n => ⟨m - 1, by omega, by omega, n⟩, fun xv H3 y => ?_⟩
      obtain ⟨d, Z3, hd, g3, r3⟩ := it.yld i Z' H' xv H3 hi zz s'.ok.none y
      have hdr : ds.drop i = d :: ds.drop (i + 1) := by
        rw [List.drop_eq_getElem_cons hi]
        have : ds[i] = d := by
          rw [List.getElem?_eq_getElem hi] at hd
          exact Option.some.inj hd
        rw [this]
      rw [hdr] at hlp
      have s3 := s'.trans (Grw.stp g3 s'.ok)
      have zz3 : Sub Z1 Z3 := zz.trans g3.zz
      simp only [loopF] at hlp
      split at hlp
      · cases hlp
      · rename_i ρ2 ht
        refine ⟨Z3, ρ', fp', [], d, ρ2, ht, by rw [List.append_nil]; exact s3.ok, re'.grow g3, r3, fun σ4 f4 fr4 k4 p4 re4 => ?_⟩
        rw [List.append_nil] at p4
        have s4 := ((Stp.refl s3.ok).permR p4).drop
        have s5 := s3.trans s4
        have zz5 := zz3.trans s4.zz
        have k5 := k'.trans k4
        refine ⟨Z3, ρ2, f4, ?_⟩
        have nx : ∀ ρ6, loopF t mb (ds.drop (i + 1)) ρ6 = some x → PostSN (gx X T) J σ4 Z3 H3 f4 ρ6 (fun σ2 H2 => ∃ Z2 ρ2 f2, loopF t mb (ds.drop (i + 1)) ρ2 = some x ∧ RE (gx X T) Z2 H2 ρ2 σ2 f2 ∧ Kp J σ σ2 ∧ Stp (gx X T) Z H fp Z2 H2 f2 ∧ Sub Z1 Z2) :=
          fun ρ6 hl6 σ6 Z6 H6 f6 k6 s6 re6 => ⟨Z6, ρ6, f6, hl6, re6, k5.trans k6, s5.trans s6, zz5.trans s6.zz⟩
        have qm := q.mono k5 s5
        split at hlp
        · rename_i ρ6 hb6
          exact ⟨_, hb6, s5.ok, re4, nx ρ6 hlp⟩
        · rename_i ρ6 hb6
          exact ⟨_, hb6, s5.ok, re4, nx ρ6 hlp⟩
        · rename_i ρ6 hb6
          cases Option.some.inj hlp
          exact ⟨_, hb6, s5.ok, re4, qm⟩
        · rename_i n1 n2 n3
          refine ⟨x, hlp, s5.ok, re4, ?_⟩
          obtain ⟨o, ρ7⟩ := x
          cases o with
          | ok f =>
            cases f with
            | nx => exact absurd hlp (n1 ρ7)
            | ct => exact absurd hlp (n2 ρ7)
            | bk => exact absurd hlp (n3 ρ7)
            | ret d => exact qm
          | exc c ks vs => exact qm
    · have e : ds.drop i = [] := List.drop_eq_nil_of_le (by omega)
      rw [e] at hlp
      have e2 : i = ds.length := by omega
      cases Option.some.inj hlp
      exact .inl ⟨by rw [e2]; exact it.stop Z' H' zz s'.ok.none, q σ' Z' H' fp' k' s' re'⟩
  · subst eo
    exact ⟨Z, ρ, fp, _, e, ok, re, fun cls dx Z' H' f' s' r' xr => q cls dx σ Z' H' f' Kp.refl s' r' xr⟩

/-! ### while -/
def loopW (c : MET) (b : MS) : Nat → Rho → Option (O Fl × Rho)
  | 0, _ => none
  | n + 1, ρ => bE (c ρ) fun t ρ1 => if t = true then match b ρ1 with
      | some (.ok .nx, ρ2) => loopW c b n ρ2
      | some (.ok .ct, ρ2) => loopW c b n ρ2
      | some (.ok .bk, ρ2) => some (.ok .nx, ρ2)
      | y => y
    else some (.ok .nx, ρ1)
theorem cs_while {c : Expr} {body : List Stmt} {mc : MET} {mb : MS} (n : Nat) (hp : PassesOwn (model X.prog X.w) X.A X.env X.xe) (hc : PT X c (cET (gx X T) W mc)) (hb : PSs X body (cS (gx X T) J W mb)) : PS X (.While c body [] pos) (cS (gx X T) J W (loopW mc mb n)) :=
  (ps_while hp hc hb).imp fun D σ H ⟨Z, ρ, fp, x, hm, ok, re, q⟩ => by
  refine ⟨fun m σ' H' => ∃ Z' ρ' fp', loopW mc mb m ρ' = some x ∧ RE (gx X T) Z' H' ρ' σ' fp' ∧ Kp J σ σ' ∧ Stp (gx X T) Z H fp Z' H' fp', ⟨n, Z, ρ, fp, hm, re, Kp.refl, Stp.refl ok⟩, ?_⟩
  rintro m σ' H' ⟨Z', ρ', fp', hlp, re', k', s'⟩
  cases m with
  | zero => cases hlp
  | succ m =>
    refine cET.go hlp s'.ok re' (fun c ks vs ρ2 e => by
      subst e
      exact fun cls dx Z2 H2 f2 s2 r2 xr => q cls dx σ' Z2 H2 f2 k' (s'.trans s2) r2 xr) fun t ρ1 Z1 H1 fe hm1 s1 re1 => ?_
    have s5 := s'.trans s1
    have qm := q.mono k' s5
    cases t with
    | false =>
      cases Option.some.inj hm1
      exact qm σ' Z1 H1 fe Kp.refl (Stp.refl s5.ok) re1
    | true =>
      refine ⟨fun σ2 H2 => ∃ Z' ρ' fp', loopW mc mb m ρ' = some x ∧ RE (gx X T) Z' H2 ρ' σ2 fp' ∧ Kp J σ σ2 ∧ Stp (gx X T) Z H fp Z' H2 fp', fun σ2 H2 n => ⟨m, Nat.lt_succ_self _, n⟩, Z1, ρ1, fe, ?_⟩
      have nx : ∀ ρ6, loopW mc mb m ρ6 = some x → PostSN (gx X T) J σ' Z1 H1 fe ρ6 (fun σ2 H2 => ∃ Z' ρ' fp', loopW mc mb m ρ' = some x ∧ RE (gx X T) Z' H2 ρ' σ2 fp' ∧ Kp J σ σ2 ∧ Stp (gx X T) Z H fp Z' H2 fp') :=
        fun ρ6 hl6 σ6 Z6 H6 f6 k6 s6 re6 => ⟨Z6, ρ6, f6, hl6, re6, k'.trans k6, s5.trans s6⟩
      rw [if_pos rfl] at hm1
      split at hm1
      · rename_i ρ6 hb6
        exact ⟨_, hb6, s5.ok, re1, nx ρ6 hm1⟩
      · rename_i ρ6 hb6
        exact ⟨_, hb6, s5.ok, re1, nx ρ6 hm1⟩
      · rename_i ρ6 hb6
        cases Option.some.inj hm1
        exact ⟨_, hb6, s5.ok, re1, qm⟩
      · rename_i n1 n2 n3
        refine ⟨x, hm1, s5.ok, re1, ?_⟩
        obtain ⟨o, ρ7⟩ := x
        cases o with
        | ok f =>
          cases f with
          | nx => exact absurd hm1 (n1 ρ7)
          | ct => exact absurd hm1 (n2 ρ7)
          | bk => exact absurd hm1 (n3 ρ7)
          | ret d => exact qm
        | exc c ks vs => exact qm
end
end OP

/-! OG: list comprehensions -/
namespace OP
open PySem PySem.Spec PyProof.Rows L2

theorem wipe_get (σ : L2.St) : ∀ (vs : List Nat) (i : Nat), (wipe σ vs)[i]? = if i ∈ vs then (if i < σ.length then some none else none) else σ[i]?
  | [], i => by simp [wipe]
  | v :: vs, i => by
    unfold wipe
    by_cases h : i = v
    · subst h
      rw [List.getElem?_set]
      simp [wipe_length]
    · rw [List.getElem?_set_ne (fun z => h z.symm), wipe_get σ vs i]
      simp [h]
theorem wipe_of {vs : List Nat} {σ σ2 : L2.St} (k : Kp (fun i => i ∉ vs) (wipe σ vs) σ2) : wipe σ2 vs = wipe σ vs := by
  refine List.ext_getElem? fun i => ?_
  have hl : σ2.length = σ.length := k.1.trans (wipe_length σ vs)
  rw [wipe_get σ2 vs i]
  by_cases h : i ∈ vs
  · rw [wipe_get σ vs i]
    simp [h, hl]
  · rw [if_neg h]
    exact k.2 i h
def wipeR (ρ : Rho) : List Nat → Rho
  | [] => ρ
  | v :: vs => (wipeR ρ vs).set v none
theorem RE.wipe {g : G} {Z H : Hp} {ρ : Rho} {σ : L2.St} {fp : List Addr} (re : RE g Z H ρ σ fp) : ∀ vs : List Nat, ∃ fe fr, RE g Z H (wipeR ρ vs) (L2.wipe σ vs) fe ∧ fp.Perm (fe ++ fr)
  | [] => ⟨fp, [], re, by rw [List.append_nil]⟩
  | v :: vs => by
    obtain ⟨fe, fr, re1, p⟩ := RE.wipe re vs
    unfold wipeR L2.wipe
    by_cases hi : v < (wipeR ρ vs).length
    · obtain ⟨y, f1, fi, f2, h1, h2, h3, ex⟩ := re1.at (i := v) (List.getElem?_eq_getElem hi)
      refine ⟨f1 ++ f2, fi ++ fr, ?_, p.trans ?_⟩
      · have := ex Z H none none [] (Sub.refl _) (fun _ _ => rfl) rfl
        rw [List.append_nil] at this
        exact this
      · rw [h2]
        have : (f1 ++ fi ++ f2).Perm (f1 ++ f2 ++ fi) := by
          rw [List.append_assoc, List.append_assoc]
          exact List.Perm.append_left f1 List.perm_append_comm
        have := List.Perm.append_right fr this
        rw [List.append_assoc _ fi fr] at this
        exact this
    · refine ⟨fe, fr, ?_, p⟩
      rw [List.set_eq_of_length_le (by omega), List.set_eq_of_length_le (by rw [re1.len]; omega)]
      exact re1

/-- within a comprehension no exception is let out -/
abbrev W0 : WX := fun _ _ _ _ => False
def eYes : MET := fun ρ => some (.ok true, ρ)
def pYes : Rho → Option (O Bool) := fun _ => some (.ok true)
theorem _root_.L2.PTs.imp {X : Cx} {es : List Expr} {t t' : TT} (h : PTs X es t) (i : ∀ σ H Q, t' σ H Q → t σ H Q) : PTs X es t' := ⟨fun pins s σ H Q I q => h.run pins s σ H Q I (i σ H Q q)⟩
section
variable {X : Cx} {T : List (Addr × Str)} {W : WX} {e : Expr}
theorem cets_nil : PTs X [] (cET (gx X T) W eYes) := pts_nil.imp fun σ H Q ⟨Z, ρ, fp, x, hm, ok, re, q⟩ => by
  cases Option.some.inj hm
  exact q Z H fp (Stp.refl ok) re
theorem cets_one {m : MET} (h : PT X e (cET (gx X T) W m)) : PTs X [e] (cET (gx X T) W m) := pts_one h
theorem cpts_nil : PTs X [] (cPT (gx X T) W pYes) := pts_nil.imp fun σ H Q ⟨Z, ρ, fp, x, hm, ok, re, q⟩ => by
  cases Option.some.inj hm
  exact q Z H (Grw.refl ok)
theorem cpts_one {m : Rho → Option (O Bool)} (h : PT X e (cPT (gx X T) W m)) : PTs X [e] (cPT (gx X T) W m) := pts_one h
end

/-! ### owned -/
def lcE (t : MT) (c : MET) (me : ME) (vs : List Nat) : List D → Rho → Option (List D × Rho)
  | [], ρ => some ([], ρ)
  | d :: ds, ρ => match t d ρ with
    | none => none
    | some ρ1 => match c ρ1 with
      | some (.ok true, ρ2) => match me ρ2 with
        | some (.ok y, ρ3) => (lcE t c me vs ds (wipeR ρ3 vs)).map fun r => (y :: r.1, r.2)
        | _ => none
      | some (.ok false, ρ2) => lcE t c me vs ds (wipeR ρ2 vs)
      | _ => none
def eLc (m : MEA) (t : MT) (c : MET) (me : ME) (vs : List Nat) : ME := fun ρ => bE (m ρ) fun ds ρ1 => match lcE t c me vs ds (wipeR ρ1 vs) with
  | some (out, ρ2) => if out.length ≤ 16777216 then some (.ok (.lst true out), ρ2) else none
  | none => none
theorem wipe_wipe {σ : L2.St} {vs : List Nat} : wipe (wipe σ vs) vs = wipe σ vs := wipe_of Kp.refl
theorem RE.unwipe {g : G} {Z H : Hp} {σ : L2.St} : ∀ {vs : List Nat} {ρ : Rho} {fp : List Addr}, (∀ i ∈ vs, ρ[i]? = some none ∨ ρ[i]? = none) → RE g Z H ρ (L2.wipe σ vs) fp → RE g Z H ρ σ fp
  | [], ρ, fp, h, re => re
  | v :: vs, ρ, fp, h, re => by
    refine RE.unwipe (vs := vs) (fun i hi => h i (List.mem_cons_of_mem _ hi)) ?_
    have re : RE g Z H ρ ((L2.wipe σ vs).set v none) fp := re
    by_cases hv : v < ρ.length
    · have hr : ρ[v]? = some none := by
        rcases h v List.mem_cons_self with z | z
        · exact z
        · rw [List.getElem?_eq_getElem hv] at z; cases z
      obtain ⟨y, f1, fi, f2, h1, h2, h3, ex⟩ := re.at hr
      have hl : v < (L2.wipe σ vs).length := by
        have := re.len
        rw [List.length_set] at this
        omega
      have := ex Z H none ((L2.wipe σ vs)[v]) [] (Sub.refl _) (fun _ _ => rfl) rfl
      rw [List.set_set, set_self (List.getElem?_eq_getElem hl), set_self hr] at this
      have fi0 : fi = [] := h3
      rw [h2, fi0]
      exact this
    · have hl : (L2.wipe σ vs).length ≤ v := by
        have := re.len
        rw [List.length_set] at this
        omega
      rw [List.set_eq_of_length_le hl] at re
      exact re

def Wd (vs : List Nat) (ρ : Rho) : Prop := ∀ i ∈ vs, ρ[i]? = some none ∨ ρ[i]? = none
theorem wd_wipe (ρ : Rho) : ∀ vs : List Nat, Wd vs (wipeR ρ vs)
  | [] => fun i hi => by cases hi
  | v :: vs => fun i hi => by
    unfold wipeR
    by_cases h : i = v
    · subst h
      by_cases hl : i < (wipeR ρ vs).length
      · exact .inl (by rw [List.getElem?_set_self hl])
      · exact .inr (by rw [List.getElem?_eq_none]; simpa using hl)
    · rw [List.getElem?_set_ne (fun z => h z.symm)]
      exact wd_wipe ρ vs i ((List.mem_cons.mp hi).resolve_left h)
theorem lcE_wd {t : MT} {c : MET} {me : ME} {vs : List Nat} : ∀ {ds : List D} {ρ : Rho} {r : List D × Rho}, lcE t c me vs ds ρ = some r → Wd vs ρ → Wd vs r.2
  | [], ρ, r, h, w => by cases Option.some.inj h; exact w
  | d :: ds, ρ, r, h, w => by
    simp only [lcE] at h
    split at h
    · cases h
    · split at h
      · split at h
        · rename_i y ρ3 _
          cases e : lcE t c me vs ds (wipeR ρ3 vs) with
          | none => rw [e] at h; cases h
          | some r1 => rw [e] at h; cases Option.some.inj h; show Wd vs r1.2; exact lcE_wd e (wd_wipe ρ3 vs)
        · cases h
      · rename_i ρ2 _
        exact lcE_wd h (wd_wipe ρ2 vs)
      · cases h
section
variable {X : Cx} {T : List (Addr × Str)} {W : WX}
theorem lcE_reads {m : MEA} {t : MT} {c : MET} {me : ME} {vs : List Nat} {σ : L2.St} {H : Hp} {Q : VK} (h : cE (gx X T) W (eLc m t c me vs) σ H Q) :
    tLc (cIE (gx X T) W m) (cG (gx X T) (fun i => i ∉ vs) t) (cET (gx X T) W0 c) (cE (gx X T) W0 me) vs σ H Q := by
  obtain ⟨Z, ρ, fp, x, hm, ok, re, q⟩ := h
  rcases bE_some hm with ⟨ds, ρ1, e, hka⟩ | ⟨c', ks, vs', ρ1, e, eo⟩
  · refine ⟨Z, ρ, fp, _, e, ok, re, fun It Z1 H1 fe s1 re1 it => ?_⟩
    split at hka
    · rename_i out ρ2 hlc
      split at hka
      · rename_i hsz
        cases Option.some.inj hka
        intro L hL
        obtain ⟨fw, fr, rew, pw⟩ := re1.wipe vs
        have s1w := (s1.permR pw).drop
        have sL := Stp.newO s1w.ok hL (o := .lst []) (fun ps z => by cases z)
        have nL : L ∉ fw := fun z => s1w.ok.hf L z (Nt.none hL)
        refine ⟨fun i m H' => i + m = ds.length ∧ ∃ Z' ρ' fe' fa acc accD rest, lcE t c me vs (ds.drop i) ρ' = some (rest, ρ2) ∧ accD ++ rest = out ∧ Wd vs ρ' ∧ RE (gx X T) Z' H' ρ' (wipe σ vs) fe' ∧ H' L = some (.lst acc) ∧ Rs (gx X T) Z' H' accD acc fa ∧ Stp (gx X T) Z H fp Z' H' (fe' ++ L :: fa) ∧ Sub Z1 Z', ?_, ?_⟩
        · refine ⟨ds.length, by simp, Z1, wipeR ρ1 vs, fw, [], [], [], out, by simpa using hlc, rfl, wd_wipe ρ1 vs, RE.mono (Sub.refl _) (upd_other nL) rew, upd_same, ⟨rfl, rfl⟩, ?_, Sub.refl _⟩
          exact (s1w.trans sL).permR (List.perm_append_comm (l₁ := [L]))
        · rintro i m H' ⟨hl, Z', ρ', fe', fa, acc, accD, rest, hlp, happ, wd', re', hacc, racc, s', zz⟩
          by_cases hi : i < ds.length
          · have hNx : ∀ {P : Prop}, P → P := fun h => h
            refine .inr ⟨it.go i Z' H' hi zz s'.ok.none, fun H2 => ∃ Z' ρ' fe' fa acc accD rest, lcE t c me vs (ds.drop (i + 1)) ρ' = some (rest, ρ2) ∧ accD ++ rest = out ∧ Wd vs ρ' ∧ RE (gx X T) Z' H2 ρ' (wipe σ vs) fe' ∧ H2 L = some (.lst acc) ∧ Rs (gx X T) Z' H2 accD acc fa ∧ Stp (gx X T) Z H fp Z' H2 (fe' ++ L :: fa) ∧ Sub Z1 Z', fun H2 n => ⟨m - 1, by omega, by omega, n⟩, fun xv H3 y => ?_⟩
            obtain ⟨d, Z3, hd, g3, r3⟩ := it.yld i Z' H' xv H3 hi zz s'.ok.none y
            have hdr : ds.drop i = d :: ds.drop (i + 1) := by
              rw [List.drop_eq_getElem_cons hi]
              have : ds[i] = d := by
                rw [List.getElem?_eq_getElem hi] at hd
                exact Option.some.inj hd
              rw [this]
            rw [hdr] at hlp
            have s3 := s'.trans (Grw.stp g3 s'.ok)
            have zz3 : Sub Z1 Z3 := zz.trans g3.zz
            have re3 := re'.grow g3
            have racc3 := Rs.grow racc g3
            have hacc3 : H3 L = some (.lst acc) := g3.keep L _ hacc (by simp) (fun ps z => by cases z)
            simp only [lcE] at hlp
            split at hlp
            · cases hlp
            · rename_i ρ4 ht
              refine ⟨Z3, ρ', fe', [], d, ρ4, ht, by rw [List.append_nil]; exact s3.ok.sub, re3, r3, fun σ4 f4 fr4 k4 p4 re4 => ⟨wipe_of k4, ?_⟩⟩
              rw [List.append_nil] at p4
              have s4 := ((Stp.refl s3.ok.sub).permR p4).drop
              have hw4 : wipe σ4 vs = wipe σ vs := wipe_of k4
              have s5 := s3.trans (s4.frame s3.ok)
              have racc4 : Rs (gx X T) Z3 H3 accD acc fa := racc3
              have hacc4 : H3 L = some (.lst acc) := hacc3
              have zz5 := zz3.trans s4.zz
              split at hlp
              · rename_i ρ6 hc6
                refine ⟨Z3, ρ4, f4, _, hc6, s4.ok, re4, fun Z6 H6 f6 s6 re6 => ?_⟩
                have s7 := s5.trans (s6.frame s5.ok)
                have racc6 : Rs (gx X T) Z6 H6 accD acc fa := Rs.mono s6.zz (fun a ha => s6.at s5.ok a (by simp [ha])) racc4
                have hacc6 : H6 L = some (.lst acc) := (s6.at s5.ok L (by simp)).trans hacc4
                refine iteT ?_
                split at hlp
                · rename_i y ρ7 hm7
                  refine ⟨Z6, ρ6, f6, _, hm7, s6.ok, re6, fun v Z8 H8 f8 fd8 s8 re8 r8 => ?_⟩
                  have s9 := s7.trans (s8.frame s7.ok)
                  have racc8 : Rs (gx X T) Z8 H8 accD acc fa := Rs.mono s8.zz (fun a ha => s8.at s7.ok a (by simp [ha])) racc6
                  have hacc8 : H8 L = some (.lst acc) := (s8.at s7.ok L (by simp)).trans hacc6
                  cases er : lcE t c me vs (ds.drop (i + 1)) (wipeR ρ7 vs) with
                  | none => rw [er] at hlp; cases hlp
                  | some r =>
                    rw [er] at hlp
                    cases Option.some.inj hlp
                    have hlen : acc.length < sizeLine := by
                      rw [sl_eq, Rs.len racc8]
                      have := congrArg List.length happ
                      rw [List.length_append, List.length_cons] at this
                      omega
                    refine ⟨acc, hacc8, hlen, ?_⟩
                    -- the permutation of what is owned: the slots, the list, its items
                    obtain ⟨fw8, fr8, re9, p9⟩ := re8.wipe vs
                    rw [hw4] at re9
                    have pA : (f8 ++ fd8 ++ (L :: fa)).Perm ((fw8 ++ L :: (fa ++ fd8)) ++ fr8) := by
                      refine (List.Perm.append_right (L :: fa) (List.Perm.append_right fd8 p9)).trans ?_
                      exact List.perm_iff_count.mpr fun a => by
                        simp only [List.count_append, List.count_cons]
                        omega
                    have s10 := (s9.permR pA).drop
                    have hLm : L ∈ fw8 ++ L :: (fa ++ fd8) := by simp
                    have sw := Stp.write s10.ok hLm hacc8 (fun ps z => by cases z) (o := .lst (acc ++ [v])) (fun ps z => by cases z) (fun c q z => by unfold LamX.CodeO at z; cases z)
                    have nd := s10.ok.nd
                    have nLw : L ∉ fw8 := fun z => (List.nodup_append.mp nd).2.2 L z L List.mem_cons_self rfl
                    have nLa : L ∉ fa ++ fd8 := (List.nodup_cons.mp (List.nodup_append.mp nd).2.1).1
                    refine ⟨Z8, wipeR ρ7 vs, fw8, fa ++ fd8, acc ++ [v], accD ++ [y], r.1, er, by rw [← happ]; simp, wd_wipe ρ7 vs, RE.mono (Sub.refl _) (upd_other nLw) re9, upd_same, ?_, s10.trans sw, (zz5.trans s6.zz).trans s8.zz⟩
                    refine Rs.app (Rs.mono (Sub.refl _) (upd_other fun z => nLa (by simp [z])) racc8) ⟨v, [], fd8, [], rfl, by simp, R.mono (Sub.refl _) (upd_other fun z => nLa (by simp [z])) r8, rfl, rfl⟩
                · cases hlp
              · rename_i ρ6 hc6
                refine ⟨Z3, ρ4, f4, _, hc6, s4.ok, re4, fun Z6 H6 f6 s6 re6 => ?_⟩
                have s7 := s5.trans (s6.frame s5.ok)
                have racc6 : Rs (gx X T) Z6 H6 accD acc fa := Rs.mono s6.zz (fun a ha => s6.at s5.ok a (by simp [ha])) racc4
                have hacc6 : H6 L = some (.lst acc) := (s6.at s5.ok L (by simp)).trans hacc4
                refine iteF ?_
                obtain ⟨fw8, fr8, re9, p9⟩ := re6.wipe vs
                rw [hw4] at re9
                have pA : (f6 ++ (L :: fa)).Perm ((fw8 ++ L :: fa) ++ fr8) := by
                  refine (List.Perm.append_right (L :: fa) p9).trans ?_
                  simp only [List.append_assoc]
                  exact List.Perm.append_left fw8 List.perm_append_comm
                exact ⟨Z6, wipeR ρ6 vs, fw8, fa, acc, accD, rest, hlp, happ, wd_wipe ρ6 vs, re9, hacc6, racc6, (s7.permR pA).drop, zz5.trans s6.zz⟩
              · cases hlp
          · have e0 : ds.drop i = [] := List.drop_eq_nil_of_le (by omega)
            rw [e0] at hlp
            have e2 : i = ds.length := by omega
            cases Option.some.inj hlp
            refine .inl ⟨by rw [e2]; exact it.stop Z' H' zz s'.ok.none, ?_⟩
            refine q _ Z' H' fe' (L :: fa) s' (RE.unwipe wd' re') ⟨L, acc, fa, rfl, rfl, hacc, ?_⟩
            rw [← happ, List.append_nil]
            exact racc
      · cases hka
    · cases hka
  · subst eo
    exact ⟨Z, ρ, fp, _, e, ok, re, q⟩
end

/-! ### pure -/
def lcP (t : MT) (c : Rho → Option (O Bool)) (me : Rho → Option (O D)) (ρ : Rho) : List D → Option (List D)
  | [] => some []
  | d :: ds => match t d ρ with
    | none => none
    | some ρ1 => match c ρ1 with
      | some (.ok true) => match me ρ1 with
        | some (.ok y) => if y.frz then (lcP t c me ρ ds).map fun r => y :: r else none
        | _ => none
      | some (.ok false) => lcP t c me ρ ds
      | _ => none
def pLc (m : Rho → Option (O (List D))) (t : MT) (c : Rho → Option (O Bool)) (me : Rho → Option (O D)) (vs : List Nat) : Rho → Option (O D) := fun ρ => bnd (m ρ) fun ds =>
  if D.frzs ds then match lcP t c me (wipeR ρ vs) ds with
    | some out => if out.length ≤ 16777216 then some (.ok (.lst false out)) else none
    | none => none
  else none
section
variable {X : Cx} {T : List (Addr × Str)} {W : WX}
theorem frz_at {ds : List D} {i : Nat} {d : D} (h : D.frzs ds = true) (e : ds[i]? = some d) : d.frz = true := by
  induction ds generalizing i with
  | nil => simp at e
  | cons x r ih =>
    have k' : x.frz = true ∧ D.frzs r = true := by simpa [D.frzs] using h
    cases i with
    | zero => have : x = d := by simpa using e
              rw [← this]; exact k'.1
    | succ i => exact ih k'.2 (by simpa using e)
theorem lcP_reads {m : Rho → Option (O (List D))} {t : MT} {c : Rho → Option (O Bool)} {me : Rho → Option (O D)} {vs : List Nat} {σ : L2.St} {H : Hp} {Q : VK} (h : cP (gx X T) W (pLc m t c me vs) σ H Q) :
    tLc (cIP (gx X T) W m) (cG (gx X T) (fun i => i ∉ vs) t) (cPT (gx X T) W0 c) (cP (gx X T) W0 me) vs σ H Q := by
  obtain ⟨Z, ρ, fp, x, hm, ok, re, q⟩ := h
  rcases bnd_some hm with ⟨ds, e, hka⟩ | ⟨c', ks, vs', e, eo⟩
  · refine ⟨Z, ρ, fp, _, e, ok, re, fun It Z1 H1 g1 it => ?_⟩
    split at hka
    · rename_i hfz
      split at hka
      · rename_i out hlc
        split at hka
        · rename_i hsz
          cases Option.some.inj hka
          intro L hL
          have ok1 := Grw.ok g1 ok
          obtain ⟨fw, fr, rew, pw⟩ := (re.grow g1).wipe vs
          have okw := ok1.perm pw
          have sL := Stp.newO ok1.none hL (o := .lst []) (fun ps z => by cases z)
          have nL : L ∉ fw := fun z => okw.hf L (by simp [z]) (Nt.none hL)
          have sLf := sL.frame (fr := fw) okw.sub
          refine ⟨fun i m H' => i + m = ds.length ∧ ∃ Z' acc accD rest, lcP t c me (wipeR ρ vs) (ds.drop i) = some rest ∧ accD ++ rest = out ∧ RE (gx X T) Z' H' (wipeR ρ vs) (wipe σ vs) fw ∧ H' L = some (.lst acc) ∧ Rs (gx X T) Z' H' accD acc [] ∧ Ok (gx X T) Z' H' ([L] ++ fw) ∧ Stp (gx X T) Z1 H1 [] Z' H' [L] ∧ Grw (gx X T) Z1 H1 Z1 H1, ?_, ?_⟩
          · exact ⟨ds.length, by simp, Z1, [], [], out, by simpa using hlc, rfl, RE.mono (Sub.refl _) (upd_other nL) rew, upd_same, ⟨rfl, rfl⟩, sLf.ok, sL, Grw.refl ok1⟩
          · rintro i m H' ⟨hl, Z', acc, accD, rest, hlp, happ, re', hacc, racc, okL, s', _⟩
            -- the walked thing still stands: from the world without the list
            have gW : ∀ {Z2 H2}, Stp (gx X T) Z1 H1 [] Z2 H2 [L] → Grw (gx X T) Z1 H1 Z2 H2 := fun s => Stp.drop (fp' := []) s
            by_cases hi : i < ds.length
            · refine .inr ⟨it.go i Z' H' hi (gW s'), fun H2 => ∃ Z' acc accD rest, lcP t c me (wipeR ρ vs) (ds.drop (i + 1)) = some rest ∧ accD ++ rest = out ∧ RE (gx X T) Z' H2 (wipeR ρ vs) (wipe σ vs) fw ∧ H2 L = some (.lst acc) ∧ Rs (gx X T) Z' H2 accD acc [] ∧ Ok (gx X T) Z' H2 ([L] ++ fw) ∧ Stp (gx X T) Z1 H1 [] Z' H2 [L] ∧ Grw (gx X T) Z1 H1 Z1 H1, fun H2 n => ⟨m - 1, by omega, by omega, n⟩, fun xv H3 y => ?_⟩
              obtain ⟨d, Z3, hd, g3, b3⟩ := it.yld i Z' H' xv H3 hi (gW s') y
              have hdr : ds.drop i = d :: ds.drop (i + 1) := by
                rw [List.drop_eq_getElem_cons hi]
                have : ds[i] = d := by
                  rw [List.getElem?_eq_getElem hi] at hd
                  exact Option.some.inj hd
                rw [this]
              rw [hdr] at hlp
              have r3 := b3.frz (frz_at hfz hd)
              have s3 := s'.trans (Grw.stp g3 s'.ok)
              have ok3 := Grw.ok g3 okL
              have re3 := re'.grow g3
              have racc3 := Rs.grow racc g3
              have hacc3 : H3 L = some (.lst acc) := g3.keep L _ hacc (by simp) (fun ps z => by cases z)
              simp only [lcP] at hlp
              split at hlp
              · cases hlp
              · rename_i ρ4 ht
                refine ⟨Z3, wipeR ρ vs, fw, [], d, ρ4, ht, by rw [List.append_nil]; exact ok3.subR, re3, r3, fun σ4 f4 fr4 k4 p4 re4 => ⟨wipe_of k4, ?_⟩⟩
                rw [List.append_nil] at p4
                have ok4 : Ok (gx X T) Z3 H3 f4 := (ok3.subR.perm p4).sub
                split at hlp
                · rename_i hc6
                  refine ⟨Z3, ρ4, f4, _, hc6, ok4, re4, fun Z6 H6 g6 => ?_⟩
                  refine iteT ?_
                  split at hlp
                  · rename_i y hm7
                    split at hlp
                    · rename_i hyf
                      refine ⟨Z6, ρ4, f4, _, hm7, Grw.ok g6 ok4, re4.grow g6, fun v Z8 H8 g8 b8 => ?_⟩
                      cases er : lcP t c me (wipeR ρ vs) (ds.drop (i + 1)) with
                      | none => rw [er] at hlp; cases hlp
                      | some r =>
                        rw [er] at hlp
                        cases Option.some.inj hlp
                        have gg := Grw.trans g6 g8
                        have racc8 := Rs.grow racc3 gg
                        have hacc8 : H8 L = some (.lst acc) := gg.keep L _ hacc3 (by simp) (fun ps z => by cases z)
                        have ok8 := Grw.ok gg ok3
                        have s8 := s3.trans (Grw.stp gg s3.ok)
                        have hlen : acc.length < sizeLine := by
                          rw [sl_eq, Rs.len racc8]
                          have := congrArg List.length happ
                          rw [List.length_append, List.length_cons] at this
                          omega
                        have sw := Stp.write s8.ok (List.mem_cons_self) hacc8 (fun ps z => by cases z) (o := .lst (acc ++ [v])) (fun ps z => by cases z) (fun c q z => by unfold LamX.CodeO at z; cases z)
                        have swf := sw.frame (fr := fw) ok8
                        refine ⟨acc, hacc8, hlen, Z8, acc ++ [v], accD ++ [y], r, rfl, by rw [← happ]; simp, ?_, upd_same, ?_, swf.ok, s8.trans sw, Grw.refl ok1⟩
                        · exact RE.mono (Sub.refl _) (upd_other nL) (re3.grow gg)
                        · exact Rs.app (f1 := []) (f2 := []) (Rs.mono (Sub.refl _) (by simp) racc8) ⟨v, [], [], [], rfl, rfl, R.mono (Sub.refl _) (by simp) (b8.frz hyf), rfl, rfl⟩
                    · cases hlp
                  · cases hlp
                · rename_i hc6
                  refine ⟨Z3, ρ4, f4, _, hc6, ok4, re4, fun Z6 H6 g6 => ?_⟩
                  refine iteF ?_
                  exact ⟨Z6, acc, accD, rest, hlp, happ, re3.grow g6, g6.keep L _ hacc3 (by simp) (fun ps z => by cases z), Rs.grow racc3 g6, Grw.ok g6 ok3, s3.trans (Grw.stp g6 s3.ok), Grw.refl ok1⟩
                · cases hlp
            · have e0 : ds.drop i = [] := List.drop_eq_nil_of_le (by omega)
              rw [e0] at hlp
              have e2 : i = ds.length := by omega
              cases Option.some.inj hlp
              refine .inl ⟨by rw [e2]; exact it.stop Z' H' (gW s'), ?_⟩
              have rL : R (gx X T) Z' H' (.lst true accD) (.ref L) [L] := ⟨L, acc, [], rfl, rfl, hacc, racc⟩
              obtain ⟨Z9, s9, r9⟩ := rL.toFz (fp := []) s'.ok
              refine q _ Z9 H' (Grw.trans g1 (s'.trans s9)) ⟨[], ?_⟩
              have hfz : (D.lst true accD).fz = .lst false out := by
                show D.lst false (D.fzs accD) = _
                rw [Rs.isFz racc, ← happ, List.append_nil]
              rw [← hfz]
              exact r9
        · cases hka
      · cases hka
    · cases hka
  · subst eo
    exact ⟨Z, ρ, fp, _, e, ok, re, q⟩
end
end OP

/-! OH: comprehensions as values, lists of the slots changed, items stored -/
namespace OP
open PySem PySem.Spec PyProof.Rows L2

section
variable {X : Cx} {T : List (Addr × Str)} {W : WX} {J : Nat → Prop} {elt tg iter : Expr} {ifs : List Expr} {scope : Scope} {own : List (Str × Nat)} {pos : Pos}
theorem cp_lc {m : Rho → Option (O (List D))} {t : MT} {c : Rho → Option (O Bool)} {me : Rho → Option (O D)} (hc : X.calm = true) (hN : X.N.Nodup) (hi : PI X tg iter (cIP (gx X T) W m)) (ok : BlkOk X.N X.env.scope scope own)
    (hg : ∀ (s : Shared) (H : Hp) (C : Addr) (cl : List (Str × Addr)) (fp : List Addr), PG (X.blk s H scope (compEnvC scope cl C X.env) fp) tg (cG (gx X T) (fun i => i ∉ own.map (·.2)) t))
    (ht : ∀ (s : Shared) (H : Hp) (C : Addr) (cl : List (Str × Addr)) (fp : List Addr), PTs (X.blk s H scope (compEnvC scope cl C X.env) fp) ifs (cPT (gx X T) W0 c))
    (he : ∀ (s : Shared) (H : Hp) (C : Addr) (cl : List (Str × Addr)) (fp : List Addr), PE (X.blk s H scope (compEnvC scope cl C X.env) fp) elt (cP (gx X T) W0 me)) (hs : ∀ x, foldedSetIterable iter X.env x = pure x := by intro _; rfl) :
    PE X (.ListComp elt [⟨tg, iter, ifs, 0⟩] scope pos) (cP (gx X T) W (pLc m t c me (own.map (·.2)))) := (pe_lc hc hN hi ok hg ht he hs).imp fun _ _ _ h => lcP_reads h
theorem ce_lc {m : MEA} {t : MT} {c : MET} {me : ME} (hc : X.calm = true) (hN : X.N.Nodup) (hi : PI X tg iter (cIE (gx X T) W m)) (ok : BlkOk X.N X.env.scope scope own)
    (hg : ∀ (s : Shared) (H : Hp) (C : Addr) (cl : List (Str × Addr)) (fp : List Addr), PG (X.blk s H scope (compEnvC scope cl C X.env) fp) tg (cG (gx X T) (fun i => i ∉ own.map (·.2)) t))
    (ht : ∀ (s : Shared) (H : Hp) (C : Addr) (cl : List (Str × Addr)) (fp : List Addr), PTs (X.blk s H scope (compEnvC scope cl C X.env) fp) ifs (cET (gx X T) W0 c))
    (he : ∀ (s : Shared) (H : Hp) (C : Addr) (cl : List (Str × Addr)) (fp : List Addr), PE (X.blk s H scope (compEnvC scope cl C X.env) fp) elt (cE (gx X T) W0 me)) (hs : ∀ x, foldedSetIterable iter X.env x = pure x := by intro _; rfl) :
    PE X (.ListComp elt [⟨tg, iter, ifs, 0⟩] scope pos) (cE (gx X T) W (eLc m t c me (own.map (·.2)))) := (pe_lc hc hN hi ok hg ht he hs).imp fun _ _ _ h => lcE_reads h
/-- name = [..] on one line -/
theorem cs_setLc {i : Nat} {y : Str} {py spos : Pos} {m : MEA} {t : MT} {c : MET} {me : ME} (hJ : ¬ J i) (hc : X.calm = true) (hN : X.N.Nodup) (hy : X.N[i]? = some y) (hyl : X.env.scope.names.lookup y = some .local)
    (hsw : swapsWith (.ListComp elt [⟨tg, iter, ifs, 0⟩] scope pos) (some (.Name y py)) spos.line X.env = pure true) (hi : PI X tg iter (cIE (gx X T) W m)) (ok : BlkOk X.N X.env.scope scope own)
    (hg : ∀ (s : Shared) (H : Hp) (C : Addr) (cl : List (Str × Addr)) (fp : List Addr), PG (X.blk s H scope (compEnvC scope cl C X.env) fp) tg (cG (gx X T) (fun i => i ∉ own.map (·.2)) t))
    (ht : ∀ (s : Shared) (H : Hp) (C : Addr) (cl : List (Str × Addr)) (fp : List Addr), PTs (X.blk s H scope (compEnvC scope cl C X.env) fp) ifs (cET (gx X T) W0 c))
    (he : ∀ (s : Shared) (H : Hp) (C : Addr) (cl : List (Str × Addr)) (fp : List Addr), PE (X.blk s H scope (compEnvC scope cl C X.env) fp) elt (cE (gx X T) W0 me)) (hs : ∀ x, foldedSetIterable iter X.env x = pure x := by intro _; rfl) :
    PS X (.Assign [.Name y py] (.ListComp elt [⟨tg, iter, ifs, 0⟩] scope pos) spos) (cS (gx X T) J W (sSet i (eLc m t c me (own.map (·.2))))) := (ps_setLc hc hN hy hyl hsw hi ok hg ht he hs).imp fun D σ H ⟨Z, ρ, fp, x, hm, ok, re, q⟩ => by
  refine lcE_reads (W := W) ?_
  refine cE.go hm ok re q.x fun d v ρ1 Z1 H1 fe fd hm1 s1 re1 r1 => ?_
  cases Option.some.inj hm1
  obtain ⟨f2, fr, re2, p⟩ := RE.put (i := i) re1 r1
  exact q _ Z1 H1 f2 (Kp.set hJ) (s1.permR p).drop re2
end

/-! ### a list that a slot owns -/
section
variable {g : G} {Z H : Hp}
theorem nodup_mid {f1 fi f2 fd : List Addr} {a : Addr} (nd : (f1 ++ (a :: fi) ++ f2 ++ fd).Nodup) : a ∉ f1 ++ f2 ∧ a ∉ fi ∧ a ∉ fd := by
  have p : (f1 ++ (a :: fi) ++ f2 ++ fd).Perm (a :: (f1 ++ f2 ++ fi ++ fd)) := List.perm_iff_count.mpr fun b => by
    simp only [List.count_append, List.count_cons]
    omega
  have := (List.nodup_cons.mp (p.nodup_iff.mp nd)).1
  simp only [List.mem_append, not_or] at this ⊢
  exact ⟨⟨this.1.1.1, this.1.1.2⟩, this.1.2, this.2⟩
/-- what stands in the slot, and how it is written; f': what the new items own, fr': what is handed on -/
theorem slot_list {ρ : Rho} {σ : L2.St} {fe fd : List Addr} {i : Nat} {l : List D} (re : RE g Z H ρ σ fe) (k : Ok g Z H (fe ++ fd)) (hi : ρ[i]? = some (some (.lst true l))) :
    ∃ a xs fr, σ[i]? = some (some (.ref a)) ∧ H a = some (.lst xs) ∧ Rs g Z H l xs fr ∧ (∀ {d : D} {v : V} {f : List Addr}, (∀ b ∈ f, b ∈ fr ++ fd) → R g Z H d v f → ∀ o, R g Z (upd H a o) d v f) ∧
      ∀ l' xs' f' fr', Rs g Z H l' xs' f' → (fr ++ fd).Perm (f' ++ fr') →
        ∃ fe', Stp g Z H (fe ++ fd) Z (upd H a (.lst xs')) (fe' ++ fr') ∧ RE g Z (upd H a (.lst xs')) (ρ.set i (some (.lst true l'))) σ fe' := by
  obtain ⟨y, f1, fi, f2, h1, h2, ⟨v, e1, r⟩, ex⟩ := re.at hi
  obtain ⟨a, xs, fr, e2, e3, h3, h4⟩ := r
  subst e1 e2 e3 h2
  obtain ⟨n1, n2, n3⟩ := nodup_mid k.nd
  refine ⟨a, xs, fr, h1, h3, h4, fun {d v f} hf r o => R.mono (Sub.refl _) (upd_other fun z => ?_) r, fun l' xs' f' fr' r' p => ?_⟩
  · rcases List.mem_append.mp (hf a z) with q | q
    · exact n2 q
    · exact n3 q
  · have hm : a ∈ f1 ++ (a :: fr) ++ f2 ++ fd := by simp
    have sw := Stp.write k hm h3 (fun ps z => by cases z) (o := .lst xs') (fun ps z => by cases z) (fun c q z => by unfold LamX.CodeO at z; cases z)
    have na : a ∉ f' := fun z => by
      have : a ∈ fr ++ fd := p.mem_iff.mpr (by simp [z])
      rcases List.mem_append.mp this with q | q
      · exact n2 q
      · exact n3 q
    have r2 : Rs g Z (upd H a (.lst xs')) l' xs' f' := Rs.mono (Sub.refl _) (upd_other na) r'
    refine ⟨f1 ++ (a :: f') ++ f2, sw.permR ?_, ?_⟩
    · have p' := fun b => (List.perm_iff_count.mp p) b
      exact List.perm_iff_count.mpr fun b => by
        have := p' b
        simp only [List.count_append, List.count_cons] at this ⊢
        omega
    · have := ex Z (upd H a (.lst xs')) (some (.lst true l')) (some (.ref a)) (a :: f') (Sub.refl _) (upd_other n1) ⟨_, rfl, a, xs', f', rfl, rfl, upd_same, r2⟩
      rw [set_self h1] at this
      exact this
theorem Rs.snoc : ∀ {l : List D} {d : D} {xs : List V} {fr : List Addr}, Rs g Z H (l ++ [d]) xs fr → ∃ ys v f1 f2, xs = ys ++ [v] ∧ fr = f1 ++ f2 ∧ Rs g Z H l ys f1 ∧ R g Z H d v f2
  | [], d, xs, fr, h => by
    obtain ⟨x, r, f1, f2, e1, e2, h1, h2⟩ := h
    rw [h2.1] at e1
    rw [h2.2] at e2
    exact ⟨[], x, [], f1, e1, by rw [e2]; simp, ⟨rfl, rfl⟩, h1⟩
  | c :: l, d, xs, fr, h => by
    obtain ⟨x, r, f1, f2, e1, e2, h1, h2⟩ := h
    obtain ⟨ys, v, g1, g2, a1, a2, a3, a4⟩ := Rs.snoc h2
    exact ⟨x :: ys, v, f1 ++ g1, g2, by rw [e1, a1]; rfl, by rw [e2, a2, List.append_assoc], ⟨x, ys, f1, g1, rfl, rfl, h1, a3⟩, a4⟩
theorem Rs.setAt : ∀ {l : List D} {xs : List V} {fr fd : List Addr} {j : Nat} {d : D} {v : V}, Rs g Z H l xs fr → j < l.length → R g Z H d v fd → ∃ f' rest, Rs g Z H (l.set j d) (xs.set j v) f' ∧ (fr ++ fd).Perm (f' ++ rest)
  | [], _, _, _, _, _, _, h, hj, _ => by simp at hj
  | c :: l, xs, fr, fd, 0, d, v, h, hj, r => by
    obtain ⟨x, t, f1, f2, e1, e2, h1, h2⟩ := h
    refine ⟨fd ++ f2, f1, by rw [e1]; exact ⟨v, t, fd, f2, rfl, rfl, r, h2⟩, ?_⟩
    rw [e2]
    exact List.perm_iff_count.mpr fun b => by
      simp only [List.count_append]
      omega
  | c :: l, xs, fr, fd, j + 1, d, v, h, hj, r => by
    obtain ⟨x, t, f1, f2, e1, e2, h1, h2⟩ := h
    obtain ⟨f', rest, a1, a2⟩ := Rs.setAt (j := j) h2 (by simpa using hj) r
    refine ⟨f1 ++ f', rest, by rw [e1]; exact ⟨x, t.set j v, f1, f', rfl, rfl, h1, a1⟩, ?_⟩
    rw [e2, List.append_assoc, List.append_assoc]
    exact List.Perm.append_left f1 a2
end
section
variable {X : Cx} {T : List (Addr × Str)} {W : WX} {J : Nat → Prop} {o e idx : Expr} {pos apos : Pos}
/-- the list that a slot owns -/
def ownL (ρ : Rho) (i : Nat) : Option (List D) := match (ρ[i]?).join with
  | some (.lst true l) => some l
  | _ => none
theorem ownL_eq {ρ : Rho} {i : Nat} {l : List D} (h : ownL ρ i = some l) : ρ[i]? = some (some (.lst true l)) := by
  unfold ownL at h
  split at h
  · rename_i l' e
    cases h
    exact join_eq e
  · cases h
/-- x.append(e) -/
def eApp (i : Nat) (m : ME) : ME := fun ρ => match ownL ρ i with
  | none => none
  | some _ => bE (m ρ) fun d ρ1 => match ownL ρ1 i with
    | some l => if l.length < 16777216 then some (.ok .non, ρ1.set i (some (.lst true (l ++ [d])))) else none
    | none => none
theorem ce_app {i : Nat} {m : ME} (ho : PE X o (tVar i)) (he : PE X e (cE (gx X T) W m))
    (hbase : attributeBase o "append" X.env (eval o X.env) = eval o X.env := by rfl)
    (hfew : ((backTo pos (starEach [e] X.env)).all (fun x => !x.1) && (backToKw pos (keywordEach [] X.env)).all (fun x => x.1.isSome)
      && decide ([e].length + ([] : List Keyword).length + (if ([] : List Keyword).isEmpty then 0 else 1) < 30)) = true := by rfl)
    (hline : (apos.endLine == pos.line) = true := by rfl) (hs : starEach [e] X.env = (false, eval e X.env) :: starEach [] X.env := by rfl) (hplain : (backTo pos (starEach [] X.env)).any (·.1) = false := by rfl) :
    PE X (.Call (.Attribute o "append" apos) [e] [] pos) (cE (gx X T) W (eApp i m)) :=
  (pe_bm PySem.F.plainAttrs_list PySem.F.slot_list_append PySem.F.type_list_append mt_append ho (pa_cons he pa_nil hs) hbase hfew hline hs hplain).imp fun σ H Q ⟨Z, ρ, fp, x, hm, ok, re, q⟩ => by
  unfold eApp at hm
  split at hm
  · cases hm
  · rename_i l0 hl0
    obtain ⟨a, xs, fr, h1, h2, h3, _, _⟩ := slot_list (fd := []) re (by rw [List.append_nil]; exact ok) (ownL_eq hl0)
    refine ⟨.ref a, h1, .inl ⟨rfl, xs, SqL.of h2⟩, ?_⟩
    refine cE.go hm ok re q.x fun d v ρ1 Z1 H1 fe fd hm1 s1 re1 r1 => ?_
    split at hm1
    · rename_i l hl
      split at hm1
      · rename_i hsz
        cases Option.some.inj hm1
        obtain ⟨b, ys, fr1, g1, g2, g3, _, g4⟩ := slot_list re1 s1.ok (ownL_eq hl)
        rw [h1] at g1
        cases g1
        obtain ⟨fe', s2, re2⟩ := g4 (l ++ [d]) (ys ++ [v]) (fr1 ++ fd) [] (Rs.app g3 ⟨v, [], fd, [], rfl, by simp, r1, rfl, rfl⟩) (by simp)
        exact ⟨a, ys, v, rfl, rfl, g2, by rw [sl_eq, Rs.len g3]; exact hsz, q .non _ _ fe' [] (s1.trans s2) re2 ⟨rfl, rfl⟩⟩
      · cases hm1
    · cases hm1
/-- x.pop() -/
def ePop (i : Nat) : ME := fun ρ => match ownL ρ i with
  | some l => match l.getLast? with
    | some d => some (.ok d, ρ.set i (some (.lst true l.dropLast)))
    | none => none
  | none => none
theorem ce_pop {i : Nat} (ho : PE X o (tVar i)) (hbase : attributeBase o "pop" X.env (eval o X.env) = eval o X.env := by rfl) (hline : (apos.endLine == pos.line) = true := by rfl) :
    PE X (.Call (.Attribute o "pop" apos) [] [] pos) (cE (gx X T) W (ePop i)) :=
  (pe_bm0 PySem.F.plainAttrs_list PySem.F.slot_list_pop PySem.F.type_list_pop mt_pop ho hbase hline).imp fun σ H Q ⟨Z, ρ, fp, x, hm, ok, re, q⟩ => by
  unfold ePop at hm
  split at hm
  · rename_i l hl
    split at hm
    · rename_i d hd
      cases Option.some.inj hm
      obtain ⟨a, xs, fr, h1, h2, h3, h4, h5⟩ := slot_list (fd := []) re (by rw [List.append_nil]; exact ok) (ownL_eq hl)
      have hll : l = l.dropLast ++ [d] := by
        have hne : l ≠ [] := fun z => by rw [z] at hd; cases hd
        have := List.dropLast_concat_getLast hne
        rw [List.getLast?_eq_getLast hne] at hd
        cases hd
        exact this.symm
      rw [hll] at h3
      obtain ⟨ys, v, f1, f2, e1, e2, r1, r2⟩ := h3.snoc
      obtain ⟨fe', s2, re2⟩ := h5 l.dropLast ys f1 f2 r1 (by rw [e2, List.append_nil])
      rw [List.append_nil] at s2
      refine ⟨.ref a, h1, .inl ⟨rfl, xs, SqL.of h2⟩, a, xs, v, rfl, rfl, h2, by rw [e1]; simp, ?_⟩
      have : xs.dropLast = ys := by rw [e1]; simp
      rw [this]
      exact q v _ _ fe' f2 s2 re2 (h4 (fun b hb => by rw [e2]; simp [hb]) r2 _)
    · cases hm
  · cases hm
theorem get_list : L2.PGet X (rIxL X.K) := by
  intro pins s σ H o i ov iv Q I ro ri h
  obtain ⟨p, xs, k, z, rfl, rfl, hq, he, q⟩ := h
  cases ro
  obtain ⟨t, rfl⟩ := ri
  obtain ⟨its, r, pl, hz⟩ := I.list hq
  obtain ⟨j, h1, h2, h3, h4, h5⟩ := atI_get he
  obtain ⟨w, ew, rw'⟩ := r.get h2
  have hl := r.length
  have hn := line63
  have fin : EP X pins σ Q w s := ⟨z, H, I, rw', q⟩
  by_cases h0 : 0 ≤ k
  · have hj : k.toNat = j := by
      rw [seqIndex_of h0 h5] at h1
      exact Option.some.inj h1
    exact wpAny_getItem_list pl.isList h0 (by omega) (by rw [hj]; simpa using ew) fin
  · have hj : (k + (its.toArray.size : Int)).toNat = j := by
      rw [seqIndex_neg (by omega) h4] at h1
      rw [List.size_toArray, ← hl]
      exact Option.some.inj h1
    exact wpAny_getItem_list_neg pl.isList (by omega) (by rw [List.size_toArray] <;> omega) (by omega) (by rw [hj]; simpa using ew) fin
/-- x[i] = e -/
def sSetIx (i : Nat) (mi : Rho → Option (O D)) (m : ME) : MS := fun ρ => bE (m ρ) fun d ρ1 => match mi ρ1 with
  | some (.ok (.int k)) => match ownL ρ1 i with
    | some l => match ixN l.length k with
      | some j => some (.ok .nx, ρ1.set i (some (.lst true (l.set j d))))
      | none => none
    | none => none
  | _ => none
theorem cs_setIx {i : Nat} {mi : Rho → Option (O D)} {m : ME} {p2 : Pos} (ho : PE X o (tVar i)) (hi : PE X idx (cP (gx X T) W mi)) (he : PE X e (cE (gx X T) W m))
    (ha : ∀ v, assign (.Subscript o idx p2) X.env v = (do
      let ov ← holding [v] (eval o X.env)
      let iv ← holding [v, ov] (eval idx X.env)
      standAt p2
      holding [v, ov, iv] (setItem ov iv v)
      release [v, ov, iv] []) := by intro _; rfl)
    (hs : swapsWithSole [.Subscript o idx p2] e pos.line X.env = pure false := by rfl) (hw : swappedStores [.Subscript o idx p2] e X.env = pure none := by rfl)
    (h1 : (assignEach [.Subscript o idx p2] X.env).map (·.2) = [assign (.Subscript o idx p2) X.env] := by rfl) :
    PS X (.Assign [.Subscript o idx p2] e pos) (cS (gx X T) J W (sSetIx i mi m)) :=
  (ps_asg he (pg_sub ho hi set_list ha) hs hw h1).imp fun D σ H ⟨Z, ρ, fp, x, hm, ok, re, q⟩ => by
  refine cE.go hm ok re q.x fun d v ρ1 Z1 H1 fe fd hm1 s1 re1 r1 => ?_
  split at hm1
  · rename_i k hk
    split at hm1
    · rename_i l hl
      split at hm1
      · rename_i j hj
        cases Option.some.inj hm1
        obtain ⟨a, xs, fr, g1, _, _, _, _⟩ := slot_list re1 s1.ok (ownL_eq hl)
        refine ⟨.ref a, g1, Z1, ρ1, fe, _, hk, s1.drop.ok, re1, fun u Z2 H2 g2 b2 => ?_⟩
        have ok2 := Grw.ok g2 s1.ok
        have re2 := re1.grow g2
        obtain ⟨b, ys, fr2, g3, g4, g5, _, g6⟩ := slot_list re2 ok2 (ownL_eq hl)
        rw [g1] at g3
        cases g3
        obtain ⟨hj1, hj2, hj3, hj4⟩ := ixN_seq hj
        obtain ⟨f', rest, a1, a2⟩ := Rs.setAt g5 hj2 (r1.grow g2)
        obtain ⟨fe', s3, re3⟩ := g6 _ _ f' rest a1 a2
        rw [b2.int_eq]
        exact ⟨a, ys, k, j, rfl, rfl, g4, by rw [Rs.len g5]; exact hj, q σ _ _ fe' Kp.refl ((s1.trans (Grw.stp g2 s1.ok)).trans s3).drop re3⟩
      · cases hm1
    · cases hm1
  · cases hm1
/-- x[i] op= e: the old item is a frozen one -/
def sAugIx (f : D → D → Option D) (i : Nat) (mi : Rho → Option (O D)) (m : ME) : MS := fun ρ => match mi ρ with
  | some (.ok (.int k)) => match ownL ρ i with
    | some l0 => match atI l0 k with
      | some x => if x.frz then bE (m ρ) fun y ρ1 => match f x y with
        | some z => if z.frz then match ownL ρ1 i with
          | some l => match ixN l.length k with
            | some j => some (.ok .nx, ρ1.set i (some (.lst true (l.set j z))))
            | none => none
          | none => none
          else none
        | none => none
        else none
      | none => none
    | none => none
  | _ => none
theorem cs_augIx {i : Nat} {op : Operator} {ti : TIp} {f : D → D → Option D} {mi : Rho → Option (O D)} {m : ME} {p2 : Pos} (hr : PR2 (gx X T) ti f) (ho : PE X o (tVar i)) (hi : PE X idx (cP (gx X T) W mi)) (he : PE X e (cE (gx X T) W m)) (hop : PIp X op ti)
    (ha : ∀ ov iv new, augStore idx ov iv new = (do holding [new, ov, iv] (setItem ov iv new); release [new, ov, iv] []; pure .next) := by intros; rfl) :
    PS X (.AugAssign (.Subscript o idx p2) op e pos) (cS (gx X T) J W (sAugIx f i mi m)) :=
  (ps_augS ho hi get_list he hop set_list ha).imp fun D σ H ⟨Z, ρ, fp, x, hm, ok, re, q⟩ => by
  unfold sAugIx at hm
  split at hm
  · rename_i k hk
    split at hm
    · rename_i l0 hl0
      split at hm
      · rename_i d0 hd0
        split at hm
        · rename_i hf0
          obtain ⟨a, xs, fr, g1, _, _, _, _⟩ := slot_list (fd := []) re (by rw [List.append_nil]; exact ok) (ownL_eq hl0)
          refine ⟨.ref a, g1, Z, ρ, fp, _, hk, ok, re, fun u Z2 H2 g2 b2 => ?_⟩
          have ok2 := Grw.ok g2 ok
          have re2 := re.grow g2
          obtain ⟨b, ys, fr2, g3, g4, g5, _, g6⟩ := slot_list (fd := []) re2 (by rw [List.append_nil]; exact ok2) (ownL_eq hl0)
          rw [g1] at g3
          cases g3
          obtain ⟨x0, h0, b0⟩ := Rs.at g5 hd0
          have r0 := b0.frz hf0
          rw [b2.int_eq]
          refine ⟨a, ys, k, x0, rfl, rfl, SqL.of g4, h0, ?_⟩
          refine cE.go hm ok2 re2 (q.x.mono (Grw.stp g2 ok)) fun d v ρ1 Z3 H3 fe fd hm1 s3 re3 r3 => ?_
          have s3' := (Grw.stp g2 ok).trans s3
          split at hm1
          · rename_i z hz
            split at hm1
            · rename_i hzf
              split at hm1
              · rename_i l hl
                split at hm1
                · rename_i j hj
                  cases Option.some.inj hm1
                  refine hr Z3 H3 d0 d x0 v z s3.ok.none ⟨_, r0.mono0 s3.zz⟩ ⟨_, r3⟩ hz _ fun w Z4 H4 g7 b7 => ?_
                  have s4 := s3'.drop.trans (Grw.stp g7 s3'.drop.ok)
                  have re4 := re3.grow g7
                  obtain ⟨b, ys4, fr4, g8, g9, g10, _, g11⟩ := slot_list (fd := []) re4 (by rw [List.append_nil]; exact s4.ok) (ownL_eq hl)
                  rw [g1] at g8
                  cases g8
                  obtain ⟨hj1, hj2, hj3, hj4⟩ := ixN_seq hj
                  obtain ⟨f', rest, a1, a2⟩ := Rs.setAt g10 hj2 (b7.frz hzf)
                  obtain ⟨fe', s5, re5⟩ := g11 _ _ f' rest a1 a2
                  rw [List.append_nil] at s5
                  exact ⟨a, ys4, k, j, rfl, rfl, g9, by rw [Rs.len g10]; exact hj, q σ _ _ fe' Kp.refl (s4.trans s5).drop re5⟩
                · cases hm1
              · cases hm1
            · cases hm1
          · cases hm1
        · cases hm
      · cases hm
    · cases hm
  · cases hm
end
end OP

/-! OI: defs: what they promise, their calls, their bodies -/
namespace OP
open PySem PySem.Spec PyProof.Rows L2

/-- what a def does: its data in, what comes of it, and what its first k arguments are behind it -/
abbrev Den := List D → Option (O D × List D)
def PostD (g : G) (k : Nat) (vs : List V) (Z H : Hp) (fp : List Addr) (x : O D × List D) (Q : VK) (E : XK) : Prop := match x with
  | (.ok d, outs) => ∀ v Z' H' fo fd, Stp g Z H fp Z' H' (fo ++ fd) → Rs g Z' H' outs (vs.take k) fo → R g Z' H' d v fd → Q v H'
  | (.exc c ks ws, outs) => ∀ cls dx Z' H' fo, Stp g Z H fp Z' H' fo → Rs g Z' H' outs (vs.take k) fo → XRp g Z' H' c ks ws cls dx → E cls dx H'
def spD (g : G) (n k : Nat) (den : Den) : Sp := fun vs H Q E => vs.length = n ∧ ∃ Z ds fp x, Ok g Z H fp ∧ Rs g Z H ds vs fp ∧ D.frzs (ds.drop k) = true ∧ den ds = some x ∧ PostD g k vs Z H fp x Q E

/-- the slots at a def's entry, and what its first k slots hold in the end -/
def rho0 (N : Nat) (ds : List D) : Rho := ds.map some ++ List.replicate (N - ds.length) none
def outsOf : Nat → Rho → Option (List D)
  | 0, _ => some []
  | k + 1, some d :: ρ => (outsOf k ρ).map fun r => d :: r
  | _, _ => none
def denOf (N k : Nat) (m : MS) : Den := fun ds => match m (rho0 N ds) with
  | some (.ok .nx, ρ) => (outsOf k ρ).map fun os => (.ok .non, os)
  | some (.ok (.ret d), ρ) => (outsOf k ρ).map fun os => (.ok d, os)
  | some (.exc c ks vs, ρ) => (outsOf k ρ).map fun os => (.exc c ks vs, os)
  | _ => none
section
variable {g : G} {Z H : Hp}
theorem re_rep : ∀ (n : Nat) , RE g Z H (List.replicate n none) (List.replicate n (none : Option V)) []
  | 0 => ⟨rfl, rfl⟩
  | n + 1 => ⟨none, List.replicate n none, [], [], rfl, rfl, rfl, re_rep n⟩
theorem re_start : ∀ {ds : List D} {vs : List V} {fp : List Addr} (m : Nat), Rs g Z H ds vs fp → RE g Z H (ds.map some ++ List.replicate m none) (vs.map some ++ List.replicate m none) fp
  | [], vs, fp, m, h => by rw [h.1, h.2]; exact re_rep m
  | d :: ds, vs, fp, m, h => by
    obtain ⟨x, r, f1, f2, e1, e2, h1, h2⟩ := h
    rw [e1]
    exact ⟨some x, r.map some ++ List.replicate m none, f1, f2, rfl, e2, ⟨x, rfl, h1⟩, re_start m h2⟩
theorem re_outs : ∀ {k : Nat} {ρ : Rho} {σ : L2.St} {fp : List Addr} {os : List D} {vs : List V}, RE g Z H ρ σ fp → outsOf k ρ = some os → (∀ i, i < k → σ[i]? = some (vs[i]?)) → k ≤ vs.length → ∃ fo fr, fp = fo ++ fr ∧ Rs g Z H os (vs.take k) fo
  | 0, ρ, σ, fp, os, vs, re, h, hs, hk => by
    cases h
    exact ⟨[], fp, rfl, by rw [List.take_zero]; exact ⟨rfl, rfl⟩⟩
  | k + 1, [], σ, fp, os, vs, re, h, hs, hk => by simp [outsOf] at h
  | k + 1, none :: ρ, σ, fp, os, vs, re, h, hs, hk => by simp [outsOf] at h
  | k + 1, some d :: ρ, σ, fp, os, vs, re, h, hs, hk => by
    obtain ⟨y, r, f1, f2, e1, e2, ⟨v, e3, h1⟩, h2⟩ := re
    cases vs with
    | nil => simp at hk
    | cons v0 vs =>
      have h : (outsOf k ρ).map (fun r => d :: r) = some os := h
      cases q : outsOf k ρ with
      | none => rw [q] at h; cases h
      | some os' =>
        rw [q] at h
        cases h
        have h0 := hs 0 (Nat.succ_pos k)
        rw [e1] at h0
        have : y = some v0 := by simpa using h0
        rw [this] at e3
        cases e3
        obtain ⟨fo, fr, a1, a2⟩ := re_outs (vs := vs) h2 q (fun i hi => by
          have := hs (i + 1) (Nat.succ_lt_succ hi)
          rw [e1] at this
          simpa using this) (by simpa using hk)
        exact ⟨f1 ++ fo, fr, by rw [e2, a1, List.append_assoc], ⟨_, vs.take k, f1, fo, by rw [List.take_succ_cons], rfl, h1, a2⟩⟩
end

section
variable {P : Program} {w : World} {K : PySem.W.Frag} {mg : Str → Option Value} {base : Heap} {CXx : CXT}
/-- a def's promise where no repr is under way -/
structure FnG (P : Program) (w : World) (K : PySem.W.Frag) (mg : Str → Option Value) (base : Heap) (CXx : CXT) (lv : Nat) (f : Addr) (fd : FuncData) (ps : List Str) (sp : Sp) : Prop where
  ln : ∀ vs H Q E, sp vs H Q E → vs.length = ps.length
  go : ∀ (A : Around) (out : List Env) (s : Shared) (H : Hp) (ar : Args) (us : List Value) (vs : List V) (Q : VK) (E : XK), A.guards = some [] → Room lv A → Env0 P w K mg base A out s H → BindsTo s fd ar (ps.zip us) → Vals vs us → sp vs H Q E →
    codeAny (model P w) A (.call (.ref f) ar) (CR CXx out P w H s Q E) s
theorem FnG.imp {lv : Nat} {f : Addr} {fd : FuncData} {ps : List Str} {sp sp' : Sp} (F : FnG P w K mg base CXx lv f fd ps sp) (h : ∀ vs H Q E, sp' vs H Q E → sp vs H Q E) : FnG P w K mg base CXx lv f fd ps sp' :=
  ⟨fun vs H Q E q => F.ln vs H Q E (h _ _ _ _ q), fun A out s H ar us vs Q E hG hr he hb hv hs => F.go A out s H ar us vs Q E hG hr he hb hv (h _ _ _ _ hs)⟩
theorem FnG.mono {lv lv' : Nat} {f : Addr} {fd : FuncData} {ps : List Str} {sp : Sp} (F : FnG P w K mg base CXx lv f fd ps sp) (h : lv ≤ lv') : FnG P w K mg base CXx lv' f fd ps sp :=
  ⟨F.ln, fun A out s H ar us vs Q E hG hr => F.go A out s H ar us vs Q E hG (hr.mono h)⟩
/-- by its body, as fn_of does it -/
theorem fnG_of {lv : Nat} {f : Addr} {nm qual : Str} {prm : Arguments} {bd : List Stmt} {sc : Scope} {v1 v2 v3 v4 cdv ct oc : Value} {an od : Option Addr} {sl : Array (Option Value)} {N ps : List Str} {sp : Sp}
    (hl : K.lookup f = some ⟨oc, od, .func (PySem.W.fnOf nm qual prm bd sc v1 v2 v3 v4 an cdv ct), sl⟩) (hcd : PySem.W.codeIn K cdv qual = true) (S : FnScope N ps sc) (ln : ∀ vs H Q E, sp vs H Q E → vs.length = ps.length)
    (hbd : ∀ (A : Around) (out : List Env) (s : Shared) (H : Hp) (vs : List V) (Q : VK) (E : XK), A.guards = some [] → Room lv (A.deeper (envOfC qual sc s.heap.objs.size f cdv)) → sp vs H Q E →
      ∃ t, PSs (cxOf CXx P w K mg base N qual sc f cdv A out s H E) bd t ∧ t { nx := fun _ H' => Q .non H', rt := Q } (start N vs) H) : FnG P w K mg base CXx (lv + 1) f (PySem.W.fnOf nm qual prm bd sc v1 v2 v3 v4 an cdv ct) ps sp := by
  refine ⟨ln, fun A out s H ar us vs Q E hG hr e0 hb rv hq => ?_⟩
  have up : ∀ b o, base.get? b = some o → s.heap.get? b = some o := fun b o e => (e0.bs b o e).1
  have kin : K.In s.heap := e0.mod.kin.keeps up
  refine codeAny_call_function hr.depth (kin _ _ hl) rfl S.co S.gen rfl (PySem.W.codeRec_of kin hcd) (hb _ _ _ _ ?_)
  refine wpAny_newFunctionEnv_cells S.kind (fun y hy => ?_) fun env he s1 inC => ?_
  · exact (S.par y.1 (List.of_mem_zip (show (y.1, y.2) ∈ ps.zip us from hy)).1).imp id fun q => ⟨q, PySem.W.cellsFrom_some _ _ _ (.inl q)⟩
  · subst he
    obtain ⟨t, ht, hs⟩ := hbd A out s H vs Q E hG (hr.deeper _) hq
    refine ⟨(e0.mod.nolimit.keeps up).keeps inC.toInCall.keep, codeAny_func (wpAny_mono (ht.run [] s1 (start N vs) H _ (inv_start S hr.hd e0 (ln _ _ _ _ hq) rv inC) hs) (fun fl s2 z => ?_) fun _ _ z => z)⟩
    cases fl with
    | brk => obtain ⟨_, _, _, z⟩ := z; exact z.elim
    | cont => obtain ⟨_, _, _, z⟩ := z; exact z.elim
    | next =>
      obtain ⟨σ2, H2, J, z⟩ := z
      exact ⟨V.non, H2, J.os, J.bare, J.base, J.hok, rfl, z⟩
    | ret u =>
      obtain ⟨v, σ2, H2, J, r2, z⟩ := z
      exact ⟨v, H2, J.os, J.bare, J.base, J.hok, r2, z⟩
theorem goG {X : Cx} {lv : Nat} {f : Addr} {fd : FuncData} {ps : List Str} {sp : Sp} {E : L2.St → XK} {pins : List (Addr × Obj)} {σ : L2.St} {H : Hp} {s : Shared} {Q : VK} {us : List Value} {vs : List V}
    (F : FnG X.prog X.w X.K X.mg X.base CXx lv f fd ps sp) (hG : X.A.guards = some []) (hr : Room lv X.A) (hb : Binds X.K fd ps []) (hx : PassesAt CXx X σ (E σ)) (I : Inv X pins σ H s) (rv : Vals vs us) (h : sp vs H Q (E σ)) : wpAny (model X.prog X.w) X.A (call (.ref f) us) (EP X pins σ Q) X.xe s := by
  have b := hb s us I.kIn (by rw [List.append_nil, ← rv.length]; exact F.ln _ _ _ _ h)
  rw [List.append_nil] at b
  refine wpAny_call (codeAny_mono (F.go X.A X.stack s H ⟨us, []⟩ us vs Q (E σ) hG hr I.env0 b rv h) fun r s2 z => ?_)
  rcases r with e | fl
  · exact hx pins H s e s2 I z
  · cases fl with
    | ret u => exact I.after z
    | next => exact z.elim
    | brk => exact z.elim
    | cont => exact z.elim
theorem pe_callG {X : Cx} {lv : Nat} {f : Addr} {fd : FuncData} {ps : List Str} {sp : Sp} {E : L2.St → XK} {x : Str} {p pos : Pos} {e : Expr} {es : List Expr} {t : TA} (F : FnG X.prog X.w X.K X.mg X.base CXx lv f fd ps sp) (hG : X.A.guards = some []) (hr : Room lv X.A) (hg : Gl X x) (hm : X.mg x = some (.ref f)) (hk : PySem.W.keepIn X.K (.ref f) = true) (hb : Binds X.K fd ps []) (hx : ∀ σ, PassesAt CXx X σ (E σ))
    (ha : PA X (e :: es) t) (hdb : (x == ("__debug__" : Str)) = false := by decide) (hs : starEach (e :: es) X.env = (false, eval e X.env) :: starEach es X.env := by rfl) (hpl : (backTo pos (starEach es X.env)).any (·.1) = false := by rfl) : PE X (.Call (.Name x p) (e :: es) [] pos) (tCallS sp E t) :=
  ⟨fun pins s σ H Q I h => wpAny_Call_Name_kw (ld_glob I hg hm (PySem.W.callWith_K (h₀ := X.base) I.ok.mod.kin hk (thn (ha.run pos pins s σ H _ I h) fun us s1 ⟨vs, H1, I1, rv, q⟩ => ⟨I1.kIn, goG F hG hr hb (hx σ) I1 rv q⟩) hs hpl) hdb)⟩
end

/-- a body's wish: what the def's caller wishes of exceptions -/
abbrev WB (E : XK) : WX := fun cls d _ H => E cls d H
section
variable {P : Program} {w : World} {K : PySem.W.Frag} {mg : Str → Option Value} {base : Heap} {T : List (Addr × Str)}
theorem start_get {N : List Str} {vs : List V} {i : Nat} (hi : i < vs.length) : (L2.start N vs)[i]? = some (vs[i]?) := by
  unfold L2.start
  rw [List.getElem?_append_left (by simpa using hi), List.getElem?_map, List.getElem?_eq_getElem hi]
  rfl
theorem den_post {N : List Str} {n k : Nat} {mb : MS} {vs : List V} {H : Hp} {Q : VK} {E : XK} {w : World} (hk : k ≤ n) (h : spD ⟨K, mg, T, w⟩ n k (denOf N.length k mb) vs H Q E) : cS ⟨K, mg, T, w⟩ (fun i => i < k) (WB E) mb { nx := fun _ H' => Q .non H', rt := Q } (L2.start N vs) H := by
  obtain ⟨hl, Z, ds, fp, x, ok, r, hf, hd, q⟩ := h
  have hn : ds.length = vs.length := (Rs.len r).symm
  have re : RE ⟨K, mg, T, w⟩ Z H (rho0 N.length ds) (L2.start N vs) fp := by
    unfold rho0 L2.start
    rw [hn]
    exact re_start _ r
  have fin : ∀ {σ' : L2.St} {Z' H' : Hp} {ρ' : Rho} {fe : List Addr} {os : List D}, Kp (fun i => i < k) (L2.start N vs) σ' → RE ⟨K, mg, T, w⟩ Z' H' ρ' σ' fe → outsOf k ρ' = some os → ∃ fo fr, fe = fo ++ fr ∧ Rs ⟨K, mg, T, w⟩ Z' H' os (vs.take k) fo := fun {σ' Z' H' ρ' fe os} kp re' ho =>
    re_outs re' ho (fun i hi => (kp.2 i hi).trans (start_get (by omega))) (by omega)
  unfold denOf at hd
  split at hd
  · rename_i ρ' hm
    cases ho : outsOf k ρ' with
    | none => rw [ho] at hd; cases hd
    | some os =>
      rw [ho] at hd
      cases hd
      refine ⟨Z, _, fp, _, hm, ok, re, fun σ' Z' H' fe kp s' re' => ?_⟩
      obtain ⟨fo, fr, e1, ro⟩ := fin kp re' ho
      subst e1
      exact q .non Z' H' fo [] s'.drop.nilR ro ⟨rfl, rfl⟩
  · rename_i d ρ' hm
    cases ho : outsOf k ρ' with
    | none => rw [ho] at hd; cases hd
    | some os =>
      rw [ho] at hd
      cases hd
      refine ⟨Z, _, fp, _, hm, ok, re, fun v σ' Z' H' fe fd kp s' re' r' => ?_⟩
      obtain ⟨fo, fr, e1, ro⟩ := fin kp re' ho
      subst e1
      refine q v Z' H' fo fd (Stp.drop (fr := fr) (s'.permR ?_)) ro r'
      rw [List.append_assoc, List.append_assoc]
      exact List.Perm.append_left fo List.perm_append_comm
  · rename_i c ks ws ρ' hm
    cases ho : outsOf k ρ' with
    | none => rw [ho] at hd; cases hd
    | some os =>
      rw [ho] at hd
      cases hd
      refine ⟨Z, _, fp, _, hm, ok, re, fun cls dx σ' Z' H' fe kp s' re' xr => ?_⟩
      obtain ⟨fo, fr, e1, ro⟩ := fin kp re' ho
      subst e1
      exact q cls dx Z' H' fo s'.drop ro xr
  · cases hd
theorem den_ok {x qual : Str} {st : Stmt} {f : Addr} {fd : FuncData} {N ps : List Str} {lv k : Nat} {mb : MS} (F : Fun K x qual st f fd) (S : FnScope N ps (defScope st)) (hk : k ≤ ps.length)
    (hb : ∀ (cdv : Value) (A : Around) (outer : List PySem.Env) (s : Shared) (H : Hp) (E : XK), Room lv (A.deeper (envOfC qual (defScope st) s.heap.objs.size f cdv)) →
      PSs (cxOf (L2.CX P w) P w K mg base N qual (defScope st) f cdv A outer s H E) (defBody st) (cS ⟨K, mg, T, w⟩ (fun i => i < k) (WB E) mb)) :
    FnOk P w K mg base (L2.CX P w) (lv + 1) f fd ps (spD ⟨K, mg, T, w⟩ ps.length k (denOf N.length k mb)) :=
  F.okX S (fun vs H Q E h => h.1) fun cdv A outer s H vs Q E hr h => ⟨_, hb cdv A outer s H E hr, den_post hk h⟩
theorem den_okG {x qual : Str} {st : Stmt} {f : Addr} {fd : FuncData} {N ps : List Str} {lv k : Nat} {mb : MS} (F : Fun K x qual st f fd) (S : FnScope N ps (defScope st)) (hk : k ≤ ps.length)
    (hb : ∀ (cdv : Value) (A : Around) (outer : List PySem.Env) (s : Shared) (H : Hp) (E : XK), A.guards = some [] → Room lv (A.deeper (envOfC qual (defScope st) s.heap.objs.size f cdv)) →
      PSs (cxOf (L2.CX P w) P w K mg base N qual (defScope st) f cdv A outer s H E) (defBody st) (cS ⟨K, mg, T, w⟩ (fun i => i < k) (WB E) mb)) :
    FnG P w K mg base (L2.CX P w) (lv + 1) f fd ps (spD ⟨K, mg, T, w⟩ ps.length k (denOf N.length k mb)) := by
  obtain ⟨oc, od, kV, doc, pm, an, cdv, ct, sl, rfl, hlk, hcd⟩ := F.ex
  exact fnG_of hlk hcd S (fun vs H Q E h => h.1) fun A outer s H vs Q E hG hr h => ⟨_, hb cdv A outer s H E hG hr, den_post hk h⟩
theorem FnG.of {f : Addr} {fd : FuncData} {ps : List Str} {lv : Nat} {sp : Sp} (F : FnOk P w K mg base (L2.CX P w) lv f fd ps sp) : FnG P w K mg base (L2.CX P w) lv f fd ps sp :=
  ⟨F.len, fun A out s H ar us vs Q E _ hr => F.run A out s H ar us vs Q E hr⟩
/-- the same promise by another function that gives the same -/
theorem FnG.den {f : Addr} {fd : FuncData} {ps : List Str} {lv n k : Nat} {g : G} {den den' : Den} (F : FnG P w K mg base (L2.CX P w) lv f fd ps (spD g n k den)) (h : ∀ ds x, den' ds = some x → den ds = some x) : FnG P w K mg base (L2.CX P w) lv f fd ps (spD g n k den') :=
  F.imp fun vs H Q E ⟨hl, Z, ds, fp, x, ok, r, hf, hd, q⟩ => ⟨hl, Z, ds, fp, x, ok, r, hf, h _ _ hd, q⟩
theorem _root_.L2.FnOk.den {f : Addr} {fd : FuncData} {ps : List Str} {lv n k : Nat} {g : G} {den den' : Den} (F : FnOk P w K mg base (L2.CX P w) lv f fd ps (spD g n k den)) (h : ∀ ds x, den' ds = some x → den ds = some x) : FnOk P w K mg base (L2.CX P w) lv f fd ps (spD g n k den') :=
  F.imp fun vs H Q E ⟨hl, Z, ds, fp, x, ok, r, hf, hd, q⟩ => ⟨hl, Z, ds, fp, x, ok, r, hf, h _ _ hd, q⟩
end

/-! ### calls -/
/-- what a call may let out, where exceptions are wished for by W -/
theorem passB {X : Cx} {W : WX} (tk : Takes X W) : ∀ σ, PassesAt (L2.CX X.prog X.w) X σ (WE W σ) := fun σ => passAt tk σ
theorem pass00 {X : Cx} : ∀ σ, PassesAt (L2.CX X.prog X.w) X σ (WE W0 σ) := fun _ _ _ _ _ _ _ c => by
  obtain ⟨_, _, _, _, _, _, _, _, _, _, _, _, z⟩ := c
  exact z.elim
/-- a pure call: no argument is changed, the answer is frozen -/
def mDef (n : Nat) (den : Den) (ma : Rho → Option (O (List D))) : Rho → Option (O D) := fun ρ => bnd (ma ρ) fun ds =>
  if D.frzs ds = true ∧ ds.length = n then match den ds with
    | some (.ok d, []) => some (.ok d.fz)
    | some (.exc c ks vs, []) => some (.exc c ks vs)
    | _ => none
  else none
/-- a call whose answer is owned -/
def eDef (n : Nat) (den : Den) (ma : MEA) : ME := fun ρ => bE (ma ρ) fun ds ρ1 =>
  if ds.length = n then match den (D.fzs ds) with
    | some (o, []) => some (o, ρ1)
    | _ => none
  else none
/-- a call that may change what the i-th slot holds, its first argument -/
def eDef1 (n : Nat) (den : Den) (i : Nat) (ma : MEA) : ME := fun ρ => bE (ma ρ) fun ds ρ1 =>
  if ds.length + 1 = n then match (ρ1[i]?).join with
    | some d0 => match den (d0 :: D.fzs ds) with
      | some (o, [d1]) => some (o, ρ1.set i (some d1))
      | _ => none
    | none => none
  else none
section
variable {X : Cx} {T : List (Addr × Str)} {W : WX} {σ : L2.St} {H : Hp} {Q : VK}
theorem fzs_len : ∀ ds : List D, (D.fzs ds).length = ds.length
  | [] => rfl
  | d :: ds => by show (D.fzs ds).length + 1 = _; rw [fzs_len ds]; rfl
theorem mDef_reads {n : Nat} {den : Den} {ma : Rho → Option (O (List D))} (h : cP (gx X T) W (mDef n den ma) σ H Q) : tCallS (spD (gx X T) n 0 den) (WE W) (cPA (gx X T) W ma) σ H Q := by
  obtain ⟨Z, ρ, fp, o, hm, ok, re, q⟩ := h
  refine cPA.go hm ok re q.x fun ds vs Z1 H1 hm1 g1 ok1 re1 b1 => ?_
  split at hm1
  · rename_i c
    have r1 := Bs.rs b1 c.1
    refine ⟨(Rs.len r1).trans c.2, ?_⟩
    split at hm1
    · rename_i d hd
      cases Option.some.inj hm1
      refine ⟨Z1, ds, [], _, ok1.none, r1, c.1, hd, fun v Z2 H2 fo fd s2 ro r2 => ?_⟩
      have hfo : fo = [] := ro.2
      rw [hfo] at s2
      have s2' : Stp (gx X T) Z1 H1 [] Z2 H2 (fd ++ []) := by rw [List.append_nil]; exact s2
      obtain ⟨Z3, s3, r3⟩ := r2.toFz s2'.ok
      exact q v Z3 H2 (Grw.trans g1 (s2'.trans s3)) ⟨[], r3⟩
    · rename_i c' ks ws hd
      cases Option.some.inj hm1
      refine ⟨Z1, ds, [], _, ok1.none, r1, c.1, hd, fun cls dx Z2 H2 fo s2 ro xr => ?_⟩
      have hfo : fo = [] := ro.2
      rw [hfo] at s2
      exact q cls dx Z2 H2 (Grw.trans g1 s2) xr
    · cases hm1
  · cases hm1
theorem eDef_reads {n : Nat} {den : Den} {ma : MEA} (h : cE (gx X T) W (eDef n den ma) σ H Q) : tCallS (spD (gx X T) n 0 den) (WE W) (cEA (gx X T) W ma) σ H Q := by
  obtain ⟨Z, ρ, fp, x, hm, ok, re, q⟩ := h
  refine cEA.go hm ok re q.x fun ds vs ρ1 Z1 H1 fe fd hm1 s1 re1 r1 => ?_
  split at hm1
  · rename_i c
    refine ⟨(Rs.len r1).trans c, ?_⟩
    have s1p := s1.permR List.perm_append_comm
    obtain ⟨Z2, s2, r2⟩ := Rs.toFz r1 s1p.ok
    have s12 := s1p.trans s2
    have re2 : RE (gx X T) Z2 H1 ρ1 σ fe := RE.mono s2.zz (fun _ _ => rfl) re1
    split at hm1
    · rename_i o hd
      cases Option.some.inj hm1
      refine ⟨Z2, D.fzs ds, [], _, s12.ok.none, r2, D.frzs_fzs ds, hd, ?_⟩
      cases o with
      | ok d =>
        intro v Z3 H3 fo fd3 s3 ro r3
        have hfo : fo = [] := ro.2
        rw [hfo] at s3
        have s4 := s3.frame (fr := fe) s12.ok
        exact q v Z3 H3 fe fd3 ((s12.trans s4).permR List.perm_append_comm) (re2.frame (fp := []) s12.ok s3) r3
      | exc c ks ws =>
        intro cls dx Z3 H3 fo s3 ro xr
        have hfo : fo = [] := ro.2
        rw [hfo] at s3
        have s4 := s3.frame (fr := fe) s12.ok
        exact q cls dx Z3 H3 fe (s12.trans s4) (re2.frame (fp := []) s12.ok s3) xr
    · cases hm1
  · cases hm1
theorem eDef1_reads {n i : Nat} {den : Den} {ma : MEA} (h : cE (gx X T) W (eDef1 n den i ma) σ H Q) (hs : ∃ v, σ[i]? = some (some v)) : tCallS (spD (gx X T) n 1 den) (WE W) (tCons (tVar i) (cEA (gx X T) W ma)) σ H Q := by
  obtain ⟨Z, ρ, fp, x, hm, ok, re, q⟩ := h
  obtain ⟨v0, hv0⟩ := hs
  refine ⟨v0, hv0, ?_⟩
  refine cEA.go hm ok re q.x fun ds vs ρ1 Z1 H1 fe fd hm1 s1 re1 r1 => ?_
  split at hm1
  · rename_i c
    split at hm1
    · rename_i d0 hd0
      have s1p := s1.permR List.perm_append_comm
      obtain ⟨Z2, s2, r2⟩ := Rs.toFz r1 s1p.ok
      have s12 := s1p.trans s2
      have re2 : RE (gx X T) Z2 H1 ρ1 σ fe := RE.mono s2.zz (fun _ _ => rfl) re1
      obtain ⟨y, f1, fi, f2, h1, h2, ⟨v, e1, r⟩, ex⟩ := re2.at (join_eq hd0)
      have : v0 = v := by rw [hv0, e1] at h1; exact Option.some.inj (Option.some.inj h1)
      subst this
      subst h2
      have pm : (f1 ++ fi ++ f2).Perm (fi ++ (f1 ++ f2)) := List.perm_iff_count.mpr fun a => by
        simp only [List.count_append]
        omega
      have okp := s12.ok.perm pm
      refine ⟨by rw [List.length_cons, Rs.len r1]; exact c, ?_⟩
      split at hm1
      · rename_i o d1 hd
        cases Option.some.inj hm1
        refine ⟨Z2, d0 :: D.fzs ds, fi, _, okp.sub, ⟨v0, vs, fi, [], rfl, by rw [List.append_nil], r, r2⟩, by simpa using D.frzs_fzs ds, hd, ?_⟩
        cases o with
        | ok d =>
          intro v3 Z3 H3 fo fd3 s3 ro r3
          have ro1 : R (gx X T) Z3 H3 d1 v0 fo := by
            obtain ⟨x', r', g1, g2, a1, a2, a3, a4⟩ := ro
            have hv : (v0 :: vs).take 1 = [v0] := by simp
            rw [hv] at a1
            cases a1
            rw [a2, a4.2, List.append_nil]
            exact a3
          have s4 := s3.frame (fr := f1 ++ f2) okp
          have re3 := ex Z3 H3 (some d1) y fo s3.zz (s3.at okp) ⟨v0, e1, ro1⟩
          rw [set_self h1] at re3
          refine q v3 Z3 H3 (f1 ++ fo ++ f2) fd3 ?_ re3 r3
          refine ((s12.permR pm).trans s4).permR (List.perm_iff_count.mpr fun a => by
            simp only [List.count_append]
            omega)
        | exc c ks ws =>
          intro cls dx Z3 H3 fo s3 ro xr
          have ro1 : R (gx X T) Z3 H3 d1 v0 fo := by
            obtain ⟨x', r', g1, g2, a1, a2, a3, a4⟩ := ro
            have hv : (v0 :: vs).take 1 = [v0] := by simp
            rw [hv] at a1
            cases a1
            rw [a2, a4.2, List.append_nil]
            exact a3
          have s4 := s3.frame (fr := f1 ++ f2) okp
          have re3 := ex Z3 H3 (some d1) y fo s3.zz (s3.at okp) ⟨v0, e1, ro1⟩
          rw [set_self h1] at re3
          refine q cls dx Z3 H3 (f1 ++ fo ++ f2) ?_ re3 xr
          refine ((s12.permR pm).trans s4).permR (List.perm_iff_count.mpr fun a => by
            simp only [List.count_append]
            omega)
      · cases hm1
    · cases hm1
  · cases hm1
variable {lv n : Nat} {f : Addr} {fd : FuncData} {ps : List Str} {den : Den} {x : Str} {p pos : Pos} {e b : Expr} {es : List Expr}
theorem cp_def {ma : Rho → Option (O (List D))} (F : FnOk X.prog X.w X.K X.mg X.base (L2.CX X.prog X.w) lv f fd ps (spD (gx X T) n 0 den)) (hr : Room lv X.A) (hg : Gl X x) (hm : X.mg x = some (.ref f)) (hk : PySem.W.keepIn X.K (.ref f) = true) (hb : Binds X.K fd ps []) (hx : ∀ σ, PassesAt (L2.CX X.prog X.w) X σ (WE W σ))
    (ha : PA X (e :: es) (cPA (gx X T) W ma)) (hdb : (x == ("__debug__" : Str)) = false := by decide) (he : starEach (e :: es) X.env = (false, eval e X.env) :: starEach es X.env := by rfl) (hpl : (backTo pos (starEach es X.env)).any (·.1) = false := by rfl) :
    PE X (.Call (.Name x p) (e :: es) [] pos) (cP (gx X T) W (mDef n den ma)) := (pe_callS F hr hg hm hk hb hx ha hdb he hpl).imp fun _ _ _ h => mDef_reads h
theorem cp_defG {ma : Rho → Option (O (List D))} (F : FnG X.prog X.w X.K X.mg X.base (L2.CX X.prog X.w) lv f fd ps (spD (gx X T) n 0 den)) (hG : X.A.guards = some []) (hr : Room lv X.A) (hg : Gl X x) (hm : X.mg x = some (.ref f)) (hk : PySem.W.keepIn X.K (.ref f) = true) (hb : Binds X.K fd ps []) (hx : ∀ σ, PassesAt (L2.CX X.prog X.w) X σ (WE W σ))
    (ha : PA X (e :: es) (cPA (gx X T) W ma)) (hdb : (x == ("__debug__" : Str)) = false := by decide) (he : starEach (e :: es) X.env = (false, eval e X.env) :: starEach es X.env := by rfl) (hpl : (backTo pos (starEach es X.env)).any (·.1) = false := by rfl) :
    PE X (.Call (.Name x p) (e :: es) [] pos) (cP (gx X T) W (mDef n den ma)) := (pe_callG F hG hr hg hm hk hb hx ha hdb he hpl).imp fun _ _ _ h => mDef_reads h
theorem ce_def {ma : MEA} (F : FnOk X.prog X.w X.K X.mg X.base (L2.CX X.prog X.w) lv f fd ps (spD (gx X T) n 0 den)) (hr : Room lv X.A) (hg : Gl X x) (hm : X.mg x = some (.ref f)) (hk : PySem.W.keepIn X.K (.ref f) = true) (hb : Binds X.K fd ps []) (hx : ∀ σ, PassesAt (L2.CX X.prog X.w) X σ (WE W σ))
    (ha : PA X (e :: es) (cEA (gx X T) W ma)) (hdb : (x == ("__debug__" : Str)) = false := by decide) (he : starEach (e :: es) X.env = (false, eval e X.env) :: starEach es X.env := by rfl) (hpl : (backTo pos (starEach es X.env)).any (·.1) = false := by rfl) :
    PE X (.Call (.Name x p) (e :: es) [] pos) (cE (gx X T) W (eDef n den ma)) := (pe_callS F hr hg hm hk hb hx ha hdb he hpl).imp fun _ _ _ h => eDef_reads h
theorem ce_defG {ma : MEA} (F : FnG X.prog X.w X.K X.mg X.base (L2.CX X.prog X.w) lv f fd ps (spD (gx X T) n 0 den)) (hG : X.A.guards = some []) (hr : Room lv X.A) (hg : Gl X x) (hm : X.mg x = some (.ref f)) (hk : PySem.W.keepIn X.K (.ref f) = true) (hb : Binds X.K fd ps []) (hx : ∀ σ, PassesAt (L2.CX X.prog X.w) X σ (WE W σ))
    (ha : PA X (e :: es) (cEA (gx X T) W ma)) (hdb : (x == ("__debug__" : Str)) = false := by decide) (he : starEach (e :: es) X.env = (false, eval e X.env) :: starEach es X.env := by rfl) (hpl : (backTo pos (starEach es X.env)).any (·.1) = false := by rfl) :
    PE X (.Call (.Name x p) (e :: es) [] pos) (cE (gx X T) W (eDef n den ma)) := (pe_callG F hG hr hg hm hk hb hx ha hdb he hpl).imp fun _ _ _ h => eDef_reads h
/-- with a check that the slot holds something -/
def eHeld (i : Nat) (m : ME) : ME := fun ρ => match (ρ[i]?).join with
  | some _ => m ρ
  | none => none
theorem ce_def1 {i : Nat} {ma : MEA} (F : FnOk X.prog X.w X.K X.mg X.base (L2.CX X.prog X.w) lv f fd ps (spD (gx X T) n 1 den)) (hr : Room lv X.A) (hg : Gl X x) (hm : X.mg x = some (.ref f)) (hk : PySem.W.keepIn X.K (.ref f) = true) (hb : Binds X.K fd ps []) (hx : ∀ σ, PassesAt (L2.CX X.prog X.w) X σ (WE W σ))
    (hb0 : PE X b (tVar i)) (ha : PA X es (cEA (gx X T) W ma)) (hdb : (x == ("__debug__" : Str)) = false := by decide) (he : starEach (b :: es) X.env = (false, eval b X.env) :: starEach es X.env := by rfl) (hpl : (backTo pos (starEach es X.env)).any (·.1) = false := by rfl) :
    PE X (.Call (.Name x p) (b :: es) [] pos) (cE (gx X T) W (eHeld i (eDef1 n den i ma))) := (pe_callS F hr hg hm hk hb hx (pa_cons hb0 ha he) hdb he hpl).imp fun σ H Q ⟨Z, ρ, fp, x, hm, ok, re, q⟩ => by
  unfold eHeld at hm
  split at hm
  · rename_i d hd
    obtain ⟨y, f1, fi, f2, h1, h2, ⟨v, e1, r⟩, ex⟩ := re.at (join_eq hd)
    exact eDef1_reads ⟨Z, ρ, fp, x, hm, ok, re, q⟩ ⟨v, by rw [h1, e1]⟩
  · cases hm
theorem ce_def1G {i : Nat} {ma : MEA} (F : FnG X.prog X.w X.K X.mg X.base (L2.CX X.prog X.w) lv f fd ps (spD (gx X T) n 1 den)) (hG : X.A.guards = some []) (hr : Room lv X.A) (hg : Gl X x) (hm : X.mg x = some (.ref f)) (hk : PySem.W.keepIn X.K (.ref f) = true) (hb : Binds X.K fd ps []) (hx : ∀ σ, PassesAt (L2.CX X.prog X.w) X σ (WE W σ))
    (hb0 : PE X b (tVar i)) (ha : PA X es (cEA (gx X T) W ma)) (hdb : (x == ("__debug__" : Str)) = false := by decide) (he : starEach (b :: es) X.env = (false, eval b X.env) :: starEach es X.env := by rfl) (hpl : (backTo pos (starEach es X.env)).any (·.1) = false := by rfl) :
    PE X (.Call (.Name x p) (b :: es) [] pos) (cE (gx X T) W (eHeld i (eDef1 n den i ma))) := (pe_callG F hG hr hg hm hk hb hx (pa_cons hb0 ha he) hdb he hpl).imp fun σ H Q ⟨Z, ρ, fp, x, hm, ok, re, q⟩ => by
  unfold eHeld at hm
  split at hm
  · rename_i d hd
    obtain ⟨y, f1, fi, f2, h1, h2, ⟨v, e1, r⟩, ex⟩ := re.at (join_eq hd)
    exact eDef1_reads ⟨Z, ρ, fp, x, hm, ok, re, q⟩ ⟨v, by rw [h1, e1]⟩
  · cases hm
/-- a def as a value -/
theorem cp_fn (hg : Gl X x) (hm : X.mg x = some (.ref f)) (hd : (x == ("__debug__" : Str)) = false := by decide) : PE X (.Name x p) (cP (gx X T) W (mC (.fn x))) := cp_lit (pe_glob hg hm (v := .ref f) rfl hd) fun _ _ => ⟨⟨f, rfl, hm⟩, rfl⟩
end
end OP

/-! OJ: chains, isinstance, built-ins over data -/
namespace OP
open PySem PySem.Spec PyProof.Rows L2
section
variable {X : Cx} {T : List (Addr × Str)} {W : WX} {e a b c : Expr} {es : List Expr} {pos : Pos}

/-! ### a op b op' c -/
def mChain (f f' : D → D → Option D) (ma mb mc : Rho → Option (O D)) : Rho → Option (O D) := fun ρ => bnd (ma ρ) fun x => bnd (mb ρ) fun y => bnd (ret ((f x y).bind asB)) fun k =>
  if k = true then bnd (mc ρ) fun z => ret (f' y z) else some (.ok (.bl false))
theorem cChain {r r' : R2} {f f' : D → D → Option D} {ma mb mc : Rho → Option (O D)} {σ : L2.St} {H : Hp} {Q : VK} (hr : PR2 (gx X T) r f) (hr' : PR2 (gx X T) r' f') (h : cP (gx X T) W (mChain f f' ma mb mc) σ H Q) :
    tChain r r' (cP (gx X T) W ma) (cP (gx X T) W mb) (cP (gx X T) W mc) σ H Q := by
  obtain ⟨Z, ρ, fp, o, hm, ok, re, q⟩ := h
  refine cP.go hm ok re q.x fun x v Z1 H1 hm1 g1 ok1 re1 b1 => ?_
  refine cP.go hm1 ok1 re1 (q.mono g1).x fun y w Z2 H2 hm2 g2 ok2 re2 b2 => ?_
  rcases bnd_some hm2 with ⟨k, e1, hm3⟩ | ⟨c', ks, vs, e1, _⟩
  · obtain ⟨k', hk, e2⟩ := ret_eq e1
    cases e2
    cases hz : f x y with
    | none => rw [hz] at hk; cases hk
    | some z =>
      rw [hz] at hk
      have hzb : z = .bl k := asB_eq hk
      subst hzb
      refine hr Z2 H2 x y v w _ ok2.none (b1.grow g2) b2 hz _ fun u Z3 H3 g3 b3 => ⟨k, b3.bl_eq, ?_⟩
      have ok3 := Grw.ok g3 ok2
      have re3 := re2.grow g3
      have q3 := q.mono (g1.trans (g2.trans g3))
      cases k with
      | false =>
        cases Option.some.inj hm3
        exact q3 _ Z3 H3 (Grw.refl ok3) B.bl
      | true =>
        refine cP.go hm3 ok3 re3 q3.x fun z' u' Z4 H4 hm4 g4 ok4 re4 b4 => ?_
        obtain ⟨t, ht, rfl⟩ := ret_eq hm4
        exact hr' Z4 H4 y z' w u' t ok4.none ((b2.grow g3).grow g4) b4 ht Q fun u Z5 H5 g5 b5 => q3 u Z5 H5 (g4.trans g5) b5
  · obtain ⟨_, _, e2⟩ := ret_eq e1
    cases e2
theorem cp_chain {op op' : CmpOp} {r r' : R2} {f f' : D → D → Option D} {ma mb mc : Rho → Option (O D)} (ho : OpR X (compareOp op) r) (hr : PR2 (gx X T) r f) (ho' : OpR X (compareOp op') r') (hr' : PR2 (gx X T) r' f')
    (ha : PE X a (cP (gx X T) W ma)) (hb : PE X b (cP (gx X T) W mb)) (hc : PE X c (cP (gx X T) W mc)) (hm : lastMarks [op, op'] [b, c] = false := by with_unfolding_all rfl) :
    PE X (.Compare a [op, op'] [b, c] pos) (cP (gx X T) W (mChain f f' ma mb mc)) := (pe_chain ho ho' ha hb hc hm).imp fun _ _ _ h => cChain hr hr' h
theorem cpt_chain {op op' : CmpOp} {r r' : R2} {f f' : D → D → Option D} {ma mb mc : Rho → Option (O D)} (ho : OpR X (compareOp op) r) (hr : PR2 (gx X T) r f) (ho' : OpR X (compareOp op') r') (hr' : PR2 (gx X T) r' f')
    (ha : PE X a (cP (gx X T) W ma)) (hb : PE X b (cP (gx X T) W mb)) (hc : PE X c (cP (gx X T) W mc)) (hm : lastMarks [op, op'] [b, c] = false := by with_unfolding_all rfl) :
    PT X (.Compare a [op, op'] [b, c] pos) (cPT (gx X T) W (mT (mChain f f' ma mb mc))) := (pt_chain ho ho' ha hb hc hm).imp fun _ _ _ h => cChain hr hr' (cT h)

/-! ### isinstance -/
inductive Ty where
  | int | str | bool | tuple | list | dict
def Ty.nm : Ty → String
  | .int => "int" | .str => "str" | .bool => "bool" | .tuple => "tuple" | .list => "list" | .dict => "dict"
/-- is d of that type; of an own class or a def nothing is said -/
def isTy : Ty → D → Option Bool
  | .int, .int _ => some true | .int, .bl _ => some true
  | .bool, .bl _ => some true
  | .str, .str _ => some true
  | .tuple, .tup _ => some true
  | .list, .lst _ _ => some true | .list, .xls _ => some true
  | .dict, .dic _ _ _ => some true | .dict, .xdc _ _ => some true
  | _, .ins _ _ _ _ => none | _, .fn _ => none
  | _, _ => some false
def D.tyn : D → Option String
  | .non => some "NoneType" | .bl _ => some "bool" | .int _ => some "int" | .str _ => some "str" | .tup _ => some "tuple" | .lst _ _ => some "list" | .xls _ => some "list" | .dic _ _ _ => some "dict" | .xdc _ _ => some "dict"
  | _ => none
theorem ty_seqL {K : PySem.W.Frag} {H : Hp} {a : Addr} {xs : List V} (h : SqL K H a xs) : TyX K H (.ref a) (.type "list") := by
  rcases h with (h | ⟨o, h⟩) | ⟨o, its, n, h1, h2, _⟩
  · exact .base (.lst h)
  · exact .base (.frz h)
  · exact .kList h1 h2
theorem ty_seqT {K : PySem.W.Frag} {H : Hp} {a : Addr} {xs : List V} (h : SqT K H a xs) : TyX K H (.ref a) (.type "tuple") := by
  rcases h with (h | ⟨o, h⟩) | ⟨o, its, n, h1, h2, _⟩
  · exact .base (.tup h)
  · exact .fTuple h
  · exact .kTuple h1 h2
theorem B.ty {g : G} {Z H : Hp} {d : D} {v : V} {n : String} (zh : Sub Z H) (h : B g Z H d v) (e : d.tyn = some n) : TyX g.K H v (.type n) := by
  cases d with
  | non => cases e; rw [h.non_eq]; exact .base .non
  | bl b => cases e; rw [h.bl_eq]; exact .base (.bl b)
  | int b => cases e; rw [h.int_eq]; exact .base (.int b)
  | str b => cases e; rw [h.str_eq.1]; exact .base (.str b)
  | fn _ => cases e
  | tup l => cases e; obtain ⟨a, xs, e1, h1, _⟩ := h.tup zh; rw [e1]; exact ty_seqT h1
  | lst o l => cases e; obtain ⟨a, xs, _, e1, h1, _⟩ := h.lst zh; rw [e1]; exact .base (.lst h1)
  | xls l => cases e; obtain ⟨a, xs, e1, h1, _⟩ := h.xls zh; rw [e1]; exact ty_seqL h1
  | ins _ _ _ _ => cases e
  | dic o ks l =>
    cases e
    obtain ⟨fq, h⟩ := h
    cases o with
    | false => obtain ⟨_, a, kvs, e1, h1, _⟩ := h; rw [e1]; exact .base (.dK (zh _ _ h1))
    | true => obtain ⟨a, kvs, _, e1, _, h1, _⟩ := h; rw [e1]; exact .base (.dK h1)
  | xdc ks l =>
    cases e
    obtain ⟨fq, _, a, xs, e1, ⟨⟨es, n, D⟩, _⟩, _⟩ := h
    rw [e1]
    exact .kDict D.at_ rfl
theorem isTy_kit {t : Ty} {d : D} {b : Bool} (h : isTy t d = some b) : ∃ n, d.tyn = some n ∧ kitB n t.nm = some b := by
  cases t <;> cases d <;> simp only [isTy] at h <;> (try contradiction) <;> cases h <;> exact ⟨_, rfl, by decide +kernel⟩
def mIsi (t : Ty) (m : Rho → Option (O D)) : Rho → Option (O D) := fun ρ => bnd (m ρ) fun d => ret ((isTy t d).map .bl)
theorem cp_isi {t : Ty} {p p2 : Pos} {m : Rho → Option (O D)} {y : Str} (ha : PE X a (cP (gx X T) W m)) (hg : Gl X "isinstance") (hm : X.mg "isinstance" = none) (hg2 : Gl X y) (hm2 : X.mg y = none) (hv : bootBuiltins y = some (.type t.nm) := by rfl) (hn2 : y ≠ "__name__" := by decide) (hd2 : (y == ("__debug__" : Str)) = false := by decide)
    (he : starEach [a, .Name y p2] X.env = (false, eval a X.env) :: starEach [.Name y p2] X.env := by rfl) (hpl : (backTo pos (starEach [.Name y p2] X.env)).any (·.1) = false := by rfl) :
    PE X (.Call (.Name "isinstance" p) [a, .Name y p2] [] pos) (cP (gx X T) W (mIsi t m)) :=
  (pe_callB call_isi hg hm rfl (pa_cons ha (pa_cons (pe_bltn (v := .ty t.nm) hg2 hm2 hv rfl hn2 hd2) pa_nil) he) (by decide) (by decide) he hpl).imp fun σ H Q ⟨Z, ρ, fp, o, hm, ok, re, q⟩ => by
    refine cP.go hm ok re q.x fun x v Z1 H1 hm1 g1 ok1 re1 b1 => ?_
    obtain ⟨z, hz, rfl⟩ := ret_eq hm1
    cases hb : isTy t x with
    | none => rw [hb] at hz; cases hz
    | some k =>
      rw [hb] at hz; cases hz
      obtain ⟨n, e1, e2⟩ := isTy_kit hb
      exact ⟨v, .ty t.nm, .type n, .type t.nm, k, rfl, .ty _, b1.ty ok1.zh e1, kit_ty e2, q _ Z1 H1 g1 B.bl⟩

/-! ### all, any -/
def D.bls : List D → Option (List Bool)
  | [] => some []
  | .bl b :: r => (D.bls r).map (b :: ·)
  | _ :: _ => none
theorem Rs.bls {g : G} {Z H : Hp} : ∀ {l : List D} {xs : List V} {fp : List Addr} {bs : List Bool}, Rs g Z H l xs fp → D.bls l = some bs → xs = bs.map V.bl
  | [], xs, fp, bs, h, e => by cases e; exact h.1
  | d :: l, xs, fp, bs, h, e => by
    obtain ⟨x, r, f1, f2, e1, e2, h1, h2⟩ := h
    cases d <;> simp only [D.bls] at e <;> try contradiction
    rename_i b
    cases q : D.bls l with
    | none => rw [q] at e; cases e
    | some bs' =>
      rw [q] at e; cases e
      rw [e1, Rs.bls h2 q, h1.1]
      rfl
def D.lits : D → Option (List D)
  | .lst _ l => some l
  | .xls l => some l
  | _ => none
theorem B.lseq {g : G} {Z H : Hp} {d : D} {l : List D} {v : V} (zh : Sub Z H) (h : B g Z H d v) (e : d.lits = some l) : ∃ a xs fq, v = .ref a ∧ SqL g.K H a xs ∧ Rs g Z H l xs fq := by
  cases d <;> simp only [D.lits] at e <;> try contradiction
  · cases e; obtain ⟨a, xs, fq, e1, h1, h2⟩ := h.lst zh; exact ⟨a, xs, fq, e1, SqL.of h1, h2⟩
  · cases e; obtain ⟨a, xs, e1, h1, h2⟩ := h.xls zh; exact ⟨a, xs, [], e1, h1, h2⟩
def f1L (f : List D → Option D) : List D → Option D
  | [d] => d.lits.bind f
  | _ => none
def fAll : List D → Option D := f1L fun l => (D.bls l).map fun bs => .bl (bs.all id)
def fAny : List D → Option D := f1L fun l => (D.bls l).map fun bs => .bl (bs.any id)
/-- one argument, a list -/
theorem oneL {g : G} {Z H : Hp} {ds : List D} {vs : List V} {z : D} {f : List D → Option D} (zh : Sub Z H) (hb : Bs g Z H ds vs) (hz : f1L f ds = some z) : ∃ a xs l fq, vs = [V.ref a] ∧ SqL g.K H a xs ∧ Rs g Z H l xs fq ∧ f l = some z := by
  match ds, hb, hz with
  | [d], .cons h .nil, hz =>
    have hz : d.lits.bind f = some z := hz
    cases e : d.lits with
    | none => rw [e] at hz; cases hz
    | some l =>
      obtain ⟨a, xs, fq, e1, h1, h2⟩ := h.lseq zh e
      rw [e] at hz
      exact ⟨a, xs, l, fq, by rw [e1], h1, h2, hz⟩
theorem map_some {α β : Type} {o : Option α} {f : α → β} {z : β} (h : o.map f = some z) : ∃ x, o = some x ∧ f x = z := by
  cases o with
  | none => cases h
  | some x => exact ⟨x, rfl, by cases h; rfl⟩
theorem pr_all : PRC (gx X T) (rAll X.K) fAll := fun Z H ds vs z ok hb hz Q q => by
  obtain ⟨a, xs, l, fq, e1, h1, h2, hz⟩ := oneL ok.zh hb hz
  obtain ⟨bs, e2, rfl⟩ := map_some hz
  rw [Rs.bls h2 e2] at h1
  exact ⟨a, bs, e1, h1, q _ Z H (Grw.refl ok) B.bl⟩
theorem pr_any : PRC (gx X T) (rAny X.K) fAny := fun Z H ds vs z ok hb hz Q q => by
  obtain ⟨a, xs, l, fq, e1, h1, h2, hz⟩ := oneL ok.zh hb hz
  obtain ⟨bs, e2, rfl⟩ := map_some hz
  rw [Rs.bls h2 e2] at h1
  exact ⟨a, bs, e1, h1, q _ Z H (Grw.refl ok) B.bl⟩

/-! ### tuple(x), list(x) -/
def fTup : List D → Option D
  | [.tup l] => some (.tup l)
  | [d] => d.lits.bind fun l => if D.frzs l then some (.tup l) else none
  | _ => none
def fLst : List D → Option (List D)
  | [d] => d.its.bind fun l => if D.frzs l then some l else none
  | _ => none
theorem pr_tuple : PRC (gx X T) (fun xs H Q => ∃ p ys, xs = [.ref p] ∧ ((SqL X.K H p ys ∧ ∀ l, H l = none → Q (.ref l) (upd H l (.tup ys))) ∨ (SqT X.K H p ys ∧ Q (.ref p) H))) fTup := fun Z H ds vs z ok hb hz Q q => by
  match ds, hb with
  | [], .nil => cases hz
  | _ :: _ :: _, .cons _ (.cons _ _) => simp [fTup] at hz
  | [d], .cons h .nil =>
    by_cases ht : ∃ l, d = .tup l
    · obtain ⟨l, rfl⟩ := ht
      cases hz
      obtain ⟨a, xs, e1, h1, h2⟩ := h.tup ok.zh
      exact ⟨a, xs, by rw [e1], .inr ⟨h1, by rw [← e1]; exact q _ Z H (Grw.refl ok) h⟩⟩
    · have hz' : (d.lits.bind fun l => if D.frzs l then some (D.tup l) else none) = some z := by
        cases d <;> first | exact hz | exact absurd ⟨_, rfl⟩ ht
      obtain ⟨a, xs, l, fq, e1, h1, h2, hz2⟩ := oneL (ds := [d]) ok.zh (.cons h .nil) hz'
      split at hz2
      · rename_i c
        cases hz2
        rw [Rs.frz c h2] at h2
        exact ⟨a, xs, e1, .inl ⟨h1, newT ok h2 q⟩⟩
      · cases hz2
/-- a rule makes a new list of what f gives -/
def PRN (g : G) (r : List V → Hp → VK → Prop) (f : List D → Option (List D)) : Prop := ∀ Z H ds vs l, Ok g Z H [] → Bs g Z H ds vs → f ds = some l →
  ∀ Q : VK, (∀ p xs, H p = none → Rs g Z H l xs [] → Q (.ref p) (upd H p (.lst xs))) → r vs H Q
theorem pr_list : PRN (gx X T) (fun xs H Q => ∃ p ys, xs = [.ref p] ∧ (SqL X.K H p ys ∨ SqT X.K H p ys) ∧ ∀ l, H l = none → Q (.ref l) (upd H l (.lst ys))) fLst := fun Z H ds vs z ok hb hz Q q => by
  match ds, hb with
  | [], .nil => cases hz
  | _ :: _ :: _, .cons _ (.cons _ _) => simp [fLst] at hz
  | [d], .cons h .nil =>
    have hz : (d.its.bind fun l => if D.frzs l then some l else none) = some z := hz
    cases e : d.its with
    | none => rw [e] at hz; cases hz
    | some l =>
      rw [e] at hz
      have hz : (if D.frzs l = true then some l else none) = some z := hz
      split at hz
      · rename_i c
        cases hz
        obtain ⟨a, xs, fq, e1, h1, h2⟩ := h.seq ok.zh e
        rw [Rs.frz c h2] at h2
        exact ⟨a, xs, by rw [e1], h1, fun p hp => q p xs hp h2⟩
      · cases hz
/-- frozen at once -/
theorem PRN.frz {r : List V → Hp → VK → Prop} {f : List D → Option (List D)} (h : PRN (gx X T) r f) : PRC (gx X T) r (fun ds => (f ds).map (.lst false)) := fun Z H ds vs z ok hb hz Q q => by
  obtain ⟨l, e, rfl⟩ := map_some hz
  exact h Z H ds vs l ok hb e Q fun p xs hp hr => newL ok hr q p hp
/-- owned -/
def eNew (f : List D → Option (List D)) (ma : Rho → Option (O (List D))) : ME := fun ρ => match bnd (ma ρ) fun x => ret (f x) with
  | some (.ok l) => some (.ok (.lst true l), ρ)
  | some (.exc c ks vs) => some (.exc c ks vs, ρ)
  | none => none

/-! ### ints -/
theorem pr_abs : PRC (gx X T) (fun xs H Q => ∃ i, xs = [.int i] ∧ Q (.int (if i < 0 then -i else i)) H) (fun ds => match ds with | [.int i] => some (.int (if i < 0 then -i else i)) | _ => none) := fun Z H ds vs z ok hb hz Q q => by
  match ds, hb, hz with
  | [.int i], .cons h .nil, hz =>
    cases hz
    exact ⟨i, by rw [h.int_eq], q _ Z H (Grw.refl ok) B.int⟩
def fInt : List D → Option D
  | [.int i] => some (.int i)
  | [.bl k] => some (.int (if k then 1 else 0))
  | _ => none
theorem pr_int : PRC (gx X T) (fun xs H Q => (∃ i, xs = [.int i] ∧ Q (.int i) H) ∨ ∃ k, xs = [.bl k] ∧ Q (.int (if k then 1 else 0)) H) fInt := fun Z H ds vs z ok hb hz Q q => by
  match ds, hb, hz with
  | [.int i], .cons h .nil, hz => cases hz; exact .inl ⟨i, by rw [h.int_eq], q _ Z H (Grw.refl ok) B.int⟩
  | [.bl i], .cons h .nil, hz => cases hz; exact .inr ⟨i, by rw [h.bl_eq], q _ Z H (Grw.refl ok) B.int⟩
def fMax2 : List D → Option D
  | [.int i, .int j] => some (.int (if j > i then j else i))
  | _ => none
def fMin2 : List D → Option D
  | [.int i, .int j] => some (.int (if j < i then j else i))
  | _ => none
theorem pr_max2 : PRC (gx X T) (fun xs H Q => ∃ i j, xs = [.int i, .int j] ∧ Q (.int (if j > i then j else i)) H) fMax2 := fun Z H ds vs z ok hb hz Q q => by
  match ds, hb, hz with
  | [.int i, .int j], .cons h (.cons h' .nil), hz => cases hz; exact ⟨i, j, by rw [h.int_eq, h'.int_eq], q _ Z H (Grw.refl ok) B.int⟩
theorem pr_min2 : PRC (gx X T) (fun xs H Q => ∃ i j, xs = [.int i, .int j] ∧ Q (.int (if j < i then j else i)) H) fMin2 := fun Z H ds vs z ok hb hz Q q => by
  match ds, hb, hz with
  | [.int i, .int j], .cons h (.cons h' .nil), hz => cases hz; exact ⟨i, j, by rw [h.int_eq, h'.int_eq], q _ Z H (Grw.refl ok) B.int⟩
/-! is of bools -/
def gIsB : D → D → Option D
  | .bl a, .bl b => some (.bl (decide (a = b)))
  | _, _ => none
def gNotB : D → D → Option D
  | .bl a, .bl b => some (.bl (!decide (a = b)))
  | _, _ => none
theorem pr_isB : PR2 (gx X T) rIsB gIsB := fun Z H d e v w z ok hd he hz Q q => by
  cases d <;> cases e <;> simp only [gIsB] at hz <;> try contradiction
  cases hz
  exact ⟨_, _, hd.bl_eq, he.bl_eq, q _ Z H (Grw.refl ok) B.bl⟩
theorem pr_notB : PR2 (gx X T) rNotB gNotB := fun Z H d e v w z ok hd he hz Q q => by
  cases d <;> cases e <;> simp only [gNotB] at hz <;> try contradiction
  cases hz
  exact ⟨_, _, hd.bl_eq, he.bl_eq, q _ Z H (Grw.refl ok) B.bl⟩
end
end OP

/-! OL: new owned lists, repr, raise, sorted -/
namespace OP
open PySem PySem.Spec PyProof.Rows L2
section
variable {X : Cx} {T : List (Addr × Str)} {W : WX} {e a b c : Expr} {es : List Expr} {pos : Pos}
/-! ### a call that makes a list, owned -/
theorem cNew {r : List V → Hp → VK → Prop} {f : List D → Option (List D)} {ma : Rho → Option (O (List D))} {σ : L2.St} {H : Hp} {Q : VK} (hr : PRN (gx X T) r f) (h : cE (gx X T) W (eNew f ma) σ H Q) : tCB r (cPA (gx X T) W ma) σ H Q := by
  obtain ⟨Z, ρ, fp, x, hm, ok, re, q⟩ := h
  unfold eNew at hm
  split at hm
  · rename_i l e1
    cases Option.some.inj hm
    refine cPA.go e1 ok re (fun c ks vs e => by cases e) fun ds vs Z1 H1 hm1 g1 ok1 re1 b1 => ?_
    obtain ⟨z, hz, e2⟩ := ret_eq hm1
    cases e2
    refine hr Z1 H1 ds vs l ok1.none b1 hz Q fun p xs hp rx => ?_
    have np : p ∉ fp := fun z => ok1.hf p z (Nt.none hp)
    have s3 := Stp.newO ok1 hp (o := .lst xs) (fun ps z => by cases z)
    exact q _ _ _ fp [p] (((Grw.stp g1 ok).trans s3).permR (List.perm_append_comm (l₁ := [p]) (l₂ := fp))) (RE.mono (Sub.refl _) (upd_other np) re1) ⟨p, xs, [], rfl, rfl, upd_same, Rs.mono (Sub.refl _) (by simp) rx⟩
  · rename_i c ks vs e1
    cases Option.some.inj hm
    exact cPA.go e1 ok re (fun c' ks' vs' e cls dx Z' H' g xr => by cases e; exact q cls dx Z' H' fp (Grw.stp g ok) (re.grow g) xr) fun ds vs Z1 H1 hm1 g1 ok1 re1 b1 => by
      obtain ⟨z, hz, e2⟩ := ret_eq hm1
      cases e2
  · cases hm
theorem ce_newB {x : Str} {p : Pos} {id : String} {r : List V → Hp → VK → Prop} {f : List D → Option (List D)} {ma : Rho → Option (O (List D))} (hc : CallR X (.builtin id) r) (hr : PRN (gx X T) r f) (hg : Gl X x) (hm : X.mg x = none) (hv : bootBuiltins x = some (.builtin id)) (ha : PA X (e :: es) (cPA (gx X T) W ma))
    (hn : x ≠ "__name__" := by decide) (hdb : (x == ("__debug__" : Str)) = false := by decide) (he : starEach (e :: es) X.env = (false, eval e X.env) :: starEach es X.env := by rfl) (hpl : (backTo pos (starEach es X.env)).any (·.1) = false := by rfl) :
    PE X (.Call (.Name x p) (e :: es) [] pos) (cE (gx X T) W (eNew f ma)) := (pe_callB hc hg hm hv ha hn hdb he hpl).imp fun _ _ _ h => cNew hr h
theorem ce_newT {x : Str} {p : Pos} {id : String} {r : List V → Hp → VK → Prop} {f : List D → Option (List D)} {ma : Rho → Option (O (List D))} (hc : CallR X (.type id) r) (hr : PRN (gx X T) r f) (hg : Gl X x) (hm : X.mg x = none) (hv : bootBuiltins x = some (.type id)) (ha : PA X (e :: es) (cPA (gx X T) W ma))
    (hn : x ≠ "__name__" := by decide) (hdb : (x == ("__debug__" : Str)) = false := by decide) (he : starEach (e :: es) X.env = (false, eval e X.env) :: starEach es X.env := by rfl) (hpl : (backTo pos (starEach es X.env)).any (·.1) = false := by rfl) :
    PE X (.Call (.Name x p) (e :: es) [] pos) (cE (gx X T) W (eNew f ma)) := (pe_callTy hc hg hm hv ha hn hdb he hpl).imp fun _ _ _ h => cNew hr h

/-! ### repr, where none is under way -/
def rRepr (X : Cx) : List V → Hp → VK → Prop := fun xs H Q => ∃ x d, xs = [x] ∧ Dp X.K H x d ∧ d.showable = true ∧ d.hasDict = false ∧ d.depth ≤ 60 ∧ d.shown.length ≤ 16777216 ∧ Q (.str d.shown) H
theorem call_repr {lv : Nat} (hG : X.A.guards = some []) (hr : Room lv X.A) : CallR X (.builtin "repr") (rRepr X) := by
  intro pins s σ H xs us Q I r h
  obtain ⟨x, d, rfl, dp, h1, h2, h3, h4, q⟩ := h
  obtain ⟨u, rfl, ru⟩ := vals1 r
  obtain ⟨as, rd⟩ := Dp.reads I d x u dp ru
  have hz : d.shown.length ≤ sizeLine := by rw [sizeLine_eq]; exact h4
  have hu : X.A.units + (d.depth + 1) < cLine := by have := hr.un; omega
  cases rd with
  | none => exact PySem.P.repr_of_none ⟨.str _, H, I.tok _, ⟨_, rfl⟩, q⟩
  | bool b => exact PySem.P.repr_of_bool ⟨.str _, H, I.tok _, ⟨_, rfl⟩, q⟩
  | int i t => exact PySem.P.repr_of_int (by simpa [PyData.showable] using h1) ⟨.str _, H, I.tok _, ⟨_, rfl⟩, q⟩
  | str y t => exact PySem.P.repr_of_str ⟨.str _, H, I.tok _, ⟨_, rfl⟩, q⟩ hz
  | list a1 a2 a3 a4 => exact repr_of_reads' (.list a1 a2 a3 a4) h1 (PyData.noDict_hsm h2) hG hu (fun _ _ z => z) (fun h' u tk hk => ⟨.str _, H, I.kept hk, ⟨_, rfl⟩, q⟩) hz
  | tuple a1 a2 a3 a4 => exact repr_of_reads' (.tuple a1 a2 a3 a4) h1 (PyData.noDict_hsm h2) hG hu (fun _ _ z => z) (fun h' u tk hk => ⟨.str _, H, I.kept hk, ⟨_, rfl⟩, q⟩) hz
  | dict _ _ _ _ _ => simp [PyData.hasDict] at h2
def showOk (p : PyData) : Bool := p.showable && !p.hasDict && decide (p.depth ≤ 60) && decide (p.shown.length ≤ 16777216)
def fRepr : List D → Option D
  | [d] => match d.py with
    | some p => if showOk p then some (.str p.shown) else none
    | none => none
  | _ => none
theorem pr_repr : PRC (gx X T) (rRepr X) fRepr := fun Z H ds vs z ok hb hz Q q => by
  match ds, hb with
  | [], .nil => cases hz
  | _ :: _ :: _, .cons _ (.cons _ _) => simp [fRepr] at hz
  | [d], .cons h .nil =>
    unfold fRepr at hz
    cases e : d.py with
    | none => simp [e] at hz
    | some p =>
      simp only [e] at hz
      split at hz
      · rename_i c
        cases hz
        unfold showOk at c
        simp only [Bool.and_eq_true, decide_eq_true_eq, Bool.not_eq_true'] at c
        obtain ⟨_, h⟩ := h
        exact ⟨_, p, rfl, R.dp ok.zh h e, c.1.1.1, c.1.1.2, c.1.2, c.2, q _ Z H (Grw.refl ok) (B.str c.2)⟩
      · cases hz

/-! ### raise X() -/
theorem pmk_own0 {C : Addr} {bmB : List Value} {B newId initId : String} {x : Str} {p : Pos} (F : ExcBaseFacts B newId initId bmB) (q : PySem.W.excIn X.K C bmB newId = true) (gC : X.mg x = some (.ref C)) (kC : PySem.W.keepIn X.K (.ref C) = true) (r : Raises X (.ref C)) (hg : Gl X x)
    (hdb : (x == ("__debug__" : Str)) = false := by decide) : PMk X (.Call (.Name x p) [] [] pos) (fun _ H Q => Q (.ref C) none H) := by
  intro pins s σ H Q I h
  obtain ⟨bm, N, nm, qn, bs, hdct, sn, sub, ab, col, dd, k0, k1, k2, k3, k5, mN, hC, hN, hni, tl⟩ := exc_obj I.kIn q
  exact wpAny_Call_Name_kw (ld_glob I hg gC (PySem.W.callWith_K0 I.kIn kC (wpAny_call_exc_subT F tl hC hN hni (fun h' e hm => mk_of I hm r h (I.hok.gone hm.new)) (by show 0 ≤ sizeLine; omega))) hdb)
def sRaise (x : Str) : MS := fun ρ => some (.exc x [] [], ρ)
theorem cs_raise0 {J : Nat → Prop} {C : Addr} {bmB : List Value} {B newId initId : String} {x : Str} {p p2 : Pos} (hc : X.calm = true) (tk : Takes X W) (F : ExcBaseFacts B newId initId bmB) (q : PySem.W.excIn X.K C bmB newId = true) (gC : X.mg x = some (.ref C)) (kC : PySem.W.keepIn X.K (.ref C) = true) (r : Raises X (.ref C)) (hg : Gl X x)
    (hdb : (x == ("__debug__" : Str)) = false := by decide) : PS X (.Raise (some (.Call (.Name x p) [] [] p2)) none pos) (cS (gx X T) J W (sRaise x)) :=
  (ps_raise hc tk (pmk_own0 F q gC kC r hg hdb)).imp fun D σ H ⟨Z, ρ, fp, y, hm, ok, re, q⟩ => by
    cases Option.some.inj hm
    exact q (.ref C) none σ Z H fp (Kp.refl) (Stp.refl ok) re ⟨C, gC, rfl, rfl, rfl⟩
end
end OP

/-! OM: sorted, dicts -/
namespace OP
open PySem PySem.Spec PyProof.Rows L2
/-! ### sorted ints -/
def ins (a : Int) : List Int → List Int
  | [] => [a]
  | b :: r => if a ≤ b then a :: b :: r else b :: ins a r
def srt : List Int → List Int
  | [] => []
  | a :: r => ins a (srt r)
theorem ins_perm (a : Int) : ∀ l, (ins a l).Perm (a :: l)
  | [] => .refl _
  | b :: r => by
    unfold ins
    split
    · exact .refl _
    · exact ((ins_perm a r).cons b).trans (.swap a b r)
theorem srt_perm : ∀ l : List Int, (srt l).Perm l
  | [] => .refl _
  | a :: r => (ins_perm a (srt r)).trans ((srt_perm r).cons a)
theorem ins_le (a : Int) : ∀ l : List Int, l.Pairwise (· ≤ ·) → (ins a l).Pairwise (· ≤ ·)
  | [], _ => by simp [ins]
  | b :: r, h => by
    rw [List.pairwise_cons] at h
    unfold ins
    split
    · rename_i c
      rw [List.pairwise_cons, List.pairwise_cons]
      refine ⟨fun x hx => ?_, h⟩
      rcases List.mem_cons.mp hx with e | e
      · rw [e]; exact c
      · exact Int.le_trans c (h.1 x e)
    · rename_i c
      rw [List.pairwise_cons]
      refine ⟨fun x hx => ?_, ins_le a r h.2⟩
      rcases List.mem_cons.mp ((ins_perm a r).mem_iff.mp hx) with e | e
      · rw [e]; omega
      · exact h.1 x e
theorem srt_le : ∀ l : List Int, (srt l).Pairwise (· ≤ ·)
  | [] => .nil
  | a :: r => ins_le a (srt r) (srt_le r)
theorem srt_uniq {a l : List Int} (p : a.Perm l) (h : a.Pairwise (· ≤ ·)) : a = srt l :=
  List.Perm.eq_of_pairwise (le := (· ≤ ·)) (fun x y _ _ h1 h2 => Int.le_antisymm h1 h2) h (srt_le l) (p.trans (srt_perm l).symm)
def D.ints : List D → Option (List Int)
  | [] => some []
  | .int b :: r => (D.ints r).map (b :: ·)
  | _ :: _ => none
theorem Rs.ints {g : G} {Z H : Hp} : ∀ {l : List D} {xs : List V} {fp : List Addr} {bs : List Int}, Rs g Z H l xs fp → D.ints l = some bs → xs = bs.map V.int
  | [], xs, fp, bs, h, e => by cases e; exact h.1
  | d :: l, xs, fp, bs, h, e => by
    obtain ⟨x, r, f1, f2, e1, e2, h1, h2⟩ := h
    cases d <;> simp only [D.ints] at e <;> try contradiction
    rename_i b
    cases q : D.ints l with
    | none => rw [q] at e; cases e
    | some bs' =>
      rw [q] at e; cases e
      rw [e1, Rs.ints h2 q, h1.1]
      rfl
theorem rs_ints {g : G} {Z H : Hp} : ∀ l : List Int, Rs g Z H (l.map D.int) (l.map V.int) []
  | [] => ⟨rfl, rfl⟩
  | i :: l => ⟨_, _, [], [], rfl, rfl, ⟨rfl, rfl⟩, rs_ints l⟩
def keyI : List Key → Option (List Int)
  | [] => some []
  | .inl i :: r => (keyI r).map (i :: ·)
  | _ :: _ => none
theorem keyI_eq : ∀ {ks : List Key} {is : List Int}, keyI ks = some is → ks = is.map Sum.inl
  | [], is, h => by cases h; rfl
  | k :: ks, is, h => by
    cases k <;> simp only [keyI] at h <;> try contradiction
    cases q : keyI ks with
    | none => rw [q] at h; cases h
    | some r => rw [q] at h; cases h; rw [keyI_eq q]; rfl
/-- sorted(x): a list of ints; a dict with fewer than 64 keys, ints -/
def fSort : List D → Option (List D)
  | [.dic _ ks _] => (keyI ks).bind fun is => if is.length < 64 then some ((srt is).map D.int) else none
  | [d] => d.lits.bind fun l => (D.ints l).map fun is => (srt is).map D.int
  | _ => none
abbrev rSortDI : List V → Hp → VK → Prop := fun xs H Q => ∃ (a : Addr) (kvs : List (Key × V)) (ks : List Int), xs = [.ref a] ∧ Rd H a (.dK kvs) ∧ kvs.map (·.1) = ks.map Sum.inl ∧ ks.length < 64 ∧
    ∀ (ys : List Int) (p : Addr), ys.Perm ks → ys.Pairwise (· ≤ ·) → H p = none → Q (.ref p) (upd H p (.lst (ys.map V.int)))
theorem B.dic {g : G} {Z H : Hp} {o : Bool} {ks : List Key} {l : List D} {v : V} (zh : Sub Z H) (h : B g Z H (.dic o ks l) v) : ∃ a kvs fq, v = .ref a ∧ H a = some (.dK kvs) ∧ kvs.map (·.1) = ks ∧ Rs g Z H l (kvs.map (·.2)) fq := by
  obtain ⟨fq, h⟩ := h
  cases o with
  | false => obtain ⟨_, a, kvs, e1, h1, h2, h3⟩ := h; exact ⟨a, kvs, [], e1, zh _ _ h1, h2, h3⟩
  | true => obtain ⟨a, kvs, fr, e1, _, h1, h2, h3⟩ := h; exact ⟨a, kvs, fr, e1, h1, h2, h3⟩
section
variable {X : Cx} {T : List (Addr × Str)} {W : WX} {e o idx a b c : Expr} {es : List Expr} {pos : Pos}
theorem call_sort (hc : X.calm = true) : CallR X (.builtin "sorted") (fun xs H Q => rSortedI X.K xs H Q ∨ rSortDI xs H Q) := cr_sortedI.or (call_sortedDI hc)
theorem pr_sort : PRN (gx X T) (fun xs H Q => rSortedI X.K xs H Q ∨ rSortDI xs H Q) fSort := fun Z H ds vs z ok hb hz Q q => by
  match ds, hb with
  | [], .nil => cases hz
  | _ :: _ :: _, .cons _ (.cons _ _) => simp [fSort] at hz
  | [d], .cons h .nil =>
    by_cases hd : ∃ o ks l, d = .dic o ks l
    · obtain ⟨o, ks, l, rfl⟩ := hd
      have hz : ((keyI ks).bind fun is => if is.length < 64 then some ((srt is).map D.int) else none) = some z := hz
      cases hk : keyI ks with
      | none => rw [hk] at hz; cases hz
      | some is =>
        rw [hk] at hz
        have hz : (if is.length < 64 then some ((srt is).map D.int) else none) = some z := hz
        split at hz
        · rename_i c
          cases hz
          obtain ⟨a, kvs, fq, e1, h1, h2, h3⟩ := h.dic ok.zh
          refine .inr ⟨a, kvs, is, by rw [e1], .inl h1, by rw [h2, keyI_eq hk], c, fun ys p hp hs hn => q p _ hn ?_⟩
          rw [srt_uniq hp hs]
          exact rs_ints _
        · cases hz
    · have hz' : (d.lits.bind fun l => (D.ints l).map fun is => (srt is).map D.int) = some z := by
        cases d <;> first | exact hz | exact absurd ⟨_, _, _, rfl⟩ hd
      cases e : d.lits with
      | none => rw [e] at hz'; cases hz'
      | some l =>
        rw [e] at hz'
        obtain ⟨is, e2, rfl⟩ := map_some hz'
        obtain ⟨a, xs, fq, e1, h1, h2⟩ := h.lseq ok.zh e
        rw [Rs.ints h2 e2] at h1
        refine .inl ⟨a, is, by rw [e1], h1, fun ys p hp hs hn => q p _ hn ?_⟩
        rw [srt_uniq hp hs]
        exact rs_ints _

/-! ### dicts -/
def keyD : D → Option Key
  | .int i => some (.inl i)
  | .str s => some (.inr s)
  | _ => none
theorem B.key {g : G} {Z H : Hp} {d : D} {v : V} {k : Key} (h : B g Z H d v) (e : keyD d = some k) : v = kV k := by
  cases d <;> simp only [keyD] at e <;> try contradiction
  · cases e; exact h.int_eq
  · cases e; exact h.str_eq.1
def valD (ks : List Key) (l : List D) (k : Key) : Option D := ((ks.zip l).find? fun p => decide (p.1 = k)).map (·.2)
theorem valD_nil {k : Key} {l : List D} : valD [] l k = none := rfl
theorem valD_cons {k k' : Key} {ks : List Key} {d : D} {l : List D} : valD (k' :: ks) (d :: l) k = if k' = k then some d else valD ks l k := by
  unfold valD
  rw [List.zip_cons_cons, List.find?_cons]
  by_cases h : k' = k
  · simp [h]
  · simp [h]
theorem Rs.val {g : G} {Z H : Hp} {k : Key} : ∀ {kvs : List (Key × V)} {l : List D} {fq : List Addr}, Rs g Z H l (kvs.map (·.2)) fq →
    (valD (kvs.map (·.1)) l k = none ∧ valV kvs k = none) ∨ ∃ d v, valD (kvs.map (·.1)) l k = some d ∧ valV kvs k = some v ∧ B g Z H d v
  | [], l, fq, h => .inl ⟨rfl, rfl⟩
  | p :: kvs, [], fq, h => by cases h.1
  | p :: kvs, d :: l, fq, h => by
    obtain ⟨x, r, f1, f2, e1, e2, h1, h2⟩ := h
    cases e1
    rw [List.map_cons, valD_cons]
    by_cases hk : p.1 = k
    · rw [if_pos hk, valV_pos hk]
      exact .inr ⟨_, _, rfl, rfl, _, h1⟩
    · rw [if_neg hk, valV_neg hk]
      exact Rs.val h2
/-- d[k] of a dict that was made here -/
def gDGet : D → D → Option D
  | .dic _ ks l, k => (keyD k).bind (valD ks l)
  | _, _ => none
theorem cp_dget {p : Pos} {ma mb : Rho → Option (O D)} (hu : X.A.units + 1 < cLine) (ho : PE X o (cP (gx X T) W ma)) (hi : PE X idx (cP (gx X T) W mb)) (hs : NoSl idx := by exact fun _ _ => rfl) :
    PE X (.Subscript o idx p) (cP (gx X T) W (m2 gDGet ma mb)) := (pe_dget hu ho hi hs).imp fun σ H Q ⟨Z, ρ, fp, x, hm, ok, re, q⟩ => by
  refine cP.go hm ok re q.x fun x v Z1 H1 hm1 g1 ok1 re1 b1 => ?_
  refine cP.go hm1 ok1 re1 (q.mono g1).x fun y w Z2 H2 hm2 g2 ok2 re2 b2 => ?_
  obtain ⟨z, hz, rfl⟩ := ret_eq hm2
  cases x <;> simp only [gDGet] at hz <;> try contradiction
  rename_i o ks l
  cases hk : keyD y with
  | none => rw [hk] at hz; cases hz
  | some k =>
    rw [hk] at hz
    have hz : valD ks l k = some z := hz
    obtain ⟨a, kvs, fq, e1, h1, h2, h3⟩ := (b1.grow g2).dic ok2.zh
    rw [b2.key hk]
    subst h2
    rcases Rs.val (k := k) h3 with ⟨n, _⟩ | ⟨d, u, n1, n2, r⟩
    · rw [n] at hz; cases hz
    · rw [n1] at hz; cases hz
      refine ⟨a, u, e1, ?_, q u Z2 H2 (g1.trans g2) r⟩
      have := DGet.k (k := k) h1
      rwa [n2] at this
/-- k in d -/
def gDIn : D → D → Option D
  | k, .dic _ ks l => (keyD k).map fun k => .bl (valD ks l k).isSome
  | _, _ => none
def gDNotIn : D → D → Option D
  | k, .dic _ ks l => (keyD k).map fun k => .bl (!(valD ks l k).isSome)
  | _, _ => none
theorem dHas {Z H : Hp} {ks : List Key} {l : List D} {ow : Bool} {v : V} {k : Key} (ok : Ok (gx X T) Z H []) (hd : B (gx X T) Z H (.dic ow ks l) v) : ∃ a r, v = .ref a ∧ DGet H a (kV k) r ∧ r.isSome = (valD ks l k).isSome := by
  obtain ⟨a, kvs, fq, e1, h1, h2, h3⟩ := hd.dic ok.zh
  subst h2
  refine ⟨a, valV kvs k, e1, DGet.k h1, ?_⟩
  rcases Rs.val (k := k) h3 with ⟨n1, n2⟩ | ⟨d, u, n1, n2, r⟩
  · rw [n1, n2]; rfl
  · rw [n1, n2]; rfl
theorem cDIn {ma mb : Rho → Option (O D)} {σ : L2.St} {H : Hp} {Q : VK} (h : cP (gx X T) W (m2 gDIn ma mb) σ H Q) : tDIn (cP (gx X T) W ma) (cP (gx X T) W mb) σ H Q := by
  obtain ⟨Z, ρ, fp, x, hm, ok, re, q⟩ := h
  refine cP.go hm ok re q.x fun x v Z1 H1 hm1 g1 ok1 re1 b1 => ?_
  refine cP.go hm1 ok1 re1 (q.mono g1).x fun y w Z2 H2 hm2 g2 ok2 re2 b2 => ?_
  obtain ⟨z, hz, rfl⟩ := ret_eq hm2
  have hy : ∃ o ks l, y = .dic o ks l := by cases y <;> simp only [gDIn] at hz <;> first | contradiction | exact ⟨_, _, _, rfl⟩
  obtain ⟨ow, ks, l, rfl⟩ := hy
  obtain ⟨k, hk, rfl⟩ := map_some hz
  obtain ⟨a, r, e1, h1, h2⟩ := dHas (k := k) ok2.none b2
  rw [(b1.grow g2).key hk]
  exact ⟨a, r, e1, h1, by rw [h2]; exact q _ Z2 H2 (g1.trans g2) B.bl⟩
theorem cDNotIn {ma mb : Rho → Option (O D)} {σ : L2.St} {H : Hp} {Q : VK} (h : cP (gx X T) W (m2 gDNotIn ma mb) σ H Q) : tDNotIn (cP (gx X T) W ma) (cP (gx X T) W mb) σ H Q := by
  obtain ⟨Z, ρ, fp, x, hm, ok, re, q⟩ := h
  refine cP.go hm ok re q.x fun x v Z1 H1 hm1 g1 ok1 re1 b1 => ?_
  refine cP.go hm1 ok1 re1 (q.mono g1).x fun y w Z2 H2 hm2 g2 ok2 re2 b2 => ?_
  obtain ⟨z, hz, rfl⟩ := ret_eq hm2
  have hy : ∃ o ks l, y = .dic o ks l := by cases y <;> simp only [gDNotIn] at hz <;> first | contradiction | exact ⟨_, _, _, rfl⟩
  obtain ⟨ow, ks, l, rfl⟩ := hy
  obtain ⟨k, hk, rfl⟩ := map_some hz
  obtain ⟨a, r, e1, h1, h2⟩ := dHas (k := k) ok2.none b2
  rw [(b1.grow g2).key hk]
  exact ⟨a, r, e1, h1, by rw [h2]; exact q _ Z2 H2 (g1.trans g2) B.bl⟩
theorem cp_din {ma mb : Rho → Option (O D)} (hu : X.A.units + 1 < cLine) (ha : PE X a (cP (gx X T) W ma)) (hb : PE X b (cP (gx X T) W mb)) (hm : behindInMarks .In b = false := by rfl) : PE X (.Compare a [.In] [b] pos) (cP (gx X T) W (m2 gDIn ma mb)) := (pe_cmp (pc_din hu ha hb) hm).imp fun _ _ _ h => cDIn h
theorem cpt_din {ma mb : Rho → Option (O D)} (hu : X.A.units + 1 < cLine) (ha : PE X a (cP (gx X T) W ma)) (hb : PE X b (cP (gx X T) W mb)) (hm : behindInMarks .In b = false := by rfl) : PT X (.Compare a [.In] [b] pos) (cPT (gx X T) W (mT (m2 gDIn ma mb))) := (pt_cmp (pc_din hu ha hb) hm).imp fun _ _ _ h => cDIn (cT h)
theorem cp_dnotin {ma mb : Rho → Option (O D)} (hu : X.A.units + 1 < cLine) (ha : PE X a (cP (gx X T) W ma)) (hb : PE X b (cP (gx X T) W mb)) (hm : behindInMarks .NotIn b = false := by rfl) : PE X (.Compare a [.NotIn] [b] pos) (cP (gx X T) W (m2 gDNotIn ma mb)) := (pe_cmp (pc_dnotin hu ha hb) hm).imp fun _ _ _ h => cDNotIn h
theorem cpt_dnotin {ma mb : Rho → Option (O D)} (hu : X.A.units + 1 < cLine) (ha : PE X a (cP (gx X T) W ma)) (hb : PE X b (cP (gx X T) W mb)) (hm : behindInMarks .NotIn b = false := by rfl) : PT X (.Compare a [.NotIn] [b] pos) (cPT (gx X T) W (mT (m2 gDNotIn ma mb))) := (pt_cmp (pc_dnotin hu ha hb) hm).imp fun _ _ _ h => cDNotIn (cT h)

/-! written dicts -/
def gXGet : D → D → Option D
  | .xdc ks l, .str z => ((ks.zip l).find? fun p => decide (p.1 = z)).map (·.2)
  | _, _ => none
theorem XDc.val {g : G} {Z H : Hp} {a : Addr} {ks : List Str} {xs : List V} {l : List D} {fq : List Addr} (h : XDc g a ks xs) (r : Rs g Z H l xs fq) (z : Str) : ∃ u, PySem.W.nsIn g.K a z = some u ∧
    ((u = none ∧ ((ks.zip l).find? fun p => decide (p.1 = z)) = none) ∨ ∃ d v u', u = some u' ∧ (((ks.zip l).find? fun p => decide (p.1 = z)).map (·.2)) = some d ∧ RelV v u' ∧ B g Z H d v) := by
  obtain ⟨_, hl, hz⟩ := h
  obtain ⟨u, e, ro⟩ := hz z
  refine ⟨u, e, ?_⟩
  have key : ∀ (ks : List Str) (xs : List V) (l : List D) (fq : List Addr), ks.length = xs.length → Rs g Z H l xs fq → (valV (ks.zip xs) z = none ∧ ((ks.zip l).find? fun p => decide (p.1 = z)) = none) ∨ ∃ d v, valV (ks.zip xs) z = some v ∧ (((ks.zip l).find? fun p => decide (p.1 = z)).map (·.2)) = some d ∧ B g Z H d v := by
    intro ks
    induction ks with
    | nil => exact fun xs l fq _ _ => .inl ⟨rfl, rfl⟩
    | cons k ks ih =>
      intro xs l fq hl r
      cases xs with
      | nil => cases hl
      | cons x xs =>
        cases l with
        | nil => cases r.1
        | cons d l =>
          obtain ⟨x', r', f1, f2, e1, e2, h1, h2⟩ := r
          cases e1
          rw [List.zip_cons_cons, List.zip_cons_cons, List.find?_cons]
          by_cases hk : k = z
          · rw [valV_pos (p := (k, x)) hk]
            exact .inr ⟨d, x, rfl, by simp [hk], _, h1⟩
          · rw [valV_neg (p := (k, x)) hk]
            simp only [hk, decide_false]
            exact ih xs l f2 (by simpa using hl) h2
  rcases key ks xs l fq hl r with ⟨n1, n2⟩ | ⟨d, v, n1, n2, b⟩
  · rw [n1] at ro
    cases u with
    | none => exact .inl ⟨rfl, n2⟩
    | some u => exact ro.elim
  · rw [n1] at ro
    cases u with
    | none => exact ro.elim
    | some u => exact .inr ⟨d, v, u, rfl, n2, ro, b⟩
theorem pr_xget : PR2 (gx X T) (rIxD X.K X.w) gXGet := fun Z H d e v w z ok hd he hz Q q => by
  cases d <;> simp only [gXGet] at hz <;> try contradiction
  cases e <;> simp only [gXGet] at hz <;> try contradiction
  rename_i ks l s
  obtain ⟨fq, _, a, xs, e1, hx, hr⟩ := hd
  obtain ⟨u, h1, h2⟩ := hx.val hr s
  rcases h2 with ⟨_, n⟩ | ⟨d', v', u', rfl, n2, rv, b⟩
  · rw [n] at hz; cases hz
  · rw [n2] at hz; cases hz
    obtain ⟨⟨es, n, KD⟩, _⟩ := hx
    exact ⟨a, s, v', e1, he.str_eq.1, ⟨es, n, u', KD.at_, KD.lit, h1, rv⟩, q _ Z H (Grw.refl ok) b⟩
theorem cp_xget {p : Pos} {ma mb : Rho → Option (O D)} (ha : PE X a (cP (gx X T) W ma)) (hb : PE X b (cP (gx X T) W mb)) (hs : PlainIx b := by exact fun _ _ => rfl) : PE X (.Subscript a b p) (cP (gx X T) W (m2 gXGet ma mb)) := (pe_ix ix_kdict ha hb hs).imp fun _ _ _ h => c2 pr_xget h
def rXIn (X : Cx) (b : Bool) : R2 := fun x y H Q => ∃ (d : Addr) (es : Array DictEntry) (n : Nat) (z : Str) (r : Option Value), KDict X.K X.w d es n ∧ x = .str z ∧ y = .ref d ∧ PySem.W.nsIn X.K d z = some r ∧ Q (.bl (b != r.isSome)) H
theorem op_xin : OpR X (compareOp .In) (rXIn X false) := fun pins s σ H x y v u Q I rx ry ⟨d, es, n, z, r, KD, h1, h2, h3, q⟩ => op_in_kd KD pins s σ H x y v u Q I rx ry ⟨z, r, h1, h2, h3, by simpa using q⟩
theorem op_xnotin : OpR X (compareOp .NotIn) (rXIn X true) := fun pins s σ H x y v u Q I rx ry ⟨d, es, n, z, r, KD, h1, h2, h3, q⟩ => op_notIn_kd KD pins s σ H x y v u Q I rx ry ⟨z, r, h1, h2, h3, by simpa using q⟩
def gXIn (n : Bool) : D → D → Option D
  | .str z, .xdc ks l => some (.bl (n != ((ks.zip l).find? fun p => decide (p.1 = z)).isSome))
  | _, _ => none
theorem pr_xin {n : Bool} : PR2 (gx X T) (rXIn X n) (gXIn n) := fun Z H d e v w z ok hd he hz Q q => by
  cases d <;> simp only [gXIn] at hz <;> try contradiction
  cases e <;> simp only [gXIn] at hz <;> try contradiction
  rename_i s ks l
  cases hz
  obtain ⟨fq, _, a, xs, e1, hx, hr⟩ := he
  obtain ⟨u, h1, h2⟩ := hx.val hr s
  obtain ⟨⟨es, m, KD⟩, _⟩ := id hx
  refine ⟨a, es, m, s, u, KD, hd.str_eq.1, e1, h1, ?_⟩
  have : u.isSome = ((ks.zip l).find? fun p => decide (p.1 = s)).isSome := by
    rcases h2 with ⟨rfl, n⟩ | ⟨d', v', u', rfl, n2, rv, b⟩
    · rw [n]; rfl
    · cases q : (ks.zip l).find? fun p => decide (p.1 = s) with
      | none => rw [q] at n2; cases n2
      | some _ => rfl
  rw [this]
  exact q _ Z H (Grw.refl ok) B.bl
end
end OP

/-! ON: dicts in slots -/
namespace OP
open PySem PySem.Spec PyProof.Rows L2
def putD : List Key → List D → Key → D → List Key × List D
  | k' :: ks, d' :: l, k, d => if k' = k then (k' :: ks, d :: l) else ((putD ks l k d).map (k' :: ·) (d' :: ·))
  | _, _, k, d => ([k], [d])
section
variable {g : G} {Z H : Hp}
theorem Rs.putKey {k : Key} {d : D} {v : V} {fd : List Addr} : ∀ {kvs : List (Key × V)} {l : List D} {fr : List Addr}, Rs g Z H l (kvs.map (·.2)) fr → (kvs.map (·.1)).Nodup → R g Z H d v fd →
    ∃ f' rest, (putK kvs k v).map (·.1) = (putD (kvs.map (·.1)) l k d).1 ∧ Rs g Z H (putD (kvs.map (·.1)) l k d).2 ((putK kvs k v).map (·.2)) f' ∧ (fr ++ fd).Perm (f' ++ rest)
  | kvs, l, fr, h, nd, r => by
    -- by induction on the entries, told for "there" and "not there"
    have core : ∀ (kvs : List (Key × V)) (l : List D) (fr : List Addr), Rs g Z H l (kvs.map (·.2)) fr → (kvs.map (·.1)).Nodup →
        (valV kvs k = none ∧ (putD (kvs.map (·.1)) l k d).1 = kvs.map (·.1) ++ [k] ∧ (putD (kvs.map (·.1)) l k d).2 = l ++ [d]) ∨
        (∃ u, valV kvs k = some u ∧ (putD (kvs.map (·.1)) l k d).1 = kvs.map (·.1) ∧ ∃ f' rest, Rs g Z H (putD (kvs.map (·.1)) l k d).2 ((kvs.map fun kv => if kv.1 = k then (kv.1, v) else kv).map (·.2)) f' ∧ (fr ++ fd).Perm (f' ++ rest)) := by
      intro kvs
      induction kvs with
      | nil =>
        intro l fr h _
        cases l with
        | nil => exact .inl ⟨rfl, rfl, rfl⟩
        | cons d0 l => obtain ⟨x, r0, f1, f2, e1, _⟩ := h; cases e1
      | cons p kvs ih =>
        intro l fr h nd
        cases l with
        | nil => cases h.1
        | cons d0 l =>
          obtain ⟨x, r0, f1, f2, e1, e2, h1, h2⟩ := h
          cases e1
          rw [List.map_cons, List.nodup_cons] at nd
          by_cases hk : p.1 = k
          · rw [valV_pos hk]
            refine .inr ⟨_, rfl, by simp [putD, hk], fd ++ f2, f1, ?_, ?_⟩
            · have hid : (kvs.map fun kv => if kv.1 = k then (kv.1, v) else kv) = kvs := by
                conv => rhs; rw [← List.map_id kvs]
                refine List.map_congr_left fun q hq => ?_
                have : ¬ q.1 = k := fun z => nd.1 (by rw [hk, ← z]; exact List.mem_map_of_mem hq)
                simp [this]
              have : (putD ((p :: kvs).map (·.1)) (d0 :: l) k d).2 = d :: l := by simp [putD, hk]
              rw [this, List.map_cons, List.map_cons, if_pos hk, hid]
              exact ⟨v, _, fd, f2, rfl, rfl, r, h2⟩
            · rw [e2]
              exact List.perm_iff_count.mpr fun b => by
                simp only [List.count_append]
                omega
          · rw [valV_neg hk]
            rcases ih l f2 h2 nd.2 with ⟨n1, n2, n3⟩ | ⟨u, n1, n2, f', rest, n3, n4⟩
            · refine .inl ⟨n1, ?_, ?_⟩
              · simp only [List.map_cons, putD, if_neg hk, Prod.map, n2]; rfl
              · simp only [List.map_cons, putD, if_neg hk, Prod.map, n3]; rfl
            · refine .inr ⟨u, n1, ?_, f1 ++ f', rest, ?_, ?_⟩
              · simp only [List.map_cons, putD, if_neg hk, Prod.map, n2]
              · have : (putD ((p :: kvs).map (·.1)) (d0 :: l) k d).2 = d0 :: (putD (kvs.map (·.1)) l k d).2 := by simp only [List.map_cons, putD, if_neg hk, Prod.map]
                rw [this, List.map_cons, List.map_cons, if_neg hk]
                exact ⟨_, _, f1, f', rfl, rfl, h1, n3⟩
              · rw [e2, List.append_assoc, List.append_assoc]
                exact List.Perm.append_left f1 n4
    rcases core kvs l fr h nd with ⟨n1, n2, n3⟩ | ⟨u, n1, n2, f', rest, n3, n4⟩
    · rw [putK_new v n1, n2, n3]
      refine ⟨fr ++ fd, [], by simp, ?_, by simp⟩
      rw [List.map_append]
      exact Rs.app h ⟨v, [], fd, [], rfl, by simp, r, rfl, rfl⟩
    · have hp : putK kvs k v = kvs.map fun kv => if kv.1 = k then (kv.1, v) else kv := by
        have := valV_any k kvs
        rw [n1] at this
        unfold putK
        rw [this]
        rfl
      rw [hp, n2]
      refine ⟨f', rest, ?_, n3, n4⟩
      rw [List.map_map]
      refine List.map_congr_left fun q _ => ?_
      show (if q.1 = k then (q.1, v) else q).1 = q.1
      split <;> rfl
theorem slot_dic {ρ : Rho} {σ : L2.St} {fe fd : List Addr} {i : Nat} {ks : List Key} {l : List D} (re : RE g Z H ρ σ fe) (k : Ok g Z H (fe ++ fd)) (hi : ρ[i]? = some (some (.dic true ks l))) :
    ∃ a kvs fr, σ[i]? = some (some (.ref a)) ∧ H a = some (.dK kvs) ∧ kvs.map (·.1) = ks ∧ Rs g Z H l (kvs.map (·.2)) fr ∧
      ∀ ks' l' (kvs' : List (Key × V)) f' fr', kvs'.map (·.1) = ks' → Rs g Z H l' (kvs'.map (·.2)) f' → (fr ++ fd).Perm (f' ++ fr') →
        ∃ fe', Stp g Z H (fe ++ fd) Z (upd H a (.dK kvs')) (fe' ++ fr') ∧ RE g Z (upd H a (.dK kvs')) (ρ.set i (some (.dic true ks' l'))) σ fe' := by
  obtain ⟨y, f1, fi, f2, h1, h2, ⟨v, e1, r⟩, ex⟩ := re.at hi
  obtain ⟨a, kvs, fr, e2, e3, h3, hk, h4⟩ := r
  subst e1 e2 e3 h2
  obtain ⟨n1, n2, n3⟩ := nodup_mid k.nd
  refine ⟨a, kvs, fr, h1, h3, hk, h4, fun ks' l' kvs' f' fr' hk' r' p => ?_⟩
  have hm : a ∈ f1 ++ (a :: fr) ++ f2 ++ fd := by simp
  have sw := Stp.write k hm h3 (fun ps z => by cases z) (o := .dK kvs') (fun ps z => by cases z) (fun c q z => by unfold LamX.CodeO at z; cases z)
  have na : a ∉ f' := fun z => by
    have : a ∈ fr ++ fd := p.mem_iff.mpr (by simp [z])
    rcases List.mem_append.mp this with q | q
    · exact n2 q
    · exact n3 q
  have r2 : Rs g Z (upd H a (.dK kvs')) l' (kvs'.map (·.2)) f' := Rs.mono (Sub.refl _) (upd_other na) r'
  refine ⟨f1 ++ (a :: f') ++ f2, sw.permR ?_, ?_⟩
  · have p' := fun b => (List.perm_iff_count.mp p) b
    exact List.perm_iff_count.mpr fun b => by
      have := p' b
      simp only [List.count_append, List.count_cons] at this ⊢
      omega
  · have := ex Z (upd H a (.dK kvs')) (some (.dic true ks' l')) (some (.ref a)) (a :: f') (Sub.refl _) (upd_other n1) ⟨_, rfl, a, kvs', f', rfl, rfl, upd_same, hk', r2⟩
    rw [set_self h1] at this
    exact this
end
def ownD (ρ : Rho) (i : Nat) : Option (List Key × List D) := match ρ[i]? with
  | some (some (.dic true ks l)) => some (ks, l)
  | _ => none
theorem ownD_eq {ρ : Rho} {i : Nat} {ks : List Key} {l : List D} (h : ownD ρ i = some (ks, l)) : ρ[i]? = some (some (.dic true ks l)) := by
  unfold ownD at h
  split at h
  · rename_i ks' l' e
    cases h
    exact e
  · cases h
section
variable {X : Cx} {T : List (Addr × Str)} {W : WX} {J : Nat → Prop} {e o idx a b c : Expr} {es : List Expr} {pos : Pos}
/-- x[k] = e, x a dict of one's own -/
def sSetD (i : Nat) (mk : Rho → Option (O D)) (m : ME) : MS := fun ρ => bE (m ρ) fun d ρ1 => match mk ρ1 with
  | some (.ok y) => match keyD y, ownD ρ1 i with
    | some k, some (ks, l) => if ks.length < 16777216 ∧ ks.Nodup then some (.ok .nx, ρ1.set i (some (.dic true (putD ks l k d).1 (putD ks l k d).2))) else none
    | _, _ => none
  | _ => none
theorem cs_setD {i : Nat} {mk : Rho → Option (O D)} {m : ME} {p2 : Pos} (hu : X.A.units + 1 < cLine) (ho : PE X o (tVar i)) (hi : PE X idx (cP (gx X T) W mk)) (he : PE X e (cE (gx X T) W m))
    (hs : swapsWith e (some (.Subscript o idx p2)) pos.line X.env = pure false := by rfl) : PS X (.Assign [.Subscript o idx p2] e pos) (cS (gx X T) J W (sSetD i mk m)) :=
  (ps_dput hu ho hi he hs).imp fun DD σ H ⟨Z, ρ, fp, x, hm, ok, re, q⟩ => by
  refine cE.go hm ok re q.x fun d v ρ1 Z1 H1 fe fd hm1 s1 re1 r1 => ?_
  split at hm1
  · rename_i y hy
    split at hm1
    · rename_i k ks l hk hl
      split at hm1
      · rename_i c
        cases Option.some.inj hm1
        obtain ⟨a, kvs, fr, g1, _, _, _, _⟩ := slot_dic re1 s1.ok (ownD_eq hl)
        refine ⟨.ref a, g1, Z1, ρ1, fe, _, hy, s1.drop.ok, re1, fun u Z2 H2 g2 b2 => ?_⟩
        have ok2 := Grw.ok g2 s1.ok
        have re2 := re1.grow g2
        obtain ⟨b, kvs, fr2, g3, g4, gk, g5, g6⟩ := slot_dic re2 ok2 (ownD_eq hl)
        rw [g1] at g3
        cases g3
        subst gk
        obtain ⟨f', rest, a1, a2, a3⟩ := Rs.putKey (k := k) g5 c.2 (r1.grow g2)
        obtain ⟨fe', s3, re3⟩ := g6 _ _ _ f' rest a1 a2 a3
        rw [b2.key hk]
        refine ⟨a, _, rfl, DPut.k g4 (by rw [sizeLine_eq]; simpa using c.1), q σ _ _ fe' Kp.refl ((s1.trans (Grw.stp g2 s1.ok)).trans s3).drop re3⟩
      · cases hm1
    · cases hm1
  · cases hm1
/-- {} -/
def eDic0 : ME := fun ρ => some (.ok (.dic true [] []), ρ)
theorem ce_dnew : PE X (.Dict [] [] pos) (cE (gx X T) W eDic0) := pe_dnewK.imp fun σ H Q ⟨Z, ρ, fp, x, hm, ok, re, q⟩ p hp => by
  cases Option.some.inj hm
  have np : p ∉ fp := fun z => ok.hf p z (Nt.none hp)
  have s3 := Stp.newO ok hp (o := .dK []) (fun ps z => by cases z)
  exact q _ _ _ fp [p] (s3.permR (List.perm_append_comm (l₁ := [p]) (l₂ := fp))) (RE.mono (Sub.refl _) (upd_other np) re) ⟨p, [], [], rfl, rfl, upd_same, rfl, rfl, rfl⟩
/-- {'a': 1, ..}: written keys and values -/
def eDisp (kds : List (Key × D)) : ME := fun ρ => some (.ok (.dic true (kds.map (·.1)) (kds.map (·.2))), ρ)
def flatVs : List (Key × D) → Option (List (Key × V))
  | [] => some []
  | (k, d) :: r => match d.flat, flatVs r with
    | some v, some vs => some ((k, v) :: vs)
    | _, _ => none
def trsOf (kvs : List (Key × V)) : List (TE × TE) := kvs.map fun p => (tC (kV p.1), tC p.2)
theorem trs_pairs {σ : L2.St} {H : Hp} {R : List (V × V) → Hp → Prop} : ∀ kvs : List (Key × V), R (kvs.map fun kv => (kV kv.1, kv.2)) H → tPairs (trsOf kvs) σ H R
  | [], h => h
  | p :: kvs, h => trs_pairs (R := fun r H' => R ((kV p.1, p.2) :: r) H') kvs h
theorem flat_rs {g : G} {Z H : Hp} : ∀ {kds : List (Key × D)} {kvs : List (Key × V)}, flatVs kds = some kvs → kvs.map (·.1) = kds.map (·.1) ∧ ((kds.all fun p => match p.2 with | .str s => decide (s.length ≤ 16777216) | _ => true) = true → Rs g Z H (kds.map (·.2)) (kvs.map (·.2)) [])
  | [], kvs, h => by cases h; exact ⟨rfl, fun _ => ⟨rfl, rfl⟩⟩
  | (k, d) :: r, kvs, h => by
    unfold flatVs at h
    split at h
    · rename_i v vs e1 e2
      cases h
      obtain ⟨i1, i2⟩ := flat_rs (g := g) (Z := Z) (H := H) e2
      refine ⟨by simp [i1], fun ha => ?_⟩
      rw [List.all_cons, Bool.and_eq_true] at ha
      refine ⟨v, vs.map (·.2), [], [], rfl, rfl, ?_, i2 ha.2⟩
      cases d <;> simp only [D.flat] at e1 <;> try contradiction
      · cases e1; exact ⟨rfl, rfl⟩
      · cases e1; exact ⟨rfl, rfl⟩
      · cases e1; exact ⟨rfl, rfl⟩
      · cases e1; exact ⟨⟨rfl, by simpa using ha.1⟩, rfl⟩
    · cases h
theorem merge_id : ∀ (more kvs : List (Key × V)), ((kvs ++ more).map (·.1)).Nodup → mergeK kvs more = kvs ++ more
  | [], kvs, h => by simp [mergeK]
  | p :: r, kvs, h => by
    have hn : valV kvs p.1 = none := by
      have := valV_any p.1 kvs
      cases hv : valV kvs p.1 with
      | none => rfl
      | some u =>
        rw [hv] at this
        obtain ⟨z, hz, e⟩ := List.any_eq_true.mp this
        rw [List.map_append] at h
        have hd := (List.nodup_append.mp h).2.2 z.1 (List.mem_map_of_mem hz) p.1 (by simp)
        exact absurd (by simpa using e) hd
    show List.foldl _ (putK kvs p.1 p.2) r = _
    rw [putK_new _ hn]
    have := merge_id r (kvs ++ [p]) (by rw [List.append_assoc]; exact h)
    rw [List.append_assoc] at this
    exact this
theorem ce_disp {keys : List (Option Expr)} {values : List Expr} {kds : List (Key × D)} {kvs : List (Key × V)} (hf : flatVs kds = some kvs) (h : PPs X pos keys values (trsOf kvs)) (hall : keys.all (·.isSome) = true) (hl : keys.length = values.length) (h0 : keys ≠ []) (h15 : keys.length ≤ 15) (h15' : kvs.length ≤ 15) (nd : (kvs.map (·.1)).Nodup)
    (ha : (kds.all fun p => match p.2 with | .str s => decide (s.length ≤ 16777216) | _ => true) = true) : PE X (.Dict keys values pos) (cE (gx X T) W (eDisp kds)) := (pe_disp h hall hl h0 h15).imp fun σ H Q ⟨Z, ρ, fp, x, hm, ok, re, q⟩ p hp => by
  cases Option.some.inj hm
  refine trs_pairs kvs ⟨upd_same, kvs, rfl, h15', ?_⟩
  rw [merge_id kvs [] nd, upd_upd]
  have np : p ∉ fp := fun z => ok.hf p z (Nt.none hp)
  have s3 := Stp.newO ok hp (o := .dK kvs) (fun ps z => by cases z)
  obtain ⟨i1, i2⟩ := flat_rs (g := gx X T) (Z := Z) (H := upd H p (.dK kvs)) hf
  exact q _ _ _ fp [p] (s3.permR (List.perm_append_comm (l₁ := [p]) (l₂ := fp))) (RE.mono (Sub.refl _) (upd_other np) re) ⟨p, kvs, [], rfl, rfl, upd_same, i1, i2 ha⟩
end
end OP

/-! OQ: defs by name -/
namespace OP
open PySem PySem.Spec PyProof.Rows L2
/-- a def of the text stands under its name -/
def FnIn (K : PySem.W.Frag) (mg : Str → Option Value) (x : Str) (st : Stmt) (ps : List Str) : Prop := ∃ f fd, mg x = some (.ref f) ∧ Fun K x x st f fd ∧ Binds K fd ps []
structure PmO (P : Program) (w : World) (K : PySem.W.Frag) (mg : Str → Option Value) (base : Heap) (T : List (Addr × Str)) (x : Str) (lv n k : Nat) (den : Den) : Prop where
  ex : ∃ (f : Addr) (fd : FuncData) (ps : List Str), mg x = some (.ref f) ∧ PySem.W.keepIn K (.ref f) = true ∧ Binds K fd ps [] ∧ FnOk P w K mg base (L2.CX P w) lv f fd ps (spD ⟨K, mg, T, w⟩ n k den)
structure PmG (P : Program) (w : World) (K : PySem.W.Frag) (mg : Str → Option Value) (base : Heap) (T : List (Addr × Str)) (x : Str) (lv n k : Nat) (den : Den) : Prop where
  ex : ∃ (f : Addr) (fd : FuncData) (ps : List Str), mg x = some (.ref f) ∧ PySem.W.keepIn K (.ref f) = true ∧ Binds K fd ps [] ∧ FnG P w K mg base (L2.CX P w) lv f fd ps (spD ⟨K, mg, T, w⟩ n k den)
section
variable {P : Program} {w : World} {K : PySem.W.Frag} {mg : Str → Option Value} {base : Heap} {T : List (Addr × Str)} {x : Str} {lv n k : Nat} {den : Den}
theorem PmO.g (h : PmO P w K mg base T x lv n k den) : PmG P w K mg base T x lv n k den := let ⟨f, fd, ps, a, b, c, F⟩ := h.ex; ⟨f, fd, ps, a, b, c, .of F⟩
theorem PmO.mono {lv' : Nat} (h : PmO P w K mg base T x lv n k den) (hl : lv ≤ lv') : PmO P w K mg base T x lv' n k den := let ⟨f, fd, ps, a, b, c, F⟩ := h.ex; ⟨f, fd, ps, a, b, c, F.mono hl⟩
theorem PmG.mono {lv' : Nat} (h : PmG P w K mg base T x lv n k den) (hl : lv ≤ lv') : PmG P w K mg base T x lv' n k den := let ⟨f, fd, ps, a, b, c, F⟩ := h.ex; ⟨f, fd, ps, a, b, c, F.mono hl⟩
theorem PmO.sub {den' : Den} (h : PmO P w K mg base T x lv n k den) (hd : ∀ ds y, den' ds = some y → den ds = some y) : PmO P w K mg base T x lv n k den' := let ⟨f, fd, ps, a, b, c, F⟩ := h.ex; ⟨f, fd, ps, a, b, c, F.den hd⟩
theorem pmO_of {st : Stmt} {N ps : List Str} {mb : MS} (hf : FnIn K mg x st ps) (S : FnScope N ps (defScope st)) (hk : k ≤ ps.length)
    (hb : ∀ (f : Addr) (cdv : Value) (A : Around) (outer : List PySem.Env) (s : Shared) (H : Hp) (E : XK), Room lv (A.deeper (envOfC x (defScope st) s.heap.objs.size f cdv)) →
      PSs (cxOf (L2.CX P w) P w K mg base N x (defScope st) f cdv A outer s H E) (defBody st) (cS ⟨K, mg, T, w⟩ (fun i => i < k) (WB E) mb)) : PmO P w K mg base T x (lv + 1) ps.length k (denOf N.length k mb) :=
  let ⟨f, fd, a, F, c⟩ := hf; ⟨f, fd, ps, a, F.kp, c, den_ok F S hk (hb f)⟩
theorem pmG_of {st : Stmt} {N ps : List Str} {mb : MS} (hf : FnIn K mg x st ps) (S : FnScope N ps (defScope st)) (hk : k ≤ ps.length)
    (hb : ∀ (f : Addr) (cdv : Value) (A : Around) (outer : List PySem.Env) (s : Shared) (H : Hp) (E : XK), A.guards = some [] → Room lv (A.deeper (envOfC x (defScope st) s.heap.objs.size f cdv)) →
      PSs (cxOf (L2.CX P w) P w K mg base N x (defScope st) f cdv A outer s H E) (defBody st) (cS ⟨K, mg, T, w⟩ (fun i => i < k) (WB E) mb)) : PmG P w K mg base T x (lv + 1) ps.length k (denOf N.length k mb) :=
  let ⟨f, fd, a, F, c⟩ := hf; ⟨f, fd, ps, a, F.kp, c, den_okG F S hk (hb f)⟩
end
/-- a name of the module stands for data -/
def GD (g : G) (x : Str) (d : D) : Prop := ∃ u v, g.mg x = some u ∧ RelV v u ∧ ∀ Z H, R g Z H d v []
section
variable {X : Cx} {T : List (Addr × Str)} {W : WX} {lv n i : Nat} {den : Den} {x : Str} {p pos : Pos} {e b : Expr} {es : List Expr} {d : D}
theorem cp_glob (c : GD (gx X T) x d) (hg : Gl X x := by rfl) (hd : (x == ("__debug__" : Str)) = false := by decide) : PE X (.Name x p) (cP (gx X T) W (mC d)) := let ⟨u, v, a, r, h⟩ := c; cp_lit (pe_glob hg a r hd) h
theorem cq_def {ma : Rho → Option (O (List D))} (F : PmO X.prog X.w X.K X.mg X.base T x lv n 0 den) (hr : Room lv X.A) (hx : ∀ σ, PassesAt (L2.CX X.prog X.w) X σ (WE W σ)) (ha : PA X (e :: es) (cPA (gx X T) W ma)) (hg : Gl X x := by rfl) (hdb : (x == ("__debug__" : Str)) = false := by decide)
    (he : starEach (e :: es) X.env = (false, eval e X.env) :: starEach es X.env := by rfl) (hpl : (backTo pos (starEach es X.env)).any (·.1) = false := by rfl) : PE X (.Call (.Name x p) (e :: es) [] pos) (cP (gx X T) W (mDef n den ma)) := let ⟨f, fd, ps, m, k, b, F⟩ := F.ex; cp_def F hr hg m k b hx ha hdb he hpl
theorem cq_defE {ma : MEA} (F : PmO X.prog X.w X.K X.mg X.base T x lv n 0 den) (hr : Room lv X.A) (hx : ∀ σ, PassesAt (L2.CX X.prog X.w) X σ (WE W σ)) (ha : PA X (e :: es) (cEA (gx X T) W ma)) (hg : Gl X x := by rfl) (hdb : (x == ("__debug__" : Str)) = false := by decide)
    (he : starEach (e :: es) X.env = (false, eval e X.env) :: starEach es X.env := by rfl) (hpl : (backTo pos (starEach es X.env)).any (·.1) = false := by rfl) : PE X (.Call (.Name x p) (e :: es) [] pos) (cE (gx X T) W (eDef n den ma)) := let ⟨f, fd, ps, m, k, b, F⟩ := F.ex; ce_def F hr hg m k b hx ha hdb he hpl
theorem cq_def1 {ma : MEA} (F : PmO X.prog X.w X.K X.mg X.base T x lv n 1 den) (hr : Room lv X.A) (hx : ∀ σ, PassesAt (L2.CX X.prog X.w) X σ (WE W σ)) (hb0 : PE X b (tVar i)) (ha : PA X es (cEA (gx X T) W ma)) (hg : Gl X x := by rfl) (hdb : (x == ("__debug__" : Str)) = false := by decide)
    (he : starEach (b :: es) X.env = (false, eval b X.env) :: starEach es X.env := by rfl) (hpl : (backTo pos (starEach es X.env)).any (·.1) = false := by rfl) : PE X (.Call (.Name x p) (b :: es) [] pos) (cE (gx X T) W (eHeld i (eDef1 n den i ma))) := let ⟨f, fd, ps, m, k, b, F⟩ := F.ex; ce_def1 F hr hg m k b hx hb0 ha hdb he hpl
theorem cq_defG {ma : Rho → Option (O (List D))} (F : PmG X.prog X.w X.K X.mg X.base T x lv n 0 den) (hG : X.A.guards = some []) (hr : Room lv X.A) (hx : ∀ σ, PassesAt (L2.CX X.prog X.w) X σ (WE W σ)) (ha : PA X (e :: es) (cPA (gx X T) W ma)) (hg : Gl X x := by rfl) (hdb : (x == ("__debug__" : Str)) = false := by decide)
    (he : starEach (e :: es) X.env = (false, eval e X.env) :: starEach es X.env := by rfl) (hpl : (backTo pos (starEach es X.env)).any (·.1) = false := by rfl) : PE X (.Call (.Name x p) (e :: es) [] pos) (cP (gx X T) W (mDef n den ma)) := let ⟨f, fd, ps, m, k, b, F⟩ := F.ex; cp_defG F hG hr hg m k b hx ha hdb he hpl
theorem cq_defEG {ma : MEA} (F : PmG X.prog X.w X.K X.mg X.base T x lv n 0 den) (hG : X.A.guards = some []) (hr : Room lv X.A) (hx : ∀ σ, PassesAt (L2.CX X.prog X.w) X σ (WE W σ)) (ha : PA X (e :: es) (cEA (gx X T) W ma)) (hg : Gl X x := by rfl) (hdb : (x == ("__debug__" : Str)) = false := by decide)
    (he : starEach (e :: es) X.env = (false, eval e X.env) :: starEach es X.env := by rfl) (hpl : (backTo pos (starEach es X.env)).any (·.1) = false := by rfl) : PE X (.Call (.Name x p) (e :: es) [] pos) (cE (gx X T) W (eDef n den ma)) := let ⟨f, fd, ps, m, k, b, F⟩ := F.ex; ce_defG F hG hr hg m k b hx ha hdb he hpl
theorem cq_def1G {ma : MEA} (F : PmG X.prog X.w X.K X.mg X.base T x lv n 1 den) (hG : X.A.guards = some []) (hr : Room lv X.A) (hx : ∀ σ, PassesAt (L2.CX X.prog X.w) X σ (WE W σ)) (hb0 : PE X b (tVar i)) (ha : PA X es (cEA (gx X T) W ma)) (hg : Gl X x := by rfl) (hdb : (x == ("__debug__" : Str)) = false := by decide)
    (he : starEach (b :: es) X.env = (false, eval b X.env) :: starEach es X.env := by rfl) (hpl : (backTo pos (starEach es X.env)).any (·.1) = false := by rfl) : PE X (.Call (.Name x p) (b :: es) [] pos) (cE (gx X T) W (eHeld i (eDef1 n den i ma))) := let ⟨f, fd, ps, m, k, b, F⟩ := F.ex; ce_def1G F hG hr hg m k b hx hb0 ha hdb he hpl
theorem cq_fn {st : Stmt} {ps : List Str} (F : FnIn X.K X.mg x st ps) (hg : Gl X x := by rfl) (hd : (x == ("__debug__" : Str)) = false := by decide) : PE X (.Name x p) (cP (gx X T) W (mC (.fn x))) := let ⟨f, fd, m, _⟩ := F; cp_fn hg m hd
/-- a call of the def that the i-th slot holds -/
def mCallL (i n : Nat) (S : Str → Option Den) (ma : Rho → Option (O (List D))) : Rho → Option (O D) := fun ρ => match (ρ[i]?).join with
  | some (.fn y) => match S y with
    | some den => mDef n den ma ρ
    | none => none
  | _ => none
theorem cq_callL {S : Str → Option Den} {ma : Rho → Option (O (List D))} (F : ∀ y den, S y = some den → PmO X.prog X.w X.K X.mg X.base T y lv n 0 den) (hr : Room lv X.A) (hx : ∀ σ, PassesAt (L2.CX X.prog X.w) X σ (WE W σ)) (hv : PE X (.Name x p) (tVar i)) (ha : PA X (e :: es) (cPA (gx X T) W ma))
    (he : starEach (e :: es) X.env = (false, eval e X.env) :: starEach es X.env := by rfl) (hpl : (backTo pos (starEach es X.env)).any (·.1) = false := by rfl) : PE X (.Call (.Name x p) (e :: es) [] pos) (cP (gx X T) W (mCallL i n S ma)) := by
  refine ⟨fun pins s σ H Q I ⟨Z, ρ, fp, o, hm, ok, re, q⟩ => ?_⟩
  unfold mCallL at hm
  split at hm
  · rename_i y hy
    split at hm
    · rename_i den hS
      obtain ⟨z, f1, fi, f2, h1, h2, ⟨v, e1, r⟩, ex⟩ := re.at (join_eq hy)
      obtain ⟨⟨f, e2, m⟩, _⟩ := r
      subst e1 e2
      obtain ⟨f', fd, ps, m', kp, bd, F'⟩ := (F y den hS).ex
      have m : X.mg y = some (.ref f) := m
      rw [m] at m'
      cases m'
      refine wpAny_Call_Name_kw (thn (hv.run pins s σ H (fun v H1 => v = .ref f ∧ H1 = H) I ⟨.ref f, h1, rfl, rfl⟩) fun u s1 ⟨v, H1, I1, r1, q1⟩ => ?_)
      obtain ⟨rfl, rfl⟩ := q1
      cases r1
      have tt := mDef_reads (n := n) (den := den) (ma := ma) (X := X) (T := T) (W := W) (σ := σ) (H := H1) (Q := Q) ⟨Z, ρ, fp, o, hm, ok, re, q⟩
      exact PySem.W.callWith_K (h₀ := X.base) I1.ok.mod.kin kp (thn (ha.run pos pins s1 σ H1 _ I1 tt) fun us s2 ⟨vs, H2, I2, r2, q2⟩ => ⟨I2.kIn, run_fnS F' hr bd (hx σ) I2 r2 q2⟩) he hpl
    · cases hm
  · cases hm
end
end OP

/-! OR: own errors by name, built-ins with owned arguments, split, join, [::-1] -/
namespace OP
open PySem PySem.Spec PyProof.Rows L2
def FUEL : Nat := 1000000000000
def fAbs : List D → Option D := fun ds => match ds with | [.int i] => some (.int (if i < 0 then -i else i)) | _ => none
/-- an own error without a further __init__ stands under its name -/
structure XcIn (K : PySem.W.Frag) (mg : Str → Option Value) (x : Str) : Prop where
  ex : ∃ (C : Addr) (bmB : List Value) (B newId initId : String), mg x = some (.ref C) ∧ ExcBaseFacts B newId initId bmB ∧ PySem.W.excIn K C bmB newId = true ∧ PySem.W.keepIn K (.ref C) = true ∧
    PySem.W.subIn K (.ref C) (.type "BaseException") = some true ∧ PySem.W.typeIn K (.ref C) = some (.type "type") ∧ PySem.W.exmOne K (.ref C) (.ref C) = some true
section
variable {X : Cx} {T : List (Addr × Str)} {W : WX} {J : Nat → Prop} {x : Str} {p p2 pos : Pos} {a b e : Expr} {es : List Expr}
theorem cs_raiseX (c : XcIn X.K X.mg x) (hc : X.calm = true) (tk : Takes X W) (hg : Gl X x := by rfl) (hdb : (x == ("__debug__" : Str)) = false := by decide) : PS X (.Raise (some (.Call (.Name x p) [] [] p2)) none pos) (cS (gx X T) J W (sRaise x)) :=
  let ⟨C, bmB, B, newId, initId, m, F, q, k, s1, s2, _⟩ := c.ex
  cs_raise0 hc tk F q m k (raises_own s1 s2) hg hdb
/-! ### a built-in function with owned arguments -/
def eCall (f : List D → Option D) (ma : MEA) : ME := fun ρ => bE (ma ρ) fun ds ρ1 => match f (D.fzs ds) with
  | some d => if d.frz then some (.ok d, ρ1) else none
  | none => none
theorem Bs.ofRs {g : G} {Z H : Hp} : ∀ {ds : List D} {vs : List V}, Rs g Z H ds vs [] → Bs g Z H ds vs
  | [], vs, h => by rw [h.1]; exact .nil
  | d :: ds, vs, h => by
    obtain ⟨x, r, f1, f2, e1, e2, h1, h2⟩ := h
    obtain ⟨z1, z2⟩ := app_nil e2
    subst z1 z2 e1
    exact .cons ⟨[], h1⟩ (Bs.ofRs h2)
theorem cEC {r : List V → Hp → VK → Prop} {f : List D → Option D} {ma : MEA} {σ : L2.St} {H : Hp} {Q : VK} (hr : PRC (gx X T) r f) (h : cE (gx X T) W (eCall f ma) σ H Q) : tCB r (cEA (gx X T) W ma) σ H Q := by
  obtain ⟨Z, ρ, fp, x, hm, ok, re, q⟩ := h
  refine cEA.go hm ok re q.x fun ds vs ρ1 Z1 H1 fe fd hm1 s1 re1 r1 => ?_
  split at hm1
  · rename_i d hd
    split at hm1
    · rename_i c
      cases Option.some.inj hm1
      have s1p := s1.permR List.perm_append_comm
      obtain ⟨Z2, s2, r2⟩ := Rs.toFz r1 s1p.ok
      have s12 := s1p.trans s2
      have re2 : RE (gx X T) Z2 H1 ρ1 σ fe := RE.mono s2.zz (fun _ _ => rfl) re1
      refine hr Z2 H1 (D.fzs ds) vs d s12.ok.none (Bs.ofRs r2) hd Q fun u Z3 H3 g3 b3 => ?_
      exact q u Z3 H3 fe [] ((s12.trans (Grw.stp g3 s12.ok)).nilR) (re2.grow g3) (b3.frz c)
    · cases hm1
  · cases hm1
theorem cF_call {id : String} {r : List V → Hp → VK → Prop} {f : List D → Option D} {ma : MEA} (hc : CallR X (.builtin id) r) (hr : PRC (gx X T) r f) (hg : Gl X x) (hm : X.mg x = none) (hv : bootBuiltins x = some (.builtin id)) (ha : PA X (e :: es) (cEA (gx X T) W ma))
    (hn : x ≠ "__name__" := by decide) (hdb : (x == ("__debug__" : Str)) = false := by decide) (he : starEach (e :: es) X.env = (false, eval e X.env) :: starEach es X.env := by rfl) (hpl : (backTo pos (starEach es X.env)).any (·.1) = false := by rfl) :
    PE X (.Call (.Name x p) (e :: es) [] pos) (cE (gx X T) W (eCall f ma)) := (pe_callB hc hg hm hv ha hn hdb he hpl).imp fun _ _ _ h => cEC hr h
theorem cF_callT {id : String} {r : List V → Hp → VK → Prop} {f : List D → Option D} {ma : MEA} (hc : CallR X (.type id) r) (hr : PRC (gx X T) r f) (hg : Gl X x) (hm : X.mg x = none) (hv : bootBuiltins x = some (.type id)) (ha : PA X (e :: es) (cEA (gx X T) W ma))
    (hn : x ≠ "__name__" := by decide) (hdb : (x == ("__debug__" : Str)) = false := by decide) (he : starEach (e :: es) X.env = (false, eval e X.env) :: starEach es X.env := by rfl) (hpl : (backTo pos (starEach es X.env)).any (·.1) = false := by rfl) :
    PE X (.Call (.Name x p) (e :: es) [] pos) (cE (gx X T) W (eCall f ma)) := (pe_callTy hc hg hm hv ha hn hdb he hpl).imp fun _ _ _ h => cEC hr h
/-! ### split, [::-1] -/
def asS : D → Option Str
  | .str s => some s
  | _ => none
theorem asS_eq {d : D} {s : Str} (h : asS d = some s) : d = .str s := by
  cases d <;> simp only [asS] at h <;> first | contradiction | (cases h; rfl)
/-- a text's method with one argument -/
def mM1 (f : Str → D → Option D) (ma mb : Rho → Option (O D)) : Rho → Option (O D) := fun ρ => bnd (ma ρ) fun x => bnd (ret (asS x)) fun s => bnd (mb ρ) fun y => ret (f s y)
def PRM (g : G) (r : V → List V → Hp → VK → Prop) (f : Str → D → Option D) : Prop := ∀ Z H s e w z, Ok g Z H [] → s.length ≤ 16777216 → B g Z H e w → f s e = some z → ∀ Q : VK, (∀ u Z' H', Grw g Z H Z' H' → B g Z' H' z u → Q u H') → r (.str s) [w] H Q
theorem cM1 {r : V → List V → Hp → VK → Prop} {f : Str → D → Option D} {ma mb : Rho → Option (O D)} {σ : L2.St} {H : Hp} {Q : VK} (hr : PRM (gx X T) r f) (h : cP (gx X T) W (mM1 f ma mb) σ H Q) : tM1 r (cP (gx X T) W ma) (cP (gx X T) W mb) σ H Q := by
  obtain ⟨Z, ρ, fp, o, hm, ok, re, q⟩ := h
  refine cP.go hm ok re q.x fun x v Z1 H1 hm1 g1 ok1 re1 b1 => ?_
  rcases bnd_some hm1 with ⟨s, e1, hm2⟩ | ⟨c, ks, vs, e1, _⟩
  · obtain ⟨s', hs, e2⟩ := ret_eq e1
    cases e2
    cases asS_eq hs
    refine ⟨⟨_, b1.str_eq.1⟩, cP.go hm2 ok1 re1 (q.mono g1).x fun y w Z2 H2 hm3 g2 ok2 re2 b2 => ?_⟩
    obtain ⟨z, hz, rfl⟩ := ret_eq hm3
    rw [b1.str_eq.1]
    exact hr Z2 H2 _ y w z ok2.none b1.str_eq.2 b2 hz Q fun u Z3 H3 g3 b3 => q u Z3 H3 (g1.trans (g2.trans g3)) b3
  · obtain ⟨_, _, e2⟩ := ret_eq e1
    cases e2
def gSplit (a : Str) : D → Option D
  | .str b => if (b.length == 0) = false ∧ a.length + 2 ≤ 16777216 ∧ ((Txt.split a b).all fun y => decide (y.length ≤ 16777216)) = true then some (.lst false ((Txt.split a b).map .str)) else none
  | _ => none
theorem rs_strs {g : G} {Z H : Hp} : ∀ l : List Str, (l.all fun y => decide (y.length ≤ 16777216)) = true → Rs g Z H (l.map D.str) (l.map V.str) []
  | [], _ => ⟨rfl, rfl⟩
  | i :: l, h => by
    rw [List.all_cons, Bool.and_eq_true] at h
    exact ⟨_, _, [], [], rfl, rfl, ⟨⟨rfl, by simpa using h.1⟩, rfl⟩, rs_strs l h.2⟩
theorem cp_split {ma mb : Rho → Option (O D)} (ha : PE X a (cP (gx X T) W ma)) (hb : PE X b (cP (gx X T) W mb)) (hs : starEach [b] X.env = [(false, eval b X.env)] := by rfl) (hbase : attributeBase a "split" X.env (eval a X.env) = eval a X.env := by rfl) (hline : (p.endLine == pos.line) = true := by rfl) :
    PE X (.Call (.Attribute a "split" p) [b] [] pos) (cP (gx X T) W (mM1 gSplit ma mb)) := (pe_split ha hb hs hbase hline).imp fun σ H Q h => cM1 (fun Z H s e w z ok hl he hz Q q => by
  cases e <;> simp only [gSplit] at hz <;> try contradiction
  split at hz
  · rename_i c
    cases hz
    exact ⟨s, _, rfl, by rw [he.str_eq.1], c.1, by rw [sizeLine_eq]; exact c.2.1, newL ok (rs_strs _ c.2.2) q⟩
  · cases hz) h
def joinD : List D → Option (List Str)
  | [] => some []
  | .str b :: r => (joinD r).map (b :: ·)
  | _ :: _ => none
theorem Rs.strs {g : G} {Z H : Hp} : ∀ {l : List D} {xs : List V} {fp : List Addr} {bs : List Str}, Rs g Z H l xs fp → joinD l = some bs → xs = bs.map V.str
  | [], xs, fp, bs, h, e => by cases e; exact h.1
  | d :: l, xs, fp, bs, h, e => by
    obtain ⟨x, r, f1, f2, e1, e2, h1, h2⟩ := h
    cases d <;> simp only [joinD] at e <;> try contradiction
    rename_i b
    cases q : joinD l with
    | none => rw [q] at e; cases e
    | some bs' =>
      rw [q] at e; cases e
      rw [e1, Rs.strs h2 q, h1.1.1]
      rfl
def gJoin (a : Str) (d : D) : Option D := d.its.bind fun l => (joinD l).bind fun ys => if (ys.map (·.length)).sum + ys.length * a.length ≤ 16777216 ∧ (Txt.join a ys).length ≤ 16777216 then some (.str (Txt.join a ys)) else none
theorem bind_some {α β : Type} {o : Option α} {f : α → Option β} {z : β} (h : o.bind f = some z) : ∃ x, o = some x ∧ f x = some z := by
  cases o with
  | none => cases h
  | some x => exact ⟨x, rfl, h⟩
theorem cp_join {ma mb : Rho → Option (O D)} (ha : PE X a (cP (gx X T) W ma)) (hb : PE X b (cP (gx X T) W mb)) (hs : starEach [b] X.env = [(false, eval b X.env)] := by rfl) (hbase : attributeBase a "join" X.env (eval a X.env) = eval a X.env := by rfl) (hline : (p.endLine == pos.line) = true := by rfl) :
    PE X (.Call (.Attribute a "join" p) [b] [] pos) (cP (gx X T) W (mM1 gJoin ma mb)) := (pe_join ha hb hs hbase hline).imp fun σ H Q h => cM1 (fun Z H s e w z ok hl he hz Q q => by
  obtain ⟨l, e1, hz⟩ := bind_some hz
  obtain ⟨ys, e2, hz⟩ := bind_some hz
  split at hz
  · rename_i c
    cases hz
    obtain ⟨p, xs, fq, a1, a2, a3⟩ := he.seq ok.zh e1
    have := Rs.strs a3 e2
    subst this
    exact ⟨s, p, ys, rfl, by rw [a1], a2, c.1, q _ Z H (Grw.refl ok) (B.str c.2)⟩
  · cases hz) h
/-- xs[::-1], a list -/
def gRev (d : D) : Option D := d.lits.bind fun l => if D.frzs l then some (.lst false l.reverse) else none
theorem Rs.revl {g : G} {Z H : Hp} : ∀ {l : List D} {xs : List V}, Rs g Z H l xs [] → Rs g Z H l.reverse xs.reverse []
  | [], xs, h => by rw [h.1]; exact ⟨rfl, rfl⟩
  | d :: l, xs, h => by
    obtain ⟨x, r, f1, f2, e1, e2, h1, h2⟩ := h
    obtain ⟨z1, z2⟩ := app_nil e2
    subst z1 z2 e1
    rw [List.reverse_cons, List.reverse_cons]
    exact Rs.app (Rs.revl h2) ⟨x, [], [], [], rfl, rfl, h1, rfl, rfl⟩
theorem cp_rev {ma : Rho → Option (O D)} {k : Nat} {q1 q2 q3 : Pos} (ha : PE X a (cP (gx X T) W ma)) : PE X (.Subscript a (.Slice none none (some (.UnaryOp .USub (.Constant (.int 1) k q1) q2)) q3) pos) (cP (gx X T) W (m1 gRev ma)) := (pe_revL ha).imp fun σ H Q ⟨Z, ρ, fp, o, hm, ok, re, q⟩ => by
  refine cP.go hm ok re q.x fun x v Z1 H1 hm1 g1 ok1 re1 b1 => ?_
  obtain ⟨z, hz, rfl⟩ := ret_eq hm1
  obtain ⟨l, e1, hz⟩ := bind_some hz
  split at hz
  · rename_i c
    cases hz
    obtain ⟨a, xs, fq, a1, a2, a3⟩ := b1.lseq ok1.zh e1
    rw [Rs.frz c a3] at a3
    exact ⟨a, xs, a1, a2, newL ok1.none (Rs.revl a3) fun u Z3 H3 g3 b3 => q u Z3 H3 (g1.trans g3) b3⟩
  · cases hz
end
end OP

/-! OS: zip and enumerate over lists, tuples and texts, mixed -/
namespace OP
open PySem PySem.Spec PyProof.Rows L2
/-- what an iterator is made of: the list or the tuple at an address, a text -/
inductive Src where
  | l (a : Addr) (xs : Array Value) | t (a : Addr) (xs : Array Value) | s (x : Str) (tk : Tok)
def Src.v : Src → Value
  | .l a _ => .ref a | .t a _ => .ref a | .s x tk => .str x tk
def Src.n : Src → Nat
  | .l _ xs => xs.size | .t _ xs => xs.size | .s x _ => x.cps.size
def Src.P : Src → Nat → Value → Prop
  | .l _ xs => fun i v => xs[i]? = some v | .t _ xs => fun i v => xs[i]? = some v | .s x _ => fun i v => ∃ c u, x.cps[i]? = some c ∧ v = .str ⟨#[c]⟩ u
def Src.ok : Src → Heap → Prop
  | .l a xs, h => h.IsList a xs | .t a xs, h => h.IsTuple a xs | .s _ _, _ => True
def Src.itr : Src → Addr → Nat → Heap → Prop
  | .l a _, it, i, h => h.IsListIter it a i | .t a _, it, i, h => h.IsTupleIter it a i | .s x tk, it, i, h => h.IsStrIter it (strIterType x) x tk i
def Src.ad : Src → List Addr
  | .l a _ => [a] | .t a _ => [a] | .s _ _ => []
def Src.ob : Src → Obj
  | .l a _ => { cls := .type "list_iterator", data := .fields #[.ref a, .int 0 0] } | .t a _ => { cls := .type "tuple_iterator", data := .fields #[.ref a, .int 0 0] } | .s x tk => { cls := .type (strIterType x), data := .fields #[.str x tk, .int 0 0] }
theorem Src.iter {prog : Program} {w : World} {A : Around} {E : Value → Shared → Prop} {s : Shared} {Q : Value → Shared → Prop} {c : Src} (hc : c.ok s.heap) (h : Q (.ref s.heap.objs.size) { s with heap := s.heap.push c.ob }) : wpAny (model prog w) A (pyIter c.v) Q E s := by
  cases c with
  | l a xs => exact wpAny_pyIter_list hc h
  | t a xs => exact wpAny_pyIter_tuple hc h
  | s x tk => exact wpAny_pyIter_strU h
theorem Src.ok_at {c : Src} {h h' : Heap} (k : ∀ a ∈ c.ad, ∀ o, h.get? a = some o → h'.get? a = some o) (x : c.ok h) : c.ok h' := by
  cases c with
  | l a xs => exact Heap.IsList.at x (fun o e => k a (by simp [Src.ad]) o e)
  | t a xs => exact Heap.IsTuple.at x (fun o e => k a (by simp [Src.ad]) o e)
  | s x tk => trivial
theorem Src.itr_at {c : Src} {it : Addr} {i : Nat} {h h' : Heap} (x : c.itr it i h) (k : ∀ o, h.get? it = some o → h'.get? it = some o) : c.itr it i h' := by
  cases c with
  | l a xs => exact Heap.IsListIter.at x k
  | t a xs => exact Heap.IsTupleIter.at x k
  | s y tk => obtain ⟨o, ho, r⟩ := x; exact ⟨o, k o ho, r⟩
theorem Src.itr_ob {c : Src} {it : Addr} {i : Nat} {h : Heap} (x : c.itr it i h) : ∃ o, h.get? it = some o ∧ ∀ v, o.data ≠ .cell v := by
  cases c with
  | l a xs => obtain ⟨o, ho, _, hd⟩ := x; exact ⟨o, ho, fun v z => by rw [hd] at z; cases z⟩
  | t a xs => obtain ⟨o, ho, _, hd⟩ := x; exact ⟨o, ho, fun v z => by rw [hd] at z; cases z⟩
  | s y tk => obtain ⟨o, ho, _, hd⟩ := x; exact ⟨o, ho, fun v z => by rw [hd] at z; cases z⟩
theorem Src.itr_new {c : Src} {h : Heap} : c.itr h.objs.size 0 (h.push c.ob) := by
  cases c with
  | l a xs => exact ⟨_, Heap.get?_push_size _ rfl, rfl, rfl⟩
  | t a xs => exact ⟨_, Heap.get?_push_size _ rfl, rfl, rfl⟩
  | s y tk => exact ⟨_, Heap.get?_push_size _ rfl, rfl, rfl⟩
def Src.St (c : Src) (it : Addr) (i : Nat) (h : Heap) : Prop := c.itr it i h ∧ c.ok h
theorem Src.draws {prog : Program} {w : World} {A : Around} (hh : A.handled = none) (c : Src) (it : Addr) (hne : it ∉ c.ad) : Draws prog w A it (it :: c.ad) c.n c.P (c.St it) := by
  cases c with
  | l a xs => exact Draws.list hh it a (fun z => hne (by simp [Src.ad, z])) xs
  | t a xs =>
    have na : a ≠ it := fun z => hne (by simp [Src.ad, z])
    exact ⟨fun _ _ st => let ⟨o, ho, _⟩ := st.1; ⟨o, ho⟩, fun _ _ _ st hk => ⟨Heap.IsTupleIter.at st.1 fun o e => hk it (by simp) o e, Heap.IsTuple.at st.2 fun o e => hk a (by simp [Src.ad]) o e⟩,
      fun i s Q E hi st hQ => RZ.nextOf_tuple_item st.1 st.2 (x := xs[i]'hi) (Array.getElem?_eq_getElem (show i < xs.size from hi)) fun h' hit' hs' => hQ _ h' s.toks (Array.getElem?_eq_getElem (show i < xs.size from hi)) ⟨hit', Heap.IsTuple.at st.2 fun o e => hs'.extBut _ _ na e⟩ hs',
      fun s Q E st hE => RZ.nextOf_tuple_end hh st.1 st.2 (by show xs[xs.size]? = none; simp) hE⟩
  | s x tk =>
    cases ha : x.cps.all (· < 128)
    · have D := Draws.strWide (prog := prog) (w := w) hh it x tk
      have e : strIterType x = "str_iterator" := by simp [strIterType, ha]
      exact ⟨fun i h st => D.live i h (by rw [← e]; exact st.1), fun i h h' st hk => ⟨by have := D.frame i h h' (by rw [← e]; exact st.1) hk; rw [← e] at this; exact this, trivial⟩,
        fun i s Q E hi st hQ => D.item i s Q E hi (by rw [← e]; exact st.1) fun y h' tk' p st' sb => hQ y h' tk' p ⟨by rw [← e] at st'; exact st', trivial⟩ sb, fun s Q E st hE => D.done s Q E (by rw [← e]; exact st.1) hE⟩
    · have D := Draws.strAscii (prog := prog) (w := w) hh it x tk
      have e : strIterType x = "str_ascii_iterator" := by simp [strIterType, ha]
      exact ⟨fun i h st => D.live i h (by rw [← e]; exact st.1), fun i h h' st hk => ⟨by have := D.frame i h h' (by rw [← e]; exact st.1) hk; rw [← e] at this; exact this, trivial⟩,
        fun i s Q E hi st hQ => D.item i s Q E hi (by rw [← e]; exact st.1) fun y h' tk' p st' sb => hQ y h' tk' p ⟨by rw [← e] at st'; exact st', trivial⟩ sb, fun s Q E st hE => D.done s Q E (by rw [← e]; exact st.1) hE⟩
/-! ### zip -/
section
variable {prog : Program} {w : World} {A : Around} {E : Value → Shared → Prop} {s : Shared}
structure Apart (z TI TO i1 i2 : Addr) (f1 f2 : List Addr) : Prop where
  tz : TI ≠ z
  oz : TO ≠ z
  z1 : i1 ≠ z
  z2 : i2 ≠ z
  to : TI ≠ TO
  t1 : TI ≠ i1
  t2 : TI ≠ i2
  o1 : TO ≠ i1
  o2 : TO ≠ i2
  n12 : i1 ≠ i2
  a1 : ∀ b ∈ f1, b ≠ z ∧ b ≠ TO ∧ b ≠ i1 ∧ b ≠ i2
  a2 : ∀ b ∈ f2, b ≠ z ∧ b ≠ TO ∧ b ≠ i1 ∧ b ≠ i2
variable {z TI TO i1 i2 : Addr} {c1 c2 : Src} {k : Nat} {a b : Value}
/-- one turn of a zip whose two sources have an item each -/
theorem zipG_item {Q : Value → Shared → Prop} (hh : A.handled = none) (D : Apart z TI TO i1 i2 c1.ad c2.ad) (e0 : IsZip s.heap z TI TO .none) (eI : IsPair s.heap TI (.ref i1) (.ref i2)) (eO : IsPair s.heap TO a b) (s1 : c1.St i1 k s.heap) (s2 : c2.St i2 k s.heap) (l1 : k < c1.n) (l2 : k < c2.n)
    (hQ : ∀ x y h' tk, c1.P k x → c2.P k y → IsZip h' z TI TO (rawInt s.heap.objs.size) → IsPair h' TO x y → c1.itr i1 (k + 1) h' → c2.itr i2 (k + 1) h' → IsPair h' s.heap.objs.size x y → h'.objs.size = s.heap.objs.size + 1 →
      (∀ c o, c ≠ z → c ≠ TO → c ≠ i1 → c ≠ i2 → s.heap.get? c = some o → h'.get? c = some o) → Q (.ref s.heap.objs.size) { s with heap := h', toks := tk }) :
    wpAny (model prog w) A (Builtin.«zip.__next__» ⟨[.ref z], []⟩) (fun fin s' => ∃ v, fin = .done (.ret v) ∧ Q v s') E s := by
  have D1 := Src.draws (prog := prog) (w := w) hh c1 i1 fun q => (D.a1 _ q).2.2.1 rfl
  have D2 := Src.draws (prog := prog) (w := w) hh c2 i2 fun q => (D.a2 _ q).2.2.2 rfl
  show wpAny _ A (field (.ref z) 2 >>= _) _ E s
  refine wpAny_bind (wpAny_field e0 rfl (x := .bool false) rfl ?_)
  show wpAny _ A (field (.ref z) 3 >>= _) _ E s
  refine wpAny_bind (wpAny_field e0 rfl (x := .ref TI) rfl (wpAny_bind (wpAny_seqItems eI rfl ?_)))
  show wpAny _ A (Builtin.SmallTypes.ownedTupleIsFree (.ref z) >>= _) _ E s
  refine wpAny_bind ?_
  unfold Builtin.SmallTypes.ownedTupleIsFree; refine wpAny_bind (wpAny_field e0 rfl (x := .none) rfl (wpAny_pure ?_))
  simp only [if_true]
  refine wpAny_bind (wpAny_rule (wpAny_bind (wpAny_field e0 rfl (x := .ref TO) rfl (wpAny_bind (wpAny_setField_rec e0 (by simp) fun g1 e1 b1 => wpAny_bind ?_)))))
  replace e1 : IsZip g1 z TI TO .ellipsis := e1
  simp only [List.forIn_cons, List.forIn_nil, List.zipIdx_cons, List.zipIdx_nil]
  have S1 : c1.St i1 k g1 := D1.frame k _ _ s1 fun c hc o e => (b1.extBut) c o (by rcases List.mem_cons.mp hc with q | q; (· rw [q]; exact D.z1); (· exact (D.a1 c q).1)) e
  refine wpAny_bind (wpAny_bind (wpAny_onRaise ?_)); show wpAny _ A (Builtin.SmallTypes.nextOf (.ref i1) >>= _) _ _ _; refine wpAny_bind (D1.item k _ _ _ l1 S1 fun x g2 k2 p1 S1' b2 => wpAny_pure ?_)
  have eO2 : IsPair g2 TO a b := b2.extBut _ _ D.o1 (b1.extBut _ _ D.oz eO)
  refine wpAny_bind (wpAny_seqItems eO2 rfl (wpAny_bind (wpAny_updateSeq_pair eO2 fun g3 eO3 b3 => wpAny_bind (wpAny_letGo (wpAny_pure ?_)))))
  replace eO3 : IsPair g3 TO x b := eO3
  have S2 : c2.St i2 k g3 := D2.frame k _ _ s2 fun c hc o e => b3.extBut c o (by rcases List.mem_cons.mp hc with q | q; (· rw [q]; exact D.o2.symm); (· exact (D.a2 c q).2.1))
    (b2.extBut c o (by rcases List.mem_cons.mp hc with q | q; (· rw [q]; exact D.n12.symm); (· exact (D.a2 c q).2.2.1)) (b1.extBut c o (by rcases List.mem_cons.mp hc with q | q; (· rw [q]; exact D.z2); (· exact (D.a2 c q).1)) e))
  refine wpAny_bind (wpAny_bind (wpAny_onRaise ?_)); show wpAny _ A (Builtin.SmallTypes.nextOf (.ref i2) >>= _) _ _ _; refine wpAny_bind (D2.item k _ _ _ l2 S2 fun y g4 k4 p2 S2' b4 => wpAny_pure ?_)
  have eO4 : IsPair g4 TO x b := b4.extBut _ _ D.o2 eO3
  refine wpAny_bind (wpAny_seqItems eO4 rfl (wpAny_bind (wpAny_updateSeq_pair eO4 fun g5 eO5 b5 => wpAny_bind (wpAny_letGo (wpAny_pure (wpAny_pure ?_))))))
  replace eO5 : IsPair g5 TO x y := eO5
  refine wpAny_bind (wpAny_seqItems eO5 rfl (wpAny_bind (wpAny_newTuple ?_)))
  have sz5 : g5.objs.size = s.heap.objs.size := by rw [b5.1, b4.1, b3.1, b2.1, b1.1]
  have e5 : IsZip g5 z TI TO .ellipsis := b5.extBut _ _ D.oz.symm (b4.extBut _ _ D.z2.symm (b3.extBut _ _ D.oz.symm (b2.extBut _ _ D.z1.symm e1)))
  have kp5 : ∀ c o, c ≠ z → c ≠ TO → c ≠ i1 → c ≠ i2 → s.heap.get? c = some o → g5.get? c = some o := fun c o n1 n2 n3 n4 e => b5.extBut _ _ n2 (b4.extBut _ _ n4 (b3.extBut _ _ n2 (b2.extBut _ _ n3 (b1.extBut _ _ n1 e))))
  have it1 : c1.itr i1 (k + 1) g5 := Src.itr_at S1'.1 fun o e => b5.extBut _ _ D.o1.symm (b4.extBut _ _ D.n12 (b3.extBut _ _ D.o1.symm e))
  have it2 : c2.itr i2 (k + 1) g5 := Src.itr_at S2'.1 fun o e => b5.extBut _ _ D.o2.symm e
  have zlt : z < g5.objs.size := Heap.lt_size e5
  show wpAny _ A (Builtin.SmallTypes.ownedTupleHandOut (.ref z) (.ref g5.objs.size) >>= _) _ E _
  refine wpAny_bind ?_
  unfold Builtin.SmallTypes.ownedTupleHandOut
  have e6 : IsZip (g5.push { cls := .type "tuple", data := .seq #[x, y] }) z TI TO .ellipsis := Heap.get?_push_of_some _ e5
  refine wpAny_bind (wpAny_setField_rec e6 (by simp) fun g7 e7 b7 => ?_)
  replace e7 : IsZip g7 z TI TO (rawInt g5.objs.size) := e7
  refine wpAny_setField_rec e7 (by simp) fun g8 e8 b8 => wpAny_pure ⟨_, rfl, ?_⟩
  replace e8 : IsZip g8 z TI TO (rawInt g5.objs.size) := e8
  have up : ∀ c o, c ≠ z → g5.get? c = some o → g8.get? c = some o := fun c o n e => b8.extBut _ _ n (b7.extBut _ _ n (Heap.get?_push_of_some _ e))
  have pr8 : IsPair g8 g5.objs.size x y := b8.extBut _ _ (Nat.ne_of_gt zlt) (b7.extBut _ _ (Nat.ne_of_gt zlt) (Heap.get?_push_size _ rfl))
  have sz8 : g8.objs.size = g5.objs.size + 1 := by rw [b8.1, b7.1, Heap.size_push]
  show Q (.ref g5.objs.size) _
  rw [sz5] at e8 pr8 sz8 ⊢
  exact hQ x y g8 _ p1 p2 e8 (up _ _ D.oz eO5) (Src.itr_at it1 fun o e => up _ o D.z1 e) (Src.itr_at it2 fun o e => up _ o D.z2 e) pr8 sz8 fun c o n1 n2 n3 n4 e => up c o n1 (kp5 c o n1 n2 n3 n4 e)
/-- one of the two is through -/
theorem zipG_end {Q : Fin → Shared → Prop} (hh : A.handled = none) (D : Apart z TI TO i1 i2 c1.ad c2.ad) (e0 : IsZip s.heap z TI TO .none) (eI : IsPair s.heap TI (.ref i1) (.ref i2)) (eO : IsPair s.heap TO a b) (s1 : c1.St i1 k s.heap) (s2 : c2.St i2 k s.heap) (hend : k = c1.n ∨ (k < c1.n ∧ k = c2.n))
    (hE : ∀ h' e tk, (∀ c o, c ≠ z → c ≠ TO → c ≠ i1 → c ≠ i2 → s.heap.get? c = some o → h'.get? c = some o) → (∃ o, h'.get? e = some o ∧ o.cls = .type "StopIteration") → E (.ref e) { s with heap := h', toks := tk }) :
    wpAny (model prog w) A (Builtin.«zip.__next__» ⟨[.ref z], []⟩) Q E s := by
  have D1 := Src.draws (prog := prog) (w := w) hh c1 i1 fun q => (D.a1 _ q).2.2.1 rfl
  have D2 := Src.draws (prog := prog) (w := w) hh c2 i2 fun q => (D.a2 _ q).2.2.2 rfl
  show wpAny _ A (field (.ref z) 2 >>= _) _ E s
  refine wpAny_bind (wpAny_field e0 rfl (x := .bool false) rfl ?_)
  show wpAny _ A (field (.ref z) 3 >>= _) _ E s
  refine wpAny_bind (wpAny_field e0 rfl (x := .ref TI) rfl (wpAny_bind (wpAny_seqItems eI rfl ?_)))
  show wpAny _ A (Builtin.SmallTypes.ownedTupleIsFree (.ref z) >>= _) _ E s
  refine wpAny_bind ?_
  unfold Builtin.SmallTypes.ownedTupleIsFree; refine wpAny_bind (wpAny_field e0 rfl (x := .none) rfl (wpAny_pure ?_))
  simp only [if_true]
  refine wpAny_bind (wpAny_rule (wpAny_bind (wpAny_field e0 rfl (x := .ref TO) rfl (wpAny_bind (wpAny_setField_rec e0 (by simp) fun g1 e1 b1 => wpAny_bind ?_)))))
  replace e1 : IsZip g1 z TI TO .ellipsis := e1
  simp only [List.forIn_cons, List.forIn_nil, List.zipIdx_cons, List.zipIdx_nil]
  have S1 : c1.St i1 k g1 := D1.frame k _ _ s1 fun c hc o e => (b1.extBut) c o (by rcases List.mem_cons.mp hc with q | q; (· rw [q]; exact D.z1); (· exact (D.a1 c q).1)) e
  rcases hend with ek | ⟨l1, ek⟩
  · subst ek
    refine wpAny_bind (wpAny_bind (wpAny_onRaise ?_)); show wpAny _ A (Builtin.SmallTypes.nextOf (.ref i1) >>= _) _ _ _; refine wpAny_bind (D1.done _ _ _ S1 fun g2 e b2 he => ?_)
    obtain ⟨oe, hoe, hce⟩ := he
    have e2 : IsZip g2 z TI TO .ellipsis := b2 _ _ D.z1.symm e1
    have ne : e ≠ z := fun q => by subst q; rw [e2] at hoe; cases hoe; simp at hce
    exact wpAny_setField_rec e2 (by simp) fun g3 _ b3 => hE g3 e _ (fun c o n1 _ n3 _ q => b3.extBut _ _ n1 (b2 _ _ n3 (b1.extBut _ _ n1 q))) ⟨oe, b3.extBut _ _ ne hoe, hce⟩
  · refine wpAny_bind (wpAny_bind (wpAny_onRaise ?_)); show wpAny _ A (Builtin.SmallTypes.nextOf (.ref i1) >>= _) _ _ _; refine wpAny_bind (D1.item k _ _ _ l1 S1 fun x g2 k2 p1 S1' b2 => wpAny_pure ?_)
    have eO2 : IsPair g2 TO a b := b2.extBut _ _ D.o1 (b1.extBut _ _ D.oz eO)
    refine wpAny_bind (wpAny_seqItems eO2 rfl (wpAny_bind (wpAny_updateSeq_pair eO2 fun g3 eO3 b3 => wpAny_bind (wpAny_letGo (wpAny_pure ?_)))))
    have S2 : c2.St i2 k g3 := D2.frame k _ _ s2 fun c hc o e => b3.extBut c o (by rcases List.mem_cons.mp hc with q | q; (· rw [q]; exact D.o2.symm); (· exact (D.a2 c q).2.1))
      (b2.extBut c o (by rcases List.mem_cons.mp hc with q | q; (· rw [q]; exact D.n12.symm); (· exact (D.a2 c q).2.2.1)) (b1.extBut c o (by rcases List.mem_cons.mp hc with q | q; (· rw [q]; exact D.z2); (· exact (D.a2 c q).1)) e))
    subst ek
    refine wpAny_bind (wpAny_bind (wpAny_onRaise ?_)); show wpAny _ A (Builtin.SmallTypes.nextOf (.ref i2) >>= _) _ _ _; refine wpAny_bind (D2.done _ _ _ S2 fun g4 e b4 he => ?_)
    obtain ⟨oe, hoe, hce⟩ := he
    have e4 : IsZip g4 z TI TO .ellipsis := b4 _ _ D.z2.symm (b3.extBut _ _ D.oz.symm (b2.extBut _ _ D.z1.symm e1))
    have ne : e ≠ z := fun q => by subst q; rw [e4] at hoe; cases hoe; simp at hce
    exact wpAny_setField_rec e4 (by simp) fun g5 _ b5 => hE g5 e _ (fun c o n1 n2 n3 n4 q => b5.extBut _ _ n1 (b4 _ _ n4 (b3.extBut _ _ n2 (b2.extBut _ _ n3 (b1.extBut _ _ n1 q))))) ⟨oe, b5.extBut _ _ ne hoe, hce⟩
theorem nextG_item {Q : Option Value → Shared → Prop} (hh : A.handled = none) (D : Apart z TI TO i1 i2 c1.ad c2.ad) (e0 : IsZip s.heap z TI TO .none) (eI : IsPair s.heap TI (.ref i1) (.ref i2)) (eO : IsPair s.heap TO a b) (s1 : c1.St i1 k s.heap) (s2 : c2.St i2 k s.heap) (l1 : k < c1.n) (l2 : k < c2.n)
    (hQ : ∀ x y h' tk, c1.P k x → c2.P k y → IsZip h' z TI TO (rawInt s.heap.objs.size) → IsPair h' TO x y → c1.itr i1 (k + 1) h' → c2.itr i2 (k + 1) h' → IsPair h' s.heap.objs.size x y → h'.objs.size = s.heap.objs.size + 1 →
      (∀ c o, c ≠ z → c ≠ TO → c ≠ i1 → c ≠ i2 → s.heap.get? c = some o → h'.get? c = some o) → Q (some (.ref s.heap.objs.size)) { s with heap := h', toks := tk }) : wpAny (model prog w) A (pyNext (.ref z)) Q E s := by
  have ty : s.TypeIs (.ref z) "zip" := ⟨_, e0, rfl⟩
  unfold pyNext
  exact wpAny_bind (wpAny_attempt (wpAny_callSpecial?_slot (name := Str.ofString "__next__") ty F.slot_zip_next (wpAny_call_entry F.slot_zip_next ty F.entry_zip_next
    (zipG_item hh D e0 eI eO s1 s2 l1 l2 fun x y h' tk q1 q2 q3 q4 q5 q6 q7 q8 q9 => wpAny_pure (hQ x y h' tk q1 q2 q3 q4 q5 q6 q7 q8 q9)) (F.args_zip_next_1 _))))
theorem nextG_end {Q : Option Value → Shared → Prop} (hh : A.handled = none) (D : Apart z TI TO i1 i2 c1.ad c2.ad) (e0 : IsZip s.heap z TI TO .none) (eI : IsPair s.heap TI (.ref i1) (.ref i2)) (eO : IsPair s.heap TO a b) (s1 : c1.St i1 k s.heap) (s2 : c2.St i2 k s.heap) (hend : k = c1.n ∨ (k < c1.n ∧ k = c2.n))
    (hQ : ∀ h' tk, (∀ c o, c ≠ z → c ≠ TO → c ≠ i1 → c ≠ i2 → s.heap.get? c = some o → h'.get? c = some o) → Q none { s with heap := h', toks := tk }) : wpAny (model prog w) A (pyNext (.ref z)) Q E s := by
  have ty : s.TypeIs (.ref z) "zip" := ⟨_, e0, rfl⟩
  unfold pyNext
  refine wpAny_bind (wpAny_attempt (wpAny_callSpecial?_slot (name := Str.ofString "__next__") ty F.slot_zip_next (wpAny_call_entry F.slot_zip_next ty F.entry_zip_next (zipG_end hh D e0 eI eO s1 s2 hend fun h' e tk kp he => ?_) (F.args_zip_next_1 _))))
  obtain ⟨o, ho, hc⟩ := he
  exact wpAny_bind (wpAny_isInstance (T := "StopIteration") (b := true) ⟨o, ho, hc⟩ isSubtype_stop (wpAny_pure (hQ _ _ kp)))
end
end OP

/-! OT: zip and enumerate, made and walked -/
namespace OP
open PySem PySem.Spec PyProof.Rows L2
/-! ### what an iterator of the layer goes over -/
inductive Sc where
  | l (a : Addr) | t (a : Addr) | s (x : Str)
def Sc.v : Sc → V
  | .l a => .ref a | .t a => .ref a | .s x => .str x
def Sc.is (K : PySem.W.Frag) (H : Hp) : Sc → List V → Prop
  | .l a, xs => SqL K H a xs | .t a, xs => SqT K H a xs | .s x, xs => xs = x.cps.toList.map fun c => .str ⟨#[c]⟩
def Sc.ad : Sc → List Addr
  | .l a => [a] | .t a => [a] | .s _ => []
/-- the object's iterator -/
def Sc.itr (tk : Tok) : Sc → Addr → Nat → Heap → Prop
  | .l a, it, i, h => h.IsListIter it a i | .t a, it, i, h => h.IsTupleIter it a i | .s x, it, i, h => h.IsStrIter it (strIterType x) x tk i
theorem Sc.src {X : Cx} {pins : List (Addr × Obj)} {σ : L2.St} {H : Hp} {s : Shared} (I : Inv X pins σ H s) {c : Sc} {xs : List V} (h : c.is X.K H xs) (tk : Tok) :
    ∃ d : Src, d.ok s.heap ∧ d.ad = c.ad ∧ d.n = xs.length ∧ (∀ it i h', d.itr it i h' ↔ c.itr tk it i h') ∧ (∀ i u, d.P i u → ∃ x, xs[i]? = some x ∧ RelV x u) ∧ (∀ u, RelV c.v u → (∀ x, c = .s x → u = .str x tk) → d.v = u) := by
  cases c with
  | l a =>
    obtain ⟨its, rv, p, hz⟩ := I.list h
    refine ⟨.l a its.toArray, p.isList, rfl, ?_, fun _ _ _ => Iff.rfl, fun i u hu => ?_, fun u r _ => ?_⟩
    · show its.toArray.size = _; rw [List.size_toArray]; exact rv.length.symm
    · have hu : its[i]? = some u := by simpa using (show its.toArray[i]? = some u from hu)
      exact vget rv hu
    · cases r; rfl
  | t a =>
    obtain ⟨its, rv, p, hz⟩ := I.tuple h
    refine ⟨.t a its.toArray, (show s.heap.IsTuple a its.toArray from p), rfl, ?_, fun _ _ _ => Iff.rfl, fun i u hu => ?_, fun u r _ => ?_⟩
    · show its.toArray.size = _; rw [List.size_toArray]; exact rv.length.symm
    · have hu : its[i]? = some u := by simpa using (show its.toArray[i]? = some u from hu)
      exact vget rv hu
    · cases r; rfl
  | s x =>
    have h : xs = x.cps.toList.map fun c => V.str ⟨#[c]⟩ := h
    subst h
    refine ⟨.s x tk, trivial, rfl, by show x.cps.size = _; simp, fun _ _ _ => Iff.rfl, fun i u hu => ?_, fun u r e => (e x rfl).symm⟩
    obtain ⟨c, t, hc, rfl⟩ := hu
    exact ⟨.str ⟨#[c]⟩, by rw [List.getElem?_map, Array.getElem?_toList, hc]; rfl, t, rfl⟩
where
  vget : ∀ {xs : List V} {us : List Value} {i : Nat} {u : Value}, Vals xs us → us[i]? = some u → ∃ x, xs[i]? = some x ∧ RelV x u
    | _, _, i, u, .nil, h => by simp at h
    | _, _, 0, u, .cons r _, h => by
      have h := Option.some.inj (by simpa using h)
      subst h
      exact ⟨_, rfl, r⟩
    | _, _, i + 1, u, .cons _ rest, h => by
      obtain ⟨x, e, r'⟩ := vget (i := i) rest (by simpa using h)
      exact ⟨x, by simpa using e, r'⟩
theorem Sc.inj {X : Cx} {pins : List (Addr × Obj)} {σ : L2.St} {H : Hp} {s : Shared} (I : Inv X pins σ H s) {c : Sc} {xs ys : List V} (h : c.is X.K H xs) (h' : c.is X.K H ys) : xs = ys := by
  cases c with
  | l a => exact I.list_inj h h'
  | t a => exact I.tuple_inj h h'
  | s x => exact (show xs = _ from h).trans (show ys = _ from h').symm
theorem Sc.itr_at {tk : Tok} {c : Sc} {it : Addr} {i : Nat} {h h' : Heap} (x : c.itr tk it i h) (k : ∀ o, h.get? it = some o → h'.get? it = some o) : c.itr tk it i h' := by
  cases c with
  | l a => exact Heap.IsListIter.at x k
  | t a => exact Heap.IsTupleIter.at x k
  | s y => obtain ⟨o, ho, r⟩ := x; exact ⟨o, k o ho, r⟩
theorem Sc.itr_ob {tk : Tok} {c : Sc} {it : Addr} {i : Nat} {h : Heap} (x : c.itr tk it i h) : ∃ o, h.get? it = some o ∧ ∀ v, o.data ≠ .cell v := by
  cases c with
  | l a => obtain ⟨o, ho, _, hd⟩ := x; exact ⟨o, ho, fun v z => by rw [hd] at z; cases z⟩
  | t a => obtain ⟨o, ho, _, hd⟩ := x; exact ⟨o, ho, fun v z => by rw [hd] at z; cases z⟩
  | s y => obtain ⟨o, ho, _, hd⟩ := x; exact ⟨o, ho, fun v z => by rw [hd] at z; cases z⟩

/-! ### zip -/
/-- what two sources hold at each turn, in a new pair -/
def Itz2 (K : PySem.W.Frag) (c d : Sc) : It :=
  ⟨fun i H => ∃ xs ys x y, c.is K H xs ∧ d.is K H ys ∧ xs[i]? = some x ∧ ys[i]? = some y, fun i H v H' => ∃ p x y, v = .ref p ∧ H p = none ∧ H' = upd H p (.tup [x, y]) ∧ (∀ xs, c.is K H xs → xs[i]? = some x) ∧ ∀ ys, d.is K H ys → ys[i]? = some y,
    fun i H => ∃ xs ys, c.is K H xs ∧ d.is K H ys ∧ (i = xs.length ∨ (i < xs.length ∧ i = ys.length))⟩
theorem turn_zip2 {P : Program} {w : World} {K : PySem.W.Frag} {elts : List Expr} {kk : Nat} {tpos : Pos} {c d : Sc} {t1 t2 : Tok} {z TI TO i1 i2 : Addr} (D : Apart z TI TO i1 i2 c.ad d.ad) :
    Turn P w K (.Tuple elts kk tpos) (Itz2 K c d) [z, TI, TO, i1, i2] z (fun i h => IsZip h z TI TO .none ∧ IsPair h TI (.ref i1) (.ref i2) ∧ (∃ x y, IsPair h TO x y) ∧ c.itr t1 i1 i h ∧ d.itr t2 i2 i h) where
  mem := by simp
  obj := fun i h ⟨e0, eI, ⟨x, y, eO⟩, h1, h2⟩ b hb => by
    simp only [List.mem_cons, List.not_mem_nil, or_false] at hb
    rcases hb with q | q | q | q | q <;> subst q
    · exact ⟨_, e0, fun v q => nomatch q⟩
    · exact ⟨_, eI, fun v q => nomatch q⟩
    · exact ⟨_, eO, fun v q => nomatch q⟩
    · exact Sc.itr_ob h1
    · exact Sc.itr_ob h2
  keep := fun i h h' ⟨e0, eI, ⟨x, y, eO⟩, h1, h2⟩ k => ⟨k z (by simp) _ e0, k TI (by simp) _ eI, ⟨x, y, k TO (by simp) _ eO⟩, Sc.itr_at h1 fun o q => k i1 (by simp) o q, Sc.itr_at h2 fun o q => k i2 (by simp) o q⟩
  item := by
    intro X hP hw hK hc i pins s σ H E I hf ⟨e0, eI, ⟨x0, y0, eO⟩, h1, h2⟩ ⟨xs, ys, x, y, hqx, hqy, hx, hy⟩
    subst hP hw hK
    obtain ⟨s1, ok1, ad1, n1, it1, p1, _⟩ := Sc.src I hqx t1
    obtain ⟨s2, ok2, ad2, n2, it2, p2, _⟩ := Sc.src I hqy t2
    rw [← ad1, ← ad2] at D
    have zl : z < s.heap.objs.size := Heap.lt_size e0
    have lx : i < s1.n := by rw [n1]; exact (List.getElem?_eq_some_iff.mp hx).1
    have ly : i < s2.n := by rw [n2]; exact (List.getElem?_eq_some_iff.mp hy).1
    refine nextG_item (I.ok.hd hc) D e0 eI eO ⟨(it1 _ _ _).mpr h1, ok1⟩ ⟨(it2 _ _ _).mpr h2, ok2⟩ lx ly fun u u2 h' tk pu pu2 z' O' h1' h2' pr hsz hk => ?_
    obtain ⟨x', ex, ru⟩ := p1 i u pu
    rw [hx] at ex; cases ex
    obtain ⟨y', ey, ru2⟩ := p2 i u2 pu2
    rw [hy] at ey; cases ey
    refine ⟨_, rfl, wpAny_letOwnedTupleGo_zip (s := { s with heap := h', toks := tk }) z' fun h'' z'' sb => ?_⟩
    have pr2 : h''.get? s.heap.objs.size = some { cls := .type "tuple", data := .seq #[u, u2] } := (sb.2 _ (Nat.ne_of_gt zl)).trans pr
    have new : ObjOk X.prog X.w (upd H s.heap.objs.size (.tup [x, y])) h'' s.heap.objs.size (.tup [x, y]) := ⟨by show 2 ≤ sizeLine; decide, [u, u2], .cons ru (.cons ru2 .nil), ⟨_, pr2, rfl, _, rfl⟩⟩
    have J := I.turnedNew (t' := tk) (ch := [z, TI, TO, i1, i2]) (fun c o hb q => (sb.2 c (fun q' => hb (by simp [q']))).trans (hk c o (fun q' => hb (by simp [q'])) (fun q' => hb (by simp [q'])) (fun q' => hb (by simp [q'])) (fun q' => hb (by simp [q'])) q)) hf (Nat.le_refl _) new
    refine ⟨.ref s.heap.objs.size, _, J, rfl, ⟨_, x, y, rfl, I.hok.fresh (Nat.le_refl _), rfl, fun l hl => by rw [Sc.inj I hl hqx]; exact hx, fun l hl => by rw [Sc.inj I hl hqy]; exact hy⟩, ⟨z'', (sb.2 _ D.tz).trans (hk _ _ D.tz D.to D.t1 D.t2 eI), ⟨u, u2, (sb.2 _ D.oz).trans O'⟩, ?_, ?_⟩, fun b hb => ?_⟩
    · exact Sc.itr_at ((it1 _ _ _).mp h1') fun o q => (sb.2 _ D.z1).trans q
    · exact Sc.itr_at ((it2 _ _ _).mp h2') fun o q => (sb.2 _ D.z2).trans q
    · have lt : b < s.heap.objs.size := by
        simp only [List.mem_cons, List.not_mem_nil, or_false] at hb
        rcases hb with q | q | q | q | q <;> subst q
        · exact zl
        · exact Heap.lt_size eI
        · exact Heap.lt_size eO
        · obtain ⟨_, e, _⟩ := Sc.itr_ob h1; exact Heap.lt_size e
        · obtain ⟨_, e, _⟩ := Sc.itr_ob h2; exact Heap.lt_size e
      rw [upd_ne (Nat.ne_of_lt lt)]
      exact (hf b hb).1
  done := by
    intro X hP hw hK hc i pins s σ H E I hf ⟨e0, eI, ⟨x0, y0, eO⟩, h1, h2⟩ ⟨xs, ys, hqx, hqy, hend⟩
    subst hP hw hK
    obtain ⟨s1, ok1, ad1, n1, it1, p1, _⟩ := Sc.src I hqx t1
    obtain ⟨s2, ok2, ad2, n2, it2, p2, _⟩ := Sc.src I hqy t2
    rw [← ad1, ← ad2] at D
    exact nextG_end (I.ok.hd hc) D e0 eI eO ⟨(it1 _ _ _).mpr h1, ok1⟩ ⟨(it2 _ _ _).mpr h2, ok2⟩ (by rw [n1, n2]; exact hend) fun h' tk hk => ⟨rfl, I.turnedL (t' := tk) (ch := [z, TI, TO, i1, i2]) (fun c o hb q =>
      hk c o (fun q' => hb (by simp [q'])) (fun q' => hb (by simp [q'])) (fun q' => hb (by simp [q'])) (fun q' => hb (by simp [q'])) q) hf⟩
  self := fun A i s Q E st h => wpAny_pyIter_zip st.1 h
abbrev hz1 (h : Heap) (c : Src) : Heap := h.push c.ob
abbrev hz2 (h : Heap) (c d : Src) : Heap := (hz1 h c).push d.ob
abbrev hz3 (h : Heap) (c d : Src) : Heap := (hz2 h c d).push { cls := .type "tuple", data := .seq #[.ref h.objs.size, .ref (hz1 h c).objs.size] }
abbrev hz4 (h : Heap) (c d : Src) : Heap := (hz3 h c d).push { cls := .type "tuple", data := .seq #[.none, .none] }
abbrev hz5 (h : Heap) (c d : Src) : Heap := (hz4 h c d).push { cls := .type "zip", data := .fields #[.none, .bool false, .bool false, .ref (hz2 h c d).objs.size, .ref (hz3 h c d).objs.size] }
theorem meets_zip2 (c d : Src) : Meets (Builtin.«zip.__new__» ⟨[.type "zip", c.v, d.v], []⟩) (fun _ R s => c.ok s.heap ∧ d.ok s.heap ∧ R (.ok (.ret (.ref (hz4 s.heap c d).objs.size))) { s with heap := hz5 s.heap c d }) :=
  .of_wp fun prog w A R s h => by
    obtain ⟨hp, gn, dr, tk, os⟩ := s; obtain ⟨k1, k2, h⟩ := h
    have sub0 := sub_zip
    have L1 : c.ok (Shared.heap ⟨hp, gn, dr, tk, os⟩) := k1
    have L2' : d.ok (Shared.heap ⟨hp.push c.ob, gn, dr, tk, os⟩) := Src.ok_at (h := hp) (fun a _ o e => Heap.get?_push_of_some _ e) k2
    wp_walk using Src.iter L1, Src.iter L2'
    exact ⟨_, rfl, h⟩
section
variable {prog : Program} {w : World} {A : Around} {E : Value → Shared → Prop} {s : Shared}
theorem call_zip2 {c d : Src} {Q : Value → Shared → Prop} (k1 : c.ok s.heap) (k2 : d.ok s.heap)
    (h : ∀ h', IsZip h' (s.heap.objs.size + 4) (s.heap.objs.size + 2) (s.heap.objs.size + 3) .none → IsPair h' (s.heap.objs.size + 2) (.ref s.heap.objs.size) (.ref (s.heap.objs.size + 1)) → IsPair h' (s.heap.objs.size + 3) .none .none →
      c.itr s.heap.objs.size 0 h' → d.itr (s.heap.objs.size + 1) 0 h' → (∀ b o, s.heap.get? b = some o → h'.get? b = some o) → Q (.ref (s.heap.objs.size + 4)) { s with heap := h' }) : wpAny (model prog w) A (call (.type "zip") [c.v, d.v]) Q E s := by
  refine callType_new F.called_zip (by decide) (F.typeCall_zip_2 _ _) (F.newCall_zip_2 _ _) (fun obj => F.args_object_init_3 obj _ _) F.entry_zip_new (meets_zip2 c d) ⟨k1, k2, ?_⟩
  have q1 : (hz1 s.heap c).objs.size = s.heap.objs.size + 1 := Heap.size_push ..
  have q2 : (hz2 s.heap c d).objs.size = s.heap.objs.size + 2 := by rw [Heap.size_push, q1]
  have q3 : (hz3 s.heap c d).objs.size = s.heap.objs.size + 3 := by rw [Heap.size_push, q2]
  have q4 : (hz4 s.heap c d).objs.size = s.heap.objs.size + 4 := by rw [Heap.size_push, q3]
  have up1 : ∀ {b : Addr} {o : Obj}, (hz1 s.heap c).get? b = some o → (hz5 s.heap c d).get? b = some o := fun e => Heap.get?_push_of_some _ (Heap.get?_push_of_some _ (Heap.get?_push_of_some _ (Heap.get?_push_of_some _ e)))
  have up2 : ∀ {b : Addr} {o : Obj}, (hz2 s.heap c d).get? b = some o → (hz5 s.heap c d).get? b = some o := fun e => Heap.get?_push_of_some _ (Heap.get?_push_of_some _ (Heap.get?_push_of_some _ e))
  have r5 : (hz5 s.heap c d).get? (hz4 s.heap c d).objs.size = some _ := Heap.get?_push_size _ rfl
  have r4 : (hz5 s.heap c d).get? (hz3 s.heap c d).objs.size = some _ := Heap.get?_push_of_some _ (Heap.get?_push_size _ rfl)
  have r3 : (hz5 s.heap c d).get? (hz2 s.heap c d).objs.size = some _ := Heap.get?_push_of_some _ (Heap.get?_push_of_some _ (Heap.get?_push_size _ rfl))
  have r2 : d.itr (hz1 s.heap c).objs.size 0 (hz5 s.heap c d) := Src.itr_at (Src.itr_new (h := hz1 s.heap c)) fun o e => up2 e
  have r1 : c.itr s.heap.objs.size 0 (hz5 s.heap c d) := Src.itr_at (Src.itr_new (h := s.heap)) fun o e => up1 e
  show _ ∧ _
  rw [q2, q3, q4] at r5
  rw [q1, q2] at r3
  rw [q3] at r4
  rw [q1] at r2
  rw [q4]
  exact ⟨⟨_, r5, rfl⟩, h _ r5 r3 r4 r1 r2 fun b o e => up1 (Heap.get?_push_of_some _ e)⟩
end
def iZip2 (K : PySem.W.Frag) (ta : TA) : TI := fun σ H R => ta σ H fun vs H1 => ∃ c d xs ys, vs = [Sc.v c, Sc.v d] ∧ c.is K H1 xs ∧ d.is K H1 ys ∧ R (Itz2 K c d) H1
theorem tok_of {c : Sc} {u : Value} (r : RelV c.v u) : ∃ tk, ∀ x, c = .s x → u = .str x tk := by
  cases c with
  | l a => exact ⟨0, fun x e => by cases e⟩
  | t a => exact ⟨0, fun x e => by cases e⟩
  | s x => obtain ⟨tk, e⟩ := r; exact ⟨tk, fun y e' => by cases e'; exact e⟩
theorem Src.lt {c : Src} {h : Heap} (k : c.ok h) : ∀ a ∈ c.ad, a < h.objs.size := by
  cases c with
  | l a xs => intro b hb; obtain ⟨o, ho, _⟩ := k; simp only [Src.ad, List.mem_singleton] at hb; rw [hb]; exact Heap.lt_size ho
  | t a xs => intro b hb; obtain ⟨o, ho, _⟩ := k; simp only [Src.ad, List.mem_singleton] at hb; rw [hb]; exact Heap.lt_size ho
  | s x tk => intro b hb; cases hb
theorem apart_new {c d : List Addr} (n : Nat) (h1 : ∀ b ∈ c, b < n) (h2 : ∀ b ∈ d, b < n) : Apart (n + 4) (n + 2) (n + 3) n (n + 1) c d := by
  have lt : ∀ {i j : Nat}, i < j → (i : Addr) ≠ j := fun h => Nat.ne_of_lt h
  have gt : ∀ {i j : Nat}, j < i → (i : Addr) ≠ j := fun h => Nat.ne_of_gt h
  have far : ∀ b : Nat, b < n → (b : Addr) ≠ (n + 4 : Nat) ∧ (b : Addr) ≠ (n + 3 : Nat) ∧ (b : Addr) ≠ n ∧ (b : Addr) ≠ (n + 1 : Nat) := fun b h => ⟨lt (by omega), lt (by omega), lt (by omega), lt (by omega)⟩
  exact ⟨lt (by omega), lt (by omega), lt (by omega), lt (by omega), lt (by omega), gt (by omega), gt (by omega), gt (by omega), gt (by omega), lt (by omega), fun b hb => far b (h1 b hb), fun b hb => far b (h2 b hb)⟩
theorem pi_zip2 {X : Cx} {e e2 : Expr} {ta : TA} {p pos tpos : Pos} {elts : List Expr} {kk : Nat} (hg : Gl X "zip") (hm : X.mg "zip" = none) (ha : PA X [e, e2] ta)
    (hs : starEach [e, e2] X.env = (false, eval e X.env) :: starEach [e2] X.env := by rfl) (hpl : (backTo pos (starEach [e2] X.env)).any (·.1) = false := by rfl) : PI X (.Tuple elts kk tpos) (.Call (.Name "zip" p) [e, e2] [] pos) (iZip2 X.K ta) := by
  refine ⟨fun pins s σ H R I h => ?_⟩
  refine Call_ (ld_blt I hg hm boot_zip (callWith_type1 (thn (ha.run pos pins s σ H _ I h) fun us s1 ⟨vs, H1, I1, r1, c, d, xs, ys, ex, hqx, hqy, q⟩ => ?_) hs hpl))
  subst ex
  obtain ⟨u1, u2, rfl, r, r'⟩ := vals2 r1
  obtain ⟨t1, e1⟩ := tok_of r
  obtain ⟨t2, e2⟩ := tok_of r'
  obtain ⟨c1, ok1, ad1, n1, it1, p1, v1⟩ := Sc.src I1 hqx t1
  obtain ⟨c2, ok2, ad2, n2, it2, p2, v2⟩ := Sc.src I1 hqy t2
  rw [← v1 u1 r e1, ← v2 u2 r' e2]
  refine call_zip2 ok1 ok2 fun h' z0 zI zO j1 j2 hk => wpAny_pyIter_zip z0 ?_
  have ap := apart_new (c := c.ad) (d := d.ad) s1.heap.objs.size (fun b hb => Src.lt ok1 b (by rw [ad1]; exact hb)) (fun b hb => Src.lt ok2 b (by rw [ad2]; exact hb))
  refine ⟨s1.heap.objs.size + 4, [s1.heap.objs.size + 4, s1.heap.objs.size + 2, s1.heap.objs.size + 3, s1.heap.objs.size, s1.heap.objs.size + 1], _, _, H1, rfl, I1.kept (t' := s1.toks) hk, turn_zip2 (t1 := t1) (t2 := t2) ap, ⟨z0, zI, ⟨_, _, zO⟩, (it1 _ _ _).mp j1, (it2 _ _ _).mp j2⟩, fun b hb => ?_, q⟩
  have le : s1.heap.objs.size ≤ b := by
    simp only [List.mem_cons, List.not_mem_nil, or_false] at hb
    rcases hb with q | q | q | q | q <;> subst q
    · exact Nat.le_add_right _ _
    · exact Nat.le_add_right _ _
    · exact Nat.le_add_right _ _
    · exact Nat.le_refl _
    · exact Nat.le_add_right _ _
  exact I1.fpOk le (I1.hok.fresh le)

/-! ### enumerate -/
def Ite2 (K : PySem.W.Frag) (c : Sc) : It :=
  ⟨fun i H => ∃ xs x, c.is K H xs ∧ xs[i]? = some x, fun i H v H' => ∃ p x, v = .ref p ∧ H p = none ∧ H' = upd H p (.tup [.int (i : Nat), x]) ∧ ∀ xs, c.is K H xs → xs[i]? = some x, fun i H => ∃ xs, c.is K H xs ∧ i = xs.length⟩
theorem turn_enum2 {P : Program} {w : World} {K : PySem.W.Frag} {elts : List Expr} {kk : Nat} {tpos : Pos} {c : Sc} {t1 : Tok} {z it : Addr} (ne : z ≠ it) (nz : z ∉ c.ad) (ni : it ∉ c.ad) :
    Turn P w K (.Tuple elts kk tpos) (Ite2 K c) [z, it] z (fun i h => (∃ old, IsEnum h z it ((i : Nat) : Int) old) ∧ c.itr t1 it i h) where
  mem := by simp
  obj := fun i h ⟨⟨old, e0⟩, h1⟩ b hb => by
    simp only [List.mem_cons, List.not_mem_nil, or_false] at hb
    rcases hb with q | q <;> subst q
    · exact ⟨_, e0, fun v q => nomatch q⟩
    · exact Sc.itr_ob h1
  keep := fun i h h' ⟨⟨old, e0⟩, h1⟩ k => ⟨⟨old, k z (by simp) _ e0⟩, Sc.itr_at h1 fun o q => k it (by simp) o q⟩
  item := by
    intro X hP hw hK hc i pins s σ H E I hf ⟨⟨old, e0⟩, h1⟩ ⟨xs, x, hqx, hx⟩
    subst hP hw hK
    obtain ⟨s1, ok1, ad1, n1, it1, p1, _⟩ := Sc.src I hqx t1
    have D1 := (Src.draws (prog := X.prog) (w := X.w) (A := X.A.in1) (I.ok.hd hc) s1 it (by rw [ad1]; exact ni))
    have zl : z < s.heap.objs.size := Heap.lt_size e0
    refine wpAny_pyNext_enum_itemD D1 e0 ⟨(it1 _ _ _).mpr h1, ok1⟩ (by rw [n1]; exact (List.getElem?_eq_some_iff.mp hx).1) ne (by rw [List.mem_cons, ad1]; exact fun q => q.elim ne nz) fun u h' tk pu z' st' pr hsz hk => ?_
    obtain ⟨x', ex, ru⟩ := p1 i u pu
    rw [hx] at ex; cases ex
    refine ⟨_, rfl, wpAny_letOwnedTupleGo_enum (s := { s with heap := h', toks := tk + 1 }) z' fun h'' z'' sb => ?_⟩
    have pr2 : h''.get? s.heap.objs.size = some { cls := .type "tuple", data := .seq #[.int i tk, u] } := (sb.2 _ (Nat.ne_of_gt zl)).trans pr
    have new : ObjOk X.prog X.w (upd H s.heap.objs.size (.tup [.int (i : Nat), x])) h'' s.heap.objs.size (.tup [.int (i : Nat), x]) := ⟨by show 2 ≤ sizeLine; decide, [.int i tk, u], .cons ⟨_, rfl⟩ (.cons ru .nil), ⟨_, pr2, rfl, _, rfl⟩⟩
    have J := I.turnedNew (t' := tk + 1) (ch := [z, it]) (fun c o hb q => (sb.2 c (fun q' => hb (by simp [q']))).trans (hk c o (fun q' => hb (by simp [q'])) (fun q' => hb (by simp [q'])) q)) hf (Nat.le_refl _) new
    refine ⟨.ref s.heap.objs.size, _, J, rfl, ⟨_, x, rfl, I.hok.fresh (Nat.le_refl _), rfl, fun l hl => by rw [Sc.inj I hl hqx]; exact hx⟩, ⟨⟨u, ?_⟩, ?_⟩, fun b hb => ?_⟩
    · have e1 : ((i + 1 : Nat) : Int) = (i : Int) + 1 := by omega
      rw [e1]; exact z''
    · exact Sc.itr_at ((it1 _ _ _).mp st'.1) fun o q => (sb.2 it (Ne.symm ne)).trans q
    · have lt : b < s.heap.objs.size := by
        simp only [List.mem_cons, List.not_mem_nil, or_false] at hb
        rcases hb with q | q <;> subst q
        · exact zl
        · obtain ⟨_, e, _⟩ := Sc.itr_ob h1; exact Heap.lt_size e
      rw [upd_ne (Nat.ne_of_lt lt)]
      exact (hf b hb).1
  done := by
    intro X hP hw hK hc i pins s σ H E I hf ⟨⟨old, e0⟩, h1⟩ ⟨xs, hqx, hend⟩
    subst hP hw hK
    obtain ⟨s1, ok1, ad1, n1, it1, p1, _⟩ := Sc.src I hqx t1
    have D1 := (Src.draws (prog := X.prog) (w := X.w) (A := X.A.in1) (I.ok.hd hc) s1 it (by rw [ad1]; exact ni))
    obtain ⟨f0, f1, f2, f3, f4, f5⟩ := hf it (by simp)
    subst hend
    refine wpAny_pyNext_enum_endD D1 e0 (by rw [n1]; exact ⟨(it1 _ _ _).mpr h1, ok1⟩) fun h' eb => ⟨rfl, I.turned (t' := s.toks) (fun b o hb q => eb b o hb q) f0 f1 f3 f4 f5⟩
  self := fun A i s Q E st h => let ⟨⟨_, e0⟩, _⟩ := st; wpAny_pyIter_enum e0 h
set_option maxHeartbeats 8000000 in
theorem meets_enum2 (c : Src) : Meets (Builtin.«enumerate.__new__» ⟨[.type "enumerate", c.v], []⟩) (fun _ R s => c.ok s.heap ∧ R (.ok (.ret (.ref (s.heap.push c.ob).objs.size)))
    { s with heap := (s.heap.push c.ob).push { cls := .type "enumerate", data := .fields #[.none, .bool false, .ref s.heap.objs.size, rawInt 0, .none, .none] } }) :=
  .of_wp fun prog w A R s h => by
    obtain ⟨hp, gn, dr, tk, os⟩ := s; obtain ⟨k1, h⟩ := h
    have sub0 := sub_enumerate
    have L1 : c.ok (Shared.heap ⟨hp, gn, dr, tk, os⟩) := k1
    wp_walk
    refine wpAny_stack_any fun st => wpAny_pure ?_
    split
    · rename_i cc _ _ _ _ _
      cases (cc == Value.type "enumerate")
      · wp_walk using Src.iter L1; exact ⟨_, rfl, h⟩
      · wp_walk using Src.iter L1; exact ⟨_, rfl, h⟩
    · wp_walk using Src.iter L1; exact ⟨_, rfl, h⟩
theorem call_enum2 {prog : Program} {w : World} {A : Around} {E : Value → Shared → Prop} {s : Shared} {c : Src} {Q : Value → Shared → Prop} (k1 : c.ok s.heap)
    (h : ∀ h', IsEnum h' (s.heap.objs.size + 1) s.heap.objs.size 0 .none → c.itr s.heap.objs.size 0 h' → (∀ b o, s.heap.get? b = some o → h'.get? b = some o) → Q (.ref (s.heap.objs.size + 1)) { s with heap := h' }) : wpAny (model prog w) A (call (.type "enumerate") [c.v]) Q E s := by
  refine callType_new F.called_enumerate (by decide) (F.typeCall_enumerate_1 _) (F.newCall_enumerate_1 _) (fun obj => F.args_object_init_2 obj _) F.entry_enumerate_new (meets_enum2 c) ⟨k1, ?_⟩
  have q1 : (s.heap.push c.ob).objs.size = s.heap.objs.size + 1 := Heap.size_push ..
  have r2 : ((s.heap.push c.ob).push { cls := .type "enumerate", data := .fields #[.none, .bool false, .ref s.heap.objs.size, rawInt 0, .none, .none] }).get? (s.heap.push c.ob).objs.size = some _ := Heap.get?_push_size _ rfl
  show _ ∧ _
  rw [q1] at r2 ⊢
  exact ⟨⟨_, r2, rfl⟩, h _ r2 (Src.itr_at (Src.itr_new (h := s.heap)) fun o e => Heap.get?_push_of_some _ e) fun b o e => Heap.get?_push_of_some _ (Heap.get?_push_of_some _ e)⟩
def iEnum2 (K : PySem.W.Frag) (ta : TA) : TI := fun σ H R => ta σ H fun vs H1 => ∃ c xs, vs = [Sc.v c] ∧ c.is K H1 xs ∧ R (Ite2 K c) H1
theorem pi_enum2 {X : Cx} {e : Expr} {ta : TA} {p pos tpos : Pos} {elts : List Expr} {kk : Nat} (hg : Gl X "enumerate") (hm : X.mg "enumerate" = none) (ha : PA X [e] ta) (hs : starEach [e] X.env = [(false, eval e X.env)] := by rfl) : PI X (.Tuple elts kk tpos) (.Call (.Name "enumerate" p) [e] [] pos) (iEnum2 X.K ta) := by
  refine ⟨fun pins s σ H R I h => ?_⟩
  refine Call_ (ld_blt I hg hm boot_enumerate (callWith_type1 (thn (ha.run pos pins s σ H _ I h) fun us s1 ⟨vs, H1, I1, r1, c, xs, ex, hqx, q⟩ => ?_) hs rfl))
  subst ex
  obtain ⟨u1, rfl, r⟩ := vals1 r1
  obtain ⟨t1, e1⟩ := tok_of r
  obtain ⟨c1, ok1, ad1, n1, it1, p1, v1⟩ := Sc.src I1 hqx t1
  rw [← v1 u1 r e1]
  refine call_enum2 ok1 fun h' z0 j1 hk => wpAny_pyIter_enum z0 ?_
  have far : ∀ b, s1.heap.objs.size ≤ b → b ∉ c.ad := fun b hb z => by have := Src.lt ok1 b (by rw [ad1]; exact z); exact absurd this (Nat.not_lt.mpr hb)
  refine ⟨s1.heap.objs.size + 1, [s1.heap.objs.size + 1, s1.heap.objs.size], _, _, H1, rfl, I1.kept (t' := s1.toks) hk, turn_enum2 (t1 := t1) (Nat.succ_ne_self _) (far _ (Nat.le_succ _)) (far _ (Nat.le_refl _)), ⟨⟨_, z0⟩, (it1 _ _ _).mp j1⟩, fun b hb => ?_, q⟩
  have le : s1.heap.objs.size ≤ b := by
    simp only [List.mem_cons, List.not_mem_nil, or_false] at hb
    rcases hb with q | q <;> subst q
    · exact Nat.le_add_right _ _
    · exact Nat.le_refl _
  exact I1.fpOk le (I1.hok.fresh le)
end OP

/-! OU: zip and enumerate over data -/
namespace OP
open PySem PySem.Spec PyProof.Rows L2
def zipD (l k : List D) : List D := (l.zip k).map fun p => .tup [p.1, p.2]
def enumD (l : List D) : List D := l.zipIdx.map fun p => .tup [.int (p.2 : Nat), p.1]
section
variable {g : G} {Z H : Hp}
theorem rs_signs {x : Str} : ∀ l : List Nat, Rs g Z H (l.map fun c => .str ⟨#[c]⟩) (l.map fun c => V.str ⟨#[c]⟩) []
  | [] => ⟨rfl, rfl⟩
  | c :: l => ⟨_, _, [], [], rfl, rfl, ⟨⟨rfl, by show (1 : Nat) ≤ 16777216; decide⟩, rfl⟩, rs_signs (x := x) l⟩
theorem srcF {d : D} {v : V} {l : List D} (h : R g Z H d v []) (e : d.walk = some l) : ∃ c xs, v = Sc.v c ∧ c.is g.K Z xs ∧ Rs g Z H l xs [] := by
  cases d with
  | tup l' => cases e; obtain ⟨_, a, xs, e1, h1, h2⟩ := h; exact ⟨.t a, xs, e1, h1, h2⟩
  | lst o l' =>
    cases e
    cases o with
    | false => obtain ⟨_, a, xs, e1, h1, h2⟩ := h; exact ⟨.l a, xs, e1, SqL.of h1, h2⟩
    | true => obtain ⟨a, xs, fr, e1, e2, _⟩ := h; cases e2
  | xls l' => cases e; obtain ⟨_, a, xs, e1, h1, h2⟩ := h; exact ⟨.l a, xs, e1, h1, h2⟩
  | str s => cases e; exact ⟨.s s, _, h.1.1, rfl, rs_signs (x := s) _⟩
  | _ => cases e
theorem Sc.is_up {c : Sc} {xs : List V} {Z2 H2 : Hp} (zz : Sub Z Z2) (ok : Ok g Z2 H2 []) (h : c.is g.K Z xs) : c.is g.K H2 xs := by
  cases c with
  | l a => exact ok.zh.seqL (zz.seqL h)
  | t a => exact ok.zh.seqT (zz.seqT h)
  | s x => exact h
theorem zip_len {l k : List D} : (zipD l k).length = min l.length k.length := by unfold zipD; rw [List.length_map, List.length_zip]
theorem itf_zip {c d : Sc} {xs ys : List V} {l k : List D} (hc : c.is g.K Z xs) (hd : d.is g.K Z ys) (rl : Rs g Z H l xs []) (rk : Rs g Z H k ys []) : ItF g Z (zipD l k) (Itz2 g.K c d) where
  go := fun i Z2 H2 hi zz ok => by
    rw [zip_len] at hi
    obtain ⟨x, h1, _⟩ := Rs.getZ rl (List.getElem?_eq_getElem (show i < l.length by omega))
    obtain ⟨y, h2, _⟩ := Rs.getZ rk (List.getElem?_eq_getElem (show i < k.length by omega))
    exact ⟨xs, ys, x, y, Sc.is_up zz ok hc, Sc.is_up zz ok hd, h1, h2⟩
  stop := fun Z2 H2 zz ok => ⟨xs, ys, Sc.is_up zz ok hc, Sc.is_up zz ok hd, by rw [zip_len, Rs.len rl, Rs.len rk]; omega⟩
  yld := fun i Z2 H2 v H3 hi zz ok y => by
    rw [zip_len] at hi
    have il : i < l.length := by omega
    have ik : i < k.length := by omega
    obtain ⟨x', h1, b1⟩ := Rs.getZ rl (List.getElem?_eq_getElem il)
    obtain ⟨y', h2, b2⟩ := Rs.getZ rk (List.getElem?_eq_getElem ik)
    obtain ⟨p, x, y, rfl, hp, rfl, f1, f2⟩ := y
    have e1 := f1 xs (Sc.is_up zz ok hc)
    have e2 := f2 ys (Sc.is_up zz ok hd)
    rw [h1] at e1; rw [h2] at e2
    cases e1; cases e2
    have gr := Grw.new ok hp (o := .tup [x', y']) (fun ps z => by cases z)
    refine ⟨.tup [l[i], k[i]], _, ?_, gr, rfl, p, _, rfl, .inl (.inl upd_same), x', _, [], [], rfl, rfl, b1.mono0 (zz.trans gr.zz), y', [], [], [], rfl, rfl, b2.mono0 (zz.trans gr.zz), rfl, rfl⟩
    unfold zipD
    have hz : (l.zip k)[i]? = some (l[i], k[i]) := List.getElem?_zip_eq_some.mpr ⟨List.getElem?_eq_getElem il, List.getElem?_eq_getElem ik⟩
    rw [List.getElem?_map, hz]
    rfl
theorem itf_enum {c : Sc} {xs : List V} {l : List D} (hc : c.is g.K Z xs) (rl : Rs g Z H l xs []) : ItF g Z (enumD l) (Ite2 g.K c) where
  go := fun i Z2 H2 hi zz ok => by
    obtain ⟨x, h1, _⟩ := Rs.getZ rl (List.getElem?_eq_getElem (show i < l.length by simpa [enumD] using hi))
    exact ⟨xs, x, Sc.is_up zz ok hc, h1⟩
  stop := fun Z2 H2 zz ok => ⟨xs, Sc.is_up zz ok hc, by rw [Rs.len rl]; simp [enumD]⟩
  yld := fun i Z2 H2 v H3 hi zz ok y => by
    have il : i < l.length := by simpa [enumD] using hi
    obtain ⟨x', h1, b1⟩ := Rs.getZ rl (List.getElem?_eq_getElem il)
    obtain ⟨p, x, rfl, hp, rfl, f1⟩ := y
    have e1 := f1 xs (Sc.is_up zz ok hc)
    rw [h1] at e1
    cases e1
    have gr := Grw.new ok hp (o := .tup [.int (i : Nat), x']) (fun ps z => by cases z)
    refine ⟨.tup [.int (i : Nat), l[i]], _, ?_, gr, rfl, p, _, rfl, .inl (.inl upd_same), .int (i : Nat), _, [], [], rfl, rfl, ⟨rfl, rfl⟩, x', [], [], [], rfl, rfl, b1.mono0 (zz.trans gr.zz), rfl, rfl⟩
    unfold enumD
    rw [List.getElem?_map, List.getElem?_zipIdx, List.getElem?_eq_getElem il]
    simp
end
section
variable {X : Cx} {T : List (Addr × Str)} {W : WX} {a b : Expr} {p pos tpos : Pos} {elts : List Expr} {kk : Nat}
def wZip (m : MEA) : MEA := fun ρ => bE (m ρ) fun ds ρ1 => match D.fzs ds with
  | [x, y] => match x.walk, y.walk with
    | some l, some k => some (.ok (zipD l k), ρ1)
    | _, _ => none
  | _ => none
def wpZip (m : Rho → Option (O (List D))) : Rho → Option (O (List D)) := fun ρ => bnd (m ρ) fun ds => if D.frzs ds then match ds with
  | [x, y] => match x.walk, y.walk with
    | some l, some k => some (.ok (zipD l k))
    | _, _ => none
  | _ => none else none
def wEnum (m : MEA) : MEA := fun ρ => bE (m ρ) fun ds ρ1 => match D.fzs ds with
  | [x] => match x.walk with
    | some l => some (.ok (enumD l), ρ1)
    | _ => none
  | _ => none
def wpEnum (m : Rho → Option (O (List D))) : Rho → Option (O (List D)) := fun ρ => bnd (m ρ) fun ds => if D.frzs ds then match ds with
  | [x] => match x.walk with
    | some l => some (.ok (enumD l))
    | _ => none
  | _ => none else none
theorem Rs.two {g : G} {Z H : Hp} {x y : D} {vs : List V} (h : Rs g Z H [x, y] vs []) : ∃ v w, vs = [v, w] ∧ R g Z H x v [] ∧ R g Z H y w [] := by
  obtain ⟨v, r, e1, h1, h2⟩ := h.nil'
  obtain ⟨w, r2, e2, h3, h4⟩ := h2.nil'
  rw [h4.1] at e2
  exact ⟨v, w, by rw [e1, e2], h1, h3⟩
theorem Rs.one {g : G} {Z H : Hp} {x : D} {vs : List V} (h : Rs g Z H [x] vs []) : ∃ v, vs = [v] ∧ R g Z H x v [] := by
  obtain ⟨v, r, e1, h1, h2⟩ := h.nil'
  rw [h2.1] at e1
  exact ⟨v, e1, h1⟩
theorem ci_zip {m : MEA} (hg : Gl X "zip") (hm : X.mg "zip" = none) (ha : PA X [a, b] (cEA (gx X T) W m)) (hs : starEach [a, b] X.env = (false, eval a X.env) :: starEach [b] X.env := by rfl) (hpl : (backTo pos (starEach [b] X.env)).any (·.1) = false := by rfl) :
    PI X (.Tuple elts kk tpos) (.Call (.Name "zip" p) [a, b] [] pos) (cIE (gx X T) W (wZip m)) := (pi_zip2 hg hm ha hs hpl).imp fun σ H R' ⟨Z, ρ, fp, x, hm, ok, re, q⟩ => by
  refine cEA.go hm ok re q.x fun ds vs ρ1 Z1 H1 fe fd hm1 s1 re1 r1 => ?_
  have s1p := s1.permR List.perm_append_comm
  obtain ⟨Z2, s2, r2⟩ := Rs.toFz r1 s1p.ok
  split at hm1
  · rename_i x y e0
    split at hm1
    · rename_i l k e1 e2
      cases Option.some.inj hm1
      rw [e0] at r2
      obtain ⟨v, w, rfl, ra, rb⟩ := r2.two
      obtain ⟨c, xs, rfl, c1, c2⟩ := srcF ra e1
      obtain ⟨d, ys, rfl, d1, d2⟩ := srcF rb e2
      exact ⟨c, d, xs, ys, rfl, Sc.is_up (Sub.refl _) s2.ok.none c1, Sc.is_up (Sub.refl _) s2.ok.none d1, q _ Z2 H1 fe (s1p.trans s2) (RE.mono s2.zz (fun _ _ => rfl) re1) (itf_zip c1 d1 c2 d2)⟩
    · cases hm1
  · cases hm1
theorem ci_enum {m : MEA} (hg : Gl X "enumerate") (hm : X.mg "enumerate" = none) (ha : PA X [a] (cEA (gx X T) W m)) (hs : starEach [a] X.env = [(false, eval a X.env)] := by rfl) :
    PI X (.Tuple elts kk tpos) (.Call (.Name "enumerate" p) [a] [] pos) (cIE (gx X T) W (wEnum m)) := (pi_enum2 hg hm ha hs).imp fun σ H R' ⟨Z, ρ, fp, x, hm, ok, re, q⟩ => by
  refine cEA.go hm ok re q.x fun ds vs ρ1 Z1 H1 fe fd hm1 s1 re1 r1 => ?_
  have s1p := s1.permR List.perm_append_comm
  obtain ⟨Z2, s2, r2⟩ := Rs.toFz r1 s1p.ok
  split at hm1
  · rename_i x e0
    split at hm1
    · rename_i l e1
      cases Option.some.inj hm1
      rw [e0] at r2
      obtain ⟨v, rfl, ra⟩ := r2.one
      obtain ⟨c, xs, rfl, c1, c2⟩ := srcF ra e1
      exact ⟨c, xs, rfl, Sc.is_up (Sub.refl _) s2.ok.none c1, q _ Z2 H1 fe (s1p.trans s2) (RE.mono s2.zz (fun _ _ => rfl) re1) (itf_enum c1 c2)⟩
    · cases hm1
  · cases hm1
theorem cip_zip {m : Rho → Option (O (List D))} (hg : Gl X "zip") (hm : X.mg "zip" = none) (ha : PA X [a, b] (cPA (gx X T) W m)) (hs : starEach [a, b] X.env = (false, eval a X.env) :: starEach [b] X.env := by rfl) (hpl : (backTo pos (starEach [b] X.env)).any (·.1) = false := by rfl) :
    PI X (.Tuple elts kk tpos) (.Call (.Name "zip" p) [a, b] [] pos) (cIP (gx X T) W (wpZip m)) := (pi_zip2 hg hm ha hs hpl).imp fun σ H R' ⟨Z, ρ, fp, o, hm, ok, re, q⟩ => by
  refine cPA.go hm ok re q.x fun ds vs Z1 H1 hm1 g1 ok1 re1 b1 => ?_
  split at hm1
  · rename_i fz
    have r2 := Bs.rs b1 fz
    split at hm1
    · rename_i x y
      split at hm1
      · rename_i l k e1 e2
        cases Option.some.inj hm1
        obtain ⟨v, w, rfl, ra, rb⟩ := r2.two
        obtain ⟨c, xs, rfl, c1, c2⟩ := srcF ra e1
        obtain ⟨d, ys, rfl, d1, d2⟩ := srcF rb e2
        exact ⟨c, d, xs, ys, rfl, Sc.is_up (Sub.refl _) ok1.none c1, Sc.is_up (Sub.refl _) ok1.none d1, q _ Z1 H1 g1 (itf_zip c1 d1 c2 d2).itp⟩
      · cases hm1
    · cases hm1
  · cases hm1
theorem cip_enum {m : Rho → Option (O (List D))} (hg : Gl X "enumerate") (hm : X.mg "enumerate" = none) (ha : PA X [a] (cPA (gx X T) W m)) (hs : starEach [a] X.env = [(false, eval a X.env)] := by rfl) :
    PI X (.Tuple elts kk tpos) (.Call (.Name "enumerate" p) [a] [] pos) (cIP (gx X T) W (wpEnum m)) := (pi_enum2 hg hm ha hs).imp fun σ H R' ⟨Z, ρ, fp, o, hm, ok, re, q⟩ => by
  refine cPA.go hm ok re q.x fun ds vs Z1 H1 hm1 g1 ok1 re1 b1 => ?_
  split at hm1
  · rename_i fz
    have r2 := Bs.rs b1 fz
    split at hm1
    · rename_i x
      split at hm1
      · rename_i l e1
        cases Option.some.inj hm1
        obtain ⟨v, rfl, ra⟩ := r2.one
        obtain ⟨c, xs, rfl, c1, c2⟩ := srcF ra e1
        exact ⟨c, xs, rfl, Sc.is_up (Sub.refl _) ok1.none c1, q _ Z1 H1 g1 (itf_enum c1 c2).itp⟩
      · cases hm1
    · cases hm1
  · cases hm1
end
end OP

/-! OV: comprehensions of two clauses -/
namespace OP
open PySem PySem.Spec PyProof.Rows L2
/-- a walk over a frozen thing, nothing changed -/
def PostIF (g : G) (W : WX) (σ : L2.St) (Z H : Hp) (o : O (List D)) (R : It → Hp → Prop) : Prop := match o with
  | .ok ds => ∀ J Z' H', Grw g Z H Z' H' → ItF g Z' ds J → R J H'
  | .exc c ks vs => ∀ cls dx Z' H', Grw g Z H Z' H' → XRp g Z' H' c ks vs cls dx → W cls dx σ H'
def cIF (g : G) (W : WX) (m : Rho → Option (O (List D))) : TI := fun σ H R => ∃ Z ρ fp o, m ρ = some o ∧ Ok g Z H fp ∧ RE g Z H ρ σ fp ∧ PostIF g W σ Z H o R
def lcP2 (t : MT) (c : Rho → Option (O Bool)) (m1 : Rho → Option (O (List D))) (t1 : MT) (c1 : Rho → Option (O Bool)) (me : Rho → Option (O D)) (vs1 : List Nat) (ρ : Rho) : List D → Option (List D)
  | [] => some []
  | d :: ds => match t d ρ with
    | none => none
    | some ρ1 => match c ρ1 with
      | some (.ok true) => match m1 ρ1 with
        | some (.ok ds1) => match lcP t1 c1 me (wipeR ρ1 vs1) ds1 with
          | some r1 => (lcP2 t c m1 t1 c1 me vs1 ρ ds).map fun r => r1 ++ r
          | none => none
        | _ => none
      | some (.ok false) => lcP2 t c m1 t1 c1 me vs1 ρ ds
      | _ => none
def pLc2 (m : Rho → Option (O (List D))) (t : MT) (c : Rho → Option (O Bool)) (m1 : Rho → Option (O (List D))) (t1 : MT) (c1 : Rho → Option (O Bool)) (me : Rho → Option (O D)) (vs vs1 : List Nat) : Rho → Option (O D) := fun ρ => bnd (m ρ) fun ds =>
  if D.frzs ds then match lcP2 t c m1 t1 c1 me vs1 (wipeR ρ vs) ds with
    | some out => if out.length ≤ 16777216 then some (.ok (.lst false out)) else none
    | none => none
  else none
section
variable {X : Cx} {T : List (Addr × Str)} {W : WX}
theorem rest_frz {t1 : MT} {c1 : Rho → Option (O Bool)} {me : Rho → Option (O D)} {ρ : Rho} : ∀ {ds : List D} {r : List D}, lcP t1 c1 me ρ ds = some r → D.frzs r = true
  | [], r, h => by cases h; rfl
  | d :: ds, r, h => by
    simp only [lcP] at h
    split at h
    · cases h
    · split at h
      · split at h
        · split at h
          · rename_i hy
            obtain ⟨r', e, rfl⟩ := map_some h
            show (_ && _) = true
            rw [hy, rest_frz e]; rfl
          · cases h
        · cases h
      · exact rest_frz h
      · cases h
theorem lcP2_reads {m : Rho → Option (O (List D))} {t : MT} {c : Rho → Option (O Bool)} {m1 : Rho → Option (O (List D))} {t1 : MT} {c1 : Rho → Option (O Bool)} {me : Rho → Option (O D)} {vs vs1 : List Nat} {σ : L2.St} {H : Hp} {Q : VK} (h : cP (gx X T) W (pLc2 m t c m1 t1 c1 me vs vs1) σ H Q) :
    tLc2 (cIP (gx X T) W m) (cG (gx X T) (fun i => i ∉ vs) t) (cPT (gx X T) W0 c) (cIF (gx X T) W0 m1) (cG (gx X T) (fun i => i ∉ vs1) t1) (cPT (gx X T) W0 c1) (cP (gx X T) W0 me) vs vs1 σ H Q := by
  obtain ⟨Z, ρ, fp, x, hm, ok, re, q⟩ := h
  rcases bnd_some hm with ⟨ds, e, hka⟩ | ⟨c', ks, vs', e, eo⟩
  · refine ⟨Z, ρ, fp, _, e, ok, re, fun It Z1 H1 g1 it => ?_⟩
    split at hka
    · rename_i hfz
      split at hka
      · rename_i out hlc
        split at hka
        · rename_i hsz
          cases Option.some.inj hka
          intro L hL
          have ok1 := Grw.ok g1 ok
          obtain ⟨fw, fr, rew, pw⟩ := (re.grow g1).wipe vs
          have okw := ok1.perm pw
          have sL := Stp.newO ok1.none hL (o := .lst []) (fun ps z => by cases z)
          have nL : L ∉ fw := fun z => okw.hf L (by simp [z]) (Nt.none hL)
          have sLf := sL.frame (fr := fw) okw.sub
          have gW : ∀ {Z2 H2}, Stp (gx X T) Z1 H1 [] Z2 H2 [L] → Grw (gx X T) Z1 H1 Z2 H2 := fun s => Stp.drop (fp' := []) s
          -- what holds ahead of the items of todo
          let St0 : List D → Hp → Prop := fun todo H' => ∃ Z' acc accD rest, lcP2 t c m1 t1 c1 me vs1 (wipeR ρ vs) todo = some rest ∧ accD ++ rest = out ∧ RE (gx X T) Z' H' (wipeR ρ vs) (wipe σ vs) fw ∧ H' L = some (.lst acc) ∧ Rs (gx X T) Z' H' accD acc [] ∧ Ok (gx X T) Z' H' ([L] ++ fw) ∧ Stp (gx X T) Z1 H1 [] Z' H' [L]
          refine ⟨fun i m H' => i + m = ds.length ∧ St0 (ds.drop i) H', ⟨ds.length, by simp, Z1, [], [], out, by simpa using hlc, rfl, RE.mono (Sub.refl _) (upd_other nL) rew, upd_same, ⟨rfl, rfl⟩, sLf.ok, sL⟩, ?_⟩
          rintro i m H' ⟨hl, Z', acc, accD, rest, hlp, happ, re', hacc, racc, okL, s'⟩
          by_cases hi : i < ds.length
          · refine .inr ⟨it.go i Z' H' hi (gW s'), St0 (ds.drop (i + 1)), fun H2 n => ⟨m - 1, by omega, by omega, n⟩, fun xv H3 y => ?_⟩
            obtain ⟨d, Z3, hd, g3, b3⟩ := it.yld i Z' H' xv H3 hi (gW s') y
            have hdr : ds.drop i = d :: ds.drop (i + 1) := by
              rw [List.drop_eq_getElem_cons hi]
              have : ds[i] = d := by
                rw [List.getElem?_eq_getElem hi] at hd
                exact Option.some.inj hd
              rw [this]
            rw [hdr] at hlp
            have r3 := b3.frz (frz_at hfz hd)
            have s3 := s'.trans (Grw.stp g3 s'.ok)
            have ok3 := Grw.ok g3 okL
            have re3 := re'.grow g3
            have racc3 := Rs.grow racc g3
            have hacc3 : H3 L = some (.lst acc) := g3.keep L _ hacc (by simp) (fun ps z => by cases z)
            simp only [lcP2] at hlp
            split at hlp
            · cases hlp
            · rename_i ρ4 ht
              refine ⟨Z3, wipeR ρ vs, fw, [], d, ρ4, ht, by rw [List.append_nil]; exact ok3.subR, re3, r3, fun σ4 f4 fr4 k4 p4 re4 => ⟨wipe_of k4, ?_⟩⟩
              rw [List.append_nil] at p4
              have ok4 : Ok (gx X T) Z3 H3 f4 := (ok3.subR.perm p4).sub
              split at hlp
              · rename_i hc6
                refine ⟨Z3, ρ4, f4, _, hc6, ok4, re4, fun Z6 H6 g6 => iteT ?_⟩
                split at hlp
                · rename_i ds1 hm1
                  split at hlp
                  · rename_i r1 hlc1
                    obtain ⟨rr, hrr, hrest⟩ := map_some hlp
                    refine ⟨Z6, ρ4, f4, _, hm1, Grw.ok g6 ok4, re4.grow g6, fun J1 Z7 H7 g7 it1 => ?_⟩
                    have g67 := Grw.trans g6 g7
                    have ok7 := Grw.ok g67 ok3
                    have s7 := s3.trans (Grw.stp g67 s3.ok)
                    obtain ⟨f5, fr5, re5, p5⟩ := (re4.grow g67).wipe vs1
                    have nL5 : L ∉ f5 := fun z => by
                      have : L ∈ fw := p4.mem_iff.mpr (by simp [p5.mem_iff, z])
                      exact nL this
                    refine ⟨fun j k H' => j + k = ds1.length ∧ ∃ Z' acc accD rest, lcP t1 c1 me (wipeR ρ4 vs1) (ds1.drop j) = some rest ∧ accD ++ (rest ++ rr) = out ∧ RE (gx X T) Z' H' (wipeR ρ vs) (wipe σ vs) fw ∧ RE (gx X T) Z' H' (wipeR ρ4 vs1) (wipe σ4 vs1) f5 ∧ H' L = some (.lst acc) ∧
                        Rs (gx X T) Z' H' accD acc [] ∧ Ok (gx X T) Z' H' ([L] ++ fw) ∧ Stp (gx X T) Z1 H1 [] Z' H' [L] ∧ Sub Z7 Z',
                      ⟨ds1.length, by simp, Z7, acc, accD, r1, by simpa using hlc1, by rw [hrest]; exact happ, re3.grow g67, re5, g67.keep L _ hacc3 (by simp) (fun ps z => by cases z), Rs.grow racc3 g67, ok7, s7, Sub.refl _⟩, ?_⟩
                    rintro j k H8 ⟨hl1, Z8, acc8, accD8, rest8, hlp8, happ8, re8, rf8, hacc8, racc8, ok8, s8, zz8⟩
                    by_cases hj : j < ds1.length
                    · refine .inr ⟨it1.go j Z8 H8 hj zz8 ok8.none, fun H' => ∃ Z' acc accD rest, lcP t1 c1 me (wipeR ρ4 vs1) (ds1.drop (j + 1)) = some rest ∧ accD ++ (rest ++ rr) = out ∧ RE (gx X T) Z' H' (wipeR ρ vs) (wipe σ vs) fw ∧ RE (gx X T) Z' H' (wipeR ρ4 vs1) (wipe σ4 vs1) f5 ∧ H' L = some (.lst acc) ∧
                        Rs (gx X T) Z' H' accD acc [] ∧ Ok (gx X T) Z' H' ([L] ++ fw) ∧ Stp (gx X T) Z1 H1 [] Z' H' [L] ∧ Sub Z7 Z', fun H2 n => ⟨k - 1, by omega, by omega, n⟩, fun xv1 H9 y1 => ?_⟩
                      obtain ⟨d1, Z9, hd1, g9, r9⟩ := it1.yld j Z8 H8 xv1 H9 hj zz8 ok8.none y1
                      have hdr1 : ds1.drop j = d1 :: ds1.drop (j + 1) := by
                        rw [List.drop_eq_getElem_cons hj]
                        have : ds1[j] = d1 := by
                          rw [List.getElem?_eq_getElem hj] at hd1
                          exact Option.some.inj hd1
                        rw [this]
                      rw [hdr1] at hlp8
                      have s9 := s8.trans (Grw.stp g9 s8.ok)
                      have ok9 := Grw.ok g9 ok8
                      have re9 := re8.grow g9
                      have rf9 := rf8.grow g9
                      have racc9 := Rs.grow racc8 g9
                      have hacc9 : H9 L = some (.lst acc8) := g9.keep L _ hacc8 (by simp) (fun ps z => by cases z)
                      have okf9 : Ok (gx X T) Z9 H9 f5 := by
                        have o1 := ok9.subR.perm p4
                        exact (o1.sub.perm p5).sub
                      simp only [lcP] at hlp8
                      split at hlp8
                      · cases hlp8
                      · rename_i ρ5 ht1
                        refine ⟨Z9, wipeR ρ4 vs1, f5, [], d1, ρ5, ht1, by rw [List.append_nil]; exact okf9, rf9, r9, fun σ5 f6 fr6 k6 p6 re6 => ⟨wipe_of k6, ?_⟩⟩
                        rw [List.append_nil] at p6
                        have ok6 : Ok (gx X T) Z9 H9 f6 := (okf9.perm p6).sub
                        split at hlp8
                        · rename_i hc7
                          refine ⟨Z9, ρ5, f6, _, hc7, ok6, re6, fun Za Ha ga => iteT ?_⟩
                          split at hlp8
                          · rename_i y hm7
                            split at hlp8
                            · rename_i hyf
                              refine ⟨Za, ρ5, f6, _, hm7, Grw.ok ga ok6, re6.grow ga, fun v Zb Hb gb bb => ?_⟩
                              obtain ⟨r, er, hr8⟩ := map_some hlp8
                              have gg := Grw.trans ga gb
                              have raccb := Rs.grow racc9 gg
                              have haccb : Hb L = some (.lst acc8) := gg.keep L _ hacc9 (by simp) (fun ps z => by cases z)
                              have okb := Grw.ok gg ok9
                              have sb := s9.trans (Grw.stp gg s9.ok)
                              have hlen : acc8.length < sizeLine := by
                                rw [sl_eq, Rs.len raccb]
                                have := congrArg List.length happ8
                                rw [← hr8, List.length_append, List.length_append, List.length_cons] at this
                                omega
                              have sw := Stp.write sb.ok (List.mem_cons_self) haccb (fun ps z => by cases z) (o := .lst (acc8 ++ [v])) (fun ps z => by cases z) (fun c q z => by unfold LamX.CodeO at z; cases z)
                              have swf := sw.frame (fr := fw) okb
                              refine ⟨acc8, haccb, hlen, Zb, acc8 ++ [v], accD8 ++ [y], r, er, by rw [← happ8, ← hr8]; simp, ?_, ?_, upd_same, ?_, swf.ok, sb.trans sw, zz8.trans (g9.zz.trans gg.zz)⟩
                              · exact RE.mono (Sub.refl _) (upd_other nL) (re9.grow gg)
                              · exact RE.mono (Sub.refl _) (upd_other nL5) (rf9.grow gg)
                              · exact Rs.app (f1 := []) (f2 := []) (Rs.mono (Sub.refl _) (by simp) raccb) ⟨v, [], [], [], rfl, rfl, R.mono (Sub.refl _) (by simp) (bb.frz hyf), rfl, rfl⟩
                            · cases hlp8
                          · cases hlp8
                        · rename_i hc7
                          refine ⟨Z9, ρ5, f6, _, hc7, ok6, re6, fun Za Ha ga => iteF ?_⟩
                          exact ⟨Za, acc8, accD8, rest8, hlp8, happ8, re9.grow ga, rf9.grow ga, ga.keep L _ hacc9 (by simp) (fun ps z => by cases z), Rs.grow racc9 ga, Grw.ok ga ok9, s9.trans (Grw.stp ga s9.ok), zz8.trans (g9.zz.trans ga.zz)⟩
                        · cases hlp8
                    · have e0 : ds1.drop j = [] := List.drop_eq_nil_of_le (by omega)
                      rw [e0] at hlp8
                      have e2 : j = ds1.length := by omega
                      cases Option.some.inj hlp8
                      exact .inl ⟨by rw [e2]; exact it1.stop Z8 H8 zz8 ok8.none, Z8, acc8, accD8, rr, hrr, happ8, re8, hacc8, racc8, ok8, s8⟩
                  · cases hlp
                · cases hlp
              · rename_i hc6
                refine ⟨Z3, ρ4, f4, _, hc6, ok4, re4, fun Z6 H6 g6 => iteF ?_⟩
                exact ⟨Z6, acc, accD, rest, hlp, happ, re3.grow g6, g6.keep L _ hacc3 (by simp) (fun ps z => by cases z), Rs.grow racc3 g6, Grw.ok g6 ok3, s3.trans (Grw.stp g6 s3.ok)⟩
              · cases hlp
          · have e0 : ds.drop i = [] := List.drop_eq_nil_of_le (by omega)
            rw [e0] at hlp
            have e2 : i = ds.length := by omega
            cases Option.some.inj hlp
            refine .inl ⟨by rw [e2]; exact it.stop Z' H' (gW s'), ?_⟩
            have rL : R (gx X T) Z' H' (.lst true accD) (.ref L) [L] := ⟨L, acc, [], rfl, rfl, hacc, racc⟩
            obtain ⟨Z9, s9, r9⟩ := rL.toFz (fp := []) s'.ok
            refine q _ Z9 H' (Grw.trans g1 (s'.trans s9)) ⟨[], ?_⟩
            have hfz : (D.lst true accD).fz = .lst false out := by
              show D.lst false (D.fzs accD) = _
              rw [Rs.isFz racc, ← happ, List.append_nil]
            rw [← hfz]
            exact r9
        · cases hka
      · cases hka
    · cases hka
  · subst eo
    exact ⟨Z, ρ, fp, _, e, ok, re, q⟩
variable {e tg : Expr} {es : List Expr} {elt iter tg1 iter1 : Expr} {ifs ifs1 : List Expr} {scope : Scope} {own : List (Str × Nat)} {vs1 : List Nat} {pos : Pos}
def wPF (m : Rho → Option (O D)) : Rho → Option (O (List D)) := fun ρ => bnd (m ρ) fun d => if d.frz then ret d.walk else none
theorem ci_pf {m : Rho → Option (O D)} (h : PE X e (cP (gx X T) W m)) : PI X tg e (cIF (gx X T) W (wPF m)) := (pi_any h).imp fun σ H R' ⟨Z, ρ, fp, o, hm, ok, re, q⟩ => by
  have qx : ∀ c ks vs, o = .exc c ks vs → ∀ cls dx Z' H', Grw (gx X T) Z H Z' H' → XRp (gx X T) Z' H' c ks vs cls dx → W cls dx σ H' := fun c ks vs e => by subst e; exact q
  refine cP.go hm ok re qx fun d v Z1 H1 hm1 g1 ok1 re1 b1 => ?_
  split at hm1
  · rename_i fz
    obtain ⟨l, hl, rfl⟩ := ret_eq hm1
    exact walkF ok1.zh (b1.frz fz) hl fun J it => q J Z1 H1 g1 it
  · cases hm1
theorem cp_lc2 {m : Rho → Option (O (List D))} {t : MT} {c : Rho → Option (O Bool)} {m1 : Rho → Option (O (List D))} {t1 : MT} {c1 : Rho → Option (O Bool)} {me : Rho → Option (O D)} (hc : X.calm = true) (hN : X.N.Nodup) (hi : PI X tg iter (cIP (gx X T) W m)) (ok : BlkOk X.N X.env.scope scope own) (hv : ∀ i ∈ vs1, i ∈ own.map (·.2))
    (hg : ∀ (s : Shared) (H : Hp) (C : Addr) (cl : List (Str × Addr)) (fp : List Addr), PG (X.blk s H scope (compEnvC scope cl C X.env) fp) tg (cG (gx X T) (fun i => i ∉ own.map (·.2)) t))
    (ht : ∀ (s : Shared) (H : Hp) (C : Addr) (cl : List (Str × Addr)) (fp : List Addr), PTs (X.blk s H scope (compEnvC scope cl C X.env) fp) ifs (cPT (gx X T) W0 c))
    (hi1 : ∀ (s : Shared) (H : Hp) (C : Addr) (cl : List (Str × Addr)) (fp : List Addr), PI (X.blk s H scope (compEnvC scope cl C X.env) fp) tg1 iter1 (cIF (gx X T) W0 m1))
    (hg1 : ∀ (s : Shared) (H : Hp) (C : Addr) (cl : List (Str × Addr)) (fp : List Addr), PG (X.blk s H scope (compEnvC scope cl C X.env) fp) tg1 (cG (gx X T) (fun i => i ∉ vs1) t1))
    (ht1 : ∀ (s : Shared) (H : Hp) (C : Addr) (cl : List (Str × Addr)) (fp : List Addr), PTs (X.blk s H scope (compEnvC scope cl C X.env) fp) ifs1 (cPT (gx X T) W0 c1))
    (he : ∀ (s : Shared) (H : Hp) (C : Addr) (cl : List (Str × Addr)) (fp : List Addr), PE (X.blk s H scope (compEnvC scope cl C X.env) fp) elt (cP (gx X T) W0 me)) (hs : ∀ x, foldedSetIterable iter X.env x = pure x := by intro _; rfl) (hs1 : ∀ env x, foldedSetIterable iter1 env x = pure x := by intro _ _; rfl) :
    PE X (.ListComp elt [⟨tg, iter, ifs, 0⟩, ⟨tg1, iter1, ifs1, 0⟩] scope pos) (cP (gx X T) W (pLc2 m t c m1 t1 c1 me (own.map (·.2)) vs1)) := (pe_lc2 hc hN hi ok hv hg ht hi1 hg1 ht1 he hs hs1).imp fun _ _ _ h => lcP2_reads h
end
end OP

/-! OW: a set of a list of ints, sorted -/
namespace OP
open PySem PySem.Spec PyProof.Rows L2
/-- a new set -/
abbrev sOb (w : World) : Obj := { cls := .type "set", dict := none, data := .set #[] 0 (.fresh 0 0 (!w.params.followText "set-order")) }
section
variable {P : Program} {w : World} {A : Around} {E : Value → Shared → Prop} {s : Shared}
theorem call_setL {a : Addr} {its : Array Value} (ns : List Int) {Q : Value → Shared → Prop} (nh : A.handled = none) (hl : s.heap.IsList a its) (iv : IntsAre its.toList ns) (few : ns.length + 1 < scanBound)
    (h : ∀ (h' : Heap) (tk c : Nat), SetR w h' s.heap.objs.size (fun j => decide (j ∈ ns)) c → c ≤ ns.length → (∀ b o, s.heap.get? b = some o → h'.get? b = some o) → Q (.ref s.heap.objs.size) { s with heap := h', toks := tk }) : wpAny (model P w) A (call (.type "set") [.ref a]) Q E s := by
  have sz : its.size = ns.length := (Array.length_toList (xs := its)).symm.trans (IntsAre.length iv)
  obtain ⟨c0, tl0, f0⟩ := F.called_set.mro
  have f1 := F.called_set.made
  have f2 := F.called_set.sub
  have f3 := F.called_set.notType
  have f4 := F.called_set.canCreate
  have f5 := F.typeCall_set_1 (.ref a)
  refine wpAny_call (codeAny_of_tree (show wpAny _ _ (callAny (.type "set") _) _ _ _ from wpAny_pure ⟨Code.quiet_builtin _ (by decide +kernel), codeAny_builtin F.entry_type_call ?_⟩))
  rw [Around.under_plain (weight_type_call_type "set" [.ref a] []) rfl]
  repeat' (any_goals (first | assumption | wp_step))

  refine codeAny_mono (code_set_led1 (.ref a) (E := E) (Q₁ := fun obj s1 => obj = .ref s.heap.objs.size ∧ s1 = { s with heap := s.heap.push (sOb w) }) ⟨rfl, rfl⟩) fun r s1 hr => ?_
  rcases r with e | fl
  · exact hr
  · cases fl with
    | ret obj =>
      obtain ⟨rfl, rfl⟩ := hr
      have g0 : (s.heap.push (sOb w)).get? s.heap.objs.size = some (sOb w) := Heap.get?_push_size _ rfl
      have ty0 : Shared.TypeIs { s with heap := s.heap.push (sOb w) } (.ref s.heap.objs.size) "set" := ⟨_, g0, rfl⟩
      have f6 := F.called_set.init.lookup
      have f7 := F.called_set.init.bind (.ref s.heap.objs.size)
      repeat' (any_goals (first | assumption | wp_step))

      refine codeAny_mono (codeAny_call_builtin (R := wants (fun r s2 => r = .none ∧ ∃ h' tk c, s2 = { s with heap := h', toks := tk } ∧ SetR w h' s.heap.objs.size (fun j => decide (j ∈ ns)) c ∧ c ≤ ns.length ∧ (∀ b o, s.heap.get? b = some o → h'.get? b = some o)) E) F.called_set.init.plain F.entry_set_init (check_set_init_1 ty0 ?_)) fun r2 s2 hr2 => ?_
      · obtain ⟨⟨oc, od, odt, osl⟩, ho, hcl, n0, hdl⟩ := hl
        simp only at hcl hdl
        subst hcl; subst hdl
        have ho' : (s.heap.push (sOb w)).get? a = some { cls := .type "list", dict := od, data := .seq its n0, slots := osl } := Heap.get?_push_of_some _ ho
        have f8 := F.sub_list_set
        have f9 := F.sub_list_frozenset
        have fA : (Value.type "list" == Value.type "dict") = false := by decide
        have hl1 : (s.heap.push (sOb w)).IsList a its := ⟨_, ho', rfl, n0, rfl⟩
        unfold Builtin.«set.__init__» noKeywords Builtin.Frozenset.updateFrom
        generalize hPI : pyIter = PI
        wp_walk
        subst hPI

        refine wpAny_pyIter_list hl1 (wpAny_bind (wpAny_runValue ?_))
        have la : a < s.heap.objs.size := Heap.lt_size ho
        have nh3 : A.in1.in1.in1.handled = none := by simp [nh]
        have sz1 : (s.heap.push (sOb w)).objs.size = s.heap.objs.size + 1 := Heap.size_push ..
        have na : a ≠ (s.heap.push (sOb w)).objs.size := by rw [sz1]; exact Nat.ne_of_lt (Nat.lt_succ_of_lt la)
        have nS : s.heap.objs.size ∉ [(s.heap.push (sOb w)).objs.size, a] := by
          rw [sz1]
          simp only [List.mem_cons, List.not_mem_nil, or_false, not_or]
          exact ⟨Nat.ne_of_lt (Nat.lt_succ_self _), Nat.ne_of_gt la⟩
        have vals : ∀ (i : Nat) (v : Value), its[i]? = some v → ∃ k t, ns[i]? = some k ∧ v = .int k t := fun i v hv => by
          have hi : i < ns.length := by rw [← sz]; exact (Array.getElem?_eq_some_iff.mp hv).1
          obtain ⟨t, e⟩ := IntsAre.int_at iv i v (by rw [Array.getElem?_toList]; exact hv)
          exact ⟨ns[i], t, List.getElem?_eq_getElem hi, by rw [e, List.getD_eq_getElem?_getD, List.getElem?_eq_getElem hi]; rfl⟩
        refine set_update_ints ((Walks.list nh3 _ a na its).toS) s.heap.objs.size nS ns sz few vals (its.size - 0) 0 _ (by omega) (Nat.zero_le _) ⟨⟨_, Heap.get?_push_size _ rfl, rfl, rfl⟩, (hl1.push _)⟩ ?k1 ?k2
        case k1 =>
          have g1 : ((s.heap.push (sOb w)).push { cls := .type "list_iterator", data := .fields #[.ref a, .int 0 0] }).get? s.heap.objs.size = some (sOb w) := Heap.get?_push_of_some _ g0
          exact ⟨0, Nat.le_refl 0, setR_new_at g1⟩
        case k2 =>
          intro s3 c3 hm hc3 hS3
          obtain ⟨h3, g3, d3, tk3, os3⟩ := s3
          obtain rfl : g3 = s.gens := hm.gens
          obtain rfl : d3 = s.drawn := hm.drawn
          obtain rfl : os3 = s.os := hm.os
          show wpAny _ _ _ _ _ _
          refine wpAny_pure (show wpAny _ _ (PySem.ret Value.none) _ _ _ from wpAny_pure ⟨rfl, h3, tk3, c3, rfl, hS3, by rw [sz] at hc3; exact hc3, fun b o e => ?_⟩)
          have lb : b < s.heap.objs.size := Heap.lt_size e
          refine hm.heap b o ?_ (Heap.get?_push_of_some _ (Heap.get?_push_of_some _ e))
          simp only [List.mem_cons, List.not_mem_nil, or_false, not_or]
          exact ⟨Nat.ne_of_lt lb, by rw [sz1]; exact Nat.ne_of_lt (Nat.lt_succ_of_lt lb)⟩

      · rcases r2 with e | fl2
        · exact hr2
        · cases fl2 with
          | ret r =>
            obtain ⟨rfl, h', tk, c, rfl, hS, hc, hk⟩ := hr2
            repeat' (any_goals (first | assumption | wp_step))
            exact h _ _ _ hS hc hk
          | _ => exact hr2.elim
    | _ => exact hr.elim
end
/-- sorted(set(xs)), fewer than 64 members -/
def rSetL (K : PySem.W.Frag) (w : World) : List V → Hp → VK → Prop := fun vs H Q => ∃ (a : Addr) (ns : List Int), vs = [V.ref a] ∧ SqL K H a (ns.map V.int) ∧ ns.length < 64 ∧ ∀ p n, n ≤ ns.length → H p = none → Q (.ref p) (upd H p (SetO w p (fun j => decide (j ∈ ns)) n))
section
variable {X : Cx}
theorem cr_setL (hc : X.calm = true) : CallR X (.type "set") (rSetL X.K X.w) := by
  intro pins s σ H vs us Q I r h
  obtain ⟨a, ns, rfl, hs, few, q⟩ := h
  obtain ⟨its, rv, hl, _⟩ := I.list hs
  rw [Vals.ref1 r]
  refine call_setL ns (I.ok.hd hc) hl.isList rv.ints (by unfold scanBound; omega) fun h' tk c hS hcn hk => ?_
  have hn : H s.heap.objs.size = none := I.hok.fresh (Nat.le_refl _)
  exact ⟨.ref s.heap.objs.size, _, I.laid (t' := tk) hk (Nat.le_refl _) (setO_new hS), rfl, q _ c hcn hn⟩
end
/-- the members, rising -/
def dedS : List Int → List Int
  | a :: b :: r => if a = b then dedS (b :: r) else a :: dedS (b :: r)
  | l => l
def srtSet (l : List Int) : List Int := dedS (srt l)
theorem dedS_mem : ∀ (l : List Int) (k : Int), k ∈ dedS l ↔ k ∈ l
  | [], k => Iff.rfl
  | [a], k => Iff.rfl
  | a :: b :: r, k => by
    unfold dedS
    split
    · rename_i e
      rw [dedS_mem (b :: r) k, e]
      simp
    · rw [List.mem_cons, dedS_mem (b :: r) k, List.mem_cons (l := b :: r)]
theorem dedS_lt : ∀ (l : List Int), l.Pairwise (· ≤ ·) → (dedS l).Pairwise (· < ·)
  | [], _ => List.Pairwise.nil
  | [a], _ => by unfold dedS; simp
  | a :: b :: r, h => by
    rw [List.pairwise_cons] at h
    unfold dedS
    split
    · exact dedS_lt (b :: r) h.2
    · rename_i ne
      rw [List.pairwise_cons]
      refine ⟨fun x hx => ?_, dedS_lt (b :: r) h.2⟩
      have hx' := (dedS_mem (b :: r) x).mp hx
      have h1 := h.1 b (by simp)
      rcases List.mem_cons.mp hx' with e | e
      · omega
      · have := (List.pairwise_cons.mp h.2).1 x e
        omega
theorem lt_uniq : ∀ {a b : List Int}, a.Pairwise (· < ·) → b.Pairwise (· < ·) → (∀ k, k ∈ a ↔ k ∈ b) → a = b := fun {a b} ha hb hm => by
  have na : a.Nodup := ha.imp fun h => Int.ne_of_lt h
  have nb : b.Nodup := hb.imp fun h => Int.ne_of_lt h
  have p : a.Perm b := (List.perm_ext_iff_of_nodup na nb).mpr hm
  exact List.Perm.eq_of_pairwise (le := (· < ·)) (fun x y _ _ h1 h2 => by omega) ha hb p
def fSortSet : List D → Option D := f1L fun l => (D.ints l).bind fun ns => if ns.length < 64 then some (.lst false ((srtSet ns).map .int)) else none
section
variable {X : Cx} {T : List (Addr × Str)} {W : WX} {e : Expr} {p p2 pos pos2 : Pos}
theorem cp_sortset {ma : Rho → Option (O (List D))} (hc : X.calm = true) (hg : Gl X "sorted") (hm : X.mg "sorted" = none) (hg2 : Gl X "set") (hm2 : X.mg "set" = none) (ha : PA X [e] (cPA (gx X T) W ma))
    (he : starEach [e] X.env = (false, eval e X.env) :: starEach [] X.env := by rfl) (hpl : (backTo pos2 (starEach [] X.env)).any (·.1) = false := by rfl)
    (he2 : starEach [.Call (.Name "set" p2) [e] [] pos2] X.env = (false, eval (.Call (.Name "set" p2) [e] [] pos2) X.env) :: starEach [] X.env := by rfl) (hpl2 : (backTo pos (starEach [] X.env)).any (·.1) = false := by rfl) :
    PE X (.Call (.Name "sorted" p) [.Call (.Name "set" p2) [e] [] pos2] [] pos) (cP (gx X T) W (mCall fSortSet ma)) :=
  (pe_callB (cr_sortedSet hc) hg hm (by rfl) (pa_cons (pe_callTy (cr_setL hc) hg2 hm2 (by rfl) ha (by decide) (by decide) he hpl) pa_nil he2) (by decide) (by decide) he2 hpl2).imp fun σ H Q ⟨Z, ρ, fp, o, hm, ok, re, q⟩ => by
    refine cPA.go hm ok re q.x fun x v Z1 H1 hm1 g1 ok1 re1 b1 => ?_
    obtain ⟨z, hz, rfl⟩ := ret_eq hm1
    obtain ⟨a, xs, l, fq, rfl, h1, h2, hz⟩ := oneL ok1.zh b1 hz
    obtain ⟨ns, e1, hz⟩ := bind_some hz
    split at hz
    · rename_i few
      cases hz
      rw [Rs.ints h2 e1] at h1
      refine ⟨a, ns, rfl, h1, few, fun p n hn hp => ?_⟩
      refine ⟨p, _, n, rfl, upd_same, by omega, fun ms p' hs hmem hl hp' => ?_⟩
      have e2 : ms = srtSet ns := lt_uniq hs (dedS_lt _ (srt_le ns)) fun k => by
        rw [hmem k]
        show decide (k ∈ ns) = true ↔ _
        rw [decide_eq_true_iff]
        unfold srtSet
        rw [dedS_mem, (srt_perm ns).mem_iff]
      subst e2
      -- the set stays behind, the list is new and frozen
      have gS := Grw.new ok1.none hp (o := SetO X.w p (fun j => decide (j ∈ ns)) n) (fun ps z => by unfold SetO at z; cases z)
      exact newL (Stp.ok gS) (rs_ints (srtSet ns)) (fun u Z3 H3 g3 b3 => q u Z3 H3 (g1.trans (Stp.trans gS g3)) b3) p' hp'
    · cases hz
end
end OP

/-! OX: tuples turned round and repeated -/
namespace OP
open PySem PySem.Spec PyProof.Rows L2
section
variable {prog : Program} {w : World} {A : Around} {E : Value → Shared → Prop} {s : Shared}
theorem pick_back (xs : Array Value) : ((List.range xs.size).filterMap fun (k : Nat) => xs[(((xs.size : Nat) : Int) - 1 + (k : Int) * (-1)).toNat]?).toArray = xs.toList.reverse.toArray := by
  have h : ∀ n, n ≤ xs.size → (List.range n).filterMap (fun (k : Nat) => xs[(((xs.size : Nat) : Int) - 1 + (k : Int) * (-1)).toNat]?) = xs.toList.reverse.take n := by
    intro n
    induction n with
    | zero => intro _; simp
    | succ n ih =>
      intro hn
      have e : (((xs.size : Nat) : Int) - 1 + (n : Int) * (-1)).toNat = xs.size - 1 - n := by omega
      have lt : xs.size - 1 - n < xs.size := by omega
      rw [List.range_succ, List.filterMap_append, ih (by omega), List.filterMap_cons, e, Array.getElem?_eq_getElem lt, List.filterMap_nil, List.take_add_one]
      congr 1
      have hr : xs.toList.reverse[n]? = some xs[xs.size - 1 - n] := by
        rw [List.getElem?_reverse (by simpa using (by omega : n < xs.size)), Array.length_toList, Array.getElem?_toList]
        exact Array.getElem?_eq_getElem lt
      rw [hr]
      rfl
  have := h xs.size (Nat.le_refl _)
  rw [this, List.take_of_length_le (by simp)]
theorem applied_back {sl : Addr} {vs : Value} {n : Nat} {Q : Int × Int × Nat → Shared → Prop} (hs : s.heap.IsSliceOf sl .none .none vs) (ps : IsPart vs (some (-1))) (h : Q ((n : Int) - 1, -1, n) s) : wpAny (model prog w) A (Builtin.Slice.sliceApplied (.ref sl) (pure (n : Int))) Q E s := by
  obtain ⟨os, ho, hc, hd⟩ := id hs
  unfold Builtin.Slice.sliceApplied Builtin.Slice.sliceFields
  refine wpAny_bind (wpAny_bind (wpAny_field ho hd (x := .none) rfl (wpAny_bind (wpAny_field ho hd (x := .none) rfl (wpAny_bind (wpAny_field ho hd (x := vs) rfl (wpAny_pure ?_)))))))
  refine wpAny_bind (HT.slicePart_ ps ?_)
  show wpAny _ A (if ((-1 : Int) == 0) = true then _ else _) _ E s
  rw [if_neg (by decide)]
  refine wpAny_bind (HT.slicePart_ .none (wpAny_bind (HT.slicePart_ .none (wpAny_bind (wpAny_pure ?_)))))
  have e : Builtin.Slice.sliceAdjust none none (-1) (n : Int) = ((n : Int) - 1, -1) := by
    unfold Builtin.Slice.sliceAdjust
    simp
  have e2 : Builtin.Slice.slicePlaces ((n : Int) - 1) (-1) (-1) = n := by
    unfold Builtin.Slice.slicePlaces
    simp
    omega
  show wpAny _ A (match Builtin.Slice.sliceAdjust none none (-1) (n : Int) with | (lo, hi) => pure (lo, (-1 : Int), Builtin.Slice.slicePlaces lo hi (-1))) _ E s
  rw [e]
  show wpAny _ A (pure ((n : Int) - 1, (-1 : Int), Builtin.Slice.slicePlaces ((n : Int) - 1) (-1) (-1))) _ E s
  rw [e2]
  exact wpAny_pure h
theorem getItem_back {t sl : Addr} {items : Array Value} {vs : Value} {Q : Value → Shared → Prop} (ht : IsTup s.heap t items) (hs : s.heap.IsSliceOf sl .none .none vs) (ps : IsPart vs (some (-1)))
    (h : Q (.ref s.heap.objs.size) { s with heap := s.heap.push { cls := .type "tuple", data := .seq items.toList.reverse.toArray } }) (hz : items.size ≤ sizeLine) : wpAny (model prog w) A (getItem (.ref t) (.ref sl)) Q E s := by
  have okz : sizeOk (.seq items.toList.reverse.toArray) := by
    show items.toList.reverse.toArray.size ≤ sizeLine
    simpa using hz
  obtain ⟨os, ho, hc, hd⟩ := id hs
  have ty : s.TypeIs (.ref sl) "slice" := ⟨os, ho, hc⟩
  unfold getItem
  try with_reducible refine wpAny_holding ?_
  first | refine wpAny_bind (wpAny_pure ?_) | skip
  refine wpAny_bind (wpAny_sequenceKey ht.typeIs (by decide) (wpAny_bind (wpAny_callSpecial?_slot (name := Str.ofString "__getitem__") ht.typeIs slot_tuple_getitem (wpAny_call_entry slot_tuple_getitem ht.typeIs entry_tuple_getitem ?_ (args_tuple_getitem _ _)))))
  show wpAny _ _ (Builtin.Tuple.tupleItemsOf (.ref t) >>= _) _ E s
  refine wpAny_bind (PyProof.Rows.tupleItemsOf_ ht (wpAny_bind (wpAny_typeOf ty ?_)))
  rw [if_pos (by decide)]
  refine wpAny_bind (applied_back hs ps ?_)
  show wpAny _ _ (if ((((items.size : Nat) : Int) - 1 == 0) && ((-1 : Int) == 1) && (items.size == items.size)) = true then _ else _) _ _ s
  rw [if_neg (by simp), pick_back]
  first
    | exact wpAny_bind (m := Builtin.Tuple.tupleExact _) (wpAny_newObj_type (wpAny_pure ⟨_, rfl, wpAny_pure h⟩) okz)
    | exact wpAny_bind (m := Builtin.Tuple.tupleExact _) (wpAny_newObj_type (wpAny_bind (wpAny_pure (wpAny_pure ⟨_, rfl, wpAny_pure h⟩))) okz)
    | exact wpAny_bind (wpAny_bind (m := Builtin.Tuple.tupleExact _) (wpAny_newObj_type (wpAny_pure (wpAny_pure ⟨_, rfl, wpAny_pure h⟩)) okz))
    | exact wpAny_bind (wpAny_bind (m := Builtin.Tuple.tupleExact _) (wpAny_newObj_type (wpAny_pure ⟨_, rfl, wpAny_pure h⟩) okz))
end
/-- x[::-1], a list or a tuple -/
def tRevLT (K : PySem.W.Frag) (te : TE) : TE := fun σ H Q => te σ H fun x H1 => ∃ a xs, x = .ref a ∧ ((SqL K H1 a xs ∧ ∀ p, H1 p = none → Q (.ref p) (upd H1 p (.lst xs.reverse))) ∨ (SqT K H1 a xs ∧ ∀ p, H1 p = none → Q (.ref p) (upd H1 p (.tup xs.reverse))))
section
variable {X : Cx} {T : List (Addr × Str)} {W : WX}
theorem pe_back {e : Expr} {te : TE} {k : Nat} {p1 p2 p3 pos : Pos} (he : PE X e te) : PE X (.Subscript e (.Slice none none (some (.UnaryOp .USub (.Constant (.int 1) k p1) p2)) p3) pos) (tRevLT X.K te) := by
  refine ⟨fun pins s σ H Q I h => Subscript_ (thn (he.run pins s σ H _ I h) fun v s1 ⟨x, H1, I1, r1, a, xs, ex, q⟩ => ?_)⟩
  subst ex
  cases r1
  have hst : PO X (some (.UnaryOp .USub (.Constant (.int 1) k p1) p2)) (tPart (tUn (rU fun i => .int (-i)) (tC (.int 1)))) := po_some (pe_un un_neg pe_int)
  refine wpAny_Slice (thn (po_none.run pins s1 σ H1 (fun o H2 => o = none ∧ H2 = H1) I1 ⟨rfl, rfl⟩) fun vl s2 ⟨l, H2, I2, pl, el, e2⟩ => thn (po_none.run pins s2 σ H2 (fun o H3 => o = none ∧ H3 = H2) I2 ⟨rfl, rfl⟩) fun vu s3 ⟨u, H3, I3, pu, eu, e3⟩ =>
    thn (hst.run pins s3 σ H3 (fun o H4 => o = some (-1) ∧ H4 = H3) I3 ⟨1, rfl, -1, rfl, rfl, rfl⟩) fun vs s4 ⟨o, H4, I4, ps, eo, e4⟩ => ?_)
  subst el e2 eu e3 eo e4
  have J : Inv X pins σ H4 { s4 with heap := s4.heap.push { cls := .type "slice", data := .fields #[vl, vu, vs] } } := I4.kept (t' := s4.toks) fun b ob z => Heap.get?_push_of_some _ z
  show wpAny (model X.prog X.w) X.A (subscriptTail e (.Slice none none (some (.UnaryOp .USub (.Constant (.int 1) k p1) p2)) p3) (.ref a) (.ref s4.heap.objs.size)) (EP X pins σ Q) X.xe _
  rcases q with ⟨hx, q⟩ | ⟨hx, q⟩
  · obtain ⟨its, r, ht, hz⟩ := J.list hx
    have hl := r.length
    refine tail_any (ops := [.ref a, .ref s4.heap.objs.size]) ht.isList.typeIs (PySem.slot_list_getitem.lookup) ?_ (by with_unfolding_all rfl)
    refine wpAny_getItem_list_slice ht.isList (Heap.IsSliceOf.new _ vl vu vs) pl pu ps (by decide) ?_ (by rw [List.size_toArray]; omega)
    rw [PySem.W.krv_pick]
    exact ⟨.ref _, _, J.laid (t' := s4.toks) (o := .lst xs.reverse) (fun b ob z => Heap.get?_push_of_some _ z) (Nat.le_refl _) ⟨by rw [List.length_reverse]; exact hz, _, 0, r.reverse, Heap.get?_push_size _ rfl⟩, rfl, q _ (J.hok.fresh (Nat.le_refl _))⟩
  · obtain ⟨its, r, ht, hz⟩ := J.tuple hx
    have hl := r.length
    cases pl
    cases pu
    refine tail_any (ops := [.ref a, .ref s4.heap.objs.size]) ht.typeIs (PyProof.Rows.slot_tuple_getitem.lookup) ?_ (by with_unfolding_all rfl)
    refine getItem_back ht (Heap.IsSliceOf.new _ .none .none vs) ps ?_ (by rw [List.size_toArray]; omega)
    exact ⟨.ref _, _, J.laid (t' := s4.toks) (o := .tup xs.reverse) (fun b ob z => Heap.get?_push_of_some _ z) (Nat.le_refl _) ⟨by rw [List.length_reverse]; exact hz, _, r.reverse, IsTup.new _ _⟩, rfl, q _ (J.hok.fresh (Nat.le_refl _))⟩
def gRev2 : D → Option D
  | .tup l => some (.tup l.reverse)
  | d => gRev d
theorem cp_rev2 {e : Expr} {ma : Rho → Option (O D)} {k : Nat} {q1 q2 q3 pos : Pos} (ha : PE X e (cP (gx X T) W ma)) : PE X (.Subscript e (.Slice none none (some (.UnaryOp .USub (.Constant (.int 1) k q1) q2)) q3) pos) (cP (gx X T) W (m1 gRev2 ma)) := (pe_back ha).imp fun σ H Q ⟨Z, ρ, fp, o, hm, ok, re, q⟩ => by
  refine cP.go hm ok re q.x fun x v Z1 H1 hm1 g1 ok1 re1 b1 => ?_
  obtain ⟨z, hz, rfl⟩ := ret_eq hm1
  by_cases ht : ∃ l, x = .tup l
  · obtain ⟨l, rfl⟩ := ht
    cases hz
    obtain ⟨a, xs, e1, h1, h2⟩ := b1.tup ok1.zh
    exact ⟨a, xs, e1, .inr ⟨h1, newT ok1.none (Rs.revl h2) fun u Z3 H3 g3 b3 => q u Z3 H3 (g1.trans g3) b3⟩⟩
  · have hz' : gRev x = some z := by cases x <;> first | exact hz | exact absurd ⟨_, rfl⟩ ht
    obtain ⟨l, e1, hz⟩ := bind_some hz'
    split at hz
    · rename_i c
      cases hz
      obtain ⟨a, xs, fq, a1, a2, a3⟩ := b1.lseq ok1.zh e1
      rw [Rs.frz c a3] at a3
      exact ⟨a, xs, a1, .inl ⟨a2, newL ok1.none (Rs.revl a3) fun u Z3 H3 g3 b3 => q u Z3 H3 (g1.trans g3) b3⟩⟩
    · cases hz
/-! ### repetition -/
def rRepTW (K : PySem.W.Frag) : R2 := fun x y H Q => ∃ l k xs, x = .ref l ∧ y = .int k ∧ SqT K H l xs ∧ xs ≠ [] ∧ 2 ≤ k ∧ k ≤ 16777216 ∧ k.toNat * xs.length ≤ 16777216 ∧ ∀ p, H p = none → Q (.ref p) (upd H p (.tup (List.replicate k.toNat xs).flatten))
theorem op_repTW : OpR X (binaryOp .Mult) (rRepTW X.K) := by
  intro pins s σ H x y v u Q I rx ry ⟨l, k, xs, ex, ey, hT, hne, h1, h2, hz, q⟩
  subst ex ey
  cases rx
  obtain ⟨t, rfl⟩ := ry
  obtain ⟨its, r, ⟨⟨cls, dd, data, sl⟩, ho, hc, n, hd⟩, hs⟩ := I.tuple hT
  simp only at hc hd
  subst hc hd
  have ln : its.length = xs.length := r.length.symm
  have ne : its.toArray.isEmpty = false := by
    cases its with
    | nil => exact absurd (List.eq_nil_of_length_eq_zero ln.symm) hne
    | cons a b => rfl
  have sz : its.toArray.size = xs.length := by rw [List.size_toArray, ln]
  have pm : ((its.toArray.size : Nat) : Int) * k ≤ 16777216 := by
    rw [sz]
    have e : ((xs.length : Nat) : Int) * k = ((k.toNat * xs.length : Nat) : Int) := by
      rw [Int.natCast_mul, Int.toNat_of_nonneg (by omega), Int.mul_comm]
    rw [e]
    exact Int.ofNat_le.mpr hz
  have fl : (List.replicate k.toNat its).flatten.length ≤ sizeLine := by rw [lm_len_rep_flat, ln, sizeLine_eq]; exact hz
  have d0 : (decide (k < -(2 ^ 63)) || decide (k ≥ 2 ^ 63)) = false := by rw [decide_eq_false (by omega), decide_eq_false (by omega)]; rfl
  have d1 : (its.toArray.isEmpty || k == 1) = false := by rw [ne, Bool.false_or]; exact beq_eq_false_iff_ne.mpr (by omega)
  have d2 : (decide (k ≤ 0) || its.toArray.isEmpty) = false := by rw [ne, Bool.or_false]; exact decide_eq_false (by omega)
  have d4 : Builtin.Tuple.tupleTooMany (((its.toArray.size : Nat) : Int) * k) = false := by unfold Builtin.Tuple.tupleTooMany; rw [sizeLine_eq]; exact decide_eq_false (by omega)
  refine wpAny_binaryOp_repeat_ref (T := "tuple") (U := "int") (by decide) ⟨_, ho, rfl⟩ (fun s' => typeIs_int s' k t) noFill_tuple_mul F.fills_int_mul F.slot_int_rmul repeat_tuple F.slot_int_index.lookup (call_meets F.slot_int_rmul (typeIs_int s k t) F.entry_int_rmul (F.args_int_rmul_2 _ _) (int_rmul_tuple k t l its.toArray n dd sl)
    ⟨ho, rfl, ⟨_, ho, rfl⟩, call_meets F.slot_tuple_mul ⟨_, ho, rfl⟩ F.entry_tuple_mul (F.args_tuple_mul_2 _ _) (tuple_mulW l its.toArray n dd sl k t d0 d1 d2 (by omega) d4 (by rw [size_rep, List.size_toArray]; exact fl)) ⟨ho, ?_⟩⟩)
  rw [size_rep]
  exact ⟨.ref s.heap.objs.size, _, I.laid (t' := s.toks) (o := .tup (List.replicate k.toNat xs).flatten) (fun b ob z => Heap.get?_push_of_some _ z) (Nat.le_refl _) ⟨by rw [lm_len_rep_flat, sizeLine_eq]; exact hz, _, r.rep k.toNat, IsTup.new _ _⟩, rfl, q _ (I.hok.fresh (Nat.le_refl _))⟩
def gMul5 : D → D → Option D
  | .tup l, .int k => if l ≠ [] ∧ 2 ≤ k ∧ k ≤ 16777216 ∧ k.toNat * l.length ≤ 16777216 then some (.tup (List.replicate k.toNat l).flatten) else none
  | .lst _ l, .int k => if D.frzs l = true ∧ -(2 ^ 63) ≤ k ∧ k < 2 ^ 63 ∧ l.length * k.toNat ≤ 16777216 then some (.lst false (List.replicate k.toNat l).flatten) else none
  | d, e => gMul d e
theorem Rs.rep {g : G} {Z H : Hp} {l : List D} {xs : List V} (h : Rs g Z H l xs []) : ∀ n : Nat, Rs g Z H (List.replicate n l).flatten (List.replicate n xs).flatten []
  | 0 => ⟨rfl, rfl⟩
  | n + 1 => by
    rw [List.replicate_succ, List.replicate_succ, List.flatten_cons, List.flatten_cons]
    exact Rs.app (f1 := []) (f2 := []) h (Rs.rep h n)
theorem op_mul5 : OpR X (binaryOp .Mult) (fun x y H Q => rRepTW X.K x y H Q ∨ rRep x y H Q ∨ rI CMul (fun i j => .int (i * j)) x y H Q) := op_repTW.or (op_rep.or op_mul)
theorem pr_mul5 : PR2 (gx X T) (fun x y H Q => rRepTW X.K x y H Q ∨ rRep x y H Q ∨ rI CMul (fun i j => .int (i * j)) x y H Q) gMul5 := fun Z H d e v w z ok hd he hz Q q => by
  by_cases h1 : ∃ l k, d = .tup l ∧ e = .int k
  · obtain ⟨l, k, rfl, rfl⟩ := h1
    simp only [gMul5] at hz
    split at hz
    · rename_i c
      cases hz
      obtain ⟨a, xs, e1, h1, h2⟩ := hd.tup ok.zh
      refine .inl ⟨a, k, xs, e1, he.int_eq, h1, fun n => c.1 ?_, c.2.1, c.2.2.1, by rw [Rs.len h2]; exact c.2.2.2, newT ok (Rs.rep h2 _) q⟩
      have := Rs.len h2
      rw [n] at this
      exact List.eq_nil_of_length_eq_zero this.symm
    · cases hz
  · by_cases h2 : ∃ o l k, d = .lst o l ∧ e = .int k
    · obtain ⟨o, l, k, rfl, rfl⟩ := h2
      replace hz : (if D.frzs l = true ∧ -(2 ^ 63) ≤ k ∧ k < 2 ^ 63 ∧ l.length * k.toNat ≤ 16777216 then some (D.lst false (List.replicate k.toNat l).flatten) else none) = some z := hz
      split at hz
      · rename_i c
        cases hz
        obtain ⟨a, xs, fq, e1, h1, h2⟩ := hd.lst ok.zh
        rw [Rs.frz c.1 h2] at h2
        exact .inr (.inl ⟨a, k, xs, e1, he.int_eq, h1, c.2.1, c.2.2.1, by rw [Rs.len h2, sizeLine_eq]; exact c.2.2.2, newL ok (Rs.rep h2 _) q⟩)
      · cases hz
    · have hz' : gMul d e = some z := by
        cases d <;> first
          | exact hz
          | (cases e <;> first | exact hz | exact absurd ⟨_, _, rfl, rfl⟩ h1 | exact absurd ⟨_, _, _, rfl, rfl⟩ h2)
      exact .inr (.inr (pr_mul Z H d e v w z ok hd he hz' Q q))
end
end OP

/-! OY: f(lambda: ..), f one that tells if X was raised -/
namespace OP
open PySem PySem.Spec PyProof.Rows L2 LamX
/-- try: a() / except x: return True, then return False -/
def TNo (K : PySem.W.Frag) (CS : Addr) : (XK → Hp → VK → Prop) → Hp → VK → Prop := fun tl H Q =>
  tl (fun cls _ H' => ∃ b, PySem.W.exmOne K cls (.ref CS) = some b ∧ (b = true → Q (.bl true) H') ∧ (b = false → False)) H fun _ H' => Q (.bl false) H'
section
variable {X : Cx}
theorem no_gives {Ng : List Str} {x a e q : Str} {sg : Scope} {g CS : Addr} {cdg : Value} {j j2 : Nat} {p1 p2 p3 p4 p5 p6 p7 p8 p9 p10 : Pos} (hge : sg.names.lookup e = some .globalImplicit) (hme : X.mg e = some (.ref CS)) (hde : (e == ("__debug__" : Str)) = false) (h0 : ∀ f : Addr, (L2.start Ng [V.ref f])[0]? = some (some (V.ref f))) :
    GivesTo X Ng x sg g cdg [.Try [.Expr (.Call (.Name a p1) [] [] p2) p3] [.ExceptHandler (some (.Name e p4)) none [.Return (some (.Constant (.bool true) j p5)) p6] p7] [] [] p8, .Return (some (.Constant (.bool false) j2 p9)) p10] a q (TNo X.K CS) := by
  intro f c' s H Q tl act hc h
  have gl : Gl (cxOf C8.CX0 X.prog X.w X.K X.mg X.base Ng x sg g cdg X.A X.stack s H C8.E0).nox e := hge
  refine ⟨_, pss_cons (ps_try_only (X := (cxOf C8.CX0 X.prog X.w X.K X.mg X.base Ng x sg g cdg X.A X.stack s H C8.E0).nox) (c := .ref CS)
      (tb := fun W D σ H => ∃ Ech : XK, (∀ cls d σ' H', Ech cls d H' → W cls d σ' H') ∧ σ[0]? = some (some (.ref f)) ∧ H c' = some (CodeO c' q) ∧ tl Ech H fun _ H' => D.nx σ H')
      rfl rfl ⟨gl, hde, .inl hme⟩ LamX.takes0 (fun W pn xe tk _ => ⟨fun pins s' σ H' D I ⟨Ech, hW, z1, z2, z3⟩ => ?_⟩) (fun a oe cls d pn _ _ => pss_one (ps_ret pe_bl))) (pss_one (ps_ret pe_bl)), ?_⟩
  · exact (pss_one (ps_expr (pos := p3) (act W pn xe Ech p1 p2 tk hW))).run pins s' σ H' D I ⟨z1, z2, z3⟩
  · exact ⟨_, fun cls d σ' H' ⟨b, e1, e2, e3⟩ => ⟨b, e1, fun hb a _ => e2 hb, fun hb => e3 hb⟩, h0 f, hc, h⟩
end
/-- was e raised -/
def mLam (e : Str) (mB : Rho → Option (O D)) : Rho → Option (O D) := fun ρ => match mB ρ with
  | some (.ok _) => some (.ok (.bl false))
  | some (.exc c _ _) => if c = e then some (.ok (.bl true)) else none
  | none => none
theorem Ok.ext {g : G} {Z H H1 : Hp} {fp : List Addr} (ok : Ok g Z H fp) (e : ExtN H H1) (t : Tabs g.T H1) : Grw g Z H Z H1 :=
  ⟨⟨fun a o h => e a o (ok.zh a o h) fun ps z => ok.nt a ps (by rw [h, z]), ok.nt, List.nodup_nil, fun _ z => (by cases z), fun _ z => (by cases z), t⟩, Sub.refl _, fun a o h _ n => e a o h n, fun a o h => .inl h, fun _ z => (by cases z)⟩
/-- a def of the text that tells whether x is raised, by its body -/
structure NoIn (K : PySem.W.Frag) (mg : Str → Option Value) (x e : Str) (st : Stmt) (a : Str) : Prop where
  fn : FnIn K mg x st [a]
  xc : XcIn K mg e
section
variable {X : Cx} {T : List (Addr × Str)} {W : WX}
theorem cp_lam {x e a : Str} {st : Stmt} {Ng : List Str} {c P : Addr} {k : Nat} {params : Arguments} {body : Expr} {scope : Scope} {mB : Rho → Option (O D)} {p lpos pos : Pos} {j j2 : Nat} {p1 p2 p3 p4 p5 p6 p7 p8 p9 p10 : Pos} (N : NoIn X.K X.mg x e st a)
    (hb : defBody st = [.Try [.Expr (.Call (.Name a p1) [] [] p2) p3] [.ExceptHandler (some (.Name e p4)) none [.Return (some (.Constant (.bool true) j p5)) p6] p7] [] [] p8, .Return (some (.Constant (.bool false) j2 p9)) p10])
    (Sg : FnScope Ng [a] (defScope st)) (hNg : Ng[0]? = some a) (hva : Vis (defScope st) a) (hge : (defScope st).names.lookup e = some .globalImplicit) (h0 : ∀ f : Addr, (L2.start Ng [V.ref f])[0]? = some (some (V.ref f)))
    (TB : LamX.TabB X.base X.mg c P) (hcode : X.env.code = .ref c) (hmT : (P, X.env.qual ++ "<lambda>") ∈ T) (hu : ∀ p ∈ T, p.1 = P → p.2 = X.env.qual ++ "<lambda>") (hr : Room (k + 2) X.A) (L : LamS X.env.scope scope) (hdef : defaultsOf params X.env = ([], []))
    (hbind : ∀ (q : Str) (cl : List (Str × Addr)) (pm cv ctv : Value), bindArgs (PySem.W.kla_fn "<lambda>" q params body scope cl pm cv ctv) ⟨[], []⟩ = pure [])
    (hbody : ∀ (A : Around) (outer : List PySem.Env) (s : Shared) (H : Hp) (E : XK) (f c' : Addr), Room k (A.deeper (lamEnv X scope s.heap.objs.size f c')) → PE (lamCx X A outer s H E scope f c') body (cP (gx X T) (WB E) mB))
    (hg : Gl X x := by rfl) (hdb : (x == ("__debug__" : Str)) = false := by decide) (hde : (e == ("__debug__" : Str)) = false := by decide) (hd : (a == ("__debug__" : Str)) = false := by decide) (hcd : (a == ("__classdict__" : Str)) = false := by decide) :
    PE X (.Call (.Name x p) [.Lambda params body scope lpos] [] pos) (cP (gx X T) W (mLam e mB)) := by
  obtain ⟨g, fd, hm, F, bd⟩ := N.fn
  obtain ⟨oc, od, kV, doc, pm, an, cdv, ct, sl, rfl, lk, hcg⟩ := F.ex
  obtain ⟨CS, bmB, Bn, newId, initId, me, _, _, _, _, _, exm⟩ := N.xc.ex
  rw [hb] at lk bd
  refine (pe_lamcall (T := T) hg hm F.kp lk hcg bd Sg hNg hva (no_gives hge me hde h0) TB hcode hmT hu hr L hdef hbind hbody hdb hd hcd).imp fun σ H Q ⟨Z, ρ, fp, o, hmm, ok, re, q⟩ => ?_
  refine ⟨ok.tab, fun H1 eN T1 => ?_⟩
  have gr : Grw (gx X T) Z H Z H1 := ok.ext eN T1
  unfold mLam at hmm
  cases hB : mB ρ with
  | none => rw [hB] at hmm; cases hmm
  | some oB =>
    rw [hB] at hmm
    refine ⟨Z, ρ, fp, oB, hB, Grw.ok gr ok, re.grow gr, ?_⟩
    cases oB with
    | ok d =>
      cases Option.some.inj hmm
      exact fun v Z' H' g2 b => q _ Z' H' (gr.trans g2) B.bl
    | exc c' ks vs =>
      have hmm : (if c' = e then some (O.ok (D.bl true)) else none) = some o := hmm
      split at hmm
      · rename_i ec
        cases Option.some.inj hmm
        intro cls dx Z' H' g2 ⟨C, mc, ecl, _⟩
        subst ec
        have mc : X.mg c' = some (.ref C) := mc
        rw [me] at mc
        cases mc
        exact ⟨true, by rw [ecl]; exact exm, fun _ => q _ Z' H' (gr.trans g2) B.bl, fun z => nomatch z⟩
      · cases hmm
end
/-! ### frozen at the store -/
def eFz (m : ME) : ME := fun ρ => bE (m ρ) fun d ρ1 => some (.ok d.fz, ρ1)
section
variable {X : Cx} {T : List (Addr × Str)} {W : WX} {J : Nat → Prop}
theorem cFz {m : ME} {σ : L2.St} {H : Hp} {Q : VK} (h : cE (gx X T) W (eFz m) σ H Q) : cE (gx X T) W m σ H Q := by
  obtain ⟨Z, ρ, fp, x, hm, ok, re, q⟩ := h
  refine cE.go hm ok re q.x fun d v ρ1 Z1 H1 fe fd hm1 s1 re1 r1 => ?_
  cases Option.some.inj hm1
  have s1p := s1.permR List.perm_append_comm
  obtain ⟨Z2, s2, r2⟩ := r1.toFz s1p.ok
  exact q v Z2 H1 fe [] ((s1p.trans s2).nilR) (RE.mono s2.zz (fun _ _ => rfl) re1) r2
theorem ce_fz {e : Expr} {m : ME} (h : PE X e (cE (gx X T) W m)) : PE X e (cE (gx X T) W (eFz m)) := h.imp fun _ _ _ h => cFz h
theorem cs_setLcF {i : Nat} {y : Str} {py spos pos : Pos} {elt tg iter : Expr} {ifs : List Expr} {scope : Scope} {own : List (Str × Nat)} {m : MEA} {t : MT} {c : MET} {me : ME} (hJ : ¬ J i) (hc : X.calm = true) (hN : X.N.Nodup) (hy : X.N[i]? = some y) (hyl : X.env.scope.names.lookup y = some .local)
    (hsw : swapsWith (.ListComp elt [⟨tg, iter, ifs, 0⟩] scope pos) (some (.Name y py)) spos.line X.env = pure true) (hi : PI X tg iter (cIE (gx X T) W m)) (ok : BlkOk X.N X.env.scope scope own)
    (hg : ∀ (s : Shared) (H : Hp) (C : Addr) (cl : List (Str × Addr)) (fp : List Addr), PG (X.blk s H scope (compEnvC scope cl C X.env) fp) tg (cG (gx X T) (fun i => i ∉ own.map (·.2)) t))
    (ht : ∀ (s : Shared) (H : Hp) (C : Addr) (cl : List (Str × Addr)) (fp : List Addr), PTs (X.blk s H scope (compEnvC scope cl C X.env) fp) ifs (cET (gx X T) W0 c))
    (he : ∀ (s : Shared) (H : Hp) (C : Addr) (cl : List (Str × Addr)) (fp : List Addr), PE (X.blk s H scope (compEnvC scope cl C X.env) fp) elt (cE (gx X T) W0 me)) (hs : ∀ x, foldedSetIterable iter X.env x = pure x := by intro _; rfl) :
    PS X (.Assign [.Name y py] (.ListComp elt [⟨tg, iter, ifs, 0⟩] scope pos) spos) (cS (gx X T) J W (sSet i (eFz (eLc m t c me (own.map (·.2)))))) := (cs_setLc hJ hc hN hy hyl hsw hi ok hg ht he hs).imp fun D σ H ⟨Z, ρ, fp, x, hm, ok, re, q⟩ => by
  unfold sSet eFz at hm
  cases h0 : eLc m t c me (own.map (·.2)) ρ with
  | none => rw [h0] at hm; cases hm
  | some r =>
    obtain ⟨o, ρ1⟩ := r
    rw [h0] at hm
    cases o with
    | exc c' ks vs =>
      refine ⟨Z, ρ, fp, x, ?_, ok, re, q⟩
      unfold sSet
      rw [h0]
      exact hm
    | ok d =>
      cases Option.some.inj hm
      refine ⟨Z, ρ, fp, (.ok .nx, ρ1.set i (some d)), ?_, ok, re, ?_⟩
      · unfold sSet
        rw [h0]
        rfl
      · intro σ' Z' H' fe k' s' re'
        by_cases hl : i < (ρ1.set i (some d)).length
        · have hi' : (ρ1.set i (some d))[i]? = some (some d) := by rw [List.getElem?_set_self (by simpa using hl)]
          obtain ⟨y', f1, fi, f2, h1, h2, ⟨v, e1, r⟩, ex⟩ := re'.at hi'
          subst h2
          have pm : (f1 ++ fi ++ f2).Perm (fi ++ (f1 ++ f2)) := List.perm_iff_count.mpr fun a => by
            simp only [List.count_append]
            omega
          obtain ⟨Z2, s2, r2⟩ := r.toFz (fp := f1 ++ f2) ((s'.permR pm).ok)
          have re2 := ex Z2 H' (some d.fz) y' [] s2.zz (fun _ _ => rfl) ⟨v, e1, r2⟩
          rw [set_self h1, List.set_set, List.append_nil] at re2
          exact q σ' Z2 H' (f1 ++ f2) k' ((s'.permR pm).trans s2) re2
        · have e : ρ1.set i (some d) = ρ1.set i (some d.fz) := by
            rw [List.set_eq_of_length_le (by simpa using hl), List.set_eq_of_length_le (by simpa using hl)]
          exact q σ' Z' H' fe k' s' (by rw [← e]; exact re')
end
/-- the law's own def: its code object is known -/
structure LawIn (K : PySem.W.Frag) (mg : Str → Option Value) (x : Str) (st : Stmt) (ps : List Str) (f c : Addr) (fd : FuncData) : Prop where
  nm : mg x = some (.ref f)
  lk : ∃ (oc : Value) (od : Option Addr) (kV doc pm : Value) (an : Option Addr) (ct : Value) (osl : Array (Option Value)), fd = PySem.W.fnOf x x (defArgs st) (defBody st) (defScope st) .none kV doc pm an (.ref c) ct ∧ K.lookup f = some ⟨oc, od, .func fd, osl⟩ ∧ PySem.W.codeIn K (.ref c) x = true
theorem law_of {P : Program} {w : World} {K : PySem.W.Frag} {mg : Str → Option Value} {base : Heap} {T : List (Addr × Str)} {x : Str} {lv : Nat} {st : Stmt} {N ps : List Str} {mb : MS} {f c : Addr} {fd : FuncData} (hf : LawIn K mg x st ps f c fd) (S : FnScope N ps (defScope st))
    (hb : ∀ (A : Around) (outer : List PySem.Env) (s : Shared) (H : Hp) (E : XK), A.guards = some [] → Room lv (A.deeper (envOfC x (defScope st) s.heap.objs.size f (.ref c))) →
      PSs (cxOf (L2.CX P w) P w K mg base N x (defScope st) f (.ref c) A outer s H E) (defBody st) (cS ⟨K, mg, T, w⟩ (fun i => i < 0) (WB E) mb)) : FnG P w K mg base (L2.CX P w) (lv + 1) f fd ps (spD ⟨K, mg, T, w⟩ ps.length 0 (denOf N.length 0 mb)) := by
  obtain ⟨oc, od, kV, doc, pm, an, ct, sl, rfl, hlk, hcd⟩ := hf.lk
  exact fnG_of hlk hcd S (fun vs H Q E h => h.1) fun A outer s H vs Q E hG hr h => ⟨_, hb A outer s H E hG hr, den_post (Nat.zero_le _) h⟩
end OP

/-! OZ: the end: from what the law does, over data, to the head's goal -/
namespace OP
open PySem PySem.Spec PyProof.Rows L2
theorem tab_start {H : Hp} {p : Addr} {q : Str} (h : H p = some (.tbl #[])) : LamX.TabS H p q :=
  ⟨#[], h, trivial, fun pos cv z => by simp [codeAmong] at z⟩
section
variable {P : Program} {w : World} {K : PySem.W.Frag} {mg mb : Str → Option Value} {k : Nat} {fa a : Addr} {fd : FuncData} {x : Str} {den : Den} {sA : Shared} {vs : List Value} {ns : List Int} {cs : List (Addr × Addr × Str)}
/-- the law's own promise is used where the caller stands -/
theorem lawG (KX : K.In sA.heap) (hns : sA.heap.Ns mainGlobals mg) (hb : sA.heap.Ns builtinsNs mb) (hbb : ∀ x : Str, x ≠ "__name__" → mb x = bootBuiltins x) (hlim : sA.heap.NoLimit) (hg : sA.gens = #[])
    (hT : ∀ p ∈ cs, sA.heap.get? p.2.1 = some { cls := .none, data := .fields #[] }) (nT : ∀ p ∈ cs, K.lookup p.2.1 = none) (C : ∀ p ∈ cs, PySem.W.CodeHd sA.heap p.1 p.2.1)
    (hbm : ∃ (bm : Addr) (ob : Obj), mg "__builtins__" = some (.ref bm) ∧ bm ≠ builtinsNs ∧ sA.heap.get? bm = some ob ∧ ob.cls = .type "module" ∧ ob.dict = some builtinsNs ∧ ob.data = .plain)
    (ha : sA.heap.get? a = some { cls := .type "list", data := .seq vs.toArray }) (hi : IntsAre vs ns) (hl : ns.length ≤ sizeLine) (hr : Room k callerA)
    (F : ∀ base : Heap, K.In base → base.Ns mainGlobals mg → (∀ p ∈ cs, LamX.TabB base mg p.1 p.2.1) → FnG P w K mg base (L2.CX P w) k fa fd [x] (spD ⟨K, mg, cs.map (·.2), w⟩ 1 0 den))
    (hbind : ∀ (s : Shared) (u : Value), BindsTo s fd ⟨[u], []⟩ [(x, u)]) (hden : den [.xls (ns.map D.int)] = some (.ok (.bl true), [])) :
    codeAny (model P w) callerA (.call (.ref fa) ⟨[.ref a], []⟩) (fun r s' => r = .ok (.ret (.bool true)) ∧ OldK sA.heap s'.heap ∧ s'.os = sA.os ∧ AllBare s'.gens) sA := by
  have rv := vals_ints hi
  have tb : ∀ b : Addr, (∃ p ∈ cs, p.2.1 = b) → sA.heap.get? b = some { cls := .none, data := .fields #[] } := fun b ⟨p, hp, e⟩ => by rw [← e]; exact hT p hp
  have na : ¬ ∃ p ∈ cs, p.2.1 = a := fun z => by
    have q := (tb a z).symm.trans ha
    cases congrArg Obj.data (Option.some.inj q)
  let fz : HO := .frz { cls := .type "list", data := .seq vs.toArray } (.lst (ns.map V.int))
  -- the heap in which the tables and, if it is not written, the script are tracked; and the frozen part of it
  let Z : Hp := fun b => if b = a ∧ K.lookup a = none then some fz else none
  let H : Hp := open Classical in fun b => if (∃ p ∈ cs, p.2.1 = b) then some (.tbl #[]) else Z b
  have Hc : ∀ b u, H b = some u → ((∃ p ∈ cs, p.2.1 = b) ∧ u = .tbl #[]) ∨ (b = a ∧ K.lookup a = none ∧ u = fz) := fun b u e => by
    by_cases c : ∃ p ∈ cs, p.2.1 = b
    · exact .inl ⟨c, by have e' := (if_pos c).symm.trans e; cases e'; rfl⟩
    · have e' : Z b = some u := (if_neg c).symm.trans e
      by_cases c2 : b = a ∧ K.lookup a = none
      · exact .inr ⟨c2.1, c2.2, by have e2 := (if_pos c2).symm.trans e'; cases e2; rfl⟩
      · exact absurd ((if_neg c2).symm.trans e') (by simp)
  have HT : ∀ p ∈ cs, H p.2.1 = some (.tbl #[]) := fun p hp => if_pos ⟨p, hp, rfl⟩
  have ZH : Sub Z H := fun b u e => by
    by_cases c2 : b = a ∧ K.lookup a = none
    · rw [c2.1] at e ⊢
      exact (if_neg na).trans e
    · exact absurd ((if_neg c2).symm.trans e) (by simp)
  have hS : SqL K Z a (ns.map V.int) := by
    cases hk : K.lookup a with
    | some o =>
      have e := KX a o hk
      rw [ha] at e
      cases e
      exact .inr ⟨_, vs.toArray, _, hk, rfl, rfl, rfl, by rw [List.size_toArray, hi.length]; exact hl, by simpa using rv⟩
    | none => exact .inl (.inr ⟨_, if_pos ⟨rfl, hk⟩⟩)
  have hok : HOk P w H sA.heap := fun b u e => by
    rcases Hc b u e with ⟨c, rfl⟩ | ⟨rfl, _, rfl⟩
    · exact tb b c
    · exact ⟨ha, by rw [List.length_map]; exact hl, vs, _, rv, ha⟩
  have up : ∀ {b : Addr} {o : Obj}, sA.heap.get? b = some o → H b = none → (hidT sA.heap H).get? b = some o := fun e n => hidT_get e n
  have free : ∀ {b : Addr} {o : Obj}, sA.heap.get? b = some o → (∀ l n, o.data ≠ .seq l n) → o.data ≠ .fields #[] → H b = none := fun {b o} e h1 h2 => by
    cases q : H b with
    | none => rfl
    | some u =>
      rcases Hc b u q with ⟨c, _⟩ | ⟨rfl, _, _⟩
      · exact absurd (by rw [Option.some.inj (e.symm.trans (tb b c))]) h2
      · exact absurd (by rw [Option.some.inj (e.symm.trans ha)]) (h1 _ _)
  have freeD : ∀ {b : Addr} {o : Obj} {es : Array DictEntry} {ep : Nat}, sA.heap.get? b = some o → o.data = .dict es ep → H b = none := fun e d => free e (fun _ _ z => nomatch d.symm.trans z) fun z => nomatch d.symm.trans z
  have nsU : ∀ {b : Addr} {m : Str → Option Value}, sA.heap.Ns b m → (hidT sA.heap H).Ns b m := fun ⟨o, es, ep, e, d, r⟩ => ⟨o, es, ep, up e (freeD e d), d, r⟩
  have kB : K.In (hidT sA.heap H) := fun b o e => up (KX b o e) (by
    cases q : H b with
    | none => rfl
    | some u =>
      rcases Hc b u q with ⟨⟨p, hp, rfl⟩, _⟩ | ⟨rfl, n, _⟩
      · exact nomatch e.symm.trans (nT p hp)
      · exact nomatch e.symm.trans n)
  have mod : L2.Mod K mg (hidT sA.heap H) := ⟨kB, nsU hns, ⟨mb, nsU hb, hbb⟩, hlim.imp fun _ z => ⟨nsU z.1, z.2⟩⟩
  have TB : ∀ p ∈ cs, LamX.TabB (hidT sA.heap H) mg p.1 p.2.1 := fun p hp => by
    refine ⟨?_, ?_, fun z => ?_⟩
    · obtain ⟨o, us, file, tf, flags, tg, inF, text, tt, e1, r1, r2, r3, more⟩ := C p hp
      exact ⟨o, us, file, tf, flags, tg, inF, text, tt, up e1 (free e1 (fun _ _ z => nomatch r2.symm.trans z) fun z => by
        cases r2.symm.trans z
        simp at r3), r1, r2, r3, more⟩
    · obtain ⟨bm, ob, b1, b2, b3, b4, b5, b6⟩ := hbm
      refine ⟨bm, ob, b1, b2, fun q => ?_, fun q => ?_, up b3 (free b3 (fun _ _ z => nomatch b6.symm.trans z) fun z => nomatch b6.symm.trans z), b4, b5, b6⟩
      · obtain ⟨o, es, ep, e, hd, _⟩ := hns
        rw [q] at b3
        cases e.symm.trans b3
        exact nomatch hd.symm.trans b6
      · rw [q] at b3
        cases (hT p hp).symm.trans b3
        exact nomatch b6
    · obtain ⟨o, es, ep, e, hd, _⟩ := hns
      rw [z] at e
      cases (hT p hp).symm.trans e
      exact nomatch hd
  have e0 : Env0 P w K mg (hidT sA.heap H) callerA [] sA H := ⟨rfl, mod, fun b o e => of_hidT e, Nat.le_of_eq (hidT_size _ _), trivial, fun b z => (by cases z), hok, .of_eq hg⟩
  have ok : Ok ⟨K, mg, cs.map (·.2), w⟩ Z H [] := by
    refine ⟨ZH, fun b ps z => ?_, List.nodup_nil, fun _ z => (by cases z), fun _ z => (by cases z), fun q hq => ?_⟩
    · by_cases c2 : b = a ∧ K.lookup a = none
      · cases (show HO.frz { cls := .type "list", data := .seq vs.toArray } (.lst (ns.map V.int)) = HO.tbl ps from Option.some.inj ((if_pos c2).symm.trans z))
      · cases (show none = _ from (if_neg c2).symm.trans z)
    · obtain ⟨p, hp, rfl⟩ := List.mem_map.mp hq
      exact tab_start (HT p hp)
  have rs : ∀ l : List Int, Rs ⟨K, mg, cs.map (·.2), w⟩ Z H (l.map D.int) (l.map V.int) [] := fun l => by
    induction l with
    | nil => exact ⟨rfl, rfl⟩
    | cons i l ih => exact ⟨_, _, [], [], rfl, rfl, ⟨rfl, rfl⟩, ih⟩
  have fz1 : ∀ l : List Int, D.frzs (l.map D.int) = true := fun l => by
    induction l with
    | nil => rfl
    | cons i l ih => exact ih
  have sp : spD ⟨K, mg, cs.map (·.2), w⟩ 1 0 den [.ref a] H (fun v _ => v = .bl true) fun _ _ _ => False := by
    refine ⟨rfl, Z, [.xls (ns.map D.int)], [], _, ok, ⟨_, [], [], [], rfl, rfl, ⟨rfl, a, _, rfl, hS, rs ns⟩, rfl, rfl⟩, ?_, hden, fun v Z' H' fo fdd st ro r => r.1⟩
    show ((D.frzs (ns.map D.int)) && true) = true
    rw [fz1]
    rfl
  refine codeAny_mono ((F _ kB (nsU hns) TB).go callerA [] sA H ⟨[.ref a], []⟩ [.ref a] [.ref a] _ _ rfl hr e0 (hbind sA (.ref a)) (.cons rfl .nil) sp) fun r sB h => ?_
  rcases r with e | fl
  · obtain ⟨_, _, _, _, _, _, _, _, _, _, _, _, z⟩ := h
    exact z.elim
  · cases fl with
    | next => exact h.elim
    | brk => exact h.elim
    | cont => exact h.elim
    | ret u =>
      obtain ⟨v, H', hos, bare, un, hok', r', rfl⟩ := h
      cases (show u = Value.bool true from r')
      have stays : ∀ b o, (¬ ∃ p ∈ cs, p.2.1 = b) → sA.heap.get? b = some o → sB.heap.get? b = some o := fun b o nb e => by
        cases q : H b with
        | none => exact un.keep b o e q (by intro z; cases z) (by intro z; cases z)
        | some u =>
          rcases Hc b u q with ⟨c, _⟩ | ⟨rfl, _, rfl⟩
          · exact absurd c nb
          · have z2 := hok' b _ (un.frzs b _ _ q)
            rw [← e, ha]
            exact z2.1
      have more : ∀ p ∈ cs, ∃ m : Array Value, sB.heap.get? p.2.1 = some { cls := .none, data := .fields m } := fun p hp => by
        obtain ⟨m, z⟩ := un.tbls p.2.1 #[] (HT p hp)
        exact ⟨_, hok' p.2.1 _ z⟩
      refine ⟨rfl, ⟨fun b o e => ?_, fun b o e => ?_⟩, hos, bare⟩
      · by_cases c : ∃ p ∈ cs, p.2.1 = b
        · obtain ⟨p, hp, rfl⟩ := c
          obtain ⟨m, hm⟩ := more p hp
          cases (hT p hp).symm.trans e
          exact .inr (.inl ⟨((C p hp).tab (hT p hp)).isCodeTable, rfl, #[], m, rfl, by rw [Array.empty_append]; exact hm⟩)
        · exact .inl (stays b o c e)
      · by_cases c : ∃ p ∈ cs, p.2.1 = b
        · obtain ⟨p, hp, rfl⟩ := c
          obtain ⟨m, hm⟩ := more p hp
          exact ⟨_, hm⟩
        · exact ⟨o, stays b o c e⟩
end
/-- what the end wants of the law at the head's heap h -/
def EndAt (l : PySem.W.OpenLaw) (w : World) (K : PySem.W.Frag) (k n : Nat) (x : Str) (mg : Str → Option Value) (fa : Addr) (h : Heap) : Prop :=
  ∃ (fd : FuncData) (cs : List (Addr × Addr × Str)) (den : Den), (∀ p ∈ cs, h.get? p.2.1 = some { cls := .none, data := .fields #[] }) ∧ (∀ p ∈ cs, K.lookup p.2.1 = none) ∧ (∀ p ∈ cs, PySem.W.CodeHd h p.1 p.2.1) ∧ (∀ (s : Shared) (u : Value), BindsTo s fd ⟨[u], []⟩ [(x, u)]) ∧
    (∀ ns : List Int, ns.length ≤ n → den [.xls (ns.map D.int)] = some (.ok (.bl true), [])) ∧
    ∀ base : Heap, K.In base → base.Ns mainGlobals mg → (∀ p ∈ cs, LamX.TabB base mg p.1 p.2.1) → FnG l.prog w K mg base (L2.CX l.prog w) k fa fd [x] (spD ⟨K, mg, cs.map (·.2), w⟩ 1 0 den)
theorem endG {l : PySem.W.OpenLaw} {n k : Nat} {q : Program} {loose : List Str} {XP : (Str → Option Value) → Heap → Prop} {YP : World → Heap → Prop} {d : DefRec} {K : Params → PySem.W.Frag} {x : Str} (hn : l.most = some n) (hn2 : n ≤ sizeLine) (hdf : d.params.defaults = []) (hr : Room k callerA)
    (hrec : ((recsOf q).any fun e => e.name == d.name) = true) (hY : ∀ (w : World) (h : Heap), YP w h → (K w.params).In h)
    (F : ∀ (w : World) (mg : Str → Option Value) (fa : Addr) (h : Heap), YP w h → (K w.params).In h → h.Ns mainGlobals mg → mg d.name = some (.ref fa) → LamX.OwnTab (K w.params) fa h → EndAt l w (K w.params) k n x mg fa h) : PySem.W.WalkO q loose XP YP l.row.toRowW d [] (fun f vs => PySem.call f vs) := by
  refine Att.attach_callB hn hdf fun w s0 sA mg mb fa o pm cd doc a vs ns G Y ho hd hcd hmg hobj hints hlen hbits hg => ?_
  have KX := hY w _ Y
  have own : LamX.OwnTab (K w.params) fa sA.heap := fun c P o1 fd1 e dd vs1 sl k1 k2 k3 k4 k5 => by
    obtain ⟨dL, hm, hq⟩ := List.any_eq_true.mp hrec
    obtain ⟨a', o', fd', c', P', h1, h2, h3, h4, h5, ⟨oc, vc, e1, _, e3, e4⟩, hP⟩ := G.T.tab dL hm
    rw [beq_iff_eq.mp hq] at h1
    cases hmg.symm.trans h1
    cases (KX _ _ k1).symm.trans h2
    cases k2.symm.trans h3
    cases k3.symm.trans h4
    cases (KX _ _ k4).symm.trans e1
    cases e3
    cases k5.symm.trans e4
    exact hP
  obtain ⟨fd, cs, den, hT, nT, C, hb, hden, hF⟩ := F w mg fa _ Y KX G.T.g hmg own
  exact lawG KX G.T.g G.T.b G.T.builtins G.T.nolimit hg hT nT C G.T.bmain hobj hints (Nat.le_trans hlen hn2) hr hF hb (hden ns hlen)
/-! ### the facts out of the written part -/
theorem fnIn_mk {K : PySem.W.Frag} {h : Heap} {mg : Str → Option Value} {x : Str} {st : Stmt} {ps : List Str} {f : Addr} {od an : Option Addr} {sl : Array (Option Value)} {oc kV dc pm cd ct : Value} (X : K.In h) (G : h.Ns mainGlobals mg) (a1 : PySem.W.nsIn K mainGlobals x = some (some (.ref f)))
    (l1 : K.lookup f = some ⟨oc, od, .func (PySem.W.fnOf x x (defArgs st) (defBody st) (defScope st) .none kV dc pm an cd ct), sl⟩) (c1 : PySem.W.codeIn K cd x = true) (k1 : PySem.W.keepIn K (.ref f) = true)
    (b : ∀ (kV dc pm : Value) (an : Option Addr) (cd ct : Value) (us : List Value), us.length = ps.length → bindArgs (PySem.W.fnOf x x (defArgs st) (defBody st) (defScope st) .none kV dc pm an cd ct) ⟨us, []⟩ = pure (ps.zip us)) : FnIn K mg x st ps :=
  ⟨f, _, PySem.W.mg_of X G a1, fun_mk (st := st) l1 c1 k1, Binds.all fun us hl => b _ _ _ _ _ _ us hl⟩
def GDv (g : G) (u : Value) (d : D) : Prop := ∃ v, RelV v u ∧ ∀ Z H, R g Z H d v []
def GDs (g : G) : List Value → List D → Prop
  | [], ds => ds = []
  | u :: us, ds => ∃ d r, ds = d :: r ∧ GDv g u d ∧ GDs g us r
section
variable {g : G}
theorem gd_int {i : Int} {t : Tok} : GDv g (.int i t) (.int i) := ⟨.int i, ⟨t, rfl⟩, fun _ _ => ⟨rfl, rfl⟩⟩
theorem gd_str {i : Str} {t : Tok} (h : i.length ≤ 16777216) : GDv g (.str i t) (.str i) := ⟨.str i, ⟨t, rfl⟩, fun _ _ => ⟨⟨rfl, h⟩, rfl⟩⟩
theorem gd_bl {i : Bool} : GDv g (.bool i) (.bl i) := ⟨.bl i, rfl, fun _ _ => ⟨rfl, rfl⟩⟩
theorem gd_non : GDv g .none .non := ⟨.non, rfl, fun _ _ => ⟨rfl, rfl⟩⟩
theorem gds_rs : ∀ {us : List Value} {ds : List D}, GDs g us ds → ∃ vs, Vals vs us ∧ ∀ Z H, Rs g Z H ds vs []
  | [], ds, h => ⟨[], .nil, fun _ _ => by rw [show ds = [] from h]; exact ⟨rfl, rfl⟩⟩
  | u :: us, ds, h => by
    obtain ⟨d, r, rfl, ⟨v, h1, h2⟩, h3⟩ := h
    obtain ⟨vs, h4, h5⟩ := gds_rs h3
    exact ⟨v :: vs, .cons h1 h4, fun Z H => ⟨v, vs, [], [], rfl, rfl, h2 Z H, h5 Z H⟩⟩
theorem gds_nil : GDs g [] [] := rfl
theorem gds_cons {u : Value} {us : List Value} {d : D} {ds : List D} (h : GDv g u d) (t : GDs g us ds) : GDs g (u :: us) (d :: ds) := ⟨d, ds, rfl, h, t⟩
theorem gd_tup {K : PySem.W.Frag} {mg : Str → Option Value} {T : List (Addr × Str)} {w : World} {a : Addr} {its : Array Value} {n : Nat} {dd : Option Addr} {sl : Array (Option Value)} {ds : List D} (l : K.lookup a = some ⟨.type "tuple", dd, .seq its n, sl⟩) (hz : its.size ≤ sizeLine) (h : GDs ⟨K, mg, T, w⟩ its.toList ds) : GDv ⟨K, mg, T, w⟩ (.ref a) (.tup ds) := by
  obtain ⟨vs, h1, h2⟩ := gds_rs h
  exact ⟨.ref a, rfl, fun Z H => ⟨rfl, a, vs, rfl, .inr ⟨_, its, n, l, rfl, rfl, hz, h1⟩, h2 Z H⟩⟩
/-- the entries of a written dict -/
def EsAre (P : Params) : List DictEntry → List Str → List Value → Prop
  | [], ks, us => ks = [] ∧ us = []
  | e :: es, ks, us => ∃ k kr u ur t, ks = k :: kr ∧ us = u :: ur ∧ e.key = .str k t ∧ e.hash = PyData.keyHash P k ∧ e.val = u ∧ EsAre P es kr ur
theorem es_keys {P : Params} : ∀ {es : List DictEntry} {ks : List Str} {us : List Value}, EsAre P es ks us → PySem.W.KeysLit P es ∧ ks.length = us.length
  | [], ks, us, h => by rw [h.1, h.2]; exact ⟨trivial, rfl⟩
  | e :: es, ks, us, h => by
    obtain ⟨k, kr, u, ur, t, rfl, rfl, h1, h2, h3, h4⟩ := h
    obtain ⟨a, b⟩ := es_keys h4
    exact ⟨⟨⟨k, t, h1, h2⟩, a⟩, by simp [b]⟩
theorem es_get {P : Params} (z : Str) : ∀ {es : List DictEntry} {ks : List Str} {us : List Value} {vs : List V}, EsAre P es ks us → Vals vs us →
    es.any (·.refKey) = false ∧ RelO (valV (ks.zip vs) z) ((es.find? (·.key.isStr z)).map (·.val))
  | [], ks, us, vs, h, r => by
    rw [h.1, h.2] at *
    cases r
    exact ⟨rfl, trivial⟩
  | e :: es, ks, us, vs, h, r => by
    obtain ⟨k, kr, u, ur, t, rfl, rfl, h1, h2, h3, h4⟩ := h
    cases r with
    | cons r0 r =>
      rename_i v vr
      obtain ⟨a, b⟩ := es_get z h4 r
      refine ⟨?_, ?_⟩
      · rw [List.any_cons, a, Bool.or_false]
        unfold DictEntry.refKey
        rw [h1]
      · rw [List.find?_cons, h1]
        have hs : (Value.str k t).isStr z = decide (k = z) := by
          show (k == z) = _
          by_cases e : k = z
          · subst e; simp
          · simp [e]
        rw [hs, List.zip_cons_cons]
        by_cases e0 : k = z
        · rw [valV_pos (p := (k, v)) e0]
          simp only [e0, decide_true]
          show L2.RelV v e.val
          rw [h3]; exact r0
        · rw [valV_neg (p := (k, v)) e0]
          simp only [e0, decide_false]
          exact b
theorem es_nil {P : Params} : EsAre P [] [] [] := ⟨rfl, rfl⟩
theorem es_cons {P : Params} {e : DictEntry} {es : List DictEntry} {k : Str} {ks : List Str} {u : Value} {us : List Value} {t : Tok} (h1 : e.key = .str k t) (h2 : e.hash = PyData.keyHash P k) (h3 : e.val = u) (r : EsAre P es ks us) : EsAre P (e :: es) (k :: ks) (u :: us) := ⟨k, ks, u, us, t, rfl, rfl, h1, h2, h3, r⟩
theorem gd_xdc {K : PySem.W.Frag} {mg : Str → Option Value} {T : List (Addr × Str)} {w : World} {a : Addr} {es : Array DictEntry} {n : Nat} {ks : List Str} {us : List Value} {ds : List D} (l : K.lookup a = some ⟨.type "dict", none, .dict es n, #[]⟩) (lo : (a == sysModules) = false) (he : EsAre w.params es.toList ks us) (h : GDs ⟨K, mg, T, w⟩ us ds) : GDv ⟨K, mg, T, w⟩ (.ref a) (.xdc ks ds) := by
  obtain ⟨vs, h1, h2⟩ := gds_rs h
  obtain ⟨k1, k2⟩ := es_keys he
  refine ⟨.ref a, rfl, fun Z H => ⟨rfl, a, vs, rfl, ⟨⟨es, n, ⟨l, k1, lo⟩⟩, by rw [k2]; exact h1.length.symm, fun z => ?_⟩, h2 Z H⟩⟩
  obtain ⟨n1, n2⟩ := es_get z he h1
  refine ⟨(es.toList.find? (·.key.isStr z)).map (·.val), ?_, n2⟩
  unfold PySem.W.nsIn
  rw [l]
  show (match es.toList.find? (·.key.isStr z) with | some e => some (some e.val) | none => if es.toList.any (·.refKey) = true then none else some none) = _
  cases q : es.toList.find? (·.key.isStr z) with
  | none =>
    rw [n1]
    rfl
  | some e => rfl
theorem gD_mk {K : PySem.W.Frag} {h : Heap} {x : Str} {u : Value} {d : D} (X : K.In h) (G' : h.Ns mainGlobals g.mg) (a1 : PySem.W.nsIn K mainGlobals x = some (some u)) (v : GDv g u d) : GD g x d := let ⟨y, r, q⟩ := v; ⟨u, y, PySem.W.mg_of X G' a1, r, q⟩
theorem xc_mk {K : PySem.W.Frag} {h : Heap} {mg : Str → Option Value} {x : Str} {C : Addr} {bmB : List Value} {B newId initId : String} (F : ExcBaseFacts B newId initId bmB) (X : K.In h) (G' : h.Ns mainGlobals mg) (a1 : PySem.W.nsIn K mainGlobals x = some (some (.ref C))) (q : PySem.W.excIn K C bmB newId = true) (kp : PySem.W.keepIn K (.ref C) = true)
    (s1 : PySem.W.subIn K (.ref C) (.type "BaseException") = some true) (s2 : PySem.W.typeIn K (.ref C) = some (.type "type")) (e : PySem.W.exmOne K (.ref C) (.ref C) = some true) : XcIn K mg x := ⟨C, bmB, B, newId, initId, PySem.W.mg_of X G' a1, F, q, kp, s1, s2, e⟩
end
section
variable {l : PySem.W.OpenLaw} {w : World} {K : PySem.W.Frag} {h : Heap} {mg : Str → Option Value} {fa f c P : Addr} {st : Stmt} {k : Nat} {den : Den} {QL : Str} {oc kV dc pm ct e2 : Value} {od an dd : Option Addr} {sl sl2 : Array (Option Value)} {vs : Array Value}
theorem end_mk (X : K.In h) (G' : h.Ns mainGlobals mg) (hfa : mg "law" = some (.ref fa)) (own : LamX.OwnTab K fa h) (a : PySem.W.nsIn K mainGlobals "law" = some (some (.ref f)))
    (lk : K.lookup f = some ⟨oc, od, .func (PySem.W.fnOf "law" "law" (defArgs st) (defBody st) (defScope st) .none kV dc pm an (.ref c) ct), sl⟩) (cd : PySem.W.codeIn K (.ref c) "law" = true) (cc : K.lookup c = some ⟨e2, dd, .fields vs, sl2⟩) (v11 : vs[11]? = some (.ref P)) (ch : PySem.W.codeHdIn K c P = true) (np : K.lookup P = none)
    (b : ∀ (s : Shared) (u : Value), BindsTo s (PySem.W.fnOf "law" "law" (defArgs st) (defBody st) (defScope st) .none kV dc pm an (.ref c) ct) ⟨[u], []⟩ [("script", u)]) (hd : ∀ ns : List Int, ns.length ≤ 63 → den [.xls (ns.map D.int)] = some (.ok (.bl true), []))
    (F : ∀ base : Heap, LamX.TabB base mg c P → LawIn K mg "law" st ["script"] f c (PySem.W.fnOf "law" "law" (defArgs st) (defBody st) (defScope st) .none kV dc pm an (.ref c) ct) →
      FnG l.prog w K mg base (L2.CX l.prog w) k f (PySem.W.fnOf "law" "law" (defArgs st) (defBody st) (defScope st) .none kV dc pm an (.ref c) ct) ["script"] (spD ⟨K, mg, [(P, QL)], w⟩ 1 0 den)) : EndAt l w K k 63 "script" mg fa h := by
  have e := hfa.symm.trans (PySem.W.mg_of X G' a)
  cases e
  refine ⟨_, [(c, P, QL)], den, fun p hp => ?_, fun p hp => ?_, fun p hp => ?_, b, hd, fun base _ _ TB => F base (TB _ (List.mem_singleton.mpr rfl)) ⟨hfa, oc, od, kV, dc, pm, an, ct, sl, rfl, lk, cd⟩⟩
  · rw [List.mem_singleton.mp hp]
    exact own c P _ _ _ _ _ _ lk rfl rfl cc v11
  · rw [List.mem_singleton.mp hp]; exact np
  · rw [List.mem_singleton.mp hp]; exact PySem.W.codeHd_of_K X ch
theorem end_mk0 (X : K.In h) (G' : h.Ns mainGlobals mg) (hfa : mg "law" = some (.ref fa)) (a : PySem.W.nsIn K mainGlobals "law" = some (some (.ref f)))
    (lk : K.lookup f = some ⟨oc, od, .func (PySem.W.fnOf "law" "law" (defArgs st) (defBody st) (defScope st) .none kV dc pm an (.ref c) ct), sl⟩) (cd : PySem.W.codeIn K (.ref c) "law" = true)
    (b : ∀ (s : Shared) (u : Value), BindsTo s (PySem.W.fnOf "law" "law" (defArgs st) (defBody st) (defScope st) .none kV dc pm an (.ref c) ct) ⟨[u], []⟩ [("script", u)]) (hd : ∀ ns : List Int, ns.length ≤ 63 → den [.xls (ns.map D.int)] = some (.ok (.bl true), []))
    (F : ∀ base : Heap, LawIn K mg "law" st ["script"] f c (PySem.W.fnOf "law" "law" (defArgs st) (defBody st) (defScope st) .none kV dc pm an (.ref c) ct) →
      FnG l.prog w K mg base (L2.CX l.prog w) k f (PySem.W.fnOf "law" "law" (defArgs st) (defBody st) (defScope st) .none kV dc pm an (.ref c) ct) ["script"] (spD ⟨K, mg, [], w⟩ 1 0 den)) : EndAt l w K k 63 "script" mg fa h := by
  have e := hfa.symm.trans (PySem.W.mg_of X G' a)
  cases e
  exact ⟨_, [], den, (fun p hp => by cases hp), (fun p hp => by cases hp), (fun p hp => by cases hp), b, hd, fun base _ _ _ => F base ⟨hfa, oc, od, kV, dc, pm, an, ct, sl, rfl, lk, cd⟩⟩
end
/-- the same, with the written part told by what is known of it -/
abbrev GDt {K : PySem.W.Frag} {h : Heap} (_ : K.In h) (T : List (Addr × Str)) (w : World) (mg : Str → Option Value) (x : Str) (d : D) : Prop := GD ⟨K, mg, T, w⟩ x d
abbrev FnInt {K : PySem.W.Frag} {h : Heap} (_ : K.In h) (mg : Str → Option Value) (x : Str) (st : Stmt) (ps : List Str) : Prop := FnIn K mg x st ps
abbrev XcInt {K : PySem.W.Frag} {h : Heap} (_ : K.In h) (mg : Str → Option Value) (x : Str) : Prop := XcIn K mg x
end OP

/-! ON2: x[i][j] op= e, the inner list being owned by the outer one -/
namespace OP
open PySem PySem.Spec PyProof.Rows L2
section
variable {g : G} {Z H : Hp}
theorem Rs.inner : ∀ {l : List D} {xs : List V} {fr : List Addr} {j : Nat} {l2 : List D}, Rs g Z H l xs fr → l[j]? = some (.lst true l2) →
    ∃ c ys f1 fc f2, xs[j]? = some (.ref c) ∧ fr = f1 ++ (c :: fc) ++ f2 ∧ H c = some (.lst ys) ∧ Rs g Z H l2 ys fc ∧
      ∀ (Z' H' : Hp) (l2' : List D) (ys' : List V) (fc' : List Addr), Sub Z Z' → (∀ b ∈ f1 ++ f2, H' b = H b) → H' c = some (.lst ys') → Rs g Z' H' l2' ys' fc' → Rs g Z' H' (l.set j (.lst true l2')) xs (f1 ++ (c :: fc') ++ f2)
  | [], _, _, _, _, _, hj => by simp at hj
  | d :: l, xs, fr, 0, l2, h, hj => by
    obtain ⟨x, r, f1, f2, e1, e2, h1, h2⟩ := h
    have : d = .lst true l2 := by simpa using hj
    subst this
    obtain ⟨c, ys, fc, e3, e4, h3, h4⟩ := h1
    subst e1 e2 e3 e4
    refine ⟨c, ys, [], fc, f2, rfl, rfl, h3, h4, fun Z' H' l2' ys' fc' zz hb hc r' => ?_⟩
    exact ⟨.ref c, r, c :: fc', f2, rfl, rfl, ⟨c, ys', fc', rfl, rfl, hc, r'⟩, Rs.mono zz (fun b m => hb b (by simpa using m)) h2⟩
  | d :: l, xs, fr, j + 1, l2, h, hj => by
    obtain ⟨x, r, f1, f2, e1, e2, h1, h2⟩ := h
    obtain ⟨c, ys, g1, fc, g2, a1, a2, a3, a4, a5⟩ := Rs.inner (j := j) h2 (by simpa using hj)
    subst e1 e2 a2
    refine ⟨c, ys, f1 ++ g1, fc, g2, by simpa using a1, by simp [List.append_assoc], a3, a4, fun Z' H' l2' ys' fc' zz hb hc r' => ?_⟩
    refine ⟨x, r, f1, g1 ++ (c :: fc') ++ g2, rfl, by simp [List.append_assoc], R.mono zz (fun b m => hb b (by simp [m])) h1, a5 Z' H' l2' ys' fc' zz (fun b m => hb b ?_) hc r'⟩
    rcases List.mem_append.mp m with m | m
    · simp [m]
    · simp [m]
theorem slot_list2 {ρ : Rho} {σ : L2.St} {fe : List Addr} {i j : Nat} {l l2 : List D} (re : RE g Z H ρ σ fe) (k : Ok g Z H fe) (hi : ρ[i]? = some (some (.lst true l))) (hj : l[j]? = some (.lst true l2)) :
    ∃ a xs c ys fr, σ[i]? = some (some (.ref a)) ∧ H a = some (.lst xs) ∧ xs.length = l.length ∧ xs[j]? = some (.ref c) ∧ H c = some (.lst ys) ∧ Rs g Z H l2 ys fr ∧
      ∀ l2' ys' f' rest, Rs g Z H l2' ys' f' → fr.Perm (f' ++ rest) →
        ∃ fe', Stp g Z H fe Z (upd H c (.lst ys')) (fe' ++ rest) ∧ RE g Z (upd H c (.lst ys')) (ρ.set i (some (.lst true (l.set j (.lst true l2'))))) σ fe' := by
  obtain ⟨y, f1, fi, f2, h1, h2, ⟨v, e1, r⟩, ex⟩ := re.at hi
  obtain ⟨a, xs, fr, e2, e3, h3, h4⟩ := r
  obtain ⟨c, ys, g1, fc, g2, a1, a2, a3, a4, a5⟩ := Rs.inner h4 hj
  subst e1 e2 e3 h2 a2
  have nd := k.nd
  have p0 : (f1 ++ (a :: (g1 ++ (c :: fc) ++ g2)) ++ f2).Perm (c :: (a :: (f1 ++ f2 ++ g1 ++ g2 ++ fc))) := List.perm_iff_count.mpr fun b => by
    simp only [List.count_append, List.count_cons]
    omega
  have nd' := p0.nodup_iff.mp nd
  have nc := (List.nodup_cons.mp nd').1
  simp only [List.mem_cons, List.mem_append, not_or] at nc
  obtain ⟨na, ⟨⟨⟨n1, n2⟩, n3⟩, n4⟩, n5⟩ := nc
  refine ⟨a, xs, c, ys, fc, h1, h3, (Rs.len h4), a1, a3, a4, fun l2' ys' f' rest r' p => ?_⟩
  have hm : c ∈ f1 ++ (a :: (g1 ++ (c :: fc) ++ g2)) ++ f2 := by simp
  have sw := Stp.write k hm a3 (fun ps z => by cases z) (o := .lst ys') (fun ps z => by cases z) (fun c q z => by unfold LamX.CodeO at z; cases z)
  have nf : c ∉ f' := fun z => n5 (p.mem_iff.mpr (by simp [z]))
  have r2 : Rs g Z (upd H c (.lst ys')) l2' ys' f' := Rs.mono (Sub.refl _) (upd_other nf) r'
  have r3 := a5 Z (upd H c (.lst ys')) l2' ys' f' (Sub.refl _) (upd_other fun z => by rcases List.mem_append.mp z with q | q <;> contradiction) upd_same r2
  refine ⟨f1 ++ (a :: (g1 ++ (c :: f') ++ g2)) ++ f2, sw.permR ?_, ?_⟩
  · have p' := fun b => (List.perm_iff_count.mp p) b
    exact List.perm_iff_count.mpr fun b => by
      have := p' b
      simp only [List.count_append, List.count_cons] at this ⊢
      omega
  · have ha : (upd H c (.lst ys')) a = some (.lst xs) := by
      have := upd_other (H := H) (o := .lst ys') (p := c) (fr := [a]) (by simpa using na) a (by simp)
      rw [this]
      exact h3
    have := ex Z (upd H c (.lst ys')) (some (.lst true (l.set j (.lst true l2')))) (some (.ref a)) (a :: (g1 ++ (c :: f') ++ g2)) (Sub.refl _) (upd_other fun z => by rcases List.mem_append.mp z with q | q <;> contradiction) ⟨_, rfl, a, xs, _, rfl, rfl, ha, r3⟩
    rw [set_self h1] at this
    exact this
end
theorem pss_no {X : Cx} {g : G} {J : Nat → Prop} {W : WX} {body : List Stmt} : PSs X body (cS g J W fun _ => none) := ⟨fun pins s σ H D I h => by obtain ⟨Z, ρ, fp, x, hm, _⟩ := h; cases hm⟩
/-- x[i][j] op= e -/
def sAugIx2 (f : D → D → Option D) (i : Nat) (mj mi m : Rho → Option (O D)) : MS := fun ρ => match mj ρ, mi ρ, m ρ, ownL ρ i with
  | some (.ok (.int k1)), some (.ok (.int k2)), some (.ok y), some l => match ixN l.length k1 with
    | some j1 => match l[j1]? with
      | some (.lst true l2) => match ixN l2.length k2 with
        | some j2 => match l2[j2]? with
          | some x => if x.frz then match f x y with
            | some z => if z.frz then some (.ok .nx, ρ.set i (some (.lst true (l.set j1 (.lst true (l2.set j2 z)))))) else none
            | none => none
            else none
          | none => none
        | none => none
      | _ => none
    | none => none
  | _, _, _, _ => none
section
variable {X : Cx} {T : List (Addr × Str)} {W : WX} {J : Nat → Prop} {o e idx jdx : Expr} {pos : Pos}
theorem cs_augIx2 {i : Nat} {op : Operator} {ti : TIp} {f : D → D → Option D} {mj mi m : Rho → Option (O D)} {p2 p3 : Pos} (hr : PR2 (gx X T) ti f) (ho : PE X o (tVar i)) (hj : PE X jdx (cP (gx X T) W mj)) (hi : PE X idx (cP (gx X T) W mi)) (he : PE X e (cP (gx X T) W m)) (hop : PIp X op ti)
    (hs : PlainIx jdx := by exact fun _ _ => rfl)
    (ha : ∀ ov iv new, augStore idx ov iv new = (do holding [new, ov, iv] (setItem ov iv new); release [new, ov, iv] []; pure .next) := by intros; rfl) :
    PS X (.AugAssign (.Subscript (.Subscript o jdx p3) idx p2) op e pos) (cS (gx X T) J W (sAugIx2 f i mj mi m)) :=
  (ps_augS (pe_ix ix_list ho hj hs) hi get_list he hop set_list ha).imp fun D σ H ⟨Z, ρ, fp, x, hm, ok, re, q⟩ => by
  unfold sAugIx2 at hm
  split at hm
  · rename_i k1 k2 y l hk1 hk2 hy hl
    split at hm
    · rename_i j1 hj1
      split at hm
      · rename_i l2 hl2
        split at hm
        · rename_i j2 hj2
          split at hm
          · rename_i x0 hx0
            split at hm
            · rename_i hf0
              split at hm
              · rename_i z hz
                split at hm
                · rename_i hzf
                  cases Option.some.inj hm
                  obtain ⟨a, xs, c, ys, fr, g1, g2, g3, g4, g5, g6, g7⟩ := slot_list2 re ok (ownL_eq hl) hl2
                  have stage : ∀ Zk Hk, Grw (gx X T) Z H Zk Hk → Hk a = some (.lst xs) ∧ ∃ fr, Hk c = some (.lst ys) ∧ Rs (gx X T) Zk Hk l2 ys fr ∧ ∀ l2' ys' f' rest, Rs (gx X T) Zk Hk l2' ys' f' → fr.Perm (f' ++ rest) → ∃ fe', Stp (gx X T) Zk Hk fp Zk (upd Hk c (.lst ys')) (fe' ++ rest) ∧ RE (gx X T) Zk (upd Hk c (.lst ys')) (ρ.set i (some (.lst true (l.set j1 (.lst true l2'))))) σ fe' := by
                    intro Zk Hk gr
                    obtain ⟨a', xs', c', ys', fr', e1, e2, e3, e4, e5, e6, e7⟩ := slot_list2 (re.grow gr) (Grw.ok gr ok) (ownL_eq hl) hl2
                    rw [g1] at e1
                    cases e1
                    have q1 := gr.keep a _ g2 (by simp) (fun ps z => by cases z)
                    rw [q1] at e2
                    cases e2
                    rw [g4] at e4
                    cases e4
                    have q2 := gr.keep c _ g5 (by simp) (fun ps z => by cases z)
                    rw [q2] at e5
                    cases e5
                    exact ⟨q1, fr', q2, e6, e7⟩
                  refine ⟨.ref a, g1, Z, ρ, fp, _, hk1, ok, re, fun u1 Z1 H1 gr1 b1 => ?_⟩
                  have ok1 := Grw.ok gr1 ok
                  have re1 := re.grow gr1
                  obtain ⟨s1, _⟩ := stage _ _ gr1
                  rw [b1.int_eq]
                  refine ⟨a, xs, k1, .ref c, rfl, rfl, SqL.of s1, ?_, ?_⟩
                  · unfold atI
                    rw [g3, hj1]
                    exact g4
                  refine ⟨Z1, ρ, fp, _, hk2, ok1, re1, fun u2 Z2 H2 gr2 b2 => ?_⟩
                  have gr12 := gr1.trans gr2
                  have ok2 := Grw.ok gr2 ok1
                  have re2 := re1.grow gr2
                  obtain ⟨_, fr2, s2, r2, _⟩ := stage _ _ gr12
                  rw [b2.int_eq]
                  have hat : atI l2 k2 = some x0 := by
                    unfold atI
                    rw [hj2]
                    exact hx0
                  obtain ⟨v0, h0, b0⟩ := Rs.at r2 hat
                  have r0 := b0.frz hf0
                  refine ⟨c, ys, k2, v0, rfl, rfl, SqL.of s2, h0, ?_⟩
                  refine ⟨Z2, ρ, fp, _, hy, ok2, re2, fun w3 Z3 H3 gr3 b3 => ?_⟩
                  have gr13 := gr12.trans gr3
                  have ok3 := Grw.ok gr3 ok2
                  refine hr Z3 H3 x0 y v0 w3 z ok3.none ⟨_, r0.mono0 gr3.zz⟩ b3 hz _ fun w4 Z4 H4 gr4 b4 => ?_
                  have gr14 := gr13.trans gr4
                  obtain ⟨_, fr4, s4, r4, up⟩ := stage _ _ gr14
                  obtain ⟨hj1', hj2', hj3', hj4'⟩ := ixN_seq hj2
                  obtain ⟨f', rest, a1, a2⟩ := Rs.setAt r4 hj2' (b4.frz hzf)
                  rw [List.append_nil] at a2
                  obtain ⟨fe', s5, re5⟩ := up _ _ f' rest a1 a2
                  exact ⟨c, ys, k2, j2, rfl, rfl, s4, by rw [Rs.len r4]; exact hj2, q σ _ _ fe' Kp.refl ((Grw.stp gr14 ok).trans s5).drop re5⟩
                · cases hm
              · cases hm
            · cases hm
          · cases hm
        · cases hm
      · cases hm
    · cases hm
  · cases hm
end
end OP

/-! OBag: the bag from which the laws draw -/
namespace OP
open PySem PySem.Spec PyProof.Rows L2
def b_take1 : MS := sIf (etP (mT (m2 gEq (m2 gIx (mVar 0) (mC (.int 0))) (mC (.int 0))))) (sSeq (sSet 2 (eP (m2 gIx (m2 gAdd (mSl (m2 gIx (mVar 0) (mC (.int 3))) (mPart (m2 gIx (mVar 0) (mC (.int 2)))) mNoPart) (mLst (mCons (mC (.int 0)) mNil))) (mC (.int 0))))) (sSeq (sAugIx (fII fun i j => .int (i + j)) 0 (mC (.int 2)) (eP (mC (.int 1)))) (sSeq (sIf (etP (mT (m2 gGe (mVar 2) (m2 gPow (mC (.int 10)) (mC (.int 18)))))) (sSetIx 0 (mC (.int 0)) (eP (mVar 2))) sNx) (sSeq (sSet 3 (eP (m2 gAdd (m2 gAdd (m2 gMul5 (m2 gIx (mVar 0) (mC (.int 1))) (mC (.int 48271))) (m2 gMod (mCall fInt (mCons (mVar 2) mNil)) (mC (.int 2147483647)))) (m2 gMul5 (mC (.int 7919)) (m2 gIx (mVar 0) (mC (.int 2))))))) (sSetIx 0 (mC (.int 1)) (eP (m2 gMod (mCall fInt (mCons (mVar 3) mNil)) (mC (.int 2147483647))))))))) sNx
def b_take2 : MS := (sSeq (sIf (etP (mT (m2 gGt (m2 gIx (mVar 0) (mC (.int 0))) (mC (.int 0))))) (sSeq (sSet 4 (eP (m2 gMod (mCall fInt (mCons (m2 gIx (mVar 0) (mC (.int 0))) mNil)) (mVar 1)))) (sSeq (sSetIx 0 (mC (.int 0)) (eP (m2 gDiv (mCall fInt (mCons (m2 gIx (mVar 0) (mC (.int 0))) mNil)) (mVar 1)))) (sRet (eP (mVar 4))))) sNx) (sSeq (sSet 5 (eP (m2 gMod (mCall fInt (mCons (m2 gMul5 (m2 gAdd (m2 gIx (mVar 0) (mC (.int 1))) (mC (.int 1))) (mC (.int 39373))) mNil)) (mC (.int 1000000007))))) (sSeq (sSet 6 (eP (m2 gMod (mCall fInt (mCons (m2 gMul5 (m2 gMod (mCall fInt (mCons (m2 gMul5 (mVar 5) (mVar 5)) mNil)) (mC (.int 998244353))) (mC (.int 30011))) mNil)) (mC (.int 998244353))))) (sRet (eP (m2 gMod (mCall fInt (mCons (m2 gDiv (mVar 6) (mC (.int 7))) mNil)) (mVar 1)))))))
def b_take : MS := sSeq b_take1 b_take2
def d_take : Den := denOf 7 1 b_take
def bag (a b c : Int) (cells : List Int) : D := .lst true [.int a, .int b, .int c, .lst false (cells.map .int)]
theorem gIx_bag0 {a b c : Int} {cs : List Int} : gIx (bag a b c cs) (.int 0) = some (.int a) := rfl
theorem gIx_bag1 {a b c : Int} {cs : List Int} : gIx (bag a b c cs) (.int 1) = some (.int b) := rfl
theorem gIx_bag2 {a b c : Int} {cs : List Int} : gIx (bag a b c cs) (.int 2) = some (.int c) := rfl
theorem gIx_bag3 {a b c : Int} {cs : List Int} : gIx (bag a b c cs) (.int 3) = some (.lst false (cs.map .int)) := rfl
theorem gEq_int {i j : Int} : gEq (.int i) (.int j) = some (.bl (decide (i = j))) := by
  unfold gEq eqD
  have h : ∀ i : Int, SeqAt.shaped (.int i) = true := fun i => by unfold SeqAt.shaped; rfl
  simp only [D.py, h, Bool.and_self, if_true]
  show some (D.bl (i == j)) = _
  rw [show (i == j) = decide (i = j) from rfl]
theorem frz_ints : ∀ cs : List Int, D.frzs (cs.map .int) = true
  | [] => rfl
  | c :: cs => frz_ints cs
def cellAt (cs : List Int) (c : Int) : Int := ((cs ++ [0])[c.toNat]?).getD 0
theorem frz_bagItem {i : Int} : (D.int i).frz = true := rfl
/-- the cell that is looked at -/
theorem cut_cells {cs : List Int} {c : Int} (h : 0 ≤ c) : cutD (cs.map D.int) (some c) none = (cs.drop c.toNat).map .int := by
  unfold cutD
  have e : c = ((c.toNat : Nat) : Int) := (Int.toNat_of_nonneg h).symm
  rw [e, HT.sIx_nat, HT.sIx_none, Int.toNat_natCast, List.length_map]
  by_cases hc : c.toNat ≤ cs.length
  · rw [Nat.min_eq_left hc, ← List.map_drop]
    exact List.take_of_length_le (by simp)
  · rw [Nat.min_eq_right (by omega), List.drop_eq_nil_of_le (by simp), List.drop_eq_nil_of_le (by omega)]
    simp
theorem set_bag0 {a b c v : Int} {cs : List Int} {ρ : Rho} : sSetIx 0 (mC (.int 0)) (eP (mC (.int v))) (some (bag a b c cs) :: ρ) = some (.ok .nx, some (bag v b c cs) :: ρ) := rfl
theorem aug_bag {a b c : Int} {cs : List Int} {ρ : Rho} : sAugIx (fII fun i j => .int (i + j)) 0 (mC (.int 2)) (eP (mC (.int 1))) (some (bag a b c cs) :: ρ) = some (.ok .nx, some (bag a b (c + 1) cs) :: ρ) := rfl

/-- what the first part of a draw leaves -/
def fill (a b c : Int) (cs : List Int) : Int × Int × Int :=
  if a = 0 then (if cellAt cs c ≥ 10 ^ 18 then cellAt cs c else 0, (b * 48271 + cellAt cs c % 2147483647 + 7919 * (c + 1)) % 2147483647, c + 1) else (a, b, c)
def drawn (b m : Int) : Int := ((((b + 1) * 39373) % 1000000007 * (((b + 1) * 39373) % 1000000007)) % 998244353 * 30011 % 998244353 / 7) % m
theorem first_cell {a b : Int} {x1 x2 x3 x4 x5 x6 : Option D} {cs : List Int} {c : Int} (h : 0 ≤ c) (hl : cs.length ≤ 1000) : m2 gIx (m2 gAdd (mSl (m2 gIx (mVar 0) (mC (.int 3))) (mPart (m2 gIx (mVar 0) (mC (.int 2)))) mNoPart) (mLst (mCons (mC (.int 0)) mNil))) (mC (.int 0)) [some (bag a b c cs), x1, x2, x3, x4, x5, x6] = some (.ok (.int (cellAt cs c))) := by
  have e1 : mSl (m2 gIx (mVar 0) (mC (.int 3))) (mPart (m2 gIx (mVar 0) (mC (.int 2)))) mNoPart [some (bag a b c cs), x1, x2, x3, x4, x5, x6] = some (.ok (.lst false ((cs.drop c.toNat).map .int))) := by
    show ret (gSl (.lst false (cs.map .int)) (some c) none) = _
    unfold gSl
    simp only [frz_ints, if_true, cut_cells h]
    rfl
  have e2 : gAdd (.lst false ((cs.drop c.toNat).map .int)) (.lst false [.int 0]) = some (.lst false ((cs.drop c.toNat).map .int ++ [.int 0])) := by
    show (if (D.frzs ((cs.drop c.toNat).map .int) && D.frzs [.int 0] && decide (((cs.drop c.toNat).map D.int).length + 1 ≤ 16777216)) = true then _ else none) = _
    rw [frz_ints, if_pos]
    simp only [D.frzs, D.frz, Bool.true_and, List.length_map, List.length_drop, decide_eq_true_eq]
    omega
  unfold m2 at e1 ⊢
  rw [e1]
  show bnd (ret (gAdd (.lst false ((cs.drop c.toNat).map .int)) (.lst false [.int 0]))) (fun x => ret (gIx x (.int 0))) = _
  rw [e2]
  show ret (atI ((cs.drop c.toNat).map D.int ++ [.int 0]) 0) = _
  have e3 : ∀ (x : D) (l : List D), atI (x :: l) 0 = some x := fun x l => atI_nat (j := 0) rfl
  unfold cellAt
  cases hd : cs.drop c.toNat with
  | nil =>
    rw [List.map_nil, List.nil_append, e3]
    have hc : cs.length ≤ c.toNat := List.drop_eq_nil_iff.mp hd
    by_cases he : c.toNat = cs.length
    · rw [he, List.getElem?_append_right (Nat.le_refl _), Nat.sub_self]
      rfl
    · rw [List.getElem?_eq_none (by simp; omega)]
      rfl
  | cons x r =>
    rw [List.map_cons, List.cons_append, e3]
    have hc : c.toNat < cs.length := by
      have := congrArg List.length hd
      simp at this
      omega
    have hx : cs[c.toNat]? = some x := by
      have := List.getElem?_drop (xs := cs) (i := c.toNat) (j := 0)
      rw [hd] at this
      simpa using this.symm
    rw [List.getElem?_append_left hc, hx]
    rfl

theorem gAdd_int {i j : Int} : gAdd (.int i) (.int j) = some (.int (i + j)) := rfl
theorem gMul5_int {i j : Int} (h : CM i j) : gMul5 (.int i) (.int j) = some (.int (i * j)) := if_pos h
theorem gMod_int {i j : Int} (h : 0 < j) : gMod (.int i) (.int j) = some (.int (i % j)) := if_pos h
theorem gDiv_int {i j : Int} (h : 0 < j ∧ j < 1073741824) : gDiv (.int i) (.int j) = some (.int (i / j)) := if_pos h
theorem gGe_int {i j : Int} : gGe (.int i) (.int j) = some (.bl (decide (j ≤ i))) := rfl
theorem gGt_int {i j : Int} : gGt (.int i) (.int j) = some (.bl (decide (j < i))) := rfl
theorem gPow_1018 : gPow (.int 10) (.int 18) = some (.int (10 ^ 18)) := by
  show (if (0 : Int) ≤ 18 ∧ (18 : Int) ≤ 1000000 ∧ (10 : Int).natAbs < 2 ^ 64 then some (D.int (10 ^ (18 : Int).toNat)) else none) = _
  rw [if_pos (by decide)]
  rfl
theorem fInt_int {i : Int} : fInt [.int i] = some (.int i) := rfl
theorem eP_ok {m : Rho → Option (O D)} {ρ : Rho} {d : D} (h : m ρ = some (.ok d)) (f : d.frz = true) : eP m ρ = some (.ok d, ρ) := by
  unfold eP
  rw [h]
  exact if_pos f
theorem etP_ok {m : Rho → Option (O Bool)} {ρ : Rho} {b : Bool} (h : m ρ = some (.ok b)) : etP m ρ = some (.ok b, ρ) := by
  unfold etP
  rw [h]
theorem sSet_eP {i : Nat} {m : Rho → Option (O D)} {ρ : Rho} {d : D} (h : m ρ = some (.ok d)) (f : d.frz = true) : sSet i (eP m) ρ = some (.ok .nx, ρ.set i (some d)) := by
  unfold sSet
  rw [eP_ok h f]
  rfl
theorem sRet_eP {m : Rho → Option (O D)} {ρ : Rho} {d : D} (h : m ρ = some (.ok d)) (f : d.frz = true) : sRet (eP m) ρ = some (.ok (.ret d), ρ) := by
  unfold sRet
  rw [eP_ok h f]
  rfl
theorem sIf_t {m : Rho → Option (O Bool)} {x y : MS} {ρ : Rho} {b : Bool} (h : m ρ = some (.ok b)) : sIf (etP m) x y ρ = if b = true then x ρ else y ρ := by
  unfold sIf
  rw [etP_ok h]
  rfl
theorem sSeq_nx {x y : MS} {ρ ρ1 : Rho} (h : x ρ = some (.ok .nx, ρ1)) : sSeq x y ρ = y ρ1 := by
  unfold sSeq
  rw [h]
theorem sSeq_ret {x y : MS} {ρ ρ1 : Rho} {d : D} (h : x ρ = some (.ok (.ret d), ρ1)) : sSeq x y ρ = some (.ok (.ret d), ρ1) := by
  unfold sSeq
  rw [h]
theorem m2_ok {f : D → D → Option D} {ma mb : Rho → Option (O D)} {ρ : Rho} {x y z : D} (ha : ma ρ = some (.ok x)) (hb : mb ρ = some (.ok y)) (hf : f x y = some z) : m2 f ma mb ρ = some (.ok z) := by
  unfold m2
  rw [ha, bnd_ok, hb, bnd_ok, hf]
  rfl
theorem mT_ok {m : Rho → Option (O D)} {ρ : Rho} {b : Bool} (h : m ρ = some (.ok (.bl b))) : mT m ρ = some (.ok b) := by
  unfold mT
  rw [h]
  rfl
theorem mCall1_ok {f : List D → Option D} {m : Rho → Option (O D)} {ρ : Rho} {x z : D} (h : m ρ = some (.ok x)) (hf : f [x] = some z) : mCall f (mCons m mNil) ρ = some (.ok z) := by
  unfold mCall mCons mNil
  rw [h, bnd_ok, bnd_ok, bnd_ok, hf]
  rfl

section
variable {a b c m : Int} {cs : List Int}
/-- the draw's second part: from what is left of a great cell, or from the stirred number -/
theorem draw_rest (ha : 0 ≤ a) (hb : -(2 ^ 60) < b ∧ b < 2 ^ 60) (hm : 0 < m ∧ m < 1073741824) {z2 z3 : Option D} :
    denOf 7 1 (fun _ => b_take2
      [some (bag a b c cs), some (.int m), z2, z3, none, none, none]) [] = if a > 0 then some (.ok (.int (a % m)), [bag (a / m) b c cs]) else some (.ok (.int (drawn b m)), [bag a b c cs]) := by
  unfold denOf b_take2
  by_cases h : a > 0
  · rw [if_pos h]
    rw [sSeq_ret (d := .int (a % m)) (ρ1 := [some (bag (a / m) b c cs), some (.int m), z2, z3, some (.int (a % m)), none, none])]
    · rfl
    · rw [sIf_t (b := true) (mT_ok (m2_ok (m2_ok rfl rfl gIx_bag0) rfl (by rw [gGt_int, decide_eq_true h]))), if_pos rfl]
      rw [sSeq_nx (sSet_eP (m2_ok (mCall1_ok (m2_ok rfl rfl gIx_bag0) fInt_int) rfl (gMod_int hm.1)) rfl)]
      rw [sSeq_nx (ρ1 := [some (bag (a / m) b c cs), some (.int m), z2, z3, some (.int (a % m)), none, none])]
      · rfl
      · unfold sSetIx
        rw [eP_ok (m2_ok (mCall1_ok (m2_ok rfl rfl gIx_bag0) fInt_int) rfl (gDiv_int hm)) rfl]
        rfl
  · rw [if_neg h]
    have g5 : CM ((b + 1)) 39373 := by unfold CM; omega
    have r5 : 0 ≤ ((b + 1) * 39373) % 1000000007 ∧ ((b + 1) * 39373) % 1000000007 < 1000000007 := by omega
    have g6 : CM (((b + 1) * 39373) % 1000000007) (((b + 1) * 39373) % 1000000007) := by unfold CM; omega
    generalize hq : ((b + 1) * 39373) % 1000000007 = q at *
    have g7 : CM ((q * q) % 998244353) 30011 := by unfold CM; omega
    have e0 : drawn b m = ((q * q) % 998244353 * 30011 % 998244353 / 7) % m := by unfold drawn; rw [hq]
    rw [e0]
    rw [sSeq_nx (ρ1 := [some (bag a b c cs), some (.int m), z2, z3, none, none, none])]
    · rw [sSeq_nx (sSet_eP (d := .int q) (m2_ok (mCall1_ok (m2_ok (m2_ok (m2_ok rfl rfl gIx_bag1) rfl gAdd_int) rfl (gMul5_int g5)) fInt_int) rfl (by rw [gMod_int (by decide), hq])) rfl)]
      rw [sSeq_nx (sSet_eP (m2_ok (mCall1_ok (m2_ok (m2_ok (mCall1_ok (m2_ok rfl rfl (gMul5_int g6)) fInt_int) rfl (gMod_int (by decide))) rfl (gMul5_int g7)) fInt_int) rfl (gMod_int (by decide))) rfl)]
      rw [sRet_eP (m2_ok (mCall1_ok (m2_ok rfl rfl (gDiv_int (by decide))) fInt_int) rfl (gMod_int hm.1)) rfl]
      rfl
    · rw [sIf_t (b := false) (mT_ok (m2_ok (m2_ok rfl rfl gIx_bag0) rfl (by rw [gGt_int, decide_eq_false h])))]
      rfl
end

section
variable {a b c m : Int} {cs : List Int}
theorem draw_fill (hc : 0 ≤ c) (hl : cs.length ≤ 1000) : ∃ z2 z3, b_take1 [some (bag a b c cs), some (.int m), none, none, none, none, none] = some (.ok .nx, [some (bag (fill a b c cs).1 (fill a b c cs).2.1 (fill a b c cs).2.2 cs), some (.int m), z2, z3, none, none, none]) := by
  unfold b_take1 fill
  by_cases h : a = 0
  · subst h
    rw [sIf_t (b := true) (mT_ok (m2_ok (m2_ok rfl rfl gIx_bag0) rfl (by rw [gEq_int, decide_eq_true rfl]))), if_pos rfl, if_pos rfl]
    rw [sSeq_nx (sSet_eP (first_cell hc hl) rfl)]
    generalize cellAt cs c = x
    rw [sSeq_nx (ρ1 := [some (bag 0 b (c + 1) cs), some (.int m), some (.int x), none, none, none, none]) rfl]
    have k1 : CM b 48271 := by unfold CM; omega
    have k2 : CM 7919 (c + 1) := by unfold CM; omega
    have fin : ∀ a' : Int, sSeq (sSet 3 (eP (m2 gAdd (m2 gAdd (m2 gMul5 (m2 gIx (mVar 0) (mC (.int 1))) (mC (.int 48271))) (m2 gMod (mCall fInt (mCons (mVar 2) mNil)) (mC (.int 2147483647)))) (m2 gMul5 (mC (.int 7919)) (m2 gIx (mVar 0) (mC (.int 2))))))) (sSetIx 0 (mC (.int 1)) (eP (m2 gMod (mCall fInt (mCons (mVar 3) mNil)) (mC (.int 2147483647)))))
        [some (bag a' b (c + 1) cs), some (.int m), some (.int x), none, none, none, none] = some (.ok .nx, [some (bag a' ((b * 48271 + x % 2147483647 + 7919 * (c + 1)) % 2147483647) (c + 1) cs), some (.int m), some (.int x), some (.int (b * 48271 + x % 2147483647 + 7919 * (c + 1))), none, none, none]) := by
      intro a'
      rw [sSeq_nx (sSet_eP (m2_ok (m2_ok (m2_ok (m2_ok rfl rfl gIx_bag1) rfl (gMul5_int k1)) (m2_ok (mCall1_ok rfl fInt_int) rfl (gMod_int (by decide))) gAdd_int) (m2_ok rfl (m2_ok rfl rfl gIx_bag2) (gMul5_int k2)) gAdd_int) rfl)]
      unfold sSetIx
      rw [eP_ok (m2_ok (mCall1_ok rfl fInt_int) rfl (gMod_int (by decide))) rfl]
      rfl
    by_cases hx : x ≥ 10 ^ 18
    · refine ⟨some (.int x), some (.int (b * 48271 + x % 2147483647 + 7919 * (c + 1))), ?_⟩
      rw [sSeq_nx (ρ1 := [some (bag x b (c + 1) cs), some (.int m), some (.int x), none, none, none, none]), fin x, if_pos hx]
      rw [sIf_t (b := true) (mT_ok (m2_ok rfl (m2_ok rfl rfl gPow_1018) (by rw [gGe_int, decide_eq_true hx]))), if_pos rfl]
      rfl
    · refine ⟨some (.int x), some (.int (b * 48271 + x % 2147483647 + 7919 * (c + 1))), ?_⟩
      rw [sSeq_nx (ρ1 := [some (bag 0 b (c + 1) cs), some (.int m), some (.int x), none, none, none, none]), fin 0, if_neg hx]
      rw [sIf_t (b := false) (mT_ok (m2_ok rfl (m2_ok rfl rfl gPow_1018) (by rw [gGe_int, decide_eq_false hx])))]
      rfl
  · rw [sIf_t (b := false) (mT_ok (m2_ok (m2_ok rfl rfl gIx_bag0) rfl (by rw [gEq_int, decide_eq_false h]))), if_neg h]
    exact ⟨none, none, rfl⟩
end

/-- a bag that is in order: its numbers are not negative, the stirred one is small -/
structure BagOk (a b c : Int) (cs : List Int) : Prop where
  a0 : 0 ≤ a
  b0 : 0 ≤ b
  b1 : b < 2147483647
  c0 : 0 ≤ c
  cl : cs.length ≤ 1000
  cp : ∀ x ∈ cs, 0 ≤ x
theorem cellAt_pos {a b c : Int} {cs : List Int} (h : BagOk a b c cs) : 0 ≤ cellAt cs c := by
  unfold cellAt
  cases e : (cs ++ [0])[c.toNat]? with
  | none => exact Int.le_refl 0
  | some x =>
    show 0 ≤ x
    rcases List.mem_append.mp (List.mem_of_getElem? e) with q | q
    · exact h.cp x q
    · simp at q; omega
theorem fill_ok {a b c : Int} {cs : List Int} (h : BagOk a b c cs) : BagOk (fill a b c cs).1 (fill a b c cs).2.1 (fill a b c cs).2.2 cs := by
  have hp := cellAt_pos h
  unfold fill
  split
  · have hb := h.b0
    have hc := h.c0
    refine ⟨?_, Int.emod_nonneg _ (by decide), Int.emod_lt_of_pos _ (by decide), ?_, h.cl, h.cp⟩
    · show (0 : Int) ≤ if cellAt cs c ≥ 10 ^ 18 then cellAt cs c else 0
      split
      · exact hp
      · exact Int.le_refl 0
    · show (0 : Int) ≤ c + 1
      omega
  · exact h
theorem d_take_eq {a b c m : Int} {cs : List Int} (h : BagOk a b c cs) (hm : 0 < m ∧ m < 1073741824) : d_take [bag a b c cs, .int m] =
    if (fill a b c cs).1 > 0 then some (.ok (.int ((fill a b c cs).1 % m)), [bag ((fill a b c cs).1 / m) (fill a b c cs).2.1 (fill a b c cs).2.2 cs]) else some (.ok (.int (drawn (fill a b c cs).2.1 m)), [bag (fill a b c cs).1 (fill a b c cs).2.1 (fill a b c cs).2.2 cs]) := by
  obtain ⟨z2, z3, e⟩ := draw_fill (m := m) (a := a) (b := b) h.c0 h.cl
  have k := fill_ok h
  rw [← draw_rest (z2 := z2) (z3 := z3) k.a0 ⟨by have := k.b0; omega, by have := k.b1; omega⟩ hm]
  have e2 : b_take (rho0 7 [bag a b c cs, .int m]) = b_take2 [some (bag (fill a b c cs).1 (fill a b c cs).2.1 (fill a b c cs).2.2 cs), some (.int m), z2, z3, none, none, none] := sSeq_nx e
  unfold d_take denOf
  rw [e2]
/-- a draw gives a number below m and leaves a bag that is in order -/
theorem d_take_ok {a b c m : Int} {cs : List Int} (h : BagOk a b c cs) (hm : 0 < m ∧ m < 1073741824) : ∃ v a' b' c', d_take [bag a b c cs, .int m] = some (.ok (.int v), [bag a' b' c' cs]) ∧ 0 ≤ v ∧ v < m ∧ BagOk a' b' c' cs := by
  have k := fill_ok h
  rw [d_take_eq h hm]
  split
  · exact ⟨_, _, _, _, rfl, Int.emod_nonneg _ (by omega), Int.emod_lt_of_pos _ hm.1, ⟨Int.ediv_nonneg k.a0 (by omega), k.b0, k.b1, k.c0, k.cl, k.cp⟩⟩
  · exact ⟨_, _, _, _, rfl, Int.emod_nonneg _ (by omega), Int.emod_lt_of_pos _ hm.1, k⟩

def b_some : MS := (sRet (e2 gIx (eP (mVar 1)) (eHeld 0 (eDef1 2 d_take 0 (eaP (mCons (mCall fLen (mCons (mVar 1) mNil)) mNil))))))
def d_some : Den := denOf 2 1 b_some
/-- _law_some: a member of the list -/
theorem d_some_ok {a b c : Int} {cs : List Int} (h : BagOk a b c cs) {l : List D} (hf : D.frzs l = true) (h0 : 0 < l.length) (h1 : l.length < 1073741824) : ∃ x a' b' c', d_some [bag a b c cs, .lst false l] = some (.ok x, [bag a' b' c' cs]) ∧ x ∈ l ∧ BagOk a' b' c' cs := by
  obtain ⟨v, a', b', c', e, v0, v1, k⟩ := d_take_ok h (m := (l.length : Int)) ⟨by omega, by omega⟩
  have iv : v.toNat < l.length := by omega
  obtain ⟨y, hy⟩ : ∃ y, l[v.toNat]? = some y := ⟨_, List.getElem?_eq_getElem iv⟩
  have fy : y.frz = true := frz_at hf hy
  refine ⟨y, a', b', c', ?_, List.mem_of_getElem? hy, k⟩
  have e1 : eP (mVar 1) [some (bag a b c cs), some (.lst false l)] = some (.ok (.lst false l), [some (bag a b c cs), some (.lst false l)]) := eP_ok rfl (by show (!false && D.frzs l) = true; rw [hf]; rfl)
  have e2' : eHeld 0 (eDef1 2 d_take 0 (eaP (mCons (mCall fLen (mCons (mVar 1) mNil)) mNil))) [some (bag a b c cs), some (.lst false l)] = some (.ok (.int v), [some (bag a' b' c' cs), some (.lst false l)]) := by
    show (match d_take (bag a b c cs :: D.fzs [.int (l.length : Nat)]) with
      | some (o, [d1]) => some (o, [some (bag a b c cs), some (.lst false l)].set 0 (some d1))
      | _ => none) = _
    rw [show d_take (bag a b c cs :: D.fzs [.int (l.length : Nat)]) = _ from e]
    rfl
  have e3 : gIx (.lst false l) (.int v) = some y := by
    show atI l v = _
    unfold atI ixN
    rw [if_pos v0, if_pos v1]
    exact hy
  have e4 : b_some (rho0 2 [bag a b c cs, .lst false l]) = some (.ok (.ret y), [some (bag a' b' c' cs), some (.lst false l)]) := by
    show sRet (e2 gIx _ _) [some (bag a b c cs), some (.lst false l)] = _
    unfold sRet e2
    rw [e1, bE_ok, e2', bE_ok, e3]
    simp only [fy, if_true]
    rfl
  unfold d_some denOf
  rw [e4]
  rfl
end OP

/-! OEv: how the readings are evaluated, step by step -/
namespace OP
open PySem PySem.Spec PyProof.Rows L2
section
variable {ρ ρ1 ρ2 : Rho}
theorem mCons_ok {ma : Rho → Option (O D)} {mr : Rho → Option (O (List D))} {x : D} {r : List D} (h : ma ρ = some (.ok x)) (k : mr ρ = some (.ok r)) : mCons ma mr ρ = some (.ok (x :: r)) := by
  unfold mCons
  rw [h, bnd_ok, k]
  rfl
theorem mTup_ok {m : Rho → Option (O (List D))} {l : List D} (h : m ρ = some (.ok l)) (f : D.frzs l = true) (n : l.length ≤ 16777216) : mTup m ρ = some (.ok (.tup l)) := by
  unfold mTup
  rw [h, bnd_ok, f, decide_eq_true n]
  rfl
theorem mLst_ok {m : Rho → Option (O (List D))} {l : List D} (h : m ρ = some (.ok l)) (f : D.frzs l = true) (n : l.length ≤ 16777216) : mLst m ρ = some (.ok (.lst false l)) := by
  unfold mLst
  rw [h, bnd_ok, f, decide_eq_true n]
  rfl
theorem mCall_ok {f : List D → Option D} {m : Rho → Option (O (List D))} {l : List D} {z : D} (h : m ρ = some (.ok l)) (hf : f l = some z) : mCall f m ρ = some (.ok z) := by
  unfold mCall
  rw [h, bnd_ok, hf]
  rfl
theorem mDef_ok {n : Nat} {den : Den} {m : Rho → Option (O (List D))} {l : List D} {z : D} (h : m ρ = some (.ok l)) (f : D.frzs l = true) (hn : l.length = n) (hz : z.frz = true) (hf : den l = some (.ok z, [])) : mDef n den m ρ = some (.ok z) := by
  unfold mDef
  rw [h, bnd_ok, if_pos ⟨f, hn⟩, hf]
  show some (O.ok z.fz) = _
  rw [D.fz_of hz]
theorem mIsi_ok {t : Ty} {m : Rho → Option (O D)} {x : D} {b : Bool} (h : m ρ = some (.ok x)) (k : isTy t x = some b) : mIsi t m ρ = some (.ok (.bl b)) := by
  unfold mIsi
  rw [h, bnd_ok, k]
  rfl
theorem mAnd_ok {ma mb : Rho → Option (O D)} {a b : Bool} (h : ma ρ = some (.ok (.bl a))) (k : a = true → mb ρ = some (.ok (.bl b))) : mAnd ma mb ρ = some (.ok (.bl (a && b))) := by
  unfold mAnd
  rw [h, bnd_ok]
  show bnd (some (O.ok a)) _ = _
  rw [bnd_ok]
  cases a with
  | false => rfl
  | true => rw [if_pos rfl, k rfl, Bool.true_and]
theorem mNot_ok {ma : Rho → Option (O D)} {a : Bool} (h : ma ρ = some (.ok (.bl a))) : mNot ma ρ = some (.ok (.bl (!a))) := by
  unfold mNot
  rw [h]
  rfl
theorem mNotT_ok {ma : Rho → Option (O Bool)} {a : Bool} (h : ma ρ = some (.ok a)) : mNotT ma ρ = some (.ok (!a)) := by
  unfold mNotT
  rw [h]
  rfl
theorem mOrT_t {ma mb : Rho → Option (O Bool)} (h : ma ρ = some (.ok true)) : mOrT ma mb ρ = some (.ok true) := by
  unfold mOrT
  rw [h]
  rfl
theorem mOrT_f {ma mb : Rho → Option (O Bool)} (h : ma ρ = some (.ok false)) : mOrT ma mb ρ = mb ρ := by
  unfold mOrT
  rw [h]
  rfl
theorem mAndT_t {ma mb : Rho → Option (O Bool)} (h : ma ρ = some (.ok true)) : mAndT ma mb ρ = mb ρ := by
  unfold mAndT
  rw [h]
  rfl
theorem mAndT_f {ma mb : Rho → Option (O Bool)} (h : ma ρ = some (.ok false)) : mAndT ma mb ρ = some (.ok false) := by
  unfold mAndT
  rw [h]
  rfl
theorem m1_ok {f : D → Option D} {m : Rho → Option (O D)} {x z : D} (h : m ρ = some (.ok x)) (hf : f x = some z) : m1 f m ρ = some (.ok z) := by
  unfold m1
  rw [h, bnd_ok, hf]
  rfl
theorem eCons_ok {ma : ME} {mr : MEA} {x : D} {r : List D} (h : ma ρ = some (.ok x, ρ1)) (k : mr ρ1 = some (.ok r, ρ2)) : eCons ma mr ρ = some (.ok (x :: r), ρ2) := by
  unfold eCons
  rw [h, bE_ok, k]
  rfl
theorem eNil_ok : eNil ρ = some (.ok [], ρ) := rfl
theorem eTup_ok {m : MEA} {l : List D} (h : m ρ = some (.ok l, ρ1)) (f : D.frzs l = true) (n : l.length ≤ 16777216) : eTup m ρ = some (.ok (.tup l), ρ1) := by
  unfold eTup
  rw [h, bE_ok, if_pos n, D.fzs_of f]
theorem eLst_ok {m : MEA} {l : List D} (h : m ρ = some (.ok l, ρ1)) (n : l.length ≤ 16777216) : eLst m ρ = some (.ok (.lst true l), ρ1) := by
  unfold eLst
  rw [h, bE_ok, if_pos n]
theorem eaP_ok {m : Rho → Option (O (List D))} {l : List D} (h : m ρ = some (.ok l)) (f : D.frzs l = true) : eaP m ρ = some (.ok l, ρ) := by
  unfold eaP
  rw [h]
  exact if_pos f
theorem eFz_ok {m : ME} {d : D} (h : m ρ = some (.ok d, ρ1)) : eFz m ρ = some (.ok d.fz, ρ1) := by
  unfold eFz
  rw [h]
  rfl
theorem e2_ok {f : D → D → Option D} {ma mb : ME} {x y z : D} (h : ma ρ = some (.ok x, ρ1)) (k : mb ρ1 = some (.ok y, ρ2)) (hz : z.frz = true) (hf : f x y = some z) : e2 f ma mb ρ = some (.ok z, ρ2) := by
  unfold e2
  rw [h, bE_ok, k, bE_ok, hf]
  simp only [hz, if_true]
theorem sSet_ok {i : Nat} {m : ME} {d : D} (h : m ρ = some (.ok d, ρ1)) : sSet i m ρ = some (.ok .nx, ρ1.set i (some d)) := by
  unfold sSet
  rw [h]
  rfl
theorem sRet_ok {m : ME} {d : D} (h : m ρ = some (.ok d, ρ1)) : sRet m ρ = some (.ok (.ret d), ρ1) := by
  unfold sRet
  rw [h]
  rfl
theorem sExpr_ok {m : ME} {d : D} (h : m ρ = some (.ok d, ρ1)) : sExpr m ρ = some (.ok .nx, ρ1) := by
  unfold sExpr
  rw [h]
  rfl
theorem sPar_ok {i j : Nat} {m : MEA} {x y : D} (h : m ρ = some (.ok [x, y], ρ1)) : sPar i j m ρ = some (.ok .nx, (ρ1.set i (some x)).set j (some y)) := by
  unfold sPar
  rw [h]
  rfl
theorem sFor_ok {m : MEA} {t : MT} {b : MS} {ds : List D} (h : m ρ = some (.ok ds, ρ1)) : sFor m t b ρ = loopF t b ds ρ1 := by
  unfold sFor
  rw [h]
  rfl
theorem eApp_ok {i : Nat} {m : ME} {l l1 : List D} {d : D} (h0 : ownL ρ i = some l) (h : m ρ = some (.ok d, ρ1)) (h1 : ownL ρ1 i = some l1) (hl : l1.length < 16777216) : eApp i m ρ = some (.ok .non, ρ1.set i (some (.lst true (l1 ++ [d])))) := by
  unfold eApp
  rw [h0]
  simp only [h, bE_ok, h1, hl, if_true]
/-- a loop whose body keeps a promise -/
theorem loop_all {t : MT} {b : MS} {I : Rho → Prop} : ∀ {ds : List D} {ρ : Rho}, I ρ → (∀ d ∈ ds, ∀ ρ, I ρ → ∃ ρ1 ρ2, t d ρ = some ρ1 ∧ b ρ1 = some (.ok .nx, ρ2) ∧ I ρ2) → ∃ ρ2, loopF t b ds ρ = some (.ok .nx, ρ2) ∧ I ρ2
  | [], ρ, i, _ => ⟨ρ, rfl, i⟩
  | d :: ds, ρ, i, h => by
    obtain ⟨ρ1, ρ2, e1, e2, i2⟩ := h d (List.mem_cons_self ..) ρ i
    obtain ⟨ρ3, e3, i3⟩ := loop_all (t := t) (b := b) (ds := ds) i2 fun d m => h d (List.mem_cons_of_mem _ m)
    refine ⟨ρ3, ?_, i3⟩
    simp only [loopF, e1, e2]
    exact e3
theorem frzs_mem {l : List D} (h : D.frzs l = true) : ∀ x ∈ l, x.frz = true := by
  induction l with
  | nil => intro x m; cases m
  | cons y r ih =>
    have k : y.frz = true ∧ D.frzs r = true := by simpa [D.frzs] using h
    intro x m
    rcases List.mem_cons.mp m with rfl | m
    · exact k.1
    · exact ih k.2 x m
theorem frzs_of {l : List D} (h : ∀ x ∈ l, x.frz = true) : D.frzs l = true := by
  induction l with
  | nil => rfl
  | cons y r ih =>
    show (y.frz && D.frzs r) = true
    rw [h y (List.mem_cons_self ..), ih fun x m => h x (List.mem_cons_of_mem _ m)]
    rfl
theorem frzs_app {l k : List D} (h : D.frzs l = true) (h2 : D.frzs k = true) : D.frzs (l ++ k) = true :=
  frzs_of fun x m => (List.mem_append.mp m).elim (frzs_mem h x) (frzs_mem h2 x)
theorem frz_lst {l : List D} (h : D.frzs l = true) : (D.lst false l).frz = true := by
  show (!false && D.frzs l) = true
  rw [h]; rfl
theorem held_take {i : Nat} {M : Rho → Option (O D)} {a b c m : Int} {cs : List Int} (hb : ρ[i]? = some (some (bag a b c cs))) (h : BagOk a b c cs) (hM : M ρ = some (.ok (.int m))) (hm : 0 < m ∧ m < 1073741824) :
    ∃ v a' b' c', eHeld i (eDef1 2 d_take i (eaP (mCons M mNil))) ρ = some (.ok (.int v), ρ.set i (some (bag a' b' c' cs))) ∧ 0 ≤ v ∧ v < m ∧ BagOk a' b' c' cs := by
  obtain ⟨v, a', b', c', e, v0, v1, k⟩ := d_take_ok h hm
  refine ⟨v, a', b', c', ?_, v0, v1, k⟩
  unfold eHeld eDef1
  rw [hb, eaP_ok (l := [.int m]) (mCons_ok hM rfl) rfl]
  simp only [Option.join, bE_ok, List.length_cons, List.length_nil, if_true, hb]
  show (match d_take [bag a b c cs, .int m] with
      | some (o, [d1]) => some (o, ρ.set i (some d1))
      | _ => none) = _
  rw [e]
theorem held_some {i : Nat} {M : Rho → Option (O D)} {a b c : Int} {cs : List Int} {l : List D} (hb : ρ[i]? = some (some (bag a b c cs))) (h : BagOk a b c cs) (hM : M ρ = some (.ok (.lst false l))) (hf : D.frzs l = true) (h0 : 0 < l.length) (h1 : l.length < 1073741824) :
    ∃ x a' b' c', eHeld i (eDef1 2 d_some i (eaP (mCons M mNil))) ρ = some (.ok x, ρ.set i (some (bag a' b' c' cs))) ∧ x ∈ l ∧ x.frz = true ∧ BagOk a' b' c' cs := by
  obtain ⟨x, a', b', c', e, m, k⟩ := d_some_ok h hf h0 h1
  refine ⟨x, a', b', c', ?_, m, frzs_mem hf x m, k⟩
  unfold eHeld eDef1
  have f : D.frzs [.lst false l] = true := by
    show ((D.lst false l).frz && true) = true
    rw [frz_lst hf]; rfl
  rw [hb, eaP_ok (l := [.lst false l]) (mCons_ok hM rfl) f]
  simp only [Option.join, bE_ok, List.length_cons, List.length_nil, if_true, hb]
  rw [D.fzs_of f]
  show (match d_some [bag a b c cs, .lst false l] with
      | some (o, [d1]) => some (o, ρ.set i (some d1))
      | _ => none) = _
  rw [e]
end
end OP

/-! OEw: comprehensions and loops evaluated -/
namespace OP
open PySem PySem.Spec PyProof.Rows L2
section
variable {ρ ρ1 ρ2 : Rho}
theorem lcP_go {t : MT} {c : Rho → Option (O Bool)} {me : Rho → Option (O D)} {G : D → Bool} {F : D → D} : ∀ {ds : List D}, (∀ d ∈ ds, ∃ ρd, t d ρ = some ρd ∧ c ρd = some (.ok (G d)) ∧ (G d = true → me ρd = some (.ok (F d)) ∧ (F d).frz = true)) → lcP t c me ρ ds = some ((ds.filter G).map F)
  | [], _ => rfl
  | d :: ds, h => by
    obtain ⟨ρd, e1, e2, e3⟩ := h d (List.mem_cons_self ..)
    have ih := lcP_go (ds := ds) fun x m => h x (List.mem_cons_of_mem _ m)
    cases g : G d with
    | false =>
      simp only [lcP, e1, e2, g, ih, List.filter_cons]
      rfl
    | true =>
      obtain ⟨e4, e5⟩ := e3 g
      simp only [lcP, e1, e2, g, e4, e5, if_true, ih, List.filter_cons, Option.map_some, List.map_cons]
theorem pLc_ok {m : Rho → Option (O (List D))} {t : MT} {c : Rho → Option (O Bool)} {me : Rho → Option (O D)} {vs : List Nat} {ds out : List D} (h : m ρ = some (.ok ds)) (f : D.frzs ds = true) (k : lcP t c me (wipeR ρ vs) ds = some out) (n : out.length ≤ 16777216) : pLc m t c me vs ρ = some (.ok (.lst false out)) := by
  unfold pLc
  rw [h, bnd_ok, if_pos f, k]
  exact if_pos n
theorem lcP2_go {t : MT} {c : Rho → Option (O Bool)} {m1 : Rho → Option (O (List D))} {t1 : MT} {c1 : Rho → Option (O Bool)} {me : Rho → Option (O D)} {vs1 : List Nat} {M : D → List D} : ∀ {ds : List D}, (∀ d ∈ ds, ∃ ρd L, t d ρ = some ρd ∧ c ρd = some (.ok true) ∧ m1 ρd = some (.ok L) ∧ lcP t1 c1 me (wipeR ρd vs1) L = some (M d)) → lcP2 t c m1 t1 c1 me vs1 ρ ds = some (ds.flatMap M)
  | [], _ => rfl
  | d :: ds, h => by
    obtain ⟨ρd, L, e1, e2, e3, e4⟩ := h d (List.mem_cons_self ..)
    have ih := lcP2_go (ds := ds) fun x m => h x (List.mem_cons_of_mem _ m)
    simp only [lcP2, e1, e2, e3, e4, ih, Option.map_some, List.flatMap_cons]
theorem pLc2_ok {m : Rho → Option (O (List D))} {t : MT} {c : Rho → Option (O Bool)} {m1 : Rho → Option (O (List D))} {t1 : MT} {c1 : Rho → Option (O Bool)} {me : Rho → Option (O D)} {vs vs1 : List Nat} {ds out : List D} (h : m ρ = some (.ok ds)) (f : D.frzs ds = true) (k : lcP2 t c m1 t1 c1 me vs1 (wipeR ρ vs) ds = some out) (n : out.length ≤ 16777216) : pLc2 m t c m1 t1 c1 me vs vs1 ρ = some (.ok (.lst false out)) := by
  unfold pLc2
  rw [h, bnd_ok, if_pos f, k]
  exact if_pos n
theorem bls_map {α : Type} (g : α → Bool) : ∀ l : List α, D.bls (l.map fun x => D.bl (g x)) = some (l.map g)
  | [] => rfl
  | x :: r => by
    show (D.bls (r.map fun x => D.bl (g x))).map _ = _
    rw [bls_map g r]
    rfl
theorem fAll_map {α : Type} (g : α → Bool) (o : Bool) (l : List α) : fAll [.lst o (l.map fun x => D.bl (g x))] = some (.bl (l.all g)) := by
  show (D.bls (l.map fun x => D.bl (g x))).map _ = _
  rw [bls_map]
  show some (D.bl ((l.map g).all id)) = _
  rw [List.all_map]
  rfl
theorem wP_ok {m : Rho → Option (O D)} {d : D} {l : List D} (h : m ρ = some (.ok d)) (k : d.walk = some l) : wP m ρ = some (.ok l) := by
  unfold wP
  rw [h, bnd_ok, k]
  rfl
theorem wE_ok {m : ME} {d : D} {l : List D} (h : m ρ = some (.ok d, ρ1)) (k : d.fz.walk = some l) : wE m ρ = some (.ok l, ρ1) := by
  unfold wE
  rw [h, bE_ok, k]
  rfl
/-- a loop that ends at the first item of which g holds -/
theorem loop_find {t : MT} {b : MS} {r : D} {g : D → Bool} {I : Rho → Prop} : ∀ {ds : List D} {ρ : Rho}, I ρ → (∀ d ∈ ds, ∀ ρ, I ρ → ∃ ρ1 ρ2, t d ρ = some ρ1 ∧ b ρ1 = some (if g d = true then .ok (.ret r) else .ok .nx, ρ2) ∧ I ρ2) → ∃ ρ2, loopF t b ds ρ = some (if ds.any g = true then .ok (.ret r) else .ok .nx, ρ2) ∧ I ρ2
  | [], ρ, i, _ => ⟨ρ, rfl, i⟩
  | d :: ds, ρ, i, h => by
    obtain ⟨ρ1, ρ2, e1, e2, i2⟩ := h d (List.mem_cons_self ..) ρ i
    obtain ⟨ρ3, e3, i3⟩ := loop_find (t := t) (b := b) (r := r) (g := g) (ds := ds) i2 fun d m => h d (List.mem_cons_of_mem _ m)
    cases gd : g d with
    | true =>
      rw [gd, if_pos rfl] at e2
      refine ⟨ρ2, ?_, i2⟩
      simp only [loopF, e1, e2, List.any_cons, gd, Bool.true_or, if_true]
    | false =>
      rw [gd, if_neg (by decide)] at e2
      refine ⟨ρ3, ?_, i3⟩
      simp only [loopF, e1, e2, List.any_cons, gd, Bool.false_or]
      exact e3
theorem eqv_nil_list {x : PyData} {xs : List PyData} : PyData.eqv (.list (x :: xs)) (.list []) = false := by
  simp only [PyData.eqv, PyData.eqvAll]
theorem eqv_nil_tuple {x : PyData} {xs : List PyData} : PyData.eqv (.tuple (x :: xs)) (.tuple []) = false := by
  simp only [PyData.eqv, PyData.eqvAll]
/-- values of small depth that can be compared -/
def pyOk (n : Nat) (x : D) : Prop := ∃ p, x.py = some p ∧ p.canLay0 = true ∧ p.depth ≤ n
def pysOk (n : Nat) (l : List D) : Prop := ∃ ps, D.pys l = some ps ∧ PyData.canLayAll0 ps = true ∧ PyData.depthAll ps ≤ n ∧ ps.length = l.length
theorem pysOk_of {n : Nat} : ∀ {l : List D}, (∀ x ∈ l, pyOk n x) → pysOk n l
  | [], _ => ⟨[], rfl, rfl, Nat.zero_le _, rfl⟩
  | x :: r, h => by
    obtain ⟨p, e, c, d⟩ := h x (List.mem_cons_self ..)
    obtain ⟨ps, e2, c2, d2, l2⟩ := pysOk_of (l := r) fun y m => h y (List.mem_cons_of_mem _ m)
    refine ⟨p :: ps, ?_, ?_, ?_, ?_⟩
    · simp only [D.pys, e, e2]
    · simp only [PyData.canLayAll0, c, c2, Bool.and_self]
    · simp only [PyData.depthAll]
      omega
    · simp only [List.length_cons, l2]
theorem shaped_of {p : PyData} (c : p.canLay0 = true) (d : p.depth ≤ 64) : SeqAt.shaped p = true := by
  unfold SeqAt.shaped
  rw [c, decide_eq_true d]
  rfl
theorem pyOk_tup {n : Nat} {l : List D} (h : ∀ x ∈ l, pyOk n x) : pyOk (n + 1) (.tup l) := by
  obtain ⟨ps, e, c, d, _⟩ := pysOk_of h
  refine ⟨.tuple ps, ?_, ?_, ?_⟩
  · simp only [D.py, e, Option.map_some]
  · simp only [PyData.canLay0, c]
  · simp only [PyData.depth]
    omega
theorem pyOk_lst {n : Nat} {o : Bool} {l : List D} (h : ∀ x ∈ l, pyOk n x) : pyOk (n + 1) (.lst o l) := by
  obtain ⟨ps, e, c, d, _⟩ := pysOk_of h
  refine ⟨.list ps, ?_, ?_, ?_⟩
  · simp only [D.py, e, Option.map_some]
  · simp only [PyData.canLay0, c]
  · simp only [PyData.depth]
    omega
theorem pyOk_up {n m : Nat} {x : D} (h : pyOk n x) (k : n ≤ m) : pyOk m x := by
  obtain ⟨p, e, c, d⟩ := h
  exact ⟨p, e, c, Nat.le_trans d k⟩
theorem eqD_of {x y : D} {p q : PyData} (e1 : x.py = some p) (e2 : y.py = some q) (s1 : SeqAt.shaped p = true) (s2 : SeqAt.shaped q = true) : eqD x y = some (PyData.eqv p q) := by
  unfold eqD
  simp only [e1, e2, s1, s2, Bool.and_self, if_true]
/-- a list, compared with the empty one -/
theorem eqD_lst_nil {n : Nat} {o o2 : Bool} {l : List D} (h : ∀ x ∈ l, pyOk n x) (hn : n ≤ 60) : eqD (.lst o l) (.lst o2 []) = some l.isEmpty := by
  obtain ⟨ps, e, c, d, k⟩ := pysOk_of h
  have e1 : (D.lst o l).py = some (.list ps) := by simp only [D.py, e, Option.map_some]
  have e2 : (D.lst o2 []).py = some (.list []) := rfl
  rw [eqD_of e1 e2 (shaped_of (by simp only [PyData.canLay0, c]) (by simp only [PyData.depth]; omega)) (by decide)]
  cases l with
  | nil =>
    cases ps with
    | nil => rfl
    | cons _ _ => cases k
  | cons x r =>
    cases ps with
    | nil => cases k
    | cons p ps => rw [eqv_nil_list]; rfl
theorem eqD_tup_nil {n : Nat} {l : List D} (h : ∀ x ∈ l, pyOk n x) (hn : n ≤ 60) : eqD (.tup l) (.tup []) = some l.isEmpty := by
  obtain ⟨ps, e, c, d, k⟩ := pysOk_of h
  have e1 : (D.tup l).py = some (.tuple ps) := by simp only [D.py, e, Option.map_some]
  have e2 : (D.tup []).py = some (.tuple []) := rfl
  rw [eqD_of e1 e2 (shaped_of (by simp only [PyData.canLay0, c]) (by simp only [PyData.depth]; omega)) (by decide)]
  cases l with
  | nil =>
    cases ps with
    | nil => rfl
    | cons _ _ => cases k
  | cons x r =>
    cases ps with
    | nil => cases k
    | cons p ps => rw [eqv_nil_tuple]; rfl
mutual
theorem eqv_self : ∀ p : PyData, p.canLay0 = true → PyData.eqv p p = true
  | .none, _ => by simp only [PyData.eqv]
  | .bool b, _ => by simp only [PyData.eqv, beq_self_eq_true]
  | .int i, _ => by simp only [PyData.eqv, beq_self_eq_true]
  | .str s, _ => by simp only [PyData.eqv, beq_self_eq_true]
  | .list l, h => by
    simp only [PyData.canLay0] at h
    simp only [PyData.eqv, eqvAll_self l h]
  | .tuple l, h => by
    simp only [PyData.canLay0] at h
    simp only [PyData.eqv, eqvAll_self l h]
  | .dict _, h => by simp only [PyData.canLay0] at h; cases h
theorem eqvAll_self : ∀ l : List PyData, PyData.canLayAll0 l = true → PyData.eqvAll l l = true
  | [], _ => by simp only [PyData.eqvAll]
  | p :: l, h => by
    simp only [PyData.canLayAll0, Bool.and_eq_true] at h
    simp only [PyData.eqvAll, eqv_self p h.1, eqvAll_self l h.2, Bool.and_self]
end
theorem eqD_self {n : Nat} {x : D} (h : pyOk n x) (hn : n ≤ 64) : eqD x x = some true := by
  obtain ⟨p, e, c, d⟩ := h
  rw [eqD_of e e (shaped_of c (Nat.le_trans d hn)) (shaped_of c (Nat.le_trans d hn)), eqv_self p c]
theorem gEq_of {x y : D} {b : Bool} (h : eqD x y = some b) : gEq x y = some (.bl b) := by
  unfold gEq
  rw [h]; rfl
theorem gNe_of {x y : D} {b : Bool} (h : eqD x y = some b) : gNe x y = some (.bl (!b)) := by
  unfold gNe
  rw [h]; rfl
end
end OP

namespace K11
open PySem PySem.Spec PyProof.Rows L2 OP
def topS (i : Nat) : Stmt := PySem.Challenge.pw_oncepages_k11_marks_of_rows.main.body.getD i (.Pass ⟨0, 0, 0, 0⟩)
def c_DIGITS : D := (.str "0123456789")
def c_LETTERS : D := (.str "abcdefghijklmnopqrstuvwxyz")
def c_MOST_LETTERS : D := (.int 8)
def c_RESERVED : D := (.tup [(.str "all"), (.str "any"), (.str "apply"), (.str "else"), (.str "first"), (.str "has"), (.str "if"), (.str "in"), (.str "last"), (.str "mode"), (.str "none"), (.str "of"), (.str "one"), (.str "or"), (.str "page"), (.str "root"), (.str "rule"), (.str "some"), (.str "tag"), (.str "text"), (.str "then")])
def c_WORDS : D := (.tup [(.str "in"), (.str "out")])
/-- what the text gives: its defs, its constants, the built-in names that it leaves alone -/
structure Fx (w : World) (K : PySem.W.Frag) (mg : Str → Option Value) (T : List (Addr × Str)) : Prop where
  n_abs : mg "abs" = none
  n_all : mg "all" = none
  n_enumerate : mg "enumerate" = none
  n_int : mg "int" = none
  n_isinstance : mg "isinstance" = none
  n_len : mg "len" = none
  n_list : mg "list" = none
  n_max : mg "max" = none
  n_range : mg "range" = none
  n_repr : mg "repr" = none
  n_str : mg "str" = none
  n_tuple : mg "tuple" = none
  c_DIGITS : GD ⟨K, mg, T, w⟩ "DIGITS" c_DIGITS
  c_LETTERS : GD ⟨K, mg, T, w⟩ "LETTERS" c_LETTERS
  c_MOST_LETTERS : GD ⟨K, mg, T, w⟩ "MOST_LETTERS" c_MOST_LETTERS
  c_RESERVED : GD ⟨K, mg, T, w⟩ "RESERVED" c_RESERVED
  c_WORDS : GD ⟨K, mg, T, w⟩ "WORDS" c_WORDS
  f_law_alike : FnIn K mg "_law_alike" (topS 25) ["found", "due"]
  f_law_bag : FnIn K mg "_law_bag" (topS 22) ["script"]
  f_law_deepest : FnIn K mg "_law_deepest" (topS 34) ["marks"]
  f_law_flat : FnIn K mg "_law_flat" (topS 26) ["trees"]
  f_law_is_mark : FnIn K mg "_law_is_mark" (topS 31) ["thing"]
  f_law_is_name : FnIn K mg "_law_is_name" (topS 30) ["thing"]
  f_law_marks_fault : FnIn K mg "_law_marks_fault" (topS 32) ["thing"]
  f_law_marks_of : FnIn K mg "_law_marks_of" (topS 29) ["trees"]
  f_law_nested : FnIn K mg "_law_nested" (topS 27) ["row"]
  f_law_some : FnIn K mg "_law_some" (topS 24) ["bag", "things"]
  f_law_some_trees : FnIn K mg "_law_some_trees" (topS 33) ["bag", "names", "most"]
  f_law_spoilt : FnIn K mg "_law_spoilt" (topS 35) ["bag", "marks"]
  f_law_take : FnIn K mg "_law_take" (topS 23) ["bag", "many"]
  f_law_things : FnIn K mg "_law_things" (topS 36) ["marks"]
  f_are_marks : FnIn K mg "are_marks" (topS 15) ["thing"]
  f_check_marks : FnIn K mg "check_marks" (topS 18) ["marks"]
  f_deepest_open : FnIn K mg "deepest_open" (topS 20) ["marks"]
  f_is_mark : FnIn K mg "is_mark" (topS 14) ["thing"]
  f_is_name : FnIn K mg "is_name" (topS 9) ["thing"]
  f_is_sized : FnIn K mg "is_sized" (topS 11) ["thing", "many"]
  f_is_tuple_of : FnIn K mg "is_tuple_of" (topS 10) ["thing", "is_one"]
  f_marks_fault : FnIn K mg "marks_fault" (topS 17) ["thing"]
  f_marks_of : FnIn K mg "marks_of" (topS 16) ["row"]
  f_row_told : FnIn K mg "row_told" (topS 19) ["marks"]
  no_law_nothing : NoIn K mg "_law_nothing" "Nothing" (topS 28) "act"
  x_Nothing : XcIn K mg "Nothing"
section
variable {P : Program} {w : World} {K : PySem.W.Frag} {mg : Str → Option Value} {base : Heap} {T : List (Addr × Str)}
/-! ### is_name -/
theorem S_is_name : FnScope ["thing", "sign"] ["thing"] (defScope (topS 9)) := ⟨rfl, rfl, rfl, by decide +kernel, rfl, by decide +kernel, by decide +kernel⟩
def b_is_name : MS := (sSeq (sIf (etP (mOrT (mNotT (mT (mIsi .str (mVar 0)))) (mNotT (mT (mChain gLe gLe (mC (.int 1)) (mCall fLen (mCons (mVar 0) mNil)) (mC c_MOST_LETTERS)))))) (sRet (eP (mC (.bl false)))) sNx) (sSeq (sIf (etP (mOrT (mT (m2 gNotIn (m2 gIx (mVar 0) (mC (.int 0))) (mC c_LETTERS))) (mT (m2 gIn (mVar 0) (mC c_RESERVED))))) (sRet (eP (mC (.bl false)))) sNx) (sRet (eP (mCall fAll (mCons (pLc (wP (mVar 0)) (tN 1) pYes (m2 gIn (mVar 1) (m2 gAdd (mC c_LETTERS) (mC c_DIGITS))) [1]) mNil))))))
def d_is_name : Den := denOf 2 0 b_is_name
theorem w_is_name (Φ : Fx w K mg T) : PmO P w K mg base T "is_name" 1 1 0 d_is_name :=
  pmO_of (lv := 0) Φ.f_is_name S_is_name (by decide) fun f cdv A outer s H E hr => (css_cons (cs_if (cet_p (PW.pt (cpt_or (cpt_not (cpt_val (cp_isi (t := .str) (cp_var (pv 0)) (by rfl) Φ.n_isinstance (by rfl) Φ.n_str))) (pw_or1 (cpt_not (cpt_chain op_le pr_le op_le pr_le cp_int (cp_call call_len pr_len (by rfl) Φ.n_len rfl (cpa_cons (cp_var (pv 0)) cpa_nil)) (cp_glob Φ.c_MOST_LETTERS))))))) (css_one (cs_ret (ce_p cp_bl))) css_nil) (css_cons (cs_if (cet_p (PW.pt (cpt_or (cpt_cmp op_notin3 pr_notin (cp_ix (cp_var (pv 0)) cp_int) (cp_glob Φ.c_LETTERS) (by rfl)) (pw_or1 (cpt_cmp op_in3 pr_in (cp_var (pv 0)) (cp_glob Φ.c_RESERVED) (by rfl)))))) (css_one (cs_ret (ce_p cp_bl))) css_nil) (css_one (cs_ret (ce_p (cp_call (cr_all rfl) pr_all (by rfl) Φ.n_all rfl (cpa_cons (cp_lc (own := [("sign", 1)]) rfl S_is_name.nd (ci_p (cp_var (pv 0))) (blkOk_by (N := ["thing", "sign"]) (sc := defScope (topS 9)) (by decide +kernel)) (fun _ _ _ _ _ => (cg_name (i := 1) (by simp) S_is_name.nd rfl (by first | exact Or.inl rfl | exact Or.inr rfl))) (fun _ _ _ _ _ => cpts_nil) (fun _ _ _ _ _ => (cp_cmp op_in3 pr_in (cp_var (pv 1)) (cp_bin op_add4 pr_add (cp_glob Φ.c_LETTERS) (cp_glob Φ.c_DIGITS)) (by rfl)))) cpa_nil)))))))
/-! ### is_sized -/
theorem S_is_sized : FnScope ["thing", "many"] ["thing", "many"] (defScope (topS 11)) := ⟨rfl, rfl, rfl, by decide +kernel, rfl, by decide +kernel, by decide +kernel⟩
def b_is_sized : MS := (sRet (eP (mAnd (mIsi .tuple (mVar 0)) (m2 gEq (mCall fLen (mCons (mVar 0) mNil)) (mVar 1)))))
def d_is_sized : Den := denOf 2 0 b_is_sized
theorem w_is_sized (Φ : Fx w K mg T) : PmO P w K mg base T "is_sized" 1 2 0 d_is_sized :=
  pmO_of (lv := 0) Φ.f_is_sized S_is_sized (by decide) fun f cdv A outer s H E hr => (css_one (cs_ret (ce_p (cp_and (cp_isi (t := .tuple) (cp_var (pv 0)) (by rfl) Φ.n_isinstance (by rfl) Φ.n_tuple) (pe_one (cp_cmp (op_eqD hr.units) pr_eq (cp_call call_len pr_len (by rfl) Φ.n_len rfl (cpa_cons (cp_var (pv 0)) cpa_nil)) (cp_var (pv 1)) (by rfl)))))))
/-! ### marks_of -/
theorem S_marks_of : FnScope ["row", "found", "still_open", "tag", "many"] ["row"] (defScope (topS 16)) := ⟨rfl, rfl, rfl, by decide +kernel, rfl, by decide +kernel, by decide +kernel⟩
def b_marks_of : MS := (sSeq (sPar 1 2 (eCons (eLst (eaP mNil)) (eCons (eLst (eaP mNil)) eNil))) (sSeq (sFor (wE (eP (mVar 0))) (tTp 2 (tsCons (tN 3) (tsCons (tN 4) tsNil))) (sSeq (sExpr (eApp 1 (eP (mTup (mCons (mC (.str "in")) (mCons (mVar 3) mNil)))))) (sSeq (sExpr (eApp 2 (eLst (eaP (mCons (mVar 3) (mCons (mVar 4) mNil)))))) (loopW (etP (mAndT (mT (m2 gNe (mVar 2) (mLst mNil))) (mT (m2 gEq (m2 gIx (m2 gIx (mVar 2) (m1 gNeg (mC (.int 1)))) (mC (.int 1))) (mC (.int 0)))))) (sSeq (sExpr (eApp 1 (eTup (eCons (eP (mC (.str "out"))) (eCons (e2 gIx (ePop 2) (eP (mC (.int 0)))) eNil))))) (sIf (etP (mT (m2 gNe (mVar 2) (mLst mNil)))) (sAugIx2 (fII fun i j => .int (i - j)) 2 (m1 gNeg (mC (.int 1))) (mC (.int 1)) (mC (.int 1))) sNx)) FUEL)))) (sRet (eP (mCall fTup (mCons (mVar 1) mNil))))))
def d_marks_of : Den := denOf 5 0 b_marks_of
theorem w_marks_of (Φ : Fx w K mg T) : PmO P w K mg base T "marks_of" 1 1 0 d_marks_of :=
  pmO_of (lv := 0) Φ.f_marks_of S_marks_of (by decide) fun f cdv A outer s H E hr => (css_cons (cs_par (i := 1) (j := 2) (by decide) (by decide) rfl S_marks_of.nd rfl rfl (by decide) rfl rfl (cea_cons (ce_lst (cea_p cpa_nil)) (cea_cons (ce_lst (cea_p cpa_nil)) cea_nil)) (by rfl)) (css_cons (cs_for (passes_of rfl) rfl (ci_e (ce_p (cp_var (pv 0)))) (cg_tup rfl (cgs_cons (cg_name (i := 3) (by decide) S_marks_of.nd rfl (by first | exact Or.inl rfl | exact Or.inr rfl)) (cgs_cons (cg_name (i := 4) (by decide) S_marks_of.nd rfl (by first | exact Or.inl rfl | exact Or.inr rfl)) cgs_nil))) (css_cons (cs_expr (ce_app (pv 1) (ce_p (cp_tup (cpa_cons cp_str (cpa_cons (cp_var (pv 3)) cpa_nil)))))) (css_cons (cs_expr (ce_app (pv 2) (ce_lst (cea_p (cpa_cons (cp_var (pv 3)) (cpa_cons (cp_var (pv 4)) cpa_nil)))))) (css_one (cs_while FUEL (passes_of rfl) (cet_p (PW.pt (cpt_and (cpt_cmp (op_neD hr.units) pr_ne (cp_var (pv 2)) (cp_lst cpa_nil) (by rfl)) (pw_and1 (cpt_cmp (op_eqD hr.units) pr_eq (cp_ix (cp_ix (cp_var (pv 2)) (cp_un un_neg pr_neg cp_int)) cp_int) cp_int (by rfl)))))) (css_cons (cs_expr (ce_app (pv 1) (ce_tup (cea_cons (ce_p cp_str) (cea_cons (ce_ix (ce_pop (pv 2)) (ce_p cp_int)) cea_nil))))) (css_one (cs_if (cet_p (cpt_cmp (op_neD hr.units) pr_ne (cp_var (pv 2)) (cp_lst cpa_nil) (by rfl))) (css_one (cs_augIx2 ip_pr (pv 2) (cp_un un_neg pr_neg cp_int) cp_int cp_int ip_sub)) css_nil)))))))) (css_one (cs_ret (ce_p (cp_callT call_tuple_of pr_tuple (by rfl) Φ.n_tuple rfl (cpa_cons (cp_var (pv 1)) cpa_nil)))))))
/-! ### _law_bag -/
theorem S_law_bag : FnScope ["script", "cell"] ["script"] (defScope (topS 22)) := ⟨rfl, rfl, rfl, by decide +kernel, rfl, by decide +kernel, by decide +kernel⟩
def b_law_bag : MS := (sRet (eLst (eaP (mCons (mC (.int 0)) (mCons (mC (.int 1234567891)) (mCons (mC (.int 0)) (mCons (pLc (wP (mSl (mVar 0) mNoPart (mPart (mC (.int 63))))) (tN 1) pYes (mCall fAbs (mCons (mVar 1) mNil)) [1]) mNil)))))))
def d_law_bag : Den := denOf 2 0 b_law_bag
theorem w_law_bag (Φ : Fx w K mg T) : PmO P w K mg base T "_law_bag" 1 1 0 d_law_bag :=
  pmO_of (lv := 0) Φ.f_law_bag S_law_bag (by decide) fun f cdv A outer s H E hr => (css_one (cs_ret (ce_lst (cea_p (cpa_cons cp_int (cpa_cons cp_int (cpa_cons cp_int (cpa_cons (cp_lc (own := [("cell", 1)]) rfl S_law_bag.nd (ci_p (cp_sl (cp_var (pv 0)) cpo_none (cpo_some cp_int))) (blkOk_by (N := ["script", "cell"]) (sc := defScope (topS 22)) (by decide +kernel)) (fun _ _ _ _ _ => (cg_name (i := 1) (by simp) S_law_bag.nd rfl (by first | exact Or.inl rfl | exact Or.inr rfl))) (fun _ _ _ _ _ => cpts_nil) (fun _ _ _ _ _ => (cp_call call_abs pr_abs (by rfl) Φ.n_abs rfl (cpa_cons (cp_var (pv 1)) cpa_nil)))) cpa_nil))))))))
/-! ### _law_take -/
theorem S_law_take : FnScope ["bag", "many", "cell", "stirred", "value", "begin", "second"] ["bag", "many"] (defScope (topS 23)) := ⟨rfl, rfl, rfl, by decide +kernel, rfl, by decide +kernel, by decide +kernel⟩
def b_law_take : MS := (sSeq (sIf (etP (mT (m2 gEq (m2 gIx (mVar 0) (mC (.int 0))) (mC (.int 0))))) (sSeq (sSet 2 (eP (m2 gIx (m2 gAdd (mSl (m2 gIx (mVar 0) (mC (.int 3))) (mPart (m2 gIx (mVar 0) (mC (.int 2)))) mNoPart) (mLst (mCons (mC (.int 0)) mNil))) (mC (.int 0))))) (sSeq (sAugIx (fII fun i j => .int (i + j)) 0 (mC (.int 2)) (eP (mC (.int 1)))) (sSeq (sIf (etP (mT (m2 gGe (mVar 2) (m2 gPow (mC (.int 10)) (mC (.int 18)))))) (sSetIx 0 (mC (.int 0)) (eP (mVar 2))) sNx) (sSeq (sSet 3 (eP (m2 gAdd (m2 gAdd (m2 gMul5 (m2 gIx (mVar 0) (mC (.int 1))) (mC (.int 48271))) (m2 gMod (mCall fInt (mCons (mVar 2) mNil)) (mC (.int 2147483647)))) (m2 gMul5 (mC (.int 7919)) (m2 gIx (mVar 0) (mC (.int 2))))))) (sSetIx 0 (mC (.int 1)) (eP (m2 gMod (mCall fInt (mCons (mVar 3) mNil)) (mC (.int 2147483647))))))))) sNx) (sSeq (sIf (etP (mT (m2 gGt (m2 gIx (mVar 0) (mC (.int 0))) (mC (.int 0))))) (sSeq (sSet 4 (eP (m2 gMod (mCall fInt (mCons (m2 gIx (mVar 0) (mC (.int 0))) mNil)) (mVar 1)))) (sSeq (sSetIx 0 (mC (.int 0)) (eP (m2 gDiv (mCall fInt (mCons (m2 gIx (mVar 0) (mC (.int 0))) mNil)) (mVar 1)))) (sRet (eP (mVar 4))))) sNx) (sSeq (sSet 5 (eP (m2 gMod (mCall fInt (mCons (m2 gMul5 (m2 gAdd (m2 gIx (mVar 0) (mC (.int 1))) (mC (.int 1))) (mC (.int 39373))) mNil)) (mC (.int 1000000007))))) (sSeq (sSet 6 (eP (m2 gMod (mCall fInt (mCons (m2 gMul5 (m2 gMod (mCall fInt (mCons (m2 gMul5 (mVar 5) (mVar 5)) mNil)) (mC (.int 998244353))) (mC (.int 30011))) mNil)) (mC (.int 998244353))))) (sRet (eP (m2 gMod (mCall fInt (mCons (m2 gDiv (mVar 6) (mC (.int 7))) mNil)) (mVar 1))))))))
def d_law_take : Den := denOf 7 1 b_law_take
theorem w_law_take (Φ : Fx w K mg T) : PmO P w K mg base T "_law_take" 1 2 1 d_law_take :=
  pmO_of (lv := 0) Φ.f_law_take S_law_take (by decide) fun f cdv A outer s H E hr => (css_cons (cs_if (cet_p (cpt_cmp (op_eqD hr.units) pr_eq (cp_ix (cp_var (pv 0)) cp_int) cp_int (by rfl))) (css_cons (cs_set (i := 2) (by decide) S_law_take.nd rfl (by first | exact Or.inl rfl | exact Or.inr rfl) (ce_p (cp_ix (cp_bin op_add4 pr_add (cp_sl (cp_ix (cp_var (pv 0)) cp_int) (cpo_some (cp_ix (cp_var (pv 0)) cp_int)) cpo_none) (cp_lst (cpa_cons cp_int cpa_nil))) cp_int))) (css_cons (cs_augIx ip_pr (pv 0) cp_int (ce_p cp_int) ip_add) (css_cons (cs_if (cet_p (cpt_cmp op_ge pr_ge (cp_var (pv 2)) (cp_bin op_pow pr_pow cp_int cp_int) (by rfl))) (css_one (cs_setIx (pv 0) cp_int (ce_p (cp_var (pv 2))))) css_nil) (css_cons (cs_set (i := 3) (by decide) S_law_take.nd rfl (by first | exact Or.inl rfl | exact Or.inr rfl) (ce_p (cp_bin op_add4 pr_add (cp_bin op_add4 pr_add (cp_bin op_mul5 pr_mul5 (cp_ix (cp_var (pv 0)) cp_int) cp_int) (cp_bin op_mod pr_mod (cp_callT call_int1 pr_int (by rfl) Φ.n_int rfl (cpa_cons (cp_var (pv 2)) cpa_nil)) cp_int)) (cp_bin op_mul5 pr_mul5 cp_int (cp_ix (cp_var (pv 0)) cp_int))))) (css_one (cs_setIx (pv 0) cp_int (ce_p (cp_bin op_mod pr_mod (cp_callT call_int1 pr_int (by rfl) Φ.n_int rfl (cpa_cons (cp_var (pv 3)) cpa_nil)) cp_int)))))))) css_nil) (css_cons (cs_if (cet_p (cpt_cmp op_gt pr_gt (cp_ix (cp_var (pv 0)) cp_int) cp_int (by rfl))) (css_cons (cs_set (i := 4) (by decide) S_law_take.nd rfl (by first | exact Or.inl rfl | exact Or.inr rfl) (ce_p (cp_bin op_mod pr_mod (cp_callT call_int1 pr_int (by rfl) Φ.n_int rfl (cpa_cons (cp_ix (cp_var (pv 0)) cp_int) cpa_nil)) (cp_var (pv 1))))) (css_cons (cs_setIx (pv 0) cp_int (ce_p (cp_bin op_fdiv pr_div (cp_callT call_int1 pr_int (by rfl) Φ.n_int rfl (cpa_cons (cp_ix (cp_var (pv 0)) cp_int) cpa_nil)) (cp_var (pv 1))))) (css_one (cs_ret (ce_p (cp_var (pv 4))))))) css_nil) (css_cons (cs_set (i := 5) (by decide) S_law_take.nd rfl (by first | exact Or.inl rfl | exact Or.inr rfl) (ce_p (cp_bin op_mod pr_mod (cp_callT call_int1 pr_int (by rfl) Φ.n_int rfl (cpa_cons (cp_bin op_mul5 pr_mul5 (cp_bin op_add4 pr_add (cp_ix (cp_var (pv 0)) cp_int) cp_int) cp_int) cpa_nil)) cp_int))) (css_cons (cs_set (i := 6) (by decide) S_law_take.nd rfl (by first | exact Or.inl rfl | exact Or.inr rfl) (ce_p (cp_bin op_mod pr_mod (cp_callT call_int1 pr_int (by rfl) Φ.n_int rfl (cpa_cons (cp_bin op_mul5 pr_mul5 (cp_bin op_mod pr_mod (cp_callT call_int1 pr_int (by rfl) Φ.n_int rfl (cpa_cons (cp_bin op_mul5 pr_mul5 (cp_var (pv 5)) (cp_var (pv 5))) cpa_nil)) cp_int) cp_int) cpa_nil)) cp_int))) (css_one (cs_ret (ce_p (cp_bin op_mod pr_mod (cp_callT call_int1 pr_int (by rfl) Φ.n_int rfl (cpa_cons (cp_bin op_fdiv pr_div (cp_var (pv 6)) cp_int) cpa_nil)) (cp_var (pv 1))))))))))
/-! ### _law_alike -/
theorem S_law_alike : FnScope ["found", "due"] ["found", "due"] (defScope (topS 25)) := ⟨rfl, rfl, rfl, by decide +kernel, rfl, by decide +kernel, by decide +kernel⟩
def b_law_alike : MS := (sRet (eP (mAnd (m2 gEq (mCall fRepr (mCons (mVar 0) mNil)) (mCall fRepr (mCons (mVar 1) mNil))) (m2 gEq (mVar 0) (mVar 1)))))
def d_law_alike : Den := denOf 2 0 b_law_alike
theorem w_law_alike (Φ : Fx w K mg T) : PmG P w K mg base T "_law_alike" 1 2 0 d_law_alike :=
  pmG_of (lv := 0) Φ.f_law_alike S_law_alike (by decide) fun f cdv A outer s H E hG hr => (css_one (cs_ret (ce_p (cp_and (cp_cmp (op_eqD hr.units) pr_eq (cp_call (call_repr hG hr) pr_repr (by rfl) Φ.n_repr rfl (cpa_cons (cp_var (pv 0)) cpa_nil)) (cp_call (call_repr hG hr) pr_repr (by rfl) Φ.n_repr rfl (cpa_cons (cp_var (pv 1)) cpa_nil)) (by rfl)) (pe_one (cp_cmp (op_eqD hr.units) pr_eq (cp_var (pv 0)) (cp_var (pv 1)) (by rfl)))))))
/-! ### _law_nested -/
theorem S_law_nested : FnScope ["row", "line", "tag", "many", "kept"] ["row"] (defScope (topS 27)) := ⟨rfl, rfl, rfl, by decide +kernel, rfl, by decide +kernel, by decide +kernel⟩
def b_law_nested : MS := (sSeq (sSet 1 (eP (mLst mNil))) (sSeq (sFor (wE (eP (m1 gRev2 (mVar 0)))) (tTp 2 (tsCons (tN 2) (tsCons (tN 3) tsNil))) (sSeq (sSet 4 (eP (mSl (mVar 1) (mPart (m2 gSub (mCall fLen (mCons (mVar 1) mNil)) (mVar 3))) mNoPart))) (sSet 1 (eP (m2 gAdd (mSl (mVar 1) mNoPart (mPart (m2 gSub (mCall fLen (mCons (mVar 1) mNil)) (mVar 3)))) (mLst (mCons (mTup (mCons (mVar 2) (mCons (mCall fTup (mCons (m1 gRev2 (mVar 4)) mNil)) mNil))) mNil))))))) (sRet (eP (mCall fTup (mCons (m1 gRev2 (mVar 1)) mNil))))))
def d_law_nested : Den := denOf 5 0 b_law_nested
theorem w_law_nested (Φ : Fx w K mg T) : PmO P w K mg base T "_law_nested" 1 1 0 d_law_nested :=
  pmO_of (lv := 0) Φ.f_law_nested S_law_nested (by decide) fun f cdv A outer s H E hr => (css_cons (cs_set (i := 1) (by decide) S_law_nested.nd rfl (by first | exact Or.inl rfl | exact Or.inr rfl) (ce_p (cp_lst cpa_nil))) (css_cons (cs_for (passes_of rfl) rfl (ci_e (ce_p (cp_rev2 (cp_var (pv 0))))) (cg_tup rfl (cgs_cons (cg_name (i := 2) (by decide) S_law_nested.nd rfl (by first | exact Or.inl rfl | exact Or.inr rfl)) (cgs_cons (cg_name (i := 3) (by decide) S_law_nested.nd rfl (by first | exact Or.inl rfl | exact Or.inr rfl)) cgs_nil))) (css_cons (cs_set (i := 4) (by decide) S_law_nested.nd rfl (by first | exact Or.inl rfl | exact Or.inr rfl) (ce_p (cp_sl (cp_var (pv 1)) (cpo_some (cp_bin op_sub pr_sub (cp_call call_len pr_len (by rfl) Φ.n_len rfl (cpa_cons (cp_var (pv 1)) cpa_nil)) (cp_var (pv 3)))) cpo_none))) (css_one (cs_set (i := 1) (by decide) S_law_nested.nd rfl (by first | exact Or.inl rfl | exact Or.inr rfl) (ce_p (cp_bin op_add4 pr_add (cp_sl (cp_var (pv 1)) cpo_none (cpo_some (cp_bin op_sub pr_sub (cp_call call_len pr_len (by rfl) Φ.n_len rfl (cpa_cons (cp_var (pv 1)) cpa_nil)) (cp_var (pv 3))))) (cp_lst (cpa_cons (cp_tup (cpa_cons (cp_var (pv 2)) (cpa_cons (cp_callT call_tuple_of pr_tuple (by rfl) Φ.n_tuple rfl (cpa_cons (cp_rev2 (cp_var (pv 4))) cpa_nil)) cpa_nil))) cpa_nil)))))))) (css_one (cs_ret (ce_p (cp_callT call_tuple_of pr_tuple (by rfl) Φ.n_tuple rfl (cpa_cons (cp_rev2 (cp_var (pv 1))) cpa_nil)))))))
theorem S_law_nothing : FnScope ["act"] ["act"] (defScope (topS 28)) := ⟨rfl, rfl, rfl, by decide +kernel, rfl, by decide +kernel, by decide +kernel⟩
/-! ### _law_is_name -/
theorem S_law_is_name : FnScope ["thing", "words", "letters", "sign"] ["thing"] (defScope (topS 30)) := ⟨rfl, rfl, rfl, by decide +kernel, rfl, by decide +kernel, by decide +kernel⟩
def b_law_is_name : MS := (sSeq (sSet 1 (eP (mM1 gSplit (mC (.str "all any apply else first has if in last mode none of one or page root rule some tag text then")) (mC (.str " "))))) (sSeq (sIf (etP (mOrT (mNotT (mT (mIsi .str (mVar 0)))) (mOrT (mT (m2 gLt (mCall fLen (mCons (mVar 0) mNil)) (mC (.int 1)))) (mOrT (mT (m2 gGt (mCall fLen (mCons (mVar 0) mNil)) (mC (.int 8)))) (mT (m2 gIn (mVar 0) (mVar 1))))))) (sRet (eP (mC (.bl false)))) sNx) (sSeq (sSet 2 (eP (mC (.str "abcdefghijklmnopqrstuvwxyz")))) (sRet (eP (mAnd (m2 gIn (m2 gIx (mVar 0) (mC (.int 0))) (mVar 2)) (m2 gEq (pLc (wP (mVar 0)) (tN 3) (mT (m2 gNotIn (mVar 3) (m2 gAdd (mVar 2) (mC (.str "0123456789"))))) (mVar 3) [3]) (mLst mNil))))))))
def d_law_is_name : Den := denOf 4 0 b_law_is_name
theorem w_law_is_name (Φ : Fx w K mg T) : PmO P w K mg base T "_law_is_name" 1 1 0 d_law_is_name :=
  pmO_of (lv := 0) Φ.f_law_is_name S_law_is_name (by decide) fun f cdv A outer s H E hr => (css_cons (cs_set (i := 1) (by decide) S_law_is_name.nd rfl (by first | exact Or.inl rfl | exact Or.inr rfl) (ce_p (cp_split cp_str cp_str))) (css_cons (cs_if (cet_p (PW.pt (cpt_or (cpt_not (cpt_val (cp_isi (t := .str) (cp_var (pv 0)) (by rfl) Φ.n_isinstance (by rfl) Φ.n_str))) (cpt_or (cpt_cmp op_lt pr_lt (cp_call call_len pr_len (by rfl) Φ.n_len rfl (cpa_cons (cp_var (pv 0)) cpa_nil)) cp_int (by rfl)) (cpt_or (cpt_cmp op_gt pr_gt (cp_call call_len pr_len (by rfl) Φ.n_len rfl (cpa_cons (cp_var (pv 0)) cpa_nil)) cp_int (by rfl)) (pw_or1 (cpt_cmp op_in3 pr_in (cp_var (pv 0)) (cp_var (pv 1)) (by rfl)))))))) (css_one (cs_ret (ce_p cp_bl))) css_nil) (css_cons (cs_set (i := 2) (by decide) S_law_is_name.nd rfl (by first | exact Or.inl rfl | exact Or.inr rfl) (ce_p cp_str)) (css_one (cs_ret (ce_p (cp_and (cp_cmp op_in3 pr_in (cp_ix (cp_var (pv 0)) cp_int) (cp_var (pv 2)) (by rfl)) (pe_one (cp_cmp (op_eqD hr.units) pr_eq (cp_lc (own := [("sign", 3)]) rfl S_law_is_name.nd (ci_p (cp_var (pv 0))) (blkOk_by (N := ["thing", "words", "letters", "sign"]) (sc := defScope (topS 30)) (by decide +kernel)) (fun _ _ _ _ _ => (cg_name (i := 3) (by simp) S_law_is_name.nd rfl (by first | exact Or.inl rfl | exact Or.inr rfl))) (fun _ _ _ _ _ => (cpts_one (cpt_cmp op_notin3 pr_notin (cp_var (pv 3)) (cp_bin op_add4 pr_add (cp_var (pv 2)) cp_str) (by rfl)))) (fun _ _ _ _ _ => (cp_var (pv 3)))) (cp_lst cpa_nil) (by rfl))))))))))
/-! ### _law_deepest -/
theorem S_law_deepest : FnScope ["marks", "found", "here", "word", "name"] ["marks"] (defScope (topS 34)) := ⟨rfl, rfl, rfl, by decide +kernel, rfl, by decide +kernel, by decide +kernel⟩
def b_law_deepest : MS := (sSeq (sAsg (eP (mTup (mCons (mC (.int 0)) (mCons (mC (.int 0)) mNil)))) (tTp 2 (tsCons (tN 1) (tsCons (tN 2) tsNil)))) (sSeq (sFor (wE (eP (mVar 0))) (tTp 2 (tsCons (tN 3) (tsCons (tN 4) tsNil))) (sSeq (sSet 2 (eP (m2 gAdd (mVar 2) (mIf (mT (m2 gEq (mVar 3) (mC (.str "in")))) (mC (.int 1)) (m1 gNeg (mC (.int 1))))))) (sSet 1 (eP (mCall fMax2 (mCons (mVar 1) (mCons (mVar 2) mNil))))))) (sRet (eP (mVar 1)))))
def d_law_deepest : Den := denOf 5 0 b_law_deepest
theorem w_law_deepest (Φ : Fx w K mg T) : PmO P w K mg base T "_law_deepest" 1 1 0 d_law_deepest :=
  pmO_of (lv := 0) Φ.f_law_deepest S_law_deepest (by decide) fun f cdv A outer s H E hr => (css_cons (cs_asg (ce_p (cp_tup (cpa_cons cp_int (cpa_cons cp_int cpa_nil)))) (cg_tup rfl (cgs_cons (cg_name (i := 1) (by decide) S_law_deepest.nd rfl (by first | exact Or.inl rfl | exact Or.inr rfl)) (cgs_cons (cg_name (i := 2) (by decide) S_law_deepest.nd rfl (by first | exact Or.inl rfl | exact Or.inr rfl)) cgs_nil)))) (css_cons (cs_for (passes_of rfl) rfl (ci_e (ce_p (cp_var (pv 0)))) (cg_tup rfl (cgs_cons (cg_name (i := 3) (by decide) S_law_deepest.nd rfl (by first | exact Or.inl rfl | exact Or.inr rfl)) (cgs_cons (cg_name (i := 4) (by decide) S_law_deepest.nd rfl (by first | exact Or.inl rfl | exact Or.inr rfl)) cgs_nil))) (css_cons (cs_set (i := 2) (by decide) S_law_deepest.nd rfl (by first | exact Or.inl rfl | exact Or.inr rfl) (ce_p (cp_bin op_add4 pr_add (cp_var (pv 2)) (cp_if (cpt_cmp (op_eqD hr.units) pr_eq (cp_var (pv 3)) cp_str (by rfl)) cp_int (cp_un un_neg pr_neg cp_int))))) (css_one (cs_set (i := 1) (by decide) S_law_deepest.nd rfl (by first | exact Or.inl rfl | exact Or.inr rfl) (ce_p (cp_call (call_max2 rfl) pr_max2 (by rfl) Φ.n_max rfl (cpa_cons (cp_var (pv 1)) (cpa_cons (cp_var (pv 2)) cpa_nil)))))))) (css_one (cs_ret (ce_p (cp_var (pv 1)))))))
/-! ### _law_things -/
theorem S_law_things : FnScope ["marks", "found"] ["marks"] (defScope (topS 36)) := ⟨rfl, rfl, rfl, by decide +kernel, rfl, by decide +kernel, by decide +kernel⟩
def b_law_things : MS := (sSeq (sSet 1 (eP (mLst (mCons (mCall (fun ds => (fLst ds).map (.lst false)) (mCons (mVar 0) mNil)) (mCons (m2 gAdd (mVar 0) (mTup (mCons (mTup (mCons (mC (.str "in")) mNil)) mNil))) (mCons (m2 gAdd (mVar 0) (mTup (mCons (mLst (mCons (mC (.str "in")) (mCons (mC (.str "a")) mNil))) mNil))) (mCons (m2 gAdd (mVar 0) (mTup (mCons (mTup (mCons (mC (.str "on")) (mCons (mC (.str "a")) mNil))) mNil))) (mCons (m2 gAdd (mVar 0) (mTup (mCons (mTup (mCons (mC (.str "in")) (mCons (mC (.str "page")) mNil))) mNil))) (mCons (m2 gAdd (mVar 0) (mTup (mCons (mTup (mCons (mC (.str "in")) (mCons (mC (.str "a")) (mCons (mC (.str "b")) mNil)))) mNil))) mNil))))))))) (sRet (eP (m2 gAdd (mVar 1) (mLst (mCons (mC .non) (mCons (mC (.str "in")) (mCons (mTup (mCons (mTup (mCons (mC (.str "in")) (mCons (mC (.int 3)) mNil))) mNil)) (mCons (mTup (mCons (mC .non) mNil)) (mCons (mTup (mCons (mTup (mCons (mC (.str "out")) (mCons (mC (.str "A")) mNil))) mNil)) (mCons (mTup (mCons (mTup (mCons (mC (.bl true)) (mCons (mC (.str "a")) mNil))) mNil)) mNil)))))))))))
def d_law_things : Den := denOf 2 0 b_law_things
theorem w_law_things (Φ : Fx w K mg T) : PmO P w K mg base T "_law_things" 1 1 0 d_law_things :=
  pmO_of (lv := 0) Φ.f_law_things S_law_things (by decide) fun f cdv A outer s H E hr => (css_cons (cs_set (i := 1) (by decide) S_law_things.nd rfl (by first | exact Or.inl rfl | exact Or.inr rfl) (ce_p (cp_lst (cpa_cons (cp_callT call_list_of pr_list.frz (by rfl) Φ.n_list rfl (cpa_cons (cp_var (pv 0)) cpa_nil)) (cpa_cons (cp_bin op_add4 pr_add (cp_var (pv 0)) (cp_tup (cpa_cons (cp_tup (cpa_cons cp_str cpa_nil)) cpa_nil))) (cpa_cons (cp_bin op_add4 pr_add (cp_var (pv 0)) (cp_tup (cpa_cons (cp_lst (cpa_cons cp_str (cpa_cons cp_str cpa_nil))) cpa_nil))) (cpa_cons (cp_bin op_add4 pr_add (cp_var (pv 0)) (cp_tup (cpa_cons (cp_tup (cpa_cons cp_str (cpa_cons cp_str cpa_nil))) cpa_nil))) (cpa_cons (cp_bin op_add4 pr_add (cp_var (pv 0)) (cp_tup (cpa_cons (cp_tup (cpa_cons cp_str (cpa_cons cp_str cpa_nil))) cpa_nil))) (cpa_cons (cp_bin op_add4 pr_add (cp_var (pv 0)) (cp_tup (cpa_cons (cp_tup (cpa_cons cp_str (cpa_cons cp_str (cpa_cons cp_str cpa_nil)))) cpa_nil))) cpa_nil))))))))) (css_one (cs_ret (ce_p (cp_bin op_add4 pr_add (cp_var (pv 1)) (cp_lst (cpa_cons cp_non (cpa_cons cp_str (cpa_cons (cp_tup (cpa_cons (cp_tup (cpa_cons cp_str (cpa_cons cp_int cpa_nil))) cpa_nil)) (cpa_cons (cp_tup (cpa_cons cp_non cpa_nil)) (cpa_cons (cp_tup (cpa_cons (cp_tup (cpa_cons cp_str (cpa_cons cp_str cpa_nil))) cpa_nil)) (cpa_cons (cp_tup (cpa_cons (cp_tup (cpa_cons cp_bl (cpa_cons cp_str cpa_nil))) cpa_nil)) cpa_nil))))))))))))
/-! ### is_mark -/
theorem S_is_mark : FnScope ["thing"] ["thing"] (defScope (topS 14)) := ⟨rfl, rfl, rfl, by decide +kernel, rfl, by decide +kernel, by decide +kernel⟩
def b_is_mark : MS := (sRet (eP (mAnd (mDef 2 d_is_sized (mCons (mVar 0) (mCons (mC (.int 2)) mNil))) (mAnd (mIsi .str (m2 gIx (mVar 0) (mC (.int 0)))) (mAnd (m2 gIn (m2 gIx (mVar 0) (mC (.int 0))) (mC c_WORDS)) (mDef 1 d_is_name (mCons (m2 gIx (mVar 0) (mC (.int 1))) mNil)))))))
def d_is_mark : Den := denOf 1 0 b_is_mark
theorem w_is_mark (Φ : Fx w K mg T) : PmO P w K mg base T "is_mark" 2 1 0 d_is_mark :=
  pmO_of (lv := 1) Φ.f_is_mark S_is_mark (by decide) fun f cdv A outer s H E hr => (css_one (cs_ret (ce_p (cp_and (cq_def (w_is_sized Φ) (hr.mono (by decide)) (passB (takes_of rfl rfl rfl rfl)) (cpa_cons (cp_var (pv 0)) (cpa_cons cp_int cpa_nil))) (cp_and (cp_isi (t := .str) (cp_ix (cp_var (pv 0)) cp_int) (by rfl) Φ.n_isinstance (by rfl) Φ.n_str) (cp_and (cp_cmp op_in3 pr_in (cp_ix (cp_var (pv 0)) cp_int) (cp_glob Φ.c_WORDS) (by rfl)) (pe_one (cq_def (w_is_name Φ) (hr.mono (by decide)) (passB (takes_of rfl rfl rfl rfl)) (cpa_cons (cp_ix (cp_var (pv 0)) cp_int) cpa_nil)))))))))
/-! ### _law_some -/
theorem S_law_some : FnScope ["bag", "things"] ["bag", "things"] (defScope (topS 24)) := ⟨rfl, rfl, rfl, by decide +kernel, rfl, by decide +kernel, by decide +kernel⟩
def b_law_some : MS := (sRet (e2 gIx (eP (mVar 1)) (eHeld 0 (eDef1 2 d_law_take 0 (eaP (mCons (mCall fLen (mCons (mVar 1) mNil)) mNil))))))
def d_law_some : Den := denOf 2 1 b_law_some
theorem w_law_some (Φ : Fx w K mg T) : PmO P w K mg base T "_law_some" 2 2 1 d_law_some :=
  pmO_of (lv := 1) Φ.f_law_some S_law_some (by decide) fun f cdv A outer s H E hr => (css_one (cs_ret (ce_ix (ce_p (cp_var (pv 1))) (cq_def1 (w_law_take Φ) (hr.mono (by decide)) (passB (takes_of rfl rfl rfl rfl)) (pv 0) (cea_p (cpa_cons (cp_call call_len pr_len (by rfl) Φ.n_len rfl (cpa_cons (cp_var (pv 1)) cpa_nil)) cpa_nil))))))
/-! ### _law_is_mark -/
theorem S_law_is_mark : FnScope ["thing"] ["thing"] (defScope (topS 31)) := ⟨rfl, rfl, rfl, by decide +kernel, rfl, by decide +kernel, by decide +kernel⟩
def b_law_is_mark : MS := (sRet (eP (mAnd (mIsi .tuple (mVar 0)) (mAnd (m2 gEq (mCall fLen (mCons (mVar 0) mNil)) (mC (.int 2))) (mAnd (mIsi .str (m2 gIx (mVar 0) (mC (.int 0)))) (mAnd (m2 gIn (m2 gIx (mVar 0) (mC (.int 0))) (mTup (mCons (mC (.str "in")) (mCons (mC (.str "out")) mNil)))) (mDef 1 d_law_is_name (mCons (m2 gIx (mVar 0) (mC (.int 1))) mNil))))))))
def d_law_is_mark : Den := denOf 1 0 b_law_is_mark
theorem w_law_is_mark (Φ : Fx w K mg T) : PmO P w K mg base T "_law_is_mark" 2 1 0 d_law_is_mark :=
  pmO_of (lv := 1) Φ.f_law_is_mark S_law_is_mark (by decide) fun f cdv A outer s H E hr => (css_one (cs_ret (ce_p (cp_and (cp_isi (t := .tuple) (cp_var (pv 0)) (by rfl) Φ.n_isinstance (by rfl) Φ.n_tuple) (cp_and (cp_cmp (op_eqD hr.units) pr_eq (cp_call call_len pr_len (by rfl) Φ.n_len rfl (cpa_cons (cp_var (pv 0)) cpa_nil)) cp_int (by rfl)) (cp_and (cp_isi (t := .str) (cp_ix (cp_var (pv 0)) cp_int) (by rfl) Φ.n_isinstance (by rfl) Φ.n_str) (cp_and (cp_cmp op_in3 pr_in (cp_ix (cp_var (pv 0)) cp_int) (cp_tup (cpa_cons cp_str (cpa_cons cp_str cpa_nil))) (by rfl)) (pe_one (cq_def (w_law_is_name Φ) (hr.mono (by decide)) (passB (takes_of rfl rfl rfl rfl)) (cpa_cons (cp_ix (cp_var (pv 0)) cp_int) cpa_nil))))))))))
/-! ### is_tuple_of -/
def S_is_tuple_of_fns : Str → Option Den := fun y => if y = "is_mark" then some d_is_mark else none
theorem S_is_tuple_of_ok (Φ : Fx w K mg T) (y : Str) (den : Den) (h : S_is_tuple_of_fns y = some den) : PmO P w K mg base T y 2 1 0 den := by
  unfold S_is_tuple_of_fns at h
  split at h
  · rename_i e; cases h; subst e; exact (w_is_mark Φ).mono (by decide)
  cases h
theorem S_is_tuple_of : FnScope ["thing", "is_one", "one"] ["thing", "is_one"] (defScope (topS 10)) := ⟨rfl, rfl, rfl, by decide +kernel, rfl, by decide +kernel, by decide +kernel⟩
def b_is_tuple_of : MS := (sRet (eP (mAnd (mIsi .tuple (mVar 0)) (mCall fAll (mCons (pLc (wP (mVar 0)) (tN 2) pYes (mCallL 1 1 S_is_tuple_of_fns (mCons (mVar 2) mNil)) [2]) mNil)))))
def d_is_tuple_of : Den := denOf 3 0 b_is_tuple_of
theorem w_is_tuple_of (Φ : Fx w K mg T) : PmO P w K mg base T "is_tuple_of" 3 2 0 d_is_tuple_of :=
  pmO_of (lv := 2) Φ.f_is_tuple_of S_is_tuple_of (by decide) fun f cdv A outer s H E hr => (css_one (cs_ret (ce_p (cp_and (cp_isi (t := .tuple) (cp_var (pv 0)) (by rfl) Φ.n_isinstance (by rfl) Φ.n_tuple) (pe_one (cp_call (cr_all rfl) pr_all (by rfl) Φ.n_all rfl (cpa_cons (cp_lc (own := [("one", 2)]) rfl S_is_tuple_of.nd (ci_p (cp_var (pv 0))) (blkOk_by (N := ["thing", "is_one", "one"]) (sc := defScope (topS 10)) (by decide +kernel)) (fun _ _ _ _ _ => (cg_name (i := 2) (by simp) S_is_tuple_of.nd rfl (by first | exact Or.inl rfl | exact Or.inr rfl))) (fun _ _ _ _ _ => cpts_nil) (fun _ _ _ _ _ => (cq_callL (S_is_tuple_of_ok Φ) (hr.mono (by decide)) (fun σ => pass00 σ) (pv 1) (cpa_cons (cp_var (pv 2)) cpa_nil)))) cpa_nil)))))))
/-! ### _law_marks_fault -/
theorem S_law_marks_fault : FnScope ["thing", "held", "at", "word", "name", "mark"] ["thing"] (defScope (topS 32)) := ⟨rfl, rfl, rfl, by decide +kernel, rfl, by decide +kernel, by decide +kernel⟩
def b_law_marks_fault : MS := (sSeq (sIf (etP (mOrT (mNotT (mT (mIsi .tuple (mVar 0)))) (mT (m2 gNe (pLc (wP (mVar 0)) (tN 5) (mNotT (mT (mDef 1 d_law_is_mark (mCons (mVar 5) mNil)))) (mVar 5) [5]) (mLst mNil))))) (sRet (eP (mTup (mCons (mC (.str "form")) mNil)))) sNx) (sSeq (sSet 1 (eLst (eaP mNil))) (sSeq (sFor (wEnum (eaP (mCons (mVar 0) mNil))) (tTp 2 (tsCons (tN 2) (tsCons (tTp 2 (tsCons (tN 3) (tsCons (tN 4) tsNil))) tsNil))) (sIf (etP (mT (m2 gEq (mVar 3) (mC (.str "in"))))) (sExpr (eApp 1 (eP (mVar 4)))) (sIf (etP (mOrT (mT (m2 gEq (mVar 1) (mLst mNil))) (mT (m2 gNe (m2 gIx (mVar 1) (m1 gNeg (mC (.int 1)))) (mVar 4))))) (sRet (eP (mTup (mCons (mVar 2) (mCons (mC (.str "out")) mNil))))) (sExpr (ePop 1))))) (sRet (eP (mIf (mT (m2 gNe (mVar 1) (mLst mNil))) (mTup (mCons (mC (.str "open")) (mCons (mCall fLen (mCons (mVar 1) mNil)) mNil))) (mC .non)))))))
def d_law_marks_fault : Den := denOf 6 0 b_law_marks_fault
theorem w_law_marks_fault (Φ : Fx w K mg T) : PmO P w K mg base T "_law_marks_fault" 3 1 0 d_law_marks_fault :=
  pmO_of (lv := 2) Φ.f_law_marks_fault S_law_marks_fault (by decide) fun f cdv A outer s H E hr => (css_cons (cs_if (cet_p (PW.pt (cpt_or (cpt_not (cpt_val (cp_isi (t := .tuple) (cp_var (pv 0)) (by rfl) Φ.n_isinstance (by rfl) Φ.n_tuple))) (pw_or1 (cpt_cmp (op_neD hr.units) pr_ne (cp_lc (own := [("mark", 5)]) rfl S_law_marks_fault.nd (ci_p (cp_var (pv 0))) (blkOk_by (N := ["thing", "held", "at", "word", "name", "mark"]) (sc := defScope (topS 32)) (by decide +kernel)) (fun _ _ _ _ _ => (cg_name (i := 5) (by simp) S_law_marks_fault.nd rfl (by first | exact Or.inl rfl | exact Or.inr rfl))) (fun _ _ _ _ _ => (cpts_one (cpt_not (cpt_val (cq_def (w_law_is_mark Φ) (hr.mono (by decide)) (fun σ => pass00 σ) (cpa_cons (cp_var (pv 5)) cpa_nil)))))) (fun _ _ _ _ _ => (cp_var (pv 5)))) (cp_lst cpa_nil) (by rfl)))))) (css_one (cs_ret (ce_p (cp_tup (cpa_cons cp_str cpa_nil))))) css_nil) (css_cons (cs_set (i := 1) (by decide) S_law_marks_fault.nd rfl (by first | exact Or.inl rfl | exact Or.inr rfl) (ce_lst (cea_p cpa_nil))) (css_cons (cs_for (passes_of rfl) rfl (ci_enum (by rfl) Φ.n_enumerate (cea_p (cpa_cons (cp_var (pv 0)) cpa_nil))) (cg_tup rfl (cgs_cons (cg_name (i := 2) (by decide) S_law_marks_fault.nd rfl (by first | exact Or.inl rfl | exact Or.inr rfl)) (cgs_cons (cg_tup rfl (cgs_cons (cg_name (i := 3) (by decide) S_law_marks_fault.nd rfl (by first | exact Or.inl rfl | exact Or.inr rfl)) (cgs_cons (cg_name (i := 4) (by decide) S_law_marks_fault.nd rfl (by first | exact Or.inl rfl | exact Or.inr rfl)) cgs_nil))) cgs_nil))) (css_one (cs_if (cet_p (cpt_cmp (op_eqD hr.units) pr_eq (cp_var (pv 3)) cp_str (by rfl))) (css_one (cs_expr (ce_app (pv 1) (ce_p (cp_var (pv 4)))))) (css_one (cs_if (cet_p (PW.pt (cpt_or (cpt_cmp (op_eqD hr.units) pr_eq (cp_var (pv 1)) (cp_lst cpa_nil) (by rfl)) (pw_or1 (cpt_cmp (op_neD hr.units) pr_ne (cp_ix (cp_var (pv 1)) (cp_un un_neg pr_neg cp_int)) (cp_var (pv 4)) (by rfl)))))) (css_one (cs_ret (ce_p (cp_tup (cpa_cons (cp_var (pv 2)) (cpa_cons cp_str cpa_nil)))))) (css_one (cs_expr (ce_pop (pv 1))))))))) (css_one (cs_ret (ce_p (cp_if (cpt_cmp (op_neD hr.units) pr_ne (cp_var (pv 1)) (cp_lst cpa_nil) (by rfl)) (cp_tup (cpa_cons cp_str (cpa_cons (cp_call call_len pr_len (by rfl) Φ.n_len rfl (cpa_cons (cp_var (pv 1)) cpa_nil)) cpa_nil))) cp_non)))))))
/-! ### _law_some_trees -/
theorem S_law_some_trees : FnScope ["bag", "names", "most", "row", "k", "at"] ["bag", "names", "most"] (defScope (topS 33)) := ⟨rfl, rfl, rfl, by decide +kernel, rfl, by decide +kernel, by decide +kernel⟩
def b_law_some_trees : MS := (sSeq (sSet 3 (eP (mTup mNil))) (sSeq (sFor (wRng1 (eCons (eHeld 0 (eDef1 2 d_law_take 0 (eaP (mCons (m2 gAdd (mVar 2) (mC (.int 1))) mNil)))) eNil)) (tN 4) (sSeq (sSet 5 (eFz (eHeld 0 (eDef1 2 d_law_take 0 (eaP (mCons (m2 gAdd (mCall fLen (mCons (mVar 3) mNil)) (mC (.int 1))) mNil)))))) (sIf (etP (mOrT (mT (m2 gEq (mVar 5) (mCall fLen (mCons (mVar 3) mNil)))) (mT (m2 gEq (mVar 3) (mTup mNil))))) (sSet 3 (eFz (e2 gAdd (eP (mVar 3)) (eTup (eCons (eTup (eCons (eHeld 0 (eDef1 2 d_law_some 0 (eaP (mCons (mVar 1) mNil)))) (eCons (eP (mC (.int 0))) eNil))) eNil))))) (sSet 3 (eFz (e2 gAdd (e2 gAdd (eP (mSl (mVar 3) mNoPart (mPart (mVar 5)))) (eTup (eCons (eP (mTup (mCons (m2 gIx (m2 gIx (mVar 3) (mVar 5)) (mC (.int 0))) (mCons (m2 gAdd (m2 gIx (m2 gIx (mVar 3) (mVar 5)) (mC (.int 1))) (mC (.int 1))) mNil)))) (eCons (eTup (eCons (eHeld 0 (eDef1 2 d_law_some 0 (eaP (mCons (mVar 1) mNil)))) (eCons (eP (mC (.int 0))) eNil))) eNil)))) (eP (mSl (mVar 3) (mPart (m2 gAdd (mVar 5) (mC (.int 1)))) mNoPart)))))))) (sRet (eP (mDef 1 d_law_nested (mCons (mVar 3) mNil))))))
def d_law_some_trees : Den := denOf 6 1 b_law_some_trees
theorem w_law_some_trees (Φ : Fx w K mg T) : PmO P w K mg base T "_law_some_trees" 3 3 1 d_law_some_trees :=
  pmO_of (lv := 2) Φ.f_law_some_trees S_law_some_trees (by decide) fun f cdv A outer s H E hr => (css_cons (cs_set (i := 3) (by decide) S_law_some_trees.nd rfl (by first | exact Or.inl rfl | exact Or.inr rfl) (ce_p (cp_tup cpa_nil))) (css_cons (cs_for (passes_of rfl) rfl (ci_rng1 (by rfl) Φ.n_range (cea_cons (cq_def1 (w_law_take Φ) (hr.mono (by decide)) (passB (takes_of rfl rfl rfl rfl)) (pv 0) (cea_p (cpa_cons (cp_bin op_add4 pr_add (cp_var (pv 2)) cp_int) cpa_nil))) cea_nil)) (cg_name (i := 4) (by decide) S_law_some_trees.nd rfl (by first | exact Or.inl rfl | exact Or.inr rfl)) (css_cons (cs_set (i := 5) (by decide) S_law_some_trees.nd rfl (by first | exact Or.inl rfl | exact Or.inr rfl) (ce_fz (cq_def1 (w_law_take Φ) (hr.mono (by decide)) (passB (takes_of rfl rfl rfl rfl)) (pv 0) (cea_p (cpa_cons (cp_bin op_add4 pr_add (cp_call call_len pr_len (by rfl) Φ.n_len rfl (cpa_cons (cp_var (pv 3)) cpa_nil)) cp_int) cpa_nil))))) (css_one (cs_if (cet_p (PW.pt (cpt_or (cpt_cmp (op_eqD hr.units) pr_eq (cp_var (pv 5)) (cp_call call_len pr_len (by rfl) Φ.n_len rfl (cpa_cons (cp_var (pv 3)) cpa_nil)) (by rfl)) (pw_or1 (cpt_cmp (op_eqD hr.units) pr_eq (cp_var (pv 3)) (cp_tup cpa_nil) (by rfl)))))) (css_one (cs_set (i := 3) (by decide) S_law_some_trees.nd rfl (by first | exact Or.inl rfl | exact Or.inr rfl) (ce_fz (ce_bin op_add4 pr_add (ce_p (cp_var (pv 3))) (ce_tup (cea_cons (ce_tup (cea_cons (cq_def1 (w_law_some Φ) (hr.mono (by decide)) (passB (takes_of rfl rfl rfl rfl)) (pv 0) (cea_p (cpa_cons (cp_var (pv 1)) cpa_nil))) (cea_cons (ce_p cp_int) cea_nil))) cea_nil)))))) (css_one (cs_set (i := 3) (by decide) S_law_some_trees.nd rfl (by first | exact Or.inl rfl | exact Or.inr rfl) (ce_fz (ce_bin op_add4 pr_add (ce_bin op_add4 pr_add (ce_p (cp_sl (cp_var (pv 3)) cpo_none (cpo_some (cp_var (pv 5))))) (ce_tup (cea_cons (ce_p (cp_tup (cpa_cons (cp_ix (cp_ix (cp_var (pv 3)) (cp_var (pv 5))) cp_int) (cpa_cons (cp_bin op_add4 pr_add (cp_ix (cp_ix (cp_var (pv 3)) (cp_var (pv 5))) cp_int) cp_int) cpa_nil)))) (cea_cons (ce_tup (cea_cons (cq_def1 (w_law_some Φ) (hr.mono (by decide)) (passB (takes_of rfl rfl rfl rfl)) (pv 0) (cea_p (cpa_cons (cp_var (pv 1)) cpa_nil))) (cea_cons (ce_p cp_int) cea_nil))) cea_nil)))) (ce_p (cp_sl (cp_var (pv 3)) (cpo_some (cp_bin op_add4 pr_add (cp_var (pv 5)) cp_int)) cpo_none)))))))))) (css_one (cs_ret (ce_p (cq_def (w_law_nested Φ) (hr.mono (by decide)) (passB (takes_of rfl rfl rfl rfl)) (cpa_cons (cp_var (pv 3)) cpa_nil)))))))
/-! ### _law_spoilt -/
theorem S_law_spoilt : FnScope ["bag", "marks", "way", "k", "j", "at", "mark"] ["bag", "marks"] (defScope (topS 35)) := ⟨rfl, rfl, rfl, by decide +kernel, rfl, by decide +kernel, by decide +kernel⟩
def b_law_spoilt : MS := (sSeq (sAsg (eTup (eCons (eHeld 0 (eDef1 2 d_law_take 0 (eaP (mCons (mC (.int 7)) mNil)))) (eCons (eHeld 0 (eDef1 2 d_law_take 0 (eaP (mCons (m2 gAdd (mCall fLen (mCons (mVar 1) mNil)) (mC (.int 1))) mNil)))) (eCons (eHeld 0 (eDef1 2 d_law_take 0 (eaP (mCons (m2 gAdd (mCall fLen (mCons (mVar 1) mNil)) (mC (.int 1))) mNil)))) eNil)))) (tTp 3 (tsCons (tN 2) (tsCons (tN 3) (tsCons (tN 4) tsNil))))) (sSeq (sIf (etP (mT (m2 gEq (mVar 2) (mC (.int 0))))) (sRet (eP (m2 gAdd (mSl (mVar 1) mNoPart (mPart (mVar 3))) (mSl (mVar 1) (mPart (m2 gAdd (mVar 3) (mC (.int 1)))) mNoPart)))) sNx) (sSeq (sIf (etP (mT (m2 gEq (mVar 2) (mC (.int 1))))) (sRet (e2 gAdd (e2 gAdd (eP (mSl (mVar 1) mNoPart (mPart (mVar 3)))) (eTup (eCons (eTup (eCons (eHeld 0 (eDef1 2 d_law_some 0 (eaP (mCons (mLst (mCons (mC (.str "in")) (mCons (mC (.str "out")) mNil))) mNil)))) (eCons (eHeld 0 (eDef1 2 d_law_some 0 (eaP (mCons (mLst (mCons (mC (.str "a")) (mCons (mC (.str "b")) mNil))) mNil)))) eNil))) eNil))) (eP (mSl (mVar 1) (mPart (mVar 3)) mNoPart)))) sNx) (sSeq (sIf (etP (mAndT (mT (m2 gEq (mVar 2) (mC (.int 2)))) (mT (m2 gLt (mVar 3) (mCall fLen (mCons (mVar 1) mNil)))))) (sRet (e2 gAdd (e2 gAdd (eP (mSl (mVar 1) mNoPart (mPart (mVar 3)))) (eTup (eCons (eTup (eCons (eP (m2 gIx (m2 gIx (mVar 1) (mVar 3)) (mC (.int 0)))) (eCons (eHeld 0 (eDef1 2 d_law_some 0 (eaP (mCons (mLst (mCons (mC (.str "a")) (mCons (mC (.str "b")) (mCons (mC (.str "c")) mNil)))) mNil)))) eNil))) eNil))) (eP (mSl (mVar 1) (mPart (m2 gAdd (mVar 3) (mC (.int 1)))) mNoPart)))) sNx) (sSeq (sIf (etP (mAndT (mT (m2 gEq (mVar 2) (mC (.int 3)))) (mAndT (mT (m2 gLt (mVar 3) (mCall fLen (mCons (mVar 1) mNil)))) (mT (m2 gLt (mVar 4) (mCall fLen (mCons (mVar 1) mNil))))))) (sRet (eP (mCall fTup (mCons (pLc (wpEnum (mCons (mVar 1) mNil)) (tTp 2 (tsCons (tN 5) (tsCons (tN 6) tsNil))) pYes (mIf (mT (m2 gEq (mVar 5) (mVar 3))) (m2 gIx (mVar 1) (mVar 4)) (mIf (mT (m2 gEq (mVar 5) (mVar 4))) (m2 gIx (mVar 1) (mVar 3)) (mVar 6))) [5, 6]) mNil)))) sNx) (sSeq (sIf (etP (mT (m2 gEq (mVar 2) (mC (.int 4))))) (sRet (eP (mSl (mVar 1) mNoPart (mPart (mVar 3))))) sNx) (sRet (eP (mIf (mT (m2 gEq (mVar 2) (mC (.int 5)))) (m2 gAdd (mVar 1) (mSl (mVar 1) (mPart (mVar 3)) mNoPart)) (mVar 1))))))))))
def d_law_spoilt : Den := denOf 7 1 b_law_spoilt
theorem w_law_spoilt (Φ : Fx w K mg T) : PmO P w K mg base T "_law_spoilt" 3 2 1 d_law_spoilt :=
  pmO_of (lv := 2) Φ.f_law_spoilt S_law_spoilt (by decide) fun f cdv A outer s H E hr => (css_cons (cs_asg (ce_tup (cea_cons (cq_def1 (w_law_take Φ) (hr.mono (by decide)) (passB (takes_of rfl rfl rfl rfl)) (pv 0) (cea_p (cpa_cons cp_int cpa_nil))) (cea_cons (cq_def1 (w_law_take Φ) (hr.mono (by decide)) (passB (takes_of rfl rfl rfl rfl)) (pv 0) (cea_p (cpa_cons (cp_bin op_add4 pr_add (cp_call call_len pr_len (by rfl) Φ.n_len rfl (cpa_cons (cp_var (pv 1)) cpa_nil)) cp_int) cpa_nil))) (cea_cons (cq_def1 (w_law_take Φ) (hr.mono (by decide)) (passB (takes_of rfl rfl rfl rfl)) (pv 0) (cea_p (cpa_cons (cp_bin op_add4 pr_add (cp_call call_len pr_len (by rfl) Φ.n_len rfl (cpa_cons (cp_var (pv 1)) cpa_nil)) cp_int) cpa_nil))) cea_nil)))) (cg_tup rfl (cgs_cons (cg_name (i := 2) (by decide) S_law_spoilt.nd rfl (by first | exact Or.inl rfl | exact Or.inr rfl)) (cgs_cons (cg_name (i := 3) (by decide) S_law_spoilt.nd rfl (by first | exact Or.inl rfl | exact Or.inr rfl)) (cgs_cons (cg_name (i := 4) (by decide) S_law_spoilt.nd rfl (by first | exact Or.inl rfl | exact Or.inr rfl)) cgs_nil))))) (css_cons (cs_if (cet_p (cpt_cmp (op_eqD hr.units) pr_eq (cp_var (pv 2)) cp_int (by rfl))) (css_one (cs_ret (ce_p (cp_bin op_add4 pr_add (cp_sl (cp_var (pv 1)) cpo_none (cpo_some (cp_var (pv 3)))) (cp_sl (cp_var (pv 1)) (cpo_some (cp_bin op_add4 pr_add (cp_var (pv 3)) cp_int)) cpo_none))))) css_nil) (css_cons (cs_if (cet_p (cpt_cmp (op_eqD hr.units) pr_eq (cp_var (pv 2)) cp_int (by rfl))) (css_one (cs_ret (ce_bin op_add4 pr_add (ce_bin op_add4 pr_add (ce_p (cp_sl (cp_var (pv 1)) cpo_none (cpo_some (cp_var (pv 3))))) (ce_tup (cea_cons (ce_tup (cea_cons (cq_def1 (w_law_some Φ) (hr.mono (by decide)) (passB (takes_of rfl rfl rfl rfl)) (pv 0) (cea_p (cpa_cons (cp_lst (cpa_cons cp_str (cpa_cons cp_str cpa_nil))) cpa_nil))) (cea_cons (cq_def1 (w_law_some Φ) (hr.mono (by decide)) (passB (takes_of rfl rfl rfl rfl)) (pv 0) (cea_p (cpa_cons (cp_lst (cpa_cons cp_str (cpa_cons cp_str cpa_nil))) cpa_nil))) cea_nil))) cea_nil))) (ce_p (cp_sl (cp_var (pv 1)) (cpo_some (cp_var (pv 3))) cpo_none))))) css_nil) (css_cons (cs_if (cet_p (PW.pt (cpt_and (cpt_cmp (op_eqD hr.units) pr_eq (cp_var (pv 2)) cp_int (by rfl)) (pw_and1 (cpt_cmp op_lt pr_lt (cp_var (pv 3)) (cp_call call_len pr_len (by rfl) Φ.n_len rfl (cpa_cons (cp_var (pv 1)) cpa_nil)) (by rfl)))))) (css_one (cs_ret (ce_bin op_add4 pr_add (ce_bin op_add4 pr_add (ce_p (cp_sl (cp_var (pv 1)) cpo_none (cpo_some (cp_var (pv 3))))) (ce_tup (cea_cons (ce_tup (cea_cons (ce_p (cp_ix (cp_ix (cp_var (pv 1)) (cp_var (pv 3))) cp_int)) (cea_cons (cq_def1 (w_law_some Φ) (hr.mono (by decide)) (passB (takes_of rfl rfl rfl rfl)) (pv 0) (cea_p (cpa_cons (cp_lst (cpa_cons cp_str (cpa_cons cp_str (cpa_cons cp_str cpa_nil)))) cpa_nil))) cea_nil))) cea_nil))) (ce_p (cp_sl (cp_var (pv 1)) (cpo_some (cp_bin op_add4 pr_add (cp_var (pv 3)) cp_int)) cpo_none))))) css_nil) (css_cons (cs_if (cet_p (PW.pt (cpt_and (cpt_cmp (op_eqD hr.units) pr_eq (cp_var (pv 2)) cp_int (by rfl)) (cpt_and (cpt_cmp op_lt pr_lt (cp_var (pv 3)) (cp_call call_len pr_len (by rfl) Φ.n_len rfl (cpa_cons (cp_var (pv 1)) cpa_nil)) (by rfl)) (pw_and1 (cpt_cmp op_lt pr_lt (cp_var (pv 4)) (cp_call call_len pr_len (by rfl) Φ.n_len rfl (cpa_cons (cp_var (pv 1)) cpa_nil)) (by rfl))))))) (css_one (cs_ret (ce_p (cp_callT call_tuple_of pr_tuple (by rfl) Φ.n_tuple rfl (cpa_cons (cp_lc (own := [("at", 5), ("mark", 6)]) rfl S_law_spoilt.nd (cip_enum (by rfl) Φ.n_enumerate (cpa_cons (cp_var (pv 1)) cpa_nil)) (blkOk_by (N := ["bag", "marks", "way", "k", "j", "at", "mark"]) (sc := defScope (topS 35)) (by decide +kernel)) (fun _ _ _ _ _ => (cg_tup rfl (cgs_cons (cg_name (i := 5) (by simp) S_law_spoilt.nd rfl (by first | exact Or.inl rfl | exact Or.inr rfl)) (cgs_cons (cg_name (i := 6) (by simp) S_law_spoilt.nd rfl (by first | exact Or.inl rfl | exact Or.inr rfl)) cgs_nil)))) (fun _ _ _ _ _ => cpts_nil) (fun _ _ _ _ _ => (cp_if (cpt_cmp (op_eqD hr.units) pr_eq (cp_var (pv 5)) (cp_var (pv 3)) (by rfl)) (cp_ix (cp_var (pv 1)) (cp_var (pv 4))) (cp_if (cpt_cmp (op_eqD hr.units) pr_eq (cp_var (pv 5)) (cp_var (pv 4)) (by rfl)) (cp_ix (cp_var (pv 1)) (cp_var (pv 3))) (cp_var (pv 6)))))) cpa_nil))))) css_nil) (css_cons (cs_if (cet_p (cpt_cmp (op_eqD hr.units) pr_eq (cp_var (pv 2)) cp_int (by rfl))) (css_one (cs_ret (ce_p (cp_sl (cp_var (pv 1)) cpo_none (cpo_some (cp_var (pv 3))))))) css_nil) (css_one (cs_ret (ce_p (cp_if (cpt_cmp (op_eqD hr.units) pr_eq (cp_var (pv 2)) cp_int (by rfl)) (cp_bin op_add4 pr_add (cp_var (pv 1)) (cp_sl (cp_var (pv 1)) (cpo_some (cp_var (pv 3))) cpo_none)) (cp_var (pv 1))))))))))))
/-! ### are_marks -/
theorem S_are_marks : FnScope ["thing"] ["thing"] (defScope (topS 15)) := ⟨rfl, rfl, rfl, by decide +kernel, rfl, by decide +kernel, by decide +kernel⟩
def b_are_marks : MS := (sRet (eP (mDef 2 d_is_tuple_of (mCons (mVar 0) (mCons (mC (.fn "is_mark")) mNil)))))
def d_are_marks : Den := denOf 1 0 b_are_marks
theorem w_are_marks (Φ : Fx w K mg T) : PmO P w K mg base T "are_marks" 4 1 0 d_are_marks :=
  pmO_of (lv := 3) Φ.f_are_marks S_are_marks (by decide) fun f cdv A outer s H E hr => (css_one (cs_ret (ce_p (cq_def (w_is_tuple_of Φ) (hr.mono (by decide)) (passB (takes_of rfl rfl rfl rfl)) (cpa_cons (cp_var (pv 0)) (cpa_cons (cq_fn Φ.f_is_mark) cpa_nil))))))
/-! ### marks_fault -/
theorem S_marks_fault : FnScope ["thing", "still_open", "index", "word", "name"] ["thing"] (defScope (topS 17)) := ⟨rfl, rfl, rfl, by decide +kernel, rfl, by decide +kernel, by decide +kernel⟩
def b_marks_fault : MS := (sSeq (sIf (etP (mNotT (mT (mDef 1 d_are_marks (mCons (mVar 0) mNil))))) (sRet (eP (mTup (mCons (mC (.str "form")) mNil)))) sNx) (sSeq (sSet 1 (eLst (eaP mNil))) (sSeq (sFor (wEnum (eaP (mCons (mVar 0) mNil))) (tTp 2 (tsCons (tN 2) (tsCons (tTp 2 (tsCons (tN 3) (tsCons (tN 4) tsNil))) tsNil))) (sIf (etP (mT (m2 gEq (mVar 3) (mC (.str "in"))))) (sExpr (eApp 1 (eP (mVar 4)))) (sIf (etP (mOrT (mT (m2 gEq (mVar 1) (mLst mNil))) (mT (m2 gNe (m2 gIx (mVar 1) (m1 gNeg (mC (.int 1)))) (mVar 4))))) (sRet (eP (mTup (mCons (mVar 2) (mCons (mC (.str "out")) mNil))))) (sExpr (ePop 1))))) (sRet (eP (mIf (mT (m2 gNe (mVar 1) (mLst mNil))) (mTup (mCons (mC (.str "open")) (mCons (mCall fLen (mCons (mVar 1) mNil)) mNil))) (mC .non)))))))
def d_marks_fault : Den := denOf 5 0 b_marks_fault
theorem w_marks_fault (Φ : Fx w K mg T) : PmO P w K mg base T "marks_fault" 5 1 0 d_marks_fault :=
  pmO_of (lv := 4) Φ.f_marks_fault S_marks_fault (by decide) fun f cdv A outer s H E hr => (css_cons (cs_if (cet_p (cpt_not (cpt_val (cq_def (w_are_marks Φ) (hr.mono (by decide)) (passB (takes_of rfl rfl rfl rfl)) (cpa_cons (cp_var (pv 0)) cpa_nil))))) (css_one (cs_ret (ce_p (cp_tup (cpa_cons cp_str cpa_nil))))) css_nil) (css_cons (cs_set (i := 1) (by decide) S_marks_fault.nd rfl (by first | exact Or.inl rfl | exact Or.inr rfl) (ce_lst (cea_p cpa_nil))) (css_cons (cs_for (passes_of rfl) rfl (ci_enum (by rfl) Φ.n_enumerate (cea_p (cpa_cons (cp_var (pv 0)) cpa_nil))) (cg_tup rfl (cgs_cons (cg_name (i := 2) (by decide) S_marks_fault.nd rfl (by first | exact Or.inl rfl | exact Or.inr rfl)) (cgs_cons (cg_tup rfl (cgs_cons (cg_name (i := 3) (by decide) S_marks_fault.nd rfl (by first | exact Or.inl rfl | exact Or.inr rfl)) (cgs_cons (cg_name (i := 4) (by decide) S_marks_fault.nd rfl (by first | exact Or.inl rfl | exact Or.inr rfl)) cgs_nil))) cgs_nil))) (css_one (cs_if (cet_p (cpt_cmp (op_eqD hr.units) pr_eq (cp_var (pv 3)) cp_str (by rfl))) (css_one (cs_expr (ce_app (pv 1) (ce_p (cp_var (pv 4)))))) (css_one (cs_if (cet_p (PW.pt (cpt_or (cpt_cmp (op_eqD hr.units) pr_eq (cp_var (pv 1)) (cp_lst cpa_nil) (by rfl)) (pw_or1 (cpt_cmp (op_neD hr.units) pr_ne (cp_ix (cp_var (pv 1)) (cp_un un_neg pr_neg cp_int)) (cp_var (pv 4)) (by rfl)))))) (css_one (cs_ret (ce_p (cp_tup (cpa_cons (cp_var (pv 2)) (cpa_cons cp_str cpa_nil)))))) (css_one (cs_expr (ce_pop (pv 1))))))))) (css_one (cs_ret (ce_p (cp_if (cpt_cmp (op_neD hr.units) pr_ne (cp_var (pv 1)) (cp_lst cpa_nil) (by rfl)) (cp_tup (cpa_cons cp_str (cpa_cons (cp_call call_len pr_len (by rfl) Φ.n_len rfl (cpa_cons (cp_var (pv 1)) cpa_nil)) cpa_nil))) cp_non)))))))
/-! ### check_marks -/
theorem S_check_marks : FnScope ["marks"] ["marks"] (defScope (topS 18)) := ⟨rfl, rfl, rfl, by decide +kernel, rfl, by decide +kernel, by decide +kernel⟩
def b_check_marks : MS := (sIf (etP (mT (m2 gIsNot (mDef 1 d_marks_fault (mCons (mVar 0) mNil)) (mC .non)))) (sRaise "Nothing") sNx)
def d_check_marks : Den := denOf 1 0 b_check_marks
theorem w_check_marks (Φ : Fx w K mg T) : PmO P w K mg base T "check_marks" 6 1 0 d_check_marks :=
  pmO_of (lv := 5) Φ.f_check_marks S_check_marks (by decide) fun f cdv A outer s H E hr => (css_one (cs_if (cet_p (cpt_cmp op_notN pr_isnot (cq_def (w_marks_fault Φ) (hr.mono (by decide)) (passB (takes_of rfl rfl rfl rfl)) (cpa_cons (cp_var (pv 0)) cpa_nil)) cp_non (by rfl))) (css_one (cs_raiseX Φ.x_Nothing rfl (takes_of rfl rfl rfl rfl))) css_nil))
/-! ### row_told -/
theorem S_row_told : FnScope ["marks", "found", "still_open", "word", "name", "many"] ["marks"] (defScope (topS 19)) := ⟨rfl, rfl, rfl, by decide +kernel, rfl, by decide +kernel, by decide +kernel⟩
def b_row_told : MS := (sSeq (sExpr (eP (mDef 1 d_check_marks (mCons (mVar 0) mNil)))) (sSeq (sPar 1 2 (eCons (eLst (eaP mNil)) (eCons (eLst (eaP mNil)) eNil))) (sSeq (sFor (wE (eP (mVar 0))) (tTp 2 (tsCons (tN 3) (tsCons (tN 4) tsNil))) (sIf (etP (mT (m2 gEq (mVar 3) (mC (.str "out"))))) (sExpr (ePop 2)) (sSeq (sIf (etP (mT (m2 gNe (mVar 2) (mLst mNil)))) (sAugIx2 (fII fun i j => .int (i + j)) 1 (m2 gIx (mVar 2) (m1 gNeg (mC (.int 1)))) (mC (.int 1)) (mC (.int 1))) sNx) (sSeq (sExpr (eApp 2 (eP (mCall fLen (mCons (mVar 1) mNil))))) (sExpr (eApp 1 (eLst (eaP (mCons (mVar 4) (mCons (mC (.int 0)) mNil)))))))))) (sRet (eCall fTup (eCons (eLc (wE (eName 1)) (tLs 2 (tsCons (tN 4) (tsCons (tN 5) tsNil))) eYes (eP (mTup (mCons (mVar 4) (mCons (mVar 5) mNil)))) [4, 5]) eNil))))))
def d_row_told : Den := denOf 6 0 b_row_told
theorem w_row_told (Φ : Fx w K mg T) : PmO P w K mg base T "row_told" 7 1 0 d_row_told :=
  pmO_of (lv := 6) Φ.f_row_told S_row_told (by decide) fun f cdv A outer s H E hr => (css_cons (cs_expr (ce_p (cq_def (w_check_marks Φ) (hr.mono (by decide)) (passB (takes_of rfl rfl rfl rfl)) (cpa_cons (cp_var (pv 0)) cpa_nil)))) (css_cons (cs_par (i := 1) (j := 2) (by decide) (by decide) rfl S_row_told.nd rfl rfl (by decide) rfl rfl (cea_cons (ce_lst (cea_p cpa_nil)) (cea_cons (ce_lst (cea_p cpa_nil)) cea_nil)) (by rfl)) (css_cons (cs_for (passes_of rfl) rfl (ci_e (ce_p (cp_var (pv 0)))) (cg_tup rfl (cgs_cons (cg_name (i := 3) (by decide) S_row_told.nd rfl (by first | exact Or.inl rfl | exact Or.inr rfl)) (cgs_cons (cg_name (i := 4) (by decide) S_row_told.nd rfl (by first | exact Or.inl rfl | exact Or.inr rfl)) cgs_nil))) (css_one (cs_if (cet_p (cpt_cmp (op_eqD hr.units) pr_eq (cp_var (pv 3)) cp_str (by rfl))) (css_one (cs_expr (ce_pop (pv 2)))) (css_cons (cs_if (cet_p (cpt_cmp (op_neD hr.units) pr_ne (cp_var (pv 2)) (cp_lst cpa_nil) (by rfl))) (css_one (cs_augIx2 ip_pr (pv 1) (cp_ix (cp_var (pv 2)) (cp_un un_neg pr_neg cp_int)) cp_int cp_int ip_add)) css_nil) (css_cons (cs_expr (ce_app (pv 2) (ce_p (cp_call call_len pr_len (by rfl) Φ.n_len rfl (cpa_cons (cp_var (pv 1)) cpa_nil))))) (css_one (cs_expr (ce_app (pv 1) (ce_lst (cea_p (cpa_cons (cp_var (pv 4)) (cpa_cons cp_int cpa_nil)))))))))))) (css_one (cs_ret (cF_callT call_tuple_of pr_tuple (by rfl) Φ.n_tuple rfl (cea_cons (ce_lc (own := [("name", 4), ("many", 5)]) rfl S_row_told.nd (ci_e (ce_name (pv 1))) (blkOk_by (N := ["marks", "found", "still_open", "word", "name", "many"]) (sc := defScope (topS 19)) (by decide +kernel)) (fun _ _ _ _ _ => (cg_lst rfl (cgs_cons (cg_name (i := 4) (by simp) S_row_told.nd rfl (by first | exact Or.inl rfl | exact Or.inr rfl)) (cgs_cons (cg_name (i := 5) (by simp) S_row_told.nd rfl (by first | exact Or.inl rfl | exact Or.inr rfl)) cgs_nil)))) (fun _ _ _ _ _ => cets_nil) (fun _ _ _ _ _ => (ce_p (cp_tup (cpa_cons (cp_var (pv 4)) (cpa_cons (cp_var (pv 5)) cpa_nil)))))) cea_nil)))))))
/-! ### deepest_open -/
theorem S_deepest_open : FnScope ["marks", "here", "most", "word", "name"] ["marks"] (defScope (topS 20)) := ⟨rfl, rfl, rfl, by decide +kernel, rfl, by decide +kernel, by decide +kernel⟩
def b_deepest_open : MS := (sSeq (sExpr (eP (mDef 1 d_check_marks (mCons (mVar 0) mNil)))) (sSeq (sAsg (eP (mTup (mCons (mC (.int 0)) (mCons (mC (.int 0)) mNil)))) (tTp 2 (tsCons (tN 1) (tsCons (tN 2) tsNil)))) (sSeq (sFor (wE (eP (mVar 0))) (tTp 2 (tsCons (tN 3) (tsCons (tN 4) tsNil))) (sSeq (sAug (fII fun i j => .int (i + j)) 1 (eP (mIf (mT (m2 gEq (mVar 3) (mC (.str "in")))) (mC (.int 1)) (m1 gNeg (mC (.int 1)))))) (sSet 2 (eP (mCall fMax2 (mCons (mVar 2) (mCons (mVar 1) mNil))))))) (sRet (eP (mVar 2))))))
def d_deepest_open : Den := denOf 5 0 b_deepest_open
theorem w_deepest_open (Φ : Fx w K mg T) : PmO P w K mg base T "deepest_open" 7 1 0 d_deepest_open :=
  pmO_of (lv := 6) Φ.f_deepest_open S_deepest_open (by decide) fun f cdv A outer s H E hr => (css_cons (cs_expr (ce_p (cq_def (w_check_marks Φ) (hr.mono (by decide)) (passB (takes_of rfl rfl rfl rfl)) (cpa_cons (cp_var (pv 0)) cpa_nil)))) (css_cons (cs_asg (ce_p (cp_tup (cpa_cons cp_int (cpa_cons cp_int cpa_nil)))) (cg_tup rfl (cgs_cons (cg_name (i := 1) (by decide) S_deepest_open.nd rfl (by first | exact Or.inl rfl | exact Or.inr rfl)) (cgs_cons (cg_name (i := 2) (by decide) S_deepest_open.nd rfl (by first | exact Or.inl rfl | exact Or.inr rfl)) cgs_nil)))) (css_cons (cs_for (passes_of rfl) rfl (ci_e (ce_p (cp_var (pv 0)))) (cg_tup rfl (cgs_cons (cg_name (i := 3) (by decide) S_deepest_open.nd rfl (by first | exact Or.inl rfl | exact Or.inr rfl)) (cgs_cons (cg_name (i := 4) (by decide) S_deepest_open.nd rfl (by first | exact Or.inl rfl | exact Or.inr rfl)) cgs_nil))) (css_cons (cs_aug (i := 1) (by decide) ip_pr S_deepest_open.nd rfl (by first | exact Or.inl rfl | exact Or.inr rfl) (ce_p (cp_if (cpt_cmp (op_eqD hr.units) pr_eq (cp_var (pv 3)) cp_str (by rfl)) cp_int (cp_un un_neg pr_neg cp_int))) ip_add) (css_one (cs_set (i := 2) (by decide) S_deepest_open.nd rfl (by first | exact Or.inl rfl | exact Or.inr rfl) (ce_p (cp_call (call_max2 rfl) pr_max2 (by rfl) Φ.n_max rfl (cpa_cons (cp_var (pv 2)) (cpa_cons (cp_var (pv 1)) cpa_nil)))))))) (css_one (cs_ret (ce_p (cp_var (pv 2))))))))
/-! ### _law_flat -/
theorem S_law_flat : FnScope ["trees", "found", "tag", "children"] ["trees"] (defScope (topS 26)) := ⟨rfl, rfl, rfl, by decide +kernel, rfl, by decide +kernel, by decide +kernel⟩
def r_law_flat (den : Den) : MS := (sSeq (sSet 1 (eP (mTup mNil))) (sSeq (sFor (wE (eP (mVar 0))) (tTp 2 (tsCons (tN 2) (tsCons (tN 3) tsNil))) (sSet 1 (eP (m2 gAdd (m2 gAdd (mVar 1) (mTup (mCons (mTup (mCons (mVar 2) (mCons (mCall fLen (mCons (mVar 3) mNil)) mNil))) mNil))) (mDef 1 den (mCons (mVar 3) mNil)))))) (sRet (eP (mVar 1)))))
def d_law_flat : Nat → Den
  | 0 => denOf 4 0 fun _ => none
  | n + 1 => denOf 4 0 (r_law_flat (d_law_flat n))
theorem w_law_flat (Φ : Fx w K mg T) : ∀ n : Nat, PmO P w K mg base T "_law_flat" (1 + n) 1 0 (d_law_flat n)
  | 0 => (pmO_of (lv := 0) Φ.f_law_flat S_law_flat (by decide) fun f cdv A outer s H E hr => pss_no).mono (by decide)
  | n + 1 => pmO_of (lv := 1 + n) Φ.f_law_flat S_law_flat (by decide) fun f cdv A outer s H E hr => (css_cons (cs_set (i := 1) (by decide) S_law_flat.nd rfl (by first | exact Or.inl rfl | exact Or.inr rfl) (ce_p (cp_tup cpa_nil))) (css_cons (cs_for (passes_of rfl) rfl (ci_e (ce_p (cp_var (pv 0)))) (cg_tup rfl (cgs_cons (cg_name (i := 2) (by decide) S_law_flat.nd rfl (by first | exact Or.inl rfl | exact Or.inr rfl)) (cgs_cons (cg_name (i := 3) (by decide) S_law_flat.nd rfl (by first | exact Or.inl rfl | exact Or.inr rfl)) cgs_nil))) (css_one (cs_set (i := 1) (by decide) S_law_flat.nd rfl (by first | exact Or.inl rfl | exact Or.inr rfl) (ce_p (cp_bin op_add4 pr_add (cp_bin op_add4 pr_add (cp_var (pv 1)) (cp_tup (cpa_cons (cp_tup (cpa_cons (cp_var (pv 2)) (cpa_cons (cp_call call_len pr_len (by rfl) Φ.n_len rfl (cpa_cons (cp_var (pv 3)) cpa_nil)) cpa_nil))) cpa_nil))) (cq_def (w_law_flat Φ n) (hr.mono (by omega)) (passB (takes_of rfl rfl rfl rfl)) (cpa_cons (cp_var (pv 3)) cpa_nil))))))) (css_one (cs_ret (ce_p (cp_var (pv 1)))))))
/-! ### _law_marks_of -/
theorem S_law_marks_of : FnScope ["trees", "found", "tag", "children"] ["trees"] (defScope (topS 29)) := ⟨rfl, rfl, rfl, by decide +kernel, rfl, by decide +kernel, by decide +kernel⟩
def r_law_marks_of (den : Den) : MS := (sSeq (sSet 1 (eP (mTup mNil))) (sSeq (sFor (wE (eP (mVar 0))) (tTp 2 (tsCons (tN 2) (tsCons (tN 3) tsNil))) (sSet 1 (eP (m2 gAdd (m2 gAdd (m2 gAdd (mVar 1) (mTup (mCons (mTup (mCons (mC (.str "in")) (mCons (mVar 2) mNil))) mNil))) (mDef 1 den (mCons (mVar 3) mNil))) (mTup (mCons (mTup (mCons (mC (.str "out")) (mCons (mVar 2) mNil))) mNil)))))) (sRet (eP (mVar 1)))))
def d_law_marks_of : Nat → Den
  | 0 => denOf 4 0 fun _ => none
  | n + 1 => denOf 4 0 (r_law_marks_of (d_law_marks_of n))
theorem w_law_marks_of (Φ : Fx w K mg T) : ∀ n : Nat, PmO P w K mg base T "_law_marks_of" (1 + n) 1 0 (d_law_marks_of n)
  | 0 => (pmO_of (lv := 0) Φ.f_law_marks_of S_law_marks_of (by decide) fun f cdv A outer s H E hr => pss_no).mono (by decide)
  | n + 1 => pmO_of (lv := 1 + n) Φ.f_law_marks_of S_law_marks_of (by decide) fun f cdv A outer s H E hr => (css_cons (cs_set (i := 1) (by decide) S_law_marks_of.nd rfl (by first | exact Or.inl rfl | exact Or.inr rfl) (ce_p (cp_tup cpa_nil))) (css_cons (cs_for (passes_of rfl) rfl (ci_e (ce_p (cp_var (pv 0)))) (cg_tup rfl (cgs_cons (cg_name (i := 2) (by decide) S_law_marks_of.nd rfl (by first | exact Or.inl rfl | exact Or.inr rfl)) (cgs_cons (cg_name (i := 3) (by decide) S_law_marks_of.nd rfl (by first | exact Or.inl rfl | exact Or.inr rfl)) cgs_nil))) (css_one (cs_set (i := 1) (by decide) S_law_marks_of.nd rfl (by first | exact Or.inl rfl | exact Or.inr rfl) (ce_p (cp_bin op_add4 pr_add (cp_bin op_add4 pr_add (cp_bin op_add4 pr_add (cp_var (pv 1)) (cp_tup (cpa_cons (cp_tup (cpa_cons cp_str (cpa_cons (cp_var (pv 2)) cpa_nil))) cpa_nil))) (cq_def (w_law_marks_of Φ n) (hr.mono (by omega)) (passB (takes_of rfl rfl rfl rfl)) (cpa_cons (cp_var (pv 3)) cpa_nil))) (cp_tup (cpa_cons (cp_tup (cpa_cons cp_str (cpa_cons (cp_var (pv 2)) cpa_nil))) cpa_nil))))))) (css_one (cs_ret (ce_p (cp_var (pv 1)))))))
/-! ### law -/
theorem S_law : FnScope ["script", "bag", "lap", "trees", "row", "marks", "k", "thing", "fault", "mark", "many", "tower"] ["script"] (defScope (topS 37)) := ⟨rfl, rfl, rfl, by decide +kernel, rfl, by decide +kernel, by decide +kernel⟩
def b_law : MS := (sSeq (sSet 1 (eDef 1 d_law_bag (eaP (mCons (mVar 0) mNil)))) (sSeq (sFor (wRng1 (eaP (mCons (mC (.int 6)) mNil))) (tN 2) (sSeq (sSet 3 (eFz (eHeld 1 (eDef1 3 d_law_some_trees 1 (eaP (mCons (mLst (mCons (mC (.str "a")) (mCons (mC (.str "b")) (mCons (mC (.str "c1")) mNil)))) (mCons (mC (.int 12)) mNil))))))) (sSeq (sPar 4 5 (eCons (eP (mDef 1 (d_law_flat 14) (mCons (mVar 3) mNil))) (eCons (eP (mDef 1 (d_law_marks_of 14) (mCons (mVar 3) mNil))) eNil))) (sSeq (sIf (etP (mOrT (mT (m2 gNe (mDef 1 d_marks_of (mCons (mVar 4) mNil)) (mVar 5))) (mOrT (mT (m2 gNe (mDef 1 d_row_told (mCons (mVar 5) mNil)) (mVar 4))) (mOrT (mT (m2 gIsNot (mDef 1 d_marks_fault (mCons (mVar 5) mNil)) (mC .non))) (mT (m2 gNe (mDef 1 d_deepest_open (mCons (mVar 5) mNil)) (mDef 1 d_law_deepest (mCons (mVar 5) mNil)))))))) (sRet (eP (mC (.bl false)))) sNx) (sSeq (sFor (wRng1 (eaP (mCons (mC (.int 5)) mNil))) (tN 6) (sSeq (sSet 7 (eFz (eHeld 1 (eDef1 2 d_law_spoilt 1 (eaP (mCons (mVar 5) mNil)))))) (sSeq (sSet 8 (eP (mDef 1 d_law_marks_fault (mCons (mVar 7) mNil)))) (sSeq (sIf (etP (mOrT (mT (m2 gNe (mDef 1 d_marks_fault (mCons (mVar 7) mNil)) (mVar 8))) (mT (m2 gNotB (mDef 1 d_are_marks (mCons (mVar 7) mNil)) (mC (.bl true)))))) (sRet (eP (mC (.bl false)))) sNx) (sSeq (sIf (etP (mAndT (mT (m2 gIs (mVar 8) (mC .non))) (mT (m2 gNe (mDef 1 d_marks_of (mCons (mDef 1 d_row_told (mCons (mVar 7) mNil)) mNil)) (mVar 7))))) (sRet (eP (mC (.bl false)))) sNx) (sSeq (sIf (etP (mAndT (mT (m2 gIsNot (mVar 8) (mC .non))) (mNotT (mT (mLam "Nothing" (mDef 1 d_row_told (mCons (mVar 7) mNil))))))) (sRet (eP (mC (.bl false)))) sNx) (sIf (etP (mAndT (mT (m2 gIsNot (mVar 8) (mC .non))) (mNotT (mT (mLam "Nothing" (mDef 1 d_deepest_open (mCons (mVar 7) mNil))))))) (sRet (eP (mC (.bl false)))) sNx))))))) (sSeq (sFor (wE (eP (mDef 1 d_law_things (mCons (mVar 5) mNil)))) (tN 7) (sSeq (sIf (etP (mOrT (mT (m2 gNe (mDef 1 d_marks_fault (mCons (mVar 7) mNil)) (mTup (mCons (mC (.str "form")) mNil)))) (mT (m2 gNotB (mDef 1 d_are_marks (mCons (mVar 7) mNil)) (mC (.bl false)))))) (sRet (eP (mC (.bl false)))) sNx) (sIf (etP (mNotT (mT (mLam "Nothing" (mDef 1 d_row_told (mCons (mVar 7) mNil)))))) (sRet (eP (mC (.bl false)))) sNx))) (sFor (wE (eP (mLst (mCons (mTup (mCons (mC (.str "in")) (mCons (mC (.str "a")) mNil))) (mCons (mTup (mCons (mC (.str "out")) (mCons (mC (.str "z9")) mNil))) (mCons (mLst (mCons (mC (.str "in")) (mCons (mC (.str "a")) mNil))) (mCons (mTup (mCons (mC (.str "in")) (mCons (mC (.str "root")) mNil))) (mCons (mTup (mCons (mC (.str "")) (mCons (mC (.str "a")) mNil))) (mCons (mTup (mCons (mC (.str "in")) mNil)) (mCons (mC .non) (mCons (mC (.str "in a")) (mCons (mTup (mCons (mC (.str "in")) (mCons (mC (.str "abcdefghi")) mNil))) mNil)))))))))))) (tN 9) (sIf (etP (mNotT (mT (mDef 2 d_law_alike (mCons (mDef 1 d_is_mark (mCons (mVar 9) mNil)) (mCons (mDef 1 d_law_is_mark (mCons (mVar 9) mNil)) mNil)))))) (sRet (eP (mC (.bl false)))) sNx)))))))) (sSeq (sSet 10 (eFz (e2 gAdd (eP (mC (.int 300))) (eHeld 1 (eDef1 2 d_law_take 1 (eaP (mCons (mC (.int 900)) mNil))))))) (sSeq (sSet 11 (eP (mCall fTup (mCons (m2 gAdd (m2 gMul5 (mLst (mCons (mTup (mCons (mC (.str "a")) (mCons (mC (.int 1)) mNil))) mNil)) (m2 gSub (mVar 10) (mC (.int 1)))) (mLst (mCons (mTup (mCons (mC (.str "b")) (mCons (mC (.int 0)) mNil))) mNil))) mNil)))) (sSeq (sSet 5 (eP (mDef 1 d_marks_of (mCons (mVar 11) mNil)))) (sSeq (sIf (etP (mOrT (mT (m2 gNe (mCall fLen (mCons (mVar 5) mNil)) (m2 gMul5 (mC (.int 2)) (mVar 10)))) (mOrT (mT (m2 gNe (mDef 1 d_deepest_open (mCons (mVar 5) mNil)) (mVar 10))) (mOrT (mT (m2 gNe (mDef 1 d_row_told (mCons (mVar 5) mNil)) (mVar 11))) (mOrT (mT (m2 gNe (m2 gIx (mVar 5) (m2 gSub (mVar 10) (mC (.int 1)))) (mTup (mCons (mC (.str "in")) (mCons (mC (.str "b")) mNil))))) (mT (m2 gNe (m2 gIx (mVar 5) (mVar 10)) (mTup (mCons (mC (.str "out")) (mCons (mC (.str "b")) mNil)))))))))) (sRet (eP (mC (.bl false)))) sNx) (sRet (eP (mAnd (m2 gEq (mDef 1 d_marks_fault (mCons (mSl (mVar 5) mNoPart (mPart (m1 gNeg (mC (.int 1))))) mNil)) (mTup (mCons (mC (.str "open")) (mCons (mC (.int 1)) mNil)))) (mAnd (m2 gEq (mDef 1 d_marks_fault (mCons (mSl (mVar 5) (mPart (mC (.int 1))) mNoPart) mNil)) (mTup (mCons (m2 gSub (m2 gMul5 (mC (.int 2)) (mVar 10)) (mC (.int 2))) (mCons (mC (.str "out")) mNil)))) (mAnd (m2 gIsB (mDef 1 d_are_marks (mCons (mTup mNil) mNil)) (mC (.bl true))) (m2 gEq (mDef 1 d_row_told (mCons (mTup mNil) mNil)) (mTup mNil)))))))))))))
def d_law : Den := denOf 12 0 b_law
abbrev QL : Str := (envOfC "law" (defScope (topS 37)) 0 0 .none).qual ++ "<lambda>"
theorem w_law {f ca pt : Addr} {fd : FuncData} (Φ : Fx w K mg [(pt, QL)]) (TB : LamX.TabB base mg ca pt) (hf : LawIn K mg "law" (topS 37) ["script"] f ca fd) : FnG P w K mg base (L2.CX P w) 19 f fd ["script"] (spD ⟨K, mg, [(pt, QL)], w⟩ 1 0 d_law) :=
  law_of (lv := 18) hf S_law fun A outer s H E hG hr => (css_cons (cs_set (i := 1) (by decide) S_law.nd rfl (by first | exact Or.inl rfl | exact Or.inr rfl) (cq_defE (w_law_bag Φ) (hr.mono (by decide)) (passB (takes_of rfl rfl rfl rfl)) (cea_p (cpa_cons (cp_var (pv 0)) cpa_nil)))) (css_cons (cs_for (passes_of rfl) rfl (ci_rng1 (by rfl) Φ.n_range (cea_p (cpa_cons cp_int cpa_nil))) (cg_name (i := 2) (by decide) S_law.nd rfl (by first | exact Or.inl rfl | exact Or.inr rfl)) (css_cons (cs_set (i := 3) (by decide) S_law.nd rfl (by first | exact Or.inl rfl | exact Or.inr rfl) (ce_fz (cq_def1 (w_law_some_trees Φ) (hr.mono (by decide)) (passB (takes_of rfl rfl rfl rfl)) (pv 1) (cea_p (cpa_cons (cp_lst (cpa_cons cp_str (cpa_cons cp_str (cpa_cons cp_str cpa_nil)))) (cpa_cons cp_int cpa_nil)))))) (css_cons (cs_par (i := 4) (j := 5) (by decide) (by decide) rfl S_law.nd rfl rfl (by decide) rfl rfl (cea_cons (ce_p (cq_def (w_law_flat Φ 14) (hr.mono (by decide)) (passB (takes_of rfl rfl rfl rfl)) (cpa_cons (cp_var (pv 3)) cpa_nil))) (cea_cons (ce_p (cq_def (w_law_marks_of Φ 14) (hr.mono (by decide)) (passB (takes_of rfl rfl rfl rfl)) (cpa_cons (cp_var (pv 3)) cpa_nil))) cea_nil)) (by rfl)) (css_cons (cs_if (cet_p (PW.pt (cpt_or (cpt_cmp (op_neD hr.units) pr_ne (cq_def (w_marks_of Φ) (hr.mono (by decide)) (passB (takes_of rfl rfl rfl rfl)) (cpa_cons (cp_var (pv 4)) cpa_nil)) (cp_var (pv 5)) (by rfl)) (cpt_or (cpt_cmp (op_neD hr.units) pr_ne (cq_def (w_row_told Φ) (hr.mono (by decide)) (passB (takes_of rfl rfl rfl rfl)) (cpa_cons (cp_var (pv 5)) cpa_nil)) (cp_var (pv 4)) (by rfl)) (cpt_or (cpt_cmp op_notN pr_isnot (cq_def (w_marks_fault Φ) (hr.mono (by decide)) (passB (takes_of rfl rfl rfl rfl)) (cpa_cons (cp_var (pv 5)) cpa_nil)) cp_non (by rfl)) (pw_or1 (cpt_cmp (op_neD hr.units) pr_ne (cq_def (w_deepest_open Φ) (hr.mono (by decide)) (passB (takes_of rfl rfl rfl rfl)) (cpa_cons (cp_var (pv 5)) cpa_nil)) (cq_def (w_law_deepest Φ) (hr.mono (by decide)) (passB (takes_of rfl rfl rfl rfl)) (cpa_cons (cp_var (pv 5)) cpa_nil)) (by rfl)))))))) (css_one (cs_ret (ce_p cp_bl))) css_nil) (css_cons (cs_for (passes_of rfl) rfl (ci_rng1 (by rfl) Φ.n_range (cea_p (cpa_cons cp_int cpa_nil))) (cg_name (i := 6) (by decide) S_law.nd rfl (by first | exact Or.inl rfl | exact Or.inr rfl)) (css_cons (cs_set (i := 7) (by decide) S_law.nd rfl (by first | exact Or.inl rfl | exact Or.inr rfl) (ce_fz (cq_def1 (w_law_spoilt Φ) (hr.mono (by decide)) (passB (takes_of rfl rfl rfl rfl)) (pv 1) (cea_p (cpa_cons (cp_var (pv 5)) cpa_nil))))) (css_cons (cs_set (i := 8) (by decide) S_law.nd rfl (by first | exact Or.inl rfl | exact Or.inr rfl) (ce_p (cq_def (w_law_marks_fault Φ) (hr.mono (by decide)) (passB (takes_of rfl rfl rfl rfl)) (cpa_cons (cp_var (pv 7)) cpa_nil)))) (css_cons (cs_if (cet_p (PW.pt (cpt_or (cpt_cmp (op_neD hr.units) pr_ne (cq_def (w_marks_fault Φ) (hr.mono (by decide)) (passB (takes_of rfl rfl rfl rfl)) (cpa_cons (cp_var (pv 7)) cpa_nil)) (cp_var (pv 8)) (by rfl)) (pw_or1 (cpt_cmp op_notBl pr_notB (cq_def (w_are_marks Φ) (hr.mono (by decide)) (passB (takes_of rfl rfl rfl rfl)) (cpa_cons (cp_var (pv 7)) cpa_nil)) cp_bl (by rfl)))))) (css_one (cs_ret (ce_p cp_bl))) css_nil) (css_cons (cs_if (cet_p (PW.pt (cpt_and (cpt_cmp op_isN pr_is (cp_var (pv 8)) cp_non (by rfl)) (pw_and1 (cpt_cmp (op_neD hr.units) pr_ne (cq_def (w_marks_of Φ) (hr.mono (by decide)) (passB (takes_of rfl rfl rfl rfl)) (cpa_cons (cq_def (w_row_told Φ) (hr.mono (by decide)) (passB (takes_of rfl rfl rfl rfl)) (cpa_cons (cp_var (pv 7)) cpa_nil)) cpa_nil)) (cp_var (pv 7)) (by rfl)))))) (css_one (cs_ret (ce_p cp_bl))) css_nil) (css_cons (cs_if (cet_p (PW.pt (cpt_and (cpt_cmp op_notN pr_isnot (cp_var (pv 8)) cp_non (by rfl)) (pw_and1 (cpt_not (cpt_val (cp_lam (x := "_law_nothing") (e := "Nothing") (a := "act") (st := topS 28) (Ng := ["act"]) (k := 16) Φ.no_law_nothing rfl S_law_nothing rfl (Or.inl rfl) rfl (fun _ => rfl) TB rfl (List.mem_singleton.mpr rfl) (fun p hp _ => by rw [List.mem_singleton.mp hp]; rfl) (hr.mono (by decide)) (LamX.lamS_by (sc := defScope (topS 37)) (by decide +kernel)) rfl (fun _ _ _ _ _ => rfl) (fun A outer s H E f c2 hr => (cq_def (w_row_told Φ) (hr.mono (by decide)) (passB (takes_of rfl rfl rfl rfl)) (cpa_cons (cp_var (pv 7)) cpa_nil)))))))))) (css_one (cs_ret (ce_p cp_bl))) css_nil) (css_one (cs_if (cet_p (PW.pt (cpt_and (cpt_cmp op_notN pr_isnot (cp_var (pv 8)) cp_non (by rfl)) (pw_and1 (cpt_not (cpt_val (cp_lam (x := "_law_nothing") (e := "Nothing") (a := "act") (st := topS 28) (Ng := ["act"]) (k := 16) Φ.no_law_nothing rfl S_law_nothing rfl (Or.inl rfl) rfl (fun _ => rfl) TB rfl (List.mem_singleton.mpr rfl) (fun p hp _ => by rw [List.mem_singleton.mp hp]; rfl) (hr.mono (by decide)) (LamX.lamS_by (sc := defScope (topS 37)) (by decide +kernel)) rfl (fun _ _ _ _ _ => rfl) (fun A outer s H E f c2 hr => (cq_def (w_deepest_open Φ) (hr.mono (by decide)) (passB (takes_of rfl rfl rfl rfl)) (cpa_cons (cp_var (pv 7)) cpa_nil)))))))))) (css_one (cs_ret (ce_p cp_bl))) css_nil)))))))) (css_cons (cs_for (passes_of rfl) rfl (ci_e (ce_p (cq_def (w_law_things Φ) (hr.mono (by decide)) (passB (takes_of rfl rfl rfl rfl)) (cpa_cons (cp_var (pv 5)) cpa_nil)))) (cg_name (i := 7) (by decide) S_law.nd rfl (by first | exact Or.inl rfl | exact Or.inr rfl)) (css_cons (cs_if (cet_p (PW.pt (cpt_or (cpt_cmp (op_neD hr.units) pr_ne (cq_def (w_marks_fault Φ) (hr.mono (by decide)) (passB (takes_of rfl rfl rfl rfl)) (cpa_cons (cp_var (pv 7)) cpa_nil)) (cp_tup (cpa_cons cp_str cpa_nil)) (by rfl)) (pw_or1 (cpt_cmp op_notBl pr_notB (cq_def (w_are_marks Φ) (hr.mono (by decide)) (passB (takes_of rfl rfl rfl rfl)) (cpa_cons (cp_var (pv 7)) cpa_nil)) cp_bl (by rfl)))))) (css_one (cs_ret (ce_p cp_bl))) css_nil) (css_one (cs_if (cet_p (cpt_not (cpt_val (cp_lam (x := "_law_nothing") (e := "Nothing") (a := "act") (st := topS 28) (Ng := ["act"]) (k := 16) Φ.no_law_nothing rfl S_law_nothing rfl (Or.inl rfl) rfl (fun _ => rfl) TB rfl (List.mem_singleton.mpr rfl) (fun p hp _ => by rw [List.mem_singleton.mp hp]; rfl) (hr.mono (by decide)) (LamX.lamS_by (sc := defScope (topS 37)) (by decide +kernel)) rfl (fun _ _ _ _ _ => rfl) (fun A outer s H E f c2 hr => (cq_def (w_row_told Φ) (hr.mono (by decide)) (passB (takes_of rfl rfl rfl rfl)) (cpa_cons (cp_var (pv 7)) cpa_nil))))))) (css_one (cs_ret (ce_p cp_bl))) css_nil)))) (css_one (cs_for (passes_of rfl) rfl (ci_e (ce_p (cp_lst (cpa_cons (cp_tup (cpa_cons cp_str (cpa_cons cp_str cpa_nil))) (cpa_cons (cp_tup (cpa_cons cp_str (cpa_cons cp_str cpa_nil))) (cpa_cons (cp_lst (cpa_cons cp_str (cpa_cons cp_str cpa_nil))) (cpa_cons (cp_tup (cpa_cons cp_str (cpa_cons cp_str cpa_nil))) (cpa_cons (cp_tup (cpa_cons cp_str (cpa_cons cp_str cpa_nil))) (cpa_cons (cp_tup (cpa_cons cp_str cpa_nil)) (cpa_cons cp_non (cpa_cons cp_str (cpa_cons (cp_tup (cpa_cons cp_str (cpa_cons cp_str cpa_nil))) cpa_nil)))))))))))) (cg_name (i := 9) (by decide) S_law.nd rfl (by first | exact Or.inl rfl | exact Or.inr rfl)) (css_one (cs_if (cet_p (cpt_not (cpt_val (cq_defG (w_law_alike Φ) hG (hr.mono (by decide)) (passB (takes_of rfl rfl rfl rfl)) (cpa_cons (cq_def (w_is_mark Φ) (hr.mono (by decide)) (passB (takes_of rfl rfl rfl rfl)) (cpa_cons (cp_var (pv 9)) cpa_nil)) (cpa_cons (cq_def (w_law_is_mark Φ) (hr.mono (by decide)) (passB (takes_of rfl rfl rfl rfl)) (cpa_cons (cp_var (pv 9)) cpa_nil)) cpa_nil)))))) (css_one (cs_ret (ce_p cp_bl))) css_nil)))))))))) (css_cons (cs_set (i := 10) (by decide) S_law.nd rfl (by first | exact Or.inl rfl | exact Or.inr rfl) (ce_fz (ce_bin op_add4 pr_add (ce_p cp_int) (cq_def1 (w_law_take Φ) (hr.mono (by decide)) (passB (takes_of rfl rfl rfl rfl)) (pv 1) (cea_p (cpa_cons cp_int cpa_nil)))))) (css_cons (cs_set (i := 11) (by decide) S_law.nd rfl (by first | exact Or.inl rfl | exact Or.inr rfl) (ce_p (cp_callT call_tuple_of pr_tuple (by rfl) Φ.n_tuple rfl (cpa_cons (cp_bin op_add4 pr_add (cp_bin op_mul5 pr_mul5 (cp_lst (cpa_cons (cp_tup (cpa_cons cp_str (cpa_cons cp_int cpa_nil))) cpa_nil)) (cp_bin op_sub pr_sub (cp_var (pv 10)) cp_int)) (cp_lst (cpa_cons (cp_tup (cpa_cons cp_str (cpa_cons cp_int cpa_nil))) cpa_nil))) cpa_nil)))) (css_cons (cs_set (i := 5) (by decide) S_law.nd rfl (by first | exact Or.inl rfl | exact Or.inr rfl) (ce_p (cq_def (w_marks_of Φ) (hr.mono (by decide)) (passB (takes_of rfl rfl rfl rfl)) (cpa_cons (cp_var (pv 11)) cpa_nil)))) (css_cons (cs_if (cet_p (PW.pt (cpt_or (cpt_cmp (op_neD hr.units) pr_ne (cp_call call_len pr_len (by rfl) Φ.n_len rfl (cpa_cons (cp_var (pv 5)) cpa_nil)) (cp_bin op_mul5 pr_mul5 cp_int (cp_var (pv 10))) (by rfl)) (cpt_or (cpt_cmp (op_neD hr.units) pr_ne (cq_def (w_deepest_open Φ) (hr.mono (by decide)) (passB (takes_of rfl rfl rfl rfl)) (cpa_cons (cp_var (pv 5)) cpa_nil)) (cp_var (pv 10)) (by rfl)) (cpt_or (cpt_cmp (op_neD hr.units) pr_ne (cq_def (w_row_told Φ) (hr.mono (by decide)) (passB (takes_of rfl rfl rfl rfl)) (cpa_cons (cp_var (pv 5)) cpa_nil)) (cp_var (pv 11)) (by rfl)) (cpt_or (cpt_cmp (op_neD hr.units) pr_ne (cp_ix (cp_var (pv 5)) (cp_bin op_sub pr_sub (cp_var (pv 10)) cp_int)) (cp_tup (cpa_cons cp_str (cpa_cons cp_str cpa_nil))) (by rfl)) (pw_or1 (cpt_cmp (op_neD hr.units) pr_ne (cp_ix (cp_var (pv 5)) (cp_var (pv 10))) (cp_tup (cpa_cons cp_str (cpa_cons cp_str cpa_nil))) (by rfl))))))))) (css_one (cs_ret (ce_p cp_bl))) css_nil) (css_one (cs_ret (ce_p (cp_and (cp_cmp (op_eqD hr.units) pr_eq (cq_def (w_marks_fault Φ) (hr.mono (by decide)) (passB (takes_of rfl rfl rfl rfl)) (cpa_cons (cp_sl (cp_var (pv 5)) cpo_none (cpo_some (cp_un un_neg pr_neg cp_int))) cpa_nil)) (cp_tup (cpa_cons cp_str (cpa_cons cp_int cpa_nil))) (by rfl)) (cp_and (cp_cmp (op_eqD hr.units) pr_eq (cq_def (w_marks_fault Φ) (hr.mono (by decide)) (passB (takes_of rfl rfl rfl rfl)) (cpa_cons (cp_sl (cp_var (pv 5)) (cpo_some cp_int) cpo_none) cpa_nil)) (cp_tup (cpa_cons (cp_bin op_sub pr_sub (cp_bin op_mul5 pr_mul5 cp_int (cp_var (pv 10))) cp_int) (cpa_cons cp_str cpa_nil))) (by rfl)) (cp_and (cp_cmp op_isBl pr_isB (cq_def (w_are_marks Φ) (hr.mono (by decide)) (passB (takes_of rfl rfl rfl rfl)) (cpa_cons (cp_tup cpa_nil) cpa_nil)) cp_bl (by rfl)) (pe_one (cp_cmp (op_eqD hr.units) pr_eq (cq_def (w_row_told Φ) (hr.mono (by decide)) (passB (takes_of rfl rfl rfl rfl)) (cpa_cons (cp_tup cpa_nil) cpa_nil)) (cp_tup cpa_nil) (by rfl)))))))))))))))
end
end K11

/-! K11F: rows of trees, their marks, what is told back: plain functions -/
namespace K11
open PySem
/-- a row of trees: the first one's name, its children, the trees behind it -/
inductive F where
  | nil
  | cons (n : Str) (k r : F)
abbrev Mk := Bool × Str
def F.size : F → Nat
  | .nil => 0
  | .cons _ k r => 1 + k.size + r.size
def F.count : F → Nat
  | .nil => 0
  | .cons _ _ r => 1 + r.count
def F.depth : F → Nat
  | .nil => 0
  | .cons _ k r => max (k.depth + 1) r.depth
def F.flat : F → List (Str × Int)
  | .nil => []
  | .cons n k r => (n, (k.count : Int)) :: (k.flat ++ r.flat)
def F.marks : F → List Mk
  | .nil => []
  | .cons n k r => (true, n) :: (k.marks ++ ((false, n) :: r.marks))
theorem F.flat_len : ∀ f : F, f.flat.length = f.size
  | .nil => rfl
  | .cons n k r => by simp only [F.flat, F.size, List.length_cons, List.length_append, k.flat_len, r.flat_len]; omega
theorem F.marks_len : ∀ f : F, f.marks.length = 2 * f.size
  | .nil => rfl
  | .cons n k r => by simp only [F.marks, F.size, List.length_cons, List.length_append, k.marks_len, r.marks_len]; omega
theorem F.count_le : ∀ f : F, f.count ≤ f.size
  | .nil => Nat.le_refl 0
  | .cons n k r => by have := r.count_le; simp only [F.count, F.size]; omega
theorem F.depth_le : ∀ f : F, f.depth ≤ f.size
  | .nil => Nat.le_refl 0
  | .cons n k r => by
    have := r.depth_le
    have := k.depth_le
    simp only [F.depth, F.size]
    omega
/-! the fault of a row of marks: the open names, the last one first -/
def run : List Str → List Mk → Nat → Sum Nat (List Str)
  | st, [], _ => .inr st
  | st, (true, n) :: r, k => run (n :: st) r (k + 1)
  | [], (false, _) :: _, k => .inl k
  | t :: st, (false, n) :: r, k => if t = n then run st r (k + 1) else .inl k
theorem run_marks : ∀ (f : F) (st : List Str) (r : List Mk) (k : Nat), run st (f.marks ++ r) k = run st r (k + f.marks.length)
  | .nil, st, r, k => rfl
  | .cons n c f, st, r, k => by
    simp only [F.marks, List.cons_append, List.append_assoc, run]
    rw [run_marks c (n :: st)]
    simp only [run, if_true]
    rw [run_marks f st]
    congr 1
    simp only [List.length_cons, List.length_append]
    omega
/-- without a fault they are those of a row of trees -/
theorem run_told : ∀ (N : Nat) (ms : List Mk) (k : Nat), ms.length ≤ N →
    (run [] ms k = .inr [] → ∃ f : F, ms = f.marks) ∧ (∀ n st, (∃ k', run (n :: st) ms k = .inr [] ∧ k' = k) → ∃ (f : F) (ms' : List Mk) (k' : Nat), ms = f.marks ++ (false, n) :: ms' ∧ run st ms' k' = .inr [])
  | 0, ms, k, h => by
    have : ms = [] := List.length_eq_zero_iff.mp (Nat.le_zero.mp h)
    subst this
    refine ⟨fun _ => ⟨.nil, rfl⟩, fun n st ⟨_, e, _⟩ => ?_⟩
    simp only [run] at e
    cases e
  | N + 1, ms, k, h => by
    refine ⟨fun e => ?_, fun n st ⟨_, e, _⟩ => ?_⟩
    · match ms, h, e with
      | [], _, _ => exact ⟨.nil, rfl⟩
      | (false, n) :: r, _, e => simp only [run] at e; cases e
      | (true, n) :: r, h, e =>
        simp only [run] at e
        obtain ⟨c, ms', k', e1, e2⟩ := (run_told N r (k + 1) (by simpa using h)).2 n [] ⟨_, e, rfl⟩
        have hl : ms'.length ≤ N := by
          have := congrArg List.length e1
          simp only [List.length_append, List.length_cons] at this h
          omega
        obtain ⟨f, e3⟩ := (run_told N ms' k' hl).1 e2
        exact ⟨.cons n c f, by rw [e1, e3]; rfl⟩
    · match ms, h, e with
      | [], _, e => simp only [run] at e; cases e
      | (false, m) :: r, h, e =>
        simp only [run] at e
        by_cases q : n = m
        · subst q
          rw [if_pos rfl] at e
          exact ⟨.nil, r, k + 1, rfl, e⟩
        · rw [if_neg q] at e
          cases e
      | (true, m) :: r, h, e =>
        simp only [run] at e
        obtain ⟨c, ms', k', e1, e2⟩ := (run_told N r (k + 1) (by simpa using h)).2 m (n :: st) ⟨_, e, rfl⟩
        have hl : ms'.length ≤ N := by
          have := congrArg List.length e1
          simp only [List.length_append, List.length_cons] at this h
          omega
        obtain ⟨f, ms2, k2, e3, e4⟩ := (run_told N ms' k' hl).2 n st ⟨_, e2, rfl⟩
        exact ⟨.cons m c f, ms2, k2, by rw [e1, e3]; simp [F.marks], e4⟩
theorem told {ms : List Mk} (h : run [] ms 0 = .inr []) : ∃ f : F, ms = f.marks := (run_told ms.length ms 0 (Nat.le_refl _)).1 h
theorem run_all (f : F) : run [] f.marks 0 = .inr [] := by
  have := run_marks f [] [] 0
  rw [List.append_nil] at this
  rw [this]
  rfl
/-! the marks of a row: the open nodes with how many children are still to come, the last one first -/
def closeS : Nat → List (Str × Int) → List Mk × List (Str × Int)
  | 0, st => ([], st)
  | k + 1, st => match st with
    | [] => ([], [])
    | (n, c) :: r => if c = 0 then match r with
        | [] => ([(false, n)], [])
        | (m, d) :: r' => let p := closeS k ((m, d - 1) :: r'); ((false, n) :: p.1, p.2)
      else ([], st)
/-- closing as far as it goes -/
def close (st : List (Str × Int)) : List Mk × List (Str × Int) := closeS st.length st
theorem close_nil : close [] = ([], []) := rfl
theorem close_no {n : Str} {c : Int} {r : List (Str × Int)} (h : c ≠ 0) : close ((n, c) :: r) = ([], (n, c) :: r) := by
  show closeS (r.length + 1) ((n, c) :: r) = _
  simp only [closeS, if_neg h]
theorem close_last {n : Str} : close [(n, 0)] = ([(false, n)], []) := rfl
theorem close_yes {n m : Str} {d : Int} {r : List (Str × Int)} : close ((n, 0) :: (m, d) :: r) = ((false, n) :: (close ((m, d - 1) :: r)).1, (close ((m, d - 1) :: r)).2) := by
  show closeS (((m, d) :: r).length + 1) ((n, 0) :: (m, d) :: r) = _
  simp only [closeS, if_true]
  rfl
def proc (st : List (Str × Int)) : List (Str × Int) → List Mk × List (Str × Int)
  | [] => ([], st)
  | (n, c) :: r => let p := close ((n, c) :: st); let q := proc p.2 r; ((true, n) :: (p.1 ++ q.1), q.2)
theorem proc_app (st : List (Str × Int)) (a b : List (Str × Int)) : proc st (a ++ b) = ((proc st a).1 ++ (proc (proc st a).2 b).1, (proc (proc st a).2 b).2) := by
  induction a generalizing st with
  | nil => rfl
  | cons x a ih =>
    obtain ⟨n, c⟩ := x
    simp only [List.cons_append, proc, ih]
    simp only [List.append_assoc, List.cons_append]
/-- the rows within an open node -/
theorem proc_in : ∀ (f : F) (n : Str) (c : Nat) (st : List (Str × Int)), f ≠ .nil → proc ((n, ((f.count + c : Nat) : Int)) :: st) f.flat = (f.marks ++ (close ((n, (c : Int)) :: st)).1, (close ((n, (c : Int)) :: st)).2)
  | .nil, _, _, _, h => absurd rfl h
  | .cons m k r, n, c, st, _ => by
    have tail : ∀ (e : List Mk), (let q := proc (close ((n, ((r.count + c : Nat) : Int)) :: st)).2 r.flat; (e ++ ((close ((n, ((r.count + c : Nat) : Int)) :: st)).1 ++ q.1), q.2)) = (e ++ (r.marks ++ (close ((n, (c : Int)) :: st)).1), (close ((n, (c : Int)) :: st)).2) := by
      intro e
      by_cases hr : r = .nil
      · subst hr
        simp only [F.count, F.flat, F.marks, proc, Nat.zero_add, List.append_nil, List.nil_append]
      · have hc : ((r.count + c : Nat) : Int) ≠ 0 := by
          cases r with
          | nil => exact absurd rfl hr
          | cons _ _ r => simp only [F.count]; omega
        rw [close_no hc]
        simp only [List.nil_append]
        rw [proc_in r n c st hr]
    have sub1 : ((F.cons m k r).count + c : Nat) = (r.count + c) + 1 := by simp only [F.count]; omega
    by_cases hk : k = .nil
    · subst hk
      simp only [F.flat, F.marks, proc, F.count, List.nil_append]
      have e0 : ((0 : Nat) : Int) = 0 := rfl
      rw [e0, close_yes]
      have e1 : (((1 + r.count + c : Nat) : Int) - 1) = ((r.count + c : Nat) : Int) := by omega
      rw [e1]
      have := tail [(true, m), (false, m)]
      simp only [List.cons_append, List.nil_append] at this ⊢
      exact this
    · have hc : ((k.count : Nat) : Int) ≠ 0 := by
        cases k with
        | nil => exact absurd rfl hk
        | cons _ _ k => simp only [F.count]; omega
      simp only [F.flat, proc]
      rw [close_no hc]
      simp only [List.nil_append]
      have ik := proc_in k m 0 ((n, (((F.cons m k r).count + c : Nat) : Int)) :: st) hk
      rw [Nat.add_zero] at ik
      rw [proc_app, ik]
      have e0 : ((0 : Nat) : Int) = 0 := rfl
      rw [e0, close_yes]
      have e1 : ((((F.cons m k r).count + c : Nat) : Int) - 1) = ((r.count + c : Nat) : Int) := by rw [sub1]; omega
      rw [e1]
      have := tail ((true, m) :: (k.marks ++ [(false, m)]))
      simp only [F.marks, List.cons_append, List.append_assoc, List.nil_append] at this ⊢
      exact this
theorem proc_all : ∀ f : F, proc [] f.flat = (f.marks, [])
  | .nil => rfl
  | .cons m k r => by
    have ir := proc_all r
    by_cases hk : k = .nil
    · subst hk
      simp only [F.flat, F.marks, proc, F.count, List.nil_append]
      have e0 : ((0 : Nat) : Int) = 0 := rfl
      rw [e0, close_last]
      simp only [ir, List.cons_append, List.nil_append]
    · have hc : ((k.count : Nat) : Int) ≠ 0 := by
        cases k with
        | nil => exact absurd rfl hk
        | cons _ _ k => simp only [F.count]; omega
      simp only [F.flat, proc]
      rw [close_no hc]
      simp only [List.nil_append]
      have ik := proc_in k m 0 [] hk
      rw [Nat.add_zero] at ik
      rw [proc_app, ik]
      have e0 : ((0 : Nat) : Int) = 0 := rfl
      rw [e0, close_last]
      simp only [ir, F.marks, List.append_assoc, List.cons_append, List.nil_append]
/-! the row that is told by marks: (the nodes found, the numbers of the open ones, the last one first) -/
def bump (l : List (Str × Int)) (st : List Nat) (c : Int) : List (Str × Int) := match st with
  | [] => l
  | j :: _ => match l[j]? with
    | some (n, d) => l.set j (n, d + c)
    | none => l
def tell : List (Str × Int) → List Nat → List Mk → List (Str × Int) × List Nat
  | l, st, [] => (l, st)
  | l, st, (true, n) :: r => tell (bump l st 1 ++ [(n, 0)]) (l.length :: st) r
  | l, st, (false, _) :: r => tell l st.tail r
theorem bump_cons {l : List (Str × Int)} {j : Nat} {st : List Nat} {c d : Int} {n : Str} (h : l[j]? = some (n, d)) : bump l (j :: st) c = l.set j (n, d + c) := by
  unfold bump
  simp only [h]
theorem bump_len (l : List (Str × Int)) (st : List Nat) (c : Int) : (bump l st c).length = l.length := by
  unfold bump
  split
  · rfl
  · split
    · rw [List.length_set]
    · rfl
theorem bump_0 (l : List (Str × Int)) (st : List Nat) : bump l st 0 = l := by
  unfold bump
  split
  · rfl
  · split
    · rename_i n d e
      rw [Int.add_zero]
      exact List.ext_getElem? fun i => by
        rw [List.getElem?_set]
        split
        · rename_i h
          subst h
          rw [e]
          split
          · rfl
          · rename_i h; exact absurd (List.getElem?_eq_some_iff.mp e).1 h
        · rfl
    · rfl
/-- what is open lies within what is found -/
def Within (l : List (Str × Int)) (st : List Nat) : Prop := ∀ j ∈ st, j < l.length
theorem bump_app {l m : List (Str × Int)} {st : List Nat} {c : Int} (h : Within l st) : bump (l ++ m) st c = bump l st c ++ m := by
  unfold bump
  split
  · rfl
  · rename_i j st
    have hj : j < l.length := h j (List.mem_cons_self ..)
    rw [List.getElem?_append_left hj, List.getElem?_eq_getElem hj]
    show (l ++ m).set j (l[j].1, l[j].2 + c) = l.set j (l[j].1, l[j].2 + c) ++ m
    rw [List.set_append_left _ _ hj]
theorem bump_add {l : List (Str × Int)} {st : List Nat} {c d : Int} : bump (bump l st c) st d = bump l st (c + d) := by
  unfold bump
  split
  · rfl
  · rename_i j st
    cases e : l[j]? with
    | none => simp only [e]
    | some x =>
      obtain ⟨n, q⟩ := x
      have hj : j < l.length := (List.getElem?_eq_some_iff.mp e).1
      simp only [e, List.getElem?_set_self hj, List.set_set, Int.add_assoc]
theorem tell_marks : ∀ (f : F) (l : List (Str × Int)) (st : List Nat) (r : List Mk), Within l st → tell l st (f.marks ++ r) = tell (bump l st (f.count : Int) ++ f.flat) st r
  | .nil, l, st, r, h => by
    simp only [F.marks, F.flat, F.count, List.nil_append, List.append_nil]
    rw [show ((0 : Nat) : Int) = 0 from rfl, bump_0]
  | .cons n k f, l, st, r, h => by
    simp only [F.marks, List.cons_append, List.append_assoc, tell]
    have hl := bump_len l st 1
    have w1 : Within (bump l st 1 ++ [(n, 0)]) (l.length :: st) := by
      intro j hj
      rw [List.length_append, hl]
      rcases List.mem_cons.mp hj with rfl | hj
      · show l.length < l.length + 1; omega
      · have := h j hj; show j < l.length + 1; omega
    rw [tell_marks k _ _ _ w1]
    simp only [tell, List.tail_cons]
    have e1 : bump (bump l st 1 ++ [(n, 0)]) (l.length :: st) (k.count : Int) = bump l st 1 ++ [(n, (k.count : Int))] := by
      have e0 : (bump l st 1 ++ [(n, 0)])[l.length]? = some (n, 0) := by
        rw [List.getElem?_append_right (by omega), hl, Nat.sub_self]
        rfl
      rw [bump_cons e0]
      rw [List.set_append_right _ _ (by omega), hl, Nat.sub_self, Int.zero_add]
      rfl
    rw [e1]
    have w2 : Within (bump l st 1 ++ [(n, (k.count : Int))] ++ k.flat) st := by
      intro j hj
      have := h j hj
      simp only [List.length_append, hl]
      omega
    rw [tell_marks f _ _ _ w2]
    have w3 : Within (bump l st 1) st := fun j hj => by rw [hl]; exact h j hj
    rw [List.append_assoc, bump_app w3, bump_add]
    congr 1
    simp only [F.flat, F.count, List.append_assoc, List.cons_append, List.nil_append]
    congr 2
theorem tell_all (f : F) : tell [] [] f.marks = (f.flat, []) := by
  have := tell_marks f [] [] [] (fun j h => by cases h)
  rw [List.append_nil] at this
  rw [this]
  rfl
/-! how many nodes are open at one time -/
def deep : Int × Int → List Mk → Int × Int
  | p, [] => p
  | (here, most), (b, _) :: r => let h := here + (if b = true then 1 else -1); deep (h, if h > most then h else most) r
end K11

namespace K11
open PySem PySem.Spec PyProof.Rows L2 OP
/-! ### marks as data -/
def wrd (b : Bool) : Str := if b = true then "in" else "out"
def mk (m : Mk) : D := .tup [.str (wrd m.1), .str m.2]
abbrev MK (ms : List Mk) : List D := ms.map mk
def NMS : List Str := ["a", "b", "c", "c1"]
def rb : Option (O D × List D) → Option Bool
  | some (.ok (.bl b), []) => some b
  | _ => none
theorem rb_eq {x : Option (O D × List D)} {b : Bool} (h : rb x = some b) : x = some (.ok (.bl b), []) := by
  unfold rb at h
  split at h
  · cases h; rfl
  · cases h
def pyB (n : Nat) (x : D) : Bool := match x.py with
  | some p => p.canLay0 && decide (p.depth ≤ n)
  | none => false
theorem pyB_ok {n : Nat} {x : D} (h : pyB n x = true) : pyOk n x := by
  unfold pyB at h
  split at h
  · rename_i p e
    simp only [Bool.and_eq_true, decide_eq_true_eq] at h
    exact ⟨p, e, h.1, h.2⟩
  · cases h
def eltB (x : D) : Bool := x.frz && pyB 5 x && match rb (d_is_mark [x]), rb (d_law_is_mark [x]) with
  | some b, some b' => b == b'
  | _, _ => false
structure Elt (x : D) (b : Bool) : Prop where
  fz : x.frz = true
  py : pyOk 5 x
  is1 : d_is_mark [x] = some (.ok (.bl b), [])
  is2 : d_law_is_mark [x] = some (.ok (.bl b), [])
theorem elt_of {x : D} (h : eltB x = true) : ∃ b, Elt x b := by
  unfold eltB at h
  simp only [Bool.and_eq_true] at h
  obtain ⟨⟨h1, h2⟩, h3⟩ := h
  split at h3
  · rename_i b b' e1 e2
    have : b = b' := by simpa using h3
    subst this
    exact ⟨b, h1, pyB_ok h2, rb_eq e1, rb_eq e2⟩
  · cases h3
def vB (x : D) : Bool := (rb (d_is_mark [x])).getD false
theorem Elt.v {x : D} {b : Bool} (h : Elt x b) : vB x = b := by
  unfold vB
  rw [h.is1]
  rfl
theorem elt_is {x : D} {b : Bool} (h : eltB x = true) (v : vB x = b) : Elt x b := by
  obtain ⟨b', e⟩ := elt_of h
  have := e.v
  rw [v] at this
  rw [this]
  exact e
theorem mk_all : ([true, false].all fun b => NMS.all fun n => eltB (mk (b, n)) && vB (mk (b, n))) = true := by decide +kernel
theorem mk_elt {b : Bool} {n : Str} (h : n ∈ NMS) : Elt (mk (b, n)) true := by
  have hb : b ∈ [true, false] := by cases b <;> decide
  have := List.all_eq_true.mp (List.all_eq_true.mp mk_all b hb) n h
  rw [Bool.and_eq_true] at this
  exact elt_is this.1 this.2
/-- rows of marks whose names are among those that are drawn -/
abbrev Nm (ms : List Mk) : Prop := ∀ m ∈ ms, m.2 ∈ NMS
abbrev Elts (xs : List D) : Prop := ∀ x ∈ xs, ∃ b, Elt x b
theorem Elts.fz {xs : List D} (h : Elts xs) : D.frzs xs = true := frzs_of fun x m => by obtain ⟨b, k⟩ := h x m; exact k.fz
theorem Elts.pyo {xs : List D} (h : Elts xs) : ∀ x ∈ xs, pyOk 5 x := fun x m => by obtain ⟨b, k⟩ := h x m; exact k.py
theorem mk_elts {ms : List Mk} (h : Nm ms) : Elts (MK ms) := fun x hx => by
  obtain ⟨m, hm, rfl⟩ := List.mem_map.mp hx
  exact ⟨true, mk_elt (b := m.1) (h m hm)⟩
theorem mk_v {ms : List Mk} (h : Nm ms) : (MK ms).all vB = true := List.all_eq_true.mpr fun x hx => by
  obtain ⟨m, hm, rfl⟩ := List.mem_map.mp hx
  exact (mk_elt (b := m.1) (h m hm)).v
theorem filter_yes {l : List D} : l.filter (fun _ => true) = l := by simp
theorem frzs_cons {x : D} {l : List D} : D.frzs (x :: l) = (x.frz && D.frzs l) := rfl
theorem frzs1 {x : D} (h : x.frz = true) : D.frzs [x] = true := by rw [frzs_cons, h]; rfl
theorem den_ret {N k : Nat} {m : MS} {ds outs : List D} {ρ : Rho} {d : D} (h : m (rho0 N ds) = some (.ok (.ret d), ρ)) (o : outsOf k ρ = some outs) : denOf N k m ds = some (.ok d, outs) := by
  unfold denOf
  rw [h]
  simp only [o, Option.map_some]
theorem den_exc {N k : Nat} {m : MS} {ds outs : List D} {ρ : Rho} {c : Str} {ks : List Str} {vs : List D} (h : m (rho0 N ds) = some (.exc c ks vs, ρ)) (o : outsOf k ρ = some outs) : denOf N k m ds = some (.exc c ks vs, outs) := by
  unfold denOf
  rw [h]
  simp only [o, Option.map_some]
theorem mDef_exc {n : Nat} {den : Den} {m : Rho → Option (O (List D))} {l : List D} {c : Str} {ks : List Str} {vs : List D} {ρ : Rho} (h : m ρ = some (.ok l)) (f : D.frzs l = true) (hn : l.length = n) (hf : den l = some (.exc c ks vs, [])) : mDef n den m ρ = some (.exc c ks vs) := by
  unfold mDef
  rw [h, bnd_ok, if_pos ⟨f, hn⟩, hf]
theorem eP_exc {m : Rho → Option (O D)} {ρ : Rho} {c : Str} {ks : List Str} {vs : List D} (h : m ρ = some (.exc c ks vs)) : eP m ρ = some (.exc c ks vs, ρ) := by
  unfold eP
  rw [h]
theorem mLam_exc {mB : Rho → Option (O D)} {ρ : Rho} {ks : List Str} {vs : List D} (h : mB ρ = some (.exc "Nothing" ks vs)) : mLam "Nothing" mB ρ = some (.ok (.bl true)) := by
  unfold mLam
  rw [h]
  exact if_pos rfl
theorem gNotIn_of {x y : D} {b : Bool} (h : inD x y = some b) : gNotIn x y = some (.bl (!b)) := by unfold gNotIn; rw [h]; rfl
theorem tup_add {xs ys : List D} (h : xs.length + ys.length ≤ 16777216) : gAdd (.tup xs) (.tup ys) = some (.tup (xs ++ ys)) := if_pos h
theorem atI_last {l : List D} {x : D} : atI (l ++ [x]) (-1) = some x := by
  unfold atI ixN
  rw [if_neg (by decide), if_pos (by rw [List.length_append]; show -((l.length + 1 : Nat) : Int) ≤ -1; omega)]
  have : (((l ++ [x]).length : Int) + -1).toNat = l.length := by rw [List.length_append]; show (((l.length + 1 : Nat) : Int) + -1).toNat = _; omega
  show (l ++ [x])[(((l ++ [x]).length : Int) + -1).toNat]? = _
  rw [this, List.getElem?_append_right (Nat.le_refl _), Nat.sub_self]
  rfl
theorem ixN_last {l : List D} {x : D} : ixN (l ++ [x]).length (-1) = some l.length := by
  unfold ixN
  rw [if_neg (by decide), if_pos (by rw [List.length_append]; show -((l.length + 1 : Nat) : Int) ≤ -1; omega)]
  rw [List.length_append]
  show some ((((l.length + 1 : Nat) : Int) + -1).toNat) = _
  congr 1
  omega
theorem pop_last {i : Nat} {l : List D} {x : D} {ρ : Rho} (h : ρ[i]? = some (some (.lst true (l ++ [x])))) : ePop i ρ = some (.ok x, ρ.set i (some (.lst true l))) := by
  have o : ownL ρ i = some (l ++ [x]) := by unfold ownL; rw [h]; rfl
  unfold ePop
  rw [o]
  simp only [List.getLast?_concat, List.dropLast_concat]
/-! ### are they marks -/
theorem tuple_of_ok {xs : List D} (h : Elts xs) (hl : xs.length ≤ 16777216) : d_is_tuple_of [.tup xs, .fn "is_mark"] = some (.ok (.bl (xs.all vB)), []) := by
  refine den_ret (ρ := [some (.tup xs), some (.fn "is_mark"), none]) ?_ rfl
  show b_is_tuple_of [some (.tup xs), some (.fn "is_mark"), none] = _
  unfold b_is_tuple_of
  have k : lcP (tN 2) pYes (mCallL 1 1 S_is_tuple_of_fns (mCons (mVar 2) mNil)) [some (.tup xs), some (.fn "is_mark"), none] xs = some (xs.map fun x => .bl (vB x)) := by
    have := lcP_go (ρ := [some (.tup xs), some (.fn "is_mark"), none]) (t := tN 2) (c := pYes) (me := mCallL 1 1 S_is_tuple_of_fns (mCons (mVar 2) mNil)) (G := fun _ => true) (F := fun x => .bl (vB x)) (ds := xs) fun d hd => by
      obtain ⟨b, e⟩ := h d hd
      refine ⟨_, rfl, rfl, fun _ => ⟨?_, rfl⟩⟩
      show mDef 1 d_is_mark (mCons (mVar 2) mNil) [some (.tup xs), some (.fn "is_mark"), some d] = _
      rw [e.v]
      exact mDef_ok (l := [d]) rfl (frzs1 e.fz) rfl rfl e.is1
    rw [filter_yes] at this
    exact this
  have kl : (xs.map fun x => D.bl (vB x)).length ≤ 16777216 := by rw [List.length_map]; exact hl
  refine sRet_ok (eP_ok ?_ rfl)
  exact mAnd_ok (a := true) (mIsi_ok (x := .tup xs) rfl rfl) fun _ => mCall_ok (l := [.lst false (xs.map fun x => .bl (vB x))]) (mCons_ok (pLc_ok (ds := xs) (wP_ok (d := .tup xs) rfl rfl) h.fz k kl) rfl) (fAll_map vB false xs)
theorem are_ok {x : D} {b : Bool} (fx : x.frz = true) (h : d_is_tuple_of [x, .fn "is_mark"] = some (.ok (.bl b), [])) : d_are_marks [x] = some (.ok (.bl b), []) := by
  refine den_ret (ρ := [some x]) ?_ rfl
  show b_are_marks [some x] = _
  unfold b_are_marks
  have k : mDef 2 d_is_tuple_of (mCons (mVar 0) (mCons (mC (.fn "is_mark")) mNil)) [some x] = some (.ok (.bl b)) := mDef_ok (l := [x, .fn "is_mark"]) rfl (by rw [frzs_cons, fx]; rfl) rfl rfl h
  exact sRet_ok (eP_ok k rfl)
theorem are_tup {xs : List D} (h : Elts xs) (hl : xs.length ≤ 16777216) : d_are_marks [.tup xs] = some (.ok (.bl (xs.all vB)), []) := are_ok (show (D.tup xs).frz = true from h.fz) (tuple_of_ok h hl)
/-! ### the fault -/
def formD : D := .tup [.str "form"]
def stD (st : List Str) : List D := st.reverse.map .str
theorem stD_cons {n : Str} {st : List Str} : stD (n :: st) = stD st ++ [.str n] := by
  unfold stD
  rw [List.reverse_cons, List.map_append]
  rfl
def bodyF : MS := sIf (etP (mT (m2 gEq (mVar 3) (mC (.str "in"))))) (sExpr (eApp 1 (eP (mVar 4)))) (sIf (etP (mOrT (mT (m2 gEq (mVar 1) (mLst mNil))) (mT (m2 gNe (m2 gIx (mVar 1) (m1 gNeg (mC (.int 1)))) (mVar 4))))) (sRet (eP (mTup (mCons (mVar 2) (mCons (mC (.str "out")) mNil))))) (sExpr (ePop 1)))
def tgtF : MT := tTp 2 (tsCons (tN 2) (tsCons (tTp 2 (tsCons (tN 3) (tsCons (tN 4) tsNil))) tsNil))
def tailF : MS := sSeq (sSet 1 (eLst (eaP mNil))) (sSeq (sFor (wEnum (eaP (mCons (mVar 0) mNil))) tgtF bodyF) (sRet (eP (mIf (mT (m2 gNe (mVar 1) (mLst mNil))) (mTup (mCons (mC (.str "open")) (mCons (mCall fLen (mCons (mVar 1) mNil)) mNil))) (mC .non)))))
theorem fault_is : b_marks_fault = sSeq (sIf (etP (mNotT (mT (mDef 1 d_are_marks (mCons (mVar 0) mNil))))) (sRet (eP (mTup (mCons (mC (.str "form")) mNil)))) sNx) tailF := rfl
theorem law_fault_is : b_law_marks_fault = sSeq (sIf (etP (mOrT (mNotT (mT (mIsi .tuple (mVar 0)))) (mT (m2 gNe (pLc (wP (mVar 0)) (tN 5) (mNotT (mT (mDef 1 d_law_is_mark (mCons (mVar 5) mNil)))) (mVar 5) [5]) (mLst mNil))))) (sRet (eP (mTup (mCons (mC (.str "form")) mNil)))) sNx) tailF := rfl
theorem w_in (b : Bool) : eqD (.str (wrd b)) (.str "in") = some b := by
  cases b
  · exact (by decide +kernel : eqD (.str "out") (.str "in") = some false)
  · exact (by decide +kernel : eqD (.str "in") (.str "in") = some true)
theorem w_out (b : Bool) : eqD (.str (wrd b)) (.str "out") = some (!b) := by
  cases b
  · exact (by decide +kernel : eqD (.str "out") (.str "out") = some true)
  · exact (by decide +kernel : eqD (.str "in") (.str "out") = some false)
theorem nm_eqs : (NMS.all fun t => NMS.all fun n => decide (eqD (.str t) (.str n) = some (decide (t = n)))) = true := by decide +kernel
theorem nm_eq {t n : Str} (ht : t ∈ NMS) (hn : n ∈ NMS) : eqD (.str t) (.str n) = some (decide (t = n)) := of_decide_eq_true (List.all_eq_true.mp (List.all_eq_true.mp nm_eqs t ht) n hn)
theorem nm_pys : (NMS.all fun n => pyB 3 (.str n)) = true := by decide +kernel
theorem nm_py {n : Str} (h : n ∈ NMS) : pyOk 3 (.str n) := pyB_ok (List.all_eq_true.mp nm_pys n h)
theorem st_py {st : List Str} (h : ∀ n ∈ st, n ∈ NMS) : ∀ x ∈ stD st, pyOk 3 x := fun x hx => by
  obtain ⟨n, hn, rfl⟩ := List.mem_map.mp hx
  exact nm_py (h n (List.mem_reverse.mp hn))
theorem stD_emp {st : List Str} : (stD st).isEmpty = st.isEmpty := by
  cases st with
  | nil => rfl
  | cons n st => rw [stD_cons]; cases stD st <;> rfl
theorem loopF_ok : ∀ (ms : List Mk) (st : List Str) (k : Nat) (x0 z2 z3 z4 : Option D) (rest : Rho), Nm ms → (∀ n ∈ st, n ∈ NMS) → st.length + ms.length < 16777216 →
    (∀ j, run st ms k = .inl j → ∃ ρ', loopF tgtF bodyF (((MK ms).zipIdx k).map fun p => .tup [.int (p.2 : Nat), p.1]) (x0 :: some (.lst true (stD st)) :: z2 :: z3 :: z4 :: rest) = some (.ok (.ret (.tup [.int (j : Nat), .str "out"])), ρ')) ∧
    (∀ st', run st ms k = .inr st' → (∀ n ∈ st', n ∈ NMS) ∧ ∃ y2 y3 y4, loopF tgtF bodyF (((MK ms).zipIdx k).map fun p => .tup [.int (p.2 : Nat), p.1]) (x0 :: some (.lst true (stD st)) :: z2 :: z3 :: z4 :: rest) = some (.ok .nx, x0 :: some (.lst true (stD st')) :: y2 :: y3 :: y4 :: rest))
  | [], st, k, x0, z2, z3, z4, rest, hm, hs, hl => by
    refine ⟨fun j e => (by simp only [run] at e; cases e), fun st' e => ?_⟩
    simp only [run] at e
    cases e
    exact ⟨hs, z2, z3, z4, rfl⟩
  | (b, n) :: ms, st, k, x0, z2, z3, z4, rest, hm, hs, hl => by
    have hn : n ∈ NMS := hm (b, n) (List.mem_cons_self ..)
    have hm' : Nm ms := fun m h => hm m (List.mem_cons_of_mem _ h)
    have step : loopF tgtF bodyF (((MK ((b, n) :: ms)).zipIdx k).map fun p => .tup [.int (p.2 : Nat), p.1]) (x0 :: some (.lst true (stD st)) :: z2 :: z3 :: z4 :: rest) = match bodyF (x0 :: some (.lst true (stD st)) :: some (.int (k : Nat)) :: some (.str (wrd b)) :: some (.str n) :: rest) with
        | some (.ok .nx, ρ2) => loopF tgtF bodyF (((MK ms).zipIdx (k + 1)).map fun p => .tup [.int (p.2 : Nat), p.1]) ρ2
        | some (.ok .ct, ρ2) => loopF tgtF bodyF (((MK ms).zipIdx (k + 1)).map fun p => .tup [.int (p.2 : Nat), p.1]) ρ2
        | some (.ok .bk, ρ2) => some (.ok .nx, ρ2)
        | y => y := by
      rw [MK, List.map_cons, List.zipIdx_cons, List.map_cons]
      rfl
    have c1 : ∀ {v}, mT (m2 gEq (mVar 3) (mC (.str "in"))) (x0 :: v :: some (.int (k : Nat)) :: some (.str (wrd b)) :: some (.str n) :: rest) = some (.ok b) := mT_ok (m2_ok rfl rfl (gEq_of (w_in b)))
    rw [step]
    cases b with
    | true =>
      have eb : bodyF (x0 :: some (.lst true (stD st)) :: some (.int (k : Nat)) :: some (.str (wrd true)) :: some (.str n) :: rest) = some (.ok .nx, x0 :: some (.lst true (stD (n :: st))) :: some (.int (k : Nat)) :: some (.str (wrd true)) :: some (.str n) :: rest) := by
        unfold bodyF
        rw [sIf_t c1, if_pos rfl, stD_cons]
        have lt : (stD st).length < 16777216 := by unfold stD; rw [List.length_map, List.length_reverse]; omega
        exact sExpr_ok (eApp_ok (l := stD st) (l1 := stD st) rfl (eP_ok (d := .str n) rfl rfl) rfl lt)
      rw [eb]
      have ih := loopF_ok ms (n :: st) (k + 1) x0 (some (.int (k : Nat))) (some (.str (wrd true))) (some (.str n)) rest hm' (fun m h => by
        rcases List.mem_cons.mp h with rfl | h
        · exact hn
        · exact hs m h) (by simp only [List.length_cons] at hl ⊢; omega)
      simp only [run]
      exact ih
    | false =>
      cases st with
      | nil =>
        have eb : bodyF (x0 :: some (.lst true (stD [])) :: some (.int (k : Nat)) :: some (.str (wrd false)) :: some (.str n) :: rest) = some (.ok (.ret (.tup [.int (k : Nat), .str "out"])), x0 :: some (.lst true (stD [])) :: some (.int (k : Nat)) :: some (.str (wrd false)) :: some (.str n) :: rest) := by
          unfold bodyF
          rw [sIf_t c1, if_neg (by decide)]
          rw [sIf_t (b := true) (mOrT_t (mT_ok (m2_ok (x := .lst true (stD [])) (y := .lst false []) rfl rfl (gEq_of (eqD_lst_nil (n := 3) (st_py hs) (by decide)))))), if_pos rfl]
          rfl
        rw [eb]
        refine ⟨fun j e => ?_, fun st' e => (by simp only [run] at e; cases e)⟩
        simp only [run] at e
        cases e
        exact ⟨_, rfl⟩
      | cons t st =>
        have ht : t ∈ NMS := hs t (List.mem_cons_self ..)
        have c2 : mT (m2 gEq (mVar 1) (mLst mNil)) (x0 :: some (.lst true (stD (t :: st))) :: some (.int (k : Nat)) :: some (.str (wrd false)) :: some (.str n) :: rest) = some (.ok false) := by
          have e := eqD_lst_nil (o := true) (o2 := false) (n := 3) (st_py hs) (by decide)
          rw [stD_emp] at e
          exact mT_ok (m2_ok (x := .lst true (stD (t :: st))) (y := .lst false []) rfl rfl (gEq_of e))
        have c3 : mT (m2 gNe (m2 gIx (mVar 1) (m1 gNeg (mC (.int 1)))) (mVar 4)) (x0 :: some (.lst true (stD (t :: st))) :: some (.int (k : Nat)) :: some (.str (wrd false)) :: some (.str n) :: rest) = some (.ok (!decide (t = n))) := by
          refine mT_ok (m2_ok (x := .str t) (y := .str n) (m2_ok (x := .lst true (stD (t :: st))) (y := .int (-1)) rfl rfl ?_) rfl (gNe_of (nm_eq ht hn)))
          show atI (stD (t :: st)) (-1) = _
          rw [stD_cons]
          exact atI_last
        by_cases q : t = n
        · have eb : bodyF (x0 :: some (.lst true (stD (t :: st))) :: some (.int (k : Nat)) :: some (.str (wrd false)) :: some (.str n) :: rest) = some (.ok .nx, x0 :: some (.lst true (stD st)) :: some (.int (k : Nat)) :: some (.str (wrd false)) :: some (.str n) :: rest) := by
            rw [decide_eq_true q] at c3
            unfold bodyF
            rw [sIf_t c1, if_neg (by decide), sIf_t (b := false) ((mOrT_f c2).trans c3), if_neg (by decide)]
            rw [stD_cons]
            exact sExpr_ok (pop_last (l := stD st) (x := .str t) rfl)
          rw [eb]
          have ih := loopF_ok ms st (k + 1) x0 (some (.int (k : Nat))) (some (.str (wrd false))) (some (.str n)) rest hm' (fun m h => hs m (List.mem_cons_of_mem _ h)) (by simp only [List.length_cons] at hl; omega)
          simp only [run, if_pos q]
          exact ih
        · have eb : bodyF (x0 :: some (.lst true (stD (t :: st))) :: some (.int (k : Nat)) :: some (.str (wrd false)) :: some (.str n) :: rest) = some (.ok (.ret (.tup [.int (k : Nat), .str "out"])), x0 :: some (.lst true (stD (t :: st))) :: some (.int (k : Nat)) :: some (.str (wrd false)) :: some (.str n) :: rest) := by
            rw [decide_eq_false q] at c3
            unfold bodyF
            rw [sIf_t c1, if_neg (by decide), sIf_t (b := true) ((mOrT_f c2).trans c3), if_pos rfl]
            rfl
          rw [eb]
          simp only [run, if_neg q]
          refine ⟨fun j e => ?_, fun st' e => by cases e⟩
          cases e
          exact ⟨_, rfl⟩
def faultD : Sum Nat (List Str) → D
  | .inl j => .tup [.int (j : Nat), .str "out"]
  | .inr [] => .non
  | .inr (n :: st) => .tup [.str "open", .int ((n :: st).length : Nat)]
theorem tailF_ok {ms : List Mk} {z1 z2 z3 z4 : Option D} {rest : Rho} (h : Nm ms) (hl : ms.length < 16777216) : ∃ ρ', tailF (some (.tup (MK ms)) :: z1 :: z2 :: z3 :: z4 :: rest) = some (.ok (.ret (faultD (run [] ms 0))), ρ') := by
  have en : wEnum (eaP (mCons (mVar 0) mNil)) (some (.tup (MK ms)) :: some (.lst true []) :: z2 :: z3 :: z4 :: rest) = some (.ok (((MK ms).zipIdx 0).map fun p => .tup [.int (p.2 : Nat), p.1]), some (.tup (MK ms)) :: some (.lst true []) :: z2 :: z3 :: z4 :: rest) := by
    have fx : D.frzs [D.tup (MK ms)] = true := frzs1 (x := .tup (MK ms)) (mk_elts h).fz
    unfold wEnum
    rw [eaP_ok (l := [.tup (MK ms)]) rfl fx, bE_ok, D.fzs_of fx]
    rfl
  obtain ⟨l1, l2⟩ := loopF_ok ms [] 0 (some (.tup (MK ms))) z2 z3 z4 rest h (fun n hn => by cases hn) (by simpa using hl)
  unfold tailF
  rw [sSeq_nx (ρ1 := some (.tup (MK ms)) :: some (.lst true []) :: z2 :: z3 :: z4 :: rest) rfl]
  cases e : run [] ms 0 with
  | inl j =>
    obtain ⟨ρ', e1⟩ := l1 j e
    exact ⟨ρ', sSeq_ret ((sFor_ok en).trans e1)⟩
  | inr st =>
    obtain ⟨hs, y2, y3, y4, e1⟩ := l2 st e
    refine ⟨some (.tup (MK ms)) :: some (.lst true (stD st)) :: y2 :: y3 :: y4 :: rest, ?_⟩
    rw [sSeq_nx ((sFor_ok en).trans e1)]
    have c : mT (m2 gNe (mVar 1) (mLst mNil)) (some (.tup (MK ms)) :: some (.lst true (stD st)) :: y2 :: y3 :: y4 :: rest) = some (.ok (!st.isEmpty)) := by
      have e := eqD_lst_nil (o := true) (o2 := false) (n := 3) (st_py hs) (by decide)
      rw [stD_emp] at e
      exact mT_ok (m2_ok (x := .lst true (stD st)) (y := .lst false []) rfl rfl (gNe_of e))
    cases st with
    | nil =>
      refine sRet_ok (eP_ok ?_ rfl)
      unfold mIf
      rw [c]
      rfl
    | cons n st =>
      refine sRet_ok (eP_ok (d := .tup [.str "open", .int ((n :: st).length : Nat)]) ?_ rfl)
      unfold mIf
      rw [c, bnd_ok, if_pos (show (!(n :: st).isEmpty) = true from rfl)]
      refine mTup_ok (mCons_ok rfl (mCons_ok (mCall_ok (l := [.lst true (stD (n :: st))]) rfl ?_) rfl)) rfl (by show 2 ≤ 16777216; decide)
      show some (D.int ((stD (n :: st)).length : Nat)) = _
      unfold stD
      rw [List.length_map, List.length_reverse]
theorem fault_ok {ms : List Mk} (h : Nm ms) (hl : ms.length < 16777216) : d_marks_fault [.tup (MK ms)] = some (.ok (faultD (run [] ms 0)), []) := by
  obtain ⟨ρ', e⟩ := tailF_ok (z1 := none) (z2 := none) (z3 := none) (z4 := none) (rest := []) h hl
  refine den_ret (ρ := ρ') ?_ rfl
  show b_marks_fault [some (.tup (MK ms)), none, none, none, none] = _
  rw [fault_is]
  have k := are_tup (mk_elts h) (by rw [List.length_map]; omega)
  rw [mk_v h] at k
  have k1 : mDef 1 d_are_marks (mCons (mVar 0) mNil) [some (.tup (MK ms)), none, none, none, none] = some (.ok (.bl true)) := mDef_ok (l := [.tup (MK ms)]) rfl (frzs1 (x := .tup (MK ms)) (mk_elts h).fz) rfl rfl k
  rw [sSeq_nx (ρ1 := [some (.tup (MK ms)), none, none, none, none]) (by rw [sIf_t (b := false) (mNotT_ok (a := true) (mT_ok k1)), if_neg (by decide)]; rfl)]
  exact e
theorem fault_form {x : D} (fx : x.frz = true) (h : d_are_marks [x] = some (.ok (.bl false), [])) : d_marks_fault [x] = some (.ok formD, []) := by
  refine den_ret (ρ := [some x, none, none, none, none]) ?_ rfl
  show b_marks_fault [some x, none, none, none, none] = _
  rw [fault_is]
  have k1 : mDef 1 d_are_marks (mCons (mVar 0) mNil) [some x, none, none, none, none] = some (.ok (.bl false)) := mDef_ok (l := [x]) rfl (frzs1 fx) rfl rfl h
  refine sSeq_ret ?_
  rw [sIf_t (b := true) (mNotT_ok (a := false) (mT_ok k1)), if_pos rfl]
  rfl
theorem law_fault_ok {ms : List Mk} (h : Nm ms) (hl : ms.length < 16777216) : d_law_marks_fault [.tup (MK ms)] = some (.ok (faultD (run [] ms 0)), []) := by
  obtain ⟨ρ', e⟩ := tailF_ok (z1 := none) (z2 := none) (z3 := none) (z4 := none) (rest := [none]) h hl
  refine den_ret (ρ := ρ') ?_ rfl
  show b_law_marks_fault [some (.tup (MK ms)), none, none, none, none, none] = _
  rw [law_fault_is]
  have hE := mk_elts h
  have lc : lcP (tN 5) (mNotT (mT (mDef 1 d_law_is_mark (mCons (mVar 5) mNil)))) (mVar 5) [some (.tup (MK ms)), none, none, none, none, none] (MK ms) = some [] := by
    have := lcP_go (ρ := [some (.tup (MK ms)), none, none, none, none, none]) (t := tN 5) (c := mNotT (mT (mDef 1 d_law_is_mark (mCons (mVar 5) mNil)))) (me := mVar 5) (G := fun _ => false) (F := id) (ds := MK ms) fun d hd => by
      obtain ⟨m, hm, rfl⟩ := List.mem_map.mp hd
      have el := mk_elt (b := m.1) (h m hm)
      exact ⟨_, rfl, mNotT_ok (a := true) (mT_ok (mDef_ok (l := [mk m]) rfl (frzs1 el.fz) rfl rfl el.is2)), fun c => by cases c⟩
    rw [this]
    congr 1
    simp
  have k1 : m2 gNe (pLc (wP (mVar 0)) (tN 5) (mNotT (mT (mDef 1 d_law_is_mark (mCons (mVar 5) mNil)))) (mVar 5) [5]) (mLst mNil) [some (.tup (MK ms)), none, none, none, none, none] = some (.ok (.bl false)) :=
    m2_ok (x := .lst false []) (y := .lst false []) (pLc_ok (ds := MK ms) (wP_ok (d := .tup (MK ms)) rfl rfl) hE.fz lc (by decide)) rfl (gNe_of (eqD_lst_nil (n := 0) (fun x hx => by cases hx) (by decide)))
  rw [sSeq_nx (ρ1 := [some (.tup (MK ms)), none, none, none, none, none]) (by rw [sIf_t (b := false) ((mOrT_f (mNotT_ok (a := true) (mT_ok (mIsi_ok (x := .tup (MK ms)) rfl rfl)))).trans (mT_ok k1)), if_neg (by decide)]; rfl)]
  exact e
end K11

namespace K11
open PySem PySem.Spec PyProof.Rows L2 OP
theorem faultD_frz (s : Sum Nat (List Str)) : (faultD s).frz = true := by
  match s with
  | .inl _ => rfl
  | .inr [] => rfl
  | .inr (_ :: _) => rfl
/-! ### the check -/
theorem check_ok {ms : List Mk} (h : Nm ms) (hl : ms.length < 16777216) (e : run [] ms 0 = .inr []) : d_check_marks [.tup (MK ms)] = some (.ok .non, []) := by
  have k := fault_ok h hl
  rw [e] at k
  have fx := frzs1 (x := .tup (MK ms)) (mk_elts h).fz
  have k1 : mDef 1 d_marks_fault (mCons (mVar 0) mNil) [some (.tup (MK ms))] = some (.ok .non) := mDef_ok (l := [.tup (MK ms)]) rfl fx rfl rfl k
  have e1 : b_check_marks [some (.tup (MK ms))] = some (.ok .nx, [some (.tup (MK ms))]) := by
    unfold b_check_marks
    rw [sIf_t (b := false) (mT_ok (m2_ok (y := .non) k1 rfl rfl)), if_neg (by decide)]
    rfl
  show denOf 1 0 b_check_marks [.tup (MK ms)] = _
  unfold denOf
  rw [show rho0 1 [D.tup (MK ms)] = [some (.tup (MK ms))] from rfl, e1]
  rfl
theorem check_no {x d : D} (fx : x.frz = true) (h : d_marks_fault [x] = some (.ok d, [])) (fd : d.frz = true) (hd : d.isNon = false) : d_check_marks [x] = some (.exc "Nothing" [] [], []) := by
  have k1 : mDef 1 d_marks_fault (mCons (mVar 0) mNil) [some x] = some (.ok d) := mDef_ok (l := [x]) rfl (frzs1 fx) rfl fd h
  refine den_exc (ρ := [some x]) ?_ rfl
  show b_check_marks [some x] = _
  unfold b_check_marks
  rw [sIf_t (b := true) (mT_ok (m2_ok (y := .non) k1 rfl (by show some (D.bl (!d.isNon)) = _; rw [hd]; rfl))), if_pos rfl]
  rfl
theorem told_no {x : D} (fx : x.frz = true) (h : d_check_marks [x] = some (.exc "Nothing" [] [], [])) : d_row_told [x] = some (.exc "Nothing" [] [], []) := by
  refine den_exc (ρ := [some x, none, none, none, none, none]) ?_ rfl
  show b_row_told [some x, none, none, none, none, none] = _
  have k : mDef 1 d_check_marks (mCons (mVar 0) mNil) [some x, none, none, none, none, none] = some (.exc "Nothing" [] []) := mDef_exc (l := [x]) rfl (frzs1 fx) rfl h
  unfold b_row_told sSeq sExpr
  rw [eP_exc k]
  rfl
theorem deepest_no {x : D} (fx : x.frz = true) (h : d_check_marks [x] = some (.exc "Nothing" [] [], [])) : d_deepest_open [x] = some (.exc "Nothing" [] [], []) := by
  refine den_exc (ρ := [some x, none, none, none, none]) ?_ rfl
  show b_deepest_open [some x, none, none, none, none] = _
  have k : mDef 1 d_check_marks (mCons (mVar 0) mNil) [some x, none, none, none, none] = some (.exc "Nothing" [] []) := mDef_exc (l := [x]) rfl (frzs1 fx) rfl h
  unfold b_deepest_open sSeq sExpr
  rw [eP_exc k]
  rfl
/-! ### how many are open -/
theorem mIf_b {mc : Rho → Option (O Bool)} {ma mb : Rho → Option (O D)} {ρ : Rho} {b : Bool} (h : mc ρ = some (.ok b)) : mIf mc ma mb ρ = if b = true then ma ρ else mb ρ := by
  unfold mIf
  rw [h]
  rfl
def one (b : Bool) : Int := if b = true then 1 else -1
theorem one_ok {ρ : Rho} {b : Bool} (h : ρ[3]? = some (some (.str (wrd b)))) : mIf (mT (m2 gEq (mVar 3) (mC (.str "in")))) (mC (.int 1)) (m1 gNeg (mC (.int 1))) ρ = some (.ok (.int (one b))) := by
  have v : mVar 3 ρ = some (.ok (.str (wrd b))) := by unfold mVar; rw [h]; rfl
  rw [mIf_b (mT_ok (m2_ok v rfl (gEq_of (w_in b))))]
  cases b <;> rfl
def bodyO : MS := sSeq (sAug (fII fun i j => .int (i + j)) 1 (eP (mIf (mT (m2 gEq (mVar 3) (mC (.str "in")))) (mC (.int 1)) (m1 gNeg (mC (.int 1)))))) (sSet 2 (eP (mCall fMax2 (mCons (mVar 2) (mCons (mVar 1) mNil)))))
def bodyL : MS := sSeq (sSet 2 (eP (m2 gAdd (mVar 2) (mIf (mT (m2 gEq (mVar 3) (mC (.str "in")))) (mC (.int 1)) (m1 gNeg (mC (.int 1))))))) (sSet 1 (eP (mCall fMax2 (mCons (mVar 1) (mCons (mVar 2) mNil)))))
def tgt2 : MT := tTp 2 (tsCons (tN 3) (tsCons (tN 4) tsNil))
theorem loopO_ok : ∀ (ms : List Mk) (x0 z3 z4 : Option D) (here most : Int), ∃ y3 y4, loopF tgt2 bodyO (MK ms) [x0, some (.int here), some (.int most), z3, z4] = some (.ok .nx, [x0, some (.int (deep (here, most) ms).1), some (.int (deep (here, most) ms).2), y3, y4])
  | [], x0, z3, z4, here, most => ⟨z3, z4, rfl⟩
  | (b, n) :: ms, x0, z3, z4, here, most => by
    obtain ⟨y3, y4, ih⟩ := loopO_ok ms x0 (some (.str (wrd b))) (some (.str n)) (here + one b) (if here + one b > most then here + one b else most)
    refine ⟨y3, y4, ?_⟩
    have eb : bodyO [x0, some (.int here), some (.int most), some (.str (wrd b)), some (.str n)] = some (.ok .nx, [x0, some (.int (here + one b)), some (.int (if here + one b > most then here + one b else most)), some (.str (wrd b)), some (.str n)]) := by
      unfold bodyO
      have k1 : sAug (fII fun i j => .int (i + j)) 1 (eP (mIf (mT (m2 gEq (mVar 3) (mC (.str "in")))) (mC (.int 1)) (m1 gNeg (mC (.int 1))))) [x0, some (.int here), some (.int most), some (.str (wrd b)), some (.str n)] = some (.ok .nx, [x0, some (.int (here + one b)), some (.int most), some (.str (wrd b)), some (.str n)]) := by
        have k0 : eP (mIf (mT (m2 gEq (mVar 3) (mC (.str "in")))) (mC (.int 1)) (m1 gNeg (mC (.int 1)))) [x0, some (.int here), some (.int most), some (.str (wrd b)), some (.str n)] = some (.ok (.int (one b)), [x0, some (.int here), some (.int most), some (.str (wrd b)), some (.str n)]) := eP_ok (one_ok rfl) rfl
        unfold sAug
        simp only [List.getElem?_cons_succ, List.getElem?_cons_zero, Option.join, k0, bE_ok]
        rfl
      rw [sSeq_nx k1]
      exact sSet_eP (mCall_ok (l := [.int most, .int (here + one b)]) rfl rfl) rfl
    have step : loopF tgt2 bodyO (MK ((b, n) :: ms)) [x0, some (.int here), some (.int most), z3, z4] = match bodyO [x0, some (.int here), some (.int most), some (.str (wrd b)), some (.str n)] with
        | some (.ok .nx, ρ2) => loopF tgt2 bodyO (MK ms) ρ2
        | some (.ok .ct, ρ2) => loopF tgt2 bodyO (MK ms) ρ2
        | some (.ok .bk, ρ2) => some (.ok .nx, ρ2)
        | y => y := rfl
    rw [step, eb]
    exact ih
theorem loopL_ok : ∀ (ms : List Mk) (x0 z3 z4 : Option D) (here most : Int), ∃ y3 y4, loopF tgt2 bodyL (MK ms) [x0, some (.int most), some (.int here), z3, z4] = some (.ok .nx, [x0, some (.int (deep (here, most) ms).2), some (.int (deep (here, most) ms).1), y3, y4])
  | [], x0, z3, z4, here, most => ⟨z3, z4, rfl⟩
  | (b, n) :: ms, x0, z3, z4, here, most => by
    obtain ⟨y3, y4, ih⟩ := loopL_ok ms x0 (some (.str (wrd b))) (some (.str n)) (here + one b) (if here + one b > most then here + one b else most)
    refine ⟨y3, y4, ?_⟩
    have eb : bodyL [x0, some (.int most), some (.int here), some (.str (wrd b)), some (.str n)] = some (.ok .nx, [x0, some (.int (if here + one b > most then here + one b else most)), some (.int (here + one b)), some (.str (wrd b)), some (.str n)]) := by
      unfold bodyL
      rw [sSeq_nx (sSet_eP (d := .int (here + one b)) (m2_ok (x := .int here) (y := .int (one b)) rfl (one_ok rfl) rfl) rfl)]
      exact sSet_eP (mCall_ok (l := [.int most, .int (here + one b)]) rfl rfl) rfl
    have step : loopF tgt2 bodyL (MK ((b, n) :: ms)) [x0, some (.int most), some (.int here), z3, z4] = match bodyL [x0, some (.int most), some (.int here), some (.str (wrd b)), some (.str n)] with
        | some (.ok .nx, ρ2) => loopF tgt2 bodyL (MK ms) ρ2
        | some (.ok .ct, ρ2) => loopF tgt2 bodyL (MK ms) ρ2
        | some (.ok .bk, ρ2) => some (.ok .nx, ρ2)
        | y => y := rfl
    rw [step, eb]
    exact ih
theorem open_is : b_deepest_open = sSeq (sExpr (eP (mDef 1 d_check_marks (mCons (mVar 0) mNil)))) (sSeq (sAsg (eP (mTup (mCons (mC (.int 0)) (mCons (mC (.int 0)) mNil)))) (tTp 2 (tsCons (tN 1) (tsCons (tN 2) tsNil)))) (sSeq (sFor (wE (eP (mVar 0))) tgt2 bodyO) (sRet (eP (mVar 2))))) := rfl
theorem law_open_is : b_law_deepest = sSeq (sAsg (eP (mTup (mCons (mC (.int 0)) (mCons (mC (.int 0)) mNil)))) (tTp 2 (tsCons (tN 1) (tsCons (tN 2) tsNil)))) (sSeq (sFor (wE (eP (mVar 0))) tgt2 bodyL) (sRet (eP (mVar 1)))) := rfl
theorem walk_mk {ms : List Mk} {ρ : Rho} (h : Nm ms) (h0 : ρ[0]? = some (some (.tup (MK ms)))) : wE (eP (mVar 0)) ρ = some (.ok (MK ms), ρ) := by
  have v : mVar 0 ρ = some (.ok (.tup (MK ms))) := by unfold mVar; rw [h0]; rfl
  have f : (D.tup (MK ms)).frz = true := (mk_elts h).fz
  refine wE_ok (eP_ok v f) ?_
  rw [D.fz_of f]
  rfl
theorem open_ok {ms : List Mk} (h : Nm ms) (hl : ms.length < 16777216) (e : run [] ms 0 = .inr []) : d_deepest_open [.tup (MK ms)] = some (.ok (.int (deep (0, 0) ms).2), []) := by
  obtain ⟨y3, y4, el⟩ := loopO_ok ms (some (.tup (MK ms))) none none 0 0
  refine den_ret (ρ := [some (.tup (MK ms)), some (.int (deep (0, 0) ms).1), some (.int (deep (0, 0) ms).2), y3, y4]) ?_ rfl
  show b_deepest_open [some (.tup (MK ms)), none, none, none, none] = _
  rw [open_is]
  have k : mDef 1 d_check_marks (mCons (mVar 0) mNil) [some (.tup (MK ms)), none, none, none, none] = some (.ok .non) := mDef_ok (l := [.tup (MK ms)]) rfl (frzs1 (x := .tup (MK ms)) (mk_elts h).fz) rfl rfl (check_ok h hl e)
  rw [sSeq_nx (sExpr_ok (eP_ok k rfl)), sSeq_nx (ρ1 := [some (.tup (MK ms)), some (.int 0), some (.int 0), none, none]) rfl]
  rw [sSeq_nx ((sFor_ok (walk_mk h rfl)).trans el)]
  rfl
theorem law_open_ok {ms : List Mk} (h : Nm ms) : d_law_deepest [.tup (MK ms)] = some (.ok (.int (deep (0, 0) ms).2), []) := by
  obtain ⟨y3, y4, el⟩ := loopL_ok ms (some (.tup (MK ms))) none none 0 0
  refine den_ret (ρ := [some (.tup (MK ms)), some (.int (deep (0, 0) ms).2), some (.int (deep (0, 0) ms).1), y3, y4]) ?_ rfl
  show b_law_deepest [some (.tup (MK ms)), none, none, none, none] = _
  rw [law_open_is]
  rw [sSeq_nx (ρ1 := [some (.tup (MK ms)), some (.int 0), some (.int 0), none, none]) rfl]
  rw [sSeq_nx ((sFor_ok (walk_mk h rfl)).trans el)]
  rfl
/-! ### the row that marks tell -/
def pairD (p : Str × Int) : D := .lst true [.str p.1, .int p.2]
def nodeD (p : Str × Int) : D := .tup [.str p.1, .int p.2]
def fD (l : List (Str × Int)) : List D := l.map pairD
def oD (st : List Nat) : List D := st.reverse.map fun (j : Nat) => D.int j
theorem oD_cons {j : Nat} {st : List Nat} : oD (j :: st) = oD st ++ [.int (j : Nat)] := by
  unfold oD
  rw [List.reverse_cons, List.map_append]
  rfl
theorem oD_emp {st : List Nat} : (oD st).isEmpty = st.isEmpty := by
  cases st with
  | nil => rfl
  | cons n st => rw [oD_cons]; cases oD st <;> rfl
theorem int_py {i : Int} : pyOk 3 (.int i) := ⟨.int i, rfl, by simp only [PyData.canLay0], by simp only [PyData.depth]; omega⟩
theorem oD_py {st : List Nat} : ∀ x ∈ oD st, pyOk 3 x := fun x hx => by
  obtain ⟨n, hn, rfl⟩ := List.mem_map.mp hx
  exact int_py
def bodyT : MS := sIf (etP (mT (m2 gEq (mVar 3) (mC (.str "out"))))) (sExpr (ePop 2)) (sSeq (sIf (etP (mT (m2 gNe (mVar 2) (mLst mNil)))) (sAugIx2 (fII fun i j => .int (i + j)) 1 (m2 gIx (mVar 2) (m1 gNeg (mC (.int 1)))) (mC (.int 1)) (mC (.int 1))) sNx) (sSeq (sExpr (eApp 2 (eP (mCall fLen (mCons (mVar 1) mNil))))) (sExpr (eApp 1 (eLst (eaP (mCons (mVar 4) (mCons (mC (.int 0)) mNil))))))))
theorem told_is : b_row_told = sSeq (sExpr (eP (mDef 1 d_check_marks (mCons (mVar 0) mNil)))) (sSeq (sPar 1 2 (eCons (eLst (eaP mNil)) (eCons (eLst (eaP mNil)) eNil))) (sSeq (sFor (wE (eP (mVar 0))) tgt2 bodyT) (sRet (eCall fTup (eCons (eLc (wE (eName 1)) (tLs 2 (tsCons (tN 4) (tsCons (tN 5) tsNil))) eYes (eP (mTup (mCons (mVar 4) (mCons (mVar 5) mNil)))) [4, 5]) eNil))))) := rfl
theorem sAugIx2_ok {f : D → D → Option D} {i : Nat} {mj mi m : Rho → Option (O D)} {ρ : Rho} {k1 k2 : Int} {y x z : D} {l l2 : List D} {j1 j2 : Nat} (a : mj ρ = some (.ok (.int k1))) (b : mi ρ = some (.ok (.int k2))) (c : m ρ = some (.ok y)) (o : ownL ρ i = some l) (i1 : ixN l.length k1 = some j1) (g1 : l[j1]? = some (.lst true l2)) (i2 : ixN l2.length k2 = some j2) (g2 : l2[j2]? = some x) (fx : x.frz = true) (fz : f x y = some z) (zf : z.frz = true) :
    sAugIx2 f i mj mi m ρ = some (.ok .nx, ρ.set i (some (.lst true (l.set j1 (.lst true (l2.set j2 z)))))) := by
  unfold sAugIx2
  simp only [a, b, c, o, i1, g1, i2, g2, fx, fz, zf, if_true]
theorem fD_set {l : List (Str × Int)} {j : Nat} {p : Str × Int} : fD (l.set j p) = (fD l).set j (pairD p) := List.map_set ..
theorem bumpD {l : List (Str × Int)} {j : Nat} {st : List Nat} {x0 z3 z4 z5 : Option D} (h : j < l.length) : sAugIx2 (fII fun i j => .int (i + j)) 1 (m2 gIx (mVar 2) (m1 gNeg (mC (.int 1)))) (mC (.int 1)) (mC (.int 1)) [x0, some (.lst true (fD l)), some (.lst true (oD (j :: st))), z3, z4, z5] = some (.ok .nx, [x0, some (.lst true (fD (bump l (j :: st) 1))), some (.lst true (oD (j :: st))), z3, z4, z5]) := by
  have k1 : m2 gIx (mVar 2) (m1 gNeg (mC (.int 1))) [x0, some (.lst true (fD l)), some (.lst true (oD (j :: st))), z3, z4, z5] = some (.ok (.int (j : Nat))) := by
    refine m2_ok (x := .lst true (oD (j :: st))) (y := .int (-1)) rfl rfl ?_
    show atI (oD (j :: st)) (-1) = _
    rw [oD_cons]
    exact atI_last
  have i1 : ixN (fD l).length (j : Nat) = some j := by
    unfold ixN fD
    rw [List.length_map, if_pos (by omega), if_pos (by omega)]
    rfl
  have g1 : (fD l)[j]? = some (.lst true [.str l[j].1, .int l[j].2]) := by
    unfold fD
    rw [List.getElem?_map, List.getElem?_eq_getElem h]
    rfl
  have b1 : bump l (j :: st) 1 = l.set j (l[j].1, l[j].2 + 1) := by
    unfold bump
    simp only [List.getElem?_eq_getElem h]
  have := sAugIx2_ok (f := fII fun i j => .int (i + j)) (i := 1) (mi := mC (.int 1)) (m := mC (.int 1)) (ρ := [x0, some (.lst true (fD l)), some (.lst true (oD (j :: st))), z3, z4, z5]) (l := fD l) (y := .int 1) (z := .int (l[j].2 + 1)) (k2 := 1) (j2 := 1) k1 rfl rfl rfl i1 g1 rfl rfl rfl rfl rfl
  rw [this, b1, fD_set]
  rfl
theorem loopT_ok : ∀ (ms : List Mk) (ns : List Str) (k : Nat) (l : List (Str × Int)) (st : List Nat) (x0 z3 z4 z5 : Option D), Nm ms → ns.length = st.length → Within l st → (∃ st', run ns ms k = .inr st') → l.length + ms.length < 16777216 → st.length + ms.length < 16777216 →
    ∃ y3 y4, loopF tgt2 bodyT (MK ms) [x0, some (.lst true (fD l)), some (.lst true (oD st)), z3, z4, z5] = some (.ok .nx, [x0, some (.lst true (fD (tell l st ms).1)), some (.lst true (oD (tell l st ms).2)), y3, y4, z5])
  | [], ns, k, l, st, x0, z3, z4, z5, _, _, _, _, _, _ => ⟨z3, z4, rfl⟩
  | (b, n) :: ms, ns, k, l, st, x0, z3, z4, z5, hm, hn, hw, ⟨st', hr⟩, hl, hs => by
    have hm' : Nm ms := fun m h => hm m (List.mem_cons_of_mem _ h)
    have step : loopF tgt2 bodyT (MK ((b, n) :: ms)) [x0, some (.lst true (fD l)), some (.lst true (oD st)), z3, z4, z5] = match bodyT [x0, some (.lst true (fD l)), some (.lst true (oD st)), some (.str (wrd b)), some (.str n), z5] with
        | some (.ok .nx, ρ2) => loopF tgt2 bodyT (MK ms) ρ2
        | some (.ok .ct, ρ2) => loopF tgt2 bodyT (MK ms) ρ2
        | some (.ok .bk, ρ2) => some (.ok .nx, ρ2)
        | y => y := rfl
    have c1 : mT (m2 gEq (mVar 3) (mC (.str "out"))) [x0, some (.lst true (fD l)), some (.lst true (oD st)), some (.str (wrd b)), some (.str n), z5] = some (.ok (!b)) := mT_ok (m2_ok rfl rfl (gEq_of (w_out b)))
    rw [step]
    cases b with
    | false =>
      cases ns with
      | nil => simp only [run] at hr; cases hr
      | cons t ns =>
        cases st with
        | nil => cases hn
        | cons j st =>
          simp only [run] at hr
          have q : t = n := by
            by_cases q : t = n
            · exact q
            · rw [if_neg q] at hr; cases hr
          rw [if_pos q] at hr
          have eb : bodyT [x0, some (.lst true (fD l)), some (.lst true (oD (j :: st))), some (.str (wrd false)), some (.str n), z5] = some (.ok .nx, [x0, some (.lst true (fD l)), some (.lst true (oD st)), some (.str (wrd false)), some (.str n), z5]) := by
            unfold bodyT
            rw [sIf_t c1, if_pos (show (!false) = true from rfl), oD_cons]
            exact sExpr_ok (pop_last (l := oD st) (x := .int (j : Nat)) rfl)
          rw [eb]
          exact loopT_ok ms ns (k + 1) l st x0 (some (.str (wrd false))) (some (.str n)) z5 hm' (by simpa using hn) (fun i hi => hw i (List.mem_cons_of_mem _ hi)) ⟨st', hr⟩ (by simp only [List.length_cons] at hl; omega) (by simp only [List.length_cons] at hs; omega)
    | true =>
      simp only [run] at hr
      have hbl := bump_len l st 1
      have c2 : mT (m2 gNe (mVar 2) (mLst mNil)) [x0, some (.lst true (fD l)), some (.lst true (oD st)), some (.str (wrd true)), some (.str n), z5] = some (.ok (!st.isEmpty)) := by
        have e := eqD_lst_nil (o := true) (o2 := false) (n := 3) (oD_py (st := st)) (by decide)
        rw [oD_emp] at e
        exact mT_ok (m2_ok (x := .lst true (oD st)) (y := .lst false []) rfl rfl (gNe_of e))
      have s1 : sIf (etP (mT (m2 gNe (mVar 2) (mLst mNil)))) (sAugIx2 (fII fun i j => .int (i + j)) 1 (m2 gIx (mVar 2) (m1 gNeg (mC (.int 1)))) (mC (.int 1)) (mC (.int 1))) sNx [x0, some (.lst true (fD l)), some (.lst true (oD st)), some (.str (wrd true)), some (.str n), z5] = some (.ok .nx, [x0, some (.lst true (fD (bump l st 1))), some (.lst true (oD st)), some (.str (wrd true)), some (.str n), z5]) := by
        rw [sIf_t c2]
        cases st with
        | nil => rfl
        | cons j st => exact bumpD (hw j (List.mem_cons_self ..))
      have eb : bodyT [x0, some (.lst true (fD l)), some (.lst true (oD st)), some (.str (wrd true)), some (.str n), z5] = some (.ok .nx, [x0, some (.lst true (fD (bump l st 1 ++ [(n, 0)]))), some (.lst true (oD (l.length :: st))), some (.str (wrd true)), some (.str n), z5]) := by
        unfold bodyT
        rw [sIf_t c1, if_neg (by decide), sSeq_nx s1]
        have lf : (fD (bump l st 1)).length = l.length := by unfold fD; rw [List.length_map, hbl]
        have lo : (oD st).length < 16777216 := by unfold oD; rw [List.length_map, List.length_reverse]; simp only [List.length_cons] at hs; omega
        have s2 : sExpr (eApp 2 (eP (mCall fLen (mCons (mVar 1) mNil)))) [x0, some (.lst true (fD (bump l st 1))), some (.lst true (oD st)), some (.str (wrd true)), some (.str n), z5] = some (.ok .nx, [x0, some (.lst true (fD (bump l st 1))), some (.lst true (oD (l.length :: st))), some (.str (wrd true)), some (.str n), z5]) := by
          rw [oD_cons]
          refine sExpr_ok (eApp_ok (l := oD st) (l1 := oD st) (d := .int (l.length : Nat)) rfl (eP_ok (mCall_ok (l := [.lst true (fD (bump l st 1))]) rfl ?_) rfl) rfl lo)
          show some (D.int ((fD (bump l st 1)).length : Nat)) = _
          rw [lf]
        rw [sSeq_nx s2]
        have ea : fD (bump l st 1 ++ [(n, 0)]) = fD (bump l st 1) ++ [.lst true [.str n, .int 0]] := by unfold fD; rw [List.map_append]; rfl
        rw [ea]
        exact sExpr_ok (eApp_ok (l := fD (bump l st 1)) (l1 := fD (bump l st 1)) rfl (eLst_ok (l := [.str n, .int 0]) (eaP_ok rfl rfl) (by show 2 ≤ 16777216; decide)) rfl (by rw [lf]; simp only [List.length_cons] at hl; omega))
      rw [eb]
      have w1 : Within (bump l st 1 ++ [(n, 0)]) (l.length :: st) := by
        intro j hj
        rw [List.length_append, hbl]
        rcases List.mem_cons.mp hj with rfl | hj
        · show l.length < l.length + 1; omega
        · have := hw j hj; show j < l.length + 1; omega
      exact loopT_ok ms (n :: ns) (k + 1) (bump l st 1 ++ [(n, 0)]) (l.length :: st) x0 (some (.str (wrd true))) (some (.str n)) z5 hm' (by simp [hn]) w1 ⟨st', hr⟩ (by rw [List.length_append, hbl]; simp only [List.length_cons, List.length_nil] at hl ⊢; omega) (by simp only [List.length_cons] at hs ⊢; omega)
end K11

namespace K11
open PySem PySem.Spec PyProof.Rows L2 OP
/-! ### row_told, to the end -/
def rowD (l : List (Str × Int)) : List D := l.map nodeD
theorem rowD_fz (l : List (Str × Int)) : D.frzs (rowD l) = true := frzs_of fun x hx => by
  obtain ⟨p, _, rfl⟩ := List.mem_map.mp hx
  rfl
theorem fD_fzs (l : List (Str × Int)) : D.fzs (fD l) = l.map fun p => .lst false [.str p.1, .int p.2] := by
  induction l with
  | nil => rfl
  | cons p l ih =>
    show (pairD p).fz :: D.fzs (fD l) = _
    rw [ih]
    rfl
theorem lcT_ok {r : List (Option D)} : ∀ (l : List (Str × Int)) (a b c d : Option D), lcE (tLs 2 (tsCons (tN 4) (tsCons (tN 5) tsNil))) eYes (eP (mTup (mCons (mVar 4) (mCons (mVar 5) mNil)))) [4, 5] (l.map fun p => .lst false [.str p.1, .int p.2]) [a, b, c, d, none, none] = some (rowD l, [a, b, c, d, none, none])
  | [], a, b, c, d => rfl
  | p :: l, a, b, c, d => by
    have ih := lcT_ok (r := r) l a b c d
    show (lcE (tLs 2 (tsCons (tN 4) (tsCons (tN 5) tsNil))) eYes (eP (mTup (mCons (mVar 4) (mCons (mVar 5) mNil)))) [4, 5] (l.map fun (p : Str × Int) => D.lst false [.str p.1, .int p.2]) [a, b, c, d, none, none]).map (fun (r : List D × Rho) => (nodeD p :: r.1, r.2)) = _
    rw [ih]
    rfl
theorem told_end {l : List (Str × Int)} {a c y3 y4 y5 : Option D} (hl : l.length ≤ 16777216) : ∃ ρ', eCall fTup (eCons (eLc (wE (eName 1)) (tLs 2 (tsCons (tN 4) (tsCons (tN 5) tsNil))) eYes (eP (mTup (mCons (mVar 4) (mCons (mVar 5) mNil)))) [4, 5]) eNil) [a, some (.lst true (fD l)), c, y3, y4, y5] = some (.ok (.tup (rowD l)), ρ') := by
  have en : wE (eName 1) [a, some (.lst true (fD l)), c, y3, y4, y5] = some (.ok (l.map fun p => .lst false [.str p.1, .int p.2]), [a, some (.lst false (D.fzs (fD l))), c, y3, y4, y5]) := by
    have e1 : eName 1 [a, some (.lst true (fD l)), c, y3, y4, y5] = some (.ok (.lst false (D.fzs (fD l))), [a, some (.lst false (D.fzs (fD l))), c, y3, y4, y5]) := rfl
    refine wE_ok e1 ?_
    have f : (D.lst false (D.fzs (fD l))).frz = true := frz_lst (D.frzs_fzs _)
    rw [D.fz_of f, ← fD_fzs]
    rfl
  refine ⟨[a, some (.lst false (D.fzs (fD l))), c, y3, none, none], ?_⟩
  have k : eLc (wE (eName 1)) (tLs 2 (tsCons (tN 4) (tsCons (tN 5) tsNil))) eYes (eP (mTup (mCons (mVar 4) (mCons (mVar 5) mNil)))) [4, 5] [a, some (.lst true (fD l)), c, y3, y4, y5] = some (.ok (.lst true (rowD l)), [a, some (.lst false (D.fzs (fD l))), c, y3, none, none]) := by
    unfold eLc
    rw [en, bE_ok]
    show (match lcE _ _ _ _ _ [a, some (.lst false (D.fzs (fD l))), c, y3, none, none] with
      | some (out, ρ2) => if out.length ≤ 16777216 then some (O.ok (D.lst true out), ρ2) else none
      | none => none) = _
    rw [lcT_ok (r := [])]
    have : (rowD l).length ≤ 16777216 := by unfold rowD; rw [List.length_map]; exact hl
    show (if (rowD l).length ≤ 16777216 then _ else none) = _
    rw [if_pos this]
  unfold eCall
  rw [eCons_ok k eNil_ok, bE_ok]
  have f1 : D.fzs [D.lst true (rowD l)] = [.lst false (rowD l)] := by
    show [D.lst false (D.fzs (rowD l))] = _
    rw [D.fzs_of (rowD_fz l)]
  rw [f1]
  have f2 : fTup [D.lst false (rowD l)] = some (.tup (rowD l)) := by
    show (if D.frzs (rowD l) = true then some (D.tup (rowD l)) else none) = _
    rw [rowD_fz]; rfl
  rw [f2]
  show (if D.frzs (rowD l) = true then _ else none) = _
  rw [rowD_fz]
  rfl
theorem told_ok {ms : List Mk} (h : Nm ms) (hl : ms.length < 16777216) (e : run [] ms 0 = .inr []) : d_row_told [.tup (MK ms)] = some (.ok (.tup (rowD (tell [] [] ms).1)), []) := by
  obtain ⟨y3, y4, el⟩ := loopT_ok ms [] 0 [] [] (some (.tup (MK ms))) none none none h rfl (fun j hj => by cases hj) ⟨_, e⟩ (by simpa using hl) (by simpa using hl)
  have hlen : (tell [] [] ms).1.length ≤ 16777216 := by
    obtain ⟨f, ef⟩ := told e
    rw [ef, tell_all]
    show f.flat.length ≤ _
    have := f.marks_len
    rw [← ef] at this
    rw [f.flat_len]
    omega
  obtain ⟨ρ', ee⟩ := told_end (l := (tell [] [] ms).1) (a := some (.tup (MK ms))) (c := some (.lst true (oD (tell [] [] ms).2))) (y3 := y3) (y4 := y4) (y5 := none) hlen
  refine den_ret (ρ := ρ') ?_ rfl
  show b_row_told [some (.tup (MK ms)), none, none, none, none, none] = _
  rw [told_is]
  have k : mDef 1 d_check_marks (mCons (mVar 0) mNil) [some (.tup (MK ms)), none, none, none, none, none] = some (.ok .non) := mDef_ok (l := [.tup (MK ms)]) rfl (frzs1 (x := .tup (MK ms)) (mk_elts h).fz) rfl rfl (check_ok h hl e)
  rw [sSeq_nx (sExpr_ok (eP_ok k rfl)), sSeq_nx (ρ1 := [some (.tup (MK ms)), some (.lst true (fD [])), some (.lst true (oD [])), none, none, none]) rfl]
  rw [sSeq_nx ((sFor_ok (walk_mk h rfl)).trans el)]
  exact sRet_ok ee
/-! ### the marks of a row -/
def kD (st : List (Str × Int)) : List D := fD st.reverse
theorem kD_cons {p : Str × Int} {st : List (Str × Int)} : kD (p :: st) = kD st ++ [pairD p] := by
  unfold kD fD
  rw [List.reverse_cons, List.map_append]
  rfl
theorem kD_len {st : List (Str × Int)} : (kD st).length = st.length := by unfold kD fD; rw [List.length_map, List.length_reverse]
theorem kD_emp {st : List (Str × Int)} : (kD st).isEmpty = st.isEmpty := by
  cases st with
  | nil => rfl
  | cons n st => rw [kD_cons]; cases kD st <;> rfl
theorem pair_py {p : Str × Int} (h : p.1 ∈ NMS) : pyOk 5 (pairD p) := pyOk_lst (n := 4) fun x hx => by
  rcases List.mem_cons.mp hx with rfl | hx
  · exact pyOk_up (nm_py h) (by decide)
  · rw [List.mem_singleton.mp hx]; exact pyOk_up int_py (by decide)
theorem kD_py {st : List (Str × Int)} (h : ∀ p ∈ st, p.1 ∈ NMS) : ∀ x ∈ kD st, pyOk 5 x := fun x hx => by
  obtain ⟨p, hp, rfl⟩ := List.mem_map.mp hx
  exact pair_py (h p (List.mem_reverse.mp hp))
def condW : MET := etP (mAndT (mT (m2 gNe (mVar 2) (mLst mNil))) (mT (m2 gEq (m2 gIx (m2 gIx (mVar 2) (m1 gNeg (mC (.int 1)))) (mC (.int 1))) (mC (.int 0)))))
def bodyW : MS := sSeq (sExpr (eApp 1 (eTup (eCons (eP (mC (.str "out"))) (eCons (e2 gIx (ePop 2) (eP (mC (.int 0)))) eNil))))) (sIf (etP (mT (m2 gNe (mVar 2) (mLst mNil)))) (sAugIx2 (fII fun i j => .int (i - j)) 2 (m1 gNeg (mC (.int 1))) (mC (.int 1)) (mC (.int 1))) sNx)
def bodyR : MS := sSeq (sExpr (eApp 1 (eP (mTup (mCons (mC (.str "in")) (mCons (mVar 3) mNil)))))) (sSeq (sExpr (eApp 2 (eLst (eaP (mCons (mVar 3) (mCons (mVar 4) mNil)))))) (loopW condW bodyW FUEL))
theorem marks_is : b_marks_of = sSeq (sPar 1 2 (eCons (eLst (eaP mNil)) (eCons (eLst (eaP mNil)) eNil))) (sSeq (sFor (wE (eP (mVar 0))) tgt2 bodyR) (sRet (eP (mCall fTup (mCons (mVar 1) mNil))))) := rfl
theorem ne_kD {st : List (Str × Int)} {x0 x1 z3 z4 : Option D} (hs : ∀ p ∈ st, p.1 ∈ NMS) : mT (m2 gNe (mVar 2) (mLst mNil)) [x0, x1, some (.lst true (kD st)), z3, z4] = some (.ok (!st.isEmpty)) := by
  have e := eqD_lst_nil (o := true) (o2 := false) (n := 5) (kD_py hs) (by decide)
  rw [kD_emp] at e
  exact mT_ok (m2_ok (x := .lst true (kD st)) (y := .lst false []) rfl rfl (gNe_of e))
theorem cond_nil {x0 x1 z3 z4 : Option D} : condW [x0, x1, some (.lst true (kD [])), z3, z4] = some (.ok false, [x0, x1, some (.lst true (kD [])), z3, z4]) := by
  have e := ne_kD (st := []) (x0 := x0) (x1 := x1) (z3 := z3) (z4 := z4) fun p hp => by cases hp
  exact etP_ok (mAndT_f e)
theorem cond_cons {n : Str} {c : Int} {st : List (Str × Int)} {x0 x1 z3 z4 : Option D} (hs : ∀ p ∈ (n, c) :: st, p.1 ∈ NMS) : condW [x0, x1, some (.lst true (kD ((n, c) :: st))), z3, z4] = some (.ok (decide (c = 0)), [x0, x1, some (.lst true (kD ((n, c) :: st))), z3, z4]) := by
  have e := ne_kD (x0 := x0) (x1 := x1) (z3 := z3) (z4 := z4) hs
  refine etP_ok ((mAndT_t e).trans (mT_ok (m2_ok (x := .int c) (y := .int 0) (m2_ok (x := pairD (n, c)) (y := .int 1) (m2_ok (x := .lst true (kD ((n, c) :: st))) (y := .int (-1)) rfl rfl ?_) rfl rfl) rfl gEq_int)))
  show atI (kD ((n, c) :: st)) (-1) = _
  rw [kD_cons]
  exact atI_last
theorem body_out {n : Str} {st : List (Str × Int)} {ms : List D} {x0 z3 z4 : Option D} (hl : ms.length < 16777216) : sExpr (eApp 1 (eTup (eCons (eP (mC (.str "out"))) (eCons (e2 gIx (ePop 2) (eP (mC (.int 0)))) eNil)))) [x0, some (.lst true ms), some (.lst true (kD ((n, 0) :: st))), z3, z4] = some (.ok .nx, [x0, some (.lst true (ms ++ [mk (false, n)])), some (.lst true (kD st)), z3, z4]) := by
  have kp : ePop 2 [x0, some (.lst true ms), some (.lst true (kD ((n, 0) :: st))), z3, z4] = some (.ok (pairD (n, 0)), [x0, some (.lst true ms), some (.lst true (kD st)), z3, z4]) := by
    rw [kD_cons]
    exact pop_last (l := kD st) rfl
  have k2 : e2 gIx (ePop 2) (eP (mC (.int 0))) [x0, some (.lst true ms), some (.lst true (kD ((n, 0) :: st))), z3, z4] = some (.ok (.str n), [x0, some (.lst true ms), some (.lst true (kD st)), z3, z4]) := e2_ok (y := .int 0) (ρ2 := [x0, some (.lst true ms), some (.lst true (kD st)), z3, z4]) kp rfl rfl rfl
  have k3 : eTup (eCons (eP (mC (.str "out"))) (eCons (e2 gIx (ePop 2) (eP (mC (.int 0)))) eNil)) [x0, some (.lst true ms), some (.lst true (kD ((n, 0) :: st))), z3, z4] = some (.ok (mk (false, n)), [x0, some (.lst true ms), some (.lst true (kD st)), z3, z4]) := by
    refine eTup_ok (l := [.str "out", .str n]) ?_ rfl (by show 2 ≤ 16777216; decide)
    refine eCons_ok (ρ1 := [x0, some (.lst true ms), some (.lst true (kD ((n, 0) :: st))), z3, z4]) rfl ?_
    exact eCons_ok k2 rfl
  exact sExpr_ok (eApp_ok (l := ms) (l1 := ms) rfl k3 rfl hl)
theorem body_dec {m : Str} {d : Int} {st : List (Str × Int)} {x0 x1 z3 z4 : Option D} : sAugIx2 (fII fun i j => .int (i - j)) 2 (m1 gNeg (mC (.int 1))) (mC (.int 1)) (mC (.int 1)) [x0, x1, some (.lst true (kD ((m, d) :: st))), z3, z4] = some (.ok .nx, [x0, x1, some (.lst true (kD ((m, d - 1) :: st))), z3, z4]) := by
  have g1 : (kD ((m, d) :: st))[(kD st).length]? = some (.lst true [.str m, .int d]) := by
    rw [kD_cons, List.getElem?_append_right (Nat.le_refl _), Nat.sub_self]
    rfl
  have i1 : ixN (kD ((m, d) :: st)).length (-1) = some (kD st).length := by rw [kD_cons]; exact ixN_last
  have := sAugIx2_ok (f := fII fun i j => .int (i - j)) (i := 2) (mj := m1 gNeg (mC (.int 1))) (mi := mC (.int 1)) (m := mC (.int 1)) (ρ := [x0, x1, some (.lst true (kD ((m, d) :: st))), z3, z4]) (l := kD ((m, d) :: st)) (y := .int 1) (x := .int d) (z := .int (d - 1)) (k1 := -1) (k2 := 1) (j2 := 1) rfl rfl rfl rfl i1 g1 rfl rfl rfl rfl rfl
  rw [this]
  have : (kD ((m, d) :: st)).set (kD st).length (.lst true ([D.str m, .int d].set 1 (.int (d - 1)))) = kD ((m, d - 1) :: st) := by
    rw [kD_cons, kD_cons, List.set_append_right _ _ (Nat.le_refl _), Nat.sub_self]
    rfl
  rw [this]
  rfl
theorem loopW_ok : ∀ (N : Nat) (st : List (Str × Int)) (ms : List Mk) (k : Nat) (x0 z3 z4 : Option D), st.length ≤ N → N < k → (∀ p ∈ st, p.1 ∈ NMS) → ms.length + st.length < 16777216 →
    loopW condW bodyW k [x0, some (.lst true (MK ms)), some (.lst true (kD st)), z3, z4] = some (.ok .nx, [x0, some (.lst true (MK (ms ++ (close st).1))), some (.lst true (kD (close st).2)), z3, z4]) ∧ (∀ p ∈ (close st).2, p.1 ∈ NMS) ∧ (close st).1.length + (close st).2.length = st.length
  | N, [], ms, k, x0, z3, z4, hN, hk, hs, hl => by
    obtain ⟨k, rfl⟩ : ∃ j, k = j + 1 := ⟨k - 1, by omega⟩
    refine ⟨?_, fun p hp => (by rw [close_nil] at hp; cases hp), by rw [close_nil]; rfl⟩
    unfold loopW
    rw [cond_nil, bE_ok, if_neg (by decide), close_nil, List.append_nil]
  | 0, (n, c) :: st, ms, k, x0, z3, z4, hN, hk, hs, hl => by simp at hN
  | N + 1, (n, c) :: st, ms, k, x0, z3, z4, hN, hk, hs, hl => by
    obtain ⟨k, rfl⟩ : ∃ j, k = j + 1 := ⟨k - 1, by omega⟩
    unfold loopW
    rw [cond_cons hs, bE_ok]
    by_cases hc : c = 0
    · subst hc
      rw [if_pos (by decide)]
      have hl1 : (MK ms).length < 16777216 := by rw [List.length_map]; simp only [List.length_cons] at hl; omega
      have b1 := body_out (n := n) (st := st) (ms := MK ms) (x0 := x0) (z3 := z3) (z4 := z4) hl1
      have hs' : ∀ p ∈ st, p.1 ∈ NMS := fun p hp => hs p (List.mem_cons_of_mem _ hp)
      have em : MK ms ++ [mk (false, n)] = MK (ms ++ [(false, n)]) := by rw [MK, MK, List.map_append]; rfl
      rw [em] at b1
      have c2 := ne_kD (st := st) (x0 := x0) (x1 := some (.lst true (MK (ms ++ [(false, n)])))) (z3 := z3) (z4 := z4) hs'
      cases st with
      | nil =>
        have eb : bodyW [x0, some (.lst true (MK ms)), some (.lst true (kD [(n, 0)])), z3, z4] = some (.ok .nx, [x0, some (.lst true (MK (ms ++ [(false, n)]))), some (.lst true (kD [])), z3, z4]) := by
          unfold bodyW
          rw [sSeq_nx b1, sIf_t c2]
          rfl
        rw [eb]
        have ih := loopW_ok N [] (ms ++ [(false, n)]) k x0 z3 z4 (Nat.zero_le _) (by omega) (fun p hp => by cases hp) (by rw [List.length_append]; simp only [List.length_cons, List.length_nil] at hl ⊢; omega)
        rw [close_nil, List.append_nil] at ih
        refine ⟨?_, fun p hp => (by rw [close_last] at hp; cases hp), by rw [close_last]; rfl⟩
        rw [close_last]
        exact ih.1
      | cons q st =>
        obtain ⟨m, d⟩ := q
        have eb : bodyW [x0, some (.lst true (MK ms)), some (.lst true (kD ((n, 0) :: (m, d) :: st))), z3, z4] = some (.ok .nx, [x0, some (.lst true (MK (ms ++ [(false, n)]))), some (.lst true (kD ((m, d - 1) :: st))), z3, z4]) := by
          unfold bodyW
          rw [sSeq_nx b1, sIf_t c2]
          exact body_dec
        rw [eb]
        have hs2 : ∀ p ∈ (m, d - 1) :: st, p.1 ∈ NMS := fun p hp => by
          rcases List.mem_cons.mp hp with rfl | hp
          · exact hs' (m, d) (List.mem_cons_self ..)
          · exact hs' p (List.mem_cons_of_mem _ hp)
        have ih := loopW_ok N ((m, d - 1) :: st) (ms ++ [(false, n)]) k x0 z3 z4 (by simpa using hN) (by omega) hs2 (by rw [List.length_append]; simp only [List.length_cons, List.length_nil] at hl ⊢; omega)
        rw [close_yes]
        obtain ⟨i1, i2, i3⟩ := ih
        refine ⟨?_, i2, by simp only [List.length_cons] at i3 ⊢; omega⟩
        show loopW condW bodyW k _ = _
        rw [i1, List.append_assoc]
        rfl
    · rw [decide_eq_false hc, if_neg (by decide), close_no hc, List.append_nil]
      exact ⟨rfl, hs, by simp⟩
theorem loopR_ok : ∀ (l : List (Str × Int)) (st : List (Str × Int)) (ms : List Mk) (x0 z3 z4 : Option D), (∀ p ∈ l, p.1 ∈ NMS) → (∀ p ∈ st, p.1 ∈ NMS) → ms.length + st.length + 2 * l.length < 16000000 →
    ∃ y3 y4, loopF tgt2 bodyR (rowD l) [x0, some (.lst true (MK ms)), some (.lst true (kD st)), z3, z4] = some (.ok .nx, [x0, some (.lst true (MK (ms ++ (proc st l).1))), some (.lst true (kD (proc st l).2)), y3, y4])
  | [], st, ms, x0, z3, z4, _, _, _ => ⟨z3, z4, by simp only [proc, List.append_nil]; rfl⟩
  | (n, c) :: l, st, ms, x0, z3, z4, hn, hs, hl => by
    have hl' : ms.length + st.length + 2 * l.length + 2 < 16000000 := by simp only [List.length_cons] at hl; omega
    have step : loopF tgt2 bodyR (rowD ((n, c) :: l)) [x0, some (.lst true (MK ms)), some (.lst true (kD st)), z3, z4] = match bodyR [x0, some (.lst true (MK ms)), some (.lst true (kD st)), some (.str n), some (.int c)] with
        | some (.ok .nx, ρ2) => loopF tgt2 bodyR (rowD l) ρ2
        | some (.ok .ct, ρ2) => loopF tgt2 bodyR (rowD l) ρ2
        | some (.ok .bk, ρ2) => some (.ok .nx, ρ2)
        | y => y := rfl
    have hs1 : ∀ p ∈ (n, c) :: st, p.1 ∈ NMS := fun p hp => by
      rcases List.mem_cons.mp hp with rfl | hp
      · exact hn (n, c) (List.mem_cons_self ..)
      · exact hs p hp
    obtain ⟨w1, w2, w3⟩ := loopW_ok ((n, c) :: st).length ((n, c) :: st) (ms ++ [(true, n)]) FUEL x0 (some (.str n)) (some (.int c)) (Nat.le_refl _) (by show _ < 1000000000000; simp only [List.length_cons]; omega) hs1 (by rw [List.length_append]; simp only [List.length_cons, List.length_nil]; omega)
    have eb : bodyR [x0, some (.lst true (MK ms)), some (.lst true (kD st)), some (.str n), some (.int c)] = some (.ok .nx, [x0, some (.lst true (MK (ms ++ [(true, n)] ++ (close ((n, c) :: st)).1))), some (.lst true (kD (close ((n, c) :: st)).2)), some (.str n), some (.int c)]) := by
      unfold bodyR
      have em : MK ms ++ [mk (true, n)] = MK (ms ++ [(true, n)]) := by rw [MK, MK, List.map_append]; rfl
      have s1 : sExpr (eApp 1 (eP (mTup (mCons (mC (.str "in")) (mCons (mVar 3) mNil))))) [x0, some (.lst true (MK ms)), some (.lst true (kD st)), some (.str n), some (.int c)] = some (.ok .nx, [x0, some (.lst true (MK (ms ++ [(true, n)]))), some (.lst true (kD st)), some (.str n), some (.int c)]) := by
        rw [← em]
        exact sExpr_ok (eApp_ok (l := MK ms) (l1 := MK ms) rfl (eP_ok (d := mk (true, n)) (mTup_ok (l := [.str "in", .str n]) rfl rfl (by show 2 ≤ 16777216; decide)) rfl) rfl (by rw [List.length_map]; omega))
      have s2 : sExpr (eApp 2 (eLst (eaP (mCons (mVar 3) (mCons (mVar 4) mNil))))) [x0, some (.lst true (MK (ms ++ [(true, n)]))), some (.lst true (kD st)), some (.str n), some (.int c)] = some (.ok .nx, [x0, some (.lst true (MK (ms ++ [(true, n)]))), some (.lst true (kD ((n, c) :: st))), some (.str n), some (.int c)]) := by
        rw [kD_cons]
        exact sExpr_ok (eApp_ok (l := kD st) (l1 := kD st) rfl (eLst_ok (l := [.str n, .int c]) (eaP_ok rfl rfl) (by show 2 ≤ 16777216; decide)) rfl (by rw [kD_len]; omega))
      rw [sSeq_nx s1, sSeq_nx s2]
      exact w1
    rw [step, eb]
    obtain ⟨y3, y4, ih⟩ := loopR_ok l (close ((n, c) :: st)).2 (ms ++ [(true, n)] ++ (close ((n, c) :: st)).1) x0 (some (.str n)) (some (.int c)) (fun p hp => hn p (List.mem_cons_of_mem _ hp)) w2 (by
      simp only [List.length_append, List.length_cons, List.length_nil] at w3 ⊢
      omega)
    refine ⟨y3, y4, ?_⟩
    show loopF tgt2 bodyR (rowD l) _ = _
    rw [ih]
    simp only [proc, List.append_assoc, List.cons_append, List.nil_append]
theorem marks_ok {f : F} (hn : ∀ p ∈ f.flat, p.1 ∈ NMS) (hl : f.size < 4000000) : d_marks_of [.tup (rowD f.flat)] = some (.ok (.tup (MK f.marks)), []) := by
  obtain ⟨y3, y4, el⟩ := loopR_ok f.flat [] [] (some (.tup (rowD f.flat))) none none hn (fun p hp => by cases hp) (by rw [f.flat_len]; simp only [List.length_nil]; omega)
  rw [proc_all, List.nil_append] at el
  refine den_ret (ρ := [some (.tup (rowD f.flat)), some (.lst true (MK f.marks)), some (.lst true (kD [])), y3, y4]) ?_ rfl
  show b_marks_of [some (.tup (rowD f.flat)), none, none, none, none] = _
  rw [marks_is]
  rw [sSeq_nx (ρ1 := [some (.tup (rowD f.flat)), some (.lst true (MK [])), some (.lst true (kD [])), none, none]) rfl]
  have fr : (D.tup (rowD f.flat)).frz = true := rowD_fz _
  have wk : wE (eP (mVar 0)) [some (.tup (rowD f.flat)), some (.lst true (MK [])), some (.lst true (kD [])), none, none] = some (.ok (rowD f.flat), [some (.tup (rowD f.flat)), some (.lst true (MK [])), some (.lst true (kD [])), none, none]) := by
    refine wE_ok (eP_ok rfl fr) ?_
    rw [D.fz_of fr]
    rfl
  rw [sSeq_nx ((sFor_ok wk).trans el)]
  have fm : D.frzs (MK f.marks) = true := frzs_of fun x hx => by
    obtain ⟨m, _, rfl⟩ := List.mem_map.mp hx
    rfl
  refine sRet_ok (eP_ok (mCall_ok (l := [.lst true (MK f.marks)]) rfl ?_) fm)
  show (if D.frzs (MK f.marks) = true then some (D.tup (MK f.marks)) else none) = _
  rw [fm]
  rfl
end K11

namespace K11
open PySem PySem.Spec PyProof.Rows L2 OP
/-! ### own trees as data -/
def toD : F → List D
  | .nil => []
  | .cons n k r => .tup [.str n, .tup (toD k)] :: toD r
theorem toD_fz : ∀ f : F, D.frzs (toD f) = true
  | .nil => rfl
  | .cons n k r => by
    show ((true && (D.frzs (toD k) && true)) && D.frzs (toD r)) = true
    rw [toD_fz k, toD_fz r]
    rfl
theorem toD_len : ∀ f : F, (toD f).length = f.count
  | .nil => rfl
  | .cons n k r => by simp only [toD, List.length_cons, toD_len r, F.count]; omega
abbrev allN (f : F) : Prop := ∀ p ∈ f.flat, p.1 ∈ NMS
theorem allN_marks : ∀ {f : F}, allN f → Nm f.marks
  | .nil, _ => fun m hm => by cases hm
  | .cons n k r, h => by
    have hk : allN k := fun p hp => h p (by simp only [F.flat, List.mem_cons, List.mem_append]; exact .inr (.inl hp))
    have hr : allN r := fun p hp => h p (by simp only [F.flat, List.mem_cons, List.mem_append]; exact .inr (.inr hp))
    have hn : n ∈ NMS := h (n, (k.count : Int)) (List.mem_cons_self ..)
    intro m hm
    simp only [F.marks, List.mem_cons, List.mem_append] at hm
    rcases hm with rfl | hm | rfl | hm
    · exact hn
    · exact allN_marks hk m hm
    · exact hn
    · exact allN_marks hr m hm
theorem allN_of_marks : ∀ {f : F}, Nm f.marks → allN f
  | .nil, _ => fun m hm => by cases hm
  | .cons n k r, h => by
    have hk : Nm k.marks := fun p hp => h p (by simp only [F.marks, List.mem_cons, List.mem_append]; exact .inr (.inl hp))
    have hr : Nm r.marks := fun p hp => h p (by simp only [F.marks, List.mem_cons, List.mem_append]; exact .inr (.inr (.inr hp)))
    have hn : n ∈ NMS := h (true, n) (List.mem_cons_self ..)
    intro m hm
    simp only [F.flat, List.mem_cons, List.mem_append] at hm
    rcases hm with rfl | hm | hm
    · exact hn
    · exact allN_of_marks hk m hm
    · exact allN_of_marks hr m hm
def tgtA : MT := tTp 2 (tsCons (tN 2) (tsCons (tN 3) tsNil))
def bodyA (den : Den) : MS := sSet 1 (eP (m2 gAdd (m2 gAdd (mVar 1) (mTup (mCons (mTup (mCons (mVar 2) (mCons (mCall fLen (mCons (mVar 3) mNil)) mNil))) mNil))) (mDef 1 den (mCons (mVar 3) mNil))))
def bodyB (den : Den) : MS := sSet 1 (eP (m2 gAdd (m2 gAdd (m2 gAdd (mVar 1) (mTup (mCons (mTup (mCons (mC (.str "in")) (mCons (mVar 2) mNil))) mNil))) (mDef 1 den (mCons (mVar 3) mNil))) (mTup (mCons (mTup (mCons (mC (.str "out")) (mCons (mVar 2) mNil))) mNil))))
theorem flat_is (den : Den) : r_law_flat den = sSeq (sSet 1 (eP (mTup mNil))) (sSeq (sFor (wE (eP (mVar 0))) tgtA (bodyA den)) (sRet (eP (mVar 1)))) := rfl
theorem lmarks_is (den : Den) : r_law_marks_of den = sSeq (sSet 1 (eP (mTup mNil))) (sSeq (sFor (wE (eP (mVar 0))) tgtA (bodyB den)) (sRet (eP (mVar 1)))) := rfl
theorem rowD_app {a b : List (Str × Int)} : rowD (a ++ b) = rowD a ++ rowD b := List.map_append ..
theorem rowD_len {a : List (Str × Int)} : (rowD a).length = a.length := List.length_map ..
theorem MK_app {a b : List Mk} : MK (a ++ b) = MK a ++ MK b := List.map_append ..
theorem MK_len {a : List Mk} : (MK a).length = a.length := List.length_map ..
theorem MK_fz (a : List Mk) : D.frzs (MK a) = true := frzs_of fun x hx => by
  obtain ⟨m, _, rfl⟩ := List.mem_map.mp hx
  rfl
theorem loopA_ok {n : Nat} {den : Den} (hd : ∀ g : F, g.depth < n → g.size ≤ 100000 → den [.tup (toD g)] = some (.ok (.tup (rowD g.flat)), [])) : ∀ (f : F) (acc : List (Str × Int)) (x0 z2 z3 : Option D), f.depth ≤ n → acc.length + f.size ≤ 100000 →
    ∃ y2 y3, loopF tgtA (bodyA den) (toD f) [x0, some (.tup (rowD acc)), z2, z3] = some (.ok .nx, [x0, some (.tup (rowD (acc ++ f.flat))), y2, y3])
  | .nil, acc, x0, z2, z3, _, _ => ⟨z2, z3, by rw [F.flat, List.append_nil]; rfl⟩
  | .cons m k r, acc, x0, z2, z3, h, hl => by
    simp only [F.depth, F.size] at h hl
    have hk := hd k (by omega) (by omega)
    have lk := k.flat_len
    obtain ⟨y2, y3, ih⟩ := loopA_ok hd r (acc ++ [(m, (k.count : Int))] ++ k.flat) x0 (some (.str m)) (some (.tup (toD k))) (by omega) (by simp only [List.length_append, List.length_cons, List.length_nil, lk]; omega)
    refine ⟨y2, y3, ?_⟩
    have eb : bodyA den [x0, some (.tup (rowD acc)), some (.str m), some (.tup (toD k))] = some (.ok .nx, [x0, some (.tup (rowD (acc ++ [(m, (k.count : Int))] ++ k.flat))), some (.str m), some (.tup (toD k))]) := by
      unfold bodyA
      have k1 : m2 gAdd (mVar 1) (mTup (mCons (mTup (mCons (mVar 2) (mCons (mCall fLen (mCons (mVar 3) mNil)) mNil))) mNil)) [x0, some (.tup (rowD acc)), some (.str m), some (.tup (toD k))] = some (.ok (.tup (rowD (acc ++ [(m, (k.count : Int))])))) := by
        refine m2_ok (x := .tup (rowD acc)) (y := .tup [.tup [.str m, .int (k.count : Int)]]) rfl (mTup_ok (mCons_ok (mTup_ok (mCons_ok rfl (mCons_ok (mCall_ok (l := [.tup (toD k)]) rfl ?_) rfl)) rfl (by show 2 ≤ 16777216; decide)) rfl) rfl (by show 1 ≤ 16777216; decide)) ?_
        · show some (D.int ((toD k).length : Nat)) = _
          rw [toD_len]
        · rw [tup_add (by rw [rowD_len]; show acc.length + 1 ≤ _; omega), rowD_app]
          rfl
      have k2 : mDef 1 den (mCons (mVar 3) mNil) [x0, some (.tup (rowD acc)), some (.str m), some (.tup (toD k))] = some (.ok (.tup (rowD k.flat))) := mDef_ok (l := [.tup (toD k)]) rfl (frzs1 (x := .tup (toD k)) (toD_fz k)) rfl (rowD_fz _) hk
      refine sSet_eP (m2_ok k1 k2 ?_) (rowD_fz _)
      rw [tup_add (by rw [rowD_len, rowD_len, lk]; simp only [List.length_append, List.length_cons, List.length_nil]; omega), rowD_app (b := k.flat)]
    have step : loopF tgtA (bodyA den) (toD (.cons m k r)) [x0, some (.tup (rowD acc)), z2, z3] = match bodyA den [x0, some (.tup (rowD acc)), some (.str m), some (.tup (toD k))] with
        | some (.ok .nx, ρ2) => loopF tgtA (bodyA den) (toD r) ρ2
        | some (.ok .ct, ρ2) => loopF tgtA (bodyA den) (toD r) ρ2
        | some (.ok .bk, ρ2) => some (.ok .nx, ρ2)
        | y => y := rfl
    rw [step, eb]
    show loopF tgtA (bodyA den) (toD r) _ = _
    rw [ih]
    simp only [F.flat, List.append_assoc, List.cons_append, List.nil_append]
theorem loopB_ok {n : Nat} {den : Den} (hd : ∀ g : F, g.depth < n → g.size ≤ 100000 → den [.tup (toD g)] = some (.ok (.tup (MK g.marks)), [])) : ∀ (f : F) (acc : List Mk) (x0 z2 z3 : Option D), f.depth ≤ n → acc.length + 2 * f.size ≤ 200000 →
    ∃ y2 y3, loopF tgtA (bodyB den) (toD f) [x0, some (.tup (MK acc)), z2, z3] = some (.ok .nx, [x0, some (.tup (MK (acc ++ f.marks))), y2, y3])
  | .nil, acc, x0, z2, z3, _, _ => ⟨z2, z3, by rw [F.marks, List.append_nil]; rfl⟩
  | .cons m k r, acc, x0, z2, z3, h, hl => by
    simp only [F.depth, F.size] at h hl
    have hk := hd k (by omega) (by omega)
    have lk := k.marks_len
    obtain ⟨y2, y3, ih⟩ := loopB_ok hd r (acc ++ [(true, m)] ++ k.marks ++ [(false, m)]) x0 (some (.str m)) (some (.tup (toD k))) (by omega) (by simp only [List.length_append, List.length_cons, List.length_nil, lk]; omega)
    refine ⟨y2, y3, ?_⟩
    have eb : bodyB den [x0, some (.tup (MK acc)), some (.str m), some (.tup (toD k))] = some (.ok .nx, [x0, some (.tup (MK (acc ++ [(true, m)] ++ k.marks ++ [(false, m)]))), some (.str m), some (.tup (toD k))]) := by
      unfold bodyB
      have k1 : m2 gAdd (mVar 1) (mTup (mCons (mTup (mCons (mC (.str "in")) (mCons (mVar 2) mNil))) mNil)) [x0, some (.tup (MK acc)), some (.str m), some (.tup (toD k))] = some (.ok (.tup (MK (acc ++ [(true, m)])))) := by
        refine m2_ok (x := .tup (MK acc)) (y := .tup [.tup [.str "in", .str m]]) rfl rfl ?_
        rw [tup_add (by rw [MK_len]; show acc.length + 1 ≤ _; omega), MK_app]
        rfl
      have k2 : mDef 1 den (mCons (mVar 3) mNil) [x0, some (.tup (MK acc)), some (.str m), some (.tup (toD k))] = some (.ok (.tup (MK k.marks))) := mDef_ok (l := [.tup (toD k)]) rfl (frzs1 (x := .tup (toD k)) (toD_fz k)) rfl (MK_fz _) hk
      have k3 : m2 gAdd (m2 gAdd (mVar 1) (mTup (mCons (mTup (mCons (mC (.str "in")) (mCons (mVar 2) mNil))) mNil))) (mDef 1 den (mCons (mVar 3) mNil)) [x0, some (.tup (MK acc)), some (.str m), some (.tup (toD k))] = some (.ok (.tup (MK (acc ++ [(true, m)] ++ k.marks)))) := by
        refine m2_ok k1 k2 ?_
        rw [tup_add (by rw [MK_len, MK_len, lk]; simp only [List.length_append, List.length_cons, List.length_nil]; omega), MK_app (b := k.marks)]
      refine sSet_eP (m2_ok k3 (y := .tup [.tup [.str "out", .str m]]) rfl ?_) (MK_fz _)
      rw [tup_add (by rw [MK_len]; simp only [List.length_append, List.length_cons, List.length_nil, lk]; omega), MK_app (b := [(false, m)])]
      rfl
    have step : loopF tgtA (bodyB den) (toD (.cons m k r)) [x0, some (.tup (MK acc)), z2, z3] = match bodyB den [x0, some (.tup (MK acc)), some (.str m), some (.tup (toD k))] with
        | some (.ok .nx, ρ2) => loopF tgtA (bodyB den) (toD r) ρ2
        | some (.ok .ct, ρ2) => loopF tgtA (bodyB den) (toD r) ρ2
        | some (.ok .bk, ρ2) => some (.ok .nx, ρ2)
        | y => y := rfl
    rw [step, eb]
    show loopF tgtA (bodyB den) (toD r) _ = _
    rw [ih]
    simp only [F.marks, List.append_assoc, List.cons_append, List.nil_append]
theorem walk_tree {f : F} {r : Rho} : wE (eP (mVar 0)) (some (.tup (toD f)) :: r) = some (.ok (toD f), some (.tup (toD f)) :: r) := by
  have fr : (D.tup (toD f)).frz = true := toD_fz f
  refine wE_ok (eP_ok rfl fr) ?_
  rw [D.fz_of fr]
  rfl
theorem flat_ok : ∀ (n : Nat) (f : F), f.depth < n → f.size ≤ 100000 → d_law_flat n [.tup (toD f)] = some (.ok (.tup (rowD f.flat)), [])
  | 0, f, h, _ => by omega
  | n + 1, f, h, hs => by
    obtain ⟨y2, y3, e⟩ := loopA_ok (n := n) (den := d_law_flat n) (flat_ok n) f [] (some (.tup (toD f))) none none (by omega) (by simpa using hs)
    refine den_ret (ρ := [some (.tup (toD f)), some (.tup (rowD f.flat)), y2, y3]) ?_ rfl
    show r_law_flat (d_law_flat n) [some (.tup (toD f)), none, none, none] = _
    rw [flat_is, sSeq_nx (ρ1 := [some (.tup (toD f)), some (.tup (rowD [])), none, none]) rfl, sSeq_nx ((sFor_ok walk_tree).trans e)]
    exact sRet_ok (eP_ok rfl (rowD_fz _))
theorem lmarks_ok : ∀ (n : Nat) (f : F), f.depth < n → f.size ≤ 100000 → d_law_marks_of n [.tup (toD f)] = some (.ok (.tup (MK f.marks)), [])
  | 0, f, h, _ => by omega
  | n + 1, f, h, hs => by
    obtain ⟨y2, y3, e⟩ := loopB_ok (n := n) (den := d_law_marks_of n) (lmarks_ok n) f [] (some (.tup (toD f))) none none (by omega) (by simp only [List.length_nil]; omega)
    refine den_ret (ρ := [some (.tup (toD f)), some (.tup (MK f.marks)), y2, y3]) ?_ rfl
    show r_law_marks_of (d_law_marks_of n) [some (.tup (toD f)), none, none, none] = _
    rw [lmarks_is, sSeq_nx (ρ1 := [some (.tup (toD f)), some (.tup (MK [])), none, none]) rfl, sSeq_nx ((sFor_ok walk_tree).trans e)]
    exact sRet_ok (eP_ok rfl (MK_fz _))
/-! ### the nested trees of a row -/
def ofL : List (Str × F) → F
  | [] => .nil
  | (n, k) :: r => .cons n k (ofL r)
def treeD (p : Str × F) : D := .tup [.str p.1, .tup (toD p.2)]
def sizeL (ps : List (Str × F)) : Nat := (ps.map fun p => 1 + p.2.size).sum
theorem ofL_D : ∀ ps : List (Str × F), toD (ofL ps) = ps.map treeD
  | [] => rfl
  | (n, k) :: r => by simp only [ofL, toD, List.map_cons, ofL_D r]; rfl
theorem ofL_size : ∀ ps : List (Str × F), (ofL ps).size = sizeL ps
  | [] => rfl
  | (n, k) :: r => by
    have := ofL_size r
    simp only [ofL, F.size, this, sizeL, List.map_cons, List.sum_cons]
abbrev okP (ps : List (Str × F)) : Prop := ∀ p ∈ ps, p.1 ∈ NMS ∧ allN p.2
theorem ofL_all : ∀ {ps : List (Str × F)}, okP ps → allN (ofL ps)
  | [], _ => fun p hp => by cases hp
  | (n, k) :: r, h => by
    have ih := ofL_all (ps := r) fun p hp => h p (List.mem_cons_of_mem _ hp)
    have h0 := h (n, k) (List.mem_cons_self ..)
    intro p hp
    simp only [ofL, F.flat, List.mem_cons, List.mem_append] at hp
    rcases hp with rfl | hp | hp
    · exact h0.1
    · exact h0.2 p hp
    · exact ih p hp
theorem sizeL_app {a b : List (Str × F)} : sizeL (a ++ b) = sizeL a + sizeL b := by simp only [sizeL, List.map_append, List.sum_append]
theorem sizeL_rev {a : List (Str × F)} : sizeL a.reverse = sizeL a := by simp only [sizeL, List.map_reverse, List.sum_reverse]
theorem sizeL_cut {a : List (Str × F)} {j : Nat} : sizeL (a.take j) + sizeL (a.drop j) = sizeL a := by
  rw [← sizeL_app, List.take_append_drop]
theorem tree_fz (ps : List (Str × F)) : D.frzs (ps.map treeD) = true := by rw [← ofL_D]; exact toD_fz _
theorem sizeL_len (ps : List (Str × F)) : ps.length ≤ sizeL ps := by
  induction ps with
  | nil => exact Nat.le_refl 0
  | cons p ps ih =>
    simp only [sizeL, List.map_cons, List.sum_cons, List.length_cons] at ih ⊢
    omega
def bodyN : MS := sSeq (sSet 4 (eP (mSl (mVar 1) (mPart (m2 gSub (mCall fLen (mCons (mVar 1) mNil)) (mVar 3))) mNoPart))) (sSet 1 (eP (m2 gAdd (mSl (mVar 1) mNoPart (mPart (m2 gSub (mCall fLen (mCons (mVar 1) mNil)) (mVar 3)))) (mLst (mCons (mTup (mCons (mVar 2) (mCons (mCall fTup (mCons (m1 gRev2 (mVar 4)) mNil)) mNil))) mNil)))))
theorem nested_is : b_law_nested = sSeq (sSet 1 (eP (mLst mNil))) (sSeq (sFor (wE (eP (m1 gRev2 (mVar 0)))) tgtA bodyN) (sRet (eP (mCall fTup (mCons (m1 gRev2 (mVar 1)) mNil))))) := rfl
theorem rev_lst {l : List D} (h : D.frzs l = true) : gRev2 (.lst false l) = some (.lst false l.reverse) := by
  show (if D.frzs l = true then some (D.lst false l.reverse) else none) = _
  rw [h]; rfl
theorem bodyN_ok {ps : List (Str × F)} {n : Str} {c : Int} {x0 z4 : Option D} (hp : okP ps) (hn : n ∈ NMS) (hs : sizeL ps ≤ 1000) : ∃ ps' z, bodyN [x0, some (.lst false (ps.map treeD)), some (.str n), some (.int c), z4] = some (.ok .nx, [x0, some (.lst false (ps'.map treeD)), some (.str n), some (.int c), z]) ∧ okP ps' ∧ sizeL ps' = sizeL ps + 1 := by
  obtain ⟨j, hj⟩ : ∃ j, j = HT.sIx ps.length 0 (some ((ps.length : Int) - c)) := ⟨_, rfl⟩
  have hj2 : HT.sIx ps.length ps.length (some ((ps.length : Int) - c)) = j := hj.symm
  have hlen := sizeL_len ps
  have c1 : OP.cutD (ps.map treeD) (some ((ps.length : Int) - c)) none = (ps.drop j).map treeD := by
    unfold OP.cutD
    rw [List.length_map, ← hj, HT.sIx_none, ← List.map_drop]
    exact List.take_of_length_le (by rw [List.length_map, List.length_drop]; omega)
  have c2 : OP.cutD (ps.map treeD) none (some ((ps.length : Int) - c)) = (ps.take j).map treeD := by
    unfold OP.cutD
    rw [List.length_map, hj2, HT.sIx_none, List.drop_zero, Nat.sub_zero, ← List.map_take]
  have ft := tree_fz ps
  have ftd := tree_fz (ps.drop j)
  have ftt := tree_fz (ps.take j)
  have kl : ∀ {z}, mPart (m2 gSub (mCall fLen (mCons (mVar 1) mNil)) (mVar 3)) [x0, some (.lst false (ps.map treeD)), some (.str n), some (.int c), z] = some (.ok (some ((ps.length : Int) - c))) := fun {z} => by
    have : m2 gSub (mCall fLen (mCons (mVar 1) mNil)) (mVar 3) [x0, some (.lst false (ps.map treeD)), some (.str n), some (.int c), z] = some (.ok (.int ((ps.length : Int) - c))) := by
      refine m2_ok (x := .int (ps.length : Int)) (y := .int c) (mCall_ok (l := [.lst false (ps.map treeD)]) rfl ?_) rfl rfl
      show some (D.int ((ps.map treeD).length : Nat)) = _
      rw [List.length_map]
    unfold mPart
    rw [this]
    rfl
  have k1 : mSl (mVar 1) (mPart (m2 gSub (mCall fLen (mCons (mVar 1) mNil)) (mVar 3))) mNoPart [x0, some (.lst false (ps.map treeD)), some (.str n), some (.int c), z4] = some (.ok (.lst false ((ps.drop j).map treeD))) := by
    unfold mSl
    rw [kl]
    show ret (if D.frzs (ps.map treeD) = true then some (D.lst false (OP.cutD (ps.map treeD) (some ((ps.length : Int) - c)) none)) else none) = _
    rw [ft, c1]
    rfl
  have k2 : mSl (mVar 1) mNoPart (mPart (m2 gSub (mCall fLen (mCons (mVar 1) mNil)) (mVar 3))) [x0, some (.lst false (ps.map treeD)), some (.str n), some (.int c), some (.lst false ((ps.drop j).map treeD))] = some (.ok (.lst false ((ps.take j).map treeD))) := by
    unfold mSl
    rw [kl]
    show ret (if D.frzs (ps.map treeD) = true then some (D.lst false (OP.cutD (ps.map treeD) none (some ((ps.length : Int) - c)))) else none) = _
    rw [ft, c2]
    rfl
  have fr : D.frzs ((ps.drop j).map treeD).reverse = true := by rw [← List.map_reverse]; exact tree_fz _
  have k3 : mTup (mCons (mVar 2) (mCons (mCall fTup (mCons (m1 gRev2 (mVar 4)) mNil)) mNil)) [x0, some (.lst false (ps.map treeD)), some (.str n), some (.int c), some (.lst false ((ps.drop j).map treeD))] = some (.ok (treeD (n, ofL (ps.drop j).reverse))) := by
    have e : treeD (n, ofL (ps.drop j).reverse) = .tup [.str n, .tup ((ps.drop j).map treeD).reverse] := by
      show D.tup [.str n, .tup (toD (ofL (ps.drop j).reverse))] = _
      rw [ofL_D, List.map_reverse]
    rw [e]
    refine mTup_ok (mCons_ok rfl (mCons_ok (mCall_ok (l := [.lst false ((ps.drop j).map treeD).reverse]) (mCons_ok (m1_ok rfl (rev_lst ftd)) rfl) ?_) rfl)) ?_ (by show 2 ≤ 16777216; decide)
    · show (if D.frzs ((ps.drop j).map treeD).reverse = true then _ else none) = _
      rw [fr]
      rfl
    · rw [frzs_cons, frzs_cons]
      show (true && (D.frzs ((ps.drop j).map treeD).reverse && true)) = true
      rw [fr]
      rfl
  have lt : (ps.take j).length ≤ ps.length := by rw [List.length_take]; omega
  refine ⟨ps.take j ++ [(n, ofL (ps.drop j).reverse)], some (.lst false ((ps.drop j).map treeD)), ?_, ?_, ?_⟩
  · unfold bodyN
    rw [sSeq_nx (sSet_eP k1 (frz_lst ftd))]
    have f1 : D.frzs [treeD (n, ofL (ps.drop j).reverse)] = true := by
      have := tree_fz [(n, ofL (ps.drop j).reverse)]
      exact this
    refine sSet_eP (m2_ok k2 (mLst_ok (mCons_ok k3 rfl) f1 (by show 1 ≤ 16777216; decide)) ?_) (frz_lst (tree_fz _))
    show (if (D.frzs ((ps.take j).map treeD) && D.frzs [treeD (n, ofL (ps.drop j).reverse)] && decide (((ps.take j).map treeD).length + 1 ≤ 16777216)) = true then _ else _) = _
    rw [ftt, f1, decide_eq_true (by rw [List.length_map]; omega), List.map_append]
    rfl
  · intro p hp'
    rcases List.mem_append.mp hp' with h | h
    · exact hp p (List.mem_of_mem_take h)
    · rw [List.mem_singleton.mp h]
      exact ⟨hn, ofL_all fun q hq => hp q (List.mem_of_mem_drop (List.mem_reverse.mp hq))⟩
  · rw [sizeL_app]
    have := sizeL_cut (a := ps) (j := j)
    show _ + (1 + (ofL (ps.drop j).reverse).size + 0) = _
    rw [ofL_size, sizeL_rev]
    omega
theorem loopN_ok : ∀ (l : List (Str × Int)) (ps : List (Str × F)) (x0 z2 z3 z4 : Option D), okP ps → (∀ p ∈ l, p.1 ∈ NMS) → sizeL ps + l.length ≤ 1000 →
    ∃ ps' y2 y3 y4, loopF tgtA bodyN (rowD l) [x0, some (.lst false (ps.map treeD)), z2, z3, z4] = some (.ok .nx, [x0, some (.lst false (ps'.map treeD)), y2, y3, y4]) ∧ okP ps' ∧ sizeL ps' = sizeL ps + l.length
  | [], ps, x0, z2, z3, z4, hp, _, _ => ⟨ps, z2, z3, z4, rfl, hp, rfl⟩
  | (n, c) :: l, ps, x0, z2, z3, z4, hp, hn, hl => by
    simp only [List.length_cons] at hl
    obtain ⟨ps1, z, e, h1, s1⟩ := bodyN_ok (ps := ps) (n := n) (c := c) (x0 := x0) (z4 := z4) hp (hn (n, c) (List.mem_cons_self ..)) (by omega)
    obtain ⟨ps2, y2, y3, y4, ih, h2, s2⟩ := loopN_ok l ps1 x0 (some (.str n)) (some (.int c)) z h1 (fun p hp => hn p (List.mem_cons_of_mem _ hp)) (by omega)
    refine ⟨ps2, y2, y3, y4, ?_, h2, by simp only [List.length_cons]; omega⟩
    have step : loopF tgtA bodyN (rowD ((n, c) :: l)) [x0, some (.lst false (ps.map treeD)), z2, z3, z4] = match bodyN [x0, some (.lst false (ps.map treeD)), some (.str n), some (.int c), z4] with
        | some (.ok .nx, ρ2) => loopF tgtA bodyN (rowD l) ρ2
        | some (.ok .ct, ρ2) => loopF tgtA bodyN (rowD l) ρ2
        | some (.ok .bk, ρ2) => some (.ok .nx, ρ2)
        | y => y := rfl
    rw [step, e]
    exact ih
theorem nested_ok {l : List (Str × Int)} (hn : ∀ p ∈ l, p.1 ∈ NMS) (hl : l.length ≤ 1000) : ∃ f : F, d_law_nested [.tup (rowD l)] = some (.ok (.tup (toD f)), []) ∧ allN f ∧ f.size = l.length := by
  have er : (rowD l).reverse = rowD l.reverse := by unfold rowD; rw [List.map_reverse]
  obtain ⟨ps, y2, y3, y4, e, hp, hs⟩ := loopN_ok l.reverse [] (some (.tup (rowD l))) none none none (fun p hp => by cases hp) (fun p hp => hn p (List.mem_reverse.mp hp)) (by rw [List.length_reverse]; simpa [sizeL] using hl)
  refine ⟨ofL ps.reverse, ?_, ofL_all fun p h => hp p (List.mem_reverse.mp h), by rw [ofL_size, sizeL_rev, hs, List.length_reverse]; simp [sizeL]⟩
  refine den_ret (ρ := [some (.tup (rowD l)), some (.lst false (ps.map treeD)), y2, y3, y4]) ?_ rfl
  show b_law_nested [some (.tup (rowD l)), none, none, none, none] = _
  rw [nested_is, sSeq_nx (ρ1 := [some (.tup (rowD l)), some (.lst false (([] : List (Str × F)).map treeD)), none, none, none]) rfl]
  have fr : (D.tup (rowD l.reverse)).frz = true := rowD_fz _
  have wk : wE (eP (m1 gRev2 (mVar 0))) [some (.tup (rowD l)), some (.lst false (([] : List (Str × F)).map treeD)), none, none, none] = some (.ok (rowD l.reverse), [some (.tup (rowD l)), some (.lst false (([] : List (Str × F)).map treeD)), none, none, none]) := by
    refine wE_ok (d := .tup (rowD l.reverse)) (eP_ok (m1_ok (x := .tup (rowD l)) rfl (by show some (D.tup (rowD l).reverse) = _; rw [er])) fr) ?_
    rw [D.fz_of fr]
    rfl
  rw [sSeq_nx ((sFor_ok wk).trans e)]
  have ft := tree_fz ps
  have fr2 : D.frzs (ps.map treeD).reverse = true := by rw [← List.map_reverse]; exact tree_fz _
  refine sRet_ok (eP_ok (mCall_ok (l := [.lst false (ps.map treeD).reverse]) (mCons_ok (m1_ok rfl (rev_lst ft)) rfl) ?_) (toD_fz _))
  show (if D.frzs (ps.map treeD).reverse = true then some (D.tup (ps.map treeD).reverse) else none) = _
  rw [fr2, ofL_D, List.map_reverse]
  rfl
end K11

namespace K11
open PySem PySem.Spec PyProof.Rows L2 OP
theorem tk : d_law_take = OP.d_take := rfl
theorem sm : d_law_some = OP.d_some := rfl
section
variable {ρ : Rho}
theorem take_ok {i : Nat} {M : Rho → Option (O D)} {a b c m : Int} {cs : List Int} (hb : ρ[i]? = some (some (bag a b c cs))) (h : BagOk a b c cs) (hM : M ρ = some (.ok (.int m))) (hm : 0 < m ∧ m < 1073741824) :
    ∃ v a' b' c', eHeld i (eDef1 2 d_law_take i (eaP (mCons M mNil))) ρ = some (.ok (.int v), ρ.set i (some (bag a' b' c' cs))) ∧ 0 ≤ v ∧ v < m ∧ BagOk a' b' c' cs := by rw [tk]; exact held_take hb h hM hm
theorem some_ok {i : Nat} {M : Rho → Option (O D)} {a b c : Int} {cs : List Int} {l : List D} (hb : ρ[i]? = some (some (bag a b c cs))) (h : BagOk a b c cs) (hM : M ρ = some (.ok (.lst false l))) (hf : D.frzs l = true) (h0 : 0 < l.length) (h1 : l.length < 1073741824) :
    ∃ x a' b' c', eHeld i (eDef1 2 d_law_some i (eaP (mCons M mNil))) ρ = some (.ok x, ρ.set i (some (bag a' b' c' cs))) ∧ x ∈ l ∧ x.frz = true ∧ BagOk a' b' c' cs := by rw [sm]; exact held_some hb h hM hf h0 h1
/-- a text out of some -/
theorem text_ok {i : Nat} {M : Rho → Option (O D)} {a b c : Int} {cs : List Int} {l : List Str} (hb : ρ[i]? = some (some (bag a b c cs))) (h : BagOk a b c cs) (hM : M ρ = some (.ok (.lst false (l.map .str)))) (h0 : 0 < l.length) (h1 : l.length < 1073741824) :
    ∃ n a' b' c', eHeld i (eDef1 2 d_law_some i (eaP (mCons M mNil))) ρ = some (.ok (.str n), ρ.set i (some (bag a' b' c' cs))) ∧ n ∈ l ∧ BagOk a' b' c' cs := by
  have hf : D.frzs (l.map D.str) = true := frzs_of fun x hx => by
    obtain ⟨n, _, rfl⟩ := List.mem_map.mp hx
    rfl
  obtain ⟨x, a', b', c', e, m, _, k⟩ := some_ok hb h hM hf (by rw [List.length_map]; exact h0) (by rw [List.length_map]; exact h1)
  obtain ⟨n, hn, rfl⟩ := List.mem_map.mp m
  exact ⟨n, a', b', c', e, hn, k⟩
end
theorem loop_ix {t : MT} {b : MS} {ds : List D} {I : Nat → Rho → Prop} : ∀ {k : Nat} {ρ : Rho}, k ≤ ds.length → I k ρ → (∀ k d, ds[k]? = some d → ∀ ρ, I k ρ → ∃ ρ1 ρ2, t d ρ = some ρ1 ∧ b ρ1 = some (.ok .nx, ρ2) ∧ I (k + 1) ρ2) → ∃ ρ2, loopF t b (ds.drop k) ρ = some (.ok .nx, ρ2) ∧ I ds.length ρ2 := by
  intro k
  generalize hn : ds.length - k = n
  induction n generalizing k with
  | zero =>
    intro ρ hk i _
    have : k = ds.length := by omega
    subst this
    rw [List.drop_length]
    exact ⟨ρ, rfl, i⟩
  | succ n ih =>
    intro ρ hk i h
    have lt : k < ds.length := by omega
    obtain ⟨ρ1, ρ2, e1, e2, i2⟩ := h k ds[k] (List.getElem?_eq_getElem lt) ρ i
    obtain ⟨ρ3, e3, i3⟩ := ih (k := k + 1) (by omega) (by omega) i2 h
    refine ⟨ρ3, ?_, i3⟩
    rw [List.drop_eq_getElem_cons lt]
    simp only [loopF, e1, e2]
    exact e3
theorem cut_map {α β : Type} {f : α → β} {l : List α} {lo hi : Option Int} : OP.cutD (l.map f) lo hi = (OP.cutD l lo hi).map f := by
  unfold OP.cutD
  rw [List.length_map, ← List.map_drop, ← List.map_take]
theorem cut_mem {α : Type} {l : List α} {lo hi : Option Int} : (∀ x ∈ OP.cutD l lo hi, x ∈ l) ∧ (OP.cutD l lo hi).length ≤ l.length := by
  unfold OP.cutD
  refine ⟨fun x hx => List.mem_of_mem_drop (List.mem_of_mem_take hx), ?_⟩
  rw [List.length_take, List.length_drop]
  omega
/-- the two halves of a row beside one place -/
theorem cut_len {α : Type} {l : List α} {v : Int} (h : 0 ≤ v) (hv : v < l.length) : (OP.cutD l none (some v)).length + (OP.cutD l (some (v + 1)) none).length + 1 = l.length := by
  have e1 : v = ((v.toNat : Nat) : Int) := (Int.toNat_of_nonneg h).symm
  have e2 : v + 1 = ((v.toNat + 1 : Nat) : Int) := by omega
  unfold OP.cutD
  rw [e2, HT.sIx_nat, HT.sIx_none, HT.sIx_none]
  rw [show HT.sIx l.length l.length (some v) = HT.sIx l.length l.length (some ((v.toNat : Nat) : Int)) from by rw [← e1], HT.sIx_nat]
  simp only [List.length_take, List.length_drop]
  omega
/-! ### drawn trees -/
def nms : List Str := ["a", "b", "c1"]
theorem nms_in {n : Str} (h : n ∈ nms) : n ∈ NMS := by
  simp only [nms, List.mem_cons, List.not_mem_nil, or_false] at h
  rcases h with rfl | rfl | rfl <;> decide
def setS : MS := sSet 5 (eFz (eHeld 0 (eDef1 2 d_law_take 0 (eaP (mCons (m2 gAdd (mCall fLen (mCons (mVar 3) mNil)) (mC (.int 1))) mNil)))))
def condS : Rho → Option (O Bool) := mOrT (mT (m2 gEq (mVar 5) (mCall fLen (mCons (mVar 3) mNil)))) (mT (m2 gEq (mVar 3) (mTup mNil)))
def newN : ME := eTup (eCons (eHeld 0 (eDef1 2 d_law_some 0 (eaP (mCons (mVar 1) mNil)))) (eCons (eP (mC (.int 0))) eNil))
def setA : MS := sSet 3 (eFz (e2 gAdd (eP (mVar 3)) (eTup (eCons newN eNil))))
def upN : Rho → Option (O D) := mTup (mCons (m2 gIx (m2 gIx (mVar 3) (mVar 5)) (mC (.int 0))) (mCons (m2 gAdd (m2 gIx (m2 gIx (mVar 3) (mVar 5)) (mC (.int 1))) (mC (.int 1))) mNil))
def setB : MS := sSet 3 (eFz (e2 gAdd (e2 gAdd (eP (mSl (mVar 3) mNoPart (mPart (mVar 5)))) (eTup (eCons (eP upN) (eCons newN eNil)))) (eP (mSl (mVar 3) (mPart (m2 gAdd (mVar 5) (mC (.int 1)))) mNoPart))))
def bodyS : MS := sSeq setS (sIf (etP condS) setA setB)
theorem some_is : b_law_some_trees = sSeq (sSet 3 (eP (mTup mNil))) (sSeq (sFor (wRng1 (eCons (eHeld 0 (eDef1 2 d_law_take 0 (eaP (mCons (m2 gAdd (mVar 2) (mC (.int 1))) mNil)))) eNil)) (tN 4) bodyS) (sRet (eP (mDef 1 d_law_nested (mCons (mVar 3) mNil))))) := rfl
abbrev rS (a b c : Int) (cs : List Int) (l : List (Str × Int)) (z4 z5 : Option D) : Rho := [some (bag a b c cs), some (.lst false (nms.map .str)), some (.int 12), some (.tup (rowD l)), z4, z5]
theorem newN_ok {a b c : Int} {cs : List Int} {l : List (Str × Int)} {z4 z5 : Option D} (h : BagOk a b c cs) : ∃ n a' b' c', newN (rS a b c cs l z4 z5) = some (.ok (nodeD (n, 0)), rS a' b' c' cs l z4 z5) ∧ n ∈ NMS ∧ BagOk a' b' c' cs := by
  obtain ⟨n, a', b', c', e, hn, k⟩ := text_ok (ρ := rS a b c cs l z4 z5) (i := 0) (M := mVar 1) (l := nms) rfl h rfl (by decide) (by decide)
  refine ⟨n, a', b', c', ?_, nms_in hn, k⟩
  refine eTup_ok (l := [.str n, .int 0]) ?_ rfl (by show 2 ≤ 16777216; decide)
  exact eCons_ok e rfl
theorem node_py {p : Str × Int} (h : p.1 ∈ NMS) : pyOk 5 (nodeD p) := pyOk_tup (n := 4) fun x hx => by
  rcases List.mem_cons.mp hx with rfl | hx
  · exact pyOk_up (nm_py h) (by decide)
  · rw [List.mem_singleton.mp hx]; exact pyOk_up int_py (by decide)
theorem row_py {l : List (Str × Int)} (h : ∀ p ∈ l, p.1 ∈ NMS) : ∀ x ∈ rowD l, pyOk 5 x := fun x hx => by
  obtain ⟨p, hp, rfl⟩ := List.mem_map.mp hx
  exact node_py (h p hp)
theorem bodyS_ok {a b c : Int} {cs : List Int} {l : List (Str × Int)} {z4 z5 : Option D} (h : BagOk a b c cs) (hn : ∀ p ∈ l, p.1 ∈ NMS) (hl : l.length ≤ 1000) : ∃ a' b' c' l' y5, bodyS (rS a b c cs l z4 z5) = some (.ok .nx, rS a' b' c' cs l' z4 y5) ∧ BagOk a' b' c' cs ∧ (∀ p ∈ l', p.1 ∈ NMS) ∧ l'.length = l.length + 1 := by
  have ln : ∀ {a b c z5}, mCall fLen (mCons (mVar 3) mNil) (rS a b c cs l z4 z5) = some (.ok (.int (l.length : Int))) := fun {a b c z5} => by
    refine mCall_ok (l := [.tup (rowD l)]) rfl ?_
    show some (D.int ((rowD l).length : Nat)) = _
    rw [rowD_len]
  obtain ⟨v, a1, b1, c1, e1, v0, v1, h1⟩ := take_ok (ρ := rS a b c cs l z4 z5) (i := 0) (M := m2 gAdd (mCall fLen (mCons (mVar 3) mNil)) (mC (.int 1))) (m := (l.length : Int) + 1) rfl h (m2_ok ln rfl rfl) (by omega)
  have s1 : setS (rS a b c cs l z4 z5) = some (.ok .nx, rS a1 b1 c1 cs l z4 (some (.int v))) := sSet_ok (eFz_ok e1)
  obtain ⟨n, a2, b2, c2, e2, nn, h2⟩ := newN_ok (l := l) (z4 := z4) (z5 := some (.int v)) h1
  have k0 : mT (m2 gEq (mVar 5) (mCall fLen (mCons (mVar 3) mNil))) (rS a1 b1 c1 cs l z4 (some (.int v))) = some (.ok (decide (v = (l.length : Int)))) := mT_ok (m2_ok rfl ln gEq_int)
  have k1 : mT (m2 gEq (mVar 3) (mTup mNil)) (rS a1 b1 c1 cs l z4 (some (.int v))) = some (.ok (rowD l).isEmpty) := mT_ok (m2_ok (x := .tup (rowD l)) (y := .tup []) rfl rfl (gEq_of (eqD_tup_nil (n := 5) (row_py hn) (by decide))))
  have eA : setA (rS a1 b1 c1 cs l z4 (some (.int v))) = some (.ok .nx, rS a2 b2 c2 cs (l ++ [(n, 0)]) z4 (some (.int v))) := by
    have f1 : D.frzs [nodeD (n, 0)] = true := rfl
    have fr : (D.tup (rowD (l ++ [(n, 0)]))).frz = true := rowD_fz _
    have p1 : eP (mVar 3) (rS a1 b1 c1 cs l z4 (some (.int v))) = some (.ok (.tup (rowD l)), rS a1 b1 c1 cs l z4 (some (.int v))) := eP_ok rfl (rowD_fz _)
    have p2 : eTup (eCons newN eNil) (rS a1 b1 c1 cs l z4 (some (.int v))) = some (.ok (.tup [nodeD (n, 0)]), rS a2 b2 c2 cs l z4 (some (.int v))) := eTup_ok (eCons_ok e2 rfl) f1 (by show 1 ≤ 16777216; decide)
    have p := e2_ok (f := gAdd) (z := .tup (rowD (l ++ [(n, 0)]))) p1 p2 fr (by rw [tup_add (by rw [rowD_len]; show l.length + 1 ≤ _; omega), rowD_app]; rfl)
    have q := sSet_ok (i := 3) (eFz_ok p)
    rw [D.fz_of fr] at q
    exact q
  have okA : ∀ p ∈ l ++ [(n, (0 : Int))], p.1 ∈ NMS := fun p hp => by
    rcases List.mem_append.mp hp with hp | hp
    · exact hn p hp
    · rw [List.mem_singleton.mp hp]; exact nn
  by_cases hv : v = (l.length : Int)
  · refine ⟨a2, b2, c2, l ++ [(n, 0)], some (.int v), ?_, h2, okA, by rw [List.length_append]; rfl⟩
    unfold bodyS
    rw [decide_eq_true hv] at k0
    have kc : condS (rS a1 b1 c1 cs l z4 (some (.int v))) = some (.ok true) := mOrT_t k0
    rw [sSeq_nx s1, sIf_t kc, if_pos rfl]
    exact eA
  · have hlt : v < (l.length : Int) := by omega
    have hvn : v.toNat < l.length := by omega
    have ne : (rowD l).isEmpty = false := by
      cases l with
      | nil => simp at hvn
      | cons _ _ => rfl
    rw [ne] at k1
    rw [decide_eq_false hv] at k0
    have kc : condS (rS a1 b1 c1 cs l z4 (some (.int v))) = some (.ok false) := (mOrT_f k0).trans k1
    obtain ⟨q, hq⟩ : ∃ q, q = l[v.toNat] := ⟨_, rfl⟩
    have hqm : q ∈ l := by rw [hq]; exact List.getElem_mem ..
    have ix : m2 gIx (mVar 3) (mVar 5) (rS a1 b1 c1 cs l z4 (some (.int v))) = some (.ok (nodeD q)) := by
      refine m2_ok (x := .tup (rowD l)) (y := .int v) rfl rfl ?_
      show atI (rowD l) v = _
      unfold atI ixN
      rw [if_pos v0, if_pos (by rw [rowD_len]; exact hlt)]
      show (rowD l)[v.toNat]? = _
      unfold rowD
      rw [List.getElem?_map, List.getElem?_eq_getElem hvn, hq]
      rfl
    have up : upN (rS a1 b1 c1 cs l z4 (some (.int v))) = some (.ok (nodeD (q.1, q.2 + 1))) := mTup_ok (l := [.str q.1, .int (q.2 + 1)]) (mCons_ok (m2_ok (y := .int 0) ix rfl rfl) (mCons_ok (m2_ok (y := .int 1) (m2_ok (x := nodeD q) (y := .int 1) (z := .int q.2) ix rfl rfl) rfl rfl) rfl)) rfl (by show 2 ≤ 16777216; decide)
    obtain ⟨m1, l1⟩ := cut_mem (l := l) (lo := none) (hi := some v)
    obtain ⟨m3, l3⟩ := cut_mem (l := l) (lo := some (v + 1)) (hi := none)
    have cl := cut_len (l := l) v0 hlt
    refine ⟨a2, b2, c2, OP.cutD l none (some v) ++ [(q.1, q.2 + 1), (n, 0)] ++ OP.cutD l (some (v + 1)) none, some (.int v), ?_, h2, ?_, ?_⟩
    · unfold bodyS
      rw [sSeq_nx s1, sIf_t kc, if_neg (by decide)]
      have fr : ∀ l, (D.tup (rowD l)).frz = true := rowD_fz
      have p1 : eP (mSl (mVar 3) mNoPart (mPart (mVar 5))) (rS a1 b1 c1 cs l z4 (some (.int v))) = some (.ok (.tup (rowD (OP.cutD l none (some v)))), rS a1 b1 c1 cs l z4 (some (.int v))) := by
        refine eP_ok ?_ (fr _)
        unfold rowD
        rw [← cut_map]
        rfl
      have p2 : eTup (eCons (eP upN) (eCons newN eNil)) (rS a1 b1 c1 cs l z4 (some (.int v))) = some (.ok (.tup (rowD [(q.1, q.2 + 1), (n, 0)])), rS a2 b2 c2 cs l z4 (some (.int v))) := by
        refine eTup_ok (l := [nodeD (q.1, q.2 + 1), nodeD (n, 0)]) ?_ rfl (by show 2 ≤ 16777216; decide)
        refine eCons_ok (eP_ok up rfl) ?_
        exact eCons_ok e2 rfl
      have p12 := e2_ok (f := gAdd) (z := .tup (rowD (OP.cutD l none (some v) ++ [(q.1, q.2 + 1), (n, 0)]))) p1 p2 (fr _) (by rw [tup_add (by rw [rowD_len, rowD_len]; show _ + 2 ≤ _; omega), rowD_app])
      have p3 : eP (mSl (mVar 3) (mPart (m2 gAdd (mVar 5) (mC (.int 1)))) mNoPart) (rS a2 b2 c2 cs l z4 (some (.int v))) = some (.ok (.tup (rowD (OP.cutD l (some (v + 1)) none))), rS a2 b2 c2 cs l z4 (some (.int v))) := by
        refine eP_ok ?_ (fr _)
        unfold rowD
        rw [← cut_map]
        rfl
      have p := e2_ok (f := gAdd) (z := .tup (rowD (OP.cutD l none (some v) ++ [(q.1, q.2 + 1), (n, 0)] ++ OP.cutD l (some (v + 1)) none))) p12 p3 (fr _) (by rw [tup_add (by rw [rowD_len, rowD_len, List.length_append]; simp only [List.length_cons, List.length_nil]; omega), rowD_app (b := OP.cutD l (some (v + 1)) none)])
      have q' := sSet_ok (i := 3) (eFz_ok p)
      rw [D.fz_of (fr _)] at q'
      exact q'
    · intro p hp
      simp only [List.mem_append, List.mem_cons, List.not_mem_nil, or_false] at hp
      rcases hp with (hp | rfl | rfl) | hp
      · exact hn p (m1 p hp)
      · exact hn q hqm
      · exact nn
      · exact hn p (m3 p hp)
    · simp only [List.length_append, List.length_cons, List.length_nil]
      omega
theorem trees_ok {a b c : Int} {cs : List Int} (h : BagOk a b c cs) : ∃ f a' b' c', d_law_some_trees [bag a b c cs, .lst false (nms.map .str), .int 12] = some (.ok (.tup (toD f)), [bag a' b' c' cs]) ∧ BagOk a' b' c' cs ∧ allN f ∧ f.size ≤ 12 := by
  obtain ⟨v, a1, b1, c1, e1, v0, v1, h1⟩ := take_ok (ρ := rS a b c cs [] none none) (i := 0) (M := m2 gAdd (mVar 2) (mC (.int 1))) (m := 13) rfl h rfl (by decide)
  let ds : List D := (List.range v.toNat).map fun (k : Nat) => D.int (0 + k)
  have hds : ds.length = v.toNat := by simp [ds]
  let I : Nat → Rho → Prop := fun k ρ => ∃ (a b c : Int) (l : List (Str × Int)) (z4 z5 : Option D), ρ = rS a b c cs l z4 z5 ∧ BagOk a b c cs ∧ (∀ p ∈ l, p.1 ∈ NMS) ∧ l.length = k
  have i0 : I 0 (rS a1 b1 c1 cs [] none none) := ⟨a1, b1, c1, [], none, none, rfl, h1, fun p hp => (by cases hp), rfl⟩
  obtain ⟨ρ2, e2, a2, b2, c2, l, z4, z5, er, h2, hn, hl⟩ := loop_ix (t := tN 4) (b := bodyS) (ds := ds) (I := I) (k := 0) (Nat.zero_le _) i0 fun k d hk ρ ⟨a1, b1, c1, l, z4, z5, er, h1, hn, hl⟩ => by
    have hk' : k < v.toNat := by
      have := (List.getElem?_eq_some_iff.mp hk).1
      omega
    subst er
    obtain ⟨a2, b2, c2, l', y5, e, h3, hn', hl'⟩ := bodyS_ok (l := l) (z4 := some d) (z5 := z5) h1 hn (by omega)
    exact ⟨_, _, rfl, e, a2, b2, c2, l', some d, y5, rfl, h3, hn', by omega⟩
  subst er
  obtain ⟨f, ef, fa, fs⟩ := nested_ok hn (by omega)
  refine ⟨f, a2, b2, c2, ?_, h2, fa, by omega⟩
  refine den_ret (ρ := rS a2 b2 c2 cs l z4 z5) ?_ rfl
  show b_law_some_trees [some (bag a b c cs), some (.lst false (nms.map .str)), some (.int 12), none, none, none] = _
  rw [some_is, sSeq_nx (ρ1 := rS a b c cs [] none none) rfl]
  have wr : wRng1 (eCons (eHeld 0 (eDef1 2 d_law_take 0 (eaP (mCons (m2 gAdd (mVar 2) (mC (.int 1))) mNil)))) eNil) (rS a b c cs [] none none) = some (.ok ds, rS a1 b1 c1 cs [] none none) := by
    have ec := eCons_ok e1 (eNil_ok (ρ := (rS a b c cs [] none none).set 0 (some (bag a1 b1 c1 cs))))
    unfold wRng1
    rw [ec, bE_ok]
    show (if -(2 ^ 62) ≤ v ∧ v < 2 ^ 62 then _ else none) = _
    rw [if_pos (by omega)]
    rfl
  have e2' : loopF (tN 4) bodyS ds (rS a1 b1 c1 cs [] none none) = some (.ok .nx, rS a2 b2 c2 cs l z4 z5) := e2
  rw [sSeq_nx ((sFor_ok wr).trans e2')]
  have k : mDef 1 d_law_nested (mCons (mVar 3) mNil) (rS a2 b2 c2 cs l z4 z5) = some (.ok (.tup (toD f))) := mDef_ok (l := [.tup (rowD l)]) rfl (frzs1 (x := .tup (rowD l)) (rowD_fz l)) rfl (toD_fz f) ef
  exact sRet_ok (eP_ok k (toD_fz f))
end K11

namespace K11
open PySem PySem.Spec PyProof.Rows L2 OP
/-! ### marks with something turned -/
abbrev rP (a b c : Int) (cs : List Int) (ms : List Mk) (z2 z3 z4 : Option D) : Rho := [some (bag a b c cs), some (.tup (MK ms)), z2, z3, z4, none, none]
def asgP : MS := sAsg (eTup (eCons (eHeld 0 (eDef1 2 d_law_take 0 (eaP (mCons (mC (.int 7)) mNil)))) (eCons (eHeld 0 (eDef1 2 d_law_take 0 (eaP (mCons (m2 gAdd (mCall fLen (mCons (mVar 1) mNil)) (mC (.int 1))) mNil)))) (eCons (eHeld 0 (eDef1 2 d_law_take 0 (eaP (mCons (m2 gAdd (mCall fLen (mCons (mVar 1) mNil)) (mC (.int 1))) mNil)))) eNil)))) (tTp 3 (tsCons (tN 2) (tsCons (tN 3) (tsCons (tN 4) tsNil))))
def ret0 : ME := eP (m2 gAdd (mSl (mVar 1) mNoPart (mPart (mVar 3))) (mSl (mVar 1) (mPart (m2 gAdd (mVar 3) (mC (.int 1)))) mNoPart))
def ret1 : ME := e2 gAdd (e2 gAdd (eP (mSl (mVar 1) mNoPart (mPart (mVar 3)))) (eTup (eCons (eTup (eCons (eHeld 0 (eDef1 2 d_law_some 0 (eaP (mCons (mLst (mCons (mC (.str "in")) (mCons (mC (.str "out")) mNil))) mNil)))) (eCons (eHeld 0 (eDef1 2 d_law_some 0 (eaP (mCons (mLst (mCons (mC (.str "a")) (mCons (mC (.str "b")) mNil))) mNil)))) eNil))) eNil))) (eP (mSl (mVar 1) (mPart (mVar 3)) mNoPart))
def ret2 : ME := e2 gAdd (e2 gAdd (eP (mSl (mVar 1) mNoPart (mPart (mVar 3)))) (eTup (eCons (eTup (eCons (eP (m2 gIx (m2 gIx (mVar 1) (mVar 3)) (mC (.int 0)))) (eCons (eHeld 0 (eDef1 2 d_law_some 0 (eaP (mCons (mLst (mCons (mC (.str "a")) (mCons (mC (.str "b")) (mCons (mC (.str "c")) mNil)))) mNil)))) eNil))) eNil))) (eP (mSl (mVar 1) (mPart (m2 gAdd (mVar 3) (mC (.int 1)))) mNoPart))
def elt3 : Rho → Option (O D) := mIf (mT (m2 gEq (mVar 5) (mVar 3))) (m2 gIx (mVar 1) (mVar 4)) (mIf (mT (m2 gEq (mVar 5) (mVar 4))) (m2 gIx (mVar 1) (mVar 3)) (mVar 6))
def ret3 : ME := eP (mCall fTup (mCons (pLc (wpEnum (mCons (mVar 1) mNil)) (tTp 2 (tsCons (tN 5) (tsCons (tN 6) tsNil))) pYes elt3 [5, 6]) mNil))
def ret4 : ME := eP (mSl (mVar 1) mNoPart (mPart (mVar 3)))
def ret5 : ME := eP (mIf (mT (m2 gEq (mVar 2) (mC (.int 5)))) (m2 gAdd (mVar 1) (mSl (mVar 1) (mPart (mVar 3)) mNoPart)) (mVar 1))
def ltK : Rho → Option (O Bool) := mT (m2 gLt (mVar 3) (mCall fLen (mCons (mVar 1) mNil)))
def ltJ : Rho → Option (O Bool) := mT (m2 gLt (mVar 4) (mCall fLen (mCons (mVar 1) mNil)))
def wayN (i : Int) : Rho → Option (O Bool) := mT (m2 gEq (mVar 2) (mC (.int i)))
theorem spoilt_is : b_law_spoilt = sSeq asgP (sSeq (sIf (etP (wayN 0)) (sRet ret0) sNx) (sSeq (sIf (etP (wayN 1)) (sRet ret1) sNx) (sSeq (sIf (etP (mAndT (wayN 2) ltK)) (sRet ret2) sNx) (sSeq (sIf (etP (mAndT (wayN 3) (mAndT ltK ltJ))) (sRet ret3) sNx) (sSeq (sIf (etP (wayN 4)) (sRet ret4) sNx) (sRet ret5)))))) := rfl
/-- a row of marks out of those that are known -/
theorem mk_back {P : Mk → Prop} : ∀ {L : List D}, (∀ x ∈ L, ∃ m, x = mk m ∧ P m) → ∃ ms', L = MK ms' ∧ (∀ m ∈ ms', P m) ∧ ms'.length = L.length
  | [], _ => ⟨[], rfl, fun m h => (by cases h), rfl⟩
  | x :: L, h => by
    obtain ⟨m, e, p⟩ := h x (List.mem_cons_self ..)
    obtain ⟨ms, e2, p2, l2⟩ := mk_back (L := L) fun y hy => h y (List.mem_cons_of_mem _ hy)
    refine ⟨m :: ms, by rw [e, e2]; rfl, fun m' hm => ?_, by simp only [List.length_cons, l2]⟩
    rcases List.mem_cons.mp hm with rfl | hm
    · exact p
    · exact p2 m' hm
section
variable {a b c k j w : Int} {cs : List Int} {ms : List Mk}
abbrev rQ (a b c : Int) (cs : List Int) (ms : List Mk) (w k j : Int) : Rho := rP a b c cs ms (some (.int w)) (some (.int k)) (some (.int j))
theorem MKf (l : List Mk) : (D.tup (MK l)).frz = true := MK_fz l
theorem slU : mSl (mVar 1) mNoPart (mPart (mVar 3)) (rQ a b c cs ms w k j) = some (.ok (.tup (MK (OP.cutD ms none (some k))))) := by
  unfold MK
  rw [← cut_map]
  rfl
theorem slD : mSl (mVar 1) (mPart (mVar 3)) mNoPart (rQ a b c cs ms w k j) = some (.ok (.tup (MK (OP.cutD ms (some k) none)))) := by
  unfold MK
  rw [← cut_map]
  rfl
theorem slE : mSl (mVar 1) (mPart (m2 gAdd (mVar 3) (mC (.int 1)))) mNoPart (rQ a b c cs ms w k j) = some (.ok (.tup (MK (OP.cutD ms (some (k + 1)) none)))) := by
  unfold MK
  rw [← cut_map]
  rfl
theorem addM {x y : List Mk} (h : x.length + y.length ≤ 16777216) : gAdd (.tup (MK x)) (.tup (MK y)) = some (.tup (MK (x ++ y))) := by
  rw [tup_add (by rw [MK_len, MK_len]; exact h), MK_app]
theorem lnM {z2 z3 z4 : Option D} : mCall fLen (mCons (mVar 1) mNil) (rP a b c cs ms z2 z3 z4) = some (.ok (.int (ms.length : Int))) := by
  refine mCall_ok (l := [.tup (MK ms)]) rfl ?_
  show some (D.int ((MK ms).length : Nat)) = _
  rw [MK_len]
/-- what a way of turning gives -/
def Gives (r : Option (O Fl × Rho)) (cs : List Int) (ms : List Mk) : Prop := ∃ ms' ρ' a' b' c', r = some (.ok (.ret (.tup (MK ms'))), some (bag a' b' c' cs) :: ρ') ∧ BagOk a' b' c' cs ∧ Nm ms' ∧ ms'.length ≤ 2 * ms.length + 1
theorem w_in' {n : Str} (h : n ∈ (["in", "out"] : List Str)) : ∃ b, n = wrd b := by
  simp only [List.mem_cons, List.not_mem_nil, or_false] at h
  rcases h with rfl | rfl
  · exact ⟨true, rfl⟩
  · exact ⟨false, rfl⟩
theorem one_ok' {ρ : Rho} {M1 M2 : Rho → Option (O D)} : True := trivial
theorem give0 (h : BagOk a b c cs) (hn : Nm ms) (hl : ms.length ≤ 1000) : Gives (sRet ret0 (rQ a b c cs ms w k j)) cs ms := by
  obtain ⟨m1, l1⟩ := cut_mem (l := ms) (lo := none) (hi := some k)
  obtain ⟨m3, l3⟩ := cut_mem (l := ms) (lo := some (k + 1)) (hi := none)
  refine ⟨OP.cutD ms none (some k) ++ OP.cutD ms (some (k + 1)) none, _, a, b, c, sRet_ok (eP_ok (m2_ok slU slE (addM (by omega))) (MKf _)), h, fun m hm => ?_, by rw [List.length_append]; omega⟩
  rcases List.mem_append.mp hm with hm | hm
  · exact hn m (m1 m hm)
  · exact hn m (m3 m hm)
theorem give1 (h : BagOk a b c cs) (hn : Nm ms) (hl : ms.length ≤ 1000) : Gives (sRet ret1 (rQ a b c cs ms w k j)) cs ms := by
  obtain ⟨m1, l1⟩ := cut_mem (l := ms) (lo := none) (hi := some k)
  obtain ⟨m3, l3⟩ := cut_mem (l := ms) (lo := some k) (hi := none)
  obtain ⟨wd, a1, b1, c1, e1, hw, h1⟩ := text_ok (ρ := rQ a b c cs ms w k j) (i := 0) (M := mLst (mCons (mC (.str "in")) (mCons (mC (.str "out")) mNil))) (l := ["in", "out"]) rfl h rfl (by decide) (by decide)
  obtain ⟨n, a2, b2, c2, e2, hn2, h2⟩ := text_ok (ρ := rQ a1 b1 c1 cs ms w k j) (i := 0) (M := mLst (mCons (mC (.str "a")) (mCons (mC (.str "b")) mNil))) (l := ["a", "b"]) rfl h1 rfl (by decide) (by decide)
  obtain ⟨bb, rfl⟩ := w_in' hw
  have hnn : n ∈ NMS := by
    simp only [List.mem_cons, List.not_mem_nil, or_false] at hn2
    rcases hn2 with rfl | rfl <;> decide
  have t1 : eTup (eCons (eHeld 0 (eDef1 2 d_law_some 0 (eaP (mCons (mLst (mCons (mC (.str "in")) (mCons (mC (.str "out")) mNil))) mNil)))) (eCons (eHeld 0 (eDef1 2 d_law_some 0 (eaP (mCons (mLst (mCons (mC (.str "a")) (mCons (mC (.str "b")) mNil))) mNil)))) eNil)) (rQ a b c cs ms w k j) = some (.ok (mk (bb, n)), rQ a2 b2 c2 cs ms w k j) := by
    refine eTup_ok (l := [.str (wrd bb), .str n]) ?_ rfl (by show 2 ≤ 16777216; decide)
    refine eCons_ok e1 ?_
    exact eCons_ok e2 rfl
  have t2 := eTup_ok (eCons_ok t1 eNil_ok) (f := show D.frzs [mk (bb, n)] = true from rfl) (n := by show 1 ≤ 16777216; decide)
  have p1 : eP (mSl (mVar 1) mNoPart (mPart (mVar 3))) (rQ a b c cs ms w k j) = some (.ok (.tup (MK (OP.cutD ms none (some k)))), rQ a b c cs ms w k j) := eP_ok slU (MKf _)
  have p12 := e2_ok (f := gAdd) (z := .tup (MK (OP.cutD ms none (some k) ++ [(bb, n)]))) p1 t2 (MKf _) (addM (y := [(bb, n)]) (by simp only [List.length_cons, List.length_nil]; omega))
  have p3 : eP (mSl (mVar 1) (mPart (mVar 3)) mNoPart) (rQ a2 b2 c2 cs ms w k j) = some (.ok (.tup (MK (OP.cutD ms (some k) none))), rQ a2 b2 c2 cs ms w k j) := eP_ok slD (MKf _)
  have p := e2_ok (f := gAdd) (z := .tup (MK (OP.cutD ms none (some k) ++ [(bb, n)] ++ OP.cutD ms (some k) none))) p12 p3 (MKf _) (addM (by simp only [List.length_append, List.length_cons, List.length_nil]; omega))
  refine ⟨_, _, a2, b2, c2, sRet_ok p, h2, fun m hm => ?_, by simp only [List.length_append, List.length_cons, List.length_nil]; omega⟩
  simp only [List.mem_append, List.mem_cons, List.not_mem_nil, or_false] at hm
  rcases hm with (hm | rfl) | hm
  · exact hn m (m1 m hm)
  · exact hnn
  · exact hn m (m3 m hm)
theorem at_mk (k0 : 0 ≤ k) (hk : k < (ms.length : Int)) : ∃ m, m ∈ ms ∧ atI (MK ms) k = some (mk m) := by
  have hv : k.toNat < ms.length := by omega
  refine ⟨ms[k.toNat], List.getElem_mem .., ?_⟩
  unfold atI ixN
  rw [if_pos k0, if_pos (by rw [MK_len]; exact hk)]
  show (MK ms)[k.toNat]? = _
  unfold MK
  rw [List.getElem?_map, List.getElem?_eq_getElem hv]
  rfl
theorem give2 (h : BagOk a b c cs) (hn : Nm ms) (hl : ms.length ≤ 1000) (k0 : 0 ≤ k) (hk : k < (ms.length : Int)) : Gives (sRet ret2 (rQ a b c cs ms w k j)) cs ms := by
  obtain ⟨m1, l1⟩ := cut_mem (l := ms) (lo := none) (hi := some k)
  obtain ⟨m3, l3⟩ := cut_mem (l := ms) (lo := some (k + 1)) (hi := none)
  have cl := cut_len (l := ms) k0 hk
  obtain ⟨q, hq, eq⟩ := at_mk k0 hk
  obtain ⟨n, a2, b2, c2, e2, hn2, h2⟩ := text_ok (ρ := rQ a b c cs ms w k j) (i := 0) (M := mLst (mCons (mC (.str "a")) (mCons (mC (.str "b")) (mCons (mC (.str "c")) mNil)))) (l := ["a", "b", "c"]) rfl h rfl (by decide) (by decide)
  have hnn : n ∈ NMS := by
    simp only [List.mem_cons, List.not_mem_nil, or_false] at hn2
    rcases hn2 with rfl | rfl | rfl <;> decide
  have t1 : eTup (eCons (eP (m2 gIx (m2 gIx (mVar 1) (mVar 3)) (mC (.int 0)))) (eCons (eHeld 0 (eDef1 2 d_law_some 0 (eaP (mCons (mLst (mCons (mC (.str "a")) (mCons (mC (.str "b")) (mCons (mC (.str "c")) mNil)))) mNil)))) eNil)) (rQ a b c cs ms w k j) = some (.ok (mk (q.1, n)), rQ a2 b2 c2 cs ms w k j) := by
    refine eTup_ok (l := [.str (wrd q.1), .str n]) ?_ rfl (by show 2 ≤ 16777216; decide)
    refine eCons_ok (ρ1 := rQ a b c cs ms w k j) (eP_ok (m2_ok (x := mk q) (y := .int 0) (m2_ok (x := .tup (MK ms)) (y := .int k) rfl rfl eq) rfl rfl) rfl) ?_
    exact eCons_ok e2 rfl
  have t2 := eTup_ok (eCons_ok t1 eNil_ok) (f := show D.frzs [mk (q.1, n)] = true from rfl) (n := by show 1 ≤ 16777216; decide)
  have p1 : eP (mSl (mVar 1) mNoPart (mPart (mVar 3))) (rQ a b c cs ms w k j) = some (.ok (.tup (MK (OP.cutD ms none (some k)))), rQ a b c cs ms w k j) := eP_ok slU (MKf _)
  have p12 := e2_ok (f := gAdd) (z := .tup (MK (OP.cutD ms none (some k) ++ [(q.1, n)]))) p1 t2 (MKf _) (addM (y := [(q.1, n)]) (by simp only [List.length_cons, List.length_nil]; omega))
  have p3 : eP (mSl (mVar 1) (mPart (m2 gAdd (mVar 3) (mC (.int 1)))) mNoPart) (rQ a2 b2 c2 cs ms w k j) = some (.ok (.tup (MK (OP.cutD ms (some (k + 1)) none))), rQ a2 b2 c2 cs ms w k j) := eP_ok slE (MKf _)
  have p := e2_ok (f := gAdd) (z := .tup (MK (OP.cutD ms none (some k) ++ [(q.1, n)] ++ OP.cutD ms (some (k + 1)) none))) p12 p3 (MKf _) (addM (by simp only [List.length_append, List.length_cons, List.length_nil]; omega))
  refine ⟨_, _, a2, b2, c2, sRet_ok p, h2, fun m hm => ?_, by simp only [List.length_append, List.length_cons, List.length_nil]; omega⟩
  simp only [List.mem_append, List.mem_cons, List.not_mem_nil, or_false] at hm
  rcases hm with (hm | rfl) | hm
  · exact hn m (m1 m hm)
  · exact hnn
  · exact hn m (m3 m hm)
theorem give3 (h : BagOk a b c cs) (hn : Nm ms) (hl : ms.length ≤ 1000) (k0 : 0 ≤ k) (hk : k < (ms.length : Int)) (j0 : 0 ≤ j) (hj : j < (ms.length : Int)) : Gives (sRet ret3 (rQ a b c cs ms w k j)) cs ms := by
  obtain ⟨q, hq, eq⟩ := at_mk k0 hk
  obtain ⟨p, hp, ep⟩ := at_mk j0 hj
  let F : D → D := fun d => match d with
    | .tup [.int i, x] => if i = k then mk p else if i = j then mk q else x
    | _ => .non
  have fe : D.frzs (enumD (MK ms)) = true := frzs_of fun x hx => by
    obtain ⟨y, hy, rfl⟩ := List.mem_map.mp hx
    have := frzs_mem (MK_fz ms) y.1 (List.fst_mem_of_mem_zipIdx hy)
    show (true && (y.1.frz && true)) = true
    rw [this]
    rfl
  have ln : (enumD (MK ms)).length = ms.length := by unfold enumD; rw [List.length_map, List.length_zipIdx, MK_len]
  have mem : ∀ d ∈ enumD (MK ms), ∃ (i : Nat) (m : Mk), d = .tup [.int (i : Nat), mk m] ∧ m ∈ ms := fun d hd => by
    obtain ⟨y, hy, rfl⟩ := List.mem_map.mp hd
    obtain ⟨m, hm, e⟩ := List.mem_map.mp (List.fst_mem_of_mem_zipIdx hy)
    exact ⟨y.2, m, by rw [e], hm⟩
  have lc : lcP (tTp 2 (tsCons (tN 5) (tsCons (tN 6) tsNil))) pYes elt3 (rQ a b c cs ms w k j) (enumD (MK ms)) = some ((enumD (MK ms)).map F) := by
    have := lcP_go (ρ := rQ a b c cs ms w k j) (t := tTp 2 (tsCons (tN 5) (tsCons (tN 6) tsNil))) (c := pYes) (me := elt3) (G := fun _ => true) (F := F) (ds := enumD (MK ms)) fun d hd => by
      obtain ⟨i, m, rfl, hm⟩ := mem d hd
      refine ⟨[some (bag a b c cs), some (.tup (MK ms)), some (.int w), some (.int k), some (.int j), some (.int (i : Nat)), some (mk m)], rfl, rfl, fun _ => ⟨?_, ?_⟩⟩
      · have c1 : mT (m2 gEq (mVar 5) (mVar 3)) [some (bag a b c cs), some (.tup (MK ms)), some (.int w), some (.int k), some (.int j), some (.int (i : Nat)), some (mk m)] = some (.ok (decide ((i : Int) = k))) := mT_ok (m2_ok rfl rfl gEq_int)
        have c2 : mT (m2 gEq (mVar 5) (mVar 4)) [some (bag a b c cs), some (.tup (MK ms)), some (.int w), some (.int k), some (.int j), some (.int (i : Nat)), some (mk m)] = some (.ok (decide ((i : Int) = j))) := mT_ok (m2_ok rfl rfl gEq_int)
        unfold elt3
        rw [mIf_b c1]
        show _ = some (O.ok (if (i : Int) = k then mk p else if (i : Int) = j then mk q else mk m))
        by_cases h1 : (i : Int) = k
        · rw [decide_eq_true h1, if_pos rfl, if_pos h1]
          exact m2_ok (x := .tup (MK ms)) (y := .int j) rfl rfl ep
        · rw [decide_eq_false h1, if_neg (by decide), if_neg h1, mIf_b c2]
          by_cases h2 : (i : Int) = j
          · rw [decide_eq_true h2, if_pos rfl, if_pos h2]
            exact m2_ok (x := .tup (MK ms)) (y := .int k) rfl rfl eq
          · rw [decide_eq_false h2, if_neg (by decide), if_neg h2]
            rfl
      · show (if (i : Int) = k then mk p else if (i : Int) = j then mk q else mk m).frz = true
        split
        · rfl
        · split <;> rfl
    rw [filter_yes] at this
    exact this
  obtain ⟨ms', e', p', l'⟩ := mk_back (P := fun m => m ∈ ms) (L := (enumD (MK ms)).map F) fun x hx => by
    obtain ⟨d, hd, rfl⟩ := List.mem_map.mp hx
    obtain ⟨i, m, rfl, hm⟩ := mem d hd
    show ∃ m', (if (i : Int) = k then mk p else if (i : Int) = j then mk q else mk m) = mk m' ∧ _
    split
    · exact ⟨p, rfl, hp⟩
    · split
      · exact ⟨q, rfl, hq⟩
      · exact ⟨m, rfl, hm⟩
  have wk : wpEnum (mCons (mVar 1) mNil) (rQ a b c cs ms w k j) = some (.ok (enumD (MK ms))) := by
    unfold wpEnum
    show bnd (some (O.ok [D.tup (MK ms)])) _ = _
    rw [bnd_ok, frzs1 (x := .tup (MK ms)) (MK_fz ms)]
    rfl
  rw [e'] at lc
  have kp : pLc (wpEnum (mCons (mVar 1) mNil)) (tTp 2 (tsCons (tN 5) (tsCons (tN 6) tsNil))) pYes elt3 [5, 6] (rQ a b c cs ms w k j) = some (.ok (.lst false (MK ms'))) := pLc_ok wk fe lc (by rw [MK_len, l', List.length_map, ln]; omega)
  refine ⟨ms', _, a, b, c, sRet_ok (eP_ok (mCall_ok (l := [.lst false (MK ms')]) (mCons_ok kp rfl) ?_) (MKf _)), h, fun m hm => hn m (p' m hm), by rw [l', List.length_map, ln]; omega⟩
  show (if D.frzs (MK ms') = true then some (D.tup (MK ms')) else none) = _
  rw [MK_fz]
  rfl
theorem give4 (h : BagOk a b c cs) (hn : Nm ms) (hl : ms.length ≤ 1000) : Gives (sRet ret4 (rQ a b c cs ms w k j)) cs ms := by
  obtain ⟨m1, l1⟩ := cut_mem (l := ms) (lo := none) (hi := some k)
  exact ⟨OP.cutD ms none (some k), _, a, b, c, sRet_ok (eP_ok slU (MKf _)), h, fun m hm => hn m (m1 m hm), by omega⟩
theorem give5 (h : BagOk a b c cs) (hn : Nm ms) (hl : ms.length ≤ 1000) : Gives (sRet ret5 (rQ a b c cs ms w k j)) cs ms := by
  obtain ⟨m3, l3⟩ := cut_mem (l := ms) (lo := some k) (hi := none)
  have c1 : mT (m2 gEq (mVar 2) (mC (.int 5))) (rQ a b c cs ms w k j) = some (.ok (decide (w = 5))) := mT_ok (m2_ok rfl rfl gEq_int)
  by_cases hw : w = 5
  · refine ⟨ms ++ OP.cutD ms (some k) none, _, a, b, c, sRet_ok (eP_ok ?_ (MKf _)), h, fun m hm => ?_, by rw [List.length_append]; omega⟩
    · rw [mIf_b c1, decide_eq_true hw, if_pos rfl]
      exact m2_ok (x := .tup (MK ms)) rfl slD (addM (by omega))
    · rcases List.mem_append.mp hm with hm | hm
      · exact hn m hm
      · exact hn m (m3 m hm)
  · refine ⟨ms, _, a, b, c, sRet_ok (eP_ok (d := .tup (MK ms)) ?_ (MKf _)), h, hn, by omega⟩
    rw [mIf_b c1, decide_eq_false hw, if_neg (by decide)]
    rfl
theorem spoilt_ok (h : BagOk a b c cs) (hn : Nm ms) (hl : ms.length ≤ 1000) : ∃ ms' a' b' c', d_law_spoilt [bag a b c cs, .tup (MK ms)] = some (.ok (.tup (MK ms')), [bag a' b' c' cs]) ∧ BagOk a' b' c' cs ∧ Nm ms' ∧ ms'.length ≤ 2 * ms.length + 1 := by
  obtain ⟨w, a1, b1, c1, e1, w0, w1, h1⟩ := take_ok (ρ := rP a b c cs ms none none none) (i := 0) (M := mC (.int 7)) (m := 7) rfl h rfl (by decide)
  obtain ⟨k, a2, b2, c2, e2, k0, k1, h2⟩ := take_ok (ρ := rP a1 b1 c1 cs ms none none none) (i := 0) (M := m2 gAdd (mCall fLen (mCons (mVar 1) mNil)) (mC (.int 1))) (m := (ms.length : Int) + 1) rfl h1 (m2_ok lnM rfl rfl) (by omega)
  obtain ⟨j, a3, b3, c3, e3, j0, j1, h3⟩ := take_ok (ρ := rP a2 b2 c2 cs ms none none none) (i := 0) (M := m2 gAdd (mCall fLen (mCons (mVar 1) mNil)) (mC (.int 1))) (m := (ms.length : Int) + 1) rfl h2 (m2_ok lnM rfl rfl) (by omega)
  have as : asgP (rP a b c cs ms none none none) = some (.ok .nx, rQ a3 b3 c3 cs ms w k j) := by
    unfold asgP sAsg
    have ec : eCons (eHeld 0 (eDef1 2 d_law_take 0 (eaP (mCons (mC (.int 7)) mNil)))) (eCons (eHeld 0 (eDef1 2 d_law_take 0 (eaP (mCons (m2 gAdd (mCall fLen (mCons (mVar 1) mNil)) (mC (.int 1))) mNil)))) (eCons (eHeld 0 (eDef1 2 d_law_take 0 (eaP (mCons (m2 gAdd (mCall fLen (mCons (mVar 1) mNil)) (mC (.int 1))) mNil)))) eNil)) (rP a b c cs ms none none none) = some (.ok [.int w, .int k, .int j], rP a3 b3 c3 cs ms none none none) := by
      refine eCons_ok e1 ?_
      refine eCons_ok e2 ?_
      exact eCons_ok e3 rfl
    rw [eTup_ok ec rfl (by show 3 ≤ 16777216; decide), bE_ok]
    rfl
  have way : ∀ i, wayN i (rQ a3 b3 c3 cs ms w k j) = some (.ok (decide (w = i))) := fun i => mT_ok (m2_ok rfl rfl gEq_int)
  have lk : ltK (rQ a3 b3 c3 cs ms w k j) = some (.ok (decide (k < (ms.length : Int)))) := mT_ok (m2_ok rfl lnM rfl)
  have lj : ltJ (rQ a3 b3 c3 cs ms w k j) = some (.ok (decide (j < (ms.length : Int)))) := mT_ok (m2_ok rfl lnM rfl)
  have fin : Gives (b_law_spoilt (rP a b c cs ms none none none)) cs ms := by
    rw [spoilt_is, sSeq_nx as]
    have go : ∀ {x y : MS} {t : Rho → Option (O Bool)} {b : Bool}, t (rQ a3 b3 c3 cs ms w k j) = some (.ok b) → (b = true → Gives (x (rQ a3 b3 c3 cs ms w k j)) cs ms) → (b = false → Gives (y (rQ a3 b3 c3 cs ms w k j)) cs ms) → Gives (sSeq (sIf (etP t) x sNx) y (rQ a3 b3 c3 cs ms w k j)) cs ms := by
      intro x y t b ht hx hy
      cases b with
      | true =>
        obtain ⟨ms', ρ', a', b', c', e, r⟩ := hx rfl
        refine ⟨ms', ρ', a', b', c', sSeq_ret ?_, r⟩
        rw [sIf_t ht, if_pos rfl]
        exact e
      | false =>
        rw [sSeq_nx (ρ1 := rQ a3 b3 c3 cs ms w k j) (by rw [sIf_t ht, if_neg (by decide)]; rfl)]
        exact hy rfl
    refine go (way 0) (fun _ => give0 h3 hn hl) fun _ => ?_
    refine go (way 1) (fun _ => give1 h3 hn hl) fun _ => ?_
    have t2 : mAndT (wayN 2) ltK (rQ a3 b3 c3 cs ms w k j) = some (.ok (decide (w = 2) && decide (k < (ms.length : Int)))) := by
      cases e : decide (w = 2) with
      | true => rw [mAndT_t (by rw [way 2, e]), lk]; rfl
      | false => rw [mAndT_f (by rw [way 2, e])]; rfl
    refine go t2 (fun hb => give2 h3 hn hl k0 (by simp only [Bool.and_eq_true, decide_eq_true_eq] at hb; exact hb.2)) fun _ => ?_
    have t3 : mAndT (wayN 3) (mAndT ltK ltJ) (rQ a3 b3 c3 cs ms w k j) = some (.ok (decide (w = 3) && (decide (k < (ms.length : Int)) && decide (j < (ms.length : Int))))) := by
      cases e : decide (w = 3) with
      | true =>
        rw [mAndT_t (by rw [way 3, e])]
        cases e2 : decide (k < (ms.length : Int)) with
        | true => rw [mAndT_t (by rw [lk, e2]), lj]; rfl
        | false => rw [mAndT_f (by rw [lk, e2])]; rfl
      | false => rw [mAndT_f (by rw [way 3, e])]; rfl
    refine go t3 (fun hb => by
      simp only [Bool.and_eq_true, decide_eq_true_eq] at hb
      exact give3 h3 hn hl k0 hb.2.1 j0 hb.2.2) fun _ => ?_
    exact go (way 4) (fun _ => give4 h3 hn hl) fun _ => give5 h3 hn hl
  obtain ⟨ms', ρ', a', b', c', e, hb, hn', hl'⟩ := fin
  exact ⟨ms', a', b', c', den_ret e rfl, hb, hn', hl'⟩
end
/-! ### what is no marks -/
def badE : List D := [.tup [.str "in"], .lst false [.str "in", .str "a"], .tup [.str "on", .str "a"], .tup [.str "in", .str "page"], .tup [.str "in", .str "a", .str "b"]]
def badT : List D := [.tup [.str "in", .int 3], .non, .tup [.str "out", .str "A"], .tup [.bl true, .str "a"]]
theorem bad_ok : ((badE ++ badT).all fun x => eltB x && !vB x) = true := by decide +kernel
theorem bad_elt {x : D} (h : x ∈ badE ++ badT) : Elt x false := by
  have := List.all_eq_true.mp bad_ok x h
  simp only [Bool.and_eq_true, Bool.not_eq_true'] at this
  exact elt_is this.1 this.2
def TH (ms : List Mk) : List D := (D.lst false (MK ms)) :: (badE.map fun x => .tup (MK ms ++ [x])) ++ ([.non, .str "in"] ++ badT.map fun x => .tup [x])
theorem th_ok {ms : List Mk} (h : Nm ms) (hl : ms.length ≤ 1000) : ∀ x ∈ TH ms, x.frz = true ∧ d_are_marks [x] = some (.ok (.bl false), []) := by
  have tupB : ∀ {xs : List D} {x : D}, Elts xs → Elt x false → x ∈ xs → xs.length ≤ 2000 → (D.tup xs).frz = true ∧ d_are_marks [.tup xs] = some (.ok (.bl false), []) := fun {xs x} he hx hm hxl => by
    refine ⟨he.fz, ?_⟩
    have := are_tup he (by omega)
    have e : xs.all vB = false := by
      cases c : xs.all vB with
      | false => rfl
      | true =>
        have := List.all_eq_true.mp c x hm
        rw [hx.v] at this
        cases this
    rw [e] at this
    exact this
  intro x hx
  simp only [TH, List.cons_append, List.mem_cons, List.mem_append, List.mem_map, List.nil_append] at hx
  rcases hx with rfl | ⟨y, hy, rfl⟩ | rfl | rfl | ⟨y, hy, rfl⟩
  · have f : (D.lst false (MK ms)).frz = true := frz_lst (MK_fz ms)
    exact ⟨f, are_ok f rfl⟩
  · have el := bad_elt (List.mem_append_left _ hy)
    refine tupB (x := y) (fun z hz => ?_) el (List.mem_append_right _ (List.mem_singleton.mpr rfl)) (by rw [List.length_append, MK_len, List.length_cons, List.length_nil]; omega)
    rcases List.mem_append.mp hz with hz | hz
    · exact mk_elts h z hz
    · rw [List.mem_singleton.mp hz]; exact ⟨false, el⟩
  · exact ⟨rfl, are_ok rfl rfl⟩
  · exact ⟨rfl, are_ok rfl rfl⟩
  · have el := bad_elt (List.mem_append_right _ hy)
    exact tupB (x := y) (fun z hz => (by rw [List.mem_singleton.mp hz]; exact ⟨false, el⟩)) el (List.mem_singleton.mpr rfl) (by show 1 ≤ 2000; decide)
theorem things_ok {ms : List Mk} (h : Nm ms) (hl : ms.length ≤ 1000) : d_law_things [.tup (MK ms)] = some (.ok (.lst false (TH ms)), []) := by
  have hf : D.frzs (TH ms) = true := frzs_of fun x hx => (th_ok h hl x hx).1
  have f1 : D.frzs ((D.lst false (MK ms)) :: (badE.map fun x => .tup (MK ms ++ [x]))) = true := frzs_of fun x hx => (th_ok h hl x (List.mem_append_left _ hx)).1
  have fm := MK_fz ms
  have add1 : ∀ {x : D}, gAdd (.tup (MK ms)) (.tup [x]) = some (.tup (MK ms ++ [x])) := fun {x} => tup_add (by rw [MK_len]; show ms.length + 1 ≤ _; omega)
  have k1 : mLst (mCons (mCall (fun ds => (fLst ds).map (.lst false)) (mCons (mVar 0) mNil)) (mCons (m2 gAdd (mVar 0) (mTup (mCons (mTup (mCons (mC (.str "in")) mNil)) mNil))) (mCons (m2 gAdd (mVar 0) (mTup (mCons (mLst (mCons (mC (.str "in")) (mCons (mC (.str "a")) mNil))) mNil))) (mCons (m2 gAdd (mVar 0) (mTup (mCons (mTup (mCons (mC (.str "on")) (mCons (mC (.str "a")) mNil))) mNil))) (mCons (m2 gAdd (mVar 0) (mTup (mCons (mTup (mCons (mC (.str "in")) (mCons (mC (.str "page")) mNil))) mNil))) (mCons (m2 gAdd (mVar 0) (mTup (mCons (mTup (mCons (mC (.str "in")) (mCons (mC (.str "a")) (mCons (mC (.str "b")) mNil)))) mNil))) mNil)))))) [some (.tup (MK ms)), none] = some (.ok (.lst false ((D.lst false (MK ms)) :: (badE.map fun x => .tup (MK ms ++ [x]))))) := by
    refine mLst_ok (mCons_ok (mCall_ok (l := [.tup (MK ms)]) rfl ?_) (mCons_ok (m2_ok rfl rfl add1) (mCons_ok (m2_ok rfl rfl add1) (mCons_ok (m2_ok rfl rfl add1) (mCons_ok (m2_ok rfl rfl add1) (mCons_ok (m2_ok rfl rfl add1) rfl)))))) f1 (by show 6 ≤ 16777216; decide)
    show (if D.frzs (MK ms) = true then some (MK ms) else none).map (D.lst false) = _
    rw [fm]
    rfl
  refine den_ret (ρ := [some (.tup (MK ms)), some (.lst false ((D.lst false (MK ms)) :: (badE.map fun x => .tup (MK ms ++ [x]))))]) ?_ rfl
  show b_law_things [some (.tup (MK ms)), none] = _
  unfold b_law_things
  rw [sSeq_nx (sSet_eP k1 (frz_lst f1))]
  refine sRet_ok (eP_ok (m2_ok (x := .lst false ((D.lst false (MK ms)) :: (badE.map fun x => .tup (MK ms ++ [x])))) (y := .lst false ([.non, .str "in"] ++ badT.map fun x => .tup [x])) rfl rfl ?_) (frz_lst hf))
  show (if (D.frzs ((D.lst false (MK ms)) :: (badE.map fun x => .tup (MK ms ++ [x]))) && D.frzs ([.non, .str "in"] ++ badT.map fun x => .tup [x]) && decide (6 + 6 ≤ 16777216)) = true then _ else _) = _
  rw [f1]
  rfl
end K11

namespace K11
open PySem PySem.Spec PyProof.Rows L2 OP
/-! ### one round -/
theorem eqD_int {i j : Int} : eqD (.int i) (.int j) = some (decide (i = j)) := by
  unfold eqD
  have h : ∀ i : Int, SeqAt.shaped (.int i) = true := fun i => by unfold SeqAt.shaped; rfl
  simp only [D.py, h, Bool.and_self, if_true]
  show some (i == j) = _
  rfl
theorem MK_py {ms : List Mk} (h : Nm ms) : pyOk 6 (.tup (MK ms)) := pyOk_tup (n := 5) (mk_elts h).pyo
theorem rowD_py {l : List (Str × Int)} (h : ∀ p ∈ l, p.1 ∈ NMS) : pyOk 6 (.tup (rowD l)) := pyOk_tup (n := 5) (row_py h)
theorem str_pys : (pyB 3 (.str "out") && pyB 3 (.str "open")) = true := by decide +kernel
theorem two_py {x y : D} (hx : pyOk 5 x) (hy : pyOk 5 y) : pyOk 6 (.tup [x, y]) := pyOk_tup (n := 5) fun z hz => by
  rcases List.mem_cons.mp hz with rfl | hz
  · exact hx
  · rw [List.mem_singleton.mp hz]; exact hy
theorem fault_py (s : Sum Nat (List Str)) : pyOk 6 (faultD s) := by
  have h := str_pys
  simp only [Bool.and_eq_true] at h
  cases s with
  | inl j => exact two_py (pyOk_up int_py (by decide)) (pyOk_up (pyB_ok h.1) (by decide))
  | inr st =>
    cases st with
    | nil => exact ⟨.none, rfl, by simp only [PyData.canLay0], by simp only [PyData.depth]; omega⟩
    | cons n st => exact two_py (pyOk_up (pyB_ok h.2) (by decide)) (pyOk_up int_py (by decide))
theorem ne_self {n : Nat} {x : D} {ma mb : Rho → Option (O D)} {ρ : Rho} (ha : ma ρ = some (.ok x)) (hb : mb ρ = some (.ok x)) (h : pyOk n x) (hn : n ≤ 64) : mT (m2 gNe ma mb) ρ = some (.ok false) := mT_ok (m2_ok ha hb (gNe_of (eqD_self h hn)))
theorem call1 {den : Den} {i : Nat} {x z : D} {ρ : Rho} (hi : ρ[i]? = some (some x)) (fx : x.frz = true) (fz : z.frz = true) (h : den [x] = some (.ok z, [])) : mDef 1 den (mCons (mVar i) mNil) ρ = some (.ok z) := by
  have v : mVar i ρ = some (.ok x) := by unfold mVar; rw [hi]; rfl
  exact mDef_ok (l := [x]) (mCons_ok v rfl) (frzs1 fx) rfl fz h
theorem call1x {den : Den} {i : Nat} {x : D} {ρ : Rho} {ks : List Str} {vs : List D} (hi : ρ[i]? = some (some x)) (fx : x.frz = true) (h : den [x] = some (.exc "Nothing" ks vs, [])) : mLam "Nothing" (mDef 1 den (mCons (mVar i) mNil)) ρ = some (.ok (.bl true)) := by
  have v : mVar i ρ = some (.ok x) := by unfold mVar; rw [hi]; rfl
  exact mLam_exc (mDef_exc (l := [x]) (mCons_ok v rfl) (frzs1 fx) rfl h)
theorem var_at {i : Nat} {x : D} {ρ : Rho} (hi : ρ[i]? = some (some x)) : mVar i ρ = some (.ok x) := by unfold mVar; rw [hi]; rfl
abbrev no1 (t : Rho → Option (O Bool)) : MS := sIf (etP t) (sRet (eP (mC (.bl false)))) sNx
theorem no1_ok {t : Rho → Option (O Bool)} {ρ : Rho} (h : t ρ = some (.ok false)) : no1 t ρ = some (.ok .nx, ρ) := by
  show sIf _ _ _ ρ = _
  rw [sIf_t h, if_neg (by decide)]
  rfl
def t1 : Rho → Option (O Bool) := mOrT (mT (m2 gNe (mDef 1 d_marks_of (mCons (mVar 4) mNil)) (mVar 5))) (mOrT (mT (m2 gNe (mDef 1 d_row_told (mCons (mVar 5) mNil)) (mVar 4))) (mOrT (mT (m2 gIsNot (mDef 1 d_marks_fault (mCons (mVar 5) mNil)) (mC .non))) (mT (m2 gNe (mDef 1 d_deepest_open (mCons (mVar 5) mNil)) (mDef 1 d_law_deepest (mCons (mVar 5) mNil))))))
def t2 : Rho → Option (O Bool) := mOrT (mT (m2 gNe (mDef 1 d_marks_fault (mCons (mVar 7) mNil)) (mVar 8))) (mT (m2 gNotB (mDef 1 d_are_marks (mCons (mVar 7) mNil)) (mC (.bl true))))
def t3 : Rho → Option (O Bool) := mAndT (mT (m2 gIs (mVar 8) (mC .non))) (mT (m2 gNe (mDef 1 d_marks_of (mCons (mDef 1 d_row_told (mCons (mVar 7) mNil)) mNil)) (mVar 7)))
def t4 : Rho → Option (O Bool) := mAndT (mT (m2 gIsNot (mVar 8) (mC .non))) (mNotT (mT (mLam "Nothing" (mDef 1 d_row_told (mCons (mVar 7) mNil)))))
def t5 : Rho → Option (O Bool) := mAndT (mT (m2 gIsNot (mVar 8) (mC .non))) (mNotT (mT (mLam "Nothing" (mDef 1 d_deepest_open (mCons (mVar 7) mNil)))))
def body5 : MS := sSeq (sSet 7 (eFz (eHeld 1 (eDef1 2 d_law_spoilt 1 (eaP (mCons (mVar 5) mNil)))))) (sSeq (sSet 8 (eP (mDef 1 d_law_marks_fault (mCons (mVar 7) mNil)))) (sSeq (no1 t2) (sSeq (no1 t3) (sSeq (no1 t4) (no1 t5)))))
def t6 : Rho → Option (O Bool) := mOrT (mT (m2 gNe (mDef 1 d_marks_fault (mCons (mVar 7) mNil)) (mTup (mCons (mC (.str "form")) mNil)))) (mT (m2 gNotB (mDef 1 d_are_marks (mCons (mVar 7) mNil)) (mC (.bl false))))
def t7 : Rho → Option (O Bool) := mNotT (mT (mLam "Nothing" (mDef 1 d_row_told (mCons (mVar 7) mNil))))
def body6 : MS := sSeq (no1 t6) (no1 t7)
def t8 : Rho → Option (O Bool) := mNotT (mT (mDef 2 d_law_alike (mCons (mDef 1 d_is_mark (mCons (mVar 9) mNil)) (mCons (mDef 1 d_law_is_mark (mCons (mVar 9) mNil)) mNil))))
def nine : Rho → Option (O D) := mLst (mCons (mTup (mCons (mC (.str "in")) (mCons (mC (.str "a")) mNil))) (mCons (mTup (mCons (mC (.str "out")) (mCons (mC (.str "z9")) mNil))) (mCons (mLst (mCons (mC (.str "in")) (mCons (mC (.str "a")) mNil))) (mCons (mTup (mCons (mC (.str "in")) (mCons (mC (.str "root")) mNil))) (mCons (mTup (mCons (mC (.str "")) (mCons (mC (.str "a")) mNil))) (mCons (mTup (mCons (mC (.str "in")) mNil)) (mCons (mC .non) (mCons (mC (.str "in a")) (mCons (mTup (mCons (mC (.str "in")) (mCons (mC (.str "abcdefghi")) mNil))) mNil)))))))))
def nineL : List D := [.tup [.str "in", .str "a"], .tup [.str "out", .str "z9"], .lst false [.str "in", .str "a"], .tup [.str "in", .str "root"], .tup [.str "", .str "a"], .tup [.str "in"], .non, .str "in a", .tup [.str "in", .str "abcdefghi"]]
theorem nine_ok : nineL.all eltB = true := by decide +kernel
def bodyLap : MS := sSeq (sSet 3 (eFz (eHeld 1 (eDef1 3 d_law_some_trees 1 (eaP (mCons (mLst (mCons (mC (.str "a")) (mCons (mC (.str "b")) (mCons (mC (.str "c1")) mNil)))) (mCons (mC (.int 12)) mNil))))))) (sSeq (sPar 4 5 (eCons (eP (mDef 1 (d_law_flat 14) (mCons (mVar 3) mNil))) (eCons (eP (mDef 1 (d_law_marks_of 14) (mCons (mVar 3) mNil))) eNil))) (sSeq (no1 t1) (sSeq (sFor (wRng1 (eaP (mCons (mC (.int 5)) mNil))) (tN 6) body5) (sSeq (sFor (wE (eP (mDef 1 d_law_things (mCons (mVar 5) mNil)))) (tN 7) body6) (sFor (wE (eP nine)) (tN 9) (no1 t8))))))
theorem alike_bl (b : Bool) : d_law_alike [.bl b, .bl b] = some (.ok (.bl true), []) := by
  cases b <;> exact rb_eq (by decide +kernel)
theorem range_ok {n : Int} {ρ : Rho} {M : Rho → Option (O D)} (h : M ρ = some (.ok (.int n))) (hn : -(2 ^ 62) ≤ n ∧ n < 2 ^ 62) : wRng1 (eaP (mCons M mNil)) ρ = some (.ok ((List.range n.toNat).map fun (k : Nat) => D.int (0 + k)), ρ) := by
  unfold wRng1
  rw [eaP_ok (l := [.int n]) (mCons_ok h rfl) rfl, bE_ok]
  show (if -(2 ^ 62) ≤ n ∧ n < 2 ^ 62 then _ else none) = _
  rw [if_pos hn]
section
variable {a b c : Int} {cs : List Int} {s x2 x3 x4 x6 x7 x8 x9 x10 x11 : Option D}
abbrev rW (a b c : Int) (cs : List Int) (s x2 x3 x4 x5 x6 x7 x8 x9 x10 x11 : Option D) : Rho := [s, some (bag a b c cs), x2, x3, x4, x5, x6, x7, x8, x9, x10, x11]
theorem body5_ok {ms : List Mk} (h : BagOk a b c cs) (hn : Nm ms) (hl : ms.length ≤ 100) : ∃ a' b' c' y7 y8, body5 (rW a b c cs s x2 x3 x4 (some (.tup (MK ms))) x6 x7 x8 x9 x10 x11) = some (.ok .nx, rW a' b' c' cs s x2 x3 x4 (some (.tup (MK ms))) x6 y7 y8 x9 x10 x11) ∧ BagOk a' b' c' cs := by
  obtain ⟨ts, a1, b1, c1, e1, h1, tn, tl⟩ := spoilt_ok h hn (by omega)
  have eh : eHeld 1 (eDef1 2 d_law_spoilt 1 (eaP (mCons (mVar 5) mNil))) (rW a b c cs s x2 x3 x4 (some (.tup (MK ms))) x6 x7 x8 x9 x10 x11) = some (.ok (.tup (MK ts)), rW a1 b1 c1 cs s x2 x3 x4 (some (.tup (MK ms))) x6 x7 x8 x9 x10 x11) := by
    have fm : D.frzs [D.tup (MK ms)] = true := frzs1 (x := .tup (MK ms)) (MK_fz ms)
    unfold eHeld eDef1
    rw [eaP_ok (l := [.tup (MK ms)]) rfl fm]
    simp only [bE_ok, D.fzs_of fm]
    show (match d_law_spoilt [bag a b c cs, .tup (MK ms)] with
      | some (o, [d1]) => some (o, (rW a b c cs s x2 x3 x4 (some (.tup (MK ms))) x6 x7 x8 x9 x10 x11).set 1 (some d1))
      | _ => none) = _
    rw [e1]
    rfl
  have q1 : sSet 7 (eFz (eHeld 1 (eDef1 2 d_law_spoilt 1 (eaP (mCons (mVar 5) mNil))))) (rW a b c cs s x2 x3 x4 (some (.tup (MK ms))) x6 x7 x8 x9 x10 x11) = some (.ok .nx, rW a1 b1 c1 cs s x2 x3 x4 (some (.tup (MK ms))) x6 (some (.tup (MK ts))) x8 x9 x10 x11) := by
    have := sSet_ok (i := 7) (eFz_ok eh)
    rw [D.fz_of (MKf ts)] at this
    exact this
  have ff := faultD_frz (run [] ts 0)
  have fl := fault_ok tn (by omega)
  have q2 : sSet 8 (eP (mDef 1 d_law_marks_fault (mCons (mVar 7) mNil))) (rW a1 b1 c1 cs s x2 x3 x4 (some (.tup (MK ms))) x6 (some (.tup (MK ts))) x8 x9 x10 x11) = some (.ok .nx, rW a1 b1 c1 cs s x2 x3 x4 (some (.tup (MK ms))) x6 (some (.tup (MK ts))) (some (faultD (run [] ts 0))) x9 x10 x11) := sSet_eP (call1 rfl (MKf ts) ff (law_fault_ok tn (by omega))) ff
  refine ⟨a1, b1, c1, some (.tup (MK ts)), some (faultD (run [] ts 0)), ?_, h1⟩
  generalize hρ : rW a1 b1 c1 cs s x2 x3 x4 (some (.tup (MK ms))) x6 (some (.tup (MK ts))) (some (faultD (run [] ts 0))) x9 x10 x11 = ρ at q2
  have g7 : ρ[7]? = some (some (.tup (MK ts))) := by rw [← hρ]; rfl
  have g8 : ρ[8]? = some (some (faultD (run [] ts 0))) := by rw [← hρ]; rfl
  have v7 := var_at g7
  have v8 := var_at g8
  have ar : mDef 1 d_are_marks (mCons (mVar 7) mNil) ρ = some (.ok (.bl true)) := by
    have := are_tup (mk_elts tn) (by rw [List.length_map]; omega)
    rw [mk_v tn] at this
    exact call1 g7 (MKf ts) rfl this
  have k2 : t2 ρ = some (.ok false) := (mOrT_f (ne_self (call1 g7 (MKf ts) ff fl) v8 (fault_py _) (by decide))).trans (mT_ok (m2_ok ar rfl rfl))
  have isN : ∀ {r}, mT (m2 gIs (mVar 8) (mC .non)) ρ = r → r = some (.ok (faultD (run [] ts 0)).isNon) := fun {r} e => by
    rw [← e]
    exact mT_ok (m2_ok v8 rfl rfl)
  have is8 : mT (m2 gIs (mVar 8) (mC .non)) ρ = some (.ok (faultD (run [] ts 0)).isNon) := mT_ok (m2_ok v8 rfl rfl)
  have no8 : mT (m2 gIsNot (mVar 8) (mC .non)) ρ = some (.ok (!(faultD (run [] ts 0)).isNon)) := mT_ok (m2_ok v8 rfl rfl)
  have rest : t3 ρ = some (.ok false) ∧ t4 ρ = some (.ok false) ∧ t5 ρ = some (.ok false) := by
    by_cases e : run [] ts 0 = .inr []
    · have nn : (faultD (run [] ts 0)).isNon = true := by rw [e]; rfl
      rw [nn] at is8 no8
      refine ⟨?_, mAndT_f no8, mAndT_f no8⟩
      obtain ⟨g, eg⟩ := told e
      have gn : allN g := allN_of_marks (by rw [← eg]; exact tn)
      have gl := g.marks_len
      rw [← eg] at gl
      have to := told_ok tn (by omega) e
      rw [eg, tell_all, ← eg] at to
      have mo := marks_ok gn (by omega)
      rw [← eg] at mo
      have c1 := call1 g7 (MKf ts) (show (D.tup (rowD g.flat)).frz = true from rowD_fz _) to
      have c2 : mDef 1 d_marks_of (mCons (mDef 1 d_row_told (mCons (mVar 7) mNil)) mNil) ρ = some (.ok (.tup (MK ts))) := mDef_ok (l := [.tup (rowD g.flat)]) (mCons_ok c1 rfl) (frzs1 (x := .tup (rowD g.flat)) (rowD_fz _)) rfl (MKf ts) mo
      exact (mAndT_t is8).trans (ne_self c2 v7 (MK_py tn) (by decide))
    · have nn : (faultD (run [] ts 0)).isNon = false := by
        cases q : run [] ts 0 with
        | inl j => rfl
        | inr st =>
          cases st with
          | nil => exact absurd q e
          | cons n st => rfl
      rw [nn] at is8 no8
      have ck := check_no (MKf ts) fl ff nn
      refine ⟨mAndT_f is8, (mAndT_t no8).trans (mNotT_ok (a := true) (mT_ok (call1x g7 (MKf ts) (told_no (MKf ts) ck)))), (mAndT_t no8).trans (mNotT_ok (a := true) (mT_ok (call1x g7 (MKf ts) (deepest_no (MKf ts) ck))))⟩
  unfold body5
  rw [sSeq_nx q1, sSeq_nx q2, sSeq_nx (no1_ok k2), sSeq_nx (no1_ok rest.1), sSeq_nx (no1_ok rest.2.1)]
  exact no1_ok rest.2.2
theorem form_eq : eqD formD (.tup [.str "form"]) = some true := by decide +kernel
theorem body6_ok {x : D} {ρ : Rho} (g7 : ρ[7]? = some (some x)) (fx : x.frz = true) (hx : d_are_marks [x] = some (.ok (.bl false), [])) : body6 ρ = some (.ok .nx, ρ) := by
  have ff := fault_form fx hx
  have ck := check_no fx ff rfl rfl
  have k6 : t6 ρ = some (.ok false) := (mOrT_f (mT_ok (m2_ok (y := .tup [.str "form"]) (call1 g7 fx (show formD.frz = true from rfl) ff) rfl (gNe_of form_eq)))).trans (mT_ok (m2_ok (call1 g7 fx rfl hx) rfl rfl))
  have k7 : t7 ρ = some (.ok false) := mNotT_ok (a := true) (mT_ok (call1x g7 fx (told_no fx ck)))
  unfold body6
  rw [sSeq_nx (no1_ok k6)]
  exact no1_ok k7
theorem t8_ok {x : D} {ρ : Rho} (g9 : ρ[9]? = some (some x)) (h : eltB x = true) : no1 t8 ρ = some (.ok .nx, ρ) := by
  obtain ⟨b, el⟩ := elt_of h
  have k1 := call1 g9 el.fz rfl el.is1
  have k2 := call1 g9 el.fz rfl el.is2
  have k3 : mDef 2 d_law_alike (mCons (mDef 1 d_is_mark (mCons (mVar 9) mNil)) (mCons (mDef 1 d_law_is_mark (mCons (mVar 9) mNil)) mNil)) ρ = some (.ok (.bl true)) := mDef_ok (l := [.bl b, .bl b]) (mCons_ok k1 (mCons_ok k2 rfl)) rfl rfl rfl (alike_bl b)
  exact no1_ok (mNotT_ok (a := true) (mT_ok k3))
theorem lap_ok {x5 : Option D} (h : BagOk a b c cs) : ∃ a' b' c' y3 y4 y5 y6 y7 y8 y9, bodyLap (rW a b c cs s x2 x3 x4 x5 x6 x7 x8 x9 x10 x11) = some (.ok .nx, rW a' b' c' cs s x2 y3 y4 y5 y6 y7 y8 y9 x10 x11) ∧ BagOk a' b' c' cs := by
  obtain ⟨f, a1, b1, c1, e1, h1, fa, fs⟩ := trees_ok h
  have hd : f.depth < 14 := by have := f.depth_le; omega
  have fm := allN_marks fa
  have ml := f.marks_len
  have eh : eHeld 1 (eDef1 3 d_law_some_trees 1 (eaP (mCons (mLst (mCons (mC (.str "a")) (mCons (mC (.str "b")) (mCons (mC (.str "c1")) mNil)))) (mCons (mC (.int 12)) mNil)))) (rW a b c cs s x2 x3 x4 x5 x6 x7 x8 x9 x10 x11) = some (.ok (.tup (toD f)), rW a1 b1 c1 cs s x2 x3 x4 x5 x6 x7 x8 x9 x10 x11) := by
    have f1 : D.frzs [D.lst false (nms.map .str), .int 12] = true := rfl
    unfold eHeld eDef1
    rw [eaP_ok (l := [.lst false (nms.map .str), .int 12]) rfl f1]
    simp only [bE_ok, D.fzs_of f1]
    show (match d_law_some_trees [bag a b c cs, .lst false (nms.map .str), .int 12] with
      | some (o, [d1]) => some (o, (rW a b c cs s x2 x3 x4 x5 x6 x7 x8 x9 x10 x11).set 1 (some d1))
      | _ => none) = _
    rw [e1]
    rfl
  have ft : (D.tup (toD f)).frz = true := toD_fz f
  have q1 : sSet 3 (eFz (eHeld 1 (eDef1 3 d_law_some_trees 1 (eaP (mCons (mLst (mCons (mC (.str "a")) (mCons (mC (.str "b")) (mCons (mC (.str "c1")) mNil)))) (mCons (mC (.int 12)) mNil)))))) (rW a b c cs s x2 x3 x4 x5 x6 x7 x8 x9 x10 x11) = some (.ok .nx, rW a1 b1 c1 cs s x2 (some (.tup (toD f))) x4 x5 x6 x7 x8 x9 x10 x11) := by
    have := sSet_ok (i := 3) (eFz_ok eh)
    rw [D.fz_of ft] at this
    exact this
  have fr : (D.tup (rowD f.flat)).frz = true := rowD_fz _
  have q2 : sPar 4 5 (eCons (eP (mDef 1 (d_law_flat 14) (mCons (mVar 3) mNil))) (eCons (eP (mDef 1 (d_law_marks_of 14) (mCons (mVar 3) mNil))) eNil)) (rW a1 b1 c1 cs s x2 (some (.tup (toD f))) x4 x5 x6 x7 x8 x9 x10 x11) = some (.ok .nx, rW a1 b1 c1 cs s x2 (some (.tup (toD f))) (some (.tup (rowD f.flat))) (some (.tup (MK f.marks))) x6 x7 x8 x9 x10 x11) := by
    refine sPar_ok (x := .tup (rowD f.flat)) (y := .tup (MK f.marks)) (ρ1 := rW a1 b1 c1 cs s x2 (some (.tup (toD f))) x4 x5 x6 x7 x8 x9 x10 x11) ?_
    refine eCons_ok (ρ1 := rW a1 b1 c1 cs s x2 (some (.tup (toD f))) x4 x5 x6 x7 x8 x9 x10 x11) (eP_ok (call1 rfl ft fr (flat_ok 14 f hd (by omega))) fr) ?_
    exact eCons_ok (ρ1 := rW a1 b1 c1 cs s x2 (some (.tup (toD f))) x4 x5 x6 x7 x8 x9 x10 x11) (eP_ok (call1 rfl ft (MKf _) (lmarks_ok 14 f hd (by omega))) (MKf _)) rfl
  have k1 : t1 (rW a1 b1 c1 cs s x2 (some (.tup (toD f))) (some (.tup (rowD f.flat))) (some (.tup (MK f.marks))) x6 x7 x8 x9 x10 x11) = some (.ok false) := by
    generalize hρ : rW a1 b1 c1 cs s x2 (some (.tup (toD f))) (some (.tup (rowD f.flat))) (some (.tup (MK f.marks))) x6 x7 x8 x9 x10 x11 = ρ
    have g4 : ρ[4]? = some (some (.tup (rowD f.flat))) := by rw [← hρ]; rfl
    have g5 : ρ[5]? = some (some (.tup (MK f.marks))) := by rw [← hρ]; rfl
    have to := told_ok fm (by omega) (run_all f)
    rw [tell_all] at to
    have fl := fault_ok fm (by omega)
    rw [run_all] at fl
    exact (mOrT_f (ne_self (call1 g4 fr (MKf _) (marks_ok fa (by omega))) (var_at g5) (MK_py fm) (by decide))).trans ((mOrT_f (ne_self (call1 g5 (MKf _) fr to) (var_at g4) (rowD_py fa) (by decide))).trans ((mOrT_f (mT_ok (m2_ok (call1 g5 (MKf _) (show (D.non).frz = true from rfl) fl) rfl rfl))).trans (ne_self (call1 g5 (MKf _) rfl (open_ok fm (by omega) (run_all f))) (call1 g5 (MKf _) rfl (law_open_ok fm)) int_py (by decide))))
  let I : Rho → Prop := fun ρ => ∃ (a b c : Int) (y6 y7 y8 : Option D), ρ = rW a b c cs s x2 (some (.tup (toD f))) (some (.tup (rowD f.flat))) (some (.tup (MK f.marks))) y6 y7 y8 x9 x10 x11 ∧ BagOk a b c cs
  obtain ⟨ρ3, e3, a2, b2, c2, y6, y7, y8, er, h2⟩ := loop_all (t := tN 6) (b := body5) (I := I) (ds := (List.range (5 : Int).toNat).map fun (k : Nat) => D.int (0 + k)) (ρ := rW a1 b1 c1 cs s x2 (some (.tup (toD f))) (some (.tup (rowD f.flat))) (some (.tup (MK f.marks))) x6 x7 x8 x9 x10 x11) ⟨a1, b1, c1, x6, x7, x8, rfl, h1⟩ fun d hd ρ ⟨a, b, c, y6, y7, y8, er, h⟩ => by
    subst er
    obtain ⟨a', b', c', z7, z8, e, h'⟩ := body5_ok (s := s) (x2 := x2) (x3 := some (.tup (toD f))) (x4 := some (.tup (rowD f.flat))) (x6 := some d) (x7 := y7) (x8 := y8) (x9 := x9) (x10 := x10) (x11 := x11) h fm (by omega)
    exact ⟨_, _, rfl, e, a', b', c', some d, z7, z8, rfl, h'⟩
  subst er
  have th := th_ok fm (by omega)
  have fth : D.frzs (TH f.marks) = true := frzs_of fun x hx => (th x hx).1
  let I2 : Rho → Prop := fun ρ => ∃ (y7 : Option D), ρ = rW a2 b2 c2 cs s x2 (some (.tup (toD f))) (some (.tup (rowD f.flat))) (some (.tup (MK f.marks))) y6 y7 y8 x9 x10 x11
  obtain ⟨ρ4, e4, z7, er⟩ := loop_all (t := tN 7) (b := body6) (I := I2) (ds := TH f.marks) (ρ := rW a2 b2 c2 cs s x2 (some (.tup (toD f))) (some (.tup (rowD f.flat))) (some (.tup (MK f.marks))) y6 y7 y8 x9 x10 x11) ⟨y7, rfl⟩ fun d hd ρ ⟨y7, er⟩ => by
    subst er
    exact ⟨_, _, rfl, body6_ok rfl (th d hd).1 (th d hd).2, some d, rfl⟩
  subst er
  let I3 : Rho → Prop := fun ρ => ∃ (y9 : Option D), ρ = rW a2 b2 c2 cs s x2 (some (.tup (toD f))) (some (.tup (rowD f.flat))) (some (.tup (MK f.marks))) y6 z7 y8 y9 x10 x11
  obtain ⟨ρ5, e5, z9, er⟩ := loop_all (t := tN 9) (b := no1 t8) (I := I3) (ds := nineL) (ρ := rW a2 b2 c2 cs s x2 (some (.tup (toD f))) (some (.tup (rowD f.flat))) (some (.tup (MK f.marks))) y6 z7 y8 x9 x10 x11) ⟨x9, rfl⟩ fun d hd ρ ⟨y9, er⟩ => by
    subst er
    exact ⟨_, _, rfl, t8_ok rfl (List.all_eq_true.mp nine_ok d hd), some d, rfl⟩
  subst er
  refine ⟨a2, b2, c2, some (.tup (toD f)), some (.tup (rowD f.flat)), some (.tup (MK f.marks)), y6, z7, y8, z9, ?_, h2⟩
  unfold bodyLap
  rw [sSeq_nx q1, sSeq_nx q2, sSeq_nx (no1_ok k1)]
  rw [sSeq_nx ((sFor_ok (range_ok (n := 5) (M := mC (.int 5)) rfl (by decide))).trans e3)]
  have w4 : wE (eP (mDef 1 d_law_things (mCons (mVar 5) mNil))) (rW a2 b2 c2 cs s x2 (some (.tup (toD f))) (some (.tup (rowD f.flat))) (some (.tup (MK f.marks))) y6 y7 y8 x9 x10 x11) = some (.ok (TH f.marks), rW a2 b2 c2 cs s x2 (some (.tup (toD f))) (some (.tup (rowD f.flat))) (some (.tup (MK f.marks))) y6 y7 y8 x9 x10 x11) := by
    refine wE_ok (eP_ok (call1 rfl (MKf _) (frz_lst fth) (things_ok fm (by omega))) (frz_lst fth)) ?_
    rw [D.fz_of (frz_lst fth)]
    rfl
  rw [sSeq_nx ((sFor_ok w4).trans e4)]
  have w5 : wE (eP nine) (rW a2 b2 c2 cs s x2 (some (.tup (toD f))) (some (.tup (rowD f.flat))) (some (.tup (MK f.marks))) y6 z7 y8 x9 x10 x11) = some (.ok nineL, rW a2 b2 c2 cs s x2 (some (.tup (toD f))) (some (.tup (rowD f.flat))) (some (.tup (MK f.marks))) y6 z7 y8 x9 x10 x11) := wE_ok (d := .lst false nineL) (eP_ok rfl rfl) rfl
  exact (sFor_ok w5).trans e5
end
end K11

namespace K11
open PySem PySem.Spec PyProof.Rows L2 OP
/-! ### the tower -/
def nA : Str := "a"
def nB : Str := "b"
def tow : Nat → F
  | 0 => .cons nB .nil .nil
  | n + 1 => .cons nA (tow n) .nil
def tIn (n : Nat) : List Mk := List.replicate n (true, nA)
def tOut (n : Nat) : List Mk := List.replicate n (false, nA)
def tMid : List Mk := [(true, nB), (false, nB)]
def tRow (n : Nat) : List (Str × Int) := List.replicate n (nA, 1)
theorem tow_count : ∀ n, (tow n).count = 1
  | 0 => rfl
  | n + 1 => rfl
theorem tow_size : ∀ n, (tow n).size = n + 1
  | 0 => rfl
  | n + 1 => by simp only [tow, F.size, tow_size n]; omega
theorem tow_flat : ∀ n, (tow n).flat = tRow n ++ [(nB, 0)]
  | 0 => rfl
  | n + 1 => by
    simp only [tow, F.flat, tow_count, tow_flat n, List.append_nil]
    rfl
theorem out_comm (n : Nat) : tOut n ++ [(false, nA)] = (false, nA) :: tOut n := by
  unfold tOut
  rw [← List.replicate_succ']
  rfl
theorem tow_marks : ∀ n, (tow n).marks = tIn n ++ (tMid ++ tOut n)
  | 0 => rfl
  | n + 1 => by
    simp only [tow, F.marks, tow_marks n, List.append_assoc]
    rw [out_comm]
    rfl
theorem tow_all (n : Nat) : allN (tow n) := by
  intro p hp
  rw [tow_flat] at hp
  rcases List.mem_append.mp hp with hp | hp
  · unfold tRow at hp
    rw [(List.mem_replicate.mp hp).2]; exact (by decide : nA ∈ NMS)
  · rw [List.mem_singleton.mp hp]; exact (by decide : nB ∈ NMS)
def sA (n : Nat) : List Str := List.replicate n nA
theorem run_in : ∀ (n : Nat) (st : List Str) (r : List Mk) (k : Nat), run st (tIn n ++ r) k = run (sA n ++ st) r (k + n)
  | 0, st, r, k => rfl
  | n + 1, st, r, k => by
    show run (nA :: st) (tIn n ++ r) (k + 1) = _
    have e : sA (n + 1) ++ st = sA n ++ (nA :: st) := by
      unfold sA
      rw [List.replicate_succ', List.append_assoc]
      rfl
    rw [run_in n, e]
    congr 1
    omega
theorem run_out : ∀ (n : Nat) (st : List Str) (r : List Mk) (k : Nat), run (sA n ++ st) (tOut n ++ r) k = run st r (k + n)
  | 0, st, r, k => rfl
  | n + 1, st, r, k => by
    show run (nA :: (sA n ++ st)) ((false, nA) :: (tOut n ++ r)) k = _
    simp only [run, if_true]
    rw [run_out n]
    congr 1
    omega
theorem run_mid (st : List Str) (r : List Mk) (k : Nat) : run st (tMid ++ r) k = run st r (k + 2) := by
  show run st ((true, nB) :: (false, nB) :: r) k = _
  simp only [run, if_true]
/-- without the last mark one node is left open -/
theorem run_cut (n : Nat) : run [] (tIn (n + 1) ++ (tMid ++ tOut n)) 0 = .inr [nA] := by
  have e : tOut n = tOut n ++ [] := by rw [List.append_nil]
  have e2 : sA (n + 1) ++ [] = sA n ++ [nA] := by
    unfold sA
    rw [List.replicate_succ', List.append_nil]
  rw [run_in, run_mid, e, e2, run_out]
  rfl
/-- without the first one the last mark closes what is not open -/
theorem run_late (n : Nat) : run [] (tIn n ++ (tMid ++ tOut (n + 1))) 0 = .inl (2 * n + 2) := by
  have e : tOut (n + 1) = tOut n ++ [(false, nA)] := by rw [out_comm]; rfl
  rw [run_in, run_mid, e, run_out]
  simp only [run]
  congr 1
  omega
theorem deep_cons {h m : Int} {b : Bool} {n : Str} {r : List Mk} : deep (h, m) ((b, n) :: r) = deep (h + one b, if h + one b > m then h + one b else m) r := rfl
theorem one_t : one true = 1 := rfl
theorem one_f : one false = -1 := rfl
theorem deep_in : ∀ (n : Nat) (h : Int) (r : List Mk), deep (h, h) (tIn n ++ r) = deep (h + n, h + n) r
  | 0, h, r => by
    show deep (h, h) r = deep (h + (0 : Nat), h + (0 : Nat)) r
    rw [show h + ((0 : Nat) : Int) = h from by omega]
  | n + 1, h, r => by
    show deep (h, h) ((true, nA) :: (tIn n ++ r)) = _
    rw [deep_cons, one_t, if_pos (by omega), deep_in n]
    rw [show h + 1 + (n : Int) = h + ((n + 1 : Nat) : Int) from by omega]
theorem deep_out : ∀ (n : Nat) (h m : Int), h ≤ m → (deep (h, m) (tOut n)).2 = m
  | 0, h, m, _ => rfl
  | n + 1, h, m, hm => by
    show (deep (h, m) ((false, nA) :: tOut n)).2 = m
    rw [deep_cons, one_f, if_neg (by omega)]
    exact deep_out n _ m (by omega)
theorem deep_tow (n : Nat) : (deep (0, 0) (tow n).marks).2 = ((n + 1 : Nat) : Int) := by
  rw [tow_marks, deep_in]
  show (deep (0 + (n : Int), 0 + (n : Int)) ((true, nB) :: (false, nB) :: tOut n)).2 = _
  rw [deep_cons, one_t, if_pos (by omega), deep_cons, one_f, if_neg (by omega), deep_out n _ _ (by omega)]
  omega
theorem tow_at (n : Nat) : (tow n).marks[n]? = some (true, nB) ∧ (tow n).marks[n + 1]? = some (false, nB) := by
  have l : (tIn n).length = n := List.length_replicate ..
  rw [tow_marks]
  refine ⟨?_, ?_⟩
  · rw [List.getElem?_append_right (by omega), l, Nat.sub_self]
    rfl
  · rw [List.getElem?_append_right (by omega), l, show n + 1 - n = 1 from by omega]
    rfl
theorem cut_last {l : List Mk} {x : Mk} : OP.cutD (l ++ [x]) none (some (-1)) = l := by
  unfold OP.cutD
  have e : HT.sIx (l ++ [x]).length (l ++ [x]).length (some (-1)) = l.length := by
    show (if (-1 : Int) < 0 then (-1 + ((l ++ [x]).length : Int)).toNat else min (-1 : Int).toNat (l ++ [x]).length) = _
    rw [if_pos (by decide), List.length_append]
    show (-1 + ((l.length + 1 : Nat) : Int)).toNat = _
    omega
  rw [e, HT.sIx_none, List.drop_zero, Nat.sub_zero]
  simp
theorem cut_first {l : List Mk} {x : Mk} : OP.cutD (x :: l) (some 1) none = l := by
  unfold OP.cutD
  have e : HT.sIx (x :: l).length 0 (some 1) = 1 := by
    show min 1 (l.length + 1) = 1
    omega
  rw [e, HT.sIx_none]
  show l.take (l.length + 1 - 1) = l
  rw [Nat.add_sub_cancel, List.take_length]
def tailE : MS := sSeq (sSet 10 (eFz (e2 gAdd (eP (mC (.int 300))) (eHeld 1 (eDef1 2 d_law_take 1 (eaP (mCons (mC (.int 900)) mNil))))))) (sSeq (sSet 11 (eP (mCall fTup (mCons (m2 gAdd (m2 gMul5 (mLst (mCons (mTup (mCons (mC (.str "a")) (mCons (mC (.int 1)) mNil))) mNil)) (m2 gSub (mVar 10) (mC (.int 1)))) (mLst (mCons (mTup (mCons (mC (.str "b")) (mCons (mC (.int 0)) mNil))) mNil))) mNil)))) (sSeq (sSet 5 (eP (mDef 1 d_marks_of (mCons (mVar 11) mNil)))) (sSeq (no1 (mOrT (mT (m2 gNe (mCall fLen (mCons (mVar 5) mNil)) (m2 gMul5 (mC (.int 2)) (mVar 10)))) (mOrT (mT (m2 gNe (mDef 1 d_deepest_open (mCons (mVar 5) mNil)) (mVar 10))) (mOrT (mT (m2 gNe (mDef 1 d_row_told (mCons (mVar 5) mNil)) (mVar 11))) (mOrT (mT (m2 gNe (m2 gIx (mVar 5) (m2 gSub (mVar 10) (mC (.int 1)))) (mTup (mCons (mC (.str "in")) (mCons (mC (.str "b")) mNil))))) (mT (m2 gNe (m2 gIx (mVar 5) (mVar 10)) (mTup (mCons (mC (.str "out")) (mCons (mC (.str "b")) mNil)))))))))) (sRet (eP (mAnd (m2 gEq (mDef 1 d_marks_fault (mCons (mSl (mVar 5) mNoPart (mPart (m1 gNeg (mC (.int 1))))) mNil)) (mTup (mCons (mC (.str "open")) (mCons (mC (.int 1)) mNil)))) (mAnd (m2 gEq (mDef 1 d_marks_fault (mCons (mSl (mVar 5) (mPart (mC (.int 1))) mNoPart) mNil)) (mTup (mCons (m2 gSub (m2 gMul5 (mC (.int 2)) (mVar 10)) (mC (.int 2))) (mCons (mC (.str "out")) mNil)))) (mAnd (m2 gIsB (mDef 1 d_are_marks (mCons (mTup mNil) mNil)) (mC (.bl true))) (m2 gEq (mDef 1 d_row_told (mCons (mTup mNil) mNil)) (mTup mNil))))))))))
theorem law_is : b_law = sSeq (sSet 1 (eDef 1 d_law_bag (eaP (mCons (mVar 0) mNil)))) (sSeq (sFor (wRng1 (eaP (mCons (mC (.int 6)) mNil))) (tN 2) bodyLap) tailE) := rfl
theorem gMul5_lst {l : List D} {k : Int} (c : D.frzs l = true ∧ -(2 ^ 63) ≤ k ∧ k < 2 ^ 63 ∧ l.length * k.toNat ≤ 16777216) : gMul5 (.lst false l) (.int k) = some (.lst false (List.replicate k.toNat l).flatten) := if_pos c
theorem eq_self {n : Nat} {x : D} {ma mb : Rho → Option (O D)} {ρ : Rho} (ha : ma ρ = some (.ok x)) (hb : mb ρ = some (.ok x)) (h : pyOk n x) (hn : n ≤ 64) : m2 gEq ma mb ρ = some (.ok (.bl true)) := m2_ok ha hb (gEq_of (eqD_self h hn))
theorem and_tt {ma mb : Rho → Option (O D)} {ρ : Rho} (ha : ma ρ = some (.ok (.bl true))) (hb : mb ρ = some (.ok (.bl true))) : mAnd ma mb ρ = some (.ok (.bl true)) := mAnd_ok (a := true) (b := true) ha fun _ => hb
section
variable {a b c : Int} {cs : List Int} {s x2 x3 x4 x5 x6 x7 x8 x9 x10 x11 : Option D}
theorem tail_ok (h : BagOk a b c cs) : ∃ ρ2, tailE (rW a b c cs s x2 x3 x4 x5 x6 x7 x8 x9 x10 x11) = some (.ok (.ret (.bl true)), ρ2) := by
  obtain ⟨v, a1, b1, c1, e1, v0, v1, h1⟩ := take_ok (ρ := rW a b c cs s x2 x3 x4 x5 x6 x7 x8 x9 x10 x11) (i := 1) (M := mC (.int 900)) (m := 900) rfl h rfl (by decide)
  obtain ⟨n, hn⟩ : ∃ n : Nat, ((n + 1 : Nat) : Int) = 300 + v := ⟨(299 + v).toNat, by omega⟩
  have n1 : 1 ≤ n := by omega
  have nl : n ≤ 2000 := by omega
  have q1 : sSet 10 (eFz (e2 gAdd (eP (mC (.int 300))) (eHeld 1 (eDef1 2 d_law_take 1 (eaP (mCons (mC (.int 900)) mNil)))))) (rW a b c cs s x2 x3 x4 x5 x6 x7 x8 x9 x10 x11) = some (.ok .nx, rW a1 b1 c1 cs s x2 x3 x4 x5 x6 x7 x8 x9 (some (.int (n + 1 : Nat))) x11) := by
    rw [hn]
    exact sSet_ok (i := 10) (eFz_ok (e2_ok (f := gAdd) (x := .int 300) (y := .int v) (z := .int (300 + v)) (ρ1 := rW a b c cs s x2 x3 x4 x5 x6 x7 x8 x9 x10 x11) rfl e1 rfl rfl))
  have sub1 : ∀ {x5 x11}, m2 gSub (mVar 10) (mC (.int 1)) (rW a1 b1 c1 cs s x2 x3 x4 x5 x6 x7 x8 x9 (some (.int (n + 1 : Nat))) x11) = some (.ok (.int (n : Nat))) := fun {x5 x11} => m2_ok (x := .int (n + 1 : Nat)) (y := .int 1) rfl rfl (by show some (D.int (((n + 1 : Nat) : Int) - 1)) = _; congr 2; omega)
  have fr : (D.tup (rowD (tow n).flat)).frz = true := rowD_fz _
  have q2 : sSet 11 (eP (mCall fTup (mCons (m2 gAdd (m2 gMul5 (mLst (mCons (mTup (mCons (mC (.str "a")) (mCons (mC (.int 1)) mNil))) mNil)) (m2 gSub (mVar 10) (mC (.int 1)))) (mLst (mCons (mTup (mCons (mC (.str "b")) (mCons (mC (.int 0)) mNil))) mNil))) mNil))) (rW a1 b1 c1 cs s x2 x3 x4 x5 x6 x7 x8 x9 (some (.int (n + 1 : Nat))) x11) = some (.ok .nx, rW a1 b1 c1 cs s x2 x3 x4 x5 x6 x7 x8 x9 (some (.int (n + 1 : Nat))) (some (.tup (rowD (tow n).flat)))) := by
    have e : (List.replicate n [nodeD (nA, 1)]).flatten = rowD (tRow n) := by
      unfold rowD tRow
      rw [List.map_replicate]
      clear sub1 q1 fr nl n1 hn
      induction n with
      | zero => rfl
      | succ n ih => rw [List.replicate_succ, List.replicate_succ, List.flatten_cons, ih]; rfl
    have k1 : gMul5 (.lst false [nodeD (nA, 1)]) (.int (n : Nat)) = some (.lst false (rowD (tRow n))) := by
      rw [gMul5_lst ⟨rfl, by omega, by omega, by show 1 * _ ≤ _; omega⟩, Int.toNat_natCast, e]
    have ln : (rowD (tRow n)).length = n := by rw [rowD_len]; exact List.length_replicate ..
    have k2 : gAdd (.lst false (rowD (tRow n))) (.lst false [nodeD (nB, 0)]) = some (.lst false (rowD (tow n).flat)) := by
      show (if (D.frzs (rowD (tRow n)) && D.frzs [nodeD (nB, 0)] && decide ((rowD (tRow n)).length + 1 ≤ 16777216)) = true then some (D.lst false (rowD (tRow n) ++ [nodeD (nB, 0)])) else none) = _
      rw [rowD_fz, show D.frzs [nodeD (nB, 0)] = true from rfl, decide_eq_true (by rw [ln]; omega), tow_flat, rowD_app]
      rfl
    refine sSet_eP (mCall_ok (l := [.lst false (rowD (tow n).flat)]) (mCons_ok (m2_ok (m2_ok (x := .lst false [nodeD (nA, 1)]) rfl sub1 k1) (y := .lst false [nodeD (nB, 0)]) rfl k2) rfl) ?_) fr
    show (if D.frzs (rowD (tow n).flat) = true then some (D.tup (rowD (tow n).flat)) else none) = _
    rw [rowD_fz]
    rfl
  have ta := tow_all n
  have ts := tow_size n
  have tm := allN_marks ta
  have tl := (tow n).marks_len
  have q3 : sSet 5 (eP (mDef 1 d_marks_of (mCons (mVar 11) mNil))) (rW a1 b1 c1 cs s x2 x3 x4 x5 x6 x7 x8 x9 (some (.int (n + 1 : Nat))) (some (.tup (rowD (tow n).flat)))) = some (.ok .nx, rW a1 b1 c1 cs s x2 x3 x4 (some (.tup (MK (tow n).marks))) x6 x7 x8 x9 (some (.int (n + 1 : Nat))) (some (.tup (rowD (tow n).flat)))) := sSet_eP (call1 rfl fr (MKf _) (marks_ok ta (by omega))) (MKf _)
  generalize hρ : rW a1 b1 c1 cs s x2 x3 x4 (some (.tup (MK (tow n).marks))) x6 x7 x8 x9 (some (.int (n + 1 : Nat))) (some (.tup (rowD (tow n).flat))) = ρ at q3
  have g5 : ρ[5]? = some (some (.tup (MK (tow n).marks))) := by rw [← hρ]; rfl
  have g10 : ρ[10]? = some (some (.int (n + 1 : Nat))) := by rw [← hρ]; rfl
  have g11 : ρ[11]? = some (some (.tup (rowD (tow n).flat))) := by rw [← hρ]; rfl
  have sb : m2 gSub (mVar 10) (mC (.int 1)) ρ = some (.ok (.int (n : Nat))) := by rw [← hρ]; exact sub1
  have twice : m2 gMul5 (mC (.int 2)) (mVar 10) ρ = some (.ok (.int (2 * ((n + 1 : Nat) : Int)))) := m2_ok (x := .int 2) rfl (var_at g10) (gMul5_int (by unfold CM; omega))
  have to := told_ok tm (by omega) (run_all _)
  rw [tell_all] at to
  have op := open_ok tm (by omega) (run_all _)
  rw [deep_tow] at op
  have lnm : mCall fLen (mCons (mVar 5) mNil) ρ = some (.ok (.int (2 * ((n + 1 : Nat) : Int)))) := by
    refine mCall_ok (l := [.tup (MK (tow n).marks)]) (mCons_ok (var_at g5) rfl) ?_
    show some (D.int ((MK (tow n).marks).length : Nat)) = _
    rw [MK_len, tl, ts]
    congr 2
  have ix : ∀ {M : Rho → Option (O D)} {k : Nat} {m : Mk}, M ρ = some (.ok (.int (k : Nat))) → (tow n).marks[k]? = some m → m2 gIx (mVar 5) M ρ = some (.ok (mk m)) := fun {M k m} hM hk => by
    have lt : k < (tow n).marks.length := (List.getElem?_eq_some_iff.mp hk).1
    refine m2_ok (var_at g5) hM ?_
    show atI (MK (tow n).marks) (k : Nat) = _
    unfold atI ixN
    rw [if_pos (by omega), if_pos (by rw [MK_len]; omega)]
    show (MK (tow n).marks)[k]? = _
    unfold MK
    rw [List.getElem?_map, hk]
    rfl
  have bN : nB ∈ NMS := by decide
  have q4 := no1_ok (ρ := ρ) (t := mOrT (mT (m2 gNe (mCall fLen (mCons (mVar 5) mNil)) (m2 gMul5 (mC (.int 2)) (mVar 10)))) (mOrT (mT (m2 gNe (mDef 1 d_deepest_open (mCons (mVar 5) mNil)) (mVar 10))) (mOrT (mT (m2 gNe (mDef 1 d_row_told (mCons (mVar 5) mNil)) (mVar 11))) (mOrT (mT (m2 gNe (m2 gIx (mVar 5) (m2 gSub (mVar 10) (mC (.int 1)))) (mTup (mCons (mC (.str "in")) (mCons (mC (.str "b")) mNil))))) (mT (m2 gNe (m2 gIx (mVar 5) (mVar 10)) (mTup (mCons (mC (.str "out")) (mCons (mC (.str "b")) mNil)))))))))
    ((mOrT_f (ne_self lnm twice int_py (by decide))).trans ((mOrT_f (ne_self (call1 g5 (MKf _) rfl op) (var_at g10) int_py (by decide))).trans ((mOrT_f (ne_self (call1 g5 (MKf _) fr to) (var_at g11) (rowD_py ta) (by decide))).trans ((mOrT_f (ne_self (ix sb (tow_at n).1) rfl (mk_elt (b := true) bN).py (by decide))).trans (ne_self (ix (var_at g10) (tow_at n).2) rfl (mk_elt (b := false) bN).py (by decide))))))
  obtain ⟨n', rfl⟩ : ∃ k, n = k + 1 := ⟨n - 1, by omega⟩
  have e1 : (tow (n' + 1)).marks = (tIn (n' + 1) ++ (tMid ++ tOut n')) ++ [(false, nA)] := by
    rw [tow_marks, List.append_assoc, List.append_assoc, out_comm]
    rfl
  have e2 : (tow (n' + 1)).marks = (true, nA) :: (tIn n' ++ (tMid ++ tOut (n' + 1))) := by
    rw [tow_marks]
    rfl
  have tm1 : Nm (tIn (n' + 1) ++ (tMid ++ tOut n')) := fun m hm => tm m (by rw [e1]; exact List.mem_append_left _ hm)
  have tm2 : Nm (tIn n' ++ (tMid ++ tOut (n' + 1))) := fun m hm => tm m (by rw [e2]; exact List.mem_cons_of_mem _ hm)
  have l1 : (tIn (n' + 1) ++ (tMid ++ tOut n')).length < 16777216 := by
    have := congrArg List.length e1
    rw [tl, ts, List.length_append] at this
    simp only [List.length_cons, List.length_nil] at this
    omega
  have l2 : (tIn n' ++ (tMid ++ tOut (n' + 1))).length < 16777216 := by
    have := congrArg List.length e2
    rw [tl, ts] at this
    simp only [List.length_cons] at this
    omega
  have f1 := fault_ok tm1 l1
  rw [run_cut] at f1
  have f2 := fault_ok tm2 l2
  rw [run_late] at f2
  have s1 : mSl (mVar 5) mNoPart (mPart (m1 gNeg (mC (.int 1)))) ρ = some (.ok (.tup (MK (tIn (n' + 1) ++ (tMid ++ tOut n'))))) := by
    have : OP.cutD (MK (tow (n' + 1)).marks) none (some (-1)) = MK (tIn (n' + 1) ++ (tMid ++ tOut n')) := by
      unfold MK
      rw [cut_map, e1, cut_last]
    unfold mSl
    rw [var_at g5]
    show ret (some (D.tup (OP.cutD (MK (tow (n' + 1)).marks) none (some (-1))))) = _
    rw [this]
    rfl
  have s2 : mSl (mVar 5) (mPart (mC (.int 1))) mNoPart ρ = some (.ok (.tup (MK (tIn n' ++ (tMid ++ tOut (n' + 1)))))) := by
    have : OP.cutD (MK (tow (n' + 1)).marks) (some 1) none = MK (tIn n' ++ (tMid ++ tOut (n' + 1))) := by
      unfold MK
      rw [cut_map, e2, cut_first]
    unfold mSl
    rw [var_at g5]
    show ret (some (D.tup (OP.cutD (MK (tow (n' + 1)).marks) (some 1) none))) = _
    rw [this]
    rfl
  have c1 : mDef 1 d_marks_fault (mCons (mSl (mVar 5) mNoPart (mPart (m1 gNeg (mC (.int 1))))) mNil) ρ = some (.ok (faultD (.inr [nA]))) := mDef_ok (l := [.tup (MK (tIn (n' + 1) ++ (tMid ++ tOut n')))]) (mCons_ok s1 rfl) (frzs1 (x := .tup (MK (tIn (n' + 1) ++ (tMid ++ tOut n')))) (MKf _)) rfl rfl f1
  have c2 : mDef 1 d_marks_fault (mCons (mSl (mVar 5) (mPart (mC (.int 1))) mNoPart) mNil) ρ = some (.ok (faultD (.inl (2 * n' + 2)))) := mDef_ok (l := [.tup (MK (tIn n' ++ (tMid ++ tOut (n' + 1))))]) (mCons_ok s2 rfl) (frzs1 (x := .tup (MK (tIn n' ++ (tMid ++ tOut (n' + 1))))) (MKf _)) rfl rfl f2
  have d2 : mTup (mCons (m2 gSub (m2 gMul5 (mC (.int 2)) (mVar 10)) (mC (.int 2))) (mCons (mC (.str "out")) mNil)) ρ = some (.ok (faultD (.inl (2 * n' + 2)))) := by
    refine mTup_ok (l := [.int (2 * n' + 2 : Nat), .str "out"]) (mCons_ok (m2_ok twice (y := .int 2) rfl ?_) rfl) rfl (by show 2 ≤ 16777216; decide)
    show some (D.int (2 * ((n' + 1 + 1 : Nat) : Int) - 2)) = _
    congr 2
    omega
  have c3 : m2 gIsB (mDef 1 d_are_marks (mCons (mTup mNil) mNil)) (mC (.bl true)) ρ = some (.ok (.bl true)) := by
    have e := are_tup (xs := []) (fun x hx => by cases hx) (by decide)
    exact m2_ok (x := .bl true) (y := .bl true) (mDef_ok (l := [.tup []]) rfl rfl rfl rfl e) rfl rfl
  have c4 : m2 gEq (mDef 1 d_row_told (mCons (mTup mNil) mNil)) (mTup mNil) ρ = some (.ok (.bl true)) := by
    have e := told_ok (ms := []) (fun x hx => by cases hx) (by decide) rfl
    exact eq_self (n := 6) (x := .tup []) (mDef_ok (l := [.tup []]) rfl rfl rfl rfl e) rfl (MK_py (ms := []) fun x hx => by cases hx) (by decide)
  refine ⟨ρ, ?_⟩
  unfold tailE
  rw [sSeq_nx q1, sSeq_nx q2, sSeq_nx q3, sSeq_nx q4]
  exact sRet_ok (eP_ok (and_tt (eq_self c1 rfl (fault_py _) (by decide)) (and_tt (eq_self c2 d2 (fault_py _) (by decide)) (and_tt c3 c4))) rfl)
end
/-! ### the whole -/
def abs' (i : Int) : Int := if i < 0 then -i else i
theorem bag_ok {ns : List Int} (hn : ns.length ≤ 63) : ∃ cs, d_law_bag [.xls (ns.map .int)] = some (.ok (bag 0 1234567891 0 cs), []) ∧ BagOk 0 1234567891 0 cs := by
  obtain ⟨ms, hms, hml⟩ : ∃ ms : List Int, OP.cutD (ns.map D.int) none (some 63) = ms.map .int ∧ ms.length ≤ 63 := by
    refine ⟨OP.cutD ns none (some 63), cut_map, ?_⟩
    have := (cut_mem (l := ns) (lo := none) (hi := some 63)).2
    omega
  refine ⟨ms.map abs', ?_, ⟨by decide, by decide, by decide, by decide, by rw [List.length_map]; omega, fun x hx => ?_⟩⟩
  · refine den_ret (ρ := [some (.xls (ns.map .int)), none]) ?_ rfl
    show b_law_bag [some (.xls (ns.map .int)), none] = _
    unfold b_law_bag
    have lc : lcP (tN 1) pYes (mCall fAbs (mCons (mVar 1) mNil)) [some (.xls (ns.map .int)), none] (ms.map .int) = some ((ms.map abs').map .int) := by
      have := lcP_go (ρ := [some (.xls (ns.map .int)), none]) (t := tN 1) (c := pYes) (me := mCall fAbs (mCons (mVar 1) mNil)) (G := fun _ => true) (F := fun d => match d with | .int i => .int (abs' i) | _ => .non) (ds := ms.map .int) fun d hd => by
        obtain ⟨p, hp, rfl⟩ := List.mem_map.mp hd
        exact ⟨_, rfl, rfl, fun _ => ⟨rfl, rfl⟩⟩
      rw [filter_yes, List.map_map] at this
      rw [List.map_map]
      exact this
    have kc : pLc (wP (mSl (mVar 0) mNoPart (mPart (mC (.int 63))))) (tN 1) pYes (mCall fAbs (mCons (mVar 1) mNil)) [1] [some (.xls (ns.map .int)), none] = some (.ok (.lst false ((ms.map abs').map .int))) := by
      refine pLc_ok (ds := ms.map .int) (wP_ok (d := .lst false (ms.map .int)) ?_ rfl) (frz_ints ms) lc (by rw [List.length_map, List.length_map]; omega)
      show ret (some (D.lst false (OP.cutD (ns.map D.int) none (some 63)))) = _
      rw [hms]
      rfl
    have fz : D.frzs [.int 0, .int 1234567891, .int 0, .lst false ((ms.map abs').map .int)] = true := by
      rw [frzs_cons, frzs_cons, frzs_cons, frzs_cons, frz_lst (frz_ints _)]
      rfl
    exact sRet_ok (eLst_ok (l := [.int 0, .int 1234567891, .int 0, .lst false ((ms.map abs').map .int)]) (eaP_ok (mCons_ok rfl (mCons_ok rfl (mCons_ok rfl (mCons_ok kc rfl)))) fz) (by show 4 ≤ 16777216; decide))
  · obtain ⟨p, _, rfl⟩ := List.mem_map.mp hx
    unfold abs'
    split <;> omega
theorem law_true : ∀ ns : List Int, ns.length ≤ 63 → d_law [.xls (ns.map .int)] = some (.ok (.bl true), []) := by
  intro ns hn
  obtain ⟨cs, e0, h0⟩ := bag_ok hn
  let I : Rho → Prop := fun ρ => ∃ (a b c : Int) (s x2 x3 x4 x5 x6 x7 x8 x9 x10 x11 : Option D), ρ = rW a b c cs s x2 x3 x4 x5 x6 x7 x8 x9 x10 x11 ∧ BagOk a b c cs
  obtain ⟨ρ1, e1, a, b, c, s, x2, x3, x4, x5, x6, x7, x8, x9, x10, x11, er, h1⟩ := loop_all (t := tN 2) (b := bodyLap) (I := I) (ds := (List.range (6 : Int).toNat).map fun (k : Nat) => D.int (0 + k)) (ρ := rW 0 1234567891 0 cs (some (.xls (ns.map .int))) none none none none none none none none none none) ⟨0, 1234567891, 0, _, _, _, _, _, _, _, _, _, _, _, rfl, h0⟩ fun d hd ρ ⟨a, b, c, s, x2, x3, x4, x5, x6, x7, x8, x9, x10, x11, er, h⟩ => by
    subst er
    obtain ⟨a', b', c', y3, y4, y5, y6, y7, y8, y9, e, h'⟩ := lap_ok (s := s) (x2 := some d) (x3 := x3) (x4 := x4) (x5 := x5) (x6 := x6) (x7 := x7) (x8 := x8) (x9 := x9) (x10 := x10) (x11 := x11) h
    exact ⟨_, _, rfl, e, a', b', c', s, some d, y3, y4, y5, y6, y7, y8, y9, x10, x11, rfl, h'⟩
  subst er
  obtain ⟨ρ3, e3⟩ := tail_ok (s := s) (x2 := x2) (x3 := x3) (x4 := x4) (x5 := x5) (x6 := x6) (x7 := x7) (x8 := x8) (x9 := x9) (x10 := x10) (x11 := x11) h1
  refine den_ret (ρ := ρ3) ?_ rfl
  show b_law [some (.xls (ns.map .int)), none, none, none, none, none, none, none, none, none, none, none] = _
  rw [law_is]
  have fx : D.frzs [D.xls (ns.map .int)] = true := by
    show ((D.frzs (ns.map D.int)) && true) = true
    rw [frz_ints]; rfl
  have q0 : sSet 1 (eDef 1 d_law_bag (eaP (mCons (mVar 0) mNil))) [some (.xls (ns.map .int)), none, none, none, none, none, none, none, none, none, none, none] = some (.ok .nx, rW 0 1234567891 0 cs (some (.xls (ns.map .int))) none none none none none none none none none none) := by
    refine sSet_ok (i := 1) (ρ1 := [some (.xls (ns.map .int)), none, none, none, none, none, none, none, none, none, none, none]) ?_
    unfold eDef
    rw [eaP_ok (l := [.xls (ns.map .int)]) rfl fx, bE_ok, D.fzs_of fx, e0]
    rfl
  rw [sSeq_nx q0]
  rw [sSeq_nx ((sFor_ok (t := tN 2) (b := bodyLap) (range_ok (n := 6) (M := mC (.int 6)) rfl (by decide))).trans e1)]
  exact e3
end K11

open PySem PySem.W PyProof.Rows L2 OP
set_option maxHeartbeats 0 in
theorem PySem.Challenge.cw_oncepages_k11_marks_of_rows_holds : PySem.Challenge.rw_oncepages_k11_marks_of_rows.Holds := by
  w_on; o_law; k_head; (case hw => w_witness2)
  k_fill
  refine endG (l := PySem.Challenge.rw_oncepages_k11_marks_of_rows) (n := 63) (k := 19) (x := "script") rfl (by decide) rfl ⟨rfl, by decide, by decide⟩ (by decide +kernel) (fun w h Y => PySem.W.km_in_of Y) ?F
  case F =>
    intro w mg fa h Y KX G hmg own
    have n_abs : mg "abs" = none := mg_none_of KX G (by k_is)
    have n_all : mg "all" = none := mg_none_of KX G (by k_is)
    have n_enumerate : mg "enumerate" = none := mg_none_of KX G (by k_is)
    have n_int : mg "int" = none := mg_none_of KX G (by k_is)
    have n_isinstance : mg "isinstance" = none := mg_none_of KX G (by k_is)
    have n_len : mg "len" = none := mg_none_of KX G (by k_is)
    have n_list : mg "list" = none := mg_none_of KX G (by k_is)
    have n_max : mg "max" = none := mg_none_of KX G (by k_is)
    have n_range : mg "range" = none := mg_none_of KX G (by k_is)
    have n_repr : mg "repr" = none := mg_none_of KX G (by k_is)
    have n_str : mg "str" = none := mg_none_of KX G (by k_is)
    have n_tuple : mg "tuple" = none := mg_none_of KX G (by k_is)
    have c_DIGITS : ∀ T, GDt KX T w mg "DIGITS" K11.c_DIGITS := by
      intro T
      refine' gD_mk KX G ?a_DIGITS ?v_DIGITS; (case a_DIGITS => k_is)
      exact (gd_str (i := "0123456789") (by decide +kernel))
    have c_LETTERS : ∀ T, GDt KX T w mg "LETTERS" K11.c_LETTERS := by
      intro T
      refine' gD_mk KX G ?a_LETTERS ?v_LETTERS; (case a_LETTERS => k_is)
      exact (gd_str (i := "abcdefghijklmnopqrstuvwxyz") (by decide +kernel))
    have c_MOST_LETTERS : ∀ T, GDt KX T w mg "MOST_LETTERS" K11.c_MOST_LETTERS := by
      intro T
      refine' gD_mk KX G ?a_MOST_LETTERS ?v_MOST_LETTERS; (case a_MOST_LETTERS => k_is)
      exact gd_int
    have c_RESERVED : ∀ T, GDt KX T w mg "RESERVED" K11.c_RESERVED := by
      intro T
      refine' gD_mk KX G ?a_RESERVED ?v_RESERVED; (case a_RESERVED => k_is)
      exact (gd_tup (by k_is) (by decide) (gds_cons (gd_str (i := "all") (by decide +kernel)) (gds_cons (gd_str (i := "any") (by decide +kernel)) (gds_cons (gd_str (i := "apply") (by decide +kernel)) (gds_cons (gd_str (i := "else") (by decide +kernel)) (gds_cons (gd_str (i := "first") (by decide +kernel)) (gds_cons (gd_str (i := "has") (by decide +kernel)) (gds_cons (gd_str (i := "if") (by decide +kernel)) (gds_cons (gd_str (i := "in") (by decide +kernel)) (gds_cons (gd_str (i := "last") (by decide +kernel)) (gds_cons (gd_str (i := "mode") (by decide +kernel)) (gds_cons (gd_str (i := "none") (by decide +kernel)) (gds_cons (gd_str (i := "of") (by decide +kernel)) (gds_cons (gd_str (i := "one") (by decide +kernel)) (gds_cons (gd_str (i := "or") (by decide +kernel)) (gds_cons (gd_str (i := "page") (by decide +kernel)) (gds_cons (gd_str (i := "root") (by decide +kernel)) (gds_cons (gd_str (i := "rule") (by decide +kernel)) (gds_cons (gd_str (i := "some") (by decide +kernel)) (gds_cons (gd_str (i := "tag") (by decide +kernel)) (gds_cons (gd_str (i := "text") (by decide +kernel)) (gds_cons (gd_str (i := "then") (by decide +kernel)) gds_nil))))))))))))))))))))))
    have c_WORDS : ∀ T, GDt KX T w mg "WORDS" K11.c_WORDS := by
      intro T
      refine' gD_mk KX G ?a_WORDS ?v_WORDS; (case a_WORDS => k_is)
      exact (gd_tup (by k_is) (by decide) (gds_cons (gd_str (i := "in") (by decide +kernel)) (gds_cons (gd_str (i := "out") (by decide +kernel)) gds_nil)))
    have f_law_alike : FnInt KX mg "_law_alike" (K11.topS 25) ["found", "due"] := by
      refine' fnIn_mk KX G ?a ?l ?c ?k ?b; (case a => k_is); (case l => k_is); (case c => k_is); (case k => k_is)
      (case b => exact fun _ _ _ _ _ _ us hl => match us, hl with | [_, _], _ => rfl)
    have f_law_bag : FnInt KX mg "_law_bag" (K11.topS 22) ["script"] := by
      refine' fnIn_mk KX G ?a ?l ?c ?k ?b; (case a => k_is); (case l => k_is); (case c => k_is); (case k => k_is)
      (case b => exact fun _ _ _ _ _ _ us hl => match us, hl with | [_], _ => rfl)
    have f_law_deepest : FnInt KX mg "_law_deepest" (K11.topS 34) ["marks"] := by
      refine' fnIn_mk KX G ?a ?l ?c ?k ?b; (case a => k_is); (case l => k_is); (case c => k_is); (case k => k_is)
      (case b => exact fun _ _ _ _ _ _ us hl => match us, hl with | [_], _ => rfl)
    have f_law_flat : FnInt KX mg "_law_flat" (K11.topS 26) ["trees"] := by
      refine' fnIn_mk KX G ?a ?l ?c ?k ?b; (case a => k_is); (case l => k_is); (case c => k_is); (case k => k_is)
      (case b => exact fun _ _ _ _ _ _ us hl => match us, hl with | [_], _ => rfl)
    have f_law_is_mark : FnInt KX mg "_law_is_mark" (K11.topS 31) ["thing"] := by
      refine' fnIn_mk KX G ?a ?l ?c ?k ?b; (case a => k_is); (case l => k_is); (case c => k_is); (case k => k_is)
      (case b => exact fun _ _ _ _ _ _ us hl => match us, hl with | [_], _ => rfl)
    have f_law_is_name : FnInt KX mg "_law_is_name" (K11.topS 30) ["thing"] := by
      refine' fnIn_mk KX G ?a ?l ?c ?k ?b; (case a => k_is); (case l => k_is); (case c => k_is); (case k => k_is)
      (case b => exact fun _ _ _ _ _ _ us hl => match us, hl with | [_], _ => rfl)
    have f_law_marks_fault : FnInt KX mg "_law_marks_fault" (K11.topS 32) ["thing"] := by
      refine' fnIn_mk KX G ?a ?l ?c ?k ?b; (case a => k_is); (case l => k_is); (case c => k_is); (case k => k_is)
      (case b => exact fun _ _ _ _ _ _ us hl => match us, hl with | [_], _ => rfl)
    have f_law_marks_of : FnInt KX mg "_law_marks_of" (K11.topS 29) ["trees"] := by
      refine' fnIn_mk KX G ?a ?l ?c ?k ?b; (case a => k_is); (case l => k_is); (case c => k_is); (case k => k_is)
      (case b => exact fun _ _ _ _ _ _ us hl => match us, hl with | [_], _ => rfl)
    have f_law_nested : FnInt KX mg "_law_nested" (K11.topS 27) ["row"] := by
      refine' fnIn_mk KX G ?a ?l ?c ?k ?b; (case a => k_is); (case l => k_is); (case c => k_is); (case k => k_is)
      (case b => exact fun _ _ _ _ _ _ us hl => match us, hl with | [_], _ => rfl)
    have f_law_nothing : FnInt KX mg "_law_nothing" (K11.topS 28) ["act"] := by
      refine' fnIn_mk KX G ?a ?l ?c ?k ?b; (case a => k_is); (case l => k_is); (case c => k_is); (case k => k_is)
      (case b => exact fun _ _ _ _ _ _ us hl => match us, hl with | [_], _ => rfl)
    have f_law_some : FnInt KX mg "_law_some" (K11.topS 24) ["bag", "things"] := by
      refine' fnIn_mk KX G ?a ?l ?c ?k ?b; (case a => k_is); (case l => k_is); (case c => k_is); (case k => k_is)
      (case b => exact fun _ _ _ _ _ _ us hl => match us, hl with | [_, _], _ => rfl)
    have f_law_some_trees : FnInt KX mg "_law_some_trees" (K11.topS 33) ["bag", "names", "most"] := by
      refine' fnIn_mk KX G ?a ?l ?c ?k ?b; (case a => k_is); (case l => k_is); (case c => k_is); (case k => k_is)
      (case b => exact fun _ _ _ _ _ _ us hl => match us, hl with | [_, _, _], _ => rfl)
    have f_law_spoilt : FnInt KX mg "_law_spoilt" (K11.topS 35) ["bag", "marks"] := by
      refine' fnIn_mk KX G ?a ?l ?c ?k ?b; (case a => k_is); (case l => k_is); (case c => k_is); (case k => k_is)
      (case b => exact fun _ _ _ _ _ _ us hl => match us, hl with | [_, _], _ => rfl)
    have f_law_take : FnInt KX mg "_law_take" (K11.topS 23) ["bag", "many"] := by
      refine' fnIn_mk KX G ?a ?l ?c ?k ?b; (case a => k_is); (case l => k_is); (case c => k_is); (case k => k_is)
      (case b => exact fun _ _ _ _ _ _ us hl => match us, hl with | [_, _], _ => rfl)
    have f_law_things : FnInt KX mg "_law_things" (K11.topS 36) ["marks"] := by
      refine' fnIn_mk KX G ?a ?l ?c ?k ?b; (case a => k_is); (case l => k_is); (case c => k_is); (case k => k_is)
      (case b => exact fun _ _ _ _ _ _ us hl => match us, hl with | [_], _ => rfl)
    have f_are_marks : FnInt KX mg "are_marks" (K11.topS 15) ["thing"] := by
      refine' fnIn_mk KX G ?a ?l ?c ?k ?b; (case a => k_is); (case l => k_is); (case c => k_is); (case k => k_is)
      (case b => exact fun _ _ _ _ _ _ us hl => match us, hl with | [_], _ => rfl)
    have f_check_marks : FnInt KX mg "check_marks" (K11.topS 18) ["marks"] := by
      refine' fnIn_mk KX G ?a ?l ?c ?k ?b; (case a => k_is); (case l => k_is); (case c => k_is); (case k => k_is)
      (case b => exact fun _ _ _ _ _ _ us hl => match us, hl with | [_], _ => rfl)
    have f_deepest_open : FnInt KX mg "deepest_open" (K11.topS 20) ["marks"] := by
      refine' fnIn_mk KX G ?a ?l ?c ?k ?b; (case a => k_is); (case l => k_is); (case c => k_is); (case k => k_is)
      (case b => exact fun _ _ _ _ _ _ us hl => match us, hl with | [_], _ => rfl)
    have f_is_mark : FnInt KX mg "is_mark" (K11.topS 14) ["thing"] := by
      refine' fnIn_mk KX G ?a ?l ?c ?k ?b; (case a => k_is); (case l => k_is); (case c => k_is); (case k => k_is)
      (case b => exact fun _ _ _ _ _ _ us hl => match us, hl with | [_], _ => rfl)
    have f_is_name : FnInt KX mg "is_name" (K11.topS 9) ["thing"] := by
      refine' fnIn_mk KX G ?a ?l ?c ?k ?b; (case a => k_is); (case l => k_is); (case c => k_is); (case k => k_is)
      (case b => exact fun _ _ _ _ _ _ us hl => match us, hl with | [_], _ => rfl)
    have f_is_sized : FnInt KX mg "is_sized" (K11.topS 11) ["thing", "many"] := by
      refine' fnIn_mk KX G ?a ?l ?c ?k ?b; (case a => k_is); (case l => k_is); (case c => k_is); (case k => k_is)
      (case b => exact fun _ _ _ _ _ _ us hl => match us, hl with | [_, _], _ => rfl)
    have f_is_tuple_of : FnInt KX mg "is_tuple_of" (K11.topS 10) ["thing", "is_one"] := by
      refine' fnIn_mk KX G ?a ?l ?c ?k ?b; (case a => k_is); (case l => k_is); (case c => k_is); (case k => k_is)
      (case b => exact fun _ _ _ _ _ _ us hl => match us, hl with | [_, _], _ => rfl)
    have f_marks_fault : FnInt KX mg "marks_fault" (K11.topS 17) ["thing"] := by
      refine' fnIn_mk KX G ?a ?l ?c ?k ?b; (case a => k_is); (case l => k_is); (case c => k_is); (case k => k_is)
      (case b => exact fun _ _ _ _ _ _ us hl => match us, hl with | [_], _ => rfl)
    have f_marks_of : FnInt KX mg "marks_of" (K11.topS 16) ["row"] := by
      refine' fnIn_mk KX G ?a ?l ?c ?k ?b; (case a => k_is); (case l => k_is); (case c => k_is); (case k => k_is)
      (case b => exact fun _ _ _ _ _ _ us hl => match us, hl with | [_], _ => rfl)
    have f_row_told : FnInt KX mg "row_told" (K11.topS 19) ["marks"] := by
      refine' fnIn_mk KX G ?a ?l ?c ?k ?b; (case a => k_is); (case l => k_is); (case c => k_is); (case k => k_is)
      (case b => exact fun _ _ _ _ _ _ us hl => match us, hl with | [_], _ => rfl)
    have x_Nothing : XcInt KX mg "Nothing" := by
      refine' xc_mk PySem.F.excBase_ValueError KX G ?xa_Nothing ?xq_Nothing ?xk_Nothing ?xs_Nothing ?xt_Nothing ?xe_Nothing; (case xa_Nothing => k_is); (case xq_Nothing => (first | k_is | kernel_rfl | rfl)); (case xk_Nothing => k_is); (case xs_Nothing => k_is); (case xt_Nothing => k_is); (case xe_Nothing => (first | k_is | kernel_rfl | rfl))
    refine' end_mk (st := K11.topS 37) KX G hmg own ?a ?l ?c ?cc ?vs ?ch ?np ?b ?den ?F
    (case a => k_is); (case l => k_is); (case c => k_is); (case cc => k_is); (case vs => rfl); (case ch => (first | k_is | kernel_rfl | rfl)); (case np => (first | k_is | kernel_rfl | rfl))
    (case b => exact fun s u => .of_eq rfl)
    (case den => exact K11.law_true)
    (case F => exact fun base TB hf => K11.w_law { n_abs := n_abs, n_all := n_all, n_enumerate := n_enumerate, n_int := n_int, n_isinstance := n_isinstance, n_len := n_len, n_list := n_list, n_max := n_max, n_range := n_range, n_repr := n_repr, n_str := n_str, n_tuple := n_tuple, c_DIGITS := c_DIGITS _, c_LETTERS := c_LETTERS _, c_MOST_LETTERS := c_MOST_LETTERS _, c_RESERVED := c_RESERVED _, c_WORDS := c_WORDS _, f_law_alike := f_law_alike, f_law_bag := f_law_bag, f_law_deepest := f_law_deepest, f_law_flat := f_law_flat, f_law_is_mark := f_law_is_mark, f_law_is_name := f_law_is_name, f_law_marks_fault := f_law_marks_fault, f_law_marks_of := f_law_marks_of, f_law_nested := f_law_nested, f_law_some := f_law_some, f_law_some_trees := f_law_some_trees, f_law_spoilt := f_law_spoilt, f_law_take := f_law_take, f_law_things := f_law_things, f_are_marks := f_are_marks, f_check_marks := f_check_marks, f_deepest_open := f_deepest_open, f_is_mark := f_is_mark, f_is_name := f_is_name, f_is_sized := f_is_sized, f_is_tuple_of := f_is_tuple_of, f_marks_fault := f_marks_fault, f_marks_of := f_marks_of, f_row_told := f_row_told, no_law_nothing := ⟨f_law_nothing, x_Nothing⟩, x_Nothing := x_Nothing } TB hf)

