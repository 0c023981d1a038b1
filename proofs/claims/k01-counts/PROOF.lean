import PyProof.Rows.All
import Wide.All
import OpenK.AllK
import Wide.FinOn
import HandS.ForMost
import HandS.Exc
import HandS.WordsExc
import HandS.ExcOwn
import HandS.ExcInit
import HandS.TryOnly
import HandS.TryMany
import HandS.Lambda
import HandS.EndTab
import HandS.IsInst
import HandS.Wide
import HandS.Style
import HandS.TupAny
import HandS.StrMore
import HandS.FStr
import HandS.Flow
import PyProof.StrBlock2
import PyProof.FString3
import PyProof.ListStr
import HandS.Replace
import HandS.More
import KE.KExcSuper
import KE.KSuper
import PySem.Challenge.RW_ringtolls_k01_counts_written_and_read
import KE.IntTextLaws
import KE.KIntText
import PyProof.Rows.StrIntSpec
import PyProof.Rows.StrLawsPart
import PyProof.Rows.StrMul
set_option autoImplicit false
set_option Elab.async false
set_option linter.all false
set_option maxRecDepth 100000
set_option maxHeartbeats 4000000
/-! # Data, states, readings by plain functions -/
namespace DL
open PySem PySem.Spec PyProof.Rows L2

abbrev St := L2.St
inductive D where
  | non | bl (b : Bool) | int (i : Int) | str (s : Str) | jar | ty (n : String) | scr (ns : List Int)
  | tup (ds : List D) | lst (ds : List D)
  | dic (ks : List Key) (ds : List D)
  | obj (c : Nat) (fs : List Str) (ds : List D)

/-- the jar: digits, stir, count -/
structure Jr where
  d : Int
  s : Int
  c : Int

/-- what is fixed: the tables of code objects, the exceptions' classes, own classes -/
structure Ct where
  T : List (Addr × Str)
  cl : Nat → Addr
  oc : Nat → Addr
  jo : Jr → HO
  jl : Jr → List Int
  js : Jr → Nat → Int → Option Jr
  jlo : ∀ s, jl s ≠ [] → jo s = .lst ((jl s).map V.int)
  hjs : ∀ s k z s', js s k z = some s' → jo s = .lst ((jl s).map V.int) ∧ jo s' = .lst (((jl s).set k z).map V.int)

mutual
def Dv (K : PySem.W.Frag) (C : Ct) (j : Addr) (G : Hp) : D → V → Prop
  | .non, v => v = .non
  | .bl b, v => v = .bl b
  | .int i, v => v = .int i
  | .str s, v => v = .str s
  | .jar, v => v = .ref j
  | .ty n, v => v = .ty n
  | .scr ns, v => ∃ a, v = .ref a ∧ SqL K G a (ns.map V.int)
  | .tup ds, v => ∃ a vs, v = .ref a ∧ SqT K G a vs ∧ DvL K C j G ds vs
  | .lst ds, v => ∃ a vs, v = .ref a ∧ G a = some (.lst vs) ∧ DvL K C j G ds vs
  | .dic ks ds, v => ∃ a vs, v = .ref a ∧ G a = some (.dK (ks.zip vs)) ∧ ks.length = vs.length ∧ DvL K C j G ds vs
  | .obj c fs ds, v => ∃ a dx vs, v = .ref a ∧ G a = some (.ins (C.oc c) dx (fs.zip vs)) ∧ fs.length = vs.length ∧ DvL K C j G ds vs
def DvL (K : PySem.W.Frag) (C : Ct) (j : Addr) (G : Hp) : List D → List V → Prop
  | [], vs => vs = []
  | d :: ds, vs => ∃ v ws, vs = v :: ws ∧ Dv K C j G d v ∧ DvL K C j G ds ws
end

def Le (G H : Hp) : Prop := ∀ a o, G a = some o → H a = some o
def Tbl (o : HO) : Prop := ∃ ps, o = .tbl ps
def Fresh (H : Hp) (a : Addr) : Prop := ∀ o, H a = some o → Tbl o
def Ext (j : Addr) (H H' : Hp) : Prop := ∀ a o, H a = some o → a ≠ j → ¬ Tbl o → H' a = some o
def Gro (H G G' : Hp) : Prop := ∀ a o, G' a = some o → G a = some o ∨ Fresh H a

theorem Le.refl (G : Hp) : Le G G := fun _ _ h => h
theorem Le.trans {A B Z : Hp} (h : Le A B) (k : Le B Z) : Le A Z := fun a o e => k a o (h a o e)
theorem Ext.refl (j : Addr) (H : Hp) : Ext j H H := fun _ _ h _ _ => h
theorem Ext.trans {j : Addr} {A B Z : Hp} (h : Ext j A B) (k : Ext j B Z) : Ext j A Z := fun a o e n t => k a o (h a o e n t) n t
theorem not_tbl_lst {xs : List V} : ¬ Tbl (.lst xs) := fun ⟨_, h⟩ => nomatch h
theorem Fresh.of_none {H : Hp} {a : Addr} (h : H a = none) : Fresh H a := fun o e => by rw [h] at e; cases e
theorem Fresh.not {H : Hp} {a : Addr} {xs : List V} (h : Fresh H a) (e : H a = some (.lst xs)) : False := not_tbl_lst (h _ e)

theorem rd_le {G H : Hp} {a : Addr} {u : HO} (e : Le G H) (h : Rd G a u) : Rd H a u := by
  rcases h with h | ⟨o, h⟩
  · exact .inl (e _ _ h)
  · exact .inr ⟨o, e _ _ h⟩
theorem sqT_le {K : PySem.W.Frag} {G H : Hp} {a : Addr} {xs : List V} (e : Le G H) (h : SqT K G a xs) : SqT K H a xs := by
  rcases h with h | h
  · exact .inl (rd_le e h)
  · exact .inr h

theorem sqL_le {K : PySem.W.Frag} {G H : Hp} {a : Addr} {xs : List V} (e : Le G H) (h : SqL K G a xs) : SqL K H a xs := by
  rcases h with (h | ⟨o, h⟩) | h
  · exact .inl (.inl (e _ _ h))
  · exact .inl (.inr ⟨o, e _ _ h⟩)
  · exact .inr h
mutual
theorem Dv.mono {K : PySem.W.Frag} {C : Ct} {j : Addr} {G G' : Hp} (e : Le G G') : ∀ {d : D} {v : V}, Dv K C j G d v → Dv K C j G' d v
  | .non, _, h => h
  | .bl _, _, h => h
  | .int _, _, h => h
  | .str _, _, h => h
  | .jar, _, h => h
  | .ty _, _, h => h
  | .scr _, _, ⟨a, h1, h2⟩ => ⟨a, h1, sqL_le e h2⟩
  | .tup _, _, ⟨a, vs, h1, h2, h3⟩ => ⟨a, vs, h1, sqT_le e h2, DvL.mono e h3⟩
  | .lst _, _, ⟨a, vs, h1, h2, h3⟩ => ⟨a, vs, h1, e _ _ h2, DvL.mono e h3⟩
  | .dic _ _, _, ⟨a, vs, h1, h2, h3, h4⟩ => ⟨a, vs, h1, e _ _ h2, h3, DvL.mono e h4⟩
  | .obj _ _ _, _, ⟨a, dx, vs, h1, h2, h3, h4⟩ => ⟨a, dx, vs, h1, e _ _ h2, h3, DvL.mono e h4⟩
theorem DvL.mono {K : PySem.W.Frag} {C : Ct} {j : Addr} {G G' : Hp} (e : Le G G') : ∀ {ds : List D} {vs : List V}, DvL K C j G ds vs → DvL K C j G' ds vs
  | [], _, h => h
  | _ :: _, _, ⟨v, ws, h1, h2, h3⟩ => ⟨v, ws, h1, Dv.mono e h2, DvL.mono e h3⟩
end

theorem DvL.length {K : PySem.W.Frag} {C : Ct} {j : Addr} {G : Hp} : ∀ {ds : List D} {vs : List V}, DvL K C j G ds vs → ds.length = vs.length
  | [], _, h => by
    have h' : _ = [] := h
    rw [h']
    rfl
  | _ :: _, _, ⟨v, ws, h1, _, h3⟩ => by
    rw [h1, List.length_cons, List.length_cons, DvL.length h3]
theorem DvL.get {K : PySem.W.Frag} {C : Ct} {j : Addr} {G : Hp} : ∀ {ds : List D} {vs : List V} {i : Nat} {d : D}, DvL K C j G ds vs → ds[i]? = some d → ∃ v, vs[i]? = some v ∧ Dv K C j G d v
  | [], _, _, _, _, e => by simp at e
  | x :: _, _, 0, d, ⟨v, ws, h1, h2, _⟩, e => by
    have e' : x = d := by simpa using e
    subst e'
    exact ⟨v, by rw [h1]; rfl, h2⟩
  | _ :: _, _, i + 1, d, ⟨v, ws, h1, _, h3⟩, e => by
    obtain ⟨u, hu, hd⟩ := DvL.get (i := i) (d := d) h3 (by simpa using e)
    exact ⟨u, by rw [h1]; simpa using hu, hd⟩
theorem DvL.getV {K : PySem.W.Frag} {C : Ct} {j : Addr} {G : Hp} : ∀ {ds : List D} {vs : List V} {i : Nat} {v : V}, DvL K C j G ds vs → vs[i]? = some v → ∃ d, ds[i]? = some d ∧ Dv K C j G d v
  | [], _, _, _, h, e => by
    have h' : _ = [] := h
    rw [h'] at e
    simp at e
  | x :: _, _, 0, w, ⟨v, ws, h1, h2, _⟩, e => by
    rw [h1] at e
    have e' : v = w := by simpa using e
    subst e'
    exact ⟨x, rfl, h2⟩
  | _ :: _, _, i + 1, w, ⟨v, ws, h1, _, h3⟩, e => by
    rw [h1] at e
    obtain ⟨u, hu, hd⟩ := DvL.getV (i := i) (v := w) h3 (by simpa using e)
    exact ⟨u, by simpa using hu, hd⟩
theorem DvL.append {K : PySem.W.Frag} {C : Ct} {j : Addr} {G : Hp} : ∀ {ds es : List D} {vs ws : List V}, DvL K C j G ds vs → DvL K C j G es ws → DvL K C j G (ds ++ es) (vs ++ ws)
  | [], _, _, _, h, k => by
    have h' : _ = [] := h
    rw [h']
    exact k
  | _ :: _, _, _, _, ⟨v, us, h1, h2, h3⟩, k => by
    rw [h1]
    exact ⟨v, _, rfl, h2, DvL.append h3 k⟩
theorem DvL.take {K : PySem.W.Frag} {C : Ct} {j : Addr} {G : Hp} : ∀ (n : Nat) {ds : List D} {vs : List V}, DvL K C j G ds vs → DvL K C j G (ds.take n) (vs.take n)
  | 0, _, _, _ => by simp [DvL]
  | n + 1, [], _, h => by
    have h' : _ = [] := h
    rw [h']
    simp [DvL]
  | n + 1, _ :: _, _, ⟨v, us, h1, h2, h3⟩ => by
    rw [h1]
    exact ⟨v, _, rfl, h2, DvL.take n h3⟩
theorem DvL.drop {K : PySem.W.Frag} {C : Ct} {j : Addr} {G : Hp} : ∀ (n : Nat) {ds : List D} {vs : List V}, DvL K C j G ds vs → DvL K C j G (ds.drop n) (vs.drop n)
  | 0, _, _, h => h
  | n + 1, [], _, h => by
    have h' : _ = [] := h
    rw [h']
    simp [DvL]
  | n + 1, _ :: _, _, ⟨v, us, h1, h2, h3⟩ => by
    rw [h1]
    exact DvL.drop n h3

/-! ## states -/
structure Good (K : PySem.W.Frag) (C : Ct) (j : Addr) (H G : Hp) (s : Jr) : Prop where
  le : Le G H
  gj : G j = none
  hj : H j = some (C.jo s)
  tb : LamX.Tabs C.T H
  nt : ∀ a o, G a = some o → ¬ Tbl o

structure Step (K : PySem.W.Frag) (C : Ct) (j : Addr) (H G : Hp) (s' : Jr) (H' G' : Hp) : Prop where
  ex : Ext j H H'
  ok : Good K C j H' G' s'
  le : Le G G'
  gr : Gro H G G'

section
variable {K : PySem.W.Frag} {C : Ct} {j : Addr} {H H1 H2 G G1 G2 : Hp} {s s1 s2 : Jr}
theorem Gro.refl (H G : Hp) : Gro H G G := fun _ _ h => .inl h
theorem Gro.trans (x1 : Ext j H H1) (g2 : G2 j = none) (k1 : Gro H G G1) (k2 : Gro H1 G1 G2) : Gro H G G2 := fun a o e => by
  rcases k2 a o e with h | h
  · exact k1 a o h
  · refine .inr fun u hu => ?_
    by_cases t : Tbl u
    · exact t
    · have na : a ≠ j := fun z => by rw [z, g2] at e; cases e
      exact h u (x1 a u hu na t)
theorem Step.refl (g : Good K C j H G s) : Step K C j H G s H G := ⟨Ext.refl _ _, g, Le.refl _, Gro.refl _ _⟩
theorem Step.trans (a : Step K C j H G s1 H1 G1) (b : Step K C j H1 G1 s2 H2 G2) : Step K C j H G s2 H2 G2 :=
  ⟨a.ex.trans b.ex, b.ok, a.le.trans b.le, a.gr.trans a.ex b.ok.gj b.gr⟩
/-- a new object that nobody will change -/
theorem Good.new (g : Good K C j H G s) {p : Addr} {o : HO} (hp : H p = none) (no : ¬ Tbl o) : Step K C j H G s (upd H p o) (upd G p o) := by
  have gp : G p = none := by
    cases e : G p with
    | none => rfl
    | some u => have := g.le _ _ e; rw [hp] at this; cases this
  have pj : p ≠ j := fun z => by rw [z, g.hj] at hp; cases hp
  refine ⟨fun a u e _ _ => by rw [upd_ne (ne_of_none e hp)]; exact e, ⟨fun a u e => ?_, by rw [upd_ne pj.symm]; exact g.gj, by rw [upd_ne pj.symm]; exact g.hj, g.tb.ext fun b u e => by rw [upd_ne (ne_of_none e hp)]; exact e, fun a u e => ?_⟩, fun a u e => by rw [upd_ne (ne_of_none e gp)]; exact e, fun a u e => ?_⟩
  · by_cases h : a = p
    · subst h
      rw [upd_same] at e ⊢
      exact e
    · rw [upd_ne h] at e ⊢
      exact g.le a u e
  · by_cases h : a = p
    · subst h
      rw [upd_same] at e
      cases e
      exact no
    · rw [upd_ne h] at e
      exact g.nt a u e
  · by_cases h : a = p
    · subst h
      exact .inr (Fresh.of_none hp)
    · rw [upd_ne h] at e
      exact .inl e
/-- a new object of one's own -/
theorem Good.own (g : Good K C j H G s) {p : Addr} {o : HO} (hp : H p = none) (no : ¬ Tbl o) : Step K C j H G s (upd H p o) G := by
  have pj : p ≠ j := fun z => by rw [z, g.hj] at hp; cases hp
  refine ⟨fun a u e _ _ => by rw [upd_ne (ne_of_none e hp)]; exact e, ⟨fun a u e => by rw [upd_ne (ne_of_none (g.le _ _ e) hp)]; exact g.le a u e, g.gj, by rw [upd_ne pj.symm]; exact g.hj, g.tb.ext fun b u e => by rw [upd_ne (ne_of_none e hp)]; exact e, g.nt⟩, Le.refl _, Gro.refl _ _⟩
/-- what is one's own is given out -/
theorem Good.give (g : Good K C j H G s) {p : Addr} {o : HO} (hp : H p = some o) (gp : G p = none) (pj : p ≠ j) (no : ¬ Tbl o) : Good K C j H (upd G p o) s ∧ Le G (upd G p o) := by
  refine ⟨⟨fun a u e => ?_, by rw [upd_ne pj.symm]; exact g.gj, g.hj, g.tb, fun a u e => ?_⟩, fun a u e => by rw [upd_ne (ne_of_none e gp)]; exact e⟩
  · by_cases h : a = p
    · subst h
      rw [upd_same] at e
      cases e
      exact hp
    · rw [upd_ne h] at e
      exact g.le a u e
  · by_cases h : a = p
    · subst h
      rw [upd_same] at e
      cases e
      exact no
    · rw [upd_ne h] at e
      exact g.nt a u e
end

/-! ## results, slots -/
inductive Res (α : Type) where
  | ok (a : α) (s : Jr)
  | exc (c : Nat) (d : D) (s : Jr)
  | bad
inductive Sl where
  | no | dat (d : D) | own (ds : List D)
abbrev En := List Sl
abbrev Sm (α : Type) := En → Jr → Res α

def SlOk (K : PySem.W.Frag) (C : Ct) (j : Addr) (H0 : Hp) (σ : St) (H G : Hp) (i : Nat) : Sl → Prop
  | .no => True
  | .dat d => ∃ v, σ[i]? = some (some v) ∧ Dv K C j G d v
  | .own ds => ∃ p vs, σ[i]? = some (some (.ref p)) ∧ H p = some (.lst vs) ∧ G p = none ∧ p ≠ j ∧ Fresh H0 p ∧ DvL K C j G ds vs

structure EnvOk (K : PySem.W.Frag) (C : Ct) (j : Addr) (H0 : Hp) (σ : St) (H G : Hp) (ρ : En) : Prop where
  len : σ.length = ρ.length
  at_ : ∀ (i : Nat) (sl : Sl), ρ[i]? = some sl → SlOk K C j H0 σ H G i sl
  dis : ∀ (i i' : Nat) (ds ds' : List D) (p : Addr), ρ[i]? = some (.own ds) → ρ[i']? = some (.own ds') → σ[i]? = some (some (.ref p)) → σ[i']? = some (some (.ref p)) → i = i'

section
variable {K : PySem.W.Frag} {C : Ct} {j : Addr} {H0 H H' G G' : Hp} {s' : Jr} {σ : St} {ρ : En}
theorem EnvOk.step (en : EnvOk K C j H0 σ H G ρ) (st : Step K C j H G s' H' G') : EnvOk K C j H0 σ H' G' ρ := by
  refine ⟨en.len, fun i sl h => ?_, en.dis⟩
  have x := en.at_ i sl h
  cases sl with
  | no => trivial
  | dat d =>
    obtain ⟨v, h1, h2⟩ := x
    exact ⟨v, h1, h2.mono st.le⟩
  | own ds =>
    obtain ⟨p, vs, h1, h2, h3, h4, h5, h6⟩ := x
    refine ⟨p, vs, h1, st.ex _ _ h2 h4 not_tbl_lst, ?_, h4, h5, h6.mono st.le⟩
    cases e : G' p with
    | none => rfl
    | some o =>
      rcases st.gr p o e with z | z
      · rw [h3] at z; cases z
      · exact (z.not h2).elim
end

/-! ## readings by functions -/
def xdV (v : V) : HO := .xd [(("value" : Str), v)]
def tE (K : PySem.W.Frag) (C : Ct) (W : WX) (F : Sm D) : TE := fun σ H Q => ∃ j H0 G ρ s, Good K C j H G s ∧ EnvOk K C j H0 σ H G ρ ∧
  match F ρ s with
  | .ok d s' => ∀ v H' G', Step K C j H G s' H' G' → Dv K C j G' d v → Q v H'
  | .exc c d s' => ∀ v dd H' G', Step K C j H G s' H' G' → Dv K C j G' d v → H' dd = some (xdV v) → W (.ref (C.cl c)) (some dd) σ H'
  | .bad => False
/-- a new list, not yet given out -/
def tL (K : PySem.W.Frag) (C : Ct) (W : WX) (F : Sm (List D)) : TE := fun σ H Q => ∃ j H0 G ρ s, Good K C j H G s ∧ EnvOk K C j H0 σ H G ρ ∧
  match F ρ s with
  | .ok ds s' => ∀ p vs H' G', Step K C j H G s' H' G' → H' p = some (.lst vs) → G' p = none → p ≠ j → Fresh H p → DvL K C j G' ds vs → Q (.ref p) H'
  | .exc c d s' => ∀ v dd H' G', Step K C j H G s' H' G' → Dv K C j G' d v → H' dd = some (xdV v) → W (.ref (C.cl c)) (some dd) σ H'
  | .bad => False
def tT (K : PySem.W.Frag) (C : Ct) (W : WX) (F : Sm Bool) : TT := fun σ H Q => ∃ j H0 G ρ s, Good K C j H G s ∧ EnvOk K C j H0 σ H G ρ ∧
  match F ρ s with
  | .ok b s' => ∀ H' G', Step K C j H G s' H' G' → Q b H'
  | .exc c d s' => ∀ v dd H' G', Step K C j H G s' H' G' → Dv K C j G' d v → H' dd = some (xdV v) → W (.ref (C.cl c)) (some dd) σ H'
  | .bad => False
def tA (K : PySem.W.Frag) (C : Ct) (W : WX) (F : Sm (List D)) : TA := fun σ H Q => ∃ j H0 G ρ s, Good K C j H G s ∧ EnvOk K C j H0 σ H G ρ ∧
  match F ρ s with
  | .ok ds s' => ∀ vs H' G', Step K C j H G s' H' G' → DvL K C j G' ds vs → Q vs H'
  | .exc c d s' => ∀ v dd H' G', Step K C j H G s' H' G' → Dv K C j G' d v → H' dd = some (xdV v) → W (.ref (C.cl c)) (some dd) σ H'
  | .bad => False

theorem pe_imp {X : Cx} {e : Expr} {t t' : TE} (h : PE X e t) (k : ∀ σ H Q, t' σ H Q → t σ H Q) : PE X e t' := ⟨fun pins s σ H Q I q => h.run pins s σ H Q I (k σ H Q q)⟩
theorem pt_imp {X : Cx} {e : Expr} {t t' : TT} (h : PT X e t) (k : ∀ σ H Q, t' σ H Q → t σ H Q) : PT X e t' := ⟨fun pins s σ H Q I q => h.run pins s σ H Q I (k σ H Q q)⟩
theorem pw_imp {X : Cx} {e : Expr} {t t' : TT} (h : PW X e t) (k : ∀ σ H Q, t' σ H Q → t σ H Q) : PW X e t' := ⟨fun wh pins s σ H Q I q => h.run wh pins s σ H Q I (k σ H Q q)⟩
theorem pa_imp {X : Cx} {es : List Expr} {t t' : TA} (h : PA X es t) (k : ∀ σ H Q, t' σ H Q → t σ H Q) : PA X es t' := ⟨fun pos pins s σ H Q I q => h.run pos pins s σ H Q I (k σ H Q q)⟩
theorem ps_imp {X : Cx} {st : Stmt} {t t' : TS} (h : PS X st t) (k : ∀ D σ H, t' D σ H → t D σ H) : PS X st t' := ⟨fun pins s σ H D I q => h.run pins s σ H D I (k D σ H q)⟩
theorem pss_imp {X : Cx} {st : List Stmt} {t t' : TS} (h : PSs X st t) (k : ∀ D σ H, t' D σ H → t D σ H) : PSs X st t' := ⟨fun pins s σ H D I q => h.run pins s σ H D I (k D σ H q)⟩

/-! ## combining functions -/
def Sm.bind {α β : Type} (A : Sm α) (B : α → Sm β) : Sm β := fun ρ s => match A ρ s with
  | .ok a s' => B a ρ s'
  | .exc c d s' => .exc c d s'
  | .bad => .bad
def Sm.ofO {α : Type} (o : Option α) : Sm α := fun _ s => match o with
  | some a => .ok a s
  | none => .bad
def Sm.map {α β : Type} (A : Sm α) (f : α → β) : Sm β := fun ρ s => match A ρ s with
  | .ok a s' => .ok (f a) s'
  | .exc c d s' => .exc c d s'
  | .bad => .bad

/-- a state, for short -/
structure Now (K : PySem.W.Frag) (C : Ct) (j : Addr) (H0 : Hp) (σ : St) (H G : Hp) (ρ : En) (s : Jr) : Prop where
  g : Good K C j H G s
  en : EnvOk K C j H0 σ H G ρ
section
variable {K : PySem.W.Frag} {C : Ct} {j : Addr} {H0 H H' G G' : Hp} {s s' : Jr} {σ : St} {ρ : En} {W : WX}
theorem Now.step (n : Now K C j H0 σ H G ρ s) (st : Step K C j H G s' H' G') : Now K C j H0 σ H' G' ρ s' := ⟨st.ok, n.en.step st⟩
end
end DL

namespace DL
open PySem PySem.Spec PyProof.Rows L2

/-! ## what a run of a part gives -/
section
variable {K : PySem.W.Frag} {C : Ct} {j : Addr} {H0 H G : Hp} {s s1 : Jr} {σ : St} {ρ : En} {W : WX}
/-- a raise is handed on -/
def Up (K : PySem.W.Frag) (C : Ct) (j : Addr) (H G : Hp) (W : WX) (σ : St) (c : Nat) (d : D) (s' : Jr) : Prop :=
  ∀ v dd H' G', Step K C j H G s' H' G' → Dv K C j G' d v → H' dd = some (xdV v) → W (.ref (C.cl c)) (some dd) σ H'
theorem Up.step {G1 H1 : Hp} {c : Nat} {d : D} {s2 : Jr} (st : Step K C j H G s1 H1 G1) (h : Up K C j H G W σ c d s2) : Up K C j H1 G1 W σ c d s2 :=
  fun v dd H' G' st' dv hx => h v dd H' G' (st.trans st') dv hx
theorem runE {A : Sm D} {Q : VK} (n : Now K C j H0 σ H G ρ s) (k : ∀ d s', A ρ s = .ok d s' → ∀ v H' G', Step K C j H G s' H' G' → Dv K C j G' d v → Q v H')
    (x : ∀ c d s', A ρ s = .exc c d s' → Up K C j H G W σ c d s') (b : A ρ s ≠ .bad) : tE K C W A σ H Q := by
  refine ⟨j, H0, G, ρ, s, n.g, n.en, ?_⟩
  cases e : A ρ s with
  | ok d s' => exact k d s' e
  | exc c d s' => exact x c d s' e
  | bad => exact b e
theorem runL {A : Sm (List D)} {Q : VK} (n : Now K C j H0 σ H G ρ s)
    (k : ∀ ds s', A ρ s = .ok ds s' → ∀ p vs H' G', Step K C j H G s' H' G' → H' p = some (.lst vs) → G' p = none → p ≠ j → Fresh H p → DvL K C j G' ds vs → Q (.ref p) H')
    (x : ∀ c d s', A ρ s = .exc c d s' → Up K C j H G W σ c d s') (b : A ρ s ≠ .bad) : tL K C W A σ H Q := by
  refine ⟨j, H0, G, ρ, s, n.g, n.en, ?_⟩
  cases e : A ρ s with
  | ok d s' => exact k d s' e
  | exc c d s' => exact x c d s' e
  | bad => exact b e
theorem runA {A : Sm (List D)} {Q : List V → Hp → Prop} (n : Now K C j H0 σ H G ρ s) (k : ∀ ds s', A ρ s = .ok ds s' → ∀ vs H' G', Step K C j H G s' H' G' → DvL K C j G' ds vs → Q vs H')
    (x : ∀ c d s', A ρ s = .exc c d s' → Up K C j H G W σ c d s') (b : A ρ s ≠ .bad) : tA K C W A σ H Q := by
  refine ⟨j, H0, G, ρ, s, n.g, n.en, ?_⟩
  cases e : A ρ s with
  | ok d s' => exact k d s' e
  | exc c d s' => exact x c d s' e
  | bad => exact b e
theorem runT {A : Sm Bool} {Q : Bool → Hp → Prop} (n : Now K C j H0 σ H G ρ s) (k : ∀ d s', A ρ s = .ok d s' → ∀ H' G', Step K C j H G s' H' G' → Q d H')
    (x : ∀ c d s', A ρ s = .exc c d s' → Up K C j H G W σ c d s') (b : A ρ s ≠ .bad) : tT K C W A σ H Q := by
  refine ⟨j, H0, G, ρ, s, n.g, n.en, ?_⟩
  cases e : A ρ s with
  | ok d s' => exact k d s' e
  | exc c d s' => exact x c d s' e
  | bad => exact b e
/-- what is wanted of a function's result -/
def Fin' (K : PySem.W.Frag) (C : Ct) (j : Addr) (H G : Hp) (W : WX) (σ : St) {α : Type} (r : Res α) (P : α → Jr → Prop) : Prop := match r with
  | .ok a s' => P a s'
  | .exc c d s' => Up K C j H G W σ c d s'
  | .bad => False
theorem fin_bind {α β : Type} {A : Sm α} {B : α → Sm β} {P : β → Jr → Prop} (h : Fin' K C j H G W σ (A.bind B ρ s) P) :
    Fin' K C j H G W σ (A ρ s) fun a s' => Fin' K C j H G W σ (B a ρ s') P := by
  unfold Sm.bind at h
  cases e : A ρ s with
  | ok a s' => rw [e] at h; exact h
  | exc c d s' => rw [e] at h; exact h
  | bad => rw [e] at h; exact h
theorem fin_ofO {α : Type} {o : Option α} {P : α → Jr → Prop} (h : Fin' K C j H G W σ (Sm.ofO o ρ s) P) : ∃ a, o = some a ∧ P a s := by
  unfold Sm.ofO at h
  cases o with
  | some a => exact ⟨a, rfl, h⟩
  | none => exact h.elim
theorem fin_map {α β : Type} {A : Sm α} {f : α → β} {P : β → Jr → Prop} (h : Fin' K C j H G W σ (A.map f ρ s) P) : Fin' K C j H G W σ (A ρ s) fun a s' => P (f a) s' := by
  unfold Sm.map at h
  cases e : A ρ s with
  | ok a s' => rw [e] at h; exact h
  | exc c d s' => rw [e] at h; exact h
  | bad => rw [e] at h; exact h
/-- a later state wants the same -/
theorem Fin'.step {α : Type} {r : Res α} {P : α → Jr → Prop} {H1 G1 : Hp} (st : Step K C j H G s1 H1 G1) (h : Fin' K C j H G W σ r P) : Fin' K C j H1 G1 W σ r P := by
  cases r with
  | ok a s' => exact h
  | exc c d s' => exact Up.step st h
  | bad => exact h
theorem goE {A : Sm D} {Q : VK} {P : D → Jr → Prop} (n : Now K C j H0 σ H G ρ s) (h : Fin' K C j H G W σ (A ρ s) P) (k : ∀ d s' v H' G', P d s' → Step K C j H G s' H' G' → Now K C j H0 σ H' G' ρ s' → Dv K C j G' d v → Q v H') : tE K C W A σ H Q := by
  refine ⟨j, H0, G, ρ, s, n.g, n.en, ?_⟩
  cases e : A ρ s with
  | ok d s' => rw [e] at h; exact fun v H' G' st dv => k d s' v H' G' h st (n.step st) dv
  | exc c d s' => rw [e] at h; exact h
  | bad => rw [e] at h; exact h
theorem goA {A : Sm (List D)} {Q : List V → Hp → Prop} {P : List D → Jr → Prop} (n : Now K C j H0 σ H G ρ s) (h : Fin' K C j H G W σ (A ρ s) P) (k : ∀ ds s' vs H' G', P ds s' → Step K C j H G s' H' G' → Now K C j H0 σ H' G' ρ s' → DvL K C j G' ds vs → Q vs H') : tA K C W A σ H Q := by
  refine ⟨j, H0, G, ρ, s, n.g, n.en, ?_⟩
  cases e : A ρ s with
  | ok d s' => rw [e] at h; exact fun v H' G' st dv => k d s' v H' G' h st (n.step st) dv
  | exc c d s' => rw [e] at h; exact h
  | bad => rw [e] at h; exact h
theorem goT {A : Sm Bool} {Q : Bool → Hp → Prop} {P : Bool → Jr → Prop} (n : Now K C j H0 σ H G ρ s) (h : Fin' K C j H G W σ (A ρ s) P) (k : ∀ b s' H' G', P b s' → Step K C j H G s' H' G' → Now K C j H0 σ H' G' ρ s' → Q b H') : tT K C W A σ H Q := by
  refine ⟨j, H0, G, ρ, s, n.g, n.en, ?_⟩
  cases e : A ρ s with
  | ok d s' => rw [e] at h; exact fun H' G' st => k d s' H' G' h st (n.step st)
  | exc c d s' => rw [e] at h; exact h
  | bad => rw [e] at h; exact h
theorem goL {A : Sm (List D)} {Q : VK} {P : List D → Jr → Prop} (n : Now K C j H0 σ H G ρ s) (h : Fin' K C j H G W σ (A ρ s) P)
    (k : ∀ ds s' p vs H' G', P ds s' → Step K C j H G s' H' G' → Now K C j H0 σ H' G' ρ s' → H' p = some (.lst vs) → G' p = none → p ≠ j → Fresh H p → DvL K C j G' ds vs → Q (.ref p) H') : tL K C W A σ H Q := by
  refine ⟨j, H0, G, ρ, s, n.g, n.en, ?_⟩
  cases e : A ρ s with
  | ok d s' => rw [e] at h; exact fun p vs H' G' st h1 h2 h3 h4 dv => k d s' p vs H' G' h st (n.step st) h1 h2 h3 h4 dv
  | exc c d s' => rw [e] at h; exact h
  | bad => rw [e] at h; exact h
/-- the reading of F opened -/
theorem inE {F : Sm D} {Q : VK} (h : tE K C W F σ H Q) : ∃ j H0 G ρ s, Now K C j H0 σ H G ρ s ∧ Fin' K C j H G W σ (F ρ s) fun d s' => ∀ v H' G', Step K C j H G s' H' G' → Dv K C j G' d v → Q v H' := by
  obtain ⟨j, H0, G, ρ, s, g, en, m⟩ := h
  refine ⟨j, H0, G, ρ, s, ⟨g, en⟩, ?_⟩
  cases e : F ρ s with
  | ok d s' => rw [e] at m; exact m
  | exc c d s' => rw [e] at m; exact m
  | bad => rw [e] at m; exact m
theorem inA {F : Sm (List D)} {Q : List V → Hp → Prop} (h : tA K C W F σ H Q) : ∃ j H0 G ρ s, Now K C j H0 σ H G ρ s ∧ Fin' K C j H G W σ (F ρ s) fun ds s' => ∀ vs H' G', Step K C j H G s' H' G' → DvL K C j G' ds vs → Q vs H' := by
  obtain ⟨j, H0, G, ρ, s, g, en, m⟩ := h
  refine ⟨j, H0, G, ρ, s, ⟨g, en⟩, ?_⟩
  cases e : F ρ s with
  | ok d s' => rw [e] at m; exact m
  | exc c d s' => rw [e] at m; exact m
  | bad => rw [e] at m; exact m
theorem inT {F : Sm Bool} {Q : Bool → Hp → Prop} (h : tT K C W F σ H Q) : ∃ j H0 G ρ s, Now K C j H0 σ H G ρ s ∧ Fin' K C j H G W σ (F ρ s) fun b s' => ∀ H' G', Step K C j H G s' H' G' → Q b H' := by
  obtain ⟨j, H0, G, ρ, s, g, en, m⟩ := h
  refine ⟨j, H0, G, ρ, s, ⟨g, en⟩, ?_⟩
  cases e : F ρ s with
  | ok d s' => rw [e] at m; exact m
  | exc c d s' => rw [e] at m; exact m
  | bad => rw [e] at m; exact m
theorem inL {F : Sm (List D)} {Q : VK} (h : tL K C W F σ H Q) : ∃ j H0 G ρ s, Now K C j H0 σ H G ρ s ∧ Fin' K C j H G W σ (F ρ s) fun ds s' => ∀ p vs H' G', Step K C j H G s' H' G' → H' p = some (.lst vs) → G' p = none → p ≠ j → Fresh H p → DvL K C j G' ds vs → Q (.ref p) H' := by
  obtain ⟨j, H0, G, ρ, s, g, en, m⟩ := h
  refine ⟨j, H0, G, ρ, s, ⟨g, en⟩, ?_⟩
  cases e : F ρ s with
  | ok d s' => rw [e] at m; exact m
  | exc c d s' => rw [e] at m; exact m
  | bad => rw [e] at m; exact m
end

/-! ## names, constants, displays -/
def varS (i : Nat) : Sm D := fun ρ s => match ρ[i]? with
  | some (.dat d) => .ok d s
  | _ => .bad
def cS (d : D) : Sm D := fun _ s => .ok d s
section
variable {X : Cx} {C : Ct} {W : WX} {e a b : Expr} {A B : Sm D} {pos : Pos}
theorem de_var {i : Nat} (h : PE X e (tVar i)) : PE X e (tE X.K C W (varS i)) := pe_imp h fun σ H Q q => by
  obtain ⟨j, H0, G, ρ, s, n, f⟩ := inE q
  unfold varS at f
  cases e : ρ[i]? with
  | none => rw [e] at f; exact f.elim
  | some sl =>
    rw [e] at f
    cases sl with
    | no => exact f.elim
    | own ds => exact f.elim
    | dat d =>
      obtain ⟨v, h1, h2⟩ := n.en.at_ i _ e
      exact ⟨v, h1, f v H G (Step.refl n.g) h2⟩
theorem de_c {v : V} {d : D} (h : PE X e (tC v)) (hd : ∀ j G, Dv X.K C j G d v) : PE X e (tE X.K C W (cS d)) := pe_imp h fun σ H Q q => by
  obtain ⟨j, H0, G, ρ, s, n, f⟩ := inE q
  exact f v H G (Step.refl n.g) (hd j G)
theorem de_int {i : Int} {k : Nat} : PE X (.Constant (.int i) k pos) (tE X.K C W (cS (.int i))) := de_c pe_int fun _ _ => rfl
theorem de_bl {i : Bool} {k : Nat} : PE X (.Constant (.bool i) k pos) (tE X.K C W (cS (.bl i))) := de_c pe_bl fun _ _ => rfl
theorem de_non {k : Nat} : PE X (.Constant .none k pos) (tE X.K C W (cS .non)) := de_c pe_non fun _ _ => rfl
theorem de_str {i : Str} {k : Nat} : PE X (.Constant (.str i) k pos) (tE X.K C W (cS (.str i))) := de_c pe_str fun _ _ => rfl

def nilS : Sm (List D) := fun _ s => .ok [] s
def consS (A : Sm D) (B : Sm (List D)) : Sm (List D) := A.bind fun d => B.map fun ds => d :: ds
theorem da_nil : PA X [] (tA X.K C W nilS) := pa_imp pa_nil fun σ H Q q => by
  obtain ⟨j, H0, G, ρ, s, n, f⟩ := inA q
  exact f [] H G (Step.refl n.g) rfl
end
end DL

namespace DL
open PySem PySem.Spec PyProof.Rows L2
section
variable {X : Cx} {C : Ct} {W : WX} {e a b c : Expr} {es : List Expr} {A B Z : Sm D} {L : Sm (List D)} {T U : Sm Bool} {pos : Pos}

theorem da_cons (ha : PE X e (tE X.K C W A)) (hr : PA X es (tA X.K C W L)) (hs : starEach (e :: es) X.env = (false, eval e X.env) :: starEach es X.env := by rfl) : PA X (e :: es) (tA X.K C W (consS A L)) :=
  pa_imp (pa_cons ha hr hs) fun σ H Q q => by
    obtain ⟨j, H0, G, ρ, s, n, f⟩ := inA q
    refine goE n (fin_bind f) fun d s1 v H1 G1 p st n1 dv => ?_
    refine goA n1 (fin_map (Fin'.step st p)) fun ds s2 vs H2 G2 q st2 n2 dl => ?_
    exact q (v :: vs) H2 G2 (st.trans st2) ⟨v, vs, rfl, dv.mono st2.le, dl⟩

/-- a tuple, its length bounded -/
def tupS (L : Sm (List D)) : Sm D := L.bind fun ds => Sm.ofO (if ds.length ≤ 1000 then some (.tup ds) else none)
theorem sz_of {n : Nat} (h : n ≤ 10000000) : n ≤ sizeLine := Nat.le_trans h (by decide)
theorem sz_lt {n : Nat} (h : n ≤ 10000000) : n < sizeLine := Nat.lt_of_le_of_lt h (by decide)
theorem ite_some {α : Type} {p : Prop} [Decidable p] {x z : α} (h : (if p then some x else none) = some z) : p ∧ x = z := by
  by_cases k : p
  · rw [if_pos k] at h
    exact ⟨k, Option.some.inj h⟩
  · rw [if_neg k] at h
    cases h
theorem not_tbl_tup {xs : List V} : ¬ Tbl (.tup xs) := fun ⟨_, h⟩ => nomatch h
theorem de_tup {x1} (h : PA X es (tA X.K C W L)) : PE X (.Tuple es x1 pos) (tE X.K C W (tupS L)) := pe_imp (pe_tup h) fun σ H Q q => by
  obtain ⟨j, H0, G, ρ, s, n, f⟩ := inE q
  refine goA n (fin_bind f) fun ds s1 vs H1 G1 p st n1 dl => ?_
  obtain ⟨z, hz, p⟩ := fin_ofO (Fin'.step st p)
  obtain ⟨hl, rfl⟩ := ite_some hz
  refine ⟨sz_of (by rw [← dl.length]; omega), fun a ha => ?_⟩
  have st2 := n1.g.new (o := .tup vs) ha not_tbl_tup
  exact p _ _ _ (st.trans st2) ⟨a, vs, rfl, .inl (.inl upd_same), dl.mono st2.le⟩
/-- a list display, of one's own -/
def lstS (L : Sm (List D)) : Sm (List D) := L.bind fun ds => Sm.ofO (if ds.length ≤ 100000 then some ds else none)
theorem dl_lst (h : PA X es (tA X.K C W L)) : PE X (.List es pos) (tL X.K C W (lstS L)) := pe_imp (pe_lst h) fun σ H Q q => by
  obtain ⟨j, H0, G, ρ, s, n, f⟩ := inL q
  refine goA n (fin_bind f) fun ds s1 vs H1 G1 p st n1 dl => ?_
  obtain ⟨z, hz, p⟩ := fin_ofO (Fin'.step st p)
  obtain ⟨hl, rfl⟩ := ite_some hz
  refine ⟨sz_of (by rw [← dl.length]; omega), fun a ha => ?_⟩
  have st2 := n1.g.own (o := .lst vs) ha not_tbl_lst
  have ga : G1 a = none := by
    cases e : G1 a with
    | none => rfl
    | some o => have := n1.g.le _ _ e; rw [ha] at this; cases this
  refine p _ _ _ _ (st.trans st2) upd_same ga (fun z => by rw [z, n1.g.hj] at ha; cases ha) (fun o ho => ?_) dl
  by_cases t : Tbl o
  · exact t
  · have na : a ≠ j := fun z => by rw [z, n1.g.hj] at ha; cases ha
    have := st.ex _ _ ho na t
    rw [ha] at this; cases this
/-- given out at once -/
def giveS (L : Sm (List D)) : Sm D := L.map .lst
theorem giveE {K : PySem.W.Frag} {σ : St} {H : Hp} {Q : VK} (h : tE K C W (giveS L) σ H Q) : tL K C W L σ H Q := by
  obtain ⟨j, H0, G, ρ, s, n, f⟩ := inE h
  refine goL n (fin_map f) fun ds s1 p vs H1 G1 q st n1 hp gp pj fr dl => ?_
  obtain ⟨g2, le2⟩ := n1.g.give hp gp pj not_tbl_lst
  refine q (.ref p) H1 (upd G1 p (.lst vs)) ⟨st.ex, g2, st.le.trans le2, fun a o e => ?_⟩ ⟨p, vs, rfl, upd_same, dl.mono le2⟩
  by_cases h : a = p
  · subst h
    exact .inr fr
  · rw [upd_ne h] at e
    exact st.gr a o e
theorem de_give (h : PE X e (tL X.K C W L)) : PE X e (tE X.K C W (giveS L)) := pe_imp h fun _ _ _ => giveE

/-! ## operations -/
def op2 (g : D → D → Option D) (A B : Sm D) : Sm D := A.bind fun x => B.bind fun y => Sm.ofO (g x y)
def Snd2 (K : PySem.W.Frag) (C : Ct) (r : R2) (g : D → D → Option D) : Prop := ∀ (j : Addr) (H G : Hp) (s : Jr) (x y : V) (d e z : D), Good K C j H G s → Dv K C j G d x → Dv K C j G e y → g d e = some z →
  ∀ Q : VK, (∀ v H' G', Step K C j H G s H' G' → Dv K C j G' z v → Q v H') → r x y H Q
/-- a new list -/
def Snd2L (K : PySem.W.Frag) (C : Ct) (r : R2) (g : D → D → Option (List D)) : Prop := ∀ (j : Addr) (H G : Hp) (s : Jr) (x y : V) (d e : D) (z : List D), Good K C j H G s → Dv K C j G d x → Dv K C j G e y → g d e = some z →
  ∀ Q : VK, (∀ p vs H' G', Step K C j H G s H' G' → H' p = some (.lst vs) → G' p = none → p ≠ j → Fresh H p → DvL K C j G' z vs → Q (.ref p) H') → r x y H Q
theorem tE_op2 {K : PySem.W.Frag} {r : R2} {g : D → D → Option D} (sn : Snd2 K C r g) {σ : St} {H : Hp} {Q : VK} (h : tE K C W (op2 g A B) σ H Q) : tOp r (tE K C W A) (tE K C W B) σ H Q := by
  obtain ⟨j, H0, G, ρ, s, n, f⟩ := inE h
  refine goE n (fin_bind f) fun d s1 x H1 G1 p st n1 dx => ?_
  refine goE n1 (fin_bind (Fin'.step st p)) fun d2 s2 y H2 G2 p st2 n2 dy => ?_
  obtain ⟨z, hz, p⟩ := fin_ofO (Fin'.step st2 p)
  exact sn j H2 G2 s2 x y d d2 z n2.g (dx.mono st2.le) dy hz Q fun v H' G' st3 dv => p v H' G' ((st.trans st2).trans st3) dv
def op2L (g : D → D → Option (List D)) (A B : Sm D) : Sm (List D) := A.bind fun x => B.bind fun y => Sm.ofO (g x y)
theorem Fresh.back {j : Addr} {H H1 : Hp} {a : Addr} (x : Ext j H H1) (na : a ≠ j) (f : Fresh H1 a) : Fresh H a := fun o e => by
  by_cases t : Tbl o
  · exact t
  · exact f o (x _ _ e na t)
theorem tL_op2 {K : PySem.W.Frag} {r : R2} {g : D → D → Option (List D)} (sn : Snd2L K C r g) {σ : St} {H : Hp} {Q : VK} (h : tL K C W (op2L g A B) σ H Q) : tOp r (tE K C W A) (tE K C W B) σ H Q := by
  obtain ⟨j, H0, G, ρ, s, n, f⟩ := inL h
  refine goE n (fin_bind f) fun d s1 x H1 G1 p st n1 dx => ?_
  refine goE n1 (fin_bind (Fin'.step st p)) fun d2 s2 y H2 G2 p st2 n2 dy => ?_
  obtain ⟨z, hz, p⟩ := fin_ofO (Fin'.step st2 p)
  exact sn j H2 G2 s2 x y d d2 z n2.g (dx.mono st2.le) dy hz Q fun q vs H' G' st3 h1 h2 h3 h4 dv => p q vs H' G' ((st.trans st2).trans st3) h1 h2 h3 (Fresh.back (st.ex.trans st2.ex) h3 h4) dv
theorem de_bin {op : Operator} {r : R2} {g : D → D → Option D} (ho : OpR X (binaryOp op) r) (sn : Snd2 X.K C r g) (ha : PE X a (tE X.K C W A)) (hb : PE X b (tE X.K C W B)) : PE X (.BinOp a op b pos) (tE X.K C W (op2 g A B)) :=
  pe_imp (pe_op ho ha hb) fun _ _ _ => tE_op2 sn
theorem dl_bin {op : Operator} {r : R2} {g : D → D → Option (List D)} (ho : OpR X (binaryOp op) r) (sn : Snd2L X.K C r g) (ha : PE X a (tE X.K C W A)) (hb : PE X b (tE X.K C W B)) : PE X (.BinOp a op b pos) (tL X.K C W (op2L g A B)) :=
  pe_imp (pe_op ho ha hb) fun _ _ _ => tL_op2 sn
theorem de_cmp {op : CmpOp} {r : R2} {g : D → D → Option D} (ho : OpR X (compareOp op) r) (sn : Snd2 X.K C r g) (ha : PE X a (tE X.K C W A)) (hb : PE X b (tE X.K C W B)) (hm : behindInMarks op b = false := by rfl) : PE X (.Compare a [op] [b] pos) (tE X.K C W (op2 g A B)) :=
  pe_imp (pe_cmpR ho ha hb hm) fun _ _ _ => tE_op2 sn
theorem de_ix {r : R2} {g : D → D → Option D} (ho : IxR X r) (sn : Snd2 X.K C r g) (ha : PE X a (tE X.K C W A)) (hb : PE X b (tE X.K C W B)) (hs : PlainIx b := by exact fun _ _ => rfl) : PE X (.Subscript a b pos) (tE X.K C W (op2 g A B)) :=
  pe_imp (pe_ix ho ha hb hs) fun _ _ _ => tE_op2 sn
/-- a list is read that is just made -/
def op1 (g : D → Option D) (A : Sm D) : Sm D := A.bind fun x => Sm.ofO (g x)
def Snd1 (K : PySem.W.Frag) (C : Ct) (r : V → Hp → VK → Prop) (g : D → Option D) : Prop := ∀ (j : Addr) (H G : Hp) (s : Jr) (x : V) (d z : D), Good K C j H G s → Dv K C j G d x → g d = some z →
  ∀ Q : VK, (∀ v H' G', Step K C j H G s H' G' → Dv K C j G' z v → Q v H') → r x H Q
theorem tE_op1 {K : PySem.W.Frag} {r : V → Hp → VK → Prop} {g : D → Option D} (sn : Snd1 K C r g) {σ : St} {H : Hp} {Q : VK} (h : tE K C W (op1 g A) σ H Q) : tUn r (tE K C W A) σ H Q := by
  obtain ⟨j, H0, G, ρ, s, n, f⟩ := inE h
  refine goE n (fin_bind f) fun d s1 x H1 G1 p st n1 dx => ?_
  obtain ⟨z, hz, p⟩ := fin_ofO (Fin'.step st p)
  exact sn j H1 G1 s1 x d z n1.g dx hz Q fun v H' G' st3 dv => p v H' G' (st.trans st3) dv
theorem de_un {op : UnaryOp} {r : V → Hp → VK → Prop} {g : D → Option D} (ho : UnR X (unaryOp op) r) (sn : Snd1 X.K C r g) (ha : PE X a (tE X.K C W A)) : PE X (.UnaryOp op a pos) (tE X.K C W (op1 g A)) :=
  pe_imp (pe_un ho ha) fun _ _ _ => tE_op1 sn

/-- calls of built-ins -/
def cbS (g : List D → Option D) (L : Sm (List D)) : Sm D := L.bind fun ds => Sm.ofO (g ds)
def SndC (K : PySem.W.Frag) (C : Ct) (r : List V → Hp → VK → Prop) (g : List D → Option D) : Prop := ∀ (j : Addr) (H G : Hp) (s : Jr) (vs : List V) (ds : List D) (z : D), Good K C j H G s → DvL K C j G ds vs → g ds = some z →
  ∀ Q : VK, (∀ v H' G', Step K C j H G s H' G' → Dv K C j G' z v → Q v H') → r vs H Q
def cbL (g : List D → Option (List D)) (L : Sm (List D)) : Sm (List D) := L.bind fun ds => Sm.ofO (g ds)
def SndCL (K : PySem.W.Frag) (C : Ct) (r : List V → Hp → VK → Prop) (g : List D → Option (List D)) : Prop := ∀ (j : Addr) (H G : Hp) (s : Jr) (vs : List V) (ds : List D) (z : List D), Good K C j H G s → DvL K C j G ds vs → g ds = some z →
  ∀ Q : VK, (∀ p vs H' G', Step K C j H G s H' G' → H' p = some (.lst vs) → G' p = none → p ≠ j → Fresh H p → DvL K C j G' z vs → Q (.ref p) H') → r vs H Q
theorem tE_cb {K : PySem.W.Frag} {r : List V → Hp → VK → Prop} {g : List D → Option D} (sn : SndC K C r g) {σ : St} {H : Hp} {Q : VK} (h : tE K C W (cbS g L) σ H Q) : tCB r (tA K C W L) σ H Q := by
  obtain ⟨j, H0, G, ρ, s, n, f⟩ := inE h
  refine goA n (fin_bind f) fun ds s1 vs H1 G1 p st n1 dx => ?_
  obtain ⟨z, hz, p⟩ := fin_ofO (Fin'.step st p)
  exact sn j H1 G1 s1 vs ds z n1.g dx hz Q fun v H' G' st3 dv => p v H' G' (st.trans st3) dv
theorem tL_cb {K : PySem.W.Frag} {r : List V → Hp → VK → Prop} {g : List D → Option (List D)} (sn : SndCL K C r g) {σ : St} {H : Hp} {Q : VK} (h : tL K C W (cbL g L) σ H Q) : tCB r (tA K C W L) σ H Q := by
  obtain ⟨j, H0, G, ρ, s, n, f⟩ := inL h
  refine goA n (fin_bind f) fun ds s1 vs H1 G1 p st n1 dx => ?_
  obtain ⟨z, hz, p⟩ := fin_ofO (Fin'.step st p)
  exact sn j H1 G1 s1 vs ds z n1.g dx hz Q fun q ws H' G' st3 h1 h2 h3 h4 dv => p q ws H' G' (st.trans st3) h1 h2 h3 (Fresh.back st.ex h3 h4) dv
theorem de_cb {r : List V → Hp → VK → Prop} {g : List D → Option D} (h : PE X e (tCB r (tA X.K C W L))) (sn : SndC X.K C r g) : PE X e (tE X.K C W (cbS g L)) := pe_imp h fun _ _ _ => tE_cb sn
theorem dl_cb {r : List V → Hp → VK → Prop} {g : List D → Option (List D)} (h : PE X e (tCB r (tA X.K C W L))) (sn : SndCL X.K C r g) : PE X e (tL X.K C W (cbL g L)) := pe_imp h fun _ _ _ => tL_cb sn

/-- methods of built-in types -/
def SndM (K : PySem.W.Frag) (C : Ct) (T : String) (r : V → List V → Hp → VK → Prop) (g : D → List D → Option D) : Prop := ∀ (j : Addr) (H H1 G G1 : Hp) (s s1 : Jr) (x : V) (vs : List V) (d : D) (ds : List D) (z : D), Good K C j H G s → Dv K C j G d x → Step K C j H G s1 H1 G1 → DvL K C j G1 ds vs → g d ds = some z →
  tyV K T x H ∧ ∀ Q : VK, (∀ v H' G', Step K C j H1 G1 s1 H' G' → Dv K C j G' z v → Q v H') → r x vs H1 Q
def mtS (g : D → List D → Option D) (A : Sm D) (L : Sm (List D)) : Sm D := A.bind fun x => L.bind fun ds => Sm.ofO (g x ds)

/-! ## and, or, not, if -/
/-- a value that is True or False, as a test -/
def asB (A : Sm D) : Sm Bool := A.bind fun d => Sm.ofO (match d with
  | .bl b => some b
  | _ => none)
def bS (T : Sm Bool) : Sm D := T.map .bl
theorem bl_of {d : D} {z : Bool} (h : (match d with | .bl b => some b | _ => none) = some z) : d = .bl z := by
  cases d <;> simp at h
  rw [h]
theorem tT_asB {K : PySem.W.Frag} {σ : St} {H : Hp} {Q : Bool → Hp → Prop} (h : tT K C W (asB A) σ H Q) : tE K C W A σ H fun x H' => ∃ k, x = .bl k ∧ Q k H' := by
  obtain ⟨j, H0, G, ρ, s, n, f⟩ := inT h
  refine goE n (fin_bind f) fun d s1 x H1 G1 p st n1 dx => ?_
  obtain ⟨z, hz, p⟩ := fin_ofO (Fin'.step st p)
  have e := bl_of hz
  subst e
  exact ⟨z, dx, p H1 G1 st⟩
theorem dt_val (h : PE X e (tE X.K C W A)) (he : ∀ whole, isTrue e X.env whole = (do let v ← whole; standAt e.pos; holding [v] (truthy v)) := by intro _; rfl) : PT X e (tT X.K C W (asB A)) := pt_imp (pt_val h he) fun _ _ _ => tT_asB
theorem dt_cmp {op : CmpOp} {r : R2} {g : D → D → Option D} (ho : OpR X (compareOp op) r) (sn : Snd2 X.K C r g) (ha : PE X a (tE X.K C W A)) (hb : PE X b (tE X.K C W B)) (hm : behindInMarks op b = false := by rfl) : PT X (.Compare a [op] [b] pos) (tT X.K C W (asB (op2 g A B))) :=
  pt_imp (pt_cmpR ho ha hb hm) fun σ H Q h => tE_op2 (W := W) (C := C) sn (by
    obtain ⟨j, H0, G, ρ, s, n, f⟩ := inT h
    refine goE n (fin_bind f) fun d s1 x H1 G1 p st n1 dx => ?_
    obtain ⟨z, hz, p⟩ := fin_ofO (Fin'.step st p)
    have e := bl_of hz
    subst e
    exact ⟨z, dx, p H1 G1 st⟩)
def chS (g g' : D → D → Option D) (A B Z : Sm D) : Sm D := A.bind fun x => B.bind fun y => (Sm.ofO (g x y)).bind fun k => match k with
  | .bl true => Z.bind fun w => Sm.ofO (g' y w)
  | .bl false => cS (.bl false)
  | _ => fun _ _ => .bad
theorem tE_ch {K : PySem.W.Frag} {r r' : R2} {g g' : D → D → Option D} (sn : Snd2 K C r g) (sn' : Snd2 K C r' g') {σ : St} {H : Hp} {Q : VK} (h : tE K C W (chS g g' A B Z) σ H Q) : tChain r r' (tE K C W A) (tE K C W B) (tE K C W Z) σ H Q := by
  obtain ⟨j, H0, G, ρ, s, n, f⟩ := inE h
  refine goE n (fin_bind f) fun d s1 x H1 G1 p st n1 dx => ?_
  refine goE n1 (fin_bind (Fin'.step st p)) fun d2 s2 y H2 G2 p st2 n2 dy => ?_
  obtain ⟨k, hk, p⟩ := fin_ofO (fin_bind (Fin'.step st2 p))
  refine sn j H2 G2 s2 x y d d2 k n2.g (dx.mono st2.le) dy hk _ fun v H' G' st3 dv => ?_
  have n3 := n2.step st3
  cases k with
  | bl t =>
    refine ⟨t, dv, ?_⟩
    cases t with
    | true =>
      refine iteT ?_
      refine goE n3 (fin_bind (Fin'.step st3 p)) fun d3 s3 w H4 G4 p st4 n4 dw => ?_
      obtain ⟨z, hz, p⟩ := fin_ofO (Fin'.step st4 p)
      exact sn' j H4 G4 s3 y w d2 d3 z n4.g (dy.mono (st3.le.trans st4.le)) dw hz Q fun u H5 G5 st5 du => p u H5 G5 ((((st.trans st2).trans st3).trans st4).trans st5) du
    | false =>
      refine iteF ?_
      exact p (.bl false) H' G' ((st.trans st2).trans st3) rfl
  | non => exact p.elim
  | int _ => exact p.elim
  | str _ => exact p.elim
  | jar => exact p.elim
  | ty _ => exact p.elim
  | scr _ => exact p.elim
  | tup _ => exact p.elim
  | lst _ => exact p.elim
  | dic _ _ => exact p.elim
  | obj _ _ _ => exact p.elim
theorem de_ch {op op' : CmpOp} {r r' : R2} {g g' : D → D → Option D} (ho : OpR X (compareOp op) r) (sn : Snd2 X.K C r g) (ho' : OpR X (compareOp op') r') (sn' : Snd2 X.K C r' g') (ha : PE X a (tE X.K C W A)) (hb : PE X b (tE X.K C W B)) (hc : PE X c (tE X.K C W Z))
    (hm : lastMarks [op, op'] [b, c] = false := by with_unfolding_all rfl) : PE X (.Compare a [op, op'] [b, c] pos) (tE X.K C W (chS g g' A B Z)) := pe_imp (pe_chain ho ho' ha hb hc hm) fun _ _ _ => tE_ch sn sn'
theorem dt_ch {op op' : CmpOp} {r r' : R2} {g g' : D → D → Option D} (ho : OpR X (compareOp op) r) (sn : Snd2 X.K C r g) (ho' : OpR X (compareOp op') r') (sn' : Snd2 X.K C r' g') (ha : PE X a (tE X.K C W A)) (hb : PE X b (tE X.K C W B)) (hc : PE X c (tE X.K C W Z))
    (hm : lastMarks [op, op'] [b, c] = false := by with_unfolding_all rfl) : PT X (.Compare a [op, op'] [b, c] pos) (tT X.K C W (asB (chS g g' A B Z))) := pt_imp (pt_chain ho ho' ha hb hc hm) fun σ H Q h => tE_ch (W := W) (C := C) sn sn' (by
    obtain ⟨j, H0, G, ρ, s, n, f⟩ := inT h
    refine goE n (fin_bind f) fun d s1 x H1 G1 p st n1 dx => ?_
    obtain ⟨z, hz, p⟩ := fin_ofO (Fin'.step st p)
    have e := bl_of hz
    subst e
    exact ⟨z, dx, p H1 G1 st⟩)
def andS (T U : Sm Bool) : Sm Bool := T.bind fun b => if b then U else fun _ s => .ok false s
def orS (T U : Sm Bool) : Sm Bool := T.bind fun b => if b then (fun _ s => .ok true s) else U
def notS (T : Sm Bool) : Sm Bool := T.map not
theorem tT_and {K : PySem.W.Frag} {σ : St} {H : Hp} {Q : Bool → Hp → Prop} (h : tT K C W (andS T U) σ H Q) : tAnd (tT K C W T) (tT K C W U) σ H Q := by
  obtain ⟨j, H0, G, ρ, s, n, f⟩ := inT h
  refine goT n (fin_bind f) fun b s1 H1 G1 p st n1 => ?_
  cases b with
  | true =>
    refine iteT ?_
    exact goT n1 (Fin'.step st p) fun b s2 H2 G2 p st2 n2 => p H2 G2 (st.trans st2)
  | false =>
    refine iteF ?_
    exact p H1 G1 st
theorem tT_or {K : PySem.W.Frag} {σ : St} {H : Hp} {Q : Bool → Hp → Prop} (h : tT K C W (orS T U) σ H Q) : tOr (tT K C W T) (tT K C W U) σ H Q := by
  obtain ⟨j, H0, G, ρ, s, n, f⟩ := inT h
  refine goT n (fin_bind f) fun b s1 H1 G1 p st n1 => ?_
  cases b with
  | false =>
    refine iteF ?_
    exact goT n1 (Fin'.step st p) fun b s2 H2 G2 p st2 n2 => p H2 G2 (st.trans st2)
  | true =>
    refine iteT ?_
    exact p H1 G1 st
theorem dw_one_and (h : PT X a (tT X.K C W T)) : PW X (.BoolOp .And [a] pos) (tT X.K C W T) := pw_and1 h
theorem dw_one_or (h : PT X a (tT X.K C W T)) : PW X (.BoolOp .Or [a] pos) (tT X.K C W T) := pw_or1 h
theorem dw_and (h : PT X a (tT X.K C W T)) (k : PW X (.BoolOp .And (b :: es) pos) (tT X.K C W U)) : PW X (.BoolOp .And (a :: b :: es) pos) (tT X.K C W (andS T U)) := pw_imp (pw_and h k) fun _ _ _ => tT_and
theorem dw_or (h : PT X a (tT X.K C W T)) (k : PW X (.BoolOp .Or (b :: es) pos) (tT X.K C W U)) : PW X (.BoolOp .Or (a :: b :: es) pos) (tT X.K C W (orS T U)) := pw_imp (pw_or h k) fun _ _ _ => tT_or
theorem dt_not (h : PT X a (tT X.K C W T)) : PT X (.UnaryOp .Not a pos) (tT X.K C W (notS T)) := pt_imp (pt_not h) fun σ H Q q => by
  obtain ⟨j, H0, G, ρ, s, n, f⟩ := inT q
  exact goT n (fin_map f) fun b s1 H1 G1 p st n1 => p H1 G1 st
/-- the same as values -/
def andV (A B : Sm D) : Sm D := (asB A).bind fun b => if b then B else cS (.bl false)
def orV (A B : Sm D) : Sm D := (asB A).bind fun b => if b then cS (.bl true) else B
def notV (A : Sm D) : Sm D := (asB A).map fun b => .bl (!b)
theorem fin_asB {K : PySem.W.Frag} {j : Addr} {H G : Hp} {σ : St} {ρ : En} {s : Jr} {P : Bool → Jr → Prop} (f : Fin' K C j H G W σ (asB A ρ s) P) : Fin' K C j H G W σ (A ρ s) fun d s' => ∃ b, d = .bl b ∧ P b s' := by
  have h := fin_bind f
  cases e : A ρ s with
  | ok d s' =>
    rw [e] at h
    obtain ⟨z, hz, p⟩ := fin_ofO (K := K) (C := C) (j := j) (H := H) (G := G) (W := W) (σ := σ) (ρ := ρ) h
    exact ⟨z, bl_of hz, p⟩
  | exc c d s' => rw [e] at h; exact h
  | bad => rw [e] at h; exact h
theorem de_and (ha : PE X a (tE X.K C W A)) (hb : PE X (.BoolOp .And (b :: es) pos) (tE X.K C W B)) : PE X (.BoolOp .And (a :: b :: es) pos) (tE X.K C W (andV A B)) := pe_imp (pe_and ha hb) fun σ H Q q => by
  obtain ⟨j, H0, G, ρ, s, n, f⟩ := inE q
  refine goE n (fin_asB (fin_bind f)) fun d s1 x H1 G1 p st n1 dx => ?_
  obtain ⟨b, rfl, p⟩ := p
  refine ⟨b, dx, ?_⟩
  cases b with
  | true =>
    refine iteT ?_
    exact goE n1 (Fin'.step st p) fun d s2 y H2 G2 p st2 n2 dy => p y H2 G2 (st.trans st2) dy
  | false =>
    refine iteF ?_
    exact p (.bl false) H1 G1 st rfl
theorem de_or (ha : PE X a (tE X.K C W A)) (hb : PE X (.BoolOp .Or (b :: es) pos) (tE X.K C W B)) : PE X (.BoolOp .Or (a :: b :: es) pos) (tE X.K C W (orV A B)) := pe_imp (pe_or ha hb) fun σ H Q q => by
  obtain ⟨j, H0, G, ρ, s, n, f⟩ := inE q
  refine goE n (fin_asB (fin_bind f)) fun d s1 x H1 G1 p st n1 dx => ?_
  obtain ⟨b, rfl, p⟩ := p
  refine ⟨b, dx, ?_⟩
  cases b with
  | false =>
    refine iteF ?_
    exact goE n1 (Fin'.step st p) fun d s2 y H2 G2 p st2 n2 dy => p y H2 G2 (st.trans st2) dy
  | true =>
    refine iteT ?_
    exact p (.bl true) H1 G1 st rfl
theorem de_one {op : BoolOp} (h : PE X a (tE X.K C W A)) : PE X (.BoolOp op [a] pos) (tE X.K C W A) := pe_one h
theorem de_not (ha : PE X a (tE X.K C W A)) : PE X (.UnaryOp .Not a pos) (tE X.K C W (notV A)) := pe_imp (pe_not ha) fun σ H Q q => by
  obtain ⟨j, H0, G, ρ, s, n, f⟩ := inE q
  refine goE n (fin_asB (fin_map f)) fun d s1 x H1 G1 p st n1 dx => ?_
  obtain ⟨b, rfl, p⟩ := p
  exact ⟨b, dx, p _ H1 G1 st rfl⟩
def ifS (T : Sm Bool) (A B : Sm D) : Sm D := T.bind fun b => if b then A else B
theorem de_if (hc : PT X c (tT X.K C W T)) (ha : PE X a (tE X.K C W A)) (hb : PE X b (tE X.K C W B)) : PE X (.IfExp c a b pos) (tE X.K C W (ifS T A B)) := pe_imp (pe_ifExp hc ha hb) fun σ H Q q => by
  obtain ⟨j, H0, G, ρ, s, n, f⟩ := inE q
  refine goT n (fin_bind f) fun b s1 H1 G1 p st n1 => ?_
  cases b with
  | true =>
    refine iteT ?_
    exact goE n1 (Fin'.step st p) fun d s2 y H2 G2 p st2 n2 dy => p y H2 G2 (st.trans st2) dy
  | false =>
    refine iteF ?_
    exact goE n1 (Fin'.step st p) fun d s2 y H2 G2 p st2 n2 dy => p y H2 G2 (st.trans st2) dy
end
end DL

namespace DL
open PySem PySem.Spec PyProof.Rows L2

/-! ## the program's own functions -/
abbrev Fn := List D → Jr → Res D
/-- the promise: what F says of the data -/
def SP (K : PySem.W.Frag) (C : Ct) (n : Nat) (F : Fn) : Sp := fun vs H Q E => vs.length = n ∧ ∃ j G ds s, Good K C j H G s ∧ DvL K C j G ds vs ∧
  match F ds s with
  | .ok d s' => ∀ v H' G', Step K C j H G s' H' G' → Dv K C j G' d v → Q v H'
  | .exc c d s' => ∀ v dd H' G', Step K C j H G s' H' G' → Dv K C j G' d v → H' dd = some (xdV v) → E (.ref (C.cl c)) (some dd) H'
  | .bad => False
def callS (n : Nat) (F : Fn) (L : Sm (List D)) : Sm D := L.bind fun ds => fun _ s => if ds.length = n then F ds s else .bad
section
variable {X : Cx} {C : Ct} {W : WX} {e a b c : Expr} {es : List Expr} {A B Z : Sm D} {L : Sm (List D)} {T U : Sm Bool} {pos : Pos}
theorem tE_call {K : PySem.W.Frag} {F : Fn} {n : Nat} {σ : St} {H : Hp} {Q : VK} (h : tE K C W (callS n F L) σ H Q) : tCallS (SP K C n F) (WE W) (tA K C W L) σ H Q := by
  obtain ⟨j, H0, G, ρ, s, nw, f⟩ := inE h
  refine goA nw (fin_bind f) fun ds s1 vs H1 G1 p st n1 dl => ?_
  have p := Fin'.step st p
  by_cases hl : ds.length = n
  · rw [if_pos hl] at p
    refine ⟨by rw [← dl.length]; exact hl, j, G1, ds, s1, n1.g, dl, ?_⟩
    cases e : F ds s1 with
    | ok d s2 => rw [e] at p; exact fun v H' G' st2 dv => p v H' G' (st.trans st2) dv
    | exc c d s2 => rw [e] at p; exact p
    | bad => rw [e] at p; exact p.elim
  · rw [if_neg hl] at p
    exact p.elim
theorem de_call {F : Fn} {n k : Nat} {f : Addr} {fd : FuncData} {ps : List Str} {x : Str} {p : Pos} (G : FnOk X.prog X.w X.K X.mg X.base (L2.CX X.prog X.w) k f fd ps (SP X.K C n F)) (hr : Room k X.A) (tk : Takes X W) (hg : Gl X x) (hm : X.mg x = some (.ref f))
    (hk : PySem.W.keepIn X.K (.ref f) = true) (hb : Binds X.K fd ps []) (ha : PA X (e :: es) (tA X.K C W L)) (hdb : (x == ("__debug__" : Str)) = false := by decide)
    (he : starEach (e :: es) X.env = (false, eval e X.env) :: starEach es X.env := by rfl) (hpl : (backTo pos (starEach es X.env)).any (·.1) = false := by rfl) : PE X (.Call (.Name x p) (e :: es) [] pos) (tE X.K C W (callS n F L)) :=
  pe_imp (pe_callS G hr hg hm hk hb (fun σ => passAt tk σ) ha hdb he hpl) fun _ _ _ => tE_call
/-- without arguments -/
theorem de_call0 {F : Fn} {k : Nat} {f : Addr} {fd : FuncData} {ps : List Str} {x : Str} {p : Pos} (G : FnOk X.prog X.w X.K X.mg X.base (L2.CX X.prog X.w) k f fd ps (SP X.K C 0 F)) (hr : Room k X.A) (tk : Takes X W) (hg : Gl X x) (hm : X.mg x = some (.ref f))
    (hk : PySem.W.keepIn X.K (.ref f) = true) (hb : Binds X.K fd ps []) (hdb : (x == ("__debug__" : Str)) = false := by decide) : PE X (.Call (.Name x p) [] [] pos) (tE X.K C W (callS 0 F nilS)) := by
  refine ⟨fun pins s σ H Q I h => ?_⟩
  refine wpAny_Call_Name_kw (ld_glob I hg hm ?_ hdb)
  have h' := tE_call (L := nilS) h
  refine PySem.W.callWith_K0 I.kIn hk (run_fnS (us := []) (vs := []) (E := WE W) G hr hb (passAt tk σ) I .nil ?_)
  obtain ⟨j, H0, G', ρ, s', g, en, m⟩ := h'
  exact m [] H G' (Step.refl g) rfl
end

/-! ## statements -/
inductive Out where
  | nx (ρ : En) (s : Jr)
  | bk (ρ : En) (s : Jr)
  | ct (ρ : En) (s : Jr)
  | rt (d : D) (s : Jr)
  | exc (c : Nat) (d : D) (s : Jr)
  | bad
abbrev Ss := En → Jr → Out
structure Mv (j : Addr) (H0 G0 H G : Hp) : Prop where
  ex : Ext j H0 H
  le : Le G0 G
  gr : Gro H0 G0 G
def FinS (K : PySem.W.Frag) (C : Ct) (j : Addr) (H0 G0 : Hp) (W : WX) (D' : Ends) : Out → Prop
  | .nx ρ' s' => ∀ σ' H' G', Now K C j H0 σ' H' G' ρ' s' → Mv j H0 G0 H' G' → D'.nx σ' H'
  | .bk ρ' s' => ∀ σ' H' G', Now K C j H0 σ' H' G' ρ' s' → Mv j H0 G0 H' G' → D'.bk σ' H'
  | .ct ρ' s' => ∀ σ' H' G', Now K C j H0 σ' H' G' ρ' s' → Mv j H0 G0 H' G' → D'.ct σ' H'
  | .rt d s' => ∀ v H' G', Good K C j H' G' s' → Mv j H0 G0 H' G' → Dv K C j G' d v → D'.rt v H'
  | .exc c d s' => ∀ v dd σ' H' G', Good K C j H' G' s' → Mv j H0 G0 H' G' → Dv K C j G' d v → H' dd = some (xdV v) → W (.ref (C.cl c)) (some dd) σ' H'
  | .bad => False
def tS (K : PySem.W.Frag) (C : Ct) (W : WX) (F : Ss) : TS := fun D' σ H => ∃ j H0 G0 G ρ s, Now K C j H0 σ H G ρ s ∧ Mv j H0 G0 H G ∧ FinS K C j H0 G0 W D' (F ρ s)

section
variable {K : PySem.W.Frag} {C : Ct} {j : Addr} {H0 G0 H H' G G' : Hp} {s s' : Jr} {σ : St} {ρ : En} {W : WX}
theorem Mv.step (m : Mv j H0 G0 H G) (st : Step K C j H G s' H' G') : Mv j H0 G0 H' G' := ⟨m.ex.trans st.ex, m.le.trans st.le, m.gr.trans m.ex st.ok.gj st.gr⟩
theorem EnvOk.set (en : EnvOk K C j H0 σ H G ρ) (i : Nat) {d : D} {v : V} (dv : Dv K C j G d v) : EnvOk K C j H0 (σ.set i (some v)) H G (ρ.set i (.dat d)) := by
  have key : ∀ k, k ≠ i → (σ.set i (some v))[k]? = σ[k]? ∧ (ρ.set i (.dat d))[k]? = ρ[k]? := fun k h => ⟨by rw [List.getElem?_set_ne (Ne.symm h)], by rw [List.getElem?_set_ne (Ne.symm h)]⟩
  refine ⟨by rw [List.length_set, List.length_set]; exact en.len, fun k sl h => ?_, fun k k' ds ds' p h1 h2 h3 h4 => ?_⟩
  · by_cases e : k = i
    · subst e
      by_cases hl : k < ρ.length
      · rw [List.getElem?_set_self hl] at h
        cases h
        exact ⟨v, by rw [List.getElem?_set_self (by rw [en.len]; exact hl)], dv⟩
      · rw [List.getElem?_eq_none (by rw [List.length_set]; omega)] at h
        cases h
    · rw [(key k e).2] at h
      have x := en.at_ k sl h
      unfold SlOk at x ⊢
      rw [(key k e).1]
      exact x
  · have ne : ∀ {k : Nat} {ds : List D}, (ρ.set i (.dat d))[k]? = some (.own ds) → k ≠ i := fun {k ds} h e => by
      subst e
      by_cases hl : k < ρ.length
      · rw [List.getElem?_set_self hl] at h; cases h
      · rw [List.getElem?_eq_none (by rw [List.length_set]; omega)] at h; cases h
    have n1 := ne h1
    have n2 := ne h2
    rw [(key k n1).2] at h1
    rw [(key k' n2).2] at h2
    rw [(key k n1).1] at h3
    rw [(key k' n2).1] at h4
    exact en.dis k k' ds ds' p h1 h2 h3 h4
theorem EnvOk.setOwn (en : EnvOk K C j H0 σ H G ρ) (i : Nat) {ds : List D} {p : Addr} {vs : List V} (hp : H p = some (.lst vs)) (gp : G p = none) (pj : p ≠ j) (fr : Fresh H0 p) (dl : DvL K C j G ds vs)
    (new : ∀ (k : Nat) (es : List D), ρ[k]? = some (.own es) → σ[k]? ≠ some (some (.ref p))) : EnvOk K C j H0 (σ.set i (some (.ref p))) H G (ρ.set i (.own ds)) := by
  have key : ∀ k, k ≠ i → (σ.set i (some (.ref p)))[k]? = σ[k]? ∧ (ρ.set i (.own ds))[k]? = ρ[k]? := fun k h => ⟨by rw [List.getElem?_set_ne (Ne.symm h)], by rw [List.getElem?_set_ne (Ne.symm h)]⟩
  refine ⟨by rw [List.length_set, List.length_set]; exact en.len, fun k sl h => ?_, fun k k' es es' q h1 h2 h3 h4 => ?_⟩
  · by_cases e : k = i
    · subst e
      by_cases hl : k < ρ.length
      · rw [List.getElem?_set_self hl] at h
        cases h
        exact ⟨p, vs, by rw [List.getElem?_set_self (by rw [en.len]; exact hl)], hp, gp, pj, fr, dl⟩
      · rw [List.getElem?_eq_none (by rw [List.length_set]; omega)] at h
        cases h
    · rw [(key k e).2] at h
      have x := en.at_ k sl h
      unfold SlOk at x ⊢
      rw [(key k e).1]
      exact x
  · have at_i : ∀ {k : Nat} {q : Addr}, (σ.set i (some (.ref p)))[k]? = some (some (.ref q)) → k = i → q = p := fun {k q} h e => by
      subst e
      by_cases hl : k < σ.length
      · rw [List.getElem?_set_self hl] at h; cases h; rfl
      · rw [List.getElem?_eq_none (by rw [List.length_set]; omega)] at h; cases h
    by_cases e1 : k = i
    · by_cases e2 : k' = i
      · rw [e1, e2]
      · have eq := at_i h3 e1
        rw [(key k' e2).2] at h2
        rw [(key k' e2).1, eq] at h4
        exact absurd h4 (new k' es' h2)
    · by_cases e2 : k' = i
      · have eq := at_i h4 e2
        rw [(key k e1).2] at h1
        rw [(key k e1).1, eq] at h3
        exact absurd h3 (new k es h1)
      · rw [(key k e1).2] at h1
        rw [(key k' e2).2] at h2
        rw [(key k e1).1] at h3
        rw [(key k' e2).1] at h4
        exact en.dis k k' es es' q h1 h2 h3 h4
/-- one's own list changes -/
theorem Now.write (n : Now K C j H0 σ H G ρ s) {i : Nat} {ds ds' : List D} {p : Addr} {vs' : List V} (hi : ρ[i]? = some (.own ds)) (hs : σ[i]? = some (some (.ref p))) (dl : DvL K C j G ds' vs') :
    Now K C j H0 σ (upd H p (.lst vs')) G (ρ.set i (.own ds')) s := by
  obtain ⟨p0, vs, h1, h2, h3, h4, h5, h6⟩ := n.en.at_ i _ hi
  have hp : H p = some (.lst vs) ∧ G p = none ∧ p ≠ j ∧ Fresh H0 p := by
    rw [hs] at h1
    cases h1
    exact ⟨h2, h3, h4, h5⟩
  obtain ⟨hp, gp, pj, fr⟩ := hp
  have lt : i < ρ.length := by
    by_cases h : i < ρ.length
    · exact h
    · rw [List.getElem?_eq_none (by omega)] at hi; cases hi
  refine ⟨⟨fun a o e => by rw [upd_ne (fun z => by rw [z, gp] at e; cases e)]; exact n.g.le a o e, n.g.gj, by rw [upd_ne pj.symm]; exact n.g.hj, ?_, n.g.nt⟩, ?_⟩
  · intro q hq
    obtain ⟨ps, e1, e2, e3⟩ := n.g.tb q hq
    refine ⟨ps, by rw [upd_ne (fun z => by rw [z, hp] at e1; cases e1)]; exact e1, e2, fun pos cv hc => ?_⟩
    obtain ⟨c, f1, f2⟩ := e3 pos cv hc
    exact ⟨c, f1, by rw [upd_ne (fun z => by rw [z, hp] at f2; unfold LamX.CodeO at f2; cases f2)]; exact f2⟩
  · refine ⟨by rw [List.length_set]; exact n.en.len, fun k sl h => ?_, fun k k' es es' q a1 a2 a3 a4 => ?_⟩
    · by_cases e : k = i
      · subst e
        rw [List.getElem?_set_self lt] at h
        cases h
        exact ⟨p, vs', hs, upd_same, gp, pj, fr, dl⟩
      · rw [List.getElem?_set_ne (Ne.symm e)] at h
        have x := n.en.at_ k sl h
        cases sl with
        | no => trivial
        | dat d => exact x
        | own es =>
          obtain ⟨q, ws, b1, b2, b3, b4, b5, b6⟩ := x
          have qp : q ≠ p := fun z => e (n.en.dis k i es ds p h hi (by rw [← z]; exact b1) hs)
          exact ⟨q, ws, b1, by rw [upd_ne qp]; exact b2, b3, b4, b5, b6⟩
    · have own : ∀ {k : Nat} {es : List D}, (ρ.set i (.own ds'))[k]? = some (.own es) → ∃ es0, ρ[k]? = some (.own es0) := fun {k es} h => by
        by_cases e : k = i
        · subst e
          exact ⟨ds, hi⟩
        · rw [List.getElem?_set_ne (Ne.symm e)] at h
          exact ⟨es, h⟩
      obtain ⟨_, b1⟩ := own a1
      obtain ⟨_, b2⟩ := own a2
      exact n.en.dis k k' _ _ q b1 b2 a3 a4
theorem Mv.write (m : Mv j H0 G0 H G) {p : Addr} {vs' : List V} (fr : Fresh H0 p) : Mv j H0 G0 (upd H p (.lst vs')) G := by
  refine ⟨fun a o e na nt => ?_, m.le, m.gr⟩
  rw [upd_ne (fun z => by subst z; exact nt (fr o e))]
  exact m.ex a o e na nt
/-- one's own list is given out -/
theorem Now.give (n : Now K C j H0 σ H G ρ s) {i : Nat} {ds : List D} (hi : ρ[i]? = some (.own ds)) (m : Mv j H0 G0 H G) : ∃ G', Now K C j H0 σ H G' (ρ.set i (.dat (.lst ds))) s ∧ Mv j H0 G0 H G' := by
  obtain ⟨p, vs, h1, h2, h3, h4, h5, h6⟩ := n.en.at_ i _ hi
  obtain ⟨g2, le2⟩ := n.g.give h2 h3 h4 not_tbl_lst
  have lt : i < ρ.length := by
    by_cases h : i < ρ.length
    · exact h
    · rw [List.getElem?_eq_none (by omega)] at hi; cases hi
  refine ⟨upd G p (.lst vs), ⟨g2, ⟨by rw [List.length_set]; exact n.en.len, fun k sl h => ?_, fun k k' es es' q a1 a2 a3 a4 => ?_⟩⟩, ⟨m.ex, m.le.trans le2, fun a o e => ?_⟩⟩
  · by_cases e : k = i
    · subst e
      rw [List.getElem?_set_self lt] at h
      cases h
      exact ⟨.ref p, h1, p, vs, rfl, upd_same, h6.mono le2⟩
    · rw [List.getElem?_set_ne (Ne.symm e)] at h
      have x := n.en.at_ k sl h
      cases sl with
      | no => trivial
      | dat d =>
        obtain ⟨v, b1, b2⟩ := x
        exact ⟨v, b1, b2.mono le2⟩
      | own es =>
        obtain ⟨q, ws, b1, b2, b3, b4, b5, b6⟩ := x
        have qp : q ≠ p := fun z => e (n.en.dis k i es ds p h hi (by rw [← z]; exact b1) h1)
        exact ⟨q, ws, b1, b2, by rw [upd_ne qp]; exact b3, b4, b5, b6.mono le2⟩
  · have own : ∀ {k : Nat} {es : List D}, (ρ.set i (.dat (.lst ds)))[k]? = some (.own es) → ρ[k]? = some (.own es) := fun {k es} h => by
      by_cases e : k = i
      · subst e
        rw [List.getElem?_set_self lt] at h
        cases h
      · rw [List.getElem?_set_ne (Ne.symm e)] at h
        exact h
    exact n.en.dis k k' _ _ q (own a1) (own a2) a3 a4
  · by_cases h : a = p
    · subst h
      exact .inr h5
    · rw [upd_ne h] at e
      exact m.gr a o e
theorem inS {F : Ss} {D' : Ends} (h : tS K C W F D' σ H) : ∃ j H0 G0 G ρ s, Now K C j H0 σ H G ρ s ∧ Mv j H0 G0 H G ∧ FinS K C j H0 G0 W D' (F ρ s) := h
/-- an expression's raise is the statement's -/
theorem upS {D' : Ends} {c : Nat} {d : D} (m : Mv j H0 G0 H G) (f : FinS K C j H0 G0 W D' (.exc c d s')) : Up K C j H G W σ c d s' := fun v dd H' G' st dv hx => f v dd σ H' G' st.ok (m.step st) dv hx
end

section
variable {X : Cx} {C : Ct} {W : WX} {st : Stmt} {rest : List Stmt} {e a b c : Expr} {es : List Expr} {A B Z : Sm D} {L : Sm (List D)} {T U : Sm Bool} {F F' : Ss} {pos : Pos}
def skipS : Ss := fun ρ s => .nx ρ s
def seqS (F F' : Ss) : Ss := fun ρ s => match F ρ s with
  | .nx ρ' s' => F' ρ' s'
  | o => o
theorem ds_nil : PSs X [] (tS X.K C W skipS) := pss_imp pss_nil fun D' σ H q => by
  obtain ⟨j, H0, G0, G, ρ, s, n, m, f⟩ := inS q
  exact f σ H G n m
theorem ds_cons (h : PS X st (tS X.K C W F)) (k : PSs X rest (tS X.K C W F')) : PSs X (st :: rest) (tS X.K C W (seqS F F')) := pss_imp (pss_cons h k) fun D' σ H q => by
  obtain ⟨j, H0, G0, G, ρ, s, n, m, f⟩ := inS q
  refine ⟨j, H0, G0, G, ρ, s, n, m, ?_⟩
  unfold seqS at f
  cases e : F ρ s with
  | nx ρ' s' =>
    rw [e] at f
    exact fun σ' H' G' n' m' => ⟨j, H0, G0, G', ρ', s', n', m', f⟩
  | bk ρ' s' => rw [e] at f; exact f
  | ct ρ' s' => rw [e] at f; exact f
  | rt d s' => rw [e] at f; exact f
  | exc c d s' => rw [e] at f; exact f
  | bad => rw [e] at f; exact f
theorem ds_one (h : PS X st (tS X.K C W F)) : PSs X [st] (tS X.K C W F) := pss_one h
def asgS (i : Nat) (A : Sm D) : Ss := fun ρ s => match A ρ s with
  | .ok d s' => .nx (ρ.set i (.dat d)) s'
  | .exc c d s' => .exc c d s'
  | .bad => .bad
/-- an expression is reckoned, then Fk -/
def thenS (A : Sm D) (k : D → Ss) : Ss := fun ρ s => match A ρ s with
  | .ok d s' => k d ρ s'
  | .exc c d s' => .exc c d s'
  | .bad => .bad
theorem stepE {k : D → Ss} {D' : Ends} {σ : St} {H : Hp} {Q : VK} (q : tS X.K C W (thenS A k) D' σ H)
    (kk : ∀ (j : Addr) (H0 G0 H1 G1 : Hp) (ρ : En) (s1 : Jr) (d : D) (v : V), Now X.K C j H0 σ H1 G1 ρ s1 → Mv j H0 G0 H1 G1 → Dv X.K C j G1 d v → FinS X.K C j H0 G0 W D' (k d ρ s1) → Q v H1) : tE X.K C W A σ H Q := by
  obtain ⟨j, H0, G0, G, ρ, s, n, m, f⟩ := inS q
  refine ⟨j, H0, G, ρ, s, n.g, n.en, ?_⟩
  unfold thenS at f
  cases e : A ρ s with
  | ok d s' =>
    rw [e] at f
    exact fun v H' G' st dv => kk j H0 G0 H' G' ρ s' d v (n.step st) (m.step st) dv f
  | exc c d s' => rw [e] at f; exact upS m f
  | bad => rw [e] at f; exact f
theorem ds_set {i : Nat} {x : Str} {pos' : Pos} (hN : X.N.Nodup) (hi : X.N[i]? = some x) (hx : Loc X.env.scope x) (he : PE X e (tE X.K C W A)) (hs : swapsWith e (some (.Name x pos')) pos.line X.env = pure false := by rfl)
    (hf : X.fn x = true ∨ X.env.scope.names.lookup x = some .local := by first | exact .inl rfl | exact .inr rfl | assumption) : PS X (.Assign [.Name x pos'] e pos) (tS X.K C W (thenS A fun d ρ s => .nx (ρ.set i (.dat d)) s)) :=
  ps_imp (ps_set hN hi hx he hs hf) fun D' σ H q => stepE q fun j H0 G0 H1 G1 ρ s1 d v n m dv f => f (σ.set i (some v)) H1 G1 ⟨n.g, n.en.set i dv⟩ m
theorem ds_ret (he : PE X e (tE X.K C W A)) : PS X (.Return (some e) pos) (tS X.K C W (thenS A fun d _ s => .rt d s)) :=
  ps_imp (ps_ret he) fun D' σ H q => stepE q fun j H0 G0 H1 G1 ρ s1 d v n m dv f => f v H1 G1 n.g m dv
theorem ds_expr (he : PE X e (tE X.K C W A)) (hs : swapsWith e none pos.line X.env = pure false := by rfl) : PS X (.Expr e pos) (tS X.K C W (thenS A fun _ ρ s => .nx ρ s)) :=
  ps_imp (ps_expr he hs) fun D' σ H q => stepE q fun j H0 G0 H1 G1 ρ s1 d v n m dv f => f σ H1 G1 n m
def iffS (T : Sm Bool) (F F' : Ss) : Ss := fun ρ s => match T ρ s with
  | .ok b s' => if b then F ρ s' else F' ρ s'
  | .exc c d s' => .exc c d s'
  | .bad => .bad
theorem ds_if {p q : List Stmt} (hc : PT X c (tT X.K C W T)) (ha : PSs X p (tS X.K C W F)) (hb : PSs X q (tS X.K C W F')) : PS X (.If c p q pos) (tS X.K C W (iffS T F F')) :=
  ps_imp (ps_if hc ha hb) fun D' σ H q => by
    obtain ⟨j, H0, G0, G, ρ, s, n, m, f⟩ := inS q
    refine ⟨j, H0, G, ρ, s, n.g, n.en, ?_⟩
    unfold iffS at f
    cases e : T ρ s with
    | ok b s' =>
      rw [e] at f
      intro H' G' st
      cases b with
      | true =>
        refine iteT ?_
        exact ⟨j, H0, G0, G', ρ, s', n.step st, m.step st, f⟩
      | false =>
        refine iteF ?_
        exact ⟨j, H0, G0, G', ρ, s', n.step st, m.step st, f⟩
    | exc c d s' => rw [e] at f; exact upS m f
    | bad => rw [e] at f; exact f
/-- a list of one's own kept by a name -/
def thenL (L : Sm (List D)) (k : List D → Ss) : Ss := fun ρ s => match L ρ s with
  | .ok d s' => k d ρ s'
  | .exc c d s' => .exc c d s'
  | .bad => .bad
theorem ds_setOwn {i : Nat} {x : Str} {pos' : Pos} (hN : X.N.Nodup) (hi : X.N[i]? = some x) (hx : Loc X.env.scope x) (he : PE X e (tL X.K C W L)) (hs : swapsWith e (some (.Name x pos')) pos.line X.env = pure false := by rfl)
    (hf : X.fn x = true ∨ X.env.scope.names.lookup x = some .local := by first | exact .inl rfl | exact .inr rfl | assumption) : PS X (.Assign [.Name x pos'] e pos) (tS X.K C W (thenL L fun ds ρ s => .nx (ρ.set i (.own ds)) s)) :=
  ps_imp (ps_set hN hi hx he hs hf) fun D' σ H q => by
    obtain ⟨j, H0, G0, G, ρ, s, n, m, f⟩ := inS q
    refine ⟨j, H0, G, ρ, s, n.g, n.en, ?_⟩
    unfold thenL at f
    cases e : L ρ s with
    | ok ds s' =>
      rw [e] at f
      intro p vs H' G' st hp gp pj fr dl
      have n' := n.step st
      refine f (σ.set i (some (.ref p))) H' G' ⟨n'.g, n'.en.setOwn i hp gp pj (Fresh.back m.ex pj fr) dl fun k es hk hs => ?_⟩ (m.step st)
      obtain ⟨q, ws, b1, b2, _⟩ := n.en.at_ k _ hk
      rw [hs] at b1
      cases b1
      exact fr.not b2
    | exc c d s' => rw [e] at f; exact upS m f
    | bad => rw [e] at f; exact f
/-- from here on it is given out -/
def frzS (i : Nat) (F : Ss) : Ss := fun ρ s => match ρ[i]? with
  | some (.own ds) => F (ρ.set i (.dat (.lst ds))) s
  | _ => .bad
theorem ds_frz (i : Nat) {sts : List Stmt} (h : PSs X sts (tS X.K C W F)) : PSs X sts (tS X.K C W (frzS i F)) := pss_imp h fun D' σ H q => by
  obtain ⟨j, H0, G0, G, ρ, s, n, m, f⟩ := inS q
  unfold frzS at f
  cases e : ρ[i]? with
  | none => rw [e] at f; exact f.elim
  | some sl =>
    rw [e] at f
    cases sl with
    | no => exact f.elim
    | dat d => exact f.elim
    | own ds =>
      obtain ⟨G', n', m'⟩ := n.give e m
      exact ⟨j, H0, G0, G', _, s, n', m', f⟩
end
end DL

namespace DL
open PySem PySem.Spec PyProof.Rows L2

section
variable {K : PySem.W.Frag} {C : Ct} {j : Addr} {H0 G0 H H' G G' : Hp} {s s' : Jr} {σ : St} {ρ : En} {W : WX}
theorem Mv.trans (a : Mv j H0 G0 H G) (b : Mv j H0 G H' G') : Mv j H0 G0 H' G' := ⟨b.ex, a.le.trans b.le, fun x o e => by
  rcases b.gr x o e with h | h
  · exact a.gr x o h
  · exact .inr h⟩
theorem Mv.refl (m : Mv j H0 G0 H G) : Mv j H0 G H G := ⟨m.ex, Le.refl _, Gro.refl _ _⟩
theorem FinS.rebase {D' : Ends} {o : Out} (m : Mv j H0 G0 H G) (f : FinS K C j H0 G0 W D' o) : FinS K C j H0 G W D' o := by
  cases o with
  | nx ρ' s' => exact fun σ' H' G' n m' => f σ' H' G' n (m.trans m')
  | bk ρ' s' => exact fun σ' H' G' n m' => f σ' H' G' n (m.trans m')
  | ct ρ' s' => exact fun σ' H' G' n m' => f σ' H' G' n (m.trans m')
  | rt d s' => exact fun v H' G' g m' dv => f v H' G' g (m.trans m') dv
  | exc c d s' => exact fun v dd σ' H' G' g m' dv hx => f v dd σ' H' G' g (m.trans m') dv hx
  | bad => exact f
end

section
variable {X : Cx} {C : Ct} {W : WX} {st : Stmt} {rest : List Stmt} {e a b c it : Expr} {es : List Expr} {A B Z : Sm D} {L : Sm (List D)} {T U : Sm Bool} {F F' : Ss} {pos : Pos}
/-! ## append, extend -/
def ownS (i : Nat) (k : List D → Ss) : Ss := fun ρ s => match ρ[i]? with
  | some (.own ds) => k ds ρ s
  | _ => .bad
def optS {α : Type} (o : Option α) (k : α → Ss) : Ss := match o with
  | some a => k a
  | none => fun _ _ => .bad
def one? : List D → Option D
  | [d] => some d
  | _ => none
def lst? : D → Option (List D)
  | .lst ds => some ds
  | _ => none
def tup? : D → Option (List D)
  | .tup ds => some ds
  | _ => none
def int? : D → Option Int
  | .int i => some i
  | _ => none
def str? : D → Option Str
  | .str i => some i
  | _ => none
theorem one_some {l : List D} {d : D} (h : one? l = some d) : l = [d] := by
  match l, h with
  | [x], h => cases h; rfl
theorem lst_some {x : D} {l : List D} (h : lst? x = some l) : x = .lst l := by
  cases x <;> cases h
  rfl
theorem tup_some {x : D} {l : List D} (h : tup? x = some l) : x = .tup l := by
  cases x <;> cases h
  rfl
theorem int_some {x : D} {l : Int} (h : int? x = some l) : x = .int l := by
  cases x <;> cases h
  rfl
theorem str_some {x : D} {l : Str} (h : str? x = some l) : x = .str l := by
  cases x <;> cases h
  rfl
theorem fin_optS {K : PySem.W.Frag} {j : Addr} {H0 G0 : Hp} {D' : Ends} {α : Type} {o : Option α} {k : α → Ss} {ρ : En} {s : Jr} (f : FinS K C j H0 G0 W D' (optS o k ρ s)) : ∃ a, o = some a ∧ FinS K C j H0 G0 W D' (k a ρ s) := by
  cases o with
  | none => exact f.elim
  | some a => exact ⟨a, rfl, f⟩
def guardO (p : Prop) [Decidable p] : Option Unit := if p then some () else none
theorem guard_some {p : Prop} [Decidable p] {u : Unit} (h : guardO p = some u) : p := (ite_some h).1
def appS (i : Nat) (L : Sm (List D)) : Ss := ownS i fun ds => thenL L fun ys => optS (one? ys) fun d => optS (guardO (ds.length ≤ 1000000)) fun _ ρ s => .nx (ρ.set i (.own (ds ++ [d]))) s
def extS (i : Nat) (L : Sm (List D)) : Ss := ownS i fun ds => thenL L fun ys => optS ((one? ys).bind lst?) fun es => optS (guardO (ds.length + es.length ≤ 1000000)) fun _ ρ s => .nx (ρ.set i (.own (ds ++ es))) s
theorem own_go {K : PySem.W.Frag} {i : Nat} {k : List D → Ss} {D' : Ends} {σ : St} {H : Hp} (q : tS K C W (ownS i k) D' σ H) :
    ∃ j H0 G0 G ρ s ds p vs, Now K C j H0 σ H G ρ s ∧ Mv j H0 G0 H G ∧ FinS K C j H0 G0 W D' (k ds ρ s) ∧ ρ[i]? = some (.own ds) ∧ σ[i]? = some (some (.ref p)) ∧ H p = some (.lst vs) ∧ p ≠ j ∧ Fresh H0 p ∧ DvL K C j G ds vs := by
  obtain ⟨j, H0, G0, G, ρ, s, n, m, f⟩ := inS q
  unfold ownS at f
  cases e : ρ[i]? with
  | none => rw [e] at f; exact f.elim
  | some sl =>
    rw [e] at f
    cases sl with
    | no => exact f.elim
    | dat d => exact f.elim
    | own ds =>
      obtain ⟨p, vs, h1, h2, h3, h4, h5, h6⟩ := n.en.at_ i _ e
      exact ⟨j, H0, G0, G, ρ, s, ds, p, vs, n, m, f, e, h1, h2, h4, h5, h6⟩
/-- arguments are reckoned -/
theorem goAS {K : PySem.W.Frag} {j : Addr} {H0 G0 H G : Hp} {σ : St} {ρ : En} {s : Jr} {k : List D → Ss} {D' : Ends} {Q : List V → Hp → Prop} (n : Now K C j H0 σ H G ρ s) (m : Mv j H0 G0 H G) (f : FinS K C j H0 G0 W D' (thenL L k ρ s))
    (kk : ∀ (ds : List D) (s' : Jr) (vs : List V) (H' G' : Hp), Step K C j H G s' H' G' → Now K C j H0 σ H' G' ρ s' → Mv j H0 G0 H' G' → DvL K C j G' ds vs → FinS K C j H0 G0 W D' (k ds ρ s') → Q vs H') : tA K C W L σ H Q := by
  refine ⟨j, H0, G, ρ, s, n.g, n.en, ?_⟩
  unfold thenL at f
  cases e : L ρ s with
  | exc c d s' => rw [e] at f; exact upS m f
  | bad => rw [e] at f; exact f
  | ok ys s' =>
    rw [e] at f
    exact fun vs H' G' st dl => kk ys s' vs H' G' st (n.step st) (m.step st) dl f
theorem one_v {K : PySem.W.Frag} {j : Addr} {G : Hp} {d : D} {vs : List V} (h : DvL K C j G [d] vs) : ∃ v, vs = [v] ∧ Dv K C j G d v := by
  obtain ⟨v, us, e, dv, hu⟩ := h
  have hu' : us = [] := hu
  subst hu'
  exact ⟨v, e, dv⟩
theorem ds_app {i : Nat} (h : PE X e (tBM X.K "list" rAppend (tVar i) (tA X.K C W L))) (hs : swapsWith e none pos.line X.env = pure false := by rfl) : PS X (.Expr e pos) (tS X.K C W (appS i L)) :=
  ps_imp (ps_expr h hs) fun D' σ H q => by
    obtain ⟨j, H0, G0, G, ρ, s, ds, p, vs, n, m, f, hi, hs, hp, pj, fr, dl⟩ := own_go q
    refine ⟨.ref p, hs, .inl ⟨rfl, _, .inl (.inl hp)⟩, goAS n m f fun ys s' ws H' G' st n' m' dw f1 => ?_⟩
    obtain ⟨d, hd, f2⟩ := fin_optS f1
    have e1 := one_some hd
    subst e1
    obtain ⟨u, hu, f3⟩ := fin_optS f2
    have hl := guard_some hu
    obtain ⟨v, rfl, dv⟩ := one_v dw
    have hp' : H' p = some (.lst vs) := st.ex _ _ hp pj not_tbl_lst
    have dl' : DvL X.K C j G' (ds ++ [d]) (vs ++ [v]) := (dl.mono st.le).append ⟨v, [], rfl, dv, rfl⟩
    refine ⟨p, vs, v, rfl, rfl, hp', sz_lt (by rw [← dl.length]; omega), ?_⟩
    exact f3 σ _ _ (n'.write hi hs dl') (m'.write fr)
theorem ds_ext {i : Nat} (h : PE X e (tBM X.K "list" rExtend (tVar i) (tA X.K C W L))) (hs : swapsWith e none pos.line X.env = pure false := by rfl) : PS X (.Expr e pos) (tS X.K C W (extS i L)) :=
  ps_imp (ps_expr h hs) fun D' σ H q => by
    obtain ⟨j, H0, G0, G, ρ, s, ds, p, vs, n, m, f, hi, hs, hp, pj, fr, dl⟩ := own_go q
    refine ⟨.ref p, hs, .inl ⟨rfl, _, .inl (.inl hp)⟩, goAS n m f fun ys s' ws H' G' st n' m' dw f1 => ?_⟩
    obtain ⟨es, hd, f2⟩ := fin_optS f1
    obtain ⟨d, h1, h2⟩ := Option.bind_eq_some_iff.mp hd
    have e1 := one_some h1
    have e2 := lst_some h2
    subst e2
    subst e1
    obtain ⟨u, hu, f3⟩ := fin_optS f2
    have hl := guard_some hu
    obtain ⟨v, rfl, dv⟩ := one_v dw
    obtain ⟨b, zs, rfl, hb, de⟩ := dv
    have hp' : H' p = some (.lst vs) := st.ex _ _ hp pj not_tbl_lst
    have dl' : DvL X.K C j G' (ds ++ es) (vs ++ zs) := (dl.mono st.le).append de
    refine ⟨p, b, vs, zs, rfl, rfl, hp', n'.g.le _ _ hb, sz_of (by rw [← dl.length, ← de.length]; omega), ?_⟩
    exact f3 σ _ _ (n'.write hi hs dl') (m'.write fr)

/-! ## loops -/
def forD (i : Nat) (B : Ss) : List D → Ss
  | [] => fun ρ s => .nx ρ s
  | d :: ds => fun ρ s => match B (ρ.set i (.dat d)) s with
    | .nx ρ' s' => forD i B ds ρ' s'
    | .ct ρ' s' => forD i B ds ρ' s'
    | .bk ρ' s' => .nx ρ' s'
    | o => o
theorem drop_cons {α : Type} : ∀ {l : List α} {k : Nat} {x : α}, l[k]? = some x → l.drop k = x :: l.drop (k + 1)
  | [], k, x, h => by simp at h
  | y :: l, 0, x, h => by
    have h' : y = x := by simpa using h
    rw [h']
    rfl
  | y :: l, k + 1, x, h => by
    show l.drop k = x :: l.drop (k + 1)
    exact drop_cons (by simpa using h)
/-- what holds behind k turns -/
def ForP (K : PySem.W.Frag) (C : Ct) (W : WX) (D' : Ends) (j : Addr) (H0 G0 G1 : Hp) (i : Nat) (F : Ss) (ds : List D) (k : Nat) (σ : St) (H : Hp) : Prop :=
  ∃ G ρ s, Now K C j H0 σ H G ρ s ∧ Mv j H0 G0 H G ∧ Le G1 G ∧ FinS K C j H0 G0 W D' (forD i F (ds.drop k) ρ s)
theorem for_turn {K : PySem.W.Frag} {D' : Ends} {j : Addr} {H0 G0 G1 : Hp} {i : Nat} {ds : List D} {k : Nat} {σ : St} {H : Hp} {d : D} {x : V} (hk : ds[k]? = some d) (dx : ∀ G, Le G1 G → Dv K C j G d x) (p : ForP K C W D' j H0 G0 G1 i F ds k σ H) :
    tS K C W F { D' with nx := ForP K C W D' j H0 G0 G1 i F ds (k + 1), ct := ForP K C W D' j H0 G0 G1 i F ds (k + 1), bk := D'.nx } (σ.set i (some x)) H := by
  obtain ⟨G, ρ, s, n, m, l, f⟩ := p
  rw [drop_cons hk] at f
  refine ⟨j, H0, G, G, ρ.set i (.dat d), s, ⟨n.g, n.en.set i (dx G l)⟩, m.refl, ?_⟩
  unfold forD at f
  cases e : F (ρ.set i (.dat d)) s with
  | nx ρ' s' => rw [e] at f; exact fun σ' H' G' n' m' => ⟨G', ρ', s', n', m.trans m', l.trans m'.le, f⟩
  | ct ρ' s' => rw [e] at f; exact fun σ' H' G' n' m' => ⟨G', ρ', s', n', m.trans m', l.trans m'.le, f⟩
  | bk ρ' s' => rw [e] at f; exact fun σ' H' G' n' m' => f σ' H' G' n' (m.trans m')
  | rt d s' => rw [e] at f; exact FinS.rebase (D' := D') m f
  | exc c d s' => rw [e] at f; exact FinS.rebase (D' := D') m f
  | bad => rw [e] at f; exact f
def forL (i : Nat) (A : Sm D) (F : Ss) : Ss := thenS A fun d => optS (lst? d) fun ds => forD i F ds
theorem ds_forL {i : Nat} {x : Str} {p0 : Pos} {body : List Stmt} (hN : X.N.Nodup) (hi : X.N[i]? = some x) (hx : Loc X.env.scope x) (hp : PassesOwn (model X.prog X.w) X.A X.env X.xe) (hc : X.calm = true) (hl : PE X it (tE X.K C W A)) (hb : PSs X body (tS X.K C W F))
    (hf : X.fn x = true ∨ X.env.scope.names.lookup x = some .local := by first | exact .inl rfl | exact .inr rfl | assumption) (hsf : ∀ x, foldedSetIterable it X.env x = pure x := by intro _; rfl) : PS X (.For (.Name x p0) it body [] pos) (tS X.K C W (forL i A F)) :=
  ps_imp (ps_for hp hc (pi_list hl) (pg_name hN hi hx hf) hb hsf) fun D' σ H q => by
    refine stepE q fun j H0 G0 H1 G1 ρ s1 d v n m dv f => ?_
    obtain ⟨ds, hd, f⟩ := fin_optS f
    have e1 := lst_some hd
    subst e1
    obtain ⟨a, vs, rfl, ha, dl⟩ := dv
    refine ⟨a, rfl, ⟨vs, .inl (.inl (n.g.le _ _ ha))⟩, for_list (K := X.K) (a := a) (xs := vs) (ForP X.K C W D' j H0 G0 G1 i F ds) ⟨G1, ρ, s1, n, m, Le.refl _, f⟩ (fun k σ' H' _ ⟨G, _, _, n', _, l, _⟩ => .inl (.inl (n'.g.le _ _ (l _ _ ha)))) (fun k y σ' H' hk p => ?_) fun σ' H' ⟨G, ρ', s', n', m', l, f'⟩ => ?_⟩
    · obtain ⟨d, hd, dd⟩ := dl.getV hk
      exact for_turn hd (fun G l => dd.mono l) p
    · rw [← dl.length, List.drop_length] at f'
      exact f' σ' H' G n' m'
def forT (i : Nat) (A : Sm D) (F : Ss) : Ss := thenS A fun d => optS (tup? d) fun ds => forD i F ds
theorem ds_forT {i : Nat} {x : Str} {p0 : Pos} {body : List Stmt} (hN : X.N.Nodup) (hi : X.N[i]? = some x) (hx : Loc X.env.scope x) (hp : PassesOwn (model X.prog X.w) X.A X.env X.xe) (hc : X.calm = true) (hl : PE X it (tE X.K C W A)) (hb : PSs X body (tS X.K C W F))
    (hf : X.fn x = true ∨ X.env.scope.names.lookup x = some .local := by first | exact .inl rfl | exact .inr rfl | assumption) (hsf : ∀ x, foldedSetIterable it X.env x = pure x := by intro _; rfl) : PS X (.For (.Name x p0) it body [] pos) (tS X.K C W (forT i A F)) :=
  ps_imp (ps_for hp hc (pi_tup hl) (pg_name hN hi hx hf) hb hsf) fun D' σ H q => by
    refine stepE q fun j H0 G0 H1 G1 ρ s1 d v n m dv f => ?_
    obtain ⟨ds, hd, f⟩ := fin_optS f
    have e1 := tup_some hd
    subst e1
    obtain ⟨a, vs, rfl, ha, dl⟩ := dv
    refine ⟨a, rfl, ⟨vs, sqT_le n.g.le ha⟩, for_tup (K := X.K) (a := a) (xs := vs) (ForP X.K C W D' j H0 G0 G1 i F ds) ⟨G1, ρ, s1, n, m, Le.refl _, f⟩ (fun k σ' H' _ ⟨G, _, _, n', _, l, _⟩ => sqT_le n'.g.le (sqT_le l ha)) (fun k y σ' H' hk p => ?_) fun σ' H' ⟨G, ρ', s', n', m', l, f'⟩ => ?_⟩
    · obtain ⟨d, hd, dd⟩ := dl.getV hk
      exact for_turn hd (fun G l => dd.mono l) p
    · rw [← dl.length, List.drop_length] at f'
      exact f' σ' H' G n' m'
def rngD (n : Int) : List D := (List.range n.toNat).map fun (k : Nat) => .int (k : Int)
def forR (i : Nat) (L : Sm (List D)) (F : Ss) : Ss := thenL L fun ds => optS ((one? ds).bind int?) fun n => optS (guardO (0 ≤ n ∧ n ≤ 1000000)) fun _ => forD i F (rngD n)
theorem rng_at {n : Int} {k : Nat} (h : k < n.toNat) : (rngD n)[k]? = some (.int (k : Int)) := by
  unfold rngD
  rw [List.getElem?_map, List.getElem?_range h]
  rfl
theorem ds_forR {i : Nat} {x : Str} {p0 p1 p2 : Pos} {body : List Stmt} (hN : X.N.Nodup) (hi : X.N[i]? = some x) (hx : Loc X.env.scope x) (hp : PassesOwn (model X.prog X.w) X.A X.env X.xe) (hc : X.calm = true) (hg : Gl X "range") (hm : X.mg "range" = none) (hl : PA X [a] (tA X.K C W L)) (hb : PSs X body (tS X.K C W F))
    (hs : starEach [a] X.env = [(false, eval a X.env)] := by rfl) (hf : X.fn x = true ∨ X.env.scope.names.lookup x = some .local := by first | exact .inl rfl | exact .inr rfl | assumption) : PS X (.For (.Name x p0) (.Call (.Name "range" p1) [a] [] p2) body [] pos) (tS X.K C W (forR i L F)) :=
  ps_imp (ps_for hp hc (pi_range1 hg hm hl hs) (pg_name hN hi hx hf) hb) fun D' σ H q => by
    obtain ⟨j, H0, G0, G, ρ, s, n, m, f⟩ := inS q
    refine goAS n m f fun ys s' ws H' G' st n' m' dw f1 => ?_
    obtain ⟨z, hd, f2⟩ := fin_optS f1
    obtain ⟨d, h1, h2⟩ := Option.bind_eq_some_iff.mp hd
    have e1 := one_some h1
    have e2 := int_some h2
    subst e2
    subst e1
    obtain ⟨u, hu, f3⟩ := fin_optS f2
    obtain ⟨z0, z1⟩ := guard_some hu
    obtain ⟨v, rfl, dv⟩ := one_v dw
    have dv' : v = .int z := dv
    subst dv'
    refine ⟨z, rfl, by omega, by omega, for_range (lo := 0) (n := z.toNat) (ForP X.K C W D' j H0 G0 G' i F (rngD z)) ⟨G', ρ, s', n', m', Le.refl _, f3⟩ (fun k σ' H' hk p => ?_) fun σ' H' ⟨G, ρ', s', n', m', l, f'⟩ => ?_⟩
    · have e0 : (0 : Int) + (k : Int) = (k : Int) := Int.zero_add _
      show tS X.K C W F _ (σ'.set i (some (.int ((0 : Int) + (k : Int))))) H'
      rw [e0]
      exact for_turn (rng_at hk) (fun G l => rfl) p
    · rw [List.drop_of_length_le (by unfold rngD; simp)] at f'
      exact f' σ' H' G n' m'
end
end DL

namespace DL
open PySem PySem.Spec PyProof.Rows L2

/-! ## comprehensions over one name -/
section
variable {K : PySem.W.Frag} {C : Ct} {j : Addr} {H0 G0 H H' G G' : Hp} {s s' : Jr} {σ : St} {ρ : En} {W : WX}
theorem EnvOk.unset (en : EnvOk K C j H0 σ H G ρ) (i : Nat) : EnvOk K C j H0 (σ.set i none) H G (ρ.set i .no) := by
  have key : ∀ k, k ≠ i → (σ.set i none)[k]? = σ[k]? ∧ (ρ.set i .no)[k]? = ρ[k]? := fun k h => ⟨by rw [List.getElem?_set_ne (Ne.symm h)], by rw [List.getElem?_set_ne (Ne.symm h)]⟩
  have at_i : ∀ {sl : Sl}, (ρ.set i .no)[i]? = some sl → sl = .no := fun {sl} h => by
    by_cases hl : i < ρ.length
    · rw [List.getElem?_set_self hl] at h; cases h; rfl
    · rw [List.getElem?_eq_none (by rw [List.length_set]; omega)] at h; cases h
  refine ⟨by rw [List.length_set, List.length_set]; exact en.len, fun k sl h => ?_, fun k k' ds ds' p h1 h2 h3 h4 => ?_⟩
  · by_cases e : k = i
    · subst e
      rw [at_i h]
      trivial
    · rw [(key k e).2] at h
      have x := en.at_ k sl h
      unfold SlOk at x ⊢
      rw [(key k e).1]
      exact x
  · have ne : ∀ {k : Nat} {ds : List D}, (ρ.set i .no)[k]? = some (.own ds) → k ≠ i := fun {k ds} h e => by
      subst e
      cases at_i h
    have n1 := ne h1
    have n2 := ne h2
    rw [(key k n1).2] at h1
    rw [(key k' n2).2] at h2
    rw [(key k n1).1] at h3
    rw [(key k' n2).1] at h4
    exact en.dis k k' ds ds' p h1 h2 h3 h4
end
def inn (i : Nat) (ρ : En) (d : D) : En := (ρ.set i .no).set i (.dat d)
/-- the items' values where the test says yes -/
def lcD (i : Nat) (T : Sm Bool) (A : Sm D) : List D → Sm (List D)
  | [] => fun _ s => .ok [] s
  | d :: ds => fun ρ s => match T (inn i ρ d) s with
    | .ok true s1 => (match A (inn i ρ d) s1 with
      | .ok y s2 => (match lcD i T A ds ρ s2 with
        | .ok ys s3 => .ok (y :: ys) s3
        | _ => .bad)
      | _ => .bad)
    | .ok false s1 => lcD i T A ds ρ s1
    | _ => .bad
abbrev W0 : WX := fun _ _ _ _ => False
def yesS : Sm Bool := fun _ s => .ok true s
section
variable {K : PySem.W.Frag} {C : Ct} {W : WX}
/-- behind k items: all is as it stood, the list at Dl has what was made -/
def LcP (K : PySem.W.Frag) (C : Ct) (j : Addr) (H1 G1 : Hp) (ρ : En) (i : Nat) (T : Sm Bool) (A : Sm D) (ds : List D) (Dl : Addr) (P : List D → Jr → Prop) (k : Nat) (H : Hp) : Prop :=
  ∃ G s done acc, Step K C j H1 G1 s H G ∧ H Dl = some (.lst acc) ∧ G Dl = none ∧ DvL K C j G done acc ∧ done.length ≤ k ∧
    ∃ ys s2, lcD i T A (ds.drop k) ρ s = .ok ys s2 ∧ P (done ++ ys) s2
theorem lc_turn {j : Addr} {H0 H1 G1 : Hp} {σ : St} {ρ : En} {i : Nat} {T : Sm Bool} {A : Sm D} {ds : List D} {Dl : Addr} {P : List D → Jr → Prop} {k : Nat} {H : Hp} {d : D} {x : V} (hk : ds[k]? = some d) (hz : ds.length ≤ 1000000) (dx : ∀ G, Le G1 G → Dv K C j G d x)
    (en1 : EnvOk K C j H0 σ H1 G1 ρ) (h1 : H1 Dl = none) (dj : Dl ≠ j) (p : LcP K C j H1 G1 ρ i T A ds Dl P k H) :
    gName i x (wipe σ [i]) H fun σ2 H2 => wipe σ2 [i] = wipe σ [i] ∧ tT K C W0 T σ2 H2 fun b H3 =>
      if b = true then tE K C W0 A σ2 H3 fun y H4 => ∃ acc, H4 Dl = some (.lst acc) ∧ acc.length < sizeLine ∧ LcP K C j H1 G1 ρ i T A ds Dl P (k + 1) (upd H4 Dl (.lst (acc ++ [y])))
      else LcP K C j H1 G1 ρ i T A ds Dl P (k + 1) H3 := by
  obtain ⟨G, s, done, acc, st, hd, gd, dl, hlen, ys, s2, hr, hp⟩ := p
  rw [drop_cons hk] at hr
  unfold lcD at hr
  have en := en1.step st
  have ein : EnvOk K C j H0 ((wipe σ [i]).set i (some x)) H G (inn i ρ d) := (en.unset i).set i (dx G st.le)
  have kl : k < ds.length := by
    by_cases h : k < ds.length
    · exact h
    · rw [List.getElem?_eq_none (by omega)] at hk; cases hk
  have keepD : ∀ {H' G' : Hp} {s' : Jr}, Step K C j H G s' H' G' → H' Dl = some (.lst acc) ∧ G' Dl = none := fun {H' G' s'} z => by
    refine ⟨z.ex _ _ hd dj not_tbl_lst, ?_⟩
    cases e : G' Dl with
    | none => rfl
    | some o =>
      rcases z.gr Dl o e with q | q
      · rw [gd] at q; cases q
      · exact (q.not hd).elim
  show wipe ((wipe σ [i]).set i (some x)) [i] = wipe σ [i] ∧ _
  refine ⟨by show ((σ.set i none).set i (some x)).set i none = σ.set i none; rw [List.set_set, List.set_set], j, H0, G, inn i ρ d, s, st.ok, ein, ?_⟩
  cases eT : T (inn i ρ d) s with
  | bad => rw [eT] at hr; cases hr
  | exc c e s' => rw [eT] at hr; cases hr
  | ok b s1 =>
    rw [eT] at hr
    intro H3 G3 st3
    obtain ⟨hd3, gd3⟩ := keepD st3
    cases b with
    | false =>
      refine iteF ?_
      exact ⟨G3, s1, done, acc, st.trans st3, hd3, gd3, dl.mono st3.le, by omega, ys, s2, hr, hp⟩
    | true =>
      refine iteT ?_
      have hr : (match A (inn i ρ d) s1 with
        | .ok y s2 => (match lcD i T A (ds.drop (k + 1)) ρ s2 with
          | .ok ys s3 => Res.ok (y :: ys) s3
          | _ => .bad)
        | _ => .bad) = .ok ys s2 := hr
      refine ⟨j, H0, G3, inn i ρ d, s1, st3.ok, ein.step st3, ?_⟩
      cases eA : A (inn i ρ d) s1 with
      | bad => rw [eA] at hr; cases hr
      | exc c e s' => rw [eA] at hr; cases hr
      | ok y s4 =>
        rw [eA] at hr
        intro v H4 G4 st4 dv
        have st34 := st3.trans st4
        obtain ⟨hd4, gd4⟩ := keepD st34
        have hr : (match lcD i T A (ds.drop (k + 1)) ρ s4 with
          | .ok ys s3 => Res.ok (y :: ys) s3
          | _ => .bad) = .ok ys s2 := hr
        cases eR : lcD i T A (ds.drop (k + 1)) ρ s4 with
        | bad => rw [eR] at hr; cases hr
        | exc c e s' => rw [eR] at hr; cases hr
        | ok zs s5 =>
          rw [eR] at hr
          cases hr
          have stA := st.trans st34
          have stU : Step K C j H1 G1 s4 (upd H4 Dl (.lst (acc ++ [v]))) G4 := by
            refine ⟨fun a o e na nt => by rw [upd_ne (ne_of_none e h1)]; exact stA.ex a o e na nt, ⟨fun a o e => by rw [upd_ne (fun z => by rw [z, gd4] at e; cases e)]; exact stA.ok.le a o e, stA.ok.gj, by rw [upd_ne dj.symm]; exact stA.ok.hj, ?_, stA.ok.nt⟩, stA.le, stA.gr⟩
            intro q hq
            obtain ⟨ps, e1, e2, e3⟩ := stA.ok.tb q hq
            refine ⟨ps, by rw [upd_ne (fun z => by rw [z, hd4] at e1; cases e1)]; exact e1, e2, fun pos cv hc => ?_⟩
            obtain ⟨c, f1, f2⟩ := e3 pos cv hc
            exact ⟨c, f1, by rw [upd_ne (fun z => by rw [z, hd4] at f2; unfold LamX.CodeO at f2; cases f2)]; exact f2⟩
          exact ⟨acc, hd4, sz_lt (by rw [← dl.length]; omega), G4, s4, done ++ [y], acc ++ [v], stU, upd_same, gd4, (dl.mono st34.le).append ⟨v, [], rfl, dv, rfl⟩, by rw [List.length_append]; show done.length + 1 ≤ k + 1; omega, zs, s2, eR, by rw [List.append_assoc]; exact hp⟩
end
section
variable {X : Cx} {C : Ct} {W : WX} {e elt it tgt : Expr} {ifs : List Expr} {A B : Sm D} {L : Sm (List D)} {T : Sm Bool} {pos : Pos}
/-- the items of what is walked -/
def lcS (i : Nat) (T : Sm Bool) (A : Sm D) (I : Sm (List D)) : Sm (List D) := I.bind fun ds => (Sm.ofO (guardO (ds.length ≤ 1000000))).bind fun _ => lcD i T A ds
theorem lc_fin {K : PySem.W.Frag} {j : Addr} {H G : Hp} {σ : St} {i : Nat} {T : Sm Bool} {A : Sm D} {ds : List D} {ρ : En} {s : Jr} {P : List D → Jr → Prop} (f : Fin' K C j H G W σ (lcD i T A ds ρ s) P) : ∃ ys s2, lcD i T A ds ρ s = .ok ys s2 ∧ P ys s2 := by
  cases e : lcD i T A ds ρ s with
  | ok ys s2 => rw [e] at f; exact ⟨ys, s2, rfl, f⟩
  | bad => rw [e] at f; exact f.elim
  | exc c d s' =>
    exfalso
    clear f
    revert e s
    induction ds with
    | nil => intro s e; cases e
    | cons d ds ih =>
      intro s e
      unfold lcD at e
      cases eT : T (inn i ρ d) s with
      | bad => rw [eT] at e; cases e
      | exc _ _ _ => rw [eT] at e; cases e
      | ok b s1 =>
        rw [eT] at e
        cases b with
        | false => exact ih e
        | true =>
          have e : (match A (inn i ρ d) s1 with
            | .ok y s2 => (match lcD i T A ds ρ s2 with
              | .ok ys s3 => Res.ok (y :: ys) s3
              | _ => .bad)
            | _ => .bad) = _ := e
          cases eA : A (inn i ρ d) s1 with
          | bad => rw [eA] at e; cases e
          | exc _ _ _ => rw [eA] at e; cases e
          | ok y s4 =>
            rw [eA] at e
            have e : (match lcD i T A ds ρ s4 with
              | .ok ys s3 => Res.ok (y :: ys) s3
              | _ => .bad) = _ := e
            cases eR : lcD i T A ds ρ s4 with
            | bad => rw [eR] at e; cases e
            | exc _ _ _ => rw [eR] at e; cases e
            | ok zs s5 => rw [eR] at e; cases e
/-- what is wanted of a new list -/
def PL (K : PySem.W.Frag) (C : Ct) (j : Addr) (H G : Hp) (Q : VK) (ds : List D) (s' : Jr) : Prop := ∀ p vs H' G', Step K C j H G s' H' G' → H' p = some (.lst vs) → G' p = none → p ≠ j → Fresh H p → DvL K C j G' ds vs → Q (.ref p) H'
theorem lc_end {K : PySem.W.Frag} {j : Addr} {H G H1 G1 : Hp} {i : Nat} {ds : List D} {ρ : En} {s1 : Jr} {Dl : Addr} {Q : VK} (st : Step K C j H G s1 H1 G1) (h1 : H1 Dl = none)
    (gj : H1 j ≠ none) {H' : Hp} (p : LcP K C j H1 G1 ρ i T A ds Dl (PL K C j H G Q) ds.length H') : Q (.ref Dl) H' := by
  obtain ⟨G', s', done, acc, st2, hd, gd, dl, _, ys, s2, hr, hp⟩ := p
  rw [List.drop_length] at hr
  cases hr
  rw [List.append_nil] at hp
  have dj : Dl ≠ j := fun z => gj (by rw [← z]; exact h1)
  refine hp Dl acc H' G' (st.trans st2) hd gd dj (fun o ho => ?_) dl
  by_cases t : Tbl o
  · exact t
  · have := st.ex _ _ ho dj t
    rw [h1] at this; cases this
theorem lc_zero {K : PySem.W.Frag} {j : Addr} {H1 G1 : Hp} {i : Nat} {ds : List D} {ρ : En} {s1 : Jr} {Dl : Addr} {P : List D → Jr → Prop} (g : Good K C j H1 G1 s1) (h1 : H1 Dl = none) (hr : ∃ ys s2, lcD i T A ds ρ s1 = .ok ys s2 ∧ P ys s2) :
    LcP K C j H1 G1 ρ i T A ds Dl P 0 (upd H1 Dl (.lst [])) := by
  obtain ⟨ys, s2, h, p⟩ := hr
  have g1 : G1 Dl = none := by
    cases e : G1 Dl with
    | none => rfl
    | some o => have := g.le _ _ e; rw [h1] at this; cases this
  exact ⟨G1, s1, [], [], g.own h1 not_tbl_lst, upd_same, g1, rfl, Nat.le_refl _, ys, s2, h, p⟩
theorem tL_lcL {K : PySem.W.Frag} {i : Nat} {A I : Sm D} {T : Sm Bool} {σ : St} {H : Hp} {Q : VK} (h : tL K C W (lcS i T A (I.bind fun d => Sm.ofO (lst? d))) σ H Q) : tLc (iList K (tE K C W I)) (gName i) (tT K C W0 T) (tE K C W0 A) [i] σ H Q := by
  obtain ⟨j, H0, G, ρ, s, n, f⟩ := inL h
  refine goE n (fin_bind (fin_bind f)) fun d s1 v H1 G1 p st n1 dv => ?_
  obtain ⟨ds, hd, p1⟩ := fin_ofO (Fin'.step st p)
  have e1 := lst_some hd
  subst e1
  obtain ⟨u, hu, p2⟩ := fin_ofO (fin_bind p1)
  have hz := guard_some hu
  obtain ⟨a, vs, rfl, ha, dl⟩ := dv
  have gj : H1 j ≠ none := by rw [n1.g.hj]; exact fun z => nomatch z
  refine ⟨a, rfl, ⟨vs, .inl (.inl (n1.g.le _ _ ha))⟩, fun Dl hD => lc_list (K := K) (a := a) (xs := vs) (LcP K C j H1 G1 ρ i T A ds Dl (PL K C j H G Q)) (lc_zero n1.g hD (lc_fin p2)) (fun k H' _ ⟨G', _, _, _, st2, _⟩ => .inl (.inl (st2.ok.le _ _ (st2.le _ _ ha)))) (fun k x H' hk p => ?_) fun H' p => lc_end (ds := ds) st hD gj (by rw [dl.length]; exact p)⟩
  obtain ⟨d, hd, dd⟩ := dl.getV hk
  exact lc_turn hd hz (fun G l => dd.mono l) n1.en hD (fun z => gj (by rw [← z]; exact hD)) p
/-- the walked things: a list; a tuple; a text's signs; a range -/
def tL_lcT {K : PySem.W.Frag} {i : Nat} {A I : Sm D} {T : Sm Bool} {σ : St} {H : Hp} {Q : VK} (h : tL K C W (lcS i T A (I.bind fun d => Sm.ofO (tup? d))) σ H Q) : tLc (iTup K (tE K C W I)) (gName i) (tT K C W0 T) (tE K C W0 A) [i] σ H Q := by
  obtain ⟨j, H0, G, ρ, s, n, f⟩ := inL h
  refine goE n (fin_bind (fin_bind f)) fun d s1 v H1 G1 p st n1 dv => ?_
  obtain ⟨ds, hd, p1⟩ := fin_ofO (Fin'.step st p)
  have e1 := tup_some hd
  subst e1
  obtain ⟨u, hu, p2⟩ := fin_ofO (fin_bind p1)
  have hz := guard_some hu
  obtain ⟨a, vs, rfl, ha, dl⟩ := dv
  have gj : H1 j ≠ none := by rw [n1.g.hj]; exact fun z => nomatch z
  refine ⟨a, rfl, ⟨vs, sqT_le n1.g.le ha⟩, fun Dl hD => lc_tup (K := K) (a := a) (xs := vs) (LcP K C j H1 G1 ρ i T A ds Dl (PL K C j H G Q)) (lc_zero n1.g hD (lc_fin p2)) (fun k H' _ ⟨G', _, _, _, st2, _⟩ => sqT_le st2.ok.le (sqT_le st2.le ha)) (fun k x H' hk p => ?_) fun H' p => lc_end (ds := ds) st hD gj (by rw [dl.length]; exact p)⟩
  obtain ⟨d, hd, dd⟩ := dl.getV hk
  exact lc_turn hd hz (fun G l => dd.mono l) n1.en hD (fun z => gj (by rw [← z]; exact hD)) p
def signs (x : Str) : List D := x.cps.toList.map fun c => .str ⟨#[c]⟩
theorem tL_lcZ {K : PySem.W.Frag} {i : Nat} {A I : Sm D} {T : Sm Bool} {σ : St} {H : Hp} {Q : VK} (h : tL K C W (lcS i T A (I.bind fun d => Sm.ofO ((str? d).map signs))) σ H Q) : tLc (iStr (tE K C W I)) (gName i) (tT K C W0 T) (tE K C W0 A) [i] σ H Q := by
  obtain ⟨j, H0, G, ρ, s, n, f⟩ := inL h
  refine goE n (fin_bind (fin_bind f)) fun d s1 v H1 G1 p st n1 dv => ?_
  obtain ⟨ds, hd, p1⟩ := fin_ofO (Fin'.step st p)
  obtain ⟨x, hx, e0⟩ := Option.map_eq_some_iff.mp hd
  have e1 := str_some hx
  subst e1
  have dv' : v = .str x := dv
  subst dv'
  obtain ⟨u, hu, p2⟩ := fin_ofO (fin_bind p1)
  have hz := guard_some hu
  have hl : ds.length = x.cps.size := by rw [← e0]; unfold signs; simp
  have gj : H1 j ≠ none := by rw [n1.g.hj]; exact fun z => nomatch z
  refine ⟨x, rfl, fun Dl hD => ⟨fun k m H' => m = x.cps.size - k ∧ k ≤ x.cps.size ∧ LcP K C j H1 G1 ρ i T A ds Dl (PL K C j H G Q) k H', ⟨x.cps.size, by simp, Nat.zero_le _, lc_zero n1.g hD (lc_fin p2)⟩, ?_⟩⟩
  rintro k m H' ⟨rfl, hk, p⟩
  by_cases lt : k < x.cps.size
  · refine .inr ⟨lt, LcP K C j H1 G1 ρ i T A ds Dl (PL K C j H G Q) (k + 1), fun H' p' => ⟨x.cps.size - (k + 1), by omega, rfl, lt, p'⟩, fun y H'' hy => ?_⟩
    obtain ⟨rfl, c, hc, rfl⟩ := hy
    have hd' : ds[k]? = some (.str ⟨#[c]⟩) := by
      rw [← e0]
      unfold signs
      rw [List.getElem?_map]
      rw [show x.cps.toList[k]? = some c from by simpa using hc]
      rfl
    exact lc_turn hd' hz (fun G l => rfl) n1.en hD (fun z => gj (by rw [← z]; exact hD)) p
  · have e : k = x.cps.size := by omega
    subst e
    exact .inl ⟨Nat.le_refl _, lc_end (ds := ds) st hD gj (by rw [hl]; exact p)⟩
theorem tL_lcR {K : PySem.W.Frag} {i : Nat} {A : Sm D} {R : Sm (List D)} {T : Sm Bool} {σ : St} {H : Hp} {Q : VK} (h : tL K C W (lcS i T A (R.bind fun ds => (Sm.ofO ((one? ds).bind int?)).bind fun n => (Sm.ofO (guardO (0 ≤ n ∧ n ≤ 1000000))).map fun _ => rngD n)) σ H Q) :
    tLc (iRng1 (tA K C W R)) (gName i) (tT K C W0 T) (tE K C W0 A) [i] σ H Q := by
  obtain ⟨j, H0, G, ρ, s, n, f⟩ := inL h
  refine goA n (fin_bind (fin_bind f)) fun ds0 s1 ws H1 G1 p st n1 dw => ?_
  obtain ⟨z, hd, p1⟩ := fin_ofO (fin_bind (Fin'.step st p))
  obtain ⟨d, h1, h2⟩ := Option.bind_eq_some_iff.mp hd
  have e1 := one_some h1
  have e2 := int_some h2
  subst e2
  subst e1
  obtain ⟨u, hu, p2⟩ := fin_ofO (fin_map p1)
  obtain ⟨z0, z1⟩ := guard_some hu
  obtain ⟨v, rfl, dv⟩ := one_v dw
  have dv' : v = .int z := dv
  subst dv'
  obtain ⟨u, hu2, p3⟩ := fin_ofO (fin_bind p2)
  have hz := guard_some hu2
  have gj : H1 j ≠ none := by rw [n1.g.hj]; exact fun z => nomatch z
  have hl : (rngD z).length = z.toNat := by unfold rngD; simp
  refine ⟨z, rfl, by omega, by omega, fun Dl hD => lc_range (lo := 0) (n := z.toNat) (LcP K C j H1 G1 ρ i T A (rngD z) Dl (PL K C j H G Q)) (lc_zero n1.g hD (lc_fin p3)) (fun k H' hk p => ?_) fun H' p => lc_end (ds := rngD z) st hD gj (by rw [hl]; exact p)⟩
  have e0 : (0 : Int) + (k : Int) = (k : Int) := Int.zero_add _
  rw [e0]
  exact lc_turn (rng_at hk) hz (fun G l => rfl) n1.en hD (fun z => gj (by rw [← z]; exact hD)) p
end

/-! ## several names at once -/
section
variable {X : Cx} {C : Ct} {W : WX} {e a b : Expr} {A B : Sm D} {L : Sm (List D)} {T : Sm Bool} {pos : Pos}
def setsS (is : List Nat) (ds : List D) : Ss := fun ρ s => .nx ((is.zip ds).foldl (fun ρ p => ρ.set p.1 (.dat p.2)) ρ) s
/-- a, b, .. = e -/
def unS (is : List Nat) (A : Sm D) : Ss := thenS A fun d => optS (tup? d) fun ds => optS (guardO (ds.length = is.length)) fun _ => setsS is ds
def gNames : List Nat → TGs
  | [] => fun vs σ H Q => vs = [] ∧ Q σ H
  | i :: is => gCons (gName i) (gNames is)
theorem names_ok {K : PySem.W.Frag} {j : Addr} {H0 H G : Hp} {s : Jr} {Q : St → Hp → Prop} : ∀ (is : List Nat) {ds : List D} {vs : List V} {σ : St} {ρ : En}, ds.length = is.length → DvL K C j G ds vs → Now K C j H0 σ H G ρ s →
    (∀ σ', Now K C j H0 σ' H G ((is.zip ds).foldl (fun ρ p => ρ.set p.1 (.dat p.2)) ρ) s → Q σ' H) → gNames is vs σ H Q
  | [], [], vs, σ, ρ, _, dl, n, k => ⟨dl, k σ n⟩
  | i :: is, d :: ds, vs, σ, ρ, hl, dl, n, k => by
    obtain ⟨v, ws, rfl, dv, dw⟩ := dl
    exact ⟨v, ws, rfl, names_ok is (by simpa using hl) dw ⟨n.g, n.en.set i dv⟩ k⟩
theorem ds_un {is : List Nat} {tg : Expr} (he : PE X e (tE X.K C W A)) (hg : PG X tg (gTup X.K is.length (gNames is))) (hs : swapsWithSole [tg] e pos.line X.env = pure false := by rfl) (hw : swappedStores [tg] e X.env = pure none := by rfl) (h1 : (assignEach [tg] X.env).map (·.2) = [assign tg X.env] := by rfl) : PS X (.Assign [tg] e pos) (tS X.K C W (unS is A)) :=
  ps_imp (ps_asg he hg hs hw h1) fun D' σ H q => by
    refine stepE q fun j H0 G0 H1 G1 ρ s1 d v n m dv f => ?_
    obtain ⟨ds, hd, f1⟩ := fin_optS f
    have e1 := tup_some hd
    subst e1
    obtain ⟨u, hu, f2⟩ := fin_optS f1
    have hl := guard_some hu
    obtain ⟨a, vs, rfl, ha, dl⟩ := dv
    refine ⟨a, vs, rfl, sqT_le n.g.le ha, by rw [← dl.length]; exact hl, names_ok is hl dl n fun σ' n' => ?_⟩
    exact f2 σ' H1 G1 n' m
/-- a, b = x, y -/
def parS (i k : Nat) (L : Sm (List D)) : Ss := thenL L fun ds => optS (guardO (ds.length = 2)) fun _ => setsS [i, k] ds
theorem ds_par {i k : Nat} {x y : Str} {px py pt : Pos} {kt k2 pt2} (hc : X.calm = true) (hN : X.N.Nodup) (hi : X.N[i]? = some x) (hj : X.N[k]? = some y) (hij : i ≠ k)
    (hx : X.env.scope.names.lookup x = some .local) (hy : X.env.scope.names.lookup y = some .local) (ha : PA X [a, b] (tA X.K C W L))
    (hw : swappedStores [.Tuple [.Name x px, .Name y py] kt pt] (.Tuple [a, b] k2 pt2) X.env = pure (some [x, y]))
    (hs : swapsWithSole [.Tuple [.Name x px, .Name y py] kt pt] (.Tuple [a, b] k2 pt2) pos.line X.env = pure false := by rfl) :
    PS X (.Assign [.Tuple [.Name x px, .Name y py] kt pt] (.Tuple [a, b] k2 pt2) pos) (tS X.K C W (parS i k L)) :=
  ps_imp (ps_par hc hN hi hj hij hx hy ha hw hs) fun D' σ H q => by
    obtain ⟨j, H0, G0, G, ρ, s, n, m, f⟩ := inS q
    refine goAS n m f fun ds s' vs H' G' st n' m' dl f1 => ?_
    obtain ⟨u, hu, f2⟩ := fin_optS f1
    have hl := guard_some hu
    match ds, hl, dl with
    | [d1, d2], _, dl =>
      obtain ⟨v, ws, rfl, dv, dw⟩ := dl
      obtain ⟨w, rfl, dz⟩ := one_v dw
      exact ⟨v, w, rfl, f2 _ H' G' ⟨n'.g, (n'.en.set i dv).set k dz⟩ m'⟩
end

/-! ## a def -/
def initR (N : List Str) (ds : List D) : En := ds.map .dat ++ List.replicate (N.length - ds.length) .no
def fnS (N : List Str) (B : Ss) : Fn := fun ds s => match B (initR N ds) s with
  | .nx _ s' => .ok .non s'
  | .rt d s' => .ok d s'
  | .exc c d s' => .exc c d s'
  | _ => .bad
section
variable {P : Program} {w : World} {K : PySem.W.Frag} {mg : Str → Option Value} {base : Heap} {C : Ct}
theorem env_start {j : Addr} {H G : Hp} : ∀ {ds : List D} {vs : List V} (n : Nat), DvL K C j G ds vs → EnvOk K C j H (vs.map some ++ List.replicate (n - vs.length) none) H G (ds.map .dat ++ List.replicate (n - ds.length) .no) := fun {ds vs} n dl => by
  have hl := dl.length
  refine ⟨by simp [hl], fun i sl h => ?_, fun i i' es es' p h1 h2 h3 h4 => ?_⟩
  · by_cases hi : i < ds.length
    · rw [List.getElem?_append_left (by simpa using hi), List.getElem?_map] at h
      cases e : ds[i]? with
      | none => rw [e] at h; cases h
      | some d =>
        rw [e] at h
        cases h
        obtain ⟨v, hv, dv⟩ := dl.get e
        refine ⟨v, ?_, dv⟩
        rw [List.getElem?_append_left (by rw [List.length_map]; omega), List.getElem?_map, hv]
        rfl
    · rw [List.getElem?_append_right (by simpa using hi), List.getElem?_replicate] at h
      split at h <;> cases h
      trivial
  · exfalso
    by_cases hi : i < ds.length
    · rw [List.getElem?_append_left (by simpa using hi), List.getElem?_map] at h1
      cases e : ds[i]? with
      | none => rw [e] at h1; cases h1
      | some d => rw [e] at h1; cases h1
    · rw [List.getElem?_append_right (by simpa using hi), List.getElem?_replicate] at h1
      split at h1 <;> cases h1
/-- THE RULE: a def keeps the promise of its function -/
theorem fn_ok {x qual : Str} {st : Stmt} {f : Addr} {fd : FuncData} {N ps : List Str} {k : Nat} {B : Ss} (F : Fun K x qual st f fd) (S : FnScope N ps (defScope st))
    (hbody : ∀ (cdv : Value) (A : Around) (outer : List Env) (s : Shared) (H : Hp) (E : XK), Room k (A.deeper (envOfC qual (defScope st) s.heap.objs.size f cdv)) →
      Takes (cxOf (L2.CX P w) P w K mg base N qual (defScope st) f cdv A outer s H E) (fun cls d _ H => E cls d H) →
      PSs (cxOf (L2.CX P w) P w K mg base N qual (defScope st) f cdv A outer s H E) (defBody st) (tS K C (fun cls d _ H => E cls d H) B)) :
    FnOk P w K mg base (L2.CX P w) (k + 1) f fd ps (SP K C ps.length (fnS N B)) := by
  refine F.okX S (fun vs H Q E h => h.1) fun cdv A outer s H vs Q E hr h => ⟨_, hbody cdv A outer s H E hr (takes_of rfl rfl rfl rfl), ?_⟩
  obtain ⟨hn, j, G, ds, s0, g, dl, m⟩ := h
  refine ⟨j, H, G, G, initR N ds, s0, ⟨g, env_start N.length dl⟩, ⟨Ext.refl _ _, Le.refl _, Gro.refl _ _⟩, ?_⟩
  unfold fnS at m
  cases e : B (initR N ds) s0 with
  | nx ρ' s' => rw [e] at m; exact fun σ' H' G' n' m' => m .non H' G' ⟨m'.ex, n'.g, m'.le, m'.gr⟩ rfl
  | rt d s' => rw [e] at m; exact fun v H' G' g' m' dv => m v H' G' ⟨m'.ex, g', m'.le, m'.gr⟩ dv
  | exc c d s' => rw [e] at m; exact fun v dd σ' H' G' g' m' dv hx => m v dd H' G' ⟨m'.ex, g', m'.le, m'.gr⟩ dv hx
  | bk ρ' s' => rw [e] at m; exact m.elim
  | ct ρ' s' => rw [e] at m; exact m.elim
  | bad => rw [e] at m; exact m.elim
end
end DL

namespace DL
open PySem PySem.Spec PyProof.Rows L2
/-! ## operations on data -/
section
variable {K : PySem.W.Frag} {C : Ct}
/-- values whose data are plain: no object -/
theorem ok2 {r : R2} {g : D → D → Option D} (h : ∀ (j : Addr) (H G : Hp) (x y : V) (d e z : D), Le G H → Dv K C j G d x → Dv K C j G e y → g d e = some z → ∃ v, (∀ G', Dv K C j G' z v) ∧ ∀ Q : VK, Q v H → r x y H Q) : Snd2 K C r g :=
  fun j H G s x y d e z gd dx dy hz Q k => by
    obtain ⟨v, dv, q⟩ := h j H G x y d e z gd.le dx dy hz
    exact q Q (k v H G (Step.refl gd) (dv G))
theorem okC {r : List V → Hp → VK → Prop} {g : List D → Option D} (h : ∀ (j : Addr) (H G : Hp) (vs : List V) (ds : List D) (z : D), Le G H → DvL K C j G ds vs → g ds = some z → ∃ v, (∀ G', Dv K C j G' z v) ∧ ∀ Q : VK, Q v H → r vs H Q) : SndC K C r g :=
  fun j H G s vs ds z gd dl hz Q k => by
    obtain ⟨v, dv, q⟩ := h j H G vs ds z gd.le dl hz
    exact q Q (k v H G (Step.refl gd) (dv G))
/-- a new tuple -/
theorem new_tup {j : Addr} {H G : Hp} {s : Jr} {ds : List D} {vs : List V} {Q : VK} (g : Good K C j H G s) (dl : DvL K C j G ds vs) (k : ∀ v H' G', Step K C j H G s H' G' → Dv K C j G' (.tup ds) v → Q v H') : ∀ p, H p = none → Q (.ref p) (upd H p (.tup vs)) := fun p hp => by
  have st := g.new (o := .tup vs) hp not_tbl_tup
  exact k _ _ _ st ⟨p, vs, rfl, .inl (.inl upd_same), dl.mono st.le⟩
/-- a new list, given out -/
theorem new_lst {j : Addr} {H G : Hp} {s : Jr} {ds : List D} {vs : List V} {Q : VK} (g : Good K C j H G s) (dl : DvL K C j G ds vs) (k : ∀ v H' G', Step K C j H G s H' G' → Dv K C j G' (.lst ds) v → Q v H') : ∀ p, H p = none → Q (.ref p) (upd H p (.lst vs)) := fun p hp => by
  have st := g.new (o := .lst vs) hp not_tbl_lst
  exact k _ _ _ st ⟨p, vs, rfl, upd_same, dl.mono st.le⟩
/-- a new list of one's own -/
theorem own_lst {j : Addr} {H G : Hp} {s : Jr} {ds : List D} {vs : List V} {Q : VK} (g : Good K C j H G s) (dl : DvL K C j G ds vs) (k : ∀ p vs H' G', Step K C j H G s H' G' → H' p = some (.lst vs) → G' p = none → p ≠ j → Fresh H p → DvL K C j G' ds vs → Q (.ref p) H') : ∀ p, H p = none → Q (.ref p) (upd H p (.lst vs)) := fun p hp => by
  have gp : G p = none := by
    cases e : G p with
    | none => rfl
    | some o => have := g.le _ _ e; rw [hp] at this; cases this
  exact k p vs _ _ (g.own (o := .lst vs) hp not_tbl_lst) upd_same gp (fun z => by rw [z, g.hj] at hp; cases hp) (Fresh.of_none hp) dl
end

/-! ### + -/
def addD : D → D → Option D
  | .int a, .int b => some (.int (a + b))
  | .str a, .str b => if a.length + b.length ≤ 10000000 then some (.str (a ++ b)) else none
  | .tup a, .tup b => if a.length + b.length ≤ 1000000 then some (.tup (a ++ b)) else none
  | .lst a, .lst b => if a.length + b.length ≤ 1000000 then some (.lst (a ++ b)) else none
  | _, _ => none
def rAddA (K : PySem.W.Frag) : R2 := fun x y H Q => (rI0 fun i j => .int (i + j)) x y H Q ∨ (∃ i j, x = .str i ∧ y = .str j ∧ i.length + j.length ≤ sizeLine ∧ Q (.str (i ++ j)) H) ∨ rCatA K x y H Q ∨ rCat x y H Q
theorem opA {X : Cx} : OpR X (binaryOp .Add) (rAddA X.K) := OpR.or op_add (OpR.or op_add_str (OpR.or op_catA op_cat))
theorem sn_add {K : PySem.W.Frag} {C : Ct} : Snd2 K C (rAddA K) addD := fun j H G s x y d e z g dx dy hz Q k => by
  match d, e, hz, dx, dy with
  | .int a, .int b, hz, dx, dy =>
    cases hz
    cases (show x = .int a from dx)
    cases (show y = .int b from dy)
    exact .inl ⟨a, b, rfl, rfl, k _ H G (Step.refl g) rfl⟩
  | .str a, .str b, hz, dx, dy =>
    obtain ⟨hl, rfl⟩ := ite_some hz
    cases (show x = .str a from dx)
    cases (show y = .str b from dy)
    exact .inr (.inl ⟨a, b, rfl, rfl, sz_of hl, k _ H G (Step.refl g) rfl⟩)
  | .tup as, .tup bs, hz, dx, dy =>
    obtain ⟨hl, rfl⟩ := ite_some hz
    obtain ⟨a, xs, rfl, ha, da⟩ := dx
    obtain ⟨b, ys, rfl, hb, db⟩ := dy
    refine .inr (.inr (.inl ⟨a, b, xs, ys, rfl, rfl, sqT_le g.le ha, sqT_le g.le hb, sz_of (by rw [← da.length, ← db.length]; omega), fun e0 => ?_, fun e0 e1 => ?_, fun _ _ => new_tup g (da.append db) k⟩))
    · subst e0
      have : as = [] := List.eq_nil_of_length_eq_zero da.length
      subst this
      exact k _ H G (Step.refl g) ⟨b, ys, rfl, hb, db⟩
    · subst e1
      have : bs = [] := List.eq_nil_of_length_eq_zero db.length
      subst this
      exact k _ H G (Step.refl g) ⟨a, xs, rfl, ha, by rw [List.append_nil]; exact da⟩
  | .lst as, .lst bs, hz, dx, dy =>
    obtain ⟨hl, rfl⟩ := ite_some hz
    obtain ⟨a, xs, rfl, ha, da⟩ := dx
    obtain ⟨b, ys, rfl, hb, db⟩ := dy
    exact .inr (.inr (.inr ⟨a, b, xs, ys, rfl, rfl, g.le _ _ ha, g.le _ _ hb, sz_of (by rw [← da.length, ← db.length]; omega), new_lst g (da.append db) k⟩))
def catL : D → D → Option (List D)
  | .lst a, .lst b => if a.length + b.length ≤ 1000000 then some (a ++ b) else none
  | _, _ => none
theorem sn_cat {K : PySem.W.Frag} {C : Ct} : Snd2L K C rCat catL := fun j H G s x y d e z g dx dy hz Q k => by
  match d, e, hz, dx, dy with
  | .lst as, .lst bs, hz, dx, dy =>
    obtain ⟨hl, rfl⟩ := ite_some hz
    obtain ⟨a, xs, rfl, ha, da⟩ := dx
    obtain ⟨b, ys, rfl, hb, db⟩ := dy
    exact ⟨a, b, xs, ys, rfl, rfl, g.le _ _ ha, g.le _ _ hb, sz_of (by rw [← da.length, ← db.length]; omega), own_lst g (da.append db) k⟩

/-! ### -, *, %, //, ** -/
def subD : D → D → Option D
  | .int a, .int b => some (.int (a - b))
  | _, _ => none
theorem sn_sub {K : PySem.W.Frag} {C : Ct} : Snd2 K C (rI0 fun i j => .int (i - j)) subD := ok2 fun j H G x y d e z _ dx dy hz => by
  match d, e, hz, dx, dy with
  | .int a, .int b, hz, dx, dy =>
    cases hz
    cases (show x = .int a from dx)
    cases (show y = .int b from dy)
    exact ⟨_, fun _ => rfl, fun Q q => ⟨a, b, rfl, rfl, q⟩⟩
def modD : D → D → Option D
  | .int a, .int b => if 0 < b then some (.int (a % b)) else none
  | _, _ => none
theorem sn_mod {K : PySem.W.Frag} {C : Ct} : Snd2 K C (rI (fun _ j => 0 < j) fun i j => .int (i % j)) modD := ok2 fun j H G x y d e z _ dx dy hz => by
  match d, e, hz, dx, dy with
  | .int a, .int b, hz, dx, dy =>
    obtain ⟨hb, rfl⟩ := ite_some hz
    cases (show x = .int a from dx)
    cases (show y = .int b from dy)
    exact ⟨_, fun _ => rfl, fun Q q => ⟨a, b, rfl, rfl, hb, q⟩⟩
def fdvD : D → D → Option D
  | .int a, .int b => if 0 < b ∧ b.natAbs.log2 < 9000 then some (.int (a / b)) else none
  | _, _ => none
theorem sn_fdv {K : PySem.W.Frag} {C : Ct} : Snd2 K C (rI CDivW fun i j => .int (i / j)) fdvD := ok2 fun j H G x y d e z _ dx dy hz => by
  match d, e, hz, dx, dy with
  | .int a, .int b, hz, dx, dy =>
    obtain ⟨hb, rfl⟩ := ite_some hz
    cases (show x = .int a from dx)
    cases (show y = .int b from dy)
    exact ⟨_, fun _ => rfl, fun Q q => ⟨a, b, rfl, rfl, hb, q⟩⟩
def powD : D → D → Option D
  | .int a, .int b => if 0 ≤ b ∧ b ≤ 1000000 ∧ a.natAbs < 2 ^ 64 then some (.int (a ^ b.toNat)) else none
  | _, _ => none
theorem sn_pow {K : PySem.W.Frag} {C : Ct} : Snd2 K C (rI CPow fun i j => .int (i ^ j.toNat)) powD := ok2 fun j H G x y d e z _ dx dy hz => by
  match d, e, hz, dx, dy with
  | .int a, .int b, hz, dx, dy =>
    obtain ⟨hb, rfl⟩ := ite_some hz
    cases (show x = .int a from dx)
    cases (show y = .int b from dy)
    exact ⟨_, fun _ => rfl, fun Q q => ⟨a, b, rfl, rfl, hb, q⟩⟩
def mulD : D → D → Option D
  | .int a, .int b => if a.natAbs.log2 + b.natAbs.log2 < 1000000 then some (.int (a * b)) else none
  | .str a, .int b => if 0 ≤ b ∧ b ≤ 10000000 ∧ a.length * b.toNat ≤ 10000000 then some (.str (Txt.mul a b)) else none
  | .lst a, .int b => if 0 ≤ b ∧ b ≤ 1000000 ∧ a.length * b.toNat ≤ 1000000 then some (.lst (List.replicate b.toNat a).flatten) else none
  | _, _ => none
def rMulS : R2 := fun x y H Q => ∃ i n, x = .str i ∧ y = .int n ∧ MulOk i n ∧ Q (.str (Txt.mul i n)) H
theorem op_mul_str {X : Cx} : OpR X (binaryOp .Mult) rMulS := fun pins s σ H x y v u Q I rx ry h => by
  obtain ⟨i, n, rfl, rfl, ok, q⟩ := h
  obtain ⟨t, rfl⟩ := rx
  obtain ⟨t', rfl⟩ := ry
  exact PySem.SB.mul ok fun t' k => ⟨.str _, H, I.tok _, ⟨_, rfl⟩, q⟩
theorem mulOk_of {x : Str} {n : Int} (h0 : 0 ≤ n) (h1 : n ≤ 10000000) (h2 : x.length * n.toNat ≤ 10000000) : MulOk x n := by
  obtain ⟨m, rfl⟩ : ∃ m : Nat, n = (m : Int) := ⟨n.toNat, by omega⟩
  rw [Int.toNat_natCast] at h2
  refine ⟨?_, fun hn _ hc => ?_, fun _ _ => ?_⟩
  · have a1 : ¬ ((m : Int) < -(2 ^ 63 : Int)) := by omega
    have a2 : ¬ ((m : Int) ≥ 2 ^ 63) := by omega
    rw [decide_eq_false a1, decide_eq_false a2]
    rfl
  · have hm : (0 : Int) < (m : Int) := by omega
    have := Int.lt_mul_of_ediv_lt hm hc
    have h3 : ((x.length * m : Nat) : Int) ≤ 10000000 := by omega
    rw [Int.natCast_mul] at h3
    omega
  · show decide (x.length * ((m : Nat) : Int).toNat > sizeLine) = false
    rw [Int.toNat_natCast]
    exact decide_eq_false (Nat.not_lt.mpr (sz_of h2))
def rMulA : R2 := fun x y H Q => (rI CMulW fun i j => .int (i * j)) x y H Q ∨ rMulS x y H Q ∨ rRep x y H Q
theorem opM {X : Cx} : OpR X (binaryOp .Mult) rMulA := OpR.or op_mulW (OpR.or op_mul_str op_rep)
theorem DvL.flat {K : PySem.W.Frag} {C : Ct} {j : Addr} {G : Hp} {ds : List D} {vs : List V} (h : DvL K C j G ds vs) : ∀ n : Nat, DvL K C j G (List.replicate n ds).flatten (List.replicate n vs).flatten
  | 0 => rfl
  | n + 1 => by
    rw [List.replicate_succ, List.replicate_succ, List.flatten_cons, List.flatten_cons]
    exact h.append (h.flat n)
theorem sn_mul {K : PySem.W.Frag} {C : Ct} : Snd2 K C rMulA mulD := fun j H G s x y d e z g dx dy hz Q k => by
  match d, e, hz, dx, dy with
  | .int a, .int b, hz, dx, dy =>
    obtain ⟨hc, rfl⟩ := ite_some hz
    cases (show x = .int a from dx)
    cases (show y = .int b from dy)
    exact .inl ⟨a, b, rfl, rfl, hc, k _ H G (Step.refl g) rfl⟩
  | .str a, .int b, hz, dx, dy =>
    obtain ⟨⟨h0, h1, h2⟩, rfl⟩ := ite_some hz
    cases (show x = .str a from dx)
    cases (show y = .int b from dy)
    exact .inr (.inl ⟨a, b, rfl, rfl, mulOk_of h0 h1 h2, k _ H G (Step.refl g) rfl⟩)
  | .lst as, .int b, hz, dx, dy =>
    obtain ⟨⟨h0, h1, h2⟩, rfl⟩ := ite_some hz
    obtain ⟨a, xs, rfl, ha, da⟩ := dx
    cases (show y = .int b from dy)
    exact .inr (.inr ⟨a, b, xs, rfl, rfl, g.le _ _ ha, by omega, by omega, sz_of (by rw [← da.length]; omega), new_lst g (da.flat _) k⟩)
def negD : D → Option D
  | .int a => some (.int (-a))
  | _ => none
theorem sn_neg {K : PySem.W.Frag} {C : Ct} : Snd1 K C (rU fun i => .int (-i)) negD := fun j H G s x d z g dx hz Q k => by
  match d, hz, dx with
  | .int a, hz, dx =>
    cases hz
    cases (show x = .int a from dx)
    exact ⟨a, rfl, k _ H G (Step.refl g) rfl⟩

/-! ### comparisons -/
def cmpI (p : Int → Int → Bool) : D → D → Option D
  | .int a, .int b => some (.bl (p a b))
  | _, _ => none
theorem sn_cmpI {K : PySem.W.Frag} {C : Ct} {p : Int → Int → Bool} : Snd2 K C (rI0 fun i j => .bl (p i j)) (cmpI p) := ok2 fun j H G x y d e z _ dx dy hz => by
  match d, e, hz, dx, dy with
  | .int a, .int b, hz, dx, dy =>
    cases hz
    cases (show x = .int a from dx)
    cases (show y = .int b from dy)
    exact ⟨_, fun _ => rfl, fun Q q => ⟨a, b, rfl, rfl, q⟩⟩
abbrev ltD := cmpI fun i j => decide (i < j)
abbrev leD := cmpI fun i j => decide (i ≤ j)
abbrev gtD := cmpI fun i j => decide (j < i)
abbrev geD := cmpI fun i j => decide (j ≤ i)
/-- is None; is True, is False -/
def isND : D → D → Option D
  | .non, .non => some (.bl true)
  | _, .non => some (.bl false)
  | _, _ => none
theorem Dv.non_iff {K : PySem.W.Frag} {C : Ct} {j : Addr} {G : Hp} {d : D} {v : V} (h : Dv K C j G d v) (hd : d ≠ .non) : v ≠ .non := fun e => by
  subst e
  cases d with
  | non => exact hd rfl
  | bl _ => cases (show V.non = _ from h)
  | int _ => cases (show V.non = _ from h)
  | str _ => cases (show V.non = _ from h)
  | jar => cases (show V.non = _ from h)
  | ty _ => cases (show V.non = _ from h)
  | scr _ => obtain ⟨_, e, _⟩ := h; cases e
  | tup _ => obtain ⟨_, _, e, _⟩ := h; cases e
  | lst _ => obtain ⟨_, _, e, _⟩ := h; cases e
  | dic _ _ => obtain ⟨_, _, e, _⟩ := h; cases e
  | obj _ _ _ => obtain ⟨_, _, _, e, _⟩ := h; cases e
theorem sn_isN {K : PySem.W.Frag} {C : Ct} : Snd2 K C (fun x y H Q => y = .non ∧ Q (.bl (decide (x = .non))) H) isND := fun j H G s x y d e z g dx dy hz Q k => by
  have key : ∀ b : Bool, isND d e = some (.bl b) → (b = true ↔ d = .non) ∧ e = .non := fun b h => by
    cases d <;> cases e <;> simp [isND] at h ⊢ <;> simp [← h]
  have hb : ∃ b, z = .bl b := by
    cases d <;> cases e <;> simp [isND] at hz <;> exact ⟨_, hz.symm⟩
  obtain ⟨b, rfl⟩ := hb
  obtain ⟨h1, rfl⟩ := key b hz
  cases (show y = .non from dy)
  refine ⟨rfl, ?_⟩
  have e : decide (x = V.non) = b := by
    by_cases hd : d = .non
    · subst hd
      cases (show x = .non from dx)
      rw [h1.mpr rfl]
      rfl
    · rw [decide_eq_false (dx.non_iff hd)]
      cases b with
      | true => exact absurd (h1.mp rfl) hd
      | false => rfl
  rw [e]
  exact k _ H G (Step.refl g) rfl
def isBD : D → D → Option D
  | .bl a, .bl b => some (.bl (decide (a = b)))
  | _, _ => none
theorem sn_isB {K : PySem.W.Frag} {C : Ct} : Snd2 K C rIsB isBD := ok2 fun j H G x y d e z _ dx dy hz => by
  match d, e, hz, dx, dy with
  | .bl a, .bl b, hz, dx, dy =>
    cases hz
    cases (show x = .bl a from dx)
    cases (show y = .bl b from dy)
    exact ⟨_, fun _ => rfl, fun Q q => ⟨a, b, rfl, rfl, q⟩⟩
/-- one sign in a text -/
def inD (neg : Bool) : D → D → Option D
  | .str a, .str b => match a.cps.toList with
    | [c] => some (.bl (if neg then !decide (c ∈ b.cps.toList) else decide (c ∈ b.cps.toList)))
    | _ => none
  | _, _ => none
theorem in_shape {neg : Bool} {a b : Str} {z : D} (h : inD neg (.str a) (.str b) = some z) : ∃ c, a = ⟨#[c]⟩ ∧ z = .bl (if neg then !decide (c ∈ b.cps.toList) else decide (c ∈ b.cps.toList)) := by
  obtain ⟨⟨l⟩⟩ := a
  match l, h with
  | [c], h => exact ⟨c, rfl, (Option.some.inj h).symm⟩
theorem sn_in {K : PySem.W.Frag} {C : Ct} : Snd2 K C (fun x y H Q => ∃ (c : Nat) (z : Str), x = .str ⟨#[c]⟩ ∧ y = .str z ∧ Q (.bl (decide (c ∈ z.cps.toList))) H) (inD false) := ok2 fun j H G x y d e z _ dx dy hz => by
  match d, e, hz, dx, dy with
  | .str a, .str b, hz, dx, dy =>
    obtain ⟨c, rfl, rfl⟩ := in_shape hz
    cases (show x = .str ⟨#[c]⟩ from dx)
    cases (show y = .str b from dy)
    exact ⟨_, fun _ => rfl, fun Q q => ⟨c, b, rfl, rfl, q⟩⟩
theorem sn_notin {K : PySem.W.Frag} {C : Ct} : Snd2 K C (fun x y H Q => ∃ (c : Nat) (z : Str), x = .str ⟨#[c]⟩ ∧ y = .str z ∧ Q (.bl (!decide (c ∈ z.cps.toList))) H) (inD true) := ok2 fun j H G x y d e z _ dx dy hz => by
  match d, e, hz, dx, dy with
  | .str a, .str b, hz, dx, dy =>
    obtain ⟨c, rfl, rfl⟩ := in_shape hz
    cases (show x = .str ⟨#[c]⟩ from dx)
    cases (show y = .str b from dy)
    exact ⟨_, fun _ => rfl, fun Q q => ⟨c, b, rfl, rfl, q⟩⟩
/-! == : plain data -/
mutual
def toPy : D → Option PyData
  | .non => some .none
  | .bl b => some (.bool b)
  | .int i => some (.int i)
  | .str s => some (.str s)
  | .tup ds => (toPys ds).map .tuple
  | .lst ds => (toPys ds).map .list
  | _ => none
def toPys : List D → Option (List PyData)
  | [] => some []
  | d :: ds => match toPy d, toPys ds with
    | some p, some ps => some (p :: ps)
    | _, _ => none
end
mutual
theorem dp_of {K : PySem.W.Frag} {C : Ct} {j : Addr} {G H : Hp} (l : Le G H) : ∀ {d : D} {v : V} {p : PyData}, Dv K C j G d v → toPy d = some p → Dp K H v p
  | .non, v, p, dv, h => by
    simp [toPy] at h
    cases (show v = .non from dv)
    rw [← h]
    exact .non
  | .bl b, v, p, dv, h => by
    simp [toPy] at h
    cases (show v = .bl b from dv)
    rw [← h]
    exact .bl b
  | .int b, v, p, dv, h => by
    simp [toPy] at h
    cases (show v = .int b from dv)
    rw [← h]
    exact .int b
  | .str b, v, p, dv, h => by
    simp [toPy] at h
    cases (show v = .str b from dv)
    rw [← h]
    exact .str b
  | .tup ds, v, p, ⟨a, vs, e, ha, dl⟩, h => by
    simp only [toPy, Option.map_eq_some_iff] at h
    obtain ⟨ps, h1, h2⟩ := h
    rw [e, ← h2]
    exact .tup (sqT_le l ha) (dps_of l dl h1)
  | .lst ds, v, p, ⟨a, vs, e, ha, dl⟩, h => by
    simp only [toPy, Option.map_eq_some_iff] at h
    obtain ⟨ps, h1, h2⟩ := h
    rw [e, ← h2]
    exact .lst (.inl (.inl (l _ _ ha))) (dps_of l dl h1)
  | .jar, v, p, dv, h => by simp [toPy] at h
  | .ty _, v, p, dv, h => by simp [toPy] at h
  | .scr _, v, p, dv, h => by simp [toPy] at h
  | .dic _ _, v, p, dv, h => by simp [toPy] at h
  | .obj _ _ _, v, p, dv, h => by simp [toPy] at h
theorem dps_of {K : PySem.W.Frag} {C : Ct} {j : Addr} {G H : Hp} (l : Le G H) : ∀ {ds : List D} {vs : List V} {ps : List PyData}, DvL K C j G ds vs → toPys ds = some ps → DpAll K H vs ps
  | [], vs, ps, dl, h => by
    simp [toPys] at h
    cases (show vs = [] from dl)
    rw [h]
    exact .nil
  | d :: ds, vs, ps, ⟨v, ws, e, dv, dl⟩, h => by
    unfold toPys at h
    cases h1 : toPy d with
    | none => rw [h1] at h; simp at h
    | some p =>
      cases h2 : toPys ds with
      | none => rw [h1, h2] at h; simp at h
      | some qs =>
        rw [h1, h2] at h
        have h' : some (p :: qs) = some ps := h
        cases h'
        rw [e]
        exact .cons (dp_of l dv h1) (dps_of l dl h2)
end
/-- two plain values -/
def eqS : D → D → Option Bool
  | .non, .non => some true
  | .non, .int _ => some false
  | .int _, .non => some false
  | .non, .bl _ => some false
  | .bl _, .non => some false
  | .non, .str _ => some false
  | .str _, .non => some false
  | .int a, .int b => some (decide (a = b))
  | .bl a, .bl b => some (decide (a = b))
  | .str a, .str b => some (decide (a = b))
  | .int _, .str _ => some false
  | .str _, .int _ => some false
  | .bl _, .str _ => some false
  | .str _, .bl _ => some false
  | _, _ => none
theorem eqS_ok {K : PySem.W.Frag} {C : Ct} {j : Addr} {G : Hp} {x y : V} {d e : D} {b : Bool} (dx : Dv K C j G d x) (dy : Dv K C j G e y) (h : eqS d e = some b) : scal x y = true ∧ decide (x = y) = b := by
  cases d <;> cases e <;> simp only [eqS, Option.some.injEq, reduceCtorEq] at h <;> (simp only [Dv] at dx dy; subst dx; subst dy; subst h; refine ⟨rfl, ?_⟩; simp)
def eqD (neg : Bool) (d e : D) : Option D := match eqS d e with
  | some b => some (.bl (if neg then !b else b))
  | none => (toPy d).bind fun p => (toPy e).bind fun q => if SeqAt.shaped p = true ∧ SeqAt.shaped q = true then some (.bl (if neg then !PyData.eqv p q else PyData.eqv p q)) else none
def rEqA (K : PySem.W.Frag) : R2 := fun x y H Q => rEq x y H Q ∨ rEqD K x y H Q
def rNeA (K : PySem.W.Frag) : R2 := fun x y H Q => rNe x y H Q ∨ rNeD K x y H Q
theorem opEq {X : Cx} (hu : X.A.units + 64 < cLine) : OpR X (compareOp .Eq) (rEqA X.K) := OpR.or op_eq (op_eqD hu)
theorem opNe {X : Cx} (hu : X.A.units + 64 < cLine) : OpR X (compareOp .NotEq) (rNeA X.K) := OpR.or op_ne (op_neD hu)
theorem sn_eq {K : PySem.W.Frag} {C : Ct} : Snd2 K C (rEqA K) (eqD false) := ok2 fun j H G x y d e z l dx dy hz => by
  unfold eqD at hz
  cases h : eqS d e with
  | some b =>
    rw [h] at hz
    have hz' : some (D.bl b) = some z := hz
    cases hz'
    obtain ⟨h1, h2⟩ := eqS_ok dx dy h
    exact ⟨.bl b, fun _ => rfl, fun Q k => .inl ⟨h1, by rw [h2]; exact k⟩⟩
  | none =>
    rw [h] at hz
    obtain ⟨p, hp, hz⟩ := Option.bind_eq_some_iff.mp hz
    obtain ⟨q, hq, hz⟩ := Option.bind_eq_some_iff.mp hz
    obtain ⟨⟨h1, h2⟩, rfl⟩ := ite_some hz
    exact ⟨_, fun _ => rfl, fun Q k => .inr ⟨p, q, dp_of l dx hp, dp_of l dy hq, h1, h2, k⟩⟩
theorem sn_ne {K : PySem.W.Frag} {C : Ct} : Snd2 K C (rNeA K) (eqD true) := ok2 fun j H G x y d e z l dx dy hz => by
  unfold eqD at hz
  cases h : eqS d e with
  | some b =>
    rw [h] at hz
    have hz' : some (D.bl (!b)) = some z := hz
    cases hz'
    obtain ⟨h1, h2⟩ := eqS_ok dx dy h
    exact ⟨.bl (!b), fun _ => rfl, fun Q k => .inl ⟨h1, by rw [h2]; exact k⟩⟩
  | none =>
    rw [h] at hz
    obtain ⟨p, hp, hz⟩ := Option.bind_eq_some_iff.mp hz
    obtain ⟨q, hq, hz⟩ := Option.bind_eq_some_iff.mp hz
    obtain ⟨⟨h1, h2⟩, rfl⟩ := ite_some hz
    exact ⟨_, fun _ => rfl, fun Q k => .inr ⟨p, q, dp_of l dx hp, dp_of l dy hq, h1, h2, k⟩⟩
end DL

namespace DL
open PySem PySem.Spec PyProof.Rows L2
/-! ## built-ins by values -/
section
variable {K : PySem.W.Frag} {C : Ct}
/-- len -/
def lenC : List D → Option D
  | [.str s] => if s.length ≤ 10000000 then some (.int s.length) else none
  | [.lst ds] => some (.int ds.length)
  | [.tup ds] => some (.int ds.length)
  | [.scr ns] => some (.int ns.length)
  | _ => none
theorem sn_len : SndC K C (fun xs H Q => ∃ x n, xs = [x] ∧ LenV K x H n ∧ Q (.int n) H) lenC := okC fun j H G vs ds z l dl hz => by
  match ds, hz, dl with
  | [.str s], hz, dl =>
    obtain ⟨hl, rfl⟩ := ite_some hz
    obtain ⟨v, rfl, dv⟩ := one_v dl
    cases (show v = .str s from dv)
    exact ⟨_, fun _ => rfl, fun Q q => ⟨_, s.length, rfl, ⟨sz_of hl, rfl⟩, q⟩⟩
  | [.lst es], hz, dl =>
    cases hz
    obtain ⟨v, rfl, dv⟩ := one_v dl
    obtain ⟨a, ws, rfl, ha, de⟩ := dv
    exact ⟨_, fun _ => rfl, fun Q q => ⟨_, ws.length, rfl, .inl ⟨ws, .inl (.inl (l _ _ ha)), rfl⟩, by rw [← de.length]; exact q⟩⟩
  | [.tup es], hz, dl =>
    cases hz
    obtain ⟨v, rfl, dv⟩ := one_v dl
    obtain ⟨a, ws, rfl, ha, de⟩ := dv
    exact ⟨_, fun _ => rfl, fun Q q => ⟨_, ws.length, rfl, .inr ⟨ws, sqT_le l ha, rfl⟩, by rw [← de.length]; exact q⟩⟩
  | [.scr ns], hz, dl =>
    cases hz
    obtain ⟨v, rfl, dv⟩ := one_v dl
    obtain ⟨a, rfl, ha⟩ := dv
    exact ⟨_, fun _ => rfl, fun Q q => ⟨_, (ns.map V.int).length, rfl, .inl ⟨_, sqL_le l ha, rfl⟩, by rw [List.length_map]; exact q⟩⟩
/-- int(..) -/
def intC : List D → Option D
  | [.int i] => some (.int i)
  | [.str s] => if s.length ≤ 640 then (PySem.intText? s).map .int else none
  | _ => none
def rIntA : List V → Hp → VK → Prop := fun xs H Q => ((∃ i, xs = [.int i] ∧ Q (.int i) H) ∨ ∃ k, xs = [.bl k] ∧ Q (.int (if k then 1 else 0)) H) ∨ ∃ a n, xs = [.str a] ∧ PySem.intText? a = some n ∧ a.length ≤ 640 ∧ Q (.int n) H
theorem call_intA {X : Cx} : CallR X (.type "int") rIntA := CallR.or call_int1 call_int_str
theorem sn_int : SndC K C rIntA intC := okC fun j H G vs ds z l dl hz => by
  match ds, hz, dl with
  | [.int i], hz, dl =>
    cases hz
    obtain ⟨v, rfl, dv⟩ := one_v dl
    cases (show v = .int i from dv)
    exact ⟨_, fun _ => rfl, fun Q q => .inl (.inl ⟨i, rfl, q⟩)⟩
  | [.str s], hz, dl =>
    have hz : (if s.length ≤ 640 then (PySem.intText? s).map D.int else none) = some z := hz
    by_cases hl : s.length ≤ 640
    · rw [if_pos hl] at hz
      obtain ⟨n, hn, rfl⟩ := Option.map_eq_some_iff.mp hz
      obtain ⟨v, rfl, dv⟩ := one_v dl
      cases (show v = .str s from dv)
      exact ⟨_, fun _ => rfl, fun Q q => .inr ⟨s, n, rfl, hn, hl, q⟩⟩
    · rw [if_neg hl] at hz
      cases hz
/-- str(an int) -/
def strC : List D → Option D
  | [.int i] => if i.natAbs.log2 < 1920 then some (.str (toString i)) else none
  | _ => none
theorem sn_str : SndC K C (fun xs H Q => ∃ i : Int, xs = [.int i] ∧ i.natAbs.log2 < 1920 ∧ Q (.str (toString i)) H) strC := okC fun j H G vs ds z l dl hz => by
  match ds, hz, dl with
  | [.int i], hz, dl =>
    obtain ⟨hl, rfl⟩ := ite_some hz
    obtain ⟨v, rfl, dv⟩ := one_v dl
    cases (show v = .int i from dv)
    exact ⟨_, fun _ => rfl, fun Q q => ⟨i, rfl, hl, q⟩⟩
def boolC : List D → Option D
  | [.bl b] => some (.bl b)
  | [.int i] => some (.bl (i != 0))
  | _ => none
theorem sn_bool : SndC K C (fun xs H Q => (∃ i, xs = [.int i] ∧ Q (.bl (i != 0)) H) ∨ ∃ k, xs = [.bl k] ∧ Q (.bl k) H) boolC := okC fun j H G vs ds z l dl hz => by
  match ds, hz, dl with
  | [.bl b], hz, dl =>
    cases hz
    obtain ⟨v, rfl, dv⟩ := one_v dl
    cases (show v = .bl b from dv)
    exact ⟨_, fun _ => rfl, fun Q q => .inr ⟨b, rfl, q⟩⟩
  | [.int i], hz, dl =>
    cases hz
    obtain ⟨v, rfl, dv⟩ := one_v dl
    cases (show v = .int i from dv)
    exact ⟨_, fun _ => rfl, fun Q q => .inl ⟨i, rfl, q⟩⟩
def absC : List D → Option D
  | [.int i] => some (.int (if i < 0 then -i else i))
  | _ => none
theorem sn_abs : SndC K C (fun xs H Q => ∃ i : Int, xs = [.int i] ∧ Q (.int (if i < 0 then -i else i)) H) absC := okC fun j H G vs ds z l dl hz => by
  match ds, hz, dl with
  | [.int i], hz, dl =>
    cases hz
    obtain ⟨v, rfl, dv⟩ := one_v dl
    cases (show v = .int i from dv)
    exact ⟨_, fun _ => rfl, fun Q q => ⟨i, rfl, q⟩⟩
theorem two_v {j : Addr} {G : Hp} {d e : D} {vs : List V} (h : DvL K C j G [d, e] vs) : ∃ v w, vs = [v, w] ∧ Dv K C j G d v ∧ Dv K C j G e w := by
  obtain ⟨v, us, rfl, dv, hu⟩ := h
  obtain ⟨w, rfl, dw⟩ := one_v hu
  exact ⟨v, w, rfl, dv, dw⟩
def maxC : List D → Option D
  | [.int i, .int k] => some (.int (if k > i then k else i))
  | _ => none
theorem sn_max : SndC K C (fun xs H Q => ∃ i k : Int, xs = [.int i, .int k] ∧ Q (.int (if k > i then k else i)) H) maxC := okC fun j H G vs ds z l dl hz => by
  match ds, hz, dl with
  | [.int i, .int k], hz, dl =>
    cases hz
    obtain ⟨v, w, rfl, dv, dw⟩ := two_v dl
    cases (show v = .int i from dv)
    cases (show w = .int k from dw)
    exact ⟨_, fun _ => rfl, fun Q q => ⟨i, k, rfl, q⟩⟩
def minC : List D → Option D
  | [.int i, .int k] => some (.int (if k < i then k else i))
  | _ => none
theorem sn_min : SndC K C (fun xs H Q => ∃ i k : Int, xs = [.int i, .int k] ∧ Q (.int (if k < i then k else i)) H) minC := okC fun j H G vs ds z l dl hz => by
  match ds, hz, dl with
  | [.int i, .int k], hz, dl =>
    cases hz
    obtain ⟨v, w, rfl, dv, dw⟩ := two_v dl
    cases (show v = .int i from dv)
    cases (show w = .int k from dw)
    exact ⟨_, fun _ => rfl, fun Q q => ⟨i, k, rfl, q⟩⟩
/-- all, any of a list of truths -/
def bls? : List D → Option (List Bool)
  | [] => some []
  | .bl b :: ds => (bls? ds).map fun bs => b :: bs
  | _ => none
theorem bls_v {j : Addr} {G : Hp} : ∀ {ds : List D} {bs : List Bool} {vs : List V}, bls? ds = some bs → DvL K C j G ds vs → vs = bs.map V.bl
  | [], bs, vs, h, dl => by
    cases h
    exact dl
  | d :: ds, bs, vs, h, dl => by
    cases d <;> simp only [bls?, Option.map_eq_some_iff, reduceCtorEq] at h
    obtain ⟨cs, h1, rfl⟩ := h
    obtain ⟨v, ws, rfl, dv, dw⟩ := dl
    rw [bls_v h1 dw, show v = V.bl _ from dv]
    rfl
def allC : List D → Option D
  | [.lst ds] => (bls? ds).map fun bs => .bl (bs.all id)
  | _ => none
def anyC : List D → Option D
  | [.lst ds] => (bls? ds).map fun bs => .bl (bs.any id)
  | _ => none
theorem sn_all : SndC K C (rAll K) allC := okC fun j H G vs ds z l dl hz => by
  match ds, hz, dl with
  | [.lst es], hz, dl =>
    obtain ⟨bs, hb, rfl⟩ := Option.map_eq_some_iff.mp hz
    obtain ⟨v, rfl, dv⟩ := one_v dl
    obtain ⟨a, ws, rfl, ha, de⟩ := dv
    have e := bls_v hb de
    subst e
    exact ⟨_, fun _ => rfl, fun Q q => ⟨a, bs, rfl, .inl (.inl (l _ _ ha)), q⟩⟩
theorem sn_any : SndC K C (rAny K) anyC := okC fun j H G vs ds z l dl hz => by
  match ds, hz, dl with
  | [.lst es], hz, dl =>
    obtain ⟨bs, hb, rfl⟩ := Option.map_eq_some_iff.mp hz
    obtain ⟨v, rfl, dv⟩ := one_v dl
    obtain ⟨a, ws, rfl, ha, de⟩ := dv
    have e := bls_v hb de
    subst e
    exact ⟨_, fun _ => rfl, fun Q q => ⟨a, bs, rfl, .inl (.inl (l _ _ ha)), q⟩⟩
/-- isinstance(x, T), T one of int, str, bool, tuple, list, dict -/
def tyName : D → Option String
  | .non => some "NoneType"
  | .bl _ => some "bool"
  | .int _ => some "int"
  | .str _ => some "str"
  | .tup _ => some "tuple"
  | .lst _ => some "list"
  | .dic _ _ => some "dict"
  | _ => none
def isiC : List D → Option D
  | [d, .ty T] => (tyName d).bind fun n => (kitB n T).map .bl
  | _ => none
theorem ty_of {j : Addr} {H G : Hp} {d : D} {v : V} {n : String} (l : Le G H) (dv : Dv K C j G d v) (h : tyName d = some n) : TyX K H v (.type n) := by
  cases d with
  | non => cases h; cases (show v = .non from dv); exact .base .non
  | bl b => cases h; cases (show v = .bl b from dv); exact .base (.bl b)
  | int b => cases h; cases (show v = .int b from dv); exact .base (.int b)
  | str b => cases h; cases (show v = .str b from dv); exact .base (.str b)
  | jar => cases h
  | ty _ => cases h
  | scr _ => cases h
  | obj _ _ _ => cases h
  | lst ds => cases h; obtain ⟨a, ws, rfl, ha, _⟩ := dv; exact .base (.lst (l _ _ ha))
  | dic ks ds => cases h; obtain ⟨a, ws, rfl, ha, _⟩ := dv; exact .base (.dK (l _ _ ha))
  | tup ds =>
    cases h
    obtain ⟨a, ws, rfl, ha, _⟩ := dv
    rcases ha with (ha | ⟨o, ha⟩) | ⟨o, its, n, hk, hc, _⟩
    · exact .base (.tup (l _ _ ha))
    · exact .fTuple (l _ _ ha)
    · exact .kTuple hk hc
theorem sn_isi : SndC K C (rIsi K) isiC := okC fun j H G vs ds z l dl hz => by
  match ds, hz, dl with
  | [d, .ty T], hz, dl =>
    obtain ⟨n, hn, hz⟩ := Option.bind_eq_some_iff.mp hz
    obtain ⟨b, hb, rfl⟩ := Option.map_eq_some_iff.mp hz
    obtain ⟨v, w, rfl, dv, dw⟩ := two_v dl
    cases (show w = .ty T from dw)
    exact ⟨_, fun _ => rfl, fun Q q => ⟨v, .ty T, .type n, .type T, b, rfl, .ty T, ty_of l dv hn, kit_ty hb, q⟩⟩
/-- list(text) -/
def rListS : List V → Hp → VK → Prop := fun xs H Q => ∃ x : Str, xs = [.str x] ∧ x.cps.size ≤ 16777216 ∧ ∀ p, H p = none → Q (.ref p) (upd H p (.lst (x.cps.toList.map fun c => V.str ⟨#[c]⟩)))
theorem vals_signs {x : Str} {acc : Array Value} (h : ItemsOf (SignAt x) acc x.cps.size) : Vals (x.cps.toList.map fun c => V.str ⟨#[c]⟩) acc.toList := by
  have key : ∀ (l : List Nat) (us : List Value), l.length = us.length → (∀ (i : Nat) (u : Value), us[i]? = some u → ∃ (c : Nat) (t : Tok), l[i]? = some c ∧ u = Value.str ⟨#[c]⟩ t) → Vals (l.map fun c => V.str ⟨#[c]⟩) us := by
    intro l
    induction l with
    | nil =>
      intro us hl _
      cases us with
      | nil => exact .nil
      | cons _ _ => cases hl
    | cons c l ih =>
      intro us hl hs
      cases us with
      | nil => cases hl
      | cons u us =>
        obtain ⟨c', t, h1, h2⟩ := hs 0 u rfl
        cases h1
        exact .cons ⟨t, h2⟩ (ih us (by simpa using hl) fun i u hu => hs (i + 1) u (by simpa using hu))
  refine key _ _ (by rw [Array.length_toList, Array.length_toList]; exact h.1.symm) fun i u hu => ?_
  obtain ⟨c, t, h1, h2⟩ := h.2 i u (by rw [← hu, Array.getElem?_toList])
  exact ⟨c, t, by rw [Array.getElem?_toList]; exact h1, h2⟩
theorem call_listS {X : Cx} (hc : X.calm = true) : CallR X (.type "list") rListS := fun pins s σ H xs us Q I r h => by
  obtain ⟨x, rfl, hz, q⟩ := h
  obtain ⟨u, rfl, ru⟩ := r.one
  obtain ⟨t, rfl⟩ := ru
  refine call_list_str (I.ok.hd hc) x t (fun h' tk acc c' hk e' hi => ?_) (by rw [sizeLine_eq]; exact hz)
  refine ⟨.ref s.heap.objs.size, upd H s.heap.objs.size (.lst (x.cps.toList.map fun c => V.str ⟨#[c]⟩)), I.laid hk (Nat.le_refl _) (show ObjOk X.prog X.w _ _ _ (.lst _) from ⟨?_, acc.toList, c', vals_signs hi, ?_⟩), rfl, q _ (I.hok.fresh (Nat.le_refl _))⟩
  · rw [List.length_map, Array.length_toList, sizeLine_eq]; exact hz
  · rw [Array.toArray_toList]; exact e'
def listC : List D → Option (List D)
  | [.str s] => if s.cps.size ≤ 1000000 then some (signs s) else none
  | _ => none
theorem signs_v {j : Addr} {G : Hp} (l : List Nat) : DvL K C j G (l.map fun c => D.str ⟨#[c]⟩) (l.map fun c => V.str ⟨#[c]⟩) := by
  induction l with
  | nil => rfl
  | cons c l ih => exact ⟨_, _, rfl, rfl, ih⟩
theorem sn_list : SndCL K C rListS listC := fun j H G s vs ds z g dl hz Q k => by
  match ds, hz, dl with
  | [.str x], hz, dl =>
    obtain ⟨hl, rfl⟩ := ite_some hz
    obtain ⟨v, rfl, dv⟩ := one_v dl
    cases (show v = .str x from dv)
    exact ⟨x, rfl, by omega, own_lst g (signs_v _) k⟩
/-- list(a list) -/
def listCL : List D → Option (List D)
  | [.lst ds] => some ds
  | [.tup ds] => some ds
  | _ => none
theorem sn_listL : SndCL K C (fun xs H Q => ∃ p ys, xs = [.ref p] ∧ (SqL K H p ys ∨ SqT K H p ys) ∧ ∀ l, H l = none → Q (.ref l) (upd H l (.lst ys))) listCL := fun j H G s vs ds z g dl hz Q k => by
  match ds, hz, dl with
  | [.lst es], hz, dl =>
    cases hz
    obtain ⟨v, rfl, dv⟩ := one_v dl
    obtain ⟨a, ws, rfl, ha, de⟩ := dv
    exact ⟨a, ws, rfl, .inl (.inl (.inl (g.le _ _ ha))), own_lst g de k⟩
  | [.tup es], hz, dl =>
    cases hz
    obtain ⟨v, rfl, dv⟩ := one_v dl
    obtain ⟨a, ws, rfl, ha, de⟩ := dv
    exact ⟨a, ws, rfl, .inr (sqT_le g.le ha), own_lst g de k⟩
/-! ## subscripts, slices -/
def ixD : D → D → Option D
  | .lst ds, .int i => atI ds i
  | .tup ds, .int i => atI ds i
  | .str s, .int i => if s.length ≤ 10000000 then (atI s.cps.toList i).map fun c => .str ⟨#[c]⟩ else none
  | _, _ => none
theorem at_get {α : Type} {xs : List α} {i : Int} {x : α} (h : atI xs i = some x) : ∃ k, ixN xs.length i = some k ∧ xs[k]? = some x := by
  unfold atI at h
  exact Option.bind_eq_some_iff.mp h
theorem at_v {j : Addr} {G : Hp} {ds : List D} {vs : List V} {i : Int} {d : D} (dl : DvL K C j G ds vs) (h : atI ds i = some d) : ∃ v, atI vs i = some v ∧ Dv K C j G d v := by
  obtain ⟨k, h1, h2⟩ := at_get h
  obtain ⟨v, h3, h4⟩ := dl.get h2
  refine ⟨v, ?_, h4⟩
  unfold atI
  rw [← dl.length, h1]
  exact h3
theorem sn_ix : Snd2 K C (rIx K) ixD := fun j H G s x y d e z g dx dy hz Q k => by
  match d, e, hz, dx, dy with
  | .lst ds, .int i, hz, dx, dy =>
    cases (show y = .int i from dy)
    obtain ⟨a, ws, rfl, ha, de⟩ := dx
    obtain ⟨v, h1, h2⟩ := at_v de hz
    exact .inl ⟨a, ws, i, v, rfl, rfl, .inl (.inl (g.le _ _ ha)), h1, k v H G (Step.refl g) h2⟩
  | .tup ds, .int i, hz, dx, dy =>
    cases (show y = .int i from dy)
    obtain ⟨a, ws, rfl, ha, de⟩ := dx
    obtain ⟨v, h1, h2⟩ := at_v de hz
    exact .inr (.inl ⟨a, ws, i, v, rfl, rfl, sqT_le g.le ha, h1, k v H G (Step.refl g) h2⟩)
  | .str s, .int i, hz, dx, dy =>
    cases (show y = .int i from dy)
    cases (show x = .str s from dx)
    have hz : (if s.length ≤ 10000000 then (atI s.cps.toList i).map (fun c => D.str ⟨#[c]⟩) else none) = some z := hz
    by_cases hl : s.length ≤ 10000000
    · rw [if_pos hl] at hz
      obtain ⟨c, hc, rfl⟩ := Option.map_eq_some_iff.mp hz
      exact .inr (.inr ⟨s, i, c, rfl, rfl, sz_of hl, hc, k _ H G (Step.refl g) rfl⟩)
    · rw [if_neg hl] at hz
      cases hz
end
end DL

namespace DL
open PySem PySem.Spec PyProof.Rows L2
/-! ## {x:+d} -/
def fPlus : PySem.Builtin.Float.FormatSpec := { fill := 32, align := 62, sign := some 43, type := some 100 }
def plusT (a : Int) : Str := ⟨((if a < 0 then [45] else [43]) ++ (Nat.toDigits 10 a.natAbs).map Char.toNat).toArray⟩
theorem gives_cut {v : Value} {T : String} {k : String → Sem Fin} {m : Made} (hT : ∀ s : Shared, s.TypeIs v T)
    (hn : (Value.type T == Value.type "builtin_function_or_method") = false) (g : ∀ n, Gives (k n) m) : Gives (do let n ← typeNameOfCut 200 v; k n) m := fun prog w A R s hq => by
  refine wpAny_bind ?_
  unfold typeNameOfCut shownTypeOf
  refine wpAny_bind (wpAny_bind (wpAny_typeOf (hT s) ?_))
  simp only [hn, Bool.false_eq_true, if_false]
  exact wpAny_pure (wpAny_pure (g _ prog w A R s hq))
theorem field_plus (sg ds : List Nat) (hd : ds ≠ []) (hs : sg.length = 1) :
    (⟨(List.replicate (((-1 : Int) - (sg.length + ([] : List Nat).length + ([] : List Nat).length : Int) - (if ds.isEmpty then [] else List.replicate ((0 : Int).toNat - ds.length) 48 ++ ds : List Nat).length).toNat) 32 ++ sg ++ [] ++ List.replicate 0 32 ++
      (if ds.isEmpty then [] else List.replicate ((0 : Int).toNat - ds.length) 48 ++ ds) ++ [] ++ List.replicate 0 32).toArray⟩ : Str) = ⟨(sg ++ ds).toArray⟩ := by
  have e : ds.isEmpty = false := by
    cases ds with
    | nil => exact absurd rfl hd
    | cons _ _ => rfl
  have z : ((0 : Int).toNat - ds.length) = 0 := by simp
  have p : ((-1 : Int) - (sg.length + ([] : List Nat).length + ([] : List Nat).length : Int) - (ds.length : Int)).toNat = 0 := by
    simp only [List.length_nil]
    omega
  simp only [e, z, List.replicate_zero, List.nil_append, List.append_nil, if_false, Bool.false_eq_true, p]
theorem dig_ne (n : Nat) : (Nat.toDigits 10 n).map Char.toNat ≠ [] := fun z => by
  have h : 0 < (Nat.toDigits 10 n).length := Nat.length_toDigits_pos
  have := List.map_eq_nil_iff.mp z
  rw [this] at h
  cases h
theorem gives_plus (a : Int) (t u : Tok) (h : a.natAbs.log2 < 1920) : Gives (Builtin.«int.__format__» ⟨[.int a t, .str "+d" u], []⟩) (.str (plusT a)) := by
  show Gives (do let _kind ← typeNameOf (.str "+d" u); _) _
  refine gives_after_typeNameOf (T := "str") (fun s => typeIs_str s _ _) (by decide) fun _ => ?_
  show Gives (do let name ← typeNameOfCut 200 (.int a t); _) _
  refine gives_cut (T := "int") (fun s => typeIs_int s _ _) (by decide) fun name => ?_
  show Gives (do let r ← Builtin.overDigitLimit? a; _) _
  rw [PySem.overDigitLimit_small h]
  have e := field_plus (if decide (a < 0) = true then [45] else [43]) ((Nat.toDigits 10 a.natAbs).map Char.toNat) (dig_ne _) (by by_cases k : a < 0 <;> simp [k])
  have e2 : plusT a = ⟨((if decide (a < 0) = true then [45] else [43]) ++ (Nat.toDigits 10 a.natAbs).map Char.toNat).toArray⟩ := by
    unfold plusT
    by_cases k : a < 0 <;> simp [k]
  rw [e2, ← e]
  exact .of_eq rfl
theorem wpAny_plus {prog : Program} {w : World} {A : Around} {E : Value → Shared → Prop} {s : Shared} {a : Int} {t : Tok} {Q : Value → Shared → Prop} (h : a.natAbs.log2 < 1920)
    (hz : (plusT a).length ≤ sizeLine) (hq : Q (.str (plusT a) (s.toks + 1)) { s with toks := s.toks + 1 + 1 }) : wpAny (model prog w) A (formatField (.int a t) "+d") Q E s :=
  wpAny_formatField_spec (by decide) (fun s' => typeIs_int s' a t) F.slot_int_format F.entry_int_format F.args_int_format_2 (fun u => gives_plus a t u h) hq (by decide) hz
theorem int_z : (toString (0 : Int)).length = 1 := rfl
section
variable {X : Cx} {C : Ct} {W : WX} {e a b c : Expr} {es : List Expr} {A B Z : Sm D} {L : Sm (List D)} {T U : Sm Bool} {pos : Pos}
def plusD : D → Option D
  | .int i => if i.natAbs.log2 < 1920 ∧ (plusT i).length ≤ 10000000 then some (.str (plusT i)) else none
  | _ => none
def fmtD : D → Option D
  | .str y => if y.length ≤ 10000000 then some (.str y) else none
  | .int i => if i.natAbs.log2 < 1920 then some (.str (toString i)) else none
  | _ => none
theorem de_plus {p2 p3 : Pos} {k : Nat} (he : PE X e (tE X.K C W A)) : PE X (.FormattedValue e (-1) (some (.JoinedStr [.Constant (.str "+d") k p3] p2)) pos) (tE X.K C W (op1 plusD A)) := by
  refine ⟨fun pins s σ H Q I h => ?_⟩
  obtain ⟨j, H0, G, ρ, s0, n, f⟩ := inE h
  have r := he.run pins s σ H _ I (goE (Q := fun v H' => ∃ i : Int, v = .int i ∧ i.natAbs.log2 < 1920 ∧ (plusT i).length ≤ 10000000 ∧ Q (.str (plusT i)) H') n (fin_bind f) fun d s1 v H1 G1 p st n1 dv => by
    obtain ⟨z, hz, p⟩ := fin_ofO (Fin'.step st p)
    cases d <;> simp only [plusD, reduceCtorEq] at hz
    obtain ⟨⟨h1, h2⟩, rfl⟩ := ite_some hz
    exact ⟨_, dv, h1, h2, p _ H1 G1 st rfl⟩)
  refine wpAny_FormattedValue_spec (thn r fun v s1 hv => ?_)
  obtain ⟨x, H1, I1, r1, i, rfl, h1, h2, q⟩ := hv
  obtain ⟨t, rfl⟩ := r1
  refine wpAny_JoinedStr_one ?_
  refine wpAny_Constant_str ?_
  exact ⟨_, _, rfl, wpAny_plus h1 (sz_of h2) ⟨.str (plusT i), H1, (I1.tok _).tok _, ⟨_, rfl⟩, q⟩⟩
theorem de_fmt (he : PE X e (tE X.K C W A)) : PE X (.FormattedValue e (-1) none pos) (tE X.K C W (op1 fmtD A)) := pe_imp (pe_fmt he) fun σ H Q h => by
  obtain ⟨j, H0, G, ρ, s0, n, f⟩ := inE h
  refine goE n (fin_bind f) fun d s1 v H1 G1 p st n1 dv => ?_
  obtain ⟨z, hz, p⟩ := fin_ofO (Fin'.step st p)
  cases d <;> simp only [fmtD, reduceCtorEq] at hz
  · obtain ⟨h1, rfl⟩ := ite_some hz
    exact .inr ⟨_, dv, h1, p _ H1 G1 st rfl⟩
  · obtain ⟨h1, rfl⟩ := ite_some hz
    exact .inl ⟨_, dv, sz_of h1, p _ H1 G1 st rfl⟩
def jsS : List (Sm D) → Str → Sm D
  | [], acc => cS (.str acc)
  | A :: r, acc => A.bind fun d => match d with
    | .str y => if (acc ++ y).length ≤ 10000000 then jsS r (acc ++ y) else fun _ _ => .bad
    | _ => fun _ _ => .bad
theorem tE_js {K : PySem.W.Frag} : ∀ (As : List (Sm D)) (acc : Str) {σ : St} {H : Hp} {Q : VK}, tE K C W (jsS As acc) σ H Q → tJs (As.map (tE K C W)) acc σ H fun out H1 => Q (.str out) H1
  | [], acc, σ, H, Q, h => by
    obtain ⟨j, H0, G, ρ, s0, n, f⟩ := inE h
    exact f (.str acc) H G (Step.refl n.g) rfl
  | A :: r, acc, σ, H, Q, h => by
    obtain ⟨j, H0, G, ρ, s0, n, f⟩ := inE h
    refine goE n (fin_bind f) fun d s1 v H1 G1 p st n1 dv => ?_
    have p := Fin'.step st p
    cases d with
    | str y =>
      have p' : Fin' K C j H1 G1 W σ ((if (acc ++ y).length ≤ 10000000 then jsS r (acc ++ y) else fun _ _ => .bad : Sm D) ρ s1) _ := p
      by_cases hl : (acc ++ y).length ≤ 10000000
      · rw [if_pos hl] at p'
        refine ⟨y, dv, sz_of hl, tE_js r (acc ++ y) ?_⟩
        exact goE n1 p' fun d s2 u H2 G2 p st2 n2 du => p u H2 G2 (st.trans st2) du
      · rw [if_neg hl] at p'
        exact p'.elim
    | _ => exact p.elim
theorem de_joined {v1 v2 : Expr} {rest : List Expr} {As : List (Sm D)} (h : PJ X (v1 :: v2 :: rest) (As.map (tE X.K C W))) : PE X (.JoinedStr (v1 :: v2 :: rest) pos) (tE X.K C W (jsS As Str.empty)) := pe_imp (pe_joined h) fun _ _ _ => tE_js As _
theorem dj_nil : PJ X [] (([] : List (Sm D)).map (tE X.K C W)) := .nil
theorem dj_cons {As : List (Sm D)} (h : PE X e (tE X.K C W A)) (r : PJ X es (As.map (tE X.K C W))) : PJ X (e :: es) ((A :: As).map (tE X.K C W)) := .cons h r
/-! ## slices -/
def tO (K : PySem.W.Frag) (C : Ct) (W : WX) (F : Sm (Option Int)) : TO := fun σ H Q => ∃ j H0 G ρ s, Now K C j H0 σ H G ρ s ∧ Fin' K C j H G W σ (F ρ s) fun o s' => ∀ H' G', Step K C j H G s' H' G' → Q o H'
def noP : Sm (Option Int) := fun _ s => .ok none s
def soP (A : Sm D) : Sm (Option Int) := A.bind fun d => Sm.ofO (match d with
  | .int i => some (some i)
  | _ => none)
variable {lo hi : Option Expr} {P R : Sm (Option Int)} {p2 : Pos}
theorem do_none : PO X none (tO X.K C W noP) := ⟨fun pins s σ H Q I h => po_none.run pins s σ H Q I (by
  obtain ⟨j, H0, G, ρ, s0, n, f⟩ := h
  exact f H G (Step.refl n.g))⟩
theorem do_some (he : PE X e (tE X.K C W A)) : PO X (some e) (tO X.K C W (soP A)) := ⟨fun pins s σ H Q I h => (po_some he).run pins s σ H Q I (by
  obtain ⟨j, H0, G, ρ, s0, n, f⟩ := h
  refine goE n (fin_bind f) fun d s1 v H1 G1 p st n1 dv => ?_
  obtain ⟨z, hz, p⟩ := fin_ofO (Fin'.step st p)
  cases d <;> simp only [reduceCtorEq] at hz
  cases hz
  exact ⟨_, dv, p H1 G1 st⟩)⟩
theorem goO {K : PySem.W.Frag} {j : Addr} {H0 H G : Hp} {σ : St} {ρ : En} {s : Jr} {Q : Option Int → Hp → Prop} {F : Option Int → Jr → Prop} (n : Now K C j H0 σ H G ρ s) (h : Fin' K C j H G W σ (P ρ s) F) (k : ∀ o s' H' G', F o s' → Step K C j H G s' H' G' → Now K C j H0 σ H' G' ρ s' → Q o H') : tO K C W P σ H Q := by
  refine ⟨j, H0, G, ρ, s, n, ?_⟩
  cases e : P ρ s with
  | ok d s' => rw [e] at h; exact fun H' G' st => k d s' H' G' h st (n.step st)
  | exc c d s' => rw [e] at h; exact h
  | bad => rw [e] at h; exact h
def slS (g : D → Option Int → Option Int → Option D) (A : Sm D) (P R : Sm (Option Int)) : Sm D := A.bind fun x => P.bind fun l => R.bind fun u => Sm.ofO (g x l u)
def SndS (K : PySem.W.Frag) (C : Ct) (r : V → Option Int → Option Int → Hp → VK → Prop) (g : D → Option Int → Option Int → Option D) : Prop := ∀ (j : Addr) (H G : Hp) (s : Jr) (x : V) (l u : Option Int) (d z : D), Good K C j H G s → Dv K C j G d x → g d l u = some z →
  ∀ Q : VK, (∀ v H' G', Step K C j H G s H' G' → Dv K C j G' z v → Q v H') → r x l u H Q
theorem de_slice {r : V → Option Int → Option Int → Hp → VK → Prop} {g : D → Option Int → Option Int → Option D} (hr : SlR X r) (sn : SndS X.K C r g) (he : PE X e (tE X.K C W A)) (hl : PO X lo (tO X.K C W P)) (hu : PO X hi (tO X.K C W R)) :
    PE X (.Subscript e (.Slice lo hi none p2) pos) (tE X.K C W (slS g A P R)) := pe_imp (pe_slice hr he hl hu) fun σ H Q h => by
  obtain ⟨j, H0, G, ρ, s0, n, f⟩ := inE h
  refine goE n (fin_bind f) fun d s1 x H1 G1 p st n1 dx => ?_
  refine goO n1 (fin_bind (Fin'.step st p)) fun l s2 H2 G2 p st2 n2 => ?_
  refine goO n2 (fin_bind (Fin'.step st2 p)) fun u s3 H3 G3 p st3 n3 => ?_
  obtain ⟨z, hz, p⟩ := fin_ofO (Fin'.step st3 p)
  exact sn j H3 G3 s3 x l u d z n3.g (dx.mono (st2.le.trans st3.le)) hz Q fun v H' G' st4 dv => p v H' G' (((st.trans st2).trans st3).trans st4) dv
def cutD : D → Option Int → Option Int → Option D
  | .str s, lo, hi => if s.length ≤ 10000000 then some (.str (cutS s lo hi)) else none
  | _, _, _ => none
theorem sn_cut {K : PySem.W.Frag} : SndS K C rSlS cutD := fun j H G s x l u d z g dx hz Q k => by
  cases d <;> simp only [cutD, reduceCtorEq] at hz
  obtain ⟨h1, rfl⟩ := ite_some hz
  exact ⟨_, dx, sz_of h1, k _ H G (Step.refl g) rfl⟩
/-! ## methods of texts -/
def op2s (g : Str → D → Option D) (A B : Sm D) : Sm D := A.bind fun x => match x with
  | .str a => B.bind fun y => Sm.ofO (g a y)
  | _ => fun _ _ => .bad
theorem de_m1 {o e cx : Expr} {r : V → List V → Hp → VK → Prop} {g : Str → D → Option D} (h : PE X cx (tM1 r (tE X.K C W A) (tE X.K C W B))) (sn : ∀ a, Snd1 X.K C (fun y H Q => r (.str a) [y] H Q) (g a)) : PE X cx (tE X.K C W (op2s g A B)) :=
  pe_imp h fun σ H Q h => by
    obtain ⟨j, H0, G, ρ, s0, n, f⟩ := inE h
    refine goE n (fin_bind f) fun d s1 x H1 G1 p st n1 dx => ?_
    have p := Fin'.step st p
    cases d with
    | str a =>
      cases (show x = .str a from dx)
      refine ⟨⟨a, rfl⟩, ?_⟩
      refine goE n1 (fin_bind p) fun d2 s2 y H2 G2 p st2 n2 dy => ?_
      obtain ⟨z, hz, p⟩ := fin_ofO (Fin'.step st2 p)
      exact sn a j H2 G2 s2 y d2 z n2.g dy hz Q fun v H' G' st3 dv => p v H' G' ((st.trans st2).trans st3) dv
    | _ => exact p.elim
def op1s (g : Str → Option D) (A : Sm D) : Sm D := A.bind fun x => match x with
  | .str a => Sm.ofO (g a)
  | _ => fun _ _ => .bad
theorem de_m0 {o cx : Expr} {r : V → List V → Hp → VK → Prop} {g : Str → Option D} (h : PE X cx (tM0 r (tE X.K C W A)))
    (sn : ∀ (a : Str) (H : Hp) (z : D), g a = some z → ∀ Q : VK, (∀ v, (∀ j (G : Hp), Dv X.K C j G z v) → Q v H) → r (.str a) [] H Q) : PE X cx (tE X.K C W (op1s g A)) :=
  pe_imp h fun σ H Q h => by
    obtain ⟨j, H0, G, ρ, s0, n, f⟩ := inE h
    refine goE n (fin_bind f) fun d s1 x H1 G1 p st n1 dx => ?_
    have p := Fin'.step st p
    cases d with
    | str a =>
      cases (show x = .str a from dx)
      obtain ⟨z, hz, p⟩ := fin_ofO p
      exact ⟨⟨a, rfl⟩, sn a H1 z hz Q fun v dv => p v H1 G1 st (dv _ _)⟩
    | _ => exact p.elim
def upperD (a : Str) : Option D := if a.length ≤ 5000000 then some (.str (Txt.upper a)) else none
def partD (a : Str) : D → Option D
  | .str b => if a.length ≤ 10000000 ∧ b.length ≠ 0 then some (.tup [.str (Txt.partition a b).1, .str (Txt.partition a b).2.1, .str (Txt.partition a b).2.2]) else none
  | _ => none
def idxD (a : Str) : D → Option D
  | .str b => match Builtin.Str.occurrences a b 0 a.length 1 with
    | i :: _ => some (.int i)
    | [] => none
  | _ => none
variable {o : Expr}
theorem de_upper {apos pos : Pos} (ho : PE X o (tE X.K C W A)) (hbase : attributeBase o "upper" X.env (eval o X.env) = eval o X.env := by rfl) (hline : (apos.endLine == pos.line) = true := by rfl) :
    PE X (.Call (.Attribute o "upper" apos) [] [] pos) (tE X.K C W (op1s upperD A)) := de_m0 (o := o) (pe_upper ho hbase hline) fun a H z hz Q k => by
  obtain ⟨h1, rfl⟩ := ite_some hz
  exact ⟨a, rfl, rfl, by omega, k _ fun _ _ => rfl⟩
theorem de_partition {apos pos : Pos} (ho : PE X o (tE X.K C W A)) (he : PE X e (tE X.K C W B)) (hs : starEach [e] X.env = [(false, eval e X.env)] := by rfl) (hbase : attributeBase o "partition" X.env (eval o X.env) = eval o X.env := by rfl) (hline : (apos.endLine == pos.line) = true := by rfl) :
    PE X (.Call (.Attribute o "partition" apos) [e] [] pos) (tE X.K C W (op2s partD A B)) := de_m1 (o := o) (e := e) (pe_partition ho he hs hbase hline) fun a j H G s x d z g dx hz Q k => by
  cases d <;> simp only [partD, reduceCtorEq] at hz
  rename_i b
  obtain ⟨⟨h1, h2⟩, rfl⟩ := ite_some hz
  refine ⟨a, b, rfl, by rw [show x = _ from dx], by simp only [beq_eq_false_iff_ne]; exact h2, sz_of h1, fun p hp => ?_⟩
  have st2 := g.new (o := .tup [.str (Txt.partition a b).1, .str (Txt.partition a b).2.1, .str (Txt.partition a b).2.2]) hp not_tbl_tup
  exact k _ _ _ st2 ⟨p, _, rfl, .inl (.inl upd_same), _, _, rfl, rfl, _, _, rfl, rfl, _, _, rfl, rfl, rfl⟩
theorem de_index {apos pos : Pos} (ho : PE X o (tE X.K C W A)) (he : PE X e (tE X.K C W B)) (hs : starEach [e] X.env = [(false, eval e X.env)] := by rfl) (hbase : attributeBase o "index" X.env (eval o X.env) = eval o X.env := by rfl) (hline : (apos.endLine == pos.line) = true := by rfl) :
    PE X (.Call (.Attribute o "index" apos) [e] [] pos) (tE X.K C W (op2s idxD A B)) := de_m1 (o := o) (e := e) (pe_m1 F.slot_str_index F.type_str_index mt_sindex ho he hs hbase hline) fun a j H G s x d z g dx hz Q k => by
  cases d with
  | str b =>
    have hz : (match Builtin.Str.occurrences a b 0 a.length 1 with
      | i :: _ => some (D.int i)
      | [] => none) = some z := hz
    cases h : Builtin.Str.occurrences a b 0 a.length 1 with
    | nil => rw [h] at hz; cases hz
    | cons i r =>
      rw [h] at hz
      cases hz
      exact ⟨a, b, i, r, rfl, by rw [show x = _ from dx], h, k _ H G (Step.refl g) rfl⟩
  | _ => simp only [idxD, reduceCtorEq] at hz
/-! ## dicts -/
theorem de_dnew : PE X (.Dict [] [] pos) (tE X.K C W (cS (.dic [] []))) := pe_imp pe_dnewK fun σ H Q h => by
  obtain ⟨j, H0, G, ρ, s0, n, f⟩ := inE h
  intro p hp
  have st := n.g.new (o := .dK []) hp (fun ⟨_, h⟩ => nomatch h)
  exact f _ _ _ st ⟨p, [], rfl, upd_same, rfl, rfl⟩
/-- {a text: a constant} -/
def d1S (k : Str) (d : D) : Sm D := cS (.dic [.inr k] [d])
theorem de_d1 {k : Str} {v : V} {d : D} {ke : Expr} (hk : PE X ke (tC (.str k))) (hv : PE X e (tC v)) (hd : ∀ (j : Addr) (G : Hp), Dv X.K C j G d v) : PE X (.Dict [some ke] [e] pos) (tE X.K C W (d1S k d)) :=
  pe_imp (pe_disp (pps_cons hk hv pps_nil) rfl rfl (fun z => nomatch z) (Nat.le_add_left 1 14)) fun σ H Q h => by
    obtain ⟨j, H0, G, ρ, s0, n, f⟩ := inE h
    intro p hp
    refine ⟨upd_same, [(.inr k, v)], rfl, Nat.le_add_left 1 14, ?_⟩
    rw [show upd (upd H p (.dK [])) p (.dK (mergeK [] [(Sum.inr k, v)])) = upd H p (.dK [(.inr k, v)]) from by
      funext a
      by_cases h : a = p
      · subst h
        rw [upd_same, upd_same]
        rfl
      · rw [upd_ne h, upd_ne h, upd_ne h]]
    have st := n.g.new (o := .dK [(.inr k, v)]) hp (fun ⟨_, h⟩ => nomatch h)
    exact f _ _ _ st ⟨p, [v], rfl, upd_same, rfl, v, [], rfl, hd _ _, rfl⟩
/-- a dict and its like -/
def eqDic : D → D → Option D
  | .dic ks ds, .dic ks' ds' => match ks, ds, ks', ds' with
    | [], [], [], [] => some (.bl true)
    | [k], [.int a], [k'], [.int b] => if k = k' ∧ a = b then some (.bl true) else none
    | _, _, _, _ => none
  | _, _ => none
def rEqD : R2 := fun x y H Q => ∃ a b kvs, x = .ref a ∧ y = .ref b ∧ H a = some (.dK kvs) ∧ H b = some (.dK kvs) ∧ (kvs.map (·.1)).Nodup ∧ (∀ p ∈ kvs, flatB p.2 = true) ∧ Q (.bl true) H
theorem sn_eqDic {K : PySem.W.Frag} : Snd2 K C rEqD eqDic := fun j H G s x y d e z g dx dy hz Q k => by
  unfold eqDic at hz
  split at hz
  · rename_i ks ds ks' ds'
    split at hz
    · cases hz
      obtain ⟨p, vs, rfl, hp, hl, dl⟩ := dx
      obtain ⟨p', vs', rfl, hp', hl', dl'⟩ := dy
      exact ⟨p, p', [], rfl, rfl, g.le _ _ hp, g.le _ _ hp', List.nodup_nil, by simp, k _ H G (Step.refl g) rfl⟩
    · obtain ⟨⟨rfl, rfl⟩, rfl⟩ := ite_some hz
      obtain ⟨p, vs, rfl, hp, hl, dl⟩ := dx
      obtain ⟨p', vs', rfl, hp', hl', dl'⟩ := dy
      obtain ⟨v, rfl, dv⟩ := one_v dl
      obtain ⟨v', rfl, dv'⟩ := one_v dl'
      cases (show v = _ from dv)
      cases (show v' = _ from dv')
      exact ⟨p, p', _, rfl, rfl, g.le _ _ hp, g.le _ _ hp', by simp, by simp [flatB], k _ H G (Step.refl g) rfl⟩
    · cases hz
  · cases hz
end
end DL

/-! # own exceptions over ValueError whose __init__ says super().__init__(value); self.value = value -/
namespace DL
namespace RX
open PySem PySem.Spec PySem.W PySem.Calls PyProof.Rows PySem.HandSPX L2
def iA : Arguments := { posonlyargs := [], args := [{ arg := "self", annotation := none, pos := ⟨4, 17, 4, 21⟩ }, { arg := "value", annotation := none, pos := ⟨4, 23, 4, 28⟩ }], vararg := none, kwonlyargs := [], kw_defaults := [], kwarg := none, defaults := [] }
def iB : List Stmt := [.Expr (.Call (.Attribute (.Call (.Name "super" ⟨5, 8, 5, 13⟩) [] [] ⟨5, 8, 5, 15⟩) "__init__" ⟨5, 8, 5, 24⟩) [.Name "value" ⟨5, 25, 5, 30⟩] [] ⟨5, 8, 5, 31⟩) ⟨5, 8, 5, 31⟩,
  .Assign [.Attribute (.Name "self" ⟨6, 8, 6, 12⟩) "value" ⟨6, 8, 6, 18⟩] (.Name "value" ⟨6, 21, 6, 26⟩) ⟨6, 8, 6, 26⟩]
def iS : Scope := { kind := .function, names := [(PySem.Str.ofString "self", .local), (PySem.Str.ofString "value", .local), (PySem.Str.ofString "__class__", .free), (PySem.Str.ofString "super", .globalImplicit)], isGenerator := false, isCoroutine := false, more := [] }
/-- the root's __init__ at fI, the root at R -/
def InitTxt (P : Program) (K : Frag) (R fI : Addr) : Prop := ∃ (oc : Value) (od : Option Addr) (doc pm : Value) (an : Option Addr) (cda : Addr) (ct : Value) (osl : Array (Option Value)) (cc : Addr) (ccl cl : Value) (cdd cld : Option Addr) (ccs csl : Array (Option Value)) (vs : Array Value) (file : Str) (tf : Tok) (cdR : ClassData),
    K.lookup fI = some ⟨oc, od, .func (ksFn "__init__" "RoomError.__init__" iA iB iS .none .none doc pm an (.ref cda) ct cc), osl⟩ ∧ codeIn K (.ref cda) "RoomError.__init__" = true ∧
    K.lookup cda = some ⟨ccl, cdd, .fields vs, ccs⟩ ∧ vs[2]? = some (.str file tf) ∧ ((P.main.file : Str) == file) = true ∧ K.lookup cc = some ⟨cl, cld, .cell (some (.ref R)), csl⟩ ∧ clsIn K R = some cdR ∧ (P.main.scope.names.lookup ("super" : Str)).isSome = false
/-- what the written part says of a class at C, its root at R, the root's __init__ at fI -/
structure Txt (P : Program) (K : Frag) (mg : Str → Option Value) (x : Str) (C R fI : Addr) : Prop where
  gC : mg x = some (.ref C)
  cls : ∃ nm q N bs bm sn sub ab col dd k0 k1 k2 k3 k5, K.lookup C = some (excClassObj nm q C N bs bm true sn sub ab col dd k0 k1 k2 k3 k5 "ValueError.__new__") ∧ refsVE bm = true
  sa : findIn K (.ref C) "__setattr__" = some (some (.builtin "object.__setattr__"))
  ga : findIn K (.ref C) "__getattribute__" = some (some (.builtin "BaseException.__getattribute__"))
  gg : findIn K (.ref C) "__getattr__" = some none
  noN : findIn K (.ref C) "value" = some none
  iC : findIn K (.ref C) "__init__" = some (some (.ref fI))
  tC : typeIn K (.ref fI) = some (.type "function")
  kC : keepIn K (.ref C) = true
  exC : subIn K (.ref C) (.type "BaseException") = some true
  veC : subIn K (.ref C) (.type "ValueError") = some true
  tyC : typeIn K (.ref C) = some (.type "type")
  hdC : hasDictIn K C = true
  rC : mroIn K C (.ref R) = some true
  su : ks_superIn K C R "__init__" = some (some (.builtin "ValueError.__init__"))
  sN : nsIn K mainGlobals "super" = some none
  oN : nsIn K cStatics "thirdparty.any" = some none
  fn : InitTxt P K R fI
theorem one_size (v : Value) : [v].length ≤ sizeLine := by
  rw [sizeLine_eq]
  exact (by decide : 1 ≤ 16777216)
/-- what __init__ leaves of a fresh exception at x -/
structure InitEnd (h h' : Heap) (x C dx : Addr) (v : Value) : Prop where
  keep : ∀ b o, b ≠ x → h.get? b = some o → h'.get? b = some o
  obj : ∃ t1 : Addr, h'.get? x = some { cls := .ref C, dict := some dx, data := .fields #[.ref t1, .none, .none, .none, .bool false, .none] }
  dbig : h.objs.size ≤ dx
  dne : dx ≠ x
  ns : h'.Ns1 dx (fun y => if y = "value" then some v else none)
structure OwnMade (h h' : Heap) (e C d : Addr) (v : Value) : Prop where
  keep : ∀ b o, h.get? b = some o → h'.get? b = some o
  new : h.objs.size ≤ e
  obj : ∃ oe vs, h'.get? e = some oe ∧ oe.cls = .ref C ∧ oe.dict = some d ∧ oe.data = .fields vs ∧ vs[1]? = some .none
  dbig : h.objs.size ≤ d
  dne : d ≠ e
  ns : h'.Ns1 d (fun y => if y = "value" then some v else none)
/-- the wrapper called -/
theorem call_mw {prog : Program} {w : World} {A : Around} {E : Value → Shared → Prop} {h : Heap} {g : Array GenState} {d : Drawn} {tk : Nat} {os : OsState} {u e t0 C : Addr} {rest : List Value} {nm q : Str} {N : Addr} {bs bm : List Value} {sn : List Str} {sub : List Value} {ab : Bool} {col : Option Bool} {dd : Option Addr} {k0 k1 k2 k3 k5 : Option Value} {Q : Value → Shared → Prop}
    (hC : h.get? C = some (excClassObj nm q C N bs bm true sn sub ab col dd k0 k1 k2 k3 k5 "ValueError.__new__")) (he : h.get? e = some (excO C t0)) (hu : h.get? u = some (kxs_mw "ValueError.__init__" e)) (hz : rest.length ≤ sizeLine)
    (hq : ∀ h' t1, (∀ b o, b ≠ e → h.get? b = some o → h'.get? b = some o) → h'.get? e = some (excO C t1) → Q .none ⟨h', g, d, tk, os⟩) : wpAny (model prog w) A (call (.ref u) rest) Q E ⟨h, g, d, tk, os⟩ := by
  have isW : (Value.type "method-wrapper" == Value.type "method" || Value.type "method-wrapper" == Value.type "builtin_function_or_method" || Value.type "method-wrapper" == Value.type "method-wrapper") = true := by decide
  apply wpAny_call
  apply codeAny_of_tree
  show wpAny (model prog w) A.in1 (callAny (.ref u) ⟨rest, []⟩) _ _ ⟨h, g, d, tk, os⟩
  simp only [callAny]
  apply wpAny_bind
  apply wpAny_load hu
  simp only [kxs_mw, isW, if_true]
  apply KFB.if_so (by decide)
  refine wpAny_bind (check_bound_init F.excBase_ValueError.toExcCallFacts hC he rfl ?_)
  refine wpAny_bind (wpAny_pure (wpAny_pure ?_))
  refine ⟨plainId_quiet F.excBase_ValueError.init.plain _, codeAny_builtin F.excBase_ValueError.initEntry ?_⟩
  exact exc_init_tree (cls := .ref C) (t0 := t0) (dv := none) (c2 := .none) (c3 := .none) (b4 := .bool false) he hz fun h' k e' _ => hq h' _ k e'
section
variable {prog : Program} {w : World} {A : Around} {E : Value → Shared → Prop} {R : Result → Shared → Prop} {s : Shared} {K : Frag} {mg mb : Str → Option Value} {x : Str} {C Ro fI : Addr}
theorem init (T : Txt prog K mg x C Ro fI) {e t0 : Addr} {v : Value} (X : K.In s.heap) (hlim : s.heap.NoLimit) (hg : s.heap.Ns mainGlobals mg) (hmg : mg "super" = none) (hb : s.heap.Ns builtinsNs mb) (hmb : mb "super" = bootBuiltins "super") (hx : s.heap.get? e = some (excO C t0)) (hnx : K.lookup e = none) (hroom : A.depth < recursionLimit)
    (hq : ∀ h' tk dx, InitEnd s.heap h' e C dx v → R (.ok (.ret .none)) { s with heap := h', toks := tk }) :
    codeAny (model prog w) A (.call (.ref fI) ⟨[.ref e, v], []⟩) R s := by
  obtain ⟨oc, od, doc, pm, an, cda, ct, osl, cc, ccl, cl, cdd, cld, ccs, csl, vs, file, tf, cdR, ho, hcd, hcode, hvs, hfile, hcell, hR, htop⟩ := T.fn
  obtain ⟨nm, q, N, bs, bm, sn, sub, ab, col, dd, k0, k1, k2, k3, k5, hC, hbm⟩ := T.cls
  have hcl : clsIn K C = some { name := nm, bases := bs, mro := .ref C :: bm, ns := N, qualname := q, hasDict := true, slotNames := sn, subclasses := sub, abstract := ab, collection := col, hasDel := false } := by unfold clsIn; rw [hC] <;> rfl
  obtain ⟨hp, g, d, tk, os⟩ := s
  refine ks_codeAny_call_defAt (fd := ksFn "__init__" "RoomError.__init__" iA iB iS .none .none doc pm an (.ref cda) ct cc) (body := iB) (binds := [("self", .ref e), ("value", v)]) hroom (X _ _ ho) rfl hlim (codeRec_of X hcd) rfl (BindsTo.of_eq (by first | rfl | with_unfolding_all rfl))
    (show ∀ x ∈ iS.names, x.2 ≠ .cell by decide) (fun y hy => ?_) (fun h₁ hn k => ?_) rfl rfl rfl
  · rcases List.mem_cons.mp hy with rfl | hy
    · rfl
    rcases List.mem_cons.mp hy with rfl | hy
    · rfl
    · cases hy
  have X₁ : K.In h₁ := X.keeps k
  have hx₁ := k _ _ hx
  have hg₁ : h₁.Ns mainGlobals mg := hg.keeps k
  have hb₁ : h₁.Ns builtinsNs mb := hb.keeps k
  obtain ⟨oR, hR1, hR2⟩ : ∃ oR, h₁.get? Ro = some oR ∧ oR.data = .cls cdR := by
    unfold clsIn at hR
    split at hR
    · rename_i c d cd' sl ho
      cases hR
      exact ⟨_, X₁ _ _ ho, rfl⟩
    · cases hR
  have ml : ∀ h' : Heap, K.In h' → Looks (model prog w) h' (mroOf (.ref C)) (.ref C :: bm) := fun h' X' A Q E s k q => wpAny_bind ((looks_clsIn X' hcl) A _ E s k (wpAny_pure q))
  have su := T.su
  unfold ks_superIn at su
  rw [hcl] at su
  have hne : e ≠ C := fun z => by rw [z, hC] at hnx; cases hnx
  refine ks_wpAt_execs_cons (ks_wpAt_Expr_any (ks_wpAt_MethodCall ?_))
  refine ks_wpAt_super_base (env := ksEnv "RoomError.__init__" iS hp.objs.size fI (.ref cda) cc) rfl rfl rfl rfl (X₁ _ _ ho) rfl rfl rfl (X₁ _ _ hcode) rfl hvs hfile htop ?_
  refine ks_loadName_global rfl rfl (loadGlobal_builtin (env := ksEnv "RoomError.__init__" iS hp.objs.size fI (.ref cda) cc) hg₁ hmg hb₁ (hmb.trans (show bootBuiltins "super" = some (.type "super") by first | rfl | kernel_rfl)) ⟨rfl, ?_⟩)
  refine wpAny_loadName_free rfl rfl rfl ⟨_, X₁ _ _ hcell, rfl⟩ ?_
  refine wpAny_loadName_local (m := fun x => ([("self", Value.ref e), ("value", v)] : List (Str × Value)).reverse.lookup x) (v := .ref e) rfl rfl hn (by first | rfl | with_unfolding_all rfl | kernel_rfl) ?_
  refine ks_wpAny_isType_cls hR1 hR2 ⟨rfl, ?_⟩
  refine ks_wpAny_call_super hR1 hR2 hx₁ rfl (fun c z => by cases z) (looks_mroIn X₁ T.rC) (fun h₂ e2 k2 => ?_)
  have X₂ : K.In h₂ := X₁.keeps k2
  have hx₂ := k2 _ _ hx₁
  have I₂ : InstAt h₂ e (excO C t0) C none := ⟨hx₂, rfl, rfl, trivial⟩
  refine kxs_getMethod kxs_ValueError e2 (looks_opaque X₂ T.oN) (ml _ X₂) rfl X₂ su (I₂.type.andThen (looks_subIn X₂ T.veC)) hne rfl ?_
  have hn₃ : (h₂.push (kxs_mw "ValueError.__init__" e)).Ns hp.objs.size _ := hn.keeps fun b o z => Heap.get?_push_of_some _ (k2 b o z)
  refine kxs_callWith (i := "ValueError.__init__") (x := e) rfl (evalArgs_plain ?_)
  refine spliced_cons (wpAny_Name (wpAny_loadName_local (v := v) rfl rfl hn₃ (by first | rfl | with_unfolding_all rfl | kernel_rfl) (spliced_nil ?_)) (by decide))
  refine ⟨Heap.get?_push_at rfl rfl, ?_⟩
  refine call_mw (h := h₂.push (kxs_mw "ValueError.__init__" e)) (C := C) (e := e) (t0 := t0) (Heap.get?_push_of_some _ (X₂ _ _ hC)) (Heap.get?_push_of_some _ hx₂) (Heap.get?_push_at rfl rfl) (one_size v) (fun h₄ t1 k4 hx₄ => ?_)
  have hne2 : hp.objs.size ≠ e := Nat.ne_of_gt (Heap.lt_size hx)
  have k14 : ∀ b o, b ≠ e → h₁.get? b = some o → h₄.get? b = some o := fun b o hb z => k4 b o hb (Heap.get?_push_of_some _ (k2 b o z))
  have hn₄ : h₄.Ns hp.objs.size _ := hn.at fun o z => k14 _ o hne2 z
  have X₄ : K.In h₄ := fun a o z => k14 a o (fun y => by rw [y, hnx] at z; cases z) (X₁ a o z)
  refine wpAt_of_wpAny ?_
  show wpAny _ _ (execs _ _) _ _ _
  refine wpAny_execs_cons (plainObj_wpAny_Assign_Attribute ?_)
  refine wpAny_Name (wpAny_loadName_local (v := v) rfl rfl hn₄ (by first | rfl | with_unfolding_all rfl | kernel_rfl) ?_) (by decide)
  refine wpAny_Name (wpAny_loadName_local (v := .ref e) rfl rfl hn₄ (by first | rfl | with_unfolding_all rfl | kernel_rfl) ?_) (by decide)
  refine set_plain X₄ (ox := excO C t1) (od := none) ⟨hx₄, rfl, rfl, trivial⟩ T.sa ?_
  refine exc_osa X₄ hx₄ hcl (show refsVE (.ref C :: bm) = true from hbm) rfl T.noN (fun h₅ tk₅ dx k₅ dn dne hx₅ hn₅ => ?_)
  show wpAny _ _ (execs _ _) _ _ _
  have z : hp.objs.size < h₄.objs.size := hn₄.lt
  exact wpAny_execs_nil (hq h₅ tk₅ dx ⟨fun b o hb y => k₅ b o hb (k14 b o hb (k b o y)), ⟨_, hx₅⟩, Nat.le_of_lt (Nat.lt_of_lt_of_le z dn), dne, hn₅⟩)
theorem made (T : Txt prog K mg x C Ro fI) {v : Value} (X : K.In s.heap) (hlim : s.heap.NoLimit) (hg : s.heap.Ns mainGlobals mg) (hmg : mg "super" = none) (hb : s.heap.Ns builtinsNs mb) (hmb : mb "super" = bootBuiltins "super") (hroom : A.depth + 1 < recursionLimit)
    (hq : ∀ h' tk e d, OwnMade s.heap h' e C d v → R (.ok (.ret (.ref e))) { s with heap := h', toks := tk }) :
    codeAny (model prog w) A (.call (.ref C) ⟨[v], []⟩) R s := by
  obtain ⟨nm, q, N, bs, bm, sn, sub, ab, col, dd, k0, k1, k2, k3, k5, hC, hbm⟩ := T.cls
  obtain ⟨hp, g, dr, tk, os⟩ := s
  have k : ∀ b o, hp.get? b = some o → ((hp.push (kdv_tup [v])).push (excO C hp.objs.size)).get? b = some o := fun b o e => Heap.get?_push_of_some _ (Heap.get?_push_of_some _ e)
  have hget : ((hp.push (kdv_tup [v])).push (excO C hp.objs.size)).get? (hp.objs.size + 1) = some (excO C hp.objs.size) := by heap_get
  have hnx : K.lookup (hp.objs.size + 1) = none := by
    cases e : K.lookup (hp.objs.size + 1) with
    | none => rfl
    | some o =>
      have z : hp.get? (hp.objs.size + 1) = some o := X _ _ e
      exact absurd (Nat.lt_of_succ_lt (Heap.lt_size z)) (Nat.lt_irrefl _)
  refine call_own F.excBase_ValueError (fun X => refsVE_contains X bm hbm) (X _ _ hC) (looks_findIn X T.iC) (fun self => bind_fn X self T.tC) (one_size v) ?_
  refine init (s := ⟨(hp.push (kdv_tup [v])).push (excO C hp.objs.size), g, dr, tk, os⟩) T (X.keeps k) (hlim.keeps k) (hg.keeps k) hmg (hb.keeps k) hmb hget hnx ?_ fun h' tk' dx M => ?_
  · show A.depth + 1 < recursionLimit
    exact hroom
  · obtain ⟨k', ⟨t1, hx⟩, dn, dne, hns⟩ := M
    have old : ∀ b o, hp.get? b = some o → h'.get? b = some o := fun b o e => k' b o (Nat.ne_of_lt (Nat.lt_succ_of_lt (Heap.lt_size e))) (k b o e)
    have z : hp.objs.size + 1 + 1 ≤ dx := by
      have q := dn
      rw [Heap.size_push, Heap.size_push] at q
      exact q
    exact ⟨rfl, hq h' tk' (hp.objs.size + 1) dx ⟨old, Nat.le_succ _, ⟨_, _, hx, rfl, rfl, rfl, rfl⟩, Nat.le_trans (Nat.le_trans (Nat.le_succ _) (Nat.le_succ _)) z, dne, hns⟩⟩
end
theorem relO_val {v : V} {v' : Value} (r : RelV v v') (f : Str) : RelO (List.lookup f [(("value" : Str), v)]) (if f = "value" then some v' else none) := by
  by_cases hw : f = "value"
  · subst hw
    rw [if_pos rfl]
    have q : List.lookup ("value" : Str) [(("value" : Str), v)] = some v := by simp [List.lookup]
    rw [q]
    exact r
  · rw [if_neg hw]
    have qw : (f == ("value" : Str)) = false := by simpa using hw
    have q2 : List.lookup f [(("value" : Str), v)] = none := by simp [List.lookup, qw]
    rw [q2]
    trivial
/-- X(e) -/
def tMk (C : Addr) (ta : TA) : L2.St → Hp → XK → Prop := fun σ H Q => ta σ H fun vs H1 => ∃ v, vs = [v] ∧ ∀ d, H1 d = none → Q (.ref C) (some d) (upd H1 d (xdV v))
theorem pmk {X : Cx} {x : Str} {C Ro fI : Addr} {a : Expr} {ta : TA} {p pos : Pos} {k : Nat} (T : Txt X.prog X.K X.mg x C Ro fI) (hmg : X.mg "super" = none) (hr : Room (k + 1) X.A) (ha : PA X [a] ta) (hg : Gl X x)
    (hdb : (x == ("__debug__" : Str)) = false := by decide) (he : starEach (a :: []) X.env = (false, eval a X.env) :: starEach [] X.env := by rfl) (hpl : (backTo pos (starEach [] X.env)).any (·.1) = false := by rfl) :
    PMk X (.Call (.Name x p) [a] [] pos) (tMk C ta) := by
  intro pins s σ H Q I h
  refine wpAny_Call_Name_kw (ld_glob I hg T.gC ?_ hdb)
  refine PySem.W.callWith_K (h₀ := X.base) I.ok.mod.kin T.kC (thn (ha.run pos pins s σ H _ I h) fun us s1 hh => ?_) he hpl
  obtain ⟨vs, H1, I1, r1, v, ev, q1⟩ := hh
  subst ev
  refine ⟨I1.kIn, ?_⟩
  cases r1 with
  | cons rv rn =>
    rename_i v' us'
    cases rn
    show wpAny _ _ (call (.ref C) [v']) _ _ _
    have hlim := I1.nolimit
    have hkg := I1.mod.glob.keeps I1.bk
    obtain ⟨mb, hmb, hmb2⟩ := I1.mod.blt
    have hkb := hmb.keeps I1.bk
    obtain ⟨hp, g, dr, tk, os⟩ := s1
    refine wpAny_call (made T I1.kIn hlim hkg hmg hkb (hmb2 "super" (by decide)) (by have := hr.dp; omega) fun h' tk' e d M => ?_)
    show MkP X pins σ Q (.ref e) ⟨h', g, dr, tk', os⟩
    obtain ⟨oe, fv, hoe, hc, hd, hdat, h1⟩ := M.obj
    have hns := M.ns
    obtain ⟨G', g1, g2⟩ := restrict h' fun b => decide (b ≠ e)
    have gk : ∀ b, b ≠ e → G'.get? b = h'.get? b := fun b hb => g1 b (decide_eq_true hb)
    have ge : G'.get? e = none := g2 e (by simp)
    have old : ∀ b o, hp.get? b = some o → G'.get? b = some o := fun b o q => (gk b (Nat.ne_of_lt (Nat.lt_of_lt_of_le (Heap.lt_size q) M.new))).trans (M.keep b o q)
    have ob : ObjOk X.prog X.w (upd H1 d (xdV v)) G' d (xdV v) :=
      ⟨_, hns.at (fun o q => (gk d M.dne).trans q), fun f => relO_val rv f⟩
    have J : Inv X pins σ (upd H1 d (xdV v)) ⟨G', g, dr, tk', os⟩ := I1.laid (t' := tk') old M.dbig ob
    refine ⟨e, oe, fv, ⟨G', g, dr, tk', os⟩, _, .ref C, some d, rfl, J, fun b o q => ?_, ge, hoe, ⟨hc, hd⟩, hdat, h1, ?_, rfl, I1.bare, raises_own T.exC T.tyC, q1 d (I1.hok.fresh M.dbig)⟩
    · by_cases hb : b = e
      · have q' : G'.get? b = some o := q
        rw [hb, ge] at q'; cases q'
      · exact (gk b hb).symm.trans q
    · rw [upd_ne (Ne.symm M.dne)]
      exact I1.hok.fresh M.new
end RX
open PySem PySem.Spec PyProof.Rows L2
/-- raise X(e), X the class told by c -/
def raiS (c : Nat) (A : Sm D) : Ss := thenS A fun d _ s => .exc c d s
theorem ds_raise {X : Cx} {C : Ct} {W : WX} {a : Expr} {A : Sm D} {x : Str} {c : Nat} {Ro fI : Addr} {p pos pos2 : Pos} {k : Nat} (hc : X.calm = true) (T : RX.Txt X.prog X.K X.mg x (C.cl c) Ro fI) (hmg : X.mg "super" = none) (hr : Room (k + 1) X.A) (tk : Takes X W) (ha : PE X a (tE X.K C W A)) (hg : Gl X x)
    (hdb : (x == ("__debug__" : Str)) = false := by decide) (he : starEach (a :: []) X.env = (false, eval a X.env) :: starEach [] X.env := by rfl) (hpl : (backTo pos (starEach [] X.env)).any (·.1) = false := by rfl) :
    PS X (.Raise (some (.Call (.Name x p) [a] [] pos)) none pos2) (tS X.K C W (raiS c A)) :=
  ps_imp (ps_raise hc tk (RX.pmk T hmg hr (pa_cons ha pa_nil he) hg hdb he hpl)) fun D' σ H q => by
    refine stepE q fun j H0 G0 H1 G1 ρ s1 d v n m dv f => ?_
    refine ⟨v, rfl, fun dd hd => ?_⟩
    have nt : ¬ Tbl (xdV v) := fun ⟨_, h⟩ => nomatch h
    have st := n.g.own (o := xdV v) hd nt
    exact f v dd σ _ _ st.ok (m.step st) dv upd_same
end DL

/-! # try .. except A as n: .. except B as n: .. -/
namespace DL
namespace TM
open PySem PySem.Spec PyProof.Rows L2
abbrev Suite := Addr → Value → Option Addr → TS
/-- the wishes behind a suite: the name n (slot i) is gone -/
def gone (i : Nat) (D : Ends) : Ends := { nx := fun σ H => D.nx (σ.set i none) H, rt := D.rt, bk := fun σ H => D.bk (σ.set i none) H, ct := fun σ H => D.ct (σ.set i none) H }
def wAll (K : PySem.W.Frag) (Wo : WX) (i : Nat) (D : Ends) : List (Value × Suite) → WX
  | [] => Wo
  | (c, ts) :: more => fun cls d σ H => ∃ yes, PySem.W.exmOne K cls c = some yes ∧ (yes = true → ∀ e, H e = none → ts e cls d (gone i D) (σ.set i (some (.ref e))) H) ∧ (yes = false → wAll K Wo i D more cls d σ H)
inductive Clauses (X : Cx) (n : Str) : List ExceptHandler → List (Value × Suite) → Prop
  | nil : Clauses X n [] []
  | cons {x : Str} {c : Value} {ts : Suite} {st : Stmt} {sts : List Stmt} {p1 p2 : Pos} {hs : List ExceptHandler} {l : List (Value × Suite)} (nm : Names X x c)
      (su : ∀ (e : Addr) (oe : Obj) (cls : Value) (d : Option Addr) (pn : List (Addr × Obj)), Zc cls d oe → (∃ vs, oe.data = .fields vs) → PSs (X.suite e ((e, oe) :: pn)) (st :: sts) (ts e cls d)) (rest : Clauses X n hs l) :
      Clauses X n (.ExceptHandler (some (.Name x p1)) (some n) (st :: sts) p2 :: hs) ((c, ts) :: l)
section
variable {X : Cx} {n : Str} {i : Nat} {body : List Stmt} {h1 : ExceptHandler} {hs : List ExceptHandler} {l : List (Value × Suite)} {pos : Pos} {tb : WX → TS} {Wo : WX}
theorem ps_try (stk : X.stack = X.env :: X.outer) (fr : X.env.frame = some X.env.locals) (nd : X.N.Nodup) (at_i : X.N[i]? = some n) (lo : X.env.kindOf n = some .local) (tk : Takes X Wo)
    (hb : ∀ (W : WX) (pn : List (Addr × Obj)) (xe : Value → Shared → Prop), Takes (X.tr pn xe) W → PassesOwn (model X.prog X.w) X.A X.env xe → PSs (X.tr pn xe) body (tb W)) (cs : Clauses X n (h1 :: hs) l) :
    PS X (.Try body (h1 :: hs) [] [] pos) (fun D σ H => tb (fun cls d σ' H' => σ'.length = X.N.length → wAll X.K Wo i D l cls d σ' H') D σ H) := by
  refine ⟨fun pins s σ H D inv wish => ?_⟩
  have good := inv.ok
  have frm : X.A.frames = some (X.env :: X.outer) := by rw [good.frames, stk]
  have isLoc : Loc X.env.scope n := Or.inl lo
  refine wpAny_Try_except ?_
  refine wpAny_mono ((hb (fun cls d σ' H' => σ'.length = X.N.length → wAll X.K Wo i D l cls d σ' H') (X.pn ++ pins) (fun er t1 => wpAny (model X.prog X.w) X.A (noteFrame er X.env) (fun _ t2 => wpAny (model X.prog X.w) X.A (setFlight er none) (fun _ t3 =>
    wpAny (model X.prog X.w) X.A (handleBy er X.env (h1 :: hs)) (L2.SP X pins D) X.xe t3) X.xe t2) X.xe t1) (fun er t thrown => ?_) PassesOwn.looking).run [] s σ H D (inv.toTry _) wish) (fun fl t sp => ?_) (fun _ _ z => z)
  · obtain ⟨e, B, sB, pins2, σ2, H2, cls, d, rfl, inv2, nb, up, sky, free, os, bare, w⟩ := thrown
    have invB : Inv X pins σ2 H2 sB := inv2.ofTry good
    have sky1 : Sky B (X.env :: X.outer) e (Zc cls d) X.env.locals t.heap := by rw [← stk]; exact sky
    show wpAny (model X.prog X.w) X.A (noteFrame (.ref e) X.env) _ _ _
    refine Sky.land Zc.steady frm fr sky1 fun hA fly upA => ?_
    have invA : Inv X pins σ2 H2 { t with heap := hA } := invB.landed nb fly.1 (up.trans upA) os bare
    obtain ⟨oA, vA, eA, zA, dA⟩ := fly.there
    have notFrame : e ∉ frs (X.env :: X.outer) := fun hm => by
      obtain ⟨_, o', e', noF⟩ := fly.2.2.1.mem hm
      rw [eA] at e'
      cases e'
      exact noF _ dA
    have nLoc : e ≠ X.env.locals := fun z => notFrame (List.mem_filterMap.mpr ⟨X.env, List.mem_cons_self, by rw [fr, z]⟩)
    have nOut : e ∉ X.fs := fun hm => by
      obtain ⟨en, hen, q⟩ := List.mem_filterMap.mp hm
      exact notFrame (List.mem_filterMap.mpr ⟨en, List.mem_cons_of_mem _ hen, q⟩)
    have invS := invA.suite eA dA free nLoc nOut
    have try_all : ∀ {hs' : List ExceptHandler} {l' : List (Value × Suite)}, Clauses X n hs' l' → wAll X.K Wo i D l' cls d σ2 H2 → wpAny (model X.prog X.w) X.A (handleBy (.ref e) X.env hs') (L2.SP X pins D) X.xe { t with heap := hA } := by
      intro hs' l' cl
      induction cl with
      | nil =>
        intro w
        refine wpAny_handleBy_nil ?_
        obtain ⟨_, _, _, oe, vs, tb', oT, tps, he, hz, hd, hv, _⟩ := _root_.id fly
        unfold PySem.passOn
        refine wpAny_bind (wpAny_field he hd hv ?_)
        rw [if_neg (show ¬ ((Value.ref tb' == Value.none) = true) by simp)]
        have on : wpAny (model X.prog X.w) X.A (setFlight (.ref e) X.env.frame) (fun _ u => wpAny (model X.prog X.w) X.A (throw (.ref e) : Sem Flow) (L2.SP X pins D) X.xe u) X.xe { t with heap := hA } := by
          rw [fr]
          refine HandSPX.setFlight_upZ fly fun hC held upC => wpAny_throw (tk _ _ ?_)
          exact ⟨e, B, sB, pins, σ2, H2, cls, d, rfl, invB, nb, (up.trans upA).trans upC, Or.inr (Or.inr (by rw [stk]; exact held)), free, os, bare, w⟩
        first
          | exact wpAny_bind on
          | exact wpAny_bind (wpAny_pure (wpAny_bind on))
      | @cons x c ts st sts p1 p2 hs2 l2 nm su rest ih =>
        intro w
        obtain ⟨yes, hyes, w1, w2⟩ := w
        refine wpAny_handleBy_cons (codeAny_handlers_test ?_) (fun q => by cases q)
        have tyL : PySem.W.Looks (model X.prog X.w) hA (typeOf (.ref e)) cls := fun A Q E s k q => wpAny_typeOf_ref (k _ _ eA) (by rw [zA.1]; exact q)
        have look := PySem.W.exm_one (M := model X.prog X.w) invA.kIn tyL hyes
        have named : ∀ {Q : Value → Shared → Prop} {E : Value → Shared → Prop}, Q c { t with heap := hA } → wpAny (model X.prog X.w) (X.A.mark (some (.ref e))) (eval (.Name x p1) X.env) Q E { t with heap := hA } := fun {Q E} q => by
          obtain ⟨g1, g2, g3 | ⟨g3, g4, g5⟩⟩ := nm
          · exact ld_glob (X := X.suite e ((e, oA) :: (X.pn ++ pins))) invS g1 g3 q g2
          · exact ld_blt (X := X.suite e ((e, oA) :: (X.pn ++ pins))) invS g1 g3 g4 q g5 g2
        refine named (look.here ?_)
        cases yes with
        | false =>
          show wpAny _ X.A (handleBy (.ref e) X.env hs2) _ _ _
          exact ih (w2 rfl)
        | true =>
          refine codeAny_handlers_suite_as ?_
          refine HandSPX.lands_againZ fly fun hD flyD upD => ?_
          have invD : Inv X pins σ2 H2 { t with heap := hD } := invB.landed nb flyD.1 ((up.trans upA).trans upD) os bare
          obtain ⟨oD, vD, eD, zD, dD⟩ := flyD.there
          have invE := invD.suite eD dD free nLoc nOut
          refine store_ok (X := X.suite e ((e, oD) :: (X.pn ++ pins))) (v := .ref e) invE nd at_i isLoc rfl (fun u invU => ?_) (Or.inr lo)
          refine wpAny_mono ((su e oD cls d (X.pn ++ pins) zD ⟨_, dD⟩).run [] u _ H2 _ invU (w1 rfl e free)) (fun f v sp => ?_) (fun _ _ z => z.elim)
          have out : ∀ {σ' : L2.St} {H' : Hp} {Q : Shared → Prop}, Inv (X.suite e ((e, oD) :: (X.pn ++ pins))) [] σ' H' v → (∀ r, Inv X pins (σ'.set i none) H' r → Q r) →
              wpAny (model X.prog X.w) X.A (do bindName X.env n .none; unbindBehindTheSuite X.env n p2) (fun _ r => Q r) X.xe v := fun {σ' H' Q} iv q => gone_ok (iv.unsuite good) nd at_i lo q
          cases f with
          | ret u =>
            obtain ⟨r, σ', H', iv, rv, q⟩ := sp
            exact out iv fun _ J => ⟨_, _, _, J, rv, q⟩
          | next =>
            obtain ⟨σ', H', iv, q⟩ := sp
            exact out iv fun _ J => ⟨_, _, J, q⟩
          | brk =>
            obtain ⟨σ', H', iv, q⟩ := sp
            exact out iv fun _ J => ⟨_, _, J, q⟩
          | cont =>
            obtain ⟨σ', H', iv, q⟩ := sp
            exact out iv fun _ J => ⟨_, _, J, q⟩
    exact try_all cs (w inv2.len)
  · cases fl with
    | ret u =>
      obtain ⟨v, σ', H', iv, rv, q⟩ := sp
      exact ⟨v, σ', H', iv.ofTry good, rv, q⟩
    | next =>
      obtain ⟨σ', H', iv, q⟩ := sp
      exact wpAny_execs_nil ⟨σ', H', iv.ofTry good, q⟩
    | brk =>
      obtain ⟨σ', H', iv, q⟩ := sp
      exact ⟨σ', H', iv.ofTry good, q⟩
    | cont =>
      obtain ⟨σ', H', iv, q⟩ := sp
      exact ⟨σ', H', iv.ofTry good, q⟩
end
end TM
end DL

/-! # heard(lambda: e): what is told, or the exception's name and its value -/
namespace DL
open PySem PySem.Spec PyProof.Rows L2 LamX
section
variable {X : Cx}
/-- e.value, e the exception that the suite holds -/
def tVal (P : Program) (K : PySem.W.Frag) (mg : Str → Option Value) (a : Addr) (cls : Value) (d : Option Addr) (te : TE) : TE := fun σ H Q => te σ H fun x H1 => x = .ref a ∧ ∃ (y : Str) (C R fI dd : Addr) (v : V), cls = .ref C ∧ RX.Txt P K mg y C R fI ∧ d = some dd ∧ H1 dd = some (xdV v) ∧ Q v H1
theorem pe_val {a : Addr} {oe : Obj} {cls : Value} {d : Option Addr} {pn : List (Addr × Obj)} {e : Expr} {te : TE} {pos : Pos} (hz : Zc cls d oe) (hf : ∃ vs, oe.data = .fields vs) (he : PE (X.suite a ((a, oe) :: pn)) e te)
    (hb : attributeBase e "value" X.env (eval e X.env) = eval e X.env := by rfl) :
    PE (X.suite a ((a, oe) :: pn)) (.Attribute e "value" pos) (tVal X.prog X.K X.mg a cls d te) := by
  refine ⟨fun pins s σ H Q I h => ?_⟩
  refine attr_of hb (thn (he.run pins s σ H _ I h) fun u s1 hh => ?_)
  obtain ⟨x, H1, I1, rx, ex, y, C, R, fI, dd, v, ec, T, ed, ea, q⟩ := hh
  subst ex
  obtain rfl : u = Value.ref a := rx
  subst ec
  subst ed
  obtain ⟨ha, _⟩ := I1.pin (a, oe) (List.mem_append_left _ List.mem_cons_self)
  obtain ⟨vs, hd⟩ := hf
  have hx : ObjOk X.prog X.w H1 s1.heap dd (xdV v) := I1.hok dd _ ea
  obtain ⟨mA, hns, hr⟩ := hx
  obtain ⟨od, ho, hl⟩ := lookIn_ns hns
  have l : List.lookup ("value" : Str) [(("value" : Str), v)] = some v := by simp [List.lookup]
  obtain ⟨u, hu, ru⟩ := RelO.some_of (v := v) (o := mA "value") (by rw [← l]; exact hr "value")
  have J : PySem.W.InstAt s1.heap a oe C (some od) := ⟨ha, hz.1, by unfold PySem.W.notCls; rw [hd] <;> rfl, by rw [hz.2]; exact ho⟩
  exact HandSPX.exc_get I1.kIn J T.ga T.gg T.exC (PySem.W.findObj_own T.hdC T.noN rfl (by rw [hl, hu])) (handed_of ru) ⟨v, H1, I1.tok _, ru, q⟩
/-- one clause's suite: return (nm, n.value) -/
def sH (P : Program) (K : PySem.W.Frag) (mg : Str → Option Value) (nm : Str) : TM.Suite := fun e cls d D σ H => σ[1]? = some (some (.ref e)) ∧ ∃ (y : Str) (C R fI dd : Addr) (v : V), cls = .ref C ∧ RX.Txt P K mg y C R fI ∧ d = some dd ∧ H dd = some (xdV v) ∧ ∀ p, H p = none → D.rt (.ref p) (upd H p (.tup [.str nm, v]))
theorem clause {x n nm : Str} {c : Addr} {hs : List ExceptHandler} {l : List (Value × TM.Suite)} {j : Nat} {p1 p2 p3 p4 p5 p6 p7 : Pos} {x1} (hN : X.N[1]? = some n) (hv : Vis X.env.scope n) (hd : (n == ("__debug__" : Str)) = false) (hcd : (n == ("__classdict__" : Str)) = false) (nmx : Names X x (.ref c)) (rest : TM.Clauses X n hs l) :
    TM.Clauses X n (.ExceptHandler (some (.Name x p1)) (some n) [.Return (some (.Tuple [.Constant (.str nm) j p2, .Attribute (.Name n p3) "value" p4] x1 p5)) p6] p7 :: hs) ((.ref c, sH X.prog X.K X.mg nm) :: l) := by
  refine .cons nmx (fun e oe cls d pn hz hf => ?_) rest
  refine pss_imp (pss_one (ps_ret (pe_tup (pa_cons pe_str (pa_cons (pe_val hz hf (pe_var (pos := p3) (i := 1) hN hv hd hcd)) pa_nil))))) fun D σ H q => ?_
  obtain ⟨h1, y, C, R, fI, dd, v, ec, T, ed, hx, k⟩ := q
  exact ⟨_, h1, rfl, y, C, R, fI, dd, v, ec, T, ed, hx, (by show 2 ≤ sizeLine; decide), k⟩
/-- what heard wishes of an exception -/
def EH (P : Program) (K : PySem.W.Frag) (mg : Str → Option Value) (Q : VK) : List (Addr × Str) → XK
  | [] => fun _ _ _ => False
  | (c, nm) :: r => fun cls d H => ∃ yes, PySem.W.exmOne K cls (.ref c) = some yes ∧ (yes = true → ∃ (y : Str) (C R fI dd : Addr) (v : V), cls = .ref C ∧ RX.Txt P K mg y C R fI ∧ d = some dd ∧ H dd = some (xdV v) ∧ ∀ p, H p = none → Q (.ref p) (upd H p (.tup [.str nm, v]))) ∧ (yes = false → EH P K mg Q r cls d H)
def TH (P : Program) (K : PySem.W.Frag) (mg : Str → Option Value) (l : List (Addr × Str)) : (XK → Hp → VK → Prop) → Hp → VK → Prop := fun tl H Q => tl (EH P K mg Q l) H fun v H' => [V.str "told", v].length ≤ sizeLine ∧ ∀ p, H' p = none → Q (.ref p) (upd H' p (.tup [.str "told", v]))
theorem wAll_of {P : Program} {K : PySem.W.Frag} {mg : Str → Option Value} {D : Ends} : ∀ (l : List (Addr × Str)) {cls : Value} {d : Option Addr} {σ : L2.St} {H : Hp}, 1 < σ.length → EH P K mg D.rt l cls d H → TM.wAll K (fun _ _ _ _ => False) 1 D (l.map fun p => (.ref p.1, sH P K mg p.2)) cls d σ H
  | [], _, _, _, _, _, h => h
  | (c, nm) :: r, cls, d, σ, H, hl, ⟨yes, h1, h2, h3⟩ => ⟨yes, h1, fun e a _ => ⟨by rw [List.getElem?_set_self hl], h2 e⟩, fun e => wAll_of r hl (h3 e)⟩
theorem heard_gives {Ng : List Str} {x a n q : Str} {sg : Scope} {g : Addr} {cdg : Value} {j : Nat} {p1 p2 p3 p4 p5 p6 : Pos} {x1} {h1 : ExceptHandler} {hs : List ExceptHandler} {l : List (Addr × Str)} (nd : Ng.Nodup) (hN : Ng[1]? = some n) (lo : sg.names.lookup n = some .local) (hlen : Ng.length = 2)
    (cs : ∀ (s : Shared) (H : Hp), TM.Clauses (cxOf C8.CX0 X.prog X.w X.K X.mg X.base Ng x sg g cdg X.A X.stack s H C8.E0).nox n (h1 :: hs) (l.map fun p => (.ref p.1, sH X.prog X.K X.mg p.2))) :
    GivesTo X Ng x sg g cdg [.Try [.Return (some (.Tuple [.Constant (.str "told") j p1, .Call (.Name a p2) [] [] p3] x1 p4)) p5] (h1 :: hs) [] [] p6] a q (TH X.prog X.K X.mg l) := by
  intro f c' s H Q tl act hc h
  have h0 : (L2.start Ng [V.ref f])[0]? = some (some (V.ref f)) := rfl
  have hl : (L2.start Ng [V.ref f]).length = 2 := by
    unfold L2.start
    rw [List.length_append, List.length_map, List.length_replicate, hlen]
    rfl
  refine ⟨_, pss_one (TM.ps_try (X := (cxOf C8.CX0 X.prog X.w X.K X.mg X.base Ng x sg g cdg X.A X.stack s H C8.E0).nox) (i := 1) (Wo := fun _ _ _ _ => False)
      (tb := fun W D σ H => ∃ Ech : XK, (∀ cls d σ' H', Ech cls d H' → W cls d σ' H') ∧ σ[0]? = some (some (.ref f)) ∧ H c' = some (CodeO c' q) ∧ tl Ech H fun v H' => [V.str "told", v].length ≤ sizeLine ∧ ∀ p, H' p = none → D.rt (.ref p) (upd H' p (.tup [.str "told", v])))
      rfl rfl nd hN lo L2.takes0 (fun W pn xe tk _ => ?_) (cs s H)), ?_⟩
  · refine ⟨fun pins s' σ H' D I h' => ?_⟩
    obtain ⟨Ech, hW, e1, e2, e3⟩ := h'
    have hp := act W pn xe Ech p2 p3 tk hW
    refine (pss_one (ps_ret (pos := p5) (pe_tup (x1 := x1) (pos := p4) (pa_cons (pe_str (j := j)) (pa_cons hp pa_nil))))).run pins s' σ H' D I ?_
    exact ⟨e1, e2, e3⟩
  · refine ⟨EH X.prog X.K X.mg Q l, fun cls d σ' H' hE hn => wAll_of l (by rw [hn]; show 1 < Ng.length; rw [hlen]; decide) hE, h0, hc, h⟩

/-- the state behind the making of a lambda -/
theorem Good.lam {K : PySem.W.Frag} {C : Ct} {j : Addr} {H H1 G : Hp} {s : Jr} (hJ : ∀ s ps, C.jo s ≠ .tbl ps) (g : Good K C j H G s) (e : ExtN H H1) (t : Tabs C.T H1) : Step K C j H G s H1 G := by
  have ej : H1 j = some (C.jo s) := e _ _ g.hj fun ps => hJ s ps
  refine ⟨fun a o h1 _ h3 => e a o h1 fun ps z => h3 ⟨ps, z⟩, ⟨fun a o h => e a o (g.le a o h) fun ps z => g.nt a o h ⟨ps, z⟩, g.gj, ej, t, g.nt⟩, Le.refl G, Gro.refl H G⟩
/-- which clause takes the exception c -/
def Sel (K : PySem.W.Frag) (cls : Value) : List (Addr × Str) → Str → Prop
  | [], _ => False
  | (a, n) :: r, nm => ∃ yes, PySem.W.exmOne K cls (.ref a) = some yes ∧ (yes = true → n = nm) ∧ (yes = false → Sel K cls r nm)
def heardS (sel : Nat → Option Str) (A : Sm D) : Sm D := fun ρ s => match A ρ s with
  | .ok d s' => .ok (.tup [.str "told", d]) s'
  | .exc c d s' => match sel c with
    | some nm => .ok (.tup [.str nm, d]) s'
    | none => .bad
  | .bad => .bad
theorem eh_of {P : Program} {K : PySem.W.Frag} {mg : Str → Option Value} {Q : VK} {C dd : Addr} {v : V} {H : Hp} {nm : Str} (T : ∃ y R fI, RX.Txt P K mg y C R fI) (hx : H dd = some (xdV v)) (k : ∀ p, H p = none → Q (.ref p) (upd H p (.tup [.str nm, v]))) :
    ∀ (l : List (Addr × Str)), Sel K (.ref C) l nm → EH P K mg Q l (.ref C) (some dd) H
  | [], h => h.elim
  | (a, n) :: r, ⟨yes, h1, h2, h3⟩ => ⟨yes, h1, fun e => by
      obtain ⟨y, R, fI, T⟩ := T
      have := h2 e
      subst this
      exact ⟨y, C, R, fI, dd, v, rfl, T, rfl, hx, k⟩, fun e => eh_of T hx k r (h3 e)⟩
/-- heard(lambda: e) -/
theorem de_heard {Ct' : Ct} {W : WX} {A : Sm D} {sel : Nat → Option Str} {l : List (Addr × Str)} {x a : Str} {g c P : Addr} {k : Nat} {pg : Arguments} {bg : List Stmt} {sg : Scope} {dV kV doc pm cdv ct oc : Value} {an od : Option Addr} {osl : Array (Option Value)} {Ng : List Str}
    {params : Arguments} {body : Expr} {scope : Scope} {p lpos pos : Pos} (hJ : ∀ s ps, Ct'.jo s ≠ .tbl ps) (hsel : ∀ c nm, sel c = some nm → Sel X.K (.ref (Ct'.cl c)) l nm ∧ ∃ y R fI, RX.Txt X.prog X.K X.mg y (Ct'.cl c) R fI) (hg : Gl X x) (hm : X.mg x = some (.ref g)) (hk : PySem.W.keepIn X.K (.ref g) = true)
    (lk : X.K.lookup g = some ⟨oc, od, .func (PySem.W.fnOf x x pg bg sg dV kV doc pm an cdv ct), osl⟩) (hcg : PySem.W.codeIn X.K cdv x = true) (hb : L2.Binds X.K (PySem.W.fnOf x x pg bg sg dV kV doc pm an cdv ct) [a] []) (Sg : FnScope Ng [a] sg) (hNg : Ng[0]? = some a) (hva : Vis sg a)
    (hG : GivesTo X Ng x sg g cdv bg a (X.env.qual ++ "<lambda>") (TH X.prog X.K X.mg l))
    (TB : TabB X.base X.mg c P) (hcode : X.env.code = .ref c) (hmT : (P, X.env.qual ++ "<lambda>") ∈ Ct'.T) (hu : ∀ p ∈ Ct'.T, p.1 = P → p.2 = X.env.qual ++ "<lambda>") (hr : Room (k + 2) X.A) (L : LamS X.env.scope scope) (hdef : defaultsOf params X.env = ([], []))
    (hbind : ∀ (q : Str) (cl : List (Str × Addr)) (pm cv ctv : Value), bindArgs (PySem.W.kla_fn "<lambda>" q params body scope cl pm cv ctv) ⟨[], []⟩ = pure [])
    (hbody : ∀ (A' : Around) (outer : List Env) (s : Shared) (H : Hp) (E : XK) (f c' : Addr), Room k (A'.deeper (lamEnv X scope s.heap.objs.size f c')) → Takes (lamCx X A' outer s H E scope f c') (fun cls d _ H => E cls d H) → PE (lamCx X A' outer s H E scope f c') body (tE X.K Ct' (fun cls d _ H => E cls d H) A))
    (hdb : (x == ("__debug__" : Str)) = false := by decide) (hd : (a == ("__debug__" : Str)) = false := by decide) (hcd : (a == ("__classdict__" : Str)) = false := by decide) :
    PE X (.Call (.Name x p) [.Lambda params body scope lpos] [] pos) (tE X.K Ct' W (heardS sel A)) := by
  refine pe_imp (pe_lamcall (T := Ct'.T) (t := fun E => tE X.K Ct' (fun cls d _ H => E cls d H) A) hg hm hk lk hcg hb Sg hNg hva hG TB hcode hmT hu hr L hdef hbind (fun A' outer s H E f c' hr2 => hbody A' outer s H E f c' hr2 (takes_of rfl rfl rfl rfl)) hdb hd hcd) fun σ H Q h => ?_
  obtain ⟨j, H0, G, ρ, s, n, f⟩ := inE h
  refine ⟨n.g.tb, fun H1 eN t1 => ?_⟩
  have st := n.g.lam hJ eN t1
  have n1 := n.step st
  refine ⟨j, H0, G, ρ, s, n1.g, n1.en, ?_⟩
  unfold heardS at f
  cases e : A ρ s with
  | ok d s' =>
    rw [e] at f
    intro v H' G' st2 dv
    refine ⟨by show 2 ≤ sizeLine; decide, fun p hp => ?_⟩
    have st3 := st2.ok.new (o := .tup [.str "told", v]) hp not_tbl_tup
    exact f (.ref p) _ _ ((st.trans st2).trans st3) ⟨p, _, rfl, .inl (.inl upd_same), _, _, rfl, rfl, _, _, rfl, dv.mono st3.le, rfl⟩
  | exc c d s' =>
    rw [e] at f
    intro v dd H' G' st2 dv hx
    cases es : sel c with
    | none =>
      have f' : Fin' X.K Ct' j H G W σ (match sel c with
        | some nm => Res.ok (D.tup [.str nm, d]) s'
        | none => Res.bad) _ := f
      rw [es] at f'
      exact f'.elim
    | some nm =>
      have f' : Fin' X.K Ct' j H G W σ (match sel c with
        | some nm => Res.ok (D.tup [.str nm, d]) s'
        | none => Res.bad) _ := f
      rw [es] at f'
      obtain ⟨h1, h2⟩ := hsel c nm es
      refine eh_of h2 hx (fun p hp => ?_) l h1
      have st3 := st2.ok.new (o := .tup [.str nm, v]) hp not_tbl_tup
      exact f' (.ref p) _ _ ((st.trans st2).trans st3) ⟨p, _, rfl, .inl (.inl upd_same), _, _, rfl, rfl, _, _, rfl, dv.mono st3.le, rfl⟩
  | bad =>
    rw [e] at f
    exact f.elim
end
end DL

/-! # words: one for each construct -/
namespace DL
open PySem PySem.Spec PyProof.Rows L2
section
variable {X : Cx} {C : Ct} {W : WX} {e a b c o it : Expr} {es : List Expr} {A B Z : Sm D} {L : Sm (List D)} {T U : Sm Bool} {F F' : Ss} {pos p p1 p2 : Pos} {x : Str}
/-! ## the jar -/
theorem at_map {ns : List Int} {i z : Int} (h : atI ns i = some z) : atI (ns.map V.int) i = some (.int z) := by
  obtain ⟨k, h1, h2⟩ := at_get h
  unfold atI
  rw [List.length_map, h1]
  show (ns.map V.int)[k]? = _
  rw [List.getElem?_map, h2]
  rfl
/-- a[b], a the jar, the script, a list, a tuple, a text -/
def ixJ (jl : Jr → List Int) (s : Jr) (x y : D) : Option D := match x with
  | .jar => (int? y).bind fun i => (atI (jl s) i).map .int
  | .scr ns => (int? y).bind fun i => (atI ns i).map .int
  | x => ixD x y
def ixS (jl : Jr → List Int) (A B : Sm D) : Sm D := A.bind fun x => B.bind fun y => fun ρ s => Sm.ofO (ixJ jl s x y) ρ s
theorem de_ixJ (ha : PE X a (tE X.K C W A)) (hb : PE X b (tE X.K C W B)) (hs : PlainIx b := by exact fun _ _ => rfl) : PE X (.Subscript a b pos) (tE X.K C W (ixS C.jl A B)) := pe_imp (pe_ix ix_seq ha hb hs) fun σ H Q h => by
  obtain ⟨j, H0, G, ρ, s, n, f⟩ := inE h
  refine goE n (fin_bind f) fun d s1 x H1 G1 p st n1 dx => ?_
  refine goE n1 (fin_bind (Fin'.step st p)) fun d2 s2 y H2 G2 p st2 n2 dy => ?_
  obtain ⟨z, hz, p⟩ := fin_ofO (Fin'.step st2 p)
  have dx2 := dx.mono st2.le
  have gen : ixD d d2 = some z → rIx X.K x y H2 Q := fun e => sn_ix j H2 G2 s2 x y d d2 z n2.g dx2 dy e Q fun v H' G' st3 dv => p v H' G' ((st.trans st2).trans st3) dv
  cases d with
  | jar =>
    obtain ⟨i, h1, h2⟩ := Option.bind_eq_some_iff.mp (show (int? d2).bind (fun i => (atI (C.jl s2) i).map .int) = some z from hz)
    obtain ⟨t, h3, h4⟩ := Option.map_eq_some_iff.mp h2
    have e2 := int_some h1
    subst e2
    subst h4
    have hj := n2.g.hj
    rw [C.jlo s2 (fun h => by rw [h] at h3; obtain ⟨k, _, h2⟩ := at_get h3; simp at h2)] at hj
    exact .inl ⟨j, _, i, .int t, dx2, dy, .inl (.inl hj), at_map h3, p _ H2 G2 (st.trans st2) rfl⟩
  | scr ns =>
    obtain ⟨i, h1, h2⟩ := Option.bind_eq_some_iff.mp (show (int? d2).bind (fun i => (atI ns i).map .int) = some z from hz)
    obtain ⟨t, h3, h4⟩ := Option.map_eq_some_iff.mp h2
    have e2 := int_some h1
    subst e2
    subst h4
    obtain ⟨q, rfl, hq⟩ := dx2
    exact .inl ⟨q, _, i, .int t, rfl, dy, sqL_le n2.g.le hq, at_map h3, p _ H2 G2 (st.trans st2) rfl⟩
  | _ => exact gen hz
/-- jar[k] = e -/
def jar? : D → Option Unit
  | .jar => some ()
  | _ => none
theorem jar_some {d : D} {u : Unit} (h : jar? d = some u) : d = .jar := by
  cases d <;> simp [jar?] at h
  rfl
def setJ (jl : Jr → List Int) (js : Jr → Nat → Int → Option Jr) (O I A : Sm D) : Ss := thenS A fun d => thenS O fun o => thenS I fun i => optS (jar? o) fun _ => optS (int? i) fun i => optS (int? d) fun z => fun ρ s => match (ixN (jl s).length i).bind fun k => js s k z with
  | some s' => .nx ρ s'
  | none => .bad
theorem goS {K : PySem.W.Frag} {j : Addr} {H0 G0 H G : Hp} {σ : St} {ρ : En} {s : Jr} {k : D → Ss} {D' : Ends} {Q : VK} (n : Now K C j H0 σ H G ρ s) (m : Mv j H0 G0 H G) (f : FinS K C j H0 G0 W D' (thenS A k ρ s))
    (kk : ∀ d s' v H' G', Step K C j H G s' H' G' → Now K C j H0 σ H' G' ρ s' → Mv j H0 G0 H' G' → Dv K C j G' d v → FinS K C j H0 G0 W D' (k d ρ s') → Q v H') : tE K C W A σ H Q := by
  refine ⟨j, H0, G, ρ, s, n.g, n.en, ?_⟩
  unfold thenS at f
  cases e : A ρ s with
  | ok d s' => rw [e] at f; exact fun v H' G' st dv => kk d s' v H' G' st (n.step st) (m.step st) dv f
  | exc c d s' => rw [e] at f; exact upS m f
  | bad => rw [e] at f; exact f
theorem ds_setJ {i : Expr} {O I : Sm D} {tpos : Pos} (he : PE X e (tE X.K C W A)) (ho : PE X o (tE X.K C W O)) (hi : PE X i (tE X.K C W I))
    (hs : swapsWithSole [.Subscript o i tpos] e pos.line X.env = pure false := by rfl) (hw : swappedStores [.Subscript o i tpos] e X.env = pure none := by rfl) (h1 : (assignEach [.Subscript o i tpos] X.env).map (·.2) = [assign (.Subscript o i tpos) X.env] := by rfl)
    (ha : ∀ v, assign (.Subscript o i tpos) X.env v = (do
      let ov ← holding [v] (eval o X.env)
      let iv ← holding [v, ov] (eval i X.env)
      standAt tpos
      holding [v, ov, iv] (setItem ov iv v)
      release [v, ov, iv] []) := by intro _; rfl) : PS X (.Assign [.Subscript o i tpos] e pos) (tS X.K C W (setJ C.jl C.js O I A)) :=
  ps_imp (ps_asg he (pg_sub ho hi set_list ha) hs hw h1) fun D' σ H q => by
    obtain ⟨j, H0, G0, G, ρ, s, n, m, f⟩ := inS q
    refine goS n m f fun d s1 v H1 G1 st n1 m1 dv f => ?_
    refine goS n1 m1 f fun od s2 ov H2 G2 st2 n2 m2 dov f => ?_
    refine goS n2 m2 f fun id s3 iv H3 G3 st3 n3 m3 div f => ?_
    obtain ⟨_, h1, f⟩ := fin_optS f
    obtain ⟨i, h2, f⟩ := fin_optS f
    obtain ⟨z, h3, f⟩ := fin_optS f
    have e1 := jar_some h1
    have e2 := int_some h2
    have e3 := int_some h3
    subst e1
    subst e2
    subst e3
    have f' : FinS X.K C j H0 G0 W D' (match (ixN (C.jl s3).length i).bind fun k => C.js s3 k z with
      | some s' => Out.nx ρ s'
      | none => .bad) := f
    cases e4 : (ixN (C.jl s3).length i).bind fun k => C.js s3 k z with
    | none => rw [e4] at f'; exact f'.elim
    | some s4 =>
      rw [e4] at f'
      obtain ⟨k, e5, e6⟩ := Option.bind_eq_some_iff.mp e4
      obtain ⟨h3, h4⟩ := C.hjs s3 k z s4 e6
      have hj := n3.g.hj
      rw [h3] at hj
      have em : ((C.jl s3).map V.int).set k (V.int z) = ((C.jl s3).set k z).map V.int := by rw [List.map_set]
      refine ⟨j, _, i, k, dov, div, hj, by rw [List.length_map]; exact e5, ?_⟩
      rw [show v = .int z from dv, em, ← h4]
      have g4 : Good X.K C j (upd H3 j (C.jo s4)) G3 s4 := by
        refine ⟨fun a o h => by rw [upd_ne (fun z => by rw [z, n3.g.gj] at h; cases h)]; exact n3.g.le a o h, n3.g.gj, upd_same, ?_, n3.g.nt⟩
        intro q hq
        obtain ⟨ps, a1, a2, a3⟩ := n3.g.tb q hq
        refine ⟨ps, by rw [upd_ne (fun z => by rw [z, hj] at a1; cases a1)]; exact a1, a2, fun pos cv hc => ?_⟩
        obtain ⟨c, b1, b2⟩ := a3 pos cv hc
        exact ⟨c, b1, by rw [upd_ne (fun z => by rw [z, hj] at b2; unfold LamX.CodeO at b2; cases b2)]; exact b2⟩
      have st4 : Step X.K C j H3 G3 s4 (upd H3 j (C.jo s4)) G3 := ⟨fun a o h na _ => by rw [upd_ne na]; exact h, g4, Le.refl _, Gro.refl _ _⟩
      exact f' σ _ _ (n3.step st4) (m3.step st4)
end
end DL

namespace DL
open PySem PySem.Spec PyProof.Rows L2
section
variable {X : Cx} {C : Ct} {W : WX} {e a b c o it elt : Expr} {es ifs : List Expr} {A B Z I : Sm D} {L : Sm (List D)} {T U : Sm Bool} {F F' : Ss} {pos p p1 p2 : Pos} {x : Str} {i : Nat}
/-! ## globals -/
theorem de_gi {n : Int} (hg : Gl X x) (hm : ∃ t, X.mg x = some (.int n t)) (hd : (x == ("__debug__" : Str)) = false := by decide) : PE X (.Name x pos) (tE X.K C W (cS (.int n))) := by
  obtain ⟨t, hm⟩ := hm
  exact de_c (pe_glob (v := .int n) hg hm ⟨t, rfl⟩ hd) fun _ _ => rfl
theorem de_gs {n : Str} (hg : Gl X x) (hm : ∃ t, X.mg x = some (.str n t)) (hd : (x == ("__debug__" : Str)) = false := by decide) : PE X (.Name x pos) (tE X.K C W (cS (.str n))) := by
  obtain ⟨t, hm⟩ := hm
  exact de_c (pe_glob (v := .str n) hg hm ⟨t, rfl⟩ hd) fun _ _ => rfl
theorem de_ty {n : String} (hv : bootBuiltins x = some (.type n)) (hg : Gl X x) (hm : X.mg x = none) (hn : x ≠ "__name__" := by decide) (hd : (x == ("__debug__" : Str)) = false := by decide) : PE X (.Name x pos) (tE X.K C W (cS (.ty n))) :=
  de_c (pe_bltn (v := .ty n) hg hm hv rfl hn hd) fun _ _ => rfl
/-! ## built-ins called -/
theorem w_len (hg : Gl X "len") (hm : X.mg "len" = none) (ha : PA X (e :: es) (tA X.K C W L)) (he : starEach (e :: es) X.env = (false, eval e X.env) :: starEach es X.env := by rfl) (hpl : (backTo pos (starEach es X.env)).any (·.1) = false := by rfl) : PE X (.Call (.Name "len" p) (e :: es) [] pos) (tE X.K C W (cbS lenC L)) :=
  de_cb (pe_callB call_len hg hm PyProof.Rows.Boot.«len» ha (by decide) (by decide) he hpl) sn_len
theorem w_int (hg : Gl X "int") (hm : X.mg "int" = none) (ha : PA X (e :: es) (tA X.K C W L)) (he : starEach (e :: es) X.env = (false, eval e X.env) :: starEach es X.env := by rfl) (hpl : (backTo pos (starEach es X.env)).any (·.1) = false := by rfl) : PE X (.Call (.Name "int" p) (e :: es) [] pos) (tE X.K C W (cbS intC L)) :=
  de_cb (pe_callTy call_intA hg hm PyProof.Rows.Boot.«int» ha (by decide) (by decide) he hpl) sn_int
theorem w_str (hg : Gl X "str") (hm : X.mg "str" = none) (ha : PA X (e :: es) (tA X.K C W L)) (he : starEach (e :: es) X.env = (false, eval e X.env) :: starEach es X.env := by rfl) (hpl : (backTo pos (starEach es X.env)).any (·.1) = false := by rfl) : PE X (.Call (.Name "str" p) (e :: es) [] pos) (tE X.K C W (cbS strC L)) :=
  de_cb (pe_callTy call_str_int hg hm PyProof.Rows.Boot.«str» ha (by decide) (by decide) he hpl) sn_str
theorem w_bool (hg : Gl X "bool") (hm : X.mg "bool" = none) (ha : PA X (e :: es) (tA X.K C W L)) (he : starEach (e :: es) X.env = (false, eval e X.env) :: starEach es X.env := by rfl) (hpl : (backTo pos (starEach es X.env)).any (·.1) = false := by rfl) : PE X (.Call (.Name "bool" p) (e :: es) [] pos) (tE X.K C W (cbS boolC L)) :=
  de_cb (pe_callTy call_bool1 hg hm PyProof.Rows.Boot.«bool» ha (by decide) (by decide) he hpl) sn_bool
theorem w_abs (hg : Gl X "abs") (hm : X.mg "abs" = none) (ha : PA X (e :: es) (tA X.K C W L)) (he : starEach (e :: es) X.env = (false, eval e X.env) :: starEach es X.env := by rfl) (hpl : (backTo pos (starEach es X.env)).any (·.1) = false := by rfl) : PE X (.Call (.Name "abs" p) (e :: es) [] pos) (tE X.K C W (cbS absC L)) :=
  de_cb (pe_callB call_abs hg hm PyProof.Rows.Boot.«abs» ha (by decide) (by decide) he hpl) sn_abs
theorem w_max (hc : X.calm = true) (hg : Gl X "max") (hm : X.mg "max" = none) (ha : PA X (e :: es) (tA X.K C W L)) (he : starEach (e :: es) X.env = (false, eval e X.env) :: starEach es X.env := by rfl) (hpl : (backTo pos (starEach es X.env)).any (·.1) = false := by rfl) : PE X (.Call (.Name "max" p) (e :: es) [] pos) (tE X.K C W (cbS maxC L)) :=
  de_cb (pe_callB (call_max2 hc) hg hm PyProof.Rows.Boot.«max» ha (by decide) (by decide) he hpl) sn_max
theorem w_min (hc : X.calm = true) (hg : Gl X "min") (hm : X.mg "min" = none) (ha : PA X (e :: es) (tA X.K C W L)) (he : starEach (e :: es) X.env = (false, eval e X.env) :: starEach es X.env := by rfl) (hpl : (backTo pos (starEach es X.env)).any (·.1) = false := by rfl) : PE X (.Call (.Name "min" p) (e :: es) [] pos) (tE X.K C W (cbS minC L)) :=
  de_cb (pe_callB (call_min2 hc) hg hm PyProof.Rows.Boot.«min» ha (by decide) (by decide) he hpl) sn_min
theorem w_all (hc : X.calm = true) (hg : Gl X "all") (hm : X.mg "all" = none) (ha : PA X (e :: es) (tA X.K C W L)) (he : starEach (e :: es) X.env = (false, eval e X.env) :: starEach es X.env := by rfl) (hpl : (backTo pos (starEach es X.env)).any (·.1) = false := by rfl) : PE X (.Call (.Name "all" p) (e :: es) [] pos) (tE X.K C W (cbS allC L)) :=
  de_cb (pe_callB (cr_all hc) hg hm PyProof.Rows.Boot.«all» ha (by decide) (by decide) he hpl) sn_all
theorem w_any (hc : X.calm = true) (hg : Gl X "any") (hm : X.mg "any" = none) (ha : PA X (e :: es) (tA X.K C W L)) (he : starEach (e :: es) X.env = (false, eval e X.env) :: starEach es X.env := by rfl) (hpl : (backTo pos (starEach es X.env)).any (·.1) = false := by rfl) : PE X (.Call (.Name "any" p) (e :: es) [] pos) (tE X.K C W (cbS anyC L)) :=
  de_cb (pe_callB (cr_any hc) hg hm PyProof.Rows.Boot.«any» ha (by decide) (by decide) he hpl) sn_any
theorem w_isi (hg : Gl X "isinstance") (hm : X.mg "isinstance" = none) (ha : PA X (e :: es) (tA X.K C W L)) (he : starEach (e :: es) X.env = (false, eval e X.env) :: starEach es X.env := by rfl) (hpl : (backTo pos (starEach es X.env)).any (·.1) = false := by rfl) : PE X (.Call (.Name "isinstance" p) (e :: es) [] pos) (tE X.K C W (cbS isiC L)) :=
  de_cb (pe_callB call_isi hg hm PyProof.Rows.Boot.«isinstance» ha (by decide) (by decide) he hpl) sn_isi
/-- list(a text) -/
theorem w_list (hc : X.calm = true) (hg : Gl X "list") (hm : X.mg "list" = none) (ha : PA X (e :: es) (tA X.K C W L)) (he : starEach (e :: es) X.env = (false, eval e X.env) :: starEach es X.env := by rfl) (hpl : (backTo pos (starEach es X.env)).any (·.1) = false := by rfl) : PE X (.Call (.Name "list" p) (e :: es) [] pos) (tL X.K C W (cbL listC L)) :=
  dl_cb (pe_callTy (call_listS hc) hg hm PyProof.Rows.Boot.«list» ha (by decide) (by decide) he hpl) sn_list
/-! ## == of all -/
def eqX (d e : D) : Option D := match eqD false d e with
  | some z => some z
  | none => eqDic d e
def rEqX (K : PySem.W.Frag) : R2 := fun x y H Q => rEqA K x y H Q ∨ rEqD x y H Q
theorem opEqX {k : Nat} (hr : Room k X.A) : OpR X (compareOp .Eq) (rEqX X.K) := OpR.or (opEq hr.units) (op_eq_dict hr.units0)
theorem opNeX {k : Nat} (hr : Room k X.A) : OpR X (compareOp .NotEq) (rNeA X.K) := opNe hr.units
theorem sn_eqX {K : PySem.W.Frag} : Snd2 K C (rEqX K) eqX := fun j H G s x y d e z g dx dy hz Q k => by
  unfold eqX at hz
  cases h : eqD false d e with
  | some w =>
    rw [h] at hz
    cases hz
    exact .inl (sn_eq j H G s x y d e _ g dx dy h Q k)
  | none =>
    rw [h] at hz
    exact .inr (sn_eqDic j H G s x y d e _ g dx dy hz Q k)
/-! ## methods of one's own list -/
theorem w_app {apos cpos : Pos} (ho : PE X o (tVar i)) (ha : PA X (e :: es) (tA X.K C W L)) (hbase : attributeBase o "append" X.env (eval o X.env) = eval o X.env := by rfl)
    (hfew : ((backTo cpos (starEach (e :: es) X.env)).all (fun x => !x.1) && (backToKw cpos (keywordEach [] X.env)).all (fun x => x.1.isSome)
      && decide ((e :: es).length + ([] : List Keyword).length + (if ([] : List Keyword).isEmpty then 0 else 1) < 30)) = true := by rfl)
    (hline : (apos.endLine == cpos.line) = true := by rfl) (hs : starEach (e :: es) X.env = (false, eval e X.env) :: starEach es X.env := by rfl) (hplain : (backTo cpos (starEach es X.env)).any (·.1) = false := by rfl)
    (hsw : swapsWith (.Call (.Attribute o "append" apos) (e :: es) [] cpos) none pos.line X.env = pure false := by rfl) : PS X (.Expr (.Call (.Attribute o "append" apos) (e :: es) [] cpos) pos) (tS X.K C W (appS i L)) :=
  ds_app (pe_bm PySem.F.plainAttrs_list PySem.F.slot_list_append PySem.F.type_list_append mt_append ho ha hbase hfew hline hs hplain) hsw
theorem w_ext {apos cpos : Pos} (ho : PE X o (tVar i)) (ha : PA X (e :: es) (tA X.K C W L)) (hbase : attributeBase o "extend" X.env (eval o X.env) = eval o X.env := by rfl)
    (hfew : ((backTo cpos (starEach (e :: es) X.env)).all (fun x => !x.1) && (backToKw cpos (keywordEach [] X.env)).all (fun x => x.1.isSome)
      && decide ((e :: es).length + ([] : List Keyword).length + (if ([] : List Keyword).isEmpty then 0 else 1) < 30)) = true := by rfl)
    (hline : (apos.endLine == cpos.line) = true := by rfl) (hs : starEach (e :: es) X.env = (false, eval e X.env) :: starEach es X.env := by rfl) (hplain : (backTo cpos (starEach es X.env)).any (·.1) = false := by rfl)
    (hsw : swapsWith (.Call (.Attribute o "extend" apos) (e :: es) [] cpos) none pos.line X.env = pure false := by rfl) : PS X (.Expr (.Call (.Attribute o "extend" apos) (e :: es) [] cpos) pos) (tS X.K C W (extS i L)) :=
  ds_ext (pe_bm PySem.F.plainAttrs_list PySem.F.slot_list_extend PySem.F.type_list_extend mt_extend ho ha hbase hfew hline hs hplain) hsw
/-! ## comprehensions -/
theorem dts_nil : PTs X [] (tT X.K C W yesS) := ⟨fun pins s σ H Q I h => pts_nil.run pins s σ H Q I (by
  obtain ⟨j, H0, G, ρ, s0, n, f⟩ := inT h
  exact f H G (Step.refl n.g))⟩
theorem dts_one (h : PT X c (tT X.K C W T)) : PTs X [c] (tT X.K C W T) := pts_one h
variable {scope : Scope}
def lcLS (i : Nat) (T : Sm Bool) (A I : Sm D) : Sm (List D) := lcS i T A (I.bind fun d => Sm.ofO (lst? d))
def lcTS (i : Nat) (T : Sm Bool) (A I : Sm D) : Sm (List D) := lcS i T A (I.bind fun d => Sm.ofO (tup? d))
def lcZS (i : Nat) (T : Sm Bool) (A I : Sm D) : Sm (List D) := lcS i T A (I.bind fun d => Sm.ofO ((str? d).map signs))
def lcRS (i : Nat) (T : Sm Bool) (A : Sm D) (R : Sm (List D)) : Sm (List D) := lcS i T A (R.bind fun ds => (Sm.ofO ((one? ds).bind int?)).bind fun n => (Sm.ofO (guardO (0 ≤ n ∧ n ≤ 1000000))).map fun _ => rngD n)
theorem w_lcL (hc : X.calm = true) (hN : X.N.Nodup) (hi : X.N[i]? = some x) (ok : BlkOk X.N X.env.scope scope [(x, i)]) (hx : ∀ (s : Shared) (H : Hp) (D : Addr) (cl : List (Str × Addr)) (fp : List Addr), Loc (X.blk s H scope (compEnvC scope cl D X.env) fp).env.scope x) (hit : PE X it (tE X.K C W I))
    (hf : ∀ (s : Shared) (H : Hp) (D : Addr) (cl : List (Str × Addr)) (fp : List Addr), (X.blk s H scope (compEnvC scope cl D X.env) fp).fn x = true ∨ (X.blk s H scope (compEnvC scope cl D X.env) fp).env.scope.names.lookup x = some .local)
    (ht : ∀ (s : Shared) (H : Hp) (D : Addr) (cl : List (Str × Addr)) (fp : List Addr), PTs (X.blk s H scope (compEnvC scope cl D X.env) fp) ifs (tT X.K C W0 T))
    (he : ∀ (s : Shared) (H : Hp) (D : Addr) (cl : List (Str × Addr)) (fp : List Addr), PE (X.blk s H scope (compEnvC scope cl D X.env) fp) elt (tE X.K C W0 A)) (hs : ∀ x, foldedSetIterable it X.env x = pure x := by intro _; rfl) :
    PE X (.ListComp elt [⟨.Name x p, it, ifs, 0⟩] scope pos) (tL X.K C W (lcLS i T A I)) :=
  pe_imp (pe_lc (own := [(x, i)]) hc hN (pi_list hit) ok (fun s H D cl fp => pg_name (X := X.blk s H scope (compEnvC scope cl D X.env) fp) hN hi (hx s H D cl fp) (hf s H D cl fp)) ht he hs) fun _ _ _ => tL_lcL
theorem w_lcZ (hc : X.calm = true) (hN : X.N.Nodup) (hi : X.N[i]? = some x) (ok : BlkOk X.N X.env.scope scope [(x, i)]) (hx : ∀ (s : Shared) (H : Hp) (D : Addr) (cl : List (Str × Addr)) (fp : List Addr), Loc (X.blk s H scope (compEnvC scope cl D X.env) fp).env.scope x) (hit : PE X it (tE X.K C W I))
    (hf : ∀ (s : Shared) (H : Hp) (D : Addr) (cl : List (Str × Addr)) (fp : List Addr), (X.blk s H scope (compEnvC scope cl D X.env) fp).fn x = true ∨ (X.blk s H scope (compEnvC scope cl D X.env) fp).env.scope.names.lookup x = some .local)
    (ht : ∀ (s : Shared) (H : Hp) (D : Addr) (cl : List (Str × Addr)) (fp : List Addr), PTs (X.blk s H scope (compEnvC scope cl D X.env) fp) ifs (tT X.K C W0 T))
    (he : ∀ (s : Shared) (H : Hp) (D : Addr) (cl : List (Str × Addr)) (fp : List Addr), PE (X.blk s H scope (compEnvC scope cl D X.env) fp) elt (tE X.K C W0 A)) (hs : ∀ x, foldedSetIterable it X.env x = pure x := by intro _; rfl) :
    PE X (.ListComp elt [⟨.Name x p, it, ifs, 0⟩] scope pos) (tL X.K C W (lcZS i T A I)) :=
  pe_imp (pe_lc (own := [(x, i)]) hc hN (pi_str hit) ok (fun s H D cl fp => pg_name (X := X.blk s H scope (compEnvC scope cl D X.env) fp) hN hi (hx s H D cl fp) (hf s H D cl fp)) ht he hs) fun _ _ _ => tL_lcZ
end
/-! ## a def whose code object is known -/
structure FunC (K : PySem.W.Frag) (x qual : Str) (st : Stmt) (f : Addr) (fd : FuncData) (cdv : Value) : Prop where
  ex : ∃ (oc : Value) (od : Option Addr) (kV doc pm : Value) (an : Option Addr) (ct : Value) (osl : Array (Option Value)),
    fd = PySem.W.fnOf x qual (defArgs st) (defBody st) (defScope st) .none kV doc pm an cdv ct ∧ K.lookup f = some ⟨oc, od, .func fd, osl⟩ ∧ PySem.W.codeIn K cdv qual = true
  kp : PySem.W.keepIn K (.ref f) = true
section
variable {P : Program} {w : World} {K : PySem.W.Frag} {mg : Str → Option Value} {base : Heap} {C : Ct}
theorem FunC.fn {x qual : Str} {st : Stmt} {f : Addr} {fd : FuncData} {cdv : Value} (F : FunC K x qual st f fd cdv) : Fun K x qual st f fd := by
  obtain ⟨oc, od, kV, doc, pm, an, ct, osl, e, lk, hcd⟩ := F.ex
  exact ⟨⟨oc, od, kV, doc, pm, an, cdv, ct, osl, e, lk, hcd⟩, F.kp⟩
theorem fn_okC {x qual : Str} {st : Stmt} {f : Addr} {fd : FuncData} {cdv : Value} {N ps : List Str} {k : Nat} {B : Ss} (F : FunC K x qual st f fd cdv) (S : FnScope N ps (defScope st))
    (hbody : ∀ (A : Around) (outer : List Env) (s : Shared) (H : Hp) (E : XK), Room k (A.deeper (envOfC qual (defScope st) s.heap.objs.size f cdv)) →
      Takes (cxOf (L2.CX P w) P w K mg base N qual (defScope st) f cdv A outer s H E) (fun cls d _ H => E cls d H) →
      PSs (cxOf (L2.CX P w) P w K mg base N qual (defScope st) f cdv A outer s H E) (defBody st) (tS K C (fun cls d _ H => E cls d H) B)) :
    FnOk P w K mg base (L2.CX P w) (k + 1) f fd ps (SP K C ps.length (fnS N B)) := by
  obtain ⟨oc, od, kV, doc, pm, an, ct, osl, rfl, lk, hcd⟩ := F.ex
  refine fn_of lk hcd S (fun vs H Q E h => h.1) fun A outer s H vs Q E hr h => ⟨_, hbody A outer s H E hr (takes_of rfl rfl rfl rfl), ?_⟩
  obtain ⟨hn, j, G, ds, s0, g, dl, m⟩ := h
  refine ⟨j, H, G, G, initR N ds, s0, ⟨g, env_start N.length dl⟩, ⟨Ext.refl _ _, Le.refl _, Gro.refl _ _⟩, ?_⟩
  unfold fnS at m
  cases e : B (initR N ds) s0 with
  | nx ρ' s' => rw [e] at m; exact fun σ' H' G' n' m' => m .non H' G' ⟨m'.ex, n'.g, m'.le, m'.gr⟩ rfl
  | rt d s' => rw [e] at m; exact fun v H' G' g' m' dv => m v H' G' ⟨m'.ex, g', m'.le, m'.gr⟩ dv
  | exc c d s' => rw [e] at m; exact fun v dd σ' H' G' g' m' dv hx => m v dd H' G' ⟨m'.ex, g', m'.le, m'.gr⟩ dv hx
  | bk ρ' s' => rw [e] at m; exact m.elim
  | ct ρ' s' => rw [e] at m; exact m.elim
  | bad => rw [e] at m; exact m.elim
end
end DL

namespace DL
open PySem PySem.Spec PyProof.Rows L2
/-! ## the jar of the laws: digits, stir, count -/
def jlM (s : Jr) : List Int := [s.d, s.s, s.c]
def jsM (s : Jr) (k : Nat) (z : Int) : Option Jr := match k with
  | 0 => some { s with d := z }
  | 1 => some { s with s := z }
  | 2 => some { s with c := z }
  | _ => none
theorem jsM_ok (s : Jr) (k : Nat) (z : Int) (s' : Jr) (h : jsM s k z = some s') : jlM s' = (jlM s).set k z := by
  match k, h with
  | 0, h => cases h; rfl
  | 1, h => cases h; rfl
  | 2, h => cases h; rfl
abbrev mkC (T : List (Addr × Str)) (cl : Nat → Addr) : Ct := { T, cl, oc := fun _ => 0, jo := fun s => .lst ((jlM s).map V.int), jl := jlM, js := jsM, jlo := fun _ _ => rfl, hjs := fun s k z s' h => ⟨rfl, by rw [jsM_ok s k z s' h]⟩ }
theorem mkC_jo {T : List (Addr × Str)} {cl : Nat → Addr} : ∀ s ps, (mkC T cl).jo s ≠ .tbl ps := fun s ps h => by cases h
/-- ahead of the jar -/
def jl0 (_ : Jr) : List Int := []
def js0 (_ : Jr) (_ : Nat) (_ : Int) : Option Jr := none
abbrev mkC0 (T : List (Addr × Str)) (cl : Nat → Addr) : Ct := { T, cl, oc := fun _ => 0, jo := fun _ => .tbl #[], jl := jl0, js := js0, jlo := fun _ h => absurd rfl h, hjs := fun s k z s' h => by cases h }
def blkB (N : List Str) (sc scope : Scope) (own : List (Str × Nat)) : Bool :=
  decide (scope.kind = .function) && (scope.names.all fun y => decide (scope.names.lookup y.1 = some y.2)) && (own.all fun p => decide (N[p.2]? = some p.1)) &&
    (scope.names.all fun y => !decide (y.2 = .free) || decide (sc.names.lookup y.1 = some .cell) || decide (sc.names.lookup y.1 = some .free)) &&
    (scope.names.all fun y => !(decide (y.2 = .local) || decide (y.2 = .cell)) || decide (y.1 ∈ own.map (·.1)) || !decide (y.1 ∈ N))
theorem blk_of {N : List Str} {sc scope : Scope} {own : List (Str × Nat)} (h : blkB N sc scope own = true) : BlkOk N sc scope own := by
  unfold blkB at h
  simp only [Bool.and_eq_true, List.all_eq_true, Bool.or_eq_true, Bool.not_eq_true', decide_eq_true_eq, decide_eq_false_iff_not, Bool.or_eq_false_iff] at h
  obtain ⟨⟨⟨⟨h1, h2⟩, h3⟩, h4⟩, h5⟩ := h
  refine ⟨h1, h2, h3, fun y hy e => ?_, fun y hy e => ?_⟩
  · rcases h4 y hy with (z | z) | z
    · exact absurd e z
    · exact .inl z
    · exact .inr z
  · rcases h5 y hy with (z | z) | z
    · rcases e with e | e
      · exact absurd e z.1
      · exact absurd e z.2
    · exact .inl z
    · exact .inr z
/-! ## the law's own def: script, then the jar -/
def spLaw (K : PySem.W.Frag) (T : List (Addr × Str)) : Sp := fun vs H Q _ => ∃ (a : Addr) (ns : List Int), vs = [.ref a] ∧ ns.length ≤ 63 ∧ (∀ p ∈ T, H p.1 = some (.tbl #[])) ∧ SqL K H a (ns.map V.int) ∧ ∀ H', Q (.bl true) H'
theorem law_rest {X : Cx} {C : Ct} {E' : XK} {rest : List Stmt} {b : Ss} (tk : Takes X (fun cls d _ H => E' cls d H)) (h : Takes X (fun cls d _ H => E' cls d H) → PSs X rest (tS X.K C (fun cls d _ H => E' cls d H) b)) : PSs X rest (tS X.K C (fun cls d _ H => E' cls d H) b) := h tk
theorem cx_no {P : Program} {w : World} {H : Hp} {s : Shared} {e : Value} {s' : Shared} (h : L2.CX P w [] H s (fun _ _ _ => False) e s') : False := by
  obtain ⟨_, _, _, _, _, _, _, _, _, _, _, _, z⟩ := h
  exact z
theorem script_g {K : PySem.W.Frag} {H : Hp} {a q : Addr} {xs : List V} (hS : SqL K H a xs) (hj : H q = some (.tbl #[])) : ∃ G : Hp, Le G H ∧ G q = none ∧ (∀ b o, G b = some o → ¬ Tbl o) ∧ SqL K G a xs := by
  have one : ∀ u : HO, H a = some u → ¬ Tbl u → ∃ G : Hp, Le G H ∧ G q = none ∧ (∀ b o, G b = some o → ¬ Tbl o) ∧ G a = some u := fun u hu nt => by
    have na : q ≠ a := fun z => by
      rw [z, hu] at hj
      exact nt ⟨_, Option.some.inj hj⟩
    refine ⟨fun b => if b = a then some u else none, fun b o h => ?_, if_neg na, fun b o h => ?_, if_pos rfl⟩
    · by_cases hb : b = a
      · subst hb
        have h' := (if_pos rfl).symm.trans h
        rw [hu]
        exact h'
      · have h' := (if_neg hb).symm.trans h
        cases h'
    · by_cases hb : b = a
      · have h' := (if_pos hb).symm.trans h
        cases h'
        exact nt
      · have h' := (if_neg hb).symm.trans h
        cases h'
  rcases hS with (h | ⟨o, h⟩) | h
  · obtain ⟨G, h1, h2, h3, h4⟩ := one _ h not_tbl_lst
    exact ⟨G, h1, h2, h3, .inl (.inl h4)⟩
  · obtain ⟨G, h1, h2, h3, h4⟩ := one _ h (fun ⟨_, z⟩ => nomatch z)
    exact ⟨G, h1, h2, h3, .inl (.inr ⟨o, h4⟩)⟩
  · exact ⟨fun _ => none, fun b o h => (by cases h), rfl, fun b o h => (by cases h), .inr h⟩
theorem law_go {K : PySem.W.Frag} {T : List (Addr × Str)} {cl : Nat → Addr} {N : List Str} {ij : Nat} {W : WX} {F : Fn} {b : Ss} {vs : List V} {H : Hp} {Q : VK} {E' : XK} {r : En} (hij : ij < N.length) (h0 : 0 < ij) (hr : r = (List.replicate N.length Sl.no).set ij (.dat .jar)) (hne : T ≠ [])
    (h : spLaw K T vs H Q E') (hp : ∀ ns : List Int, ns.length ≤ 63 → ∃ (d s c : Int) (s' : Jr), F [.scr ns] ⟨0, 0, 0⟩ = .ok (.lst [.int d, .int s, .int c]) s' ∧ ∃ s2, b r ⟨d, s, c⟩ = .rt (.bl true) s2) :
    tSeq (tS K (mkC0 T cl) W (thenS (callS 1 F (consS (varS 0) nilS)) fun d ρ s => .nx (ρ.set ij (.dat d)) s)) (tS K (mkC T cl) W b) { nx := fun _ H' => Q .non H', rt := Q } (L2.start N vs) H := by
  obtain ⟨a, ns, rfl, hl, hT, hS, hQ⟩ := h
  obtain ⟨d, s, c, s', e1, s2, e2⟩ := hp ns hl
  obtain ⟨p0, hp0⟩ : ∃ p0, p0 ∈ T := by
    cases T with
    | nil => exact absurd rfl hne
    | cons p _ => exact ⟨p, .head _⟩
  have hj := hT p0 hp0
  obtain ⟨G, g1, g2, g3, g4⟩ := script_g hS hj
  have e3 : callS 1 F (consS (varS 0) nilS) (initR N [.scr ns]) ⟨0, 0, 0⟩ = .ok (.lst [.int d, .int s, .int c]) s' := by
    show (if ([D.scr ns] : List D).length = 1 then F [D.scr ns] ⟨0, 0, 0⟩ else .bad) = _
    exact (if_pos (show ([D.scr ns] : List D).length = 1 from rfl)).trans e1
  show tS K (mkC0 T cl) W _ _ _ _
  refine ⟨p0.1, H, G, G, initR N [.scr ns], ⟨0, 0, 0⟩, ⟨⟨g1, g2, hj, fun p hp => LamX.TabS.nil (hT p hp), g3⟩, env_start N.length ⟨_, _, rfl, ⟨a, rfl, g4⟩, rfl⟩⟩, ⟨Ext.refl _ _, Le.refl _, Gro.refl _ _⟩, ?_⟩
  unfold thenS
  rw [e3]
  intro σ' H' G' n' m'
  have hlen : (initR N [.scr ns]).length = N.length := by
    unfold initR
    rw [List.length_append, List.length_map, List.length_replicate]
    show 1 + (N.length - 1) = N.length
    omega
  obtain ⟨v, h1, p, ws, hv, hq, dl⟩ := n'.en.at_ ij (.dat (.lst [.int d, .int s, .int c])) (by rw [List.getElem?_set_self (by rw [hlen]; exact hij)])
  subst hv
  obtain ⟨v1, w1, rfl, d1, dl⟩ := dl
  obtain ⟨v2, v3, rfl, d2, d3⟩ := two_v dl
  cases (show v1 = _ from d1)
  cases (show v2 = _ from d2)
  cases (show v3 = _ from d3)
  have hH : H' p = some (.lst [.int d, .int s, .int c]) := n'.g.le _ _ hq
  have hσ : σ'.length = N.length := by
    have := n'.en.len
    rw [List.length_set, hlen] at this
    exact this
  have noOwn : ∀ (k : Nat) (ds : List D), r[k]? ≠ some (.own ds) := fun k ds h => by
    rw [hr] at h
    by_cases hk : k = ij
    · subst hk
      rw [List.getElem?_set_self (by rw [List.length_replicate]; exact hij)] at h
      cases h
    · rw [List.getElem?_set_ne (Ne.symm hk), List.getElem?_replicate] at h
      split at h <;> cases h
  refine ⟨p, H', fun _ => none, fun _ => none, r, ⟨d, s, c⟩, ⟨⟨fun b o h => (by cases h), rfl, hH, n'.g.tb, fun b o h => by cases h⟩, ⟨by rw [hσ, hr, List.length_set, List.length_replicate], fun k sl hk => ?_, fun k k' ds ds' q h1 _ _ _ => absurd h1 (noOwn k ds)⟩⟩, ⟨Ext.refl _ _, Le.refl _, Gro.refl _ _⟩, ?_⟩
  · by_cases hb : k = ij
    · subst hb
      rw [hr, List.getElem?_set_self (by rw [List.length_replicate]; exact hij)] at hk
      cases hk
      exact ⟨.ref p, h1, rfl⟩
    · rw [hr, List.getElem?_set_ne (Ne.symm hb), List.getElem?_replicate] at hk
      split at hk <;> cases hk
      trivial
  · rw [e2]
    intro v H2 G2 _ _ dv
    cases (show v = .bl true from dv)
    exact hQ H2
end DL

namespace DL
namespace Pr
open PySem PySem.Spec PyProof.Rows L2
def top (i : Nat) : Stmt := PySem.Challenge.pw_ringtolls_k01_counts_written_and_read.main.body.getD i (.Pass ⟨0, 0, 0, 0⟩)
def selM : Nat → Option Str
  | 1 => some "BadText"
  | 2 => some "BadCount"
  | 3 => some "BadNumber"
  | _ => none
/-! ### is_integer -/
abbrev s_is_integer : Stmt := top 10
def b_is_integer : Ss := (thenS (andV (cbS isiC (consS (varS 0) (consS (cS (.ty "int")) nilS))) (notV (cbS isiC (consS (varS 0) (consS (cS (.ty "bool")) nilS))))) fun d _ s => .rt d s)
def F_is_integer : Fn := fnS ["thing"] b_is_integer
theorem sc_is_integer : FnScope ["thing"] ["thing"] (defScope s_is_integer) := ⟨rfl, rfl, rfl, by decide +kernel, rfl, by decide +kernel, by decide +kernel⟩
/-! ### is_between -/
abbrev s_is_between : Stmt := top 11
def b_is_between : Ss := (thenS (andV (callS 1 F_is_integer (consS (varS 0) nilS)) (chS leD leD (varS 1) (varS 0) (varS 2))) fun d _ s => .rt d s)
def F_is_between : Fn := fnS ["thing", "least", "most"] b_is_between
theorem sc_is_between : FnScope ["thing", "least", "most"] ["thing", "least", "most"] (defScope s_is_between) := ⟨rfl, rfl, rfl, by decide +kernel, rfl, by decide +kernel, by decide +kernel⟩
/-! ### check_number -/
abbrev s_check_number : Stmt := top 12
def b_check_number : Ss := (iffS (notS (asB (callS 3 F_is_between (consS (varS 0) (consS (cS (.int 0)) (consS (cS (.int (10 ^ 30))) nilS)))))) (raiS 3 (varS 0)) skipS)
def F_check_number : Fn := fnS ["n"] b_check_number
theorem sc_check_number : FnScope ["n"] ["n"] (defScope s_check_number) := ⟨rfl, rfl, rfl, by decide +kernel, rfl, by decide +kernel, by decide +kernel⟩
/-! ### is_count -/
abbrev s_is_count : Stmt := top 13
def b_is_count : Ss := (seqS (iffS (orS (notS (asB (cbS isiC (consS (varS 0) (consS (cS (.ty "tuple")) nilS))))) (orS (asB (op2 (eqD true) (cbS lenC (consS (varS 0) nilS)) (cS (.int 2)))) (notS (asB (callS 3 F_is_between (consS (ixS jlM (varS 0) (cS (.int 0))) (consS (cS (.int 0)) (consS (cS (.int 9)) nilS)))))))) (thenS (cS (.bl false)) fun d _ s => .rt d s) skipS) (thenS (callS 3 F_is_between (consS (ixS jlM (varS 0) (cS (.int 1))) (consS (ifS (asB (op2 eqX (ixS jlM (varS 0) (cS (.int 0))) (cS (.int 0)))) (cS (.int 0)) (op1 negD (cS (.int (10 ^ 30))))) (consS (cS (.int (10 ^ 30))) nilS)))) fun d _ s => .rt d s))
def F_is_count : Fn := fnS ["thing"] b_is_count
theorem sc_is_count : FnScope ["thing"] ["thing"] (defScope s_is_count) := ⟨rfl, rfl, rfl, by decide +kernel, rfl, by decide +kernel, by decide +kernel⟩
/-! ### check_count -/
abbrev s_check_count : Stmt := top 14
def b_check_count : Ss := (iffS (notS (asB (callS 1 F_is_count (consS (varS 0) nilS)))) (raiS 2 (varS 0)) skipS)
def F_check_count : Fn := fnS ["count"] b_check_count
theorem sc_check_count : FnScope ["count"] ["count"] (defScope s_check_count) := ⟨rfl, rfl, rfl, by decide +kernel, rfl, by decide +kernel, by decide +kernel⟩
/-! ### rounds_at -/
abbrev s_rounds_at : Stmt := top 15
def b_rounds_at : Ss := (thenS (cbS maxC (consS (cS (.int 0)) (consS (op2 addD (op2 mulD (ixS jlM (varS 0) (cS (.int 0))) (varS 1)) (ixS jlM (varS 0) (cS (.int 1)))) nilS))) fun d _ s => .rt d s)
def F_rounds_at : Fn := fnS ["count", "n"] b_rounds_at
theorem sc_rounds_at : FnScope ["count", "n"] ["count", "n"] (defScope s_rounds_at) := ⟨rfl, rfl, rfl, by decide +kernel, rfl, by decide +kernel, by decide +kernel⟩
/-! ### rounds -/
abbrev s_rounds : Stmt := top 16
def b_rounds : Ss := (seqS (thenS (callS 1 F_check_count (consS (varS 0) nilS)) fun _ ρ s => .nx ρ s) (seqS (thenS (callS 1 F_check_number (consS (varS 1) nilS)) fun _ ρ s => .nx ρ s) (thenS (callS 2 F_rounds_at (consS (varS 0) (consS (varS 1) nilS))) fun d _ s => .rt d s)))
def F_rounds : Fn := fnS ["count", "n"] b_rounds
theorem sc_rounds : FnScope ["count", "n"] ["count", "n"] (defScope s_rounds) := ⟨rfl, rfl, rfl, by decide +kernel, rfl, by decide +kernel, by decide +kernel⟩
/-! ### format_count -/
abbrev s_format_count : Stmt := top 17
def b_format_count : Ss := (seqS (thenS (callS 1 F_check_count (consS (varS 0) nilS)) fun _ ρ s => .nx ρ s) (seqS (unS [1, 2] (varS 0)) (seqS (iffS (asB (op2 eqX (varS 1) (cS (.int 0)))) (thenS (cbS strC (consS (varS 2) nilS)) fun d _ s => .rt d s) skipS) (seqS (thenS (ifS (asB (op2 eqX (varS 1) (cS (.int 1)))) (cS (.str "n")) (jsS [(op1 fmtD (varS 1)), (cS (.str "n"))] Str.empty)) fun d ρ s => .nx (ρ.set 3 (.dat d)) s) (thenS (ifS (asB (op2 eqX (varS 2) (cS (.int 0)))) (varS 3) (jsS [(op1 fmtD (varS 3)), (op1 plusD (varS 2))] Str.empty)) fun d _ s => .rt d s)))))
def F_format_count : Fn := fnS ["count", "times", "more", "head"] b_format_count
theorem sc_format_count : FnScope ["count", "times", "more", "head"] ["count"] (defScope s_format_count) := ⟨rfl, rfl, rfl, by decide +kernel, rfl, by decide +kernel, by decide +kernel⟩
/-! ### number_in -/
abbrev s_number_in : Stmt := top 18
def b_number_in : Ss := (seqS (iffS (orS (notS (asB (cbS isiC (consS (varS 0) (consS (cS (.ty "str")) nilS))))) (orS (notS (asB (chS leD leD (cS (.int 1)) (cbS lenC (consS (varS 0) nilS)) (cS (.int 31))))) (notS (asB (cbS allC (consS (giveS (lcZS 1 yesS (op2 (inD false) (varS 1) (cS (.str "0123456789"))) (varS 0))) nilS)))))) (thenS (cS .non) fun d _ s => .rt d s) skipS) (thenS (ifS (orS (asB (op2 eqX (varS 0) (cS (.str "0")))) (asB (op2 (eqD true) (ixS jlM (varS 0) (cS (.int 0))) (cS (.str "0"))))) (cbS intC (consS (varS 0) nilS)) (cS .non)) fun d _ s => .rt d s))
def F_number_in : Fn := fnS ["text", "sign"] b_number_in
theorem sc_number_in : FnScope ["text", "sign"] ["text"] (defScope s_number_in) := ⟨rfl, rfl, rfl, by decide +kernel, rfl, by decide +kernel, by decide +kernel⟩
/-! ### count_in -/
abbrev s_count_in : Stmt := top 19
def b_count_in : Ss := (seqS (unS [1, 2, 3] (op2s partD (varS 0) (cS (.str "n")))) (seqS (iffS (asB (op2 eqX (varS 2) (cS (.str "")))) (seqS (thenS (callS 1 F_number_in (consS (varS 1) nilS)) fun d ρ s => .nx (ρ.set 4 (.dat d)) s) (thenS (ifS (orS (asB (op2 isND (varS 4) (cS .non))) (asB (op2 gtD (varS 4) (cS (.int (10 ^ 30)))))) (cS .non) (tupS (consS (cS (.int 0)) (consS (varS 4) nilS)))) fun d _ s => .rt d s)) skipS) (seqS (thenS (ifS (asB (op2 eqX (varS 1) (cS (.str "")))) (cS (.int 1)) (callS 1 F_number_in (consS (varS 1) nilS))) fun d ρ s => .nx (ρ.set 5 (.dat d)) s) (seqS (iffS (orS (asB (op2 isND (varS 5) (cS .non))) (orS (notS (asB (chS leD leD (cS (.int 1)) (varS 5) (cS (.int 9))))) (asB (op2 eqX (varS 1) (cS (.str "1")))))) (thenS (cS .non) fun d _ s => .rt d s) skipS) (seqS (iffS (asB (op2 eqX (varS 3) (cS (.str "")))) (thenS (tupS (consS (varS 5) (consS (cS (.int 0)) nilS))) fun d _ s => .rt d s) skipS) (seqS (thenS (callS 1 F_number_in (consS (slS cutD (varS 3) (soP (cS (.int 1))) noP) nilS)) fun d ρ s => .nx (ρ.set 4 (.dat d)) s) (seqS (iffS (orS (asB (op2 (inD true) (ixS jlM (varS 3) (cS (.int 0))) (cS (.str "+-")))) (orS (asB (op2 isND (varS 4) (cS .non))) (notS (asB (chS leD leD (cS (.int 1)) (varS 4) (cS (.int (10 ^ 30)))))))) (thenS (cS .non) fun d _ s => .rt d s) skipS) (thenS (tupS (consS (varS 5) (consS (ifS (asB (op2 eqX (ixS jlM (varS 3) (cS (.int 0))) (cS (.str "+")))) (varS 4) (op1 negD (varS 4))) nilS))) fun d _ s => .rt d s))))))))
def F_count_in : Fn := fnS ["text", "head", "found", "tail", "number", "times"] b_count_in
theorem sc_count_in : FnScope ["text", "head", "found", "tail", "number", "times"] ["text"] (defScope s_count_in) := ⟨rfl, rfl, rfl, by decide +kernel, rfl, by decide +kernel, by decide +kernel⟩
/-! ### parse_count -/
abbrev s_parse_count : Stmt := top 20
def b_parse_count : Ss := (seqS (thenS (ifS (asB (cbS isiC (consS (varS 0) (consS (cS (.ty "str")) nilS)))) (callS 1 F_count_in (consS (varS 0) nilS)) (cS .non)) fun d ρ s => .nx (ρ.set 1 (.dat d)) s) (seqS (iffS (asB (op2 isND (varS 1) (cS .non))) (raiS 1 (varS 0)) skipS) (thenS (varS 1) fun d _ s => .rt d s)))
def F_parse_count : Fn := fnS ["text", "found"] b_parse_count
theorem sc_parse_count : FnScope ["text", "found"] ["text"] (defScope s_parse_count) := ⟨rfl, rfl, rfl, by decide +kernel, rfl, by decide +kernel, by decide +kernel⟩
/-! ### _law_pool -/
abbrev s__law_pool : Stmt := top 22
def b__law_pool : Ss := (seqS (unS [1, 2] (tupS (consS (cS (.int 0)) (consS (cS (.int 7)) nilS)))) (seqS (forR 3 (consS (cbS lenC (consS (varS 0) nilS)) nilS) (seqS (thenS (cbS intC (consS (cbS maxC (consS (ixS jl0 (varS 0) (varS 3)) (consS (op2 subD (op1 negD (cS (.int 1))) (ixS jl0 (varS 0) (varS 3))) nilS))) nilS)) fun d ρ s => .nx (ρ.set 4 (.dat d)) s) (seqS (thenS (op2 modD (cbS intC (consS (op2 addD (op2 addD (op2 mulD (varS 2) (cS (.int 48271))) (op2 modD (varS 4) (cS (.int 2147483629)))) (cS (.int 11))) nilS)) (cS (.int 2147483647))) fun d ρ s => .nx (ρ.set 2 (.dat d)) s) (thenS (ifS (andS (asB (op2 geD (varS 4) (op2 powD (cS (.int 10)) (cS (.int 12))))) (asB (op2 ltD (varS 1) (op2 powD (cS (.int 10)) (cS (.int 60)))))) (cbS intC (consS (op2 addD (op2 mulD (varS 1) (op2 powD (cS (.int 10)) (cS (.int 60)))) (op2 modD (varS 4) (op2 powD (cS (.int 10)) (cS (.int 60))))) nilS)) (varS 1)) fun d ρ s => .nx (ρ.set 1 (.dat d)) s)))) (thenS (giveS (lstS (consS (varS 1) (consS (varS 2) (consS (cS (.int 0)) nilS))))) fun d _ s => .rt d s)))
def F__law_pool : Fn := fnS ["script", "digits", "stirred", "at", "cell"] b__law_pool
theorem sc__law_pool : FnScope ["script", "digits", "stirred", "at", "cell"] ["script"] (defScope s__law_pool) := ⟨rfl, rfl, rfl, by decide +kernel, rfl, by decide +kernel, by decide +kernel⟩
/-! ### _law_take -/
abbrev s__law_take : Stmt := top 23
def b__law_take : Ss := (seqS (iffS (asB (op2 gtD (ixS jlM (varS 0) (cS (.int 0))) (cS (.int 0)))) (seqS (thenS (op2 modD (cbS intC (consS (ixS jlM (varS 0) (cS (.int 0))) nilS)) (varS 1)) fun d ρ s => .nx (ρ.set 2 (.dat d)) s) (seqS (setJ jlM jsM (varS 0) (cS (.int 0)) (op2 fdvD (ixS jlM (varS 0) (cS (.int 0))) (varS 1))) (thenS (varS 2) fun d _ s => .rt d s))) skipS) (seqS (setJ jlM jsM (varS 0) (cS (.int 2)) (op2 addD (ixS jlM (varS 0) (cS (.int 2))) (cS (.int 1)))) (seqS (setJ jlM jsM (varS 0) (cS (.int 1)) (op2 modD (cbS intC (consS (op2 addD (op2 addD (op2 mulD (ixS jlM (varS 0) (cS (.int 1))) (cS (.int 39373))) (op2 mulD (cS (.int 7919)) (ixS jlM (varS 0) (cS (.int 2))))) (cS (.int 7))) nilS)) (cS (.int 2147483647)))) (thenS (op2 modD (cbS intC (consS (op2 fdvD (op2 modD (cbS intC (consS (op2 mulD (ixS jlM (varS 0) (cS (.int 1))) (ixS jlM (varS 0) (cS (.int 1)))) nilS)) (cS (.int 2147483629))) (cS (.int 32))) nilS)) (varS 1)) fun d _ s => .rt d s))))
def F__law_take : Fn := fnS ["jar", "many", "found"] b__law_take
theorem sc__law_take : FnScope ["jar", "many", "found"] ["jar", "many"] (defScope s__law_take) := ⟨rfl, rfl, rfl, by decide +kernel, rfl, by decide +kernel, by decide +kernel⟩
/-! ### _law_one -/
abbrev s__law_one : Stmt := top 24
def b__law_one : Ss := (thenS (ixS jlM (varS 1) (callS 2 F__law_take (consS (varS 0) (consS (cbS lenC (consS (varS 1) nilS)) nilS)))) fun d _ s => .rt d s)
def F__law_one : Fn := fnS ["jar", "things"] b__law_one
theorem sc__law_one : FnScope ["jar", "things"] ["jar", "things"] (defScope s__law_one) := ⟨rfl, rfl, rfl, by decide +kernel, rfl, by decide +kernel, by decide +kernel⟩
/-! ### _law_yq_is_whole -/
abbrev s__law_yq_is_whole : Stmt := top 25
def b__law_yq_is_whole : Ss := (thenS (andV (cbS isiC (consS (varS 0) (consS (cS (.ty "int")) nilS))) (notV (cbS isiC (consS (varS 0) (consS (cS (.ty "bool")) nilS))))) fun d _ s => .rt d s)
def F__law_yq_is_whole : Fn := fnS ["thing"] b__law_yq_is_whole
theorem sc__law_yq_is_whole : FnScope ["thing"] ["thing"] (defScope s__law_yq_is_whole) := ⟨rfl, rfl, rfl, by decide +kernel, rfl, by decide +kernel, by decide +kernel⟩
/-! ### _law_yq_same -/
abbrev s__law_yq_same : Stmt := top 26
def b__law_yq_same (F : Fn) : Ss := (seqS (iffS (asB (op2 isND (varS 1) (cS .non))) (thenS (op2 isND (varS 0) (cS .non)) fun d _ s => .rt d s) skipS) (seqS (iffS (asB (cbS isiC (consS (varS 1) (consS (cS (.ty "bool")) nilS)))) (thenS (ifS (asB (varS 1)) (op2 isBD (varS 0) (cS (.bl true))) (op2 isBD (varS 0) (cS (.bl false)))) fun d _ s => .rt d s) skipS) (seqS (iffS (asB (cbS isiC (consS (varS 1) (consS (cS (.ty "int")) nilS)))) (thenS (andV (callS 1 F__law_yq_is_whole (consS (varS 0) nilS)) (op2 eqX (varS 0) (varS 1))) fun d _ s => .rt d s) skipS) (seqS (iffS (asB (cbS isiC (consS (varS 1) (consS (cS (.ty "str")) nilS)))) (thenS (andV (cbS isiC (consS (varS 0) (consS (cS (.ty "str")) nilS))) (op2 eqX (varS 0) (varS 1))) fun d _ s => .rt d s) skipS) (seqS (iffS (andS (notS (asB (cbS isiC (consS (varS 1) (consS (cS (.ty "tuple")) nilS))))) (notS (asB (cbS isiC (consS (varS 1) (consS (cS (.ty "list")) nilS)))))) (thenS (cbS boolC (consS (op2 eqX (varS 0) (varS 1)) nilS)) fun d _ s => .rt d s) skipS) (seqS (iffS (asB (op2 (eqD true) (cbS isiC (consS (varS 1) (consS (cS (.ty "tuple")) nilS))) (cbS isiC (consS (varS 0) (consS (cS (.ty "tuple")) nilS))))) (thenS (cS (.bl false)) fun d _ s => .rt d s) skipS) (seqS (iffS (asB (op2 (eqD true) (cbS isiC (consS (varS 1) (consS (cS (.ty "list")) nilS))) (cbS isiC (consS (varS 0) (consS (cS (.ty "list")) nilS))))) (thenS (cS (.bl false)) fun d _ s => .rt d s) skipS) (seqS (iffS (asB (op2 (eqD true) (cbS lenC (consS (varS 0) nilS)) (cbS lenC (consS (varS 1) nilS)))) (thenS (cS (.bl false)) fun d _ s => .rt d s) skipS) (seqS (forR 2 (consS (cbS lenC (consS (varS 1) nilS)) nilS) (iffS (notS (asB (callS 2 F (consS (ixS jlM (varS 0) (varS 2)) (consS (ixS jlM (varS 1) (varS 2)) nilS))))) (thenS (cS (.bl false)) fun d _ s => .rt d s) skipS)) (thenS (cS (.bl true)) fun d _ s => .rt d s))))))))))
def F__law_yq_same_at : Nat → Fn
  | 0 => fun _ _ => .bad
  | k + 1 => fnS ["heard_one", "owed", "at"] (b__law_yq_same (F__law_yq_same_at k))
abbrev F__law_yq_same : Fn := F__law_yq_same_at 7
theorem sc__law_yq_same : FnScope ["heard_one", "owed", "at"] ["heard_one", "owed"] (defScope s__law_yq_same) := ⟨rfl, rfl, rfl, by decide +kernel, rfl, by decide +kernel, by decide +kernel⟩
/-! ### _law_ra_is_int -/
abbrev s__law_ra_is_int : Stmt := top 27
def b__law_ra_is_int : Ss := (thenS (andV (cbS isiC (consS (varS 0) (consS (cS (.ty "int")) nilS))) (andV (notV (cbS isiC (consS (varS 0) (consS (cS (.ty "bool")) nilS)))) (chS leD leD (varS 1) (varS 0) (varS 2)))) fun d _ s => .rt d s)
def F__law_ra_is_int : Fn := fnS ["thing", "low", "high"] b__law_ra_is_int
theorem sc__law_ra_is_int : FnScope ["thing", "low", "high"] ["thing", "low", "high"] (defScope s__law_ra_is_int) := ⟨rfl, rfl, rfl, by decide +kernel, rfl, by decide +kernel, by decide +kernel⟩
/-! ### _law_ra_is_count -/
abbrev s__law_ra_is_count : Stmt := top 28
def b__law_ra_is_count : Ss := (seqS (iffS (orS (notS (asB (cbS isiC (consS (varS 0) (consS (cS (.ty "tuple")) nilS))))) (orS (asB (op2 (eqD true) (cbS lenC (consS (varS 0) nilS)) (cS (.int 2)))) (notS (asB (callS 3 F__law_ra_is_int (consS (ixS jlM (varS 0) (cS (.int 0))) (consS (cS (.int 0)) (consS (cS (.int 9)) nilS)))))))) (thenS (cS (.bl false)) fun d _ s => .rt d s) skipS) (seqS (thenS (ifS (asB (op2 eqX (ixS jlM (varS 0) (cS (.int 0))) (cS (.int 0)))) (cS (.int 0)) (op1 negD (op2 powD (cS (.int 10)) (cS (.int 30))))) fun d ρ s => .nx (ρ.set 1 (.dat d)) s) (thenS (callS 3 F__law_ra_is_int (consS (ixS jlM (varS 0) (cS (.int 1))) (consS (varS 1) (consS (op2 powD (cS (.int 10)) (cS (.int 30))) nilS)))) fun d _ s => .rt d s)))
def F__law_ra_is_count : Fn := fnS ["thing", "low"] b__law_ra_is_count
theorem sc__law_ra_is_count : FnScope ["thing", "low"] ["thing"] (defScope s__law_ra_is_count) := ⟨rfl, rfl, rfl, by decide +kernel, rfl, by decide +kernel, by decide +kernel⟩
/-! ### _law_ra_rounds -/
abbrev s__law_ra_rounds : Stmt := top 29
def b__law_ra_rounds : Ss := (thenS (cbS maxC (consS (cS (.int 0)) (consS (op2 addD (op2 mulD (ixS jlM (varS 0) (cS (.int 0))) (varS 1)) (ixS jlM (varS 0) (cS (.int 1)))) nilS))) fun d _ s => .rt d s)
def F__law_ra_rounds : Fn := fnS ["count", "n"] b__law_ra_rounds
theorem sc__law_ra_rounds : FnScope ["count", "n"] ["count", "n"] (defScope s__law_ra_rounds) := ⟨rfl, rfl, rfl, by decide +kernel, rfl, by decide +kernel, by decide +kernel⟩
/-! ### _law_ra_count_text -/
abbrev s__law_ra_count_text : Stmt := top 30
def b__law_ra_count_text : Ss := (seqS (unS [1, 2] (varS 0)) (seqS (iffS (asB (op2 eqX (varS 1) (cS (.int 0)))) (thenS (cbS strC (consS (varS 2) nilS)) fun d _ s => .rt d s) skipS) (seqS (thenS (ifS (asB (op2 eqX (varS 1) (cS (.int 1)))) (cS (.str "n")) (op2 addD (cbS strC (consS (varS 1) nilS)) (cS (.str "n")))) fun d ρ s => .nx (ρ.set 3 (.dat d)) s) (seqS (iffS (asB (op2 eqX (varS 2) (cS (.int 0)))) (thenS (varS 3) fun d _ s => .rt d s) skipS) (thenS (op2 addD (op2 addD (varS 3) (ifS (asB (op2 gtD (varS 2) (cS (.int 0)))) (cS (.str "+")) (cS (.str "-")))) (cbS strC (consS (cbS absC (consS (varS 2) nilS)) nilS))) fun d _ s => .rt d s)))))
def F__law_ra_count_text : Fn := fnS ["count", "a", "b", "first"] b__law_ra_count_text
theorem sc__law_ra_count_text : FnScope ["count", "a", "b", "first"] ["count"] (defScope s__law_ra_count_text) := ⟨rfl, rfl, rfl, by decide +kernel, rfl, by decide +kernel, by decide +kernel⟩
abbrev s__law_heard : Stmt := top 31
theorem sc__law_heard : FnScope ["asked_now", "error_one"] ["asked_now"] (defScope s__law_heard) := ⟨rfl, rfl, rfl, by decide +kernel, rfl, by decide +kernel, by decide +kernel⟩
/-! ### _law_figures -/
abbrev s__law_figures : Stmt := top 33
def b__law_figures : Ss := (seqS (iffS (orS (asB (op2 eqX (varS 0) (cS (.str "")))) (orS (asB (op2 (eqD true) (giveS (lcZS 1 (asB (op2 (inD true) (varS 1) (cS (.str "0123456789")))) (varS 1) (varS 0))) (giveS (lstS nilS)))) (asB (op2 gtD (cbS lenC (consS (varS 0) nilS)) (cS (.int 31)))))) (thenS (op1 negD (cS (.int 1))) fun d _ s => .rt d s) skipS) (seqS (iffS (orS (andS (asB (op2 eqX (ixS jlM (varS 0) (cS (.int 0))) (cS (.str "0")))) (asB (op2 (eqD true) (varS 0) (cS (.str "0"))))) (asB (op2 gtD (cbS intC (consS (varS 0) nilS)) (op2 powD (cS (.int 10)) (cS (.int 30)))))) (thenS (op1 negD (cS (.int 1))) fun d _ s => .rt d s) skipS) (thenS (cbS intC (consS (varS 0) nilS)) fun d _ s => .rt d s)))
def F__law_figures : Fn := fnS ["text", "sign"] b__law_figures
theorem sc__law_figures : FnScope ["text", "sign"] ["text"] (defScope s__law_figures) := ⟨rfl, rfl, rfl, by decide +kernel, rfl, by decide +kernel, by decide +kernel⟩
/-! ### _law_read -/
abbrev s__law_read : Stmt := top 32
def b__law_read : Ss := (seqS (iffS (orS (notS (asB (cbS isiC (consS (varS 0) (consS (cS (.ty "str")) nilS))))) (orS (asB (op2 eqX (varS 0) (cS (.str "")))) (asB (op2 gtD (cbS lenC (consS (varS 0) nilS)) (cS (.int 40)))))) (thenS (tupS nilS) fun d _ s => .rt d s) skipS) (seqS (iffS (asB (op2 (inD true) (cS (.str "n")) (varS 0))) (seqS (thenS (callS 1 F__law_figures (consS (varS 0) nilS)) fun d ρ s => .nx (ρ.set 1 (.dat d)) s) (thenS (ifS (asB (op2 gtD (varS 1) (op1 negD (cS (.int 1))))) (tupS (consS (tupS (consS (cS (.int 0)) (consS (varS 1) nilS))) nilS)) (tupS nilS)) fun d _ s => .rt d s)) skipS) (seqS (thenS (op2s idxD (varS 0) (cS (.str "n"))) fun d ρ s => .nx (ρ.set 2 (.dat d)) s) (seqS (parS 3 4 (consS (slS cutD (varS 0) noP (soP (varS 2))) (consS (slS cutD (varS 0) (soP (op2 addD (varS 2) (cS (.int 1)))) noP) nilS))) (seqS (thenS (ifS (asB (op2 eqX (varS 3) (cS (.str "")))) (cS (.int 1)) (callS 1 F__law_figures (consS (varS 3) nilS))) fun d ρ s => .nx (ρ.set 5 (.dat d)) s) (seqS (iffS (andS (asB (op2 (eqD true) (varS 3) (cS (.str "")))) (notS (asB (chS leD leD (cS (.int 2)) (varS 5) (cS (.int 9)))))) (thenS (tupS nilS) fun d _ s => .rt d s) skipS) (seqS (iffS (asB (op2 eqX (varS 4) (cS (.str "")))) (thenS (tupS (consS (tupS (consS (varS 5) (consS (cS (.int 0)) nilS))) nilS)) fun d _ s => .rt d s) skipS) (seqS (thenS (callS 1 F__law_figures (consS (slS cutD (varS 4) (soP (cS (.int 1))) noP) nilS)) fun d ρ s => .nx (ρ.set 1 (.dat d)) s) (seqS (iffS (orS (asB (op2 (inD true) (ixS jlM (varS 4) (cS (.int 0))) (cS (.str "+-")))) (asB (op2 ltD (varS 1) (cS (.int 1))))) (thenS (tupS nilS) fun d _ s => .rt d s) skipS) (thenS (tupS (consS (tupS (consS (varS 5) (consS (ifS (asB (op2 eqX (ixS jlM (varS 4) (cS (.int 0))) (cS (.str "+")))) (varS 1) (op1 negD (varS 1))) nilS))) nilS)) fun d _ s => .rt d s))))))))))
def F__law_read : Fn := fnS ["text", "much", "at", "first", "rest", "a"] b__law_read
theorem sc__law_read : FnScope ["text", "much", "at", "first", "rest", "a"] ["text"] (defScope s__law_read) := ⟨rfl, rfl, rfl, by decide +kernel, rfl, by decide +kernel, by decide +kernel⟩
/-! ### _law_count -/
abbrev s__law_count : Stmt := top 34
def b__law_count : Ss := (seqS (parS 1 2 (consS (callS 2 F__law_take (consS (varS 0) (consS (cS (.int 10)) nilS))) (consS (callS 2 F__law_take (consS (varS 0) (consS (cS (.int 5)) nilS))) nilS))) (seqS (thenS (ixS jlM (giveS (lstS (consS (callS 2 F__law_take (consS (varS 0) (consS (cS (.int 4)) nilS))) (consS (op2 powD (cS (.int 10)) (cS (.int 30))) (consS (op2 subD (op2 powD (cS (.int 10)) (cS (.int 30))) (callS 2 F__law_take (consS (varS 0) (consS (cS (.int 3)) nilS)))) (consS (callS 2 F__law_take (consS (varS 0) (consS (op2 powD (cS (.int 10)) (cS (.int 30))) nilS))) (consS (cS (.int 0)) nilS))))))) (varS 2)) fun d ρ s => .nx (ρ.set 3 (.dat d)) s) (thenS (tupS (consS (varS 1) (consS (ifS (orS (asB (op2 eqX (varS 1) (cS (.int 0)))) (asB (op2 eqX (callS 2 F__law_take (consS (varS 0) (consS (cS (.int 2)) nilS))) (cS (.int 0))))) (varS 3) (op1 negD (varS 3))) nilS))) fun d _ s => .rt d s)))
def F__law_count : Fn := fnS ["jar", "a", "sort", "b"] b__law_count
theorem sc__law_count : FnScope ["jar", "a", "sort", "b"] ["jar"] (defScope s__law_count) := ⟨rfl, rfl, rfl, by decide +kernel, rfl, by decide +kernel, by decide +kernel⟩
/-! ### _law_number -/
abbrev s__law_number : Stmt := top 35
def b__law_number : Ss := (thenS (callS 2 F__law_one (consS (varS 0) (consS (giveS (lstS (consS (cS (.int 0)) (consS (cS (.int 1)) (consS (cS (.int 2)) (consS (callS 2 F__law_take (consS (varS 0) (consS (cS (.int 40)) nilS))) (consS (op2 powD (cS (.int 10)) (cS (.int 30))) (consS (op2 subD (op2 powD (cS (.int 10)) (cS (.int 30))) (cS (.int 1))) (consS (callS 2 F__law_take (consS (varS 0) (consS (op2 powD (cS (.int 10)) (cS (.int 30))) nilS))) nilS))))))))) nilS))) fun d _ s => .rt d s)
def F__law_number : Fn := fnS ["jar"] b__law_number
theorem sc__law_number : FnScope ["jar"] ["jar"] (defScope s__law_number) := ⟨rfl, rfl, rfl, by decide +kernel, rfl, by decide +kernel, by decide +kernel⟩
/-! ### _law_others -/
abbrev s__law_others : Stmt := top 36
def b__law_others : Ss := (seqS (unS [1, 2] (callS 1 F__law_count (consS (varS 0) nilS))) (seqS (thenS (op2 addD (op2 powD (cS (.int 10)) (cS (.int 30))) (cS (.int 1))) fun d ρ s => .nx (ρ.set 3 (.dat d)) s) (seqS (thenL (lstS (consS (cS .non) (consS (cS (.bl true)) (consS (cS (.int 0)) (consS (cS (.str "n")) (consS (cS (.str "")) (consS (tupS nilS) (consS (tupS (consS (varS 1) nilS)) (consS (tupS (consS (varS 1) (consS (varS 2) (consS (cS (.int 0)) nilS)))) (consS (giveS (lstS (consS (varS 1) (consS (varS 2) nilS)))) (consS (tupS (consS (cS (.int 10)) (consS (varS 2) nilS))) (consS (tupS (consS (op1 negD (cS (.int 1))) (consS (cS (.int 0)) nilS))) (consS (tupS (consS (cS (.int 0)) (consS (op1 negD (cS (.int 1))) nilS))) (consS (tupS (consS (cS (.int 1)) (consS (varS 3) nilS))) (consS (tupS (consS (cS (.int 1)) (consS (op1 negD (varS 3)) nilS))) nilS))))))))))))))) fun ds ρ s => .nx (ρ.set 4 (.own ds)) s) (seqS (extS 4 (consS (giveS (lstS (consS (tupS (consS (cS (.int 0)) (consS (varS 3) nilS))) (consS (tupS (consS (cS (.bl true)) (consS (cS (.int 0)) nilS))) (consS (tupS (consS (cS (.int 1)) (consS (cS (.bl true)) nilS))) (consS (tupS (consS (cS .non) (consS (cS (.int 0)) nilS))) (consS (tupS (consS (cS (.int 1)) (consS (cS .non) nilS))) (consS (tupS (consS (cS (.str "1")) (consS (cS (.int 0)) nilS))) (consS (tupS (consS (cS (.int 1)) (consS (cS (.str "0")) nilS))) (consS (tupS (consS (tupS (consS (cS (.int 1)) (consS (cS (.int 0)) nilS))) nilS)) (consS (d1S "a" (.int 1)) nilS))))))))))) nilS)) (frzS 4 (thenS (op2 addD (varS 4) (giveS (lstS (consS (tupS (consS (varS 1) (consS (varS 2) nilS))) nilS)))) fun d _ s => .rt d s))))))
def F__law_others : Fn := fnS ["jar", "a", "b", "far", "some"] b__law_others
theorem sc__law_others : FnScope ["jar", "a", "b", "far", "some"] ["jar"] (defScope s__law_others) := ⟨rfl, rfl, rfl, by decide +kernel, rfl, by decide +kernel, by decide +kernel⟩
/-! ### _law_heard_text -/
abbrev s__law_heard_text : Stmt := top 37
def b__law_heard_text : Ss := (thenS (heardS selM (callS 1 F_parse_count (consS (varS 0) nilS))) fun d _ s => .rt d s)
def F__law_heard_text : Fn := fnS ["thing"] b__law_heard_text
theorem sc__law_heard_text : FnScope ["thing"] ["thing"] (defScope s__law_heard_text) := ⟨rfl, rfl, rfl, by decide +kernel, rfl, by decide +kernel, by decide +kernel⟩
/-! ### _law_text_right -/
abbrev s__law_text_right : Stmt := top 38
def b__law_text_right : Ss := (seqS (thenS (callS 1 F__law_read (consS (varS 0) nilS)) fun d ρ s => .nx (ρ.set 1 (.dat d)) s) (thenS (callS 2 F__law_yq_same (consS (callS 1 F__law_heard_text (consS (varS 0) nilS)) (consS (ifS (asB (op2 (eqD true) (varS 1) (tupS nilS))) (tupS (consS (cS (.str "told")) (consS (ixS jlM (varS 1) (cS (.int 0))) nilS))) (tupS (consS (cS (.str "BadText")) (consS (varS 0) nilS)))) nilS))) fun d _ s => .rt d s))
def F__law_text_right : Fn := fnS ["thing", "owed"] b__law_text_right
theorem sc__law_text_right : FnScope ["thing", "owed"] ["thing"] (defScope s__law_text_right) := ⟨rfl, rfl, rfl, by decide +kernel, rfl, by decide +kernel, by decide +kernel⟩
/-! ### _law_bent -/
abbrev s__law_bent : Stmt := top 39
def b__law_bent : Ss := (seqS (parS 2 3 (consS (callS 2 F__law_take (consS (varS 0) (consS (op2 addD (cbS lenC (consS (varS 1) nilS)) (cS (.int 1))) nilS))) (consS (callS 2 F__law_one (consS (varS 0) (consS (op2 addD (giveS (cbL listC (consS (cS (.str "0123456789n+- ")) nilS))) (giveS (lstS (consS (cS (.str "")) (consS (cS (.str "nn")) (consS (cS (.str "+-")) (consS (cS (.str "x")) nilS))))))) nilS))) nilS))) (seqS (thenL (lstS (consS (op2 addD (op2 addD (slS cutD (varS 1) noP (soP (varS 2))) (varS 3)) (slS cutD (varS 1) (soP (varS 2)) noP)) (consS (op2 addD (slS cutD (varS 1) noP (soP (varS 2))) (slS cutD (varS 1) (soP (op2 addD (varS 2) (cS (.int 1)))) noP)) (consS (op2 addD (op2 addD (slS cutD (varS 1) noP (soP (varS 2))) (varS 3)) (slS cutD (varS 1) (soP (op2 addD (varS 2) (cS (.int 1)))) noP)) (consS (op2 addD (cS (.str "0")) (varS 1)) nilS))))) fun ds ρ s => .nx (ρ.set 4 (.own ds)) s) (seqS (extS 4 (consS (giveS (lstS (consS (op2 addD (varS 1) (cS (.str " "))) (consS (op2 addD (cS (.str " ")) (varS 1)) (consS (op2 addD (cS (.str "+")) (varS 1)) (consS (op2 addD (cS (.str "-")) (varS 1)) (consS (op2 addD (cS (.str "1")) (varS 1)) (consS (op2 addD (varS 1) (cS (.str "+0"))) (consS (op2 addD (varS 1) (cS (.str "-0"))) (consS (op1s upperD (varS 1)) nilS)))))))))) nilS)) (frzS 4 (thenS (op2 addD (varS 4) (giveS (lstS (consS (op2 addD (varS 1) (op2 mulD (cS (.str "0")) (cS (.int 31)))) (consS (op2 addD (varS 1) (op2 mulD (cS (.str "9")) (cS (.int 4000)))) (consS (op2 mulD (varS 1) (cS (.int 1000))) (consS (giveS (lstS (consS (varS 1) nilS))) (consS (tupS (consS (varS 1) nilS)) nilS)))))))) fun d _ s => .rt d s)))))
def F__law_bent : Fn := fnS ["jar", "text", "at", "sign", "made"] b__law_bent
theorem sc__law_bent : FnScope ["jar", "text", "at", "sign", "made"] ["jar", "text"] (defScope s__law_bent) := ⟨rfl, rfl, rfl, by decide +kernel, rfl, by decide +kernel, by decide +kernel⟩
/-! ### _law_count_right -/
abbrev s__law_count_right : Stmt := top 40
def b__law_count_right : Ss := (seqS (unS [2, 3] (tupS (consS (callS 1 F__law_number (consS (varS 0) nilS)) (consS (callS 1 F__law_ra_count_text (consS (varS 1) nilS)) nilS)))) (seqS (thenL (lstS (consS (heardS selM (tupS (consS (callS 1 F_is_count (consS (varS 1) nilS)) (consS (callS 2 F_rounds (consS (varS 1) (consS (varS 2) nilS))) (consS (callS 1 F_format_count (consS (varS 1) nilS)) nilS))))) nilS)) fun ds ρ s => .nx (ρ.set 4 (.own ds)) s) (seqS (appS 4 (consS (callS 1 F__law_heard_text (consS (varS 3) nilS)) nilS)) (frzS 4 (seqS (thenS (giveS (lstS (consS (tupS (consS (cS (.str "told")) (consS (tupS (consS (cS (.bl true)) (consS (callS 2 F__law_ra_rounds (consS (varS 1) (consS (varS 2) nilS))) (consS (varS 3) nilS)))) nilS))) (consS (tupS (consS (cS (.str "told")) (consS (varS 1) nilS))) nilS)))) fun d ρ s => .nx (ρ.set 5 (.dat d)) s) (seqS (iffS (notS (asB (callS 2 F__law_yq_same (consS (varS 4) (consS (varS 5) nilS))))) (thenS (cS (.bl false)) fun d _ s => .rt d s) skipS) (thenS (op2 eqX (giveS (lcLS 6 (notS (asB (callS 1 F__law_text_right (consS (varS 6) nilS)))) (varS 6) (callS 2 F__law_bent (consS (varS 0) (consS (varS 3) nilS))))) (giveS (lstS nilS))) fun d _ s => .rt d s)))))))
def F__law_count_right : Fn := fnS ["jar", "count", "n", "text", "said", "owed", "thing"] b__law_count_right
theorem sc__law_count_right : FnScope ["jar", "count", "n", "text", "said", "owed", "thing"] ["jar", "count"] (defScope s__law_count_right) := ⟨rfl, rfl, rfl, by decide +kernel, rfl, by decide +kernel, by decide +kernel⟩
/-! ### _law_other_right -/
abbrev s__law_other_right : Stmt := top 41
def b__law_other_right : Ss := (seqS (unS [2, 3] (tupS (consS (callS 1 F__law_ra_is_count (consS (varS 1) nilS)) (consS (callS 1 F__law_number (consS (varS 0) nilS)) nilS)))) (seqS (thenS (callS 2 F__law_one (consS (varS 0) (consS (giveS (lstS (consS (op1 negD (cS (.int 1))) (consS (op2 addD (op2 powD (cS (.int 10)) (cS (.int 30))) (cS (.int 1))) (consS (cS (.bl true)) (consS (cS .non) (consS (cS (.str "3")) (consS (tupS (consS (cS (.int 1)) nilS)) nilS)))))))) nilS))) fun d ρ s => .nx (ρ.set 4 (.dat d)) s) (seqS (thenL (lstS (consS (heardS selM (callS 1 F_is_count (consS (varS 1) nilS))) nilS)) fun ds ρ s => .nx (ρ.set 5 (.own ds)) s) (seqS (appS 5 (consS (heardS selM (callS 2 F_rounds (consS (varS 1) (consS (varS 4) nilS)))) nilS)) (seqS (appS 5 (consS (heardS selM (callS 2 F_rounds (consS (varS 1) (consS (varS 3) nilS)))) nilS)) (seqS (appS 5 (consS (heardS selM (callS 1 F_format_count (consS (varS 1) nilS))) nilS)) (frzS 5 (seqS (iffS (notS (asB (varS 2))) (thenS (callS 2 F__law_yq_same (consS (varS 5) (consS (op2 addD (giveS (lstS (consS (tupS (consS (cS (.str "told")) (consS (cS (.bl false)) nilS))) nilS))) (op2 mulD (giveS (lstS (consS (tupS (consS (cS (.str "BadCount")) (consS (varS 1) nilS))) nilS))) (cS (.int 3)))) nilS))) fun d _ s => .rt d s) skipS) (seqS (thenS (giveS (lstS (consS (tupS (consS (cS (.str "told")) (consS (cS (.bl true)) nilS))) (consS (tupS (consS (cS (.str "BadNumber")) (consS (varS 4) nilS))) (consS (tupS (consS (cS (.str "told")) (consS (callS 2 F__law_ra_rounds (consS (varS 1) (consS (varS 3) nilS))) nilS))) nilS))))) fun d ρ s => .nx (ρ.set 6 (.dat d)) s) (thenS (callS 2 F__law_yq_same (consS (varS 5) (consS (op2 addD (varS 6) (giveS (lstS (consS (tupS (consS (cS (.str "told")) (consS (callS 1 F__law_ra_count_text (consS (varS 1) nilS)) nilS))) nilS)))) nilS))) fun d _ s => .rt d s))))))))))
def F__law_other_right : Fn := fnS ["jar", "thing", "is_one", "n", "odd", "said", "owed"] b__law_other_right
theorem sc__law_other_right : FnScope ["jar", "thing", "is_one", "n", "odd", "said", "owed"] ["jar", "thing"] (defScope s__law_other_right) := ⟨rfl, rfl, rfl, by decide +kernel, rfl, by decide +kernel, by decide +kernel⟩
/-! ### _law_short_right -/
abbrev s__law_short_right : Stmt := top 42
def b__law_short_right : Ss := (seqS (thenS (giveS (cbL listC (consS (cS (.str "0129n+- ")) nilS))) fun d ρ s => .nx (ρ.set 0 (.dat d)) s) (seqS (thenL (op2L catL (giveS (lstS (consS (cS (.str "")) nilS))) (varS 0)) fun ds ρ s => .nx (ρ.set 1 (.own ds)) s) (seqS (forL 2 (varS 0) (extS 1 (consS (giveS (lcLS 3 yesS (op2 addD (varS 2) (varS 3)) (varS 0))) nilS))) (seqS (forL 2 (giveS (lstS (consS (cS (.str "n+")) (consS (cS (.str "n-")) (consS (cS (.str "2n")) (consS (cS (.str "1n")) (consS (cS (.str "9n")) (consS (cS (.str "0n")) (consS (cS (.str "nn")) (consS (cS (.str "10")) (consS (cS (.str "00")) (consS (cS (.str "+n")) (consS (cS (.str "-1")) nilS))))))))))))) (extS 1 (consS (giveS (lcLS 3 yesS (op2 addD (varS 2) (varS 3)) (varS 0))) nilS))) (frzS 1 (thenS (op2 eqX (giveS (lcLS 4 (notS (asB (callS 1 F__law_text_right (consS (varS 4) nilS)))) (varS 4) (varS 1))) (giveS (lstS nilS))) fun d _ s => .rt d s))))))
def F__law_short_right : Fn := fnS ["signs", "some", "one", "other", "text"] b__law_short_right
theorem sc__law_short_right : FnScope ["signs", "some", "one", "other", "text"] [] (defScope s__law_short_right) := ⟨rfl, rfl, rfl, by decide +kernel, rfl, by decide +kernel, by decide +kernel⟩
abbrev s_law : Stmt := top 43
theorem sc_law : FnScope ["script", "jar", "go", "thing", "some", "count", "far"] ["script"] (defScope s_law) := ⟨rfl, rfl, rfl, by decide +kernel, rfl, by decide +kernel, by decide +kernel⟩
/-! ## the addresses, what is known of the top -/
structure Ad where
  f_is_integer : Addr
  d_is_integer : FuncData
  f_is_between : Addr
  d_is_between : FuncData
  f_check_number : Addr
  d_check_number : FuncData
  f_is_count : Addr
  d_is_count : FuncData
  f_check_count : Addr
  d_check_count : FuncData
  f_rounds_at : Addr
  d_rounds_at : FuncData
  f_rounds : Addr
  d_rounds : FuncData
  f_format_count : Addr
  d_format_count : FuncData
  f_number_in : Addr
  d_number_in : FuncData
  f_count_in : Addr
  d_count_in : FuncData
  f_parse_count : Addr
  d_parse_count : FuncData
  f__law_pool : Addr
  d__law_pool : FuncData
  f__law_take : Addr
  d__law_take : FuncData
  f__law_one : Addr
  d__law_one : FuncData
  f__law_yq_is_whole : Addr
  d__law_yq_is_whole : FuncData
  f__law_yq_same : Addr
  d__law_yq_same : FuncData
  f__law_ra_is_int : Addr
  d__law_ra_is_int : FuncData
  f__law_ra_is_count : Addr
  d__law_ra_is_count : FuncData
  f__law_ra_rounds : Addr
  d__law_ra_rounds : FuncData
  f__law_ra_count_text : Addr
  d__law_ra_count_text : FuncData
  f__law_heard : Addr
  f__law_figures : Addr
  d__law_figures : FuncData
  f__law_read : Addr
  d__law_read : FuncData
  f__law_count : Addr
  d__law_count : FuncData
  f__law_number : Addr
  d__law_number : FuncData
  f__law_others : Addr
  d__law_others : FuncData
  f__law_heard_text : Addr
  d__law_heard_text : FuncData
  f__law_text_right : Addr
  d__law_text_right : FuncData
  f__law_bent : Addr
  d__law_bent : FuncData
  f__law_count_right : Addr
  d__law_count_right : FuncData
  f__law_other_right : Addr
  d__law_other_right : FuncData
  f__law_short_right : Addr
  d__law_short_right : FuncData
  f_law : Addr
  d_law : FuncData
  a_RoomError : Addr
  a_BadText : Addr
  a_BadCount : Addr
  a_BadNumber : Addr
  fI : Addr
  c__law_heard_text : Addr
  P__law_heard_text : Addr
  c__law_count_right : Addr
  P__law_count_right : Addr
  c__law_other_right : Addr
  P__law_other_right : Addr
  h_oc : Value
  h_od : Option Addr
  h_kV : Value
  h_doc : Value
  h_pm : Value
  h_an : Option Addr
  h_cdv : Value
  h_ct : Value
  h_osl : Array (Option Value)
def Ad.cl (E : Ad) : Nat → Addr
  | 0 => E.a_RoomError
  | 1 => E.a_BadText
  | 2 => E.a_BadCount
  | 3 => E.a_BadNumber
  | _ => 0
def Ad.T (E : Ad) : List (Addr × Str) := [(E.P__law_heard_text, ("_law_heard_text" : Str) ++ ".<locals>." ++ "<lambda>"), (E.P__law_count_right, ("_law_count_right" : Str) ++ ".<locals>." ++ "<lambda>"), (E.P__law_other_right, ("_law_other_right" : Str) ++ ".<locals>." ++ "<lambda>")]
abbrev Ad.C (E : Ad) : Ct := mkC E.T E.cl
abbrev Ad.C0 (E : Ad) : Ct := mkC0 E.T E.cl
def Ad.hl (E : Ad) : List (Addr × Str) := [(E.a_BadCount, "BadCount"), (E.a_BadNumber, "BadNumber"), (E.a_BadText, "BadText"), (E.a_RoomError, "another")]
structure TBs (base : Heap) (mg : Str → Option Value) (E : Ad) : Prop where
  t__law_heard_text : LamX.TabB base mg E.c__law_heard_text E.P__law_heard_text
  t__law_count_right : LamX.TabB base mg E.c__law_count_right E.P__law_count_right
  t__law_other_right : LamX.TabB base mg E.c__law_other_right E.P__law_other_right
structure Txt (P : Program) (K : PySem.W.Frag) (mg : Str → Option Value) (E : Ad) : Prop where
  n_super : mg "super" = none
  n_abs : mg "abs" = none
  n_all : mg "all" = none
  n_bool : mg "bool" = none
  n_int : mg "int" = none
  n_isinstance : mg "isinstance" = none
  n_len : mg "len" = none
  n_list : mg "list" = none
  n_max : mg "max" = none
  n_range : mg "range" = none
  n_str : mg "str" = none
  n_tuple : mg "tuple" = none
  g_FIGURES : ∃ t, mg "FIGURES" = some (.str "0123456789" t)
  g_MOST_NUMBER : ∃ t, mg "MOST_NUMBER" = some (.int (10 ^ 30) t)
  g_MOST_FIGURES : ∃ t, mg "MOST_FIGURES" = some (.int 31 t)
  g_MOST_TIMES : ∃ t, mg "MOST_TIMES" = some (.int 9 t)
  m_is_integer : mg "is_integer" = some (.ref E.f_is_integer)
  k_is_integer : PySem.W.keepIn K (.ref E.f_is_integer) = true
  fn_is_integer : Fun K "is_integer" "is_integer" s_is_integer E.f_is_integer E.d_is_integer
  b_is_integer : L2.Binds K E.d_is_integer ["thing"] []
  m_is_between : mg "is_between" = some (.ref E.f_is_between)
  k_is_between : PySem.W.keepIn K (.ref E.f_is_between) = true
  fn_is_between : Fun K "is_between" "is_between" s_is_between E.f_is_between E.d_is_between
  b_is_between : L2.Binds K E.d_is_between ["thing", "least", "most"] []
  m_check_number : mg "check_number" = some (.ref E.f_check_number)
  k_check_number : PySem.W.keepIn K (.ref E.f_check_number) = true
  fn_check_number : Fun K "check_number" "check_number" s_check_number E.f_check_number E.d_check_number
  b_check_number : L2.Binds K E.d_check_number ["n"] []
  m_is_count : mg "is_count" = some (.ref E.f_is_count)
  k_is_count : PySem.W.keepIn K (.ref E.f_is_count) = true
  fn_is_count : Fun K "is_count" "is_count" s_is_count E.f_is_count E.d_is_count
  b_is_count : L2.Binds K E.d_is_count ["thing"] []
  m_check_count : mg "check_count" = some (.ref E.f_check_count)
  k_check_count : PySem.W.keepIn K (.ref E.f_check_count) = true
  fn_check_count : Fun K "check_count" "check_count" s_check_count E.f_check_count E.d_check_count
  b_check_count : L2.Binds K E.d_check_count ["count"] []
  m_rounds_at : mg "rounds_at" = some (.ref E.f_rounds_at)
  k_rounds_at : PySem.W.keepIn K (.ref E.f_rounds_at) = true
  fn_rounds_at : Fun K "rounds_at" "rounds_at" s_rounds_at E.f_rounds_at E.d_rounds_at
  b_rounds_at : L2.Binds K E.d_rounds_at ["count", "n"] []
  m_rounds : mg "rounds" = some (.ref E.f_rounds)
  k_rounds : PySem.W.keepIn K (.ref E.f_rounds) = true
  fn_rounds : Fun K "rounds" "rounds" s_rounds E.f_rounds E.d_rounds
  b_rounds : L2.Binds K E.d_rounds ["count", "n"] []
  m_format_count : mg "format_count" = some (.ref E.f_format_count)
  k_format_count : PySem.W.keepIn K (.ref E.f_format_count) = true
  fn_format_count : Fun K "format_count" "format_count" s_format_count E.f_format_count E.d_format_count
  b_format_count : L2.Binds K E.d_format_count ["count"] []
  m_number_in : mg "number_in" = some (.ref E.f_number_in)
  k_number_in : PySem.W.keepIn K (.ref E.f_number_in) = true
  fn_number_in : Fun K "number_in" "number_in" s_number_in E.f_number_in E.d_number_in
  b_number_in : L2.Binds K E.d_number_in ["text"] []
  m_count_in : mg "count_in" = some (.ref E.f_count_in)
  k_count_in : PySem.W.keepIn K (.ref E.f_count_in) = true
  fn_count_in : Fun K "count_in" "count_in" s_count_in E.f_count_in E.d_count_in
  b_count_in : L2.Binds K E.d_count_in ["text"] []
  m_parse_count : mg "parse_count" = some (.ref E.f_parse_count)
  k_parse_count : PySem.W.keepIn K (.ref E.f_parse_count) = true
  fn_parse_count : Fun K "parse_count" "parse_count" s_parse_count E.f_parse_count E.d_parse_count
  b_parse_count : L2.Binds K E.d_parse_count ["text"] []
  m__law_pool : mg "_law_pool" = some (.ref E.f__law_pool)
  k__law_pool : PySem.W.keepIn K (.ref E.f__law_pool) = true
  fn__law_pool : Fun K "_law_pool" "_law_pool" s__law_pool E.f__law_pool E.d__law_pool
  b__law_pool : L2.Binds K E.d__law_pool ["script"] []
  m__law_take : mg "_law_take" = some (.ref E.f__law_take)
  k__law_take : PySem.W.keepIn K (.ref E.f__law_take) = true
  fn__law_take : Fun K "_law_take" "_law_take" s__law_take E.f__law_take E.d__law_take
  b__law_take : L2.Binds K E.d__law_take ["jar", "many"] []
  m__law_one : mg "_law_one" = some (.ref E.f__law_one)
  k__law_one : PySem.W.keepIn K (.ref E.f__law_one) = true
  fn__law_one : Fun K "_law_one" "_law_one" s__law_one E.f__law_one E.d__law_one
  b__law_one : L2.Binds K E.d__law_one ["jar", "things"] []
  m__law_yq_is_whole : mg "_law_yq_is_whole" = some (.ref E.f__law_yq_is_whole)
  k__law_yq_is_whole : PySem.W.keepIn K (.ref E.f__law_yq_is_whole) = true
  fn__law_yq_is_whole : Fun K "_law_yq_is_whole" "_law_yq_is_whole" s__law_yq_is_whole E.f__law_yq_is_whole E.d__law_yq_is_whole
  b__law_yq_is_whole : L2.Binds K E.d__law_yq_is_whole ["thing"] []
  m__law_yq_same : mg "_law_yq_same" = some (.ref E.f__law_yq_same)
  k__law_yq_same : PySem.W.keepIn K (.ref E.f__law_yq_same) = true
  fn__law_yq_same : Fun K "_law_yq_same" "_law_yq_same" s__law_yq_same E.f__law_yq_same E.d__law_yq_same
  b__law_yq_same : L2.Binds K E.d__law_yq_same ["heard_one", "owed"] []
  m__law_ra_is_int : mg "_law_ra_is_int" = some (.ref E.f__law_ra_is_int)
  k__law_ra_is_int : PySem.W.keepIn K (.ref E.f__law_ra_is_int) = true
  fn__law_ra_is_int : Fun K "_law_ra_is_int" "_law_ra_is_int" s__law_ra_is_int E.f__law_ra_is_int E.d__law_ra_is_int
  b__law_ra_is_int : L2.Binds K E.d__law_ra_is_int ["thing", "low", "high"] []
  m__law_ra_is_count : mg "_law_ra_is_count" = some (.ref E.f__law_ra_is_count)
  k__law_ra_is_count : PySem.W.keepIn K (.ref E.f__law_ra_is_count) = true
  fn__law_ra_is_count : Fun K "_law_ra_is_count" "_law_ra_is_count" s__law_ra_is_count E.f__law_ra_is_count E.d__law_ra_is_count
  b__law_ra_is_count : L2.Binds K E.d__law_ra_is_count ["thing"] []
  m__law_ra_rounds : mg "_law_ra_rounds" = some (.ref E.f__law_ra_rounds)
  k__law_ra_rounds : PySem.W.keepIn K (.ref E.f__law_ra_rounds) = true
  fn__law_ra_rounds : Fun K "_law_ra_rounds" "_law_ra_rounds" s__law_ra_rounds E.f__law_ra_rounds E.d__law_ra_rounds
  b__law_ra_rounds : L2.Binds K E.d__law_ra_rounds ["count", "n"] []
  m__law_ra_count_text : mg "_law_ra_count_text" = some (.ref E.f__law_ra_count_text)
  k__law_ra_count_text : PySem.W.keepIn K (.ref E.f__law_ra_count_text) = true
  fn__law_ra_count_text : Fun K "_law_ra_count_text" "_law_ra_count_text" s__law_ra_count_text E.f__law_ra_count_text E.d__law_ra_count_text
  b__law_ra_count_text : L2.Binds K E.d__law_ra_count_text ["count"] []
  m__law_heard : mg "_law_heard" = some (.ref E.f__law_heard)
  k__law_heard : PySem.W.keepIn K (.ref E.f__law_heard) = true
  heard_lk : K.lookup E.f__law_heard = some ⟨E.h_oc, E.h_od, .func (PySem.W.fnOf "_law_heard" "_law_heard" (defArgs s__law_heard) (defBody s__law_heard) (defScope s__law_heard) .none E.h_kV E.h_doc E.h_pm E.h_an E.h_cdv E.h_ct), E.h_osl⟩
  heard_cd : PySem.W.codeIn K E.h_cdv "_law_heard" = true
  heard_b : L2.Binds K (PySem.W.fnOf "_law_heard" "_law_heard" (defArgs s__law_heard) (defBody s__law_heard) (defScope s__law_heard) .none E.h_kV E.h_doc E.h_pm E.h_an E.h_cdv E.h_ct) ["asked_now"] []
  m__law_figures : mg "_law_figures" = some (.ref E.f__law_figures)
  k__law_figures : PySem.W.keepIn K (.ref E.f__law_figures) = true
  fn__law_figures : Fun K "_law_figures" "_law_figures" s__law_figures E.f__law_figures E.d__law_figures
  b__law_figures : L2.Binds K E.d__law_figures ["text"] []
  m__law_read : mg "_law_read" = some (.ref E.f__law_read)
  k__law_read : PySem.W.keepIn K (.ref E.f__law_read) = true
  fn__law_read : Fun K "_law_read" "_law_read" s__law_read E.f__law_read E.d__law_read
  b__law_read : L2.Binds K E.d__law_read ["text"] []
  m__law_count : mg "_law_count" = some (.ref E.f__law_count)
  k__law_count : PySem.W.keepIn K (.ref E.f__law_count) = true
  fn__law_count : Fun K "_law_count" "_law_count" s__law_count E.f__law_count E.d__law_count
  b__law_count : L2.Binds K E.d__law_count ["jar"] []
  m__law_number : mg "_law_number" = some (.ref E.f__law_number)
  k__law_number : PySem.W.keepIn K (.ref E.f__law_number) = true
  fn__law_number : Fun K "_law_number" "_law_number" s__law_number E.f__law_number E.d__law_number
  b__law_number : L2.Binds K E.d__law_number ["jar"] []
  m__law_others : mg "_law_others" = some (.ref E.f__law_others)
  k__law_others : PySem.W.keepIn K (.ref E.f__law_others) = true
  fn__law_others : Fun K "_law_others" "_law_others" s__law_others E.f__law_others E.d__law_others
  b__law_others : L2.Binds K E.d__law_others ["jar"] []
  m__law_heard_text : mg "_law_heard_text" = some (.ref E.f__law_heard_text)
  k__law_heard_text : PySem.W.keepIn K (.ref E.f__law_heard_text) = true
  fn__law_heard_text : FunC K "_law_heard_text" "_law_heard_text" s__law_heard_text E.f__law_heard_text E.d__law_heard_text (.ref E.c__law_heard_text)
  tab__law_heard_text : (E.P__law_heard_text, ("_law_heard_text" : Str) ++ ".<locals>." ++ "<lambda>") ∈ E.T
  tabu__law_heard_text : ∀ p ∈ E.T, p.1 = E.P__law_heard_text → p.2 = ("_law_heard_text" : Str) ++ ".<locals>." ++ "<lambda>"
  b__law_heard_text : L2.Binds K E.d__law_heard_text ["thing"] []
  m__law_text_right : mg "_law_text_right" = some (.ref E.f__law_text_right)
  k__law_text_right : PySem.W.keepIn K (.ref E.f__law_text_right) = true
  fn__law_text_right : Fun K "_law_text_right" "_law_text_right" s__law_text_right E.f__law_text_right E.d__law_text_right
  b__law_text_right : L2.Binds K E.d__law_text_right ["thing"] []
  m__law_bent : mg "_law_bent" = some (.ref E.f__law_bent)
  k__law_bent : PySem.W.keepIn K (.ref E.f__law_bent) = true
  fn__law_bent : Fun K "_law_bent" "_law_bent" s__law_bent E.f__law_bent E.d__law_bent
  b__law_bent : L2.Binds K E.d__law_bent ["jar", "text"] []
  m__law_count_right : mg "_law_count_right" = some (.ref E.f__law_count_right)
  k__law_count_right : PySem.W.keepIn K (.ref E.f__law_count_right) = true
  fn__law_count_right : FunC K "_law_count_right" "_law_count_right" s__law_count_right E.f__law_count_right E.d__law_count_right (.ref E.c__law_count_right)
  tab__law_count_right : (E.P__law_count_right, ("_law_count_right" : Str) ++ ".<locals>." ++ "<lambda>") ∈ E.T
  tabu__law_count_right : ∀ p ∈ E.T, p.1 = E.P__law_count_right → p.2 = ("_law_count_right" : Str) ++ ".<locals>." ++ "<lambda>"
  b__law_count_right : L2.Binds K E.d__law_count_right ["jar", "count"] []
  m__law_other_right : mg "_law_other_right" = some (.ref E.f__law_other_right)
  k__law_other_right : PySem.W.keepIn K (.ref E.f__law_other_right) = true
  fn__law_other_right : FunC K "_law_other_right" "_law_other_right" s__law_other_right E.f__law_other_right E.d__law_other_right (.ref E.c__law_other_right)
  tab__law_other_right : (E.P__law_other_right, ("_law_other_right" : Str) ++ ".<locals>." ++ "<lambda>") ∈ E.T
  tabu__law_other_right : ∀ p ∈ E.T, p.1 = E.P__law_other_right → p.2 = ("_law_other_right" : Str) ++ ".<locals>." ++ "<lambda>"
  b__law_other_right : L2.Binds K E.d__law_other_right ["jar", "thing"] []
  m__law_short_right : mg "_law_short_right" = some (.ref E.f__law_short_right)
  k__law_short_right : PySem.W.keepIn K (.ref E.f__law_short_right) = true
  fn__law_short_right : Fun K "_law_short_right" "_law_short_right" s__law_short_right E.f__law_short_right E.d__law_short_right
  b__law_short_right : L2.Binds K E.d__law_short_right [] []
  m_law : mg "law" = some (.ref E.f_law)
  k_law : PySem.W.keepIn K (.ref E.f_law) = true
  fn_law : Fun K "law" "law" s_law E.f_law E.d_law
  b_law : L2.Binds K E.d_law ["script"] []
  g_RoomError : mg "RoomError" = some (.ref E.a_RoomError)
  g_BadText : mg "BadText" = some (.ref E.a_BadText)
  g_BadCount : mg "BadCount" = some (.ref E.a_BadCount)
  g_BadNumber : mg "BadNumber" = some (.ref E.a_BadNumber)
  x_BadText : RX.Txt P K mg "BadText" (E.cl 1) E.a_RoomError E.fI
  x_BadCount : RX.Txt P K mg "BadCount" (E.cl 2) E.a_RoomError E.fI
  x_BadNumber : RX.Txt P K mg "BadNumber" (E.cl 3) E.a_RoomError E.fI
  sel : ∀ c nm, selM c = some nm → Sel K (.ref (E.C.cl c)) E.hl nm ∧ ∃ y R fI, RX.Txt P K mg y (E.C.cl c) R fI
theorem heard_gv {X : Cx} {E : Ad} (T : Txt X.prog X.K X.mg E) {q : Str} : LamX.GivesTo X ["asked_now", "error_one"] "_law_heard" (defScope s__law_heard) E.f__law_heard E.h_cdv (defBody s__law_heard) "asked_now" q (TH X.prog X.K X.mg E.hl) := by
  exact heard_gives (l := E.hl) (by decide) rfl rfl rfl (fun s H => by exact (clause rfl (Or.inl rfl) (by decide) (by decide) ⟨rfl, by decide, Or.inl T.g_BadCount⟩ (clause rfl (Or.inl rfl) (by decide) (by decide) ⟨rfl, by decide, Or.inl T.g_BadNumber⟩ (clause rfl (Or.inl rfl) (by decide) (by decide) ⟨rfl, by decide, Or.inl T.g_BadText⟩ (clause rfl (Or.inl rfl) (by decide) (by decide) ⟨rfl, by decide, Or.inl T.g_RoomError⟩ .nil)))))
/-! ## each def keeps its promise -/
theorem ok_is_integer {P : Program} {w : World} {K : PySem.W.Frag} {mg : Str → Option Value} {base : Heap} {E : Ad} (T : Txt P K mg E) : FnOk P w K mg base (L2.CX P w) 1 E.f_is_integer E.d_is_integer ["thing"] (SP K E.C 1 F_is_integer) := fn_ok T.fn_is_integer sc_is_integer fun cdv A outer s H E' hr tk => by
  exact (ds_one (ds_ret (de_and (w_isi rfl T.n_isinstance (da_cons (de_var (pv 0)) (da_cons (de_ty PyProof.Rows.Boot.«int» rfl T.n_int) da_nil))) (de_one (de_not (w_isi rfl T.n_isinstance (da_cons (de_var (pv 0)) (da_cons (de_ty PyProof.Rows.Boot.«bool» rfl T.n_bool) da_nil))))))))
theorem ok_is_between {P : Program} {w : World} {K : PySem.W.Frag} {mg : Str → Option Value} {base : Heap} {E : Ad} (T : Txt P K mg E) : FnOk P w K mg base (L2.CX P w) 2 E.f_is_between E.d_is_between ["thing", "least", "most"] (SP K E.C 3 F_is_between) := fn_ok T.fn_is_between sc_is_between fun cdv A outer s H E' hr tk => by
  exact (ds_one (ds_ret (de_and (de_call (ok_is_integer T) (hr.mono (by decide)) tk rfl T.m_is_integer T.k_is_integer T.b_is_integer (da_cons (de_var (pv 0)) da_nil)) (de_one (de_ch op_le sn_cmpI op_le sn_cmpI (de_var (pv 1)) (de_var (pv 0)) (de_var (pv 2)))))))
theorem ok_check_number {P : Program} {w : World} {K : PySem.W.Frag} {mg : Str → Option Value} {base : Heap} {E : Ad} (T : Txt P K mg E) : FnOk P w K mg base (L2.CX P w) 3 E.f_check_number E.d_check_number ["n"] (SP K E.C 1 F_check_number) := fn_ok T.fn_check_number sc_check_number fun cdv A outer s H E' hr tk => by
  exact (ds_one (ds_if (dt_not (dt_val (de_call (ok_is_between T) (hr.mono (by decide)) tk rfl T.m_is_between T.k_is_between T.b_is_between (da_cons (de_var (pv 0)) (da_cons de_int (da_cons (de_gi rfl T.g_MOST_NUMBER) da_nil)))))) (ds_one (ds_raise (c := 3) (k := 0) rfl T.x_BadNumber T.n_super (hr.mono (by decide)) tk (de_var (pv 0)) rfl)) ds_nil))
theorem ok_is_count {P : Program} {w : World} {K : PySem.W.Frag} {mg : Str → Option Value} {base : Heap} {E : Ad} (T : Txt P K mg E) : FnOk P w K mg base (L2.CX P w) 3 E.f_is_count E.d_is_count ["thing"] (SP K E.C 1 F_is_count) := fn_ok T.fn_is_count sc_is_count fun cdv A outer s H E' hr tk => by
  exact (ds_cons (ds_if (PW.pt (dw_or (dt_not (dt_val (w_isi rfl T.n_isinstance (da_cons (de_var (pv 0)) (da_cons (de_ty PyProof.Rows.Boot.«tuple» rfl T.n_tuple) da_nil))))) (dw_or (dt_cmp (opNeX hr) sn_ne (w_len rfl T.n_len (da_cons (de_var (pv 0)) da_nil)) de_int) (dw_one_or (dt_not (dt_val (de_call (ok_is_between T) (hr.mono (by decide)) tk rfl T.m_is_between T.k_is_between T.b_is_between (da_cons (de_ixJ (de_var (pv 0)) de_int) (da_cons de_int (da_cons (de_gi rfl T.g_MOST_TIMES) da_nil)))))))))) (ds_one (ds_ret de_bl)) ds_nil) (ds_one (ds_ret (de_call (ok_is_between T) (hr.mono (by decide)) tk rfl T.m_is_between T.k_is_between T.b_is_between (da_cons (de_ixJ (de_var (pv 0)) de_int) (da_cons (de_if (dt_cmp (opEqX hr) sn_eqX (de_ixJ (de_var (pv 0)) de_int) de_int) de_int (de_un un_neg sn_neg (de_gi rfl T.g_MOST_NUMBER))) (da_cons (de_gi rfl T.g_MOST_NUMBER) da_nil)))))))
theorem ok_check_count {P : Program} {w : World} {K : PySem.W.Frag} {mg : Str → Option Value} {base : Heap} {E : Ad} (T : Txt P K mg E) : FnOk P w K mg base (L2.CX P w) 4 E.f_check_count E.d_check_count ["count"] (SP K E.C 1 F_check_count) := fn_ok T.fn_check_count sc_check_count fun cdv A outer s H E' hr tk => by
  exact (ds_one (ds_if (dt_not (dt_val (de_call (ok_is_count T) (hr.mono (by decide)) tk rfl T.m_is_count T.k_is_count T.b_is_count (da_cons (de_var (pv 0)) da_nil)))) (ds_one (ds_raise (c := 2) (k := 0) rfl T.x_BadCount T.n_super (hr.mono (by decide)) tk (de_var (pv 0)) rfl)) ds_nil))
theorem ok_rounds_at {P : Program} {w : World} {K : PySem.W.Frag} {mg : Str → Option Value} {base : Heap} {E : Ad} (T : Txt P K mg E) : FnOk P w K mg base (L2.CX P w) 1 E.f_rounds_at E.d_rounds_at ["count", "n"] (SP K E.C 2 F_rounds_at) := fn_ok T.fn_rounds_at sc_rounds_at fun cdv A outer s H E' hr tk => by
  exact (ds_one (ds_ret (w_max rfl rfl T.n_max (da_cons de_int (da_cons (de_bin opA sn_add (de_bin opM sn_mul (de_ixJ (de_var (pv 0)) de_int) (de_var (pv 1))) (de_ixJ (de_var (pv 0)) de_int)) da_nil)))))
theorem ok_rounds {P : Program} {w : World} {K : PySem.W.Frag} {mg : Str → Option Value} {base : Heap} {E : Ad} (T : Txt P K mg E) : FnOk P w K mg base (L2.CX P w) 5 E.f_rounds E.d_rounds ["count", "n"] (SP K E.C 2 F_rounds) := fn_ok T.fn_rounds sc_rounds fun cdv A outer s H E' hr tk => by
  exact (ds_cons (ds_expr (de_call (ok_check_count T) (hr.mono (by decide)) tk rfl T.m_check_count T.k_check_count T.b_check_count (da_cons (de_var (pv 0)) da_nil))) (ds_cons (ds_expr (de_call (ok_check_number T) (hr.mono (by decide)) tk rfl T.m_check_number T.k_check_number T.b_check_number (da_cons (de_var (pv 1)) da_nil))) (ds_one (ds_ret (de_call (ok_rounds_at T) (hr.mono (by decide)) tk rfl T.m_rounds_at T.k_rounds_at T.b_rounds_at (da_cons (de_var (pv 0)) (da_cons (de_var (pv 1)) da_nil)))))))
theorem ok_format_count {P : Program} {w : World} {K : PySem.W.Frag} {mg : Str → Option Value} {base : Heap} {E : Ad} (T : Txt P K mg E) : FnOk P w K mg base (L2.CX P w) 5 E.f_format_count E.d_format_count ["count"] (SP K E.C 1 F_format_count) := fn_ok T.fn_format_count sc_format_count fun cdv A outer s H E' hr tk => by
  exact (ds_cons (ds_expr (de_call (ok_check_count T) (hr.mono (by decide)) tk rfl T.m_check_count T.k_check_count T.b_check_count (da_cons (de_var (pv 0)) da_nil))) (ds_cons (ds_un (is := [1, 2]) (de_var (pv 0)) (pg_tup rfl (pgs_cons (pg_name (i := 1) sc_format_count.nd rfl (Or.inl rfl)) (pgs_cons (pg_name (i := 2) sc_format_count.nd rfl (Or.inl rfl)) pgs_nil)))) (ds_cons (ds_if (dt_cmp (opEqX hr) sn_eqX (de_var (pv 1)) de_int) (ds_one (ds_ret (w_str rfl T.n_str (da_cons (de_var (pv 2)) da_nil)))) ds_nil) (ds_cons (ds_set (i := 3) sc_format_count.nd rfl (Or.inl rfl) (de_if (dt_cmp (opEqX hr) sn_eqX (de_var (pv 1)) de_int) de_str (de_joined (As := [(op1 fmtD (varS 1)), (cS (.str "n"))]) (dj_cons (de_fmt (de_var (pv 1))) (dj_cons de_str dj_nil))))) (ds_one (ds_ret (de_if (dt_cmp (opEqX hr) sn_eqX (de_var (pv 2)) de_int) (de_var (pv 3)) (de_joined (As := [(op1 fmtD (varS 3)), (op1 plusD (varS 2))]) (dj_cons (de_fmt (de_var (pv 3))) (dj_cons (de_plus (de_var (pv 2))) dj_nil))))))))))
theorem ok_number_in {P : Program} {w : World} {K : PySem.W.Frag} {mg : Str → Option Value} {base : Heap} {E : Ad} (T : Txt P K mg E) : FnOk P w K mg base (L2.CX P w) 1 E.f_number_in E.d_number_in ["text"] (SP K E.C 1 F_number_in) := fn_ok T.fn_number_in sc_number_in fun cdv A outer s H E' hr tk => by
  exact (ds_cons (ds_if (PW.pt (dw_or (dt_not (dt_val (w_isi rfl T.n_isinstance (da_cons (de_var (pv 0)) (da_cons (de_ty PyProof.Rows.Boot.«str» rfl T.n_str) da_nil))))) (dw_or (dt_not (dt_ch op_le sn_cmpI op_le sn_cmpI de_int (w_len rfl T.n_len (da_cons (de_var (pv 0)) da_nil)) (de_gi rfl T.g_MOST_FIGURES))) (dw_one_or (dt_not (dt_val (w_all rfl rfl T.n_all (da_cons (de_give (w_lcZ rfl sc_number_in.nd (i := 1) rfl (blk_of (N := ["text", "sign"]) (sc := defScope s_number_in) (by decide +kernel)) (fun _ _ _ _ _ => Or.inl rfl) (de_var (pv 0)) (fun _ _ _ _ _ => Or.inr rfl) (fun _ _ _ _ _ => dts_nil) (fun _ _ _ _ _ => (de_cmp op_in_sign sn_in (de_var (pv 1)) (de_gs rfl T.g_FIGURES))))) da_nil)))))))) (ds_one (ds_ret de_non)) ds_nil) (ds_one (ds_ret (de_if (PW.pt (dw_or (dt_cmp (opEqX hr) sn_eqX (de_var (pv 0)) de_str) (dw_one_or (dt_cmp (opNeX hr) sn_ne (de_ixJ (de_var (pv 0)) de_int) de_str)))) (w_int rfl T.n_int (da_cons (de_var (pv 0)) da_nil)) de_non))))
theorem ok_count_in {P : Program} {w : World} {K : PySem.W.Frag} {mg : Str → Option Value} {base : Heap} {E : Ad} (T : Txt P K mg E) : FnOk P w K mg base (L2.CX P w) 2 E.f_count_in E.d_count_in ["text"] (SP K E.C 1 F_count_in) := fn_ok T.fn_count_in sc_count_in fun cdv A outer s H E' hr tk => by
  exact (ds_cons (ds_un (is := [1, 2, 3]) (de_partition (de_var (pv 0)) de_str) (pg_tup rfl (pgs_cons (pg_name (i := 1) sc_count_in.nd rfl (Or.inl rfl)) (pgs_cons (pg_name (i := 2) sc_count_in.nd rfl (Or.inl rfl)) (pgs_cons (pg_name (i := 3) sc_count_in.nd rfl (Or.inl rfl)) pgs_nil))))) (ds_cons (ds_if (dt_cmp (opEqX hr) sn_eqX (de_var (pv 2)) de_str) (ds_cons (ds_set (i := 4) sc_count_in.nd rfl (Or.inl rfl) (de_call (ok_number_in T) (hr.mono (by decide)) tk rfl T.m_number_in T.k_number_in T.b_number_in (da_cons (de_var (pv 1)) da_nil))) (ds_one (ds_ret (de_if (PW.pt (dw_or (dt_cmp op_isN sn_isN (de_var (pv 4)) de_non) (dw_one_or (dt_cmp op_gt sn_cmpI (de_var (pv 4)) (de_gi rfl T.g_MOST_NUMBER))))) de_non (de_tup (da_cons de_int (da_cons (de_var (pv 4)) da_nil))))))) ds_nil) (ds_cons (ds_set (i := 5) sc_count_in.nd rfl (Or.inl rfl) (de_if (dt_cmp (opEqX hr) sn_eqX (de_var (pv 1)) de_str) de_int (de_call (ok_number_in T) (hr.mono (by decide)) tk rfl T.m_number_in T.k_number_in T.b_number_in (da_cons (de_var (pv 1)) da_nil)))) (ds_cons (ds_if (PW.pt (dw_or (dt_cmp op_isN sn_isN (de_var (pv 5)) de_non) (dw_or (dt_not (dt_ch op_le sn_cmpI op_le sn_cmpI de_int (de_var (pv 5)) (de_gi rfl T.g_MOST_TIMES))) (dw_one_or (dt_cmp (opEqX hr) sn_eqX (de_var (pv 1)) de_str))))) (ds_one (ds_ret de_non)) ds_nil) (ds_cons (ds_if (dt_cmp (opEqX hr) sn_eqX (de_var (pv 3)) de_str) (ds_one (ds_ret (de_tup (da_cons (de_var (pv 5)) (da_cons de_int da_nil))))) ds_nil) (ds_cons (ds_set (i := 4) sc_count_in.nd rfl (Or.inl rfl) (de_call (ok_number_in T) (hr.mono (by decide)) tk rfl T.m_number_in T.k_number_in T.b_number_in (da_cons (de_slice sl_str sn_cut (de_var (pv 3)) (do_some de_int) do_none) da_nil))) (ds_cons (ds_if (PW.pt (dw_or (dt_cmp op_notIn_sign sn_notin (de_ixJ (de_var (pv 3)) de_int) de_str) (dw_or (dt_cmp op_isN sn_isN (de_var (pv 4)) de_non) (dw_one_or (dt_not (dt_ch op_le sn_cmpI op_le sn_cmpI de_int (de_var (pv 4)) (de_gi rfl T.g_MOST_NUMBER))))))) (ds_one (ds_ret de_non)) ds_nil) (ds_one (ds_ret (de_tup (da_cons (de_var (pv 5)) (da_cons (de_if (dt_cmp (opEqX hr) sn_eqX (de_ixJ (de_var (pv 3)) de_int) de_str) (de_var (pv 4)) (de_un un_neg sn_neg (de_var (pv 4)))) da_nil))))))))))))
theorem ok_parse_count {P : Program} {w : World} {K : PySem.W.Frag} {mg : Str → Option Value} {base : Heap} {E : Ad} (T : Txt P K mg E) : FnOk P w K mg base (L2.CX P w) 3 E.f_parse_count E.d_parse_count ["text"] (SP K E.C 1 F_parse_count) := fn_ok T.fn_parse_count sc_parse_count fun cdv A outer s H E' hr tk => by
  exact (ds_cons (ds_set (i := 1) sc_parse_count.nd rfl (Or.inl rfl) (de_if (dt_val (w_isi rfl T.n_isinstance (da_cons (de_var (pv 0)) (da_cons (de_ty PyProof.Rows.Boot.«str» rfl T.n_str) da_nil)))) (de_call (ok_count_in T) (hr.mono (by decide)) tk rfl T.m_count_in T.k_count_in T.b_count_in (da_cons (de_var (pv 0)) da_nil)) de_non)) (ds_cons (ds_if (dt_cmp op_isN sn_isN (de_var (pv 1)) de_non) (ds_one (ds_raise (c := 1) (k := 0) rfl T.x_BadText T.n_super (hr.mono (by decide)) tk (de_var (pv 0)) rfl)) ds_nil) (ds_one (ds_ret (de_var (pv 1))))))
theorem ok__law_pool {P : Program} {w : World} {K : PySem.W.Frag} {mg : Str → Option Value} {base : Heap} {E : Ad} (T : Txt P K mg E) : FnOk P w K mg base (L2.CX P w) 1 E.f__law_pool E.d__law_pool ["script"] (SP K E.C0 1 F__law_pool) := fn_ok T.fn__law_pool sc__law_pool fun cdv A outer s H E' hr tk => by
  exact (ds_cons (ds_un (is := [1, 2]) (de_tup (da_cons de_int (da_cons de_int da_nil))) (pg_tup rfl (pgs_cons (pg_name (i := 1) sc__law_pool.nd rfl (Or.inl rfl)) (pgs_cons (pg_name (i := 2) sc__law_pool.nd rfl (Or.inl rfl)) pgs_nil)))) (ds_cons (ds_forR (i := 3) sc__law_pool.nd rfl (Or.inl rfl) (passes_of rfl) rfl rfl T.n_range (da_cons (w_len rfl T.n_len (da_cons (de_var (pv 0)) da_nil)) da_nil) (ds_cons (ds_set (i := 4) sc__law_pool.nd rfl (Or.inl rfl) (w_int rfl T.n_int (da_cons (w_max rfl rfl T.n_max (da_cons (de_ixJ (de_var (pv 0)) (de_var (pv 3))) (da_cons (de_bin op_sub sn_sub (de_un un_neg sn_neg de_int) (de_ixJ (de_var (pv 0)) (de_var (pv 3)))) da_nil))) da_nil))) (ds_cons (ds_set (i := 2) sc__law_pool.nd rfl (Or.inl rfl) (de_bin op_mod sn_mod (w_int rfl T.n_int (da_cons (de_bin opA sn_add (de_bin opA sn_add (de_bin opM sn_mul (de_var (pv 2)) de_int) (de_bin op_mod sn_mod (de_var (pv 4)) de_int)) de_int) da_nil)) de_int)) (ds_one (ds_set (i := 1) sc__law_pool.nd rfl (Or.inl rfl) (de_if (PW.pt (dw_and (dt_cmp op_ge sn_cmpI (de_var (pv 4)) (de_bin op_pow sn_pow de_int de_int)) (dw_one_and (dt_cmp op_lt sn_cmpI (de_var (pv 1)) (de_bin op_pow sn_pow de_int de_int))))) (w_int rfl T.n_int (da_cons (de_bin opA sn_add (de_bin opM sn_mul (de_var (pv 1)) (de_bin op_pow sn_pow de_int de_int)) (de_bin op_mod sn_mod (de_var (pv 4)) (de_bin op_pow sn_pow de_int de_int))) da_nil)) (de_var (pv 1)))))))) (ds_one (ds_ret (de_give (dl_lst (da_cons (de_var (pv 1)) (da_cons (de_var (pv 2)) (da_cons de_int da_nil)))))))))
theorem ok__law_take {P : Program} {w : World} {K : PySem.W.Frag} {mg : Str → Option Value} {base : Heap} {E : Ad} (T : Txt P K mg E) : FnOk P w K mg base (L2.CX P w) 1 E.f__law_take E.d__law_take ["jar", "many"] (SP K E.C 2 F__law_take) := fn_ok T.fn__law_take sc__law_take fun cdv A outer s H E' hr tk => by
  exact (ds_cons (ds_if (dt_cmp op_gt sn_cmpI (de_ixJ (de_var (pv 0)) de_int) de_int) (ds_cons (ds_set (i := 2) sc__law_take.nd rfl (Or.inl rfl) (de_bin op_mod sn_mod (w_int rfl T.n_int (da_cons (de_ixJ (de_var (pv 0)) de_int) da_nil)) (de_var (pv 1)))) (ds_cons (ds_setJ (de_bin op_fdivW sn_fdv (de_ixJ (de_var (pv 0)) de_int) (de_var (pv 1))) (de_var (pv 0)) de_int) (ds_one (ds_ret (de_var (pv 2)))))) ds_nil) (ds_cons (ds_setJ (de_bin opA sn_add (de_ixJ (de_var (pv 0)) de_int) de_int) (de_var (pv 0)) de_int) (ds_cons (ds_setJ (de_bin op_mod sn_mod (w_int rfl T.n_int (da_cons (de_bin opA sn_add (de_bin opA sn_add (de_bin opM sn_mul (de_ixJ (de_var (pv 0)) de_int) de_int) (de_bin opM sn_mul de_int (de_ixJ (de_var (pv 0)) de_int))) de_int) da_nil)) de_int) (de_var (pv 0)) de_int) (ds_one (ds_ret (de_bin op_mod sn_mod (w_int rfl T.n_int (da_cons (de_bin op_fdivW sn_fdv (de_bin op_mod sn_mod (w_int rfl T.n_int (da_cons (de_bin opM sn_mul (de_ixJ (de_var (pv 0)) de_int) (de_ixJ (de_var (pv 0)) de_int)) da_nil)) de_int) de_int) da_nil)) (de_var (pv 1))))))))
theorem ok__law_one {P : Program} {w : World} {K : PySem.W.Frag} {mg : Str → Option Value} {base : Heap} {E : Ad} (T : Txt P K mg E) : FnOk P w K mg base (L2.CX P w) 2 E.f__law_one E.d__law_one ["jar", "things"] (SP K E.C 2 F__law_one) := fn_ok T.fn__law_one sc__law_one fun cdv A outer s H E' hr tk => by
  exact (ds_one (ds_ret (de_ixJ (de_var (pv 1)) (de_call (ok__law_take T) (hr.mono (by decide)) tk rfl T.m__law_take T.k__law_take T.b__law_take (da_cons (de_var (pv 0)) (da_cons (w_len rfl T.n_len (da_cons (de_var (pv 1)) da_nil)) da_nil))))))
theorem ok__law_yq_is_whole {P : Program} {w : World} {K : PySem.W.Frag} {mg : Str → Option Value} {base : Heap} {E : Ad} (T : Txt P K mg E) : FnOk P w K mg base (L2.CX P w) 1 E.f__law_yq_is_whole E.d__law_yq_is_whole ["thing"] (SP K E.C 1 F__law_yq_is_whole) := fn_ok T.fn__law_yq_is_whole sc__law_yq_is_whole fun cdv A outer s H E' hr tk => by
  exact (ds_one (ds_ret (de_and (w_isi rfl T.n_isinstance (da_cons (de_var (pv 0)) (da_cons (de_ty PyProof.Rows.Boot.«int» rfl T.n_int) da_nil))) (de_one (de_not (w_isi rfl T.n_isinstance (da_cons (de_var (pv 0)) (da_cons (de_ty PyProof.Rows.Boot.«bool» rfl T.n_bool) da_nil))))))))
theorem okr__law_yq_same {P : Program} {w : World} {K : PySem.W.Frag} {mg : Str → Option Value} {base : Heap} {E : Ad} (T : Txt P K mg E) : ∀ k : Nat, FnOk P w K mg base (L2.CX P w) (k + 2) E.f__law_yq_same E.d__law_yq_same ["heard_one", "owed"] (SP K E.C 2 (F__law_yq_same_at k))
  | 0 => ⟨fun vs H Q E h => h.1, fun A outer s H args us vs Q E hr e0 hb r h => by obtain ⟨_, _, _, _, _, _, _, m⟩ := h; exact m.elim⟩
  | k + 1 => fn_ok T.fn__law_yq_same sc__law_yq_same (fun cdv A outer s H E hr tk => by
    have G := okr__law_yq_same (w := w) (base := base) T k
    exact (ds_cons (ds_if (dt_cmp op_isN sn_isN (de_var (pv 1)) de_non) (ds_one (ds_ret (de_cmp op_isN sn_isN (de_var (pv 0)) de_non))) ds_nil) (ds_cons (ds_if (dt_val (w_isi rfl T.n_isinstance (da_cons (de_var (pv 1)) (da_cons (de_ty PyProof.Rows.Boot.«bool» rfl T.n_bool) da_nil)))) (ds_one (ds_ret (de_if (dt_val (de_var (pv 1))) (de_cmp op_isBl sn_isB (de_var (pv 0)) de_bl) (de_cmp op_isBl sn_isB (de_var (pv 0)) de_bl)))) ds_nil) (ds_cons (ds_if (dt_val (w_isi rfl T.n_isinstance (da_cons (de_var (pv 1)) (da_cons (de_ty PyProof.Rows.Boot.«int» rfl T.n_int) da_nil)))) (ds_one (ds_ret (de_and (de_call (ok__law_yq_is_whole T) (hr.mono (by omega)) tk rfl T.m__law_yq_is_whole T.k__law_yq_is_whole T.b__law_yq_is_whole (da_cons (de_var (pv 0)) da_nil)) (de_one (de_cmp (opEqX hr) sn_eqX (de_var (pv 0)) (de_var (pv 1))))))) ds_nil) (ds_cons (ds_if (dt_val (w_isi rfl T.n_isinstance (da_cons (de_var (pv 1)) (da_cons (de_ty PyProof.Rows.Boot.«str» rfl T.n_str) da_nil)))) (ds_one (ds_ret (de_and (w_isi rfl T.n_isinstance (da_cons (de_var (pv 0)) (da_cons (de_ty PyProof.Rows.Boot.«str» rfl T.n_str) da_nil))) (de_one (de_cmp (opEqX hr) sn_eqX (de_var (pv 0)) (de_var (pv 1))))))) ds_nil) (ds_cons (ds_if (PW.pt (dw_and (dt_not (dt_val (w_isi rfl T.n_isinstance (da_cons (de_var (pv 1)) (da_cons (de_ty PyProof.Rows.Boot.«tuple» rfl T.n_tuple) da_nil))))) (dw_one_and (dt_not (dt_val (w_isi rfl T.n_isinstance (da_cons (de_var (pv 1)) (da_cons (de_ty PyProof.Rows.Boot.«list» rfl T.n_list) da_nil)))))))) (ds_one (ds_ret (w_bool rfl T.n_bool (da_cons (de_cmp (opEqX hr) sn_eqX (de_var (pv 0)) (de_var (pv 1))) da_nil)))) ds_nil) (ds_cons (ds_if (dt_cmp (opNeX hr) sn_ne (w_isi rfl T.n_isinstance (da_cons (de_var (pv 1)) (da_cons (de_ty PyProof.Rows.Boot.«tuple» rfl T.n_tuple) da_nil))) (w_isi rfl T.n_isinstance (da_cons (de_var (pv 0)) (da_cons (de_ty PyProof.Rows.Boot.«tuple» rfl T.n_tuple) da_nil)))) (ds_one (ds_ret de_bl)) ds_nil) (ds_cons (ds_if (dt_cmp (opNeX hr) sn_ne (w_isi rfl T.n_isinstance (da_cons (de_var (pv 1)) (da_cons (de_ty PyProof.Rows.Boot.«list» rfl T.n_list) da_nil))) (w_isi rfl T.n_isinstance (da_cons (de_var (pv 0)) (da_cons (de_ty PyProof.Rows.Boot.«list» rfl T.n_list) da_nil)))) (ds_one (ds_ret de_bl)) ds_nil) (ds_cons (ds_if (dt_cmp (opNeX hr) sn_ne (w_len rfl T.n_len (da_cons (de_var (pv 0)) da_nil)) (w_len rfl T.n_len (da_cons (de_var (pv 1)) da_nil))) (ds_one (ds_ret de_bl)) ds_nil) (ds_cons (ds_forR (i := 2) sc__law_yq_same.nd rfl (Or.inl rfl) (passes_of rfl) rfl rfl T.n_range (da_cons (w_len rfl T.n_len (da_cons (de_var (pv 1)) da_nil)) da_nil) (ds_one (ds_if (dt_not (dt_val (de_call G hr tk rfl T.m__law_yq_same T.k__law_yq_same T.b__law_yq_same (da_cons (de_ixJ (de_var (pv 0)) (de_var (pv 2))) (da_cons (de_ixJ (de_var (pv 1)) (de_var (pv 2))) da_nil))))) (ds_one (ds_ret de_bl)) ds_nil))) (ds_one (ds_ret de_bl))))))))))))
theorem ok__law_yq_same {P : Program} {w : World} {K : PySem.W.Frag} {mg : Str → Option Value} {base : Heap} {E : Ad} (T : Txt P K mg E) : FnOk P w K mg base (L2.CX P w) 9 E.f__law_yq_same E.d__law_yq_same ["heard_one", "owed"] (SP K E.C 2 F__law_yq_same) := okr__law_yq_same T 7
theorem ok__law_ra_is_int {P : Program} {w : World} {K : PySem.W.Frag} {mg : Str → Option Value} {base : Heap} {E : Ad} (T : Txt P K mg E) : FnOk P w K mg base (L2.CX P w) 1 E.f__law_ra_is_int E.d__law_ra_is_int ["thing", "low", "high"] (SP K E.C 3 F__law_ra_is_int) := fn_ok T.fn__law_ra_is_int sc__law_ra_is_int fun cdv A outer s H E' hr tk => by
  exact (ds_one (ds_ret (de_and (w_isi rfl T.n_isinstance (da_cons (de_var (pv 0)) (da_cons (de_ty PyProof.Rows.Boot.«int» rfl T.n_int) da_nil))) (de_and (de_not (w_isi rfl T.n_isinstance (da_cons (de_var (pv 0)) (da_cons (de_ty PyProof.Rows.Boot.«bool» rfl T.n_bool) da_nil)))) (de_one (de_ch op_le sn_cmpI op_le sn_cmpI (de_var (pv 1)) (de_var (pv 0)) (de_var (pv 2))))))))
theorem ok__law_ra_is_count {P : Program} {w : World} {K : PySem.W.Frag} {mg : Str → Option Value} {base : Heap} {E : Ad} (T : Txt P K mg E) : FnOk P w K mg base (L2.CX P w) 2 E.f__law_ra_is_count E.d__law_ra_is_count ["thing"] (SP K E.C 1 F__law_ra_is_count) := fn_ok T.fn__law_ra_is_count sc__law_ra_is_count fun cdv A outer s H E' hr tk => by
  exact (ds_cons (ds_if (PW.pt (dw_or (dt_not (dt_val (w_isi rfl T.n_isinstance (da_cons (de_var (pv 0)) (da_cons (de_ty PyProof.Rows.Boot.«tuple» rfl T.n_tuple) da_nil))))) (dw_or (dt_cmp (opNeX hr) sn_ne (w_len rfl T.n_len (da_cons (de_var (pv 0)) da_nil)) de_int) (dw_one_or (dt_not (dt_val (de_call (ok__law_ra_is_int T) (hr.mono (by decide)) tk rfl T.m__law_ra_is_int T.k__law_ra_is_int T.b__law_ra_is_int (da_cons (de_ixJ (de_var (pv 0)) de_int) (da_cons de_int (da_cons de_int da_nil)))))))))) (ds_one (ds_ret de_bl)) ds_nil) (ds_cons (ds_set (i := 1) sc__law_ra_is_count.nd rfl (Or.inl rfl) (de_if (dt_cmp (opEqX hr) sn_eqX (de_ixJ (de_var (pv 0)) de_int) de_int) de_int (de_un un_neg sn_neg (de_bin op_pow sn_pow de_int de_int)))) (ds_one (ds_ret (de_call (ok__law_ra_is_int T) (hr.mono (by decide)) tk rfl T.m__law_ra_is_int T.k__law_ra_is_int T.b__law_ra_is_int (da_cons (de_ixJ (de_var (pv 0)) de_int) (da_cons (de_var (pv 1)) (da_cons (de_bin op_pow sn_pow de_int de_int) da_nil))))))))
theorem ok__law_ra_rounds {P : Program} {w : World} {K : PySem.W.Frag} {mg : Str → Option Value} {base : Heap} {E : Ad} (T : Txt P K mg E) : FnOk P w K mg base (L2.CX P w) 1 E.f__law_ra_rounds E.d__law_ra_rounds ["count", "n"] (SP K E.C 2 F__law_ra_rounds) := fn_ok T.fn__law_ra_rounds sc__law_ra_rounds fun cdv A outer s H E' hr tk => by
  exact (ds_one (ds_ret (w_max rfl rfl T.n_max (da_cons de_int (da_cons (de_bin opA sn_add (de_bin opM sn_mul (de_ixJ (de_var (pv 0)) de_int) (de_var (pv 1))) (de_ixJ (de_var (pv 0)) de_int)) da_nil)))))
theorem ok__law_ra_count_text {P : Program} {w : World} {K : PySem.W.Frag} {mg : Str → Option Value} {base : Heap} {E : Ad} (T : Txt P K mg E) : FnOk P w K mg base (L2.CX P w) 1 E.f__law_ra_count_text E.d__law_ra_count_text ["count"] (SP K E.C 1 F__law_ra_count_text) := fn_ok T.fn__law_ra_count_text sc__law_ra_count_text fun cdv A outer s H E' hr tk => by
  exact (ds_cons (ds_un (is := [1, 2]) (de_var (pv 0)) (pg_tup rfl (pgs_cons (pg_name (i := 1) sc__law_ra_count_text.nd rfl (Or.inl rfl)) (pgs_cons (pg_name (i := 2) sc__law_ra_count_text.nd rfl (Or.inl rfl)) pgs_nil)))) (ds_cons (ds_if (dt_cmp (opEqX hr) sn_eqX (de_var (pv 1)) de_int) (ds_one (ds_ret (w_str rfl T.n_str (da_cons (de_var (pv 2)) da_nil)))) ds_nil) (ds_cons (ds_set (i := 3) sc__law_ra_count_text.nd rfl (Or.inl rfl) (de_if (dt_cmp (opEqX hr) sn_eqX (de_var (pv 1)) de_int) de_str (de_bin opA sn_add (w_str rfl T.n_str (da_cons (de_var (pv 1)) da_nil)) de_str))) (ds_cons (ds_if (dt_cmp (opEqX hr) sn_eqX (de_var (pv 2)) de_int) (ds_one (ds_ret (de_var (pv 3)))) ds_nil) (ds_one (ds_ret (de_bin opA sn_add (de_bin opA sn_add (de_var (pv 3)) (de_if (dt_cmp op_gt sn_cmpI (de_var (pv 2)) de_int) de_str de_str)) (w_str rfl T.n_str (da_cons (w_abs rfl T.n_abs (da_cons (de_var (pv 2)) da_nil)) da_nil)))))))))
theorem ok__law_figures {P : Program} {w : World} {K : PySem.W.Frag} {mg : Str → Option Value} {base : Heap} {E : Ad} (T : Txt P K mg E) : FnOk P w K mg base (L2.CX P w) 1 E.f__law_figures E.d__law_figures ["text"] (SP K E.C 1 F__law_figures) := fn_ok T.fn__law_figures sc__law_figures fun cdv A outer s H E' hr tk => by
  exact (ds_cons (ds_if (PW.pt (dw_or (dt_cmp (opEqX hr) sn_eqX (de_var (pv 0)) de_str) (dw_or (dt_cmp (opNeX hr) sn_ne (de_give (w_lcZ rfl sc__law_figures.nd (i := 1) rfl (blk_of (N := ["text", "sign"]) (sc := defScope s__law_figures) (by decide +kernel)) (fun _ _ _ _ _ => Or.inl rfl) (de_var (pv 0)) (fun _ _ _ _ _ => Or.inr rfl) (fun _ _ _ _ _ => (dts_one (dt_cmp op_notIn_sign sn_notin (de_var (pv 1)) de_str))) (fun _ _ _ _ _ => (de_var (pv 1))))) (de_give (dl_lst da_nil))) (dw_one_or (dt_cmp op_gt sn_cmpI (w_len rfl T.n_len (da_cons (de_var (pv 0)) da_nil)) de_int))))) (ds_one (ds_ret (de_un un_neg sn_neg de_int))) ds_nil) (ds_cons (ds_if (PW.pt (dw_or (PW.pt (dw_and (dt_cmp (opEqX hr) sn_eqX (de_ixJ (de_var (pv 0)) de_int) de_str) (dw_one_and (dt_cmp (opNeX hr) sn_ne (de_var (pv 0)) de_str)))) (dw_one_or (dt_cmp op_gt sn_cmpI (w_int rfl T.n_int (da_cons (de_var (pv 0)) da_nil)) (de_bin op_pow sn_pow de_int de_int))))) (ds_one (ds_ret (de_un un_neg sn_neg de_int))) ds_nil) (ds_one (ds_ret (w_int rfl T.n_int (da_cons (de_var (pv 0)) da_nil))))))
theorem ok__law_read {P : Program} {w : World} {K : PySem.W.Frag} {mg : Str → Option Value} {base : Heap} {E : Ad} (T : Txt P K mg E) : FnOk P w K mg base (L2.CX P w) 2 E.f__law_read E.d__law_read ["text"] (SP K E.C 1 F__law_read) := fn_ok T.fn__law_read sc__law_read fun cdv A outer s H E' hr tk => by
  exact (ds_cons (ds_if (PW.pt (dw_or (dt_not (dt_val (w_isi rfl T.n_isinstance (da_cons (de_var (pv 0)) (da_cons (de_ty PyProof.Rows.Boot.«str» rfl T.n_str) da_nil))))) (dw_or (dt_cmp (opEqX hr) sn_eqX (de_var (pv 0)) de_str) (dw_one_or (dt_cmp op_gt sn_cmpI (w_len rfl T.n_len (da_cons (de_var (pv 0)) da_nil)) de_int))))) (ds_one (ds_ret (de_tup da_nil))) ds_nil) (ds_cons (ds_if (dt_cmp op_notIn_sign sn_notin de_str (de_var (pv 0))) (ds_cons (ds_set (i := 1) sc__law_read.nd rfl (Or.inl rfl) (de_call (ok__law_figures T) (hr.mono (by decide)) tk rfl T.m__law_figures T.k__law_figures T.b__law_figures (da_cons (de_var (pv 0)) da_nil))) (ds_one (ds_ret (de_if (dt_cmp op_gt sn_cmpI (de_var (pv 1)) (de_un un_neg sn_neg de_int)) (de_tup (da_cons (de_tup (da_cons de_int (da_cons (de_var (pv 1)) da_nil))) da_nil)) (de_tup da_nil))))) ds_nil) (ds_cons (ds_set (i := 2) sc__law_read.nd rfl (Or.inl rfl) (de_index (de_var (pv 0)) de_str)) (ds_cons (ds_par (i := 3) (k := 4) rfl sc__law_read.nd rfl rfl (by decide) rfl rfl (da_cons (de_slice sl_str sn_cut (de_var (pv 0)) do_none (do_some (de_var (pv 2)))) (da_cons (de_slice sl_str sn_cut (de_var (pv 0)) (do_some (de_bin opA sn_add (de_var (pv 2)) de_int)) do_none) da_nil)) (by first | rfl | with_unfolding_all rfl | kernel_rfl)) (ds_cons (ds_set (i := 5) sc__law_read.nd rfl (Or.inl rfl) (de_if (dt_cmp (opEqX hr) sn_eqX (de_var (pv 3)) de_str) de_int (de_call (ok__law_figures T) (hr.mono (by decide)) tk rfl T.m__law_figures T.k__law_figures T.b__law_figures (da_cons (de_var (pv 3)) da_nil)))) (ds_cons (ds_if (PW.pt (dw_and (dt_cmp (opNeX hr) sn_ne (de_var (pv 3)) de_str) (dw_one_and (dt_not (dt_ch op_le sn_cmpI op_le sn_cmpI de_int (de_var (pv 5)) de_int))))) (ds_one (ds_ret (de_tup da_nil))) ds_nil) (ds_cons (ds_if (dt_cmp (opEqX hr) sn_eqX (de_var (pv 4)) de_str) (ds_one (ds_ret (de_tup (da_cons (de_tup (da_cons (de_var (pv 5)) (da_cons de_int da_nil))) da_nil)))) ds_nil) (ds_cons (ds_set (i := 1) sc__law_read.nd rfl (Or.inl rfl) (de_call (ok__law_figures T) (hr.mono (by decide)) tk rfl T.m__law_figures T.k__law_figures T.b__law_figures (da_cons (de_slice sl_str sn_cut (de_var (pv 4)) (do_some de_int) do_none) da_nil))) (ds_cons (ds_if (PW.pt (dw_or (dt_cmp op_notIn_sign sn_notin (de_ixJ (de_var (pv 4)) de_int) de_str) (dw_one_or (dt_cmp op_lt sn_cmpI (de_var (pv 1)) de_int)))) (ds_one (ds_ret (de_tup da_nil))) ds_nil) (ds_one (ds_ret (de_tup (da_cons (de_tup (da_cons (de_var (pv 5)) (da_cons (de_if (dt_cmp (opEqX hr) sn_eqX (de_ixJ (de_var (pv 4)) de_int) de_str) (de_var (pv 1)) (de_un un_neg sn_neg (de_var (pv 1)))) da_nil))) da_nil)))))))))))))
theorem ok__law_count {P : Program} {w : World} {K : PySem.W.Frag} {mg : Str → Option Value} {base : Heap} {E : Ad} (T : Txt P K mg E) : FnOk P w K mg base (L2.CX P w) 2 E.f__law_count E.d__law_count ["jar"] (SP K E.C 1 F__law_count) := fn_ok T.fn__law_count sc__law_count fun cdv A outer s H E' hr tk => by
  exact (ds_cons (ds_par (i := 1) (k := 2) rfl sc__law_count.nd rfl rfl (by decide) rfl rfl (da_cons (de_call (ok__law_take T) (hr.mono (by decide)) tk rfl T.m__law_take T.k__law_take T.b__law_take (da_cons (de_var (pv 0)) (da_cons de_int da_nil))) (da_cons (de_call (ok__law_take T) (hr.mono (by decide)) tk rfl T.m__law_take T.k__law_take T.b__law_take (da_cons (de_var (pv 0)) (da_cons de_int da_nil))) da_nil)) (by first | rfl | with_unfolding_all rfl | kernel_rfl)) (ds_cons (ds_set (i := 3) sc__law_count.nd rfl (Or.inl rfl) (de_ixJ (de_give (dl_lst (da_cons (de_call (ok__law_take T) (hr.mono (by decide)) tk rfl T.m__law_take T.k__law_take T.b__law_take (da_cons (de_var (pv 0)) (da_cons de_int da_nil))) (da_cons (de_bin op_pow sn_pow de_int de_int) (da_cons (de_bin op_sub sn_sub (de_bin op_pow sn_pow de_int de_int) (de_call (ok__law_take T) (hr.mono (by decide)) tk rfl T.m__law_take T.k__law_take T.b__law_take (da_cons (de_var (pv 0)) (da_cons de_int da_nil)))) (da_cons (de_call (ok__law_take T) (hr.mono (by decide)) tk rfl T.m__law_take T.k__law_take T.b__law_take (da_cons (de_var (pv 0)) (da_cons (de_bin op_pow sn_pow de_int de_int) da_nil))) (da_cons de_int da_nil))))))) (de_var (pv 2)))) (ds_one (ds_ret (de_tup (da_cons (de_var (pv 1)) (da_cons (de_if (PW.pt (dw_or (dt_cmp (opEqX hr) sn_eqX (de_var (pv 1)) de_int) (dw_one_or (dt_cmp (opEqX hr) sn_eqX (de_call (ok__law_take T) (hr.mono (by decide)) tk rfl T.m__law_take T.k__law_take T.b__law_take (da_cons (de_var (pv 0)) (da_cons de_int da_nil))) de_int)))) (de_var (pv 3)) (de_un un_neg sn_neg (de_var (pv 3)))) da_nil)))))))
theorem ok__law_number {P : Program} {w : World} {K : PySem.W.Frag} {mg : Str → Option Value} {base : Heap} {E : Ad} (T : Txt P K mg E) : FnOk P w K mg base (L2.CX P w) 3 E.f__law_number E.d__law_number ["jar"] (SP K E.C 1 F__law_number) := fn_ok T.fn__law_number sc__law_number fun cdv A outer s H E' hr tk => by
  exact (ds_one (ds_ret (de_call (ok__law_one T) (hr.mono (by decide)) tk rfl T.m__law_one T.k__law_one T.b__law_one (da_cons (de_var (pv 0)) (da_cons (de_give (dl_lst (da_cons de_int (da_cons de_int (da_cons de_int (da_cons (de_call (ok__law_take T) (hr.mono (by decide)) tk rfl T.m__law_take T.k__law_take T.b__law_take (da_cons (de_var (pv 0)) (da_cons de_int da_nil))) (da_cons (de_bin op_pow sn_pow de_int de_int) (da_cons (de_bin op_sub sn_sub (de_bin op_pow sn_pow de_int de_int) de_int) (da_cons (de_call (ok__law_take T) (hr.mono (by decide)) tk rfl T.m__law_take T.k__law_take T.b__law_take (da_cons (de_var (pv 0)) (da_cons (de_bin op_pow sn_pow de_int de_int) da_nil))) da_nil))))))))) da_nil)))))
theorem ok__law_others {P : Program} {w : World} {K : PySem.W.Frag} {mg : Str → Option Value} {base : Heap} {E : Ad} (T : Txt P K mg E) : FnOk P w K mg base (L2.CX P w) 3 E.f__law_others E.d__law_others ["jar"] (SP K E.C 1 F__law_others) := fn_ok T.fn__law_others sc__law_others fun cdv A outer s H E' hr tk => by
  exact (ds_cons (ds_un (is := [1, 2]) (de_call (ok__law_count T) (hr.mono (by decide)) tk rfl T.m__law_count T.k__law_count T.b__law_count (da_cons (de_var (pv 0)) da_nil)) (pg_tup rfl (pgs_cons (pg_name (i := 1) sc__law_others.nd rfl (Or.inl rfl)) (pgs_cons (pg_name (i := 2) sc__law_others.nd rfl (Or.inl rfl)) pgs_nil)))) (ds_cons (ds_set (i := 3) sc__law_others.nd rfl (Or.inl rfl) (de_bin opA sn_add (de_bin op_pow sn_pow de_int de_int) de_int)) (ds_cons (ds_setOwn (i := 4) sc__law_others.nd rfl (Or.inl rfl) (dl_lst (da_cons de_non (da_cons de_bl (da_cons de_int (da_cons de_str (da_cons de_str (da_cons (de_tup da_nil) (da_cons (de_tup (da_cons (de_var (pv 1)) da_nil)) (da_cons (de_tup (da_cons (de_var (pv 1)) (da_cons (de_var (pv 2)) (da_cons de_int da_nil)))) (da_cons (de_give (dl_lst (da_cons (de_var (pv 1)) (da_cons (de_var (pv 2)) da_nil)))) (da_cons (de_tup (da_cons de_int (da_cons (de_var (pv 2)) da_nil))) (da_cons (de_tup (da_cons (de_un un_neg sn_neg de_int) (da_cons de_int da_nil))) (da_cons (de_tup (da_cons de_int (da_cons (de_un un_neg sn_neg de_int) da_nil))) (da_cons (de_tup (da_cons de_int (da_cons (de_var (pv 3)) da_nil))) (da_cons (de_tup (da_cons de_int (da_cons (de_un un_neg sn_neg (de_var (pv 3))) da_nil))) da_nil)))))))))))))))) (ds_cons (w_ext (pv 4) (da_cons (de_give (dl_lst (da_cons (de_tup (da_cons de_int (da_cons (de_var (pv 3)) da_nil))) (da_cons (de_tup (da_cons de_bl (da_cons de_int da_nil))) (da_cons (de_tup (da_cons de_int (da_cons de_bl da_nil))) (da_cons (de_tup (da_cons de_non (da_cons de_int da_nil))) (da_cons (de_tup (da_cons de_int (da_cons de_non da_nil))) (da_cons (de_tup (da_cons de_str (da_cons de_int da_nil))) (da_cons (de_tup (da_cons de_int (da_cons de_str da_nil))) (da_cons (de_tup (da_cons (de_tup (da_cons de_int (da_cons de_int da_nil))) da_nil)) (da_cons (de_d1 pe_str pe_int (fun _ _ => rfl)) da_nil))))))))))) da_nil)) (ds_frz 4 (ds_one (ds_ret (de_bin opA sn_add (de_var (pv 4)) (de_give (dl_lst (da_cons (de_tup (da_cons (de_var (pv 1)) (da_cons (de_var (pv 2)) da_nil))) da_nil)))))))))))
theorem ok__law_heard_text {P : Program} {w : World} {K : PySem.W.Frag} {mg : Str → Option Value} {base : Heap} {E : Ad} (T : Txt P K mg E) (TBS : TBs base mg E) : FnOk P w K mg base (L2.CX P w) 6 E.f__law_heard_text E.d__law_heard_text ["thing"] (SP K E.C 1 F__law_heard_text) := fn_okC T.fn__law_heard_text sc__law_heard_text fun A outer s H E' hr tk => by
  have TB := TBS.t__law_heard_text
  exact (ds_one (ds_ret (de_heard mkC_jo T.sel rfl T.m__law_heard T.k__law_heard T.heard_lk T.heard_cd T.heard_b sc__law_heard rfl (Or.inl rfl) (by exact heard_gv T) TB rfl (T.tab__law_heard_text) (T.tabu__law_heard_text) (k := 3) (hr.mono (by decide)) (LamX.lamS_by (sc := defScope s__law_heard_text) (by decide +kernel)) rfl (fun _ _ _ _ _ => rfl) (fun _ _ _ _ _ _ _ hr2 tk2 => (de_call (ok_parse_count T) (hr2.mono (by decide)) tk2 rfl T.m_parse_count T.k_parse_count T.b_parse_count (da_cons (de_var (pv 0)) da_nil))))))
theorem ok__law_text_right {P : Program} {w : World} {K : PySem.W.Frag} {mg : Str → Option Value} {base : Heap} {E : Ad} (T : Txt P K mg E) (TBS : TBs base mg E) : FnOk P w K mg base (L2.CX P w) 10 E.f__law_text_right E.d__law_text_right ["thing"] (SP K E.C 1 F__law_text_right) := fn_ok T.fn__law_text_right sc__law_text_right fun cdv A outer s H E' hr tk => by
  exact (ds_cons (ds_set (i := 1) sc__law_text_right.nd rfl (Or.inl rfl) (de_call (ok__law_read T) (hr.mono (by decide)) tk rfl T.m__law_read T.k__law_read T.b__law_read (da_cons (de_var (pv 0)) da_nil))) (ds_one (ds_ret (de_call (ok__law_yq_same T) (hr.mono (by decide)) tk rfl T.m__law_yq_same T.k__law_yq_same T.b__law_yq_same (da_cons (de_call (ok__law_heard_text T TBS) (hr.mono (by decide)) tk rfl T.m__law_heard_text T.k__law_heard_text T.b__law_heard_text (da_cons (de_var (pv 0)) da_nil)) (da_cons (de_if (dt_cmp (opNeX hr) sn_ne (de_var (pv 1)) (de_tup da_nil)) (de_tup (da_cons de_str (da_cons (de_ixJ (de_var (pv 1)) de_int) da_nil))) (de_tup (da_cons de_str (da_cons (de_var (pv 0)) da_nil)))) da_nil))))))
theorem ok__law_bent {P : Program} {w : World} {K : PySem.W.Frag} {mg : Str → Option Value} {base : Heap} {E : Ad} (T : Txt P K mg E) : FnOk P w K mg base (L2.CX P w) 3 E.f__law_bent E.d__law_bent ["jar", "text"] (SP K E.C 2 F__law_bent) := fn_ok T.fn__law_bent sc__law_bent fun cdv A outer s H E' hr tk => by
  exact (ds_cons (ds_par (i := 2) (k := 3) rfl sc__law_bent.nd rfl rfl (by decide) rfl rfl (da_cons (de_call (ok__law_take T) (hr.mono (by decide)) tk rfl T.m__law_take T.k__law_take T.b__law_take (da_cons (de_var (pv 0)) (da_cons (de_bin opA sn_add (w_len rfl T.n_len (da_cons (de_var (pv 1)) da_nil)) de_int) da_nil))) (da_cons (de_call (ok__law_one T) (hr.mono (by decide)) tk rfl T.m__law_one T.k__law_one T.b__law_one (da_cons (de_var (pv 0)) (da_cons (de_bin opA sn_add (de_give (w_list rfl rfl T.n_list (da_cons de_str da_nil))) (de_give (dl_lst (da_cons de_str (da_cons de_str (da_cons de_str (da_cons de_str da_nil))))))) da_nil))) da_nil)) (by first | rfl | with_unfolding_all rfl | kernel_rfl)) (ds_cons (ds_setOwn (i := 4) sc__law_bent.nd rfl (Or.inl rfl) (dl_lst (da_cons (de_bin opA sn_add (de_bin opA sn_add (de_slice sl_str sn_cut (de_var (pv 1)) do_none (do_some (de_var (pv 2)))) (de_var (pv 3))) (de_slice sl_str sn_cut (de_var (pv 1)) (do_some (de_var (pv 2))) do_none)) (da_cons (de_bin opA sn_add (de_slice sl_str sn_cut (de_var (pv 1)) do_none (do_some (de_var (pv 2)))) (de_slice sl_str sn_cut (de_var (pv 1)) (do_some (de_bin opA sn_add (de_var (pv 2)) de_int)) do_none)) (da_cons (de_bin opA sn_add (de_bin opA sn_add (de_slice sl_str sn_cut (de_var (pv 1)) do_none (do_some (de_var (pv 2)))) (de_var (pv 3))) (de_slice sl_str sn_cut (de_var (pv 1)) (do_some (de_bin opA sn_add (de_var (pv 2)) de_int)) do_none)) (da_cons (de_bin opA sn_add de_str (de_var (pv 1))) da_nil)))))) (ds_cons (w_ext (pv 4) (da_cons (de_give (dl_lst (da_cons (de_bin opA sn_add (de_var (pv 1)) de_str) (da_cons (de_bin opA sn_add de_str (de_var (pv 1))) (da_cons (de_bin opA sn_add de_str (de_var (pv 1))) (da_cons (de_bin opA sn_add de_str (de_var (pv 1))) (da_cons (de_bin opA sn_add de_str (de_var (pv 1))) (da_cons (de_bin opA sn_add (de_var (pv 1)) de_str) (da_cons (de_bin opA sn_add (de_var (pv 1)) de_str) (da_cons (de_upper (de_var (pv 1))) da_nil)))))))))) da_nil)) (ds_frz 4 (ds_one (ds_ret (de_bin opA sn_add (de_var (pv 4)) (de_give (dl_lst (da_cons (de_bin opA sn_add (de_var (pv 1)) (de_bin opM sn_mul de_str de_int)) (da_cons (de_bin opA sn_add (de_var (pv 1)) (de_bin opM sn_mul de_str de_int)) (da_cons (de_bin opM sn_mul (de_var (pv 1)) de_int) (da_cons (de_give (dl_lst (da_cons (de_var (pv 1)) da_nil))) (da_cons (de_tup (da_cons (de_var (pv 1)) da_nil)) da_nil))))))))))))))
theorem ok__law_count_right {P : Program} {w : World} {K : PySem.W.Frag} {mg : Str → Option Value} {base : Heap} {E : Ad} (T : Txt P K mg E) (TBS : TBs base mg E) : FnOk P w K mg base (L2.CX P w) 11 E.f__law_count_right E.d__law_count_right ["jar", "count"] (SP K E.C 2 F__law_count_right) := fn_okC T.fn__law_count_right sc__law_count_right fun A outer s H E' hr tk => by
  have TB := TBS.t__law_count_right
  exact (ds_cons (ds_un (is := [2, 3]) (de_tup (da_cons (de_call (ok__law_number T) (hr.mono (by decide)) tk rfl T.m__law_number T.k__law_number T.b__law_number (da_cons (de_var (pv 0)) da_nil)) (da_cons (de_call (ok__law_ra_count_text T) (hr.mono (by decide)) tk rfl T.m__law_ra_count_text T.k__law_ra_count_text T.b__law_ra_count_text (da_cons (de_var (pv 1)) da_nil)) da_nil))) (pg_tup rfl (pgs_cons (pg_name (i := 2) sc__law_count_right.nd rfl (Or.inr rfl)) (pgs_cons (pg_name (i := 3) sc__law_count_right.nd rfl (Or.inl rfl)) pgs_nil)))) (ds_cons (ds_setOwn (i := 4) sc__law_count_right.nd rfl (Or.inl rfl) (dl_lst (da_cons (de_heard mkC_jo T.sel rfl T.m__law_heard T.k__law_heard T.heard_lk T.heard_cd T.heard_b sc__law_heard rfl (Or.inl rfl) (by exact heard_gv T) TB rfl (T.tab__law_count_right) (T.tabu__law_count_right) (k := 8) (hr.mono (by decide)) (LamX.lamS_by (sc := defScope s__law_count_right) (by decide +kernel)) rfl (fun _ _ _ _ _ => rfl) (fun _ _ _ _ _ _ _ hr2 tk2 => (de_tup (da_cons (de_call (ok_is_count T) (hr2.mono (by decide)) tk2 rfl T.m_is_count T.k_is_count T.b_is_count (da_cons (de_var (pv 1)) da_nil)) (da_cons (de_call (ok_rounds T) (hr2.mono (by decide)) tk2 rfl T.m_rounds T.k_rounds T.b_rounds (da_cons (de_var (pv 1)) (da_cons (de_var (pv 2)) da_nil))) (da_cons (de_call (ok_format_count T) (hr2.mono (by decide)) tk2 rfl T.m_format_count T.k_format_count T.b_format_count (da_cons (de_var (pv 1)) da_nil)) da_nil)))))) da_nil))) (ds_cons (w_app (pv 4) (da_cons (de_call (ok__law_heard_text T TBS) (hr.mono (by decide)) tk rfl T.m__law_heard_text T.k__law_heard_text T.b__law_heard_text (da_cons (de_var (pv 3)) da_nil)) da_nil)) (ds_frz 4 (ds_cons (ds_set (i := 5) sc__law_count_right.nd rfl (Or.inl rfl) (de_give (dl_lst (da_cons (de_tup (da_cons de_str (da_cons (de_tup (da_cons de_bl (da_cons (de_call (ok__law_ra_rounds T) (hr.mono (by decide)) tk rfl T.m__law_ra_rounds T.k__law_ra_rounds T.b__law_ra_rounds (da_cons (de_var (pv 1)) (da_cons (de_var (pv 2)) da_nil))) (da_cons (de_var (pv 3)) da_nil)))) da_nil))) (da_cons (de_tup (da_cons de_str (da_cons (de_var (pv 1)) da_nil))) da_nil))))) (ds_cons (ds_if (dt_not (dt_val (de_call (ok__law_yq_same T) (hr.mono (by decide)) tk rfl T.m__law_yq_same T.k__law_yq_same T.b__law_yq_same (da_cons (de_var (pv 4)) (da_cons (de_var (pv 5)) da_nil))))) (ds_one (ds_ret de_bl)) ds_nil) (ds_one (ds_ret (de_cmp (opEqX hr) sn_eqX (de_give (w_lcL rfl sc__law_count_right.nd (i := 6) rfl (blk_of (N := ["jar", "count", "n", "text", "said", "owed", "thing"]) (sc := defScope s__law_count_right) (by decide +kernel)) (fun _ _ _ _ _ => Or.inl rfl) (de_call (ok__law_bent T) (hr.mono (by decide)) tk rfl T.m__law_bent T.k__law_bent T.b__law_bent (da_cons (de_var (pv 0)) (da_cons (de_var (pv 3)) da_nil))) (fun _ _ _ _ _ => Or.inr rfl) (fun _ _ _ _ _ => (dts_one (dt_not (dt_val (de_call (ok__law_text_right T TBS) (hr.mono (by decide)) L2.takes0 rfl T.m__law_text_right T.k__law_text_right T.b__law_text_right (da_cons (de_var (pv 6)) da_nil)))))) (fun _ _ _ _ _ => (de_var (pv 6))))) (de_give (dl_lst da_nil)))))))))))
theorem ok__law_other_right {P : Program} {w : World} {K : PySem.W.Frag} {mg : Str → Option Value} {base : Heap} {E : Ad} (T : Txt P K mg E) (TBS : TBs base mg E) : FnOk P w K mg base (L2.CX P w) 10 E.f__law_other_right E.d__law_other_right ["jar", "thing"] (SP K E.C 2 F__law_other_right) := fn_okC T.fn__law_other_right sc__law_other_right fun A outer s H E' hr tk => by
  have TB := TBS.t__law_other_right
  exact (ds_cons (ds_un (is := [2, 3]) (de_tup (da_cons (de_call (ok__law_ra_is_count T) (hr.mono (by decide)) tk rfl T.m__law_ra_is_count T.k__law_ra_is_count T.b__law_ra_is_count (da_cons (de_var (pv 1)) da_nil)) (da_cons (de_call (ok__law_number T) (hr.mono (by decide)) tk rfl T.m__law_number T.k__law_number T.b__law_number (da_cons (de_var (pv 0)) da_nil)) da_nil))) (pg_tup rfl (pgs_cons (pg_name (i := 2) sc__law_other_right.nd rfl (Or.inl rfl)) (pgs_cons (pg_name (i := 3) sc__law_other_right.nd rfl (Or.inr rfl)) pgs_nil)))) (ds_cons (ds_set (i := 4) sc__law_other_right.nd rfl (Or.inr rfl) (de_call (ok__law_one T) (hr.mono (by decide)) tk rfl T.m__law_one T.k__law_one T.b__law_one (da_cons (de_var (pv 0)) (da_cons (de_give (dl_lst (da_cons (de_un un_neg sn_neg de_int) (da_cons (de_bin opA sn_add (de_bin op_pow sn_pow de_int de_int) de_int) (da_cons de_bl (da_cons de_non (da_cons de_str (da_cons (de_tup (da_cons de_int da_nil)) da_nil)))))))) da_nil)))) (ds_cons (ds_setOwn (i := 5) sc__law_other_right.nd rfl (Or.inl rfl) (dl_lst (da_cons (de_heard mkC_jo T.sel rfl T.m__law_heard T.k__law_heard T.heard_lk T.heard_cd T.heard_b sc__law_heard rfl (Or.inl rfl) (by exact heard_gv T) TB rfl (T.tab__law_other_right) (T.tabu__law_other_right) (k := 7) (hr.mono (by decide)) (LamX.lamS_by (sc := defScope s__law_other_right) (by decide +kernel)) rfl (fun _ _ _ _ _ => rfl) (fun _ _ _ _ _ _ _ hr2 tk2 => (de_call (ok_is_count T) (hr2.mono (by decide)) tk2 rfl T.m_is_count T.k_is_count T.b_is_count (da_cons (de_var (pv 1)) da_nil)))) da_nil))) (ds_cons (w_app (pv 5) (da_cons (de_heard mkC_jo T.sel rfl T.m__law_heard T.k__law_heard T.heard_lk T.heard_cd T.heard_b sc__law_heard rfl (Or.inl rfl) (by exact heard_gv T) TB rfl (T.tab__law_other_right) (T.tabu__law_other_right) (k := 7) (hr.mono (by decide)) (LamX.lamS_by (sc := defScope s__law_other_right) (by decide +kernel)) rfl (fun _ _ _ _ _ => rfl) (fun _ _ _ _ _ _ _ hr2 tk2 => (de_call (ok_rounds T) (hr2.mono (by decide)) tk2 rfl T.m_rounds T.k_rounds T.b_rounds (da_cons (de_var (pv 1)) (da_cons (de_var (pv 4)) da_nil))))) da_nil)) (ds_cons (w_app (pv 5) (da_cons (de_heard mkC_jo T.sel rfl T.m__law_heard T.k__law_heard T.heard_lk T.heard_cd T.heard_b sc__law_heard rfl (Or.inl rfl) (by exact heard_gv T) TB rfl (T.tab__law_other_right) (T.tabu__law_other_right) (k := 7) (hr.mono (by decide)) (LamX.lamS_by (sc := defScope s__law_other_right) (by decide +kernel)) rfl (fun _ _ _ _ _ => rfl) (fun _ _ _ _ _ _ _ hr2 tk2 => (de_call (ok_rounds T) (hr2.mono (by decide)) tk2 rfl T.m_rounds T.k_rounds T.b_rounds (da_cons (de_var (pv 1)) (da_cons (de_var (pv 3)) da_nil))))) da_nil)) (ds_cons (w_app (pv 5) (da_cons (de_heard mkC_jo T.sel rfl T.m__law_heard T.k__law_heard T.heard_lk T.heard_cd T.heard_b sc__law_heard rfl (Or.inl rfl) (by exact heard_gv T) TB rfl (T.tab__law_other_right) (T.tabu__law_other_right) (k := 7) (hr.mono (by decide)) (LamX.lamS_by (sc := defScope s__law_other_right) (by decide +kernel)) rfl (fun _ _ _ _ _ => rfl) (fun _ _ _ _ _ _ _ hr2 tk2 => (de_call (ok_format_count T) (hr2.mono (by decide)) tk2 rfl T.m_format_count T.k_format_count T.b_format_count (da_cons (de_var (pv 1)) da_nil)))) da_nil)) (ds_frz 5 (ds_cons (ds_if (dt_not (dt_val (de_var (pv 2)))) (ds_one (ds_ret (de_call (ok__law_yq_same T) (hr.mono (by decide)) tk rfl T.m__law_yq_same T.k__law_yq_same T.b__law_yq_same (da_cons (de_var (pv 5)) (da_cons (de_bin opA sn_add (de_give (dl_lst (da_cons (de_tup (da_cons de_str (da_cons de_bl da_nil))) da_nil))) (de_bin opM sn_mul (de_give (dl_lst (da_cons (de_tup (da_cons de_str (da_cons (de_var (pv 1)) da_nil))) da_nil))) de_int)) da_nil))))) ds_nil) (ds_cons (ds_set (i := 6) sc__law_other_right.nd rfl (Or.inl rfl) (de_give (dl_lst (da_cons (de_tup (da_cons de_str (da_cons de_bl da_nil))) (da_cons (de_tup (da_cons de_str (da_cons (de_var (pv 4)) da_nil))) (da_cons (de_tup (da_cons de_str (da_cons (de_call (ok__law_ra_rounds T) (hr.mono (by decide)) tk rfl T.m__law_ra_rounds T.k__law_ra_rounds T.b__law_ra_rounds (da_cons (de_var (pv 1)) (da_cons (de_var (pv 3)) da_nil))) da_nil))) da_nil)))))) (ds_one (ds_ret (de_call (ok__law_yq_same T) (hr.mono (by decide)) tk rfl T.m__law_yq_same T.k__law_yq_same T.b__law_yq_same (da_cons (de_var (pv 5)) (da_cons (de_bin opA sn_add (de_var (pv 6)) (de_give (dl_lst (da_cons (de_tup (da_cons de_str (da_cons (de_call (ok__law_ra_count_text T) (hr.mono (by decide)) tk rfl T.m__law_ra_count_text T.k__law_ra_count_text T.b__law_ra_count_text (da_cons (de_var (pv 1)) da_nil)) da_nil))) da_nil)))) da_nil))))))))))))))
theorem ok__law_short_right {P : Program} {w : World} {K : PySem.W.Frag} {mg : Str → Option Value} {base : Heap} {E : Ad} (T : Txt P K mg E) (TBS : TBs base mg E) : FnOk P w K mg base (L2.CX P w) 11 E.f__law_short_right E.d__law_short_right [] (SP K E.C 0 F__law_short_right) := fn_ok T.fn__law_short_right sc__law_short_right fun cdv A outer s H E' hr tk => by
  exact (ds_cons (ds_set (i := 0) sc__law_short_right.nd rfl (Or.inl rfl) (de_give (w_list rfl rfl T.n_list (da_cons de_str da_nil)))) (ds_cons (ds_setOwn (i := 1) sc__law_short_right.nd rfl (Or.inl rfl) (dl_bin op_cat sn_cat (de_give (dl_lst (da_cons de_str da_nil))) (de_var (pv 0)))) (ds_cons (ds_forL (i := 2) sc__law_short_right.nd rfl (Or.inr rfl) (passes_of rfl) rfl (de_var (pv 0)) (ds_one (w_ext (pv 1) (da_cons (de_give (w_lcL rfl sc__law_short_right.nd (i := 3) rfl (blk_of (N := ["signs", "some", "one", "other", "text"]) (sc := defScope s__law_short_right) (by decide +kernel)) (fun _ _ _ _ _ => Or.inl rfl) (de_var (pv 0)) (fun _ _ _ _ _ => Or.inr rfl) (fun _ _ _ _ _ => dts_nil) (fun _ _ _ _ _ => (de_bin opA sn_add (de_var (pv 2)) (de_var (pv 3)))))) da_nil)))) (ds_cons (ds_forL (i := 2) sc__law_short_right.nd rfl (Or.inr rfl) (passes_of rfl) rfl (de_give (dl_lst (da_cons de_str (da_cons de_str (da_cons de_str (da_cons de_str (da_cons de_str (da_cons de_str (da_cons de_str (da_cons de_str (da_cons de_str (da_cons de_str (da_cons de_str da_nil))))))))))))) (ds_one (w_ext (pv 1) (da_cons (de_give (w_lcL rfl sc__law_short_right.nd (i := 3) rfl (blk_of (N := ["signs", "some", "one", "other", "text"]) (sc := defScope s__law_short_right) (by decide +kernel)) (fun _ _ _ _ _ => Or.inl rfl) (de_var (pv 0)) (fun _ _ _ _ _ => Or.inr rfl) (fun _ _ _ _ _ => dts_nil) (fun _ _ _ _ _ => (de_bin opA sn_add (de_var (pv 2)) (de_var (pv 3)))))) da_nil)))) (ds_frz 1 (ds_one (ds_ret (de_cmp (opEqX hr) sn_eqX (de_give (w_lcL rfl sc__law_short_right.nd (i := 4) rfl (blk_of (N := ["signs", "some", "one", "other", "text"]) (sc := defScope s__law_short_right) (by decide +kernel)) (fun _ _ _ _ _ => Or.inl rfl) (de_var (pv 1)) (fun _ _ _ _ _ => Or.inr rfl) (fun _ _ _ _ _ => (dts_one (dt_not (dt_val (de_call (ok__law_text_right T TBS) (hr.mono (by decide)) L2.takes0 rfl T.m__law_text_right T.k__law_text_right T.b__law_text_right (da_cons (de_var (pv 4)) da_nil)))))) (fun _ _ _ _ _ => (de_var (pv 4))))) (de_give (dl_lst da_nil))))))))))
def b_law : Ss := (seqS (forR 2 (consS (cS (.int 12)) nilS) (iffS (notS (asB (callS 2 F__law_count_right (consS (varS 1) (consS (callS 1 F__law_count (consS (varS 1) nilS)) nilS))))) (thenS (cS (.bl false)) fun d _ s => .rt d s) skipS)) (seqS (iffS (asB (op2 (eqD true) (giveS (lcLS 3 (notS (asB (callS 2 F__law_other_right (consS (varS 1) (consS (varS 3) nilS))))) (varS 3) (callS 1 F__law_others (consS (varS 1) nilS)))) (giveS (lstS nilS)))) (thenS (cS (.bl false)) fun d _ s => .rt d s) skipS) (seqS (thenS (giveS (lstS (consS (tupS (consS (cS (.int 0)) (consS (cS (.int 0)) nilS))) (consS (tupS (consS (cS (.int 0)) (consS (op2 powD (cS (.int 10)) (cS (.int 30))) nilS))) (consS (tupS (consS (cS (.int 1)) (consS (cS (.int 0)) nilS))) (consS (tupS (consS (cS (.int 9)) (consS (op1 negD (op2 powD (cS (.int 10)) (cS (.int 30)))) nilS))) (consS (tupS (consS (cS (.int 9)) (consS (op2 powD (cS (.int 10)) (cS (.int 30))) nilS))) (consS (tupS (consS (cS (.int 1)) (consS (op1 negD (cS (.int 1))) nilS))) (consS (tupS (consS (cS (.int 2)) (consS (cS (.int 1)) nilS))) nilS))))))))) fun d ρ s => .nx (ρ.set 4 (.dat d)) s) (seqS (iffS (asB (op2 (eqD true) (giveS (lcLS 5 (notS (asB (callS 2 F__law_count_right (consS (varS 1) (consS (varS 5) nilS))))) (varS 5) (varS 4))) (giveS (lstS nilS)))) (thenS (cS (.bl false)) fun d _ s => .rt d s) skipS) (seqS (thenS (giveS (lstS (consS (op2 mulD (cS (.str "9")) (cS (.int 5000))) (consS (op2 addD (cS (.str "n+")) (op2 mulD (cS (.str "9")) (cS (.int 4000)))) (consS (op2 mulD (cS (.str "n")) (cS (.int 3000))) (consS (op2 addD (cS (.str "1")) (op2 mulD (cS (.str "0")) (cS (.int 31)))) (consS (op2 addD (cS (.str "n-1")) (op2 mulD (cS (.str "0")) (cS (.int 30)))) (consS (op2 addD (cS (.str "n-1")) (op2 mulD (cS (.str "0")) (cS (.int 31)))) (consS (op2 mulD (cS (.str "9")) (cS (.int 31))) nilS))))))))) fun d ρ s => .nx (ρ.set 6 (.dat d)) s) (seqS (iffS (asB (op2 (eqD true) (giveS (lcLS 3 (notS (asB (callS 1 F__law_text_right (consS (varS 3) nilS)))) (varS 3) (op2 addD (varS 6) (giveS (lstS (consS (cS .non) (consS (cS (.int 7)) (consS (cS (.bl true)) (consS (giveS (lstS (consS (cS (.str "n")) nilS))) (consS (tupS (consS (cS (.str "n")) nilS)) (consS (cS (.dic [] [])) nilS))))))))))) (giveS (lstS nilS)))) (thenS (cS (.bl false)) fun d _ s => .rt d s) skipS) (thenS (callS 0 F__law_short_right nilS) fun d _ s => .rt d s)))))))
def r_law : En := [.no, .dat .jar, .no, .no, .no, .no, .no]
theorem ok_law {P : Program} {w : World} {K : PySem.W.Frag} {mg : Str → Option Value} {base : Heap} {E : Ad} (T : Txt P K mg E) (TBS : TBs base mg E) 
    (hp : ∀ ns : List Int, ns.length ≤ 63 → ∃ (d s c : Int) (s' : Jr), F__law_pool [.scr ns] ⟨0, 0, 0⟩ = .ok (.lst [.int d, .int s, .int c]) s' ∧ ∃ s2, b_law r_law ⟨d, s, c⟩ = .rt (.bl true) s2) :
    FnOk P w K mg base (L2.CX P w) 12 E.f_law E.d_law ["script"] (spLaw K E.T) := by
  obtain ⟨oc, od, kV, doc, pm, an, cdv, ct, osl, e, lk, hcd⟩ := T.fn_law.ex
  rw [e] at lk ⊢
  refine fn_of lk hcd sc_law (fun vs H Q E' h => by obtain ⟨a, ns, e, _⟩ := h; rw [e]; rfl) fun A outer s H vs Q E' hr h => ⟨_, pss_cons
    (ds_set (C := E.C0) (W := fun cls d _ H => E' cls d H) (i := 1) sc_law.nd rfl (Or.inr rfl) (de_call (ok__law_pool T) (hr.mono (by decide)) (takes_of rfl rfl rfl rfl) rfl T.m__law_pool T.k__law_pool T.b__law_pool (da_cons (de_var (pv 0)) da_nil)))
    (law_rest (C := E.C) (E' := E') (takes_of rfl rfl rfl rfl) fun tk => by exact (ds_cons (ds_forR (i := 2) sc_law.nd rfl (Or.inl rfl) (passes_of rfl) rfl rfl T.n_range (da_cons de_int da_nil) (ds_one (ds_if (dt_not (dt_val (de_call (ok__law_count_right T TBS) (hr.mono (by decide)) tk rfl T.m__law_count_right T.k__law_count_right T.b__law_count_right (da_cons (de_var (pv 1)) (da_cons (de_call (ok__law_count T) (hr.mono (by decide)) tk rfl T.m__law_count T.k__law_count T.b__law_count (da_cons (de_var (pv 1)) da_nil)) da_nil))))) (ds_one (ds_ret de_bl)) ds_nil))) (ds_cons (ds_if (dt_cmp (opNeX hr) sn_ne (de_give (w_lcL rfl sc_law.nd (i := 3) rfl (blk_of (N := ["script", "jar", "go", "thing", "some", "count", "far"]) (sc := defScope s_law) (by decide +kernel)) (fun _ _ _ _ _ => Or.inl rfl) (de_call (ok__law_others T) (hr.mono (by decide)) tk rfl T.m__law_others T.k__law_others T.b__law_others (da_cons (de_var (pv 1)) da_nil)) (fun _ _ _ _ _ => Or.inr rfl) (fun _ _ _ _ _ => (dts_one (dt_not (dt_val (de_call (ok__law_other_right T TBS) (hr.mono (by decide)) L2.takes0 rfl T.m__law_other_right T.k__law_other_right T.b__law_other_right (da_cons (de_var (pv 1)) (da_cons (de_var (pv 3)) da_nil))))))) (fun _ _ _ _ _ => (de_var (pv 3))))) (de_give (dl_lst da_nil))) (ds_one (ds_ret de_bl)) ds_nil) (ds_cons (ds_set (i := 4) sc_law.nd rfl (Or.inl rfl) (de_give (dl_lst (da_cons (de_tup (da_cons de_int (da_cons de_int da_nil))) (da_cons (de_tup (da_cons de_int (da_cons (de_bin op_pow sn_pow de_int de_int) da_nil))) (da_cons (de_tup (da_cons de_int (da_cons de_int da_nil))) (da_cons (de_tup (da_cons de_int (da_cons (de_un un_neg sn_neg (de_bin op_pow sn_pow de_int de_int)) da_nil))) (da_cons (de_tup (da_cons de_int (da_cons (de_bin op_pow sn_pow de_int de_int) da_nil))) (da_cons (de_tup (da_cons de_int (da_cons (de_un un_neg sn_neg de_int) da_nil))) (da_cons (de_tup (da_cons de_int (da_cons de_int da_nil))) da_nil)))))))))) (ds_cons (ds_if (dt_cmp (opNeX hr) sn_ne (de_give (w_lcL rfl sc_law.nd (i := 5) rfl (blk_of (N := ["script", "jar", "go", "thing", "some", "count", "far"]) (sc := defScope s_law) (by decide +kernel)) (fun _ _ _ _ _ => Or.inl rfl) (de_var (pv 4)) (fun _ _ _ _ _ => Or.inr rfl) (fun _ _ _ _ _ => (dts_one (dt_not (dt_val (de_call (ok__law_count_right T TBS) (hr.mono (by decide)) L2.takes0 rfl T.m__law_count_right T.k__law_count_right T.b__law_count_right (da_cons (de_var (pv 1)) (da_cons (de_var (pv 5)) da_nil))))))) (fun _ _ _ _ _ => (de_var (pv 5))))) (de_give (dl_lst da_nil))) (ds_one (ds_ret de_bl)) ds_nil) (ds_cons (ds_set (i := 6) sc_law.nd rfl (Or.inl rfl) (de_give (dl_lst (da_cons (de_bin opM sn_mul de_str de_int) (da_cons (de_bin opA sn_add de_str (de_bin opM sn_mul de_str de_int)) (da_cons (de_bin opM sn_mul de_str de_int) (da_cons (de_bin opA sn_add de_str (de_bin opM sn_mul de_str de_int)) (da_cons (de_bin opA sn_add de_str (de_bin opM sn_mul de_str de_int)) (da_cons (de_bin opA sn_add de_str (de_bin opM sn_mul de_str de_int)) (da_cons (de_bin opM sn_mul de_str de_int) da_nil)))))))))) (ds_cons (ds_if (dt_cmp (opNeX hr) sn_ne (de_give (w_lcL rfl sc_law.nd (i := 3) rfl (blk_of (N := ["script", "jar", "go", "thing", "some", "count", "far"]) (sc := defScope s_law) (by decide +kernel)) (fun _ _ _ _ _ => Or.inl rfl) (de_bin opA sn_add (de_var (pv 6)) (de_give (dl_lst (da_cons de_non (da_cons de_int (da_cons de_bl (da_cons (de_give (dl_lst (da_cons de_str da_nil))) (da_cons (de_tup (da_cons de_str da_nil)) (da_cons de_dnew da_nil))))))))) (fun _ _ _ _ _ => Or.inr rfl) (fun _ _ _ _ _ => (dts_one (dt_not (dt_val (de_call (ok__law_text_right T TBS) (hr.mono (by decide)) L2.takes0 rfl T.m__law_text_right T.k__law_text_right T.b__law_text_right (da_cons (de_var (pv 3)) da_nil)))))) (fun _ _ _ _ _ => (de_var (pv 3))))) (de_give (dl_lst da_nil))) (ds_one (ds_ret de_bl)) ds_nil) (ds_one (ds_ret (de_call0 (ok__law_short_right T TBS) (hr.mono (by decide)) tk rfl T.m__law_short_right T.k__law_short_right T.b__law_short_right)))))))))), ?_⟩
  exact law_go (T := E.T) (cl := E.cl) (N := ["script", "jar", "go", "thing", "some", "count", "far"]) (ij := 1) (by decide) (by decide) rfl (List.cons_ne_nil _ _) h (fun ns hn => by
    obtain ⟨d, s, c, s', e1, s2, e2⟩ := hp ns hn
    exact ⟨d, s, c, s', e1, s2, e2⟩)
end Pr
end DL

namespace DL
open PySem PySem.Spec PyProof.Rows L2
/-! ## reckoning -/
theorem bind_ap {α β : Type} (A : Sm α) (B : α → Sm β) (ρ : En) (s : Jr) : Sm.bind A B ρ s = (match A ρ s with
  | .ok a s' => B a ρ s'
  | .exc c d s' => .exc c d s'
  | .bad => .bad) := rfl
theorem map_ap {α β : Type} (A : Sm α) (f : α → β) (ρ : En) (s : Jr) : Sm.map A f ρ s = (match A ρ s with
  | .ok a s' => .ok (f a) s'
  | .exc c d s' => .exc c d s'
  | .bad => .bad) := rfl
theorem ofO_some {α : Type} (a : α) (ρ : En) (s : Jr) : Sm.ofO (some a) ρ s = .ok a s := rfl
theorem var_ap (i : Nat) (ρ : En) (s : Jr) : varS i ρ s = (match ρ[i]? with
  | some (.dat d) => .ok d s
  | _ => .bad) := rfl
theorem c_ap (d : D) (ρ : En) (s : Jr) : cS d ρ s = .ok d s := rfl
theorem nil_ap (ρ : En) (s : Jr) : nilS ρ s = .ok [] s := rfl
theorem ite_ap {α : Type} (c : Prop) [Decidable c] (A B : Sm α) (ρ : En) (s : Jr) : (if c then A else B) ρ s = if c then A ρ s else B ρ s := by split <;> rfl
theorem iteS_ap (c : Prop) [Decidable c] (A B : Ss) (ρ : En) (s : Jr) : (if c then A else B) ρ s = if c then A ρ s else B ρ s := by split <;> rfl
theorem then_ap (A : Sm D) (k : D → Ss) (ρ : En) (s : Jr) : thenS A k ρ s = (match A ρ s with
  | .ok d s' => k d ρ s'
  | .exc c d s' => .exc c d s'
  | .bad => .bad) := rfl
theorem thenL_ap (A : Sm (List D)) (k : List D → Ss) (ρ : En) (s : Jr) : thenL A k ρ s = (match A ρ s with
  | .ok d s' => k d ρ s'
  | .exc c d s' => .exc c d s'
  | .bad => .bad) := rfl
theorem seq_ap (F F' : Ss) (ρ : En) (s : Jr) : seqS F F' ρ s = (match F ρ s with
  | .nx ρ' s' => F' ρ' s'
  | o => o) := rfl
theorem iff_ap (T : Sm Bool) (F F' : Ss) (ρ : En) (s : Jr) : iffS T F F' ρ s = (match T ρ s with
  | .ok b s' => if b then F ρ s' else F' ρ s'
  | .exc c d s' => .exc c d s'
  | .bad => .bad) := rfl
theorem skip_ap (ρ : En) (s : Jr) : skipS ρ s = .nx ρ s := rfl
theorem opt_some {α : Type} (a : α) (k : α → Ss) : optS (some a) k = k a := rfl
theorem fn_ap (N : List Str) (B : Ss) (ds : List D) (s : Jr) : fnS N B ds s = (match B (ds.map .dat ++ List.replicate (N.length - ds.length) .no) s with
  | .nx _ s' => .ok .non s'
  | .rt d s' => .ok d s'
  | .exc c d s' => .exc c d s'
  | _ => .bad) := by
  show (match B (initR N ds) s with
    | .nx _ s' => Res.ok D.non s'
    | .rt d s' => .ok d s'
    | .exc c d s' => .exc c d s'
    | _ => .bad) = _
  rfl
/-! the data's functions at what they take -/
theorem le_ii (a b : Int) : leD (.int a) (.int b) = some (.bl (decide (a ≤ b))) := rfl
theorem lt_ii (a b : Int) : ltD (.int a) (.int b) = some (.bl (decide (a < b))) := rfl
theorem gt_ii (a b : Int) : gtD (.int a) (.int b) = some (.bl (decide (b < a))) := rfl
theorem ge_ii (a b : Int) : geD (.int a) (.int b) = some (.bl (decide (b ≤ a))) := rfl
theorem add_ii (a b : Int) : addD (.int a) (.int b) = some (.int (a + b)) := rfl
theorem add_ss {a b : Str} (h : a.length + b.length ≤ 10000000) : addD (.str a) (.str b) = some (.str (a ++ b)) := if_pos h
theorem add_ll {a b : List D} (h : a.length + b.length ≤ 1000000) : addD (.lst a) (.lst b) = some (.lst (a ++ b)) := if_pos h
theorem sub_ii (a b : Int) : subD (.int a) (.int b) = some (.int (a - b)) := rfl
theorem neg_i (a : Int) : negD (.int a) = some (.int (-a)) := rfl
theorem mod_ii {a b : Int} (h : 0 < b) : modD (.int a) (.int b) = some (.int (a % b)) := if_pos h
theorem eq_ii (a b : Int) : eqX (.int a) (.int b) = some (.bl (decide (a = b))) := rfl
theorem eq_ss (a b : Str) : eqX (.str a) (.str b) = some (.bl (decide (a = b))) := rfl
theorem eq_bb (a b : Bool) : eqX (.bl a) (.bl b) = some (.bl (decide (a = b))) := rfl
theorem ne_ii (a b : Int) : eqD true (.int a) (.int b) = some (.bl (!decide (a = b))) := rfl
theorem ne_ss (a b : Str) : eqD true (.str a) (.str b) = some (.bl (!decide (a = b))) := rfl
theorem len_s {x : Str} (h : x.length ≤ 10000000) : lenC [.str x] = some (.int x.length) := if_pos h
theorem len_t (x : List D) : lenC [.tup x] = some (.int x.length) := rfl
theorem len_l (x : List D) : lenC [.lst x] = some (.int x.length) := rfl
theorem guard_t {p : Prop} [Decidable p] (h : p) : guardO p = some () := if_pos h
theorem str_s (x : Str) : str? (.str x) = some x := rfl
theorem lst_l (x : List D) : lst? (.lst x) = some x := rfl
theorem tup_t (x : List D) : tup? (.tup x) = some x := rfl
theorem int_i (x : Int) : int? (.int x) = some x := rfl
theorem one_1 (x : D) : one? [x] = some x := rfl
theorem int_of_i (i : Int) : intC [.int i] = some (.int i) := rfl
theorem isN_int (i : Int) : isND (.int i) .non = some (.bl false) := rfl
theorem isN_non : isND .non .non = some (.bl true) := rfl
theorem isN_tup (i : List D) : isND (.tup i) .non = some (.bl false) := rfl
theorem isN_str (i : Str) : isND (.str i) .non = some (.bl false) := rfl
theorem isN_bl (i : Bool) : isND (.bl i) .non = some (.bl false) := rfl
theorem isN_lst (i : List D) : isND (.lst i) .non = some (.bl false) := rfl
theorem cut_s {x : Str} (lo hi : Option Int) (h : x.length ≤ 10000000) : cutD (.str x) lo hi = some (.str (cutS x lo hi)) := if_pos h
theorem ix_t (jl : Jr → List Int) (s : Jr) (ds : List D) (y : D) : ixJ jl s (.tup ds) y = ixD (.tup ds) y := rfl
theorem ix_l (jl : Jr → List Int) (s : Jr) (ds : List D) (y : D) : ixJ jl s (.lst ds) y = ixD (.lst ds) y := rfl
theorem ix_s (jl : Jr → List Int) (s : Jr) (x : Str) (y : D) : ixJ jl s (.str x) y = ixD (.str x) y := rfl
theorem ix_j (jl : Jr → List Int) (s : Jr) (i : Int) : ixJ jl s .jar (.int i) = (atI (jl s) i).map .int := rfl
theorem ix_c (jl : Jr → List Int) (s : Jr) (ns : List Int) (i : Int) : ixJ jl s (.scr ns) (.int i) = (atI ns i).map .int := rfl
theorem asb_b (b : Bool) : (match D.bl b with
  | .bl b => some b
  | _ => none) = some b := rfl
end DL

namespace DL
open PySem PySem.Spec PyProof.Rows L2
namespace Pr
/-! ## counts -/
def Pl : D → Prop
  | .jar => False
  | .ty _ => False
  | .scr _ => False
  | .obj _ _ _ => False
  | _ => True
def isI : D → Bool
  | .int _ => true
  | _ => false
def btw (d : D) (l m : Int) : Bool := match d with
  | .int a => decide (l ≤ a) && decide (a ≤ m)
  | _ => false
def isB : D → Bool
  | .bl _ => true
  | _ => false
def isS : D → Bool
  | .str _ => true
  | _ => false
def isT : D → Bool
  | .tup _ => true
  | _ => false
def isL : D → Bool
  | .lst _ => true
  | _ => false
theorem isi_int {d : D} (h : Pl d) : isiC [d, .ty "int"] = some (.bl (isI d || isB d)) := by
  cases d <;> first | rfl | exact h.elim
theorem isi_bool {d : D} (h : Pl d) : isiC [d, .ty "bool"] = some (.bl (isB d)) := by
  cases d <;> first | rfl | exact h.elim
theorem isi_str {d : D} (h : Pl d) : isiC [d, .ty "str"] = some (.bl (isS d)) := by
  cases d <;> first | rfl | exact h.elim
theorem isi_tuple {d : D} (h : Pl d) : isiC [d, .ty "tuple"] = some (.bl (isT d)) := by
  cases d <;> first | rfl | exact h.elim
theorem isi_list {d : D} (h : Pl d) : isiC [d, .ty "list"] = some (.bl (isL d)) := by
  cases d <;> first | rfl | exact h.elim
theorem is_integer_pl {d : D} (h : Pl d) (s : Jr) : F_is_integer [d] s = .ok (.bl (isI d)) s := by
  cases d <;> first | rfl | exact h.elim
theorem is_between_pl {d : D} (h : Pl d) (l m : Int) (s : Jr) : F_is_between [d, .int l, .int m] s = .ok (.bl (btw d l m)) s := by
  have h1 := is_integer_pl h s
  cases d with
  | int a =>
    simp [fn_ap, then_ap, thenL_ap, seq_ap, iff_ap, skip_ap, opt_some, andV, orV, notV, chS, asB, andS, orS, notS, ifS, callS, consS, tupS, lstS, giveS, op1, op2, op2L, cbS, cbL, ixS, ix_t, ix_l, ix_s, ix_j, ix_c, slS, soP, noP, op1s, op2s, bind_ap, map_ap, ofO_some, var_ap, c_ap, nil_ap, ite_ap, iteS_ap, le_ii, lt_ii, gt_ii, ge_ii, add_ii, sub_ii, neg_i, len_t, len_l, str_s, lst_l, tup_t, int_i, one_1, int_of_i, isN_int, isN_non, isN_tup, isN_str, isN_bl, isN_lst, F_is_between, b_is_between, h1, isI, leD, cmpI, btw]
    cases decide (l ≤ a) <;> simp [fn_ap, then_ap, thenL_ap, seq_ap, iff_ap, skip_ap, opt_some, andV, orV, notV, chS, asB, andS, orS, notS, ifS, callS, consS, tupS, lstS, giveS, op1, op2, op2L, cbS, cbL, ixS, ix_t, ix_l, ix_s, ix_j, ix_c, slS, soP, noP, op1s, op2s, bind_ap, map_ap, ofO_some, var_ap, c_ap, nil_ap, ite_ap, iteS_ap, le_ii, lt_ii, gt_ii, ge_ii, add_ii, sub_ii, neg_i, len_t, len_l, str_s, lst_l, tup_t, int_i, one_1, int_of_i, isN_int, isN_non, isN_tup, isN_str, isN_bl, isN_lst]
  | _ => simp [fn_ap, then_ap, thenL_ap, seq_ap, iff_ap, skip_ap, opt_some, andV, orV, notV, chS, asB, andS, orS, notS, ifS, callS, consS, tupS, lstS, giveS, op1, op2, op2L, cbS, cbL, ixS, ix_t, ix_l, ix_s, ix_j, ix_c, slS, soP, noP, op1s, op2s, bind_ap, map_ap, ofO_some, var_ap, c_ap, nil_ap, ite_ap, iteS_ap, le_ii, lt_ii, gt_ii, ge_ii, add_ii, sub_ii, neg_i, len_t, len_l, str_s, lst_l, tup_t, int_i, one_1, int_of_i, isN_int, isN_non, isN_tup, isN_str, isN_bl, isN_lst, F_is_between, b_is_between, h1, isI, btw]
def lowD (x : D) : Int := match x with
  | .int a => if a = 0 then 0 else -10 ^ 30
  | _ => 0
def isCnt : D → Bool
  | .tup [x, y] => btw x 0 9 && btw y (lowD x) (10 ^ 30)
  | _ => false
theorem is_count_2 {x y : D} (hx : Pl x) (hy : Pl y) (s : Jr) : F_is_count [.tup [x, y]] s = .ok (.bl (isCnt (.tup [x, y]))) s := by
  by_cases hb : btw x 0 9 = true
  · cases x with
    | int a =>
      by_cases ha : a = 0
      · subst ha
        simp [fn_ap, then_ap, thenL_ap, seq_ap, iff_ap, skip_ap, opt_some, andV, orV, notV, chS, asB, andS, orS, notS, ifS, callS, consS, tupS, lstS, giveS, op1, op2, op2L, cbS, cbL, ixS, ix_t, ix_l, ix_s, ix_j, ix_c, slS, soP, noP, op1s, op2s, bind_ap, map_ap, ofO_some, var_ap, c_ap, nil_ap, ite_ap, iteS_ap, le_ii, lt_ii, gt_ii, ge_ii, add_ii, sub_ii, neg_i, len_t, len_l, str_s, lst_l, tup_t, int_i, one_1, int_of_i, isN_int, isN_non, isN_tup, isN_str, isN_bl, isN_lst, F_is_count, b_is_count, is_between_pl hx, is_between_pl hy, hb, isiC, tyName, kitB, lenC, eq_ii, ne_ii, ixD, atI, ixN, isCnt, lowD]
      · simp [fn_ap, then_ap, thenL_ap, seq_ap, iff_ap, skip_ap, opt_some, andV, orV, notV, chS, asB, andS, orS, notS, ifS, callS, consS, tupS, lstS, giveS, op1, op2, op2L, cbS, cbL, ixS, ix_t, ix_l, ix_s, ix_j, ix_c, slS, soP, noP, op1s, op2s, bind_ap, map_ap, ofO_some, var_ap, c_ap, nil_ap, ite_ap, iteS_ap, le_ii, lt_ii, gt_ii, ge_ii, add_ii, sub_ii, neg_i, len_t, len_l, str_s, lst_l, tup_t, int_i, one_1, int_of_i, isN_int, isN_non, isN_tup, isN_str, isN_bl, isN_lst, F_is_count, b_is_count, is_between_pl hx, is_between_pl hy, hb, ha, isiC, tyName, kitB, lenC, eq_ii, ne_ii, ixD, atI, ixN, isCnt, lowD, negD]
    | _ => simp [btw] at hb
  · have hb' : btw x 0 9 = false := by simpa using hb
    simp [fn_ap, then_ap, thenL_ap, seq_ap, iff_ap, skip_ap, opt_some, andV, orV, notV, chS, asB, andS, orS, notS, ifS, callS, consS, tupS, lstS, giveS, op1, op2, op2L, cbS, cbL, ixS, ix_t, ix_l, ix_s, ix_j, ix_c, slS, soP, noP, op1s, op2s, bind_ap, map_ap, ofO_some, var_ap, c_ap, nil_ap, ite_ap, iteS_ap, le_ii, lt_ii, gt_ii, ge_ii, add_ii, sub_ii, neg_i, len_t, len_l, str_s, lst_l, tup_t, int_i, one_1, int_of_i, isN_int, isN_non, isN_tup, isN_str, isN_bl, isN_lst, F_is_count, b_is_count, is_between_pl hx, is_between_pl hy, hb', isiC, tyName, kitB, lenC, eq_ii, ne_ii, ixD, atI, ixN, isCnt]
/-- things that are asked -/
def Ask : D → Prop
  | .tup [x, y] => Pl x ∧ Pl y
  | .tup [] => True
  | .tup [_] => True
  | .tup [_, _, _] => True
  | .tup _ => False
  | d => Pl d
theorem is_count_ask {d : D} (h : Ask d) (s : Jr) : F_is_count [d] s = .ok (.bl (isCnt d)) s := by
  cases d with
  | tup ds =>
    match ds, h with
    | [], _ => rfl
    | [_], _ => rfl
    | [x, y], h => exact is_count_2 h.1 h.2 s
    | [_, _, _], _ => rfl
  | jar => exact h.elim
  | ty _ => exact h.elim
  | scr _ => exact h.elim
  | obj _ _ _ => exact h.elim
  | _ => rfl
theorem ra_is_int_pl {d : D} (h : Pl d) (l m : Int) (s : Jr) : F__law_ra_is_int [d, .int l, .int m] s = .ok (.bl (btw d l m)) s := by
  cases d with
  | int a =>
    simp [fn_ap, then_ap, thenL_ap, seq_ap, iff_ap, skip_ap, opt_some, andV, orV, notV, chS, asB, andS, orS, notS, ifS, callS, consS, tupS, lstS, giveS, op1, op2, op2L, cbS, cbL, ixS, ix_t, ix_l, ix_s, ix_j, ix_c, slS, soP, noP, op1s, op2s, bind_ap, map_ap, ofO_some, var_ap, c_ap, nil_ap, ite_ap, iteS_ap, le_ii, lt_ii, gt_ii, ge_ii, add_ii, sub_ii, neg_i, len_t, len_l, str_s, lst_l, tup_t, int_i, one_1, int_of_i, isN_int, isN_non, isN_tup, isN_str, isN_bl, isN_lst, F__law_ra_is_int, b__law_ra_is_int, isi_int h, isi_bool h, isI, isB, leD, cmpI, btw]
    cases decide (l ≤ a) <;> simp [fn_ap, then_ap, thenL_ap, seq_ap, iff_ap, skip_ap, opt_some, andV, orV, notV, chS, asB, andS, orS, notS, ifS, callS, consS, tupS, lstS, giveS, op1, op2, op2L, cbS, cbL, ixS, ix_t, ix_l, ix_s, ix_j, ix_c, slS, soP, noP, op1s, op2s, bind_ap, map_ap, ofO_some, var_ap, c_ap, nil_ap, ite_ap, iteS_ap, le_ii, lt_ii, gt_ii, ge_ii, add_ii, sub_ii, neg_i, len_t, len_l, str_s, lst_l, tup_t, int_i, one_1, int_of_i, isN_int, isN_non, isN_tup, isN_str, isN_bl, isN_lst]
  | jar => exact h.elim
  | ty _ => exact h.elim
  | scr _ => exact h.elim
  | obj _ _ _ => exact h.elim
  | _ => simp [fn_ap, then_ap, thenL_ap, seq_ap, iff_ap, skip_ap, opt_some, andV, orV, notV, chS, asB, andS, orS, notS, ifS, callS, consS, tupS, lstS, giveS, op1, op2, op2L, cbS, cbL, ixS, ix_t, ix_l, ix_s, ix_j, ix_c, slS, soP, noP, op1s, op2s, bind_ap, map_ap, ofO_some, var_ap, c_ap, nil_ap, ite_ap, iteS_ap, le_ii, lt_ii, gt_ii, ge_ii, add_ii, sub_ii, neg_i, len_t, len_l, str_s, lst_l, tup_t, int_i, one_1, int_of_i, isN_int, isN_non, isN_tup, isN_str, isN_bl, isN_lst, F__law_ra_is_int, b__law_ra_is_int, isi_int h, isi_bool h, isI, isB, btw]
theorem ra_is_count_2 {x y : D} (hx : Pl x) (hy : Pl y) (s : Jr) : F__law_ra_is_count [.tup [x, y]] s = .ok (.bl (isCnt (.tup [x, y]))) s := by
  by_cases hb : btw x 0 9 = true
  · cases x with
    | int a =>
      by_cases ha : a = 0
      · subst ha
        simp [fn_ap, then_ap, thenL_ap, seq_ap, iff_ap, skip_ap, opt_some, andV, orV, notV, chS, asB, andS, orS, notS, ifS, callS, consS, tupS, lstS, giveS, op1, op2, op2L, cbS, cbL, ixS, ix_t, ix_l, ix_s, ix_j, ix_c, slS, soP, noP, op1s, op2s, bind_ap, map_ap, ofO_some, var_ap, c_ap, nil_ap, ite_ap, iteS_ap, le_ii, lt_ii, gt_ii, ge_ii, add_ii, sub_ii, neg_i, len_t, len_l, str_s, lst_l, tup_t, int_i, one_1, int_of_i, isN_int, isN_non, isN_tup, isN_str, isN_bl, isN_lst, F__law_ra_is_count, b__law_ra_is_count, ra_is_int_pl hx, ra_is_int_pl hy, hb, isiC, tyName, kitB, lenC, eq_ii, ne_ii, ixD, atI, ixN, isCnt, lowD, powD]
      · simp [fn_ap, then_ap, thenL_ap, seq_ap, iff_ap, skip_ap, opt_some, andV, orV, notV, chS, asB, andS, orS, notS, ifS, callS, consS, tupS, lstS, giveS, op1, op2, op2L, cbS, cbL, ixS, ix_t, ix_l, ix_s, ix_j, ix_c, slS, soP, noP, op1s, op2s, bind_ap, map_ap, ofO_some, var_ap, c_ap, nil_ap, ite_ap, iteS_ap, le_ii, lt_ii, gt_ii, ge_ii, add_ii, sub_ii, neg_i, len_t, len_l, str_s, lst_l, tup_t, int_i, one_1, int_of_i, isN_int, isN_non, isN_tup, isN_str, isN_bl, isN_lst, F__law_ra_is_count, b__law_ra_is_count, ra_is_int_pl hx, ra_is_int_pl hy, hb, ha, isiC, tyName, kitB, lenC, eq_ii, ne_ii, ixD, atI, ixN, isCnt, lowD, negD, powD]
    | _ => simp [btw] at hb
  · have hb' : btw x 0 9 = false := by simpa using hb
    simp [fn_ap, then_ap, thenL_ap, seq_ap, iff_ap, skip_ap, opt_some, andV, orV, notV, chS, asB, andS, orS, notS, ifS, callS, consS, tupS, lstS, giveS, op1, op2, op2L, cbS, cbL, ixS, ix_t, ix_l, ix_s, ix_j, ix_c, slS, soP, noP, op1s, op2s, bind_ap, map_ap, ofO_some, var_ap, c_ap, nil_ap, ite_ap, iteS_ap, le_ii, lt_ii, gt_ii, ge_ii, add_ii, sub_ii, neg_i, len_t, len_l, str_s, lst_l, tup_t, int_i, one_1, int_of_i, isN_int, isN_non, isN_tup, isN_str, isN_bl, isN_lst, F__law_ra_is_count, b__law_ra_is_count, ra_is_int_pl hx, ra_is_int_pl hy, hb', isiC, tyName, kitB, lenC, eq_ii, ne_ii, ixD, atI, ixN, isCnt]
theorem ra_is_count_ask {d : D} (h : Ask d) (s : Jr) : F__law_ra_is_count [d] s = .ok (.bl (isCnt d)) s := by
  cases d with
  | tup ds =>
    match ds, h with
    | [], _ => rfl
    | [_], _ => rfl
    | [x, y], h => exact ra_is_count_2 h.1 h.2 s
    | [_, _, _], _ => rfl
  | jar => exact h.elim
  | ty _ => exact h.elim
  | scr _ => exact h.elim
  | obj _ _ _ => exact h.elim
  | _ => rfl
theorem check_count_ask {d : D} (h : Ask d) (s : Jr) : F_check_count [d] s = if isCnt d = true then .ok .non s else .exc 2 d s := by
  cases hc : isCnt d <;> simp [fn_ap, then_ap, thenL_ap, seq_ap, iff_ap, skip_ap, opt_some, andV, orV, notV, chS, asB, andS, orS, notS, ifS, callS, consS, tupS, lstS, giveS, op1, op2, op2L, cbS, cbL, ixS, ix_t, ix_l, ix_s, ix_j, ix_c, slS, soP, noP, op1s, op2s, bind_ap, map_ap, ofO_some, var_ap, c_ap, nil_ap, ite_ap, iteS_ap, le_ii, lt_ii, gt_ii, ge_ii, add_ii, sub_ii, neg_i, len_t, len_l, str_s, lst_l, tup_t, int_i, one_1, int_of_i, isN_int, isN_non, isN_tup, isN_str, isN_bl, isN_lst, F_check_count, b_check_count, is_count_ask h, hc, raiS]
theorem check_number_pl {d : D} (h : Pl d) (s : Jr) : F_check_number [d] s = if btw d 0 (10 ^ 30) = true then .ok .non s else .exc 3 d s := by
  cases hc : btw d 0 (10 ^ 30) <;> (have hc' : btw d 0 1000000000000000000000000000000 = _ := hc; simp [fn_ap, then_ap, thenL_ap, seq_ap, iff_ap, skip_ap, opt_some, andV, orV, notV, chS, asB, andS, orS, notS, ifS, callS, consS, tupS, lstS, giveS, op1, op2, op2L, cbS, cbL, ixS, ix_t, ix_l, ix_s, ix_j, ix_c, slS, soP, noP, op1s, op2s, bind_ap, map_ap, ofO_some, var_ap, c_ap, nil_ap, ite_ap, iteS_ap, le_ii, lt_ii, gt_ii, ge_ii, add_ii, sub_ii, neg_i, len_t, len_l, str_s, lst_l, tup_t, int_i, one_1, int_of_i, isN_int, isN_non, isN_tup, isN_str, isN_bl, isN_lst, F_check_number, b_check_number, is_between_pl h, hc', raiS])
def roundsAt (a b n : Int) : Int := if a * n + b > 0 then a * n + b else 0
theorem log_small {i : Int} (h : -10 ^ 60 ≤ i) (h' : i ≤ 10 ^ 60) : i.natAbs.log2 < 1900 := by
  have : i.natAbs < 2 ^ 1900 := Nat.lt_of_le_of_lt (show i.natAbs ≤ 10 ^ 60 by omega) (by decide +kernel)
  by_cases hz : i.natAbs = 0
  · rw [hz]; decide
  · exact (Nat.log2_lt hz).mpr this
theorem rounds_at_int {a b n : Int} (ha : btw (.int a) 0 9 = true) (hn : btw (.int n) 0 (10 ^ 30) = true) (s : Jr) : F_rounds_at [.tup [.int a, .int b], .int n] s = .ok (.int (roundsAt a b n)) s := by
  simp only [btw, Bool.and_eq_true, decide_eq_true_eq] at ha hn
  have h1 : a.natAbs.log2 + n.natAbs.log2 < 1000000 := by
    have := log_small (i := a) (by omega) (by omega)
    have := log_small (i := n) (by omega) (by omega)
    omega
  simp [fn_ap, then_ap, thenL_ap, seq_ap, iff_ap, skip_ap, opt_some, andV, orV, notV, chS, asB, andS, orS, notS, ifS, callS, consS, tupS, lstS, giveS, op1, op2, op2L, cbS, cbL, ixS, ix_t, ix_l, ix_s, ix_j, ix_c, slS, soP, noP, op1s, op2s, bind_ap, map_ap, ofO_some, var_ap, c_ap, nil_ap, ite_ap, iteS_ap, le_ii, lt_ii, gt_ii, ge_ii, add_ii, sub_ii, neg_i, len_t, len_l, str_s, lst_l, tup_t, int_i, one_1, int_of_i, isN_int, isN_non, isN_tup, isN_str, isN_bl, isN_lst, F_rounds_at, b_rounds_at, ixD, atI, ixN, mulD, addD, maxC, h1, roundsAt]
theorem ra_rounds_int {a b n : Int} (ha : btw (.int a) 0 9 = true) (hn : btw (.int n) 0 (10 ^ 30) = true) (s : Jr) : F__law_ra_rounds [.tup [.int a, .int b], .int n] s = .ok (.int (roundsAt a b n)) s := by
  simp only [btw, Bool.and_eq_true, decide_eq_true_eq] at ha hn
  have h1 : a.natAbs.log2 + n.natAbs.log2 < 1000000 := by
    have := log_small (i := a) (by omega) (by omega)
    have := log_small (i := n) (by omega) (by omega)
    omega
  simp [fn_ap, then_ap, thenL_ap, seq_ap, iff_ap, skip_ap, opt_some, andV, orV, notV, chS, asB, andS, orS, notS, ifS, callS, consS, tupS, lstS, giveS, op1, op2, op2L, cbS, cbL, ixS, ix_t, ix_l, ix_s, ix_j, ix_c, slS, soP, noP, op1s, op2s, bind_ap, map_ap, ofO_some, var_ap, c_ap, nil_ap, ite_ap, iteS_ap, le_ii, lt_ii, gt_ii, ge_ii, add_ii, sub_ii, neg_i, len_t, len_l, str_s, lst_l, tup_t, int_i, one_1, int_of_i, isN_int, isN_non, isN_tup, isN_str, isN_bl, isN_lst, F__law_ra_rounds, b__law_ra_rounds, ixD, atI, ixN, mulD, addD, maxC, h1, roundsAt]
/-- a count is a pair of ints -/
theorem isCnt_pair {d : D} (h : isCnt d = true) : ∃ a b, d = .tup [.int a, .int b] ∧ 0 ≤ a ∧ a ≤ 9 ∧ (a = 0 → 0 ≤ b) ∧ -10 ^ 30 ≤ b ∧ b ≤ 10 ^ 30 := by
  unfold isCnt at h
  split at h
  · rename_i x y
    simp only [Bool.and_eq_true] at h
    obtain ⟨h1, h2⟩ := h
    cases x <;> simp only [btw, Bool.false_eq_true] at h1
    rename_i a
    cases y <;> simp only [btw, Bool.false_eq_true] at h2
    rename_i b
    simp only [Bool.and_eq_true, decide_eq_true_eq] at h1 h2
    unfold lowD at h2
    by_cases z : a = 0
    · simp only [z, if_true] at h2
      exact ⟨a, b, rfl, h1.1, h1.2, fun _ => h2.1, by omega, h2.2⟩
    · simp only [z, if_false] at h2
      exact ⟨a, b, rfl, h1.1, h1.2, fun y => absurd y z, h2.1, h2.2⟩
  · cases h
theorem cnt_of {a b : Int} (h1 : 0 ≤ a) (h2 : a ≤ 9) (h3 : a = 0 → 0 ≤ b) (h4 : -10 ^ 30 ≤ b) (h5 : b ≤ 10 ^ 30) : isCnt (.tup [.int a, .int b]) = true := by
  by_cases z : a = 0
  · simp [isCnt, btw, lowD, z, h3 z]
    omega
  · simp [isCnt, btw, lowD, z]
    omega
theorem rounds_no {d e : D} (h : Ask d) (hd : isCnt d = false) (s : Jr) : F_rounds [d, e] s = .exc 2 d s := by
  simp [fn_ap, then_ap, thenL_ap, seq_ap, iff_ap, skip_ap, opt_some, andV, orV, notV, chS, asB, andS, orS, notS, ifS, callS, consS, tupS, lstS, giveS, op1, op2, op2L, cbS, cbL, ixS, ix_t, ix_l, ix_s, ix_j, ix_c, slS, soP, noP, op1s, op2s, bind_ap, map_ap, ofO_some, var_ap, c_ap, nil_ap, ite_ap, iteS_ap, le_ii, lt_ii, gt_ii, ge_ii, add_ii, sub_ii, neg_i, len_t, len_l, str_s, lst_l, tup_t, int_i, one_1, int_of_i, isN_int, isN_non, isN_tup, isN_str, isN_bl, isN_lst, F_rounds, b_rounds, check_count_ask h, hd]
theorem rounds_odd {d e : D} (h : Ask d) (hd : isCnt d = true) (he : Pl e) (hb : btw e 0 (10 ^ 30) = false) (s : Jr) : F_rounds [d, e] s = .exc 3 e s := by
  simp [fn_ap, then_ap, thenL_ap, seq_ap, iff_ap, skip_ap, opt_some, andV, orV, notV, chS, asB, andS, orS, notS, ifS, callS, consS, tupS, lstS, giveS, op1, op2, op2L, cbS, cbL, ixS, ix_t, ix_l, ix_s, ix_j, ix_c, slS, soP, noP, op1s, op2s, bind_ap, map_ap, ofO_some, var_ap, c_ap, nil_ap, ite_ap, iteS_ap, le_ii, lt_ii, gt_ii, ge_ii, add_ii, sub_ii, neg_i, len_t, len_l, str_s, lst_l, tup_t, int_i, one_1, int_of_i, isN_int, isN_non, isN_tup, isN_str, isN_bl, isN_lst, F_rounds, b_rounds, check_count_ask h, hd, check_number_pl he]
  have hb' : btw e 0 1000000000000000000000000000000 = false := hb
  simp [hb']
theorem rounds_yes {a b n : Int} (hd : isCnt (.tup [.int a, .int b]) = true) (hn : btw (.int n) 0 (10 ^ 30) = true) (s : Jr) : F_rounds [.tup [.int a, .int b], .int n] s = .ok (.int (roundsAt a b n)) s := by
  obtain ⟨a', b', e, h1, h2, _⟩ := isCnt_pair hd
  cases e
  have ha : btw (.int a) 0 9 = true := by simp [btw]; omega
  have hb' : btw (.int n) 0 1000000000000000000000000000000 = true := hn
  simp [fn_ap, then_ap, thenL_ap, seq_ap, iff_ap, skip_ap, opt_some, andV, orV, notV, chS, asB, andS, orS, notS, ifS, callS, consS, tupS, lstS, giveS, op1, op2, op2L, cbS, cbL, ixS, ix_t, ix_l, ix_s, ix_j, ix_c, slS, soP, noP, op1s, op2s, bind_ap, map_ap, ofO_some, var_ap, c_ap, nil_ap, ite_ap, iteS_ap, le_ii, lt_ii, gt_ii, ge_ii, add_ii, sub_ii, neg_i, len_t, len_l, str_s, lst_l, tup_t, int_i, one_1, int_of_i, isN_int, isN_non, isN_tup, isN_str, isN_bl, isN_lst, F_rounds, b_rounds, check_count_ask (d := .tup [.int a, .int b]) ⟨trivial, trivial⟩, hd, check_number_pl (d := .int n) trivial, hb', rounds_at_int ha hn]
end Pr
end DL

namespace DL
open PySem PySem.Spec PyProof.Rows L2 PySem.NumText
theorem lc_pure {i : Nat} {T : Sm Bool} {A : Sm D} {ρ : En} {s : Jr} {t : D → Bool} {f : D → D} : ∀ {ds : List D}, (∀ d ∈ ds, T (inn i ρ d) s = .ok (t d) s) → (∀ d ∈ ds, t d = true → A (inn i ρ d) s = .ok (f d) s) → lcD i T A ds ρ s = .ok ((ds.filter t).map f) s
  | [], _, _ => rfl
  | d :: ds, hT, hA => by
    have ih := lc_pure (ds := ds) (fun e he => hT e (.tail _ he)) (fun e he => hA e (.tail _ he))
    have h1 := hT d (.head _)
    unfold lcD
    rw [h1]
    cases ht : t d with
    | false =>
      show lcD i T A ds ρ s = _
      rw [ih, List.filter_cons_of_neg (by rw [ht]; exact Bool.false_ne_true)]
    | true =>
      have h2 := hA d (.head _) ht
      rw [List.filter_cons_of_pos ht]
      simp only [h2, ih, List.map_cons]
theorem bls_map {α : Type} (l : List α) (f : α → Bool) : bls? (l.map fun a => D.bl (f a)) = some (l.map f) := by
  induction l with
  | nil => rfl
  | cons a l ih => simp only [List.map_cons, bls?, ih, Option.map_some]
namespace Pr
/-! ## texts of figures -/
def dg (c : Nat) : Bool := decide (48 ≤ c) && decide (c ≤ 57)
theorem dg_in (c : Nat) : decide (c ∈ ("0123456789" : Str).cps.toList) = dg c := by
  have e : ("0123456789" : Str).cps.toList = [48, 49, 50, 51, 52, 53, 54, 55, 56, 57] := by decide +kernel
  rw [e]
  unfold dg
  by_cases h : 48 ≤ c ∧ c ≤ 57
  · rw [decide_eq_true h.1, decide_eq_true h.2]
    refine decide_eq_true ?_
    simp only [List.mem_cons, List.not_mem_nil, or_false]
    omega
  · rw [decide_eq_false]
    · by_cases h1 : 48 ≤ c
      · rw [decide_eq_true h1, decide_eq_false (show ¬ c ≤ 57 from fun h2 => h ⟨h1, h2⟩)]
        rfl
      · rw [decide_eq_false h1]
        rfl
    · simp only [List.mem_cons, List.not_mem_nil, or_false]
      omega
theorem in_fig (c : Nat) : inD false (.str ⟨#[c]⟩) (.str "0123456789") = some (.bl (dg c)) := by
  rw [← dg_in]
  rfl
theorem notin_fig (c : Nat) : inD true (.str ⟨#[c]⟩) (.str "0123456789") = some (.bl (!dg c)) := by
  rw [← dg_in]
  rfl
def dig (x : Str) : Bool := x.cps.toList.all dg
def one0 (x : Str) : Bool := decide (x = "0")
/-- the figures of a number, none ahead that is idle -/
def numIn (x : Str) : Option Nat := if 1 ≤ x.length ∧ x.length ≤ 31 ∧ dig x = true ∧ (one0 x = true ∨ x.cps.toList.head? ≠ some 48) then some (digitsVal x.cps.toList) else none
theorem len_list (x : Str) : x.cps.toList.length = x.length := Array.length_toList
theorem signs_len (x : Str) : (signs x).length = x.length := by
  unfold signs
  rw [List.length_map]
  exact len_list x
theorem head_of {x : Str} (h : 1 ≤ x.length) : ∃ c l, x.cps.toList = c :: l := by
  cases e : x.cps.toList with
  | nil =>
    have := len_list x
    rw [e] at this
    simp at this
    omega
  | cons c l => exact ⟨c, l, rfl⟩
theorem at0 {x : Str} {c : Nat} {l : List Nat} (e : x.cps.toList = c :: l) : atI x.cps.toList 0 = some c := by
  rw [e]
  unfold atI ixN
  simp
theorem sign_eq (c k : Nat) : (decide ((⟨#[c]⟩ : Str) = ⟨#[k]⟩)) = decide (c = k) := by
  by_cases h : c = k
  · subst h
    simp
  · rw [decide_eq_false h, decide_eq_false]
    intro z
    injection z with z
    simp at z
    exact h z
theorem all_fig (x : Str) (ρ : En) (s : Jr) (h1 : ρ.length = 2) : lcD 1 yesS ((varS 1).bind fun x => (cS (.str "0123456789")).bind fun y => Sm.ofO (inD false x y)) (signs x) ρ s = .ok (x.cps.toList.map fun c => .bl (dg c)) s := by
  rw [lc_pure (t := fun _ => true) (f := fun d => match d with
    | .str z => .bl (match z.cps.toList with
      | [c] => dg c
      | _ => false)
    | _ => .non) (fun _ _ => rfl) (fun d hd _ => ?_)]
  · congr 1
    unfold signs
    rw [List.filter_eq_self.mpr (fun _ _ => rfl), List.map_map]
    rfl
  · obtain ⟨c, _, rfl⟩ := List.mem_map.mp hd
    have e : (inn 1 ρ (D.str ⟨#[c]⟩))[1]? = some (.dat (.str ⟨#[c]⟩)) := by
      unfold inn
      rw [List.getElem?_set_self (by rw [List.length_set, h1]; decide)]
    simp [fn_ap, then_ap, thenL_ap, seq_ap, iff_ap, skip_ap, opt_some, andV, orV, notV, chS, asB, andS, orS, notS, ifS, callS, consS, tupS, lstS, giveS, op1, op2, op2L, cbS, cbL, ixS, ix_t, ix_l, ix_s, ix_j, ix_c, slS, soP, noP, op1s, op2s, bind_ap, map_ap, ofO_some, var_ap, c_ap, nil_ap, ite_ap, iteS_ap, le_ii, lt_ii, gt_ii, ge_ii, add_ii, sub_ii, neg_i, len_t, len_l, str_s, lst_l, tup_t, int_i, one_1, int_of_i, isN_int, isN_non, isN_tup, isN_str, isN_bl, isN_lst, e, in_fig]
theorem all_dig (l : List Nat) : allC [.lst (l.map fun c => .bl (dg c))] = some (.bl (l.all dg)) := by
  show (bls? (l.map fun c => .bl (dg c))).map (fun bs => D.bl (bs.all id)) = _
  rw [bls_map, Option.map_some, List.all_map]
  rfl
theorem fig_ok (x : Str) (ρ : En) (s : Jr) (h1 : ρ.length = 2) : ∃ B, lcD 1 yesS ((varS 1).bind fun x => (cS (.str "0123456789")).bind fun y => Sm.ofO (inD false x y)) (signs x) ρ s = .ok B s ∧ allC [.lst B] = some (.bl (dig x)) :=
  ⟨_, all_fig x ρ s h1, all_dig _⟩
theorem allDigits_of {l : List Nat} (h : l.all dg = true) : AllDigits l := by
  intro c hc
  have := List.all_eq_true.mp h c hc
  unfold dg at this
  simp only [Bool.and_eq_true, decide_eq_true_eq] at this
  exact this
theorem int_dig {x : Str} (h1 : 1 ≤ x.length) (h2 : x.length ≤ 31) (h : dig x = true) : intC [.str x] = some (.int (digitsVal x.cps.toList : Nat)) := by
  show (if x.length ≤ 640 then (PySem.intText? x).map D.int else none) = _
  rw [if_pos (by omega), intText_digits (allDigits_of h) (fun z => by have := len_list x; rw [z] at this; simp at this; omega) (by omega)]
  rfl
theorem first_s {x : Str} {c : Nat} {l : List Nat} (hz : x.length ≤ 10000000) (hc : x.cps.toList = c :: l) : ixD (.str x) (.int 0) = some (.str ⟨#[c]⟩) := by
  show (if x.length ≤ 10000000 then (atI x.cps.toList 0).map (fun c => D.str ⟨#[c]⟩) else none) = _
  rw [if_pos hz, at0 hc]
  rfl
theorem zero_text : ("0" : Str) = ⟨#[48]⟩ := by decide +kernel
theorem numIn_eq {x : Str} {c : Nat} {l : List Nat} (h1 : 1 ≤ x.length) (h2 : x.length ≤ 31) (hc : x.cps.toList = c :: l) : numIn x = if (dig x && (one0 x || !decide (c = 48))) = true then some (digitsVal x.cps.toList) else none := by
  unfold numIn
  rw [hc]
  cases a : dig x <;> cases b : one0 x <;> by_cases d : c = 48 <;> simp [h1, h2, d]
theorem numIn_no {x : Str} (h : ¬ (1 ≤ x.length ∧ x.length ≤ 31)) : numIn x = none := by
  unfold numIn
  rw [if_neg]
  intro z
  exact h ⟨z.1, z.2.1⟩
theorem number_in_str {x : Str} (hx : x.length ≤ 100000) (s : Jr) : F_number_in [.str x] s = .ok (match numIn x with
    | some v => .int v
    | none => .non) s := by
  have hs := signs_len x
  have hz : x.length ≤ 10000000 := by omega
  by_cases h1 : 1 ≤ x.length
  · have hi1 : (1 : Int) ≤ x.length := by omega
    by_cases h2 : x.length ≤ 31
    · obtain ⟨B, hA, hD⟩ := fig_ok x [.dat (.str x), .no] s rfl
      have hi2 : (x.length : Int) ≤ 31 := by omega
      have g1 : (signs x).length ≤ 1000000 := by omega
      have hI := int_dig h1 h2
      obtain ⟨c, l, hc⟩ := head_of h1
      have h0 := first_s hz hc
      rw [numIn_eq h1 h2 hc]
      have hq : eqX (.str x) (.str "0") = some (.bl (one0 x)) := rfl
      have hr : eqD true (.str ⟨#[c]⟩) (.str "0") = some (.bl (!decide (c = 48))) := by
        rw [ne_ss, zero_text, sign_eq]
      generalize one0 x = q at *
      generalize decide (c = 48) = r at *
      cases hd : dig x with
      | false =>
        rw [hd] at hD
        simp [fn_ap, then_ap, thenL_ap, seq_ap, iff_ap, skip_ap, opt_some, andV, orV, notV, chS, asB, andS, orS, notS, ifS, callS, consS, tupS, lstS, giveS, op1, op2, op2L, cbS, cbL, ixS, ix_t, ix_l, ix_s, ix_j, ix_c, slS, soP, noP, op1s, op2s, bind_ap, map_ap, ofO_some, var_ap, c_ap, nil_ap, ite_ap, iteS_ap, le_ii, lt_ii, gt_ii, ge_ii, add_ii, sub_ii, neg_i, len_t, len_l, str_s, lst_l, tup_t, int_i, one_1, int_of_i, isN_int, isN_non, isN_tup, isN_str, isN_bl, isN_lst, F_number_in, b_number_in, isi_str (d := .str x) trivial, isS, len_s hz, lcZS, lcS, hi1, hi2, hA, guard_t g1, hD]
      | true =>
        rw [hd] at hD
        have hI := hI hd
        cases q <;> cases r <;> simp [fn_ap, then_ap, thenL_ap, seq_ap, iff_ap, skip_ap, opt_some, andV, orV, notV, chS, asB, andS, orS, notS, ifS, callS, consS, tupS, lstS, giveS, op1, op2, op2L, cbS, cbL, ixS, ix_t, ix_l, ix_s, ix_j, ix_c, slS, soP, noP, op1s, op2s, bind_ap, map_ap, ofO_some, var_ap, c_ap, nil_ap, ite_ap, iteS_ap, le_ii, lt_ii, gt_ii, ge_ii, add_ii, sub_ii, neg_i, len_t, len_l, str_s, lst_l, tup_t, int_i, one_1, int_of_i, isN_int, isN_non, isN_tup, isN_str, isN_bl, isN_lst, F_number_in, b_number_in, isi_str (d := .str x) trivial, isS, len_s hz, lcZS, lcS, hi1, hi2, hA, guard_t g1, hD, hI, hq, hr, h0]
    · have hi2 : ¬ (x.length : Int) ≤ 31 := by omega
      rw [numIn_no (fun z => h2 z.2)]
      simp [fn_ap, then_ap, thenL_ap, seq_ap, iff_ap, skip_ap, opt_some, andV, orV, notV, chS, asB, andS, orS, notS, ifS, callS, consS, tupS, lstS, giveS, op1, op2, op2L, cbS, cbL, ixS, ix_t, ix_l, ix_s, ix_j, ix_c, slS, soP, noP, op1s, op2s, bind_ap, map_ap, ofO_some, var_ap, c_ap, nil_ap, ite_ap, iteS_ap, le_ii, lt_ii, gt_ii, ge_ii, add_ii, sub_ii, neg_i, len_t, len_l, str_s, lst_l, tup_t, int_i, one_1, int_of_i, isN_int, isN_non, isN_tup, isN_str, isN_bl, isN_lst, F_number_in, b_number_in, isi_str (d := .str x) trivial, isS, len_s hz, hi1, hi2]
  · have hi1 : ¬ (1 : Int) ≤ x.length := by omega
    rw [numIn_no (fun z => h1 z.1)]
    simp [fn_ap, then_ap, thenL_ap, seq_ap, iff_ap, skip_ap, opt_some, andV, orV, notV, chS, asB, andS, orS, notS, ifS, callS, consS, tupS, lstS, giveS, op1, op2, op2L, cbS, cbL, ixS, ix_t, ix_l, ix_s, ix_j, ix_c, slS, soP, noP, op1s, op2s, bind_ap, map_ap, ofO_some, var_ap, c_ap, nil_ap, ite_ap, iteS_ap, le_ii, lt_ii, gt_ii, ge_ii, add_ii, sub_ii, neg_i, len_t, len_l, str_s, lst_l, tup_t, int_i, one_1, int_of_i, isN_int, isN_non, isN_tup, isN_str, isN_bl, isN_lst, F_number_in, b_number_in, isi_str (d := .str x) trivial, isS, len_s hz, hi1]
end Pr
end DL

namespace DL
open PySem PySem.Spec PyProof.Rows L2 PySem.NumText
theorem toPys_signs : ∀ l : List Nat, toPys (l.map fun c => D.str ⟨#[c]⟩) = some (l.map fun c => PyData.str ⟨#[c]⟩)
  | [] => rfl
  | c :: l => by
    show (match toPy (.str ⟨#[c]⟩), toPys (l.map fun c => D.str ⟨#[c]⟩) with
      | some p, some ps => some (p :: ps)
      | _, _ => none) = _
    rw [toPys_signs l]
    rfl
theorem lay_signs : ∀ l : List Nat, (∀ c ∈ l, c < 128) → PyData.canLayAll0 (l.map fun c => PyData.str ⟨#[c]⟩) = true ∧ PyData.depthAll (l.map fun c => PyData.str ⟨#[c]⟩) = 0
  | [], _ => ⟨rfl, rfl⟩
  | c :: l, h => by
    obtain ⟨h1, h2⟩ := lay_signs l fun d hd => h d (.tail _ hd)
    have hc := h c (.head _)
    constructor
    · show (PyData.canLay0 (.str ⟨#[c]⟩) && PyData.canLayAll0 (l.map fun c => PyData.str ⟨#[c]⟩)) = true
      rw [h1, Bool.and_true]
      show PyData.strOk _ = true
      unfold PyData.strOk
      simp
      omega
    · show max (PyData.depth (.str ⟨#[c]⟩)) (PyData.depthAll (l.map fun c => PyData.str ⟨#[c]⟩)) = 0
      rw [h2]
      rfl
theorem ne_signs {l : List Nat} (h : ∀ c ∈ l, c < 128) : eqD true (.lst (l.map fun c => .str ⟨#[c]⟩)) (.lst []) = some (.bl (!l.isEmpty)) := by
  obtain ⟨h1, h2⟩ := lay_signs l h
  show ((toPys (l.map fun c => D.str ⟨#[c]⟩)).map PyData.list).bind (fun p => (toPy (.lst [])).bind fun q => if SeqAt.shaped p = true ∧ SeqAt.shaped q = true then some (D.bl (!PyData.eqv p q)) else none) = _
  rw [toPys_signs]
  have s1 : SeqAt.shaped (.list (l.map fun c => PyData.str ⟨#[c]⟩)) = true := by
    show (PyData.canLayAll0 _ && decide (PyData.depthAll _ + 1 ≤ 64)) = true
    rw [h1, h2]
    rfl
  show (if SeqAt.shaped (.list (l.map fun c => PyData.str ⟨#[c]⟩)) = true ∧ SeqAt.shaped (.list []) = true then some (D.bl (!PyData.eqv (.list (l.map fun c => PyData.str ⟨#[c]⟩)) (.list []))) else none) = _
  rw [if_pos ⟨s1, rfl⟩]
  cases l <;> rfl
namespace Pr
/-- a text of plain signs, not too long -/
def Tx (x : Str) : Prop := x.length ≤ 100000 ∧ ∀ c ∈ x.cps.toList, c < 128
theorem all_not (x : Str) (ρ : En) (s : Jr) (h1 : ρ.length = 2) (hx : ∀ c ∈ x.cps.toList, c < 128) : ∃ B, lcD 1 (asB (op2 (inD true) (varS 1) (cS (.str "0123456789")))) (varS 1) (signs x) ρ s = .ok B s ∧ eqD true (.lst B) (.lst []) = some (.bl (!dig x)) := by
  refine ⟨(x.cps.toList.filter fun c => !dg c).map fun c => .str ⟨#[c]⟩, ?_, ?_⟩
  · rw [lc_pure (t := fun d => match d with
      | .str z => (match z.cps.toList with
        | [c] => !dg c
        | _ => false)
      | _ => false) (f := fun d => d) (fun d hd => ?_) (fun d hd _ => ?_)]
    · congr 1
      unfold signs
      rw [List.map_id', List.filter_map]
      rfl
    · obtain ⟨c, _, rfl⟩ := List.mem_map.mp hd
      have e : (inn 1 ρ (D.str ⟨#[c]⟩))[1]? = some (.dat (.str ⟨#[c]⟩)) := by
        unfold inn
        rw [List.getElem?_set_self (by rw [List.length_set, h1]; decide)]
      simp [fn_ap, then_ap, thenL_ap, seq_ap, iff_ap, skip_ap, opt_some, andV, orV, notV, chS, asB, andS, orS, notS, ifS, callS, consS, tupS, lstS, giveS, op1, op2, op2L, cbS, cbL, ixS, ix_t, ix_l, ix_s, ix_j, ix_c, slS, soP, noP, op1s, op2s, bind_ap, map_ap, ofO_some, var_ap, c_ap, nil_ap, ite_ap, iteS_ap, le_ii, lt_ii, gt_ii, ge_ii, add_ii, sub_ii, neg_i, len_t, len_l, str_s, lst_l, tup_t, int_i, one_1, int_of_i, isN_int, isN_non, isN_tup, isN_str, isN_bl, isN_lst, e, notin_fig]
    · obtain ⟨c, _, rfl⟩ := List.mem_map.mp hd
      have e : (inn 1 ρ (D.str ⟨#[c]⟩))[1]? = some (.dat (.str ⟨#[c]⟩)) := by
        unfold inn
        rw [List.getElem?_set_self (by rw [List.length_set, h1]; decide)]
      simp [fn_ap, then_ap, thenL_ap, seq_ap, iff_ap, skip_ap, opt_some, andV, orV, notV, chS, asB, andS, orS, notS, ifS, callS, consS, tupS, lstS, giveS, op1, op2, op2L, cbS, cbL, ixS, ix_t, ix_l, ix_s, ix_j, ix_c, slS, soP, noP, op1s, op2s, bind_ap, map_ap, ofO_some, var_ap, c_ap, nil_ap, ite_ap, iteS_ap, le_ii, lt_ii, gt_ii, ge_ii, add_ii, sub_ii, neg_i, len_t, len_l, str_s, lst_l, tup_t, int_i, one_1, int_of_i, isN_int, isN_non, isN_tup, isN_str, isN_bl, isN_lst, e]
  · rw [ne_signs fun c hc => hx c (List.mem_filter.mp hc).1]
    congr 3
    unfold dig
    induction x.cps.toList with
    | nil => rfl
    | cons c l ih =>
      rw [List.all_cons, List.filter_cons]
      cases dg c with
      | true => exact ih
      | false => rfl
def figR (x : Str) : Int := match numIn x with
  | some v => if (v : Int) ≤ 10 ^ 30 then v else -1
  | none => -1
theorem numIn_empty {x : Str} (h : x = "") : numIn x = none := numIn_no fun z => by
  rw [h] at z
  exact absurd z.1 (by decide)
theorem empty_len {x : Str} : decide (x = "") = decide (x.length = 0) := by
  have e : (x = "") ↔ x.length = 0 := by
    constructor
    · intro h
      rw [h]
      rfl
    · intro h
      have : x.cps = #[] := Array.eq_empty_of_size_eq_zero h
      show x = ("" : Str)
      have e2 : ("" : Str) = ⟨#[]⟩ := by decide +kernel
      rw [e2, ← this]
  by_cases hx : x = ""
  · rw [decide_eq_true hx, decide_eq_true (e.mp hx)]
  · rw [decide_eq_false hx, decide_eq_false (fun z => hx (e.mpr z))]
theorem figures_str {x : Str} (hx : Tx x) (s : Jr) : F__law_figures [.str x] s = .ok (.int (figR x)) s := by
  obtain ⟨hx1, hx2⟩ := hx
  have hs := signs_len x
  have hz : x.length ≤ 10000000 := by omega
  by_cases h1 : 1 ≤ x.length
  · have he : eqX (.str x) (.str "") = some (.bl false) := by
      rw [eq_ss, empty_len, decide_eq_false (by omega)]
    obtain ⟨B, hA, hD⟩ := all_not x [.dat (.str x), .no] s rfl hx2
    simp only [asB, op2] at hA
    have g1 : (signs x).length ≤ 1000000 := by omega
    obtain ⟨c, l, hc⟩ := head_of h1
    have h0 := first_s hz hc
    by_cases h2 : x.length ≤ 31
    · have hi2 : ¬ (31 : Int) < x.length := by omega
      have hI := int_dig h1 h2
      unfold figR
      rw [numIn_eq h1 h2 hc]
      have hq : eqD true (.str x) (.str "0") = some (.bl (!one0 x)) := rfl
      have hr : eqX (.str ⟨#[c]⟩) (.str "0") = some (.bl (decide (c = 48))) := by
        rw [eq_ss, zero_text, sign_eq]
      generalize one0 x = q at *
      generalize decide (c = 48) = r at *
      cases hd : dig x with
      | false =>
        rw [hd] at hD
        simp [fn_ap, then_ap, thenL_ap, seq_ap, iff_ap, skip_ap, opt_some, andV, orV, notV, chS, asB, andS, orS, notS, ifS, callS, consS, tupS, lstS, giveS, op1, op2, op2L, cbS, cbL, ixS, ix_t, ix_l, ix_s, ix_j, ix_c, slS, soP, noP, op1s, op2s, bind_ap, map_ap, ofO_some, var_ap, c_ap, nil_ap, ite_ap, iteS_ap, le_ii, lt_ii, gt_ii, ge_ii, add_ii, sub_ii, neg_i, len_t, len_l, str_s, lst_l, tup_t, int_i, one_1, int_of_i, isN_int, isN_non, isN_tup, isN_str, isN_bl, isN_lst, F__law_figures, b__law_figures, len_s hz, lcZS, lcS, he, hi2, hA, guard_t g1, hD]
      | true =>
        rw [hd] at hD
        have hI := hI hd
        generalize digitsVal x.cps.toList = v at *
        by_cases hv : (10 ^ 30 : Int) < v
        · have hv2 : ¬ ((v : Int) ≤ 10 ^ 30) := by omega
          have hv3 : (1000000000000000000000000000000 : Int) < v := hv
          have hv4 : ¬ ((v : Int) ≤ 1000000000000000000000000000000) := hv2
          cases q <;> cases r <;> simp [fn_ap, then_ap, thenL_ap, seq_ap, iff_ap, skip_ap, opt_some, andV, orV, notV, chS, asB, andS, orS, notS, ifS, callS, consS, tupS, lstS, giveS, op1, op2, op2L, cbS, cbL, ixS, ix_t, ix_l, ix_s, ix_j, ix_c, slS, soP, noP, op1s, op2s, bind_ap, map_ap, ofO_some, var_ap, c_ap, nil_ap, ite_ap, iteS_ap, le_ii, lt_ii, gt_ii, ge_ii, add_ii, sub_ii, neg_i, len_t, len_l, str_s, lst_l, tup_t, int_i, one_1, int_of_i, isN_int, isN_non, isN_tup, isN_str, isN_bl, isN_lst, F__law_figures, b__law_figures, len_s hz, lcZS, lcS, he, hi2, hA, guard_t g1, hD, hI, hq, hr, h0, powD, hv3, hv4]
        · have hv2 : ((v : Int) ≤ 10 ^ 30) := by omega
          have hv3 : ¬ (1000000000000000000000000000000 : Int) < v := hv
          have hv4 : ((v : Int) ≤ 1000000000000000000000000000000) := hv2
          cases q <;> cases r <;> simp [fn_ap, then_ap, thenL_ap, seq_ap, iff_ap, skip_ap, opt_some, andV, orV, notV, chS, asB, andS, orS, notS, ifS, callS, consS, tupS, lstS, giveS, op1, op2, op2L, cbS, cbL, ixS, ix_t, ix_l, ix_s, ix_j, ix_c, slS, soP, noP, op1s, op2s, bind_ap, map_ap, ofO_some, var_ap, c_ap, nil_ap, ite_ap, iteS_ap, le_ii, lt_ii, gt_ii, ge_ii, add_ii, sub_ii, neg_i, len_t, len_l, str_s, lst_l, tup_t, int_i, one_1, int_of_i, isN_int, isN_non, isN_tup, isN_str, isN_bl, isN_lst, F__law_figures, b__law_figures, len_s hz, lcZS, lcS, he, hi2, hA, guard_t g1, hD, hI, hq, hr, h0, powD, hv3, hv4]
    · have hi2 : (31 : Int) < x.length := by omega
      unfold figR
      rw [numIn_no (fun z => h2 z.2)]
      cases hd : dig x <;> (rw [hd] at hD; simp [fn_ap, then_ap, thenL_ap, seq_ap, iff_ap, skip_ap, opt_some, andV, orV, notV, chS, asB, andS, orS, notS, ifS, callS, consS, tupS, lstS, giveS, op1, op2, op2L, cbS, cbL, ixS, ix_t, ix_l, ix_s, ix_j, ix_c, slS, soP, noP, op1s, op2s, bind_ap, map_ap, ofO_some, var_ap, c_ap, nil_ap, ite_ap, iteS_ap, le_ii, lt_ii, gt_ii, ge_ii, add_ii, sub_ii, neg_i, len_t, len_l, str_s, lst_l, tup_t, int_i, one_1, int_of_i, isN_int, isN_non, isN_tup, isN_str, isN_bl, isN_lst, F__law_figures, b__law_figures, len_s hz, lcZS, lcS, he, hi2, hA, guard_t g1, hD])
  · have he : eqX (.str x) (.str "") = some (.bl true) := by
      rw [eq_ss, empty_len, decide_eq_true (by omega)]
    unfold figR
    rw [numIn_no (fun z => h1 z.1)]
    simp [fn_ap, then_ap, thenL_ap, seq_ap, iff_ap, skip_ap, opt_some, andV, orV, notV, chS, asB, andS, orS, notS, ifS, callS, consS, tupS, lstS, giveS, op1, op2, op2L, cbS, cbL, ixS, ix_t, ix_l, ix_s, ix_j, ix_c, slS, soP, noP, op1s, op2s, bind_ap, map_ap, ofO_some, var_ap, c_ap, nil_ap, ite_ap, iteS_ap, le_ii, lt_ii, gt_ii, ge_ii, add_ii, sub_ii, neg_i, len_t, len_l, str_s, lst_l, tup_t, int_i, one_1, int_of_i, isN_int, isN_non, isN_tup, isN_str, isN_bl, isN_lst, F__law_figures, b__law_figures, he]
end Pr
end DL

namespace DL
open PySem PySem.Spec PyProof.Rows L2 PySem.NumText
namespace Pr
open PySem.Builtin PySem.Builtin.Str in
/-- the first n's place -/
def fst (x : Str) : Option Nat := (occurrences x "n" 0 x.length 1).head?
def hd (x : Str) (i : Nat) : Str := ⟨(x.cps.toList.take i).toArray⟩
def tl (x : Str) (i : Nat) : Str := ⟨(x.cps.toList.drop (i + 1)).toArray⟩
theorem hd_sub (x : Str) (i : Nat) : Builtin.Str.strSub x 0 i = hd x i := by
  unfold Builtin.Str.strSub hd
  congr 1
  apply Array.ext'
  simp [Array.toList_extract]
theorem tl_sub (x : Str) (i : Nat) : Builtin.Str.strSub x (i + 1) x.length = tl x i := by
  unfold Builtin.Str.strSub tl
  congr 1
  apply Array.ext'
  have : x.length = x.cps.toList.length := (len_list x).symm
  simp [Array.toList_extract]
  rw [List.take_of_length_le]
  rw [List.length_drop]
  omega
theorem hd_cut (x : Str) (i : Nat) : cutS x none (some (i : Int)) = hd x i := by
  have e : x.length = x.cps.toList.length := (len_list x).symm
  unfold cutS hd
  rw [HT.sIx_none, HT.sIx_nat, List.drop_zero, Nat.sub_zero]
  congr 2
  by_cases h : i ≤ x.length
  · rw [Nat.min_eq_left h]
  · rw [Nat.min_eq_right (by omega), List.take_of_length_le (by omega), List.take_of_length_le (by omega)]
theorem tl_cut (x : Str) (i : Nat) : cutS x (some ((i : Int) + 1)) none = tl x i := by
  have e : x.length = x.cps.toList.length := (len_list x).symm
  unfold cutS tl
  rw [show (i : Int) + 1 = ((i + 1 : Nat) : Int) by omega, HT.sIx_none, HT.sIx_nat]
  congr 1
  congr 1
  by_cases h : i + 1 ≤ x.length
  · rw [Nat.min_eq_left h, List.take_of_length_le (by rw [List.length_drop]; omega)]
  · rw [Nat.min_eq_right (by omega), List.drop_of_length_le (by omega), List.drop_of_length_le (by omega), List.take_nil]
theorem tx_sub {x y : Str} (h : Tx x) (hl : y.length ≤ x.length) (hs : ∀ c ∈ y.cps.toList, c ∈ x.cps.toList) : Tx y := ⟨Nat.le_trans hl h.1, fun c hc => h.2 c (hs c hc)⟩
theorem hd_tx {x : Str} (h : Tx x) (i : Nat) : Tx (hd x i) := by
  refine tx_sub h ?_ fun c hc => ?_
  · rw [← len_list, ← len_list x]
    unfold hd
    simp
    omega
  · unfold hd at hc
    exact List.mem_of_mem_take (by simpa using hc)
theorem tl_tx {x : Str} (h : Tx x) (i : Nat) : Tx (tl x i) := by
  refine tx_sub h ?_ fun c hc => ?_
  · rw [← len_list, ← len_list x]
    unfold tl
    simp
  · unfold tl at hc
    exact List.mem_of_mem_drop (by simpa using hc)
theorem n_text : ("n" : Str) = ⟨#[110]⟩ := by decide +kernel
theorem fst_none {x : Str} : fst x = none ↔ Builtin.Str.occurrences x "n" 0 x.length 1 = [] := by
  unfold fst
  exact List.head?_eq_none_iff
theorem in_n (x : Str) : inD true (.str "n") (.str x) = some (.bl (fst x).isNone) := by
  have h := PySem.StrLaws.found_one x 110
  rw [← n_text] at h
  have e : inD true (.str "n") (.str x) = some (.bl (!decide (110 ∈ x.cps.toList))) := by
    rw [n_text]
    rfl
  rw [e, ← h, Bool.not_not]
  congr 2
  unfold fst
  cases Builtin.Str.occurrences x "n" 0 x.length 1 <;> rfl
theorem part_none {x : Str} (hx : Tx x) (h : fst x = none) : partD x (.str "n") = some (.tup [.str x, .str "", .str ""]) := by
  have h1 := fst_none.mp h
  have e : Txt.partition x "n" = (x, Str.empty, Str.empty) := by
    unfold Txt.partition
    rw [h1]
  show (if x.length ≤ 10000000 ∧ ("n" : Str).length ≠ 0 then some (D.tup [.str (Txt.partition x "n").1, .str (Txt.partition x "n").2.1, .str (Txt.partition x "n").2.2]) else none) = _
  rw [if_pos ⟨Nat.le_trans hx.1 (by decide), by decide⟩, e]
  rfl
theorem fst_some {x : Str} {i : Nat} (h : fst x = some i) : ∃ r, Builtin.Str.occurrences x "n" 0 x.length 1 = i :: r := by
  unfold fst at h
  cases e : Builtin.Str.occurrences x "n" 0 x.length 1 with
  | nil => rw [e] at h; cases h
  | cons a r => rw [e] at h; cases h; exact ⟨r, rfl⟩
theorem part_some {x : Str} {i : Nat} (hx : Tx x) (h : fst x = some i) : partD x (.str "n") = some (.tup [.str (hd x i), .str "n", .str (tl x i)]) := by
  obtain ⟨r, h1⟩ := fst_some h
  have e : Txt.partition x "n" = (hd x i, ("n" : Str), tl x i) := by
    unfold Txt.partition
    rw [h1, ← hd_sub, ← tl_sub]
    rfl
  show (if x.length ≤ 10000000 ∧ ("n" : Str).length ≠ 0 then some (D.tup [.str (Txt.partition x "n").1, .str (Txt.partition x "n").2.1, .str (Txt.partition x "n").2.2]) else none) = _
  rw [if_pos ⟨Nat.le_trans hx.1 (by decide), by decide⟩, e]
theorem idx_some {x : Str} {i : Nat} (h : fst x = some i) : idxD x (.str "n") = some (.int i) := by
  obtain ⟨r, h1⟩ := fst_some h
  show (match Builtin.Str.occurrences x "n" 0 x.length 1 with
    | i :: _ => some (D.int i)
    | [] => none) = _
  rw [h1]
/-- a number of 1 to 9 -/
def big : Int := 10 ^ 30
def sg (t : Str) : Nat := t.cps.toList.headD 0
def rest1 (t : Str) : Str := tl t 0
def after (m : Nat) (t : Str) : Option (Int × Int) := if t = "" then some (m, 0) else match numIn (rest1 t) with
  | some v => if (sg t = 43 ∨ sg t = 45) ∧ 1 ≤ v ∧ (v : Int) ≤ big then some (m, if sg t = 43 then (v : Int) else -(v : Int)) else none
  | none => none
def times (h : Str) : Option Nat := if h = "" then some 1 else match numIn h with
  | some m => if 1 ≤ m ∧ m ≤ 9 ∧ h ≠ "1" then some m else none
  | none => none
def cntIn (x : Str) : Option (Int × Int) := match fst x with
  | none => (match numIn x with
    | some v => if (v : Int) ≤ big then some (0, (v : Int)) else none
    | none => none)
  | some i => (match times (hd x i) with
    | some m => after m (tl x i)
    | none => none)
def cntD : Option (Int × Int) → D
  | some p => .tup [.int p.1, .int p.2]
  | none => .non
theorem tail_part {t : Str} {c : Nat} {l : List Nat} (hc : t.cps.toList = c :: l) : rest1 t = ⟨l.toArray⟩ := by
  unfold rest1 tl
  rw [hc]
  rfl
theorem rest_cut (t : Str) : cutS t (some 1) none = rest1 t := tl_cut t 0
theorem signs_pm (c : Nat) (neg : Bool) : inD neg (.str ⟨#[c]⟩) (.str "+-") = some (.bl (if neg then !(decide (c = 43) || decide (c = 45)) else (decide (c = 43) || decide (c = 45)))) := by
  have e : ("+-" : Str).cps.toList = [43, 45] := by decide +kernel
  show some (D.bl (if neg then !decide (c ∈ ("+-" : Str).cps.toList) else decide (c ∈ ("+-" : Str).cps.toList))) = _
  rw [e]
  have : decide (c ∈ [43, 45]) = (decide (c = 43) || decide (c = 45)) := by
    by_cases a : c = 43 <;> by_cases b : c = 45 <;> simp [a, b]
  rw [this]
theorem nonempty {t : Str} (h : t ≠ "") : 1 ≤ t.length := by
  have e := @empty_len t
  rw [decide_eq_false h] at e
  have := of_decide_eq_false e.symm
  omega
theorem count_in_none {x : Str} (hx : Tx x) (hf : fst x = none) (s : Jr) : F_count_in [.str x] s = .ok (cntD (cntIn x)) s := by
  have hp := part_none hx hf
  have hn := number_in_str hx.1 s
  have he : eqX (.str "") (.str "") = some (.bl true) := rfl
  unfold cntIn
  rw [hf]
  cases e : numIn x with
  | none =>
    rw [e] at hn
    simp [fn_ap, then_ap, thenL_ap, seq_ap, iff_ap, skip_ap, opt_some, andV, orV, notV, chS, asB, andS, orS, notS, ifS, callS, consS, tupS, lstS, giveS, op1, op2, op2L, cbS, cbL, ixS, ix_t, ix_l, ix_s, ix_j, ix_c, slS, soP, noP, op1s, op2s, bind_ap, map_ap, ofO_some, var_ap, c_ap, nil_ap, ite_ap, iteS_ap, le_ii, lt_ii, gt_ii, ge_ii, add_ii, sub_ii, neg_i, len_t, len_l, str_s, lst_l, tup_t, int_i, one_1, int_of_i, isN_int, isN_non, isN_tup, isN_str, isN_bl, isN_lst, F_count_in, b_count_in, unS, setsS, guardO, hp, hn, he, cntD]
  | some v =>
    rw [e] at hn
    by_cases hb : (v : Int) ≤ big
    · have hb2 : ¬ (1000000000000000000000000000000 : Int) < v := by unfold big at hb; omega
      simp [fn_ap, then_ap, thenL_ap, seq_ap, iff_ap, skip_ap, opt_some, andV, orV, notV, chS, asB, andS, orS, notS, ifS, callS, consS, tupS, lstS, giveS, op1, op2, op2L, cbS, cbL, ixS, ix_t, ix_l, ix_s, ix_j, ix_c, slS, soP, noP, op1s, op2s, bind_ap, map_ap, ofO_some, var_ap, c_ap, nil_ap, ite_ap, iteS_ap, le_ii, lt_ii, gt_ii, ge_ii, add_ii, sub_ii, neg_i, len_t, len_l, str_s, lst_l, tup_t, int_i, one_1, int_of_i, isN_int, isN_non, isN_tup, isN_str, isN_bl, isN_lst, F_count_in, b_count_in, unS, setsS, guardO, hp, hn, he, cntD, hb, hb2]
    · have hb2 : (1000000000000000000000000000000 : Int) < v := by unfold big at hb; omega
      simp [fn_ap, then_ap, thenL_ap, seq_ap, iff_ap, skip_ap, opt_some, andV, orV, notV, chS, asB, andS, orS, notS, ifS, callS, consS, tupS, lstS, giveS, op1, op2, op2L, cbS, cbL, ixS, ix_t, ix_l, ix_s, ix_j, ix_c, slS, soP, noP, op1s, op2s, bind_ap, map_ap, ofO_some, var_ap, c_ap, nil_ap, ite_ap, iteS_ap, le_ii, lt_ii, gt_ii, ge_ii, add_ii, sub_ii, neg_i, len_t, len_l, str_s, lst_l, tup_t, int_i, one_1, int_of_i, isN_int, isN_non, isN_tup, isN_str, isN_bl, isN_lst, F_count_in, b_count_in, unS, setsS, guardO, hp, hn, he, cntD, hb, hb2]
theorem after_nil {m : Nat} {t : Str} (h : t = "") : after m t = some ((m : Int), 0) := by
  unfold after
  rw [if_pos h]
theorem after_eq {m : Nat} {t : Str} (h : t ≠ "") : after m t = match numIn (rest1 t) with
  | some v => if ((decide (sg t = 43) || decide (sg t = 45)) && decide (1 ≤ v) && decide ((v : Int) ≤ big)) = true then some ((m : Int), if decide (sg t = 43) = true then (v : Int) else -(v : Int)) else none
  | none => none := by
  unfold after
  rw [if_neg h]
  cases numIn (rest1 t) with
  | none => rfl
  | some v =>
    by_cases a : sg t = 43 <;> by_cases b : sg t = 45 <;> by_cases c : 1 ≤ v <;> by_cases d : (v : Int) ≤ big <;> simp [a, b, c, d]
theorem sg_first {t : Str} (ht : Tx t) (h : 1 ≤ t.length) : ixD (.str t) (.int 0) = some (.str ⟨#[sg t]⟩) := by
  obtain ⟨c, l, hc⟩ := head_of h
  rw [first_s (Nat.le_trans ht.1 (by decide)) hc]
  unfold sg
  rw [hc]
  rfl
theorem plus_text : ("+" : Str) = ⟨#[43]⟩ := by decide +kernel
theorem one_text : ("1" : Str) = ⟨#[49]⟩ := by decide +kernel
theorem count_in_some {x : Str} {i : Nat} (hx : Tx x) (hf : fst x = some i) (s : Jr) : F_count_in [.str x] s = .ok (cntD (cntIn x)) s := by
  have hp := part_some hx hf
  have hh := hd_tx hx i
  have ht := tl_tx hx i
  unfold cntIn
  rw [hf]
  show _ = Res.ok (cntD (match times (hd x i) with
    | some m => after m (tl x i)
    | none => none)) s
  generalize hd x i = h at *
  generalize tl x i = t at *
  have hn := number_in_str hh.1 s
  have he : eqX (.str "n") (.str "") = some (.bl false) := rfl
  have hu : Tx (rest1 t) := tl_tx ht 0
  have hm := number_in_str hu.1 s
  have hc : cutD (.str t) (some 1) none = some (.str (rest1 t)) := by
    rw [cut_s _ _ (Nat.le_trans ht.1 (by decide)), rest_cut]
  have hh0 : eqX (.str h) (.str "") = some (.bl (decide (h = ""))) := rfl
  have hh1 : eqX (.str h) (.str "1") = some (.bl (decide (h = "1"))) := rfl
  have ht0 : eqX (.str t) (.str "") = some (.bl (decide (t = ""))) := rfl
  by_cases a0 : h = ""
  · have ha : decide (h = "") = true := decide_eq_true a0
    have h1no : decide (h = "1") = false := decide_eq_false (fun z => by rw [a0] at z; exact absurd z (by decide +kernel))
    rw [ha] at hh0
    rw [h1no] at hh1
    have hT : times h = some 1 := by unfold times; rw [if_pos a0]
    rw [hT]
    show _ = Res.ok (cntD (after 1 t)) s
    by_cases b0 : t = ""
    · rw [decide_eq_true b0] at ht0
      rw [after_nil b0]
      simp [fn_ap, then_ap, thenL_ap, seq_ap, iff_ap, skip_ap, opt_some, andV, orV, notV, chS, asB, andS, orS, notS, ifS, callS, consS, tupS, lstS, giveS, op1, op2, op2L, cbS, cbL, ixS, ix_t, ix_l, ix_s, ix_j, ix_c, slS, soP, noP, op1s, op2s, bind_ap, map_ap, ofO_some, var_ap, c_ap, nil_ap, ite_ap, iteS_ap, le_ii, lt_ii, gt_ii, ge_ii, add_ii, sub_ii, neg_i, len_t, len_l, str_s, lst_l, tup_t, int_i, one_1, int_of_i, isN_int, isN_non, isN_tup, isN_str, isN_bl, isN_lst, F_count_in, b_count_in, unS, setsS, guardO, hp, he, hn, hh0, hh1, ht0, cntD]
    · rw [decide_eq_false b0] at ht0
      have hs := sg_first ht (nonempty b0)
      have hs1 := signs_pm (sg t) true
      have hs2 : eqX (.str ⟨#[sg t]⟩) (.str "+") = some (.bl (decide (sg t = 43))) := by rw [eq_ss, plus_text, sign_eq]
      rw [after_eq b0]
      generalize decide (sg t = 43) = p43 at *
      generalize decide (sg t = 45) = p45 at *
      cases eu : numIn (rest1 t) with
      | none =>
        rw [eu] at hm
        cases p43 <;> cases p45 <;> simp [fn_ap, then_ap, thenL_ap, seq_ap, iff_ap, skip_ap, opt_some, andV, orV, notV, chS, asB, andS, orS, notS, ifS, callS, consS, tupS, lstS, giveS, op1, op2, op2L, cbS, cbL, ixS, ix_t, ix_l, ix_s, ix_j, ix_c, slS, soP, noP, op1s, op2s, bind_ap, map_ap, ofO_some, var_ap, c_ap, nil_ap, ite_ap, iteS_ap, le_ii, lt_ii, gt_ii, ge_ii, add_ii, sub_ii, neg_i, len_t, len_l, str_s, lst_l, tup_t, int_i, one_1, int_of_i, isN_int, isN_non, isN_tup, isN_str, isN_bl, isN_lst, F_count_in, b_count_in, unS, setsS, guardO, hp, he, hn, hh0, hh1, ht0, hc, hm, hs, hs1, hs2, cntD]
      | some v =>
        rw [eu] at hm
        by_cases k1 : 1 ≤ v
        · have k1' : (1 : Int) ≤ v := by omega
          by_cases k2 : (v : Int) ≤ big
          · have k2' : (v : Int) ≤ 1000000000000000000000000000000 := k2
            cases p43 <;> cases p45 <;> simp [fn_ap, then_ap, thenL_ap, seq_ap, iff_ap, skip_ap, opt_some, andV, orV, notV, chS, asB, andS, orS, notS, ifS, callS, consS, tupS, lstS, giveS, op1, op2, op2L, cbS, cbL, ixS, ix_t, ix_l, ix_s, ix_j, ix_c, slS, soP, noP, op1s, op2s, bind_ap, map_ap, ofO_some, var_ap, c_ap, nil_ap, ite_ap, iteS_ap, le_ii, lt_ii, gt_ii, ge_ii, add_ii, sub_ii, neg_i, len_t, len_l, str_s, lst_l, tup_t, int_i, one_1, int_of_i, isN_int, isN_non, isN_tup, isN_str, isN_bl, isN_lst, F_count_in, b_count_in, unS, setsS, guardO, hp, he, hn, hh0, hh1, ht0, hc, hm, hs, hs1, hs2, cntD, k1, k1', k2, k2']
          · have k2' : ¬ (v : Int) ≤ 1000000000000000000000000000000 := k2
            cases p43 <;> cases p45 <;> simp [fn_ap, then_ap, thenL_ap, seq_ap, iff_ap, skip_ap, opt_some, andV, orV, notV, chS, asB, andS, orS, notS, ifS, callS, consS, tupS, lstS, giveS, op1, op2, op2L, cbS, cbL, ixS, ix_t, ix_l, ix_s, ix_j, ix_c, slS, soP, noP, op1s, op2s, bind_ap, map_ap, ofO_some, var_ap, c_ap, nil_ap, ite_ap, iteS_ap, le_ii, lt_ii, gt_ii, ge_ii, add_ii, sub_ii, neg_i, len_t, len_l, str_s, lst_l, tup_t, int_i, one_1, int_of_i, isN_int, isN_non, isN_tup, isN_str, isN_bl, isN_lst, F_count_in, b_count_in, unS, setsS, guardO, hp, he, hn, hh0, hh1, ht0, hc, hm, hs, hs1, hs2, cntD, k1, k1', k2, k2']
        · have k1' : ¬ (1 : Int) ≤ v := by omega
          cases p43 <;> cases p45 <;> simp [fn_ap, then_ap, thenL_ap, seq_ap, iff_ap, skip_ap, opt_some, andV, orV, notV, chS, asB, andS, orS, notS, ifS, callS, consS, tupS, lstS, giveS, op1, op2, op2L, cbS, cbL, ixS, ix_t, ix_l, ix_s, ix_j, ix_c, slS, soP, noP, op1s, op2s, bind_ap, map_ap, ofO_some, var_ap, c_ap, nil_ap, ite_ap, iteS_ap, le_ii, lt_ii, gt_ii, ge_ii, add_ii, sub_ii, neg_i, len_t, len_l, str_s, lst_l, tup_t, int_i, one_1, int_of_i, isN_int, isN_non, isN_tup, isN_str, isN_bl, isN_lst, F_count_in, b_count_in, unS, setsS, guardO, hp, he, hn, hh0, hh1, ht0, hc, hm, hs, hs1, hs2, cntD, k1, k1']
  · rw [decide_eq_false a0] at hh0
    cases en : numIn h with
    | none =>
      rw [en] at hn
      have hT : times h = none := by unfold times; rw [if_neg a0, en]
      rw [hT]
      simp [fn_ap, then_ap, thenL_ap, seq_ap, iff_ap, skip_ap, opt_some, andV, orV, notV, chS, asB, andS, orS, notS, ifS, callS, consS, tupS, lstS, giveS, op1, op2, op2L, cbS, cbL, ixS, ix_t, ix_l, ix_s, ix_j, ix_c, slS, soP, noP, op1s, op2s, bind_ap, map_ap, ofO_some, var_ap, c_ap, nil_ap, ite_ap, iteS_ap, le_ii, lt_ii, gt_ii, ge_ii, add_ii, sub_ii, neg_i, len_t, len_l, str_s, lst_l, tup_t, int_i, one_1, int_of_i, isN_int, isN_non, isN_tup, isN_str, isN_bl, isN_lst, F_count_in, b_count_in, unS, setsS, guardO, hp, he, hn, hh0, cntD]
    | some m =>
      rw [en] at hn
      by_cases c1 : 1 ≤ m
      · have c1' : (1 : Int) ≤ m := by omega
        by_cases c2 : m ≤ 9
        · have c2' : (m : Int) ≤ 9 := by omega
          by_cases c3 : h = "1"
          · rw [decide_eq_true c3] at hh1
            have hT : times h = none := by unfold times; rw [if_neg a0, en]; simp [c3]
            rw [hT]
            simp [fn_ap, then_ap, thenL_ap, seq_ap, iff_ap, skip_ap, opt_some, andV, orV, notV, chS, asB, andS, orS, notS, ifS, callS, consS, tupS, lstS, giveS, op1, op2, op2L, cbS, cbL, ixS, ix_t, ix_l, ix_s, ix_j, ix_c, slS, soP, noP, op1s, op2s, bind_ap, map_ap, ofO_some, var_ap, c_ap, nil_ap, ite_ap, iteS_ap, le_ii, lt_ii, gt_ii, ge_ii, add_ii, sub_ii, neg_i, len_t, len_l, str_s, lst_l, tup_t, int_i, one_1, int_of_i, isN_int, isN_non, isN_tup, isN_str, isN_bl, isN_lst, F_count_in, b_count_in, unS, setsS, guardO, hp, he, hn, hh0, hh1, c1', c2', cntD]
          · rw [decide_eq_false c3] at hh1
            have hT : times h = some m := by unfold times; rw [if_neg a0, en]; simp [c1, c2, c3]
            rw [hT]
            show _ = Res.ok (cntD (after m t)) s
            by_cases b0 : t = ""
            · rw [decide_eq_true b0] at ht0
              rw [after_nil b0]
              simp [fn_ap, then_ap, thenL_ap, seq_ap, iff_ap, skip_ap, opt_some, andV, orV, notV, chS, asB, andS, orS, notS, ifS, callS, consS, tupS, lstS, giveS, op1, op2, op2L, cbS, cbL, ixS, ix_t, ix_l, ix_s, ix_j, ix_c, slS, soP, noP, op1s, op2s, bind_ap, map_ap, ofO_some, var_ap, c_ap, nil_ap, ite_ap, iteS_ap, le_ii, lt_ii, gt_ii, ge_ii, add_ii, sub_ii, neg_i, len_t, len_l, str_s, lst_l, tup_t, int_i, one_1, int_of_i, isN_int, isN_non, isN_tup, isN_str, isN_bl, isN_lst, F_count_in, b_count_in, unS, setsS, guardO, hp, he, hn, hh0, hh1, ht0, cntD, c1', c2']
            · rw [decide_eq_false b0] at ht0
              have hs := sg_first ht (nonempty b0)
              have hs1 := signs_pm (sg t) true
              have hs2 : eqX (.str ⟨#[sg t]⟩) (.str "+") = some (.bl (decide (sg t = 43))) := by rw [eq_ss, plus_text, sign_eq]
              rw [after_eq b0]
              generalize decide (sg t = 43) = p43 at *
              generalize decide (sg t = 45) = p45 at *
              cases eu : numIn (rest1 t) with
              | none =>
                rw [eu] at hm
                cases p43 <;> cases p45 <;> simp [fn_ap, then_ap, thenL_ap, seq_ap, iff_ap, skip_ap, opt_some, andV, orV, notV, chS, asB, andS, orS, notS, ifS, callS, consS, tupS, lstS, giveS, op1, op2, op2L, cbS, cbL, ixS, ix_t, ix_l, ix_s, ix_j, ix_c, slS, soP, noP, op1s, op2s, bind_ap, map_ap, ofO_some, var_ap, c_ap, nil_ap, ite_ap, iteS_ap, le_ii, lt_ii, gt_ii, ge_ii, add_ii, sub_ii, neg_i, len_t, len_l, str_s, lst_l, tup_t, int_i, one_1, int_of_i, isN_int, isN_non, isN_tup, isN_str, isN_bl, isN_lst, F_count_in, b_count_in, unS, setsS, guardO, hp, he, hn, hh0, hh1, ht0, hc, hm, hs, hs1, hs2, cntD, c1', c2']
              | some v =>
                rw [eu] at hm
                by_cases k1 : 1 ≤ v
                · have k1' : (1 : Int) ≤ v := by omega
                  by_cases k2 : (v : Int) ≤ big
                  · have k2' : (v : Int) ≤ 1000000000000000000000000000000 := k2
                    cases p43 <;> cases p45 <;> simp [fn_ap, then_ap, thenL_ap, seq_ap, iff_ap, skip_ap, opt_some, andV, orV, notV, chS, asB, andS, orS, notS, ifS, callS, consS, tupS, lstS, giveS, op1, op2, op2L, cbS, cbL, ixS, ix_t, ix_l, ix_s, ix_j, ix_c, slS, soP, noP, op1s, op2s, bind_ap, map_ap, ofO_some, var_ap, c_ap, nil_ap, ite_ap, iteS_ap, le_ii, lt_ii, gt_ii, ge_ii, add_ii, sub_ii, neg_i, len_t, len_l, str_s, lst_l, tup_t, int_i, one_1, int_of_i, isN_int, isN_non, isN_tup, isN_str, isN_bl, isN_lst, F_count_in, b_count_in, unS, setsS, guardO, hp, he, hn, hh0, hh1, ht0, hc, hm, hs, hs1, hs2, cntD, c1', c2', k1, k1', k2, k2']
                  · have k2' : ¬ (v : Int) ≤ 1000000000000000000000000000000 := k2
                    cases p43 <;> cases p45 <;> simp [fn_ap, then_ap, thenL_ap, seq_ap, iff_ap, skip_ap, opt_some, andV, orV, notV, chS, asB, andS, orS, notS, ifS, callS, consS, tupS, lstS, giveS, op1, op2, op2L, cbS, cbL, ixS, ix_t, ix_l, ix_s, ix_j, ix_c, slS, soP, noP, op1s, op2s, bind_ap, map_ap, ofO_some, var_ap, c_ap, nil_ap, ite_ap, iteS_ap, le_ii, lt_ii, gt_ii, ge_ii, add_ii, sub_ii, neg_i, len_t, len_l, str_s, lst_l, tup_t, int_i, one_1, int_of_i, isN_int, isN_non, isN_tup, isN_str, isN_bl, isN_lst, F_count_in, b_count_in, unS, setsS, guardO, hp, he, hn, hh0, hh1, ht0, hc, hm, hs, hs1, hs2, cntD, c1', c2', k1, k1', k2, k2']
                · have k1' : ¬ (1 : Int) ≤ v := by omega
                  cases p43 <;> cases p45 <;> simp [fn_ap, then_ap, thenL_ap, seq_ap, iff_ap, skip_ap, opt_some, andV, orV, notV, chS, asB, andS, orS, notS, ifS, callS, consS, tupS, lstS, giveS, op1, op2, op2L, cbS, cbL, ixS, ix_t, ix_l, ix_s, ix_j, ix_c, slS, soP, noP, op1s, op2s, bind_ap, map_ap, ofO_some, var_ap, c_ap, nil_ap, ite_ap, iteS_ap, le_ii, lt_ii, gt_ii, ge_ii, add_ii, sub_ii, neg_i, len_t, len_l, str_s, lst_l, tup_t, int_i, one_1, int_of_i, isN_int, isN_non, isN_tup, isN_str, isN_bl, isN_lst, F_count_in, b_count_in, unS, setsS, guardO, hp, he, hn, hh0, hh1, ht0, hc, hm, hs, hs1, hs2, cntD, c1', c2', k1, k1']
        · have c2' : ¬ (m : Int) ≤ 9 := by omega
          have hT : times h = none := by unfold times; rw [if_neg a0, en]; simp [c2]
          rw [hT]
          simp [fn_ap, then_ap, thenL_ap, seq_ap, iff_ap, skip_ap, opt_some, andV, orV, notV, chS, asB, andS, orS, notS, ifS, callS, consS, tupS, lstS, giveS, op1, op2, op2L, cbS, cbL, ixS, ix_t, ix_l, ix_s, ix_j, ix_c, slS, soP, noP, op1s, op2s, bind_ap, map_ap, ofO_some, var_ap, c_ap, nil_ap, ite_ap, iteS_ap, le_ii, lt_ii, gt_ii, ge_ii, add_ii, sub_ii, neg_i, len_t, len_l, str_s, lst_l, tup_t, int_i, one_1, int_of_i, isN_int, isN_non, isN_tup, isN_str, isN_bl, isN_lst, F_count_in, b_count_in, unS, setsS, guardO, hp, he, hn, hh0, c1', c2', cntD]
      · have c1' : ¬ (1 : Int) ≤ m := by omega
        have hT : times h = none := by unfold times; rw [if_neg a0, en]; simp [c1]
        rw [hT]
        simp [fn_ap, then_ap, thenL_ap, seq_ap, iff_ap, skip_ap, opt_some, andV, orV, notV, chS, asB, andS, orS, notS, ifS, callS, consS, tupS, lstS, giveS, op1, op2, op2L, cbS, cbL, ixS, ix_t, ix_l, ix_s, ix_j, ix_c, slS, soP, noP, op1s, op2s, bind_ap, map_ap, ofO_some, var_ap, c_ap, nil_ap, ite_ap, iteS_ap, le_ii, lt_ii, gt_ii, ge_ii, add_ii, sub_ii, neg_i, len_t, len_l, str_s, lst_l, tup_t, int_i, one_1, int_of_i, isN_int, isN_non, isN_tup, isN_str, isN_bl, isN_lst, F_count_in, b_count_in, unS, setsS, guardO, hp, he, hn, hh0, c1', cntD]
theorem count_in_str {x : Str} (hx : Tx x) (s : Jr) : F_count_in [.str x] s = .ok (cntD (cntIn x)) s := by
  cases h : fst x with
  | none => exact count_in_none hx h s
  | some i => exact count_in_some hx h s
theorem parse_str {x : Str} (hx : Tx x) (s : Jr) : F_parse_count [.str x] s = match cntIn x with
    | some p => .ok (.tup [.int p.1, .int p.2]) s
    | none => .exc 1 (.str x) s := by
  have h := count_in_str hx s
  cases e : cntIn x <;> (rw [e] at h; simp [fn_ap, then_ap, thenL_ap, seq_ap, iff_ap, skip_ap, opt_some, andV, orV, notV, chS, asB, andS, orS, notS, ifS, callS, consS, tupS, lstS, giveS, op1, op2, op2L, cbS, cbL, ixS, ix_t, ix_l, ix_s, ix_j, ix_c, slS, soP, noP, op1s, op2s, bind_ap, map_ap, ofO_some, var_ap, c_ap, nil_ap, ite_ap, iteS_ap, le_ii, lt_ii, gt_ii, ge_ii, add_ii, sub_ii, neg_i, len_t, len_l, str_s, lst_l, tup_t, int_i, one_1, int_of_i, isN_int, isN_non, isN_tup, isN_str, isN_bl, isN_lst, F_parse_count, b_parse_count, isi_str (d := .str x) trivial, isS, h, cntD, raiS])
theorem parse_no {d : D} (hd : Pl d) (h : isS d = false) (s : Jr) : F_parse_count [d] s = .exc 1 d s := by
  simp [fn_ap, then_ap, thenL_ap, seq_ap, iff_ap, skip_ap, opt_some, andV, orV, notV, chS, asB, andS, orS, notS, ifS, callS, consS, tupS, lstS, giveS, op1, op2, op2L, cbS, cbL, ixS, ix_t, ix_l, ix_s, ix_j, ix_c, slS, soP, noP, op1s, op2s, bind_ap, map_ap, ofO_some, var_ap, c_ap, nil_ap, ite_ap, iteS_ap, le_ii, lt_ii, gt_ii, ge_ii, add_ii, sub_ii, neg_i, len_t, len_l, str_s, lst_l, tup_t, int_i, one_1, int_of_i, isN_int, isN_non, isN_tup, isN_str, isN_bl, isN_lst, F_parse_count, b_parse_count, isi_str hd, h, raiS]
end Pr
end DL

namespace DL
open PySem PySem.Spec PyProof.Rows L2 PySem.NumText
namespace Pr
theorem fold_ge : ∀ (l : List Nat) (acc : Nat), acc ≤ l.foldl (fun acc c => acc * 10 + (c - 48)) acc
  | [], acc => Nat.le_refl acc
  | c :: l, acc => by
    rw [List.foldl_cons]
    exact Nat.le_trans (by omega) (fold_ge l _)
theorem numIn_some {h : Str} {m : Nat} (e : numIn h = some m) : 1 ≤ h.length ∧ h.length ≤ 31 ∧ dig h = true ∧ (one0 h = true ∨ h.cps.toList.head? ≠ some 48) ∧ digitsVal h.cps.toList = m := by
  unfold numIn at e
  split at e
  · rename_i z
    exact ⟨z.1, z.2.1, z.2.2.1, z.2.2.2, Option.some.inj e⟩
  · cases e
theorem short_of {h : Str} {m : Nat} (e : numIn h = some m) (hm : m ≤ 9) : h.length = 1 := by
  obtain ⟨h1, h2, h3, h4, h5⟩ := numIn_some e
  obtain ⟨c, l, hc⟩ := head_of h1
  have hl := len_list h
  rw [hc] at hl
  cases l with
  | nil => simpa using hl.symm
  | cons d r =>
    exfalso
    have nz : one0 h = false := by
      unfold one0
      refine decide_eq_false fun z => ?_
      rw [z] at hl
      rw [show (("0" : Str)).length = 1 from rfl] at hl
      simp at hl
    rw [nz, hc] at h4
    have hc48 : c ≠ 48 := fun z => by
      rcases h4 with h4 | h4
      · cases h4
      · exact h4 (by rw [z]; rfl)
    have hd := allDigits_of (l := h.cps.toList) h3
    rw [hc] at hd
    have c1 := hd c (.head _)
    rw [hc] at h5
    unfold digitsVal at h5
    rw [List.foldl_cons, List.foldl_cons] at h5
    have := fold_ge r ((0 * 10 + (c - 48)) * 10 + (d - 48))
    omega
theorem one_of {h : Str} (e : numIn h = some 1) : h = "1" := by
  have h0 := short_of e (by decide)
  obtain ⟨h1, h2, h3, h4, h5⟩ := numIn_some e
  obtain ⟨c, l, hc⟩ := head_of h1
  have hl := len_list h
  rw [hc, h0] at hl
  cases l with
  | cons d r => simp at hl
  | nil =>
    have hd := allDigits_of (l := h.cps.toList) h3
    rw [hc] at hd h5
    have c1 := hd c (.head _)
    have h5' : 0 * 10 + (c - 48) = 1 := h5
    have c49 : c = 49 := by omega
    rw [c49] at hc
    rw [one_text]
    have : h.cps = #[49] := Array.ext' hc
    show h = _
    rw [← this]
theorem hd_len (x : Str) (i : Nat) : (hd x i).length = min i x.length := by
  rw [← len_list, ← len_list x]
  unfold hd
  simp
theorem tl_len (x : Str) (i : Nat) : (tl x i).length = x.length - (i + 1) := by
  rw [← len_list, ← len_list x]
  unfold tl
  simp
theorem long_none {x : Str} (h : 40 < x.length) : cntIn x = none := by
  unfold cntIn
  cases hf : fst x with
  | none =>
    show (match numIn x with
      | some v => if (v : Int) ≤ big then some ((0 : Int), (v : Int)) else none
      | none => none) = none
    rw [numIn_no (fun z => by omega)]
  | some i =>
    show (match times (hd x i) with
      | some m => after m (tl x i)
      | none => none) = none
    cases ht : times (hd x i) with
    | none => rfl
    | some m =>
      have h1 : (hd x i).length ≤ 1 := by
        unfold times at ht
        split at ht
        · rename_i z
          rw [z]
          decide
        · cases e : numIn (hd x i) with
          | none => rw [e] at ht; cases ht
          | some k =>
            rw [e] at ht
            have ht' : (if 1 ≤ k ∧ k ≤ 9 ∧ hd x i ≠ "1" then some k else none) = some m := ht
            by_cases hk : 1 ≤ k ∧ k ≤ 9 ∧ hd x i ≠ "1"
            · rw [short_of e hk.2.1]
              exact Nat.le_refl 1
            · rw [if_neg hk] at ht'
              cases ht'
      rw [hd_len] at h1
      show after m (tl x i) = none
      have ne : tl x i ≠ "" := fun z => by
        have := tl_len x i
        rw [z] at this
        have e0 : (("" : Str)).length = 0 := rfl
        rw [e0] at this
        omega
      rw [after_eq ne, numIn_no (x := rest1 (tl x i)) (fun z => by
        have e1 : (rest1 (tl x i)).length = _ := tl_len (tl x i) 0
        rw [tl_len] at e1
        omega)]
/-! ## the law's own reading -/
def rd : Option (Int × Int) → D
  | some p => .tup [.tup [.int p.1, .int p.2]]
  | none => .tup []
def behind (a : Int) (t : Str) : Option (Int × Int) := if t = "" then some (a, 0) else
  if ((decide (sg t = 43) || decide (sg t = 45)) && !decide (figR (rest1 t) < 1)) = true then some (a, if decide (sg t = 43) = true then figR (rest1 t) else -figR (rest1 t)) else none
def readIn (x : Str) : Option (Int × Int) := if x = "" ∨ 40 < x.length then none else match fst x with
  | none => if -1 < figR x then some (0, figR x) else none
  | some i => if hd x i = "" then behind 1 (tl x i) else if 2 ≤ figR (hd x i) ∧ figR (hd x i) ≤ 9 then behind (figR (hd x i)) (tl x i) else none
theorem figR_none {x : Str} (h : numIn x = none) : figR x = -1 := by
  unfold figR
  rw [h]
theorem figR_some {x : Str} {v : Nat} (h : numIn x = some v) (hb : (v : Int) ≤ big) : figR x = v := by
  unfold figR
  rw [h]
  exact if_pos hb
theorem figR_big {x : Str} {v : Nat} (h : numIn x = some v) (hb : ¬ (v : Int) ≤ big) : figR x = -1 := by
  unfold figR
  rw [h]
  exact if_neg hb
theorem behind_after {m : Nat} {t : Str} : behind m t = after m t := by
  unfold behind
  by_cases h : t = ""
  · rw [if_pos h, after_nil h]
  · rw [if_neg h, after_eq h]
    cases e : numIn (rest1 t) with
    | none =>
      rw [figR_none e]
      simp
    | some v =>
      show _ = if ((decide (sg t = 43) || decide (sg t = 45)) && decide (1 ≤ v) && decide ((v : Int) ≤ big)) = true then some ((m : Int), if decide (sg t = 43) = true then (v : Int) else -(v : Int)) else none
      by_cases hb : (v : Int) ≤ big
      · rw [figR_some e hb]
        by_cases h1 : 1 ≤ v
        · have h1' : ¬ (v : Int) < 1 := by omega
          simp [h1, h1', hb]
        · have h1' : (v : Int) < 1 := by omega
          simp [h1, h1']
      · rw [figR_big e hb]
        simp [hb]
theorem read_cnt (x : Str) : readIn x = cntIn x := by
  unfold readIn
  by_cases h0 : x = "" ∨ 40 < x.length
  · rw [if_pos h0]
    rcases h0 with h0 | h0
    · rw [h0]
      unfold cntIn
      rw [show fst "" = none from by decide +kernel]
      show none = (match numIn "" with
        | some v => if (v : Int) ≤ big then some ((0 : Int), (v : Int)) else none
        | none => none)
      rw [numIn_empty rfl]
    · rw [long_none h0]
  · rw [if_neg h0]
    unfold cntIn
    cases hf : fst x with
    | none =>
      show (if -1 < figR x then some ((0 : Int), figR x) else none) = (match numIn x with
        | some v => if (v : Int) ≤ big then some ((0 : Int), (v : Int)) else none
        | none => none)
      unfold figR
      cases numIn x with
      | none => rfl
      | some v =>
        show (if -1 < (if (v : Int) ≤ 10 ^ 30 then (v : Int) else -1) then some ((0 : Int), (if (v : Int) ≤ 10 ^ 30 then (v : Int) else -1)) else none) = if (v : Int) ≤ big then some ((0 : Int), (v : Int)) else none
        by_cases hb : (v : Int) ≤ 10 ^ 30
        · have hb' : (v : Int) ≤ big := hb
          rw [if_pos hb, if_pos hb', if_pos (by omega)]
        · have hb' : ¬ (v : Int) ≤ big := hb
          rw [if_neg hb, if_neg hb', if_neg (by omega)]
    | some i =>
      show (if hd x i = "" then behind 1 (tl x i) else if 2 ≤ figR (hd x i) ∧ figR (hd x i) ≤ 9 then behind (figR (hd x i)) (tl x i) else none) = (match times (hd x i) with
        | some m => after m (tl x i)
        | none => none)
      generalize hd x i = h
      generalize tl x i = t
      unfold times
      by_cases a0 : h = ""
      · rw [if_pos a0, if_pos a0]
        exact behind_after (m := 1)
      · rw [if_neg a0, if_neg a0]
        cases en : numIn h with
        | none =>
          have hf : figR h = -1 := by unfold figR; rw [en]
          rw [hf, if_neg (by omega)]
        | some m =>
          show _ = (match (if 1 ≤ m ∧ m ≤ 9 ∧ h ≠ "1" then some m else none) with
            | some m => after m t
            | none => none)
          by_cases hm : 2 ≤ m ∧ m ≤ 9
          · have hf : figR h = m := by
              unfold figR
              rw [en]
              show (if (m : Int) ≤ 10 ^ 30 then (m : Int) else -1) = m
              rw [if_pos (by omega)]
            have n1 : h ≠ "1" := fun z => by
              rw [z, show numIn "1" = some 1 from by decide +kernel] at en
              cases en
              omega
            rw [hf, if_pos (by omega), if_pos ⟨by omega, hm.2, n1⟩]
            exact behind_after
          · have r2 : ¬ (1 ≤ m ∧ m ≤ 9 ∧ h ≠ "1") := fun z => by
              have : m = 1 := by omega
              rw [this] at en
              exact z.2.2 (one_of en)
            rw [if_neg r2, if_neg]
            unfold figR
            rw [en]
            show ¬ (2 ≤ (if (m : Int) ≤ 10 ^ 30 then (m : Int) else -1) ∧ (if (m : Int) ≤ 10 ^ 30 then (m : Int) else -1) ≤ 9)
            split <;> omega
theorem in_n' (x : Str) : inD true (.str "n") (.str x) = some (.bl (fst x).isNone) := in_n x
theorem read_str {x : Str} (hx : Tx x) (s : Jr) : F__law_read [.str x] s = .ok (rd (cntIn x)) s := by
  rw [← read_cnt]
  have hl := len_s (x := x) (Nat.le_trans hx.1 (by decide))
  have hn := in_n x
  have hF := figures_str hx s
  have h0 : eqX (.str x) (.str "") = some (.bl (decide (x = ""))) := rfl
  unfold readIn
  by_cases e0 : x = ""
  · rw [if_pos (.inl e0)]
    rw [decide_eq_true e0] at h0
    simp [fn_ap, then_ap, thenL_ap, seq_ap, iff_ap, skip_ap, opt_some, andV, orV, notV, chS, asB, andS, orS, notS, ifS, callS, consS, tupS, lstS, giveS, op1, op2, op2L, cbS, cbL, ixS, ix_t, ix_l, ix_s, ix_j, ix_c, slS, soP, noP, op1s, op2s, bind_ap, map_ap, ofO_some, var_ap, c_ap, nil_ap, ite_ap, iteS_ap, le_ii, lt_ii, gt_ii, ge_ii, add_ii, sub_ii, neg_i, len_t, len_l, str_s, lst_l, tup_t, int_i, one_1, int_of_i, isN_int, isN_non, isN_tup, isN_str, isN_bl, isN_lst, F__law_read, b__law_read, isi_str (d := .str x) trivial, isS, h0, rd]
  · rw [decide_eq_false e0] at h0
    by_cases e1 : 40 < x.length
    · have e1' : (40 : Int) < x.length := by omega
      rw [if_pos (.inr e1)]
      simp [fn_ap, then_ap, thenL_ap, seq_ap, iff_ap, skip_ap, opt_some, andV, orV, notV, chS, asB, andS, orS, notS, ifS, callS, consS, tupS, lstS, giveS, op1, op2, op2L, cbS, cbL, ixS, ix_t, ix_l, ix_s, ix_j, ix_c, slS, soP, noP, op1s, op2s, bind_ap, map_ap, ofO_some, var_ap, c_ap, nil_ap, ite_ap, iteS_ap, le_ii, lt_ii, gt_ii, ge_ii, add_ii, sub_ii, neg_i, len_t, len_l, str_s, lst_l, tup_t, int_i, one_1, int_of_i, isN_int, isN_non, isN_tup, isN_str, isN_bl, isN_lst, F__law_read, b__law_read, isi_str (d := .str x) trivial, isS, h0, hl, e1', rd]
    · have e1' : ¬ (40 : Int) < x.length := by omega
      rw [if_neg (fun z => z.elim e0 e1)]
      cases hf : fst x with
      | none =>
        rw [hf] at hn
        show _ = Res.ok (rd (if -1 < figR x then some (0, figR x) else none)) s
        generalize figR x = v at *
        by_cases hv : -1 < v <;> simp [fn_ap, then_ap, thenL_ap, seq_ap, iff_ap, skip_ap, opt_some, andV, orV, notV, chS, asB, andS, orS, notS, ifS, callS, consS, tupS, lstS, giveS, op1, op2, op2L, cbS, cbL, ixS, ix_t, ix_l, ix_s, ix_j, ix_c, slS, soP, noP, op1s, op2s, bind_ap, map_ap, ofO_some, var_ap, c_ap, nil_ap, ite_ap, iteS_ap, le_ii, lt_ii, gt_ii, ge_ii, add_ii, sub_ii, neg_i, len_t, len_l, str_s, lst_l, tup_t, int_i, one_1, int_of_i, isN_int, isN_non, isN_tup, isN_str, isN_bl, isN_lst, F__law_read, b__law_read, isi_str (d := .str x) trivial, isS, h0, hl, e1', hn, hF, hv, rd]
      | some i =>
        rw [hf] at hn
        have hi := idx_some hf
        have hc1 : cutD (.str x) none (some (i : Int)) = some (.str (hd x i)) := by
          rw [cut_s _ _ (Nat.le_trans hx.1 (by decide)), hd_cut]
        have hc2 : cutD (.str x) (some ((i : Int) + 1)) none = some (.str (tl x i)) := by
          rw [cut_s _ _ (Nat.le_trans hx.1 (by decide)), tl_cut]
        have hh := hd_tx hx i
        have ht := tl_tx hx i
        show _ = Res.ok (rd (if hd x i = "" then behind 1 (tl x i) else if 2 ≤ figR (hd x i) ∧ figR (hd x i) ≤ 9 then behind (figR (hd x i)) (tl x i) else none)) s
        generalize hd x i = h at *
        generalize tl x i = t at *
        have hFh := figures_str hh s
        have hu : Tx (rest1 t) := tl_tx ht 0
        have hFu := figures_str hu s
        have hc3 : cutD (.str t) (some 1) none = some (.str (rest1 t)) := by
          rw [cut_s _ _ (Nat.le_trans ht.1 (by decide)), rest_cut]
        have hh0 : eqX (.str h) (.str "") = some (.bl (decide (h = ""))) := rfl
        have hh1 : eqD true (.str h) (.str "") = some (.bl (!decide (h = ""))) := rfl
        have ht0 : eqX (.str t) (.str "") = some (.bl (decide (t = ""))) := rfl
        by_cases a0 : h = ""
        · rw [decide_eq_true a0] at hh0 hh1
          rw [if_pos a0]
          unfold behind
          by_cases b0 : t = ""
          · rw [decide_eq_true b0] at ht0
            rw [if_pos b0]
            simp [fn_ap, then_ap, thenL_ap, seq_ap, iff_ap, skip_ap, opt_some, andV, orV, notV, chS, asB, andS, orS, notS, ifS, callS, consS, tupS, lstS, giveS, op1, op2, op2L, cbS, cbL, ixS, ix_t, ix_l, ix_s, ix_j, ix_c, slS, soP, noP, op1s, op2s, bind_ap, map_ap, ofO_some, var_ap, c_ap, nil_ap, ite_ap, iteS_ap, le_ii, lt_ii, gt_ii, ge_ii, add_ii, sub_ii, neg_i, len_t, len_l, str_s, lst_l, tup_t, int_i, one_1, int_of_i, isN_int, isN_non, isN_tup, isN_str, isN_bl, isN_lst, F__law_read, b__law_read, isi_str (d := .str x) trivial, isS, h0, hl, e1', hn, hi, parS, setsS, guardO, hc1, hc2, hh0, hh1, ht0, rd]
          · rw [decide_eq_false b0] at ht0
            rw [if_neg b0]
            have hs := sg_first ht (nonempty b0)
            have hs1 := signs_pm (sg t) true
            have hs2 : eqX (.str ⟨#[sg t]⟩) (.str "+") = some (.bl (decide (sg t = 43))) := by rw [eq_ss, plus_text, sign_eq]
            generalize decide (sg t = 43) = p43 at *
            generalize decide (sg t = 45) = p45 at *
            generalize figR (rest1 t) = v at *
            by_cases hv : v < 1 <;> cases p43 <;> cases p45 <;> simp [fn_ap, then_ap, thenL_ap, seq_ap, iff_ap, skip_ap, opt_some, andV, orV, notV, chS, asB, andS, orS, notS, ifS, callS, consS, tupS, lstS, giveS, op1, op2, op2L, cbS, cbL, ixS, ix_t, ix_l, ix_s, ix_j, ix_c, slS, soP, noP, op1s, op2s, bind_ap, map_ap, ofO_some, var_ap, c_ap, nil_ap, ite_ap, iteS_ap, le_ii, lt_ii, gt_ii, ge_ii, add_ii, sub_ii, neg_i, len_t, len_l, str_s, lst_l, tup_t, int_i, one_1, int_of_i, isN_int, isN_non, isN_tup, isN_str, isN_bl, isN_lst, F__law_read, b__law_read, isi_str (d := .str x) trivial, isS, h0, hl, e1', hn, hi, parS, setsS, guardO, hc1, hc2, hc3, hFu, hh0, hh1, ht0, hs, hs1, hs2, hv, rd]
        · rw [decide_eq_false a0] at hh0 hh1
          rw [if_neg a0]
          generalize figR h = m at *
          by_cases m1 : 2 ≤ m
          · by_cases m2 : m ≤ 9
            · rw [if_pos ⟨m1, m2⟩]
              unfold behind
              by_cases b0 : t = ""
              · rw [decide_eq_true b0] at ht0
                rw [if_pos b0]
                simp [fn_ap, then_ap, thenL_ap, seq_ap, iff_ap, skip_ap, opt_some, andV, orV, notV, chS, asB, andS, orS, notS, ifS, callS, consS, tupS, lstS, giveS, op1, op2, op2L, cbS, cbL, ixS, ix_t, ix_l, ix_s, ix_j, ix_c, slS, soP, noP, op1s, op2s, bind_ap, map_ap, ofO_some, var_ap, c_ap, nil_ap, ite_ap, iteS_ap, le_ii, lt_ii, gt_ii, ge_ii, add_ii, sub_ii, neg_i, len_t, len_l, str_s, lst_l, tup_t, int_i, one_1, int_of_i, isN_int, isN_non, isN_tup, isN_str, isN_bl, isN_lst, F__law_read, b__law_read, isi_str (d := .str x) trivial, isS, h0, hl, e1', hn, hi, parS, setsS, guardO, hc1, hc2, hFh, hh0, hh1, ht0, m1, m2, rd]
              · rw [decide_eq_false b0] at ht0
                rw [if_neg b0]
                have hs := sg_first ht (nonempty b0)
                have hs1 := signs_pm (sg t) true
                have hs2 : eqX (.str ⟨#[sg t]⟩) (.str "+") = some (.bl (decide (sg t = 43))) := by rw [eq_ss, plus_text, sign_eq]
                generalize decide (sg t = 43) = p43 at *
                generalize decide (sg t = 45) = p45 at *
                generalize figR (rest1 t) = v at *
                by_cases hv : v < 1 <;> cases p43 <;> cases p45 <;> simp [fn_ap, then_ap, thenL_ap, seq_ap, iff_ap, skip_ap, opt_some, andV, orV, notV, chS, asB, andS, orS, notS, ifS, callS, consS, tupS, lstS, giveS, op1, op2, op2L, cbS, cbL, ixS, ix_t, ix_l, ix_s, ix_j, ix_c, slS, soP, noP, op1s, op2s, bind_ap, map_ap, ofO_some, var_ap, c_ap, nil_ap, ite_ap, iteS_ap, le_ii, lt_ii, gt_ii, ge_ii, add_ii, sub_ii, neg_i, len_t, len_l, str_s, lst_l, tup_t, int_i, one_1, int_of_i, isN_int, isN_non, isN_tup, isN_str, isN_bl, isN_lst, F__law_read, b__law_read, isi_str (d := .str x) trivial, isS, h0, hl, e1', hn, hi, parS, setsS, guardO, hc1, hc2, hc3, hFh, hFu, hh0, hh1, ht0, hs, hs1, hs2, m1, m2, hv, rd]
            · rw [if_neg (fun z => m2 z.2)]
              simp [fn_ap, then_ap, thenL_ap, seq_ap, iff_ap, skip_ap, opt_some, andV, orV, notV, chS, asB, andS, orS, notS, ifS, callS, consS, tupS, lstS, giveS, op1, op2, op2L, cbS, cbL, ixS, ix_t, ix_l, ix_s, ix_j, ix_c, slS, soP, noP, op1s, op2s, bind_ap, map_ap, ofO_some, var_ap, c_ap, nil_ap, ite_ap, iteS_ap, le_ii, lt_ii, gt_ii, ge_ii, add_ii, sub_ii, neg_i, len_t, len_l, str_s, lst_l, tup_t, int_i, one_1, int_of_i, isN_int, isN_non, isN_tup, isN_str, isN_bl, isN_lst, F__law_read, b__law_read, isi_str (d := .str x) trivial, isS, h0, hl, e1', hn, hi, parS, setsS, guardO, hc1, hc2, hFh, hh0, hh1, m1, m2, rd]
          · rw [if_neg (fun z => m1 z.1)]
            simp [fn_ap, then_ap, thenL_ap, seq_ap, iff_ap, skip_ap, opt_some, andV, orV, notV, chS, asB, andS, orS, notS, ifS, callS, consS, tupS, lstS, giveS, op1, op2, op2L, cbS, cbL, ixS, ix_t, ix_l, ix_s, ix_j, ix_c, slS, soP, noP, op1s, op2s, bind_ap, map_ap, ofO_some, var_ap, c_ap, nil_ap, ite_ap, iteS_ap, le_ii, lt_ii, gt_ii, ge_ii, add_ii, sub_ii, neg_i, len_t, len_l, str_s, lst_l, tup_t, int_i, one_1, int_of_i, isN_int, isN_non, isN_tup, isN_str, isN_bl, isN_lst, F__law_read, b__law_read, isi_str (d := .str x) trivial, isS, h0, hl, e1', hn, hi, parS, setsS, guardO, hc1, hc2, hFh, hh0, hh1, m1, rd]
theorem read_no {d : D} (hd : Pl d) (h : isS d = false) (s : Jr) : F__law_read [d] s = .ok (.tup []) s := by
  simp [fn_ap, then_ap, thenL_ap, seq_ap, iff_ap, skip_ap, opt_some, andV, orV, notV, chS, asB, andS, orS, notS, ifS, callS, consS, tupS, lstS, giveS, op1, op2, op2L, cbS, cbL, ixS, ix_t, ix_l, ix_s, ix_j, ix_c, slS, soP, noP, op1s, op2s, bind_ap, map_ap, ofO_some, var_ap, c_ap, nil_ap, ite_ap, iteS_ap, le_ii, lt_ii, gt_ii, ge_ii, add_ii, sub_ii, neg_i, len_t, len_l, str_s, lst_l, tup_t, int_i, one_1, int_of_i, isN_int, isN_non, isN_tup, isN_str, isN_bl, isN_lst, F__law_read, b__law_read, isi_str hd, h]
end Pr
end DL

namespace DL
open PySem PySem.Spec PyProof.Rows L2 PySem.NumText
theorem forD_pure {i : Nat} {B : Ss} {s : Jr} {Iv : En → Prop} : ∀ {ds : List D}, (∀ d ∈ ds, ∀ ρ, Iv ρ → Iv (ρ.set i (.dat d)) ∧ B (ρ.set i (.dat d)) s = .nx (ρ.set i (.dat d)) s) → ∀ ρ, Iv ρ → ∃ ρ', forD i B ds ρ s = .nx ρ' s ∧ Iv ρ'
  | [], _, ρ, h => ⟨ρ, rfl, h⟩
  | d :: ds, hB, ρ, h => by
    obtain ⟨h1, h2⟩ := hB d (.head _) ρ h
    obtain ⟨ρ', h3, h4⟩ := forD_pure (ds := ds) (fun e he => hB e (.tail _ he)) _ h1
    refine ⟨ρ', ?_, h4⟩
    unfold forD
    simp only [h2]
    exact h3
theorem at_nat {ds : List D} {k : Nat} (h : k < ds.length) : atI ds (k : Int) = some ds[k] := by
  unfold atI ixN
  simp [h]
namespace Pr
theorem isN_pl {d : D} (h : d ≠ .non) : isND d .non = some (.bl false) := by
  cases d <;> first | exact absurd rfl h | rfl
/-- plain things without items -/
def Flat : D → Prop
  | .non => True
  | .bl _ => True
  | .int _ => True
  | .str _ => True
  | .dic [] [] => True
  | .dic [_] [.int _] => True
  | _ => False
def Sb : Nat → D → Prop
  | 0, d => Flat d
  | k + 1, d => Flat d ∨ ∃ ds, (d = .tup ds ∨ d = .lst ds) ∧ ds.length ≤ 1000 ∧ ∀ e ∈ ds, Sb k e
theorem whole_int (a : Int) (s : Jr) : F__law_yq_is_whole [.int a] s = .ok (.bl true) s := by rfl
theorem same_flat (k : Nat) {d : D} (h : Flat d) (s : Jr) : F__law_yq_same_at (k + 1) [d, d] s = .ok (.bl true) s := by
  cases d with
  | non => rfl
  | bl b => cases b <;> rfl
  | int a =>
    have hq : eqX (.int a) (.int a) = some (.bl true) := by rw [eq_ii, decide_eq_true rfl]
    simp [fn_ap, then_ap, thenL_ap, seq_ap, iff_ap, skip_ap, opt_some, andV, orV, notV, chS, asB, andS, orS, notS, ifS, callS, consS, tupS, lstS, giveS, op1, op2, op2L, cbS, cbL, ixS, ix_t, ix_l, ix_s, ix_j, ix_c, slS, soP, noP, op1s, op2s, bind_ap, map_ap, ofO_some, var_ap, c_ap, nil_ap, ite_ap, iteS_ap, le_ii, lt_ii, gt_ii, ge_ii, add_ii, sub_ii, neg_i, len_t, len_l, str_s, lst_l, tup_t, int_i, one_1, int_of_i, isN_int, isN_non, isN_tup, isN_str, isN_bl, isN_lst, F__law_yq_same_at, b__law_yq_same, isi_int (d := .int a) trivial, isi_bool (d := .int a) trivial, isI, isB, whole_int, hq]
  | str a =>
    have hq : eqX (.str a) (.str a) = some (.bl true) := by rw [eq_ss, decide_eq_true rfl]
    simp [fn_ap, then_ap, thenL_ap, seq_ap, iff_ap, skip_ap, opt_some, andV, orV, notV, chS, asB, andS, orS, notS, ifS, callS, consS, tupS, lstS, giveS, op1, op2, op2L, cbS, cbL, ixS, ix_t, ix_l, ix_s, ix_j, ix_c, slS, soP, noP, op1s, op2s, bind_ap, map_ap, ofO_some, var_ap, c_ap, nil_ap, ite_ap, iteS_ap, le_ii, lt_ii, gt_ii, ge_ii, add_ii, sub_ii, neg_i, len_t, len_l, str_s, lst_l, tup_t, int_i, one_1, int_of_i, isN_int, isN_non, isN_tup, isN_str, isN_bl, isN_lst, F__law_yq_same_at, b__law_yq_same, isi_int (d := .str a) trivial, isi_bool (d := .str a) trivial, isi_str (d := .str a) trivial, isI, isB, isS, hq]
  | dic ks ds =>
    have hp : Pl (.dic ks ds) := trivial
    have hq : eqX (.dic ks ds) (.dic ks ds) = some (.bl true) := by
      match ks, ds, h with
      | [], [], _ => rfl
      | [k], [.int a], _ =>
        show (if k = k ∧ a = a then some (D.bl true) else none) = _
        rw [if_pos ⟨rfl, rfl⟩]
    simp [fn_ap, then_ap, thenL_ap, seq_ap, iff_ap, skip_ap, opt_some, andV, orV, notV, chS, asB, andS, orS, notS, ifS, callS, consS, tupS, lstS, giveS, op1, op2, op2L, cbS, cbL, ixS, ix_t, ix_l, ix_s, ix_j, ix_c, slS, soP, noP, op1s, op2s, bind_ap, map_ap, ofO_some, var_ap, c_ap, nil_ap, ite_ap, iteS_ap, le_ii, lt_ii, gt_ii, ge_ii, add_ii, sub_ii, neg_i, len_t, len_l, str_s, lst_l, tup_t, int_i, one_1, int_of_i, isN_int, isN_non, isN_tup, isN_str, isN_bl, isN_lst, F__law_yq_same_at, b__law_yq_same, isN_pl (d := .dic ks ds) (fun z => by cases z), isi_int hp, isi_bool hp, isi_str hp, isi_tuple hp, isi_list hp, isI, isB, isS, isT, isL, hq, boolC]
  | jar => exact h.elim
  | ty _ => exact h.elim
  | scr _ => exact h.elim
  | tup _ => exact h.elim
  | lst _ => exact h.elim
  | obj _ _ _ => exact h.elim
theorem same_loop {k : Nat} {d : D} {ds : List D} (hd : d = .tup ds ∨ d = .lst ds) (s : Jr) (ih : ∀ e ∈ ds, F__law_yq_same_at k [e, e] s = .ok (.bl true) s) (z : Sl) :
    ∃ ρ', forD 2 (iffS (notS (asB (callS 2 (F__law_yq_same_at k) (consS (ixS jlM (varS 0) (varS 2)) (consS (ixS jlM (varS 1) (varS 2)) nilS))))) (thenS (cS (.bl false)) fun d _ s => .rt d s) skipS) (rngD ds.length) [.dat d, .dat d, z] s = .nx ρ' s := by
  have body : ∀ e ∈ rngD ds.length, ∀ ρ : En, (∃ z, ρ = [.dat d, .dat d, z]) → (∃ z, ρ.set 2 (.dat e) = [.dat d, .dat d, z]) ∧ (iffS (notS (asB (callS 2 (F__law_yq_same_at k) (consS (ixS jlM (varS 0) (varS 2)) (consS (ixS jlM (varS 1) (varS 2)) nilS))))) (thenS (cS (.bl false)) fun d _ s => .rt d s) skipS) (ρ.set 2 (.dat e)) s = .nx (ρ.set 2 (.dat e)) s := by
    intro e he ρ hρ
    obtain ⟨y, rfl⟩ := hρ
    refine ⟨⟨.dat e, rfl⟩, ?_⟩
    unfold rngD at he
    obtain ⟨j, hj, rfl⟩ := List.mem_map.mp he
    have hj' : j < ds.length := by simpa using hj
    have hi := ih ds[j] (List.getElem_mem hj')
    have hx : ixJ jlM s d (.int (j : Int)) = some ds[j] := by
      rcases hd with rfl | rfl
      · exact at_nat hj'
      · exact at_nat hj'
    have e1 : (List.set [Sl.dat d, Sl.dat d, y] 2 (Sl.dat (D.int (j : Int)))) = [Sl.dat d, Sl.dat d, Sl.dat (D.int (j : Int))] := rfl
    rw [e1]
    simp [iff_ap, notS, asB, callS, consS, ixS, bind_ap, map_ap, ofO_some, var_ap, c_ap, nil_ap, ite_ap, hx, hi, skip_ap]
  obtain ⟨ρ', h, _⟩ := forD_pure body [.dat d, .dat d, z] ⟨z, rfl⟩
  exact ⟨ρ', h⟩
theorem same_refl : ∀ (k : Nat) {d : D}, Sb k d → ∀ s : Jr, F__law_yq_same_at (k + 1) [d, d] s = .ok (.bl true) s
  | 0, d, h, s => same_flat 0 h s
  | k + 1, d, h, s => by
    rcases h with h | ⟨ds, hd, hl, hs⟩
    · exact same_flat _ h s
    · obtain ⟨ρ', hL⟩ := same_loop (k := k + 1) hd s (fun e he => same_refl k (hs e he) s) .no
      have hp : Pl d := by rcases hd with rfl | rfl <;> trivial
      have hn : d ≠ .non := by rcases hd with rfl | rfl <;> exact fun z => by cases z
      have hlen : lenC [d] = some (.int ds.length) := by rcases hd with rfl | rfl <;> rfl
      have hq : eqD true (.int (ds.length : Int)) (.int (ds.length : Int)) = some (.bl false) := by rw [ne_ii, decide_eq_true rfl]; rfl
      have hg : (0 : Int) ≤ ds.length ∧ (ds.length : Int) ≤ 1000000 := by omega
      have hT : eqD true (.bl (isT d)) (.bl (isT d)) = some (.bl false) := by rcases hd with rfl | rfl <;> rfl
      have hLs : eqD true (.bl (isL d)) (.bl (isL d)) = some (.bl false) := by rcases hd with rfl | rfl <;> rfl
      have b1 : isI d = false := by rcases hd with rfl | rfl <;> rfl
      have b2 : isB d = false := by rcases hd with rfl | rfl <;> rfl
      have b3 : isS d = false := by rcases hd with rfl | rfl <;> rfl
      have b4 : (isT d = true ∧ isL d = false) ∨ (isT d = false ∧ isL d = true) := by rcases hd with rfl | rfl <;> simp [isT, isL]
      show fnS ["heard_one", "owed", "at"] (b__law_yq_same (F__law_yq_same_at (k + 1))) [d, d] s = _
      generalize F__law_yq_same_at (k + 1) = F at *
      simp only [notS, asB, callS, consS, ixS] at hL
      rcases b4 with ⟨b4, b5⟩ | ⟨b4, b5⟩
      · rw [b4] at hT
        rw [b5] at hLs
        simp [fn_ap, then_ap, thenL_ap, seq_ap, iff_ap, skip_ap, opt_some, andV, orV, notV, chS, asB, andS, orS, notS, ifS, callS, consS, tupS, lstS, giveS, op1, op2, op2L, cbS, cbL, ixS, ix_t, ix_l, ix_s, ix_j, ix_c, slS, soP, noP, op1s, op2s, bind_ap, map_ap, ofO_some, var_ap, c_ap, nil_ap, ite_ap, iteS_ap, le_ii, lt_ii, gt_ii, ge_ii, add_ii, sub_ii, neg_i, len_t, len_l, str_s, lst_l, tup_t, int_i, one_1, int_of_i, isN_int, isN_non, isN_tup, isN_str, isN_bl, isN_lst, b__law_yq_same, isN_pl hn, isi_int hp, isi_bool hp, isi_str hp, isi_tuple hp, isi_list hp, b1, b2, b3, b4, b5, hT, hLs, hlen, hq, forR, guardO, hg, hL]
      · rw [b4] at hT
        rw [b5] at hLs
        simp [fn_ap, then_ap, thenL_ap, seq_ap, iff_ap, skip_ap, opt_some, andV, orV, notV, chS, asB, andS, orS, notS, ifS, callS, consS, tupS, lstS, giveS, op1, op2, op2L, cbS, cbL, ixS, ix_t, ix_l, ix_s, ix_j, ix_c, slS, soP, noP, op1s, op2s, bind_ap, map_ap, ofO_some, var_ap, c_ap, nil_ap, ite_ap, iteS_ap, le_ii, lt_ii, gt_ii, ge_ii, add_ii, sub_ii, neg_i, len_t, len_l, str_s, lst_l, tup_t, int_i, one_1, int_of_i, isN_int, isN_non, isN_tup, isN_str, isN_bl, isN_lst, b__law_yq_same, isN_pl hn, isi_int hp, isi_bool hp, isi_str hp, isi_tuple hp, isi_list hp, b1, b2, b3, b4, b5, hT, hLs, hlen, hq, forR, guardO, hg, hL]
theorem same_ok {d : D} (h : Sb 6 d) (s : Jr) : F__law_yq_same [d, d] s = .ok (.bl true) s := same_refl 6 h s
theorem sb_up : ∀ (k : Nat) {d : D}, Sb k d → Sb (k + 1) d
  | 0, d, h => .inl h
  | k + 1, d, h => by
    rcases h with h | ⟨ds, h1, h2, h3⟩
    · exact .inl h
    · exact .inr ⟨ds, h1, h2, fun e he => sb_up k (h3 e he)⟩
theorem sb_flat {k : Nat} {d : D} (h : Flat d) : Sb k d := by
  cases k with
  | zero => exact h
  | succ k => exact .inl h
theorem sb_s {k : Nat} {x : Str} : Sb k (.str x) := sb_flat (d := .str x) trivial
theorem sb_i {k : Nat} {x : Int} : Sb k (.int x) := sb_flat (d := .int x) trivial
theorem sb_b {k : Nat} {x : Bool} : Sb k (.bl x) := sb_flat (d := .bl x) trivial
theorem sb_n {k : Nat} : Sb k .non := sb_flat (d := .non) trivial
theorem sb_tup {k : Nat} {ds : List D} (h : ∀ e ∈ ds, Sb k e) (hl : ds.length ≤ 1000) : Sb (k + 1) (.tup ds) := .inr ⟨ds, .inl rfl, hl, h⟩
theorem sb_lst {k : Nat} {ds : List D} (h : ∀ e ∈ ds, Sb k e) (hl : ds.length ≤ 1000) : Sb (k + 1) (.lst ds) := .inr ⟨ds, .inr rfl, hl, h⟩
theorem sb_t2 {k : Nat} {a b : D} (ha : Sb k a) (hb : Sb k b) : Sb (k + 1) (.tup [a, b]) := sb_tup (fun e he => by
  rcases List.mem_cons.mp he with rfl | he
  · exact ha
  rcases List.mem_cons.mp he with rfl | he
  · exact hb
  · cases he) (Nat.le_add_left 2 998)
theorem sb_t3 {k : Nat} {a b c : D} (ha : Sb k a) (hb : Sb k b) (hc : Sb k c) : Sb (k + 1) (.tup [a, b, c]) := sb_tup (fun e he => by
  rcases List.mem_cons.mp he with rfl | he
  · exact ha
  rcases List.mem_cons.mp he with rfl | he
  · exact hb
  rcases List.mem_cons.mp he with rfl | he
  · exact hc
  · cases he) (Nat.le_add_left 3 997)
/-! ## a text is read right -/
theorem heardS_ap (sel : Nat → Option Str) (A : Sm D) (ρ : En) (s : Jr) : heardS sel A ρ s = (match A ρ s with
  | .ok d s' => .ok (.tup [.str "told", d]) s'
  | .exc c d s' => (match sel c with
    | some nm => .ok (.tup [.str nm, d]) s'
    | none => .bad)
  | .bad => .bad) := rfl
theorem heard_text_str {x : Str} (hx : Tx x) (s : Jr) : F__law_heard_text [.str x] s = .ok (match cntIn x with
    | some p => .tup [.str "told", .tup [.int p.1, .int p.2]]
    | none => .tup [.str "BadText", .str x]) s := by
  have h := parse_str hx s
  cases e : cntIn x <;> (rw [e] at h; simp [fn_ap, then_ap, thenL_ap, seq_ap, iff_ap, skip_ap, opt_some, andV, orV, notV, chS, asB, andS, orS, notS, ifS, callS, consS, tupS, lstS, giveS, op1, op2, op2L, cbS, cbL, ixS, ix_t, ix_l, ix_s, ix_j, ix_c, slS, soP, noP, op1s, op2s, bind_ap, map_ap, ofO_some, var_ap, c_ap, nil_ap, ite_ap, iteS_ap, le_ii, lt_ii, gt_ii, ge_ii, add_ii, sub_ii, neg_i, len_t, len_l, str_s, lst_l, tup_t, int_i, one_1, int_of_i, isN_int, isN_non, isN_tup, isN_str, isN_bl, isN_lst, F__law_heard_text, b__law_heard_text, heardS_ap, h, selM])
theorem heard_text_no {d : D} (hd : Pl d) (h : isS d = false) (s : Jr) : F__law_heard_text [d] s = .ok (.tup [.str "BadText", d]) s := by
  simp [fn_ap, then_ap, thenL_ap, seq_ap, iff_ap, skip_ap, opt_some, andV, orV, notV, chS, asB, andS, orS, notS, ifS, callS, consS, tupS, lstS, giveS, op1, op2, op2L, cbS, cbL, ixS, ix_t, ix_l, ix_s, ix_j, ix_c, slS, soP, noP, op1s, op2s, bind_ap, map_ap, ofO_some, var_ap, c_ap, nil_ap, ite_ap, iteS_ap, le_ii, lt_ii, gt_ii, ge_ii, add_ii, sub_ii, neg_i, len_t, len_l, str_s, lst_l, tup_t, int_i, one_1, int_of_i, isN_int, isN_non, isN_tup, isN_str, isN_bl, isN_lst, F__law_heard_text, b__law_heard_text, heardS_ap, parse_no hd h, selM]
theorem text_right_str {x : Str} (hx : Tx x) (s : Jr) : F__law_text_right [.str x] s = .ok (.bl true) s := by
  have h1 := heard_text_str hx s
  have h2 := read_str hx s
  cases e : cntIn x with
  | none =>
    rw [e] at h1 h2
    have hs : F__law_yq_same [.tup [.str "BadText", .str x], .tup [.str "BadText", .str x]] s = .ok (.bl true) s := same_ok (sb_t2 sb_s sb_s) s
    have hq : eqD true (.tup []) (.tup []) = some (.bl false) := rfl
    simp [fn_ap, then_ap, thenL_ap, seq_ap, iff_ap, skip_ap, opt_some, andV, orV, notV, chS, asB, andS, orS, notS, ifS, callS, consS, tupS, lstS, giveS, op1, op2, op2L, cbS, cbL, ixS, ix_t, ix_l, ix_s, ix_j, ix_c, slS, soP, noP, op1s, op2s, bind_ap, map_ap, ofO_some, var_ap, c_ap, nil_ap, ite_ap, iteS_ap, le_ii, lt_ii, gt_ii, ge_ii, add_ii, sub_ii, neg_i, len_t, len_l, str_s, lst_l, tup_t, int_i, one_1, int_of_i, isN_int, isN_non, isN_tup, isN_str, isN_bl, isN_lst, F__law_text_right, b__law_text_right, h1, h2, rd, hq, hs]
  | some p =>
    rw [e] at h1 h2
    have hs : F__law_yq_same [.tup [.str "told", .tup [.int p.1, .int p.2]], .tup [.str "told", .tup [.int p.1, .int p.2]]] s = .ok (.bl true) s := same_ok (sb_t2 sb_s (sb_t2 sb_i sb_i)) s
    have hq : eqD true (.tup [.tup [.int p.1, .int p.2]]) (.tup []) = some (.bl true) := rfl
    simp [fn_ap, then_ap, thenL_ap, seq_ap, iff_ap, skip_ap, opt_some, andV, orV, notV, chS, asB, andS, orS, notS, ifS, callS, consS, tupS, lstS, giveS, op1, op2, op2L, cbS, cbL, ixS, ix_t, ix_l, ix_s, ix_j, ix_c, slS, soP, noP, op1s, op2s, bind_ap, map_ap, ofO_some, var_ap, c_ap, nil_ap, ite_ap, iteS_ap, le_ii, lt_ii, gt_ii, ge_ii, add_ii, sub_ii, neg_i, len_t, len_l, str_s, lst_l, tup_t, int_i, one_1, int_of_i, isN_int, isN_non, isN_tup, isN_str, isN_bl, isN_lst, F__law_text_right, b__law_text_right, h1, h2, rd, hq, ixD, atI, ixN, hs]
theorem text_right_no {d : D} (hd : Pl d) (h : isS d = false) (hs : Sb 5 d) (s : Jr) : F__law_text_right [d] s = .ok (.bl true) s := by
  have hs : F__law_yq_same [.tup [.str "BadText", d], .tup [.str "BadText", d]] s = .ok (.bl true) s := same_ok (sb_t2 sb_s hs) s
  have hq : eqD true (.tup []) (.tup []) = some (.bl false) := rfl
  simp [fn_ap, then_ap, thenL_ap, seq_ap, iff_ap, skip_ap, opt_some, andV, orV, notV, chS, asB, andS, orS, notS, ifS, callS, consS, tupS, lstS, giveS, op1, op2, op2L, cbS, cbL, ixS, ix_t, ix_l, ix_s, ix_j, ix_c, slS, soP, noP, op1s, op2s, bind_ap, map_ap, ofO_some, var_ap, c_ap, nil_ap, ite_ap, iteS_ap, le_ii, lt_ii, gt_ii, ge_ii, add_ii, sub_ii, neg_i, len_t, len_l, str_s, lst_l, tup_t, int_i, one_1, int_of_i, isN_int, isN_non, isN_tup, isN_str, isN_bl, isN_lst, F__law_text_right, b__law_text_right, heard_text_no hd h, read_no hd h, hq, hs]
end Pr
end DL

namespace DL
open PySem PySem.Spec PyProof.Rows L2 PySem.NumText
namespace Pr
def mk (l : List Nat) : Str := ⟨l.toArray⟩
theorem mk_list (l : List Nat) : (mk l).cps.toList = l := rfl
theorem mk_len (l : List Nat) : (mk l).length = l.length := by rw [← len_list, mk_list]
theorem mk_app (a b : List Nat) : mk a ++ mk b = mk (a ++ b) := by
  show (⟨a.toArray ++ b.toArray⟩ : Str) = ⟨(a ++ b).toArray⟩
  simp
theorem mk_of (x : Str) : mk x.cps.toList = x := rfl
theorem empty_app (x : Str) : Str.empty ++ x = x := by
  have e : Str.empty = mk [] := rfl
  rw [e, ← mk_of x, mk_app]
  rfl
def dgs (n : Nat) : List Nat := (Nat.toDigits 10 n).map Char.toNat
def numT (n : Nat) : Str := mk (dgs n)
theorem toStr_nat (n : Nat) : Str.ofString (toString ((n : Nat) : Int)) = numT n := by
  rw [← mk_of (Str.ofString (toString ((n : Nat) : Int))), PySem.W.KIN.signs_num]
  rfl
theorem dgs_dig (n : Nat) : (dgs n).all dg = true := by
  rw [List.all_eq_true]
  intro c hc
  obtain ⟨ch, hch, e⟩ := List.mem_map.mp hc
  have r := digit_range (Nat.isDigit_of_mem_toDigits (by decide) (by decide) hch)
  rw [← e]
  unfold dg
  simp only [Bool.and_eq_true, decide_eq_true_eq]
  exact r
theorem dgs_rng {n c : Nat} (h : c ∈ dgs n) : 48 ≤ c ∧ c ≤ 57 := allDigits_of (dgs_dig n) c h
theorem dgs_val (n : Nat) : digitsVal (dgs n) = n := PySem.W.KIN.val_back n
theorem dgs_pos (n : Nat) : 1 ≤ (dgs n).length := by
  unfold dgs
  rw [List.length_map]
  exact Nat.length_toDigits_pos
theorem dgs_le {n : Nat} (h : n < 10 ^ 31) : (dgs n).length ≤ 31 := by
  unfold dgs
  rw [List.length_map]
  exact PyProof.Rows.digits10_le (by decide) h
theorem char_ne : ∀ d : Nat, d < 10 → 0 < d → (Nat.digitChar d).toNat ≠ 48 := by decide
theorem dgs_head (n : Nat) (h : 0 < n) : (dgs n).head? ≠ some 48 := by
  induction n using Nat.strongRecOn with
  | _ n ih =>
    unfold dgs
    by_cases hl : n < 10
    · rw [Nat.toDigits_of_lt_base hl]
      intro z
      exact char_ne n hl h (Option.some.inj z)
    · have hm : n % 10 < 10 := Nat.mod_lt n (by decide)
      have t : Nat.toDigits 10 (n / 10) ++ Nat.toDigits 10 (n % 10) = Nat.toDigits 10 (10 * (n / 10) + n % 10) := Nat.toDigits_append_toDigits (by decide) (by omega) hm
      rw [Nat.div_add_mod] at t
      rw [← t, List.map_append]
      have i := ih (n / 10) (by omega) (by omega)
      unfold dgs at i
      cases e : (Nat.toDigits 10 (n / 10)).map Char.toNat with
      | nil =>
        have p := dgs_pos (n / 10)
        unfold dgs at p
        rw [e] at p
        simp at p
      | cons c l =>
        rw [e] at i
        exact i
theorem numIn_num {n : Nat} (h : n < 10 ^ 31) : numIn (numT n) = some n := by
  have h1 := dgs_pos n
  have h2 := dgs_le h
  have e : (numT n).cps.toList = dgs n := rfl
  have l : (numT n).length = (dgs n).length := mk_len _
  unfold numIn
  rw [if_pos, e, dgs_val]
  refine ⟨by omega, by omega, dgs_dig n, ?_⟩
  by_cases hz : n = 0
  · subst hz
    left
    decide +kernel
  · right
    rw [e]
    exact dgs_head n (by omega)
/-! ## a count's text -/
def tailL (b : Int) : List Nat := if b = 0 then [] else (if 0 < b then 43 else 45) :: dgs b.natAbs
def headL (a : Int) : List Nat := if a = 1 then [] else dgs a.toNat
def cntL (a b : Int) : List Nat := if a = 0 then dgs b.toNat else headL a ++ 110 :: tailL b
def cntT (a b : Int) : Str := mk (cntL a b)
structure Ok (a b : Int) : Prop where
  a0 : 0 ≤ a
  a9 : a ≤ 9
  b0 : a = 0 → 0 ≤ b
  bl : -10 ^ 30 ≤ b
  bu : b ≤ 10 ^ 30
theorem fst_at {p r : List Nat} (hp : 110 ∉ p) (hr : 110 ∉ r) : fst (mk (p ++ 110 :: r)) = some p.length := by
  have hl : (mk (p ++ 110 :: r)).cps.toList = p ++ 110 :: r := rfl
  cases h : fst (mk (p ++ 110 :: r)) with
  | none =>
    have := in_n (mk (p ++ 110 :: r))
    rw [h] at this
    exfalso
    rw [n_text] at this
    have e : inD true (.str ⟨#[110]⟩) (.str (mk (p ++ 110 :: r))) = some (.bl (!decide (110 ∈ (mk (p ++ 110 :: r)).cps.toList))) := rfl
    rw [e, hl] at this
    simp at this
  | some i =>
    obtain ⟨t, ht⟩ := fst_some h
    have sp := PySem.StrLaws.occ_spec (mk (p ++ 110 :: r)) "n" 0 (mk (p ++ 110 :: r)).length 1 i (by rw [ht]; exact .head _)
    rw [n_text] at sp
    have ha := (PySem.StrLaws.subAt_one _ 110 i).mp sp
    rw [hl] at ha
    congr 1
    rcases Nat.lt_trichotomy i p.length with hi | hi | hi
    · rw [List.getElem?_append_left hi] at ha
      exact absurd (List.mem_of_getElem? ha) hp
    · exact hi
    · rw [List.getElem?_append_right (by omega)] at ha
      obtain ⟨j, hj⟩ : ∃ j, i - p.length = j + 1 := ⟨i - p.length - 1, by omega⟩
      rw [hj] at ha
      exact absurd (List.mem_of_getElem? (by simpa using ha)) hr
theorem no_n {l : List Nat} (h : ∀ c ∈ l, c ≤ 57) : 110 ∉ l := fun z => by
  have := h 110 z
  omega
theorem fst_no {l : List Nat} (h : 110 ∉ l) : fst (mk l) = none := by
  have h2 := in_n (mk l)
  rw [n_text] at h2
  have e : inD true (.str ⟨#[110]⟩) (.str (mk l)) = some (.bl (!decide (110 ∈ l))) := rfl
  rw [e, decide_eq_false h] at h2
  cases hf : fst (mk l) with
  | none => rfl
  | some i =>
    rw [hf] at h2
    exact absurd h2 (by simp)
theorem back {a b : Int} (o : Ok a b) : cntIn (cntT a b) = some (a, b) := by
  obtain ⟨a0, a9, b0, bl, bu⟩ := o
  unfold cntT cntL
  by_cases ha : a = 0
  · rw [if_pos ha]
    have hb := b0 ha
    have hn : b.toNat < 10 ^ 31 := by omega
    unfold cntIn
    rw [fst_no (no_n fun c hc => (dgs_rng hc).2)]
    show (match numIn (numT b.toNat) with
      | some v => if (v : Int) ≤ big then some ((0 : Int), (v : Int)) else none
      | none => none) = _
    rw [numIn_num hn]
    show (if ((b.toNat : Nat) : Int) ≤ big then some ((0 : Int), ((b.toNat : Nat) : Int)) else none) = _
    rw [if_pos (by unfold big; omega), ha]
    congr 2
    omega
  · rw [if_neg ha]
    have hp : 110 ∉ headL a := by
      unfold headL
      split
      · simp
      · exact no_n fun c hc => (dgs_rng hc).2
    have hr : 110 ∉ tailL b := by
      unfold tailL
      split
      · simp
      · refine no_n fun c hc => ?_
        rcases List.mem_cons.mp hc with e | hc
        · rw [e]
          split <;> decide
        · exact (dgs_rng hc).2
    unfold cntIn
    rw [fst_at hp hr]
    have e1 : hd (mk (headL a ++ 110 :: tailL b)) (headL a).length = mk (headL a) := by
      unfold hd
      rw [mk_list, List.take_left']
      · rfl
      · rfl
    have e2 : tl (mk (headL a ++ 110 :: tailL b)) (headL a).length = mk (tailL b) := by
      unfold tl
      rw [mk_list, show headL a ++ 110 :: tailL b = (headL a ++ [110]) ++ tailL b by simp, List.drop_left' (by simp)]
      rfl
    show (match times (hd (mk (headL a ++ 110 :: tailL b)) (headL a).length) with
      | some m => after m (tl (mk (headL a ++ 110 :: tailL b)) (headL a).length)
      | none => none) = _
    rw [e1, e2]
    have ht : times (mk (headL a)) = some a.toNat := by
      unfold headL
      by_cases h1 : a = 1
      · rw [if_pos h1, h1]
        decide +kernel
      · rw [if_neg h1]
        have hn := numIn_num (n := a.toNat) (by omega)
        have ne : mk (dgs a.toNat) ≠ "" := fun z => by
          have := mk_len (dgs a.toNat)
          rw [z] at this
          have p := dgs_pos a.toNat
          have e0 : (("" : Str)).length = 0 := rfl
          omega
        unfold times
        rw [if_neg ne, show numIn (mk (dgs a.toNat)) = some a.toNat from hn]
        show (if 1 ≤ a.toNat ∧ a.toNat ≤ 9 ∧ mk (dgs a.toNat) ≠ "1" then some a.toNat else none) = _
        rw [if_pos]
        refine ⟨by omega, by omega, fun z => ?_⟩
        have hn' : numIn (mk (dgs a.toNat)) = some a.toNat := hn
        rw [z, show numIn "1" = some 1 from by decide +kernel] at hn'
        have := Option.some.inj hn'
        omega
    rw [ht]
    show after a.toNat (mk (tailL b)) = _
    by_cases hb : b = 0
    · have : tailL b = [] := if_pos hb
      rw [this, after_nil (show mk [] = "" from by decide +kernel), hb]
      congr 2
      omega
    · have et : tailL b = (if 0 < b then 43 else 45) :: dgs b.natAbs := if_neg hb
      have ne : mk (tailL b) ≠ "" := fun z => by
        have := mk_len (tailL b)
        rw [z, et] at this
        have e0 : (("" : Str)).length = 0 := rfl
        rw [List.length_cons] at this
        omega
      have hs : sg (mk (tailL b)) = if 0 < b then 43 else 45 := by
        unfold sg
        rw [mk_list, et]
        rfl
      have hr1 : rest1 (mk (tailL b)) = numT b.natAbs := by
        rw [tail_part (c := if 0 < b then 43 else 45) (l := dgs b.natAbs) (by rw [mk_list, et])]
        rfl
      rw [after_eq ne, hr1, numIn_num (by omega), hs]
      by_cases hpos : 0 < b
      · have hv : ((b.natAbs : Nat) : Int) ≤ big := by unfold big; omega
        have h1 : 1 ≤ b.natAbs := by omega
        simp [hpos, hv, h1]
        omega
      · have hv : ((b.natAbs : Nat) : Int) ≤ big := by unfold big; omega
        have h1 : 1 ≤ b.natAbs := by omega
        simp [hpos, hv, h1]
        omega
end Pr
end DL

namespace DL
open PySem PySem.Spec PyProof.Rows L2 PySem.NumText
theorem app_len (x y : Str) : (x ++ y).length = x.length + y.length := by
  show (x.cps ++ y.cps).size = _
  rw [Array.size_append]
  rfl
theorem js2 {A B : Sm D} {ρ : En} {s : Jr} {x y : Str} (hA : A ρ s = .ok (.str x) s) (hB : B ρ s = .ok (.str y) s) (h : x.length + y.length ≤ 10000000) : jsS [A, B] Str.empty ρ s = .ok (.str (x ++ y)) s := by
  have h1 : (Str.empty ++ x).length ≤ 10000000 := by rw [Pr.empty_app]; omega
  have h2 : (Str.empty ++ x ++ y).length ≤ 10000000 := by rw [app_len, Pr.empty_app]; exact h
  unfold jsS
  rw [bind_ap, hA]
  show (if (Str.empty ++ x).length ≤ 10000000 then jsS [B] (Str.empty ++ x) else fun _ _ => .bad : Sm D) ρ s = _
  rw [if_pos h1]
  unfold jsS
  rw [bind_ap, hB]
  show (if (Str.empty ++ x ++ y).length ≤ 10000000 then jsS [] (Str.empty ++ x ++ y) else fun _ _ => .bad : Sm D) ρ s = _
  rw [if_pos h2, Pr.empty_app]
  rfl
namespace Pr
theorem str_assoc (x y z : Str) : x ++ (y ++ z) = x ++ y ++ z := by
  show (⟨x.cps ++ (y.cps ++ z.cps)⟩ : Str) = ⟨x.cps ++ y.cps ++ z.cps⟩
  rw [Array.append_assoc]
def headS (a : Int) : Str := mk (headL a ++ [110])
theorem cnt_a0 {a b : Int} (h : a = 0) : cntT a b = numT b.toNat := by
  unfold cntT cntL
  rw [if_pos h]
  rfl
theorem cnt_ne {a b : Int} (h : a ≠ 0) : cntT a b = headS a ++ mk (tailL b) := by
  unfold cntT cntL headS
  rw [if_neg h, mk_app]
  congr 1
  simp
theorem cnt_b0 {a b : Int} (h : a ≠ 0) (hb : b = 0) : cntT a b = headS a := by
  rw [cnt_ne h]
  have : tailL b = [] := if_pos hb
  rw [this]
  unfold headS
  rw [mk_app, List.append_nil]
theorem n_mk : ("n" : Str) = mk [110] := by decide +kernel
theorem head_1 {a : Int} (h : a = 1) : headS a = "n" := by
  unfold headS headL
  rw [if_pos h, n_mk]
  rfl
theorem head_2 {a : Int} (h : a ≠ 1) : headS a = numT a.toNat ++ "n" := by
  unfold headS headL numT
  rw [if_neg h, n_mk, mk_app]
theorem plus_tail {b : Int} (h : b ≠ 0) : plusT b = mk (tailL b) := by
  unfold plusT tailL
  rw [if_neg h]
  by_cases hb : b < 0
  · rw [if_pos hb, if_neg (by omega)]
    rfl
  · rw [if_neg hb, if_pos (by omega)]
    rfl
theorem tail_sign {b : Int} (h : b ≠ 0) : mk (tailL b) = (if 0 < b then ("+" : Str) else "-") ++ numT b.natAbs := by
  have p : ("+" : Str) = mk [43] := by decide +kernel
  have m : ("-" : Str) = mk [45] := by decide +kernel
  unfold tailL numT
  rw [if_neg h]
  by_cases hb : 0 < b
  · rw [if_pos hb, if_pos hb, p, mk_app]
    rfl
  · rw [if_neg hb, if_neg hb, m, mk_app]
    rfl
theorem num_len {n : Nat} (h : n ≤ 10 ^ 30) : (numT n).length ≤ 31 := by
  unfold numT
  rw [mk_len]
  exact dgs_le (by omega)
theorem head_len {a : Int} (h : a ≤ 9) : (headS a).length ≤ 32 := by
  by_cases h1 : a = 1
  · rw [head_1 h1]
    decide
  · rw [head_2 h1, app_len]
    have := num_len (n := a.toNat) (by omega)
    have e : ("n" : Str).length = 1 := rfl
    omega
theorem tail_len {b : Int} (h1 : -10 ^ 30 ≤ b) (h2 : b ≤ 10 ^ 30) : (mk (tailL b)).length ≤ 32 := by
  rw [mk_len]
  unfold tailL
  split
  · simp
  · rw [List.length_cons]
    have := dgs_le (n := b.natAbs) (by omega)
    omega
theorem str_nat {i : Int} (h0 : 0 ≤ i) (h : i ≤ 10 ^ 30) : strC [.int i] = some (.str (numT i.toNat)) := by
  show (if i.natAbs.log2 < 1920 then some (D.str (toString i)) else none) = _
  rw [if_pos (by have := log_small (i := i) (by omega) (by omega); omega)]
  obtain ⟨n, rfl⟩ := Int.eq_ofNat_of_zero_le h0
  rw [toStr_nat]
  rfl
theorem fmt_nat {i : Int} (h0 : 0 ≤ i) (h : i ≤ 10 ^ 30) : fmtD (.int i) = some (.str (numT i.toNat)) := by
  show (if i.natAbs.log2 < 1920 then some (D.str (toString i)) else none) = _
  rw [if_pos (by have := log_small (i := i) (by omega) (by omega); omega)]
  obtain ⟨n, rfl⟩ := Int.eq_ofNat_of_zero_le h0
  rw [toStr_nat]
  rfl
theorem cnt_ok {a b : Int} (o : Ok a b) : isCnt (.tup [.int a, .int b]) = true := cnt_of o.a0 o.a9 o.b0 o.bl o.bu
theorem ok_cnt {a b : Int} (h : isCnt (.tup [.int a, .int b]) = true) : Ok a b := by
  obtain ⟨a', b', e, h1, h2, h3, h4, h5⟩ := isCnt_pair h
  cases e
  exact ⟨h1, h2, h3, h4, h5⟩
theorem format_ok {a b : Int} (o : Ok a b) (s : Jr) : F_format_count [.tup [.int a, .int b]] s = .ok (.str (cntT a b)) s := by
  have hc := check_count_ask (d := .tup [.int a, .int b]) ⟨trivial, trivial⟩ s
  rw [if_pos (cnt_ok o)] at hc
  obtain ⟨a0, a9, b0, bl, bu⟩ := o
  by_cases ha : a = 0
  · have hs := str_nat (b0 ha) bu
    rw [cnt_a0 ha]
    have q1 : eqX (.int a) (.int 0) = some (.bl true) := by rw [eq_ii, decide_eq_true ha]
    simp [fn_ap, then_ap, thenL_ap, seq_ap, iff_ap, skip_ap, opt_some, andV, orV, notV, chS, asB, andS, orS, notS, ifS, callS, consS, tupS, lstS, giveS, op1, op2, op2L, cbS, cbL, ixS, ix_t, ix_l, ix_s, ix_j, ix_c, slS, soP, noP, op1s, op2s, bind_ap, map_ap, ofO_some, var_ap, c_ap, nil_ap, ite_ap, iteS_ap, le_ii, lt_ii, gt_ii, ge_ii, add_ii, sub_ii, neg_i, len_t, len_l, str_s, lst_l, tup_t, int_i, one_1, int_of_i, isN_int, isN_non, isN_tup, isN_str, isN_bl, isN_lst, F_format_count, b_format_count, unS, setsS, guardO, hc, q1, hs]
  · have q1 : eqX (.int a) (.int 0) = some (.bl false) := by rw [eq_ii, decide_eq_false ha]
    have hf := fmt_nat a0 (by omega)
    have hl := head_len a9
    have hJ1 : jsS [op1 fmtD (varS 1), cS (.str "n")] Str.empty [.dat (.tup [.int a, .int b]), .dat (.int a), .dat (.int b), .no] s = .ok (.str (numT a.toNat ++ "n")) s :=
      js2 (by simp [fn_ap, then_ap, thenL_ap, seq_ap, iff_ap, skip_ap, opt_some, andV, orV, notV, chS, asB, andS, orS, notS, ifS, callS, consS, tupS, lstS, giveS, op1, op2, op2L, cbS, cbL, ixS, ix_t, ix_l, ix_s, ix_j, ix_c, slS, soP, noP, op1s, op2s, bind_ap, map_ap, ofO_some, var_ap, c_ap, nil_ap, ite_ap, iteS_ap, le_ii, lt_ii, gt_ii, ge_ii, add_ii, sub_ii, neg_i, len_t, len_l, str_s, lst_l, tup_t, int_i, one_1, int_of_i, isN_int, isN_non, isN_tup, isN_str, isN_bl, isN_lst, hf]) rfl (by have := num_len (n := a.toNat) (by omega); have e : ("n" : Str).length = 1 := rfl; omega)
    have hJ2 : b ≠ 0 → ∀ h : Str, h.length ≤ 32 → jsS [op1 fmtD (varS 3), op1 plusD (varS 2)] Str.empty [.dat (.tup [.int a, .int b]), .dat (.int a), .dat (.int b), .dat (.str h)] s = .ok (.str (h ++ mk (tailL b))) s := fun hb h hh => by
      have t := tail_len bl bu
      have f1 : fmtD (.str h) = some (.str h) := if_pos (by omega)
      have f2 : plusD (.int b) = some (.str (mk (tailL b))) := by
        rw [← plus_tail hb] at t ⊢
        exact if_pos ⟨by have := log_small (i := b) (by omega) (by omega); omega, by omega⟩
      exact js2 (by simp [fn_ap, then_ap, thenL_ap, seq_ap, iff_ap, skip_ap, opt_some, andV, orV, notV, chS, asB, andS, orS, notS, ifS, callS, consS, tupS, lstS, giveS, op1, op2, op2L, cbS, cbL, ixS, ix_t, ix_l, ix_s, ix_j, ix_c, slS, soP, noP, op1s, op2s, bind_ap, map_ap, ofO_some, var_ap, c_ap, nil_ap, ite_ap, iteS_ap, le_ii, lt_ii, gt_ii, ge_ii, add_ii, sub_ii, neg_i, len_t, len_l, str_s, lst_l, tup_t, int_i, one_1, int_of_i, isN_int, isN_non, isN_tup, isN_str, isN_bl, isN_lst, f1]) (by simp [fn_ap, then_ap, thenL_ap, seq_ap, iff_ap, skip_ap, opt_some, andV, orV, notV, chS, asB, andS, orS, notS, ifS, callS, consS, tupS, lstS, giveS, op1, op2, op2L, cbS, cbL, ixS, ix_t, ix_l, ix_s, ix_j, ix_c, slS, soP, noP, op1s, op2s, bind_ap, map_ap, ofO_some, var_ap, c_ap, nil_ap, ite_ap, iteS_ap, le_ii, lt_ii, gt_ii, ge_ii, add_ii, sub_ii, neg_i, len_t, len_l, str_s, lst_l, tup_t, int_i, one_1, int_of_i, isN_int, isN_non, isN_tup, isN_str, isN_bl, isN_lst, f2]) (by omega)
    simp only [op1] at hJ1 hJ2
    by_cases hb : b = 0
    · rw [cnt_b0 ha hb]
      have q3 : eqX (.int b) (.int 0) = some (.bl true) := by rw [eq_ii, decide_eq_true hb]
      by_cases h1 : a = 1
      · rw [head_1 h1]
        have q2 : eqX (.int a) (.int 1) = some (.bl true) := by rw [eq_ii, decide_eq_true h1]
        simp [fn_ap, then_ap, thenL_ap, seq_ap, iff_ap, skip_ap, opt_some, andV, orV, notV, chS, asB, andS, orS, notS, ifS, callS, consS, tupS, lstS, giveS, op1, op2, op2L, cbS, cbL, ixS, ix_t, ix_l, ix_s, ix_j, ix_c, slS, soP, noP, op1s, op2s, bind_ap, map_ap, ofO_some, var_ap, c_ap, nil_ap, ite_ap, iteS_ap, le_ii, lt_ii, gt_ii, ge_ii, add_ii, sub_ii, neg_i, len_t, len_l, str_s, lst_l, tup_t, int_i, one_1, int_of_i, isN_int, isN_non, isN_tup, isN_str, isN_bl, isN_lst, F_format_count, b_format_count, unS, setsS, guardO, hc, q1, q2, q3]
      · rw [head_2 h1]
        have q2 : eqX (.int a) (.int 1) = some (.bl false) := by rw [eq_ii, decide_eq_false h1]
        simp [fn_ap, then_ap, thenL_ap, seq_ap, iff_ap, skip_ap, opt_some, andV, orV, notV, chS, asB, andS, orS, notS, ifS, callS, consS, tupS, lstS, giveS, op1, op2, op2L, cbS, cbL, ixS, ix_t, ix_l, ix_s, ix_j, ix_c, slS, soP, noP, op1s, op2s, bind_ap, map_ap, ofO_some, var_ap, c_ap, nil_ap, ite_ap, iteS_ap, le_ii, lt_ii, gt_ii, ge_ii, add_ii, sub_ii, neg_i, len_t, len_l, str_s, lst_l, tup_t, int_i, one_1, int_of_i, isN_int, isN_non, isN_tup, isN_str, isN_bl, isN_lst, F_format_count, b_format_count, unS, setsS, guardO, hc, q1, q2, q3, hJ1]
    · rw [cnt_ne ha]
      have q3 : eqX (.int b) (.int 0) = some (.bl false) := by rw [eq_ii, decide_eq_false hb]
      by_cases h1 : a = 1
      · rw [head_1 h1]
        rw [head_1 h1] at hl
        have q2 : eqX (.int a) (.int 1) = some (.bl true) := by rw [eq_ii, decide_eq_true h1]
        simp [fn_ap, then_ap, thenL_ap, seq_ap, iff_ap, skip_ap, opt_some, andV, orV, notV, chS, asB, andS, orS, notS, ifS, callS, consS, tupS, lstS, giveS, op1, op2, op2L, cbS, cbL, ixS, ix_t, ix_l, ix_s, ix_j, ix_c, slS, soP, noP, op1s, op2s, bind_ap, map_ap, ofO_some, var_ap, c_ap, nil_ap, ite_ap, iteS_ap, le_ii, lt_ii, gt_ii, ge_ii, add_ii, sub_ii, neg_i, len_t, len_l, str_s, lst_l, tup_t, int_i, one_1, int_of_i, isN_int, isN_non, isN_tup, isN_str, isN_bl, isN_lst, F_format_count, b_format_count, unS, setsS, guardO, hc, q1, q2, q3, hJ2 hb _ hl]
      · rw [head_2 h1]
        rw [head_2 h1] at hl
        have q2 : eqX (.int a) (.int 1) = some (.bl false) := by rw [eq_ii, decide_eq_false h1]
        simp [fn_ap, then_ap, thenL_ap, seq_ap, iff_ap, skip_ap, opt_some, andV, orV, notV, chS, asB, andS, orS, notS, ifS, callS, consS, tupS, lstS, giveS, op1, op2, op2L, cbS, cbL, ixS, ix_t, ix_l, ix_s, ix_j, ix_c, slS, soP, noP, op1s, op2s, bind_ap, map_ap, ofO_some, var_ap, c_ap, nil_ap, ite_ap, iteS_ap, le_ii, lt_ii, gt_ii, ge_ii, add_ii, sub_ii, neg_i, len_t, len_l, str_s, lst_l, tup_t, int_i, one_1, int_of_i, isN_int, isN_non, isN_tup, isN_str, isN_bl, isN_lst, F_format_count, b_format_count, unS, setsS, guardO, hc, q1, q2, q3, hJ1, hJ2 hb _ hl]
theorem format_no {d : D} (h : Ask d) (hd : isCnt d = false) (s : Jr) : F_format_count [d] s = .exc 2 d s := by
  simp [fn_ap, then_ap, thenL_ap, seq_ap, iff_ap, skip_ap, opt_some, andV, orV, notV, chS, asB, andS, orS, notS, ifS, callS, consS, tupS, lstS, giveS, op1, op2, op2L, cbS, cbL, ixS, ix_t, ix_l, ix_s, ix_j, ix_c, slS, soP, noP, op1s, op2s, bind_ap, map_ap, ofO_some, var_ap, c_ap, nil_ap, ite_ap, iteS_ap, le_ii, lt_ii, gt_ii, ge_ii, add_ii, sub_ii, neg_i, len_t, len_l, str_s, lst_l, tup_t, int_i, one_1, int_of_i, isN_int, isN_non, isN_tup, isN_str, isN_bl, isN_lst, F_format_count, b_format_count, check_count_ask h, hd]
theorem abs_nat (b : Int) : absC [.int b] = some (.int (b.natAbs : Int)) := by
  show some (D.int (if b < 0 then -b else b)) = _
  congr 2
  split <;> omega
theorem text_ok {a b : Int} (o : Ok a b) (s : Jr) : F__law_ra_count_text [.tup [.int a, .int b]] s = .ok (.str (cntT a b)) s := by
  obtain ⟨a0, a9, b0, bl, bu⟩ := o
  by_cases ha : a = 0
  · have hs := str_nat (b0 ha) bu
    rw [cnt_a0 ha]
    have q1 : eqX (.int a) (.int 0) = some (.bl true) := by rw [eq_ii, decide_eq_true ha]
    simp [fn_ap, then_ap, thenL_ap, seq_ap, iff_ap, skip_ap, opt_some, andV, orV, notV, chS, asB, andS, orS, notS, ifS, callS, consS, tupS, lstS, giveS, op1, op2, op2L, cbS, cbL, ixS, ix_t, ix_l, ix_s, ix_j, ix_c, slS, soP, noP, op1s, op2s, bind_ap, map_ap, ofO_some, var_ap, c_ap, nil_ap, ite_ap, iteS_ap, le_ii, lt_ii, gt_ii, ge_ii, add_ii, sub_ii, neg_i, len_t, len_l, str_s, lst_l, tup_t, int_i, one_1, int_of_i, isN_int, isN_non, isN_tup, isN_str, isN_bl, isN_lst, F__law_ra_count_text, b__law_ra_count_text, unS, setsS, guardO, q1, hs]
  · have q1 : eqX (.int a) (.int 0) = some (.bl false) := by rw [eq_ii, decide_eq_false ha]
    have hs := str_nat a0 (by omega)
    have hl := head_len a9
    have hn := num_len (n := a.toNat) (by omega)
    have e : ("n" : Str).length = 1 := rfl
    have ad : addD (.str (numT a.toNat)) (.str "n") = some (.str (numT a.toNat ++ "n")) := add_ss (by omega)
    by_cases hb : b = 0
    · rw [cnt_b0 ha hb]
      have q3 : eqX (.int b) (.int 0) = some (.bl true) := by rw [eq_ii, decide_eq_true hb]
      by_cases h1 : a = 1
      · rw [head_1 h1]
        have q2 : eqX (.int a) (.int 1) = some (.bl true) := by rw [eq_ii, decide_eq_true h1]
        simp [fn_ap, then_ap, thenL_ap, seq_ap, iff_ap, skip_ap, opt_some, andV, orV, notV, chS, asB, andS, orS, notS, ifS, callS, consS, tupS, lstS, giveS, op1, op2, op2L, cbS, cbL, ixS, ix_t, ix_l, ix_s, ix_j, ix_c, slS, soP, noP, op1s, op2s, bind_ap, map_ap, ofO_some, var_ap, c_ap, nil_ap, ite_ap, iteS_ap, le_ii, lt_ii, gt_ii, ge_ii, add_ii, sub_ii, neg_i, len_t, len_l, str_s, lst_l, tup_t, int_i, one_1, int_of_i, isN_int, isN_non, isN_tup, isN_str, isN_bl, isN_lst, F__law_ra_count_text, b__law_ra_count_text, unS, setsS, guardO, q1, q2, q3]
      · rw [head_2 h1]
        have q2 : eqX (.int a) (.int 1) = some (.bl false) := by rw [eq_ii, decide_eq_false h1]
        simp [fn_ap, then_ap, thenL_ap, seq_ap, iff_ap, skip_ap, opt_some, andV, orV, notV, chS, asB, andS, orS, notS, ifS, callS, consS, tupS, lstS, giveS, op1, op2, op2L, cbS, cbL, ixS, ix_t, ix_l, ix_s, ix_j, ix_c, slS, soP, noP, op1s, op2s, bind_ap, map_ap, ofO_some, var_ap, c_ap, nil_ap, ite_ap, iteS_ap, le_ii, lt_ii, gt_ii, ge_ii, add_ii, sub_ii, neg_i, len_t, len_l, str_s, lst_l, tup_t, int_i, one_1, int_of_i, isN_int, isN_non, isN_tup, isN_str, isN_bl, isN_lst, F__law_ra_count_text, b__law_ra_count_text, unS, setsS, guardO, q1, q2, q3, hs, ad]
    · have q3 : eqX (.int b) (.int 0) = some (.bl false) := by rw [eq_ii, decide_eq_false hb]
      have hab := abs_nat b
      have hsb : strC [.int (b.natAbs : Int)] = some (.str (numT b.natAbs)) := str_nat (by omega) (by omega)
      have hnb := num_len (n := b.natAbs) (by omega)
      have fin : cntT a b = headS a ++ (if 0 < b then ("+" : Str) else "-") ++ numT b.natAbs := by
        rw [cnt_ne ha, tail_sign hb]
        exact str_assoc _ _ _
      rw [fin]
      have e1 : (("+" : Str)).length = 1 := rfl
      have e2 : (("-" : Str)).length = 1 := rfl
      have ad2 : ∀ h : Str, h.length ≤ 32 → addD (.str h) (.str "+") = some (.str (h ++ "+")) := fun h hh => add_ss (by omega)
      have ad3 : ∀ h : Str, h.length ≤ 32 → addD (.str h) (.str "-") = some (.str (h ++ "-")) := fun h hh => add_ss (by omega)
      have ad4 : ∀ h : Str, h.length ≤ 33 → addD (.str h) (.str (numT b.natAbs)) = some (.str (h ++ numT b.natAbs)) := fun h hh => add_ss (by omega)
      generalize numT b.natAbs = nb at *
      by_cases hp : 0 < b
      · rw [if_pos hp]
        by_cases h1 : a = 1
        · rw [head_1 h1] at hl ⊢
          have q2 : eqX (.int a) (.int 1) = some (.bl true) := by rw [eq_ii, decide_eq_true h1]
          simp [fn_ap, then_ap, thenL_ap, seq_ap, iff_ap, skip_ap, opt_some, andV, orV, notV, chS, asB, andS, orS, notS, ifS, callS, consS, tupS, lstS, giveS, op1, op2, op2L, cbS, cbL, ixS, ix_t, ix_l, ix_s, ix_j, ix_c, slS, soP, noP, op1s, op2s, bind_ap, map_ap, ofO_some, var_ap, c_ap, nil_ap, ite_ap, iteS_ap, le_ii, lt_ii, gt_ii, ge_ii, add_ii, sub_ii, neg_i, len_t, len_l, str_s, lst_l, tup_t, int_i, one_1, int_of_i, isN_int, isN_non, isN_tup, isN_str, isN_bl, isN_lst, F__law_ra_count_text, b__law_ra_count_text, unS, setsS, guardO, q1, q2, q3, hp, hab, hsb, ad2 _ hl, ad4 _ (show ("n" ++ "+" : Str).length ≤ 33 by rw [app_len]; omega)]
        · rw [head_2 h1] at hl ⊢
          have q2 : eqX (.int a) (.int 1) = some (.bl false) := by rw [eq_ii, decide_eq_false h1]
          simp [fn_ap, then_ap, thenL_ap, seq_ap, iff_ap, skip_ap, opt_some, andV, orV, notV, chS, asB, andS, orS, notS, ifS, callS, consS, tupS, lstS, giveS, op1, op2, op2L, cbS, cbL, ixS, ix_t, ix_l, ix_s, ix_j, ix_c, slS, soP, noP, op1s, op2s, bind_ap, map_ap, ofO_some, var_ap, c_ap, nil_ap, ite_ap, iteS_ap, le_ii, lt_ii, gt_ii, ge_ii, add_ii, sub_ii, neg_i, len_t, len_l, str_s, lst_l, tup_t, int_i, one_1, int_of_i, isN_int, isN_non, isN_tup, isN_str, isN_bl, isN_lst, F__law_ra_count_text, b__law_ra_count_text, unS, setsS, guardO, q1, q2, q3, hs, ad, hp, hab, hsb, ad2 _ hl, ad4 _ (show (numT a.toNat ++ "n" ++ "+" : Str).length ≤ 33 by rw [app_len]; omega)]
      · rw [if_neg hp]
        by_cases h1 : a = 1
        · rw [head_1 h1] at hl ⊢
          have q2 : eqX (.int a) (.int 1) = some (.bl true) := by rw [eq_ii, decide_eq_true h1]
          simp [fn_ap, then_ap, thenL_ap, seq_ap, iff_ap, skip_ap, opt_some, andV, orV, notV, chS, asB, andS, orS, notS, ifS, callS, consS, tupS, lstS, giveS, op1, op2, op2L, cbS, cbL, ixS, ix_t, ix_l, ix_s, ix_j, ix_c, slS, soP, noP, op1s, op2s, bind_ap, map_ap, ofO_some, var_ap, c_ap, nil_ap, ite_ap, iteS_ap, le_ii, lt_ii, gt_ii, ge_ii, add_ii, sub_ii, neg_i, len_t, len_l, str_s, lst_l, tup_t, int_i, one_1, int_of_i, isN_int, isN_non, isN_tup, isN_str, isN_bl, isN_lst, F__law_ra_count_text, b__law_ra_count_text, unS, setsS, guardO, q1, q2, q3, hp, hab, hsb, ad3 _ hl, ad4 _ (show ("n" ++ "-" : Str).length ≤ 33 by rw [app_len]; omega)]
        · rw [head_2 h1] at hl ⊢
          have q2 : eqX (.int a) (.int 1) = some (.bl false) := by rw [eq_ii, decide_eq_false h1]
          simp [fn_ap, then_ap, thenL_ap, seq_ap, iff_ap, skip_ap, opt_some, andV, orV, notV, chS, asB, andS, orS, notS, ifS, callS, consS, tupS, lstS, giveS, op1, op2, op2L, cbS, cbL, ixS, ix_t, ix_l, ix_s, ix_j, ix_c, slS, soP, noP, op1s, op2s, bind_ap, map_ap, ofO_some, var_ap, c_ap, nil_ap, ite_ap, iteS_ap, le_ii, lt_ii, gt_ii, ge_ii, add_ii, sub_ii, neg_i, len_t, len_l, str_s, lst_l, tup_t, int_i, one_1, int_of_i, isN_int, isN_non, isN_tup, isN_str, isN_bl, isN_lst, F__law_ra_count_text, b__law_ra_count_text, unS, setsS, guardO, q1, q2, q3, hs, ad, hp, hab, hsb, ad3 _ hl, ad4 _ (show (numT a.toNat ++ "n" ++ "-" : Str).length ≤ 33 by rw [app_len]; omega)]
end Pr
end DL

namespace DL
open PySem PySem.Spec PyProof.Rows L2 PySem.NumText
namespace Pr
/-! ## the jar -/
structure JOk (n : Int) (s : Jr) : Prop where
  d0 : 0 ≤ s.d
  s0 : 0 ≤ s.s
  s1 : s.s < 2147483648
  c0 : 0 ≤ s.c
  c1 : s.c ≤ n
theorem JOk.up {n m : Int} {s : Jr} (h : JOk n s) (l : n ≤ m) : JOk m s := ⟨h.d0, h.s0, h.s1, h.c0, by have := h.c1; omega⟩
theorem jix0 (s : Jr) : atI (jlM s) 0 = some s.d := rfl
theorem jix1 (s : Jr) : atI (jlM s) 1 = some s.s := rfl
theorem jix2 (s : Jr) : atI (jlM s) 2 = some s.c := rfl
theorem jset0 (s : Jr) (z : Int) : ((ixN (jlM s).length 0).bind fun k => jsM s k z) = some { s with d := z } := rfl
theorem jset1 (s : Jr) (z : Int) : ((ixN (jlM s).length 1).bind fun k => jsM s k z) = some { s with s := z } := rfl
theorem jset2 (s : Jr) (z : Int) : ((ixN (jlM s).length 2).bind fun k => jsM s k z) = some { s with c := z } := rfl
theorem mod_a (a : Int) : modD (.int a) (.int 2147483647) = some (.int (a % 2147483647)) := mod_ii (by decide)
theorem mod_b (a : Int) : modD (.int a) (.int 2147483629) = some (.int (a % 2147483629)) := mod_ii (by decide)
theorem fdv_ii {a b : Int} (h : 0 < b ∧ b.natAbs.log2 < 9000) : fdvD (.int a) (.int b) = some (.int (a / b)) := if_pos h
theorem fdv_32 (a : Int) : fdvD (.int a) (.int 32) = some (.int (a / 32)) := fdv_ii (by decide)
theorem mul_ii {a b : Int} (h1 : a.natAbs < 2 ^ 5000) (h2 : b.natAbs < 2 ^ 5000) : mulD (.int a) (.int b) = some (.int (a * b)) := by
  have l : ∀ n : Nat, n < 2 ^ 5000 → n.log2 < 5000 := fun n h => by
    by_cases hz : n = 0
    · rw [hz]; decide
    · exact (Nat.log2_lt hz).mpr h
  have := l _ h1
  have := l _ h2
  exact if_pos (by omega)
theorem big_p : (10 : Nat) ^ 100 < 2 ^ 5000 := by decide +kernel
theorem sm {a : Int} (h : a.natAbs ≤ 10 ^ 100) : a.natAbs < 2 ^ 5000 := Nat.lt_of_le_of_lt h big_p
theorem jar_s (j : D) : jar? .jar = some () := rfl
theorem take_ok {n m : Int} {s : Jr} (h : JOk n s) (hm : 1 ≤ m) (hm2 : m ≤ 10 ^ 40) (hn : n ≤ 10 ^ 9) : ∃ (r : Int) (s' : Jr), F__law_take [.jar, .int m] s = .ok (.int r) s' ∧ 0 ≤ r ∧ r < m ∧ JOk (n + 1) s' := by
  obtain ⟨d0, s0, s1, c0, c1⟩ := h
  have hmod : ∀ a : Int, modD (.int a) (.int m) = some (.int (a % m)) := fun a => mod_ii (by omega)
  have hdiv : ∀ a : Int, fdvD (.int a) (.int m) = some (.int (a / m)) := fun a => if_pos ⟨by omega, by
    have := log_small (i := m) (by omega) (by omega)
    omega⟩
  by_cases hd : 0 < s.d
  · refine ⟨s.d % m, { s with d := s.d / m }, ?_, Int.emod_nonneg _ (by omega), Int.emod_lt_of_pos _ (by omega), ⟨Int.ediv_nonneg d0 (by omega), s0, s1, c0, by show s.c ≤ n + 1; omega⟩⟩
    simp [fn_ap, then_ap, thenL_ap, seq_ap, iff_ap, skip_ap, opt_some, andV, orV, notV, chS, asB, andS, orS, notS, ifS, callS, consS, tupS, lstS, giveS, op1, op2, op2L, cbS, cbL, ixS, ix_t, ix_l, ix_s, ix_j, ix_c, slS, soP, noP, op1s, op2s, bind_ap, map_ap, ofO_some, var_ap, c_ap, nil_ap, ite_ap, iteS_ap, le_ii, lt_ii, gt_ii, ge_ii, add_ii, sub_ii, neg_i, len_t, len_l, str_s, lst_l, tup_t, int_i, one_1, int_of_i, isN_int, isN_non, isN_tup, isN_str, isN_bl, isN_lst, F__law_take, b__law_take, setJ, jar_s D.non, jix0, jset0, hd, hmod, hdiv]
  · have m1 : mulD (.int s.s) (.int 39373) = some (.int (s.s * 39373)) := mul_ii (sm (by omega)) (sm (by omega))
    have m2 : mulD (.int 7919) (.int (s.c + 1)) = some (.int (7919 * (s.c + 1))) := mul_ii (sm (by omega)) (sm (by omega))
    have hz0 := Int.emod_nonneg (s.s * 39373 + 7919 * (s.c + 1) + 7) (show (2147483647 : Int) ≠ 0 by decide)
    have hz1 := Int.emod_lt_of_pos (s.s * 39373 + 7919 * (s.c + 1) + 7) (show (0 : Int) < 2147483647 by decide)
    have m3 : mulD (.int ((s.s * 39373 + 7919 * (s.c + 1) + 7) % 2147483647)) (.int ((s.s * 39373 + 7919 * (s.c + 1) + 7) % 2147483647)) = some (.int ((s.s * 39373 + 7919 * (s.c + 1) + 7) % 2147483647 * ((s.s * 39373 + 7919 * (s.c + 1) + 7) % 2147483647))) := mul_ii (sm (by omega)) (sm (by omega))
    generalize hz : (s.s * 39373 + 7919 * (s.c + 1) + 7) % 2147483647 = z at *
    refine ⟨z * z % 2147483629 / 32 % m, { s with c := s.c + 1, s := z }, ?_, Int.emod_nonneg _ (by omega), Int.emod_lt_of_pos _ (by omega), ⟨d0, hz0, by show z < _; omega, by show 0 ≤ s.c + 1; omega, by show s.c + 1 ≤ n + 1; omega⟩⟩
    simp [fn_ap, then_ap, thenL_ap, seq_ap, iff_ap, skip_ap, opt_some, andV, orV, notV, chS, asB, andS, orS, notS, ifS, callS, consS, tupS, lstS, giveS, op1, op2, op2L, cbS, cbL, ixS, ix_t, ix_l, ix_s, ix_j, ix_c, slS, soP, noP, op1s, op2s, bind_ap, map_ap, ofO_some, var_ap, c_ap, nil_ap, ite_ap, iteS_ap, le_ii, lt_ii, gt_ii, ge_ii, add_ii, sub_ii, neg_i, len_t, len_l, str_s, lst_l, tup_t, int_i, one_1, int_of_i, isN_int, isN_non, isN_tup, isN_str, isN_bl, isN_lst, F__law_take, b__law_take, setJ, jar_s D.non, jix0, jix1, jix2, jset0, jset1, jset2, hd, hmod, mod_a, mod_b, fdv_32, m1, m2, hz, m3]
theorem at_int {ds : List D} {r : Int} (h0 : 0 ≤ r) (h1 : r < ds.length) : ∃ d ∈ ds, atI ds r = some d := by
  obtain ⟨k, rfl⟩ := Int.eq_ofNat_of_zero_le h0
  have hk : k < ds.length := by omega
  exact ⟨ds[k], List.getElem_mem hk, at_nat hk⟩
theorem one_ok {n : Int} {s : Jr} {ds : List D} (h : JOk n s) (hn : n ≤ 10 ^ 9) (h1 : 1 ≤ ds.length) (h2 : ds.length ≤ 1000) : ∃ d ∈ ds, ∃ s', F__law_one [.jar, .lst ds] s = .ok d s' ∧ JOk (n + 1) s' := by
  obtain ⟨r, s', e, r0, r1, j⟩ := take_ok (m := ds.length) h (by omega) (by omega) hn
  obtain ⟨d, hd, ha⟩ := at_int r0 r1
  have hx : ixD (.lst ds) (.int r) = some d := ha
  refine ⟨d, hd, s', ?_, j⟩
  simp [fn_ap, then_ap, thenL_ap, seq_ap, iff_ap, skip_ap, opt_some, andV, orV, notV, chS, asB, andS, orS, notS, ifS, callS, consS, tupS, lstS, giveS, op1, op2, op2L, cbS, cbL, ixS, ix_t, ix_l, ix_s, ix_j, ix_c, slS, soP, noP, op1s, op2s, bind_ap, map_ap, ofO_some, var_ap, c_ap, nil_ap, ite_ap, iteS_ap, le_ii, lt_ii, gt_ii, ge_ii, add_ii, sub_ii, neg_i, len_t, len_l, str_s, lst_l, tup_t, int_i, one_1, int_of_i, isN_int, isN_non, isN_tup, isN_str, isN_bl, isN_lst, F__law_one, b__law_one, e, hx]
theorem pow_30 : powD (.int 10) (.int 30) = some (.int (10 ^ 30)) := rfl
theorem count_ok {n : Int} {s : Jr} (h : JOk n s) (hn : n ≤ 10 ^ 8) : ∃ (a b : Int) (s' : Jr), F__law_count [.jar] s = .ok (.tup [.int a, .int b]) s' ∧ Ok a b ∧ JOk (n + 6) s' := by
  obtain ⟨a, t1, e1, a0, a1, j1⟩ := take_ok (m := 10) h (by decide) (by decide) (by omega)
  obtain ⟨so, t2, e2, q0, q1, j2⟩ := take_ok (m := 5) j1 (by decide) (by decide) (by omega)
  obtain ⟨x1, t3, e3, x0, x2, j3⟩ := take_ok (m := 4) j2 (by decide) (by decide) (by omega)
  obtain ⟨y1, t4, e4, y0, y2, j4⟩ := take_ok (m := 3) j3 (by decide) (by decide) (by omega)
  obtain ⟨z1, t5, e5, z0, z2, j5⟩ := take_ok (m := 10 ^ 30) j4 (by decide) (by decide) (by omega)
  obtain ⟨d, hd, ha⟩ := at_int (ds := [.int x1, .int (10 ^ 30), .int (10 ^ 30 - y1), .int z1, .int 0]) (r := so) q0 (by simpa using q1)
  have hb : ∃ b, d = .int b ∧ 0 ≤ b ∧ b ≤ 10 ^ 30 := by
    simp only [List.mem_cons, List.not_mem_nil, or_false] at hd
    rcases hd with rfl | rfl | rfl | rfl | rfl
    · exact ⟨_, rfl, x0, by omega⟩
    · exact ⟨_, rfl, by decide, by decide⟩
    · exact ⟨_, rfl, by omega, by omega⟩
    · exact ⟨_, rfl, z0, by omega⟩
    · exact ⟨_, rfl, by decide, by decide⟩
  obtain ⟨b, rfl, b0, b1⟩ := hb
  have hx : ixD (.lst [.int x1, .int (10 ^ 30), .int (10 ^ 30 - y1), .int z1, .int 0]) (.int so) = some (.int b) := ha
  have e5' : F__law_take [.jar, .int 1000000000000000000000000000000] t4 = .ok (.int z1) t5 := e5
  have hx' : ixD (.lst [.int x1, .int 1000000000000000000000000000000, .int (1000000000000000000000000000000 - y1), .int z1, .int 0]) (.int so) = some (.int b) := hx
  by_cases ha0 : a = 0
  · have g1 : eqX (.int a) (.int 0) = some (.bl true) := by rw [eq_ii, decide_eq_true ha0]
    refine ⟨a, b, t5, ?_, ⟨a0, by omega, fun _ => b0, by omega, b1⟩, j5.up (by omega)⟩
    simp [fn_ap, then_ap, thenL_ap, seq_ap, iff_ap, skip_ap, opt_some, andV, orV, notV, chS, asB, andS, orS, notS, ifS, callS, consS, tupS, lstS, giveS, op1, op2, op2L, cbS, cbL, ixS, ix_t, ix_l, ix_s, ix_j, ix_c, slS, soP, noP, op1s, op2s, bind_ap, map_ap, ofO_some, var_ap, c_ap, nil_ap, ite_ap, iteS_ap, le_ii, lt_ii, gt_ii, ge_ii, add_ii, sub_ii, neg_i, len_t, len_l, str_s, lst_l, tup_t, int_i, one_1, int_of_i, isN_int, isN_non, isN_tup, isN_str, isN_bl, isN_lst, F__law_count, b__law_count, parS, setsS, guardO, e1, e2, e3, e4, pow_30, e5', hx', g1]
  · have g1 : eqX (.int a) (.int 0) = some (.bl false) := by rw [eq_ii, decide_eq_false ha0]
    obtain ⟨w, t6, e6, w0, w1, j6⟩ := take_ok (m := 2) j5 (by decide) (by decide) (by omega)
    by_cases hw : w = 0
    · have g2 : eqX (.int w) (.int 0) = some (.bl true) := by rw [eq_ii, decide_eq_true hw]
      refine ⟨a, b, t6, ?_, ⟨a0, by omega, fun z => absurd z ha0, by omega, b1⟩, j6.up (by omega)⟩
      simp [fn_ap, then_ap, thenL_ap, seq_ap, iff_ap, skip_ap, opt_some, andV, orV, notV, chS, asB, andS, orS, notS, ifS, callS, consS, tupS, lstS, giveS, op1, op2, op2L, cbS, cbL, ixS, ix_t, ix_l, ix_s, ix_j, ix_c, slS, soP, noP, op1s, op2s, bind_ap, map_ap, ofO_some, var_ap, c_ap, nil_ap, ite_ap, iteS_ap, le_ii, lt_ii, gt_ii, ge_ii, add_ii, sub_ii, neg_i, len_t, len_l, str_s, lst_l, tup_t, int_i, one_1, int_of_i, isN_int, isN_non, isN_tup, isN_str, isN_bl, isN_lst, F__law_count, b__law_count, parS, setsS, guardO, e1, e2, e3, e4, pow_30, e5', hx', g1, e6, g2]
    · have g2 : eqX (.int w) (.int 0) = some (.bl false) := by rw [eq_ii, decide_eq_false hw]
      refine ⟨a, -b, t6, ?_, ⟨a0, by omega, fun z => absurd z ha0, by omega, by omega⟩, j6.up (by omega)⟩
      simp [fn_ap, then_ap, thenL_ap, seq_ap, iff_ap, skip_ap, opt_some, andV, orV, notV, chS, asB, andS, orS, notS, ifS, callS, consS, tupS, lstS, giveS, op1, op2, op2L, cbS, cbL, ixS, ix_t, ix_l, ix_s, ix_j, ix_c, slS, soP, noP, op1s, op2s, bind_ap, map_ap, ofO_some, var_ap, c_ap, nil_ap, ite_ap, iteS_ap, le_ii, lt_ii, gt_ii, ge_ii, add_ii, sub_ii, neg_i, len_t, len_l, str_s, lst_l, tup_t, int_i, one_1, int_of_i, isN_int, isN_non, isN_tup, isN_str, isN_bl, isN_lst, F__law_count, b__law_count, parS, setsS, guardO, e1, e2, e3, e4, pow_30, e5', hx', g1, e6, g2]
theorem number_ok {n : Int} {s : Jr} (h : JOk n s) (hn : n ≤ 10 ^ 8) : ∃ (v : Int) (s' : Jr), F__law_number [.jar] s = .ok (.int v) s' ∧ btw (.int v) 0 (10 ^ 30) = true ∧ JOk (n + 3) s' := by
  obtain ⟨x1, t1, e1, x0, x2, j1⟩ := take_ok (m := 40) h (by decide) (by decide) (by omega)
  obtain ⟨z1, t2, e2, z0, z2, j2⟩ := take_ok (m := 10 ^ 30) j1 (by decide) (by decide) (by omega)
  obtain ⟨d, hd, t3, e3, j3⟩ := one_ok (ds := [.int 0, .int 1, .int 2, .int x1, .int (10 ^ 30), .int (10 ^ 30 - 1), .int z1]) j2 (by omega) (by simp) (by simp)
  have hb : ∃ b, d = .int b ∧ 0 ≤ b ∧ b ≤ 10 ^ 30 := by
    simp only [List.mem_cons, List.not_mem_nil, or_false] at hd
    rcases hd with rfl | rfl | rfl | rfl | rfl | rfl | rfl
    · exact ⟨_, rfl, by decide, by decide⟩
    · exact ⟨_, rfl, by decide, by decide⟩
    · exact ⟨_, rfl, by decide, by decide⟩
    · exact ⟨_, rfl, x0, by omega⟩
    · exact ⟨_, rfl, by decide, by decide⟩
    · exact ⟨_, rfl, by decide, by decide⟩
    · exact ⟨_, rfl, z0, by omega⟩
  obtain ⟨b, rfl, b0, b1⟩ := hb
  have e2' : F__law_take [.jar, .int 1000000000000000000000000000000] t1 = .ok (.int z1) t2 := e2
  have e3' : F__law_one [.jar, .lst [.int 0, .int 1, .int 2, .int x1, .int 1000000000000000000000000000000, .int 999999999999999999999999999999, .int z1]] t2 = .ok (.int b) t3 := e3
  refine ⟨b, t3, ?_, ?_, j3.up (by omega)⟩
  · simp [fn_ap, then_ap, thenL_ap, seq_ap, iff_ap, skip_ap, opt_some, andV, orV, notV, chS, asB, andS, orS, notS, ifS, callS, consS, tupS, lstS, giveS, op1, op2, op2L, cbS, cbL, ixS, ix_t, ix_l, ix_s, ix_j, ix_c, slS, soP, noP, op1s, op2s, bind_ap, map_ap, ofO_some, var_ap, c_ap, nil_ap, ite_ap, iteS_ap, le_ii, lt_ii, gt_ii, ge_ii, add_ii, sub_ii, neg_i, len_t, len_l, str_s, lst_l, tup_t, int_i, one_1, int_of_i, isN_int, isN_non, isN_tup, isN_str, isN_bl, isN_lst, F__law_number, b__law_number, e1, pow_30, e2', e3']
  · simp only [btw, Bool.and_eq_true, decide_eq_true_eq]
    exact ⟨b0, b1⟩
end Pr
end DL

namespace DL
open PySem PySem.Spec PyProof.Rows L2 PySem.NumText
namespace Pr
/-- a text of plain signs, n at most -/
def TxL (n : Nat) (x : Str) : Prop := x.length ≤ n ∧ ∀ c ∈ x.cps.toList, c < 128
theorem TxL.tx {n : Nat} {x : Str} (h : TxL n x) (hn : n ≤ 100000) : Tx x := ⟨Nat.le_trans h.1 hn, h.2⟩
theorem TxL.up {n m : Nat} {x : Str} (h : TxL n x) (hn : n ≤ m) : TxL m x := ⟨Nat.le_trans h.1 hn, h.2⟩
theorem txl_app {n m : Nat} {x y : Str} (hx : TxL n x) (hy : TxL m y) : TxL (n + m) (x ++ y) := by
  refine ⟨by rw [app_len]; exact Nat.add_le_add hx.1 hy.1, fun c hc => ?_⟩
  have e : (x ++ y).cps.toList = x.cps.toList ++ y.cps.toList := by
    show (x.cps ++ y.cps).toList = _
    simp
  rw [e] at hc
  rcases List.mem_append.mp hc with h | h
  · exact hx.2 c h
  · exact hy.2 c h
theorem add_tx {n m : Nat} {x y : Str} (hx : TxL n x) (hy : TxL m y) (h : n + m ≤ 100000) : ∃ z, addD (.str x) (.str y) = some (.str z) ∧ TxL (n + m) z :=
  ⟨x ++ y, add_ss (by have := hx.1; have := hy.1; omega), txl_app hx hy⟩
theorem cut_tx {n : Nat} {x : Str} (hx : TxL n x) (hn : n ≤ 100000) (lo hi : Option Int) : ∃ z, cutD (.str x) lo hi = some (.str z) ∧ TxL n z := by
  refine ⟨cutS x lo hi, cut_s _ _ (by have := hx.1; omega), Nat.le_trans (cutS_length x lo hi) hx.1, fun c hc => hx.2 c ?_⟩
  unfold cutS at hc
  exact List.mem_of_mem_drop (List.mem_of_mem_take (by simpa using hc))
theorem lit_tx {n : Nat} {x : Str} (h : (decide (x.length ≤ n) && x.cps.toList.all fun c => decide (c < 128)) = true) : TxL n x := by
  simp only [Bool.and_eq_true, decide_eq_true_eq, List.all_eq_true] at h
  exact h
theorem fold_mem {a : Array Nat} {c : Nat} : ∀ (m : Nat) (acc : Array Nat), c ∈ ((List.replicate m a).foldl (· ++ ·) acc).toList → c ∈ acc.toList ∨ c ∈ a.toList
  | 0, acc, h => .inl h
  | m + 1, acc, h => by
    rw [List.replicate_succ, List.foldl_cons] at h
    rcases fold_mem m (acc ++ a) h with h | h
    · rw [Array.toList_append] at h
      exact List.mem_append.mp h
    · exact .inr h
theorem mul_tx {n : Nat} {x : Str} {k : Nat} (hx : TxL n x) (hk : 2 ≤ k) (hk2 : k ≤ 100000) (h : n * k ≤ 100000) : ∃ z, mulD (.str x) (.int (k : Int)) = some (.str z) ∧ TxL (n * k) z := by
  have hl : x.length * k ≤ n * k := Nat.mul_le_mul_right _ hx.1
  refine ⟨Txt.mul x k, if_pos ⟨by omega, by omega, by rw [Int.toNat_natCast]; omega⟩, ?_, fun c hc => ?_⟩
  · have e := PyProof.Rows.len_mul x k
    rw [if_neg (by simp), ← Int.natCast_mul] at e
    omega
  · unfold Txt.mul at hc
    rw [if_neg (by omega)] at hc
    split at hc
    · exact hx.2 c hc
    · rcases fold_mem _ _ hc with h | h
      · cases h
      · exact hx.2 c h
theorem upper_asc : ∀ c : Nat, c < 128 → ∃ u, Unicode.upperOf c = [u] ∧ u < 128 := by
  have h : (List.range 128).all (fun c => match Unicode.upperOf c with
    | [u] => decide (u < 128)
    | _ => false) = true := by decide +kernel
  intro c hc
  have := List.all_eq_true.mp h c (List.mem_range.mpr hc)
  split at this
  · rename_i u e
    exact ⟨u, e, of_decide_eq_true this⟩
  · cases this
theorem upper_tx {n : Nat} {x : Str} (hx : TxL n x) (hn : n ≤ 100000) : ∃ z, upperD x = some (.str z) ∧ TxL n z := by
  refine ⟨Txt.upper x, if_pos (by have := hx.1; omega), ?_⟩
  have e : (Txt.upper x).cps.toList = x.cps.toList.flatMap Unicode.upperOf := by
    show (placed x fun _ c => Unicode.upperOf c).toList = _
    unfold placed
    rw [Array.toList_flatten, Array.toList_mapIdx]
    have g : ∀ (l : List Nat), (l.mapIdx fun _ c => (Unicode.upperOf c).toArray) = l.map fun c => (Unicode.upperOf c).toArray := by
      intro l
      apply List.ext_getElem
      · simp
      · intro i h1 h2
        simp
    rw [g, List.map_map, List.flatMap]
    rfl
  have key : ∀ l : List Nat, (∀ c ∈ l, c < 128) → (l.flatMap Unicode.upperOf).length = l.length ∧ ∀ u ∈ l.flatMap Unicode.upperOf, u < 128 := by
    intro l
    induction l with
    | nil => intro _; exact ⟨rfl, fun u hu => by cases hu⟩
    | cons c l ih =>
      intro h
      obtain ⟨i1, i2⟩ := ih fun d hd => h d (.tail _ hd)
      obtain ⟨u, hu, hl⟩ := upper_asc c (h c (.head _))
      rw [List.flatMap_cons, hu]
      refine ⟨by simp [i1], fun w hw => ?_⟩
      rcases List.mem_cons.mp hw with rfl | hw
      · exact hl
      · exact i2 w hw
  obtain ⟨k1, k2⟩ := key _ hx.2
  refine ⟨?_, fun c hc => k2 c (by rw [e] at hc; exact hc)⟩
  rw [← len_list, e, k1, len_list]
  exact hx.1
end Pr
end DL

namespace DL
open PySem PySem.Spec PyProof.Rows L2 PySem.NumText
namespace Pr
def Good' (d : D) : Prop := (∃ y, d = .str y ∧ Tx y) ∨ (Pl d ∧ isS d = false ∧ Sb 5 d)
theorem right_good {d : D} (h : Good' d) (s : Jr) : F__law_text_right [d] s = .ok (.bl true) s := by
  rcases h with ⟨y, rfl, hy⟩ | ⟨h1, h2, h3⟩
  · exact text_right_str hy s
  · exact text_right_no h1 h2 h3 s
theorem good_s {n : Nat} {y : Str} (h : TxL n y) (hn : n ≤ 100000) : Good' (.str y) := .inl ⟨y, rfl, h.tx hn⟩
theorem signs_tx (x : Str) (h : (x.cps.toList.all fun c => decide (c < 128)) = true) : ∀ d ∈ signs x, ∃ y, d = .str y ∧ TxL 2 y := by
  intro d hd
  obtain ⟨c, hc, rfl⟩ := List.mem_map.mp hd
  have := of_decide_eq_true (List.all_eq_true.mp h c hc)
  refine ⟨_, rfl, by show 1 ≤ 2; decide, fun e he => ?_⟩
  have he' : e ∈ [c] := he
  rcases List.mem_cons.mp he' with rfl | he'
  · exact this
  · cases he'
theorem sb_l2 {k : Nat} {a b : D} (ha : Sb k a) (hb : Sb k b) : Sb (k + 1) (.lst [a, b]) := sb_lst (fun e he => by
  rcases List.mem_cons.mp he with rfl | he
  · exact ha
  rcases List.mem_cons.mp he with rfl | he
  · exact hb
  · cases he) (Nat.le_add_left 2 998)
theorem list_s {x : Str} (h : x.cps.size ≤ 1000000) : listC [.str x] = some (signs x) := if_pos h
theorem sgs : ∃ SG, listC [.str "0123456789n+- "] = some SG ∧ SG.length = 14 ∧ ∀ d ∈ SG, ∃ y, d = .str y ∧ TxL 2 y :=
  ⟨signs "0123456789n+- ", list_s (by decide +kernel), by rw [signs_len]; decide +kernel, signs_tx _ (by decide +kernel)⟩
theorem bent_ok {n : Int} {s : Jr} {x : Str} (h : JOk n s) (hn : n ≤ 10 ^ 8) (hx : TxL 70 x) : ∃ (L : List D) (s' : Jr), F__law_bent [.jar, .str x] s = .ok (.lst L) s' ∧ JOk (n + 2) s' ∧ L.length ≤ 100 ∧ ∀ d ∈ L, Good' d := by
  have hlx := hx.1
  obtain ⟨at_, t1, e1, a0, a1, j1⟩ := take_ok (m := (x.length : Int) + 1) h (by omega) (by omega) (by omega)
  obtain ⟨SG, g1, g2, g3⟩ := sgs
  obtain ⟨LG, l1, l2, l3⟩ : ∃ LG, addD (.lst SG) (.lst [.str "", .str "nn", .str "+-", .str "x"]) = some (.lst LG) ∧ LG.length = 18 ∧ ∀ d ∈ LG, ∃ y, d = .str y ∧ TxL 2 y := by
    refine ⟨_, add_ll (by rw [g2]; decide), by rw [List.length_append, g2]; rfl, fun d hd => ?_⟩
    rcases List.mem_append.mp hd with hd | hd
    · exact g3 d hd
    · simp only [List.mem_cons, List.not_mem_nil, or_false] at hd
      rcases hd with rfl | rfl | rfl | rfl
      · exact ⟨_, rfl, lit_tx (by decide +kernel)⟩
      · exact ⟨_, rfl, lit_tx (by decide +kernel)⟩
      · exact ⟨_, rfl, lit_tx (by decide +kernel)⟩
      · exact ⟨_, rfl, lit_tx (by decide +kernel)⟩
  obtain ⟨d, hd, t2, e2, j2⟩ := one_ok (ds := LG) j1 (by omega) (by omega) (by omega)
  obtain ⟨sg', rfl, hs⟩ := l3 d hd
  obtain ⟨c1, k1, y1⟩ := cut_tx hx (by decide) none (some at_)
  obtain ⟨c2, k2, y2⟩ := cut_tx hx (by decide) (some at_) none
  obtain ⟨c3, k3, y3⟩ := cut_tx hx (by decide) (some (at_ + 1)) none
  obtain ⟨m0, k4, y4⟩ := add_tx y1 hs (by decide)
  obtain ⟨m1, k5, y5⟩ := add_tx y4 y2 (by decide)
  obtain ⟨m2, k6, y6⟩ := add_tx y1 y3 (by decide)
  obtain ⟨m3, k7, y7⟩ := add_tx y4 y3 (by decide)
  obtain ⟨m4, k8, y8⟩ := add_tx (x := "0") (n := 1) (lit_tx (by decide +kernel)) hx (by decide)
  obtain ⟨p1, k9, y9⟩ := add_tx (y := " ") (m := 1) hx (lit_tx (by decide +kernel)) (by decide)
  obtain ⟨p2, k10, y10⟩ := add_tx (x := " ") (n := 1) (lit_tx (by decide +kernel)) hx (by decide)
  obtain ⟨p3, k11, y11⟩ := add_tx (x := "+") (n := 1) (lit_tx (by decide +kernel)) hx (by decide)
  obtain ⟨p4, k12, y12⟩ := add_tx (x := "-") (n := 1) (lit_tx (by decide +kernel)) hx (by decide)
  obtain ⟨p5, k13, y13⟩ := add_tx (x := "1") (n := 1) (lit_tx (by decide +kernel)) hx (by decide)
  obtain ⟨p6, k14, y14⟩ := add_tx (y := "+0") (m := 2) hx (lit_tx (by decide +kernel)) (by decide)
  obtain ⟨p7, k15, y15⟩ := add_tx (y := "-0") (m := 2) hx (lit_tx (by decide +kernel)) (by decide)
  obtain ⟨p8, k16, y16⟩ := upper_tx hx (by decide)
  obtain ⟨r1, k17, y17⟩ := mul_tx (x := "0") (n := 1) (k := 31) (lit_tx (by decide +kernel)) (by decide) (by decide) (by decide)
  obtain ⟨r2, k18, y18⟩ := mul_tx (x := "9") (n := 1) (k := 4000) (lit_tx (by decide +kernel)) (by decide) (by decide) (by decide)
  obtain ⟨r3, k19, y19⟩ := mul_tx (k := 1000) hx (by decide) (by decide) (by decide)
  obtain ⟨q1, k20, y20⟩ := add_tx hx y17 (by decide)
  obtain ⟨q2, k21, y21⟩ := add_tx hx y18 (by decide)
  have k17' : mulD (.str "0") (.int 31) = some (.str r1) := k17
  have k18' : mulD (.str "9") (.int 4000) = some (.str r2) := k18
  have k19' : mulD (.str x) (.int 1000) = some (.str r3) := k19
  have ls := len_s (x := x) (by omega)
  refine ⟨[.str m1, .str m2, .str m3, .str m4, .str p1, .str p2, .str p3, .str p4, .str p5, .str p6, .str p7, .str p8, .str q1, .str q2, .str r3, .lst [.str x], .tup [.str x]], t2, ?_, j2.up (by omega), by simp, fun d hd => ?_⟩
  · simp [fn_ap, then_ap, thenL_ap, seq_ap, iff_ap, skip_ap, opt_some, andV, orV, notV, chS, asB, andS, orS, notS, ifS, callS, consS, tupS, lstS, giveS, op1, op2, op2L, cbS, cbL, ixS, ix_t, ix_l, ix_s, ix_j, ix_c, slS, soP, noP, op1s, op2s, bind_ap, map_ap, ofO_some, var_ap, c_ap, nil_ap, ite_ap, iteS_ap, le_ii, lt_ii, gt_ii, ge_ii, add_ii, sub_ii, neg_i, len_t, len_l, str_s, lst_l, tup_t, int_i, one_1, int_of_i, isN_int, isN_non, isN_tup, isN_str, isN_bl, isN_lst, F__law_bent, b__law_bent, parS, setsS, guardO, ownS, extS, frzS, ls, e1, g1, l1, e2, k1, k2, k3, k4, k5, k6, k7, k8, k9, k10, k11, k12, k13, k14, k15, k16, k17', k18', k19', k20, k21, add_ll]
  · simp only [List.mem_cons, List.not_mem_nil, or_false] at hd
    rcases hd with rfl | rfl | rfl | rfl | rfl | rfl | rfl | rfl | rfl | rfl | rfl | rfl | rfl | rfl | rfl | rfl | rfl
    · exact good_s y5 (by decide)
    · exact good_s y6 (by decide)
    · exact good_s y7 (by decide)
    · exact good_s y8 (by decide)
    · exact good_s y9 (by decide)
    · exact good_s y10 (by decide)
    · exact good_s y11 (by decide)
    · exact good_s y12 (by decide)
    · exact good_s y13 (by decide)
    · exact good_s y14 (by decide)
    · exact good_s y15 (by decide)
    · exact good_s y16 (by decide)
    · exact good_s y20 (by decide)
    · exact good_s y21 (by decide)
    · exact good_s y19 (by decide)
    · exact .inr ⟨trivial, rfl, sb_lst (fun e he => by rcases List.mem_cons.mp he with rfl | he; exact sb_s; cases he) (Nat.le_add_left 1 999)⟩
    · exact .inr ⟨trivial, rfl, sb_tup (fun e he => by rcases List.mem_cons.mp he with rfl | he; exact sb_s; cases he) (Nat.le_add_left 1 999)⟩
/-- nothing of a list that is right throughout is told -/
theorem none_wrong {i : Nat} {ρ : En} {L : List D} {s : Jr} (hi : i < ρ.length) (hL : ∀ d ∈ L, Good' d) : lcD i (notS (asB (callS 1 F__law_text_right (consS (varS i) nilS)))) (varS i) L ρ s = .ok [] s := by
  rw [lc_pure (t := fun _ => false) (f := fun d => d) (fun d hd => ?_) (fun d _ z => by cases z)]
  · rw [List.filter_eq_nil_iff.mpr (fun a _ => by simp)]
    rfl
  · have e : (inn i ρ d)[i]? = some (.dat d) := by
      unfold inn
      rw [List.getElem?_set_self (by rw [List.length_set]; exact hi)]
    simp [fn_ap, then_ap, thenL_ap, seq_ap, iff_ap, skip_ap, opt_some, andV, orV, notV, chS, asB, andS, orS, notS, ifS, callS, consS, tupS, lstS, giveS, op1, op2, op2L, cbS, cbL, ixS, ix_t, ix_l, ix_s, ix_j, ix_c, slS, soP, noP, op1s, op2s, bind_ap, map_ap, ofO_some, var_ap, c_ap, nil_ap, ite_ap, iteS_ap, le_ii, lt_ii, gt_ii, ge_ii, add_ii, sub_ii, neg_i, len_t, len_l, str_s, lst_l, tup_t, int_i, one_1, int_of_i, isN_int, isN_non, isN_tup, isN_str, isN_bl, isN_lst, e, right_good (hL d hd) s]
theorem count_right_ok {n : Int} {s : Jr} {a b : Int} (h : JOk n s) (hn : n ≤ 10 ^ 7) (o : Ok a b) : ∃ s', F__law_count_right [.jar, .tup [.int a, .int b]] s = .ok (.bl true) s' ∧ JOk (n + 5) s' := by
  obtain ⟨v, t1, e1, hv, j1⟩ := number_ok h (by omega)
  have e2 := text_ok o t1
  have hc := cnt_ok o
  have i1 := is_count_ask (d := .tup [.int a, .int b]) ⟨trivial, trivial⟩ t1
  rw [hc] at i1
  have i2 := rounds_yes hc hv t1
  have i3 := format_ok o t1
  have hlen : TxL 70 (cntT a b) := by
    refine ⟨?_, fun c hc => ?_⟩
    · by_cases ha : a = 0
      · rw [cnt_a0 ha]
        have := num_len (n := b.toNat) (by have := o.bu; omega)
        omega
      · rw [cnt_ne ha, app_len]
        have := head_len o.a9
        have := tail_len o.bl o.bu
        omega
    · have hc' : c ∈ cntL a b := hc
      have key : ∀ c ∈ cntL a b, c < 128 := by
        intro c hc
        unfold cntL headL tailL at hc
        split at hc
        · have := dgs_rng hc
          omega
        · rcases List.mem_append.mp hc with hc | hc
          · split at hc
            · cases hc
            · have := dgs_rng hc
              omega
          · rcases List.mem_cons.mp hc with rfl | hc
            · decide
            · split at hc
              · cases hc
              · rcases List.mem_cons.mp hc with rfl | hc
                · split <;> decide
                · have := dgs_rng hc
                  omega
      exact key c hc'
  have i4 := heard_text_str (hlen.tx (by decide)) t1
  rw [back o] at i4
  have hab : btw (.int a) 0 9 = true := by
    have := o.a0
    have := o.a9
    simp [btw]
    omega
  have i5 := ra_rounds_int (b := b) hab hv t1
  obtain ⟨L, t2, e3, j2, hl, hL⟩ := bent_ok j1 (by omega) hlen
  have i6 : ∀ ρ : En, 6 < ρ.length → lcD 6 (notS (asB (callS 1 F__law_text_right (consS (varS 6) nilS)))) (varS 6) L ρ t2 = .ok [] t2 := fun ρ hρ => none_wrong hρ hL
  simp only [notS, asB, callS, consS] at i6
  generalize cntT a b = t at *
  generalize roundsAt a b v = r at *
  have i7 : F__law_yq_same [.lst [.tup [.str "told", .tup [.bl true, .int r, .str t]], .tup [.str "told", .tup [.int a, .int b]]], .lst [.tup [.str "told", .tup [.bl true, .int r, .str t]], .tup [.str "told", .tup [.int a, .int b]]]] t1 = .ok (.bl true) t1 :=
    same_ok (sb_l2 (k := 5) (sb_t2 sb_s (sb_t3 sb_b sb_i sb_s)) (sb_t2 sb_s (sb_t2 sb_i sb_i))) t1
  have i8 : eqX (.lst []) (.lst []) = some (.bl true) := rfl
  have i9 : L.length ≤ 1000000 := by omega
  refine ⟨t2, ?_, j2.up (by omega)⟩
  simp [fn_ap, then_ap, thenL_ap, seq_ap, iff_ap, skip_ap, opt_some, andV, orV, notV, chS, asB, andS, orS, notS, ifS, callS, consS, tupS, lstS, giveS, op1, op2, op2L, cbS, cbL, ixS, ix_t, ix_l, ix_s, ix_j, ix_c, slS, soP, noP, op1s, op2s, bind_ap, map_ap, ofO_some, var_ap, c_ap, nil_ap, ite_ap, iteS_ap, le_ii, lt_ii, gt_ii, ge_ii, add_ii, sub_ii, neg_i, len_t, len_l, str_s, lst_l, tup_t, int_i, one_1, int_of_i, isN_int, isN_non, isN_tup, isN_str, isN_bl, isN_lst, F__law_count_right, b__law_count_right, unS, setsS, guardO, ownS, appS, frzS, heardS_ap, lcLS, lcS, e1, e2, i1, i2, i3, i4, i5, i7, e3, i6, i8, i9]
end Pr
end DL

namespace DL
open PySem PySem.Spec PyProof.Rows L2 PySem.NumText
namespace Pr
def Oth (d : D) : Prop := Ask d ∧ Pl d ∧ Sb 4 d
theorem sb_t1 {k : Nat} {a : D} (ha : Sb k a) : Sb (k + 1) (.tup [a]) := sb_tup (fun e he => by
  rcases List.mem_cons.mp he with rfl | he
  · exact ha
  · cases he) (Nat.le_add_left 1 999)
theorem sb_t0 {k : Nat} : Sb (k + 1) (.tup []) := sb_tup (fun e he => by cases he) (Nat.zero_le _)
theorem sb_l4 {k : Nat} {a b c d : D} (ha : Sb k a) (hb : Sb k b) (hc : Sb k c) (hd : Sb k d) : Sb (k + 1) (.lst [a, b, c, d]) := sb_lst (fun e he => by
  rcases List.mem_cons.mp he with rfl | he
  · exact ha
  rcases List.mem_cons.mp he with rfl | he
  · exact hb
  rcases List.mem_cons.mp he with rfl | he
  · exact hc
  rcases List.mem_cons.mp he with rfl | he
  · exact hd
  · cases he) (Nat.le_add_left 4 996)
theorem others_ok {n : Int} {s : Jr} (h : JOk n s) (hn : n ≤ 10 ^ 7) : ∃ (L : List D) (s' : Jr), F__law_others [.jar] s = .ok (.lst L) s' ∧ JOk (n + 6) s' ∧ L.length ≤ 100 ∧ ∀ d ∈ L, Oth d := by
  obtain ⟨a, b, t1, e1, o, j1⟩ := count_ok h (by omega)
  refine ⟨[.non, .bl true, .int 0, .str "n", .str "", .tup [], .tup [.int a], .tup [.int a, .int b, .int 0], .lst [.int a, .int b], .tup [.int 10, .int b], .tup [.int (-1), .int 0], .tup [.int 0, .int (-1)],
    .tup [.int 1, .int 1000000000000000000000000000001], .tup [.int 1, .int (-1000000000000000000000000000001)], .tup [.int 0, .int 1000000000000000000000000000001], .tup [.bl true, .int 0], .tup [.int 1, .bl true], .tup [.non, .int 0],
    .tup [.int 1, .non], .tup [.str "1", .int 0], .tup [.int 1, .str "0"], .tup [.tup [.int 1, .int 0]], .dic [.inr "a"] [.int 1], .tup [.int a, .int b]], t1, ?_, j1, by simp, fun d hd => ?_⟩
  · simp [fn_ap, then_ap, thenL_ap, seq_ap, iff_ap, skip_ap, opt_some, andV, orV, notV, chS, asB, andS, orS, notS, ifS, callS, consS, tupS, lstS, giveS, op1, op2, op2L, cbS, cbL, ixS, ix_t, ix_l, ix_s, ix_j, ix_c, slS, soP, noP, op1s, op2s, bind_ap, map_ap, ofO_some, var_ap, c_ap, nil_ap, ite_ap, iteS_ap, le_ii, lt_ii, gt_ii, ge_ii, add_ii, sub_ii, neg_i, len_t, len_l, str_s, lst_l, tup_t, int_i, one_1, int_of_i, isN_int, isN_non, isN_tup, isN_str, isN_bl, isN_lst, F__law_others, b__law_others, unS, setsS, guardO, ownS, extS, frzS, e1, pow_30, d1S, add_ll]
  · simp only [List.mem_cons, List.not_mem_nil, or_false] at hd
    rcases hd with rfl | rfl | rfl | rfl | rfl | rfl | rfl | rfl | rfl | rfl | rfl | rfl | rfl | rfl | rfl | rfl | rfl | rfl | rfl | rfl | rfl | rfl | rfl | rfl
    · exact ⟨trivial, trivial, sb_n⟩
    · exact ⟨trivial, trivial, sb_b⟩
    · exact ⟨trivial, trivial, sb_i⟩
    · exact ⟨trivial, trivial, sb_s⟩
    · exact ⟨trivial, trivial, sb_s⟩
    · exact ⟨trivial, trivial, sb_t0⟩
    · exact ⟨trivial, trivial, sb_t1 sb_i⟩
    · exact ⟨trivial, trivial, sb_t3 sb_i sb_i sb_i⟩
    · exact ⟨trivial, trivial, sb_l2 sb_i sb_i⟩
    · exact ⟨⟨trivial, trivial⟩, trivial, sb_t2 sb_i sb_i⟩
    · exact ⟨⟨trivial, trivial⟩, trivial, sb_t2 sb_i sb_i⟩
    · exact ⟨⟨trivial, trivial⟩, trivial, sb_t2 sb_i sb_i⟩
    · exact ⟨⟨trivial, trivial⟩, trivial, sb_t2 sb_i sb_i⟩
    · exact ⟨⟨trivial, trivial⟩, trivial, sb_t2 sb_i sb_i⟩
    · exact ⟨⟨trivial, trivial⟩, trivial, sb_t2 sb_i sb_i⟩
    · exact ⟨⟨trivial, trivial⟩, trivial, sb_t2 sb_b sb_i⟩
    · exact ⟨⟨trivial, trivial⟩, trivial, sb_t2 sb_i sb_b⟩
    · exact ⟨⟨trivial, trivial⟩, trivial, sb_t2 sb_n sb_i⟩
    · exact ⟨⟨trivial, trivial⟩, trivial, sb_t2 sb_i sb_n⟩
    · exact ⟨⟨trivial, trivial⟩, trivial, sb_t2 sb_s sb_i⟩
    · exact ⟨⟨trivial, trivial⟩, trivial, sb_t2 sb_i sb_s⟩
    · exact ⟨trivial, trivial, sb_t1 (sb_t2 sb_i sb_i)⟩
    · exact ⟨trivial, trivial, sb_flat (d := .dic [.inr "a"] [.int 1]) trivial⟩
    · exact ⟨⟨trivial, trivial⟩, trivial, sb_t2 sb_i sb_i⟩
theorem mul_l3 (x : D) : mulD (.lst [x]) (.int 3) = some (.lst [x, x, x]) := rfl
theorem other_right_ok {n : Int} {s : Jr} {d : D} (h : JOk n s) (hn : n ≤ 10 ^ 7) (hd : Oth d) : ∃ s', F__law_other_right [.jar, d] s = .ok (.bl true) s' ∧ JOk (n + 4) s' := by
  obtain ⟨ha, hp, hs⟩ := hd
  have e1 := ra_is_count_ask ha s
  obtain ⟨v, t1, e2, hv, j1⟩ := number_ok h (by omega)
  obtain ⟨od, hod, t2, e3, j2⟩ := one_ok (ds := [.int (-1), .int 1000000000000000000000000000001, .bl true, .non, .str "3", .tup [.int 1]]) j1 (by omega) (by simp) (by simp)
  have ho : Pl od ∧ btw od 0 (10 ^ 30) = false ∧ Sb 2 od := by
    simp only [List.mem_cons, List.not_mem_nil, or_false] at hod
    rcases hod with rfl | rfl | rfl | rfl | rfl | rfl
    · exact ⟨trivial, by decide, sb_i⟩
    · exact ⟨trivial, by decide, sb_i⟩
    · exact ⟨trivial, rfl, sb_b⟩
    · exact ⟨trivial, rfl, sb_n⟩
    · exact ⟨trivial, rfl, sb_s⟩
    · exact ⟨trivial, rfl, sb_t1 sb_i⟩
  obtain ⟨o1, o2, o3⟩ := ho
  have o4 : Sb 4 od := sb_up 3 (sb_up 2 o3)
  have i1 := is_count_ask ha t2
  refine ⟨t2, ?_, j2.up (by omega)⟩
  cases hc : isCnt d with
  | false =>
    rw [hc] at e1 i1
    have i2 := rounds_no (e := od) ha hc t2
    have i3 := rounds_no (e := .int v) ha hc t2
    have i4 := format_no ha hc t2
    have i5 : F__law_yq_same [.lst [.tup [.str "told", .bl false], .tup [.str "BadCount", d], .tup [.str "BadCount", d], .tup [.str "BadCount", d]], .lst [.tup [.str "told", .bl false], .tup [.str "BadCount", d], .tup [.str "BadCount", d], .tup [.str "BadCount", d]]] t2 = .ok (.bl true) t2 :=
      same_ok (sb_l4 (sb_t2 sb_s sb_b) (sb_t2 sb_s hs) (sb_t2 sb_s hs) (sb_t2 sb_s hs)) t2
    simp [fn_ap, then_ap, thenL_ap, seq_ap, iff_ap, skip_ap, opt_some, andV, orV, notV, chS, asB, andS, orS, notS, ifS, callS, consS, tupS, lstS, giveS, op1, op2, op2L, cbS, cbL, ixS, ix_t, ix_l, ix_s, ix_j, ix_c, slS, soP, noP, op1s, op2s, bind_ap, map_ap, ofO_some, var_ap, c_ap, nil_ap, ite_ap, iteS_ap, le_ii, lt_ii, gt_ii, ge_ii, add_ii, sub_ii, neg_i, len_t, len_l, str_s, lst_l, tup_t, int_i, one_1, int_of_i, isN_int, isN_non, isN_tup, isN_str, isN_bl, isN_lst, F__law_other_right, b__law_other_right, unS, setsS, guardO, ownS, appS, frzS, heardS_ap, e1, e2, pow_30, e3, i1, i2, i3, i4, selM, mul_l3, add_ll, i5]
  | true =>
    rw [hc] at e1 i1
    obtain ⟨a, b, rfl, _⟩ := isCnt_pair hc
    have o := ok_cnt hc
    have i2 := rounds_odd ha hc o1 o2 t2
    have i3 := rounds_yes hc hv t2
    have i4 := format_ok o t2
    have hab : btw (.int a) 0 9 = true := by
      have := o.a0
      have := o.a9
      simp [btw]
      omega
    have i6 := ra_rounds_int (b := b) hab hv t2
    have i7 := text_ok o t2
    generalize cntT a b = t at *
    generalize roundsAt a b v = r at *
    have i5 : F__law_yq_same [.lst [.tup [.str "told", .bl true], .tup [.str "BadNumber", od], .tup [.str "told", .int r], .tup [.str "told", .str t]], .lst [.tup [.str "told", .bl true], .tup [.str "BadNumber", od], .tup [.str "told", .int r], .tup [.str "told", .str t]]] t2 = .ok (.bl true) t2 :=
      same_ok (sb_l4 (sb_t2 sb_s sb_b) (sb_t2 sb_s o4) (sb_t2 sb_s sb_i) (sb_t2 sb_s sb_s)) t2
    simp [fn_ap, then_ap, thenL_ap, seq_ap, iff_ap, skip_ap, opt_some, andV, orV, notV, chS, asB, andS, orS, notS, ifS, callS, consS, tupS, lstS, giveS, op1, op2, op2L, cbS, cbL, ixS, ix_t, ix_l, ix_s, ix_j, ix_c, slS, soP, noP, op1s, op2s, bind_ap, map_ap, ofO_some, var_ap, c_ap, nil_ap, ite_ap, iteS_ap, le_ii, lt_ii, gt_ii, ge_ii, add_ii, sub_ii, neg_i, len_t, len_l, str_s, lst_l, tup_t, int_i, one_1, int_of_i, isN_int, isN_non, isN_tup, isN_str, isN_bl, isN_lst, F__law_other_right, b__law_other_right, unS, setsS, guardO, ownS, appS, frzS, heardS_ap, e1, e2, pow_30, e3, i1, i2, i3, i4, selM, i6, i7, add_ll, i5]
end Pr
theorem forD_inv {i : Nat} {B : Ss} {Iv : Nat → En → Jr → Prop} : ∀ {ds : List D} {k : Nat}, (∀ d ∈ ds, ∀ k ρ s, Iv k ρ s → ∃ ρ' s', B (ρ.set i (.dat d)) s = .nx ρ' s' ∧ Iv (k + 1) ρ' s') → ∀ ρ s, Iv k ρ s → ∃ ρ' s', forD i B ds ρ s = .nx ρ' s' ∧ Iv (k + ds.length) ρ' s'
  | [], k, _, ρ, s, h => ⟨ρ, s, rfl, h⟩
  | d :: ds, k, hB, ρ, s, h => by
    obtain ⟨ρ1, s1, h1, h2⟩ := hB d (.head _) k ρ s h
    obtain ⟨ρ2, s2, h3, h4⟩ := forD_inv (ds := ds) (k := k + 1) (fun e he => hB e (.tail _ he)) ρ1 s1 h2
    refine ⟨ρ2, s2, ?_, by rw [List.length_cons, show k + (ds.length + 1) = k + 1 + ds.length by omega]; exact h4⟩
    unfold forD
    simp only [h1]
    exact h3
theorem lc_none {i : Nat} {T : Sm Bool} {A : Sm D} {ρ : En} {J : Nat → Jr → Prop} : ∀ {ds : List D} {k : Nat} {s : Jr}, (∀ d ∈ ds, ∀ k s, J k s → ∃ s', T (inn i ρ d) s = .ok false s' ∧ J (k + 1) s') → J k s → ∃ s', lcD i T A ds ρ s = .ok [] s' ∧ J (k + ds.length) s'
  | [], k, s, _, h => ⟨s, rfl, h⟩
  | d :: ds, k, s, hT, h => by
    obtain ⟨s1, h1, h2⟩ := hT d (.head _) k s h
    obtain ⟨s2, h3, h4⟩ := lc_none (ds := ds) (k := k + 1) (fun e he => hT e (.tail _ he)) h2
    refine ⟨s2, ?_, by rw [List.length_cons, show k + (ds.length + 1) = k + 1 + ds.length by omega]; exact h4⟩
    unfold lcD
    simp only [h1]
    exact h3
end DL

namespace DL
open PySem PySem.Spec PyProof.Rows L2 PySem.NumText
namespace Pr
/-! ## short texts -/
def Sh (d : D) : Prop := ∃ y, d = .str y ∧ TxL 2 y
def Sh4 (d : D) : Prop := ∃ y, d = .str y ∧ TxL 4 y
theorem glue {SG : List D} (hS : ∀ d ∈ SG, Sh d) {o : Str} (ho : TxL 2 o) (ρ : En) (s : Jr) (h2 : ρ[2]? = some (.dat (.str o))) (hl : 4 ≤ ρ.length) : ∃ L, lcD 3 yesS ((varS 2).bind fun x => (varS 3).bind fun y => Sm.ofO (addD x y)) SG ρ s = .ok L s ∧ L.length = SG.length ∧ ∀ d ∈ L, Sh4 d := by
  refine ⟨SG.map fun d => match d with
    | .str y => .str (o ++ y)
    | _ => .non, ?_, by simp, fun d hd => ?_⟩
  · rw [lc_pure (t := fun _ => true) (f := fun d => match d with
      | .str y => .str (o ++ y)
      | _ => .non) (fun _ _ => rfl) (fun d hd _ => ?_)]
    · rw [List.filter_eq_self.mpr (fun _ _ => rfl)]
    · obtain ⟨y, rfl, hy⟩ := hS d hd
      have e3 : (inn 3 ρ (D.str y))[3]? = some (.dat (.str y)) := by
        unfold inn
        rw [List.getElem?_set_self (by rw [List.length_set]; omega)]
      have e2 : (inn 3 ρ (D.str y))[2]? = some (.dat (.str o)) := by
        unfold inn
        rw [List.getElem?_set_ne (by decide), List.getElem?_set_ne (by decide)]
        exact h2
      have ad : addD (.str o) (.str y) = some (.str (o ++ y)) := add_ss (by have := ho.1; have := hy.1; omega)
      simp [fn_ap, then_ap, thenL_ap, seq_ap, iff_ap, skip_ap, opt_some, andV, orV, notV, chS, asB, andS, orS, notS, ifS, callS, consS, tupS, lstS, giveS, op1, op2, op2L, cbS, cbL, ixS, ix_t, ix_l, ix_s, ix_j, ix_c, slS, soP, noP, op1s, op2s, bind_ap, map_ap, ofO_some, var_ap, c_ap, nil_ap, ite_ap, iteS_ap, le_ii, lt_ii, gt_ii, ge_ii, add_ii, sub_ii, neg_i, len_t, len_l, str_s, lst_l, tup_t, int_i, one_1, int_of_i, isN_int, isN_non, isN_tup, isN_str, isN_bl, isN_lst, e2, e3, ad]
  · obtain ⟨e, he, rfl⟩ := List.mem_map.mp hd
    obtain ⟨y, rfl, hy⟩ := hS e he
    exact ⟨_, rfl, txl_app ho hy⟩
def ShI (SG : List D) (k : Nat) (ρ : En) (_ : Jr) : Prop := ∃ L z2 z3 z4, ρ = [.dat (.lst SG), .own L, z2, z3, z4] ∧ L.length ≤ 9 + 8 * k ∧ ∀ d ∈ L, Sh4 d
theorem sh_turn {SG : List D} (hS : ∀ d ∈ SG, Sh d) (h8 : SG.length = 8) {d : D} (hd : Sh d) {k : Nat} (hk : k ≤ 100) {ρ : En} {s : Jr} (h : ShI SG k ρ s) : ∃ ρ' s', (extS 1 (consS (giveS (lcLS 3 yesS (op2 addD (varS 2) (varS 3)) (varS 0))) nilS)) (ρ.set 2 (.dat d)) s = .nx ρ' s' ∧ (s' = s ∧ ShI SG (k + 1) ρ' s') := by
  obtain ⟨L, z2, z3, z4, rfl, hl, hL⟩ := h
  obtain ⟨o, rfl, ho⟩ := hd
  obtain ⟨L2, g1, g2, g3⟩ := glue hS ho [.dat (.lst SG), .own L, .dat (.str o), z3, z4] s rfl (by simp)
  have q1 : SG.length ≤ 1000000 := by omega
  have q2 : L.length + L2.length ≤ 1000000 := by omega
  refine ⟨[.dat (.lst SG), .own (L ++ L2), .dat (.str o), z3, z4], s, ?_, rfl, L ++ L2, _, _, _, rfl, by rw [List.length_append]; omega, fun d hd => ?_⟩
  · have e : (List.set [Sl.dat (.lst SG), .own L, z2, z3, z4] 2 (.dat (.str o))) = [Sl.dat (.lst SG), .own L, .dat (.str o), z3, z4] := rfl
    rw [e]
    simp [fn_ap, then_ap, thenL_ap, seq_ap, iff_ap, skip_ap, opt_some, andV, orV, notV, chS, asB, andS, orS, notS, ifS, callS, consS, tupS, lstS, giveS, op1, op2, op2L, cbS, cbL, ixS, ix_t, ix_l, ix_s, ix_j, ix_c, slS, soP, noP, op1s, op2s, bind_ap, map_ap, ofO_some, var_ap, c_ap, nil_ap, ite_ap, iteS_ap, le_ii, lt_ii, gt_ii, ge_ii, add_ii, sub_ii, neg_i, len_t, len_l, str_s, lst_l, tup_t, int_i, one_1, int_of_i, isN_int, isN_non, isN_tup, isN_str, isN_bl, isN_lst, extS, ownS, guardO, lcLS, lcS, g1, q1, q2]
  · rcases List.mem_append.mp hd with h | h
    · exact hL d h
    · exact g3 d h
theorem sgs8 : ∃ SG, listC [.str "0129n+- "] = some SG ∧ SG.length = 8 ∧ ∀ d ∈ SG, Sh d :=
  ⟨signs "0129n+- ", list_s (by decide +kernel), by rw [signs_len]; decide +kernel, signs_tx _ (by decide +kernel)⟩
theorem cat_ll {a b : List D} (h : a.length + b.length ≤ 1000000) : catL (.lst a) (.lst b) = some (a ++ b) := if_pos h
theorem forD_sh {SG : List D} (hS : ∀ d ∈ SG, Sh d) (h8 : SG.length = 8) {ds : List D} (hd : ∀ d ∈ ds, Sh d) {s : Jr} {k : Nat} (hk : k + ds.length ≤ 100) {ρ : En} (h : ShI SG k ρ s) : ∃ ρ', forD 2 (extS 1 (consS (giveS (lcLS 3 yesS (op2 addD (varS 2) (varS 3)) (varS 0))) nilS)) ds ρ s = .nx ρ' s ∧ ShI SG (k + ds.length) ρ' s := by
  induction ds generalizing k ρ with
  | nil => exact ⟨ρ, rfl, h⟩
  | cons d ds ih =>
    rw [List.length_cons] at hk
    obtain ⟨ρ1, s1, h1, rfl, h2⟩ := sh_turn hS h8 (hd d (.head _)) (k := k) (by omega) h
    obtain ⟨ρ2, h3, h4⟩ := ih (fun e he => hd e (.tail _ he)) (k := k + 1) (by omega) h2
    refine ⟨ρ2, ?_, by rw [List.length_cons, show k + (ds.length + 1) = k + 1 + ds.length by omega]; exact h4⟩
    unfold forD
    simp only [h1]
    exact h3
theorem short_ok (s : Jr) : F__law_short_right [] s = .ok (.bl true) s := by
  obtain ⟨SG, g1, h8, hS⟩ := sgs8
  have sh0 : ShI SG 0 [.dat (.lst SG), .own (.str "" :: SG), .no, .no, .no] s := ⟨_, _, _, _, rfl, by rw [List.length_cons, h8]; decide, fun d hd => by
    rcases List.mem_cons.mp hd with rfl | hd
    · exact ⟨_, rfl, lit_tx (by decide +kernel)⟩
    · obtain ⟨y, rfl, hy⟩ := hS d hd
      exact ⟨y, rfl, hy.up (by decide)⟩⟩
  obtain ⟨ρ1, l1, s1⟩ := forD_sh hS h8 hS (by omega) sh0
  rw [h8] at s1
  have hT : ∀ d ∈ ([.str "n+", .str "n-", .str "2n", .str "1n", .str "9n", .str "0n", .str "nn", .str "10", .str "00", .str "+n", .str "-1"] : List D), Sh d := by
    intro d hd
    simp only [List.mem_cons, List.not_mem_nil, or_false] at hd
    rcases hd with rfl | rfl | rfl | rfl | rfl | rfl | rfl | rfl | rfl | rfl | rfl <;> exact ⟨_, rfl, lit_tx (by decide +kernel)⟩
  obtain ⟨ρ2, l2, s2⟩ := forD_sh hS h8 hT (by decide) s1
  obtain ⟨L, z2, z3, z4, rfl, hl, hL⟩ := s2
  have hl' : L.length ≤ 1000000 := by
    have : L.length ≤ 9 + 8 * (0 + 8 + 11) := hl
    omega
  have i6 := none_wrong (i := 4) (ρ := [.dat (.lst SG), .dat (.lst L), z2, z3, z4]) (L := L) (s := s) (by simp) (fun d hd => by
    obtain ⟨y, rfl, hy⟩ := hL d hd
    exact good_s hy (by decide))
  have i8 : eqX (.lst []) (.lst []) = some (.bl true) := rfl
  have i9 : catL (.lst [.str ""]) (.lst SG) = some (.str "" :: SG) := cat_ll (by rw [h8]; decide)
  simp only [notS, asB, callS, consS] at i6
  generalize hB : (extS 1 (consS (giveS (lcLS 3 yesS (op2 addD (varS 2) (varS 3)) (varS 0))) nilS)) = B at *
  unfold F__law_short_right b__law_short_right
  rw [hB]
  simp [fn_ap, then_ap, thenL_ap, seq_ap, iff_ap, skip_ap, opt_some, andV, orV, notV, chS, asB, andS, orS, notS, ifS, callS, consS, tupS, lstS, giveS, op1, op2, op2L, cbS, cbL, ixS, ix_t, ix_l, ix_s, ix_j, ix_c, slS, soP, noP, op1s, op2s, bind_ap, map_ap, ofO_some, var_ap, c_ap, nil_ap, ite_ap, iteS_ap, le_ii, lt_ii, gt_ii, ge_ii, add_ii, sub_ii, neg_i, len_t, len_l, str_s, lst_l, tup_t, int_i, one_1, int_of_i, isN_int, isN_non, isN_tup, isN_str, isN_bl, isN_lst, forL, frzS, g1, i9, l1, l2, lcLS, lcS, guardO, hl', i6, i8]
/-! ## the pool -/
def PoI (ns : List Int) (_ : Nat) (ρ : En) (s : Jr) : Prop := s = ⟨0, 0, 0⟩ ∧ ∃ (d t : Int) (z3 z4 : Sl), ρ = [.dat (.scr ns), .dat (.int d), .dat (.int t), z3, z4] ∧ 0 ≤ d ∧ 0 ≤ t ∧ t < 2147483648
theorem pow_12 : powD (.int 10) (.int 12) = some (.int (10 ^ 12)) := rfl
theorem pow_60 : powD (.int 10) (.int 60) = some (.int (10 ^ 60)) := rfl
theorem at_nat' {ns : List Int} {k : Nat} (h : k < ns.length) : atI ns (k : Int) = some ns[k] := by
  unfold atI ixN
  simp [h]
theorem pool_turn {ns : List Int} {k j : Nat} (hk : k < ns.length) {ρ : En} {s : Jr} (h : PoI ns j ρ s) {B : Ss} (hB : B = seqS (thenS (cbS intC (consS (cbS maxC (consS (ixS jl0 (varS 0) (varS 3)) (consS (op2 subD (op1 negD (cS (.int 1))) (ixS jl0 (varS 0) (varS 3))) nilS))) nilS)) fun d ρ s => .nx (ρ.set 4 (.dat d)) s) (seqS (thenS (op2 modD (cbS intC (consS (op2 addD (op2 addD (op2 mulD (varS 2) (cS (.int 48271))) (op2 modD (varS 4) (cS (.int 2147483629)))) (cS (.int 11))) nilS)) (cS (.int 2147483647))) fun d ρ s => .nx (ρ.set 2 (.dat d)) s) (thenS (ifS (andS (asB (op2 geD (varS 4) (op2 powD (cS (.int 10)) (cS (.int 12))))) (asB (op2 ltD (varS 1) (op2 powD (cS (.int 10)) (cS (.int 60)))))) (cbS intC (consS (op2 addD (op2 mulD (varS 1) (op2 powD (cS (.int 10)) (cS (.int 60)))) (op2 modD (varS 4) (op2 powD (cS (.int 10)) (cS (.int 60))))) nilS)) (varS 1)) fun d ρ s => .nx (ρ.set 1 (.dat d)) s))) :
    ∃ ρ' s', B (ρ.set 3 (.dat (.int (k : Int)))) s = .nx ρ' s' ∧ PoI ns (j + 1) ρ' s' := by
  obtain ⟨rfl, d, t, z3, z4, rfl, d0, t0, t1⟩ := h
  have ha := at_nat' hk
  generalize ns[k] = v at ha
  have hx : ixJ jl0 ⟨0, 0, 0⟩ (.scr ns) (.int (k : Int)) = some (.int v) := by
    rw [ix_c, ha]
    rfl
  have hm : maxC [.int v, .int (-1 - v)] = some (.int (if -1 - v > v then -1 - v else v)) := rfl
  generalize hc : (if -1 - v > v then -1 - v else v) = ce at hm
  have c0 : 0 ≤ ce := by
    rw [← hc]
    split <;> omega
  have m1 : mulD (.int t) (.int 48271) = some (.int (t * 48271)) := mul_ii (sm (by omega)) (sm (by omega))
  have q0 := Int.emod_nonneg ce (show (2147483629 : Int) ≠ 0 by decide)
  have r0 := Int.emod_nonneg (t * 48271 + ce % 2147483629 + 11) (show (2147483647 : Int) ≠ 0 by decide)
  have r1 := Int.emod_lt_of_pos (t * 48271 + ce % 2147483629 + 11) (show (0 : Int) < 2147483647 by decide)
  have w0 := Int.emod_nonneg ce (show (1000000000000000000000000000000000000000000000000000000000000 : Int) ≠ 0 by decide)
  have mo : modD (.int ce) (.int 1000000000000000000000000000000000000000000000000000000000000) = some (.int (ce % 1000000000000000000000000000000000000000000000000000000000000)) := mod_ii (by decide)
  have e : (List.set [Sl.dat (D.scr ns), .dat (.int d), .dat (.int t), z3, z4] 3 (.dat (.int (k : Int)))) = [Sl.dat (D.scr ns), .dat (.int d), .dat (.int t), .dat (.int (k : Int)), z4] := rfl
  rw [e, hB]
  by_cases b1 : (1000000000000 : Int) ≤ ce
  · by_cases b2 : d < 1000000000000000000000000000000000000000000000000000000000000
    · have m2 : mulD (.int d) (.int 1000000000000000000000000000000000000000000000000000000000000) = some (.int (d * 1000000000000000000000000000000000000000000000000000000000000)) := mul_ii (sm (by omega)) (sm (by decide))
      refine ⟨[.dat (.scr ns), .dat (.int (d * 1000000000000000000000000000000000000000000000000000000000000 + ce % 1000000000000000000000000000000000000000000000000000000000000)), .dat (.int ((t * 48271 + ce % 2147483629 + 11) % 2147483647)), .dat (.int (k : Int)), .dat (.int ce)], ⟨0, 0, 0⟩, ?_, rfl, _, _, _, _, rfl, by omega, r0, by omega⟩
      simp [fn_ap, then_ap, thenL_ap, seq_ap, iff_ap, skip_ap, opt_some, andV, orV, notV, chS, asB, andS, orS, notS, ifS, callS, consS, tupS, lstS, giveS, op1, op2, op2L, cbS, cbL, ixS, ix_t, ix_l, ix_s, ix_j, ix_c, slS, soP, noP, op1s, op2s, bind_ap, map_ap, ofO_some, var_ap, c_ap, nil_ap, ite_ap, iteS_ap, le_ii, lt_ii, gt_ii, ge_ii, add_ii, sub_ii, neg_i, len_t, len_l, str_s, lst_l, tup_t, int_i, one_1, int_of_i, isN_int, isN_non, isN_tup, isN_str, isN_bl, isN_lst, hx, hm, m1, mod_a, mod_b, pow_12, pow_60, b1, b2, m2, mo]
    · refine ⟨[.dat (.scr ns), .dat (.int d), .dat (.int ((t * 48271 + ce % 2147483629 + 11) % 2147483647)), .dat (.int (k : Int)), .dat (.int ce)], ⟨0, 0, 0⟩, ?_, rfl, _, _, _, _, rfl, d0, r0, by omega⟩
      simp [fn_ap, then_ap, thenL_ap, seq_ap, iff_ap, skip_ap, opt_some, andV, orV, notV, chS, asB, andS, orS, notS, ifS, callS, consS, tupS, lstS, giveS, op1, op2, op2L, cbS, cbL, ixS, ix_t, ix_l, ix_s, ix_j, ix_c, slS, soP, noP, op1s, op2s, bind_ap, map_ap, ofO_some, var_ap, c_ap, nil_ap, ite_ap, iteS_ap, le_ii, lt_ii, gt_ii, ge_ii, add_ii, sub_ii, neg_i, len_t, len_l, str_s, lst_l, tup_t, int_i, one_1, int_of_i, isN_int, isN_non, isN_tup, isN_str, isN_bl, isN_lst, hx, hm, m1, mod_a, mod_b, pow_12, pow_60, b1, b2, mo]
  · refine ⟨[.dat (.scr ns), .dat (.int d), .dat (.int ((t * 48271 + ce % 2147483629 + 11) % 2147483647)), .dat (.int (k : Int)), .dat (.int ce)], ⟨0, 0, 0⟩, ?_, rfl, _, _, _, _, rfl, d0, r0, by omega⟩
    simp [fn_ap, then_ap, thenL_ap, seq_ap, iff_ap, skip_ap, opt_some, andV, orV, notV, chS, asB, andS, orS, notS, ifS, callS, consS, tupS, lstS, giveS, op1, op2, op2L, cbS, cbL, ixS, ix_t, ix_l, ix_s, ix_j, ix_c, slS, soP, noP, op1s, op2s, bind_ap, map_ap, ofO_some, var_ap, c_ap, nil_ap, ite_ap, iteS_ap, le_ii, lt_ii, gt_ii, ge_ii, add_ii, sub_ii, neg_i, len_t, len_l, str_s, lst_l, tup_t, int_i, one_1, int_of_i, isN_int, isN_non, isN_tup, isN_str, isN_bl, isN_lst, hx, hm, m1, mod_a, mod_b, pow_12, pow_60, b1, mo]
theorem pool_ok {ns : List Int} (hn : ns.length ≤ 63) : ∃ (d t : Int) (s' : Jr), F__law_pool [.scr ns] ⟨0, 0, 0⟩ = .ok (.lst [.int d, .int t, .int 0]) s' ∧ 0 ≤ d ∧ 0 ≤ t ∧ t < 2147483648 := by
  obtain ⟨B, hB⟩ : ∃ B, B = seqS (thenS (cbS intC (consS (cbS maxC (consS (ixS jl0 (varS 0) (varS 3)) (consS (op2 subD (op1 negD (cS (.int 1))) (ixS jl0 (varS 0) (varS 3))) nilS))) nilS)) fun d ρ s => .nx (ρ.set 4 (.dat d)) s) (seqS (thenS (op2 modD (cbS intC (consS (op2 addD (op2 addD (op2 mulD (varS 2) (cS (.int 48271))) (op2 modD (varS 4) (cS (.int 2147483629)))) (cS (.int 11))) nilS)) (cS (.int 2147483647))) fun d ρ s => .nx (ρ.set 2 (.dat d)) s) (thenS (ifS (andS (asB (op2 geD (varS 4) (op2 powD (cS (.int 10)) (cS (.int 12))))) (asB (op2 ltD (varS 1) (op2 powD (cS (.int 10)) (cS (.int 60)))))) (cbS intC (consS (op2 addD (op2 mulD (varS 1) (op2 powD (cS (.int 10)) (cS (.int 60)))) (op2 modD (varS 4) (op2 powD (cS (.int 10)) (cS (.int 60))))) nilS)) (varS 1)) fun d ρ s => .nx (ρ.set 1 (.dat d)) s)) := ⟨_, rfl⟩
  obtain ⟨ρ1, s1, l1, rfl, d, t, z3, z4, rfl, d0, t0, t1⟩ := forD_inv (i := 3) (B := B) (Iv := PoI ns) (ds := rngD ns.length) (k := 0) (fun e he k ρ s h => by
    unfold rngD at he
    obtain ⟨j, hj, rfl⟩ := List.mem_map.mp he
    exact pool_turn (by simpa using hj) h hB) [.dat (.scr ns), .dat (.int 0), .dat (.int 7), .no, .no] ⟨0, 0, 0⟩ ⟨rfl, 0, 7, .no, .no, rfl, by decide, by decide, by decide⟩
  refine ⟨d, t, ⟨0, 0, 0⟩, ?_, d0, t0, t1⟩
  have hl : lenC [.scr ns] = some (.int ns.length) := rfl
  have hg : (0 : Int) ≤ ns.length ∧ (ns.length : Int) ≤ 1000000 := by omega
  unfold F__law_pool b__law_pool
  rw [← hB]
  simp [fn_ap, then_ap, thenL_ap, seq_ap, iff_ap, skip_ap, opt_some, andV, orV, notV, chS, asB, andS, orS, notS, ifS, callS, consS, tupS, lstS, giveS, op1, op2, op2L, cbS, cbL, ixS, ix_t, ix_l, ix_s, ix_j, ix_c, slS, soP, noP, op1s, op2s, bind_ap, map_ap, ofO_some, var_ap, c_ap, nil_ap, ite_ap, iteS_ap, le_ii, lt_ii, gt_ii, ge_ii, add_ii, sub_ii, neg_i, len_t, len_l, str_s, lst_l, tup_t, int_i, one_1, int_of_i, isN_int, isN_non, isN_tup, isN_str, isN_bl, isN_lst, unS, setsS, guardO, forR, hl, hg, l1]
end Pr
end DL

namespace DL
open PySem PySem.Spec PyProof.Rows L2 PySem.NumText
theorem forD_jar {i : Nat} {B : Ss} {Iv : Nat → En → Jr → Prop} : ∀ {ds : List D} {k : Nat}, (∀ d ∈ ds, ∀ k, k < 1000 → ∀ ρ s, Iv k ρ s → ∃ ρ' s', B (ρ.set i (.dat d)) s = .nx ρ' s' ∧ Iv (k + 1) ρ' s') → k + ds.length ≤ 1000 → ∀ ρ s, Iv k ρ s → ∃ ρ' s', forD i B ds ρ s = .nx ρ' s' ∧ Iv (k + ds.length) ρ' s'
  | [], k, _, _, ρ, s, h => ⟨ρ, s, rfl, h⟩
  | d :: ds, k, hB, hk, ρ, s, h => by
    rw [List.length_cons] at hk
    obtain ⟨ρ1, s1, h1, h2⟩ := hB d (.head _) k (by omega) ρ s h
    obtain ⟨ρ2, s2, h3, h4⟩ := forD_jar (ds := ds) (k := k + 1) (fun e he => hB e (.tail _ he)) (by omega) ρ1 s1 h2
    refine ⟨ρ2, s2, ?_, by rw [List.length_cons, show k + (ds.length + 1) = k + 1 + ds.length by omega]; exact h4⟩
    unfold forD
    simp only [h1]
    exact h3
theorem lc_jar {i : Nat} {T : Sm Bool} {A : Sm D} {ρ : En} {J : Nat → Jr → Prop} : ∀ {ds : List D} {k : Nat} {s : Jr}, (∀ d ∈ ds, ∀ k, k < 1000 → ∀ s, J k s → ∃ s', T (inn i ρ d) s = .ok false s' ∧ J (k + 1) s') → k + ds.length ≤ 1000 → J k s → ∃ s', lcD i T A ds ρ s = .ok [] s' ∧ J (k + ds.length) s'
  | [], k, s, _, _, h => ⟨s, rfl, h⟩
  | d :: ds, k, s, hT, hk, h => by
    rw [List.length_cons] at hk
    obtain ⟨s1, h1, h2⟩ := hT d (.head _) k (by omega) s h
    obtain ⟨s2, h3, h4⟩ := lc_jar (ds := ds) (k := k + 1) (fun e he => hT e (.tail _ he)) (by omega) h2
    refine ⟨s2, ?_, by rw [List.length_cons, show k + (ds.length + 1) = k + 1 + ds.length by omega]; exact h4⟩
    unfold lcD
    simp only [h1]
    exact h3
namespace Pr
def J (k : Nat) (s : Jr) : Prop := JOk (50 * (k : Int)) s
def LaI (k : Nat) (ρ : En) (s : Jr) : Prop := (∃ z2, ρ = [.no, .dat .jar, z2, .no, .no, .no, .no]) ∧ J k s
theorem law_turn {d : D} {k : Nat} (hk : k < 1000) {ρ : En} {s : Jr} (h : LaI k ρ s) : ∃ ρ' s', (iffS (notS (asB (callS 2 F__law_count_right (consS (varS 1) (consS (callS 1 F__law_count (consS (varS 1) nilS)) nilS))))) (thenS (cS (.bl false)) fun d _ s => .rt d s) skipS) (ρ.set 2 (.dat d)) s = .nx ρ' s' ∧ LaI (k + 1) ρ' s' := by
  obtain ⟨⟨z2, rfl⟩, j⟩ := h
  obtain ⟨a, b, t1, e1, o, j1⟩ := count_ok j (by omega)
  obtain ⟨t2, e2, j2⟩ := count_right_ok j1 (by omega) o
  refine ⟨[.no, .dat .jar, .dat d, .no, .no, .no, .no], t2, ?_, ⟨_, rfl⟩, JOk.up j2 (by omega)⟩
  have e : (List.set [Sl.no, .dat .jar, z2, .no, .no, .no, .no] 2 (.dat d)) = [Sl.no, .dat .jar, .dat d, .no, .no, .no, .no] := rfl
  rw [e]
  simp [fn_ap, then_ap, thenL_ap, seq_ap, iff_ap, skip_ap, opt_some, andV, orV, notV, chS, asB, andS, orS, notS, ifS, callS, consS, tupS, lstS, giveS, op1, op2, op2L, cbS, cbL, ixS, ix_t, ix_l, ix_s, ix_j, ix_c, slS, soP, noP, op1s, op2s, bind_ap, map_ap, ofO_some, var_ap, c_ap, nil_ap, ite_ap, iteS_ap, le_ii, lt_ii, gt_ii, ge_ii, add_ii, sub_ii, neg_i, len_t, len_l, str_s, lst_l, tup_t, int_i, one_1, int_of_i, isN_int, isN_non, isN_tup, isN_str, isN_bl, isN_lst, e1, e2]
theorem inn_1 {i : Nat} {ρ : En} {d : D} (hi : i < ρ.length) (h1 : i ≠ 1) (h : ρ[1]? = some (.dat .jar)) : (inn i ρ d)[1]? = some (.dat .jar) ∧ (inn i ρ d)[i]? = some (.dat d) := by
  unfold inn
  refine ⟨by rw [List.getElem?_set_ne h1, List.getElem?_set_ne h1]; exact h, by rw [List.getElem?_set_self (by rw [List.length_set]; exact hi)]⟩
theorem seq_nx {F G : Ss} {ρ ρ' : En} {s s' : Jr} (h : F ρ s = .nx ρ' s') : seqS F G ρ s = G ρ' s' := by
  rw [seq_ap, h]
theorem st_3 (z2 : Sl) (s : Jr) : (thenS (giveS (lstS (consS (tupS (consS (cS (.int 0)) (consS (cS (.int 0)) nilS))) (consS (tupS (consS (cS (.int 0)) (consS (op2 powD (cS (.int 10)) (cS (.int 30))) nilS))) (consS (tupS (consS (cS (.int 1)) (consS (cS (.int 0)) nilS))) (consS (tupS (consS (cS (.int 9)) (consS (op1 negD (op2 powD (cS (.int 10)) (cS (.int 30)))) nilS))) (consS (tupS (consS (cS (.int 9)) (consS (op2 powD (cS (.int 10)) (cS (.int 30))) nilS))) (consS (tupS (consS (cS (.int 1)) (consS (op1 negD (cS (.int 1))) nilS))) (consS (tupS (consS (cS (.int 2)) (consS (cS (.int 1)) nilS))) nilS))))))))) fun d ρ s => .nx (ρ.set 4 (.dat d)) s) [.no, .dat .jar, z2, .no, .no, .no, .no] s = .nx [.no, .dat .jar, z2, .no, .dat (.lst [.tup [.int 0, .int 0], .tup [.int 0, .int 1000000000000000000000000000000], .tup [.int 1, .int 0], .tup [.int 9, .int (-1000000000000000000000000000000)], .tup [.int 9, .int 1000000000000000000000000000000], .tup [.int 1, .int (-1)], .tup [.int 2, .int 1]]), .no, .no] s := by rfl
theorem pure_law : ∀ ns : List Int, ns.length ≤ 63 → ∃ (d s c : Int) (s' : Jr), F__law_pool [.scr ns] ⟨0, 0, 0⟩ = .ok (.lst [.int d, .int s, .int c]) s' ∧ ∃ s2, b_law r_law ⟨d, s, c⟩ = .rt (.bl true) s2 := by
  intro ns hn
  obtain ⟨d, t, s', e0, d0, t0, t1⟩ := pool_ok hn
  refine ⟨d, t, 0, s', e0, ?_⟩
  have j0 : J 0 ⟨d, t, 0⟩ := ⟨d0, t0, t1, Int.le_refl 0, Int.le_refl 0⟩
  obtain ⟨ρ1, s1, l1, ⟨z2, rfl⟩, j1⟩ := forD_jar (i := 2) (Iv := LaI) (ds := rngD 12) (k := 0) (B := iffS (notS (asB (callS 2 F__law_count_right (consS (varS 1) (consS (callS 1 F__law_count (consS (varS 1) nilS)) nilS))))) (thenS (cS (.bl false)) fun d _ s => .rt d s) skipS) (fun d _ k hk ρ s h => law_turn hk h) (by decide) r_law ⟨d, t, 0⟩ ⟨⟨.no, rfl⟩, j0⟩
  have j1' : JOk 600 s1 := j1
  obtain ⟨L, s2, e2, j2, hl, hL⟩ := others_ok j1' (by decide)
  have j2' : J 13 s2 := JOk.up j2 (by decide)
  obtain ⟨s3, l3, j3⟩ := lc_jar (i := 3) (ρ := [.no, .dat .jar, z2, .no, .no, .no, .no]) (T := notS (asB (callS 2 F__law_other_right (consS (varS 1) (consS (varS 3) nilS))))) (A := varS 3) (J := J) (ds := L) (k := 13) (s := s2) (fun d hd k hk s j => by
    obtain ⟨t2, e, j'⟩ := other_right_ok j (by omega) (hL d hd)
    obtain ⟨x1, x2⟩ := inn_1 (i := 3) (ρ := [.no, .dat .jar, z2, .no, .no, .no, .no]) (d := d) (by simp) (by decide) rfl
    refine ⟨t2, ?_, JOk.up j' (by omega)⟩
    simp [fn_ap, then_ap, thenL_ap, seq_ap, iff_ap, skip_ap, opt_some, andV, orV, notV, chS, asB, andS, orS, notS, ifS, callS, consS, tupS, lstS, giveS, op1, op2, op2L, cbS, cbL, ixS, ix_t, ix_l, ix_s, ix_j, ix_c, slS, soP, noP, op1s, op2s, bind_ap, map_ap, ofO_some, var_ap, c_ap, nil_ap, ite_ap, iteS_ap, le_ii, lt_ii, gt_ii, ge_ii, add_ii, sub_ii, neg_i, len_t, len_l, str_s, lst_l, tup_t, int_i, one_1, int_of_i, isN_int, isN_non, isN_tup, isN_str, isN_bl, isN_lst, x1, x2, e]) (by omega) j2'
  have hk3 : 13 + L.length ≤ 113 := by omega
  generalize 13 + L.length = k3 at *
  have hC : ∀ d ∈ ([.tup [.int 0, .int 0], .tup [.int 0, .int 1000000000000000000000000000000], .tup [.int 1, .int 0], .tup [.int 9, .int (-1000000000000000000000000000000)], .tup [.int 9, .int 1000000000000000000000000000000], .tup [.int 1, .int (-1)], .tup [.int 2, .int 1]] : List D), ∃ a b, d = .tup [.int a, .int b] ∧ Ok a b := by
    intro d hd
    simp only [List.mem_cons, List.not_mem_nil, or_false] at hd
    rcases hd with rfl | rfl | rfl | rfl | rfl | rfl | rfl <;> exact ⟨_, _, rfl, ⟨by decide, by decide, by decide, by decide, by decide⟩⟩
  obtain ⟨s4, l4, j4⟩ := lc_jar (i := 5) (ρ := [.no, .dat .jar, z2, .no, .dat (.lst [.tup [.int 0, .int 0], .tup [.int 0, .int 1000000000000000000000000000000], .tup [.int 1, .int 0], .tup [.int 9, .int (-1000000000000000000000000000000)], .tup [.int 9, .int 1000000000000000000000000000000], .tup [.int 1, .int (-1)], .tup [.int 2, .int 1]]), .no, .no]) (T := notS (asB (callS 2 F__law_count_right (consS (varS 1) (consS (varS 5) nilS))))) (A := varS 5) (J := J) (k := k3) (s := s3) (fun d hd k hk s j => by
    obtain ⟨a, b, rfl, o⟩ := hC d hd
    obtain ⟨t2, e, j'⟩ := count_right_ok j (by omega) o
    obtain ⟨x1, x2⟩ := inn_1 (i := 5) (ρ := [.no, .dat .jar, z2, .no, .dat (.lst [.tup [.int 0, .int 0], .tup [.int 0, .int 1000000000000000000000000000000], .tup [.int 1, .int 0], .tup [.int 9, .int (-1000000000000000000000000000000)], .tup [.int 9, .int 1000000000000000000000000000000], .tup [.int 1, .int (-1)], .tup [.int 2, .int 1]]), .no, .no]) (d := .tup [.int a, .int b]) (by simp) (by decide) rfl
    refine ⟨t2, ?_, JOk.up j' (by omega)⟩
    simp [fn_ap, then_ap, thenL_ap, seq_ap, iff_ap, skip_ap, opt_some, andV, orV, notV, chS, asB, andS, orS, notS, ifS, callS, consS, tupS, lstS, giveS, op1, op2, op2L, cbS, cbL, ixS, ix_t, ix_l, ix_s, ix_j, ix_c, slS, soP, noP, op1s, op2s, bind_ap, map_ap, ofO_some, var_ap, c_ap, nil_ap, ite_ap, iteS_ap, le_ii, lt_ii, gt_ii, ge_ii, add_ii, sub_ii, neg_i, len_t, len_l, str_s, lst_l, tup_t, int_i, one_1, int_of_i, isN_int, isN_non, isN_tup, isN_str, isN_bl, isN_lst, x1, x2, e]) (by show k3 + 7 ≤ 1000; omega) j3
  obtain ⟨u1, k1, y1⟩ := mul_tx (x := "9") (n := 1) (k := 5000) (lit_tx (by decide +kernel)) (by decide) (by decide) (by decide)
  obtain ⟨u2, k2, y2⟩ := mul_tx (x := "9") (n := 1) (k := 4000) (lit_tx (by decide +kernel)) (by decide) (by decide) (by decide)
  obtain ⟨u3, k3', y3⟩ := mul_tx (x := "n") (n := 1) (k := 3000) (lit_tx (by decide +kernel)) (by decide) (by decide) (by decide)
  obtain ⟨u4, k4, y4⟩ := mul_tx (x := "0") (n := 1) (k := 31) (lit_tx (by decide +kernel)) (by decide) (by decide) (by decide)
  obtain ⟨u5, k5, y5⟩ := mul_tx (x := "0") (n := 1) (k := 30) (lit_tx (by decide +kernel)) (by decide) (by decide) (by decide)
  obtain ⟨u6, k6, y6⟩ := mul_tx (x := "9") (n := 1) (k := 31) (lit_tx (by decide +kernel)) (by decide) (by decide) (by decide)
  obtain ⟨v2, k7, y7⟩ := add_tx (x := "n+") (n := 2) (lit_tx (by decide +kernel)) y2 (by decide)
  obtain ⟨v4, k8, y8⟩ := add_tx (x := "1") (n := 1) (lit_tx (by decide +kernel)) y4 (by decide)
  obtain ⟨v5, k9, y9⟩ := add_tx (x := "n-1") (n := 3) (lit_tx (by decide +kernel)) y5 (by decide)
  obtain ⟨v6, k10, y10⟩ := add_tx (x := "n-1") (n := 3) (lit_tx (by decide +kernel)) y4 (by decide)
  have k1' : mulD (.str "9") (.int 5000) = some (.str u1) := k1
  have k2' : mulD (.str "9") (.int 4000) = some (.str u2) := k2
  have k3'' : mulD (.str "n") (.int 3000) = some (.str u3) := k3'
  have k4' : mulD (.str "0") (.int 31) = some (.str u4) := k4
  have k5' : mulD (.str "0") (.int 30) = some (.str u5) := k5
  have k6' : mulD (.str "9") (.int 31) = some (.str u6) := k6
  obtain ⟨FL, hFL⟩ : ∃ FL : List D, FL = [.str u1, .str v2, .str u3, .str v4, .str v5, .str v6, .str u6] := ⟨_, rfl⟩
  obtain ⟨OL, hOL⟩ : ∃ OL : List D, OL = [.non, .int 7, .bl true, .lst [.str "n"], .tup [.str "n"], .dic [] []] := ⟨_, rfl⟩
  have hG1 : ∀ d ∈ FL, Good' d := by
    intro d hd
    rw [hFL] at hd
    simp only [List.mem_cons, List.not_mem_nil, or_false] at hd
    rcases hd with rfl | rfl | rfl | rfl | rfl | rfl | rfl
    · exact good_s y1 (by decide)
    · exact good_s y7 (by decide)
    · exact good_s y3 (by decide)
    · exact good_s y8 (by decide)
    · exact good_s y9 (by decide)
    · exact good_s y10 (by decide)
    · exact good_s y6 (by decide)
  have hG2 : ∀ d ∈ OL, Good' d := by
    intro d hd
    rw [hOL] at hd
    simp only [List.mem_cons, List.not_mem_nil, or_false] at hd
    rcases hd with rfl | rfl | rfl | rfl | rfl | rfl
    · exact .inr ⟨trivial, rfl, sb_n⟩
    · exact .inr ⟨trivial, rfl, sb_i⟩
    · exact .inr ⟨trivial, rfl, sb_b⟩
    · exact .inr ⟨trivial, rfl, sb_lst (fun e he => by rcases List.mem_cons.mp he with rfl | he; exact sb_s; cases he) (Nat.le_add_left 1 999)⟩
    · exact .inr ⟨trivial, rfl, sb_t1 sb_s⟩
    · exact .inr ⟨trivial, rfl, sb_flat (d := .dic [] []) trivial⟩
  have lF : FL.length = 7 := by rw [hFL]; rfl
  have lO : OL.length = 6 := by rw [hOL]; rfl
  obtain ⟨GL, hA, hG, hGl⟩ : ∃ GL, addD (.lst FL) (.lst OL) = some (.lst GL) ∧ (∀ d ∈ GL, Good' d) ∧ GL.length ≤ 1000000 :=
    ⟨FL ++ OL, add_ll (by omega), fun d hd => (List.mem_append.mp hd).elim (hG1 d) (hG2 d), by rw [List.length_append]; omega⟩
  rw [hFL, hOL] at hA
  have i6 : ∀ ρ : En, 3 < ρ.length → lcD 3 (notS (asB (callS 1 F__law_text_right (consS (varS 3) nilS)))) (varS 3) GL ρ s4 = .ok [] s4 := fun ρ hρ => none_wrong hρ hG
  have i7 := short_ok s4
  have ne : eqD true (.lst []) (.lst []) = some (.bl false) := rfl
  have hl' : L.length ≤ 1000000 := by omega
  simp only [notS, asB, callS, consS] at l1 l3 l4 i6
  have h1 : (forR 2 (consS (cS (.int 12)) nilS) (iffS (notS (asB (callS 2 F__law_count_right (consS (varS 1) (consS (callS 1 F__law_count (consS (varS 1) nilS)) nilS))))) (thenS (cS (.bl false)) fun d _ s => .rt d s) skipS)) r_law ⟨d, t, 0⟩ = .nx [.no, .dat .jar, z2, .no, .no, .no, .no] s1 := by
    simp [fn_ap, then_ap, thenL_ap, seq_ap, iff_ap, skip_ap, opt_some, andV, orV, notV, chS, asB, andS, orS, notS, ifS, callS, consS, tupS, lstS, giveS, op1, op2, op2L, cbS, cbL, ixS, ix_t, ix_l, ix_s, ix_j, ix_c, slS, soP, noP, op1s, op2s, bind_ap, map_ap, ofO_some, var_ap, c_ap, nil_ap, ite_ap, iteS_ap, le_ii, lt_ii, gt_ii, ge_ii, add_ii, sub_ii, neg_i, len_t, len_l, str_s, lst_l, tup_t, int_i, one_1, int_of_i, isN_int, isN_non, isN_tup, isN_str, isN_bl, isN_lst, forR, guardO, l1]
  have h2 : (iffS (asB (op2 (eqD true) (giveS (lcLS 3 (notS (asB (callS 2 F__law_other_right (consS (varS 1) (consS (varS 3) nilS))))) (varS 3) (callS 1 F__law_others (consS (varS 1) nilS)))) (giveS (lstS nilS)))) (thenS (cS (.bl false)) fun d _ s => .rt d s) skipS) [.no, .dat .jar, z2, .no, .no, .no, .no] s1 = .nx [.no, .dat .jar, z2, .no, .no, .no, .no] s3 := by
    simp [fn_ap, then_ap, thenL_ap, seq_ap, iff_ap, skip_ap, opt_some, andV, orV, notV, chS, asB, andS, orS, notS, ifS, callS, consS, tupS, lstS, giveS, op1, op2, op2L, cbS, cbL, ixS, ix_t, ix_l, ix_s, ix_j, ix_c, slS, soP, noP, op1s, op2s, bind_ap, map_ap, ofO_some, var_ap, c_ap, nil_ap, ite_ap, iteS_ap, le_ii, lt_ii, gt_ii, ge_ii, add_ii, sub_ii, neg_i, len_t, len_l, str_s, lst_l, tup_t, int_i, one_1, int_of_i, isN_int, isN_non, isN_tup, isN_str, isN_bl, isN_lst, guardO, lcLS, lcS, e2, hl', l3, ne]
  have h4 : (iffS (asB (op2 (eqD true) (giveS (lcLS 5 (notS (asB (callS 2 F__law_count_right (consS (varS 1) (consS (varS 5) nilS))))) (varS 5) (varS 4))) (giveS (lstS nilS)))) (thenS (cS (.bl false)) fun d _ s => .rt d s) skipS) [.no, .dat .jar, z2, .no, .dat (.lst [.tup [.int 0, .int 0], .tup [.int 0, .int 1000000000000000000000000000000], .tup [.int 1, .int 0], .tup [.int 9, .int (-1000000000000000000000000000000)], .tup [.int 9, .int 1000000000000000000000000000000], .tup [.int 1, .int (-1)], .tup [.int 2, .int 1]]), .no, .no] s3 = .nx [.no, .dat .jar, z2, .no, .dat (.lst [.tup [.int 0, .int 0], .tup [.int 0, .int 1000000000000000000000000000000], .tup [.int 1, .int 0], .tup [.int 9, .int (-1000000000000000000000000000000)], .tup [.int 9, .int 1000000000000000000000000000000], .tup [.int 1, .int (-1)], .tup [.int 2, .int 1]]), .no, .no] s4 := by
    simp [fn_ap, then_ap, thenL_ap, seq_ap, iff_ap, skip_ap, opt_some, andV, orV, notV, chS, asB, andS, orS, notS, ifS, callS, consS, tupS, lstS, giveS, op1, op2, op2L, cbS, cbL, ixS, ix_t, ix_l, ix_s, ix_j, ix_c, slS, soP, noP, op1s, op2s, bind_ap, map_ap, ofO_some, var_ap, c_ap, nil_ap, ite_ap, iteS_ap, le_ii, lt_ii, gt_ii, ge_ii, add_ii, sub_ii, neg_i, len_t, len_l, str_s, lst_l, tup_t, int_i, one_1, int_of_i, isN_int, isN_non, isN_tup, isN_str, isN_bl, isN_lst, guardO, lcLS, lcS, l4, ne]
  have h5 : ∀ CLv : List D, (thenS (giveS (lstS (consS (op2 mulD (cS (.str "9")) (cS (.int 5000))) (consS (op2 addD (cS (.str "n+")) (op2 mulD (cS (.str "9")) (cS (.int 4000)))) (consS (op2 mulD (cS (.str "n")) (cS (.int 3000))) (consS (op2 addD (cS (.str "1")) (op2 mulD (cS (.str "0")) (cS (.int 31)))) (consS (op2 addD (cS (.str "n-1")) (op2 mulD (cS (.str "0")) (cS (.int 30)))) (consS (op2 addD (cS (.str "n-1")) (op2 mulD (cS (.str "0")) (cS (.int 31)))) (consS (op2 mulD (cS (.str "9")) (cS (.int 31))) nilS))))))))) fun d ρ s => .nx (ρ.set 6 (.dat d)) s) [.no, .dat .jar, z2, .no, .dat (.lst CLv), .no, .no] s4 = .nx [.no, .dat .jar, z2, .no, .dat (.lst CLv), .no, .dat (.lst [.str u1, .str v2, .str u3, .str v4, .str v5, .str v6, .str u6])] s4 := by
    intro CLv
    simp [fn_ap, then_ap, thenL_ap, seq_ap, iff_ap, skip_ap, opt_some, andV, orV, notV, chS, asB, andS, orS, notS, ifS, callS, consS, tupS, lstS, giveS, op1, op2, op2L, cbS, cbL, ixS, ix_t, ix_l, ix_s, ix_j, ix_c, slS, soP, noP, op1s, op2s, bind_ap, map_ap, ofO_some, var_ap, c_ap, nil_ap, ite_ap, iteS_ap, le_ii, lt_ii, gt_ii, ge_ii, add_ii, sub_ii, neg_i, len_t, len_l, str_s, lst_l, tup_t, int_i, one_1, int_of_i, isN_int, isN_non, isN_tup, isN_str, isN_bl, isN_lst, k1', k2', k3'', k4', k5', k6', k7, k8, k9, k10]
  have h6 : ∀ ρ : En, ρ.length = 7 → ρ[6]? = some (.dat (.lst [.str u1, .str v2, .str u3, .str v4, .str v5, .str v6, .str u6])) → (iffS (asB (op2 (eqD true) (giveS (lcLS 3 (notS (asB (callS 1 F__law_text_right (consS (varS 3) nilS)))) (varS 3) (op2 addD (varS 6) (giveS (lstS (consS (cS .non) (consS (cS (.int 7)) (consS (cS (.bl true)) (consS (giveS (lstS (consS (cS (.str "n")) nilS))) (consS (tupS (consS (cS (.str "n")) nilS)) (consS (cS (.dic [] [])) nilS))))))))))) (giveS (lstS nilS)))) (thenS (cS (.bl false)) fun d _ s => .rt d s) skipS) ρ s4 = .nx ρ s4 := by
    intro ρ q1 q2
    have i6' := i6 ρ (by omega)
    simp [fn_ap, then_ap, thenL_ap, seq_ap, iff_ap, skip_ap, opt_some, andV, orV, notV, chS, asB, andS, orS, notS, ifS, callS, consS, tupS, lstS, giveS, op1, op2, op2L, cbS, cbL, ixS, ix_t, ix_l, ix_s, ix_j, ix_c, slS, soP, noP, op1s, op2s, bind_ap, map_ap, ofO_some, var_ap, c_ap, nil_ap, ite_ap, iteS_ap, le_ii, lt_ii, gt_ii, ge_ii, add_ii, sub_ii, neg_i, len_t, len_l, str_s, lst_l, tup_t, int_i, one_1, int_of_i, isN_int, isN_non, isN_tup, isN_str, isN_bl, isN_lst, guardO, lcLS, lcS, q2, hA, hGl, i6', ne]
  have h7 : ∀ ρ : En, (thenS (callS 0 F__law_short_right nilS) fun d _ s => .rt d s) ρ s4 = .rt (.bl true) s4 := by
    intro ρ
    simp [fn_ap, then_ap, thenL_ap, seq_ap, iff_ap, skip_ap, opt_some, andV, orV, notV, chS, asB, andS, orS, notS, ifS, callS, consS, tupS, lstS, giveS, op1, op2, op2L, cbS, cbL, ixS, ix_t, ix_l, ix_s, ix_j, ix_c, slS, soP, noP, op1s, op2s, bind_ap, map_ap, ofO_some, var_ap, c_ap, nil_ap, ite_ap, iteS_ap, le_ii, lt_ii, gt_ii, ge_ii, add_ii, sub_ii, neg_i, len_t, len_l, str_s, lst_l, tup_t, int_i, one_1, int_of_i, isN_int, isN_non, isN_tup, isN_str, isN_bl, isN_lst, i7]
  refine ⟨s4, ?_⟩
  unfold b_law
  rw [seq_nx h1, seq_nx h2, seq_nx (st_3 z2 s3), seq_nx h4, seq_nx (h5 _), seq_nx (h6 _ rfl rfl), h7]
end Pr
end DL

namespace DL
namespace Pr
open PySem PySem.Spec PyProof.Rows L2
set_option maxHeartbeats 8000000 in
theorem all_mk {l : PySem.W.OpenLaw} {w : World} {P : Program} {K : PySem.W.Frag} {h : Heap} {mg : Str → Option Value} {fa : Addr} (hP : l.prog = P) (X : K.In h) (G : h.Ns mainGlobals mg) (hfa : mg "law" = some (.ref fa))
    {t_FIGURES : Tok}
    {t_MOST_NUMBER : Tok}
    {t_MOST_FIGURES : Tok}
    {t_MOST_TIMES : Tok}
    {a_RoomError : Addr}
    {a_BadText : Addr}
    {a_BadCount : Addr}
    {a_BadNumber : Addr}
    {fI cda cc : Addr} {i_oc i_doc i_pm i_ct i_ccl i_cl : Value} {i_od i_an i_cdd i_cld : Option Addr} {i_osl i_ccs i_csl : Array (Option Value)} {i_vs : Array Value} {i_file : Str} {i_tf : Tok} {i_cdR : ClassData}
    {nm_BadText qn_BadText : Str} {N_BadText : Addr} {bs_BadText bm_BadText : List Value} {sn_BadText : List Str} {sub_BadText : List Value} {ab_BadText : Bool} {col_BadText : Option Bool} {dd_BadText : Option Addr} {k0_BadText k1_BadText k2_BadText k3_BadText k5_BadText : Option Value}
    {nm_BadCount qn_BadCount : Str} {N_BadCount : Addr} {bs_BadCount bm_BadCount : List Value} {sn_BadCount : List Str} {sub_BadCount : List Value} {ab_BadCount : Bool} {col_BadCount : Option Bool} {dd_BadCount : Option Addr} {k0_BadCount k1_BadCount k2_BadCount k3_BadCount k5_BadCount : Option Value}
    {nm_BadNumber qn_BadNumber : Str} {N_BadNumber : Addr} {bs_BadNumber bm_BadNumber : List Value} {sn_BadNumber : List Str} {sub_BadNumber : List Value} {ab_BadNumber : Bool} {col_BadNumber : Option Bool} {dd_BadNumber : Option Addr} {k0_BadNumber k1_BadNumber k2_BadNumber k3_BadNumber k5_BadNumber : Option Value}
    {f_is_integer : Addr} {oc_is_integer kV_is_integer dc_is_integer pm_is_integer ct_is_integer : Value} {od_is_integer an_is_integer : Option Addr} {sl_is_integer : Array (Option Value)}
    {cd_is_integer : Value}
    {f_is_between : Addr} {oc_is_between kV_is_between dc_is_between pm_is_between ct_is_between : Value} {od_is_between an_is_between : Option Addr} {sl_is_between : Array (Option Value)}
    {cd_is_between : Value}
    {f_check_number : Addr} {oc_check_number kV_check_number dc_check_number pm_check_number ct_check_number : Value} {od_check_number an_check_number : Option Addr} {sl_check_number : Array (Option Value)}
    {cd_check_number : Value}
    {f_is_count : Addr} {oc_is_count kV_is_count dc_is_count pm_is_count ct_is_count : Value} {od_is_count an_is_count : Option Addr} {sl_is_count : Array (Option Value)}
    {cd_is_count : Value}
    {f_check_count : Addr} {oc_check_count kV_check_count dc_check_count pm_check_count ct_check_count : Value} {od_check_count an_check_count : Option Addr} {sl_check_count : Array (Option Value)}
    {cd_check_count : Value}
    {f_rounds_at : Addr} {oc_rounds_at kV_rounds_at dc_rounds_at pm_rounds_at ct_rounds_at : Value} {od_rounds_at an_rounds_at : Option Addr} {sl_rounds_at : Array (Option Value)}
    {cd_rounds_at : Value}
    {f_rounds : Addr} {oc_rounds kV_rounds dc_rounds pm_rounds ct_rounds : Value} {od_rounds an_rounds : Option Addr} {sl_rounds : Array (Option Value)}
    {cd_rounds : Value}
    {f_format_count : Addr} {oc_format_count kV_format_count dc_format_count pm_format_count ct_format_count : Value} {od_format_count an_format_count : Option Addr} {sl_format_count : Array (Option Value)}
    {cd_format_count : Value}
    {f_number_in : Addr} {oc_number_in kV_number_in dc_number_in pm_number_in ct_number_in : Value} {od_number_in an_number_in : Option Addr} {sl_number_in : Array (Option Value)}
    {cd_number_in : Value}
    {f_count_in : Addr} {oc_count_in kV_count_in dc_count_in pm_count_in ct_count_in : Value} {od_count_in an_count_in : Option Addr} {sl_count_in : Array (Option Value)}
    {cd_count_in : Value}
    {f_parse_count : Addr} {oc_parse_count kV_parse_count dc_parse_count pm_parse_count ct_parse_count : Value} {od_parse_count an_parse_count : Option Addr} {sl_parse_count : Array (Option Value)}
    {cd_parse_count : Value}
    {f__law_pool : Addr} {oc__law_pool kV__law_pool dc__law_pool pm__law_pool ct__law_pool : Value} {od__law_pool an__law_pool : Option Addr} {sl__law_pool : Array (Option Value)}
    {cd__law_pool : Value}
    {f__law_take : Addr} {oc__law_take kV__law_take dc__law_take pm__law_take ct__law_take : Value} {od__law_take an__law_take : Option Addr} {sl__law_take : Array (Option Value)}
    {cd__law_take : Value}
    {f__law_one : Addr} {oc__law_one kV__law_one dc__law_one pm__law_one ct__law_one : Value} {od__law_one an__law_one : Option Addr} {sl__law_one : Array (Option Value)}
    {cd__law_one : Value}
    {f__law_yq_is_whole : Addr} {oc__law_yq_is_whole kV__law_yq_is_whole dc__law_yq_is_whole pm__law_yq_is_whole ct__law_yq_is_whole : Value} {od__law_yq_is_whole an__law_yq_is_whole : Option Addr} {sl__law_yq_is_whole : Array (Option Value)}
    {cd__law_yq_is_whole : Value}
    {f__law_yq_same : Addr} {oc__law_yq_same kV__law_yq_same dc__law_yq_same pm__law_yq_same ct__law_yq_same : Value} {od__law_yq_same an__law_yq_same : Option Addr} {sl__law_yq_same : Array (Option Value)}
    {cd__law_yq_same : Value}
    {f__law_ra_is_int : Addr} {oc__law_ra_is_int kV__law_ra_is_int dc__law_ra_is_int pm__law_ra_is_int ct__law_ra_is_int : Value} {od__law_ra_is_int an__law_ra_is_int : Option Addr} {sl__law_ra_is_int : Array (Option Value)}
    {cd__law_ra_is_int : Value}
    {f__law_ra_is_count : Addr} {oc__law_ra_is_count kV__law_ra_is_count dc__law_ra_is_count pm__law_ra_is_count ct__law_ra_is_count : Value} {od__law_ra_is_count an__law_ra_is_count : Option Addr} {sl__law_ra_is_count : Array (Option Value)}
    {cd__law_ra_is_count : Value}
    {f__law_ra_rounds : Addr} {oc__law_ra_rounds kV__law_ra_rounds dc__law_ra_rounds pm__law_ra_rounds ct__law_ra_rounds : Value} {od__law_ra_rounds an__law_ra_rounds : Option Addr} {sl__law_ra_rounds : Array (Option Value)}
    {cd__law_ra_rounds : Value}
    {f__law_ra_count_text : Addr} {oc__law_ra_count_text kV__law_ra_count_text dc__law_ra_count_text pm__law_ra_count_text ct__law_ra_count_text : Value} {od__law_ra_count_text an__law_ra_count_text : Option Addr} {sl__law_ra_count_text : Array (Option Value)}
    {cd__law_ra_count_text : Value}
    {f__law_heard : Addr} {oc__law_heard kV__law_heard dc__law_heard pm__law_heard ct__law_heard : Value} {od__law_heard an__law_heard : Option Addr} {sl__law_heard : Array (Option Value)}
    {cd__law_heard : Value}
    {f__law_figures : Addr} {oc__law_figures kV__law_figures dc__law_figures pm__law_figures ct__law_figures : Value} {od__law_figures an__law_figures : Option Addr} {sl__law_figures : Array (Option Value)}
    {cd__law_figures : Value}
    {f__law_read : Addr} {oc__law_read kV__law_read dc__law_read pm__law_read ct__law_read : Value} {od__law_read an__law_read : Option Addr} {sl__law_read : Array (Option Value)}
    {cd__law_read : Value}
    {f__law_count : Addr} {oc__law_count kV__law_count dc__law_count pm__law_count ct__law_count : Value} {od__law_count an__law_count : Option Addr} {sl__law_count : Array (Option Value)}
    {cd__law_count : Value}
    {f__law_number : Addr} {oc__law_number kV__law_number dc__law_number pm__law_number ct__law_number : Value} {od__law_number an__law_number : Option Addr} {sl__law_number : Array (Option Value)}
    {cd__law_number : Value}
    {f__law_others : Addr} {oc__law_others kV__law_others dc__law_others pm__law_others ct__law_others : Value} {od__law_others an__law_others : Option Addr} {sl__law_others : Array (Option Value)}
    {cd__law_others : Value}
    {f__law_heard_text : Addr} {oc__law_heard_text kV__law_heard_text dc__law_heard_text pm__law_heard_text ct__law_heard_text : Value} {od__law_heard_text an__law_heard_text : Option Addr} {sl__law_heard_text : Array (Option Value)}
    {c__law_heard_text P__law_heard_text : Addr} {vs__law_heard_text : Array Value} {v1__law_heard_text : Value} {v2__law_heard_text : Option Addr} {v3__law_heard_text : Array (Option Value)}
    {f__law_text_right : Addr} {oc__law_text_right kV__law_text_right dc__law_text_right pm__law_text_right ct__law_text_right : Value} {od__law_text_right an__law_text_right : Option Addr} {sl__law_text_right : Array (Option Value)}
    {cd__law_text_right : Value}
    {f__law_bent : Addr} {oc__law_bent kV__law_bent dc__law_bent pm__law_bent ct__law_bent : Value} {od__law_bent an__law_bent : Option Addr} {sl__law_bent : Array (Option Value)}
    {cd__law_bent : Value}
    {f__law_count_right : Addr} {oc__law_count_right kV__law_count_right dc__law_count_right pm__law_count_right ct__law_count_right : Value} {od__law_count_right an__law_count_right : Option Addr} {sl__law_count_right : Array (Option Value)}
    {c__law_count_right P__law_count_right : Addr} {vs__law_count_right : Array Value} {v1__law_count_right : Value} {v2__law_count_right : Option Addr} {v3__law_count_right : Array (Option Value)}
    {f__law_other_right : Addr} {oc__law_other_right kV__law_other_right dc__law_other_right pm__law_other_right ct__law_other_right : Value} {od__law_other_right an__law_other_right : Option Addr} {sl__law_other_right : Array (Option Value)}
    {c__law_other_right P__law_other_right : Addr} {vs__law_other_right : Array Value} {v1__law_other_right : Value} {v2__law_other_right : Option Addr} {v3__law_other_right : Array (Option Value)}
    {f__law_short_right : Addr} {oc__law_short_right kV__law_short_right dc__law_short_right pm__law_short_right ct__law_short_right : Value} {od__law_short_right an__law_short_right : Option Addr} {sl__law_short_right : Array (Option Value)}
    {cd__law_short_right : Value}
    {f_law : Addr} {oc_law kV_law dc_law pm_law ct_law : Value} {od_law an_law : Option Addr} {sl_law : Array (Option Value)}
    {cd_law : Value}
    (n_abs : PySem.W.nsIn K mainGlobals "abs" = some none)
    (n_all : PySem.W.nsIn K mainGlobals "all" = some none)
    (n_bool : PySem.W.nsIn K mainGlobals "bool" = some none)
    (n_int : PySem.W.nsIn K mainGlobals "int" = some none)
    (n_isinstance : PySem.W.nsIn K mainGlobals "isinstance" = some none)
    (n_len : PySem.W.nsIn K mainGlobals "len" = some none)
    (n_list : PySem.W.nsIn K mainGlobals "list" = some none)
    (n_max : PySem.W.nsIn K mainGlobals "max" = some none)
    (n_range : PySem.W.nsIn K mainGlobals "range" = some none)
    (n_str : PySem.W.nsIn K mainGlobals "str" = some none)
    (n_super : PySem.W.nsIn K mainGlobals "super" = some none)
    (n_tuple : PySem.W.nsIn K mainGlobals "tuple" = some none)
    (g_FIGURES : PySem.W.nsIn K mainGlobals "FIGURES" = some (some (.str "0123456789" t_FIGURES)))
    (g_MOST_NUMBER : PySem.W.nsIn K mainGlobals "MOST_NUMBER" = some (some (.int (10 ^ 30) t_MOST_NUMBER)))
    (g_MOST_FIGURES : PySem.W.nsIn K mainGlobals "MOST_FIGURES" = some (some (.int 31 t_MOST_FIGURES)))
    (g_MOST_TIMES : PySem.W.nsIn K mainGlobals "MOST_TIMES" = some (some (.int 9 t_MOST_TIMES)))
    (C_RoomError : PySem.W.nsIn K mainGlobals "RoomError" = some (some (.ref a_RoomError)))
    (C_BadText : PySem.W.nsIn K mainGlobals "BadText" = some (some (.ref a_BadText)))
    (C_BadCount : PySem.W.nsIn K mainGlobals "BadCount" = some (some (.ref a_BadCount)))
    (C_BadNumber : PySem.W.nsIn K mainGlobals "BadNumber" = some (some (.ref a_BadNumber)))
    (i_f : PySem.W.findIn K (.ref a_BadText) "__init__" = some (some (.ref fI)))
    (i_l : K.lookup fI = some ⟨i_oc, i_od, .func (PySem.W.ksFn "__init__" "RoomError.__init__" RX.iA RX.iB RX.iS .none .none i_doc i_pm i_an (.ref cda) i_ct cc), i_osl⟩)
    (i_c : PySem.W.codeIn K (.ref cda) "RoomError.__init__" = true)
    (i_d : K.lookup cda = some ⟨i_ccl, i_cdd, .fields i_vs, i_ccs⟩)
    (i_v : i_vs[2]? = some (.str i_file i_tf))
    (i_w : ((P.main.file : Str) == i_file) = true)
    (i_x : K.lookup cc = some ⟨i_cl, i_cld, .cell (some (.ref a_RoomError)), i_csl⟩)
    (i_r : PySem.W.clsIn K a_RoomError = some i_cdR)
    (i_t : (P.main.scope.names.lookup ("super" : Str)).isSome = false)
    (i_ty : PySem.W.typeIn K (.ref fI) = some (.type "function"))
    (i_o : PySem.W.nsIn K cStatics "thirdparty.any" = some none)
    (x1_BadText : K.lookup a_BadText = some (excClassObj nm_BadText qn_BadText a_BadText N_BadText bs_BadText bm_BadText true sn_BadText sub_BadText ab_BadText col_BadText dd_BadText k0_BadText k1_BadText k2_BadText k3_BadText k5_BadText "ValueError.__new__"))
    (x2_BadText : PySem.HandSPX.refsVE bm_BadText = true)
    (x3_BadText : PySem.W.findIn K (.ref a_BadText) "__setattr__" = some (some (.builtin "object.__setattr__")))
    (x4_BadText : PySem.W.findIn K (.ref a_BadText) "__getattribute__" = some (some (.builtin "BaseException.__getattribute__")))
    (x5_BadText : PySem.W.findIn K (.ref a_BadText) "__getattr__" = some none)
    (x6_BadText : PySem.W.findIn K (.ref a_BadText) "value" = some none)
    (x7_BadText : PySem.W.findIn K (.ref a_BadText) "__init__" = some (some (.ref fI)))
    (x8_BadText : PySem.W.keepIn K (.ref a_BadText) = true)
    (x9_BadText : PySem.W.subIn K (.ref a_BadText) (.type "BaseException") = some true)
    (xa_BadText : PySem.W.subIn K (.ref a_BadText) (.type "ValueError") = some true)
    (xb_BadText : PySem.W.typeIn K (.ref a_BadText) = some (.type "type"))
    (xc_BadText : PySem.W.hasDictIn K a_BadText = true)
    (xd_BadText : PySem.W.mroIn K a_BadText (.ref a_RoomError) = some true)
    (xe_BadText : PySem.W.ks_superIn K a_BadText a_RoomError "__init__" = some (some (.builtin "ValueError.__init__")))
    (x1_BadCount : K.lookup a_BadCount = some (excClassObj nm_BadCount qn_BadCount a_BadCount N_BadCount bs_BadCount bm_BadCount true sn_BadCount sub_BadCount ab_BadCount col_BadCount dd_BadCount k0_BadCount k1_BadCount k2_BadCount k3_BadCount k5_BadCount "ValueError.__new__"))
    (x2_BadCount : PySem.HandSPX.refsVE bm_BadCount = true)
    (x3_BadCount : PySem.W.findIn K (.ref a_BadCount) "__setattr__" = some (some (.builtin "object.__setattr__")))
    (x4_BadCount : PySem.W.findIn K (.ref a_BadCount) "__getattribute__" = some (some (.builtin "BaseException.__getattribute__")))
    (x5_BadCount : PySem.W.findIn K (.ref a_BadCount) "__getattr__" = some none)
    (x6_BadCount : PySem.W.findIn K (.ref a_BadCount) "value" = some none)
    (x7_BadCount : PySem.W.findIn K (.ref a_BadCount) "__init__" = some (some (.ref fI)))
    (x8_BadCount : PySem.W.keepIn K (.ref a_BadCount) = true)
    (x9_BadCount : PySem.W.subIn K (.ref a_BadCount) (.type "BaseException") = some true)
    (xa_BadCount : PySem.W.subIn K (.ref a_BadCount) (.type "ValueError") = some true)
    (xb_BadCount : PySem.W.typeIn K (.ref a_BadCount) = some (.type "type"))
    (xc_BadCount : PySem.W.hasDictIn K a_BadCount = true)
    (xd_BadCount : PySem.W.mroIn K a_BadCount (.ref a_RoomError) = some true)
    (xe_BadCount : PySem.W.ks_superIn K a_BadCount a_RoomError "__init__" = some (some (.builtin "ValueError.__init__")))
    (x1_BadNumber : K.lookup a_BadNumber = some (excClassObj nm_BadNumber qn_BadNumber a_BadNumber N_BadNumber bs_BadNumber bm_BadNumber true sn_BadNumber sub_BadNumber ab_BadNumber col_BadNumber dd_BadNumber k0_BadNumber k1_BadNumber k2_BadNumber k3_BadNumber k5_BadNumber "ValueError.__new__"))
    (x2_BadNumber : PySem.HandSPX.refsVE bm_BadNumber = true)
    (x3_BadNumber : PySem.W.findIn K (.ref a_BadNumber) "__setattr__" = some (some (.builtin "object.__setattr__")))
    (x4_BadNumber : PySem.W.findIn K (.ref a_BadNumber) "__getattribute__" = some (some (.builtin "BaseException.__getattribute__")))
    (x5_BadNumber : PySem.W.findIn K (.ref a_BadNumber) "__getattr__" = some none)
    (x6_BadNumber : PySem.W.findIn K (.ref a_BadNumber) "value" = some none)
    (x7_BadNumber : PySem.W.findIn K (.ref a_BadNumber) "__init__" = some (some (.ref fI)))
    (x8_BadNumber : PySem.W.keepIn K (.ref a_BadNumber) = true)
    (x9_BadNumber : PySem.W.subIn K (.ref a_BadNumber) (.type "BaseException") = some true)
    (xa_BadNumber : PySem.W.subIn K (.ref a_BadNumber) (.type "ValueError") = some true)
    (xb_BadNumber : PySem.W.typeIn K (.ref a_BadNumber) = some (.type "type"))
    (xc_BadNumber : PySem.W.hasDictIn K a_BadNumber = true)
    (xd_BadNumber : PySem.W.mroIn K a_BadNumber (.ref a_RoomError) = some true)
    (xe_BadNumber : PySem.W.ks_superIn K a_BadNumber a_RoomError "__init__" = some (some (.builtin "ValueError.__init__")))
    (e_BadText_BadCount : PySem.W.exmOne K (.ref a_BadText) (.ref a_BadCount) = some false)
    (e_BadText_BadNumber : PySem.W.exmOne K (.ref a_BadText) (.ref a_BadNumber) = some false)
    (e_BadText_BadText : PySem.W.exmOne K (.ref a_BadText) (.ref a_BadText) = some true)
    (e_BadCount_BadCount : PySem.W.exmOne K (.ref a_BadCount) (.ref a_BadCount) = some true)
    (e_BadNumber_BadCount : PySem.W.exmOne K (.ref a_BadNumber) (.ref a_BadCount) = some false)
    (e_BadNumber_BadNumber : PySem.W.exmOne K (.ref a_BadNumber) (.ref a_BadNumber) = some true)
    (a_is_integer_ : PySem.W.nsIn K mainGlobals "is_integer" = some (some (.ref f_is_integer)))
    (l_is_integer : K.lookup f_is_integer = some ⟨oc_is_integer, od_is_integer, .func (PySem.W.fnOf "is_integer" "is_integer" (defArgs s_is_integer) (defBody s_is_integer) (defScope s_is_integer) .none kV_is_integer dc_is_integer pm_is_integer an_is_integer cd_is_integer ct_is_integer), sl_is_integer⟩)
    (q_is_integer : PySem.W.codeIn K cd_is_integer "is_integer" = true)
    (k_is_integer : PySem.W.keepIn K (.ref f_is_integer) = true)
    (a_is_between_ : PySem.W.nsIn K mainGlobals "is_between" = some (some (.ref f_is_between)))
    (l_is_between : K.lookup f_is_between = some ⟨oc_is_between, od_is_between, .func (PySem.W.fnOf "is_between" "is_between" (defArgs s_is_between) (defBody s_is_between) (defScope s_is_between) .none kV_is_between dc_is_between pm_is_between an_is_between cd_is_between ct_is_between), sl_is_between⟩)
    (q_is_between : PySem.W.codeIn K cd_is_between "is_between" = true)
    (k_is_between : PySem.W.keepIn K (.ref f_is_between) = true)
    (a_check_number_ : PySem.W.nsIn K mainGlobals "check_number" = some (some (.ref f_check_number)))
    (l_check_number : K.lookup f_check_number = some ⟨oc_check_number, od_check_number, .func (PySem.W.fnOf "check_number" "check_number" (defArgs s_check_number) (defBody s_check_number) (defScope s_check_number) .none kV_check_number dc_check_number pm_check_number an_check_number cd_check_number ct_check_number), sl_check_number⟩)
    (q_check_number : PySem.W.codeIn K cd_check_number "check_number" = true)
    (k_check_number : PySem.W.keepIn K (.ref f_check_number) = true)
    (a_is_count_ : PySem.W.nsIn K mainGlobals "is_count" = some (some (.ref f_is_count)))
    (l_is_count : K.lookup f_is_count = some ⟨oc_is_count, od_is_count, .func (PySem.W.fnOf "is_count" "is_count" (defArgs s_is_count) (defBody s_is_count) (defScope s_is_count) .none kV_is_count dc_is_count pm_is_count an_is_count cd_is_count ct_is_count), sl_is_count⟩)
    (q_is_count : PySem.W.codeIn K cd_is_count "is_count" = true)
    (k_is_count : PySem.W.keepIn K (.ref f_is_count) = true)
    (a_check_count_ : PySem.W.nsIn K mainGlobals "check_count" = some (some (.ref f_check_count)))
    (l_check_count : K.lookup f_check_count = some ⟨oc_check_count, od_check_count, .func (PySem.W.fnOf "check_count" "check_count" (defArgs s_check_count) (defBody s_check_count) (defScope s_check_count) .none kV_check_count dc_check_count pm_check_count an_check_count cd_check_count ct_check_count), sl_check_count⟩)
    (q_check_count : PySem.W.codeIn K cd_check_count "check_count" = true)
    (k_check_count : PySem.W.keepIn K (.ref f_check_count) = true)
    (a_rounds_at_ : PySem.W.nsIn K mainGlobals "rounds_at" = some (some (.ref f_rounds_at)))
    (l_rounds_at : K.lookup f_rounds_at = some ⟨oc_rounds_at, od_rounds_at, .func (PySem.W.fnOf "rounds_at" "rounds_at" (defArgs s_rounds_at) (defBody s_rounds_at) (defScope s_rounds_at) .none kV_rounds_at dc_rounds_at pm_rounds_at an_rounds_at cd_rounds_at ct_rounds_at), sl_rounds_at⟩)
    (q_rounds_at : PySem.W.codeIn K cd_rounds_at "rounds_at" = true)
    (k_rounds_at : PySem.W.keepIn K (.ref f_rounds_at) = true)
    (a_rounds_ : PySem.W.nsIn K mainGlobals "rounds" = some (some (.ref f_rounds)))
    (l_rounds : K.lookup f_rounds = some ⟨oc_rounds, od_rounds, .func (PySem.W.fnOf "rounds" "rounds" (defArgs s_rounds) (defBody s_rounds) (defScope s_rounds) .none kV_rounds dc_rounds pm_rounds an_rounds cd_rounds ct_rounds), sl_rounds⟩)
    (q_rounds : PySem.W.codeIn K cd_rounds "rounds" = true)
    (k_rounds : PySem.W.keepIn K (.ref f_rounds) = true)
    (a_format_count_ : PySem.W.nsIn K mainGlobals "format_count" = some (some (.ref f_format_count)))
    (l_format_count : K.lookup f_format_count = some ⟨oc_format_count, od_format_count, .func (PySem.W.fnOf "format_count" "format_count" (defArgs s_format_count) (defBody s_format_count) (defScope s_format_count) .none kV_format_count dc_format_count pm_format_count an_format_count cd_format_count ct_format_count), sl_format_count⟩)
    (q_format_count : PySem.W.codeIn K cd_format_count "format_count" = true)
    (k_format_count : PySem.W.keepIn K (.ref f_format_count) = true)
    (a_number_in_ : PySem.W.nsIn K mainGlobals "number_in" = some (some (.ref f_number_in)))
    (l_number_in : K.lookup f_number_in = some ⟨oc_number_in, od_number_in, .func (PySem.W.fnOf "number_in" "number_in" (defArgs s_number_in) (defBody s_number_in) (defScope s_number_in) .none kV_number_in dc_number_in pm_number_in an_number_in cd_number_in ct_number_in), sl_number_in⟩)
    (q_number_in : PySem.W.codeIn K cd_number_in "number_in" = true)
    (k_number_in : PySem.W.keepIn K (.ref f_number_in) = true)
    (a_count_in_ : PySem.W.nsIn K mainGlobals "count_in" = some (some (.ref f_count_in)))
    (l_count_in : K.lookup f_count_in = some ⟨oc_count_in, od_count_in, .func (PySem.W.fnOf "count_in" "count_in" (defArgs s_count_in) (defBody s_count_in) (defScope s_count_in) .none kV_count_in dc_count_in pm_count_in an_count_in cd_count_in ct_count_in), sl_count_in⟩)
    (q_count_in : PySem.W.codeIn K cd_count_in "count_in" = true)
    (k_count_in : PySem.W.keepIn K (.ref f_count_in) = true)
    (a_parse_count_ : PySem.W.nsIn K mainGlobals "parse_count" = some (some (.ref f_parse_count)))
    (l_parse_count : K.lookup f_parse_count = some ⟨oc_parse_count, od_parse_count, .func (PySem.W.fnOf "parse_count" "parse_count" (defArgs s_parse_count) (defBody s_parse_count) (defScope s_parse_count) .none kV_parse_count dc_parse_count pm_parse_count an_parse_count cd_parse_count ct_parse_count), sl_parse_count⟩)
    (q_parse_count : PySem.W.codeIn K cd_parse_count "parse_count" = true)
    (k_parse_count : PySem.W.keepIn K (.ref f_parse_count) = true)
    (a__law_pool_ : PySem.W.nsIn K mainGlobals "_law_pool" = some (some (.ref f__law_pool)))
    (l__law_pool : K.lookup f__law_pool = some ⟨oc__law_pool, od__law_pool, .func (PySem.W.fnOf "_law_pool" "_law_pool" (defArgs s__law_pool) (defBody s__law_pool) (defScope s__law_pool) .none kV__law_pool dc__law_pool pm__law_pool an__law_pool cd__law_pool ct__law_pool), sl__law_pool⟩)
    (q__law_pool : PySem.W.codeIn K cd__law_pool "_law_pool" = true)
    (k__law_pool : PySem.W.keepIn K (.ref f__law_pool) = true)
    (a__law_take_ : PySem.W.nsIn K mainGlobals "_law_take" = some (some (.ref f__law_take)))
    (l__law_take : K.lookup f__law_take = some ⟨oc__law_take, od__law_take, .func (PySem.W.fnOf "_law_take" "_law_take" (defArgs s__law_take) (defBody s__law_take) (defScope s__law_take) .none kV__law_take dc__law_take pm__law_take an__law_take cd__law_take ct__law_take), sl__law_take⟩)
    (q__law_take : PySem.W.codeIn K cd__law_take "_law_take" = true)
    (k__law_take : PySem.W.keepIn K (.ref f__law_take) = true)
    (a__law_one_ : PySem.W.nsIn K mainGlobals "_law_one" = some (some (.ref f__law_one)))
    (l__law_one : K.lookup f__law_one = some ⟨oc__law_one, od__law_one, .func (PySem.W.fnOf "_law_one" "_law_one" (defArgs s__law_one) (defBody s__law_one) (defScope s__law_one) .none kV__law_one dc__law_one pm__law_one an__law_one cd__law_one ct__law_one), sl__law_one⟩)
    (q__law_one : PySem.W.codeIn K cd__law_one "_law_one" = true)
    (k__law_one : PySem.W.keepIn K (.ref f__law_one) = true)
    (a__law_yq_is_whole_ : PySem.W.nsIn K mainGlobals "_law_yq_is_whole" = some (some (.ref f__law_yq_is_whole)))
    (l__law_yq_is_whole : K.lookup f__law_yq_is_whole = some ⟨oc__law_yq_is_whole, od__law_yq_is_whole, .func (PySem.W.fnOf "_law_yq_is_whole" "_law_yq_is_whole" (defArgs s__law_yq_is_whole) (defBody s__law_yq_is_whole) (defScope s__law_yq_is_whole) .none kV__law_yq_is_whole dc__law_yq_is_whole pm__law_yq_is_whole an__law_yq_is_whole cd__law_yq_is_whole ct__law_yq_is_whole), sl__law_yq_is_whole⟩)
    (q__law_yq_is_whole : PySem.W.codeIn K cd__law_yq_is_whole "_law_yq_is_whole" = true)
    (k__law_yq_is_whole : PySem.W.keepIn K (.ref f__law_yq_is_whole) = true)
    (a__law_yq_same_ : PySem.W.nsIn K mainGlobals "_law_yq_same" = some (some (.ref f__law_yq_same)))
    (l__law_yq_same : K.lookup f__law_yq_same = some ⟨oc__law_yq_same, od__law_yq_same, .func (PySem.W.fnOf "_law_yq_same" "_law_yq_same" (defArgs s__law_yq_same) (defBody s__law_yq_same) (defScope s__law_yq_same) .none kV__law_yq_same dc__law_yq_same pm__law_yq_same an__law_yq_same cd__law_yq_same ct__law_yq_same), sl__law_yq_same⟩)
    (q__law_yq_same : PySem.W.codeIn K cd__law_yq_same "_law_yq_same" = true)
    (k__law_yq_same : PySem.W.keepIn K (.ref f__law_yq_same) = true)
    (a__law_ra_is_int_ : PySem.W.nsIn K mainGlobals "_law_ra_is_int" = some (some (.ref f__law_ra_is_int)))
    (l__law_ra_is_int : K.lookup f__law_ra_is_int = some ⟨oc__law_ra_is_int, od__law_ra_is_int, .func (PySem.W.fnOf "_law_ra_is_int" "_law_ra_is_int" (defArgs s__law_ra_is_int) (defBody s__law_ra_is_int) (defScope s__law_ra_is_int) .none kV__law_ra_is_int dc__law_ra_is_int pm__law_ra_is_int an__law_ra_is_int cd__law_ra_is_int ct__law_ra_is_int), sl__law_ra_is_int⟩)
    (q__law_ra_is_int : PySem.W.codeIn K cd__law_ra_is_int "_law_ra_is_int" = true)
    (k__law_ra_is_int : PySem.W.keepIn K (.ref f__law_ra_is_int) = true)
    (a__law_ra_is_count_ : PySem.W.nsIn K mainGlobals "_law_ra_is_count" = some (some (.ref f__law_ra_is_count)))
    (l__law_ra_is_count : K.lookup f__law_ra_is_count = some ⟨oc__law_ra_is_count, od__law_ra_is_count, .func (PySem.W.fnOf "_law_ra_is_count" "_law_ra_is_count" (defArgs s__law_ra_is_count) (defBody s__law_ra_is_count) (defScope s__law_ra_is_count) .none kV__law_ra_is_count dc__law_ra_is_count pm__law_ra_is_count an__law_ra_is_count cd__law_ra_is_count ct__law_ra_is_count), sl__law_ra_is_count⟩)
    (q__law_ra_is_count : PySem.W.codeIn K cd__law_ra_is_count "_law_ra_is_count" = true)
    (k__law_ra_is_count : PySem.W.keepIn K (.ref f__law_ra_is_count) = true)
    (a__law_ra_rounds_ : PySem.W.nsIn K mainGlobals "_law_ra_rounds" = some (some (.ref f__law_ra_rounds)))
    (l__law_ra_rounds : K.lookup f__law_ra_rounds = some ⟨oc__law_ra_rounds, od__law_ra_rounds, .func (PySem.W.fnOf "_law_ra_rounds" "_law_ra_rounds" (defArgs s__law_ra_rounds) (defBody s__law_ra_rounds) (defScope s__law_ra_rounds) .none kV__law_ra_rounds dc__law_ra_rounds pm__law_ra_rounds an__law_ra_rounds cd__law_ra_rounds ct__law_ra_rounds), sl__law_ra_rounds⟩)
    (q__law_ra_rounds : PySem.W.codeIn K cd__law_ra_rounds "_law_ra_rounds" = true)
    (k__law_ra_rounds : PySem.W.keepIn K (.ref f__law_ra_rounds) = true)
    (a__law_ra_count_text_ : PySem.W.nsIn K mainGlobals "_law_ra_count_text" = some (some (.ref f__law_ra_count_text)))
    (l__law_ra_count_text : K.lookup f__law_ra_count_text = some ⟨oc__law_ra_count_text, od__law_ra_count_text, .func (PySem.W.fnOf "_law_ra_count_text" "_law_ra_count_text" (defArgs s__law_ra_count_text) (defBody s__law_ra_count_text) (defScope s__law_ra_count_text) .none kV__law_ra_count_text dc__law_ra_count_text pm__law_ra_count_text an__law_ra_count_text cd__law_ra_count_text ct__law_ra_count_text), sl__law_ra_count_text⟩)
    (q__law_ra_count_text : PySem.W.codeIn K cd__law_ra_count_text "_law_ra_count_text" = true)
    (k__law_ra_count_text : PySem.W.keepIn K (.ref f__law_ra_count_text) = true)
    (a__law_heard_ : PySem.W.nsIn K mainGlobals "_law_heard" = some (some (.ref f__law_heard)))
    (l__law_heard : K.lookup f__law_heard = some ⟨oc__law_heard, od__law_heard, .func (PySem.W.fnOf "_law_heard" "_law_heard" (defArgs s__law_heard) (defBody s__law_heard) (defScope s__law_heard) .none kV__law_heard dc__law_heard pm__law_heard an__law_heard cd__law_heard ct__law_heard), sl__law_heard⟩)
    (q__law_heard : PySem.W.codeIn K cd__law_heard "_law_heard" = true)
    (k__law_heard : PySem.W.keepIn K (.ref f__law_heard) = true)
    (a__law_figures_ : PySem.W.nsIn K mainGlobals "_law_figures" = some (some (.ref f__law_figures)))
    (l__law_figures : K.lookup f__law_figures = some ⟨oc__law_figures, od__law_figures, .func (PySem.W.fnOf "_law_figures" "_law_figures" (defArgs s__law_figures) (defBody s__law_figures) (defScope s__law_figures) .none kV__law_figures dc__law_figures pm__law_figures an__law_figures cd__law_figures ct__law_figures), sl__law_figures⟩)
    (q__law_figures : PySem.W.codeIn K cd__law_figures "_law_figures" = true)
    (k__law_figures : PySem.W.keepIn K (.ref f__law_figures) = true)
    (a__law_read_ : PySem.W.nsIn K mainGlobals "_law_read" = some (some (.ref f__law_read)))
    (l__law_read : K.lookup f__law_read = some ⟨oc__law_read, od__law_read, .func (PySem.W.fnOf "_law_read" "_law_read" (defArgs s__law_read) (defBody s__law_read) (defScope s__law_read) .none kV__law_read dc__law_read pm__law_read an__law_read cd__law_read ct__law_read), sl__law_read⟩)
    (q__law_read : PySem.W.codeIn K cd__law_read "_law_read" = true)
    (k__law_read : PySem.W.keepIn K (.ref f__law_read) = true)
    (a__law_count_ : PySem.W.nsIn K mainGlobals "_law_count" = some (some (.ref f__law_count)))
    (l__law_count : K.lookup f__law_count = some ⟨oc__law_count, od__law_count, .func (PySem.W.fnOf "_law_count" "_law_count" (defArgs s__law_count) (defBody s__law_count) (defScope s__law_count) .none kV__law_count dc__law_count pm__law_count an__law_count cd__law_count ct__law_count), sl__law_count⟩)
    (q__law_count : PySem.W.codeIn K cd__law_count "_law_count" = true)
    (k__law_count : PySem.W.keepIn K (.ref f__law_count) = true)
    (a__law_number_ : PySem.W.nsIn K mainGlobals "_law_number" = some (some (.ref f__law_number)))
    (l__law_number : K.lookup f__law_number = some ⟨oc__law_number, od__law_number, .func (PySem.W.fnOf "_law_number" "_law_number" (defArgs s__law_number) (defBody s__law_number) (defScope s__law_number) .none kV__law_number dc__law_number pm__law_number an__law_number cd__law_number ct__law_number), sl__law_number⟩)
    (q__law_number : PySem.W.codeIn K cd__law_number "_law_number" = true)
    (k__law_number : PySem.W.keepIn K (.ref f__law_number) = true)
    (a__law_others_ : PySem.W.nsIn K mainGlobals "_law_others" = some (some (.ref f__law_others)))
    (l__law_others : K.lookup f__law_others = some ⟨oc__law_others, od__law_others, .func (PySem.W.fnOf "_law_others" "_law_others" (defArgs s__law_others) (defBody s__law_others) (defScope s__law_others) .none kV__law_others dc__law_others pm__law_others an__law_others cd__law_others ct__law_others), sl__law_others⟩)
    (q__law_others : PySem.W.codeIn K cd__law_others "_law_others" = true)
    (k__law_others : PySem.W.keepIn K (.ref f__law_others) = true)
    (a__law_heard_text_ : PySem.W.nsIn K mainGlobals "_law_heard_text" = some (some (.ref f__law_heard_text)))
    (l__law_heard_text : K.lookup f__law_heard_text = some ⟨oc__law_heard_text, od__law_heard_text, .func (PySem.W.fnOf "_law_heard_text" "_law_heard_text" (defArgs s__law_heard_text) (defBody s__law_heard_text) (defScope s__law_heard_text) .none kV__law_heard_text dc__law_heard_text pm__law_heard_text an__law_heard_text (.ref c__law_heard_text) ct__law_heard_text), sl__law_heard_text⟩)
    (q__law_heard_text : PySem.W.codeIn K (.ref c__law_heard_text) "_law_heard_text" = true)
    (k__law_heard_text : PySem.W.keepIn K (.ref f__law_heard_text) = true)
    (v__law_heard_text : K.lookup c__law_heard_text = some ⟨v1__law_heard_text, v2__law_heard_text, .fields vs__law_heard_text, v3__law_heard_text⟩)
    (p__law_heard_text : (vs__law_heard_text[11]? : Option Value) = some (.ref P__law_heard_text))
    (h__law_heard_text : PySem.W.codeHdIn K c__law_heard_text P__law_heard_text = true)
    (z__law_heard_text : K.lookup P__law_heard_text = none)
    (a__law_text_right_ : PySem.W.nsIn K mainGlobals "_law_text_right" = some (some (.ref f__law_text_right)))
    (l__law_text_right : K.lookup f__law_text_right = some ⟨oc__law_text_right, od__law_text_right, .func (PySem.W.fnOf "_law_text_right" "_law_text_right" (defArgs s__law_text_right) (defBody s__law_text_right) (defScope s__law_text_right) .none kV__law_text_right dc__law_text_right pm__law_text_right an__law_text_right cd__law_text_right ct__law_text_right), sl__law_text_right⟩)
    (q__law_text_right : PySem.W.codeIn K cd__law_text_right "_law_text_right" = true)
    (k__law_text_right : PySem.W.keepIn K (.ref f__law_text_right) = true)
    (a__law_bent_ : PySem.W.nsIn K mainGlobals "_law_bent" = some (some (.ref f__law_bent)))
    (l__law_bent : K.lookup f__law_bent = some ⟨oc__law_bent, od__law_bent, .func (PySem.W.fnOf "_law_bent" "_law_bent" (defArgs s__law_bent) (defBody s__law_bent) (defScope s__law_bent) .none kV__law_bent dc__law_bent pm__law_bent an__law_bent cd__law_bent ct__law_bent), sl__law_bent⟩)
    (q__law_bent : PySem.W.codeIn K cd__law_bent "_law_bent" = true)
    (k__law_bent : PySem.W.keepIn K (.ref f__law_bent) = true)
    (a__law_count_right_ : PySem.W.nsIn K mainGlobals "_law_count_right" = some (some (.ref f__law_count_right)))
    (l__law_count_right : K.lookup f__law_count_right = some ⟨oc__law_count_right, od__law_count_right, .func (PySem.W.fnOf "_law_count_right" "_law_count_right" (defArgs s__law_count_right) (defBody s__law_count_right) (defScope s__law_count_right) .none kV__law_count_right dc__law_count_right pm__law_count_right an__law_count_right (.ref c__law_count_right) ct__law_count_right), sl__law_count_right⟩)
    (q__law_count_right : PySem.W.codeIn K (.ref c__law_count_right) "_law_count_right" = true)
    (k__law_count_right : PySem.W.keepIn K (.ref f__law_count_right) = true)
    (v__law_count_right : K.lookup c__law_count_right = some ⟨v1__law_count_right, v2__law_count_right, .fields vs__law_count_right, v3__law_count_right⟩)
    (p__law_count_right : (vs__law_count_right[11]? : Option Value) = some (.ref P__law_count_right))
    (h__law_count_right : PySem.W.codeHdIn K c__law_count_right P__law_count_right = true)
    (z__law_count_right : K.lookup P__law_count_right = none)
    (a__law_other_right_ : PySem.W.nsIn K mainGlobals "_law_other_right" = some (some (.ref f__law_other_right)))
    (l__law_other_right : K.lookup f__law_other_right = some ⟨oc__law_other_right, od__law_other_right, .func (PySem.W.fnOf "_law_other_right" "_law_other_right" (defArgs s__law_other_right) (defBody s__law_other_right) (defScope s__law_other_right) .none kV__law_other_right dc__law_other_right pm__law_other_right an__law_other_right (.ref c__law_other_right) ct__law_other_right), sl__law_other_right⟩)
    (q__law_other_right : PySem.W.codeIn K (.ref c__law_other_right) "_law_other_right" = true)
    (k__law_other_right : PySem.W.keepIn K (.ref f__law_other_right) = true)
    (v__law_other_right : K.lookup c__law_other_right = some ⟨v1__law_other_right, v2__law_other_right, .fields vs__law_other_right, v3__law_other_right⟩)
    (p__law_other_right : (vs__law_other_right[11]? : Option Value) = some (.ref P__law_other_right))
    (h__law_other_right : PySem.W.codeHdIn K c__law_other_right P__law_other_right = true)
    (z__law_other_right : K.lookup P__law_other_right = none)
    (a__law_short_right_ : PySem.W.nsIn K mainGlobals "_law_short_right" = some (some (.ref f__law_short_right)))
    (l__law_short_right : K.lookup f__law_short_right = some ⟨oc__law_short_right, od__law_short_right, .func (PySem.W.fnOf "_law_short_right" "_law_short_right" (defArgs s__law_short_right) (defBody s__law_short_right) (defScope s__law_short_right) .none kV__law_short_right dc__law_short_right pm__law_short_right an__law_short_right cd__law_short_right ct__law_short_right), sl__law_short_right⟩)
    (q__law_short_right : PySem.W.codeIn K cd__law_short_right "_law_short_right" = true)
    (k__law_short_right : PySem.W.keepIn K (.ref f__law_short_right) = true)
    (a_law_ : PySem.W.nsIn K mainGlobals "law" = some (some (.ref f_law)))
    (l_law : K.lookup f_law = some ⟨oc_law, od_law, .func (PySem.W.fnOf "law" "law" (defArgs s_law) (defBody s_law) (defScope s_law) .none kV_law dc_law pm_law an_law cd_law ct_law), sl_law⟩)
    (q_law : PySem.W.codeIn K cd_law "law" = true)
    (k_law : PySem.W.keepIn K (.ref f_law) = true)
    (d__law_heard_text__law_count_right : P__law_heard_text ≠ P__law_count_right)
    (d__law_heard_text__law_other_right : P__law_heard_text ≠ P__law_other_right)
    (d__law_count_right__law_other_right : P__law_count_right ≠ P__law_other_right)
    (w__law_heard_text : h.get? P__law_heard_text = some (PySem.W.tabObj #[]))
    (w__law_count_right : h.get? P__law_count_right = some (PySem.W.tabObj #[]))
    (w__law_other_right : h.get? P__law_other_right = some (PySem.W.tabObj #[]))
    (hp : ∀ ns : List Int, ns.length ≤ 63 → ∃ (d s c : Int) (s' : Jr), F__law_pool [.scr ns] ⟨0, 0, 0⟩ = .ok (.lst [.int d, .int s, .int c]) s' ∧ ∃ s2, b_law r_law ⟨d, s, c⟩ = .rt (.bl true) s2) :
    LamX.LawAtS l w K (L2.CX P w) 12 63 "script" mg fa h := by
  subst hP
  have e0 := hfa.symm.trans (PySem.W.mg_of X G a_law_)
  cases e0
  let E : Ad := {
    f_is_integer := f_is_integer,
    d_is_integer := PySem.W.fnOf "is_integer" "is_integer" (defArgs s_is_integer) (defBody s_is_integer) (defScope s_is_integer) .none kV_is_integer dc_is_integer pm_is_integer an_is_integer cd_is_integer ct_is_integer,
    f_is_between := f_is_between,
    d_is_between := PySem.W.fnOf "is_between" "is_between" (defArgs s_is_between) (defBody s_is_between) (defScope s_is_between) .none kV_is_between dc_is_between pm_is_between an_is_between cd_is_between ct_is_between,
    f_check_number := f_check_number,
    d_check_number := PySem.W.fnOf "check_number" "check_number" (defArgs s_check_number) (defBody s_check_number) (defScope s_check_number) .none kV_check_number dc_check_number pm_check_number an_check_number cd_check_number ct_check_number,
    f_is_count := f_is_count,
    d_is_count := PySem.W.fnOf "is_count" "is_count" (defArgs s_is_count) (defBody s_is_count) (defScope s_is_count) .none kV_is_count dc_is_count pm_is_count an_is_count cd_is_count ct_is_count,
    f_check_count := f_check_count,
    d_check_count := PySem.W.fnOf "check_count" "check_count" (defArgs s_check_count) (defBody s_check_count) (defScope s_check_count) .none kV_check_count dc_check_count pm_check_count an_check_count cd_check_count ct_check_count,
    f_rounds_at := f_rounds_at,
    d_rounds_at := PySem.W.fnOf "rounds_at" "rounds_at" (defArgs s_rounds_at) (defBody s_rounds_at) (defScope s_rounds_at) .none kV_rounds_at dc_rounds_at pm_rounds_at an_rounds_at cd_rounds_at ct_rounds_at,
    f_rounds := f_rounds,
    d_rounds := PySem.W.fnOf "rounds" "rounds" (defArgs s_rounds) (defBody s_rounds) (defScope s_rounds) .none kV_rounds dc_rounds pm_rounds an_rounds cd_rounds ct_rounds,
    f_format_count := f_format_count,
    d_format_count := PySem.W.fnOf "format_count" "format_count" (defArgs s_format_count) (defBody s_format_count) (defScope s_format_count) .none kV_format_count dc_format_count pm_format_count an_format_count cd_format_count ct_format_count,
    f_number_in := f_number_in,
    d_number_in := PySem.W.fnOf "number_in" "number_in" (defArgs s_number_in) (defBody s_number_in) (defScope s_number_in) .none kV_number_in dc_number_in pm_number_in an_number_in cd_number_in ct_number_in,
    f_count_in := f_count_in,
    d_count_in := PySem.W.fnOf "count_in" "count_in" (defArgs s_count_in) (defBody s_count_in) (defScope s_count_in) .none kV_count_in dc_count_in pm_count_in an_count_in cd_count_in ct_count_in,
    f_parse_count := f_parse_count,
    d_parse_count := PySem.W.fnOf "parse_count" "parse_count" (defArgs s_parse_count) (defBody s_parse_count) (defScope s_parse_count) .none kV_parse_count dc_parse_count pm_parse_count an_parse_count cd_parse_count ct_parse_count,
    f__law_pool := f__law_pool,
    d__law_pool := PySem.W.fnOf "_law_pool" "_law_pool" (defArgs s__law_pool) (defBody s__law_pool) (defScope s__law_pool) .none kV__law_pool dc__law_pool pm__law_pool an__law_pool cd__law_pool ct__law_pool,
    f__law_take := f__law_take,
    d__law_take := PySem.W.fnOf "_law_take" "_law_take" (defArgs s__law_take) (defBody s__law_take) (defScope s__law_take) .none kV__law_take dc__law_take pm__law_take an__law_take cd__law_take ct__law_take,
    f__law_one := f__law_one,
    d__law_one := PySem.W.fnOf "_law_one" "_law_one" (defArgs s__law_one) (defBody s__law_one) (defScope s__law_one) .none kV__law_one dc__law_one pm__law_one an__law_one cd__law_one ct__law_one,
    f__law_yq_is_whole := f__law_yq_is_whole,
    d__law_yq_is_whole := PySem.W.fnOf "_law_yq_is_whole" "_law_yq_is_whole" (defArgs s__law_yq_is_whole) (defBody s__law_yq_is_whole) (defScope s__law_yq_is_whole) .none kV__law_yq_is_whole dc__law_yq_is_whole pm__law_yq_is_whole an__law_yq_is_whole cd__law_yq_is_whole ct__law_yq_is_whole,
    f__law_yq_same := f__law_yq_same,
    d__law_yq_same := PySem.W.fnOf "_law_yq_same" "_law_yq_same" (defArgs s__law_yq_same) (defBody s__law_yq_same) (defScope s__law_yq_same) .none kV__law_yq_same dc__law_yq_same pm__law_yq_same an__law_yq_same cd__law_yq_same ct__law_yq_same,
    f__law_ra_is_int := f__law_ra_is_int,
    d__law_ra_is_int := PySem.W.fnOf "_law_ra_is_int" "_law_ra_is_int" (defArgs s__law_ra_is_int) (defBody s__law_ra_is_int) (defScope s__law_ra_is_int) .none kV__law_ra_is_int dc__law_ra_is_int pm__law_ra_is_int an__law_ra_is_int cd__law_ra_is_int ct__law_ra_is_int,
    f__law_ra_is_count := f__law_ra_is_count,
    d__law_ra_is_count := PySem.W.fnOf "_law_ra_is_count" "_law_ra_is_count" (defArgs s__law_ra_is_count) (defBody s__law_ra_is_count) (defScope s__law_ra_is_count) .none kV__law_ra_is_count dc__law_ra_is_count pm__law_ra_is_count an__law_ra_is_count cd__law_ra_is_count ct__law_ra_is_count,
    f__law_ra_rounds := f__law_ra_rounds,
    d__law_ra_rounds := PySem.W.fnOf "_law_ra_rounds" "_law_ra_rounds" (defArgs s__law_ra_rounds) (defBody s__law_ra_rounds) (defScope s__law_ra_rounds) .none kV__law_ra_rounds dc__law_ra_rounds pm__law_ra_rounds an__law_ra_rounds cd__law_ra_rounds ct__law_ra_rounds,
    f__law_ra_count_text := f__law_ra_count_text,
    d__law_ra_count_text := PySem.W.fnOf "_law_ra_count_text" "_law_ra_count_text" (defArgs s__law_ra_count_text) (defBody s__law_ra_count_text) (defScope s__law_ra_count_text) .none kV__law_ra_count_text dc__law_ra_count_text pm__law_ra_count_text an__law_ra_count_text cd__law_ra_count_text ct__law_ra_count_text,
    f__law_heard := f__law_heard,
    h_oc := oc__law_heard, h_od := od__law_heard, h_kV := kV__law_heard, h_doc := dc__law_heard, h_pm := pm__law_heard, h_an := an__law_heard, h_cdv := cd__law_heard, h_ct := ct__law_heard, h_osl := sl__law_heard,
    f__law_figures := f__law_figures,
    d__law_figures := PySem.W.fnOf "_law_figures" "_law_figures" (defArgs s__law_figures) (defBody s__law_figures) (defScope s__law_figures) .none kV__law_figures dc__law_figures pm__law_figures an__law_figures cd__law_figures ct__law_figures,
    f__law_read := f__law_read,
    d__law_read := PySem.W.fnOf "_law_read" "_law_read" (defArgs s__law_read) (defBody s__law_read) (defScope s__law_read) .none kV__law_read dc__law_read pm__law_read an__law_read cd__law_read ct__law_read,
    f__law_count := f__law_count,
    d__law_count := PySem.W.fnOf "_law_count" "_law_count" (defArgs s__law_count) (defBody s__law_count) (defScope s__law_count) .none kV__law_count dc__law_count pm__law_count an__law_count cd__law_count ct__law_count,
    f__law_number := f__law_number,
    d__law_number := PySem.W.fnOf "_law_number" "_law_number" (defArgs s__law_number) (defBody s__law_number) (defScope s__law_number) .none kV__law_number dc__law_number pm__law_number an__law_number cd__law_number ct__law_number,
    f__law_others := f__law_others,
    d__law_others := PySem.W.fnOf "_law_others" "_law_others" (defArgs s__law_others) (defBody s__law_others) (defScope s__law_others) .none kV__law_others dc__law_others pm__law_others an__law_others cd__law_others ct__law_others,
    f__law_heard_text := f__law_heard_text,
    d__law_heard_text := PySem.W.fnOf "_law_heard_text" "_law_heard_text" (defArgs s__law_heard_text) (defBody s__law_heard_text) (defScope s__law_heard_text) .none kV__law_heard_text dc__law_heard_text pm__law_heard_text an__law_heard_text (.ref c__law_heard_text) ct__law_heard_text,
    f__law_text_right := f__law_text_right,
    d__law_text_right := PySem.W.fnOf "_law_text_right" "_law_text_right" (defArgs s__law_text_right) (defBody s__law_text_right) (defScope s__law_text_right) .none kV__law_text_right dc__law_text_right pm__law_text_right an__law_text_right cd__law_text_right ct__law_text_right,
    f__law_bent := f__law_bent,
    d__law_bent := PySem.W.fnOf "_law_bent" "_law_bent" (defArgs s__law_bent) (defBody s__law_bent) (defScope s__law_bent) .none kV__law_bent dc__law_bent pm__law_bent an__law_bent cd__law_bent ct__law_bent,
    f__law_count_right := f__law_count_right,
    d__law_count_right := PySem.W.fnOf "_law_count_right" "_law_count_right" (defArgs s__law_count_right) (defBody s__law_count_right) (defScope s__law_count_right) .none kV__law_count_right dc__law_count_right pm__law_count_right an__law_count_right (.ref c__law_count_right) ct__law_count_right,
    f__law_other_right := f__law_other_right,
    d__law_other_right := PySem.W.fnOf "_law_other_right" "_law_other_right" (defArgs s__law_other_right) (defBody s__law_other_right) (defScope s__law_other_right) .none kV__law_other_right dc__law_other_right pm__law_other_right an__law_other_right (.ref c__law_other_right) ct__law_other_right,
    f__law_short_right := f__law_short_right,
    d__law_short_right := PySem.W.fnOf "_law_short_right" "_law_short_right" (defArgs s__law_short_right) (defBody s__law_short_right) (defScope s__law_short_right) .none kV__law_short_right dc__law_short_right pm__law_short_right an__law_short_right cd__law_short_right ct__law_short_right,
    f_law := fa,
    d_law := PySem.W.fnOf "law" "law" (defArgs s_law) (defBody s_law) (defScope s_law) .none kV_law dc_law pm_law an_law cd_law ct_law,
    a_RoomError := a_RoomError,
    a_BadText := a_BadText,
    a_BadCount := a_BadCount,
    a_BadNumber := a_BadNumber,
    fI := fI,
    c__law_heard_text := c__law_heard_text, P__law_heard_text := P__law_heard_text,
    c__law_count_right := c__law_count_right, P__law_count_right := P__law_count_right,
    c__law_other_right := c__law_other_right, P__law_other_right := P__law_other_right }
  have F_is_integer := fun_mk (st := s_is_integer) l_is_integer q_is_integer k_is_integer
  have B_is_integer := F_is_integer.binds (ps := ["thing"]) fun _ _ _ _ _ _ us hl => match us, hl with | [_], _ => rfl
  have F_is_between := fun_mk (st := s_is_between) l_is_between q_is_between k_is_between
  have B_is_between := F_is_between.binds (ps := ["thing", "least", "most"]) fun _ _ _ _ _ _ us hl => match us, hl with | [_, _, _], _ => rfl
  have F_check_number := fun_mk (st := s_check_number) l_check_number q_check_number k_check_number
  have B_check_number := F_check_number.binds (ps := ["n"]) fun _ _ _ _ _ _ us hl => match us, hl with | [_], _ => rfl
  have F_is_count := fun_mk (st := s_is_count) l_is_count q_is_count k_is_count
  have B_is_count := F_is_count.binds (ps := ["thing"]) fun _ _ _ _ _ _ us hl => match us, hl with | [_], _ => rfl
  have F_check_count := fun_mk (st := s_check_count) l_check_count q_check_count k_check_count
  have B_check_count := F_check_count.binds (ps := ["count"]) fun _ _ _ _ _ _ us hl => match us, hl with | [_], _ => rfl
  have F_rounds_at := fun_mk (st := s_rounds_at) l_rounds_at q_rounds_at k_rounds_at
  have B_rounds_at := F_rounds_at.binds (ps := ["count", "n"]) fun _ _ _ _ _ _ us hl => match us, hl with | [_, _], _ => rfl
  have F_rounds := fun_mk (st := s_rounds) l_rounds q_rounds k_rounds
  have B_rounds := F_rounds.binds (ps := ["count", "n"]) fun _ _ _ _ _ _ us hl => match us, hl with | [_, _], _ => rfl
  have F_format_count := fun_mk (st := s_format_count) l_format_count q_format_count k_format_count
  have B_format_count := F_format_count.binds (ps := ["count"]) fun _ _ _ _ _ _ us hl => match us, hl with | [_], _ => rfl
  have F_number_in := fun_mk (st := s_number_in) l_number_in q_number_in k_number_in
  have B_number_in := F_number_in.binds (ps := ["text"]) fun _ _ _ _ _ _ us hl => match us, hl with | [_], _ => rfl
  have F_count_in := fun_mk (st := s_count_in) l_count_in q_count_in k_count_in
  have B_count_in := F_count_in.binds (ps := ["text"]) fun _ _ _ _ _ _ us hl => match us, hl with | [_], _ => rfl
  have F_parse_count := fun_mk (st := s_parse_count) l_parse_count q_parse_count k_parse_count
  have B_parse_count := F_parse_count.binds (ps := ["text"]) fun _ _ _ _ _ _ us hl => match us, hl with | [_], _ => rfl
  have F__law_pool := fun_mk (st := s__law_pool) l__law_pool q__law_pool k__law_pool
  have B__law_pool := F__law_pool.binds (ps := ["script"]) fun _ _ _ _ _ _ us hl => match us, hl with | [_], _ => rfl
  have F__law_take := fun_mk (st := s__law_take) l__law_take q__law_take k__law_take
  have B__law_take := F__law_take.binds (ps := ["jar", "many"]) fun _ _ _ _ _ _ us hl => match us, hl with | [_, _], _ => rfl
  have F__law_one := fun_mk (st := s__law_one) l__law_one q__law_one k__law_one
  have B__law_one := F__law_one.binds (ps := ["jar", "things"]) fun _ _ _ _ _ _ us hl => match us, hl with | [_, _], _ => rfl
  have F__law_yq_is_whole := fun_mk (st := s__law_yq_is_whole) l__law_yq_is_whole q__law_yq_is_whole k__law_yq_is_whole
  have B__law_yq_is_whole := F__law_yq_is_whole.binds (ps := ["thing"]) fun _ _ _ _ _ _ us hl => match us, hl with | [_], _ => rfl
  have F__law_yq_same := fun_mk (st := s__law_yq_same) l__law_yq_same q__law_yq_same k__law_yq_same
  have B__law_yq_same := F__law_yq_same.binds (ps := ["heard_one", "owed"]) fun _ _ _ _ _ _ us hl => match us, hl with | [_, _], _ => rfl
  have F__law_ra_is_int := fun_mk (st := s__law_ra_is_int) l__law_ra_is_int q__law_ra_is_int k__law_ra_is_int
  have B__law_ra_is_int := F__law_ra_is_int.binds (ps := ["thing", "low", "high"]) fun _ _ _ _ _ _ us hl => match us, hl with | [_, _, _], _ => rfl
  have F__law_ra_is_count := fun_mk (st := s__law_ra_is_count) l__law_ra_is_count q__law_ra_is_count k__law_ra_is_count
  have B__law_ra_is_count := F__law_ra_is_count.binds (ps := ["thing"]) fun _ _ _ _ _ _ us hl => match us, hl with | [_], _ => rfl
  have F__law_ra_rounds := fun_mk (st := s__law_ra_rounds) l__law_ra_rounds q__law_ra_rounds k__law_ra_rounds
  have B__law_ra_rounds := F__law_ra_rounds.binds (ps := ["count", "n"]) fun _ _ _ _ _ _ us hl => match us, hl with | [_, _], _ => rfl
  have F__law_ra_count_text := fun_mk (st := s__law_ra_count_text) l__law_ra_count_text q__law_ra_count_text k__law_ra_count_text
  have B__law_ra_count_text := F__law_ra_count_text.binds (ps := ["count"]) fun _ _ _ _ _ _ us hl => match us, hl with | [_], _ => rfl
  have F__law_heard := fun_mk (st := s__law_heard) l__law_heard q__law_heard k__law_heard
  have B__law_heard := F__law_heard.binds (ps := ["asked_now"]) fun _ _ _ _ _ _ us hl => match us, hl with | [_], _ => rfl
  have F__law_figures := fun_mk (st := s__law_figures) l__law_figures q__law_figures k__law_figures
  have B__law_figures := F__law_figures.binds (ps := ["text"]) fun _ _ _ _ _ _ us hl => match us, hl with | [_], _ => rfl
  have F__law_read := fun_mk (st := s__law_read) l__law_read q__law_read k__law_read
  have B__law_read := F__law_read.binds (ps := ["text"]) fun _ _ _ _ _ _ us hl => match us, hl with | [_], _ => rfl
  have F__law_count := fun_mk (st := s__law_count) l__law_count q__law_count k__law_count
  have B__law_count := F__law_count.binds (ps := ["jar"]) fun _ _ _ _ _ _ us hl => match us, hl with | [_], _ => rfl
  have F__law_number := fun_mk (st := s__law_number) l__law_number q__law_number k__law_number
  have B__law_number := F__law_number.binds (ps := ["jar"]) fun _ _ _ _ _ _ us hl => match us, hl with | [_], _ => rfl
  have F__law_others := fun_mk (st := s__law_others) l__law_others q__law_others k__law_others
  have B__law_others := F__law_others.binds (ps := ["jar"]) fun _ _ _ _ _ _ us hl => match us, hl with | [_], _ => rfl
  have F__law_heard_text := fun_mk (st := s__law_heard_text) l__law_heard_text q__law_heard_text k__law_heard_text
  have B__law_heard_text := F__law_heard_text.binds (ps := ["thing"]) fun _ _ _ _ _ _ us hl => match us, hl with | [_], _ => rfl
  have F__law_text_right := fun_mk (st := s__law_text_right) l__law_text_right q__law_text_right k__law_text_right
  have B__law_text_right := F__law_text_right.binds (ps := ["thing"]) fun _ _ _ _ _ _ us hl => match us, hl with | [_], _ => rfl
  have F__law_bent := fun_mk (st := s__law_bent) l__law_bent q__law_bent k__law_bent
  have B__law_bent := F__law_bent.binds (ps := ["jar", "text"]) fun _ _ _ _ _ _ us hl => match us, hl with | [_, _], _ => rfl
  have F__law_count_right := fun_mk (st := s__law_count_right) l__law_count_right q__law_count_right k__law_count_right
  have B__law_count_right := F__law_count_right.binds (ps := ["jar", "count"]) fun _ _ _ _ _ _ us hl => match us, hl with | [_, _], _ => rfl
  have F__law_other_right := fun_mk (st := s__law_other_right) l__law_other_right q__law_other_right k__law_other_right
  have B__law_other_right := F__law_other_right.binds (ps := ["jar", "thing"]) fun _ _ _ _ _ _ us hl => match us, hl with | [_, _], _ => rfl
  have F__law_short_right := fun_mk (st := s__law_short_right) l__law_short_right q__law_short_right k__law_short_right
  have B__law_short_right := F__law_short_right.binds (ps := []) fun _ _ _ _ _ _ us hl => match us, hl with | [], _ => rfl
  have F_law := fun_mk (st := s_law) l_law q_law k_law
  have B_law := F_law.binds (ps := ["script"]) fun _ _ _ _ _ _ us hl => match us, hl with | [_], _ => rfl
  have hin := (⟨i_oc, i_od, i_doc, i_pm, i_an, cda, i_ct, i_osl, cc, i_ccl, i_cl, i_cdd, i_cld, i_ccs, i_csl, i_vs, i_file, i_tf, i_cdR, i_l, i_c, i_d, i_v, i_w, i_x, i_r, i_t⟩ : RX.InitTxt l.prog K a_RoomError fI)
  have X_BadText : RX.Txt l.prog K mg "BadText" a_BadText a_RoomError fI := { gC := PySem.W.mg_of X G C_BadText, cls := ⟨_, _, _, _, _, _, _, _, _, _, _, _, _, _, _, x1_BadText, x2_BadText⟩, sa := x3_BadText, ga := x4_BadText, gg := x5_BadText, noN := x6_BadText, iC := x7_BadText, tC := i_ty, kC := x8_BadText, exC := x9_BadText, veC := xa_BadText, tyC := xb_BadText, hdC := xc_BadText, rC := xd_BadText, su := xe_BadText, sN := n_super, oN := i_o, fn := hin }
  have X_BadCount : RX.Txt l.prog K mg "BadCount" a_BadCount a_RoomError fI := { gC := PySem.W.mg_of X G C_BadCount, cls := ⟨_, _, _, _, _, _, _, _, _, _, _, _, _, _, _, x1_BadCount, x2_BadCount⟩, sa := x3_BadCount, ga := x4_BadCount, gg := x5_BadCount, noN := x6_BadCount, iC := x7_BadCount, tC := i_ty, kC := x8_BadCount, exC := x9_BadCount, veC := xa_BadCount, tyC := xb_BadCount, hdC := xc_BadCount, rC := xd_BadCount, su := xe_BadCount, sN := n_super, oN := i_o, fn := hin }
  have X_BadNumber : RX.Txt l.prog K mg "BadNumber" a_BadNumber a_RoomError fI := { gC := PySem.W.mg_of X G C_BadNumber, cls := ⟨_, _, _, _, _, _, _, _, _, _, _, _, _, _, _, x1_BadNumber, x2_BadNumber⟩, sa := x3_BadNumber, ga := x4_BadNumber, gg := x5_BadNumber, noN := x6_BadNumber, iC := x7_BadNumber, tC := i_ty, kC := x8_BadNumber, exC := x9_BadNumber, veC := xa_BadNumber, tyC := xb_BadNumber, hdC := xc_BadNumber, rC := xd_BadNumber, su := xe_BadNumber, sN := n_super, oN := i_o, fn := hin }
  have T : Txt l.prog K mg E := {
    n_super := PySem.W.mg_none_of X G n_super,
    n_abs := PySem.W.mg_none_of X G n_abs,
    n_all := PySem.W.mg_none_of X G n_all,
    n_bool := PySem.W.mg_none_of X G n_bool,
    n_int := PySem.W.mg_none_of X G n_int,
    n_isinstance := PySem.W.mg_none_of X G n_isinstance,
    n_len := PySem.W.mg_none_of X G n_len,
    n_list := PySem.W.mg_none_of X G n_list,
    n_max := PySem.W.mg_none_of X G n_max,
    n_range := PySem.W.mg_none_of X G n_range,
    n_str := PySem.W.mg_none_of X G n_str,
    n_tuple := PySem.W.mg_none_of X G n_tuple,
    g_FIGURES := ⟨_, PySem.W.mg_of X G g_FIGURES⟩,
    g_MOST_NUMBER := ⟨_, PySem.W.mg_of X G g_MOST_NUMBER⟩,
    g_MOST_FIGURES := ⟨_, PySem.W.mg_of X G g_MOST_FIGURES⟩,
    g_MOST_TIMES := ⟨_, PySem.W.mg_of X G g_MOST_TIMES⟩,
    m_is_integer := PySem.W.mg_of X G a_is_integer_,
    k_is_integer := k_is_integer,
    fn_is_integer := F_is_integer, b_is_integer := B_is_integer,
    m_is_between := PySem.W.mg_of X G a_is_between_,
    k_is_between := k_is_between,
    fn_is_between := F_is_between, b_is_between := B_is_between,
    m_check_number := PySem.W.mg_of X G a_check_number_,
    k_check_number := k_check_number,
    fn_check_number := F_check_number, b_check_number := B_check_number,
    m_is_count := PySem.W.mg_of X G a_is_count_,
    k_is_count := k_is_count,
    fn_is_count := F_is_count, b_is_count := B_is_count,
    m_check_count := PySem.W.mg_of X G a_check_count_,
    k_check_count := k_check_count,
    fn_check_count := F_check_count, b_check_count := B_check_count,
    m_rounds_at := PySem.W.mg_of X G a_rounds_at_,
    k_rounds_at := k_rounds_at,
    fn_rounds_at := F_rounds_at, b_rounds_at := B_rounds_at,
    m_rounds := PySem.W.mg_of X G a_rounds_,
    k_rounds := k_rounds,
    fn_rounds := F_rounds, b_rounds := B_rounds,
    m_format_count := PySem.W.mg_of X G a_format_count_,
    k_format_count := k_format_count,
    fn_format_count := F_format_count, b_format_count := B_format_count,
    m_number_in := PySem.W.mg_of X G a_number_in_,
    k_number_in := k_number_in,
    fn_number_in := F_number_in, b_number_in := B_number_in,
    m_count_in := PySem.W.mg_of X G a_count_in_,
    k_count_in := k_count_in,
    fn_count_in := F_count_in, b_count_in := B_count_in,
    m_parse_count := PySem.W.mg_of X G a_parse_count_,
    k_parse_count := k_parse_count,
    fn_parse_count := F_parse_count, b_parse_count := B_parse_count,
    m__law_pool := PySem.W.mg_of X G a__law_pool_,
    k__law_pool := k__law_pool,
    fn__law_pool := F__law_pool, b__law_pool := B__law_pool,
    m__law_take := PySem.W.mg_of X G a__law_take_,
    k__law_take := k__law_take,
    fn__law_take := F__law_take, b__law_take := B__law_take,
    m__law_one := PySem.W.mg_of X G a__law_one_,
    k__law_one := k__law_one,
    fn__law_one := F__law_one, b__law_one := B__law_one,
    m__law_yq_is_whole := PySem.W.mg_of X G a__law_yq_is_whole_,
    k__law_yq_is_whole := k__law_yq_is_whole,
    fn__law_yq_is_whole := F__law_yq_is_whole, b__law_yq_is_whole := B__law_yq_is_whole,
    m__law_yq_same := PySem.W.mg_of X G a__law_yq_same_,
    k__law_yq_same := k__law_yq_same,
    fn__law_yq_same := F__law_yq_same, b__law_yq_same := B__law_yq_same,
    m__law_ra_is_int := PySem.W.mg_of X G a__law_ra_is_int_,
    k__law_ra_is_int := k__law_ra_is_int,
    fn__law_ra_is_int := F__law_ra_is_int, b__law_ra_is_int := B__law_ra_is_int,
    m__law_ra_is_count := PySem.W.mg_of X G a__law_ra_is_count_,
    k__law_ra_is_count := k__law_ra_is_count,
    fn__law_ra_is_count := F__law_ra_is_count, b__law_ra_is_count := B__law_ra_is_count,
    m__law_ra_rounds := PySem.W.mg_of X G a__law_ra_rounds_,
    k__law_ra_rounds := k__law_ra_rounds,
    fn__law_ra_rounds := F__law_ra_rounds, b__law_ra_rounds := B__law_ra_rounds,
    m__law_ra_count_text := PySem.W.mg_of X G a__law_ra_count_text_,
    k__law_ra_count_text := k__law_ra_count_text,
    fn__law_ra_count_text := F__law_ra_count_text, b__law_ra_count_text := B__law_ra_count_text,
    m__law_heard := PySem.W.mg_of X G a__law_heard_,
    k__law_heard := k__law_heard,
    heard_lk := l__law_heard, heard_cd := q__law_heard, heard_b := B__law_heard,
    m__law_figures := PySem.W.mg_of X G a__law_figures_,
    k__law_figures := k__law_figures,
    fn__law_figures := F__law_figures, b__law_figures := B__law_figures,
    m__law_read := PySem.W.mg_of X G a__law_read_,
    k__law_read := k__law_read,
    fn__law_read := F__law_read, b__law_read := B__law_read,
    m__law_count := PySem.W.mg_of X G a__law_count_,
    k__law_count := k__law_count,
    fn__law_count := F__law_count, b__law_count := B__law_count,
    m__law_number := PySem.W.mg_of X G a__law_number_,
    k__law_number := k__law_number,
    fn__law_number := F__law_number, b__law_number := B__law_number,
    m__law_others := PySem.W.mg_of X G a__law_others_,
    k__law_others := k__law_others,
    fn__law_others := F__law_others, b__law_others := B__law_others,
    m__law_heard_text := PySem.W.mg_of X G a__law_heard_text_,
    k__law_heard_text := k__law_heard_text,
    fn__law_heard_text := ⟨⟨_, _, _, _, _, _, _, _, rfl, l__law_heard_text, q__law_heard_text⟩, k__law_heard_text⟩, b__law_heard_text := B__law_heard_text,
    tab__law_heard_text := .head _,
    tabu__law_heard_text := (by
      intro pp hm e
      rcases List.mem_cons.mp hm with rfl | hm
      · exact rfl
      rcases List.mem_cons.mp hm with rfl | hm
      · exact absurd e d__law_heard_text__law_count_right.symm
      rcases List.mem_cons.mp hm with rfl | hm
      · exact absurd e d__law_heard_text__law_other_right.symm
      · cases hm),
    m__law_text_right := PySem.W.mg_of X G a__law_text_right_,
    k__law_text_right := k__law_text_right,
    fn__law_text_right := F__law_text_right, b__law_text_right := B__law_text_right,
    m__law_bent := PySem.W.mg_of X G a__law_bent_,
    k__law_bent := k__law_bent,
    fn__law_bent := F__law_bent, b__law_bent := B__law_bent,
    m__law_count_right := PySem.W.mg_of X G a__law_count_right_,
    k__law_count_right := k__law_count_right,
    fn__law_count_right := ⟨⟨_, _, _, _, _, _, _, _, rfl, l__law_count_right, q__law_count_right⟩, k__law_count_right⟩, b__law_count_right := B__law_count_right,
    tab__law_count_right := .tail _ (.head _),
    tabu__law_count_right := (by
      intro pp hm e
      rcases List.mem_cons.mp hm with rfl | hm
      · exact absurd e d__law_heard_text__law_count_right
      rcases List.mem_cons.mp hm with rfl | hm
      · exact rfl
      rcases List.mem_cons.mp hm with rfl | hm
      · exact absurd e d__law_count_right__law_other_right.symm
      · cases hm),
    m__law_other_right := PySem.W.mg_of X G a__law_other_right_,
    k__law_other_right := k__law_other_right,
    fn__law_other_right := ⟨⟨_, _, _, _, _, _, _, _, rfl, l__law_other_right, q__law_other_right⟩, k__law_other_right⟩, b__law_other_right := B__law_other_right,
    tab__law_other_right := .tail _ (.tail _ (.head _)),
    tabu__law_other_right := (by
      intro pp hm e
      rcases List.mem_cons.mp hm with rfl | hm
      · exact absurd e d__law_heard_text__law_other_right
      rcases List.mem_cons.mp hm with rfl | hm
      · exact absurd e d__law_count_right__law_other_right
      rcases List.mem_cons.mp hm with rfl | hm
      · exact rfl
      · cases hm),
    m__law_short_right := PySem.W.mg_of X G a__law_short_right_,
    k__law_short_right := k__law_short_right,
    fn__law_short_right := F__law_short_right, b__law_short_right := B__law_short_right,
    m_law := PySem.W.mg_of X G a_law_,
    k_law := k_law,
    fn_law := F_law, b_law := B_law,
    g_RoomError := PySem.W.mg_of X G C_RoomError,
    g_BadText := PySem.W.mg_of X G C_BadText,
    g_BadCount := PySem.W.mg_of X G C_BadCount,
    g_BadNumber := PySem.W.mg_of X G C_BadNumber,
    x_BadText := X_BadText,
    x_BadCount := X_BadCount,
    x_BadNumber := X_BadNumber,
    sel := (by
      intro c nm hs
      unfold selM at hs
      split at hs
      · cases hs; exact ⟨⟨false, e_BadText_BadCount, fun z => (by cases z), fun _ => ⟨false, e_BadText_BadNumber, fun z => (by cases z), fun _ => ⟨true, e_BadText_BadText, fun _ => rfl, fun z => by cases z⟩⟩⟩, _, _, _, X_BadText⟩
      · cases hs; exact ⟨⟨true, e_BadCount_BadCount, fun _ => rfl, fun z => by cases z⟩, _, _, _, X_BadCount⟩
      · cases hs; exact ⟨⟨false, e_BadNumber_BadCount, fun z => (by cases z), fun _ => ⟨true, e_BadNumber_BadNumber, fun _ => rfl, fun z => by cases z⟩⟩, _, _, _, X_BadNumber⟩
      · cases hs) }
  refine ⟨E.d_law, [(c__law_heard_text, P__law_heard_text), (c__law_count_right, P__law_count_right), (c__law_other_right, P__law_other_right)], spLaw K E.T, ?_, ?_, ?_, fun s u => ?_, fun H a ns hl hb hT hS => ⟨a, ns, rfl, hl, ?_, hS, fun _ => rfl⟩, fun base Kb Gb hTB => ok_law T ⟨hTB (c__law_heard_text, P__law_heard_text) (by simp), hTB (c__law_count_right, P__law_count_right) (by simp), hTB (c__law_other_right, P__law_other_right) (by simp)⟩ hp⟩
  · intro pp hm
    rcases List.mem_cons.mp hm with rfl | hm
    · exact w__law_heard_text
    rcases List.mem_cons.mp hm with rfl | hm
    · exact w__law_count_right
    rcases List.mem_cons.mp hm with rfl | hm
    · exact w__law_other_right
    · cases hm
  · intro pp hm
    rcases List.mem_cons.mp hm with rfl | hm
    · exact z__law_heard_text
    rcases List.mem_cons.mp hm with rfl | hm
    · exact z__law_count_right
    rcases List.mem_cons.mp hm with rfl | hm
    · exact z__law_other_right
    · cases hm
  · intro pp hm
    rcases List.mem_cons.mp hm with rfl | hm
    · exact PySem.W.codeHd_of_K X h__law_heard_text
    rcases List.mem_cons.mp hm with rfl | hm
    · exact PySem.W.codeHd_of_K X h__law_count_right
    rcases List.mem_cons.mp hm with rfl | hm
    · exact PySem.W.codeHd_of_K X h__law_other_right
    · cases hm
  · exact .of_eq rfl
  · intro pp hm
    rcases List.mem_cons.mp hm with rfl | hm
    · exact hT (c__law_heard_text, P__law_heard_text) (by simp)
    rcases List.mem_cons.mp hm with rfl | hm
    · exact hT (c__law_count_right, P__law_count_right) (by simp)
    rcases List.mem_cons.mp hm with rfl | hm
    · exact hT (c__law_other_right, P__law_other_right) (by simp)
    · cases hm
end Pr
end DL


open PySem PySem.W PyProof.Rows
set_option maxHeartbeats 0 in
theorem PySem.Challenge.cw_ringtolls_k01_counts_written_and_read_holds : PySem.Challenge.rw_ringtolls_k01_counts_written_and_read.Holds := by
  w_on; o_law; k_head; (case hw => w_witness2)
  k_fill
  refine LamX.walk_ofTs (l := PySem.Challenge.rw_ringtolls_k01_counts_written_and_read) (n := 63) (k := 12) (x := "script") (CX := fun w => L2.CX PySem.Challenge.pw_ringtolls_k01_counts_written_and_read w) rfl (by decide) rfl ⟨rfl, by decide, by decide⟩ (fun w h Y => PySem.W.km_in_of Y) ?F (fun w H s e s' z => DL.cx_no z)
  intro w mg fa h Y KX G hmg
  refine' DL.Pr.all_mk rfl KX G hmg ?n_abs ?n_all ?n_bool ?n_int ?n_isinstance ?n_len ?n_list ?n_max ?n_range ?n_str ?n_super ?n_tuple ?g_FIGURES ?g_MOST_NUMBER ?g_MOST_FIGURES ?g_MOST_TIMES ?C_RoomError ?C_BadText ?C_BadCount ?C_BadNumber ?i_f ?i_l ?i_c ?i_d ?i_v ?i_w ?i_x ?i_r ?i_t ?i_ty ?i_o ?x1_BadText ?x2_BadText ?x3_BadText ?x4_BadText ?x5_BadText ?x6_BadText ?x7_BadText ?x8_BadText ?x9_BadText ?xa_BadText ?xb_BadText ?xc_BadText ?xd_BadText ?xe_BadText ?x1_BadCount ?x2_BadCount ?x3_BadCount ?x4_BadCount ?x5_BadCount ?x6_BadCount ?x7_BadCount ?x8_BadCount ?x9_BadCount ?xa_BadCount ?xb_BadCount ?xc_BadCount ?xd_BadCount ?xe_BadCount ?x1_BadNumber ?x2_BadNumber ?x3_BadNumber ?x4_BadNumber ?x5_BadNumber ?x6_BadNumber ?x7_BadNumber ?x8_BadNumber ?x9_BadNumber ?xa_BadNumber ?xb_BadNumber ?xc_BadNumber ?xd_BadNumber ?xe_BadNumber ?e_BadText_BadCount ?e_BadText_BadNumber ?e_BadText_BadText ?e_BadCount_BadCount ?e_BadNumber_BadCount ?e_BadNumber_BadNumber ?a_is_integer_ ?l_is_integer ?q_is_integer ?k_is_integer ?a_is_between_ ?l_is_between ?q_is_between ?k_is_between ?a_check_number_ ?l_check_number ?q_check_number ?k_check_number ?a_is_count_ ?l_is_count ?q_is_count ?k_is_count ?a_check_count_ ?l_check_count ?q_check_count ?k_check_count ?a_rounds_at_ ?l_rounds_at ?q_rounds_at ?k_rounds_at ?a_rounds_ ?l_rounds ?q_rounds ?k_rounds ?a_format_count_ ?l_format_count ?q_format_count ?k_format_count ?a_number_in_ ?l_number_in ?q_number_in ?k_number_in ?a_count_in_ ?l_count_in ?q_count_in ?k_count_in ?a_parse_count_ ?l_parse_count ?q_parse_count ?k_parse_count ?a__law_pool_ ?l__law_pool ?q__law_pool ?k__law_pool ?a__law_take_ ?l__law_take ?q__law_take ?k__law_take ?a__law_one_ ?l__law_one ?q__law_one ?k__law_one ?a__law_yq_is_whole_ ?l__law_yq_is_whole ?q__law_yq_is_whole ?k__law_yq_is_whole ?a__law_yq_same_ ?l__law_yq_same ?q__law_yq_same ?k__law_yq_same ?a__law_ra_is_int_ ?l__law_ra_is_int ?q__law_ra_is_int ?k__law_ra_is_int ?a__law_ra_is_count_ ?l__law_ra_is_count ?q__law_ra_is_count ?k__law_ra_is_count ?a__law_ra_rounds_ ?l__law_ra_rounds ?q__law_ra_rounds ?k__law_ra_rounds ?a__law_ra_count_text_ ?l__law_ra_count_text ?q__law_ra_count_text ?k__law_ra_count_text ?a__law_heard_ ?l__law_heard ?q__law_heard ?k__law_heard ?a__law_figures_ ?l__law_figures ?q__law_figures ?k__law_figures ?a__law_read_ ?l__law_read ?q__law_read ?k__law_read ?a__law_count_ ?l__law_count ?q__law_count ?k__law_count ?a__law_number_ ?l__law_number ?q__law_number ?k__law_number ?a__law_others_ ?l__law_others ?q__law_others ?k__law_others ?a__law_heard_text_ ?l__law_heard_text ?q__law_heard_text ?k__law_heard_text ?v__law_heard_text ?p__law_heard_text ?h__law_heard_text ?z__law_heard_text ?a__law_text_right_ ?l__law_text_right ?q__law_text_right ?k__law_text_right ?a__law_bent_ ?l__law_bent ?q__law_bent ?k__law_bent ?a__law_count_right_ ?l__law_count_right ?q__law_count_right ?k__law_count_right ?v__law_count_right ?p__law_count_right ?h__law_count_right ?z__law_count_right ?a__law_other_right_ ?l__law_other_right ?q__law_other_right ?k__law_other_right ?v__law_other_right ?p__law_other_right ?h__law_other_right ?z__law_other_right ?a__law_short_right_ ?l__law_short_right ?q__law_short_right ?k__law_short_right ?a_law_ ?l_law ?q_law ?k_law ?d__law_heard_text__law_count_right ?d__law_heard_text__law_other_right ?d__law_count_right__law_other_right (PySem.W.km_tabs_of Y _ ?y__law_heard_text) (PySem.W.km_tabs_of Y _ ?y__law_count_right) (PySem.W.km_tabs_of Y _ ?y__law_other_right) DL.Pr.pure_law
  case n_abs => k_is
  case n_all => k_is
  case n_bool => k_is
  case n_int => k_is
  case n_isinstance => k_is
  case n_len => k_is
  case n_list => k_is
  case n_max => k_is
  case n_range => k_is
  case n_str => k_is
  case n_super => k_is
  case n_tuple => k_is
  case g_FIGURES => k_is
  case g_MOST_NUMBER => k_is
  case g_MOST_FIGURES => k_is
  case g_MOST_TIMES => k_is
  case C_RoomError => k_is
  case C_BadText => k_is
  case C_BadCount => k_is
  case C_BadNumber => k_is
  case i_f => k_is
  case i_l => k_is
  case i_c => k_is
  case i_d => k_is
  case i_v => first | rfl | k_is
  case i_w => first | rfl | decide +kernel
  case i_x => k_is
  case i_r => k_is
  case i_t => first | rfl | decide +kernel
  case i_ty => k_is
  case i_o => k_is
  case x1_BadText => k_is
  case x2_BadText => first | rfl | decide +kernel
  case x3_BadText => k_is
  case x4_BadText => k_is
  case x5_BadText => k_is
  case x6_BadText => k_is
  case x7_BadText => k_is
  case x8_BadText => k_is
  case x9_BadText => k_is
  case xa_BadText => k_is
  case xb_BadText => k_is
  case xc_BadText => k_is
  case xd_BadText => k_is
  case xe_BadText => kernel_rfl
  case x1_BadCount => k_is
  case x2_BadCount => first | rfl | decide +kernel
  case x3_BadCount => k_is
  case x4_BadCount => k_is
  case x5_BadCount => k_is
  case x6_BadCount => k_is
  case x7_BadCount => k_is
  case x8_BadCount => k_is
  case x9_BadCount => k_is
  case xa_BadCount => k_is
  case xb_BadCount => k_is
  case xc_BadCount => k_is
  case xd_BadCount => k_is
  case xe_BadCount => kernel_rfl
  case x1_BadNumber => k_is
  case x2_BadNumber => first | rfl | decide +kernel
  case x3_BadNumber => k_is
  case x4_BadNumber => k_is
  case x5_BadNumber => k_is
  case x6_BadNumber => k_is
  case x7_BadNumber => k_is
  case x8_BadNumber => k_is
  case x9_BadNumber => k_is
  case xa_BadNumber => k_is
  case xb_BadNumber => k_is
  case xc_BadNumber => k_is
  case xd_BadNumber => k_is
  case xe_BadNumber => kernel_rfl
  case e_BadText_BadCount => kernel_rfl
  case e_BadText_BadNumber => kernel_rfl
  case e_BadText_BadText => kernel_rfl
  case e_BadCount_BadCount => kernel_rfl
  case e_BadNumber_BadCount => kernel_rfl
  case e_BadNumber_BadNumber => kernel_rfl
  case a_is_integer_ => k_is
  case l_is_integer => k_is
  case q_is_integer => k_is
  case k_is_integer => k_is
  case a_is_between_ => k_is
  case l_is_between => k_is
  case q_is_between => k_is
  case k_is_between => k_is
  case a_check_number_ => k_is
  case l_check_number => k_is
  case q_check_number => k_is
  case k_check_number => k_is
  case a_is_count_ => k_is
  case l_is_count => k_is
  case q_is_count => k_is
  case k_is_count => k_is
  case a_check_count_ => k_is
  case l_check_count => k_is
  case q_check_count => k_is
  case k_check_count => k_is
  case a_rounds_at_ => k_is
  case l_rounds_at => k_is
  case q_rounds_at => k_is
  case k_rounds_at => k_is
  case a_rounds_ => k_is
  case l_rounds => k_is
  case q_rounds => k_is
  case k_rounds => k_is
  case a_format_count_ => k_is
  case l_format_count => k_is
  case q_format_count => k_is
  case k_format_count => k_is
  case a_number_in_ => k_is
  case l_number_in => k_is
  case q_number_in => k_is
  case k_number_in => k_is
  case a_count_in_ => k_is
  case l_count_in => k_is
  case q_count_in => k_is
  case k_count_in => k_is
  case a_parse_count_ => k_is
  case l_parse_count => k_is
  case q_parse_count => k_is
  case k_parse_count => k_is
  case a__law_pool_ => k_is
  case l__law_pool => k_is
  case q__law_pool => k_is
  case k__law_pool => k_is
  case a__law_take_ => k_is
  case l__law_take => k_is
  case q__law_take => k_is
  case k__law_take => k_is
  case a__law_one_ => k_is
  case l__law_one => k_is
  case q__law_one => k_is
  case k__law_one => k_is
  case a__law_yq_is_whole_ => k_is
  case l__law_yq_is_whole => k_is
  case q__law_yq_is_whole => k_is
  case k__law_yq_is_whole => k_is
  case a__law_yq_same_ => k_is
  case l__law_yq_same => k_is
  case q__law_yq_same => k_is
  case k__law_yq_same => k_is
  case a__law_ra_is_int_ => k_is
  case l__law_ra_is_int => k_is
  case q__law_ra_is_int => k_is
  case k__law_ra_is_int => k_is
  case a__law_ra_is_count_ => k_is
  case l__law_ra_is_count => k_is
  case q__law_ra_is_count => k_is
  case k__law_ra_is_count => k_is
  case a__law_ra_rounds_ => k_is
  case l__law_ra_rounds => k_is
  case q__law_ra_rounds => k_is
  case k__law_ra_rounds => k_is
  case a__law_ra_count_text_ => k_is
  case l__law_ra_count_text => k_is
  case q__law_ra_count_text => k_is
  case k__law_ra_count_text => k_is
  case a__law_heard_ => k_is
  case l__law_heard => k_is
  case q__law_heard => k_is
  case k__law_heard => k_is
  case a__law_figures_ => k_is
  case l__law_figures => k_is
  case q__law_figures => k_is
  case k__law_figures => k_is
  case a__law_read_ => k_is
  case l__law_read => k_is
  case q__law_read => k_is
  case k__law_read => k_is
  case a__law_count_ => k_is
  case l__law_count => k_is
  case q__law_count => k_is
  case k__law_count => k_is
  case a__law_number_ => k_is
  case l__law_number => k_is
  case q__law_number => k_is
  case k__law_number => k_is
  case a__law_others_ => k_is
  case l__law_others => k_is
  case q__law_others => k_is
  case k__law_others => k_is
  case a__law_heard_text_ => k_is
  case l__law_heard_text => k_is
  case q__law_heard_text => k_is
  case k__law_heard_text => k_is
  case v__law_heard_text => k_is
  case p__law_heard_text => rfl
  case h__law_heard_text => kernel_rfl
  case z__law_heard_text => first | k_is | kernel_rfl
  case a__law_text_right_ => k_is
  case l__law_text_right => k_is
  case q__law_text_right => k_is
  case k__law_text_right => k_is
  case a__law_bent_ => k_is
  case l__law_bent => k_is
  case q__law_bent => k_is
  case k__law_bent => k_is
  case a__law_count_right_ => k_is
  case l__law_count_right => k_is
  case q__law_count_right => k_is
  case k__law_count_right => k_is
  case v__law_count_right => k_is
  case p__law_count_right => rfl
  case h__law_count_right => kernel_rfl
  case z__law_count_right => first | k_is | kernel_rfl
  case a__law_other_right_ => k_is
  case l__law_other_right => k_is
  case q__law_other_right => k_is
  case k__law_other_right => k_is
  case v__law_other_right => k_is
  case p__law_other_right => rfl
  case h__law_other_right => kernel_rfl
  case z__law_other_right => first | k_is | kernel_rfl
  case a__law_short_right_ => k_is
  case l__law_short_right => k_is
  case q__law_short_right => k_is
  case k__law_short_right => k_is
  case a_law_ => k_is
  case l_law => k_is
  case q_law => k_is
  case k_law => k_is
  case d__law_heard_text__law_count_right => decide
  case d__law_heard_text__law_other_right => decide
  case d__law_count_right__law_other_right => decide
  case y__law_heard_text => simp
  case y__law_count_right => simp
  case y__law_other_right => simp

