import PyProof.Rows.All
import Wide.All
import OpenK.AllK
import Wide.FinOn
import HandS.ForMost
import HandS.ForExc
import HandS.Zip
import HandS.More
import HandS.IsInst
import HandS.Wide
import HandS.HeadHook4
import HandS.HeadWalk
import HandS.TryMany
import HandS.ExcCtx
import HandS.Lambda
import HandS.TupAny
import HandS.TupMul
import HandS.TupLe
import HandS.Deep
import KE.GoesNew
import HandS.HotCalls
import HandS.ExcIs
import HandS.ExcField
import PyProof.CollectIter
import HandS.Small
import HandS.Text
import HandS.RaiseMore
import HandS.ExcInitHot
import HandS.MakeKwOnly
import KE.IntTextLaws
import KE.KIntText
import HandS.HeadEnd
import HandS.Head2
import HandS.NestedK
import PySem.Challenge.RW_cageworks_k01_whole_programs
set_option Elab.async false
set_option linter.all false
set_option maxRecDepth 100000
set_option maxHeartbeats 0
namespace DL
open PySem PySem.Spec PyProof.Rows L2

/-! ### deep values, the tracked heap -/
inductive D where
  | non | bl (b : Bool) | int (i : Int) | str (s : String)
  | tup (xs : List D) | lst (xs : List D) | dct (kvs : List (D × D)) | ref (a : Addr) | scr (ns : List Int)

inductive DO where
  | lst (xs : List D) | dct (kvs : List (D × D)) | ins (c : String) (fs : List (String × D))
abbrev DG := Addr → Option DO
def gset (G : DG) (a : Addr) (o : Option DO) : DG := fun b => if b = a then o else G b
theorem gset_same {G : DG} {a : Addr} {o : Option DO} : gset G a o a = o := by unfold gset; rw [if_pos rfl]
theorem gset_ne {G : DG} {a b : Addr} {o : Option DO} (h : b ≠ a) : gset G a o b = G b := by unfold gset; rw [if_neg h]

abbrev S (s : String) : Str := Str.ofString s
def keyOf : D → Option Key
  | .int i => some (.inl i)
  | .str s => some (.inr (S s))
  | _ => none

def KTup (K : PySem.W.Frag) (a : Addr) (xs : List V) : Prop :=
  ∃ (o : Obj) (its : Array Value) (n : Nat), K.lookup a = some o ∧ o.cls = .type "tuple" ∧ o.data = .seq its n ∧ its.size ≤ sizeLine ∧ Vals xs its.toList
/-- the frozen addresses (told by no transformer) -/
abbrev FS := Addr → Prop
def fadd (F : FS) (p : Addr) : FS := fun a => a = p ∨ F a
/-- what stands there, locked or not -/
def strip : HO → HO
  | .frz _ u => u
  | u => u
def Rs (H : Hp) (a : Addr) (u : HO) : Prop := ∃ o, H a = some o ∧ strip o = u
theorem Rs.rd {H : Hp} {a : Addr} {u : HO} (h : Rs H a u) : Rd H a u := by
  obtain ⟨o, h, e⟩ := h
  cases o <;> first | exact .inl (by rw [h, ← e]; rfl) | exact .inr ⟨_, by rw [h, ← e]; rfl⟩
theorem Rs.of {H : Hp} {a : Addr} {u : HO} (h : H a = some u) (e : strip u = u := by rfl) : Rs H a u := ⟨u, h, e⟩
/-- data: a list, a tuple, a dict -/
def isDat : HO → Bool
  | .lst _ => true
  | .tup _ => true
  | .dK _ => true
  | _ => false
/-- no table, no code -/
def plainO : HO → Bool
  | .tbl _ => false
  | .ext _ => false
  | _ => true
theorem isDat_own {u : HO} (h : isDat u = true) (b : Addr) : u ≠ .own b := fun z => by rw [z] at h; cases h
theorem plain_dat {u : HO} (h : isDat (strip u) = true) : plainO u = true := by cases u <;> first | rfl | cases h
theorem dat_plain {u : HO} (h : isDat u = true) : plainO u = true := by cases u <;> first | rfl | cases h
abbrev LT := List (Addr × Str)
theorem tabs_upd {T : LT} {H : Hp} {a : Addr} {u : HO} (t : LamX.Tabs T H) (h : ∀ o, H a = some o → plainO o = true) : LamX.Tabs T (upd H a u) := fun p hp => by
  obtain ⟨ps, e, tr, cs⟩ := t p hp
  have hp1 : p.1 ≠ a := fun z => by
    have := h _ (z ▸ e)
    cases this
  refine ⟨ps, by rw [upd_ne hp1]; exact e, tr, fun pos cv hc => ?_⟩
  obtain ⟨c, ec, hcd⟩ := cs pos cv hc
  have hc1 : c ≠ a := fun z => by
    have := h _ (z ▸ hcd)
    cases this
  exact ⟨c, ec, by rw [upd_ne hc1]; exact hcd⟩
theorem tabs_new {T : LT} {H : Hp} {a : Addr} {u : HO} (t : LamX.Tabs T H) (h : H a = none) : LamX.Tabs T (upd H a u) := tabs_upd t fun o e => by rw [h] at e; cases e
def KLst (K : PySem.W.Frag) (a : Addr) (xs : List V) : Prop :=
  ∃ (o : Obj) (its : Array Value) (n : Nat), K.lookup a = some o ∧ o.cls = .type "list" ∧ o.dict = none ∧ o.data = .seq its n ∧ its.size ≤ sizeLine ∧ Vals xs its.toList
def TupAt (K : PySem.W.Frag) (F : FS) (H : Hp) (a : Addr) (vs : List V) : Prop := (Rs H a (.tup vs) ∧ F a) ∨ KTup K a vs
def LstAt (F : FS) (H : Hp) (a : Addr) (vs : List V) : Prop := Rs H a (.lst vs) ∧ F a
def DctAt (F : FS) (H : Hp) (a : Addr) (ws : List (Key × V)) : Prop := Rs H a (.dK ws) ∧ F a

mutual
def RelD (K : PySem.W.Frag) (F : FS) (H : Hp) : D → V → Prop
  | .non, v => v = .non
  | .bl b, v => v = .bl b
  | .int i, v => v = .int i
  | .str s, v => v = .str (S s)
  | .tup xs, v => ∃ a vs, v = .ref a ∧ TupAt K F H a vs ∧ RelDs K F H xs vs
  | .lst xs, v => ∃ a vs, v = .ref a ∧ LstAt F H a vs ∧ RelDs K F H xs vs
  | .dct kvs, v => ∃ a ws, v = .ref a ∧ DctAt F H a ws ∧ RelKs K F H kvs ws
  | .ref a, v => v = .ref a
  | .scr ns, v => ∃ a, v = .ref a ∧ ((Rs H a (.lst (ns.map V.int)) ∧ F a) ∨ KLst K a (ns.map V.int))
def RelDs (K : PySem.W.Frag) (F : FS) (H : Hp) : List D → List V → Prop
  | [], vs => vs = []
  | x :: xs, vs => ∃ v r, vs = v :: r ∧ RelD K F H x v ∧ RelDs K F H xs r
def RelKs (K : PySem.W.Frag) (F : FS) (H : Hp) : List (D × D) → List (Key × V) → Prop
  | [], ws => ws = []
  | (k, x) :: r, ws => ∃ key v ws', ws = (key, v) :: ws' ∧ keyOf k = some key ∧ RelD K F H x v ∧ RelKs K F H r ws'
end

/-- frozen things stay; so do private ones (neither frozen nor tracked), and they stay private -/
structure Step (F : FS) (G : DG) (H : Hp) (F' : FS) (G' : DG) (H' : Hp) : Prop where
  fz : ∀ a o, F a → H a = some o → F' a ∧ Rs H' a (strip o)
  pv : ∀ a o, ¬ F a → G a = none → H a = some o → plainO o = true → ¬ F' a ∧ G' a = none ∧ H' a = some o
theorem Step.refl {F : FS} {G : DG} {H : Hp} : Step F G H F G H := ⟨fun _ o f h => ⟨f, o, h, rfl⟩, fun _ _ f g h _ => ⟨f, g, h⟩⟩
theorem Step.trans {F F1 F2 : FS} {G G1 G2 : DG} {H H1 H2 : Hp} (a : Step F G H F1 G1 H1) (b : Step F1 G1 H1 F2 G2 H2) : Step F G H F2 G2 H2 :=
  ⟨fun x o f h => let ⟨f1, o1, h1, e1⟩ := a.fz x o f h; e1 ▸ b.fz x o1 f1 h1, fun x o f g h p => let ⟨f1, g1, h1⟩ := a.pv x o f g h p; b.pv x o f1 g1 h1 p⟩

/-- what frozen values lean on stands in another heap -/
def Kept (F : FS) (H : Hp) (F' : FS) (H' : Hp) : Prop := ∀ a o, F a → H a = some o → F' a ∧ Rs H' a (strip o)
section
variable {K : PySem.W.Frag} {F F' : FS} {H H' : Hp}
theorem Rs.kept {a : Addr} {u : HO} (s : Kept F H F' H') (r : Rs H a u) (f : F a) : Rs H' a u ∧ F' a := by
  obtain ⟨o, h, e⟩ := r
  obtain ⟨f1, h1⟩ := s a o f h
  rw [e] at h1
  exact ⟨h1, f1⟩
theorem TupAt.kept {a : Addr} {vs : List V} (s : Kept F H F' H') (h : TupAt K F H a vs) : TupAt K F' H' a vs := by
  rcases h with ⟨h, g⟩ | h
  · exact .inl (Rs.kept s h g)
  · exact .inr h
theorem LstAt.kept {a : Addr} {vs : List V} (s : Kept F H F' H') (h : LstAt F H a vs) : LstAt F' H' a vs := Rs.kept s h.1 h.2
theorem DctAt.kept {a : Addr} {ws : List (Key × V)} (s : Kept F H F' H') (h : DctAt F H a ws) : DctAt F' H' a ws := Rs.kept s h.1 h.2
mutual
theorem RelD.kept (s : Kept F H F' H') : ∀ (d : D) {v : V}, RelD K F H d v → RelD K F' H' d v
  | .non, _, h => h
  | .bl _, _, h => h
  | .int _, _, h => h
  | .str _, _, h => h
  | .tup xs, _, ⟨a, vs, e, t, r⟩ => ⟨a, vs, e, t.kept s, RelDs.kept s xs r⟩
  | .lst xs, _, ⟨a, vs, e, t, r⟩ => ⟨a, vs, e, t.kept s, RelDs.kept s xs r⟩
  | .dct kvs, _, ⟨a, vs, e, t, r⟩ => ⟨a, vs, e, t.kept s, RelKs.kept s kvs r⟩
  | .ref _, _, h => h
  | .scr ns, _, ⟨a, e, t⟩ => ⟨a, e, t.imp (fun t => Rs.kept s t.1 t.2) id⟩
theorem RelDs.kept (s : Kept F H F' H') : ∀ (ds : List D) {vs : List V}, RelDs K F H ds vs → RelDs K F' H' ds vs
  | [], _, h => h
  | x :: xs, _, ⟨v, r, e, h, t⟩ => ⟨v, r, e, RelD.kept s x h, RelDs.kept s xs t⟩
theorem RelKs.kept (s : Kept F H F' H') : ∀ (ds : List (D × D)) {ws : List (Key × V)}, RelKs K F H ds ws → RelKs K F' H' ds ws
  | [], _, h => h
  | (k, x) :: xs, _, ⟨key, v, r, e, ek, h, t⟩ => ⟨key, v, r, e, ek, RelD.kept s x h, RelKs.kept s xs t⟩
end
theorem RelD.step {G G' : DG} (s : Step F G H F' G' H') (d : D) {v : V} (h : RelD K F H d v) : RelD K F' H' d v := RelD.kept s.fz d h
theorem RelDs.step {G G' : DG} (s : Step F G H F' G' H') (d : List D) {v : List V} (h : RelDs K F H d v) : RelDs K F' H' d v := RelDs.kept s.fz d h
theorem RelKs.step {G G' : DG} (s : Step F G H F' G' H') (d : List (D × D)) {v : List (Key × V)} (h : RelKs K F H d v) : RelKs K F' H' d v := RelKs.kept s.fz d h
end

def RelFs (K : PySem.W.Frag) (F : FS) (H : Hp) : List (String × D) → List (Str × V) → Prop
  | [], ws => ws = []
  | (f, x) :: r, ws => ∃ v ws', ws = (S f, v) :: ws' ∧ RelD K F H x v ∧ RelFs K F H r ws'
def RelO (K : PySem.W.Frag) (F : FS) (G : DG) (H : Hp) : DO → Option HO → Prop
  | .lst xs, ho => ∃ vs, ho = some (.lst vs) ∧ RelDs K F H xs vs
  | .dct kvs, ho => ∃ ws, ho = some (.dK ws) ∧ RelKs K F H kvs ws
  | .ins c fs, ho => ∃ dx ws, ho = some (.ins (He.ga K (S c)) dx ws) ∧ G dx = none ∧ ¬ F dx ∧ (∃ b, H dx = some (.own b)) ∧ RelFs K F H fs ws
structure RelG (K : PySem.W.Frag) (T : LT) (F : FS) (G : DG) (H : Hp) : Prop where
  fz : ∀ a, F a → G a = none ∧ ∃ o, H a = some o ∧ isDat (strip o) = true
  tb : LamX.Tabs T H
  ob : ∀ a o, G a = some o → RelO K F G H o (H a)
def RelSt (K : PySem.W.Frag) (F : FS) (H : Hp) (env : List (Option D)) (σ : L2.St) : Prop :=
  env.length = σ.length ∧ ∀ (i : Nat) (d : D), env[i]? = some (some d) → ∃ v, σ[i]? = some (some v) ∧ RelD K F H d v

section
variable {K : PySem.W.Frag} {T : LT} {F F' : FS} {G G' : DG} {H H' : Hp}
theorem RelFs.kept (s : Kept F H F' H') : ∀ (fs : List (String × D)) {ws : List (Str × V)}, RelFs K F H fs ws → RelFs K F' H' fs ws
  | [], _, h => h
  | (f, x) :: xs, _, ⟨v, r, e, h, t⟩ => ⟨v, r, e, RelD.kept s x h, RelFs.kept s xs t⟩
theorem RelFs.step (s : Step F G H F' G' H') (fs : List (String × D)) {ws : List (Str × V)} (h : RelFs K F H fs ws) : RelFs K F' H' fs ws := RelFs.kept s.fz fs h
theorem RelO.step (s : Step F G H F' G' H') {o : DO} {ho : Option HO} (h : RelO K F G H o ho) : RelO K F' G' H' o ho := by
  cases o with
  | lst xs => obtain ⟨vs, e, r⟩ := h; exact ⟨vs, e, RelDs.step s xs r⟩
  | dct xs => obtain ⟨vs, e, r⟩ := h; exact ⟨vs, e, RelKs.step s xs r⟩
  | ins c fs =>
    obtain ⟨dx, ws, e, g, f, ⟨b, q⟩, r⟩ := h
    obtain ⟨f1, g1, h1⟩ := s.pv dx _ f g q rfl
    exact ⟨dx, ws, e, g1, f1, ⟨b, h1⟩, RelFs.step s fs r⟩
theorem RelSt.step (s : Step F G H F' G' H') {env : List (Option D)} {σ : L2.St} (h : RelSt K F H env σ) : RelSt K F' H' env σ :=
  ⟨h.1, fun i d e => let ⟨v, e1, r⟩ := h.2 i d e; ⟨v, e1, RelD.step s d r⟩⟩
theorem RelG.obj {a : Addr} {o : DO} (h : RelG K T F G H) (e : G a = some o) : ∃ u, H a = some u ∧ plainO u = true := by
  have r := h.ob a o e
  cases o with
  | lst xs => obtain ⟨vs, e, _⟩ := r; exact ⟨_, e, rfl⟩
  | dct xs => obtain ⟨vs, e, _⟩ := r; exact ⟨_, e, rfl⟩
  | ins c fs => obtain ⟨dx, ws, e, _⟩ := r; exact ⟨_, e, rfl⟩
theorem RelG.free {a : Addr} (h : RelG K T F G H) (e : H a = none) : G a = none := by
  cases q : G a with
  | none => rfl
  | some o => obtain ⟨u, z, _⟩ := h.obj q; rw [e] at z; cases z
theorem RelG.nof {a : Addr} (h : RelG K T F G H) (e : H a = none) : ¬ F a := fun f => by
  obtain ⟨_, o, z, _⟩ := h.fz a f
  rw [e] at z; cases z
/-- a new frozen object -/
theorem Step.new {a : Addr} {u : HO} (hn : H a = none) : Step F G H (fadd F a) G (upd H a u) :=
  ⟨fun b o f e => ⟨.inr f, o, by rw [upd_ne (ne_of_none e hn)]; exact e, rfl⟩, fun b o f g e _ => ⟨fun z => z.elim (ne_of_none e hn) f, g, by rw [upd_ne (ne_of_none e hn)]; exact e⟩⟩
/-- a new private object -/
theorem Step.priv {a : Addr} {u : HO} (hn : H a = none) : Step F G H F G (upd H a u) :=
  ⟨fun b o f e => ⟨f, o, by rw [upd_ne (ne_of_none e hn)]; exact e, rfl⟩, fun b o f g e _ => ⟨f, g, by rw [upd_ne (ne_of_none e hn)]; exact e⟩⟩
theorem RelG.to (h : RelG K T F G H) (s : Step F G H F' G H') (hf : ∀ a, F' a → F a ∨ (G a = none ∧ ∃ o, H' a = some o ∧ isDat (strip o) = true)) (ht : LamX.Tabs T H') (ho : ∀ a o, G a = some o → H' a = H a) : RelG K T F' G H' := by
  refine ⟨fun a f => ?_, ht, fun a o e => ?_⟩
  · rcases hf a f with f | f
    · obtain ⟨g, o, z, d⟩ := h.fz a f
      obtain ⟨_, o', z', e'⟩ := s.fz a o f z
      exact ⟨g, o', z', by rw [e']; exact d⟩
    · exact f
  · rw [ho a o e]
    exact (h.ob a o e).step s
theorem RelG.new {a : Addr} {u : HO} (h : RelG K T F G H) (hn : H a = none) (hu : isDat (strip u) = true := by rfl) : RelG K T (fadd F a) G (upd H a u) :=
  h.to (Step.new hn) (fun b f => f.elim (fun e => .inr ⟨by rw [e]; exact h.free hn, u, by rw [e, upd_same], hu⟩) .inl) (tabs_new h.tb hn) fun b o e => upd_ne (by
    obtain ⟨w, z, _⟩ := h.obj e
    exact ne_of_none z hn)
theorem RelG.priv {a : Addr} {u : HO} (h : RelG K T F G H) (hn : H a = none) : RelG K T F G (upd H a u) :=
  h.to (Step.priv hn) (fun b f => .inl f) (tabs_new h.tb hn) fun b o e => upd_ne (by
    obtain ⟨w, z, _⟩ := h.obj e
    exact ne_of_none z hn)
/-- a new tracked object, or one that is written -/
theorem Step.set {a : Addr} {o : Option DO} {u : HO} (hg : RelG K T F G H) (h : H a = none ∨ G a ≠ none) : Step F G H F (gset G a o) (upd H a u) := by
  refine ⟨fun b w f e => ?_, fun b w f g e _ => ?_⟩
  · have hb : b ≠ a := fun z => by
      subst z
      rcases h with h | h
      · rw [e] at h; cases h
      · exact h (hg.fz b f).1
    exact ⟨f, w, by rw [upd_ne hb]; exact e, rfl⟩
  · have hb : b ≠ a := fun z => by
      subst z
      rcases h with h | h
      · rw [e] at h; cases h
      · exact h g
    exact ⟨f, by rw [gset_ne hb]; exact g, by rw [upd_ne hb]; exact e⟩
theorem RelG.plain {a : Addr} (h : RelG K T F G H) (hs : H a = none ∨ G a ≠ none) : ∀ o, H a = some o → plainO o = true := fun o e => by
  rcases hs with q | q
  · rw [q] at e; cases e
  · cases z : G a with
    | none => exact absurd z q
    | some w =>
      obtain ⟨u, eu, pu⟩ := h.obj z
      rw [e] at eu
      cases eu
      exact pu
theorem RelG.set {a : Addr} {o : DO} {u : HO} (h : RelG K T F G H) (hs : H a = none ∨ G a ≠ none) (r : RelO K F (gset G a (some o)) (upd H a u) o (some u)) : RelG K T F (gset G a (some o)) (upd H a u) := by
  have s : Step F G H F (gset G a (some o)) (upd H a u) := Step.set h hs
  refine ⟨fun b f => ?_, tabs_upd h.tb (h.plain hs), fun b w e => ?_⟩
  · have hb : b ≠ a := fun z => by
      subst z
      rcases hs with q | q
      · exact h.nof q f
      · exact q (h.fz b f).1
    obtain ⟨g, w, z, d⟩ := h.fz b f
    exact ⟨by rw [gset_ne hb]; exact g, w, by rw [upd_ne hb]; exact z, d⟩
  · by_cases hb : b = a
    · subst hb
      rw [gset_same] at e
      cases e
      rw [upd_same]
      exact r
    · rw [gset_ne hb] at e
      rw [upd_ne hb]
      exact (h.ob b w e).step s
/-- a private object is written; becomes frozen; becomes tracked -/
theorem RelO.kept (s : Kept F H F' H') (hp : ∀ a b, ¬ F a → G a = none → H a = some (.own b) → ¬ F' a ∧ G' a = none ∧ H' a = some (.own b)) {o : DO} {ho : Option HO} (h : RelO K F G H o ho) : RelO K F' G' H' o ho := by
  cases o with
  | lst xs => obtain ⟨vs, e, r⟩ := h; exact ⟨vs, e, RelDs.kept s xs r⟩
  | dct xs => obtain ⟨vs, e, r⟩ := h; exact ⟨vs, e, RelKs.kept s xs r⟩
  | ins c fs =>
    obtain ⟨dx, ws, e, g, f, ⟨b, q⟩, r⟩ := h
    obtain ⟨f1, g1, h1⟩ := hp dx b f g q
    exact ⟨dx, ws, e, g1, f1, ⟨b, h1⟩, RelFs.kept s fs r⟩
theorem kept_wr {a : Addr} {u : HO} (hf : ¬ F a) : Kept F H F (upd H a u) := fun b o f e => ⟨f, o, by rw [upd_ne (fun (z : b = a) => hf (z ▸ f))]; exact e, rfl⟩
theorem RelG.wr {a : Addr} {u0 u : HO} (h : RelG K T F G H) (hf : ¬ F a) (hg : G a = none) (e0 : H a = some u0) (hu : isDat u0 = true) : RelG K T F G (upd H a u) := by
  refine ⟨fun b f => ?_, tabs_upd h.tb (fun o e => by rw [e0] at e; cases e; exact dat_plain hu), fun b o e => ?_⟩
  · obtain ⟨g, o, z, d⟩ := h.fz b f
    obtain ⟨_, o', z', e'⟩ := kept_wr (u := u) hf b o f z
    exact ⟨g, o', z', by rw [e']; exact d⟩
  · rw [upd_ne (fun z => by rw [z, hg] at e; cases e)]
    refine RelO.kept (kept_wr hf) (fun c d f g q => ⟨f, g, ?_⟩) (h.ob b o e)
    rw [upd_ne (fun z => by rw [z, e0] at q; cases q; exact isDat_own hu d rfl)]
    exact q
theorem Step.wr {F0 : FS} {G0 : DG} {H0 : Hp} {a : Addr} {u : HO} (s : Step F0 G0 H0 F G H) (h0 : H0 a = none) : Step F0 G0 H0 F G (upd H a u) :=
  ⟨fun b o f e => ⟨(s.fz b o f e).1, by unfold Rs; rw [upd_ne (ne_of_none e h0)]; exact (s.fz b o f e).2⟩, fun b o f g e p => ⟨(s.pv b o f g e p).1, (s.pv b o f g e p).2.1, by rw [upd_ne (ne_of_none e h0)]; exact (s.pv b o f g e p).2.2⟩⟩
theorem RelG.frz {a : Addr} {u0 : HO} (h : RelG K T F G H) (hg : G a = none) (e0 : H a = some u0) (hu : isDat u0 = true) : RelG K T (fadd F a) G H := by
  refine ⟨fun b f => ?_, h.tb, fun b o e => ?_⟩
  · rcases f with rfl | f
    · exact ⟨hg, u0, e0, by cases u0 <;> first | exact hu | cases hu⟩
    · exact h.fz b f
  · refine RelO.kept (fun b o f e => ⟨.inr f, o, e, rfl⟩) (fun c d f g q => ⟨fun z => z.elim (fun z => ?_) f, g, q⟩) (h.ob b o e)
    rw [z, e0] at q; cases q; exact isDat_own hu d rfl
theorem Step.frz {F0 : FS} {G0 : DG} {H0 : Hp} {a : Addr} (s : Step F0 G0 H0 F G H) (h0 : H0 a = none) : Step F0 G0 H0 (fadd F a) G H :=
  ⟨fun b o f e => ⟨.inr (s.fz b o f e).1, (s.fz b o f e).2⟩, fun b o f g e p => ⟨fun z => z.elim (ne_of_none e h0) (s.pv b o f g e p).1, (s.pv b o f g e p).2⟩⟩
theorem RelG.trk {a : Addr} {u0 : HO} {o : DO} (h : RelG K T F G H) (hf : ¬ F a) (hg : G a = none) (e0 : H a = some u0) (hu : isDat u0 = true) (r : RelO K F (gset G a (some o)) H o (some u0)) : RelG K T F (gset G a (some o)) H := by
  refine ⟨fun b f => ⟨?_, (h.fz b f).2⟩, h.tb, fun b w e => ?_⟩
  · rw [gset_ne (fun (z : b = a) => hf (z ▸ f))]; exact (h.fz b f).1
  · by_cases hb : b = a
    · subst hb
      rw [gset_same] at e
      cases e
      rw [e0]
      exact r
    · rw [gset_ne hb] at e
      refine RelO.kept (fun b o f e => ⟨f, o, e, rfl⟩) (fun c d f g q => ⟨f, ?_, q⟩) (h.ob b w e)
      rw [gset_ne (fun z => by rw [z, e0] at q; cases q; exact isDat_own hu d rfl)]
      exact g
theorem Step.trk {F0 : FS} {G0 : DG} {H0 : Hp} {a : Addr} {o : Option DO} (s : Step F0 G0 H0 F G H) (h0 : H0 a = none) : Step F0 G0 H0 F (gset G a o) H :=
  ⟨s.fz, fun b w f g e p => ⟨(s.pv b w f g e p).1, by rw [gset_ne (ne_of_none e h0)]; exact (s.pv b w f g e p).2.1, (s.pv b w f g e p).2.2⟩⟩
/-- forgetting -/
theorem gsub_none (hs : ∀ a o, G' a = some o → G a = some o) {b : Addr} (g : G b = none) : G' b = none := by
  cases q : G' b with
  | none => rfl
  | some z => rw [hs b z q] at g; cases g
theorem Step.sub (hs : ∀ a o, G' a = some o → G a = some o) : Step F G H F G' H := ⟨fun b w f e => ⟨f, w, e, rfl⟩, fun b w f g e _ => ⟨f, gsub_none hs g, e⟩⟩
theorem RelG.sub (h : RelG K T F G H) (hs : ∀ a o, G' a = some o → G a = some o) : RelG K T F G' H :=
  ⟨fun a f => ⟨gsub_none hs (h.fz a f).1, (h.fz a f).2⟩, h.tb, fun a o e => (h.ob a o (hs a o e)).step (Step.sub hs)⟩
theorem RelSt.get {env : List (Option D)} {σ : L2.St} {i : Nat} {d : D} (h : RelSt K F H env σ) (e : env[i]? = some (some d)) : ∃ v, σ[i]? = some (some v) ∧ RelD K F H d v := h.2 i d e
theorem RelSt.set {env : List (Option D)} {σ : L2.St} {i : Nat} {d : D} {v : V} (h : RelSt K F H env σ) (r : RelD K F H d v) : RelSt K F H (env.set i (some d)) (σ.set i (some v)) := by
  refine ⟨by simp [h.1], fun j d' e => ?_⟩
  by_cases hj : i = j
  · subst hj
    by_cases hi : i < env.length
    · rw [List.getElem?_set_self hi] at e
      cases e
      exact ⟨v, by rw [List.getElem?_set_self (by rw [← h.1]; exact hi)], r⟩
    · rw [List.getElem?_eq_none (by simpa using hi)] at e; cases e
  · rw [List.getElem?_set_ne hj] at e ⊢
    exact h.2 j d' e
end

/-! ### transformers and their lifts -/
abbrev DSt := List (Option D)
abbrev DK := D → DG → Prop
abbrev DX := String × Option D
abbrev DXK := DX → DSt → DG → Prop
abbrev DTE := DXK → DSt → DG → DK → Prop
abbrev DTT := DXK → DSt → DG → (Bool → DG → Prop) → Prop
abbrev DTA := DXK → DSt → DG → (List D → DG → Prop) → Prop
structure DEnds where
  nx : DSt → DG → Prop
  rt : DK
abbrev DTS := DXK → DEnds → DSt → DG → Prop

def RelX (K : PySem.W.Frag) (F : FS) (H : Hp) : DX → Value → Option Addr → Prop
  | (c, none), cls, d => cls = .ref (He.ga K (S c)) ∧ d = none
  | (c, some x), cls, d => cls = .ref (He.ga K (S c)) ∧ ∃ dd v, d = some dd ∧ H dd = some (.xd [(S "excess", v)]) ∧ RelD K F H x v
def XOk (K : PySem.W.Frag) (T : LT) (W : WX) (E : DXK) (F : FS) (G : DG) (H : Hp) : Prop :=
  ∀ x env' F' G' cls d σ' H', E x env' G' → Step F G H F' G' H' → RelG K T F' G' H' → RelSt K F' H' env' σ' → RelX K F' H' x cls d → W cls d σ' H'
theorem XOk.step {K : PySem.W.Frag} {T : LT} {W : WX} {E : DXK} {F F' : FS} {G G' : DG} {H H' : Hp} (x : XOk K T W E F G H) (s : Step F G H F' G' H') : XOk K T W E F' G' H' := fun a b c d e f g h i j k l m => x a b c d e f g h i (s.trans j) k l m

def liftE (K : PySem.W.Frag) (T : LT) (W : WX) (t : DTE) : TE := fun σ H Q => ∃ env F G E P, RelG K T F G H ∧ RelSt K F H env σ ∧ XOk K T W E F G H ∧ t E env G P ∧
  ∀ d F' G' v H', P d G' → Step F G H F' G' H' → RelG K T F' G' H' → RelD K F' H' d v → Q v H'
def liftT (K : PySem.W.Frag) (T : LT) (W : WX) (t : DTT) : TT := fun σ H Q => ∃ env F G E P, RelG K T F G H ∧ RelSt K F H env σ ∧ XOk K T W E F G H ∧ t E env G P ∧
  ∀ b F' G' H', P b G' → Step F G H F' G' H' → RelG K T F' G' H' → Q b H'
def liftA (K : PySem.W.Frag) (T : LT) (W : WX) (t : DTA) : TA := fun σ H Q => ∃ env F G E P, RelG K T F G H ∧ RelSt K F H env σ ∧ XOk K T W E F G H ∧ t E env G P ∧
  ∀ ds F' G' vs H', P ds G' → Step F G H F' G' H' → RelG K T F' G' H' → RelDs K F' H' ds vs → Q vs H'
def liftS (K : PySem.W.Frag) (T : LT) (W : WX) (t : DTS) : TS := fun D σ H => ∃ env F G E DE, RelG K T F G H ∧ RelSt K F H env σ ∧ XOk K T W E F G H ∧ t E DE env G ∧
  (∀ env' F' G' σ' H', DE.nx env' G' → Step F G H F' G' H' → RelG K T F' G' H' → RelSt K F' H' env' σ' → D.nx σ' H') ∧
  (∀ d F' G' v H', DE.rt d G' → Step F G H F' G' H' → RelG K T F' G' H' → RelD K F' H' d v → D.rt v H')
abbrev QE (X : Cx) (T : LT) (W : WX) (e : Expr) (t : DTE) : Prop := PE X e (liftE X.K T W t)
abbrev QT (X : Cx) (T : LT) (W : WX) (e : Expr) (t : DTT) : Prop := PT X e (liftT X.K T W t)
abbrev QA (X : Cx) (T : LT) (W : WX) (es : List Expr) (t : DTA) : Prop := PA X es (liftA X.K T W t)
abbrev QS (X : Cx) (T : LT) (W : WX) (st : Stmt) (t : DTS) : Prop := PS X st (liftS X.K T W t)
abbrev QSs (X : Cx) (T : LT) (W : WX) (st : List Stmt) (t : DTS) : Prop := PSs X st (liftS X.K T W t)

theorem PE.imp {X : Cx} {e : Expr} {t t' : TE} (h : PE X e t) (k : ∀ σ H Q, t' σ H Q → t σ H Q) : PE X e t' := ⟨fun pins s σ H Q I w => h.run pins s σ H Q I (k σ H Q w)⟩
theorem PT.imp {X : Cx} {e : Expr} {t t' : TT} (h : PT X e t) (k : ∀ σ H Q, t' σ H Q → t σ H Q) : PT X e t' := ⟨fun pins s σ H Q I w => h.run pins s σ H Q I (k σ H Q w)⟩
theorem PA.imp {X : Cx} {e : List Expr} {t t' : TA} (h : PA X e t) (k : ∀ σ H Q, t' σ H Q → t σ H Q) : PA X e t' := ⟨fun pos pins s σ H Q I w => h.run pos pins s σ H Q I (k σ H Q w)⟩
theorem PS.imp {X : Cx} {e : Stmt} {t t' : TS} (h : PS X e t) (k : ∀ D σ H, t' D σ H → t D σ H) : PS X e t' := ⟨fun pins s σ H D I w => h.run pins s σ H D I (k D σ H w)⟩
theorem PSs.imp {X : Cx} {e : List Stmt} {t t' : TS} (h : PSs X e t) (k : ∀ D σ H, t' D σ H → t D σ H) : PSs X e t' := ⟨fun pins s σ H D I w => h.run pins s σ H D I (k D σ H w)⟩
end DL

namespace DL
open PySem PySem.Spec PyProof.Rows L2
variable {T : LT}
/-! ### expressions -/
def dVar (i : Nat) : DTE := fun _ env G Q => ∃ d, env[i]? = some (some d) ∧ Q d G
def dC (d : D) : DTE := fun _ _ G Q => Q d G
def dOp (f : DG → D → D → Option D) (ta tb : DTE) : DTE := fun E env G Q => ta E env G fun x G1 => tb E env G1 fun y G2 => ∃ z, f G2 x y = some z ∧ Q z G2
def dUn (f : DG → D → Option D) (ta : DTE) : DTE := fun E env G Q => ta E env G fun x G1 => ∃ z, f G1 x = some z ∧ Q z G1
def dChain (f g : DG → D → D → Option D) (ta tb tc : DTE) : DTE := fun E env G Q => ta E env G fun x G1 => tb E env G1 fun y G2 => ∃ b, f G2 x y = some (.bl b) ∧
  if b = true then tc E env G2 fun z G3 => ∃ r, g G3 y z = some r ∧ Q r G3 else Q (.bl false) G2
def dTest (t : DTE) : DTT := fun E env G Q => t E env G fun x G1 => ∃ b, x = .bl b ∧ Q b G1
def dAnd (t u : DTT) : DTT := fun E env G Q => t E env G fun c G1 => if c = true then u E env G1 Q else Q false G1
def dOr (t u : DTT) : DTT := fun E env G Q => t E env G fun c G1 => if c = true then Q true G1 else u E env G1 Q
def dNot (t : DTT) : DTT := fun E env G Q => t E env G fun c G1 => Q (!c) G1
def dAndV (t u : DTE) : DTE := fun E env G Q => t E env G fun x G1 => ∃ c, x = .bl c ∧ if c = true then u E env G1 Q else Q (.bl false) G1
def dOrV (t u : DTE) : DTE := fun E env G Q => t E env G fun x G1 => ∃ c, x = .bl c ∧ if c = true then Q (.bl true) G1 else u E env G1 Q
def dNotV (t : DTE) : DTE := fun E env G Q => t E env G fun x G1 => ∃ c, x = .bl c ∧ Q (.bl (!c)) G1
def dIf (c : DTT) (t u : DTE) : DTE := fun E env G Q => c E env G fun b G1 => if b = true then t E env G1 Q else u E env G1 Q
def dNil : DTA := fun _ _ G Q => Q [] G
def dCons (t : DTE) (u : DTA) : DTA := fun E env G Q => t E env G fun x G1 => u E env G1 fun xs G2 => Q (x :: xs) G2
def dTup (t : DTA) : DTE := fun E env G Q => t E env G fun xs G1 => xs.length ≤ 16000000 ∧ Q (.tup xs) G1
def dLst (t : DTA) : DTE := fun E env G Q => t E env G fun xs G1 => xs.length ≤ 16000000 ∧ Q (.lst xs) G1
/-- a list that will be written: tracked -/
def dLstB (t : DTA) : DTE := fun E env G Q => t E env G fun xs G1 => xs.length ≤ 16000000 ∧ ∀ p, G1 p = none → Q (.ref p) (gset G1 p (some (.lst xs)))
/-- a call of a built-in by its values -/
def dB (f : DG → List D → Option D) (t : DTA) : DTE := fun E env G Q => t E env G fun xs G1 => ∃ z, f G1 xs = some z ∧ Q z G1
abbrev DSp := List D → DG → DK → (DX → DG → Prop) → Prop
def dCall (sp : DSp) (t : DTA) : DTE := fun E env G Q => t E env G fun xs G1 => sp xs G1 Q fun x G' => E x env G'

/-! ### by values -/
def rD (K : PySem.W.Frag) (T : LT) (f : DG → D → D → Option D) : R2 := fun x y H Q => ∃ F G dx dy z, RelG K T F G H ∧ RelD K F H dx x ∧ RelD K F H dy y ∧ f G dx dy = some z ∧ ∀ F' v H', Step F G H F' G H' → RelG K T F' G H' → RelD K F' H' z v → Q v H'
def rD1 (K : PySem.W.Frag) (T : LT) (f : DG → D → Option D) : V → Hp → VK → Prop := fun x H Q => ∃ F G dx z, RelG K T F G H ∧ RelD K F H dx x ∧ f G dx = some z ∧ ∀ F' v H', Step F G H F' G H' → RelG K T F' G H' → RelD K F' H' z v → Q v H'
def rDB (K : PySem.W.Frag) (T : LT) (f : DG → List D → Option D) : List V → Hp → VK → Prop := fun xs H Q => ∃ F G ds z, RelG K T F G H ∧ RelDs K F H ds xs ∧ f G ds = some z ∧ ∀ F' v H', Step F G H F' G H' → RelG K T F' G H' → RelD K F' H' z v → Q v H'

section
variable {X : Cx} {W : WX} {a b c : Expr} {ta tb tc : DTE} {pos : Pos}
theorem q_var {i : Nat} {x : Str} (hN : X.N[i]? = some x) (hv : Vis X.env.scope x) (hd : (x == ("__debug__" : Str)) = false := by decide) (hcd : (x == ("__classdict__" : Str)) = false := by decide) : QE X T W (.Name x pos) (dVar i) :=
  PE.imp (pe_var hN hv hd hcd) fun σ H Q ⟨env, F, G, E, P, hg, hs, hx, ⟨d, e, p⟩, hq⟩ => by
    obtain ⟨v, ev, r⟩ := hs.get e
    exact ⟨v, ev, hq d _ G v H p Step.refl hg r⟩
theorem qv (i : Nat) {x : Str} (hN : X.N[i]? = some x := by rfl) (hv : Vis X.env.scope x := by first | exact Or.inl rfl | exact Or.inr (Or.inl rfl) | exact Or.inr (Or.inr rfl)) (hd : (x == ("__debug__" : Str)) = false := by decide)
    (hcd : (x == ("__classdict__" : Str)) = false := by decide) : QE X T W (.Name x pos) (dVar i) := q_var hN hv hd hcd
theorem q_con {e : Expr} {v : V} {d : D} (h : PE X e (tC v)) (r : ∀ F H, RelD X.K F H d v) : QE X T W e (dC d) :=
  PE.imp h fun σ H Q ⟨env, F, G, E, P, hg, hs, hx, p, hq⟩ => hq d _ G v H p Step.refl hg (r F H)
theorem q_int {i : Int} {j : Nat} : QE X T W (.Constant (.int i) j pos) (dC (.int i)) := q_con pe_int fun _ _ => rfl
theorem q_bl {i : Bool} {j : Nat} : QE X T W (.Constant (.bool i) j pos) (dC (.bl i)) := q_con pe_bl fun _ _ => rfl
theorem q_non {j : Nat} : QE X T W (.Constant .none j pos) (dC .non) := q_con pe_non fun _ _ => rfl
theorem q_str {s : String} {j : Nat} : QE X T W (.Constant (.str (Str.ofString s)) j pos) (dC (.str s)) := q_con pe_str fun _ _ => rfl
theorem q_op {op : Operator} {f : DG → D → D → Option D} (ho : OpR X (binaryOp op) (rD X.K T f)) (ha : QE X T W a ta) (hb : QE X T W b tb) : QE X T W (.BinOp a op b pos) (dOp f ta tb) :=
  PE.imp (pe_op ho ha hb) fun σ H Q ⟨env, F, G, E, P, hg, hs, hx, ht, hq⟩ =>
    ⟨env, F, G, E, _, hg, hs, hx, ht, fun x F1 G1 v1 H1 h1 s1 g1 r1 => ⟨env, F1, G1, E, _, g1, hs.step s1, hx.step s1, h1, fun y F2 G2 v2 H2 ⟨z, e, p⟩ s2 g2 r2 =>
      ⟨F2, G2, x, y, z, g2, RelD.step s2 x r1, r2, e, fun F' v H' s3 g3 r3 => hq z _ G2 v H' p (s1.trans (s2.trans s3)) g3 r3⟩⟩⟩
theorem q_un {op : UnaryOp} {f : DG → D → Option D} (ho : UnR X (unaryOp op) (rD1 X.K T f)) (ha : QE X T W a ta) : QE X T W (.UnaryOp op a pos) (dUn f ta) :=
  PE.imp (pe_un ho ha) fun σ H Q ⟨env, F, G, E, P, hg, hs, hx, ht, hq⟩ =>
    ⟨env, F, G, E, _, hg, hs, hx, ht, fun x F1 G1 v1 H1 ⟨z, e, p⟩ s1 g1 r1 => ⟨F1, G1, x, z, g1, r1, e, fun F' v H' s3 g3 r3 => hq z _ G1 v H' p (s1.trans s3) g3 r3⟩⟩
theorem q_cmp {op : CmpOp} {f : DG → D → D → Option D} (ho : OpR X (compareOp op) (rD X.K T f)) (ha : QE X T W a ta) (hb : QE X T W b tb) (hm : behindInMarks op b = false) : QE X T W (.Compare a [op] [b] pos) (dOp f ta tb) :=
  PE.imp (pe_cmpR ho ha hb hm) fun σ H Q ⟨env, F, G, E, P, hg, hs, hx, ht, hq⟩ =>
    ⟨env, F, G, E, _, hg, hs, hx, ht, fun x F1 G1 v1 H1 h1 s1 g1 r1 => ⟨env, F1, G1, E, _, g1, hs.step s1, hx.step s1, h1, fun y F2 G2 v2 H2 ⟨z, e, p⟩ s2 g2 r2 =>
      ⟨F2, G2, x, y, z, g2, RelD.step s2 x r1, r2, e, fun F' v H' s3 g3 r3 => hq z _ G2 v H' p (s1.trans (s2.trans s3)) g3 r3⟩⟩⟩
theorem q_cmpT {op : CmpOp} {f : DG → D → D → Option D} (ho : OpR X (compareOp op) (rD X.K T f)) (ha : QE X T W a ta) (hb : QE X T W b tb) (hm : behindInMarks op b = false) : QT X T W (.Compare a [op] [b] pos) (dTest (dOp f ta tb)) :=
  PT.imp (pt_cmpR ho ha hb hm) fun σ H Q ⟨env, F, G, E, P, hg, hs, hx, ht, hq⟩ =>
    ⟨env, F, G, E, _, hg, hs, hx, ht, fun x F1 G1 v1 H1 h1 s1 g1 r1 => ⟨env, F1, G1, E, _, g1, hs.step s1, hx.step s1, h1, fun y F2 G2 v2 H2 ⟨z, e, k, ek, p⟩ s2 g2 r2 =>
      ⟨F2, G2, x, y, z, g2, RelD.step s2 x r1, r2, e, fun F' v H' s3 g3 r3 => by
        subst ek
        exact ⟨k, r3, hq k _ G2 H' p (s1.trans (s2.trans s3)) g3⟩⟩⟩⟩
theorem q_chain {op op' : CmpOp} {f g : DG → D → D → Option D} (ho : OpR X (compareOp op) (rD X.K T f)) (ho' : OpR X (compareOp op') (rD X.K T g)) (ha : QE X T W a ta) (hb : QE X T W b tb) (hc : QE X T W c tc)
    (hm : lastMarks [op, op'] [b, c] = false := by with_unfolding_all rfl) : QE X T W (.Compare a [op, op'] [b, c] pos) (dChain f g ta tb tc) :=
  PE.imp (pe_chain ho ho' ha hb hc hm) fun σ H Q ⟨env, F, G, E, P, hg, hs, hx, ht, hq⟩ =>
    ⟨env, F, G, E, _, hg, hs, hx, ht, fun x F1 G1 v1 H1 h1 s1 g1 r1 => ⟨env, F1, G1, E, _, g1, hs.step s1, hx.step s1, h1, fun y F2 G2 v2 H2 ⟨k, e, p⟩ s2 g2 r2 =>
      ⟨F2, G2, x, y, .bl k, g2, RelD.step s2 x r1, r2, e, fun F' v H' s3 g3 r3 => by
        refine ⟨k, r3, ?_⟩
        cases k with
        | true =>
          rw [if_pos rfl] at p ⊢
          refine ⟨env, F', G2, E, _, g3, (hs.step s1).step (s2.trans s3), hx.step (s1.trans (s2.trans s3)), p, fun z F3 G3 v4 H4 ⟨r, er, pr⟩ s4 g4 r4 => ?_⟩
          exact ⟨F3, G3, y, z, r, g4, RelD.step (s3.trans s4) y r2, r4, er, fun F5 v5 H5 s5 g5 r5 => hq r _ G3 v5 H5 pr (s1.trans (s2.trans (s3.trans (s4.trans s5)))) g5 r5⟩
        | false =>
          rw [if_neg Bool.false_ne_true] at p ⊢
          exact hq (.bl false) _ G2 _ H' p (s1.trans (s2.trans s3)) g3 rfl⟩⟩⟩
theorem q_chainT {op op' : CmpOp} {f g : DG → D → D → Option D} (ho : OpR X (compareOp op) (rD X.K T f)) (ho' : OpR X (compareOp op') (rD X.K T g)) (ha : QE X T W a ta) (hb : QE X T W b tb) (hc : QE X T W c tc)
    (hm : lastMarks [op, op'] [b, c] = false := by with_unfolding_all rfl) : QT X T W (.Compare a [op, op'] [b, c] pos) (dTest (dChain f g ta tb tc)) :=
  PT.imp (pt_chain ho ho' ha hb hc hm) fun σ H Q ⟨env, F, G, E, P, hg, hs, hx, ht, hq⟩ =>
    ⟨env, F, G, E, _, hg, hs, hx, ht, fun x F1 G1 v1 H1 h1 s1 g1 r1 => ⟨env, F1, G1, E, _, g1, hs.step s1, hx.step s1, h1, fun y F2 G2 v2 H2 ⟨k, e, p⟩ s2 g2 r2 =>
      ⟨F2, G2, x, y, .bl k, g2, RelD.step s2 x r1, r2, e, fun F' v H' s3 g3 r3 => by
        refine ⟨k, r3, ?_⟩
        cases k with
        | true =>
          rw [if_pos rfl] at p ⊢
          refine ⟨env, F', G2, E, _, g3, (hs.step s1).step (s2.trans s3), hx.step (s1.trans (s2.trans s3)), p, fun z F3 G3 v4 H4 ⟨r, er, bb, eb, pr⟩ s4 g4 r4 => ?_⟩
          subst eb
          exact ⟨F3, G3, y, z, .bl bb, g4, RelD.step (s3.trans s4) y r2, r4, er, fun F5 v5 H5 s5 g5 r5 => ⟨bb, r5, hq bb _ G3 H5 pr (s1.trans (s2.trans (s3.trans (s4.trans s5)))) g5⟩⟩
        | false =>
          rw [if_neg Bool.false_ne_true] at p ⊢
          obtain ⟨bb, eb, p⟩ := p
          cases eb
          exact ⟨false, rfl, hq false _ G2 H' p (s1.trans (s2.trans s3)) g3⟩⟩⟩⟩
/-! tests -/
variable {tA tB' tC' : DTT} {rest : List Expr}
abbrev QW (X : Cx) (T : LT) (W : WX) (e : Expr) (t : DTT) : Prop := PW X e (liftT X.K T W t)
theorem PW.imp {X : Cx} {e : Expr} {t t' : TT} (h : PW X e t) (k : ∀ σ H Q, t' σ H Q → t σ H Q) : PW X e t' := ⟨fun wh pins s σ H Q I w => h.run wh pins s σ H Q I (k σ H Q w)⟩
theorem qw_and1 (ha : QT X T W a tA) : QW X T W (.BoolOp .And [a] pos) tA := pw_and1 ha
theorem qw_or1 (ha : QT X T W a tA) : QW X T W (.BoolOp .Or [a] pos) tA := pw_or1 ha
theorem qw_and (ha : QT X T W a tA) (hb : QW X T W (.BoolOp .And (b :: rest) pos) tB') : QW X T W (.BoolOp .And (a :: b :: rest) pos) (dAnd tA tB') :=
  PW.imp (pw_and ha hb) fun σ H Q ⟨env, F, G, E, P, hg, hs, hx, ht, hq⟩ => ⟨env, F, G, E, _, hg, hs, hx, ht, fun k F1 G1 H1 p s1 g1 => by
    cases k with
    | true => exact ⟨env, F1, G1, E, _, g1, hs.step s1, hx.step s1, p, fun b F2 G2 H2 p2 s2 g2 => hq b _ G2 H2 p2 (s1.trans s2) g2⟩
    | false => exact hq false _ G1 H1 p s1 g1⟩
theorem qw_or (ha : QT X T W a tA) (hb : QW X T W (.BoolOp .Or (b :: rest) pos) tB') : QW X T W (.BoolOp .Or (a :: b :: rest) pos) (dOr tA tB') :=
  PW.imp (pw_or ha hb) fun σ H Q ⟨env, F, G, E, P, hg, hs, hx, ht, hq⟩ => ⟨env, F, G, E, _, hg, hs, hx, ht, fun k F1 G1 H1 p s1 g1 => by
    cases k with
    | false => exact ⟨env, F1, G1, E, _, g1, hs.step s1, hx.step s1, p, fun b F2 G2 H2 p2 s2 g2 => hq b _ G2 H2 p2 (s1.trans s2) g2⟩
    | true => exact hq true _ G1 H1 p s1 g1⟩
theorem qt_w {e : Expr} (h : QW X T W e tA) : QT X T W e tA := PW.pt h
theorem qt_not (ha : QT X T W a tA) : QT X T W (.UnaryOp .Not a pos) (dNot tA) :=
  PT.imp (pt_not ha) fun σ H Q ⟨env, F, G, E, P, hg, hs, hx, ht, hq⟩ => ⟨env, F, G, E, _, hg, hs, hx, ht, fun k F1 G1 H1 p s1 g1 => hq (!k) _ G1 H1 p s1 g1⟩
theorem qt_val {e : Expr} {t : DTE} (h : QE X T W e t) (he : ∀ whole, isTrue e X.env whole = (do let v ← whole; standAt e.pos; holding [v] (truthy v)) := by intro _; rfl) : QT X T W e (dTest t) :=
  PT.imp (pt_val h he) fun σ H Q ⟨env, F, G, E, P, hg, hs, hx, ht, hq⟩ => ⟨env, F, G, E, _, hg, hs, hx, ht, fun x F1 G1 v1 H1 ⟨k, e, p⟩ s1 g1 r1 => by
    subst e
    exact ⟨k, r1, hq k _ G1 H1 p s1 g1⟩⟩
theorem q_one {op} {t : DTE} (h : QE X T W a t) : QE X T W (.BoolOp op [a] pos) t := pe_one h
theorem q_and (ha : QE X T W a ta) (hb : QE X T W (.BoolOp .And (b :: rest) pos) tb) : QE X T W (.BoolOp .And (a :: b :: rest) pos) (dAndV ta tb) :=
  PE.imp (pe_and ha hb) fun σ H Q ⟨env, F, G, E, P, hg, hs, hx, ht, hq⟩ => ⟨env, F, G, E, _, hg, hs, hx, ht, fun x F1 G1 v1 H1 ⟨k, e, p⟩ s1 g1 r1 => by
    subst e
    refine ⟨k, r1, ?_⟩
    cases k with
    | true => exact ⟨env, F1, G1, E, _, g1, hs.step s1, hx.step s1, p, fun b F2 G2 v2 H2 p2 s2 g2 r2 => hq b _ G2 v2 H2 p2 (s1.trans s2) g2 r2⟩
    | false => exact hq (.bl false) _ G1 _ H1 p s1 g1 rfl⟩
theorem q_or (ha : QE X T W a ta) (hb : QE X T W (.BoolOp .Or (b :: rest) pos) tb) : QE X T W (.BoolOp .Or (a :: b :: rest) pos) (dOrV ta tb) :=
  PE.imp (pe_or ha hb) fun σ H Q ⟨env, F, G, E, P, hg, hs, hx, ht, hq⟩ => ⟨env, F, G, E, _, hg, hs, hx, ht, fun x F1 G1 v1 H1 ⟨k, e, p⟩ s1 g1 r1 => by
    subst e
    refine ⟨k, r1, ?_⟩
    cases k with
    | false => exact ⟨env, F1, G1, E, _, g1, hs.step s1, hx.step s1, p, fun b F2 G2 v2 H2 p2 s2 g2 r2 => hq b _ G2 v2 H2 p2 (s1.trans s2) g2 r2⟩
    | true => exact hq (.bl true) _ G1 _ H1 p s1 g1 rfl⟩
theorem q_not (ha : QE X T W a ta) : QE X T W (.UnaryOp .Not a pos) (dNotV ta) :=
  PE.imp (pe_not ha) fun σ H Q ⟨env, F, G, E, P, hg, hs, hx, ht, hq⟩ => ⟨env, F, G, E, _, hg, hs, hx, ht, fun x F1 G1 v1 H1 ⟨k, e, p⟩ s1 g1 r1 => by
    subst e
    exact ⟨k, r1, hq (.bl (!k)) _ G1 _ H1 p s1 g1 rfl⟩⟩
theorem q_if (hc : QT X T W c tA) (ha : QE X T W a ta) (hb : QE X T W b tb) : QE X T W (.IfExp c a b pos) (dIf tA ta tb) :=
  PE.imp (pe_ifExp hc ha hb) fun σ H Q ⟨env, F, G, E, P, hg, hs, hx, ht, hq⟩ => ⟨env, F, G, E, _, hg, hs, hx, ht, fun k F1 G1 H1 p s1 g1 => by
    cases k with
    | true => exact ⟨env, F1, G1, E, _, g1, hs.step s1, hx.step s1, p, fun b F2 G2 v2 H2 p2 s2 g2 r2 => hq b _ G2 v2 H2 p2 (s1.trans s2) g2 r2⟩
    | false => exact ⟨env, F1, G1, E, _, g1, hs.step s1, hx.step s1, p, fun b F2 G2 v2 H2 p2 s2 g2 r2 => hq b _ G2 v2 H2 p2 (s1.trans s2) g2 r2⟩⟩
/-! arguments, displays -/
variable {es : List Expr} {tr : DTA}
theorem qa_nil : QA X T W [] dNil := PA.imp pa_nil fun σ H Q ⟨env, F, G, E, P, hg, hs, hx, p, hq⟩ => hq [] _ G [] H p Step.refl hg rfl
theorem qa_cons (ha : QE X T W a ta) (hr : QA X T W es tr) (hst : starEach (a :: es) X.env = (false, eval a X.env) :: starEach es X.env := by rfl) : QA X T W (a :: es) (dCons ta tr) :=
  PA.imp (pa_cons ha hr hst) fun σ H Q ⟨env, F, G, E, P, hg, hs, hx, ht, hq⟩ => ⟨env, F, G, E, _, hg, hs, hx, ht, fun x F1 G1 v1 H1 p s1 g1 r1 =>
    ⟨env, F1, G1, E, _, g1, hs.step s1, hx.step s1, p, fun xs F2 G2 vs H2 p2 s2 g2 r2 => hq (x :: xs) _ G2 (v1 :: vs) H2 p2 (s1.trans s2) g2 ⟨v1, vs, rfl, RelD.step s2 x r1, r2⟩⟩⟩
theorem RelDs.length {K : PySem.W.Frag} {F : FS} {H : Hp} : ∀ {ds : List D} {vs : List V}, RelDs K F H ds vs → ds.length = vs.length
  | [], vs, h => by
    have e : vs = [] := h
    rw [e]
    rfl
  | x :: xs, _, ⟨v, r, e, _, t⟩ => by rw [e, List.length_cons, List.length_cons, RelDs.length t]
theorem small_line {n : Nat} (h : n ≤ 16000000) : n ≤ sizeLine := Nat.le_trans h (by decide)
/-- the new tuple at p -/
theorem relD_newTup {K : PySem.W.Frag} {F : FS} {G : DG} {H : Hp} {p : Addr} {ds : List D} {vs : List V} (hg : RelG K T F G H) (hp : H p = none) (r : RelDs K F H ds vs) : RelD K (fadd F p) (upd H p (.tup vs)) (.tup ds) (.ref p) :=
  ⟨p, vs, rfl, .inl ⟨.of upd_same, .inl rfl⟩, RelDs.step (G := G) (G' := G) (Step.new hp) ds r⟩
theorem relD_newLst {K : PySem.W.Frag} {F : FS} {G : DG} {H : Hp} {p : Addr} {ds : List D} {vs : List V} (hg : RelG K T F G H) (hp : H p = none) (r : RelDs K F H ds vs) : RelD K (fadd F p) (upd H p (.lst vs)) (.lst ds) (.ref p) :=
  ⟨p, vs, rfl, ⟨.of upd_same, .inl rfl⟩, RelDs.step (G := G) (G' := G) (Step.new hp) ds r⟩
theorem q_tup {x1} (h : QA X T W es tr) : QE X T W (.Tuple es x1 pos) (dTup tr) :=
  PE.imp (pe_tup h) fun σ H Q ⟨env, F, G, E, P, hg, hs, hx, ht, hq⟩ => ⟨env, F, G, E, _, hg, hs, hx, ht, fun xs F1 G1 vs H1 ⟨hl, p⟩ s1 g1 r1 =>
    ⟨by rw [← r1.length]; exact small_line hl, fun a ha => hq (.tup xs) _ G1 _ _ p (s1.trans (Step.new ha)) (g1.new ha) (relD_newTup g1 ha r1)⟩⟩
theorem q_lst (h : QA X T W es tr) : QE X T W (.List es pos) (dLst tr) :=
  PE.imp (pe_lst h) fun σ H Q ⟨env, F, G, E, P, hg, hs, hx, ht, hq⟩ => ⟨env, F, G, E, _, hg, hs, hx, ht, fun xs F1 G1 vs H1 ⟨hl, p⟩ s1 g1 r1 =>
    ⟨by rw [← r1.length]; exact small_line hl, fun a ha => hq (.lst xs) _ G1 _ _ p (s1.trans (Step.new ha)) (g1.new ha) (relD_newLst g1 ha r1)⟩⟩
theorem q_lstB (h : QA X T W es tr) : QE X T W (.List es pos) (dLstB tr) :=
  PE.imp (pe_lst h) fun σ H Q ⟨env, F, G, E, P, hg, hs, hx, ht, hq⟩ => ⟨env, F, G, E, _, hg, hs, hx, ht, fun xs F1 G1 vs H1 ⟨hl, p⟩ s1 g1 r1 =>
    ⟨by rw [← r1.length]; exact small_line hl, fun a ha => hq (.ref a) _ _ _ _ (p a (g1.free ha)) (s1.trans (Step.set g1 (.inl ha))) (g1.set (.inl ha) ⟨vs, rfl, RelDs.step (Step.set (o := none) g1 (.inl ha)) xs r1⟩) rfl⟩⟩
/-! built-ins, defs -/
theorem q_callB {x : Str} {id : String} {f : DG → List D → Option D} {e : Expr} {p : Pos} (hc : CallR X (.builtin id) (rDB X.K T f)) (hg : Gl X x) (hm : X.mg x = none) (hv : bootBuiltins x = some (.builtin id)) (ha : QA X T W (e :: es) tr) (hn : x ≠ "__name__" := by decide) (hdb : (x == ("__debug__" : Str)) = false := by decide)
    (he : starEach (e :: es) X.env = (false, eval e X.env) :: starEach es X.env := by rfl) (hpl : (backTo pos (starEach es X.env)).any (·.1) = false := by rfl) : QE X T W (.Call (.Name x p) (e :: es) [] pos) (dB f tr) :=
  PE.imp (pe_callB hc hg hm hv ha hn hdb he hpl) fun σ H Q ⟨env, F, G, E, P, hg, hs, hx, ht, hq⟩ => ⟨env, F, G, E, _, hg, hs, hx, ht, fun xs F1 G1 vs H1 ⟨z, e, p⟩ s1 g1 r1 =>
    ⟨F1, G1, xs, z, g1, r1, e, fun F' v H' s2 g2 r2 => hq z _ G1 v H' p (s1.trans s2) g2 r2⟩⟩
theorem q_callTy {x : Str} {ty : String} {f : DG → List D → Option D} {e : Expr} {p : Pos} (hc : CallR X (.type ty) (rDB X.K T f)) (hg : Gl X x) (hm : X.mg x = none) (hv : bootBuiltins x = some (.type ty)) (ha : QA X T W (e :: es) tr) (hn : x ≠ "__name__" := by decide) (hdb : (x == ("__debug__" : Str)) = false := by decide)
    (he : starEach (e :: es) X.env = (false, eval e X.env) :: starEach es X.env := by rfl) (hpl : (backTo pos (starEach es X.env)).any (·.1) = false := by rfl) : QE X T W (.Call (.Name x p) (e :: es) [] pos) (dB f tr) :=
  PE.imp (pe_callTy hc hg hm hv ha hn hdb he hpl) fun σ H Q ⟨env, F, G, E, P, hg, hs, hx, ht, hq⟩ => ⟨env, F, G, E, _, hg, hs, hx, ht, fun xs F1 G1 vs H1 ⟨z, e, p⟩ s1 g1 r1 =>
    ⟨F1, G1, xs, z, g1, r1, e, fun F' v H' s2 g2 r2 => hq z _ G1 v H' p (s1.trans s2) g2 r2⟩⟩
def liftSp (K : PySem.W.Frag) (T : LT) (sp : DSp) : Sp := fun vs H Q E => ∃ ds F G P Ed, RelG K T F G H ∧ RelDs K F H ds vs ∧ sp ds G P Ed ∧
  (∀ d F' G' v H', P d G' → Step F G H F' G' H' → RelG K T F' G' H' → RelD K F' H' d v → Q v H') ∧ (∀ x F' G' cls d H', Ed x G' → Step F G H F' G' H' → RelG K T F' G' H' → RelX K F' H' x cls d → E cls d H')
/-- a def of the text that keeps a promise -/
structure DFn (P : Program) (w : World) (K : PySem.W.Frag) (T : LT) (mg : Str → Option Value) (base : Heap) (k : Nat) (x : Str) (ps : List Str) (sp : DSp) : Prop where
  ok : ∃ fd, FnOk P w K mg base (L2N.CX P w) k (He.ga K x) fd ps (liftSp K T sp) ∧ Binds K fd ps []
  mg : mg x = some (.ref (He.ga K x))
  kp : PySem.W.keepIn K (.ref (He.ga K x)) = true
theorem q_call {x : Str} {sp : DSp} {k j : Nat} {ps : List Str} {e : Expr} {p : Pos} (F : DFn X.prog X.w X.K T X.mg X.base k x ps sp) (hr : Room j X.A) (hj : k ≤ j) (tk : L2N.Takes X W) (hg : Gl X x) (ha : QA X T W (e :: es) tr) (hdb : (x == ("__debug__" : Str)) = false := by decide)
    (he : starEach (e :: es) X.env = (false, eval e X.env) :: starEach es X.env := by rfl) (hpl : (backTo pos (starEach es X.env)).any (·.1) = false := by rfl) : QE X T W (.Call (.Name x p) (e :: es) [] pos) (dCall sp tr) := by
  obtain ⟨fd, F1, B⟩ := F.ok
  refine PE.imp (pe_callS (E := WE W) F1 (hr.mono hj) hg F.mg F.kp B (fun σ => L2N.passAt tk σ) ha hdb he hpl) fun σ H Q ⟨env, F, G, E, P, hg, hs, hx, ht, hq⟩ => ⟨env, F, G, E, _, hg, hs, hx, ht, fun xs F1 G1 vs H1 p s1 g1 r1 => ?_⟩
  exact ⟨xs, F1, G1, _, _, g1, r1, p, fun d F' G' v H' p2 s2 g2 r2 => hq d _ G' v H' p2 (s1.trans s2) g2 r2, fun x F' G' cls d H' p2 s2 g2 r2 => hx x env _ G' cls d σ H' p2 (s1.trans s2) g2 (hs.step (s1.trans s2)) r2⟩
theorem q_call0 {x : Str} {sp : DSp} {k j : Nat} {ps : List Str} {p : Pos} (Fn : DFn X.prog X.w X.K T X.mg X.base k x ps sp) (hr : Room j X.A) (hj : k ≤ j) (tk : L2N.Takes X W) (hg : Gl X x) (hdb : (x == ("__debug__" : Str)) = false := by decide) : QE X T W (.Call (.Name x p) [] [] pos) (dCall sp dNil) := by
  obtain ⟨fd, F1, B⟩ := Fn.ok
  refine ⟨fun pins s σ H Q I hw => ?_⟩
  obtain ⟨env, F, G, E, P, hg', hs, hx, ht, hq⟩ := hw
  refine wpAny_Call_Name_kw (ld_glob I hg Fn.mg ?_ hdb)
  refine PySem.W.callWith_K0 I.kIn Fn.kp (run_fnS (us := []) (vs := []) (E := WE W) F1 (hr.mono hj) B (L2N.passAt tk σ) I .nil ?_)
  exact ⟨[], F, G, _, _, hg', rfl, ht, hq, fun x F' G' cls d H' p2 s2 g2 r2 => hx x env _ G' cls d σ H' p2 s2 g2 (hs.step s2) r2⟩
end

/-! ### statements -/
def sNext : DTS := fun _ DE env G => DE.nx env G
def sSeq (t u : DTS) : DTS := fun E DE env G => t E { DE with nx := fun env' G' => u E DE env' G' } env G
def sDrop (t : DTE) : DTS := fun E DE env G => t E env G fun _ G1 => DE.nx env G1
def sRet (t : DTE) : DTS := fun E DE env G => t E env G DE.rt
def sRetN : DTS := fun _ DE _ G => DE.rt .non G
def sIf (c : DTT) (t u : DTS) : DTS := fun E DE env G => c E env G fun b G1 => if b = true then t E DE env G1 else u E DE env G1
def sSet (i : Nat) (t : DTE) : DTS := fun E DE env G => t E env G fun x G1 => DE.nx (env.set i (some x)) G1
def sRaise (c : String) : DTS := fun E _ env G => E (c, none) env G
def sNever : DTS := fun _ _ _ _ => False
section
variable {X : Cx} {W : WX} {st : Stmt} {rest : List Stmt} {t u : DTS} {e : Expr} {te : DTE} {pos : Pos}
theorem qs_nil : QSs X T W [] sNext := PSs.imp pss_nil fun D σ H ⟨env, F, G, E, DE, hg, hs, hx, ht, hn, hr⟩ => hn env _ G σ H ht Step.refl hg hs
theorem qs_cons (h1 : QS X T W st t) (h2 : QSs X T W rest u) : QSs X T W (st :: rest) (sSeq t u) :=
  PSs.imp (pss_cons h1 h2) fun D σ H ⟨env, F, G, E, DE, hg, hs, hx, ht, hn, hr⟩ => ⟨env, F, G, E, _, hg, hs, hx, ht, fun env' F' G' σ' H' p s1 g1 r1 =>
    ⟨env', F', G', E, DE, g1, r1, hx.step s1, p, fun env2 F2 G2 σ2 H2 p2 s2 g2 r2 => hn env2 _ G2 σ2 H2 p2 (s1.trans s2) g2 r2, fun d F2 G2 v H2 p2 s2 g2 r2 => hr d _ G2 v H2 p2 (s1.trans s2) g2 r2⟩, hr⟩
theorem qs_one (h1 : QS X T W st t) : QSs X T W [st] t := pss_one h1
theorem qs_expr (he : QE X T W e te) (hs : swapsWith e none pos.line X.env = pure false := by rfl) : QS X T W (.Expr e pos) (sDrop te) :=
  PS.imp (ps_expr he hs) fun D σ H ⟨env, F, G, E, DE, hg, hs, hx, ht, hn, hr⟩ => ⟨env, F, G, E, _, hg, hs, hx, ht, fun d F1 G1 v1 H1 p s1 g1 r1 => hn env _ G1 σ H1 p s1 g1 (hs.step s1)⟩
theorem qs_ret (he : QE X T W e te) : QS X T W (.Return (some e) pos) (sRet te) :=
  PS.imp (ps_ret he) fun D σ H ⟨env, F, G, E, DE, hg, hs, hx, ht, hn, hr⟩ => ⟨env, F, G, E, _, hg, hs, hx, ht, hr⟩
theorem qs_retN : QS X T W (.Return none pos) sRetN := PS.imp ps_retN fun D σ H ⟨env, F, G, E, DE, hg, hs, hx, ht, hn, hr⟩ => hr .non _ G .non H ht Step.refl hg rfl
theorem qs_if {c : Expr} {a b : List Stmt} {tc : DTT} (hc : QT X T W c tc) (ha : QSs X T W a t) (hb : QSs X T W b u) : QS X T W (.If c a b pos) (sIf tc t u) :=
  PS.imp (ps_if hc ha hb) fun D σ H ⟨env, F, G, E, DE, hg, hs, hx, ht, hn, hr⟩ => ⟨env, F, G, E, _, hg, hs, hx, ht, fun b F1 G1 H1 p s1 g1 => by
    cases b with
    | true => exact ⟨env, F1, G1, E, DE, g1, hs.step s1, hx.step s1, p, fun env2 F2 G2 σ2 H2 p2 s2 g2 r2 => hn env2 _ G2 σ2 H2 p2 (s1.trans s2) g2 r2, fun d F2 G2 v H2 p2 s2 g2 r2 => hr d _ G2 v H2 p2 (s1.trans s2) g2 r2⟩
    | false => exact ⟨env, F1, G1, E, DE, g1, hs.step s1, hx.step s1, p, fun env2 F2 G2 σ2 H2 p2 s2 g2 r2 => hn env2 _ G2 σ2 H2 p2 (s1.trans s2) g2 r2, fun d F2 G2 v H2 p2 s2 g2 r2 => hr d _ G2 v H2 p2 (s1.trans s2) g2 r2⟩⟩
theorem qs_set {i : Nat} {x : Str} {pos' : Pos} (hN : X.N.Nodup) (hi : X.N[i]? = some x) (hx : Loc X.env.scope x) (he : QE X T W e te) (hs : swapsWith e (some (.Name x pos')) pos.line X.env = pure false := by rfl) (hf : X.fn x = true ∨ X.env.scope.names.lookup x = some .local := by first | exact .inl rfl | exact .inr rfl | assumption) :
    QS X T W (.Assign [.Name x pos'] e pos) (sSet i te) :=
  PS.imp (ps_set hN hi hx he hs hf) fun D σ H ⟨env, F, G, E, DE, hg, hs, hx, ht, hn, hr⟩ => ⟨env, F, G, E, _, hg, hs, hx, ht, fun d F1 G1 v1 H1 p s1 g1 r1 => hn _ _ G1 _ H1 p s1 g1 ((hs.step s1).set r1)⟩
/-- an own error class as the top has left it -/
structure DXc (X : Cx) (c : String) : Prop where
  ex : PySem.W.excIn X.K (He.ga X.K (S c)) He.veBase "ValueError.__new__" = true
  mg : X.mg (S c) = some (.ref (He.ga X.K (S c)))
  kp : PySem.W.keepIn X.K (.ref (He.ga X.K (S c))) = true
  ra : Raises X (.ref (He.ga X.K (S c)))
theorem qs_raise {c m : String} {j : Nat} {p p2 p3 : Pos} (C : DXc X c) (hc : X.calm = true) (tk : L2N.Takes X W) (hg : Gl X (S c)) (hdb : (S c == ("__debug__" : Str)) = false := by decide) :
    QS X T W (.Raise (some (.Call (.Name (Str.ofString c) p) [.Constant (.str (Str.ofString m)) j p2] [] pos)) none p3) (sRaise c) :=
  PS.imp (L2N.ps_raise hc tk (L2N.pmk_own PySem.F.excBase_ValueError C.ex C.mg C.kp C.ra hg hdb)) fun D σ H ⟨env, F, G, E, DE, hg, hs, hx, ht, hn, hr⟩ => hx (c, none) env _ G _ _ σ H ht Step.refl hg hs ⟨rfl, rfl⟩
end

/-! ### a def -/
theorem RelDs.start {K : PySem.W.Frag} {F : FS} {H : Hp} : ∀ {ds : List D} {vs : List V}, RelDs K F H ds vs → ∀ (i : Nat) (d : D), ds[i]? = some d → ∃ v, vs[i]? = some v ∧ RelD K F H d v
  | [], _, _, i, d, e => by simp at e
  | x :: xs, _, ⟨v, r, rfl, h, t⟩, 0, d, e => by
    simp only [List.getElem?_cons_zero, Option.some.injEq] at e
    subst e
    exact ⟨v, rfl, h⟩
  | x :: xs, _, ⟨v, r, rfl, h, t⟩, i + 1, d, e => by
    simp only [List.getElem?_cons_succ] at e ⊢
    exact RelDs.start t i d e
def dstart (N : List Str) (ds : List D) : DSt := ds.map some ++ List.replicate (N.length - ds.length) none
theorem relSt_start {K : PySem.W.Frag} {F : FS} {H : Hp} {N : List Str} {ds : List D} {vs : List V} (r : RelDs K F H ds vs) : RelSt K F H (dstart N ds) (L2.start N vs) := by
  have hl := r.length
  refine ⟨by simp [dstart, L2.start, hl], fun i d e => ?_⟩
  unfold dstart at e
  by_cases hi : i < ds.length
  · rw [List.getElem?_append_left (by simpa using hi), List.getElem?_map] at e
    cases q : ds[i]? with
    | none => rw [q] at e; cases e
    | some x =>
      rw [q] at e
      simp only [Option.map_some, Option.some.injEq] at e
      subst e
      obtain ⟨v, ev, rv⟩ := r.start i _ q
      refine ⟨v, ?_, rv⟩
      unfold L2.start
      rw [List.getElem?_append_left (by simpa [← hl] using hi), List.getElem?_map, ev]
      rfl
  · rw [List.getElem?_append_right (by simpa using hi), List.getElem?_replicate] at e
    split at e <;> cases e
/-- THE RULE for a def: its body's derivation (at every entry), its promise shown of the transformer -/
theorem dfn_of {P : Program} {w : World} {K : PySem.W.Frag} {mg : Str → Option Value} {base : Heap} {k : Nat} {x : Str} {params : Arguments} {body : List Stmt} {scope : Scope} {kws : List (Str × V)} {fd : FuncData} {N ps : List Str} {sp : DSp} {t : DTS}
    (F : FunD K x x params body scope [] kws (He.ga K x) fd) (hmg : mg x = some (.ref (He.ga K x))) (Sc : FnScope N ps scope)
    (hb : ∀ (kV doc pm : Value) (an : Option Addr) (cdv ct : Value) (us : List Value), us.length = ps.length → bindArgs (PySem.W.fnOf x x params body scope .none kV doc pm an cdv ct) ⟨us, []⟩ = pure (ps.zip us))
    (hbody : ∀ (cdv : Value) (A : Around) (outer : List Env) (s : Shared) (H : Hp) (E : XK), Room k (A.deeper (envOfC x scope s.heap.objs.size (He.ga K x) cdv)) →
      QSs (cxOf (L2N.CX P w) P w K mg base N x scope (He.ga K x) cdv A outer s H E) T (fun cls d _ H' => E cls d H') body t)
    (hsp : ∀ ds G Q E, sp ds G Q E → ds.length = ps.length ∧ t (fun x _ G' => E x G') { nx := fun _ G' => Q .non G', rt := Q } (dstart N ds) G) :
    DFn P w K T mg base (k + 1) x ps sp := by
  refine ⟨⟨fd, F.ok (CX := L2N.CX P w) Sc (fun vs H Q E h => ?_) (fun cdv A outer s H vs Q E hr h => ⟨_, hbody cdv A outer s H E hr, ?_⟩), F.bindsN hb⟩, hmg, F.kp⟩
  · obtain ⟨ds, F, G, P, Ed, hg, hr, hs, _⟩ := h
    rw [← hr.length]
    exact (hsp _ _ _ _ hs).1
  · obtain ⟨ds, F, G, P, Ed, hg, hr, hs, hq, hx⟩ := h
    exact ⟨dstart N ds, F, G, _, _, hg, relSt_start hr, fun x env' F' G' cls d σ' H' p s g r rx => hx x _ G' cls d H' p s g rx, (hsp _ _ _ _ hs).2, fun env' F' G' σ' H' p s g r => hq .non F' G' .non H' p s g rfl, hq⟩
end DL

namespace DL
open PySem PySem.Spec PyProof.Rows L2
variable {T : LT}
/-! ### reading -/
section
variable {K : PySem.W.Frag} {F : FS} {G : DG} {H : Hp}
theorem TupAt.sq {a : Addr} {vs : List V} (h : TupAt K F H a vs) : SqT K H a vs := by
  rcases h with ⟨h, _⟩ | h
  · exact .inl h.rd
  · exact .inr h
/-- a value read as a list: frozen or tracked -/
def lstO : Option DO → Option (List D)
  | some (.lst xs) => some xs
  | _ => none
theorem lstO_eq {o : Option DO} {xs : List D} (h : lstO o = some xs) : o = some (.lst xs) := by
  unfold lstO at h
  split at h
  · cases h; rfl
  · cases h
def asL (G : DG) : D → Option (List D)
  | .lst xs => some xs
  | .ref a => lstO (G a)
  | _ => none
theorem asL_ok {d : D} {v : V} {xs : List D} (hg : RelG K T F G H) (r : RelD K F H d v) (e : asL G d = some xs) : ∃ a vs, v = .ref a ∧ Rd H a (.lst vs) ∧ RelDs K F H xs vs := by
  cases d with
  | lst ys =>
    cases e
    obtain ⟨a, vs, ev, h, rs⟩ := r
    exact ⟨a, vs, ev, h.1.rd, rs⟩
  | ref a =>
    have ev : v = .ref a := r
    obtain ⟨vs, h, rs⟩ := hg.ob a _ (lstO_eq e)
    exact ⟨a, vs, ev, .inl h, rs⟩
  | _ => cases e
/-- .. as a list or a tuple -/
def asQ (G : DG) : D → Option (List D)
  | .tup xs => some xs
  | .scr ns => some (ns.map .int)
  | d => asL G d
theorem RelDs.append : ∀ {xs ys : List D} {vs ws : List V}, RelDs K F H xs vs → RelDs K F H ys ws → RelDs K F H (xs ++ ys) (vs ++ ws)
  | [], ys, vs, ws, h, h' => by
    have e : vs = [] := h
    subst e
    exact h'
  | x :: xs, ys, _, ws, ⟨v, r, rfl, h, t⟩, h' => ⟨v, r ++ ws, rfl, h, RelDs.append t h'⟩
theorem RelDs.take : ∀ (n : Nat) {xs : List D} {vs : List V}, RelDs K F H xs vs → RelDs K F H (xs.take n) (vs.take n)
  | 0, xs, vs, _ => by simp [RelDs]
  | n + 1, [], vs, h => by
    have e : vs = [] := h
    subst e
    exact h
  | n + 1, x :: xs, _, ⟨v, r, rfl, h, t⟩ => ⟨v, r.take n, rfl, h, RelDs.take n t⟩
theorem RelDs.drop : ∀ (n : Nat) {xs : List D} {vs : List V}, RelDs K F H xs vs → RelDs K F H (xs.drop n) (vs.drop n)
  | 0, xs, vs, h => h
  | n + 1, [], vs, h => by
    have e : vs = [] := h
    subst e
    exact h
  | n + 1, x :: xs, _, ⟨v, r, rfl, h, t⟩ => RelDs.drop n t
theorem RelDs.get {xs : List D} {vs : List V} {i : Nat} {d : D} (h : RelDs K F H xs vs) (e : xs[i]? = some d) : ∃ v, vs[i]? = some v ∧ RelD K F H d v := h.start i d e
theorem RelDs.ints : ∀ {ns : List Int} {vs : List V}, RelDs K F H (ns.map .int) vs → vs = ns.map V.int
  | [], _, h => h
  | n :: ns, _, ⟨v, r, rfl, h, t⟩ => by
    have e : v = .int n := h
    rw [List.map_cons, e, RelDs.ints t]
theorem RelDs.bls : ∀ {ns : List Bool} {vs : List V}, RelDs K F H (ns.map .bl) vs → vs = ns.map V.bl
  | [], _, h => h
  | n :: ns, _, ⟨v, r, rfl, h, t⟩ => by
    have e : v = .bl n := h
    rw [List.map_cons, e, RelDs.bls t]
theorem RelDs.strs : ∀ {ns : List String} {vs : List V}, RelDs K F H (ns.map .str) vs → vs = ns.map fun s => V.str (S s)
  | [], _, h => h
  | n :: ns, _, ⟨v, r, rfl, h, t⟩ => by
    have e : v = .str (S n) := h
    rw [List.map_cons, e, RelDs.strs t]
theorem relDs_ints : ∀ (ns : List Int), RelDs K F H (ns.map .int) (ns.map V.int)
  | [] => rfl
  | n :: ns => ⟨_, _, rfl, rfl, relDs_ints ns⟩
theorem relDs_strs : ∀ (ns : List String), RelDs K F H (ns.map .str) (ns.map fun s => V.str (S s))
  | [] => rfl
  | n :: ns => ⟨_, _, rfl, rfl, relDs_strs ns⟩
theorem asQ_ok {d : D} {v : V} {xs : List D} (hg : RelG K T F G H) (r : RelD K F H d v) (e : asQ G d = some xs) : ∃ a vs, v = .ref a ∧ (SqL K H a vs ∨ SqT K H a vs) ∧ RelDs K F H xs vs := by
  cases d with
  | tup ys =>
    cases e
    obtain ⟨a, vs, ev, h, rs⟩ := r
    exact ⟨a, vs, ev, .inr h.sq, rs⟩
  | scr ns =>
    cases e
    obtain ⟨a, ev, h⟩ := r
    exact ⟨a, _, ev, .inl (h.imp (fun h => h.1.rd) id), relDs_ints ns⟩
  | lst ys =>
    obtain ⟨a, vs, ev, h, rs⟩ := asL_ok hg r e
    exact ⟨a, vs, ev, .inl (.inl h), rs⟩
  | ref b =>
    obtain ⟨a, vs, ev, h, rs⟩ := asL_ok hg r e
    exact ⟨a, vs, ev, .inl (.inl h), rs⟩
  | _ => cases e
end
theorem S_len (s : String) : (S s).length = s.length := by
  unfold S Str.length
  rw [Str.ofString_eq_toList]
  simp [String.length_toList]
theorem S_cps (s : String) : (S s).cps.toList = s.toList.map Char.toNat := by
  unfold S
  rw [Str.ofString_eq_toList]
theorem S_app (s t : String) : S (s ++ t) = S s ++ S t := by
  show Str.ofString (s ++ t) = ⟨(Str.ofString s).cps ++ (Str.ofString t).cps⟩
  rw [Str.ofString_eq_toList, Str.ofString_eq_toList, Str.ofString_eq_toList]
  simp
theorem S_inj {s t : String} (h : S s = S t) : s = t := by
  have e := congrArg (fun z : Str => z.cps.toList) h
  simp only [S_cps] at e
  have e2 : s.toList = t.toList := by
    have := List.map_inj_right (f := Char.toNat) (fun a b q => Char.ext (UInt32.toNat_inj.mp q)) |>.mp e
    exact this
  exact String.toList_inj.mp e2
theorem S_beq (s t : String) : (S s == S t) = (s == t) := by
  by_cases h : s = t
  · subst h; simp
  · have h' : S s ≠ S t := fun e => h (S_inj e)
    rw [beq_eq_false_iff_ne.mpr h, beq_eq_false_iff_ne.mpr h']
theorem S_dec (s t : String) : decide (S s = S t) = decide (s = t) := by
  by_cases h : s = t
  · subst h; simp
  · have h' : S s ≠ S t := fun e => h (S_inj e)
    rw [decide_eq_false h, decide_eq_false h']
end DL

namespace DL
open PySem PySem.Spec PyProof.Rows L2
variable {T : LT}
/-! ### operators by values -/
def pyAdd (G : DG) (x y : D) : Option D := match x, y with
  | .int i, .int j => some (.int (i + j))
  | .str s, .str t => if s.length + t.length ≤ 16000000 then some (.str (s ++ t)) else none
  | .tup xs, .tup ys => if xs.length + ys.length ≤ 16000000 then some (.tup (xs ++ ys)) else none
  | x, y => match asL G x, asL G y with
    | some xs, some ys => if xs.length + ys.length ≤ 16000000 then some (.lst (xs ++ ys)) else none
    | _, _ => none
def pySub (_ : DG) (x y : D) : Option D := match x, y with
  | .int i, .int j => some (.int (i - j))
  | _, _ => none
def mulOk (i j : Int) : Bool := decide (i.natAbs < 2 ^ 64) || decide (j.natAbs < 2 ^ 64) || (decide (i.natAbs < 2 ^ 600) && decide (j.natAbs < 2 ^ 600))
def pyMul (G : DG) (x y : D) : Option D := match x, y with
  | .int i, .int j => if mulOk i j = true then some (.int (i * j)) else none
  | .tup xs, .int k => if 2 ≤ k ∧ k ≤ 1000 ∧ xs.length ≤ 1000 ∧ xs ≠ [] then some (.tup (List.replicate k.toNat xs).flatten) else none
  | x, .int k => match asL G x with
    | some xs => if k ≤ 10000 ∧ xs.length ≤ 1000 ∧ -10000 ≤ k then some (.lst (List.replicate k.toNat xs).flatten) else none
    | _ => none
  | _, _ => none
def pyMod (_ : DG) (x y : D) : Option D := match x, y with
  | .int i, .int j => if 0 < j then some (.int (i % j)) else none
  | _, _ => none
def pyDiv (_ : DG) (x y : D) : Option D := match x, y with
  | .int i, .int j => if 0 < j ∧ j < 2 ^ 600 then some (.int (i / j)) else none
  | _, _ => none
def pyPow (_ : DG) (x y : D) : Option D := match x, y with
  | .int i, .int j => if 0 ≤ j ∧ j ≤ 1000 ∧ i.natAbs < 2 ^ 60 then some (.int (i ^ j.toNat)) else none
  | _, _ => none
def pyNeg (_ : DG) (x : D) : Option D := match x with
  | .int i => some (.int (-i))
  | _ => none
section
variable {X : Cx}
theorem Inv.lstR {pins : List (Addr × Obj)} {σ : L2.St} {H : Hp} {s : Shared} {l : Addr} {xs : List V} (I : Inv X pins σ H s) (h : Rd H l (.lst xs)) :
    xs.length ≤ sizeLine ∧ ∃ (its : List Value) (n : Nat), Vals xs its ∧ xs.length = its.length ∧ s.heap.get? l = some { cls := .type "list", data := .seq its.toArray n } := by
  obtain ⟨z, its, n, r, e⟩ := h.ok I.hok
  exact ⟨z, its, n, r, r.length, e⟩
theorem op_catR : OpR X (binaryOp .Add) (fun x y H Q => ∃ l b xs zs, x = .ref l ∧ y = .ref b ∧ Rd H l (.lst xs) ∧ Rd H b (.lst zs) ∧ xs.length + zs.length ≤ sizeLine ∧ ∀ p, H p = none → Q (.ref p) (upd H p (.lst (xs ++ zs)))) := by
  intro pins s σ H x y v u Q I rx ry h
  obtain ⟨l, b, xs, zs, rfl, rfl, hH, hB, hz, q⟩ := h
  cases rx
  cases ry
  obtain ⟨z, its, n, r, hl, e⟩ := Inv.lstR I hH
  obtain ⟨z2, its2, n2, r2, hl2, e2⟩ := Inv.lstR I hB
  refine PySem.P.add_list e e2 ?_ (by rw [List.size_toArray, List.size_toArray]; omega)
  have ea : its.toArray ++ its2.toArray = (its ++ its2).toArray := by simp
  rw [ea]
  exact ⟨.ref _, _, I.lnew (t' := s.toks) (r.append r2) (by rw [List.length_append]; omega), rfl, q _ I.fresh⟩
theorem op_pyAdd : OpR X (binaryOp .Add) (rD X.K T pyAdd) := by
  intro pins s σ H x y v u Q I rx ry ⟨F, G, dx, dy, z, hg, r1, r2, e, q⟩
  unfold pyAdd at e
  split at e
  · cases e
    exact op_add pins s σ H x y v u Q I rx ry ⟨_, _, r1, r2, q _ _ H Step.refl hg rfl⟩
  · rename_i a b
    split at e
    · rename_i hl
      cases e
      exact op_add_str pins s σ H x y v u Q I rx ry ⟨_, _, r1, r2, by rw [S_len, S_len]; exact small_line hl, q _ _ H Step.refl hg (show _ = V.str (S (a ++ b)) by rw [S_app])⟩
    · cases e
  · rename_i xs ys
    split at e
    · rename_i hl
      cases e
      obtain ⟨a, vs, e1, t1, k1⟩ := r1
      obtain ⟨b, ws, e2, t2, k2⟩ := r2
      have hl' : vs.length + ws.length ≤ sizeLine := by rw [← k1.length, ← k2.length]; exact small_line hl
      refine op_catA pins s σ H x y v u Q I rx ry ⟨a, b, vs, ws, e1, e2, t1.sq, t2.sq, hl', fun h0 => ?_, fun _ h0 => ?_, fun _ _ p hp => ?_⟩
      · refine q _ _ H Step.refl hg ⟨b, ws, rfl, t2, ?_⟩
        have := k1.append k2
        rw [h0] at this
        exact this
      · refine q _ _ H Step.refl hg ⟨a, vs, rfl, t1, ?_⟩
        have := k1.append k2
        rw [h0, List.append_nil] at this
        exact this
      · exact q _ _ _ (Step.new hp) (hg.new hp) (relD_newTup hg hp (k1.append k2))
    · cases e
  · split at e
    · rename_i xs ys ex ey
      split at e
      · rename_i hl
        cases e
        obtain ⟨a, vs, e1, t1, k1⟩ := asL_ok hg r1 ex
        obtain ⟨b, ws, e2, t2, k2⟩ := asL_ok hg r2 ey
        have hl' : vs.length + ws.length ≤ sizeLine := by rw [← k1.length, ← k2.length]; exact small_line hl
        exact op_catR pins s σ H x y v u Q I rx ry ⟨a, b, vs, ws, e1, e2, t1, t2, hl', fun p hp => q _ _ _ (Step.new hp) (hg.new hp) (relD_newLst hg hp (k1.append k2))⟩
      · cases e
    · cases e
theorem op_pySub : OpR X (binaryOp .Sub) (rD X.K T pySub) := by
  intro pins s σ H x y v u Q I rx ry ⟨F, G, dx, dy, z, hg, r1, r2, e, q⟩
  unfold pySub at e
  split at e
  · cases e
    exact op_sub pins s σ H x y v u Q I rx ry ⟨_, _, r1, r2, q _ _ H Step.refl hg rfl⟩
  · cases e
theorem op_pyMod : OpR X (binaryOp .Mod) (rD X.K T pyMod) := by
  intro pins s σ H x y v u Q I rx ry ⟨F, G, dx, dy, z, hg, r1, r2, e, q⟩
  unfold pyMod at e
  split at e
  · split at e
    · rename_i hj
      cases e
      exact op_mod pins s σ H x y v u Q I rx ry ⟨_, _, r1, r2, hj, q _ _ H Step.refl hg rfl⟩
    · cases e
  · cases e
theorem op_pyPow : OpR X (binaryOp .Pow) (rD X.K T pyPow) := by
  intro pins s σ H x y v u Q I rx ry ⟨F, G, dx, dy, z, hg, r1, r2, e, q⟩
  unfold pyPow at e
  split at e
  · split at e
    · rename_i hj
      cases e
      exact op_pow pins s σ H x y v u Q I rx ry ⟨_, _, r1, r2, ⟨hj.1, by omega, by omega⟩, q _ _ H Step.refl hg rfl⟩
    · cases e
  · cases e
theorem un_pyNeg : UnR X (unaryOp .USub) (rD1 X.K T pyNeg) := by
  intro pins s σ H x v Q I rx ⟨F, G, dx, z, hg, r1, e, q⟩
  unfold pyNeg at e
  split at e
  · cases e
    exact un_neg pins s σ H x v Q I rx ⟨_, r1, q _ _ H Step.refl hg rfl⟩
  · cases e
end
end DL

namespace DL
open PySem PySem.Spec PyProof.Rows L2
variable {T : LT}
section
variable {X : Cx}
theorem op_repR : OpR X (binaryOp .Mult) (fun x y H Q => ∃ l k xs, x = .ref l ∧ y = .int k ∧ Rd H l (.lst xs) ∧ -(2 ^ 63) ≤ k ∧ k < 2 ^ 63 ∧ xs.length * k.toNat ≤ sizeLine ∧
  ∀ p, H p = none → Q (.ref p) (upd H p (.lst (List.replicate k.toNat xs).flatten))) := by
  intro pins s σ H x y v u Q I rx ry ⟨l, k, xs, ex, ey, hR, lo, hi, small, q⟩
  subst ex ey
  obtain ⟨t, rfl⟩ := ry
  cases rx
  obtain ⟨_, its, n, rv, len, obj⟩ := Inv.lstR I hR
  have sz : its.toArray.size * k.toNat ≤ sizeLine := by simpa [← len] using small
  have top : (sizeLine : Nat) ≤ (2 ^ 63 - 1) / 8 := by decide
  have all : List.foldl (· ++ ·) #[] (List.replicate (if its.toArray.isEmpty = true then 0 else k.toNat) its.toArray) = (List.replicate k.toNat its).flatten.toArray := by
    have f0 := fun m => foldl_rep its m []
    simp only [List.nil_append] at f0
    rw [f0]
    cases its <;> simp
  have go := AutoListH.list___mul___list_int_3 l its.toArray n k t (by rw [fitsIndex_both lo hi]; decide) (by omega) (by rw [notLongL sz]; decide)
  refine wpAny_binaryOp_repeat_ref (T := "list") (U := "int") (by decide) ⟨_, obj, rfl⟩ (fun s' => typeIs_int s' k t) noFill_list_mul F.fills_int_mul F.slot_int_rmul repeat_list F.slot_int_index.lookup ?_
  refine call_meets F.slot_int_rmul (typeIs_int s k t) F.entry_int_rmul (F.args_int_rmul_2 _ _) (int___rmul___int_list k t l its.toArray n) ⟨obj, rfl, ⟨_, obj, rfl⟩, ?_⟩
  refine call_meets F.slot_list_mul ⟨_, obj, rfl⟩ F.entry_list_mul (F.args_list_mul_2 _ _) go ⟨obj, ?_⟩
  rw [all]
  exact ⟨.ref _, _, I.lnew (t' := s.toks) (rv.rep k.toNat) (by rw [PyProof.Rows.lm_len_rep_flat, Nat.mul_comm]; exact small), rfl, q _ I.fresh⟩
theorem relDs_flat {K : PySem.W.Frag} {F : FS} {H : Hp} {xs : List D} {vs : List V} (r : RelDs K F H xs vs) : ∀ n : Nat, RelDs K F H (List.replicate n xs).flatten (List.replicate n vs).flatten
  | 0 => rfl
  | n + 1 => by
    simp only [List.replicate_succ, List.flatten_cons]
    exact r.append (relDs_flat r n)
theorem bits64 {i : Int} (h : i.natAbs < 2 ^ 64) : Builtin.Int.intBits i ≤ 64 := by
  unfold Builtin.Int.intBits
  split
  · omega
  · rename_i hne
    have hz : i.natAbs ≠ 0 := by simpa using hne
    have := (Nat.log2_lt hz).mpr h
    omega
theorem op_mulA : OpR X (binaryOp .Mult) (rI IntMulOk fun i j => .int (i * j)) := opI fun _ _ _ _ _ _ _ hc q => mul_int q hc
theorem op_pyMul : OpR X (binaryOp .Mult) (rD X.K T pyMul) := by
  intro pins s σ H x y v u Q I rx ry ⟨F, G, dx, dy, z, hg, r1, r2, e, q⟩
  unfold pyMul at e
  split at e
  · rename_i i j
    split at e
    · rename_i hj
      cases e
      unfold mulOk at hj
      simp only [Bool.or_eq_true, Bool.and_eq_true, decide_eq_true_eq] at hj
      rcases hj with (hj | hj) | hj
      · exact op_mulA pins s σ H x y v u Q I rx ry ⟨_, _, r1, r2, .of_left (bits64 hj), q _ _ H Step.refl hg rfl⟩
      · exact op_mulA pins s σ H x y v u Q I rx ry ⟨_, _, r1, r2, .of_right (bits64 hj), q _ _ H Step.refl hg rfl⟩
      · exact op_mulW pins s σ H x y v u Q I rx ry ⟨_, _, r1, r2, wide_mul hj.1 hj.2 (by decide) (by decide) (by decide), q _ _ H Step.refl hg rfl⟩
    · cases e
  · rename_i xs k
    split at e
    · rename_i hj
      cases e
      obtain ⟨a, vs, e1, t1, k1⟩ := r1
      refine op_repT pins s σ H x y v u Q I rx ry ⟨a, k, vs, e1, r2, t1.sq, ?_, hj.1, hj.2.1, by rw [← k1.length]; exact hj.2.2.1, fun p hp => q _ _ _ (Step.new hp) (hg.new hp) (relD_newTup hg hp (relDs_flat k1 _))⟩
      intro z
      rw [z] at k1
      exact hj.2.2.2 (List.eq_nil_of_length_eq_zero k1.length)
    · cases e
  · rename_i x k _ _
    split at e
    · rename_i xs ex
      split at e
      · rename_i hj
        cases e
        obtain ⟨a, vs, e1, t1, k1⟩ := asL_ok hg r1 ex
        refine op_repR pins s σ H _ y v u Q I rx ry ⟨a, k, vs, e1, r2, t1, by omega, by omega, ?_, fun p hp => q _ _ _ (Step.new hp) (hg.new hp) (relD_newLst hg hp (relDs_flat k1 _))⟩
        rw [← k1.length]
        have h1 : k.toNat ≤ 10000 := by omega
        exact Nat.le_trans (Nat.mul_le_mul hj.2.1 h1) (by decide)
      · cases e
    · cases e
  · cases e
theorem op_pyDiv : OpR X (binaryOp .FloorDiv) (rD X.K T pyDiv) := by
  intro pins s σ H x y v u Q I rx ry ⟨F, G, dx, dy, z, hg, r1, r2, e, q⟩
  unfold pyDiv at e
  split at e
  · rename_i i j
    split at e
    · rename_i hj
      cases e
      have hb : j.natAbs < 2 ^ 600 := by omega
      exact op_fdivW pins s σ H x y v u Q I rx ry ⟨_, _, r1, r2, wide_div hj.1 hb (by decide) (by decide), q _ _ H Step.refl hg rfl⟩
    · cases e
  · cases e
end
/-! ### comparisons -/
def strLt (s t : String) : Bool := decide (s.toList.map Char.toNat < t.toList.map Char.toNat)
def pyLt (_ : DG) (x y : D) : Option D := match x, y with
  | .int i, .int j => some (.bl (decide (i < j)))
  | .str s, .str t => some (.bl (strLt s t))
  | _, _ => none
def pyGt (_ : DG) (x y : D) : Option D := match x, y with
  | .int i, .int j => some (.bl (decide (j < i)))
  | .str s, .str t => some (.bl (strLt t s))
  | _, _ => none
def pyLe (_ : DG) (x y : D) : Option D := match x, y with
  | .int i, .int j => some (.bl (decide (i ≤ j)))
  | .str s, .str t => some (.bl (!strLt t s))
  | _, _ => none
def pyGe (_ : DG) (x y : D) : Option D := match x, y with
  | .int i, .int j => some (.bl (decide (j ≤ i)))
  | .str s, .str t => some (.bl (!strLt s t))
  | _, _ => none
def isNon : D → Bool
  | .non => true
  | _ => false
def pyIs (_ : DG) (x y : D) : Option D := match x, y with
  | x, .non => some (.bl (isNon x))
  | .bl a, .bl b => some (.bl (a == b))
  | _, _ => none
def pyIsNot (_ : DG) (x y : D) : Option D := match x, y with
  | x, .non => some (.bl (!isNon x))
  | .bl a, .bl b => some (.bl (!(a == b)))
  | _, _ => none
section
variable {X : Cx}
theorem op_pyLt : OpR X (compareOp .Lt) (rD X.K T pyLt) := by
  intro pins s σ H x y v u Q I rx ry ⟨F, G, dx, dy, z, hg, r1, r2, e, q⟩
  unfold pyLt at e
  split at e
  · cases e
    exact op_lt pins s σ H x y v u Q I rx ry ⟨_, _, r1, r2, q _ _ H Step.refl hg rfl⟩
  · cases e
    exact op_lt_str pins s σ H x y v u Q I rx ry ⟨_, _, r1, r2, by rw [S_cps, S_cps]; exact q _ _ H Step.refl hg rfl⟩
  · cases e
theorem op_pyGt : OpR X (compareOp .Gt) (rD X.K T pyGt) := by
  intro pins s σ H x y v u Q I rx ry ⟨F, G, dx, dy, z, hg, r1, r2, e, q⟩
  unfold pyGt at e
  split at e
  · cases e
    exact op_gt pins s σ H x y v u Q I rx ry ⟨_, _, r1, r2, q _ _ H Step.refl hg rfl⟩
  · cases e
    exact op_gt_str pins s σ H x y v u Q I rx ry ⟨_, _, r1, r2, by rw [S_cps, S_cps]; exact q _ _ H Step.refl hg rfl⟩
  · cases e
theorem op_pyLe : OpR X (compareOp .LtE) (rD X.K T pyLe) := by
  intro pins s σ H x y v u Q I rx ry ⟨F, G, dx, dy, z, hg, r1, r2, e, q⟩
  unfold pyLe at e
  split at e
  · cases e
    exact op_le pins s σ H x y v u Q I rx ry ⟨_, _, r1, r2, q _ _ H Step.refl hg rfl⟩
  · cases e
    exact op_le_str pins s σ H x y v u Q I rx ry ⟨_, _, r1, r2, by rw [S_cps, S_cps]; exact q _ _ H Step.refl hg rfl⟩
  · cases e
theorem op_pyGe : OpR X (compareOp .GtE) (rD X.K T pyGe) := by
  intro pins s σ H x y v u Q I rx ry ⟨F, G, dx, dy, z, hg, r1, r2, e, q⟩
  unfold pyGe at e
  split at e
  · cases e
    exact op_ge pins s σ H x y v u Q I rx ry ⟨_, _, r1, r2, q _ _ H Step.refl hg rfl⟩
  · cases e
    exact op_ge_str pins s σ H x y v u Q I rx ry ⟨_, _, r1, r2, by rw [S_cps, S_cps]; exact q _ _ H Step.refl hg rfl⟩
  · cases e
theorem relD_non {K : PySem.W.Frag} {F : FS} {H : Hp} {d : D} {v : V} (r : RelD K F H d v) : decide (v = V.non) = isNon d := by
  cases d with
  | non => rw [show v = V.non from r]; rfl
  | bl b => rw [show v = V.bl b from r]; rfl
  | int b => rw [show v = V.int b from r]; rfl
  | str b => rw [show v = V.str (S b) from r]; rfl
  | tup b => obtain ⟨a, vs, e, _⟩ := r; rw [e]; rfl
  | lst b => obtain ⟨a, vs, e, _⟩ := r; rw [e]; rfl
  | dct b => obtain ⟨a, vs, e, _⟩ := r; rw [e]; rfl
  | ref b => rw [show v = V.ref b from r]; rfl
  | scr b => obtain ⟨a, e, _⟩ := r; rw [e]; rfl
theorem op_pyIs : OpR X (compareOp .Is) (rD X.K T pyIs) := by
  intro pins s σ H x y v u Q I rx ry ⟨F, G, dx, dy, z, hg, r1, r2, e, q⟩
  unfold pyIs at e
  split at e
  · cases e
    exact op_isN pins s σ H x y v u Q I rx ry ⟨r2, by rw [relD_non r1]; exact q _ _ H Step.refl hg rfl⟩
  · rename_i a b
    cases e
    exact op_is_bl pins s σ H x y v u Q I rx ry ⟨_, _, r1, r2, q _ _ H Step.refl hg (by rw [Bool.beq_eq_decide_eq]; rfl)⟩
  · cases e
theorem op_pyIsNot : OpR X (compareOp .IsNot) (rD X.K T pyIsNot) := by
  intro pins s σ H x y v u Q I rx ry ⟨F, G, dx, dy, z, hg, r1, r2, e, q⟩
  unfold pyIsNot at e
  split at e
  · cases e
    exact op_notN pins s σ H x y v u Q I rx ry ⟨r2, by rw [relD_non r1]; exact q _ _ H Step.refl hg rfl⟩
  · rename_i a b
    cases e
    exact op_isnot_bl pins s σ H x y v u Q I rx ry ⟨_, _, r1, r2, q _ _ H Step.refl hg (by rw [Bool.beq_eq_decide_eq]; rfl)⟩
  · cases e
end
end DL

namespace DL
open PySem PySem.Spec PyProof.Rows L2
variable {T : LT}
/-! ### == -/
def mapO {α β : Type} (f : α → Option β) : List α → Option (List β)
  | [] => some []
  | x :: xs => match f x, mapO f xs with
    | some y, some ys => some (y :: ys)
    | _, _ => none
def toPy (G : DG) : Nat → D → Option PyData
  | _, .non => some .none
  | _, .bl b => some (.bool b)
  | _, .int i => some (.int i)
  | _, .str s => some (.str (S s))
  | n + 1, .tup xs => (mapO (toPy G n) xs).map .tuple
  | n + 1, .lst xs => (mapO (toPy G n) xs).map .list
  | n + 1, .scr ns => (mapO (toPy G n) (ns.map .int)).map .list
  | n + 1, .ref a => match lstO (G a) with
    | some xs => (mapO (toPy G n) xs).map .list
    | none => none
  | _, _ => none
theorem strOk_S (s : String) : PyData.strOk (S s) = true := by
  unfold PyData.strOk
  rw [← Array.all_toList, S_cps, List.all_map, List.all_eq_true]
  intro c _
  have h := c.valid
  simp only [UInt32.isValidChar, Nat.isValidChar] at h
  simp only [Function.comp_apply, decide_eq_true_eq]
  show c.val.toNat < 0x110000
  omega
section
variable {K : PySem.W.Frag} {F : FS} {G : DG} {H : Hp}
theorem toPys_ok {n : Nat} (ih : ∀ d v y, RelD K F H d v → toPy G n d = some y → Dp K H v y ∧ y.canLay0 = true ∧ y.depth ≤ n) : ∀ (xs : List D) (vs : List V) (ys : List PyData), RelDs K F H xs vs → mapO (toPy G n) xs = some ys →
    DpAll K H vs ys ∧ PyData.canLayAll0 ys = true ∧ PyData.depthAll ys ≤ n
  | [], vs, ys, h, e => by
    have e1 : vs = [] := h
    cases e
    subst e1
    exact ⟨.nil, by simp [PyData.canLayAll0], by simp [PyData.depthAll]⟩
  | x :: xs, _, ys, ⟨v, r, rfl, h, t⟩, e => by
    unfold mapO at e
    split at e
    · rename_i y ys' e1 e2
      cases e
      obtain ⟨a1, a2, a3⟩ := ih x v y h e1
      obtain ⟨b1, b2, b3⟩ := toPys_ok ih xs r ys' t e2
      exact ⟨.cons a1 b1, by simp [PyData.canLayAll0, a2, b2], by simp only [PyData.depthAll]; omega⟩
    · cases e
theorem toPy_ok (hg : RelG K T F G H) : ∀ (n : Nat) (d : D) (v : V) (y : PyData), RelD K F H d v → toPy G n d = some y → Dp K H v y ∧ y.canLay0 = true ∧ y.depth ≤ n := by
  intro n
  induction n with
  | zero =>
    intro d v y r e
    cases d with
    | non => cases e; rw [show v = V.non from r]; exact ⟨.non, by simp [PyData.canLay0], by simp [PyData.depth]⟩
    | bl b => cases e; rw [show v = V.bl b from r]; exact ⟨.bl b, by simp [PyData.canLay0], by simp [PyData.depth]⟩
    | int b => cases e; rw [show v = V.int b from r]; exact ⟨.int b, by simp [PyData.canLay0], by simp [PyData.depth]⟩
    | str b => cases e; rw [show v = V.str (S b) from r]; exact ⟨.str _, by simp [PyData.canLay0, strOk_S], by simp [PyData.depth]⟩
    | _ => cases e
  | succ n ih =>
    intro d v y r e
    cases d with
    | non => cases e; rw [show v = V.non from r]; exact ⟨.non, by simp [PyData.canLay0], by simp [PyData.depth]⟩
    | bl b => cases e; rw [show v = V.bl b from r]; exact ⟨.bl b, by simp [PyData.canLay0], by simp [PyData.depth]⟩
    | int b => cases e; rw [show v = V.int b from r]; exact ⟨.int b, by simp [PyData.canLay0], by simp [PyData.depth]⟩
    | str b => cases e; rw [show v = V.str (S b) from r]; exact ⟨.str _, by simp [PyData.canLay0, strOk_S], by simp [PyData.depth]⟩
    | tup xs =>
      obtain ⟨ys, e1, rfl⟩ := Option.map_eq_some_iff.mp e
      obtain ⟨a, vs, rfl, t, k⟩ := r
      obtain ⟨b1, b2, b3⟩ := toPys_ok ih xs vs ys k e1
      exact ⟨.tup t.sq b1, by simpa [PyData.canLay0] using b2, by simp only [PyData.depth]; omega⟩
    | lst xs =>
      obtain ⟨ys, e1, rfl⟩ := Option.map_eq_some_iff.mp e
      obtain ⟨a, vs, rfl, t, k⟩ := r
      obtain ⟨b1, b2, b3⟩ := toPys_ok ih xs vs ys k e1
      exact ⟨.lst (.inl t.1.rd) b1, by simpa [PyData.canLay0] using b2, by simp only [PyData.depth]; omega⟩
    | scr ns =>
      obtain ⟨ys, e1, rfl⟩ := Option.map_eq_some_iff.mp e
      obtain ⟨a, rfl, h⟩ := r
      obtain ⟨b1, b2, b3⟩ := toPys_ok ih (ns.map .int) (ns.map V.int) ys (relDs_ints ns) e1
      exact ⟨.lst (h.imp (fun h => h.1.rd) id) b1, by simpa [PyData.canLay0] using b2, by simp only [PyData.depth]; omega⟩
    | ref a =>
      have ev : v = V.ref a := r
      subst ev
      unfold toPy at e
      split at e
      · rename_i xs q
        obtain ⟨ys, e1, rfl⟩ := Option.map_eq_some_iff.mp e
        obtain ⟨vs, h, k⟩ := hg.ob a _ (lstO_eq q)
        obtain ⟨b1, b2, b3⟩ := toPys_ok ih xs vs ys k e1
        exact ⟨.lst (.inl (.inl h)) b1, by simpa [PyData.canLay0] using b2, by simp only [PyData.depth]; omega⟩
      · cases e
    | _ => cases e
end
def pyEqB (G : DG) (x y : D) : Option Bool := match x, y with
  | .int i, .int j => some (decide (i = j))
  | .str s, .str t => some (decide (s = t))
  | x, y => match toPy G 40 x, toPy G 40 y with
    | some d, some e => some (PyData.eqv d e)
    | _, _ => none
def pyEq (G : DG) (x y : D) : Option D := (pyEqB G x y).map .bl
def pyNe (G : DG) (x y : D) : Option D := (pyEqB G x y).map fun b => .bl (!b)
section
variable {X : Cx}
theorem shaped_of {d : PyData} (h1 : d.canLay0 = true) (h2 : d.depth ≤ 40) : SeqAt.shaped d = true := by
  unfold SeqAt.shaped
  rw [h1, decide_eq_true (by omega)]
  rfl
theorem op_pyEq (hu : X.A.units + 64 < cLine) : OpR X (compareOp .Eq) (rD X.K T pyEq) := by
  intro pins s σ H x y v u Q I rx ry ⟨F, G, dx, dy, z, hg, r1, r2, e, q⟩
  obtain ⟨b, e', rfl⟩ := Option.map_eq_some_iff.mp e
  clear e
  have e := e'
  clear e'
  unfold pyEqB at e
  split at e
  · cases e
    have r1 : x = _ := r1
    have r2 : y = _ := r2
    subst r1 r2
    exact op_eq pins s σ H _ _ v u Q I rx ry ⟨rfl, q _ _ H Step.refl hg (by show _ = V.bl _; congr 1; simp)⟩
  · cases e
    have r1 : x = _ := r1
    have r2 : y = _ := r2
    subst r1 r2
    exact op_eq pins s σ H _ _ v u Q I rx ry ⟨rfl, q _ _ H Step.refl hg (by show _ = V.bl _; congr 1; rw [← S_dec]; simp)⟩
  · split at e
    · rename_i d e' h1 h2
      cases e
      obtain ⟨a1, a2, a3⟩ := toPy_ok hg 40 _ _ _ r1 h1
      obtain ⟨b1, b2, b3⟩ := toPy_ok hg 40 _ _ _ r2 h2
      exact op_eqD hu pins s σ H _ _ v u Q I rx ry ⟨d, e', a1, b1, shaped_of a2 a3, shaped_of b2 b3, q _ _ H Step.refl hg rfl⟩
    · cases e
theorem op_pyNe (hu : X.A.units + 64 < cLine) : OpR X (compareOp .NotEq) (rD X.K T pyNe) := by
  intro pins s σ H x y v u Q I rx ry ⟨F, G, dx, dy, z, hg, r1, r2, e, q⟩
  obtain ⟨b, e', rfl⟩ := Option.map_eq_some_iff.mp e
  clear e
  have e := e'
  clear e'
  unfold pyEqB at e
  split at e
  · cases e
    have r1 : x = _ := r1
    have r2 : y = _ := r2
    subst r1 r2
    exact op_ne pins s σ H _ _ v u Q I rx ry ⟨rfl, q _ _ H Step.refl hg (by show _ = V.bl _; congr 1; simp)⟩
  · cases e
    have r1 : x = _ := r1
    have r2 : y = _ := r2
    subst r1 r2
    exact op_ne pins s σ H _ _ v u Q I rx ry ⟨rfl, q _ _ H Step.refl hg (by show _ = V.bl _; congr 1; rw [← S_dec]; simp)⟩
  · split at e
    · rename_i d e' h1 h2
      cases e
      obtain ⟨a1, a2, a3⟩ := toPy_ok hg 40 _ _ _ r1 h1
      obtain ⟨b1, b2, b3⟩ := toPy_ok hg 40 _ _ _ r2 h2
      exact op_neD hu pins s σ H _ _ v u Q I rx ry ⟨d, e', a1, b1, shaped_of a2 a3, shaped_of b2 b3, q _ _ H Step.refl hg rfl⟩
    · cases e
end
end DL

namespace DL
open PySem PySem.Spec PyProof.Rows L2
variable {T : LT}
/-! ### dicts by keys -/
def dkEq : D → D → Bool
  | .int i, .int j => decide (i = j)
  | .str s, .str t => decide (s = t)
  | _, _ => false
def dget (kvs : List (D × D)) (k : D) : Option D := (kvs.find? fun p => dkEq p.1 k).map (·.2)
def dput (kvs : List (D × D)) (k v : D) : List (D × D) :=
  if (kvs.any fun p => dkEq p.1 k) = true then kvs.map (fun p => if dkEq p.1 k = true then (p.1, v) else p) else kvs ++ [(k, v)]
def ddrop (kvs : List (D × D)) (k : D) : List (D × D) := kvs.filter fun p => !dkEq p.1 k
def dctO : Option DO → Option (List (D × D))
  | some (.dct xs) => some xs
  | _ => none
theorem dctO_eq {o : Option DO} {xs : List (D × D)} (h : dctO o = some xs) : o = some (.dct xs) := by
  unfold dctO at h
  split at h
  · cases h; rfl
  · cases h
def asD (G : DG) : D → Option (List (D × D))
  | .dct xs => some xs
  | .ref a => dctO (G a)
  | _ => none
section
variable {K : PySem.W.Frag} {F : FS} {G : DG} {H : Hp}
theorem asD_ok {d : D} {v : V} {xs : List (D × D)} (hg : RelG K T F G H) (r : RelD K F H d v) (e : asD G d = some xs) : ∃ a ws, v = .ref a ∧ Rd H a (.dK ws) ∧ RelKs K F H xs ws := by
  cases d with
  | dct ys =>
    cases e
    obtain ⟨a, vs, ev, h, rs⟩ := r
    exact ⟨a, vs, ev, h.1.rd, rs⟩
  | ref a =>
    have ev : v = .ref a := r
    obtain ⟨vs, h, rs⟩ := hg.ob a _ (dctO_eq e)
    exact ⟨a, vs, ev, .inl h, rs⟩
  | _ => cases e
theorem dkEq_key {a b : D} {ka kb : Key} (ha : keyOf a = some ka) (hb : keyOf b = some kb) : dkEq a b = decide (ka = kb) := by
  cases a <;> simp only [keyOf, reduceCtorEq] at ha <;> cases ha <;> cases b <;> simp only [keyOf, reduceCtorEq] at hb <;> cases hb
  · rw [key_ll, Bool.beq_eq_decide_eq]; rfl
  · rw [key_lr]; rfl
  · rw [key_rl]; rfl
  · rw [key_rr, S_dec]; rfl
theorem keyOf_rel {k : D} {key : Key} {v : V} (h : keyOf k = some key) (r : RelD K F H k v) : v = kV key := by
  cases k <;> simp only [keyOf, reduceCtorEq] at h <;> cases h
  · exact r
  · exact r
theorem relKs_val {k : D} {key : Key} (hk : keyOf k = some key) : ∀ {kvs : List (D × D)} {ws : List (Key × V)}, RelKs K F H kvs ws →
    (∀ d, dget kvs k = some d → ∃ v, valV ws key = some v ∧ RelD K F H d v) ∧ (dget kvs k = none → valV ws key = none)
  | [], ws, h => by
    have e : ws = [] := h
    subst e
    exact ⟨(fun d z => by simp [dget] at z), (fun _ => rfl)⟩
  | (k', x) :: r, _, ⟨key', v, ws', rfl, hk', rx, t⟩ => by
    have ih := relKs_val hk t
    have e := dkEq_key hk' hk
    unfold dget
    rw [List.find?_cons]
    by_cases q : key' = key
    · rw [e, decide_eq_true q]
      refine ⟨fun d z => ?_, fun z => by simp at z⟩
      simp only [Option.map_some, Option.some.injEq] at z
      subst z
      exact ⟨v, valV_pos q, rx⟩
    · rw [e, decide_eq_false q]
      rw [valV_neg q]
      exact ih
theorem relKs_any {k : D} {key : Key} (hk : keyOf k = some key) : ∀ {kvs : List (D × D)} {ws : List (Key × V)}, RelKs K F H kvs ws → (kvs.any fun p => dkEq p.1 k) = ws.any fun p => decide (p.1 = key)
  | [], ws, h => by
    have e : ws = [] := h
    subst e
    rfl
  | (k', x) :: r, _, ⟨key', v, ws', rfl, hk', rx, t⟩ => by
    rw [List.any_cons, List.any_cons, relKs_any hk t, dkEq_key hk' hk]
theorem RelKs.snoc {k x : D} {key : Key} {v : V} (hk : keyOf k = some key) (rx : RelD K F H x v) : ∀ {kvs : List (D × D)} {ws : List (Key × V)}, RelKs K F H kvs ws → RelKs K F H (kvs ++ [(k, x)]) (ws ++ [(key, v)])
  | [], ws, h => by
    have e : ws = [] := h
    subst e
    exact ⟨key, v, [], rfl, hk, rx, rfl⟩
  | (k', x') :: r, _, ⟨key', v', ws', rfl, hk', rx', t⟩ => ⟨key', v', _, rfl, hk', rx', RelKs.snoc hk rx t⟩
theorem RelKs.repl {k x : D} {key : Key} {v : V} (hk : keyOf k = some key) (rx : RelD K F H x v) : ∀ {kvs : List (D × D)} {ws : List (Key × V)}, RelKs K F H kvs ws →
    RelKs K F H (kvs.map fun p => if dkEq p.1 k = true then (p.1, x) else p) (ws.map fun p => if p.1 = key then (p.1, v) else p)
  | [], ws, h => by
    have e : ws = [] := h
    subst e
    rfl
  | (k', x') :: r, _, ⟨key', v', ws', rfl, hk', rx', t⟩ => by
    rw [List.map_cons, List.map_cons]
    have e := dkEq_key hk' hk
    by_cases q : key' = key
    · rw [if_pos (by rw [e]; exact decide_eq_true q), if_pos q]
      exact ⟨key', v, _, rfl, hk', rx, RelKs.repl hk rx t⟩
    · rw [if_neg (by rw [e]; simpa using q), if_neg q]
      exact ⟨key', v', _, rfl, hk', rx', RelKs.repl hk rx t⟩
theorem RelKs.put {k x : D} {key : Key} {v : V} (hk : keyOf k = some key) (rx : RelD K F H x v) {kvs : List (D × D)} {ws : List (Key × V)} (h : RelKs K F H kvs ws) : RelKs K F H (dput kvs k x) (putK ws key v) := by
  unfold dput putK
  rw [relKs_any hk h]
  split
  · exact h.repl hk rx
  · exact h.snoc hk rx
theorem RelKs.drop {k : D} {key : Key} (hk : keyOf k = some key) : ∀ {kvs : List (D × D)} {ws : List (Key × V)}, RelKs K F H kvs ws → RelKs K F H (ddrop kvs k) (dropK ws key)
  | [], ws, h => by
    have e : ws = [] := h
    subst e
    rfl
  | (k', x') :: r, _, ⟨key', v', ws', rfl, hk', rx', t⟩ => by
    have e := dkEq_key hk' hk
    unfold ddrop dropK
    by_cases q : key' = key
    · rw [List.filter_cons_of_neg (by simp [e, q]), List.filter_cons_of_neg (by simp [q])]
      exact RelKs.drop hk t
    · rw [List.filter_cons_of_pos (by simp [e, q]), List.filter_cons_of_pos (by simp [q])]
      exact ⟨key', v', _, rfl, hk', rx', RelKs.drop hk t⟩
theorem RelKs.length : ∀ {kvs : List (D × D)} {ws : List (Key × V)}, RelKs K F H kvs ws → kvs.length = ws.length
  | [], ws, h => by
    have e : ws = [] := h
    subst e
    rfl
  | (k', x') :: r, _, ⟨key', v', ws', rfl, hk', rx', t⟩ => by rw [List.length_cons, List.length_cons, RelKs.length t]
end
/-! ### in -/
def flatD : D → Bool
  | .non => true
  | .bl _ => true
  | .int _ => true
  | .str _ => true
  | _ => false
def eqF : D → D → Bool
  | .non, .non => true
  | .bl a, .bl b => a == b
  | .bl a, .int b => (if a then 1 else 0) == b
  | .int a, .bl b => a == (if b then 1 else 0)
  | .int a, .int b => a == b
  | .str a, .str b => a == b
  | _, _ => false
section
variable {K : PySem.W.Frag} {F : FS} {G : DG} {H : Hp}
theorem flat_rel {d : D} {v : V} (h : flatD d = true) (r : RelD K F H d v) : flatV v = true := by
  cases d <;> simp only [flatD, reduceCtorEq, Bool.false_eq_true] at h
  · rw [show v = _ from r]; rfl
  · rw [show v = _ from r]; rfl
  · rw [show v = _ from r]; rfl
  · rw [show v = _ from r]; rfl
theorem eqF_rel {d e : D} {v u : V} (h : flatD d = true) (h' : flatD e = true) (r : RelD K F H d v) (r' : RelD K F H e u) : eqV v u = eqF d e := by
  cases d <;> simp only [flatD, reduceCtorEq, Bool.false_eq_true] at h <;> cases e <;> simp only [flatD, reduceCtorEq, Bool.false_eq_true] at h' <;>
    rw [show v = _ from r, show u = _ from r'] <;> first | rfl | exact S_beq _ _
theorem flats_rel : ∀ {ds : List D} {vs : List V}, RelDs K F H ds vs → ds.all flatD = true → vs.all flatV = true
  | [], vs, h, _ => by
    have e : vs = [] := h
    subst e
    rfl
  | x :: xs, _, ⟨v, r, rfl, h, t⟩, e => by
    rw [List.all_cons, Bool.and_eq_true] at e ⊢
    exact ⟨flat_rel e.1 h, flats_rel t e.2⟩
theorem inF_rel {x : D} {u : V} (hx : flatD x = true) (rx : RelD K F H x u) : ∀ {ds : List D} {vs : List V}, RelDs K F H ds vs → ds.all flatD = true → inV u vs = ds.any fun y => eqF y x
  | [], vs, h, _ => by
    have e : vs = [] := h
    subst e
    rfl
  | y :: ys, _, ⟨v, r, rfl, h, t⟩, e => by
    rw [List.all_cons, Bool.and_eq_true] at e
    have ih := inF_rel hx rx t e.2
    unfold inV at ih ⊢
    rw [List.any_cons, List.any_cons, ih, eqF_rel e.1 hx h rx]
end
def signOf (s : String) : Option Char := match s.toList with
  | [c] => some c
  | _ => none
def pyInB (G : DG) (x y : D) : Option Bool := match x, y with
  | .str s, .str t => (signOf s).map fun c => t.toList.contains c
  | x, y => match asQ G y with
    | some ys => if flatD x && ys.all flatD then some (ys.any fun z => eqF z x) else none
    | none => match asD G y, keyOf x with
      | some kvs, some _ => some (dget kvs x).isSome
      | _, _ => none
def pyIn (G : DG) (x y : D) : Option D := (pyInB G x y).map .bl
def pyNotIn (G : DG) (x y : D) : Option D := (pyInB G x y).map fun b => .bl (!b)
theorem mem_toNat (c : Char) (l : List Char) : decide (c.toNat ∈ l.map Char.toNat) = l.contains c := by
  have h : c.toNat ∈ l.map Char.toNat ↔ c ∈ l := by
    constructor
    · intro h
      obtain ⟨d, hd, e⟩ := List.mem_map.mp h
      have : d = c := Char.ext (UInt32.toNat_inj.mp e)
      rw [← this]
      exact hd
    · exact fun h => List.mem_map.mpr ⟨c, h, rfl⟩
  rw [List.contains_eq_mem]
  exact decide_eq_decide.mpr h
theorem sign_cps {s : String} {c : Char} (h : signOf s = some c) : S s = ⟨#[c.toNat]⟩ := by
  unfold signOf at h
  split at h
  · rename_i d e
    cases h
    unfold S
    rw [Str.ofString_eq_toList, e]
    rfl
  · cases h
section
variable {X : Cx}
theorem op_pyIn (hu : X.A.units + 1 < cLine) : OpR X (compareOp .In) (rD X.K T pyIn) := by
  intro pins s σ H x y v u Q I rx ry ⟨F, G, dx, dy, z, hg, r1, r2, e, q⟩
  obtain ⟨b, e', rfl⟩ := Option.map_eq_some_iff.mp e
  clear e
  unfold pyInB at e'
  split at e'
  · obtain ⟨c, e1, rfl⟩ := Option.map_eq_some_iff.mp e'
    exact op_in_sign pins s σ H x y v u Q I rx ry ⟨c.toNat, _, by rw [← sign_cps e1]; exact r1, r2, by rw [S_cps, mem_toNat]; exact q _ _ H Step.refl hg rfl⟩
  · split at e'
    · rename_i ys ey
      split at e'
      · rename_i hf
        cases e'
        rw [Bool.and_eq_true] at hf
        obtain ⟨a, vs, e1, t1, k1⟩ := asQ_ok hg r2 ey
        exact op_in_seq pins s σ H x y v u Q I rx ry ⟨a, vs, e1, t1, flat_rel hf.1 r1, flats_rel k1 hf.2, by rw [inF_rel hf.1 r1 k1 hf.2]; exact q _ _ H Step.refl hg rfl⟩
      · cases e'
    · split at e'
      · rename_i kvs key ed ek
        cases e'
        obtain ⟨a, ws, e1, t1, k1⟩ := asD_ok hg r2 ed
        have hv := relKs_val ek k1
        have eo : (valV ws key).isSome = (dget kvs dx).isSome := by
          cases q : dget kvs dx with
          | none => rw [hv.2 q]; rfl
          | some d => obtain ⟨v, h1, _⟩ := hv.1 d q; rw [h1]; rfl
        subst e1
        cases ry
        refine d_in hu I (.inl ⟨ws, key, t1, keyOf_rel ek r1, rfl⟩) rx fun s' I' => ?_
        rw [eo]
        exact ⟨.bl _, H, I', rfl, q _ _ H Step.refl hg rfl⟩
      · cases e'
theorem op_pyNotIn (hu : X.A.units + 1 < cLine) : OpR X (compareOp .NotIn) (rD X.K T pyNotIn) := by
  intro pins s σ H x y v u Q I rx ry ⟨F, G, dx, dy, z, hg, r1, r2, e, q⟩
  obtain ⟨b, e', rfl⟩ := Option.map_eq_some_iff.mp e
  clear e
  unfold pyInB at e'
  split at e'
  · obtain ⟨c, e1, rfl⟩ := Option.map_eq_some_iff.mp e'
    exact op_notIn_sign pins s σ H x y v u Q I rx ry ⟨c.toNat, _, by rw [← sign_cps e1]; exact r1, r2, by rw [S_cps, mem_toNat]; exact q _ _ H Step.refl hg rfl⟩
  · split at e'
    · rename_i ys ey
      split at e'
      · rename_i hf
        cases e'
        rw [Bool.and_eq_true] at hf
        obtain ⟨a, vs, e1, t1, k1⟩ := asQ_ok hg r2 ey
        exact op_notIn_seq pins s σ H x y v u Q I rx ry ⟨a, vs, e1, t1, flat_rel hf.1 r1, flats_rel k1 hf.2, by rw [inF_rel hf.1 r1 k1 hf.2]; exact q _ _ H Step.refl hg rfl⟩
      · cases e'
    · split at e'
      · rename_i kvs key ed ek
        cases e'
        obtain ⟨a, ws, e1, t1, k1⟩ := asD_ok hg r2 ed
        have hv := relKs_val ek k1
        have eo : (valV ws key).isSome = (dget kvs dx).isSome := by
          cases q : dget kvs dx with
          | none => rw [hv.2 q]; rfl
          | some d => obtain ⟨v, h1, _⟩ := hv.1 d q; rw [h1]; rfl
        subst e1
        cases ry
        refine d_notIn hu I (.inl ⟨ws, key, t1, keyOf_rel ek r1, rfl⟩) rx fun s' I' => ?_
        rw [eo]
        exact ⟨.bl _, H, I', rfl, q _ _ H Step.refl hg rfl⟩
      · cases e'
end
end DL

namespace DL
open PySem PySem.Spec PyProof.Rows L2
variable {T : LT}
/-! ### subscripts, slices -/
def pyItem (G : DG) (x y : D) : Option D := match y with
  | .int i => match x with
    | .str s => if s.length ≤ 16000000 then (atI s.toList i).map fun c => .str (String.ofList [c]) else none
    | x => match asQ G x with
      | some xs => atI xs i
      | none => match asD G x with
        | some kvs => dget kvs y
        | none => none
  | y => match asD G x, keyOf y with
    | some kvs, some _ => dget kvs y
    | _, _ => none
theorem atI_map {α β : Type} (f : α → β) (xs : List α) (i : Int) : atI (xs.map f) i = (atI xs i).map f := by
  unfold atI
  rw [List.length_map]
  cases ixN xs.length i with
  | none => rfl
  | some j => simp
theorem atI_rel {K : PySem.W.Frag} {F : FS} {H : Hp} {xs : List D} {vs : List V} {i : Int} {d : D} (r : RelDs K F H xs vs) (h : atI xs i = some d) : ∃ v, atI vs i = some v ∧ RelD K F H d v := by
  unfold atI at h ⊢
  rw [← r.length]
  cases q : ixN xs.length i with
  | none => rw [q] at h; cases h
  | some j =>
    rw [q] at h
    exact r.get h
section
variable {X : Cx} {W : WX} {a b : Expr} {ta tb : DTE} {pos : Pos}
theorem ix_pyItem (hu : X.A.units + 1 < cLine) : IxR X (fun x y H Q => rD X.K T pyItem x y H Q) := by
  intro value slice pins s σ H x y v u Q I rx ry ⟨F, G, dx, dy, z, hg, r1, r2, e, q⟩ hs
  have dct : ∀ kvs key, asD G dx = some kvs → keyOf dy = some key → dget kvs dy = some z → wpAny (model X.prog X.w) X.A (subscriptTail value slice v u) (EP X pins σ Q) X.xe s := fun kvs key ed ek ez => by
    obtain ⟨a, ws, e1, t1, k1⟩ := asD_ok hg r1 ed
    obtain ⟨w1, h1, h2⟩ := (relKs_val ek k1).1 z ez
    subst e1
    cases rx
    have g : DGet H a y (some w1) := .inl ⟨ws, key, t1, keyOf_rel ek r2, h1.symm⟩
    exact tail_any (dict_typeIs I g) PySem.F.slot_dict_getitem.lookup (d_getItem hu I g ry fun w' s3 I3 rw' => ⟨w1, H, I3, rw', q _ _ H Step.refl hg h2⟩) hs
  unfold pyItem at e
  split at e
  · rename_i i
    split at e
    · rename_i st
      split at e
      · rename_i hl
        obtain ⟨c, e1, rfl⟩ := Option.map_eq_some_iff.mp e
        exact ix_str value slice pins s σ H x y v u Q I rx ry ⟨_, i, c.toNat, r1, r2, by rw [S_len]; exact small_line hl, by rw [S_cps, atI_map, e1]; rfl, q _ _ H Step.refl hg (by show _ = V.str (S (String.ofList [c])); unfold S; rw [Str.ofString_eq_toList]; simp)⟩ hs
      · cases e
    · split at e
      · rename_i xs ex
        obtain ⟨a, vs, e1, t1, k1⟩ := asQ_ok hg r1 ex
        obtain ⟨w1, h1, h2⟩ := atI_rel k1 e
        rcases t1 with t1 | t1
        · exact ix_list value slice pins s σ H x y v u Q I rx ry ⟨a, vs, i, w1, e1, r2, t1, h1, q _ _ H Step.refl hg h2⟩ hs
        · exact ix_tup value slice pins s σ H x y v u Q I rx ry ⟨a, vs, i, w1, e1, r2, t1, h1, q _ _ H Step.refl hg h2⟩ hs
      · split at e
        · rename_i kvs ed
          exact dct kvs _ ed rfl e
        · cases e
  · split at e
    · rename_i kvs key ed ek
      exact dct kvs key ed ek e
    · cases e
theorem q_item (hu : X.A.units + 1 < cLine) (ha : QE X T W a ta) (hb : QE X T W b tb) (hs : PlainIx b := by exact fun _ _ => rfl) : QE X T W (.Subscript a b pos) (dOp pyItem ta tb) :=
  PE.imp (pe_ix (ix_pyItem hu) ha hb hs) fun σ H Q ⟨env, F, G, E, P, hg, hs, hx, ht, hq⟩ =>
    ⟨env, F, G, E, _, hg, hs, hx, ht, fun x F1 G1 v1 H1 h1 s1 g1 r1 => ⟨env, F1, G1, E, _, g1, hs.step s1, hx.step s1, h1, fun y F2 G2 v2 H2 ⟨z, e, p⟩ s2 g2 r2 =>
      ⟨F2, G2, x, y, z, g2, RelD.step s2 x r1, r2, e, fun F' v H' s3 g3 r3 => hq z _ G2 v H' p (s1.trans (s2.trans s3)) g3 r3⟩⟩⟩
end
/-! slices -/
abbrev DTO := DXK → DSt → DG → (Option Int → DG → Prop) → Prop
def dNoPart : DTO := fun _ _ G Q => Q none G
def dPart (t : DTE) : DTO := fun E env G Q => t E env G fun x G1 => ∃ i, x = .int i ∧ Q (some i) G1
def cutD (xs : List D) (lo hi : Option Int) : List D := (xs.drop (HT.sIx xs.length 0 lo)).take (HT.sIx xs.length xs.length hi - HT.sIx xs.length 0 lo)
def cutC (xs : List Char) (lo hi : Option Int) : List Char := (xs.drop (HT.sIx xs.length 0 lo)).take (HT.sIx xs.length xs.length hi - HT.sIx xs.length 0 lo)
def pySlice (G : DG) (x : D) (lo hi : Option Int) : Option D := match x with
  | .tup xs => some (.tup (cutD xs lo hi))
  | .str s => if s.length ≤ 16000000 then some (.str (String.ofList (cutC s.toList lo hi))) else none
  | x => (asL G x).map fun xs => .lst (cutD xs lo hi)
def dSlice (t : DTE) (l h : DTO) : DTE := fun E env G Q => t E env G fun x G1 => l E env G1 fun lo G2 => h E env G2 fun hi G3 => ∃ z, pySlice G3 x lo hi = some z ∧ Q z G3
def liftO (K : PySem.W.Frag) (T : LT) (W : WX) (t : DTO) : TO := fun σ H Q => ∃ env F G E P, RelG K T F G H ∧ RelSt K F H env σ ∧ XOk K T W E F G H ∧ t E env G P ∧
  ∀ o F' G' H', P o G' → Step F G H F' G' H' → RelG K T F' G' H' → Q o H'
abbrev QO (X : Cx) (T : LT) (W : WX) (e : Option Expr) (t : DTO) : Prop := PO X e (liftO X.K T W t)
theorem PO.imp {X : Cx} {e : Option Expr} {t t' : TO} (h : PO X e t) (k : ∀ σ H Q, t' σ H Q → t σ H Q) : PO X e t' := ⟨fun pins s σ H Q I w => h.run pins s σ H Q I (k σ H Q w)⟩
theorem cut_rel {K : PySem.W.Frag} {F : FS} {H : Hp} {xs : List D} {vs : List V} (lo hi : Option Int) (r : RelDs K F H xs vs) : RelDs K F H (cutD xs lo hi) (cutV vs lo hi) := by
  unfold cutD cutV
  rw [← r.length]
  exact (r.drop _).take _
section
variable {X : Cx} {W : WX} {a b : Expr} {ta tb : DTE} {pos p2 : Pos} {lo hi : Option Expr} {tl th : DTO}
theorem qo_none : QO X T W none dNoPart := PO.imp po_none fun σ H Q ⟨env, F, G, E, P, hg, hs, hx, ht, hq⟩ => hq none _ G H ht Step.refl hg
theorem qo_some (h : QE X T W a ta) : QO X T W (some a) (dPart ta) := PO.imp (po_some h) fun σ H Q ⟨env, F, G, E, P, hg, hs, hx, ht, hq⟩ =>
  ⟨env, F, G, E, _, hg, hs, hx, ht, fun x F1 G1 v1 H1 ⟨i, e, p⟩ s1 g1 r1 => by
    subst e
    exact ⟨i, r1, hq (some i) _ G1 H1 p s1 g1⟩⟩
theorem sl_pySlice : SlR X (fun x lo hi H Q => ∃ F G dx z, RelG X.K T F G H ∧ RelD X.K F H dx x ∧ pySlice G dx lo hi = some z ∧ ∀ F' v H', Step F G H F' G H' → RelG X.K T F' G H' → RelD X.K F' H' z v → Q v H') := by
  intro pins s σ H x v vl vu lo hi sl Q I rx hs pl pu ⟨F, G, dx, z, hg, r1, e, q⟩
  have lst : ∀ xs, asL G dx = some xs → z = .lst (cutD xs lo hi) → ∃ T id, typeLookup (.type T) "__getitem__" = pure (some (.builtin id)) ∧ s.TypeIs v T ∧ wpAny (model X.prog X.w) X.A (getItem v (.ref sl)) (EP X pins σ Q) X.xe s := fun xs ex ez => by
    subst ez
    obtain ⟨a, vs, e1, t1, k1⟩ := asL_ok hg r1 ex
    exact sl_list pins s σ H x v vl vu lo hi sl Q I rx hs pl pu ⟨a, vs, e1, .inl t1, fun p hp => q _ _ _ (Step.new hp) (hg.new hp) (relD_newLst hg hp (cut_rel lo hi k1))⟩
  unfold pySlice at e
  split at e
  · rename_i xs
    cases e
    obtain ⟨a, vs, e1, t1, k1⟩ := r1
    refine sl_tupA pins s σ H x v vl vu lo hi sl Q I rx hs pl pu ⟨a, vs, e1, t1.sq, fun hw => ?_, fun _ p hp => q _ _ _ (Step.new hp) (hg.new hp) (relD_newTup hg hp (cut_rel lo hi k1))⟩
    refine q _ _ H Step.refl hg ⟨a, vs, rfl, t1, ?_⟩
    have := cut_rel lo hi k1
    unfold cutV at this
    rw [hw.1, hw.2] at this
    simpa using this
  · rename_i st
    split at e
    · rename_i hl
      cases e
      refine sl_str pins s σ H x v vl vu lo hi sl Q I rx hs pl pu ⟨_, r1, by rw [S_len]; exact small_line hl, q _ _ H Step.refl hg ?_⟩
      show _ = V.str (S (String.ofList (cutC st.toList lo hi)))
      congr 1
      unfold cutS cutC
      rw [S_cps, S_len]
      unfold S
      rw [Str.ofString_eq_toList, String.toList_ofList, String.length_toList]
      simp
    · cases e
  · obtain ⟨xs, ex, ez⟩ := Option.map_eq_some_iff.mp e
    exact lst xs ex ez.symm
theorem q_slice (ha : QE X T W a ta) (hl : QO X T W lo tl) (hh : QO X T W hi th) : QE X T W (.Subscript a (.Slice lo hi none p2) pos) (dSlice ta tl th) :=
  PE.imp (pe_slice sl_pySlice ha hl hh) fun σ H Q ⟨env, F, G, E, P, hg, hs, hx, ht, hq⟩ =>
    ⟨env, F, G, E, _, hg, hs, hx, ht, fun x F1 G1 v1 H1 h1 s1 g1 r1 => ⟨env, F1, G1, E, _, g1, hs.step s1, hx.step s1, h1, fun l F2 G2 H2 h2 s2 g2 => ⟨env, F2, G2, E, _, g2, hs.step (s1.trans s2), hx.step (s1.trans s2), h2, fun h F3 G3 H3 ⟨z, e, p⟩ s3 g3 =>
      ⟨F3, G3, x, z, g3, RelD.step (s2.trans s3) x r1, e, fun F' v H' s4 g4 r4 => hq z _ G3 v H' p (s1.trans (s2.trans (s3.trans s4))) g4 r4⟩⟩⟩⟩
end
end DL

namespace DL
open PySem PySem.Spec PyProof.Rows L2
variable {T : LT}
/-! ### what is walked -/
def IterOk (K : PySem.W.Frag) (T : LT) (F0 : FS) (G0 : DG) (H0 : Hp) (J : It) (items : List D) (guard : DG → Prop) : Prop :=
  ∀ i F G H, Step F0 G0 H0 F G H → RelG K T F G H → guard G →
    (∀ d, items[i]? = some d → J.go i H ∧ ∀ x H1, J.yld i H x H1 → ∃ F1, Step F G H F1 G H1 ∧ RelG K T F1 G H1 ∧ RelD K F1 H1 d x) ∧ (i = items.length → J.stop i H)
abbrev DTI := DXK → DSt → DG → (List D → (DG → Prop) → DG → Prop) → Prop
def liftI (K : PySem.W.Frag) (T : LT) (W : WX) (t : DTI) : TI := fun σ H R => ∃ env F G E P, RelG K T F G H ∧ RelSt K F H env σ ∧ XOk K T W E F G H ∧ t E env G P ∧
  ∀ items guard F' G' H' J, P items guard G' → Step F G H F' G' H' → RelG K T F' G' H' → IterOk K T F' G' H' J items guard → R J H'
abbrev QI (X : Cx) (T : LT) (W : WX) (tg e : Expr) (t : DTI) : Prop := PI X tg e (liftI X.K T W t)
theorem PI.imp {X : Cx} {tg e : Expr} {t t' : TI} (h : PI X tg e t) (k : ∀ σ H Q, t' σ H Q → t σ H Q) : PI X tg e t' := ⟨fun pins s σ H Q I w => h.run pins s σ H Q I (k σ H Q w)⟩
/-! targets: a name, several names -/
inductive Tg where
  | n (i : Nat) | t (is : List Nat)
def setAll {α : Type} (σ : List (Option α)) : List Nat → List α → List (Option α)
  | i :: is, x :: xs => setAll (σ.set i (some x)) is xs
  | _, _ => σ
def gsN : List Nat → TGs
  | [] => gNil
  | i :: is => gCons (gName i) (gsN is)
def vTg (K : PySem.W.Frag) : Tg → TG
  | .n i => gName i
  | .t is => gTup K is.length (gsN is)
def dTg : Tg → D → DSt → (DSt → Prop) → Prop
  | .n i, d, env, Q => Q (env.set i (some d))
  | .t is, d, env, Q => ∃ xs, d = .tup xs ∧ xs.length = is.length ∧ Q (setAll env is xs)
theorem gsN_run {Q : L2.St → Hp → Prop} {H : Hp} : ∀ (is : List Nat) (vs : List V) (σ : L2.St), vs.length = is.length → Q (setAll σ is vs) H → gsN is vs σ H Q
  | [], vs, σ, hl, q => by
    have e : vs = [] := List.eq_nil_of_length_eq_zero hl
    subst e
    exact ⟨rfl, q⟩
  | i :: is, [], σ, hl, q => by simp at hl
  | i :: is, v :: vs, σ, hl, q => ⟨v, vs, rfl, gsN_run is vs _ (by simpa using hl) q⟩
theorem relSt_setAll {K : PySem.W.Frag} {F : FS} {H : Hp} : ∀ (is : List Nat) (ds : List D) (vs : List V) (env : DSt) (σ : L2.St), RelDs K F H ds vs → RelSt K F H env σ → RelSt K F H (setAll env is ds) (setAll σ is vs)
  | [], ds, vs, env, σ, _, r => by cases ds <;> cases vs <;> exact r
  | i :: is, [], vs, env, σ, h, r => by
    have e : vs = [] := h
    subst e
    exact r
  | i :: is, d :: ds, _, env, σ, ⟨v, vs, rfl, h, t⟩, r => relSt_setAll is ds vs _ _ t (r.set h)
/-- the store of a value, seen from both sides -/
theorem tg_run {K : PySem.W.Frag} {F : FS} {H : Hp} {tg : Tg} {d : D} {v : V} {env : DSt} {σ : L2.St} {P : DSt → Prop} {Q : L2.St → Hp → Prop} (rs : RelSt K F H env σ) (r : RelD K F H d v) (h : dTg tg d env P)
    (q : ∀ env' σ', P env' → RelSt K F H env' σ' → (∃ vs, (σ' = match tg with | .n i => σ.set i (some v) | .t is => setAll σ is vs)) → Q σ' H) : vTg K tg v σ H Q := by
  cases tg with
  | n i => exact q _ _ h (rs.set r) ⟨[], rfl⟩
  | t is =>
    obtain ⟨xs, rfl, hl, p⟩ := h
    obtain ⟨a, vs, rfl, t, k⟩ := r
    exact ⟨a, vs, rfl, t.sq, by rw [← k.length]; exact hl, gsN_run is vs σ (by rw [← k.length]; exact hl) (q _ _ p (relSt_setAll is xs vs env σ k rs) ⟨vs, rfl⟩)⟩
/-! ### for -/
def dLoop (E : DXK) (tg : Tg) (tb : DTS) (DE : DEnds) (guard : DG → Prop) : List D → DSt → DG → Prop
  | [], env, G => guard G ∧ DE.nx env G
  | d :: ds, env, G => guard G ∧ dTg tg d env fun env1 => tb E { DE with nx := fun env2 G2 => dLoop E tg tb DE guard ds env2 G2 } env1 G
def sFor (wi : DTI) (tg : Tg) (tb : DTS) : DTS := fun E DE env G => wi E env G fun items guard G1 => dLoop E tg tb DE guard items env G1
section
variable {X : Cx} {W : WX} {pos : Pos}
theorem qs_for {tgE iter : Expr} {body : List Stmt} {wi : DTI} {tg : Tg} {tb : DTS} (hp : PassesOwn (model X.prog X.w) X.A X.env X.xe) (hc : X.calm = true) (hi : QI X T W tgE iter wi) (hg : PG X tgE (vTg X.K tg)) (hb : QSs X T W body tb)
    (hs : ∀ x, foldedSetIterable iter X.env x = pure x := by intro _; rfl) : QS X T W (.For tgE iter body [] pos) (sFor wi tg tb) :=
  PS.imp (ps_for hp hc hi hg hb hs) fun D σ H ⟨env, F, G, E, DE, hg, hs, hx, ht, hn, hr⟩ => ⟨env, F, G, E, _, hg, hs, hx, ht, fun items guard F1 G1 H1 J p s1 g1 ok => by
    refine ⟨fun i m σ H2 => m = items.length - i ∧ i ≤ items.length ∧ ∃ env' F' G', Step F1 G1 H1 F' G' H2 ∧ RelG X.K T F' G' H2 ∧ RelSt X.K F' H2 env' σ ∧ dLoop E tg tb DE guard (items.drop i) env' G',
      ⟨_, rfl, Nat.zero_le _, env, F1, G1, Step.refl, g1, hs.step s1, by rw [List.drop_zero]; exact p⟩, ?_⟩
    rintro i m σ H2 ⟨rfl, hi, env', F', G', s2, g2, r2, l⟩
    by_cases hlt : i < items.length
    · right
      have ed : items.drop i = items[i] :: items.drop (i + 1) := List.drop_eq_getElem_cons hlt
      rw [ed] at l
      obtain ⟨gd, l⟩ := l
      obtain ⟨hgo, hy⟩ := (ok i F' G' H2 s2 g2 gd).1 items[i] (List.getElem?_eq_getElem hlt)
      refine ⟨hgo, fun σ' H' => ∃ env'' F'' G'', Step F1 G1 H1 F'' G'' H' ∧ RelG X.K T F'' G'' H' ∧ RelSt X.K F'' H' env'' σ' ∧ dLoop E tg tb DE guard (items.drop (i + 1)) env'' G'', fun σ' H' w => ⟨items.length - (i + 1), by omega, rfl, hlt, w⟩, fun x H3 y => ?_⟩
      obtain ⟨F3, s3, g3, r3⟩ := hy x H3 y
      refine tg_run (r2.step s3) r3 l fun env4 σ4 p4 r4 _ => ?_
      have s13 := s2.trans s3
      refine ⟨env4, F3, G', E, _, g3, r4, hx.step (s1.trans s13), p4, fun env5 F5 G5 σ5 H5 p5 s5 g5 r5 => ⟨env5, F5, G5, s13.trans s5, g5, r5, p5⟩, fun d F5 G5 v H5 p5 s5 g5 r5 => hr d _ G5 v H5 p5 (s1.trans (s13.trans s5)) g5 r5⟩
    · left
      have e : i = items.length := by omega
      subst e
      rw [List.drop_length] at l
      obtain ⟨gd, l⟩ := l
      exact ⟨(ok _ F' G' H2 s2 g2 gd).2 rfl, hn env' _ G' σ H2 l (s1.trans s2) g2 r2⟩⟩
end
/-! ### list comprehensions -/
def wipeD (env : DSt) : List Nat → DSt
  | [] => env
  | v :: vs => (wipeD env vs).set v none
def EF : DXK := fun _ _ _ => False
abbrev WF : WX := fun _ _ _ _ => False
def dLcL (tg : Tg) (tt : DTT) (te : DTE) (guard : DG → Prop) (env : DSt) : List D → DG → (List D → DG → Prop) → Prop
  | [], G, Q => guard G ∧ Q [] G
  | d :: ds, G, Q => guard G ∧ dTg tg d env fun env1 => tt EF env1 G fun b G1 => if b = true then te EF env1 G1 fun y G2 => dLcL tg tt te guard env ds G2 fun ys G3 => Q (y :: ys) G3 else dLcL tg tt te guard env ds G1 Q
def dYes : DTT := fun _ _ G Q => Q true G
def dLc (wi : DTI) (tg : Tg) (tt : DTT) (te : DTE) (vs : List Nat) : DTE := fun E env G Q => wi E env G fun items guard G1 => items.length ≤ 16000000 ∧ dLcL tg tt te guard (wipeD env vs) items G1 fun ys G2 => Q (.lst ys) G2
def dLcB (wi : DTI) (tg : Tg) (tt : DTT) (te : DTE) (vs : List Nat) : DTE := fun E env G Q => wi E env G fun items guard G1 => items.length ≤ 16000000 ∧ dLcL tg tt te guard (wipeD env vs) items G1 fun ys G2 => ∀ p, G2 p = none → Q (.ref p) (gset G2 p (some (.lst ys)))
theorem relSt_wipe {K : PySem.W.Frag} {F : FS} {H : Hp} {env : DSt} {σ : L2.St} (r : RelSt K F H env σ) : ∀ vs : List Nat, RelSt K F H (wipeD env vs) (wipe σ vs)
  | [] => r
  | v :: vs => by
    have ih := relSt_wipe r vs
    unfold wipeD wipe
    refine ⟨by simp [ih.1], fun j d e => ?_⟩
    by_cases hj : v = j
    · subst hj
      by_cases hv : v < (wipeD env vs).length
      · rw [List.getElem?_set_self hv] at e; cases e
      · rw [List.getElem?_eq_none (by simpa using hv)] at e; cases e
    · rw [List.getElem?_set_ne hj] at e ⊢
      exact ih.2 j d e
def tgIn : Tg → List Nat → Bool
  | .n i, vs => vs.contains i
  | .t is, vs => is.all fun i => vs.contains i
theorem wipe_set {σ : L2.St} {i : Nat} {o : Option V} : ∀ {vs : List Nat}, i ∈ vs → wipe (σ.set i o) vs = wipe σ vs
  | [], h => by cases h
  | v :: vs, h => by
    unfold wipe
    by_cases hv : i ∈ vs
    · rw [wipe_set hv]
    · have e : i = v := by
        rcases List.mem_cons.mp h with e | e
        · exact e
        · exact absurd e hv
      subst e
      have key : ∀ (ws : List Nat) (σ : L2.St), i ∉ ws → wipe (σ.set i o) ws = (wipe σ ws).set i o := fun ws => by
        induction ws with
        | nil => intro σ _; rfl
        | cons w ws ih =>
          intro σ hw
          unfold wipe
          rw [ih σ fun z => hw (List.mem_cons_of_mem _ z), List.set_comm _ _ (fun z => hw (by rw [z]; exact List.mem_cons_self))]
      rw [key vs σ hv, List.set_set]
theorem wipe_setAll {vs : List Nat} : ∀ (is : List Nat) (xs : List V) (σ : L2.St), (∀ i ∈ is, i ∈ vs) → wipe (setAll σ is xs) vs = wipe σ vs
  | [], xs, σ, _ => by cases xs <;> rfl
  | i :: is, [], σ, _ => rfl
  | i :: is, x :: xs, σ, h => by
    unfold setAll
    rw [wipe_setAll is xs _ fun j hj => h j (List.mem_cons_of_mem _ hj), wipe_set (h i List.mem_cons_self)]
theorem wipe_wipe {σ : L2.St} (vs : List Nat) : wipe (wipe σ vs) vs = wipe σ vs := by
  have key : ∀ (ws us : List Nat) (σ : L2.St), (∀ w ∈ ws, w ∈ us) → wipe (wipe σ ws) us = wipe σ us := fun ws => by
    induction ws with
    | nil => intro us σ _; rfl
    | cons w ws ih =>
      intro us σ h
      rw [show wipe σ (w :: ws) = (wipe σ ws).set w none from rfl, wipe_set (h w List.mem_cons_self)]
      exact ih us σ fun x hx => h x (List.mem_cons_of_mem _ hx)
  exact key vs vs σ fun _ h => h
section
variable {X : Cx} {W : WX} {pos : Pos}
/-- the loop of a comprehension, by HandS's word -/
theorem lc_word {K : PySem.W.Frag} {J : It} {items : List D} {guard : DG → Prop} {tg : Tg} {tt : DTT} {te : DTE} {vs : List Nat} {env : DSt} {σ : L2.St} {F1 : FS} {G1 : DG} {H1 : Hp} {D1 : Addr} {P : List D → DG → Prop} {Q : VK} (hv : tgIn tg vs = true) (hlen : items.length ≤ 16000000)
    (g1 : RelG K T F1 G1 H1) (r1 : RelSt K F1 H1 env σ) (ok : IterOk K T F1 G1 H1 J items guard) (hD : H1 D1 = none) (l : dLcL tg tt te guard (wipeD env vs) items G1 P)
    (fin : ∀ ys F2 G2 H2 ws, P ys G2 → Step F1 G1 H1 F2 G2 H2 → RelG K T F2 G2 H2 → H2 D1 = some (.lst ws) → ¬ F2 D1 → G2 D1 = none → RelDs K F2 H2 ys ws → Q (.ref D1) H2) :
    ∃ Wd : Nat → Nat → Hp → Prop, (∃ m, Wd 0 m (upd H1 D1 (.lst []))) ∧ ∀ i m H, Wd i m H →
      (J.stop i H ∧ Q (.ref D1) H) ∨ (J.go i H ∧ ∃ Nx : Hp → Prop, (∀ H', Nx H' → ∃ m', m' < m ∧ Wd (i + 1) m' H') ∧ ∀ x H', J.yld i H x H' → vTg K tg x (wipe σ vs) H' fun σ2 H2 => wipe σ2 vs = wipe σ vs ∧ liftT K T WF tt σ2 H2 fun b H3 =>
        if b = true then liftE K T WF te σ2 H3 fun y H4 => ∃ acc, H4 D1 = some (.lst acc) ∧ acc.length < sizeLine ∧ Nx (upd H4 D1 (.lst (acc ++ [y]))) else Nx H3) := by
  refine ⟨fun i m H => m = items.length - i ∧ i ≤ items.length ∧ ∃ F G ys ws, Step F1 G1 H1 F G H ∧ RelG K T F G H ∧ H D1 = some (.lst ws) ∧ ¬ F D1 ∧ G D1 = none ∧ RelDs K F H ys ws ∧ ys.length ≤ i ∧ dLcL tg tt te guard (wipeD env vs) (items.drop i) G fun zs G2 => P (ys ++ zs) G2,
    ⟨_, rfl, Nat.zero_le _, F1, G1, [], [], Step.priv hD, g1.priv hD, upd_same, g1.nof hD, g1.free hD, rfl, Nat.le_refl _, by rw [List.drop_zero]; exact l⟩, ?_⟩
  rintro i m H ⟨rfl, hi, F, G, ys, ws, s2, g2, eD, fD, gD, rel, hyl, l⟩
  by_cases hlt : i < items.length
  · right
    rw [List.drop_eq_getElem_cons hlt] at l
    obtain ⟨gd, l⟩ := l
    obtain ⟨hgo, hy⟩ := (ok i F G H s2 g2 gd).1 items[i] (List.getElem?_eq_getElem hlt)
    refine ⟨hgo, fun H' => ∃ F G ys ws, Step F1 G1 H1 F G H' ∧ RelG K T F G H' ∧ H' D1 = some (.lst ws) ∧ ¬ F D1 ∧ G D1 = none ∧ RelDs K F H' ys ws ∧ ys.length ≤ i + 1 ∧ dLcL tg tt te guard (wipeD env vs) (items.drop (i + 1)) G fun zs G2 => P (ys ++ zs) G2,
      fun H' w => ⟨items.length - (i + 1), by omega, rfl, hlt, w⟩, fun x H3 y => ?_⟩
    obtain ⟨F3, s3, g3, r3⟩ := hy x H3 y
    have s13 := s2.trans s3
    refine tg_run (relSt_wipe (r1.step s13) vs) r3 l fun env4 σ4 p4 r4 e4 => ⟨?_, ?_⟩
    · obtain ⟨us, e4⟩ := e4
      rw [e4]
      cases tg with
      | n j => exact (wipe_set (by simpa [tgIn] using hv)).trans (wipe_wipe vs)
      | t js => exact (wipe_setAll js us _ (by simpa [tgIn] using hv)).trans (wipe_wipe vs)
    · refine ⟨env4, F3, G, EF, _, g3, r4, (fun _ _ _ _ _ _ _ _ z => z.elim), p4, fun b F5 G5 H5 p5 s5 g5 => ?_⟩
      obtain ⟨fd3, gd3, e3⟩ := s3.pv D1 _ fD gD eD rfl
      obtain ⟨fd5, gd5, e5⟩ := s5.pv D1 _ fd3 gd3 e3 rfl
      cases b with
      | false =>
        rw [if_neg Bool.false_ne_true] at p5 ⊢
        exact ⟨F5, G5, ys, ws, s13.trans s5, g5, e5, fd5, gd5, RelDs.step (s3.trans s5) ys rel, by omega, p5⟩
      | true =>
        rw [if_pos rfl] at p5 ⊢
        refine ⟨env4, F5, G5, EF, _, g5, r4.step s5, (fun _ _ _ _ _ _ _ _ z => z.elim), p5, fun y F6 G6 v6 H6 p6 s6 g6 r6 => ?_⟩
        obtain ⟨fd6, gd6, e6⟩ := s6.pv D1 _ fd5 gd5 e5 rfl
        have rel6 := RelDs.step (s3.trans (s5.trans s6)) ys rel
        refine ⟨ws, e6, by rw [← rel6.length]; exact Nat.lt_of_lt_of_le (Nat.lt_of_le_of_lt hyl (Nat.lt_of_lt_of_le hlt hlen)) (by decide), ?_⟩
        refine ⟨F6, G6, ys ++ [y], ws ++ [v6], ((s13.trans s5).trans s6).wr hD, g6.wr fd6 gd6 e6 rfl, upd_same, fd6, gd6, RelDs.kept (kept_wr fd6) _ (rel6.append ⟨v6, [], rfl, r6, rfl⟩), by rw [List.length_append]; simp; omega, ?_⟩
        have : (fun zs G2 => P (ys ++ [y] ++ zs) G2) = fun zs G2 => P (ys ++ y :: zs) G2 := by funext zs G2; simp
        rw [this]
        exact p6
  · left
    have e : i = items.length := by omega
    subst e
    rw [List.drop_length] at l
    obtain ⟨gd, l⟩ := l
    rw [List.append_nil] at l
    exact ⟨(ok _ F G H s2 g2 gd).2 rfl, fin ys F G H ws l s2 g2 eD fD gD rel⟩
end
end DL

namespace DL
open PySem PySem.Spec PyProof.Rows L2
variable {T : LT}
/-! ### what an iterator of our own draws from: a list, a tuple, a text -/
inductive SK where
  | l (a : Addr) | t (a : Addr) | s (x : Str)
def SK.at : SK → List Addr
  | .l a => [a]
  | .t a => [a]
  | .s _ => []
def tnS : SK → Addr → Nat → Heap → Prop
  | .l a, it, i, h => h.IsListIter it a i
  | .t a, it, i, h => h.IsTupleIter it a i
  | .s x, it, i, h => ∃ tk, h.IsStrIter it (strIterType x) x tk i
def signV (x : Str) : List V := x.cps.toList.map fun c => V.str ⟨#[c]⟩
def rdS (K : PySem.W.Frag) (H : Hp) : SK → List V → Prop
  | .l a, xs => SqL K H a xs
  | .t a, xs => SqT K H a xs
  | .s x, xs => xs = signV x
def kvS : SK → V
  | .l a => .ref a
  | .t a => .ref a
  | .s x => .str x
theorem tnS_at {k : SK} {it : Addr} {i : Nat} {h h' : Heap} (st : tnS k it i h) (e : ∀ o, h.get? it = some o → h'.get? it = some o) : tnS k it i h' := by
  cases k with
  | l a => exact Heap.IsListIter.at st e
  | t a => exact Heap.IsTupleIter.at st e
  | s x =>
    obtain ⟨tk, o, ho, r⟩ := st
    exact ⟨tk, o, e o ho, r⟩
theorem tnS_obj {k : SK} {it : Addr} {i : Nat} {h : Heap} (st : tnS k it i h) : ∃ o, h.get? it = some o ∧ ∀ v, o.data ≠ .cell v := by
  cases k with
  | l a => obtain ⟨o, ho, _, d⟩ := st; exact ⟨o, ho, fun v q => by rw [d] at q; cases q⟩
  | t a => obtain ⟨o, ho, _, d⟩ := st; exact ⟨o, ho, fun v q => by rw [d] at q; cases q⟩
  | s x => obtain ⟨tk, o, ho, _, d⟩ := st; exact ⟨o, ho, fun v q => by rw [d] at q; cases q⟩
section
variable {X : Cx} {pins : List (Addr × Obj)} {σ : L2.St} {H : Hp} {s : Shared}
theorem rdS_inj {k : SK} {xs ys : List V} (I : Inv X pins σ H s) (h : rdS X.K H k xs) (h' : rdS X.K H k ys) : xs = ys := by
  cases k with
  | l a => exact I.list_inj h h'
  | t a => exact I.tuple_inj h h'
  | s x => rw [show xs = _ from h, show ys = _ from h']
/-- the source draws, seen at one state -/
theorem rdS_draws {k : SK} {xs : List V} {it : Addr} {i : Nat} (I : Inv X pins σ H s) (hh : X.A.handled = none) (r : rdS X.K H k xs) (st : tnS k it i s.heap) (hne : it ∉ k.at) :
    ∃ (P : Nat → Value → Prop) (St : Nat → Heap → Prop), Draws X.prog X.w X.A.in1 it (it :: k.at) xs.length P St ∧ St i s.heap ∧ (∀ j v, j < xs.length → P j v → ∃ x, xs[j]? = some x ∧ RelV x v) ∧ ∀ j h, St j h → tnS k it j h := by
  cases k with
  | l a =>
    obtain ⟨its, rv, p, _⟩ := I.list r
    have hl := rv.length
    have D := Draws.list (prog := X.prog) (w := X.w) (A := X.A.in1) hh it a (fun z => hne (by simp [SK.at, z])) its.toArray
    rw [show its.toArray.size = xs.length by simp [hl]] at D
    refine ⟨_, _, D, ⟨st, p.isList⟩, fun j v hj e => ?_, fun j h st => st.1⟩
    have hx : xs[j]? = some xs[j] := List.getElem?_eq_getElem hj
    obtain ⟨u, hu, ru⟩ := rv.get hx
    refine ⟨_, hx, ?_⟩
    simp only [List.getElem?_toArray] at e
    rw [hu] at e
    cases e
    exact ru
  | t a =>
    obtain ⟨its, rv, p, _⟩ := I.tuple r
    have hl := rv.length
    have D := Draws.tuple (prog := X.prog) (w := X.w) (A := X.A.in1) hh it a (fun z => hne (by simp [SK.at, z])) its.toArray
    rw [show its.toArray.size = xs.length by simp [hl]] at D
    refine ⟨_, _, D, ⟨st, p⟩, fun j v hj e => ?_, fun j h st => st.1⟩
    have hx : xs[j]? = some xs[j] := List.getElem?_eq_getElem hj
    obtain ⟨u, hu, ru⟩ := rv.get hx
    refine ⟨_, hx, ?_⟩
    simp only [List.getElem?_toArray] at e
    rw [hu] at e
    cases e
    exact ru
  | s x =>
    obtain ⟨tk, st⟩ := st
    have hl : x.cps.size = xs.length := by rw [show xs = _ from r]; simp [signV]
    refine ⟨_, _, hl ▸ Draws.text (A := X.A.in1) hh it x tk, st, fun j v hj e => ?_, fun j h st => ⟨tk, st⟩⟩
    obtain ⟨c, u, hc, rfl⟩ := e
    refine ⟨.str ⟨#[c]⟩, ?_, ⟨u, rfl⟩⟩
    rw [show xs = _ from r]
    simp [signV, hc]
def obS : SK → Value → Obj
  | .l a, _ => { cls := .type "list_iterator", data := .fields #[.ref a, .int 0 0] }
  | .t a, _ => { cls := .type "tuple_iterator", data := .fields #[.ref a, .int 0 0] }
  | .s x, v => { cls := .type (strIterType x), data := .fields #[v, .int 0 0] }
theorem rdS_begins {k : SK} {xs : List V} {v : Value} (I : Inv X pins σ H s) (r : rdS X.K H k xs) (rv : RelV (kvS k) v) : ∃ Hp, Begins v (obS k v) Hp ∧ Hp s.heap ∧ (∀ a ∈ k.at, a < s.heap.objs.size) ∧ ∀ it h, h.get? it = some (obS k v) → tnS k it 0 h := by
  cases k with
  | l a =>
    obtain ⟨its, rv', p, _⟩ := I.list r
    obtain rfl : v = Value.ref a := rv
    exact ⟨_, begins_list a its.toArray, p.isList, fun b hb => by rw [List.mem_singleton.mp hb]; exact p.lt, fun it h e => ⟨_, e, rfl, rfl⟩⟩
  | t a =>
    obtain ⟨its, rv', p, _⟩ := I.tuple r
    obtain rfl : v = Value.ref a := rv
    exact ⟨_, begins_tuple a its.toArray, p, fun b hb => by rw [List.mem_singleton.mp hb]; obtain ⟨o, ho, _⟩ := p; exact Heap.lt_size ho, fun it h e => ⟨_, e, rfl, rfl⟩⟩
  | s x =>
    obtain ⟨tk, rfl⟩ : ∃ tk, v = Value.str x tk := rv
    exact ⟨fun _ => True, begins_text x tk, trivial, fun b hb => (by cases hb), fun it h e => ⟨tk, _, e, rfl, rfl⟩⟩
end
/-- pairs drawn from two -/
def ItZ (K : PySem.W.Frag) (k1 k2 : SK) : It :=
  ⟨fun i H => ∃ (xs ys : List V), rdS K H k1 xs ∧ rdS K H k2 ys ∧ i < min xs.length ys.length,
    fun i H v H' => ∃ T x y, v = .ref T ∧ H T = none ∧ H' = upd H T (.tup [x, y]) ∧ (∀ xs, rdS K H k1 xs → xs[i]? = some x) ∧ ∀ ys, rdS K H k2 ys → ys[i]? = some y,
    fun i H => ∃ xs ys : List V, rdS K H k1 xs ∧ rdS K H k2 ys ∧ i = min xs.length ys.length⟩
theorem turn_Z {P : Program} {w : World} {K : PySem.W.Frag} {elts : List Expr} {kk : Nat} {tpos : Pos} {k1 k2 : SK} {z TI TO i1 i2 : Addr} (D : ZipSep2 z TI TO i1 i2 (i1 :: k1.at) (i2 :: k2.at)) (n1 : i1 ∉ k1.at) (n2 : i2 ∉ k2.at) :
    Turn P w K (.Tuple elts kk tpos) (ItZ K k1 k2) [z, TI, TO, i1, i2] z (fun i h => IsZip h z TI TO .none ∧ IsTupOf2 h TI (.ref i1) (.ref i2) ∧ (∃ x y, IsTupOf2 h TO x y) ∧ tnS k1 i1 i h ∧ tnS k2 i2 i h) where
  mem := by simp
  obj := fun i h st c hc => by
    obtain ⟨hz, hTI, ⟨x, y, hTO⟩, s1, s2⟩ := st
    have e' : c = z ∨ c = TI ∨ c = TO ∨ c = i1 ∨ c = i2 := by simpa using hc
    rcases e' with q | q | q | q | q
    · rw [q]; exact ⟨_, hz, fun v q => nomatch q⟩
    · rw [q]; exact ⟨_, hTI, fun v q => nomatch q⟩
    · rw [q]; exact ⟨_, hTO, fun v q => nomatch q⟩
    · rw [q]; exact tnS_obj s1
    · rw [q]; exact tnS_obj s2
  keep := fun i h h' st k => by
    obtain ⟨hz, hTI, ⟨x, y, hTO⟩, h1, h2⟩ := st
    exact ⟨k z (by simp) _ hz, k TI (by simp) _ hTI, ⟨x, y, k TO (by simp) _ hTO⟩, tnS_at h1 fun o q => k i1 (by simp) o q, tnS_at h2 fun o q => k i2 (by simp) o q⟩
  item := by
    intro X hP hw hK hc i pins s σ H E I hf st hg
    subst hP hw hK
    obtain ⟨hz, hTI, hTO, h1, h2⟩ := st
    obtain ⟨xs, ys, r1, r2, hlt⟩ := hg
    obtain ⟨P1, St1, D1, st1, p1, b1⟩ := rdS_draws I (I.ok.hd hc) r1 h1 n1
    obtain ⟨P2, St2, D2, st2, p2, b2⟩ := rdS_draws I (I.ok.hd hc) r2 h2 n2
    have fl : ∀ c ∈ [z, TI, TO, i1, i2], c < s.heap.objs.size := fun c hcm => by
      have e' : c = z ∨ c = TI ∨ c = TO ∨ c = i1 ∨ c = i2 := by simpa using hcm
      obtain ⟨x, y, hTO⟩ := hTO
      rcases e' with q | q | q | q | q
      · rw [q]; exact Heap.lt_size hz
      · rw [q]; exact Heap.lt_size hTI
      · rw [q]; exact Heap.lt_size hTO
      · rw [q]; obtain ⟨o, ho, _⟩ := tnS_obj h1; exact Heap.lt_size ho
      · rw [q]; obtain ⟨o, ho, _⟩ := tnS_obj h2; exact Heap.lt_size ho
    refine (GoesN.zip2 (elts := elts) (x1 := kk) (pos := tpos) D D1 D2).goes i s (fun u s2 => ∃ x H', Inv X pins σ H' s2 ∧ RelV x u ∧ (ItZ X.K k1 k2).yld i H x H' ∧ (IsZip s2.heap z TI TO .none ∧ IsTupOf2 s2.heap TI (.ref i1) (.ref i2) ∧ (∃ x y, IsTupOf2 s2.heap TO x y) ∧ tnS k1 i1 (i + 1) s2.heap ∧ tnS k2 i2 (i + 1) s2.heap) ∧ ∀ b ∈ [z, TI, TO, i1, i2], H' b = none) E hlt ⟨hz, hTI, hTO, st1, st2⟩ ?_
    intro v h' tk hy hst hk ht
    obtain ⟨T, x, y, rfl, hT, px, py, hTup⟩ := hy
    obtain ⟨vx, ex, rx⟩ := p1 i x (by omega) px
    obtain ⟨vy, ey, ry⟩ := p2 i y (by omega) py
    have hfr : H T = none := I.hok.fresh hT
    have new : ObjOk X.prog X.w (upd H T (.tup [vx, vy])) h' T (.tup [vx, vy]) := ⟨by show 2 ≤ sizeLine; decide, [x, y], .cons rx (.cons ry .nil), hTup⟩
    refine ⟨.ref T, _, I.turnedNew (t' := tk) (ch := [z, TI, TO, i1, i2]) (fun c o hb q => hk c o (fun hm => hb ?_) q) hf hT new, rfl, ⟨T, vx, vy, rfl, hfr, rfl, fun l hl => by rw [rdS_inj I hl r1]; exact ex, fun l hl => by rw [rdS_inj I hl r2]; exact ey⟩, ⟨hst.1, hst.2.1, hst.2.2.1, b1 _ _ hst.2.2.2.1, b2 _ _ hst.2.2.2.2⟩, fun b hb => ?_⟩
    · have e' : c = z ∨ c = TO ∨ c = i1 ∨ c = i2 := by simpa using hm
      rcases e' with q | q | q | q <;> simp [q]
    · rw [upd_ne (Nat.ne_of_lt (Nat.lt_of_lt_of_le (fl b hb) hT))]
      exact (hf b hb).1
  done := by
    intro X hP hw hK hc i pins s σ H E I hf st hg
    subst hP hw hK
    obtain ⟨hz, hTI, hTO, h1, h2⟩ := st
    obtain ⟨xs, ys, r1, r2, rfl⟩ := hg
    obtain ⟨P1, St1, D1, st1, p1, b1⟩ := rdS_draws I (I.ok.hd hc) r1 h1 n1
    obtain ⟨P2, St2, D2, st2, p2, b2⟩ := rdS_draws I (I.ok.hd hc) r2 h2 n2
    refine (GoesN.zip2 (elts := elts) (x1 := kk) (pos := tpos) D D1 D2).stops s (fun s1 => Inv X pins σ H s1) E ⟨hz, hTI, hTO, st1, st2⟩ fun h' tk hk ht => ?_
    exact I.turnedL (t' := tk) (ch := [z, TI, TO, i1, i2]) (fun c o hb q => hk c o (fun hm => hb (by
      have e' : c = z ∨ c = TO ∨ c = i1 ∨ c = i2 := by simpa using hm
      rcases e' with q | q | q | q <;> simp [q])) q) hf
  self := fun A i s Q E st h => wpAny_pyIter_zip st.1 h
def iZ (K : PySem.W.Frag) (ta : TA) : TI := fun σ H R => ta σ H fun vs H1 => ∃ k1 k2 xs ys, vs = [kvS k1, kvS k2] ∧ rdS K H1 k1 xs ∧ rdS K H1 k2 ys ∧ R (ItZ K k1 k2) H1
theorem pi_Z {X : Cx} {e e2 : Expr} {ta : TA} {p pos tpos : Pos} {elts : List Expr} {kk : Nat} (hg : Gl X "zip") (hm : X.mg "zip" = none) (ha : PA X [e, e2] ta)
    (hs : starEach [e, e2] X.env = (false, eval e X.env) :: starEach [e2] X.env := by rfl) (hpl : (backTo pos (starEach [e2] X.env)).any (·.1) = false := by rfl) :
    PI X (.Tuple elts kk tpos) (.Call (.Name "zip" p) [e, e2] [] pos) (iZ X.K ta) := by
  refine ⟨fun pins s σ H R I h => ?_⟩
  refine Call_ (ld_blt I hg hm PyProof.Rows.boot_zip (PyProof.Rows.callWith_type1 (thn (ha.run pos pins s σ H _ I h) fun us s1 ⟨vs, H1, I1, r1, q1⟩ => ?_) hs hpl))
  obtain ⟨k1, k2, xs, ys, rfl, d1, d2, q⟩ := q1
  cases r1 with
  | cons r rr =>
    cases rr with
    | cons r' rr =>
      cases rr
      rename_i u1 u2
      obtain ⟨Hp1, B1, hp1, l1, t1⟩ := rdS_begins I1 d1 r
      obtain ⟨Hp2, B2, hp2, l2, t2⟩ := rdS_begins I1 d2 r'
      refine zip_begins2 B1 B2 hp1 hp2 fun h' hz hTI hTO h1 h2 hsz hk => wpAny_pyIter_zip hz ?_
      have I2 : Inv X pins σ H1 { s1 with heap := h' } := I1.kept (t' := s1.toks) hk
      have fresh5 : ∀ c, c ∈ [s1.heap.objs.size + 4, s1.heap.objs.size + 2, s1.heap.objs.size + 3, s1.heap.objs.size, s1.heap.objs.size + 1] → FpOk X pins H1 c := fun c hcm => by
        have hle : s1.heap.objs.size ≤ c := by
          simp only [List.mem_cons, List.not_mem_nil, or_false] at hcm
          rcases hcm with z | z | z | z | z
          · exact z ▸ Nat.le_add_right _ _
          · exact z ▸ Nat.le_add_right _ _
          · exact z ▸ Nat.le_add_right _ _
          · exact z ▸ Nat.le_refl _
          · exact z ▸ Nat.le_add_right _ _
        exact I1.fpOk hle (I1.hok.fresh hle)
      exact ⟨s1.heap.objs.size + 4, [s1.heap.objs.size + 4, s1.heap.objs.size + 2, s1.heap.objs.size + 3, s1.heap.objs.size, s1.heap.objs.size + 1], _, _, H1, rfl, I2, turn_Z (zip_sep2 l1 l2) (fun hm => Nat.lt_irrefl _ (l1 _ hm)) (fun hm => Nat.not_succ_lt_self (l2 _ hm)), ⟨hz, hTI, ⟨_, _, hTO⟩, t1 _ _ h1, t2 _ _ h2⟩, fresh5, q⟩

theorem enum_new1 {v : Value} {o : Obj} {H : Heap → Prop} (B : Begins v o H) :
    Meets (Builtin.«enumerate.__new__» ⟨[.type "enumerate", v], []⟩) (fun _ R s => H s.heap ∧
      R (.ok (.ret (.ref (s.heap.push o).objs.size))) { s with heap := (s.heap.push o).push { cls := .type "enumerate", data := .fields #[.none, .bool false, .ref s.heap.objs.size, rawInt 0, .none, .none] } }) :=
  .of_wp fun prog w A R s h => by
    obtain ⟨hp, g, d, tk, os⟩ := s
    obtain ⟨h1, h⟩ := h
    have hsub := sub_enumerate
    have q1 : ∀ {A' : Around} {E : Value → Shared → Prop} {Q : Value → Shared → Prop}, Q (.ref hp.objs.size) ⟨hp.push o, g, d, tk, os⟩ → wpAny (model prog w) A' (pyIter v) Q E ⟨hp, g, d, tk, os⟩ := fun q => B.iter prog w _ _ ⟨hp, g, d, tk, os⟩ _ h1 q
    wp_walk using q1
    refine wpAny_stack_any fun st => wpAny_pure ?_
    split
    · rename_i c _ _ _ _ _
      cases (c == Value.type "enumerate") <;> (wp_walk using q1; exact ⟨_, rfl, h⟩)
    · wp_walk using q1
      exact ⟨_, rfl, h⟩
theorem enum_begins1 {prog : Program} {w : World} {A : Around} {E : Value → Shared → Prop} {s : Shared} {v : Value} {o : Obj} {H : Heap → Prop} {Q : Value → Shared → Prop} (B : Begins v o H) (h1 : H s.heap)
    (h : ∀ h', IsEnum h' (s.heap.objs.size + 1) s.heap.objs.size 0 .none → h'.get? s.heap.objs.size = some o → (∀ b o, s.heap.get? b = some o → h'.get? b = some o) → Q (.ref (s.heap.objs.size + 1)) { s with heap := h' }) :
    wpAny (model prog w) A (call (.type "enumerate") [v]) Q E s := by
  refine callType_new F.called_enumerate (by decide) (F.typeCall_enumerate_1 _) (F.newCall_enumerate_1 _) (fun obj => F.args_object_init_2 obj _) F.entry_enumerate_new (enum_new1 B) ⟨h1, ?_⟩
  have hz : (s.heap.push o).objs.size = s.heap.objs.size + 1 := Heap.size_push ..
  have he : IsEnum ((s.heap.push o).push { cls := .type "enumerate", data := .fields #[.none, .bool false, .ref s.heap.objs.size, rawInt 0, .none, .none] }) (s.heap.objs.size + 1) s.heap.objs.size 0 .none := by
    have e := Heap.get?_push_size (s.heap.push o) (o := { cls := .type "enumerate", data := .fields #[.none, .bool false, .ref s.heap.objs.size, rawInt 0, .none, .none] }) rfl
    rw [hz] at e
    exact e
  show _ ∧ _
  rw [hz]
  exact ⟨⟨_, he, rfl⟩, h _ he (Heap.get?_push_of_some _ (Heap.get?_push_size _ B.free)) fun b o x => Heap.get?_push_of_some _ (Heap.get?_push_of_some _ x)⟩
def ItE (K : PySem.W.Frag) (k : SK) : It :=
  ⟨fun i H => ∃ xs : List V, rdS K H k xs ∧ i < xs.length,
    fun i H v H' => ∃ T x, v = .ref T ∧ H T = none ∧ H' = upd H T (.tup [.int (i : Nat), x]) ∧ ∀ xs, rdS K H k xs → xs[i]? = some x,
    fun i H => ∃ xs : List V, rdS K H k xs ∧ i = xs.length⟩
theorem turn_E {P : Program} {w : World} {K : PySem.W.Frag} {elts : List Expr} {kk : Nat} {tpos : Pos} {k : SK} {e it : Addr} (hne : e ≠ it) (he : e ∉ k.at) (hi : it ∉ k.at) :
    Turn P w K (.Tuple elts kk tpos) (ItE K k) [e, it] e (fun i h => (∃ old, IsEnum h e it (0 + (i : Nat)) old) ∧ tnS k it i h) where
  mem := by simp
  obj := fun i h st b hb => by
    obtain ⟨⟨old, he⟩, h1⟩ := st
    have e' : b = e ∨ b = it := by simpa using hb
    rcases e' with z | z
    · rw [z]; exact ⟨_, he, fun v q => nomatch q⟩
    · rw [z]; exact tnS_obj h1
  keep := fun i h h' st k => let ⟨⟨old, he⟩, hi⟩ := st; ⟨⟨old, k e (by simp) _ he⟩, tnS_at hi fun o q => k it (by simp) o q⟩
  item := by
    intro X hP hw hK hc i pins s σ H E I hf st hg
    subst hP hw hK
    obtain ⟨hen, h1⟩ := st
    obtain ⟨xs, r1, hlt⟩ := hg
    obtain ⟨P1, St1, D1, st1, p1, b1⟩ := rdS_draws I (I.ok.hd hc) r1 h1 hi
    have fl : ∀ c ∈ [e, it], c < s.heap.objs.size := fun c hcm => by
      have e' : c = e ∨ c = it := by simpa using hcm
      obtain ⟨old, hen⟩ := hen
      rcases e' with q | q
      · rw [q]; exact Heap.lt_size hen
      · rw [q]; obtain ⟨o, ho, _⟩ := tnS_obj h1; exact Heap.lt_size ho
    refine (GoesN.enumFrom (elts := elts) (x1 := kk) (pos := tpos) 0 D1 e hne (fun hm => (List.mem_cons.mp hm).elim hne he) (by simp)).goes i s (fun u s2 => ∃ x H', Inv X pins σ H' s2 ∧ RelV x u ∧ (ItE X.K k).yld i H x H' ∧ ((∃ old, IsEnum s2.heap e it (0 + ((i + 1 : Nat) : Int)) old) ∧ tnS k it (i + 1) s2.heap) ∧ ∀ b ∈ [e, it], H' b = none) E hlt ⟨hen, st1⟩ ?_
    intro v h' tk hy hst hk ht
    obtain ⟨T, t, x, rfl, hT, px, hTup⟩ := hy
    obtain ⟨vx, ex, rx⟩ := p1 i x hlt px
    have hfr : H T = none := I.hok.fresh hT
    have new : ObjOk X.prog X.w (upd H T (.tup [.int (i : Nat), vx])) h' T (.tup [.int (i : Nat), vx]) := ⟨by show 2 ≤ sizeLine; decide, [.int (0 + (i : Int)) t, x], .cons ⟨t, by rw [Int.zero_add]⟩ (.cons rx .nil), hTup⟩
    exact ⟨.ref T, _, I.turnedNew (t' := tk) (ch := [e, it]) (fun c o hb q => hk c o hb q) hf hT new, rfl, ⟨T, vx, rfl, hfr, rfl, fun l hl => by rw [rdS_inj I hl r1]; exact ex⟩, ⟨hst.1, b1 _ _ hst.2⟩, fun b hb => by
      rw [upd_ne (Nat.ne_of_lt (Nat.lt_of_lt_of_le (fl b hb) hT))]
      exact (hf b hb).1⟩
  done := by
    intro X hP hw hK hc i pins s σ H E I hf st hg
    subst hP hw hK
    obtain ⟨hen, h1⟩ := st
    obtain ⟨xs, r1, rfl⟩ := hg
    obtain ⟨P1, St1, D1, st1, p1, b1⟩ := rdS_draws I (I.ok.hd hc) r1 h1 hi
    refine (GoesN.enumFrom (elts := elts) (x1 := kk) (pos := tpos) 0 D1 e hne (fun hm => (List.mem_cons.mp hm).elim hne he) (by simp)).stops s (fun s1 => Inv X pins σ H s1) E ⟨hen, st1⟩ fun h' tk hk ht => ?_
    exact I.turnedL (t' := tk) (ch := [e, it]) (fun c o hb q => hk c o hb q) hf
  self := fun A i s Q E st h => let ⟨⟨_, he⟩, _⟩ := st; wpAny_pyIter_enum he h
def iE (K : PySem.W.Frag) (ta : TA) : TI := fun σ H R => ta σ H fun vs H1 => ∃ k xs, vs = [kvS k] ∧ rdS K H1 k xs ∧ R (ItE K k) H1
theorem pi_E {X : Cx} {e : Expr} {ta : TA} {p pos tpos : Pos} {elts : List Expr} {kk : Nat} (hg : Gl X "enumerate") (hm : X.mg "enumerate" = none) (ha : PA X [e] ta) (hs : starEach [e] X.env = [(false, eval e X.env)] := by rfl) :
    PI X (.Tuple elts kk tpos) (.Call (.Name "enumerate" p) [e] [] pos) (iE X.K ta) := by
  refine ⟨fun pins s σ H R I h => ?_⟩
  refine Call_ (ld_blt I hg hm boot_enumerate (PyProof.Rows.callWith_type1 (thn (ha.run pos pins s σ H _ I h) fun us s1 ⟨vs, H1, I1, r1, q1⟩ => ?_) hs rfl))
  obtain ⟨k, xs, rfl, d1, q⟩ := q1
  cases r1 with
  | cons r rr =>
    cases rr
    obtain ⟨Hp1, B1, hp1, l1, t1⟩ := rdS_begins I1 d1 r
    refine enum_begins1 B1 hp1 fun h' he hit hk => wpAny_pyIter_enum he ?_
    have I2 : Inv X pins σ H1 { s1 with heap := h' } := I1.kept (t' := s1.toks) hk
    refine ⟨s1.heap.objs.size + 1, [s1.heap.objs.size + 1, s1.heap.objs.size], _, _, H1, rfl, I2, turn_E (Nat.succ_ne_self _) (fun hm => Nat.not_succ_lt_self (l1 _ hm)) (fun hm => Nat.lt_irrefl _ (l1 _ hm)), ⟨⟨.none, he⟩, t1 _ _ hit⟩, fun b hb => ?_, q⟩
    have hle : s1.heap.objs.size ≤ b := by
      simp only [List.mem_cons, List.not_mem_nil, or_false] at hb
      rcases hb with z | z
      · exact z ▸ Nat.le_add_right _ _
      · exact z ▸ Nat.le_refl _
    exact I1.fpOk hle (I1.hok.fresh hle)
end DL

namespace DL
open PySem PySem.Spec PyProof.Rows L2
variable {T : LT}
/-! ### any source, item by item -/
def ItS (K : PySem.W.Frag) : SK → It
  | .l a => Itl K a
  | .t a => Itt K a
  | .s x => Its x
def iS (K : PySem.W.Frag) (te : TE) : TI := fun σ H R => te σ H fun v H1 => ∃ k xs, v = kvS k ∧ rdS K H1 k xs ∧ R (ItS K k) H1
theorem pi_S {X : Cx} {tg e : Expr} {te : TE} (he : PE X e te) : PI X tg e (iS X.K te) := by
  refine ⟨fun pins s σ H R I h => ?_⟩
  refine thn (he.run pins s σ H _ I h) fun v s1 ⟨x, H1, I1, r1, k, xs, ex, d, q⟩ => ?_
  subst ex
  obtain ⟨Hp1, B, hp, _, t⟩ := rdS_begins I1 d r1
  refine B.iter _ _ _ _ s1 _ hp ?_
  have st := t s1.heap.objs.size (s1.heap.push (obS k v)) (Heap.get?_push_size _ B.free)
  cases k with
  | l a => exact pi_one (tk := s1.toks) I1 _ (turn_list a _) st q
  | t a => exact pi_one (tk := s1.toks) I1 _ (turn_tuple a _) st q
  | s x =>
    obtain ⟨tk, st⟩ := st
    refine pi_one (tk := s1.toks) I1 _ (turn_str _ x tk (strIterType x) ?_) st q
    unfold strIterType
    split
    · exact .inl rfl
    · exact .inr rfl
def signsD (s : String) : List D := s.toList.map fun c => .str (String.singleton c)
def iterD (G : DG) : D → Option (List D)
  | .tup xs => some xs
  | .str s => some (signsD s)
  | d => asL G d
def adr : V → Addr
  | .ref a => a
  | _ => 0
def kD : D → V → SK
  | .tup _, v => .t (adr v)
  | .str s, _ => .s (S s)
  | _, v => .l (adr v)
theorem S_single (c : Char) : S (String.singleton c) = ⟨#[c.toNat]⟩ := by
  unfold S
  rw [Str.ofString_eq_toList]
  simp
section
variable {K : PySem.W.Frag} {F : FS} {G : DG} {H : Hp}
theorem relDs_signs (s : String) : RelDs K F H (signsD s) (signV (S s)) := by
  unfold signsD signV
  rw [S_cps]
  induction s.toList with
  | nil => rfl
  | cons c cs ih => exact ⟨_, _, rfl, (show V.str _ = V.str (S (String.singleton c)) by rw [S_single]), ih⟩
theorem srcD {d : D} {v : V} {ds : List D} (hg : RelG K T F G H) (r : RelD K F H d v) (e : iterD G d = some ds) : v = kvS (kD d v) ∧ ∃ vs, rdS K H (kD d v) vs ∧ RelDs K F H ds vs := by
  have key : ∀ d', asL G d' = some ds → RelD K F H d' v → v = .ref (adr v) ∧ ∃ vs, SqL K H (adr v) vs ∧ RelDs K F H ds vs := fun d' e r => by
    obtain ⟨a, vs, rfl, h, k⟩ := asL_ok hg r e
    exact ⟨rfl, vs, .inl h, k⟩
  cases d with
  | tup xs =>
    cases e
    obtain ⟨a, vs, rfl, t, k⟩ := r
    exact ⟨rfl, vs, t.sq, k⟩
  | str s =>
    cases e
    exact ⟨r, _, rfl, relDs_signs s⟩
  | lst xs => exact key (.lst xs) e r
  | ref a => exact key (.ref a) e r
  | _ => cases e
end
/-! ranges -/
def intsFrom (lo : Int) : Nat → List D
  | 0 => []
  | n + 1 => .int lo :: intsFrom (lo + 1) n
theorem intsFrom_len : ∀ (n : Nat) (lo : Int), (intsFrom lo n).length = n
  | 0, _ => rfl
  | n + 1, lo => by simp [intsFrom, intsFrom_len n]
theorem intsFrom_get : ∀ (n : Nat) (lo : Int) (i : Nat), i < n → (intsFrom lo n)[i]? = some (.int (lo + i))
  | 0, _, i, h => by omega
  | n + 1, lo, 0, h => by simp [intsFrom]
  | n + 1, lo, i + 1, h => by
    simp only [intsFrom, List.getElem?_cons_succ]
    rw [intsFrom_get n (lo + 1) i (by omega)]
    congr 2
    omega
def dRange1 (ta : DTA) : DTI := fun E env G Q => ta E env G fun xs G1 => ∃ hi, xs = [.int hi] ∧ -(2 ^ 62) ≤ hi ∧ hi < 2 ^ 62 ∧ Q (intsFrom 0 hi.toNat) (fun _ => True) G1
def dRange2 (ta : DTA) : DTI := fun E env G Q => ta E env G fun xs G1 => ∃ lo hi, xs = [.int lo, .int hi] ∧ (-(2 ^ 62) ≤ lo ∧ lo < 2 ^ 62 ∧ -(2 ^ 62) ≤ hi ∧ hi < 2 ^ 62) ∧ Q (intsFrom lo (hi - lo).toNat) (fun _ => True) G1
def dIter (te : DTE) : DTI := fun E env G Q => te E env G fun d G1 => ∃ xs, iterD G1 d = some xs ∧ Q xs (fun G' => iterD G' d = some xs) G1
def zipD : List D → List D → List D
  | x :: xs, y :: ys => .tup [x, y] :: zipD xs ys
  | _, _ => []
def enumD (i : Nat) : List D → List D
  | [] => []
  | x :: xs => .tup [.int i, x] :: enumD (i + 1) xs
theorem zipD_len : ∀ xs ys : List D, (zipD xs ys).length = min xs.length ys.length
  | [], ys => by simp [zipD]
  | x :: xs, [] => by simp [zipD]
  | x :: xs, y :: ys => by simp [zipD, zipD_len xs ys]
theorem enumD_len : ∀ (xs : List D) (i : Nat), (enumD i xs).length = xs.length
  | [], _ => rfl
  | x :: xs, i => by simp [enumD, enumD_len xs]
theorem zipD_get : ∀ (xs ys : List D) (i : Nat) (d : D), (zipD xs ys)[i]? = some d → ∃ x y, xs[i]? = some x ∧ ys[i]? = some y ∧ d = .tup [x, y]
  | [], ys, i, d, e => by simp [zipD] at e
  | x :: xs, [], i, d, e => by simp [zipD] at e
  | x :: xs, y :: ys, 0, d, e => by
    simp only [zipD, List.getElem?_cons_zero, Option.some.injEq] at e
    exact ⟨x, y, rfl, rfl, e.symm⟩
  | x :: xs, y :: ys, i + 1, d, e => by
    simp only [zipD, List.getElem?_cons_succ] at e ⊢
    exact zipD_get xs ys i d e
theorem enumD_get : ∀ (xs : List D) (k i : Nat) (d : D), (enumD k xs)[i]? = some d → ∃ x, xs[i]? = some x ∧ d = .tup [.int ((k + i : Nat) : Int), x]
  | [], k, i, d, e => by simp [enumD] at e
  | x :: xs, k, 0, d, e => by
    simp only [enumD, List.getElem?_cons_zero, Option.some.injEq] at e
    exact ⟨x, rfl, e.symm⟩
  | x :: xs, k, i + 1, d, e => by
    simp only [enumD, List.getElem?_cons_succ] at e ⊢
    obtain ⟨y, h1, h2⟩ := enumD_get xs (k + 1) i d e
    exact ⟨y, h1, by rw [h2]; congr 3; omega⟩
def dZip (ta : DTA) : DTI := fun E env G Q => ta E env G fun xs G1 => ∃ a b as bs, xs = [a, b] ∧ iterD G1 a = some as ∧ iterD G1 b = some bs ∧ Q (zipD as bs) (fun G' => iterD G' a = some as ∧ iterD G' b = some bs) G1
def dEnum (ta : DTA) : DTI := fun E env G Q => ta E env G fun xs G1 => ∃ a as, xs = [a] ∧ iterD G1 a = some as ∧ Q (enumD 0 as) (fun G' => iterD G' a = some as) G1
section
variable {X : Cx} {W : WX} {pos p tpos : Pos} {tg e e2 : Expr} {te : DTE} {ta : DTA}
theorem qi_it (he : QE X T W e te) : QI X T W tg e (dIter te) :=
  PI.imp (pi_S he) fun σ H R ⟨env, F, G, E, P, hg, hs, hx, ht, hq⟩ => ⟨env, F, G, E, _, hg, hs, hx, ht, fun d F1 G1 v1 H1 ⟨ds, ed, p⟩ s1 g1 r1 => by
    obtain ⟨ek, vs, rd, rl⟩ := srcD g1 r1 ed
    refine ⟨_, vs, ek, rd, hq ds _ F1 G1 H1 _ p s1 g1 fun i F2 G2 H2 s2 g2 gd => ?_⟩
    obtain ⟨_, vs2, rd2, rl2⟩ := srcD g2 (RelD.step s2 d r1) gd
    have hl := rl2.length
    constructor
    · intro d' e'
      obtain ⟨x, ex, rx⟩ := rl2.get e'
      cases hk : kD d v1 with
      | l a =>
        rw [hk] at rd2
        exact ⟨⟨vs2, x, rd2, ex⟩, fun y H3 ⟨eH, hy⟩ => ⟨F2, by rw [eH]; exact ⟨Step.refl, g2, by have := hy vs2 rd2; rw [ex] at this; cases this; exact rx⟩⟩⟩
      | t a =>
        rw [hk] at rd2
        exact ⟨⟨vs2, x, rd2, ex⟩, fun y H3 ⟨eH, hy⟩ => ⟨F2, by rw [eH]; exact ⟨Step.refl, g2, by have := hy vs2 rd2; rw [ex] at this; cases this; exact rx⟩⟩⟩
      | s z =>
        rw [hk] at rd2
        have ez : vs2 = signV z := rd2
        subst ez
        have hi : i < z.cps.size := by
          have := (List.getElem?_eq_some_iff.mp ex).1
          simpa [signV] using this
        refine ⟨hi, ?_⟩
        rintro y H3 ⟨rfl, c, hc, ey⟩
        refine ⟨F2, Step.refl, g2, ?_⟩
        have : (signV z)[i]? = some y := by rw [ey]; simp [signV, hc]
        rw [ex] at this
        cases this
        exact rx
    · intro e'
      subst e'
      cases hk : kD d v1 with
      | l a => rw [hk] at rd2; exact ⟨vs2, rd2, Nat.le_of_eq hl.symm⟩
      | t a => rw [hk] at rd2; exact ⟨vs2, rd2, Nat.le_of_eq hl.symm⟩
      | s z =>
        rw [hk] at rd2
        show z.cps.size ≤ _
        rw [hl, show vs2 = signV z from rd2]
        simp [signV]⟩
theorem iterOk_rng {K : PySem.W.Frag} {F : FS} {G : DG} {H : Hp} (lo : Int) (n : Nat) : IterOk K T F G H (Itr lo n) (intsFrom lo n) fun _ => True := fun i F1 G1 H1 s1 g1 _ => by
  constructor
  · intro d e
    have hi : i < n := by
      have := (List.getElem?_eq_some_iff.mp e).1
      rwa [intsFrom_len] at this
    rw [intsFrom_get n lo i hi] at e
    cases e
    exact ⟨hi, fun x H2 ⟨eH, ex⟩ => ⟨F1, by rw [eH]; exact ⟨Step.refl, g1, ex⟩⟩⟩
  · intro e
    rw [intsFrom_len] at e
    exact Nat.le_of_eq e.symm
theorem qi_range1 (hg : Gl X "range") (hm : X.mg "range" = none) (ha : QA X T W [e] ta) (hs : starEach [e] X.env = [(false, eval e X.env)] := by rfl) : QI X T W tg (.Call (.Name "range" p) [e] [] pos) (dRange1 ta) :=
  PI.imp (pi_range1 hg hm ha hs) fun σ H R ⟨env, F, G, E, P, hg, hs, hx, ht, hq⟩ => ⟨env, F, G, E, _, hg, hs, hx, ht, fun ds F1 G1 vs H1 ⟨hi, er, b3, b4, p⟩ s1 g1 r1 => by
    subst er
    obtain ⟨v, r, rfl, ev, er⟩ := r1
    have e1 : v = .int hi := ev
    have e2 : r = [] := er
    subst e1 e2
    exact ⟨hi, rfl, b3, b4, hq _ _ F1 G1 H1 _ p s1 g1 (iterOk_rng 0 _)⟩⟩
theorem qi_range2 (hg : Gl X "range") (hm : X.mg "range" = none) (ha : QA X T W [e, e2] ta) (hs : starEach [e, e2] X.env = [(false, eval e X.env), (false, eval e2 X.env)] := by rfl) (hs2 : starEach [e2] X.env = [(false, eval e2 X.env)] := by rfl) :
    QI X T W tg (.Call (.Name "range" p) [e, e2] [] pos) (dRange2 ta) :=
  PI.imp (pi_range2 hg hm ha hs hs2) fun σ H R ⟨env, F, G, E, P, hg, hs, hx, ht, hq⟩ => ⟨env, F, G, E, _, hg, hs, hx, ht, fun ds F1 G1 vs H1 ⟨lo, hi, er, b, p⟩ s1 g1 r1 => by
    subst er
    obtain ⟨v, r, rfl, ev, v2, r2, rfl, ev2, er⟩ := r1
    have e1 : v = .int lo := ev
    have e2 : v2 = .int hi := ev2
    have e3 : r2 = [] := er
    subst e1 e2 e3
    exact ⟨lo, hi, rfl, b, hq _ _ F1 G1 H1 _ p s1 g1 (iterOk_rng lo _)⟩⟩
theorem qi_zip {elts : List Expr} {kk : Nat} (hg : Gl X "zip") (hm : X.mg "zip" = none) (ha : QA X T W [e, e2] ta)
    (hs : starEach [e, e2] X.env = (false, eval e X.env) :: starEach [e2] X.env := by rfl) (hpl : (backTo pos (starEach [e2] X.env)).any (·.1) = false := by rfl) :
    QI X T W (.Tuple elts kk tpos) (.Call (.Name "zip" p) [e, e2] [] pos) (dZip ta) :=
  PI.imp (pi_Z hg hm ha hs hpl) fun σ H R ⟨env, F, G, E, P, hg, hs, hx, ht, hq⟩ => ⟨env, F, G, E, _, hg, hs, hx, ht, fun ds F1 G1 vs H1 ⟨a, b, as, bs, er, ea, eb, p⟩ s1 g1 r1 => by
    subst er
    obtain ⟨v, r, rfl, rv, v2, r2, rfl, rv2, er⟩ := r1
    have e3 : r2 = [] := er
    subst e3
    obtain ⟨ek, us, rd, rl⟩ := srcD g1 rv ea
    obtain ⟨ek2, us2, rd2, rl2⟩ := srcD g1 rv2 eb
    refine ⟨kD a v, kD b v2, us, us2, by rw [← ek, ← ek2], rd, rd2, hq _ _ F1 G1 H1 _ p s1 g1 fun i F2 G2 H2 s2 g2 gd => ?_⟩
    obtain ⟨_, ws, rd3, rl3⟩ := srcD g2 (RelD.step s2 a rv) gd.1
    obtain ⟨_, ws2, rd4, rl4⟩ := srcD g2 (RelD.step s2 b rv2) gd.2
    have l3 := rl3.length
    have l4 := rl4.length
    constructor
    · intro d e
      have hlt := (List.getElem?_eq_some_iff.mp e).1
      rw [zipD_len] at hlt
      obtain ⟨x, y, ex, ey, rfl⟩ := zipD_get as bs i d e
      obtain ⟨vx, evx, rx⟩ := rl3.get ex
      obtain ⟨vy, evy, ry⟩ := rl4.get ey
      refine ⟨⟨ws, ws2, rd3, rd4, by omega⟩, ?_⟩
      rintro z H3 ⟨T, x', y', rfl, hT, rfl, f1, f2⟩
      have q1 := f1 ws rd3
      have q2 := f2 ws2 rd4
      rw [evx] at q1
      rw [evy] at q2
      cases q1
      cases q2
      exact ⟨_, Step.new hT, g2.new hT, relD_newTup g2 hT ⟨_, _, rfl, rx, _, _, rfl, ry, rfl⟩⟩
    · intro e
      rw [zipD_len] at e
      exact ⟨ws, ws2, rd3, rd4, by omega⟩⟩
theorem qi_enum {elts : List Expr} {kk : Nat} (hg : Gl X "enumerate") (hm : X.mg "enumerate" = none) (ha : QA X T W [e] ta) (hs : starEach [e] X.env = [(false, eval e X.env)] := by rfl) :
    QI X T W (.Tuple elts kk tpos) (.Call (.Name "enumerate" p) [e] [] pos) (dEnum ta) :=
  PI.imp (pi_E hg hm ha hs) fun σ H R ⟨env, F, G, E, P, hg, hs, hx, ht, hq⟩ => ⟨env, F, G, E, _, hg, hs, hx, ht, fun ds F1 G1 vs H1 ⟨a, as, er, ea, p⟩ s1 g1 r1 => by
    subst er
    obtain ⟨v, r, rfl, rv, er⟩ := r1
    have e3 : r = [] := er
    subst e3
    obtain ⟨ek, us, rd, rl⟩ := srcD g1 rv ea
    refine ⟨kD a v, us, by rw [← ek], rd, hq _ _ F1 G1 H1 _ p s1 g1 fun i F2 G2 H2 s2 g2 gd => ?_⟩
    obtain ⟨_, ws, rd3, rl3⟩ := srcD g2 (RelD.step s2 a rv) gd
    have l3 := rl3.length
    constructor
    · intro d e
      have hlt := (List.getElem?_eq_some_iff.mp e).1
      rw [enumD_len] at hlt
      obtain ⟨x, ex, rfl⟩ := enumD_get as 0 i d e
      obtain ⟨vx, evx, rx⟩ := rl3.get ex
      refine ⟨⟨ws, rd3, by omega⟩, ?_⟩
      rintro z H3 ⟨T, x', rfl, hT, rfl, f1⟩
      have q1 := f1 ws rd3
      rw [evx] at q1
      cases q1
      exact ⟨_, Step.new hT, g2.new hT, relD_newTup g2 hT ⟨_, _, rfl, (show V.int _ = V.int _ by rw [Nat.zero_add]), _, _, rfl, rx, rfl⟩⟩
    · intro e
      rw [enumD_len] at e
      exact ⟨ws, rd3, by omega⟩⟩
end
/-! ### comprehensions -/
abbrev QTs (X : Cx) (T : LT) (W : WX) (es : List Expr) (t : DTT) : Prop := PTs X es (liftT X.K T W t)
theorem PTs.imp {X : Cx} {es : List Expr} {t t' : TT} (h : PTs X es t) (k : ∀ σ H Q, t' σ H Q → t σ H Q) : PTs X es t' := ⟨fun pins s σ H Q I w => h.run pins s σ H Q I (k σ H Q w)⟩
theorem qts_nil {X : Cx} {W : WX} : QTs X T W [] dYes := PTs.imp pts_nil fun σ H Q ⟨env, F, G, E, P, hg, hs, hx, ht, hq⟩ => hq true F G H ht Step.refl hg
theorem qts_one {X : Cx} {W : WX} {c : Expr} {t : DTT} (h : QT X T W c t) : QTs X T W [c] t := pts_one h
section
variable {X : Cx} {W : WX} {elt tg iter : Expr} {ifs : List Expr} {scope : Scope} {own : List (Str × Nat)} {pos : Pos} {wi : DTI} {g : Tg} {tt : DTT} {te : DTE}
theorem lc_lift {vs : List Nat} (hv : tgIn g vs = true) {σ : L2.St} {H : Hp} {Q : VK} (h : liftE X.K T W (dLc wi g tt te vs) σ H Q) : tLc (liftI X.K T W wi) (vTg X.K g) (liftT X.K T WF tt) (liftE X.K T WF te) vs σ H Q := by
  obtain ⟨env, F, G, E, P, hg, hs, hx, ht, hq⟩ := h
  refine ⟨env, F, G, E, _, hg, hs, hx, ht, fun items guard F1 G1 H1 J p s1 g1 ok D1 hD => ?_⟩
  refine lc_word hv p.1 g1 (hs.step s1) ok hD p.2 fun ys F2 G2 H2 ws p2 s2 g2 e2 f2 gd2 rel => ?_
  exact hq (.lst ys) (fadd F2 D1) G2 _ H2 p2 (s1.trans (s2.frz hD)) (g2.frz gd2 e2 rfl) ⟨D1, ws, rfl, ⟨.of e2, .inl rfl⟩, RelDs.kept (fun b o f e => ⟨.inr f, o, e, rfl⟩) ys rel⟩
theorem lcB_lift {vs : List Nat} (hv : tgIn g vs = true) {σ : L2.St} {H : Hp} {Q : VK} (h : liftE X.K T W (dLcB wi g tt te vs) σ H Q) : tLc (liftI X.K T W wi) (vTg X.K g) (liftT X.K T WF tt) (liftE X.K T WF te) vs σ H Q := by
  obtain ⟨env, F, G, E, P, hg, hs, hx, ht, hq⟩ := h
  refine ⟨env, F, G, E, _, hg, hs, hx, ht, fun items guard F1 G1 H1 J p s1 g1 ok D1 hD => ?_⟩
  refine lc_word hv p.1 g1 (hs.step s1) ok hD p.2 fun ys F2 G2 H2 ws p2 s2 g2 e2 f2 gd2 rel => ?_
  exact hq (.ref D1) F2 _ _ H2 (p2 D1 gd2) (s1.trans (s2.trk hD)) (g2.trk f2 gd2 e2 rfl ⟨ws, rfl, rel⟩) rfl
theorem q_lc (own : List (Str × Nat)) (hc : X.calm = true) (hN : X.N.Nodup) (hi : QI X T W tg iter wi) (ok : BlkOk X.N X.env.scope scope own) (hv : tgIn g (own.map (·.2)) = true)
    (hg : ∀ (s : Shared) (H : Hp) (C : Addr) (cl : List (Str × Addr)) (fp : List Addr), PG (X.blk s H scope (compEnvC scope cl C X.env) fp) tg (vTg X.K g)) (ht : ∀ (s : Shared) (H : Hp) (C : Addr) (cl : List (Str × Addr)) (fp : List Addr), QTs (X.blk s H scope (compEnvC scope cl C X.env) fp) T WF ifs tt)
    (he : ∀ (s : Shared) (H : Hp) (C : Addr) (cl : List (Str × Addr)) (fp : List Addr), QE (X.blk s H scope (compEnvC scope cl C X.env) fp) T WF elt te) (hs : ∀ x, foldedSetIterable iter X.env x = pure x := by intro _; rfl) :
    QE X T W (.ListComp elt [⟨tg, iter, ifs, 0⟩] scope pos) (dLc wi g tt te (own.map (·.2))) := PE.imp (pe_lc hc hN hi ok hg ht he hs) fun σ H Q h => lc_lift hv h
theorem q_lcB (own : List (Str × Nat)) (hc : X.calm = true) (hN : X.N.Nodup) (hi : QI X T W tg iter wi) (ok : BlkOk X.N X.env.scope scope own) (hv : tgIn g (own.map (·.2)) = true)
    (hg : ∀ (s : Shared) (H : Hp) (C : Addr) (cl : List (Str × Addr)) (fp : List Addr), PG (X.blk s H scope (compEnvC scope cl C X.env) fp) tg (vTg X.K g)) (ht : ∀ (s : Shared) (H : Hp) (C : Addr) (cl : List (Str × Addr)) (fp : List Addr), QTs (X.blk s H scope (compEnvC scope cl C X.env) fp) T WF ifs tt)
    (he : ∀ (s : Shared) (H : Hp) (C : Addr) (cl : List (Str × Addr)) (fp : List Addr), QE (X.blk s H scope (compEnvC scope cl C X.env) fp) T WF elt te) (hs : ∀ x, foldedSetIterable iter X.env x = pure x := by intro _; rfl) :
    QE X T W (.ListComp elt [⟨tg, iter, ifs, 0⟩] scope pos) (dLcB wi g tt te (own.map (·.2))) := PE.imp (pe_lc hc hN hi ok hg ht he hs) fun σ H Q h => lcB_lift hv h
variable {i : Nat} {y : Str} {py spos : Pos}
theorem asg_lift {t : DTE} {tv : TE} (h : ∀ σ H Q, liftE X.K T W t σ H Q → tv σ H Q) {D : Ends} {σ : L2.St} {H : Hp} (hw : liftS X.K T W (sSet i t) D σ H) : tAsg tv (gName i) D σ H := by
  obtain ⟨env, F, G, E, DE, hg, hs, hx, ht, hn, hr⟩ := hw
  exact h _ _ _ ⟨env, F, G, E, _, hg, hs, hx, ht, fun d F1 G1 v1 H1 p s1 g1 r1 => hn _ _ G1 _ H1 p s1 g1 ((hs.step s1).set r1)⟩
theorem qs_setLc (own : List (Str × Nat)) (hc : X.calm = true) (hN : X.N.Nodup) (hy : X.N[i]? = some y) (hyl : X.env.scope.names.lookup y = some .local)
    (hsw : swapsWith (.ListComp elt [⟨tg, iter, ifs, 0⟩] scope pos) (some (.Name y py)) spos.line X.env = pure true) (hi : QI X T W tg iter wi) (ok : BlkOk X.N X.env.scope scope own) (hv : tgIn g (own.map (·.2)) = true)
    (hg : ∀ (s : Shared) (H : Hp) (C : Addr) (cl : List (Str × Addr)) (fp : List Addr), PG (X.blk s H scope (compEnvC scope cl C X.env) fp) tg (vTg X.K g)) (ht : ∀ (s : Shared) (H : Hp) (C : Addr) (cl : List (Str × Addr)) (fp : List Addr), QTs (X.blk s H scope (compEnvC scope cl C X.env) fp) T WF ifs tt)
    (he : ∀ (s : Shared) (H : Hp) (C : Addr) (cl : List (Str × Addr)) (fp : List Addr), QE (X.blk s H scope (compEnvC scope cl C X.env) fp) T WF elt te) (hs : ∀ x, foldedSetIterable iter X.env x = pure x := by intro _; rfl) :
    QS X T W (.Assign [.Name y py] (.ListComp elt [⟨tg, iter, ifs, 0⟩] scope pos) spos) (sSet i (dLc wi g tt te (own.map (·.2)))) := PS.imp (ps_setLc hc hN hy hyl hsw hi ok hg ht he hs) fun D σ H h => asg_lift (fun _ _ _ => lc_lift hv) h
theorem qs_setLcB (own : List (Str × Nat)) (hc : X.calm = true) (hN : X.N.Nodup) (hy : X.N[i]? = some y) (hyl : X.env.scope.names.lookup y = some .local)
    (hsw : swapsWith (.ListComp elt [⟨tg, iter, ifs, 0⟩] scope pos) (some (.Name y py)) spos.line X.env = pure true) (hi : QI X T W tg iter wi) (ok : BlkOk X.N X.env.scope scope own) (hv : tgIn g (own.map (·.2)) = true)
    (hg : ∀ (s : Shared) (H : Hp) (C : Addr) (cl : List (Str × Addr)) (fp : List Addr), PG (X.blk s H scope (compEnvC scope cl C X.env) fp) tg (vTg X.K g)) (ht : ∀ (s : Shared) (H : Hp) (C : Addr) (cl : List (Str × Addr)) (fp : List Addr), QTs (X.blk s H scope (compEnvC scope cl C X.env) fp) T WF ifs tt)
    (he : ∀ (s : Shared) (H : Hp) (C : Addr) (cl : List (Str × Addr)) (fp : List Addr), QE (X.blk s H scope (compEnvC scope cl C X.env) fp) T WF elt te) (hs : ∀ x, foldedSetIterable iter X.env x = pure x := by intro _; rfl) :
    QS X T W (.Assign [.Name y py] (.ListComp elt [⟨tg, iter, ifs, 0⟩] scope pos) spos) (sSet i (dLcB wi g tt te (own.map (·.2)))) := PS.imp (ps_setLc hc hN hy hyl hsw hi ok hg ht he hs) fun D σ H h => asg_lift (fun _ _ _ => lcB_lift hv) h
end
end DL

namespace DL
open PySem PySem.Spec PyProof.Rows L2
/-! ### try with several clauses «except C as n» (one name n in all of them) -/
abbrev TSx := Addr → Value → Option Addr → TS
/-- leaving a clause the name is gone -/
def endsN (i : Nat) (D : Ends) : Ends := { nx := fun σ H => D.nx (σ.set i none) H, rt := D.rt, bk := fun σ H => D.bk (σ.set i none) H, ct := fun σ H => D.ct (σ.set i none) H }
def wAll (K : PySem.W.Frag) (i : Nat) (Wo : WX) (D : Ends) : List (Value × TSx) → WX
  | [] => Wo
  | (c, ts) :: r => fun cls d σ H => ∃ b, PySem.W.exmOne K cls c = some b ∧ (b = true → ∀ a, H a = none → ts a cls d (endsN i D) (σ.set i (some (.ref a))) H) ∧ (b = false → wAll K i Wo D r cls d σ H)
inductive HdN (X : Cx) (n : Str) : List ExceptHandler → List (Value × TSx) → Prop
  | nil : HdN X n [] []
  | cons {x : Str} {c : Value} {ts : TSx} {st : Stmt} {sts : List Stmt} {p1 p2 : Pos} {hds : List ExceptHandler} {l : List (Value × TSx)} (hx : Names X x c)
      (hsu : ∀ (a : Addr) (oe : Obj) (cls : Value) (d : Option Addr) (pn : List (Addr × Obj)), L2N.Zn cls d oe → (∃ vs, oe.data = .fields vs) → PSs (X.suite a ((a, oe) :: pn)) (st :: sts) (ts a cls d)) (r : HdN X n hds l) :
      HdN X n (.ExceptHandler (some (.Name x p1)) (some n) (st :: sts) p2 :: hds) ((c, ts) :: l)
section
variable {X : Cx} {body : List Stmt} {hd1 : ExceptHandler} {hds : List ExceptHandler} {l : List (Value × TSx)} {pos : Pos} {tb : WX → TS} {Wo : WX} {n : Str} {i : Nat}
theorem ps_tryN (hstk : X.stack = X.env :: X.outer) (hfrm : X.env.frame = some X.env.locals) (nd : X.N.Nodup) (hi : X.N[i]? = some n) (hk : X.env.kindOf n = some .local) (tk : L2N.Takes X Wo)
    (hb : ∀ (W : WX) (pn : List (Addr × Obj)) (xe : Value → Shared → Prop), L2N.Takes (X.tr pn xe) W → PassesOwn (model X.prog X.w) X.A X.env xe → PSs (X.tr pn xe) body (tb W))
    (hh : HdN X n (hd1 :: hds) l) : PS X (.Try body (hd1 :: hds) [] [] pos) (fun D σ H => tb (wAll X.K i Wo D l) D σ H) := by
  constructor
  intro pins s σ H D I hw
  have okX := I.ok
  have frX : X.A.frames = some (X.env :: X.outer) := okX.frames.trans (by rw [hstk])
  apply wpAny_Try_except
  have run := (hb (wAll X.K i Wo D l) (X.pn ++ pins) (fun e t1 => wpAny (model X.prog X.w) X.A (noteFrame e X.env) (fun _ t2 => wpAny (model X.prog X.w) X.A (setFlight e none)
    (fun _ t3 => wpAny (model X.prog X.w) X.A (handleBy e X.env (hd1 :: hds)) (SP X pins D) X.xe t3) X.xe t2) X.xe t1) ?caught PassesOwn.looking).run [] s σ H D (I.toTry _) hw
  case caught =>
    rintro u s' ⟨a, B, sI, pins', σ', H', cls, d, rfl, J', nb, up, sky, na, eos, ag, w⟩
    have J : Inv X pins σ' H' sI := J'.ofTry okX
    rw [show (X.tr (X.pn ++ pins) _).stack = X.env :: X.outer from hstk] at sky
    show wpAny (model X.prog X.w) X.A (noteFrame (.ref a) X.env) _ _ _
    apply L2N.Sky.land L2N.Zn.steady frX hfrm sky
    intro hq flq upq
    have Jq : Inv X pins σ' H' { s' with heap := hq } := J.landed nb flq.1 (up.trans upq) eos ag
    obtain ⟨oq, vq, getq, zq, dq⟩ := flq.there
    have nfr : a ∉ frs (X.env :: X.outer) := fun hm => by
      obtain ⟨_, o', e', hnf⟩ := flq.2.2.1.mem hm
      rw [getq] at e'
      cases e'
      exact hnf _ dq
    have nL : a ≠ X.env.locals := fun z => nfr (List.mem_filterMap.mpr ⟨X.env, List.mem_cons_self, by rw [hfrm, z]⟩)
    have nF : a ∉ X.fs := fun hm => by
      obtain ⟨ev, hev, q⟩ := List.mem_filterMap.mp hm
      exact nfr (List.mem_filterMap.mpr ⟨ev, List.mem_cons_of_mem _ hev, q⟩)
    have Sq := Jq.suite getq dq na nL nF
    suffices go : ∀ {hs : List ExceptHandler} {ls : List (Value × TSx)}, HdN X n hs ls → wAll X.K i Wo D ls cls d σ' H' → wpAny (model X.prog X.w) X.A (handleBy (.ref a) X.env hs) (SP X pins D) X.xe { s' with heap := hq } from go hh w
    intro hs ls hk'
    induction hk' with
    | nil =>
      intro w
      apply wpAny_handleBy_nil
      obtain ⟨_, _, _, oe, vs, tb', _, _, he, _, hd, h1, _⟩ := id flq
      unfold PySem.passOn
      refine wpAny_bind (wpAny_field he hd h1 ?_)
      rw [if_neg (show ¬ ((Value.ref tb' == Value.none) = true) from by simp)]
      have out : wpAny (model X.prog X.w) X.A (setFlight (.ref a) X.env.frame) (fun _ t4 => wpAny (model X.prog X.w) X.A (throw (.ref a) : Sem Flow) (SP X pins D) X.xe t4) X.xe { s' with heap := hq } := by
        rw [hfrm]
        exact HandSPX.setFlight_upZ flq fun hr hhr upr => wpAny_throw (tk _ _ ⟨a, B, sI, pins, σ', H', cls, d, rfl, J, nb, (up.trans upq).trans upr, .inr (.inr (by rw [hstk]; exact hhr)), na, eos, ag, w⟩)
      first
        | exact wpAny_bind (wpAny_pure (wpAny_bind out))
        | exact wpAny_bind out
    | @cons x c ts st sts p1 p2 hds2 l2 hx hsu r ih =>
      rintro ⟨b, hb1, hyes, hno⟩
      refine wpAny_handleBy_cons (codeAny_handlers_test ?_) (by intro q; cases q)
      have look : PySem.W.Looks (model X.prog X.w) hq (typeOf (.ref a)) cls := fun A' Q' E' t k q => wpAny_typeOf_ref (k _ _ getq) (by rw [zq.1]; exact q)
      have named : ∀ {Q' : Value → Shared → Prop} {E' : Value → Shared → Prop}, Q' c { s' with heap := hq } → wpAny (model X.prog X.w) (X.A.mark (some (.ref a))) (eval (.Name x p1) X.env) Q' E' { s' with heap := hq } := fun {Q' E'} q => by
        obtain ⟨hgl, hdbg, hm | ⟨hm, hv, hnn⟩⟩ := hx
        · exact ld_glob (X := X.suite a ((a, oq) :: (X.pn ++ pins))) Sq hgl hm q hdbg
        · exact ld_blt (X := X.suite a ((a, oq) :: (X.pn ++ pins))) Sq hgl hm hv q hnn hdbg
      refine named ((PySem.W.exm_one (M := model X.prog X.w) Jq.kIn look hb1).here ?_)
      cases b with
      | false => exact ih (hno rfl)
      | true =>
        refine codeAny_handlers_suite_as (HandSPX.lands_againZ flq fun hr flr upr => ?_)
        have Jr : Inv X pins σ' H' { s' with heap := hr } := J.landed nb flr.1 ((up.trans upq).trans upr) eos ag
        obtain ⟨oR, vR, getR, zR, dR⟩ := flr.there
        have Sr := Jr.suite getR dR na nL nF
        refine store_ok (X := X.suite a ((a, oR) :: (X.pn ++ pins))) (v := .ref a) Sr nd hi (.inl hk) rfl (fun s5 S5 => ?_) (.inr hk)
        refine wpAny_mono ((hsu a oR cls d (X.pn ++ pins) zR ⟨_, dR⟩).run [] s5 _ H' _ S5 (hyes rfl a na)) (fun f s6 hsp => ?_) (fun _ _ z => False.elim z)
        have drop : ∀ {σ6 : L2.St} {H6 : Hp} {Q' : Shared → Prop}, Inv (X.suite a ((a, oR) :: (X.pn ++ pins))) [] σ6 H6 s6 → (∀ s7, Inv X pins (σ6.set i none) H6 s7 → Q' s7) →
            wpAny (model X.prog X.w) X.A (do bindName X.env n .none; unbindBehindTheSuite X.env n p2) (fun _ s7 => Q' s7) X.xe s6 := fun {σ6 H6 Q'} S6 q => gone_ok (S6.unsuite okX) nd hi hk q
        cases f with
        | ret u =>
          obtain ⟨v6, σ6, H6, S6, r6, q6⟩ := hsp
          exact drop S6 fun s7 J7 => ⟨_, _, _, J7, r6, q6⟩
        | _ =>
          obtain ⟨σ6, H6, S6, q6⟩ := hsp
          exact drop S6 fun s7 J7 => ⟨_, _, J7, q6⟩
  refine wpAny_mono run (fun f s1 hsp => ?_) (fun _ _ q => q)
  cases f with
  | next =>
    obtain ⟨σ', H', J', q⟩ := hsp
    exact wpAny_execs_nil ⟨σ', H', J'.ofTry okX, q⟩
  | ret u =>
    obtain ⟨v, σ', H', J', r, q⟩ := hsp
    exact ⟨v, σ', H', J'.ofTry okX, r, q⟩
  | brk =>
    obtain ⟨σ', H', J', q⟩ := hsp
    exact ⟨σ', H', J'.ofTry okX, q⟩
  | cont =>
    obtain ⟨σ', H', J', q⟩ := hsp
    exact ⟨σ', H', J'.ofTry okX, q⟩
end
end DL

namespace DL
open PySem PySem.Spec PyProof.Rows L2 LamX
/-! ### a lambda of no parameter handed to a def (exceptions with context None) -/
def lamXe (X : Cx) (A : Around) (outer : List Env) (s : Shared) (H : Hp) (E : XK) (scope : Scope) (f c' : Addr) : Value → Shared → Prop := fun e t =>
  wpAny (model X.prog X.w) (A.deeper (lamEnv X scope s.heap.objs.size f c')) (leaving (lamEnv X scope s.heap.objs.size f c') e) (fun _ t' => L2N.CX X.prog X.w outer H s E e t') (fun e' t' => L2N.CX X.prog X.w outer H s E e' t') t
abbrev lamN (X : Cx) (A : Around) (outer : List Env) (s : Shared) (H : Hp) (E : XK) (scope : Scope) (f c' : Addr) : Cx := (lamCx X A outer s H E scope f c').tr [] (lamXe X A outer s H E scope f c')
theorem takes_lam {X : Cx} {A : Around} {outer : List Env} {s : Shared} {H : Hp} {E : XK} {scope : Scope} {f c' : Addr} : L2N.Takes (lamN X A outer s H E scope f c') (fun cls d _ H' => E cls d H') := L2N.takes_of rfl rfl rfl rfl
abbrev DefX (X : Cx) (Ng : List Str) (x : Str) (sg : Scope) (g : Addr) (cdg : Value) (s : Shared) (H : Hp) : Cx := cxOf C8.CX0 X.prog X.w X.K X.mg X.base Ng x sg g cdg X.A X.stack s H C8.E0
section
variable {X : Cx} {pins : List (Addr × Obj)} {σ : L2.St} {H : Hp} {s : Shared}
theorem lam_runs {Ng : List Str} {x : Str} {sg : Scope} {g f c' : Addr} {cdg pm ctv : Value} {params : Arguments} {body : Expr} {scope : Scope} {k i : Nat} {a : Str} {pn : List (Addr × Obj)} {xe : Value → Shared → Prop} {W : WX} {E : XK} {tb : TE} {p1 p2 : Pos}
    (I : Inv X pins σ H s) (L : LamS X.env.scope scope) (hf : s.heap.get? f = some (PySem.W.kla_obj "<lambda>" (X.env.qual ++ "<lambda>") params body scope (cloFrom X.env.cells scope.names []) pm c' ctv)) (hfn : H f = none) (hfr : f ∉ frs X.stack)
    (hbind : bindArgs (PySem.W.kla_fn "<lambda>" (X.env.qual ++ "<lambda>") params body scope (cloFrom X.env.cells scope.names []) pm (.ref c') ctv) ⟨[], []⟩ = pure [])
    (tk : L2N.Takes ((DefX X Ng x sg g cdg s H).tr pn xe) W) (hW : ∀ cls d σ' H', E cls d H' → W cls d σ' H') (hr : Room (k + 1) (X.A.deeper (envOfC x sg s.heap.objs.size g cdg)))
    (hbody : ∀ (A : Around) (outer : List Env) (s : Shared) (H : Hp), Room k (A.deeper (lamEnv X scope s.heap.objs.size f c')) → PE (lamN X A outer s H E scope f c') body tb)
    (hN : Ng[i]? = some a) (hv : Vis sg a) (hd : (a == ("__debug__" : Str)) = false) (hcd : (a == ("__classdict__" : Str)) = false) :
    PE ((DefX X Ng x sg g cdg s H).tr pn xe) (.Call (.Name a p1) [] [] p2) (fun σZ HZ Q => σZ[i]? = some (some (.ref f)) ∧ HZ c' = some (CodeO c' (X.env.qual ++ "<lambda>")) ∧ tb σ HZ Q) := by
  constructor
  rintro pinsZ sZ σZ HZ Q IZ ⟨hs, hc, ht⟩
  apply wpAny_Call_Name_kw
  refine thn ((pe_var (pos := p1) (i := i) hN hv hd hcd).run pinsZ sZ σZ HZ (fun v H1 => v = .ref f ∧ H1 = HZ) IZ ⟨.ref f, hs, rfl, rfl⟩) ?_
  rintro u s1 ⟨v, H1, I1, r1, rfl, eH⟩
  rw [eH] at I1
  obtain rfl : u = Value.ref f := r1
  have obf := I1.base.keep f _ hf hfn hfr (fun z => nomatch (show f ∈ ([] : List Addr) from z))
  refine PySem.W.callWith_F0 ⟨_, _, _, _, obf⟩ ?_
  obtain ⟨⟨oc, vs, t, hoc, hdc, hvc⟩, _, _⟩ := I1.hok c' _ hc
  have rc : codeAny (model X.prog X.w) (X.A.deeper (envOfC x sg s.heap.objs.size g cdg)) (.call (.ref f) ⟨[], []⟩) (CR (L2N.CX X.prog X.w) (envOfC x sg s.heap.objs.size g cdg :: X.stack) X.prog X.w HZ s1 Q E) s1 := by
    apply PySem.W.kla_callFunE hr.depth obf rfl L.co L.gen rfl ⟨c', oc, vs, t, rfl, hoc, hdc, hvc⟩
    rw [hbind]
    refine wpAny_pure (wpAny_newFunctionEnv (fun y hy => (L.own y hy).2) (fun y hy => absurd hy (by simp)) (fun hq hns hsb => ⟨I1.nolimit.fresh _ hsb, ?_⟩) L.kind)
    show codeAny _ _ (.expr body (lamEnv X scope s1.heap.objs.size f c')) _ _
    have keeps : ∀ b o, s1.heap.get? b = some o → hq.get? b = some o := fun b o e => hsb.extBut b o (Nat.ne_of_lt (Heap.lt_size e)) (Heap.get?_push_of_some _ e)
    have J := (lam_start2 (E := E) (f := f) (c' := c') (tk := s1.toks + ([] : List (Str × Value)).length) I L I1.env0 hr.hd I1.base hns keeps).toTry (lamXe X (X.A.deeper (envOfC x sg s.heap.objs.size g cdg)) (envOfC x sg s.heap.objs.size g cdg :: X.stack) s1 HZ E scope f c')
    refine PySem.W.kla_codeExpr (wpAny_mono ((hbody _ _ s1 HZ (hr.deeper _)).run [] _ _ HZ Q J ht) ?_ fun e s' hq => hq)
    rintro v s' ⟨w', H', J', rv, q⟩
    exact ⟨w', H', J'.os, J'.bare, J'.base, J'.hok, rv, q⟩
  refine wpAny_call (codeAny_mono rc fun r s' hq => ?_)
  cases r with
  | error e => exact L2N.passes_call tk hW pinsZ σZ HZ s1 e s' I1 hq
  | ok fl =>
    cases fl with
    | ret u => exact I1.after hq
    | _ => exact False.elim hq
end
/-- what the def makes of the lambda's reading -/
def Gives (X : Cx) (Ng : List Str) (x : Str) (sg : Scope) (g : Addr) (cdg : Value) (bg : List Stmt) (a : Str) (q : Str) (TT : (XK → Hp → VK → Prop) → Hp → VK → Prop) (k : Nat) : Prop :=
  ∀ (f c' : Addr) (s : Shared) (H : Hp) (Q : VK) (tl : XK → Hp → VK → Prop), Room (k + 1) (X.A.deeper (envOfC x sg s.heap.objs.size g cdg)) →
    (∀ (W : WX) (pn : List (Addr × Obj)) (xe : Value → Shared → Prop) (E : XK) (p1 p2 : Pos), L2N.Takes ((DefX X Ng x sg g cdg s H).tr pn xe) W → (∀ cls d σ' H', E cls d H' → W cls d σ' H') →
      PE ((DefX X Ng x sg g cdg s H).tr pn xe) (.Call (.Name a p1) [] [] p2) (fun σZ HZ Q => σZ[0]? = some (some (.ref f)) ∧ HZ c' = some (CodeO c' q) ∧ tl E HZ Q)) →
    H c' = some (CodeO c' q) → TT tl H Q → ∃ t, PSs (DefX X Ng x sg g cdg s H).nox bg t ∧ t { nx := fun _ H' => Q .non H', rt := Q } (L2.start Ng [.ref f]) H
theorem pe_lamto {X : Cx} {T : LT} {TT : (XK → Hp → VK → Prop) → Hp → VK → Prop} {x a : Str} {g c P : Addr} {k : Nat} {pg : Arguments} {bg : List Stmt} {sg : Scope} {dV kV doc pm cdv ct oc : Value} {an od : Option Addr} {osl : Array (Option Value)} {Ng : List Str}
    {params : Arguments} {body : Expr} {scope : Scope} {t : XK → TE} {p lpos pos : Pos} (hg : Gl X x) (hm : X.mg x = some (.ref g)) (hk : PySem.W.keepIn X.K (.ref g) = true)
    (lk : X.K.lookup g = some ⟨oc, od, .func (PySem.W.fnOf x x pg bg sg dV kV doc pm an cdv ct), osl⟩) (hcg : PySem.W.codeIn X.K cdv x = true) (hb : L2.Binds X.K (PySem.W.fnOf x x pg bg sg dV kV doc pm an cdv ct) [a] []) (Sg : FnScope Ng [a] sg) (hNg : Ng[0]? = some a) (hva : Vis sg a)
    (hG : Gives X Ng x sg g cdv bg a (X.env.qual ++ "<lambda>") TT k)
    (TB : TabB X.base X.mg c P) (hcode : X.env.code = .ref c) (hmT : (P, X.env.qual ++ "<lambda>") ∈ T) (hu : ∀ p ∈ T, p.1 = P → p.2 = X.env.qual ++ "<lambda>") (hr : Room (k + 2) X.A) (L : LamS X.env.scope scope) (hdef : defaultsOf params X.env = ([], []))
    (hbind : ∀ (q : Str) (cl : List (Str × Addr)) (pm cv ctv : Value), bindArgs (PySem.W.kla_fn "<lambda>" q params body scope cl pm cv ctv) ⟨[], []⟩ = pure [])
    (hbody : ∀ (A : Around) (outer : List Env) (s : Shared) (H : Hp) (E : XK) (f c' : Addr), Room k (A.deeper (lamEnv X scope s.heap.objs.size f c')) → PE (lamN X A outer s H E scope f c') body (t E))
    (hdb : (x == ("__debug__" : Str)) = false) (hd : (a == ("__debug__" : Str)) = false) (hcd : (a == ("__classdict__" : Str)) = false) :
    PE X (.Call (.Name x p) [.Lambda params body scope lpos] [] pos) (tLam T TT t) := by
  constructor
  rintro pins s σ H Q I ⟨hT, h⟩
  apply wpAny_Call_Name_kw
  refine ld_glob I hg hm ?_ hdb
  refine PySem.W.callWith_K (h₀ := X.base) I.ok.mod.kin hk ?_ (by rfl) (by rfl)
  show wpAny _ _ (spliced ((false, eval (.Lambda params body scope lpos) X.env) :: backTo pos (starEach [] X.env))) _ _ s
  apply Calls.spliced_cons
  refine lam_make2 I TB hcode hmT hu hT hdef (L.has I.ok) ?_
  intro f c' pm' ctv H1 s' I1 eN T1 hf hfn hfr hco
  refine Calls.spliced_nil ⟨I1.kIn, ?_⟩
  have rc : codeAny (model X.prog X.w) X.A (.call (.ref g) ⟨[.ref f], []⟩) (CR C8.CX0 X.stack X.prog X.w H1 s' Q C8.E0) s' := by
    refine run_ofS (N := Ng) (ps := [a]) (us := [.ref f]) (vs := [.ref f]) lk hcg Sg hr I1.env0 (hb s' [.ref f] I1.kIn rfl) (.cons rfl .nil) rfl fun hr' => ?_
    obtain ⟨t', ht', hq'⟩ := hG f c' s' H1 Q (fun E H' Q' => t E σ H' Q') hr' (fun W pn xe E p1 p2 tk hW => lam_runs (i := 0) I1 L hf hfn hfr (hbind _ _ _ _ _) tk hW hr' (fun A outer s H hr2 => hbody A outer s H E f c' hr2) hNg hva hd hcd) hco (h H1 eN T1)
    exact ⟨t', ht'.nox, hq'⟩
  refine wpAny_call (codeAny_mono rc fun r s2 hq => ?_)
  cases r with
  | error e => exact (show False from hq).elim
  | ok fl =>
    cases fl with
    | ret u => exact I1.after hq
    | _ => exact False.elim hq
end DL

namespace DL
open PySem PySem.Spec PyProof.Rows L2 LamX HotX
variable {T : LT}
/-! ### list comprehensions while an exception is handled -/
theorem next_list_end_hot {prog : Program} {w : World} {A : Around} {E : Value → Shared → Prop} {s : Shared} {it l x1 : Addr} {i : Nat} {items : Array Value} {Q : Option Value → Shared → Prop} (hot : HotAt A x1 s.heap) (hx1 : x1 ≠ it)
    (hit : s.heap.IsListIter it l i) (hl : s.heap.IsList l items) (hx : items[i]? = none) (hQ : ∀ h', Heap.ExtBut it s.heap h' → Q none { s with heap := h' }) : wpAny (model prog w) A (pyNext (.ref it)) Q E s := by
  obtain ⟨o, ho, hc, hd⟩ := id hit
  obtain ⟨ol, hol, _, nl, hdl⟩ := hl
  obtain ⟨hh, o1, vs1, h1, d1, c1⟩ := hot
  unfold pyNext
  refine wpAny_bind (wpAny_attempt (wpAny_callSpecial?_slot (name := Str.ofString "__next__") hit.typeIs slot_listiter_next (wpAny_call_entry slot_listiter_next hit.typeIs entry_listiter_next ?_ (args_listiter_next _))))
  show wpAny _ _ (field (.ref it) 0 >>= _) _ _ s
  apply wpAny_bind
  refine wpAny_field ho hd (x := .ref l) rfl ?_
  show wpAny _ _ (if (Value.ref l == Value.none) = true then _ else _) _ _ s
  rw [if_neg (show ¬ ((Value.ref l == Value.none) = true) from Bool.false_ne_true)]
  apply wpAny_bind
  refine wpAny_field ho hd (x := .int i 0) rfl ?_
  apply wpAny_bind
  refine wpAny_seqItems hol hdl ?_
  simp only [Int.toNat_natCast, hx]
  refine wpAny_bind (wpAny_rule (wpAny_bind (wpAny_setField ho hd (by simp) ?_)))
  show wpAny _ _ (newExc (.type "StopIteration") [] >>= _) _ _ _
  apply wpAny_bind
  simp only [newExc, newTuple]
  refine wpAny_bind (wpAny_newObj_type ?_ (by size_fits))
  refine wpAny_bind (m := firstArgMember _ _) (wpAny_of_eq (a := Value.none) (by first | rfl | (simp only [firstArgMember]; rfl)) ?_)
  refine wpAny_newObj_type ?_ (by size_fits)
  have hu := Heap.SameBut.update s.heap it (Obj.mapFields (·.setIfInBounds 0 Value.none))
  have g1 := (hu.2 x1 hx1).trans h1
  refine raiseNew_hot ⟨hh, o1, vs1, Heap.get?_push_of_some _ (Heap.get?_push_of_some _ g1), d1, c1⟩ (Nat.ne_of_lt (Heap.lt_size (Heap.get?_push_of_some _ g1))) (Heap.get?_push_size _ rfl) rfl (by simp; omega) ?_
  refine wpAny_bind (wpAny_isInstance (T := "StopIteration") (b := true) ⟨_, Heap.get?_update_self _ (Heap.get?_push_size _ rfl) rfl, rfl⟩ isSubtype_stop ?_)
  refine wpAny_pure (hQ _ fun b ob hb e => ?_)
  have e1 := (hu.extBut b ob hb e)
  rw [Heap.get?_update_other _ _ (Nat.ne_of_gt (Heap.lt_size (Heap.get?_push_of_some _ e1)))]
  exact Heap.get?_push_of_some _ (Heap.get?_push_of_some _ e1)
structure TurnQ (P : Program) (w : World) (K : PySem.W.Frag) (tg : Expr) (J : It) (fp : List Addr) (it : Addr) (tn : Nat → Heap → Prop) : Prop where
  obj : ∀ i h, tn i h → ∀ b ∈ fp, ∃ o, h.get? b = some o ∧ ∀ v, o.data ≠ .cell v
  keep : ∀ i h h', tn i h → (∀ b ∈ fp, ∀ o, h.get? b = some o → h'.get? b = some o) → tn i h'
  item : ∀ (X : Cx), X.prog = P → X.w = w → X.K = K → ∀ (i : Nat) (pins : List (Addr × Obj)) (s : Shared) (σ : L2.St) (H : Hp) (E : Value → Shared → Prop), Inv X pins σ H s → (∀ b ∈ fp, FpOk X pins H b) → tn i s.heap → J.go i H →
    wpAny (model P w) X.A (pyNext (.ref it)) (fun r t => ∃ u, r = some u ∧ wpAny (model P w) X.A (letOwnedTupleGo tg (.ref it) u) (fun _ t2 => ∃ x H', Inv X pins σ H' t2 ∧ RelV x u ∧ J.yld i H x H' ∧ tn (i + 1) t2.heap ∧ ∀ b ∈ fp, H' b = none) E t) E s
  done : ∀ (X : Cx), X.prog = P → X.w = w → X.K = K → ∀ (x1 : Addr) (i : Nat) (pins : List (Addr × Obj)) (s : Shared) (σ : L2.St) (H : Hp) (E : Value → Shared → Prop), HotAt X.A x1 s.heap → x1 ∉ fp → Inv X pins σ H s → (∀ b ∈ fp, FpOk X pins H b) → tn i s.heap → J.stop i H →
    wpAny (model P w) X.A (pyNext (.ref it)) (fun r t => r = none ∧ Inv X pins σ H t) E s
  self : ∀ (A : Around) (i : Nat) (s : Shared) (Q : Value → Shared → Prop) (E : Value → Shared → Prop), tn i s.heap → Q (.ref it) s → wpAny (model P w) A (pyIter (.ref it)) Q E s
theorem turnQ_list {P : Program} {w : World} {K : PySem.W.Frag} {tg : Expr} (a it : Addr) : TurnQ P w K tg (Itl K a) [it] it (fun i h => h.IsListIter it a i) where
  obj := (turn_list (P := P) (w := w) (K := K) (tg := tg) a it).obj
  keep := (turn_list (P := P) (w := w) (K := K) (tg := tg) a it).keep
  self := (turn_list (P := P) (w := w) (K := K) (tg := tg) a it).self
  item := by
    rintro X rfl rfl rfl i pins s σ H E I hf st ⟨xs, x, hq, hx⟩
    obtain ⟨its, rv, p, _⟩ := I.list hq
    obtain ⟨u, hu, ru⟩ := rv.get hx
    obtain ⟨f0, f1, f2, f3, f4, f5⟩ := hf it (by simp)
    apply wpAny_pyNext_list_item st p.isList (x := u) (by simpa using hu)
    intro h' st' sb
    obtain ⟨o, e, c, d⟩ := id st'
    refine ⟨u, rfl, go_of (s := { s with heap := h' }) e c d (by decide) ⟨x, H, I.turned (t' := s.toks) (fun b o hb e => (sb.2 b hb).trans e) f0 f1 f3 f4 f5, ru, ⟨rfl, fun ys hy => ?_⟩, st', fun b hb => (hf b hb).1⟩⟩
    rw [I.list_inj hy hq]
    exact hx
  done := by
    rintro X rfl rfl rfl x1 i pins s σ H E hot hn I hf st ⟨xs, hq, hx⟩
    obtain ⟨its, rv, p, _⟩ := I.list hq
    obtain ⟨f0, f1, f2, f3, f4, f5⟩ := hf it (by simp)
    have hl := rv.length
    exact next_list_end_hot hot (fun z => hn (by simp [z])) st p.isList (by simp; omega) fun h' eb => ⟨rfl, I.turned (t' := s.toks) (fun b o hb e => eb b o hb e) f0 f1 f3 f4 f5⟩
def PIQ (X : Cx) (tg iter : Expr) (wi : TI) : Prop := ∀ (pins : List (Addr × Obj)) (s : Shared) (σ : L2.St) (H : Hp) (R : It → Hp → Prop), Inv X pins σ H s → wi σ H R →
  wpAny (model X.prog X.w) X.A (eval iter X.env) (fun v t => wpAny (model X.prog X.w) X.A (pyIter v) (fun itv t2 =>
    ∃ (it : Addr) (fp : List Addr) (tn : Nat → Heap → Prop) (J : It) (H' : Hp), itv = .ref it ∧ Inv X pins σ H' t2 ∧ TurnQ X.prog X.w X.K tg J fp it tn ∧ tn 0 t2.heap ∧ (∀ b ∈ fp, FpOk X pins H' b) ∧ R J H') X.xe t) X.xe s
theorem piq_list {X : Cx} {tg l : Expr} {tl : TE} (hl : PE X l tl) : PIQ X tg l (fun σ H R => tl σ H fun x H1 => ∃ a, x = .ref a ∧ (∃ xs, SqL X.K H1 a xs) ∧ R (Itl X.K a) H1) := by
  intro pins s σ H R I h
  refine thn (hl.run pins s σ H _ I h) ?_
  rintro v s1 ⟨x, H1, I1, r1, a, rfl, ⟨xs, hq⟩, q⟩
  cases r1
  obtain ⟨its, rv, p, _⟩ := I1.list hq
  refine (begins_list a its.toArray).iter _ _ _ _ s1 _ p.isList ?_
  refine ⟨s1.heap.objs.size, [s1.heap.objs.size], _, _, H1, rfl, I1.kept (t' := s1.toks) fun b o e => Heap.get?_push_of_some _ e, turnQ_list a _, ⟨_, Heap.get?_push_size _ rfl, rfl, rfl⟩, fun b hb => ?_, q⟩
  rw [List.mem_singleton.mp hb]
  exact I1.fpOk (Nat.le_refl _) I1.fresh
section
variable {X : Cx} {elt tg iter : Expr} {ifs : List Expr} {scope : Scope} {own : List (Str × Nat)} {pos : Pos} {wi : TI} {g : TG} {tt : TT} {te : TE}
theorem pe_lcQ (hot : L2H.HotC X) (nd : X.N.Nodup) (hi : PIQ X tg iter wi) (ok : BlkOk X.N X.env.scope scope own)
    (hg : ∀ (s : Shared) (H : Hp) (C : Addr) (cl : List (Str × Addr)) (fp : List Addr), PG (X.blk s H scope (compEnvC scope cl C X.env) fp) tg g) (ht : ∀ (s : Shared) (H : Hp) (C : Addr) (cl : List (Str × Addr)) (fp : List Addr), PTs (X.blk s H scope (compEnvC scope cl C X.env) fp) ifs tt)
    (he : ∀ (s : Shared) (H : Hp) (C : Addr) (cl : List (Str × Addr)) (fp : List Addr), PE (X.blk s H scope (compEnvC scope cl C X.env) fp) elt te) (hs : ∀ x, foldedSetIterable iter X.env x = pure x := by intro _; rfl) :
    PE X (.ListComp elt [⟨tg, iter, ifs, 0⟩] scope pos) (tLc wi g tt te (own.map (·.2))) := by
  constructor
  intro pins s σ H Q I h
  rw [eval_ListComp]
  have capt : ∀ y ∈ scope.names, y.2 = .free → ∃ c, X.env.cells.lookup y.1 = some c := fun y hy e => (ok.free y hy e).elim (fun k => I.ok.has _ (.inl k)) fun k => I.ok.has _ (.inr k)
  apply wpAny_comprehension_free rfl hs (closure_ok capt) ok.kind (fun y hy e => by rw [ok.uniq y hy, e])
  refine thn (hi pins s σ H _ I h) fun xv s1 hx => thn hx ?_
  rintro itv s2 ⟨it, fp, tn, J, H2, rfl, I2, Tn, st2, f2, q⟩
  refine wpAny_newObj_type (newEnv_comp ?_) (by show 0 ≤ sizeLine; decide)
  obtain ⟨Dn, hD⟩ : ∃ Dn, s2.heap.objs.size = Dn := ⟨_, rfl⟩
  have hDn : H2 Dn = none := I2.hok.fresh (Nat.le_of_eq hD)
  rw [hD]
  obtain ⟨W, ⟨m0, w0⟩, turn⟩ := q Dn hDn
  obtain ⟨s3, hs3⟩ : ∃ s3 : Shared, { s2 with heap := s2.heap.push { cls := .type "list", data := .seq ([] : List Value).toArray } } = s3 := ⟨_, rfl⟩
  have h3 : s3.heap = s2.heap.push { cls := .type "list", data := .seq ([] : List Value).toArray } := by rw [← hs3]
  have I3 : Inv X pins σ (upd H2 Dn (.lst [])) s3 := by
    rw [← hs3]
    apply I2.laid (t' := s2.toks) (fun b o e => Heap.get?_push_of_some _ e) (Nat.le_of_eq hD)
    refine ⟨Nat.zero_le _, [], 0, .nil, ?_⟩
    rw [← hD]
    exact Heap.get?_push_size _ rfl
  have f3 : ∀ b ∈ fp, FpOk X pins (upd H2 Dn (.lst [])) b ∧ b < s3.heap.objs.size := fun b hb => by
    obtain ⟨ob, eb, _⟩ := Tn.obj _ _ st2 b hb
    have hlt := Heap.lt_size eb
    refine ⟨⟨?_, (f2 b hb).2⟩, by rw [h3, Heap.size_push]; exact Nat.lt_succ_of_lt hlt⟩
    rw [upd_ne (by rw [← hD]; exact Nat.ne_of_lt hlt)]
    exact (f2 b hb).1
  have st3 : tn 0 s3.heap := Tn.keep _ _ _ st2 fun b _ o e => by rw [h3]; exact Heap.get?_push_of_some _ e
  have I4 := block_start I3 ok nd f3
  have pg := hg s3 (upd H2 Dn (.lst [])) s3.heap.objs.size (cellsFrom (s3.heap.objs.size + 1) scope.names (cloFrom X.env.cells scope.names [])) fp
  have pt := ht s3 (upd H2 Dn (.lst [])) s3.heap.objs.size (cellsFrom (s3.heap.objs.size + 1) scope.names (cloFrom X.env.cells scope.names [])) fp
  have pe := he s3 (upd H2 Dn (.lst [])) s3.heap.objs.size (cellsFrom (s3.heap.objs.size + 1) scope.names (cloFrom X.env.cells scope.names [])) fp
  rw [hs3]
  show codeAny _ _ (.compStart (.ListComp elt [⟨tg, iter, ifs, 0⟩] scope pos) 0 (.ref it) (.ref Dn) (compEnvC scope (cellsFrom (s3.heap.objs.size + 1) scope.names (cloFrom X.env.cells scope.names [])) s3.heap.objs.size X.env)) (compPost (model X.prog X.w) X.A X.xe none (EP X pins σ Q) (.ref Dn) s3.heap.objs.size) { s3 with heap := pushCells (s3.heap.push { cls := .type "dict", data := .dict #[] }) scope.names }
  have nfp : ∀ b ∈ fp, (upd H2 Dn (.lst [])) b = none := fun b hb => (f3 b hb).1.1
  -- the handled exception
  obtain ⟨px, ⟨hh, vx, dx, cx⟩, hpx⟩ := hot
  obtain ⟨getx, freex, nlx, nfx, _⟩ := I3.pin px (List.mem_append_left _ hpx)
  have nstk : px.1 ∉ frs X.stack := fun hm => by
    rcases I3.ok.stk with e1 | ⟨e1, e2⟩
    · rw [e1] at hm; exact nfx hm
    · rw [e1] at hm
      unfold frs at hm
      rw [List.filterMap_cons] at hm
      rw [e2] at hm
      rcases List.mem_cons.mp hm with z | z
      · exact nlx z
      · exact nfx z
  have nfpx : px.1 ∉ fp := fun hm => (f3 _ hm).1.2.2.2.2.2 px (List.mem_append_left _ hpx) rfl
  obtain ⟨ce, hce⟩ : ∃ ce, compEnvC scope (cellsFrom (s3.heap.objs.size + 1) scope.names (cloFrom X.env.cells scope.names [])) s3.heap.objs.size X.env = ce := ⟨_, rfl⟩
  rw [hce] at I4 pg pt pe ⊢
  have cL : ce.locals = s3.heap.objs.size := by rw [← hce]; rfl
  obtain ⟨H3, hH3⟩ : ∃ H3, upd H2 Dn (.lst []) = H3 := ⟨_, rfl⟩
  rw [hH3] at I3 I4 pg pt pe w0 nfp f3 freex
  obtain ⟨s4, hs4⟩ : ∃ s4 : Shared, { s3 with heap := pushCells (s3.heap.push { cls := .type "dict", data := .dict #[] }) scope.names } = s4 := ⟨_, rfl⟩
  rw [hs4] at I4 ⊢
  have st4 : tn 0 s4.heap := Tn.keep _ _ _ st3 fun b _ o e => by rw [← hs4]; exact pushCells_keeps _ _ _ _ (Heap.get?_push_of_some _ e)
  have fps : ∀ {σ' : L2.St} {H' : Hp} {t : Shared}, Inv (X.blk s3 H3 scope ce fp) [] σ' H' t → (∀ b ∈ fp, H' b = none) → ∀ b ∈ fp, FpOk (X.blk s3 H3 scope ce fp) [] H' b := fun {σ' H' t} I' hn b hb =>
    ⟨hn b hb, (I'.ok.exf b hb).1, I'.ok.exfs b hb, .inl hb, fun x c e => (I'.ok.exf b hb).2 x c e, fun p hp => absurd (show p ∈ ([] : List (Addr × Obj)) ++ [] from hp) (by simp)⟩
  have loop : codeAny (model X.prog X.w) X.A (.compLoop (.ListComp elt [⟨tg, iter, ifs, 0⟩] scope pos) 0 (.ref it) (.ref Dn) ce) (compPost (model X.prog X.w) X.A X.xe none (EP X pins σ Q) (.ref Dn) s3.heap.objs.size) s4 := by
    refine compLoop_any (fun n t => ∃ i H', Inv (X.blk s3 H3 scope ce fp) [] (wipe σ (own.map (·.2))) H' t ∧ tn i t.heap ∧ (∀ b ∈ fp, H' b = none) ∧ W i n H') ?_ m0 ⟨0, H3, I4, st4, nfp, w0⟩
    rintro n s5 ⟨i, H5, I5, st5, n5, w5⟩
    rcases turn i n H5 w5 with ⟨stop, qq⟩ | ⟨go, Nx, hNx, step⟩
    · have hot5 : HotAt (X.blk s3 H3 scope ce fp).A px.1 s5.heap := ⟨hh, px.2, vx, I5.base.keep _ _ getx freex nstk nfpx, dx, cx⟩
      refine thnF (Tn.done (X.blk s3 H3 scope ce fp) rfl rfl rfl px.1 i [] s5 _ H5 (fun _ _ => False) hot5 nfpx I5 (fps I5 n5) st5 stop) ?_
      rintro r s6 ⟨rfl, I6⟩
      have I7 : Inv X pins σ H5 s6 := I3.call' (ch := fp) I6.os I6.base I6.hok I6.bare fun b hb => ⟨(f3 b hb).1.2.2.2.1, (f3 b hb).1.2.1, (f3 b hb).1.2.2.2.2.1, (f3 b hb).1.2.2.2.2.2⟩
      have nC : H5 s3.heap.objs.size = none := cL ▸ (show H5 ce.locals = none from I6.free)
      obtain ⟨m, hn, _⟩ := I6.loc
      have hn' : s6.heap.Ns s3.heap.objs.size m := cL ▸ (show s6.heap.Ns ce.locals m from hn)
      obtain ⟨k0, k1, k2, k3, k4, k5⟩ := I3.fpOk (Nat.le_refl _) nC
      exact ⟨m, hn', fun h'' sb => ⟨.ref Dn, H5, I7.turned (t' := s6.toks) (fun b o hb e => (sb.2 b hb).trans e) k0 k1 k3 k4 k5, rfl, qq⟩⟩
    · refine thnF (Tn.item (X.blk s3 H3 scope ce fp) rfl rfl rfl i [] s5 _ H5 (fun _ _ => False) I5 (fps I5 n5) st5 go) ?_
      rintro r s6 ⟨u, rfl, h6⟩
      refine thnF h6 ?_
      rintro _ s7 ⟨x, H7, I7, r7, y7, st7, n7⟩
      refine thnF (pg.run _ s7 _ H7 x u _ (I7.pinned (fps I7 n7) (Tn.obj _ _ st7)) r7 (step x H7 y7)) ?_
      rintro _ s8 ⟨σ8, H8, I8, hw8, q8⟩
      refine thnF (pt.run _ s8 σ8 H8 _ I8 q8) ?_
      rintro b s9 ⟨H9, I9, q9⟩
      have again : ∀ {t : Shared} {H' : Hp}, Inv (X.blk s3 H3 scope ce fp) ([] ++ pinsAt fp s7.heap) σ8 H' t → Nx H' → ∃ m, m < n ∧ ∃ i H', Inv (X.blk s3 H3 scope ce fp) [] (wipe σ (own.map (·.2))) H' t ∧ tn i t.heap ∧ (∀ b ∈ fp, H' b = none) ∧ W i m H' := fun {t H'} I' nx => by
        obtain ⟨m', hm, w'⟩ := hNx H' nx
        have pinned : ∀ b ∈ fp, ∀ o, s7.heap.get? b = some o → t.heap.get? b = some o ∧ H' b = none := fun b hb o e => by
          have z := I'.pin (b, o) (List.mem_append_right _ (List.mem_append_right _ (mem_pinsAt hb e)))
          exact ⟨z.1, z.2.1⟩
        refine ⟨m', hm, i + 1, H', (I'.unpinned (pins := [])).weak (by rw [← hw8, wipe_length]) (fun j v e => ?_), Tn.keep _ _ _ st7 fun b hb o e => (pinned b hb o e).1, fun b hb => ?_, w'⟩
        · rw [← hw8] at e
          exact (wipe_some e).1
        · obtain ⟨o, e, _⟩ := Tn.obj _ _ st7 b hb
          exact (pinned b hb o e).2
      cases b with
      | false => exact again I9 q9
      | true =>
        refine thnF (pe.run _ s9 σ8 H9 _ I9 q9) ?_
        rintro z s10 ⟨yv, H10, I10, r10, acc, hD10, hz10, nx⟩
        exact app_ok (X := X.blk s3 H3 scope ce fp) I10 hD10 hz10 r10 fun s11 I11 => again I11 nx
  exact codeAny_compStart_list loop (Tn.self X.A 0 _ _ _ st4 loop)
end
end DL

namespace DL
open PySem PySem.Spec PyProof.Rows L2 LamX HotX L2H
variable {T : LT}
/-! ### a def that is handed the handled exception itself -/
/-- the promise knows the exception p -/
abbrev SpT := Addr × Obj → List V → Hp → VK → Prop
structure FnT (P : Program) (w : World) (K : PySem.W.Frag) (mg : Str → Option Value) (base : Heap) (k : Nat) (f : Addr) (fd : FuncData) (ps : List Str) (sp : SpT) : Prop where
  len : ∀ p vs H Q, sp p vs H Q → vs.length = ps.length
  run : ∀ (p : Addr × Obj) (A : Around) (outer : List Env) (s : Shared) (H : Hp) (args : Args) (us : List Value) (vs : List V) (Q : VK), RoomH k A → Hot1 A p → PinOk outer H s p → Env0 P w K mg base A outer s H → BindsTo s fd args (ps.zip us) → Vals vs us → sp p vs H Q →
    codeAny (model P w) A (.call (.ref f) args) (CR C8.CX0 outer P w H s Q C8.E0) s
theorem fnT_of {P : Program} {w : World} {K : PySem.W.Frag} {mg : Str → Option Value} {base : Heap} {k : Nat} {x : Str} {params : Arguments} {body : List Stmt} {scope : Scope} {f : Addr} {fd : FuncData} {N ps : List Str} {sp : SpT}
    (F : FunD K x x params body scope [] [] f fd) (Sc : FnScope N ps scope) (len : ∀ p vs H Q, sp p vs H Q → vs.length = ps.length)
    (hbody : ∀ (cdv : Value) (A : Around) (outer : List Env) (s : Shared) (H : Hp) (vs : List V) (Q : VK) (p : Addr × Obj), Hot1 A p → RoomH k (A.deeper (envOfC x scope s.heap.objs.size f cdv)) → sp p vs H Q →
      ∃ t, PSs (cxH C8.CX0 P w K mg base N x scope f cdv A outer s H C8.E0 p) body t ∧ t { nx := fun _ H' => Q .non H', rt := Q } (L2.start N vs) H) : FnT P w K mg base (k + 1) f fd ps sp := by
  obtain ⟨oc, od, dV, kV, doc, pm, an, cdv, ct, osl, rfl, lk, hcd, _, _⟩ := F.ex
  refine ⟨len, ?_⟩
  intro p A outer s H args us vs Q hr hot hpin e0 hb r hsp
  have inK : K.In s.heap := e0.mod.kin.keeps fun b o e => (e0.bs b o e).1
  have nolim : s.heap.NoLimit := e0.mod.nolimit.keeps fun b o e => (e0.bs b o e).1
  apply codeAny_call_function hr.depth (inK _ _ lk) rfl Sc.co Sc.gen rfl (PySem.W.codeRec_of inK hcd)
  apply hb
  apply wpAny_newFunctionEnv_cells Sc.kind
  · rintro ⟨n, v⟩ hy
    rcases Sc.par n (List.of_mem_zip hy).1 with q | q
    · exact .inl q
    · exact .inr ⟨q, PySem.W.cellsFrom_some _ _ _ (.inl q)⟩
  · rintro env rfl s1 x1
    refine ⟨nolim.keeps x1.toInCall.keep, codeAny_func ?_⟩
    obtain ⟨t, ht, hq⟩ := hbody cdv A outer s H vs Q p hot (hr.deeper _) hsp
    refine wpAny_mono (ht.run [] s1 (L2.start N vs) H _ (inv_startH Sc hpin e0 (len _ _ _ _ hsp) r x1) hq) (fun fl s' hs => ?_) fun e s' hs => hs
    cases fl with
    | ret u =>
      obtain ⟨v, σ', H', J, rv, q⟩ := hs
      exact ⟨v, H', J.os, J.bare, J.base, J.hok, rv, q⟩
    | next =>
      obtain ⟨σ', H', J, q⟩ := hs
      exact ⟨.non, H', J.os, J.bare, J.base, J.hok, rfl, q⟩
    | brk => exact hs.elim fun _ z => z.elim fun _ z => False.elim z.2
    | cont => exact hs.elim fun _ z => z.elim fun _ z => False.elim z.2
theorem pe_callT {X : Cx} {k : Nat} {f : Addr} {fd : FuncData} {ps : List Str} {sp : SpT} {x : Str} {q pos : Pos} {e : Expr} {es : List Expr} {t : TA} {p : Addr × Obj} (F : FnT X.prog X.w X.K X.mg X.base k f fd ps sp) (hr : RoomH k X.A) (hot : Hot1 X.A p) (hp : p ∈ X.pn)
    (hg : Gl X x) (hm : X.mg x = some (.ref f)) (hk : PySem.W.keepIn X.K (.ref f) = true) (hb : L2.Binds X.K fd ps []) (ha : PA X (e :: es) t) (hdb : (x == ("__debug__" : Str)) = false := by decide) (he : starEach (e :: es) X.env = (false, eval e X.env) :: starEach es X.env := by rfl)
    (hpl : (backTo pos (starEach es X.env)).any (·.1) = false := by rfl) : PE X (.Call (.Name x q) (e :: es) [] pos) (fun σ H Q => t σ H fun vs H1 => sp p vs H1 Q) := by
  constructor
  intro pins s σ H Q I h
  apply wpAny_Call_Name_kw
  refine ld_glob I hg hm ?_ hdb
  refine PySem.W.callWith_K (h₀ := X.base) I.ok.mod.kin hk (thn (ha.run pos pins s σ H _ I h) ?_) he hpl
  rintro us s1 ⟨vs, H1, I1, r, q⟩
  refine ⟨I1.kIn, ?_⟩
  have b := hb s1 us I1.kIn (by rw [List.append_nil, ← r.length]; exact F.len _ _ _ _ q)
  rw [List.append_nil] at b
  obtain ⟨p1, p2, p3, p4, p5⟩ := I1.pin p (List.mem_append_left _ hp)
  refine wpAny_call (codeAny_mono (F.run p X.A X.stack s1 H1 ⟨us, []⟩ us vs Q hr hot ⟨p1, p2, fun hm => (List.mem_cons.mp (I1.stkSub p.1 hm)).elim p3 p4, p5⟩ I1.env0 b r q) fun r s' hq => ?_)
  cases r with
  | error e => exact (show False from hq).elim
  | ok fl =>
    cases fl with
    | ret u => exact I1.after hq
    | _ => exact False.elim hq
/-- isinstance(e, C), e pinned -/
theorem call_isP {X : Cx} {a D : Addr} {oe : Obj} (C : ExcC X.K D) (hz : Zc (.ref D) none oe) (hf : ∃ vs, oe.data = .fields vs) (hp : (a, oe) ∈ X.pn) : CallR X (.builtin "isinstance") (rIsE X.K D a) := by
  rintro pins s σ H xs us Q I r ⟨c, cv, b, rfl, hcv, e, q⟩
  cases r with
  | cons rx rr =>
    cases rr with
    | cons rt rr =>
      cases rr
      cases rx
      obtain rfl := hcv _ rt
      obtain ⟨hget, _⟩ := I.pin (a, oe) (List.mem_append.mpr (.inl hp))
      obtain ⟨vs, hv⟩ := hf
      have J : PySem.W.InstAt s.heap a oe D none := by
        obtain ⟨oc, od, oda, osl⟩ := oe
        obtain ⟨h1, h2⟩ := hz
        dsimp only at h1 h2 hv
        subst h1 h2 hv
        exact ⟨hget, rfl, rfl, trivial⟩
      exact PySem.W.kia_one (PySem.W.handS_kitx_exc C.hg C.hk C.hs C.hd C.ha C.hn C.ht C.hm) I.kIn J e (fun z => nomatch z) fun tk => ⟨.bl b, H, I.kept (t' := tk) fun _ _ z => z, rfl, q⟩
end DL

namespace DL
open PySem PySem.Spec PyProof.Rows L2 LamX HotX L2H
variable {T : LT}
theorem walks_hot {prog : Program} {w : World} {A : Around} {x1 : Addr} {o1 : Obj} {vs1 : Array Value} (hh : A.handled = some (.ref x1)) (d1 : o1.data = .fields vs1) (c1 : vs1[2]? = some .none) (I l : Addr) (hne : l ≠ I) (hx : x1 ≠ I) (items : Array Value) :
    Walks prog w A I [I, l, x1] [I] items.size (fun i v => items[i]? = some v) (fun i h => h.IsListIter I l i ∧ h.IsList l items ∧ h.get? x1 = some o1) where
  sub := fun b hb => by simp at hb; simp [hb]
  frame := fun _ _ _ st hk => ⟨st.1.at fun o e => hk I (by simp) o e, st.2.1.at fun o e => hk l (by simp) o e, hk x1 (by simp) _ st.2.2⟩
  item := fun i s Q E hi st hQ => by
    apply wpAny_pyNext_list_item st.1 st.2.1 (x := items[i]) (by simp [hi])
    intro h' hit' hs'
    exact hQ _ h' s.toks (by simp [hi]) ⟨hit', st.2.1.extBut hs'.extBut hne, (hs'.2 x1 hx).trans st.2.2⟩ fun b o hb e => hs'.extBut b o (fun h => hb (by simp [h])) e
  done := fun s Q E st hQ => next_list_end_hot ⟨hh, o1, vs1, st.2.2, d1, c1⟩ hx st.1 st.2.1 (by simp) fun h' he' => hQ h' s.toks fun b o hb e => he' b o (fun h => hb (by simp [h])) e
  self := fun _ _ _ _ st hQ => wpAny_pyIter_listiter st.1 hQ
theorem cr_sumQ {X : Cx} (hot : HotC X) : CallR X (.builtin "sum") (rSum X.K) := by
  rintro pins s σ H vs us Q I r ⟨a, ns, rfl, hs, q⟩
  obtain ⟨its, rv, hl, _⟩ := I.list hs
  rw [Vals.ref1 r]
  obtain ⟨p, ⟨hh, v1, e1, c1⟩, hp⟩ := hot
  have getp := (I.pin p (List.mem_append_left _ hp)).1
  have hi := rv.ints
  obtain ⟨xs, e⟩ := hi.allInts.items
  have hn : numsOf (intItems xs).toList = ns := by rw [← e]; exact hi.numsOf
  rw [nums_intItems] at hn
  have hl' := hl.isList
  rw [e] at hl'
  apply call_sum_walkG
  refine iter_intList hl' fun s2 es st hfp hlI => ?_
  subst es
  have hx : p.1 ≠ s.heap.objs.size := Nat.ne_of_lt (Heap.lt_size getp)
  refine ⟨_, _, _, _, _, _, numAt xs, rfl, walks_hot (A := X.A.in1) (o1 := p.2) hh e1 c1 _ a hlI hx (intItems xs), ⟨st.1, st.2, Heap.get?_push_of_some _ getp⟩, ?_, (fun _ _ => intItems_at), fun h' tk t' hk => ?_⟩
  · intro b hb
    simp only [List.mem_cons, List.not_mem_nil, or_false] at hb
    rcases hb with z | z | z
    · exact hfp b (by simp [z])
    · exact hfp b (by simp [z])
    · rw [z]; exact Heap.lt_size (Heap.get?_push_of_some _ getp)
  · rw [preSum_eq, List.take_of_length_le (by simp [intItems]), hn]
    exact ⟨.int _, H, I.kept (old_kept hk), ⟨_, rfl⟩, q⟩
end DL

namespace DL
open PySem PySem.Spec PyProof.Rows L2
variable {T : LT}
/-! ### built-ins by values -/
def allB : List D → Option (List Bool)
  | [] => some []
  | .bl b :: r => (allB r).map (b :: ·)
  | _ => none
def allI : List D → Option (List Int)
  | [] => some []
  | .int b :: r => (allI r).map (b :: ·)
  | _ => none
def allS : List D → Option (List String)
  | [] => some []
  | .str b :: r => (allS r).map (b :: ·)
  | _ => none
theorem allB_eq : ∀ {xs : List D} {bs : List Bool}, allB xs = some bs → xs = bs.map .bl
  | [], bs, h => by cases h; rfl
  | .bl b :: r, bs, h => by
    obtain ⟨cs, e, rfl⟩ := Option.map_eq_some_iff.mp h
    rw [allB_eq e, List.map_cons]
  | .non :: _, _, h => by cases h
  | .int _ :: _, _, h => by cases h
  | .str _ :: _, _, h => by cases h
  | .tup _ :: _, _, h => by cases h
  | .lst _ :: _, _, h => by cases h
  | .dct _ :: _, _, h => by cases h
  | .ref _ :: _, _, h => by cases h
  | .scr _ :: _, _, h => by cases h
theorem allI_eq : ∀ {xs : List D} {bs : List Int}, allI xs = some bs → xs = bs.map .int
  | [], bs, h => by cases h; rfl
  | .int b :: r, bs, h => by
    obtain ⟨cs, e, rfl⟩ := Option.map_eq_some_iff.mp h
    rw [allI_eq e, List.map_cons]
  | .non :: _, _, h => by cases h
  | .bl _ :: _, _, h => by cases h
  | .str _ :: _, _, h => by cases h
  | .tup _ :: _, _, h => by cases h
  | .lst _ :: _, _, h => by cases h
  | .dct _ :: _, _, h => by cases h
  | .ref _ :: _, _, h => by cases h
  | .scr _ :: _, _, h => by cases h
theorem allS_eq : ∀ {xs : List D} {bs : List String}, allS xs = some bs → xs = bs.map .str
  | [], bs, h => by cases h; rfl
  | .str b :: r, bs, h => by
    obtain ⟨cs, e, rfl⟩ := Option.map_eq_some_iff.mp h
    rw [allS_eq e, List.map_cons]
  | .non :: _, _, h => by cases h
  | .bl _ :: _, _, h => by cases h
  | .int _ :: _, _, h => by cases h
  | .tup _ :: _, _, h => by cases h
  | .lst _ :: _, _, h => by cases h
  | .dct _ :: _, _, h => by cases h
  | .ref _ :: _, _, h => by cases h
  | .scr _ :: _, _, h => by cases h
def pyLen (G : DG) : List D → Option D
  | [.str s] => if s.length ≤ 16000000 then some (.int s.length) else none
  | [x] => match asQ G x with
    | some xs => some (.int xs.length)
    | none => match asD G x with
      | some kvs => some (.int kvs.length)
      | none => none
  | _ => none
def pyInt1 (_ : DG) : List D → Option D
  | [.int i] => some (.int i)
  | [.bl b] => some (.int (if b then 1 else 0))
  | _ => none
def pySum (G : DG) : List D → Option D
  | [x] => (asL G x).bind fun xs => (allI xs).map fun ns => .int ns.sum
  | _ => none
def pyAll (G : DG) : List D → Option D
  | [x] => (asL G x).bind fun xs => (allB xs).map fun bs => .bl (bs.all id)
  | _ => none
def pyAny (G : DG) : List D → Option D
  | [x] => (asL G x).bind fun xs => (allB xs).map fun bs => .bl (bs.any id)
  | _ => none
def pyMin2 (_ : DG) : List D → Option D
  | [.int i, .int j] => some (.int (if j < i then j else i))
  | _ => none
def pyMax2 (_ : DG) : List D → Option D
  | [.int i, .int j] => some (.int (if j > i then j else i))
  | _ => none
def pyTup (G : DG) : List D → Option D
  | [x] => (asQ G x).map .tup
  | _ => none
def pyLst (G : DG) : List D → Option D
  | [x] => (asQ G x).map .lst
  | _ => none
def pyAbs (_ : DG) : List D → Option D
  | [.int i] => some (.int (if i < 0 then -i else i))
  | _ => none
theorem RelDs.one {K : PySem.W.Frag} {F : FS} {H : Hp} {x : D} {vs : List V} (r : RelDs K F H [x] vs) : ∃ v, vs = [v] ∧ RelD K F H x v := by
  obtain ⟨v, t, rfl, h, e⟩ := r
  have e : t = [] := e
  rw [e]
  exact ⟨v, rfl, h⟩
theorem RelDs.two {K : PySem.W.Frag} {F : FS} {H : Hp} {x y : D} {vs : List V} (r : RelDs K F H [x, y] vs) : ∃ v u, vs = [v, u] ∧ RelD K F H x v ∧ RelD K F H y u := by
  obtain ⟨v, t, rfl, h, r⟩ := r
  obtain ⟨u, rfl, h'⟩ := RelDs.one r
  exact ⟨v, u, rfl, h, h'⟩
section
variable {X : Cx}
theorem call_pyLen : CallR X (.builtin "len") (rDB X.K T pyLen) := by
  rintro pins s σ H xs us Q I rs ⟨F, G, ds, z, hg, r, e, q⟩
  unfold pyLen at e
  split at e
  · rename_i t
    obtain ⟨v, rfl, rv⟩ := r.one
    split at e
    · rename_i hl
      cases e
      exact call_len pins s σ H _ us Q I rs ⟨v, _, rfl, (by rw [show v = V.str (S t) from rv]; exact ⟨by rw [S_len]; exact small_line hl, rfl⟩), q _ _ H Step.refl hg (by rw [S_len]; rfl)⟩
    · cases e
  · rename_i x _
    obtain ⟨v, rfl, rv⟩ := r.one
    split at e
    · rename_i ys ey
      cases e
      obtain ⟨a, vs, rfl, h, k⟩ := asQ_ok hg rv ey
      refine call_len pins s σ H _ us Q I rs ⟨_, vs.length, rfl, h.imp (fun h => ⟨vs, h, rfl⟩) (fun h => ⟨vs, h, rfl⟩), q _ _ H Step.refl hg (by rw [← k.length]; rfl)⟩
    · split at e
      · rename_i kvs ek
        cases e
        obtain ⟨a, ws, rfl, h, k⟩ := asD_ok hg rv ek
        cases rs with
        | cons ru rt =>
          cases rt
          cases ru
          exact d_len I h fun t s' I' => ⟨.int ws.length, H, I', ⟨t, rfl⟩, q _ _ H Step.refl hg (by rw [k.length]; rfl)⟩
      · cases e
  · cases e
theorem call_pyInt1 : CallR X (.type "int") (rDB X.K T pyInt1) := by
  rintro pins s σ H xs us Q I rs ⟨F, G, ds, z, hg, r, e, q⟩
  unfold pyInt1 at e
  split at e
  · cases e
    obtain ⟨v, rfl, rv⟩ := r.one
    exact call_int1 pins s σ H _ us Q I rs (.inl ⟨_, by rw [show v = _ from rv], q _ _ H Step.refl hg rfl⟩)
  · cases e
    obtain ⟨v, rfl, rv⟩ := r.one
    exact call_int1 pins s σ H _ us Q I rs (.inr ⟨_, by rw [show v = _ from rv], q _ _ H Step.refl hg rfl⟩)
  · cases e
theorem sum_word {G : DG} {F : FS} {H : Hp} {ds : List D} {z : D} {xs : List V} (hg : RelG X.K T F G H) (r : RelDs X.K F H ds xs) (e : pySum G ds = some z) : ∃ (a : Addr) (ns : List Int), xs = [V.ref a] ∧ SqL X.K H a (ns.map V.int) ∧ z = .int ns.sum := by
  unfold pySum at e
  split at e
  · obtain ⟨v, rfl, rv⟩ := r.one
    obtain ⟨ys, ey, e⟩ := Option.bind_eq_some_iff.mp e
    obtain ⟨ns, en, rfl⟩ := Option.map_eq_some_iff.mp e
    obtain ⟨a, vs, rfl, h, k⟩ := asL_ok hg rv ey
    rw [allI_eq en] at k
    rw [k.ints] at h
    exact ⟨a, ns, rfl, .inl h, rfl⟩
  · cases e
theorem call_pySum (hc : X.calm = true) : CallR X (.builtin "sum") (rDB X.K T pySum) := by
  rintro pins s σ H xs us Q I rs ⟨F, G, ds, z, hg, r, e, q⟩
  obtain ⟨a, ns, ex, h, rfl⟩ := sum_word hg r e
  exact cr_sum hc pins s σ H xs us Q I rs ⟨a, ns, ex, h, q _ _ H Step.refl hg rfl⟩
theorem call_pySumQ (hc : L2H.HotC X) : CallR X (.builtin "sum") (rDB X.K T pySum) := by
  rintro pins s σ H xs us Q I rs ⟨F, G, ds, z, hg, r, e, q⟩
  obtain ⟨a, ns, ex, h, rfl⟩ := sum_word hg r e
  exact cr_sumQ hc pins s σ H xs us Q I rs ⟨a, ns, ex, h, q _ _ H Step.refl hg rfl⟩
theorem call_pyAll (hc : X.calm = true) : CallR X (.builtin "all") (rDB X.K T pyAll) := by
  rintro pins s σ H xs us Q I rs ⟨F, G, ds, z, hg, r, e, q⟩
  unfold pyAll at e
  split at e
  · obtain ⟨v, rfl, rv⟩ := r.one
    obtain ⟨ys, ey, e⟩ := Option.bind_eq_some_iff.mp e
    obtain ⟨bs, en, rfl⟩ := Option.map_eq_some_iff.mp e
    obtain ⟨a, vs, rfl, h, k⟩ := asL_ok hg rv ey
    rw [allB_eq en] at k
    rw [k.bls] at h
    exact cr_all hc pins s σ H _ us Q I rs ⟨a, bs, rfl, .inl h, q _ _ H Step.refl hg rfl⟩
  · cases e
theorem call_pyAny (hc : X.calm = true) : CallR X (.builtin "any") (rDB X.K T pyAny) := by
  rintro pins s σ H xs us Q I rs ⟨F, G, ds, z, hg, r, e, q⟩
  unfold pyAny at e
  split at e
  · obtain ⟨v, rfl, rv⟩ := r.one
    obtain ⟨ys, ey, e⟩ := Option.bind_eq_some_iff.mp e
    obtain ⟨bs, en, rfl⟩ := Option.map_eq_some_iff.mp e
    obtain ⟨a, vs, rfl, h, k⟩ := asL_ok hg rv ey
    rw [allB_eq en] at k
    rw [k.bls] at h
    exact cr_any hc pins s σ H _ us Q I rs ⟨a, bs, rfl, .inl h, q _ _ H Step.refl hg rfl⟩
  · cases e
theorem call_pyMin2 (hc : X.calm = true) : CallR X (.builtin "min") (rDB X.K T pyMin2) := by
  rintro pins s σ H xs us Q I rs ⟨F, G, ds, z, hg, r, e, q⟩
  unfold pyMin2 at e
  split at e
  · cases e
    obtain ⟨v, u, rfl, rv, ru⟩ := r.two
    exact call_min2 hc pins s σ H _ us Q I rs ⟨_, _, by rw [show v = _ from rv, show u = _ from ru], q _ _ H Step.refl hg rfl⟩
  · cases e
theorem call_pyMax2 (hc : X.calm = true) : CallR X (.builtin "max") (rDB X.K T pyMax2) := by
  rintro pins s σ H xs us Q I rs ⟨F, G, ds, z, hg, r, e, q⟩
  unfold pyMax2 at e
  split at e
  · cases e
    obtain ⟨v, u, rfl, rv, ru⟩ := r.two
    exact call_max2 hc pins s σ H _ us Q I rs ⟨_, _, by rw [show v = _ from rv, show u = _ from ru], q _ _ H Step.refl hg rfl⟩
  · cases e
theorem call_pyAbs : CallR X (.builtin "abs") (rDB X.K T pyAbs) := by
  rintro pins s σ H xs us Q I rs ⟨F, G, ds, z, hg, r, e, q⟩
  unfold pyAbs at e
  split at e
  · cases e
    obtain ⟨v, rfl, rv⟩ := r.one
    exact call_abs pins s σ H _ us Q I rs ⟨_, by rw [show v = _ from rv], q _ _ H Step.refl hg rfl⟩
  · cases e
theorem call_pyTup : CallR X (.type "tuple") (rDB X.K T pyTup) := by
  rintro pins s σ H xs us Q I rs ⟨F, G, ds, z, hg, r, e, q⟩
  unfold pyTup at e
  split at e
  · rename_i d
    obtain ⟨v, rfl, rv⟩ := r.one
    obtain ⟨ys, ey, rfl⟩ := Option.map_eq_some_iff.mp e
    cases d with
    | tup zs =>
      cases ey
      obtain ⟨a, vs, rfl, t, k⟩ := rv
      exact call_tuple_of pins s σ H _ us Q I rs ⟨a, vs, rfl, .inr ⟨t.sq, q _ _ H Step.refl hg ⟨a, vs, rfl, t, k⟩⟩⟩
    | lst zs =>
      obtain ⟨a, vs, rfl, h, k⟩ := asL_ok hg rv ey
      exact call_tuple_of pins s σ H _ us Q I rs ⟨a, vs, rfl, .inl ⟨.inl h, fun p hp => q _ _ _ (Step.new hp) (hg.new hp) (relD_newTup hg hp k)⟩⟩
    | scr ns =>
      cases ey
      obtain ⟨a, rfl, h⟩ := rv
      exact call_tuple_of pins s σ H _ us Q I rs ⟨a, ns.map V.int, rfl, .inl ⟨h.imp (fun h => h.1.rd) id, fun p hp => q _ _ _ (Step.new hp) (hg.new hp) (relD_newTup hg hp (relDs_ints ns))⟩⟩
    | ref b =>
      obtain ⟨a, vs, rfl, h, k⟩ := asL_ok hg rv ey
      exact call_tuple_of pins s σ H _ us Q I rs ⟨a, vs, rfl, .inl ⟨.inl h, fun p hp => q _ _ _ (Step.new hp) (hg.new hp) (relD_newTup hg hp k)⟩⟩
    | _ => cases ey
  · cases e
theorem call_pyLst : CallR X (.type "list") (rDB X.K T pyLst) := by
  rintro pins s σ H xs us Q I rs ⟨F, G, ds, z, hg, r, e, q⟩
  unfold pyLst at e
  split at e
  · obtain ⟨v, rfl, rv⟩ := r.one
    obtain ⟨ys, ey, rfl⟩ := Option.map_eq_some_iff.mp e
    obtain ⟨a, vs, rfl, h, k⟩ := asQ_ok hg rv ey
    exact call_list_of pins s σ H _ us Q I rs ⟨a, vs, rfl, h, fun p hp => q _ _ _ (Step.new hp) (hg.new hp) (relD_newLst hg hp k)⟩
  · cases e
end
/-! isinstance with a built-in class -/
def tyO : Option DO → Option String
  | some (.lst _) => some "list"
  | some (.dct _) => some "dict"
  | _ => none
def tyD (G : DG) : D → Option String
  | .non => some "NoneType"
  | .bl _ => some "bool"
  | .int _ => some "int"
  | .str _ => some "str"
  | .tup _ => some "tuple"
  | .lst _ => some "list"
  | .dct _ => some "dict"
  | .ref a => tyO (G a)
  | .scr _ => none
def isiB (t ty : String) : Bool := t == ty || (t == "bool" && ty == "int")
def pyIsi (ty : String) (G : DG) (x : D) : Option D := (tyD G x).map fun t => .bl (isiB t ty)
theorem kit_isi {K : PySem.W.Frag} {t ty : String} (ht : t ∈ ["NoneType", "bool", "int", "str", "tuple", "list", "dict"]) (hty : ty ∈ ["int", "bool", "str", "tuple", "list", "dict"]) : PySem.W.kitOne K (.type t) (.type ty) = some (isiB t ty) := by
  have all : ∀ t ∈ ["NoneType", "bool", "int", "str", "tuple", "list", "dict"], ∀ ty ∈ ["int", "bool", "str", "tuple", "list", "dict"], kitB t ty = some (isiB t ty) := by decide +kernel
  exact kit_ty (all t ht ty hty)
theorem Rs.tyL {K : PySem.W.Frag} {H : Hp} {a : Addr} {vs : List V} (h : Rs H a (.lst vs)) : TyX K H (.ref a) (.type "list") := by
  rcases h.rd with h | ⟨o, h⟩
  · exact .base (.lst h)
  · exact .base (.frz h)
theorem Rs.tyT {K : PySem.W.Frag} {H : Hp} {a : Addr} {vs : List V} (h : Rs H a (.tup vs)) : TyX K H (.ref a) (.type "tuple") := by
  rcases h.rd with h | ⟨o, h⟩
  · exact .base (.tup h)
  · exact .fTuple h
theorem Rs.tyD {K : PySem.W.Frag} {H : Hp} {a : Addr} {vs : List (Key × V)} (h : Rs H a (.dK vs)) : TyX K H (.ref a) (.type "dict") := by
  rcases h.rd with h | ⟨o, h⟩
  · exact .base (.dK h)
  · exact .fDict h
theorem tyD_ok {K : PySem.W.Frag} {F : FS} {G : DG} {H : Hp} {d : D} {v : V} {t : String} (hg : RelG K T F G H) (r : RelD K F H d v) (e : tyD G d = some t) : TyX K H v (.type t) ∧ t ∈ ["NoneType", "bool", "int", "str", "tuple", "list", "dict"] := by
  cases d with
  | non => cases e; rw [show v = _ from r]; exact ⟨.base .non, by decide⟩
  | bl b => cases e; rw [show v = _ from r]; exact ⟨.base (.bl b), by decide⟩
  | int b => cases e; rw [show v = _ from r]; exact ⟨.base (.int b), by decide⟩
  | str b => cases e; rw [show v = _ from r]; exact ⟨.base (.str _), by decide⟩
  | tup b =>
    cases e
    obtain ⟨a, vs, rfl, h, _⟩ := r
    refine ⟨?_, by decide⟩
    rcases h with ⟨h, _⟩ | ⟨o, its, n, hk, hc, _⟩
    · exact h.tyT
    · exact .kTuple hk hc
  | lst b =>
    cases e
    obtain ⟨a, vs, rfl, h, _⟩ := r
    exact ⟨h.1.tyL, by decide⟩
  | dct b =>
    cases e
    obtain ⟨a, vs, rfl, h, _⟩ := r
    exact ⟨h.1.tyD, by decide⟩
  | scr ns => cases e
  | ref a =>
    rw [show v = _ from r]
    have e : tyO (G a) = some t := e
    cases q : G a with
    | none => rw [q] at e; cases e
    | some o =>
      rw [q] at e
      cases o with
      | lst xs =>
        cases e
        obtain ⟨vs, h, _⟩ := hg.ob a _ q
        exact ⟨.base (.lst h), by decide⟩
      | dct xs =>
        cases e
        obtain ⟨vs, h, _⟩ := hg.ob a _ q
        exact ⟨.base (.dK h), by decide⟩
      | ins c fs => cases e
theorem q_isi {X : Cx} {W : WX} {e : Expr} {te : DTE} {p p2 pos : Pos} {ty : String} (hg : Gl X "isinstance") (hm : X.mg "isinstance" = none) (hgt : Gl X (Str.ofString ty)) (hmt : X.mg (Str.ofString ty) = none) (hv : bootBuiltins (Str.ofString ty) = some (.type ty)) (he : QE X T W e te)
    (hty : ty ∈ ["int", "bool", "str", "tuple", "list", "dict"] := by decide) (hn : Str.ofString ty ≠ "__name__" := by decide) (hd : (Str.ofString ty == ("__debug__" : Str)) = false := by decide)
    (hs1 : starEach [e, .Name (Str.ofString ty) p2] X.env = (false, eval e X.env) :: starEach [.Name (Str.ofString ty) p2] X.env := by rfl) :
    QE X T W (.Call (.Name "isinstance" p) [e, .Name (Str.ofString ty) p2] [] pos) (dUn (pyIsi ty) te) :=
  PE.imp (pe_callB (call_isi (X := X)) hg hm PyProof.Rows.boot_isinstance (pa_cons he (pa_cons (pe_bltn hgt hmt hv (v := .ty ty) rfl hn hd) pa_nil) hs1) (he := hs1)) fun σ H Q ⟨env, F, G, E, P, hg, hs, hx, ht, hq⟩ =>
    ⟨env, F, G, E, _, hg, hs, hx, ht, fun x F1 G1 v1 H1 ⟨z, e, p⟩ s1 g1 r1 => by
      obtain ⟨t, et, rfl⟩ := Option.map_eq_some_iff.mp e
      obtain ⟨tx, mt⟩ := tyD_ok g1 r1 et
      exact ⟨v1, .ty ty, .type t, .type ty, isiB t ty, rfl, .ty ty, tx, kit_isi mt hty, hq _ F1 G1 _ H1 p s1 g1 rfl⟩⟩
end DL

namespace DL
open PySem PySem.Spec PyProof.Rows L2
variable {T : LT}
/-! ### methods of built-in types -/
abbrev DMF := DG → D → List D → Option (D × DG)
def tyM (G : DG) : D → Option String
  | .str _ => some "str"
  | .lst _ => some "list"
  | .ref a => tyO (G a)
  | _ => none
def dMt (ty : String) (f : DMF) (to : DTE) (ta : DTA) : DTE := fun E env G Q => to E env G fun x G1 => tyM G1 x = some ty ∧ ta E env G1 fun xs G2 => ∃ z G3, f G2 x xs = some (z, G3) ∧ Q z G3
def dMt0 (ty : String) (f : DMF) (to : DTE) : DTE := fun E env G Q => to E env G fun x G1 => tyM G1 x = some ty ∧ ∃ z G3, f G1 x [] = some (z, G3) ∧ Q z G3
def rDM (K : PySem.W.Frag) (T : LT) (f : DMF) : V → List V → Hp → VK → Prop := fun x xs H Q => ∃ F G d ds z G', RelG K T F G H ∧ RelD K F H d x ∧ RelDs K F H ds xs ∧ f G d ds = some (z, G') ∧
  ∀ F' v H', Step F G H F' G' H' → RelG K T F' G' H' → RelD K F' H' z v → Q v H'
theorem tyM_ok {K : PySem.W.Frag} {F : FS} {G : DG} {H : Hp} {d : D} {v : V} {t : String} (hg : RelG K T F G H) (r : RelD K F H d v) (e : tyM G d = some t) : tyV K t v H := by
  cases d with
  | str b => cases e; rw [show v = _ from r]; exact rfl
  | lst b =>
    cases e
    obtain ⟨a, vs, rfl, h, _⟩ := r
    exact .inl ⟨rfl, vs, .inl h.1.rd⟩
  | ref a =>
    rw [show v = _ from r]
    have e : tyO (G a) = some t := e
    cases q : G a with
    | none => rw [q] at e; cases e
    | some o =>
      rw [q] at e
      cases o with
      | lst xs =>
        cases e
        obtain ⟨vs, h, _⟩ := hg.ob a _ q
        exact .inl ⟨rfl, vs, .inl (.inl h)⟩
      | dct xs =>
        cases e
        obtain ⟨vs, h, _⟩ := hg.ob a _ q
        exact .inr (.inr (.inl ⟨rfl, .inl ⟨vs, h⟩⟩))
      | ins c fs => cases e
  | _ => cases e
section
variable {X : Cx} {W : WX} {o e : Expr} {es : List Expr} {to : DTE} {ta : DTA} {name : Str} {apos cpos : Pos} {ty id : String} {f : DMF}
theorem q_mt0 (pa : PlainAttrs ty) (slot : Slot ty name id) (hty : typeOf (.builtin id) = pure (.type "method_descriptor")) (hm : MtR X id (rDM X.K T f)) (ho : QE X T W o to)
    (hbase : attributeBase o name X.env (eval o X.env) = eval o X.env := by rfl) (hline : (apos.endLine == cpos.line) = true := by rfl) : QE X T W (.Call (.Attribute o name apos) [] [] cpos) (dMt0 ty f to) :=
  PE.imp (pe_bm0 pa slot hty hm ho hbase hline) fun σ H Q ⟨env, F, G, E, P, hg, hs, hx, ht, hq⟩ => ⟨env, F, G, E, _, hg, hs, hx, ht, fun x F1 G1 v1 H1 ⟨et, z, G3, ef, p⟩ s1 g1 r1 =>
    ⟨tyM_ok g1 r1 et, F1, G1, x, [], z, G3, g1, r1, rfl, ef, fun F' v H' s2 g2 r2 => hq z F' G3 v H' p (s1.trans s2) g2 r2⟩⟩
theorem q_mt (pa : PlainAttrs ty) (slot : Slot ty name id) (hty : typeOf (.builtin id) = pure (.type "method_descriptor")) (hm : MtR X id (rDM X.K T f)) (ho : QE X T W o to) (ha : QA X T W (e :: es) ta)
    (hbase : attributeBase o name X.env (eval o X.env) = eval o X.env := by rfl)
    (hfew : ((backTo cpos (starEach (e :: es) X.env)).all (fun x => !x.1) && (backToKw cpos (keywordEach [] X.env)).all (fun x => x.1.isSome) && decide ((e :: es).length + ([] : List Keyword).length + (if ([] : List Keyword).isEmpty then 0 else 1) < 30)) = true := by rfl)
    (hline : (apos.endLine == cpos.line) = true := by rfl) (hs : starEach (e :: es) X.env = (false, eval e X.env) :: starEach es X.env := by rfl) (hplain : (backTo cpos (starEach es X.env)).any (·.1) = false := by rfl) :
    QE X T W (.Call (.Attribute o name apos) (e :: es) [] cpos) (dMt ty f to ta) :=
  PE.imp (pe_bm pa slot hty hm ho ha hbase hfew hline hs hplain) fun σ H Q ⟨env, F, G, E, P, hg, hs, hx, ht, hq⟩ => ⟨env, F, G, E, _, hg, hs, hx, ht, fun x F1 G1 v1 H1 ⟨et, p1⟩ s1 g1 r1 =>
    ⟨tyM_ok g1 r1 et, env, F1, G1, E, _, g1, hs.step s1, hx.step s1, p1, fun xs F2 G2 vs H2 ⟨z, G3, ef, p⟩ s2 g2 r2 =>
      ⟨F2, G2, x, xs, z, G3, g2, RelD.step s2 x r1, r2, ef, fun F' v H' s3 g3 r3 => hq z F' G3 v H' p (s1.trans (s2.trans s3)) g3 r3⟩⟩⟩
end
/-! lists -/
def mAppend : DMF := fun G x xs => match x, xs with
  | .ref a, [y] => match lstO (G a) with
    | some ys => if ys.length < 16000000 then some (.non, gset G a (some (.lst (ys ++ [y])))) else none
    | none => none
  | _, _ => none
def mPop : DMF := fun G x xs => match x, xs with
  | .ref a, [] => match lstO (G a) with
    | some ys => match ys.getLast? with
      | some y => some (y, gset G a (some (.lst ys.dropLast)))
      | none => none
    | none => none
  | _, _ => none
def mPop0 : DMF := fun G x xs => match x, xs with
  | .ref a, [.int 0] => match lstO (G a) with
    | some (y :: ys) => some (y, gset G a (some (.lst ys)))
    | _ => none
  | _, _ => none
def idxF (y : D) : List D → Option Nat
  | [] => none
  | z :: zs => if eqF z y = true then some 0 else (idxF y zs).map (· + 1)
def mIndex : DMF := fun G x xs => match xs with
  | [y] => match asL G x with
    | some zs => if flatD y && zs.all flatD then (idxF y zs).map fun j => (.int (j : Nat), G) else none
    | none => none
  | _ => none
theorem idxF_at {y : D} : ∀ {zs : List D} {j : Nat}, idxF y zs = some j → ∃ z, zs[j]? = some z ∧ eqF z y = true ∧ ∀ m z', m < j → zs[m]? = some z' → eqF z' y = false
  | [], j, h => by cases h
  | z :: zs, j, h => by
    unfold idxF at h
    split at h
    · cases h
      rename_i hz
      exact ⟨z, rfl, hz, fun m z' hm => by omega⟩
    · rename_i hz
      obtain ⟨k, ek, rfl⟩ := Option.map_eq_some_iff.mp h
      obtain ⟨w, h1, h2, h3⟩ := idxF_at ek
      refine ⟨w, h1, h2, fun m z' hm e => ?_⟩
      cases m with
      | zero =>
        simp only [List.getElem?_cons_zero, Option.some.injEq] at e
        subst e
        simpa using hz
      | succ m =>
        simp only [List.getElem?_cons_succ] at e
        exact h3 m z' (by omega) e
theorem RelDs.back {K : PySem.W.Frag} {F : FS} {H : Hp} {ds : List D} {vs : List V} (r : RelDs K F H ds vs) {j : Nat} {v : V} (e : vs[j]? = some v) : ∃ d, ds[j]? = some d ∧ RelD K F H d v := by
  have hl := r.length
  have hj : j < ds.length := by
    have := (List.getElem?_eq_some_iff.mp e).1
    omega
  obtain ⟨v', e', r'⟩ := r.get (List.getElem?_eq_getElem hj)
  rw [e] at e'
  cases e'
  exact ⟨_, List.getElem?_eq_getElem hj, r'⟩
section
variable {X : Cx}
theorem mt_mAppend : MtR X "list.append" (rDM X.K T mAppend) := by
  rintro pins s σ H x xs v us Q I rx rs ⟨F, G, d, ds, z, G', hg, r1, r2, e, q⟩
  unfold mAppend at e
  split at e
  · rename_i a y
    split at e
    · rename_i ys ey
      split at e
      · rename_i hl
        cases e
        have hq := lstO_eq ey
        obtain ⟨vs, h, k⟩ := hg.ob a _ hq
        obtain ⟨w, rfl, rw'⟩ := r2.one
        have hs : H a = none ∨ G a ≠ none := .inr (by rw [hq]; simp)
        refine mt_append pins s σ H x _ v us Q I rx rs ⟨a, vs, w, r1, rfl, h, by rw [← k.length]; exact Nat.lt_of_lt_of_le hl (by decide), ?_⟩
        have st : Step F G H F (gset G a (some (.lst (ys ++ [y])))) (upd H a (.lst (vs ++ [w]))) := Step.set hg hs
        exact q F _ _ st (hg.set hs ⟨_, rfl, RelDs.step st _ (k.append ⟨w, [], rfl, rw', rfl⟩)⟩) rfl
      · cases e
    · cases e
  · cases e
theorem RelDs.dropLast {K : PySem.W.Frag} {F : FS} {H : Hp} : ∀ {ds : List D} {vs : List V}, RelDs K F H ds vs → RelDs K F H ds.dropLast vs.dropLast := fun {ds vs} r => by
  rw [List.dropLast_eq_take, List.dropLast_eq_take, ← r.length]
  exact r.take _
theorem mt_mPop : MtR X "list.pop" (rDM X.K T mPop) := by
  rintro pins s σ H x xs v us Q I rx rs ⟨F, G, d, ds, z, G', hg, r1, r2, e, q⟩
  unfold mPop at e
  split at e
  · rename_i a
    split at e
    · rename_i ys ey
      split at e
      · rename_i y el
        cases e
        have hq := lstO_eq ey
        obtain ⟨vs, h, k⟩ := hg.ob a _ hq
        have hs : H a = none ∨ G a ≠ none := .inr (by rw [hq]; simp)
        rw [List.getLast?_eq_getElem?] at el
        obtain ⟨w, ew, rw'⟩ := k.get el
        have ex : xs = [] := r2
        subst ex
        have st : Step F G H F (gset G a (some (.lst ys.dropLast))) (upd H a (.lst vs.dropLast)) := Step.set hg hs
        exact mt_pop pins s σ H x [] v us Q I rx rs ⟨a, vs, w, r1, rfl, h, by rw [← k.length]; exact ew, q F _ _ st (hg.set hs ⟨_, rfl, RelDs.step st _ k.dropLast⟩) (RelD.step st _ rw')⟩
      · cases e
    · cases e
  · cases e
theorem mt_mPop0 : MtR X "list.pop" (rDM X.K T mPop0) := by
  rintro pins s σ H x xs v us Q I rx rs ⟨F, G, d, ds, z, G', hg, r1, r2, e, q⟩
  unfold mPop0 at e
  split at e
  · rename_i a
    split at e
    · rename_i y ys ey
      cases e
      have hq := lstO_eq ey
      obtain ⟨vs, h, k⟩ := hg.ob a _ hq
      have hs : H a = none ∨ G a ≠ none := .inr (by rw [hq]; simp)
      obtain ⟨w, ws, rfl, rw', kt⟩ := k
      obtain ⟨i, rfl, ri⟩ := r2.one
      have st : Step F G H F (gset G a (some (.lst ys))) (upd H a (.lst ws)) := Step.set hg hs
      exact mt_popAt pins s σ H x _ v us Q I rx rs ⟨a, w :: ws, 0, 0, w, r1, by rw [show i = V.int 0 from ri], h, by decide, by decide, by simp [seqIndex?], rfl, q F _ _ st (hg.set hs ⟨_, rfl, RelDs.step st _ kt⟩) (RelD.step st _ rw')⟩
    · cases e
  · cases e
theorem mt_mIndex : MtR X "list.index" (rDM X.K T mIndex) := by
  rintro pins s σ H x xs v us Q I rx rs ⟨F, G, d, ds, z, G', hg, r1, r2, e, q⟩
  unfold mIndex at e
  split at e
  · rename_i y
    split at e
    · rename_i zs ez
      split at e
      · rename_i hf
        obtain ⟨j, ej, e⟩ := Option.map_eq_some_iff.mp e
        cases e
        rw [Bool.and_eq_true] at hf
        obtain ⟨a, vs, ea, h, k⟩ := asL_ok hg r1 ez
        obtain ⟨u, rfl, ru⟩ := r2.one
        obtain ⟨w, h1, h2, h3⟩ := idxF_at ej
        obtain ⟨wv, ew, rw'⟩ := k.get h1
        have fl : ∀ {m : Nat} {d : D}, zs[m]? = some d → flatD d = true := fun e => List.all_eq_true.mp hf.2 _ (List.mem_of_getElem? e)
        refine mt_index pins s σ H x _ v us Q I rx rs ⟨a, vs, u, j, wv, ea, rfl, .inl h, flat_rel hf.1 ru, flats_rel k hf.2, ew, by rw [eqF_rel (fl h1) hf.1 rw' ru]; exact h2, fun m z' hm em => ?_, q F _ H Step.refl hg rfl⟩
        obtain ⟨d', ed, rd'⟩ := k.back em
        rw [eqF_rel (fl ed) hf.1 rd' ru]
        exact h3 m d' hm ed
      · cases e
    · cases e
  · cases e
variable {W : WX} {o e : Expr} {to : DTE} {ta : DTA} {apos cpos : Pos}
end
end DL

namespace DL
open PySem PySem.Spec PyProof.Rows L2
variable {T : LT}
/-! ### names of the module -/
section
variable {X : Cx} {W : WX} {pos : Pos}
theorem q_gint {x : Str} {i : Int} (hg : Gl X x) (h : ∃ t, X.mg x = some (.int i t)) (hd : (x == ("__debug__" : Str)) = false := by decide) : QE X T W (.Name x pos) (dC (.int i)) := by
  obtain ⟨t, h⟩ := h
  exact q_con (pe_glob hg h (v := .int i) ⟨t, rfl⟩ hd) fun _ _ => rfl
theorem q_gstr {x : Str} {z : String} (hg : Gl X x) (h : ∃ t, X.mg x = some (.str (Str.ofString z) t)) (hd : (x == ("__debug__" : Str)) = false := by decide) : QE X T W (.Name x pos) (dC (.str z)) := by
  obtain ⟨t, h⟩ := h
  exact q_con (pe_glob hg h (v := .str (S z)) ⟨t, rfl⟩ hd) fun _ _ => rfl
/-- an object of the module whose reading never changes -/
theorem q_gref {x : Str} {d : D} {a : Addr} (hg : Gl X x) (h : X.mg x = some (.ref a)) (r : ∀ F H, RelD X.K F H d (.ref a)) (hd : (x == ("__debug__" : Str)) = false := by decide) : QE X T W (.Name x pos) (dC d) :=
  q_con (pe_glob hg h (v := .ref a) rfl hd) r
end
/-! ### a written table with text keys -/
structure KTab (K : PySem.W.Frag) (w : World) (mg : Str → Option Value) (x : String) (tab : List (String × D)) : Prop where
  mg : mg (S x) = some (.ref (He.ga K (S x)))
  kd : ∃ es n, KDict K w (He.ga K (S x)) es n
  val : ∀ z : String, (PySem.W.nsIn K (He.ga K (S x)) (S z) = some none ∧ tab.lookup z = none) ∨ ∃ u v d, PySem.W.nsIn K (He.ga K (S x)) (S z) = some (some u) ∧ tab.lookup z = some d ∧ RelV v u ∧ ∀ F H, RelD K F H d v
def kIn (tab : List (String × D)) (_ : DG) : D → Option D
  | .str z => some (.bl (tab.lookup z).isSome)
  | _ => none
def kNotIn (tab : List (String × D)) (_ : DG) : D → Option D
  | .str z => some (.bl (!(tab.lookup z).isSome))
  | _ => none
def kItem (tab : List (String × D)) (_ : DG) : D → Option D
  | .str z => tab.lookup z
  | _ => none
def kGet (tab : List (String × D)) (_ : DG) : D → Option D
  | .str z => some ((tab.lookup z).getD .non)
  | _ => none
section
variable {X : Cx} {W : WX} {x : String} {tab : List (String × D)} {e : Expr} {te : DTE} {p pos apos : Pos}
theorem ktab_in {K : PySem.W.Frag} {w : World} {mg : Str → Option Value} (k : KTab K w mg x tab) (z : String) : ∃ r, PySem.W.nsIn K (He.ga K (S x)) (S z) = some r ∧ r.isSome = (tab.lookup z).isSome := by
  rcases k.val z with ⟨h1, h2⟩ | ⟨u, v, d, h1, h2, _⟩
  · exact ⟨none, h1, by rw [h2]; rfl⟩
  · exact ⟨some u, h1, by rw [h2]; rfl⟩
theorem q_kin (k : KTab X.K X.w X.mg x tab) (hg : Gl X (Str.ofString x)) (he : QE X T W e te) (hd : (Str.ofString x == ("__debug__" : Str)) = false := by decide) : QE X T W (.Compare e [.In] [.Name (Str.ofString x) p] pos) (dUn (kIn tab) te) := by
  obtain ⟨es, n, kd⟩ := k.kd
  refine PE.imp (pe_cmpR (op_in_kd kd) he (pe_glob hg k.mg (v := .ref (He.ga X.K (S x))) rfl hd) rfl) fun σ H Q ⟨env, F, G, E, P, hg, hs, hx, ht, hq⟩ => ⟨env, F, G, E, _, hg, hs, hx, ht, fun d F1 G1 v1 H1 ⟨z, e, p⟩ s1 g1 r1 => ?_⟩
  cases d with
  | str t =>
    cases e
    obtain ⟨r, h1, h2⟩ := ktab_in k t
    exact ⟨S t, r, r1, rfl, h1, hq _ F1 G1 _ H1 p s1 g1 (by rw [h2]; rfl)⟩
  | _ => cases e
theorem q_knotin (k : KTab X.K X.w X.mg x tab) (hg : Gl X (Str.ofString x)) (he : QE X T W e te) (hd : (Str.ofString x == ("__debug__" : Str)) = false := by decide) : QE X T W (.Compare e [.NotIn] [.Name (Str.ofString x) p] pos) (dUn (kNotIn tab) te) := by
  obtain ⟨es, n, kd⟩ := k.kd
  refine PE.imp (pe_cmpR (op_notIn_kd kd) he (pe_glob hg k.mg (v := .ref (He.ga X.K (S x))) rfl hd) rfl) fun σ H Q ⟨env, F, G, E, P, hg, hs, hx, ht, hq⟩ => ⟨env, F, G, E, _, hg, hs, hx, ht, fun d F1 G1 v1 H1 ⟨z, e, p⟩ s1 g1 r1 => ?_⟩
  cases d with
  | str t =>
    cases e
    obtain ⟨r, h1, h2⟩ := ktab_in k t
    exact ⟨S t, r, r1, rfl, h1, hq _ F1 G1 _ H1 p s1 g1 (by rw [h2]; rfl)⟩
  | _ => cases e
theorem q_kinT (k : KTab X.K X.w X.mg x tab) (hg : Gl X (Str.ofString x)) (he : QE X T W e te) (hd : (Str.ofString x == ("__debug__" : Str)) = false := by decide) : QT X T W (.Compare e [.In] [.Name (Str.ofString x) p] pos) (dTest (dUn (kIn tab) te)) := by
  obtain ⟨es, n, kd⟩ := k.kd
  refine PT.imp (pt_cmpR (op_in_kd kd) he (pe_glob hg k.mg (v := .ref (He.ga X.K (S x))) rfl hd) rfl) fun σ H Q ⟨env, F, G, E, P, hg, hs, hx, ht, hq⟩ => ⟨env, F, G, E, _, hg, hs, hx, ht, fun d F1 G1 v1 H1 ⟨z, e, b, eb, p⟩ s1 g1 r1 => ?_⟩
  cases d with
  | str t =>
    cases e
    cases eb
    obtain ⟨r, h1, h2⟩ := ktab_in k t
    exact ⟨S t, r, r1, rfl, h1, _, rfl, hq _ F1 G1 H1 (by rw [h2]; exact p) s1 g1⟩
  | _ => cases e
theorem q_knotinT (k : KTab X.K X.w X.mg x tab) (hg : Gl X (Str.ofString x)) (he : QE X T W e te) (hd : (Str.ofString x == ("__debug__" : Str)) = false := by decide) : QT X T W (.Compare e [.NotIn] [.Name (Str.ofString x) p] pos) (dTest (dUn (kNotIn tab) te)) := by
  obtain ⟨es, n, kd⟩ := k.kd
  refine PT.imp (pt_cmpR (op_notIn_kd kd) he (pe_glob hg k.mg (v := .ref (He.ga X.K (S x))) rfl hd) rfl) fun σ H Q ⟨env, F, G, E, P, hg, hs, hx, ht, hq⟩ => ⟨env, F, G, E, _, hg, hs, hx, ht, fun d F1 G1 v1 H1 ⟨z, e, b, eb, p⟩ s1 g1 r1 => ?_⟩
  cases d with
  | str t =>
    cases e
    cases eb
    obtain ⟨r, h1, h2⟩ := ktab_in k t
    exact ⟨S t, r, r1, rfl, h1, _, rfl, hq _ F1 G1 H1 (by rw [h2]; exact p) s1 g1⟩
  | _ => cases e
theorem q_kitem (k : KTab X.K X.w X.mg x tab) (hg : Gl X (Str.ofString x)) (he : QE X T W e te) (hs : PlainIx e := by exact fun _ _ => rfl) (hd : (Str.ofString x == ("__debug__" : Str)) = false := by decide) : QE X T W (.Subscript (.Name (Str.ofString x) p) e pos) (dUn (kItem tab) te) := by
  obtain ⟨es, n, kd⟩ := k.kd
  refine PE.imp (pe_ix (ix_kdict (X := X)) (pe_glob hg k.mg (v := .ref (He.ga X.K (S x))) rfl hd) he hs) fun σ H Q ⟨env, F, G, E, P, hg, hs, hx, ht, hq⟩ => ⟨env, F, G, E, _, hg, hs, hx, ht, fun d F1 G1 v1 H1 ⟨z, e, p⟩ s1 g1 r1 => ?_⟩
  cases d with
  | str t =>
    rcases k.val t with ⟨h1, h2⟩ | ⟨u, v', d', h1, h2, rv, rd'⟩
    · rw [show kItem tab G1 (.str t) = tab.lookup t from rfl, h2] at e; cases e
    · rw [show kItem tab G1 (.str t) = tab.lookup t from rfl, h2] at e
      cases e
      exact ⟨_, S t, v', rfl, r1, ⟨es, n, u, kd.at_, kd.lit, h1, rv⟩, hq _ F1 G1 _ H1 p s1 g1 (rd' F1 H1)⟩
  | _ => cases e
theorem q_kget (k : KTab X.K X.w X.mg x tab) (hg : Gl X (Str.ofString x)) (he : QE X T W e te) (hd : (Str.ofString x == ("__debug__" : Str)) = false := by decide)
    (hs : starEach [e] X.env = (false, eval e X.env) :: starEach [] X.env := by rfl) (hline : (apos.endLine == pos.line) = true := by rfl)
    (hfew : ((backTo pos (starEach [e] X.env)).all (fun x => !x.1) && (backToKw pos (keywordEach [] X.env)).all (fun x => x.1.isSome) && decide ([e].length + ([] : List Keyword).length + (if ([] : List Keyword).isEmpty then 0 else 1) < 30)) = true := by rfl)
    (hbase : attributeBase (.Name (Str.ofString x) p) "get" X.env (eval (.Name (Str.ofString x) p) X.env) = eval (.Name (Str.ofString x) p) X.env := by rfl) : QE X T W (.Call (.Attribute (.Name (Str.ofString x) p) "get" apos) [e] [] pos) (dUn (kGet tab) te) := by
  obtain ⟨es, n, kd⟩ := k.kd
  refine ⟨fun pins s σ H Q I h => ?_⟩
  obtain ⟨env, F, G, E, P, hG, hS, hx, ht, hq⟩ := h
  refine wpAny_Call_method_late hbase hfew hline rfl (thn ((pe_glob hg k.mg (v := .ref (He.ga X.K (S x))) rfl hd).run pins s σ H (fun v H1 => v = .ref (He.ga X.K (S x)) ∧ H1 = H) I ⟨rfl, rfl⟩) ?_)
  rintro v s1 ⟨y, H1, I1, r1, rfl, rfl⟩
  obtain rfl : v = Value.ref (He.ga X.K (S x)) := r1
  have mo := PySem.W.mapOf_K (prog := X.prog) (w := X.w) I1.kIn kd.at_ kd.lit
  refine ⟨"dict", "dict.get", PySem.F.plainAttrs_dict, PySem.F.slot_dict_get, PySem.F.type_dict_get, mo.typeIs, mo.noDict, ?_⟩
  have hA := (pa_cons he pa_nil hs).run pos pins s1 σ H1 (fun vs H2 => ∃ v, vs = [v] ∧ (∃ d F1 G1, kGet tab G1 d ≠ none ∧ RelD X.K F1 H2 d v ∧ ∀ z u, kGet tab G1 d = some z → RelD X.K F1 H2 z u → Q u H2)) I1 ⟨env, F, G, E, _, hG, hS, hx, ht, fun d F1 G1 v1 H1 ⟨z, e, p⟩ s1 g1 r1 =>
    ⟨v1, rfl, d, F1, G1, by rw [e]; simp, r1, fun z' u e' ru => by rw [e] at e'; cases e'; exact hq z F1 G1 u H1 p s1 g1 ru⟩⟩
  rw [hs] at hA ⊢
  refine Calls.callWith_builtin (by rfl) (Calls.evalArgs_plain ?_)
  refine thn hA ?_
  rintro us s2 ⟨vs, H2, I2, r2, v, rfl, d, F1, G1, hne, rd, q⟩
  cases r2 with
  | cons ru rt =>
    cases rt
    cases d with
    | str t =>
      have ev : v = V.str (S t) := rd
      subst ev
      obtain ⟨tk, rfl⟩ := ru
      have mo2 := PySem.W.mapOf_K (prog := X.prog) (w := X.w) I2.kIn kd.at_ kd.lit
      refine call_meetsIn PySem.F.slot_dict_get mo2.typeIs PySem.F.entry_dict_get (PySem.F.args_dict_get_2 _ _) (meets_dict_get (strKind X.prog X.w) (He.ga X.K (S x)) (PySem.strKind_is X.prog X.w (S t) tk) kd.low) ⟨_, mo2, ?_⟩
      rcases k.val t with ⟨h1, h2⟩ | ⟨u, v', d', h1, h2, rv, rd'⟩
      · rw [PySem.W.find_K kd.at_ h1]
        exact ⟨.non, H2, I2.tok _, rfl, q .non _ (by simp [kGet, h2]) rfl⟩
      · rw [PySem.W.find_K kd.at_ h1]
        exact ⟨v', H2, I2.tok _, rv, q d' _ (by simp [kGet, h2]) (rd' F1 H2)⟩
    | _ => exact absurd rfl hne
end
end DL

namespace DL
open PySem PySem.Spec PyProof.Rows L2
variable {T : LT}
/-! ### stores -/
def setAt (G : DG) (o i x : D) : Option DG := match o with
  | .ref a => match G a with
    | some (.lst xs) => match i with
      | .int k => (ixN xs.length k).map fun j => gset G a (some (.lst (xs.set j x)))
      | _ => none
    | some (.dct kvs) => match keyOf i with
      | some _ => if kvs.length < 1000000 then some (gset G a (some (.dct (dput kvs i x)))) else none
      | none => none
    | _ => none
  | _ => none
def sSub (te to ti : DTE) : DTS := fun E DE env G => te E env G fun x G1 => to E env G1 fun o G2 => ti E env G2 fun i G3 => ∃ G4, setAt G3 o i x = some G4 ∧ DE.nx env G4
def sPar (is : List Nat) (ta : DTA) : DTS := fun E DE env G => ta E env G fun xs G1 => xs.length = is.length ∧ DE.nx (setAll env is xs) G1
def sTg (tg : Tg) (te : DTE) : DTS := fun E DE env G => te E env G fun x G1 => dTg tg x env fun env' => DE.nx env' G1
def sStar (i j : Nat) (te : DTE) : DTS := fun E DE env G => te E env G fun d G1 => ∃ x xs, asL G1 d = some (x :: xs) ∧ DE.nx ((env.set i (some x)).set j (some (.lst xs))) G1
def dWhile (E : DXK) (tc : DTT) (tb : DTS) (DE : DEnds) : Nat → DSt → DG → Prop
  | 0, _, _ => False
  | n + 1, env, G => tc E env G fun b G1 => if b = true then tb E { DE with nx := fun env' G' => dWhile E tc tb DE n env' G' } env G1 else DE.nx env G1
def sWhile (tc : DTT) (tb : DTS) : DTS := fun E DE env G => ∃ n, dWhile E tc tb DE n env G
theorem setL_len {α : Type} (xs : List α) (j : Nat) (x : α) : (xs.set j x).length = xs.length := List.length_set
theorem RelDs.set {K : PySem.W.Frag} {F : FS} {H : Hp} : ∀ {ds : List D} {vs : List V} {j : Nat} {d : D} {v : V}, RelDs K F H ds vs → RelD K F H d v → RelDs K F H (ds.set j d) (vs.set j v)
  | [], vs, j, d, v, h, _ => by
    have e : vs = [] := h
    subst e
    exact h
  | x :: xs, _, 0, d, v, ⟨w, r, rfl, h, t⟩, hd => ⟨v, r, rfl, hd, t⟩
  | x :: xs, _, j + 1, d, v, ⟨w, r, rfl, h, t⟩, hd => ⟨w, _, rfl, h, RelDs.set t hd⟩
section
variable {X : Cx} {W : WX} {pos : Pos}
def rSetA (K : PySem.W.Frag) (T : LT) : TSet := fun o i v H Q => ∃ F G do_ di dx G', RelG K T F G H ∧ RelD K F H do_ o ∧ RelD K F H di i ∧ RelD K F H dx v ∧ setAt G do_ di dx = some G' ∧ ∀ F' H', Step F G H F' G' H' → RelG K T F' G' H' → Q H'
theorem set_A (hu : X.A.units + 1 < cLine) : PSet X (rSetA X.K T) := by
  rintro pins s σ H o i v ov iv u Q I ro ri rv ⟨F, G, do_, di, dx, G', hg, r1, r2, r3, e, q⟩
  unfold setAt at e
  split at e
  · rename_i a
    split at e
    · rename_i xs ga
      split at e
      rotate_left
      · cases e
      rename_i k
      obtain ⟨j, ej, rfl⟩ := Option.map_eq_some_iff.mp e
      obtain ⟨vs, h, kk⟩ := hg.ob a _ ga
      have hs : H a = none ∨ G a ≠ none := .inr (by rw [ga]; simp)
      have st : Step F G H F (gset G a (some (.lst (xs.set j dx)))) (upd H a (.lst (vs.set j v))) := Step.set hg hs
      exact set_list pins s σ H o i v ov iv u Q I ro ri rv ⟨a, vs, k, j, r1, r2, h, by rw [← kk.length]; exact ej, q F _ st (hg.set hs ⟨_, rfl, RelDs.step st _ (kk.set r3)⟩)⟩
    · rename_i kvs ga
      split at e
      · rename_i key ek
        split at e
        · rename_i hl
          cases e
          obtain ⟨ws, h, kk⟩ := hg.ob a _ ga
          have hs : H a = none ∨ G a ≠ none := .inr (by rw [ga]; simp)
          have st : Step F G H F (gset G a (some (.dct (dput kvs di dx)))) (upd H a (.dK (putK ws key v))) := Step.set hg hs
          refine set_dict hu pins s σ H o i v ov iv u Q I ro ri rv ⟨a, _, r1, ?_, q F _ st (hg.set hs ⟨_, rfl, RelKs.step st _ (RelKs.put ek r3 kk)⟩)⟩
          exact .inl ⟨ws, key, h, keyOf_rel ek r2, by rw [← kk.length]; exact Nat.lt_of_lt_of_le hl (by decide), rfl⟩
        · cases e
      · cases e
    · cases e
  · cases e
theorem qs_sub {o i e : Expr} {to ti te : DTE} {p' : Pos} (hu : X.A.units + 1 < cLine) (he : QE X T W e te) (ho : QE X T W o to) (hi : QE X T W i ti)
    (ha : ∀ v, assign (.Subscript o i p') X.env v = (do
      let ov ← holding [v] (eval o X.env)
      let iv ← holding [v, ov] (eval i X.env)
      standAt p'
      holding [v, ov, iv] (setItem ov iv v)
      release [v, ov, iv] []) := by intro _; rfl)
    (hs : swapsWithSole [.Subscript o i p'] e pos.line X.env = pure false := by rfl) (hw : swappedStores [.Subscript o i p'] e X.env = pure none := by rfl) (h1 : (assignEach [.Subscript o i p'] X.env).map (·.2) = [assign (.Subscript o i p') X.env] := by rfl) :
    QS X T W (.Assign [.Subscript o i p'] e pos) (sSub te to ti) :=
  PS.imp (ps_asg he (pg_sub ho hi (set_A hu) ha) hs hw h1) fun D σ H ⟨env, F, G, E, DE, hg, hs, hx, ht, hn, hr⟩ => ⟨env, F, G, E, _, hg, hs, hx, ht, fun x F1 G1 v1 H1 p1 s1 g1 r1 =>
    ⟨env, F1, G1, E, _, g1, hs.step s1, hx.step s1, p1, fun o F2 G2 v2 H2 p2 s2 g2 r2 => ⟨env, F2, G2, E, _, g2, hs.step (s1.trans s2), hx.step (s1.trans s2), p2, fun i F3 G3 v3 H3 ⟨G4, e, p3⟩ s3 g3 r3 =>
      ⟨F3, G3, o, i, x, G4, g3, RelD.step s3 o r2, r3, RelD.step (s2.trans s3) x r1, e, fun F' H' s4 g4 => hn env F' G4 σ H' p3 (s1.trans (s2.trans (s3.trans s4))) g4 (hs.step (s1.trans (s2.trans (s3.trans s4))))⟩⟩⟩⟩
/-- a, b = x, y -/
theorem qs_par {i j : Nat} {x y : Str} {a b : Expr} {ta : DTA} {px py pt : Pos} {kt k2 pt2} (hc : X.calm = true) (hN : X.N.Nodup) (hi : X.N[i]? = some x) (hj : X.N[j]? = some y) (hij : i ≠ j)
    (hx : X.env.scope.names.lookup x = some .local) (hy : X.env.scope.names.lookup y = some .local) (ha : QA X T W [a, b] ta)
    (hw : swappedStores [.Tuple [.Name x px, .Name y py] kt pt] (.Tuple [a, b] k2 pt2) X.env = pure (some [x, y]))
    (hs : swapsWithSole [.Tuple [.Name x px, .Name y py] kt pt] (.Tuple [a, b] k2 pt2) pos.line X.env = pure false := by rfl) :
    QS X T W (.Assign [.Tuple [.Name x px, .Name y py] kt pt] (.Tuple [a, b] k2 pt2) pos) (sPar [i, j] ta) :=
  PS.imp (ps_par hc hN hi hj hij hx hy ha hw hs) fun D σ H ⟨env, F, G, E, DE, hg, hs, hx, ht, hn, hr⟩ => ⟨env, F, G, E, _, hg, hs, hx, ht, fun ds F1 G1 vs H1 ⟨hl, p⟩ s1 g1 r1 => by
    obtain ⟨d1, d2, rfl⟩ : ∃ d1 d2, ds = [d1, d2] := by
      match ds, hl with
      | [d1, d2], _ => exact ⟨d1, d2, rfl⟩
    obtain ⟨v, u, rfl, rv, ru⟩ := r1.two
    exact ⟨v, u, rfl, hn _ F1 G1 _ H1 p s1 g1 (((hs.step s1).set rv).set ru)⟩⟩
/-- a name or several = a value -/
theorem qs_tg {tgE e : Expr} {te : DTE} {tg : Tg} (he : QE X T W e te) (hg : PG X tgE (vTg X.K tg)) (hs : swapsWithSole [tgE] e pos.line X.env = pure false := by rfl) (hw : swappedStores [tgE] e X.env = pure none := by rfl)
    (h1 : (assignEach [tgE] X.env).map (·.2) = [assign tgE X.env] := by rfl) : QS X T W (.Assign [tgE] e pos) (sTg tg te) :=
  PS.imp (ps_asg he hg hs hw h1) fun D σ H ⟨env, F, G, E, DE, hg, hs, hx, ht, hn, hr⟩ => ⟨env, F, G, E, _, hg, hs, hx, ht, fun x F1 G1 v1 H1 p1 s1 g1 r1 =>
    tg_run (hs.step s1) r1 p1 fun env' σ' p r' _ => hn env' F1 G1 σ' H1 p s1 g1 r'⟩
/-! first, *rest = a list -/
theorem walks_from {prog : Program} {w : World} {A : Around} (hh : A.handled = none) (I l : Addr) (hne : l ≠ I) (items : Array Value) (k : Nat) (hk : k ≤ items.size) :
    Walks prog w A I [I, l] [I] (items.size - k) (fun i v => items[i + k]? = some v) (fun i h => h.IsListIter I l (i + k) ∧ h.IsList l items) where
  sub := fun b hb => by simp at hb; simp [hb]
  frame := fun _ _ _ st hq => ⟨st.1.at fun o e => hq I (by simp) o e, st.2.at fun o e => hq l (by simp) o e⟩
  item := fun i s Q E hi st hQ => by
    have hlt : i + k < items.size := by omega
    apply wpAny_pyNext_list_item st.1 st.2 (x := items[i + k]) (by simp [hlt])
    intro h' hit' hs'
    refine hQ _ h' s.toks (by simp [hlt]) ⟨?_, st.2.extBut hs'.extBut hne⟩ fun b o hb e => hs'.extBut b o (fun h => hb (by simp [h])) e
    rw [show i + 1 + k = i + k + 1 by omega]
    exact hit'
  done := fun s Q E st hQ => by
    have e : items.size - k + k = items.size := by omega
    have st1 := st.1
    rw [e] at st1
    exact wpAny_pyNext_list_end hh st1 st.2 (by simp) fun h' he' => hQ h' s.toks fun b o hb e => he' b o (fun h => hb (by simp [h])) e
  self := fun _ _ _ _ st hQ => wpAny_pyIter_listiter st.1 hQ
theorem unpack_star {prog : Program} {w : World} {A : Around} {E : Value → Shared → Prop} {s : Shared} {l : Addr} {u0 : Value} {us : List Value} {Q : List Value → Shared → Prop} (hh : A.handled = none) (hl : s.heap.IsList l (u0 :: us).toArray) (hz : us.length ≤ sizeLine)
    (hQ : ∀ (h' : Heap) tk, (∀ b o, s.heap.get? b = some o → h'.get? b = some o) → Q [u0, .ref h'.objs.size] { s with heap := h'.push { cls := .type "list", data := .seq us.toArray }, toks := tk }) : wpAny (model prog w) A (unpackItems (.ref l) 2 (some 1)) Q E s := by
  have hlt : l < s.heap.objs.size := by obtain ⟨_, e, _⟩ := hl; exact Heap.lt_size e
  unfold unpackItems
  refine wpAny_bind ?_
  unfold notIterableAtAll
  refine wpAny_bind (wpAny_specialOf hl.typeIs slot_list_iter.lookup ?_)
  refine wpAny_pure ?_
  simp only [Bool.false_eq_true, if_false]
  refine wpAny_bind (wpAny_holding (wpAny_pyIter_list hl ?_))
  show wpAny _ _ (holding [Value.ref s.heap.objs.size] (draw (.ref s.heap.objs.size) 1) >>= _) _ _ _
  refine wpAny_bind (wpAny_holding ?_)
  show wpAny _ _ (pyNext (.ref s.heap.objs.size) >>= _) _ _ _
  have hit : (s.heap.push { cls := .type "list_iterator", data := .fields #[.ref l, .int 0 0] }).IsListIter s.heap.objs.size l 0 := ⟨_, Heap.get?_push_size _ rfl, rfl, rfl⟩
  refine wpAny_bind (wpAny_pyNext_list_item hit (hl.push _) (x := u0) (by simp) fun h1 hit1 hs1 => ?_)
  refine wpAny_bind (wpAny_holding (wpAny_pure (wpAny_pure ?_)))
  rw [if_neg (by simp)]
  have hl1 : h1.IsList l (u0 :: us).toArray := (hl.push _).extBut hs1.extBut (Nat.ne_of_lt hlt)
  have W := (walks_from (prog := prog) (w := w) (A := A.in1) hh s.heap.objs.size l (Nat.ne_of_lt hlt) (u0 :: us).toArray 1 (by simp)).toS
  refine wpAny_bind (wpAny_holding (wpAny_collect_iter (T := "list_iterator") (.inr (.inr (.inl rfl))) W (fun i s st => st.1.typeIs) ⟨hit1, hl1⟩ ?_ (by simp) (fun s2 acc hm hacc => ?_) (by simp; exact hz)))
  · intro b hb
    have hsz : s.heap.objs.size < h1.objs.size := by obtain ⟨_, e, _⟩ := hit1; exact Heap.lt_size e
    simp only [List.mem_cons, List.not_mem_nil, or_false] at hb
    rcases hb with z | z
    · rw [z]; exact hsz
    · rw [z]; exact Nat.lt_trans hlt hsz
  · have el : acc.toList = us := by
      apply List.ext_getElem?
      intro j
      obtain ⟨hsz, hel⟩ := hacc
      have hsz : acc.size = us.length := by rw [hsz]; simp
      by_cases hj : j < us.length
      · have h1 : acc[j]? = some acc[j] := Array.getElem?_eq_getElem (by omega)
        have h2 := hel j _ h1
        rw [Array.getElem?_toList, h1, ← h2]
        simp
      · rw [List.getElem?_eq_none (by rw [Array.length_toList]; omega), List.getElem?_eq_none (by omega)]
    rw [el]
    show wpAny _ _ (if us.length < 0 then _ else _) _ _ s2
    rw [if_neg (Nat.not_lt_zero _)]
    show wpAny _ _ (newList (us.take (us.length - 0)) >>= fun r => pure ([u0] ++ [r] ++ us.drop (us.length - 0))) _ _ s2
    rw [Nat.sub_zero, List.take_length, List.drop_length]
    refine wpAny_bind (wpAny_newList ?_ (by simpa using hz))
    refine wpAny_pure ?_
    obtain ⟨m1, m2, m3, m4, m5⟩ := hm
    have keep : ∀ b o, s.heap.get? b = some o → s2.heap.get? b = some o := fun b o e => m1 b o (by simp; exact Nat.ne_of_lt (Heap.lt_size e)) ((hs1.extBut b o (Nat.ne_of_lt (Heap.lt_size e))) (Heap.get?_push_of_some _ e))
    have fin := hQ s2.heap s2.toks keep
    obtain ⟨hp2, gn2, dr2, tk2, os2⟩ := s2
    obtain ⟨hp, gn, dr, tk, os⟩ := s
    dsimp only at m2 m3 m4 fin ⊢
    subst m2 m3 m4
    exact fin
def gStar (K : PySem.W.Frag) (i j : Nat) : TG := fun v σ H Q => ∃ a x xs, v = .ref a ∧ SqL K H a (x :: xs) ∧ ∀ p, H p = none → Q ((σ.set i (some x)).set j (some (.ref p))) (upd H p (.lst xs))
theorem pg_star {i j k : Nat} {x y : Str} {px py ps p' : Pos} (hc : X.calm = true) (hN : X.N.Nodup) (hi : X.N[i]? = some x) (hj : X.N[j]? = some y) (hx : Loc X.env.scope x) (hy : Loc X.env.scope y) (hfx : X.fn x = true ∨ X.env.scope.names.lookup x = some .local) (hfy : X.fn y = true ∨ X.env.scope.names.lookup y = some .local) :
    PG X (.Tuple [.Name x px, .Starred (.Name y py) ps] k p') (gStar X.K i j) := by
  constructor
  rintro pins s σ H v u Q I r ⟨a, w, ws, rfl, hq, q⟩
  obtain rfl : u = Value.ref a := r
  obtain ⟨its, rv, pl, hz⟩ := I.list hq
  rw [assign_Tuple]
  refine wpAny_bind (wpAny_standAt ?_)
  unfold unpack
  cases rv with
  | cons r0 rt =>
    rename_i u0 us
    have hz' : us.length ≤ sizeLine := by rw [← rt.length]; exact Nat.le_trans (Nat.le_succ _) hz
    refine wpAny_bind (wpAny_holding (unpack_star (I.ok.hd hc) pl.isList hz' fun h' tk keep => ?_))
    have I2 : Inv X pins σ H { s with heap := h', toks := tk } := I.kept keep
    have I3 := I2.lnew (t' := tk) rt (by rw [rt.length]; exact hz')
    exact (pgs_cons (pg_name (pos := px) hN hi hx hfx) (pgs_cons (pg_name (pos := py) hN hj hy hfy) pgs_nil)).run pins _ σ _ [w, .ref h'.objs.size] [u0, .ref h'.objs.size] Q I3 (.cons r0 (.cons rfl .nil)) ⟨w, _, rfl, .ref h'.objs.size, _, rfl, rfl, q _ I2.fresh⟩
theorem qs_star {i j k : Nat} {x y : Str} {px py ps p' : Pos} {e : Expr} {te : DTE} (hc : X.calm = true) (hN : X.N.Nodup) (hi : X.N[i]? = some x) (hj : X.N[j]? = some y) (hx : Loc X.env.scope x) (hy : Loc X.env.scope y) (hfx : X.fn x = true ∨ X.env.scope.names.lookup x = some .local) (hfy : X.fn y = true ∨ X.env.scope.names.lookup y = some .local) (he : QE X T W e te)
    (hs : swapsWithSole [.Tuple [.Name x px, .Starred (.Name y py) ps] k p'] e pos.line X.env = pure false := by rfl) (hw : swappedStores [.Tuple [.Name x px, .Starred (.Name y py) ps] k p'] e X.env = pure none := by rfl) :
    QS X T W (.Assign [.Tuple [.Name x px, .Starred (.Name y py) ps] k p'] e pos) (sStar i j te) :=
  PS.imp (ps_asg he (pg_star hc hN hi hj hx hy hfx hfy) hs hw rfl) fun D σ H ⟨env, F, G, E, DE, hg, hs, hx, ht, hn, hr⟩ => ⟨env, F, G, E, _, hg, hs, hx, ht, fun d F1 G1 v1 H1 ⟨x, xs, ex, p⟩ s1 g1 r1 => by
    obtain ⟨a, vs, rfl, h, ⟨w, ws, rfl, rw', rt⟩⟩ := asL_ok g1 r1 ex
    refine ⟨a, w, ws, rfl, .inl h, fun q hq => hn _ (fadd F1 q) G1 _ _ p (s1.trans (Step.new hq)) (g1.new hq) ?_⟩
    exact (((hs.step s1).set rw').step (Step.new (G := G1) hq)).set (relD_newLst g1 hq rt)⟩
/-! while -/
theorem qs_while {c : Expr} {body : List Stmt} {tc : DTT} {tb : DTS} (hp : PassesOwn (model X.prog X.w) X.A X.env X.xe) (hc : QT X T W c tc) (hb : QSs X T W body tb) : QS X T W (.While c body [] pos) (sWhile tc tb) :=
  PS.imp (ps_while hp hc hb) fun D σ H ⟨env, F, G, E, DE, hg, hs, hx, ⟨n, ht⟩, hn, hr⟩ => by
    refine ⟨fun m σ2 H2 => ∃ env2 F2 G2, Step F G H F2 G2 H2 ∧ RelG X.K T F2 G2 H2 ∧ RelSt X.K F2 H2 env2 σ2 ∧ dWhile E tc tb DE m env2 G2, ⟨n, env, F, G, Step.refl, hg, hs, ht⟩, ?_⟩
    rintro m σ2 H2 ⟨env2, F2, G2, s2, g2, r2, w2⟩
    cases m with
    | zero => exact False.elim w2
    | succ m =>
      refine ⟨env2, F2, G2, E, _, g2, r2, hx.step s2, w2, fun b F3 G3 H3 p3 s3 g3 => ?_⟩
      cases b with
      | true =>
        rw [if_pos rfl] at p3 ⊢
        exact ⟨fun σ' H' => ∃ env2 F2 G2, Step F G H F2 G2 H' ∧ RelG X.K T F2 G2 H' ∧ RelSt X.K F2 H' env2 σ' ∧ dWhile E tc tb DE m env2 G2, fun σ' H' w => ⟨m, Nat.lt_succ_self m, w⟩,
          env2, F3, G3, E, _, g3, r2.step s3, hx.step (s2.trans s3), p3, fun env' F' G' σ' H' p' s' g' r' => ⟨env', F', G', s2.trans (s3.trans s'), g', r', p'⟩, fun d F' G' v H' p' s' g' r' => hr d F' G' v H' p' (s2.trans (s3.trans s')) g' r'⟩
      | false =>
        rw [if_neg Bool.false_ne_true] at p3 ⊢
        exact hn env2 F3 G3 σ2 H3 p3 (s2.trans s3) g3 (r2.step s3)
end
end DL

namespace DL
open PySem PySem.Spec PyProof.Rows L2 TL
variable {T : LT}
/-! ### texts -/
/-- split at a sign -/
def splC (c : Char) (acc : List Char) : List Char → List (List Char)
  | [] => [acc]
  | d :: r => if d = c then acc :: splC c [] r else splC c (acc ++ [d]) r
def splitS (s : String) (c : Char) : List String := (splC c [] s.toList).map String.ofList
def joinC (sep : List Char) : List (List Char) → List Char
  | [] => []
  | [x] => x
  | x :: y :: r => x ++ sep ++ joinC sep (y :: r)
def joinS (sep : String) (xs : List String) : String := String.ofList (joinC sep.toList (xs.map String.toList))
theorem S_ofList (l : List Char) : TL.tl (S (String.ofList l)) = l.map Char.toNat := by
  rw [show TL.tl (S (String.ofList l)) = (S (String.ofList l)).cps.toList from rfl, S_cps]
  simp
theorem S_tl (s : String) : TL.tl (S s) = s.toList.map Char.toNat := S_cps s
theorem spl_chars (c : Char) : ∀ (l acc : List Char), spl [c.toNat] 0 (acc.map Char.toNat) (l.map Char.toNat) = (splC c acc l).map (List.map Char.toNat)
  | [], acc => by simp [splC, spl_nil]
  | d :: r, acc => by
    rw [List.map_cons]
    by_cases h : d = c
    · rw [spl_hit (by simp [pre, h])]
      unfold splC
      rw [if_pos h, List.map_cons]
      exact congrArg _ (spl_chars c r [])
    · have hp : pre [c.toNat] (d.toNat :: r.map Char.toNat) = false := by
        simp only [pre, List.length_singleton, List.take_succ_cons, List.take_zero, beq_eq_false_iff_ne, ne_eq, List.cons.injEq, and_true]
        exact fun e => h (Char.ext (UInt32.toNat_inj.mp e))
      rw [show spl [c.toNat] 0 (acc.map Char.toNat) (d.toNat :: r.map Char.toNat) = spl [c.toNat] 0 (acc.map Char.toNat ++ [d.toNat]) (r.map Char.toNat) by
        rw [spl]; rw [if_neg (by rw [hp]; decide)]]
      unfold splC
      rw [if_neg h]
      have := spl_chars c r (acc ++ [d])
      rwa [List.map_append] at this
theorem split_S (s : String) (c : Char) (hc : c.toNat < 256) : Txt.split (S s) (S (String.singleton c)) = (splitS s c).map S := by
  apply map_tl_inj
  have e1 : TL.tl (S (String.singleton c)) = [c.toNat] := by rw [S_single]
  rw [split_spl _ _ (by rw [e1]; simp) (kind_ok (by rw [S_single]; simp [hc])), e1, S_tl]
  have := spl_chars c s.toList []
  rw [List.map_nil] at this
  rw [this]
  unfold splitS
  rw [List.map_map, List.map_map]
  apply List.map_congr_left
  intro l _
  simp only [Function.comp]
  exact (S_ofList l).symm
theorem join_tl (sep : List Char) : ∀ xs : List (List Char), joinL (sep.map Char.toNat) (xs.map (List.map Char.toNat)) = (joinC sep xs).map Char.toNat
  | [] => rfl
  | [x] => rfl
  | x :: y :: r => by
    show x.map Char.toNat ++ (sep.map Char.toNat ++ joinL (sep.map Char.toNat) ((y :: r).map (List.map Char.toNat))) = (x ++ sep ++ joinC sep (y :: r)).map Char.toNat
    rw [join_tl sep (y :: r)]
    simp
theorem join_S (sep : String) (xs : List String) : Txt.join (S sep) (xs.map S) = S (joinS sep xs) := by
  apply ext_tl
  rw [join_eq, tl_join]
  unfold joinS
  rw [S_ofList, S_tl, ← join_tl, List.map_map, List.map_map]
  congr 1
  exact List.map_congr_left fun s _ => S_tl s
def mSplit : DMF := fun G x xs => match x, xs with
  | .str a, [.str b] => match signOf b with
    | some c => if c.toNat < 256 ∧ a.length + 2 ≤ 16000000 then some (.lst ((splitS a c).map .str), G) else none
    | none => none
  | _, _ => none
def mJoin : DMF := fun G x xs => match x, xs with
  | .str a, [d] => match asQ G d with
    | some ys => match allS ys with
      | some zs => if (zs.map String.length).sum + zs.length * a.length ≤ 16000000 then some (.str (joinS a zs), G) else none
      | none => none
    | none => none
  | _, _ => none
def pyIntS (G : DG) : List D → Option D
  | [.str s] => if s.length ≤ 640 then (PySem.intText? (S s)).map .int else none
  | xs => pyInt1 G xs
def pyStr (_ : DG) : List D → Option D
  | [.int i] => if i.natAbs < 2 ^ 1000 then some (.str (toString i)) else none
  | [.str s] => some (.str s)
  | _ => none
theorem signOf_eq {b : String} {c : Char} (h : signOf b = some c) : b = String.singleton c := by
  unfold signOf at h
  split at h
  · rename_i d e
    cases h
    apply String.toList_inj.mp
    rw [e]
    simp
  · cases h
section
variable {X : Cx}
theorem mt_mSplit : MtR X "str.split" (rDM X.K T mSplit) := by
  rintro pins s σ H x xs v us Q I rx rs ⟨F, G, d, ds, z, G', hg, r1, r2, e, q⟩
  unfold mSplit at e
  split at e
  · rename_i a b
    split at e
    · rename_i c ec
      split at e
      · rename_i hc
        cases e
        obtain ⟨w, rfl, rw'⟩ := r2.one
        have hb := signOf_eq ec
        refine mt_split pins s σ H x _ v us Q I rx rs ⟨S a, S b, r1, by rw [show w = V.str (S b) from rw'], by rw [hb, S_single]; rfl, by rw [S_len]; exact Nat.le_trans hc.2 (by decide), fun p hp => ?_⟩
        rw [hb, split_S a c hc.1]
        refine q _ _ _ (Step.new hp) (hg.new hp) (relD_newLst hg hp ?_)
        have := relDs_strs (K := X.K) (F := F) (H := H) (splitS a c)
        rw [List.map_map]
        exact this
      · cases e
    · cases e
  · cases e
theorem mt_mJoin : MtR X "str.join" (rDM X.K T mJoin) := by
  rintro pins s σ H x xs v us Q I rx rs ⟨F, G, d, ds, z, G', hg, r1, r2, e, q⟩
  unfold mJoin at e
  split at e
  · rename_i a d
    split at e
    · rename_i ys ey
      split at e
      · rename_i zs ez
        split at e
        · rename_i hl
          cases e
          obtain ⟨w, rfl, rw'⟩ := r2.one
          obtain ⟨p, vs, rfl, h, k⟩ := asQ_ok hg rw' ey
          rw [allS_eq ez] at k
          have ev := k.strs
          rw [show (zs.map fun s => V.str (S s)) = (zs.map S).map V.str by rw [List.map_map]; rfl] at ev
          rw [ev] at h
          refine mt_join pins s σ H x _ v us Q I rx rs ⟨S a, p, zs.map S, r1, rfl, h, ?_, by rw [join_S]; exact q F _ H Step.refl hg rfl⟩
          rw [List.map_map, List.length_map, S_len]
          rw [show (fun x : Str => x.length) ∘ S = String.length from funext fun s => S_len s]
          exact Nat.le_trans hl (by decide)
        · cases e
      · cases e
    · cases e
  · cases e
theorem call_pyIntS : CallR X (.type "int") (rDB X.K T pyIntS) := by
  rintro pins s σ H xs us Q I rs ⟨F, G, ds, z, hg, r, e, q⟩
  unfold pyIntS at e
  split at e
  · rename_i t
    split at e
    · rename_i hl
      obtain ⟨n, en, rfl⟩ := Option.map_eq_some_iff.mp e
      obtain ⟨v, rfl, rv⟩ := r.one
      exact call_int_str pins s σ H _ us Q I rs ⟨S t, n, by rw [show v = _ from rv], en, by rw [S_len]; exact hl, q _ _ H Step.refl hg rfl⟩
    · cases e
  · exact call_pyInt1 (T := T) pins s σ H xs us Q I rs ⟨F, G, _, z, hg, r, e, q⟩
theorem call_pyStr : CallR X (.type "str") (rDB X.K T pyStr) := by
  rintro pins s σ H xs us Q I rs ⟨F, G, ds, z, hg, r, e, q⟩
  unfold pyStr at e
  split at e
  · split at e
    · rename_i hl
      cases e
      obtain ⟨v, rfl, rv⟩ := r.one
      refine call_str_int pins s σ H _ us Q I rs ⟨_, by rw [show v = _ from rv], ?_, q _ _ H Step.refl hg rfl⟩
      rename_i i
      by_cases h0 : i.natAbs = 0
      · rw [h0]; decide
      · have := (Nat.log2_lt h0).mpr hl
        omega
    · cases e
  · cases e
    obtain ⟨v, rfl, rv⟩ := r.one
    exact SkE.call_str_str pins s σ H _ us Q I rs ⟨_, by rw [show v = _ from rv], q _ _ H Step.refl hg rfl⟩
  · cases e
end
end DL

namespace DL
open PySem PySem.Spec PyProof.Rows L2 LamX HotX L2H
variable {T : LT}
/-! ### while an exception is handled: comprehensions over a list -/
abbrev QIQ (X : Cx) (T : LT) (W : WX) (tg e : Expr) (t : DTI) : Prop := PIQ X tg e (liftI X.K T W t)
def dIterL (te : DTE) : DTI := fun E env G Q => te E env G fun d G1 => ∃ xs, asL G1 d = some xs ∧ Q xs (fun G' => asL G' d = some xs) G1
section
variable {X : Cx} {W : WX} {elt tg iter e : Expr} {ifs : List Expr} {scope : Scope} {pos : Pos} {wi : DTI} {g : Tg} {tt : DTT} {te : DTE}
theorem qiq_it (he : QE X T W e te) : QIQ X T W tg e (dIterL te) := fun pins s σ H R I ⟨env, F, G, E, P, hg, hs, hx, ht, hq⟩ => by
  refine piq_list he pins s σ H R I ⟨env, F, G, E, _, hg, hs, hx, ht, fun d F1 G1 v1 H1 ⟨ds, ed, p⟩ s1 g1 r1 => ?_⟩
  obtain ⟨a, vs, rfl, h, k⟩ := asL_ok g1 r1 ed
  refine ⟨a, rfl, ⟨vs, .inl h⟩, hq ds _ F1 G1 H1 _ p s1 g1 fun i F2 G2 H2 s2 g2 gd => ?_⟩
  obtain ⟨a', vs2, ea, h2, k2⟩ := asL_ok g2 (RelD.step s2 d r1) gd
  cases ea
  constructor
  · intro d' e'
    obtain ⟨x, ex, rx⟩ := k2.get e'
    refine ⟨⟨vs2, x, .inl h2, ex⟩, ?_⟩
    rintro y H3 ⟨rfl, hy⟩
    have := hy vs2 (.inl h2)
    rw [ex] at this
    cases this
    exact ⟨F2, Step.refl, g2, rx⟩
  · intro e'
    exact ⟨vs2, .inl h2, by rw [e', k2.length]; exact Nat.le_refl _⟩
theorem q_lcQ (own : List (Str × Nat)) (hot : HotC X) (hN : X.N.Nodup) (hi : QIQ X T W tg iter wi) (ok : BlkOk X.N X.env.scope scope own) (hv : tgIn g (own.map (·.2)) = true)
    (hg : ∀ (s : Shared) (H : Hp) (C : Addr) (cl : List (Str × Addr)) (fp : List Addr), PG (X.blk s H scope (compEnvC scope cl C X.env) fp) tg (vTg X.K g)) (ht : ∀ (s : Shared) (H : Hp) (C : Addr) (cl : List (Str × Addr)) (fp : List Addr), QTs (X.blk s H scope (compEnvC scope cl C X.env) fp) T WF ifs tt)
    (he : ∀ (s : Shared) (H : Hp) (C : Addr) (cl : List (Str × Addr)) (fp : List Addr), QE (X.blk s H scope (compEnvC scope cl C X.env) fp) T WF elt te) (hs : ∀ x, foldedSetIterable iter X.env x = pure x := by intro _; rfl) :
    QE X T W (.ListComp elt [⟨tg, iter, ifs, 0⟩] scope pos) (dLc wi g tt te (own.map (·.2))) := PE.imp (pe_lcQ hot hN hi ok hg ht he hs) fun σ H Q h => lc_lift hv h
end
/-! ### the refusals -/
def refusals : List String := ["BadProgram", "BadRights", "BadNumber", "BadFeeds", "BadPaper", "BadName", "Taken", "NoName", "Nothing", "BadPicture", "BadLog", "BadText"]
def kinds13 : List String := ["BadProgram", "BadRights", "BadNumber", "BadFeeds", "BadPaper", "BadName", "Taken", "NoName", "TooMuch", "Nothing", "BadPicture", "BadLog", "BadText"]
structure ToldK (K : PySem.W.Frag) : Prop where
  exc : ∀ c ∈ refusals, ExcC K (He.ga K (S c))
  kit : ∀ c ∈ refusals, ∀ c' ∈ kinds13, PySem.W.kitOne K (.ref (He.ga K (S c))) (.ref (He.ga K (S c'))) = some (c == c')
  kitV : ∀ c ∈ refusals, PySem.W.kitOne K (.ref (He.ga K (S c))) (.type "ValueError") = some true
  exmT : ∀ c ∈ refusals, PySem.W.exmOne K (.ref (He.ga K (S c))) (.ref (He.ga K (S "TooMuch"))) = some false
  exmC : ∀ c ∈ refusals, PySem.W.exmOne K (.ref (He.ga K (S c))) (.ref (He.ga K (S "CageError"))) = some true
def excB (K : PySem.W.Frag) (D : Addr) : Bool :=
  decide (PySem.W.findIn K (.ref D) "__getattribute__" = some (some (.builtin "BaseException.__getattribute__"))) && (decide (PySem.W.findIn K (.ref D) "__getattr__" = some none) && (decide (PySem.W.subIn K (.ref D) (.type "BaseException") = some true) && (PySem.W.hasDictIn K D &&
    (decide (PySem.W.findIn K (.ref D) "__class__" = some (some (.builtin "object.__class__"))) && (decide (PySem.W.specialIn K (.builtin "object.__class__") "__get__" = some (some (.builtin "getset_descriptor.__get__"))) &&
      (decide (PySem.W.takesIn K (.builtin "object.__class__") = some true) && decide (PySem.W.mroIn K D (.type "object") = some true)))))))
theorem excB_ok {K : PySem.W.Frag} {D : Addr} (h : excB K D = true) : ExcC K D := by
  unfold excB at h
  simp only [Bool.and_eq_true, decide_eq_true_eq] at h
  exact ⟨h.1, h.2.1, h.2.2.1, h.2.2.2.1, h.2.2.2.2.1, h.2.2.2.2.2.1, h.2.2.2.2.2.2.1, h.2.2.2.2.2.2.2⟩
def toldB (K : PySem.W.Frag) : Bool := refusals.all fun c => excB K (He.ga K (S c)) && ((kinds13.all fun c' => decide (PySem.W.kitOne K (.ref (He.ga K (S c))) (.ref (He.ga K (S c'))) = some (c == c'))) &&
  (decide (PySem.W.kitOne K (.ref (He.ga K (S c))) (.type "ValueError") = some true) && (decide (PySem.W.exmOne K (.ref (He.ga K (S c))) (.ref (He.ga K (S "TooMuch"))) = some false) && decide (PySem.W.exmOne K (.ref (He.ga K (S c))) (.ref (He.ga K (S "CageError"))) = some true))))
theorem toldB_ok {K : PySem.W.Frag} (h : toldB K = true) : ToldK K := by
  unfold toldB at h
  rw [List.all_eq_true] at h
  have g := fun c hc => by
    have := h c hc
    simp only [Bool.and_eq_true, decide_eq_true_eq, List.all_eq_true] at this
    exact this
  exact ⟨fun c hc => excB_ok (g c hc).1, fun c hc c' hc' => (g c hc).2.1 c' hc', fun c hc => (g c hc).2.2.1, fun c hc => (g c hc).2.2.2.1, fun c hc => (g c hc).2.2.2.2⟩
/-! isinstance(e, C) of the handled exception at a -/
def dIsE (i : Nat) (a : Addr) (b : Bool) : DTE := fun _ env G Q => env[i]? = some (some (.ref a)) ∧ Q (.bl b) G
section
variable {X : Cx} {W : WX} {a D : Addr} {oe : Obj} {e : Str} {i : Nat} {p1 p2 p3 pos : Pos} {b : Bool}
theorem q_isE {x : Str} {cv : Value} {c : V} (C : ExcC X.K D) (hz : Zc (.ref D) none oe) (hf : ∃ vs, oe.data = .fields vs) (hp : (a, oe) ∈ X.pn) (hg : Gl X "isinstance") (hm : X.mg "isinstance" = none) (hN : X.N[i]? = some e) (hv : Vis X.env.scope e)
    (hc : PE X (.Name x p3) (tC c)) (hcv : ∀ u, RelV c u → u = cv) (hk : PySem.W.kitOne X.K (.ref D) cv = some b) (hd : (e == ("__debug__" : Str)) = false := by decide) (hcd : (e == ("__classdict__" : Str)) = false := by decide) :
    QE X T W (.Call (.Name "isinstance" p1) [.Name e p2, .Name x p3] [] pos) (dIsE i a b) :=
  PE.imp (pe_callB (call_isP C hz hf hp) hg hm PyProof.Rows.boot_isinstance (pa_cons (pe_var hN hv hd hcd) (pa_cons hc pa_nil))) fun σ H Q ⟨env, F, G, E, P, hg, hs, hx, ⟨ht, p⟩, hq⟩ => by
    obtain ⟨v, ev, rv⟩ := hs.get ht
    exact ⟨v, ev, c, cv, b, by rw [show v = V.ref a from rv], hcv, hk, hq _ F G _ H p Step.refl hg rfl⟩
end
end DL

namespace DL
open PySem PySem.Spec PyProof.Rows L2 LamX HotX L2H
variable {T : LT}
/-! ### told -/
/-- what the def term promises of the handled exception p -/
def spTerm (K : PySem.W.Frag) (T : LT) : SpT := fun p vs H Q => ∃ F G c, RelG K T F G H ∧ vs = [.ref p.1] ∧ Zc (.ref (He.ga K (S c))) none p.2 ∧ (∃ fs, p.2.data = .fields fs) ∧ c ∈ refusals ∧
  ∀ F' v H', Step F G H F' G H' → RelG K T F' G H' → RelD K F' H' (.tup [.str "refused", .str c]) v → Q v H'
structure DTerm (P : Program) (w : World) (K : PySem.W.Frag) (T : LT) (mg : Str → Option Value) (base : Heap) (k : Nat) : Prop where
  ok : ∃ fd, FnT P w K mg base k (He.ga K "_law_term") fd ["e"] (spTerm K T) ∧ L2.Binds K fd ["e"] []
  mg : mg "_law_term" = some (.ref (He.ga K "_law_term"))
  kp : PySem.W.keepIn K (.ref (He.ga K "_law_term")) = true
/-- the promise from the body's derivation, p held fast -/
theorem dterm_of {P : Program} {w : World} {K : PySem.W.Frag} {mg : Str → Option Value} {base : Heap} {k : Nat} {params : Arguments} {body : List Stmt} {scope : Scope} {fd : FuncData} {N : List Str} {t : Addr → String → DTS}
    (F : FunD K "_law_term" "_law_term" params body scope [] [] (He.ga K "_law_term") fd) (hmg : mg "_law_term" = some (.ref (He.ga K "_law_term"))) (Sc : FnScope N ["e"] scope)
    (hb : ∀ (kV doc pm : Value) (an : Option Addr) (cdv ct : Value) (us : List Value), us.length = 1 → bindArgs (PySem.W.fnOf "_law_term" "_law_term" params body scope .none kV doc pm an cdv ct) ⟨us, []⟩ = pure ((["e"] : List Str).zip us))
    (hbody : ∀ (cdv : Value) (A : Around) (outer : List Env) (s : Shared) (H : Hp) (p : Addr × Obj) (c : String), Hot1 A p → RoomH k (A.deeper (envOfC "_law_term" scope s.heap.objs.size (He.ga K "_law_term") cdv)) → Zc (.ref (He.ga K (S c))) none p.2 → (∃ fs, p.2.data = .fields fs) → c ∈ refusals →
      QSs (cxH C8.CX0 P w K mg base N "_law_term" scope (He.ga K "_law_term") cdv A outer s H C8.E0 p) T WF body (t p.1 c))
    (hsp : ∀ a c G (Q : DK), c ∈ refusals → Q (.tup [.str "refused", .str c]) G → t a c EF { nx := fun _ G' => Q .non G', rt := Q } (dstart N [.ref a]) G) : DTerm P w K T mg base (k + 1) := by
  refine ⟨⟨fd, fnT_of F Sc ?_ ?_, F.bindsN hb⟩, hmg, F.kp⟩
  · rintro p vs H Q ⟨F, G, c, _, rfl, _⟩
    rfl
  · rintro cdv A outer s H vs Q p hot hr ⟨F, G, c, hg, rfl, hz, hf, hc, hq⟩
    refine ⟨_, hbody cdv A outer s H p c hot hr hz hf hc, dstart N [.ref p.1], F, G, EF, { nx := fun _ G' => G' = G ∧ False, rt := fun d G' => d = .tup [.str "refused", .str c] ∧ G' = G }, hg, relSt_start ⟨_, _, rfl, rfl, rfl⟩, fun _ _ _ _ _ _ _ _ z => z.elim, ?_, fun _ _ _ _ _ z => z.2.elim, ?_⟩
    · exact hsp p.1 c G (fun d G' => d = .tup [.str "refused", .str c] ∧ G' = G) hc ⟨rfl, rfl⟩ |> fun h => by
        have e : (fun (_ : DSt) (G' : DG) => (fun (d : D) (G' : DG) => d = .tup [.str "refused", .str c] ∧ G' = G) .non G') = fun _ G' => G' = G ∧ False := by
          funext _ G'
          simp
        rw [e] at h
        exact h
    · rintro d F' G' v H' ⟨rfl, rfl⟩ st g r
      exact hq F' v H' st g r
def toldX (P : DK) : DXK := fun x _ G => ∃ c, x = (c, none) ∧ c ∈ refusals ∧ P (.tup [.str "refused", .str c]) G
def dTold (te : DTE) : DTE := fun _ env G Q => te (toldX Q) env G Q
/-- the tables' growth leaves the rest -/
theorem extN_step {F : FS} {G : DG} {H H1 : Hp} (e : ExtN H H1) (hg : ∀ a, F a → ∃ o, H a = some o ∧ isDat (strip o) = true) : Step F G H F G H1 := by
  refine ⟨fun a o f h => ⟨f, o, e a o h fun ps z => ?_, rfl⟩, fun a o f g h pl => ⟨f, g, e a o h fun ps z => ?_⟩⟩
  · obtain ⟨o', h', d⟩ := hg a f
    rw [h] at h'
    cases h'
    rw [z] at d
    cases d
  · rw [z] at pl
    cases pl
theorem extN_relG {K : PySem.W.Frag} {F : FS} {G : DG} {H H1 : Hp} (e : ExtN H H1) (t : Tabs T H1) (hg : RelG K T F G H) : RelG K T F G H1 := by
  have st := extN_step (G := G) e fun a f => (hg.fz a f).2
  refine hg.to st (fun a f => .inl f) t fun a o ga => ?_
  obtain ⟨u, hu, pu⟩ := hg.obj ga
  rw [hu]
  exact e a u hu fun ps z => by rw [z] at pu; cases pu
/-- told's own reading -/
def TTold (K : PySem.W.Frag) (T : LT) : (XK → Hp → VK → Prop) → Hp → VK → Prop := fun tl H Q =>
  tl (fun cls d H' => ∃ F G c, c ∈ refusals ∧ cls = .ref (He.ga K (S c)) ∧ d = none ∧ RelG K T F G H' ∧ ∀ F' v H'', Step F G H' F' G H'' → RelG K T F' G H'' → RelD K F' H'' (.tup [.str "refused", .str c]) v → Q v H'') H Q
section
variable {X : Cx}
theorem told_gives {sg : Scope} {g : Addr} {cdg : Value} {q : Str} {k : Nat} {b1 : Stmt} {p1 p2 p3 p4 p5 p6 p7 p8 p9 p10 p11 : Pos} (tk : ToldK X.K) (FT : DTerm X.prog X.w X.K T X.mg X.base k)
    (hge : sg.names.lookup ("e" : Str) = some .local) (hgm : sg.names.lookup ("TooMuch" : Str) = some .globalImplicit) (hgc : sg.names.lookup ("CageError" : Str) = some .globalImplicit) (hgt : sg.names.lookup ("_law_term" : Str) = some .globalImplicit)
    (hmm : X.mg "TooMuch" = some (.ref (He.ga X.K (S "TooMuch")))) (hmc : X.mg "CageError" = some (.ref (He.ga X.K (S "CageError")))) :
    Gives X ["deed", "e"] "_law_told" sg g cdg [.Try [.Return (some (.Call (.Name "deed" p1) [] [] p2)) p3]
      [.ExceptHandler (some (.Name "TooMuch" p4)) (some "e") [b1] p5, .ExceptHandler (some (.Name "CageError" p6)) (some "e") [.Return (some (.Call (.Name "_law_term" p7) [.Name "e" p8] [] p9)) p10] p11] [] [] pos] "deed" q (TTold X.K T) k := by
  intro f c' s H Q tl hr act hc h
  obtain ⟨fd, F1, B⟩ := FT.ok
  have hn : (["deed", "e"] : List Str).Nodup := by decide
  refine ⟨_, pss_one (ps_tryN (X := (DefX X ["deed", "e"] "_law_told" sg g cdg s H).nox) (n := "e") (i := 1) (Wo := WF)
      (l := [(.ref (He.ga X.K (S "TooMuch")), fun _ _ _ _ _ _ => False), (.ref (He.ga X.K (S "CageError")), fun a cls d D σ H => (σ.length = 2 → σ[1]? = some (some (.ref a))) ∧ ∃ F G c, c ∈ refusals ∧ cls = .ref (He.ga X.K (S c)) ∧ d = none ∧ RelG X.K T F G H ∧
        ∀ F' v H', Step F G H F' G H' → RelG X.K T F' G H' → RelD X.K F' H' (.tup [.str "refused", .str c]) v → D.rt v H')])
      (tb := fun W D σ H => ∃ Ech : XK, (∀ cls d σ' H', Ech cls d H' → W cls d σ' H') ∧ σ[0]? = some (some (.ref f)) ∧ H c' = some (CodeO c' q) ∧ tl Ech H D.rt)
      rfl rfl hn rfl hge ?wo ?body (.cons ⟨hgm, by decide, .inl hmm⟩ ?s1 (.cons ⟨hgc, by decide, .inl hmc⟩ ?s2 .nil))), ?run⟩
  case wo =>
    rintro u s' ⟨_, _, _, _, _, _, _, _, _, _, _, _, _, _, _, _, z⟩
    exact z.elim
  case body =>
    intro W pn xe tk' _
    constructor
    rintro pins s' σ H' D I ⟨Ech, hW, h1, h2, h3⟩
    exact (pss_one (ps_ret (pos := p3) (act W pn xe Ech p1 p2 tk' hW))).run pins s' σ H' D I ⟨h1, h2, h3⟩
  case s1 =>
    intro a oe cls d pn hz hf
    exact ⟨fun pins s σ H D I z => z.elim⟩
  case s2 =>
    intro a oe cls d pn hz hf
    obtain ⟨fs, hfs⟩ := hf
    have hot : Hot1 ((DefX X ["deed", "e"] "_law_told" sg g cdg s H).nox.suite a ((a, oe) :: pn)).A (a, oe) := ⟨rfl, fs, hfs, hz.2.2 fs hfs⟩
    have hr' : RoomH k ((DefX X ["deed", "e"] "_law_told" sg g cdg s H).nox.suite a ((a, oe) :: pn)).A := roomH_mark (hr.mono (Nat.le_succ k)) _
    have run := (pss_one (ps_ret (pos := p10) (pe_callT (q := p7) (pos := p9) (X := (DefX X ["deed", "e"] "_law_told" sg g cdg s H).nox.suite a ((a, oe) :: pn)) (p := (a, oe)) F1 hr' hot List.mem_cons_self hgt FT.mg FT.kp B (pa_cons (pe_var (pos := p8) (i := 1) (x := "e") rfl (Or.inl hge)) pa_nil))))
    constructor
    rintro pins s' σ H' D I ⟨hσ, F, G, c, hcr, rfl, rfl, hg, hq⟩
    exact run.run pins s' σ H' D I ⟨.ref a, hσ I.len, F, G, c, hg, rfl, hz.zc, ⟨fs, hfs⟩, hcr, hq⟩
  case run =>
    refine ⟨_, fun cls d σ' H' hE => ?_, rfl, hc, h⟩
    obtain ⟨F, G, c, hcr, rfl, rfl, hg, hq⟩ := hE
    refine ⟨false, tk.exmT c hcr, fun z => (Bool.false_ne_true z).elim, fun _ => ⟨true, tk.exmC c hcr, fun _ a ha => ⟨fun hl => ?_, F, G, c, hcr, rfl, rfl, hg, hq⟩, fun z => (Bool.noConfusion z)⟩⟩
    rw [List.length_set] at hl
    exact List.getElem?_set_self (by omega)
/-- the tables of lambdas -/
structure LamT (X : Cx) (T : LT) : Prop where
  ex : ∃ c P, TabB X.base X.mg c P ∧ X.env.code = .ref c ∧ (P, X.env.qual ++ "<lambda>") ∈ T ∧ ∀ p ∈ T, p.1 = P → p.2 = X.env.qual ++ "<lambda>"
/-- told as the top has left it -/
structure DTold (P : Program) (w : World) (K : PySem.W.Frag) (T : LT) (mg : Str → Option Value) (base : Heap) (k : Nat) : Prop where
  mgt : mg "_law_told" = some (.ref (He.ga K "_law_told"))
  gv : ∀ X : Cx, X.prog = P → X.w = w → X.K = K → X.mg = mg → X.base = base → ∃ (pg : Arguments) (bg : List Stmt) (sg : Scope) (dV kV doc pm cdv ct oc : Value) (an od : Option Addr) (osl : Array (Option Value)),
    K.lookup (He.ga K "_law_told") = some ⟨oc, od, .func (PySem.W.fnOf "_law_told" "_law_told" pg bg sg dV kV doc pm an cdv ct), osl⟩ ∧ PySem.W.codeIn K cdv "_law_told" = true ∧ L2.Binds K (PySem.W.fnOf "_law_told" "_law_told" pg bg sg dV kV doc pm an cdv ct) ["deed"] [] ∧ FnScope ["deed", "e"] ["deed"] sg ∧ Vis sg "deed" ∧
      ∀ q, Gives X ["deed", "e"] "_law_told" sg (He.ga K "_law_told") cdv bg "deed" q (TTold K T) k
  kp : PySem.W.keepIn K (.ref (He.ga K "_law_told")) = true
theorem dtold_of {P : Program} {w : World} {K : PySem.W.Frag} {mg : Str → Option Value} {base : Heap} {k : Nat} {params : Arguments} {scope : Scope} {fd : FuncData} {b1 : Stmt} {p1 p2 p3 p4 p5 p6 p7 p8 p9 p10 p11 p12 : Pos}
    (F : FunD K "_law_told" "_law_told" params [.Try [.Return (some (.Call (.Name "deed" p1) [] [] p2)) p3]
      [.ExceptHandler (some (.Name "TooMuch" p4)) (some "e") [b1] p5, .ExceptHandler (some (.Name "CageError" p6)) (some "e") [.Return (some (.Call (.Name "_law_term" p7) [.Name "e" p8] [] p9)) p10] p11] [] [] p12] scope [] [] (He.ga K "_law_told") fd) (hmg : mg "_law_told" = some (.ref (He.ga K "_law_told"))) (Sc : FnScope ["deed", "e"] ["deed"] scope)
    (hb : ∀ (body : List Stmt) (kV doc pm : Value) (an : Option Addr) (cdv ct : Value) (us : List Value), us.length = 1 → bindArgs (PySem.W.fnOf "_law_told" "_law_told" params body scope .none kV doc pm an cdv ct) ⟨us, []⟩ = pure ((["deed"] : List Str).zip us))
    (tk : ToldK K) (FT : DTerm P w K T mg base k) (hvd : Vis scope "deed")
    (hge : scope.names.lookup ("e" : Str) = some .local) (hgm : scope.names.lookup ("TooMuch" : Str) = some .globalImplicit) (hgc : scope.names.lookup ("CageError" : Str) = some .globalImplicit) (hgt : scope.names.lookup ("_law_term" : Str) = some .globalImplicit)
    (hmm : mg "TooMuch" = some (.ref (He.ga K (S "TooMuch")))) (hmc : mg "CageError" = some (.ref (He.ga K (S "CageError")))) : DTold P w K T mg base k := by
  have bd := F.bindsN (ps := ["deed"]) (fun kV doc pm an cdv ct us hl => hb _ kV doc pm an cdv ct us hl)
  refine ⟨hmg, ?_, F.kp⟩
  rintro X rfl rfl rfl rfl rfl
  obtain ⟨oc, od, dV, kV, doc, pm, an, cdv, ct, osl, rfl, lk, hcd, _, _⟩ := F.ex
  exact ⟨_, _, _, dV, kV, doc, pm, cdv, ct, oc, an, od, osl, lk, hcd, bd, Sc, hvd, fun q => told_gives tk FT hge hgm hgc hgt hmm hmc⟩
theorem q_told {W : WX} {params : Arguments} {body : Expr} {scope : Scope} {te : DTE} {p lpos pos : Pos} {k j : Nat} (FT : DTold X.prog X.w X.K T X.mg X.base k) (LTb : LamT X T) (hg : Gl X "_law_told") (hr : Room j X.A) (hj : k + 2 ≤ j) (L : LamS X.env.scope scope)
    (hbody : ∀ (A : Around) (outer : List Env) (s : Shared) (H : Hp) (E : XK) (f c' : Addr), Room k (A.deeper (lamEnv X scope s.heap.objs.size f c')) → QE (lamN X A outer s H E scope f c') T (fun cls d _ H' => E cls d H') body te)
    (hdef : defaultsOf params X.env = ([], []) := by rfl)
    (hbind : ∀ (q : Str) (cl : List (Str × Addr)) (pm cv ctv : Value), bindArgs (PySem.W.kla_fn "<lambda>" q params body scope cl pm cv ctv) ⟨[], []⟩ = pure [] := by intros; rfl) :
    QE X T W (.Call (.Name "_law_told" p) [.Lambda params body scope lpos] [] pos) (dTold te) := by
  obtain ⟨pg, bg, sg, dV, kV, doc, pm, cdv, ct, oc, an, od, osl, lk, hcg, hb, Sg, hva, gv⟩ := FT.gv X rfl rfl rfl rfl rfl
  obtain ⟨c, P, TB, hcode, hmT, hu⟩ := LTb.ex
  refine PE.imp (pe_lamto (t := fun E => liftE X.K T (fun cls d _ H' => E cls d H') te) hg FT.mgt FT.kp lk hcg hb Sg rfl hva (gv _) TB hcode hmT hu (hr.mono hj) L hdef hbind hbody (by decide) (by decide) (by decide)) ?_
  rintro σ H Q ⟨env, F, G, E, Pk, hG, hs, hx, ht, hq⟩
  refine ⟨hG.tb, fun H1 eN T1 => ?_⟩
  have st := extN_step (G := G) eN fun a f => (hG.fz a f).2
  have g1 := extN_relG eN T1 hG
  refine ⟨env, F, G, toldX Pk, Pk, g1, hs.step st, ?_, ht, fun d F' G' v H' p s' g' r' => hq d F' G' v H' p (st.trans s') g' r'⟩
  rintro x env' F' G' cls d σ' H' ⟨c0, rfl, hc0, p⟩ s' g' rs ⟨rfl, rfl⟩
  exact ⟨F', G', c0, hc0, rfl, rfl, g', fun F2 v H2 s2 g2 r2 => hq _ F2 G' v H2 p (st.trans (s'.trans s2)) g2 r2⟩
end
end DL

namespace DL
open PySem PySem.Spec PyProof.Rows L2 LamX HotX L2H
variable {T : LT}
/-! ### for the printed walk -/
def spOf (N : List Str) (n : Nat) (t : DTS) : DSp := fun ds G Q E => ds.length = n ∧ t (fun x _ G' => E x G') { nx := fun _ G' => Q .non G', rt := Q } (dstart N ds) G
theorem takesF {X : Cx} : L2N.Takes X WF := fun _ _ x => by
  obtain ⟨_, _, _, _, _, _, _, _, _, _, _, _, _, _, _, _, z⟩ := x
  exact z.elim
structure XcK (K : PySem.W.Frag) (mg : Str → Option Value) (c : String) : Prop where
  ok : (He.Fa.exc (S c)).ok K = true
  mg : mg (S c) = some (.ref (He.ga K (S c)))
theorem dxc {X : Cx} {c : String} (x : XcK X.K X.mg c) : DXc X c := by
  obtain ⟨h1, h2, h3, h4⟩ := He.exc_ok x.ok
  exact ⟨h1, x.mg, h2, raises_own h3 h4⟩
theorem hotu {k : Nat} {A : Around} (r : RoomH k A) : A.units + 64 < cLine := by have := r.un; omega
theorem hotu1 {k : Nat} {A : Around} (r : RoomH k A) : A.units + 1 < cLine := by have := r.un; omega
section
variable {P : Program} {w : World} {K : PySem.W.Frag} {mg : Str → Option Value} {base : Heap} {k : Nat} {x : Str} {params : Arguments} {body : List Stmt} {scope : Scope} {fd : FuncData} {N ps : List Str} {t : DTS}
/-- a def whose code object is told (it makes lambdas) -/
theorem fnk_of (F : FunD K x x params body scope [] [] (He.ga K x) fd) (Sc : FnScope N ps scope)
    (hbody : ∀ (cdv : Value) (A : Around) (outer : List Env) (s : Shared) (H : Hp) (E : XK), cdv = .ref (He.codeOf K (x, none)) → Room k (A.deeper (envOfC x scope s.heap.objs.size (He.ga K x) cdv)) →
      QSs (cxOf (L2N.CX P w) P w K mg base N x scope (He.ga K x) cdv A outer s H E) T (fun cls d _ H' => E cls d H') body t) :
    FnOk P w K mg base (L2N.CX P w) (k + 1) (He.ga K x) fd ps (liftSp K T (spOf N ps.length t)) := by
  obtain ⟨oc, od, dV, kV, doc, pm, an, cdv, ct, osl, rfl, lk, hcd, _, _⟩ := F.ex
  obtain ⟨c, rfl⟩ := He.codeIn_ref hcd
  have ec : He.codeOf K (x, none) = c := He.codeOf_eq (p := (x, none)) lk rfl
  refine fn_of lk hcd Sc (fun vs H Q E h => ?_) fun A outer s H vs Q E hr h => ⟨_, hbody (.ref c) A outer s H E (by rw [ec]) hr, ?_⟩
  · obtain ⟨ds, F, G, P, Ed, hg, hr, hs, _⟩ := h
    rw [← hr.length]
    exact hs.1
  · obtain ⟨ds, F, G, P, Ed, hg, hr, hs, hq, hx⟩ := h
    exact ⟨dstart N ds, F, G, _, _, hg, relSt_start hr, fun x env' F' G' cls d σ' H' p s g r rx => hx x _ G' cls d H' p s g rx, hs.2, fun env' F' G' σ' H' p s g r => hq .non F' G' .non H' p s g rfl, hq⟩
theorem dfnk_of (F : ∃ fd, FunD K x x params body scope [] [] (He.ga K x) fd) (hmg : mg x = some (.ref (He.ga K x))) (Sc : FnScope N ps scope)
    (hb : ∀ (kV doc pm : Value) (an : Option Addr) (cdv ct : Value) (us : List Value), us.length = ps.length → bindArgs (PySem.W.fnOf x x params body scope .none kV doc pm an cdv ct) ⟨us, []⟩ = pure (ps.zip us))
    (hbody : ∀ (cdv : Value) (A : Around) (outer : List Env) (s : Shared) (H : Hp) (E : XK), cdv = .ref (He.codeOf K (x, none)) → Room k (A.deeper (envOfC x scope s.heap.objs.size (He.ga K x) cdv)) →
      QSs (cxOf (L2N.CX P w) P w K mg base N x scope (He.ga K x) cdv A outer s H E) T (fun cls d _ H' => E cls d H') body t) :
    DFn P w K T mg base (k + 1) x ps (spOf N ps.length t) := by
  obtain ⟨fd, F⟩ := F
  exact ⟨⟨fd, fnk_of F Sc hbody, F.bindsN hb⟩, hmg, F.kp⟩
end
theorem DTerm.mono {P : Program} {w : World} {K : PySem.W.Frag} {mg : Str → Option Value} {base : Heap} {j k : Nat} (h : DTerm P w K T mg base j) (hjk : j ≤ k) : DTerm P w K T mg base k := by
  obtain ⟨fd, F, B⟩ := h.ok
  exact ⟨⟨fd, ⟨F.len, fun p A outer s H args us vs Q hr => F.run p A outer s H args us vs Q (hr.mono hjk)⟩, B⟩, h.mg, h.kp⟩
/-! the law itself -/
def G0 : DG := fun _ => none
theorem relG_start {K : PySem.W.Frag} {H : Hp} {a : Addr} {ns : List Int} (hT : Tabs T H) (hS : SqL K H a (ns.map V.int)) : ∃ F, RelG K T F G0 H ∧ RelDs K F H [.scr ns] [.ref a] := by
  rcases hS with h | h
  · have hr : ∃ o, H a = some o ∧ strip o = .lst (ns.map V.int) := by
      rcases h with h | ⟨o, h⟩
      · exact ⟨_, h, rfl⟩
      · exact ⟨_, h, rfl⟩
    obtain ⟨o, ho, es⟩ := hr
    refine ⟨fun b => b = a, ⟨fun b hb => ⟨rfl, o, by rw [hb]; exact ho, by rw [es]; rfl⟩, hT, fun b o e => by cases e⟩, _, _, rfl, ⟨a, rfl, .inl ⟨⟨o, ho, es⟩, rfl⟩⟩, rfl⟩
  · exact ⟨fun _ => False, ⟨fun b hb => hb.elim, hT, fun b o e => by cases e⟩, _, _, rfl, ⟨a, rfl, .inr h⟩, rfl⟩
theorem law_sp {K : PySem.W.Frag} {sp : DSp} {H : Hp} {a : Addr} {ns : List Int} (hT : Tabs T H) (hS : SqL K H a (ns.map V.int)) (h : sp [.scr ns] G0 (fun d _ => d = .bl true) fun _ _ => False) : liftSp K T sp [.ref a] H (fun v _ => v = .bl true) fun _ _ _ => False := by
  obtain ⟨F, hg, hr⟩ := relG_start hT hS
  exact ⟨_, F, G0, _, _, hg, hr, h, fun d F' G' v H' e _ _ r => by rw [e] at r; exact r, fun _ _ _ _ _ _ z _ _ _ => z⟩
end DL

namespace DL
open PySem PySem.Spec PyProof.Rows L2
/-! ### readings that can be run: values without tracked objects -/
abbrev Ev (α : Type) := DSt → Option (Except DX α)
def endE (E : DXK) (env : DSt) (G : DG) {α : Type} (Q : α → DG → Prop) : Except DX α → Prop
  | .ok d => Q d G
  | .error x => E x env G
def bindE {α β : Type} (a : Option (Except DX α)) (f : α → Option (Except DX β)) : Option (Except DX β) := match a with
  | some (.ok x) => f x
  | some (.error x) => some (.error x)
  | none => none
def EvE (t : DTE) (e : Ev D) : Prop := ∀ env r, e env = some r → ∀ E G Q, endE E env G Q r → t E env G Q
def EvT (t : DTT) (e : Ev Bool) : Prop := ∀ env r, e env = some r → ∀ E G Q, endE E env G Q r → t E env G Q
def EvA (t : DTA) (e : Ev (List D)) : Prop := ∀ env r, e env = some r → ∀ E G Q, endE E env G Q r → t E env G Q
def EvO (t : DTO) (e : Ev (Option Int)) : Prop := ∀ env r, e env = some r → ∀ E G Q, endE E env G Q r → t E env G Q
def EvI (t : DTI) (e : Ev (List D)) : Prop := ∀ env r, e env = some r → ∀ E G Q, endE E env G (fun xs G => ∀ g : DG → Prop, (∀ G', g G') → Q xs g G) r → t E env G Q
inductive SR where
  | nx (env : DSt) | rt (d : D) | ex (x : DX) (env : DSt)
abbrev EvX := DSt → Option SR
def endS (E : DXK) (DE : DEnds) (G : DG) : SR → Prop
  | .nx env => DE.nx env G
  | .rt d => DE.rt d G
  | .ex x env => E x env G
def EvS (t : DTS) (e : EvX) : Prop := ∀ env r, e env = some r → ∀ E DE G, endS E DE G r → t E DE env G
theorem bind_ok {α β : Type} {a : Option (Except DX α)} {f : α → Option (Except DX β)} {r : Except DX β} (h : bindE a f = some r) : (∃ x, a = some (.ok x) ∧ f x = some r) ∨ ∃ x, a = some (.error x) ∧ r = .error x := by
  unfold bindE at h
  split at h
  · exact .inl ⟨_, rfl, h⟩
  · cases h; exact .inr ⟨_, rfl, rfl⟩
  · cases h
/-- what is read of values that know no tracked object is read so everywhere -/
def Mono1 (f : DG → D → Option D) : Prop := ∀ G x z, f G0 x = some z → f G x = some z
def Mono2 (f : DG → D → D → Option D) : Prop := ∀ G x y z, f G0 x y = some z → f G x y = some z
def MonoB (f : DG → List D → Option D) : Prop := ∀ G xs z, f G0 xs = some z → f G xs = some z
def MonoM (f : DMF) : Prop := ∀ G x xs z G', f G0 x xs = some (z, G') → f G x xs = some (z, G)
section
variable {t ta tb tc : DTE} {e ea eb ec : Ev D}
def eVar (i : Nat) : Ev D := fun env => match env[i]? with
  | some (some d) => some (.ok d)
  | _ => none
theorem ev_var (i : Nat) : EvE (dVar i) (eVar i) := fun env r h E G Q q => by
  unfold eVar at h
  split at h
  · rename_i d hd
    cases h
    exact ⟨d, hd, q⟩
  · cases h
def eC {α : Type} (d : α) : Ev α := fun _ => some (.ok d)
theorem ev_c (d : D) : EvE (dC d) (eC d) := fun env r h E G Q q => by cases h; exact q
def okE {α : Type} : Option α → Option (Except DX α)
  | some z => some (.ok z)
  | none => none
theorem okE_eq {α : Type} {o : Option α} {r : Except DX α} (h : okE o = some r) : ∃ z, o = some z ∧ r = .ok z := by
  cases o with
  | none => cases h
  | some z => cases h; exact ⟨z, rfl, rfl⟩
def eOp (f : DG → D → D → Option D) (ea eb : Ev D) : Ev D := fun env => bindE (ea env) fun x => bindE (eb env) fun y => okE (f G0 x y)
theorem ev_op {f : DG → D → D → Option D} (m : Mono2 f) (ha : EvE ta ea) (hb : EvE tb eb) : EvE (dOp f ta tb) (eOp f ea eb) := fun env r h E G Q q => by
  rcases bind_ok h with ⟨x, hx, h⟩ | ⟨x, hx, rfl⟩
  · refine ha env _ hx E G _ ?_
    rcases bind_ok h with ⟨y, hy, h⟩ | ⟨y, hy, rfl⟩
    · refine hb env _ hy E G _ ?_
      obtain ⟨z, hz, rfl⟩ := okE_eq h
      exact ⟨z, m G x y z hz, q⟩
    · exact hb env _ hy E G _ q
  · exact ha env _ hx E G _ q
def eUn (f : DG → D → Option D) (ea : Ev D) : Ev D := fun env => bindE (ea env) fun x => okE (f G0 x)
theorem ev_un {f : DG → D → Option D} (m : Mono1 f) (ha : EvE ta ea) : EvE (dUn f ta) (eUn f ea) := fun env r h E G Q q => by
  rcases bind_ok h with ⟨x, hx, h⟩ | ⟨x, hx, rfl⟩
  · refine ha env _ hx E G _ ?_
    obtain ⟨z, hz, rfl⟩ := okE_eq h
    exact ⟨z, m G x z hz, q⟩
  · exact ha env _ hx E G _ q
def blOf : D → Option Bool
  | .bl b => some b
  | _ => none
theorem blOf_eq {d : D} {b : Bool} (h : blOf d = some b) : d = .bl b := by cases d <;> first | (cases h; rfl) | cases h
def blE (d : D) : Option (Except DX Bool) := okE (blOf d)
def eChain (f g : DG → D → D → Option D) (ea eb ec : Ev D) : Ev D := fun env => bindE (ea env) fun x => bindE (eb env) fun y => bindE (okE (f G0 x y)) fun d => bindE (blE d) fun b =>
  if b = true then bindE (ec env) fun z => okE (g G0 y z) else some (.ok (.bl false))
theorem ev_chain {f g : DG → D → D → Option D} (m : Mono2 f) (n : Mono2 g) (ha : EvE ta ea) (hb : EvE tb eb) (hc : EvE tc ec) : EvE (dChain f g ta tb tc) (eChain f g ea eb ec) := fun env r h E G Q q => by
  rcases bind_ok h with ⟨x, hx, h⟩ | ⟨x, hx, rfl⟩
  · refine ha env _ hx E G _ ?_
    rcases bind_ok h with ⟨y, hy, h⟩ | ⟨y, hy, rfl⟩
    · refine hb env _ hy E G _ ?_
      rcases bind_ok h with ⟨d, hd, h⟩ | ⟨d, hd, rfl⟩
      · obtain ⟨z, hz, ez⟩ := okE_eq hd
        cases ez
        rcases bind_ok h with ⟨b, hb', h4⟩ | ⟨b, hb', rfl⟩
        · obtain ⟨b', hb2, eb⟩ := okE_eq hb'
          cases eb
          cases blOf_eq hb2
          refine ⟨b, m G x y _ hz, ?_⟩
          cases b with
          | true =>
            rw [if_pos rfl] at h4 ⊢
            rcases bind_ok h4 with ⟨w, hw, h5⟩ | ⟨w, hw, rfl⟩
            · refine hc env _ hw E G _ ?_
              obtain ⟨u, hu, rfl⟩ := okE_eq h5
              exact ⟨u, n G y w u hu, q⟩
            · exact hc env _ hw E G _ q
          | false =>
            rw [if_neg Bool.false_ne_true] at h4 ⊢
            cases h4
            exact q
        · obtain ⟨b', hb2, eb⟩ := okE_eq hb'
          cases eb
      · obtain ⟨z, hz, ez⟩ := okE_eq hd
        cases ez
    · exact hb env _ hy E G _ q
  · exact ha env _ hx E G _ q
def eTest (ea : Ev D) : Ev Bool := fun env => bindE (ea env) blE
theorem ev_test (ha : EvE ta ea) : EvT (dTest ta) (eTest ea) := fun env r h E G Q q => by
  rcases bind_ok h with ⟨x, hx, h⟩ | ⟨x, hx, rfl⟩
  · refine ha env _ hx E G _ ?_
    obtain ⟨b, hb, rfl⟩ := okE_eq h
    exact ⟨b, blOf_eq hb, q⟩
  · exact ha env _ hx E G _ q
variable {tt uu : DTT} {et eu : Ev Bool}
def eAnd (et eu : Ev Bool) : Ev Bool := fun env => bindE (et env) fun b => if b = true then eu env else some (.ok false)
theorem ev_and (ht : EvT tt et) (hu : EvT uu eu) : EvT (dAnd tt uu) (eAnd et eu) := fun env r h E G Q q => by
  rcases bind_ok h with ⟨x, hx, h⟩ | ⟨x, hx, rfl⟩
  · refine ht env _ hx E G _ ?_
    cases x with
    | true => exact hu env r h E G Q q
    | false => cases h; exact q
  · exact ht env _ hx E G _ q
def eOr (et eu : Ev Bool) : Ev Bool := fun env => bindE (et env) fun b => if b = true then some (.ok true) else eu env
theorem ev_or (ht : EvT tt et) (hu : EvT uu eu) : EvT (dOr tt uu) (eOr et eu) := fun env r h E G Q q => by
  rcases bind_ok h with ⟨x, hx, h⟩ | ⟨x, hx, rfl⟩
  · refine ht env _ hx E G _ ?_
    cases x with
    | false => exact hu env r h E G Q q
    | true => cases h; exact q
  · exact ht env _ hx E G _ q
def eNot (et : Ev Bool) : Ev Bool := fun env => bindE (et env) fun b => some (.ok (!b))
theorem ev_not (ht : EvT tt et) : EvT (dNot tt) (eNot et) := fun env r h E G Q q => by
  rcases bind_ok h with ⟨x, hx, h⟩ | ⟨x, hx, rfl⟩
  · refine ht env _ hx E G _ ?_
    cases h
    exact q
  · exact ht env _ hx E G _ q
def eAndV (ea eb : Ev D) : Ev D := fun env => bindE (ea env) fun x => bindE (blE x) fun b => if b = true then eb env else some (.ok (.bl false))
theorem ev_andV (ha : EvE ta ea) (hb : EvE tb eb) : EvE (dAndV ta tb) (eAndV ea eb) := fun env r h E G Q q => by
  rcases bind_ok h with ⟨x, hx, h⟩ | ⟨x, hx, rfl⟩
  · refine ha env _ hx E G _ ?_
    rcases bind_ok h with ⟨b, hb', h⟩ | ⟨b, hb', rfl⟩
    · obtain ⟨b', hb2, e'⟩ := okE_eq hb'
      cases e'
      refine ⟨b, blOf_eq hb2, ?_⟩
      cases b with
      | true => exact hb env r h E G Q q
      | false => cases h; exact q
    · obtain ⟨b', hb2, e'⟩ := okE_eq hb'
      cases e'
  · exact ha env _ hx E G _ q
def eOrV (ea eb : Ev D) : Ev D := fun env => bindE (ea env) fun x => bindE (blE x) fun b => if b = true then some (.ok (.bl true)) else eb env
theorem ev_orV (ha : EvE ta ea) (hb : EvE tb eb) : EvE (dOrV ta tb) (eOrV ea eb) := fun env r h E G Q q => by
  rcases bind_ok h with ⟨x, hx, h⟩ | ⟨x, hx, rfl⟩
  · refine ha env _ hx E G _ ?_
    rcases bind_ok h with ⟨b, hb', h⟩ | ⟨b, hb', rfl⟩
    · obtain ⟨b', hb2, e'⟩ := okE_eq hb'
      cases e'
      refine ⟨b, blOf_eq hb2, ?_⟩
      cases b with
      | false => exact hb env r h E G Q q
      | true => cases h; exact q
    · obtain ⟨b', hb2, e'⟩ := okE_eq hb'
      cases e'
  · exact ha env _ hx E G _ q
def eNotV (ea : Ev D) : Ev D := fun env => bindE (ea env) fun x => bindE (blE x) fun b => some (.ok (.bl (!b)))
theorem ev_notV (ha : EvE ta ea) : EvE (dNotV ta) (eNotV ea) := fun env r h E G Q q => by
  rcases bind_ok h with ⟨x, hx, h⟩ | ⟨x, hx, rfl⟩
  · refine ha env _ hx E G _ ?_
    rcases bind_ok h with ⟨b, hb', h⟩ | ⟨b, hb', rfl⟩
    · obtain ⟨b', hb2, e'⟩ := okE_eq hb'
      cases e'
      cases h
      exact ⟨b, blOf_eq hb2, q⟩
    · obtain ⟨b', hb2, e'⟩ := okE_eq hb'
      cases e'
  · exact ha env _ hx E G _ q
def eIf (et : Ev Bool) (ea eb : Ev D) : Ev D := fun env => bindE (et env) fun b => if b = true then ea env else eb env
theorem ev_if (ht : EvT tt et) (ha : EvE ta ea) (hb : EvE tb eb) : EvE (dIf tt ta tb) (eIf et ea eb) := fun env r h E G Q q => by
  rcases bind_ok h with ⟨x, hx, h⟩ | ⟨x, hx, rfl⟩
  · refine ht env _ hx E G _ ?_
    cases x with
    | true => exact ha env r h E G Q q
    | false => exact hb env r h E G Q q
  · exact ht env _ hx E G _ q
variable {tr : DTA} {er : Ev (List D)}
theorem ev_nil : EvA dNil (eC []) := fun env r h E G Q q => by cases h; exact q
def eCons (ea : Ev D) (er : Ev (List D)) : Ev (List D) := fun env => bindE (ea env) fun x => bindE (er env) fun xs => some (.ok (x :: xs))
theorem ev_cons (ha : EvE ta ea) (hr : EvA tr er) : EvA (dCons ta tr) (eCons ea er) := fun env r h E G Q q => by
  rcases bind_ok h with ⟨x, hx, h⟩ | ⟨x, hx, rfl⟩
  · refine ha env _ hx E G _ ?_
    rcases bind_ok h with ⟨xs, hxs, h⟩ | ⟨xs, hxs, rfl⟩
    · refine hr env _ hxs E G _ ?_
      cases h
      exact q
    · exact hr env _ hxs E G _ q
  · exact ha env _ hx E G _ q
def eTup (er : Ev (List D)) : Ev D := fun env => bindE (er env) fun xs => if xs.length ≤ 16000000 then some (.ok (.tup xs)) else none
theorem ev_tup (hr : EvA tr er) : EvE (dTup tr) (eTup er) := fun env r h E G Q q => by
  rcases bind_ok h with ⟨x, hx, h⟩ | ⟨x, hx, rfl⟩
  · refine hr env _ hx E G _ ?_
    split at h
    · rename_i hl
      cases h
      exact ⟨hl, q⟩
    · cases h
  · exact hr env _ hx E G _ q
def eLst (er : Ev (List D)) : Ev D := fun env => bindE (er env) fun xs => if xs.length ≤ 16000000 then some (.ok (.lst xs)) else none
theorem ev_lst (hr : EvA tr er) : EvE (dLst tr) (eLst er) := fun env r h E G Q q => by
  rcases bind_ok h with ⟨x, hx, h⟩ | ⟨x, hx, rfl⟩
  · refine hr env _ hx E G _ ?_
    split at h
    · rename_i hl
      cases h
      exact ⟨hl, q⟩
    · cases h
  · exact hr env _ hx E G _ q
def eB (f : DG → List D → Option D) (er : Ev (List D)) : Ev D := fun env => bindE (er env) fun xs => okE (f G0 xs)
theorem ev_b {f : DG → List D → Option D} (m : MonoB f) (hr : EvA tr er) : EvE (dB f tr) (eB f er) := fun env r h E G Q q => by
  rcases bind_ok h with ⟨x, hx, h⟩ | ⟨x, hx, rfl⟩
  · refine hr env _ hx E G _ ?_
    obtain ⟨z, hz, rfl⟩ := okE_eq h
    exact ⟨z, m G x z hz, q⟩
  · exact hr env _ hx E G _ q
/-- a def -/
def EvF (sp : DSp) (e : List D → Option (Except DX D)) : Prop := ∀ ds r, e ds = some r → ∀ G Q (E : DX → DG → Prop), (match r with | .ok d => Q d G | .error x => E x G) → sp ds G Q E
def eCall (ef : List D → Option (Except DX D)) (er : Ev (List D)) : Ev D := fun env => bindE (er env) ef
theorem ev_call {sp : DSp} {ef : List D → Option (Except DX D)} (hf : EvF sp ef) (hr : EvA tr er) : EvE (dCall sp tr) (eCall ef er) := fun env r h E G Q q => by
  rcases bind_ok h with ⟨x, hx, h⟩ | ⟨x, hx, rfl⟩
  · refine hr env _ hx E G _ ?_
    refine hf x r h G Q _ ?_
    cases r with
    | ok d => exact q
    | error x => exact q
  · exact hr env _ hx E G _ q
def eMt (ty : String) (f : DMF) (ea : Ev D) (er : Ev (List D)) : Ev D := fun env => bindE (ea env) fun x => if tyM G0 x = some ty then bindE (er env) fun xs => okE ((f G0 x xs).map (·.1)) else none
theorem tyM_mono {G : DG} {x : D} {ty : String} (h : tyM G0 x = some ty) : tyM G x = some ty := by
  cases x <;> first | exact h | cases h
theorem ev_mt {ty : String} {f : DMF} (m : MonoM f) (ha : EvE ta ea) (hr : EvA tr er) : EvE (dMt ty f ta tr) (eMt ty f ea er) := fun env r h E G Q q => by
  rcases bind_ok h with ⟨x, hx, h⟩ | ⟨x, hx, rfl⟩
  · refine ha env _ hx E G _ ?_
    split at h
    · rename_i hty
      refine ⟨tyM_mono hty, ?_⟩
      rcases bind_ok h with ⟨xs, hxs, h⟩ | ⟨xs, hxs, rfl⟩
      · refine hr env _ hxs E G _ ?_
        obtain ⟨z, hz, rfl⟩ := okE_eq h
        obtain ⟨⟨z', G'⟩, hz', rfl⟩ := Option.map_eq_some_iff.mp hz
        exact ⟨_, G, m G x xs _ G' hz', q⟩
      · exact hr env _ hxs E G _ q
    · cases h
  · exact ha env _ hx E G _ q
theorem ev_noPart : EvO dNoPart (eC none) := fun env r h E G Q q => by cases h; exact q
def intOf : D → Option Int
  | .int i => some i
  | _ => none
def ePart (ea : Ev D) : Ev (Option Int) := fun env => bindE (ea env) fun x => okE ((intOf x).map some)
theorem intOf_eq {d : D} {i : Int} (h : intOf d = some i) : d = .int i := by cases d <;> first | (cases h; rfl) | cases h
theorem ev_part (ha : EvE ta ea) : EvO (dPart ta) (ePart ea) := fun env r h E G Q q => by
  rcases bind_ok h with ⟨x, hx, h⟩ | ⟨x, hx, rfl⟩
  · refine ha env _ hx E G _ ?_
    obtain ⟨z, hz, rfl⟩ := okE_eq h
    obtain ⟨i, hi, rfl⟩ := Option.map_eq_some_iff.mp hz
    exact ⟨i, intOf_eq hi, q⟩
  · exact ha env _ hx E G _ q
theorem asL_mono {G : DG} {x : D} {xs : List D} (h : asL G0 x = some xs) : asL G x = some xs := by cases x <;> first | exact h | cases h
theorem asQ_mono {G : DG} {x : D} {xs : List D} (h : asQ G0 x = some xs) : asQ G x = some xs := by cases x <;> first | exact h | cases h
theorem asD_mono {G : DG} {x : D} {xs : List (D × D)} (h : asD G0 x = some xs) : asD G x = some xs := by cases x <;> first | exact h | cases h
theorem iterD_mono {G : DG} {x : D} {xs : List D} (h : iterD G0 x = some xs) : iterD G x = some xs := by cases x <;> first | exact h | cases h
theorem slice_mono {G : DG} {x z : D} {lo hi : Option Int} (h : pySlice G0 x lo hi = some z) : pySlice G x lo hi = some z := by cases x <;> first | exact h | cases h
def eSlice (ea : Ev D) (l h : Ev (Option Int)) : Ev D := fun env => bindE (ea env) fun x => bindE (l env) fun lo => bindE (h env) fun hi => okE (pySlice G0 x lo hi)
theorem ev_slice {tl th : DTO} {el eh : Ev (Option Int)} (ha : EvE ta ea) (hl : EvO tl el) (hh : EvO th eh) : EvE (dSlice ta tl th) (eSlice ea el eh) := fun env r h E G Q q => by
  rcases bind_ok h with ⟨x, hx, h⟩ | ⟨x, hx, rfl⟩
  · refine ha env _ hx E G _ ?_
    rcases bind_ok h with ⟨lo, hlo, h⟩ | ⟨lo, hlo, rfl⟩
    · refine hl env _ hlo E G _ ?_
      rcases bind_ok h with ⟨hi, hhi, h⟩ | ⟨hi, hhi, rfl⟩
      · refine hh env _ hhi E G _ ?_
        obtain ⟨z, hz, rfl⟩ := okE_eq h
        exact ⟨z, slice_mono hz, q⟩
      · exact hh env _ hhi E G _ q
    · exact hl env _ hlo E G _ q
  · exact ha env _ hx E G _ q
/-! iterables -/
def eIter (ea : Ev D) : Ev (List D) := fun env => bindE (ea env) fun x => okE (iterD G0 x)
theorem ev_iter (ha : EvE ta ea) : EvI (dIter ta) (eIter ea) := fun env r h E G Q q => by
  rcases bind_ok h with ⟨x, hx, h⟩ | ⟨x, hx, rfl⟩
  · refine ha env _ hx E G _ ?_
    obtain ⟨z, hz, rfl⟩ := okE_eq h
    exact ⟨z, iterD_mono hz, q _ fun G' => iterD_mono hz⟩
  · exact ha env _ hx E G _ q
def eZip (er : Ev (List D)) : Ev (List D) := fun env => bindE (er env) fun xs => match xs with
  | [a, b] => match iterD G0 a, iterD G0 b with
    | some as, some bs => some (.ok (zipD as bs))
    | _, _ => none
  | _ => none
theorem ev_zip (hr : EvA tr er) : EvI (dZip tr) (eZip er) := fun env r h E G Q q => by
  rcases bind_ok h with ⟨x, hx, h⟩ | ⟨x, hx, rfl⟩
  · refine hr env _ hx E G _ ?_
    split at h
    · rename_i a b
      split at h
      · rename_i as bs ha hb
        cases h
        exact ⟨a, b, as, bs, rfl, iterD_mono ha, iterD_mono hb, q _ fun G' => ⟨iterD_mono ha, iterD_mono hb⟩⟩
      · cases h
    · cases h
  · exact hr env _ hx E G _ q
def eEnum (er : Ev (List D)) : Ev (List D) := fun env => bindE (er env) fun xs => match xs with
  | [a] => match iterD G0 a with
    | some as => some (.ok (enumD 0 as))
    | _ => none
  | _ => none
theorem ev_enum (hr : EvA tr er) : EvI (dEnum tr) (eEnum er) := fun env r h E G Q q => by
  rcases bind_ok h with ⟨x, hx, h⟩ | ⟨x, hx, rfl⟩
  · refine hr env _ hx E G _ ?_
    split at h
    · rename_i a
      split at h
      · rename_i as ha
        cases h
        exact ⟨a, as, rfl, iterD_mono ha, q _ fun G' => iterD_mono ha⟩
      · cases h
    · cases h
  · exact hr env _ hx E G _ q
def eRange1 (er : Ev (List D)) : Ev (List D) := fun env => bindE (er env) fun xs => match xs with
  | [.int hi] => if -(2 ^ 62) ≤ hi ∧ hi < 2 ^ 62 then some (.ok (intsFrom 0 hi.toNat)) else none
  | _ => none
theorem ev_range1 (hr : EvA tr er) : EvI (dRange1 tr) (eRange1 er) := fun env r h E G Q q => by
  rcases bind_ok h with ⟨x, hx, h⟩ | ⟨x, hx, rfl⟩
  · refine hr env _ hx E G _ ?_
    split at h
    · rename_i hi
      split at h
      · rename_i hb
        cases h
        exact ⟨hi, rfl, hb.1, hb.2, q _ fun _ => trivial⟩
      · cases h
    · cases h
  · exact hr env _ hx E G _ q
def eRange2 (er : Ev (List D)) : Ev (List D) := fun env => bindE (er env) fun xs => match xs with
  | [.int lo, .int hi] => if -(2 ^ 62) ≤ lo ∧ lo < 2 ^ 62 ∧ -(2 ^ 62) ≤ hi ∧ hi < 2 ^ 62 then some (.ok (intsFrom lo (hi - lo).toNat)) else none
  | _ => none
theorem ev_range2 (hr : EvA tr er) : EvI (dRange2 tr) (eRange2 er) := fun env r h E G Q q => by
  rcases bind_ok h with ⟨x, hx, h⟩ | ⟨x, hx, rfl⟩
  · refine hr env _ hx E G _ ?_
    split at h
    · rename_i lo hi
      split at h
      · rename_i hb
        cases h
        exact ⟨lo, hi, rfl, hb, q _ fun _ => trivial⟩
      · cases h
    · cases h
  · exact hr env _ hx E G _ q
/-! comprehensions -/
def eTg : Tg → D → DSt → Option DSt
  | .n i, d, env => some (env.set i (some d))
  | .t is, .tup xs, env => if xs.length = is.length then some (setAll env is xs) else none
  | .t _, _, _ => none
theorem eTg_ok {tg : Tg} {d : D} {env env' : DSt} {P : DSt → Prop} (h : eTg tg d env = some env') (p : P env') : dTg tg d env P := by
  cases tg with
  | n i => cases h; exact p
  | t is =>
    cases d with
    | tup xs =>
      simp only [eTg] at h
      split at h
      · rename_i hl
        cases h
        exact ⟨xs, rfl, hl, p⟩
      · cases h
    | _ => cases h
def eLcL (tg : Tg) (et : Ev Bool) (ee : Ev D) (env : DSt) : List D → Option (List D)
  | [] => some []
  | d :: ds => match eTg tg d env with
    | some env1 => match et env1 with
      | some (.ok true) => match ee env1 with
        | some (.ok y) => match eLcL tg et ee env ds with
          | some ys => some (y :: ys)
          | none => none
        | _ => none
      | some (.ok false) => eLcL tg et ee env ds
      | _ => none
    | none => none
theorem eLcL_ok {tg : Tg} (ht : EvT tt et) (he : EvE t e) {guard : DG → Prop} (hg : ∀ G, guard G) {env : DSt} {G : DG} : ∀ {ds ys : List D} {Q : List D → DG → Prop}, eLcL tg et e env ds = some ys → Q ys G → dLcL tg tt t guard env ds G Q
  | [], ys, Q, h, q => by cases h; exact ⟨hg G, q⟩
  | d :: ds, ys, Q, h, q => by
    unfold eLcL at h
    split at h
    · rename_i env1 h1
      refine ⟨hg G, eTg_ok h1 ?_⟩
      split at h
      · rename_i h2
        refine ht env1 _ h2 EF G _ ?_
        simp only [endE, if_true]
        split at h
        · rename_i y h3
          refine he env1 _ h3 EF G _ ?_
          split at h
          · rename_i zs h4
            cases h
            exact eLcL_ok ht he hg h4 q
          · cases h
        · cases h
      · rename_i h2
        refine ht env1 _ h2 EF G _ ?_
        simp only [endE, Bool.false_eq_true, if_false]
        exact eLcL_ok ht he hg h q
      · cases h
    · cases h
theorem ev_yes : EvT dYes (eC true) := fun env r h E G Q q => by cases h; exact q
def eLc (ei : Ev (List D)) (tg : Tg) (et : Ev Bool) (ee : Ev D) (vs : List Nat) : Ev D := fun env => bindE (ei env) fun items => if items.length ≤ 16000000 then okE ((eLcL tg et ee (wipeD env vs) items).map .lst) else none
theorem ev_lc {wi : DTI} {ei : Ev (List D)} {tg : Tg} {vs : List Nat} (hi : EvI wi ei) (ht : EvT tt et) (he : EvE t e) : EvE (dLc wi tg tt t vs) (eLc ei tg et e vs) := fun env r h E G Q q => by
  rcases bind_ok h with ⟨x, hx, h⟩ | ⟨x, hx, rfl⟩
  · refine hi env _ hx E G _ fun g hg => ?_
    split at h
    · rename_i hl
      obtain ⟨z, hz, rfl⟩ := okE_eq h
      obtain ⟨ys, hy, rfl⟩ := Option.map_eq_some_iff.mp hz
      exact ⟨hl, eLcL_ok ht he hg hy q⟩
    · cases h
  · exact hi env _ hx E G _ q
end
/-! statements -/
section
variable {t u : DTS} {e f : EvX} {te : DTE} {ee : Ev D}
def exE {α : Type} (env : DSt) (a : Option (Except DX α)) (k : α → Option SR) : Option SR := match a with
  | some (.ok x) => k x
  | some (.error x) => some (.ex x env)
  | none => none
theorem exE_ok {α : Type} {env : DSt} {a : Option (Except DX α)} {k : α → Option SR} {r : SR} (h : exE env a k = some r) : (∃ x, a = some (.ok x) ∧ k x = some r) ∨ ∃ x, a = some (.error x) ∧ r = .ex x env := by
  unfold exE at h
  split at h
  · exact .inl ⟨_, rfl, h⟩
  · cases h; exact .inr ⟨_, rfl, rfl⟩
  · cases h
def xNext : EvX := fun env => some (.nx env)
theorem xv_next : EvS sNext xNext := fun env r h E DE G q => by cases h; exact q
def xSeq (e f : EvX) : EvX := fun env => match e env with
  | some (.nx env') => f env'
  | r => r
theorem xv_seq (h1 : EvS t e) (h2 : EvS u f) : EvS (sSeq t u) (xSeq e f) := fun env r h E DE G q => by
  unfold xSeq at h
  split at h
  · rename_i env' he
    exact h1 env _ he E _ G (h2 env' r h E DE G q)
  · rename_i he
    refine h1 env r h E _ G ?_
    cases r with
    | nx env' => exact absurd h (he env')
    | rt d => exact q
    | ex x env' => exact q
def xDrop (ee : Ev D) : EvX := fun env => exE env (ee env) fun _ => some (.nx env)
theorem xv_drop (he : EvE te ee) : EvS (sDrop te) (xDrop ee) := fun env r h E DE G q => by
  rcases exE_ok h with ⟨x, hx, h⟩ | ⟨x, hx, rfl⟩
  · cases h; exact he env _ hx E G _ q
  · exact he env _ hx E G _ q
def xRet (ee : Ev D) : EvX := fun env => exE env (ee env) fun d => some (.rt d)
theorem xv_ret (he : EvE te ee) : EvS (sRet te) (xRet ee) := fun env r h E DE G q => by
  rcases exE_ok h with ⟨x, hx, h⟩ | ⟨x, hx, rfl⟩
  · cases h; exact he env _ hx E G _ q
  · exact he env _ hx E G _ q
def xRetN : EvX := fun _ => some (.rt .non)
theorem xv_retN : EvS sRetN xRetN := fun env r h E DE G q => by cases h; exact q
def xSet (i : Nat) (ee : Ev D) : EvX := fun env => exE env (ee env) fun d => some (.nx (env.set i (some d)))
theorem xv_set {i : Nat} (he : EvE te ee) : EvS (sSet i te) (xSet i ee) := fun env r h E DE G q => by
  rcases exE_ok h with ⟨x, hx, h⟩ | ⟨x, hx, rfl⟩
  · cases h; exact he env _ hx E G _ q
  · exact he env _ hx E G _ q
def xIf (et : Ev Bool) (e f : EvX) : EvX := fun env => exE env (et env) fun b => if b = true then e env else f env
theorem xv_if {tt : DTT} {et : Ev Bool} (ht : EvT tt et) (h1 : EvS t e) (h2 : EvS u f) : EvS (sIf tt t u) (xIf et e f) := fun env r h E DE G q => by
  rcases exE_ok h with ⟨x, hx, h⟩ | ⟨x, hx, rfl⟩
  · refine ht env _ hx E G _ ?_
    cases x with
    | true => exact h1 env r h E DE G q
    | false => exact h2 env r h E DE G q
  · exact ht env _ hx E G _ q
def xRaise (c : String) : EvX := fun env => some (.ex (c, none) env)
theorem xv_raise {c : String} : EvS (sRaise c) (xRaise c) := fun env r h E DE G q => by cases h; exact q
def xTg (tg : Tg) (ee : Ev D) : EvX := fun env => exE env (ee env) fun d => (eTg tg d env).map .nx
theorem xv_tg {tg : Tg} (he : EvE te ee) : EvS (sTg tg te) (xTg tg ee) := fun env r h E DE G q => by
  rcases exE_ok h with ⟨x, hx, h⟩ | ⟨x, hx, rfl⟩
  · refine he env _ hx E G _ ?_
    obtain ⟨env', h', rfl⟩ := Option.map_eq_some_iff.mp h
    exact eTg_ok h' q
  · exact he env _ hx E G _ q
def xPar (is : List Nat) (er : Ev (List D)) : EvX := fun env => exE env (er env) fun xs => if xs.length = is.length then some (.nx (setAll env is xs)) else none
theorem xv_par {is : List Nat} {tr : DTA} {er : Ev (List D)} (hr : EvA tr er) : EvS (sPar is tr) (xPar is er) := fun env r h E DE G q => by
  rcases exE_ok h with ⟨x, hx, h⟩ | ⟨x, hx, rfl⟩
  · refine hr env _ hx E G _ ?_
    split at h
    · rename_i hl
      cases h
      exact ⟨hl, q⟩
    · cases h
  · exact hr env _ hx E G _ q
def xStar (i j : Nat) (ee : Ev D) : EvX := fun env => exE env (ee env) fun d => match asL G0 d with
  | some (x :: xs) => some (.nx ((env.set i (some x)).set j (some (.lst xs))))
  | _ => none
theorem xv_star {i j : Nat} (he : EvE te ee) : EvS (sStar i j te) (xStar i j ee) := fun env r h E DE G q => by
  rcases exE_ok h with ⟨x, hx, h⟩ | ⟨x, hx, rfl⟩
  · refine he env _ hx E G _ ?_
    split at h
    · rename_i y ys hy
      cases h
      exact ⟨y, ys, asL_mono hy, q⟩
    · cases h
  · exact he env _ hx E G _ q
def xLoop (tg : Tg) (e : EvX) : List D → EvX
  | [], env => some (.nx env)
  | d :: ds, env => match eTg tg d env with
    | some env1 => match e env1 with
      | some (.nx env2) => xLoop tg e ds env2
      | r => r
    | none => none
theorem xLoop_ok {tg : Tg} (h1 : EvS t e) {guard : DG → Prop} (hg : ∀ G, guard G) {E : DXK} {DE : DEnds} {G : DG} : ∀ {ds : List D} {env : DSt} {r : SR}, xLoop tg e ds env = some r → endS E DE G r → dLoop E tg t DE guard ds env G
  | [], env, r, h, q => by cases h; exact ⟨hg G, q⟩
  | d :: ds, env, r, h, q => by
    unfold xLoop at h
    split at h
    · rename_i env1 h2
      refine ⟨hg G, eTg_ok h2 ?_⟩
      split at h
      · rename_i env2 h3
        exact h1 env1 _ h3 E _ G (xLoop_ok h1 hg h q)
      · rename_i h3
        refine h1 env1 r h E _ G ?_
        cases r with
        | nx env' => exact absurd h (h3 env')
        | rt d => exact q
        | ex x env' => exact q
    · cases h
def xFor (ei : Ev (List D)) (tg : Tg) (e : EvX) : EvX := fun env => exE env (ei env) fun items => xLoop tg e items env
theorem xv_for {wi : DTI} {ei : Ev (List D)} {tg : Tg} (hi : EvI wi ei) (h1 : EvS t e) : EvS (sFor wi tg t) (xFor ei tg e) := fun env r h E DE G q => by
  rcases exE_ok h with ⟨x, hx, h⟩ | ⟨x, hx, rfl⟩
  · exact hi env _ hx E G _ fun g hg => xLoop_ok h1 hg h q
  · exact hi env _ hx E G _ q
def fnE (N : List Str) (n : Nat) (e : EvX) (ds : List D) : Option (Except DX D) := if ds.length = n then match e (dstart N ds) with
    | some (.nx _) => some (.ok .non)
    | some (.rt d) => some (.ok d)
    | some (.ex x _) => some (.error x)
    | none => none
  else none
theorem evf {N : List Str} {n : Nat} (h1 : EvS t e) : EvF (spOf N n t) (fnE N n e) := fun ds r h G Q E q => by
  unfold fnE at h
  split at h
  · rename_i hl
    refine ⟨hl, ?_⟩
    split at h
    · rename_i env' h2
      cases h
      exact h1 _ _ h2 _ _ G q
    · rename_i d h2
      cases h
      exact h1 _ _ h2 _ _ G q
    · rename_i x env' h2
      cases h
      exact h1 _ _ h2 _ _ G q
    · cases h
  · cases h
end
end DL

namespace DL
open PySem PySem.Spec PyProof.Rows L2
theorem m_add : Mono2 pyAdd := fun G x y z h => by cases x <;> cases y <;> first | exact h | cases h
theorem m_sub : Mono2 pySub := fun _ _ _ _ h => h
theorem m_mul : Mono2 pyMul := fun G x y z h => by cases x <;> cases y <;> first | exact h | cases h
theorem m_mod : Mono2 pyMod := fun _ _ _ _ h => h
theorem m_div : Mono2 pyDiv := fun _ _ _ _ h => h
theorem m_pow : Mono2 pyPow := fun _ _ _ _ h => h
theorem m_lt : Mono2 pyLt := fun _ _ _ _ h => h
theorem m_gt : Mono2 pyGt := fun _ _ _ _ h => h
theorem m_le : Mono2 pyLe := fun _ _ _ _ h => h
theorem m_ge : Mono2 pyGe := fun _ _ _ _ h => h
theorem m_is : Mono2 pyIs := fun _ _ _ _ h => h
theorem m_isnot : Mono2 pyIsNot := fun _ _ _ _ h => h
theorem m_neg : Mono1 pyNeg := fun _ _ _ h => h
theorem mapO_mono {f g : D → Option PyData} (h : ∀ d y, f d = some y → g d = some y) : ∀ {xs : List D} {ys : List PyData}, mapO f xs = some ys → mapO g xs = some ys
  | [], _, e => e
  | x :: xs, ys, e => by
    unfold mapO at e ⊢
    split at e
    · rename_i y zs e1 e2
      rw [h x y e1, mapO_mono h e2]
      exact e
    · cases e
theorem toPy_mono {G : DG} : ∀ (n : Nat) (d : D) (y : PyData), toPy G0 n d = some y → toPy G n d = some y := by
  intro n
  induction n with
  | zero => intro d y h; cases d <;> first | exact h | cases h
  | succ n ih =>
    intro d y h
    cases d with
    | tup xs => obtain ⟨ys, h1, h2⟩ := Option.map_eq_some_iff.mp h; exact Option.map_eq_some_iff.mpr ⟨ys, mapO_mono ih h1, h2⟩
    | lst xs => obtain ⟨ys, h1, h2⟩ := Option.map_eq_some_iff.mp h; exact Option.map_eq_some_iff.mpr ⟨ys, mapO_mono ih h1, h2⟩
    | scr xs => obtain ⟨ys, h1, h2⟩ := Option.map_eq_some_iff.mp h; exact Option.map_eq_some_iff.mpr ⟨ys, mapO_mono ih h1, h2⟩
    | ref a => cases h
    | _ => first | exact h | cases h
theorem eqB_mono {G : DG} {x y : D} {b : Bool} (h : pyEqB G0 x y = some b) : pyEqB G x y = some b := by
  unfold pyEqB at h ⊢
  split at h
  · exact h
  · exact h
  · rename_i h1 h2
    split at h
    · rename_i d e hd he
      rw [toPy_mono 40 _ _ hd, toPy_mono 40 _ _ he]
      exact h
    · cases h
theorem m_eq : Mono2 pyEq := fun G x y z h => by
  obtain ⟨b, hb, rfl⟩ := Option.map_eq_some_iff.mp h
  exact Option.map_eq_some_iff.mpr ⟨b, eqB_mono hb, rfl⟩
theorem m_ne : Mono2 pyNe := fun G x y z h => by
  obtain ⟨b, hb, rfl⟩ := Option.map_eq_some_iff.mp h
  exact Option.map_eq_some_iff.mpr ⟨b, eqB_mono hb, rfl⟩
theorem inB_mono {G : DG} {x y : D} {b : Bool} (h : pyInB G0 x y = some b) : pyInB G x y = some b := by
  cases y with
  | ref a => cases x <;> first | exact h | cases h | (simp [pyInB, asQ, asL, asD, G0, lstO, dctO] at h)
  | _ => cases x <;> first | exact h | cases h
theorem m_in : Mono2 pyIn := fun G x y z h => by
  obtain ⟨b, hb, rfl⟩ := Option.map_eq_some_iff.mp h
  exact Option.map_eq_some_iff.mpr ⟨b, inB_mono hb, rfl⟩
theorem m_notin : Mono2 pyNotIn := fun G x y z h => by
  obtain ⟨b, hb, rfl⟩ := Option.map_eq_some_iff.mp h
  exact Option.map_eq_some_iff.mpr ⟨b, inB_mono hb, rfl⟩
theorem m_item : Mono2 pyItem := fun G x y z h => by
  cases x with
  | ref a => cases y <;> first | exact h | cases h | (simp [pyItem, asQ, asL, asD, G0, lstO, dctO] at h)
  | _ => cases y <;> first | exact h | cases h
/-- told, run -/
def toldR : Option (Except DX D) → Option (Except DX D)
  | some (.ok d) => some (.ok d)
  | some (.error (c, none)) => if c ∈ refusals then some (.ok (.tup [.str "refused", .str c])) else none
  | _ => none
def eTold (ee : Ev D) : Ev D := fun env => toldR (ee env)
theorem ev_told {te : DTE} {ee : Ev D} (he : EvE te ee) : EvE (dTold te) (eTold ee) := fun env r h E G Q q => by
  unfold eTold toldR at h
  split at h
  · rename_i d hd
    cases h
    exact he env _ hd (toldX Q) G Q q
  · rename_i c hd
    split at h
    · rename_i hc
      cases h
      exact he env _ hd (toldX Q) G Q ⟨c, rfl, hc, q⟩
    · cases h
  · cases h
theorem m_isi {ty : String} : Mono1 (pyIsi ty) := fun G x z h => by cases x <;> first | exact h | cases h
theorem m_len : MonoB pyLen := fun G xs z h => by
  match xs, h with
  | [], h => exact h
  | [x], h => cases x <;> first | exact h | cases h
  | x :: y :: r, h => cases x <;> exact h
theorem m_sum : MonoB pySum := fun G xs z h => by
  match xs, h with
  | [], h => exact h
  | [x], h => cases x <;> first | exact h | cases h
  | _ :: _ :: _, h => cases h
theorem m_all : MonoB pyAll := fun G xs z h => by
  match xs, h with
  | [], h => exact h
  | [x], h => cases x <;> first | exact h | cases h
  | _ :: _ :: _, h => cases h
theorem m_any : MonoB pyAny := fun G xs z h => by
  match xs, h with
  | [], h => exact h
  | [x], h => cases x <;> first | exact h | cases h
  | _ :: _ :: _, h => cases h
theorem m_tup : MonoB pyTup := fun G xs z h => by
  match xs, h with
  | [], h => exact h
  | [x], h => cases x <;> first | exact h | cases h
  | _ :: _ :: _, h => cases h
theorem m_lst : MonoB pyLst := fun G xs z h => by
  match xs, h with
  | [], h => exact h
  | [x], h => cases x <;> first | exact h | cases h
  | _ :: _ :: _, h => cases h
theorem m_min2 : MonoB pyMin2 := fun _ _ _ h => h
theorem m_max2 : MonoB pyMax2 := fun _ _ _ h => h
theorem m_abs : MonoB pyAbs := fun _ _ _ h => h
theorem m_int : MonoB pyIntS := fun _ _ _ h => h
theorem m_str : MonoB pyStr := fun _ _ _ h => h
theorem m_kin {tab : List (String × D)} : Mono1 (kIn tab) := fun _ _ _ h => h
theorem m_knotin {tab : List (String × D)} : Mono1 (kNotIn tab) := fun _ _ _ h => h
theorem m_kitem {tab : List (String × D)} : Mono1 (kItem tab) := fun _ _ _ h => h
theorem m_kget {tab : List (String × D)} : Mono1 (kGet tab) := fun _ _ _ h => h
theorem m_split : MonoM mSplit := fun G x xs z G' h => by
  unfold mSplit at h ⊢
  split at h
  · split at h
    · rename_i c hc
      split at h
      · rename_i hl
        cases h
        simp only [hc, hl, and_self, if_true]
      · cases h
    · cases h
  · cases h
theorem m_join : MonoM mJoin := fun G x xs z G' h => by
  unfold mJoin at h ⊢
  split at h
  · split at h
    · rename_i ys hy
      split at h
      · rename_i zs hz
        split at h
        · rename_i hl
          cases h
          simp only [asQ_mono hy, hz, hl, if_true]
        · cases h
      · cases h
    · cases h
  · cases h
theorem m_index : MonoM mIndex := fun G x xs z G' h => by
  unfold mIndex at h ⊢
  split at h
  · split at h
    · rename_i zs hz
      split at h
      · rename_i hl
        obtain ⟨j, hj, e⟩ := Option.map_eq_some_iff.mp h
        cases e
        simp only [asL_mono hz, hl, if_true, hj, Option.map_some]
      · cases h
    · cases h
  · cases h
/-! sums as read -/
theorem mulS (G : DG) (x : Int) {y : Int} (hy : y.natAbs < 2 ^ 64) : pyMul G (.int x) (.int y) = some (.int (x * y)) := by
  show (if mulOk x y = true then _ else _) = _
  rw [if_pos (by unfold mulOk; simp only [Bool.or_eq_true, decide_eq_true_eq]; exact .inl (.inr hy))]
theorem mulW (G : DG) {x y : Int} (hx : x.natAbs < 2 ^ 600) (hy : y.natAbs < 2 ^ 600) : pyMul G (.int x) (.int y) = some (.int (x * y)) := by
  show (if mulOk x y = true then _ else _) = _
  rw [if_pos (by unfold mulOk; simp only [Bool.or_eq_true, Bool.and_eq_true, decide_eq_true_eq]; exact .inr ⟨hx, hy⟩)]
theorem modP (G : DG) (x : Int) {y : Int} (hy : 0 < y) : pyMod G (.int x) (.int y) = some (.int (x % y)) := by
  show (if 0 < y then _ else _) = _
  rw [if_pos hy]
theorem divP (G : DG) (x : Int) {y : Int} (hy : 0 < y) (h2 : y < 2 ^ 600) : pyDiv G (.int x) (.int y) = some (.int (x / y)) := by
  show (if 0 < y ∧ y < 2 ^ 600 then _ else _) = _
  rw [if_pos ⟨hy, h2⟩]
theorem bits_lt {x : Int} {n : Nat} (h0 : 0 ≤ x) (h : x < 2 ^ n) : x.natAbs < 2 ^ n := by
  have : (x.natAbs : Int) < ((2 ^ n : Nat) : Int) := by
    rw [Int.natAbs_of_nonneg h0]
    simpa using h
  exact Int.ofNat_lt.mp this
theorem pow_600 {m : Nat} (h : m ≤ 600) {x : Nat} (hx : x < 2 ^ m) : x < 2 ^ 600 := Nat.lt_of_lt_of_le hx (Nat.pow_le_pow_right (by decide) h)
end DL

namespace DL
open PySem PySem.Spec PyProof.Rows L2
/-! ### from the head -/
def tabS (l : List (String × String)) : List (String × D) := l.map fun p => (p.1, .str p.2)
def tabV (l : List (String × String)) : List (Str × He.Dv) := l.map fun p => (S p.1, .str (S p.2))
theorem lookup_tabS (z : String) : ∀ l : List (String × String), (tabS l).lookup z = (l.lookup z).map .str
  | [] => rfl
  | (k, v) :: r => by
    simp only [tabS, List.map_cons, List.lookup_cons]
    cases h : (z == k) with
    | true => rfl
    | false => exact lookup_tabS z r
theorem lookup_mem' {z v : String} : ∀ {l : List (String × String)}, l.lookup z = some v → (z, v) ∈ l
  | [], h => by cases h
  | (k, u) :: r, h => by
    rw [List.lookup_cons] at h
    cases q : (z == k) with
    | true =>
      rw [q] at h
      cases h
      have : z = k := by simpa using q
      rw [this]
      exact List.mem_cons_self
    | false =>
      rw [q] at h
      exact List.mem_cons_of_mem _ (lookup_mem' h)
theorem keys_none {P : Params} {z : String} : ∀ {es : List DictEntry} {l : List (String × String)}, es.map He.keyOf = He.keysIn P (l.map fun p => S p.1) → l.lookup z = none → (es.find? fun e => e.key.isStr (S z)) = none ∧ (es.any fun e => e.refKey) = false
  | [], l, _, _ => ⟨rfl, rfl⟩
  | e :: es, [], h, _ => by cases h
  | e :: es, (k, v) :: r, h, hz => by
    have h1 : He.keyOf e :: es.map He.keyOf = some (S k, PyData.keyHash P (S k)) :: He.keysIn P (r.map fun p => S p.1) := h
    injection h1 with h2 h3
    rw [List.lookup_cons] at hz
    have hk : (z == k) = false := by
      cases q : (z == k) with
      | true => rw [q] at hz; cases hz
      | false => rfl
    rw [hk] at hz
    obtain ⟨i1, i2⟩ := keys_none h3 hz
    unfold He.keyOf at h2
    split at h2
    · rename_i x t q
      obtain ⟨ex, _⟩ := Prod.mk.inj (Option.some.inj h2)
      have b : e.key.isStr (S z) = false := by
        rw [q]
        show (x == S z) = false
        rw [ex, S_beq]
        cases w : (k == z) with
        | true => have : k = z := by simpa using w
                  rw [this] at hk; simp at hk
        | false => rfl
      refine ⟨?_, ?_⟩
      · rw [List.find?_cons, b]
        exact i1
      · rw [List.any_cons, i2]
        unfold DictEntry.refKey
        rw [q]
        rfl
    · cases h2
theorem ktab_of {K : PySem.W.Frag} {w : World} {mg : Str → Option Value} {x : String} {l : List (String × String)} (hmg : mg (S x) = some (.ref (He.ga K (S x)))) (hd : He.dicW K (He.ga K (S x)) = some (He.keysIn w.params (l.map fun p => S p.1))) (hv : He.valsB K (He.ga K (S x)) (tabV l) = true) : KTab K w mg x (tabS l) := by
  refine ⟨hmg, He.dicW_ok hd, fun z => ?_⟩
  rw [lookup_tabS]
  cases q : l.lookup z with
  | none =>
    left
    refine ⟨?_, rfl⟩
    unfold He.dicW at hd
    unfold PySem.W.nsIn
    split at hd
    · rename_i c es n sl hk
      split at hd
      · have hd' := Option.some.inj hd
        obtain ⟨h1, h2⟩ := keys_none hd' q
        rw [hk]
        simp only [h1, h2, Bool.false_eq_true, if_false]
      · cases hd
    · cases hd
  | some v =>
    right
    have hm : (S z, He.Dv.str (S v)) ∈ tabV l := List.mem_map.mpr ⟨(z, v), lookup_mem' q, rfl⟩
    obtain ⟨u, hu, ru⟩ := He.valsB_ok hv hm
    exact ⟨u, .str (S v), .str v, hu, rfl, ru, fun _ _ => rfl⟩
theorem says_tab {fa : List He.Fa} {fn : List He.DefD} {ts : List He.Tab} {w : World} {K : PySem.W.Frag} (c : He.SaysT fa fn ts w K) (i : Nat) {t : He.Tab} (h : ts[i]? = some t := by rfl) : He.dicW K (t.1 K) = some (He.keysIn w.params t.2) := by
  have e : ts.map (fun t => He.dicW K (t.1 K)) = ts.map fun t => some (He.keysIn w.params t.2) := congrArg (fun z : He.AlT => z.2) c
  have e1 := congrArg (fun l => l[i]?) e
  simp only [List.getElem?_map, h, Option.map_some, Option.some.injEq] at e1
  exact e1
end DL

namespace DL
open PySem PySem.Spec PyProof.Rows L2
variable {T : LT}
/-! ### dict displays -/
def dPairs : List (DTE × DTE) → DXK → DSt → DG → (List (D × D) → DG → Prop) → Prop
  | [], _, _, G, Q => Q [] G
  | (tk, tv) :: r, E, env, G, Q => tk E env G fun x G1 => tv E env G1 fun y G2 => dPairs r E env G2 fun ps G3 => Q ((x, y) :: ps) G3
def mergeD (kvs : List (D × D)) : List (D × D) → List (D × D)
  | [] => kvs
  | (k, v) :: r => mergeD (dput kvs k v) r
def keysOk (ps : List (D × D)) : Bool := ps.all fun p => (keyOf p.1).isSome
def dDct (trs : List (DTE × DTE)) : DTE := fun E env G Q => dPairs trs E env G fun ps G1 => (keysOk ps = true ∧ ps.length ≤ 15) ∧ Q (.dct (mergeD [] ps)) G1
def dDctB (trs : List (DTE × DTE)) : DTE := fun E env G Q => dPairs trs E env G fun ps G1 => (keysOk ps = true ∧ ps.length ≤ 15) ∧ ∀ p, G1 p = none → Q (.ref p) (gset G1 p (some (.dct (mergeD [] ps))))
def dDct0 : DTE := fun _ _ G Q => Q (.dct []) G
def dDct0B : DTE := fun _ _ G Q => ∀ p, G p = none → Q (.ref p) (gset G p (some (.dct [])))
def RelPs (K : PySem.W.Frag) (F : FS) (H : Hp) : List (D × D) → List (V × V) → Prop
  | [], vs => vs = []
  | (k, x) :: r, vs => ∃ a b t, vs = (a, b) :: t ∧ RelD K F H k a ∧ RelD K F H x b ∧ RelPs K F H r t
theorem RelPs.keys {K : PySem.W.Frag} {F : FS} {H : Hp} : ∀ {ps : List (D × D)} {vs : List (V × V)}, RelPs K F H ps vs → keysOk ps = true → ∃ kvs : List (Key × V), vs = kvs.map (fun kv => (kV kv.1, kv.2)) ∧ kvs.length = ps.length ∧
    ∀ (acc : List (D × D)) (ws : List (Key × V)), RelKs K F H acc ws → RelKs K F H (mergeD acc ps) (mergeK ws kvs)
  | [], vs, h, _ => ⟨[], by rw [show vs = [] from h]; rfl, rfl, fun acc ws r => r⟩
  | (k, x) :: r, _, ⟨a, b, t, rfl, ra, rb, rr⟩, hk => by
    unfold keysOk at hk
    rw [List.all_cons, Bool.and_eq_true] at hk
    obtain ⟨key, ek⟩ := Option.isSome_iff_exists.mp hk.1
    obtain ⟨kvs, e1, e2, e3⟩ := RelPs.keys rr hk.2
    refine ⟨(key, b) :: kvs, ?_, by simp [e2], fun acc ws ha => ?_⟩
    · rw [List.map_cons, e1, keyOf_rel ek ra]
    · exact e3 _ _ (RelKs.put ek rb ha)
section
variable {X : Cx} {W : WX} {pos : Pos}
abbrev liftP (K : PySem.W.Frag) (T : LT) (W : WX) (trs : List (DTE × DTE)) : List (TE × TE) := trs.map fun p => (liftE K T W p.1, liftE K T W p.2)
theorem pairs_run {K : PySem.W.Frag} {σ : L2.St} {env : DSt} {E : DXK} : ∀ {trs : List (DTE × DTE)} {F : FS} {G : DG} {H : Hp} {P : List (D × D) → DG → Prop} {Q : List (V × V) → Hp → Prop}, RelG K T F G H → RelSt K F H env σ → XOk K T W E F G H → dPairs trs E env G P →
    (∀ ps F' G' vs H', P ps G' → Step F G H F' G' H' → RelG K T F' G' H' → RelPs K F' H' ps vs → Q vs H') → tPairs (liftP K T W trs) σ H Q
  | [], F, G, H, P, Q, hg, hs, hx, h, q => q [] F G [] H h Step.refl hg rfl
  | (tk, tv) :: r, F, G, H, P, Q, hg, hs, hx, h, q => by
    refine ⟨env, F, G, E, _, hg, hs, hx, h, fun x F1 G1 v1 H1 p1 s1 g1 r1 => ⟨env, F1, G1, E, _, g1, hs.step s1, hx.step s1, p1, fun y F2 G2 v2 H2 p2 s2 g2 r2 => ?_⟩⟩
    refine pairs_run g2 (hs.step (s1.trans s2)) (hx.step (s1.trans s2)) p2 fun ps F3 G3 vs H3 p3 s3 g3 r3 => ?_
    exact q _ F3 G3 _ H3 p3 (s1.trans (s2.trans s3)) g3 ⟨v1, v2, vs, rfl, RelD.step (s2.trans s3) x r1, RelD.step s3 y r2, r3⟩
abbrev QPs (X : Cx) (T : LT) (W : WX) (pos : Pos) (keys : List (Option Expr)) (values : List Expr) (trs : List (DTE × DTE)) : Prop := PPs X pos keys values (liftP X.K T W trs)
theorem qp_nil : QPs X T W pos [] [] [] := pps_nil
theorem qp_cons {k v : Expr} {ks : List (Option Expr)} {vs : List Expr} {tk tv : DTE} {trs : List (DTE × DTE)} (hk : QE X T W k tk) (hv : QE X T W v tv) (hr : QPs X T W pos ks vs trs) : QPs X T W pos (some k :: ks) (v :: vs) ((tk, tv) :: trs) := pps_cons hk hv hr
theorem q_dct {keys : List (Option Expr)} {values : List Expr} {trs : List (DTE × DTE)} (h : QPs X T W pos keys values trs) (hall : keys.all (·.isSome) = true := by rfl) (hl : keys.length = values.length := by rfl) (h0 : keys ≠ [] := by exact fun z => nomatch z) (h15 : keys.length ≤ 15 := by decide) :
    QE X T W (.Dict keys values pos) (dDct trs) :=
  PE.imp (pe_disp h hall hl h0 h15) fun σ H Q ⟨env, F, G, E, P, hg, hs, hx, ht, hq⟩ p hp => by
    have st : Step F G H F G (upd H p (.dK [])) := Step.priv hp
    refine pairs_run (hg.priv hp) (hs.step st) (hx.step st) ht fun ps F1 G1 vs H1 ⟨⟨hk, hlen⟩, p1⟩ s1 g1 r1 => ?_
    obtain ⟨f1, gd1, e1⟩ := s1.pv p _ (hg.nof hp) (hg.free hp) upd_same rfl
    obtain ⟨kvs, ev, el, rel⟩ := RelPs.keys r1 hk
    refine ⟨e1, kvs, ev, by omega, ?_⟩
    have s2 := ((st.trans s1).wr (u := .dK (mergeK [] kvs)) hp).frz hp
    exact hq _ (fadd F1 p) G1 _ _ p1 s2 ((g1.wr f1 gd1 e1 rfl).frz gd1 upd_same rfl) ⟨p, _, rfl, ⟨.of upd_same, .inl rfl⟩, RelKs.kept (fun b o f e => by
      obtain ⟨f', r'⟩ := kept_wr (u := .dK (mergeK [] kvs)) f1 b o f e
      exact ⟨.inr f', r'⟩) _ (rel [] [] rfl)⟩
theorem q_dctB {keys : List (Option Expr)} {values : List Expr} {trs : List (DTE × DTE)} (h : QPs X T W pos keys values trs) (hall : keys.all (·.isSome) = true := by rfl) (hl : keys.length = values.length := by rfl) (h0 : keys ≠ [] := by exact fun z => nomatch z) (h15 : keys.length ≤ 15 := by decide) :
    QE X T W (.Dict keys values pos) (dDctB trs) :=
  PE.imp (pe_disp h hall hl h0 h15) fun σ H Q ⟨env, F, G, E, P, hg, hs, hx, ht, hq⟩ p hp => by
    have st : Step F G H F G (upd H p (.dK [])) := Step.priv hp
    refine pairs_run (hg.priv hp) (hs.step st) (hx.step st) ht fun ps F1 G1 vs H1 ⟨⟨hk, hlen⟩, p1⟩ s1 g1 r1 => ?_
    obtain ⟨f1, gd1, e1⟩ := s1.pv p _ (hg.nof hp) (hg.free hp) upd_same rfl
    obtain ⟨kvs, ev, el, rel⟩ := RelPs.keys r1 hk
    refine ⟨e1, kvs, ev, by omega, ?_⟩
    have s2 := ((st.trans s1).wr (u := .dK (mergeK [] kvs)) hp).trk (o := some (.dct (mergeD [] ps))) hp
    exact hq _ F1 _ _ _ (p1 p gd1) s2 ((g1.wr f1 gd1 e1 rfl).trk f1 gd1 upd_same rfl ⟨_, rfl, RelKs.kept (kept_wr f1) _ (rel [] [] rfl)⟩) rfl
theorem q_dct0 : QE X T W (.Dict [] [] pos) dDct0 := PE.imp pe_dnewK fun σ H Q ⟨env, F, G, E, P, hg, hs, hx, ht, hq⟩ p hp => hq _ (fadd F p) G _ _ ht (Step.new hp) (hg.new hp) ⟨p, [], rfl, ⟨.of upd_same, .inl rfl⟩, rfl⟩
theorem q_dct0B : QE X T W (.Dict [] [] pos) dDct0B := PE.imp pe_dnewK fun σ H Q ⟨env, F, G, E, P, hg, hs, hx, ht, hq⟩ p hp =>
  hq _ F _ _ _ (ht p (hg.free hp)) (Step.set hg (.inl hp)) (hg.set (.inl hp) ⟨[], rfl, rfl⟩) rfl
end
/-! run -/
def ePairs : List (Ev D × Ev D) → Ev (List (D × D))
  | [] => fun _ => some (.ok [])
  | (ek, ev) :: r => fun env => bindE (ek env) fun x => bindE (ev env) fun y => bindE (ePairs r env) fun ps => some (.ok ((x, y) :: ps))
inductive EvP : List (DTE × DTE) → List (Ev D × Ev D) → Prop
  | nil : EvP [] []
  | cons {tk tv : DTE} {ek ev : Ev D} {r : List (DTE × DTE)} {s : List (Ev D × Ev D)} (hk : EvE tk ek) (hv : EvE tv ev) (hr : EvP r s) : EvP ((tk, tv) :: r) ((ek, ev) :: s)
theorem ev_pairs {r : List (DTE × DTE)} {s : List (Ev D × Ev D)} (h : EvP r s) : ∀ env res, ePairs s env = some res → ∀ E G Q, endE E env G Q res → dPairs r E env G Q := by
  induction h with
  | nil => intro env res h E G Q q; cases h; exact q
  | cons hk hv hr ih =>
    intro env res h E G Q q
    rcases bind_ok h with ⟨x, hx, h⟩ | ⟨x, hx, rfl⟩
    · refine hk env _ hx E G _ ?_
      rcases bind_ok h with ⟨y, hy, h⟩ | ⟨y, hy, rfl⟩
      · refine hv env _ hy E G _ ?_
        rcases bind_ok h with ⟨ps, hps, h⟩ | ⟨ps, hps, rfl⟩
        · refine ih env _ hps E G _ ?_
          cases h
          exact q
        · exact ih env _ hps E G _ q
      · exact hv env _ hy E G _ q
    · exact hk env _ hx E G _ q
def eDct (s : List (Ev D × Ev D)) : Ev D := fun env => bindE (ePairs s env) fun ps => if keysOk ps = true ∧ ps.length ≤ 15 then some (.ok (.dct (mergeD [] ps))) else none
theorem ev_dct {r : List (DTE × DTE)} {s : List (Ev D × Ev D)} (h : EvP r s) : EvE (dDct r) (eDct s) := fun env res hr E G Q q => by
  rcases bind_ok hr with ⟨x, hx, h'⟩ | ⟨x, hx, rfl⟩
  · refine ev_pairs h env _ hx E G _ ?_
    split at h'
    · rename_i hc
      cases h'
      exact ⟨hc, q⟩
    · cases h'
  · exact ev_pairs h env _ hx E G _ q
theorem ev_dct0 : EvE dDct0 (eC (.dct [])) := fun env r h E G Q q => by cases h; exact q
end DL

namespace DL
open PySem PySem.Spec PyProof.Rows L2 LamX HotX L2H
variable {T : LT}
/-! ### what is never reached -/
def dNever : DTE := fun _ _ _ _ => False
def dNeverT : DTT := fun _ _ _ _ => False
section
variable {X : Cx} {W : WX}
theorem q_never {e : Expr} : QE X T W e dNever := ⟨fun _ _ _ _ _ _ ⟨_, _, _, _, _, _, _, _, h, _⟩ => h.elim⟩
theorem qt_never {e : Expr} : QT X T W e dNeverT := ⟨fun _ _ _ _ _ _ ⟨_, _, _, _, _, _, _, _, h, _⟩ => h.elim⟩
theorem qs_never {st : Stmt} : QS X T W st sNever := ⟨fun _ _ _ _ _ _ ⟨_, _, _, _, _, _, _, _, h, _⟩ => h.elim⟩
theorem qss_never {st : List Stmt} : QSs X T W st sNever := ⟨fun _ _ _ _ _ _ ⟨_, _, _, _, _, _, _, _, h, _⟩ => h.elim⟩
end
def eNever {α : Type} : Ev α := fun _ => none
theorem ev_never : EvE dNever eNever := fun _ _ h => nomatch h
theorem ev_neverT : EvT dNeverT eNever := fun _ _ h => nomatch h
def xNever : EvX := fun _ => none
theorem xv_never : EvS sNever xNever := fun _ _ h => nomatch h
/-! ### defs by where they stand -/
structure DFa (P : Program) (w : World) (K : PySem.W.Frag) (T : LT) (mg : Str → Option Value) (base : Heap) (k : Nat) (p : Str × Option Str) (ps : List Str) (sp : DSp) : Prop where
  ok : ∃ fd, FnOk P w K mg base (L2N.CX P w) k (He.fAd K p) fd ps (liftSp K T sp) ∧ Binds K fd ps []
  kp : PySem.W.keepIn K (.ref (He.fAd K p)) = true
/-- with keywords ks behind n values: gD puts them into the parameters' order -/
structure DFk (P : Program) (w : World) (K : PySem.W.Frag) (T : LT) (mg : Str → Option Value) (base : Heap) (k : Nat) (p : Str × Option Str) (ps : List Str) (n : Nat) (ks : List Str) (gD : List D → List D → List D) (sp : DSp) : Prop where
  ok : ∃ fd g gV, FnOk P w K mg base (L2N.CX P w) k (He.fAd K p) fd ps (liftSp K T sp) ∧ KBn K fd ps n ks g gV ∧ ∀ F H ds vs es zs, RelDs K F H ds vs → RelDs K F H es zs → RelDs K F H (gD ds es) (gV vs zs)
  kp : PySem.W.keepIn K (.ref (He.fAd K p)) = true
section
variable {P : Program} {w : World} {K : PySem.W.Frag} {mg : Str → Option Value} {base : Heap} {k : Nat} {p : Str × Option Str} {x qual : Str} {params : Arguments} {body : List Stmt} {scope : Scope} {kws : List (Str × V)} {fd : FuncData} {N ps : List Str} {t : DTS}
theorem fna_of (F : FunD K x qual params body scope [] kws (He.fAd K p) fd) (Sc : FnScope N ps scope)
    (hbody : ∀ (cdv : Value) (A : Around) (outer : List Env) (s : Shared) (H : Hp) (E : XK), cdv = .ref (He.codeOf K p) → Room k (A.deeper (envOfC qual scope s.heap.objs.size (He.fAd K p) cdv)) →
      QSs (cxOf (L2N.CX P w) P w K mg base N qual scope (He.fAd K p) cdv A outer s H E) T (fun cls d _ H' => E cls d H') body t) :
    FnOk P w K mg base (L2N.CX P w) (k + 1) (He.fAd K p) fd ps (liftSp K T (spOf N ps.length t)) := by
  obtain ⟨oc, od, dV, kV, doc, pm, an, cdv, ct, osl, rfl, lk, hcd, _, _⟩ := F.ex
  obtain ⟨c, rfl⟩ := He.codeIn_ref hcd
  have ec : He.codeOf K p = c := He.codeOf_eq (p := p) lk rfl
  refine fn_of lk hcd Sc (fun vs H Q E h => ?_) fun A outer s H vs Q E hr h => ⟨_, hbody (.ref c) A outer s H E (by rw [ec]) hr, ?_⟩
  · obtain ⟨ds, F, G, P, Ed, hg, hr, hs, _⟩ := h
    rw [← hr.length]
    exact hs.1
  · obtain ⟨ds, F, G, P, Ed, hg, hr, hs, hq, hx⟩ := h
    exact ⟨dstart N ds, F, G, _, _, hg, relSt_start hr, fun x env' F' G' cls d σ' H' p s g r rx => hx x _ G' cls d H' p s g rx, hs.2, fun env' F' G' σ' H' p s g r => hq .non F' G' .non H' p s g rfl, hq⟩
theorem dfa_of (F : ∃ fd, FunD K x qual params body scope [] kws (He.fAd K p) fd) (Sc : FnScope N ps scope)
    (hb : ∀ (kV doc pm : Value) (an : Option Addr) (cdv ct : Value) (us : List Value), us.length = ps.length → bindArgs (PySem.W.fnOf x qual params body scope .none kV doc pm an cdv ct) ⟨us, []⟩ = pure (ps.zip us))
    (hbody : ∀ (cdv : Value) (A : Around) (outer : List Env) (s : Shared) (H : Hp) (E : XK), cdv = .ref (He.codeOf K p) → Room k (A.deeper (envOfC qual scope s.heap.objs.size (He.fAd K p) cdv)) →
      QSs (cxOf (L2N.CX P w) P w K mg base N qual scope (He.fAd K p) cdv A outer s H E) T (fun cls d _ H' => E cls d H') body t) :
    DFa P w K T mg base (k + 1) p ps (spOf N ps.length t) := by
  obtain ⟨fd, F⟩ := F
  exact ⟨⟨fd, fna_of F Sc hbody, F.bindsN hb⟩, F.kp⟩
/-- a global def by its name -/
theorem DFa.fn {y : Str} {sp : DSp} (h : DFa P w K T mg base k (y, none) ps sp) (hmg : mg y = some (.ref (He.ga K y))) : DFn P w K T mg base k y ps sp := ⟨h.ok, hmg, h.kp⟩
/-- keyword-only defaults: the given ones stand in front (B) or behind (C) of those that lack -/
def gB {α : Type} (us mv ws : List α) : List α := us ++ (ws ++ mv)
def gC {α : Type} (us mv ws : List α) : List α := us ++ (mv ++ ws)
structure FnK (P : Program) (w : World) (K : PySem.W.Frag) (T : LT) (mg : Str → Option Value) (base : Heap) (k : Nat) (p : Str × Option Str) (x qual : Str) (params : Arguments) (body : List Stmt) (scope : Scope) (kws : List (Str × V)) (ps : List Str) (sp : DSp) : Prop where
  ok : ∃ fd, FunD K x qual params body scope [] kws (He.fAd K p) fd ∧ FnOk P w K mg base (L2N.CX P w) k (He.fAd K p) fd ps (liftSp K T sp)
theorem fnk2_of (F : ∃ fd, FunD K x qual params body scope [] kws (He.fAd K p) fd) (Sc : FnScope N ps scope)
    (hbody : ∀ (cdv : Value) (A : Around) (outer : List Env) (s : Shared) (H : Hp) (E : XK), cdv = .ref (He.codeOf K p) → Room k (A.deeper (envOfC qual scope s.heap.objs.size (He.fAd K p) cdv)) →
      QSs (cxOf (L2N.CX P w) P w K mg base N qual scope (He.fAd K p) cdv A outer s H E) T (fun cls d _ H' => E cls d H') body t) :
    FnK P w K T mg base (k + 1) p x qual params body scope kws ps (spOf N ps.length t) := by
  obtain ⟨fd, F⟩ := F
  exact ⟨fd, F, fna_of F Sc hbody⟩
theorem FnK.callB {sp : DSp} (h : FnK P w K T mg base k p x qual params body scope kws ps sp) (n : Nat) (ks : List Str) (ms : List (Str × V)) (md : List D) (hk : kws ≠ []) (hms : ∀ q ∈ ms, q ∈ kws) (hmd : ∀ F H, RelDs K F H md (ms.map (·.2)))
    (hb : ∀ (D : Addr) (doc pm : Value) (an : Option Addr) (cdv ct : Value) (us mv ws : List Value), us.length = n → mv.length = ms.length → ws.length = ks.length →
      KwChain D ((ms.map (·.1)).zip mv) (bindArgs (PySem.W.fnOf x qual params body scope .none (.ref D) doc pm an cdv ct) ⟨us, ks.zip ws⟩) (ps.zip (gB us mv ws))) :
    DFk P w K T mg base k p ps n ks (fun ds es => gB ds md es) sp := by
  obtain ⟨fd, F, O⟩ := h.ok
  obtain ⟨mv, B⟩ := F.kbinds0 n ks ms gB hk hms (fun r1 r2 r3 => r1.append (r3.append r2)) hb
  exact ⟨⟨fd, _, _, O, B, fun F H ds vs es zs r1 r2 => r1.append (r2.append (hmd F H))⟩, F.kp⟩
theorem FnK.callC {sp : DSp} (h : FnK P w K T mg base k p x qual params body scope kws ps sp) (n : Nat) (ks : List Str) (ms : List (Str × V)) (md : List D) (hk : kws ≠ []) (hms : ∀ q ∈ ms, q ∈ kws) (hmd : ∀ F H, RelDs K F H md (ms.map (·.2)))
    (hb : ∀ (D : Addr) (doc pm : Value) (an : Option Addr) (cdv ct : Value) (us mv ws : List Value), us.length = n → mv.length = ms.length → ws.length = ks.length →
      KwChain D ((ms.map (·.1)).zip mv) (bindArgs (PySem.W.fnOf x qual params body scope .none (.ref D) doc pm an cdv ct) ⟨us, ks.zip ws⟩) (ps.zip (gC us mv ws))) :
    DFk P w K T mg base k p ps n ks (fun ds es => gC ds md es) sp := by
  obtain ⟨fd, F, O⟩ := h.ok
  obtain ⟨mv, B⟩ := F.kbinds0 n ks ms gC hk hms (fun r1 r2 r3 => r1.append (r2.append r3)) hb
  exact ⟨⟨fd, _, _, O, B, fun F H ds vs es zs r1 r2 => r1.append ((hmd F H).append r2)⟩, F.kp⟩
end
/-! ### instances -/
def putD (f : String) (v : D) : List (String × D) → List (String × D)
  | [] => [(f, v)]
  | (g, x) :: r => if g = f then (g, v) :: r else (g, x) :: putD f v r
section
variable {K : PySem.W.Frag} {F : FS} {G : DG} {H : Hp}
theorem S_eq_iff {s t : String} : S s = S t ↔ s = t := ⟨S_inj, fun h => by rw [h]⟩
theorem RelFs.lookup {f : String} : ∀ {fs : List (String × D)} {ws : List (Str × V)}, RelFs K F H fs ws → (∀ d, fs.lookup f = some d → ∃ v, ws.lookup (S f) = some v ∧ RelD K F H d v) ∧ (fs.lookup f = none → ws.lookup (S f) = none)
  | [], ws, h => by
    rw [show ws = [] from h]
    exact ⟨fun d e => (by cases e), fun _ => rfl⟩
  | (g, x) :: r, ws, ⟨v, ws', e, h, t⟩ => by
    rw [e]
    have ih := RelFs.lookup (f := f) t
    simp only [List.lookup_cons]
    by_cases q : f = g
    · have q2 : (S f == S g) = true := by rw [q]; simp
      have q3 : (f == g) = true := by rw [q]; simp
      rw [q2, q3]
      exact ⟨fun d e => by cases e; exact ⟨v, rfl, h⟩, fun e => by cases e⟩
    · have q3 : (f == g) = false := by simpa using q
      have q2 : (S f == S g) = false := by rw [S_beq]; exact q3
      rw [q2, q3]
      exact ih
theorem RelFs.put {f : String} {x : D} {v : V} (rx : RelD K F H x v) : ∀ {fs : List (String × D)} {ws : List (Str × V)}, RelFs K F H fs ws → RelFs K F H (putD f x fs) (putF (S f) v ws)
  | [], ws, h => by
    rw [show ws = [] from h]
    exact ⟨v, [], rfl, rx, rfl⟩
  | (g, y) :: r, ws, ⟨u, ws', e, h, t⟩ => by
    rw [e]
    unfold putD putF
    by_cases q : g = f
    · rw [if_pos q, if_pos (by rw [q])]
      exact ⟨v, ws', rfl, rx, t⟩
    · rw [if_neg q, if_neg fun z => q (S_inj z)]
      exact ⟨u, _, rfl, h, RelFs.put rx t⟩
theorem RelFs.length : ∀ {fs : List (String × D)} {ws : List (Str × V)}, RelFs K F H fs ws → fs.length = ws.length
  | [], ws, h => by rw [show ws = [] from h]; rfl
  | (g, y) :: r, ws, ⟨u, ws', e, h, t⟩ => by rw [e, List.length_cons, List.length_cons, RelFs.length t]
theorem RelG.ins {a : Addr} {c : String} {fs : List (String × D)} (hg : RelG K T F G H) (e : G a = some (.ins c fs)) : ∃ dx ws, H a = some (.ins (He.ga K (S c)) dx ws) ∧ G dx = none ∧ ¬ F dx ∧ (∃ b, H dx = some (.own b)) ∧ RelFs K F H fs ws := hg.ob a _ e
/-- an attribute is written -/
theorem RelG.fld {a dx : Addr} {c f : String} {fs : List (String × D)} {ws : List (Str × V)} {y : D} {v : V} (hg : RelG K T F G H) (e : G a = some (.ins c fs)) (ea : H a = some (.ins (He.ga K (S c)) dx ws)) (r : RelFs K F H fs ws) (gd : G dx = none) (fd : ¬ F dx) (od : ∃ b, H dx = some (.own b)) (ry : RelD K F H y v) :
    Step F G H F (gset G a (some (.ins c (putD f y fs)))) (upd H a (.ins (He.ga K (S c)) dx (putF (S f) v ws))) ∧ RelG K T F (gset G a (some (.ins c (putD f y fs)))) (upd H a (.ins (He.ga K (S c)) dx (putF (S f) v ws))) := by
  have hs : H a = none ∨ G a ≠ none := .inr (by rw [e]; simp)
  have s : Step F G H F (gset G a (some (.ins c (putD f y fs)))) (upd H a (.ins (He.ga K (S c)) dx (putF (S f) v ws))) := Step.set hg hs
  have hda : dx ≠ a := fun z => by rw [z, e] at gd; cases gd
  refine ⟨s, hg.set hs ⟨dx, _, rfl, by rw [gset_ne hda]; exact gd, fd, ?_, RelFs.put (RelD.step s y ry) (RelFs.step s fs r)⟩⟩
  obtain ⟨b, q⟩ := od
  exact ⟨b, by rw [upd_ne hda]; exact q⟩
/-- a new instance -/
theorem RelG.made {x dx : Addr} {c : String} (hg : RelG K T F G H) (hx : H x = none) (hd : H dx = none) (hne : dx ≠ x) :
    Step F G H F (gset G x (some (.ins c []))) (upd (upd H dx (.own x)) x (.ins (He.ga K (S c)) dx [])) ∧ RelG K T F (gset G x (some (.ins c []))) (upd (upd H dx (.own x)) x (.ins (He.ga K (S c)) dx [])) := by
  have g1 : RelG K T F G (upd H dx (.own x)) := hg.priv hd
  have s1 : Step F G H F G (upd H dx (.own x)) := Step.priv hd
  have hx1 : (upd H dx (.own x)) x = none := by rw [upd_ne (Ne.symm hne)]; exact hx
  have s2 : Step F G (upd H dx (.own x)) F (gset G x (some (.ins c []))) (upd (upd H dx (.own x)) x (.ins (He.ga K (S c)) dx [])) := Step.set g1 (.inl hx1)
  refine ⟨s1.trans s2, g1.set (.inl hx1) ⟨dx, [], rfl, ?_, ?_, ⟨x, ?_⟩, rfl⟩⟩
  · rw [gset_ne hne]; exact hg.free hd
  · exact hg.nof hd
  · rw [upd_ne hne, upd_same]
end
def dFld (cs : List String) (f : String) (to : DTE) : DTE := fun E env G Q => to E env G fun x G1 => ∃ a c fs d, x = .ref a ∧ G1 a = some (.ins c fs) ∧ c ∈ cs ∧ fs.lookup f = some d ∧ Q d G1
def sFldS (cs : List String) (f : String) (to tv : DTE) : DTS := fun E DE env G => tv E env G fun y G1 => to E env G1 fun x G2 => ∃ a c fs, x = .ref a ∧ G2 a = some (.ins c fs) ∧ c ∈ cs ∧ fs.length < 1000 ∧ DE.nx env (gset G2 a (some (.ins c (putD f y fs))))
def dMeth (m : String) (ms : List (String × DSp)) (to : DTE) (ta : DTA) : DTE := fun E env G Q => to E env G fun x G1 => ∃ a c fs sp, x = .ref a ∧ G1 a = some (.ins c fs) ∧ fs.lookup m = none ∧ ms.lookup c = some sp ∧ ta E env G1 fun xs G2 => sp (.ref a :: xs) G2 Q fun x G' => E x env G'
def dMake (c : String) (sp : DSp) (ta : DTA) : DTE := fun E env G Q => ta E env G fun xs G1 => ∀ p, G1 p = none → sp (.ref p :: xs) (gset G1 p (some (.ins c []))) (fun v G2 => v = .non ∧ Q (.ref p) G2) fun x G' => E x env G'
def dMakeK (c : String) (n m : Nat) (gD : List D → List D → List D) (sp : DSp) (ta tk : DTA) : DTE := fun E env G Q => ta E env G fun xs G1 => tk E env G1 fun zs G2 => xs.length = n ∧ zs.length = m ∧ ∀ p, G2 p = none → sp (gD (.ref p :: xs) zs) (gset G2 p (some (.ins c []))) (fun v G3 => v = .non ∧ Q (.ref p) G3) fun x G' => E x env G'
def dMethK (m : String) (n l : Nat) (gD : List D → List D → List D) (c0 : String) (sp : DSp) (to : DTE) (ta tk : DTA) : DTE := fun E env G Q => to E env G fun x G1 => ∃ a fs, x = .ref a ∧ G1 a = some (.ins c0 fs) ∧ fs.lookup m = none ∧ ta E env G1 fun xs G2 => tk E env G2 fun zs G3 => xs.length = n ∧ zs.length = l ∧ sp (gD (.ref a :: xs) zs) G3 Q fun x G' => E x env G'
inductive MsOk (P : Program) (w : World) (K : PySem.W.Frag) (T : LT) (mg : Str → Option Value) (base : Heap) (j : Nat) (m : String) : List (String × DSp) → Prop
  | nil : MsOk P w K T mg base j m []
  | cons {c : String} {sp : DSp} {ms : List (String × DSp)} {k : Nat} {ps : List Str} (F : DFa P w K T mg base k (S c, some (S m)) ps sp) (hk : k ≤ j) (cl : Cls K (He.ga K (S c))) (hm : Meth K (He.ga K (S c)) (S m) (He.fAd K (S c, some (S m)))) (r : MsOk P w K T mg base j m ms) : MsOk P w K T mg base j m ((c, sp) :: ms)
theorem MsOk.get {P : Program} {w : World} {K : PySem.W.Frag} {mg : Str → Option Value} {base : Heap} {j : Nat} {m c : String} {sp : DSp} : ∀ {ms : List (String × DSp)}, MsOk P w K T mg base j m ms → ms.lookup c = some sp → (∃ k ps, k ≤ j ∧ DFa P w K T mg base k (S c, some (S m)) ps sp) ∧ Cls K (He.ga K (S c)) ∧ Meth K (He.ga K (S c)) (S m) (He.fAd K (S c, some (S m)))
  | _, .cons (c := c') F hk cl hm r, e => by
    rw [List.lookup_cons] at e
    by_cases q : c = c'
    · rw [q] at e ⊢
      simp at e
      rw [← e]
      exact ⟨⟨_, _, hk, F⟩, cl, hm⟩
    · rw [show (c == c') = false by simpa using q] at e
      exact r.get e
section
variable {X : Cx} {W : WX} {e o value : Expr} {es : List Expr} {to tv : DTE} {ta tk : DTA} {pos pos' apos p : Pos} {cs : List String} {f m : String} {j : Nat}
theorem q_fld (he : QE X T W e to) (hc : ∀ c ∈ cs, Cls X.K (He.ga X.K (S c)) ∧ NoAttr X.K (He.ga X.K (S c)) (S f)) (hb : attributeBase e (Str.ofString f) X.env (eval e X.env) = eval e X.env := by rfl) : QE X T W (.Attribute e (Str.ofString f) pos) (dFld cs f to) := by
  refine PE.imp (pe_fld he hb) fun σ H Q ⟨env, F, G, E, P, hg, hs, hx, ht, hq⟩ => ⟨env, F, G, E, _, hg, hs, hx, ht, fun d F1 G1 v H1 pk s1 g1 r1 => ?_⟩
  obtain ⟨a, c, fs, d', rfl, ea, hcs, el, hp⟩ := pk
  obtain ⟨dx, ws, eh, _, _, _, rf⟩ := g1.ins ea
  obtain ⟨u, lu, ru⟩ := rf.lookup.1 d' el
  exact ⟨a, _, dx, ws, u, r1, eh, (hc c hcs).1, (hc c hcs).2, lu, hq _ _ _ _ _ hp s1 g1 ru⟩
theorem qs_fld (ho : QE X T W o to) (hv : QE X T W value tv) (hc : ∀ c ∈ cs, Cls X.K (He.ga X.K (S c)) ∧ NoAttr X.K (He.ga X.K (S c)) (S f)) (hs : swapsWith value (some (.Attribute o (Str.ofString f) pos')) pos.line X.env = pure false := by rfl) :
    QS X T W (.Assign [.Attribute o (Str.ofString f) pos'] value pos) (sFldS cs f to tv) := by
  refine PS.imp (ps_fld ho hv hs) fun Dn σ H ⟨env, F, G, E, DE, hg, hst, hx, ht, hn, hr⟩ => ?_
  refine ⟨env, F, G, E, _, hg, hst, hx, ht, fun y F1 G1 v H1 pk s1 g1 r1 => ?_⟩
  refine ⟨env, F1, G1, E, _, g1, hst.step s1, hx.step s1, pk, fun d F2 G2 u H2 pk2 s2 g2 r2 => ?_⟩
  obtain ⟨a, c, fs, rfl, ea, hcs, hl, hp⟩ := pk2
  obtain ⟨dx, ws, eh, gd, fd, od, rf⟩ := g2.ins ea
  obtain ⟨s3, g3⟩ := g2.fld (f := f) ea eh rf gd fd od (RelD.step s2 y r1)
  exact ⟨a, _, dx, ws, r2, eh, (hc c hcs).1, (hc c hcs).2, by rw [← rf.length]; exact hl, hn _ _ _ _ _ hp ((s1.trans s2).trans s3) g3 (hst.step ((s1.trans s2).trans s3))⟩
theorem q_meth {pl : Sem Bool} {ms : List (String × DSp)} (hm : MsOk X.prog X.w X.K T X.mg X.base j m ms) (hr : Room j X.A) (tkx : L2N.Takes X W) (he : QE X T W o to) (ha : QA X T W (e :: es) ta)
    (hst : starEach (e :: es) X.env = (false, eval e X.env) :: starEach es X.env := by rfl) (hpl : (backTo pos (starEach es X.env)).any (·.1) = false := by rfl)
    (ht : eval (.Call (.Attribute o (Str.ofString m) apos) (e :: es) [] pos) X.env = (do
      let ov ← eval o X.env
      standAt apos.atName
      let (f, first) ← holding [ov] (getMethod ov (Str.ofString m) pl)
      callWith pos f first (backTo pos (starEach (e :: es) X.env)) (backToKw pos (keywordEach [] X.env))) := by rfl) :
    QE X T W (.Call (.Attribute o (Str.ofString m) apos) (e :: es) [] pos) (dMeth m ms to ta) := by
  refine ⟨fun pins s σ H Q I hw => ?_⟩
  obtain ⟨env, F, G, E, P, hg, hs, hx, hto, hq⟩ := hw
  refine PySem.W.methodCall_KW (pl := pl) (thn (he.run pins s σ H (fun v H1 => ∃ d F1 G1, Step F G H F1 G1 H1 ∧ RelG X.K T F1 G1 H1 ∧ RelD X.K F1 H1 d v ∧ ∃ a c fs sp, d = .ref a ∧ G1 a = some (.ins c fs) ∧ fs.lookup m = none ∧ ms.lookup c = some sp ∧ ta E env G1 fun xs G2 => sp (.ref a :: xs) G2 P fun x G' => E x env G')
    I ⟨env, F, G, E, _, hg, hs, hx, hto, fun d F1 G1 v H1 pk s1 g1 r1 => ⟨d, F1, G1, s1, g1, r1, pk⟩⟩) fun u s1 ⟨x, H1, I1, rx, d, F1, G1, st1, g1, r1, a, c, fs, sp, ed, ea, el, esp, hta⟩ => ?_) ht
  subst ed
  obtain rfl : x = V.ref a := r1
  obtain rfl : u = Value.ref a := rx
  obtain ⟨dx, ws, eh, _, _, _, rf⟩ := g1.ins ea
  obtain ⟨⟨k, ps, hk, DF⟩, cl, hmt⟩ := hm.get esp
  obtain ⟨fd, F2, B⟩ := DF.ok
  refine getmeth_ok I1 eh cl hmt (rf.lookup.2 el) ?_
  refine PySem.W.callWith_K (first := [.ref a]) (h₀ := X.base) I.ok.mod.kin hmt.kp (thn (ha.run pos pins s1 σ H1 (fun vs H2 => liftSp X.K T sp (V.ref a :: vs) H2 Q (WE W σ)) I1 ⟨env, F1, G1, E, _, g1, hs.step st1, hx.step st1, hta, fun xs F3 G3 vs H3 pk s3 g3 r3 => ?_⟩) fun us s2 ⟨vs, H2, I2, r, q2⟩ => ⟨I2.kIn, ?_⟩) hst hpl
  · exact ⟨.ref a :: xs, F3, G3, _, _, g3, ⟨V.ref a, vs, rfl, rfl, r3⟩, pk, fun d F' G' v H' p2 s2 g2 r2 => hq d _ G' v H' p2 ((st1.trans s3).trans s2) g2 r2, fun x F' G' cls d H' p2 s2 g2 r2 => hx x env _ G' cls d σ H' p2 ((st1.trans s3).trans s2) g2 (hs.step ((st1.trans s3).trans s2)) r2⟩
  · exact run_fnS (us := .ref a :: us) (vs := .ref a :: vs) (E := WE W) F2 (hr.mono hk) B (L2N.passAt tkx σ) I2 (.cons rfl r) q2
theorem q_meth0 {pl : Sem Bool} {ms : List (String × DSp)} (hm : MsOk X.prog X.w X.K T X.mg X.base j m ms) (hr : Room j X.A) (tkx : L2N.Takes X W) (he : QE X T W o to)
    (ht : eval (.Call (.Attribute o (Str.ofString m) apos) [] [] pos) X.env = (do
      let ov ← eval o X.env
      standAt apos.atName
      let (f, first) ← holding [ov] (getMethod ov (Str.ofString m) pl)
      callWith pos f first (backTo pos (starEach [] X.env)) (backToKw pos (keywordEach [] X.env))) := by rfl) :
    QE X T W (.Call (.Attribute o (Str.ofString m) apos) [] [] pos) (dMeth m ms to dNil) := by
  refine ⟨fun pins s σ H Q I hw => ?_⟩
  obtain ⟨env, F, G, E, P, hg, hs, hx, hto, hq⟩ := hw
  refine PySem.W.methodCall_KW (pl := pl) (thn (he.run pins s σ H (fun v H1 => ∃ d F1 G1, Step F G H F1 G1 H1 ∧ RelG X.K T F1 G1 H1 ∧ RelD X.K F1 H1 d v ∧ ∃ a c fs sp, d = .ref a ∧ G1 a = some (.ins c fs) ∧ fs.lookup m = none ∧ ms.lookup c = some sp ∧ sp [.ref a] G1 P fun x G' => E x env G')
    I ⟨env, F, G, E, _, hg, hs, hx, hto, fun d F1 G1 v H1 pk s1 g1 r1 => ⟨d, F1, G1, s1, g1, r1, pk⟩⟩) fun u s1 ⟨x, H1, I1, rx, d, F1, G1, st1, g1, r1, a, c, fs, sp, ed, ea, el, esp, hsp⟩ => ?_) ht
  subst ed
  obtain rfl : x = V.ref a := r1
  obtain rfl : u = Value.ref a := rx
  obtain ⟨dx, ws, eh, _, _, _, rf⟩ := g1.ins ea
  obtain ⟨⟨k, ps, hk, DF⟩, cl, hmt⟩ := hm.get esp
  obtain ⟨fd, F2, B⟩ := DF.ok
  refine getmeth_ok I1 eh cl hmt (rf.lookup.2 el) ?_
  exact PySem.W.callWith_K0 (first := [.ref a]) I1.kIn hmt.kp (run_fnS (us := [.ref a]) (vs := [.ref a]) (E := WE W) F2 (hr.mono hk) B (L2N.passAt tkx σ) I1 (.cons rfl .nil)
    ⟨[.ref a], F1, G1, _, _, g1, ⟨V.ref a, [], rfl, rfl, rfl⟩, hsp, fun d F' G' v H' p2 s2 g2 r2 => hq d _ G' v H' p2 (st1.trans s2) g2 r2, fun x F' G' cls d H' p2 s2 g2 r2 => hx x env _ G' cls d σ H' p2 (st1.trans s2) g2 (hs.step (st1.trans s2)) r2⟩)
end
end DL

namespace DL
open PySem PySem.Spec PyProof.Rows L2 LamX HotX L2H
variable {T : LT}
/-! ### instances are made; keywords -/
section
variable {X : Cx} {CX : CXT} {k n : Nat} {f C : Addr} {fd : FuncData} {ps ks : List Str} {sp : Sp} {E : XK} {g : List Value → List Value → List Value} {gV : List V → List V → List V} {pins : List (Addr × Obj)} {σ : L2.St} {H : Hp} {s : Shared} {Q : VK} {us ws : List Value} {vs zs : List V}
theorem mk_end {I2x : Hp} {t : Shared} (I2 : Inv X pins σ I2x t) (hx : PassesAt CX X σ E) {x : Addr} {r : Except Value (Flow)} {s' : Shared} (hq' : CR CX X.stack X.prog X.w I2x t (fun v H2 => v = .non ∧ Q (.ref x) H2) E r s') :
    (match r with
      | .ok (.ret u) => u = .none ∧ EP X pins σ Q (.ref x) s'
      | .error e => X.xe e s'
      | _ => False) := by
  cases r with
  | error e => exact hx pins _ _ e s' I2 hq'
  | ok fl => cases fl with
    | ret u =>
      obtain ⟨v, H', I3, rv, ev, q3⟩ := I2.after hq'
      subst ev
      exact ⟨rv, ⟨V.ref x, H', I3, rfl, q3⟩⟩
    | next => exact hq'.elim
    | brk => exact hq'.elim
    | cont => exact hq'.elim
theorem mk_run (M : Mk X.K C f) (F : FnOk X.prog X.w X.K X.mg X.base CX k f fd ps sp) (hr : Room (k + 1) X.A) (hb : KBn X.K fd ps (n + 1) ks g gV) (hx : PassesAt CX X σ E) (I : Inv X pins σ H s) (r : Vals vs us) (rz : Vals zs ws) (l1 : vs.length = n) (l2 : zs.length = ks.length)
    (h : ∀ x dx, H x = none → H dx = none → dx ≠ x → sp (gV (.ref x :: vs) zs) (upd (upd H dx (.own x)) x (.ins C dx [])) (fun v H2 => v = .non ∧ Q (.ref x) H2) E) : wpAny (model X.prog X.w) X.A (call (.ref C) us (ks.zip ws)) (EP X pins σ Q) X.xe s := by
  have hq := h (s.heap.objs.size + 1) s.heap.objs.size (I.hok.fresh (Nat.le_succ _)) (I.hok.fresh (Nat.le_refl _)) (Nat.ne_of_lt (Nat.lt_succ_self _))
  have I2 := Inv.made (C := C) I
  have r1 : Vals (V.ref (s.heap.objs.size + 1) :: vs) (Value.ref (s.heap.objs.size + 1) :: us) := .cons rfl r
  have n1 : (Value.ref (s.heap.objs.size + 1) :: us).length = n + 1 := by
    rw [List.length_cons, ← r.length, l1]
  refine wpAny_call (make_map (f := f) I.kIn M.makes M.init (beq_iff_eq.mp M.fn) (codeAny_mono (F.run _ X.stack _ _ ⟨Value.ref (s.heap.objs.size + 1) :: us, ks.zip ws⟩ (g (Value.ref (s.heap.objs.size + 1) :: us) ws) _ _ E (hr.make C us (ks.zip ws)) (I2.env0.make C us (ks.zip ws))
    (hb.to _ _ ws I2.kIn n1 (rz.length.symm.trans l2)) (hb.rel r1 rz) hq) fun r s' hq' => ?_))
  have z := mk_end I2 hx hq'
  cases r with
  | error e => exact z
  | ok fl => cases fl <;> exact z
theorem mk_run0 (M : Mk X.K C f) (F : FnOk X.prog X.w X.K X.mg X.base CX k f fd ps sp) (hr : Room (k + 1) X.A) (hb : Binds X.K fd ps []) (hx : PassesAt CX X σ E) (I : Inv X pins σ H s) (r : Vals vs us)
    (h : ∀ x dx, H x = none → H dx = none → dx ≠ x → sp (.ref x :: vs) (upd (upd H dx (.own x)) x (.ins C dx [])) (fun v H2 => v = .non ∧ Q (.ref x) H2) E) : wpAny (model X.prog X.w) X.A (call (.ref C) us) (EP X pins σ Q) X.xe s := by
  have hq := h (s.heap.objs.size + 1) s.heap.objs.size (I.hok.fresh (Nat.le_succ _)) (I.hok.fresh (Nat.le_refl _)) (Nat.ne_of_lt (Nat.lt_succ_self _))
  have I2 := Inv.made (C := C) I
  have r1 : Vals (V.ref (s.heap.objs.size + 1) :: vs) (Value.ref (s.heap.objs.size + 1) :: us) := .cons rfl r
  have hl : (Value.ref (s.heap.objs.size + 1) :: us).length = ps.length := by rw [← r1.length]; exact F.len _ _ _ _ hq
  have b := hb _ (Value.ref (s.heap.objs.size + 1) :: us) I2.kIn (by rw [List.append_nil]; exact hl)
  rw [List.append_nil] at b
  refine wpAny_call (make_map (f := f) I.kIn M.makes M.init (beq_iff_eq.mp M.fn) (codeAny_mono (F.run _ X.stack _ _ ⟨Value.ref (s.heap.objs.size + 1) :: us, []⟩ _ _ _ E (hr.make C us []) (I2.env0.make C us []) b r1 hq) fun r s' hq' => ?_))
  have z := mk_end I2 hx hq'
  cases r with
  | error e => exact z
  | ok fl => cases fl <;> exact z
end
abbrev QK (X : Cx) (T : LT) (W : WX) (kws : List Keyword) (t : DTA) : Prop := PK X kws (liftA X.K T W t)
theorem PK.imp {X : Cx} {kws : List Keyword} {t t' : TA} (h : PK X kws t) (k : ∀ σ H Q, t' σ H Q → t σ H Q) : PK X kws t' := ⟨fun pos pins s σ H Q I w => h.run pos pins s σ H Q I (k σ H Q w)⟩
section
variable {X : Cx} {W : WX} {e o : Expr} {es : List Expr} {to te : DTE} {ta tk : DTA} {pos apos p kpos : Pos} {m c : String} {j k n : Nat} {ps ks : List Str} {sp : DSp} {gD : List D → List D → List D} {kws : List Keyword} {nm : Option Str}
theorem qk_nil : QK X T W [] dNil := PK.imp pk_nil fun σ H Q ⟨env, F, G, E, P, hg, hs, hx, ht, hq⟩ => hq [] F G [] H ht Step.refl hg rfl
theorem qk_cons (he : QE X T W e te) (hr : QK X T W kws ta) : QK X T W (⟨nm, e, kpos⟩ :: kws) (dCons te ta) :=
  PK.imp (pk_cons he hr) fun σ H Q ⟨env, F, G, E, P, hg, hs, hx, ht, hq⟩ => ⟨env, F, G, E, _, hg, hs, hx, ht, fun x F1 G1 v H1 p1 s1 g1 r1 => ⟨env, F1, G1, E, _, g1, hs.step s1, hx.step s1, p1, fun xs F2 G2 vs H2 p2 s2 g2 r2 => hq (x :: xs) F2 G2 (v :: vs) H2 p2 (s1.trans s2) g2 ⟨v, vs, rfl, RelD.step s2 x r1, r2⟩⟩⟩
/-- C(e, ..) -/
theorem q_make (M : Mk X.K (He.ga X.K (S c)) (He.fAd X.K (S c, some "__init__"))) (DF : DFa X.prog X.w X.K T X.mg X.base k (S c, some "__init__") ps sp) (hr : Room j X.A) (hj : k + 1 ≤ j) (tkx : L2N.Takes X W) (hg : Gl X (Str.ofString c)) (hm : X.mg (S c) = some (.ref (He.ga X.K (S c)))) (ha : QA X T W (e :: es) ta)
    (hdb : (Str.ofString c == ("__debug__" : Str)) = false := by decide) (he : starEach (e :: es) X.env = (false, eval e X.env) :: starEach es X.env := by rfl) (hpl : (backTo pos (starEach es X.env)).any (·.1) = false := by rfl) :
    QE X T W (.Call (.Name (Str.ofString c) p) (e :: es) [] pos) (dMake c sp ta) := by
  obtain ⟨fd, F2, B⟩ := DF.ok
  refine ⟨fun pins s σ H Q I hw => ?_⟩
  obtain ⟨env, F, G, E, P, hg', hs, hx, hta, hq⟩ := hw
  refine wpAny_Call_Name_kw (ld_glob I hg hm ?_ hdb)
  refine PySem.W.callWith_K (h₀ := X.base) I.ok.mod.kin M.kp (thn (ha.run pos pins s σ H (fun vs H1 => ∀ x dx, H1 x = none → H1 dx = none → dx ≠ x → liftSp X.K T sp (.ref x :: vs) (upd (upd H1 dx (.own x)) x (.ins (He.ga X.K (S c)) dx [])) (fun v H2 => v = .non ∧ Q (.ref x) H2) (WE W σ)) I
    ⟨env, F, G, E, _, hg', hs, hx, hta, fun xs F1 G1 vs H1 pk s1 g1 r1 x dx h1 h2 h3 => ?_⟩) fun us s1 ⟨vs, H1, I1, r, q⟩ => ⟨I1.kIn, mk_run0 M F2 (hr.mono hj) B (L2N.passAt tkx σ) I1 r q⟩) he hpl
  obtain ⟨s2, g2⟩ := g1.made (c := c) h1 h2 h3
  refine ⟨.ref x :: xs, F1, _, _, _, g2, ⟨V.ref x, vs, rfl, rfl, RelDs.step s2 xs r1⟩, pk x (g1.free h1), fun d F' G' v H' p2 s3 g3 r3 => ?_, fun y F' G' cls d H' p2 s3 g3 r3 => hx y env _ G' cls d σ H' p2 ((s1.trans s2).trans s3) g3 (hs.step ((s1.trans s2).trans s3)) r3⟩
  obtain ⟨rfl, p3⟩ := p2
  exact ⟨r3, hq _ _ _ _ _ p3 ((s1.trans s2).trans s3) g3 rfl⟩
/-- C() -/
theorem q_make0 (M : Mk X.K (He.ga X.K (S c)) (He.fAd X.K (S c, some "__init__"))) (DF : DFa X.prog X.w X.K T X.mg X.base k (S c, some "__init__") ps sp) (hr : Room j X.A) (hj : k + 1 ≤ j) (tkx : L2N.Takes X W) (hg : Gl X (Str.ofString c)) (hm : X.mg (S c) = some (.ref (He.ga X.K (S c))))
    (hdb : (Str.ofString c == ("__debug__" : Str)) = false := by decide) : QE X T W (.Call (.Name (Str.ofString c) p) [] [] pos) (dMake c sp dNil) := by
  obtain ⟨fd, F2, B⟩ := DF.ok
  refine ⟨fun pins s σ H Q I hw => ?_⟩
  obtain ⟨env, F, G, E, P, hg', hs, hx, hta, hq⟩ := hw
  refine wpAny_Call_Name_kw (ld_glob I hg hm ?_ hdb)
  refine PySem.W.callWith_K0 I.kIn M.kp (mk_run0 (us := []) (vs := []) M F2 (hr.mono hj) B (L2N.passAt tkx σ) I .nil fun x dx h1 h2 h3 => ?_)
  obtain ⟨s2, g2⟩ := hg'.made (c := c) h1 h2 h3
  refine ⟨[.ref x], F, _, _, _, g2, ⟨V.ref x, [], rfl, rfl, rfl⟩, hta x (hg'.free h1), fun d F' G' v H' p2 s3 g3 r3 => ?_, fun y F' G' cls d H' p2 s3 g3 r3 => hx y env _ G' cls d σ H' p2 (s2.trans s3) g3 (hs.step (s2.trans s3)) r3⟩
  obtain ⟨rfl, p3⟩ := p2
  exact ⟨r3, hq _ _ _ _ _ p3 (s2.trans s3) g3 rfl⟩
/-- C(e, .., k = v, ..) -/
theorem q_makeK (M : Mk X.K (He.ga X.K (S c)) (He.fAd X.K (S c, some "__init__"))) (DF : DFk X.prog X.w X.K T X.mg X.base k (S c, some "__init__") ps (n + 1) ks gD sp) (hr : Room j X.A) (hj : k + 1 ≤ j) (tkx : L2N.Takes X W) (hg : Gl X (Str.ofString c)) (hm : X.mg (S c) = some (.ref (He.ga X.K (S c)))) (ha : QA X T W (e :: es) ta) (hkw : QK X T W kws tk)
    (hall : (backToKw pos (keywordEach kws X.env)).all (·.1.isSome) = true := by rfl) (hks : (backToKw pos (keywordEach kws X.env)).filterMap (·.1) = ks := by rfl)
    (hdb : (Str.ofString c == ("__debug__" : Str)) = false := by decide) (he : starEach (e :: es) X.env = (false, eval e X.env) :: starEach es X.env := by rfl) (hpl : ((backTo pos (starEach (e :: es) X.env)).any (·.1) || (backToKw pos (keywordEach kws X.env)).any (·.1.isNone)) = false := by rfl) :
    QE X T W (.Call (.Name (Str.ofString c) p) (e :: es) kws pos) (dMakeK c n ks.length gD sp ta tk) := by
  obtain ⟨fd, g, gV, F2, B, hrel⟩ := DF.ok
  refine ⟨fun pins s σ H Q I hw => ?_⟩
  obtain ⟨env, F, G, E, P, hg', hs, hx, hta, hq⟩ := hw
  refine wpAny_Call_Name_kw (ld_glob I hg hm ?_ hdb)
  let Rk : List V → List V → Hp → Prop := fun vs zs H2 => vs.length = n ∧ zs.length = ks.length ∧ ∀ x dx, H2 x = none → H2 dx = none → dx ≠ x → liftSp X.K T sp (gV (.ref x :: vs) zs) (upd (upd H2 dx (.own x)) x (.ins (He.ga X.K (S c)) dx [])) (fun v H2 => v = .non ∧ Q (.ref x) H2) (WE W σ)
  refine PySem.W.callWith_KW (h₀ := X.base) I.ok.mod.kin M.kp hall (thn (ha.run pos pins s σ H (fun vs H1 => liftA X.K T W tk σ H1 fun zs H2 => Rk vs zs H2) I
    ⟨env, F, G, E, _, hg', hs, hx, hta, fun xs F1 G1 vs H1 pk s1 g1 r1 => ⟨env, F1, G1, E, _, g1, hs.step s1, hx.step s1, pk, fun ys F2 G2 zs H2 pk2 s2 g2 r2 => ?_⟩⟩) fun us s1 ⟨vs, H1, I1, r, q⟩ => ?_) hpl he
  · obtain ⟨l1, l2, pk3⟩ := pk2
    refine ⟨by rw [← r1.length]; exact l1, by rw [← r2.length]; exact l2, fun x dx h1 h2 h3 => ?_⟩
    obtain ⟨s3, g3⟩ := g2.made (c := c) h1 h2 h3
    refine ⟨gD (.ref x :: xs) ys, F2, _, _, _, g3, hrel F2 _ _ _ _ _ ⟨V.ref x, vs, rfl, rfl, RelDs.step (s2.trans s3) xs r1⟩ (RelDs.step s3 ys r2), pk3 x (g2.free h1), fun d F' G' v H' p2 s4 g4 r4 => ?_, fun y F' G' cls d H' p2 s4 g4 r4 => hx y env _ G' cls d σ H' p2 (((s1.trans s2).trans s3).trans s4) g4 (hs.step (((s1.trans s2).trans s3).trans s4)) r4⟩
    obtain ⟨rfl, p3⟩ := p2
    exact ⟨r4, hq _ _ _ _ _ p3 (((s1.trans s2).trans s3).trans s4) g4 rfl⟩
  · refine thn (hkw.run pos pins s1 σ H1 _ I1 q) fun ws s2 ⟨zs, H2, I2, rz, l1, l2, q2⟩ => ⟨I2.kIn, ?_⟩
    rw [hks]
    exact mk_run M F2 (hr.mono hj) B (L2N.passAt tkx σ) I2 r rz l1 l2 q2
/-- o.m(e, .., k = v, ..) -/
theorem q_methK {pl : Sem Bool} (cl : Cls X.K (He.ga X.K (S c))) (hmt : Meth X.K (He.ga X.K (S c)) (S m) (He.fAd X.K (S c, some (S m)))) (DF : DFk X.prog X.w X.K T X.mg X.base k (S c, some (S m)) ps (n + 1) ks gD sp) (hr : Room j X.A) (hj : k ≤ j) (tkx : L2N.Takes X W) (he : QE X T W o to) (ha : QA X T W (e :: es) ta) (hkw : QK X T W kws tk)
    (hall : (backToKw pos (keywordEach kws X.env)).all (·.1.isSome) = true := by rfl) (hks : (backToKw pos (keywordEach kws X.env)).filterMap (·.1) = ks := by rfl)
    (hst : starEach (e :: es) X.env = (false, eval e X.env) :: starEach es X.env := by rfl) (hpl : ((backTo pos (starEach (e :: es) X.env)).any (·.1) || (backToKw pos (keywordEach kws X.env)).any (·.1.isNone)) = false := by rfl)
    (ht : eval (.Call (.Attribute o (Str.ofString m) apos) (e :: es) kws pos) X.env = (do
      let ov ← eval o X.env
      standAt apos.atName
      let (f, first) ← holding [ov] (getMethod ov (Str.ofString m) pl)
      callWith pos f first (backTo pos (starEach (e :: es) X.env)) (backToKw pos (keywordEach kws X.env))) := by rfl) :
    QE X T W (.Call (.Attribute o (Str.ofString m) apos) (e :: es) kws pos) (dMethK m n ks.length gD c sp to ta tk) := by
  obtain ⟨fd, g, gV, F2, B, hrel⟩ := DF.ok
  refine ⟨fun pins s σ H Q I hw => ?_⟩
  obtain ⟨env, F, G, E, P, hg, hs, hx, hto, hq⟩ := hw
  refine PySem.W.methodCall_KW (pl := pl) (thn (he.run pins s σ H (fun v H1 => ∃ d F1 G1, Step F G H F1 G1 H1 ∧ RelG X.K T F1 G1 H1 ∧ RelD X.K F1 H1 d v ∧ ∃ a fs, d = .ref a ∧ G1 a = some (.ins c fs) ∧ fs.lookup m = none ∧ ta E env G1 fun xs G2 => tk E env G2 fun zs G3 => xs.length = n ∧ zs.length = ks.length ∧ sp (gD (.ref a :: xs) zs) G3 P fun x G' => E x env G')
    I ⟨env, F, G, E, _, hg, hs, hx, hto, fun d F1 G1 v H1 pk s1 g1 r1 => ⟨d, F1, G1, s1, g1, r1, pk⟩⟩) fun u s1 ⟨x, H1, I1, rx, d, F1, G1, st1, g1, r1, a, fs, ed, ea, el, hta⟩ => ?_) ht
  subst ed
  obtain rfl : x = V.ref a := r1
  obtain rfl : u = Value.ref a := rx
  obtain ⟨dx, wf, eh, _, _, _, rf⟩ := g1.ins ea
  refine getmeth_ok I1 eh cl hmt (rf.lookup.2 el) ?_
  refine PySem.W.callWith_KW (first := [.ref a]) (h₀ := X.base) I.ok.mod.kin hmt.kp hall (thn (ha.run pos pins s1 σ H1 (fun vs H2 => liftA X.K T W tk σ H2 fun zs H3 => vs.length = n ∧ zs.length = ks.length ∧ liftSp X.K T sp (gV (.ref a :: vs) zs) H3 Q (WE W σ)) I1
    ⟨env, F1, G1, E, _, g1, hs.step st1, hx.step st1, hta, fun xs F3 G3 vs H3 pk s3 g3 r3 => ⟨env, F3, G3, E, _, g3, hs.step (st1.trans s3), hx.step (st1.trans s3), pk, fun ys F4 G4 zs H4 pk4 s4 g4 r4 => ?_⟩⟩) fun us s2 ⟨vs, H2, I2, r, q2⟩ => ?_) hpl hst
  · obtain ⟨l1, l2, pk5⟩ := pk4
    have st := (st1.trans s3).trans s4
    exact ⟨by rw [← r3.length]; exact l1, by rw [← r4.length]; exact l2, gD (.ref a :: xs) ys, F4, G4, _, _, g4, hrel F4 _ _ _ _ _ ⟨V.ref a, vs, rfl, rfl, RelDs.step s4 xs r3⟩ r4, pk5, fun d F' G' v H' p2 s5 g5 r5 => hq d _ G' v H' p2 (st.trans s5) g5 r5, fun y F' G' cls d H' p2 s5 g5 r5 => hx y env _ G' cls d σ H' p2 (st.trans s5) g5 (hs.step (st.trans s5)) r5⟩
  · refine thn (hkw.run pos pins s2 σ H2 _ I2 q2) fun ws s3 ⟨zs, H3, I3, rz, l1, l2, q3⟩ => ⟨I3.kIn, ?_⟩
    rw [hks]
    have n1 : (Value.ref a :: us).length = n + 1 := by
      rw [List.length_cons, ← r.length, l1]
    refine wpAny_call (codeAny_mono (F2.run X.A X.stack s3 H3 ⟨Value.ref a :: us, ks.zip ws⟩ (g (Value.ref a :: us) ws) _ Q (WE W σ) (hr.mono hj) I3.env0 (B.to _ _ ws I3.kIn n1 (rz.length.symm.trans l2)) (B.rel (vs := V.ref a :: vs) (.cons rfl r) rz) q3) fun r s' hq => ?_)
    cases r with
    | error e => exact L2N.passAt tkx σ pins H3 s3 e s' I3 hq
    | ok fl => cases fl with
      | ret u => exact I3.after hq
      | next => exact hq.elim
      | brk => exact hq.elim
      | cont => exact hq.elim
end
end DL

namespace DL
open PySem PySem.Spec PyProof.Rows L2 LamX HotX L2H
variable {T : LT}
/-- the j-th statement of a class -/
def inCls (st : Stmt) (j : Nat) : Stmt := match st with
  | .ClassDef _ _ _ b _ _ _ _ _ _ _ => b.getD j (.Pass ⟨0, 0, 0, 0⟩)
  | _ => .Pass ⟨0, 0, 0, 0⟩
/-! ### tables of numbers -/
def tabI (l : List (String × Int)) : List (String × D) := l.map fun p => (p.1, .int p.2)
def tabVI (l : List (String × Int)) : List (Str × He.Dv) := l.map fun p => (S p.1, .int p.2)
theorem lookup_tabI (z : String) : ∀ l : List (String × Int), (tabI l).lookup z = (l.lookup z).map .int
  | [] => rfl
  | (k, v) :: r => by
    simp only [tabI, List.map_cons, List.lookup_cons]
    cases h : (z == k) with
    | true => rfl
    | false => exact lookup_tabI z r
theorem lookup_memI {z : String} {v : Int} : ∀ {l : List (String × Int)}, l.lookup z = some v → (z, v) ∈ l
  | [], h => by cases h
  | (k, u) :: r, h => by
    rw [List.lookup_cons] at h
    by_cases q : z = k
    · rw [q] at h ⊢
      simp at h
      rw [h]
      exact List.mem_cons_self
    · rw [show (z == k) = false by simpa using q] at h
      exact List.mem_cons_of_mem _ (lookup_memI h)
theorem look_keys {z : String} : ∀ (l : List (String × Int)), l.lookup z = none → (l.map fun p => (p.1, "")).lookup z = none
  | [], _ => rfl
  | (k, u) :: r, h => by
    rw [List.lookup_cons] at h
    rw [List.map_cons, List.lookup_cons]
    cases q : (z == k) with
    | true => rw [q] at h; cases h
    | false => rw [q] at h; exact look_keys r h
theorem ktabI_of {K : PySem.W.Frag} {w : World} {mg : Str → Option Value} {x : String} {l : List (String × Int)} (hmg : mg (S x) = some (.ref (He.ga K (S x)))) (hd : He.dicW K (He.ga K (S x)) = some (He.keysIn w.params (l.map fun p => S p.1))) (hv : He.valsB K (He.ga K (S x)) (tabVI l) = true) : KTab K w mg x (tabI l) := by
  refine ⟨hmg, He.dicW_ok hd, fun z => ?_⟩
  rw [lookup_tabI]
  cases q : l.lookup z with
  | none =>
    left
    refine ⟨?_, rfl⟩
    have hd2 : He.dicW K (He.ga K (S x)) = some (He.keysIn w.params ((l.map fun p => (p.1, "")).map fun p : String × String => S p.1)) := by rw [hd, List.map_map]; rfl
    unfold He.dicW at hd2
    unfold PySem.W.nsIn
    split at hd2
    · rename_i c es n sl hk
      split at hd2
      · obtain ⟨h1, h2⟩ := keys_none (Option.some.inj hd2) (look_keys l q)
        rw [hk]
        simp only [h1, h2, Bool.false_eq_true, if_false]
      · cases hd2
    · cases hd2
  | some v =>
    right
    obtain ⟨u, hu, ru⟩ := He.valsB_ok hv (List.mem_map.mpr ⟨(z, v), lookup_memI q, rfl⟩ : (S z, He.Dv.int v) ∈ tabVI l)
    exact ⟨u, .int v, .int v, hu, rfl, ru, fun _ _ => rfl⟩
/-! ### tuples of the module -/
mutual
def relKB (K : PySem.W.Frag) : D → Value → Bool
  | .non, .none => true
  | .bl a, .bool b => a == b
  | .int i, .int j _ => decide (i = j)
  | .str s, .str y _ => decide (y = S s)
  | .tup ds, .ref a => (match K.lookup a with
    | some ⟨.type c, _, .seq its _, _⟩ => decide (c = "tuple") && (decide (its.size ≤ sizeLine) && relKBs K ds its.toList)
    | _ => false)
  | _, _ => false
def relKBs (K : PySem.W.Frag) : List D → List Value → Bool
  | [], [] => true
  | d :: ds, u :: us => relKB K d u && relKBs K ds us
  | _, _ => false
end
mutual
theorem relKB_ok {K : PySem.W.Frag} : ∀ (d : D) (u : Value), relKB K d u = true → ∃ v, L2.RelV v u ∧ ∀ F H, RelD K F H d v
  | .non, u, h => by
    cases u <;> first | exact ⟨.non, rfl, fun _ _ => rfl⟩ | (simp [relKB] at h)
  | .bl a, u, h => by
    cases u with
    | bool b =>
      have : a = b := by simpa [relKB] using h
      exact ⟨.bl b, rfl, fun _ _ => by rw [this]; rfl⟩
    | _ => simp [relKB] at h
  | .int i, u, h => by
    cases u with
    | int j t =>
      have : i = j := by simpa [relKB] using h
      exact ⟨.int j, ⟨t, rfl⟩, fun _ _ => by rw [this]; rfl⟩
    | _ => simp [relKB] at h
  | .str s, u, h => by
    cases u with
    | str y t =>
      have : y = S s := by simpa [relKB] using h
      exact ⟨.str y, ⟨t, rfl⟩, fun _ _ => by rw [this]; rfl⟩
    | _ => simp [relKB] at h
  | .tup ds, u, h => by
    cases u with
    | ref a =>
      unfold relKB at h
      split at h
      · rename_i c od its n sl hk
        rw [Bool.and_eq_true, Bool.and_eq_true, decide_eq_true_eq, decide_eq_true_eq] at h
        obtain ⟨vs, rv, rd⟩ := relKBs_ok ds its.toList h.2.2
        exact ⟨.ref a, rfl, fun F H => ⟨a, vs, rfl, .inr ⟨_, its, n, hk, by rw [h.1], rfl, h.2.1, rv⟩, rd F H⟩⟩
      · cases h
    | _ => simp [relKB] at h
  | .lst _, u, h => by cases u <;> simp [relKB] at h
  | .dct _, u, h => by cases u <;> simp [relKB] at h
  | .ref _, u, h => by cases u <;> simp [relKB] at h
  | .scr _, u, h => by cases u <;> simp [relKB] at h
theorem relKBs_ok {K : PySem.W.Frag} : ∀ (ds : List D) (us : List Value), relKBs K ds us = true → ∃ vs, Vals vs us ∧ ∀ F H, RelDs K F H ds vs
  | [], us, h => by
    cases us with
    | nil => exact ⟨[], .nil, fun _ _ => rfl⟩
    | cons u us => simp [relKBs] at h
  | d :: ds, us, h => by
    cases us with
    | nil => simp [relKBs] at h
    | cons u us =>
      have h2 : relKB K d u = true ∧ relKBs K ds us = true := by simpa [relKBs] using h
      obtain ⟨v, r1, r2⟩ := relKB_ok d u h2.1
      obtain ⟨vs, r3, r4⟩ := relKBs_ok ds us h2.2
      exact ⟨v :: vs, .cons r1 r3, fun F H => ⟨v, vs, rfl, r2 F H, r4 F H⟩⟩
end
structure TupG (K : PySem.W.Frag) (mg : Str → Option Value) (x : String) (d : D) : Prop where
  ok : ∃ u v, mg (S x) = some u ∧ L2.RelV v u ∧ ∀ F H, RelD K F H d v
def tupGB (K : PySem.W.Frag) (x : String) (d : D) : Bool := relKB K d (.ref (He.ga K (S x)))
theorem tupG_of {K : PySem.W.Frag} {mg : Str → Option Value} {x : String} {d : D} (hmg : mg (S x) = some (.ref (He.ga K (S x)))) (h : tupGB K x d = true) : TupG K mg x d := by
  obtain ⟨v, r1, r2⟩ := relKB_ok d _ h
  exact ⟨_, v, hmg, r1, r2⟩
theorem q_gtup {X : Cx} {W : WX} {x : String} {d : D} {pos : Pos} (hg : Gl X (Str.ofString x)) (h : TupG X.K X.mg x d) (hd : (Str.ofString x == ("__debug__" : Str)) = false := by decide) : QE X T W (.Name (Str.ofString x) pos) (dC d) := by
  obtain ⟨u, v, hm, r, rd⟩ := h.ok
  exact q_con (pe_glob hg hm r hd) rd
end DL

/-! programs.py, rights.py, texts.py: what their twins tell, in plain Lean -/
namespace PL
open DL PySem
def lst_FORMS : List (String × String) := [("set", "rn"), ("copy", "rr"), ("add", "rr"), ("take", "rr"), ("less", "rr"), ("go", "g"), ("zero", "rg"), ("read", "rr"), ("write", "rr"), ("ask", "rw"), ("tell", "rw"), ("look", "rrw"), ("mark", "rrw"), ("end", "")]
def tab_FORMS : List (String × D) := tabS lst_FORMS
def e_is_whole : List D → Option (Except DX D) := fnE ["thing", "low", "high"] 3 (xRet (eAndV (eUn (pyIsi "int") (eVar 0)) (eAndV (eNotV (eUn (pyIsi "bool") (eVar 0))) (eChain pyLe pyLe (eVar 1) (eVar 0) (eVar 2)))))
def e_is_number : List D → Option (Except DX D) := fnE ["thing"] 1 (xRet (eCall e_is_whole (eCons (eVar 0) (eCons (eUn pyNeg (eC (.int 999))) (eCons (eC (.int 999)) (eC []))))))
def e_is_word : List D → Option (Except DX D) := fnE ["thing", "sign"] 1 (xRet (eAndV (eUn (pyIsi "str") (eVar 0)) (eAndV (eChain pyLe pyLe (eC (.int 1)) (eB pyLen (eCons (eVar 0) (eC []))) (eC (.int 8))) (eB pyAll (eCons (eLc (eIter (eVar 0)) (.n 1) (eC true) (eOp pyIn (eVar 1) (eC (.str "abcdefghijklmnopqrstuvwxyz"))) [1]) (eC []))))))
def e_is_part : List D → Option (Except DX D) := fnE ["sort", "thing"] 2 (xSeq (xIf (eTest (eOp pyEq (eVar 0) (eC (.str "r")))) (xRet (eCall e_is_whole (eCons (eVar 1) (eCons (eC (.int 0)) (eCons (eC (.int 3)) (eC [])))))) (xNext)) (xSeq (xIf (eTest (eOp pyEq (eVar 0) (eC (.str "n")))) (xRet (eCall e_is_number (eCons (eVar 1) (eC [])))) (xNext)) (xRet (eIf (eTest (eOp pyEq (eVar 0) (eC (.str "g")))) (eCall e_is_whole (eCons (eVar 1) (eCons (eC (.int 0)) (eCons (eC (.int 99)) (eC []))))) (eCall e_is_word (eCons (eVar 1) (eC [])))))))
def e_is_instruction : List D → Option (Except DX D) := fnE ["thing", "sorts", "sort", "part"] 1 (xSeq (xIf (eOr (eNot (eTest (eUn (pyIsi "tuple") (eVar 0)))) (eOr (eTest (eOp pyEq (eVar 0) (eTup (eC [])))) (eOr (eNot (eTest (eUn (pyIsi "str") (eOp pyItem (eVar 0) (eC (.int 0)))))) (eTest (eUn (kNotIn tab_FORMS) (eOp pyItem (eVar 0) (eC (.int 0)))))))) (xRet (eC (.bl false))) (xNext)) (xSeq (xSet 1 (eUn (kItem tab_FORMS) (eOp pyItem (eVar 0) (eC (.int 0))))) (xRet (eAndV (eOp pyEq (eB pyLen (eCons (eVar 0) (eC []))) (eOp pyAdd (eB pyLen (eCons (eVar 1) (eC []))) (eC (.int 1)))) (eB pyAll (eCons (eLc (eZip (eCons (eVar 1) (eCons (eSlice (eVar 0) (ePart (eC (.int 1))) (eC none)) (eC [])))) (.t [2, 3]) (eC true) (eCall e_is_part (eCons (eVar 2) (eCons (eVar 3) (eC [])))) [2, 3]) (eC [])))))))
def e_is_program : List D → Option (Except DX D) := fnE ["thing", "one"] 1 (xRet (eAndV (eUn (pyIsi "tuple") (eVar 0)) (eAndV (eChain pyLe pyLe (eC (.int 1)) (eB pyLen (eCons (eVar 0) (eC []))) (eC (.int 40))) (eB pyAll (eCons (eLc (eIter (eVar 0)) (.n 1) (eC true) (eCall e_is_instruction (eCons (eVar 1) (eC []))) [1]) (eC []))))))
def e_need_program : List D → Option (Except DX D) := fnE ["thing"] 1 (xIf (eNot (eTest (eCall e_is_program (eCons (eVar 0) (eC []))))) (xRaise "BadProgram") (xNext))
def e_is_row : List D → Option (Except DX D) := fnE ["thing", "one", "other"] 1 (xSeq (xIf (eOr (eNot (eTest (eUn (pyIsi "tuple") (eVar 0)))) (eOr (eTest (eOp pyGt (eB pyLen (eCons (eVar 0) (eC []))) (eC (.int 6)))) (eNot (eTest (eB pyAll (eCons (eLc (eIter (eVar 0)) (.n 1) (eC true) (eCall e_is_word (eCons (eVar 1) (eC []))) [1]) (eC []))))))) (xRet (eC (.bl false))) (xNext)) (xRet (eB pyAll (eCons (eLc (eZip (eCons (eVar 0) (eCons (eSlice (eVar 0) (ePart (eC (.int 1))) (eC none)) (eC [])))) (.t [1, 2]) (eC true) (eOp pyLt (eVar 1) (eVar 2)) [1, 2]) (eC [])))))
def e_is_rights : List D → Option (Except DX D) := fnE ["thing", "row"] 1 (xSeq (xIf (eOr (eNot (eTest (eUn (pyIsi "tuple") (eVar 0)))) (eOr (eTest (eOp pyNe (eB pyLen (eCons (eVar 0) (eC []))) (eC (.int 5)))) (eNot (eTest (eCall e_is_whole (eCons (eOp pyItem (eVar 0) (eC (.int 0))) (eCons (eC (.int 0)) (eCons (eC (.int 60)) (eC []))))))))) (xRet (eC (.bl false))) (xNext)) (xRet (eB pyAll (eCons (eLc (eIter (eSlice (eVar 0) (ePart (eC (.int 1))) (eC none))) (.n 1) (eC true) (eCall e_is_row (eCons (eVar 1) (eC []))) [1]) (eC [])))))
def e_need_rights : List D → Option (Except DX D) := fnE ["thing"] 1 (xIf (eNot (eTest (eCall e_is_rights (eCons (eVar 0) (eC []))))) (xRaise "BadRights") (xNext))
def e_program_text : List D → Option (Except DX D) := fnE ["program", "part", "one"] 1 (xSeq (xDrop (eCall e_need_program (eCons (eVar 0) (eC [])))) (xRet (eMt "str" mJoin (eC (.str "\n")) (eCons (eLc (eIter (eVar 0)) (.n 2) (eC true) (eMt "str" mJoin (eC (.str " ")) (eCons (eLc (eIter (eVar 2)) (.n 1) (eC true) (eB pyStr (eCons (eVar 1) (eC []))) [1]) (eC []))) [2]) (eC [])))))
def e_number_in : List D → Option (Except DX D) := fnE ["text", "bare", "sign"] 1 (xSeq (xSet 1 (eIf (eTest (eOp pyEq (eSlice (eVar 0) (eC none) (ePart (eC (.int 1)))) (eC (.str "-")))) (eSlice (eVar 0) (ePart (eC (.int 1))) (eC none)) (eVar 0))) (xSeq (xIf (eOr (eNot (eTest (eChain pyLe pyLe (eC (.int 1)) (eB pyLen (eCons (eVar 1) (eC []))) (eC (.int 3))))) (eOr (eNot (eTest (eB pyAll (eCons (eLc (eIter (eVar 1)) (.n 2) (eC true) (eOp pyIn (eVar 2) (eC (.str "0123456789"))) [2]) (eC []))))) (eTest (eOp pyNe (eB pyStr (eCons (eB pyIntS (eCons (eVar 0) (eC []))) (eC []))) (eVar 0))))) (xRet (eC .non)) (xNext)) (xRet (eB pyIntS (eCons (eVar 0) (eC []))))))
def e_row_in : List D → Option (Except DX D) := fnE ["line", "words", "sorts", "sort", "word"] 1 (xSeq (xSet 1 (eMt "str" mSplit (eVar 0) (eCons (eC (.str " ")) (eC [])))) (xSeq (xSet 2 (eUn (kGet tab_FORMS) (eOp pyItem (eVar 1) (eC (.int 0))))) (xSeq (xIf (eOr (eTest (eOp pyIs (eVar 2) (eC .non))) (eTest (eOp pyNe (eB pyLen (eCons (eVar 1) (eC []))) (eOp pyAdd (eB pyLen (eCons (eVar 2) (eC []))) (eC (.int 1)))))) (xRet (eC .non)) (xNext)) (xRet (eOp pyAdd (eTup (eCons (eOp pyItem (eVar 1) (eC (.int 0))) (eC []))) (eB pyTup (eCons (eLc (eZip (eCons (eVar 2) (eCons (eSlice (eVar 1) (ePart (eC (.int 1))) (eC none)) (eC [])))) (.t [3, 4]) (eC true) (eIf (eTest (eOp pyEq (eVar 3) (eC (.str "w")))) (eVar 4) (eCall e_number_in (eCons (eVar 4) (eC [])))) [3, 4]) (eC []))))))))
def e_read_program : List D → Option (Except DX D) := fnE ["text", "found", "line"] 1 (xSeq (xIf (eNot (eTest (eUn (pyIsi "str") (eVar 0)))) (xRaise "BadText") (xNext)) (xSeq (xSet 1 (eB pyTup (eCons (eLc (eIter (eMt "str" mSplit (eVar 0) (eCons (eC (.str "\n")) (eC [])))) (.n 2) (eC true) (eCall e_row_in (eCons (eVar 2) (eC []))) [2]) (eC [])))) (xSeq (xIf (eNot (eTest (eCall e_is_program (eCons (eVar 1) (eC []))))) (xRaise "BadText") (xNext)) (xRet (eVar 1)))))
def e_rights_text : List D → Option (Except DX D) := fnE ["rights", "words", "sign", "row", "word"] 1 (xSeq (xDrop (eCall e_need_rights (eCons (eVar 0) (eC [])))) (xSeq (xSet 1 (eLst (eCons (eB pyStr (eCons (eOp pyItem (eVar 0) (eC (.int 0))) (eC []))) (eC [])))) (xSeq (xFor (eZip (eCons (eC (.str "?!<>")) (eCons (eSlice (eVar 0) (ePart (eC (.int 1))) (eC none)) (eC [])))) (.t [2, 3]) (xSet 1 (eOp pyAdd (eVar 1) (eLc (eIter (eVar 3)) (.n 4) (eC true) (eOp pyAdd (eVar 2) (eVar 4)) [4])))) (xRet (eMt "str" mJoin (eC (.str " ")) (eCons (eVar 1) (eC [])))))))
def e_read_rights : List D → Option (Except DX D) := fnE ["text", "first", "words", "rows", "word", "sign", "found"] 1 (xSeq (xIf (eNot (eTest (eUn (pyIsi "str") (eVar 0)))) (xRaise "BadText") (xNext)) (xSeq (xStar 1 2 (eMt "str" mSplit (eVar 0) (eCons (eC (.str " ")) (eC [])))) (xSeq (xSet 3 (eLc (eIter (eC (.str "?!<>"))) (.n 5) (eC true) (eB pyTup (eCons (eLc (eIter (eVar 2)) (.n 4) (eTest (eOp pyEq (eSlice (eVar 4) (eC none) (ePart (eC (.int 1)))) (eVar 5))) (eSlice (eVar 4) (ePart (eC (.int 1))) (eC none)) [4]) (eC []))) [5])) (xSeq (xSet 6 (eOp pyAdd (eTup (eCons (eCall e_number_in (eCons (eVar 1) (eC []))) (eC []))) (eB pyTup (eCons (eVar 3) (eC []))))) (xSeq (xIf (eOr (eNot (eTest (eCall e_is_rights (eCons (eVar 6) (eC []))))) (eTest (eOp pyNe (eCall e_rights_text (eCons (eVar 6) (eC []))) (eVar 0)))) (xRaise "BadText") (xNext)) (xRet (eVar 6)))))))
/-! ### helpers -/
section
variable {α β : Type} {env : DSt} {x : D} {z : α} {ex : DX} {e : Ev D} {et eu : Ev Bool} {er : Ev (List D)} {xs : List D}
theorem b_ok {f : α → Option (Except DX β)} : bindE (some (.ok z)) f = f z := rfl
theorem b_er {f : α → Option (Except DX β)} : bindE (some (.error ex)) f = some (.error ex) := rfl
theorem okE_some : okE (some z) = some (.ok z) := rfl
theorem r_c : (eC z : Ev α) env = some (.ok z) := rfl
theorem r_var {i : Nat} (h : env[i]? = some (some x)) : eVar i env = some (.ok x) := by unfold eVar; rw [h]
theorem r_op {f : DG → D → D → Option D} {ea eb : Ev D} {x y z : D} (ha : ea env = some (.ok x)) (hb : eb env = some (.ok y)) (h : f G0 x y = some z) : eOp f ea eb env = some (.ok z) := by unfold eOp; rw [ha, b_ok, hb, b_ok, h]; rfl
theorem r_un {f : DG → D → Option D} {ea : Ev D} {x z : D} (ha : ea env = some (.ok x)) (h : f G0 x = some z) : eUn f ea env = some (.ok z) := by unfold eUn; rw [ha, b_ok, h]; rfl
theorem r_b {f : DG → List D → Option D} {z : D} (ha : er env = some (.ok xs)) (h : f G0 xs = some z) : eB f er env = some (.ok z) := by unfold eB; rw [ha, b_ok, h]; rfl
theorem r_nil : (eC [] : Ev (List D)) env = some (.ok []) := rfl
theorem r_cons {ea : Ev D} (ha : ea env = some (.ok x)) (hr : er env = some (.ok xs)) : eCons ea er env = some (.ok (x :: xs)) := by unfold eCons; rw [ha, b_ok, hr]; rfl
theorem r_call {ef : List D → Option (Except DX D)} {r : Option (Except DX D)} (ha : er env = some (.ok xs)) (h : ef xs = r) : eCall ef er env = r := by unfold eCall; rw [ha]; exact h
theorem r_test {b : Bool} (h : e env = some (.ok (.bl b))) : eTest e env = some (.ok b) := by unfold eTest; rw [h]; rfl
theorem r_not {b : Bool} (h : et env = some (.ok b)) : eNot et env = some (.ok (!b)) := by unfold eNot; rw [h]; rfl
theorem r_notV {b : Bool} (h : e env = some (.ok (.bl b))) : eNotV e env = some (.ok (.bl (!b))) := by unfold eNotV; rw [h]; rfl
theorem r_and {b c : Bool} (h : et env = some (.ok b)) (h2 : b = true → eu env = some (.ok c)) : eAnd et eu env = some (.ok (b && c)) := by
  unfold eAnd; rw [h, b_ok]
  cases b with
  | true => rw [if_pos rfl, h2 rfl]; rfl
  | false => rfl
theorem r_or {b c : Bool} (h : et env = some (.ok b)) (h2 : b = false → eu env = some (.ok c)) : eOr et eu env = some (.ok (b || c)) := by
  unfold eOr; rw [h, b_ok]
  cases b with
  | false => rw [if_neg Bool.false_ne_true, h2 rfl]; rfl
  | true => rfl
theorem r_andV {f : Ev D} {b c : Bool} (h : e env = some (.ok (.bl b))) (h2 : b = true → f env = some (.ok (.bl c))) : eAndV e f env = some (.ok (.bl (b && c))) := by
  unfold eAndV; rw [h, b_ok]
  cases b with
  | true => show f env = _; rw [h2 rfl]; rfl
  | false => rfl
theorem r_orV {f : Ev D} {b c : Bool} (h : e env = some (.ok (.bl b))) (h2 : b = false → f env = some (.ok (.bl c))) : eOrV e f env = some (.ok (.bl (b || c))) := by
  unfold eOrV; rw [h, b_ok]
  cases b with
  | false => show f env = _; rw [h2 rfl]; rfl
  | true => rfl
theorem r_chain {f g : DG → D → D → Option D} {ea eb ec : Ev D} {x y w : D} {b c : Bool} (ha : ea env = some (.ok x)) (hb : eb env = some (.ok y)) (hf : f G0 x y = some (.bl b)) (hc : ec env = some (.ok w)) (hg : g G0 y w = some (.bl c)) : eChain f g ea eb ec env = some (.ok (.bl (b && c))) := by
  unfold eChain; rw [ha, b_ok, hb, b_ok, hf]
  cases b with
  | true => simp only [okE_some, b_ok, blE, blOf, if_pos, hc, hg, Bool.true_and]
  | false => rfl
theorem r_if {b : Bool} {ea eb : Ev D} {r : Option (Except DX D)} (h : et env = some (.ok b)) (h1 : b = true → ea env = r) (h2 : b = false → eb env = r) : eIf et ea eb env = r := by
  unfold eIf; rw [h, b_ok]
  cases b with
  | true => exact h1 rfl
  | false => exact h2 rfl
theorem r_tup (h : er env = some (.ok xs)) (hl : xs.length ≤ 16000000) : eTup er env = some (.ok (.tup xs)) := by unfold eTup; rw [h, b_ok, if_pos hl]
theorem r_lst (h : er env = some (.ok xs)) (hl : xs.length ≤ 16000000) : eLst er env = some (.ok (.lst xs)) := by unfold eLst; rw [h, b_ok, if_pos hl]
theorem r_iter {d : D} (h : e env = some (.ok d)) (hi : iterD G0 d = some xs) : eIter e env = some (.ok xs) := by unfold eIter; rw [h, b_ok, hi]; rfl
theorem r_slice {l h : Ev (Option Int)} {d z : D} {lo hi : Option Int} (hd : e env = some (.ok d)) (hl : l env = some (.ok lo)) (hh : h env = some (.ok hi)) (hs : pySlice G0 d lo hi = some z) : eSlice e l h env = some (.ok z) := by unfold eSlice; rw [hd, b_ok, hl, b_ok, hh, b_ok, hs]; rfl
theorem r_part {i : Int} (h : e env = some (.ok (.int i))) : ePart e env = some (.ok (some i)) := by unfold ePart; rw [h]; rfl
/-! statements -/
variable {s t : EvX} {r : Option SR}
theorem r_seq {env' : DSt} (h : s env = some (.nx env')) (h2 : t env' = r) : xSeq s t env = r := by unfold xSeq; rw [h]; exact h2
theorem r_seqR {d : D} (h : s env = some (.rt d)) : xSeq s t env = some (.rt d) := by unfold xSeq; rw [h]
theorem r_seqX {ex : DX} {env' : DSt} (h : s env = some (.ex ex env')) : xSeq s t env = some (.ex ex env') := by unfold xSeq; rw [h]
theorem r_ret (h : e env = some (.ok x)) : xRet e env = some (.rt x) := by unfold xRet; rw [h]; rfl
theorem r_set {i : Nat} (h : e env = some (.ok x)) : xSet i e env = some (.nx (env.set i (some x))) := by unfold xSet; rw [h]; rfl
theorem r_drop (h : e env = some (.ok x)) : xDrop e env = some (.nx env) := by unfold xDrop; rw [h]; rfl
theorem r_dropX {y : DX} (h : e env = some (.error y)) : xDrop e env = some (.ex y env) := by unfold xDrop; rw [h]; rfl
theorem r_xif {b : Bool} (h : et env = some (.ok b)) (h1 : b = true → s env = r) (h2 : b = false → t env = r) : xIf et s t env = r := by
  unfold xIf; rw [h]
  cases b with
  | true => exact h1 rfl
  | false => exact h2 rfl
theorem r_xifT {b : Bool} (h : et env = some (.ok b)) (hb : b = true) (h1 : s env = r) : xIf et s t env = r := r_xif h (fun _ => h1) fun z => nomatch hb.symm.trans z
theorem r_xifF {b : Bool} (h : et env = some (.ok b)) (hb : b = false) (h1 : t env = r) : xIf et s t env = r := r_xif h (fun z => nomatch hb.symm.trans z) fun _ => h1
theorem r_fn {N : List Str} {n : Nat} {ds : List D} {d : D} (h : s (dstart N ds) = some (.rt d)) (hl : ds.length = n) : fnE N n s ds = some (.ok d) := by unfold fnE; rw [if_pos hl, h]
theorem r_fnN {N : List Str} {n : Nat} {ds : List D} {env' : DSt} (h : s (dstart N ds) = some (.nx env')) (hl : ds.length = n) : fnE N n s ds = some (.ok .non) := by unfold fnE; rw [if_pos hl, h]
theorem r_fnX {N : List Str} {n : Nat} {ds : List D} {y : DX} {env' : DSt} (h : s (dstart N ds) = some (.ex y env')) (hl : ds.length = n) : fnE N n s ds = some (.error y) := by unfold fnE; rw [if_pos hl, h]
end
theorem ok_bl {o : Option (Except DX D)} {a b : Bool} (h : o = some (.ok (.bl a))) (e : a = b) : o = some (.ok (.bl b)) := e ▸ h
theorem ok_d {o : Option (Except DX D)} {a b : D} (h : o = some (.ok a)) (e : a = b) : o = some (.ok b) := e ▸ h
theorem lcL_map {tg : Tg} {ee : Ev D} {env : DSt} {g : D → D} : ∀ {ds : List D}, (∀ d ∈ ds, ∃ env', eTg tg d env = some env' ∧ ee env' = some (.ok (g d))) → eLcL tg (eC true) ee env ds = some (ds.map g)
  | [], _ => rfl
  | d :: ds, h => by
    obtain ⟨env', h1, h2⟩ := h d List.mem_cons_self
    have ih := lcL_map (ds := ds) fun x hx => h x (List.mem_cons_of_mem _ hx)
    unfold eLcL
    rw [h1]
    simp only [eC, h2, ih, List.map_cons]
theorem lc_map {ei : Ev (List D)} {tg : Tg} {ee : Ev D} {env : DSt} {vs : List Nat} {g : D → D} {ds : List D} (hi : ei env = some (.ok ds)) (hl : ds.length ≤ 16000000) (h : ∀ d ∈ ds, ∃ env', eTg tg d (wipeD env vs) = some env' ∧ ee env' = some (.ok (g d))) : eLc ei tg (eC true) ee vs env = some (.ok (.lst (ds.map g))) := by
  unfold eLc
  rw [hi]
  simp only [bindE, if_pos hl, lcL_map h, Option.map_some, okE]
theorem allB_map {α : Type} (f : α → Bool) : ∀ xs : List α, allB (xs.map fun x => D.bl (f x)) = some (xs.map f)
  | [] => rfl
  | x :: xs => by
    simp only [List.map_cons, allB, allB_map f xs, Option.map_some]
theorem pyAll_map {α : Type} (f : α → Bool) (xs : List α) : pyAll G0 [.lst (xs.map fun x => D.bl (f x))] = some (.bl (xs.all f)) := by
  simp only [pyAll, asL, Option.bind_some, allB_map, Option.map_some]
  simp [List.all_map, Function.comp_def]
/-! ### programs.py -/
def inR (lo hi : Int) : D → Bool
  | .int i => decide (lo ≤ i) && decide (i ≤ hi)
  | _ => false
theorem is_whole_eq {d : D} (h : (tyD G0 d).isSome = true) (lo hi : Int) : e_is_whole [d, .int lo, .int hi] = some (.ok (.bl (inR lo hi d))) := by
  cases d with
  | int i => exact ok_bl (r_fn (r_ret (r_andV (r_un (r_var rfl) rfl) fun _ => r_andV (r_notV (r_un (r_var rfl) rfl)) fun _ => r_chain (r_var rfl) (r_var rfl) rfl (r_var rfl) rfl)) rfl) rfl
  | ref a => cases h
  | scr ns => cases h
  | _ => kernel_rfl
theorem is_number_eq {d : D} (h : (tyD G0 d).isSome = true) : e_is_number [d] = some (.ok (.bl (inR (-999) 999 d))) :=
  r_fn (r_ret (r_call (r_cons (r_var rfl) (r_cons (r_un r_c rfl) (r_cons r_c r_nil))) (is_whole_eq h _ _))) rfl
def small : List Char := "abcdefghijklmnopqrstuvwxyz".toList
def wordS (s : String) : Bool := (decide (1 ≤ s.length) && decide (s.length ≤ 8)) && s.toList.all fun c => small.contains c
def isWord : D → Bool
  | .str s => wordS s
  | _ => false
theorem signOf_one (c : Char) : signOf (String.singleton c) = some c := by simp [signOf]
theorem in_signs (c : Char) (t : String) : pyIn G0 (.str (String.singleton c)) (.str t) = some (.bl (t.toList.contains c)) := by
  simp only [pyIn, pyInB, signOf_one, Option.map_some]
theorem is_word_eq {d : D} (h : (tyD G0 d).isSome = true) (hl : ∀ s, d = .str s → s.length ≤ 16000000) : e_is_word [d] = some (.ok (.bl (isWord d))) := by
  cases d with
  | str s =>
    have hs := hl s rfl
    have h3 : (1 : Int) ≤ s.length ↔ 1 ≤ s.length := by omega
    have h4 : (s.length : Int) ≤ 8 ↔ s.length ≤ 8 := by omega
    have hlen : pyLen G0 [.str s] = some (.int s.length) := if_pos hs
    refine ok_bl (r_fn (r_ret (r_andV (r_un (r_var rfl) rfl) fun _ => r_andV (r_chain r_c (r_b (r_cons (r_var rfl) r_nil) hlen) rfl r_c rfl) fun hb => r_b (r_cons (lc_map (g := fun d => match d with | .str x => .bl (small.contains ((signOf x).getD 'a')) | _ => .non) (r_iter (r_var rfl) rfl) ?_ fun d hd => ?_) r_nil) (z := .bl (s.toList.all fun c => small.contains c)) ?_)) rfl) ?_
    · have e : (signsD s).length = s.length := by simp [signsD, String.length]
      rw [e]; exact hs
    · simp only [signsD, List.mem_map] at hd
      obtain ⟨c, _, rfl⟩ := hd
      refine ⟨_, rfl, r_op (r_var rfl) r_c ?_⟩
      rw [in_signs]
      show _ = some (D.bl (small.contains ((signOf (String.singleton c)).getD 'a')))
      rw [signOf_one]; rfl
    · rw [show (signsD s).map (fun d => match d with | .str x => D.bl (small.contains ((signOf x).getD 'a')) | _ => .non) = s.toList.map fun c => D.bl (small.contains c) from by
        simp only [signsD, List.map_map]
        apply List.map_congr_left
        intro c _
        simp [signOf_one]]
      exact pyAll_map _ _
    · show (true && ((decide _ && decide _) && _)) = wordS s
      rw [decide_eq_decide.mpr h3, decide_eq_decide.mpr h4]
      rfl
  | ref a => cases h
  | scr ns => cases h
  | _ => kernel_rfl
/-- data without tracked objects -/
def okD : Nat → D → Bool
  | _, .non => true
  | _, .bl _ => true
  | _, .int _ => true
  | _, .str s => decide (s.length ≤ 16000000)
  | n + 1, .tup xs => xs.all (okD n)
  | n + 1, .lst xs => xs.all (okD n)
  | _, _ => false
theorem okD_ty {n : Nat} {d : D} (h : okD n d = true) : (tyD G0 d).isSome = true := by
  cases d with
  | ref a => cases n <;> cases h
  | scr ns => cases n <;> cases h
  | _ => rfl
theorem okD_str {n : Nat} {s : String} (h : okD n (.str s) = true) : s.length ≤ 16000000 := by
  cases n <;> exact of_decide_eq_true h
theorem okD_len {n : Nat} {d : D} (h : okD n d = true) : ∀ s, d = .str s → s.length ≤ 16000000 := fun s e => by rw [e] at h; exact okD_str h
theorem okD_tup {n : Nat} {xs : List D} (h : okD (n + 1) (.tup xs) = true) : ∀ x ∈ xs, okD n x = true := List.all_eq_true.mp h
theorem okD_lst {n : Nat} {xs : List D} (h : okD (n + 1) (.lst xs) = true) : ∀ x ∈ xs, okD n x = true := List.all_eq_true.mp h
theorem mapO_some {f : D → Option PyData} : ∀ {xs : List D}, (∀ x ∈ xs, ∃ y, f x = some y) → ∃ ys, mapO f xs = some ys ∧ ys.length = xs.length
  | [], _ => ⟨[], rfl, rfl⟩
  | x :: xs, h => by
    obtain ⟨y, hy⟩ := h x List.mem_cons_self
    obtain ⟨ys, hys, hl⟩ := mapO_some fun z hz => h z (List.mem_cons_of_mem _ hz)
    refine ⟨y :: ys, ?_, by simp [hl]⟩
    unfold mapO
    rw [hy, hys]
theorem okD_py : ∀ (n : Nat) (d : D), okD n d = true → ∃ y, toPy G0 n d = some y
  | _, .non, _ => ⟨_, by unfold toPy; rfl⟩
  | _, .bl _, _ => ⟨_, by unfold toPy; rfl⟩
  | _, .int _, _ => ⟨_, by unfold toPy; rfl⟩
  | _, .str _, _ => ⟨_, by unfold toPy; rfl⟩
  | 0, .tup _, h => by cases h
  | 0, .lst _, h => by cases h
  | n + 1, .tup xs, h => by
    obtain ⟨ys, e, _⟩ := mapO_some fun x hx => okD_py n x (okD_tup h x hx)
    exact ⟨_, by unfold toPy; rw [e]; rfl⟩
  | n + 1, .lst xs, h => by
    obtain ⟨ys, e, _⟩ := mapO_some fun x hx => okD_py n x (okD_lst h x hx)
    exact ⟨_, by unfold toPy; rw [e]; rfl⟩
  | 0, .dct _, h => by cases h
  | _ + 1, .dct _, h => by cases h
  | 0, .ref _, h => by cases h
  | _ + 1, .ref _, h => by cases h
  | 0, .scr _, h => by cases h
  | _ + 1, .scr _, h => by cases h
theorem eq_nil {xs : List D} (h : okD 40 (.tup xs) = true) : pyEq G0 (.tup xs) (.tup []) = some (.bl xs.isEmpty) := by
  obtain ⟨ys, e, hl⟩ := mapO_some fun x hx => okD_py 39 x (okD_tup h x hx)
  have e1 : toPy G0 40 (.tup xs) = some (.tuple ys) := by unfold toPy; rw [e]; rfl
  have e2 : toPy G0 40 (.tup []) = some (.tuple []) := rfl
  unfold pyEq pyEqB
  simp only [e1, e2, Option.map_some]
  cases xs with
  | nil => cases ys with
    | nil => rfl
    | cons y ys => simp at hl
  | cons x xs => cases ys with
    | nil => simp at hl
    | cons y ys => simp [PyData.eqv, PyData.eqvAll]
theorem eq_str (s t : String) : pyEq G0 (.str s) (.str t) = some (.bl (decide (s = t))) := rfl
theorem one_eq (c d : Char) : decide (String.singleton c = String.singleton d) = decide (c = d) := by
  apply decide_eq_decide.mpr
  constructor
  · intro h
    have := congrArg String.toList h
    simpa using this
  · rintro rfl; rfl
def isPart (c : Char) (d : D) : Bool := if c = 'r' then inR 0 3 d else if c = 'n' then inR (-999) 999 d else if c = 'g' then inR 0 99 d else isWord d
theorem is_part_eq {n : Nat} {d : D} (h : okD n d = true) (c : Char) : e_is_part [.str (String.singleton c), d] = some (.ok (.bl (isPart c d))) := by
  have ty := okD_ty h
  unfold isPart
  by_cases h1 : c = 'r'
  · rw [if_pos h1, h1]
    exact r_fn (r_seqR (r_xif (r_test (r_op (r_var rfl) r_c (eq_str _ _))) (fun _ => r_ret (r_call (r_cons (r_var rfl) (r_cons r_c (r_cons r_c r_nil))) (is_whole_eq ty _ _))) fun z => absurd z (by decide))) rfl
  · rw [if_neg h1]
    have d1 : decide (String.singleton c = "r") = false := (one_eq c 'r').trans (decide_eq_false h1)
    by_cases h2 : c = 'n'
    · rw [if_pos h2, h2]
      exact r_fn (r_seq (r_xif (r_test (r_op (r_var rfl) r_c (eq_str _ _))) (fun z => absurd z (by decide)) fun _ => rfl) (r_seqR (r_xif (r_test (r_op (r_var rfl) r_c (eq_str _ _))) (fun _ => r_ret (r_call (r_cons (r_var rfl) r_nil) (is_number_eq ty))) fun z => absurd z (by decide)))) rfl
    · rw [if_neg h2]
      have d2 : decide (String.singleton c = "n") = false := (one_eq c 'n').trans (decide_eq_false h2)
      refine r_fn (r_seq (r_xif (r_test (r_op (r_var rfl) r_c (eq_str _ _))) (fun z => absurd z (by rw [d1]; exact Bool.false_ne_true)) fun _ => rfl) (r_seq (r_xif (r_test (r_op (r_var rfl) r_c (eq_str _ _))) (fun z => absurd z (by rw [d2]; exact Bool.false_ne_true)) fun _ => rfl) (r_ret (r_if (r_test (r_op (r_var rfl) r_c (eq_str _ _))) (fun z => ?_) fun z => ?_)))) rfl
      · rw [show decide (String.singleton c = "g") = decide (c = 'g') from one_eq c 'g'] at z
        rw [if_pos (of_decide_eq_true z)]
        exact r_call (r_cons (r_var rfl) (r_cons r_c (r_cons r_c r_nil))) (is_whole_eq ty _ _)
      · rw [show decide (String.singleton c = "g") = decide (c = 'g') from one_eq c 'g'] at z
        rw [if_neg (of_decide_eq_false z)]
        exact r_call (r_cons (r_var rfl) r_nil) (is_word_eq ty (okD_len h))
def partsOk (so : String) (ps : List D) : Bool := decide (ps.length = so.length) && (so.toList.zip ps).all fun p => isPart p.1 p.2
def isInstr : D → Bool
  | .tup (.str w :: ps) => match lst_FORMS.lookup w with
    | some so => partsOk so ps
    | none => false
  | _ => false
theorem tab_look : ∀ (l : List (String × String)) (w : String), (tabS l).lookup w = (l.lookup w).map .str
  | [], w => rfl
  | (k, v) :: l, w => by
    have ih := tab_look l w
    simp only [tabS, List.map_cons, List.lookup_cons] at ih ⊢
    cases w == k with
    | true => rfl
    | false => exact ih
theorem zip_signs : ∀ (cs : List Char) (ps : List D), zipD (cs.map fun c => .str (String.singleton c)) ps = (cs.zip ps).map fun p => .tup [.str (String.singleton p.1), p.2]
  | [], ps => by simp [zipD]
  | c :: cs, [] => by simp [zipD]
  | c :: cs, p :: ps => by simp [zipD, zip_signs cs ps]
theorem r_zip {env : DSt} {er : Ev (List D)} {a b : D} {as bs : List D} (h : er env = some (.ok [a, b])) (ha : iterD G0 a = some as) (hb : iterD G0 b = some bs) : eZip er env = some (.ok (zipD as bs)) := by
  unfold eZip; rw [h, b_ok]; simp only [ha, hb]
theorem forms_len {w so : String} (h : lst_FORMS.lookup w = some so) : so.length ≤ 3 := by
  have : ∀ p ∈ lst_FORMS, p.2.length ≤ 3 := by decide
  have hm : (w, so) ∈ lst_FORMS := by
    clear this
    generalize lst_FORMS = l at h
    induction l with
    | nil => cases h
    | cons p l ih =>
      obtain ⟨k, v⟩ := p
      rw [List.lookup_cons] at h
      by_cases e : w = k
      · rw [e] at h ⊢
        simp at h
        rw [h]
        exact List.mem_cons_self
      · rw [show (w == k) = false by simpa using e] at h
        exact List.mem_cons_of_mem _ (ih h)
  exact this _ hm
theorem item0 (x : D) (xs : List D) : pyItem G0 (.tup (x :: xs)) (.int 0) = some x := by simp [pyItem, asQ, L2.atI, L2.ixN]
theorem cut1 (x : D) (xs : List D) : pySlice G0 (.tup (x :: xs)) (some 1) none = some (.tup xs) := by
  show some (D.tup _) = _
  simp [cutD, HT.sIx]
theorem is_instruction_eq {d : D} (h : okD 40 d = true) : e_is_instruction [d] = some (.ok (.bl (isInstr d))) := by
  cases d with
  | tup xs =>
    cases xs with
    | nil => kernel_rfl
    | cons x ps =>
      have hx := okD_tup h x List.mem_cons_self
      have hps : ∀ p ∈ ps, okD 39 p = true := fun p hp => okD_tup h p (List.mem_cons_of_mem _ hp)
      cases x with
      | str w =>
        have t1 : tab_FORMS.lookup w = (lst_FORMS.lookup w).map .str := tab_look _ _
        cases hw : lst_FORMS.lookup w with
        | none =>
          rw [hw] at t1
          have k : kNotIn tab_FORMS G0 (.str w) = some (.bl true) := by simp only [kNotIn, t1]; rfl
          refine ok_bl (r_fn (r_seqR (r_xifT (r_or (r_not (r_test (r_un (r_var rfl) rfl))) fun _ => r_or (r_test (r_op (r_var rfl) (r_tup r_nil (by decide)) (eq_nil h))) fun _ => r_or (r_not (r_test (r_un (r_op (r_var rfl) r_c (item0 _ _)) rfl))) fun _ => r_test (r_un (r_op (r_var rfl) r_c (item0 _ _)) k)) rfl (r_ret r_c))) rfl) ?_
          simp only [isInstr, hw]
        | some so =>
          rw [hw] at t1
          have hso := forms_len hw
          have k : kNotIn tab_FORMS G0 (.str w) = some (.bl false) := by simp only [kNotIn, t1]; rfl
          have k2 : kItem tab_FORMS G0 (.str w) = some (.str so) := by simp only [kItem, t1]; rfl
          have k3 : DL.pyLen G0 [.str so] = some (.int so.length) := if_pos (by omega)
          have k4 : DL.pyLen G0 [.tup (.str w :: ps)] = some (.int (ps.length + 1 : Nat)) := rfl
          have k5 : pyEq G0 (.int (ps.length + 1 : Nat)) (.int (so.length + 1)) = some (.bl (decide (ps.length = so.length))) := by
            show some (D.bl (decide _)) = _
            rw [decide_eq_decide.mpr (show ((ps.length + 1 : Nat) : Int) = so.length + 1 ↔ ps.length = so.length by omega)]
          refine ok_bl (r_fn (r_seq (r_xifF (r_or (r_not (r_test (r_un (r_var rfl) rfl))) fun _ => r_or (r_test (r_op (r_var rfl) (r_tup r_nil (by decide)) (eq_nil h))) fun _ => r_or (r_not (r_test (r_un (r_op (r_var rfl) r_c (item0 _ _)) rfl))) fun _ => r_test (r_un (r_op (r_var rfl) r_c (item0 _ _)) k)) rfl rfl)
            (r_seq (r_set (r_un (r_op (r_var rfl) r_c (item0 _ _)) k2)) (r_ret (r_andV (r_op (r_b (r_cons (r_var rfl) r_nil) k4) (r_op (r_b (r_cons (r_var rfl) r_nil) k3) r_c rfl) k5) fun _ => r_b (z := .bl ((so.toList.zip ps).all fun p => isPart p.1 p.2)) (r_cons (lc_map (g := fun d => match d with | .tup [.str x, d] => .bl (isPart ((signOf x).getD 'a') d) | _ => .non) (r_zip (r_cons (r_var rfl) (r_cons (r_slice (r_var rfl) (r_part r_c) r_c (cut1 _ _)) r_nil)) rfl rfl) ?_ fun d hd => ?_) r_nil) ?_)))) rfl) ?_
          · have e : (signsD so).length = so.length := by simp [signsD, String.length]
            rw [zipD_len, e]
            omega
          · rw [show signsD so = so.toList.map (fun c => D.str (String.singleton c)) from rfl, zip_signs, List.mem_map] at hd
            obtain ⟨⟨c, p⟩, hp, rfl⟩ := hd
            refine ⟨_, rfl, r_call (r_cons (r_var rfl) (r_cons (r_var rfl) r_nil)) ?_⟩
            show e_is_part _ = some (Except.ok (D.bl (isPart ((signOf (String.singleton c)).getD 'a') p)))
            rw [signOf_one]
            exact is_part_eq (hps p (List.of_mem_zip hp).2) c
          · rw [show signsD so = so.toList.map (fun c => D.str (String.singleton c)) from rfl, zip_signs, List.map_map, ← pyAll_map]
            congr 3
            apply List.map_congr_left
            rintro ⟨c, p⟩ _
            show D.bl (isPart ((signOf (String.singleton c)).getD 'a') p) = _
            rw [signOf_one]
            rfl
          · simp only [isInstr, hw]
            rfl
      | ref a => cases hx
      | scr a => cases hx
      | _ =>
        exact ok_bl (r_fn (r_seqR (r_xifT (r_or (r_not (r_test (r_un (r_var rfl) rfl))) fun _ => r_or (r_test (r_op (r_var rfl) (r_tup r_nil (by decide)) (eq_nil h))) fun _ => r_or (c := false) (r_not (r_test (r_un (r_op (r_var rfl) r_c (item0 _ _)) rfl))) fun z => nomatch (show true = false from z)) rfl (r_ret r_c))) rfl) rfl
  | ref a => cases h
  | scr a => cases h
  | _ => kernel_rfl
def isProg : D → Bool
  | .tup xs => (decide (1 ≤ xs.length) && decide (xs.length ≤ 40)) && xs.all isInstr
  | _ => false
theorem is_program_eq {d : D} (h : okD 41 d = true) : e_is_program [d] = some (.ok (.bl (isProg d))) := by
  cases d with
  | tup xs =>
    have k : DL.pyLen G0 [.tup xs] = some (.int xs.length) := rfl
    have h3 : (1 : Int) ≤ xs.length ↔ 1 ≤ xs.length := by omega
    have h4 : (xs.length : Int) ≤ 40 ↔ xs.length ≤ 40 := by omega
    refine ok_bl (r_fn (r_ret (r_andV (r_un (r_var rfl) rfl) fun _ => r_andV (r_chain r_c (r_b (r_cons (r_var rfl) r_nil) k) rfl r_c rfl) fun hb => r_b (r_cons (lc_map (g := fun d => .bl (isInstr d)) (r_iter (r_var rfl) rfl) ?_ fun d hd => ⟨_, rfl, r_call (r_cons (r_var rfl) r_nil) (is_instruction_eq (okD_tup h d hd))⟩) r_nil) (pyAll_map isInstr xs))) rfl) ?_
    · rw [Bool.and_eq_true, decide_eq_true_eq, decide_eq_true_eq] at hb
      omega
    · show (true && ((decide _ && decide _) && _)) = _
      rw [decide_eq_decide.mpr h3, decide_eq_decide.mpr h4]
      rfl
  | ref a => cases h
  | scr a => cases h
  | _ => kernel_rfl
theorem need_program_eq {d : D} (h : okD 41 d = true) : e_need_program [d] = some (if isProg d = true then .ok .non else .error ("BadProgram", none)) := by
  by_cases hp : isProg d = true
  · rw [if_pos hp]
    exact r_fnN (r_xifF (r_not (r_test (r_call (r_cons (r_var rfl) r_nil) (is_program_eq h)))) (by rw [hp]; rfl) rfl) rfl
  · rw [if_neg hp]
    exact r_fnX (r_xifT (r_not (r_test (r_call (r_cons (r_var rfl) r_nil) (is_program_eq h)))) (by rw [Bool.eq_false_iff.mpr hp]; rfl) rfl) rfl
end PL

namespace PL
open DL PySem
/-! ### rights.py -/
def ltD : D → D → Bool
  | .str a, .str b => strLt a b
  | _, _ => false
def ascD (xs : List D) : Bool := (xs.zip xs.tail).all fun p => ltD p.1 p.2
def isRow : D → Bool
  | .tup xs => decide (xs.length ≤ 6) && xs.all isWord && ascD xs
  | _ => false
theorem zip_eq : ∀ xs ys : List D, zipD xs ys = (xs.zip ys).map fun p => .tup [p.1, p.2]
  | [], ys => by simp [zipD]
  | c :: cs, [] => by simp [zipD]
  | c :: cs, p :: ps => by simp [zipD, zip_eq cs ps]
theorem cutT (xs : List D) : pySlice G0 (.tup xs) (some 1) none = some (.tup xs.tail) := by
  cases xs with
  | nil => rfl
  | cons x xs => exact cut1 x xs
theorem isWord_str {d : D} (h : isWord d = true) : ∃ s, d = .str s := by cases d <;> first | exact ⟨_, rfl⟩ | cases h
theorem is_row_eq {n : Nat} {d : D} (h : okD (n + 1) d = true) : e_is_row [d] = some (.ok (.bl (isRow d))) := by
  cases d with
  | tup xs =>
    have k : DL.pyLen G0 [.tup xs] = some (.int xs.length) := rfl
    have kg : DL.pyGt G0 (.int xs.length) (.int 6) = some (.bl (decide (6 < xs.length))) := by
      show some (D.bl (decide _)) = _
      rw [decide_eq_decide.mpr (show (6 : Int) < xs.length ↔ 6 < xs.length by omega)]
    by_cases hl : 6 < xs.length
    · refine ok_bl (r_fn (r_seqR (r_xifT (r_or (r_not (r_test (r_un (r_var rfl) rfl))) fun _ => r_or (c := false) (r_test (r_op (r_b (r_cons (r_var rfl) r_nil) k) r_c kg)) fun z => absurd hl (of_decide_eq_false z)) (by simp [hl]) (r_ret r_c))) rfl) ?_
      simp only [isRow, show decide (xs.length ≤ 6) = false by simp; omega]
      rfl
    · have hw : eLc (eIter (eVar 0)) (.n 1) (eC true) (eCall e_is_word (eCons (eVar 1) (eC []))) [1] (dstart ["thing", "one", "other"] [.tup xs]) = _ := lc_map (g := fun d => .bl (isWord d)) (r_iter (r_var rfl) rfl) (by omega) fun d hd => ⟨_, rfl, r_call (r_cons (r_var rfl) r_nil) (is_word_eq (okD_ty (okD_tup h d hd)) (okD_len (okD_tup h d hd)))⟩
      cases ha : xs.all isWord with
      | false =>
        refine ok_bl (r_fn (r_seqR (r_xifT (r_or (r_not (r_test (r_un (r_var rfl) rfl))) fun _ => r_or (r_test (r_op (r_b (r_cons (r_var rfl) r_nil) k) r_c kg)) fun z => r_not (r_test (r_b (r_cons hw r_nil) (pyAll_map isWord xs)))) (by rw [ha]; simp) (r_ret r_c))) rfl) ?_
        simp only [isRow, ha, Bool.and_false, Bool.false_and]
      | true =>
        have hz : eLc (eZip (eCons (eVar 0) (eCons (eSlice (eVar 0) (ePart (eC (.int 1))) (eC none)) (eC [])))) (.t [1, 2]) (eC true) (eOp pyLt (eVar 1) (eVar 2)) [1, 2] (dstart ["thing", "one", "other"] [.tup xs]) = _ :=
          lc_map (g := fun d => match d with | .tup [a, b] => .bl (ltD a b) | _ => .non) (r_zip (r_cons (r_var rfl) (r_cons (r_slice (r_var rfl) (r_part r_c) r_c (cutT _)) r_nil)) rfl rfl) (by rw [zipD_len]; omega) fun d hd => by
            rw [zip_eq, List.mem_map] at hd
            obtain ⟨⟨a, b⟩, hp, rfl⟩ := hd
            obtain ⟨s, rfl⟩ := isWord_str (List.all_eq_true.mp ha a (List.of_mem_zip hp).1)
            obtain ⟨t, rfl⟩ := isWord_str (List.all_eq_true.mp ha b (List.mem_of_mem_tail (List.of_mem_zip hp).2))
            exact ⟨_, rfl, r_op (r_var rfl) (r_var rfl) rfl⟩
        have hz2 : pyAll G0 [.lst ((zipD xs xs.tail).map fun d => match d with | .tup [a, b] => .bl (ltD a b) | _ => .non)] = some (.bl (ascD xs)) := by
          rw [zip_eq, List.map_map]
          exact pyAll_map (fun p : D × D => ltD p.1 p.2) _
        refine ok_bl (r_fn (r_seq (r_xifF (r_or (r_not (r_test (r_un (r_var rfl) rfl))) fun _ => r_or (r_test (r_op (r_b (r_cons (r_var rfl) r_nil) k) r_c kg)) fun z => r_not (r_test (r_b (r_cons hw r_nil) (pyAll_map isWord xs)))) (by rw [ha, decide_eq_false hl]; rfl) rfl) (r_ret (r_b (r_cons hz r_nil) hz2))) rfl) ?_
        simp only [isRow, ha, decide_eq_true (show xs.length ≤ 6 by omega), Bool.true_and]
  | ref a => cases h
  | scr a => cases h
  | _ => kernel_rfl
def isRights : D → Bool
  | .tup (r :: rows) => decide (rows.length = 4) && inR 0 60 r && rows.all isRow
  | _ => false
theorem is_rights_eq {n : Nat} {d : D} (h : okD (n + 2) d = true) : e_is_rights [d] = some (.ok (.bl (isRights d))) := by
  cases d with
  | tup xs =>
    cases xs with
    | nil => kernel_rfl
    | cons r rows =>
      have k : DL.pyLen G0 [.tup (r :: rows)] = some (.int (rows.length + 1 : Nat)) := rfl
      have kn : pyNe G0 (.int (rows.length + 1 : Nat)) (.int 5) = some (.bl (!decide (rows.length = 4))) := by
        show some (D.bl (!decide _)) = _
        rw [decide_eq_decide.mpr (show ((rows.length + 1 : Nat) : Int) = 5 ↔ rows.length = 4 by omega)]
      by_cases hl : rows.length = 4
      · have hr := is_whole_eq (okD_ty (okD_tup h r List.mem_cons_self)) 0 60
        cases hi : inR 0 60 r with
        | false =>
          rw [hi] at hr
          refine ok_bl (r_fn (r_seqR (r_xifT (r_or (r_not (r_test (r_un (r_var rfl) rfl))) fun _ => r_or (r_test (r_op (r_b (r_cons (r_var rfl) r_nil) k) r_c kn)) fun z => r_not (r_test (r_call (r_cons (r_op (r_var rfl) r_c (item0 _ _)) (r_cons r_c (r_cons r_c r_nil))) hr))) (by simp) (r_ret r_c))) rfl) ?_
          simp only [isRights, hi, Bool.and_false, Bool.false_and]
        | true =>
          rw [hi] at hr
          refine ok_bl (r_fn (r_seq (r_xifF (r_or (r_not (r_test (r_un (r_var rfl) rfl))) fun _ => r_or (r_test (r_op (r_b (r_cons (r_var rfl) r_nil) k) r_c kn)) fun z => r_not (r_test (r_call (r_cons (r_op (r_var rfl) r_c (item0 _ _)) (r_cons r_c (r_cons r_c r_nil))) hr))) (by rw [decide_eq_true hl]; rfl) rfl)
            (r_ret (r_b (r_cons (lc_map (g := fun d => .bl (isRow d)) (r_iter (r_slice (r_var rfl) (r_part r_c) r_c (cut1 _ _)) rfl) (by omega) fun d hd => ⟨_, rfl, r_call (r_cons (r_var rfl) r_nil) (is_row_eq (okD_tup h d (List.mem_cons_of_mem _ hd)))⟩) r_nil) (pyAll_map isRow rows)))) rfl) ?_
          simp only [isRights, hi, decide_eq_true hl, Bool.true_and]
      · refine ok_bl (r_fn (r_seqR (r_xifT (r_or (r_not (r_test (r_un (r_var rfl) rfl))) fun _ => r_or (c := false) (r_test (r_op (r_b (r_cons (r_var rfl) r_nil) k) r_c kn)) fun z => by rw [decide_eq_false hl] at z; cases z) (by rw [decide_eq_false hl]; rfl) (r_ret r_c))) rfl) ?_
        simp only [isRights, decide_eq_false hl, Bool.false_and]
  | ref a => cases h
  | scr a => cases h
  | _ => kernel_rfl
theorem need_rights_eq {n : Nat} {d : D} (h : okD (n + 2) d = true) : e_need_rights [d] = some (if isRights d = true then .ok .non else .error ("BadRights", none)) := by
  by_cases hp : isRights d = true
  · rw [if_pos hp]
    exact r_fnN (r_xifF (r_not (r_test (r_call (r_cons (r_var rfl) r_nil) (is_rights_eq h)))) (by rw [hp]; rfl) rfl) rfl
  · rw [if_neg hp]
    exact r_fnX (r_xifT (r_not (r_test (r_call (r_cons (r_var rfl) r_nil) (is_rights_eq h)))) (by rw [Bool.eq_false_iff.mpr hp]; rfl) rfl) rfl
end PL

namespace PL
open DL PySem
/-! ### texts.py: numbers -/
def digits : List Char := "0123456789".toList
def bareC (cs : List Char) : List Char := if cs.take 1 = ['-'] then cs.drop 1 else cs
def digL (cs : List Char) : Bool := (decide (1 ≤ cs.length) && decide (cs.length ≤ 3)) && cs.all fun c => digits.contains c
def valC (cs : List Char) : Nat := (cs.map Char.toNat).foldl (fun acc c => acc * 10 + (c - 48)) 0
def valS (cs : List Char) : Int := if cs.take 1 = ['-'] then -(valC (cs.drop 1) : Int) else valC cs
def numIn (s : String) : D := if digL (bareC s.toList) = true ∧ toString (valS s.toList) = s then .int (valS s.toList) else .non
theorem cutC_hd (l : List Char) : cutC l none (some 1) = l.take 1 := by
  cases l with
  | nil => rfl
  | cons c l => simp [cutC, HT.sIx]
theorem cutC_tl (l : List Char) : cutC l (some 1) none = l.drop 1 := by
  cases l with
  | nil => rfl
  | cons c l => simp [cutC, HT.sIx]
theorem ofList_eq (l : List Char) (s : String) : decide (String.ofList l = s) = decide (l = s.toList) := by
  apply decide_eq_decide.mpr
  constructor
  · rintro rfl; simp
  · rintro rfl; simp
theorem bare_len (cs : List Char) : (bareC cs).length ≤ cs.length := by
  unfold bareC
  split <;> simp
theorem digit_nat {c : Char} (h : digits.contains c = true) : 48 ≤ c.toNat ∧ c.toNat ≤ 57 := by
  have : ∀ c ∈ digits, 48 ≤ c.toNat ∧ c.toNat ≤ 57 := by decide
  exact this c (by simpa using h)
theorem allDig {cs : List Char} (h : cs.all (fun c => digits.contains c) = true) : NumText.AllDigits (cs.map Char.toNat) := fun n hn => by
  obtain ⟨c, hc, rfl⟩ := List.mem_map.mp hn
  exact digit_nat (List.all_eq_true.mp h c hc)
theorem int_text {s : String} (h : digL (bareC s.toList) = true) : intText? (S s) = some (valS s.toList) := by
  unfold digL at h
  rw [Bool.and_eq_true, Bool.and_eq_true, decide_eq_true_eq, decide_eq_true_eq] at h
  obtain ⟨⟨h1, h2⟩, h3⟩ := h
  have hcps : (S s).cps.toList = s.toList.map Char.toNat := S_cps s
  have hlen : (S s).length = s.toList.length := by
    show (S s).cps.size = _
    rw [← Array.length_toList, hcps, List.length_map]
  unfold valS
  unfold bareC at h1 h2 h3
  by_cases hm : s.toList.take 1 = ['-']
  · rw [if_pos hm] at h1 h2 h3 ⊢
    have hs : s.toList = '-' :: s.toList.drop 1 := by
      rw [← List.take_append_drop 1 s.toList, hm]; simp
    have hc : (S s).cps.toList = 45 :: (s.toList.drop 1).map Char.toNat := by rw [hcps]; exact congrArg (List.map Char.toNat) hs
    refine intText_neg hc (allDig h3) ?_ ?_
    · intro e
      rw [List.map_eq_nil_iff] at e
      rw [e] at h1
      simp at h1
    · rw [hlen, hs]
      simp at h2 ⊢
      omega
  · rw [if_neg hm] at h1 h2 h3 ⊢
    have := intText_digits (x := S s) (by rw [hcps]; exact allDig h3) (by
      rw [hcps]; intro e
      rw [List.map_eq_nil_iff] at e
      rw [e] at h1
      simp at h1) (by rw [hlen]; omega)
    rw [this, hcps]
    rfl
theorem val_small {cs : List Char} (h : digL cs = true) : valC cs ≤ 999 := by
  unfold digL at h
  rw [Bool.and_eq_true, Bool.and_eq_true, decide_eq_true_eq, decide_eq_true_eq] at h
  obtain ⟨⟨h1, h2⟩, h3⟩ := h
  have hd : ∀ c ∈ cs, 48 ≤ c.toNat ∧ c.toNat ≤ 57 := fun c hc => digit_nat (List.all_eq_true.mp h3 c hc)
  unfold valC
  match cs, h2, hd with
  | [], _, _ => simp
  | [a], _, hd =>
    have := hd a (by simp)
    simp; omega
  | [a, b], _, hd =>
    have := hd a (by simp); have := hd b (by simp)
    simp; omega
  | [a, b, c], _, hd =>
    have := hd a (by simp); have := hd b (by simp); have := hd c (by simp)
    simp; omega
theorem valS_small {cs : List Char} (h : digL (bareC cs) = true) : -999 ≤ valS cs ∧ valS cs ≤ 999 := by
  unfold valS
  unfold bareC at h
  split at h <;> rename_i hm
  · rw [if_pos hm]
    have := val_small h
    omega
  · rw [if_neg hm]
    have := val_small h
    omega
theorem lc_signs {i : Nat} {env : DSt} {s t : String} {vs : List Nat} {ei : Ev (List D)} (hi : ei env = some (.ok (signsD s))) (hl : s.length ≤ 16000000) (hv : ∀ x, ((wipeD env vs).set i (some x))[i]? = some (some x)) :
    eLc ei (.n i) (eC true) (eOp pyIn (eVar i) (eC (.str t))) vs env = some (.ok (.lst (s.toList.map fun c => .bl (t.toList.contains c)))) := by
  have e : (signsD s).map (fun d => match d with | .str x => D.bl (t.toList.contains ((signOf x).getD 'a')) | _ => .non) = s.toList.map fun c => D.bl (t.toList.contains c) := by
    simp only [signsD, List.map_map]
    apply List.map_congr_left
    intro c _
    simp [signOf_one]
  rw [← e]
  refine lc_map hi ?_ fun d hd => ?_
  · have e : (signsD s).length = s.length := by simp [signsD, String.length]
    rw [e]; exact hl
  · simp only [signsD, List.mem_map] at hd
    obtain ⟨c, _, rfl⟩ := hd
    refine ⟨_, rfl, r_op (r_var (hv _)) r_c ?_⟩
    rw [in_signs]
    show _ = some (D.bl (t.toList.contains ((signOf (String.singleton c)).getD 'a')))
    rw [signOf_one]; rfl
theorem str_small {i : Int} (h : -999 ≤ i ∧ i ≤ 999) : pyStr G0 [.int i] = some (.str (toString i)) := by
  have : i.natAbs < 2 ^ 1000 := Nat.lt_of_le_of_lt (show i.natAbs ≤ 999 by omega) (Nat.lt_of_lt_of_le (by decide : 999 < 2 ^ 10) (Nat.pow_le_pow_right (by decide) (by decide)))
  exact if_pos this
theorem number_in_eq {s : String} (hl : s.length ≤ 16000000) : e_number_in [.str s] = some (.ok (numIn s)) := by
  have c1 : pySlice G0 (.str s) none (some 1) = some (.str (String.ofList (s.toList.take 1))) := by
    show (if s.length ≤ 16000000 then _ else none) = _
    rw [if_pos hl, cutC_hd]
  have c2 : pySlice G0 (.str s) (some 1) none = some (.str (String.ofList (s.toList.drop 1))) := by
    show (if s.length ≤ 16000000 then _ else none) = _
    rw [if_pos hl, cutC_tl]
  have hb : (String.ofList (bareC s.toList)).length ≤ 16000000 := by
    have := bare_len s.toList
    simp [String.length] at hl ⊢
    omega
  have e1 : ∀ x y : Option D, xSet 1 (eIf (eTest (eOp pyEq (eSlice (eVar 0) (eC none) (ePart (eC (.int 1)))) (eC (.str "-")))) (eSlice (eVar 0) (ePart (eC (.int 1))) (eC none)) (eVar 0)) [some (.str s), x, y] = some (.nx [some (.str s), some (.str (String.ofList (bareC s.toList))), y]) := fun x y => by
    refine r_set (x := .str (String.ofList (bareC s.toList))) (r_if (r_test (r_op (r_slice (r_var rfl) r_c (r_part r_c) c1) r_c (eq_str _ _))) (fun z => ?_) fun z => ?_)
    · rw [ofList_eq] at z
      unfold bareC
      rw [if_pos (show s.toList.take 1 = ['-'] from of_decide_eq_true z)]
      exact r_slice (r_var rfl) (r_part r_c) r_c c2
    · rw [ofList_eq] at z
      unfold bareC
      rw [if_neg (show ¬ s.toList.take 1 = ['-'] from of_decide_eq_false z), String.ofList_toList]
      exact r_var rfl
  have k : DL.pyLen G0 [.str (String.ofList (bareC s.toList))] = some (.int (bareC s.toList).length) := by
    show (if _ then _ else none) = _
    rw [if_pos hb]
    simp [String.length]
  have h3 : (1 : Int) ≤ (bareC s.toList).length ↔ 1 ≤ (bareC s.toList).length := by omega
  have h4 : ((bareC s.toList).length : Int) ≤ 3 ↔ (bareC s.toList).length ≤ 3 := by omega
  unfold numIn
  by_cases hd : digL (bareC s.toList) = true
  · have hv := int_text hd
    have hsm := valS_small hd
    have hd' := hd
    unfold digL at hd'
    rw [Bool.and_eq_true] at hd'
    have hs6 : s.length ≤ 640 := by
      have h0 := hd'.1
      rw [Bool.and_eq_true, decide_eq_true_eq, decide_eq_true_eq] at h0
      have : s.toList.length ≤ (bareC s.toList).length + 1 := by
        unfold bareC
        split
        · simp; omega
        · omega
      simp [String.length]
      omega
    have hi : pyIntS G0 [.str s] = some (.int (valS s.toList)) := by
      show (if s.length ≤ 640 then _ else none) = _
      rw [if_pos hs6, hv]; rfl
    have hne : pyNe G0 (.str (toString (valS s.toList))) (.str s) = some (.bl (!decide (toString (valS s.toList) = s))) := rfl
    by_cases hq : toString (valS s.toList) = s
    · rw [if_pos ⟨hd, hq⟩]
      refine r_fn (r_seq (e1 _ _) (r_seq (r_xifF (r_or (r_not (r_test (r_chain r_c (r_b (r_cons (r_var rfl) r_nil) k) rfl r_c rfl))) fun _ => r_or (r_not (r_test (r_b (r_cons (lc_signs (r_iter (r_var rfl) rfl) hb (fun _ => rfl)) r_nil) (pyAll_map _ _)))) fun _ => r_test (r_op (r_b (r_cons (r_b (r_cons (r_var rfl) r_nil) hi) r_nil) (str_small hsm)) (r_var rfl) hne)) ?_ rfl) (r_ret (r_b (r_cons (r_var rfl) r_nil) hi)))) rfl
      rw [decide_eq_decide.mpr h3, decide_eq_decide.mpr h4, decide_eq_true hq, hd'.1, String.toList_ofList]
      rw [show (bareC s.toList).all (fun c => "0123456789".toList.contains c) = true from hd'.2]
      rfl
    · rw [if_neg fun z => hq z.2]
      refine r_fn (r_seq (e1 _ _) (r_seqR (r_xifT (r_or (r_not (r_test (r_chain r_c (r_b (r_cons (r_var rfl) r_nil) k) rfl r_c rfl))) fun _ => r_or (r_not (r_test (r_b (r_cons (lc_signs (r_iter (r_var rfl) rfl) hb (fun _ => rfl)) r_nil) (pyAll_map _ _)))) fun _ => r_test (r_op (r_b (r_cons (r_b (r_cons (r_var rfl) r_nil) hi) r_nil) (str_small hsm)) (r_var rfl) hne)) ?_ (r_ret r_c)))) rfl
      rw [decide_eq_false hq]
      simp
  · rw [if_neg fun z => hd z.1]
    by_cases h5 : (decide (1 ≤ (bareC s.toList).length) && decide ((bareC s.toList).length ≤ 3)) = true
    · have h6 : ((bareC s.toList).all fun c => "0123456789".toList.contains c) = false := by
        unfold digL at hd
        rw [h5] at hd
        exact Bool.eq_false_iff.mpr hd
      refine r_fn (r_seq (e1 _ _) (r_seqR (r_xifT (r_or (r_not (r_test (r_chain r_c (r_b (r_cons (r_var rfl) r_nil) k) rfl r_c rfl))) fun _ => r_or (c := false) (r_not (r_test (r_b (r_cons (lc_signs (r_iter (r_var rfl) rfl) hb (fun _ => rfl)) r_nil) (pyAll_map _ _)))) fun z => ?_) ?_ (r_ret r_c)))) rfl
      · rw [String.toList_ofList, h6] at z; cases z
      · rw [String.toList_ofList, h6]; simp
    · refine r_fn (r_seq (e1 _ _) (r_seqR (r_xifT (r_or (c := false) (r_not (r_test (r_chain r_c (r_b (r_cons (r_var rfl) r_nil) k) rfl r_c rfl))) fun z => ?_) ?_ (r_ret r_c)))) rfl
      · rw [decide_eq_decide.mpr h3, decide_eq_decide.mpr h4, Bool.eq_false_iff.mpr h5] at z; cases z
      · rw [decide_eq_decide.mpr h3, decide_eq_decide.mpr h4, Bool.eq_false_iff.mpr h5]; rfl
end PL

namespace PL
open DL PySem
/-! ### split and join -/
theorem splC_ne (c : Char) : ∀ (l acc : List Char), ∃ x xs, splC c acc l = x :: xs
  | [], acc => ⟨acc, [], rfl⟩
  | d :: r, acc => by
    unfold splC
    split
    · exact ⟨_, _, rfl⟩
    · exact splC_ne c r _
theorem join_spl (c : Char) : ∀ (l acc : List Char), joinC [c] (splC c acc l) = acc ++ l
  | [], acc => by simp [splC, joinC]
  | d :: r, acc => by
    unfold splC
    by_cases h : d = c
    · rw [if_pos h]
      have ih := join_spl c r []
      obtain ⟨x, xs, e⟩ := splC_ne c r []
      rw [e] at ih ⊢
      show acc ++ [c] ++ joinC [c] (x :: xs) = _
      rw [ih, h]; simp
    · rw [if_neg h, join_spl c r (acc ++ [d])]; simp
theorem joinS_split (c : Char) (s : String) : joinS (String.singleton c) (splitS s c) = s := by
  unfold joinS splitS
  rw [List.map_map, show (String.toList ∘ String.ofList) = id from funext fun l => by simp, List.map_id]
  rw [show (String.singleton c).toList = [c] by simp, join_spl]
  simp
theorem spl_hit' (c : Char) (r : List Char) : ∀ (x acc : List Char), c ∉ x → splC c acc (x ++ c :: r) = (acc ++ x) :: splC c [] r
  | [], acc, _ => by
    rw [List.nil_append, List.append_nil]
    exact if_pos rfl
  | d :: x, acc, h => by
    have hd : d ≠ c := fun e => h (by simp [e])
    rw [show splC c acc (d :: x ++ c :: r) = splC c (acc ++ [d]) (x ++ c :: r) from if_neg hd, spl_hit' c r x (acc ++ [d]) (fun z => h (by simp [z]))]
    simp
theorem spl_end (c : Char) : ∀ (x acc : List Char), c ∉ x → splC c acc x = [acc ++ x]
  | [], acc, _ => by simp [splC]
  | d :: x, acc, h => by
    have hd : d ≠ c := fun e => h (by simp [e])
    unfold splC
    rw [if_neg hd, spl_end c x (acc ++ [d]) (fun z => h (by simp [z]))]
    simp
theorem spl_join (c : Char) : ∀ xs : List (List Char), xs ≠ [] → (∀ x ∈ xs, c ∉ x) → splC c [] (joinC [c] xs) = xs
  | [], h, _ => absurd rfl h
  | [x], _, h => by
    show splC c [] x = _
    rw [spl_end c x [] (h x (by simp))]; simp
  | x :: y :: r, _, h => by
    show splC c [] (x ++ [c] ++ joinC [c] (y :: r)) = _
    rw [List.append_assoc]
    show splC c [] (x ++ c :: joinC [c] (y :: r)) = _
    rw [spl_hit' c _ x [] (h x (by simp)), spl_join c (y :: r) (by simp) fun z hz => h z (List.mem_cons_of_mem _ hz)]
    simp
theorem splitS_join (c : Char) (xs : List String) (h0 : xs ≠ []) (h : ∀ x ∈ xs, c ∉ x.toList) : splitS (joinS (String.singleton c) xs) c = xs := by
  unfold joinS splitS
  rw [String.toList_ofList, show (String.singleton c).toList = [c] by simp, spl_join c _ (by simpa using h0)]
  · rw [List.map_map, show (String.ofList ∘ String.toList) = id from funext fun l => by simp, List.map_id]
  · intro x hx
    obtain ⟨s, hs, rfl⟩ := List.mem_map.mp hx
    exact h s hs
theorem splC_lens (c : Char) : ∀ (l acc : List Char), (∀ x ∈ splC c acc l, x.length ≤ acc.length + l.length) ∧ (splC c acc l).length ≤ l.length + 1
  | [], acc => by simp [splC]
  | d :: r, acc => by
    unfold splC
    split
    · have ih := splC_lens c r []
      refine ⟨fun x hx => ?_, ?_⟩
      · rcases List.mem_cons.mp hx with e | hx
        · rw [e]; omega
        · have := ih.1 x hx
          simp at this ⊢; omega
      · have := ih.2
        simp at this ⊢; omega
    · have ih := splC_lens c r (acc ++ [d])
      refine ⟨fun x hx => ?_, ?_⟩
      · have := ih.1 x hx
        simp at this ⊢; omega
      · have := ih.2
        simp at this ⊢; omega
theorem splitS_mem {c : Char} {s x : String} (h : x ∈ splitS s c) : x.length ≤ s.length := by
  unfold splitS at h
  obtain ⟨l, hl, rfl⟩ := List.mem_map.mp h
  have := (splC_lens c s.toList []).1 l hl
  simp [String.length] at this ⊢
  exact this
theorem splitS_len (c : Char) (s : String) : (splitS s c).length ≤ s.length + 1 := by
  unfold splitS
  have := (splC_lens c s.toList []).2
  simp [String.length] at this ⊢
  exact this
theorem splitS_ne (c : Char) (s : String) : ∃ x xs, splitS s c = x :: xs := by
  obtain ⟨x, xs, e⟩ := splC_ne c s.toList []
  unfold splitS
  rw [e]
  exact ⟨_, _, rfl⟩
theorem join_len (sep : List Char) : ∀ xs : List (List Char), (joinC sep xs).length ≤ (xs.map List.length).sum + xs.length * sep.length
  | [] => by simp [joinC]
  | [x] => by simp [joinC]
  | x :: y :: r => by
    have := join_len sep (y :: r)
    simp only [joinC, List.length_append, List.map_cons, List.sum_cons, List.length_cons, Nat.add_mul] at this ⊢
    omega
theorem joinS_len (sep : String) (xs : List String) : (joinS sep xs).length ≤ (xs.map String.length).sum + xs.length * sep.length := by
  have := join_len sep.toList (xs.map String.toList)
  unfold joinS
  rw [List.map_map, List.length_map, show (List.length ∘ String.toList) = String.length from funext fun s => by simp [String.length]] at this
  simp [String.length] at this ⊢
  exact this
theorem join_mem (sep : List Char) (c : Char) : ∀ xs : List (List Char), c ∈ joinC sep xs → c ∈ sep ∨ ∃ x ∈ xs, c ∈ x
  | [], h => by simp [joinC] at h
  | [x], h => .inr ⟨x, by simp, h⟩
  | x :: y :: r, h => by
    rw [show joinC sep (x :: y :: r) = x ++ sep ++ joinC sep (y :: r) from rfl, List.mem_append, List.mem_append] at h
    rcases h with (h | h) | h
    · exact .inr ⟨x, by simp, h⟩
    · exact .inl h
    · rcases join_mem sep c (y :: r) h with h | ⟨z, hz, h⟩
      · exact .inl h
      · exact .inr ⟨z, List.mem_cons_of_mem _ hz, h⟩
theorem joinS_mem {sep : String} {xs : List String} {c : Char} (h : c ∈ (joinS sep xs).toList) : c ∈ sep.toList ∨ ∃ x ∈ xs, c ∈ x.toList := by
  unfold joinS at h
  rw [String.toList_ofList] at h
  rcases join_mem _ _ _ h with h | ⟨x, hx, h⟩
  · exact .inl h
  · obtain ⟨s, hs, rfl⟩ := List.mem_map.mp hx
    exact .inr ⟨s, hs, h⟩
/-! ### numbers' texts -/
def digK : Nat → Bool
  | 0 => true
  | n + 1 => digL (Nat.repr n).toList && digK n
theorem digK_ok : digK 1000 = true := by decide +kernel
theorem digK_mem : ∀ {n m : Nat}, digK n = true → m < n → digL (Nat.repr m).toList = true
  | n + 1, m, h, hm => by
    unfold digK at h
    rw [Bool.and_eq_true] at h
    rcases Nat.lt_or_eq_of_le (Nat.le_of_lt_succ hm) with q | q
    · exact digK_mem h.2 q
    · rw [q]; exact h.1
theorem digL_hd {cs : List Char} (h : digL cs = true) : ¬ cs.take 1 = ['-'] := fun e => by
  unfold digL at h
  rw [Bool.and_eq_true] at h
  cases cs with
  | nil => cases e
  | cons a r =>
    have ha : a = '-' := (List.cons.inj e).1
    have := List.all_eq_true.mp h.2 a List.mem_cons_self
    rw [ha] at this
    revert this; decide
theorem toStr_pos {i : Int} (h : 0 ≤ i) : toString i = Nat.repr i.toNat := by
  obtain ⟨n, rfl⟩ := Int.eq_ofNat_of_zero_le h
  rfl
theorem toStr_neg {i : Int} (h : i < 0) : (toString i).toList = '-' :: (Nat.repr (-i).toNat).toList := by
  obtain ⟨n, rfl⟩ := Int.eq_negSucc_of_lt_zero h
  show ("-" ++ Nat.repr (n + 1)).toList = _
  rw [String.toList_append]
  rfl
theorem digR {n : Nat} (h : n ≤ 999) : digL (Nat.repr n).toList = true := digK_mem digK_ok (by omega)
theorem valR {n : Nat} (h : n ≤ 999) : valC (Nat.repr n).toList = n := by
  have hd := digR h
  have e : bareC (toString (n : Int)).toList = (Nat.repr n).toList := if_neg (digL_hd hd)
  have h1 := int_text (s := toString (n : Int)) (by rw [e]; exact hd)
  have h2 := PySem.W.KIN.num_reads (n := (n : Int)) (by omega) (by omega)
  rw [show PySem.Str.ofString (toString (n : Int)) = S (toString (n : Int)) from rfl, h1] at h2
  have h3 := Option.some.inj h2
  unfold valS at h3
  rw [show toString (n : Int) = Nat.repr n from rfl, if_neg (digL_hd hd)] at h3
  exact Int.ofNat.inj h3
theorem numIn_str {i : Int} (h : -999 ≤ i ∧ i ≤ 999) : numIn (toString i) = .int i := by
  have : digL (bareC (toString i).toList) = true ∧ valS (toString i).toList = i := by
    by_cases h0 : 0 ≤ i
    · have hd := digR (n := i.toNat) (by omega)
      have e : bareC (toString i).toList = (Nat.repr i.toNat).toList := by
        rw [toStr_pos h0]; exact if_neg (digL_hd hd)
      refine ⟨by rw [e]; exact hd, ?_⟩
      rw [toStr_pos h0]
      unfold valS
      rw [if_neg (digL_hd hd), valR (by omega)]
      omega
    · have hd := digR (n := (-i).toNat) (by omega)
      have ht := toStr_neg (i := i) (by omega)
      rw [ht]
      refine ⟨?_, ?_⟩
      · unfold bareC
        rw [if_pos (by simp)]
        exact hd
      · unfold valS
        rw [if_pos (by simp)]
        show -((valC (Nat.repr (-i).toNat).toList : Nat) : Int) = i
        rw [valR (by omega)]
        omega
  unfold numIn
  rw [this.2, if_pos ⟨this.1, rfl⟩]
theorem digL_len {cs : List Char} (h : digL cs = true) : cs.length ≤ 3 ∧ ∀ c ∈ cs, c ≠ ' ' ∧ c ≠ '\n' := by
  unfold digL at h
  rw [Bool.and_eq_true, Bool.and_eq_true, decide_eq_true_eq, decide_eq_true_eq] at h
  refine ⟨h.1.2, fun c hc => ?_⟩
  have := digit_nat (List.all_eq_true.mp h.2 c hc)
  constructor
  · rintro rfl; revert this; decide
  · rintro rfl; revert this; decide
theorem numStr {i : Int} (h : -999 ≤ i ∧ i ≤ 999) : (toString i).length ≤ 4 ∧ ∀ c ∈ (toString i).toList, c ≠ ' ' ∧ c ≠ '\n' := by
  rw [show (toString i).length = (toString i).toList.length by simp [String.length]]
  by_cases h0 : 0 ≤ i
  · rw [toStr_pos h0]
    have := digL_len (digR (n := i.toNat) (by omega))
    exact ⟨by omega, this.2⟩
  · rw [toStr_neg (by omega)]
    have := digL_len (digR (n := (-i).toNat) (by omega))
    refine ⟨by simp only [List.length_cons]; omega, fun c hc => ?_⟩
    rcases List.mem_cons.mp hc with rfl | hc
    · decide
    · exact this.2 c hc
theorem numIn_int {s : String} {i : Int} (h : numIn s = .int i) : toString i = s := by
  unfold numIn at h
  split at h
  · rename_i h2
    cases h
    exact h2.2
  · cases h
theorem numIn_cases (s : String) : numIn s = .non ∨ ∃ i, numIn s = .int i := by
  unfold numIn
  split
  · exact .inr ⟨_, rfl⟩
  · exact .inl rfl
end PL

namespace PL
open DL PySem
theorem slen (s : String) : s.toList.length = s.length := by simp [String.length]
theorem inR_int {lo hi : Int} {d : D} (h : inR lo hi d = true) : ∃ i, d = .int i ∧ lo ≤ i ∧ i ≤ hi := by
  cases d with
  | int i =>
    unfold inR at h
    rw [Bool.and_eq_true, decide_eq_true_eq, decide_eq_true_eq] at h
    exact ⟨i, rfl, h.1, h.2⟩
  | _ => cases h
theorem small_sign {c : Char} (h : small.contains c = true) : c ≠ ' ' ∧ c ≠ '\n' := by
  have : ∀ c ∈ small, c ≠ ' ' ∧ c ≠ '\n' := by decide
  exact this c (by simpa using h)
theorem word_txt {s : String} (h : wordS s = true) : s.length ≤ 8 ∧ 1 ≤ s.length ∧ ∀ c ∈ s.toList, small.contains c = true := by
  unfold wordS at h
  rw [Bool.and_eq_true, Bool.and_eq_true, decide_eq_true_eq, decide_eq_true_eq] at h
  exact ⟨h.1.2, h.1.1, List.all_eq_true.mp h.2⟩
def strP : D → String
  | .int i => toString i
  | .str s => s
  | _ => ""
def lineOf (ps : List D) : String := joinS " " (ps.map strP)
def lineD : D → String
  | .tup ps => lineOf ps
  | _ => ""
def progText (xs : List D) : String := joinS "\n" (xs.map lineD)
structure TxtOk (d : D) : Prop where
  str : pyStr G0 [d] = some (.str (strP d))
  len : (strP d).length ≤ 8
  sg : ∀ c ∈ (strP d).toList, c ≠ ' ' ∧ c ≠ '\n'
theorem int_txt {i : Int} (h : -999 ≤ i ∧ i ≤ 999) : TxtOk (.int i) := ⟨str_small h, Nat.le_trans (numStr h).1 (by decide), (numStr h).2⟩
theorem wrd_txt {s : String} (h : wordS s = true) : TxtOk (.str s) := ⟨rfl, (word_txt h).1, fun c hc => small_sign ((word_txt h).2.2 c hc)⟩
theorem isWord_eq {d : D} (h : isWord d = true) : ∃ s, d = .str s ∧ wordS s = true := by
  cases d with
  | str s => exact ⟨s, rfl, h⟩
  | _ => cases h
theorem part_cases {c : Char} {d : D} (h : isPart c d = true) : (∃ i, d = .int i ∧ -999 ≤ i ∧ i ≤ 999 ∧ (c = 'r' ∨ c = 'n' ∨ c = 'g')) ∨ (∃ s, d = .str s ∧ wordS s = true ∧ c ≠ 'r' ∧ c ≠ 'n' ∧ c ≠ 'g') := by
  unfold isPart at h
  by_cases h1 : c = 'r'
  · rw [if_pos h1] at h
    obtain ⟨i, e, a, b⟩ := inR_int h
    exact .inl ⟨i, e, by omega, by omega, .inl h1⟩
  rw [if_neg h1] at h
  by_cases h2 : c = 'n'
  · rw [if_pos h2] at h
    obtain ⟨i, e, a, b⟩ := inR_int h
    exact .inl ⟨i, e, by omega, by omega, .inr (.inl h2)⟩
  rw [if_neg h2] at h
  by_cases h3 : c = 'g'
  · rw [if_pos h3] at h
    obtain ⟨i, e, a, b⟩ := inR_int h
    exact .inl ⟨i, e, by omega, by omega, .inr (.inr h3)⟩
  rw [if_neg h3] at h
  obtain ⟨s, e, hw⟩ := isWord_eq h
  exact .inr ⟨s, e, hw, h1, h2, h3⟩
theorem part_txt {c : Char} {d : D} (h : isPart c d = true) : TxtOk d := by
  rcases part_cases h with ⟨i, rfl, a, b, _⟩ | ⟨s, rfl, hw, _⟩
  · exact int_txt ⟨a, b⟩
  · exact wrd_txt hw
theorem zip_snd {α β : Type} : ∀ (cs : List α) (ps : List β), ps.length ≤ cs.length → ∀ p ∈ ps, ∃ c, (c, p) ∈ cs.zip ps
  | _, [], _, p, hp => by cases hp
  | [], q :: ps, h, _, _ => by simp at h
  | c :: cs, q :: ps, h, p, hp => by
    rcases List.mem_cons.mp hp with rfl | hp
    · exact ⟨c, by simp⟩
    · obtain ⟨c', hc⟩ := zip_snd cs ps (by simp at h; omega) p hp
      exact ⟨c', by simp [hc]⟩
theorem forms_all : ∀ p ∈ lst_FORMS, p.2.length ≤ 3 ∧ wordS p.1 = true ∧ p.2.toList.all (fun c => ['r', 'n', 'g', 'w'].contains c) = true := by decide
theorem forms_at {w so : String} (h : lst_FORMS.lookup w = some so) : so.length ≤ 3 ∧ wordS w = true ∧ ∀ c ∈ so.toList, c = 'r' ∨ c = 'n' ∨ c = 'g' ∨ c = 'w' := by
  obtain ⟨a, b, c⟩ := forms_all _ (lookup_mem' h)
  refine ⟨a, b, fun x hx => ?_⟩
  have := List.all_eq_true.mp c x hx
  simpa using this
theorem instr_cases {d : D} (h : isInstr d = true) : ∃ w ps so, d = .tup (.str w :: ps) ∧ lst_FORMS.lookup w = some so ∧ ps.length = so.length ∧ ∀ p ∈ so.toList.zip ps, isPart p.1 p.2 = true := by
  unfold isInstr at h
  split at h
  · rename_i w ps
    split at h
    · rename_i so e
      unfold partsOk at h
      rw [Bool.and_eq_true, decide_eq_true_eq] at h
      exact ⟨w, ps, so, rfl, e, h.1, List.all_eq_true.mp h.2⟩
    · cases h
  · cases h
theorem instr_txt {d : D} (h : isInstr d = true) : ∃ ps, d = .tup ps ∧ ps.length ≤ 4 ∧ ps ≠ [] ∧ ∀ p ∈ ps, TxtOk p := by
  obtain ⟨w, ps, so, rfl, e, hl, hp⟩ := instr_cases h
  obtain ⟨a, b, _⟩ := forms_at e
  refine ⟨_, rfl, by simp; omega, by simp, fun p hp' => ?_⟩
  rcases List.mem_cons.mp hp' with rfl | hp'
  · exact wrd_txt b
  · obtain ⟨c, hc⟩ := zip_snd so.toList ps (by rw [slen]; omega) p hp'
    exact part_txt (hp _ hc)
theorem sum_le {α : Type} (f : α → Nat) (b : Nat) : ∀ xs : List α, (∀ x ∈ xs, f x ≤ b) → (xs.map f).sum ≤ xs.length * b
  | [], _ => by simp
  | x :: xs, h => by
    have := sum_le f b xs fun y hy => h y (List.mem_cons_of_mem _ hy)
    have := h x List.mem_cons_self
    simp only [List.map_cons, List.sum_cons, List.length_cons, Nat.add_mul]
    omega
theorem line_len {ps : List D} (h4 : ps.length ≤ 4) (h : ∀ p ∈ ps, TxtOk p) : ((ps.map strP).map String.length).sum + (ps.map strP).length * 1 ≤ 36 := by
  rw [List.map_map, List.length_map]
  have := sum_le (String.length ∘ strP) 8 ps fun p hp => (h p hp).len
  omega
theorem allS_map : ∀ xs : List String, allS (xs.map .str) = some xs
  | [] => rfl
  | x :: xs => by simp only [List.map_cons, allS, allS_map xs, Option.map_some]
theorem join_eq {a : String} {zs : List String} (h : (zs.map String.length).sum + zs.length * a.length ≤ 16000000) : mJoin G0 (.str a) [.lst (zs.map .str)] = some (.str (joinS a zs), G0) := by
  simp only [mJoin, asQ, asL, allS_map, if_pos h]
theorem r_mt {ty : String} {f : DMF} {ea : Ev D} {er : Ev (List D)} {env : DSt} {x z : D} {xs : List D} {G' : DG} (ha : ea env = some (.ok x)) (ht : tyM G0 x = some ty) (hr : er env = some (.ok xs)) (h : f G0 x xs = some (z, G')) : eMt ty f ea er env = some (.ok z) := by
  unfold eMt; rw [ha, b_ok, if_pos ht, hr, b_ok, h]; rfl
theorem isProg_cases {d : D} (h : isProg d = true) : ∃ xs, d = .tup xs ∧ 1 ≤ xs.length ∧ xs.length ≤ 40 ∧ ∀ x ∈ xs, isInstr x = true := by
  cases d with
  | tup xs =>
    unfold isProg at h
    rw [Bool.and_eq_true, Bool.and_eq_true, decide_eq_true_eq, decide_eq_true_eq] at h
    exact ⟨xs, rfl, h.1.1, h.1.2, List.all_eq_true.mp h.2⟩
  | _ => cases h
theorem txt_okD {d : D} (h : TxtOk d) (n : Nat) : okD n d = true := by
  have := h.str
  cases d with
  | int i => cases n <;> rfl
  | str s =>
    have hl : s.length ≤ 16000000 := Nat.le_trans h.len (by decide)
    cases n <;> exact decide_eq_true hl
  | _ => cases this
theorem instr_okD {d : D} (h : isInstr d = true) (n : Nat) : okD (n + 1) d = true := by
  obtain ⟨ps, rfl, _, _, hp⟩ := instr_txt h
  exact List.all_eq_true.mpr fun p hp' => txt_okD (hp p hp') n
theorem prog_okD {d : D} (h : isProg d = true) (n : Nat) : okD (n + 2) d = true := by
  obtain ⟨xs, rfl, _, _, hx⟩ := isProg_cases h
  exact List.all_eq_true.mpr fun x hx' => instr_okD (hx x hx') n
theorem need_program_ok {d : D} (h : isProg d = true) : e_need_program [d] = some (.ok .non) := by
  rw [need_program_eq (prog_okD h 39), if_pos h]
theorem lineD_len {d : D} (h : isInstr d = true) : (lineD d).length ≤ 36 := by
  obtain ⟨ps, rfl, h4, _, hp⟩ := instr_txt h
  have := joinS_len " " (ps.map strP)
  have h2 := line_len h4 hp
  rw [show (" " : String).length = 1 from rfl] at this
  exact Nat.le_trans this h2
theorem text_len {xs : List D} (h : isProg (.tup xs) = true) : ((xs.map lineD).map String.length).sum + (xs.map lineD).length * 1 ≤ 1600 := by
  obtain ⟨ys, e, _, h40, hx⟩ := isProg_cases h
  cases e
  rw [List.map_map, List.length_map]
  have := sum_le (String.length ∘ lineD) 36 xs fun p hp => lineD_len (hx p hp)
  omega
theorem progText_len {xs : List D} (h : isProg (.tup xs) = true) : (progText xs).length ≤ 1600 := by
  have := joinS_len "\n" (xs.map lineD)
  rw [show ("\n" : String).length = 1 from rfl] at this
  exact Nat.le_trans this (text_len h)
theorem program_text_eq {xs : List D} (h : isProg (.tup xs) = true) : e_program_text [.tup xs] = some (.ok (.str (progText xs))) := by
  obtain ⟨ys, e, _, h40, hx⟩ := isProg_cases h
  cases e
  refine r_fn (r_seq (r_drop (r_call (r_cons (r_var rfl) r_nil) (need_program_ok h))) (r_ret (r_mt r_c rfl (r_cons (lc_map (g := fun d => .str (lineD d)) (r_iter (r_var rfl) rfl) (by omega) fun d hd => ⟨_, rfl, ?_⟩) r_nil) (G' := G0) ?_))) rfl
  · obtain ⟨ps, rfl, h4, _, hp⟩ := instr_txt (hx d hd)
    refine r_mt r_c rfl (r_cons (lc_map (g := fun p => .str (strP p)) (r_iter (r_var rfl) rfl) (by omega) fun p hp' => ⟨_, rfl, r_b (r_cons (r_var rfl) r_nil) (hp p hp').str⟩) r_nil) (G' := G0) ?_
    have := join_eq (a := " ") (zs := ps.map strP) (Nat.le_trans (line_len h4 hp) (by decide))
    rw [List.map_map] at this
    exact this
  · have := join_eq (a := "\n") (zs := xs.map lineD) (Nat.le_trans (text_len h) (by decide))
    rw [List.map_map] at this
    exact this
/-! ### read_program -/
def partIn (p : Char × String) : D := if p.1 = 'w' then .str p.2 else numIn p.2
def rowIn (line : String) : D := match splitS line ' ' with
  | [] => .non
  | w :: ws => match lst_FORMS.lookup w with
    | none => .non
    | some so => if ws.length = so.length then .tup (.str w :: (so.toList.zip ws).map partIn) else .non
theorem split_eq {s b : String} {c : Char} (hb : signOf b = some c) (hc : c.toNat < 256) (hl : s.length ≤ 1000000) : mSplit G0 (.str s) [.str b] = some (.lst ((splitS s c).map .str), G0) := by
  simp only [mSplit, hb]
  rw [if_pos ⟨hc, by omega⟩]
theorem item0L (x : D) (xs : List D) : pyItem G0 (.lst (x :: xs)) (.int 0) = some x := by simp [pyItem, asQ, asL, L2.atI, L2.ixN]
theorem cut1L (x : D) (xs : List D) : pySlice G0 (.lst (x :: xs)) (some 1) none = some (.lst xs) := by
  show some (D.lst _) = _
  simp [cutD, HT.sIx]
theorem zip_strs (so : String) (ws : List String) : zipD (signsD so) (ws.map .str) = (so.toList.zip ws).map fun p => .tup [.str (String.singleton p.1), .str p.2] := by
  rw [show signsD so = so.toList.map (fun c => D.str (String.singleton c)) from rfl, zip_signs, List.zip_map_right, List.map_map]
  rfl
theorem row_in_eq {line : String} (hl : line.length ≤ 1000000) : e_row_in [.str line] = some (.ok (rowIn line)) := by
  obtain ⟨w, ws, e⟩ := splitS_ne ' ' line
  have hs : mSplit G0 (.str line) [.str " "] = some (.lst (.str w :: ws.map .str), G0) := by
    rw [split_eq (c := ' ') rfl (by decide) hl, e]; rfl
  have hwl : ∀ x ∈ w :: ws, x.length ≤ 16000000 := fun x hx => by
    rw [← e] at hx
    exact Nat.le_trans (splitS_mem hx) (by omega)
  have er0 : rowIn line = match lst_FORMS.lookup w with
    | none => .non
    | some so => if ws.length = so.length then .tup (.str w :: (so.toList.zip ws).map partIn) else .non := by unfold rowIn; rw [e]
  have t1 : tab_FORMS.lookup w = (lst_FORMS.lookup w).map .str := tab_look _ _
  cases hw : lst_FORMS.lookup w with
  | none =>
    rw [hw] at t1
    have k : kGet tab_FORMS G0 (.str w) = some .non := by simp only [kGet, t1]; rfl
    rw [er0, hw]
    exact r_fn (r_seq (r_set (r_mt (r_var rfl) rfl (r_cons r_c r_nil) hs)) (r_seq (r_set (r_un (r_op (r_var rfl) r_c (item0L _ _)) k)) (r_seqR (r_xifT (r_or (c := false) (r_test (r_op (r_var rfl) r_c rfl)) fun z => nomatch (show true = false from z)) rfl (r_ret r_c))))) rfl
  | some so =>
    rw [hw] at t1
    have hso := (forms_at hw).1
    have k : kGet tab_FORMS G0 (.str w) = some (.str so) := by simp only [kGet, t1]; rfl
    have k3 : DL.pyLen G0 [.str so] = some (.int so.length) := if_pos (by omega)
    have k4 : DL.pyLen G0 [.lst (.str w :: ws.map .str)] = some (.int (ws.length + 1 : Nat)) := by
      show some (D.int ((_ : Nat) : Int)) = _
      simp
    have k5 : pyNe G0 (.int (ws.length + 1 : Nat)) (.int (so.length + 1)) = some (.bl (!decide (ws.length = so.length))) := by
      show some (D.bl (!decide _)) = _
      rw [decide_eq_decide.mpr (show ((ws.length + 1 : Nat) : Int) = so.length + 1 ↔ ws.length = so.length by omega)]
    have cond : ∀ a b : Option D, eOr (eTest (eOp pyIs (eVar 2) (eC .non))) (eTest (eOp pyNe (eB pyLen (eCons (eVar 1) (eC []))) (eOp pyAdd (eB pyLen (eCons (eVar 2) (eC []))) (eC (.int 1))))) [some (.str line), some (.lst (.str w :: ws.map .str)), some (.str so), a, b] = some (.ok (false || !decide (ws.length = so.length))) := fun a b =>
      r_or (r_test (r_op (r_var rfl) r_c rfl)) fun _ => r_test (r_op (r_b (r_cons (r_var rfl) r_nil) k4) (r_op (r_b (r_cons (r_var rfl) r_nil) k3) r_c rfl) k5)
    by_cases hle : ws.length = so.length
    · have er : rowIn line = .tup (.str w :: (so.toList.zip ws).map partIn) := by rw [er0, hw]; exact if_pos hle
      rw [er]
      refine r_fn (r_seq (r_set (r_mt (r_var rfl) rfl (r_cons r_c r_nil) hs)) (r_seq (r_set (r_un (r_op (r_var rfl) r_c (item0L _ _)) k)) (r_seq (r_xifF (cond _ _) (by rw [decide_eq_true hle]; rfl) rfl) (r_ret (r_op (r_tup (r_cons (r_op (r_var rfl) r_c (item0L _ _)) r_nil) (by simp)) (r_b (r_cons (lc_map (g := fun d => match d with | .tup [.str x, .str y] => partIn ((signOf x).getD 'a', y) | _ => .non) (r_zip (r_cons (r_var rfl) (r_cons (r_slice (r_var rfl) (r_part r_c) r_c (cut1L _ _)) r_nil)) rfl rfl) ?_ fun d hd => ?_) r_nil) (z := .tup ((so.toList.zip ws).map partIn)) ?_) ?_))))) rfl
      · rw [zipD_len]
        have : (signsD so).length = so.length := by simp [signsD, String.length]
        omega
      · rw [zip_strs, List.mem_map] at hd
        obtain ⟨⟨c, y⟩, hp, rfl⟩ := hd
        refine ⟨_, rfl, ?_⟩
        have hy : y.length ≤ 1000000 := Nat.le_trans (splitS_mem (c := ' ') (s := line) (by rw [e]; exact List.mem_cons_of_mem _ (List.of_mem_zip hp).2)) hl
        show _ = some (Except.ok (partIn ((signOf (String.singleton c)).getD 'a', y)))
        rw [signOf_one]
        refine r_if (r_test (r_op (r_var rfl) r_c (eq_str _ _))) (fun z => ?_) fun z => ?_
        · rw [show decide (String.singleton c = "w") = decide (c = 'w') from one_eq c 'w'] at z
          have hc : c = 'w' := of_decide_eq_true z
          rw [show partIn ((some c).getD 'a', y) = .str y from if_pos hc]
          exact r_var rfl
        · rw [show decide (String.singleton c = "w") = decide (c = 'w') from one_eq c 'w'] at z
          have hc : ¬ c = 'w' := of_decide_eq_false z
          rw [show partIn ((some c).getD 'a', y) = numIn y from if_neg hc]
          exact r_call (r_cons (r_var rfl) r_nil) (number_in_eq (show y.length ≤ 16000000 by omega))
      · show some (D.tup _) = _
        rw [zip_strs, List.map_map]
        congr 2
        apply List.map_congr_left
        rintro ⟨c, p⟩ _
        show partIn ((signOf (String.singleton c)).getD 'a', p) = _
        rw [signOf_one]
        rfl
      · show (if _ then _ else none) = _
        rw [if_pos (by simp; omega)]
        rfl
    · have er : rowIn line = .non := by rw [er0, hw]; exact if_neg hle
      rw [er]
      exact r_fn (r_seq (r_set (r_mt (r_var rfl) rfl (r_cons r_c r_nil) hs)) (r_seq (r_set (r_un (r_op (r_var rfl) r_c (item0L _ _)) k)) (r_seqR (r_xifT (cond _ _) (by rw [decide_eq_false hle]; rfl) (r_ret r_c))))) rfl
theorem rowIn_okD {line : String} (hl : line.length ≤ 1000000) (n : Nat) : okD (n + 1) (rowIn line) = true := by
  unfold rowIn
  split
  · rfl
  · rename_i w ws e
    split
    · rfl
    · rename_i so hs
      split
      · have hx : ∀ x ∈ w :: ws, x.length ≤ 16000000 := fun x hx => Nat.le_trans (splitS_mem (c := ' ') (s := line) (by rw [e]; exact hx)) (by omega)
        refine List.all_eq_true.mpr fun p hp => ?_
        rcases List.mem_cons.mp hp with rfl | hp
        · have := hx w (by simp)
          cases n <;> exact decide_eq_true this
        · obtain ⟨⟨c, y⟩, hm, rfl⟩ := List.mem_map.mp hp
          unfold partIn
          split
          · have := hx y (List.mem_cons_of_mem _ (List.of_mem_zip hm).2)
            cases n <;> exact decide_eq_true this
          · rcases numIn_cases y with q | ⟨i, q⟩ <;> rw [q] <;> cases n <;> rfl
      · rfl
def readP (s : String) : List D := (splitS s '\n').map rowIn
theorem read_program_eq {s : String} (hl : s.length ≤ 1000000) : e_read_program [.str s] = some (if isProg (.tup (readP s)) = true then .ok (.tup (readP s)) else .error ("BadText", none)) := by
  have hs : mSplit G0 (.str s) [.str "\n"] = some (.lst ((splitS s '\n').map .str), G0) := split_eq (c := '\n') rfl (by decide) hl
  have hn := splitS_len '\n' s
  have hok : okD 41 (.tup (readP s)) = true := List.all_eq_true.mpr fun x hx => by
    obtain ⟨l, hm, rfl⟩ := List.mem_map.mp hx
    exact rowIn_okD (Nat.le_trans (splitS_mem hm) hl) 39
  have e1 : ∀ a b : Option D, xSet 1 (eB pyTup (eCons (eLc (eIter (eMt "str" mSplit (eVar 0) (eCons (eC (.str "\n")) (eC [])))) (.n 2) (eC true) (eCall e_row_in (eCons (eVar 2) (eC []))) [2]) (eC []))) [some (.str s), a, b] = some (.nx [some (.str s), some (.tup (readP s)), b]) := fun a b => by
    refine r_set (x := .tup (readP s)) (r_b (r_cons (lc_map (g := fun d => match d with | .str x => rowIn x | _ => .non) (r_iter (r_mt (r_var rfl) rfl (r_cons r_c r_nil) hs) rfl) (by simp; omega) fun d hd => ?_) r_nil) ?_)
    · obtain ⟨l, hm, rfl⟩ := List.mem_map.mp hd
      exact ⟨_, rfl, r_call (r_cons (r_var rfl) r_nil) (row_in_eq (Nat.le_trans (splitS_mem hm) hl))⟩
    · show some (D.tup _) = _
      rw [List.map_map]
      rfl
  by_cases hp : isProg (.tup (readP s)) = true
  · rw [if_pos hp]
    exact r_fn (r_seq (r_xifF (r_not (r_test (r_un (r_var rfl) rfl))) rfl rfl) (r_seq (e1 _ _) (r_seq (r_xifF (r_not (r_test (r_call (r_cons (r_var rfl) r_nil) (is_program_eq hok)))) (by rw [hp]; rfl) rfl) (r_ret (r_var rfl))))) rfl
  · rw [if_neg hp]
    exact r_fnX (r_seq (r_xifF (r_not (r_test (r_un (r_var rfl) rfl))) rfl rfl) (r_seq (e1 _ _) (r_seqX (r_xifT (r_not (r_test (r_call (r_cons (r_var rfl) r_nil) (is_program_eq hok)))) (by rw [Bool.eq_false_iff.mpr hp]; rfl) rfl)))) rfl
theorem row_text {line : String} (h : isInstr (rowIn line) = true) : lineD (rowIn line) = line := by
  unfold rowIn at h ⊢
  split at h
  · cases h
  · rename_i w ws e
    split at h
    · cases h
    · rename_i so hs
      split at h
      · rename_i hle
        rw [if_pos hle]
        show joinS " " (strP (.str w) :: ((so.toList.zip ws).map partIn).map strP) = line
        have : ((so.toList.zip ws).map partIn).map strP = ws := by
          obtain ⟨w', ps, so', e1, e2, e3, e4⟩ := instr_cases h
          cases e1
          rw [hs] at e2
          cases e2
          rw [List.map_map]
          have : (so.toList.zip ws).map (strP ∘ partIn) = (so.toList.zip ws).map Prod.snd := by
            apply List.map_congr_left
            rintro ⟨c, y⟩ hm
            have hp : isPart c (partIn (c, y)) = true := by
              apply e4 (c, partIn (c, y))
              obtain ⟨i, hi, e⟩ := List.mem_iff_getElem.mp hm
              rw [List.mem_iff_getElem]
              refine ⟨i, by simp at hi ⊢; omega, ?_⟩
              simp at e ⊢
              exact ⟨e.1, by rw [e.1, e.2]⟩
            show strP (partIn (c, y)) = y
            rcases part_cases hp with ⟨i, e, _, _, hc⟩ | ⟨s, e, hw, hc⟩
            · have hcw : ¬ c = 'w' := by rcases hc with rfl | rfl | rfl <;> decide
              rw [show partIn (c, y) = numIn y from if_neg hcw] at e ⊢
              rw [e]
              exact numIn_int e
            · by_cases hcw : c = 'w'
              · rw [show partIn (c, y) = .str y from if_pos hcw]; rfl
              · rw [show partIn (c, y) = numIn y from if_neg hcw] at e
                rcases numIn_cases y with q | ⟨i, q⟩ <;> rw [q] at e <;> cases e
          rw [this, List.map_snd_zip (by rw [slen]; omega)]
        rw [this]
        have j := joinS_split ' ' line
        rw [e] at j
        exact j
      · cases h
theorem read_text {s : String} (h : isProg (.tup (readP s)) = true) : progText (readP s) = s := by
  obtain ⟨ys, e, _, _, hx⟩ := isProg_cases h
  cases e
  unfold progText readP
  rw [List.map_map]
  have : (splitS s '\n').map (lineD ∘ rowIn) = splitS s '\n' := by
    rw [List.map_congr_left (g := id)]
    · simp
    · intro l hl
      exact row_text (hx _ (List.mem_map_of_mem hl))
  rw [this]
  exact joinS_split '\n' s
theorem row_back {d : D} (h : isInstr d = true) : rowIn (lineD d) = d := by
  obtain ⟨ps', e', _, _, htx⟩ := instr_txt h
  obtain ⟨w, ps, so, rfl, hs, hl, hp⟩ := instr_cases h
  cases e'
  obtain ⟨_, _, hch⟩ := forms_at hs
  have sp : splitS (lineOf (.str w :: ps)) ' ' = w :: ps.map strP := by
    refine splitS_join ' ' ((D.str w :: ps).map strP) (by simp) fun x hx hc => ?_
    obtain ⟨p, hp', rfl⟩ := List.mem_map.mp hx
    exact ((htx p hp').sg ' ' hc).1 rfl
  show rowIn (lineOf (.str w :: ps)) = _
  unfold rowIn
  rw [sp]
  simp only [hs, List.length_map, if_pos hl]
  congr 2
  rw [List.zip_map_right, List.map_map]
  have : (so.toList.zip ps).map (partIn ∘ Prod.map id strP) = (so.toList.zip ps).map Prod.snd := by
    apply List.map_congr_left
    rintro ⟨c, p⟩ hm
    show partIn (c, strP p) = p
    rcases part_cases (hp _ hm) with ⟨i, e, a, b, hc⟩ | ⟨s, e, hw, h1, h2, h3⟩
    · have e : p = .int i := e
      have hcw : ¬ c = 'w' := by
        have hc : c = 'r' ∨ c = 'n' ∨ c = 'g' := hc
        rcases hc with rfl | rfl | rfl <;> decide
      rw [e, show partIn (c, strP (.int i)) = numIn (toString i) from if_neg hcw]
      exact numIn_str ⟨a, b⟩
    · have e : p = .str s := e
      have h1 : c ≠ 'r' := h1
      have h2 : c ≠ 'n' := h2
      have h3 : c ≠ 'g' := h3
      have hcw : c = 'w' := by
        rcases hch c (List.of_mem_zip hm).1 with q | q | q | q
        · exact absurd q h1
        · exact absurd q h2
        · exact absurd q h3
        · exact q
      rw [e]
      exact if_pos hcw
  rw [this, List.map_snd_zip (by rw [slen]; omega)]
theorem read_back {xs : List D} (h : isProg (.tup xs) = true) : readP (progText xs) = xs := by
  obtain ⟨ys, e, h1, _, hx⟩ := isProg_cases h
  cases e
  unfold readP progText
  rw [show ("\n" : String) = String.singleton '\n' from rfl, splitS_join '\n' (xs.map lineD)]
  · rw [List.map_map, List.map_congr_left (g := id)]
    · simp
    · intro d hd
      exact row_back (hx d hd)
  · intro z
    have : xs = [] := by simpa using z
    rw [this] at h1
    simp at h1
  · intro l hl hc
    obtain ⟨d, hd, rfl⟩ := List.mem_map.mp hl
    obtain ⟨ps, rfl, _, _, hp⟩ := instr_txt (hx d hd)
    rcases joinS_mem (sep := " ") (xs := ps.map strP) hc with q | ⟨x, hx', q⟩
    · revert q; decide
    · obtain ⟨p, hp', rfl⟩ := List.mem_map.mp hx'
      exact ((hp p hp').sg '\n' q).2 rfl
end PL

namespace PL
open DL PySem
/-! ### rights' texts -/
def sgn (c : Char) (a : List D) : List String := a.map fun d => String.singleton c ++ strP d
def rWords (i : Int) (a b c d : List D) : List String := ((([toString i] ++ sgn '?' a) ++ sgn '!' b) ++ sgn '<' c) ++ sgn '>' d
def rTxt : D → String
  | .tup [.int i, .tup a, .tup b, .tup c, .tup d] => joinS " " (rWords i a b c d)
  | _ => ""
theorem isRow_cases {d : D} (h : isRow d = true) : ∃ xs, d = .tup xs ∧ xs.length ≤ 6 ∧ (∀ x ∈ xs, isWord x = true) ∧ ascD xs = true := by
  cases d with
  | tup xs =>
    unfold isRow at h
    rw [Bool.and_eq_true, Bool.and_eq_true, decide_eq_true_eq] at h
    exact ⟨xs, rfl, h.1.1, List.all_eq_true.mp h.1.2, h.2⟩
  | _ => cases h
theorem isRights_cases {d : D} (h : isRights d = true) : ∃ i a b c e, d = .tup [.int i, .tup a, .tup b, .tup c, .tup e] ∧ 0 ≤ i ∧ i ≤ 60 ∧ isRow (.tup a) = true ∧ isRow (.tup b) = true ∧ isRow (.tup c) = true ∧ isRow (.tup e) = true := by
  unfold isRights at h
  split at h
  · rename_i r rows
    rw [Bool.and_eq_true, Bool.and_eq_true, decide_eq_true_eq] at h
    obtain ⟨i, rfl, h0, h60⟩ := inR_int h.1.2
    have hr := List.all_eq_true.mp h.2
    have hl := h.1.1
    match rows, hl, hr with
    | [a, b, c, e], _, hr =>
      obtain ⟨xa, rfl, _⟩ := isRow_cases (hr a (by simp))
      obtain ⟨xb, rfl, _⟩ := isRow_cases (hr b (by simp))
      obtain ⟨xc, rfl, _⟩ := isRow_cases (hr c (by simp))
      obtain ⟨xe, rfl, _⟩ := isRow_cases (hr e (by simp))
      exact ⟨i, xa, xb, xc, xe, rfl, h0, h60, hr _ (by simp), hr _ (by simp), hr _ (by simp), hr _ (by simp)⟩
  · cases h
theorem row_okD {d : D} (h : isRow d = true) (n : Nat) : okD (n + 1) d = true := by
  obtain ⟨xs, rfl, _, hw, _⟩ := isRow_cases h
  refine List.all_eq_true.mpr fun x hx => ?_
  obtain ⟨s, rfl, hs⟩ := isWord_eq (hw x hx)
  exact txt_okD (wrd_txt hs) n
theorem rights_okD {d : D} (h : isRights d = true) (n : Nat) : okD (n + 2) d = true := by
  obtain ⟨i, a, b, c, e, rfl, _, _, ha, hb, hc, he⟩ := isRights_cases h
  refine List.all_eq_true.mpr fun x hx => ?_
  simp only [List.mem_cons, List.not_mem_nil, or_false] at hx
  rcases hx with rfl | rfl | rfl | rfl | rfl
  · rfl
  · exact row_okD ha n
  · exact row_okD hb n
  · exact row_okD hc n
  · exact row_okD he n
theorem need_rights_ok {d : D} (h : isRights d = true) : e_need_rights [d] = some (.ok .non) := by
  rw [need_rights_eq (rights_okD h 0), if_pos h]
theorem sgn_len {c : Char} {a : List D} (h : isRow (.tup a) = true) : (sgn c a).length ≤ 6 ∧ ∀ x ∈ sgn c a, x.length ≤ 9 := by
  obtain ⟨xs, e, h6, hw, _⟩ := isRow_cases h
  cases e
  refine ⟨by simp [sgn]; exact h6, fun x hx => ?_⟩
  obtain ⟨d, hd, rfl⟩ := List.mem_map.mp hx
  obtain ⟨s, rfl, hs⟩ := isWord_eq (hw d hd)
  have := (word_txt hs).1
  simp [strP, String.length_append]
  omega
theorem rw_len {i : Int} {a b c d : List D} (hi : 0 ≤ i ∧ i ≤ 60) (ha : isRow (.tup a) = true) (hb : isRow (.tup b) = true) (hc : isRow (.tup c) = true) (hd : isRow (.tup d) = true) : ((rWords i a b c d).map String.length).sum + (rWords i a b c d).length * 1 ≤ 250 := by
  have l1 : (rWords i a b c d).length ≤ 25 := by
    have := (sgn_len (c := '?') ha).1
    have := (sgn_len (c := '!') hb).1
    have := (sgn_len (c := '<') hc).1
    have := (sgn_len (c := '>') hd).1
    simp only [rWords, List.length_append, List.length_singleton]
    omega
  have := sum_le String.length 9 (rWords i a b c d) fun x hx => by
    simp only [rWords, List.mem_append, List.mem_singleton] at hx
    rcases hx with (((rfl | hx) | hx) | hx) | hx
    · have := (numStr (i := i) (by omega)).1
      omega
    · exact (sgn_len ha).2 x hx
    · exact (sgn_len hb).2 x hx
    · exact (sgn_len hc).2 x hx
    · exact (sgn_len hd).2 x hx
  omega
theorem rTxt_len {d : D} (h : isRights d = true) : (rTxt d).length ≤ 250 := by
  obtain ⟨i, a, b, c, e, rfl, h0, h60, ha, hb, hc, he⟩ := isRights_cases h
  have := joinS_len " " (rWords i a b c e)
  rw [show (" " : String).length = 1 from rfl] at this
  exact Nat.le_trans this (rw_len ⟨h0, h60⟩ ha hb hc he)
/-- a row's words with their sign behind those there are -/
theorem row_step {env : DSt} {w s r x : Nat} {c : Char} {ws : List String} {a : List D} (ha : isRow (.tup a) = true) (hn : ws.length ≤ 100) (hw : env[w]? = some (some (.lst (ws.map .str)))) (hr : env[r]? = some (some (.tup a)))
    (hs : ∀ v, ((wipeD env [x]).set x (some v))[s]? = some (some (.str (String.singleton c)))) (hx : ∀ v, ((wipeD env [x]).set x (some v))[x]? = some (some v)) :
    xSet w (eOp pyAdd (eVar w) (eLc (eIter (eVar r)) (.n x) (eC true) (eOp pyAdd (eVar s) (eVar x)) [x])) env = some (.nx (env.set w (some (.lst ((ws ++ sgn c a).map .str))))) := by
  obtain ⟨xs, e, h6, hwd, _⟩ := isRow_cases ha
  cases e
  refine r_set (r_op (r_var hw) (lc_map (g := fun d => .str (String.singleton c ++ strP d)) (r_iter (r_var hr) rfl) (by omega) fun d hd => ⟨_, rfl, ?_⟩) ?_)
  · obtain ⟨t, rfl, ht⟩ := isWord_eq (hwd d hd)
    refine r_op (r_var (hs _)) (r_var (hx _)) ?_
    show (if _ then _ else none) = _
    have := (word_txt ht).1
    rw [if_pos (by rw [show (String.singleton c).length = 1 by simp]; omega)]
    rfl
  · show (if _ then _ else none) = _
    rw [if_pos (by simp; omega)]
    simp [sgn, Function.comp_def]
theorem r_loop {tg : Tg} {e : EvX} {d : D} {ds : List D} {env env1 env2 : DSt} {r : Option SR} (h1 : eTg tg d env = some env1) (h2 : e env1 = some (.nx env2)) (h3 : xLoop tg e ds env2 = r) : xLoop tg e (d :: ds) env = r := by
  show (match eTg tg d env with | some env1 => _ | none => none) = _
  rw [h1]
  simp only [h2]
  exact h3
theorem zip4 (a b c d : D) : zipD (signsD "?!<>") [a, b, c, d] = [.tup [.str (String.singleton '?'), a], .tup [.str (String.singleton '!'), b], .tup [.str (String.singleton '<'), c], .tup [.str (String.singleton '>'), d]] := by
  rw [show signsD "?!<>" = [.str (String.singleton '?'), .str (String.singleton '!'), .str (String.singleton '<'), .str (String.singleton '>')] by kernel_rfl]
  rfl
theorem rights_text_eq {d : D} (h : isRights d = true) : e_rights_text [d] = some (.ok (.str (rTxt d))) := by
  have hn := need_rights_ok h
  obtain ⟨i, a, b, c, e, rfl, h0, h60, ha, hb, hc, he⟩ := isRights_cases h
  have l1 := (sgn_len (c := '?') ha).1
  have l2 := (sgn_len (c := '!') hb).1
  have l3 := (sgn_len (c := '<') hc).1
  have l4 := (sgn_len (c := '>') he).1
  refine r_fn (r_seq (r_drop (r_call (r_cons (r_var rfl) r_nil) hn)) (r_seq (r_set (r_lst (r_cons (r_b (r_cons (r_op (r_var rfl) r_c (item0 _ _)) r_nil) (str_small (by omega))) r_nil) (by simp))) (r_seq (env' := [some (.tup [.int i, .tup a, .tup b, .tup c, .tup e]), some (.lst ((rWords i a b c e).map .str)), some (.str (String.singleton '>')), some (.tup e), none]) ?_ (r_ret (r_mt (G' := G0) r_c rfl (r_cons (r_var rfl) r_nil) ?_))))) rfl
  · unfold xFor
    rw [r_zip (r_cons r_c (r_cons (r_slice (r_var rfl) (r_part r_c) r_c (cut1 _ _)) r_nil)) rfl rfl, zip4]
    show xLoop _ _ _ _ = _
    have s1 := row_step (env := [some (.tup [.int i, .tup a, .tup b, .tup c, .tup e]), some (.lst [.str (toString i)]), some (.str (String.singleton '?')), some (.tup a), none]) (w := 1) (s := 2) (r := 3) (x := 4) (ws := [toString i]) ha (by simp) rfl rfl (fun _ => rfl) (fun _ => rfl)
    have s2 := row_step (env := [some (.tup [.int i, .tup a, .tup b, .tup c, .tup e]), some (.lst (([toString i] ++ sgn '?' a).map .str)), some (.str (String.singleton '!')), some (.tup b), none]) (w := 1) (s := 2) (r := 3) (x := 4) hb (by simp; omega) rfl rfl (fun _ => rfl) (fun _ => rfl)
    have s3 := row_step (env := [some (.tup [.int i, .tup a, .tup b, .tup c, .tup e]), some (.lst ((([toString i] ++ sgn '?' a) ++ sgn '!' b).map .str)), some (.str (String.singleton '<')), some (.tup c), none]) (w := 1) (s := 2) (r := 3) (x := 4) hc (by simp; omega) rfl rfl (fun _ => rfl) (fun _ => rfl)
    have s4 := row_step (env := [some (.tup [.int i, .tup a, .tup b, .tup c, .tup e]), some (.lst (((([toString i] ++ sgn '?' a) ++ sgn '!' b) ++ sgn '<' c).map .str)), some (.str (String.singleton '>')), some (.tup e), none]) (w := 1) (s := 2) (r := 3) (x := 4) he (by simp; omega) rfl rfl (fun _ => rfl) (fun _ => rfl)
    refine r_loop rfl s1 (r_loop rfl s2 (r_loop rfl s3 (r_loop rfl s4 ?_)))
    rfl
  · exact join_eq (a := " ") (zs := rWords i a b c e) (Nat.le_trans (rw_len ⟨h0, h60⟩ ha hb hc he) (by decide))
/-! ### read_rights -/
def pick (c : Char) (ws : List String) : List D := (ws.filter fun w => decide (w.toList.take 1 = [c])).map fun w => .str (String.ofList (w.toList.drop 1))
def readR (s : String) : D := match splitS s ' ' with
  | [] => .non
  | w :: ws => .tup [numIn w, .tup (pick '?' ws), .tup (pick '!' ws), .tup (pick '<' ws), .tup (pick '>' ws)]
theorem lcL_filt {tg : Tg} {et : Ev Bool} {ee : Ev D} {env : DSt} {p : D → Bool} {g : D → D} : ∀ {ds : List D}, (∀ d ∈ ds, ∃ env', eTg tg d env = some env' ∧ et env' = some (.ok (p d)) ∧ ee env' = some (.ok (g d))) → eLcL tg et ee env ds = some ((ds.filter p).map g)
  | [], _ => rfl
  | d :: ds, h => by
    obtain ⟨env', h1, h2, h3⟩ := h d List.mem_cons_self
    have ih := lcL_filt (ds := ds) fun x hx => h x (List.mem_cons_of_mem _ hx)
    unfold eLcL
    rw [h1]
    simp only [h2, ih]
    cases hp : p d with
    | true => simp only [h3, List.filter_cons, hp, if_true, List.map_cons]
    | false => simp only [List.filter_cons, hp, if_neg Bool.false_ne_true]
theorem lc_filt {ei : Ev (List D)} {tg : Tg} {et : Ev Bool} {ee : Ev D} {env : DSt} {vs : List Nat} {p : D → Bool} {g : D → D} {ds : List D} (hi : ei env = some (.ok ds)) (hl : ds.length ≤ 16000000) (h : ∀ d ∈ ds, ∃ env', eTg tg d (wipeD env vs) = some env' ∧ et env' = some (.ok (p d)) ∧ ee env' = some (.ok (g d))) : eLc ei tg et ee vs env = some (.ok (.lst ((ds.filter p).map g))) := by
  unfold eLc
  rw [hi]
  simp only [bindE, if_pos hl, lcL_filt h, Option.map_some, okE]
theorem slice_hd {w : String} (h : w.length ≤ 16000000) : pySlice G0 (.str w) none (some 1) = some (.str (String.ofList (w.toList.take 1))) := by
  show (if w.length ≤ 16000000 then _ else none) = _
  rw [if_pos h, cutC_hd]
theorem slice_tl {w : String} (h : w.length ≤ 16000000) : pySlice G0 (.str w) (some 1) none = some (.str (String.ofList (w.toList.drop 1))) := by
  show (if w.length ≤ 16000000 then _ else none) = _
  rw [if_pos h, cutC_tl]
theorem pick_eq {env : DSt} {ws : List String} {c : Char} (hl : ws.length ≤ 2000000) (hw : ∀ w ∈ ws, w.length ≤ 16000000) (h2 : env[2]? = some (some (.lst (ws.map .str))))
    (hs : ∀ v, ((wipeD env [4]).set 4 (some v))[5]? = some (some (.str (String.singleton c)))) (hx : ∀ v, ((wipeD env [4]).set 4 (some v))[4]? = some (some v)) :
    eB pyTup (eCons (eLc (eIter (eVar 2)) (.n 4) (eTest (eOp pyEq (eSlice (eVar 4) (eC none) (ePart (eC (.int 1)))) (eVar 5))) (eSlice (eVar 4) (ePart (eC (.int 1))) (eC none)) [4]) (eC [])) env = some (.ok (.tup (pick c ws))) := by
  refine r_b (r_cons (lc_filt (p := fun d => match d with | .str w => decide (w.toList.take 1 = [c]) | _ => false) (g := fun d => match d with | .str w => .str (String.ofList (w.toList.drop 1)) | _ => .non) (r_iter (r_var h2) rfl) (by simp; omega) fun d hd => ?_) r_nil) ?_
  · obtain ⟨w, hm, rfl⟩ := List.mem_map.mp hd
    have hwl := hw w hm
    refine ⟨_, rfl, r_test (r_op (r_slice (r_var (hx _)) r_c (r_part r_c) (slice_hd hwl)) (r_var (hs _)) ?_), r_slice (r_var (hx _)) (r_part r_c) r_c (slice_tl hwl)⟩
    rw [eq_str, ofList_eq]
    show _ = some (D.bl (decide (w.toList.take 1 = [c])))
    rw [show (String.singleton c).toList = [c] by simp]
  · show some (D.tup _) = _
    congr 2
    unfold pick
    rw [List.filter_map, List.map_map]
    rfl
theorem pick_ok {c : Char} {ws : List String} (hw : ∀ w ∈ ws, w.length ≤ 16000000) (n : Nat) : okD (n + 1) (.tup (pick c ws)) = true := by
  refine List.all_eq_true.mpr fun x hx => ?_
  obtain ⟨w, hm, rfl⟩ := List.mem_map.mp hx
  have h := hw w (List.mem_filter.mp hm).1
  have h2 : (String.ofList (w.toList.drop 1)).length ≤ 16000000 := by
    rw [← slen] at h ⊢
    rw [String.toList_ofList, List.length_drop]
    omega
  cases n <;> exact decide_eq_true h2
theorem readR_okD {s : String} (hl : s.length ≤ 1000000) : okD 2 (readR s) = true := by
  obtain ⟨w, ws, e⟩ := splitS_ne ' ' s
  have hw : ∀ x ∈ ws, x.length ≤ 16000000 := fun x hx => Nat.le_trans (splitS_mem (c := ' ') (s := s) (by rw [e]; exact List.mem_cons_of_mem _ hx)) (by omega)
  unfold readR
  rw [e]
  refine List.all_eq_true.mpr fun x hx => ?_
  simp only [List.mem_cons, List.not_mem_nil, or_false] at hx
  rcases hx with rfl | rfl | rfl | rfl | rfl
  · rcases numIn_cases w with q | ⟨i, q⟩ <;> rw [q] <;> rfl
  · exact pick_ok hw 0
  · exact pick_ok hw 0
  · exact pick_ok hw 0
  · exact pick_ok hw 0
theorem signs4 : signsD "?!<>" = [.str (String.singleton '?'), .str (String.singleton '!'), .str (String.singleton '<'), .str (String.singleton '>')] := by kernel_rfl
theorem r_star {i j : Nat} {ee : Ev D} {env : DSt} {x : D} {xs : List D} (h : ee env = some (.ok (.lst (x :: xs)))) : xStar i j ee env = some (.nx ((env.set i (some x)).set j (some (.lst xs)))) := by
  unfold xStar; rw [h]; rfl
theorem read_rights_eq {s : String} (hl : s.length ≤ 1000000) : e_read_rights [.str s] = some (if isRights (readR s) = true ∧ rTxt (readR s) = s then .ok (readR s) else .error ("BadText", none)) := by
  obtain ⟨w, ws, e⟩ := splitS_ne ' ' s
  have hok := readR_okD hl
  have hs : mSplit G0 (.str s) [.str " "] = some (.lst (.str w :: ws.map .str), G0) := by
    rw [split_eq (c := ' ') rfl (by decide) hl, e]; rfl
  have hwl : ∀ x ∈ w :: ws, x.length ≤ 16000000 := fun x hx => by
    rw [← e] at hx
    exact Nat.le_trans (splitS_mem hx) (by omega)
  have hwn : ws.length ≤ 2000000 := by
    have := splitS_len ' ' s
    rw [e] at this
    simp at this
    omega
  have er : readR s = .tup [numIn w, .tup (pick '?' ws), .tup (pick '!' ws), .tup (pick '<' ws), .tup (pick '>' ws)] := by unfold readR; rw [e]
  have e0 : ∀ a b c d f g : Option D, xStar 1 2 (eMt "str" mSplit (eVar 0) (eCons (eC (.str " ")) (eC []))) [some (.str s), a, b, c, d, f, g] = some (.nx [some (.str s), some (.str w), some (.lst (ws.map .str)), c, d, f, g]) := fun a b c d f g => r_star (r_mt (r_var rfl) rfl (r_cons r_c r_nil) hs)
  have e3 : ∀ c d f g : Option D, xSet 3 (eLc (eIter (eC (.str "?!<>"))) (.n 5) (eC true) (eB pyTup (eCons (eLc (eIter (eVar 2)) (.n 4) (eTest (eOp pyEq (eSlice (eVar 4) (eC none) (ePart (eC (.int 1)))) (eVar 5))) (eSlice (eVar 4) (ePart (eC (.int 1))) (eC none)) [4]) (eC []))) [5]) [some (.str s), some (.str w), some (.lst (ws.map .str)), c, d, f, g] =
      some (.nx [some (.str s), some (.str w), some (.lst (ws.map .str)), some (.lst [.tup (pick '?' ws), .tup (pick '!' ws), .tup (pick '<' ws), .tup (pick '>' ws)]), d, f, g]) := fun c d f g => by
    refine r_set (x := .lst [.tup (pick '?' ws), .tup (pick '!' ws), .tup (pick '<' ws), .tup (pick '>' ws)]) (ok_d (lc_map (g := fun d => match d with | .str x => .tup (pick ((signOf x).getD 'a') ws) | _ => .non) (r_iter r_c rfl) (by decide +kernel) fun d hd => ?_) ?_)
    · rw [signs4] at hd
      simp only [List.mem_cons, List.not_mem_nil, or_false] at hd
      rcases hd with rfl | rfl | rfl | rfl <;> exact ⟨_, rfl, pick_eq hwn (fun x hx => hwl x (List.mem_cons_of_mem _ hx)) rfl (fun _ => rfl) (fun _ => rfl)⟩
    · rw [signs4]
      rfl
  have e6 : ∀ d f g : Option D, xSet 6 (eOp pyAdd (eTup (eCons (eCall e_number_in (eCons (eVar 1) (eC []))) (eC []))) (eB pyTup (eCons (eVar 3) (eC [])))) [some (.str s), some (.str w), some (.lst (ws.map .str)), some (.lst [.tup (pick '?' ws), .tup (pick '!' ws), .tup (pick '<' ws), .tup (pick '>' ws)]), d, f, g] =
      some (.nx [some (.str s), some (.str w), some (.lst (ws.map .str)), some (.lst [.tup (pick '?' ws), .tup (pick '!' ws), .tup (pick '<' ws), .tup (pick '>' ws)]), d, f, some (readR s)]) := fun d f g => by
    rw [er]
    exact r_set (r_op (r_tup (r_cons (r_call (r_cons (r_var rfl) r_nil) (number_in_eq (hwl w (by simp)))) r_nil) (by simp)) (r_b (r_cons (r_var rfl) r_nil) rfl) rfl)
  cases hi : isRights (readR s) with
  | false =>
    rw [if_neg (fun z => Bool.false_ne_true z.1)]
    exact r_fnX (r_seq (r_xifF (r_not (r_test (r_un (r_var rfl) rfl))) rfl rfl) (r_seq (e0 _ _ _ _ _ _) (r_seq (e3 _ _ _ _) (r_seq (e6 _ _ _) (r_seqX (r_xifT (r_or (c := false) (r_not (r_test (r_call (r_cons (r_var rfl) r_nil) (is_rights_eq hok)))) fun z => by rw [hi] at z; cases z) (by rw [hi]; rfl) rfl)))))) rfl
  | true =>
    have cond : ∀ a b c d f, eOr (eNot (eTest (eCall e_is_rights (eCons (eVar 6) (eC []))))) (eTest (eOp pyNe (eCall e_rights_text (eCons (eVar 6) (eC []))) (eVar 0))) [some (.str s), a, b, c, d, f, some (readR s)] = some (.ok (!true || !decide (rTxt (readR s) = s))) := fun a b c d f =>
      r_or (r_not (r_test (ok_bl (r_call (r_cons (r_var rfl) r_nil) (is_rights_eq hok)) hi))) fun _ => r_test (r_op (r_call (r_cons (r_var rfl) r_nil) (rights_text_eq hi)) (r_var rfl) rfl)
    by_cases ht : rTxt (readR s) = s
    · rw [if_pos ⟨rfl, ht⟩]
      exact r_fn (r_seq (r_xifF (r_not (r_test (r_un (r_var rfl) rfl))) rfl rfl) (r_seq (e0 _ _ _ _ _ _) (r_seq (e3 _ _ _ _) (r_seq (e6 _ _ _) (r_seq (r_xifF (cond _ _ _ _ _) (by rw [decide_eq_true ht]; rfl) rfl) (r_ret (r_var rfl))))))) rfl
    · rw [if_neg (fun z => ht z.2)]
      exact r_fnX (r_seq (r_xifF (r_not (r_test (r_un (r_var rfl) rfl))) rfl rfl) (r_seq (e0 _ _ _ _ _ _) (r_seq (e3 _ _ _ _) (r_seq (e6 _ _ _) (r_seqX (r_xifT (cond _ _ _ _ _) (by rw [decide_eq_false ht]; rfl) rfl)))))) rfl
theorem sgn_hd {c c' : Char} {a : List D} : (sgn c a).filter (fun w => decide (w.toList.take 1 = [c'])) = if c = c' then sgn c a else [] := by
  unfold sgn
  by_cases h : c = c'
  · rw [if_pos h, List.filter_eq_self]
    intro x hx
    obtain ⟨d, _, rfl⟩ := List.mem_map.mp hx
    simp [h]
  · rw [if_neg h, List.filter_eq_nil_iff]
    intro x hx
    obtain ⟨d, _, rfl⟩ := List.mem_map.mp hx
    simp [h]
theorem sgn_tl {c : Char} {a : List D} (h : isRow (.tup a) = true) : ((sgn c a).map fun w => D.str (String.ofList (w.toList.drop 1))) = a := by
  obtain ⟨xs, e, _, hw, _⟩ := isRow_cases h
  cases e
  unfold sgn
  rw [List.map_map, List.map_congr_left (g := id)]
  · simp
  · intro d hd
    obtain ⟨s, rfl, _⟩ := isWord_eq (hw d hd)
    simp [strP]
theorem readR_back {d : D} (h : isRights d = true) : readR (rTxt d) = d := by
  obtain ⟨i, a, b, c, e, rfl, h0, h60, ha, hb, hc, he⟩ := isRights_cases h
  have sg : ∀ {c : Char} {a : List D}, isRow (.tup a) = true → c ≠ ' ' → ∀ x ∈ sgn c a, ' ' ∉ x.toList := fun {c a} h hc x hx hm => by
    obtain ⟨xs, e, _, hw, _⟩ := isRow_cases h
    cases e
    obtain ⟨d, hd, rfl⟩ := List.mem_map.mp hx
    obtain ⟨s, rfl, hs⟩ := isWord_eq (hw d hd)
    rw [String.toList_append, List.mem_append] at hm
    rcases hm with hm | hm
    · simp at hm
      exact hc hm.symm
    · exact (small_sign ((word_txt hs).2.2 _ hm)).1 rfl
  have sp : splitS (rTxt (.tup [.int i, .tup a, .tup b, .tup c, .tup e])) ' ' = toString i :: (((sgn '?' a ++ sgn '!' b) ++ sgn '<' c) ++ sgn '>' e) := by
    show splitS (joinS (String.singleton ' ') (rWords i a b c e)) ' ' = _
    rw [splitS_join ' ' _ (by simp [rWords])]
    · simp [rWords]
    · intro x hx
      simp only [rWords, List.mem_append, List.mem_singleton] at hx
      rcases hx with (((rfl | hx) | hx) | hx) | hx
      · exact fun hm => ((numStr (i := i) (by omega)).2 _ hm).1 rfl
      · exact sg ha (by decide) x hx
      · exact sg hb (by decide) x hx
      · exact sg hc (by decide) x hx
      · exact sg he (by decide) x hx
  unfold readR
  rw [sp]
  simp only [pick, List.filter_append, sgn_hd, numIn_str (i := i) (by omega)]
  have ta := @sgn_tl '?' a ha
  have tb := @sgn_tl '!' b hb
  have tc := @sgn_tl '<' c hc
  have te := @sgn_tl '>' e he
  simp only [List.drop_one] at ta tb tc te
  simp [ta, tb, tc, te]
end PL

namespace PL
open DL PySem
theorem mapO_lay {f : D → Option PyData} : ∀ {xs : List D}, (∀ x ∈ xs, ∃ y, f x = some y ∧ y.canLay0 = true) → ∃ ys, mapO f xs = some ys ∧ PyData.canLayAll0 ys = true
  | [], _ => ⟨[], rfl, by simp [PyData.canLayAll0]⟩
  | x :: xs, h => by
    obtain ⟨y, hy, ly⟩ := h x List.mem_cons_self
    obtain ⟨ys, hys, ll⟩ := mapO_lay fun z hz => h z (List.mem_cons_of_mem _ hz)
    refine ⟨y :: ys, ?_, by simp [PyData.canLayAll0, ly, ll]⟩
    unfold mapO
    rw [hy, hys]
theorem okD_lay : ∀ (n : Nat) (d : D), okD n d = true → ∃ y, toPy G0 n d = some y ∧ y.canLay0 = true
  | _, .non, _ => ⟨_, by unfold toPy; rfl, by simp [PyData.canLay0]⟩
  | _, .bl _, _ => ⟨_, by unfold toPy; rfl, by simp [PyData.canLay0]⟩
  | _, .int _, _ => ⟨_, by unfold toPy; rfl, by simp [PyData.canLay0]⟩
  | _, .str _, _ => ⟨_, by unfold toPy; rfl, by simp [PyData.canLay0, strOk_S]⟩
  | 0, .tup _, h => by cases h
  | 0, .lst _, h => by cases h
  | n + 1, .tup xs, h => by
    obtain ⟨ys, e, l⟩ := mapO_lay fun x hx => okD_lay n x (okD_tup h x hx)
    exact ⟨_, by unfold toPy; rw [e]; rfl, by simpa [PyData.canLay0] using l⟩
  | n + 1, .lst xs, h => by
    obtain ⟨ys, e, l⟩ := mapO_lay fun x hx => okD_lay n x (okD_lst h x hx)
    exact ⟨_, by unfold toPy; rw [e]; rfl, by simpa [PyData.canLay0] using l⟩
  | 0, .dct _, h => by cases h
  | _ + 1, .dct _, h => by cases h
  | 0, .ref _, h => by cases h
  | _ + 1, .ref _, h => by cases h
  | 0, .scr _, h => by cases h
  | _ + 1, .scr _, h => by cases h
theorem eqB_refl {d : D} (h : okD 40 d = true) : pyEqB G0 d d = some true := by
  obtain ⟨y, e, l⟩ := okD_lay 40 d h
  have r := PySem.SeqAt.eqv_refl y l
  cases d with
  | int i => simp [pyEqB]
  | str s => simp [pyEqB]
  | _ => simp only [pyEqB, e, r]
theorem eqB_some {d e : D} (h : okD 40 d = true) (h' : okD 40 e = true) : ∃ b, pyEqB G0 d e = some b := by
  obtain ⟨y, e1, _⟩ := okD_lay 40 d h
  obtain ⟨z, e2, _⟩ := okD_lay 40 e h'
  unfold pyEqB
  split
  · exact ⟨_, rfl⟩
  · exact ⟨_, rfl⟩
  · rw [e1, e2]; exact ⟨_, rfl⟩
theorem ne_refl {G : DG} {d : D} (h : okD 40 d = true) : pyNe G d d = some (.bl false) := by
  refine m_ne _ _ _ _ ?_
  unfold pyNe
  rw [eqB_refl h]
  rfl
theorem ne_some {G : DG} {d e : D} (h : okD 40 d = true) (h' : okD 40 e = true) : ∃ b, pyNe G d e = some (.bl b) := by
  obtain ⟨b, e⟩ := eqB_some h h'
  exact ⟨!b, m_ne _ _ _ _ (by unfold pyNe; rw [e]; rfl)⟩
end PL

namespace PL
open DL PySem
/-! ### equality of lists, told or tracked -/
theorem toPy_ref {G : DG} {q : Addr} {xs : List D} (h : G q = some (.lst xs)) (n : Nat) : toPy G (n + 1) (.ref q) = toPy G (n + 1) (.lst xs) := by
  show (match lstO (G q) with | some xs => (mapO (toPy G n) xs).map PyData.list | none => none) = (mapO (toPy G n) xs).map PyData.list
  rw [h]
  rfl
theorem ne_ref {G : DG} {q : Addr} {xs ys : List D} (h : G q = some (.lst xs)) : pyNe G (.ref q) (.lst ys) = pyNe G (.lst xs) (.lst ys) := by
  have e : toPy G 40 (.ref q) = toPy G 40 (.lst xs) := toPy_ref h 39
  simp only [pyNe, pyEqB, e]
theorem eq_ref {G : DG} {q : Addr} {xs ys : List D} (h : G q = some (.lst xs)) : pyEq G (.ref q) (.lst ys) = pyEq G (.lst xs) (.lst ys) := by
  have e : toPy G 40 (.ref q) = toPy G 40 (.lst xs) := toPy_ref h 39
  simp only [pyEq, pyEqB, e]
theorem eq_nilL {xs : List D} (h : okD 40 (.lst xs) = true) : pyEq G0 (.lst xs) (.lst []) = some (.bl xs.isEmpty) := by
  obtain ⟨ys, e, hl⟩ := mapO_some fun x hx => okD_py 39 x (okD_lst h x hx)
  have e1 : toPy G0 40 (.lst xs) = some (.list ys) := by unfold toPy; rw [e]; rfl
  have e2 : toPy G0 40 (.lst []) = some (.list []) := rfl
  unfold pyEq pyEqB
  simp only [e1, e2, Option.map_some]
  cases xs with
  | nil => cases ys with
    | nil => rfl
    | cons y ys => simp at hl
  | cons x xs => cases ys with
    | nil => simp at hl
    | cons y ys => simp [PyData.eqv, PyData.eqvAll]
theorem ne_nilL {xs : List D} (h : okD 40 (.lst xs) = true) : pyNe G0 (.lst xs) (.lst []) = some (.bl (!xs.isEmpty)) := by
  have := eq_nilL h
  unfold pyEq at this
  unfold pyNe
  cases e : pyEqB G0 (.lst xs) (.lst []) with
  | none => rw [e] at this; cases this
  | some b =>
    rw [e] at this
    cases this
    rfl
/-- flat things -/
def flatP : D → Bool
  | .non => true
  | .bl _ => true
  | .int _ => true
  | .str s => decide (s.length ≤ 1000)
  | _ => false
theorem flat_okD {d : D} (h : flatP d = true) (n : Nat) : okD n d = true := by
  cases d with
  | str s =>
    have : s.length ≤ 16000000 := Nat.le_trans (of_decide_eq_true h) (by decide)
    cases n <;> exact decide_eq_true this
  | non => cases n <;> rfl
  | bl b => cases n <;> rfl
  | int b => cases n <;> rfl
  | _ => cases h
theorem txt_flat {d : D} (h : TxtOk d) : flatP d = true := by
  have := h.str
  cases d with
  | int i => rfl
  | str s => exact decide_eq_true (Nat.le_trans h.len (by decide))
  | _ => cases this
theorem small_iff (c : Char) : small.contains c = (decide (97 ≤ c.toNat) && decide (c.toNat ≤ 122)) := by
  cases h : small.contains c with
  | true =>
    have : ∀ c ∈ small, (decide (97 ≤ c.toNat) && decide (c.toNat ≤ 122)) = true := by decide
    exact (this c (by simpa using h)).symm
  | false =>
    symm
    rw [Bool.eq_false_iff]
    intro z
    rw [Bool.and_eq_true, decide_eq_true_eq, decide_eq_true_eq] at z
    have k : ∀ n : Nat, n < 26 → small.contains (Char.ofNat (97 + n)) = true := by decide
    have e : c = Char.ofNat (97 + (c.toNat - 97)) := by
      rw [show 97 + (c.toNat - 97) = c.toNat by omega, Char.ofNat_toNat]
    rw [e, k _ (by omega)] at h
    cases h
theorem strLt_one (c d : Char) : strLt (String.singleton c) (String.singleton d) = decide (c.toNat < d.toNat) := by
  unfold strLt
  simp [List.cons_lt_cons_iff]
theorem ifT {b : Bool} {A B : Prop} (h : b = true) (a : A) : if b = true then A else B := by rw [if_pos h]; exact a
theorem ifF {b : Bool} {A B : Prop} (h : b = false) (a : B) : if b = true then A else B := by rw [h, if_neg Bool.false_ne_true]; exact a
theorem r_loopR {tg : Tg} {e : EvX} {d v : D} {ds : List D} {env env1 : DSt} (h1 : eTg tg d env = some env1) (h2 : e env1 = some (.rt v)) : xLoop tg e (d :: ds) env = some (.rt v) := by
  unfold xLoop
  rw [h1]
  simp only [h2]
end PL

open PySem in
theorem DL.bootVE : bootBuiltins "ValueError" = some (.type "ValueError") := by decide +kernel
namespace K01
open PySem PySem.Spec PyProof.Rows L2 LamX HotX L2H DL
def top (i : Nat) : Stmt := PySem.Challenge.pw_cageworks_k01_whole_programs.main.body.getD i (.Pass ⟨0, 0, 0, 0⟩)
abbrev s__law_door_pool : Stmt := top 65
abbrev s__law_page_pool : Stmt := top 66
abbrev s__law_drawn : Stmt := top 60
abbrev s__law_roll : Stmt := top 61
abbrev s__law_sorts : Stmt := top 67
abbrev s__law_any_order : Stmt := top 68
abbrev s__law_any_program : Stmt := top 69
abbrev s__law_is_one : Stmt := top 70
abbrev s__law_cell : Stmt := top 59
abbrev s__law_rounds : Stmt := top 62
abbrev s__law_term : Stmt := top 63
abbrev s__law_told : Stmt := top 64
abbrev s_is_whole : Stmt := top 19
abbrev s_is_number : Stmt := top 20
abbrev s_is_word : Stmt := top 21
abbrev s_is_part : Stmt := top 22
abbrev s_is_instruction : Stmt := top 23
abbrev s_is_program : Stmt := top 24
abbrev s_need_program : Stmt := top 25
abbrev s_goals_of : Stmt := top 26
abbrev s_places_of : Stmt := top 27
abbrev s_come_to : Stmt := top 28
abbrev s_is_span : Stmt := top 42
abbrev s_is_row_papers : Stmt := top 43
abbrev s_is_form : Stmt := top 45
abbrev s_need_room : Stmt := top 37
abbrev s_need_asked : Stmt := top 54
abbrev s_is_cell : Stmt := top 49
abbrev s_with_span : Stmt := top 46
abbrev s_passed : Stmt := top 48
abbrev s_reckoned : Stmt := top 47
abbrev s_behind : Stmt := top 50
abbrev s_holds : Stmt := top 51
abbrev s_is_good : Stmt := top 52
abbrev s_wrong_at : Stmt := top 53
abbrev s_is_right : Stmt := top 55
abbrev s_is_row_rights : Stmt := top 33
abbrev s_is_rights : Stmt := top 35
abbrev s_need_rights : Stmt := top 36
abbrev s_words_of : Stmt := top 29
abbrev s_needs : Stmt := top 38
abbrev s_program_text : Stmt := top 57
abbrev s_words_in : Stmt := top 30
abbrev s_law : Stmt := top 71
def lst_FORMS : List (String × String) := [("set", "rn"), ("copy", "rr"), ("add", "rr"), ("take", "rr"), ("less", "rr"), ("go", "g"), ("zero", "rg"), ("read", "rr"), ("write", "rr"), ("ask", "rw"), ("tell", "rw"), ("look", "rrw"), ("mark", "rrw"), ("end", "")]
def tab_FORMS : List (String × D) := tabS lst_FORMS
structure Fx (P : Program) (w : World) (K : PySem.W.Frag) (T : LT) (mg : Str → Option Value) (base : Heap) : Prop where
  free : ∀ x ∈ ["ValueError", "all", "bool", "int", "isinstance", "len", "list", "max", "min", "range", "str", "sum", "tuple", "zip"], mg (Str.ofString x) = none
  gi_FARTHEST : ∃ t, mg "FARTHEST" = some (.int 999 t)
  gi_MOST_ROOM : ∃ t, mg "MOST_ROOM" = some (.int 60 t)
  gs_SMALL : ∃ t, mg "SMALL" = some (.str (Str.ofString "abcdefghijklmnopqrstuvwxyz") t)
  kt_FORMS : KTab K w mg "FORMS" tab_FORMS
  tu_ANY : TupG K mg "ANY" (.tup [(.int (-999)), (.int 999)])
  tu_BARE : TupG K mg "BARE" (.tup [(.tup [(.int 0), (.int 0)]), (.tup [(.int 0), (.int 0)]), (.tup [(.int 0), (.int 0)]), (.tup [(.int 0), (.int 0)])])
  xc_BadNumber : XcK K mg "BadNumber"
  xc_BadProgram : XcK K mg "BadProgram"
  xc_BadRights : XcK K mg "BadRights"
  fd__law_door_pool : ∃ fd, FunD K "_law_door_pool" "_law_door_pool" (defArgs s__law_door_pool) (defBody s__law_door_pool) (defScope s__law_door_pool) [] [] (He.fAd K ("_law_door_pool", none)) fd
  mg__law_door_pool : mg "_law_door_pool" = some (.ref (He.ga K "_law_door_pool"))
  fd__law_page_pool : ∃ fd, FunD K "_law_page_pool" "_law_page_pool" (defArgs s__law_page_pool) (defBody s__law_page_pool) (defScope s__law_page_pool) [] [] (He.fAd K ("_law_page_pool", none)) fd
  mg__law_page_pool : mg "_law_page_pool" = some (.ref (He.ga K "_law_page_pool"))
  fd__law_drawn : ∃ fd, FunD K "_law_drawn" "_law_drawn" (defArgs s__law_drawn) (defBody s__law_drawn) (defScope s__law_drawn) [] [] (He.fAd K ("_law_drawn", none)) fd
  mg__law_drawn : mg "_law_drawn" = some (.ref (He.ga K "_law_drawn"))
  fd__law_roll : ∃ fd, FunD K "_law_roll" "_law_roll" (defArgs s__law_roll) (defBody s__law_roll) (defScope s__law_roll) [] [] (He.fAd K ("_law_roll", none)) fd
  mg__law_roll : mg "_law_roll" = some (.ref (He.ga K "_law_roll"))
  fd__law_sorts : ∃ fd, FunD K "_law_sorts" "_law_sorts" (defArgs s__law_sorts) (defBody s__law_sorts) (defScope s__law_sorts) [] [] (He.fAd K ("_law_sorts", none)) fd
  mg__law_sorts : mg "_law_sorts" = some (.ref (He.ga K "_law_sorts"))
  fd__law_any_order : ∃ fd, FunD K "_law_any_order" "_law_any_order" (defArgs s__law_any_order) (defBody s__law_any_order) (defScope s__law_any_order) [] [] (He.fAd K ("_law_any_order", none)) fd
  mg__law_any_order : mg "_law_any_order" = some (.ref (He.ga K "_law_any_order"))
  fd__law_any_program : ∃ fd, FunD K "_law_any_program" "_law_any_program" (defArgs s__law_any_program) (defBody s__law_any_program) (defScope s__law_any_program) [] [] (He.fAd K ("_law_any_program", none)) fd
  mg__law_any_program : mg "_law_any_program" = some (.ref (He.ga K "_law_any_program"))
  fd__law_is_one : ∃ fd, FunD K "_law_is_one" "_law_is_one" (defArgs s__law_is_one) (defBody s__law_is_one) (defScope s__law_is_one) [] [] (He.fAd K ("_law_is_one", none)) fd
  mg__law_is_one : mg "_law_is_one" = some (.ref (He.ga K "_law_is_one"))
  fd__law_cell : ∃ fd, FunD K "_law_cell" "_law_cell" (defArgs s__law_cell) (defBody s__law_cell) (defScope s__law_cell) [] [] (He.fAd K ("_law_cell", none)) fd
  mg__law_cell : mg "_law_cell" = some (.ref (He.ga K "_law_cell"))
  fd__law_rounds : ∃ fd, FunD K "_law_rounds" "_law_rounds" (defArgs s__law_rounds) (defBody s__law_rounds) (defScope s__law_rounds) [] [] (He.fAd K ("_law_rounds", none)) fd
  mg__law_rounds : mg "_law_rounds" = some (.ref (He.ga K "_law_rounds"))
  fd__law_term : ∃ fd, FunD K "_law_term" "_law_term" (defArgs s__law_term) (defBody s__law_term) (defScope s__law_term) [] [] (He.fAd K ("_law_term", none)) fd
  mg__law_term : mg "_law_term" = some (.ref (He.ga K "_law_term"))
  fd__law_told : ∃ fd, FunD K "_law_told" "_law_told" (defArgs s__law_told) (defBody s__law_told) (defScope s__law_told) [] [] (He.fAd K ("_law_told", none)) fd
  mg__law_told : mg "_law_told" = some (.ref (He.ga K "_law_told"))
  fd_is_whole : ∃ fd, FunD K "is_whole" "is_whole" (defArgs s_is_whole) (defBody s_is_whole) (defScope s_is_whole) [] [] (He.fAd K ("is_whole", none)) fd
  mg_is_whole : mg "is_whole" = some (.ref (He.ga K "is_whole"))
  fd_is_number : ∃ fd, FunD K "is_number" "is_number" (defArgs s_is_number) (defBody s_is_number) (defScope s_is_number) [] [] (He.fAd K ("is_number", none)) fd
  mg_is_number : mg "is_number" = some (.ref (He.ga K "is_number"))
  fd_is_word : ∃ fd, FunD K "is_word" "is_word" (defArgs s_is_word) (defBody s_is_word) (defScope s_is_word) [] [] (He.fAd K ("is_word", none)) fd
  mg_is_word : mg "is_word" = some (.ref (He.ga K "is_word"))
  fd_is_part : ∃ fd, FunD K "is_part" "is_part" (defArgs s_is_part) (defBody s_is_part) (defScope s_is_part) [] [] (He.fAd K ("is_part", none)) fd
  mg_is_part : mg "is_part" = some (.ref (He.ga K "is_part"))
  fd_is_instruction : ∃ fd, FunD K "is_instruction" "is_instruction" (defArgs s_is_instruction) (defBody s_is_instruction) (defScope s_is_instruction) [] [] (He.fAd K ("is_instruction", none)) fd
  mg_is_instruction : mg "is_instruction" = some (.ref (He.ga K "is_instruction"))
  fd_is_program : ∃ fd, FunD K "is_program" "is_program" (defArgs s_is_program) (defBody s_is_program) (defScope s_is_program) [] [] (He.fAd K ("is_program", none)) fd
  mg_is_program : mg "is_program" = some (.ref (He.ga K "is_program"))
  fd_need_program : ∃ fd, FunD K "need_program" "need_program" (defArgs s_need_program) (defBody s_need_program) (defScope s_need_program) [] [] (He.fAd K ("need_program", none)) fd
  mg_need_program : mg "need_program" = some (.ref (He.ga K "need_program"))
  fd_goals_of : ∃ fd, FunD K "goals_of" "goals_of" (defArgs s_goals_of) (defBody s_goals_of) (defScope s_goals_of) [] [] (He.fAd K ("goals_of", none)) fd
  mg_goals_of : mg "goals_of" = some (.ref (He.ga K "goals_of"))
  fd_places_of : ∃ fd, FunD K "places_of" "places_of" (defArgs s_places_of) (defBody s_places_of) (defScope s_places_of) [] [] (He.fAd K ("places_of", none)) fd
  mg_places_of : mg "places_of" = some (.ref (He.ga K "places_of"))
  fd_come_to : ∃ fd, FunD K "come_to" "come_to" (defArgs s_come_to) (defBody s_come_to) (defScope s_come_to) [] [] (He.fAd K ("come_to", none)) fd
  mg_come_to : mg "come_to" = some (.ref (He.ga K "come_to"))
  fd_is_span : ∃ fd, FunD K "is_span" "is_span" (defArgs s_is_span) (defBody s_is_span) (defScope s_is_span) [] [] (He.fAd K ("is_span", none)) fd
  mg_is_span : mg "is_span" = some (.ref (He.ga K "is_span"))
  fd_is_row_papers : ∃ fd, FunD K "is_row" "is_row" (defArgs s_is_row_papers) (defBody s_is_row_papers) (defScope s_is_row_papers) [] [] (He.fAd K ("is_row_papers", none)) fd
  mg_is_row_papers : mg "is_row_papers" = some (.ref (He.ga K "is_row_papers"))
  fd_is_form : ∃ fd, FunD K "is_form" "is_form" (defArgs s_is_form) (defBody s_is_form) (defScope s_is_form) [] [] (He.fAd K ("is_form", none)) fd
  mg_is_form : mg "is_form" = some (.ref (He.ga K "is_form"))
  fd_need_room : ∃ fd, FunD K "need_room" "need_room" (defArgs s_need_room) (defBody s_need_room) (defScope s_need_room) [] [] (He.fAd K ("need_room", none)) fd
  mg_need_room : mg "need_room" = some (.ref (He.ga K "need_room"))
  fd_need_asked : ∃ fd, FunD K "need_asked" "need_asked" (defArgs s_need_asked) (defBody s_need_asked) (defScope s_need_asked) [] [] (He.fAd K ("need_asked", none)) fd
  mg_need_asked : mg "need_asked" = some (.ref (He.ga K "need_asked"))
  fd_is_cell : ∃ fd, FunD K "is_cell" "is_cell" (defArgs s_is_cell) (defBody s_is_cell) (defScope s_is_cell) [] [] (He.fAd K ("is_cell", none)) fd
  mg_is_cell : mg "is_cell" = some (.ref (He.ga K "is_cell"))
  fd_with_span : ∃ fd, FunD K "with_span" "with_span" (defArgs s_with_span) (defBody s_with_span) (defScope s_with_span) [] [] (He.fAd K ("with_span", none)) fd
  mg_with_span : mg "with_span" = some (.ref (He.ga K "with_span"))
  fd_passed : ∃ fd, FunD K "passed" "passed" (defArgs s_passed) (defBody s_passed) (defScope s_passed) [] [] (He.fAd K ("passed", none)) fd
  mg_passed : mg "passed" = some (.ref (He.ga K "passed"))
  fd_reckoned : ∃ fd, FunD K "reckoned" "reckoned" (defArgs s_reckoned) (defBody s_reckoned) (defScope s_reckoned) [] [] (He.fAd K ("reckoned", none)) fd
  mg_reckoned : mg "reckoned" = some (.ref (He.ga K "reckoned"))
  fd_behind : ∃ fd, FunD K "behind" "behind" (defArgs s_behind) (defBody s_behind) (defScope s_behind) [] [] (He.fAd K ("behind", none)) fd
  mg_behind : mg "behind" = some (.ref (He.ga K "behind"))
  fd_holds : ∃ fd, FunD K "holds" "holds" (defArgs s_holds) (defBody s_holds) (defScope s_holds) [] [] (He.fAd K ("holds", none)) fd
  mg_holds : mg "holds" = some (.ref (He.ga K "holds"))
  fd_is_good : ∃ fd, FunD K "is_good" "is_good" (defArgs s_is_good) (defBody s_is_good) (defScope s_is_good) [] [] (He.fAd K ("is_good", none)) fd
  mg_is_good : mg "is_good" = some (.ref (He.ga K "is_good"))
  fd_wrong_at : ∃ fd, FunD K "wrong_at" "wrong_at" (defArgs s_wrong_at) (defBody s_wrong_at) (defScope s_wrong_at) [] [] (He.fAd K ("wrong_at", none)) fd
  mg_wrong_at : mg "wrong_at" = some (.ref (He.ga K "wrong_at"))
  fd_is_right : ∃ fd, FunD K "is_right" "is_right" (defArgs s_is_right) (defBody s_is_right) (defScope s_is_right) [] [] (He.fAd K ("is_right", none)) fd
  mg_is_right : mg "is_right" = some (.ref (He.ga K "is_right"))
  fd_is_row_rights : ∃ fd, FunD K "is_row" "is_row" (defArgs s_is_row_rights) (defBody s_is_row_rights) (defScope s_is_row_rights) [] [] (He.fAd K ("is_row_rights", none)) fd
  mg_is_row_rights : mg "is_row_rights" = some (.ref (He.ga K "is_row_rights"))
  fd_is_rights : ∃ fd, FunD K "is_rights" "is_rights" (defArgs s_is_rights) (defBody s_is_rights) (defScope s_is_rights) [] [] (He.fAd K ("is_rights", none)) fd
  mg_is_rights : mg "is_rights" = some (.ref (He.ga K "is_rights"))
  fd_need_rights : ∃ fd, FunD K "need_rights" "need_rights" (defArgs s_need_rights) (defBody s_need_rights) (defScope s_need_rights) [] [] (He.fAd K ("need_rights", none)) fd
  mg_need_rights : mg "need_rights" = some (.ref (He.ga K "need_rights"))
  fd_words_of : ∃ fd, FunD K "words_of" "words_of" (defArgs s_words_of) (defBody s_words_of) (defScope s_words_of) [] [] (He.fAd K ("words_of", none)) fd
  mg_words_of : mg "words_of" = some (.ref (He.ga K "words_of"))
  fd_needs : ∃ fd, FunD K "needs" "needs" (defArgs s_needs) (defBody s_needs) (defScope s_needs) [] [] (He.fAd K ("needs", none)) fd
  mg_needs : mg "needs" = some (.ref (He.ga K "needs"))
  fd_program_text : ∃ fd, FunD K "program_text" "program_text" (defArgs s_program_text) (defBody s_program_text) (defScope s_program_text) [] [] (He.fAd K ("program_text", none)) fd
  mg_program_text : mg "program_text" = some (.ref (He.ga K "program_text"))
  fd_words_in : ∃ fd, FunD K "words_in" "words_in" (defArgs s_words_in) (defBody s_words_in) (defScope s_words_in) [] [] (He.fAd K ("words_in", none)) fd
  mg_words_in : mg "words_in" = some (.ref (He.ga K "words_in"))
  fd_law : ∃ fd, FunD K "law" "law" (defArgs s_law) (defBody s_law) (defScope s_law) [] [] (He.fAd K ("law", none)) fd
  mg_law : mg "law" = some (.ref (He.ga K "law"))
  told : ToldK K
  mgC : ∀ c ∈ kinds13 ++ ["CageError"], mg (Str.ofString c) = some (.ref (He.ga K (S c)))
  lamt_law : ∃ P, TabB base mg (He.codeOf K ("law", none)) P ∧ (P, Str.ofString "law.<locals>.<lambda>") ∈ T ∧ ∀ p ∈ T, p.1 = P → p.2 = Str.ofString "law.<locals>.<lambda>"
section
variable {P : Program} {w : World} {K : PySem.W.Frag} {T : LT} {mg : Str → Option Value} {base : Heap}
def t__law_door_pool : DTS := (sRet (dLst (dCons (dC (.str "bus")) (dCons (dC (.str "in")) (dCons (dC (.str "out")) dNil)))))
abbrev sp__law_door_pool : DSp := spOf [] 0 t__law_door_pool
def e__law_door_pool : List D → Option (Except DX D) := fnE [] 0 (xRet (eLst (eCons (eC (.str "bus")) (eCons (eC (.str "in")) (eCons (eC (.str "out")) (eC []))))))
theorem ev__law_door_pool : EvF sp__law_door_pool e__law_door_pool := evf (xv_ret (ev_lst (ev_cons (ev_c _) (ev_cons (ev_c _) (ev_cons (ev_c _) (ev_nil))))))
theorem sc__law_door_pool : FnScope [] [] (defScope s__law_door_pool) := ⟨rfl, rfl, rfl, by decide +kernel, rfl, by decide +kernel, by decide +kernel⟩
theorem _law_door_pool_fa (fx : Fx P w K T mg base) : DFa P w K T mg base 1 ("_law_door_pool", none) [] sp__law_door_pool :=
  dfa_of fx.fd__law_door_pool sc__law_door_pool (fun _ _ _ _ _ _ us hl => match us, hl with | [], _ => rfl) (fun cdv A outer s H E hcd hr => (qs_one (qs_ret (q_lst (qa_cons (q_str) (qa_cons (q_str) (qa_cons (q_str) qa_nil)))))))
theorem _law_door_pool_ok (fx : Fx P w K T mg base) : DFn P w K T mg base 1 "_law_door_pool" [] sp__law_door_pool := (_law_door_pool_fa fx).fn fx.mg__law_door_pool
def t__law_page_pool : DTS := (sRet (dLst (dCons (dC (.str "log")) (dCons (dC (.str "sky")) dNil))))
abbrev sp__law_page_pool : DSp := spOf [] 0 t__law_page_pool
def e__law_page_pool : List D → Option (Except DX D) := fnE [] 0 (xRet (eLst (eCons (eC (.str "log")) (eCons (eC (.str "sky")) (eC [])))))
theorem ev__law_page_pool : EvF sp__law_page_pool e__law_page_pool := evf (xv_ret (ev_lst (ev_cons (ev_c _) (ev_cons (ev_c _) (ev_nil)))))
theorem sc__law_page_pool : FnScope [] [] (defScope s__law_page_pool) := ⟨rfl, rfl, rfl, by decide +kernel, rfl, by decide +kernel, by decide +kernel⟩
theorem _law_page_pool_fa (fx : Fx P w K T mg base) : DFa P w K T mg base 1 ("_law_page_pool", none) [] sp__law_page_pool :=
  dfa_of fx.fd__law_page_pool sc__law_page_pool (fun _ _ _ _ _ _ us hl => match us, hl with | [], _ => rfl) (fun cdv A outer s H E hcd hr => (qs_one (qs_ret (q_lst (qa_cons (q_str) (qa_cons (q_str) qa_nil))))))
theorem _law_page_pool_ok (fx : Fx P w K T mg base) : DFn P w K T mg base 1 "_law_page_pool" [] sp__law_page_pool := (_law_page_pool_fa fx).fn fx.mg__law_page_pool
def t__law_drawn : DTS := (sSeq (sSet 2 (dOp pyMod (dOp pyAdd (dOp pyMul (dVar 0) (dC (.int 6364136223846793005))) (dOp pyMul (dOp pyAdd (dVar 1) (dC (.int 1))) (dC (.int 1442695040888963407)))) (dC (.int 340282366920938463463374607431768211507)))) (sSeq (sSet 2 (dOp pyMod (dOp pyMul (dVar 2) (dVar 2)) (dC (.int 340282366920938463463374607431768211297)))) (sSeq (sSet 2 (dOp pyMul (dOp pyMul (dOp pyAdd (dOp pyMod (dVar 2) (dC (.int 18446744073709551557))) (dC (.int 1))) (dOp pyAdd (dOp pyDiv (dVar 2) (dC (.int 18446744073709551557))) (dC (.int 1)))) (dVar 2))) (sRet (dOp pyMod (dVar 2) (dC (.int 340282366920938463463374607431768211507)))))))
abbrev sp__law_drawn : DSp := spOf ["cell", "k", "more"] 2 t__law_drawn
def e__law_drawn : List D → Option (Except DX D) := fnE ["cell", "k", "more"] 2 (xSeq (xSet 2 (eOp pyMod (eOp pyAdd (eOp pyMul (eVar 0) (eC (.int 6364136223846793005))) (eOp pyMul (eOp pyAdd (eVar 1) (eC (.int 1))) (eC (.int 1442695040888963407)))) (eC (.int 340282366920938463463374607431768211507)))) (xSeq (xSet 2 (eOp pyMod (eOp pyMul (eVar 2) (eVar 2)) (eC (.int 340282366920938463463374607431768211297)))) (xSeq (xSet 2 (eOp pyMul (eOp pyMul (eOp pyAdd (eOp pyMod (eVar 2) (eC (.int 18446744073709551557))) (eC (.int 1))) (eOp pyAdd (eOp pyDiv (eVar 2) (eC (.int 18446744073709551557))) (eC (.int 1)))) (eVar 2))) (xRet (eOp pyMod (eVar 2) (eC (.int 340282366920938463463374607431768211507)))))))
theorem ev__law_drawn : EvF sp__law_drawn e__law_drawn := evf (xv_seq (xv_set (ev_op m_mod (ev_op m_add (ev_op m_mul (ev_var 0) (ev_c _)) (ev_op m_mul (ev_op m_add (ev_var 1) (ev_c _)) (ev_c _))) (ev_c _))) (xv_seq (xv_set (ev_op m_mod (ev_op m_mul (ev_var 2) (ev_var 2)) (ev_c _))) (xv_seq (xv_set (ev_op m_mul (ev_op m_mul (ev_op m_add (ev_op m_mod (ev_var 2) (ev_c _)) (ev_c _)) (ev_op m_add (ev_op m_div (ev_var 2) (ev_c _)) (ev_c _))) (ev_var 2))) (xv_ret (ev_op m_mod (ev_var 2) (ev_c _))))))
theorem sc__law_drawn : FnScope ["cell", "k", "more"] ["cell", "k"] (defScope s__law_drawn) := ⟨rfl, rfl, rfl, by decide +kernel, rfl, by decide +kernel, by decide +kernel⟩
theorem _law_drawn_fa (fx : Fx P w K T mg base) : DFa P w K T mg base 1 ("_law_drawn", none) ["cell", "k"] sp__law_drawn :=
  dfa_of fx.fd__law_drawn sc__law_drawn (fun _ _ _ _ _ _ us hl => match us, hl with | [_, _], _ => rfl) (fun cdv A outer s H E hcd hr => (qs_cons (qs_set sc__law_drawn.nd rfl (by first | exact Or.inl rfl | exact Or.inr rfl) (q_op op_pyMod (q_op op_pyAdd (q_op op_pyMul (qv 0) (q_int)) (q_op op_pyMul (q_op op_pyAdd (qv 1) (q_int)) (q_int))) (q_int))) (qs_cons (qs_set sc__law_drawn.nd rfl (by first | exact Or.inl rfl | exact Or.inr rfl) (q_op op_pyMod (q_op op_pyMul (qv 2) (qv 2)) (q_int))) (qs_cons (qs_set sc__law_drawn.nd rfl (by first | exact Or.inl rfl | exact Or.inr rfl) (q_op op_pyMul (q_op op_pyMul (q_op op_pyAdd (q_op op_pyMod (qv 2) (q_int)) (q_int)) (q_op op_pyAdd (q_op op_pyDiv (qv 2) (q_int)) (q_int))) (qv 2))) (qs_one (qs_ret (q_op op_pyMod (qv 2) (q_int))))))))
theorem _law_drawn_ok (fx : Fx P w K T mg base) : DFn P w K T mg base 1 "_law_drawn" ["cell", "k"] sp__law_drawn := (_law_drawn_fa fx).fn fx.mg__law_drawn
def t__law_roll : DTS := (sSeq (sIf (dTest (dOp pyGe (dOp pyItem (dVar 0) (dC (.int 0))) (dOp pyPow (dC (.int 10)) (dC (.int 18))))) (sSeq (sSet 2 (dOp pyMod (dOp pyItem (dVar 0) (dC (.int 0))) (dVar 1))) (sSeq (sSub (dOp pyDiv (dOp pyItem (dVar 0) (dC (.int 0))) (dVar 1)) (dVar 0) (dC (.int 0))) (sRet (dVar 2)))) sNext) (sSeq (sSub (dOp pyAdd (dOp pyItem (dVar 0) (dC (.int 1))) (dC (.int 1))) (dVar 0) (dC (.int 1))) (sRet (dOp pyMod (dOp pyDiv (dCall sp__law_drawn (dCons (dOp pyItem (dVar 0) (dC (.int 0))) (dCons (dOp pyItem (dVar 0) (dC (.int 1))) dNil))) (dC (.int 8))) (dVar 1)))))
abbrev sp__law_roll : DSp := spOf ["dice", "many", "told"] 2 t__law_roll
theorem sc__law_roll : FnScope ["dice", "many", "told"] ["dice", "many"] (defScope s__law_roll) := ⟨rfl, rfl, rfl, by decide +kernel, rfl, by decide +kernel, by decide +kernel⟩
theorem _law_roll_fa (fx : Fx P w K T mg base) : DFa P w K T mg base 2 ("_law_roll", none) ["dice", "many"] sp__law_roll :=
  dfa_of fx.fd__law_roll sc__law_roll (fun _ _ _ _ _ _ us hl => match us, hl with | [_, _], _ => rfl) (fun cdv A outer s H E hcd hr => (qs_cons (qs_if (q_cmpT op_pyGe (q_item (hu_of hr) (qv 0) (q_int)) (q_op op_pyPow (q_int) (q_int)) (nomark _)) (qs_cons (qs_set sc__law_roll.nd rfl (by first | exact Or.inl rfl | exact Or.inr rfl) (q_op op_pyMod (q_item (hu_of hr) (qv 0) (q_int)) (qv 1))) (qs_cons (qs_sub (hu_of hr) (q_op op_pyDiv (q_item (hu_of hr) (qv 0) (q_int)) (qv 1)) (qv 0) (q_int)) (qs_one (qs_ret (qv 2))))) qs_nil) (qs_cons (qs_sub (hu_of hr) (q_op op_pyAdd (q_item (hu_of hr) (qv 0) (q_int)) (q_int)) (qv 0) (q_int)) (qs_one (qs_ret (q_op op_pyMod (q_op op_pyDiv (q_call (_law_drawn_ok fx) hr (by decide) (L2N.takes_of rfl rfl rfl rfl) rfl (qa_cons (q_item (hu_of hr) (qv 0) (q_int)) (qa_cons (q_item (hu_of hr) (qv 0) (q_int)) qa_nil))) (q_int)) (qv 1)))))))
theorem _law_roll_ok (fx : Fx P w K T mg base) : DFn P w K T mg base 2 "_law_roll" ["dice", "many"] sp__law_roll := (_law_roll_fa fx).fn fx.mg__law_roll
def t__law_sorts : DTS := (sSeq (sSet 1 (dDct (List.cons (Prod.mk (dC (.str "set")) (dC (.str "rn"))) (List.cons (Prod.mk (dC (.str "copy")) (dC (.str "rr"))) (List.cons (Prod.mk (dC (.str "add")) (dC (.str "rr"))) (List.cons (Prod.mk (dC (.str "take")) (dC (.str "rr"))) (List.cons (Prod.mk (dC (.str "less")) (dC (.str "rr"))) (List.cons (Prod.mk (dC (.str "go")) (dC (.str "g"))) (List.cons (Prod.mk (dC (.str "zero")) (dC (.str "rg"))) (List.cons (Prod.mk (dC (.str "read")) (dC (.str "rr"))) [])))))))))) (sSeq (sSet 2 (dDct (List.cons (Prod.mk (dC (.str "write")) (dC (.str "rr"))) (List.cons (Prod.mk (dC (.str "ask")) (dC (.str "rw"))) (List.cons (Prod.mk (dC (.str "tell")) (dC (.str "rw"))) (List.cons (Prod.mk (dC (.str "look")) (dC (.str "rrw"))) (List.cons (Prod.mk (dC (.str "mark")) (dC (.str "rrw"))) (List.cons (Prod.mk (dC (.str "end")) (dC (.str ""))) [])))))))) (sRet (dIf (dTest (dOp pyIn (dVar 0) (dVar 1))) (dOp pyItem (dVar 1) (dVar 0)) (dOp pyItem (dVar 2) (dVar 0))))))
abbrev sp__law_sorts : DSp := spOf ["word", "forms", "more"] 1 t__law_sorts
def e__law_sorts : List D → Option (Except DX D) := fnE ["word", "forms", "more"] 1 (xSeq (xSet 1 (eDct (List.cons (Prod.mk (eC (.str "set")) (eC (.str "rn"))) (List.cons (Prod.mk (eC (.str "copy")) (eC (.str "rr"))) (List.cons (Prod.mk (eC (.str "add")) (eC (.str "rr"))) (List.cons (Prod.mk (eC (.str "take")) (eC (.str "rr"))) (List.cons (Prod.mk (eC (.str "less")) (eC (.str "rr"))) (List.cons (Prod.mk (eC (.str "go")) (eC (.str "g"))) (List.cons (Prod.mk (eC (.str "zero")) (eC (.str "rg"))) (List.cons (Prod.mk (eC (.str "read")) (eC (.str "rr"))) [])))))))))) (xSeq (xSet 2 (eDct (List.cons (Prod.mk (eC (.str "write")) (eC (.str "rr"))) (List.cons (Prod.mk (eC (.str "ask")) (eC (.str "rw"))) (List.cons (Prod.mk (eC (.str "tell")) (eC (.str "rw"))) (List.cons (Prod.mk (eC (.str "look")) (eC (.str "rrw"))) (List.cons (Prod.mk (eC (.str "mark")) (eC (.str "rrw"))) (List.cons (Prod.mk (eC (.str "end")) (eC (.str ""))) [])))))))) (xRet (eIf (eTest (eOp pyIn (eVar 0) (eVar 1))) (eOp pyItem (eVar 1) (eVar 0)) (eOp pyItem (eVar 2) (eVar 0))))))
theorem ev__law_sorts : EvF sp__law_sorts e__law_sorts := evf (xv_seq (xv_set (ev_dct (.cons (ev_c _) (ev_c _) (.cons (ev_c _) (ev_c _) (.cons (ev_c _) (ev_c _) (.cons (ev_c _) (ev_c _) (.cons (ev_c _) (ev_c _) (.cons (ev_c _) (ev_c _) (.cons (ev_c _) (ev_c _) (.cons (ev_c _) (ev_c _) .nil)))))))))) (xv_seq (xv_set (ev_dct (.cons (ev_c _) (ev_c _) (.cons (ev_c _) (ev_c _) (.cons (ev_c _) (ev_c _) (.cons (ev_c _) (ev_c _) (.cons (ev_c _) (ev_c _) (.cons (ev_c _) (ev_c _) .nil)))))))) (xv_ret (ev_if (ev_test (ev_op m_in (ev_var 0) (ev_var 1))) (ev_op m_item (ev_var 1) (ev_var 0)) (ev_op m_item (ev_var 2) (ev_var 0))))))
theorem sc__law_sorts : FnScope ["word", "forms", "more"] ["word"] (defScope s__law_sorts) := ⟨rfl, rfl, rfl, by decide +kernel, rfl, by decide +kernel, by decide +kernel⟩
theorem _law_sorts_fa (fx : Fx P w K T mg base) : DFa P w K T mg base 1 ("_law_sorts", none) ["word"] sp__law_sorts :=
  dfa_of fx.fd__law_sorts sc__law_sorts (fun _ _ _ _ _ _ us hl => match us, hl with | [_], _ => rfl) (fun cdv A outer s H E hcd hr => (qs_cons (qs_set sc__law_sorts.nd rfl (by first | exact Or.inl rfl | exact Or.inr rfl) (q_dct (qp_cons (q_str) (q_str) (qp_cons (q_str) (q_str) (qp_cons (q_str) (q_str) (qp_cons (q_str) (q_str) (qp_cons (q_str) (q_str) (qp_cons (q_str) (q_str) (qp_cons (q_str) (q_str) (qp_cons (q_str) (q_str) qp_nil)))))))))) (qs_cons (qs_set sc__law_sorts.nd rfl (by first | exact Or.inl rfl | exact Or.inr rfl) (q_dct (qp_cons (q_str) (q_str) (qp_cons (q_str) (q_str) (qp_cons (q_str) (q_str) (qp_cons (q_str) (q_str) (qp_cons (q_str) (q_str) (qp_cons (q_str) (q_str) qp_nil)))))))) (qs_one (qs_ret (q_if (q_cmpT (op_pyIn (hu_of hr)) (qv 0) (qv 1) rfl) (q_item (hu_of hr) (qv 1) (qv 0)) (q_item (hu_of hr) (qv 2) (qv 0))))))))
theorem _law_sorts_ok (fx : Fx P w K T mg base) : DFn P w K T mg base 1 "_law_sorts" ["word"] sp__law_sorts := (_law_sorts_fa fx).fn fx.mg__law_sorts
def t__law_any_order : DTS := (sSeq (sSet 2 (dLst (dCons (dC (.str "set")) (dCons (dC (.str "set")) (dCons (dC (.str "copy")) (dCons (dC (.str "add")) (dCons (dC (.str "add")) (dCons (dC (.str "take")) (dCons (dC (.str "less")) (dCons (dC (.str "go")) (dCons (dC (.str "zero")) (dCons (dC (.str "zero")) (dCons (dC (.str "read")) (dCons (dC (.str "write")) (dCons (dC (.str "ask")) (dCons (dC (.str "tell")) dNil)))))))))))))))) (sSeq (sPar [3, 4] (dCons (dOp pyItem (dOp pyAdd (dVar 2) (dLst (dCons (dC (.str "look")) (dCons (dC (.str "mark")) (dCons (dC (.str "end")) dNil))))) (dCall sp__law_roll (dCons (dVar 0) (dCons (dC (.int 17)) dNil)))) (dCons (dLstB dNil) dNil))) (sSeq (sFor (dIter (dCall sp__law_sorts (dCons (dVar 3) dNil))) (.n 5) (sIf (dTest (dOp pyEq (dVar 5) (dC (.str "r")))) (sDrop (dMt "list" mAppend (dVar 4) (dCons (dCall sp__law_roll (dCons (dVar 0) (dCons (dC (.int 4)) dNil))) dNil))) (sIf (dTest (dOp pyEq (dVar 5) (dC (.str "n")))) (sDrop (dMt "list" mAppend (dVar 4) (dCons (dOp pyItem (dLst (dCons (dC (.int 0)) (dCons (dC (.int 1)) (dCons (dC (.int 2)) (dCons (dC (.int 3)) (dCons (dC (.int 5)) (dCons (dUn pyNeg (dC (.int 1))) (dCons (dC (.int 9)) (dCons (dC (.int 400)) (dCons (dC (.int 999)) dNil)))))))))) (dCall sp__law_roll (dCons (dVar 0) (dCons (dC (.int 9)) dNil)))) dNil))) (sIf (dTest (dOp pyEq (dVar 5) (dC (.str "g")))) (sDrop (dMt "list" mAppend (dVar 4) (dCons (dCall sp__law_roll (dCons (dVar 0) (dCons (dOp pyAdd (dVar 1) (dB pyIntS (dCons (dOp pyEq (dCall sp__law_roll (dCons (dVar 0) (dCons (dC (.int 12)) dNil))) (dC (.int 0))) dNil))) dNil))) dNil))) (sSeq (sSet 6 (dIf (dTest (dOp pyIn (dVar 3) (dTup (dCons (dC (.str "look")) (dCons (dC (.str "mark")) dNil))))) (dCall sp__law_page_pool dNil) (dCall sp__law_door_pool dNil))) (sDrop (dMt "list" mAppend (dVar 4) (dCons (dOp pyItem (dVar 6) (dCall sp__law_roll (dCons (dVar 0) (dCons (dB pyLen (dCons (dVar 6) dNil)) dNil)))) dNil)))))))) (sRet (dOp pyAdd (dTup (dCons (dVar 3) dNil)) (dB pyTup (dCons (dVar 4) dNil)))))))
abbrev sp__law_any_order : DSp := spOf ["dice", "many", "words", "word", "found", "sort", "names"] 2 t__law_any_order
theorem sc__law_any_order : FnScope ["dice", "many", "words", "word", "found", "sort", "names"] ["dice", "many"] (defScope s__law_any_order) := ⟨rfl, rfl, rfl, by decide +kernel, rfl, by decide +kernel, by decide +kernel⟩
theorem _law_any_order_fa (fx : Fx P w K T mg base) : DFa P w K T mg base 3 ("_law_any_order", none) ["dice", "many"] sp__law_any_order :=
  dfa_of fx.fd__law_any_order sc__law_any_order (fun _ _ _ _ _ _ us hl => match us, hl with | [_, _], _ => rfl) (fun cdv A outer s H E hcd hr => (qs_cons (qs_set sc__law_any_order.nd rfl (by first | exact Or.inl rfl | exact Or.inr rfl) (q_lst (qa_cons (q_str) (qa_cons (q_str) (qa_cons (q_str) (qa_cons (q_str) (qa_cons (q_str) (qa_cons (q_str) (qa_cons (q_str) (qa_cons (q_str) (qa_cons (q_str) (qa_cons (q_str) (qa_cons (q_str) (qa_cons (q_str) (qa_cons (q_str) (qa_cons (q_str) qa_nil)))))))))))))))) (qs_cons (qs_par rfl sc__law_any_order.nd rfl rfl (by decide) rfl rfl (qa_cons (q_item (hu_of hr) (q_op op_pyAdd (qv 2) (q_lst (qa_cons (q_str) (qa_cons (q_str) (qa_cons (q_str) qa_nil))))) (q_call (_law_roll_ok fx) hr (by decide) (L2N.takes_of rfl rfl rfl rfl) rfl (qa_cons (qv 0) (qa_cons (q_int) qa_nil)))) (qa_cons (q_lstB qa_nil) qa_nil)) rfl) (qs_cons (qs_for (passes_of rfl) rfl (qi_it (q_call (_law_sorts_ok fx) hr (by decide) (L2N.takes_of rfl rfl rfl rfl) rfl (qa_cons (qv 3) qa_nil))) (pg_name sc__law_any_order.nd rfl (by first | exact Or.inl rfl | exact Or.inr rfl)) (qs_one (qs_if (q_cmpT (op_pyEq hr.units) (qv 5) (q_str) (nomark _)) (qs_one (qs_expr (q_mt PySem.F.plainAttrs_list PySem.F.slot_list_append PySem.F.type_list_append mt_mAppend (qv 4) (qa_cons (q_call (_law_roll_ok fx) hr (by decide) (L2N.takes_of rfl rfl rfl rfl) rfl (qa_cons (qv 0) (qa_cons (q_int) qa_nil))) qa_nil)))) (qs_one (qs_if (q_cmpT (op_pyEq hr.units) (qv 5) (q_str) (nomark _)) (qs_one (qs_expr (q_mt PySem.F.plainAttrs_list PySem.F.slot_list_append PySem.F.type_list_append mt_mAppend (qv 4) (qa_cons (q_item (hu_of hr) (q_lst (qa_cons (q_int) (qa_cons (q_int) (qa_cons (q_int) (qa_cons (q_int) (qa_cons (q_int) (qa_cons (q_un un_pyNeg (q_int)) (qa_cons (q_int) (qa_cons (q_int) (qa_cons (q_int) qa_nil)))))))))) (q_call (_law_roll_ok fx) hr (by decide) (L2N.takes_of rfl rfl rfl rfl) rfl (qa_cons (qv 0) (qa_cons (q_int) qa_nil)))) qa_nil)))) (qs_one (qs_if (q_cmpT (op_pyEq hr.units) (qv 5) (q_str) (nomark _)) (qs_one (qs_expr (q_mt PySem.F.plainAttrs_list PySem.F.slot_list_append PySem.F.type_list_append mt_mAppend (qv 4) (qa_cons (q_call (_law_roll_ok fx) hr (by decide) (L2N.takes_of rfl rfl rfl rfl) rfl (qa_cons (qv 0) (qa_cons (q_op op_pyAdd (qv 1) (q_callTy call_pyIntS rfl (fx.free "int" (by decide)) boot_int (qa_cons (q_cmp (op_pyEq hr.units) (q_call (_law_roll_ok fx) hr (by decide) (L2N.takes_of rfl rfl rfl rfl) rfl (qa_cons (qv 0) (qa_cons (q_int) qa_nil))) (q_int) (nomark _)) qa_nil))) qa_nil))) qa_nil)))) (qs_cons (qs_set sc__law_any_order.nd rfl (by first | exact Or.inl rfl | exact Or.inr rfl) (q_if (q_cmpT (op_pyIn (hu_of hr)) (qv 3) (q_tup (qa_cons (q_str) (qa_cons (q_str) qa_nil))) rfl) (q_call0 (_law_page_pool_ok fx) hr (by decide) (L2N.takes_of rfl rfl rfl rfl) rfl) (q_call0 (_law_door_pool_ok fx) hr (by decide) (L2N.takes_of rfl rfl rfl rfl) rfl))) (qs_one (qs_expr (q_mt PySem.F.plainAttrs_list PySem.F.slot_list_append PySem.F.type_list_append mt_mAppend (qv 4) (qa_cons (q_item (hu_of hr) (qv 6) (q_call (_law_roll_ok fx) hr (by decide) (L2N.takes_of rfl rfl rfl rfl) rfl (qa_cons (qv 0) (qa_cons (q_callB call_pyLen rfl (fx.free "len" (by decide)) boot_len (qa_cons (qv 6) qa_nil)) qa_nil)))) qa_nil)))))))))))) (qs_one (qs_ret (q_op op_pyAdd (q_tup (qa_cons (qv 3) qa_nil)) (q_callTy call_pyTup rfl (fx.free "tuple" (by decide)) boot_tuple (qa_cons (qv 4) qa_nil)))))))))
theorem _law_any_order_ok (fx : Fx P w K T mg base) : DFn P w K T mg base 3 "_law_any_order" ["dice", "many"] sp__law_any_order := (_law_any_order_fa fx).fn fx.mg__law_any_order
def t__law_any_program : DTS := (sSeq (sSet 2 (dOp pyAdd (dC (.int 1)) (dCall sp__law_roll (dCons (dVar 0) (dCons (dVar 1) dNil))))) (sRet (dB pyTup (dCons (dLc (dRange1 (dCons (dVar 2) dNil)) (.n 3) dYes (dCall sp__law_any_order (dCons (dVar 0) (dCons (dVar 2) dNil))) [3]) dNil))))
abbrev sp__law_any_program : DSp := spOf ["dice", "high", "many", "turn"] 2 t__law_any_program
theorem sc__law_any_program : FnScope ["dice", "high", "many", "turn"] ["dice", "high"] (defScope s__law_any_program) := ⟨rfl, rfl, rfl, by decide +kernel, rfl, by decide +kernel, by decide +kernel⟩
theorem _law_any_program_fa (fx : Fx P w K T mg base) : DFa P w K T mg base 4 ("_law_any_program", none) ["dice", "high"] sp__law_any_program :=
  dfa_of fx.fd__law_any_program sc__law_any_program (fun _ _ _ _ _ _ us hl => match us, hl with | [_, _], _ => rfl) (fun cdv A outer s H E hcd hr => (qs_cons (qs_set sc__law_any_program.nd rfl (by first | exact Or.inl rfl | exact Or.inr rfl) (q_op op_pyAdd (q_int) (q_call (_law_roll_ok fx) hr (by decide) (L2N.takes_of rfl rfl rfl rfl) rfl (qa_cons (qv 0) (qa_cons (qv 1) qa_nil))))) (qs_one (qs_ret (q_callTy call_pyTup rfl (fx.free "tuple" (by decide)) boot_tuple (qa_cons (q_lc [("turn", 3)] rfl sc__law_any_program.nd (qi_range1 rfl (fx.free "range" (by decide)) (qa_cons (qv 2) qa_nil)) (blkOk_by (by kernel_rfl)) rfl (fun s H C cl fp => (pg_name sc__law_any_program.nd rfl (by first | exact Or.inl rfl | exact Or.inr rfl))) (fun s H C cl fp => qts_nil) (fun s H C cl fp => (q_call (_law_any_order_ok fx) hr (by decide) takesF rfl (qa_cons (qv 0) (qa_cons (qv 2) qa_nil))))) qa_nil))))))
theorem _law_any_program_ok (fx : Fx P w K T mg base) : DFn P w K T mg base 4 "_law_any_program" ["dice", "high"] sp__law_any_program := (_law_any_program_fa fx).fn fx.mg__law_any_program
def t__law_is_one : DTS := (sSeq (sSet 1 (dLst (dCons (dC (.str "set")) (dCons (dC (.str "copy")) (dCons (dC (.str "add")) (dCons (dC (.str "take")) (dCons (dC (.str "less")) (dCons (dC (.str "go")) (dCons (dC (.str "zero")) (dCons (dC (.str "read")) (dCons (dC (.str "write")) (dCons (dC (.str "ask")) (dCons (dC (.str "tell")) dNil))))))))))))) (sSeq (sSet 1 (dOp pyAdd (dVar 1) (dLst (dCons (dC (.str "look")) (dCons (dC (.str "mark")) (dCons (dC (.str "end")) dNil)))))) (sSeq (sIf (dOr (dTest (dOp pyEq (dVar 0) (dTup dNil))) (dOr (dNot (dTest (dUn (pyIsi "str") (dOp pyItem (dVar 0) (dC (.int 0)))))) (dTest (dOp pyNotIn (dOp pyItem (dVar 0) (dC (.int 0))) (dVar 1))))) (sRet (dC (.bl false))) sNext) (sSeq (sIf (dTest (dOp pyNe (dB pyLen (dCons (dVar 0) dNil)) (dOp pyAdd (dB pyLen (dCons (dCall sp__law_sorts (dCons (dOp pyItem (dVar 0) (dC (.int 0))) dNil)) dNil)) (dC (.int 1))))) (sRet (dC (.bl false))) sNext) (sSeq (sFor (dZip (dCons (dCall sp__law_sorts (dCons (dOp pyItem (dVar 0) (dC (.int 0))) dNil)) (dCons (dSlice (dVar 0) (dPart (dC (.int 1))) dNoPart) dNil))) (.t [2, 3]) (sSeq (sSet 4 (dAndV (dUn (pyIsi "int") (dVar 3)) (dNotV (dUn (pyIsi "bool") (dVar 3))))) (sSeq (sIf (dTest (dOp pyEq (dVar 2) (dC (.str "w")))) (sSeq (sSet 5 (dAndV (dUn (pyIsi "str") (dVar 3)) (dChain pyLt pyLt (dC (.int 0)) (dB pyLen (dCons (dVar 3) dNil)) (dC (.int 9))))) (sSet 5 (dAndV (dVar 5) (dOp pyEq (dLc (dIter (dVar 3)) (.n 6) (dNot (dTest (dChain pyLe pyLe (dC (.str "a")) (dVar 6) (dC (.str "z"))))) (dVar 6) [6]) (dLst dNil))))) (sSeq (sTg (.t [7, 8]) (dOp pyItem (dDct (List.cons (Prod.mk (dC (.str "r")) (dTup (dCons (dC (.int 0)) (dCons (dC (.int 3)) dNil)))) (List.cons (Prod.mk (dC (.str "n")) (dTup (dCons (dUn pyNeg (dC (.int 999))) (dCons (dC (.int 999)) dNil)))) (List.cons (Prod.mk (dC (.str "g")) (dTup (dCons (dC (.int 0)) (dCons (dC (.int 99)) dNil)))) [])))) (dVar 2))) (sSet 5 (dAndV (dVar 4) (dChain pyLe pyLe (dVar 7) (dVar 3) (dVar 8)))))) (sIf (dNot (dTest (dVar 5))) (sRet (dC (.bl false))) sNext)))) (sRet (dC (.bl true))))))))
abbrev sp__law_is_one : DSp := spOf ["thing", "words", "sort", "part", "is_int", "good", "sign", "low", "high"] 1 t__law_is_one
def e__law_is_one : List D → Option (Except DX D) := fnE ["thing", "words", "sort", "part", "is_int", "good", "sign", "low", "high"] 1 (xSeq (xSet 1 (eLst (eCons (eC (.str "set")) (eCons (eC (.str "copy")) (eCons (eC (.str "add")) (eCons (eC (.str "take")) (eCons (eC (.str "less")) (eCons (eC (.str "go")) (eCons (eC (.str "zero")) (eCons (eC (.str "read")) (eCons (eC (.str "write")) (eCons (eC (.str "ask")) (eCons (eC (.str "tell")) (eC [])))))))))))))) (xSeq (xSet 1 (eOp pyAdd (eVar 1) (eLst (eCons (eC (.str "look")) (eCons (eC (.str "mark")) (eCons (eC (.str "end")) (eC []))))))) (xSeq (xIf (eOr (eTest (eOp pyEq (eVar 0) (eTup (eC [])))) (eOr (eNot (eTest (eUn (pyIsi "str") (eOp pyItem (eVar 0) (eC (.int 0)))))) (eTest (eOp pyNotIn (eOp pyItem (eVar 0) (eC (.int 0))) (eVar 1))))) (xRet (eC (.bl false))) (xNext)) (xSeq (xIf (eTest (eOp pyNe (eB pyLen (eCons (eVar 0) (eC []))) (eOp pyAdd (eB pyLen (eCons (eCall e__law_sorts (eCons (eOp pyItem (eVar 0) (eC (.int 0))) (eC []))) (eC []))) (eC (.int 1))))) (xRet (eC (.bl false))) (xNext)) (xSeq (xFor (eZip (eCons (eCall e__law_sorts (eCons (eOp pyItem (eVar 0) (eC (.int 0))) (eC []))) (eCons (eSlice (eVar 0) (ePart (eC (.int 1))) (eC none)) (eC [])))) (.t [2, 3]) (xSeq (xSet 4 (eAndV (eUn (pyIsi "int") (eVar 3)) (eNotV (eUn (pyIsi "bool") (eVar 3))))) (xSeq (xIf (eTest (eOp pyEq (eVar 2) (eC (.str "w")))) (xSeq (xSet 5 (eAndV (eUn (pyIsi "str") (eVar 3)) (eChain pyLt pyLt (eC (.int 0)) (eB pyLen (eCons (eVar 3) (eC []))) (eC (.int 9))))) (xSet 5 (eAndV (eVar 5) (eOp pyEq (eLc (eIter (eVar 3)) (.n 6) (eNot (eTest (eChain pyLe pyLe (eC (.str "a")) (eVar 6) (eC (.str "z"))))) (eVar 6) [6]) (eLst (eC [])))))) (xSeq (xTg (.t [7, 8]) (eOp pyItem (eDct (List.cons (Prod.mk (eC (.str "r")) (eTup (eCons (eC (.int 0)) (eCons (eC (.int 3)) (eC []))))) (List.cons (Prod.mk (eC (.str "n")) (eTup (eCons (eUn pyNeg (eC (.int 999))) (eCons (eC (.int 999)) (eC []))))) (List.cons (Prod.mk (eC (.str "g")) (eTup (eCons (eC (.int 0)) (eCons (eC (.int 99)) (eC []))))) [])))) (eVar 2))) (xSet 5 (eAndV (eVar 4) (eChain pyLe pyLe (eVar 7) (eVar 3) (eVar 8)))))) (xIf (eNot (eTest (eVar 5))) (xRet (eC (.bl false))) (xNext))))) (xRet (eC (.bl true))))))))
theorem ev__law_is_one : EvF sp__law_is_one e__law_is_one := evf (xv_seq (xv_set (ev_lst (ev_cons (ev_c _) (ev_cons (ev_c _) (ev_cons (ev_c _) (ev_cons (ev_c _) (ev_cons (ev_c _) (ev_cons (ev_c _) (ev_cons (ev_c _) (ev_cons (ev_c _) (ev_cons (ev_c _) (ev_cons (ev_c _) (ev_cons (ev_c _) (ev_nil)))))))))))))) (xv_seq (xv_set (ev_op m_add (ev_var 1) (ev_lst (ev_cons (ev_c _) (ev_cons (ev_c _) (ev_cons (ev_c _) (ev_nil))))))) (xv_seq (xv_if (ev_or (ev_test (ev_op m_eq (ev_var 0) (ev_tup (ev_nil)))) (ev_or (ev_not (ev_test (ev_un m_isi (ev_op m_item (ev_var 0) (ev_c _))))) (ev_test (ev_op m_notin (ev_op m_item (ev_var 0) (ev_c _)) (ev_var 1))))) (xv_ret (ev_c _)) (xv_next)) (xv_seq (xv_if (ev_test (ev_op m_ne (ev_b m_len (ev_cons (ev_var 0) (ev_nil))) (ev_op m_add (ev_b m_len (ev_cons (ev_call ev__law_sorts (ev_cons (ev_op m_item (ev_var 0) (ev_c _)) (ev_nil))) (ev_nil))) (ev_c _)))) (xv_ret (ev_c _)) (xv_next)) (xv_seq (xv_for (ev_zip (ev_cons (ev_call ev__law_sorts (ev_cons (ev_op m_item (ev_var 0) (ev_c _)) (ev_nil))) (ev_cons (ev_slice (ev_var 0) (ev_part (ev_c _)) (ev_noPart)) (ev_nil)))) (xv_seq (xv_set (ev_andV (ev_un m_isi (ev_var 3)) (ev_notV (ev_un m_isi (ev_var 3))))) (xv_seq (xv_if (ev_test (ev_op m_eq (ev_var 2) (ev_c _))) (xv_seq (xv_set (ev_andV (ev_un m_isi (ev_var 3)) (ev_chain m_lt m_lt (ev_c _) (ev_b m_len (ev_cons (ev_var 3) (ev_nil))) (ev_c _)))) (xv_set (ev_andV (ev_var 5) (ev_op m_eq (ev_lc (ev_iter (ev_var 3)) (ev_not (ev_test (ev_chain m_le m_le (ev_c _) (ev_var 6) (ev_c _)))) (ev_var 6)) (ev_lst (ev_nil)))))) (xv_seq (xv_tg (ev_op m_item (ev_dct (.cons (ev_c _) (ev_tup (ev_cons (ev_c _) (ev_cons (ev_c _) (ev_nil)))) (.cons (ev_c _) (ev_tup (ev_cons (ev_un m_neg (ev_c _)) (ev_cons (ev_c _) (ev_nil)))) (.cons (ev_c _) (ev_tup (ev_cons (ev_c _) (ev_cons (ev_c _) (ev_nil)))) .nil)))) (ev_var 2))) (xv_set (ev_andV (ev_var 4) (ev_chain m_le m_le (ev_var 7) (ev_var 3) (ev_var 8)))))) (xv_if (ev_not (ev_test (ev_var 5))) (xv_ret (ev_c _)) (xv_next))))) (xv_ret (ev_c _)))))))
theorem sc__law_is_one : FnScope ["thing", "words", "sort", "part", "is_int", "good", "sign", "low", "high"] ["thing"] (defScope s__law_is_one) := ⟨rfl, rfl, rfl, by decide +kernel, rfl, by decide +kernel, by decide +kernel⟩
theorem _law_is_one_fa (fx : Fx P w K T mg base) : DFa P w K T mg base 2 ("_law_is_one", none) ["thing"] sp__law_is_one :=
  dfa_of fx.fd__law_is_one sc__law_is_one (fun _ _ _ _ _ _ us hl => match us, hl with | [_], _ => rfl) (fun cdv A outer s H E hcd hr => (qs_cons (qs_set sc__law_is_one.nd rfl (by first | exact Or.inl rfl | exact Or.inr rfl) (q_lst (qa_cons (q_str) (qa_cons (q_str) (qa_cons (q_str) (qa_cons (q_str) (qa_cons (q_str) (qa_cons (q_str) (qa_cons (q_str) (qa_cons (q_str) (qa_cons (q_str) (qa_cons (q_str) (qa_cons (q_str) qa_nil))))))))))))) (qs_cons (qs_set sc__law_is_one.nd rfl (by first | exact Or.inl rfl | exact Or.inr rfl) (q_op op_pyAdd (qv 1) (q_lst (qa_cons (q_str) (qa_cons (q_str) (qa_cons (q_str) qa_nil)))))) (qs_cons (qs_if (qt_w (qw_or (q_cmpT (op_pyEq hr.units) (qv 0) (q_tup qa_nil) (nomark _)) (qw_or (qt_not (qt_val (q_isi rfl (fx.free "isinstance" (by decide)) rfl (fx.free "str" (by decide)) boot_str (q_item (hu_of hr) (qv 0) (q_int))))) (qw_or1 (q_cmpT (op_pyNotIn (hu_of hr)) (q_item (hu_of hr) (qv 0) (q_int)) (qv 1) rfl))))) (qs_one (qs_ret (q_bl))) qs_nil) (qs_cons (qs_if (q_cmpT (op_pyNe hr.units) (q_callB call_pyLen rfl (fx.free "len" (by decide)) boot_len (qa_cons (qv 0) qa_nil)) (q_op op_pyAdd (q_callB call_pyLen rfl (fx.free "len" (by decide)) boot_len (qa_cons (q_call (_law_sorts_ok fx) hr (by decide) (L2N.takes_of rfl rfl rfl rfl) rfl (qa_cons (q_item (hu_of hr) (qv 0) (q_int)) qa_nil)) qa_nil)) (q_int)) (nomark _)) (qs_one (qs_ret (q_bl))) qs_nil) (qs_cons (qs_for (passes_of rfl) rfl (qi_zip rfl (fx.free "zip" (by decide)) (qa_cons (q_call (_law_sorts_ok fx) hr (by decide) (L2N.takes_of rfl rfl rfl rfl) rfl (qa_cons (q_item (hu_of hr) (qv 0) (q_int)) qa_nil)) (qa_cons (q_slice (qv 0) (qo_some (q_int)) qo_none) qa_nil))) (pg_tup rfl (pgs_cons (pg_name sc__law_is_one.nd rfl (by first | exact Or.inl rfl | exact Or.inr rfl)) (pgs_cons (pg_name sc__law_is_one.nd rfl (by first | exact Or.inl rfl | exact Or.inr rfl)) pgs_nil))) (qs_cons (qs_set sc__law_is_one.nd rfl (by first | exact Or.inl rfl | exact Or.inr rfl) (q_and (q_isi rfl (fx.free "isinstance" (by decide)) rfl (fx.free "int" (by decide)) boot_int (qv 3)) (q_one (q_not (q_isi rfl (fx.free "isinstance" (by decide)) rfl (fx.free "bool" (by decide)) boot_bool (qv 3)))))) (qs_cons (qs_if (q_cmpT (op_pyEq hr.units) (qv 2) (q_str) (nomark _)) (qs_cons (qs_set sc__law_is_one.nd rfl (by first | exact Or.inl rfl | exact Or.inr rfl) (q_and (q_isi rfl (fx.free "isinstance" (by decide)) rfl (fx.free "str" (by decide)) boot_str (qv 3)) (q_one (q_chain op_pyLt op_pyLt (q_int) (q_callB call_pyLen rfl (fx.free "len" (by decide)) boot_len (qa_cons (qv 3) qa_nil)) (q_int))))) (qs_one (qs_set sc__law_is_one.nd rfl (by first | exact Or.inl rfl | exact Or.inr rfl) (q_and (qv 5) (q_one (q_cmp (op_pyEq hr.units) (q_lc [("sign", 6)] rfl sc__law_is_one.nd (qi_it (qv 3)) (blkOk_by (by kernel_rfl)) rfl (fun s H C cl fp => (pg_name sc__law_is_one.nd rfl (by first | exact Or.inl rfl | exact Or.inr rfl))) (fun s H C cl fp => (qts_one (qt_not (q_chainT op_pyLe op_pyLe (q_str) (qv 6) (q_str))))) (fun s H C cl fp => (qv 6))) (q_lst qa_nil) (nomark _))))))) (qs_cons (qs_tg (q_item (hu_of hr) (q_dct (qp_cons (q_str) (q_tup (qa_cons (q_int) (qa_cons (q_int) qa_nil))) (qp_cons (q_str) (q_tup (qa_cons (q_un un_pyNeg (q_int)) (qa_cons (q_int) qa_nil))) (qp_cons (q_str) (q_tup (qa_cons (q_int) (qa_cons (q_int) qa_nil))) qp_nil)))) (qv 2)) (pg_tup rfl (pgs_cons (pg_name sc__law_is_one.nd rfl (by first | exact Or.inl rfl | exact Or.inr rfl)) (pgs_cons (pg_name sc__law_is_one.nd rfl (by first | exact Or.inl rfl | exact Or.inr rfl)) pgs_nil)))) (qs_one (qs_set sc__law_is_one.nd rfl (by first | exact Or.inl rfl | exact Or.inr rfl) (q_and (qv 4) (q_one (q_chain op_pyLe op_pyLe (qv 7) (qv 3) (qv 8)))))))) (qs_one (qs_if (qt_not (qt_val (qv 5))) (qs_one (qs_ret (q_bl))) qs_nil))))) (qs_one (qs_ret (q_bl)))))))))
theorem _law_is_one_ok (fx : Fx P w K T mg base) : DFn P w K T mg base 2 "_law_is_one" ["thing"] sp__law_is_one := (_law_is_one_fa fx).fn fx.mg__law_is_one
def t__law_cell : DTS := (sSeq (sIf (dTest (dOp pyEq (dVar 0) (dLst dNil))) (sRet (dOp pyMul (dVar 1) (dC (.int 7919)))) sNext) (sRet (dOp pyAdd (dOp pyItem (dVar 0) (dOp pyMod (dVar 1) (dB pyLen (dCons (dVar 0) dNil)))) (dOp pyMul (dOp pyDiv (dVar 1) (dB pyLen (dCons (dVar 0) dNil))) (dC (.int 104729))))))
abbrev sp__law_cell : DSp := spOf ["script", "k"] 2 t__law_cell
def e__law_cell : List D → Option (Except DX D) := fnE ["script", "k"] 2 (xSeq (xIf (eTest (eOp pyEq (eVar 0) (eLst (eC [])))) (xRet (eOp pyMul (eVar 1) (eC (.int 7919)))) (xNext)) (xRet (eOp pyAdd (eOp pyItem (eVar 0) (eOp pyMod (eVar 1) (eB pyLen (eCons (eVar 0) (eC []))))) (eOp pyMul (eOp pyDiv (eVar 1) (eB pyLen (eCons (eVar 0) (eC [])))) (eC (.int 104729))))))
theorem ev__law_cell : EvF sp__law_cell e__law_cell := evf (xv_seq (xv_if (ev_test (ev_op m_eq (ev_var 0) (ev_lst (ev_nil)))) (xv_ret (ev_op m_mul (ev_var 1) (ev_c _))) (xv_next)) (xv_ret (ev_op m_add (ev_op m_item (ev_var 0) (ev_op m_mod (ev_var 1) (ev_b m_len (ev_cons (ev_var 0) (ev_nil))))) (ev_op m_mul (ev_op m_div (ev_var 1) (ev_b m_len (ev_cons (ev_var 0) (ev_nil)))) (ev_c _)))))
theorem sc__law_cell : FnScope ["script", "k"] ["script", "k"] (defScope s__law_cell) := ⟨rfl, rfl, rfl, by decide +kernel, rfl, by decide +kernel, by decide +kernel⟩
theorem _law_cell_fa (fx : Fx P w K T mg base) : DFa P w K T mg base 1 ("_law_cell", none) ["script", "k"] sp__law_cell :=
  dfa_of fx.fd__law_cell sc__law_cell (fun _ _ _ _ _ _ us hl => match us, hl with | [_, _], _ => rfl) (fun cdv A outer s H E hcd hr => (qs_cons (qs_if (q_cmpT (op_pyEq hr.units) (qv 0) (q_lst qa_nil) (nomark _)) (qs_one (qs_ret (q_op op_pyMul (qv 1) (q_int)))) qs_nil) (qs_one (qs_ret (q_op op_pyAdd (q_item (hu_of hr) (qv 0) (q_op op_pyMod (qv 1) (q_callB call_pyLen rfl (fx.free "len" (by decide)) boot_len (qa_cons (qv 0) qa_nil)))) (q_op op_pyMul (q_op op_pyDiv (qv 1) (q_callB call_pyLen rfl (fx.free "len" (by decide)) boot_len (qa_cons (qv 0) qa_nil))) (q_int)))))))
theorem _law_cell_ok (fx : Fx P w K T mg base) : DFn P w K T mg base 1 "_law_cell" ["script", "k"] sp__law_cell := (_law_cell_fa fx).fn fx.mg__law_cell
def t__law_rounds : DTS := (sRet (dLc (dRange1 (dCons (dB pyMax2 (dCons (dC (.int 1)) (dCons (dB pyMin2 (dCons (dVar 1) (dCons (dB pyLen (dCons (dVar 0) dNil)) dNil))) dNil))) dNil)) (.n 2) dYes (dLstB (dCons (dCall sp__law_cell (dCons (dVar 0) (dCons (dVar 2) dNil))) (dCons (dC (.int 0)) dNil))) [2]))
abbrev sp__law_rounds : DSp := spOf ["script", "high", "k"] 2 t__law_rounds
theorem sc__law_rounds : FnScope ["script", "high", "k"] ["script", "high"] (defScope s__law_rounds) := ⟨rfl, rfl, rfl, by decide +kernel, rfl, by decide +kernel, by decide +kernel⟩
theorem _law_rounds_fa (fx : Fx P w K T mg base) : DFa P w K T mg base 2 ("_law_rounds", none) ["script", "high"] sp__law_rounds :=
  dfa_of fx.fd__law_rounds sc__law_rounds (fun _ _ _ _ _ _ us hl => match us, hl with | [_, _], _ => rfl) (fun cdv A outer s H E hcd hr => (qs_one (qs_ret (q_lc [("k", 2)] rfl sc__law_rounds.nd (qi_range1 rfl (fx.free "range" (by decide)) (qa_cons (q_callB (call_pyMax2 rfl) rfl (fx.free "max" (by decide)) boot_max (qa_cons (q_int) (qa_cons (q_callB (call_pyMin2 rfl) rfl (fx.free "min" (by decide)) boot_min (qa_cons (qv 1) (qa_cons (q_callB call_pyLen rfl (fx.free "len" (by decide)) boot_len (qa_cons (qv 0) qa_nil)) qa_nil))) qa_nil))) qa_nil)) (blkOk_by (by kernel_rfl)) rfl (fun s H C cl fp => (pg_name sc__law_rounds.nd rfl (by first | exact Or.inl rfl | exact Or.inr rfl))) (fun s H C cl fp => qts_nil) (fun s H C cl fp => (q_lstB (qa_cons (q_call (_law_cell_ok fx) hr (by decide) takesF rfl (qa_cons (qv 0) (qa_cons (qv 2) qa_nil))) (qa_cons (q_int) qa_nil))))))))
theorem _law_rounds_ok (fx : Fx P w K T mg base) : DFn P w K T mg base 2 "_law_rounds" ["script", "high"] sp__law_rounds := (_law_rounds_fa fx).fn fx.mg__law_rounds
def t_term (a : Addr) (c : String) : DTS :=
  sSeq (sSet 1 (dLst (dCons (dIsE 0 a (c == "BadProgram")) (dCons (dIsE 0 a (c == "BadRights")) (dCons (dIsE 0 a (c == "BadNumber")) (dCons (dIsE 0 a (c == "BadFeeds")) dNil))))))
  (sSeq (sSet 1 (dOp pyAdd (dVar 1) (dLst (dCons (dIsE 0 a (c == "BadPaper")) (dCons (dIsE 0 a (c == "BadName")) (dCons (dIsE 0 a (c == "Taken")) (dCons (dIsE 0 a (c == "NoName")) dNil)))))))
  (sSeq (sSet 1 (dOp pyAdd (dVar 1) (dLst (dCons (dIsE 0 a (c == "TooMuch")) (dCons (dIsE 0 a (c == "Nothing")) (dCons (dIsE 0 a (c == "BadPicture")) (dCons (dIsE 0 a (c == "BadLog")) dNil)))))))
  (sSeq (sSet 1 (dOp pyAdd (dVar 1) (dLst (dCons (dIsE 0 a (c == "BadText")) dNil))))
  (sSeq (sSet 2 (dLst (dCons (dC (.str "BadProgram")) (dCons (dC (.str "BadRights")) (dCons (dC (.str "BadNumber")) (dCons (dC (.str "BadFeeds")) (dCons (dC (.str "BadPaper")) (dCons (dC (.str "BadName")) (dCons (dC (.str "Taken")) (dCons (dC (.str "NoName")) (dCons (dC (.str "TooMuch")) dNil)))))))))))
  (sSeq (sSet 2 (dOp pyAdd (dVar 2) (dLst (dCons (dC (.str "Nothing")) (dCons (dC (.str "BadPicture")) (dCons (dC (.str "BadLog")) (dCons (dC (.str "BadText")) dNil)))))))
  (sSeq (sIf (dOr (dTest (dOp pyNe (dB pySum (dCons (dLc (dIterL (dVar 1)) (.n 3) dYes (dB pyIntS (dCons (dVar 3) dNil)) [3]) dNil)) (dC (.int 1)))) (dNot (dTest (dIsE 0 a true)))) (sRet (dTup (dCons (dC (.str "refused")) (dCons (dC (.str "other")) dNil)))) sNext)
  (sRet (dTup (dCons (dC (.str "refused")) (dCons (dOp pyItem (dVar 2) (dMt "list" mIndex (dVar 1) (dCons (dC (.bl true)) dNil))) dNil))))))))))
theorem sc__law_term : FnScope ["e", "flags", "kinds", "flag"] ["e"] (defScope s__law_term) := ⟨rfl, rfl, rfl, by decide +kernel, rfl, by decide +kernel, by decide +kernel⟩
theorem term_plain (a : Addr) (c : String) (G : DG) (Q : DK) (hc : c ∈ refusals) (h : Q (.tup [.str "refused", .str c]) G) : t_term a c EF { nx := fun _ G' => Q .non G', rt := Q } (dstart ["e", "flags", "kinds", "flag"] [.ref a]) G := by
  simp only [t_term, sSeq, sSet, dLst, dCons, dNil, dIsE, dOp, dVar, dC, dstart, sIf, dOr, dTest, dB, dLc, dIterL, dNot, sRet, sNext, dTup, dMt, List.map_cons, List.map_nil, List.replicate, List.length_cons, List.length_nil]
  refine ⟨rfl, rfl, rfl, rfl, by decide, _, rfl, rfl, rfl, rfl, rfl, by decide, _, rfl, _, rfl, rfl, rfl, rfl, rfl, by decide, _, rfl, _, rfl, rfl, by decide, _, rfl, by decide, _, rfl, by decide, _, rfl, _, rfl, _, rfl, (by simp), ?_⟩
  refine eLcL_ok (et := eC true) (e := eB pyIntS (eCons (eVar 3) (eC []))) (ys := kinds13.map fun k => D.int (if (c == k) = true then 1 else 0)) ev_yes (ev_b m_int (ev_cons (ev_var 3) ev_nil)) (fun G => rfl) (by kernel_rfl) ?_
  simp only [refusals, List.mem_cons, List.not_mem_nil, or_false] at hc
  rcases hc with rfl | rfl | rfl | rfl | rfl | rfl | rfl | rfl | rfl | rfl | rfl | rfl
  all_goals
    refine ⟨.int 1, by kernel_rfl, .bl false, by kernel_rfl, false, rfl, ?_⟩
    simp only [Bool.false_eq_true, if_false]
    refine ⟨rfl, true, rfl, ?_⟩
    simp only [Bool.not_true, Bool.false_eq_true, if_false]
    refine ⟨_, rfl, _, rfl, by kernel_rfl, ?_⟩
  · exact ⟨.int 0, G, by kernel_rfl, _, by kernel_rfl, by decide, h⟩
  · exact ⟨.int 1, G, by kernel_rfl, _, by kernel_rfl, by decide, h⟩
  · exact ⟨.int 2, G, by kernel_rfl, _, by kernel_rfl, by decide, h⟩
  · exact ⟨.int 3, G, by kernel_rfl, _, by kernel_rfl, by decide, h⟩
  · exact ⟨.int 4, G, by kernel_rfl, _, by kernel_rfl, by decide, h⟩
  · exact ⟨.int 5, G, by kernel_rfl, _, by kernel_rfl, by decide, h⟩
  · exact ⟨.int 6, G, by kernel_rfl, _, by kernel_rfl, by decide, h⟩
  · exact ⟨.int 7, G, by kernel_rfl, _, by kernel_rfl, by decide, h⟩
  · exact ⟨.int 9, G, by kernel_rfl, _, by kernel_rfl, by decide, h⟩
  · exact ⟨.int 10, G, by kernel_rfl, _, by kernel_rfl, by decide, h⟩
  · exact ⟨.int 11, G, by kernel_rfl, _, by kernel_rfl, by decide, h⟩
  · exact ⟨.int 12, G, by kernel_rfl, _, by kernel_rfl, by decide, h⟩

theorem _law_term_ok (fx : Fx P w K T mg base) : DTerm P w K T mg base 1 := by
  obtain ⟨fd, F⟩ := fx.fd__law_term
  exact dterm_of (t := t_term) F fx.mg__law_term sc__law_term (fun _ _ _ _ _ _ us hl => match us, hl with | [_], _ => rfl) (fun cdv A outer s H p c hot hr hz hf hc => (qs_cons (qs_set sc__law_term.nd rfl (by first | exact Or.inl rfl | exact Or.inr rfl) (q_lst (qa_cons (q_isE (fx.told.exc c hc) hz hf List.mem_cons_self rfl (fx.free "isinstance" (by decide)) rfl (Or.inl rfl) (pe_glob rfl (fx.mgC "BadProgram" (by decide)) (v := .ref (He.ga K (S "BadProgram"))) rfl) (fun _ h => h) (fx.told.kit c hc "BadProgram" (by decide))) (qa_cons (q_isE (fx.told.exc c hc) hz hf List.mem_cons_self rfl (fx.free "isinstance" (by decide)) rfl (Or.inl rfl) (pe_glob rfl (fx.mgC "BadRights" (by decide)) (v := .ref (He.ga K (S "BadRights"))) rfl) (fun _ h => h) (fx.told.kit c hc "BadRights" (by decide))) (qa_cons (q_isE (fx.told.exc c hc) hz hf List.mem_cons_self rfl (fx.free "isinstance" (by decide)) rfl (Or.inl rfl) (pe_glob rfl (fx.mgC "BadNumber" (by decide)) (v := .ref (He.ga K (S "BadNumber"))) rfl) (fun _ h => h) (fx.told.kit c hc "BadNumber" (by decide))) (qa_cons (q_isE (fx.told.exc c hc) hz hf List.mem_cons_self rfl (fx.free "isinstance" (by decide)) rfl (Or.inl rfl) (pe_glob rfl (fx.mgC "BadFeeds" (by decide)) (v := .ref (He.ga K (S "BadFeeds"))) rfl) (fun _ h => h) (fx.told.kit c hc "BadFeeds" (by decide))) qa_nil)))))) (qs_cons (qs_set sc__law_term.nd rfl (by first | exact Or.inl rfl | exact Or.inr rfl) (q_op op_pyAdd (qv 1) (q_lst (qa_cons (q_isE (fx.told.exc c hc) hz hf List.mem_cons_self rfl (fx.free "isinstance" (by decide)) rfl (Or.inl rfl) (pe_glob rfl (fx.mgC "BadPaper" (by decide)) (v := .ref (He.ga K (S "BadPaper"))) rfl) (fun _ h => h) (fx.told.kit c hc "BadPaper" (by decide))) (qa_cons (q_isE (fx.told.exc c hc) hz hf List.mem_cons_self rfl (fx.free "isinstance" (by decide)) rfl (Or.inl rfl) (pe_glob rfl (fx.mgC "BadName" (by decide)) (v := .ref (He.ga K (S "BadName"))) rfl) (fun _ h => h) (fx.told.kit c hc "BadName" (by decide))) (qa_cons (q_isE (fx.told.exc c hc) hz hf List.mem_cons_self rfl (fx.free "isinstance" (by decide)) rfl (Or.inl rfl) (pe_glob rfl (fx.mgC "Taken" (by decide)) (v := .ref (He.ga K (S "Taken"))) rfl) (fun _ h => h) (fx.told.kit c hc "Taken" (by decide))) (qa_cons (q_isE (fx.told.exc c hc) hz hf List.mem_cons_self rfl (fx.free "isinstance" (by decide)) rfl (Or.inl rfl) (pe_glob rfl (fx.mgC "NoName" (by decide)) (v := .ref (He.ga K (S "NoName"))) rfl) (fun _ h => h) (fx.told.kit c hc "NoName" (by decide))) qa_nil))))))) (qs_cons (qs_set sc__law_term.nd rfl (by first | exact Or.inl rfl | exact Or.inr rfl) (q_op op_pyAdd (qv 1) (q_lst (qa_cons (q_isE (fx.told.exc c hc) hz hf List.mem_cons_self rfl (fx.free "isinstance" (by decide)) rfl (Or.inl rfl) (pe_glob rfl (fx.mgC "TooMuch" (by decide)) (v := .ref (He.ga K (S "TooMuch"))) rfl) (fun _ h => h) (fx.told.kit c hc "TooMuch" (by decide))) (qa_cons (q_isE (fx.told.exc c hc) hz hf List.mem_cons_self rfl (fx.free "isinstance" (by decide)) rfl (Or.inl rfl) (pe_glob rfl (fx.mgC "Nothing" (by decide)) (v := .ref (He.ga K (S "Nothing"))) rfl) (fun _ h => h) (fx.told.kit c hc "Nothing" (by decide))) (qa_cons (q_isE (fx.told.exc c hc) hz hf List.mem_cons_self rfl (fx.free "isinstance" (by decide)) rfl (Or.inl rfl) (pe_glob rfl (fx.mgC "BadPicture" (by decide)) (v := .ref (He.ga K (S "BadPicture"))) rfl) (fun _ h => h) (fx.told.kit c hc "BadPicture" (by decide))) (qa_cons (q_isE (fx.told.exc c hc) hz hf List.mem_cons_self rfl (fx.free "isinstance" (by decide)) rfl (Or.inl rfl) (pe_glob rfl (fx.mgC "BadLog" (by decide)) (v := .ref (He.ga K (S "BadLog"))) rfl) (fun _ h => h) (fx.told.kit c hc "BadLog" (by decide))) qa_nil))))))) (qs_cons (qs_set sc__law_term.nd rfl (by first | exact Or.inl rfl | exact Or.inr rfl) (q_op op_pyAdd (qv 1) (q_lst (qa_cons (q_isE (fx.told.exc c hc) hz hf List.mem_cons_self rfl (fx.free "isinstance" (by decide)) rfl (Or.inl rfl) (pe_glob rfl (fx.mgC "BadText" (by decide)) (v := .ref (He.ga K (S "BadText"))) rfl) (fun _ h => h) (fx.told.kit c hc "BadText" (by decide))) qa_nil)))) (qs_cons (qs_set sc__law_term.nd rfl (by first | exact Or.inl rfl | exact Or.inr rfl) (q_lst (qa_cons q_str (qa_cons q_str (qa_cons q_str (qa_cons q_str (qa_cons q_str (qa_cons q_str (qa_cons q_str (qa_cons q_str (qa_cons q_str qa_nil))))))))))) (qs_cons (qs_set sc__law_term.nd rfl (by first | exact Or.inl rfl | exact Or.inr rfl) (q_op op_pyAdd (qv 2) (q_lst (qa_cons q_str (qa_cons q_str (qa_cons q_str (qa_cons q_str qa_nil))))))) (qs_cons (qs_if (qt_w (qw_or (q_cmpT (op_pyNe (hotu hr)) (q_callB (call_pySumQ ⟨p, hot, List.mem_cons_self⟩) rfl (fx.free "sum" (by decide)) boot_sum (qa_cons (q_lcQ [("flag", 3)] ⟨p, hot, List.mem_cons_self⟩ sc__law_term.nd (qiq_it (qv 1)) (blkOk_by (by kernel_rfl)) rfl (fun s H C cl fp => pg_name sc__law_term.nd rfl (by first | exact Or.inl rfl | exact Or.inr rfl)) (fun s H C cl fp => qts_nil) (fun s H C cl fp => q_callTy call_pyIntS rfl (fx.free "int" (by decide)) boot_int (qa_cons (qv 3) qa_nil))) qa_nil)) q_int (nomark _)) (qw_or1 (qt_not (qt_val (q_isE (fx.told.exc c hc) hz hf List.mem_cons_self rfl (fx.free "isinstance" (by decide)) rfl (Or.inl rfl) (pe_bltn rfl (fx.free "ValueError" (by decide)) bootVE (v := .ty "ValueError") rfl) (fun _ h => h) (fx.told.kitV c hc))))))) (qs_one (qs_ret (q_tup (qa_cons q_str (qa_cons q_str qa_nil))))) qs_nil) (qs_one (qs_ret (q_tup (qa_cons q_str (qa_cons (q_item (hotu1 hr) (qv 2) (q_mt PySem.F.plainAttrs_list PySem.F.slot_list_index PySem.F.type_list_index mt_mIndex (qv 1) (qa_cons q_bl qa_nil))) qa_nil))))))))))))) term_plain
theorem _law_told_ok (fx : Fx P w K T mg base) : DTold P w K T mg base 8 := by
  obtain ⟨fd, F⟩ := fx.fd__law_told
  exact dtold_of F fx.mg__law_told ⟨rfl, rfl, rfl, by decide +kernel, rfl, by decide +kernel, by decide +kernel⟩ (fun _ _ _ _ _ _ _ us hl => match us, hl with | [_], _ => rfl) fx.told ((_law_term_ok fx).mono (by decide)) (Or.inl rfl) rfl rfl rfl rfl (fx.mgC "TooMuch" (by decide)) (fx.mgC "CageError" (by decide))
def t_is_whole : DTS := (sRet (dAndV (dUn (pyIsi "int") (dVar 0)) (dAndV (dNotV (dUn (pyIsi "bool") (dVar 0))) (dChain pyLe pyLe (dVar 1) (dVar 0) (dVar 2)))))
abbrev sp_is_whole : DSp := spOf ["thing", "low", "high"] 3 t_is_whole
def e_is_whole : List D → Option (Except DX D) := fnE ["thing", "low", "high"] 3 (xRet (eAndV (eUn (pyIsi "int") (eVar 0)) (eAndV (eNotV (eUn (pyIsi "bool") (eVar 0))) (eChain pyLe pyLe (eVar 1) (eVar 0) (eVar 2)))))
theorem ev_is_whole : EvF sp_is_whole e_is_whole := evf (xv_ret (ev_andV (ev_un m_isi (ev_var 0)) (ev_andV (ev_notV (ev_un m_isi (ev_var 0))) (ev_chain m_le m_le (ev_var 1) (ev_var 0) (ev_var 2)))))
theorem sc_is_whole : FnScope ["thing", "low", "high"] ["thing", "low", "high"] (defScope s_is_whole) := ⟨rfl, rfl, rfl, by decide +kernel, rfl, by decide +kernel, by decide +kernel⟩
theorem is_whole_fa (fx : Fx P w K T mg base) : DFa P w K T mg base 1 ("is_whole", none) ["thing", "low", "high"] sp_is_whole :=
  dfa_of fx.fd_is_whole sc_is_whole (fun _ _ _ _ _ _ us hl => match us, hl with | [_, _, _], _ => rfl) (fun cdv A outer s H E hcd hr => (qs_one (qs_ret (q_and (q_isi rfl (fx.free "isinstance" (by decide)) rfl (fx.free "int" (by decide)) boot_int (qv 0)) (q_and (q_not (q_isi rfl (fx.free "isinstance" (by decide)) rfl (fx.free "bool" (by decide)) boot_bool (qv 0))) (q_one (q_chain op_pyLe op_pyLe (qv 1) (qv 0) (qv 2))))))))
theorem is_whole_ok (fx : Fx P w K T mg base) : DFn P w K T mg base 1 "is_whole" ["thing", "low", "high"] sp_is_whole := (is_whole_fa fx).fn fx.mg_is_whole
def t_is_number : DTS := (sRet (dCall sp_is_whole (dCons (dVar 0) (dCons (dUn pyNeg (dC (.int 999))) (dCons (dC (.int 999)) dNil)))))
abbrev sp_is_number : DSp := spOf ["thing"] 1 t_is_number
def e_is_number : List D → Option (Except DX D) := fnE ["thing"] 1 (xRet (eCall e_is_whole (eCons (eVar 0) (eCons (eUn pyNeg (eC (.int 999))) (eCons (eC (.int 999)) (eC []))))))
theorem ev_is_number : EvF sp_is_number e_is_number := evf (xv_ret (ev_call ev_is_whole (ev_cons (ev_var 0) (ev_cons (ev_un m_neg (ev_c _)) (ev_cons (ev_c _) (ev_nil))))))
theorem sc_is_number : FnScope ["thing"] ["thing"] (defScope s_is_number) := ⟨rfl, rfl, rfl, by decide +kernel, rfl, by decide +kernel, by decide +kernel⟩
theorem is_number_fa (fx : Fx P w K T mg base) : DFa P w K T mg base 2 ("is_number", none) ["thing"] sp_is_number :=
  dfa_of fx.fd_is_number sc_is_number (fun _ _ _ _ _ _ us hl => match us, hl with | [_], _ => rfl) (fun cdv A outer s H E hcd hr => (qs_one (qs_ret (q_call (is_whole_ok fx) hr (by decide) (L2N.takes_of rfl rfl rfl rfl) rfl (qa_cons (qv 0) (qa_cons (q_un un_pyNeg (q_gint rfl fx.gi_FARTHEST)) (qa_cons (q_gint rfl fx.gi_FARTHEST) qa_nil)))))))
theorem is_number_ok (fx : Fx P w K T mg base) : DFn P w K T mg base 2 "is_number" ["thing"] sp_is_number := (is_number_fa fx).fn fx.mg_is_number
def t_is_word : DTS := (sRet (dAndV (dUn (pyIsi "str") (dVar 0)) (dAndV (dChain pyLe pyLe (dC (.int 1)) (dB pyLen (dCons (dVar 0) dNil)) (dC (.int 8))) (dB pyAll (dCons (dLc (dIter (dVar 0)) (.n 1) dYes (dOp pyIn (dVar 1) (dC (.str "abcdefghijklmnopqrstuvwxyz"))) [1]) dNil)))))
abbrev sp_is_word : DSp := spOf ["thing", "sign"] 1 t_is_word
def e_is_word : List D → Option (Except DX D) := fnE ["thing", "sign"] 1 (xRet (eAndV (eUn (pyIsi "str") (eVar 0)) (eAndV (eChain pyLe pyLe (eC (.int 1)) (eB pyLen (eCons (eVar 0) (eC []))) (eC (.int 8))) (eB pyAll (eCons (eLc (eIter (eVar 0)) (.n 1) (eC true) (eOp pyIn (eVar 1) (eC (.str "abcdefghijklmnopqrstuvwxyz"))) [1]) (eC []))))))
theorem ev_is_word : EvF sp_is_word e_is_word := evf (xv_ret (ev_andV (ev_un m_isi (ev_var 0)) (ev_andV (ev_chain m_le m_le (ev_c _) (ev_b m_len (ev_cons (ev_var 0) (ev_nil))) (ev_c _)) (ev_b m_all (ev_cons (ev_lc (ev_iter (ev_var 0)) (ev_yes) (ev_op m_in (ev_var 1) (ev_c _))) (ev_nil))))))
theorem sc_is_word : FnScope ["thing", "sign"] ["thing"] (defScope s_is_word) := ⟨rfl, rfl, rfl, by decide +kernel, rfl, by decide +kernel, by decide +kernel⟩
theorem is_word_fa (fx : Fx P w K T mg base) : DFa P w K T mg base 1 ("is_word", none) ["thing"] sp_is_word :=
  dfa_of fx.fd_is_word sc_is_word (fun _ _ _ _ _ _ us hl => match us, hl with | [_], _ => rfl) (fun cdv A outer s H E hcd hr => (qs_one (qs_ret (q_and (q_isi rfl (fx.free "isinstance" (by decide)) rfl (fx.free "str" (by decide)) boot_str (qv 0)) (q_and (q_chain op_pyLe op_pyLe (q_int) (q_callB call_pyLen rfl (fx.free "len" (by decide)) boot_len (qa_cons (qv 0) qa_nil)) (q_int)) (q_one (q_callB (call_pyAll rfl) rfl (fx.free "all" (by decide)) boot_all (qa_cons (q_lc [("sign", 1)] rfl sc_is_word.nd (qi_it (qv 0)) (blkOk_by (by kernel_rfl)) rfl (fun s H C cl fp => (pg_name sc_is_word.nd rfl (by first | exact Or.inl rfl | exact Or.inr rfl))) (fun s H C cl fp => qts_nil) (fun s H C cl fp => (q_cmp (op_pyIn (hu_of hr)) (qv 1) (q_gstr rfl fx.gs_SMALL) rfl))) qa_nil))))))))
theorem is_word_ok (fx : Fx P w K T mg base) : DFn P w K T mg base 1 "is_word" ["thing"] sp_is_word := (is_word_fa fx).fn fx.mg_is_word
def t_is_part : DTS := (sSeq (sIf (dTest (dOp pyEq (dVar 0) (dC (.str "r")))) (sRet (dCall sp_is_whole (dCons (dVar 1) (dCons (dC (.int 0)) (dCons (dC (.int 3)) dNil))))) sNext) (sSeq (sIf (dTest (dOp pyEq (dVar 0) (dC (.str "n")))) (sRet (dCall sp_is_number (dCons (dVar 1) dNil))) sNext) (sRet (dIf (dTest (dOp pyEq (dVar 0) (dC (.str "g")))) (dCall sp_is_whole (dCons (dVar 1) (dCons (dC (.int 0)) (dCons (dC (.int 99)) dNil)))) (dCall sp_is_word (dCons (dVar 1) dNil))))))
abbrev sp_is_part : DSp := spOf ["sort", "thing"] 2 t_is_part
def e_is_part : List D → Option (Except DX D) := fnE ["sort", "thing"] 2 (xSeq (xIf (eTest (eOp pyEq (eVar 0) (eC (.str "r")))) (xRet (eCall e_is_whole (eCons (eVar 1) (eCons (eC (.int 0)) (eCons (eC (.int 3)) (eC [])))))) (xNext)) (xSeq (xIf (eTest (eOp pyEq (eVar 0) (eC (.str "n")))) (xRet (eCall e_is_number (eCons (eVar 1) (eC [])))) (xNext)) (xRet (eIf (eTest (eOp pyEq (eVar 0) (eC (.str "g")))) (eCall e_is_whole (eCons (eVar 1) (eCons (eC (.int 0)) (eCons (eC (.int 99)) (eC []))))) (eCall e_is_word (eCons (eVar 1) (eC [])))))))
theorem ev_is_part : EvF sp_is_part e_is_part := evf (xv_seq (xv_if (ev_test (ev_op m_eq (ev_var 0) (ev_c _))) (xv_ret (ev_call ev_is_whole (ev_cons (ev_var 1) (ev_cons (ev_c _) (ev_cons (ev_c _) (ev_nil)))))) (xv_next)) (xv_seq (xv_if (ev_test (ev_op m_eq (ev_var 0) (ev_c _))) (xv_ret (ev_call ev_is_number (ev_cons (ev_var 1) (ev_nil)))) (xv_next)) (xv_ret (ev_if (ev_test (ev_op m_eq (ev_var 0) (ev_c _))) (ev_call ev_is_whole (ev_cons (ev_var 1) (ev_cons (ev_c _) (ev_cons (ev_c _) (ev_nil))))) (ev_call ev_is_word (ev_cons (ev_var 1) (ev_nil)))))))
theorem sc_is_part : FnScope ["sort", "thing"] ["sort", "thing"] (defScope s_is_part) := ⟨rfl, rfl, rfl, by decide +kernel, rfl, by decide +kernel, by decide +kernel⟩
theorem is_part_fa (fx : Fx P w K T mg base) : DFa P w K T mg base 3 ("is_part", none) ["sort", "thing"] sp_is_part :=
  dfa_of fx.fd_is_part sc_is_part (fun _ _ _ _ _ _ us hl => match us, hl with | [_, _], _ => rfl) (fun cdv A outer s H E hcd hr => (qs_cons (qs_if (q_cmpT (op_pyEq hr.units) (qv 0) (q_str) (nomark _)) (qs_one (qs_ret (q_call (is_whole_ok fx) hr (by decide) (L2N.takes_of rfl rfl rfl rfl) rfl (qa_cons (qv 1) (qa_cons (q_int) (qa_cons (q_int) qa_nil)))))) qs_nil) (qs_cons (qs_if (q_cmpT (op_pyEq hr.units) (qv 0) (q_str) (nomark _)) (qs_one (qs_ret (q_call (is_number_ok fx) hr (by decide) (L2N.takes_of rfl rfl rfl rfl) rfl (qa_cons (qv 1) qa_nil)))) qs_nil) (qs_one (qs_ret (q_if (q_cmpT (op_pyEq hr.units) (qv 0) (q_str) (nomark _)) (q_call (is_whole_ok fx) hr (by decide) (L2N.takes_of rfl rfl rfl rfl) rfl (qa_cons (qv 1) (qa_cons (q_int) (qa_cons (q_int) qa_nil)))) (q_call (is_word_ok fx) hr (by decide) (L2N.takes_of rfl rfl rfl rfl) rfl (qa_cons (qv 1) qa_nil))))))))
theorem is_part_ok (fx : Fx P w K T mg base) : DFn P w K T mg base 3 "is_part" ["sort", "thing"] sp_is_part := (is_part_fa fx).fn fx.mg_is_part
def t_is_instruction : DTS := (sSeq (sIf (dOr (dNot (dTest (dUn (pyIsi "tuple") (dVar 0)))) (dOr (dTest (dOp pyEq (dVar 0) (dTup dNil))) (dOr (dNot (dTest (dUn (pyIsi "str") (dOp pyItem (dVar 0) (dC (.int 0)))))) (dTest (dUn (kNotIn tab_FORMS) (dOp pyItem (dVar 0) (dC (.int 0)))))))) (sRet (dC (.bl false))) sNext) (sSeq (sSet 1 (dUn (kItem tab_FORMS) (dOp pyItem (dVar 0) (dC (.int 0))))) (sRet (dAndV (dOp pyEq (dB pyLen (dCons (dVar 0) dNil)) (dOp pyAdd (dB pyLen (dCons (dVar 1) dNil)) (dC (.int 1)))) (dB pyAll (dCons (dLc (dZip (dCons (dVar 1) (dCons (dSlice (dVar 0) (dPart (dC (.int 1))) dNoPart) dNil))) (.t [2, 3]) dYes (dCall sp_is_part (dCons (dVar 2) (dCons (dVar 3) dNil))) [2, 3]) dNil))))))
abbrev sp_is_instruction : DSp := spOf ["thing", "sorts", "sort", "part"] 1 t_is_instruction
def e_is_instruction : List D → Option (Except DX D) := fnE ["thing", "sorts", "sort", "part"] 1 (xSeq (xIf (eOr (eNot (eTest (eUn (pyIsi "tuple") (eVar 0)))) (eOr (eTest (eOp pyEq (eVar 0) (eTup (eC [])))) (eOr (eNot (eTest (eUn (pyIsi "str") (eOp pyItem (eVar 0) (eC (.int 0)))))) (eTest (eUn (kNotIn tab_FORMS) (eOp pyItem (eVar 0) (eC (.int 0)))))))) (xRet (eC (.bl false))) (xNext)) (xSeq (xSet 1 (eUn (kItem tab_FORMS) (eOp pyItem (eVar 0) (eC (.int 0))))) (xRet (eAndV (eOp pyEq (eB pyLen (eCons (eVar 0) (eC []))) (eOp pyAdd (eB pyLen (eCons (eVar 1) (eC []))) (eC (.int 1)))) (eB pyAll (eCons (eLc (eZip (eCons (eVar 1) (eCons (eSlice (eVar 0) (ePart (eC (.int 1))) (eC none)) (eC [])))) (.t [2, 3]) (eC true) (eCall e_is_part (eCons (eVar 2) (eCons (eVar 3) (eC [])))) [2, 3]) (eC [])))))))
theorem ev_is_instruction : EvF sp_is_instruction e_is_instruction := evf (xv_seq (xv_if (ev_or (ev_not (ev_test (ev_un m_isi (ev_var 0)))) (ev_or (ev_test (ev_op m_eq (ev_var 0) (ev_tup (ev_nil)))) (ev_or (ev_not (ev_test (ev_un m_isi (ev_op m_item (ev_var 0) (ev_c _))))) (ev_test (ev_un m_knotin (ev_op m_item (ev_var 0) (ev_c _))))))) (xv_ret (ev_c _)) (xv_next)) (xv_seq (xv_set (ev_un m_kitem (ev_op m_item (ev_var 0) (ev_c _)))) (xv_ret (ev_andV (ev_op m_eq (ev_b m_len (ev_cons (ev_var 0) (ev_nil))) (ev_op m_add (ev_b m_len (ev_cons (ev_var 1) (ev_nil))) (ev_c _))) (ev_b m_all (ev_cons (ev_lc (ev_zip (ev_cons (ev_var 1) (ev_cons (ev_slice (ev_var 0) (ev_part (ev_c _)) (ev_noPart)) (ev_nil)))) (ev_yes) (ev_call ev_is_part (ev_cons (ev_var 2) (ev_cons (ev_var 3) (ev_nil))))) (ev_nil)))))))
theorem sc_is_instruction : FnScope ["thing", "sorts", "sort", "part"] ["thing"] (defScope s_is_instruction) := ⟨rfl, rfl, rfl, by decide +kernel, rfl, by decide +kernel, by decide +kernel⟩
theorem is_instruction_fa (fx : Fx P w K T mg base) : DFa P w K T mg base 4 ("is_instruction", none) ["thing"] sp_is_instruction :=
  dfa_of fx.fd_is_instruction sc_is_instruction (fun _ _ _ _ _ _ us hl => match us, hl with | [_], _ => rfl) (fun cdv A outer s H E hcd hr => (qs_cons (qs_if (qt_w (qw_or (qt_not (qt_val (q_isi rfl (fx.free "isinstance" (by decide)) rfl (fx.free "tuple" (by decide)) boot_tuple (qv 0)))) (qw_or (q_cmpT (op_pyEq hr.units) (qv 0) (q_tup qa_nil) (nomark _)) (qw_or (qt_not (qt_val (q_isi rfl (fx.free "isinstance" (by decide)) rfl (fx.free "str" (by decide)) boot_str (q_item (hu_of hr) (qv 0) (q_int))))) (qw_or1 (q_knotinT fx.kt_FORMS rfl (q_item (hu_of hr) (qv 0) (q_int)))))))) (qs_one (qs_ret (q_bl))) qs_nil) (qs_cons (qs_set sc_is_instruction.nd rfl (by first | exact Or.inl rfl | exact Or.inr rfl) (q_kitem fx.kt_FORMS rfl (q_item (hu_of hr) (qv 0) (q_int)))) (qs_one (qs_ret (q_and (q_cmp (op_pyEq hr.units) (q_callB call_pyLen rfl (fx.free "len" (by decide)) boot_len (qa_cons (qv 0) qa_nil)) (q_op op_pyAdd (q_callB call_pyLen rfl (fx.free "len" (by decide)) boot_len (qa_cons (qv 1) qa_nil)) (q_int)) (nomark _)) (q_one (q_callB (call_pyAll rfl) rfl (fx.free "all" (by decide)) boot_all (qa_cons (q_lc [("sort", 2), ("part", 3)] rfl sc_is_instruction.nd (qi_zip rfl (fx.free "zip" (by decide)) (qa_cons (qv 1) (qa_cons (q_slice (qv 0) (qo_some (q_int)) qo_none) qa_nil))) (blkOk_by (by kernel_rfl)) rfl (fun s H C cl fp => (pg_tup rfl (pgs_cons (pg_name sc_is_instruction.nd rfl (by first | exact Or.inl rfl | exact Or.inr rfl)) (pgs_cons (pg_name sc_is_instruction.nd rfl (by first | exact Or.inl rfl | exact Or.inr rfl)) pgs_nil)))) (fun s H C cl fp => qts_nil) (fun s H C cl fp => (q_call (is_part_ok fx) hr (by decide) takesF rfl (qa_cons (qv 2) (qa_cons (qv 3) qa_nil))))) qa_nil)))))))))
theorem is_instruction_ok (fx : Fx P w K T mg base) : DFn P w K T mg base 4 "is_instruction" ["thing"] sp_is_instruction := (is_instruction_fa fx).fn fx.mg_is_instruction
def t_is_program : DTS := (sRet (dAndV (dUn (pyIsi "tuple") (dVar 0)) (dAndV (dChain pyLe pyLe (dC (.int 1)) (dB pyLen (dCons (dVar 0) dNil)) (dC (.int 40))) (dB pyAll (dCons (dLc (dIter (dVar 0)) (.n 1) dYes (dCall sp_is_instruction (dCons (dVar 1) dNil)) [1]) dNil)))))
abbrev sp_is_program : DSp := spOf ["thing", "one"] 1 t_is_program
def e_is_program : List D → Option (Except DX D) := fnE ["thing", "one"] 1 (xRet (eAndV (eUn (pyIsi "tuple") (eVar 0)) (eAndV (eChain pyLe pyLe (eC (.int 1)) (eB pyLen (eCons (eVar 0) (eC []))) (eC (.int 40))) (eB pyAll (eCons (eLc (eIter (eVar 0)) (.n 1) (eC true) (eCall e_is_instruction (eCons (eVar 1) (eC []))) [1]) (eC []))))))
theorem ev_is_program : EvF sp_is_program e_is_program := evf (xv_ret (ev_andV (ev_un m_isi (ev_var 0)) (ev_andV (ev_chain m_le m_le (ev_c _) (ev_b m_len (ev_cons (ev_var 0) (ev_nil))) (ev_c _)) (ev_b m_all (ev_cons (ev_lc (ev_iter (ev_var 0)) (ev_yes) (ev_call ev_is_instruction (ev_cons (ev_var 1) (ev_nil)))) (ev_nil))))))
theorem sc_is_program : FnScope ["thing", "one"] ["thing"] (defScope s_is_program) := ⟨rfl, rfl, rfl, by decide +kernel, rfl, by decide +kernel, by decide +kernel⟩
theorem is_program_fa (fx : Fx P w K T mg base) : DFa P w K T mg base 5 ("is_program", none) ["thing"] sp_is_program :=
  dfa_of fx.fd_is_program sc_is_program (fun _ _ _ _ _ _ us hl => match us, hl with | [_], _ => rfl) (fun cdv A outer s H E hcd hr => (qs_one (qs_ret (q_and (q_isi rfl (fx.free "isinstance" (by decide)) rfl (fx.free "tuple" (by decide)) boot_tuple (qv 0)) (q_and (q_chain op_pyLe op_pyLe (q_int) (q_callB call_pyLen rfl (fx.free "len" (by decide)) boot_len (qa_cons (qv 0) qa_nil)) (q_int)) (q_one (q_callB (call_pyAll rfl) rfl (fx.free "all" (by decide)) boot_all (qa_cons (q_lc [("one", 1)] rfl sc_is_program.nd (qi_it (qv 0)) (blkOk_by (by kernel_rfl)) rfl (fun s H C cl fp => (pg_name sc_is_program.nd rfl (by first | exact Or.inl rfl | exact Or.inr rfl))) (fun s H C cl fp => qts_nil) (fun s H C cl fp => (q_call (is_instruction_ok fx) hr (by decide) takesF rfl (qa_cons (qv 1) qa_nil)))) qa_nil))))))))
theorem is_program_ok (fx : Fx P w K T mg base) : DFn P w K T mg base 5 "is_program" ["thing"] sp_is_program := (is_program_fa fx).fn fx.mg_is_program
def t_need_program : DTS := (sIf (dNot (dTest (dCall sp_is_program (dCons (dVar 0) dNil)))) (sRaise "BadProgram") sNext)
abbrev sp_need_program : DSp := spOf ["thing"] 1 t_need_program
def e_need_program : List D → Option (Except DX D) := fnE ["thing"] 1 (xIf (eNot (eTest (eCall e_is_program (eCons (eVar 0) (eC []))))) (xRaise "BadProgram") (xNext))
theorem ev_need_program : EvF sp_need_program e_need_program := evf (xv_if (ev_not (ev_test (ev_call ev_is_program (ev_cons (ev_var 0) (ev_nil))))) (xv_raise) (xv_next))
theorem sc_need_program : FnScope ["thing"] ["thing"] (defScope s_need_program) := ⟨rfl, rfl, rfl, by decide +kernel, rfl, by decide +kernel, by decide +kernel⟩
theorem need_program_fa (fx : Fx P w K T mg base) : DFa P w K T mg base 6 ("need_program", none) ["thing"] sp_need_program :=
  dfa_of fx.fd_need_program sc_need_program (fun _ _ _ _ _ _ us hl => match us, hl with | [_], _ => rfl) (fun cdv A outer s H E hcd hr => (qs_one (qs_if (qt_not (qt_val (q_call (is_program_ok fx) hr (by decide) (L2N.takes_of rfl rfl rfl rfl) rfl (qa_cons (qv 0) qa_nil)))) (qs_one (qs_raise (dxc fx.xc_BadProgram) rfl (L2N.takes_of rfl rfl rfl rfl) rfl)) qs_nil)))
theorem need_program_ok (fx : Fx P w K T mg base) : DFn P w K T mg base 6 "need_program" ["thing"] sp_need_program := (need_program_fa fx).fn fx.mg_need_program
def t_goals_of : DTS := (sSeq (sSet 2 (dOp pyItem (dOp pyItem (dVar 0) (dVar 1)) (dC (.int 0)))) (sSeq (sIf (dTest (dOp pyEq (dVar 2) (dC (.str "end")))) (sRet (dLst dNil)) sNext) (sSeq (sIf (dTest (dOp pyEq (dVar 2) (dC (.str "go")))) (sRet (dLst (dCons (dOp pyItem (dOp pyItem (dVar 0) (dVar 1)) (dC (.int 1))) dNil))) sNext) (sSeq (sSet 3 (dOp pyAdd (dLst (dCons (dOp pyAdd (dVar 1) (dC (.int 1))) dNil)) (dIf (dTest (dOp pyEq (dVar 2) (dC (.str "zero")))) (dLst (dCons (dOp pyItem (dOp pyItem (dVar 0) (dVar 1)) (dC (.int 2))) dNil)) (dLst dNil)))) sNever))))
abbrev sp_goals_of : DSp := spOf ["program", "place", "word", "found"] 2 t_goals_of
def e_goals_of : List D → Option (Except DX D) := fnE ["program", "place", "word", "found"] 2 (xSeq (xSet 2 (eOp pyItem (eOp pyItem (eVar 0) (eVar 1)) (eC (.int 0)))) (xSeq (xIf (eTest (eOp pyEq (eVar 2) (eC (.str "end")))) (xRet (eLst (eC []))) (xNext)) (xSeq (xIf (eTest (eOp pyEq (eVar 2) (eC (.str "go")))) (xRet (eLst (eCons (eOp pyItem (eOp pyItem (eVar 0) (eVar 1)) (eC (.int 1))) (eC [])))) (xNext)) (xSeq (xSet 3 (eOp pyAdd (eLst (eCons (eOp pyAdd (eVar 1) (eC (.int 1))) (eC []))) (eIf (eTest (eOp pyEq (eVar 2) (eC (.str "zero")))) (eLst (eCons (eOp pyItem (eOp pyItem (eVar 0) (eVar 1)) (eC (.int 2))) (eC []))) (eLst (eC []))))) (xNever)))))
theorem ev_goals_of : EvF sp_goals_of e_goals_of := evf (xv_seq (xv_set (ev_op m_item (ev_op m_item (ev_var 0) (ev_var 1)) (ev_c _))) (xv_seq (xv_if (ev_test (ev_op m_eq (ev_var 2) (ev_c _))) (xv_ret (ev_lst (ev_nil))) (xv_next)) (xv_seq (xv_if (ev_test (ev_op m_eq (ev_var 2) (ev_c _))) (xv_ret (ev_lst (ev_cons (ev_op m_item (ev_op m_item (ev_var 0) (ev_var 1)) (ev_c _)) (ev_nil)))) (xv_next)) (xv_seq (xv_set (ev_op m_add (ev_lst (ev_cons (ev_op m_add (ev_var 1) (ev_c _)) (ev_nil))) (ev_if (ev_test (ev_op m_eq (ev_var 2) (ev_c _))) (ev_lst (ev_cons (ev_op m_item (ev_op m_item (ev_var 0) (ev_var 1)) (ev_c _)) (ev_nil))) (ev_lst (ev_nil))))) (xv_never)))))
theorem sc_goals_of : FnScope ["program", "place", "word", "found"] ["program", "place"] (defScope s_goals_of) := ⟨rfl, rfl, rfl, by decide +kernel, rfl, by decide +kernel, by decide +kernel⟩
theorem goals_of_fa (fx : Fx P w K T mg base) : DFa P w K T mg base 1 ("goals_of", none) ["program", "place"] sp_goals_of :=
  dfa_of fx.fd_goals_of sc_goals_of (fun _ _ _ _ _ _ us hl => match us, hl with | [_, _], _ => rfl) (fun cdv A outer s H E hcd hr => (qs_cons (qs_set sc_goals_of.nd rfl (by first | exact Or.inl rfl | exact Or.inr rfl) (q_item (hu_of hr) (q_item (hu_of hr) (qv 0) (qv 1)) (q_int))) (qs_cons (qs_if (q_cmpT (op_pyEq hr.units) (qv 2) (q_str) (nomark _)) (qs_one (qs_ret (q_lst qa_nil))) qs_nil) (qs_cons (qs_if (q_cmpT (op_pyEq hr.units) (qv 2) (q_str) (nomark _)) (qs_one (qs_ret (q_lst (qa_cons (q_item (hu_of hr) (q_item (hu_of hr) (qv 0) (qv 1)) (q_int)) qa_nil)))) qs_nil) (qs_cons (qs_set sc_goals_of.nd rfl (by first | exact Or.inl rfl | exact Or.inr rfl) (q_op op_pyAdd (q_lst (qa_cons (q_op op_pyAdd (qv 1) (q_int)) qa_nil)) (q_if (q_cmpT (op_pyEq hr.units) (qv 2) (q_str) (nomark _)) (q_lst (qa_cons (q_item (hu_of hr) (q_item (hu_of hr) (qv 0) (qv 1)) (q_int)) qa_nil)) (q_lst qa_nil)))) qss_never)))))
theorem goals_of_ok (fx : Fx P w K T mg base) : DFn P w K T mg base 1 "goals_of" ["program", "place"] sp_goals_of := (goals_of_fa fx).fn fx.mg_goals_of
def t_places_of : DTS := (sSeq (sPar [1, 2] (dCons (dDctB (List.cons (Prod.mk (dC (.int 0)) (dC (.bl true))) [])) (dCons (dLstB (dCons (dC (.int 0)) dNil)) dNil))) (sSeq (sWhile (dTest (dOp pyNe (dVar 2) (dLst dNil))) (sFor (dIter (dCall sp_goals_of (dCons (dVar 0) (dCons (dMt0 "list" mPop (dVar 2)) dNil)))) (.n 3) (sIf (dAnd (dTest (dOp pyLt (dVar 3) (dB pyLen (dCons (dVar 0) dNil)))) (dTest (dOp pyNotIn (dVar 3) (dVar 1)))) (sSeq (sSub (dC (.bl true)) (dVar 1) (dVar 3)) (sDrop (dMt "list" mAppend (dVar 2) (dCons (dVar 3) dNil)))) sNext))) sNever))
abbrev sp_places_of : DSp := spOf ["program", "found", "work", "goal"] 1 t_places_of
theorem sc_places_of : FnScope ["program", "found", "work", "goal"] ["program"] (defScope s_places_of) := ⟨rfl, rfl, rfl, by decide +kernel, rfl, by decide +kernel, by decide +kernel⟩
theorem places_of_fa (fx : Fx P w K T mg base) : DFa P w K T mg base 2 ("places_of", none) ["program"] sp_places_of :=
  dfa_of fx.fd_places_of sc_places_of (fun _ _ _ _ _ _ us hl => match us, hl with | [_], _ => rfl) (fun cdv A outer s H E hcd hr => (qs_cons (qs_par rfl sc_places_of.nd rfl rfl (by decide) rfl rfl (qa_cons (q_dctB (qp_cons (q_int) (q_bl) qp_nil)) (qa_cons (q_lstB (qa_cons (q_int) qa_nil)) qa_nil)) rfl) (qs_cons (qs_while (passes_of rfl) (q_cmpT (op_pyNe hr.units) (qv 2) (q_lst qa_nil) (nomark _)) (qs_one (qs_for (passes_of rfl) rfl (qi_it (q_call (goals_of_ok fx) hr (by decide) (L2N.takes_of rfl rfl rfl rfl) rfl (qa_cons (qv 0) (qa_cons (q_mt0 PySem.F.plainAttrs_list PySem.F.slot_list_pop PySem.F.type_list_pop mt_mPop (qv 2)) qa_nil)))) (pg_name sc_places_of.nd rfl (by first | exact Or.inl rfl | exact Or.inr rfl)) (qs_one (qs_if (qt_w (qw_and (q_cmpT op_pyLt (qv 3) (q_callB call_pyLen rfl (fx.free "len" (by decide)) boot_len (qa_cons (qv 0) qa_nil)) (nomark _)) (qw_and1 (q_cmpT (op_pyNotIn (hu_of hr)) (qv 3) (qv 1) rfl)))) (qs_cons (qs_sub (hu_of hr) (q_bl) (qv 1) (qv 3)) (qs_one (qs_expr (q_mt PySem.F.plainAttrs_list PySem.F.slot_list_append PySem.F.type_list_append mt_mAppend (qv 2) (qa_cons (qv 3) qa_nil))))) qs_nil))))) qss_never)))
theorem places_of_ok (fx : Fx P w K T mg base) : DFn P w K T mg base 2 "places_of" ["program"] sp_places_of := (places_of_fa fx).fn fx.mg_places_of
def t_come_to : DTS := (sSeq (sDrop (dCall sp_need_program (dCons (dVar 0) dNil))) (sRet (dCall sp_places_of (dCons (dVar 0) dNil))))
abbrev sp_come_to : DSp := spOf ["program"] 1 t_come_to
theorem sc_come_to : FnScope ["program"] ["program"] (defScope s_come_to) := ⟨rfl, rfl, rfl, by decide +kernel, rfl, by decide +kernel, by decide +kernel⟩
theorem come_to_fa (fx : Fx P w K T mg base) : DFa P w K T mg base 7 ("come_to", none) ["program"] sp_come_to :=
  dfa_of fx.fd_come_to sc_come_to (fun _ _ _ _ _ _ us hl => match us, hl with | [_], _ => rfl) (fun cdv A outer s H E hcd hr => (qs_cons (qs_expr (q_call (need_program_ok fx) hr (by decide) (L2N.takes_of rfl rfl rfl rfl) rfl (qa_cons (qv 0) qa_nil))) (qs_one (qs_ret (q_call (places_of_ok fx) hr (by decide) (L2N.takes_of rfl rfl rfl rfl) rfl (qa_cons (qv 0) qa_nil))))))
theorem come_to_ok (fx : Fx P w K T mg base) : DFn P w K T mg base 7 "come_to" ["program"] sp_come_to := (come_to_fa fx).fn fx.mg_come_to
def t_is_span : DTS := (sSeq (sIf (dOr (dNot (dTest (dUn (pyIsi "tuple") (dVar 0)))) (dOr (dTest (dOp pyNe (dB pyLen (dCons (dVar 0) dNil)) (dC (.int 2)))) (dNot (dTest (dB pyAll (dCons (dLc (dIter (dVar 0)) (.n 1) dYes (dCall sp_is_number (dCons (dVar 1) dNil)) [1]) dNil)))))) (sRet (dC (.bl false))) sNext) (sRet (dOp pyLe (dOp pyItem (dVar 0) (dC (.int 0))) (dOp pyItem (dVar 0) (dC (.int 1))))))
abbrev sp_is_span : DSp := spOf ["thing", "one"] 1 t_is_span
def e_is_span : List D → Option (Except DX D) := fnE ["thing", "one"] 1 (xSeq (xIf (eOr (eNot (eTest (eUn (pyIsi "tuple") (eVar 0)))) (eOr (eTest (eOp pyNe (eB pyLen (eCons (eVar 0) (eC []))) (eC (.int 2)))) (eNot (eTest (eB pyAll (eCons (eLc (eIter (eVar 0)) (.n 1) (eC true) (eCall e_is_number (eCons (eVar 1) (eC []))) [1]) (eC []))))))) (xRet (eC (.bl false))) (xNext)) (xRet (eOp pyLe (eOp pyItem (eVar 0) (eC (.int 0))) (eOp pyItem (eVar 0) (eC (.int 1))))))
theorem ev_is_span : EvF sp_is_span e_is_span := evf (xv_seq (xv_if (ev_or (ev_not (ev_test (ev_un m_isi (ev_var 0)))) (ev_or (ev_test (ev_op m_ne (ev_b m_len (ev_cons (ev_var 0) (ev_nil))) (ev_c _))) (ev_not (ev_test (ev_b m_all (ev_cons (ev_lc (ev_iter (ev_var 0)) (ev_yes) (ev_call ev_is_number (ev_cons (ev_var 1) (ev_nil)))) (ev_nil))))))) (xv_ret (ev_c _)) (xv_next)) (xv_ret (ev_op m_le (ev_op m_item (ev_var 0) (ev_c _)) (ev_op m_item (ev_var 0) (ev_c _)))))
theorem sc_is_span : FnScope ["thing", "one"] ["thing"] (defScope s_is_span) := ⟨rfl, rfl, rfl, by decide +kernel, rfl, by decide +kernel, by decide +kernel⟩
theorem is_span_fa (fx : Fx P w K T mg base) : DFa P w K T mg base 3 ("is_span", none) ["thing"] sp_is_span :=
  dfa_of fx.fd_is_span sc_is_span (fun _ _ _ _ _ _ us hl => match us, hl with | [_], _ => rfl) (fun cdv A outer s H E hcd hr => (qs_cons (qs_if (qt_w (qw_or (qt_not (qt_val (q_isi rfl (fx.free "isinstance" (by decide)) rfl (fx.free "tuple" (by decide)) boot_tuple (qv 0)))) (qw_or (q_cmpT (op_pyNe hr.units) (q_callB call_pyLen rfl (fx.free "len" (by decide)) boot_len (qa_cons (qv 0) qa_nil)) (q_int) (nomark _)) (qw_or1 (qt_not (qt_val (q_callB (call_pyAll rfl) rfl (fx.free "all" (by decide)) boot_all (qa_cons (q_lc [("one", 1)] rfl sc_is_span.nd (qi_it (qv 0)) (blkOk_by (by kernel_rfl)) rfl (fun s H C cl fp => (pg_name sc_is_span.nd rfl (by first | exact Or.inl rfl | exact Or.inr rfl))) (fun s H C cl fp => qts_nil) (fun s H C cl fp => (q_call (is_number_ok fx) hr (by decide) takesF rfl (qa_cons (qv 1) qa_nil)))) qa_nil)))))))) (qs_one (qs_ret (q_bl))) qs_nil) (qs_one (qs_ret (q_cmp op_pyLe (q_item (hu_of hr) (qv 0) (q_int)) (q_item (hu_of hr) (qv 0) (q_int)) (nomark _))))))
theorem is_span_ok (fx : Fx P w K T mg base) : DFn P w K T mg base 3 "is_span" ["thing"] sp_is_span := (is_span_fa fx).fn fx.mg_is_span
def t_is_row_papers : DTS := (sRet (dOrV (dOp pyIs (dVar 0) (dC .non)) (dAndV (dUn (pyIsi "tuple") (dVar 0)) (dAndV (dOp pyEq (dB pyLen (dCons (dVar 0) dNil)) (dC (.int 4))) (dB pyAll (dCons (dLc (dIter (dVar 0)) (.n 1) dYes (dCall sp_is_span (dCons (dVar 1) dNil)) [1]) dNil))))))
abbrev sp_is_row_papers : DSp := spOf ["thing", "one"] 1 t_is_row_papers
def e_is_row_papers : List D → Option (Except DX D) := fnE ["thing", "one"] 1 (xRet (eOrV (eOp pyIs (eVar 0) (eC .non)) (eAndV (eUn (pyIsi "tuple") (eVar 0)) (eAndV (eOp pyEq (eB pyLen (eCons (eVar 0) (eC []))) (eC (.int 4))) (eB pyAll (eCons (eLc (eIter (eVar 0)) (.n 1) (eC true) (eCall e_is_span (eCons (eVar 1) (eC []))) [1]) (eC [])))))))
theorem ev_is_row_papers : EvF sp_is_row_papers e_is_row_papers := evf (xv_ret (ev_orV (ev_op m_is (ev_var 0) (ev_c _)) (ev_andV (ev_un m_isi (ev_var 0)) (ev_andV (ev_op m_eq (ev_b m_len (ev_cons (ev_var 0) (ev_nil))) (ev_c _)) (ev_b m_all (ev_cons (ev_lc (ev_iter (ev_var 0)) (ev_yes) (ev_call ev_is_span (ev_cons (ev_var 1) (ev_nil)))) (ev_nil)))))))
theorem sc_is_row_papers : FnScope ["thing", "one"] ["thing"] (defScope s_is_row_papers) := ⟨rfl, rfl, rfl, by decide +kernel, rfl, by decide +kernel, by decide +kernel⟩
theorem is_row_papers_fa (fx : Fx P w K T mg base) : DFa P w K T mg base 4 ("is_row_papers", none) ["thing"] sp_is_row_papers :=
  dfa_of fx.fd_is_row_papers sc_is_row_papers (fun _ _ _ _ _ _ us hl => match us, hl with | [_], _ => rfl) (fun cdv A outer s H E hcd hr => (qs_one (qs_ret (q_or (q_cmp op_pyIs (qv 0) (q_non) (nomark _)) (q_one (q_and (q_isi rfl (fx.free "isinstance" (by decide)) rfl (fx.free "tuple" (by decide)) boot_tuple (qv 0)) (q_and (q_cmp (op_pyEq hr.units) (q_callB call_pyLen rfl (fx.free "len" (by decide)) boot_len (qa_cons (qv 0) qa_nil)) (q_int) (nomark _)) (q_one (q_callB (call_pyAll rfl) rfl (fx.free "all" (by decide)) boot_all (qa_cons (q_lc [("one", 1)] rfl sc_is_row_papers.nd (qi_it (qv 0)) (blkOk_by (by kernel_rfl)) rfl (fun s H C cl fp => (pg_name sc_is_row_papers.nd rfl (by first | exact Or.inl rfl | exact Or.inr rfl))) (fun s H C cl fp => qts_nil) (fun s H C cl fp => (q_call (is_span_ok fx) hr (by decide) takesF rfl (qa_cons (qv 1) qa_nil)))) qa_nil))))))))))
theorem is_row_papers_ok (fx : Fx P w K T mg base) : DFn P w K T mg base 4 "is_row_papers" ["thing"] sp_is_row_papers := (is_row_papers_fa fx).fn fx.mg_is_row_papers
def t_is_form : DTS := (sRet (dAndV (dUn (pyIsi "list") (dVar 1)) (dAndV (dOp pyEq (dB pyLen (dCons (dVar 1) dNil)) (dB pyLen (dCons (dVar 0) dNil))) (dB pyAll (dCons (dLc (dIter (dVar 1)) (.n 2) dYes (dCall sp_is_row_papers (dCons (dVar 2) dNil)) [2]) dNil)))))
abbrev sp_is_form : DSp := spOf ["program", "thing", "one"] 2 t_is_form
def e_is_form : List D → Option (Except DX D) := fnE ["program", "thing", "one"] 2 (xRet (eAndV (eUn (pyIsi "list") (eVar 1)) (eAndV (eOp pyEq (eB pyLen (eCons (eVar 1) (eC []))) (eB pyLen (eCons (eVar 0) (eC [])))) (eB pyAll (eCons (eLc (eIter (eVar 1)) (.n 2) (eC true) (eCall e_is_row_papers (eCons (eVar 2) (eC []))) [2]) (eC []))))))
theorem ev_is_form : EvF sp_is_form e_is_form := evf (xv_ret (ev_andV (ev_un m_isi (ev_var 1)) (ev_andV (ev_op m_eq (ev_b m_len (ev_cons (ev_var 1) (ev_nil))) (ev_b m_len (ev_cons (ev_var 0) (ev_nil)))) (ev_b m_all (ev_cons (ev_lc (ev_iter (ev_var 1)) (ev_yes) (ev_call ev_is_row_papers (ev_cons (ev_var 2) (ev_nil)))) (ev_nil))))))
theorem sc_is_form : FnScope ["program", "thing", "one"] ["program", "thing"] (defScope s_is_form) := ⟨rfl, rfl, rfl, by decide +kernel, rfl, by decide +kernel, by decide +kernel⟩
theorem is_form_fa (fx : Fx P w K T mg base) : DFa P w K T mg base 5 ("is_form", none) ["program", "thing"] sp_is_form :=
  dfa_of fx.fd_is_form sc_is_form (fun _ _ _ _ _ _ us hl => match us, hl with | [_, _], _ => rfl) (fun cdv A outer s H E hcd hr => (qs_one (qs_ret (q_and (q_isi rfl (fx.free "isinstance" (by decide)) rfl (fx.free "list" (by decide)) boot_list (qv 1)) (q_and (q_cmp (op_pyEq hr.units) (q_callB call_pyLen rfl (fx.free "len" (by decide)) boot_len (qa_cons (qv 1) qa_nil)) (q_callB call_pyLen rfl (fx.free "len" (by decide)) boot_len (qa_cons (qv 0) qa_nil)) (nomark _)) (q_one (q_callB (call_pyAll rfl) rfl (fx.free "all" (by decide)) boot_all (qa_cons (q_lc [("one", 2)] rfl sc_is_form.nd (qi_it (qv 1)) (blkOk_by (by kernel_rfl)) rfl (fun s H C cl fp => (pg_name sc_is_form.nd rfl (by first | exact Or.inl rfl | exact Or.inr rfl))) (fun s H C cl fp => qts_nil) (fun s H C cl fp => (q_call (is_row_papers_ok fx) hr (by decide) takesF rfl (qa_cons (qv 2) qa_nil)))) qa_nil))))))))
theorem is_form_ok (fx : Fx P w K T mg base) : DFn P w K T mg base 5 "is_form" ["program", "thing"] sp_is_form := (is_form_fa fx).fn fx.mg_is_form
def t_need_room : DTS := (sIf (dNot (dTest (dCall sp_is_whole (dCons (dVar 0) (dCons (dC (.int 0)) (dCons (dC (.int 60)) dNil)))))) (sRaise "BadNumber") sNext)
abbrev sp_need_room : DSp := spOf ["room"] 1 t_need_room
def e_need_room : List D → Option (Except DX D) := fnE ["room"] 1 (xIf (eNot (eTest (eCall e_is_whole (eCons (eVar 0) (eCons (eC (.int 0)) (eCons (eC (.int 60)) (eC []))))))) (xRaise "BadNumber") (xNext))
theorem ev_need_room : EvF sp_need_room e_need_room := evf (xv_if (ev_not (ev_test (ev_call ev_is_whole (ev_cons (ev_var 0) (ev_cons (ev_c _) (ev_cons (ev_c _) (ev_nil))))))) (xv_raise) (xv_next))
theorem sc_need_room : FnScope ["room"] ["room"] (defScope s_need_room) := ⟨rfl, rfl, rfl, by decide +kernel, rfl, by decide +kernel, by decide +kernel⟩
theorem need_room_fa (fx : Fx P w K T mg base) : DFa P w K T mg base 2 ("need_room", none) ["room"] sp_need_room :=
  dfa_of fx.fd_need_room sc_need_room (fun _ _ _ _ _ _ us hl => match us, hl with | [_], _ => rfl) (fun cdv A outer s H E hcd hr => (qs_one (qs_if (qt_not (qt_val (q_call (is_whole_ok fx) hr (by decide) (L2N.takes_of rfl rfl rfl rfl) rfl (qa_cons (qv 0) (qa_cons (q_int) (qa_cons (q_gint rfl fx.gi_MOST_ROOM) qa_nil)))))) (qs_one (qs_raise (dxc fx.xc_BadNumber) rfl (L2N.takes_of rfl rfl rfl rfl) rfl)) qs_nil)))
theorem need_room_ok (fx : Fx P w K T mg base) : DFn P w K T mg base 2 "need_room" ["room"] sp_need_room := (need_room_fa fx).fn fx.mg_need_room
def t_need_asked : DTS := (sSeq (sDrop (dCall sp_need_program (dCons (dVar 0) dNil))) (sDrop (dCall sp_need_room (dCons (dVar 1) dNil))))
abbrev sp_need_asked : DSp := spOf ["program", "room"] 2 t_need_asked
def e_need_asked : List D → Option (Except DX D) := fnE ["program", "room"] 2 (xSeq (xDrop (eCall e_need_program (eCons (eVar 0) (eC [])))) (xDrop (eCall e_need_room (eCons (eVar 1) (eC [])))))
theorem ev_need_asked : EvF sp_need_asked e_need_asked := evf (xv_seq (xv_drop (ev_call ev_need_program (ev_cons (ev_var 0) (ev_nil)))) (xv_drop (ev_call ev_need_room (ev_cons (ev_var 1) (ev_nil)))))
theorem sc_need_asked : FnScope ["program", "room"] ["program", "room"] (defScope s_need_asked) := ⟨rfl, rfl, rfl, by decide +kernel, rfl, by decide +kernel, by decide +kernel⟩
theorem need_asked_fa (fx : Fx P w K T mg base) : DFa P w K T mg base 7 ("need_asked", none) ["program", "room"] sp_need_asked :=
  dfa_of fx.fd_need_asked sc_need_asked (fun _ _ _ _ _ _ us hl => match us, hl with | [_, _], _ => rfl) (fun cdv A outer s H E hcd hr => (qs_cons (qs_expr (q_call (need_program_ok fx) hr (by decide) (L2N.takes_of rfl rfl rfl rfl) rfl (qa_cons (qv 0) qa_nil))) (qs_one (qs_expr (q_call (need_room_ok fx) hr (by decide) (L2N.takes_of rfl rfl rfl rfl) rfl (qa_cons (qv 1) qa_nil))))))
theorem need_asked_ok (fx : Fx P w K T mg base) : DFn P w K T mg base 7 "need_asked" ["program", "room"] sp_need_asked := (need_asked_fa fx).fn fx.mg_need_asked
def t_is_cell : DTS := (sSeq (sSet 3 (dOp pyItem (dVar 0) (dC (.int 0)))) (sSeq (sTg (.t [4, 5]) (dOp pyItem (dVar 1) (dIf (dTest (dOp pyIn (dVar 3) (dTup (dCons (dC (.str "write")) (dCons (dC (.str "mark")) dNil))))) (dOp pyItem (dVar 0) (dC (.int 1))) (dOp pyItem (dVar 0) (dC (.int 2)))))) (sRet (dAndV (dOp pyGe (dVar 4) (dC (.int 0))) (dOp pyLt (dVar 5) (dIf (dTest (dOp pyIn (dVar 3) (dTup (dCons (dC (.str "read")) (dCons (dC (.str "write")) dNil))))) (dVar 2) (dC (.int 10))))))))
abbrev sp_is_cell : DSp := spOf ["one", "spans", "room", "word", "low", "high"] 3 t_is_cell
def e_is_cell : List D → Option (Except DX D) := fnE ["one", "spans", "room", "word", "low", "high"] 3 (xSeq (xSet 3 (eOp pyItem (eVar 0) (eC (.int 0)))) (xSeq (xTg (.t [4, 5]) (eOp pyItem (eVar 1) (eIf (eTest (eOp pyIn (eVar 3) (eTup (eCons (eC (.str "write")) (eCons (eC (.str "mark")) (eC [])))))) (eOp pyItem (eVar 0) (eC (.int 1))) (eOp pyItem (eVar 0) (eC (.int 2)))))) (xRet (eAndV (eOp pyGe (eVar 4) (eC (.int 0))) (eOp pyLt (eVar 5) (eIf (eTest (eOp pyIn (eVar 3) (eTup (eCons (eC (.str "read")) (eCons (eC (.str "write")) (eC [])))))) (eVar 2) (eC (.int 10))))))))
theorem ev_is_cell : EvF sp_is_cell e_is_cell := evf (xv_seq (xv_set (ev_op m_item (ev_var 0) (ev_c _))) (xv_seq (xv_tg (ev_op m_item (ev_var 1) (ev_if (ev_test (ev_op m_in (ev_var 3) (ev_tup (ev_cons (ev_c _) (ev_cons (ev_c _) (ev_nil)))))) (ev_op m_item (ev_var 0) (ev_c _)) (ev_op m_item (ev_var 0) (ev_c _))))) (xv_ret (ev_andV (ev_op m_ge (ev_var 4) (ev_c _)) (ev_op m_lt (ev_var 5) (ev_if (ev_test (ev_op m_in (ev_var 3) (ev_tup (ev_cons (ev_c _) (ev_cons (ev_c _) (ev_nil)))))) (ev_var 2) (ev_c _)))))))
theorem sc_is_cell : FnScope ["one", "spans", "room", "word", "low", "high"] ["one", "spans", "room"] (defScope s_is_cell) := ⟨rfl, rfl, rfl, by decide +kernel, rfl, by decide +kernel, by decide +kernel⟩
theorem is_cell_fa (fx : Fx P w K T mg base) : DFa P w K T mg base 1 ("is_cell", none) ["one", "spans", "room"] sp_is_cell :=
  dfa_of fx.fd_is_cell sc_is_cell (fun _ _ _ _ _ _ us hl => match us, hl with | [_, _, _], _ => rfl) (fun cdv A outer s H E hcd hr => (qs_cons (qs_set sc_is_cell.nd rfl (by first | exact Or.inl rfl | exact Or.inr rfl) (q_item (hu_of hr) (qv 0) (q_int))) (qs_cons (qs_tg (q_item (hu_of hr) (qv 1) (q_if (q_cmpT (op_pyIn (hu_of hr)) (qv 3) (q_tup (qa_cons (q_str) (qa_cons (q_str) qa_nil))) rfl) (q_item (hu_of hr) (qv 0) (q_int)) (q_item (hu_of hr) (qv 0) (q_int)))) (pg_tup rfl (pgs_cons (pg_name sc_is_cell.nd rfl (by first | exact Or.inl rfl | exact Or.inr rfl)) (pgs_cons (pg_name sc_is_cell.nd rfl (by first | exact Or.inl rfl | exact Or.inr rfl)) pgs_nil)))) (qs_one (qs_ret (q_and (q_cmp op_pyGe (qv 4) (q_int) (nomark _)) (q_one (q_cmp op_pyLt (qv 5) (q_if (q_cmpT (op_pyIn (hu_of hr)) (qv 3) (q_tup (qa_cons (q_str) (qa_cons (q_str) qa_nil))) rfl) (qv 2) (q_int)) (nomark _)))))))))
theorem is_cell_ok (fx : Fx P w K T mg base) : DFn P w K T mg base 1 "is_cell" ["one", "spans", "room"] sp_is_cell := (is_cell_fa fx).fn fx.mg_is_cell
def t_with_span : DTS := (sRet (dOp pyAdd (dOp pyAdd (dSlice (dVar 0) dNoPart (dPart (dVar 1))) (dTup (dCons (dVar 2) dNil))) (dSlice (dVar 0) (dPart (dOp pyAdd (dVar 1) (dC (.int 1)))) dNoPart)))
abbrev sp_with_span : DSp := spOf ["spans", "at", "span"] 3 t_with_span
def e_with_span : List D → Option (Except DX D) := fnE ["spans", "at", "span"] 3 (xRet (eOp pyAdd (eOp pyAdd (eSlice (eVar 0) (eC none) (ePart (eVar 1))) (eTup (eCons (eVar 2) (eC [])))) (eSlice (eVar 0) (ePart (eOp pyAdd (eVar 1) (eC (.int 1)))) (eC none))))
theorem ev_with_span : EvF sp_with_span e_with_span := evf (xv_ret (ev_op m_add (ev_op m_add (ev_slice (ev_var 0) (ev_noPart) (ev_part (ev_var 1))) (ev_tup (ev_cons (ev_var 2) (ev_nil)))) (ev_slice (ev_var 0) (ev_part (ev_op m_add (ev_var 1) (ev_c _))) (ev_noPart))))
theorem sc_with_span : FnScope ["spans", "at", "span"] ["spans", "at", "span"] (defScope s_with_span) := ⟨rfl, rfl, rfl, by decide +kernel, rfl, by decide +kernel, by decide +kernel⟩
theorem with_span_fa (fx : Fx P w K T mg base) : DFa P w K T mg base 1 ("with_span", none) ["spans", "at", "span"] sp_with_span :=
  dfa_of fx.fd_with_span sc_with_span (fun _ _ _ _ _ _ us hl => match us, hl with | [_, _, _], _ => rfl) (fun cdv A outer s H E hcd hr => (qs_one (qs_ret (q_op op_pyAdd (q_op op_pyAdd (q_slice (qv 0) qo_none (qo_some (qv 1))) (q_tup (qa_cons (qv 2) qa_nil))) (q_slice (qv 0) (qo_some (q_op op_pyAdd (qv 1) (q_int))) qo_none)))))
theorem with_span_ok (fx : Fx P w K T mg base) : DFn P w K T mg base 1 "with_span" ["spans", "at", "span"] sp_with_span := (with_span_fa fx).fn fx.mg_with_span
def t_passed : DTS := (sSeq (sTg (.t [2, 3]) (dOp pyItem (dVar 1) (dOp pyItem (dVar 0) (dC (.int 1))))) (sSeq (sSet 4 (dLstB dNil)) (sSeq (sIf (dTest (dChain pyLe pyLe (dVar 2) (dC (.int 0)) (dVar 3))) (sDrop (dMt "list" mAppend (dVar 4) (dCons (dTup (dCons (dC (.bl true)) (dCons (dCall sp_with_span (dCons (dVar 1) (dCons (dOp pyItem (dVar 0) (dC (.int 1))) (dCons (dTup (dCons (dC (.int 0)) (dCons (dC (.int 0)) dNil))) dNil)))) dNil))) dNil))) sNext) (sSeq (sPar [2, 3] (dCons (dIf (dTest (dOp pyEq (dVar 2) (dC (.int 0)))) (dC (.int 1)) (dVar 2)) (dCons (dIf (dTest (dOp pyEq (dVar 3) (dC (.int 0)))) (dUn pyNeg (dC (.int 1))) (dVar 3)) dNil))) (sRet (dOp pyAdd (dVar 4) (dIf (dTest (dOp pyLe (dVar 2) (dVar 3))) (dLst (dCons (dTup (dCons (dC (.bl false)) (dCons (dCall sp_with_span (dCons (dVar 1) (dCons (dOp pyItem (dVar 0) (dC (.int 1))) (dCons (dTup (dCons (dVar 2) (dCons (dVar 3) dNil))) dNil)))) dNil))) dNil)) (dLst dNil))))))))
abbrev sp_passed : DSp := spOf ["one", "spans", "low", "high", "found"] 2 t_passed
theorem sc_passed : FnScope ["one", "spans", "low", "high", "found"] ["one", "spans"] (defScope s_passed) := ⟨rfl, rfl, rfl, by decide +kernel, rfl, by decide +kernel, by decide +kernel⟩
theorem passed_fa (fx : Fx P w K T mg base) : DFa P w K T mg base 2 ("passed", none) ["one", "spans"] sp_passed :=
  dfa_of fx.fd_passed sc_passed (fun _ _ _ _ _ _ us hl => match us, hl with | [_, _], _ => rfl) (fun cdv A outer s H E hcd hr => (qs_cons (qs_tg (q_item (hu_of hr) (qv 1) (q_item (hu_of hr) (qv 0) (q_int))) (pg_tup rfl (pgs_cons (pg_name sc_passed.nd rfl (by first | exact Or.inl rfl | exact Or.inr rfl)) (pgs_cons (pg_name sc_passed.nd rfl (by first | exact Or.inl rfl | exact Or.inr rfl)) pgs_nil)))) (qs_cons (qs_set sc_passed.nd rfl (by first | exact Or.inl rfl | exact Or.inr rfl) (q_lstB qa_nil)) (qs_cons (qs_if (q_chainT op_pyLe op_pyLe (qv 2) (q_int) (qv 3)) (qs_one (qs_expr (q_mt PySem.F.plainAttrs_list PySem.F.slot_list_append PySem.F.type_list_append mt_mAppend (qv 4) (qa_cons (q_tup (qa_cons (q_bl) (qa_cons (q_call (with_span_ok fx) hr (by decide) (L2N.takes_of rfl rfl rfl rfl) rfl (qa_cons (qv 1) (qa_cons (q_item (hu_of hr) (qv 0) (q_int)) (qa_cons (q_tup (qa_cons (q_int) (qa_cons (q_int) qa_nil))) qa_nil)))) qa_nil))) qa_nil)))) qs_nil) (qs_cons (qs_par rfl sc_passed.nd rfl rfl (by decide) rfl rfl (qa_cons (q_if (q_cmpT (op_pyEq hr.units) (qv 2) (q_int) (nomark _)) (q_int) (qv 2)) (qa_cons (q_if (q_cmpT (op_pyEq hr.units) (qv 3) (q_int) (nomark _)) (q_un un_pyNeg (q_int)) (qv 3)) qa_nil)) rfl) (qs_one (qs_ret (q_op op_pyAdd (qv 4) (q_if (q_cmpT op_pyLe (qv 2) (qv 3) (nomark _)) (q_lst (qa_cons (q_tup (qa_cons (q_bl) (qa_cons (q_call (with_span_ok fx) hr (by decide) (L2N.takes_of rfl rfl rfl rfl) rfl (qa_cons (qv 1) (qa_cons (q_item (hu_of hr) (qv 0) (q_int)) (qa_cons (q_tup (qa_cons (qv 2) (qa_cons (qv 3) qa_nil))) qa_nil)))) qa_nil))) qa_nil)) (q_lst qa_nil))))))))))
theorem passed_ok (fx : Fx P w K T mg base) : DFn P w K T mg base 2 "passed" ["one", "spans"] sp_passed := (passed_fa fx).fn fx.mg_passed
def t_reckoned : DTS := sNever
abbrev sp_reckoned : DSp := spOf ["one", "spans", "low", "high", "less", "more"] 2 t_reckoned
def e_reckoned : List D → Option (Except DX D) := fnE ["one", "spans", "low", "high", "less", "more"] 2 (xNever)
theorem ev_reckoned : EvF sp_reckoned e_reckoned := evf (xv_never)
theorem sc_reckoned : FnScope ["one", "spans", "low", "high", "less", "more"] ["one", "spans"] (defScope s_reckoned) := ⟨rfl, rfl, rfl, by decide +kernel, rfl, by decide +kernel, by decide +kernel⟩
theorem reckoned_fa (fx : Fx P w K T mg base) : DFa P w K T mg base 1 ("reckoned", none) ["one", "spans"] sp_reckoned :=
  dfa_of fx.fd_reckoned sc_reckoned (fun _ _ _ _ _ _ us hl => match us, hl with | [_, _], _ => rfl) (fun cdv A outer s H E hcd hr => qss_never)
theorem reckoned_ok (fx : Fx P w K T mg base) : DFn P w K T mg base 1 "reckoned" ["one", "spans"] sp_reckoned := (reckoned_fa fx).fn fx.mg_reckoned
def t_behind : DTS := (sSeq (sSet 4 (dOp pyItem (dVar 0) (dVar 2))) (sSeq (sSet 5 (dOp pyItem (dVar 4) (dC (.int 0)))) (sSeq (sIf (dTest (dOp pyEq (dVar 5) (dC (.str "end")))) (sRet (dLst dNil)) sNext) (sSeq (sIf (dTest (dOp pyEq (dVar 5) (dC (.str "go")))) (sRet (dLst (dCons (dTup (dCons (dOp pyItem (dVar 4) (dC (.int 1))) (dCons (dVar 3) dNil))) dNil))) sNext) (sSeq (sIf (dTest (dOp pyEq (dVar 5) (dC (.str "zero")))) (sRet (dLc (dIter (dCall sp_passed (dCons (dVar 4) (dCons (dVar 3) dNil)))) (.t [6, 7]) dYes (dTup (dCons (dIf (dTest (dVar 6)) (dOp pyItem (dVar 4) (dC (.int 2))) (dOp pyAdd (dVar 2) (dC (.int 1)))) (dCons (dVar 7) dNil))) [6, 7])) sNext) (sSeq (sIf (dAnd (dTest (dOp pyIn (dVar 5) (dTup (dCons (dC (.str "read")) (dCons (dC (.str "write")) (dCons (dC (.str "look")) (dCons (dC (.str "mark")) dNil))))))) (dNot (dTest (dCall sp_is_cell (dCons (dVar 4) (dCons (dVar 3) (dCons (dVar 1) dNil))))))) (sRet (dC .non)) sNext) (sSeq (sIf (dTest (dOp pyIn (dVar 5) (dTup (dCons (dC (.str "set")) (dCons (dC (.str "copy")) dNil))))) (sRet (dLst (dCons (dTup (dCons (dOp pyAdd (dVar 2) (dC (.int 1))) (dCons (dCall sp_with_span (dCons (dVar 3) (dCons (dOp pyItem (dVar 4) (dC (.int 1))) (dCons (dIf (dTest (dOp pyEq (dVar 5) (dC (.str "set")))) (dTup (dCons (dOp pyItem (dVar 4) (dC (.int 2))) (dCons (dOp pyItem (dVar 4) (dC (.int 2))) dNil))) (dOp pyItem (dVar 3) (dOp pyItem (dVar 4) (dC (.int 2))))) dNil)))) dNil))) dNil))) sNext) (sSeq (sIf (dTest (dOp pyIn (dVar 5) (dTup (dCons (dC (.str "add")) (dCons (dC (.str "take")) (dCons (dC (.str "less")) dNil)))))) (sSeq (sSet 8 (dCall sp_reckoned (dCons (dVar 4) (dCons (dVar 3) dNil)))) (sRet (dIf (dTest (dCall sp_is_span (dCons (dVar 8) dNil))) (dLst (dCons (dTup (dCons (dOp pyAdd (dVar 2) (dC (.int 1))) (dCons (dCall sp_with_span (dCons (dVar 3) (dCons (dOp pyItem (dVar 4) (dC (.int 1))) (dCons (dVar 8) dNil)))) dNil))) dNil)) (dC .non)))) sNext) (sRet (dLst (dCons (dTup (dCons (dOp pyAdd (dVar 2) (dC (.int 1))) (dCons (dIf (dTest (dOp pyIn (dVar 5) (dTup (dCons (dC (.str "read")) (dCons (dC (.str "look")) (dCons (dC (.str "ask")) dNil)))))) (dCall sp_with_span (dCons (dVar 3) (dCons (dOp pyItem (dVar 4) (dC (.int 1))) (dCons (dC (.tup [(.int (-999)), (.int 999)])) dNil)))) (dVar 3)) dNil))) dNil)))))))))))
abbrev sp_behind : DSp := spOf ["program", "room", "at", "spans", "one", "word", "is_goal", "more", "span"] 4 t_behind
theorem sc_behind : FnScope ["program", "room", "at", "spans", "one", "word", "is_goal", "more", "span"] ["program", "room", "at", "spans"] (defScope s_behind) := ⟨rfl, rfl, rfl, by decide +kernel, rfl, by decide +kernel, by decide +kernel⟩
theorem behind_fa (fx : Fx P w K T mg base) : DFa P w K T mg base 4 ("behind", none) ["program", "room", "at", "spans"] sp_behind :=
  dfa_of fx.fd_behind sc_behind (fun _ _ _ _ _ _ us hl => match us, hl with | [_, _, _, _], _ => rfl) (fun cdv A outer s H E hcd hr => (qs_cons (qs_set sc_behind.nd rfl (by first | exact Or.inl rfl | exact Or.inr rfl) (q_item (hu_of hr) (qv 0) (qv 2))) (qs_cons (qs_set sc_behind.nd rfl (by first | exact Or.inl rfl | exact Or.inr rfl) (q_item (hu_of hr) (qv 4) (q_int))) (qs_cons (qs_if (q_cmpT (op_pyEq hr.units) (qv 5) (q_str) (nomark _)) (qs_one (qs_ret (q_lst qa_nil))) qs_nil) (qs_cons (qs_if (q_cmpT (op_pyEq hr.units) (qv 5) (q_str) (nomark _)) (qs_one (qs_ret (q_lst (qa_cons (q_tup (qa_cons (q_item (hu_of hr) (qv 4) (q_int)) (qa_cons (qv 3) qa_nil))) qa_nil)))) qs_nil) (qs_cons (qs_if (q_cmpT (op_pyEq hr.units) (qv 5) (q_str) (nomark _)) (qs_one (qs_ret (q_lc [("is_goal", 6), ("more", 7)] rfl sc_behind.nd (qi_it (q_call (passed_ok fx) hr (by decide) (L2N.takes_of rfl rfl rfl rfl) rfl (qa_cons (qv 4) (qa_cons (qv 3) qa_nil)))) (blkOk_by (by kernel_rfl)) rfl (fun s H C cl fp => (pg_tup rfl (pgs_cons (pg_name sc_behind.nd rfl (by first | exact Or.inl rfl | exact Or.inr rfl)) (pgs_cons (pg_name sc_behind.nd rfl (by first | exact Or.inl rfl | exact Or.inr rfl)) pgs_nil)))) (fun s H C cl fp => qts_nil) (fun s H C cl fp => (q_tup (qa_cons (q_if (qt_val (qv 6)) (q_item (hu_of hr) (qv 4) (q_int)) (q_op op_pyAdd (qv 2) (q_int))) (qa_cons (qv 7) qa_nil))))))) qs_nil) (qs_cons (qs_if (qt_w (qw_and (q_cmpT (op_pyIn (hu_of hr)) (qv 5) (q_tup (qa_cons (q_str) (qa_cons (q_str) (qa_cons (q_str) (qa_cons (q_str) qa_nil))))) rfl) (qw_and1 (qt_not (qt_val (q_call (is_cell_ok fx) hr (by decide) (L2N.takes_of rfl rfl rfl rfl) rfl (qa_cons (qv 4) (qa_cons (qv 3) (qa_cons (qv 1) qa_nil))))))))) (qs_one (qs_ret (q_non))) qs_nil) (qs_cons (qs_if (q_cmpT (op_pyIn (hu_of hr)) (qv 5) (q_tup (qa_cons (q_str) (qa_cons (q_str) qa_nil))) rfl) (qs_one (qs_ret (q_lst (qa_cons (q_tup (qa_cons (q_op op_pyAdd (qv 2) (q_int)) (qa_cons (q_call (with_span_ok fx) hr (by decide) (L2N.takes_of rfl rfl rfl rfl) rfl (qa_cons (qv 3) (qa_cons (q_item (hu_of hr) (qv 4) (q_int)) (qa_cons (q_if (q_cmpT (op_pyEq hr.units) (qv 5) (q_str) (nomark _)) (q_tup (qa_cons (q_item (hu_of hr) (qv 4) (q_int)) (qa_cons (q_item (hu_of hr) (qv 4) (q_int)) qa_nil))) (q_item (hu_of hr) (qv 3) (q_item (hu_of hr) (qv 4) (q_int)))) qa_nil)))) qa_nil))) qa_nil)))) qs_nil) (qs_cons (qs_if (q_cmpT (op_pyIn (hu_of hr)) (qv 5) (q_tup (qa_cons (q_str) (qa_cons (q_str) (qa_cons (q_str) qa_nil)))) rfl) (qs_cons (qs_set sc_behind.nd rfl (by first | exact Or.inl rfl | exact Or.inr rfl) (q_call (reckoned_ok fx) hr (by decide) (L2N.takes_of rfl rfl rfl rfl) rfl (qa_cons (qv 4) (qa_cons (qv 3) qa_nil)))) (qs_one (qs_ret (q_if (qt_val (q_call (is_span_ok fx) hr (by decide) (L2N.takes_of rfl rfl rfl rfl) rfl (qa_cons (qv 8) qa_nil))) (q_lst (qa_cons (q_tup (qa_cons (q_op op_pyAdd (qv 2) (q_int)) (qa_cons (q_call (with_span_ok fx) hr (by decide) (L2N.takes_of rfl rfl rfl rfl) rfl (qa_cons (qv 3) (qa_cons (q_item (hu_of hr) (qv 4) (q_int)) (qa_cons (qv 8) qa_nil)))) qa_nil))) qa_nil)) (q_non))))) qs_nil) (qs_one (qs_ret (q_lst (qa_cons (q_tup (qa_cons (q_op op_pyAdd (qv 2) (q_int)) (qa_cons (q_if (q_cmpT (op_pyIn (hu_of hr)) (qv 5) (q_tup (qa_cons (q_str) (qa_cons (q_str) (qa_cons (q_str) qa_nil)))) rfl) (q_call (with_span_ok fx) hr (by decide) (L2N.takes_of rfl rfl rfl rfl) rfl (qa_cons (qv 3) (qa_cons (q_item (hu_of hr) (qv 4) (q_int)) (qa_cons (q_gtup rfl fx.tu_ANY) qa_nil)))) (qv 3)) qa_nil))) qa_nil)))))))))))))
theorem behind_ok (fx : Fx P w K T mg base) : DFn P w K T mg base 4 "behind" ["program", "room", "at", "spans"] sp_behind := (behind_fa fx).fn fx.mg_behind
def t_holds : DTS := (sRet (dB pyAll (dCons (dLc (dZip (dCons (dVar 0) (dCons (dVar 1) dNil))) (.t [2, 3]) dYes (dAndV (dOp pyLe (dOp pyItem (dVar 3) (dC (.int 0))) (dOp pyItem (dVar 2) (dC (.int 0)))) (dOp pyLe (dOp pyItem (dVar 2) (dC (.int 1))) (dOp pyItem (dVar 3) (dC (.int 1))))) [2, 3]) dNil)))
abbrev sp_holds : DSp := spOf ["spans", "others", "one", "more"] 2 t_holds
def e_holds : List D → Option (Except DX D) := fnE ["spans", "others", "one", "more"] 2 (xRet (eB pyAll (eCons (eLc (eZip (eCons (eVar 0) (eCons (eVar 1) (eC [])))) (.t [2, 3]) (eC true) (eAndV (eOp pyLe (eOp pyItem (eVar 3) (eC (.int 0))) (eOp pyItem (eVar 2) (eC (.int 0)))) (eOp pyLe (eOp pyItem (eVar 2) (eC (.int 1))) (eOp pyItem (eVar 3) (eC (.int 1))))) [2, 3]) (eC []))))
theorem ev_holds : EvF sp_holds e_holds := evf (xv_ret (ev_b m_all (ev_cons (ev_lc (ev_zip (ev_cons (ev_var 0) (ev_cons (ev_var 1) (ev_nil)))) (ev_yes) (ev_andV (ev_op m_le (ev_op m_item (ev_var 3) (ev_c _)) (ev_op m_item (ev_var 2) (ev_c _))) (ev_op m_le (ev_op m_item (ev_var 2) (ev_c _)) (ev_op m_item (ev_var 3) (ev_c _))))) (ev_nil))))
theorem sc_holds : FnScope ["spans", "others", "one", "more"] ["spans", "others"] (defScope s_holds) := ⟨rfl, rfl, rfl, by decide +kernel, rfl, by decide +kernel, by decide +kernel⟩
theorem holds_fa (fx : Fx P w K T mg base) : DFa P w K T mg base 1 ("holds", none) ["spans", "others"] sp_holds :=
  dfa_of fx.fd_holds sc_holds (fun _ _ _ _ _ _ us hl => match us, hl with | [_, _], _ => rfl) (fun cdv A outer s H E hcd hr => (qs_one (qs_ret (q_callB (call_pyAll rfl) rfl (fx.free "all" (by decide)) boot_all (qa_cons (q_lc [("one", 2), ("more", 3)] rfl sc_holds.nd (qi_zip rfl (fx.free "zip" (by decide)) (qa_cons (qv 0) (qa_cons (qv 1) qa_nil))) (blkOk_by (by kernel_rfl)) rfl (fun s H C cl fp => (pg_tup rfl (pgs_cons (pg_name sc_holds.nd rfl (by first | exact Or.inl rfl | exact Or.inr rfl)) (pgs_cons (pg_name sc_holds.nd rfl (by first | exact Or.inl rfl | exact Or.inr rfl)) pgs_nil)))) (fun s H C cl fp => qts_nil) (fun s H C cl fp => (q_and (q_cmp op_pyLe (q_item (hu_of hr) (qv 3) (q_int)) (q_item (hu_of hr) (qv 2) (q_int)) (nomark _)) (q_one (q_cmp op_pyLe (q_item (hu_of hr) (qv 2) (q_int)) (q_item (hu_of hr) (qv 3) (q_int)) (nomark _)))))) qa_nil)))))
theorem holds_ok (fx : Fx P w K T mg base) : DFn P w K T mg base 1 "holds" ["spans", "others"] sp_holds := (holds_fa fx).fn fx.mg_holds
def t_is_good : DTS := (sSeq (sIf (dAnd (dTest (dOp pyEq (dVar 3) (dC (.int 0)))) (dOr (dTest (dOp pyIs (dOp pyItem (dVar 2) (dC (.int 0))) (dC .non))) (dNot (dTest (dCall sp_holds (dCons (dC (.tup [(.tup [(.int 0), (.int 0)]), (.tup [(.int 0), (.int 0)]), (.tup [(.int 0), (.int 0)]), (.tup [(.int 0), (.int 0)])])) (dCons (dOp pyItem (dVar 2) (dC (.int 0))) dNil))))))) (sRet (dC (.bl false))) sNext) (sSeq (sIf (dTest (dOp pyIs (dOp pyItem (dVar 2) (dVar 3)) (dC .non))) (sRet (dC (.bl true))) sNext) (sSeq (sSet 4 (dCall sp_behind (dCons (dVar 0) (dCons (dVar 1) (dCons (dVar 3) (dCons (dOp pyItem (dVar 2) (dVar 3)) dNil)))))) (sSeq (sIf (dTest (dOp pyIs (dVar 4) (dC .non))) (sRet (dC (.bl false))) sNext) (sRet (dB pyAll (dCons (dLc (dIter (dVar 4)) (.t [5, 6]) dYes (dAndV (dOp pyLt (dVar 5) (dB pyLen (dCons (dVar 0) dNil))) (dAndV (dOp pyIsNot (dOp pyItem (dVar 2) (dVar 5)) (dC .non)) (dCall sp_holds (dCons (dVar 6) (dCons (dOp pyItem (dVar 2) (dVar 5)) dNil))))) [5, 6]) dNil)))))))
abbrev sp_is_good : DSp := spOf ["program", "room", "paper", "at", "found", "goal", "spans"] 4 t_is_good
theorem sc_is_good : FnScope ["program", "room", "paper", "at", "found", "goal", "spans"] ["program", "room", "paper", "at"] (defScope s_is_good) := ⟨rfl, rfl, rfl, by decide +kernel, rfl, by decide +kernel, by decide +kernel⟩
theorem is_good_fa (fx : Fx P w K T mg base) : DFa P w K T mg base 5 ("is_good", none) ["program", "room", "paper", "at"] sp_is_good :=
  dfa_of fx.fd_is_good sc_is_good (fun _ _ _ _ _ _ us hl => match us, hl with | [_, _, _, _], _ => rfl) (fun cdv A outer s H E hcd hr => (qs_cons (qs_if (qt_w (qw_and (q_cmpT (op_pyEq hr.units) (qv 3) (q_int) (nomark _)) (qw_and1 (qt_w (qw_or (q_cmpT op_pyIs (q_item (hu_of hr) (qv 2) (q_int)) (q_non) (nomark _)) (qw_or1 (qt_not (qt_val (q_call (holds_ok fx) hr (by decide) (L2N.takes_of rfl rfl rfl rfl) rfl (qa_cons (q_gtup rfl fx.tu_BARE) (qa_cons (q_item (hu_of hr) (qv 2) (q_int)) qa_nil))))))))))) (qs_one (qs_ret (q_bl))) qs_nil) (qs_cons (qs_if (q_cmpT op_pyIs (q_item (hu_of hr) (qv 2) (qv 3)) (q_non) (nomark _)) (qs_one (qs_ret (q_bl))) qs_nil) (qs_cons (qs_set sc_is_good.nd rfl (by first | exact Or.inl rfl | exact Or.inr rfl) (q_call (behind_ok fx) hr (by decide) (L2N.takes_of rfl rfl rfl rfl) rfl (qa_cons (qv 0) (qa_cons (qv 1) (qa_cons (qv 3) (qa_cons (q_item (hu_of hr) (qv 2) (qv 3)) qa_nil)))))) (qs_cons (qs_if (q_cmpT op_pyIs (qv 4) (q_non) (nomark _)) (qs_one (qs_ret (q_bl))) qs_nil) (qs_one (qs_ret (q_callB (call_pyAll rfl) rfl (fx.free "all" (by decide)) boot_all (qa_cons (q_lc [("goal", 5), ("spans", 6)] rfl sc_is_good.nd (qi_it (qv 4)) (blkOk_by (by kernel_rfl)) rfl (fun s H C cl fp => (pg_tup rfl (pgs_cons (pg_name sc_is_good.nd rfl (by first | exact Or.inl rfl | exact Or.inr rfl)) (pgs_cons (pg_name sc_is_good.nd rfl (by first | exact Or.inl rfl | exact Or.inr rfl)) pgs_nil)))) (fun s H C cl fp => qts_nil) (fun s H C cl fp => (q_and (q_cmp op_pyLt (qv 5) (q_callB call_pyLen rfl (fx.free "len" (by decide)) boot_len (qa_cons (qv 0) qa_nil)) (nomark _)) (q_and (q_cmp op_pyIsNot (q_item (hu_of hr) (qv 2) (qv 5)) (q_non) (nomark _)) (q_one (q_call (holds_ok fx) hr (by decide) takesF rfl (qa_cons (qv 6) (qa_cons (q_item (hu_of hr) (qv 2) (qv 5)) qa_nil)))))))) qa_nil)))))))))
theorem is_good_ok (fx : Fx P w K T mg base) : DFn P w K T mg base 5 "is_good" ["program", "room", "paper", "at"] sp_is_good := (is_good_fa fx).fn fx.mg_is_good
def t_wrong_at : DTS := (sSeq (sSet 3 (dLc (dRange1 (dCons (dB pyLen (dCons (dVar 0) dNil)) dNil)) (.n 4) (dNot (dTest (dCall sp_is_good (dCons (dVar 0) (dCons (dVar 1) (dCons (dVar 2) (dCons (dVar 4) dNil))))))) (dVar 4) [4])) (sRet (dIf (dTest (dOp pyNe (dVar 3) (dLst dNil))) (dOp pyItem (dVar 3) (dC (.int 0))) (dC .non))))
abbrev sp_wrong_at : DSp := spOf ["program", "room", "paper", "some", "at"] 3 t_wrong_at
theorem sc_wrong_at : FnScope ["program", "room", "paper", "some", "at"] ["program", "room", "paper"] (defScope s_wrong_at) := ⟨rfl, rfl, rfl, by decide +kernel, rfl, by decide +kernel, by decide +kernel⟩
theorem wrong_at_fa (fx : Fx P w K T mg base) : DFa P w K T mg base 6 ("wrong_at", none) ["program", "room", "paper"] sp_wrong_at :=
  dfa_of fx.fd_wrong_at sc_wrong_at (fun _ _ _ _ _ _ us hl => match us, hl with | [_, _, _], _ => rfl) (fun cdv A outer s H E hcd hr => (qs_cons (qs_setLc [("at", 4)] rfl sc_wrong_at.nd rfl rfl (sw_true rfl rfl rfl (by decide +kernel)) (qi_range1 rfl (fx.free "range" (by decide)) (qa_cons (q_callB call_pyLen rfl (fx.free "len" (by decide)) boot_len (qa_cons (qv 0) qa_nil)) qa_nil)) (blkOk_by (by kernel_rfl)) rfl (fun s H C cl fp => (pg_name sc_wrong_at.nd rfl (by first | exact Or.inl rfl | exact Or.inr rfl))) (fun s H C cl fp => (qts_one (qt_not (qt_val (q_call (is_good_ok fx) hr (by decide) takesF rfl (qa_cons (qv 0) (qa_cons (qv 1) (qa_cons (qv 2) (qa_cons (qv 4) qa_nil))))))))) (fun s H C cl fp => (qv 4))) (qs_one (qs_ret (q_if (q_cmpT (op_pyNe hr.units) (qv 3) (q_lst qa_nil) (nomark _)) (q_item (hu_of hr) (qv 3) (q_int)) (q_non))))))
theorem wrong_at_ok (fx : Fx P w K T mg base) : DFn P w K T mg base 6 "wrong_at" ["program", "room", "paper"] sp_wrong_at := (wrong_at_fa fx).fn fx.mg_wrong_at
def t_is_right : DTS := (sSeq (sDrop (dCall sp_need_asked (dCons (dVar 0) (dCons (dVar 1) dNil)))) (sRet (dAndV (dCall sp_is_form (dCons (dVar 0) (dCons (dVar 2) dNil))) (dOp pyIs (dCall sp_wrong_at (dCons (dVar 0) (dCons (dVar 1) (dCons (dVar 2) dNil)))) (dC .non)))))
abbrev sp_is_right : DSp := spOf ["program", "room", "paper"] 3 t_is_right
theorem sc_is_right : FnScope ["program", "room", "paper"] ["program", "room", "paper"] (defScope s_is_right) := ⟨rfl, rfl, rfl, by decide +kernel, rfl, by decide +kernel, by decide +kernel⟩
theorem is_right_fa (fx : Fx P w K T mg base) : DFa P w K T mg base 8 ("is_right", none) ["program", "room", "paper"] sp_is_right :=
  dfa_of fx.fd_is_right sc_is_right (fun _ _ _ _ _ _ us hl => match us, hl with | [_, _, _], _ => rfl) (fun cdv A outer s H E hcd hr => (qs_cons (qs_expr (q_call (need_asked_ok fx) hr (by decide) (L2N.takes_of rfl rfl rfl rfl) rfl (qa_cons (qv 0) (qa_cons (qv 1) qa_nil)))) (qs_one (qs_ret (q_and (q_call (is_form_ok fx) hr (by decide) (L2N.takes_of rfl rfl rfl rfl) rfl (qa_cons (qv 0) (qa_cons (qv 2) qa_nil))) (q_one (q_cmp op_pyIs (q_call (wrong_at_ok fx) hr (by decide) (L2N.takes_of rfl rfl rfl rfl) rfl (qa_cons (qv 0) (qa_cons (qv 1) (qa_cons (qv 2) qa_nil)))) (q_non) (nomark _))))))))
theorem is_right_ok (fx : Fx P w K T mg base) : DFn P w K T mg base 8 "is_right" ["program", "room", "paper"] sp_is_right := (is_right_fa fx).fn fx.mg_is_right
def t_is_row_rights : DTS := (sSeq (sIf (dOr (dNot (dTest (dUn (pyIsi "tuple") (dVar 0)))) (dOr (dTest (dOp pyGt (dB pyLen (dCons (dVar 0) dNil)) (dC (.int 6)))) (dNot (dTest (dB pyAll (dCons (dLc (dIter (dVar 0)) (.n 1) dYes (dCall sp_is_word (dCons (dVar 1) dNil)) [1]) dNil)))))) (sRet (dC (.bl false))) sNext) (sRet (dB pyAll (dCons (dLc (dZip (dCons (dVar 0) (dCons (dSlice (dVar 0) (dPart (dC (.int 1))) dNoPart) dNil))) (.t [1, 2]) dYes (dOp pyLt (dVar 1) (dVar 2)) [1, 2]) dNil))))
abbrev sp_is_row_rights : DSp := spOf ["thing", "one", "other"] 1 t_is_row_rights
def e_is_row_rights : List D → Option (Except DX D) := fnE ["thing", "one", "other"] 1 (xSeq (xIf (eOr (eNot (eTest (eUn (pyIsi "tuple") (eVar 0)))) (eOr (eTest (eOp pyGt (eB pyLen (eCons (eVar 0) (eC []))) (eC (.int 6)))) (eNot (eTest (eB pyAll (eCons (eLc (eIter (eVar 0)) (.n 1) (eC true) (eCall e_is_word (eCons (eVar 1) (eC []))) [1]) (eC []))))))) (xRet (eC (.bl false))) (xNext)) (xRet (eB pyAll (eCons (eLc (eZip (eCons (eVar 0) (eCons (eSlice (eVar 0) (ePart (eC (.int 1))) (eC none)) (eC [])))) (.t [1, 2]) (eC true) (eOp pyLt (eVar 1) (eVar 2)) [1, 2]) (eC [])))))
theorem ev_is_row_rights : EvF sp_is_row_rights e_is_row_rights := evf (xv_seq (xv_if (ev_or (ev_not (ev_test (ev_un m_isi (ev_var 0)))) (ev_or (ev_test (ev_op m_gt (ev_b m_len (ev_cons (ev_var 0) (ev_nil))) (ev_c _))) (ev_not (ev_test (ev_b m_all (ev_cons (ev_lc (ev_iter (ev_var 0)) (ev_yes) (ev_call ev_is_word (ev_cons (ev_var 1) (ev_nil)))) (ev_nil))))))) (xv_ret (ev_c _)) (xv_next)) (xv_ret (ev_b m_all (ev_cons (ev_lc (ev_zip (ev_cons (ev_var 0) (ev_cons (ev_slice (ev_var 0) (ev_part (ev_c _)) (ev_noPart)) (ev_nil)))) (ev_yes) (ev_op m_lt (ev_var 1) (ev_var 2))) (ev_nil)))))
theorem sc_is_row_rights : FnScope ["thing", "one", "other"] ["thing"] (defScope s_is_row_rights) := ⟨rfl, rfl, rfl, by decide +kernel, rfl, by decide +kernel, by decide +kernel⟩
theorem is_row_rights_fa (fx : Fx P w K T mg base) : DFa P w K T mg base 2 ("is_row_rights", none) ["thing"] sp_is_row_rights :=
  dfa_of fx.fd_is_row_rights sc_is_row_rights (fun _ _ _ _ _ _ us hl => match us, hl with | [_], _ => rfl) (fun cdv A outer s H E hcd hr => (qs_cons (qs_if (qt_w (qw_or (qt_not (qt_val (q_isi rfl (fx.free "isinstance" (by decide)) rfl (fx.free "tuple" (by decide)) boot_tuple (qv 0)))) (qw_or (q_cmpT op_pyGt (q_callB call_pyLen rfl (fx.free "len" (by decide)) boot_len (qa_cons (qv 0) qa_nil)) (q_int) (nomark _)) (qw_or1 (qt_not (qt_val (q_callB (call_pyAll rfl) rfl (fx.free "all" (by decide)) boot_all (qa_cons (q_lc [("one", 1)] rfl sc_is_row_rights.nd (qi_it (qv 0)) (blkOk_by (by kernel_rfl)) rfl (fun s H C cl fp => (pg_name sc_is_row_rights.nd rfl (by first | exact Or.inl rfl | exact Or.inr rfl))) (fun s H C cl fp => qts_nil) (fun s H C cl fp => (q_call (is_word_ok fx) hr (by decide) takesF rfl (qa_cons (qv 1) qa_nil)))) qa_nil)))))))) (qs_one (qs_ret (q_bl))) qs_nil) (qs_one (qs_ret (q_callB (call_pyAll rfl) rfl (fx.free "all" (by decide)) boot_all (qa_cons (q_lc [("one", 1), ("other", 2)] rfl sc_is_row_rights.nd (qi_zip rfl (fx.free "zip" (by decide)) (qa_cons (qv 0) (qa_cons (q_slice (qv 0) (qo_some (q_int)) qo_none) qa_nil))) (blkOk_by (by kernel_rfl)) rfl (fun s H C cl fp => (pg_tup rfl (pgs_cons (pg_name sc_is_row_rights.nd rfl (by first | exact Or.inl rfl | exact Or.inr rfl)) (pgs_cons (pg_name sc_is_row_rights.nd rfl (by first | exact Or.inl rfl | exact Or.inr rfl)) pgs_nil)))) (fun s H C cl fp => qts_nil) (fun s H C cl fp => (q_cmp op_pyLt (qv 1) (qv 2) (nomark _)))) qa_nil))))))
theorem is_row_rights_ok (fx : Fx P w K T mg base) : DFn P w K T mg base 2 "is_row_rights" ["thing"] sp_is_row_rights := (is_row_rights_fa fx).fn fx.mg_is_row_rights
def t_is_rights : DTS := (sSeq (sIf (dOr (dNot (dTest (dUn (pyIsi "tuple") (dVar 0)))) (dOr (dTest (dOp pyNe (dB pyLen (dCons (dVar 0) dNil)) (dC (.int 5)))) (dNot (dTest (dCall sp_is_whole (dCons (dOp pyItem (dVar 0) (dC (.int 0))) (dCons (dC (.int 0)) (dCons (dC (.int 60)) dNil)))))))) (sRet (dC (.bl false))) sNext) (sRet (dB pyAll (dCons (dLc (dIter (dSlice (dVar 0) (dPart (dC (.int 1))) dNoPart)) (.n 1) dYes (dCall sp_is_row_rights (dCons (dVar 1) dNil)) [1]) dNil))))
abbrev sp_is_rights : DSp := spOf ["thing", "row"] 1 t_is_rights
def e_is_rights : List D → Option (Except DX D) := fnE ["thing", "row"] 1 (xSeq (xIf (eOr (eNot (eTest (eUn (pyIsi "tuple") (eVar 0)))) (eOr (eTest (eOp pyNe (eB pyLen (eCons (eVar 0) (eC []))) (eC (.int 5)))) (eNot (eTest (eCall e_is_whole (eCons (eOp pyItem (eVar 0) (eC (.int 0))) (eCons (eC (.int 0)) (eCons (eC (.int 60)) (eC []))))))))) (xRet (eC (.bl false))) (xNext)) (xRet (eB pyAll (eCons (eLc (eIter (eSlice (eVar 0) (ePart (eC (.int 1))) (eC none))) (.n 1) (eC true) (eCall e_is_row_rights (eCons (eVar 1) (eC []))) [1]) (eC [])))))
theorem ev_is_rights : EvF sp_is_rights e_is_rights := evf (xv_seq (xv_if (ev_or (ev_not (ev_test (ev_un m_isi (ev_var 0)))) (ev_or (ev_test (ev_op m_ne (ev_b m_len (ev_cons (ev_var 0) (ev_nil))) (ev_c _))) (ev_not (ev_test (ev_call ev_is_whole (ev_cons (ev_op m_item (ev_var 0) (ev_c _)) (ev_cons (ev_c _) (ev_cons (ev_c _) (ev_nil))))))))) (xv_ret (ev_c _)) (xv_next)) (xv_ret (ev_b m_all (ev_cons (ev_lc (ev_iter (ev_slice (ev_var 0) (ev_part (ev_c _)) (ev_noPart))) (ev_yes) (ev_call ev_is_row_rights (ev_cons (ev_var 1) (ev_nil)))) (ev_nil)))))
theorem sc_is_rights : FnScope ["thing", "row"] ["thing"] (defScope s_is_rights) := ⟨rfl, rfl, rfl, by decide +kernel, rfl, by decide +kernel, by decide +kernel⟩
theorem is_rights_fa (fx : Fx P w K T mg base) : DFa P w K T mg base 3 ("is_rights", none) ["thing"] sp_is_rights :=
  dfa_of fx.fd_is_rights sc_is_rights (fun _ _ _ _ _ _ us hl => match us, hl with | [_], _ => rfl) (fun cdv A outer s H E hcd hr => (qs_cons (qs_if (qt_w (qw_or (qt_not (qt_val (q_isi rfl (fx.free "isinstance" (by decide)) rfl (fx.free "tuple" (by decide)) boot_tuple (qv 0)))) (qw_or (q_cmpT (op_pyNe hr.units) (q_callB call_pyLen rfl (fx.free "len" (by decide)) boot_len (qa_cons (qv 0) qa_nil)) (q_int) (nomark _)) (qw_or1 (qt_not (qt_val (q_call (is_whole_ok fx) hr (by decide) (L2N.takes_of rfl rfl rfl rfl) rfl (qa_cons (q_item (hu_of hr) (qv 0) (q_int)) (qa_cons (q_int) (qa_cons (q_gint rfl fx.gi_MOST_ROOM) qa_nil)))))))))) (qs_one (qs_ret (q_bl))) qs_nil) (qs_one (qs_ret (q_callB (call_pyAll rfl) rfl (fx.free "all" (by decide)) boot_all (qa_cons (q_lc [("row", 1)] rfl sc_is_rights.nd (qi_it (q_slice (qv 0) (qo_some (q_int)) qo_none)) (blkOk_by (by kernel_rfl)) rfl (fun s H C cl fp => (pg_name sc_is_rights.nd rfl (by first | exact Or.inl rfl | exact Or.inr rfl))) (fun s H C cl fp => qts_nil) (fun s H C cl fp => (q_call (is_row_rights_ok fx) hr (by decide) takesF rfl (qa_cons (qv 1) qa_nil)))) qa_nil))))))
theorem is_rights_ok (fx : Fx P w K T mg base) : DFn P w K T mg base 3 "is_rights" ["thing"] sp_is_rights := (is_rights_fa fx).fn fx.mg_is_rights
def t_need_rights : DTS := (sIf (dNot (dTest (dCall sp_is_rights (dCons (dVar 0) dNil)))) (sRaise "BadRights") sNext)
abbrev sp_need_rights : DSp := spOf ["thing"] 1 t_need_rights
def e_need_rights : List D → Option (Except DX D) := fnE ["thing"] 1 (xIf (eNot (eTest (eCall e_is_rights (eCons (eVar 0) (eC []))))) (xRaise "BadRights") (xNext))
theorem ev_need_rights : EvF sp_need_rights e_need_rights := evf (xv_if (ev_not (ev_test (ev_call ev_is_rights (ev_cons (ev_var 0) (ev_nil))))) (xv_raise) (xv_next))
theorem sc_need_rights : FnScope ["thing"] ["thing"] (defScope s_need_rights) := ⟨rfl, rfl, rfl, by decide +kernel, rfl, by decide +kernel, by decide +kernel⟩
theorem need_rights_fa (fx : Fx P w K T mg base) : DFa P w K T mg base 4 ("need_rights", none) ["thing"] sp_need_rights :=
  dfa_of fx.fd_need_rights sc_need_rights (fun _ _ _ _ _ _ us hl => match us, hl with | [_], _ => rfl) (fun cdv A outer s H E hcd hr => (qs_one (qs_if (qt_not (qt_val (q_call (is_rights_ok fx) hr (by decide) (L2N.takes_of rfl rfl rfl rfl) rfl (qa_cons (qv 0) qa_nil)))) (qs_one (qs_raise (dxc fx.xc_BadRights) rfl (L2N.takes_of rfl rfl rfl rfl) rfl)) qs_nil)))
theorem need_rights_ok (fx : Fx P w K T mg base) : DFn P w K T mg base 4 "need_rights" ["thing"] sp_need_rights := (need_rights_fa fx).fn fx.mg_need_rights
def t_words_of : DTS := (sSeq (sSet 1 (dLc (dIter (dTup (dCons (dC (.str "ask")) (dCons (dC (.str "tell")) (dCons (dC (.str "look")) (dCons (dC (.str "mark")) dNil)))))) (.n 3) dYes (dLc (dIter (dVar 0)) (.n 2) (dTest (dOp pyEq (dOp pyItem (dVar 2) (dC (.int 0))) (dVar 3))) (dOp pyItem (dVar 2) (dUn pyNeg (dC (.int 1)))) [2]) [3])) sNever)
abbrev sp_words_of : DSp := spOf ["instructions", "rows", "one", "word", "row"] 1 t_words_of
def e_words_of : List D → Option (Except DX D) := fnE ["instructions", "rows", "one", "word", "row"] 1 (xSeq (xSet 1 (eLc (eIter (eTup (eCons (eC (.str "ask")) (eCons (eC (.str "tell")) (eCons (eC (.str "look")) (eCons (eC (.str "mark")) (eC []))))))) (.n 3) (eC true) (eLc (eIter (eVar 0)) (.n 2) (eTest (eOp pyEq (eOp pyItem (eVar 2) (eC (.int 0))) (eVar 3))) (eOp pyItem (eVar 2) (eUn pyNeg (eC (.int 1)))) [2]) [3])) (xNever))
theorem ev_words_of : EvF sp_words_of e_words_of := evf (xv_seq (xv_set (ev_lc (ev_iter (ev_tup (ev_cons (ev_c _) (ev_cons (ev_c _) (ev_cons (ev_c _) (ev_cons (ev_c _) (ev_nil))))))) (ev_yes) (ev_lc (ev_iter (ev_var 0)) (ev_test (ev_op m_eq (ev_op m_item (ev_var 2) (ev_c _)) (ev_var 3))) (ev_op m_item (ev_var 2) (ev_un m_neg (ev_c _)))))) (xv_never))
theorem sc_words_of : FnScope ["instructions", "rows", "one", "word", "row"] ["instructions"] (defScope s_words_of) := ⟨rfl, rfl, rfl, by decide +kernel, rfl, by decide +kernel, by decide +kernel⟩
theorem words_of_fa (fx : Fx P w K T mg base) : DFa P w K T mg base 1 ("words_of", none) ["instructions"] sp_words_of :=
  dfa_of fx.fd_words_of sc_words_of (fun _ _ _ _ _ _ us hl => match us, hl with | [_], _ => rfl) (fun cdv A outer s H E hcd hr => (qs_cons (qs_setLc [("word", 3)] rfl sc_words_of.nd rfl rfl (sw_true rfl rfl rfl (by decide +kernel)) (qi_it (q_tup (qa_cons (q_str) (qa_cons (q_str) (qa_cons (q_str) (qa_cons (q_str) qa_nil)))))) (blkOk_by (by kernel_rfl)) rfl (fun s H C cl fp => (pg_name sc_words_of.nd rfl (by first | exact Or.inl rfl | exact Or.inr rfl))) (fun s H C cl fp => qts_nil) (fun s H C cl fp => (q_lc [("one", 2)] rfl sc_words_of.nd (qi_it (qv 0)) (blkOk_by (by kernel_rfl)) rfl (fun s H C cl fp => (pg_name sc_words_of.nd rfl (by first | exact Or.inl rfl | exact Or.inr rfl))) (fun s H C cl fp => (qts_one (q_cmpT (op_pyEq hr.units) (q_item (hu_of hr) (qv 2) (q_int)) (qv 3) (nomark _)))) (fun s H C cl fp => (q_item (hu_of hr) (qv 2) (q_un un_pyNeg (q_int))))))) qss_never))
theorem words_of_ok (fx : Fx P w K T mg base) : DFn P w K T mg base 1 "words_of" ["instructions"] sp_words_of := (words_of_fa fx).fn fx.mg_words_of
def t_needs : DTS := (sSeq (sDrop (dCall sp_need_program (dCons (dVar 0) dNil))) (sSeq (sDrop (dCall sp_need_room (dCons (dVar 1) dNil))) (sSeq (sSet 2 (dOp pyAdd (dTup (dCons (dVar 1) dNil)) (dCall sp_words_of (dCons (dLc (dIter (dCall sp_places_of (dCons (dVar 0) dNil))) (.n 3) dYes (dOp pyItem (dVar 0) (dVar 3)) [3]) dNil)))) (sSeq (sDrop (dCall sp_need_rights (dCons (dVar 2) dNil))) (sRet (dVar 2))))))
abbrev sp_needs : DSp := spOf ["program", "room", "found", "place"] 2 t_needs
theorem sc_needs : FnScope ["program", "room", "found", "place"] ["program", "room"] (defScope s_needs) := ⟨rfl, rfl, rfl, by decide +kernel, rfl, by decide +kernel, by decide +kernel⟩
theorem needs_fa (fx : Fx P w K T mg base) : DFa P w K T mg base 7 ("needs", none) ["program", "room"] sp_needs :=
  dfa_of fx.fd_needs sc_needs (fun _ _ _ _ _ _ us hl => match us, hl with | [_, _], _ => rfl) (fun cdv A outer s H E hcd hr => (qs_cons (qs_expr (q_call (need_program_ok fx) hr (by decide) (L2N.takes_of rfl rfl rfl rfl) rfl (qa_cons (qv 0) qa_nil))) (qs_cons (qs_expr (q_call (need_room_ok fx) hr (by decide) (L2N.takes_of rfl rfl rfl rfl) rfl (qa_cons (qv 1) qa_nil))) (qs_cons (qs_set sc_needs.nd rfl (by first | exact Or.inl rfl | exact Or.inr rfl) (q_op op_pyAdd (q_tup (qa_cons (qv 1) qa_nil)) (q_call (words_of_ok fx) hr (by decide) (L2N.takes_of rfl rfl rfl rfl) rfl (qa_cons (q_lc [("place", 3)] rfl sc_needs.nd (qi_it (q_call (places_of_ok fx) hr (by decide) (L2N.takes_of rfl rfl rfl rfl) rfl (qa_cons (qv 0) qa_nil))) (blkOk_by (by kernel_rfl)) rfl (fun s H C cl fp => (pg_name sc_needs.nd rfl (by first | exact Or.inl rfl | exact Or.inr rfl))) (fun s H C cl fp => qts_nil) (fun s H C cl fp => (q_item (hu_of hr) (qv 0) (qv 3)))) qa_nil)))) (qs_cons (qs_expr (q_call (need_rights_ok fx) hr (by decide) (L2N.takes_of rfl rfl rfl rfl) rfl (qa_cons (qv 2) qa_nil))) (qs_one (qs_ret (qv 2))))))))
theorem needs_ok (fx : Fx P w K T mg base) : DFn P w K T mg base 7 "needs" ["program", "room"] sp_needs := (needs_fa fx).fn fx.mg_needs
def t_program_text : DTS := (sSeq (sDrop (dCall sp_need_program (dCons (dVar 0) dNil))) (sRet (dMt "str" mJoin (dC (.str "\n")) (dCons (dLc (dIter (dVar 0)) (.n 2) dYes (dMt "str" mJoin (dC (.str " ")) (dCons (dLc (dIter (dVar 2)) (.n 1) dYes (dB pyStr (dCons (dVar 1) dNil)) [1]) dNil)) [2]) dNil))))
abbrev sp_program_text : DSp := spOf ["program", "part", "one"] 1 t_program_text
def e_program_text : List D → Option (Except DX D) := fnE ["program", "part", "one"] 1 (xSeq (xDrop (eCall e_need_program (eCons (eVar 0) (eC [])))) (xRet (eMt "str" mJoin (eC (.str "\n")) (eCons (eLc (eIter (eVar 0)) (.n 2) (eC true) (eMt "str" mJoin (eC (.str " ")) (eCons (eLc (eIter (eVar 2)) (.n 1) (eC true) (eB pyStr (eCons (eVar 1) (eC []))) [1]) (eC []))) [2]) (eC [])))))
theorem ev_program_text : EvF sp_program_text e_program_text := evf (xv_seq (xv_drop (ev_call ev_need_program (ev_cons (ev_var 0) (ev_nil)))) (xv_ret (ev_mt m_join (ev_c _) (ev_cons (ev_lc (ev_iter (ev_var 0)) (ev_yes) (ev_mt m_join (ev_c _) (ev_cons (ev_lc (ev_iter (ev_var 2)) (ev_yes) (ev_b m_str (ev_cons (ev_var 1) (ev_nil)))) (ev_nil)))) (ev_nil)))))
theorem sc_program_text : FnScope ["program", "part", "one"] ["program"] (defScope s_program_text) := ⟨rfl, rfl, rfl, by decide +kernel, rfl, by decide +kernel, by decide +kernel⟩
theorem program_text_fa (fx : Fx P w K T mg base) : DFa P w K T mg base 7 ("program_text", none) ["program"] sp_program_text :=
  dfa_of fx.fd_program_text sc_program_text (fun _ _ _ _ _ _ us hl => match us, hl with | [_], _ => rfl) (fun cdv A outer s H E hcd hr => (qs_cons (qs_expr (q_call (need_program_ok fx) hr (by decide) (L2N.takes_of rfl rfl rfl rfl) rfl (qa_cons (qv 0) qa_nil))) (qs_one (qs_ret (q_mt PySem.F.plainAttrs_str PySem.F.slot_str_join PySem.F.type_str_join mt_mJoin (q_str) (qa_cons (q_lc [("one", 2)] rfl sc_program_text.nd (qi_it (qv 0)) (blkOk_by (by kernel_rfl)) rfl (fun s H C cl fp => (pg_name sc_program_text.nd rfl (by first | exact Or.inl rfl | exact Or.inr rfl))) (fun s H C cl fp => qts_nil) (fun s H C cl fp => (q_mt PySem.F.plainAttrs_str PySem.F.slot_str_join PySem.F.type_str_join mt_mJoin (q_str) (qa_cons (q_lc [("part", 1)] rfl sc_program_text.nd (qi_it (qv 2)) (blkOk_by (by kernel_rfl)) rfl (fun s H C cl fp => (pg_name sc_program_text.nd rfl (by first | exact Or.inl rfl | exact Or.inr rfl))) (fun s H C cl fp => qts_nil) (fun s H C cl fp => (q_callTy call_pyStr rfl (fx.free "str" (by decide)) boot_str (qa_cons (qv 1) qa_nil)))) qa_nil)))) qa_nil))))))
theorem program_text_ok (fx : Fx P w K T mg base) : DFn P w K T mg base 7 "program_text" ["program"] sp_program_text := (program_text_fa fx).fn fx.mg_program_text
def t_words_in : DTS := (sSeq (sDrop (dCall sp_need_program (dCons (dVar 0) dNil))) (sRet (dCall sp_words_of (dCons (dVar 0) dNil))))
abbrev sp_words_in : DSp := spOf ["program"] 1 t_words_in
def e_words_in : List D → Option (Except DX D) := fnE ["program"] 1 (xSeq (xDrop (eCall e_need_program (eCons (eVar 0) (eC [])))) (xRet (eCall e_words_of (eCons (eVar 0) (eC [])))))
theorem ev_words_in : EvF sp_words_in e_words_in := evf (xv_seq (xv_drop (ev_call ev_need_program (ev_cons (ev_var 0) (ev_nil)))) (xv_ret (ev_call ev_words_of (ev_cons (ev_var 0) (ev_nil)))))
theorem sc_words_in : FnScope ["program"] ["program"] (defScope s_words_in) := ⟨rfl, rfl, rfl, by decide +kernel, rfl, by decide +kernel, by decide +kernel⟩
theorem words_in_fa (fx : Fx P w K T mg base) : DFa P w K T mg base 7 ("words_in", none) ["program"] sp_words_in :=
  dfa_of fx.fd_words_in sc_words_in (fun _ _ _ _ _ _ us hl => match us, hl with | [_], _ => rfl) (fun cdv A outer s H E hcd hr => (qs_cons (qs_expr (q_call (need_program_ok fx) hr (by decide) (L2N.takes_of rfl rfl rfl rfl) rfl (qa_cons (qv 0) qa_nil))) (qs_one (qs_ret (q_call (words_of_ok fx) hr (by decide) (L2N.takes_of rfl rfl rfl rfl) rfl (qa_cons (qv 0) qa_nil))))))
theorem words_in_ok (fx : Fx P w K T mg base) : DFn P w K T mg base 7 "words_in" ["program"] sp_words_in := (words_in_fa fx).fn fx.mg_words_in
def t_law : DTS := (sSeq (sFor (dIter (dCall sp__law_rounds (dCons (dVar 0) (dCons (dC (.int 5)) dNil)))) (.n 1) (sSeq (sSet 2 (dCall sp__law_any_program (dCons (dVar 1) (dCons (dC (.int 12)) dNil)))) (sSeq (sIf (dTest (dOp pyIsNot (dCall sp_is_program (dCons (dVar 2) dNil)) (dC (.bl true)))) (sRet (dC (.bl false))) sNext) (sSeq (sIf (dTest (dOp pyNe (dLc (dIter (dVar 2)) (.n 3) (dTest (dOp pyIsNot (dCall sp_is_instruction (dCons (dVar 3) dNil)) (dC (.bl true)))) (dVar 3) [3]) (dLst dNil))) (sRet (dC (.bl false))) sNext) (sSeq (sFor (dIter (dVar 2)) (.n 3) (sFor (dRange1 (dCons (dC (.int 4)) dNil)) (.n 4) (sSeq (sSet 5 (dOp pyItem (dLst (dCons (dC (.int 4)) (dCons (dUn pyNeg (dC (.int 1))) (dCons (dC (.int 100)) (dCons (dC (.int 99)) (dCons (dC (.int 1000)) (dCons (dC (.bl true)) (dCons (dC .non) (dCons (dC (.str "A")) (dCons (dC (.str "")) (dCons (dC (.str "abcdefghi")) (dCons (dC (.str "ok")) (dCons (dC (.int 3)) (dCons (dUn pyNeg (dC (.int 999))) dNil)))))))))))))) (dCall sp__law_roll (dCons (dVar 1) (dCons (dC (.int 13)) dNil))))) (sSeq (sSet 6 (dCall sp__law_roll (dCons (dVar 1) (dCons (dOp pyAdd (dB pyLen (dCons (dVar 3) dNil)) (dC (.int 1))) dNil)))) (sSeq (sSet 7 (dOp pyAdd (dOp pyAdd (dSlice (dVar 3) dNoPart (dPart (dVar 6))) (dTup (dCons (dVar 5) dNil))) (dSlice (dVar 3) (dPart (dOp pyAdd (dVar 6) (dCall sp__law_roll (dCons (dVar 1) (dCons (dC (.int 2)) dNil))))) dNoPart))) (sSeq (sIf (dTest (dOp pyNe (dCall sp_is_instruction (dCons (dVar 7) dNil)) (dCall sp__law_is_one (dCons (dVar 7) dNil)))) (sRet (dC (.bl false))) sNext) (sIf (dTest (dOp pyNe (dCall sp_is_program (dCons (dTup (dCons (dVar 7) dNil)) dNil)) (dCall sp__law_is_one (dCons (dVar 7) dNil)))) (sRet (dC (.bl false))) sNext))))))) (sSeq (sSet 8 (dLst (dCons (dC .non) (dCons (dC (.int 5)) (dCons (dC (.str "end")) (dCons (dTup (dCons (dC (.str "end")) dNil)) (dCons (dTup dNil) (dCons (dLst (dCons (dTup (dCons (dC (.str "end")) dNil)) dNil)) (dCons (dTup (dCons (dTup (dCons (dC (.str "end")) dNil)) (dCons (dC .non) dNil))) (dCons (dOp pyMul (dTup (dCons (dTup (dCons (dC (.str "end")) dNil)) dNil)) (dC (.int 41))) dNil)))))))))) (sSeq (sSet 8 (dOp pyAdd (dVar 8) (dLst (dCons (dTup (dCons (dTup (dCons (dC (.str "End")) dNil)) dNil)) (dCons (dTup (dCons (dTup dNil) dNil)) dNil))))) (sSeq (sFor (dIter (dVar 8)) (.n 9) (sSeq (sSet 10 (dLstB (dCons (dTold (dCall sp_come_to (dCons (dVar 9) dNil))) dNil))) (sSeq (sDrop (dMt "list" mAppend (dVar 10) (dCons (dTold (dCall sp_words_in (dCons (dVar 9) dNil))) dNil))) (sSeq (sDrop (dMt "list" mAppend (dVar 10) (dCons (dTold (dCall sp_program_text (dCons (dVar 9) dNil))) dNil))) (sSeq (sDrop (dMt "list" mAppend (dVar 10) (dCons (dTold (dCall sp_needs (dCons (dVar 9) (dCons (dC .non) dNil)))) dNil))) (sSeq (sDrop (dMt "list" mAppend (dVar 10) (dCons (dTold (dCall sp_is_right (dCons (dVar 9) (dCons (dC .non) (dCons (dC .non) dNil))))) dNil))) (sIf (dOr (dTest (dOp pyIsNot (dCall sp_is_program (dCons (dVar 9) dNil)) (dC (.bl false)))) (dTest (dOp pyNe (dVar 10) (dOp pyMul (dLst (dCons (dTup (dCons (dC (.str "refused")) (dCons (dC (.str "BadProgram")) dNil))) dNil)) (dC (.int 5)))))) (sRet (dC (.bl false))) sNext))))))) (sIf (dTest (dOp pyIsNot (dCall sp_is_program (dCons (dOp pyMul (dTup (dCons (dTup (dCons (dC (.str "end")) dNil)) dNil)) (dC (.int 40))) dNil)) (dC (.bl true)))) (sRet (dC (.bl false))) sNext))))))))) (sRet (dC (.bl true))))
abbrev sp_law : DSp := spOf ["script", "dice", "program", "one", "turn", "part", "at", "bent", "cases", "bad", "made"] 1 t_law
theorem sc_law : FnScope ["script", "dice", "program", "one", "turn", "part", "at", "bent", "cases", "bad", "made"] ["script"] (defScope s_law) := ⟨rfl, rfl, rfl, by decide +kernel, rfl, by decide +kernel, by decide +kernel⟩
theorem lam_law (fx : Fx P w K T mg base) (cdv : Value) (A : Around) (outer : List Env) (s : Shared) (H : Hp) (E : XK) (hcd : cdv = .ref (He.codeOf K ("law", none))) : LamT (cxOf (L2N.CX P w) P w K mg base ["script", "dice", "program", "one", "turn", "part", "at", "bent", "cases", "bad", "made"] "law" (defScope s_law) (He.fAd K ("law", none)) cdv A outer s H E) T := by
  obtain ⟨Pt, tb, e, u⟩ := fx.lamt_law
  exact ⟨_, Pt, tb, hcd, e, u⟩
def t_law_rest : DTS := (sIf (dTest (dOp pyIsNot (dCall sp_is_program (dCons (dOp pyMul (dTup (dCons (dTup (dCons (dC (.str "end")) dNil)) dNil)) (dC (.int 40))) dNil)) (dC (.bl true)))) (sRet (dC (.bl false))) sNext)
def x_law_rest : EvX := xIf (eTest (eOp pyIsNot (eCall e_is_program (eCons (eOp pyMul (eTup (eCons (eTup (eCons (eC (.str "end")) (eC []))) (eC []))) (eC (.int 40))) (eC []))) (eC (.bl true)))) (xRet (eC (.bl false))) (xNext)
theorem xv_law_rest : EvS t_law_rest x_law_rest := xv_if (ev_test (ev_op m_isnot (ev_call ev_is_program (ev_cons (ev_op m_mul (ev_tup (ev_cons (ev_tup (ev_cons (ev_c _) (ev_nil))) (ev_nil))) (ev_c _)) (ev_nil))) (ev_c _))) (xv_ret (ev_c _)) (xv_next)
theorem law_fn (fx : Fx P w K T mg base) {fd : FuncData} (F : FunD K "law" "law" (defArgs s_law) (defBody s_law) (defScope s_law) [] [] (He.fAd K ("law", none)) fd) : FnOk P w K mg base (L2N.CX P w) 11 (He.fAd K ("law", none)) fd ["script"] (liftSp K T sp_law) :=
  fna_of F sc_law (fun cdv A outer s H E hcd hr => (qs_cons (qs_for (passes_of rfl) rfl (qi_it (q_call (_law_rounds_ok fx) hr (by decide) (L2N.takes_of rfl rfl rfl rfl) rfl (qa_cons (qv 0) (qa_cons (q_int) qa_nil)))) (pg_name sc_law.nd rfl (by first | exact Or.inl rfl | exact Or.inr rfl)) (qs_cons (qs_set sc_law.nd rfl (by first | exact Or.inl rfl | exact Or.inr rfl) (q_call (_law_any_program_ok fx) hr (by decide) (L2N.takes_of rfl rfl rfl rfl) rfl (qa_cons (qv 1) (qa_cons (q_int) qa_nil)))) (qs_cons (qs_if (q_cmpT op_pyIsNot (q_call (is_program_ok fx) hr (by decide) (L2N.takes_of rfl rfl rfl rfl) rfl (qa_cons (qv 2) qa_nil)) (q_bl) (nomark _)) (qs_one (qs_ret (q_bl))) qs_nil) (qs_cons (qs_if (q_cmpT (op_pyNe hr.units) (q_lc [("one", 3)] rfl sc_law.nd (qi_it (qv 2)) (blkOk_by (by kernel_rfl)) rfl (fun s H C cl fp => (pg_name sc_law.nd rfl (by first | exact Or.inl rfl | exact Or.inr rfl))) (fun s H C cl fp => (qts_one (q_cmpT op_pyIsNot (q_call (is_instruction_ok fx) hr (by decide) takesF rfl (qa_cons (qv 3) qa_nil)) (q_bl) (nomark _)))) (fun s H C cl fp => (qv 3))) (q_lst qa_nil) (nomark _)) (qs_one (qs_ret (q_bl))) qs_nil) (qs_cons (qs_for (passes_of rfl) rfl (qi_it (qv 2)) (pg_name sc_law.nd rfl (by first | exact Or.inl rfl | exact Or.inr rfl)) (qs_one (qs_for (passes_of rfl) rfl (qi_range1 rfl (fx.free "range" (by decide)) (qa_cons (q_int) qa_nil)) (pg_name sc_law.nd rfl (by first | exact Or.inl rfl | exact Or.inr rfl)) (qs_cons (qs_set sc_law.nd rfl (by first | exact Or.inl rfl | exact Or.inr rfl) (q_item (hu_of hr) (q_lst (qa_cons (q_int) (qa_cons (q_un un_pyNeg (q_int)) (qa_cons (q_int) (qa_cons (q_int) (qa_cons (q_int) (qa_cons (q_bl) (qa_cons (q_non) (qa_cons (q_str) (qa_cons (q_str) (qa_cons (q_str) (qa_cons (q_str) (qa_cons (q_int) (qa_cons (q_un un_pyNeg (q_int)) qa_nil)))))))))))))) (q_call (_law_roll_ok fx) hr (by decide) (L2N.takes_of rfl rfl rfl rfl) rfl (qa_cons (qv 1) (qa_cons (q_int) qa_nil))))) (qs_cons (qs_set sc_law.nd rfl (by first | exact Or.inl rfl | exact Or.inr rfl) (q_call (_law_roll_ok fx) hr (by decide) (L2N.takes_of rfl rfl rfl rfl) rfl (qa_cons (qv 1) (qa_cons (q_op op_pyAdd (q_callB call_pyLen rfl (fx.free "len" (by decide)) boot_len (qa_cons (qv 3) qa_nil)) (q_int)) qa_nil)))) (qs_cons (qs_set sc_law.nd rfl (by first | exact Or.inl rfl | exact Or.inr rfl) (q_op op_pyAdd (q_op op_pyAdd (q_slice (qv 3) qo_none (qo_some (qv 6))) (q_tup (qa_cons (qv 5) qa_nil))) (q_slice (qv 3) (qo_some (q_op op_pyAdd (qv 6) (q_call (_law_roll_ok fx) hr (by decide) (L2N.takes_of rfl rfl rfl rfl) rfl (qa_cons (qv 1) (qa_cons (q_int) qa_nil))))) qo_none))) (qs_cons (qs_if (q_cmpT (op_pyNe hr.units) (q_call (is_instruction_ok fx) hr (by decide) (L2N.takes_of rfl rfl rfl rfl) rfl (qa_cons (qv 7) qa_nil)) (q_call (_law_is_one_ok fx) hr (by decide) (L2N.takes_of rfl rfl rfl rfl) rfl (qa_cons (qv 7) qa_nil)) (nomark _)) (qs_one (qs_ret (q_bl))) qs_nil) (qs_one (qs_if (q_cmpT (op_pyNe hr.units) (q_call (is_program_ok fx) hr (by decide) (L2N.takes_of rfl rfl rfl rfl) rfl (qa_cons (q_tup (qa_cons (qv 7) qa_nil)) qa_nil)) (q_call (_law_is_one_ok fx) hr (by decide) (L2N.takes_of rfl rfl rfl rfl) rfl (qa_cons (qv 7) qa_nil)) (nomark _)) (qs_one (qs_ret (q_bl))) qs_nil))))))))) (qs_cons (qs_set sc_law.nd rfl (by first | exact Or.inl rfl | exact Or.inr rfl) (q_lst (qa_cons (q_non) (qa_cons (q_int) (qa_cons (q_str) (qa_cons (q_tup (qa_cons (q_str) qa_nil)) (qa_cons (q_tup qa_nil) (qa_cons (q_lst (qa_cons (q_tup (qa_cons (q_str) qa_nil)) qa_nil)) (qa_cons (q_tup (qa_cons (q_tup (qa_cons (q_str) qa_nil)) (qa_cons (q_non) qa_nil))) (qa_cons (q_op op_pyMul (q_tup (qa_cons (q_tup (qa_cons (q_str) qa_nil)) qa_nil)) (q_int)) qa_nil)))))))))) (qs_cons (qs_set sc_law.nd rfl (by first | exact Or.inl rfl | exact Or.inr rfl) (q_op op_pyAdd (qv 8) (q_lst (qa_cons (q_tup (qa_cons (q_tup (qa_cons (q_str) qa_nil)) qa_nil)) (qa_cons (q_tup (qa_cons (q_tup qa_nil) qa_nil)) qa_nil))))) (qs_cons (qs_for (passes_of rfl) rfl (qi_it (qv 8)) (pg_name sc_law.nd rfl (by first | exact Or.inl rfl | exact Or.inr rfl)) (qs_cons (qs_set sc_law.nd rfl (by first | exact Or.inl rfl | exact Or.inr rfl) (q_lstB (qa_cons (q_told (_law_told_ok fx) (lam_law fx cdv A outer s H E hcd) rfl hr (by decide) (lamS_by (by kernel_rfl)) (fun A outer s H E f c2 hr => (q_call (come_to_ok fx) hr (by decide) takes_lam rfl (qa_cons (qv 9) qa_nil)))) qa_nil))) (qs_cons (qs_expr (q_mt PySem.F.plainAttrs_list PySem.F.slot_list_append PySem.F.type_list_append mt_mAppend (qv 10) (qa_cons (q_told (_law_told_ok fx) (lam_law fx cdv A outer s H E hcd) rfl hr (by decide) (lamS_by (by kernel_rfl)) (fun A outer s H E f c2 hr => (q_call (words_in_ok fx) hr (by decide) takes_lam rfl (qa_cons (qv 9) qa_nil)))) qa_nil))) (qs_cons (qs_expr (q_mt PySem.F.plainAttrs_list PySem.F.slot_list_append PySem.F.type_list_append mt_mAppend (qv 10) (qa_cons (q_told (_law_told_ok fx) (lam_law fx cdv A outer s H E hcd) rfl hr (by decide) (lamS_by (by kernel_rfl)) (fun A outer s H E f c2 hr => (q_call (program_text_ok fx) hr (by decide) takes_lam rfl (qa_cons (qv 9) qa_nil)))) qa_nil))) (qs_cons (qs_expr (q_mt PySem.F.plainAttrs_list PySem.F.slot_list_append PySem.F.type_list_append mt_mAppend (qv 10) (qa_cons (q_told (_law_told_ok fx) (lam_law fx cdv A outer s H E hcd) rfl hr (by decide) (lamS_by (by kernel_rfl)) (fun A outer s H E f c2 hr => (q_call (needs_ok fx) hr (by decide) takes_lam rfl (qa_cons (qv 9) (qa_cons (q_non) qa_nil))))) qa_nil))) (qs_cons (qs_expr (q_mt PySem.F.plainAttrs_list PySem.F.slot_list_append PySem.F.type_list_append mt_mAppend (qv 10) (qa_cons (q_told (_law_told_ok fx) (lam_law fx cdv A outer s H E hcd) rfl hr (by decide) (lamS_by (by kernel_rfl)) (fun A outer s H E f c2 hr => (q_call (is_right_ok fx) hr (by decide) takes_lam rfl (qa_cons (qv 9) (qa_cons (q_non) (qa_cons (q_non) qa_nil)))))) qa_nil))) (qs_one (qs_if (qt_w (qw_or (q_cmpT op_pyIsNot (q_call (is_program_ok fx) hr (by decide) (L2N.takes_of rfl rfl rfl rfl) rfl (qa_cons (qv 9) qa_nil)) (q_bl) (nomark _)) (qw_or1 (q_cmpT (op_pyNe hr.units) (qv 10) (q_op op_pyMul (q_lst (qa_cons (q_tup (qa_cons (q_str) (qa_cons (q_str) qa_nil))) qa_nil)) (q_int)) (nomark _))))) (qs_one (qs_ret (q_bl))) qs_nil)))))))) (qs_one (qs_if (q_cmpT op_pyIsNot (q_call (is_program_ok fx) hr (by decide) (L2N.takes_of rfl rfl rfl rfl) rfl (qa_cons (q_op op_pyMul (q_tup (qa_cons (q_tup (qa_cons (q_str) qa_nil)) qa_nil)) (q_int)) qa_nil)) (q_bl) (nomark _)) (qs_one (qs_ret (q_bl))) qs_nil)))))))))) (qs_one (qs_ret (q_bl)))))
end
end K01

namespace K01
open DL L2 PySem
def b__law_any_order_0 : DTS := (sIf (dTest (dOp pyEq (dVar 5) (dC (.str "r")))) (sDrop (dMt "list" mAppend (dVar 4) (dCons (dCall sp__law_roll (dCons (dVar 0) (dCons (dC (.int 4)) dNil))) dNil))) (sIf (dTest (dOp pyEq (dVar 5) (dC (.str "n")))) (sDrop (dMt "list" mAppend (dVar 4) (dCons (dOp pyItem (dLst (dCons (dC (.int 0)) (dCons (dC (.int 1)) (dCons (dC (.int 2)) (dCons (dC (.int 3)) (dCons (dC (.int 5)) (dCons (dUn pyNeg (dC (.int 1))) (dCons (dC (.int 9)) (dCons (dC (.int 400)) (dCons (dC (.int 999)) dNil)))))))))) (dCall sp__law_roll (dCons (dVar 0) (dCons (dC (.int 9)) dNil)))) dNil))) (sIf (dTest (dOp pyEq (dVar 5) (dC (.str "g")))) (sDrop (dMt "list" mAppend (dVar 4) (dCons (dCall sp__law_roll (dCons (dVar 0) (dCons (dOp pyAdd (dVar 1) (dB pyIntS (dCons (dOp pyEq (dCall sp__law_roll (dCons (dVar 0) (dCons (dC (.int 12)) dNil))) (dC (.int 0))) dNil))) dNil))) dNil))) (sSeq (sSet 6 (dIf (dTest (dOp pyIn (dVar 3) (dTup (dCons (dC (.str "look")) (dCons (dC (.str "mark")) dNil))))) (dCall sp__law_page_pool dNil) (dCall sp__law_door_pool dNil))) (sDrop (dMt "list" mAppend (dVar 4) (dCons (dOp pyItem (dVar 6) (dCall sp__law_roll (dCons (dVar 0) (dCons (dB pyLen (dCons (dVar 6) dNil)) dNil)))) dNil)))))))
def b_law_0 : DTS := (sSeq (sSet 2 (dCall sp__law_any_program (dCons (dVar 1) (dCons (dC (.int 12)) dNil)))) (sSeq (sIf (dTest (dOp pyIsNot (dCall sp_is_program (dCons (dVar 2) dNil)) (dC (.bl true)))) (sRet (dC (.bl false))) sNext) (sSeq (sIf (dTest (dOp pyNe (dLc (dIter (dVar 2)) (.n 3) (dTest (dOp pyIsNot (dCall sp_is_instruction (dCons (dVar 3) dNil)) (dC (.bl true)))) (dVar 3) [3]) (dLst dNil))) (sRet (dC (.bl false))) sNext) (sSeq (sFor (dIter (dVar 2)) (.n 3) (sFor (dRange1 (dCons (dC (.int 4)) dNil)) (.n 4) (sSeq (sSet 5 (dOp pyItem (dLst (dCons (dC (.int 4)) (dCons (dUn pyNeg (dC (.int 1))) (dCons (dC (.int 100)) (dCons (dC (.int 99)) (dCons (dC (.int 1000)) (dCons (dC (.bl true)) (dCons (dC .non) (dCons (dC (.str "A")) (dCons (dC (.str "")) (dCons (dC (.str "abcdefghi")) (dCons (dC (.str "ok")) (dCons (dC (.int 3)) (dCons (dUn pyNeg (dC (.int 999))) dNil)))))))))))))) (dCall sp__law_roll (dCons (dVar 1) (dCons (dC (.int 13)) dNil))))) (sSeq (sSet 6 (dCall sp__law_roll (dCons (dVar 1) (dCons (dOp pyAdd (dB pyLen (dCons (dVar 3) dNil)) (dC (.int 1))) dNil)))) (sSeq (sSet 7 (dOp pyAdd (dOp pyAdd (dSlice (dVar 3) dNoPart (dPart (dVar 6))) (dTup (dCons (dVar 5) dNil))) (dSlice (dVar 3) (dPart (dOp pyAdd (dVar 6) (dCall sp__law_roll (dCons (dVar 1) (dCons (dC (.int 2)) dNil))))) dNoPart))) (sSeq (sIf (dTest (dOp pyNe (dCall sp_is_instruction (dCons (dVar 7) dNil)) (dCall sp__law_is_one (dCons (dVar 7) dNil)))) (sRet (dC (.bl false))) sNext) (sIf (dTest (dOp pyNe (dCall sp_is_program (dCons (dTup (dCons (dVar 7) dNil)) dNil)) (dCall sp__law_is_one (dCons (dVar 7) dNil)))) (sRet (dC (.bl false))) sNext))))))) (sSeq (sSet 8 (dLst (dCons (dC .non) (dCons (dC (.int 5)) (dCons (dC (.str "end")) (dCons (dTup (dCons (dC (.str "end")) dNil)) (dCons (dTup dNil) (dCons (dLst (dCons (dTup (dCons (dC (.str "end")) dNil)) dNil)) (dCons (dTup (dCons (dTup (dCons (dC (.str "end")) dNil)) (dCons (dC .non) dNil))) (dCons (dOp pyMul (dTup (dCons (dTup (dCons (dC (.str "end")) dNil)) dNil)) (dC (.int 41))) dNil)))))))))) (sSeq (sSet 8 (dOp pyAdd (dVar 8) (dLst (dCons (dTup (dCons (dTup (dCons (dC (.str "End")) dNil)) dNil)) (dCons (dTup (dCons (dTup dNil) dNil)) dNil))))) (sSeq (sFor (dIter (dVar 8)) (.n 9) (sSeq (sSet 10 (dLstB (dCons (dTold (dCall sp_come_to (dCons (dVar 9) dNil))) dNil))) (sSeq (sDrop (dMt "list" mAppend (dVar 10) (dCons (dTold (dCall sp_words_in (dCons (dVar 9) dNil))) dNil))) (sSeq (sDrop (dMt "list" mAppend (dVar 10) (dCons (dTold (dCall sp_program_text (dCons (dVar 9) dNil))) dNil))) (sSeq (sDrop (dMt "list" mAppend (dVar 10) (dCons (dTold (dCall sp_needs (dCons (dVar 9) (dCons (dC .non) dNil)))) dNil))) (sSeq (sDrop (dMt "list" mAppend (dVar 10) (dCons (dTold (dCall sp_is_right (dCons (dVar 9) (dCons (dC .non) (dCons (dC .non) dNil))))) dNil))) (sIf (dOr (dTest (dOp pyIsNot (dCall sp_is_program (dCons (dVar 9) dNil)) (dC (.bl false)))) (dTest (dOp pyNe (dVar 10) (dOp pyMul (dLst (dCons (dTup (dCons (dC (.str "refused")) (dCons (dC (.str "BadProgram")) dNil))) dNil)) (dC (.int 5)))))) (sRet (dC (.bl false))) sNext))))))) (sIf (dTest (dOp pyIsNot (dCall sp_is_program (dCons (dOp pyMul (dTup (dCons (dTup (dCons (dC (.str "end")) dNil)) dNil)) (dC (.int 40))) dNil)) (dC (.bl true)))) (sRet (dC (.bl false))) sNext))))))))
def b_law_1 : DTS := (sFor (dRange1 (dCons (dC (.int 4)) dNil)) (.n 4) (sSeq (sSet 5 (dOp pyItem (dLst (dCons (dC (.int 4)) (dCons (dUn pyNeg (dC (.int 1))) (dCons (dC (.int 100)) (dCons (dC (.int 99)) (dCons (dC (.int 1000)) (dCons (dC (.bl true)) (dCons (dC .non) (dCons (dC (.str "A")) (dCons (dC (.str "")) (dCons (dC (.str "abcdefghi")) (dCons (dC (.str "ok")) (dCons (dC (.int 3)) (dCons (dUn pyNeg (dC (.int 999))) dNil)))))))))))))) (dCall sp__law_roll (dCons (dVar 1) (dCons (dC (.int 13)) dNil))))) (sSeq (sSet 6 (dCall sp__law_roll (dCons (dVar 1) (dCons (dOp pyAdd (dB pyLen (dCons (dVar 3) dNil)) (dC (.int 1))) dNil)))) (sSeq (sSet 7 (dOp pyAdd (dOp pyAdd (dSlice (dVar 3) dNoPart (dPart (dVar 6))) (dTup (dCons (dVar 5) dNil))) (dSlice (dVar 3) (dPart (dOp pyAdd (dVar 6) (dCall sp__law_roll (dCons (dVar 1) (dCons (dC (.int 2)) dNil))))) dNoPart))) (sSeq (sIf (dTest (dOp pyNe (dCall sp_is_instruction (dCons (dVar 7) dNil)) (dCall sp__law_is_one (dCons (dVar 7) dNil)))) (sRet (dC (.bl false))) sNext) (sIf (dTest (dOp pyNe (dCall sp_is_program (dCons (dTup (dCons (dVar 7) dNil)) dNil)) (dCall sp__law_is_one (dCons (dVar 7) dNil)))) (sRet (dC (.bl false))) sNext))))))
def b_law_2 : DTS := (sSeq (sSet 5 (dOp pyItem (dLst (dCons (dC (.int 4)) (dCons (dUn pyNeg (dC (.int 1))) (dCons (dC (.int 100)) (dCons (dC (.int 99)) (dCons (dC (.int 1000)) (dCons (dC (.bl true)) (dCons (dC .non) (dCons (dC (.str "A")) (dCons (dC (.str "")) (dCons (dC (.str "abcdefghi")) (dCons (dC (.str "ok")) (dCons (dC (.int 3)) (dCons (dUn pyNeg (dC (.int 999))) dNil)))))))))))))) (dCall sp__law_roll (dCons (dVar 1) (dCons (dC (.int 13)) dNil))))) (sSeq (sSet 6 (dCall sp__law_roll (dCons (dVar 1) (dCons (dOp pyAdd (dB pyLen (dCons (dVar 3) dNil)) (dC (.int 1))) dNil)))) (sSeq (sSet 7 (dOp pyAdd (dOp pyAdd (dSlice (dVar 3) dNoPart (dPart (dVar 6))) (dTup (dCons (dVar 5) dNil))) (dSlice (dVar 3) (dPart (dOp pyAdd (dVar 6) (dCall sp__law_roll (dCons (dVar 1) (dCons (dC (.int 2)) dNil))))) dNoPart))) (sSeq (sIf (dTest (dOp pyNe (dCall sp_is_instruction (dCons (dVar 7) dNil)) (dCall sp__law_is_one (dCons (dVar 7) dNil)))) (sRet (dC (.bl false))) sNext) (sIf (dTest (dOp pyNe (dCall sp_is_program (dCons (dTup (dCons (dVar 7) dNil)) dNil)) (dCall sp__law_is_one (dCons (dVar 7) dNil)))) (sRet (dC (.bl false))) sNext)))))
def b_law_3 : DTS := (sSeq (sSet 10 (dLstB (dCons (dTold (dCall sp_come_to (dCons (dVar 9) dNil))) dNil))) (sSeq (sDrop (dMt "list" mAppend (dVar 10) (dCons (dTold (dCall sp_words_in (dCons (dVar 9) dNil))) dNil))) (sSeq (sDrop (dMt "list" mAppend (dVar 10) (dCons (dTold (dCall sp_program_text (dCons (dVar 9) dNil))) dNil))) (sSeq (sDrop (dMt "list" mAppend (dVar 10) (dCons (dTold (dCall sp_needs (dCons (dVar 9) (dCons (dC .non) dNil)))) dNil))) (sSeq (sDrop (dMt "list" mAppend (dVar 10) (dCons (dTold (dCall sp_is_right (dCons (dVar 9) (dCons (dC .non) (dCons (dC .non) dNil))))) dNil))) (sIf (dOr (dTest (dOp pyIsNot (dCall sp_is_program (dCons (dVar 9) dNil)) (dC (.bl false)))) (dTest (dOp pyNe (dVar 10) (dOp pyMul (dLst (dCons (dTup (dCons (dC (.str "refused")) (dCons (dC (.str "BadProgram")) dNil))) dNil)) (dC (.int 5)))))) (sRet (dC (.bl false))) sNext))))))
/-! ### the dice -/
theorem drawn_ok {cell k : Int} {G : DG} {Q : DK} {E : DX → DG → Prop} (h : ∀ r, 0 ≤ r → Q (.int r) G) : sp__law_drawn [.int cell, .int k] G Q E := by
  refine ⟨rfl, ?_⟩
  simp only [t__law_drawn, sSeq, sSet, sRet, dOp, dVar, dC, dstart]
  refine ⟨_, rfl, _, mulS _ _ (by decide), _, rfl, _, rfl, _, mulS _ _ (by decide), _, rfl, _, modP _ _ (by decide), _, rfl, _, rfl, ?_⟩
  generalize ha : (cell * 6364136223846793005 + (k + 1) * 1442695040888963407) % 340282366920938463463374607431768211507 = a
  have a0 : 0 ≤ a := by rw [← ha]; exact Int.emod_nonneg _ (by decide)
  have a1 : a < 2 ^ 129 := by
    have := Int.emod_lt_of_pos (cell * 6364136223846793005 + (k + 1) * 1442695040888963407) (show (0 : Int) < 340282366920938463463374607431768211507 by decide)
    rw [ha] at this
    exact Int.lt_trans this (by decide)
  have aw := pow_600 (by decide) (bits_lt a0 a1)
  refine ⟨_, mulW _ aw aw, _, modP _ _ (by decide), _, rfl, ?_⟩
  generalize hb : a * a % 340282366920938463463374607431768211297 = b
  have b0 : 0 ≤ b := by rw [← hb]; exact Int.emod_nonneg _ (by decide)
  have b1 : b < 2 ^ 128 := by
    have := Int.emod_lt_of_pos (a * a) (show (0 : Int) < 340282366920938463463374607431768211297 by decide)
    rw [hb] at this
    exact Int.lt_trans this (by decide)
  have bw := bits_lt b0 b1
  refine ⟨_, modP _ _ (by decide), _, rfl, _, rfl, _, divP _ _ (by decide) (by decide), _, rfl, ?_⟩
  have c0 : 0 ≤ b % 18446744073709551557 := Int.emod_nonneg _ (by decide)
  have c1 : b % 18446744073709551557 < 18446744073709551557 := Int.emod_lt_of_pos _ (by decide)
  have d0 : 0 ≤ b / 18446744073709551557 := Int.ediv_nonneg b0 (by decide)
  have d1 : b / 18446744073709551557 ≤ b := Int.ediv_le_self _ b0
  have x1 : (b % 18446744073709551557 + 1).natAbs < 2 ^ 65 := bits_lt (by omega) (Int.lt_of_le_of_lt (by omega : _ ≤ (18446744073709551557 : Int)) (by decide))
  have x2 : (b / 18446744073709551557 + 1).natAbs < 2 ^ 129 := bits_lt (by omega) (Int.lt_of_le_of_lt (by omega : _ ≤ (2 : Int) ^ 128) (by decide))
  refine ⟨_, mulW _ (pow_600 (by decide) x1) (pow_600 (by decide) x2), _, rfl, _, mulW _ (pow_600 (m := 65 + 129) (by decide) (wide_lt x1 x2)) (pow_600 (by decide) bw), _, rfl, _, modP _ _ (by decide), h _ (Int.emod_nonneg _ (by decide))⟩
theorem roll_ok {p : Addr} {c k many : Int} {G : DG} {Q : DK} {E : DX → DG → Prop} (hG : G p = some (.lst [.int c, .int k])) (hm : 0 < many) (hm2 : many < 1000000) (h : ∀ r c' k', 0 ≤ r → r < many → Q (.int r) (gset G p (some (.lst [.int c', .int k'])))) : sp__law_roll [.ref p, .int many] G Q E := by
  refine ⟨rfl, ?_⟩
  have aq : asQ G (.ref p) = some [.int c, .int k] := by show lstO (G p) = _; rw [hG]; rfl
  have i0 : pyItem G (.ref p) (.int 0) = some (.int c) := by simp only [pyItem, aq]; rfl
  have i1 : pyItem G (.ref p) (.int 1) = some (.int k) := by simp only [pyItem, aq]; rfl
  have big : many < 2 ^ 600 := Int.lt_trans hm2 (by decide)
  simp only [t__law_roll, sSeq, sSet, sRet, sIf, sSub, sNext, dTest, dOp, dVar, dC, dCons, dNil, dCall, dstart]
  refine ⟨_, rfl, _, i0, _, rfl, _, rfl, _, rfl, ?_⟩
  by_cases hc : (10 : Int) ^ (18 : Int).toNat ≤ c
  · rw [decide_eq_true hc, if_pos rfl]
    refine ⟨_, rfl, _, i0, _, rfl, _, modP _ _ hm, _, rfl, _, i0, _, rfl, _, divP _ _ hm big, _, rfl, gset G p (some (.lst [.int (c / many), .int k])), ?_, _, rfl, ?_⟩
    · simp only [setAt, hG]; rfl
    · exact h _ _ _ (Int.emod_nonneg _ (by omega)) (Int.emod_lt_of_pos _ hm)
  · rw [decide_eq_false hc, if_neg Bool.false_ne_true]
    refine ⟨_, rfl, _, i1, _, rfl, _, rfl, gset G p (some (.lst [.int c, .int (k + 1)])), ?_, ?_⟩
    · simp only [setAt, hG]; rfl
    · have aq' : asQ (gset G p (some (.lst [.int c, .int (k + 1)]))) (.ref p) = some [.int c, .int (k + 1)] := by show lstO (gset G p _ p) = _; rw [gset_same]; rfl
      have j0 : pyItem (gset G p (some (.lst [.int c, .int (k + 1)]))) (.ref p) (.int 0) = some (.int c) := by simp only [pyItem, aq']; rfl
      have j1 : pyItem (gset G p (some (.lst [.int c, .int (k + 1)]))) (.ref p) (.int 1) = some (.int (k + 1)) := by simp only [pyItem, aq']; rfl
      refine ⟨_, rfl, _, j0, _, rfl, _, j1, ?_⟩
      refine drawn_ok fun r hr => ⟨_, divP _ _ (by decide) (by decide), _, rfl, _, modP _ _ hm, ?_⟩
      exact h _ _ _ (Int.emod_nonneg _ (by omega)) (Int.emod_lt_of_pos _ hm)
theorem toPy_ints (G : DG) : ∀ ns : List Int, mapO (toPy G 39) (ns.map .int) = some (ns.map PyData.int)
  | [] => rfl
  | n :: ns => by
    rw [List.map_cons]
    unfold mapO
    rw [toPy_ints G ns]
    rfl
theorem scr_nil (G : DG) (ns : List Int) : pyEq G (.scr ns) (.lst []) = some (.bl (decide (ns = []))) := by
  have e1 : toPy G 40 (.scr ns) = some (.list (ns.map PyData.int)) := by
    show (mapO (toPy G 39) (ns.map .int)).map PyData.list = _
    rw [toPy_ints]
    rfl
  have e2 : toPy G 40 (.lst []) = some (.list []) := rfl
  unfold pyEq pyEqB
  simp only [e1, e2, Option.map_some]
  cases ns with
  | nil => rfl
  | cons n ns => simp [PyData.eqv, PyData.eqvAll]
theorem cell_ok {ns : List Int} {k : Int} {G : DG} {Q : DK} {E : DX → DG → Prop} (hk : 0 ≤ k) (hl : ns.length ≤ 1000000) (h : ∀ c, Q (.int c) G) : sp__law_cell [.scr ns, .int k] G Q E := by
  refine ⟨rfl, ?_⟩
  simp only [t__law_cell, sSeq, sSet, sRet, sIf, sNext, dTest, dOp, dVar, dC, dCons, dNil, dB, dLst, dstart]
  refine ⟨_, rfl, by decide, _, scr_nil G ns, _, rfl, ?_⟩
  by_cases hn : ns = []
  · rw [decide_eq_true hn, if_pos rfl]
    exact ⟨_, rfl, _, mulS _ _ (by decide), h _⟩
  · rw [decide_eq_false hn, if_neg Bool.false_ne_true]
    have hp : 0 < ns.length := List.length_pos_iff.mpr hn
    have len : pyLen G [.scr ns] = some (.int ns.length) := by
      show some (D.int ((ns.map D.int).length : Nat)) = _
      rw [List.length_map]
    have m0 : 0 ≤ k % (ns.length : Int) := Int.emod_nonneg _ (by omega)
    have m1 : k % (ns.length : Int) < ns.length := Int.emod_lt_of_pos _ (by omega)
    have big : (ns.length : Int) < 2 ^ 600 := Int.lt_of_le_of_lt (by omega : _ ≤ (1000000 : Int)) (by decide)
    refine ⟨_, rfl, _, rfl, _, rfl, _, len, _, modP _ _ (by omega), .int (ns[(k % (ns.length : Int)).toNat]'(by omega)), ?_, _, rfl, _, rfl, _, len, _, divP _ _ (by omega) big, _, mulS _ _ (by decide), _, rfl, h _⟩
    show (atI (ns.map D.int) (k % (ns.length : Int))) = _
    unfold atI ixN
    rw [if_pos m0, if_pos (by rw [List.length_map]; exact m1)]
    simp
def DiceOk (G : DG) (ps : List Addr) : Prop := ∀ p ∈ ps, ∃ c k, G p = some (.lst [.int c, .int k])
/-- what stands besides the dice stays -/
structure Fr (ps : List Addr) (G G' : DG) : Prop where
  dice : DiceOk G' ps
  rest : ∀ b, b ∉ ps → G b ≠ none → G' b = G b
theorem Fr.trans {ps : List Addr} {G G' G'' : DG} (a : Fr ps G G') (b : Fr ps G' G'') : Fr ps G G'' := ⟨b.dice, fun x hx h => by
  have e := a.rest x hx h
  rw [← e]
  exact b.rest x hx (by rw [e]; exact h)⟩
theorem Fr.refl {ps : List Addr} {G : DG} (h : DiceOk G ps) : Fr ps G G := ⟨h, fun _ _ _ => rfl⟩
/-- a new object -/
theorem Fr.new {ps : List Addr} {G : DG} {q : Addr} {o : Option DO} (h : DiceOk G ps) (hq : G q = none) : Fr ps G (gset G q o) := ⟨fun p hp => by
  have e : p ≠ q := fun z => by
    obtain ⟨c, k, e⟩ := h p hp
    rw [z, hq] at e; cases e
  rw [gset_ne e]; exact h p hp, fun b _ hb => gset_ne fun e => hb (e ▸ hq)⟩
theorem Fr.get {ps : List Addr} {G G' : DG} {q : Addr} {o : DO} (f : Fr ps G G') (hq : q ∉ ps) (h : G q = some o) : G' q = some o := by rw [f.rest q hq (by rw [h]; simp), h]
theorem not_dice {ps : List Addr} {G : DG} {q : Addr} (h : DiceOk G ps) (hq : G q = none) : q ∉ ps := fun z => by
  obtain ⟨c, k, e⟩ := h q z
  rw [hq] at e; cases e
theorem rounds_loop {ns : List Int} (hl : ns.length ≤ 1000000) {guard : DG → Prop} (hg : ∀ G, guard G) {o1 o2 : Option D} : ∀ (m : Nat) (lo : Int) (G : DG) (P : List D → DG → Prop), 0 ≤ lo → (∀ ps G', ps.length = m → (∀ p ∈ ps, G p = none) → DiceOk G' ps → (∀ b, G b ≠ none → G' b = G b) → P (ps.map .ref) G') →
    dLcL (.n 2) dYes (dLstB (dCons (dCall sp__law_cell (dCons (dVar 0) (dCons (dVar 2) dNil))) (dCons (dC (.int 0)) dNil))) guard [some (.scr ns), o1, o2] (intsFrom lo m) G P
  | 0, lo, G, P, _, h => ⟨hg G, h [] G rfl (fun p hp => by cases hp) (fun p hp => by cases hp) fun b _ => rfl⟩
  | m + 1, lo, G, P, h0, h => by
    refine ⟨hg G, ?_⟩
    show dTg (.n 2) (.int lo) _ _
    simp only [dTg, dYes, if_true, dLstB, dCons, dCall, dVar, dC, dNil]
    refine ⟨_, rfl, _, rfl, ?_⟩
    refine cell_ok h0 hl fun c => ⟨by simp, fun p hp => ?_⟩
    refine rounds_loop hl hg m (lo + 1) _ _ (by omega) fun ps G' hlen hfr hd hk => ?_
    have hpp : gset G p (some (.lst [.int c, .int 0])) p = some (.lst [.int c, .int 0]) := gset_same
    refine h (p :: ps) G' (by simp [hlen]) (fun q hq => ?_) (fun q hq => ?_) (fun b hb => ?_)
    · rcases List.mem_cons.mp hq with e | hq
      · rw [e]; exact hp
      · have := hfr q hq
        by_cases e : q = p
        · rw [e]; exact hp
        · rwa [gset_ne e] at this
    · rcases List.mem_cons.mp hq with e | hq
      · rw [e]
        exact ⟨c, 0, by rw [hk p (by rw [hpp]; simp), hpp]⟩
      · exact hd q hq
    · have e : b ≠ p := fun z => hb (by rw [z]; exact hp)
      have e2 : gset G p (some (.lst [.int c, .int 0])) b = G b := gset_ne e
      rw [← e2]
      exact hk b (by rw [e2]; exact hb)
theorem rounds_ok {ns : List Int} {high : Int} {G : DG} {Q : DK} {E : DX → DG → Prop} (hl : ns.length ≤ 1000000) (h1 : 1 ≤ high) (h2 : high ≤ 1000) (h : ∀ ps G', (∀ p ∈ ps, G p = none) → DiceOk G' ps → (∀ b, G b ≠ none → G' b = G b) → Q (.lst (ps.map .ref)) G') : sp__law_rounds [.scr ns, .int high] G Q E := by
  refine ⟨rfl, ?_⟩
  have len : pyLen G [.scr ns] = some (.int ns.length) := by
    show some (D.int ((ns.map D.int).length : Nat)) = _
    rw [List.length_map]
  simp only [t__law_rounds, sRet, dLc, dRange1, dB, dCons, dNil, dVar, dC, dstart]
  refine ⟨_, rfl, _, rfl, _, len, _, rfl, _, rfl, ?_⟩
  generalize hm : (if (if (ns.length : Int) < high then (ns.length : Int) else high) > 1 then (if (ns.length : Int) < high then (ns.length : Int) else high) else 1) = m
  have m1 : 1 ≤ m ∧ m ≤ 1000 := by rw [← hm]; split <;> (try split) <;> omega
  refine ⟨m, rfl, by omega, by omega, by rw [intsFrom_len]; omega, ?_⟩
  exact rounds_loop hl (fun _ => trivial) m.toNat 0 G _ (by decide) fun ps G' _ hfr hd hk => h ps G' hfr hd hk
theorem roll_d {ps : List Addr} {p : Addr} {many : Int} {G : DG} {Q : DK} {E : DX → DG → Prop} (hp : p ∈ ps) (hd : DiceOk G ps) (hm : 0 < many) (hm2 : many < 1000000) (h : ∀ r G', 0 ≤ r → r < many → Fr ps G G' → Q (.int r) G') : sp__law_roll [.ref p, .int many] G Q E := by
  obtain ⟨c, k, hG⟩ := hd p hp
  exact roll_ok hG hm hm2 fun r c' k' h0 h1 => h r _ h0 h1 ⟨fun q hq => by
    by_cases e : q = p
    · rw [e, gset_same]; exact ⟨c', k', rfl⟩
    · rw [gset_ne e]; exact hd q hq, fun b hb _ => gset_ne fun e => hb (e ▸ hp)⟩
/-! ### drawn programs and rights -/
theorem item_nth {G : DG} {xs : List D} {r : Int} (h0 : 0 ≤ r) (h1 : r < xs.length) : ∃ d ∈ xs, pyItem G (.lst xs) (.int r) = some d := by
  refine ⟨xs[r.toNat]'(by omega), List.getElem_mem _, ?_⟩
  show atI xs r = _
  unfold atI ixN
  rw [if_pos h0, if_pos h1]
  simp
theorem append_ok {G : DG} {q : Addr} {acc : List D} {x : D} (h : G q = some (.lst acc)) (hl : acc.length < 16000000) : mAppend G (.ref q) [x] = some (.non, gset G q (some (.lst (acc ++ [x])))) := by
  simp only [mAppend, h, lstO, if_pos hl]
theorem ty_lst {G : DG} {q : Addr} {acc : List D} (h : G q = some (.lst acc)) : tyM G (.ref q) = some "list" := by
  simp only [tyM, h, tyO]
theorem one_dec (c d : Char) : pyEq G0 (.str (String.singleton c)) (.str (String.singleton d)) = some (.bl (decide (c = d))) := by
  rw [PL.eq_str, PL.one_eq]
/-- the frame of a list that grows -/
structure FrB (ps : List Addr) (q : Addr) (G G' : DG) : Prop where
  dice : DiceOk G' ps
  rest : ∀ b, b ∉ ps → b ≠ q → G b ≠ none → G' b = G b
theorem FrB.trans {ps : List Addr} {q : Addr} {G G' G'' : DG} (a : FrB ps q G G') (b : FrB ps q G' G'') : FrB ps q G G'' := ⟨b.dice, fun x hx hq h => by
  have e := a.rest x hx hq h
  rw [← e]
  exact b.rest x hx hq (by rw [e]; exact h)⟩
theorem Fr.toB {ps : List Addr} {q : Addr} {G G' : DG} (a : Fr ps G G') : FrB ps q G G' := ⟨a.dice, fun b hb _ h => a.rest b hb h⟩
theorem FrB.set {ps : List Addr} {q : Addr} {G G' : DG} {o : Option DO} (a : FrB ps q G G') (hq : q ∉ ps) : FrB ps q G (gset G' q o) := ⟨fun p hp => by
  rw [gset_ne (fun (e : p = q) => hq (e ▸ hp))]; exact a.dice p hp, fun b hb hbq h => by rw [gset_ne hbq]; exact a.rest b hb hbq h⟩
theorem FrB.fr {ps : List Addr} {q : Addr} {G G' : DG} {o : Option DO} (hn : G q = none) (a : FrB ps q (gset G q o) G') : Fr ps G G' := ⟨a.dice, fun b hb h => by
  have e : b ≠ q := fun z => h (by rw [z]; exact hn)
  rw [a.rest b hb e (by rw [gset_ne e]; exact h), gset_ne e]⟩
def nums9 : List D := [.int 0, .int 1, .int 2, .int 3, .int 5, .int (-1), .int 9, .int 400, .int 999]
theorem nums9_ok : ∀ d ∈ nums9, PL.isPart 'n' d = true := by
  intro d hd
  simp only [nums9, List.mem_cons, List.not_mem_nil, or_false] at hd
  rcases hd with rfl | rfl | rfl | rfl | rfl | rfl | rfl | rfl | rfl <;> decide
theorem pools_ok : ∀ d ∈ [D.str "log", .str "sky", .str "bus", .str "in", .str "out"], PL.isPart 'w' d = true := by
  intro d hd
  simp only [List.mem_cons, List.not_mem_nil, or_false] at hd
  rcases hd with rfl | rfl | rfl | rfl | rfl <;> decide
theorem door_ok {G : DG} {Q : DK} {E : DX → DG → Prop} (h : Q (.lst [.str "bus", .str "in", .str "out"]) G) : sp__law_door_pool [] G Q E := ev__law_door_pool [] (.ok (.lst [.str "bus", .str "in", .str "out"])) (by kernel_rfl) G Q E h
theorem page_ok {G : DG} {Q : DK} {E : DX → DG → Prop} (h : Q (.lst [.str "log", .str "sky"]) G) : sp__law_page_pool [] G Q E := ev__law_page_pool [] (.ok (.lst [.str "log", .str "sky"])) (by kernel_rfl) G Q E h
theorem order_body {ps : List Addr} {p q : Addr} (hp : p ∈ ps) (hq : q ∉ ps) {many : Int} (hm : 1 ≤ many ∧ many ≤ 60) {w : String} {a2 a6 : Option D} {E : DXK} {DE : DEnds} {c : Char} (hc : c = 'r' ∨ c = 'n' ∨ c = 'g' ∨ c = 'w') {acc : List D} (hl : acc.length ≤ 10) {G : DG} (hd : DiceOk G ps) (hG : G q = some (.lst acc))
    (go1 : ∀ (d : D) (a6 : Option D) (G1 : DG), PL.isPart c d = true → FrB ps q G G1 → G1 q = some (.lst acc) → DE.nx [some (.ref p), some (.int many), a2, some (.str w), some (.ref q), some (.str (String.singleton c)), a6] (gset G1 q (some (.lst (acc ++ [d]))))) :
    b__law_any_order_0 E DE [some (.ref p), some (.int many), a2, some (.str w), some (.ref q), some (.str (String.singleton c)), a6] G := by
  have hal : acc.length < 16000000 := by omega
  simp only [b__law_any_order_0, sIf, sSeq, sSet, sDrop, dTest, dOp, dVar, dC, dMt, dCall, dCons, dNil, dIf, dTup, dB, dLst, dUn]
  refine ⟨_, rfl, _, m_eq _ _ _ _ (one_dec c 'r'), _, rfl, ?_⟩
  by_cases h1 : c = 'r'
  · rw [decide_eq_true h1, if_pos rfl]
    refine ⟨_, rfl, ty_lst hG, _, rfl, ?_⟩
    refine roll_d hp hd (by decide) (by decide) fun r G1 r0 r1 f => ?_
    have h2 := f.get hq hG
    refine ⟨_, _, append_ok h2 hal, go1 _ _ _ ?_ f.toB h2⟩
    rw [h1]
    show (decide _ && decide _) = true
    rw [decide_eq_true r0, decide_eq_true (show r ≤ 3 by omega)]
    rfl
  rw [decide_eq_false h1, if_neg Bool.false_ne_true]
  refine ⟨_, rfl, _, m_eq _ _ _ _ (one_dec c 'n'), _, rfl, ?_⟩
  by_cases h2 : c = 'n'
  · rw [decide_eq_true h2, if_pos rfl]
    refine ⟨_, rfl, ty_lst hG, _, rfl, by simp, _, rfl, ?_⟩
    refine roll_d hp hd (by decide) (by decide) fun r G1 r0 r1 f => ?_
    have h3 := f.get hq hG
    obtain ⟨d, hd9, e⟩ := item_nth (G := G1) (xs := nums9) r0 r1
    refine ⟨d, e, _, _, append_ok h3 hal, go1 _ _ _ ?_ f.toB h3⟩
    rw [h2]
    exact nums9_ok d hd9
  rw [decide_eq_false h2, if_neg Bool.false_ne_true]
  refine ⟨_, rfl, _, m_eq _ _ _ _ (one_dec c 'g'), _, rfl, ?_⟩
  by_cases h3 : c = 'g'
  · rw [decide_eq_true h3, if_pos rfl]
    refine ⟨_, rfl, ty_lst hG, _, rfl, _, rfl, _, rfl, ?_⟩
    refine roll_d hp hd (by decide) (by decide) fun r G1 r0 r1 f => ⟨_, rfl, _, rfl, _, rfl, ?_⟩
    have b1 : (if decide (r = 0) = true then (1 : Int) else 0) = 0 ∨ (if decide (r = 0) = true then (1 : Int) else 0) = 1 := by split <;> simp
    generalize (if decide (r = 0) = true then (1 : Int) else 0) = b at b1
    refine roll_d hp f.dice (by omega) (by omega) fun r2 G2 r20 r21 f2 => ?_
    have h4 := (f.trans f2).get hq hG
    refine ⟨_, _, append_ok h4 hal, go1 _ _ _ ?_ (f.trans f2).toB h4⟩
    rw [h3]
    show (decide _ && decide _) = true
    rw [decide_eq_true r20, decide_eq_true (show r2 ≤ 99 by omega)]
    rfl
  rw [decide_eq_false h3, if_neg Bool.false_ne_true]
  have hcw : c = 'w' := by
    rcases hc with z | z | z | z
    · exact absurd z h1
    · exact absurd z h2
    · exact absurd z h3
    · exact z
  refine ⟨_, rfl, by simp, _, rfl, _, rfl, ?_⟩
  generalize (([D.str "look", .str "mark"].any fun z => eqF z (.str w))) = bb
  cases bb with
  | true =>
    rw [if_pos rfl]
    refine page_ok ⟨_, rfl, ty_lst hG, _, rfl, _, rfl, _, rfl, _, rfl, ?_⟩
    refine roll_d hp hd (by decide) (by decide) fun r G1 r0 r1 f => ?_
    have h5 := f.get hq hG
    obtain ⟨d, hd9, e⟩ := item_nth (G := G1) (xs := [.str "log", .str "sky"]) r0 r1
    refine ⟨d, e, _, _, append_ok h5 hal, go1 _ _ _ ?_ f.toB h5⟩
    rw [hcw]
    exact pools_ok d (by simp at hd9 ⊢; rcases hd9 with h | h <;> simp [h])
  | false =>
    rw [if_neg Bool.false_ne_true]
    refine door_ok ⟨_, rfl, ty_lst hG, _, rfl, _, rfl, _, rfl, _, rfl, ?_⟩
    refine roll_d hp hd (by decide) (by decide) fun r G1 r0 r1 f => ?_
    have h5 := f.get hq hG
    obtain ⟨d, hd9, e⟩ := item_nth (G := G1) (xs := [.str "bus", .str "in", .str "out"]) r0 r1
    refine ⟨d, e, _, _, append_ok h5 hal, go1 _ _ _ ?_ f.toB h5⟩
    rw [hcw]
    exact pools_ok d (by simp at hd9 ⊢; rcases hd9 with h | h | h <;> simp [h])
theorem order_loop {ps : List Addr} {p q : Addr} (hp : p ∈ ps) (hq : q ∉ ps) {many : Int} (hm : 1 ≤ many ∧ many ≤ 60) {w : String} {a2 : Option D} {E : DXK} {DE : DEnds} {guard : DG → Prop} (hg : ∀ G, guard G) :
    ∀ (cs : List Char) (acc : List D) (a5 a6 : Option D) (G : DG), (∀ c ∈ cs, c = 'r' ∨ c = 'n' ∨ c = 'g' ∨ c = 'w') → acc.length + cs.length ≤ 10 → DiceOk G ps → G q = some (.lst acc) →
    (∀ parts a5 a6 G', parts.length = cs.length → (∀ x ∈ cs.zip parts, PL.isPart x.1 x.2 = true) → G' q = some (.lst (acc ++ parts)) → FrB ps q G G' → DE.nx [some (.ref p), some (.int many), a2, some (.str w), some (.ref q), a5, a6] G') →
    dLoop E (.n 5) b__law_any_order_0 DE guard (cs.map fun c => .str (String.singleton c)) [some (.ref p), some (.int many), a2, some (.str w), some (.ref q), a5, a6] G
  | [], acc, a5, a6, G, _, _, hd, hG, k => ⟨hg G, k [] a5 a6 G rfl (fun x hx => by cases hx) (by rw [List.append_nil]; exact hG) ⟨hd, fun _ _ _ _ => rfl⟩⟩
  | c :: cs, acc, a5, a6, G, hc, hl, hd, hG, k => by
    refine ⟨hg G, ?_⟩
    have go1 : ∀ (d : D) (a6 : Option D) (G1 : DG), PL.isPart c d = true → FrB ps q G G1 → G1 q = some (.lst acc) → dLoop E (.n 5) b__law_any_order_0 DE guard (cs.map fun c => .str (String.singleton c)) [some (.ref p), some (.int many), a2, some (.str w), some (.ref q), some (.str (String.singleton c)), a6] (gset G1 q (some (.lst (acc ++ [d])))) := fun d a6 G1 hpd f1 h1 => by
      refine order_loop hp hq hm hg cs (acc ++ [d]) _ _ _ (fun x hx => hc x (List.mem_cons_of_mem _ hx)) (by simp at hl ⊢; omega) (f1.set hq).dice gset_same fun parts a5 a6 G' hle hz hG' f2 => ?_
      refine k (d :: parts) a5 a6 G' (by simp [hle]) (fun x hx => ?_) (by rw [hG']; simp) ((f1.set hq).trans f2)
      rw [List.zip_cons_cons] at hx
      rcases List.mem_cons.mp hx with rfl | hx
      · exact hpd
      · exact hz x hx
    exact order_body hp hq hm (hc c List.mem_cons_self) (by simp at hl; omega) hd hG go1
def words17 : List D := [.str "set", .str "set", .str "copy", .str "add", .str "add", .str "take", .str "less", .str "go", .str "zero", .str "zero", .str "read", .str "write", .str "ask", .str "tell", .str "look", .str "mark", .str "end"]
theorem words_ok : ∀ d ∈ words17, ∃ w so, d = .str w ∧ PL.lst_FORMS.lookup w = some so ∧ e__law_sorts [.str w] = some (.ok (.str so)) := by
  intro d hd
  simp only [words17, List.mem_cons, List.not_mem_nil, or_false] at hd
  rcases hd with rfl | rfl | rfl | rfl | rfl | rfl | rfl | rfl | rfl | rfl | rfl | rfl | rfl | rfl | rfl | rfl | rfl <;> first | exact ⟨_, "rr", rfl, by decide, by kernel_rfl⟩ | exact ⟨_, "rn", rfl, by decide, by kernel_rfl⟩ | exact ⟨_, "g", rfl, by decide, by kernel_rfl⟩ | exact ⟨_, "rg", rfl, by decide, by kernel_rfl⟩ | exact ⟨_, "rw", rfl, by decide, by kernel_rfl⟩ | exact ⟨_, "rrw", rfl, by decide, by kernel_rfl⟩ | exact ⟨_, "", rfl, by decide, by kernel_rfl⟩
theorem order_ok {ps : List Addr} {p : Addr} {many : Int} {G : DG} {Q : DK} {E : DX → DG → Prop} (hp : p ∈ ps) (hd : DiceOk G ps) (hm : 1 ≤ many ∧ many ≤ 60) (h : ∀ d G', PL.isInstr d = true → Fr ps G G' → Q d G') : sp__law_any_order [.ref p, .int many] G Q E := by
  refine ⟨rfl, ?_⟩
  show sSeq (sSet 2 _) (sSeq (sPar _ _) (sSeq (sFor _ _ b__law_any_order_0) _)) _ _ _ _
  simp only [sSeq, sSet, sPar, sFor, sRet, dOp, dVar, dC, dCall, dCons, dNil, dTup, dB, dLst, dLstB, dIter]
  refine ⟨by simp, _, rfl, by simp, _, rfl, _, rfl, ?_⟩
  refine roll_d hp hd (by decide) (by decide) fun r G1 r0 r1 f => ?_
  obtain ⟨d, hdm, e⟩ := item_nth (G := G1) (xs := words17) r0 r1
  obtain ⟨w, so, rfl, hso, hes⟩ := words_ok d hdm
  refine ⟨.str w, e, by simp, fun q hq => ⟨rfl, ?_⟩⟩
  have hqd := not_dice f.dice hq
  have f1 : Fr ps G1 (gset G1 q (some (.lst []))) := Fr.new f.dice hq
  refine ⟨_, rfl, ?_⟩
  refine ev__law_sorts _ _ hes _ _ _ ?_
  refine ⟨_, rfl, ?_⟩
  obtain ⟨hs3, _, hch⟩ := PL.forms_at hso
  refine order_loop hp hqd hm (fun _ => rfl) so.toList [] _ _ _ hch (by rw [PL.slen]; simp; omega) f1.dice gset_same fun parts a5 a6 G' hle hz hG' f2 => ?_
  refine ⟨_, rfl, by simp, _, rfl, .tup parts, ?_, _, ?_, h (.tup (.str w :: parts)) G' ?_ (f.trans (FrB.fr hq f2))⟩
  · show (asQ G' (.ref q)).map D.tup = _
    rw [show asQ G' (.ref q) = some ([] ++ parts) by show lstO (G' q) = _; rw [hG']; rfl]
    rfl
  · show (if _ then _ else none) = _
    rw [PL.slen] at hle
    rw [if_pos (by simp; omega)]
    rfl
  · show (match PL.lst_FORMS.lookup w with | some so => PL.partsOk so parts | none => false) = true
    rw [hso]
    show (_ && _) = true
    rw [decide_eq_true (by rw [hle, PL.slen]), List.all_eq_true.mpr hz]
    rfl
theorem program_loop {ps : List Addr} {p : Addr} (hp : p ∈ ps) {many : Int} (hm : 1 ≤ many ∧ many ≤ 60) {a1 a3 : Option D} {guard : DG → Prop} (hg : ∀ G, guard G) : ∀ (m : Nat) (lo : Int) (G : DG) (P : List D → DG → Prop), DiceOk G ps →
    (∀ xs G', xs.length = m → (∀ x ∈ xs, PL.isInstr x = true) → Fr ps G G' → P xs G') →
    dLcL (.n 3) dYes (dCall sp__law_any_order (dCons (dVar 0) (dCons (dVar 2) dNil))) guard [some (.ref p), a1, some (.int many), a3] (intsFrom lo m) G P
  | 0, lo, G, P, hd, k => ⟨hg G, k [] G rfl (fun x hx => by cases hx) (Fr.refl hd)⟩
  | m + 1, lo, G, P, hd, k => by
    refine ⟨hg G, ?_⟩
    show dTg (.n 3) (.int lo) _ _
    simp only [dTg, dYes, if_true, dCall, dCons, dVar, dNil]
    refine ⟨_, rfl, _, rfl, order_ok hp hd hm fun d G1 hi f => ?_⟩
    refine program_loop hp hm hg m (lo + 1) G1 _ f.dice fun xs G' hl hx f2 => ?_
    refine k (d :: xs) G' (by simp [hl]) (fun x hx' => ?_) (f.trans f2)
    rcases List.mem_cons.mp hx' with rfl | hx'
    · exact hi
    · exact hx x hx'
theorem program_ok {ps : List Addr} {p : Addr} {high : Int} {G : DG} {Q : DK} {E : DX → DG → Prop} (hp : p ∈ ps) (hd : DiceOk G ps) (hh : 1 ≤ high ∧ high ≤ 40) (h : ∀ xs G', PL.isProg (.tup xs) = true → (xs.length : Int) ≤ high → Fr ps G G' → Q (.tup xs) G') : sp__law_any_program [.ref p, .int high] G Q E := by
  refine ⟨rfl, ?_⟩
  simp only [t__law_any_program, sSeq, sSet, sRet, dOp, dVar, dC, dCall, dCons, dNil, dB, dLc, dRange1]
  refine ⟨_, rfl, _, rfl, roll_d hp hd (by omega) (by omega) fun r G1 r0 r1 f => ⟨_, rfl, _, rfl, _, rfl, by omega, by omega, by rw [intsFrom_len]; omega, ?_⟩⟩
  refine program_loop hp (by omega) (fun _ => trivial) _ _ _ _ f.dice fun xs G' hl hx f2 => ⟨_, rfl, h xs G' ?_ (by omega) (f.trans f2)⟩
  show ((decide _ && decide _) && _) = true
  rw [decide_eq_true (by omega), decide_eq_true (by omega), List.all_eq_true.mpr hx]
  rfl
/-! ### the law's own look at an instruction -/
def one_body : EvX := (xSeq (xSet 4 (eAndV (eUn (pyIsi "int") (eVar 3)) (eNotV (eUn (pyIsi "bool") (eVar 3))))) (xSeq (xIf (eTest (eOp pyEq (eVar 2) (eC (.str "w")))) (xSeq (xSet 5 (eAndV (eUn (pyIsi "str") (eVar 3)) (eChain pyLt pyLt (eC (.int 0)) (eB pyLen (eCons (eVar 3) (eC []))) (eC (.int 9))))) (xSet 5 (eAndV (eVar 5) (eOp pyEq (eLc (eIter (eVar 3)) (.n 6) (eNot (eTest (eChain pyLe pyLe (eC (.str "a")) (eVar 6) (eC (.str "z"))))) (eVar 6) [6]) (eLst (eC [])))))) (xSeq (xTg (.t [7, 8]) (eOp pyItem (eDct (List.cons (Prod.mk (eC (.str "r")) (eTup (eCons (eC (.int 0)) (eCons (eC (.int 3)) (eC []))))) (List.cons (Prod.mk (eC (.str "n")) (eTup (eCons (eUn pyNeg (eC (.int 999))) (eCons (eC (.int 999)) (eC []))))) (List.cons (Prod.mk (eC (.str "g")) (eTup (eCons (eC (.int 0)) (eCons (eC (.int 99)) (eC []))))) [])))) (eVar 2))) (xSet 5 (eAndV (eVar 4) (eChain pyLe pyLe (eVar 7) (eVar 3) (eVar 8)))))) (xIf (eNot (eTest (eVar 5))) (xRet (eC (.bl false))) (xNext))))
def isIntD : D → Bool
  | .int _ => true
  | _ => false
abbrev E9 (a0 a1 a2 a3 a4 a5 a6 a7 a8 : Option D) : DSt := [a0, a1, a2, a3, a4, a5, a6, a7, a8]
/-- the end of the body -/
theorem one_end {a0 a1 a2 a3 a4 a6 a7 a8 : Option D} {b : Bool} : (xIf (eNot (eTest (eVar 5))) (xRet (eC (.bl false))) (xNext)) (E9 a0 a1 a2 a3 a4 (some (.bl b)) a6 a7 a8) = if b = true then some (.nx (E9 a0 a1 a2 a3 a4 (some (.bl b)) a6 a7 a8)) else some (.rt (.bl false)) := by
  cases b <;> rfl
def oneR (b : Bool) (r : Option SR) : Prop := if b = true then ∃ a4 a5 a6 a7 a8 env, r = some (.nx env) ∧ ∃ a0 a1 a2 a3, env = E9 a0 a1 a2 a3 a4 a5 a6 a7 a8 else r = some (.rt (.bl false))
theorem one_num {a0 a1 a4 a5 a6 a7 a8 : Option D} {c : Char} {lo hi : Int} {d : D} (hf : PL.flatP d = true)
    (hw : decide (String.singleton c = "w") = false) (ht : ∀ e : DSt, e[2]? = some (some (.str (String.singleton c))) → xTg (.t [7, 8]) (eOp pyItem (eDct (List.cons (Prod.mk (eC (.str "r")) (eTup (eCons (eC (.int 0)) (eCons (eC (.int 3)) (eC []))))) (List.cons (Prod.mk (eC (.str "n")) (eTup (eCons (eUn pyNeg (eC (.int 999))) (eCons (eC (.int 999)) (eC []))))) (List.cons (Prod.mk (eC (.str "g")) (eTup (eCons (eC (.int 0)) (eCons (eC (.int 99)) (eC []))))) [])))) (eVar 2)) e = some (.nx (setAll e [7, 8] [.int lo, .int hi]))) :
    one_body (E9 a0 a1 (some (.str (String.singleton c))) (some d) a4 a5 a6 a7 a8) = if PL.inR lo hi d = true then some (.nx (E9 a0 a1 (some (.str (String.singleton c))) (some d) (some (.bl true)) (some (.bl true)) a6 (some (.int lo)) (some (.int hi)))) else some (.rt (.bl false)) := by
  have ty := PL.okD_ty (PL.flat_okD hf 0)
  have is_int : ∀ e : DSt, e[3]? = some (some d) → eAndV (eUn (pyIsi "int") (eVar 3)) (eNotV (eUn (pyIsi "bool") (eVar 3))) e = some (.ok (.bl (isIntD d))) := fun e h => by
    cases d with
    | int i => exact PL.r_andV (b := true) (c := true) (PL.r_un (PL.r_var h) rfl) fun _ => PL.r_notV (b := false) (PL.r_un (PL.r_var h) rfl)
    | bl b => exact PL.r_andV (b := true) (c := false) (PL.r_un (PL.r_var h) rfl) fun _ => PL.r_notV (b := true) (PL.r_un (PL.r_var h) rfl)
    | non => exact PL.r_andV (b := false) (c := false) (PL.r_un (PL.r_var h) rfl) fun z => nomatch z
    | str s => exact PL.r_andV (b := false) (c := false) (PL.r_un (PL.r_var h) rfl) fun z => nomatch z
    | _ => cases hf
  have good : ∀ e : DSt, e[3]? = some (some d) → e[4]? = some (some (.bl (isIntD d))) → e[7]? = some (some (.int lo)) → e[8]? = some (some (.int hi)) → eAndV (eVar 4) (eChain pyLe pyLe (eVar 7) (eVar 3) (eVar 8)) e = some (.ok (.bl (PL.inR lo hi d))) := fun e h3 h4 h7 h8 => by
    cases d with
    | int i => exact PL.r_andV (b := true) (PL.r_var h4) fun _ => PL.r_chain (PL.r_var h7) (PL.r_var h3) rfl (PL.r_var h8) rfl
    | bl b => exact PL.r_andV (b := false) (c := false) (PL.r_var h4) fun z => nomatch z
    | non => exact PL.r_andV (b := false) (c := false) (PL.r_var h4) fun z => nomatch z
    | str s => exact PL.r_andV (b := false) (c := false) (PL.r_var h4) fun z => nomatch z
    | _ => cases hf
  refine (PL.r_seq (PL.r_set (is_int _ rfl)) (PL.r_seq (PL.r_xifF (PL.r_test (PL.r_op (PL.r_var rfl) PL.r_c (PL.eq_str _ _))) hw (PL.r_seq (ht _ rfl) (PL.r_set (good _ rfl rfl rfl rfl)))) one_end)).trans ?_
  cases h : PL.inR lo hi d with
  | true =>
    obtain ⟨i, rfl, _⟩ := PL.inR_int h
    rfl
  | false => rfl
theorem word_le (c : Char) : pyLe G0 (.str "a") (.str (String.singleton c)) = some (.bl (decide (97 ≤ c.toNat))) ∧ pyLe G0 (.str (String.singleton c)) (.str "z") = some (.bl (decide (c.toNat ≤ 122))) := by
  have h1 : strLt (String.singleton c) "a" = decide (c.toNat < 97) := PL.strLt_one c 'a'
  have h2 : strLt "z" (String.singleton c) = decide (122 < c.toNat) := PL.strLt_one 'z' c
  constructor
  · show some (D.bl (!strLt (String.singleton c) "a")) = _
    rw [h1]
    congr 2
    by_cases h : c.toNat < 97
    · rw [decide_eq_true h, decide_eq_false (by omega)]; rfl
    · rw [decide_eq_false h, decide_eq_true (by omega)]; rfl
  · show some (D.bl (!strLt "z" (String.singleton c))) = _
    rw [h2]
    congr 2
    by_cases h : 122 < c.toNat
    · rw [decide_eq_true h, decide_eq_false (by omega)]; rfl
    · rw [decide_eq_false h, decide_eq_true (by omega)]; rfl
theorem one_word {a0 a1 a4 a5 a6 a7 a8 : Option D} {d : D} (hf : PL.flatP d = true) : ∃ b4, one_body (E9 a0 a1 (some (.str (String.singleton 'w'))) (some d) a4 a5 a6 a7 a8) = if PL.isWord d = true then some (.nx (E9 a0 a1 (some (.str (String.singleton 'w'))) (some d) b4 (some (.bl true)) a6 a7 a8)) else some (.rt (.bl false)) := by
  cases d with
  | str s =>
    have hs : s.length ≤ 1000 := of_decide_eq_true hf
    have hl : pyLen G0 [.str s] = some (.int s.length) := if_pos (by omega)
    have sg : ∀ e : DSt, e[3]? = some (some (.str s)) → (∀ v, ((wipeD e [6]).set 6 (some v))[6]? = some (some v)) → eLc (eIter (eVar 3)) (.n 6) (eNot (eTest (eChain pyLe pyLe (eC (.str "a")) (eVar 6) (eC (.str "z"))))) (eVar 6) [6] e = some (.ok (.lst ((s.toList.filter fun c => !PL.small.contains c).map fun c => .str (String.singleton c)))) := fun e h3 h6 => by
      refine PL.ok_d (PL.lc_filt (p := fun d => match d with | .str x => !PL.small.contains ((signOf x).getD 'a') | _ => false) (g := id) (PL.r_iter (PL.r_var h3) rfl) (by simp [signsD]; have := PL.slen s; omega) fun d hd => ?_) ?_
      · simp only [signsD, List.mem_map] at hd
        obtain ⟨c, _, rfl⟩ := hd
        refine ⟨_, rfl, ?_, PL.r_var (h6 _)⟩
        have := PL.r_not (PL.r_test (PL.r_chain (env := (wipeD e [6]).set 6 (some (D.str (String.singleton c)))) PL.r_c (PL.r_var (h6 _)) (word_le c).1 PL.r_c (word_le c).2))
        rw [this]
        show _ = some (Except.ok (!PL.small.contains ((signOf (String.singleton c)).getD 'a')))
        rw [PL.signOf_one, Option.getD_some, PL.small_iff]
      · congr 1
        unfold signsD
        rw [List.filter_map, List.map_id]
        congr 1
        apply List.filter_congr
        intro c _
        show (!PL.small.contains ((signOf (String.singleton c)).getD 'a')) = _
        rw [PL.signOf_one, Option.getD_some]
    have hok : PL.okD 40 (.lst ((s.toList.filter fun c => !PL.small.contains c).map fun c => .str (String.singleton c))) = true := List.all_eq_true.mpr fun x hx => by
      obtain ⟨c, _, rfl⟩ := List.mem_map.mp hx
      exact decide_eq_true (by simp)
    have e0 : (s.toList.filter fun c => !PL.small.contains c).isEmpty = s.toList.all fun c => PL.small.contains c := by
      generalize s.toList = l
      induction l with
      | nil => rfl
      | cons c l ih =>
        rw [List.filter_cons, List.all_cons]
        cases h : PL.small.contains c with
        | true => simpa using ih
        | false => rfl
    have i9 : (decide ((0 : Int) < (s.length : Int)) && decide ((s.length : Int) < 9)) = (decide (1 ≤ s.length) && decide (s.length ≤ 8)) := by
      rw [decide_eq_decide.mpr (show (0 : Int) < (s.length : Int) ↔ 1 ≤ s.length by omega), decide_eq_decide.mpr (show (s.length : Int) < 9 ↔ s.length ≤ 8 by omega)]
    refine ⟨some (.bl false), (PL.r_seq (PL.r_set (x := .bl false) rfl) (PL.r_seq (PL.r_xifT (PL.r_test (PL.r_op (PL.r_var rfl) PL.r_c (PL.eq_str _ _))) (by decide) (PL.r_seq (PL.r_set (PL.r_andV (PL.r_un (PL.r_var rfl) rfl) fun _ => PL.r_chain PL.r_c (PL.r_b (PL.r_cons (PL.r_var rfl) PL.r_nil) hl) rfl PL.r_c rfl)) (PL.r_set (PL.r_andV (PL.r_var rfl) fun _ => PL.r_op (sg _ rfl fun _ => rfl) (PL.r_lst PL.r_nil (by decide)) (PL.eq_nilL hok))))) one_end)).trans ?_⟩
    show (if _ then some (SR.nx (E9 a0 a1 _ _ _ _ a6 a7 a8)) else _) = _
    have ew : ((isiB "str" "str" && (decide ((0 : Int) < (s.length : Int)) && decide ((s.length : Int) < 9))) && ((s.toList.filter fun c => !PL.small.contains c).map fun c => D.str (String.singleton c)).isEmpty) = PL.isWord (.str s) := by
      show _ = PL.wordS s
      rw [i9, List.isEmpty_map, e0]
      rfl
    rw [ew]
    cases h : PL.isWord (.str s) with
    | true => rfl
    | false => rfl
  | non => exact ⟨some (.bl false), by kernel_rfl⟩
  | bl b => exact ⟨some (.bl false), by kernel_rfl⟩
  | int i => exact ⟨some (.bl true), by kernel_rfl⟩
  | _ => cases hf
theorem one_at {a0 a1 a4 a5 a6 a7 a8 : Option D} {c : Char} {d : D} (hc : c = 'r' ∨ c = 'n' ∨ c = 'g' ∨ c = 'w') (hf : PL.flatP d = true) :
    if PL.isPart c d = true then ∃ b4 b5 b6 b7 b8, one_body (E9 a0 a1 (some (.str (String.singleton c))) (some d) a4 a5 a6 a7 a8) = some (.nx (E9 a0 a1 (some (.str (String.singleton c))) (some d) b4 b5 b6 b7 b8)) else one_body (E9 a0 a1 (some (.str (String.singleton c))) (some d) a4 a5 a6 a7 a8) = some (.rt (.bl false)) := by
  rcases hc with rfl | rfl | rfl | rfl
  · show if PL.inR 0 3 d = true then _ else _
    have := one_num (a0 := a0) (a1 := a1) (a4 := a4) (a5 := a5) (a6 := a6) (a7 := a7) (a8 := a8) (c := 'r') (lo := 0) (hi := 3) hf (by decide) (fun e h => by
      unfold xTg
      rw [PL.r_op (x := .dct [(.str "r", .tup [.int 0, .int 3]), (.str "n", .tup [.int (-999), .int 999]), (.str "g", .tup [.int 0, .int 99])]) (z := .tup [.int 0, .int 3]) rfl (PL.r_var h) rfl]
      rfl)
    cases h : PL.inR 0 3 d with
    | true => rw [h] at this; exact ⟨_, _, _, _, _, this⟩
    | false => rw [h] at this; exact this
  · show if PL.inR (-999) 999 d = true then _ else _
    have := one_num (a0 := a0) (a1 := a1) (a4 := a4) (a5 := a5) (a6 := a6) (a7 := a7) (a8 := a8) (c := 'n') (lo := -999) (hi := 999) hf (by decide) (fun e h => by
      unfold xTg
      rw [PL.r_op (x := .dct [(.str "r", .tup [.int 0, .int 3]), (.str "n", .tup [.int (-999), .int 999]), (.str "g", .tup [.int 0, .int 99])]) (z := .tup [.int (-999), .int 999]) rfl (PL.r_var h) rfl]
      rfl)
    cases h : PL.inR (-999) 999 d with
    | true => rw [h] at this; exact ⟨_, _, _, _, _, this⟩
    | false => rw [h] at this; exact this
  · show if PL.inR 0 99 d = true then _ else _
    have := one_num (a0 := a0) (a1 := a1) (a4 := a4) (a5 := a5) (a6 := a6) (a7 := a7) (a8 := a8) (c := 'g') (lo := 0) (hi := 99) hf (by decide) (fun e h => by
      unfold xTg
      rw [PL.r_op (x := .dct [(.str "r", .tup [.int 0, .int 3]), (.str "n", .tup [.int (-999), .int 999]), (.str "g", .tup [.int 0, .int 99])]) (z := .tup [.int 0, .int 99]) rfl (PL.r_var h) rfl]
      rfl)
    cases h : PL.inR 0 99 d with
    | true => rw [h] at this; exact ⟨_, _, _, _, _, this⟩
    | false => rw [h] at this; exact this
  · show if PL.isWord d = true then _ else _
    obtain ⟨b4, this⟩ := one_word (a0 := a0) (a1 := a1) (a4 := a4) (a5 := a5) (a6 := a6) (a7 := a7) (a8 := a8) hf
    cases h : PL.isWord d with
    | true => rw [h] at this; exact ⟨_, _, _, _, _, this⟩
    | false => rw [h] at this; exact this
theorem one_loop {a0 a1 : Option D} : ∀ (zs : List (Char × D)) (a2 a3 a4 a5 a6 a7 a8 : Option D), (∀ p ∈ zs, (p.1 = 'r' ∨ p.1 = 'n' ∨ p.1 = 'g' ∨ p.1 = 'w') ∧ PL.flatP p.2 = true) →
    if (zs.all fun p => PL.isPart p.1 p.2) = true then ∃ env, xLoop (.t [2, 3]) one_body (zs.map fun p => .tup [.str (String.singleton p.1), p.2]) (E9 a0 a1 a2 a3 a4 a5 a6 a7 a8) = some (.nx env) else xLoop (.t [2, 3]) one_body (zs.map fun p => .tup [.str (String.singleton p.1), p.2]) (E9 a0 a1 a2 a3 a4 a5 a6 a7 a8) = some (.rt (.bl false))
  | [], a2, a3, a4, a5, a6, a7, a8, _ => by
    rw [List.all_nil, if_pos rfl]
    exact ⟨_, rfl⟩
  | (c, d) :: zs, a2, a3, a4, a5, a6, a7, a8, h => by
    obtain ⟨hc, hf⟩ := h (c, d) List.mem_cons_self
    have b := one_at (a0 := a0) (a1 := a1) (a4 := a4) (a5 := a5) (a6 := a6) (a7 := a7) (a8 := a8) hc hf
    rw [List.all_cons, List.map_cons]
    cases hp : PL.isPart c d with
    | true =>
      rw [hp, if_pos rfl] at b
      obtain ⟨b4, b5, b6, b7, b8, e⟩ := b
      have ih := one_loop (a0 := a0) (a1 := a1) zs (some (.str (String.singleton c))) (some d) b4 b5 b6 b7 b8 fun p hp => h p (List.mem_cons_of_mem _ hp)
      rw [Bool.true_and]
      cases ha : zs.all fun p => PL.isPart p.1 p.2 with
      | true =>
        rw [ha, if_pos rfl] at ih
        rw [if_pos rfl]
        obtain ⟨env, e2⟩ := ih
        exact ⟨env, PL.r_loop rfl e e2⟩
      | false =>
        rw [ha, if_neg Bool.false_ne_true] at ih
        rw [if_neg Bool.false_ne_true]
        exact PL.r_loop rfl e ih
    | false =>
      rw [hp, if_neg Bool.false_ne_true] at b
      rw [Bool.false_and, if_neg Bool.false_ne_true]
      exact PL.r_loopR (env1 := E9 a0 a1 (some (.str (String.singleton c))) (some d) a4 a5 a6 a7 a8) rfl b
theorem words_any (w : String) : ∀ l : List (String × String), (l.map fun p => D.str p.1).any (fun z => eqF z (.str w)) = (l.lookup w).isSome
  | [] => rfl
  | (k, v) :: l => by
    rw [List.map_cons, List.any_cons, words_any w l, List.lookup_cons]
    show ((k == w) || _) = _
    by_cases h : w = k
    · rw [h]; simp
    · rw [show (w == k) = false by simpa using h, show (k == w) = false by simpa using fun z => h z.symm]
      rfl
theorem sorts_eq {w so : String} (h : PL.lst_FORMS.lookup w = some so) : e__law_sorts [.str w] = some (.ok (.str so)) := by
  have hm := lookup_mem' h
  simp only [PL.lst_FORMS, List.mem_cons, List.not_mem_nil, or_false, Prod.mk.injEq] at hm
  rcases hm with ⟨rfl, rfl⟩ | ⟨rfl, rfl⟩ | ⟨rfl, rfl⟩ | ⟨rfl, rfl⟩ | ⟨rfl, rfl⟩ | ⟨rfl, rfl⟩ | ⟨rfl, rfl⟩ | ⟨rfl, rfl⟩ | ⟨rfl, rfl⟩ | ⟨rfl, rfl⟩ | ⟨rfl, rfl⟩ | ⟨rfl, rfl⟩ | ⟨rfl, rfl⟩ | ⟨rfl, rfl⟩ <;> kernel_rfl
theorem is_one_eq {xs : List D} (hf : ∀ x ∈ xs, PL.flatP x = true) : e__law_is_one [.tup xs] = some (.ok (.bl (PL.isInstr (.tup xs)))) := by
  have h : PL.okD 40 (.tup xs) = true := List.all_eq_true.mpr fun x hx => PL.flat_okD (hf x hx) 39
  have s1 : ∀ a : D, (xSet 1 (eLst (eCons (eC (.str "set")) (eCons (eC (.str "copy")) (eCons (eC (.str "add")) (eCons (eC (.str "take")) (eCons (eC (.str "less")) (eCons (eC (.str "go")) (eCons (eC (.str "zero")) (eCons (eC (.str "read")) (eCons (eC (.str "write")) (eCons (eC (.str "ask")) (eCons (eC (.str "tell")) (eC [])))))))))))))) (E9 (some a) none none none none none none none none) = some (.nx (E9 (some a) (some (.lst [.str "set", .str "copy", .str "add", .str "take", .str "less", .str "go", .str "zero", .str "read", .str "write", .str "ask", .str "tell"])) none none none none none none none)) := fun a => by kernel_rfl
  have s2 : ∀ a : D, (xSet 1 (eOp pyAdd (eVar 1) (eLst (eCons (eC (.str "look")) (eCons (eC (.str "mark")) (eCons (eC (.str "end")) (eC []))))))) (E9 (some a) (some (.lst [.str "set", .str "copy", .str "add", .str "take", .str "less", .str "go", .str "zero", .str "read", .str "write", .str "ask", .str "tell"])) none none none none none none none) = some (.nx (E9 (some a) (some (.lst (PL.lst_FORMS.map fun p => .str p.1))) none none none none none none none)) := fun a => by kernel_rfl
  cases xs with
  | nil => kernel_rfl
  | cons x ps =>
    have hx := hf x List.mem_cons_self
    have rest : ∀ (w : String), x = .str w → e__law_is_one [.tup (x :: ps)] = some (.ok (.bl (PL.isInstr (.tup (x :: ps))))) := by
      rintro w rfl
      have ni : pyNotIn G0 (.str w) (.lst (PL.lst_FORMS.map fun p => .str p.1)) = some (.bl (!(PL.lst_FORMS.lookup w).isSome)) := by
        have fl : (flatD (.str w) && (PL.lst_FORMS.map fun p => D.str p.1).all flatD) = true := by rfl
        simp only [pyNotIn, pyInB, asQ, asL, fl, if_true, words_any, Option.map_some]
      cases hw : PL.lst_FORMS.lookup w with
      | none =>
        rw [hw] at ni
        refine PL.ok_bl (PL.r_fn (PL.r_seq (s1 _) (PL.r_seq (s2 _) (PL.r_seqR (PL.r_xifT (PL.r_or (PL.r_test (PL.r_op (PL.r_var rfl) (PL.r_tup PL.r_nil (by decide)) (PL.eq_nil h))) fun _ => PL.r_or (PL.r_not (PL.r_test (PL.r_un (PL.r_op (PL.r_var rfl) PL.r_c (PL.item0 _ _)) rfl))) fun _ => PL.r_test (PL.r_op (PL.r_op (PL.r_var rfl) PL.r_c (PL.item0 _ _)) (PL.r_var rfl) ni)) rfl (PL.r_ret PL.r_c))))) rfl) ?_
        simp only [PL.isInstr, hw]
      | some so =>
        rw [hw] at ni
        obtain ⟨hso, _, hch⟩ := PL.forms_at hw
        have hsr := sorts_eq hw
        have k3 : DL.pyLen G0 [.str so] = some (.int so.length) := if_pos (by omega)
        have k4 : DL.pyLen G0 [.tup (.str w :: ps)] = some (.int (ps.length + 1 : Nat)) := rfl
        have k5 : pyNe G0 (.int (ps.length + 1 : Nat)) (.int (so.length + 1)) = some (.bl (!decide (ps.length = so.length))) := by
          show some (D.bl (!decide _)) = _
          rw [decide_eq_decide.mpr (show ((ps.length + 1 : Nat) : Int) = so.length + 1 ↔ ps.length = so.length by omega)]
        have c1 : ∀ a2 a3 a4 a5 a6 a7 a8, (xIf (eOr (eTest (eOp pyEq (eVar 0) (eTup (eC [])))) (eOr (eNot (eTest (eUn (pyIsi "str") (eOp pyItem (eVar 0) (eC (.int 0)))))) (eTest (eOp pyNotIn (eOp pyItem (eVar 0) (eC (.int 0))) (eVar 1))))) (xRet (eC (.bl false))) (xNext)) (E9 (some (.tup (.str w :: ps))) (some (.lst (PL.lst_FORMS.map fun p => .str p.1))) a2 a3 a4 a5 a6 a7 a8) = some (.nx (E9 (some (.tup (.str w :: ps))) (some (.lst (PL.lst_FORMS.map fun p => .str p.1))) a2 a3 a4 a5 a6 a7 a8)) := fun a2 a3 a4 a5 a6 a7 a8 =>
          PL.r_xifF (PL.r_or (PL.r_test (PL.r_op (PL.r_var rfl) (PL.r_tup PL.r_nil (by decide)) (PL.eq_nil h))) fun _ => PL.r_or (PL.r_not (PL.r_test (PL.r_un (PL.r_op (PL.r_var rfl) PL.r_c (PL.item0 _ _)) rfl))) fun _ => PL.r_test (PL.r_op (PL.r_op (PL.r_var rfl) PL.r_c (PL.item0 _ _)) (PL.r_var rfl) ni)) rfl rfl
        have c2 : ∀ a1 a2 a3 a4 a5 a6 a7 a8, (eTest (eOp pyNe (eB pyLen (eCons (eVar 0) (eC []))) (eOp pyAdd (eB pyLen (eCons (eCall e__law_sorts (eCons (eOp pyItem (eVar 0) (eC (.int 0))) (eC []))) (eC []))) (eC (.int 1))))) (E9 (some (.tup (.str w :: ps))) a1 a2 a3 a4 a5 a6 a7 a8) = some (.ok (!decide (ps.length = so.length))) := fun a1 a2 a3 a4 a5 a6 a7 a8 =>
          PL.r_test (PL.r_op (PL.r_b (PL.r_cons (PL.r_var rfl) PL.r_nil) k4) (PL.r_op (PL.r_b (PL.r_cons (PL.r_call (PL.r_cons (PL.r_op (PL.r_var rfl) PL.r_c (PL.item0 _ _)) PL.r_nil) hsr) PL.r_nil) k3) PL.r_c rfl) k5)
        by_cases hle : ps.length = so.length
        · have lp := one_loop (a0 := some (.tup (.str w :: ps))) (a1 := some (.lst (PL.lst_FORMS.map fun p => .str p.1))) (so.toList.zip ps) none none none none none none none fun p hp => ⟨hch _ (List.of_mem_zip hp).1, hf _ (List.mem_cons_of_mem _ (List.of_mem_zip hp).2)⟩
          have ei : ∀ a1 a2 a3 a4 a5 a6 a7 a8, eZip (eCons (eCall e__law_sorts (eCons (eOp pyItem (eVar 0) (eC (.int 0))) (eC []))) (eCons (eSlice (eVar 0) (ePart (eC (.int 1))) (eC none)) (eC []))) (E9 (some (.tup (.str w :: ps))) a1 a2 a3 a4 a5 a6 a7 a8) = some (.ok ((so.toList.zip ps).map fun p => .tup [.str (String.singleton p.1), p.2])) := fun a1 a2 a3 a4 a5 a6 a7 a8 => by
            rw [PL.r_zip (PL.r_cons (PL.r_call (PL.r_cons (PL.r_op (PL.r_var rfl) PL.r_c (PL.item0 _ _)) PL.r_nil) hsr) (PL.r_cons (PL.r_slice (PL.r_var rfl) (PL.r_part PL.r_c) PL.r_c (PL.cut1 _ _)) PL.r_nil)) rfl rfl, show signsD so = so.toList.map (fun c => D.str (String.singleton c)) from rfl, PL.zip_signs]
          have ee : PL.isInstr (.tup (.str w :: ps)) = (so.toList.zip ps).all fun p => PL.isPart p.1 p.2 := by
            simp only [PL.isInstr, hw, PL.partsOk, decide_eq_true hle, Bool.true_and]
          rw [ee]
          cases ha : (so.toList.zip ps).all fun p => PL.isPart p.1 p.2 with
          | true =>
            rw [ha, if_pos rfl] at lp
            obtain ⟨env, lp⟩ := lp
            refine PL.r_fn (PL.r_seq (s1 _) (PL.r_seq (s2 _) (PL.r_seq (c1 _ _ _ _ _ _ _) (PL.r_seq (PL.r_xifF (c2 _ _ _ _ _ _ _ _) (by rw [decide_eq_true hle]; rfl) rfl) (PL.r_seq (env' := env) ?_ (PL.r_ret PL.r_c)))))) rfl
            unfold xFor
            rw [ei]
            exact lp
          | false =>
            rw [ha, if_neg Bool.false_ne_true] at lp
            refine PL.r_fn (PL.r_seq (s1 _) (PL.r_seq (s2 _) (PL.r_seq (c1 _ _ _ _ _ _ _) (PL.r_seq (PL.r_xifF (c2 _ _ _ _ _ _ _ _) (by rw [decide_eq_true hle]; rfl) rfl) (PL.r_seqR ?_))))) rfl
            unfold xFor
            rw [ei]
            exact lp
        · refine PL.ok_bl (PL.r_fn (PL.r_seq (s1 _) (PL.r_seq (s2 _) (PL.r_seq (c1 _ _ _ _ _ _ _) (PL.r_seqR (PL.r_xifT (c2 _ _ _ _ _ _ _ _) (by rw [decide_eq_false hle]; rfl) (PL.r_ret PL.r_c)))))) rfl) ?_
          simp only [PL.isInstr, hw, PL.partsOk, decide_eq_false hle, Bool.false_and]
    cases x with
    | str w => exact rest w rfl
    | non => exact PL.r_fn (PL.r_seq (s1 _) (PL.r_seq (s2 _) (PL.r_seqR (PL.r_xifT (PL.r_or (PL.r_test (PL.r_op (PL.r_var rfl) (PL.r_tup PL.r_nil (by decide)) (PL.eq_nil h))) fun _ => PL.r_or (c := false) (PL.r_not (PL.r_test (PL.r_un (PL.r_op (PL.r_var rfl) PL.r_c (PL.item0 _ _)) rfl))) fun z => nomatch (show true = false from z)) rfl (PL.r_ret PL.r_c))))) rfl
    | bl b => exact PL.r_fn (PL.r_seq (s1 _) (PL.r_seq (s2 _) (PL.r_seqR (PL.r_xifT (PL.r_or (PL.r_test (PL.r_op (PL.r_var rfl) (PL.r_tup PL.r_nil (by decide)) (PL.eq_nil h))) fun _ => PL.r_or (c := false) (PL.r_not (PL.r_test (PL.r_un (PL.r_op (PL.r_var rfl) PL.r_c (PL.item0 _ _)) rfl))) fun z => nomatch (show true = false from z)) rfl (PL.r_ret PL.r_c))))) rfl
    | int i => exact PL.r_fn (PL.r_seq (s1 _) (PL.r_seq (s2 _) (PL.r_seqR (PL.r_xifT (PL.r_or (PL.r_test (PL.r_op (PL.r_var rfl) (PL.r_tup PL.r_nil (by decide)) (PL.eq_nil h))) fun _ => PL.r_or (c := false) (PL.r_not (PL.r_test (PL.r_un (PL.r_op (PL.r_var rfl) PL.r_c (PL.item0 _ _)) rfl))) fun z => nomatch (show true = false from z)) rfl (PL.r_ret PL.r_c))))) rfl
    | _ => cases hx
/-! ### the law -/
abbrev E11 (a0 a1 a2 a3 a4 a5 a6 a7 a8 a9 a10 : Option D) : DSt := [a0, a1, a2, a3, a4, a5, a6, a7, a8, a9, a10]
theorem env11 {env : DSt} (h : env.length = 11) : ∃ a0 a1 a2 a3 a4 a5 a6 a7 a8 a9 a10, env = E11 a0 a1 a2 a3 a4 a5 a6 a7 a8 a9 a10 := by
  match env, h with
  | [a0, a1, a2, a3, a4, a5, a6, a7, a8, a9, a10], _ => exact ⟨a0, a1, a2, a3, a4, a5, a6, a7, a8, a9, a10, rfl⟩
def parts13 : List D := [.int 4, .int (-1), .int 100, .int 99, .int 1000, .bl true, .non, .str "A", .str "", .str "abcdefghi", .str "ok", .int 3, .int (-999)]
theorem parts13_ok : ∀ d ∈ parts13, PL.flatP d = true := by
  intro d hd
  simp only [parts13, List.mem_cons, List.not_mem_nil, or_false] at hd
  rcases hd with rfl | rfl | rfl | rfl | rfl | rfl | rfl | rfl | rfl | rfl | rfl | rfl | rfl <;> decide
theorem instr_flat {d : D} (h : PL.isInstr d = true) : ∃ xs, d = .tup xs ∧ xs.length ≤ 4 ∧ ∀ x ∈ xs, PL.flatP x = true := by
  obtain ⟨ps, e, h4, _, hp⟩ := PL.instr_txt h
  exact ⟨ps, e, h4, fun x hx => PL.txt_flat (hp x hx)⟩
theorem cut_mem {xs : List D} {lo hi : Option Int} {x : D} (h : x ∈ cutD xs lo hi) : x ∈ xs := List.mem_of_mem_drop (List.mem_of_mem_take h)
theorem cutD_len (xs : List D) (lo hi : Option Int) : (cutD xs lo hi).length ≤ xs.length := by
  unfold cutD
  rw [List.length_take, List.length_drop]
  omega
theorem turn_body {ps : List Addr} {p : Addr} (hp : p ∈ ps) {E : DXK} {DE : DEnds} {G : DG} (hd : DiceOk G ps) {one : D} (hi : PL.isInstr one = true) {a0 a2 a4 a5 a6 a7 a8 a9 a10 : Option D}
    (k : ∀ a5 a6 a7 G', Fr ps G G' → DE.nx (E11 a0 (some (.ref p)) a2 (some one) a4 a5 a6 a7 a8 a9 a10) G') :
    b_law_2 E DE (E11 a0 (some (.ref p)) a2 (some one) a4 a5 a6 a7 a8 a9 a10) G := by
  obtain ⟨xs, rfl, h4, hfx⟩ := instr_flat hi
  unfold b_law_2
  (repeat first | refine Exists.intro _ (And.intro rfl ?_) | refine And.intro (show _ ≤ 16000000 by simp) ?_ | refine And.intro (show _ = some "str" from rfl) ?_ | refine PL.ifF rfl ?_ | refine PL.ifT rfl ?_); try dsimp only [dNil]
  refine roll_d hp hd (by decide) (by decide) fun r1 G1 r10 r11 f1 => ?_
  obtain ⟨part, hpm, e1⟩ := item_nth (G := G1) (xs := parts13) r10 r11
  refine ⟨part, e1, ?_⟩
  (repeat first | refine Exists.intro _ (And.intro rfl ?_) | refine And.intro (show _ ≤ 16000000 by simp) ?_ | refine And.intro (show _ = some "str" from rfl) ?_ | refine PL.ifF rfl ?_ | refine PL.ifT rfl ?_); try dsimp only [dNil]
  refine roll_d hp f1.dice (by omega) (by omega) fun at_ G2 r20 r21 f2 => ?_
  have l1 := cutD_len xs none (some at_)
  (repeat first | refine Exists.intro _ (And.intro rfl ?_) | refine And.intro (show _ ≤ 16000000 by simp) ?_ | refine And.intro (show _ = some "str" from rfl) ?_ | refine PL.ifF rfl ?_ | refine PL.ifT rfl ?_); try dsimp only [dNil]
  refine ⟨_, if_pos (by simp; omega), ?_⟩
  (repeat first | refine Exists.intro _ (And.intro rfl ?_) | refine And.intro (show _ ≤ 16000000 by simp) ?_ | refine And.intro (show _ = some "str" from rfl) ?_ | refine PL.ifF rfl ?_ | refine PL.ifT rfl ?_); try dsimp only [dNil]
  refine roll_d hp f2.dice (by decide) (by decide) fun r3 G3 r30 r31 f3 => ?_
  (repeat first | refine Exists.intro _ (And.intro rfl ?_) | refine And.intro (show _ ≤ 16000000 by simp) ?_ | refine And.intro (show _ = some "str" from rfl) ?_ | refine PL.ifF rfl ?_ | refine PL.ifT rfl ?_); try dsimp only [dNil]
  have l2 := cutD_len xs (some (at_ + r3)) none
  refine ⟨.tup (cutD xs none (some at_) ++ [part] ++ cutD xs (some (at_ + r3)) none), if_pos (by simp; omega), ?_⟩
  generalize hb : cutD xs none (some at_) ++ [part] ++ cutD xs (some (at_ + r3)) none = bent
  have hf : ∀ x ∈ bent, PL.flatP x = true := fun x hx => by
    rw [← hb, List.mem_append, List.mem_append, List.mem_singleton] at hx
    rcases hx with (hx | rfl) | hx
    · exact hfx x (cut_mem hx)
    · exact parts13_ok x hpm
    · exact hfx x (cut_mem hx)
  have o40 : PL.okD 40 (.tup bent) = true := List.all_eq_true.mpr fun x hx => PL.flat_okD (hf x hx) 39
  have o41 : PL.okD 41 (.tup [.tup bent]) = true := by simp [PL.okD] at o40 ⊢; exact o40
  have ep : PL.isProg (.tup [.tup bent]) = PL.isInstr (.tup bent) := by simp [PL.isProg]
  (repeat first | refine Exists.intro _ (And.intro rfl ?_) | refine And.intro (show _ ≤ 16000000 by simp) ?_ | refine And.intro (show _ = some "str" from rfl) ?_ | refine PL.ifF rfl ?_ | refine PL.ifT rfl ?_); try dsimp only [dNil]
  refine ev_is_instruction _ _ (PL.is_instruction_eq o40) _ _ _ ?_
  (repeat first | refine Exists.intro _ (And.intro rfl ?_) | refine And.intro (show _ ≤ 16000000 by simp) ?_ | refine And.intro (show _ = some "str" from rfl) ?_ | refine PL.ifF rfl ?_ | refine PL.ifT rfl ?_); try dsimp only [dNil]
  refine ev__law_is_one _ _ (is_one_eq hf) _ _ _ ⟨.bl false, PL.ne_refl rfl, ?_⟩
  (repeat first | refine Exists.intro _ (And.intro rfl ?_) | refine And.intro (show _ ≤ 16000000 by simp) ?_ | refine And.intro (show _ = some "str" from rfl) ?_ | refine PL.ifF rfl ?_ | refine PL.ifT rfl ?_); try dsimp only [dNil]
  refine ev_is_program _ _ (PL.is_program_eq o41) _ _ _ ?_
  (repeat first | refine Exists.intro _ (And.intro rfl ?_) | refine And.intro (show _ ≤ 16000000 by simp) ?_ | refine And.intro (show _ = some "str" from rfl) ?_ | refine PL.ifF rfl ?_ | refine PL.ifT rfl ?_); try dsimp only [dNil]
  refine ev__law_is_one _ _ (is_one_eq hf) _ _ _ ⟨.bl false, ?_, ?_⟩
  · rw [ep]
    exact PL.ne_refl rfl
  · (repeat first | refine Exists.intro _ (And.intro rfl ?_) | refine And.intro (show _ ≤ 16000000 by simp) ?_ | refine And.intro (show _ = some "str" from rfl) ?_ | refine PL.ifF rfl ?_ | refine PL.ifT rfl ?_); try dsimp only [dNil]
    exact k _ _ _ _ ((f1.trans f2).trans f3)
theorem turn_loop {ps : List Addr} {p : Addr} (hp : p ∈ ps) {E : DXK} {DE : DEnds} {one : D} (hi : PL.isInstr one = true) {a0 a2 a8 a9 a10 : Option D} {guard : DG → Prop} (hg : ∀ G, guard G) : ∀ (xs : List D) (a4 a5 a6 a7 : Option D) (G : DG), DiceOk G ps →
    (∀ a4 a5 a6 a7 G', Fr ps G G' → DE.nx (E11 a0 (some (.ref p)) a2 (some one) a4 a5 a6 a7 a8 a9 a10) G') → dLoop E (.n 4) b_law_2 DE guard xs (E11 a0 (some (.ref p)) a2 (some one) a4 a5 a6 a7 a8 a9 a10) G
  | [], a4, a5, a6, a7, G, hd, k => ⟨hg G, k a4 a5 a6 a7 G (Fr.refl hd)⟩
  | x :: xs, a4, a5, a6, a7, G, hd, k => ⟨hg G, turn_body hp hd hi fun a5 a6 a7 G1 f => turn_loop hp hi hg xs _ _ _ _ G1 f.dice fun a4 a5 a6 a7 G' f2 => k a4 a5 a6 a7 G' (f.trans f2)⟩
theorem one_loop2 {ps : List Addr} {p : Addr} (hp : p ∈ ps) {E : DXK} {DE : DEnds} {a0 a2 a8 a9 a10 : Option D} {guard : DG → Prop} (hg : ∀ G, guard G) : ∀ (xs : List D) (a3 a4 a5 a6 a7 : Option D) (G : DG), (∀ x ∈ xs, PL.isInstr x = true) → DiceOk G ps →
    (∀ a3 a4 a5 a6 a7 G', Fr ps G G' → DE.nx (E11 a0 (some (.ref p)) a2 a3 a4 a5 a6 a7 a8 a9 a10) G') → dLoop E (.n 3) b_law_1 DE guard xs (E11 a0 (some (.ref p)) a2 a3 a4 a5 a6 a7 a8 a9 a10) G
  | [], a3, a4, a5, a6, a7, G, _, hd, k => ⟨hg G, k a3 a4 a5 a6 a7 G (Fr.refl hd)⟩
  | x :: xs, a3, a4, a5, a6, a7, G, hi, hd, k => by
    refine ⟨hg G, ?_⟩
    show sFor (dRange1 (dCons (dC (.int 4)) dNil)) (.n 4) b_law_2 _ _ _ _
    refine ⟨4, rfl, by decide, by decide, ?_⟩
    exact turn_loop hp (hi x List.mem_cons_self) (fun _ => trivial) _ _ _ _ _ _ hd fun a4 a5 a6 a7 G1 f => one_loop2 hp hg xs _ _ _ _ _ G1 (fun y hy => hi y (List.mem_cons_of_mem _ hy)) f.dice fun a3 a4 a5 a6 a7 G' f2 => k a3 a4 a5 a6 a7 G' (f.trans f2)
/-! what is none -/
theorem need_bad {d : D} {G : DG} {Q : DK} {E : DX → DG → Prop} (h : e_need_program [d] = some (.error ("BadProgram", none))) (k : E ("BadProgram", none) G) : sp_need_program [d] G Q E := ev_need_program _ _ h G Q E k
theorem come_bad {d : D} {G : DG} {Q : DK} {E : DX → DG → Prop} (h : e_need_program [d] = some (.error ("BadProgram", none))) (k : E ("BadProgram", none) G) : sp_come_to [d] G Q E := by
  refine ⟨rfl, ?_⟩
  (repeat first | refine Exists.intro _ (And.intro rfl ?_) | refine And.intro (show _ ≤ 16000000 by simp) ?_ | refine And.intro (show _ = some "str" from rfl) ?_ | refine PL.ifF rfl ?_ | refine PL.ifT rfl ?_); try dsimp only [dNil]
  exact need_bad h k
theorem words_bad {d : D} {G : DG} {Q : DK} {E : DX → DG → Prop} (h : e_need_program [d] = some (.error ("BadProgram", none))) (k : E ("BadProgram", none) G) : sp_words_in [d] G Q E := by
  refine ⟨rfl, ?_⟩
  (repeat first | refine Exists.intro _ (And.intro rfl ?_) | refine And.intro (show _ ≤ 16000000 by simp) ?_ | refine And.intro (show _ = some "str" from rfl) ?_ | refine PL.ifF rfl ?_ | refine PL.ifT rfl ?_); try dsimp only [dNil]
  exact need_bad h k
theorem text_bad {d : D} {G : DG} {Q : DK} {E : DX → DG → Prop} (h : e_need_program [d] = some (.error ("BadProgram", none))) (k : E ("BadProgram", none) G) : sp_program_text [d] G Q E := by
  refine ⟨rfl, ?_⟩
  (repeat first | refine Exists.intro _ (And.intro rfl ?_) | refine And.intro (show _ ≤ 16000000 by simp) ?_ | refine And.intro (show _ = some "str" from rfl) ?_ | refine PL.ifF rfl ?_ | refine PL.ifT rfl ?_); try dsimp only [dNil]
  exact need_bad h k
theorem needs_bad {d x : D} {G : DG} {Q : DK} {E : DX → DG → Prop} (h : e_need_program [d] = some (.error ("BadProgram", none))) (k : E ("BadProgram", none) G) : sp_needs [d, x] G Q E := by
  refine ⟨rfl, ?_⟩
  (repeat first | refine Exists.intro _ (And.intro rfl ?_) | refine And.intro (show _ ≤ 16000000 by simp) ?_ | refine And.intro (show _ = some "str" from rfl) ?_ | refine PL.ifF rfl ?_ | refine PL.ifT rfl ?_); try dsimp only [dNil]
  exact need_bad h k
theorem right_bad {d x y : D} {G : DG} {Q : DK} {E : DX → DG → Prop} (h : e_need_program [d] = some (.error ("BadProgram", none))) (k : E ("BadProgram", none) G) : sp_is_right [d, x, y] G Q E := by
  refine ⟨rfl, ?_⟩
  (repeat first | refine Exists.intro _ (And.intro rfl ?_) | refine And.intro (show _ ≤ 16000000 by simp) ?_ | refine And.intro (show _ = some "str" from rfl) ?_ | refine PL.ifF rfl ?_ | refine PL.ifT rfl ?_); try dsimp only [dNil]
  refine ⟨rfl, ?_⟩
  (repeat first | refine Exists.intro _ (And.intro rfl ?_) | refine And.intro (show _ ≤ 16000000 by simp) ?_ | refine And.intro (show _ = some "str" from rfl) ?_ | refine PL.ifF rfl ?_ | refine PL.ifT rfl ?_); try dsimp only [dNil]
  exact need_bad h k
def RB : D := .tup [.str "refused", .str "BadProgram"]
theorem bad_told {G : DG} {P : DK} (h : P RB G) {env : DSt} : toldX P ("BadProgram", none) env G := ⟨"BadProgram", rfl, by decide, h⟩
def cases10 : List D := [.non, .int 5, .str "end", .tup [.str "end"], .tup [], .lst [.tup [.str "end"]], .tup [.tup [.str "end"], .non], .tup (List.replicate 41 [.tup [.str "end"]]).flatten, .tup [.tup [.str "End"]], .tup [.tup []]]
theorem cases_ok : ∀ d ∈ cases10, e_is_program [d] = some (.ok (.bl false)) ∧ e_need_program [d] = some (.error ("BadProgram", none)) := by
  intro d hd
  simp only [cases10, List.mem_cons, List.not_mem_nil, or_false] at hd
  rcases hd with rfl | rfl | rfl | rfl | rfl | rfl | rfl | rfl | rfl | rfl <;> exact ⟨by kernel_rfl, by kernel_rfl⟩
theorem five {G : DG} : pyNe G (.lst [RB, RB, RB, RB, RB]) (.lst (List.replicate (5 : Int).toNat [RB]).flatten) = some (.bl false) := m_ne _ _ _ _ (by kernel_rfl)
theorem bad_body {ps : List Addr} {E : DXK} {DE : DEnds} {G : DG} (hdk : DiceOk G ps) {d : D} (hd : d ∈ cases10) {a0 a1 a2 a3 a4 a5 a6 a7 a8 a10 : Option D}
    (k : ∀ a10 G', Fr ps G G' → DE.nx (E11 a0 a1 a2 a3 a4 a5 a6 a7 a8 (some d) a10) G') : b_law_3 E DE (E11 a0 a1 a2 a3 a4 a5 a6 a7 a8 (some d) a10) G := by
  obtain ⟨h1, h2⟩ := cases_ok d hd
  unfold b_law_3
  (repeat first | refine Exists.intro _ (And.intro rfl ?_) | refine And.intro (show _ ≤ 16000000 by simp) ?_ | refine And.intro (show _ = some "str" from rfl) ?_ | refine PL.ifF rfl ?_ | refine PL.ifT rfl ?_); try dsimp only [dNil]
  refine come_bad h2 (bad_told ⟨by simp, fun q hq => ?_⟩)
  have g : ∀ {G : DG} {o : Option DO}, gset G q o q = o := gset_same
  (repeat first | refine Exists.intro _ (And.intro rfl ?_) | refine And.intro (show _ ≤ 16000000 by simp) ?_ | refine And.intro (show _ = some "str" from rfl) ?_ | refine PL.ifF rfl ?_ | refine PL.ifT rfl ?_); try dsimp only [dNil]
  refine ⟨ty_lst g, ?_⟩
  (repeat first | refine Exists.intro _ (And.intro rfl ?_) | refine And.intro (show _ ≤ 16000000 by simp) ?_ | refine And.intro (show _ = some "str" from rfl) ?_ | refine PL.ifF rfl ?_ | refine PL.ifT rfl ?_); try dsimp only [dNil]
  refine words_bad h2 (bad_told ⟨_, _, append_ok g (by simp), ?_⟩)
  (repeat first | refine Exists.intro _ (And.intro rfl ?_) | refine And.intro (show _ ≤ 16000000 by simp) ?_ | refine And.intro (show _ = some "str" from rfl) ?_ | refine PL.ifF rfl ?_ | refine PL.ifT rfl ?_); try dsimp only [dNil]
  refine ⟨ty_lst g, ?_⟩
  (repeat first | refine Exists.intro _ (And.intro rfl ?_) | refine And.intro (show _ ≤ 16000000 by simp) ?_ | refine And.intro (show _ = some "str" from rfl) ?_ | refine PL.ifF rfl ?_ | refine PL.ifT rfl ?_); try dsimp only [dNil]
  refine text_bad h2 (bad_told ⟨_, _, append_ok g (by simp), ?_⟩)
  (repeat first | refine Exists.intro _ (And.intro rfl ?_) | refine And.intro (show _ ≤ 16000000 by simp) ?_ | refine And.intro (show _ = some "str" from rfl) ?_ | refine PL.ifF rfl ?_ | refine PL.ifT rfl ?_); try dsimp only [dNil]
  refine ⟨ty_lst g, ?_⟩
  (repeat first | refine Exists.intro _ (And.intro rfl ?_) | refine And.intro (show _ ≤ 16000000 by simp) ?_ | refine And.intro (show _ = some "str" from rfl) ?_ | refine PL.ifF rfl ?_ | refine PL.ifT rfl ?_); try dsimp only [dNil]
  refine needs_bad h2 (bad_told ⟨_, _, append_ok g (by simp), ?_⟩)
  (repeat first | refine Exists.intro _ (And.intro rfl ?_) | refine And.intro (show _ ≤ 16000000 by simp) ?_ | refine And.intro (show _ = some "str" from rfl) ?_ | refine PL.ifF rfl ?_ | refine PL.ifT rfl ?_); try dsimp only [dNil]
  refine ⟨ty_lst g, ?_⟩
  (repeat first | refine Exists.intro _ (And.intro rfl ?_) | refine And.intro (show _ ≤ 16000000 by simp) ?_ | refine And.intro (show _ = some "str" from rfl) ?_ | refine PL.ifF rfl ?_ | refine PL.ifT rfl ?_); try dsimp only [dNil]
  refine right_bad h2 (bad_told ⟨_, _, append_ok g (by simp), ?_⟩)
  (repeat first | refine Exists.intro _ (And.intro rfl ?_) | refine And.intro (show _ ≤ 16000000 by simp) ?_ | refine And.intro (show _ = some "str" from rfl) ?_ | refine PL.ifF rfl ?_ | refine PL.ifT rfl ?_); try dsimp only [dNil]
  refine ev_is_program _ _ h1 _ _ _ ?_
  (repeat first | refine Exists.intro _ (And.intro rfl ?_) | refine And.intro (show _ ≤ 16000000 by simp) ?_ | refine And.intro (show _ = some "str" from rfl) ?_ | refine PL.ifF rfl ?_ | refine PL.ifT rfl ?_); try dsimp only [dNil]
  refine ⟨.bl false, ?_, ?_⟩
  · rw [PL.ne_ref g]
    exact five
  · (repeat first | refine Exists.intro _ (And.intro rfl ?_) | refine And.intro (show _ ≤ 16000000 by simp) ?_ | refine And.intro (show _ = some "str" from rfl) ?_ | refine PL.ifF rfl ?_ | refine PL.ifT rfl ?_); try dsimp only [dNil]
    refine k _ _ ?_
    have f1 : Fr ps G (gset G q (some (.lst [RB]))) := Fr.new hdk hq
    have hqd := not_dice hdk hq
    exact FrB.fr (o := some (.lst [RB])) hq (((((Fr.refl f1.dice).toB.set hqd).set hqd).set hqd).set hqd)
theorem bad_loop {ps : List Addr} {E : DXK} {DE : DEnds} {a0 a1 a2 a3 a4 a5 a6 a7 a8 : Option D} {guard : DG → Prop} (hg : ∀ G, guard G) : ∀ (xs : List D) (a9 a10 : Option D) (G : DG), (∀ x ∈ xs, x ∈ cases10) → DiceOk G ps →
    (∀ a9 a10 G', Fr ps G G' → DE.nx (E11 a0 a1 a2 a3 a4 a5 a6 a7 a8 a9 a10) G') → dLoop E (.n 9) b_law_3 DE guard xs (E11 a0 a1 a2 a3 a4 a5 a6 a7 a8 a9 a10) G
  | [], a9, a10, G, _, hd, k => ⟨hg G, k a9 a10 G (Fr.refl hd)⟩
  | x :: xs, a9, a10, G, hx, hd, k => ⟨hg G, bad_body hd (hx x List.mem_cons_self) fun a10 G1 f => bad_loop hg xs _ _ G1 (fun y hy => hx y (List.mem_cons_of_mem _ hy)) f.dice fun a9 a10 G' f2 => k a9 a10 G' (f.trans f2)⟩
theorem round_body {ps : List Addr} {p : Addr} (hp : p ∈ ps) {E : DXK} {DE : DEnds} {G : DG} (hd : DiceOk G ps) {a0 a2 a3 a4 a5 a6 a7 a8 a9 a10 : Option D}
    (k : ∀ env G', env.length = 11 → DiceOk G' ps → DE.nx env G') : b_law_0 E DE (E11 a0 (some (.ref p)) a2 a3 a4 a5 a6 a7 a8 a9 a10) G := by
  show sSeq (sSet 2 _) (sSeq (sIf _ _ _) (sSeq (sIf _ _ _) (sSeq (sFor _ _ b_law_1) (sSeq (sSet 8 _) (sSeq (sSet 8 _) (sSeq (sFor _ _ b_law_3) (sIf _ _ _))))))) _ _ _ _
  (repeat first | refine Exists.intro _ (And.intro rfl ?_) | refine And.intro (show _ ≤ 16000000 by simp) ?_ | refine And.intro (show _ = some "str" from rfl) ?_ | refine PL.ifF rfl ?_ | refine PL.ifT rfl ?_); try dsimp only [dNil]
  refine program_ok hp hd (by decide) fun xs G1 hpr _ f1 => ?_
  obtain ⟨ys, e, _, h40, hi⟩ := PL.isProg_cases hpr
  cases e
  have ep := PL.is_program_eq (PL.prog_okD hpr 39)
  rw [hpr] at ep
  (repeat first | refine Exists.intro _ (And.intro rfl ?_) | refine And.intro (show _ ≤ 16000000 by simp) ?_ | refine And.intro (show _ = some "str" from rfl) ?_ | refine PL.ifF rfl ?_ | refine PL.ifT rfl ?_); try dsimp only [dNil]
  refine ev_is_program _ _ ep _ _ _ ?_
  (repeat first | refine Exists.intro _ (And.intro rfl ?_) | refine And.intro (show _ ≤ 16000000 by simp) ?_ | refine And.intro (show _ = some "str" from rfl) ?_ | refine PL.ifF rfl ?_ | refine PL.ifT rfl ?_); try dsimp only [dNil]
  -- no instruction is none
  have lc : ∀ (env : DSt), env = E11 a0 (some (.ref p)) (some (.tup xs)) none a4 a5 a6 a7 a8 a9 a10 → eLcL (.n 3) (eTest (eOp pyIsNot (eCall e_is_instruction (eCons (eVar 3) (eC []))) (eC (.bl true)))) (eVar 3) env xs = some [] := fun env he => by
    rw [he]
    refine (PL.lcL_filt (p := fun _ => false) (g := id) fun d hd' => ⟨_, rfl, ?_, PL.r_var rfl⟩).trans (by simp)
    have := PL.is_instruction_eq (PL.instr_okD (hi d hd') 39)
    rw [hi d hd'] at this
    exact PL.r_test (PL.r_op (PL.r_call (PL.r_cons (PL.r_var rfl) PL.r_nil) this) PL.r_c rfl)
  refine ⟨by omega, eLcL_ok (ev_test (ev_op m_isnot (ev_call ev_is_instruction (ev_cons (ev_var 3) ev_nil)) (ev_c _))) (ev_var 3) (fun _ => rfl) (lc _ rfl) ?_⟩
  (repeat first | refine Exists.intro _ (And.intro rfl ?_) | refine And.intro (show _ ≤ 16000000 by simp) ?_ | refine And.intro (show _ = some "str" from rfl) ?_ | refine PL.ifF rfl ?_ | refine PL.ifT rfl ?_); try dsimp only [dNil]
  refine one_loop2 hp (fun _ => rfl) xs _ _ _ _ _ _ hi f1.dice fun a3 a4 a5 a6 a7 G2 f2 => ?_
  (repeat first | refine Exists.intro _ (And.intro rfl ?_) | refine And.intro (show _ ≤ 16000000 by simp) ?_ | refine And.intro (show _ = some "str" from rfl) ?_ | refine PL.ifF rfl ?_ | refine PL.ifT rfl ?_); try dsimp only [dNil]
  refine bad_loop (fun _ => rfl) cases10 _ _ _ (fun x hx => hx) f2.dice fun a9 a10 G3 f3 => ?_
  (repeat first | refine Exists.intro _ (And.intro rfl ?_) | refine And.intro (show _ ≤ 16000000 by simp) ?_ | refine And.intro (show _ = some "str" from rfl) ?_ | refine PL.ifF rfl ?_ | refine PL.ifT rfl ?_); try dsimp only [dNil]
  refine ev_is_program _ (.ok (.bl true)) (by kernel_rfl) _ _ _ ?_
  (repeat first | refine Exists.intro _ (And.intro rfl ?_) | refine And.intro (show _ ≤ 16000000 by simp) ?_ | refine And.intro (show _ = some "str" from rfl) ?_ | refine PL.ifF rfl ?_ | refine PL.ifT rfl ?_); try dsimp only [dNil]
  exact k _ _ rfl f3.dice
theorem plain (ns : List Int) (hl : ns.length ≤ 1000000) : sp_law [.scr ns] G0 (fun d _ => d = .bl true) fun _ _ => False := by
  refine ⟨rfl, ?_⟩
  show sSeq (sFor _ _ b_law_0) _ _ _ _ _
  refine ⟨_, rfl, ?_⟩
  refine rounds_ok hl (by decide) (by decide) fun ps G' _ hd _ => ⟨_, rfl, ?_⟩
  have loop : ∀ (E : DXK) (DE : DEnds), (∀ env G, DE.nx env G) → ∀ (qs : List Addr) (env : DSt) (G : DG), env.length = 11 → (∀ q ∈ qs, q ∈ ps) → DiceOk G ps → dLoop E (.n 1) b_law_0 DE (fun G' => iterD G' (.lst (ps.map .ref)) = some (ps.map .ref)) (qs.map .ref) env G := by
    intro E DE hn qs
    induction qs with
    | nil => intro env G _ _ _; exact ⟨rfl, hn _ _⟩
    | cons p qs ih =>
      intro env G he hq hdk
      refine ⟨rfl, ?_⟩
      obtain ⟨a0, a1, a2, a3, a4, a5, a6, a7, a8, a9, a10, rfl⟩ := env11 he
      exact round_body (hq p List.mem_cons_self) hdk fun env' G2 hl' hd2 => ih env' G2 hl' (fun q hq' => hq q (List.mem_cons_of_mem _ hq')) hd2
  exact loop _ _ (fun _ _ => rfl) ps _ G' rfl (fun q hq => hq) hd
end K01

namespace K01
open PySem PySem.Spec PyProof.Rows L2 LamX HotX L2H DL
def fn : List He.DefD := [⟨("_law_door_pool", none), "_law_door_pool", "_law_door_pool", defArgs s__law_door_pool, defBody s__law_door_pool, defScope s__law_door_pool, [], []⟩, ⟨("_law_page_pool", none), "_law_page_pool", "_law_page_pool", defArgs s__law_page_pool, defBody s__law_page_pool, defScope s__law_page_pool, [], []⟩, ⟨("_law_drawn", none), "_law_drawn", "_law_drawn", defArgs s__law_drawn, defBody s__law_drawn, defScope s__law_drawn, [], []⟩, ⟨("_law_roll", none), "_law_roll", "_law_roll", defArgs s__law_roll, defBody s__law_roll, defScope s__law_roll, [], []⟩, ⟨("_law_sorts", none), "_law_sorts", "_law_sorts", defArgs s__law_sorts, defBody s__law_sorts, defScope s__law_sorts, [], []⟩, ⟨("_law_any_order", none), "_law_any_order", "_law_any_order", defArgs s__law_any_order, defBody s__law_any_order, defScope s__law_any_order, [], []⟩, ⟨("_law_any_program", none), "_law_any_program", "_law_any_program", defArgs s__law_any_program, defBody s__law_any_program, defScope s__law_any_program, [], []⟩, ⟨("_law_is_one", none), "_law_is_one", "_law_is_one", defArgs s__law_is_one, defBody s__law_is_one, defScope s__law_is_one, [], []⟩, ⟨("_law_cell", none), "_law_cell", "_law_cell", defArgs s__law_cell, defBody s__law_cell, defScope s__law_cell, [], []⟩, ⟨("_law_rounds", none), "_law_rounds", "_law_rounds", defArgs s__law_rounds, defBody s__law_rounds, defScope s__law_rounds, [], []⟩, ⟨("_law_term", none), "_law_term", "_law_term", defArgs s__law_term, defBody s__law_term, defScope s__law_term, [], []⟩, ⟨("_law_told", none), "_law_told", "_law_told", defArgs s__law_told, defBody s__law_told, defScope s__law_told, [], []⟩, ⟨("is_whole", none), "is_whole", "is_whole", defArgs s_is_whole, defBody s_is_whole, defScope s_is_whole, [], []⟩, ⟨("is_number", none), "is_number", "is_number", defArgs s_is_number, defBody s_is_number, defScope s_is_number, [], []⟩, ⟨("is_word", none), "is_word", "is_word", defArgs s_is_word, defBody s_is_word, defScope s_is_word, [], []⟩, ⟨("is_part", none), "is_part", "is_part", defArgs s_is_part, defBody s_is_part, defScope s_is_part, [], []⟩, ⟨("is_instruction", none), "is_instruction", "is_instruction", defArgs s_is_instruction, defBody s_is_instruction, defScope s_is_instruction, [], []⟩, ⟨("is_program", none), "is_program", "is_program", defArgs s_is_program, defBody s_is_program, defScope s_is_program, [], []⟩, ⟨("need_program", none), "need_program", "need_program", defArgs s_need_program, defBody s_need_program, defScope s_need_program, [], []⟩, ⟨("goals_of", none), "goals_of", "goals_of", defArgs s_goals_of, defBody s_goals_of, defScope s_goals_of, [], []⟩, ⟨("places_of", none), "places_of", "places_of", defArgs s_places_of, defBody s_places_of, defScope s_places_of, [], []⟩, ⟨("come_to", none), "come_to", "come_to", defArgs s_come_to, defBody s_come_to, defScope s_come_to, [], []⟩, ⟨("is_span", none), "is_span", "is_span", defArgs s_is_span, defBody s_is_span, defScope s_is_span, [], []⟩, ⟨("is_row_papers", none), "is_row", "is_row", defArgs s_is_row_papers, defBody s_is_row_papers, defScope s_is_row_papers, [], []⟩, ⟨("is_form", none), "is_form", "is_form", defArgs s_is_form, defBody s_is_form, defScope s_is_form, [], []⟩, ⟨("need_room", none), "need_room", "need_room", defArgs s_need_room, defBody s_need_room, defScope s_need_room, [], []⟩, ⟨("need_asked", none), "need_asked", "need_asked", defArgs s_need_asked, defBody s_need_asked, defScope s_need_asked, [], []⟩, ⟨("is_cell", none), "is_cell", "is_cell", defArgs s_is_cell, defBody s_is_cell, defScope s_is_cell, [], []⟩, ⟨("with_span", none), "with_span", "with_span", defArgs s_with_span, defBody s_with_span, defScope s_with_span, [], []⟩, ⟨("passed", none), "passed", "passed", defArgs s_passed, defBody s_passed, defScope s_passed, [], []⟩, ⟨("reckoned", none), "reckoned", "reckoned", defArgs s_reckoned, defBody s_reckoned, defScope s_reckoned, [], []⟩, ⟨("behind", none), "behind", "behind", defArgs s_behind, defBody s_behind, defScope s_behind, [], []⟩, ⟨("holds", none), "holds", "holds", defArgs s_holds, defBody s_holds, defScope s_holds, [], []⟩, ⟨("is_good", none), "is_good", "is_good", defArgs s_is_good, defBody s_is_good, defScope s_is_good, [], []⟩, ⟨("wrong_at", none), "wrong_at", "wrong_at", defArgs s_wrong_at, defBody s_wrong_at, defScope s_wrong_at, [], []⟩, ⟨("is_right", none), "is_right", "is_right", defArgs s_is_right, defBody s_is_right, defScope s_is_right, [], []⟩, ⟨("is_row_rights", none), "is_row", "is_row", defArgs s_is_row_rights, defBody s_is_row_rights, defScope s_is_row_rights, [], []⟩, ⟨("is_rights", none), "is_rights", "is_rights", defArgs s_is_rights, defBody s_is_rights, defScope s_is_rights, [], []⟩, ⟨("need_rights", none), "need_rights", "need_rights", defArgs s_need_rights, defBody s_need_rights, defScope s_need_rights, [], []⟩, ⟨("words_of", none), "words_of", "words_of", defArgs s_words_of, defBody s_words_of, defScope s_words_of, [], []⟩, ⟨("needs", none), "needs", "needs", defArgs s_needs, defBody s_needs, defScope s_needs, [], []⟩, ⟨("program_text", none), "program_text", "program_text", defArgs s_program_text, defBody s_program_text, defScope s_program_text, [], []⟩, ⟨("words_in", none), "words_in", "words_in", defArgs s_words_in, defBody s_words_in, defScope s_words_in, [], []⟩, ⟨("law", none), "law", "law", defArgs s_law, defBody s_law, defScope s_law, [], []⟩]
def fa : List He.Fa := [.glo "_law_door_pool", .glo "_law_page_pool", .glo "_law_drawn", .glo "_law_roll", .glo "_law_sorts", .glo "_law_any_order", .glo "_law_any_program", .glo "_law_is_one", .glo "_law_cell", .glo "_law_rounds", .glo "_law_term", .glo "_law_told", .glo "is_whole", .glo "is_number", .glo "is_word", .glo "is_part", .glo "is_instruction", .glo "is_program", .glo "need_program", .glo "goals_of", .glo "places_of", .glo "come_to", .glo "is_span", .glo "is_row_papers", .glo "is_form", .glo "need_room", .glo "need_asked", .glo "is_cell", .glo "with_span", .glo "passed", .glo "reckoned", .glo "behind", .glo "holds", .glo "is_good", .glo "wrong_at", .glo "is_right", .glo "is_row_rights", .glo "is_rights", .glo "need_rights", .glo "words_of", .glo "needs", .glo "program_text", .glo "words_in", .glo "law", .glo "ANY", .glo "BARE", .free "ValueError", .free "all", .free "bool", .free "int", .free "isinstance", .free "len", .free "list", .free "max", .free "min", .free "range", .free "str", .free "sum", .free "tuple", .free "zip", .int "FARTHEST" 999, .int "MOST_ROOM" 60, .str "SMALL" (Str.ofString "abcdefghijklmnopqrstuvwxyz"), .glo "FORMS", .exc "BadNumber", .glo "BadNumber", .exc "BadProgram", .glo "BadProgram", .exc "BadRights", .glo "BadRights", .glo "BadFeeds", .glo "BadPaper", .glo "BadName", .glo "Taken", .glo "NoName", .glo "TooMuch", .glo "Nothing", .glo "BadPicture", .glo "BadLog", .glo "BadText", .glo "CageError"]
def ts : List He.Tab := [(fun K => He.ga K "FORMS", lst_FORMS.map fun p => S p.1)]
def tf : List He.Defn := [("law", none)]
def ex (K : PySem.W.Frag) : Bool := toldB K && He.valsB K (He.ga K "FORMS") (tabV lst_FORMS) && tupGB K "ANY" (.tup [(.int (-999)), (.int 999)]) && tupGB K "BARE" (.tup [(.tup [(.int 0), (.int 0)]), (.tup [(.int 0), (.int 0)]), (.tup [(.int 0), (.int 0)]), (.tup [(.int 0), (.int 0)])])
abbrev R : PySem.W.OpenRow := PySem.W.OpenLaw.row PySem.Challenge.rw_cageworks_k01_whole_programs
abbrev hk : PySem.W.Hook := He.hookX 5 fa fn ts tf ex
def ob (s : PySem.W.SharedT) : He.AlX := He.obsX 5 fa fn ts tf ex (HandSHeadRun.getT s)
theorem ob_eq (s : PySem.W.SharedT) : ob s = hk.obs s.abs := He.obsX_eq (HandSHeadRun.getT_eq s)
def nm0 : List PySem.Str := ["CageError", "TooMuch", "BadProgram", "BadRights", "BadNumber", "BadFeeds", "BadPaper", "BadName", "Taken", "NoName", "Nothing", "BadPicture", "BadLog", "BadText", "SMALL", "FARTHEST", "FORMS", "is_whole", "is_number", "is_word", "is_part", "is_instruction", "is_program", "need_program", "goals_of", "places_of", "come_to", "words_of", "words_in", "MOST_ROOM"]
def nm1 : List PySem.Str := ["is_row", "is_row_rights", "is_rights", "need_rights", "need_room", "needs", "ANY", "BARE", "is_span", "is_row_papers", "is_form", "with_span", "reckoned", "passed", "is_cell", "behind", "holds", "is_good", "wrong_at", "need_asked", "is_right", "program_text", "_law_cell", "_law_drawn", "_law_roll", "_law_rounds", "_law_term", "_law_told", "_law_door_pool", "_law_page_pool"]
def nm2 : List PySem.Str := ["_law_sorts", "_law_any_order", "_law_any_program", "_law_is_one"]
def nms : List PySem.Str := nm0 ++ nm1 ++ nm2
theorem run_f (w : World) : HandSHeadRun.RunEq R (PySem.W.view R.prog [71]) hk ob 6000 nms (w.withFollow "special-get-raises" false) := by
  intro os
  kernel_rfl
theorem run_t (w : World) : HandSHeadRun.RunEq R (PySem.W.view R.prog [71]) hk ob 6000 nms (w.withFollow "special-get-raises" true) := by
  intro os
  kernel_rfl
theorem run (w : World) : HandSHeadRun.RunEq R (PySem.W.view R.prog [71]) hk ob 6000 nms w :=
  PySem.W.byRow2 "special-get-raises" (P := fun w => HandSHeadRun.RunEq R (PySem.W.view R.prog [71]) hk ob 6000 nms w) run_f run_t w
theorem facts {P : Program} {w : World} {K : PySem.W.Frag} {h base : Heap} {mg : Str → Option Value} (X : K.In h) (G : h.Ns mainGlobals mg) (c : He.SaysX fa fn ts tf ex w h K) (hT : ∀ p ∈ ([He.cT K ("law", none)] : List (Addr × Addr)), LamX.TabB base mg p.1 p.2) : Fx P w K [((He.cT K ("law", none)).2, Str.ofString "law.<locals>.<lambda>")] mg base := by
  have d := c.t.d
  have m := c.more
  simp only [ex, Bool.and_eq_true] at m
  exact {
    free := fun x hx => by
      simp only [List.mem_cons, List.not_mem_nil, or_false] at hx
      rcases hx with rfl | rfl | rfl | rfl | rfl | rfl | rfl | rfl | rfl | rfl | rfl | rfl | rfl | rfl
      · exact He.free_ok X G (d.fact 46)
      · exact He.free_ok X G (d.fact 47)
      · exact He.free_ok X G (d.fact 48)
      · exact He.free_ok X G (d.fact 49)
      · exact He.free_ok X G (d.fact 50)
      · exact He.free_ok X G (d.fact 51)
      · exact He.free_ok X G (d.fact 52)
      · exact He.free_ok X G (d.fact 53)
      · exact He.free_ok X G (d.fact 54)
      · exact He.free_ok X G (d.fact 55)
      · exact He.free_ok X G (d.fact 56)
      · exact He.free_ok X G (d.fact 57)
      · exact He.free_ok X G (d.fact 58)
      · exact He.free_ok X G (d.fact 59)
    gi_FARTHEST := He.int_ok X G (d.fact 60)
    gi_MOST_ROOM := He.int_ok X G (d.fact 61)
    gs_SMALL := He.str_ok X G (d.fact 62)
    kt_FORMS := ktab_of (He.glo_ok X G (d.fact 63)) (says_tab c.t 0) m.1.1.2
    tu_ANY := tupG_of (He.glo_ok X G (d.fact 44)) m.1.2
    tu_BARE := tupG_of (He.glo_ok X G (d.fact 45)) m.2
    xc_BadNumber := ⟨d.fact 64, He.glo_ok X G (d.fact 65)⟩
    xc_BadProgram := ⟨d.fact 66, He.glo_ok X G (d.fact 67)⟩
    xc_BadRights := ⟨d.fact 68, He.glo_ok X G (d.fact 69)⟩
    fd__law_door_pool := d.def_ 0
    mg__law_door_pool := He.glo_ok X G (d.fact 0)
    fd__law_page_pool := d.def_ 1
    mg__law_page_pool := He.glo_ok X G (d.fact 1)
    fd__law_drawn := d.def_ 2
    mg__law_drawn := He.glo_ok X G (d.fact 2)
    fd__law_roll := d.def_ 3
    mg__law_roll := He.glo_ok X G (d.fact 3)
    fd__law_sorts := d.def_ 4
    mg__law_sorts := He.glo_ok X G (d.fact 4)
    fd__law_any_order := d.def_ 5
    mg__law_any_order := He.glo_ok X G (d.fact 5)
    fd__law_any_program := d.def_ 6
    mg__law_any_program := He.glo_ok X G (d.fact 6)
    fd__law_is_one := d.def_ 7
    mg__law_is_one := He.glo_ok X G (d.fact 7)
    fd__law_cell := d.def_ 8
    mg__law_cell := He.glo_ok X G (d.fact 8)
    fd__law_rounds := d.def_ 9
    mg__law_rounds := He.glo_ok X G (d.fact 9)
    fd__law_term := d.def_ 10
    mg__law_term := He.glo_ok X G (d.fact 10)
    fd__law_told := d.def_ 11
    mg__law_told := He.glo_ok X G (d.fact 11)
    fd_is_whole := d.def_ 12
    mg_is_whole := He.glo_ok X G (d.fact 12)
    fd_is_number := d.def_ 13
    mg_is_number := He.glo_ok X G (d.fact 13)
    fd_is_word := d.def_ 14
    mg_is_word := He.glo_ok X G (d.fact 14)
    fd_is_part := d.def_ 15
    mg_is_part := He.glo_ok X G (d.fact 15)
    fd_is_instruction := d.def_ 16
    mg_is_instruction := He.glo_ok X G (d.fact 16)
    fd_is_program := d.def_ 17
    mg_is_program := He.glo_ok X G (d.fact 17)
    fd_need_program := d.def_ 18
    mg_need_program := He.glo_ok X G (d.fact 18)
    fd_goals_of := d.def_ 19
    mg_goals_of := He.glo_ok X G (d.fact 19)
    fd_places_of := d.def_ 20
    mg_places_of := He.glo_ok X G (d.fact 20)
    fd_come_to := d.def_ 21
    mg_come_to := He.glo_ok X G (d.fact 21)
    fd_is_span := d.def_ 22
    mg_is_span := He.glo_ok X G (d.fact 22)
    fd_is_row_papers := d.def_ 23
    mg_is_row_papers := He.glo_ok X G (d.fact 23)
    fd_is_form := d.def_ 24
    mg_is_form := He.glo_ok X G (d.fact 24)
    fd_need_room := d.def_ 25
    mg_need_room := He.glo_ok X G (d.fact 25)
    fd_need_asked := d.def_ 26
    mg_need_asked := He.glo_ok X G (d.fact 26)
    fd_is_cell := d.def_ 27
    mg_is_cell := He.glo_ok X G (d.fact 27)
    fd_with_span := d.def_ 28
    mg_with_span := He.glo_ok X G (d.fact 28)
    fd_passed := d.def_ 29
    mg_passed := He.glo_ok X G (d.fact 29)
    fd_reckoned := d.def_ 30
    mg_reckoned := He.glo_ok X G (d.fact 30)
    fd_behind := d.def_ 31
    mg_behind := He.glo_ok X G (d.fact 31)
    fd_holds := d.def_ 32
    mg_holds := He.glo_ok X G (d.fact 32)
    fd_is_good := d.def_ 33
    mg_is_good := He.glo_ok X G (d.fact 33)
    fd_wrong_at := d.def_ 34
    mg_wrong_at := He.glo_ok X G (d.fact 34)
    fd_is_right := d.def_ 35
    mg_is_right := He.glo_ok X G (d.fact 35)
    fd_is_row_rights := d.def_ 36
    mg_is_row_rights := He.glo_ok X G (d.fact 36)
    fd_is_rights := d.def_ 37
    mg_is_rights := He.glo_ok X G (d.fact 37)
    fd_need_rights := d.def_ 38
    mg_need_rights := He.glo_ok X G (d.fact 38)
    fd_words_of := d.def_ 39
    mg_words_of := He.glo_ok X G (d.fact 39)
    fd_needs := d.def_ 40
    mg_needs := He.glo_ok X G (d.fact 40)
    fd_program_text := d.def_ 41
    mg_program_text := He.glo_ok X G (d.fact 41)
    fd_words_in := d.def_ 42
    mg_words_in := He.glo_ok X G (d.fact 42)
    fd_law := d.def_ 43
    mg_law := He.glo_ok X G (d.fact 43)
    told := toldB_ok m.1.1.1
    mgC := fun x hx => by
      simp only [kinds13, List.cons_append, List.nil_append, List.mem_cons, List.not_mem_nil, or_false] at hx
      rcases hx with rfl | rfl | rfl | rfl | rfl | rfl | rfl | rfl | rfl | rfl | rfl | rfl | rfl | rfl
      · exact He.glo_ok X G (d.fact 67)
      · exact He.glo_ok X G (d.fact 69)
      · exact He.glo_ok X G (d.fact 65)
      · exact He.glo_ok X G (d.fact 70)
      · exact He.glo_ok X G (d.fact 71)
      · exact He.glo_ok X G (d.fact 72)
      · exact He.glo_ok X G (d.fact 73)
      · exact He.glo_ok X G (d.fact 74)
      · exact He.glo_ok X G (d.fact 75)
      · exact He.glo_ok X G (d.fact 76)
      · exact He.glo_ok X G (d.fact 77)
      · exact He.glo_ok X G (d.fact 78)
      · exact He.glo_ok X G (d.fact 79)
      · exact He.glo_ok X G (d.fact 80)
    lamt_law := ⟨(He.cT K ("law", none)).2, hT (He.cT K ("law", none)) (by simp), by simp, fun p hp e => by
      rw [List.mem_singleton] at hp
      rw [hp]⟩ }
theorem cx_none {P : Program} {w : World} {o : List Env} {H : Hp} {s : Shared} {e : Value} {t : Shared} (z : L2N.CX P w o H s (fun _ _ _ => False) e t) : False := by
  obtain ⟨_, _, _, _, _, _, _, _, _, _, _, _, z⟩ := z
  exact z
theorem lawAt {w : World} {K : PySem.W.Frag} {h : Heap} {mg : Str → Option Value} {fa : Addr} (X : K.In h) (G : h.Ns mainGlobals mg) (hmg : mg ("law" : Str) = some (.ref fa)) (c : He.SaysX K01.fa fn ts tf ex w h K) : LawAtS PySem.Challenge.rw_cageworks_k01_whole_programs w K (L2N.CX (PySem.Challenge.rw_cageworks_k01_whole_programs).prog w) 11 63 "script" mg fa h := by
  obtain ⟨fd, F⟩ := c.t.d.def_ 43
  have e := hmg.symm.trans (He.glo_ok X G (c.t.d.fact 43 (f := .glo "law") rfl))
  cases e
  have b := FunD.bindsA (ps := ["script"]) F fun _ _ _ _ _ _ us hl => match us, hl with | [_], _ => rfl
  refine ⟨fd, [He.cT K ("law", none)], liftSp K [((He.cT K ("law", none)).2, Str.ofString "law.<locals>.<lambda>")] sp_law, ?_, ?_, ?_, fun s v => b s [v] rfl, fun H a ns hl _ hH hS => law_sp (fun p hp => by
      rw [List.mem_singleton] at hp
      subst hp
      exact TabS.nil (hH (He.cT K ("law", none)) (by simp))) hS (plain ns (Nat.le_trans hl (by decide))), fun base _ _ hT => law_fn (facts X G c hT) F⟩
  · intro p hp
    exact by
        rw [List.mem_singleton] at hp
        subst hp
        exact c.empty ("law", none) (by simp [tf])
  · intro p hp
    exact by
        rw [List.mem_singleton] at hp
        subst hp
        exact c.out ("law", none) (by simp [tf])
  · intro p hp
    exact by
        rw [List.mem_singleton] at hp
        subst hp
        exact PySem.W.codeHd_of_K X (c.hd ("law", none) (by simp [tf]))
end K01
open PySem PySem.W PySem.Calls PyProof.Rows DL in
theorem K01.holds : PySem.Challenge.rw_cageworks_k01_whole_programs.Holds := by
  w_on; o_law
  refine HandSHeadRun.head_any (r := OpenLaw.row PySem.Challenge.rw_cageworks_k01_whole_programs) (q := view (OpenLaw.row PySem.Challenge.rw_cageworks_k01_whole_programs).prog [71]) (H := K01.hk) (ob := K01.ob) (M := 6000) (loose := K01.nms) (d := HandSHeadRun.topDef (OpenLaw.row PySem.Challenge.rw_cageworks_k01_whole_programs).prog 71) (kwd := []) K01.ob_eq
    (by kernel_rfl) (fun s => by kernel_rfl) K01.run (by kernel_rfl) (by kernel_rfl) (by kernel_rfl) (by rfl) (by first | assumption | decide +kernel) (by decide +kernel) ⟨rfl, rfl, rfl, rfl, rfl, by decide +kernel⟩ ?hw ?hc
  case hw => w_witness2
  case hc =>
    refine LamX.walk_ofTsE (l := PySem.Challenge.rw_cageworks_k01_whole_programs) (n := 63) (k := 11) (x := "script") (CX := fun w => L2N.CX (PySem.Challenge.rw_cageworks_k01_whole_programs).prog w) rfl (by decide) (by kernel_rfl) ⟨rfl, by decide, by decide⟩ ?F (fun _ _ _ _ _ z => K01.cx_none z)
    intro w mg fa h Y G hmg0
    obtain ⟨K, KX, c⟩ := Y
    have hmg : mg ("law" : PySem.Str) = some (.ref fa) := by
      have e : (HandSHeadRun.topDef (OpenLaw.row PySem.Challenge.rw_cageworks_k01_whole_programs).prog 71).name = ("law" : PySem.Str) := by kernel_rfl
      rw [← e]
      exact hmg0
    exact ⟨K, KX, K01.lawAt KX G hmg c⟩

theorem PySem.Challenge.cw_cageworks_k01_whole_programs_holds : PySem.Challenge.rw_cageworks_k01_whole_programs.Holds := by
  exact K01.holds
