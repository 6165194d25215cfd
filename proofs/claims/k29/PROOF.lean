import PyProof.Rows.All
import Wide.All
import OpenK.AllK
import Wide.FinOn
import HandS.ForMost
import HandS.ForExc
import HandS.Zip
import HandS.More
import HandS.IsInst
import HandS.Wide
import HandS.HeadHook4
import HandS.HeadWalk
import HandS.TryMany
import HandS.ExcCtx
import HandS.Lambda
import HandS.TupAny
import HandS.TupMul
import HandS.TupLe
import HandS.Deep
import KE.GoesNew
import HandS.HotCalls
import HandS.ExcIs
import HandS.ExcField
import PyProof.CollectIter
import HandS.Small
import HandS.Text
import HandS.RaiseMore
import HandS.ExcInitHot
import HandS.HeadEnd
import HandS.Head2
import HandS.NestedK
import PySem.Challenge.RW_cageworks_k29_texts_refused
set_option Elab.async false
set_option linter.all false
set_option maxRecDepth 100000
set_option maxHeartbeats 0
namespace DL
open PySem PySem.Spec PyProof.Rows L2

/-! ### deep values, the tracked heap -/
inductive D where
  | non | bl (b : Bool) | int (i : Int) | str (s : String)
  | tup (xs : List D) | lst (xs : List D) | dct (kvs : List (D × D)) | ref (a : Addr) | scr (ns : List Int)

inductive DO where
  | lst (xs : List D) | dct (kvs : List (D × D)) | ins (c : String) (fs : List (String × D))
abbrev DG := Addr → Option DO
def gset (G : DG) (a : Addr) (o : Option DO) : DG := fun b => if b = a then o else G b
theorem gset_same {G : DG} {a : Addr} {o : Option DO} : gset G a o a = o := by unfold gset; rw [if_pos rfl]
theorem gset_ne {G : DG} {a b : Addr} {o : Option DO} (h : b ≠ a) : gset G a o b = G b := by unfold gset; rw [if_neg h]

abbrev S (s : String) : Str := Str.ofString s
def keyOf : D → Option Key
  | .int i => some (.inl i)
  | .str s => some (.inr (S s))
  | _ => none

def KTup (K : PySem.W.Frag) (a : Addr) (xs : List V) : Prop :=
  ∃ (o : Obj) (its : Array Value) (n : Nat), K.lookup a = some o ∧ o.cls = .type "tuple" ∧ o.data = .seq its n ∧ its.size ≤ sizeLine ∧ Vals xs its.toList
/-- the frozen addresses (told by no transformer) -/
abbrev FS := Addr → Prop
def fadd (F : FS) (p : Addr) : FS := fun a => a = p ∨ F a
/-- what stands there, locked or not -/
def strip : HO → HO
  | .frz _ u => u
  | u => u
def Rs (H : Hp) (a : Addr) (u : HO) : Prop := ∃ o, H a = some o ∧ strip o = u
theorem Rs.rd {H : Hp} {a : Addr} {u : HO} (h : Rs H a u) : Rd H a u := by
  obtain ⟨o, h, e⟩ := h
  cases o <;> first | exact .inl (by rw [h, ← e]; rfl) | exact .inr ⟨_, by rw [h, ← e]; rfl⟩
theorem Rs.of {H : Hp} {a : Addr} {u : HO} (h : H a = some u) (e : strip u = u := by rfl) : Rs H a u := ⟨u, h, e⟩
/-- data: a list, a tuple, a dict -/
def isDat : HO → Bool
  | .lst _ => true
  | .tup _ => true
  | .dK _ => true
  | _ => false
/-- no table, no code -/
def plainO : HO → Bool
  | .tbl _ => false
  | .ext _ => false
  | _ => true
theorem isDat_own {u : HO} (h : isDat u = true) (b : Addr) : u ≠ .own b := fun z => by rw [z] at h; cases h
theorem plain_dat {u : HO} (h : isDat (strip u) = true) : plainO u = true := by cases u <;> first | rfl | cases h
theorem dat_plain {u : HO} (h : isDat u = true) : plainO u = true := by cases u <;> first | rfl | cases h
abbrev LT := List (Addr × Str)
theorem tabs_upd {T : LT} {H : Hp} {a : Addr} {u : HO} (t : LamX.Tabs T H) (h : ∀ o, H a = some o → plainO o = true) : LamX.Tabs T (upd H a u) := fun p hp => by
  obtain ⟨ps, e, tr, cs⟩ := t p hp
  have hp1 : p.1 ≠ a := fun z => by
    have := h _ (z ▸ e)
    cases this
  refine ⟨ps, by rw [upd_ne hp1]; exact e, tr, fun pos cv hc => ?_⟩
  obtain ⟨c, ec, hcd⟩ := cs pos cv hc
  have hc1 : c ≠ a := fun z => by
    have := h _ (z ▸ hcd)
    cases this
  exact ⟨c, ec, by rw [upd_ne hc1]; exact hcd⟩
theorem tabs_new {T : LT} {H : Hp} {a : Addr} {u : HO} (t : LamX.Tabs T H) (h : H a = none) : LamX.Tabs T (upd H a u) := tabs_upd t fun o e => by rw [h] at e; cases e
def KLst (K : PySem.W.Frag) (a : Addr) (xs : List V) : Prop :=
  ∃ (o : Obj) (its : Array Value) (n : Nat), K.lookup a = some o ∧ o.cls = .type "list" ∧ o.dict = none ∧ o.data = .seq its n ∧ its.size ≤ sizeLine ∧ Vals xs its.toList
def TupAt (K : PySem.W.Frag) (F : FS) (H : Hp) (a : Addr) (vs : List V) : Prop := (Rs H a (.tup vs) ∧ F a) ∨ KTup K a vs
def LstAt (F : FS) (H : Hp) (a : Addr) (vs : List V) : Prop := Rs H a (.lst vs) ∧ F a
def DctAt (F : FS) (H : Hp) (a : Addr) (ws : List (Key × V)) : Prop := Rs H a (.dK ws) ∧ F a

mutual
def RelD (K : PySem.W.Frag) (F : FS) (H : Hp) : D → V → Prop
  | .non, v => v = .non
  | .bl b, v => v = .bl b
  | .int i, v => v = .int i
  | .str s, v => v = .str (S s)
  | .tup xs, v => ∃ a vs, v = .ref a ∧ TupAt K F H a vs ∧ RelDs K F H xs vs
  | .lst xs, v => ∃ a vs, v = .ref a ∧ LstAt F H a vs ∧ RelDs K F H xs vs
  | .dct kvs, v => ∃ a ws, v = .ref a ∧ DctAt F H a ws ∧ RelKs K F H kvs ws
  | .ref a, v => v = .ref a
  | .scr ns, v => ∃ a, v = .ref a ∧ ((Rs H a (.lst (ns.map V.int)) ∧ F a) ∨ KLst K a (ns.map V.int))
def RelDs (K : PySem.W.Frag) (F : FS) (H : Hp) : List D → List V → Prop
  | [], vs => vs = []
  | x :: xs, vs => ∃ v r, vs = v :: r ∧ RelD K F H x v ∧ RelDs K F H xs r
def RelKs (K : PySem.W.Frag) (F : FS) (H : Hp) : List (D × D) → List (Key × V) → Prop
  | [], ws => ws = []
  | (k, x) :: r, ws => ∃ key v ws', ws = (key, v) :: ws' ∧ keyOf k = some key ∧ RelD K F H x v ∧ RelKs K F H r ws'
end

/-- frozen things stay; so do private ones (neither frozen nor tracked), and they stay private -/
structure Step (F : FS) (G : DG) (H : Hp) (F' : FS) (G' : DG) (H' : Hp) : Prop where
  fz : ∀ a o, F a → H a = some o → F' a ∧ Rs H' a (strip o)
  pv : ∀ a o, ¬ F a → G a = none → H a = some o → plainO o = true → ¬ F' a ∧ G' a = none ∧ H' a = some o
theorem Step.refl {F : FS} {G : DG} {H : Hp} : Step F G H F G H := ⟨fun _ o f h => ⟨f, o, h, rfl⟩, fun _ _ f g h _ => ⟨f, g, h⟩⟩
theorem Step.trans {F F1 F2 : FS} {G G1 G2 : DG} {H H1 H2 : Hp} (a : Step F G H F1 G1 H1) (b : Step F1 G1 H1 F2 G2 H2) : Step F G H F2 G2 H2 :=
  ⟨fun x o f h => let ⟨f1, o1, h1, e1⟩ := a.fz x o f h; e1 ▸ b.fz x o1 f1 h1, fun x o f g h p => let ⟨f1, g1, h1⟩ := a.pv x o f g h p; b.pv x o f1 g1 h1 p⟩

/-- what frozen values lean on stands in another heap -/
def Kept (F : FS) (H : Hp) (F' : FS) (H' : Hp) : Prop := ∀ a o, F a → H a = some o → F' a ∧ Rs H' a (strip o)
section
variable {K : PySem.W.Frag} {F F' : FS} {H H' : Hp}
theorem Rs.kept {a : Addr} {u : HO} (s : Kept F H F' H') (r : Rs H a u) (f : F a) : Rs H' a u ∧ F' a := by
  obtain ⟨o, h, e⟩ := r
  obtain ⟨f1, h1⟩ := s a o f h
  rw [e] at h1
  exact ⟨h1, f1⟩
theorem TupAt.kept {a : Addr} {vs : List V} (s : Kept F H F' H') (h : TupAt K F H a vs) : TupAt K F' H' a vs := by
  rcases h with ⟨h, g⟩ | h
  · exact .inl (Rs.kept s h g)
  · exact .inr h
theorem LstAt.kept {a : Addr} {vs : List V} (s : Kept F H F' H') (h : LstAt F H a vs) : LstAt F' H' a vs := Rs.kept s h.1 h.2
theorem DctAt.kept {a : Addr} {ws : List (Key × V)} (s : Kept F H F' H') (h : DctAt F H a ws) : DctAt F' H' a ws := Rs.kept s h.1 h.2
mutual
theorem RelD.kept (s : Kept F H F' H') : ∀ (d : D) {v : V}, RelD K F H d v → RelD K F' H' d v
  | .non, _, h => h
  | .bl _, _, h => h
  | .int _, _, h => h
  | .str _, _, h => h
  | .tup xs, _, ⟨a, vs, e, t, r⟩ => ⟨a, vs, e, t.kept s, RelDs.kept s xs r⟩
  | .lst xs, _, ⟨a, vs, e, t, r⟩ => ⟨a, vs, e, t.kept s, RelDs.kept s xs r⟩
  | .dct kvs, _, ⟨a, vs, e, t, r⟩ => ⟨a, vs, e, t.kept s, RelKs.kept s kvs r⟩
  | .ref _, _, h => h
  | .scr ns, _, ⟨a, e, t⟩ => ⟨a, e, t.imp (fun t => Rs.kept s t.1 t.2) id⟩
theorem RelDs.kept (s : Kept F H F' H') : ∀ (ds : List D) {vs : List V}, RelDs K F H ds vs → RelDs K F' H' ds vs
  | [], _, h => h
  | x :: xs, _, ⟨v, r, e, h, t⟩ => ⟨v, r, e, RelD.kept s x h, RelDs.kept s xs t⟩
theorem RelKs.kept (s : Kept F H F' H') : ∀ (ds : List (D × D)) {ws : List (Key × V)}, RelKs K F H ds ws → RelKs K F' H' ds ws
  | [], _, h => h
  | (k, x) :: xs, _, ⟨key, v, r, e, ek, h, t⟩ => ⟨key, v, r, e, ek, RelD.kept s x h, RelKs.kept s xs t⟩
end
theorem RelD.step {G G' : DG} (s : Step F G H F' G' H') (d : D) {v : V} (h : RelD K F H d v) : RelD K F' H' d v := RelD.kept s.fz d h
theorem RelDs.step {G G' : DG} (s : Step F G H F' G' H') (d : List D) {v : List V} (h : RelDs K F H d v) : RelDs K F' H' d v := RelDs.kept s.fz d h
theorem RelKs.step {G G' : DG} (s : Step F G H F' G' H') (d : List (D × D)) {v : List (Key × V)} (h : RelKs K F H d v) : RelKs K F' H' d v := RelKs.kept s.fz d h
end

def RelFs (K : PySem.W.Frag) (F : FS) (H : Hp) : List (String × D) → List (Str × V) → Prop
  | [], ws => ws = []
  | (f, x) :: r, ws => ∃ v ws', ws = (S f, v) :: ws' ∧ RelD K F H x v ∧ RelFs K F H r ws'
def RelO (K : PySem.W.Frag) (F : FS) (G : DG) (H : Hp) : DO → Option HO → Prop
  | .lst xs, ho => ∃ vs, ho = some (.lst vs) ∧ RelDs K F H xs vs
  | .dct kvs, ho => ∃ ws, ho = some (.dK ws) ∧ RelKs K F H kvs ws
  | .ins c fs, ho => ∃ dx ws, ho = some (.ins (He.ga K (S c)) dx ws) ∧ G dx = none ∧ ¬ F dx ∧ (∃ b, H dx = some (.own b)) ∧ RelFs K F H fs ws
structure RelG (K : PySem.W.Frag) (T : LT) (F : FS) (G : DG) (H : Hp) : Prop where
  fz : ∀ a, F a → G a = none ∧ ∃ o, H a = some o ∧ isDat (strip o) = true
  tb : LamX.Tabs T H
  ob : ∀ a o, G a = some o → RelO K F G H o (H a)
def RelSt (K : PySem.W.Frag) (F : FS) (H : Hp) (env : List (Option D)) (σ : L2.St) : Prop :=
  env.length = σ.length ∧ ∀ (i : Nat) (d : D), env[i]? = some (some d) → ∃ v, σ[i]? = some (some v) ∧ RelD K F H d v

section
variable {K : PySem.W.Frag} {T : LT} {F F' : FS} {G G' : DG} {H H' : Hp}
theorem RelFs.kept (s : Kept F H F' H') : ∀ (fs : List (String × D)) {ws : List (Str × V)}, RelFs K F H fs ws → RelFs K F' H' fs ws
  | [], _, h => h
  | (f, x) :: xs, _, ⟨v, r, e, h, t⟩ => ⟨v, r, e, RelD.kept s x h, RelFs.kept s xs t⟩
theorem RelFs.step (s : Step F G H F' G' H') (fs : List (String × D)) {ws : List (Str × V)} (h : RelFs K F H fs ws) : RelFs K F' H' fs ws := RelFs.kept s.fz fs h
theorem RelO.step (s : Step F G H F' G' H') {o : DO} {ho : Option HO} (h : RelO K F G H o ho) : RelO K F' G' H' o ho := by
  cases o with
  | lst xs => obtain ⟨vs, e, r⟩ := h; exact ⟨vs, e, RelDs.step s xs r⟩
  | dct xs => obtain ⟨vs, e, r⟩ := h; exact ⟨vs, e, RelKs.step s xs r⟩
  | ins c fs =>
    obtain ⟨dx, ws, e, g, f, ⟨b, q⟩, r⟩ := h
    obtain ⟨f1, g1, h1⟩ := s.pv dx _ f g q rfl
    exact ⟨dx, ws, e, g1, f1, ⟨b, h1⟩, RelFs.step s fs r⟩
theorem RelSt.step (s : Step F G H F' G' H') {env : List (Option D)} {σ : L2.St} (h : RelSt K F H env σ) : RelSt K F' H' env σ :=
  ⟨h.1, fun i d e => let ⟨v, e1, r⟩ := h.2 i d e; ⟨v, e1, RelD.step s d r⟩⟩
theorem RelG.obj {a : Addr} {o : DO} (h : RelG K T F G H) (e : G a = some o) : ∃ u, H a = some u ∧ plainO u = true := by
  have r := h.ob a o e
  cases o with
  | lst xs => obtain ⟨vs, e, _⟩ := r; exact ⟨_, e, rfl⟩
  | dct xs => obtain ⟨vs, e, _⟩ := r; exact ⟨_, e, rfl⟩
  | ins c fs => obtain ⟨dx, ws, e, _⟩ := r; exact ⟨_, e, rfl⟩
theorem RelG.free {a : Addr} (h : RelG K T F G H) (e : H a = none) : G a = none := by
  cases q : G a with
  | none => rfl
  | some o => obtain ⟨u, z, _⟩ := h.obj q; rw [e] at z; cases z
theorem RelG.nof {a : Addr} (h : RelG K T F G H) (e : H a = none) : ¬ F a := fun f => by
  obtain ⟨_, o, z, _⟩ := h.fz a f
  rw [e] at z; cases z
/-- a new frozen object -/
theorem Step.new {a : Addr} {u : HO} (hn : H a = none) : Step F G H (fadd F a) G (upd H a u) :=
  ⟨fun b o f e => ⟨.inr f, o, by rw [upd_ne (ne_of_none e hn)]; exact e, rfl⟩, fun b o f g e _ => ⟨fun z => z.elim (ne_of_none e hn) f, g, by rw [upd_ne (ne_of_none e hn)]; exact e⟩⟩
/-- a new private object -/
theorem Step.priv {a : Addr} {u : HO} (hn : H a = none) : Step F G H F G (upd H a u) :=
  ⟨fun b o f e => ⟨f, o, by rw [upd_ne (ne_of_none e hn)]; exact e, rfl⟩, fun b o f g e _ => ⟨f, g, by rw [upd_ne (ne_of_none e hn)]; exact e⟩⟩
theorem RelG.to (h : RelG K T F G H) (s : Step F G H F' G H') (hf : ∀ a, F' a → F a ∨ (G a = none ∧ ∃ o, H' a = some o ∧ isDat (strip o) = true)) (ht : LamX.Tabs T H') (ho : ∀ a o, G a = some o → H' a = H a) : RelG K T F' G H' := by
  refine ⟨fun a f => ?_, ht, fun a o e => ?_⟩
  · rcases hf a f with f | f
    · obtain ⟨g, o, z, d⟩ := h.fz a f
      obtain ⟨_, o', z', e'⟩ := s.fz a o f z
      exact ⟨g, o', z', by rw [e']; exact d⟩
    · exact f
  · rw [ho a o e]
    exact (h.ob a o e).step s
theorem RelG.new {a : Addr} {u : HO} (h : RelG K T F G H) (hn : H a = none) (hu : isDat (strip u) = true := by rfl) : RelG K T (fadd F a) G (upd H a u) :=
  h.to (Step.new hn) (fun b f => f.elim (fun e => .inr ⟨by rw [e]; exact h.free hn, u, by rw [e, upd_same], hu⟩) .inl) (tabs_new h.tb hn) fun b o e => upd_ne (by
    obtain ⟨w, z, _⟩ := h.obj e
    exact ne_of_none z hn)
theorem RelG.priv {a : Addr} {u : HO} (h : RelG K T F G H) (hn : H a = none) : RelG K T F G (upd H a u) :=
  h.to (Step.priv hn) (fun b f => .inl f) (tabs_new h.tb hn) fun b o e => upd_ne (by
    obtain ⟨w, z, _⟩ := h.obj e
    exact ne_of_none z hn)
/-- a new tracked object, or one that is written -/
theorem Step.set {a : Addr} {o : Option DO} {u : HO} (hg : RelG K T F G H) (h : H a = none ∨ G a ≠ none) : Step F G H F (gset G a o) (upd H a u) := by
  refine ⟨fun b w f e => ?_, fun b w f g e _ => ?_⟩
  · have hb : b ≠ a := fun z => by
      subst z
      rcases h with h | h
      · rw [e] at h; cases h
      · exact h (hg.fz b f).1
    exact ⟨f, w, by rw [upd_ne hb]; exact e, rfl⟩
  · have hb : b ≠ a := fun z => by
      subst z
      rcases h with h | h
      · rw [e] at h; cases h
      · exact h g
    exact ⟨f, by rw [gset_ne hb]; exact g, by rw [upd_ne hb]; exact e⟩
theorem RelG.plain {a : Addr} (h : RelG K T F G H) (hs : H a = none ∨ G a ≠ none) : ∀ o, H a = some o → plainO o = true := fun o e => by
  rcases hs with q | q
  · rw [q] at e; cases e
  · cases z : G a with
    | none => exact absurd z q
    | some w =>
      obtain ⟨u, eu, pu⟩ := h.obj z
      rw [e] at eu
      cases eu
      exact pu
theorem RelG.set {a : Addr} {o : DO} {u : HO} (h : RelG K T F G H) (hs : H a = none ∨ G a ≠ none) (r : RelO K F (gset G a (some o)) (upd H a u) o (some u)) : RelG K T F (gset G a (some o)) (upd H a u) := by
  have s : Step F G H F (gset G a (some o)) (upd H a u) := Step.set h hs
  refine ⟨fun b f => ?_, tabs_upd h.tb (h.plain hs), fun b w e => ?_⟩
  · have hb : b ≠ a := fun z => by
      subst z
      rcases hs with q | q
      · exact h.nof q f
      · exact q (h.fz b f).1
    obtain ⟨g, w, z, d⟩ := h.fz b f
    exact ⟨by rw [gset_ne hb]; exact g, w, by rw [upd_ne hb]; exact z, d⟩
  · by_cases hb : b = a
    · subst hb
      rw [gset_same] at e
      cases e
      rw [upd_same]
      exact r
    · rw [gset_ne hb] at e
      rw [upd_ne hb]
      exact (h.ob b w e).step s
/-- a private object is written; becomes frozen; becomes tracked -/
theorem RelO.kept (s : Kept F H F' H') (hp : ∀ a b, ¬ F a → G a = none → H a = some (.own b) → ¬ F' a ∧ G' a = none ∧ H' a = some (.own b)) {o : DO} {ho : Option HO} (h : RelO K F G H o ho) : RelO K F' G' H' o ho := by
  cases o with
  | lst xs => obtain ⟨vs, e, r⟩ := h; exact ⟨vs, e, RelDs.kept s xs r⟩
  | dct xs => obtain ⟨vs, e, r⟩ := h; exact ⟨vs, e, RelKs.kept s xs r⟩
  | ins c fs =>
    obtain ⟨dx, ws, e, g, f, ⟨b, q⟩, r⟩ := h
    obtain ⟨f1, g1, h1⟩ := hp dx b f g q
    exact ⟨dx, ws, e, g1, f1, ⟨b, h1⟩, RelFs.kept s fs r⟩
theorem kept_wr {a : Addr} {u : HO} (hf : ¬ F a) : Kept F H F (upd H a u) := fun b o f e => ⟨f, o, by rw [upd_ne (fun (z : b = a) => hf (z ▸ f))]; exact e, rfl⟩
theorem RelG.wr {a : Addr} {u0 u : HO} (h : RelG K T F G H) (hf : ¬ F a) (hg : G a = none) (e0 : H a = some u0) (hu : isDat u0 = true) : RelG K T F G (upd H a u) := by
  refine ⟨fun b f => ?_, tabs_upd h.tb (fun o e => by rw [e0] at e; cases e; exact dat_plain hu), fun b o e => ?_⟩
  · obtain ⟨g, o, z, d⟩ := h.fz b f
    obtain ⟨_, o', z', e'⟩ := kept_wr (u := u) hf b o f z
    exact ⟨g, o', z', by rw [e']; exact d⟩
  · rw [upd_ne (fun z => by rw [z, hg] at e; cases e)]
    refine RelO.kept (kept_wr hf) (fun c d f g q => ⟨f, g, ?_⟩) (h.ob b o e)
    rw [upd_ne (fun z => by rw [z, e0] at q; cases q; exact isDat_own hu d rfl)]
    exact q
theorem Step.wr {F0 : FS} {G0 : DG} {H0 : Hp} {a : Addr} {u : HO} (s : Step F0 G0 H0 F G H) (h0 : H0 a = none) : Step F0 G0 H0 F G (upd H a u) :=
  ⟨fun b o f e => ⟨(s.fz b o f e).1, by unfold Rs; rw [upd_ne (ne_of_none e h0)]; exact (s.fz b o f e).2⟩, fun b o f g e p => ⟨(s.pv b o f g e p).1, (s.pv b o f g e p).2.1, by rw [upd_ne (ne_of_none e h0)]; exact (s.pv b o f g e p).2.2⟩⟩
theorem RelG.frz {a : Addr} {u0 : HO} (h : RelG K T F G H) (hg : G a = none) (e0 : H a = some u0) (hu : isDat u0 = true) : RelG K T (fadd F a) G H := by
  refine ⟨fun b f => ?_, h.tb, fun b o e => ?_⟩
  · rcases f with rfl | f
    · exact ⟨hg, u0, e0, by cases u0 <;> first | exact hu | cases hu⟩
    · exact h.fz b f
  · refine RelO.kept (fun b o f e => ⟨.inr f, o, e, rfl⟩) (fun c d f g q => ⟨fun z => z.elim (fun z => ?_) f, g, q⟩) (h.ob b o e)
    rw [z, e0] at q; cases q; exact isDat_own hu d rfl
theorem Step.frz {F0 : FS} {G0 : DG} {H0 : Hp} {a : Addr} (s : Step F0 G0 H0 F G H) (h0 : H0 a = none) : Step F0 G0 H0 (fadd F a) G H :=
  ⟨fun b o f e => ⟨.inr (s.fz b o f e).1, (s.fz b o f e).2⟩, fun b o f g e p => ⟨fun z => z.elim (ne_of_none e h0) (s.pv b o f g e p).1, (s.pv b o f g e p).2⟩⟩
theorem RelG.trk {a : Addr} {u0 : HO} {o : DO} (h : RelG K T F G H) (hf : ¬ F a) (hg : G a = none) (e0 : H a = some u0) (hu : isDat u0 = true) (r : RelO K F (gset G a (some o)) H o (some u0)) : RelG K T F (gset G a (some o)) H := by
  refine ⟨fun b f => ⟨?_, (h.fz b f).2⟩, h.tb, fun b w e => ?_⟩
  · rw [gset_ne (fun (z : b = a) => hf (z ▸ f))]; exact (h.fz b f).1
  · by_cases hb : b = a
    · subst hb
      rw [gset_same] at e
      cases e
      rw [e0]
      exact r
    · rw [gset_ne hb] at e
      refine RelO.kept (fun b o f e => ⟨f, o, e, rfl⟩) (fun c d f g q => ⟨f, ?_, q⟩) (h.ob b w e)
      rw [gset_ne (fun z => by rw [z, e0] at q; cases q; exact isDat_own hu d rfl)]
      exact g
theorem Step.trk {F0 : FS} {G0 : DG} {H0 : Hp} {a : Addr} {o : Option DO} (s : Step F0 G0 H0 F G H) (h0 : H0 a = none) : Step F0 G0 H0 F (gset G a o) H :=
  ⟨s.fz, fun b w f g e p => ⟨(s.pv b w f g e p).1, by rw [gset_ne (ne_of_none e h0)]; exact (s.pv b w f g e p).2.1, (s.pv b w f g e p).2.2⟩⟩
/-- forgetting -/
theorem gsub_none (hs : ∀ a o, G' a = some o → G a = some o) {b : Addr} (g : G b = none) : G' b = none := by
  cases q : G' b with
  | none => rfl
  | some z => rw [hs b z q] at g; cases g
theorem Step.sub (hs : ∀ a o, G' a = some o → G a = some o) : Step F G H F G' H := ⟨fun b w f e => ⟨f, w, e, rfl⟩, fun b w f g e _ => ⟨f, gsub_none hs g, e⟩⟩
theorem RelG.sub (h : RelG K T F G H) (hs : ∀ a o, G' a = some o → G a = some o) : RelG K T F G' H :=
  ⟨fun a f => ⟨gsub_none hs (h.fz a f).1, (h.fz a f).2⟩, h.tb, fun a o e => (h.ob a o (hs a o e)).step (Step.sub hs)⟩
theorem RelSt.get {env : List (Option D)} {σ : L2.St} {i : Nat} {d : D} (h : RelSt K F H env σ) (e : env[i]? = some (some d)) : ∃ v, σ[i]? = some (some v) ∧ RelD K F H d v := h.2 i d e
theorem RelSt.set {env : List (Option D)} {σ : L2.St} {i : Nat} {d : D} {v : V} (h : RelSt K F H env σ) (r : RelD K F H d v) : RelSt K F H (env.set i (some d)) (σ.set i (some v)) := by
  refine ⟨by simp [h.1], fun j d' e => ?_⟩
  by_cases hj : i = j
  · subst hj
    by_cases hi : i < env.length
    · rw [List.getElem?_set_self hi] at e
      cases e
      exact ⟨v, by rw [List.getElem?_set_self (by rw [← h.1]; exact hi)], r⟩
    · rw [List.getElem?_eq_none (by simpa using hi)] at e; cases e
  · rw [List.getElem?_set_ne hj] at e ⊢
    exact h.2 j d' e
end

/-! ### transformers and their lifts -/
abbrev DSt := List (Option D)
abbrev DK := D → DG → Prop
abbrev DX := String × Option D
abbrev DXK := DX → DSt → DG → Prop
abbrev DTE := DXK → DSt → DG → DK → Prop
abbrev DTT := DXK → DSt → DG → (Bool → DG → Prop) → Prop
abbrev DTA := DXK → DSt → DG → (List D → DG → Prop) → Prop
structure DEnds where
  nx : DSt → DG → Prop
  rt : DK
abbrev DTS := DXK → DEnds → DSt → DG → Prop

def RelX (K : PySem.W.Frag) (F : FS) (H : Hp) : DX → Value → Option Addr → Prop
  | (c, none), cls, d => cls = .ref (He.ga K (S c)) ∧ d = none
  | (c, some x), cls, d => cls = .ref (He.ga K (S c)) ∧ ∃ dd v, d = some dd ∧ H dd = some (.xd [(S "excess", v)]) ∧ RelD K F H x v
def XOk (K : PySem.W.Frag) (T : LT) (W : WX) (E : DXK) (F : FS) (G : DG) (H : Hp) : Prop :=
  ∀ x env' F' G' cls d σ' H', E x env' G' → Step F G H F' G' H' → RelG K T F' G' H' → RelSt K F' H' env' σ' → RelX K F' H' x cls d → W cls d σ' H'
theorem XOk.step {K : PySem.W.Frag} {T : LT} {W : WX} {E : DXK} {F F' : FS} {G G' : DG} {H H' : Hp} (x : XOk K T W E F G H) (s : Step F G H F' G' H') : XOk K T W E F' G' H' := fun a b c d e f g h i j k l m => x a b c d e f g h i (s.trans j) k l m

def liftE (K : PySem.W.Frag) (T : LT) (W : WX) (t : DTE) : TE := fun σ H Q => ∃ env F G E P, RelG K T F G H ∧ RelSt K F H env σ ∧ XOk K T W E F G H ∧ t E env G P ∧
  ∀ d F' G' v H', P d G' → Step F G H F' G' H' → RelG K T F' G' H' → RelD K F' H' d v → Q v H'
def liftT (K : PySem.W.Frag) (T : LT) (W : WX) (t : DTT) : TT := fun σ H Q => ∃ env F G E P, RelG K T F G H ∧ RelSt K F H env σ ∧ XOk K T W E F G H ∧ t E env G P ∧
  ∀ b F' G' H', P b G' → Step F G H F' G' H' → RelG K T F' G' H' → Q b H'
def liftA (K : PySem.W.Frag) (T : LT) (W : WX) (t : DTA) : TA := fun σ H Q => ∃ env F G E P, RelG K T F G H ∧ RelSt K F H env σ ∧ XOk K T W E F G H ∧ t E env G P ∧
  ∀ ds F' G' vs H', P ds G' → Step F G H F' G' H' → RelG K T F' G' H' → RelDs K F' H' ds vs → Q vs H'
def liftS (K : PySem.W.Frag) (T : LT) (W : WX) (t : DTS) : TS := fun D σ H => ∃ env F G E DE, RelG K T F G H ∧ RelSt K F H env σ ∧ XOk K T W E F G H ∧ t E DE env G ∧
  (∀ env' F' G' σ' H', DE.nx env' G' → Step F G H F' G' H' → RelG K T F' G' H' → RelSt K F' H' env' σ' → D.nx σ' H') ∧
  (∀ d F' G' v H', DE.rt d G' → Step F G H F' G' H' → RelG K T F' G' H' → RelD K F' H' d v → D.rt v H')
abbrev QE (X : Cx) (T : LT) (W : WX) (e : Expr) (t : DTE) : Prop := PE X e (liftE X.K T W t)
abbrev QT (X : Cx) (T : LT) (W : WX) (e : Expr) (t : DTT) : Prop := PT X e (liftT X.K T W t)
abbrev QA (X : Cx) (T : LT) (W : WX) (es : List Expr) (t : DTA) : Prop := PA X es (liftA X.K T W t)
abbrev QS (X : Cx) (T : LT) (W : WX) (st : Stmt) (t : DTS) : Prop := PS X st (liftS X.K T W t)
abbrev QSs (X : Cx) (T : LT) (W : WX) (st : List Stmt) (t : DTS) : Prop := PSs X st (liftS X.K T W t)

theorem PE.imp {X : Cx} {e : Expr} {t t' : TE} (h : PE X e t) (k : ∀ σ H Q, t' σ H Q → t σ H Q) : PE X e t' := ⟨fun pins s σ H Q I w => h.run pins s σ H Q I (k σ H Q w)⟩
theorem PT.imp {X : Cx} {e : Expr} {t t' : TT} (h : PT X e t) (k : ∀ σ H Q, t' σ H Q → t σ H Q) : PT X e t' := ⟨fun pins s σ H Q I w => h.run pins s σ H Q I (k σ H Q w)⟩
theorem PA.imp {X : Cx} {e : List Expr} {t t' : TA} (h : PA X e t) (k : ∀ σ H Q, t' σ H Q → t σ H Q) : PA X e t' := ⟨fun pos pins s σ H Q I w => h.run pos pins s σ H Q I (k σ H Q w)⟩
theorem PS.imp {X : Cx} {e : Stmt} {t t' : TS} (h : PS X e t) (k : ∀ D σ H, t' D σ H → t D σ H) : PS X e t' := ⟨fun pins s σ H D I w => h.run pins s σ H D I (k D σ H w)⟩
theorem PSs.imp {X : Cx} {e : List Stmt} {t t' : TS} (h : PSs X e t) (k : ∀ D σ H, t' D σ H → t D σ H) : PSs X e t' := ⟨fun pins s σ H D I w => h.run pins s σ H D I (k D σ H w)⟩
end DL

namespace DL
open PySem PySem.Spec PyProof.Rows L2
variable {T : LT}
/-! ### expressions -/
def dVar (i : Nat) : DTE := fun _ env G Q => ∃ d, env[i]? = some (some d) ∧ Q d G
def dC (d : D) : DTE := fun _ _ G Q => Q d G
def dOp (f : DG → D → D → Option D) (ta tb : DTE) : DTE := fun E env G Q => ta E env G fun x G1 => tb E env G1 fun y G2 => ∃ z, f G2 x y = some z ∧ Q z G2
def dUn (f : DG → D → Option D) (ta : DTE) : DTE := fun E env G Q => ta E env G fun x G1 => ∃ z, f G1 x = some z ∧ Q z G1
def dChain (f g : DG → D → D → Option D) (ta tb tc : DTE) : DTE := fun E env G Q => ta E env G fun x G1 => tb E env G1 fun y G2 => ∃ b, f G2 x y = some (.bl b) ∧
  if b = true then tc E env G2 fun z G3 => ∃ r, g G3 y z = some r ∧ Q r G3 else Q (.bl false) G2
def dTest (t : DTE) : DTT := fun E env G Q => t E env G fun x G1 => ∃ b, x = .bl b ∧ Q b G1
def dAnd (t u : DTT) : DTT := fun E env G Q => t E env G fun c G1 => if c = true then u E env G1 Q else Q false G1
def dOr (t u : DTT) : DTT := fun E env G Q => t E env G fun c G1 => if c = true then Q true G1 else u E env G1 Q
def dNot (t : DTT) : DTT := fun E env G Q => t E env G fun c G1 => Q (!c) G1
def dAndV (t u : DTE) : DTE := fun E env G Q => t E env G fun x G1 => ∃ c, x = .bl c ∧ if c = true then u E env G1 Q else Q (.bl false) G1
def dOrV (t u : DTE) : DTE := fun E env G Q => t E env G fun x G1 => ∃ c, x = .bl c ∧ if c = true then Q (.bl true) G1 else u E env G1 Q
def dNotV (t : DTE) : DTE := fun E env G Q => t E env G fun x G1 => ∃ c, x = .bl c ∧ Q (.bl (!c)) G1
def dIf (c : DTT) (t u : DTE) : DTE := fun E env G Q => c E env G fun b G1 => if b = true then t E env G1 Q else u E env G1 Q
def dNil : DTA := fun _ _ G Q => Q [] G
def dCons (t : DTE) (u : DTA) : DTA := fun E env G Q => t E env G fun x G1 => u E env G1 fun xs G2 => Q (x :: xs) G2
def dTup (t : DTA) : DTE := fun E env G Q => t E env G fun xs G1 => xs.length ≤ 16000000 ∧ Q (.tup xs) G1
def dLst (t : DTA) : DTE := fun E env G Q => t E env G fun xs G1 => xs.length ≤ 16000000 ∧ Q (.lst xs) G1
/-- a list that will be written: tracked -/
def dLstB (t : DTA) : DTE := fun E env G Q => t E env G fun xs G1 => xs.length ≤ 16000000 ∧ ∀ p, G1 p = none → Q (.ref p) (gset G1 p (some (.lst xs)))
/-- a call of a built-in by its values -/
def dB (f : DG → List D → Option D) (t : DTA) : DTE := fun E env G Q => t E env G fun xs G1 => ∃ z, f G1 xs = some z ∧ Q z G1
abbrev DSp := List D → DG → DK → (DX → DG → Prop) → Prop
def dCall (sp : DSp) (t : DTA) : DTE := fun E env G Q => t E env G fun xs G1 => sp xs G1 Q fun x G' => E x env G'

/-! ### by values -/
def rD (K : PySem.W.Frag) (T : LT) (f : DG → D → D → Option D) : R2 := fun x y H Q => ∃ F G dx dy z, RelG K T F G H ∧ RelD K F H dx x ∧ RelD K F H dy y ∧ f G dx dy = some z ∧ ∀ F' v H', Step F G H F' G H' → RelG K T F' G H' → RelD K F' H' z v → Q v H'
def rD1 (K : PySem.W.Frag) (T : LT) (f : DG → D → Option D) : V → Hp → VK → Prop := fun x H Q => ∃ F G dx z, RelG K T F G H ∧ RelD K F H dx x ∧ f G dx = some z ∧ ∀ F' v H', Step F G H F' G H' → RelG K T F' G H' → RelD K F' H' z v → Q v H'
def rDB (K : PySem.W.Frag) (T : LT) (f : DG → List D → Option D) : List V → Hp → VK → Prop := fun xs H Q => ∃ F G ds z, RelG K T F G H ∧ RelDs K F H ds xs ∧ f G ds = some z ∧ ∀ F' v H', Step F G H F' G H' → RelG K T F' G H' → RelD K F' H' z v → Q v H'

section
variable {X : Cx} {W : WX} {a b c : Expr} {ta tb tc : DTE} {pos : Pos}
theorem q_var {i : Nat} {x : Str} (hN : X.N[i]? = some x) (hv : Vis X.env.scope x) (hd : (x == ("__debug__" : Str)) = false := by decide) (hcd : (x == ("__classdict__" : Str)) = false := by decide) : QE X T W (.Name x pos) (dVar i) :=
  PE.imp (pe_var hN hv hd hcd) fun σ H Q ⟨env, F, G, E, P, hg, hs, hx, ⟨d, e, p⟩, hq⟩ => by
    obtain ⟨v, ev, r⟩ := hs.get e
    exact ⟨v, ev, hq d _ G v H p Step.refl hg r⟩
theorem qv (i : Nat) {x : Str} (hN : X.N[i]? = some x := by rfl) (hv : Vis X.env.scope x := by first | exact Or.inl rfl | exact Or.inr (Or.inl rfl) | exact Or.inr (Or.inr rfl)) (hd : (x == ("__debug__" : Str)) = false := by decide)
    (hcd : (x == ("__classdict__" : Str)) = false := by decide) : QE X T W (.Name x pos) (dVar i) := q_var hN hv hd hcd
theorem q_con {e : Expr} {v : V} {d : D} (h : PE X e (tC v)) (r : ∀ F H, RelD X.K F H d v) : QE X T W e (dC d) :=
  PE.imp h fun σ H Q ⟨env, F, G, E, P, hg, hs, hx, p, hq⟩ => hq d _ G v H p Step.refl hg (r F H)
theorem q_int {i : Int} {j : Nat} : QE X T W (.Constant (.int i) j pos) (dC (.int i)) := q_con pe_int fun _ _ => rfl
theorem q_bl {i : Bool} {j : Nat} : QE X T W (.Constant (.bool i) j pos) (dC (.bl i)) := q_con pe_bl fun _ _ => rfl
theorem q_non {j : Nat} : QE X T W (.Constant .none j pos) (dC .non) := q_con pe_non fun _ _ => rfl
theorem q_str {s : String} {j : Nat} : QE X T W (.Constant (.str (Str.ofString s)) j pos) (dC (.str s)) := q_con pe_str fun _ _ => rfl
theorem q_op {op : Operator} {f : DG → D → D → Option D} (ho : OpR X (binaryOp op) (rD X.K T f)) (ha : QE X T W a ta) (hb : QE X T W b tb) : QE X T W (.BinOp a op b pos) (dOp f ta tb) :=
  PE.imp (pe_op ho ha hb) fun σ H Q ⟨env, F, G, E, P, hg, hs, hx, ht, hq⟩ =>
    ⟨env, F, G, E, _, hg, hs, hx, ht, fun x F1 G1 v1 H1 h1 s1 g1 r1 => ⟨env, F1, G1, E, _, g1, hs.step s1, hx.step s1, h1, fun y F2 G2 v2 H2 ⟨z, e, p⟩ s2 g2 r2 =>
      ⟨F2, G2, x, y, z, g2, RelD.step s2 x r1, r2, e, fun F' v H' s3 g3 r3 => hq z _ G2 v H' p (s1.trans (s2.trans s3)) g3 r3⟩⟩⟩
theorem q_un {op : UnaryOp} {f : DG → D → Option D} (ho : UnR X (unaryOp op) (rD1 X.K T f)) (ha : QE X T W a ta) : QE X T W (.UnaryOp op a pos) (dUn f ta) :=
  PE.imp (pe_un ho ha) fun σ H Q ⟨env, F, G, E, P, hg, hs, hx, ht, hq⟩ =>
    ⟨env, F, G, E, _, hg, hs, hx, ht, fun x F1 G1 v1 H1 ⟨z, e, p⟩ s1 g1 r1 => ⟨F1, G1, x, z, g1, r1, e, fun F' v H' s3 g3 r3 => hq z _ G1 v H' p (s1.trans s3) g3 r3⟩⟩
theorem q_cmp {op : CmpOp} {f : DG → D → D → Option D} (ho : OpR X (compareOp op) (rD X.K T f)) (ha : QE X T W a ta) (hb : QE X T W b tb) (hm : behindInMarks op b = false) : QE X T W (.Compare a [op] [b] pos) (dOp f ta tb) :=
  PE.imp (pe_cmpR ho ha hb hm) fun σ H Q ⟨env, F, G, E, P, hg, hs, hx, ht, hq⟩ =>
    ⟨env, F, G, E, _, hg, hs, hx, ht, fun x F1 G1 v1 H1 h1 s1 g1 r1 => ⟨env, F1, G1, E, _, g1, hs.step s1, hx.step s1, h1, fun y F2 G2 v2 H2 ⟨z, e, p⟩ s2 g2 r2 =>
      ⟨F2, G2, x, y, z, g2, RelD.step s2 x r1, r2, e, fun F' v H' s3 g3 r3 => hq z _ G2 v H' p (s1.trans (s2.trans s3)) g3 r3⟩⟩⟩
theorem q_cmpT {op : CmpOp} {f : DG → D → D → Option D} (ho : OpR X (compareOp op) (rD X.K T f)) (ha : QE X T W a ta) (hb : QE X T W b tb) (hm : behindInMarks op b = false) : QT X T W (.Compare a [op] [b] pos) (dTest (dOp f ta tb)) :=
  PT.imp (pt_cmpR ho ha hb hm) fun σ H Q ⟨env, F, G, E, P, hg, hs, hx, ht, hq⟩ =>
    ⟨env, F, G, E, _, hg, hs, hx, ht, fun x F1 G1 v1 H1 h1 s1 g1 r1 => ⟨env, F1, G1, E, _, g1, hs.step s1, hx.step s1, h1, fun y F2 G2 v2 H2 ⟨z, e, k, ek, p⟩ s2 g2 r2 =>
      ⟨F2, G2, x, y, z, g2, RelD.step s2 x r1, r2, e, fun F' v H' s3 g3 r3 => by
        subst ek
        exact ⟨k, r3, hq k _ G2 H' p (s1.trans (s2.trans s3)) g3⟩⟩⟩⟩
theorem q_chain {op op' : CmpOp} {f g : DG → D → D → Option D} (ho : OpR X (compareOp op) (rD X.K T f)) (ho' : OpR X (compareOp op') (rD X.K T g)) (ha : QE X T W a ta) (hb : QE X T W b tb) (hc : QE X T W c tc)
    (hm : lastMarks [op, op'] [b, c] = false := by with_unfolding_all rfl) : QE X T W (.Compare a [op, op'] [b, c] pos) (dChain f g ta tb tc) :=
  PE.imp (pe_chain ho ho' ha hb hc hm) fun σ H Q ⟨env, F, G, E, P, hg, hs, hx, ht, hq⟩ =>
    ⟨env, F, G, E, _, hg, hs, hx, ht, fun x F1 G1 v1 H1 h1 s1 g1 r1 => ⟨env, F1, G1, E, _, g1, hs.step s1, hx.step s1, h1, fun y F2 G2 v2 H2 ⟨k, e, p⟩ s2 g2 r2 =>
      ⟨F2, G2, x, y, .bl k, g2, RelD.step s2 x r1, r2, e, fun F' v H' s3 g3 r3 => by
        refine ⟨k, r3, ?_⟩
        cases k with
        | true =>
          rw [if_pos rfl] at p ⊢
          refine ⟨env, F', G2, E, _, g3, (hs.step s1).step (s2.trans s3), hx.step (s1.trans (s2.trans s3)), p, fun z F3 G3 v4 H4 ⟨r, er, pr⟩ s4 g4 r4 => ?_⟩
          exact ⟨F3, G3, y, z, r, g4, RelD.step (s3.trans s4) y r2, r4, er, fun F5 v5 H5 s5 g5 r5 => hq r _ G3 v5 H5 pr (s1.trans (s2.trans (s3.trans (s4.trans s5)))) g5 r5⟩
        | false =>
          rw [if_neg Bool.false_ne_true] at p ⊢
          exact hq (.bl false) _ G2 _ H' p (s1.trans (s2.trans s3)) g3 rfl⟩⟩⟩
theorem q_chainT {op op' : CmpOp} {f g : DG → D → D → Option D} (ho : OpR X (compareOp op) (rD X.K T f)) (ho' : OpR X (compareOp op') (rD X.K T g)) (ha : QE X T W a ta) (hb : QE X T W b tb) (hc : QE X T W c tc)
    (hm : lastMarks [op, op'] [b, c] = false := by with_unfolding_all rfl) : QT X T W (.Compare a [op, op'] [b, c] pos) (dTest (dChain f g ta tb tc)) :=
  PT.imp (pt_chain ho ho' ha hb hc hm) fun σ H Q ⟨env, F, G, E, P, hg, hs, hx, ht, hq⟩ =>
    ⟨env, F, G, E, _, hg, hs, hx, ht, fun x F1 G1 v1 H1 h1 s1 g1 r1 => ⟨env, F1, G1, E, _, g1, hs.step s1, hx.step s1, h1, fun y F2 G2 v2 H2 ⟨k, e, p⟩ s2 g2 r2 =>
      ⟨F2, G2, x, y, .bl k, g2, RelD.step s2 x r1, r2, e, fun F' v H' s3 g3 r3 => by
        refine ⟨k, r3, ?_⟩
        cases k with
        | true =>
          rw [if_pos rfl] at p ⊢
          refine ⟨env, F', G2, E, _, g3, (hs.step s1).step (s2.trans s3), hx.step (s1.trans (s2.trans s3)), p, fun z F3 G3 v4 H4 ⟨r, er, bb, eb, pr⟩ s4 g4 r4 => ?_⟩
          subst eb
          exact ⟨F3, G3, y, z, .bl bb, g4, RelD.step (s3.trans s4) y r2, r4, er, fun F5 v5 H5 s5 g5 r5 => ⟨bb, r5, hq bb _ G3 H5 pr (s1.trans (s2.trans (s3.trans (s4.trans s5)))) g5⟩⟩
        | false =>
          rw [if_neg Bool.false_ne_true] at p ⊢
          obtain ⟨bb, eb, p⟩ := p
          cases eb
          exact ⟨false, rfl, hq false _ G2 H' p (s1.trans (s2.trans s3)) g3⟩⟩⟩⟩
/-! tests -/
variable {tA tB' tC' : DTT} {rest : List Expr}
abbrev QW (X : Cx) (T : LT) (W : WX) (e : Expr) (t : DTT) : Prop := PW X e (liftT X.K T W t)
theorem PW.imp {X : Cx} {e : Expr} {t t' : TT} (h : PW X e t) (k : ∀ σ H Q, t' σ H Q → t σ H Q) : PW X e t' := ⟨fun wh pins s σ H Q I w => h.run wh pins s σ H Q I (k σ H Q w)⟩
theorem qw_and1 (ha : QT X T W a tA) : QW X T W (.BoolOp .And [a] pos) tA := pw_and1 ha
theorem qw_or1 (ha : QT X T W a tA) : QW X T W (.BoolOp .Or [a] pos) tA := pw_or1 ha
theorem qw_and (ha : QT X T W a tA) (hb : QW X T W (.BoolOp .And (b :: rest) pos) tB') : QW X T W (.BoolOp .And (a :: b :: rest) pos) (dAnd tA tB') :=
  PW.imp (pw_and ha hb) fun σ H Q ⟨env, F, G, E, P, hg, hs, hx, ht, hq⟩ => ⟨env, F, G, E, _, hg, hs, hx, ht, fun k F1 G1 H1 p s1 g1 => by
    cases k with
    | true => exact ⟨env, F1, G1, E, _, g1, hs.step s1, hx.step s1, p, fun b F2 G2 H2 p2 s2 g2 => hq b _ G2 H2 p2 (s1.trans s2) g2⟩
    | false => exact hq false _ G1 H1 p s1 g1⟩
theorem qw_or (ha : QT X T W a tA) (hb : QW X T W (.BoolOp .Or (b :: rest) pos) tB') : QW X T W (.BoolOp .Or (a :: b :: rest) pos) (dOr tA tB') :=
  PW.imp (pw_or ha hb) fun σ H Q ⟨env, F, G, E, P, hg, hs, hx, ht, hq⟩ => ⟨env, F, G, E, _, hg, hs, hx, ht, fun k F1 G1 H1 p s1 g1 => by
    cases k with
    | false => exact ⟨env, F1, G1, E, _, g1, hs.step s1, hx.step s1, p, fun b F2 G2 H2 p2 s2 g2 => hq b _ G2 H2 p2 (s1.trans s2) g2⟩
    | true => exact hq true _ G1 H1 p s1 g1⟩
theorem qt_w {e : Expr} (h : QW X T W e tA) : QT X T W e tA := PW.pt h
theorem qt_not (ha : QT X T W a tA) : QT X T W (.UnaryOp .Not a pos) (dNot tA) :=
  PT.imp (pt_not ha) fun σ H Q ⟨env, F, G, E, P, hg, hs, hx, ht, hq⟩ => ⟨env, F, G, E, _, hg, hs, hx, ht, fun k F1 G1 H1 p s1 g1 => hq (!k) _ G1 H1 p s1 g1⟩
theorem qt_val {e : Expr} {t : DTE} (h : QE X T W e t) (he : ∀ whole, isTrue e X.env whole = (do let v ← whole; standAt e.pos; holding [v] (truthy v)) := by intro _; rfl) : QT X T W e (dTest t) :=
  PT.imp (pt_val h he) fun σ H Q ⟨env, F, G, E, P, hg, hs, hx, ht, hq⟩ => ⟨env, F, G, E, _, hg, hs, hx, ht, fun x F1 G1 v1 H1 ⟨k, e, p⟩ s1 g1 r1 => by
    subst e
    exact ⟨k, r1, hq k _ G1 H1 p s1 g1⟩⟩
theorem q_one {op} {t : DTE} (h : QE X T W a t) : QE X T W (.BoolOp op [a] pos) t := pe_one h
theorem q_and (ha : QE X T W a ta) (hb : QE X T W (.BoolOp .And (b :: rest) pos) tb) : QE X T W (.BoolOp .And (a :: b :: rest) pos) (dAndV ta tb) :=
  PE.imp (pe_and ha hb) fun σ H Q ⟨env, F, G, E, P, hg, hs, hx, ht, hq⟩ => ⟨env, F, G, E, _, hg, hs, hx, ht, fun x F1 G1 v1 H1 ⟨k, e, p⟩ s1 g1 r1 => by
    subst e
    refine ⟨k, r1, ?_⟩
    cases k with
    | true => exact ⟨env, F1, G1, E, _, g1, hs.step s1, hx.step s1, p, fun b F2 G2 v2 H2 p2 s2 g2 r2 => hq b _ G2 v2 H2 p2 (s1.trans s2) g2 r2⟩
    | false => exact hq (.bl false) _ G1 _ H1 p s1 g1 rfl⟩
theorem q_or (ha : QE X T W a ta) (hb : QE X T W (.BoolOp .Or (b :: rest) pos) tb) : QE X T W (.BoolOp .Or (a :: b :: rest) pos) (dOrV ta tb) :=
  PE.imp (pe_or ha hb) fun σ H Q ⟨env, F, G, E, P, hg, hs, hx, ht, hq⟩ => ⟨env, F, G, E, _, hg, hs, hx, ht, fun x F1 G1 v1 H1 ⟨k, e, p⟩ s1 g1 r1 => by
    subst e
    refine ⟨k, r1, ?_⟩
    cases k with
    | false => exact ⟨env, F1, G1, E, _, g1, hs.step s1, hx.step s1, p, fun b F2 G2 v2 H2 p2 s2 g2 r2 => hq b _ G2 v2 H2 p2 (s1.trans s2) g2 r2⟩
    | true => exact hq (.bl true) _ G1 _ H1 p s1 g1 rfl⟩
theorem q_not (ha : QE X T W a ta) : QE X T W (.UnaryOp .Not a pos) (dNotV ta) :=
  PE.imp (pe_not ha) fun σ H Q ⟨env, F, G, E, P, hg, hs, hx, ht, hq⟩ => ⟨env, F, G, E, _, hg, hs, hx, ht, fun x F1 G1 v1 H1 ⟨k, e, p⟩ s1 g1 r1 => by
    subst e
    exact ⟨k, r1, hq (.bl (!k)) _ G1 _ H1 p s1 g1 rfl⟩⟩
theorem q_if (hc : QT X T W c tA) (ha : QE X T W a ta) (hb : QE X T W b tb) : QE X T W (.IfExp c a b pos) (dIf tA ta tb) :=
  PE.imp (pe_ifExp hc ha hb) fun σ H Q ⟨env, F, G, E, P, hg, hs, hx, ht, hq⟩ => ⟨env, F, G, E, _, hg, hs, hx, ht, fun k F1 G1 H1 p s1 g1 => by
    cases k with
    | true => exact ⟨env, F1, G1, E, _, g1, hs.step s1, hx.step s1, p, fun b F2 G2 v2 H2 p2 s2 g2 r2 => hq b _ G2 v2 H2 p2 (s1.trans s2) g2 r2⟩
    | false => exact ⟨env, F1, G1, E, _, g1, hs.step s1, hx.step s1, p, fun b F2 G2 v2 H2 p2 s2 g2 r2 => hq b _ G2 v2 H2 p2 (s1.trans s2) g2 r2⟩⟩
/-! arguments, displays -/
variable {es : List Expr} {tr : DTA}
theorem qa_nil : QA X T W [] dNil := PA.imp pa_nil fun σ H Q ⟨env, F, G, E, P, hg, hs, hx, p, hq⟩ => hq [] _ G [] H p Step.refl hg rfl
theorem qa_cons (ha : QE X T W a ta) (hr : QA X T W es tr) (hst : starEach (a :: es) X.env = (false, eval a X.env) :: starEach es X.env := by rfl) : QA X T W (a :: es) (dCons ta tr) :=
  PA.imp (pa_cons ha hr hst) fun σ H Q ⟨env, F, G, E, P, hg, hs, hx, ht, hq⟩ => ⟨env, F, G, E, _, hg, hs, hx, ht, fun x F1 G1 v1 H1 p s1 g1 r1 =>
    ⟨env, F1, G1, E, _, g1, hs.step s1, hx.step s1, p, fun xs F2 G2 vs H2 p2 s2 g2 r2 => hq (x :: xs) _ G2 (v1 :: vs) H2 p2 (s1.trans s2) g2 ⟨v1, vs, rfl, RelD.step s2 x r1, r2⟩⟩⟩
theorem RelDs.length {K : PySem.W.Frag} {F : FS} {H : Hp} : ∀ {ds : List D} {vs : List V}, RelDs K F H ds vs → ds.length = vs.length
  | [], vs, h => by
    have e : vs = [] := h
    rw [e]
    rfl
  | x :: xs, _, ⟨v, r, e, _, t⟩ => by rw [e, List.length_cons, List.length_cons, RelDs.length t]
theorem small_line {n : Nat} (h : n ≤ 16000000) : n ≤ sizeLine := Nat.le_trans h (by decide)
/-- the new tuple at p -/
theorem relD_newTup {K : PySem.W.Frag} {F : FS} {G : DG} {H : Hp} {p : Addr} {ds : List D} {vs : List V} (hg : RelG K T F G H) (hp : H p = none) (r : RelDs K F H ds vs) : RelD K (fadd F p) (upd H p (.tup vs)) (.tup ds) (.ref p) :=
  ⟨p, vs, rfl, .inl ⟨.of upd_same, .inl rfl⟩, RelDs.step (G := G) (G' := G) (Step.new hp) ds r⟩
theorem relD_newLst {K : PySem.W.Frag} {F : FS} {G : DG} {H : Hp} {p : Addr} {ds : List D} {vs : List V} (hg : RelG K T F G H) (hp : H p = none) (r : RelDs K F H ds vs) : RelD K (fadd F p) (upd H p (.lst vs)) (.lst ds) (.ref p) :=
  ⟨p, vs, rfl, ⟨.of upd_same, .inl rfl⟩, RelDs.step (G := G) (G' := G) (Step.new hp) ds r⟩
theorem q_tup {x1} (h : QA X T W es tr) : QE X T W (.Tuple es x1 pos) (dTup tr) :=
  PE.imp (pe_tup h) fun σ H Q ⟨env, F, G, E, P, hg, hs, hx, ht, hq⟩ => ⟨env, F, G, E, _, hg, hs, hx, ht, fun xs F1 G1 vs H1 ⟨hl, p⟩ s1 g1 r1 =>
    ⟨by rw [← r1.length]; exact small_line hl, fun a ha => hq (.tup xs) _ G1 _ _ p (s1.trans (Step.new ha)) (g1.new ha) (relD_newTup g1 ha r1)⟩⟩
theorem q_lst (h : QA X T W es tr) : QE X T W (.List es pos) (dLst tr) :=
  PE.imp (pe_lst h) fun σ H Q ⟨env, F, G, E, P, hg, hs, hx, ht, hq⟩ => ⟨env, F, G, E, _, hg, hs, hx, ht, fun xs F1 G1 vs H1 ⟨hl, p⟩ s1 g1 r1 =>
    ⟨by rw [← r1.length]; exact small_line hl, fun a ha => hq (.lst xs) _ G1 _ _ p (s1.trans (Step.new ha)) (g1.new ha) (relD_newLst g1 ha r1)⟩⟩
theorem q_lstB (h : QA X T W es tr) : QE X T W (.List es pos) (dLstB tr) :=
  PE.imp (pe_lst h) fun σ H Q ⟨env, F, G, E, P, hg, hs, hx, ht, hq⟩ => ⟨env, F, G, E, _, hg, hs, hx, ht, fun xs F1 G1 vs H1 ⟨hl, p⟩ s1 g1 r1 =>
    ⟨by rw [← r1.length]; exact small_line hl, fun a ha => hq (.ref a) _ _ _ _ (p a (g1.free ha)) (s1.trans (Step.set g1 (.inl ha))) (g1.set (.inl ha) ⟨vs, rfl, RelDs.step (Step.set (o := none) g1 (.inl ha)) xs r1⟩) rfl⟩⟩
/-! built-ins, defs -/
theorem q_callB {x : Str} {id : String} {f : DG → List D → Option D} {e : Expr} {p : Pos} (hc : CallR X (.builtin id) (rDB X.K T f)) (hg : Gl X x) (hm : X.mg x = none) (hv : bootBuiltins x = some (.builtin id)) (ha : QA X T W (e :: es) tr) (hn : x ≠ "__name__" := by decide) (hdb : (x == ("__debug__" : Str)) = false := by decide)
    (he : starEach (e :: es) X.env = (false, eval e X.env) :: starEach es X.env := by rfl) (hpl : (backTo pos (starEach es X.env)).any (·.1) = false := by rfl) : QE X T W (.Call (.Name x p) (e :: es) [] pos) (dB f tr) :=
  PE.imp (pe_callB hc hg hm hv ha hn hdb he hpl) fun σ H Q ⟨env, F, G, E, P, hg, hs, hx, ht, hq⟩ => ⟨env, F, G, E, _, hg, hs, hx, ht, fun xs F1 G1 vs H1 ⟨z, e, p⟩ s1 g1 r1 =>
    ⟨F1, G1, xs, z, g1, r1, e, fun F' v H' s2 g2 r2 => hq z _ G1 v H' p (s1.trans s2) g2 r2⟩⟩
theorem q_callTy {x : Str} {ty : String} {f : DG → List D → Option D} {e : Expr} {p : Pos} (hc : CallR X (.type ty) (rDB X.K T f)) (hg : Gl X x) (hm : X.mg x = none) (hv : bootBuiltins x = some (.type ty)) (ha : QA X T W (e :: es) tr) (hn : x ≠ "__name__" := by decide) (hdb : (x == ("__debug__" : Str)) = false := by decide)
    (he : starEach (e :: es) X.env = (false, eval e X.env) :: starEach es X.env := by rfl) (hpl : (backTo pos (starEach es X.env)).any (·.1) = false := by rfl) : QE X T W (.Call (.Name x p) (e :: es) [] pos) (dB f tr) :=
  PE.imp (pe_callTy hc hg hm hv ha hn hdb he hpl) fun σ H Q ⟨env, F, G, E, P, hg, hs, hx, ht, hq⟩ => ⟨env, F, G, E, _, hg, hs, hx, ht, fun xs F1 G1 vs H1 ⟨z, e, p⟩ s1 g1 r1 =>
    ⟨F1, G1, xs, z, g1, r1, e, fun F' v H' s2 g2 r2 => hq z _ G1 v H' p (s1.trans s2) g2 r2⟩⟩
def liftSp (K : PySem.W.Frag) (T : LT) (sp : DSp) : Sp := fun vs H Q E => ∃ ds F G P Ed, RelG K T F G H ∧ RelDs K F H ds vs ∧ sp ds G P Ed ∧
  (∀ d F' G' v H', P d G' → Step F G H F' G' H' → RelG K T F' G' H' → RelD K F' H' d v → Q v H') ∧ (∀ x F' G' cls d H', Ed x G' → Step F G H F' G' H' → RelG K T F' G' H' → RelX K F' H' x cls d → E cls d H')
/-- a def of the text that keeps a promise -/
structure DFn (P : Program) (w : World) (K : PySem.W.Frag) (T : LT) (mg : Str → Option Value) (base : Heap) (k : Nat) (x : Str) (ps : List Str) (sp : DSp) : Prop where
  ok : ∃ fd, FnOk P w K mg base (L2N.CX P w) k (He.ga K x) fd ps (liftSp K T sp) ∧ Binds K fd ps []
  mg : mg x = some (.ref (He.ga K x))
  kp : PySem.W.keepIn K (.ref (He.ga K x)) = true
theorem q_call {x : Str} {sp : DSp} {k j : Nat} {ps : List Str} {e : Expr} {p : Pos} (F : DFn X.prog X.w X.K T X.mg X.base k x ps sp) (hr : Room j X.A) (hj : k ≤ j) (tk : L2N.Takes X W) (hg : Gl X x) (ha : QA X T W (e :: es) tr) (hdb : (x == ("__debug__" : Str)) = false := by decide)
    (he : starEach (e :: es) X.env = (false, eval e X.env) :: starEach es X.env := by rfl) (hpl : (backTo pos (starEach es X.env)).any (·.1) = false := by rfl) : QE X T W (.Call (.Name x p) (e :: es) [] pos) (dCall sp tr) := by
  obtain ⟨fd, F1, B⟩ := F.ok
  refine PE.imp (pe_callS (E := WE W) F1 (hr.mono hj) hg F.mg F.kp B (fun σ => L2N.passAt tk σ) ha hdb he hpl) fun σ H Q ⟨env, F, G, E, P, hg, hs, hx, ht, hq⟩ => ⟨env, F, G, E, _, hg, hs, hx, ht, fun xs F1 G1 vs H1 p s1 g1 r1 => ?_⟩
  exact ⟨xs, F1, G1, _, _, g1, r1, p, fun d F' G' v H' p2 s2 g2 r2 => hq d _ G' v H' p2 (s1.trans s2) g2 r2, fun x F' G' cls d H' p2 s2 g2 r2 => hx x env _ G' cls d σ H' p2 (s1.trans s2) g2 (hs.step (s1.trans s2)) r2⟩
theorem q_call0 {x : Str} {sp : DSp} {k j : Nat} {ps : List Str} {p : Pos} (Fn : DFn X.prog X.w X.K T X.mg X.base k x ps sp) (hr : Room j X.A) (hj : k ≤ j) (tk : L2N.Takes X W) (hg : Gl X x) (hdb : (x == ("__debug__" : Str)) = false := by decide) : QE X T W (.Call (.Name x p) [] [] pos) (dCall sp dNil) := by
  obtain ⟨fd, F1, B⟩ := Fn.ok
  refine ⟨fun pins s σ H Q I hw => ?_⟩
  obtain ⟨env, F, G, E, P, hg', hs, hx, ht, hq⟩ := hw
  refine wpAny_Call_Name_kw (ld_glob I hg Fn.mg ?_ hdb)
  refine PySem.W.callWith_K0 I.kIn Fn.kp (run_fnS (us := []) (vs := []) (E := WE W) F1 (hr.mono hj) B (L2N.passAt tk σ) I .nil ?_)
  exact ⟨[], F, G, _, _, hg', rfl, ht, hq, fun x F' G' cls d H' p2 s2 g2 r2 => hx x env _ G' cls d σ H' p2 s2 g2 (hs.step s2) r2⟩
end

/-! ### statements -/
def sNext : DTS := fun _ DE env G => DE.nx env G
def sSeq (t u : DTS) : DTS := fun E DE env G => t E { DE with nx := fun env' G' => u E DE env' G' } env G
def sDrop (t : DTE) : DTS := fun E DE env G => t E env G fun _ G1 => DE.nx env G1
def sRet (t : DTE) : DTS := fun E DE env G => t E env G DE.rt
def sRetN : DTS := fun _ DE _ G => DE.rt .non G
def sIf (c : DTT) (t u : DTS) : DTS := fun E DE env G => c E env G fun b G1 => if b = true then t E DE env G1 else u E DE env G1
def sSet (i : Nat) (t : DTE) : DTS := fun E DE env G => t E env G fun x G1 => DE.nx (env.set i (some x)) G1
def sRaise (c : String) : DTS := fun E _ env G => E (c, none) env G
def sNever : DTS := fun _ _ _ _ => False
section
variable {X : Cx} {W : WX} {st : Stmt} {rest : List Stmt} {t u : DTS} {e : Expr} {te : DTE} {pos : Pos}
theorem qs_nil : QSs X T W [] sNext := PSs.imp pss_nil fun D σ H ⟨env, F, G, E, DE, hg, hs, hx, ht, hn, hr⟩ => hn env _ G σ H ht Step.refl hg hs
theorem qs_cons (h1 : QS X T W st t) (h2 : QSs X T W rest u) : QSs X T W (st :: rest) (sSeq t u) :=
  PSs.imp (pss_cons h1 h2) fun D σ H ⟨env, F, G, E, DE, hg, hs, hx, ht, hn, hr⟩ => ⟨env, F, G, E, _, hg, hs, hx, ht, fun env' F' G' σ' H' p s1 g1 r1 =>
    ⟨env', F', G', E, DE, g1, r1, hx.step s1, p, fun env2 F2 G2 σ2 H2 p2 s2 g2 r2 => hn env2 _ G2 σ2 H2 p2 (s1.trans s2) g2 r2, fun d F2 G2 v H2 p2 s2 g2 r2 => hr d _ G2 v H2 p2 (s1.trans s2) g2 r2⟩, hr⟩
theorem qs_one (h1 : QS X T W st t) : QSs X T W [st] t := pss_one h1
theorem qs_expr (he : QE X T W e te) (hs : swapsWith e none pos.line X.env = pure false := by rfl) : QS X T W (.Expr e pos) (sDrop te) :=
  PS.imp (ps_expr he hs) fun D σ H ⟨env, F, G, E, DE, hg, hs, hx, ht, hn, hr⟩ => ⟨env, F, G, E, _, hg, hs, hx, ht, fun d F1 G1 v1 H1 p s1 g1 r1 => hn env _ G1 σ H1 p s1 g1 (hs.step s1)⟩
theorem qs_ret (he : QE X T W e te) : QS X T W (.Return (some e) pos) (sRet te) :=
  PS.imp (ps_ret he) fun D σ H ⟨env, F, G, E, DE, hg, hs, hx, ht, hn, hr⟩ => ⟨env, F, G, E, _, hg, hs, hx, ht, hr⟩
theorem qs_retN : QS X T W (.Return none pos) sRetN := PS.imp ps_retN fun D σ H ⟨env, F, G, E, DE, hg, hs, hx, ht, hn, hr⟩ => hr .non _ G .non H ht Step.refl hg rfl
theorem qs_if {c : Expr} {a b : List Stmt} {tc : DTT} (hc : QT X T W c tc) (ha : QSs X T W a t) (hb : QSs X T W b u) : QS X T W (.If c a b pos) (sIf tc t u) :=
  PS.imp (ps_if hc ha hb) fun D σ H ⟨env, F, G, E, DE, hg, hs, hx, ht, hn, hr⟩ => ⟨env, F, G, E, _, hg, hs, hx, ht, fun b F1 G1 H1 p s1 g1 => by
    cases b with
    | true => exact ⟨env, F1, G1, E, DE, g1, hs.step s1, hx.step s1, p, fun env2 F2 G2 σ2 H2 p2 s2 g2 r2 => hn env2 _ G2 σ2 H2 p2 (s1.trans s2) g2 r2, fun d F2 G2 v H2 p2 s2 g2 r2 => hr d _ G2 v H2 p2 (s1.trans s2) g2 r2⟩
    | false => exact ⟨env, F1, G1, E, DE, g1, hs.step s1, hx.step s1, p, fun env2 F2 G2 σ2 H2 p2 s2 g2 r2 => hn env2 _ G2 σ2 H2 p2 (s1.trans s2) g2 r2, fun d F2 G2 v H2 p2 s2 g2 r2 => hr d _ G2 v H2 p2 (s1.trans s2) g2 r2⟩⟩
theorem qs_set {i : Nat} {x : Str} {pos' : Pos} (hN : X.N.Nodup) (hi : X.N[i]? = some x) (hx : Loc X.env.scope x) (he : QE X T W e te) (hs : swapsWith e (some (.Name x pos')) pos.line X.env = pure false := by rfl) (hf : X.fn x = true ∨ X.env.scope.names.lookup x = some .local := by first | exact .inl rfl | exact .inr rfl | assumption) :
    QS X T W (.Assign [.Name x pos'] e pos) (sSet i te) :=
  PS.imp (ps_set hN hi hx he hs hf) fun D σ H ⟨env, F, G, E, DE, hg, hs, hx, ht, hn, hr⟩ => ⟨env, F, G, E, _, hg, hs, hx, ht, fun d F1 G1 v1 H1 p s1 g1 r1 => hn _ _ G1 _ H1 p s1 g1 ((hs.step s1).set r1)⟩
/-- an own error class as the top has left it -/
structure DXc (X : Cx) (c : String) : Prop where
  ex : PySem.W.excIn X.K (He.ga X.K (S c)) He.veBase "ValueError.__new__" = true
  mg : X.mg (S c) = some (.ref (He.ga X.K (S c)))
  kp : PySem.W.keepIn X.K (.ref (He.ga X.K (S c))) = true
  ra : Raises X (.ref (He.ga X.K (S c)))
theorem qs_raise {c m : String} {j : Nat} {p p2 p3 : Pos} (C : DXc X c) (hc : X.calm = true) (tk : L2N.Takes X W) (hg : Gl X (S c)) (hdb : (S c == ("__debug__" : Str)) = false := by decide) :
    QS X T W (.Raise (some (.Call (.Name (Str.ofString c) p) [.Constant (.str (Str.ofString m)) j p2] [] pos)) none p3) (sRaise c) :=
  PS.imp (L2N.ps_raise hc tk (L2N.pmk_own PySem.F.excBase_ValueError C.ex C.mg C.kp C.ra hg hdb)) fun D σ H ⟨env, F, G, E, DE, hg, hs, hx, ht, hn, hr⟩ => hx (c, none) env _ G _ _ σ H ht Step.refl hg hs ⟨rfl, rfl⟩
end

/-! ### a def -/
theorem RelDs.start {K : PySem.W.Frag} {F : FS} {H : Hp} : ∀ {ds : List D} {vs : List V}, RelDs K F H ds vs → ∀ (i : Nat) (d : D), ds[i]? = some d → ∃ v, vs[i]? = some v ∧ RelD K F H d v
  | [], _, _, i, d, e => by simp at e
  | x :: xs, _, ⟨v, r, rfl, h, t⟩, 0, d, e => by
    simp only [List.getElem?_cons_zero, Option.some.injEq] at e
    subst e
    exact ⟨v, rfl, h⟩
  | x :: xs, _, ⟨v, r, rfl, h, t⟩, i + 1, d, e => by
    simp only [List.getElem?_cons_succ] at e ⊢
    exact RelDs.start t i d e
def dstart (N : List Str) (ds : List D) : DSt := ds.map some ++ List.replicate (N.length - ds.length) none
theorem relSt_start {K : PySem.W.Frag} {F : FS} {H : Hp} {N : List Str} {ds : List D} {vs : List V} (r : RelDs K F H ds vs) : RelSt K F H (dstart N ds) (L2.start N vs) := by
  have hl := r.length
  refine ⟨by simp [dstart, L2.start, hl], fun i d e => ?_⟩
  unfold dstart at e
  by_cases hi : i < ds.length
  · rw [List.getElem?_append_left (by simpa using hi), List.getElem?_map] at e
    cases q : ds[i]? with
    | none => rw [q] at e; cases e
    | some x =>
      rw [q] at e
      simp only [Option.map_some, Option.some.injEq] at e
      subst e
      obtain ⟨v, ev, rv⟩ := r.start i _ q
      refine ⟨v, ?_, rv⟩
      unfold L2.start
      rw [List.getElem?_append_left (by simpa [← hl] using hi), List.getElem?_map, ev]
      rfl
  · rw [List.getElem?_append_right (by simpa using hi), List.getElem?_replicate] at e
    split at e <;> cases e
/-- THE RULE for a def: its body's derivation (at every entry), its promise shown of the transformer -/
theorem dfn_of {P : Program} {w : World} {K : PySem.W.Frag} {mg : Str → Option Value} {base : Heap} {k : Nat} {x : Str} {params : Arguments} {body : List Stmt} {scope : Scope} {kws : List (Str × V)} {fd : FuncData} {N ps : List Str} {sp : DSp} {t : DTS}
    (F : FunD K x x params body scope [] kws (He.ga K x) fd) (hmg : mg x = some (.ref (He.ga K x))) (Sc : FnScope N ps scope)
    (hb : ∀ (kV doc pm : Value) (an : Option Addr) (cdv ct : Value) (us : List Value), us.length = ps.length → bindArgs (PySem.W.fnOf x x params body scope .none kV doc pm an cdv ct) ⟨us, []⟩ = pure (ps.zip us))
    (hbody : ∀ (cdv : Value) (A : Around) (outer : List Env) (s : Shared) (H : Hp) (E : XK), Room k (A.deeper (envOfC x scope s.heap.objs.size (He.ga K x) cdv)) →
      QSs (cxOf (L2N.CX P w) P w K mg base N x scope (He.ga K x) cdv A outer s H E) T (fun cls d _ H' => E cls d H') body t)
    (hsp : ∀ ds G Q E, sp ds G Q E → ds.length = ps.length ∧ t (fun x _ G' => E x G') { nx := fun _ G' => Q .non G', rt := Q } (dstart N ds) G) :
    DFn P w K T mg base (k + 1) x ps sp := by
  refine ⟨⟨fd, F.ok (CX := L2N.CX P w) Sc (fun vs H Q E h => ?_) (fun cdv A outer s H vs Q E hr h => ⟨_, hbody cdv A outer s H E hr, ?_⟩), F.bindsN hb⟩, hmg, F.kp⟩
  · obtain ⟨ds, F, G, P, Ed, hg, hr, hs, _⟩ := h
    rw [← hr.length]
    exact (hsp _ _ _ _ hs).1
  · obtain ⟨ds, F, G, P, Ed, hg, hr, hs, hq, hx⟩ := h
    exact ⟨dstart N ds, F, G, _, _, hg, relSt_start hr, fun x env' F' G' cls d σ' H' p s g r rx => hx x _ G' cls d H' p s g rx, (hsp _ _ _ _ hs).2, fun env' F' G' σ' H' p s g r => hq .non F' G' .non H' p s g rfl, hq⟩
end DL

namespace DL
open PySem PySem.Spec PyProof.Rows L2
variable {T : LT}
/-! ### reading -/
section
variable {K : PySem.W.Frag} {F : FS} {G : DG} {H : Hp}
theorem TupAt.sq {a : Addr} {vs : List V} (h : TupAt K F H a vs) : SqT K H a vs := by
  rcases h with ⟨h, _⟩ | h
  · exact .inl h.rd
  · exact .inr h
/-- a value read as a list: frozen or tracked -/
def lstO : Option DO → Option (List D)
  | some (.lst xs) => some xs
  | _ => none
theorem lstO_eq {o : Option DO} {xs : List D} (h : lstO o = some xs) : o = some (.lst xs) := by
  unfold lstO at h
  split at h
  · cases h; rfl
  · cases h
def asL (G : DG) : D → Option (List D)
  | .lst xs => some xs
  | .ref a => lstO (G a)
  | _ => none
theorem asL_ok {d : D} {v : V} {xs : List D} (hg : RelG K T F G H) (r : RelD K F H d v) (e : asL G d = some xs) : ∃ a vs, v = .ref a ∧ Rd H a (.lst vs) ∧ RelDs K F H xs vs := by
  cases d with
  | lst ys =>
    cases e
    obtain ⟨a, vs, ev, h, rs⟩ := r
    exact ⟨a, vs, ev, h.1.rd, rs⟩
  | ref a =>
    have ev : v = .ref a := r
    obtain ⟨vs, h, rs⟩ := hg.ob a _ (lstO_eq e)
    exact ⟨a, vs, ev, .inl h, rs⟩
  | _ => cases e
/-- .. as a list or a tuple -/
def asQ (G : DG) : D → Option (List D)
  | .tup xs => some xs
  | .scr ns => some (ns.map .int)
  | d => asL G d
theorem RelDs.append : ∀ {xs ys : List D} {vs ws : List V}, RelDs K F H xs vs → RelDs K F H ys ws → RelDs K F H (xs ++ ys) (vs ++ ws)
  | [], ys, vs, ws, h, h' => by
    have e : vs = [] := h
    subst e
    exact h'
  | x :: xs, ys, _, ws, ⟨v, r, rfl, h, t⟩, h' => ⟨v, r ++ ws, rfl, h, RelDs.append t h'⟩
theorem RelDs.take : ∀ (n : Nat) {xs : List D} {vs : List V}, RelDs K F H xs vs → RelDs K F H (xs.take n) (vs.take n)
  | 0, xs, vs, _ => by simp [RelDs]
  | n + 1, [], vs, h => by
    have e : vs = [] := h
    subst e
    exact h
  | n + 1, x :: xs, _, ⟨v, r, rfl, h, t⟩ => ⟨v, r.take n, rfl, h, RelDs.take n t⟩
theorem RelDs.drop : ∀ (n : Nat) {xs : List D} {vs : List V}, RelDs K F H xs vs → RelDs K F H (xs.drop n) (vs.drop n)
  | 0, xs, vs, h => h
  | n + 1, [], vs, h => by
    have e : vs = [] := h
    subst e
    exact h
  | n + 1, x :: xs, _, ⟨v, r, rfl, h, t⟩ => RelDs.drop n t
theorem RelDs.get {xs : List D} {vs : List V} {i : Nat} {d : D} (h : RelDs K F H xs vs) (e : xs[i]? = some d) : ∃ v, vs[i]? = some v ∧ RelD K F H d v := h.start i d e
theorem RelDs.ints : ∀ {ns : List Int} {vs : List V}, RelDs K F H (ns.map .int) vs → vs = ns.map V.int
  | [], _, h => h
  | n :: ns, _, ⟨v, r, rfl, h, t⟩ => by
    have e : v = .int n := h
    rw [List.map_cons, e, RelDs.ints t]
theorem RelDs.bls : ∀ {ns : List Bool} {vs : List V}, RelDs K F H (ns.map .bl) vs → vs = ns.map V.bl
  | [], _, h => h
  | n :: ns, _, ⟨v, r, rfl, h, t⟩ => by
    have e : v = .bl n := h
    rw [List.map_cons, e, RelDs.bls t]
theorem RelDs.strs : ∀ {ns : List String} {vs : List V}, RelDs K F H (ns.map .str) vs → vs = ns.map fun s => V.str (S s)
  | [], _, h => h
  | n :: ns, _, ⟨v, r, rfl, h, t⟩ => by
    have e : v = .str (S n) := h
    rw [List.map_cons, e, RelDs.strs t]
theorem relDs_ints : ∀ (ns : List Int), RelDs K F H (ns.map .int) (ns.map V.int)
  | [] => rfl
  | n :: ns => ⟨_, _, rfl, rfl, relDs_ints ns⟩
theorem relDs_strs : ∀ (ns : List String), RelDs K F H (ns.map .str) (ns.map fun s => V.str (S s))
  | [] => rfl
  | n :: ns => ⟨_, _, rfl, rfl, relDs_strs ns⟩
theorem asQ_ok {d : D} {v : V} {xs : List D} (hg : RelG K T F G H) (r : RelD K F H d v) (e : asQ G d = some xs) : ∃ a vs, v = .ref a ∧ (SqL K H a vs ∨ SqT K H a vs) ∧ RelDs K F H xs vs := by
  cases d with
  | tup ys =>
    cases e
    obtain ⟨a, vs, ev, h, rs⟩ := r
    exact ⟨a, vs, ev, .inr h.sq, rs⟩
  | scr ns =>
    cases e
    obtain ⟨a, ev, h⟩ := r
    exact ⟨a, _, ev, .inl (h.imp (fun h => h.1.rd) id), relDs_ints ns⟩
  | lst ys =>
    obtain ⟨a, vs, ev, h, rs⟩ := asL_ok hg r e
    exact ⟨a, vs, ev, .inl (.inl h), rs⟩
  | ref b =>
    obtain ⟨a, vs, ev, h, rs⟩ := asL_ok hg r e
    exact ⟨a, vs, ev, .inl (.inl h), rs⟩
  | _ => cases e
end
theorem S_len (s : String) : (S s).length = s.length := by
  unfold S Str.length
  rw [Str.ofString_eq_toList]
  simp [String.length_toList]
theorem S_cps (s : String) : (S s).cps.toList = s.toList.map Char.toNat := by
  unfold S
  rw [Str.ofString_eq_toList]
theorem S_app (s t : String) : S (s ++ t) = S s ++ S t := by
  show Str.ofString (s ++ t) = ⟨(Str.ofString s).cps ++ (Str.ofString t).cps⟩
  rw [Str.ofString_eq_toList, Str.ofString_eq_toList, Str.ofString_eq_toList]
  simp
theorem S_inj {s t : String} (h : S s = S t) : s = t := by
  have e := congrArg (fun z : Str => z.cps.toList) h
  simp only [S_cps] at e
  have e2 : s.toList = t.toList := by
    have := List.map_inj_right (f := Char.toNat) (fun a b q => Char.ext (UInt32.toNat_inj.mp q)) |>.mp e
    exact this
  exact String.toList_inj.mp e2
theorem S_beq (s t : String) : (S s == S t) = (s == t) := by
  by_cases h : s = t
  · subst h; simp
  · have h' : S s ≠ S t := fun e => h (S_inj e)
    rw [beq_eq_false_iff_ne.mpr h, beq_eq_false_iff_ne.mpr h']
theorem S_dec (s t : String) : decide (S s = S t) = decide (s = t) := by
  by_cases h : s = t
  · subst h; simp
  · have h' : S s ≠ S t := fun e => h (S_inj e)
    rw [decide_eq_false h, decide_eq_false h']
end DL

namespace DL
open PySem PySem.Spec PyProof.Rows L2
variable {T : LT}
/-! ### operators by values -/
def pyAdd (G : DG) (x y : D) : Option D := match x, y with
  | .int i, .int j => some (.int (i + j))
  | .str s, .str t => if s.length + t.length ≤ 16000000 then some (.str (s ++ t)) else none
  | .tup xs, .tup ys => if xs.length + ys.length ≤ 16000000 then some (.tup (xs ++ ys)) else none
  | x, y => match asL G x, asL G y with
    | some xs, some ys => if xs.length + ys.length ≤ 16000000 then some (.lst (xs ++ ys)) else none
    | _, _ => none
def pySub (_ : DG) (x y : D) : Option D := match x, y with
  | .int i, .int j => some (.int (i - j))
  | _, _ => none
def mulOk (i j : Int) : Bool := decide (i.natAbs < 2 ^ 64) || decide (j.natAbs < 2 ^ 64) || (decide (i.natAbs < 2 ^ 600) && decide (j.natAbs < 2 ^ 600))
def pyMul (G : DG) (x y : D) : Option D := match x, y with
  | .int i, .int j => if mulOk i j = true then some (.int (i * j)) else none
  | .tup xs, .int k => if 2 ≤ k ∧ k ≤ 1000 ∧ xs.length ≤ 1000 ∧ xs ≠ [] then some (.tup (List.replicate k.toNat xs).flatten) else none
  | x, .int k => match asL G x with
    | some xs => if k ≤ 10000 ∧ xs.length ≤ 1000 ∧ -10000 ≤ k then some (.lst (List.replicate k.toNat xs).flatten) else none
    | _ => none
  | _, _ => none
def pyMod (_ : DG) (x y : D) : Option D := match x, y with
  | .int i, .int j => if 0 < j then some (.int (i % j)) else none
  | _, _ => none
def pyDiv (_ : DG) (x y : D) : Option D := match x, y with
  | .int i, .int j => if 0 < j ∧ j < 2 ^ 600 then some (.int (i / j)) else none
  | _, _ => none
def pyPow (_ : DG) (x y : D) : Option D := match x, y with
  | .int i, .int j => if 0 ≤ j ∧ j ≤ 1000 ∧ i.natAbs < 2 ^ 60 then some (.int (i ^ j.toNat)) else none
  | _, _ => none
def pyNeg (_ : DG) (x : D) : Option D := match x with
  | .int i => some (.int (-i))
  | _ => none
section
variable {X : Cx}
theorem Inv.lstR {pins : List (Addr × Obj)} {σ : L2.St} {H : Hp} {s : Shared} {l : Addr} {xs : List V} (I : Inv X pins σ H s) (h : Rd H l (.lst xs)) :
    xs.length ≤ sizeLine ∧ ∃ (its : List Value) (n : Nat), Vals xs its ∧ xs.length = its.length ∧ s.heap.get? l = some { cls := .type "list", data := .seq its.toArray n } := by
  obtain ⟨z, its, n, r, e⟩ := h.ok I.hok
  exact ⟨z, its, n, r, r.length, e⟩
theorem op_catR : OpR X (binaryOp .Add) (fun x y H Q => ∃ l b xs zs, x = .ref l ∧ y = .ref b ∧ Rd H l (.lst xs) ∧ Rd H b (.lst zs) ∧ xs.length + zs.length ≤ sizeLine ∧ ∀ p, H p = none → Q (.ref p) (upd H p (.lst (xs ++ zs)))) := by
  intro pins s σ H x y v u Q I rx ry h
  obtain ⟨l, b, xs, zs, rfl, rfl, hH, hB, hz, q⟩ := h
  cases rx
  cases ry
  obtain ⟨z, its, n, r, hl, e⟩ := Inv.lstR I hH
  obtain ⟨z2, its2, n2, r2, hl2, e2⟩ := Inv.lstR I hB
  refine PySem.P.add_list e e2 ?_ (by rw [List.size_toArray, List.size_toArray]; omega)
  have ea : its.toArray ++ its2.toArray = (its ++ its2).toArray := by simp
  rw [ea]
  exact ⟨.ref _, _, I.lnew (t' := s.toks) (r.append r2) (by rw [List.length_append]; omega), rfl, q _ I.fresh⟩
theorem op_pyAdd : OpR X (binaryOp .Add) (rD X.K T pyAdd) := by
  intro pins s σ H x y v u Q I rx ry ⟨F, G, dx, dy, z, hg, r1, r2, e, q⟩
  unfold pyAdd at e
  split at e
  · cases e
    exact op_add pins s σ H x y v u Q I rx ry ⟨_, _, r1, r2, q _ _ H Step.refl hg rfl⟩
  · rename_i a b
    split at e
    · rename_i hl
      cases e
      exact op_add_str pins s σ H x y v u Q I rx ry ⟨_, _, r1, r2, by rw [S_len, S_len]; exact small_line hl, q _ _ H Step.refl hg (show _ = V.str (S (a ++ b)) by rw [S_app])⟩
    · cases e
  · rename_i xs ys
    split at e
    · rename_i hl
      cases e
      obtain ⟨a, vs, e1, t1, k1⟩ := r1
      obtain ⟨b, ws, e2, t2, k2⟩ := r2
      have hl' : vs.length + ws.length ≤ sizeLine := by rw [← k1.length, ← k2.length]; exact small_line hl
      refine op_catA pins s σ H x y v u Q I rx ry ⟨a, b, vs, ws, e1, e2, t1.sq, t2.sq, hl', fun h0 => ?_, fun _ h0 => ?_, fun _ _ p hp => ?_⟩
      · refine q _ _ H Step.refl hg ⟨b, ws, rfl, t2, ?_⟩
        have := k1.append k2
        rw [h0] at this
        exact this
      · refine q _ _ H Step.refl hg ⟨a, vs, rfl, t1, ?_⟩
        have := k1.append k2
        rw [h0, List.append_nil] at this
        exact this
      · exact q _ _ _ (Step.new hp) (hg.new hp) (relD_newTup hg hp (k1.append k2))
    · cases e
  · split at e
    · rename_i xs ys ex ey
      split at e
      · rename_i hl
        cases e
        obtain ⟨a, vs, e1, t1, k1⟩ := asL_ok hg r1 ex
        obtain ⟨b, ws, e2, t2, k2⟩ := asL_ok hg r2 ey
        have hl' : vs.length + ws.length ≤ sizeLine := by rw [← k1.length, ← k2.length]; exact small_line hl
        exact op_catR pins s σ H x y v u Q I rx ry ⟨a, b, vs, ws, e1, e2, t1, t2, hl', fun p hp => q _ _ _ (Step.new hp) (hg.new hp) (relD_newLst hg hp (k1.append k2))⟩
      · cases e
    · cases e
theorem op_pySub : OpR X (binaryOp .Sub) (rD X.K T pySub) := by
  intro pins s σ H x y v u Q I rx ry ⟨F, G, dx, dy, z, hg, r1, r2, e, q⟩
  unfold pySub at e
  split at e
  · cases e
    exact op_sub pins s σ H x y v u Q I rx ry ⟨_, _, r1, r2, q _ _ H Step.refl hg rfl⟩
  · cases e
theorem op_pyMod : OpR X (binaryOp .Mod) (rD X.K T pyMod) := by
  intro pins s σ H x y v u Q I rx ry ⟨F, G, dx, dy, z, hg, r1, r2, e, q⟩
  unfold pyMod at e
  split at e
  · split at e
    · rename_i hj
      cases e
      exact op_mod pins s σ H x y v u Q I rx ry ⟨_, _, r1, r2, hj, q _ _ H Step.refl hg rfl⟩
    · cases e
  · cases e
theorem op_pyPow : OpR X (binaryOp .Pow) (rD X.K T pyPow) := by
  intro pins s σ H x y v u Q I rx ry ⟨F, G, dx, dy, z, hg, r1, r2, e, q⟩
  unfold pyPow at e
  split at e
  · split at e
    · rename_i hj
      cases e
      exact op_pow pins s σ H x y v u Q I rx ry ⟨_, _, r1, r2, ⟨hj.1, by omega, by omega⟩, q _ _ H Step.refl hg rfl⟩
    · cases e
  · cases e
theorem un_pyNeg : UnR X (unaryOp .USub) (rD1 X.K T pyNeg) := by
  intro pins s σ H x v Q I rx ⟨F, G, dx, z, hg, r1, e, q⟩
  unfold pyNeg at e
  split at e
  · cases e
    exact un_neg pins s σ H x v Q I rx ⟨_, r1, q _ _ H Step.refl hg rfl⟩
  · cases e
end
end DL

namespace DL
open PySem PySem.Spec PyProof.Rows L2
variable {T : LT}
section
variable {X : Cx}
theorem op_repR : OpR X (binaryOp .Mult) (fun x y H Q => ∃ l k xs, x = .ref l ∧ y = .int k ∧ Rd H l (.lst xs) ∧ -(2 ^ 63) ≤ k ∧ k < 2 ^ 63 ∧ xs.length * k.toNat ≤ sizeLine ∧
  ∀ p, H p = none → Q (.ref p) (upd H p (.lst (List.replicate k.toNat xs).flatten))) := by
  intro pins s σ H x y v u Q I rx ry ⟨l, k, xs, ex, ey, hR, lo, hi, small, q⟩
  subst ex ey
  obtain ⟨t, rfl⟩ := ry
  cases rx
  obtain ⟨_, its, n, rv, len, obj⟩ := Inv.lstR I hR
  have sz : its.toArray.size * k.toNat ≤ sizeLine := by simpa [← len] using small
  have top : (sizeLine : Nat) ≤ (2 ^ 63 - 1) / 8 := by decide
  have all : List.foldl (· ++ ·) #[] (List.replicate (if its.toArray.isEmpty = true then 0 else k.toNat) its.toArray) = (List.replicate k.toNat its).flatten.toArray := by
    have f0 := fun m => foldl_rep its m []
    simp only [List.nil_append] at f0
    rw [f0]
    cases its <;> simp
  have go := AutoListH.list___mul___list_int_3 l its.toArray n k t (by rw [fitsIndex_both lo hi]; decide) (by omega) (by rw [notLongL sz]; decide)
  refine wpAny_binaryOp_repeat_ref (T := "list") (U := "int") (by decide) ⟨_, obj, rfl⟩ (fun s' => typeIs_int s' k t) noFill_list_mul F.fills_int_mul F.slot_int_rmul repeat_list F.slot_int_index.lookup ?_
  refine call_meets F.slot_int_rmul (typeIs_int s k t) F.entry_int_rmul (F.args_int_rmul_2 _ _) (int___rmul___int_list k t l its.toArray n) ⟨obj, rfl, ⟨_, obj, rfl⟩, ?_⟩
  refine call_meets F.slot_list_mul ⟨_, obj, rfl⟩ F.entry_list_mul (F.args_list_mul_2 _ _) go ⟨obj, ?_⟩
  rw [all]
  exact ⟨.ref _, _, I.lnew (t' := s.toks) (rv.rep k.toNat) (by rw [PyProof.Rows.lm_len_rep_flat, Nat.mul_comm]; exact small), rfl, q _ I.fresh⟩
theorem relDs_flat {K : PySem.W.Frag} {F : FS} {H : Hp} {xs : List D} {vs : List V} (r : RelDs K F H xs vs) : ∀ n : Nat, RelDs K F H (List.replicate n xs).flatten (List.replicate n vs).flatten
  | 0 => rfl
  | n + 1 => by
    simp only [List.replicate_succ, List.flatten_cons]
    exact r.append (relDs_flat r n)
theorem bits64 {i : Int} (h : i.natAbs < 2 ^ 64) : Builtin.Int.intBits i ≤ 64 := by
  unfold Builtin.Int.intBits
  split
  · omega
  · rename_i hne
    have hz : i.natAbs ≠ 0 := by simpa using hne
    have := (Nat.log2_lt hz).mpr h
    omega
theorem op_mulA : OpR X (binaryOp .Mult) (rI IntMulOk fun i j => .int (i * j)) := opI fun _ _ _ _ _ _ _ hc q => mul_int q hc
theorem op_pyMul : OpR X (binaryOp .Mult) (rD X.K T pyMul) := by
  intro pins s σ H x y v u Q I rx ry ⟨F, G, dx, dy, z, hg, r1, r2, e, q⟩
  unfold pyMul at e
  split at e
  · rename_i i j
    split at e
    · rename_i hj
      cases e
      unfold mulOk at hj
      simp only [Bool.or_eq_true, Bool.and_eq_true, decide_eq_true_eq] at hj
      rcases hj with (hj | hj) | hj
      · exact op_mulA pins s σ H x y v u Q I rx ry ⟨_, _, r1, r2, .of_left (bits64 hj), q _ _ H Step.refl hg rfl⟩
      · exact op_mulA pins s σ H x y v u Q I rx ry ⟨_, _, r1, r2, .of_right (bits64 hj), q _ _ H Step.refl hg rfl⟩
      · exact op_mulW pins s σ H x y v u Q I rx ry ⟨_, _, r1, r2, wide_mul hj.1 hj.2 (by decide) (by decide) (by decide), q _ _ H Step.refl hg rfl⟩
    · cases e
  · rename_i xs k
    split at e
    · rename_i hj
      cases e
      obtain ⟨a, vs, e1, t1, k1⟩ := r1
      refine op_repT pins s σ H x y v u Q I rx ry ⟨a, k, vs, e1, r2, t1.sq, ?_, hj.1, hj.2.1, by rw [← k1.length]; exact hj.2.2.1, fun p hp => q _ _ _ (Step.new hp) (hg.new hp) (relD_newTup hg hp (relDs_flat k1 _))⟩
      intro z
      rw [z] at k1
      exact hj.2.2.2 (List.eq_nil_of_length_eq_zero k1.length)
    · cases e
  · rename_i x k _ _
    split at e
    · rename_i xs ex
      split at e
      · rename_i hj
        cases e
        obtain ⟨a, vs, e1, t1, k1⟩ := asL_ok hg r1 ex
        refine op_repR pins s σ H _ y v u Q I rx ry ⟨a, k, vs, e1, r2, t1, by omega, by omega, ?_, fun p hp => q _ _ _ (Step.new hp) (hg.new hp) (relD_newLst hg hp (relDs_flat k1 _))⟩
        rw [← k1.length]
        have h1 : k.toNat ≤ 10000 := by omega
        exact Nat.le_trans (Nat.mul_le_mul hj.2.1 h1) (by decide)
      · cases e
    · cases e
  · cases e
theorem op_pyDiv : OpR X (binaryOp .FloorDiv) (rD X.K T pyDiv) := by
  intro pins s σ H x y v u Q I rx ry ⟨F, G, dx, dy, z, hg, r1, r2, e, q⟩
  unfold pyDiv at e
  split at e
  · rename_i i j
    split at e
    · rename_i hj
      cases e
      have hb : j.natAbs < 2 ^ 600 := by omega
      exact op_fdivW pins s σ H x y v u Q I rx ry ⟨_, _, r1, r2, wide_div hj.1 hb (by decide) (by decide), q _ _ H Step.refl hg rfl⟩
    · cases e
  · cases e
end
/-! ### comparisons -/
def strLt (s t : String) : Bool := decide (s.toList.map Char.toNat < t.toList.map Char.toNat)
def pyLt (_ : DG) (x y : D) : Option D := match x, y with
  | .int i, .int j => some (.bl (decide (i < j)))
  | .str s, .str t => some (.bl (strLt s t))
  | _, _ => none
def pyGt (_ : DG) (x y : D) : Option D := match x, y with
  | .int i, .int j => some (.bl (decide (j < i)))
  | .str s, .str t => some (.bl (strLt t s))
  | _, _ => none
def pyLe (_ : DG) (x y : D) : Option D := match x, y with
  | .int i, .int j => some (.bl (decide (i ≤ j)))
  | .str s, .str t => some (.bl (!strLt t s))
  | _, _ => none
def pyGe (_ : DG) (x y : D) : Option D := match x, y with
  | .int i, .int j => some (.bl (decide (j ≤ i)))
  | .str s, .str t => some (.bl (!strLt s t))
  | _, _ => none
def isNon : D → Bool
  | .non => true
  | _ => false
def pyIs (_ : DG) (x y : D) : Option D := match x, y with
  | x, .non => some (.bl (isNon x))
  | .bl a, .bl b => some (.bl (a == b))
  | _, _ => none
def pyIsNot (_ : DG) (x y : D) : Option D := match x, y with
  | x, .non => some (.bl (!isNon x))
  | .bl a, .bl b => some (.bl (!(a == b)))
  | _, _ => none
section
variable {X : Cx}
theorem op_pyLt : OpR X (compareOp .Lt) (rD X.K T pyLt) := by
  intro pins s σ H x y v u Q I rx ry ⟨F, G, dx, dy, z, hg, r1, r2, e, q⟩
  unfold pyLt at e
  split at e
  · cases e
    exact op_lt pins s σ H x y v u Q I rx ry ⟨_, _, r1, r2, q _ _ H Step.refl hg rfl⟩
  · cases e
    exact op_lt_str pins s σ H x y v u Q I rx ry ⟨_, _, r1, r2, by rw [S_cps, S_cps]; exact q _ _ H Step.refl hg rfl⟩
  · cases e
theorem op_pyGt : OpR X (compareOp .Gt) (rD X.K T pyGt) := by
  intro pins s σ H x y v u Q I rx ry ⟨F, G, dx, dy, z, hg, r1, r2, e, q⟩
  unfold pyGt at e
  split at e
  · cases e
    exact op_gt pins s σ H x y v u Q I rx ry ⟨_, _, r1, r2, q _ _ H Step.refl hg rfl⟩
  · cases e
    exact op_gt_str pins s σ H x y v u Q I rx ry ⟨_, _, r1, r2, by rw [S_cps, S_cps]; exact q _ _ H Step.refl hg rfl⟩
  · cases e
theorem op_pyLe : OpR X (compareOp .LtE) (rD X.K T pyLe) := by
  intro pins s σ H x y v u Q I rx ry ⟨F, G, dx, dy, z, hg, r1, r2, e, q⟩
  unfold pyLe at e
  split at e
  · cases e
    exact op_le pins s σ H x y v u Q I rx ry ⟨_, _, r1, r2, q _ _ H Step.refl hg rfl⟩
  · cases e
    exact op_le_str pins s σ H x y v u Q I rx ry ⟨_, _, r1, r2, by rw [S_cps, S_cps]; exact q _ _ H Step.refl hg rfl⟩
  · cases e
theorem op_pyGe : OpR X (compareOp .GtE) (rD X.K T pyGe) := by
  intro pins s σ H x y v u Q I rx ry ⟨F, G, dx, dy, z, hg, r1, r2, e, q⟩
  unfold pyGe at e
  split at e
  · cases e
    exact op_ge pins s σ H x y v u Q I rx ry ⟨_, _, r1, r2, q _ _ H Step.refl hg rfl⟩
  · cases e
    exact op_ge_str pins s σ H x y v u Q I rx ry ⟨_, _, r1, r2, by rw [S_cps, S_cps]; exact q _ _ H Step.refl hg rfl⟩
  · cases e
theorem relD_non {K : PySem.W.Frag} {F : FS} {H : Hp} {d : D} {v : V} (r : RelD K F H d v) : decide (v = V.non) = isNon d := by
  cases d with
  | non => rw [show v = V.non from r]; rfl
  | bl b => rw [show v = V.bl b from r]; rfl
  | int b => rw [show v = V.int b from r]; rfl
  | str b => rw [show v = V.str (S b) from r]; rfl
  | tup b => obtain ⟨a, vs, e, _⟩ := r; rw [e]; rfl
  | lst b => obtain ⟨a, vs, e, _⟩ := r; rw [e]; rfl
  | dct b => obtain ⟨a, vs, e, _⟩ := r; rw [e]; rfl
  | ref b => rw [show v = V.ref b from r]; rfl
  | scr b => obtain ⟨a, e, _⟩ := r; rw [e]; rfl
theorem op_pyIs : OpR X (compareOp .Is) (rD X.K T pyIs) := by
  intro pins s σ H x y v u Q I rx ry ⟨F, G, dx, dy, z, hg, r1, r2, e, q⟩
  unfold pyIs at e
  split at e
  · cases e
    exact op_isN pins s σ H x y v u Q I rx ry ⟨r2, by rw [relD_non r1]; exact q _ _ H Step.refl hg rfl⟩
  · rename_i a b
    cases e
    exact op_is_bl pins s σ H x y v u Q I rx ry ⟨_, _, r1, r2, q _ _ H Step.refl hg (by rw [Bool.beq_eq_decide_eq]; rfl)⟩
  · cases e
theorem op_pyIsNot : OpR X (compareOp .IsNot) (rD X.K T pyIsNot) := by
  intro pins s σ H x y v u Q I rx ry ⟨F, G, dx, dy, z, hg, r1, r2, e, q⟩
  unfold pyIsNot at e
  split at e
  · cases e
    exact op_notN pins s σ H x y v u Q I rx ry ⟨r2, by rw [relD_non r1]; exact q _ _ H Step.refl hg rfl⟩
  · rename_i a b
    cases e
    exact op_isnot_bl pins s σ H x y v u Q I rx ry ⟨_, _, r1, r2, q _ _ H Step.refl hg (by rw [Bool.beq_eq_decide_eq]; rfl)⟩
  · cases e
end
end DL

namespace DL
open PySem PySem.Spec PyProof.Rows L2
variable {T : LT}
/-! ### == -/
def mapO {α β : Type} (f : α → Option β) : List α → Option (List β)
  | [] => some []
  | x :: xs => match f x, mapO f xs with
    | some y, some ys => some (y :: ys)
    | _, _ => none
def toPy (G : DG) : Nat → D → Option PyData
  | _, .non => some .none
  | _, .bl b => some (.bool b)
  | _, .int i => some (.int i)
  | _, .str s => some (.str (S s))
  | n + 1, .tup xs => (mapO (toPy G n) xs).map .tuple
  | n + 1, .lst xs => (mapO (toPy G n) xs).map .list
  | n + 1, .scr ns => (mapO (toPy G n) (ns.map .int)).map .list
  | n + 1, .ref a => match lstO (G a) with
    | some xs => (mapO (toPy G n) xs).map .list
    | none => none
  | _, _ => none
theorem strOk_S (s : String) : PyData.strOk (S s) = true := by
  unfold PyData.strOk
  rw [← Array.all_toList, S_cps, List.all_map, List.all_eq_true]
  intro c _
  have h := c.valid
  simp only [UInt32.isValidChar, Nat.isValidChar] at h
  simp only [Function.comp_apply, decide_eq_true_eq]
  show c.val.toNat < 0x110000
  omega
section
variable {K : PySem.W.Frag} {F : FS} {G : DG} {H : Hp}
theorem toPys_ok {n : Nat} (ih : ∀ d v y, RelD K F H d v → toPy G n d = some y → Dp K H v y ∧ y.canLay0 = true ∧ y.depth ≤ n) : ∀ (xs : List D) (vs : List V) (ys : List PyData), RelDs K F H xs vs → mapO (toPy G n) xs = some ys →
    DpAll K H vs ys ∧ PyData.canLayAll0 ys = true ∧ PyData.depthAll ys ≤ n
  | [], vs, ys, h, e => by
    have e1 : vs = [] := h
    cases e
    subst e1
    exact ⟨.nil, by simp [PyData.canLayAll0], by simp [PyData.depthAll]⟩
  | x :: xs, _, ys, ⟨v, r, rfl, h, t⟩, e => by
    unfold mapO at e
    split at e
    · rename_i y ys' e1 e2
      cases e
      obtain ⟨a1, a2, a3⟩ := ih x v y h e1
      obtain ⟨b1, b2, b3⟩ := toPys_ok ih xs r ys' t e2
      exact ⟨.cons a1 b1, by simp [PyData.canLayAll0, a2, b2], by simp only [PyData.depthAll]; omega⟩
    · cases e
theorem toPy_ok (hg : RelG K T F G H) : ∀ (n : Nat) (d : D) (v : V) (y : PyData), RelD K F H d v → toPy G n d = some y → Dp K H v y ∧ y.canLay0 = true ∧ y.depth ≤ n := by
  intro n
  induction n with
  | zero =>
    intro d v y r e
    cases d with
    | non => cases e; rw [show v = V.non from r]; exact ⟨.non, by simp [PyData.canLay0], by simp [PyData.depth]⟩
    | bl b => cases e; rw [show v = V.bl b from r]; exact ⟨.bl b, by simp [PyData.canLay0], by simp [PyData.depth]⟩
    | int b => cases e; rw [show v = V.int b from r]; exact ⟨.int b, by simp [PyData.canLay0], by simp [PyData.depth]⟩
    | str b => cases e; rw [show v = V.str (S b) from r]; exact ⟨.str _, by simp [PyData.canLay0, strOk_S], by simp [PyData.depth]⟩
    | _ => cases e
  | succ n ih =>
    intro d v y r e
    cases d with
    | non => cases e; rw [show v = V.non from r]; exact ⟨.non, by simp [PyData.canLay0], by simp [PyData.depth]⟩
    | bl b => cases e; rw [show v = V.bl b from r]; exact ⟨.bl b, by simp [PyData.canLay0], by simp [PyData.depth]⟩
    | int b => cases e; rw [show v = V.int b from r]; exact ⟨.int b, by simp [PyData.canLay0], by simp [PyData.depth]⟩
    | str b => cases e; rw [show v = V.str (S b) from r]; exact ⟨.str _, by simp [PyData.canLay0, strOk_S], by simp [PyData.depth]⟩
    | tup xs =>
      obtain ⟨ys, e1, rfl⟩ := Option.map_eq_some_iff.mp e
      obtain ⟨a, vs, rfl, t, k⟩ := r
      obtain ⟨b1, b2, b3⟩ := toPys_ok ih xs vs ys k e1
      exact ⟨.tup t.sq b1, by simpa [PyData.canLay0] using b2, by simp only [PyData.depth]; omega⟩
    | lst xs =>
      obtain ⟨ys, e1, rfl⟩ := Option.map_eq_some_iff.mp e
      obtain ⟨a, vs, rfl, t, k⟩ := r
      obtain ⟨b1, b2, b3⟩ := toPys_ok ih xs vs ys k e1
      exact ⟨.lst (.inl t.1.rd) b1, by simpa [PyData.canLay0] using b2, by simp only [PyData.depth]; omega⟩
    | scr ns =>
      obtain ⟨ys, e1, rfl⟩ := Option.map_eq_some_iff.mp e
      obtain ⟨a, rfl, h⟩ := r
      obtain ⟨b1, b2, b3⟩ := toPys_ok ih (ns.map .int) (ns.map V.int) ys (relDs_ints ns) e1
      exact ⟨.lst (h.imp (fun h => h.1.rd) id) b1, by simpa [PyData.canLay0] using b2, by simp only [PyData.depth]; omega⟩
    | ref a =>
      have ev : v = V.ref a := r
      subst ev
      unfold toPy at e
      split at e
      · rename_i xs q
        obtain ⟨ys, e1, rfl⟩ := Option.map_eq_some_iff.mp e
        obtain ⟨vs, h, k⟩ := hg.ob a _ (lstO_eq q)
        obtain ⟨b1, b2, b3⟩ := toPys_ok ih xs vs ys k e1
        exact ⟨.lst (.inl (.inl h)) b1, by simpa [PyData.canLay0] using b2, by simp only [PyData.depth]; omega⟩
      · cases e
    | _ => cases e
end
def pyEqB (G : DG) (x y : D) : Option Bool := match x, y with
  | .int i, .int j => some (decide (i = j))
  | .str s, .str t => some (decide (s = t))
  | x, y => match toPy G 40 x, toPy G 40 y with
    | some d, some e => some (PyData.eqv d e)
    | _, _ => none
def pyEq (G : DG) (x y : D) : Option D := (pyEqB G x y).map .bl
def pyNe (G : DG) (x y : D) : Option D := (pyEqB G x y).map fun b => .bl (!b)
section
variable {X : Cx}
theorem shaped_of {d : PyData} (h1 : d.canLay0 = true) (h2 : d.depth ≤ 40) : SeqAt.shaped d = true := by
  unfold SeqAt.shaped
  rw [h1, decide_eq_true (by omega)]
  rfl
theorem op_pyEq (hu : X.A.units + 64 < cLine) : OpR X (compareOp .Eq) (rD X.K T pyEq) := by
  intro pins s σ H x y v u Q I rx ry ⟨F, G, dx, dy, z, hg, r1, r2, e, q⟩
  obtain ⟨b, e', rfl⟩ := Option.map_eq_some_iff.mp e
  clear e
  have e := e'
  clear e'
  unfold pyEqB at e
  split at e
  · cases e
    have r1 : x = _ := r1
    have r2 : y = _ := r2
    subst r1 r2
    exact op_eq pins s σ H _ _ v u Q I rx ry ⟨rfl, q _ _ H Step.refl hg (by show _ = V.bl _; congr 1; simp)⟩
  · cases e
    have r1 : x = _ := r1
    have r2 : y = _ := r2
    subst r1 r2
    exact op_eq pins s σ H _ _ v u Q I rx ry ⟨rfl, q _ _ H Step.refl hg (by show _ = V.bl _; congr 1; rw [← S_dec]; simp)⟩
  · split at e
    · rename_i d e' h1 h2
      cases e
      obtain ⟨a1, a2, a3⟩ := toPy_ok hg 40 _ _ _ r1 h1
      obtain ⟨b1, b2, b3⟩ := toPy_ok hg 40 _ _ _ r2 h2
      exact op_eqD hu pins s σ H _ _ v u Q I rx ry ⟨d, e', a1, b1, shaped_of a2 a3, shaped_of b2 b3, q _ _ H Step.refl hg rfl⟩
    · cases e
theorem op_pyNe (hu : X.A.units + 64 < cLine) : OpR X (compareOp .NotEq) (rD X.K T pyNe) := by
  intro pins s σ H x y v u Q I rx ry ⟨F, G, dx, dy, z, hg, r1, r2, e, q⟩
  obtain ⟨b, e', rfl⟩ := Option.map_eq_some_iff.mp e
  clear e
  have e := e'
  clear e'
  unfold pyEqB at e
  split at e
  · cases e
    have r1 : x = _ := r1
    have r2 : y = _ := r2
    subst r1 r2
    exact op_ne pins s σ H _ _ v u Q I rx ry ⟨rfl, q _ _ H Step.refl hg (by show _ = V.bl _; congr 1; simp)⟩
  · cases e
    have r1 : x = _ := r1
    have r2 : y = _ := r2
    subst r1 r2
    exact op_ne pins s σ H _ _ v u Q I rx ry ⟨rfl, q _ _ H Step.refl hg (by show _ = V.bl _; congr 1; rw [← S_dec]; simp)⟩
  · split at e
    · rename_i d e' h1 h2
      cases e
      obtain ⟨a1, a2, a3⟩ := toPy_ok hg 40 _ _ _ r1 h1
      obtain ⟨b1, b2, b3⟩ := toPy_ok hg 40 _ _ _ r2 h2
      exact op_neD hu pins s σ H _ _ v u Q I rx ry ⟨d, e', a1, b1, shaped_of a2 a3, shaped_of b2 b3, q _ _ H Step.refl hg rfl⟩
    · cases e
end
end DL

namespace DL
open PySem PySem.Spec PyProof.Rows L2
variable {T : LT}
/-! ### dicts by keys -/
def dkEq : D → D → Bool
  | .int i, .int j => decide (i = j)
  | .str s, .str t => decide (s = t)
  | _, _ => false
def dget (kvs : List (D × D)) (k : D) : Option D := (kvs.find? fun p => dkEq p.1 k).map (·.2)
def dput (kvs : List (D × D)) (k v : D) : List (D × D) :=
  if (kvs.any fun p => dkEq p.1 k) = true then kvs.map (fun p => if dkEq p.1 k = true then (p.1, v) else p) else kvs ++ [(k, v)]
def ddrop (kvs : List (D × D)) (k : D) : List (D × D) := kvs.filter fun p => !dkEq p.1 k
def dctO : Option DO → Option (List (D × D))
  | some (.dct xs) => some xs
  | _ => none
theorem dctO_eq {o : Option DO} {xs : List (D × D)} (h : dctO o = some xs) : o = some (.dct xs) := by
  unfold dctO at h
  split at h
  · cases h; rfl
  · cases h
def asD (G : DG) : D → Option (List (D × D))
  | .dct xs => some xs
  | .ref a => dctO (G a)
  | _ => none
section
variable {K : PySem.W.Frag} {F : FS} {G : DG} {H : Hp}
theorem asD_ok {d : D} {v : V} {xs : List (D × D)} (hg : RelG K T F G H) (r : RelD K F H d v) (e : asD G d = some xs) : ∃ a ws, v = .ref a ∧ Rd H a (.dK ws) ∧ RelKs K F H xs ws := by
  cases d with
  | dct ys =>
    cases e
    obtain ⟨a, vs, ev, h, rs⟩ := r
    exact ⟨a, vs, ev, h.1.rd, rs⟩
  | ref a =>
    have ev : v = .ref a := r
    obtain ⟨vs, h, rs⟩ := hg.ob a _ (dctO_eq e)
    exact ⟨a, vs, ev, .inl h, rs⟩
  | _ => cases e
theorem dkEq_key {a b : D} {ka kb : Key} (ha : keyOf a = some ka) (hb : keyOf b = some kb) : dkEq a b = decide (ka = kb) := by
  cases a <;> simp only [keyOf, reduceCtorEq] at ha <;> cases ha <;> cases b <;> simp only [keyOf, reduceCtorEq] at hb <;> cases hb
  · rw [key_ll, Bool.beq_eq_decide_eq]; rfl
  · rw [key_lr]; rfl
  · rw [key_rl]; rfl
  · rw [key_rr, S_dec]; rfl
theorem keyOf_rel {k : D} {key : Key} {v : V} (h : keyOf k = some key) (r : RelD K F H k v) : v = kV key := by
  cases k <;> simp only [keyOf, reduceCtorEq] at h <;> cases h
  · exact r
  · exact r
theorem relKs_val {k : D} {key : Key} (hk : keyOf k = some key) : ∀ {kvs : List (D × D)} {ws : List (Key × V)}, RelKs K F H kvs ws →
    (∀ d, dget kvs k = some d → ∃ v, valV ws key = some v ∧ RelD K F H d v) ∧ (dget kvs k = none → valV ws key = none)
  | [], ws, h => by
    have e : ws = [] := h
    subst e
    exact ⟨(fun d z => by simp [dget] at z), (fun _ => rfl)⟩
  | (k', x) :: r, _, ⟨key', v, ws', rfl, hk', rx, t⟩ => by
    have ih := relKs_val hk t
    have e := dkEq_key hk' hk
    unfold dget
    rw [List.find?_cons]
    by_cases q : key' = key
    · rw [e, decide_eq_true q]
      refine ⟨fun d z => ?_, fun z => by simp at z⟩
      simp only [Option.map_some, Option.some.injEq] at z
      subst z
      exact ⟨v, valV_pos q, rx⟩
    · rw [e, decide_eq_false q]
      rw [valV_neg q]
      exact ih
theorem relKs_any {k : D} {key : Key} (hk : keyOf k = some key) : ∀ {kvs : List (D × D)} {ws : List (Key × V)}, RelKs K F H kvs ws → (kvs.any fun p => dkEq p.1 k) = ws.any fun p => decide (p.1 = key)
  | [], ws, h => by
    have e : ws = [] := h
    subst e
    rfl
  | (k', x) :: r, _, ⟨key', v, ws', rfl, hk', rx, t⟩ => by
    rw [List.any_cons, List.any_cons, relKs_any hk t, dkEq_key hk' hk]
theorem RelKs.snoc {k x : D} {key : Key} {v : V} (hk : keyOf k = some key) (rx : RelD K F H x v) : ∀ {kvs : List (D × D)} {ws : List (Key × V)}, RelKs K F H kvs ws → RelKs K F H (kvs ++ [(k, x)]) (ws ++ [(key, v)])
  | [], ws, h => by
    have e : ws = [] := h
    subst e
    exact ⟨key, v, [], rfl, hk, rx, rfl⟩
  | (k', x') :: r, _, ⟨key', v', ws', rfl, hk', rx', t⟩ => ⟨key', v', _, rfl, hk', rx', RelKs.snoc hk rx t⟩
theorem RelKs.repl {k x : D} {key : Key} {v : V} (hk : keyOf k = some key) (rx : RelD K F H x v) : ∀ {kvs : List (D × D)} {ws : List (Key × V)}, RelKs K F H kvs ws →
    RelKs K F H (kvs.map fun p => if dkEq p.1 k = true then (p.1, x) else p) (ws.map fun p => if p.1 = key then (p.1, v) else p)
  | [], ws, h => by
    have e : ws = [] := h
    subst e
    rfl
  | (k', x') :: r, _, ⟨key', v', ws', rfl, hk', rx', t⟩ => by
    rw [List.map_cons, List.map_cons]
    have e := dkEq_key hk' hk
    by_cases q : key' = key
    · rw [if_pos (by rw [e]; exact decide_eq_true q), if_pos q]
      exact ⟨key', v, _, rfl, hk', rx, RelKs.repl hk rx t⟩
    · rw [if_neg (by rw [e]; simpa using q), if_neg q]
      exact ⟨key', v', _, rfl, hk', rx', RelKs.repl hk rx t⟩
theorem RelKs.put {k x : D} {key : Key} {v : V} (hk : keyOf k = some key) (rx : RelD K F H x v) {kvs : List (D × D)} {ws : List (Key × V)} (h : RelKs K F H kvs ws) : RelKs K F H (dput kvs k x) (putK ws key v) := by
  unfold dput putK
  rw [relKs_any hk h]
  split
  · exact h.repl hk rx
  · exact h.snoc hk rx
theorem RelKs.drop {k : D} {key : Key} (hk : keyOf k = some key) : ∀ {kvs : List (D × D)} {ws : List (Key × V)}, RelKs K F H kvs ws → RelKs K F H (ddrop kvs k) (dropK ws key)
  | [], ws, h => by
    have e : ws = [] := h
    subst e
    rfl
  | (k', x') :: r, _, ⟨key', v', ws', rfl, hk', rx', t⟩ => by
    have e := dkEq_key hk' hk
    unfold ddrop dropK
    by_cases q : key' = key
    · rw [List.filter_cons_of_neg (by simp [e, q]), List.filter_cons_of_neg (by simp [q])]
      exact RelKs.drop hk t
    · rw [List.filter_cons_of_pos (by simp [e, q]), List.filter_cons_of_pos (by simp [q])]
      exact ⟨key', v', _, rfl, hk', rx', RelKs.drop hk t⟩
theorem RelKs.length : ∀ {kvs : List (D × D)} {ws : List (Key × V)}, RelKs K F H kvs ws → kvs.length = ws.length
  | [], ws, h => by
    have e : ws = [] := h
    subst e
    rfl
  | (k', x') :: r, _, ⟨key', v', ws', rfl, hk', rx', t⟩ => by rw [List.length_cons, List.length_cons, RelKs.length t]
end
/-! ### in -/
def flatD : D → Bool
  | .non => true
  | .bl _ => true
  | .int _ => true
  | .str _ => true
  | _ => false
def eqF : D → D → Bool
  | .non, .non => true
  | .bl a, .bl b => a == b
  | .bl a, .int b => (if a then 1 else 0) == b
  | .int a, .bl b => a == (if b then 1 else 0)
  | .int a, .int b => a == b
  | .str a, .str b => a == b
  | _, _ => false
section
variable {K : PySem.W.Frag} {F : FS} {G : DG} {H : Hp}
theorem flat_rel {d : D} {v : V} (h : flatD d = true) (r : RelD K F H d v) : flatV v = true := by
  cases d <;> simp only [flatD, reduceCtorEq, Bool.false_eq_true] at h
  · rw [show v = _ from r]; rfl
  · rw [show v = _ from r]; rfl
  · rw [show v = _ from r]; rfl
  · rw [show v = _ from r]; rfl
theorem eqF_rel {d e : D} {v u : V} (h : flatD d = true) (h' : flatD e = true) (r : RelD K F H d v) (r' : RelD K F H e u) : eqV v u = eqF d e := by
  cases d <;> simp only [flatD, reduceCtorEq, Bool.false_eq_true] at h <;> cases e <;> simp only [flatD, reduceCtorEq, Bool.false_eq_true] at h' <;>
    rw [show v = _ from r, show u = _ from r'] <;> first | rfl | exact S_beq _ _
theorem flats_rel : ∀ {ds : List D} {vs : List V}, RelDs K F H ds vs → ds.all flatD = true → vs.all flatV = true
  | [], vs, h, _ => by
    have e : vs = [] := h
    subst e
    rfl
  | x :: xs, _, ⟨v, r, rfl, h, t⟩, e => by
    rw [List.all_cons, Bool.and_eq_true] at e ⊢
    exact ⟨flat_rel e.1 h, flats_rel t e.2⟩
theorem inF_rel {x : D} {u : V} (hx : flatD x = true) (rx : RelD K F H x u) : ∀ {ds : List D} {vs : List V}, RelDs K F H ds vs → ds.all flatD = true → inV u vs = ds.any fun y => eqF y x
  | [], vs, h, _ => by
    have e : vs = [] := h
    subst e
    rfl
  | y :: ys, _, ⟨v, r, rfl, h, t⟩, e => by
    rw [List.all_cons, Bool.and_eq_true] at e
    have ih := inF_rel hx rx t e.2
    unfold inV at ih ⊢
    rw [List.any_cons, List.any_cons, ih, eqF_rel e.1 hx h rx]
end
def signOf (s : String) : Option Char := match s.toList with
  | [c] => some c
  | _ => none
def pyInB (G : DG) (x y : D) : Option Bool := match x, y with
  | .str s, .str t => (signOf s).map fun c => t.toList.contains c
  | x, y => match asQ G y with
    | some ys => if flatD x && ys.all flatD then some (ys.any fun z => eqF z x) else none
    | none => match asD G y, keyOf x with
      | some kvs, some _ => some (dget kvs x).isSome
      | _, _ => none
def pyIn (G : DG) (x y : D) : Option D := (pyInB G x y).map .bl
def pyNotIn (G : DG) (x y : D) : Option D := (pyInB G x y).map fun b => .bl (!b)
theorem mem_toNat (c : Char) (l : List Char) : decide (c.toNat ∈ l.map Char.toNat) = l.contains c := by
  have h : c.toNat ∈ l.map Char.toNat ↔ c ∈ l := by
    constructor
    · intro h
      obtain ⟨d, hd, e⟩ := List.mem_map.mp h
      have : d = c := Char.ext (UInt32.toNat_inj.mp e)
      rw [← this]
      exact hd
    · exact fun h => List.mem_map.mpr ⟨c, h, rfl⟩
  rw [List.contains_eq_mem]
  exact decide_eq_decide.mpr h
theorem sign_cps {s : String} {c : Char} (h : signOf s = some c) : S s = ⟨#[c.toNat]⟩ := by
  unfold signOf at h
  split at h
  · rename_i d e
    cases h
    unfold S
    rw [Str.ofString_eq_toList, e]
    rfl
  · cases h
section
variable {X : Cx}
theorem op_pyIn (hu : X.A.units + 1 < cLine) : OpR X (compareOp .In) (rD X.K T pyIn) := by
  intro pins s σ H x y v u Q I rx ry ⟨F, G, dx, dy, z, hg, r1, r2, e, q⟩
  obtain ⟨b, e', rfl⟩ := Option.map_eq_some_iff.mp e
  clear e
  unfold pyInB at e'
  split at e'
  · obtain ⟨c, e1, rfl⟩ := Option.map_eq_some_iff.mp e'
    exact op_in_sign pins s σ H x y v u Q I rx ry ⟨c.toNat, _, by rw [← sign_cps e1]; exact r1, r2, by rw [S_cps, mem_toNat]; exact q _ _ H Step.refl hg rfl⟩
  · split at e'
    · rename_i ys ey
      split at e'
      · rename_i hf
        cases e'
        rw [Bool.and_eq_true] at hf
        obtain ⟨a, vs, e1, t1, k1⟩ := asQ_ok hg r2 ey
        exact op_in_seq pins s σ H x y v u Q I rx ry ⟨a, vs, e1, t1, flat_rel hf.1 r1, flats_rel k1 hf.2, by rw [inF_rel hf.1 r1 k1 hf.2]; exact q _ _ H Step.refl hg rfl⟩
      · cases e'
    · split at e'
      · rename_i kvs key ed ek
        cases e'
        obtain ⟨a, ws, e1, t1, k1⟩ := asD_ok hg r2 ed
        have hv := relKs_val ek k1
        have eo : (valV ws key).isSome = (dget kvs dx).isSome := by
          cases q : dget kvs dx with
          | none => rw [hv.2 q]; rfl
          | some d => obtain ⟨v, h1, _⟩ := hv.1 d q; rw [h1]; rfl
        subst e1
        cases ry
        refine d_in hu I (.inl ⟨ws, key, t1, keyOf_rel ek r1, rfl⟩) rx fun s' I' => ?_
        rw [eo]
        exact ⟨.bl _, H, I', rfl, q _ _ H Step.refl hg rfl⟩
      · cases e'
theorem op_pyNotIn (hu : X.A.units + 1 < cLine) : OpR X (compareOp .NotIn) (rD X.K T pyNotIn) := by
  intro pins s σ H x y v u Q I rx ry ⟨F, G, dx, dy, z, hg, r1, r2, e, q⟩
  obtain ⟨b, e', rfl⟩ := Option.map_eq_some_iff.mp e
  clear e
  unfold pyInB at e'
  split at e'
  · obtain ⟨c, e1, rfl⟩ := Option.map_eq_some_iff.mp e'
    exact op_notIn_sign pins s σ H x y v u Q I rx ry ⟨c.toNat, _, by rw [← sign_cps e1]; exact r1, r2, by rw [S_cps, mem_toNat]; exact q _ _ H Step.refl hg rfl⟩
  · split at e'
    · rename_i ys ey
      split at e'
      · rename_i hf
        cases e'
        rw [Bool.and_eq_true] at hf
        obtain ⟨a, vs, e1, t1, k1⟩ := asQ_ok hg r2 ey
        exact op_notIn_seq pins s σ H x y v u Q I rx ry ⟨a, vs, e1, t1, flat_rel hf.1 r1, flats_rel k1 hf.2, by rw [inF_rel hf.1 r1 k1 hf.2]; exact q _ _ H Step.refl hg rfl⟩
      · cases e'
    · split at e'
      · rename_i kvs key ed ek
        cases e'
        obtain ⟨a, ws, e1, t1, k1⟩ := asD_ok hg r2 ed
        have hv := relKs_val ek k1
        have eo : (valV ws key).isSome = (dget kvs dx).isSome := by
          cases q : dget kvs dx with
          | none => rw [hv.2 q]; rfl
          | some d => obtain ⟨v, h1, _⟩ := hv.1 d q; rw [h1]; rfl
        subst e1
        cases ry
        refine d_notIn hu I (.inl ⟨ws, key, t1, keyOf_rel ek r1, rfl⟩) rx fun s' I' => ?_
        rw [eo]
        exact ⟨.bl _, H, I', rfl, q _ _ H Step.refl hg rfl⟩
      · cases e'
end
end DL

namespace DL
open PySem PySem.Spec PyProof.Rows L2
variable {T : LT}
/-! ### subscripts, slices -/
def pyItem (G : DG) (x y : D) : Option D := match y with
  | .int i => match x with
    | .str s => if s.length ≤ 16000000 then (atI s.toList i).map fun c => .str (String.ofList [c]) else none
    | x => match asQ G x with
      | some xs => atI xs i
      | none => match asD G x with
        | some kvs => dget kvs y
        | none => none
  | y => match asD G x, keyOf y with
    | some kvs, some _ => dget kvs y
    | _, _ => none
theorem atI_map {α β : Type} (f : α → β) (xs : List α) (i : Int) : atI (xs.map f) i = (atI xs i).map f := by
  unfold atI
  rw [List.length_map]
  cases ixN xs.length i with
  | none => rfl
  | some j => simp
theorem atI_rel {K : PySem.W.Frag} {F : FS} {H : Hp} {xs : List D} {vs : List V} {i : Int} {d : D} (r : RelDs K F H xs vs) (h : atI xs i = some d) : ∃ v, atI vs i = some v ∧ RelD K F H d v := by
  unfold atI at h ⊢
  rw [← r.length]
  cases q : ixN xs.length i with
  | none => rw [q] at h; cases h
  | some j =>
    rw [q] at h
    exact r.get h
section
variable {X : Cx} {W : WX} {a b : Expr} {ta tb : DTE} {pos : Pos}
theorem ix_pyItem (hu : X.A.units + 1 < cLine) : IxR X (fun x y H Q => rD X.K T pyItem x y H Q) := by
  intro value slice pins s σ H x y v u Q I rx ry ⟨F, G, dx, dy, z, hg, r1, r2, e, q⟩ hs
  have dct : ∀ kvs key, asD G dx = some kvs → keyOf dy = some key → dget kvs dy = some z → wpAny (model X.prog X.w) X.A (subscriptTail value slice v u) (EP X pins σ Q) X.xe s := fun kvs key ed ek ez => by
    obtain ⟨a, ws, e1, t1, k1⟩ := asD_ok hg r1 ed
    obtain ⟨w1, h1, h2⟩ := (relKs_val ek k1).1 z ez
    subst e1
    cases rx
    have g : DGet H a y (some w1) := .inl ⟨ws, key, t1, keyOf_rel ek r2, h1.symm⟩
    exact tail_any (dict_typeIs I g) PySem.F.slot_dict_getitem.lookup (d_getItem hu I g ry fun w' s3 I3 rw' => ⟨w1, H, I3, rw', q _ _ H Step.refl hg h2⟩) hs
  unfold pyItem at e
  split at e
  · rename_i i
    split at e
    · rename_i st
      split at e
      · rename_i hl
        obtain ⟨c, e1, rfl⟩ := Option.map_eq_some_iff.mp e
        exact ix_str value slice pins s σ H x y v u Q I rx ry ⟨_, i, c.toNat, r1, r2, by rw [S_len]; exact small_line hl, by rw [S_cps, atI_map, e1]; rfl, q _ _ H Step.refl hg (by show _ = V.str (S (String.ofList [c])); unfold S; rw [Str.ofString_eq_toList]; simp)⟩ hs
      · cases e
    · split at e
      · rename_i xs ex
        obtain ⟨a, vs, e1, t1, k1⟩ := asQ_ok hg r1 ex
        obtain ⟨w1, h1, h2⟩ := atI_rel k1 e
        rcases t1 with t1 | t1
        · exact ix_list value slice pins s σ H x y v u Q I rx ry ⟨a, vs, i, w1, e1, r2, t1, h1, q _ _ H Step.refl hg h2⟩ hs
        · exact ix_tup value slice pins s σ H x y v u Q I rx ry ⟨a, vs, i, w1, e1, r2, t1, h1, q _ _ H Step.refl hg h2⟩ hs
      · split at e
        · rename_i kvs ed
          exact dct kvs _ ed rfl e
        · cases e
  · split at e
    · rename_i kvs key ed ek
      exact dct kvs key ed ek e
    · cases e
theorem q_item (hu : X.A.units + 1 < cLine) (ha : QE X T W a ta) (hb : QE X T W b tb) (hs : PlainIx b := by exact fun _ _ => rfl) : QE X T W (.Subscript a b pos) (dOp pyItem ta tb) :=
  PE.imp (pe_ix (ix_pyItem hu) ha hb hs) fun σ H Q ⟨env, F, G, E, P, hg, hs, hx, ht, hq⟩ =>
    ⟨env, F, G, E, _, hg, hs, hx, ht, fun x F1 G1 v1 H1 h1 s1 g1 r1 => ⟨env, F1, G1, E, _, g1, hs.step s1, hx.step s1, h1, fun y F2 G2 v2 H2 ⟨z, e, p⟩ s2 g2 r2 =>
      ⟨F2, G2, x, y, z, g2, RelD.step s2 x r1, r2, e, fun F' v H' s3 g3 r3 => hq z _ G2 v H' p (s1.trans (s2.trans s3)) g3 r3⟩⟩⟩
end
/-! slices -/
abbrev DTO := DXK → DSt → DG → (Option Int → DG → Prop) → Prop
def dNoPart : DTO := fun _ _ G Q => Q none G
def dPart (t : DTE) : DTO := fun E env G Q => t E env G fun x G1 => ∃ i, x = .int i ∧ Q (some i) G1
def cutD (xs : List D) (lo hi : Option Int) : List D := (xs.drop (HT.sIx xs.length 0 lo)).take (HT.sIx xs.length xs.length hi - HT.sIx xs.length 0 lo)
def cutC (xs : List Char) (lo hi : Option Int) : List Char := (xs.drop (HT.sIx xs.length 0 lo)).take (HT.sIx xs.length xs.length hi - HT.sIx xs.length 0 lo)
def pySlice (G : DG) (x : D) (lo hi : Option Int) : Option D := match x with
  | .tup xs => some (.tup (cutD xs lo hi))
  | .str s => if s.length ≤ 16000000 then some (.str (String.ofList (cutC s.toList lo hi))) else none
  | x => (asL G x).map fun xs => .lst (cutD xs lo hi)
def dSlice (t : DTE) (l h : DTO) : DTE := fun E env G Q => t E env G fun x G1 => l E env G1 fun lo G2 => h E env G2 fun hi G3 => ∃ z, pySlice G3 x lo hi = some z ∧ Q z G3
def liftO (K : PySem.W.Frag) (T : LT) (W : WX) (t : DTO) : TO := fun σ H Q => ∃ env F G E P, RelG K T F G H ∧ RelSt K F H env σ ∧ XOk K T W E F G H ∧ t E env G P ∧
  ∀ o F' G' H', P o G' → Step F G H F' G' H' → RelG K T F' G' H' → Q o H'
abbrev QO (X : Cx) (T : LT) (W : WX) (e : Option Expr) (t : DTO) : Prop := PO X e (liftO X.K T W t)
theorem PO.imp {X : Cx} {e : Option Expr} {t t' : TO} (h : PO X e t) (k : ∀ σ H Q, t' σ H Q → t σ H Q) : PO X e t' := ⟨fun pins s σ H Q I w => h.run pins s σ H Q I (k σ H Q w)⟩
theorem cut_rel {K : PySem.W.Frag} {F : FS} {H : Hp} {xs : List D} {vs : List V} (lo hi : Option Int) (r : RelDs K F H xs vs) : RelDs K F H (cutD xs lo hi) (cutV vs lo hi) := by
  unfold cutD cutV
  rw [← r.length]
  exact (r.drop _).take _
section
variable {X : Cx} {W : WX} {a b : Expr} {ta tb : DTE} {pos p2 : Pos} {lo hi : Option Expr} {tl th : DTO}
theorem qo_none : QO X T W none dNoPart := PO.imp po_none fun σ H Q ⟨env, F, G, E, P, hg, hs, hx, ht, hq⟩ => hq none _ G H ht Step.refl hg
theorem qo_some (h : QE X T W a ta) : QO X T W (some a) (dPart ta) := PO.imp (po_some h) fun σ H Q ⟨env, F, G, E, P, hg, hs, hx, ht, hq⟩ =>
  ⟨env, F, G, E, _, hg, hs, hx, ht, fun x F1 G1 v1 H1 ⟨i, e, p⟩ s1 g1 r1 => by
    subst e
    exact ⟨i, r1, hq (some i) _ G1 H1 p s1 g1⟩⟩
theorem sl_pySlice : SlR X (fun x lo hi H Q => ∃ F G dx z, RelG X.K T F G H ∧ RelD X.K F H dx x ∧ pySlice G dx lo hi = some z ∧ ∀ F' v H', Step F G H F' G H' → RelG X.K T F' G H' → RelD X.K F' H' z v → Q v H') := by
  intro pins s σ H x v vl vu lo hi sl Q I rx hs pl pu ⟨F, G, dx, z, hg, r1, e, q⟩
  have lst : ∀ xs, asL G dx = some xs → z = .lst (cutD xs lo hi) → ∃ T id, typeLookup (.type T) "__getitem__" = pure (some (.builtin id)) ∧ s.TypeIs v T ∧ wpAny (model X.prog X.w) X.A (getItem v (.ref sl)) (EP X pins σ Q) X.xe s := fun xs ex ez => by
    subst ez
    obtain ⟨a, vs, e1, t1, k1⟩ := asL_ok hg r1 ex
    exact sl_list pins s σ H x v vl vu lo hi sl Q I rx hs pl pu ⟨a, vs, e1, .inl t1, fun p hp => q _ _ _ (Step.new hp) (hg.new hp) (relD_newLst hg hp (cut_rel lo hi k1))⟩
  unfold pySlice at e
  split at e
  · rename_i xs
    cases e
    obtain ⟨a, vs, e1, t1, k1⟩ := r1
    refine sl_tupA pins s σ H x v vl vu lo hi sl Q I rx hs pl pu ⟨a, vs, e1, t1.sq, fun hw => ?_, fun _ p hp => q _ _ _ (Step.new hp) (hg.new hp) (relD_newTup hg hp (cut_rel lo hi k1))⟩
    refine q _ _ H Step.refl hg ⟨a, vs, rfl, t1, ?_⟩
    have := cut_rel lo hi k1
    unfold cutV at this
    rw [hw.1, hw.2] at this
    simpa using this
  · rename_i st
    split at e
    · rename_i hl
      cases e
      refine sl_str pins s σ H x v vl vu lo hi sl Q I rx hs pl pu ⟨_, r1, by rw [S_len]; exact small_line hl, q _ _ H Step.refl hg ?_⟩
      show _ = V.str (S (String.ofList (cutC st.toList lo hi)))
      congr 1
      unfold cutS cutC
      rw [S_cps, S_len]
      unfold S
      rw [Str.ofString_eq_toList, String.toList_ofList, String.length_toList]
      simp
    · cases e
  · obtain ⟨xs, ex, ez⟩ := Option.map_eq_some_iff.mp e
    exact lst xs ex ez.symm
theorem q_slice (ha : QE X T W a ta) (hl : QO X T W lo tl) (hh : QO X T W hi th) : QE X T W (.Subscript a (.Slice lo hi none p2) pos) (dSlice ta tl th) :=
  PE.imp (pe_slice sl_pySlice ha hl hh) fun σ H Q ⟨env, F, G, E, P, hg, hs, hx, ht, hq⟩ =>
    ⟨env, F, G, E, _, hg, hs, hx, ht, fun x F1 G1 v1 H1 h1 s1 g1 r1 => ⟨env, F1, G1, E, _, g1, hs.step s1, hx.step s1, h1, fun l F2 G2 H2 h2 s2 g2 => ⟨env, F2, G2, E, _, g2, hs.step (s1.trans s2), hx.step (s1.trans s2), h2, fun h F3 G3 H3 ⟨z, e, p⟩ s3 g3 =>
      ⟨F3, G3, x, z, g3, RelD.step (s2.trans s3) x r1, e, fun F' v H' s4 g4 r4 => hq z _ G3 v H' p (s1.trans (s2.trans (s3.trans s4))) g4 r4⟩⟩⟩⟩
end
end DL

namespace DL
open PySem PySem.Spec PyProof.Rows L2
variable {T : LT}
/-! ### what is walked -/
def IterOk (K : PySem.W.Frag) (T : LT) (F0 : FS) (G0 : DG) (H0 : Hp) (J : It) (items : List D) (guard : DG → Prop) : Prop :=
  ∀ i F G H, Step F0 G0 H0 F G H → RelG K T F G H → guard G →
    (∀ d, items[i]? = some d → J.go i H ∧ ∀ x H1, J.yld i H x H1 → ∃ F1, Step F G H F1 G H1 ∧ RelG K T F1 G H1 ∧ RelD K F1 H1 d x) ∧ (i = items.length → J.stop i H)
abbrev DTI := DXK → DSt → DG → (List D → (DG → Prop) → DG → Prop) → Prop
def liftI (K : PySem.W.Frag) (T : LT) (W : WX) (t : DTI) : TI := fun σ H R => ∃ env F G E P, RelG K T F G H ∧ RelSt K F H env σ ∧ XOk K T W E F G H ∧ t E env G P ∧
  ∀ items guard F' G' H' J, P items guard G' → Step F G H F' G' H' → RelG K T F' G' H' → IterOk K T F' G' H' J items guard → R J H'
abbrev QI (X : Cx) (T : LT) (W : WX) (tg e : Expr) (t : DTI) : Prop := PI X tg e (liftI X.K T W t)
theorem PI.imp {X : Cx} {tg e : Expr} {t t' : TI} (h : PI X tg e t) (k : ∀ σ H Q, t' σ H Q → t σ H Q) : PI X tg e t' := ⟨fun pins s σ H Q I w => h.run pins s σ H Q I (k σ H Q w)⟩
/-! targets: a name, several names -/
inductive Tg where
  | n (i : Nat) | t (is : List Nat)
def setAll {α : Type} (σ : List (Option α)) : List Nat → List α → List (Option α)
  | i :: is, x :: xs => setAll (σ.set i (some x)) is xs
  | _, _ => σ
def gsN : List Nat → TGs
  | [] => gNil
  | i :: is => gCons (gName i) (gsN is)
def vTg (K : PySem.W.Frag) : Tg → TG
  | .n i => gName i
  | .t is => gTup K is.length (gsN is)
def dTg : Tg → D → DSt → (DSt → Prop) → Prop
  | .n i, d, env, Q => Q (env.set i (some d))
  | .t is, d, env, Q => ∃ xs, d = .tup xs ∧ xs.length = is.length ∧ Q (setAll env is xs)
theorem gsN_run {Q : L2.St → Hp → Prop} {H : Hp} : ∀ (is : List Nat) (vs : List V) (σ : L2.St), vs.length = is.length → Q (setAll σ is vs) H → gsN is vs σ H Q
  | [], vs, σ, hl, q => by
    have e : vs = [] := List.eq_nil_of_length_eq_zero hl
    subst e
    exact ⟨rfl, q⟩
  | i :: is, [], σ, hl, q => by simp at hl
  | i :: is, v :: vs, σ, hl, q => ⟨v, vs, rfl, gsN_run is vs _ (by simpa using hl) q⟩
theorem relSt_setAll {K : PySem.W.Frag} {F : FS} {H : Hp} : ∀ (is : List Nat) (ds : List D) (vs : List V) (env : DSt) (σ : L2.St), RelDs K F H ds vs → RelSt K F H env σ → RelSt K F H (setAll env is ds) (setAll σ is vs)
  | [], ds, vs, env, σ, _, r => by cases ds <;> cases vs <;> exact r
  | i :: is, [], vs, env, σ, h, r => by
    have e : vs = [] := h
    subst e
    exact r
  | i :: is, d :: ds, _, env, σ, ⟨v, vs, rfl, h, t⟩, r => relSt_setAll is ds vs _ _ t (r.set h)
/-- the store of a value, seen from both sides -/
theorem tg_run {K : PySem.W.Frag} {F : FS} {H : Hp} {tg : Tg} {d : D} {v : V} {env : DSt} {σ : L2.St} {P : DSt → Prop} {Q : L2.St → Hp → Prop} (rs : RelSt K F H env σ) (r : RelD K F H d v) (h : dTg tg d env P)
    (q : ∀ env' σ', P env' → RelSt K F H env' σ' → (∃ vs, (σ' = match tg with | .n i => σ.set i (some v) | .t is => setAll σ is vs)) → Q σ' H) : vTg K tg v σ H Q := by
  cases tg with
  | n i => exact q _ _ h (rs.set r) ⟨[], rfl⟩
  | t is =>
    obtain ⟨xs, rfl, hl, p⟩ := h
    obtain ⟨a, vs, rfl, t, k⟩ := r
    exact ⟨a, vs, rfl, t.sq, by rw [← k.length]; exact hl, gsN_run is vs σ (by rw [← k.length]; exact hl) (q _ _ p (relSt_setAll is xs vs env σ k rs) ⟨vs, rfl⟩)⟩
/-! ### for -/
def dLoop (E : DXK) (tg : Tg) (tb : DTS) (DE : DEnds) (guard : DG → Prop) : List D → DSt → DG → Prop
  | [], env, G => guard G ∧ DE.nx env G
  | d :: ds, env, G => guard G ∧ dTg tg d env fun env1 => tb E { DE with nx := fun env2 G2 => dLoop E tg tb DE guard ds env2 G2 } env1 G
def sFor (wi : DTI) (tg : Tg) (tb : DTS) : DTS := fun E DE env G => wi E env G fun items guard G1 => dLoop E tg tb DE guard items env G1
section
variable {X : Cx} {W : WX} {pos : Pos}
theorem qs_for {tgE iter : Expr} {body : List Stmt} {wi : DTI} {tg : Tg} {tb : DTS} (hp : PassesOwn (model X.prog X.w) X.A X.env X.xe) (hc : X.calm = true) (hi : QI X T W tgE iter wi) (hg : PG X tgE (vTg X.K tg)) (hb : QSs X T W body tb)
    (hs : ∀ x, foldedSetIterable iter X.env x = pure x := by intro _; rfl) : QS X T W (.For tgE iter body [] pos) (sFor wi tg tb) :=
  PS.imp (ps_for hp hc hi hg hb hs) fun D σ H ⟨env, F, G, E, DE, hg, hs, hx, ht, hn, hr⟩ => ⟨env, F, G, E, _, hg, hs, hx, ht, fun items guard F1 G1 H1 J p s1 g1 ok => by
    refine ⟨fun i m σ H2 => m = items.length - i ∧ i ≤ items.length ∧ ∃ env' F' G', Step F1 G1 H1 F' G' H2 ∧ RelG X.K T F' G' H2 ∧ RelSt X.K F' H2 env' σ ∧ dLoop E tg tb DE guard (items.drop i) env' G',
      ⟨_, rfl, Nat.zero_le _, env, F1, G1, Step.refl, g1, hs.step s1, by rw [List.drop_zero]; exact p⟩, ?_⟩
    rintro i m σ H2 ⟨rfl, hi, env', F', G', s2, g2, r2, l⟩
    by_cases hlt : i < items.length
    · right
      have ed : items.drop i = items[i] :: items.drop (i + 1) := List.drop_eq_getElem_cons hlt
      rw [ed] at l
      obtain ⟨gd, l⟩ := l
      obtain ⟨hgo, hy⟩ := (ok i F' G' H2 s2 g2 gd).1 items[i] (List.getElem?_eq_getElem hlt)
      refine ⟨hgo, fun σ' H' => ∃ env'' F'' G'', Step F1 G1 H1 F'' G'' H' ∧ RelG X.K T F'' G'' H' ∧ RelSt X.K F'' H' env'' σ' ∧ dLoop E tg tb DE guard (items.drop (i + 1)) env'' G'', fun σ' H' w => ⟨items.length - (i + 1), by omega, rfl, hlt, w⟩, fun x H3 y => ?_⟩
      obtain ⟨F3, s3, g3, r3⟩ := hy x H3 y
      refine tg_run (r2.step s3) r3 l fun env4 σ4 p4 r4 _ => ?_
      have s13 := s2.trans s3
      refine ⟨env4, F3, G', E, _, g3, r4, hx.step (s1.trans s13), p4, fun env5 F5 G5 σ5 H5 p5 s5 g5 r5 => ⟨env5, F5, G5, s13.trans s5, g5, r5, p5⟩, fun d F5 G5 v H5 p5 s5 g5 r5 => hr d _ G5 v H5 p5 (s1.trans (s13.trans s5)) g5 r5⟩
    · left
      have e : i = items.length := by omega
      subst e
      rw [List.drop_length] at l
      obtain ⟨gd, l⟩ := l
      exact ⟨(ok _ F' G' H2 s2 g2 gd).2 rfl, hn env' _ G' σ H2 l (s1.trans s2) g2 r2⟩⟩
end
/-! ### list comprehensions -/
def wipeD (env : DSt) : List Nat → DSt
  | [] => env
  | v :: vs => (wipeD env vs).set v none
def EF : DXK := fun _ _ _ => False
abbrev WF : WX := fun _ _ _ _ => False
def dLcL (tg : Tg) (tt : DTT) (te : DTE) (guard : DG → Prop) (env : DSt) : List D → DG → (List D → DG → Prop) → Prop
  | [], G, Q => guard G ∧ Q [] G
  | d :: ds, G, Q => guard G ∧ dTg tg d env fun env1 => tt EF env1 G fun b G1 => if b = true then te EF env1 G1 fun y G2 => dLcL tg tt te guard env ds G2 fun ys G3 => Q (y :: ys) G3 else dLcL tg tt te guard env ds G1 Q
def dYes : DTT := fun _ _ G Q => Q true G
def dLc (wi : DTI) (tg : Tg) (tt : DTT) (te : DTE) (vs : List Nat) : DTE := fun E env G Q => wi E env G fun items guard G1 => items.length ≤ 16000000 ∧ dLcL tg tt te guard (wipeD env vs) items G1 fun ys G2 => Q (.lst ys) G2
def dLcB (wi : DTI) (tg : Tg) (tt : DTT) (te : DTE) (vs : List Nat) : DTE := fun E env G Q => wi E env G fun items guard G1 => items.length ≤ 16000000 ∧ dLcL tg tt te guard (wipeD env vs) items G1 fun ys G2 => ∀ p, G2 p = none → Q (.ref p) (gset G2 p (some (.lst ys)))
theorem relSt_wipe {K : PySem.W.Frag} {F : FS} {H : Hp} {env : DSt} {σ : L2.St} (r : RelSt K F H env σ) : ∀ vs : List Nat, RelSt K F H (wipeD env vs) (wipe σ vs)
  | [] => r
  | v :: vs => by
    have ih := relSt_wipe r vs
    unfold wipeD wipe
    refine ⟨by simp [ih.1], fun j d e => ?_⟩
    by_cases hj : v = j
    · subst hj
      by_cases hv : v < (wipeD env vs).length
      · rw [List.getElem?_set_self hv] at e; cases e
      · rw [List.getElem?_eq_none (by simpa using hv)] at e; cases e
    · rw [List.getElem?_set_ne hj] at e ⊢
      exact ih.2 j d e
def tgIn : Tg → List Nat → Bool
  | .n i, vs => vs.contains i
  | .t is, vs => is.all fun i => vs.contains i
theorem wipe_set {σ : L2.St} {i : Nat} {o : Option V} : ∀ {vs : List Nat}, i ∈ vs → wipe (σ.set i o) vs = wipe σ vs
  | [], h => by cases h
  | v :: vs, h => by
    unfold wipe
    by_cases hv : i ∈ vs
    · rw [wipe_set hv]
    · have e : i = v := by
        rcases List.mem_cons.mp h with e | e
        · exact e
        · exact absurd e hv
      subst e
      have key : ∀ (ws : List Nat) (σ : L2.St), i ∉ ws → wipe (σ.set i o) ws = (wipe σ ws).set i o := fun ws => by
        induction ws with
        | nil => intro σ _; rfl
        | cons w ws ih =>
          intro σ hw
          unfold wipe
          rw [ih σ fun z => hw (List.mem_cons_of_mem _ z), List.set_comm _ _ (fun z => hw (by rw [z]; exact List.mem_cons_self))]
      rw [key vs σ hv, List.set_set]
theorem wipe_setAll {vs : List Nat} : ∀ (is : List Nat) (xs : List V) (σ : L2.St), (∀ i ∈ is, i ∈ vs) → wipe (setAll σ is xs) vs = wipe σ vs
  | [], xs, σ, _ => by cases xs <;> rfl
  | i :: is, [], σ, _ => rfl
  | i :: is, x :: xs, σ, h => by
    unfold setAll
    rw [wipe_setAll is xs _ fun j hj => h j (List.mem_cons_of_mem _ hj), wipe_set (h i List.mem_cons_self)]
theorem wipe_wipe {σ : L2.St} (vs : List Nat) : wipe (wipe σ vs) vs = wipe σ vs := by
  have key : ∀ (ws us : List Nat) (σ : L2.St), (∀ w ∈ ws, w ∈ us) → wipe (wipe σ ws) us = wipe σ us := fun ws => by
    induction ws with
    | nil => intro us σ _; rfl
    | cons w ws ih =>
      intro us σ h
      rw [show wipe σ (w :: ws) = (wipe σ ws).set w none from rfl, wipe_set (h w List.mem_cons_self)]
      exact ih us σ fun x hx => h x (List.mem_cons_of_mem _ hx)
  exact key vs vs σ fun _ h => h
section
variable {X : Cx} {W : WX} {pos : Pos}
/-- the loop of a comprehension, by HandS's word -/
theorem lc_word {K : PySem.W.Frag} {J : It} {items : List D} {guard : DG → Prop} {tg : Tg} {tt : DTT} {te : DTE} {vs : List Nat} {env : DSt} {σ : L2.St} {F1 : FS} {G1 : DG} {H1 : Hp} {D1 : Addr} {P : List D → DG → Prop} {Q : VK} (hv : tgIn tg vs = true) (hlen : items.length ≤ 16000000)
    (g1 : RelG K T F1 G1 H1) (r1 : RelSt K F1 H1 env σ) (ok : IterOk K T F1 G1 H1 J items guard) (hD : H1 D1 = none) (l : dLcL tg tt te guard (wipeD env vs) items G1 P)
    (fin : ∀ ys F2 G2 H2 ws, P ys G2 → Step F1 G1 H1 F2 G2 H2 → RelG K T F2 G2 H2 → H2 D1 = some (.lst ws) → ¬ F2 D1 → G2 D1 = none → RelDs K F2 H2 ys ws → Q (.ref D1) H2) :
    ∃ Wd : Nat → Nat → Hp → Prop, (∃ m, Wd 0 m (upd H1 D1 (.lst []))) ∧ ∀ i m H, Wd i m H →
      (J.stop i H ∧ Q (.ref D1) H) ∨ (J.go i H ∧ ∃ Nx : Hp → Prop, (∀ H', Nx H' → ∃ m', m' < m ∧ Wd (i + 1) m' H') ∧ ∀ x H', J.yld i H x H' → vTg K tg x (wipe σ vs) H' fun σ2 H2 => wipe σ2 vs = wipe σ vs ∧ liftT K T WF tt σ2 H2 fun b H3 =>
        if b = true then liftE K T WF te σ2 H3 fun y H4 => ∃ acc, H4 D1 = some (.lst acc) ∧ acc.length < sizeLine ∧ Nx (upd H4 D1 (.lst (acc ++ [y]))) else Nx H3) := by
  refine ⟨fun i m H => m = items.length - i ∧ i ≤ items.length ∧ ∃ F G ys ws, Step F1 G1 H1 F G H ∧ RelG K T F G H ∧ H D1 = some (.lst ws) ∧ ¬ F D1 ∧ G D1 = none ∧ RelDs K F H ys ws ∧ ys.length ≤ i ∧ dLcL tg tt te guard (wipeD env vs) (items.drop i) G fun zs G2 => P (ys ++ zs) G2,
    ⟨_, rfl, Nat.zero_le _, F1, G1, [], [], Step.priv hD, g1.priv hD, upd_same, g1.nof hD, g1.free hD, rfl, Nat.le_refl _, by rw [List.drop_zero]; exact l⟩, ?_⟩
  rintro i m H ⟨rfl, hi, F, G, ys, ws, s2, g2, eD, fD, gD, rel, hyl, l⟩
  by_cases hlt : i < items.length
  · right
    rw [List.drop_eq_getElem_cons hlt] at l
    obtain ⟨gd, l⟩ := l
    obtain ⟨hgo, hy⟩ := (ok i F G H s2 g2 gd).1 items[i] (List.getElem?_eq_getElem hlt)
    refine ⟨hgo, fun H' => ∃ F G ys ws, Step F1 G1 H1 F G H' ∧ RelG K T F G H' ∧ H' D1 = some (.lst ws) ∧ ¬ F D1 ∧ G D1 = none ∧ RelDs K F H' ys ws ∧ ys.length ≤ i + 1 ∧ dLcL tg tt te guard (wipeD env vs) (items.drop (i + 1)) G fun zs G2 => P (ys ++ zs) G2,
      fun H' w => ⟨items.length - (i + 1), by omega, rfl, hlt, w⟩, fun x H3 y => ?_⟩
    obtain ⟨F3, s3, g3, r3⟩ := hy x H3 y
    have s13 := s2.trans s3
    refine tg_run (relSt_wipe (r1.step s13) vs) r3 l fun env4 σ4 p4 r4 e4 => ⟨?_, ?_⟩
    · obtain ⟨us, e4⟩ := e4
      rw [e4]
      cases tg with
      | n j => exact (wipe_set (by simpa [tgIn] using hv)).trans (wipe_wipe vs)
      | t js => exact (wipe_setAll js us _ (by simpa [tgIn] using hv)).trans (wipe_wipe vs)
    · refine ⟨env4, F3, G, EF, _, g3, r4, (fun _ _ _ _ _ _ _ _ z => z.elim), p4, fun b F5 G5 H5 p5 s5 g5 => ?_⟩
      obtain ⟨fd3, gd3, e3⟩ := s3.pv D1 _ fD gD eD rfl
      obtain ⟨fd5, gd5, e5⟩ := s5.pv D1 _ fd3 gd3 e3 rfl
      cases b with
      | false =>
        rw [if_neg Bool.false_ne_true] at p5 ⊢
        exact ⟨F5, G5, ys, ws, s13.trans s5, g5, e5, fd5, gd5, RelDs.step (s3.trans s5) ys rel, by omega, p5⟩
      | true =>
        rw [if_pos rfl] at p5 ⊢
        refine ⟨env4, F5, G5, EF, _, g5, r4.step s5, (fun _ _ _ _ _ _ _ _ z => z.elim), p5, fun y F6 G6 v6 H6 p6 s6 g6 r6 => ?_⟩
        obtain ⟨fd6, gd6, e6⟩ := s6.pv D1 _ fd5 gd5 e5 rfl
        have rel6 := RelDs.step (s3.trans (s5.trans s6)) ys rel
        refine ⟨ws, e6, by rw [← rel6.length]; exact Nat.lt_of_lt_of_le (Nat.lt_of_le_of_lt hyl (Nat.lt_of_lt_of_le hlt hlen)) (by decide), ?_⟩
        refine ⟨F6, G6, ys ++ [y], ws ++ [v6], ((s13.trans s5).trans s6).wr hD, g6.wr fd6 gd6 e6 rfl, upd_same, fd6, gd6, RelDs.kept (kept_wr fd6) _ (rel6.append ⟨v6, [], rfl, r6, rfl⟩), by rw [List.length_append]; simp; omega, ?_⟩
        have : (fun zs G2 => P (ys ++ [y] ++ zs) G2) = fun zs G2 => P (ys ++ y :: zs) G2 := by funext zs G2; simp
        rw [this]
        exact p6
  · left
    have e : i = items.length := by omega
    subst e
    rw [List.drop_length] at l
    obtain ⟨gd, l⟩ := l
    rw [List.append_nil] at l
    exact ⟨(ok _ F G H s2 g2 gd).2 rfl, fin ys F G H ws l s2 g2 eD fD gD rel⟩
end
end DL

namespace DL
open PySem PySem.Spec PyProof.Rows L2
variable {T : LT}
/-! ### what an iterator of our own draws from: a list, a tuple, a text -/
inductive SK where
  | l (a : Addr) | t (a : Addr) | s (x : Str)
def SK.at : SK → List Addr
  | .l a => [a]
  | .t a => [a]
  | .s _ => []
def tnS : SK → Addr → Nat → Heap → Prop
  | .l a, it, i, h => h.IsListIter it a i
  | .t a, it, i, h => h.IsTupleIter it a i
  | .s x, it, i, h => ∃ tk, h.IsStrIter it (strIterType x) x tk i
def signV (x : Str) : List V := x.cps.toList.map fun c => V.str ⟨#[c]⟩
def rdS (K : PySem.W.Frag) (H : Hp) : SK → List V → Prop
  | .l a, xs => SqL K H a xs
  | .t a, xs => SqT K H a xs
  | .s x, xs => xs = signV x
def kvS : SK → V
  | .l a => .ref a
  | .t a => .ref a
  | .s x => .str x
theorem tnS_at {k : SK} {it : Addr} {i : Nat} {h h' : Heap} (st : tnS k it i h) (e : ∀ o, h.get? it = some o → h'.get? it = some o) : tnS k it i h' := by
  cases k with
  | l a => exact Heap.IsListIter.at st e
  | t a => exact Heap.IsTupleIter.at st e
  | s x =>
    obtain ⟨tk, o, ho, r⟩ := st
    exact ⟨tk, o, e o ho, r⟩
theorem tnS_obj {k : SK} {it : Addr} {i : Nat} {h : Heap} (st : tnS k it i h) : ∃ o, h.get? it = some o ∧ ∀ v, o.data ≠ .cell v := by
  cases k with
  | l a => obtain ⟨o, ho, _, d⟩ := st; exact ⟨o, ho, fun v q => by rw [d] at q; cases q⟩
  | t a => obtain ⟨o, ho, _, d⟩ := st; exact ⟨o, ho, fun v q => by rw [d] at q; cases q⟩
  | s x => obtain ⟨tk, o, ho, _, d⟩ := st; exact ⟨o, ho, fun v q => by rw [d] at q; cases q⟩
section
variable {X : Cx} {pins : List (Addr × Obj)} {σ : L2.St} {H : Hp} {s : Shared}
theorem rdS_inj {k : SK} {xs ys : List V} (I : Inv X pins σ H s) (h : rdS X.K H k xs) (h' : rdS X.K H k ys) : xs = ys := by
  cases k with
  | l a => exact I.list_inj h h'
  | t a => exact I.tuple_inj h h'
  | s x => rw [show xs = _ from h, show ys = _ from h']
/-- the source draws, seen at one state -/
theorem rdS_draws {k : SK} {xs : List V} {it : Addr} {i : Nat} (I : Inv X pins σ H s) (hh : X.A.handled = none) (r : rdS X.K H k xs) (st : tnS k it i s.heap) (hne : it ∉ k.at) :
    ∃ (P : Nat → Value → Prop) (St : Nat → Heap → Prop), Draws X.prog X.w X.A.in1 it (it :: k.at) xs.length P St ∧ St i s.heap ∧ (∀ j v, j < xs.length → P j v → ∃ x, xs[j]? = some x ∧ RelV x v) ∧ ∀ j h, St j h → tnS k it j h := by
  cases k with
  | l a =>
    obtain ⟨its, rv, p, _⟩ := I.list r
    have hl := rv.length
    have D := Draws.list (prog := X.prog) (w := X.w) (A := X.A.in1) hh it a (fun z => hne (by simp [SK.at, z])) its.toArray
    rw [show its.toArray.size = xs.length by simp [hl]] at D
    refine ⟨_, _, D, ⟨st, p.isList⟩, fun j v hj e => ?_, fun j h st => st.1⟩
    have hx : xs[j]? = some xs[j] := List.getElem?_eq_getElem hj
    obtain ⟨u, hu, ru⟩ := rv.get hx
    refine ⟨_, hx, ?_⟩
    simp only [List.getElem?_toArray] at e
    rw [hu] at e
    cases e
    exact ru
  | t a =>
    obtain ⟨its, rv, p, _⟩ := I.tuple r
    have hl := rv.length
    have D := Draws.tuple (prog := X.prog) (w := X.w) (A := X.A.in1) hh it a (fun z => hne (by simp [SK.at, z])) its.toArray
    rw [show its.toArray.size = xs.length by simp [hl]] at D
    refine ⟨_, _, D, ⟨st, p⟩, fun j v hj e => ?_, fun j h st => st.1⟩
    have hx : xs[j]? = some xs[j] := List.getElem?_eq_getElem hj
    obtain ⟨u, hu, ru⟩ := rv.get hx
    refine ⟨_, hx, ?_⟩
    simp only [List.getElem?_toArray] at e
    rw [hu] at e
    cases e
    exact ru
  | s x =>
    obtain ⟨tk, st⟩ := st
    have hl : x.cps.size = xs.length := by rw [show xs = _ from r]; simp [signV]
    refine ⟨_, _, hl ▸ Draws.text (A := X.A.in1) hh it x tk, st, fun j v hj e => ?_, fun j h st => ⟨tk, st⟩⟩
    obtain ⟨c, u, hc, rfl⟩ := e
    refine ⟨.str ⟨#[c]⟩, ?_, ⟨u, rfl⟩⟩
    rw [show xs = _ from r]
    simp [signV, hc]
def obS : SK → Value → Obj
  | .l a, _ => { cls := .type "list_iterator", data := .fields #[.ref a, .int 0 0] }
  | .t a, _ => { cls := .type "tuple_iterator", data := .fields #[.ref a, .int 0 0] }
  | .s x, v => { cls := .type (strIterType x), data := .fields #[v, .int 0 0] }
theorem rdS_begins {k : SK} {xs : List V} {v : Value} (I : Inv X pins σ H s) (r : rdS X.K H k xs) (rv : RelV (kvS k) v) : ∃ Hp, Begins v (obS k v) Hp ∧ Hp s.heap ∧ (∀ a ∈ k.at, a < s.heap.objs.size) ∧ ∀ it h, h.get? it = some (obS k v) → tnS k it 0 h := by
  cases k with
  | l a =>
    obtain ⟨its, rv', p, _⟩ := I.list r
    obtain rfl : v = Value.ref a := rv
    exact ⟨_, begins_list a its.toArray, p.isList, fun b hb => by rw [List.mem_singleton.mp hb]; exact p.lt, fun it h e => ⟨_, e, rfl, rfl⟩⟩
  | t a =>
    obtain ⟨its, rv', p, _⟩ := I.tuple r
    obtain rfl : v = Value.ref a := rv
    exact ⟨_, begins_tuple a its.toArray, p, fun b hb => by rw [List.mem_singleton.mp hb]; obtain ⟨o, ho, _⟩ := p; exact Heap.lt_size ho, fun it h e => ⟨_, e, rfl, rfl⟩⟩
  | s x =>
    obtain ⟨tk, rfl⟩ : ∃ tk, v = Value.str x tk := rv
    exact ⟨fun _ => True, begins_text x tk, trivial, fun b hb => (by cases hb), fun it h e => ⟨tk, _, e, rfl, rfl⟩⟩
end
/-- pairs drawn from two -/
def ItZ (K : PySem.W.Frag) (k1 k2 : SK) : It :=
  ⟨fun i H => ∃ (xs ys : List V), rdS K H k1 xs ∧ rdS K H k2 ys ∧ i < min xs.length ys.length,
    fun i H v H' => ∃ T x y, v = .ref T ∧ H T = none ∧ H' = upd H T (.tup [x, y]) ∧ (∀ xs, rdS K H k1 xs → xs[i]? = some x) ∧ ∀ ys, rdS K H k2 ys → ys[i]? = some y,
    fun i H => ∃ xs ys : List V, rdS K H k1 xs ∧ rdS K H k2 ys ∧ i = min xs.length ys.length⟩
theorem turn_Z {P : Program} {w : World} {K : PySem.W.Frag} {elts : List Expr} {kk : Nat} {tpos : Pos} {k1 k2 : SK} {z TI TO i1 i2 : Addr} (D : ZipSep2 z TI TO i1 i2 (i1 :: k1.at) (i2 :: k2.at)) (n1 : i1 ∉ k1.at) (n2 : i2 ∉ k2.at) :
    Turn P w K (.Tuple elts kk tpos) (ItZ K k1 k2) [z, TI, TO, i1, i2] z (fun i h => IsZip h z TI TO .none ∧ IsTupOf2 h TI (.ref i1) (.ref i2) ∧ (∃ x y, IsTupOf2 h TO x y) ∧ tnS k1 i1 i h ∧ tnS k2 i2 i h) where
  mem := by simp
  obj := fun i h st c hc => by
    obtain ⟨hz, hTI, ⟨x, y, hTO⟩, s1, s2⟩ := st
    have e' : c = z ∨ c = TI ∨ c = TO ∨ c = i1 ∨ c = i2 := by simpa using hc
    rcases e' with q | q | q | q | q
    · rw [q]; exact ⟨_, hz, fun v q => nomatch q⟩
    · rw [q]; exact ⟨_, hTI, fun v q => nomatch q⟩
    · rw [q]; exact ⟨_, hTO, fun v q => nomatch q⟩
    · rw [q]; exact tnS_obj s1
    · rw [q]; exact tnS_obj s2
  keep := fun i h h' st k => by
    obtain ⟨hz, hTI, ⟨x, y, hTO⟩, h1, h2⟩ := st
    exact ⟨k z (by simp) _ hz, k TI (by simp) _ hTI, ⟨x, y, k TO (by simp) _ hTO⟩, tnS_at h1 fun o q => k i1 (by simp) o q, tnS_at h2 fun o q => k i2 (by simp) o q⟩
  item := by
    intro X hP hw hK hc i pins s σ H E I hf st hg
    subst hP hw hK
    obtain ⟨hz, hTI, hTO, h1, h2⟩ := st
    obtain ⟨xs, ys, r1, r2, hlt⟩ := hg
    obtain ⟨P1, St1, D1, st1, p1, b1⟩ := rdS_draws I (I.ok.hd hc) r1 h1 n1
    obtain ⟨P2, St2, D2, st2, p2, b2⟩ := rdS_draws I (I.ok.hd hc) r2 h2 n2
    have fl : ∀ c ∈ [z, TI, TO, i1, i2], c < s.heap.objs.size := fun c hcm => by
      have e' : c = z ∨ c = TI ∨ c = TO ∨ c = i1 ∨ c = i2 := by simpa using hcm
      obtain ⟨x, y, hTO⟩ := hTO
      rcases e' with q | q | q | q | q
      · rw [q]; exact Heap.lt_size hz
      · rw [q]; exact Heap.lt_size hTI
      · rw [q]; exact Heap.lt_size hTO
      · rw [q]; obtain ⟨o, ho, _⟩ := tnS_obj h1; exact Heap.lt_size ho
      · rw [q]; obtain ⟨o, ho, _⟩ := tnS_obj h2; exact Heap.lt_size ho
    refine (GoesN.zip2 (elts := elts) (x1 := kk) (pos := tpos) D D1 D2).goes i s (fun u s2 => ∃ x H', Inv X pins σ H' s2 ∧ RelV x u ∧ (ItZ X.K k1 k2).yld i H x H' ∧ (IsZip s2.heap z TI TO .none ∧ IsTupOf2 s2.heap TI (.ref i1) (.ref i2) ∧ (∃ x y, IsTupOf2 s2.heap TO x y) ∧ tnS k1 i1 (i + 1) s2.heap ∧ tnS k2 i2 (i + 1) s2.heap) ∧ ∀ b ∈ [z, TI, TO, i1, i2], H' b = none) E hlt ⟨hz, hTI, hTO, st1, st2⟩ ?_
    intro v h' tk hy hst hk ht
    obtain ⟨T, x, y, rfl, hT, px, py, hTup⟩ := hy
    obtain ⟨vx, ex, rx⟩ := p1 i x (by omega) px
    obtain ⟨vy, ey, ry⟩ := p2 i y (by omega) py
    have hfr : H T = none := I.hok.fresh hT
    have new : ObjOk X.prog X.w (upd H T (.tup [vx, vy])) h' T (.tup [vx, vy]) := ⟨by show 2 ≤ sizeLine; decide, [x, y], .cons rx (.cons ry .nil), hTup⟩
    refine ⟨.ref T, _, I.turnedNew (t' := tk) (ch := [z, TI, TO, i1, i2]) (fun c o hb q => hk c o (fun hm => hb ?_) q) hf hT new, rfl, ⟨T, vx, vy, rfl, hfr, rfl, fun l hl => by rw [rdS_inj I hl r1]; exact ex, fun l hl => by rw [rdS_inj I hl r2]; exact ey⟩, ⟨hst.1, hst.2.1, hst.2.2.1, b1 _ _ hst.2.2.2.1, b2 _ _ hst.2.2.2.2⟩, fun b hb => ?_⟩
    · have e' : c = z ∨ c = TO ∨ c = i1 ∨ c = i2 := by simpa using hm
      rcases e' with q | q | q | q <;> simp [q]
    · rw [upd_ne (Nat.ne_of_lt (Nat.lt_of_lt_of_le (fl b hb) hT))]
      exact (hf b hb).1
  done := by
    intro X hP hw hK hc i pins s σ H E I hf st hg
    subst hP hw hK
    obtain ⟨hz, hTI, hTO, h1, h2⟩ := st
    obtain ⟨xs, ys, r1, r2, rfl⟩ := hg
    obtain ⟨P1, St1, D1, st1, p1, b1⟩ := rdS_draws I (I.ok.hd hc) r1 h1 n1
    obtain ⟨P2, St2, D2, st2, p2, b2⟩ := rdS_draws I (I.ok.hd hc) r2 h2 n2
    refine (GoesN.zip2 (elts := elts) (x1 := kk) (pos := tpos) D D1 D2).stops s (fun s1 => Inv X pins σ H s1) E ⟨hz, hTI, hTO, st1, st2⟩ fun h' tk hk ht => ?_
    exact I.turnedL (t' := tk) (ch := [z, TI, TO, i1, i2]) (fun c o hb q => hk c o (fun hm => hb (by
      have e' : c = z ∨ c = TO ∨ c = i1 ∨ c = i2 := by simpa using hm
      rcases e' with q | q | q | q <;> simp [q])) q) hf
  self := fun A i s Q E st h => wpAny_pyIter_zip st.1 h
def iZ (K : PySem.W.Frag) (ta : TA) : TI := fun σ H R => ta σ H fun vs H1 => ∃ k1 k2 xs ys, vs = [kvS k1, kvS k2] ∧ rdS K H1 k1 xs ∧ rdS K H1 k2 ys ∧ R (ItZ K k1 k2) H1
theorem pi_Z {X : Cx} {e e2 : Expr} {ta : TA} {p pos tpos : Pos} {elts : List Expr} {kk : Nat} (hg : Gl X "zip") (hm : X.mg "zip" = none) (ha : PA X [e, e2] ta)
    (hs : starEach [e, e2] X.env = (false, eval e X.env) :: starEach [e2] X.env := by rfl) (hpl : (backTo pos (starEach [e2] X.env)).any (·.1) = false := by rfl) :
    PI X (.Tuple elts kk tpos) (.Call (.Name "zip" p) [e, e2] [] pos) (iZ X.K ta) := by
  refine ⟨fun pins s σ H R I h => ?_⟩
  refine Call_ (ld_blt I hg hm PyProof.Rows.boot_zip (PyProof.Rows.callWith_type1 (thn (ha.run pos pins s σ H _ I h) fun us s1 ⟨vs, H1, I1, r1, q1⟩ => ?_) hs hpl))
  obtain ⟨k1, k2, xs, ys, rfl, d1, d2, q⟩ := q1
  cases r1 with
  | cons r rr =>
    cases rr with
    | cons r' rr =>
      cases rr
      rename_i u1 u2
      obtain ⟨Hp1, B1, hp1, l1, t1⟩ := rdS_begins I1 d1 r
      obtain ⟨Hp2, B2, hp2, l2, t2⟩ := rdS_begins I1 d2 r'
      refine zip_begins2 B1 B2 hp1 hp2 fun h' hz hTI hTO h1 h2 hsz hk => wpAny_pyIter_zip hz ?_
      have I2 : Inv X pins σ H1 { s1 with heap := h' } := I1.kept (t' := s1.toks) hk
      have fresh5 : ∀ c, c ∈ [s1.heap.objs.size + 4, s1.heap.objs.size + 2, s1.heap.objs.size + 3, s1.heap.objs.size, s1.heap.objs.size + 1] → FpOk X pins H1 c := fun c hcm => by
        have hle : s1.heap.objs.size ≤ c := by
          simp only [List.mem_cons, List.not_mem_nil, or_false] at hcm
          rcases hcm with z | z | z | z | z
          · exact z ▸ Nat.le_add_right _ _
          · exact z ▸ Nat.le_add_right _ _
          · exact z ▸ Nat.le_add_right _ _
          · exact z ▸ Nat.le_refl _
          · exact z ▸ Nat.le_add_right _ _
        exact I1.fpOk hle (I1.hok.fresh hle)
      exact ⟨s1.heap.objs.size + 4, [s1.heap.objs.size + 4, s1.heap.objs.size + 2, s1.heap.objs.size + 3, s1.heap.objs.size, s1.heap.objs.size + 1], _, _, H1, rfl, I2, turn_Z (zip_sep2 l1 l2) (fun hm => Nat.lt_irrefl _ (l1 _ hm)) (fun hm => Nat.not_succ_lt_self (l2 _ hm)), ⟨hz, hTI, ⟨_, _, hTO⟩, t1 _ _ h1, t2 _ _ h2⟩, fresh5, q⟩

theorem enum_new1 {v : Value} {o : Obj} {H : Heap → Prop} (B : Begins v o H) :
    Meets (Builtin.«enumerate.__new__» ⟨[.type "enumerate", v], []⟩) (fun _ R s => H s.heap ∧
      R (.ok (.ret (.ref (s.heap.push o).objs.size))) { s with heap := (s.heap.push o).push { cls := .type "enumerate", data := .fields #[.none, .bool false, .ref s.heap.objs.size, rawInt 0, .none, .none] } }) :=
  .of_wp fun prog w A R s h => by
    obtain ⟨hp, g, d, tk, os⟩ := s
    obtain ⟨h1, h⟩ := h
    have hsub := sub_enumerate
    have q1 : ∀ {A' : Around} {E : Value → Shared → Prop} {Q : Value → Shared → Prop}, Q (.ref hp.objs.size) ⟨hp.push o, g, d, tk, os⟩ → wpAny (model prog w) A' (pyIter v) Q E ⟨hp, g, d, tk, os⟩ := fun q => B.iter prog w _ _ ⟨hp, g, d, tk, os⟩ _ h1 q
    wp_walk using q1
    refine wpAny_stack_any fun st => wpAny_pure ?_
    split
    · rename_i c _ _ _ _ _
      cases (c == Value.type "enumerate") <;> (wp_walk using q1; exact ⟨_, rfl, h⟩)
    · wp_walk using q1
      exact ⟨_, rfl, h⟩
theorem enum_begins1 {prog : Program} {w : World} {A : Around} {E : Value → Shared → Prop} {s : Shared} {v : Value} {o : Obj} {H : Heap → Prop} {Q : Value → Shared → Prop} (B : Begins v o H) (h1 : H s.heap)
    (h : ∀ h', IsEnum h' (s.heap.objs.size + 1) s.heap.objs.size 0 .none → h'.get? s.heap.objs.size = some o → (∀ b o, s.heap.get? b = some o → h'.get? b = some o) → Q (.ref (s.heap.objs.size + 1)) { s with heap := h' }) :
    wpAny (model prog w) A (call (.type "enumerate") [v]) Q E s := by
  refine callType_new F.called_enumerate (by decide) (F.typeCall_enumerate_1 _) (F.newCall_enumerate_1 _) (fun obj => F.args_object_init_2 obj _) F.entry_enumerate_new (enum_new1 B) ⟨h1, ?_⟩
  have hz : (s.heap.push o).objs.size = s.heap.objs.size + 1 := Heap.size_push ..
  have he : IsEnum ((s.heap.push o).push { cls := .type "enumerate", data := .fields #[.none, .bool false, .ref s.heap.objs.size, rawInt 0, .none, .none] }) (s.heap.objs.size + 1) s.heap.objs.size 0 .none := by
    have e := Heap.get?_push_size (s.heap.push o) (o := { cls := .type "enumerate", data := .fields #[.none, .bool false, .ref s.heap.objs.size, rawInt 0, .none, .none] }) rfl
    rw [hz] at e
    exact e
  show _ ∧ _
  rw [hz]
  exact ⟨⟨_, he, rfl⟩, h _ he (Heap.get?_push_of_some _ (Heap.get?_push_size _ B.free)) fun b o x => Heap.get?_push_of_some _ (Heap.get?_push_of_some _ x)⟩
def ItE (K : PySem.W.Frag) (k : SK) : It :=
  ⟨fun i H => ∃ xs : List V, rdS K H k xs ∧ i < xs.length,
    fun i H v H' => ∃ T x, v = .ref T ∧ H T = none ∧ H' = upd H T (.tup [.int (i : Nat), x]) ∧ ∀ xs, rdS K H k xs → xs[i]? = some x,
    fun i H => ∃ xs : List V, rdS K H k xs ∧ i = xs.length⟩
theorem turn_E {P : Program} {w : World} {K : PySem.W.Frag} {elts : List Expr} {kk : Nat} {tpos : Pos} {k : SK} {e it : Addr} (hne : e ≠ it) (he : e ∉ k.at) (hi : it ∉ k.at) :
    Turn P w K (.Tuple elts kk tpos) (ItE K k) [e, it] e (fun i h => (∃ old, IsEnum h e it (0 + (i : Nat)) old) ∧ tnS k it i h) where
  mem := by simp
  obj := fun i h st b hb => by
    obtain ⟨⟨old, he⟩, h1⟩ := st
    have e' : b = e ∨ b = it := by simpa using hb
    rcases e' with z | z
    · rw [z]; exact ⟨_, he, fun v q => nomatch q⟩
    · rw [z]; exact tnS_obj h1
  keep := fun i h h' st k => let ⟨⟨old, he⟩, hi⟩ := st; ⟨⟨old, k e (by simp) _ he⟩, tnS_at hi fun o q => k it (by simp) o q⟩
  item := by
    intro X hP hw hK hc i pins s σ H E I hf st hg
    subst hP hw hK
    obtain ⟨hen, h1⟩ := st
    obtain ⟨xs, r1, hlt⟩ := hg
    obtain ⟨P1, St1, D1, st1, p1, b1⟩ := rdS_draws I (I.ok.hd hc) r1 h1 hi
    have fl : ∀ c ∈ [e, it], c < s.heap.objs.size := fun c hcm => by
      have e' : c = e ∨ c = it := by simpa using hcm
      obtain ⟨old, hen⟩ := hen
      rcases e' with q | q
      · rw [q]; exact Heap.lt_size hen
      · rw [q]; obtain ⟨o, ho, _⟩ := tnS_obj h1; exact Heap.lt_size ho
    refine (GoesN.enumFrom (elts := elts) (x1 := kk) (pos := tpos) 0 D1 e hne (fun hm => (List.mem_cons.mp hm).elim hne he) (by simp)).goes i s (fun u s2 => ∃ x H', Inv X pins σ H' s2 ∧ RelV x u ∧ (ItE X.K k).yld i H x H' ∧ ((∃ old, IsEnum s2.heap e it (0 + ((i + 1 : Nat) : Int)) old) ∧ tnS k it (i + 1) s2.heap) ∧ ∀ b ∈ [e, it], H' b = none) E hlt ⟨hen, st1⟩ ?_
    intro v h' tk hy hst hk ht
    obtain ⟨T, t, x, rfl, hT, px, hTup⟩ := hy
    obtain ⟨vx, ex, rx⟩ := p1 i x hlt px
    have hfr : H T = none := I.hok.fresh hT
    have new : ObjOk X.prog X.w (upd H T (.tup [.int (i : Nat), vx])) h' T (.tup [.int (i : Nat), vx]) := ⟨by show 2 ≤ sizeLine; decide, [.int (0 + (i : Int)) t, x], .cons ⟨t, by rw [Int.zero_add]⟩ (.cons rx .nil), hTup⟩
    exact ⟨.ref T, _, I.turnedNew (t' := tk) (ch := [e, it]) (fun c o hb q => hk c o hb q) hf hT new, rfl, ⟨T, vx, rfl, hfr, rfl, fun l hl => by rw [rdS_inj I hl r1]; exact ex⟩, ⟨hst.1, b1 _ _ hst.2⟩, fun b hb => by
      rw [upd_ne (Nat.ne_of_lt (Nat.lt_of_lt_of_le (fl b hb) hT))]
      exact (hf b hb).1⟩
  done := by
    intro X hP hw hK hc i pins s σ H E I hf st hg
    subst hP hw hK
    obtain ⟨hen, h1⟩ := st
    obtain ⟨xs, r1, rfl⟩ := hg
    obtain ⟨P1, St1, D1, st1, p1, b1⟩ := rdS_draws I (I.ok.hd hc) r1 h1 hi
    refine (GoesN.enumFrom (elts := elts) (x1 := kk) (pos := tpos) 0 D1 e hne (fun hm => (List.mem_cons.mp hm).elim hne he) (by simp)).stops s (fun s1 => Inv X pins σ H s1) E ⟨hen, st1⟩ fun h' tk hk ht => ?_
    exact I.turnedL (t' := tk) (ch := [e, it]) (fun c o hb q => hk c o hb q) hf
  self := fun A i s Q E st h => let ⟨⟨_, he⟩, _⟩ := st; wpAny_pyIter_enum he h
def iE (K : PySem.W.Frag) (ta : TA) : TI := fun σ H R => ta σ H fun vs H1 => ∃ k xs, vs = [kvS k] ∧ rdS K H1 k xs ∧ R (ItE K k) H1
theorem pi_E {X : Cx} {e : Expr} {ta : TA} {p pos tpos : Pos} {elts : List Expr} {kk : Nat} (hg : Gl X "enumerate") (hm : X.mg "enumerate" = none) (ha : PA X [e] ta) (hs : starEach [e] X.env = [(false, eval e X.env)] := by rfl) :
    PI X (.Tuple elts kk tpos) (.Call (.Name "enumerate" p) [e] [] pos) (iE X.K ta) := by
  refine ⟨fun pins s σ H R I h => ?_⟩
  refine Call_ (ld_blt I hg hm boot_enumerate (PyProof.Rows.callWith_type1 (thn (ha.run pos pins s σ H _ I h) fun us s1 ⟨vs, H1, I1, r1, q1⟩ => ?_) hs rfl))
  obtain ⟨k, xs, rfl, d1, q⟩ := q1
  cases r1 with
  | cons r rr =>
    cases rr
    obtain ⟨Hp1, B1, hp1, l1, t1⟩ := rdS_begins I1 d1 r
    refine enum_begins1 B1 hp1 fun h' he hit hk => wpAny_pyIter_enum he ?_
    have I2 : Inv X pins σ H1 { s1 with heap := h' } := I1.kept (t' := s1.toks) hk
    refine ⟨s1.heap.objs.size + 1, [s1.heap.objs.size + 1, s1.heap.objs.size], _, _, H1, rfl, I2, turn_E (Nat.succ_ne_self _) (fun hm => Nat.not_succ_lt_self (l1 _ hm)) (fun hm => Nat.lt_irrefl _ (l1 _ hm)), ⟨⟨.none, he⟩, t1 _ _ hit⟩, fun b hb => ?_, q⟩
    have hle : s1.heap.objs.size ≤ b := by
      simp only [List.mem_cons, List.not_mem_nil, or_false] at hb
      rcases hb with z | z
      · exact z ▸ Nat.le_add_right _ _
      · exact z ▸ Nat.le_refl _
    exact I1.fpOk hle (I1.hok.fresh hle)
end DL

namespace DL
open PySem PySem.Spec PyProof.Rows L2
variable {T : LT}
/-! ### any source, item by item -/
def ItS (K : PySem.W.Frag) : SK → It
  | .l a => Itl K a
  | .t a => Itt K a
  | .s x => Its x
def iS (K : PySem.W.Frag) (te : TE) : TI := fun σ H R => te σ H fun v H1 => ∃ k xs, v = kvS k ∧ rdS K H1 k xs ∧ R (ItS K k) H1
theorem pi_S {X : Cx} {tg e : Expr} {te : TE} (he : PE X e te) : PI X tg e (iS X.K te) := by
  refine ⟨fun pins s σ H R I h => ?_⟩
  refine thn (he.run pins s σ H _ I h) fun v s1 ⟨x, H1, I1, r1, k, xs, ex, d, q⟩ => ?_
  subst ex
  obtain ⟨Hp1, B, hp, _, t⟩ := rdS_begins I1 d r1
  refine B.iter _ _ _ _ s1 _ hp ?_
  have st := t s1.heap.objs.size (s1.heap.push (obS k v)) (Heap.get?_push_size _ B.free)
  cases k with
  | l a => exact pi_one (tk := s1.toks) I1 _ (turn_list a _) st q
  | t a => exact pi_one (tk := s1.toks) I1 _ (turn_tuple a _) st q
  | s x =>
    obtain ⟨tk, st⟩ := st
    refine pi_one (tk := s1.toks) I1 _ (turn_str _ x tk (strIterType x) ?_) st q
    unfold strIterType
    split
    · exact .inl rfl
    · exact .inr rfl
def signsD (s : String) : List D := s.toList.map fun c => .str (String.singleton c)
def iterD (G : DG) : D → Option (List D)
  | .tup xs => some xs
  | .str s => some (signsD s)
  | d => asL G d
def adr : V → Addr
  | .ref a => a
  | _ => 0
def kD : D → V → SK
  | .tup _, v => .t (adr v)
  | .str s, _ => .s (S s)
  | _, v => .l (adr v)
theorem S_single (c : Char) : S (String.singleton c) = ⟨#[c.toNat]⟩ := by
  unfold S
  rw [Str.ofString_eq_toList]
  simp
section
variable {K : PySem.W.Frag} {F : FS} {G : DG} {H : Hp}
theorem relDs_signs (s : String) : RelDs K F H (signsD s) (signV (S s)) := by
  unfold signsD signV
  rw [S_cps]
  induction s.toList with
  | nil => rfl
  | cons c cs ih => exact ⟨_, _, rfl, (show V.str _ = V.str (S (String.singleton c)) by rw [S_single]), ih⟩
theorem srcD {d : D} {v : V} {ds : List D} (hg : RelG K T F G H) (r : RelD K F H d v) (e : iterD G d = some ds) : v = kvS (kD d v) ∧ ∃ vs, rdS K H (kD d v) vs ∧ RelDs K F H ds vs := by
  have key : ∀ d', asL G d' = some ds → RelD K F H d' v → v = .ref (adr v) ∧ ∃ vs, SqL K H (adr v) vs ∧ RelDs K F H ds vs := fun d' e r => by
    obtain ⟨a, vs, rfl, h, k⟩ := asL_ok hg r e
    exact ⟨rfl, vs, .inl h, k⟩
  cases d with
  | tup xs =>
    cases e
    obtain ⟨a, vs, rfl, t, k⟩ := r
    exact ⟨rfl, vs, t.sq, k⟩
  | str s =>
    cases e
    exact ⟨r, _, rfl, relDs_signs s⟩
  | lst xs => exact key (.lst xs) e r
  | ref a => exact key (.ref a) e r
  | _ => cases e
end
/-! ranges -/
def intsFrom (lo : Int) : Nat → List D
  | 0 => []
  | n + 1 => .int lo :: intsFrom (lo + 1) n
theorem intsFrom_len : ∀ (n : Nat) (lo : Int), (intsFrom lo n).length = n
  | 0, _ => rfl
  | n + 1, lo => by simp [intsFrom, intsFrom_len n]
theorem intsFrom_get : ∀ (n : Nat) (lo : Int) (i : Nat), i < n → (intsFrom lo n)[i]? = some (.int (lo + i))
  | 0, _, i, h => by omega
  | n + 1, lo, 0, h => by simp [intsFrom]
  | n + 1, lo, i + 1, h => by
    simp only [intsFrom, List.getElem?_cons_succ]
    rw [intsFrom_get n (lo + 1) i (by omega)]
    congr 2
    omega
def dRange1 (ta : DTA) : DTI := fun E env G Q => ta E env G fun xs G1 => ∃ hi, xs = [.int hi] ∧ -(2 ^ 62) ≤ hi ∧ hi < 2 ^ 62 ∧ Q (intsFrom 0 hi.toNat) (fun _ => True) G1
def dRange2 (ta : DTA) : DTI := fun E env G Q => ta E env G fun xs G1 => ∃ lo hi, xs = [.int lo, .int hi] ∧ (-(2 ^ 62) ≤ lo ∧ lo < 2 ^ 62 ∧ -(2 ^ 62) ≤ hi ∧ hi < 2 ^ 62) ∧ Q (intsFrom lo (hi - lo).toNat) (fun _ => True) G1
def dIter (te : DTE) : DTI := fun E env G Q => te E env G fun d G1 => ∃ xs, iterD G1 d = some xs ∧ Q xs (fun G' => iterD G' d = some xs) G1
def zipD : List D → List D → List D
  | x :: xs, y :: ys => .tup [x, y] :: zipD xs ys
  | _, _ => []
def enumD (i : Nat) : List D → List D
  | [] => []
  | x :: xs => .tup [.int i, x] :: enumD (i + 1) xs
theorem zipD_len : ∀ xs ys : List D, (zipD xs ys).length = min xs.length ys.length
  | [], ys => by simp [zipD]
  | x :: xs, [] => by simp [zipD]
  | x :: xs, y :: ys => by simp [zipD, zipD_len xs ys]
theorem enumD_len : ∀ (xs : List D) (i : Nat), (enumD i xs).length = xs.length
  | [], _ => rfl
  | x :: xs, i => by simp [enumD, enumD_len xs]
theorem zipD_get : ∀ (xs ys : List D) (i : Nat) (d : D), (zipD xs ys)[i]? = some d → ∃ x y, xs[i]? = some x ∧ ys[i]? = some y ∧ d = .tup [x, y]
  | [], ys, i, d, e => by simp [zipD] at e
  | x :: xs, [], i, d, e => by simp [zipD] at e
  | x :: xs, y :: ys, 0, d, e => by
    simp only [zipD, List.getElem?_cons_zero, Option.some.injEq] at e
    exact ⟨x, y, rfl, rfl, e.symm⟩
  | x :: xs, y :: ys, i + 1, d, e => by
    simp only [zipD, List.getElem?_cons_succ] at e ⊢
    exact zipD_get xs ys i d e
theorem enumD_get : ∀ (xs : List D) (k i : Nat) (d : D), (enumD k xs)[i]? = some d → ∃ x, xs[i]? = some x ∧ d = .tup [.int ((k + i : Nat) : Int), x]
  | [], k, i, d, e => by simp [enumD] at e
  | x :: xs, k, 0, d, e => by
    simp only [enumD, List.getElem?_cons_zero, Option.some.injEq] at e
    exact ⟨x, rfl, e.symm⟩
  | x :: xs, k, i + 1, d, e => by
    simp only [enumD, List.getElem?_cons_succ] at e ⊢
    obtain ⟨y, h1, h2⟩ := enumD_get xs (k + 1) i d e
    exact ⟨y, h1, by rw [h2]; congr 3; omega⟩
def dZip (ta : DTA) : DTI := fun E env G Q => ta E env G fun xs G1 => ∃ a b as bs, xs = [a, b] ∧ iterD G1 a = some as ∧ iterD G1 b = some bs ∧ Q (zipD as bs) (fun G' => iterD G' a = some as ∧ iterD G' b = some bs) G1
def dEnum (ta : DTA) : DTI := fun E env G Q => ta E env G fun xs G1 => ∃ a as, xs = [a] ∧ iterD G1 a = some as ∧ Q (enumD 0 as) (fun G' => iterD G' a = some as) G1
section
variable {X : Cx} {W : WX} {pos p tpos : Pos} {tg e e2 : Expr} {te : DTE} {ta : DTA}
theorem qi_it (he : QE X T W e te) : QI X T W tg e (dIter te) :=
  PI.imp (pi_S he) fun σ H R ⟨env, F, G, E, P, hg, hs, hx, ht, hq⟩ => ⟨env, F, G, E, _, hg, hs, hx, ht, fun d F1 G1 v1 H1 ⟨ds, ed, p⟩ s1 g1 r1 => by
    obtain ⟨ek, vs, rd, rl⟩ := srcD g1 r1 ed
    refine ⟨_, vs, ek, rd, hq ds _ F1 G1 H1 _ p s1 g1 fun i F2 G2 H2 s2 g2 gd => ?_⟩
    obtain ⟨_, vs2, rd2, rl2⟩ := srcD g2 (RelD.step s2 d r1) gd
    have hl := rl2.length
    constructor
    · intro d' e'
      obtain ⟨x, ex, rx⟩ := rl2.get e'
      cases hk : kD d v1 with
      | l a =>
        rw [hk] at rd2
        exact ⟨⟨vs2, x, rd2, ex⟩, fun y H3 ⟨eH, hy⟩ => ⟨F2, by rw [eH]; exact ⟨Step.refl, g2, by have := hy vs2 rd2; rw [ex] at this; cases this; exact rx⟩⟩⟩
      | t a =>
        rw [hk] at rd2
        exact ⟨⟨vs2, x, rd2, ex⟩, fun y H3 ⟨eH, hy⟩ => ⟨F2, by rw [eH]; exact ⟨Step.refl, g2, by have := hy vs2 rd2; rw [ex] at this; cases this; exact rx⟩⟩⟩
      | s z =>
        rw [hk] at rd2
        have ez : vs2 = signV z := rd2
        subst ez
        have hi : i < z.cps.size := by
          have := (List.getElem?_eq_some_iff.mp ex).1
          simpa [signV] using this
        refine ⟨hi, ?_⟩
        rintro y H3 ⟨rfl, c, hc, ey⟩
        refine ⟨F2, Step.refl, g2, ?_⟩
        have : (signV z)[i]? = some y := by rw [ey]; simp [signV, hc]
        rw [ex] at this
        cases this
        exact rx
    · intro e'
      subst e'
      cases hk : kD d v1 with
      | l a => rw [hk] at rd2; exact ⟨vs2, rd2, Nat.le_of_eq hl.symm⟩
      | t a => rw [hk] at rd2; exact ⟨vs2, rd2, Nat.le_of_eq hl.symm⟩
      | s z =>
        rw [hk] at rd2
        show z.cps.size ≤ _
        rw [hl, show vs2 = signV z from rd2]
        simp [signV]⟩
theorem iterOk_rng {K : PySem.W.Frag} {F : FS} {G : DG} {H : Hp} (lo : Int) (n : Nat) : IterOk K T F G H (Itr lo n) (intsFrom lo n) fun _ => True := fun i F1 G1 H1 s1 g1 _ => by
  constructor
  · intro d e
    have hi : i < n := by
      have := (List.getElem?_eq_some_iff.mp e).1
      rwa [intsFrom_len] at this
    rw [intsFrom_get n lo i hi] at e
    cases e
    exact ⟨hi, fun x H2 ⟨eH, ex⟩ => ⟨F1, by rw [eH]; exact ⟨Step.refl, g1, ex⟩⟩⟩
  · intro e
    rw [intsFrom_len] at e
    exact Nat.le_of_eq e.symm
theorem qi_range1 (hg : Gl X "range") (hm : X.mg "range" = none) (ha : QA X T W [e] ta) (hs : starEach [e] X.env = [(false, eval e X.env)] := by rfl) : QI X T W tg (.Call (.Name "range" p) [e] [] pos) (dRange1 ta) :=
  PI.imp (pi_range1 hg hm ha hs) fun σ H R ⟨env, F, G, E, P, hg, hs, hx, ht, hq⟩ => ⟨env, F, G, E, _, hg, hs, hx, ht, fun ds F1 G1 vs H1 ⟨hi, er, b3, b4, p⟩ s1 g1 r1 => by
    subst er
    obtain ⟨v, r, rfl, ev, er⟩ := r1
    have e1 : v = .int hi := ev
    have e2 : r = [] := er
    subst e1 e2
    exact ⟨hi, rfl, b3, b4, hq _ _ F1 G1 H1 _ p s1 g1 (iterOk_rng 0 _)⟩⟩
theorem qi_range2 (hg : Gl X "range") (hm : X.mg "range" = none) (ha : QA X T W [e, e2] ta) (hs : starEach [e, e2] X.env = [(false, eval e X.env), (false, eval e2 X.env)] := by rfl) (hs2 : starEach [e2] X.env = [(false, eval e2 X.env)] := by rfl) :
    QI X T W tg (.Call (.Name "range" p) [e, e2] [] pos) (dRange2 ta) :=
  PI.imp (pi_range2 hg hm ha hs hs2) fun σ H R ⟨env, F, G, E, P, hg, hs, hx, ht, hq⟩ => ⟨env, F, G, E, _, hg, hs, hx, ht, fun ds F1 G1 vs H1 ⟨lo, hi, er, b, p⟩ s1 g1 r1 => by
    subst er
    obtain ⟨v, r, rfl, ev, v2, r2, rfl, ev2, er⟩ := r1
    have e1 : v = .int lo := ev
    have e2 : v2 = .int hi := ev2
    have e3 : r2 = [] := er
    subst e1 e2 e3
    exact ⟨lo, hi, rfl, b, hq _ _ F1 G1 H1 _ p s1 g1 (iterOk_rng lo _)⟩⟩
theorem qi_zip {elts : List Expr} {kk : Nat} (hg : Gl X "zip") (hm : X.mg "zip" = none) (ha : QA X T W [e, e2] ta)
    (hs : starEach [e, e2] X.env = (false, eval e X.env) :: starEach [e2] X.env := by rfl) (hpl : (backTo pos (starEach [e2] X.env)).any (·.1) = false := by rfl) :
    QI X T W (.Tuple elts kk tpos) (.Call (.Name "zip" p) [e, e2] [] pos) (dZip ta) :=
  PI.imp (pi_Z hg hm ha hs hpl) fun σ H R ⟨env, F, G, E, P, hg, hs, hx, ht, hq⟩ => ⟨env, F, G, E, _, hg, hs, hx, ht, fun ds F1 G1 vs H1 ⟨a, b, as, bs, er, ea, eb, p⟩ s1 g1 r1 => by
    subst er
    obtain ⟨v, r, rfl, rv, v2, r2, rfl, rv2, er⟩ := r1
    have e3 : r2 = [] := er
    subst e3
    obtain ⟨ek, us, rd, rl⟩ := srcD g1 rv ea
    obtain ⟨ek2, us2, rd2, rl2⟩ := srcD g1 rv2 eb
    refine ⟨kD a v, kD b v2, us, us2, by rw [← ek, ← ek2], rd, rd2, hq _ _ F1 G1 H1 _ p s1 g1 fun i F2 G2 H2 s2 g2 gd => ?_⟩
    obtain ⟨_, ws, rd3, rl3⟩ := srcD g2 (RelD.step s2 a rv) gd.1
    obtain ⟨_, ws2, rd4, rl4⟩ := srcD g2 (RelD.step s2 b rv2) gd.2
    have l3 := rl3.length
    have l4 := rl4.length
    constructor
    · intro d e
      have hlt := (List.getElem?_eq_some_iff.mp e).1
      rw [zipD_len] at hlt
      obtain ⟨x, y, ex, ey, rfl⟩ := zipD_get as bs i d e
      obtain ⟨vx, evx, rx⟩ := rl3.get ex
      obtain ⟨vy, evy, ry⟩ := rl4.get ey
      refine ⟨⟨ws, ws2, rd3, rd4, by omega⟩, ?_⟩
      rintro z H3 ⟨T, x', y', rfl, hT, rfl, f1, f2⟩
      have q1 := f1 ws rd3
      have q2 := f2 ws2 rd4
      rw [evx] at q1
      rw [evy] at q2
      cases q1
      cases q2
      exact ⟨_, Step.new hT, g2.new hT, relD_newTup g2 hT ⟨_, _, rfl, rx, _, _, rfl, ry, rfl⟩⟩
    · intro e
      rw [zipD_len] at e
      exact ⟨ws, ws2, rd3, rd4, by omega⟩⟩
theorem qi_enum {elts : List Expr} {kk : Nat} (hg : Gl X "enumerate") (hm : X.mg "enumerate" = none) (ha : QA X T W [e] ta) (hs : starEach [e] X.env = [(false, eval e X.env)] := by rfl) :
    QI X T W (.Tuple elts kk tpos) (.Call (.Name "enumerate" p) [e] [] pos) (dEnum ta) :=
  PI.imp (pi_E hg hm ha hs) fun σ H R ⟨env, F, G, E, P, hg, hs, hx, ht, hq⟩ => ⟨env, F, G, E, _, hg, hs, hx, ht, fun ds F1 G1 vs H1 ⟨a, as, er, ea, p⟩ s1 g1 r1 => by
    subst er
    obtain ⟨v, r, rfl, rv, er⟩ := r1
    have e3 : r = [] := er
    subst e3
    obtain ⟨ek, us, rd, rl⟩ := srcD g1 rv ea
    refine ⟨kD a v, us, by rw [← ek], rd, hq _ _ F1 G1 H1 _ p s1 g1 fun i F2 G2 H2 s2 g2 gd => ?_⟩
    obtain ⟨_, ws, rd3, rl3⟩ := srcD g2 (RelD.step s2 a rv) gd
    have l3 := rl3.length
    constructor
    · intro d e
      have hlt := (List.getElem?_eq_some_iff.mp e).1
      rw [enumD_len] at hlt
      obtain ⟨x, ex, rfl⟩ := enumD_get as 0 i d e
      obtain ⟨vx, evx, rx⟩ := rl3.get ex
      refine ⟨⟨ws, rd3, by omega⟩, ?_⟩
      rintro z H3 ⟨T, x', rfl, hT, rfl, f1⟩
      have q1 := f1 ws rd3
      rw [evx] at q1
      cases q1
      exact ⟨_, Step.new hT, g2.new hT, relD_newTup g2 hT ⟨_, _, rfl, (show V.int _ = V.int _ by rw [Nat.zero_add]), _, _, rfl, rx, rfl⟩⟩
    · intro e
      rw [enumD_len] at e
      exact ⟨ws, rd3, by omega⟩⟩
end
/-! ### comprehensions -/
abbrev QTs (X : Cx) (T : LT) (W : WX) (es : List Expr) (t : DTT) : Prop := PTs X es (liftT X.K T W t)
theorem PTs.imp {X : Cx} {es : List Expr} {t t' : TT} (h : PTs X es t) (k : ∀ σ H Q, t' σ H Q → t σ H Q) : PTs X es t' := ⟨fun pins s σ H Q I w => h.run pins s σ H Q I (k σ H Q w)⟩
theorem qts_nil {X : Cx} {W : WX} : QTs X T W [] dYes := PTs.imp pts_nil fun σ H Q ⟨env, F, G, E, P, hg, hs, hx, ht, hq⟩ => hq true F G H ht Step.refl hg
theorem qts_one {X : Cx} {W : WX} {c : Expr} {t : DTT} (h : QT X T W c t) : QTs X T W [c] t := pts_one h
section
variable {X : Cx} {W : WX} {elt tg iter : Expr} {ifs : List Expr} {scope : Scope} {own : List (Str × Nat)} {pos : Pos} {wi : DTI} {g : Tg} {tt : DTT} {te : DTE}
theorem lc_lift {vs : List Nat} (hv : tgIn g vs = true) {σ : L2.St} {H : Hp} {Q : VK} (h : liftE X.K T W (dLc wi g tt te vs) σ H Q) : tLc (liftI X.K T W wi) (vTg X.K g) (liftT X.K T WF tt) (liftE X.K T WF te) vs σ H Q := by
  obtain ⟨env, F, G, E, P, hg, hs, hx, ht, hq⟩ := h
  refine ⟨env, F, G, E, _, hg, hs, hx, ht, fun items guard F1 G1 H1 J p s1 g1 ok D1 hD => ?_⟩
  refine lc_word hv p.1 g1 (hs.step s1) ok hD p.2 fun ys F2 G2 H2 ws p2 s2 g2 e2 f2 gd2 rel => ?_
  exact hq (.lst ys) (fadd F2 D1) G2 _ H2 p2 (s1.trans (s2.frz hD)) (g2.frz gd2 e2 rfl) ⟨D1, ws, rfl, ⟨.of e2, .inl rfl⟩, RelDs.kept (fun b o f e => ⟨.inr f, o, e, rfl⟩) ys rel⟩
theorem lcB_lift {vs : List Nat} (hv : tgIn g vs = true) {σ : L2.St} {H : Hp} {Q : VK} (h : liftE X.K T W (dLcB wi g tt te vs) σ H Q) : tLc (liftI X.K T W wi) (vTg X.K g) (liftT X.K T WF tt) (liftE X.K T WF te) vs σ H Q := by
  obtain ⟨env, F, G, E, P, hg, hs, hx, ht, hq⟩ := h
  refine ⟨env, F, G, E, _, hg, hs, hx, ht, fun items guard F1 G1 H1 J p s1 g1 ok D1 hD => ?_⟩
  refine lc_word hv p.1 g1 (hs.step s1) ok hD p.2 fun ys F2 G2 H2 ws p2 s2 g2 e2 f2 gd2 rel => ?_
  exact hq (.ref D1) F2 _ _ H2 (p2 D1 gd2) (s1.trans (s2.trk hD)) (g2.trk f2 gd2 e2 rfl ⟨ws, rfl, rel⟩) rfl
theorem q_lc (own : List (Str × Nat)) (hc : X.calm = true) (hN : X.N.Nodup) (hi : QI X T W tg iter wi) (ok : BlkOk X.N X.env.scope scope own) (hv : tgIn g (own.map (·.2)) = true)
    (hg : ∀ (s : Shared) (H : Hp) (C : Addr) (cl : List (Str × Addr)) (fp : List Addr), PG (X.blk s H scope (compEnvC scope cl C X.env) fp) tg (vTg X.K g)) (ht : ∀ (s : Shared) (H : Hp) (C : Addr) (cl : List (Str × Addr)) (fp : List Addr), QTs (X.blk s H scope (compEnvC scope cl C X.env) fp) T WF ifs tt)
    (he : ∀ (s : Shared) (H : Hp) (C : Addr) (cl : List (Str × Addr)) (fp : List Addr), QE (X.blk s H scope (compEnvC scope cl C X.env) fp) T WF elt te) (hs : ∀ x, foldedSetIterable iter X.env x = pure x := by intro _; rfl) :
    QE X T W (.ListComp elt [⟨tg, iter, ifs, 0⟩] scope pos) (dLc wi g tt te (own.map (·.2))) := PE.imp (pe_lc hc hN hi ok hg ht he hs) fun σ H Q h => lc_lift hv h
theorem q_lcB (own : List (Str × Nat)) (hc : X.calm = true) (hN : X.N.Nodup) (hi : QI X T W tg iter wi) (ok : BlkOk X.N X.env.scope scope own) (hv : tgIn g (own.map (·.2)) = true)
    (hg : ∀ (s : Shared) (H : Hp) (C : Addr) (cl : List (Str × Addr)) (fp : List Addr), PG (X.blk s H scope (compEnvC scope cl C X.env) fp) tg (vTg X.K g)) (ht : ∀ (s : Shared) (H : Hp) (C : Addr) (cl : List (Str × Addr)) (fp : List Addr), QTs (X.blk s H scope (compEnvC scope cl C X.env) fp) T WF ifs tt)
    (he : ∀ (s : Shared) (H : Hp) (C : Addr) (cl : List (Str × Addr)) (fp : List Addr), QE (X.blk s H scope (compEnvC scope cl C X.env) fp) T WF elt te) (hs : ∀ x, foldedSetIterable iter X.env x = pure x := by intro _; rfl) :
    QE X T W (.ListComp elt [⟨tg, iter, ifs, 0⟩] scope pos) (dLcB wi g tt te (own.map (·.2))) := PE.imp (pe_lc hc hN hi ok hg ht he hs) fun σ H Q h => lcB_lift hv h
variable {i : Nat} {y : Str} {py spos : Pos}
theorem asg_lift {t : DTE} {tv : TE} (h : ∀ σ H Q, liftE X.K T W t σ H Q → tv σ H Q) {D : Ends} {σ : L2.St} {H : Hp} (hw : liftS X.K T W (sSet i t) D σ H) : tAsg tv (gName i) D σ H := by
  obtain ⟨env, F, G, E, DE, hg, hs, hx, ht, hn, hr⟩ := hw
  exact h _ _ _ ⟨env, F, G, E, _, hg, hs, hx, ht, fun d F1 G1 v1 H1 p s1 g1 r1 => hn _ _ G1 _ H1 p s1 g1 ((hs.step s1).set r1)⟩
theorem qs_setLc (own : List (Str × Nat)) (hc : X.calm = true) (hN : X.N.Nodup) (hy : X.N[i]? = some y) (hyl : X.env.scope.names.lookup y = some .local)
    (hsw : swapsWith (.ListComp elt [⟨tg, iter, ifs, 0⟩] scope pos) (some (.Name y py)) spos.line X.env = pure true) (hi : QI X T W tg iter wi) (ok : BlkOk X.N X.env.scope scope own) (hv : tgIn g (own.map (·.2)) = true)
    (hg : ∀ (s : Shared) (H : Hp) (C : Addr) (cl : List (Str × Addr)) (fp : List Addr), PG (X.blk s H scope (compEnvC scope cl C X.env) fp) tg (vTg X.K g)) (ht : ∀ (s : Shared) (H : Hp) (C : Addr) (cl : List (Str × Addr)) (fp : List Addr), QTs (X.blk s H scope (compEnvC scope cl C X.env) fp) T WF ifs tt)
    (he : ∀ (s : Shared) (H : Hp) (C : Addr) (cl : List (Str × Addr)) (fp : List Addr), QE (X.blk s H scope (compEnvC scope cl C X.env) fp) T WF elt te) (hs : ∀ x, foldedSetIterable iter X.env x = pure x := by intro _; rfl) :
    QS X T W (.Assign [.Name y py] (.ListComp elt [⟨tg, iter, ifs, 0⟩] scope pos) spos) (sSet i (dLc wi g tt te (own.map (·.2)))) := PS.imp (ps_setLc hc hN hy hyl hsw hi ok hg ht he hs) fun D σ H h => asg_lift (fun _ _ _ => lc_lift hv) h
theorem qs_setLcB (own : List (Str × Nat)) (hc : X.calm = true) (hN : X.N.Nodup) (hy : X.N[i]? = some y) (hyl : X.env.scope.names.lookup y = some .local)
    (hsw : swapsWith (.ListComp elt [⟨tg, iter, ifs, 0⟩] scope pos) (some (.Name y py)) spos.line X.env = pure true) (hi : QI X T W tg iter wi) (ok : BlkOk X.N X.env.scope scope own) (hv : tgIn g (own.map (·.2)) = true)
    (hg : ∀ (s : Shared) (H : Hp) (C : Addr) (cl : List (Str × Addr)) (fp : List Addr), PG (X.blk s H scope (compEnvC scope cl C X.env) fp) tg (vTg X.K g)) (ht : ∀ (s : Shared) (H : Hp) (C : Addr) (cl : List (Str × Addr)) (fp : List Addr), QTs (X.blk s H scope (compEnvC scope cl C X.env) fp) T WF ifs tt)
    (he : ∀ (s : Shared) (H : Hp) (C : Addr) (cl : List (Str × Addr)) (fp : List Addr), QE (X.blk s H scope (compEnvC scope cl C X.env) fp) T WF elt te) (hs : ∀ x, foldedSetIterable iter X.env x = pure x := by intro _; rfl) :
    QS X T W (.Assign [.Name y py] (.ListComp elt [⟨tg, iter, ifs, 0⟩] scope pos) spos) (sSet i (dLcB wi g tt te (own.map (·.2)))) := PS.imp (ps_setLc hc hN hy hyl hsw hi ok hg ht he hs) fun D σ H h => asg_lift (fun _ _ _ => lcB_lift hv) h
end
end DL

namespace DL
open PySem PySem.Spec PyProof.Rows L2
/-! ### try with several clauses «except C as n» (one name n in all of them) -/
abbrev TSx := Addr → Value → Option Addr → TS
/-- leaving a clause the name is gone -/
def endsN (i : Nat) (D : Ends) : Ends := { nx := fun σ H => D.nx (σ.set i none) H, rt := D.rt, bk := fun σ H => D.bk (σ.set i none) H, ct := fun σ H => D.ct (σ.set i none) H }
def wAll (K : PySem.W.Frag) (i : Nat) (Wo : WX) (D : Ends) : List (Value × TSx) → WX
  | [] => Wo
  | (c, ts) :: r => fun cls d σ H => ∃ b, PySem.W.exmOne K cls c = some b ∧ (b = true → ∀ a, H a = none → ts a cls d (endsN i D) (σ.set i (some (.ref a))) H) ∧ (b = false → wAll K i Wo D r cls d σ H)
inductive HdN (X : Cx) (n : Str) : List ExceptHandler → List (Value × TSx) → Prop
  | nil : HdN X n [] []
  | cons {x : Str} {c : Value} {ts : TSx} {st : Stmt} {sts : List Stmt} {p1 p2 : Pos} {hds : List ExceptHandler} {l : List (Value × TSx)} (hx : Names X x c)
      (hsu : ∀ (a : Addr) (oe : Obj) (cls : Value) (d : Option Addr) (pn : List (Addr × Obj)), L2N.Zn cls d oe → (∃ vs, oe.data = .fields vs) → PSs (X.suite a ((a, oe) :: pn)) (st :: sts) (ts a cls d)) (r : HdN X n hds l) :
      HdN X n (.ExceptHandler (some (.Name x p1)) (some n) (st :: sts) p2 :: hds) ((c, ts) :: l)
section
variable {X : Cx} {body : List Stmt} {hd1 : ExceptHandler} {hds : List ExceptHandler} {l : List (Value × TSx)} {pos : Pos} {tb : WX → TS} {Wo : WX} {n : Str} {i : Nat}
theorem ps_tryN (hstk : X.stack = X.env :: X.outer) (hfrm : X.env.frame = some X.env.locals) (nd : X.N.Nodup) (hi : X.N[i]? = some n) (hk : X.env.kindOf n = some .local) (tk : L2N.Takes X Wo)
    (hb : ∀ (W : WX) (pn : List (Addr × Obj)) (xe : Value → Shared → Prop), L2N.Takes (X.tr pn xe) W → PassesOwn (model X.prog X.w) X.A X.env xe → PSs (X.tr pn xe) body (tb W))
    (hh : HdN X n (hd1 :: hds) l) : PS X (.Try body (hd1 :: hds) [] [] pos) (fun D σ H => tb (wAll X.K i Wo D l) D σ H) := by
  constructor
  intro pins s σ H D I hw
  have okX := I.ok
  have frX : X.A.frames = some (X.env :: X.outer) := okX.frames.trans (by rw [hstk])
  apply wpAny_Try_except
  have run := (hb (wAll X.K i Wo D l) (X.pn ++ pins) (fun e t1 => wpAny (model X.prog X.w) X.A (noteFrame e X.env) (fun _ t2 => wpAny (model X.prog X.w) X.A (setFlight e none)
    (fun _ t3 => wpAny (model X.prog X.w) X.A (handleBy e X.env (hd1 :: hds)) (SP X pins D) X.xe t3) X.xe t2) X.xe t1) ?caught PassesOwn.looking).run [] s σ H D (I.toTry _) hw
  case caught =>
    rintro u s' ⟨a, B, sI, pins', σ', H', cls, d, rfl, J', nb, up, sky, na, eos, ag, w⟩
    have J : Inv X pins σ' H' sI := J'.ofTry okX
    rw [show (X.tr (X.pn ++ pins) _).stack = X.env :: X.outer from hstk] at sky
    show wpAny (model X.prog X.w) X.A (noteFrame (.ref a) X.env) _ _ _
    apply L2N.Sky.land L2N.Zn.steady frX hfrm sky
    intro hq flq upq
    have Jq : Inv X pins σ' H' { s' with heap := hq } := J.landed nb flq.1 (up.trans upq) eos ag
    obtain ⟨oq, vq, getq, zq, dq⟩ := flq.there
    have nfr : a ∉ frs (X.env :: X.outer) := fun hm => by
      obtain ⟨_, o', e', hnf⟩ := flq.2.2.1.mem hm
      rw [getq] at e'
      cases e'
      exact hnf _ dq
    have nL : a ≠ X.env.locals := fun z => nfr (List.mem_filterMap.mpr ⟨X.env, List.mem_cons_self, by rw [hfrm, z]⟩)
    have nF : a ∉ X.fs := fun hm => by
      obtain ⟨ev, hev, q⟩ := List.mem_filterMap.mp hm
      exact nfr (List.mem_filterMap.mpr ⟨ev, List.mem_cons_of_mem _ hev, q⟩)
    have Sq := Jq.suite getq dq na nL nF
    suffices go : ∀ {hs : List ExceptHandler} {ls : List (Value × TSx)}, HdN X n hs ls → wAll X.K i Wo D ls cls d σ' H' → wpAny (model X.prog X.w) X.A (handleBy (.ref a) X.env hs) (SP X pins D) X.xe { s' with heap := hq } from go hh w
    intro hs ls hk'
    induction hk' with
    | nil =>
      intro w
      apply wpAny_handleBy_nil
      obtain ⟨_, _, _, oe, vs, tb', _, _, he, _, hd, h1, _⟩ := id flq
      unfold PySem.passOn
      refine wpAny_bind (wpAny_field he hd h1 ?_)
      rw [if_neg (show ¬ ((Value.ref tb' == Value.none) = true) from by simp)]
      have out : wpAny (model X.prog X.w) X.A (setFlight (.ref a) X.env.frame) (fun _ t4 => wpAny (model X.prog X.w) X.A (throw (.ref a) : Sem Flow) (SP X pins D) X.xe t4) X.xe { s' with heap := hq } := by
        rw [hfrm]
        exact HandSPX.setFlight_upZ flq fun hr hhr upr => wpAny_throw (tk _ _ ⟨a, B, sI, pins, σ', H', cls, d, rfl, J, nb, (up.trans upq).trans upr, .inr (.inr (by rw [hstk]; exact hhr)), na, eos, ag, w⟩)
      first
        | exact wpAny_bind (wpAny_pure (wpAny_bind out))
        | exact wpAny_bind out
    | @cons x c ts st sts p1 p2 hds2 l2 hx hsu r ih =>
      rintro ⟨b, hb1, hyes, hno⟩
      refine wpAny_handleBy_cons (codeAny_handlers_test ?_) (by intro q; cases q)
      have look : PySem.W.Looks (model X.prog X.w) hq (typeOf (.ref a)) cls := fun A' Q' E' t k q => wpAny_typeOf_ref (k _ _ getq) (by rw [zq.1]; exact q)
      have named : ∀ {Q' : Value → Shared → Prop} {E' : Value → Shared → Prop}, Q' c { s' with heap := hq } → wpAny (model X.prog X.w) (X.A.mark (some (.ref a))) (eval (.Name x p1) X.env) Q' E' { s' with heap := hq } := fun {Q' E'} q => by
        obtain ⟨hgl, hdbg, hm | ⟨hm, hv, hnn⟩⟩ := hx
        · exact ld_glob (X := X.suite a ((a, oq) :: (X.pn ++ pins))) Sq hgl hm q hdbg
        · exact ld_blt (X := X.suite a ((a, oq) :: (X.pn ++ pins))) Sq hgl hm hv q hnn hdbg
      refine named ((PySem.W.exm_one (M := model X.prog X.w) Jq.kIn look hb1).here ?_)
      cases b with
      | false => exact ih (hno rfl)
      | true =>
        refine codeAny_handlers_suite_as (HandSPX.lands_againZ flq fun hr flr upr => ?_)
        have Jr : Inv X pins σ' H' { s' with heap := hr } := J.landed nb flr.1 ((up.trans upq).trans upr) eos ag
        obtain ⟨oR, vR, getR, zR, dR⟩ := flr.there
        have Sr := Jr.suite getR dR na nL nF
        refine store_ok (X := X.suite a ((a, oR) :: (X.pn ++ pins))) (v := .ref a) Sr nd hi (.inl hk) rfl (fun s5 S5 => ?_) (.inr hk)
        refine wpAny_mono ((hsu a oR cls d (X.pn ++ pins) zR ⟨_, dR⟩).run [] s5 _ H' _ S5 (hyes rfl a na)) (fun f s6 hsp => ?_) (fun _ _ z => False.elim z)
        have drop : ∀ {σ6 : L2.St} {H6 : Hp} {Q' : Shared → Prop}, Inv (X.suite a ((a, oR) :: (X.pn ++ pins))) [] σ6 H6 s6 → (∀ s7, Inv X pins (σ6.set i none) H6 s7 → Q' s7) →
            wpAny (model X.prog X.w) X.A (do bindName X.env n .none; unbindBehindTheSuite X.env n p2) (fun _ s7 => Q' s7) X.xe s6 := fun {σ6 H6 Q'} S6 q => gone_ok (S6.unsuite okX) nd hi hk q
        cases f with
        | ret u =>
          obtain ⟨v6, σ6, H6, S6, r6, q6⟩ := hsp
          exact drop S6 fun s7 J7 => ⟨_, _, _, J7, r6, q6⟩
        | _ =>
          obtain ⟨σ6, H6, S6, q6⟩ := hsp
          exact drop S6 fun s7 J7 => ⟨_, _, J7, q6⟩
  refine wpAny_mono run (fun f s1 hsp => ?_) (fun _ _ q => q)
  cases f with
  | next =>
    obtain ⟨σ', H', J', q⟩ := hsp
    exact wpAny_execs_nil ⟨σ', H', J'.ofTry okX, q⟩
  | ret u =>
    obtain ⟨v, σ', H', J', r, q⟩ := hsp
    exact ⟨v, σ', H', J'.ofTry okX, r, q⟩
  | brk =>
    obtain ⟨σ', H', J', q⟩ := hsp
    exact ⟨σ', H', J'.ofTry okX, q⟩
  | cont =>
    obtain ⟨σ', H', J', q⟩ := hsp
    exact ⟨σ', H', J'.ofTry okX, q⟩
end
end DL

namespace DL
open PySem PySem.Spec PyProof.Rows L2 LamX
/-! ### a lambda of no parameter handed to a def (exceptions with context None) -/
def lamXe (X : Cx) (A : Around) (outer : List Env) (s : Shared) (H : Hp) (E : XK) (scope : Scope) (f c' : Addr) : Value → Shared → Prop := fun e t =>
  wpAny (model X.prog X.w) (A.deeper (lamEnv X scope s.heap.objs.size f c')) (leaving (lamEnv X scope s.heap.objs.size f c') e) (fun _ t' => L2N.CX X.prog X.w outer H s E e t') (fun e' t' => L2N.CX X.prog X.w outer H s E e' t') t
abbrev lamN (X : Cx) (A : Around) (outer : List Env) (s : Shared) (H : Hp) (E : XK) (scope : Scope) (f c' : Addr) : Cx := (lamCx X A outer s H E scope f c').tr [] (lamXe X A outer s H E scope f c')
theorem takes_lam {X : Cx} {A : Around} {outer : List Env} {s : Shared} {H : Hp} {E : XK} {scope : Scope} {f c' : Addr} : L2N.Takes (lamN X A outer s H E scope f c') (fun cls d _ H' => E cls d H') := L2N.takes_of rfl rfl rfl rfl
abbrev DefX (X : Cx) (Ng : List Str) (x : Str) (sg : Scope) (g : Addr) (cdg : Value) (s : Shared) (H : Hp) : Cx := cxOf C8.CX0 X.prog X.w X.K X.mg X.base Ng x sg g cdg X.A X.stack s H C8.E0
section
variable {X : Cx} {pins : List (Addr × Obj)} {σ : L2.St} {H : Hp} {s : Shared}
theorem lam_runs {Ng : List Str} {x : Str} {sg : Scope} {g f c' : Addr} {cdg pm ctv : Value} {params : Arguments} {body : Expr} {scope : Scope} {k i : Nat} {a : Str} {pn : List (Addr × Obj)} {xe : Value → Shared → Prop} {W : WX} {E : XK} {tb : TE} {p1 p2 : Pos}
    (I : Inv X pins σ H s) (L : LamS X.env.scope scope) (hf : s.heap.get? f = some (PySem.W.kla_obj "<lambda>" (X.env.qual ++ "<lambda>") params body scope (cloFrom X.env.cells scope.names []) pm c' ctv)) (hfn : H f = none) (hfr : f ∉ frs X.stack)
    (hbind : bindArgs (PySem.W.kla_fn "<lambda>" (X.env.qual ++ "<lambda>") params body scope (cloFrom X.env.cells scope.names []) pm (.ref c') ctv) ⟨[], []⟩ = pure [])
    (tk : L2N.Takes ((DefX X Ng x sg g cdg s H).tr pn xe) W) (hW : ∀ cls d σ' H', E cls d H' → W cls d σ' H') (hr : Room (k + 1) (X.A.deeper (envOfC x sg s.heap.objs.size g cdg)))
    (hbody : ∀ (A : Around) (outer : List Env) (s : Shared) (H : Hp), Room k (A.deeper (lamEnv X scope s.heap.objs.size f c')) → PE (lamN X A outer s H E scope f c') body tb)
    (hN : Ng[i]? = some a) (hv : Vis sg a) (hd : (a == ("__debug__" : Str)) = false) (hcd : (a == ("__classdict__" : Str)) = false) :
    PE ((DefX X Ng x sg g cdg s H).tr pn xe) (.Call (.Name a p1) [] [] p2) (fun σZ HZ Q => σZ[i]? = some (some (.ref f)) ∧ HZ c' = some (CodeO c' (X.env.qual ++ "<lambda>")) ∧ tb σ HZ Q) := by
  constructor
  rintro pinsZ sZ σZ HZ Q IZ ⟨hs, hc, ht⟩
  apply wpAny_Call_Name_kw
  refine thn ((pe_var (pos := p1) (i := i) hN hv hd hcd).run pinsZ sZ σZ HZ (fun v H1 => v = .ref f ∧ H1 = HZ) IZ ⟨.ref f, hs, rfl, rfl⟩) ?_
  rintro u s1 ⟨v, H1, I1, r1, rfl, eH⟩
  rw [eH] at I1
  obtain rfl : u = Value.ref f := r1
  have obf := I1.base.keep f _ hf hfn hfr (fun z => nomatch (show f ∈ ([] : List Addr) from z))
  refine PySem.W.callWith_F0 ⟨_, _, _, _, obf⟩ ?_
  obtain ⟨⟨oc, vs, t, hoc, hdc, hvc⟩, _, _⟩ := I1.hok c' _ hc
  have rc : codeAny (model X.prog X.w) (X.A.deeper (envOfC x sg s.heap.objs.size g cdg)) (.call (.ref f) ⟨[], []⟩) (CR (L2N.CX X.prog X.w) (envOfC x sg s.heap.objs.size g cdg :: X.stack) X.prog X.w HZ s1 Q E) s1 := by
    apply PySem.W.kla_callFunE hr.depth obf rfl L.co L.gen rfl ⟨c', oc, vs, t, rfl, hoc, hdc, hvc⟩
    rw [hbind]
    refine wpAny_pure (wpAny_newFunctionEnv (fun y hy => (L.own y hy).2) (fun y hy => absurd hy (by simp)) (fun hq hns hsb => ⟨I1.nolimit.fresh _ hsb, ?_⟩) L.kind)
    show codeAny _ _ (.expr body (lamEnv X scope s1.heap.objs.size f c')) _ _
    have keeps : ∀ b o, s1.heap.get? b = some o → hq.get? b = some o := fun b o e => hsb.extBut b o (Nat.ne_of_lt (Heap.lt_size e)) (Heap.get?_push_of_some _ e)
    have J := (lam_start2 (E := E) (f := f) (c' := c') (tk := s1.toks + ([] : List (Str × Value)).length) I L I1.env0 hr.hd I1.base hns keeps).toTry (lamXe X (X.A.deeper (envOfC x sg s.heap.objs.size g cdg)) (envOfC x sg s.heap.objs.size g cdg :: X.stack) s1 HZ E scope f c')
    refine PySem.W.kla_codeExpr (wpAny_mono ((hbody _ _ s1 HZ (hr.deeper _)).run [] _ _ HZ Q J ht) ?_ fun e s' hq => hq)
    rintro v s' ⟨w', H', J', rv, q⟩
    exact ⟨w', H', J'.os, J'.bare, J'.base, J'.hok, rv, q⟩
  refine wpAny_call (codeAny_mono rc fun r s' hq => ?_)
  cases r with
  | error e => exact L2N.passes_call tk hW pinsZ σZ HZ s1 e s' I1 hq
  | ok fl =>
    cases fl with
    | ret u => exact I1.after hq
    | _ => exact False.elim hq
end
/-- what the def makes of the lambda's reading -/
def Gives (X : Cx) (Ng : List Str) (x : Str) (sg : Scope) (g : Addr) (cdg : Value) (bg : List Stmt) (a : Str) (q : Str) (TT : (XK → Hp → VK → Prop) → Hp → VK → Prop) (k : Nat) : Prop :=
  ∀ (f c' : Addr) (s : Shared) (H : Hp) (Q : VK) (tl : XK → Hp → VK → Prop), Room (k + 1) (X.A.deeper (envOfC x sg s.heap.objs.size g cdg)) →
    (∀ (W : WX) (pn : List (Addr × Obj)) (xe : Value → Shared → Prop) (E : XK) (p1 p2 : Pos), L2N.Takes ((DefX X Ng x sg g cdg s H).tr pn xe) W → (∀ cls d σ' H', E cls d H' → W cls d σ' H') →
      PE ((DefX X Ng x sg g cdg s H).tr pn xe) (.Call (.Name a p1) [] [] p2) (fun σZ HZ Q => σZ[0]? = some (some (.ref f)) ∧ HZ c' = some (CodeO c' q) ∧ tl E HZ Q)) →
    H c' = some (CodeO c' q) → TT tl H Q → ∃ t, PSs (DefX X Ng x sg g cdg s H).nox bg t ∧ t { nx := fun _ H' => Q .non H', rt := Q } (L2.start Ng [.ref f]) H
theorem pe_lamto {X : Cx} {T : LT} {TT : (XK → Hp → VK → Prop) → Hp → VK → Prop} {x a : Str} {g c P : Addr} {k : Nat} {pg : Arguments} {bg : List Stmt} {sg : Scope} {dV kV doc pm cdv ct oc : Value} {an od : Option Addr} {osl : Array (Option Value)} {Ng : List Str}
    {params : Arguments} {body : Expr} {scope : Scope} {t : XK → TE} {p lpos pos : Pos} (hg : Gl X x) (hm : X.mg x = some (.ref g)) (hk : PySem.W.keepIn X.K (.ref g) = true)
    (lk : X.K.lookup g = some ⟨oc, od, .func (PySem.W.fnOf x x pg bg sg dV kV doc pm an cdv ct), osl⟩) (hcg : PySem.W.codeIn X.K cdv x = true) (hb : L2.Binds X.K (PySem.W.fnOf x x pg bg sg dV kV doc pm an cdv ct) [a] []) (Sg : FnScope Ng [a] sg) (hNg : Ng[0]? = some a) (hva : Vis sg a)
    (hG : Gives X Ng x sg g cdv bg a (X.env.qual ++ "<lambda>") TT k)
    (TB : TabB X.base X.mg c P) (hcode : X.env.code = .ref c) (hmT : (P, X.env.qual ++ "<lambda>") ∈ T) (hu : ∀ p ∈ T, p.1 = P → p.2 = X.env.qual ++ "<lambda>") (hr : Room (k + 2) X.A) (L : LamS X.env.scope scope) (hdef : defaultsOf params X.env = ([], []))
    (hbind : ∀ (q : Str) (cl : List (Str × Addr)) (pm cv ctv : Value), bindArgs (PySem.W.kla_fn "<lambda>" q params body scope cl pm cv ctv) ⟨[], []⟩ = pure [])
    (hbody : ∀ (A : Around) (outer : List Env) (s : Shared) (H : Hp) (E : XK) (f c' : Addr), Room k (A.deeper (lamEnv X scope s.heap.objs.size f c')) → PE (lamN X A outer s H E scope f c') body (t E))
    (hdb : (x == ("__debug__" : Str)) = false) (hd : (a == ("__debug__" : Str)) = false) (hcd : (a == ("__classdict__" : Str)) = false) :
    PE X (.Call (.Name x p) [.Lambda params body scope lpos] [] pos) (tLam T TT t) := by
  constructor
  rintro pins s σ H Q I ⟨hT, h⟩
  apply wpAny_Call_Name_kw
  refine ld_glob I hg hm ?_ hdb
  refine PySem.W.callWith_K (h₀ := X.base) I.ok.mod.kin hk ?_ (by rfl) (by rfl)
  show wpAny _ _ (spliced ((false, eval (.Lambda params body scope lpos) X.env) :: backTo pos (starEach [] X.env))) _ _ s
  apply Calls.spliced_cons
  refine lam_make2 I TB hcode hmT hu hT hdef (L.has I.ok) ?_
  intro f c' pm' ctv H1 s' I1 eN T1 hf hfn hfr hco
  refine Calls.spliced_nil ⟨I1.kIn, ?_⟩
  have rc : codeAny (model X.prog X.w) X.A (.call (.ref g) ⟨[.ref f], []⟩) (CR C8.CX0 X.stack X.prog X.w H1 s' Q C8.E0) s' := by
    refine run_ofS (N := Ng) (ps := [a]) (us := [.ref f]) (vs := [.ref f]) lk hcg Sg hr I1.env0 (hb s' [.ref f] I1.kIn rfl) (.cons rfl .nil) rfl fun hr' => ?_
    obtain ⟨t', ht', hq'⟩ := hG f c' s' H1 Q (fun E H' Q' => t E σ H' Q') hr' (fun W pn xe E p1 p2 tk hW => lam_runs (i := 0) I1 L hf hfn hfr (hbind _ _ _ _ _) tk hW hr' (fun A outer s H hr2 => hbody A outer s H E f c' hr2) hNg hva hd hcd) hco (h H1 eN T1)
    exact ⟨t', ht'.nox, hq'⟩
  refine wpAny_call (codeAny_mono rc fun r s2 hq => ?_)
  cases r with
  | error e => exact (show False from hq).elim
  | ok fl =>
    cases fl with
    | ret u => exact I1.after hq
    | _ => exact False.elim hq
end DL

namespace DL
open PySem PySem.Spec PyProof.Rows L2 LamX HotX
variable {T : LT}
/-! ### list comprehensions while an exception is handled -/
theorem next_list_end_hot {prog : Program} {w : World} {A : Around} {E : Value → Shared → Prop} {s : Shared} {it l x1 : Addr} {i : Nat} {items : Array Value} {Q : Option Value → Shared → Prop} (hot : HotAt A x1 s.heap) (hx1 : x1 ≠ it)
    (hit : s.heap.IsListIter it l i) (hl : s.heap.IsList l items) (hx : items[i]? = none) (hQ : ∀ h', Heap.ExtBut it s.heap h' → Q none { s with heap := h' }) : wpAny (model prog w) A (pyNext (.ref it)) Q E s := by
  obtain ⟨o, ho, hc, hd⟩ := id hit
  obtain ⟨ol, hol, _, nl, hdl⟩ := hl
  obtain ⟨hh, o1, vs1, h1, d1, c1⟩ := hot
  unfold pyNext
  refine wpAny_bind (wpAny_attempt (wpAny_callSpecial?_slot (name := Str.ofString "__next__") hit.typeIs slot_listiter_next (wpAny_call_entry slot_listiter_next hit.typeIs entry_listiter_next ?_ (args_listiter_next _))))
  show wpAny _ _ (field (.ref it) 0 >>= _) _ _ s
  apply wpAny_bind
  refine wpAny_field ho hd (x := .ref l) rfl ?_
  show wpAny _ _ (if (Value.ref l == Value.none) = true then _ else _) _ _ s
  rw [if_neg (show ¬ ((Value.ref l == Value.none) = true) from Bool.false_ne_true)]
  apply wpAny_bind
  refine wpAny_field ho hd (x := .int i 0) rfl ?_
  apply wpAny_bind
  refine wpAny_seqItems hol hdl ?_
  simp only [Int.toNat_natCast, hx]
  refine wpAny_bind (wpAny_rule (wpAny_bind (wpAny_setField ho hd (by simp) ?_)))
  show wpAny _ _ (newExc (.type "StopIteration") [] >>= _) _ _ _
  apply wpAny_bind
  simp only [newExc, newTuple]
  refine wpAny_bind (wpAny_newObj_type ?_ (by size_fits))
  refine wpAny_bind (m := firstArgMember _ _) (wpAny_of_eq (a := Value.none) (by first | rfl | (simp only [firstArgMember]; rfl)) ?_)
  refine wpAny_newObj_type ?_ (by size_fits)
  have hu := Heap.SameBut.update s.heap it (Obj.mapFields (·.setIfInBounds 0 Value.none))
  have g1 := (hu.2 x1 hx1).trans h1
  refine raiseNew_hot ⟨hh, o1, vs1, Heap.get?_push_of_some _ (Heap.get?_push_of_some _ g1), d1, c1⟩ (Nat.ne_of_lt (Heap.lt_size (Heap.get?_push_of_some _ g1))) (Heap.get?_push_size _ rfl) rfl (by simp; omega) ?_
  refine wpAny_bind (wpAny_isInstance (T := "StopIteration") (b := true) ⟨_, Heap.get?_update_self _ (Heap.get?_push_size _ rfl) rfl, rfl⟩ isSubtype_stop ?_)
  refine wpAny_pure (hQ _ fun b ob hb e => ?_)
  have e1 := (hu.extBut b ob hb e)
  rw [Heap.get?_update_other _ _ (Nat.ne_of_gt (Heap.lt_size (Heap.get?_push_of_some _ e1)))]
  exact Heap.get?_push_of_some _ (Heap.get?_push_of_some _ e1)
structure TurnQ (P : Program) (w : World) (K : PySem.W.Frag) (tg : Expr) (J : It) (fp : List Addr) (it : Addr) (tn : Nat → Heap → Prop) : Prop where
  obj : ∀ i h, tn i h → ∀ b ∈ fp, ∃ o, h.get? b = some o ∧ ∀ v, o.data ≠ .cell v
  keep : ∀ i h h', tn i h → (∀ b ∈ fp, ∀ o, h.get? b = some o → h'.get? b = some o) → tn i h'
  item : ∀ (X : Cx), X.prog = P → X.w = w → X.K = K → ∀ (i : Nat) (pins : List (Addr × Obj)) (s : Shared) (σ : L2.St) (H : Hp) (E : Value → Shared → Prop), Inv X pins σ H s → (∀ b ∈ fp, FpOk X pins H b) → tn i s.heap → J.go i H →
    wpAny (model P w) X.A (pyNext (.ref it)) (fun r t => ∃ u, r = some u ∧ wpAny (model P w) X.A (letOwnedTupleGo tg (.ref it) u) (fun _ t2 => ∃ x H', Inv X pins σ H' t2 ∧ RelV x u ∧ J.yld i H x H' ∧ tn (i + 1) t2.heap ∧ ∀ b ∈ fp, H' b = none) E t) E s
  done : ∀ (X : Cx), X.prog = P → X.w = w → X.K = K → ∀ (x1 : Addr) (i : Nat) (pins : List (Addr × Obj)) (s : Shared) (σ : L2.St) (H : Hp) (E : Value → Shared → Prop), HotAt X.A x1 s.heap → x1 ∉ fp → Inv X pins σ H s → (∀ b ∈ fp, FpOk X pins H b) → tn i s.heap → J.stop i H →
    wpAny (model P w) X.A (pyNext (.ref it)) (fun r t => r = none ∧ Inv X pins σ H t) E s
  self : ∀ (A : Around) (i : Nat) (s : Shared) (Q : Value → Shared → Prop) (E : Value → Shared → Prop), tn i s.heap → Q (.ref it) s → wpAny (model P w) A (pyIter (.ref it)) Q E s
theorem turnQ_list {P : Program} {w : World} {K : PySem.W.Frag} {tg : Expr} (a it : Addr) : TurnQ P w K tg (Itl K a) [it] it (fun i h => h.IsListIter it a i) where
  obj := (turn_list (P := P) (w := w) (K := K) (tg := tg) a it).obj
  keep := (turn_list (P := P) (w := w) (K := K) (tg := tg) a it).keep
  self := (turn_list (P := P) (w := w) (K := K) (tg := tg) a it).self
  item := by
    rintro X rfl rfl rfl i pins s σ H E I hf st ⟨xs, x, hq, hx⟩
    obtain ⟨its, rv, p, _⟩ := I.list hq
    obtain ⟨u, hu, ru⟩ := rv.get hx
    obtain ⟨f0, f1, f2, f3, f4, f5⟩ := hf it (by simp)
    apply wpAny_pyNext_list_item st p.isList (x := u) (by simpa using hu)
    intro h' st' sb
    obtain ⟨o, e, c, d⟩ := id st'
    refine ⟨u, rfl, go_of (s := { s with heap := h' }) e c d (by decide) ⟨x, H, I.turned (t' := s.toks) (fun b o hb e => (sb.2 b hb).trans e) f0 f1 f3 f4 f5, ru, ⟨rfl, fun ys hy => ?_⟩, st', fun b hb => (hf b hb).1⟩⟩
    rw [I.list_inj hy hq]
    exact hx
  done := by
    rintro X rfl rfl rfl x1 i pins s σ H E hot hn I hf st ⟨xs, hq, hx⟩
    obtain ⟨its, rv, p, _⟩ := I.list hq
    obtain ⟨f0, f1, f2, f3, f4, f5⟩ := hf it (by simp)
    have hl := rv.length
    exact next_list_end_hot hot (fun z => hn (by simp [z])) st p.isList (by simp; omega) fun h' eb => ⟨rfl, I.turned (t' := s.toks) (fun b o hb e => eb b o hb e) f0 f1 f3 f4 f5⟩
def PIQ (X : Cx) (tg iter : Expr) (wi : TI) : Prop := ∀ (pins : List (Addr × Obj)) (s : Shared) (σ : L2.St) (H : Hp) (R : It → Hp → Prop), Inv X pins σ H s → wi σ H R →
  wpAny (model X.prog X.w) X.A (eval iter X.env) (fun v t => wpAny (model X.prog X.w) X.A (pyIter v) (fun itv t2 =>
    ∃ (it : Addr) (fp : List Addr) (tn : Nat → Heap → Prop) (J : It) (H' : Hp), itv = .ref it ∧ Inv X pins σ H' t2 ∧ TurnQ X.prog X.w X.K tg J fp it tn ∧ tn 0 t2.heap ∧ (∀ b ∈ fp, FpOk X pins H' b) ∧ R J H') X.xe t) X.xe s
theorem piq_list {X : Cx} {tg l : Expr} {tl : TE} (hl : PE X l tl) : PIQ X tg l (fun σ H R => tl σ H fun x H1 => ∃ a, x = .ref a ∧ (∃ xs, SqL X.K H1 a xs) ∧ R (Itl X.K a) H1) := by
  intro pins s σ H R I h
  refine thn (hl.run pins s σ H _ I h) ?_
  rintro v s1 ⟨x, H1, I1, r1, a, rfl, ⟨xs, hq⟩, q⟩
  cases r1
  obtain ⟨its, rv, p, _⟩ := I1.list hq
  refine (begins_list a its.toArray).iter _ _ _ _ s1 _ p.isList ?_
  refine ⟨s1.heap.objs.size, [s1.heap.objs.size], _, _, H1, rfl, I1.kept (t' := s1.toks) fun b o e => Heap.get?_push_of_some _ e, turnQ_list a _, ⟨_, Heap.get?_push_size _ rfl, rfl, rfl⟩, fun b hb => ?_, q⟩
  rw [List.mem_singleton.mp hb]
  exact I1.fpOk (Nat.le_refl _) I1.fresh
section
variable {X : Cx} {elt tg iter : Expr} {ifs : List Expr} {scope : Scope} {own : List (Str × Nat)} {pos : Pos} {wi : TI} {g : TG} {tt : TT} {te : TE}
theorem pe_lcQ (hot : L2H.HotC X) (nd : X.N.Nodup) (hi : PIQ X tg iter wi) (ok : BlkOk X.N X.env.scope scope own)
    (hg : ∀ (s : Shared) (H : Hp) (C : Addr) (cl : List (Str × Addr)) (fp : List Addr), PG (X.blk s H scope (compEnvC scope cl C X.env) fp) tg g) (ht : ∀ (s : Shared) (H : Hp) (C : Addr) (cl : List (Str × Addr)) (fp : List Addr), PTs (X.blk s H scope (compEnvC scope cl C X.env) fp) ifs tt)
    (he : ∀ (s : Shared) (H : Hp) (C : Addr) (cl : List (Str × Addr)) (fp : List Addr), PE (X.blk s H scope (compEnvC scope cl C X.env) fp) elt te) (hs : ∀ x, foldedSetIterable iter X.env x = pure x := by intro _; rfl) :
    PE X (.ListComp elt [⟨tg, iter, ifs, 0⟩] scope pos) (tLc wi g tt te (own.map (·.2))) := by
  constructor
  intro pins s σ H Q I h
  rw [eval_ListComp]
  have capt : ∀ y ∈ scope.names, y.2 = .free → ∃ c, X.env.cells.lookup y.1 = some c := fun y hy e => (ok.free y hy e).elim (fun k => I.ok.has _ (.inl k)) fun k => I.ok.has _ (.inr k)
  apply wpAny_comprehension_free rfl hs (closure_ok capt) ok.kind (fun y hy e => by rw [ok.uniq y hy, e])
  refine thn (hi pins s σ H _ I h) fun xv s1 hx => thn hx ?_
  rintro itv s2 ⟨it, fp, tn, J, H2, rfl, I2, Tn, st2, f2, q⟩
  refine wpAny_newObj_type (newEnv_comp ?_) (by show 0 ≤ sizeLine; decide)
  obtain ⟨Dn, hD⟩ : ∃ Dn, s2.heap.objs.size = Dn := ⟨_, rfl⟩
  have hDn : H2 Dn = none := I2.hok.fresh (Nat.le_of_eq hD)
  rw [hD]
  obtain ⟨W, ⟨m0, w0⟩, turn⟩ := q Dn hDn
  obtain ⟨s3, hs3⟩ : ∃ s3 : Shared, { s2 with heap := s2.heap.push { cls := .type "list", data := .seq ([] : List Value).toArray } } = s3 := ⟨_, rfl⟩
  have h3 : s3.heap = s2.heap.push { cls := .type "list", data := .seq ([] : List Value).toArray } := by rw [← hs3]
  have I3 : Inv X pins σ (upd H2 Dn (.lst [])) s3 := by
    rw [← hs3]
    apply I2.laid (t' := s2.toks) (fun b o e => Heap.get?_push_of_some _ e) (Nat.le_of_eq hD)
    refine ⟨Nat.zero_le _, [], 0, .nil, ?_⟩
    rw [← hD]
    exact Heap.get?_push_size _ rfl
  have f3 : ∀ b ∈ fp, FpOk X pins (upd H2 Dn (.lst [])) b ∧ b < s3.heap.objs.size := fun b hb => by
    obtain ⟨ob, eb, _⟩ := Tn.obj _ _ st2 b hb
    have hlt := Heap.lt_size eb
    refine ⟨⟨?_, (f2 b hb).2⟩, by rw [h3, Heap.size_push]; exact Nat.lt_succ_of_lt hlt⟩
    rw [upd_ne (by rw [← hD]; exact Nat.ne_of_lt hlt)]
    exact (f2 b hb).1
  have st3 : tn 0 s3.heap := Tn.keep _ _ _ st2 fun b _ o e => by rw [h3]; exact Heap.get?_push_of_some _ e
  have I4 := block_start I3 ok nd f3
  have pg := hg s3 (upd H2 Dn (.lst [])) s3.heap.objs.size (cellsFrom (s3.heap.objs.size + 1) scope.names (cloFrom X.env.cells scope.names [])) fp
  have pt := ht s3 (upd H2 Dn (.lst [])) s3.heap.objs.size (cellsFrom (s3.heap.objs.size + 1) scope.names (cloFrom X.env.cells scope.names [])) fp
  have pe := he s3 (upd H2 Dn (.lst [])) s3.heap.objs.size (cellsFrom (s3.heap.objs.size + 1) scope.names (cloFrom X.env.cells scope.names [])) fp
  rw [hs3]
  show codeAny _ _ (.compStart (.ListComp elt [⟨tg, iter, ifs, 0⟩] scope pos) 0 (.ref it) (.ref Dn) (compEnvC scope (cellsFrom (s3.heap.objs.size + 1) scope.names (cloFrom X.env.cells scope.names [])) s3.heap.objs.size X.env)) (compPost (model X.prog X.w) X.A X.xe none (EP X pins σ Q) (.ref Dn) s3.heap.objs.size) { s3 with heap := pushCells (s3.heap.push { cls := .type "dict", data := .dict #[] }) scope.names }
  have nfp : ∀ b ∈ fp, (upd H2 Dn (.lst [])) b = none := fun b hb => (f3 b hb).1.1
  -- the handled exception
  obtain ⟨px, ⟨hh, vx, dx, cx⟩, hpx⟩ := hot
  obtain ⟨getx, freex, nlx, nfx, _⟩ := I3.pin px (List.mem_append_left _ hpx)
  have nstk : px.1 ∉ frs X.stack := fun hm => by
    rcases I3.ok.stk with e1 | ⟨e1, e2⟩
    · rw [e1] at hm; exact nfx hm
    · rw [e1] at hm
      unfold frs at hm
      rw [List.filterMap_cons] at hm
      rw [e2] at hm
      rcases List.mem_cons.mp hm with z | z
      · exact nlx z
      · exact nfx z
  have nfpx : px.1 ∉ fp := fun hm => (f3 _ hm).1.2.2.2.2.2 px (List.mem_append_left _ hpx) rfl
  obtain ⟨ce, hce⟩ : ∃ ce, compEnvC scope (cellsFrom (s3.heap.objs.size + 1) scope.names (cloFrom X.env.cells scope.names [])) s3.heap.objs.size X.env = ce := ⟨_, rfl⟩
  rw [hce] at I4 pg pt pe ⊢
  have cL : ce.locals = s3.heap.objs.size := by rw [← hce]; rfl
  obtain ⟨H3, hH3⟩ : ∃ H3, upd H2 Dn (.lst []) = H3 := ⟨_, rfl⟩
  rw [hH3] at I3 I4 pg pt pe w0 nfp f3 freex
  obtain ⟨s4, hs4⟩ : ∃ s4 : Shared, { s3 with heap := pushCells (s3.heap.push { cls := .type "dict", data := .dict #[] }) scope.names } = s4 := ⟨_, rfl⟩
  rw [hs4] at I4 ⊢
  have st4 : tn 0 s4.heap := Tn.keep _ _ _ st3 fun b _ o e => by rw [← hs4]; exact pushCells_keeps _ _ _ _ (Heap.get?_push_of_some _ e)
  have fps : ∀ {σ' : L2.St} {H' : Hp} {t : Shared}, Inv (X.blk s3 H3 scope ce fp) [] σ' H' t → (∀ b ∈ fp, H' b = none) → ∀ b ∈ fp, FpOk (X.blk s3 H3 scope ce fp) [] H' b := fun {σ' H' t} I' hn b hb =>
    ⟨hn b hb, (I'.ok.exf b hb).1, I'.ok.exfs b hb, .inl hb, fun x c e => (I'.ok.exf b hb).2 x c e, fun p hp => absurd (show p ∈ ([] : List (Addr × Obj)) ++ [] from hp) (by simp)⟩
  have loop : codeAny (model X.prog X.w) X.A (.compLoop (.ListComp elt [⟨tg, iter, ifs, 0⟩] scope pos) 0 (.ref it) (.ref Dn) ce) (compPost (model X.prog X.w) X.A X.xe none (EP X pins σ Q) (.ref Dn) s3.heap.objs.size) s4 := by
    refine compLoop_any (fun n t => ∃ i H', Inv (X.blk s3 H3 scope ce fp) [] (wipe σ (own.map (·.2))) H' t ∧ tn i t.heap ∧ (∀ b ∈ fp, H' b = none) ∧ W i n H') ?_ m0 ⟨0, H3, I4, st4, nfp, w0⟩
    rintro n s5 ⟨i, H5, I5, st5, n5, w5⟩
    rcases turn i n H5 w5 with ⟨stop, qq⟩ | ⟨go, Nx, hNx, step⟩
    · have hot5 : HotAt (X.blk s3 H3 scope ce fp).A px.1 s5.heap := ⟨hh, px.2, vx, I5.base.keep _ _ getx freex nstk nfpx, dx, cx⟩
      refine thnF (Tn.done (X.blk s3 H3 scope ce fp) rfl rfl rfl px.1 i [] s5 _ H5 (fun _ _ => False) hot5 nfpx I5 (fps I5 n5) st5 stop) ?_
      rintro r s6 ⟨rfl, I6⟩
      have I7 : Inv X pins σ H5 s6 := I3.call' (ch := fp) I6.os I6.base I6.hok I6.bare fun b hb => ⟨(f3 b hb).1.2.2.2.1, (f3 b hb).1.2.1, (f3 b hb).1.2.2.2.2.1, (f3 b hb).1.2.2.2.2.2⟩
      have nC : H5 s3.heap.objs.size = none := cL ▸ (show H5 ce.locals = none from I6.free)
      obtain ⟨m, hn, _⟩ := I6.loc
      have hn' : s6.heap.Ns s3.heap.objs.size m := cL ▸ (show s6.heap.Ns ce.locals m from hn)
      obtain ⟨k0, k1, k2, k3, k4, k5⟩ := I3.fpOk (Nat.le_refl _) nC
      exact ⟨m, hn', fun h'' sb => ⟨.ref Dn, H5, I7.turned (t' := s6.toks) (fun b o hb e => (sb.2 b hb).trans e) k0 k1 k3 k4 k5, rfl, qq⟩⟩
    · refine thnF (Tn.item (X.blk s3 H3 scope ce fp) rfl rfl rfl i [] s5 _ H5 (fun _ _ => False) I5 (fps I5 n5) st5 go) ?_
      rintro r s6 ⟨u, rfl, h6⟩
      refine thnF h6 ?_
      rintro _ s7 ⟨x, H7, I7, r7, y7, st7, n7⟩
      refine thnF (pg.run _ s7 _ H7 x u _ (I7.pinned (fps I7 n7) (Tn.obj _ _ st7)) r7 (step x H7 y7)) ?_
      rintro _ s8 ⟨σ8, H8, I8, hw8, q8⟩
      refine thnF (pt.run _ s8 σ8 H8 _ I8 q8) ?_
      rintro b s9 ⟨H9, I9, q9⟩
      have again : ∀ {t : Shared} {H' : Hp}, Inv (X.blk s3 H3 scope ce fp) ([] ++ pinsAt fp s7.heap) σ8 H' t → Nx H' → ∃ m, m < n ∧ ∃ i H', Inv (X.blk s3 H3 scope ce fp) [] (wipe σ (own.map (·.2))) H' t ∧ tn i t.heap ∧ (∀ b ∈ fp, H' b = none) ∧ W i m H' := fun {t H'} I' nx => by
        obtain ⟨m', hm, w'⟩ := hNx H' nx
        have pinned : ∀ b ∈ fp, ∀ o, s7.heap.get? b = some o → t.heap.get? b = some o ∧ H' b = none := fun b hb o e => by
          have z := I'.pin (b, o) (List.mem_append_right _ (List.mem_append_right _ (mem_pinsAt hb e)))
          exact ⟨z.1, z.2.1⟩
        refine ⟨m', hm, i + 1, H', (I'.unpinned (pins := [])).weak (by rw [← hw8, wipe_length]) (fun j v e => ?_), Tn.keep _ _ _ st7 fun b hb o e => (pinned b hb o e).1, fun b hb => ?_, w'⟩
        · rw [← hw8] at e
          exact (wipe_some e).1
        · obtain ⟨o, e, _⟩ := Tn.obj _ _ st7 b hb
          exact (pinned b hb o e).2
      cases b with
      | false => exact again I9 q9
      | true =>
        refine thnF (pe.run _ s9 σ8 H9 _ I9 q9) ?_
        rintro z s10 ⟨yv, H10, I10, r10, acc, hD10, hz10, nx⟩
        exact app_ok (X := X.blk s3 H3 scope ce fp) I10 hD10 hz10 r10 fun s11 I11 => again I11 nx
  exact codeAny_compStart_list loop (Tn.self X.A 0 _ _ _ st4 loop)
end
end DL

namespace DL
open PySem PySem.Spec PyProof.Rows L2 LamX HotX L2H
variable {T : LT}
/-! ### a def that is handed the handled exception itself -/
/-- the promise knows the exception p -/
abbrev SpT := Addr × Obj → List V → Hp → VK → Prop
structure FnT (P : Program) (w : World) (K : PySem.W.Frag) (mg : Str → Option Value) (base : Heap) (k : Nat) (f : Addr) (fd : FuncData) (ps : List Str) (sp : SpT) : Prop where
  len : ∀ p vs H Q, sp p vs H Q → vs.length = ps.length
  run : ∀ (p : Addr × Obj) (A : Around) (outer : List Env) (s : Shared) (H : Hp) (args : Args) (us : List Value) (vs : List V) (Q : VK), RoomH k A → Hot1 A p → PinOk outer H s p → Env0 P w K mg base A outer s H → BindsTo s fd args (ps.zip us) → Vals vs us → sp p vs H Q →
    codeAny (model P w) A (.call (.ref f) args) (CR C8.CX0 outer P w H s Q C8.E0) s
theorem fnT_of {P : Program} {w : World} {K : PySem.W.Frag} {mg : Str → Option Value} {base : Heap} {k : Nat} {x : Str} {params : Arguments} {body : List Stmt} {scope : Scope} {f : Addr} {fd : FuncData} {N ps : List Str} {sp : SpT}
    (F : FunD K x x params body scope [] [] f fd) (Sc : FnScope N ps scope) (len : ∀ p vs H Q, sp p vs H Q → vs.length = ps.length)
    (hbody : ∀ (cdv : Value) (A : Around) (outer : List Env) (s : Shared) (H : Hp) (vs : List V) (Q : VK) (p : Addr × Obj), Hot1 A p → RoomH k (A.deeper (envOfC x scope s.heap.objs.size f cdv)) → sp p vs H Q →
      ∃ t, PSs (cxH C8.CX0 P w K mg base N x scope f cdv A outer s H C8.E0 p) body t ∧ t { nx := fun _ H' => Q .non H', rt := Q } (L2.start N vs) H) : FnT P w K mg base (k + 1) f fd ps sp := by
  obtain ⟨oc, od, dV, kV, doc, pm, an, cdv, ct, osl, rfl, lk, hcd, _, _⟩ := F.ex
  refine ⟨len, ?_⟩
  intro p A outer s H args us vs Q hr hot hpin e0 hb r hsp
  have inK : K.In s.heap := e0.mod.kin.keeps fun b o e => (e0.bs b o e).1
  have nolim : s.heap.NoLimit := e0.mod.nolimit.keeps fun b o e => (e0.bs b o e).1
  apply codeAny_call_function hr.depth (inK _ _ lk) rfl Sc.co Sc.gen rfl (PySem.W.codeRec_of inK hcd)
  apply hb
  apply wpAny_newFunctionEnv_cells Sc.kind
  · rintro ⟨n, v⟩ hy
    rcases Sc.par n (List.of_mem_zip hy).1 with q | q
    · exact .inl q
    · exact .inr ⟨q, PySem.W.cellsFrom_some _ _ _ (.inl q)⟩
  · rintro env rfl s1 x1
    refine ⟨nolim.keeps x1.toInCall.keep, codeAny_func ?_⟩
    obtain ⟨t, ht, hq⟩ := hbody cdv A outer s H vs Q p hot (hr.deeper _) hsp
    refine wpAny_mono (ht.run [] s1 (L2.start N vs) H _ (inv_startH Sc hpin e0 (len _ _ _ _ hsp) r x1) hq) (fun fl s' hs => ?_) fun e s' hs => hs
    cases fl with
    | ret u =>
      obtain ⟨v, σ', H', J, rv, q⟩ := hs
      exact ⟨v, H', J.os, J.bare, J.base, J.hok, rv, q⟩
    | next =>
      obtain ⟨σ', H', J, q⟩ := hs
      exact ⟨.non, H', J.os, J.bare, J.base, J.hok, rfl, q⟩
    | brk => exact hs.elim fun _ z => z.elim fun _ z => False.elim z.2
    | cont => exact hs.elim fun _ z => z.elim fun _ z => False.elim z.2
theorem pe_callT {X : Cx} {k : Nat} {f : Addr} {fd : FuncData} {ps : List Str} {sp : SpT} {x : Str} {q pos : Pos} {e : Expr} {es : List Expr} {t : TA} {p : Addr × Obj} (F : FnT X.prog X.w X.K X.mg X.base k f fd ps sp) (hr : RoomH k X.A) (hot : Hot1 X.A p) (hp : p ∈ X.pn)
    (hg : Gl X x) (hm : X.mg x = some (.ref f)) (hk : PySem.W.keepIn X.K (.ref f) = true) (hb : L2.Binds X.K fd ps []) (ha : PA X (e :: es) t) (hdb : (x == ("__debug__" : Str)) = false := by decide) (he : starEach (e :: es) X.env = (false, eval e X.env) :: starEach es X.env := by rfl)
    (hpl : (backTo pos (starEach es X.env)).any (·.1) = false := by rfl) : PE X (.Call (.Name x q) (e :: es) [] pos) (fun σ H Q => t σ H fun vs H1 => sp p vs H1 Q) := by
  constructor
  intro pins s σ H Q I h
  apply wpAny_Call_Name_kw
  refine ld_glob I hg hm ?_ hdb
  refine PySem.W.callWith_K (h₀ := X.base) I.ok.mod.kin hk (thn (ha.run pos pins s σ H _ I h) ?_) he hpl
  rintro us s1 ⟨vs, H1, I1, r, q⟩
  refine ⟨I1.kIn, ?_⟩
  have b := hb s1 us I1.kIn (by rw [List.append_nil, ← r.length]; exact F.len _ _ _ _ q)
  rw [List.append_nil] at b
  obtain ⟨p1, p2, p3, p4, p5⟩ := I1.pin p (List.mem_append_left _ hp)
  refine wpAny_call (codeAny_mono (F.run p X.A X.stack s1 H1 ⟨us, []⟩ us vs Q hr hot ⟨p1, p2, fun hm => (List.mem_cons.mp (I1.stkSub p.1 hm)).elim p3 p4, p5⟩ I1.env0 b r q) fun r s' hq => ?_)
  cases r with
  | error e => exact (show False from hq).elim
  | ok fl =>
    cases fl with
    | ret u => exact I1.after hq
    | _ => exact False.elim hq
/-- isinstance(e, C), e pinned -/
theorem call_isP {X : Cx} {a D : Addr} {oe : Obj} (C : ExcC X.K D) (hz : Zc (.ref D) none oe) (hf : ∃ vs, oe.data = .fields vs) (hp : (a, oe) ∈ X.pn) : CallR X (.builtin "isinstance") (rIsE X.K D a) := by
  rintro pins s σ H xs us Q I r ⟨c, cv, b, rfl, hcv, e, q⟩
  cases r with
  | cons rx rr =>
    cases rr with
    | cons rt rr =>
      cases rr
      cases rx
      obtain rfl := hcv _ rt
      obtain ⟨hget, _⟩ := I.pin (a, oe) (List.mem_append.mpr (.inl hp))
      obtain ⟨vs, hv⟩ := hf
      have J : PySem.W.InstAt s.heap a oe D none := by
        obtain ⟨oc, od, oda, osl⟩ := oe
        obtain ⟨h1, h2⟩ := hz
        dsimp only at h1 h2 hv
        subst h1 h2 hv
        exact ⟨hget, rfl, rfl, trivial⟩
      exact PySem.W.kia_one (PySem.W.handS_kitx_exc C.hg C.hk C.hs C.hd C.ha C.hn C.ht C.hm) I.kIn J e (fun z => nomatch z) fun tk => ⟨.bl b, H, I.kept (t' := tk) fun _ _ z => z, rfl, q⟩
end DL

namespace DL
open PySem PySem.Spec PyProof.Rows L2 LamX HotX L2H
variable {T : LT}
theorem walks_hot {prog : Program} {w : World} {A : Around} {x1 : Addr} {o1 : Obj} {vs1 : Array Value} (hh : A.handled = some (.ref x1)) (d1 : o1.data = .fields vs1) (c1 : vs1[2]? = some .none) (I l : Addr) (hne : l ≠ I) (hx : x1 ≠ I) (items : Array Value) :
    Walks prog w A I [I, l, x1] [I] items.size (fun i v => items[i]? = some v) (fun i h => h.IsListIter I l i ∧ h.IsList l items ∧ h.get? x1 = some o1) where
  sub := fun b hb => by simp at hb; simp [hb]
  frame := fun _ _ _ st hk => ⟨st.1.at fun o e => hk I (by simp) o e, st.2.1.at fun o e => hk l (by simp) o e, hk x1 (by simp) _ st.2.2⟩
  item := fun i s Q E hi st hQ => by
    apply wpAny_pyNext_list_item st.1 st.2.1 (x := items[i]) (by simp [hi])
    intro h' hit' hs'
    exact hQ _ h' s.toks (by simp [hi]) ⟨hit', st.2.1.extBut hs'.extBut hne, (hs'.2 x1 hx).trans st.2.2⟩ fun b o hb e => hs'.extBut b o (fun h => hb (by simp [h])) e
  done := fun s Q E st hQ => next_list_end_hot ⟨hh, o1, vs1, st.2.2, d1, c1⟩ hx st.1 st.2.1 (by simp) fun h' he' => hQ h' s.toks fun b o hb e => he' b o (fun h => hb (by simp [h])) e
  self := fun _ _ _ _ st hQ => wpAny_pyIter_listiter st.1 hQ
theorem cr_sumQ {X : Cx} (hot : HotC X) : CallR X (.builtin "sum") (rSum X.K) := by
  rintro pins s σ H vs us Q I r ⟨a, ns, rfl, hs, q⟩
  obtain ⟨its, rv, hl, _⟩ := I.list hs
  rw [Vals.ref1 r]
  obtain ⟨p, ⟨hh, v1, e1, c1⟩, hp⟩ := hot
  have getp := (I.pin p (List.mem_append_left _ hp)).1
  have hi := rv.ints
  obtain ⟨xs, e⟩ := hi.allInts.items
  have hn : numsOf (intItems xs).toList = ns := by rw [← e]; exact hi.numsOf
  rw [nums_intItems] at hn
  have hl' := hl.isList
  rw [e] at hl'
  apply call_sum_walkG
  refine iter_intList hl' fun s2 es st hfp hlI => ?_
  subst es
  have hx : p.1 ≠ s.heap.objs.size := Nat.ne_of_lt (Heap.lt_size getp)
  refine ⟨_, _, _, _, _, _, numAt xs, rfl, walks_hot (A := X.A.in1) (o1 := p.2) hh e1 c1 _ a hlI hx (intItems xs), ⟨st.1, st.2, Heap.get?_push_of_some _ getp⟩, ?_, (fun _ _ => intItems_at), fun h' tk t' hk => ?_⟩
  · intro b hb
    simp only [List.mem_cons, List.not_mem_nil, or_false] at hb
    rcases hb with z | z | z
    · exact hfp b (by simp [z])
    · exact hfp b (by simp [z])
    · rw [z]; exact Heap.lt_size (Heap.get?_push_of_some _ getp)
  · rw [preSum_eq, List.take_of_length_le (by simp [intItems]), hn]
    exact ⟨.int _, H, I.kept (old_kept hk), ⟨_, rfl⟩, q⟩
end DL

namespace DL
open PySem PySem.Spec PyProof.Rows L2
variable {T : LT}
/-! ### built-ins by values -/
def allB : List D → Option (List Bool)
  | [] => some []
  | .bl b :: r => (allB r).map (b :: ·)
  | _ => none
def allI : List D → Option (List Int)
  | [] => some []
  | .int b :: r => (allI r).map (b :: ·)
  | _ => none
def allS : List D → Option (List String)
  | [] => some []
  | .str b :: r => (allS r).map (b :: ·)
  | _ => none
theorem allB_eq : ∀ {xs : List D} {bs : List Bool}, allB xs = some bs → xs = bs.map .bl
  | [], bs, h => by cases h; rfl
  | .bl b :: r, bs, h => by
    obtain ⟨cs, e, rfl⟩ := Option.map_eq_some_iff.mp h
    rw [allB_eq e, List.map_cons]
  | .non :: _, _, h => by cases h
  | .int _ :: _, _, h => by cases h
  | .str _ :: _, _, h => by cases h
  | .tup _ :: _, _, h => by cases h
  | .lst _ :: _, _, h => by cases h
  | .dct _ :: _, _, h => by cases h
  | .ref _ :: _, _, h => by cases h
  | .scr _ :: _, _, h => by cases h
theorem allI_eq : ∀ {xs : List D} {bs : List Int}, allI xs = some bs → xs = bs.map .int
  | [], bs, h => by cases h; rfl
  | .int b :: r, bs, h => by
    obtain ⟨cs, e, rfl⟩ := Option.map_eq_some_iff.mp h
    rw [allI_eq e, List.map_cons]
  | .non :: _, _, h => by cases h
  | .bl _ :: _, _, h => by cases h
  | .str _ :: _, _, h => by cases h
  | .tup _ :: _, _, h => by cases h
  | .lst _ :: _, _, h => by cases h
  | .dct _ :: _, _, h => by cases h
  | .ref _ :: _, _, h => by cases h
  | .scr _ :: _, _, h => by cases h
theorem allS_eq : ∀ {xs : List D} {bs : List String}, allS xs = some bs → xs = bs.map .str
  | [], bs, h => by cases h; rfl
  | .str b :: r, bs, h => by
    obtain ⟨cs, e, rfl⟩ := Option.map_eq_some_iff.mp h
    rw [allS_eq e, List.map_cons]
  | .non :: _, _, h => by cases h
  | .bl _ :: _, _, h => by cases h
  | .int _ :: _, _, h => by cases h
  | .tup _ :: _, _, h => by cases h
  | .lst _ :: _, _, h => by cases h
  | .dct _ :: _, _, h => by cases h
  | .ref _ :: _, _, h => by cases h
  | .scr _ :: _, _, h => by cases h
def pyLen (G : DG) : List D → Option D
  | [.str s] => if s.length ≤ 16000000 then some (.int s.length) else none
  | [x] => match asQ G x with
    | some xs => some (.int xs.length)
    | none => match asD G x with
      | some kvs => some (.int kvs.length)
      | none => none
  | _ => none
def pyInt1 (_ : DG) : List D → Option D
  | [.int i] => some (.int i)
  | [.bl b] => some (.int (if b then 1 else 0))
  | _ => none
def pySum (G : DG) : List D → Option D
  | [x] => (asL G x).bind fun xs => (allI xs).map fun ns => .int ns.sum
  | _ => none
def pyAll (G : DG) : List D → Option D
  | [x] => (asL G x).bind fun xs => (allB xs).map fun bs => .bl (bs.all id)
  | _ => none
def pyAny (G : DG) : List D → Option D
  | [x] => (asL G x).bind fun xs => (allB xs).map fun bs => .bl (bs.any id)
  | _ => none
def pyMin2 (_ : DG) : List D → Option D
  | [.int i, .int j] => some (.int (if j < i then j else i))
  | _ => none
def pyMax2 (_ : DG) : List D → Option D
  | [.int i, .int j] => some (.int (if j > i then j else i))
  | _ => none
def pyTup (G : DG) : List D → Option D
  | [x] => (asQ G x).map .tup
  | _ => none
def pyLst (G : DG) : List D → Option D
  | [x] => (asQ G x).map .lst
  | _ => none
def pyAbs (_ : DG) : List D → Option D
  | [.int i] => some (.int (if i < 0 then -i else i))
  | _ => none
theorem RelDs.one {K : PySem.W.Frag} {F : FS} {H : Hp} {x : D} {vs : List V} (r : RelDs K F H [x] vs) : ∃ v, vs = [v] ∧ RelD K F H x v := by
  obtain ⟨v, t, rfl, h, e⟩ := r
  have e : t = [] := e
  rw [e]
  exact ⟨v, rfl, h⟩
theorem RelDs.two {K : PySem.W.Frag} {F : FS} {H : Hp} {x y : D} {vs : List V} (r : RelDs K F H [x, y] vs) : ∃ v u, vs = [v, u] ∧ RelD K F H x v ∧ RelD K F H y u := by
  obtain ⟨v, t, rfl, h, r⟩ := r
  obtain ⟨u, rfl, h'⟩ := RelDs.one r
  exact ⟨v, u, rfl, h, h'⟩
section
variable {X : Cx}
theorem call_pyLen : CallR X (.builtin "len") (rDB X.K T pyLen) := by
  rintro pins s σ H xs us Q I rs ⟨F, G, ds, z, hg, r, e, q⟩
  unfold pyLen at e
  split at e
  · rename_i t
    obtain ⟨v, rfl, rv⟩ := r.one
    split at e
    · rename_i hl
      cases e
      exact call_len pins s σ H _ us Q I rs ⟨v, _, rfl, (by rw [show v = V.str (S t) from rv]; exact ⟨by rw [S_len]; exact small_line hl, rfl⟩), q _ _ H Step.refl hg (by rw [S_len]; rfl)⟩
    · cases e
  · rename_i x _
    obtain ⟨v, rfl, rv⟩ := r.one
    split at e
    · rename_i ys ey
      cases e
      obtain ⟨a, vs, rfl, h, k⟩ := asQ_ok hg rv ey
      refine call_len pins s σ H _ us Q I rs ⟨_, vs.length, rfl, h.imp (fun h => ⟨vs, h, rfl⟩) (fun h => ⟨vs, h, rfl⟩), q _ _ H Step.refl hg (by rw [← k.length]; rfl)⟩
    · split at e
      · rename_i kvs ek
        cases e
        obtain ⟨a, ws, rfl, h, k⟩ := asD_ok hg rv ek
        cases rs with
        | cons ru rt =>
          cases rt
          cases ru
          exact d_len I h fun t s' I' => ⟨.int ws.length, H, I', ⟨t, rfl⟩, q _ _ H Step.refl hg (by rw [k.length]; rfl)⟩
      · cases e
  · cases e
theorem call_pyInt1 : CallR X (.type "int") (rDB X.K T pyInt1) := by
  rintro pins s σ H xs us Q I rs ⟨F, G, ds, z, hg, r, e, q⟩
  unfold pyInt1 at e
  split at e
  · cases e
    obtain ⟨v, rfl, rv⟩ := r.one
    exact call_int1 pins s σ H _ us Q I rs (.inl ⟨_, by rw [show v = _ from rv], q _ _ H Step.refl hg rfl⟩)
  · cases e
    obtain ⟨v, rfl, rv⟩ := r.one
    exact call_int1 pins s σ H _ us Q I rs (.inr ⟨_, by rw [show v = _ from rv], q _ _ H Step.refl hg rfl⟩)
  · cases e
theorem sum_word {G : DG} {F : FS} {H : Hp} {ds : List D} {z : D} {xs : List V} (hg : RelG X.K T F G H) (r : RelDs X.K F H ds xs) (e : pySum G ds = some z) : ∃ (a : Addr) (ns : List Int), xs = [V.ref a] ∧ SqL X.K H a (ns.map V.int) ∧ z = .int ns.sum := by
  unfold pySum at e
  split at e
  · obtain ⟨v, rfl, rv⟩ := r.one
    obtain ⟨ys, ey, e⟩ := Option.bind_eq_some_iff.mp e
    obtain ⟨ns, en, rfl⟩ := Option.map_eq_some_iff.mp e
    obtain ⟨a, vs, rfl, h, k⟩ := asL_ok hg rv ey
    rw [allI_eq en] at k
    rw [k.ints] at h
    exact ⟨a, ns, rfl, .inl h, rfl⟩
  · cases e
theorem call_pySum (hc : X.calm = true) : CallR X (.builtin "sum") (rDB X.K T pySum) := by
  rintro pins s σ H xs us Q I rs ⟨F, G, ds, z, hg, r, e, q⟩
  obtain ⟨a, ns, ex, h, rfl⟩ := sum_word hg r e
  exact cr_sum hc pins s σ H xs us Q I rs ⟨a, ns, ex, h, q _ _ H Step.refl hg rfl⟩
theorem call_pySumQ (hc : L2H.HotC X) : CallR X (.builtin "sum") (rDB X.K T pySum) := by
  rintro pins s σ H xs us Q I rs ⟨F, G, ds, z, hg, r, e, q⟩
  obtain ⟨a, ns, ex, h, rfl⟩ := sum_word hg r e
  exact cr_sumQ hc pins s σ H xs us Q I rs ⟨a, ns, ex, h, q _ _ H Step.refl hg rfl⟩
theorem call_pyAll (hc : X.calm = true) : CallR X (.builtin "all") (rDB X.K T pyAll) := by
  rintro pins s σ H xs us Q I rs ⟨F, G, ds, z, hg, r, e, q⟩
  unfold pyAll at e
  split at e
  · obtain ⟨v, rfl, rv⟩ := r.one
    obtain ⟨ys, ey, e⟩ := Option.bind_eq_some_iff.mp e
    obtain ⟨bs, en, rfl⟩ := Option.map_eq_some_iff.mp e
    obtain ⟨a, vs, rfl, h, k⟩ := asL_ok hg rv ey
    rw [allB_eq en] at k
    rw [k.bls] at h
    exact cr_all hc pins s σ H _ us Q I rs ⟨a, bs, rfl, .inl h, q _ _ H Step.refl hg rfl⟩
  · cases e
theorem call_pyAny (hc : X.calm = true) : CallR X (.builtin "any") (rDB X.K T pyAny) := by
  rintro pins s σ H xs us Q I rs ⟨F, G, ds, z, hg, r, e, q⟩
  unfold pyAny at e
  split at e
  · obtain ⟨v, rfl, rv⟩ := r.one
    obtain ⟨ys, ey, e⟩ := Option.bind_eq_some_iff.mp e
    obtain ⟨bs, en, rfl⟩ := Option.map_eq_some_iff.mp e
    obtain ⟨a, vs, rfl, h, k⟩ := asL_ok hg rv ey
    rw [allB_eq en] at k
    rw [k.bls] at h
    exact cr_any hc pins s σ H _ us Q I rs ⟨a, bs, rfl, .inl h, q _ _ H Step.refl hg rfl⟩
  · cases e
theorem call_pyMin2 (hc : X.calm = true) : CallR X (.builtin "min") (rDB X.K T pyMin2) := by
  rintro pins s σ H xs us Q I rs ⟨F, G, ds, z, hg, r, e, q⟩
  unfold pyMin2 at e
  split at e
  · cases e
    obtain ⟨v, u, rfl, rv, ru⟩ := r.two
    exact call_min2 hc pins s σ H _ us Q I rs ⟨_, _, by rw [show v = _ from rv, show u = _ from ru], q _ _ H Step.refl hg rfl⟩
  · cases e
theorem call_pyMax2 (hc : X.calm = true) : CallR X (.builtin "max") (rDB X.K T pyMax2) := by
  rintro pins s σ H xs us Q I rs ⟨F, G, ds, z, hg, r, e, q⟩
  unfold pyMax2 at e
  split at e
  · cases e
    obtain ⟨v, u, rfl, rv, ru⟩ := r.two
    exact call_max2 hc pins s σ H _ us Q I rs ⟨_, _, by rw [show v = _ from rv, show u = _ from ru], q _ _ H Step.refl hg rfl⟩
  · cases e
theorem call_pyAbs : CallR X (.builtin "abs") (rDB X.K T pyAbs) := by
  rintro pins s σ H xs us Q I rs ⟨F, G, ds, z, hg, r, e, q⟩
  unfold pyAbs at e
  split at e
  · cases e
    obtain ⟨v, rfl, rv⟩ := r.one
    exact call_abs pins s σ H _ us Q I rs ⟨_, by rw [show v = _ from rv], q _ _ H Step.refl hg rfl⟩
  · cases e
theorem call_pyTup : CallR X (.type "tuple") (rDB X.K T pyTup) := by
  rintro pins s σ H xs us Q I rs ⟨F, G, ds, z, hg, r, e, q⟩
  unfold pyTup at e
  split at e
  · rename_i d
    obtain ⟨v, rfl, rv⟩ := r.one
    obtain ⟨ys, ey, rfl⟩ := Option.map_eq_some_iff.mp e
    cases d with
    | tup zs =>
      cases ey
      obtain ⟨a, vs, rfl, t, k⟩ := rv
      exact call_tuple_of pins s σ H _ us Q I rs ⟨a, vs, rfl, .inr ⟨t.sq, q _ _ H Step.refl hg ⟨a, vs, rfl, t, k⟩⟩⟩
    | lst zs =>
      obtain ⟨a, vs, rfl, h, k⟩ := asL_ok hg rv ey
      exact call_tuple_of pins s σ H _ us Q I rs ⟨a, vs, rfl, .inl ⟨.inl h, fun p hp => q _ _ _ (Step.new hp) (hg.new hp) (relD_newTup hg hp k)⟩⟩
    | scr ns =>
      cases ey
      obtain ⟨a, rfl, h⟩ := rv
      exact call_tuple_of pins s σ H _ us Q I rs ⟨a, ns.map V.int, rfl, .inl ⟨h.imp (fun h => h.1.rd) id, fun p hp => q _ _ _ (Step.new hp) (hg.new hp) (relD_newTup hg hp (relDs_ints ns))⟩⟩
    | ref b =>
      obtain ⟨a, vs, rfl, h, k⟩ := asL_ok hg rv ey
      exact call_tuple_of pins s σ H _ us Q I rs ⟨a, vs, rfl, .inl ⟨.inl h, fun p hp => q _ _ _ (Step.new hp) (hg.new hp) (relD_newTup hg hp k)⟩⟩
    | _ => cases ey
  · cases e
theorem call_pyLst : CallR X (.type "list") (rDB X.K T pyLst) := by
  rintro pins s σ H xs us Q I rs ⟨F, G, ds, z, hg, r, e, q⟩
  unfold pyLst at e
  split at e
  · obtain ⟨v, rfl, rv⟩ := r.one
    obtain ⟨ys, ey, rfl⟩ := Option.map_eq_some_iff.mp e
    obtain ⟨a, vs, rfl, h, k⟩ := asQ_ok hg rv ey
    exact call_list_of pins s σ H _ us Q I rs ⟨a, vs, rfl, h, fun p hp => q _ _ _ (Step.new hp) (hg.new hp) (relD_newLst hg hp k)⟩
  · cases e
end
/-! isinstance with a built-in class -/
def tyO : Option DO → Option String
  | some (.lst _) => some "list"
  | some (.dct _) => some "dict"
  | _ => none
def tyD (G : DG) : D → Option String
  | .non => some "NoneType"
  | .bl _ => some "bool"
  | .int _ => some "int"
  | .str _ => some "str"
  | .tup _ => some "tuple"
  | .lst _ => some "list"
  | .dct _ => some "dict"
  | .ref a => tyO (G a)
  | .scr _ => none
def isiB (t ty : String) : Bool := t == ty || (t == "bool" && ty == "int")
def pyIsi (ty : String) (G : DG) (x : D) : Option D := (tyD G x).map fun t => .bl (isiB t ty)
theorem kit_isi {K : PySem.W.Frag} {t ty : String} (ht : t ∈ ["NoneType", "bool", "int", "str", "tuple", "list", "dict"]) (hty : ty ∈ ["int", "bool", "str", "tuple", "list", "dict"]) : PySem.W.kitOne K (.type t) (.type ty) = some (isiB t ty) := by
  have all : ∀ t ∈ ["NoneType", "bool", "int", "str", "tuple", "list", "dict"], ∀ ty ∈ ["int", "bool", "str", "tuple", "list", "dict"], kitB t ty = some (isiB t ty) := by decide +kernel
  exact kit_ty (all t ht ty hty)
theorem Rs.tyL {K : PySem.W.Frag} {H : Hp} {a : Addr} {vs : List V} (h : Rs H a (.lst vs)) : TyX K H (.ref a) (.type "list") := by
  rcases h.rd with h | ⟨o, h⟩
  · exact .base (.lst h)
  · exact .base (.frz h)
theorem Rs.tyT {K : PySem.W.Frag} {H : Hp} {a : Addr} {vs : List V} (h : Rs H a (.tup vs)) : TyX K H (.ref a) (.type "tuple") := by
  rcases h.rd with h | ⟨o, h⟩
  · exact .base (.tup h)
  · exact .fTuple h
theorem Rs.tyD {K : PySem.W.Frag} {H : Hp} {a : Addr} {vs : List (Key × V)} (h : Rs H a (.dK vs)) : TyX K H (.ref a) (.type "dict") := by
  rcases h.rd with h | ⟨o, h⟩
  · exact .base (.dK h)
  · exact .fDict h
theorem tyD_ok {K : PySem.W.Frag} {F : FS} {G : DG} {H : Hp} {d : D} {v : V} {t : String} (hg : RelG K T F G H) (r : RelD K F H d v) (e : tyD G d = some t) : TyX K H v (.type t) ∧ t ∈ ["NoneType", "bool", "int", "str", "tuple", "list", "dict"] := by
  cases d with
  | non => cases e; rw [show v = _ from r]; exact ⟨.base .non, by decide⟩
  | bl b => cases e; rw [show v = _ from r]; exact ⟨.base (.bl b), by decide⟩
  | int b => cases e; rw [show v = _ from r]; exact ⟨.base (.int b), by decide⟩
  | str b => cases e; rw [show v = _ from r]; exact ⟨.base (.str _), by decide⟩
  | tup b =>
    cases e
    obtain ⟨a, vs, rfl, h, _⟩ := r
    refine ⟨?_, by decide⟩
    rcases h with ⟨h, _⟩ | ⟨o, its, n, hk, hc, _⟩
    · exact h.tyT
    · exact .kTuple hk hc
  | lst b =>
    cases e
    obtain ⟨a, vs, rfl, h, _⟩ := r
    exact ⟨h.1.tyL, by decide⟩
  | dct b =>
    cases e
    obtain ⟨a, vs, rfl, h, _⟩ := r
    exact ⟨h.1.tyD, by decide⟩
  | scr ns => cases e
  | ref a =>
    rw [show v = _ from r]
    have e : tyO (G a) = some t := e
    cases q : G a with
    | none => rw [q] at e; cases e
    | some o =>
      rw [q] at e
      cases o with
      | lst xs =>
        cases e
        obtain ⟨vs, h, _⟩ := hg.ob a _ q
        exact ⟨.base (.lst h), by decide⟩
      | dct xs =>
        cases e
        obtain ⟨vs, h, _⟩ := hg.ob a _ q
        exact ⟨.base (.dK h), by decide⟩
      | ins c fs => cases e
theorem q_isi {X : Cx} {W : WX} {e : Expr} {te : DTE} {p p2 pos : Pos} {ty : String} (hg : Gl X "isinstance") (hm : X.mg "isinstance" = none) (hgt : Gl X (Str.ofString ty)) (hmt : X.mg (Str.ofString ty) = none) (hv : bootBuiltins (Str.ofString ty) = some (.type ty)) (he : QE X T W e te)
    (hty : ty ∈ ["int", "bool", "str", "tuple", "list", "dict"] := by decide) (hn : Str.ofString ty ≠ "__name__" := by decide) (hd : (Str.ofString ty == ("__debug__" : Str)) = false := by decide)
    (hs1 : starEach [e, .Name (Str.ofString ty) p2] X.env = (false, eval e X.env) :: starEach [.Name (Str.ofString ty) p2] X.env := by rfl) :
    QE X T W (.Call (.Name "isinstance" p) [e, .Name (Str.ofString ty) p2] [] pos) (dUn (pyIsi ty) te) :=
  PE.imp (pe_callB (call_isi (X := X)) hg hm PyProof.Rows.boot_isinstance (pa_cons he (pa_cons (pe_bltn hgt hmt hv (v := .ty ty) rfl hn hd) pa_nil) hs1) (he := hs1)) fun σ H Q ⟨env, F, G, E, P, hg, hs, hx, ht, hq⟩ =>
    ⟨env, F, G, E, _, hg, hs, hx, ht, fun x F1 G1 v1 H1 ⟨z, e, p⟩ s1 g1 r1 => by
      obtain ⟨t, et, rfl⟩ := Option.map_eq_some_iff.mp e
      obtain ⟨tx, mt⟩ := tyD_ok g1 r1 et
      exact ⟨v1, .ty ty, .type t, .type ty, isiB t ty, rfl, .ty ty, tx, kit_isi mt hty, hq _ F1 G1 _ H1 p s1 g1 rfl⟩⟩
end DL

namespace DL
open PySem PySem.Spec PyProof.Rows L2
variable {T : LT}
/-! ### methods of built-in types -/
abbrev DMF := DG → D → List D → Option (D × DG)
def tyM (G : DG) : D → Option String
  | .str _ => some "str"
  | .lst _ => some "list"
  | .ref a => tyO (G a)
  | _ => none
def dMt (ty : String) (f : DMF) (to : DTE) (ta : DTA) : DTE := fun E env G Q => to E env G fun x G1 => tyM G1 x = some ty ∧ ta E env G1 fun xs G2 => ∃ z G3, f G2 x xs = some (z, G3) ∧ Q z G3
def dMt0 (ty : String) (f : DMF) (to : DTE) : DTE := fun E env G Q => to E env G fun x G1 => tyM G1 x = some ty ∧ ∃ z G3, f G1 x [] = some (z, G3) ∧ Q z G3
def rDM (K : PySem.W.Frag) (T : LT) (f : DMF) : V → List V → Hp → VK → Prop := fun x xs H Q => ∃ F G d ds z G', RelG K T F G H ∧ RelD K F H d x ∧ RelDs K F H ds xs ∧ f G d ds = some (z, G') ∧
  ∀ F' v H', Step F G H F' G' H' → RelG K T F' G' H' → RelD K F' H' z v → Q v H'
theorem tyM_ok {K : PySem.W.Frag} {F : FS} {G : DG} {H : Hp} {d : D} {v : V} {t : String} (hg : RelG K T F G H) (r : RelD K F H d v) (e : tyM G d = some t) : tyV K t v H := by
  cases d with
  | str b => cases e; rw [show v = _ from r]; exact rfl
  | lst b =>
    cases e
    obtain ⟨a, vs, rfl, h, _⟩ := r
    exact .inl ⟨rfl, vs, .inl h.1.rd⟩
  | ref a =>
    rw [show v = _ from r]
    have e : tyO (G a) = some t := e
    cases q : G a with
    | none => rw [q] at e; cases e
    | some o =>
      rw [q] at e
      cases o with
      | lst xs =>
        cases e
        obtain ⟨vs, h, _⟩ := hg.ob a _ q
        exact .inl ⟨rfl, vs, .inl (.inl h)⟩
      | dct xs =>
        cases e
        obtain ⟨vs, h, _⟩ := hg.ob a _ q
        exact .inr (.inr (.inl ⟨rfl, .inl ⟨vs, h⟩⟩))
      | ins c fs => cases e
  | _ => cases e
section
variable {X : Cx} {W : WX} {o e : Expr} {es : List Expr} {to : DTE} {ta : DTA} {name : Str} {apos cpos : Pos} {ty id : String} {f : DMF}
theorem q_mt0 (pa : PlainAttrs ty) (slot : Slot ty name id) (hty : typeOf (.builtin id) = pure (.type "method_descriptor")) (hm : MtR X id (rDM X.K T f)) (ho : QE X T W o to)
    (hbase : attributeBase o name X.env (eval o X.env) = eval o X.env := by rfl) (hline : (apos.endLine == cpos.line) = true := by rfl) : QE X T W (.Call (.Attribute o name apos) [] [] cpos) (dMt0 ty f to) :=
  PE.imp (pe_bm0 pa slot hty hm ho hbase hline) fun σ H Q ⟨env, F, G, E, P, hg, hs, hx, ht, hq⟩ => ⟨env, F, G, E, _, hg, hs, hx, ht, fun x F1 G1 v1 H1 ⟨et, z, G3, ef, p⟩ s1 g1 r1 =>
    ⟨tyM_ok g1 r1 et, F1, G1, x, [], z, G3, g1, r1, rfl, ef, fun F' v H' s2 g2 r2 => hq z F' G3 v H' p (s1.trans s2) g2 r2⟩⟩
theorem q_mt (pa : PlainAttrs ty) (slot : Slot ty name id) (hty : typeOf (.builtin id) = pure (.type "method_descriptor")) (hm : MtR X id (rDM X.K T f)) (ho : QE X T W o to) (ha : QA X T W (e :: es) ta)
    (hbase : attributeBase o name X.env (eval o X.env) = eval o X.env := by rfl)
    (hfew : ((backTo cpos (starEach (e :: es) X.env)).all (fun x => !x.1) && (backToKw cpos (keywordEach [] X.env)).all (fun x => x.1.isSome) && decide ((e :: es).length + ([] : List Keyword).length + (if ([] : List Keyword).isEmpty then 0 else 1) < 30)) = true := by rfl)
    (hline : (apos.endLine == cpos.line) = true := by rfl) (hs : starEach (e :: es) X.env = (false, eval e X.env) :: starEach es X.env := by rfl) (hplain : (backTo cpos (starEach es X.env)).any (·.1) = false := by rfl) :
    QE X T W (.Call (.Attribute o name apos) (e :: es) [] cpos) (dMt ty f to ta) :=
  PE.imp (pe_bm pa slot hty hm ho ha hbase hfew hline hs hplain) fun σ H Q ⟨env, F, G, E, P, hg, hs, hx, ht, hq⟩ => ⟨env, F, G, E, _, hg, hs, hx, ht, fun x F1 G1 v1 H1 ⟨et, p1⟩ s1 g1 r1 =>
    ⟨tyM_ok g1 r1 et, env, F1, G1, E, _, g1, hs.step s1, hx.step s1, p1, fun xs F2 G2 vs H2 ⟨z, G3, ef, p⟩ s2 g2 r2 =>
      ⟨F2, G2, x, xs, z, G3, g2, RelD.step s2 x r1, r2, ef, fun F' v H' s3 g3 r3 => hq z F' G3 v H' p (s1.trans (s2.trans s3)) g3 r3⟩⟩⟩
end
/-! lists -/
def mAppend : DMF := fun G x xs => match x, xs with
  | .ref a, [y] => match lstO (G a) with
    | some ys => if ys.length < 16000000 then some (.non, gset G a (some (.lst (ys ++ [y])))) else none
    | none => none
  | _, _ => none
def mPop : DMF := fun G x xs => match x, xs with
  | .ref a, [] => match lstO (G a) with
    | some ys => match ys.getLast? with
      | some y => some (y, gset G a (some (.lst ys.dropLast)))
      | none => none
    | none => none
  | _, _ => none
def mPop0 : DMF := fun G x xs => match x, xs with
  | .ref a, [.int 0] => match lstO (G a) with
    | some (y :: ys) => some (y, gset G a (some (.lst ys)))
    | _ => none
  | _, _ => none
def idxF (y : D) : List D → Option Nat
  | [] => none
  | z :: zs => if eqF z y = true then some 0 else (idxF y zs).map (· + 1)
def mIndex : DMF := fun G x xs => match xs with
  | [y] => match asL G x with
    | some zs => if flatD y && zs.all flatD then (idxF y zs).map fun j => (.int (j : Nat), G) else none
    | none => none
  | _ => none
theorem idxF_at {y : D} : ∀ {zs : List D} {j : Nat}, idxF y zs = some j → ∃ z, zs[j]? = some z ∧ eqF z y = true ∧ ∀ m z', m < j → zs[m]? = some z' → eqF z' y = false
  | [], j, h => by cases h
  | z :: zs, j, h => by
    unfold idxF at h
    split at h
    · cases h
      rename_i hz
      exact ⟨z, rfl, hz, fun m z' hm => by omega⟩
    · rename_i hz
      obtain ⟨k, ek, rfl⟩ := Option.map_eq_some_iff.mp h
      obtain ⟨w, h1, h2, h3⟩ := idxF_at ek
      refine ⟨w, h1, h2, fun m z' hm e => ?_⟩
      cases m with
      | zero =>
        simp only [List.getElem?_cons_zero, Option.some.injEq] at e
        subst e
        simpa using hz
      | succ m =>
        simp only [List.getElem?_cons_succ] at e
        exact h3 m z' (by omega) e
theorem RelDs.back {K : PySem.W.Frag} {F : FS} {H : Hp} {ds : List D} {vs : List V} (r : RelDs K F H ds vs) {j : Nat} {v : V} (e : vs[j]? = some v) : ∃ d, ds[j]? = some d ∧ RelD K F H d v := by
  have hl := r.length
  have hj : j < ds.length := by
    have := (List.getElem?_eq_some_iff.mp e).1
    omega
  obtain ⟨v', e', r'⟩ := r.get (List.getElem?_eq_getElem hj)
  rw [e] at e'
  cases e'
  exact ⟨_, List.getElem?_eq_getElem hj, r'⟩
section
variable {X : Cx}
theorem mt_mAppend : MtR X "list.append" (rDM X.K T mAppend) := by
  rintro pins s σ H x xs v us Q I rx rs ⟨F, G, d, ds, z, G', hg, r1, r2, e, q⟩
  unfold mAppend at e
  split at e
  · rename_i a y
    split at e
    · rename_i ys ey
      split at e
      · rename_i hl
        cases e
        have hq := lstO_eq ey
        obtain ⟨vs, h, k⟩ := hg.ob a _ hq
        obtain ⟨w, rfl, rw'⟩ := r2.one
        have hs : H a = none ∨ G a ≠ none := .inr (by rw [hq]; simp)
        refine mt_append pins s σ H x _ v us Q I rx rs ⟨a, vs, w, r1, rfl, h, by rw [← k.length]; exact Nat.lt_of_lt_of_le hl (by decide), ?_⟩
        have st : Step F G H F (gset G a (some (.lst (ys ++ [y])))) (upd H a (.lst (vs ++ [w]))) := Step.set hg hs
        exact q F _ _ st (hg.set hs ⟨_, rfl, RelDs.step st _ (k.append ⟨w, [], rfl, rw', rfl⟩)⟩) rfl
      · cases e
    · cases e
  · cases e
theorem RelDs.dropLast {K : PySem.W.Frag} {F : FS} {H : Hp} : ∀ {ds : List D} {vs : List V}, RelDs K F H ds vs → RelDs K F H ds.dropLast vs.dropLast := fun {ds vs} r => by
  rw [List.dropLast_eq_take, List.dropLast_eq_take, ← r.length]
  exact r.take _
theorem mt_mPop : MtR X "list.pop" (rDM X.K T mPop) := by
  rintro pins s σ H x xs v us Q I rx rs ⟨F, G, d, ds, z, G', hg, r1, r2, e, q⟩
  unfold mPop at e
  split at e
  · rename_i a
    split at e
    · rename_i ys ey
      split at e
      · rename_i y el
        cases e
        have hq := lstO_eq ey
        obtain ⟨vs, h, k⟩ := hg.ob a _ hq
        have hs : H a = none ∨ G a ≠ none := .inr (by rw [hq]; simp)
        rw [List.getLast?_eq_getElem?] at el
        obtain ⟨w, ew, rw'⟩ := k.get el
        have ex : xs = [] := r2
        subst ex
        have st : Step F G H F (gset G a (some (.lst ys.dropLast))) (upd H a (.lst vs.dropLast)) := Step.set hg hs
        exact mt_pop pins s σ H x [] v us Q I rx rs ⟨a, vs, w, r1, rfl, h, by rw [← k.length]; exact ew, q F _ _ st (hg.set hs ⟨_, rfl, RelDs.step st _ k.dropLast⟩) (RelD.step st _ rw')⟩
      · cases e
    · cases e
  · cases e
theorem mt_mPop0 : MtR X "list.pop" (rDM X.K T mPop0) := by
  rintro pins s σ H x xs v us Q I rx rs ⟨F, G, d, ds, z, G', hg, r1, r2, e, q⟩
  unfold mPop0 at e
  split at e
  · rename_i a
    split at e
    · rename_i y ys ey
      cases e
      have hq := lstO_eq ey
      obtain ⟨vs, h, k⟩ := hg.ob a _ hq
      have hs : H a = none ∨ G a ≠ none := .inr (by rw [hq]; simp)
      obtain ⟨w, ws, rfl, rw', kt⟩ := k
      obtain ⟨i, rfl, ri⟩ := r2.one
      have st : Step F G H F (gset G a (some (.lst ys))) (upd H a (.lst ws)) := Step.set hg hs
      exact mt_popAt pins s σ H x _ v us Q I rx rs ⟨a, w :: ws, 0, 0, w, r1, by rw [show i = V.int 0 from ri], h, by decide, by decide, by simp [seqIndex?], rfl, q F _ _ st (hg.set hs ⟨_, rfl, RelDs.step st _ kt⟩) (RelD.step st _ rw')⟩
    · cases e
  · cases e
theorem mt_mIndex : MtR X "list.index" (rDM X.K T mIndex) := by
  rintro pins s σ H x xs v us Q I rx rs ⟨F, G, d, ds, z, G', hg, r1, r2, e, q⟩
  unfold mIndex at e
  split at e
  · rename_i y
    split at e
    · rename_i zs ez
      split at e
      · rename_i hf
        obtain ⟨j, ej, e⟩ := Option.map_eq_some_iff.mp e
        cases e
        rw [Bool.and_eq_true] at hf
        obtain ⟨a, vs, ea, h, k⟩ := asL_ok hg r1 ez
        obtain ⟨u, rfl, ru⟩ := r2.one
        obtain ⟨w, h1, h2, h3⟩ := idxF_at ej
        obtain ⟨wv, ew, rw'⟩ := k.get h1
        have fl : ∀ {m : Nat} {d : D}, zs[m]? = some d → flatD d = true := fun e => List.all_eq_true.mp hf.2 _ (List.mem_of_getElem? e)
        refine mt_index pins s σ H x _ v us Q I rx rs ⟨a, vs, u, j, wv, ea, rfl, .inl h, flat_rel hf.1 ru, flats_rel k hf.2, ew, by rw [eqF_rel (fl h1) hf.1 rw' ru]; exact h2, fun m z' hm em => ?_, q F _ H Step.refl hg rfl⟩
        obtain ⟨d', ed, rd'⟩ := k.back em
        rw [eqF_rel (fl ed) hf.1 rd' ru]
        exact h3 m d' hm ed
      · cases e
    · cases e
  · cases e
variable {W : WX} {o e : Expr} {to : DTE} {ta : DTA} {apos cpos : Pos}
end
end DL

namespace DL
open PySem PySem.Spec PyProof.Rows L2
variable {T : LT}
/-! ### names of the module -/
section
variable {X : Cx} {W : WX} {pos : Pos}
theorem q_gint {x : Str} {i : Int} (hg : Gl X x) (h : ∃ t, X.mg x = some (.int i t)) (hd : (x == ("__debug__" : Str)) = false := by decide) : QE X T W (.Name x pos) (dC (.int i)) := by
  obtain ⟨t, h⟩ := h
  exact q_con (pe_glob hg h (v := .int i) ⟨t, rfl⟩ hd) fun _ _ => rfl
theorem q_gstr {x : Str} {z : String} (hg : Gl X x) (h : ∃ t, X.mg x = some (.str (Str.ofString z) t)) (hd : (x == ("__debug__" : Str)) = false := by decide) : QE X T W (.Name x pos) (dC (.str z)) := by
  obtain ⟨t, h⟩ := h
  exact q_con (pe_glob hg h (v := .str (S z)) ⟨t, rfl⟩ hd) fun _ _ => rfl
/-- an object of the module whose reading never changes -/
theorem q_gref {x : Str} {d : D} {a : Addr} (hg : Gl X x) (h : X.mg x = some (.ref a)) (r : ∀ F H, RelD X.K F H d (.ref a)) (hd : (x == ("__debug__" : Str)) = false := by decide) : QE X T W (.Name x pos) (dC d) :=
  q_con (pe_glob hg h (v := .ref a) rfl hd) r
end
/-! ### a written table with text keys -/
structure KTab (K : PySem.W.Frag) (w : World) (mg : Str → Option Value) (x : String) (tab : List (String × D)) : Prop where
  mg : mg (S x) = some (.ref (He.ga K (S x)))
  kd : ∃ es n, KDict K w (He.ga K (S x)) es n
  val : ∀ z : String, (PySem.W.nsIn K (He.ga K (S x)) (S z) = some none ∧ tab.lookup z = none) ∨ ∃ u v d, PySem.W.nsIn K (He.ga K (S x)) (S z) = some (some u) ∧ tab.lookup z = some d ∧ RelV v u ∧ ∀ F H, RelD K F H d v
def kIn (tab : List (String × D)) (_ : DG) : D → Option D
  | .str z => some (.bl (tab.lookup z).isSome)
  | _ => none
def kNotIn (tab : List (String × D)) (_ : DG) : D → Option D
  | .str z => some (.bl (!(tab.lookup z).isSome))
  | _ => none
def kItem (tab : List (String × D)) (_ : DG) : D → Option D
  | .str z => tab.lookup z
  | _ => none
def kGet (tab : List (String × D)) (_ : DG) : D → Option D
  | .str z => some ((tab.lookup z).getD .non)
  | _ => none
section
variable {X : Cx} {W : WX} {x : String} {tab : List (String × D)} {e : Expr} {te : DTE} {p pos apos : Pos}
theorem ktab_in {K : PySem.W.Frag} {w : World} {mg : Str → Option Value} (k : KTab K w mg x tab) (z : String) : ∃ r, PySem.W.nsIn K (He.ga K (S x)) (S z) = some r ∧ r.isSome = (tab.lookup z).isSome := by
  rcases k.val z with ⟨h1, h2⟩ | ⟨u, v, d, h1, h2, _⟩
  · exact ⟨none, h1, by rw [h2]; rfl⟩
  · exact ⟨some u, h1, by rw [h2]; rfl⟩
theorem q_kin (k : KTab X.K X.w X.mg x tab) (hg : Gl X (Str.ofString x)) (he : QE X T W e te) (hd : (Str.ofString x == ("__debug__" : Str)) = false := by decide) : QE X T W (.Compare e [.In] [.Name (Str.ofString x) p] pos) (dUn (kIn tab) te) := by
  obtain ⟨es, n, kd⟩ := k.kd
  refine PE.imp (pe_cmpR (op_in_kd kd) he (pe_glob hg k.mg (v := .ref (He.ga X.K (S x))) rfl hd) rfl) fun σ H Q ⟨env, F, G, E, P, hg, hs, hx, ht, hq⟩ => ⟨env, F, G, E, _, hg, hs, hx, ht, fun d F1 G1 v1 H1 ⟨z, e, p⟩ s1 g1 r1 => ?_⟩
  cases d with
  | str t =>
    cases e
    obtain ⟨r, h1, h2⟩ := ktab_in k t
    exact ⟨S t, r, r1, rfl, h1, hq _ F1 G1 _ H1 p s1 g1 (by rw [h2]; rfl)⟩
  | _ => cases e
theorem q_knotin (k : KTab X.K X.w X.mg x tab) (hg : Gl X (Str.ofString x)) (he : QE X T W e te) (hd : (Str.ofString x == ("__debug__" : Str)) = false := by decide) : QE X T W (.Compare e [.NotIn] [.Name (Str.ofString x) p] pos) (dUn (kNotIn tab) te) := by
  obtain ⟨es, n, kd⟩ := k.kd
  refine PE.imp (pe_cmpR (op_notIn_kd kd) he (pe_glob hg k.mg (v := .ref (He.ga X.K (S x))) rfl hd) rfl) fun σ H Q ⟨env, F, G, E, P, hg, hs, hx, ht, hq⟩ => ⟨env, F, G, E, _, hg, hs, hx, ht, fun d F1 G1 v1 H1 ⟨z, e, p⟩ s1 g1 r1 => ?_⟩
  cases d with
  | str t =>
    cases e
    obtain ⟨r, h1, h2⟩ := ktab_in k t
    exact ⟨S t, r, r1, rfl, h1, hq _ F1 G1 _ H1 p s1 g1 (by rw [h2]; rfl)⟩
  | _ => cases e
theorem q_kinT (k : KTab X.K X.w X.mg x tab) (hg : Gl X (Str.ofString x)) (he : QE X T W e te) (hd : (Str.ofString x == ("__debug__" : Str)) = false := by decide) : QT X T W (.Compare e [.In] [.Name (Str.ofString x) p] pos) (dTest (dUn (kIn tab) te)) := by
  obtain ⟨es, n, kd⟩ := k.kd
  refine PT.imp (pt_cmpR (op_in_kd kd) he (pe_glob hg k.mg (v := .ref (He.ga X.K (S x))) rfl hd) rfl) fun σ H Q ⟨env, F, G, E, P, hg, hs, hx, ht, hq⟩ => ⟨env, F, G, E, _, hg, hs, hx, ht, fun d F1 G1 v1 H1 ⟨z, e, b, eb, p⟩ s1 g1 r1 => ?_⟩
  cases d with
  | str t =>
    cases e
    cases eb
    obtain ⟨r, h1, h2⟩ := ktab_in k t
    exact ⟨S t, r, r1, rfl, h1, _, rfl, hq _ F1 G1 H1 (by rw [h2]; exact p) s1 g1⟩
  | _ => cases e
theorem q_knotinT (k : KTab X.K X.w X.mg x tab) (hg : Gl X (Str.ofString x)) (he : QE X T W e te) (hd : (Str.ofString x == ("__debug__" : Str)) = false := by decide) : QT X T W (.Compare e [.NotIn] [.Name (Str.ofString x) p] pos) (dTest (dUn (kNotIn tab) te)) := by
  obtain ⟨es, n, kd⟩ := k.kd
  refine PT.imp (pt_cmpR (op_notIn_kd kd) he (pe_glob hg k.mg (v := .ref (He.ga X.K (S x))) rfl hd) rfl) fun σ H Q ⟨env, F, G, E, P, hg, hs, hx, ht, hq⟩ => ⟨env, F, G, E, _, hg, hs, hx, ht, fun d F1 G1 v1 H1 ⟨z, e, b, eb, p⟩ s1 g1 r1 => ?_⟩
  cases d with
  | str t =>
    cases e
    cases eb
    obtain ⟨r, h1, h2⟩ := ktab_in k t
    exact ⟨S t, r, r1, rfl, h1, _, rfl, hq _ F1 G1 H1 (by rw [h2]; exact p) s1 g1⟩
  | _ => cases e
theorem q_kitem (k : KTab X.K X.w X.mg x tab) (hg : Gl X (Str.ofString x)) (he : QE X T W e te) (hs : PlainIx e := by exact fun _ _ => rfl) (hd : (Str.ofString x == ("__debug__" : Str)) = false := by decide) : QE X T W (.Subscript (.Name (Str.ofString x) p) e pos) (dUn (kItem tab) te) := by
  obtain ⟨es, n, kd⟩ := k.kd
  refine PE.imp (pe_ix (ix_kdict (X := X)) (pe_glob hg k.mg (v := .ref (He.ga X.K (S x))) rfl hd) he hs) fun σ H Q ⟨env, F, G, E, P, hg, hs, hx, ht, hq⟩ => ⟨env, F, G, E, _, hg, hs, hx, ht, fun d F1 G1 v1 H1 ⟨z, e, p⟩ s1 g1 r1 => ?_⟩
  cases d with
  | str t =>
    rcases k.val t with ⟨h1, h2⟩ | ⟨u, v', d', h1, h2, rv, rd'⟩
    · rw [show kItem tab G1 (.str t) = tab.lookup t from rfl, h2] at e; cases e
    · rw [show kItem tab G1 (.str t) = tab.lookup t from rfl, h2] at e
      cases e
      exact ⟨_, S t, v', rfl, r1, ⟨es, n, u, kd.at_, kd.lit, h1, rv⟩, hq _ F1 G1 _ H1 p s1 g1 (rd' F1 H1)⟩
  | _ => cases e
theorem q_kget (k : KTab X.K X.w X.mg x tab) (hg : Gl X (Str.ofString x)) (he : QE X T W e te) (hd : (Str.ofString x == ("__debug__" : Str)) = false := by decide)
    (hs : starEach [e] X.env = (false, eval e X.env) :: starEach [] X.env := by rfl) (hline : (apos.endLine == pos.line) = true := by rfl)
    (hfew : ((backTo pos (starEach [e] X.env)).all (fun x => !x.1) && (backToKw pos (keywordEach [] X.env)).all (fun x => x.1.isSome) && decide ([e].length + ([] : List Keyword).length + (if ([] : List Keyword).isEmpty then 0 else 1) < 30)) = true := by rfl)
    (hbase : attributeBase (.Name (Str.ofString x) p) "get" X.env (eval (.Name (Str.ofString x) p) X.env) = eval (.Name (Str.ofString x) p) X.env := by rfl) : QE X T W (.Call (.Attribute (.Name (Str.ofString x) p) "get" apos) [e] [] pos) (dUn (kGet tab) te) := by
  obtain ⟨es, n, kd⟩ := k.kd
  refine ⟨fun pins s σ H Q I h => ?_⟩
  obtain ⟨env, F, G, E, P, hG, hS, hx, ht, hq⟩ := h
  refine wpAny_Call_method_late hbase hfew hline rfl (thn ((pe_glob hg k.mg (v := .ref (He.ga X.K (S x))) rfl hd).run pins s σ H (fun v H1 => v = .ref (He.ga X.K (S x)) ∧ H1 = H) I ⟨rfl, rfl⟩) ?_)
  rintro v s1 ⟨y, H1, I1, r1, rfl, rfl⟩
  obtain rfl : v = Value.ref (He.ga X.K (S x)) := r1
  have mo := PySem.W.mapOf_K (prog := X.prog) (w := X.w) I1.kIn kd.at_ kd.lit
  refine ⟨"dict", "dict.get", PySem.F.plainAttrs_dict, PySem.F.slot_dict_get, PySem.F.type_dict_get, mo.typeIs, mo.noDict, ?_⟩
  have hA := (pa_cons he pa_nil hs).run pos pins s1 σ H1 (fun vs H2 => ∃ v, vs = [v] ∧ (∃ d F1 G1, kGet tab G1 d ≠ none ∧ RelD X.K F1 H2 d v ∧ ∀ z u, kGet tab G1 d = some z → RelD X.K F1 H2 z u → Q u H2)) I1 ⟨env, F, G, E, _, hG, hS, hx, ht, fun d F1 G1 v1 H1 ⟨z, e, p⟩ s1 g1 r1 =>
    ⟨v1, rfl, d, F1, G1, by rw [e]; simp, r1, fun z' u e' ru => by rw [e] at e'; cases e'; exact hq z F1 G1 u H1 p s1 g1 ru⟩⟩
  rw [hs] at hA ⊢
  refine Calls.callWith_builtin (by rfl) (Calls.evalArgs_plain ?_)
  refine thn hA ?_
  rintro us s2 ⟨vs, H2, I2, r2, v, rfl, d, F1, G1, hne, rd, q⟩
  cases r2 with
  | cons ru rt =>
    cases rt
    cases d with
    | str t =>
      have ev : v = V.str (S t) := rd
      subst ev
      obtain ⟨tk, rfl⟩ := ru
      have mo2 := PySem.W.mapOf_K (prog := X.prog) (w := X.w) I2.kIn kd.at_ kd.lit
      refine call_meetsIn PySem.F.slot_dict_get mo2.typeIs PySem.F.entry_dict_get (PySem.F.args_dict_get_2 _ _) (meets_dict_get (strKind X.prog X.w) (He.ga X.K (S x)) (PySem.strKind_is X.prog X.w (S t) tk) kd.low) ⟨_, mo2, ?_⟩
      rcases k.val t with ⟨h1, h2⟩ | ⟨u, v', d', h1, h2, rv, rd'⟩
      · rw [PySem.W.find_K kd.at_ h1]
        exact ⟨.non, H2, I2.tok _, rfl, q .non _ (by simp [kGet, h2]) rfl⟩
      · rw [PySem.W.find_K kd.at_ h1]
        exact ⟨v', H2, I2.tok _, rv, q d' _ (by simp [kGet, h2]) (rd' F1 H2)⟩
    | _ => exact absurd rfl hne
end
end DL

namespace DL
open PySem PySem.Spec PyProof.Rows L2
variable {T : LT}
/-! ### stores -/
def setAt (G : DG) (o i x : D) : Option DG := match o with
  | .ref a => match G a with
    | some (.lst xs) => match i with
      | .int k => (ixN xs.length k).map fun j => gset G a (some (.lst (xs.set j x)))
      | _ => none
    | some (.dct kvs) => match keyOf i with
      | some _ => if kvs.length < 1000000 then some (gset G a (some (.dct (dput kvs i x)))) else none
      | none => none
    | _ => none
  | _ => none
def sSub (te to ti : DTE) : DTS := fun E DE env G => te E env G fun x G1 => to E env G1 fun o G2 => ti E env G2 fun i G3 => ∃ G4, setAt G3 o i x = some G4 ∧ DE.nx env G4
def sPar (is : List Nat) (ta : DTA) : DTS := fun E DE env G => ta E env G fun xs G1 => xs.length = is.length ∧ DE.nx (setAll env is xs) G1
def sTg (tg : Tg) (te : DTE) : DTS := fun E DE env G => te E env G fun x G1 => dTg tg x env fun env' => DE.nx env' G1
def sStar (i j : Nat) (te : DTE) : DTS := fun E DE env G => te E env G fun d G1 => ∃ x xs, asL G1 d = some (x :: xs) ∧ DE.nx ((env.set i (some x)).set j (some (.lst xs))) G1
def dWhile (E : DXK) (tc : DTT) (tb : DTS) (DE : DEnds) : Nat → DSt → DG → Prop
  | 0, _, _ => False
  | n + 1, env, G => tc E env G fun b G1 => if b = true then tb E { DE with nx := fun env' G' => dWhile E tc tb DE n env' G' } env G1 else DE.nx env G1
def sWhile (tc : DTT) (tb : DTS) : DTS := fun E DE env G => ∃ n, dWhile E tc tb DE n env G
theorem setL_len {α : Type} (xs : List α) (j : Nat) (x : α) : (xs.set j x).length = xs.length := List.length_set
theorem RelDs.set {K : PySem.W.Frag} {F : FS} {H : Hp} : ∀ {ds : List D} {vs : List V} {j : Nat} {d : D} {v : V}, RelDs K F H ds vs → RelD K F H d v → RelDs K F H (ds.set j d) (vs.set j v)
  | [], vs, j, d, v, h, _ => by
    have e : vs = [] := h
    subst e
    exact h
  | x :: xs, _, 0, d, v, ⟨w, r, rfl, h, t⟩, hd => ⟨v, r, rfl, hd, t⟩
  | x :: xs, _, j + 1, d, v, ⟨w, r, rfl, h, t⟩, hd => ⟨w, _, rfl, h, RelDs.set t hd⟩
section
variable {X : Cx} {W : WX} {pos : Pos}
def rSetA (K : PySem.W.Frag) (T : LT) : TSet := fun o i v H Q => ∃ F G do_ di dx G', RelG K T F G H ∧ RelD K F H do_ o ∧ RelD K F H di i ∧ RelD K F H dx v ∧ setAt G do_ di dx = some G' ∧ ∀ F' H', Step F G H F' G' H' → RelG K T F' G' H' → Q H'
theorem set_A (hu : X.A.units + 1 < cLine) : PSet X (rSetA X.K T) := by
  rintro pins s σ H o i v ov iv u Q I ro ri rv ⟨F, G, do_, di, dx, G', hg, r1, r2, r3, e, q⟩
  unfold setAt at e
  split at e
  · rename_i a
    split at e
    · rename_i xs ga
      split at e
      rotate_left
      · cases e
      rename_i k
      obtain ⟨j, ej, rfl⟩ := Option.map_eq_some_iff.mp e
      obtain ⟨vs, h, kk⟩ := hg.ob a _ ga
      have hs : H a = none ∨ G a ≠ none := .inr (by rw [ga]; simp)
      have st : Step F G H F (gset G a (some (.lst (xs.set j dx)))) (upd H a (.lst (vs.set j v))) := Step.set hg hs
      exact set_list pins s σ H o i v ov iv u Q I ro ri rv ⟨a, vs, k, j, r1, r2, h, by rw [← kk.length]; exact ej, q F _ st (hg.set hs ⟨_, rfl, RelDs.step st _ (kk.set r3)⟩)⟩
    · rename_i kvs ga
      split at e
      · rename_i key ek
        split at e
        · rename_i hl
          cases e
          obtain ⟨ws, h, kk⟩ := hg.ob a _ ga
          have hs : H a = none ∨ G a ≠ none := .inr (by rw [ga]; simp)
          have st : Step F G H F (gset G a (some (.dct (dput kvs di dx)))) (upd H a (.dK (putK ws key v))) := Step.set hg hs
          refine set_dict hu pins s σ H o i v ov iv u Q I ro ri rv ⟨a, _, r1, ?_, q F _ st (hg.set hs ⟨_, rfl, RelKs.step st _ (RelKs.put ek r3 kk)⟩)⟩
          exact .inl ⟨ws, key, h, keyOf_rel ek r2, by rw [← kk.length]; exact Nat.lt_of_lt_of_le hl (by decide), rfl⟩
        · cases e
      · cases e
    · cases e
  · cases e
theorem qs_sub {o i e : Expr} {to ti te : DTE} {p' : Pos} (hu : X.A.units + 1 < cLine) (he : QE X T W e te) (ho : QE X T W o to) (hi : QE X T W i ti)
    (ha : ∀ v, assign (.Subscript o i p') X.env v = (do
      let ov ← holding [v] (eval o X.env)
      let iv ← holding [v, ov] (eval i X.env)
      standAt p'
      holding [v, ov, iv] (setItem ov iv v)
      release [v, ov, iv] []) := by intro _; rfl)
    (hs : swapsWithSole [.Subscript o i p'] e pos.line X.env = pure false := by rfl) (hw : swappedStores [.Subscript o i p'] e X.env = pure none := by rfl) (h1 : (assignEach [.Subscript o i p'] X.env).map (·.2) = [assign (.Subscript o i p') X.env] := by rfl) :
    QS X T W (.Assign [.Subscript o i p'] e pos) (sSub te to ti) :=
  PS.imp (ps_asg he (pg_sub ho hi (set_A hu) ha) hs hw h1) fun D σ H ⟨env, F, G, E, DE, hg, hs, hx, ht, hn, hr⟩ => ⟨env, F, G, E, _, hg, hs, hx, ht, fun x F1 G1 v1 H1 p1 s1 g1 r1 =>
    ⟨env, F1, G1, E, _, g1, hs.step s1, hx.step s1, p1, fun o F2 G2 v2 H2 p2 s2 g2 r2 => ⟨env, F2, G2, E, _, g2, hs.step (s1.trans s2), hx.step (s1.trans s2), p2, fun i F3 G3 v3 H3 ⟨G4, e, p3⟩ s3 g3 r3 =>
      ⟨F3, G3, o, i, x, G4, g3, RelD.step s3 o r2, r3, RelD.step (s2.trans s3) x r1, e, fun F' H' s4 g4 => hn env F' G4 σ H' p3 (s1.trans (s2.trans (s3.trans s4))) g4 (hs.step (s1.trans (s2.trans (s3.trans s4))))⟩⟩⟩⟩
/-- a, b = x, y -/
theorem qs_par {i j : Nat} {x y : Str} {a b : Expr} {ta : DTA} {px py pt : Pos} {kt k2 pt2} (hc : X.calm = true) (hN : X.N.Nodup) (hi : X.N[i]? = some x) (hj : X.N[j]? = some y) (hij : i ≠ j)
    (hx : X.env.scope.names.lookup x = some .local) (hy : X.env.scope.names.lookup y = some .local) (ha : QA X T W [a, b] ta)
    (hw : swappedStores [.Tuple [.Name x px, .Name y py] kt pt] (.Tuple [a, b] k2 pt2) X.env = pure (some [x, y]))
    (hs : swapsWithSole [.Tuple [.Name x px, .Name y py] kt pt] (.Tuple [a, b] k2 pt2) pos.line X.env = pure false := by rfl) :
    QS X T W (.Assign [.Tuple [.Name x px, .Name y py] kt pt] (.Tuple [a, b] k2 pt2) pos) (sPar [i, j] ta) :=
  PS.imp (ps_par hc hN hi hj hij hx hy ha hw hs) fun D σ H ⟨env, F, G, E, DE, hg, hs, hx, ht, hn, hr⟩ => ⟨env, F, G, E, _, hg, hs, hx, ht, fun ds F1 G1 vs H1 ⟨hl, p⟩ s1 g1 r1 => by
    obtain ⟨d1, d2, rfl⟩ : ∃ d1 d2, ds = [d1, d2] := by
      match ds, hl with
      | [d1, d2], _ => exact ⟨d1, d2, rfl⟩
    obtain ⟨v, u, rfl, rv, ru⟩ := r1.two
    exact ⟨v, u, rfl, hn _ F1 G1 _ H1 p s1 g1 (((hs.step s1).set rv).set ru)⟩⟩
/-- a name or several = a value -/
theorem qs_tg {tgE e : Expr} {te : DTE} {tg : Tg} (he : QE X T W e te) (hg : PG X tgE (vTg X.K tg)) (hs : swapsWithSole [tgE] e pos.line X.env = pure false := by rfl) (hw : swappedStores [tgE] e X.env = pure none := by rfl)
    (h1 : (assignEach [tgE] X.env).map (·.2) = [assign tgE X.env] := by rfl) : QS X T W (.Assign [tgE] e pos) (sTg tg te) :=
  PS.imp (ps_asg he hg hs hw h1) fun D σ H ⟨env, F, G, E, DE, hg, hs, hx, ht, hn, hr⟩ => ⟨env, F, G, E, _, hg, hs, hx, ht, fun x F1 G1 v1 H1 p1 s1 g1 r1 =>
    tg_run (hs.step s1) r1 p1 fun env' σ' p r' _ => hn env' F1 G1 σ' H1 p s1 g1 r'⟩
/-! first, *rest = a list -/
theorem walks_from {prog : Program} {w : World} {A : Around} (hh : A.handled = none) (I l : Addr) (hne : l ≠ I) (items : Array Value) (k : Nat) (hk : k ≤ items.size) :
    Walks prog w A I [I, l] [I] (items.size - k) (fun i v => items[i + k]? = some v) (fun i h => h.IsListIter I l (i + k) ∧ h.IsList l items) where
  sub := fun b hb => by simp at hb; simp [hb]
  frame := fun _ _ _ st hq => ⟨st.1.at fun o e => hq I (by simp) o e, st.2.at fun o e => hq l (by simp) o e⟩
  item := fun i s Q E hi st hQ => by
    have hlt : i + k < items.size := by omega
    apply wpAny_pyNext_list_item st.1 st.2 (x := items[i + k]) (by simp [hlt])
    intro h' hit' hs'
    refine hQ _ h' s.toks (by simp [hlt]) ⟨?_, st.2.extBut hs'.extBut hne⟩ fun b o hb e => hs'.extBut b o (fun h => hb (by simp [h])) e
    rw [show i + 1 + k = i + k + 1 by omega]
    exact hit'
  done := fun s Q E st hQ => by
    have e : items.size - k + k = items.size := by omega
    have st1 := st.1
    rw [e] at st1
    exact wpAny_pyNext_list_end hh st1 st.2 (by simp) fun h' he' => hQ h' s.toks fun b o hb e => he' b o (fun h => hb (by simp [h])) e
  self := fun _ _ _ _ st hQ => wpAny_pyIter_listiter st.1 hQ
theorem unpack_star {prog : Program} {w : World} {A : Around} {E : Value → Shared → Prop} {s : Shared} {l : Addr} {u0 : Value} {us : List Value} {Q : List Value → Shared → Prop} (hh : A.handled = none) (hl : s.heap.IsList l (u0 :: us).toArray) (hz : us.length ≤ sizeLine)
    (hQ : ∀ (h' : Heap) tk, (∀ b o, s.heap.get? b = some o → h'.get? b = some o) → Q [u0, .ref h'.objs.size] { s with heap := h'.push { cls := .type "list", data := .seq us.toArray }, toks := tk }) : wpAny (model prog w) A (unpackItems (.ref l) 2 (some 1)) Q E s := by
  have hlt : l < s.heap.objs.size := by obtain ⟨_, e, _⟩ := hl; exact Heap.lt_size e
  unfold unpackItems
  refine wpAny_bind ?_
  unfold notIterableAtAll
  refine wpAny_bind (wpAny_specialOf hl.typeIs slot_list_iter.lookup ?_)
  refine wpAny_pure ?_
  simp only [Bool.false_eq_true, if_false]
  refine wpAny_bind (wpAny_holding (wpAny_pyIter_list hl ?_))
  show wpAny _ _ (holding [Value.ref s.heap.objs.size] (draw (.ref s.heap.objs.size) 1) >>= _) _ _ _
  refine wpAny_bind (wpAny_holding ?_)
  show wpAny _ _ (pyNext (.ref s.heap.objs.size) >>= _) _ _ _
  have hit : (s.heap.push { cls := .type "list_iterator", data := .fields #[.ref l, .int 0 0] }).IsListIter s.heap.objs.size l 0 := ⟨_, Heap.get?_push_size _ rfl, rfl, rfl⟩
  refine wpAny_bind (wpAny_pyNext_list_item hit (hl.push _) (x := u0) (by simp) fun h1 hit1 hs1 => ?_)
  refine wpAny_bind (wpAny_holding (wpAny_pure (wpAny_pure ?_)))
  rw [if_neg (by simp)]
  have hl1 : h1.IsList l (u0 :: us).toArray := (hl.push _).extBut hs1.extBut (Nat.ne_of_lt hlt)
  have W := (walks_from (prog := prog) (w := w) (A := A.in1) hh s.heap.objs.size l (Nat.ne_of_lt hlt) (u0 :: us).toArray 1 (by simp)).toS
  refine wpAny_bind (wpAny_holding (wpAny_collect_iter (T := "list_iterator") (.inr (.inr (.inl rfl))) W (fun i s st => st.1.typeIs) ⟨hit1, hl1⟩ ?_ (by simp) (fun s2 acc hm hacc => ?_) (by simp; exact hz)))
  · intro b hb
    have hsz : s.heap.objs.size < h1.objs.size := by obtain ⟨_, e, _⟩ := hit1; exact Heap.lt_size e
    simp only [List.mem_cons, List.not_mem_nil, or_false] at hb
    rcases hb with z | z
    · rw [z]; exact hsz
    · rw [z]; exact Nat.lt_trans hlt hsz
  · have el : acc.toList = us := by
      apply List.ext_getElem?
      intro j
      obtain ⟨hsz, hel⟩ := hacc
      have hsz : acc.size = us.length := by rw [hsz]; simp
      by_cases hj : j < us.length
      · have h1 : acc[j]? = some acc[j] := Array.getElem?_eq_getElem (by omega)
        have h2 := hel j _ h1
        rw [Array.getElem?_toList, h1, ← h2]
        simp
      · rw [List.getElem?_eq_none (by rw [Array.length_toList]; omega), List.getElem?_eq_none (by omega)]
    rw [el]
    show wpAny _ _ (if us.length < 0 then _ else _) _ _ s2
    rw [if_neg (Nat.not_lt_zero _)]
    show wpAny _ _ (newList (us.take (us.length - 0)) >>= fun r => pure ([u0] ++ [r] ++ us.drop (us.length - 0))) _ _ s2
    rw [Nat.sub_zero, List.take_length, List.drop_length]
    refine wpAny_bind (wpAny_newList ?_ (by simpa using hz))
    refine wpAny_pure ?_
    obtain ⟨m1, m2, m3, m4, m5⟩ := hm
    have keep : ∀ b o, s.heap.get? b = some o → s2.heap.get? b = some o := fun b o e => m1 b o (by simp; exact Nat.ne_of_lt (Heap.lt_size e)) ((hs1.extBut b o (Nat.ne_of_lt (Heap.lt_size e))) (Heap.get?_push_of_some _ e))
    have fin := hQ s2.heap s2.toks keep
    obtain ⟨hp2, gn2, dr2, tk2, os2⟩ := s2
    obtain ⟨hp, gn, dr, tk, os⟩ := s
    dsimp only at m2 m3 m4 fin ⊢
    subst m2 m3 m4
    exact fin
def gStar (K : PySem.W.Frag) (i j : Nat) : TG := fun v σ H Q => ∃ a x xs, v = .ref a ∧ SqL K H a (x :: xs) ∧ ∀ p, H p = none → Q ((σ.set i (some x)).set j (some (.ref p))) (upd H p (.lst xs))
theorem pg_star {i j k : Nat} {x y : Str} {px py ps p' : Pos} (hc : X.calm = true) (hN : X.N.Nodup) (hi : X.N[i]? = some x) (hj : X.N[j]? = some y) (hx : Loc X.env.scope x) (hy : Loc X.env.scope y) (hfx : X.fn x = true ∨ X.env.scope.names.lookup x = some .local) (hfy : X.fn y = true ∨ X.env.scope.names.lookup y = some .local) :
    PG X (.Tuple [.Name x px, .Starred (.Name y py) ps] k p') (gStar X.K i j) := by
  constructor
  rintro pins s σ H v u Q I r ⟨a, w, ws, rfl, hq, q⟩
  obtain rfl : u = Value.ref a := r
  obtain ⟨its, rv, pl, hz⟩ := I.list hq
  rw [assign_Tuple]
  refine wpAny_bind (wpAny_standAt ?_)
  unfold unpack
  cases rv with
  | cons r0 rt =>
    rename_i u0 us
    have hz' : us.length ≤ sizeLine := by rw [← rt.length]; exact Nat.le_trans (Nat.le_succ _) hz
    refine wpAny_bind (wpAny_holding (unpack_star (I.ok.hd hc) pl.isList hz' fun h' tk keep => ?_))
    have I2 : Inv X pins σ H { s with heap := h', toks := tk } := I.kept keep
    have I3 := I2.lnew (t' := tk) rt (by rw [rt.length]; exact hz')
    exact (pgs_cons (pg_name (pos := px) hN hi hx hfx) (pgs_cons (pg_name (pos := py) hN hj hy hfy) pgs_nil)).run pins _ σ _ [w, .ref h'.objs.size] [u0, .ref h'.objs.size] Q I3 (.cons r0 (.cons rfl .nil)) ⟨w, _, rfl, .ref h'.objs.size, _, rfl, rfl, q _ I2.fresh⟩
theorem qs_star {i j k : Nat} {x y : Str} {px py ps p' : Pos} {e : Expr} {te : DTE} (hc : X.calm = true) (hN : X.N.Nodup) (hi : X.N[i]? = some x) (hj : X.N[j]? = some y) (hx : Loc X.env.scope x) (hy : Loc X.env.scope y) (hfx : X.fn x = true ∨ X.env.scope.names.lookup x = some .local) (hfy : X.fn y = true ∨ X.env.scope.names.lookup y = some .local) (he : QE X T W e te)
    (hs : swapsWithSole [.Tuple [.Name x px, .Starred (.Name y py) ps] k p'] e pos.line X.env = pure false := by rfl) (hw : swappedStores [.Tuple [.Name x px, .Starred (.Name y py) ps] k p'] e X.env = pure none := by rfl) :
    QS X T W (.Assign [.Tuple [.Name x px, .Starred (.Name y py) ps] k p'] e pos) (sStar i j te) :=
  PS.imp (ps_asg he (pg_star hc hN hi hj hx hy hfx hfy) hs hw rfl) fun D σ H ⟨env, F, G, E, DE, hg, hs, hx, ht, hn, hr⟩ => ⟨env, F, G, E, _, hg, hs, hx, ht, fun d F1 G1 v1 H1 ⟨x, xs, ex, p⟩ s1 g1 r1 => by
    obtain ⟨a, vs, rfl, h, ⟨w, ws, rfl, rw', rt⟩⟩ := asL_ok g1 r1 ex
    refine ⟨a, w, ws, rfl, .inl h, fun q hq => hn _ (fadd F1 q) G1 _ _ p (s1.trans (Step.new hq)) (g1.new hq) ?_⟩
    exact (((hs.step s1).set rw').step (Step.new (G := G1) hq)).set (relD_newLst g1 hq rt)⟩
/-! while -/
theorem qs_while {c : Expr} {body : List Stmt} {tc : DTT} {tb : DTS} (hp : PassesOwn (model X.prog X.w) X.A X.env X.xe) (hc : QT X T W c tc) (hb : QSs X T W body tb) : QS X T W (.While c body [] pos) (sWhile tc tb) :=
  PS.imp (ps_while hp hc hb) fun D σ H ⟨env, F, G, E, DE, hg, hs, hx, ⟨n, ht⟩, hn, hr⟩ => by
    refine ⟨fun m σ2 H2 => ∃ env2 F2 G2, Step F G H F2 G2 H2 ∧ RelG X.K T F2 G2 H2 ∧ RelSt X.K F2 H2 env2 σ2 ∧ dWhile E tc tb DE m env2 G2, ⟨n, env, F, G, Step.refl, hg, hs, ht⟩, ?_⟩
    rintro m σ2 H2 ⟨env2, F2, G2, s2, g2, r2, w2⟩
    cases m with
    | zero => exact False.elim w2
    | succ m =>
      refine ⟨env2, F2, G2, E, _, g2, r2, hx.step s2, w2, fun b F3 G3 H3 p3 s3 g3 => ?_⟩
      cases b with
      | true =>
        rw [if_pos rfl] at p3 ⊢
        exact ⟨fun σ' H' => ∃ env2 F2 G2, Step F G H F2 G2 H' ∧ RelG X.K T F2 G2 H' ∧ RelSt X.K F2 H' env2 σ' ∧ dWhile E tc tb DE m env2 G2, fun σ' H' w => ⟨m, Nat.lt_succ_self m, w⟩,
          env2, F3, G3, E, _, g3, r2.step s3, hx.step (s2.trans s3), p3, fun env' F' G' σ' H' p' s' g' r' => ⟨env', F', G', s2.trans (s3.trans s'), g', r', p'⟩, fun d F' G' v H' p' s' g' r' => hr d F' G' v H' p' (s2.trans (s3.trans s')) g' r'⟩
      | false =>
        rw [if_neg Bool.false_ne_true] at p3 ⊢
        exact hn env2 F3 G3 σ2 H3 p3 (s2.trans s3) g3 (r2.step s3)
end
end DL

namespace DL
open PySem PySem.Spec PyProof.Rows L2 TL
variable {T : LT}
/-! ### texts -/
/-- split at a sign -/
def splC (c : Char) (acc : List Char) : List Char → List (List Char)
  | [] => [acc]
  | d :: r => if d = c then acc :: splC c [] r else splC c (acc ++ [d]) r
def splitS (s : String) (c : Char) : List String := (splC c [] s.toList).map String.ofList
def joinC (sep : List Char) : List (List Char) → List Char
  | [] => []
  | [x] => x
  | x :: y :: r => x ++ sep ++ joinC sep (y :: r)
def joinS (sep : String) (xs : List String) : String := String.ofList (joinC sep.toList (xs.map String.toList))
theorem S_ofList (l : List Char) : TL.tl (S (String.ofList l)) = l.map Char.toNat := by
  rw [show TL.tl (S (String.ofList l)) = (S (String.ofList l)).cps.toList from rfl, S_cps]
  simp
theorem S_tl (s : String) : TL.tl (S s) = s.toList.map Char.toNat := S_cps s
theorem spl_chars (c : Char) : ∀ (l acc : List Char), spl [c.toNat] 0 (acc.map Char.toNat) (l.map Char.toNat) = (splC c acc l).map (List.map Char.toNat)
  | [], acc => by simp [splC, spl_nil]
  | d :: r, acc => by
    rw [List.map_cons]
    by_cases h : d = c
    · rw [spl_hit (by simp [pre, h])]
      unfold splC
      rw [if_pos h, List.map_cons]
      exact congrArg _ (spl_chars c r [])
    · have hp : pre [c.toNat] (d.toNat :: r.map Char.toNat) = false := by
        simp only [pre, List.length_singleton, List.take_succ_cons, List.take_zero, beq_eq_false_iff_ne, ne_eq, List.cons.injEq, and_true]
        exact fun e => h (Char.ext (UInt32.toNat_inj.mp e))
      rw [show spl [c.toNat] 0 (acc.map Char.toNat) (d.toNat :: r.map Char.toNat) = spl [c.toNat] 0 (acc.map Char.toNat ++ [d.toNat]) (r.map Char.toNat) by
        rw [spl]; rw [if_neg (by rw [hp]; decide)]]
      unfold splC
      rw [if_neg h]
      have := spl_chars c r (acc ++ [d])
      rwa [List.map_append] at this
theorem split_S (s : String) (c : Char) (hc : c.toNat < 256) : Txt.split (S s) (S (String.singleton c)) = (splitS s c).map S := by
  apply map_tl_inj
  have e1 : TL.tl (S (String.singleton c)) = [c.toNat] := by rw [S_single]
  rw [split_spl _ _ (by rw [e1]; simp) (kind_ok (by rw [S_single]; simp [hc])), e1, S_tl]
  have := spl_chars c s.toList []
  rw [List.map_nil] at this
  rw [this]
  unfold splitS
  rw [List.map_map, List.map_map]
  apply List.map_congr_left
  intro l _
  simp only [Function.comp]
  exact (S_ofList l).symm
theorem join_tl (sep : List Char) : ∀ xs : List (List Char), joinL (sep.map Char.toNat) (xs.map (List.map Char.toNat)) = (joinC sep xs).map Char.toNat
  | [] => rfl
  | [x] => rfl
  | x :: y :: r => by
    show x.map Char.toNat ++ (sep.map Char.toNat ++ joinL (sep.map Char.toNat) ((y :: r).map (List.map Char.toNat))) = (x ++ sep ++ joinC sep (y :: r)).map Char.toNat
    rw [join_tl sep (y :: r)]
    simp
theorem join_S (sep : String) (xs : List String) : Txt.join (S sep) (xs.map S) = S (joinS sep xs) := by
  apply ext_tl
  rw [join_eq, tl_join]
  unfold joinS
  rw [S_ofList, S_tl, ← join_tl, List.map_map, List.map_map]
  congr 1
  exact List.map_congr_left fun s _ => S_tl s
def mSplit : DMF := fun G x xs => match x, xs with
  | .str a, [.str b] => match signOf b with
    | some c => if c.toNat < 256 ∧ a.length + 2 ≤ 16000000 then some (.lst ((splitS a c).map .str), G) else none
    | none => none
  | _, _ => none
def mJoin : DMF := fun G x xs => match x, xs with
  | .str a, [d] => match asQ G d with
    | some ys => match allS ys with
      | some zs => if (zs.map String.length).sum + zs.length * a.length ≤ 16000000 then some (.str (joinS a zs), G) else none
      | none => none
    | none => none
  | _, _ => none
def pyIntS (G : DG) : List D → Option D
  | [.str s] => if s.length ≤ 640 then (PySem.intText? (S s)).map .int else none
  | xs => pyInt1 G xs
def pyStr (_ : DG) : List D → Option D
  | [.int i] => if i.natAbs < 2 ^ 1000 then some (.str (toString i)) else none
  | [.str s] => some (.str s)
  | _ => none
theorem signOf_eq {b : String} {c : Char} (h : signOf b = some c) : b = String.singleton c := by
  unfold signOf at h
  split at h
  · rename_i d e
    cases h
    apply String.toList_inj.mp
    rw [e]
    simp
  · cases h
section
variable {X : Cx}
theorem mt_mSplit : MtR X "str.split" (rDM X.K T mSplit) := by
  rintro pins s σ H x xs v us Q I rx rs ⟨F, G, d, ds, z, G', hg, r1, r2, e, q⟩
  unfold mSplit at e
  split at e
  · rename_i a b
    split at e
    · rename_i c ec
      split at e
      · rename_i hc
        cases e
        obtain ⟨w, rfl, rw'⟩ := r2.one
        have hb := signOf_eq ec
        refine mt_split pins s σ H x _ v us Q I rx rs ⟨S a, S b, r1, by rw [show w = V.str (S b) from rw'], by rw [hb, S_single]; rfl, by rw [S_len]; exact Nat.le_trans hc.2 (by decide), fun p hp => ?_⟩
        rw [hb, split_S a c hc.1]
        refine q _ _ _ (Step.new hp) (hg.new hp) (relD_newLst hg hp ?_)
        have := relDs_strs (K := X.K) (F := F) (H := H) (splitS a c)
        rw [List.map_map]
        exact this
      · cases e
    · cases e
  · cases e
theorem mt_mJoin : MtR X "str.join" (rDM X.K T mJoin) := by
  rintro pins s σ H x xs v us Q I rx rs ⟨F, G, d, ds, z, G', hg, r1, r2, e, q⟩
  unfold mJoin at e
  split at e
  · rename_i a d
    split at e
    · rename_i ys ey
      split at e
      · rename_i zs ez
        split at e
        · rename_i hl
          cases e
          obtain ⟨w, rfl, rw'⟩ := r2.one
          obtain ⟨p, vs, rfl, h, k⟩ := asQ_ok hg rw' ey
          rw [allS_eq ez] at k
          have ev := k.strs
          rw [show (zs.map fun s => V.str (S s)) = (zs.map S).map V.str by rw [List.map_map]; rfl] at ev
          rw [ev] at h
          refine mt_join pins s σ H x _ v us Q I rx rs ⟨S a, p, zs.map S, r1, rfl, h, ?_, by rw [join_S]; exact q F _ H Step.refl hg rfl⟩
          rw [List.map_map, List.length_map, S_len]
          rw [show (fun x : Str => x.length) ∘ S = String.length from funext fun s => S_len s]
          exact Nat.le_trans hl (by decide)
        · cases e
      · cases e
    · cases e
  · cases e
theorem call_pyIntS : CallR X (.type "int") (rDB X.K T pyIntS) := by
  rintro pins s σ H xs us Q I rs ⟨F, G, ds, z, hg, r, e, q⟩
  unfold pyIntS at e
  split at e
  · rename_i t
    split at e
    · rename_i hl
      obtain ⟨n, en, rfl⟩ := Option.map_eq_some_iff.mp e
      obtain ⟨v, rfl, rv⟩ := r.one
      exact call_int_str pins s σ H _ us Q I rs ⟨S t, n, by rw [show v = _ from rv], en, by rw [S_len]; exact hl, q _ _ H Step.refl hg rfl⟩
    · cases e
  · exact call_pyInt1 (T := T) pins s σ H xs us Q I rs ⟨F, G, _, z, hg, r, e, q⟩
theorem call_pyStr : CallR X (.type "str") (rDB X.K T pyStr) := by
  rintro pins s σ H xs us Q I rs ⟨F, G, ds, z, hg, r, e, q⟩
  unfold pyStr at e
  split at e
  · split at e
    · rename_i hl
      cases e
      obtain ⟨v, rfl, rv⟩ := r.one
      refine call_str_int pins s σ H _ us Q I rs ⟨_, by rw [show v = _ from rv], ?_, q _ _ H Step.refl hg rfl⟩
      rename_i i
      by_cases h0 : i.natAbs = 0
      · rw [h0]; decide
      · have := (Nat.log2_lt h0).mpr hl
        omega
    · cases e
  · cases e
    obtain ⟨v, rfl, rv⟩ := r.one
    exact SkE.call_str_str pins s σ H _ us Q I rs ⟨_, by rw [show v = _ from rv], q _ _ H Step.refl hg rfl⟩
  · cases e
end
end DL

namespace DL
open PySem PySem.Spec PyProof.Rows L2 LamX HotX L2H
variable {T : LT}
/-! ### while an exception is handled: comprehensions over a list -/
abbrev QIQ (X : Cx) (T : LT) (W : WX) (tg e : Expr) (t : DTI) : Prop := PIQ X tg e (liftI X.K T W t)
def dIterL (te : DTE) : DTI := fun E env G Q => te E env G fun d G1 => ∃ xs, asL G1 d = some xs ∧ Q xs (fun G' => asL G' d = some xs) G1
section
variable {X : Cx} {W : WX} {elt tg iter e : Expr} {ifs : List Expr} {scope : Scope} {pos : Pos} {wi : DTI} {g : Tg} {tt : DTT} {te : DTE}
theorem qiq_it (he : QE X T W e te) : QIQ X T W tg e (dIterL te) := fun pins s σ H R I ⟨env, F, G, E, P, hg, hs, hx, ht, hq⟩ => by
  refine piq_list he pins s σ H R I ⟨env, F, G, E, _, hg, hs, hx, ht, fun d F1 G1 v1 H1 ⟨ds, ed, p⟩ s1 g1 r1 => ?_⟩
  obtain ⟨a, vs, rfl, h, k⟩ := asL_ok g1 r1 ed
  refine ⟨a, rfl, ⟨vs, .inl h⟩, hq ds _ F1 G1 H1 _ p s1 g1 fun i F2 G2 H2 s2 g2 gd => ?_⟩
  obtain ⟨a', vs2, ea, h2, k2⟩ := asL_ok g2 (RelD.step s2 d r1) gd
  cases ea
  constructor
  · intro d' e'
    obtain ⟨x, ex, rx⟩ := k2.get e'
    refine ⟨⟨vs2, x, .inl h2, ex⟩, ?_⟩
    rintro y H3 ⟨rfl, hy⟩
    have := hy vs2 (.inl h2)
    rw [ex] at this
    cases this
    exact ⟨F2, Step.refl, g2, rx⟩
  · intro e'
    exact ⟨vs2, .inl h2, by rw [e', k2.length]; exact Nat.le_refl _⟩
theorem q_lcQ (own : List (Str × Nat)) (hot : HotC X) (hN : X.N.Nodup) (hi : QIQ X T W tg iter wi) (ok : BlkOk X.N X.env.scope scope own) (hv : tgIn g (own.map (·.2)) = true)
    (hg : ∀ (s : Shared) (H : Hp) (C : Addr) (cl : List (Str × Addr)) (fp : List Addr), PG (X.blk s H scope (compEnvC scope cl C X.env) fp) tg (vTg X.K g)) (ht : ∀ (s : Shared) (H : Hp) (C : Addr) (cl : List (Str × Addr)) (fp : List Addr), QTs (X.blk s H scope (compEnvC scope cl C X.env) fp) T WF ifs tt)
    (he : ∀ (s : Shared) (H : Hp) (C : Addr) (cl : List (Str × Addr)) (fp : List Addr), QE (X.blk s H scope (compEnvC scope cl C X.env) fp) T WF elt te) (hs : ∀ x, foldedSetIterable iter X.env x = pure x := by intro _; rfl) :
    QE X T W (.ListComp elt [⟨tg, iter, ifs, 0⟩] scope pos) (dLc wi g tt te (own.map (·.2))) := PE.imp (pe_lcQ hot hN hi ok hg ht he hs) fun σ H Q h => lc_lift hv h
end
/-! ### the refusals -/
def refusals : List String := ["BadProgram", "BadRights", "BadNumber", "BadFeeds", "BadPaper", "BadName", "Taken", "NoName", "Nothing", "BadPicture", "BadLog", "BadText"]
def kinds13 : List String := ["BadProgram", "BadRights", "BadNumber", "BadFeeds", "BadPaper", "BadName", "Taken", "NoName", "TooMuch", "Nothing", "BadPicture", "BadLog", "BadText"]
structure ToldK (K : PySem.W.Frag) : Prop where
  exc : ∀ c ∈ refusals, ExcC K (He.ga K (S c))
  kit : ∀ c ∈ refusals, ∀ c' ∈ kinds13, PySem.W.kitOne K (.ref (He.ga K (S c))) (.ref (He.ga K (S c'))) = some (c == c')
  kitV : ∀ c ∈ refusals, PySem.W.kitOne K (.ref (He.ga K (S c))) (.type "ValueError") = some true
  exmT : ∀ c ∈ refusals, PySem.W.exmOne K (.ref (He.ga K (S c))) (.ref (He.ga K (S "TooMuch"))) = some false
  exmC : ∀ c ∈ refusals, PySem.W.exmOne K (.ref (He.ga K (S c))) (.ref (He.ga K (S "CageError"))) = some true
def excB (K : PySem.W.Frag) (D : Addr) : Bool :=
  decide (PySem.W.findIn K (.ref D) "__getattribute__" = some (some (.builtin "BaseException.__getattribute__"))) && (decide (PySem.W.findIn K (.ref D) "__getattr__" = some none) && (decide (PySem.W.subIn K (.ref D) (.type "BaseException") = some true) && (PySem.W.hasDictIn K D &&
    (decide (PySem.W.findIn K (.ref D) "__class__" = some (some (.builtin "object.__class__"))) && (decide (PySem.W.specialIn K (.builtin "object.__class__") "__get__" = some (some (.builtin "getset_descriptor.__get__"))) &&
      (decide (PySem.W.takesIn K (.builtin "object.__class__") = some true) && decide (PySem.W.mroIn K D (.type "object") = some true)))))))
theorem excB_ok {K : PySem.W.Frag} {D : Addr} (h : excB K D = true) : ExcC K D := by
  unfold excB at h
  simp only [Bool.and_eq_true, decide_eq_true_eq] at h
  exact ⟨h.1, h.2.1, h.2.2.1, h.2.2.2.1, h.2.2.2.2.1, h.2.2.2.2.2.1, h.2.2.2.2.2.2.1, h.2.2.2.2.2.2.2⟩
def toldB (K : PySem.W.Frag) : Bool := refusals.all fun c => excB K (He.ga K (S c)) && ((kinds13.all fun c' => decide (PySem.W.kitOne K (.ref (He.ga K (S c))) (.ref (He.ga K (S c'))) = some (c == c'))) &&
  (decide (PySem.W.kitOne K (.ref (He.ga K (S c))) (.type "ValueError") = some true) && (decide (PySem.W.exmOne K (.ref (He.ga K (S c))) (.ref (He.ga K (S "TooMuch"))) = some false) && decide (PySem.W.exmOne K (.ref (He.ga K (S c))) (.ref (He.ga K (S "CageError"))) = some true))))
theorem toldB_ok {K : PySem.W.Frag} (h : toldB K = true) : ToldK K := by
  unfold toldB at h
  rw [List.all_eq_true] at h
  have g := fun c hc => by
    have := h c hc
    simp only [Bool.and_eq_true, decide_eq_true_eq, List.all_eq_true] at this
    exact this
  exact ⟨fun c hc => excB_ok (g c hc).1, fun c hc c' hc' => (g c hc).2.1 c' hc', fun c hc => (g c hc).2.2.1, fun c hc => (g c hc).2.2.2.1, fun c hc => (g c hc).2.2.2.2⟩
/-! isinstance(e, C) of the handled exception at a -/
def dIsE (i : Nat) (a : Addr) (b : Bool) : DTE := fun _ env G Q => env[i]? = some (some (.ref a)) ∧ Q (.bl b) G
section
variable {X : Cx} {W : WX} {a D : Addr} {oe : Obj} {e : Str} {i : Nat} {p1 p2 p3 pos : Pos} {b : Bool}
theorem q_isE {x : Str} {cv : Value} {c : V} (C : ExcC X.K D) (hz : Zc (.ref D) none oe) (hf : ∃ vs, oe.data = .fields vs) (hp : (a, oe) ∈ X.pn) (hg : Gl X "isinstance") (hm : X.mg "isinstance" = none) (hN : X.N[i]? = some e) (hv : Vis X.env.scope e)
    (hc : PE X (.Name x p3) (tC c)) (hcv : ∀ u, RelV c u → u = cv) (hk : PySem.W.kitOne X.K (.ref D) cv = some b) (hd : (e == ("__debug__" : Str)) = false := by decide) (hcd : (e == ("__classdict__" : Str)) = false := by decide) :
    QE X T W (.Call (.Name "isinstance" p1) [.Name e p2, .Name x p3] [] pos) (dIsE i a b) :=
  PE.imp (pe_callB (call_isP C hz hf hp) hg hm PyProof.Rows.boot_isinstance (pa_cons (pe_var hN hv hd hcd) (pa_cons hc pa_nil))) fun σ H Q ⟨env, F, G, E, P, hg, hs, hx, ⟨ht, p⟩, hq⟩ => by
    obtain ⟨v, ev, rv⟩ := hs.get ht
    exact ⟨v, ev, c, cv, b, by rw [show v = V.ref a from rv], hcv, hk, hq _ F G _ H p Step.refl hg rfl⟩
end
end DL

namespace DL
open PySem PySem.Spec PyProof.Rows L2 LamX HotX L2H
variable {T : LT}
/-! ### told -/
/-- what the def term promises of the handled exception p -/
def spTerm (K : PySem.W.Frag) (T : LT) : SpT := fun p vs H Q => ∃ F G c, RelG K T F G H ∧ vs = [.ref p.1] ∧ Zc (.ref (He.ga K (S c))) none p.2 ∧ (∃ fs, p.2.data = .fields fs) ∧ c ∈ refusals ∧
  ∀ F' v H', Step F G H F' G H' → RelG K T F' G H' → RelD K F' H' (.tup [.str "refused", .str c]) v → Q v H'
structure DTerm (P : Program) (w : World) (K : PySem.W.Frag) (T : LT) (mg : Str → Option Value) (base : Heap) (k : Nat) : Prop where
  ok : ∃ fd, FnT P w K mg base k (He.ga K "_law_term") fd ["e"] (spTerm K T) ∧ L2.Binds K fd ["e"] []
  mg : mg "_law_term" = some (.ref (He.ga K "_law_term"))
  kp : PySem.W.keepIn K (.ref (He.ga K "_law_term")) = true
/-- the promise from the body's derivation, p held fast -/
theorem dterm_of {P : Program} {w : World} {K : PySem.W.Frag} {mg : Str → Option Value} {base : Heap} {k : Nat} {params : Arguments} {body : List Stmt} {scope : Scope} {fd : FuncData} {N : List Str} {t : Addr → String → DTS}
    (F : FunD K "_law_term" "_law_term" params body scope [] [] (He.ga K "_law_term") fd) (hmg : mg "_law_term" = some (.ref (He.ga K "_law_term"))) (Sc : FnScope N ["e"] scope)
    (hb : ∀ (kV doc pm : Value) (an : Option Addr) (cdv ct : Value) (us : List Value), us.length = 1 → bindArgs (PySem.W.fnOf "_law_term" "_law_term" params body scope .none kV doc pm an cdv ct) ⟨us, []⟩ = pure ((["e"] : List Str).zip us))
    (hbody : ∀ (cdv : Value) (A : Around) (outer : List Env) (s : Shared) (H : Hp) (p : Addr × Obj) (c : String), Hot1 A p → RoomH k (A.deeper (envOfC "_law_term" scope s.heap.objs.size (He.ga K "_law_term") cdv)) → Zc (.ref (He.ga K (S c))) none p.2 → (∃ fs, p.2.data = .fields fs) → c ∈ refusals →
      QSs (cxH C8.CX0 P w K mg base N "_law_term" scope (He.ga K "_law_term") cdv A outer s H C8.E0 p) T WF body (t p.1 c))
    (hsp : ∀ a c G (Q : DK), c ∈ refusals → Q (.tup [.str "refused", .str c]) G → t a c EF { nx := fun _ G' => Q .non G', rt := Q } (dstart N [.ref a]) G) : DTerm P w K T mg base (k + 1) := by
  refine ⟨⟨fd, fnT_of F Sc ?_ ?_, F.bindsN hb⟩, hmg, F.kp⟩
  · rintro p vs H Q ⟨F, G, c, _, rfl, _⟩
    rfl
  · rintro cdv A outer s H vs Q p hot hr ⟨F, G, c, hg, rfl, hz, hf, hc, hq⟩
    refine ⟨_, hbody cdv A outer s H p c hot hr hz hf hc, dstart N [.ref p.1], F, G, EF, { nx := fun _ G' => G' = G ∧ False, rt := fun d G' => d = .tup [.str "refused", .str c] ∧ G' = G }, hg, relSt_start ⟨_, _, rfl, rfl, rfl⟩, fun _ _ _ _ _ _ _ _ z => z.elim, ?_, fun _ _ _ _ _ z => z.2.elim, ?_⟩
    · exact hsp p.1 c G (fun d G' => d = .tup [.str "refused", .str c] ∧ G' = G) hc ⟨rfl, rfl⟩ |> fun h => by
        have e : (fun (_ : DSt) (G' : DG) => (fun (d : D) (G' : DG) => d = .tup [.str "refused", .str c] ∧ G' = G) .non G') = fun _ G' => G' = G ∧ False := by
          funext _ G'
          simp
        rw [e] at h
        exact h
    · rintro d F' G' v H' ⟨rfl, rfl⟩ st g r
      exact hq F' v H' st g r
def toldX (P : DK) : DXK := fun x _ G => ∃ c, x = (c, none) ∧ c ∈ refusals ∧ P (.tup [.str "refused", .str c]) G
def dTold (te : DTE) : DTE := fun _ env G Q => te (toldX Q) env G Q
/-- the tables' growth leaves the rest -/
theorem extN_step {F : FS} {G : DG} {H H1 : Hp} (e : ExtN H H1) (hg : ∀ a, F a → ∃ o, H a = some o ∧ isDat (strip o) = true) : Step F G H F G H1 := by
  refine ⟨fun a o f h => ⟨f, o, e a o h fun ps z => ?_, rfl⟩, fun a o f g h pl => ⟨f, g, e a o h fun ps z => ?_⟩⟩
  · obtain ⟨o', h', d⟩ := hg a f
    rw [h] at h'
    cases h'
    rw [z] at d
    cases d
  · rw [z] at pl
    cases pl
theorem extN_relG {K : PySem.W.Frag} {F : FS} {G : DG} {H H1 : Hp} (e : ExtN H H1) (t : Tabs T H1) (hg : RelG K T F G H) : RelG K T F G H1 := by
  have st := extN_step (G := G) e fun a f => (hg.fz a f).2
  refine hg.to st (fun a f => .inl f) t fun a o ga => ?_
  obtain ⟨u, hu, pu⟩ := hg.obj ga
  rw [hu]
  exact e a u hu fun ps z => by rw [z] at pu; cases pu
/-- told's own reading -/
def TTold (K : PySem.W.Frag) (T : LT) : (XK → Hp → VK → Prop) → Hp → VK → Prop := fun tl H Q =>
  tl (fun cls d H' => ∃ F G c, c ∈ refusals ∧ cls = .ref (He.ga K (S c)) ∧ d = none ∧ RelG K T F G H' ∧ ∀ F' v H'', Step F G H' F' G H'' → RelG K T F' G H'' → RelD K F' H'' (.tup [.str "refused", .str c]) v → Q v H'') H Q
section
variable {X : Cx}
theorem told_gives {sg : Scope} {g : Addr} {cdg : Value} {q : Str} {k : Nat} {b1 : Stmt} {p1 p2 p3 p4 p5 p6 p7 p8 p9 p10 p11 : Pos} (tk : ToldK X.K) (FT : DTerm X.prog X.w X.K T X.mg X.base k)
    (hge : sg.names.lookup ("e" : Str) = some .local) (hgm : sg.names.lookup ("TooMuch" : Str) = some .globalImplicit) (hgc : sg.names.lookup ("CageError" : Str) = some .globalImplicit) (hgt : sg.names.lookup ("_law_term" : Str) = some .globalImplicit)
    (hmm : X.mg "TooMuch" = some (.ref (He.ga X.K (S "TooMuch")))) (hmc : X.mg "CageError" = some (.ref (He.ga X.K (S "CageError")))) :
    Gives X ["deed", "e"] "_law_told" sg g cdg [.Try [.Return (some (.Call (.Name "deed" p1) [] [] p2)) p3]
      [.ExceptHandler (some (.Name "TooMuch" p4)) (some "e") [b1] p5, .ExceptHandler (some (.Name "CageError" p6)) (some "e") [.Return (some (.Call (.Name "_law_term" p7) [.Name "e" p8] [] p9)) p10] p11] [] [] pos] "deed" q (TTold X.K T) k := by
  intro f c' s H Q tl hr act hc h
  obtain ⟨fd, F1, B⟩ := FT.ok
  have hn : (["deed", "e"] : List Str).Nodup := by decide
  refine ⟨_, pss_one (ps_tryN (X := (DefX X ["deed", "e"] "_law_told" sg g cdg s H).nox) (n := "e") (i := 1) (Wo := WF)
      (l := [(.ref (He.ga X.K (S "TooMuch")), fun _ _ _ _ _ _ => False), (.ref (He.ga X.K (S "CageError")), fun a cls d D σ H => (σ.length = 2 → σ[1]? = some (some (.ref a))) ∧ ∃ F G c, c ∈ refusals ∧ cls = .ref (He.ga X.K (S c)) ∧ d = none ∧ RelG X.K T F G H ∧
        ∀ F' v H', Step F G H F' G H' → RelG X.K T F' G H' → RelD X.K F' H' (.tup [.str "refused", .str c]) v → D.rt v H')])
      (tb := fun W D σ H => ∃ Ech : XK, (∀ cls d σ' H', Ech cls d H' → W cls d σ' H') ∧ σ[0]? = some (some (.ref f)) ∧ H c' = some (CodeO c' q) ∧ tl Ech H D.rt)
      rfl rfl hn rfl hge ?wo ?body (.cons ⟨hgm, by decide, .inl hmm⟩ ?s1 (.cons ⟨hgc, by decide, .inl hmc⟩ ?s2 .nil))), ?run⟩
  case wo =>
    rintro u s' ⟨_, _, _, _, _, _, _, _, _, _, _, _, _, _, _, _, z⟩
    exact z.elim
  case body =>
    intro W pn xe tk' _
    constructor
    rintro pins s' σ H' D I ⟨Ech, hW, h1, h2, h3⟩
    exact (pss_one (ps_ret (pos := p3) (act W pn xe Ech p1 p2 tk' hW))).run pins s' σ H' D I ⟨h1, h2, h3⟩
  case s1 =>
    intro a oe cls d pn hz hf
    exact ⟨fun pins s σ H D I z => z.elim⟩
  case s2 =>
    intro a oe cls d pn hz hf
    obtain ⟨fs, hfs⟩ := hf
    have hot : Hot1 ((DefX X ["deed", "e"] "_law_told" sg g cdg s H).nox.suite a ((a, oe) :: pn)).A (a, oe) := ⟨rfl, fs, hfs, hz.2.2 fs hfs⟩
    have hr' : RoomH k ((DefX X ["deed", "e"] "_law_told" sg g cdg s H).nox.suite a ((a, oe) :: pn)).A := roomH_mark (hr.mono (Nat.le_succ k)) _
    have run := (pss_one (ps_ret (pos := p10) (pe_callT (q := p7) (pos := p9) (X := (DefX X ["deed", "e"] "_law_told" sg g cdg s H).nox.suite a ((a, oe) :: pn)) (p := (a, oe)) F1 hr' hot List.mem_cons_self hgt FT.mg FT.kp B (pa_cons (pe_var (pos := p8) (i := 1) (x := "e") rfl (Or.inl hge)) pa_nil))))
    constructor
    rintro pins s' σ H' D I ⟨hσ, F, G, c, hcr, rfl, rfl, hg, hq⟩
    exact run.run pins s' σ H' D I ⟨.ref a, hσ I.len, F, G, c, hg, rfl, hz.zc, ⟨fs, hfs⟩, hcr, hq⟩
  case run =>
    refine ⟨_, fun cls d σ' H' hE => ?_, rfl, hc, h⟩
    obtain ⟨F, G, c, hcr, rfl, rfl, hg, hq⟩ := hE
    refine ⟨false, tk.exmT c hcr, fun z => (Bool.false_ne_true z).elim, fun _ => ⟨true, tk.exmC c hcr, fun _ a ha => ⟨fun hl => ?_, F, G, c, hcr, rfl, rfl, hg, hq⟩, fun z => (Bool.noConfusion z)⟩⟩
    rw [List.length_set] at hl
    exact List.getElem?_set_self (by omega)
/-- the tables of lambdas -/
structure LamT (X : Cx) (T : LT) : Prop where
  ex : ∃ c P, TabB X.base X.mg c P ∧ X.env.code = .ref c ∧ (P, X.env.qual ++ "<lambda>") ∈ T ∧ ∀ p ∈ T, p.1 = P → p.2 = X.env.qual ++ "<lambda>"
/-- told as the top has left it -/
structure DTold (P : Program) (w : World) (K : PySem.W.Frag) (T : LT) (mg : Str → Option Value) (base : Heap) (k : Nat) : Prop where
  mgt : mg "_law_told" = some (.ref (He.ga K "_law_told"))
  gv : ∀ X : Cx, X.prog = P → X.w = w → X.K = K → X.mg = mg → X.base = base → ∃ (pg : Arguments) (bg : List Stmt) (sg : Scope) (dV kV doc pm cdv ct oc : Value) (an od : Option Addr) (osl : Array (Option Value)),
    K.lookup (He.ga K "_law_told") = some ⟨oc, od, .func (PySem.W.fnOf "_law_told" "_law_told" pg bg sg dV kV doc pm an cdv ct), osl⟩ ∧ PySem.W.codeIn K cdv "_law_told" = true ∧ L2.Binds K (PySem.W.fnOf "_law_told" "_law_told" pg bg sg dV kV doc pm an cdv ct) ["deed"] [] ∧ FnScope ["deed", "e"] ["deed"] sg ∧ Vis sg "deed" ∧
      ∀ q, Gives X ["deed", "e"] "_law_told" sg (He.ga K "_law_told") cdv bg "deed" q (TTold K T) k
  kp : PySem.W.keepIn K (.ref (He.ga K "_law_told")) = true
theorem dtold_of {P : Program} {w : World} {K : PySem.W.Frag} {mg : Str → Option Value} {base : Heap} {k : Nat} {params : Arguments} {scope : Scope} {fd : FuncData} {b1 : Stmt} {p1 p2 p3 p4 p5 p6 p7 p8 p9 p10 p11 p12 : Pos}
    (F : FunD K "_law_told" "_law_told" params [.Try [.Return (some (.Call (.Name "deed" p1) [] [] p2)) p3]
      [.ExceptHandler (some (.Name "TooMuch" p4)) (some "e") [b1] p5, .ExceptHandler (some (.Name "CageError" p6)) (some "e") [.Return (some (.Call (.Name "_law_term" p7) [.Name "e" p8] [] p9)) p10] p11] [] [] p12] scope [] [] (He.ga K "_law_told") fd) (hmg : mg "_law_told" = some (.ref (He.ga K "_law_told"))) (Sc : FnScope ["deed", "e"] ["deed"] scope)
    (hb : ∀ (body : List Stmt) (kV doc pm : Value) (an : Option Addr) (cdv ct : Value) (us : List Value), us.length = 1 → bindArgs (PySem.W.fnOf "_law_told" "_law_told" params body scope .none kV doc pm an cdv ct) ⟨us, []⟩ = pure ((["deed"] : List Str).zip us))
    (tk : ToldK K) (FT : DTerm P w K T mg base k) (hvd : Vis scope "deed")
    (hge : scope.names.lookup ("e" : Str) = some .local) (hgm : scope.names.lookup ("TooMuch" : Str) = some .globalImplicit) (hgc : scope.names.lookup ("CageError" : Str) = some .globalImplicit) (hgt : scope.names.lookup ("_law_term" : Str) = some .globalImplicit)
    (hmm : mg "TooMuch" = some (.ref (He.ga K (S "TooMuch")))) (hmc : mg "CageError" = some (.ref (He.ga K (S "CageError")))) : DTold P w K T mg base k := by
  have bd := F.bindsN (ps := ["deed"]) (fun kV doc pm an cdv ct us hl => hb _ kV doc pm an cdv ct us hl)
  refine ⟨hmg, ?_, F.kp⟩
  rintro X rfl rfl rfl rfl rfl
  obtain ⟨oc, od, dV, kV, doc, pm, an, cdv, ct, osl, rfl, lk, hcd, _, _⟩ := F.ex
  exact ⟨_, _, _, dV, kV, doc, pm, cdv, ct, oc, an, od, osl, lk, hcd, bd, Sc, hvd, fun q => told_gives tk FT hge hgm hgc hgt hmm hmc⟩
theorem q_told {W : WX} {params : Arguments} {body : Expr} {scope : Scope} {te : DTE} {p lpos pos : Pos} {k j : Nat} (FT : DTold X.prog X.w X.K T X.mg X.base k) (LTb : LamT X T) (hg : Gl X "_law_told") (hr : Room j X.A) (hj : k + 2 ≤ j) (L : LamS X.env.scope scope)
    (hbody : ∀ (A : Around) (outer : List Env) (s : Shared) (H : Hp) (E : XK) (f c' : Addr), Room k (A.deeper (lamEnv X scope s.heap.objs.size f c')) → QE (lamN X A outer s H E scope f c') T (fun cls d _ H' => E cls d H') body te)
    (hdef : defaultsOf params X.env = ([], []) := by rfl)
    (hbind : ∀ (q : Str) (cl : List (Str × Addr)) (pm cv ctv : Value), bindArgs (PySem.W.kla_fn "<lambda>" q params body scope cl pm cv ctv) ⟨[], []⟩ = pure [] := by intros; rfl) :
    QE X T W (.Call (.Name "_law_told" p) [.Lambda params body scope lpos] [] pos) (dTold te) := by
  obtain ⟨pg, bg, sg, dV, kV, doc, pm, cdv, ct, oc, an, od, osl, lk, hcg, hb, Sg, hva, gv⟩ := FT.gv X rfl rfl rfl rfl rfl
  obtain ⟨c, P, TB, hcode, hmT, hu⟩ := LTb.ex
  refine PE.imp (pe_lamto (t := fun E => liftE X.K T (fun cls d _ H' => E cls d H') te) hg FT.mgt FT.kp lk hcg hb Sg rfl hva (gv _) TB hcode hmT hu (hr.mono hj) L hdef hbind hbody (by decide) (by decide) (by decide)) ?_
  rintro σ H Q ⟨env, F, G, E, Pk, hG, hs, hx, ht, hq⟩
  refine ⟨hG.tb, fun H1 eN T1 => ?_⟩
  have st := extN_step (G := G) eN fun a f => (hG.fz a f).2
  have g1 := extN_relG eN T1 hG
  refine ⟨env, F, G, toldX Pk, Pk, g1, hs.step st, ?_, ht, fun d F' G' v H' p s' g' r' => hq d F' G' v H' p (st.trans s') g' r'⟩
  rintro x env' F' G' cls d σ' H' ⟨c0, rfl, hc0, p⟩ s' g' rs ⟨rfl, rfl⟩
  exact ⟨F', G', c0, hc0, rfl, rfl, g', fun F2 v H2 s2 g2 r2 => hq _ F2 G' v H2 p (st.trans (s'.trans s2)) g2 r2⟩
end
end DL

namespace DL
open PySem PySem.Spec PyProof.Rows L2 LamX HotX L2H
variable {T : LT}
/-! ### for the printed walk -/
def spOf (N : List Str) (n : Nat) (t : DTS) : DSp := fun ds G Q E => ds.length = n ∧ t (fun x _ G' => E x G') { nx := fun _ G' => Q .non G', rt := Q } (dstart N ds) G
theorem takesF {X : Cx} : L2N.Takes X WF := fun _ _ x => by
  obtain ⟨_, _, _, _, _, _, _, _, _, _, _, _, _, _, _, _, z⟩ := x
  exact z.elim
structure XcK (K : PySem.W.Frag) (mg : Str → Option Value) (c : String) : Prop where
  ok : (He.Fa.exc (S c)).ok K = true
  mg : mg (S c) = some (.ref (He.ga K (S c)))
theorem dxc {X : Cx} {c : String} (x : XcK X.K X.mg c) : DXc X c := by
  obtain ⟨h1, h2, h3, h4⟩ := He.exc_ok x.ok
  exact ⟨h1, x.mg, h2, raises_own h3 h4⟩
theorem hotu {k : Nat} {A : Around} (r : RoomH k A) : A.units + 64 < cLine := by have := r.un; omega
theorem hotu1 {k : Nat} {A : Around} (r : RoomH k A) : A.units + 1 < cLine := by have := r.un; omega
section
variable {P : Program} {w : World} {K : PySem.W.Frag} {mg : Str → Option Value} {base : Heap} {k : Nat} {x : Str} {params : Arguments} {body : List Stmt} {scope : Scope} {fd : FuncData} {N ps : List Str} {t : DTS}
/-- a def whose code object is told (it makes lambdas) -/
theorem fnk_of (F : FunD K x x params body scope [] [] (He.ga K x) fd) (Sc : FnScope N ps scope)
    (hbody : ∀ (cdv : Value) (A : Around) (outer : List Env) (s : Shared) (H : Hp) (E : XK), cdv = .ref (He.codeOf K (x, none)) → Room k (A.deeper (envOfC x scope s.heap.objs.size (He.ga K x) cdv)) →
      QSs (cxOf (L2N.CX P w) P w K mg base N x scope (He.ga K x) cdv A outer s H E) T (fun cls d _ H' => E cls d H') body t) :
    FnOk P w K mg base (L2N.CX P w) (k + 1) (He.ga K x) fd ps (liftSp K T (spOf N ps.length t)) := by
  obtain ⟨oc, od, dV, kV, doc, pm, an, cdv, ct, osl, rfl, lk, hcd, _, _⟩ := F.ex
  obtain ⟨c, rfl⟩ := He.codeIn_ref hcd
  have ec : He.codeOf K (x, none) = c := He.codeOf_eq (p := (x, none)) lk rfl
  refine fn_of lk hcd Sc (fun vs H Q E h => ?_) fun A outer s H vs Q E hr h => ⟨_, hbody (.ref c) A outer s H E (by rw [ec]) hr, ?_⟩
  · obtain ⟨ds, F, G, P, Ed, hg, hr, hs, _⟩ := h
    rw [← hr.length]
    exact hs.1
  · obtain ⟨ds, F, G, P, Ed, hg, hr, hs, hq, hx⟩ := h
    exact ⟨dstart N ds, F, G, _, _, hg, relSt_start hr, fun x env' F' G' cls d σ' H' p s g r rx => hx x _ G' cls d H' p s g rx, hs.2, fun env' F' G' σ' H' p s g r => hq .non F' G' .non H' p s g rfl, hq⟩
theorem dfnk_of (F : ∃ fd, FunD K x x params body scope [] [] (He.ga K x) fd) (hmg : mg x = some (.ref (He.ga K x))) (Sc : FnScope N ps scope)
    (hb : ∀ (kV doc pm : Value) (an : Option Addr) (cdv ct : Value) (us : List Value), us.length = ps.length → bindArgs (PySem.W.fnOf x x params body scope .none kV doc pm an cdv ct) ⟨us, []⟩ = pure (ps.zip us))
    (hbody : ∀ (cdv : Value) (A : Around) (outer : List Env) (s : Shared) (H : Hp) (E : XK), cdv = .ref (He.codeOf K (x, none)) → Room k (A.deeper (envOfC x scope s.heap.objs.size (He.ga K x) cdv)) →
      QSs (cxOf (L2N.CX P w) P w K mg base N x scope (He.ga K x) cdv A outer s H E) T (fun cls d _ H' => E cls d H') body t) :
    DFn P w K T mg base (k + 1) x ps (spOf N ps.length t) := by
  obtain ⟨fd, F⟩ := F
  exact ⟨⟨fd, fnk_of F Sc hbody, F.bindsN hb⟩, hmg, F.kp⟩
end
theorem DTerm.mono {P : Program} {w : World} {K : PySem.W.Frag} {mg : Str → Option Value} {base : Heap} {j k : Nat} (h : DTerm P w K T mg base j) (hjk : j ≤ k) : DTerm P w K T mg base k := by
  obtain ⟨fd, F, B⟩ := h.ok
  exact ⟨⟨fd, ⟨F.len, fun p A outer s H args us vs Q hr => F.run p A outer s H args us vs Q (hr.mono hjk)⟩, B⟩, h.mg, h.kp⟩
/-! the law itself -/
def G0 : DG := fun _ => none
theorem relG_start {K : PySem.W.Frag} {H : Hp} {a : Addr} {ns : List Int} (hT : Tabs T H) (hS : SqL K H a (ns.map V.int)) : ∃ F, RelG K T F G0 H ∧ RelDs K F H [.scr ns] [.ref a] := by
  rcases hS with h | h
  · have hr : ∃ o, H a = some o ∧ strip o = .lst (ns.map V.int) := by
      rcases h with h | ⟨o, h⟩
      · exact ⟨_, h, rfl⟩
      · exact ⟨_, h, rfl⟩
    obtain ⟨o, ho, es⟩ := hr
    refine ⟨fun b => b = a, ⟨fun b hb => ⟨rfl, o, by rw [hb]; exact ho, by rw [es]; rfl⟩, hT, fun b o e => by cases e⟩, _, _, rfl, ⟨a, rfl, .inl ⟨⟨o, ho, es⟩, rfl⟩⟩, rfl⟩
  · exact ⟨fun _ => False, ⟨fun b hb => hb.elim, hT, fun b o e => by cases e⟩, _, _, rfl, ⟨a, rfl, .inr h⟩, rfl⟩
theorem law_sp {K : PySem.W.Frag} {sp : DSp} {H : Hp} {a : Addr} {ns : List Int} (hT : Tabs T H) (hS : SqL K H a (ns.map V.int)) (h : sp [.scr ns] G0 (fun d _ => d = .bl true) fun _ _ => False) : liftSp K T sp [.ref a] H (fun v _ => v = .bl true) fun _ _ _ => False := by
  obtain ⟨F, hg, hr⟩ := relG_start hT hS
  exact ⟨_, F, G0, _, _, hg, hr, h, fun d F' G' v H' e _ _ r => by rw [e] at r; exact r, fun _ _ _ _ _ _ z _ _ _ => z⟩
end DL

namespace DL
open PySem PySem.Spec PyProof.Rows L2
/-! ### readings that can be run: values without tracked objects -/
abbrev Ev (α : Type) := DSt → Option (Except DX α)
def endE (E : DXK) (env : DSt) (G : DG) {α : Type} (Q : α → DG → Prop) : Except DX α → Prop
  | .ok d => Q d G
  | .error x => E x env G
def bindE {α β : Type} (a : Option (Except DX α)) (f : α → Option (Except DX β)) : Option (Except DX β) := match a with
  | some (.ok x) => f x
  | some (.error x) => some (.error x)
  | none => none
def EvE (t : DTE) (e : Ev D) : Prop := ∀ env r, e env = some r → ∀ E G Q, endE E env G Q r → t E env G Q
def EvT (t : DTT) (e : Ev Bool) : Prop := ∀ env r, e env = some r → ∀ E G Q, endE E env G Q r → t E env G Q
def EvA (t : DTA) (e : Ev (List D)) : Prop := ∀ env r, e env = some r → ∀ E G Q, endE E env G Q r → t E env G Q
def EvO (t : DTO) (e : Ev (Option Int)) : Prop := ∀ env r, e env = some r → ∀ E G Q, endE E env G Q r → t E env G Q
def EvI (t : DTI) (e : Ev (List D)) : Prop := ∀ env r, e env = some r → ∀ E G Q, endE E env G (fun xs G => ∀ g : DG → Prop, (∀ G', g G') → Q xs g G) r → t E env G Q
inductive SR where
  | nx (env : DSt) | rt (d : D) | ex (x : DX) (env : DSt)
abbrev EvX := DSt → Option SR
def endS (E : DXK) (DE : DEnds) (G : DG) : SR → Prop
  | .nx env => DE.nx env G
  | .rt d => DE.rt d G
  | .ex x env => E x env G
def EvS (t : DTS) (e : EvX) : Prop := ∀ env r, e env = some r → ∀ E DE G, endS E DE G r → t E DE env G
theorem bind_ok {α β : Type} {a : Option (Except DX α)} {f : α → Option (Except DX β)} {r : Except DX β} (h : bindE a f = some r) : (∃ x, a = some (.ok x) ∧ f x = some r) ∨ ∃ x, a = some (.error x) ∧ r = .error x := by
  unfold bindE at h
  split at h
  · exact .inl ⟨_, rfl, h⟩
  · cases h; exact .inr ⟨_, rfl, rfl⟩
  · cases h
/-- what is read of values that know no tracked object is read so everywhere -/
def Mono1 (f : DG → D → Option D) : Prop := ∀ G x z, f G0 x = some z → f G x = some z
def Mono2 (f : DG → D → D → Option D) : Prop := ∀ G x y z, f G0 x y = some z → f G x y = some z
def MonoB (f : DG → List D → Option D) : Prop := ∀ G xs z, f G0 xs = some z → f G xs = some z
def MonoM (f : DMF) : Prop := ∀ G x xs z G', f G0 x xs = some (z, G') → f G x xs = some (z, G)
section
variable {t ta tb tc : DTE} {e ea eb ec : Ev D}
def eVar (i : Nat) : Ev D := fun env => match env[i]? with
  | some (some d) => some (.ok d)
  | _ => none
theorem ev_var (i : Nat) : EvE (dVar i) (eVar i) := fun env r h E G Q q => by
  unfold eVar at h
  split at h
  · rename_i d hd
    cases h
    exact ⟨d, hd, q⟩
  · cases h
def eC {α : Type} (d : α) : Ev α := fun _ => some (.ok d)
theorem ev_c (d : D) : EvE (dC d) (eC d) := fun env r h E G Q q => by cases h; exact q
def okE {α : Type} : Option α → Option (Except DX α)
  | some z => some (.ok z)
  | none => none
theorem okE_eq {α : Type} {o : Option α} {r : Except DX α} (h : okE o = some r) : ∃ z, o = some z ∧ r = .ok z := by
  cases o with
  | none => cases h
  | some z => cases h; exact ⟨z, rfl, rfl⟩
def eOp (f : DG → D → D → Option D) (ea eb : Ev D) : Ev D := fun env => bindE (ea env) fun x => bindE (eb env) fun y => okE (f G0 x y)
theorem ev_op {f : DG → D → D → Option D} (m : Mono2 f) (ha : EvE ta ea) (hb : EvE tb eb) : EvE (dOp f ta tb) (eOp f ea eb) := fun env r h E G Q q => by
  rcases bind_ok h with ⟨x, hx, h⟩ | ⟨x, hx, rfl⟩
  · refine ha env _ hx E G _ ?_
    rcases bind_ok h with ⟨y, hy, h⟩ | ⟨y, hy, rfl⟩
    · refine hb env _ hy E G _ ?_
      obtain ⟨z, hz, rfl⟩ := okE_eq h
      exact ⟨z, m G x y z hz, q⟩
    · exact hb env _ hy E G _ q
  · exact ha env _ hx E G _ q
def eUn (f : DG → D → Option D) (ea : Ev D) : Ev D := fun env => bindE (ea env) fun x => okE (f G0 x)
theorem ev_un {f : DG → D → Option D} (m : Mono1 f) (ha : EvE ta ea) : EvE (dUn f ta) (eUn f ea) := fun env r h E G Q q => by
  rcases bind_ok h with ⟨x, hx, h⟩ | ⟨x, hx, rfl⟩
  · refine ha env _ hx E G _ ?_
    obtain ⟨z, hz, rfl⟩ := okE_eq h
    exact ⟨z, m G x z hz, q⟩
  · exact ha env _ hx E G _ q
def blOf : D → Option Bool
  | .bl b => some b
  | _ => none
theorem blOf_eq {d : D} {b : Bool} (h : blOf d = some b) : d = .bl b := by cases d <;> first | (cases h; rfl) | cases h
def blE (d : D) : Option (Except DX Bool) := okE (blOf d)
def eChain (f g : DG → D → D → Option D) (ea eb ec : Ev D) : Ev D := fun env => bindE (ea env) fun x => bindE (eb env) fun y => bindE (okE (f G0 x y)) fun d => bindE (blE d) fun b =>
  if b = true then bindE (ec env) fun z => okE (g G0 y z) else some (.ok (.bl false))
theorem ev_chain {f g : DG → D → D → Option D} (m : Mono2 f) (n : Mono2 g) (ha : EvE ta ea) (hb : EvE tb eb) (hc : EvE tc ec) : EvE (dChain f g ta tb tc) (eChain f g ea eb ec) := fun env r h E G Q q => by
  rcases bind_ok h with ⟨x, hx, h⟩ | ⟨x, hx, rfl⟩
  · refine ha env _ hx E G _ ?_
    rcases bind_ok h with ⟨y, hy, h⟩ | ⟨y, hy, rfl⟩
    · refine hb env _ hy E G _ ?_
      rcases bind_ok h with ⟨d, hd, h⟩ | ⟨d, hd, rfl⟩
      · obtain ⟨z, hz, ez⟩ := okE_eq hd
        cases ez
        rcases bind_ok h with ⟨b, hb', h4⟩ | ⟨b, hb', rfl⟩
        · obtain ⟨b', hb2, eb⟩ := okE_eq hb'
          cases eb
          cases blOf_eq hb2
          refine ⟨b, m G x y _ hz, ?_⟩
          cases b with
          | true =>
            rw [if_pos rfl] at h4 ⊢
            rcases bind_ok h4 with ⟨w, hw, h5⟩ | ⟨w, hw, rfl⟩
            · refine hc env _ hw E G _ ?_
              obtain ⟨u, hu, rfl⟩ := okE_eq h5
              exact ⟨u, n G y w u hu, q⟩
            · exact hc env _ hw E G _ q
          | false =>
            rw [if_neg Bool.false_ne_true] at h4 ⊢
            cases h4
            exact q
        · obtain ⟨b', hb2, eb⟩ := okE_eq hb'
          cases eb
      · obtain ⟨z, hz, ez⟩ := okE_eq hd
        cases ez
    · exact hb env _ hy E G _ q
  · exact ha env _ hx E G _ q
def eTest (ea : Ev D) : Ev Bool := fun env => bindE (ea env) blE
theorem ev_test (ha : EvE ta ea) : EvT (dTest ta) (eTest ea) := fun env r h E G Q q => by
  rcases bind_ok h with ⟨x, hx, h⟩ | ⟨x, hx, rfl⟩
  · refine ha env _ hx E G _ ?_
    obtain ⟨b, hb, rfl⟩ := okE_eq h
    exact ⟨b, blOf_eq hb, q⟩
  · exact ha env _ hx E G _ q
variable {tt uu : DTT} {et eu : Ev Bool}
def eAnd (et eu : Ev Bool) : Ev Bool := fun env => bindE (et env) fun b => if b = true then eu env else some (.ok false)
theorem ev_and (ht : EvT tt et) (hu : EvT uu eu) : EvT (dAnd tt uu) (eAnd et eu) := fun env r h E G Q q => by
  rcases bind_ok h with ⟨x, hx, h⟩ | ⟨x, hx, rfl⟩
  · refine ht env _ hx E G _ ?_
    cases x with
    | true => exact hu env r h E G Q q
    | false => cases h; exact q
  · exact ht env _ hx E G _ q
def eOr (et eu : Ev Bool) : Ev Bool := fun env => bindE (et env) fun b => if b = true then some (.ok true) else eu env
theorem ev_or (ht : EvT tt et) (hu : EvT uu eu) : EvT (dOr tt uu) (eOr et eu) := fun env r h E G Q q => by
  rcases bind_ok h with ⟨x, hx, h⟩ | ⟨x, hx, rfl⟩
  · refine ht env _ hx E G _ ?_
    cases x with
    | false => exact hu env r h E G Q q
    | true => cases h; exact q
  · exact ht env _ hx E G _ q
def eNot (et : Ev Bool) : Ev Bool := fun env => bindE (et env) fun b => some (.ok (!b))
theorem ev_not (ht : EvT tt et) : EvT (dNot tt) (eNot et) := fun env r h E G Q q => by
  rcases bind_ok h with ⟨x, hx, h⟩ | ⟨x, hx, rfl⟩
  · refine ht env _ hx E G _ ?_
    cases h
    exact q
  · exact ht env _ hx E G _ q
def eAndV (ea eb : Ev D) : Ev D := fun env => bindE (ea env) fun x => bindE (blE x) fun b => if b = true then eb env else some (.ok (.bl false))
theorem ev_andV (ha : EvE ta ea) (hb : EvE tb eb) : EvE (dAndV ta tb) (eAndV ea eb) := fun env r h E G Q q => by
  rcases bind_ok h with ⟨x, hx, h⟩ | ⟨x, hx, rfl⟩
  · refine ha env _ hx E G _ ?_
    rcases bind_ok h with ⟨b, hb', h⟩ | ⟨b, hb', rfl⟩
    · obtain ⟨b', hb2, e'⟩ := okE_eq hb'
      cases e'
      refine ⟨b, blOf_eq hb2, ?_⟩
      cases b with
      | true => exact hb env r h E G Q q
      | false => cases h; exact q
    · obtain ⟨b', hb2, e'⟩ := okE_eq hb'
      cases e'
  · exact ha env _ hx E G _ q
def eOrV (ea eb : Ev D) : Ev D := fun env => bindE (ea env) fun x => bindE (blE x) fun b => if b = true then some (.ok (.bl true)) else eb env
theorem ev_orV (ha : EvE ta ea) (hb : EvE tb eb) : EvE (dOrV ta tb) (eOrV ea eb) := fun env r h E G Q q => by
  rcases bind_ok h with ⟨x, hx, h⟩ | ⟨x, hx, rfl⟩
  · refine ha env _ hx E G _ ?_
    rcases bind_ok h with ⟨b, hb', h⟩ | ⟨b, hb', rfl⟩
    · obtain ⟨b', hb2, e'⟩ := okE_eq hb'
      cases e'
      refine ⟨b, blOf_eq hb2, ?_⟩
      cases b with
      | false => exact hb env r h E G Q q
      | true => cases h; exact q
    · obtain ⟨b', hb2, e'⟩ := okE_eq hb'
      cases e'
  · exact ha env _ hx E G _ q
def eNotV (ea : Ev D) : Ev D := fun env => bindE (ea env) fun x => bindE (blE x) fun b => some (.ok (.bl (!b)))
theorem ev_notV (ha : EvE ta ea) : EvE (dNotV ta) (eNotV ea) := fun env r h E G Q q => by
  rcases bind_ok h with ⟨x, hx, h⟩ | ⟨x, hx, rfl⟩
  · refine ha env _ hx E G _ ?_
    rcases bind_ok h with ⟨b, hb', h⟩ | ⟨b, hb', rfl⟩
    · obtain ⟨b', hb2, e'⟩ := okE_eq hb'
      cases e'
      cases h
      exact ⟨b, blOf_eq hb2, q⟩
    · obtain ⟨b', hb2, e'⟩ := okE_eq hb'
      cases e'
  · exact ha env _ hx E G _ q
def eIf (et : Ev Bool) (ea eb : Ev D) : Ev D := fun env => bindE (et env) fun b => if b = true then ea env else eb env
theorem ev_if (ht : EvT tt et) (ha : EvE ta ea) (hb : EvE tb eb) : EvE (dIf tt ta tb) (eIf et ea eb) := fun env r h E G Q q => by
  rcases bind_ok h with ⟨x, hx, h⟩ | ⟨x, hx, rfl⟩
  · refine ht env _ hx E G _ ?_
    cases x with
    | true => exact ha env r h E G Q q
    | false => exact hb env r h E G Q q
  · exact ht env _ hx E G _ q
variable {tr : DTA} {er : Ev (List D)}
theorem ev_nil : EvA dNil (eC []) := fun env r h E G Q q => by cases h; exact q
def eCons (ea : Ev D) (er : Ev (List D)) : Ev (List D) := fun env => bindE (ea env) fun x => bindE (er env) fun xs => some (.ok (x :: xs))
theorem ev_cons (ha : EvE ta ea) (hr : EvA tr er) : EvA (dCons ta tr) (eCons ea er) := fun env r h E G Q q => by
  rcases bind_ok h with ⟨x, hx, h⟩ | ⟨x, hx, rfl⟩
  · refine ha env _ hx E G _ ?_
    rcases bind_ok h with ⟨xs, hxs, h⟩ | ⟨xs, hxs, rfl⟩
    · refine hr env _ hxs E G _ ?_
      cases h
      exact q
    · exact hr env _ hxs E G _ q
  · exact ha env _ hx E G _ q
def eTup (er : Ev (List D)) : Ev D := fun env => bindE (er env) fun xs => if xs.length ≤ 16000000 then some (.ok (.tup xs)) else none
theorem ev_tup (hr : EvA tr er) : EvE (dTup tr) (eTup er) := fun env r h E G Q q => by
  rcases bind_ok h with ⟨x, hx, h⟩ | ⟨x, hx, rfl⟩
  · refine hr env _ hx E G _ ?_
    split at h
    · rename_i hl
      cases h
      exact ⟨hl, q⟩
    · cases h
  · exact hr env _ hx E G _ q
def eLst (er : Ev (List D)) : Ev D := fun env => bindE (er env) fun xs => if xs.length ≤ 16000000 then some (.ok (.lst xs)) else none
theorem ev_lst (hr : EvA tr er) : EvE (dLst tr) (eLst er) := fun env r h E G Q q => by
  rcases bind_ok h with ⟨x, hx, h⟩ | ⟨x, hx, rfl⟩
  · refine hr env _ hx E G _ ?_
    split at h
    · rename_i hl
      cases h
      exact ⟨hl, q⟩
    · cases h
  · exact hr env _ hx E G _ q
def eB (f : DG → List D → Option D) (er : Ev (List D)) : Ev D := fun env => bindE (er env) fun xs => okE (f G0 xs)
theorem ev_b {f : DG → List D → Option D} (m : MonoB f) (hr : EvA tr er) : EvE (dB f tr) (eB f er) := fun env r h E G Q q => by
  rcases bind_ok h with ⟨x, hx, h⟩ | ⟨x, hx, rfl⟩
  · refine hr env _ hx E G _ ?_
    obtain ⟨z, hz, rfl⟩ := okE_eq h
    exact ⟨z, m G x z hz, q⟩
  · exact hr env _ hx E G _ q
/-- a def -/
def EvF (sp : DSp) (e : List D → Option (Except DX D)) : Prop := ∀ ds r, e ds = some r → ∀ G Q (E : DX → DG → Prop), (match r with | .ok d => Q d G | .error x => E x G) → sp ds G Q E
def eCall (ef : List D → Option (Except DX D)) (er : Ev (List D)) : Ev D := fun env => bindE (er env) ef
theorem ev_call {sp : DSp} {ef : List D → Option (Except DX D)} (hf : EvF sp ef) (hr : EvA tr er) : EvE (dCall sp tr) (eCall ef er) := fun env r h E G Q q => by
  rcases bind_ok h with ⟨x, hx, h⟩ | ⟨x, hx, rfl⟩
  · refine hr env _ hx E G _ ?_
    refine hf x r h G Q _ ?_
    cases r with
    | ok d => exact q
    | error x => exact q
  · exact hr env _ hx E G _ q
def eMt (ty : String) (f : DMF) (ea : Ev D) (er : Ev (List D)) : Ev D := fun env => bindE (ea env) fun x => if tyM G0 x = some ty then bindE (er env) fun xs => okE ((f G0 x xs).map (·.1)) else none
theorem tyM_mono {G : DG} {x : D} {ty : String} (h : tyM G0 x = some ty) : tyM G x = some ty := by
  cases x <;> first | exact h | cases h
theorem ev_mt {ty : String} {f : DMF} (m : MonoM f) (ha : EvE ta ea) (hr : EvA tr er) : EvE (dMt ty f ta tr) (eMt ty f ea er) := fun env r h E G Q q => by
  rcases bind_ok h with ⟨x, hx, h⟩ | ⟨x, hx, rfl⟩
  · refine ha env _ hx E G _ ?_
    split at h
    · rename_i hty
      refine ⟨tyM_mono hty, ?_⟩
      rcases bind_ok h with ⟨xs, hxs, h⟩ | ⟨xs, hxs, rfl⟩
      · refine hr env _ hxs E G _ ?_
        obtain ⟨z, hz, rfl⟩ := okE_eq h
        obtain ⟨⟨z', G'⟩, hz', rfl⟩ := Option.map_eq_some_iff.mp hz
        exact ⟨_, G, m G x xs _ G' hz', q⟩
      · exact hr env _ hxs E G _ q
    · cases h
  · exact ha env _ hx E G _ q
theorem ev_noPart : EvO dNoPart (eC none) := fun env r h E G Q q => by cases h; exact q
def intOf : D → Option Int
  | .int i => some i
  | _ => none
def ePart (ea : Ev D) : Ev (Option Int) := fun env => bindE (ea env) fun x => okE ((intOf x).map some)
theorem intOf_eq {d : D} {i : Int} (h : intOf d = some i) : d = .int i := by cases d <;> first | (cases h; rfl) | cases h
theorem ev_part (ha : EvE ta ea) : EvO (dPart ta) (ePart ea) := fun env r h E G Q q => by
  rcases bind_ok h with ⟨x, hx, h⟩ | ⟨x, hx, rfl⟩
  · refine ha env _ hx E G _ ?_
    obtain ⟨z, hz, rfl⟩ := okE_eq h
    obtain ⟨i, hi, rfl⟩ := Option.map_eq_some_iff.mp hz
    exact ⟨i, intOf_eq hi, q⟩
  · exact ha env _ hx E G _ q
theorem asL_mono {G : DG} {x : D} {xs : List D} (h : asL G0 x = some xs) : asL G x = some xs := by cases x <;> first | exact h | cases h
theorem asQ_mono {G : DG} {x : D} {xs : List D} (h : asQ G0 x = some xs) : asQ G x = some xs := by cases x <;> first | exact h | cases h
theorem asD_mono {G : DG} {x : D} {xs : List (D × D)} (h : asD G0 x = some xs) : asD G x = some xs := by cases x <;> first | exact h | cases h
theorem iterD_mono {G : DG} {x : D} {xs : List D} (h : iterD G0 x = some xs) : iterD G x = some xs := by cases x <;> first | exact h | cases h
theorem slice_mono {G : DG} {x z : D} {lo hi : Option Int} (h : pySlice G0 x lo hi = some z) : pySlice G x lo hi = some z := by cases x <;> first | exact h | cases h
def eSlice (ea : Ev D) (l h : Ev (Option Int)) : Ev D := fun env => bindE (ea env) fun x => bindE (l env) fun lo => bindE (h env) fun hi => okE (pySlice G0 x lo hi)
theorem ev_slice {tl th : DTO} {el eh : Ev (Option Int)} (ha : EvE ta ea) (hl : EvO tl el) (hh : EvO th eh) : EvE (dSlice ta tl th) (eSlice ea el eh) := fun env r h E G Q q => by
  rcases bind_ok h with ⟨x, hx, h⟩ | ⟨x, hx, rfl⟩
  · refine ha env _ hx E G _ ?_
    rcases bind_ok h with ⟨lo, hlo, h⟩ | ⟨lo, hlo, rfl⟩
    · refine hl env _ hlo E G _ ?_
      rcases bind_ok h with ⟨hi, hhi, h⟩ | ⟨hi, hhi, rfl⟩
      · refine hh env _ hhi E G _ ?_
        obtain ⟨z, hz, rfl⟩ := okE_eq h
        exact ⟨z, slice_mono hz, q⟩
      · exact hh env _ hhi E G _ q
    · exact hl env _ hlo E G _ q
  · exact ha env _ hx E G _ q
/-! iterables -/
def eIter (ea : Ev D) : Ev (List D) := fun env => bindE (ea env) fun x => okE (iterD G0 x)
theorem ev_iter (ha : EvE ta ea) : EvI (dIter ta) (eIter ea) := fun env r h E G Q q => by
  rcases bind_ok h with ⟨x, hx, h⟩ | ⟨x, hx, rfl⟩
  · refine ha env _ hx E G _ ?_
    obtain ⟨z, hz, rfl⟩ := okE_eq h
    exact ⟨z, iterD_mono hz, q _ fun G' => iterD_mono hz⟩
  · exact ha env _ hx E G _ q
def eZip (er : Ev (List D)) : Ev (List D) := fun env => bindE (er env) fun xs => match xs with
  | [a, b] => match iterD G0 a, iterD G0 b with
    | some as, some bs => some (.ok (zipD as bs))
    | _, _ => none
  | _ => none
theorem ev_zip (hr : EvA tr er) : EvI (dZip tr) (eZip er) := fun env r h E G Q q => by
  rcases bind_ok h with ⟨x, hx, h⟩ | ⟨x, hx, rfl⟩
  · refine hr env _ hx E G _ ?_
    split at h
    · rename_i a b
      split at h
      · rename_i as bs ha hb
        cases h
        exact ⟨a, b, as, bs, rfl, iterD_mono ha, iterD_mono hb, q _ fun G' => ⟨iterD_mono ha, iterD_mono hb⟩⟩
      · cases h
    · cases h
  · exact hr env _ hx E G _ q
def eEnum (er : Ev (List D)) : Ev (List D) := fun env => bindE (er env) fun xs => match xs with
  | [a] => match iterD G0 a with
    | some as => some (.ok (enumD 0 as))
    | _ => none
  | _ => none
theorem ev_enum (hr : EvA tr er) : EvI (dEnum tr) (eEnum er) := fun env r h E G Q q => by
  rcases bind_ok h with ⟨x, hx, h⟩ | ⟨x, hx, rfl⟩
  · refine hr env _ hx E G _ ?_
    split at h
    · rename_i a
      split at h
      · rename_i as ha
        cases h
        exact ⟨a, as, rfl, iterD_mono ha, q _ fun G' => iterD_mono ha⟩
      · cases h
    · cases h
  · exact hr env _ hx E G _ q
def eRange1 (er : Ev (List D)) : Ev (List D) := fun env => bindE (er env) fun xs => match xs with
  | [.int hi] => if -(2 ^ 62) ≤ hi ∧ hi < 2 ^ 62 then some (.ok (intsFrom 0 hi.toNat)) else none
  | _ => none
theorem ev_range1 (hr : EvA tr er) : EvI (dRange1 tr) (eRange1 er) := fun env r h E G Q q => by
  rcases bind_ok h with ⟨x, hx, h⟩ | ⟨x, hx, rfl⟩
  · refine hr env _ hx E G _ ?_
    split at h
    · rename_i hi
      split at h
      · rename_i hb
        cases h
        exact ⟨hi, rfl, hb.1, hb.2, q _ fun _ => trivial⟩
      · cases h
    · cases h
  · exact hr env _ hx E G _ q
def eRange2 (er : Ev (List D)) : Ev (List D) := fun env => bindE (er env) fun xs => match xs with
  | [.int lo, .int hi] => if -(2 ^ 62) ≤ lo ∧ lo < 2 ^ 62 ∧ -(2 ^ 62) ≤ hi ∧ hi < 2 ^ 62 then some (.ok (intsFrom lo (hi - lo).toNat)) else none
  | _ => none
theorem ev_range2 (hr : EvA tr er) : EvI (dRange2 tr) (eRange2 er) := fun env r h E G Q q => by
  rcases bind_ok h with ⟨x, hx, h⟩ | ⟨x, hx, rfl⟩
  · refine hr env _ hx E G _ ?_
    split at h
    · rename_i lo hi
      split at h
      · rename_i hb
        cases h
        exact ⟨lo, hi, rfl, hb, q _ fun _ => trivial⟩
      · cases h
    · cases h
  · exact hr env _ hx E G _ q
/-! comprehensions -/
def eTg : Tg → D → DSt → Option DSt
  | .n i, d, env => some (env.set i (some d))
  | .t is, .tup xs, env => if xs.length = is.length then some (setAll env is xs) else none
  | .t _, _, _ => none
theorem eTg_ok {tg : Tg} {d : D} {env env' : DSt} {P : DSt → Prop} (h : eTg tg d env = some env') (p : P env') : dTg tg d env P := by
  cases tg with
  | n i => cases h; exact p
  | t is =>
    cases d with
    | tup xs =>
      simp only [eTg] at h
      split at h
      · rename_i hl
        cases h
        exact ⟨xs, rfl, hl, p⟩
      · cases h
    | _ => cases h
def eLcL (tg : Tg) (et : Ev Bool) (ee : Ev D) (env : DSt) : List D → Option (List D)
  | [] => some []
  | d :: ds => match eTg tg d env with
    | some env1 => match et env1 with
      | some (.ok true) => match ee env1 with
        | some (.ok y) => match eLcL tg et ee env ds with
          | some ys => some (y :: ys)
          | none => none
        | _ => none
      | some (.ok false) => eLcL tg et ee env ds
      | _ => none
    | none => none
theorem eLcL_ok {tg : Tg} (ht : EvT tt et) (he : EvE t e) {guard : DG → Prop} (hg : ∀ G, guard G) {env : DSt} {G : DG} : ∀ {ds ys : List D} {Q : List D → DG → Prop}, eLcL tg et e env ds = some ys → Q ys G → dLcL tg tt t guard env ds G Q
  | [], ys, Q, h, q => by cases h; exact ⟨hg G, q⟩
  | d :: ds, ys, Q, h, q => by
    unfold eLcL at h
    split at h
    · rename_i env1 h1
      refine ⟨hg G, eTg_ok h1 ?_⟩
      split at h
      · rename_i h2
        refine ht env1 _ h2 EF G _ ?_
        simp only [endE, if_true]
        split at h
        · rename_i y h3
          refine he env1 _ h3 EF G _ ?_
          split at h
          · rename_i zs h4
            cases h
            exact eLcL_ok ht he hg h4 q
          · cases h
        · cases h
      · rename_i h2
        refine ht env1 _ h2 EF G _ ?_
        simp only [endE, Bool.false_eq_true, if_false]
        exact eLcL_ok ht he hg h q
      · cases h
    · cases h
theorem ev_yes : EvT dYes (eC true) := fun env r h E G Q q => by cases h; exact q
def eLc (ei : Ev (List D)) (tg : Tg) (et : Ev Bool) (ee : Ev D) (vs : List Nat) : Ev D := fun env => bindE (ei env) fun items => if items.length ≤ 16000000 then okE ((eLcL tg et ee (wipeD env vs) items).map .lst) else none
theorem ev_lc {wi : DTI} {ei : Ev (List D)} {tg : Tg} {vs : List Nat} (hi : EvI wi ei) (ht : EvT tt et) (he : EvE t e) : EvE (dLc wi tg tt t vs) (eLc ei tg et e vs) := fun env r h E G Q q => by
  rcases bind_ok h with ⟨x, hx, h⟩ | ⟨x, hx, rfl⟩
  · refine hi env _ hx E G _ fun g hg => ?_
    split at h
    · rename_i hl
      obtain ⟨z, hz, rfl⟩ := okE_eq h
      obtain ⟨ys, hy, rfl⟩ := Option.map_eq_some_iff.mp hz
      exact ⟨hl, eLcL_ok ht he hg hy q⟩
    · cases h
  · exact hi env _ hx E G _ q
end
/-! statements -/
section
variable {t u : DTS} {e f : EvX} {te : DTE} {ee : Ev D}
def exE {α : Type} (env : DSt) (a : Option (Except DX α)) (k : α → Option SR) : Option SR := match a with
  | some (.ok x) => k x
  | some (.error x) => some (.ex x env)
  | none => none
theorem exE_ok {α : Type} {env : DSt} {a : Option (Except DX α)} {k : α → Option SR} {r : SR} (h : exE env a k = some r) : (∃ x, a = some (.ok x) ∧ k x = some r) ∨ ∃ x, a = some (.error x) ∧ r = .ex x env := by
  unfold exE at h
  split at h
  · exact .inl ⟨_, rfl, h⟩
  · cases h; exact .inr ⟨_, rfl, rfl⟩
  · cases h
def xNext : EvX := fun env => some (.nx env)
theorem xv_next : EvS sNext xNext := fun env r h E DE G q => by cases h; exact q
def xSeq (e f : EvX) : EvX := fun env => match e env with
  | some (.nx env') => f env'
  | r => r
theorem xv_seq (h1 : EvS t e) (h2 : EvS u f) : EvS (sSeq t u) (xSeq e f) := fun env r h E DE G q => by
  unfold xSeq at h
  split at h
  · rename_i env' he
    exact h1 env _ he E _ G (h2 env' r h E DE G q)
  · rename_i he
    refine h1 env r h E _ G ?_
    cases r with
    | nx env' => exact absurd h (he env')
    | rt d => exact q
    | ex x env' => exact q
def xDrop (ee : Ev D) : EvX := fun env => exE env (ee env) fun _ => some (.nx env)
theorem xv_drop (he : EvE te ee) : EvS (sDrop te) (xDrop ee) := fun env r h E DE G q => by
  rcases exE_ok h with ⟨x, hx, h⟩ | ⟨x, hx, rfl⟩
  · cases h; exact he env _ hx E G _ q
  · exact he env _ hx E G _ q
def xRet (ee : Ev D) : EvX := fun env => exE env (ee env) fun d => some (.rt d)
theorem xv_ret (he : EvE te ee) : EvS (sRet te) (xRet ee) := fun env r h E DE G q => by
  rcases exE_ok h with ⟨x, hx, h⟩ | ⟨x, hx, rfl⟩
  · cases h; exact he env _ hx E G _ q
  · exact he env _ hx E G _ q
def xRetN : EvX := fun _ => some (.rt .non)
theorem xv_retN : EvS sRetN xRetN := fun env r h E DE G q => by cases h; exact q
def xSet (i : Nat) (ee : Ev D) : EvX := fun env => exE env (ee env) fun d => some (.nx (env.set i (some d)))
theorem xv_set {i : Nat} (he : EvE te ee) : EvS (sSet i te) (xSet i ee) := fun env r h E DE G q => by
  rcases exE_ok h with ⟨x, hx, h⟩ | ⟨x, hx, rfl⟩
  · cases h; exact he env _ hx E G _ q
  · exact he env _ hx E G _ q
def xIf (et : Ev Bool) (e f : EvX) : EvX := fun env => exE env (et env) fun b => if b = true then e env else f env
theorem xv_if {tt : DTT} {et : Ev Bool} (ht : EvT tt et) (h1 : EvS t e) (h2 : EvS u f) : EvS (sIf tt t u) (xIf et e f) := fun env r h E DE G q => by
  rcases exE_ok h with ⟨x, hx, h⟩ | ⟨x, hx, rfl⟩
  · refine ht env _ hx E G _ ?_
    cases x with
    | true => exact h1 env r h E DE G q
    | false => exact h2 env r h E DE G q
  · exact ht env _ hx E G _ q
def xRaise (c : String) : EvX := fun env => some (.ex (c, none) env)
theorem xv_raise {c : String} : EvS (sRaise c) (xRaise c) := fun env r h E DE G q => by cases h; exact q
def xTg (tg : Tg) (ee : Ev D) : EvX := fun env => exE env (ee env) fun d => (eTg tg d env).map .nx
theorem xv_tg {tg : Tg} (he : EvE te ee) : EvS (sTg tg te) (xTg tg ee) := fun env r h E DE G q => by
  rcases exE_ok h with ⟨x, hx, h⟩ | ⟨x, hx, rfl⟩
  · refine he env _ hx E G _ ?_
    obtain ⟨env', h', rfl⟩ := Option.map_eq_some_iff.mp h
    exact eTg_ok h' q
  · exact he env _ hx E G _ q
def xPar (is : List Nat) (er : Ev (List D)) : EvX := fun env => exE env (er env) fun xs => if xs.length = is.length then some (.nx (setAll env is xs)) else none
theorem xv_par {is : List Nat} {tr : DTA} {er : Ev (List D)} (hr : EvA tr er) : EvS (sPar is tr) (xPar is er) := fun env r h E DE G q => by
  rcases exE_ok h with ⟨x, hx, h⟩ | ⟨x, hx, rfl⟩
  · refine hr env _ hx E G _ ?_
    split at h
    · rename_i hl
      cases h
      exact ⟨hl, q⟩
    · cases h
  · exact hr env _ hx E G _ q
def xStar (i j : Nat) (ee : Ev D) : EvX := fun env => exE env (ee env) fun d => match asL G0 d with
  | some (x :: xs) => some (.nx ((env.set i (some x)).set j (some (.lst xs))))
  | _ => none
theorem xv_star {i j : Nat} (he : EvE te ee) : EvS (sStar i j te) (xStar i j ee) := fun env r h E DE G q => by
  rcases exE_ok h with ⟨x, hx, h⟩ | ⟨x, hx, rfl⟩
  · refine he env _ hx E G _ ?_
    split at h
    · rename_i y ys hy
      cases h
      exact ⟨y, ys, asL_mono hy, q⟩
    · cases h
  · exact he env _ hx E G _ q
def xLoop (tg : Tg) (e : EvX) : List D → EvX
  | [], env => some (.nx env)
  | d :: ds, env => match eTg tg d env with
    | some env1 => match e env1 with
      | some (.nx env2) => xLoop tg e ds env2
      | r => r
    | none => none
theorem xLoop_ok {tg : Tg} (h1 : EvS t e) {guard : DG → Prop} (hg : ∀ G, guard G) {E : DXK} {DE : DEnds} {G : DG} : ∀ {ds : List D} {env : DSt} {r : SR}, xLoop tg e ds env = some r → endS E DE G r → dLoop E tg t DE guard ds env G
  | [], env, r, h, q => by cases h; exact ⟨hg G, q⟩
  | d :: ds, env, r, h, q => by
    unfold xLoop at h
    split at h
    · rename_i env1 h2
      refine ⟨hg G, eTg_ok h2 ?_⟩
      split at h
      · rename_i env2 h3
        exact h1 env1 _ h3 E _ G (xLoop_ok h1 hg h q)
      · rename_i h3
        refine h1 env1 r h E _ G ?_
        cases r with
        | nx env' => exact absurd h (h3 env')
        | rt d => exact q
        | ex x env' => exact q
    · cases h
def xFor (ei : Ev (List D)) (tg : Tg) (e : EvX) : EvX := fun env => exE env (ei env) fun items => xLoop tg e items env
theorem xv_for {wi : DTI} {ei : Ev (List D)} {tg : Tg} (hi : EvI wi ei) (h1 : EvS t e) : EvS (sFor wi tg t) (xFor ei tg e) := fun env r h E DE G q => by
  rcases exE_ok h with ⟨x, hx, h⟩ | ⟨x, hx, rfl⟩
  · exact hi env _ hx E G _ fun g hg => xLoop_ok h1 hg h q
  · exact hi env _ hx E G _ q
def fnE (N : List Str) (n : Nat) (e : EvX) (ds : List D) : Option (Except DX D) := if ds.length = n then match e (dstart N ds) with
    | some (.nx _) => some (.ok .non)
    | some (.rt d) => some (.ok d)
    | some (.ex x _) => some (.error x)
    | none => none
  else none
theorem evf {N : List Str} {n : Nat} (h1 : EvS t e) : EvF (spOf N n t) (fnE N n e) := fun ds r h G Q E q => by
  unfold fnE at h
  split at h
  · rename_i hl
    refine ⟨hl, ?_⟩
    split at h
    · rename_i env' h2
      cases h
      exact h1 _ _ h2 _ _ G q
    · rename_i d h2
      cases h
      exact h1 _ _ h2 _ _ G q
    · rename_i x env' h2
      cases h
      exact h1 _ _ h2 _ _ G q
    · cases h
  · cases h
end
end DL

namespace DL
open PySem PySem.Spec PyProof.Rows L2
theorem m_add : Mono2 pyAdd := fun G x y z h => by cases x <;> cases y <;> first | exact h | cases h
theorem m_sub : Mono2 pySub := fun _ _ _ _ h => h
theorem m_mul : Mono2 pyMul := fun G x y z h => by cases x <;> cases y <;> first | exact h | cases h
theorem m_mod : Mono2 pyMod := fun _ _ _ _ h => h
theorem m_div : Mono2 pyDiv := fun _ _ _ _ h => h
theorem m_pow : Mono2 pyPow := fun _ _ _ _ h => h
theorem m_lt : Mono2 pyLt := fun _ _ _ _ h => h
theorem m_gt : Mono2 pyGt := fun _ _ _ _ h => h
theorem m_le : Mono2 pyLe := fun _ _ _ _ h => h
theorem m_ge : Mono2 pyGe := fun _ _ _ _ h => h
theorem m_is : Mono2 pyIs := fun _ _ _ _ h => h
theorem m_isnot : Mono2 pyIsNot := fun _ _ _ _ h => h
theorem m_neg : Mono1 pyNeg := fun _ _ _ h => h
theorem mapO_mono {f g : D → Option PyData} (h : ∀ d y, f d = some y → g d = some y) : ∀ {xs : List D} {ys : List PyData}, mapO f xs = some ys → mapO g xs = some ys
  | [], _, e => e
  | x :: xs, ys, e => by
    unfold mapO at e ⊢
    split at e
    · rename_i y zs e1 e2
      rw [h x y e1, mapO_mono h e2]
      exact e
    · cases e
theorem toPy_mono {G : DG} : ∀ (n : Nat) (d : D) (y : PyData), toPy G0 n d = some y → toPy G n d = some y := by
  intro n
  induction n with
  | zero => intro d y h; cases d <;> first | exact h | cases h
  | succ n ih =>
    intro d y h
    cases d with
    | tup xs => obtain ⟨ys, h1, h2⟩ := Option.map_eq_some_iff.mp h; exact Option.map_eq_some_iff.mpr ⟨ys, mapO_mono ih h1, h2⟩
    | lst xs => obtain ⟨ys, h1, h2⟩ := Option.map_eq_some_iff.mp h; exact Option.map_eq_some_iff.mpr ⟨ys, mapO_mono ih h1, h2⟩
    | scr xs => obtain ⟨ys, h1, h2⟩ := Option.map_eq_some_iff.mp h; exact Option.map_eq_some_iff.mpr ⟨ys, mapO_mono ih h1, h2⟩
    | ref a => cases h
    | _ => first | exact h | cases h
theorem eqB_mono {G : DG} {x y : D} {b : Bool} (h : pyEqB G0 x y = some b) : pyEqB G x y = some b := by
  unfold pyEqB at h ⊢
  split at h
  · exact h
  · exact h
  · rename_i h1 h2
    split at h
    · rename_i d e hd he
      rw [toPy_mono 40 _ _ hd, toPy_mono 40 _ _ he]
      exact h
    · cases h
theorem m_eq : Mono2 pyEq := fun G x y z h => by
  obtain ⟨b, hb, rfl⟩ := Option.map_eq_some_iff.mp h
  exact Option.map_eq_some_iff.mpr ⟨b, eqB_mono hb, rfl⟩
theorem m_ne : Mono2 pyNe := fun G x y z h => by
  obtain ⟨b, hb, rfl⟩ := Option.map_eq_some_iff.mp h
  exact Option.map_eq_some_iff.mpr ⟨b, eqB_mono hb, rfl⟩
theorem inB_mono {G : DG} {x y : D} {b : Bool} (h : pyInB G0 x y = some b) : pyInB G x y = some b := by
  cases y with
  | ref a => cases x <;> first | exact h | cases h | (simp [pyInB, asQ, asL, asD, G0, lstO, dctO] at h)
  | _ => cases x <;> first | exact h | cases h
theorem m_in : Mono2 pyIn := fun G x y z h => by
  obtain ⟨b, hb, rfl⟩ := Option.map_eq_some_iff.mp h
  exact Option.map_eq_some_iff.mpr ⟨b, inB_mono hb, rfl⟩
theorem m_notin : Mono2 pyNotIn := fun G x y z h => by
  obtain ⟨b, hb, rfl⟩ := Option.map_eq_some_iff.mp h
  exact Option.map_eq_some_iff.mpr ⟨b, inB_mono hb, rfl⟩
theorem m_item : Mono2 pyItem := fun G x y z h => by
  cases x with
  | ref a => cases y <;> first | exact h | cases h | (simp [pyItem, asQ, asL, asD, G0, lstO, dctO] at h)
  | _ => cases y <;> first | exact h | cases h
/-- told, run -/
def toldR : Option (Except DX D) → Option (Except DX D)
  | some (.ok d) => some (.ok d)
  | some (.error (c, none)) => if c ∈ refusals then some (.ok (.tup [.str "refused", .str c])) else none
  | _ => none
def eTold (ee : Ev D) : Ev D := fun env => toldR (ee env)
theorem ev_told {te : DTE} {ee : Ev D} (he : EvE te ee) : EvE (dTold te) (eTold ee) := fun env r h E G Q q => by
  unfold eTold toldR at h
  split at h
  · rename_i d hd
    cases h
    exact he env _ hd (toldX Q) G Q q
  · rename_i c hd
    split at h
    · rename_i hc
      cases h
      exact he env _ hd (toldX Q) G Q ⟨c, rfl, hc, q⟩
    · cases h
  · cases h
theorem m_isi {ty : String} : Mono1 (pyIsi ty) := fun G x z h => by cases x <;> first | exact h | cases h
theorem m_len : MonoB pyLen := fun G xs z h => by
  match xs, h with
  | [], h => exact h
  | [x], h => cases x <;> first | exact h | cases h
  | x :: y :: r, h => cases x <;> exact h
theorem m_sum : MonoB pySum := fun G xs z h => by
  match xs, h with
  | [], h => exact h
  | [x], h => cases x <;> first | exact h | cases h
  | _ :: _ :: _, h => cases h
theorem m_all : MonoB pyAll := fun G xs z h => by
  match xs, h with
  | [], h => exact h
  | [x], h => cases x <;> first | exact h | cases h
  | _ :: _ :: _, h => cases h
theorem m_any : MonoB pyAny := fun G xs z h => by
  match xs, h with
  | [], h => exact h
  | [x], h => cases x <;> first | exact h | cases h
  | _ :: _ :: _, h => cases h
theorem m_tup : MonoB pyTup := fun G xs z h => by
  match xs, h with
  | [], h => exact h
  | [x], h => cases x <;> first | exact h | cases h
  | _ :: _ :: _, h => cases h
theorem m_lst : MonoB pyLst := fun G xs z h => by
  match xs, h with
  | [], h => exact h
  | [x], h => cases x <;> first | exact h | cases h
  | _ :: _ :: _, h => cases h
theorem m_min2 : MonoB pyMin2 := fun _ _ _ h => h
theorem m_max2 : MonoB pyMax2 := fun _ _ _ h => h
theorem m_abs : MonoB pyAbs := fun _ _ _ h => h
theorem m_int : MonoB pyIntS := fun _ _ _ h => h
theorem m_str : MonoB pyStr := fun _ _ _ h => h
theorem m_kin {tab : List (String × D)} : Mono1 (kIn tab) := fun _ _ _ h => h
theorem m_knotin {tab : List (String × D)} : Mono1 (kNotIn tab) := fun _ _ _ h => h
theorem m_kitem {tab : List (String × D)} : Mono1 (kItem tab) := fun _ _ _ h => h
theorem m_kget {tab : List (String × D)} : Mono1 (kGet tab) := fun _ _ _ h => h
theorem m_split : MonoM mSplit := fun G x xs z G' h => by
  unfold mSplit at h ⊢
  split at h
  · split at h
    · rename_i c hc
      split at h
      · rename_i hl
        cases h
        simp only [hc, hl, and_self, if_true]
      · cases h
    · cases h
  · cases h
theorem m_join : MonoM mJoin := fun G x xs z G' h => by
  unfold mJoin at h ⊢
  split at h
  · split at h
    · rename_i ys hy
      split at h
      · rename_i zs hz
        split at h
        · rename_i hl
          cases h
          simp only [asQ_mono hy, hz, hl, if_true]
        · cases h
      · cases h
    · cases h
  · cases h
theorem m_index : MonoM mIndex := fun G x xs z G' h => by
  unfold mIndex at h ⊢
  split at h
  · split at h
    · rename_i zs hz
      split at h
      · rename_i hl
        obtain ⟨j, hj, e⟩ := Option.map_eq_some_iff.mp h
        cases e
        simp only [asL_mono hz, hl, if_true, hj, Option.map_some]
      · cases h
    · cases h
  · cases h
/-! sums as read -/
theorem mulS (G : DG) (x : Int) {y : Int} (hy : y.natAbs < 2 ^ 64) : pyMul G (.int x) (.int y) = some (.int (x * y)) := by
  show (if mulOk x y = true then _ else _) = _
  rw [if_pos (by unfold mulOk; simp only [Bool.or_eq_true, decide_eq_true_eq]; exact .inl (.inr hy))]
theorem mulW (G : DG) {x y : Int} (hx : x.natAbs < 2 ^ 600) (hy : y.natAbs < 2 ^ 600) : pyMul G (.int x) (.int y) = some (.int (x * y)) := by
  show (if mulOk x y = true then _ else _) = _
  rw [if_pos (by unfold mulOk; simp only [Bool.or_eq_true, Bool.and_eq_true, decide_eq_true_eq]; exact .inr ⟨hx, hy⟩)]
theorem modP (G : DG) (x : Int) {y : Int} (hy : 0 < y) : pyMod G (.int x) (.int y) = some (.int (x % y)) := by
  show (if 0 < y then _ else _) = _
  rw [if_pos hy]
theorem divP (G : DG) (x : Int) {y : Int} (hy : 0 < y) (h2 : y < 2 ^ 600) : pyDiv G (.int x) (.int y) = some (.int (x / y)) := by
  show (if 0 < y ∧ y < 2 ^ 600 then _ else _) = _
  rw [if_pos ⟨hy, h2⟩]
theorem bits_lt {x : Int} {n : Nat} (h0 : 0 ≤ x) (h : x < 2 ^ n) : x.natAbs < 2 ^ n := by
  have : (x.natAbs : Int) < ((2 ^ n : Nat) : Int) := by
    rw [Int.natAbs_of_nonneg h0]
    simpa using h
  exact Int.ofNat_lt.mp this
theorem pow_600 {m : Nat} (h : m ≤ 600) {x : Nat} (hx : x < 2 ^ m) : x < 2 ^ 600 := Nat.lt_of_lt_of_le hx (Nat.pow_le_pow_right (by decide) h)
end DL

namespace DL
open PySem PySem.Spec PyProof.Rows L2
/-! ### from the head -/
def tabS (l : List (String × String)) : List (String × D) := l.map fun p => (p.1, .str p.2)
def tabV (l : List (String × String)) : List (Str × He.Dv) := l.map fun p => (S p.1, .str (S p.2))
theorem lookup_tabS (z : String) : ∀ l : List (String × String), (tabS l).lookup z = (l.lookup z).map .str
  | [] => rfl
  | (k, v) :: r => by
    simp only [tabS, List.map_cons, List.lookup_cons]
    cases h : (z == k) with
    | true => rfl
    | false => exact lookup_tabS z r
theorem lookup_mem' {z v : String} : ∀ {l : List (String × String)}, l.lookup z = some v → (z, v) ∈ l
  | [], h => by cases h
  | (k, u) :: r, h => by
    rw [List.lookup_cons] at h
    cases q : (z == k) with
    | true =>
      rw [q] at h
      cases h
      have : z = k := by simpa using q
      rw [this]
      exact List.mem_cons_self
    | false =>
      rw [q] at h
      exact List.mem_cons_of_mem _ (lookup_mem' h)
theorem keys_none {P : Params} {z : String} : ∀ {es : List DictEntry} {l : List (String × String)}, es.map He.keyOf = He.keysIn P (l.map fun p => S p.1) → l.lookup z = none → (es.find? fun e => e.key.isStr (S z)) = none ∧ (es.any fun e => e.refKey) = false
  | [], l, _, _ => ⟨rfl, rfl⟩
  | e :: es, [], h, _ => by cases h
  | e :: es, (k, v) :: r, h, hz => by
    have h1 : He.keyOf e :: es.map He.keyOf = some (S k, PyData.keyHash P (S k)) :: He.keysIn P (r.map fun p => S p.1) := h
    injection h1 with h2 h3
    rw [List.lookup_cons] at hz
    have hk : (z == k) = false := by
      cases q : (z == k) with
      | true => rw [q] at hz; cases hz
      | false => rfl
    rw [hk] at hz
    obtain ⟨i1, i2⟩ := keys_none h3 hz
    unfold He.keyOf at h2
    split at h2
    · rename_i x t q
      obtain ⟨ex, _⟩ := Prod.mk.inj (Option.some.inj h2)
      have b : e.key.isStr (S z) = false := by
        rw [q]
        show (x == S z) = false
        rw [ex, S_beq]
        cases w : (k == z) with
        | true => have : k = z := by simpa using w
                  rw [this] at hk; simp at hk
        | false => rfl
      refine ⟨?_, ?_⟩
      · rw [List.find?_cons, b]
        exact i1
      · rw [List.any_cons, i2]
        unfold DictEntry.refKey
        rw [q]
        rfl
    · cases h2
theorem ktab_of {K : PySem.W.Frag} {w : World} {mg : Str → Option Value} {x : String} {l : List (String × String)} (hmg : mg (S x) = some (.ref (He.ga K (S x)))) (hd : He.dicW K (He.ga K (S x)) = some (He.keysIn w.params (l.map fun p => S p.1))) (hv : He.valsB K (He.ga K (S x)) (tabV l) = true) : KTab K w mg x (tabS l) := by
  refine ⟨hmg, He.dicW_ok hd, fun z => ?_⟩
  rw [lookup_tabS]
  cases q : l.lookup z with
  | none =>
    left
    refine ⟨?_, rfl⟩
    unfold He.dicW at hd
    unfold PySem.W.nsIn
    split at hd
    · rename_i c es n sl hk
      split at hd
      · have hd' := Option.some.inj hd
        obtain ⟨h1, h2⟩ := keys_none hd' q
        rw [hk]
        simp only [h1, h2, Bool.false_eq_true, if_false]
      · cases hd
    · cases hd
  | some v =>
    right
    have hm : (S z, He.Dv.str (S v)) ∈ tabV l := List.mem_map.mpr ⟨(z, v), lookup_mem' q, rfl⟩
    obtain ⟨u, hu, ru⟩ := He.valsB_ok hv hm
    exact ⟨u, .str (S v), .str v, hu, rfl, ru, fun _ _ => rfl⟩
theorem says_tab {fa : List He.Fa} {fn : List He.DefD} {ts : List He.Tab} {w : World} {K : PySem.W.Frag} (c : He.SaysT fa fn ts w K) (i : Nat) {t : He.Tab} (h : ts[i]? = some t := by rfl) : He.dicW K (t.1 K) = some (He.keysIn w.params t.2) := by
  have e : ts.map (fun t => He.dicW K (t.1 K)) = ts.map fun t => some (He.keysIn w.params t.2) := congrArg (fun z : He.AlT => z.2) c
  have e1 := congrArg (fun l => l[i]?) e
  simp only [List.getElem?_map, h, Option.map_some, Option.some.injEq] at e1
  exact e1
end DL

open PySem in
theorem DL.bootVE : bootBuiltins "ValueError" = some (.type "ValueError") := by decide +kernel
namespace K29
open PySem PySem.Spec PyProof.Rows L2 LamX HotX L2H DL
def top (i : Nat) : Stmt := PySem.Challenge.pw_cageworks_k29_texts_refused.main.body.getD i (.Pass ⟨0, 0, 0, 0⟩)
abbrev s_is_whole : Stmt := top 19
abbrev s_is_number : Stmt := top 20
abbrev s_is_word : Stmt := top 21
abbrev s_is_part : Stmt := top 22
abbrev s_is_instruction : Stmt := top 23
abbrev s_is_program : Stmt := top 24
abbrev s_is_row : Stmt := top 27
abbrev s_is_rights : Stmt := top 28
abbrev s_need_rights : Stmt := top 29
abbrev s_number_in : Stmt := top 33
abbrev s_row_in : Stmt := top 34
abbrev s_read_program : Stmt := top 35
abbrev s_rights_text : Stmt := top 36
abbrev s_read_rights : Stmt := top 37
abbrev s__law_cell : Stmt := top 39
abbrev s__law_drawn : Stmt := top 40
abbrev s__law_roll : Stmt := top 41
abbrev s__law_rounds : Stmt := top 42
abbrev s__law_term : Stmt := top 43
abbrev s__law_told : Stmt := top 44
abbrev s_law : Stmt := top 45
def lst_FORMS : List (String × String) := [("set", "rn"), ("copy", "rr"), ("add", "rr"), ("take", "rr"), ("less", "rr"), ("go", "g"), ("zero", "rg"), ("read", "rr"), ("write", "rr"), ("ask", "rw"), ("tell", "rw"), ("look", "rrw"), ("mark", "rrw"), ("end", "")]
def tab_FORMS : List (String × D) := tabS lst_FORMS
structure Fx (P : Program) (w : World) (K : PySem.W.Frag) (T : LT) (mg : Str → Option Value) (base : Heap) : Prop where
  free : ∀ x ∈ ["ValueError", "all", "bool", "int", "isinstance", "len", "max", "min", "range", "str", "sum", "tuple", "zip"], mg (Str.ofString x) = none
  gi_FARTHEST : ∃ t, mg "FARTHEST" = some (.int 999 t)
  gi_MOST_ROOM : ∃ t, mg "MOST_ROOM" = some (.int 60 t)
  gs_FIGURES : ∃ t, mg "FIGURES" = some (.str (Str.ofString "0123456789") t)
  gs_SIGNS : ∃ t, mg "SIGNS" = some (.str (Str.ofString "?!<>") t)
  gs_SMALL : ∃ t, mg "SMALL" = some (.str (Str.ofString "abcdefghijklmnopqrstuvwxyz") t)
  kt_FORMS : KTab K w mg "FORMS" tab_FORMS
  xc_BadRights : XcK K mg "BadRights"
  xc_BadText : XcK K mg "BadText"
  fd_is_whole : ∃ fd, FunD K "is_whole" "is_whole" (defArgs s_is_whole) (defBody s_is_whole) (defScope s_is_whole) [] [] (He.ga K "is_whole") fd
  mg_is_whole : mg "is_whole" = some (.ref (He.ga K "is_whole"))
  fd_is_number : ∃ fd, FunD K "is_number" "is_number" (defArgs s_is_number) (defBody s_is_number) (defScope s_is_number) [] [] (He.ga K "is_number") fd
  mg_is_number : mg "is_number" = some (.ref (He.ga K "is_number"))
  fd_is_word : ∃ fd, FunD K "is_word" "is_word" (defArgs s_is_word) (defBody s_is_word) (defScope s_is_word) [] [] (He.ga K "is_word") fd
  mg_is_word : mg "is_word" = some (.ref (He.ga K "is_word"))
  fd_is_part : ∃ fd, FunD K "is_part" "is_part" (defArgs s_is_part) (defBody s_is_part) (defScope s_is_part) [] [] (He.ga K "is_part") fd
  mg_is_part : mg "is_part" = some (.ref (He.ga K "is_part"))
  fd_is_instruction : ∃ fd, FunD K "is_instruction" "is_instruction" (defArgs s_is_instruction) (defBody s_is_instruction) (defScope s_is_instruction) [] [] (He.ga K "is_instruction") fd
  mg_is_instruction : mg "is_instruction" = some (.ref (He.ga K "is_instruction"))
  fd_is_program : ∃ fd, FunD K "is_program" "is_program" (defArgs s_is_program) (defBody s_is_program) (defScope s_is_program) [] [] (He.ga K "is_program") fd
  mg_is_program : mg "is_program" = some (.ref (He.ga K "is_program"))
  fd_is_row : ∃ fd, FunD K "is_row" "is_row" (defArgs s_is_row) (defBody s_is_row) (defScope s_is_row) [] [] (He.ga K "is_row") fd
  mg_is_row : mg "is_row" = some (.ref (He.ga K "is_row"))
  fd_is_rights : ∃ fd, FunD K "is_rights" "is_rights" (defArgs s_is_rights) (defBody s_is_rights) (defScope s_is_rights) [] [] (He.ga K "is_rights") fd
  mg_is_rights : mg "is_rights" = some (.ref (He.ga K "is_rights"))
  fd_need_rights : ∃ fd, FunD K "need_rights" "need_rights" (defArgs s_need_rights) (defBody s_need_rights) (defScope s_need_rights) [] [] (He.ga K "need_rights") fd
  mg_need_rights : mg "need_rights" = some (.ref (He.ga K "need_rights"))
  fd_number_in : ∃ fd, FunD K "number_in" "number_in" (defArgs s_number_in) (defBody s_number_in) (defScope s_number_in) [] [] (He.ga K "number_in") fd
  mg_number_in : mg "number_in" = some (.ref (He.ga K "number_in"))
  fd_row_in : ∃ fd, FunD K "row_in" "row_in" (defArgs s_row_in) (defBody s_row_in) (defScope s_row_in) [] [] (He.ga K "row_in") fd
  mg_row_in : mg "row_in" = some (.ref (He.ga K "row_in"))
  fd_read_program : ∃ fd, FunD K "read_program" "read_program" (defArgs s_read_program) (defBody s_read_program) (defScope s_read_program) [] [] (He.ga K "read_program") fd
  mg_read_program : mg "read_program" = some (.ref (He.ga K "read_program"))
  fd_rights_text : ∃ fd, FunD K "rights_text" "rights_text" (defArgs s_rights_text) (defBody s_rights_text) (defScope s_rights_text) [] [] (He.ga K "rights_text") fd
  mg_rights_text : mg "rights_text" = some (.ref (He.ga K "rights_text"))
  fd_read_rights : ∃ fd, FunD K "read_rights" "read_rights" (defArgs s_read_rights) (defBody s_read_rights) (defScope s_read_rights) [] [] (He.ga K "read_rights") fd
  mg_read_rights : mg "read_rights" = some (.ref (He.ga K "read_rights"))
  fd__law_cell : ∃ fd, FunD K "_law_cell" "_law_cell" (defArgs s__law_cell) (defBody s__law_cell) (defScope s__law_cell) [] [] (He.ga K "_law_cell") fd
  mg__law_cell : mg "_law_cell" = some (.ref (He.ga K "_law_cell"))
  fd__law_drawn : ∃ fd, FunD K "_law_drawn" "_law_drawn" (defArgs s__law_drawn) (defBody s__law_drawn) (defScope s__law_drawn) [] [] (He.ga K "_law_drawn") fd
  mg__law_drawn : mg "_law_drawn" = some (.ref (He.ga K "_law_drawn"))
  fd__law_roll : ∃ fd, FunD K "_law_roll" "_law_roll" (defArgs s__law_roll) (defBody s__law_roll) (defScope s__law_roll) [] [] (He.ga K "_law_roll") fd
  mg__law_roll : mg "_law_roll" = some (.ref (He.ga K "_law_roll"))
  fd__law_rounds : ∃ fd, FunD K "_law_rounds" "_law_rounds" (defArgs s__law_rounds) (defBody s__law_rounds) (defScope s__law_rounds) [] [] (He.ga K "_law_rounds") fd
  mg__law_rounds : mg "_law_rounds" = some (.ref (He.ga K "_law_rounds"))
  fd__law_term : ∃ fd, FunD K "_law_term" "_law_term" (defArgs s__law_term) (defBody s__law_term) (defScope s__law_term) [] [] (He.ga K "_law_term") fd
  mg__law_term : mg "_law_term" = some (.ref (He.ga K "_law_term"))
  fd_law : ∃ fd, FunD K "law" "law" (defArgs s_law) (defBody s_law) (defScope s_law) [] [] (He.ga K "law") fd
  mg_law : mg "law" = some (.ref (He.ga K "law"))
  fd__law_told : ∃ fd, FunD K "_law_told" "_law_told" (defArgs s__law_told) (defBody s__law_told) (defScope s__law_told) [] [] (He.ga K "_law_told") fd
  mg__law_told : mg "_law_told" = some (.ref (He.ga K "_law_told"))
  told : ToldK K
  mgC : ∀ c ∈ kinds13 ++ ["CageError"], mg (Str.ofString c) = some (.ref (He.ga K (S c)))
  lamt : ∃ P, TabB base mg (He.codeOf K ("law", none)) P ∧ T = [(P, Str.ofString "law.<locals>.<lambda>")]
section
variable {P : Program} {w : World} {K : PySem.W.Frag} {T : LT} {mg : Str → Option Value} {base : Heap}
def t_is_whole : DTS := (sRet (dAndV (dUn (pyIsi "int") (dVar 0)) (dAndV (dNotV (dUn (pyIsi "bool") (dVar 0))) (dChain pyLe pyLe (dVar 1) (dVar 0) (dVar 2)))))
abbrev sp_is_whole : DSp := spOf ["thing", "low", "high"] 3 t_is_whole
def e_is_whole : List D → Option (Except DX D) := fnE ["thing", "low", "high"] 3 (xRet (eAndV (eUn (pyIsi "int") (eVar 0)) (eAndV (eNotV (eUn (pyIsi "bool") (eVar 0))) (eChain pyLe pyLe (eVar 1) (eVar 0) (eVar 2)))))
theorem ev_is_whole : EvF sp_is_whole e_is_whole := evf (xv_ret (ev_andV (ev_un m_isi (ev_var 0)) (ev_andV (ev_notV (ev_un m_isi (ev_var 0))) (ev_chain m_le m_le (ev_var 1) (ev_var 0) (ev_var 2)))))
theorem sc_is_whole : FnScope ["thing", "low", "high"] ["thing", "low", "high"] (defScope s_is_whole) := ⟨rfl, rfl, rfl, by decide +kernel, rfl, by decide +kernel, by decide +kernel⟩
theorem is_whole_ok (fx : Fx P w K T mg base) : DFn P w K T mg base 1 "is_whole" ["thing", "low", "high"] sp_is_whole :=
  dfnk_of fx.fd_is_whole fx.mg_is_whole sc_is_whole (fun _ _ _ _ _ _ us hl => match us, hl with | [_, _, _], _ => rfl) (fun cdv A outer s H E hcd hr => (qs_one (qs_ret (q_and (q_isi rfl (fx.free "isinstance" (by decide)) rfl (fx.free "int" (by decide)) boot_int (qv 0)) (q_and (q_not (q_isi rfl (fx.free "isinstance" (by decide)) rfl (fx.free "bool" (by decide)) boot_bool (qv 0))) (q_one (q_chain op_pyLe op_pyLe (qv 1) (qv 0) (qv 2))))))))
def t_is_number : DTS := (sRet (dCall sp_is_whole (dCons (dVar 0) (dCons (dUn pyNeg (dC (.int 999))) (dCons (dC (.int 999)) dNil)))))
abbrev sp_is_number : DSp := spOf ["thing"] 1 t_is_number
def e_is_number : List D → Option (Except DX D) := fnE ["thing"] 1 (xRet (eCall e_is_whole (eCons (eVar 0) (eCons (eUn pyNeg (eC (.int 999))) (eCons (eC (.int 999)) (eC []))))))
theorem ev_is_number : EvF sp_is_number e_is_number := evf (xv_ret (ev_call ev_is_whole (ev_cons (ev_var 0) (ev_cons (ev_un m_neg (ev_c _)) (ev_cons (ev_c _) (ev_nil))))))
theorem sc_is_number : FnScope ["thing"] ["thing"] (defScope s_is_number) := ⟨rfl, rfl, rfl, by decide +kernel, rfl, by decide +kernel, by decide +kernel⟩
theorem is_number_ok (fx : Fx P w K T mg base) : DFn P w K T mg base 2 "is_number" ["thing"] sp_is_number :=
  dfnk_of fx.fd_is_number fx.mg_is_number sc_is_number (fun _ _ _ _ _ _ us hl => match us, hl with | [_], _ => rfl) (fun cdv A outer s H E hcd hr => (qs_one (qs_ret (q_call (is_whole_ok fx) hr (by decide) (L2N.takes_of rfl rfl rfl rfl) rfl (qa_cons (qv 0) (qa_cons (q_un un_pyNeg (q_gint rfl fx.gi_FARTHEST)) (qa_cons (q_gint rfl fx.gi_FARTHEST) qa_nil)))))))
def t_is_word : DTS := (sRet (dAndV (dUn (pyIsi "str") (dVar 0)) (dAndV (dChain pyLe pyLe (dC (.int 1)) (dB pyLen (dCons (dVar 0) dNil)) (dC (.int 8))) (dB pyAll (dCons (dLc (dIter (dVar 0)) (.n 1) dYes (dOp pyIn (dVar 1) (dC (.str "abcdefghijklmnopqrstuvwxyz"))) [1]) dNil)))))
abbrev sp_is_word : DSp := spOf ["thing", "sign"] 1 t_is_word
def e_is_word : List D → Option (Except DX D) := fnE ["thing", "sign"] 1 (xRet (eAndV (eUn (pyIsi "str") (eVar 0)) (eAndV (eChain pyLe pyLe (eC (.int 1)) (eB pyLen (eCons (eVar 0) (eC []))) (eC (.int 8))) (eB pyAll (eCons (eLc (eIter (eVar 0)) (.n 1) (eC true) (eOp pyIn (eVar 1) (eC (.str "abcdefghijklmnopqrstuvwxyz"))) [1]) (eC []))))))
theorem ev_is_word : EvF sp_is_word e_is_word := evf (xv_ret (ev_andV (ev_un m_isi (ev_var 0)) (ev_andV (ev_chain m_le m_le (ev_c _) (ev_b m_len (ev_cons (ev_var 0) (ev_nil))) (ev_c _)) (ev_b m_all (ev_cons (ev_lc (ev_iter (ev_var 0)) (ev_yes) (ev_op m_in (ev_var 1) (ev_c _))) (ev_nil))))))
theorem sc_is_word : FnScope ["thing", "sign"] ["thing"] (defScope s_is_word) := ⟨rfl, rfl, rfl, by decide +kernel, rfl, by decide +kernel, by decide +kernel⟩
theorem is_word_ok (fx : Fx P w K T mg base) : DFn P w K T mg base 1 "is_word" ["thing"] sp_is_word :=
  dfnk_of fx.fd_is_word fx.mg_is_word sc_is_word (fun _ _ _ _ _ _ us hl => match us, hl with | [_], _ => rfl) (fun cdv A outer s H E hcd hr => (qs_one (qs_ret (q_and (q_isi rfl (fx.free "isinstance" (by decide)) rfl (fx.free "str" (by decide)) boot_str (qv 0)) (q_and (q_chain op_pyLe op_pyLe (q_int) (q_callB call_pyLen rfl (fx.free "len" (by decide)) boot_len (qa_cons (qv 0) qa_nil)) (q_int)) (q_one (q_callB (call_pyAll rfl) rfl (fx.free "all" (by decide)) boot_all (qa_cons (q_lc [("sign", 1)] rfl sc_is_word.nd (qi_it (qv 0)) (blkOk_by (by kernel_rfl)) rfl (fun s H C cl fp => (pg_name sc_is_word.nd rfl (by first | exact Or.inl rfl | exact Or.inr rfl))) (fun s H C cl fp => qts_nil) (fun s H C cl fp => (q_cmp (op_pyIn (hu_of hr)) (qv 1) (q_gstr rfl fx.gs_SMALL) rfl))) qa_nil))))))))
def t_is_part : DTS := (sSeq (sIf (dTest (dOp pyEq (dVar 0) (dC (.str "r")))) (sRet (dCall sp_is_whole (dCons (dVar 1) (dCons (dC (.int 0)) (dCons (dC (.int 3)) dNil))))) sNext) (sSeq (sIf (dTest (dOp pyEq (dVar 0) (dC (.str "n")))) (sRet (dCall sp_is_number (dCons (dVar 1) dNil))) sNext) (sRet (dIf (dTest (dOp pyEq (dVar 0) (dC (.str "g")))) (dCall sp_is_whole (dCons (dVar 1) (dCons (dC (.int 0)) (dCons (dC (.int 99)) dNil)))) (dCall sp_is_word (dCons (dVar 1) dNil))))))
abbrev sp_is_part : DSp := spOf ["sort", "thing"] 2 t_is_part
def e_is_part : List D → Option (Except DX D) := fnE ["sort", "thing"] 2 (xSeq (xIf (eTest (eOp pyEq (eVar 0) (eC (.str "r")))) (xRet (eCall e_is_whole (eCons (eVar 1) (eCons (eC (.int 0)) (eCons (eC (.int 3)) (eC [])))))) (xNext)) (xSeq (xIf (eTest (eOp pyEq (eVar 0) (eC (.str "n")))) (xRet (eCall e_is_number (eCons (eVar 1) (eC [])))) (xNext)) (xRet (eIf (eTest (eOp pyEq (eVar 0) (eC (.str "g")))) (eCall e_is_whole (eCons (eVar 1) (eCons (eC (.int 0)) (eCons (eC (.int 99)) (eC []))))) (eCall e_is_word (eCons (eVar 1) (eC [])))))))
theorem ev_is_part : EvF sp_is_part e_is_part := evf (xv_seq (xv_if (ev_test (ev_op m_eq (ev_var 0) (ev_c _))) (xv_ret (ev_call ev_is_whole (ev_cons (ev_var 1) (ev_cons (ev_c _) (ev_cons (ev_c _) (ev_nil)))))) (xv_next)) (xv_seq (xv_if (ev_test (ev_op m_eq (ev_var 0) (ev_c _))) (xv_ret (ev_call ev_is_number (ev_cons (ev_var 1) (ev_nil)))) (xv_next)) (xv_ret (ev_if (ev_test (ev_op m_eq (ev_var 0) (ev_c _))) (ev_call ev_is_whole (ev_cons (ev_var 1) (ev_cons (ev_c _) (ev_cons (ev_c _) (ev_nil))))) (ev_call ev_is_word (ev_cons (ev_var 1) (ev_nil)))))))
theorem sc_is_part : FnScope ["sort", "thing"] ["sort", "thing"] (defScope s_is_part) := ⟨rfl, rfl, rfl, by decide +kernel, rfl, by decide +kernel, by decide +kernel⟩
theorem is_part_ok (fx : Fx P w K T mg base) : DFn P w K T mg base 3 "is_part" ["sort", "thing"] sp_is_part :=
  dfnk_of fx.fd_is_part fx.mg_is_part sc_is_part (fun _ _ _ _ _ _ us hl => match us, hl with | [_, _], _ => rfl) (fun cdv A outer s H E hcd hr => (qs_cons (qs_if (q_cmpT (op_pyEq hr.units) (qv 0) (q_str) (nomark _)) (qs_one (qs_ret (q_call (is_whole_ok fx) hr (by decide) (L2N.takes_of rfl rfl rfl rfl) rfl (qa_cons (qv 1) (qa_cons (q_int) (qa_cons (q_int) qa_nil)))))) qs_nil) (qs_cons (qs_if (q_cmpT (op_pyEq hr.units) (qv 0) (q_str) (nomark _)) (qs_one (qs_ret (q_call (is_number_ok fx) hr (by decide) (L2N.takes_of rfl rfl rfl rfl) rfl (qa_cons (qv 1) qa_nil)))) qs_nil) (qs_one (qs_ret (q_if (q_cmpT (op_pyEq hr.units) (qv 0) (q_str) (nomark _)) (q_call (is_whole_ok fx) hr (by decide) (L2N.takes_of rfl rfl rfl rfl) rfl (qa_cons (qv 1) (qa_cons (q_int) (qa_cons (q_int) qa_nil)))) (q_call (is_word_ok fx) hr (by decide) (L2N.takes_of rfl rfl rfl rfl) rfl (qa_cons (qv 1) qa_nil))))))))
def t_is_instruction : DTS := (sSeq (sIf (dOr (dNot (dTest (dUn (pyIsi "tuple") (dVar 0)))) (dOr (dTest (dOp pyEq (dVar 0) (dTup dNil))) (dOr (dNot (dTest (dUn (pyIsi "str") (dOp pyItem (dVar 0) (dC (.int 0)))))) (dTest (dUn (kNotIn tab_FORMS) (dOp pyItem (dVar 0) (dC (.int 0)))))))) (sRet (dC (.bl false))) sNext) (sSeq (sSet 1 (dUn (kItem tab_FORMS) (dOp pyItem (dVar 0) (dC (.int 0))))) (sRet (dAndV (dOp pyEq (dB pyLen (dCons (dVar 0) dNil)) (dOp pyAdd (dB pyLen (dCons (dVar 1) dNil)) (dC (.int 1)))) (dB pyAll (dCons (dLc (dZip (dCons (dVar 1) (dCons (dSlice (dVar 0) (dPart (dC (.int 1))) dNoPart) dNil))) (.t [2, 3]) dYes (dCall sp_is_part (dCons (dVar 2) (dCons (dVar 3) dNil))) [2, 3]) dNil))))))
abbrev sp_is_instruction : DSp := spOf ["thing", "sorts", "sort", "part"] 1 t_is_instruction
def e_is_instruction : List D → Option (Except DX D) := fnE ["thing", "sorts", "sort", "part"] 1 (xSeq (xIf (eOr (eNot (eTest (eUn (pyIsi "tuple") (eVar 0)))) (eOr (eTest (eOp pyEq (eVar 0) (eTup (eC [])))) (eOr (eNot (eTest (eUn (pyIsi "str") (eOp pyItem (eVar 0) (eC (.int 0)))))) (eTest (eUn (kNotIn tab_FORMS) (eOp pyItem (eVar 0) (eC (.int 0)))))))) (xRet (eC (.bl false))) (xNext)) (xSeq (xSet 1 (eUn (kItem tab_FORMS) (eOp pyItem (eVar 0) (eC (.int 0))))) (xRet (eAndV (eOp pyEq (eB pyLen (eCons (eVar 0) (eC []))) (eOp pyAdd (eB pyLen (eCons (eVar 1) (eC []))) (eC (.int 1)))) (eB pyAll (eCons (eLc (eZip (eCons (eVar 1) (eCons (eSlice (eVar 0) (ePart (eC (.int 1))) (eC none)) (eC [])))) (.t [2, 3]) (eC true) (eCall e_is_part (eCons (eVar 2) (eCons (eVar 3) (eC [])))) [2, 3]) (eC [])))))))
theorem ev_is_instruction : EvF sp_is_instruction e_is_instruction := evf (xv_seq (xv_if (ev_or (ev_not (ev_test (ev_un m_isi (ev_var 0)))) (ev_or (ev_test (ev_op m_eq (ev_var 0) (ev_tup (ev_nil)))) (ev_or (ev_not (ev_test (ev_un m_isi (ev_op m_item (ev_var 0) (ev_c _))))) (ev_test (ev_un m_knotin (ev_op m_item (ev_var 0) (ev_c _))))))) (xv_ret (ev_c _)) (xv_next)) (xv_seq (xv_set (ev_un m_kitem (ev_op m_item (ev_var 0) (ev_c _)))) (xv_ret (ev_andV (ev_op m_eq (ev_b m_len (ev_cons (ev_var 0) (ev_nil))) (ev_op m_add (ev_b m_len (ev_cons (ev_var 1) (ev_nil))) (ev_c _))) (ev_b m_all (ev_cons (ev_lc (ev_zip (ev_cons (ev_var 1) (ev_cons (ev_slice (ev_var 0) (ev_part (ev_c _)) (ev_noPart)) (ev_nil)))) (ev_yes) (ev_call ev_is_part (ev_cons (ev_var 2) (ev_cons (ev_var 3) (ev_nil))))) (ev_nil)))))))
theorem sc_is_instruction : FnScope ["thing", "sorts", "sort", "part"] ["thing"] (defScope s_is_instruction) := ⟨rfl, rfl, rfl, by decide +kernel, rfl, by decide +kernel, by decide +kernel⟩
theorem is_instruction_ok (fx : Fx P w K T mg base) : DFn P w K T mg base 4 "is_instruction" ["thing"] sp_is_instruction :=
  dfnk_of fx.fd_is_instruction fx.mg_is_instruction sc_is_instruction (fun _ _ _ _ _ _ us hl => match us, hl with | [_], _ => rfl) (fun cdv A outer s H E hcd hr => (qs_cons (qs_if (qt_w (qw_or (qt_not (qt_val (q_isi rfl (fx.free "isinstance" (by decide)) rfl (fx.free "tuple" (by decide)) boot_tuple (qv 0)))) (qw_or (q_cmpT (op_pyEq hr.units) (qv 0) (q_tup qa_nil) (nomark _)) (qw_or (qt_not (qt_val (q_isi rfl (fx.free "isinstance" (by decide)) rfl (fx.free "str" (by decide)) boot_str (q_item (hu_of hr) (qv 0) (q_int))))) (qw_or1 (q_knotinT fx.kt_FORMS rfl (q_item (hu_of hr) (qv 0) (q_int)))))))) (qs_one (qs_ret (q_bl))) qs_nil) (qs_cons (qs_set sc_is_instruction.nd rfl (by first | exact Or.inl rfl | exact Or.inr rfl) (q_kitem fx.kt_FORMS rfl (q_item (hu_of hr) (qv 0) (q_int)))) (qs_one (qs_ret (q_and (q_cmp (op_pyEq hr.units) (q_callB call_pyLen rfl (fx.free "len" (by decide)) boot_len (qa_cons (qv 0) qa_nil)) (q_op op_pyAdd (q_callB call_pyLen rfl (fx.free "len" (by decide)) boot_len (qa_cons (qv 1) qa_nil)) (q_int)) (nomark _)) (q_one (q_callB (call_pyAll rfl) rfl (fx.free "all" (by decide)) boot_all (qa_cons (q_lc [("sort", 2), ("part", 3)] rfl sc_is_instruction.nd (qi_zip rfl (fx.free "zip" (by decide)) (qa_cons (qv 1) (qa_cons (q_slice (qv 0) (qo_some (q_int)) qo_none) qa_nil))) (blkOk_by (by kernel_rfl)) rfl (fun s H C cl fp => (pg_tup rfl (pgs_cons (pg_name sc_is_instruction.nd rfl (by first | exact Or.inl rfl | exact Or.inr rfl)) (pgs_cons (pg_name sc_is_instruction.nd rfl (by first | exact Or.inl rfl | exact Or.inr rfl)) pgs_nil)))) (fun s H C cl fp => qts_nil) (fun s H C cl fp => (q_call (is_part_ok fx) hr (by decide) takesF rfl (qa_cons (qv 2) (qa_cons (qv 3) qa_nil))))) qa_nil)))))))))
def t_is_program : DTS := (sRet (dAndV (dUn (pyIsi "tuple") (dVar 0)) (dAndV (dChain pyLe pyLe (dC (.int 1)) (dB pyLen (dCons (dVar 0) dNil)) (dC (.int 40))) (dB pyAll (dCons (dLc (dIter (dVar 0)) (.n 1) dYes (dCall sp_is_instruction (dCons (dVar 1) dNil)) [1]) dNil)))))
abbrev sp_is_program : DSp := spOf ["thing", "one"] 1 t_is_program
def e_is_program : List D → Option (Except DX D) := fnE ["thing", "one"] 1 (xRet (eAndV (eUn (pyIsi "tuple") (eVar 0)) (eAndV (eChain pyLe pyLe (eC (.int 1)) (eB pyLen (eCons (eVar 0) (eC []))) (eC (.int 40))) (eB pyAll (eCons (eLc (eIter (eVar 0)) (.n 1) (eC true) (eCall e_is_instruction (eCons (eVar 1) (eC []))) [1]) (eC []))))))
theorem ev_is_program : EvF sp_is_program e_is_program := evf (xv_ret (ev_andV (ev_un m_isi (ev_var 0)) (ev_andV (ev_chain m_le m_le (ev_c _) (ev_b m_len (ev_cons (ev_var 0) (ev_nil))) (ev_c _)) (ev_b m_all (ev_cons (ev_lc (ev_iter (ev_var 0)) (ev_yes) (ev_call ev_is_instruction (ev_cons (ev_var 1) (ev_nil)))) (ev_nil))))))
theorem sc_is_program : FnScope ["thing", "one"] ["thing"] (defScope s_is_program) := ⟨rfl, rfl, rfl, by decide +kernel, rfl, by decide +kernel, by decide +kernel⟩
theorem is_program_ok (fx : Fx P w K T mg base) : DFn P w K T mg base 5 "is_program" ["thing"] sp_is_program :=
  dfnk_of fx.fd_is_program fx.mg_is_program sc_is_program (fun _ _ _ _ _ _ us hl => match us, hl with | [_], _ => rfl) (fun cdv A outer s H E hcd hr => (qs_one (qs_ret (q_and (q_isi rfl (fx.free "isinstance" (by decide)) rfl (fx.free "tuple" (by decide)) boot_tuple (qv 0)) (q_and (q_chain op_pyLe op_pyLe (q_int) (q_callB call_pyLen rfl (fx.free "len" (by decide)) boot_len (qa_cons (qv 0) qa_nil)) (q_int)) (q_one (q_callB (call_pyAll rfl) rfl (fx.free "all" (by decide)) boot_all (qa_cons (q_lc [("one", 1)] rfl sc_is_program.nd (qi_it (qv 0)) (blkOk_by (by kernel_rfl)) rfl (fun s H C cl fp => (pg_name sc_is_program.nd rfl (by first | exact Or.inl rfl | exact Or.inr rfl))) (fun s H C cl fp => qts_nil) (fun s H C cl fp => (q_call (is_instruction_ok fx) hr (by decide) takesF rfl (qa_cons (qv 1) qa_nil)))) qa_nil))))))))
def t_is_row : DTS := (sSeq (sIf (dOr (dNot (dTest (dUn (pyIsi "tuple") (dVar 0)))) (dOr (dTest (dOp pyGt (dB pyLen (dCons (dVar 0) dNil)) (dC (.int 6)))) (dNot (dTest (dB pyAll (dCons (dLc (dIter (dVar 0)) (.n 1) dYes (dCall sp_is_word (dCons (dVar 1) dNil)) [1]) dNil)))))) (sRet (dC (.bl false))) sNext) (sRet (dB pyAll (dCons (dLc (dZip (dCons (dVar 0) (dCons (dSlice (dVar 0) (dPart (dC (.int 1))) dNoPart) dNil))) (.t [1, 2]) dYes (dOp pyLt (dVar 1) (dVar 2)) [1, 2]) dNil))))
abbrev sp_is_row : DSp := spOf ["thing", "one", "other"] 1 t_is_row
def e_is_row : List D → Option (Except DX D) := fnE ["thing", "one", "other"] 1 (xSeq (xIf (eOr (eNot (eTest (eUn (pyIsi "tuple") (eVar 0)))) (eOr (eTest (eOp pyGt (eB pyLen (eCons (eVar 0) (eC []))) (eC (.int 6)))) (eNot (eTest (eB pyAll (eCons (eLc (eIter (eVar 0)) (.n 1) (eC true) (eCall e_is_word (eCons (eVar 1) (eC []))) [1]) (eC []))))))) (xRet (eC (.bl false))) (xNext)) (xRet (eB pyAll (eCons (eLc (eZip (eCons (eVar 0) (eCons (eSlice (eVar 0) (ePart (eC (.int 1))) (eC none)) (eC [])))) (.t [1, 2]) (eC true) (eOp pyLt (eVar 1) (eVar 2)) [1, 2]) (eC [])))))
theorem ev_is_row : EvF sp_is_row e_is_row := evf (xv_seq (xv_if (ev_or (ev_not (ev_test (ev_un m_isi (ev_var 0)))) (ev_or (ev_test (ev_op m_gt (ev_b m_len (ev_cons (ev_var 0) (ev_nil))) (ev_c _))) (ev_not (ev_test (ev_b m_all (ev_cons (ev_lc (ev_iter (ev_var 0)) (ev_yes) (ev_call ev_is_word (ev_cons (ev_var 1) (ev_nil)))) (ev_nil))))))) (xv_ret (ev_c _)) (xv_next)) (xv_ret (ev_b m_all (ev_cons (ev_lc (ev_zip (ev_cons (ev_var 0) (ev_cons (ev_slice (ev_var 0) (ev_part (ev_c _)) (ev_noPart)) (ev_nil)))) (ev_yes) (ev_op m_lt (ev_var 1) (ev_var 2))) (ev_nil)))))
theorem sc_is_row : FnScope ["thing", "one", "other"] ["thing"] (defScope s_is_row) := ⟨rfl, rfl, rfl, by decide +kernel, rfl, by decide +kernel, by decide +kernel⟩
theorem is_row_ok (fx : Fx P w K T mg base) : DFn P w K T mg base 2 "is_row" ["thing"] sp_is_row :=
  dfnk_of fx.fd_is_row fx.mg_is_row sc_is_row (fun _ _ _ _ _ _ us hl => match us, hl with | [_], _ => rfl) (fun cdv A outer s H E hcd hr => (qs_cons (qs_if (qt_w (qw_or (qt_not (qt_val (q_isi rfl (fx.free "isinstance" (by decide)) rfl (fx.free "tuple" (by decide)) boot_tuple (qv 0)))) (qw_or (q_cmpT op_pyGt (q_callB call_pyLen rfl (fx.free "len" (by decide)) boot_len (qa_cons (qv 0) qa_nil)) (q_int) (nomark _)) (qw_or1 (qt_not (qt_val (q_callB (call_pyAll rfl) rfl (fx.free "all" (by decide)) boot_all (qa_cons (q_lc [("one", 1)] rfl sc_is_row.nd (qi_it (qv 0)) (blkOk_by (by kernel_rfl)) rfl (fun s H C cl fp => (pg_name sc_is_row.nd rfl (by first | exact Or.inl rfl | exact Or.inr rfl))) (fun s H C cl fp => qts_nil) (fun s H C cl fp => (q_call (is_word_ok fx) hr (by decide) takesF rfl (qa_cons (qv 1) qa_nil)))) qa_nil)))))))) (qs_one (qs_ret (q_bl))) qs_nil) (qs_one (qs_ret (q_callB (call_pyAll rfl) rfl (fx.free "all" (by decide)) boot_all (qa_cons (q_lc [("one", 1), ("other", 2)] rfl sc_is_row.nd (qi_zip rfl (fx.free "zip" (by decide)) (qa_cons (qv 0) (qa_cons (q_slice (qv 0) (qo_some (q_int)) qo_none) qa_nil))) (blkOk_by (by kernel_rfl)) rfl (fun s H C cl fp => (pg_tup rfl (pgs_cons (pg_name sc_is_row.nd rfl (by first | exact Or.inl rfl | exact Or.inr rfl)) (pgs_cons (pg_name sc_is_row.nd rfl (by first | exact Or.inl rfl | exact Or.inr rfl)) pgs_nil)))) (fun s H C cl fp => qts_nil) (fun s H C cl fp => (q_cmp op_pyLt (qv 1) (qv 2) (nomark _)))) qa_nil))))))
def t_is_rights : DTS := (sSeq (sIf (dOr (dNot (dTest (dUn (pyIsi "tuple") (dVar 0)))) (dOr (dTest (dOp pyNe (dB pyLen (dCons (dVar 0) dNil)) (dC (.int 5)))) (dNot (dTest (dCall sp_is_whole (dCons (dOp pyItem (dVar 0) (dC (.int 0))) (dCons (dC (.int 0)) (dCons (dC (.int 60)) dNil)))))))) (sRet (dC (.bl false))) sNext) (sRet (dB pyAll (dCons (dLc (dIter (dSlice (dVar 0) (dPart (dC (.int 1))) dNoPart)) (.n 1) dYes (dCall sp_is_row (dCons (dVar 1) dNil)) [1]) dNil))))
abbrev sp_is_rights : DSp := spOf ["thing", "row"] 1 t_is_rights
def e_is_rights : List D → Option (Except DX D) := fnE ["thing", "row"] 1 (xSeq (xIf (eOr (eNot (eTest (eUn (pyIsi "tuple") (eVar 0)))) (eOr (eTest (eOp pyNe (eB pyLen (eCons (eVar 0) (eC []))) (eC (.int 5)))) (eNot (eTest (eCall e_is_whole (eCons (eOp pyItem (eVar 0) (eC (.int 0))) (eCons (eC (.int 0)) (eCons (eC (.int 60)) (eC []))))))))) (xRet (eC (.bl false))) (xNext)) (xRet (eB pyAll (eCons (eLc (eIter (eSlice (eVar 0) (ePart (eC (.int 1))) (eC none))) (.n 1) (eC true) (eCall e_is_row (eCons (eVar 1) (eC []))) [1]) (eC [])))))
theorem ev_is_rights : EvF sp_is_rights e_is_rights := evf (xv_seq (xv_if (ev_or (ev_not (ev_test (ev_un m_isi (ev_var 0)))) (ev_or (ev_test (ev_op m_ne (ev_b m_len (ev_cons (ev_var 0) (ev_nil))) (ev_c _))) (ev_not (ev_test (ev_call ev_is_whole (ev_cons (ev_op m_item (ev_var 0) (ev_c _)) (ev_cons (ev_c _) (ev_cons (ev_c _) (ev_nil))))))))) (xv_ret (ev_c _)) (xv_next)) (xv_ret (ev_b m_all (ev_cons (ev_lc (ev_iter (ev_slice (ev_var 0) (ev_part (ev_c _)) (ev_noPart))) (ev_yes) (ev_call ev_is_row (ev_cons (ev_var 1) (ev_nil)))) (ev_nil)))))
theorem sc_is_rights : FnScope ["thing", "row"] ["thing"] (defScope s_is_rights) := ⟨rfl, rfl, rfl, by decide +kernel, rfl, by decide +kernel, by decide +kernel⟩
theorem is_rights_ok (fx : Fx P w K T mg base) : DFn P w K T mg base 3 "is_rights" ["thing"] sp_is_rights :=
  dfnk_of fx.fd_is_rights fx.mg_is_rights sc_is_rights (fun _ _ _ _ _ _ us hl => match us, hl with | [_], _ => rfl) (fun cdv A outer s H E hcd hr => (qs_cons (qs_if (qt_w (qw_or (qt_not (qt_val (q_isi rfl (fx.free "isinstance" (by decide)) rfl (fx.free "tuple" (by decide)) boot_tuple (qv 0)))) (qw_or (q_cmpT (op_pyNe hr.units) (q_callB call_pyLen rfl (fx.free "len" (by decide)) boot_len (qa_cons (qv 0) qa_nil)) (q_int) (nomark _)) (qw_or1 (qt_not (qt_val (q_call (is_whole_ok fx) hr (by decide) (L2N.takes_of rfl rfl rfl rfl) rfl (qa_cons (q_item (hu_of hr) (qv 0) (q_int)) (qa_cons (q_int) (qa_cons (q_gint rfl fx.gi_MOST_ROOM) qa_nil)))))))))) (qs_one (qs_ret (q_bl))) qs_nil) (qs_one (qs_ret (q_callB (call_pyAll rfl) rfl (fx.free "all" (by decide)) boot_all (qa_cons (q_lc [("row", 1)] rfl sc_is_rights.nd (qi_it (q_slice (qv 0) (qo_some (q_int)) qo_none)) (blkOk_by (by kernel_rfl)) rfl (fun s H C cl fp => (pg_name sc_is_rights.nd rfl (by first | exact Or.inl rfl | exact Or.inr rfl))) (fun s H C cl fp => qts_nil) (fun s H C cl fp => (q_call (is_row_ok fx) hr (by decide) takesF rfl (qa_cons (qv 1) qa_nil)))) qa_nil))))))
def t_need_rights : DTS := (sIf (dNot (dTest (dCall sp_is_rights (dCons (dVar 0) dNil)))) (sRaise "BadRights") sNext)
abbrev sp_need_rights : DSp := spOf ["thing"] 1 t_need_rights
def e_need_rights : List D → Option (Except DX D) := fnE ["thing"] 1 (xIf (eNot (eTest (eCall e_is_rights (eCons (eVar 0) (eC []))))) (xRaise "BadRights") (xNext))
theorem ev_need_rights : EvF sp_need_rights e_need_rights := evf (xv_if (ev_not (ev_test (ev_call ev_is_rights (ev_cons (ev_var 0) (ev_nil))))) (xv_raise) (xv_next))
theorem sc_need_rights : FnScope ["thing"] ["thing"] (defScope s_need_rights) := ⟨rfl, rfl, rfl, by decide +kernel, rfl, by decide +kernel, by decide +kernel⟩
theorem need_rights_ok (fx : Fx P w K T mg base) : DFn P w K T mg base 4 "need_rights" ["thing"] sp_need_rights :=
  dfnk_of fx.fd_need_rights fx.mg_need_rights sc_need_rights (fun _ _ _ _ _ _ us hl => match us, hl with | [_], _ => rfl) (fun cdv A outer s H E hcd hr => (qs_one (qs_if (qt_not (qt_val (q_call (is_rights_ok fx) hr (by decide) (L2N.takes_of rfl rfl rfl rfl) rfl (qa_cons (qv 0) qa_nil)))) (qs_one (qs_raise (dxc fx.xc_BadRights) rfl (L2N.takes_of rfl rfl rfl rfl) rfl)) qs_nil)))
def t_number_in : DTS := (sSeq (sSet 1 (dIf (dTest (dOp pyEq (dSlice (dVar 0) dNoPart (dPart (dC (.int 1)))) (dC (.str "-")))) (dSlice (dVar 0) (dPart (dC (.int 1))) dNoPart) (dVar 0))) (sSeq (sIf (dOr (dNot (dTest (dChain pyLe pyLe (dC (.int 1)) (dB pyLen (dCons (dVar 1) dNil)) (dC (.int 3))))) (dOr (dNot (dTest (dB pyAll (dCons (dLc (dIter (dVar 1)) (.n 2) dYes (dOp pyIn (dVar 2) (dC (.str "0123456789"))) [2]) dNil)))) (dTest (dOp pyNe (dB pyStr (dCons (dB pyIntS (dCons (dVar 0) dNil)) dNil)) (dVar 0))))) (sRet (dC .non)) sNext) (sRet (dB pyIntS (dCons (dVar 0) dNil)))))
abbrev sp_number_in : DSp := spOf ["text", "bare", "sign"] 1 t_number_in
def e_number_in : List D → Option (Except DX D) := fnE ["text", "bare", "sign"] 1 (xSeq (xSet 1 (eIf (eTest (eOp pyEq (eSlice (eVar 0) (eC none) (ePart (eC (.int 1)))) (eC (.str "-")))) (eSlice (eVar 0) (ePart (eC (.int 1))) (eC none)) (eVar 0))) (xSeq (xIf (eOr (eNot (eTest (eChain pyLe pyLe (eC (.int 1)) (eB pyLen (eCons (eVar 1) (eC []))) (eC (.int 3))))) (eOr (eNot (eTest (eB pyAll (eCons (eLc (eIter (eVar 1)) (.n 2) (eC true) (eOp pyIn (eVar 2) (eC (.str "0123456789"))) [2]) (eC []))))) (eTest (eOp pyNe (eB pyStr (eCons (eB pyIntS (eCons (eVar 0) (eC []))) (eC []))) (eVar 0))))) (xRet (eC .non)) (xNext)) (xRet (eB pyIntS (eCons (eVar 0) (eC []))))))
theorem ev_number_in : EvF sp_number_in e_number_in := evf (xv_seq (xv_set (ev_if (ev_test (ev_op m_eq (ev_slice (ev_var 0) (ev_noPart) (ev_part (ev_c _))) (ev_c _))) (ev_slice (ev_var 0) (ev_part (ev_c _)) (ev_noPart)) (ev_var 0))) (xv_seq (xv_if (ev_or (ev_not (ev_test (ev_chain m_le m_le (ev_c _) (ev_b m_len (ev_cons (ev_var 1) (ev_nil))) (ev_c _)))) (ev_or (ev_not (ev_test (ev_b m_all (ev_cons (ev_lc (ev_iter (ev_var 1)) (ev_yes) (ev_op m_in (ev_var 2) (ev_c _))) (ev_nil))))) (ev_test (ev_op m_ne (ev_b m_str (ev_cons (ev_b m_int (ev_cons (ev_var 0) (ev_nil))) (ev_nil))) (ev_var 0))))) (xv_ret (ev_c _)) (xv_next)) (xv_ret (ev_b m_int (ev_cons (ev_var 0) (ev_nil))))))
theorem sc_number_in : FnScope ["text", "bare", "sign"] ["text"] (defScope s_number_in) := ⟨rfl, rfl, rfl, by decide +kernel, rfl, by decide +kernel, by decide +kernel⟩
theorem number_in_ok (fx : Fx P w K T mg base) : DFn P w K T mg base 1 "number_in" ["text"] sp_number_in :=
  dfnk_of fx.fd_number_in fx.mg_number_in sc_number_in (fun _ _ _ _ _ _ us hl => match us, hl with | [_], _ => rfl) (fun cdv A outer s H E hcd hr => (qs_cons (qs_set sc_number_in.nd rfl (by first | exact Or.inl rfl | exact Or.inr rfl) (q_if (q_cmpT (op_pyEq hr.units) (q_slice (qv 0) qo_none (qo_some (q_int))) (q_str) (nomark _)) (q_slice (qv 0) (qo_some (q_int)) qo_none) (qv 0))) (qs_cons (qs_if (qt_w (qw_or (qt_not (q_chainT op_pyLe op_pyLe (q_int) (q_callB call_pyLen rfl (fx.free "len" (by decide)) boot_len (qa_cons (qv 1) qa_nil)) (q_int))) (qw_or (qt_not (qt_val (q_callB (call_pyAll rfl) rfl (fx.free "all" (by decide)) boot_all (qa_cons (q_lc [("sign", 2)] rfl sc_number_in.nd (qi_it (qv 1)) (blkOk_by (by kernel_rfl)) rfl (fun s H C cl fp => (pg_name sc_number_in.nd rfl (by first | exact Or.inl rfl | exact Or.inr rfl))) (fun s H C cl fp => qts_nil) (fun s H C cl fp => (q_cmp (op_pyIn (hu_of hr)) (qv 2) (q_gstr rfl fx.gs_FIGURES) rfl))) qa_nil)))) (qw_or1 (q_cmpT (op_pyNe hr.units) (q_callTy call_pyStr rfl (fx.free "str" (by decide)) boot_str (qa_cons (q_callTy call_pyIntS rfl (fx.free "int" (by decide)) boot_int (qa_cons (qv 0) qa_nil)) qa_nil)) (qv 0) (nomark _)))))) (qs_one (qs_ret (q_non))) qs_nil) (qs_one (qs_ret (q_callTy call_pyIntS rfl (fx.free "int" (by decide)) boot_int (qa_cons (qv 0) qa_nil)))))))
def t_row_in : DTS := (sSeq (sSet 1 (dMt "str" mSplit (dVar 0) (dCons (dC (.str " ")) dNil))) (sSeq (sSet 2 (dUn (kGet tab_FORMS) (dOp pyItem (dVar 1) (dC (.int 0))))) (sSeq (sIf (dOr (dTest (dOp pyIs (dVar 2) (dC .non))) (dTest (dOp pyNe (dB pyLen (dCons (dVar 1) dNil)) (dOp pyAdd (dB pyLen (dCons (dVar 2) dNil)) (dC (.int 1)))))) (sRet (dC .non)) sNext) (sRet (dOp pyAdd (dTup (dCons (dOp pyItem (dVar 1) (dC (.int 0))) dNil)) (dB pyTup (dCons (dLc (dZip (dCons (dVar 2) (dCons (dSlice (dVar 1) (dPart (dC (.int 1))) dNoPart) dNil))) (.t [3, 4]) dYes (dIf (dTest (dOp pyEq (dVar 3) (dC (.str "w")))) (dVar 4) (dCall sp_number_in (dCons (dVar 4) dNil))) [3, 4]) dNil)))))))
abbrev sp_row_in : DSp := spOf ["line", "words", "sorts", "sort", "word"] 1 t_row_in
def e_row_in : List D → Option (Except DX D) := fnE ["line", "words", "sorts", "sort", "word"] 1 (xSeq (xSet 1 (eMt "str" mSplit (eVar 0) (eCons (eC (.str " ")) (eC [])))) (xSeq (xSet 2 (eUn (kGet tab_FORMS) (eOp pyItem (eVar 1) (eC (.int 0))))) (xSeq (xIf (eOr (eTest (eOp pyIs (eVar 2) (eC .non))) (eTest (eOp pyNe (eB pyLen (eCons (eVar 1) (eC []))) (eOp pyAdd (eB pyLen (eCons (eVar 2) (eC []))) (eC (.int 1)))))) (xRet (eC .non)) (xNext)) (xRet (eOp pyAdd (eTup (eCons (eOp pyItem (eVar 1) (eC (.int 0))) (eC []))) (eB pyTup (eCons (eLc (eZip (eCons (eVar 2) (eCons (eSlice (eVar 1) (ePart (eC (.int 1))) (eC none)) (eC [])))) (.t [3, 4]) (eC true) (eIf (eTest (eOp pyEq (eVar 3) (eC (.str "w")))) (eVar 4) (eCall e_number_in (eCons (eVar 4) (eC [])))) [3, 4]) (eC []))))))))
theorem ev_row_in : EvF sp_row_in e_row_in := evf (xv_seq (xv_set (ev_mt m_split (ev_var 0) (ev_cons (ev_c _) (ev_nil)))) (xv_seq (xv_set (ev_un m_kget (ev_op m_item (ev_var 1) (ev_c _)))) (xv_seq (xv_if (ev_or (ev_test (ev_op m_is (ev_var 2) (ev_c _))) (ev_test (ev_op m_ne (ev_b m_len (ev_cons (ev_var 1) (ev_nil))) (ev_op m_add (ev_b m_len (ev_cons (ev_var 2) (ev_nil))) (ev_c _))))) (xv_ret (ev_c _)) (xv_next)) (xv_ret (ev_op m_add (ev_tup (ev_cons (ev_op m_item (ev_var 1) (ev_c _)) (ev_nil))) (ev_b m_tup (ev_cons (ev_lc (ev_zip (ev_cons (ev_var 2) (ev_cons (ev_slice (ev_var 1) (ev_part (ev_c _)) (ev_noPart)) (ev_nil)))) (ev_yes) (ev_if (ev_test (ev_op m_eq (ev_var 3) (ev_c _))) (ev_var 4) (ev_call ev_number_in (ev_cons (ev_var 4) (ev_nil))))) (ev_nil))))))))
theorem sc_row_in : FnScope ["line", "words", "sorts", "sort", "word"] ["line"] (defScope s_row_in) := ⟨rfl, rfl, rfl, by decide +kernel, rfl, by decide +kernel, by decide +kernel⟩
theorem row_in_ok (fx : Fx P w K T mg base) : DFn P w K T mg base 2 "row_in" ["line"] sp_row_in :=
  dfnk_of fx.fd_row_in fx.mg_row_in sc_row_in (fun _ _ _ _ _ _ us hl => match us, hl with | [_], _ => rfl) (fun cdv A outer s H E hcd hr => (qs_cons (qs_set sc_row_in.nd rfl (by first | exact Or.inl rfl | exact Or.inr rfl) (q_mt PySem.F.plainAttrs_str PySem.F.slot_str_split PySem.F.type_str_split mt_mSplit (qv 0) (qa_cons (q_str) qa_nil))) (qs_cons (qs_set sc_row_in.nd rfl (by first | exact Or.inl rfl | exact Or.inr rfl) (q_kget fx.kt_FORMS rfl (q_item (hu_of hr) (qv 1) (q_int)))) (qs_cons (qs_if (qt_w (qw_or (q_cmpT op_pyIs (qv 2) (q_non) (nomark _)) (qw_or1 (q_cmpT (op_pyNe hr.units) (q_callB call_pyLen rfl (fx.free "len" (by decide)) boot_len (qa_cons (qv 1) qa_nil)) (q_op op_pyAdd (q_callB call_pyLen rfl (fx.free "len" (by decide)) boot_len (qa_cons (qv 2) qa_nil)) (q_int)) (nomark _))))) (qs_one (qs_ret (q_non))) qs_nil) (qs_one (qs_ret (q_op op_pyAdd (q_tup (qa_cons (q_item (hu_of hr) (qv 1) (q_int)) qa_nil)) (q_callTy call_pyTup rfl (fx.free "tuple" (by decide)) boot_tuple (qa_cons (q_lc [("sort", 3), ("word", 4)] rfl sc_row_in.nd (qi_zip rfl (fx.free "zip" (by decide)) (qa_cons (qv 2) (qa_cons (q_slice (qv 1) (qo_some (q_int)) qo_none) qa_nil))) (blkOk_by (by kernel_rfl)) rfl (fun s H C cl fp => (pg_tup rfl (pgs_cons (pg_name sc_row_in.nd rfl (by first | exact Or.inl rfl | exact Or.inr rfl)) (pgs_cons (pg_name sc_row_in.nd rfl (by first | exact Or.inl rfl | exact Or.inr rfl)) pgs_nil)))) (fun s H C cl fp => qts_nil) (fun s H C cl fp => (q_if (q_cmpT (op_pyEq hr.units) (qv 3) (q_str) (nomark _)) (qv 4) (q_call (number_in_ok fx) hr (by decide) takesF rfl (qa_cons (qv 4) qa_nil))))) qa_nil)))))))))
def t_read_program : DTS := (sSeq (sIf (dNot (dTest (dUn (pyIsi "str") (dVar 0)))) (sRaise "BadText") sNext) (sSeq (sSet 1 (dB pyTup (dCons (dLc (dIter (dMt "str" mSplit (dVar 0) (dCons (dC (.str "\n")) dNil))) (.n 2) dYes (dCall sp_row_in (dCons (dVar 2) dNil)) [2]) dNil))) (sSeq (sIf (dNot (dTest (dCall sp_is_program (dCons (dVar 1) dNil)))) (sRaise "BadText") sNext) (sRet (dVar 1)))))
abbrev sp_read_program : DSp := spOf ["text", "found", "line"] 1 t_read_program
def e_read_program : List D → Option (Except DX D) := fnE ["text", "found", "line"] 1 (xSeq (xIf (eNot (eTest (eUn (pyIsi "str") (eVar 0)))) (xRaise "BadText") (xNext)) (xSeq (xSet 1 (eB pyTup (eCons (eLc (eIter (eMt "str" mSplit (eVar 0) (eCons (eC (.str "\n")) (eC [])))) (.n 2) (eC true) (eCall e_row_in (eCons (eVar 2) (eC []))) [2]) (eC [])))) (xSeq (xIf (eNot (eTest (eCall e_is_program (eCons (eVar 1) (eC []))))) (xRaise "BadText") (xNext)) (xRet (eVar 1)))))
theorem ev_read_program : EvF sp_read_program e_read_program := evf (xv_seq (xv_if (ev_not (ev_test (ev_un m_isi (ev_var 0)))) (xv_raise) (xv_next)) (xv_seq (xv_set (ev_b m_tup (ev_cons (ev_lc (ev_iter (ev_mt m_split (ev_var 0) (ev_cons (ev_c _) (ev_nil)))) (ev_yes) (ev_call ev_row_in (ev_cons (ev_var 2) (ev_nil)))) (ev_nil)))) (xv_seq (xv_if (ev_not (ev_test (ev_call ev_is_program (ev_cons (ev_var 1) (ev_nil))))) (xv_raise) (xv_next)) (xv_ret (ev_var 1)))))
theorem sc_read_program : FnScope ["text", "found", "line"] ["text"] (defScope s_read_program) := ⟨rfl, rfl, rfl, by decide +kernel, rfl, by decide +kernel, by decide +kernel⟩
theorem read_program_ok (fx : Fx P w K T mg base) : DFn P w K T mg base 6 "read_program" ["text"] sp_read_program :=
  dfnk_of fx.fd_read_program fx.mg_read_program sc_read_program (fun _ _ _ _ _ _ us hl => match us, hl with | [_], _ => rfl) (fun cdv A outer s H E hcd hr => (qs_cons (qs_if (qt_not (qt_val (q_isi rfl (fx.free "isinstance" (by decide)) rfl (fx.free "str" (by decide)) boot_str (qv 0)))) (qs_one (qs_raise (dxc fx.xc_BadText) rfl (L2N.takes_of rfl rfl rfl rfl) rfl)) qs_nil) (qs_cons (qs_set sc_read_program.nd rfl (by first | exact Or.inl rfl | exact Or.inr rfl) (q_callTy call_pyTup rfl (fx.free "tuple" (by decide)) boot_tuple (qa_cons (q_lc [("line", 2)] rfl sc_read_program.nd (qi_it (q_mt PySem.F.plainAttrs_str PySem.F.slot_str_split PySem.F.type_str_split mt_mSplit (qv 0) (qa_cons (q_str) qa_nil))) (blkOk_by (by kernel_rfl)) rfl (fun s H C cl fp => (pg_name sc_read_program.nd rfl (by first | exact Or.inl rfl | exact Or.inr rfl))) (fun s H C cl fp => qts_nil) (fun s H C cl fp => (q_call (row_in_ok fx) hr (by decide) takesF rfl (qa_cons (qv 2) qa_nil)))) qa_nil))) (qs_cons (qs_if (qt_not (qt_val (q_call (is_program_ok fx) hr (by decide) (L2N.takes_of rfl rfl rfl rfl) rfl (qa_cons (qv 1) qa_nil)))) (qs_one (qs_raise (dxc fx.xc_BadText) rfl (L2N.takes_of rfl rfl rfl rfl) rfl)) qs_nil) (qs_one (qs_ret (qv 1)))))))
def t_rights_text : DTS := (sSeq (sDrop (dCall sp_need_rights (dCons (dVar 0) dNil))) (sSeq (sSet 1 (dLst (dCons (dB pyStr (dCons (dOp pyItem (dVar 0) (dC (.int 0))) dNil)) dNil))) (sSeq (sFor (dZip (dCons (dC (.str "?!<>")) (dCons (dSlice (dVar 0) (dPart (dC (.int 1))) dNoPart) dNil))) (.t [2, 3]) (sSet 1 (dOp pyAdd (dVar 1) (dLc (dIter (dVar 3)) (.n 4) dYes (dOp pyAdd (dVar 2) (dVar 4)) [4])))) (sRet (dMt "str" mJoin (dC (.str " ")) (dCons (dVar 1) dNil))))))
abbrev sp_rights_text : DSp := spOf ["rights", "words", "sign", "row", "word"] 1 t_rights_text
def e_rights_text : List D → Option (Except DX D) := fnE ["rights", "words", "sign", "row", "word"] 1 (xSeq (xDrop (eCall e_need_rights (eCons (eVar 0) (eC [])))) (xSeq (xSet 1 (eLst (eCons (eB pyStr (eCons (eOp pyItem (eVar 0) (eC (.int 0))) (eC []))) (eC [])))) (xSeq (xFor (eZip (eCons (eC (.str "?!<>")) (eCons (eSlice (eVar 0) (ePart (eC (.int 1))) (eC none)) (eC [])))) (.t [2, 3]) (xSet 1 (eOp pyAdd (eVar 1) (eLc (eIter (eVar 3)) (.n 4) (eC true) (eOp pyAdd (eVar 2) (eVar 4)) [4])))) (xRet (eMt "str" mJoin (eC (.str " ")) (eCons (eVar 1) (eC [])))))))
theorem ev_rights_text : EvF sp_rights_text e_rights_text := evf (xv_seq (xv_drop (ev_call ev_need_rights (ev_cons (ev_var 0) (ev_nil)))) (xv_seq (xv_set (ev_lst (ev_cons (ev_b m_str (ev_cons (ev_op m_item (ev_var 0) (ev_c _)) (ev_nil))) (ev_nil)))) (xv_seq (xv_for (ev_zip (ev_cons (ev_c _) (ev_cons (ev_slice (ev_var 0) (ev_part (ev_c _)) (ev_noPart)) (ev_nil)))) (xv_set (ev_op m_add (ev_var 1) (ev_lc (ev_iter (ev_var 3)) (ev_yes) (ev_op m_add (ev_var 2) (ev_var 4)))))) (xv_ret (ev_mt m_join (ev_c _) (ev_cons (ev_var 1) (ev_nil)))))))
theorem sc_rights_text : FnScope ["rights", "words", "sign", "row", "word"] ["rights"] (defScope s_rights_text) := ⟨rfl, rfl, rfl, by decide +kernel, rfl, by decide +kernel, by decide +kernel⟩
theorem rights_text_ok (fx : Fx P w K T mg base) : DFn P w K T mg base 5 "rights_text" ["rights"] sp_rights_text :=
  dfnk_of fx.fd_rights_text fx.mg_rights_text sc_rights_text (fun _ _ _ _ _ _ us hl => match us, hl with | [_], _ => rfl) (fun cdv A outer s H E hcd hr => (qs_cons (qs_expr (q_call (need_rights_ok fx) hr (by decide) (L2N.takes_of rfl rfl rfl rfl) rfl (qa_cons (qv 0) qa_nil))) (qs_cons (qs_set sc_rights_text.nd rfl (by first | exact Or.inl rfl | exact Or.inr rfl) (q_lst (qa_cons (q_callTy call_pyStr rfl (fx.free "str" (by decide)) boot_str (qa_cons (q_item (hu_of hr) (qv 0) (q_int)) qa_nil)) qa_nil))) (qs_cons (qs_for (passes_of rfl) rfl (qi_zip rfl (fx.free "zip" (by decide)) (qa_cons (q_gstr rfl fx.gs_SIGNS) (qa_cons (q_slice (qv 0) (qo_some (q_int)) qo_none) qa_nil))) (pg_tup rfl (pgs_cons (pg_name sc_rights_text.nd rfl (by first | exact Or.inl rfl | exact Or.inr rfl)) (pgs_cons (pg_name sc_rights_text.nd rfl (by first | exact Or.inl rfl | exact Or.inr rfl)) pgs_nil))) (qs_one (qs_set sc_rights_text.nd rfl (by first | exact Or.inl rfl | exact Or.inr rfl) (q_op op_pyAdd (qv 1) (q_lc [("word", 4)] rfl sc_rights_text.nd (qi_it (qv 3)) (blkOk_by (by kernel_rfl)) rfl (fun s H C cl fp => (pg_name sc_rights_text.nd rfl (by first | exact Or.inl rfl | exact Or.inr rfl))) (fun s H C cl fp => qts_nil) (fun s H C cl fp => (q_op op_pyAdd (qv 2) (qv 4)))))))) (qs_one (qs_ret (q_mt PySem.F.plainAttrs_str PySem.F.slot_str_join PySem.F.type_str_join mt_mJoin (q_str) (qa_cons (qv 1) qa_nil))))))))
def t_read_rights : DTS := (sSeq (sIf (dNot (dTest (dUn (pyIsi "str") (dVar 0)))) (sRaise "BadText") sNext) (sSeq (sStar 1 2 (dMt "str" mSplit (dVar 0) (dCons (dC (.str " ")) dNil))) (sSeq (sSet 3 (dLc (dIter (dC (.str "?!<>"))) (.n 5) dYes (dB pyTup (dCons (dLc (dIter (dVar 2)) (.n 4) (dTest (dOp pyEq (dSlice (dVar 4) dNoPart (dPart (dC (.int 1)))) (dVar 5))) (dSlice (dVar 4) (dPart (dC (.int 1))) dNoPart) [4]) dNil)) [5])) (sSeq (sSet 6 (dOp pyAdd (dTup (dCons (dCall sp_number_in (dCons (dVar 1) dNil)) dNil)) (dB pyTup (dCons (dVar 3) dNil)))) (sSeq (sIf (dOr (dNot (dTest (dCall sp_is_rights (dCons (dVar 6) dNil)))) (dTest (dOp pyNe (dCall sp_rights_text (dCons (dVar 6) dNil)) (dVar 0)))) (sRaise "BadText") sNext) (sRet (dVar 6)))))))
abbrev sp_read_rights : DSp := spOf ["text", "first", "words", "rows", "word", "sign", "found"] 1 t_read_rights
def e_read_rights : List D → Option (Except DX D) := fnE ["text", "first", "words", "rows", "word", "sign", "found"] 1 (xSeq (xIf (eNot (eTest (eUn (pyIsi "str") (eVar 0)))) (xRaise "BadText") (xNext)) (xSeq (xStar 1 2 (eMt "str" mSplit (eVar 0) (eCons (eC (.str " ")) (eC [])))) (xSeq (xSet 3 (eLc (eIter (eC (.str "?!<>"))) (.n 5) (eC true) (eB pyTup (eCons (eLc (eIter (eVar 2)) (.n 4) (eTest (eOp pyEq (eSlice (eVar 4) (eC none) (ePart (eC (.int 1)))) (eVar 5))) (eSlice (eVar 4) (ePart (eC (.int 1))) (eC none)) [4]) (eC []))) [5])) (xSeq (xSet 6 (eOp pyAdd (eTup (eCons (eCall e_number_in (eCons (eVar 1) (eC []))) (eC []))) (eB pyTup (eCons (eVar 3) (eC []))))) (xSeq (xIf (eOr (eNot (eTest (eCall e_is_rights (eCons (eVar 6) (eC []))))) (eTest (eOp pyNe (eCall e_rights_text (eCons (eVar 6) (eC []))) (eVar 0)))) (xRaise "BadText") (xNext)) (xRet (eVar 6)))))))
theorem ev_read_rights : EvF sp_read_rights e_read_rights := evf (xv_seq (xv_if (ev_not (ev_test (ev_un m_isi (ev_var 0)))) (xv_raise) (xv_next)) (xv_seq (xv_star (ev_mt m_split (ev_var 0) (ev_cons (ev_c _) (ev_nil)))) (xv_seq (xv_set (ev_lc (ev_iter (ev_c _)) (ev_yes) (ev_b m_tup (ev_cons (ev_lc (ev_iter (ev_var 2)) (ev_test (ev_op m_eq (ev_slice (ev_var 4) (ev_noPart) (ev_part (ev_c _))) (ev_var 5))) (ev_slice (ev_var 4) (ev_part (ev_c _)) (ev_noPart))) (ev_nil))))) (xv_seq (xv_set (ev_op m_add (ev_tup (ev_cons (ev_call ev_number_in (ev_cons (ev_var 1) (ev_nil))) (ev_nil))) (ev_b m_tup (ev_cons (ev_var 3) (ev_nil))))) (xv_seq (xv_if (ev_or (ev_not (ev_test (ev_call ev_is_rights (ev_cons (ev_var 6) (ev_nil))))) (ev_test (ev_op m_ne (ev_call ev_rights_text (ev_cons (ev_var 6) (ev_nil))) (ev_var 0)))) (xv_raise) (xv_next)) (xv_ret (ev_var 6)))))))
theorem sc_read_rights : FnScope ["text", "first", "words", "rows", "word", "sign", "found"] ["text"] (defScope s_read_rights) := ⟨rfl, rfl, rfl, by decide +kernel, rfl, by decide +kernel, by decide +kernel⟩
theorem read_rights_ok (fx : Fx P w K T mg base) : DFn P w K T mg base 6 "read_rights" ["text"] sp_read_rights :=
  dfnk_of fx.fd_read_rights fx.mg_read_rights sc_read_rights (fun _ _ _ _ _ _ us hl => match us, hl with | [_], _ => rfl) (fun cdv A outer s H E hcd hr => (qs_cons (qs_if (qt_not (qt_val (q_isi rfl (fx.free "isinstance" (by decide)) rfl (fx.free "str" (by decide)) boot_str (qv 0)))) (qs_one (qs_raise (dxc fx.xc_BadText) rfl (L2N.takes_of rfl rfl rfl rfl) rfl)) qs_nil) (qs_cons (qs_star rfl sc_read_rights.nd rfl rfl (by first | exact Or.inl rfl | exact Or.inr rfl) (by first | exact Or.inl rfl | exact Or.inr rfl) (.inl rfl) (.inl rfl) (q_mt PySem.F.plainAttrs_str PySem.F.slot_str_split PySem.F.type_str_split mt_mSplit (qv 0) (qa_cons (q_str) qa_nil))) (qs_cons (qs_setLc [("sign", 5)] rfl sc_read_rights.nd rfl rfl (sw_true rfl rfl rfl (by decide +kernel)) (qi_it (q_gstr rfl fx.gs_SIGNS)) (blkOk_by (by kernel_rfl)) rfl (fun s H C cl fp => (pg_name sc_read_rights.nd rfl (by first | exact Or.inl rfl | exact Or.inr rfl))) (fun s H C cl fp => qts_nil) (fun s H C cl fp => (q_callTy call_pyTup rfl (fx.free "tuple" (by decide)) boot_tuple (qa_cons (q_lc [("word", 4)] rfl sc_read_rights.nd (qi_it (qv 2)) (blkOk_by (by kernel_rfl)) rfl (fun s H C cl fp => (pg_name sc_read_rights.nd rfl (by first | exact Or.inl rfl | exact Or.inr rfl))) (fun s H C cl fp => (qts_one (q_cmpT (op_pyEq hr.units) (q_slice (qv 4) qo_none (qo_some (q_int))) (qv 5) (nomark _)))) (fun s H C cl fp => (q_slice (qv 4) (qo_some (q_int)) qo_none))) qa_nil)))) (qs_cons (qs_set sc_read_rights.nd rfl (by first | exact Or.inl rfl | exact Or.inr rfl) (q_op op_pyAdd (q_tup (qa_cons (q_call (number_in_ok fx) hr (by decide) (L2N.takes_of rfl rfl rfl rfl) rfl (qa_cons (qv 1) qa_nil)) qa_nil)) (q_callTy call_pyTup rfl (fx.free "tuple" (by decide)) boot_tuple (qa_cons (qv 3) qa_nil)))) (qs_cons (qs_if (qt_w (qw_or (qt_not (qt_val (q_call (is_rights_ok fx) hr (by decide) (L2N.takes_of rfl rfl rfl rfl) rfl (qa_cons (qv 6) qa_nil)))) (qw_or1 (q_cmpT (op_pyNe hr.units) (q_call (rights_text_ok fx) hr (by decide) (L2N.takes_of rfl rfl rfl rfl) rfl (qa_cons (qv 6) qa_nil)) (qv 0) (nomark _))))) (qs_one (qs_raise (dxc fx.xc_BadText) rfl (L2N.takes_of rfl rfl rfl rfl) rfl)) qs_nil) (qs_one (qs_ret (qv 6)))))))))
def t__law_cell : DTS := (sSeq (sIf (dTest (dOp pyEq (dVar 0) (dLst dNil))) (sRet (dOp pyMul (dVar 1) (dC (.int 7919)))) sNext) (sRet (dOp pyAdd (dOp pyItem (dVar 0) (dOp pyMod (dVar 1) (dB pyLen (dCons (dVar 0) dNil)))) (dOp pyMul (dOp pyDiv (dVar 1) (dB pyLen (dCons (dVar 0) dNil))) (dC (.int 104729))))))
abbrev sp__law_cell : DSp := spOf ["script", "k"] 2 t__law_cell
def e__law_cell : List D → Option (Except DX D) := fnE ["script", "k"] 2 (xSeq (xIf (eTest (eOp pyEq (eVar 0) (eLst (eC [])))) (xRet (eOp pyMul (eVar 1) (eC (.int 7919)))) (xNext)) (xRet (eOp pyAdd (eOp pyItem (eVar 0) (eOp pyMod (eVar 1) (eB pyLen (eCons (eVar 0) (eC []))))) (eOp pyMul (eOp pyDiv (eVar 1) (eB pyLen (eCons (eVar 0) (eC [])))) (eC (.int 104729))))))
theorem ev__law_cell : EvF sp__law_cell e__law_cell := evf (xv_seq (xv_if (ev_test (ev_op m_eq (ev_var 0) (ev_lst (ev_nil)))) (xv_ret (ev_op m_mul (ev_var 1) (ev_c _))) (xv_next)) (xv_ret (ev_op m_add (ev_op m_item (ev_var 0) (ev_op m_mod (ev_var 1) (ev_b m_len (ev_cons (ev_var 0) (ev_nil))))) (ev_op m_mul (ev_op m_div (ev_var 1) (ev_b m_len (ev_cons (ev_var 0) (ev_nil)))) (ev_c _)))))
theorem sc__law_cell : FnScope ["script", "k"] ["script", "k"] (defScope s__law_cell) := ⟨rfl, rfl, rfl, by decide +kernel, rfl, by decide +kernel, by decide +kernel⟩
theorem _law_cell_ok (fx : Fx P w K T mg base) : DFn P w K T mg base 1 "_law_cell" ["script", "k"] sp__law_cell :=
  dfnk_of fx.fd__law_cell fx.mg__law_cell sc__law_cell (fun _ _ _ _ _ _ us hl => match us, hl with | [_, _], _ => rfl) (fun cdv A outer s H E hcd hr => (qs_cons (qs_if (q_cmpT (op_pyEq hr.units) (qv 0) (q_lst qa_nil) (nomark _)) (qs_one (qs_ret (q_op op_pyMul (qv 1) (q_int)))) qs_nil) (qs_one (qs_ret (q_op op_pyAdd (q_item (hu_of hr) (qv 0) (q_op op_pyMod (qv 1) (q_callB call_pyLen rfl (fx.free "len" (by decide)) boot_len (qa_cons (qv 0) qa_nil)))) (q_op op_pyMul (q_op op_pyDiv (qv 1) (q_callB call_pyLen rfl (fx.free "len" (by decide)) boot_len (qa_cons (qv 0) qa_nil))) (q_int)))))))
def t__law_drawn : DTS := (sSeq (sSet 2 (dOp pyMod (dOp pyAdd (dOp pyMul (dVar 0) (dC (.int 6364136223846793005))) (dOp pyMul (dOp pyAdd (dVar 1) (dC (.int 1))) (dC (.int 1442695040888963407)))) (dC (.int 340282366920938463463374607431768211507)))) (sSeq (sSet 2 (dOp pyMod (dOp pyMul (dVar 2) (dVar 2)) (dC (.int 340282366920938463463374607431768211297)))) (sSeq (sSet 2 (dOp pyMul (dOp pyMul (dOp pyAdd (dOp pyMod (dVar 2) (dC (.int 18446744073709551557))) (dC (.int 1))) (dOp pyAdd (dOp pyDiv (dVar 2) (dC (.int 18446744073709551557))) (dC (.int 1)))) (dVar 2))) (sRet (dOp pyMod (dVar 2) (dC (.int 340282366920938463463374607431768211507)))))))
abbrev sp__law_drawn : DSp := spOf ["cell", "k", "more"] 2 t__law_drawn
def e__law_drawn : List D → Option (Except DX D) := fnE ["cell", "k", "more"] 2 (xSeq (xSet 2 (eOp pyMod (eOp pyAdd (eOp pyMul (eVar 0) (eC (.int 6364136223846793005))) (eOp pyMul (eOp pyAdd (eVar 1) (eC (.int 1))) (eC (.int 1442695040888963407)))) (eC (.int 340282366920938463463374607431768211507)))) (xSeq (xSet 2 (eOp pyMod (eOp pyMul (eVar 2) (eVar 2)) (eC (.int 340282366920938463463374607431768211297)))) (xSeq (xSet 2 (eOp pyMul (eOp pyMul (eOp pyAdd (eOp pyMod (eVar 2) (eC (.int 18446744073709551557))) (eC (.int 1))) (eOp pyAdd (eOp pyDiv (eVar 2) (eC (.int 18446744073709551557))) (eC (.int 1)))) (eVar 2))) (xRet (eOp pyMod (eVar 2) (eC (.int 340282366920938463463374607431768211507)))))))
theorem ev__law_drawn : EvF sp__law_drawn e__law_drawn := evf (xv_seq (xv_set (ev_op m_mod (ev_op m_add (ev_op m_mul (ev_var 0) (ev_c _)) (ev_op m_mul (ev_op m_add (ev_var 1) (ev_c _)) (ev_c _))) (ev_c _))) (xv_seq (xv_set (ev_op m_mod (ev_op m_mul (ev_var 2) (ev_var 2)) (ev_c _))) (xv_seq (xv_set (ev_op m_mul (ev_op m_mul (ev_op m_add (ev_op m_mod (ev_var 2) (ev_c _)) (ev_c _)) (ev_op m_add (ev_op m_div (ev_var 2) (ev_c _)) (ev_c _))) (ev_var 2))) (xv_ret (ev_op m_mod (ev_var 2) (ev_c _))))))
theorem sc__law_drawn : FnScope ["cell", "k", "more"] ["cell", "k"] (defScope s__law_drawn) := ⟨rfl, rfl, rfl, by decide +kernel, rfl, by decide +kernel, by decide +kernel⟩
theorem _law_drawn_ok (fx : Fx P w K T mg base) : DFn P w K T mg base 1 "_law_drawn" ["cell", "k"] sp__law_drawn :=
  dfnk_of fx.fd__law_drawn fx.mg__law_drawn sc__law_drawn (fun _ _ _ _ _ _ us hl => match us, hl with | [_, _], _ => rfl) (fun cdv A outer s H E hcd hr => (qs_cons (qs_set sc__law_drawn.nd rfl (by first | exact Or.inl rfl | exact Or.inr rfl) (q_op op_pyMod (q_op op_pyAdd (q_op op_pyMul (qv 0) (q_int)) (q_op op_pyMul (q_op op_pyAdd (qv 1) (q_int)) (q_int))) (q_int))) (qs_cons (qs_set sc__law_drawn.nd rfl (by first | exact Or.inl rfl | exact Or.inr rfl) (q_op op_pyMod (q_op op_pyMul (qv 2) (qv 2)) (q_int))) (qs_cons (qs_set sc__law_drawn.nd rfl (by first | exact Or.inl rfl | exact Or.inr rfl) (q_op op_pyMul (q_op op_pyMul (q_op op_pyAdd (q_op op_pyMod (qv 2) (q_int)) (q_int)) (q_op op_pyAdd (q_op op_pyDiv (qv 2) (q_int)) (q_int))) (qv 2))) (qs_one (qs_ret (q_op op_pyMod (qv 2) (q_int))))))))
def t__law_roll : DTS := (sSeq (sIf (dTest (dOp pyGe (dOp pyItem (dVar 0) (dC (.int 0))) (dOp pyPow (dC (.int 10)) (dC (.int 18))))) (sSeq (sSet 2 (dOp pyMod (dOp pyItem (dVar 0) (dC (.int 0))) (dVar 1))) (sSeq (sSub (dOp pyDiv (dOp pyItem (dVar 0) (dC (.int 0))) (dVar 1)) (dVar 0) (dC (.int 0))) (sRet (dVar 2)))) sNext) (sSeq (sSub (dOp pyAdd (dOp pyItem (dVar 0) (dC (.int 1))) (dC (.int 1))) (dVar 0) (dC (.int 1))) (sRet (dOp pyMod (dOp pyDiv (dCall sp__law_drawn (dCons (dOp pyItem (dVar 0) (dC (.int 0))) (dCons (dOp pyItem (dVar 0) (dC (.int 1))) dNil))) (dC (.int 8))) (dVar 1)))))
abbrev sp__law_roll : DSp := spOf ["dice", "many", "told"] 2 t__law_roll
theorem sc__law_roll : FnScope ["dice", "many", "told"] ["dice", "many"] (defScope s__law_roll) := ⟨rfl, rfl, rfl, by decide +kernel, rfl, by decide +kernel, by decide +kernel⟩
theorem _law_roll_ok (fx : Fx P w K T mg base) : DFn P w K T mg base 2 "_law_roll" ["dice", "many"] sp__law_roll :=
  dfnk_of fx.fd__law_roll fx.mg__law_roll sc__law_roll (fun _ _ _ _ _ _ us hl => match us, hl with | [_, _], _ => rfl) (fun cdv A outer s H E hcd hr => (qs_cons (qs_if (q_cmpT op_pyGe (q_item (hu_of hr) (qv 0) (q_int)) (q_op op_pyPow (q_int) (q_int)) (nomark _)) (qs_cons (qs_set sc__law_roll.nd rfl (by first | exact Or.inl rfl | exact Or.inr rfl) (q_op op_pyMod (q_item (hu_of hr) (qv 0) (q_int)) (qv 1))) (qs_cons (qs_sub (hu_of hr) (q_op op_pyDiv (q_item (hu_of hr) (qv 0) (q_int)) (qv 1)) (qv 0) (q_int)) (qs_one (qs_ret (qv 2))))) qs_nil) (qs_cons (qs_sub (hu_of hr) (q_op op_pyAdd (q_item (hu_of hr) (qv 0) (q_int)) (q_int)) (qv 0) (q_int)) (qs_one (qs_ret (q_op op_pyMod (q_op op_pyDiv (q_call (_law_drawn_ok fx) hr (by decide) (L2N.takes_of rfl rfl rfl rfl) rfl (qa_cons (q_item (hu_of hr) (qv 0) (q_int)) (qa_cons (q_item (hu_of hr) (qv 0) (q_int)) qa_nil))) (q_int)) (qv 1)))))))
def t__law_rounds : DTS := (sRet (dLc (dRange1 (dCons (dB pyMax2 (dCons (dC (.int 1)) (dCons (dB pyMin2 (dCons (dVar 1) (dCons (dB pyLen (dCons (dVar 0) dNil)) dNil))) dNil))) dNil)) (.n 2) dYes (dLstB (dCons (dCall sp__law_cell (dCons (dVar 0) (dCons (dVar 2) dNil))) (dCons (dC (.int 0)) dNil))) [2]))
abbrev sp__law_rounds : DSp := spOf ["script", "high", "k"] 2 t__law_rounds
theorem sc__law_rounds : FnScope ["script", "high", "k"] ["script", "high"] (defScope s__law_rounds) := ⟨rfl, rfl, rfl, by decide +kernel, rfl, by decide +kernel, by decide +kernel⟩
theorem _law_rounds_ok (fx : Fx P w K T mg base) : DFn P w K T mg base 2 "_law_rounds" ["script", "high"] sp__law_rounds :=
  dfnk_of fx.fd__law_rounds fx.mg__law_rounds sc__law_rounds (fun _ _ _ _ _ _ us hl => match us, hl with | [_, _], _ => rfl) (fun cdv A outer s H E hcd hr => (qs_one (qs_ret (q_lc [("k", 2)] rfl sc__law_rounds.nd (qi_range1 rfl (fx.free "range" (by decide)) (qa_cons (q_callB (call_pyMax2 rfl) rfl (fx.free "max" (by decide)) boot_max (qa_cons (q_int) (qa_cons (q_callB (call_pyMin2 rfl) rfl (fx.free "min" (by decide)) boot_min (qa_cons (qv 1) (qa_cons (q_callB call_pyLen rfl (fx.free "len" (by decide)) boot_len (qa_cons (qv 0) qa_nil)) qa_nil))) qa_nil))) qa_nil)) (blkOk_by (by kernel_rfl)) rfl (fun s H C cl fp => (pg_name sc__law_rounds.nd rfl (by first | exact Or.inl rfl | exact Or.inr rfl))) (fun s H C cl fp => qts_nil) (fun s H C cl fp => (q_lstB (qa_cons (q_call (_law_cell_ok fx) hr (by decide) takesF rfl (qa_cons (qv 0) (qa_cons (qv 2) qa_nil))) (qa_cons (q_int) qa_nil))))))))
def t_term (a : Addr) (c : String) : DTS :=
  sSeq (sSet 1 (dLst (dCons (dIsE 0 a (c == "BadProgram")) (dCons (dIsE 0 a (c == "BadRights")) (dCons (dIsE 0 a (c == "BadNumber")) (dCons (dIsE 0 a (c == "BadFeeds")) dNil))))))
  (sSeq (sSet 1 (dOp pyAdd (dVar 1) (dLst (dCons (dIsE 0 a (c == "BadPaper")) (dCons (dIsE 0 a (c == "BadName")) (dCons (dIsE 0 a (c == "Taken")) (dCons (dIsE 0 a (c == "NoName")) dNil)))))))
  (sSeq (sSet 1 (dOp pyAdd (dVar 1) (dLst (dCons (dIsE 0 a (c == "TooMuch")) (dCons (dIsE 0 a (c == "Nothing")) (dCons (dIsE 0 a (c == "BadPicture")) (dCons (dIsE 0 a (c == "BadLog")) dNil)))))))
  (sSeq (sSet 1 (dOp pyAdd (dVar 1) (dLst (dCons (dIsE 0 a (c == "BadText")) dNil))))
  (sSeq (sSet 2 (dLst (dCons (dC (.str "BadProgram")) (dCons (dC (.str "BadRights")) (dCons (dC (.str "BadNumber")) (dCons (dC (.str "BadFeeds")) (dCons (dC (.str "BadPaper")) (dCons (dC (.str "BadName")) (dCons (dC (.str "Taken")) (dCons (dC (.str "NoName")) (dCons (dC (.str "TooMuch")) dNil)))))))))))
  (sSeq (sSet 2 (dOp pyAdd (dVar 2) (dLst (dCons (dC (.str "Nothing")) (dCons (dC (.str "BadPicture")) (dCons (dC (.str "BadLog")) (dCons (dC (.str "BadText")) dNil)))))))
  (sSeq (sIf (dOr (dTest (dOp pyNe (dB pySum (dCons (dLc (dIterL (dVar 1)) (.n 3) dYes (dB pyIntS (dCons (dVar 3) dNil)) [3]) dNil)) (dC (.int 1)))) (dNot (dTest (dIsE 0 a true)))) (sRet (dTup (dCons (dC (.str "refused")) (dCons (dC (.str "other")) dNil)))) sNext)
  (sRet (dTup (dCons (dC (.str "refused")) (dCons (dOp pyItem (dVar 2) (dMt "list" mIndex (dVar 1) (dCons (dC (.bl true)) dNil))) dNil))))))))))
theorem sc__law_term : FnScope ["e", "flags", "kinds", "flag"] ["e"] (defScope s__law_term) := ⟨rfl, rfl, rfl, by decide +kernel, rfl, by decide +kernel, by decide +kernel⟩
theorem term_plain (a : Addr) (c : String) (G : DG) (Q : DK) (hc : c ∈ refusals) (h : Q (.tup [.str "refused", .str c]) G) : t_term a c EF { nx := fun _ G' => Q .non G', rt := Q } (dstart ["e", "flags", "kinds", "flag"] [.ref a]) G := by
  simp only [t_term, sSeq, sSet, dLst, dCons, dNil, dIsE, dOp, dVar, dC, dstart, sIf, dOr, dTest, dB, dLc, dIterL, dNot, sRet, sNext, dTup, dMt, List.map_cons, List.map_nil, List.replicate, List.length_cons, List.length_nil]
  refine ⟨rfl, rfl, rfl, rfl, by decide, _, rfl, rfl, rfl, rfl, rfl, by decide, _, rfl, _, rfl, rfl, rfl, rfl, rfl, by decide, _, rfl, _, rfl, rfl, by decide, _, rfl, by decide, _, rfl, by decide, _, rfl, _, rfl, _, rfl, (by simp), ?_⟩
  refine eLcL_ok (et := eC true) (e := eB pyIntS (eCons (eVar 3) (eC []))) (ys := kinds13.map fun k => D.int (if (c == k) = true then 1 else 0)) ev_yes (ev_b m_int (ev_cons (ev_var 3) ev_nil)) (fun G => rfl) (by kernel_rfl) ?_
  simp only [refusals, List.mem_cons, List.not_mem_nil, or_false] at hc
  rcases hc with rfl | rfl | rfl | rfl | rfl | rfl | rfl | rfl | rfl | rfl | rfl | rfl
  all_goals
    refine ⟨.int 1, by kernel_rfl, .bl false, by kernel_rfl, false, rfl, ?_⟩
    simp only [Bool.false_eq_true, if_false]
    refine ⟨rfl, true, rfl, ?_⟩
    simp only [Bool.not_true, Bool.false_eq_true, if_false]
    refine ⟨_, rfl, _, rfl, by kernel_rfl, ?_⟩
  · exact ⟨.int 0, G, by kernel_rfl, _, by kernel_rfl, by decide, h⟩
  · exact ⟨.int 1, G, by kernel_rfl, _, by kernel_rfl, by decide, h⟩
  · exact ⟨.int 2, G, by kernel_rfl, _, by kernel_rfl, by decide, h⟩
  · exact ⟨.int 3, G, by kernel_rfl, _, by kernel_rfl, by decide, h⟩
  · exact ⟨.int 4, G, by kernel_rfl, _, by kernel_rfl, by decide, h⟩
  · exact ⟨.int 5, G, by kernel_rfl, _, by kernel_rfl, by decide, h⟩
  · exact ⟨.int 6, G, by kernel_rfl, _, by kernel_rfl, by decide, h⟩
  · exact ⟨.int 7, G, by kernel_rfl, _, by kernel_rfl, by decide, h⟩
  · exact ⟨.int 9, G, by kernel_rfl, _, by kernel_rfl, by decide, h⟩
  · exact ⟨.int 10, G, by kernel_rfl, _, by kernel_rfl, by decide, h⟩
  · exact ⟨.int 11, G, by kernel_rfl, _, by kernel_rfl, by decide, h⟩
  · exact ⟨.int 12, G, by kernel_rfl, _, by kernel_rfl, by decide, h⟩

theorem _law_term_ok (fx : Fx P w K T mg base) : DTerm P w K T mg base 1 := by
  obtain ⟨fd, F⟩ := fx.fd__law_term
  exact dterm_of (t := t_term) F fx.mg__law_term sc__law_term (fun _ _ _ _ _ _ us hl => match us, hl with | [_], _ => rfl) (fun cdv A outer s H p c hot hr hz hf hc => (qs_cons (qs_set sc__law_term.nd rfl (by first | exact Or.inl rfl | exact Or.inr rfl) (q_lst (qa_cons (q_isE (fx.told.exc c hc) hz hf List.mem_cons_self rfl (fx.free "isinstance" (by decide)) rfl (Or.inl rfl) (pe_glob rfl (fx.mgC "BadProgram" (by decide)) (v := .ref (He.ga K (S "BadProgram"))) rfl) (fun _ h => h) (fx.told.kit c hc "BadProgram" (by decide))) (qa_cons (q_isE (fx.told.exc c hc) hz hf List.mem_cons_self rfl (fx.free "isinstance" (by decide)) rfl (Or.inl rfl) (pe_glob rfl (fx.mgC "BadRights" (by decide)) (v := .ref (He.ga K (S "BadRights"))) rfl) (fun _ h => h) (fx.told.kit c hc "BadRights" (by decide))) (qa_cons (q_isE (fx.told.exc c hc) hz hf List.mem_cons_self rfl (fx.free "isinstance" (by decide)) rfl (Or.inl rfl) (pe_glob rfl (fx.mgC "BadNumber" (by decide)) (v := .ref (He.ga K (S "BadNumber"))) rfl) (fun _ h => h) (fx.told.kit c hc "BadNumber" (by decide))) (qa_cons (q_isE (fx.told.exc c hc) hz hf List.mem_cons_self rfl (fx.free "isinstance" (by decide)) rfl (Or.inl rfl) (pe_glob rfl (fx.mgC "BadFeeds" (by decide)) (v := .ref (He.ga K (S "BadFeeds"))) rfl) (fun _ h => h) (fx.told.kit c hc "BadFeeds" (by decide))) qa_nil)))))) (qs_cons (qs_set sc__law_term.nd rfl (by first | exact Or.inl rfl | exact Or.inr rfl) (q_op op_pyAdd (qv 1) (q_lst (qa_cons (q_isE (fx.told.exc c hc) hz hf List.mem_cons_self rfl (fx.free "isinstance" (by decide)) rfl (Or.inl rfl) (pe_glob rfl (fx.mgC "BadPaper" (by decide)) (v := .ref (He.ga K (S "BadPaper"))) rfl) (fun _ h => h) (fx.told.kit c hc "BadPaper" (by decide))) (qa_cons (q_isE (fx.told.exc c hc) hz hf List.mem_cons_self rfl (fx.free "isinstance" (by decide)) rfl (Or.inl rfl) (pe_glob rfl (fx.mgC "BadName" (by decide)) (v := .ref (He.ga K (S "BadName"))) rfl) (fun _ h => h) (fx.told.kit c hc "BadName" (by decide))) (qa_cons (q_isE (fx.told.exc c hc) hz hf List.mem_cons_self rfl (fx.free "isinstance" (by decide)) rfl (Or.inl rfl) (pe_glob rfl (fx.mgC "Taken" (by decide)) (v := .ref (He.ga K (S "Taken"))) rfl) (fun _ h => h) (fx.told.kit c hc "Taken" (by decide))) (qa_cons (q_isE (fx.told.exc c hc) hz hf List.mem_cons_self rfl (fx.free "isinstance" (by decide)) rfl (Or.inl rfl) (pe_glob rfl (fx.mgC "NoName" (by decide)) (v := .ref (He.ga K (S "NoName"))) rfl) (fun _ h => h) (fx.told.kit c hc "NoName" (by decide))) qa_nil))))))) (qs_cons (qs_set sc__law_term.nd rfl (by first | exact Or.inl rfl | exact Or.inr rfl) (q_op op_pyAdd (qv 1) (q_lst (qa_cons (q_isE (fx.told.exc c hc) hz hf List.mem_cons_self rfl (fx.free "isinstance" (by decide)) rfl (Or.inl rfl) (pe_glob rfl (fx.mgC "TooMuch" (by decide)) (v := .ref (He.ga K (S "TooMuch"))) rfl) (fun _ h => h) (fx.told.kit c hc "TooMuch" (by decide))) (qa_cons (q_isE (fx.told.exc c hc) hz hf List.mem_cons_self rfl (fx.free "isinstance" (by decide)) rfl (Or.inl rfl) (pe_glob rfl (fx.mgC "Nothing" (by decide)) (v := .ref (He.ga K (S "Nothing"))) rfl) (fun _ h => h) (fx.told.kit c hc "Nothing" (by decide))) (qa_cons (q_isE (fx.told.exc c hc) hz hf List.mem_cons_self rfl (fx.free "isinstance" (by decide)) rfl (Or.inl rfl) (pe_glob rfl (fx.mgC "BadPicture" (by decide)) (v := .ref (He.ga K (S "BadPicture"))) rfl) (fun _ h => h) (fx.told.kit c hc "BadPicture" (by decide))) (qa_cons (q_isE (fx.told.exc c hc) hz hf List.mem_cons_self rfl (fx.free "isinstance" (by decide)) rfl (Or.inl rfl) (pe_glob rfl (fx.mgC "BadLog" (by decide)) (v := .ref (He.ga K (S "BadLog"))) rfl) (fun _ h => h) (fx.told.kit c hc "BadLog" (by decide))) qa_nil))))))) (qs_cons (qs_set sc__law_term.nd rfl (by first | exact Or.inl rfl | exact Or.inr rfl) (q_op op_pyAdd (qv 1) (q_lst (qa_cons (q_isE (fx.told.exc c hc) hz hf List.mem_cons_self rfl (fx.free "isinstance" (by decide)) rfl (Or.inl rfl) (pe_glob rfl (fx.mgC "BadText" (by decide)) (v := .ref (He.ga K (S "BadText"))) rfl) (fun _ h => h) (fx.told.kit c hc "BadText" (by decide))) qa_nil)))) (qs_cons (qs_set sc__law_term.nd rfl (by first | exact Or.inl rfl | exact Or.inr rfl) (q_lst (qa_cons q_str (qa_cons q_str (qa_cons q_str (qa_cons q_str (qa_cons q_str (qa_cons q_str (qa_cons q_str (qa_cons q_str (qa_cons q_str qa_nil))))))))))) (qs_cons (qs_set sc__law_term.nd rfl (by first | exact Or.inl rfl | exact Or.inr rfl) (q_op op_pyAdd (qv 2) (q_lst (qa_cons q_str (qa_cons q_str (qa_cons q_str (qa_cons q_str qa_nil))))))) (qs_cons (qs_if (qt_w (qw_or (q_cmpT (op_pyNe (hotu hr)) (q_callB (call_pySumQ ⟨p, hot, List.mem_cons_self⟩) rfl (fx.free "sum" (by decide)) boot_sum (qa_cons (q_lcQ [("flag", 3)] ⟨p, hot, List.mem_cons_self⟩ sc__law_term.nd (qiq_it (qv 1)) (blkOk_by (by kernel_rfl)) rfl (fun s H C cl fp => pg_name sc__law_term.nd rfl (by first | exact Or.inl rfl | exact Or.inr rfl)) (fun s H C cl fp => qts_nil) (fun s H C cl fp => q_callTy call_pyIntS rfl (fx.free "int" (by decide)) boot_int (qa_cons (qv 3) qa_nil))) qa_nil)) q_int (nomark _)) (qw_or1 (qt_not (qt_val (q_isE (fx.told.exc c hc) hz hf List.mem_cons_self rfl (fx.free "isinstance" (by decide)) rfl (Or.inl rfl) (pe_bltn rfl (fx.free "ValueError" (by decide)) bootVE (v := .ty "ValueError") rfl) (fun _ h => h) (fx.told.kitV c hc))))))) (qs_one (qs_ret (q_tup (qa_cons q_str (qa_cons q_str qa_nil))))) qs_nil) (qs_one (qs_ret (q_tup (qa_cons q_str (qa_cons (q_item (hotu1 hr) (qv 2) (q_mt PySem.F.plainAttrs_list PySem.F.slot_list_index PySem.F.type_list_index mt_mIndex (qv 1) (qa_cons q_bl qa_nil))) qa_nil))))))))))))) term_plain
theorem _law_told_ok (fx : Fx P w K T mg base) : DTold P w K T mg base 6 := by
  obtain ⟨fd, F⟩ := fx.fd__law_told
  exact dtold_of F fx.mg__law_told ⟨rfl, rfl, rfl, by decide +kernel, rfl, by decide +kernel, by decide +kernel⟩ (fun _ _ _ _ _ _ _ us hl => match us, hl with | [_], _ => rfl) fx.told ((_law_term_ok fx).mono (by decide)) (Or.inl rfl) rfl rfl rfl rfl (fx.mgC "TooMuch" (by decide)) (fx.mgC "CageError" (by decide))
def t_law : DTS := (sSeq (sFor (dIter (dCall sp__law_rounds (dCons (dVar 0) (dCons (dC (.int 4)) dNil)))) (.n 1) (sSeq (sSet 2 (dOp pyItem (dLst (dCons (dC (.str "set")) (dCons (dC (.str "add")) (dCons (dC (.str "end")) (dCons (dC (.str "ask")) dNil))))) (dCall sp__law_roll (dCons (dVar 1) (dCons (dC (.int 4)) dNil))))) (sSeq (sSet 3 (dLst (dCons (dC .non) (dCons (dC (.int 5)) (dCons (dC (.bl true)) (dCons (dC (.str "")) (dCons (dC (.str " ")) (dCons (dC (.str "\n")) (dCons (dC (.str "End")) (dCons (dC (.str "end ")) (dCons (dC (.str " end")) (dCons (dC (.str "end\n")) (dCons (dC (.str "end\n\nend")) (dCons (dC (.str "set 0")) dNil)))))))))))))) (sSeq (sSet 3 (dOp pyAdd (dVar 3) (dLst (dCons (dC (.str "set 0 1 2")) (dCons (dC (.str "set 4 1")) (dCons (dC (.str "set 0 1000")) (dCons (dC (.str "set 0 -0")) dNil))))))) (sSeq (sSet 3 (dOp pyAdd (dVar 3) (dLst (dCons (dC (.str "set 0 01")) (dCons (dC (.str "set 00 1")) (dCons (dC (.str "set 0 +1")) (dCons (dC (.str "set a 1")) (dCons (dC (.str "go -1")) (dCons (dC (.str "go 100")) (dCons (dC (.str "ask 0 In")) dNil)))))))))) (sSeq (sSet 3 (dOp pyAdd (dVar 3) (dLst (dCons (dC (.str "ask 0")) (dCons (dC (.str "look 0 1")) (dCons (dC (.str "jump 1")) (dCons (dLst (dCons (dC (.str "end")) dNil)) (dCons (dOp pyAdd (dVar 2) (dC (.str "  0"))) dNil)))))))) (sSeq (sFor (dIter (dOp pyAdd (dVar 3) (dLst (dCons (dMt "str" mJoin (dC (.str "\n")) (dCons (dOp pyMul (dLst (dCons (dC (.str "end")) dNil)) (dC (.int 41))) dNil)) (dCons (dC (.str "set 0 one")) dNil))))) (.n 4) (sIf (dTest (dOp pyNe (dTold (dCall sp_read_program (dCons (dVar 4) dNil))) (dTup (dCons (dC (.str "refused")) (dCons (dC (.str "BadText")) dNil))))) (sRet (dC (.bl false))) sNext)) (sSeq (sSet 5 (dLst (dCons (dC .non) (dCons (dC (.int 5)) (dCons (dC (.bl true)) (dCons (dC (.str "")) (dCons (dC (.str " ")) (dCons (dC (.str "61")) (dCons (dC (.str "-1")) (dCons (dC (.str "01")) (dCons (dC (.str "1 ")) (dCons (dC (.str " 1")) (dCons (dC (.str "1  ?a")) (dCons (dC (.str "1 a")) (dCons (dC (.str "1 ?")) dNil))))))))))))))) (sSeq (sSet 5 (dOp pyAdd (dVar 5) (dLst (dCons (dC (.str "1 ?A")) (dCons (dC (.str "1 ?b ?a")) (dCons (dC (.str "1 ?a ?a")) (dCons (dC (.str "1 !a ?a")) (dCons (dC (.str "?a")) (dCons (dC (.str "1 ?a,b")) dNil))))))))) (sSeq (sFor (dIter (dOp pyAdd (dVar 5) (dLst (dCons (dOp pyAdd (dC (.str "1")) (dMt "str" mJoin (dC (.str "")) (dCons (dLc (dIter (dC (.str "abcdefg"))) (.n 6) dYes (dOp pyAdd (dC (.str " ?")) (dVar 6)) [6]) dNil))) (dCons (dTup (dCons (dC (.str "1")) dNil)) dNil))))) (.n 4) (sIf (dTest (dOp pyNe (dTold (dCall sp_read_rights (dCons (dVar 4) dNil))) (dTup (dCons (dC (.str "refused")) (dCons (dC (.str "BadText")) dNil))))) (sRet (dC (.bl false))) sNext)) (sSeq (sIf (dTest (dOp pyNe (dB pyLen (dCons (dCall sp_read_program (dCons (dMt "str" mJoin (dC (.str "\n")) (dCons (dOp pyMul (dLst (dCons (dC (.str "end")) dNil)) (dC (.int 40))) dNil)) dNil)) dNil)) (dC (.int 40)))) (sRet (dC (.bl false))) sNext) (sSeq (sIf (dTest (dOp pyNe (dCall sp_read_program (dCons (dC (.str "set 3 -999")) dNil)) (dTup (dCons (dTup (dCons (dC (.str "set")) (dCons (dC (.int 3)) (dCons (dUn pyNeg (dC (.int 999))) dNil)))) dNil)))) (sRet (dC (.bl false))) sNext) (sSeq (sIf (dTest (dOp pyNe (dCall sp_read_rights (dCons (dC (.str "60 ?a !a <a >a")) dNil)) (dTup (dCons (dC (.int 60)) (dCons (dTup (dCons (dC (.str "a")) dNil)) (dCons (dTup (dCons (dC (.str "a")) dNil)) (dCons (dTup (dCons (dC (.str "a")) dNil)) (dCons (dTup (dCons (dC (.str "a")) dNil)) dNil)))))))) (sRet (dC (.bl false))) sNext) (sIf (dTest (dOp pyNe (dCall sp_rights_text (dCons (dTup (dCons (dC (.int 0)) (dCons (dTup dNil) (dCons (dTup dNil) (dCons (dTup dNil) (dCons (dTup dNil) dNil)))))) dNil)) (dC (.str "0")))) (sRet (dC (.bl false))) sNext)))))))))))))) (sRet (dC (.bl true))))
abbrev sp_law : DSp := spOf ["script", "dice", "word", "far", "thing", "rows", "sign"] 1 t_law
theorem sc_law : FnScope ["script", "dice", "word", "far", "thing", "rows", "sign"] ["script"] (defScope s_law) := ⟨rfl, rfl, rfl, by decide +kernel, rfl, by decide +kernel, by decide +kernel⟩
theorem lam (fx : Fx P w K T mg base) (cdv : Value) (A : Around) (outer : List Env) (s : Shared) (H : Hp) (E : XK) (hcd : cdv = .ref (He.codeOf K ("law", none))) : LamT (cxOf (L2N.CX P w) P w K mg base ["script", "dice", "word", "far", "thing", "rows", "sign"] "law" (defScope s_law) (He.ga K "law") cdv A outer s H E) T := by
  obtain ⟨Pt, tb, e⟩ := fx.lamt
  exact ⟨_, Pt, tb, hcd, by rw [e]; exact List.mem_cons_self, fun p hp _ => by rw [e] at hp; rw [List.mem_singleton.mp hp]; rfl⟩
def t_law_rest : DTS := (sSeq (sSet 3 (dLst (dCons (dC .non) (dCons (dC (.int 5)) (dCons (dC (.bl true)) (dCons (dC (.str "")) (dCons (dC (.str " ")) (dCons (dC (.str "\n")) (dCons (dC (.str "End")) (dCons (dC (.str "end ")) (dCons (dC (.str " end")) (dCons (dC (.str "end\n")) (dCons (dC (.str "end\n\nend")) (dCons (dC (.str "set 0")) dNil)))))))))))))) (sSeq (sSet 3 (dOp pyAdd (dVar 3) (dLst (dCons (dC (.str "set 0 1 2")) (dCons (dC (.str "set 4 1")) (dCons (dC (.str "set 0 1000")) (dCons (dC (.str "set 0 -0")) dNil))))))) (sSeq (sSet 3 (dOp pyAdd (dVar 3) (dLst (dCons (dC (.str "set 0 01")) (dCons (dC (.str "set 00 1")) (dCons (dC (.str "set 0 +1")) (dCons (dC (.str "set a 1")) (dCons (dC (.str "go -1")) (dCons (dC (.str "go 100")) (dCons (dC (.str "ask 0 In")) dNil)))))))))) (sSeq (sSet 3 (dOp pyAdd (dVar 3) (dLst (dCons (dC (.str "ask 0")) (dCons (dC (.str "look 0 1")) (dCons (dC (.str "jump 1")) (dCons (dLst (dCons (dC (.str "end")) dNil)) (dCons (dOp pyAdd (dVar 2) (dC (.str "  0"))) dNil)))))))) (sSeq (sFor (dIter (dOp pyAdd (dVar 3) (dLst (dCons (dMt "str" mJoin (dC (.str "\n")) (dCons (dOp pyMul (dLst (dCons (dC (.str "end")) dNil)) (dC (.int 41))) dNil)) (dCons (dC (.str "set 0 one")) dNil))))) (.n 4) (sIf (dTest (dOp pyNe (dTold (dCall sp_read_program (dCons (dVar 4) dNil))) (dTup (dCons (dC (.str "refused")) (dCons (dC (.str "BadText")) dNil))))) (sRet (dC (.bl false))) sNext)) (sSeq (sSet 5 (dLst (dCons (dC .non) (dCons (dC (.int 5)) (dCons (dC (.bl true)) (dCons (dC (.str "")) (dCons (dC (.str " ")) (dCons (dC (.str "61")) (dCons (dC (.str "-1")) (dCons (dC (.str "01")) (dCons (dC (.str "1 ")) (dCons (dC (.str " 1")) (dCons (dC (.str "1  ?a")) (dCons (dC (.str "1 a")) (dCons (dC (.str "1 ?")) dNil))))))))))))))) (sSeq (sSet 5 (dOp pyAdd (dVar 5) (dLst (dCons (dC (.str "1 ?A")) (dCons (dC (.str "1 ?b ?a")) (dCons (dC (.str "1 ?a ?a")) (dCons (dC (.str "1 !a ?a")) (dCons (dC (.str "?a")) (dCons (dC (.str "1 ?a,b")) dNil))))))))) (sSeq (sFor (dIter (dOp pyAdd (dVar 5) (dLst (dCons (dOp pyAdd (dC (.str "1")) (dMt "str" mJoin (dC (.str "")) (dCons (dLc (dIter (dC (.str "abcdefg"))) (.n 6) dYes (dOp pyAdd (dC (.str " ?")) (dVar 6)) [6]) dNil))) (dCons (dTup (dCons (dC (.str "1")) dNil)) dNil))))) (.n 4) (sIf (dTest (dOp pyNe (dTold (dCall sp_read_rights (dCons (dVar 4) dNil))) (dTup (dCons (dC (.str "refused")) (dCons (dC (.str "BadText")) dNil))))) (sRet (dC (.bl false))) sNext)) (sSeq (sIf (dTest (dOp pyNe (dB pyLen (dCons (dCall sp_read_program (dCons (dMt "str" mJoin (dC (.str "\n")) (dCons (dOp pyMul (dLst (dCons (dC (.str "end")) dNil)) (dC (.int 40))) dNil)) dNil)) dNil)) (dC (.int 40)))) (sRet (dC (.bl false))) sNext) (sSeq (sIf (dTest (dOp pyNe (dCall sp_read_program (dCons (dC (.str "set 3 -999")) dNil)) (dTup (dCons (dTup (dCons (dC (.str "set")) (dCons (dC (.int 3)) (dCons (dUn pyNeg (dC (.int 999))) dNil)))) dNil)))) (sRet (dC (.bl false))) sNext) (sSeq (sIf (dTest (dOp pyNe (dCall sp_read_rights (dCons (dC (.str "60 ?a !a <a >a")) dNil)) (dTup (dCons (dC (.int 60)) (dCons (dTup (dCons (dC (.str "a")) dNil)) (dCons (dTup (dCons (dC (.str "a")) dNil)) (dCons (dTup (dCons (dC (.str "a")) dNil)) (dCons (dTup (dCons (dC (.str "a")) dNil)) dNil)))))))) (sRet (dC (.bl false))) sNext) (sIf (dTest (dOp pyNe (dCall sp_rights_text (dCons (dTup (dCons (dC (.int 0)) (dCons (dTup dNil) (dCons (dTup dNil) (dCons (dTup dNil) (dCons (dTup dNil) dNil)))))) dNil)) (dC (.str "0")))) (sRet (dC (.bl false))) sNext))))))))))))
def x_law_rest : EvX := xSeq (xSet 3 (eLst (eCons (eC .non) (eCons (eC (.int 5)) (eCons (eC (.bl true)) (eCons (eC (.str "")) (eCons (eC (.str " ")) (eCons (eC (.str "\n")) (eCons (eC (.str "End")) (eCons (eC (.str "end ")) (eCons (eC (.str " end")) (eCons (eC (.str "end\n")) (eCons (eC (.str "end\n\nend")) (eCons (eC (.str "set 0")) (eC []))))))))))))))) (xSeq (xSet 3 (eOp pyAdd (eVar 3) (eLst (eCons (eC (.str "set 0 1 2")) (eCons (eC (.str "set 4 1")) (eCons (eC (.str "set 0 1000")) (eCons (eC (.str "set 0 -0")) (eC [])))))))) (xSeq (xSet 3 (eOp pyAdd (eVar 3) (eLst (eCons (eC (.str "set 0 01")) (eCons (eC (.str "set 00 1")) (eCons (eC (.str "set 0 +1")) (eCons (eC (.str "set a 1")) (eCons (eC (.str "go -1")) (eCons (eC (.str "go 100")) (eCons (eC (.str "ask 0 In")) (eC []))))))))))) (xSeq (xSet 3 (eOp pyAdd (eVar 3) (eLst (eCons (eC (.str "ask 0")) (eCons (eC (.str "look 0 1")) (eCons (eC (.str "jump 1")) (eCons (eLst (eCons (eC (.str "end")) (eC []))) (eCons (eOp pyAdd (eVar 2) (eC (.str "  0"))) (eC []))))))))) (xSeq (xFor (eIter (eOp pyAdd (eVar 3) (eLst (eCons (eMt "str" mJoin (eC (.str "\n")) (eCons (eOp pyMul (eLst (eCons (eC (.str "end")) (eC []))) (eC (.int 41))) (eC []))) (eCons (eC (.str "set 0 one")) (eC [])))))) (.n 4) (xIf (eTest (eOp pyNe (eTold (eCall e_read_program (eCons (eVar 4) (eC [])))) (eTup (eCons (eC (.str "refused")) (eCons (eC (.str "BadText")) (eC [])))))) (xRet (eC (.bl false))) (xNext))) (xSeq (xSet 5 (eLst (eCons (eC .non) (eCons (eC (.int 5)) (eCons (eC (.bl true)) (eCons (eC (.str "")) (eCons (eC (.str " ")) (eCons (eC (.str "61")) (eCons (eC (.str "-1")) (eCons (eC (.str "01")) (eCons (eC (.str "1 ")) (eCons (eC (.str " 1")) (eCons (eC (.str "1  ?a")) (eCons (eC (.str "1 a")) (eCons (eC (.str "1 ?")) (eC [])))))))))))))))) (xSeq (xSet 5 (eOp pyAdd (eVar 5) (eLst (eCons (eC (.str "1 ?A")) (eCons (eC (.str "1 ?b ?a")) (eCons (eC (.str "1 ?a ?a")) (eCons (eC (.str "1 !a ?a")) (eCons (eC (.str "?a")) (eCons (eC (.str "1 ?a,b")) (eC [])))))))))) (xSeq (xFor (eIter (eOp pyAdd (eVar 5) (eLst (eCons (eOp pyAdd (eC (.str "1")) (eMt "str" mJoin (eC (.str "")) (eCons (eLc (eIter (eC (.str "abcdefg"))) (.n 6) (eC true) (eOp pyAdd (eC (.str " ?")) (eVar 6)) [6]) (eC [])))) (eCons (eTup (eCons (eC (.str "1")) (eC []))) (eC [])))))) (.n 4) (xIf (eTest (eOp pyNe (eTold (eCall e_read_rights (eCons (eVar 4) (eC [])))) (eTup (eCons (eC (.str "refused")) (eCons (eC (.str "BadText")) (eC [])))))) (xRet (eC (.bl false))) (xNext))) (xSeq (xIf (eTest (eOp pyNe (eB pyLen (eCons (eCall e_read_program (eCons (eMt "str" mJoin (eC (.str "\n")) (eCons (eOp pyMul (eLst (eCons (eC (.str "end")) (eC []))) (eC (.int 40))) (eC []))) (eC []))) (eC []))) (eC (.int 40)))) (xRet (eC (.bl false))) (xNext)) (xSeq (xIf (eTest (eOp pyNe (eCall e_read_program (eCons (eC (.str "set 3 -999")) (eC []))) (eTup (eCons (eTup (eCons (eC (.str "set")) (eCons (eC (.int 3)) (eCons (eUn pyNeg (eC (.int 999))) (eC []))))) (eC []))))) (xRet (eC (.bl false))) (xNext)) (xSeq (xIf (eTest (eOp pyNe (eCall e_read_rights (eCons (eC (.str "60 ?a !a <a >a")) (eC []))) (eTup (eCons (eC (.int 60)) (eCons (eTup (eCons (eC (.str "a")) (eC []))) (eCons (eTup (eCons (eC (.str "a")) (eC []))) (eCons (eTup (eCons (eC (.str "a")) (eC []))) (eCons (eTup (eCons (eC (.str "a")) (eC []))) (eC []))))))))) (xRet (eC (.bl false))) (xNext)) (xIf (eTest (eOp pyNe (eCall e_rights_text (eCons (eTup (eCons (eC (.int 0)) (eCons (eTup (eC [])) (eCons (eTup (eC [])) (eCons (eTup (eC [])) (eCons (eTup (eC [])) (eC []))))))) (eC []))) (eC (.str "0")))) (xRet (eC (.bl false))) (xNext))))))))))))
theorem xv_law_rest : EvS t_law_rest x_law_rest := xv_seq (xv_set (ev_lst (ev_cons (ev_c _) (ev_cons (ev_c _) (ev_cons (ev_c _) (ev_cons (ev_c _) (ev_cons (ev_c _) (ev_cons (ev_c _) (ev_cons (ev_c _) (ev_cons (ev_c _) (ev_cons (ev_c _) (ev_cons (ev_c _) (ev_cons (ev_c _) (ev_cons (ev_c _) (ev_nil))))))))))))))) (xv_seq (xv_set (ev_op m_add (ev_var 3) (ev_lst (ev_cons (ev_c _) (ev_cons (ev_c _) (ev_cons (ev_c _) (ev_cons (ev_c _) (ev_nil)))))))) (xv_seq (xv_set (ev_op m_add (ev_var 3) (ev_lst (ev_cons (ev_c _) (ev_cons (ev_c _) (ev_cons (ev_c _) (ev_cons (ev_c _) (ev_cons (ev_c _) (ev_cons (ev_c _) (ev_cons (ev_c _) (ev_nil))))))))))) (xv_seq (xv_set (ev_op m_add (ev_var 3) (ev_lst (ev_cons (ev_c _) (ev_cons (ev_c _) (ev_cons (ev_c _) (ev_cons (ev_lst (ev_cons (ev_c _) (ev_nil))) (ev_cons (ev_op m_add (ev_var 2) (ev_c _)) (ev_nil))))))))) (xv_seq (xv_for (ev_iter (ev_op m_add (ev_var 3) (ev_lst (ev_cons (ev_mt m_join (ev_c _) (ev_cons (ev_op m_mul (ev_lst (ev_cons (ev_c _) (ev_nil))) (ev_c _)) (ev_nil))) (ev_cons (ev_c _) (ev_nil)))))) (xv_if (ev_test (ev_op m_ne (ev_told (ev_call ev_read_program (ev_cons (ev_var 4) (ev_nil)))) (ev_tup (ev_cons (ev_c _) (ev_cons (ev_c _) (ev_nil)))))) (xv_ret (ev_c _)) (xv_next))) (xv_seq (xv_set (ev_lst (ev_cons (ev_c _) (ev_cons (ev_c _) (ev_cons (ev_c _) (ev_cons (ev_c _) (ev_cons (ev_c _) (ev_cons (ev_c _) (ev_cons (ev_c _) (ev_cons (ev_c _) (ev_cons (ev_c _) (ev_cons (ev_c _) (ev_cons (ev_c _) (ev_cons (ev_c _) (ev_cons (ev_c _) (ev_nil)))))))))))))))) (xv_seq (xv_set (ev_op m_add (ev_var 5) (ev_lst (ev_cons (ev_c _) (ev_cons (ev_c _) (ev_cons (ev_c _) (ev_cons (ev_c _) (ev_cons (ev_c _) (ev_cons (ev_c _) (ev_nil)))))))))) (xv_seq (xv_for (ev_iter (ev_op m_add (ev_var 5) (ev_lst (ev_cons (ev_op m_add (ev_c _) (ev_mt m_join (ev_c _) (ev_cons (ev_lc (ev_iter (ev_c _)) (ev_yes) (ev_op m_add (ev_c _) (ev_var 6))) (ev_nil)))) (ev_cons (ev_tup (ev_cons (ev_c _) (ev_nil))) (ev_nil)))))) (xv_if (ev_test (ev_op m_ne (ev_told (ev_call ev_read_rights (ev_cons (ev_var 4) (ev_nil)))) (ev_tup (ev_cons (ev_c _) (ev_cons (ev_c _) (ev_nil)))))) (xv_ret (ev_c _)) (xv_next))) (xv_seq (xv_if (ev_test (ev_op m_ne (ev_b m_len (ev_cons (ev_call ev_read_program (ev_cons (ev_mt m_join (ev_c _) (ev_cons (ev_op m_mul (ev_lst (ev_cons (ev_c _) (ev_nil))) (ev_c _)) (ev_nil))) (ev_nil))) (ev_nil))) (ev_c _))) (xv_ret (ev_c _)) (xv_next)) (xv_seq (xv_if (ev_test (ev_op m_ne (ev_call ev_read_program (ev_cons (ev_c _) (ev_nil))) (ev_tup (ev_cons (ev_tup (ev_cons (ev_c _) (ev_cons (ev_c _) (ev_cons (ev_un m_neg (ev_c _)) (ev_nil))))) (ev_nil))))) (xv_ret (ev_c _)) (xv_next)) (xv_seq (xv_if (ev_test (ev_op m_ne (ev_call ev_read_rights (ev_cons (ev_c _) (ev_nil))) (ev_tup (ev_cons (ev_c _) (ev_cons (ev_tup (ev_cons (ev_c _) (ev_nil))) (ev_cons (ev_tup (ev_cons (ev_c _) (ev_nil))) (ev_cons (ev_tup (ev_cons (ev_c _) (ev_nil))) (ev_cons (ev_tup (ev_cons (ev_c _) (ev_nil))) (ev_nil))))))))) (xv_ret (ev_c _)) (xv_next)) (xv_if (ev_test (ev_op m_ne (ev_call ev_rights_text (ev_cons (ev_tup (ev_cons (ev_c _) (ev_cons (ev_tup (ev_nil)) (ev_cons (ev_tup (ev_nil)) (ev_cons (ev_tup (ev_nil)) (ev_cons (ev_tup (ev_nil)) (ev_nil))))))) (ev_nil))) (ev_c _))) (xv_ret (ev_c _)) (xv_next))))))))))))
theorem law_fn (fx : Fx P w K T mg base) {fd : FuncData} (F : FunD K "law" "law" (defArgs s_law) (defBody s_law) (defScope s_law) [] [] (He.ga K "law") fd) : FnOk P w K mg base (L2N.CX P w) 9 (He.ga K "law") fd ["script"] (liftSp K T sp_law) :=
  fnk_of F sc_law (fun cdv A outer s H E hcd hr => (qs_cons (qs_for (passes_of rfl) rfl (qi_it (q_call (_law_rounds_ok fx) hr (by decide) (L2N.takes_of rfl rfl rfl rfl) rfl (qa_cons (qv 0) (qa_cons (q_int) qa_nil)))) (pg_name sc_law.nd rfl (by first | exact Or.inl rfl | exact Or.inr rfl)) (qs_cons (qs_set sc_law.nd rfl (by first | exact Or.inl rfl | exact Or.inr rfl) (q_item (hu_of hr) (q_lst (qa_cons (q_str) (qa_cons (q_str) (qa_cons (q_str) (qa_cons (q_str) qa_nil))))) (q_call (_law_roll_ok fx) hr (by decide) (L2N.takes_of rfl rfl rfl rfl) rfl (qa_cons (qv 1) (qa_cons (q_int) qa_nil))))) (qs_cons (qs_set sc_law.nd rfl (by first | exact Or.inl rfl | exact Or.inr rfl) (q_lst (qa_cons (q_non) (qa_cons (q_int) (qa_cons (q_bl) (qa_cons (q_str) (qa_cons (q_str) (qa_cons (q_str) (qa_cons (q_str) (qa_cons (q_str) (qa_cons (q_str) (qa_cons (q_str) (qa_cons (q_str) (qa_cons (q_str) qa_nil)))))))))))))) (qs_cons (qs_set sc_law.nd rfl (by first | exact Or.inl rfl | exact Or.inr rfl) (q_op op_pyAdd (qv 3) (q_lst (qa_cons (q_str) (qa_cons (q_str) (qa_cons (q_str) (qa_cons (q_str) qa_nil))))))) (qs_cons (qs_set sc_law.nd rfl (by first | exact Or.inl rfl | exact Or.inr rfl) (q_op op_pyAdd (qv 3) (q_lst (qa_cons (q_str) (qa_cons (q_str) (qa_cons (q_str) (qa_cons (q_str) (qa_cons (q_str) (qa_cons (q_str) (qa_cons (q_str) qa_nil)))))))))) (qs_cons (qs_set sc_law.nd rfl (by first | exact Or.inl rfl | exact Or.inr rfl) (q_op op_pyAdd (qv 3) (q_lst (qa_cons (q_str) (qa_cons (q_str) (qa_cons (q_str) (qa_cons (q_lst (qa_cons (q_str) qa_nil)) (qa_cons (q_op op_pyAdd (qv 2) (q_str)) qa_nil)))))))) (qs_cons (qs_for (passes_of rfl) rfl (qi_it (q_op op_pyAdd (qv 3) (q_lst (qa_cons (q_mt PySem.F.plainAttrs_str PySem.F.slot_str_join PySem.F.type_str_join mt_mJoin (q_str) (qa_cons (q_op op_pyMul (q_lst (qa_cons (q_str) qa_nil)) (q_int)) qa_nil)) (qa_cons (q_str) qa_nil))))) (pg_name sc_law.nd rfl (by first | exact Or.inl rfl | exact Or.inr rfl)) (qs_one (qs_if (q_cmpT (op_pyNe hr.units) (q_told (_law_told_ok fx) (lam fx cdv A outer s H E hcd) rfl hr (by decide) (lamS_by (by kernel_rfl)) (fun A outer s H E f c2 hr => (q_call (read_program_ok fx) hr (by decide) takes_lam rfl (qa_cons (qv 4) qa_nil)))) (q_tup (qa_cons (q_str) (qa_cons (q_str) qa_nil))) (nomark _)) (qs_one (qs_ret (q_bl))) qs_nil))) (qs_cons (qs_set sc_law.nd rfl (by first | exact Or.inl rfl | exact Or.inr rfl) (q_lst (qa_cons (q_non) (qa_cons (q_int) (qa_cons (q_bl) (qa_cons (q_str) (qa_cons (q_str) (qa_cons (q_str) (qa_cons (q_str) (qa_cons (q_str) (qa_cons (q_str) (qa_cons (q_str) (qa_cons (q_str) (qa_cons (q_str) (qa_cons (q_str) qa_nil))))))))))))))) (qs_cons (qs_set sc_law.nd rfl (by first | exact Or.inl rfl | exact Or.inr rfl) (q_op op_pyAdd (qv 5) (q_lst (qa_cons (q_str) (qa_cons (q_str) (qa_cons (q_str) (qa_cons (q_str) (qa_cons (q_str) (qa_cons (q_str) qa_nil))))))))) (qs_cons (qs_for (passes_of rfl) rfl (qi_it (q_op op_pyAdd (qv 5) (q_lst (qa_cons (q_op op_pyAdd (q_str) (q_mt PySem.F.plainAttrs_str PySem.F.slot_str_join PySem.F.type_str_join mt_mJoin (q_str) (qa_cons (q_lc [("sign", 6)] rfl sc_law.nd (qi_it (q_str)) (blkOk_by (by kernel_rfl)) rfl (fun s H C cl fp => (pg_name sc_law.nd rfl (by first | exact Or.inl rfl | exact Or.inr rfl))) (fun s H C cl fp => qts_nil) (fun s H C cl fp => (q_op op_pyAdd (q_str) (qv 6)))) qa_nil))) (qa_cons (q_tup (qa_cons (q_str) qa_nil)) qa_nil))))) (pg_name sc_law.nd rfl (by first | exact Or.inl rfl | exact Or.inr rfl)) (qs_one (qs_if (q_cmpT (op_pyNe hr.units) (q_told (_law_told_ok fx) (lam fx cdv A outer s H E hcd) rfl hr (by decide) (lamS_by (by kernel_rfl)) (fun A outer s H E f c2 hr => (q_call (read_rights_ok fx) hr (by decide) takes_lam rfl (qa_cons (qv 4) qa_nil)))) (q_tup (qa_cons (q_str) (qa_cons (q_str) qa_nil))) (nomark _)) (qs_one (qs_ret (q_bl))) qs_nil))) (qs_cons (qs_if (q_cmpT (op_pyNe hr.units) (q_callB call_pyLen rfl (fx.free "len" (by decide)) boot_len (qa_cons (q_call (read_program_ok fx) hr (by decide) (L2N.takes_of rfl rfl rfl rfl) rfl (qa_cons (q_mt PySem.F.plainAttrs_str PySem.F.slot_str_join PySem.F.type_str_join mt_mJoin (q_str) (qa_cons (q_op op_pyMul (q_lst (qa_cons (q_str) qa_nil)) (q_int)) qa_nil)) qa_nil)) qa_nil)) (q_int) (nomark _)) (qs_one (qs_ret (q_bl))) qs_nil) (qs_cons (qs_if (q_cmpT (op_pyNe hr.units) (q_call (read_program_ok fx) hr (by decide) (L2N.takes_of rfl rfl rfl rfl) rfl (qa_cons (q_str) qa_nil)) (q_tup (qa_cons (q_tup (qa_cons (q_str) (qa_cons (q_int) (qa_cons (q_un un_pyNeg (q_int)) qa_nil)))) qa_nil)) (nomark _)) (qs_one (qs_ret (q_bl))) qs_nil) (qs_cons (qs_if (q_cmpT (op_pyNe hr.units) (q_call (read_rights_ok fx) hr (by decide) (L2N.takes_of rfl rfl rfl rfl) rfl (qa_cons (q_str) qa_nil)) (q_tup (qa_cons (q_int) (qa_cons (q_tup (qa_cons (q_str) qa_nil)) (qa_cons (q_tup (qa_cons (q_str) qa_nil)) (qa_cons (q_tup (qa_cons (q_str) qa_nil)) (qa_cons (q_tup (qa_cons (q_str) qa_nil)) qa_nil)))))) (nomark _)) (qs_one (qs_ret (q_bl))) qs_nil) (qs_one (qs_if (q_cmpT (op_pyNe hr.units) (q_call (rights_text_ok fx) hr (by decide) (L2N.takes_of rfl rfl rfl rfl) rfl (qa_cons (q_tup (qa_cons (q_int) (qa_cons (q_tup qa_nil) (qa_cons (q_tup qa_nil) (qa_cons (q_tup qa_nil) (qa_cons (q_tup qa_nil) qa_nil)))))) qa_nil)) (q_str) (nomark _)) (qs_one (qs_ret (q_bl))) qs_nil))))))))))))))) (qs_one (qs_ret (q_bl)))))
end
end K29

namespace K29
open DL L2 PySem
/-! ### the dice -/
theorem drawn_ok {cell k : Int} {G : DG} {Q : DK} {E : DX → DG → Prop} (h : ∀ r, 0 ≤ r → Q (.int r) G) : sp__law_drawn [.int cell, .int k] G Q E := by
  refine ⟨rfl, ?_⟩
  simp only [t__law_drawn, sSeq, sSet, sRet, dOp, dVar, dC, dstart]
  refine ⟨_, rfl, _, mulS _ _ (by decide), _, rfl, _, rfl, _, mulS _ _ (by decide), _, rfl, _, modP _ _ (by decide), _, rfl, _, rfl, ?_⟩
  generalize ha : (cell * 6364136223846793005 + (k + 1) * 1442695040888963407) % 340282366920938463463374607431768211507 = a
  have a0 : 0 ≤ a := by rw [← ha]; exact Int.emod_nonneg _ (by decide)
  have a1 : a < 2 ^ 129 := by
    have := Int.emod_lt_of_pos (cell * 6364136223846793005 + (k + 1) * 1442695040888963407) (show (0 : Int) < 340282366920938463463374607431768211507 by decide)
    rw [ha] at this
    exact Int.lt_trans this (by decide)
  have aw := pow_600 (by decide) (bits_lt a0 a1)
  refine ⟨_, mulW _ aw aw, _, modP _ _ (by decide), _, rfl, ?_⟩
  generalize hb : a * a % 340282366920938463463374607431768211297 = b
  have b0 : 0 ≤ b := by rw [← hb]; exact Int.emod_nonneg _ (by decide)
  have b1 : b < 2 ^ 128 := by
    have := Int.emod_lt_of_pos (a * a) (show (0 : Int) < 340282366920938463463374607431768211297 by decide)
    rw [hb] at this
    exact Int.lt_trans this (by decide)
  have bw := bits_lt b0 b1
  refine ⟨_, modP _ _ (by decide), _, rfl, _, rfl, _, divP _ _ (by decide) (by decide), _, rfl, ?_⟩
  have c0 : 0 ≤ b % 18446744073709551557 := Int.emod_nonneg _ (by decide)
  have c1 : b % 18446744073709551557 < 18446744073709551557 := Int.emod_lt_of_pos _ (by decide)
  have d0 : 0 ≤ b / 18446744073709551557 := Int.ediv_nonneg b0 (by decide)
  have d1 : b / 18446744073709551557 ≤ b := Int.ediv_le_self _ b0
  have x1 : (b % 18446744073709551557 + 1).natAbs < 2 ^ 65 := bits_lt (by omega) (Int.lt_of_le_of_lt (by omega : _ ≤ (18446744073709551557 : Int)) (by decide))
  have x2 : (b / 18446744073709551557 + 1).natAbs < 2 ^ 129 := bits_lt (by omega) (Int.lt_of_le_of_lt (by omega : _ ≤ (2 : Int) ^ 128) (by decide))
  refine ⟨_, mulW _ (pow_600 (by decide) x1) (pow_600 (by decide) x2), _, rfl, _, mulW _ (pow_600 (m := 65 + 129) (by decide) (wide_lt x1 x2)) (pow_600 (by decide) bw), _, rfl, _, modP _ _ (by decide), h _ (Int.emod_nonneg _ (by decide))⟩
theorem roll_ok {p : Addr} {c k many : Int} {G : DG} {Q : DK} {E : DX → DG → Prop} (hG : G p = some (.lst [.int c, .int k])) (hm : 0 < many) (hm2 : many < 1000000) (h : ∀ r c' k', 0 ≤ r → r < many → Q (.int r) (gset G p (some (.lst [.int c', .int k'])))) : sp__law_roll [.ref p, .int many] G Q E := by
  refine ⟨rfl, ?_⟩
  have aq : asQ G (.ref p) = some [.int c, .int k] := by show lstO (G p) = _; rw [hG]; rfl
  have i0 : pyItem G (.ref p) (.int 0) = some (.int c) := by simp only [pyItem, aq]; rfl
  have i1 : pyItem G (.ref p) (.int 1) = some (.int k) := by simp only [pyItem, aq]; rfl
  have big : many < 2 ^ 600 := Int.lt_trans hm2 (by decide)
  simp only [t__law_roll, sSeq, sSet, sRet, sIf, sSub, sNext, dTest, dOp, dVar, dC, dCons, dNil, dCall, dstart]
  refine ⟨_, rfl, _, i0, _, rfl, _, rfl, _, rfl, ?_⟩
  by_cases hc : (10 : Int) ^ (18 : Int).toNat ≤ c
  · rw [decide_eq_true hc, if_pos rfl]
    refine ⟨_, rfl, _, i0, _, rfl, _, modP _ _ hm, _, rfl, _, i0, _, rfl, _, divP _ _ hm big, _, rfl, gset G p (some (.lst [.int (c / many), .int k])), ?_, _, rfl, ?_⟩
    · simp only [setAt, hG]; rfl
    · exact h _ _ _ (Int.emod_nonneg _ (by omega)) (Int.emod_lt_of_pos _ hm)
  · rw [decide_eq_false hc, if_neg Bool.false_ne_true]
    refine ⟨_, rfl, _, i1, _, rfl, _, rfl, gset G p (some (.lst [.int c, .int (k + 1)])), ?_, ?_⟩
    · simp only [setAt, hG]; rfl
    · have aq' : asQ (gset G p (some (.lst [.int c, .int (k + 1)]))) (.ref p) = some [.int c, .int (k + 1)] := by show lstO (gset G p _ p) = _; rw [gset_same]; rfl
      have j0 : pyItem (gset G p (some (.lst [.int c, .int (k + 1)]))) (.ref p) (.int 0) = some (.int c) := by simp only [pyItem, aq']; rfl
      have j1 : pyItem (gset G p (some (.lst [.int c, .int (k + 1)]))) (.ref p) (.int 1) = some (.int (k + 1)) := by simp only [pyItem, aq']; rfl
      refine ⟨_, rfl, _, j0, _, rfl, _, j1, ?_⟩
      refine drawn_ok fun r hr => ⟨_, divP _ _ (by decide) (by decide), _, rfl, _, modP _ _ hm, ?_⟩
      exact h _ _ _ (Int.emod_nonneg _ (by omega)) (Int.emod_lt_of_pos _ hm)
theorem toPy_ints (G : DG) : ∀ ns : List Int, mapO (toPy G 39) (ns.map .int) = some (ns.map PyData.int)
  | [] => rfl
  | n :: ns => by
    rw [List.map_cons]
    unfold mapO
    rw [toPy_ints G ns]
    rfl
theorem scr_nil (G : DG) (ns : List Int) : pyEq G (.scr ns) (.lst []) = some (.bl (decide (ns = []))) := by
  have e1 : toPy G 40 (.scr ns) = some (.list (ns.map PyData.int)) := by
    show (mapO (toPy G 39) (ns.map .int)).map PyData.list = _
    rw [toPy_ints]
    rfl
  have e2 : toPy G 40 (.lst []) = some (.list []) := rfl
  unfold pyEq pyEqB
  simp only [e1, e2, Option.map_some]
  cases ns with
  | nil => rfl
  | cons n ns => simp [PyData.eqv, PyData.eqvAll]
theorem cell_ok {ns : List Int} {k : Int} {G : DG} {Q : DK} {E : DX → DG → Prop} (hk : 0 ≤ k) (hl : ns.length ≤ 1000000) (h : ∀ c, Q (.int c) G) : sp__law_cell [.scr ns, .int k] G Q E := by
  refine ⟨rfl, ?_⟩
  simp only [t__law_cell, sSeq, sSet, sRet, sIf, sNext, dTest, dOp, dVar, dC, dCons, dNil, dB, dLst, dstart]
  refine ⟨_, rfl, by decide, _, scr_nil G ns, _, rfl, ?_⟩
  by_cases hn : ns = []
  · rw [decide_eq_true hn, if_pos rfl]
    exact ⟨_, rfl, _, mulS _ _ (by decide), h _⟩
  · rw [decide_eq_false hn, if_neg Bool.false_ne_true]
    have hp : 0 < ns.length := List.length_pos_iff.mpr hn
    have len : pyLen G [.scr ns] = some (.int ns.length) := by
      show some (D.int ((ns.map D.int).length : Nat)) = _
      rw [List.length_map]
    have m0 : 0 ≤ k % (ns.length : Int) := Int.emod_nonneg _ (by omega)
    have m1 : k % (ns.length : Int) < ns.length := Int.emod_lt_of_pos _ (by omega)
    have big : (ns.length : Int) < 2 ^ 600 := Int.lt_of_le_of_lt (by omega : _ ≤ (1000000 : Int)) (by decide)
    refine ⟨_, rfl, _, rfl, _, rfl, _, len, _, modP _ _ (by omega), .int (ns[(k % (ns.length : Int)).toNat]'(by omega)), ?_, _, rfl, _, rfl, _, len, _, divP _ _ (by omega) big, _, mulS _ _ (by decide), _, rfl, h _⟩
    show (atI (ns.map D.int) (k % (ns.length : Int))) = _
    unfold atI ixN
    rw [if_pos m0, if_pos (by rw [List.length_map]; exact m1)]
    simp
def DiceOk (G : DG) (ps : List Addr) : Prop := ∀ p ∈ ps, ∃ c k, G p = some (.lst [.int c, .int k])
theorem rounds_loop {ns : List Int} (hl : ns.length ≤ 1000000) {guard : DG → Prop} (hg : ∀ G, guard G) {o1 o2 : Option D} : ∀ (m : Nat) (lo : Int) (G : DG) (P : List D → DG → Prop), 0 ≤ lo → (∀ ps G', ps.length = m → (∀ p ∈ ps, G p = none) → DiceOk G' ps → (∀ b, G b ≠ none → G' b = G b) → P (ps.map .ref) G') →
    dLcL (.n 2) dYes (dLstB (dCons (dCall sp__law_cell (dCons (dVar 0) (dCons (dVar 2) dNil))) (dCons (dC (.int 0)) dNil))) guard [some (.scr ns), o1, o2] (intsFrom lo m) G P
  | 0, lo, G, P, _, h => ⟨hg G, h [] G rfl (fun p hp => by cases hp) (fun p hp => by cases hp) fun b _ => rfl⟩
  | m + 1, lo, G, P, h0, h => by
    refine ⟨hg G, ?_⟩
    show dTg (.n 2) (.int lo) _ _
    simp only [dTg, dYes, if_true, dLstB, dCons, dCall, dVar, dC, dNil]
    refine ⟨_, rfl, _, rfl, ?_⟩
    refine cell_ok h0 hl fun c => ⟨by simp, fun p hp => ?_⟩
    refine rounds_loop hl hg m (lo + 1) _ _ (by omega) fun ps G' hlen hfr hd hk => ?_
    have hpp : gset G p (some (.lst [.int c, .int 0])) p = some (.lst [.int c, .int 0]) := gset_same
    refine h (p :: ps) G' (by simp [hlen]) (fun q hq => ?_) (fun q hq => ?_) (fun b hb => ?_)
    · rcases List.mem_cons.mp hq with e | hq
      · rw [e]; exact hp
      · have := hfr q hq
        by_cases e : q = p
        · rw [e]; exact hp
        · rwa [gset_ne e] at this
    · rcases List.mem_cons.mp hq with e | hq
      · rw [e]
        exact ⟨c, 0, by rw [hk p (by rw [hpp]; simp), hpp]⟩
      · exact hd q hq
    · have e : b ≠ p := fun z => hb (by rw [z]; exact hp)
      have e2 : gset G p (some (.lst [.int c, .int 0])) b = G b := gset_ne e
      rw [← e2]
      exact hk b (by rw [e2]; exact hb)
theorem rounds_ok {ns : List Int} {high : Int} {G : DG} {Q : DK} {E : DX → DG → Prop} (hl : ns.length ≤ 1000000) (h1 : 1 ≤ high) (h2 : high ≤ 1000) (h : ∀ ps G', (∀ p ∈ ps, G p = none) → DiceOk G' ps → (∀ b, G b ≠ none → G' b = G b) → Q (.lst (ps.map .ref)) G') : sp__law_rounds [.scr ns, .int high] G Q E := by
  refine ⟨rfl, ?_⟩
  have len : pyLen G [.scr ns] = some (.int ns.length) := by
    show some (D.int ((ns.map D.int).length : Nat)) = _
    rw [List.length_map]
  simp only [t__law_rounds, sRet, dLc, dRange1, dB, dCons, dNil, dVar, dC, dstart]
  refine ⟨_, rfl, _, rfl, _, len, _, rfl, _, rfl, ?_⟩
  generalize hm : (if (if (ns.length : Int) < high then (ns.length : Int) else high) > 1 then (if (ns.length : Int) < high then (ns.length : Int) else high) else 1) = m
  have m1 : 1 ≤ m ∧ m ≤ 1000 := by rw [← hm]; split <;> (try split) <;> omega
  refine ⟨m, rfl, by omega, by omega, by rw [intsFrom_len]; omega, ?_⟩
  exact rounds_loop hl (fun _ => trivial) m.toNat 0 G _ (by decide) fun ps G' _ hfr hd hk => h ps G' hfr hd hk
/-! ### the law -/
def chk : Option SR → Bool
  | some (.nx env) => env.length == 7
  | _ => false
theorem chk_ok {r : Option SR} (h : chk r = true) : ∃ env, r = some (.nx env) ∧ env.length = 7 := by
  unfold chk at h
  split at h
  · exact ⟨_, rfl, by simpa using h⟩
  · cases h
theorem rest_set (a0 a1 a3 a4 a5 a6 : Option D) : chk (x_law_rest [a0, a1, some (.str "set"), a3, a4, a5, a6]) = true := by kernel_rfl
theorem rest_add (a0 a1 a3 a4 a5 a6 : Option D) : chk (x_law_rest [a0, a1, some (.str "add"), a3, a4, a5, a6]) = true := by kernel_rfl
theorem rest_end (a0 a1 a3 a4 a5 a6 : Option D) : chk (x_law_rest [a0, a1, some (.str "end"), a3, a4, a5, a6]) = true := by kernel_rfl
theorem rest_ask (a0 a1 a3 a4 a5 a6 : Option D) : chk (x_law_rest [a0, a1, some (.str "ask"), a3, a4, a5, a6]) = true := by kernel_rfl
def words4 : List D := [.str "set", .str "add", .str "end", .str "ask"]
theorem rest_all {d : D} (hd : d ∈ words4) (env : DSt) (hl : env.length = 7) : ∃ env', x_law_rest (env.set 2 (some d)) = some (.nx env') ∧ env'.length = 7 := by
  obtain ⟨a0, a1, a2, a3, a4, a5, a6, rfl⟩ : ∃ a0 a1 a2 a3 a4 a5 a6, env = [a0, a1, a2, a3, a4, a5, a6] := by
    match env, hl with
    | [a0, a1, a2, a3, a4, a5, a6], _ => exact ⟨a0, a1, a2, a3, a4, a5, a6, rfl⟩
  apply chk_ok
  simp only [words4, List.mem_cons, List.not_mem_nil, or_false] at hd
  rcases hd with rfl | rfl | rfl | rfl
  · exact rest_set a0 a1 a3 a4 a5 a6
  · exact rest_add a0 a1 a3 a4 a5 a6
  · exact rest_end a0 a1 a3 a4 a5 a6
  · exact rest_ask a0 a1 a3 a4 a5 a6
theorem plain (ns : List Int) (hl : ns.length ≤ 1000000) : sp_law [.scr ns] G0 (fun d _ => d = .bl true) fun _ _ => False := by
  refine ⟨rfl, ?_⟩
  show sFor _ _ _ _ _ _ _
  refine ⟨_, rfl, ?_⟩
  refine rounds_ok hl (by decide) (by decide) fun ps G' _ hd _ => ⟨_, rfl, ?_⟩
  have loop : ∀ (E : DXK) (DE : DEnds), (∀ env G, DE.nx env G) → ∀ (qs : List Addr) (env : DSt) (G : DG), env.length = 7 → (∀ q ∈ qs, q ∈ ps) → DiceOk G ps → dLoop E (.n 1) (sSeq (sSet 2 (dOp pyItem (dLst (dCons (dC (.str "set")) (dCons (dC (.str "add")) (dCons (dC (.str "end")) (dCons (dC (.str "ask")) dNil))))) (dCall sp__law_roll (dCons (dVar 1) (dCons (dC (.int 4)) dNil))))) t_law_rest)
      DE (fun G' => iterD G' (.lst (ps.map .ref)) = some (ps.map .ref)) (qs.map .ref) env G := by
    intro E DE hn qs
    induction qs with
    | nil => intro env G _ _ _; exact ⟨rfl, hn _ _⟩
    | cons p qs ih =>
      intro env G he hq hdk
      obtain ⟨c, k, hG⟩ := hdk p (hq p List.mem_cons_self)
      refine ⟨rfl, ?_⟩
      simp only [dTg, sSeq, sSet, dOp, dLst, dCons, dC, dNil, dCall, dVar]
      refine ⟨by decide, .ref p, by rw [List.getElem?_set_self (by omega)], ?_⟩
      refine roll_ok hG (by decide) (by decide) fun r c' k' r0 r4 => ?_
      have hd2 : DiceOk (gset G p (some (.lst [.int c', .int k']))) ps := fun q hq' => by
        by_cases e : q = p
        · rw [e, gset_same]; exact ⟨c', k', rfl⟩
        · rw [gset_ne e]; exact hdk q hq'
      have hr : r = 0 ∨ r = 1 ∨ r = 2 ∨ r = 3 := by omega
      obtain ⟨d, hd, ew⟩ : ∃ d ∈ words4, pyItem (gset G p (some (.lst [.int c', .int k']))) (.lst words4) (.int r) = some d := by
        rcases hr with rfl | rfl | rfl | rfl
        · exact ⟨.str "set", by simp [words4], rfl⟩
        · exact ⟨.str "add", by simp [words4], rfl⟩
        · exact ⟨.str "end", by simp [words4], rfl⟩
        · exact ⟨.str "ask", by simp [words4], rfl⟩
      refine ⟨d, ew, ?_⟩
      obtain ⟨env', hx, hl'⟩ := rest_all hd (env.set 1 (some (.ref p))) (by simp [he])
      exact xv_law_rest _ _ hx _ _ _ (ih env' _ hl' (fun q hq' => hq q (List.mem_cons_of_mem _ hq')) hd2)
  exact loop _ _ (fun _ _ => rfl) ps (dstart ["script", "dice", "word", "far", "thing", "rows", "sign"] [.scr ns]) G' rfl (fun q hq => hq) hd
end K29

namespace K29
open PySem PySem.Spec PyProof.Rows L2 LamX HotX L2H DL
def fn : List He.DefD := [⟨("is_whole", none), "is_whole", "is_whole", defArgs s_is_whole, defBody s_is_whole, defScope s_is_whole, [], []⟩, ⟨("is_number", none), "is_number", "is_number", defArgs s_is_number, defBody s_is_number, defScope s_is_number, [], []⟩, ⟨("is_word", none), "is_word", "is_word", defArgs s_is_word, defBody s_is_word, defScope s_is_word, [], []⟩, ⟨("is_part", none), "is_part", "is_part", defArgs s_is_part, defBody s_is_part, defScope s_is_part, [], []⟩, ⟨("is_instruction", none), "is_instruction", "is_instruction", defArgs s_is_instruction, defBody s_is_instruction, defScope s_is_instruction, [], []⟩, ⟨("is_program", none), "is_program", "is_program", defArgs s_is_program, defBody s_is_program, defScope s_is_program, [], []⟩, ⟨("is_row", none), "is_row", "is_row", defArgs s_is_row, defBody s_is_row, defScope s_is_row, [], []⟩, ⟨("is_rights", none), "is_rights", "is_rights", defArgs s_is_rights, defBody s_is_rights, defScope s_is_rights, [], []⟩, ⟨("need_rights", none), "need_rights", "need_rights", defArgs s_need_rights, defBody s_need_rights, defScope s_need_rights, [], []⟩, ⟨("number_in", none), "number_in", "number_in", defArgs s_number_in, defBody s_number_in, defScope s_number_in, [], []⟩, ⟨("row_in", none), "row_in", "row_in", defArgs s_row_in, defBody s_row_in, defScope s_row_in, [], []⟩, ⟨("read_program", none), "read_program", "read_program", defArgs s_read_program, defBody s_read_program, defScope s_read_program, [], []⟩, ⟨("rights_text", none), "rights_text", "rights_text", defArgs s_rights_text, defBody s_rights_text, defScope s_rights_text, [], []⟩, ⟨("read_rights", none), "read_rights", "read_rights", defArgs s_read_rights, defBody s_read_rights, defScope s_read_rights, [], []⟩, ⟨("_law_cell", none), "_law_cell", "_law_cell", defArgs s__law_cell, defBody s__law_cell, defScope s__law_cell, [], []⟩, ⟨("_law_drawn", none), "_law_drawn", "_law_drawn", defArgs s__law_drawn, defBody s__law_drawn, defScope s__law_drawn, [], []⟩, ⟨("_law_roll", none), "_law_roll", "_law_roll", defArgs s__law_roll, defBody s__law_roll, defScope s__law_roll, [], []⟩, ⟨("_law_rounds", none), "_law_rounds", "_law_rounds", defArgs s__law_rounds, defBody s__law_rounds, defScope s__law_rounds, [], []⟩, ⟨("_law_term", none), "_law_term", "_law_term", defArgs s__law_term, defBody s__law_term, defScope s__law_term, [], []⟩, ⟨("law", none), "law", "law", defArgs s_law, defBody s_law, defScope s_law, [], []⟩, ⟨("_law_told", none), "_law_told", "_law_told", defArgs s__law_told, defBody s__law_told, defScope s__law_told, [], []⟩]
def fa : List He.Fa := [.glo "is_whole", .glo "is_number", .glo "is_word", .glo "is_part", .glo "is_instruction", .glo "is_program", .glo "is_row", .glo "is_rights", .glo "need_rights", .glo "number_in", .glo "row_in", .glo "read_program", .glo "rights_text", .glo "read_rights", .glo "_law_cell", .glo "_law_drawn", .glo "_law_roll", .glo "_law_rounds", .glo "_law_term", .glo "law", .glo "_law_told", .free "ValueError", .free "all", .free "bool", .free "int", .free "isinstance", .free "len", .free "max", .free "min", .free "range", .free "str", .free "sum", .free "tuple", .free "zip", .int "FARTHEST" 999, .int "MOST_ROOM" 60, .str "FIGURES" (Str.ofString "0123456789"), .str "SIGNS" (Str.ofString "?!<>"), .str "SMALL" (Str.ofString "abcdefghijklmnopqrstuvwxyz"), .glo "FORMS", .exc "BadRights", .glo "BadRights", .exc "BadText", .glo "BadText", .glo "BadProgram", .glo "BadNumber", .glo "BadFeeds", .glo "BadPaper", .glo "BadName", .glo "Taken", .glo "NoName", .glo "TooMuch", .glo "Nothing", .glo "BadPicture", .glo "BadLog", .glo "CageError"]
def ts : List He.Tab := [(fun K => He.ga K "FORMS", lst_FORMS.map fun p => S p.1)]
def tf : List He.Defn := [("law", none)]
def ex (K : PySem.W.Frag) : Bool := toldB K && He.valsB K (He.ga K "FORMS") (tabV lst_FORMS)
abbrev R : PySem.W.OpenRow := PySem.W.OpenLaw.row PySem.Challenge.rw_cageworks_k29_texts_refused
abbrev hk : PySem.W.Hook := He.hookX 5 fa fn ts tf ex
def ob (s : PySem.W.SharedT) : He.AlX := He.obsX 5 fa fn ts tf ex (HandSHeadRun.getT s)
theorem ob_eq (s : PySem.W.SharedT) : ob s = hk.obs s.abs := He.obsX_eq (HandSHeadRun.getT_eq s)
def nm0 : List PySem.Str := ["CageError", "TooMuch", "BadProgram", "BadRights", "BadNumber", "BadFeeds", "BadPaper", "BadName", "Taken", "NoName", "Nothing", "BadPicture", "BadLog", "BadText", "SMALL", "FARTHEST", "FORMS", "is_whole", "is_number", "is_word", "is_part", "is_instruction", "is_program", "MOST_ROOM", "is_row", "is_rights", "need_rights", "FIGURES", "SIGNS", "number_in"]
def nm1 : List PySem.Str := ["row_in", "read_program", "rights_text", "read_rights", "_law_cell", "_law_drawn", "_law_roll", "_law_rounds", "_law_term", "_law_told"]
def nms : List PySem.Str := nm0 ++ nm1
theorem run_f (w : World) : HandSHeadRun.RunEq R (PySem.W.view R.prog [45]) hk ob 6000 nms (w.withFollow "special-get-raises" false) := by
  intro os
  kernel_rfl
theorem run_t (w : World) : HandSHeadRun.RunEq R (PySem.W.view R.prog [45]) hk ob 6000 nms (w.withFollow "special-get-raises" true) := by
  intro os
  kernel_rfl
theorem run (w : World) : HandSHeadRun.RunEq R (PySem.W.view R.prog [45]) hk ob 6000 nms w :=
  PySem.W.byRow2 "special-get-raises" (P := fun w => HandSHeadRun.RunEq R (PySem.W.view R.prog [45]) hk ob 6000 nms w) run_f run_t w
theorem facts {P : Program} {w : World} {K : PySem.W.Frag} {h base : Heap} {mg : Str → Option Value} (X : K.In h) (G : h.Ns mainGlobals mg) (c : He.SaysX fa fn ts tf ex w h K) (hT : LamX.TabB base mg (He.cT K ("law", none)).1 (He.cT K ("law", none)).2) : Fx P w K [((He.cT K ("law", none)).2, Str.ofString "law.<locals>.<lambda>")] mg base := by
  have d := c.t.d
  have m := c.more
  simp only [ex, Bool.and_eq_true] at m
  exact {
    free := fun x hx => by
      simp only [List.mem_cons, List.not_mem_nil, or_false] at hx
      rcases hx with rfl | rfl | rfl | rfl | rfl | rfl | rfl | rfl | rfl | rfl | rfl | rfl | rfl
      · exact He.free_ok X G (d.fact 21)
      · exact He.free_ok X G (d.fact 22)
      · exact He.free_ok X G (d.fact 23)
      · exact He.free_ok X G (d.fact 24)
      · exact He.free_ok X G (d.fact 25)
      · exact He.free_ok X G (d.fact 26)
      · exact He.free_ok X G (d.fact 27)
      · exact He.free_ok X G (d.fact 28)
      · exact He.free_ok X G (d.fact 29)
      · exact He.free_ok X G (d.fact 30)
      · exact He.free_ok X G (d.fact 31)
      · exact He.free_ok X G (d.fact 32)
      · exact He.free_ok X G (d.fact 33)
    gi_FARTHEST := He.int_ok X G (d.fact 34)
    gi_MOST_ROOM := He.int_ok X G (d.fact 35)
    gs_FIGURES := He.str_ok X G (d.fact 36)
    gs_SIGNS := He.str_ok X G (d.fact 37)
    gs_SMALL := He.str_ok X G (d.fact 38)
    kt_FORMS := ktab_of (He.glo_ok X G (d.fact 39)) (says_tab c.t 0) m.2
    xc_BadRights := ⟨d.fact 40, He.glo_ok X G (d.fact 41)⟩
    xc_BadText := ⟨d.fact 42, He.glo_ok X G (d.fact 43)⟩
    fd_is_whole := d.def_ 0
    mg_is_whole := He.glo_ok X G (d.fact 0)
    fd_is_number := d.def_ 1
    mg_is_number := He.glo_ok X G (d.fact 1)
    fd_is_word := d.def_ 2
    mg_is_word := He.glo_ok X G (d.fact 2)
    fd_is_part := d.def_ 3
    mg_is_part := He.glo_ok X G (d.fact 3)
    fd_is_instruction := d.def_ 4
    mg_is_instruction := He.glo_ok X G (d.fact 4)
    fd_is_program := d.def_ 5
    mg_is_program := He.glo_ok X G (d.fact 5)
    fd_is_row := d.def_ 6
    mg_is_row := He.glo_ok X G (d.fact 6)
    fd_is_rights := d.def_ 7
    mg_is_rights := He.glo_ok X G (d.fact 7)
    fd_need_rights := d.def_ 8
    mg_need_rights := He.glo_ok X G (d.fact 8)
    fd_number_in := d.def_ 9
    mg_number_in := He.glo_ok X G (d.fact 9)
    fd_row_in := d.def_ 10
    mg_row_in := He.glo_ok X G (d.fact 10)
    fd_read_program := d.def_ 11
    mg_read_program := He.glo_ok X G (d.fact 11)
    fd_rights_text := d.def_ 12
    mg_rights_text := He.glo_ok X G (d.fact 12)
    fd_read_rights := d.def_ 13
    mg_read_rights := He.glo_ok X G (d.fact 13)
    fd__law_cell := d.def_ 14
    mg__law_cell := He.glo_ok X G (d.fact 14)
    fd__law_drawn := d.def_ 15
    mg__law_drawn := He.glo_ok X G (d.fact 15)
    fd__law_roll := d.def_ 16
    mg__law_roll := He.glo_ok X G (d.fact 16)
    fd__law_rounds := d.def_ 17
    mg__law_rounds := He.glo_ok X G (d.fact 17)
    fd__law_term := d.def_ 18
    mg__law_term := He.glo_ok X G (d.fact 18)
    fd_law := d.def_ 19
    mg_law := He.glo_ok X G (d.fact 19)
    fd__law_told := d.def_ 20
    mg__law_told := He.glo_ok X G (d.fact 20)
    told := toldB_ok m.1
    mgC := fun x hx => by
      simp only [kinds13, List.cons_append, List.nil_append, List.mem_cons, List.not_mem_nil, or_false] at hx
      rcases hx with rfl | rfl | rfl | rfl | rfl | rfl | rfl | rfl | rfl | rfl | rfl | rfl | rfl | rfl
      · exact He.glo_ok X G (d.fact 44)
      · exact He.glo_ok X G (d.fact 41)
      · exact He.glo_ok X G (d.fact 45)
      · exact He.glo_ok X G (d.fact 46)
      · exact He.glo_ok X G (d.fact 47)
      · exact He.glo_ok X G (d.fact 48)
      · exact He.glo_ok X G (d.fact 49)
      · exact He.glo_ok X G (d.fact 50)
      · exact He.glo_ok X G (d.fact 51)
      · exact He.glo_ok X G (d.fact 52)
      · exact He.glo_ok X G (d.fact 53)
      · exact He.glo_ok X G (d.fact 54)
      · exact He.glo_ok X G (d.fact 43)
      · exact He.glo_ok X G (d.fact 55)
    lamt := ⟨_, hT, rfl⟩ }
theorem cx_none {P : Program} {w : World} {o : List Env} {H : Hp} {s : Shared} {e : Value} {t : Shared} (z : L2N.CX P w o H s (fun _ _ _ => False) e t) : False := by
  obtain ⟨_, _, _, _, _, _, _, _, _, _, _, _, z⟩ := z
  exact z
theorem lawAt {w : World} {K : PySem.W.Frag} {h : Heap} {mg : Str → Option Value} {fa : Addr} (X : K.In h) (G : h.Ns mainGlobals mg) (hmg : mg ("law" : Str) = some (.ref fa)) (c : He.SaysX K29.fa fn ts tf ex w h K) : LawAtS PySem.Challenge.rw_cageworks_k29_texts_refused w K (L2N.CX (PySem.Challenge.rw_cageworks_k29_texts_refused).prog w) 9 63 "script" mg fa h := by
  obtain ⟨fd, F⟩ := c.t.d.def_ 19
  have e := hmg.symm.trans (He.glo_ok X G (c.t.d.fact 19 (f := .glo "law") rfl))
  cases e
  have ht : (("law", none) : He.Defn) ∈ tf := by simp [tf]
  have b := FunD.bindsA (ps := ["script"]) F fun _ _ _ _ _ _ us hl => match us, hl with | [_], _ => rfl
  refine ⟨fd, [He.cT K ("law", none)], liftSp K [((He.cT K ("law", none)).2, Str.ofString "law.<locals>.<lambda>")] sp_law, ?_, ?_, ?_, fun s v => b s [v] rfl, fun H a ns hl _ hH hS => law_sp (fun p hp => ?_) hS (plain ns (Nat.le_trans hl (by decide))), fun base _ _ hT => law_fn (facts X G c (hT _ List.mem_cons_self)) F⟩
  · intro p hp; rw [List.mem_singleton.mp hp]; exact c.empty _ ht
  · intro p hp; rw [List.mem_singleton.mp hp]; exact c.out _ ht
  · intro p hp; rw [List.mem_singleton.mp hp]; exact PySem.W.codeHd_of_K X (c.hd _ ht)
  · rw [List.mem_singleton.mp hp]; exact TabS.nil (hH _ List.mem_cons_self)
end K29
open PySem PySem.W PySem.Calls PyProof.Rows DL in
theorem K29.holds : PySem.Challenge.rw_cageworks_k29_texts_refused.Holds := by
  w_on; o_law
  refine HandSHeadRun.head_any (r := OpenLaw.row PySem.Challenge.rw_cageworks_k29_texts_refused) (q := view (OpenLaw.row PySem.Challenge.rw_cageworks_k29_texts_refused).prog [45]) (H := K29.hk) (ob := K29.ob) (M := 6000) (loose := K29.nms) (d := HandSHeadRun.topDef (OpenLaw.row PySem.Challenge.rw_cageworks_k29_texts_refused).prog 45) (kwd := []) K29.ob_eq
    (by kernel_rfl) (fun s => by kernel_rfl) K29.run (by kernel_rfl) (by kernel_rfl) (by kernel_rfl) (by rfl) (by first | assumption | decide +kernel) (by decide +kernel) ⟨rfl, rfl, rfl, rfl, rfl, by decide +kernel⟩ ?hw ?hc
  case hw => w_witness2
  case hc =>
    refine LamX.walk_ofTsE (l := PySem.Challenge.rw_cageworks_k29_texts_refused) (n := 63) (k := 9) (x := "script") (CX := fun w => L2N.CX (PySem.Challenge.rw_cageworks_k29_texts_refused).prog w) rfl (by decide) (by kernel_rfl) ⟨rfl, by decide, by decide⟩ ?F (fun _ _ _ _ _ z => K29.cx_none z)
    intro w mg fa h Y G hmg0
    obtain ⟨K, KX, c⟩ := Y
    have hmg : mg ("law" : PySem.Str) = some (.ref fa) := by
      have e : (HandSHeadRun.topDef (OpenLaw.row PySem.Challenge.rw_cageworks_k29_texts_refused).prog 45).name = ("law" : PySem.Str) := by kernel_rfl
      rw [← e]
      exact hmg0
    exact ⟨K, KX, K29.lawAt KX G hmg c⟩

theorem PySem.Challenge.cw_cageworks_k29_texts_refused_holds : PySem.Challenge.rw_cageworks_k29_texts_refused.Holds := by
  exact K29.holds
