import PyProof.Rows.All
import Wide.All
import OpenK.AllK
import Wide.FinOn
import HandS.ForMost
import HandS.Exc
import HandS.TryOnly
import HandS.ExcOwn
import HandS.WordsExc
import HandS.IsInst
import HandS.Deep
import HandS.TupAny
import KE.DataCmp
import KE.SortData
import HandS.Strs
import HandS.TupSets
import HandS.SortOrd
import HandS.SetFor
import HandS.Conv
import HandS.ExcIs
import HandS.Lambda
import HandS.HeadWalk
import HandS.TupMul
import HandS.Defaults
import HandS.Head0
import HandS.Head1
import HandS.Head2
import HandS.HeadHook1
import HandS.HeadHook2
import HandS.HeadHook3
import HandS.HeadHook4
import KE.KStateDown
import HandS.HeadEnd
import PySem.Challenge.RW_stagebelt_k16_whole_paths
section
set_option Elab.async false
set_option linter.all false
set_option maxRecDepth 100000
set_option maxHeartbeats 4000000
namespace Kp
open PySem PySem.Spec PyProof.Rows L2
abbrev Fg := PySem.W.Frag

/-! ### heaps that grow -/
theorem same_t {K : Fg} {H H' : Hp} {a : Addr} {xs : List V} (e : Same H H') (h : SqT K H a xs) : SqT K H' a xs := by
  rcases h with (h | ⟨o, h⟩) | h
  · exact .inl (.inl (e _ _ h))
  · exact .inl (.inr ⟨o, e _ _ h⟩)
  · exact .inr h
theorem same_add {H : Hp} {p : Addr} {o : HO} (h : H p = none) : Same H (upd H p o) := fun b x e => by
  rw [upd_ne (ne_of_none e h)]; exact e
mutual
theorem dp_mono {K : Fg} {H H' : Hp} (e : Same H H') : ∀ {v : V} {d : PyData}, Dp K H v d → Dp K H' v d
  | _, _, .non => .non
  | _, _, .bl b => .bl b
  | _, _, .int i => .int i
  | _, _, .str x => .str x
  | _, _, .lst h a => .lst (e.seq h) (dpa_mono e a)
  | _, _, .tup h a => .tup (same_t e h) (dpa_mono e a)
theorem dpa_mono {K : Fg} {H H' : Hp} (e : Same H H') : ∀ {vs : List V} {ds : List PyData}, DpAll K H vs ds → DpAll K H' vs ds
  | _, _, .nil => .nil
  | _, _, .cons h t => .cons (dp_mono e h) (dpa_mono e t)
end
theorem dpa_len {K : Fg} {H : Hp} : ∀ {vs : List V} {ds : List PyData}, DpAll K H vs ds → vs.length = ds.length
  | _, _, .nil => rfl
  | _, _, .cons _ t => congrArg (· + 1) (dpa_len t)
theorem dpa_get {K : Fg} {H : Hp} : ∀ {vs : List V} {ds : List PyData} {i : Nat} {d : PyData}, DpAll K H vs ds → ds[i]? = some d → ∃ v, vs[i]? = some v ∧ Dp K H v d
  | _, _, _, _, .nil, h => by simp at h
  | _, _, 0, _, .cons h t, e => by
    simp at e; subst e; exact ⟨_, rfl, h⟩
  | _, _, i + 1, d, .cons h t, e => by
    obtain ⟨v, a, b⟩ := dpa_get (i := i) (d := d) t (by simpa using e)
    exact ⟨v, by simpa using a, b⟩
theorem dpa_app {K : Fg} {H : Hp} : ∀ {vs us : List V} {ds es : List PyData}, DpAll K H vs ds → DpAll K H us es → DpAll K H (vs ++ us) (ds ++ es)
  | _, _, _, _, .nil, h => h
  | _, _, _, _, .cons a t, h => .cons a (dpa_app t h)
theorem dpa_drop {K : Fg} {H : Hp} : ∀ {vs : List V} {ds : List PyData} (n : Nat), DpAll K H vs ds → DpAll K H (vs.drop n) (ds.drop n)
  | _, _, 0, h => h
  | _, _, _ + 1, .nil => .nil
  | _, _, n + 1, .cons _ t => dpa_drop n t
theorem dpa_take {K : Fg} {H : Hp} : ∀ {vs : List V} {ds : List PyData} (n : Nat), DpAll K H vs ds → DpAll K H (vs.take n) (ds.take n)
  | _, _, 0, _ => .nil
  | _, _, _ + 1, .nil => .nil
  | _, _, n + 1, .cons a t => .cons a (dpa_take n t)

/-! ### what a slot holds -/
/-- data, a dict keyed by tuples that stands still, any value -/
inductive Sl where
  | d (x : PyData)
  | t (kvs : List (List Key × V))
  | r (v : V)
def DV (K : Fg) (G : Hp) (v : V) : Sl → Prop
  | .d x => Dp K G v x
  | .t kvs => ∃ a, v = .ref a ∧ G a = some (.dT kvs)
  | .r u => v = u
theorem dv_mono {K : Fg} {G G' : Hp} {v : V} {c : Sl} (e : Same G G') (h : DV K G v c) : DV K G' v c := by
  cases c with
  | d x => exact dp_mono e h
  | t kvs => obtain ⟨a, h1, h2⟩ := h; exact ⟨a, h1, e _ _ h2⟩
  | r u => exact h
def DVs (K : Fg) (G : Hp) : List V → List Sl → Prop
  | [], [] => True
  | v :: vs, c :: cs => DV K G v c ∧ DVs K G vs cs
  | _, _ => False
theorem dvs_mono {K : Fg} {G G' : Hp} (e : Same G G') : ∀ {vs : List V} {cs : List Sl}, DVs K G vs cs → DVs K G' vs cs
  | [], [], _ => trivial
  | _ :: _, _ :: _, ⟨a, b⟩ => ⟨dv_mono e a, dvs_mono e b⟩
  | [], _ :: _, h => h.elim
  | _ :: _, [], h => h.elim
theorem dvs_len {K : Fg} {G : Hp} : ∀ {vs : List V} {cs : List Sl}, DVs K G vs cs → vs.length = cs.length
  | [], [], _ => rfl
  | _ :: _, _ :: _, ⟨_, b⟩ => congrArg (· + 1) (dvs_len b)
  | [], _ :: _, h => h.elim
  | _ :: _, [], h => h.elim
theorem dvs_all {K : Fg} {G : Hp} : ∀ {vs : List V} {ds : List PyData}, DVs K G vs (ds.map Sl.d) → DpAll K G vs ds
  | [], [], _ => .nil
  | _ :: _, _ :: _, ⟨a, b⟩ => .cons a (dvs_all b)
  | [], _ :: _, h => h.elim
  | _ :: _, [], h => h.elim
theorem all_dvs {K : Fg} {G : Hp} : ∀ {vs : List V} {ds : List PyData}, DpAll K G vs ds → DVs K G vs (ds.map Sl.d)
  | _, _, .nil => trivial
  | _, _, .cons a t => ⟨a, all_dvs t⟩
section
variable {K : Fg} {G : Hp} {v : V}
theorem dv_int {i : Int} (h : DV K G v (.d (.int i))) : v = .int i := by cases (show Dp K G v (.int i) from h); rfl
theorem dv_bl {i : Bool} (h : DV K G v (.d (.bool i))) : v = .bl i := by cases (show Dp K G v (.bool i) from h); rfl
theorem dv_str {i : Str} (h : DV K G v (.d (.str i))) : v = .str i := by cases (show Dp K G v (.str i) from h); rfl
theorem dv_non (h : DV K G v (.d .none)) : v = .non := by cases (show Dp K G v .none from h); rfl
theorem dv_tup {ds : List PyData} (h : DV K G v (.d (.tuple ds))) : ∃ a xs, v = .ref a ∧ SqT K G a xs ∧ DpAll K G xs ds := by
  cases (show Dp K G v (.tuple ds) from h) with
  | tup a b => exact ⟨_, _, rfl, a, b⟩
theorem dv_lst {ds : List PyData} (h : DV K G v (.d (.list ds))) : ∃ a xs, v = .ref a ∧ SqL K G a xs ∧ DpAll K G xs ds := by
  cases (show Dp K G v (.list ds) from h) with
  | lst a b => exact ⟨_, _, rfl, a, b⟩
end

/-! ### worlds: the heap, what of it stands still, what is in motion -/
/-- there, and no tuple -/
def Mu (o : Option HO) : Prop := ∃ u, o = some u ∧ (∀ xs, u ≠ .tup xs) ∧ ∀ φ, u ≠ .ext φ
/-- no table of code objects stands still -/
def Nt (G : Hp) : Prop := ∀ x ps, G x ≠ some (.tbl ps)
theorem Nt.upd {G : Hp} (h : Nt G) {p : Addr} {o : HO} (ho : ∀ ps, o ≠ .tbl ps) : Nt (upd G p o) := fun x ps e => by
  by_cases q : x = p
  · rw [q, upd_same] at e
    exact ho ps (Option.some.inj e)
  · rw [upd_ne q] at e
    exact h x ps e
theorem mu_lst {xs : List V} : Mu (some (.lst xs)) := ⟨_, rfl, fun _ z => (nomatch z), fun _ z => nomatch z⟩
theorem mu_dT {kvs : List (List Key × V)} : Mu (some (.dT kvs)) := ⟨_, rfl, fun _ z => (nomatch z), fun _ z => nomatch z⟩
theorem Mu.ne {H : Hp} {x p : Addr} (m : Mu (H x)) (h : H p = none) : x ≠ p := fun z => by
  obtain ⟨u, e, _⟩ := m
  rw [z, h] at e; cases e
structure Amb where
  M : Addr → Prop
  S : Type
  inv : S → Hp → Hp → Prop
  st : ∀ {s : S} {G G' H H' : Hp}, inv s G H → Same G G' → (∀ x o, M x → H x = some o → H' x = some o) → inv s G' H'
structure Wd (A : Amb) where
  G : Hp
  H : Hp
  sub : Same G H
  mt : ∀ x, A.M x → G x = none ∧ Mu (H x)
  nt : Nt G
structure Le {A : Amb} (a b : Wd A) : Prop where
  g : Same a.G b.G
  h : ∀ x o, ¬ A.M x → a.H x = some o → b.H x = some o
  f : ∀ x, Mu (a.H x) → a.G x = none → b.G x = none
section
variable {A : Amb}
theorem Le.refl (a : Wd A) : Le a a := ⟨Same.refl _, fun _ _ _ h => h, fun _ _ h => h⟩
theorem Le.ne {a b : Wd A} (l : Le a b) {x : Addr} (h : Mu (a.H x)) : Mu (b.H x) := by
  by_cases m : A.M x
  · exact (b.mt x m).2
  · obtain ⟨o, e, n⟩ := h
    exact ⟨o, l.h x o m e, n⟩
theorem Le.trans {a b c : Wd A} (l : Le a b) (k : Le b c) : Le a c :=
  ⟨l.g.trans k.g, fun x o m e => k.h x o m (l.h x o m e), fun x h e => k.f x (l.ne h) (l.f x h e)⟩
/-- a new object, from now on still -/
def Wd.new (w : Wd A) (p : Addr) (o : HO) (hp : w.H p = none) (ho : ∀ ps, o ≠ .tbl ps := by exact fun _ z => nomatch z) : Wd A where
  G := upd w.G p o
  H := upd w.H p o
  sub := fun b x e => by
    by_cases q : b = p
    · subst q; rw [upd_same] at e ⊢; exact e
    · rw [upd_ne q] at e ⊢; exact w.sub b x e
  mt := fun x m => by
    have q : x ≠ p := (w.mt x m).2.ne hp
    rw [upd_ne q, upd_ne q]
    exact w.mt x m
  nt := w.nt.upd ho
theorem Wd.gn (w : Wd A) {p : Addr} (hp : w.H p = none) : w.G p = none := by
  cases e : w.G p with
  | none => rfl
  | some o => rw [w.sub p o e] at hp; cases hp
theorem Wd.new_le (w : Wd A) (p : Addr) (o : HO) (hp : w.H p = none) (ho : ∀ ps, o ≠ .tbl ps := by exact fun _ z => nomatch z) : Le w (w.new p o hp ho) where
  g := same_add (w.gn hp)
  h := fun x u _ e => by
    show upd w.H p o x = some u
    rw [upd_ne (ne_of_none e hp)]; exact e
  f := fun x h e => by
    show upd w.G p o x = none
    rw [upd_ne (h.ne hp)]; exact e
theorem inv_new {s : A.S} {w : Wd A} {p : Addr} {o : HO} (hp : w.H p = none) (h : A.inv s w.G w.H) {ho : ∀ ps, o ≠ .tbl ps} : A.inv s (w.new p o hp ho).G (w.new p o hp ho).H :=
  A.st h (w.new_le p o hp ho).g fun x u m e => by
    show upd w.H p o x = some u
    rw [upd_ne (ne_of_none e hp)]; exact e
/-- the world behind something that only adds -/
def Wd.on (w : Wd A) (G' H' : Hp) (s0 : Nt G') (s1 : Same G' H') (s2 : Same w.G G') (s3 : Same w.H H') (s4 : ∀ x, Mu (w.H x) → w.G x = none → G' x = none) : Wd A where
  G := G'
  H := H'
  sub := s1
  mt := fun x m => ⟨s4 x (w.mt x m).2 (w.mt x m).1, by
    obtain ⟨o, e, n⟩ := (w.mt x m).2
    exact ⟨o, s3 x o e, n⟩⟩
  nt := s0
theorem Wd.on_le (w : Wd A) {G' H' : Hp} (s0 : Nt G') (s1 : Same G' H') (s2 : Same w.G G') (s3 : Same w.H H') (s4 : ∀ x, Mu (w.H x) → w.G x = none → G' x = none) : Le w (w.on G' H' s0 s1 s2 s3 s4) :=
  ⟨s2, fun x o _ e => s3 x o e, s4⟩
end
/-- nothing is in motion -/
abbrev A0 : Amb := ⟨fun _ => False, Unit, fun _ _ _ => True, fun _ _ _ => trivial⟩
def w0 {G H : Hp} (s : Same G H) (n : Nt G) : Wd A0 := ⟨G, H, s, fun _ h => h.elim, n⟩

/-! ### slots and what is known of them -/
abbrev Dl := List (Option Sl)
structure EnvD (K : Fg) (σ : L2.St) (G : Hp) (δ : Dl) : Prop where
  len : σ.length = δ.length
  at_ : ∀ (i : Nat) (c : Sl), δ[i]? = some (some c) → ∃ v, σ[i]? = some (some v) ∧ DV K G v c
section
variable {K : Fg} {σ σ' : L2.St} {G G' : Hp} {δ δ' : Dl}
theorem EnvD.mono (h : EnvD K σ G δ) (e : Same G G') : EnvD K σ G' δ := ⟨h.len, fun i c k => by
  obtain ⟨v, a, b⟩ := h.at_ i c k
  exact ⟨v, a, dv_mono e b⟩⟩
theorem EnvD.set (h : EnvD K σ G δ) (i : Nat) {v : V} {c : Sl} (d : DV K G v c) : EnvD K (σ.set i (some v)) G (δ.set i (some c)) := ⟨by rw [List.length_set, List.length_set, h.len], fun j c' k => by
  by_cases q : i = j
  · subst q
    by_cases l : i < δ.length
    · rw [List.getElem?_set_self l] at k
      cases k
      exact ⟨v, List.getElem?_set_self (by rw [h.len]; exact l), d⟩
    · rw [List.getElem?_eq_none (by rw [List.length_set]; omega)] at k
      cases k
  · rw [List.getElem?_set_ne q] at k
    obtain ⟨u, a, b⟩ := h.at_ j c' k
    exact ⟨u, by rw [List.getElem?_set_ne q]; exact a, b⟩⟩
/-- δ' says no more than δ -/
def Wk (δ δ' : Dl) : Prop := δ.length = δ'.length ∧ ∀ (i : Nat) (c : Sl), δ'[i]? = some (some c) → δ[i]? = some (some c)
theorem Wk.refl (δ : Dl) : Wk δ δ := ⟨rfl, fun _ _ h => h⟩
theorem EnvD.weak (h : EnvD K σ G δ) (k : Wk δ δ') : EnvD K σ G δ' := ⟨h.len.trans k.1, fun i c e => h.at_ i c (k.2 i c e)⟩
def dwipe (δ : Dl) : List Nat → Dl
  | [] => δ
  | v :: vs => (dwipe δ vs).set v none
theorem EnvD.wipe (h : EnvD K σ G δ) : ∀ vs : List Nat, EnvD K (wipe σ vs) G (dwipe δ vs)
  | [] => h
  | v :: vs => by
    have ih := EnvD.wipe h vs
    refine ⟨by show ((L2.wipe σ vs).set v none).length = ((dwipe δ vs).set v none).length; rw [List.length_set, List.length_set, ih.len], fun i c k => ?_⟩
    have k : ((dwipe δ vs).set v none)[i]? = some (some c) := k
    by_cases q : v = i
    · subst q
      by_cases l : v < (dwipe δ vs).length
      · rw [List.getElem?_set_self l] at k; cases k
      · rw [List.getElem?_eq_none (by rw [List.length_set]; omega)] at k; cases k
    · rw [List.getElem?_set_ne q] at k
      obtain ⟨u, a, b⟩ := ih.at_ i c k
      refine ⟨u, ?_, b⟩
      show ((L2.wipe σ vs).set v none)[i]? = _
      rw [List.getElem?_set_ne q]; exact a
end

/-! ### what evaluates to what -/
def EvD (A : Amb) (K : Fg) (t : TE) (δ : Dl) (s : A.S) (c : Sl) (s' : A.S) : Prop :=
  ∀ (w : Wd A) (σ : L2.St), EnvD K σ w.G δ → A.inv s w.G w.H → ∀ Q : VK, (∀ v (w' : Wd A), Le w w' → A.inv s' w'.G w'.H → DV K w'.G v c → Q v w'.H) → t σ w.H Q
def EvT (A : Amb) (K : Fg) (t : TT) (δ : Dl) (s : A.S) (b : Bool) (s' : A.S) : Prop :=
  ∀ (w : Wd A) (σ : L2.St), EnvD K σ w.G δ → A.inv s w.G w.H → ∀ Q : Bool → Hp → Prop, (∀ (w' : Wd A), Le w w' → A.inv s' w'.G w'.H → Q b w'.H) → t σ w.H Q
def EvA (A : Amb) (K : Fg) (t : TA) (δ : Dl) (s : A.S) (cs : List Sl) (s' : A.S) : Prop :=
  ∀ (w : Wd A) (σ : L2.St), EnvD K σ w.G δ → A.inv s w.G w.H → ∀ Q : List V → Hp → Prop, (∀ vs (w' : Wd A), Le w w' → A.inv s' w'.G w'.H → DVs K w'.G vs cs → Q vs w'.H) → t σ w.H Q
/-- a statement that nothing opens by itself -/
structure Wp (P : Prop) : Prop where
  run : P
def wpT (X : Cx) (e : Expr) : TE := fun σ H Q => Wp (∀ pins s, Inv X pins σ H s → wpAny (model X.prog X.w) X.A (eval e X.env) (EP X pins σ Q) X.xe s)
def wpB (X : Cx) (e : Expr) : TT := fun σ H Q => Wp (∀ pins s, Inv X pins σ H s → wpAny (model X.prog X.w) X.A (isTrue e X.env (eval e X.env)) (TP X pins σ Q) X.xe s)
def wpW (X : Cx) (e : Expr) : TT := fun σ H Q => Wp (∀ whole pins s, Inv X pins σ H s → wpAny (model X.prog X.w) X.A (isTrue e X.env whole) (TP X pins σ Q) X.xe s)
def wpA (X : Cx) (es : List Expr) : TA := fun σ H Q => Wp (∀ pos pins s, Inv X pins σ H s → wpAny (model X.prog X.w) X.A (spliced (backTo pos (starEach es X.env))) (AP X pins σ Q) X.xe s)
theorem pe_w {X : Cx} {e : Expr} : PE X e (wpT X e) := ⟨fun pins s _ _ _ I h => h.run pins s I⟩
theorem pt_w {X : Cx} {e : Expr} : PT X e (wpB X e) := ⟨fun pins s _ _ _ I h => h.run pins s I⟩
theorem pw_w {X : Cx} {e : Expr} : PW X e (wpW X e) := ⟨fun wh pins s _ _ _ I h => h.run wh pins s I⟩
theorem pa_w {X : Cx} {es : List Expr} : PA X es (wpA X es) := ⟨fun pos pins s _ _ _ I h => h.run pos pins s I⟩
def DE (A : Amb) (X : Cx) (δ : Dl) (s : A.S) (e : Expr) (c : Sl) (s' : A.S) : Prop := EvD A X.K (wpT X e) δ s c s'
def DT (A : Amb) (X : Cx) (δ : Dl) (s : A.S) (e : Expr) (b : Bool) (s' : A.S) : Prop := EvT A X.K (wpB X e) δ s b s'
def DW (A : Amb) (X : Cx) (δ : Dl) (s : A.S) (e : Expr) (b : Bool) (s' : A.S) : Prop := EvT A X.K (wpW X e) δ s b s'
def DA (A : Amb) (X : Cx) (δ : Dl) (s : A.S) (es : List Expr) (cs : List Sl) (s' : A.S) : Prop := EvA A X.K (wpA X es) δ s cs s'
section
variable {A : Amb} {X : Cx} {δ : Dl} {s s1 s2 s3 s4 : A.S}
theorem DE.of {e : Expr} {c : Sl} {t : TE} (h : PE X e t) (ev : EvD A X.K t δ s c s1) : DE A X δ s e c s1 := fun w σ en iv Q q => ⟨fun pins sh I => h.run pins sh σ w.H Q I (ev w σ en iv Q q)⟩
theorem DT.of {e : Expr} {b : Bool} {t : TT} (h : PT X e t) (ev : EvT A X.K t δ s b s1) : DT A X δ s e b s1 := fun w σ en iv Q q => ⟨fun pins sh I => h.run pins sh σ w.H Q I (ev w σ en iv Q q)⟩
theorem DW.of {e : Expr} {b : Bool} {t : TT} (h : PW X e t) (ev : EvT A X.K t δ s b s1) : DW A X δ s e b s1 := fun w σ en iv Q q => ⟨fun wh pins sh I => h.run wh pins sh σ w.H Q I (ev w σ en iv Q q)⟩
theorem DA.of {es : List Expr} {cs : List Sl} {t : TA} (h : PA X es t) (ev : EvA A X.K t δ s cs s1) : DA A X δ s es cs s1 := fun w σ en iv Q q => ⟨fun pos pins sh I => h.run pos pins sh σ w.H Q I (ev w σ en iv Q q)⟩
theorem DE.eq {e : Expr} {c c' : Sl} (h : DE A X δ s e c s1) (q : c = c') : DE A X δ s e c' s1 := q ▸ h
theorem DT.eq {e : Expr} {b b' : Bool} (h : DT A X δ s e b s1) (q : b = b') : DT A X δ s e b' s1 := q ▸ h
theorem DE.weak {δ' : Dl} {e : Expr} {c : Sl} (h : DE A X δ' s e c s1) (k : Wk δ δ') : DE A X δ s e c s1 := fun w σ en iv Q q => h w σ (en.weak k) iv Q q

/-! names, constants -/
theorem de_var (i : Nat) {x : Str} {pos : Pos} {c : Sl} (hN : X.N[i]? = some x := by rfl) (hδ : δ[i]? = some (some c) := by rfl)
    (hv : Vis X.env.scope x := by first | exact Or.inl rfl | exact Or.inr (Or.inl rfl) | exact Or.inr (Or.inr rfl)) (hd : (x == ("__debug__" : Str)) = false := by decide)
    (hcd : (x == ("__classdict__" : Str)) = false := by decide) : DE A X δ s (.Name x pos) c s :=
  DE.of (pv i hN hv hd hcd) fun w σ en iv Q q => by
    obtain ⟨v, a, b⟩ := en.at_ i c hδ
    exact ⟨v, a, q v w (Le.refl w) iv b⟩
theorem ev_c {K : Fg} {v : V} {c : Sl} (h : ∀ G, DV K G v c) : EvD A K (tC v) δ s c s := fun w σ en iv Q q => q v w (Le.refl w) iv (h _)
theorem de_int {i : Int} {j : Nat} {pos : Pos} : DE A X δ s (.Constant (.int i) j pos) (.d (.int i)) s := DE.of pe_int (ev_c fun _ => .int i)
theorem de_bl {i : Bool} {j : Nat} {pos : Pos} : DE A X δ s (.Constant (.bool i) j pos) (.d (.bool i)) s := DE.of pe_bl (ev_c fun _ => .bl i)
theorem de_str {i : Str} {j : Nat} {pos : Pos} : DE A X δ s (.Constant (.str i) j pos) (.d (.str i)) s := DE.of pe_str (ev_c fun _ => .str i)
theorem de_non {j : Nat} {pos : Pos} : DE A X δ s (.Constant .none j pos) (.d .none) s := DE.of pe_non (ev_c fun _ => .non)
/-- a constant of the module -/
def KC (K : Fg) (mg : Str → Option Value) (x : Str) (c : Sl) : Prop := ∃ v u, mg x = some u ∧ RelV v u ∧ ∀ G, DV K G v c
theorem de_glob {x : Str} {c : Sl} {pos : Pos} (h : KC X.K X.mg x c) (hg : Gl X x := by rfl) (hd : (x == ("__debug__" : Str)) = false := by decide) : DE A X δ s (.Name x pos) c s := by
  obtain ⟨v, u, a, b, k⟩ := h
  exact DE.of (pe_glob hg a b hd) (ev_c k)

/-! two-place operations -/
def OpD (A : Amb) (K : Fg) (r : R2) (c1 c2 : Sl) (c : Sl) : Prop :=
  ∀ (x y : V) (w : Wd A) (s : A.S), A.inv s w.G w.H → DV K w.G x c1 → DV K w.G y c2 → ∀ Q : VK, (∀ v (w' : Wd A), Le w w' → A.inv s w'.G w'.H → DV K w'.G v c → Q v w'.H) → r x y w.H Q
theorem ev_op {K : Fg} {r : R2} {ta tb : TE} {c1 c2 c : Sl} (ha : EvD A K ta δ s c1 s1) (hb : EvD A K tb δ s1 c2 s2) (hr : OpD A K r c1 c2 c) : EvD A K (tOp r ta tb) δ s c s2 := fun w σ en iv Q q =>
  ha w σ en iv _ fun x w1 l1 i1 d1 => hb w1 σ (en.mono l1.g) i1 _ fun y w2 l2 i2 d2 => hr x y w2 s2 i2 (dv_mono l2.g d1) d2 Q fun v w3 l3 i3 d3 => q v w3 ((l1.trans l2).trans l3) i3 d3
theorem de_bin {op : Operator} {r : R2} {a b : Expr} {c1 c2 c : Sl} {pos : Pos} (ho : OpR X (binaryOp op) r) (hr : OpD A X.K r c1 c2 c) (ha : DE A X δ s a c1 s1) (hb : DE A X δ s1 b c2 s2) : DE A X δ s (.BinOp a op b pos) c s2 :=
  DE.of (pe_op ho pe_w pe_w) (ev_op ha hb hr)
theorem de_cmp {op : CmpOp} {r : R2} {a b : Expr} {c1 c2 c : Sl} {pos : Pos} (ho : OpR X (compareOp op) r) (hr : OpD A X.K r c1 c2 c) (hm : behindInMarks op b = false) (ha : DE A X δ s a c1 s1) (hb : DE A X δ s1 b c2 s2) : DE A X δ s (.Compare a [op] [b] pos) c s2 :=
  DE.of (pe_cmpR ho pe_w pe_w hm) (ev_op ha hb hr)
theorem ev_test {K : Fg} {t : TE} {b : Bool} (h : EvD A K t δ s (.d (.bool b)) s1) : EvT A K (tTest t) δ s b s1 := fun w σ en iv Q q => h w σ en iv _ fun v w1 l1 i1 d1 => ⟨b, dv_bl d1, q w1 l1 i1⟩
theorem ev_tB {K : Fg} {t : TE} {b : Bool} (h : EvD A K t δ s (.d (.bool b)) s1) : EvT A K (tB t) δ s b s1 := fun w σ en iv Q q => h w σ en iv _ fun v w1 l1 i1 d1 => ⟨b, dv_bl d1, q w1 l1 i1⟩
theorem dt_cmp {op : CmpOp} {r : R2} {a b : Expr} {c1 c2 : Sl} {z : Bool} {pos : Pos} (ho : OpR X (compareOp op) r) (hr : OpD A X.K r c1 c2 (.d (.bool z))) (hm : behindInMarks op b = false) (ha : DE A X δ s a c1 s1) (hb : DE A X δ s1 b c2 s2) : DT A X δ s (.Compare a [op] [b] pos) z s2 :=
  DT.of (pt_cmpR ho pe_w pe_w hm) (ev_test (ev_op ha hb hr))
/-- a value that is a bool, as a test -/
theorem dt_val {e : Expr} {b : Bool} (h : DE A X δ s e (.d (.bool b)) s1) (he : ∀ whole, isTrue e X.env whole = (do let v ← whole; standAt e.pos; holding [v] (truthy v)) := by intro _; rfl) : DT A X δ s e b s1 :=
  DT.of (pt_val pe_w he) (ev_tB h)
theorem od_I0 {g : Int → Int → V} {f : Int → Int → PyData} {i j : Int} {K : Fg} (h : ∀ G i j, Dp K G (g i j) (f i j)) : OpD A K (rI0 g) (.d (.int i)) (.d (.int j)) (.d (f i j)) := fun x y w s iv dx dy Q q =>
  ⟨i, j, dv_int dx, dv_int dy, q _ w (Le.refl w) iv (h _ i j)⟩
theorem od_I {C : Int → Int → Prop} {g : Int → Int → V} {f : Int → Int → PyData} {i j : Int} {K : Fg} (h : ∀ G i j, Dp K G (g i j) (f i j)) (hc : C i j) : OpD A K (rI C g) (.d (.int i)) (.d (.int j)) (.d (f i j)) := fun x y w s iv dx dy Q q =>
  ⟨i, j, dv_int dx, dv_int dy, hc, q _ w (Le.refl w) iv (h _ i j)⟩
section
variable {a b : Expr} {i j : Int} {pos : Pos}
theorem de_add (ha : DE A X δ s a (.d (.int i)) s1) (hb : DE A X δ s1 b (.d (.int j)) s2) : DE A X δ s (.BinOp a .Add b pos) (.d (.int (i + j))) s2 := de_bin op_add (od_I0 (f := fun i j => .int (i + j)) fun _ _ _ => .int _) ha hb
theorem de_sub (ha : DE A X δ s a (.d (.int i)) s1) (hb : DE A X δ s1 b (.d (.int j)) s2) : DE A X δ s (.BinOp a .Sub b pos) (.d (.int (i - j))) s2 := de_bin op_sub (od_I0 (f := fun i j => .int (i - j)) fun _ _ _ => .int _) ha hb
theorem od_lt {K : Fg} : OpD A K (rI0 fun i j => .bl (decide (i < j))) (.d (.int i)) (.d (.int j)) (.d (.bool (decide (i < j)))) := od_I0 (f := fun i j => .bool (decide (i < j))) fun _ _ _ => .bl _
theorem od_le {K : Fg} : OpD A K (rI0 fun i j => .bl (decide (i ≤ j))) (.d (.int i)) (.d (.int j)) (.d (.bool (decide (i ≤ j)))) := od_I0 (f := fun i j => .bool (decide (i ≤ j))) fun _ _ _ => .bl _
theorem od_gt {K : Fg} : OpD A K (rI0 fun i j => .bl (decide (j < i))) (.d (.int i)) (.d (.int j)) (.d (.bool (decide (j < i)))) := od_I0 (f := fun i j => .bool (decide (j < i))) fun _ _ _ => .bl _
theorem de_lt (ha : DE A X δ s a (.d (.int i)) s1) (hb : DE A X δ s1 b (.d (.int j)) s2) : DE A X δ s (.Compare a [.Lt] [b] pos) (.d (.bool (decide (i < j)))) s2 := de_cmp op_lt od_lt (nomark _) ha hb
theorem de_le (ha : DE A X δ s a (.d (.int i)) s1) (hb : DE A X δ s1 b (.d (.int j)) s2) : DE A X δ s (.Compare a [.LtE] [b] pos) (.d (.bool (decide (i ≤ j)))) s2 := de_cmp op_le od_le (nomark _) ha hb
theorem de_gt (ha : DE A X δ s a (.d (.int i)) s1) (hb : DE A X δ s1 b (.d (.int j)) s2) : DE A X δ s (.Compare a [.Gt] [b] pos) (.d (.bool (decide (j < i)))) s2 := de_cmp op_gt od_gt (nomark _) ha hb
theorem dt_lt (ha : DE A X δ s a (.d (.int i)) s1) (hb : DE A X δ s1 b (.d (.int j)) s2) : DT A X δ s (.Compare a [.Lt] [b] pos) (decide (i < j)) s2 := dt_cmp op_lt od_lt (nomark _) ha hb
theorem dt_le (ha : DE A X δ s a (.d (.int i)) s1) (hb : DE A X δ s1 b (.d (.int j)) s2) : DT A X δ s (.Compare a [.LtE] [b] pos) (decide (i ≤ j)) s2 := dt_cmp op_le od_le (nomark _) ha hb
theorem dt_gt (ha : DE A X δ s a (.d (.int i)) s1) (hb : DE A X δ s1 b (.d (.int j)) s2) : DT A X δ s (.Compare a [.Gt] [b] pos) (decide (j < i)) s2 := dt_cmp op_gt od_gt (nomark _) ha hb
end
/-! equality of data -/
theorem od_eq {K : Fg} {d e : PyData} (hd : SeqAt.shaped d = true) (he : SeqAt.shaped e = true) : OpD A K (rEqD K) (.d d) (.d e) (.d (.bool (PyData.eqv d e))) := fun x y w s iv dx dy Q q =>
  ⟨d, e, dp_mono w.sub dx, dp_mono w.sub dy, hd, he, q _ w (Le.refl w) iv (.bl _)⟩
theorem od_ne {K : Fg} {d e : PyData} (hd : SeqAt.shaped d = true) (he : SeqAt.shaped e = true) : OpD A K (rNeD K) (.d d) (.d e) (.d (.bool (!PyData.eqv d e))) := fun x y w s iv dx dy Q q =>
  ⟨d, e, dp_mono w.sub dx, dp_mono w.sub dy, hd, he, q _ w (Le.refl w) iv (.bl _)⟩
section
variable {a b : Expr} {d e : PyData} {pos : Pos} {k : Nat}
theorem de_eq (hr : Room k X.A) (ha : DE A X δ s a (.d d) s1) (hb : DE A X δ s1 b (.d e) s2) (hd : SeqAt.shaped d = true) (he : SeqAt.shaped e = true) : DE A X δ s (.Compare a [.Eq] [b] pos) (.d (.bool (PyData.eqv d e))) s2 := de_cmp (op_eqD hr.units) (od_eq hd he) (nomark _) ha hb
theorem de_ne (hr : Room k X.A) (ha : DE A X δ s a (.d d) s1) (hb : DE A X δ s1 b (.d e) s2) (hd : SeqAt.shaped d = true) (he : SeqAt.shaped e = true) : DE A X δ s (.Compare a [.NotEq] [b] pos) (.d (.bool (!PyData.eqv d e))) s2 := de_cmp (op_neD hr.units) (od_ne hd he) (nomark _) ha hb
theorem dt_eq (hr : Room k X.A) (ha : DE A X δ s a (.d d) s1) (hb : DE A X δ s1 b (.d e) s2) (hd : SeqAt.shaped d = true) (he : SeqAt.shaped e = true) : DT A X δ s (.Compare a [.Eq] [b] pos) (PyData.eqv d e) s2 := dt_cmp (op_eqD hr.units) (od_eq hd he) (nomark _) ha hb
theorem dt_ne (hr : Room k X.A) (ha : DE A X δ s a (.d d) s1) (hb : DE A X δ s1 b (.d e) s2) (hd : SeqAt.shaped d = true) (he : SeqAt.shaped e = true) : DT A X δ s (.Compare a [.NotEq] [b] pos) (!PyData.eqv d e) s2 := dt_cmp (op_neD hr.units) (od_ne hd he) (nomark _) ha hb
end

/-! and, or, not, if -/
section
variable {a b : Expr} {rest : List Expr} {x y : Bool} {pos : Pos} {c : Sl}
theorem de_one {op : BoolOp} (ha : DE A X δ s a c s1) : DE A X δ s (.BoolOp op [a] pos) c s1 := DE.of (pe_one pe_w) ha
theorem de_and (ha : DE A X δ s a (.d (.bool x)) s1) (hb : x = true → DE A X δ s1 (.BoolOp .And (b :: rest) pos) (.d (.bool y)) s1) : DE A X δ s (.BoolOp .And (a :: b :: rest) pos) (.d (.bool (x && y))) s1 :=
  DE.of (pe_and pe_w pe_w) fun w σ en iv Q q => ha w σ en iv _ fun v w1 l1 i1 d1 => ⟨x, dv_bl d1, by
    cases x with
    | true => exact hb rfl w1 σ (en.mono l1.g) i1 Q fun u w2 l2 i2 d2 => q u w2 (l1.trans l2) i2 d2
    | false => exact q _ w1 l1 i1 (.bl false)⟩
theorem de_andF (ha : DE A X δ s a (.d (.bool x)) s1) (hx : x = false := by rfl) : DE A X δ s (.BoolOp .And (a :: b :: rest) pos) (.d (.bool false)) s1 := by
  subst hx
  exact (de_and (y := false) ha (fun z => nomatch z)).eq rfl
theorem de_or (ha : DE A X δ s a (.d (.bool x)) s1) (hb : x = false → DE A X δ s1 (.BoolOp .Or (b :: rest) pos) (.d (.bool y)) s1) : DE A X δ s (.BoolOp .Or (a :: b :: rest) pos) (.d (.bool (x || y))) s1 :=
  DE.of (pe_or pe_w pe_w) fun w σ en iv Q q => ha w σ en iv _ fun v w1 l1 i1 d1 => ⟨x, dv_bl d1, by
    cases x with
    | false => exact hb rfl w1 σ (en.mono l1.g) i1 Q fun u w2 l2 i2 d2 => q u w2 (l1.trans l2) i2 d2
    | true => exact q _ w1 l1 i1 (.bl true)⟩
theorem de_orT (ha : DE A X δ s a (.d (.bool x)) s1) (hx : x = true := by rfl) : DE A X δ s (.BoolOp .Or (a :: b :: rest) pos) (.d (.bool true)) s1 := by
  subst hx
  exact (de_or (y := true) ha (fun z => nomatch z)).eq rfl
theorem de_not (ha : DE A X δ s a (.d (.bool x)) s1) : DE A X δ s (.UnaryOp .Not a pos) (.d (.bool (!x))) s1 :=
  DE.of (pe_not pe_w) fun w σ en iv Q q => ha w σ en iv _ fun v w1 l1 i1 d1 => ⟨x, dv_bl d1, q _ w1 l1 i1 (.bl _)⟩
theorem de_neg {i : Int} (ha : DE A X δ s a (.d (.int i)) s1) : DE A X δ s (.UnaryOp .USub a pos) (.d (.int (-i))) s1 :=
  DE.of (pe_un un_neg pe_w) fun w σ en iv Q q => ha w σ en iv _ fun v w1 l1 i1 d1 => ⟨i, dv_int d1, q _ w1 l1 i1 (.int _)⟩
theorem dw_and1 (ha : DT A X δ s a x s1) : DW A X δ s (.BoolOp .And [a] pos) x s1 := DW.of (pw_and1 pt_w) ha
theorem dw_or1 (ha : DT A X δ s a x s1) : DW A X δ s (.BoolOp .Or [a] pos) x s1 := DW.of (pw_or1 pt_w) ha
theorem dw_and (ha : DT A X δ s a x s1) (hb : x = true → DW A X δ s1 (.BoolOp .And (b :: rest) pos) y s1) : DW A X δ s (.BoolOp .And (a :: b :: rest) pos) (x && y) s1 :=
  DW.of (pw_and pt_w pw_w) fun w σ en iv Q q => ha w σ en iv _ fun w1 l1 i1 => by
    cases x with
    | true => exact hb rfl w1 σ (en.mono l1.g) i1 Q fun w2 l2 i2 => q w2 (l1.trans l2) i2
    | false => exact q w1 l1 i1
theorem dw_or (ha : DT A X δ s a x s1) (hb : x = false → DW A X δ s1 (.BoolOp .Or (b :: rest) pos) y s1) : DW A X δ s (.BoolOp .Or (a :: b :: rest) pos) (x || y) s1 :=
  DW.of (pw_or pt_w pw_w) fun w σ en iv Q q => ha w σ en iv _ fun w1 l1 i1 => by
    cases x with
    | false => exact hb rfl w1 σ (en.mono l1.g) i1 Q fun w2 l2 i2 => q w2 (l1.trans l2) i2
    | true => exact q w1 l1 i1
theorem DW.dt {e : Expr} (h : DW A X δ s e x s1) : DT A X δ s e x s1 := DT.of (PW.pt pw_w) h
theorem dt_and (ha : DT A X δ s a x s1) (hb : x = true → DW A X δ s1 (.BoolOp .And (b :: rest) pos) y s1) : DT A X δ s (.BoolOp .And (a :: b :: rest) pos) (x && y) s1 := (dw_and ha hb).dt
theorem dt_or (ha : DT A X δ s a x s1) (hb : x = false → DW A X δ s1 (.BoolOp .Or (b :: rest) pos) y s1) : DT A X δ s (.BoolOp .Or (a :: b :: rest) pos) (x || y) s1 := (dw_or ha hb).dt
theorem dt_not (ha : DT A X δ s a x s1) : DT A X δ s (.UnaryOp .Not a pos) (!x) s1 :=
  DT.of (pt_not pt_w) fun w σ en iv Q q => ha w σ en iv _ fun w1 l1 i1 => q w1 l1 i1
theorem de_if {t : Expr} (ht : DT A X δ s t x s1) (h1 : x = true → DE A X δ s1 a c s2) (h2 : x = false → DE A X δ s1 b c s2) : DE A X δ s (.IfExp t a b pos) c s2 :=
  DE.of (pe_ifExp pt_w pe_w pe_w) fun w σ en iv Q q => ht w σ en iv _ fun w1 l1 i1 => by
    cases x with
    | true => exact h1 rfl w1 σ (en.mono l1.g) i1 Q fun u w2 l2 i2 d2 => q u w2 (l1.trans l2) i2 d2
    | false => exact h2 rfl w1 σ (en.mono l1.g) i1 Q fun u w2 l2 i2 d2 => q u w2 (l1.trans l2) i2 d2
end
end
end Kp
end
section
set_option Elab.async false
set_option linter.all false
set_option maxRecDepth 100000
set_option maxHeartbeats 4000000
namespace Kp
open PySem PySem.Spec PyProof.Rows L2

/-- the built-in names that the text uses are nobody's own -/
structure Nms (mg : Str → Option Value) : Prop where
  len : mg "len" = none
  all : mg "all" = none
  isinstance : mg "isinstance" = none
  int : mg "int" = none
  bool : mg "bool" = none
  str : mg "str" = none
  tuple : mg "tuple" = none
  list : mg "list" = none
  range : mg "range" = none
  sorted : mg "sorted" = none
  set : mg "set" = none
  min : mg "min" = none
  max : mg "max" = none

section
variable {A : Amb} {X : Cx} {δ : Dl} {s s1 s2 s3 s4 : A.S}
/-! membership -/
def rIsT (K : Fg) : R2 := fun x y H Q => ∃ d ds, Dp K H x d ∧ Dp K H y (.tuple ds) ∧ SeqAt.shaped d = true ∧ SeqAt.shaped (.tuple ds) = true ∧ Q (.bl (ds.any fun z => PyData.eqv z d)) H
def rNiT (K : Fg) : R2 := fun x y H Q => ∃ d ds, Dp K H x d ∧ Dp K H y (.tuple ds) ∧ SeqAt.shaped d = true ∧ SeqAt.shaped (.tuple ds) = true ∧ Q (.bl (!ds.any fun z => PyData.eqv z d)) H
theorem op_isT (hu : X.A.units + 65 < cLine) : OpR X (compareOp .In) (rIsT X.K) := by
  intro pins s σ H x y v u Q I rx ry h
  obtain ⟨d, ds, hd, he, sd, se, q⟩ := h
  obtain ⟨as, k1⟩ := Dp.reads I d x v hd rx
  obtain ⟨bs, k2⟩ := Dp.reads I (.tuple ds) y u he ry
  exact SeqAt.in_tuple_reads k2 k1 (SeqAt.canLay_of_shaped se) (SeqAt.canLay_of_shaped sd) (room_in_shaped sd hu) ⟨.bl _, H, I, rfl, q⟩
theorem op_niT (hu : X.A.units + 65 < cLine) : OpR X (compareOp .NotIn) (rNiT X.K) := by
  intro pins s σ H x y v u Q I rx ry h
  obtain ⟨d, ds, hd, he, sd, se, q⟩ := h
  obtain ⟨as, k1⟩ := Dp.reads I d x v hd rx
  obtain ⟨bs, k2⟩ := Dp.reads I (.tuple ds) y u he ry
  exact SeqAt.notIn_tuple_reads k2 k1 (SeqAt.canLay_of_shaped se) (SeqAt.canLay_of_shaped sd) (room_in_shaped sd hu) ⟨.bl _, H, I, rfl, q⟩
theorem room65 {k : Nat} {B : Around} (r : Room k B) : B.units + 65 < cLine := by have := r.un; omega
theorem od_isT {K : Fg} {d : PyData} {ds : List PyData} (hd : SeqAt.shaped d = true) (he : SeqAt.shaped (.tuple ds) = true) : OpD A K (rIsT K) (.d d) (.d (.tuple ds)) (.d (.bool (ds.any fun z => PyData.eqv z d))) := fun x y w s iv dx dy Q q =>
  ⟨d, ds, dp_mono w.sub dx, dp_mono w.sub dy, hd, he, q _ w (Le.refl w) iv (.bl _)⟩
theorem od_niT {K : Fg} {d : PyData} {ds : List PyData} (hd : SeqAt.shaped d = true) (he : SeqAt.shaped (.tuple ds) = true) : OpD A K (rNiT K) (.d d) (.d (.tuple ds)) (.d (.bool (!ds.any fun z => PyData.eqv z d))) := fun x y w s iv dx dy Q q =>
  ⟨d, ds, dp_mono w.sub dx, dp_mono w.sub dy, hd, he, q _ w (Le.refl w) iv (.bl _)⟩
theorem od_isL {K : Fg} {d : PyData} {ds : List PyData} (hd : SeqAt.shaped d = true) (he : SeqAt.shaped (.list ds) = true) : OpD A K (rInD K) (.d d) (.d (.list ds)) (.d (.bool (ds.any fun z => PyData.eqv z d))) := fun x y w s iv dx dy Q q =>
  ⟨d, ds, dp_mono w.sub dx, dp_mono w.sub dy, hd, he, q _ w (Le.refl w) iv (.bl _)⟩
theorem od_niL {K : Fg} {d : PyData} {ds : List PyData} (hd : SeqAt.shaped d = true) (he : SeqAt.shaped (.list ds) = true) : OpD A K (rNotInD K) (.d d) (.d (.list ds)) (.d (.bool (!ds.any fun z => PyData.eqv z d))) := fun x y w s iv dx dy Q q =>
  ⟨d, ds, dp_mono w.sub dx, dp_mono w.sub dy, hd, he, q _ w (Le.refl w) iv (.bl _)⟩
section
variable {a b : Expr} {d : PyData} {ds : List PyData} {pos : Pos} {k : Nat}
theorem de_isT (hr : Room k X.A) (ha : DE A X δ s a (.d d) s1) (hb : DE A X δ s1 b (.d (.tuple ds)) s2) (hd : SeqAt.shaped d = true) (he : SeqAt.shaped (.tuple ds) = true) (hm : behindInMarks .In b = false := by rfl) : DE A X δ s (.Compare a [.In] [b] pos) (.d (.bool (ds.any fun z => PyData.eqv z d))) s2 := de_cmp (op_isT (room65 hr)) (od_isT hd he) hm ha hb
theorem dt_isT (hr : Room k X.A) (ha : DE A X δ s a (.d d) s1) (hb : DE A X δ s1 b (.d (.tuple ds)) s2) (hd : SeqAt.shaped d = true) (he : SeqAt.shaped (.tuple ds) = true) (hm : behindInMarks .In b = false := by rfl) : DT A X δ s (.Compare a [.In] [b] pos) (ds.any fun z => PyData.eqv z d) s2 := dt_cmp (op_isT (room65 hr)) (od_isT hd he) hm ha hb
theorem de_niT (hr : Room k X.A) (ha : DE A X δ s a (.d d) s1) (hb : DE A X δ s1 b (.d (.tuple ds)) s2) (hd : SeqAt.shaped d = true) (he : SeqAt.shaped (.tuple ds) = true) (hm : behindInMarks .NotIn b = false := by rfl) : DE A X δ s (.Compare a [.NotIn] [b] pos) (.d (.bool (!ds.any fun z => PyData.eqv z d))) s2 := de_cmp (op_niT (room65 hr)) (od_niT hd he) hm ha hb
theorem dt_isL (hr : Room k X.A) (ha : DE A X δ s a (.d d) s1) (hb : DE A X δ s1 b (.d (.list ds)) s2) (hd : SeqAt.shaped d = true) (he : SeqAt.shaped (.list ds) = true) (hm : behindInMarks .In b = false := by rfl) : DT A X δ s (.Compare a [.In] [b] pos) (ds.any fun z => PyData.eqv z d) s2 := dt_cmp (op_inD (room65 hr)) (od_isL hd he) hm ha hb
theorem dt_niL (hr : Room k X.A) (ha : DE A X δ s a (.d d) s1) (hb : DE A X δ s1 b (.d (.list ds)) s2) (hd : SeqAt.shaped d = true) (he : SeqAt.shaped (.list ds) = true) (hm : behindInMarks .NotIn b = false := by rfl) : DT A X δ s (.Compare a [.NotIn] [b] pos) (!ds.any fun z => PyData.eqv z d) s2 := dt_cmp (op_notInD (room65 hr)) (od_niL hd he) hm ha hb
end

/-! chains -/
theorem ev_chain {K : Fg} {r r' : R2} {ta tb tc : TE} {c1 c2 c3 : Sl} {x y : Bool} (ha : EvD A K ta δ s c1 s1) (hb : EvD A K tb δ s1 c2 s2) (hc : EvD A K tc δ s2 c3 s2) (hr : OpD A K r c1 c2 (.d (.bool x))) (hr' : OpD A K r' c2 c3 (.d (.bool y))) :
    EvD A K (tChain r r' ta tb tc) δ s (.d (.bool (x && y))) s2 := fun w σ en iv Q q =>
  ha w σ en iv _ fun u1 w1 l1 i1 d1 => hb w1 σ (en.mono l1.g) i1 _ fun u2 w2 l2 i2 d2 => hr u1 u2 w2 s2 i2 (dv_mono l2.g d1) d2 _ fun v w3 l3 i3 d3 => ⟨x, dv_bl d3, by
    have l := (l1.trans l2).trans l3
    cases x with
    | true =>
      refine iteT (hc w3 σ (en.mono l.g) i3 _ fun u4 w4 l4 i4 d4 => hr' u2 u4 w4 s2 i4 (dv_mono (l3.trans l4).g d2) d4 Q fun v w5 l5 i5 d5 => q v w5 ((l.trans l4).trans l5) i5 d5)
    | false => exact iteF (q _ w3 l i3 (.bl false))⟩
theorem de_chain {op op' : CmpOp} {r r' : R2} {a b c : Expr} {c1 c2 c3 : Sl} {x y : Bool} {pos : Pos} (ho : OpR X (compareOp op) r) (ho' : OpR X (compareOp op') r') (hr : OpD A X.K r c1 c2 (.d (.bool x))) (hr' : OpD A X.K r' c2 c3 (.d (.bool y)))
    (ha : DE A X δ s a c1 s1) (hb : DE A X δ s1 b c2 s2) (hc : DE A X δ s2 c c3 s2) (hm : lastMarks [op, op'] [b, c] = false := by with_unfolding_all rfl) : DE A X δ s (.Compare a [op, op'] [b, c] pos) (.d (.bool (x && y))) s2 :=
  DE.of (pe_chain ho ho' pe_w pe_w pe_w hm) (ev_chain ha hb hc hr hr')
theorem dt_chain {op op' : CmpOp} {r r' : R2} {a b c : Expr} {c1 c2 c3 : Sl} {x y : Bool} {pos : Pos} (ho : OpR X (compareOp op) r) (ho' : OpR X (compareOp op') r') (hr : OpD A X.K r c1 c2 (.d (.bool x))) (hr' : OpD A X.K r' c2 c3 (.d (.bool y)))
    (ha : DE A X δ s a c1 s1) (hb : DE A X δ s1 b c2 s2) (hc : DE A X δ s2 c c3 s2) (hm : lastMarks [op, op'] [b, c] = false := by with_unfolding_all rfl) : DT A X δ s (.Compare a [op, op'] [b, c] pos) (x && y) s2 :=
  DT.of (pt_chain ho ho' pe_w pe_w pe_w hm) (ev_test (ev_chain ha hb hc hr hr'))
/-- a op b op' c op'' d -/
def tCh3 (r r' r'' : R2) (ta tb tc td : TE) : TE := fun σ H Q => ta σ H fun x H1 => tb σ H1 fun y H2 => r x y H2 fun z H3 => ∃ k, z = .bl k ∧
  (if k = true then tc σ H3 fun u H4 => r' y u H4 fun z' H5 => ∃ k', z' = .bl k' ∧ (if k' = true then td σ H5 fun u' H6 => r'' u u' H6 Q else Q (.bl false) H5) else Q (.bl false) H3)
theorem pe_ch3 {op op' op'' : CmpOp} {r r' r'' : R2} {a b c d : Expr} {ta tb tc td : TE} {pos : Pos} (ho : OpR X (compareOp op) r) (ho' : OpR X (compareOp op') r') (ho'' : OpR X (compareOp op'') r'') (ha : PE X a ta) (hb : PE X b tb) (hc : PE X c tc) (hd : PE X d td)
    (hm : lastMarks [op, op', op''] [b, c, d] = false) : PE X (.Compare a [op, op', op''] [b, c, d] pos) (tCh3 r r' r'' ta tb tc td) := by
  refine ⟨fun pins s σ H Q I h => ?_⟩
  refine Compare_chain (thn (ha.run pins s σ H _ I h) fun v z1 ⟨x, H1, I1, r1, q1⟩ => chain_link (thn (hb.run pins z1 σ H1 _ I1 q1) fun u z2 ⟨y, H2, I2, r2, q2⟩ =>
    thn (ho pins z2 σ H2 x y v u _ I2 r1 r2 q2) fun d' z3 ⟨z, H3, I3, r3, k, e, q3⟩ => ?_)) hm
  subst e
  cases r3
  refine wpAny_truthy_bool ?_
  cases k with
  | false => exact ite_ff ⟨.bl false, H3, I3, rfl, q3⟩
  | true =>
    refine ite_tt (chain_link (thn (hc.run pins z3 σ H3 _ I3 q3) fun w' z4 ⟨z', H4, I4, r4, q4⟩ => thn (ho' pins z4 σ H4 y z' u w' _ I4 r2 r4 q4) fun d2 z5 ⟨z2, H5, I5, r5, k2, e2, q5⟩ => ?_))
    subst e2
    cases r5
    refine wpAny_truthy_bool ?_
    cases k2 with
    | false => exact ite_ff ⟨.bl false, H5, I5, rfl, q5⟩
    | true => exact ite_tt (chain_last (thn (hd.run pins z5 σ H5 _ I5 q5) fun w3 z6 ⟨z7, H6, I6, r6, q6⟩ => ho'' pins z6 σ H6 z' z7 w' w3 Q I6 r4 r6 q6))
theorem de_ch3 {op op' op'' : CmpOp} {r r' r'' : R2} {a b c d : Expr} {c1 c2 c3 c4 : Sl} {x y z : Bool} {pos : Pos} (ho : OpR X (compareOp op) r) (ho' : OpR X (compareOp op') r') (ho'' : OpR X (compareOp op'') r'') (hr : OpD A X.K r c1 c2 (.d (.bool x))) (hr' : OpD A X.K r' c2 c3 (.d (.bool y)))
    (hr'' : OpD A X.K r'' c3 c4 (.d (.bool z))) (ha : DE A X δ s a c1 s) (hb : DE A X δ s b c2 s) (hc : DE A X δ s c c3 s) (hd : DE A X δ s d c4 s) (hm : lastMarks [op, op', op''] [b, c, d] = false := by with_unfolding_all rfl) :
    DE A X δ s (.Compare a [op, op', op''] [b, c, d] pos) (.d (.bool (x && (y && z)))) s :=
  DE.of (pe_ch3 ho ho' ho'' pe_w pe_w pe_w pe_w hm) fun w σ en iv Q q =>
    ha w σ en iv _ fun u1 w1 l1 i1 d1 => hb w1 σ (en.mono l1.g) i1 _ fun u2 w2 l2 i2 d2 => hr u1 u2 w2 s i2 (dv_mono l2.g d1) d2 _ fun v w3 l3 i3 d3 => ⟨x, dv_bl d3, by
      have l := (l1.trans l2).trans l3
      cases x with
      | false => exact iteF (q _ w3 l i3 (.bl false))
      | true =>
        refine iteT (hc w3 σ (en.mono l.g) i3 _ fun u4 w4 l4 i4 d4 => hr' u2 u4 w4 s i4 (dv_mono (l3.trans l4).g d2) d4 _ fun v5 w5 l5 i5 d5 => ⟨y, dv_bl d5, ?_⟩)
        have m := (l.trans l4).trans l5
        cases y with
        | false => exact iteF (q _ w5 m i5 (.bl false))
        | true => exact iteT (hd w5 σ (en.mono m.g) i5 _ fun u6 w6 l6 i6 d6 => hr'' u4 u6 w6 s i6 (dv_mono (l5.trans l6).g d4) d6 Q fun v7 w7 l7 i7 d7 => q v7 w7 ((m.trans l6).trans l7) i7 d7)⟩
/-- whole numbers: l ≤ x ≤ m -/
theorem de_lele {a b c : Expr} {i j k : Int} {pos : Pos} (ha : DE A X δ s a (.d (.int i)) s1) (hb : DE A X δ s1 b (.d (.int j)) s2) (hc : DE A X δ s2 c (.d (.int k)) s2) (hm : lastMarks [.LtE, .LtE] [b, c] = false := by with_unfolding_all rfl) : DE A X δ s (.Compare a [.LtE, .LtE] [b, c] pos) (.d (.bool (decide (i ≤ j) && decide (j ≤ k)))) s2 := de_chain op_le op_le od_le od_le ha hb hc hm
theorem dt_lele {a b c : Expr} {i j k : Int} {pos : Pos} (ha : DE A X δ s a (.d (.int i)) s1) (hb : DE A X δ s1 b (.d (.int j)) s2) (hc : DE A X δ s2 c (.d (.int k)) s2) (hm : lastMarks [.LtE, .LtE] [b, c] = false := by with_unfolding_all rfl) : DT A X δ s (.Compare a [.LtE, .LtE] [b, c] pos) (decide (i ≤ j) && decide (j ≤ k)) s2 := dt_chain op_le op_le od_le od_le ha hb hc hm
theorem de_lelt {a b c : Expr} {i j k : Int} {pos : Pos} (ha : DE A X δ s a (.d (.int i)) s1) (hb : DE A X δ s1 b (.d (.int j)) s2) (hc : DE A X δ s2 c (.d (.int k)) s2) (hm : lastMarks [.LtE, .Lt] [b, c] = false := by with_unfolding_all rfl) : DE A X δ s (.Compare a [.LtE, .Lt] [b, c] pos) (.d (.bool (decide (i ≤ j) && decide (j < k)))) s2 := de_chain op_le op_lt od_le od_lt ha hb hc hm
theorem de_lelelt {a b c d : Expr} {i j k l : Int} {pos : Pos} (ha : DE A X δ s a (.d (.int i)) s) (hb : DE A X δ s b (.d (.int j)) s) (hc : DE A X δ s c (.d (.int k)) s) (hd : DE A X δ s d (.d (.int l)) s) (hm : lastMarks [.LtE, .LtE, .Lt] [b, c, d] = false := by with_unfolding_all rfl) :
    DE A X δ s (.Compare a [.LtE, .LtE, .Lt] [b, c, d] pos) (.d (.bool (decide (i ≤ j) && (decide (j ≤ k) && decide (k < l))))) s := de_ch3 op_le op_le op_lt od_le od_le od_lt ha hb hc hd hm

/-! argument lists, displays -/
theorem da_nil : DA A X δ s [] [] s := DA.of pa_nil fun w σ en iv Q q => q [] w (Le.refl w) iv trivial
theorem da_cons {e : Expr} {es : List Expr} {c : Sl} {cs : List Sl} (h : DE A X δ s e c s1) (t : DA A X δ s1 es cs s2) (hs : starEach (e :: es) X.env = (false, eval e X.env) :: starEach es X.env := by rfl) : DA A X δ s (e :: es) (c :: cs) s2 :=
  DA.of (pa_cons pe_w pa_w hs) fun w σ en iv Q q => h w σ en iv _ fun v w1 l1 i1 d1 => t w1 σ (en.mono l1.g) i1 _ fun vs w2 l2 i2 d2 => q (v :: vs) w2 (l1.trans l2) i2 ⟨dv_mono l2.g d1, d2⟩
theorem line_of {n : Nat} (h : Nat.ble n 100000 = true) : n ≤ sizeLine := Nat.le_trans (Nat.le_of_ble_eq_true h) (by decide)
theorem de_tup {es : List Expr} {ds : List PyData} {j : Nat} {pos : Pos} (h : DA A X δ s es (ds.map Sl.d) s1) (hl : Nat.ble ds.length 100000 = true := by rfl) : DE A X δ s (.Tuple es j pos) (.d (.tuple ds)) s1 :=
  DE.of (pe_tup pa_w) fun w σ en iv Q q => h w σ en iv _ fun vs w1 l1 i1 d1 => by
    have da := dvs_all d1
    refine ⟨by rw [dpa_len da]; exact line_of hl, fun p hp => q _ (w1.new p _ hp) (l1.trans (w1.new_le p _ hp)) (inv_new hp i1) ?_⟩
    exact Dp.tup (SqT.of (show upd w1.G p _ p = _ from upd_same)) (dpa_mono (w1.new_le p _ hp).g da)
theorem de_lst {es : List Expr} {ds : List PyData} {pos : Pos} (h : DA A X δ s es (ds.map Sl.d) s1) (hl : Nat.ble ds.length 100000 = true := by rfl) : DE A X δ s (.List es pos) (.d (.list ds)) s1 :=
  DE.of (pe_lst pa_w) fun w σ en iv Q q => h w σ en iv _ fun vs w1 l1 i1 d1 => by
    have da := dvs_all d1
    refine ⟨by rw [dpa_len da]; exact line_of hl, fun p hp => q _ (w1.new p _ hp) (l1.trans (w1.new_le p _ hp)) (inv_new hp i1) ?_⟩
    exact Dp.lst (SqL.of (show upd w1.G p _ p = _ from upd_same)) (dpa_mono (w1.new_le p _ hp).g da)

/-! items and slices -/
theorem dpa_at {K : Fg} {G : Hp} {xs : List V} {ds : List PyData} {i : Int} {d : PyData} (da : DpAll K G xs ds) (h : atI ds i = some d) : ∃ v, atI xs i = some v ∧ Dp K G v d := by
  unfold atI at h ⊢
  rw [dpa_len da]
  cases e : ixN ds.length i with
  | none => rw [e] at h; cases h
  | some j =>
    rw [e] at h
    exact dpa_get da h
theorem od_ixT {K : Fg} {ds : List PyData} {i : Int} {d : PyData} (h : atI ds i = some d) : OpD A K (rIxT K) (.d (.tuple ds)) (.d (.int i)) (.d d) := fun x y w s iv dx dy Q q => by
  obtain ⟨a, xs, ea, hs, da⟩ := dv_tup dx
  obtain ⟨v, hv, dv⟩ := dpa_at da h
  exact ⟨a, xs, i, v, ea, dv_int dy, same_t w.sub hs, hv, q v w (Le.refl w) iv dv⟩
theorem od_ixL {K : Fg} {ds : List PyData} {i : Int} {d : PyData} (h : atI ds i = some d) : OpD A K (rIxL K) (.d (.list ds)) (.d (.int i)) (.d d) := fun x y w s iv dx dy Q q => by
  obtain ⟨a, xs, ea, hs, da⟩ := dv_lst dx
  obtain ⟨v, hv, dv⟩ := dpa_at da h
  exact ⟨a, xs, i, v, ea, dv_int dy, Same.seq w.sub hs, hv, q v w (Le.refl w) iv dv⟩
theorem de_ix {a b : Expr} {ds : List PyData} {i : Int} {d : PyData} {pos : Pos} (ha : DE A X δ s a (.d (.tuple ds)) s1) (hb : DE A X δ s1 b (.d (.int i)) s2) (h : atI ds i = some d := by rfl) (hp : PlainIx b := by exact fun _ _ => rfl) : DE A X δ s (.Subscript a b pos) (.d d) s2 :=
  DE.of (pe_ix ix_tup pe_w pe_w hp) (ev_op ha hb (od_ixT h))
theorem de_ixL {a b : Expr} {ds : List PyData} {i : Int} {d : PyData} {pos : Pos} (ha : DE A X δ s a (.d (.list ds)) s1) (hb : DE A X δ s1 b (.d (.int i)) s2) (h : atI ds i = some d := by rfl) (hp : PlainIx b := by exact fun _ _ => rfl) : DE A X δ s (.Subscript a b pos) (.d d) s2 :=
  DE.of (pe_ix ix_list pe_w pe_w hp) (ev_op ha hb (od_ixL h))
/-- an optional part of a slice -/
def DO (A : Amb) (X : Cx) (δ : Dl) (s : A.S) (o : Option Expr) (i : Option Int) : Prop := match o, i with
  | none, none => True
  | some e, some i => DE A X δ s e (.d (.int i)) s
  | _, _ => False
theorem do_none : DO A X δ s none none := trivial
theorem do_some {e : Expr} {i : Int} (h : DE A X δ s e (.d (.int i)) s) : DO A X δ s (some e) (some i) := h
theorem ev_part {lo : Option Expr} {i : Option Int} (h : DO A X δ s lo i) : ∃ tl, PO X lo tl ∧ ∀ (w : Wd A) (σ : L2.St), EnvD X.K σ w.G δ → A.inv s w.G w.H → ∀ Q : Option Int → Hp → Prop, (∀ w' : Wd A, Le w w' → A.inv s w'.G w'.H → Q i w'.H) → tl σ w.H Q := by
  cases lo with
  | none =>
    cases i with
    | none => exact ⟨tNoPart, po_none, fun w σ en iv Q q => q w (Le.refl w) iv⟩
    | some i => exact h.elim
  | some e =>
    cases i with
    | none => exact h.elim
    | some i => exact ⟨_, po_some pe_w, fun w σ en iv Q q => (show DE A X δ s e _ s from h) w σ en iv _ fun v w1 l1 i1 d1 => ⟨i, dv_int d1, q w1 l1 i1⟩⟩
/-- the cut of a list of data -/
def cutD (ds : List PyData) (lo hi : Option Int) : List PyData := (ds.drop (HT.sIx ds.length 0 lo)).take (HT.sIx ds.length ds.length hi - HT.sIx ds.length 0 lo)
theorem dpa_cut {K : Fg} {G : Hp} {xs : List V} {ds : List PyData} {lo hi : Option Int} (da : DpAll K G xs ds) : DpAll K G (cutV xs lo hi) (cutD ds lo hi) := by
  unfold cutV cutD
  rw [dpa_len da]
  exact dpa_take _ (dpa_drop _ da)
theorem cut_whole {K : Fg} {G : Hp} {xs : List V} {ds : List PyData} {lo hi : Option Int} (da : DpAll K G xs ds) (h : HT.sIx xs.length 0 lo = 0 ∧ HT.sIx xs.length xs.length hi = xs.length) : cutD ds lo hi = ds := by
  unfold cutD
  rw [← dpa_len da, h.1, h.2, dpa_len da]
  simp
theorem de_cut {e : Expr} {lo hi : Option Expr} {i j : Option Int} {ds es : List PyData} {p2 pos : Pos} (h : DE A X δ s e (.d (.tuple ds)) s1) (hl : DO A X δ s1 lo i) (hu : DO A X δ s1 hi j) (he : cutD ds i j = es := by rfl) :
    DE A X δ s (.Subscript e (.Slice lo hi none p2) pos) (.d (.tuple es)) s1 := by
  obtain ⟨tl, pl, el⟩ := ev_part hl
  obtain ⟨tu, pu, eu⟩ := ev_part hu
  refine DE.of (pe_slice sl_tupA pe_w pl pu) fun w σ en iv Q q => h w σ en iv _ fun x w1 l1 i1 d1 => el w1 σ (en.mono l1.g) i1 _ fun w2 l2 i2 => eu w2 σ (en.mono (l1.trans l2).g) i2 _ fun w3 l3 i3 => ?_
  obtain ⟨a, xs, ea, hs, da⟩ := dv_tup (dv_mono (l2.trans l3).g d1)
  have l := (l1.trans l2).trans l3
  refine ⟨a, xs, ea, same_t w3.sub hs, fun hw => ?_, fun hw p hp => ?_⟩
  · rw [← he, cut_whole da hw] at *
    exact q _ w3 l i3 (.tup hs da)
  · refine q _ (w3.new p _ hp) (l.trans (w3.new_le p _ hp)) (inv_new hp i3) ?_
    rw [← he]
    exact Dp.tup (SqT.of (show upd w3.G p _ p = _ from upd_same)) (dpa_mono (w3.new_le p _ hp).g (dpa_cut da))

/-! + of texts, tuples, lists -/
theorem de_addS {a b : Expr} {x y : Str} {pos : Pos} (ha : DE A X δ s a (.d (.str x)) s1) (hb : DE A X δ s1 b (.d (.str y)) s2) (hl : Nat.ble (x.length + y.length) 100000 = true := by rfl) : DE A X δ s (.BinOp a .Add b pos) (.d (.str (x ++ y))) s2 :=
  de_bin op_add_str (fun u v w s iv dx dy Q q => ⟨x, y, dv_str dx, dv_str dy, line_of hl, q _ w (Le.refl w) iv (.str _)⟩) ha hb
theorem de_addT {a b : Expr} {x y : List PyData} {pos : Pos} (ha : DE A X δ s a (.d (.tuple x)) s1) (hb : DE A X δ s1 b (.d (.tuple y)) s2) (hl : x.length + y.length ≤ 100000) : DE A X δ s (.BinOp a .Add b pos) (.d (.tuple (x ++ y))) s2 :=
  de_bin op_catA (fun u v w s iv dx dy Q q => by
    obtain ⟨a, xs, ea, hs, da⟩ := dv_tup dx
    obtain ⟨b, ys, eb, ht, db⟩ := dv_tup dy
    refine ⟨a, b, xs, ys, ea, eb, same_t w.sub hs, same_t w.sub ht, by rw [dpa_len da, dpa_len db]; exact Nat.le_trans hl (by decide), fun z => ?_, fun z z' => ?_, fun z z' p hp => ?_⟩
    · subst z
      cases da
      exact q _ w (Le.refl w) iv (.tup ht db)
    · subst z'
      cases db
      exact q _ w (Le.refl w) iv (by rw [List.append_nil]; exact .tup hs da)
    · refine q _ (w.new p _ hp) (w.new_le p _ hp) (inv_new hp iv) ?_
      exact Dp.tup (SqT.of (show upd w.G p _ p = _ from upd_same)) (dpa_mono (w.new_le p _ hp).g (dpa_app da db))) ha hb

/-! built-in calls -/
theorem ev_cb {K : Fg} {r : List V → Hp → VK → Prop} {ta : TA} {cs : List Sl} {c : Sl} (h : EvA A K ta δ s cs s1) (hr : ∀ vs (w : Wd A), A.inv s1 w.G w.H → DVs K w.G vs cs → ∀ Q : VK, (∀ v (w' : Wd A), Le w w' → A.inv s1 w'.G w'.H → DV K w'.G v c → Q v w'.H) → r vs w.H Q) : EvD A K (tCB r ta) δ s c s1 := fun w σ en iv Q q =>
  h w σ en iv _ fun vs w1 l1 i1 d1 => hr vs w1 i1 d1 Q fun v w2 l2 i2 d2 => q v w2 (l1.trans l2) i2 d2
theorem dvs1 {K : Fg} {G : Hp} {vs : List V} {c : Sl} (h : DVs K G vs [c]) : ∃ v, vs = [v] ∧ DV K G v c := by
  match vs, h with
  | [v], ⟨a, _⟩ => exact ⟨v, rfl, a⟩
theorem dvs2 {K : Fg} {G : Hp} {vs : List V} {c d : Sl} (h : DVs K G vs [c, d]) : ∃ v u, vs = [v, u] ∧ DV K G v c ∧ DV K G u d := by
  match vs, h with
  | [v, u], ⟨a, b, _⟩ => exact ⟨v, u, rfl, a, b⟩
theorem de_len {e : Expr} {ds : List PyData} {p pos : Pos} (N : Nms X.mg) (h : DE A X δ s e (.d (.tuple ds)) s1) (hg : Gl X "len" := by rfl) (hs : starEach [e] X.env = (false, eval e X.env) :: starEach [] X.env := by rfl) : DE A X δ s (.Call (.Name "len" p) [e] [] pos) (.d (.int ds.length)) s1 :=
  DE.of (pe_callB call_len_seq hg N.len boot_len pa_w (he := hs)) (ev_cb (da_cons h da_nil hs) fun vs w iv dv Q q => by
    obtain ⟨v, rfl, d1⟩ := dvs1 dv
    obtain ⟨a, xs, rfl, hx, da⟩ := dv_tup d1
    exact ⟨a, xs, rfl, .inr (same_t w.sub hx), q _ w (Le.refl w) iv (by rw [dpa_len da]; exact Dp.int _)⟩)
theorem de_lenL {e : Expr} {ds : List PyData} {p pos : Pos} (N : Nms X.mg) (h : DE A X δ s e (.d (.list ds)) s1) (hg : Gl X "len" := by rfl) (hs : starEach [e] X.env = (false, eval e X.env) :: starEach [] X.env := by rfl) : DE A X δ s (.Call (.Name "len" p) [e] [] pos) (.d (.int ds.length)) s1 :=
  DE.of (pe_callB call_len_seq hg N.len boot_len pa_w (he := hs)) (ev_cb (da_cons h da_nil hs) fun vs w iv dv Q q => by
    obtain ⟨v, rfl, d1⟩ := dvs1 dv
    obtain ⟨a, xs, rfl, hx, da⟩ := dv_lst d1
    exact ⟨a, xs, rfl, .inl (Same.seq w.sub hx), q _ w (Le.refl w) iv (by rw [dpa_len da]; exact Dp.int _)⟩)
theorem bls_of {K : Fg} {G : Hp} : ∀ {xs : List V} {bs : List Bool}, DpAll K G xs (bs.map PyData.bool) → xs = bs.map V.bl
  | [], [], _ => rfl
  | _ :: _, _ :: _, .cons a b => by
    cases a
    rw [bls_of b]
    rfl
theorem de_all {e : Expr} {bs : List Bool} {p pos : Pos} (N : Nms X.mg) (hc : X.calm = true) (h : DE A X δ s e (.d (.list (bs.map PyData.bool))) s1) (hg : Gl X "all" := by rfl) (hs : starEach [e] X.env = (false, eval e X.env) :: starEach [] X.env := by rfl) :
    DE A X δ s (.Call (.Name "all" p) [e] [] pos) (.d (.bool (bs.all id))) s1 :=
  DE.of (pe_callB (cr_all hc) hg N.all (by decide +kernel) pa_w (he := hs)) (ev_cb (da_cons h da_nil hs) fun vs w iv dv Q q => by
    obtain ⟨v, rfl, d1⟩ := dvs1 dv
    obtain ⟨a, xs, rfl, hx, da⟩ := dv_lst d1
    rw [bls_of da] at hx
    exact ⟨a, bs, rfl, Same.seq w.sub hx, q _ w (Le.refl w) iv (.bl _)⟩)
theorem de_min {e e' : Expr} {i j : Int} {p pos : Pos} (N : Nms X.mg) (hc : X.calm = true) (h : DE A X δ s e (.d (.int i)) s1) (h' : DE A X δ s1 e' (.d (.int j)) s2) (hg : Gl X "min" := by rfl) (hs : starEach [e, e'] X.env = (false, eval e X.env) :: starEach [e'] X.env := by rfl)
    (hs' : starEach [e'] X.env = (false, eval e' X.env) :: starEach [] X.env := by rfl) (hpl : (backTo pos (starEach [e'] X.env)).any (·.1) = false := by rfl) : DE A X δ s (.Call (.Name "min" p) [e, e'] [] pos) (.d (.int (if j < i then j else i))) s2 :=
  DE.of (pe_callB (call_min2 hc) hg N.min boot_min pa_w (he := hs) (hpl := hpl)) (ev_cb (da_cons h (da_cons h' da_nil hs') hs) fun vs w iv dv Q q => by
    obtain ⟨v, u, rfl, d1, d2⟩ := dvs2 dv
    rw [dv_int d1, dv_int d2]
    exact ⟨i, j, rfl, q _ w (Le.refl w) iv (.int _)⟩)
theorem de_max {e e' : Expr} {i j : Int} {p pos : Pos} (N : Nms X.mg) (hc : X.calm = true) (h : DE A X δ s e (.d (.int i)) s1) (h' : DE A X δ s1 e' (.d (.int j)) s2) (hg : Gl X "max" := by rfl) (hs : starEach [e, e'] X.env = (false, eval e X.env) :: starEach [e'] X.env := by rfl)
    (hs' : starEach [e'] X.env = (false, eval e' X.env) :: starEach [] X.env := by rfl) (hpl : (backTo pos (starEach [e'] X.env)).any (·.1) = false := by rfl) : DE A X δ s (.Call (.Name "max" p) [e, e'] [] pos) (.d (.int (if j > i then j else i))) s2 :=
  DE.of (pe_callB (call_max2 hc) hg N.max boot_max pa_w (he := hs) (hpl := hpl)) (ev_cb (da_cons h (da_cons h' da_nil hs') hs) fun vs w iv dv Q q => by
    obtain ⟨v, u, rfl, d1, d2⟩ := dvs2 dv
    rw [dv_int d1, dv_int d2]
    exact ⟨i, j, rfl, q _ w (Le.refl w) iv (.int _)⟩)
theorem de_tupL {e : Expr} {ds : List PyData} {p pos : Pos} (N : Nms X.mg) (h : DE A X δ s e (.d (.list ds)) s1) (hg : Gl X "tuple" := by rfl) (hs : starEach [e] X.env = (false, eval e X.env) :: starEach [] X.env := by rfl) : DE A X δ s (.Call (.Name "tuple" p) [e] [] pos) (.d (.tuple ds)) s1 :=
  DE.of (pe_callTy call_tuple_of hg N.tuple (by decide +kernel) pa_w (he := hs)) (ev_cb (da_cons h da_nil hs) fun vs w iv dv Q q => by
    obtain ⟨v, rfl, d1⟩ := dvs1 dv
    obtain ⟨a, xs, rfl, hx, da⟩ := dv_lst d1
    refine ⟨a, xs, rfl, .inl ⟨Same.seq w.sub hx, fun l hl => q _ (w.new l _ hl) (w.new_le l _ hl) (inv_new hl iv) ?_⟩⟩
    exact Dp.tup (SqT.of (show upd w.G l _ l = _ from upd_same)) (dpa_mono (w.new_le l _ hl).g da))

/-! isinstance -/
def tyN : PyData → String
  | .none => "NoneType"
  | .bool _ => "bool"
  | .int _ => "int"
  | .str _ => "str"
  | .list _ => "list"
  | .tuple _ => "tuple"
  | .dict _ => "dict"
theorem ty_of {K : Fg} {H : Hp} {v : V} {d : PyData} (h : Dp K H v d) : TyX K H v (.type (tyN d)) := by
  cases h with
  | non => exact .base .non
  | bl b => exact .base (.bl b)
  | int i => exact .base (.int i)
  | str x => exact .base (.str x)
  | lst hs _ =>
    rcases hs with (h | ⟨o, h⟩) | ⟨o, its, n, hk, hc, _⟩
    · exact .base (.lst h)
    · exact .base (.frz h)
    · exact .kList hk hc
  | tup hs _ =>
    rcases hs with (h | ⟨o, h⟩) | ⟨o, its, n, hk, hc, _⟩
    · exact .base (.tup h)
    · exact .fTuple h
    · exact .kTuple hk hc
def isiD (d : PyData) (T : String) : Bool := tyN d == T || (tyN d == "bool" && T == "int")
theorem kit_isi (d : PyData) (T : String) (hT : T = "int" ∨ T = "bool" ∨ T = "str" ∨ T = "tuple" ∨ T = "list") : kitB (tyN d) T = some (isiD d T) := by
  have h : ∀ t ∈ ["NoneType", "bool", "int", "str", "list", "tuple", "dict"], ∀ T ∈ ["int", "bool", "str", "tuple", "list"], kitB t T = some (t == T || (t == "bool" && T == "int")) := by decide +kernel
  refine h (tyN d) (by cases d <;> simp [tyN]) T ?_
  rcases hT with rfl | rfl | rfl | rfl | rfl <;> simp
theorem de_isi {e : Expr} {d : PyData} {x : Str} {T : String} {p p2 pos : Pos} (N : Nms X.mg) (h : DE A X δ s e (.d d) s1) (hm : X.mg x = none) (hb : bootBuiltins x = some (.type T)) (hT : T = "int" ∨ T = "bool" ∨ T = "str" ∨ T = "tuple" ∨ T = "list")
    (hg : Gl X "isinstance" := by rfl) (hg2 : Gl X x := by rfl) (hn : x ≠ "__name__" := by decide) (hd : (x == ("__debug__" : Str)) = false := by decide) (hs : starEach [e, .Name x p2] X.env = (false, eval e X.env) :: starEach [.Name x p2] X.env := by rfl) :
    DE A X δ s (.Call (.Name "isinstance" p) [e, .Name x p2] [] pos) (.d (.bool (isiD d T))) s1 :=
  DE.of (pe_callB call_isi hg N.isinstance boot_isinstance pa_w (he := hs)) (ev_cb (cs := [.d d, .r (.ty T)]) (da_cons h (da_cons (DE.of (pe_bltn hg2 hm hb (show RelV (.ty T) (.type T) from rfl) hn hd) (ev_c fun _ => rfl)) da_nil rfl) hs) fun vs w iv dv Q q => by
    obtain ⟨v, u, rfl, d1, d2⟩ := dvs2 dv
    obtain rfl : u = .ty T := d2
    exact ⟨v, .ty T, _, _, _, rfl, .ty T, ty_of (dp_mono w.sub d1), kit_ty (kit_isi d T hT), q _ w (Le.refl w) iv (.bl _)⟩)

/-! calls of the text's defs -/
inductive Res where
  | val (c : Sl)
  | exc (C : Addr)
def RK (K : Fg) (G H : Hp) (Q : VK) (E : XK) : Res → Prop
  | .val c => ∀ v G' H', Nt G' → Same G' H' → Same G G' → Same H H' → (∀ x, Mu (H x) → G x = none → G' x = none) → DV K G' v c → Q v H'
  | .exc C => ∀ H', Same H H' → E (.ref C) none H'
/-- a def that leaves all as it was: R tells its result of what its arguments are -/
def spR (K : Fg) (R : List Sl → Res → Prop) : Sp := fun vs H Q E => ∃ (G : Hp) (cs : List Sl) (r : Res), Nt G ∧ Same G H ∧ DVs K G vs cs ∧ R cs r ∧ RK K G H Q E r
structure Dfn (P : Program) (w : World) (K : Fg) (mg : Str → Option Value) (base : Heap) (k : Nat) (x : Str) (ps : List Str) (sp : Sp) : Prop where
  ex : ∃ f fd, FnOk P w K mg base (L2.CX P w) k f fd ps sp ∧ Binds K fd ps [] ∧ mg x = some (.ref f) ∧ PySem.W.keepIn K (.ref f) = true
theorem de_call {x : Str} {ps : List Str} {k : Nat} {R : List Sl → Res → Prop} {e : Expr} {es : List Expr} {cs : List Sl} {c : Sl} {p pos : Pos} (F : Dfn X.prog X.w X.K X.mg X.base k x ps (spR X.K R)) (hr : Room k X.A) (h : DA A X δ s (e :: es) cs s1) (hR : R cs (.val c)) (hg : Gl X x := by rfl)
    (hdb : (x == ("__debug__" : Str)) = false := by decide) (he : starEach (e :: es) X.env = (false, eval e X.env) :: starEach es X.env := by rfl) (hpl : (backTo pos (starEach es X.env)).any (·.1) = false := by rfl) : DE A X δ s (.Call (.Name x p) (e :: es) [] pos) c s1 := by
  obtain ⟨f, fd, G, b, m, k⟩ := F.ex
  refine DE.of (pe_call G hr hg m k b .nil passL pa_w hdb he hpl) fun w σ en iv Q q => h w σ en iv _ fun vs w1 l1 i1 d1 => ?_
  rw [List.append_nil]
  refine ⟨w1.G, cs, _, w1.nt, w1.sub, d1, hR, fun v G' H' a0 a1 a2 a3 a4 dv => ?_⟩
  exact q v (w1.on G' H' a0 a1 a2 a3 a4) (l1.trans (w1.on_le a0 a1 a2 a3 a4)) (A.st i1 a2 fun x o _ e => a3 x o e) dv
theorem de_call0 {x : Str} {k : Nat} {R : List Sl → Res → Prop} {c : Sl} {p pos : Pos} (F : Dfn X.prog X.w X.K X.mg X.base k x [] (spR X.K R)) (hr : Room k X.A) (hR : R [] (.val c)) (hg : Gl X x := by rfl) (hdb : (x == ("__debug__" : Str)) = false := by decide) : DE A X δ s (.Call (.Name x p) [] [] pos) c s := by
  obtain ⟨f, fd, G, b, m, k⟩ := F.ex
  refine DE.of (pe_call0 G hr hg m k b .nil passL hdb) fun w σ en iv Q q => ?_
  show spR X.K R ([] ++ []) w.H Q _
  refine ⟨w.G, [], _, w.nt, w.sub, trivial, hR, fun v G' H' a0 a1 a2 a3 a4 dv => ?_⟩
  exact q v (w.on G' H' a0 a1 a2 a3 a4) (w.on_le a0 a1 a2 a3 a4) (A.st iv a2 fun x o _ e => a3 x o e) dv
end
end Kp
end
section
set_option Elab.async false
set_option linter.all false
set_option maxRecDepth 100000
set_option maxHeartbeats 4000000
namespace Kp
open PySem PySem.Spec PyProof.Rows L2
section
variable {A : Amb}
/-- the object at D, which does not stand still, is another -/
def Wd.put (w : Wd A) (D : Addr) (o : HO) (hD : w.G D = none) (hM : A.M D → Mu (some o) := by exact fun _ => mu_lst) : Wd A where
  G := w.G
  H := upd w.H D o
  sub := fun b x e => by rw [upd_ne (ne_of_none e hD)]; exact w.sub b x e
  mt := fun x m => ⟨(w.mt x m).1, by
    by_cases q : x = D
    · rw [q, upd_same]; exact hM (q ▸ m)
    · rw [upd_ne q]; exact (w.mt x m).2⟩
  nt := w.nt
/-- from now on it stands still -/
def Wd.fz (w : Wd A) (D : Addr) (o : HO) (hM : ¬ A.M D) (h : w.H D = some o) (ho : ∀ ps, o ≠ .tbl ps := by exact fun _ z => nomatch z) : Wd A where
  G := upd w.G D o
  H := w.H
  sub := fun b x e => by
    by_cases q : b = D
    · rw [q] at e ⊢; rw [upd_same] at e; cases e; exact h
    · rw [upd_ne q] at e; exact w.sub b x e
  mt := fun x m => ⟨by
    have q : x ≠ D := fun z => hM (z ▸ m)
    rw [upd_ne q]; exact (w.mt x m).1, (w.mt x m).2⟩
  nt := w.nt.upd ho
theorem not_m {w : Wd A} {D : Addr} (h : w.H D = none) : ¬ A.M D := fun m => (w.mt D m).2.ne h rfl
theorem inv_put {s : A.S} {w : Wd A} {D : Addr} {o : HO} {hD : w.G D = none} {hM' : A.M D → Mu (some o)} (hM : ¬ A.M D) (h : A.inv s w.G w.H) : A.inv s (w.put D o hD hM').G (w.put D o hD hM').H :=
  A.st h (Same.refl _) fun x u m e => by
    show upd w.H D o x = some u
    have q : x ≠ D := fun z => hM (by rw [← z]; exact m)
    rw [upd_ne q]; exact e
theorem inv_fz {s : A.S} {w : Wd A} {D : Addr} {o : HO} {hM : ¬ A.M D} {h : w.H D = some o} {ho : ∀ ps, o ≠ .tbl ps} (hG : w.G D = none) (iv : A.inv s w.G w.H) : A.inv s (w.fz D o hM h ho).G (w.fz D o hM h ho).H :=
  A.st iv (fun x u e => by
    show upd w.G D o x = some u
    rw [upd_ne (ne_of_none e hG)]; exact e) fun _ _ _ e => e
/-- relative to a world in which D was not yet there -/
theorem put_le {w1 w2 : Wd A} {D : Addr} {o : HO} {hD : w2.G D = none} {hM' : A.M D → Mu (some o)} (h1 : w1.H D = none) (l : Le w1 w2) : Le w1 (w2.put D o hD hM') :=
  ⟨l.g, fun x u m e => by
    show upd w2.H D o x = some u
    rw [upd_ne (ne_of_none e h1)]; exact l.h x u m e, l.f⟩
theorem fz_le {w1 w2 : Wd A} {D : Addr} {o : HO} {hM : ¬ A.M D} {h : w2.H D = some o} {ho : ∀ ps, o ≠ .tbl ps} (h1 : w1.H D = none) (hG : w2.G D = none) (l : Le w1 w2) : Le w1 (w2.fz D o hM h ho) :=
  ⟨fun x u e => by
    show upd w2.G D o x = some u
    have e2 := l.g x u e
    rw [upd_ne (ne_of_none e2 hG)]; exact e2, l.h, fun x hx e => by
    show upd w2.G D o x = none
    rw [upd_ne (hx.ne h1)]; exact l.f x hx e⟩
end

/-! ### what is walked -/
def EvI (A : Amb) (K : Fg) (wi : TI) (δ : Dl) (s : A.S) (n : Nat) (item : Nat → Sl) (s1 : A.S) : Prop :=
  ∀ (w : Wd A) (σ : L2.St), EnvD K σ w.G δ → A.inv s w.G w.H → ∀ R : It → Hp → Prop, (∀ (J : It) (w1 : Wd A), Le w w1 → A.inv s1 w1.G w1.H → (∀ i, i < n → ∀ w2 : Wd A, Same w1.G w2.G → J.go i w2.H) →
    (∀ i, i < n → ∀ w2 : Wd A, Same w1.G w2.G → ∀ x H', J.yld i w2.H x H' → H' = w2.H ∧ DV K w2.G x (item i)) → (∀ w2 : Wd A, Same w1.G w2.G → J.stop n w2.H) → R J w1.H) → wi σ w.H R
def wpI (X : Cx) (tg iter : Expr) : TI := fun σ H R => Wp (∀ pins s, Inv X pins σ H s → wpAny (model X.prog X.w) X.A (eval iter X.env) (fun v s1 => wpAny (model X.prog X.w) X.A (pyIter v) (PIE X pins σ tg R) X.xe s1) X.xe s)
theorem pi_w {X : Cx} {tg iter : Expr} : PI X tg iter (wpI X tg iter) := ⟨fun pins s _ _ _ I h => h.run pins s I⟩
def DI (A : Amb) (X : Cx) (δ : Dl) (s : A.S) (tg iter : Expr) (n : Nat) (item : Nat → Sl) (s1 : A.S) : Prop := EvI A X.K (wpI X tg iter) δ s n item s1
def itm (ds : List PyData) (i : Nat) : Sl := .d (ds.getD i .none)
section
variable {A : Amb} {X : Cx} {δ δ' δ2 : Dl} {s s0 s1 s2 s3 : A.S} {tg : Expr}
theorem DI.of {iter : Expr} {n : Nat} {item : Nat → Sl} {wi : TI} (h : PI X tg iter wi) (ev : EvI A X.K wi δ s n item s1) : DI A X δ s tg iter n item s1 := fun w σ en iv R q => ⟨fun pins sh I => h.run pins sh σ w.H R I (ev w σ en iv R q)⟩
theorem get_itm {K : Fg} {G : Hp} {xs : List V} {ds : List PyData} {i : Nat} {x : V} (da : DpAll K G xs ds) (hi : i < ds.length) (h : xs[i]? = some x) : DV K G x (itm ds i) := by
  obtain ⟨v, e, d⟩ := dpa_get da (List.getElem?_eq_getElem hi)
  rw [e] at h; cases h
  show Dp K G x (ds.getD i .none)
  rw [List.getD_eq_getElem?_getD, List.getElem?_eq_getElem hi]
  exact d
theorem di_list {e : Expr} {ds : List PyData} (h : DE A X δ s e (.d (.list ds)) s1) : DI A X δ s tg e ds.length (itm ds) s1 :=
  DI.of (pi_list pe_w) fun w σ en iv R q => h w σ en iv _ fun v w1 l1 i1 d1 => by
    obtain ⟨a, xs, rfl, hs, da⟩ := dv_lst d1
    refine ⟨a, rfl, ⟨xs, Same.seq w1.sub hs⟩, q _ w1 l1 i1 (fun i hi w2 l2 => ?_) (fun i hi w2 l2 x H' y => ?_) fun w2 l2 => ?_⟩
    · have hx : i < xs.length := by rw [dpa_len da]; exact hi
      exact ⟨xs, _, Same.seq (l2.trans w2.sub) hs, List.getElem?_eq_getElem hx⟩
    · obtain ⟨e, y⟩ := y
      exact ⟨e, get_itm (dpa_mono l2 da) hi (y xs (Same.seq (l2.trans w2.sub) hs))⟩
    · exact ⟨xs, Same.seq (l2.trans w2.sub) hs, by rw [dpa_len da]; exact Nat.le_refl _⟩
theorem di_tup {e : Expr} {ds : List PyData} (h : DE A X δ s e (.d (.tuple ds)) s1) : DI A X δ s tg e ds.length (itm ds) s1 :=
  DI.of (pi_tup pe_w) fun w σ en iv R q => h w σ en iv _ fun v w1 l1 i1 d1 => by
    obtain ⟨a, xs, rfl, hs, da⟩ := dv_tup d1
    refine ⟨a, rfl, ⟨xs, same_t w1.sub hs⟩, q _ w1 l1 i1 (fun i hi w2 l2 => ?_) (fun i hi w2 l2 x H' y => ?_) fun w2 l2 => ?_⟩
    · have hx : i < xs.length := by rw [dpa_len da]; exact hi
      exact ⟨xs, _, same_t (l2.trans w2.sub) hs, List.getElem?_eq_getElem hx⟩
    · obtain ⟨e, y⟩ := y
      exact ⟨e, get_itm (dpa_mono l2 da) hi (y xs (same_t (l2.trans w2.sub) hs))⟩
    · exact ⟨xs, same_t (l2.trans w2.sub) hs, by rw [dpa_len da]; exact Nat.le_refl _⟩
theorem di_rng1 {e : Expr} {j : Int} {p pos : Pos} (N : Nms X.mg) (h : DE A X δ s e (.d (.int j)) s1) (hb : 0 ≤ j ∧ j ≤ 100000) (hg : Gl X "range" := by rfl) (hs : starEach [e] X.env = [(false, eval e X.env)] := by rfl) :
    DI A X δ s tg (.Call (.Name "range" p) [e] [] pos) j.toNat (fun i => .d (.int i)) s1 :=
  DI.of (pi_range1 hg N.range pa_w hs) fun w σ en iv R q => da_cons h da_nil (hs.trans rfl) w σ en iv _ fun vs w1 l1 i1 d1 => by
    obtain ⟨v, rfl, d2⟩ := dvs1 d1
    refine ⟨j, by rw [dv_int d2], by omega, by omega, q _ w1 l1 i1 (fun i hi w2 l2 => hi) (fun i hi w2 l2 x H' y => ⟨y.1, ?_⟩) fun w2 l2 => Nat.le_refl _⟩
    rw [y.2, Int.zero_add]
    exact Dp.int _
theorem di_rng2 {e e' : Expr} {i0 j : Int} {p pos : Pos} (N : Nms X.mg) (h : DE A X δ s e (.d (.int i0)) s1) (h' : DE A X δ s1 e' (.d (.int j)) s2) (hb : 0 ≤ i0 ∧ i0 ≤ 100000 ∧ 0 ≤ j ∧ j ≤ 100000) (hg : Gl X "range" := by rfl) (hs : starEach [e, e'] X.env = [(false, eval e X.env), (false, eval e' X.env)] := by rfl)
    (hs2 : starEach [e'] X.env = [(false, eval e' X.env)] := by rfl) : DI A X δ s tg (.Call (.Name "range" p) [e, e'] [] pos) (j - i0).toNat (fun i => .d (.int (i0 + i))) s2 :=
  DI.of (pi_range2 hg N.range pa_w hs hs2) fun w σ en iv R q => da_cons h (da_cons h' da_nil (hs2.trans rfl)) (by rw [hs, hs2]) w σ en iv _ fun vs w1 l1 i1 d1 => by
    obtain ⟨v, u, rfl, d1, d2⟩ := dvs2 d1
    refine ⟨i0, j, by rw [dv_int d1, dv_int d2], by omega, q _ w1 l1 i1 (fun i hi w2 l2 => hi) (fun i hi w2 l2 x H' y => ⟨y.1, ?_⟩) fun w2 l2 => Nat.le_refl _⟩
    rw [y.2]
    exact Dp.int _

/-! ### targets -/
def Off (ks : List Nat) (σ σ' : L2.St) : Prop := σ'.length = σ.length ∧ ∀ j, j ∉ ks → σ'[j]? = σ[j]?
theorem Off.trans {ks ls : List Nat} {σ σ1 σ2 : L2.St} (a : Off ks σ σ1) (b : Off ls σ1 σ2) : Off (ks ++ ls) σ σ2 := ⟨b.1.trans a.1, fun j h => by
  rw [List.mem_append, not_or] at h
  exact (b.2 j h.2).trans (a.2 j h.1)⟩
theorem wipe_get (σ : L2.St) (j : Nat) : ∀ vs : List Nat, (wipe σ vs)[j]? = if j ∈ vs then (σ[j]?.map fun _ => none) else σ[j]?
  | [] => by simp [wipe]
  | v :: vs => by
    show ((wipe σ vs).set v none)[j]? = _
    have ih := wipe_get σ j vs
    by_cases q : v = j
    · subst q
      rw [if_pos List.mem_cons_self]
      by_cases l : v < (wipe σ vs).length
      · rw [List.getElem?_set_self l]
        rw [wipe_length] at l
        rw [List.getElem?_eq_getElem l]; rfl
      · rw [List.getElem?_eq_none (by rw [List.length_set]; omega)]
        rw [wipe_length] at l
        rw [List.getElem?_eq_none (by omega)]; rfl
    · rw [List.getElem?_set_ne q, ih]
      by_cases m : j ∈ vs
      · rw [if_pos m, if_pos (List.mem_cons_of_mem _ m)]
      · rw [if_neg m, if_neg (by rw [List.mem_cons, not_or]; exact ⟨fun e => q e.symm, m⟩)]
theorem Off.wipe {ks vs : List Nat} {σ σ' : L2.St} (h : Off ks σ σ') (hk : ∀ k ∈ ks, k ∈ vs) : L2.wipe σ' vs = L2.wipe σ vs := List.ext_getElem? fun j => by
  rw [wipe_get, wipe_get]
  by_cases m : j ∈ vs
  · rw [if_pos m, if_pos m]
    have hl := h.1
    by_cases l : j < σ.length
    · rw [List.getElem?_eq_getElem l, List.getElem?_eq_getElem (by omega)]; rfl
    · rw [List.getElem?_eq_none (by omega), List.getElem?_eq_none (by omega)]
  · rw [if_neg m, if_neg m]
    exact h.2 j fun z => m (hk j z)
theorem wipe_wipe (σ : L2.St) (vs : List Nat) : L2.wipe (L2.wipe σ vs) vs = L2.wipe σ vs := List.ext_getElem? fun j => by
  rw [wipe_get, wipe_get]
  by_cases m : j ∈ vs
  · rw [if_pos m, if_pos m]
    cases σ[j]? <;> rfl
  · rw [if_neg m]
def wpG (X : Cx) (tg : Expr) : TG := fun v σ H Q => Wp (∀ pins s u, Inv X pins σ H s → RelV v u → wpAny (model X.prog X.w) X.A (assign tg X.env u) (fun _ s' => ∃ σ' H', Inv X pins σ' H' s' ∧ Q σ' H') X.xe s)
theorem pg_w {X : Cx} {tg : Expr} : PG X tg (wpG X tg) := ⟨fun pins s _ _ _ u _ I r h => h.run pins s u I r⟩
def EvG (A : Amb) (K : Fg) (t : TG) (δ : Dl) (c : Sl) (δ' : Dl) (ks : List Nat) : Prop :=
  ∀ (w : Wd A) (σ : L2.St) (v : V), EnvD K σ w.G δ → DV K w.G v c → ∀ Q : L2.St → Hp → Prop, (∀ σ', EnvD K σ' w.G δ' → Off ks σ σ' → Q σ' w.H) → t v σ w.H Q
def DG (A : Amb) (X : Cx) (δ : Dl) (tg : Expr) (c : Sl) (δ' : Dl) (ks : List Nat) : Prop := EvG A X.K (wpG X tg) δ c δ' ks
theorem DG.of {c : Sl} {ks : List Nat} {t : TG} (h : PG X tg t) (ev : EvG A X.K t δ c δ' ks) : DG A X δ tg c δ' ks := fun w σ v en dv Q q => ⟨fun pins sh u I r => h.run pins sh σ w.H v u Q I r (ev w σ v en dv Q q)⟩
theorem off_set (σ : L2.St) (i : Nat) (x : Option V) : Off [i] σ (σ.set i x) := ⟨List.length_set, fun j h => List.getElem?_set_ne (fun e => h (by rw [e]; exact List.mem_cons_self))⟩
theorem dg_name (i : Nat) {x : Str} {pos : Pos} {c : Sl} (hN : X.N.Nodup) (hi : X.N[i]? = some x := by rfl) (hx : Loc X.env.scope x := by first | exact Or.inl rfl | exact Or.inr rfl)
    (hf : X.fn x = true ∨ X.env.scope.names.lookup x = some .local := by first | exact .inl rfl | exact .inr rfl) : DG A X δ (.Name x pos) c (δ.set i (some c)) [i] :=
  DG.of (pg_name hN hi hx hf) fun w σ v en dv Q q => q _ (en.set i dv) (off_set σ i _)
def EvGs (A : Amb) (K : Fg) (t : TGs) (δ : Dl) (cs : List Sl) (δ' : Dl) (ks : List Nat) : Prop :=
  ∀ (w : Wd A) (σ : L2.St) (vs : List V), EnvD K σ w.G δ → DVs K w.G vs cs → ∀ Q : L2.St → Hp → Prop, (∀ σ', EnvD K σ' w.G δ' → Off ks σ σ' → Q σ' w.H) → t vs σ w.H Q
def DGs (A : Amb) (X : Cx) (δ : Dl) (es : List Expr) (cs : List Sl) (δ' : Dl) (ks : List Nat) : Prop := ∃ t, PGs X es t ∧ EvGs A X.K t δ cs δ' ks
theorem dgs_nil : DGs A X δ [] [] δ [] := ⟨_, pgs_nil, fun w σ vs en dv Q q => by
  match vs, dv with
  | [], _ => exact ⟨rfl, q σ en ⟨rfl, fun _ _ => rfl⟩⟩⟩
theorem dgs_cons {e : Expr} {es : List Expr} {c : Sl} {cs : List Sl} {ks ls : List Nat} (h : DG A X δ e c δ' ks) (t : DGs A X δ' es cs δ2 ls) (hs : (assignEach (e :: es) X.env).map (·.2) = assign e X.env :: (assignEach es X.env).map (·.2) := by rfl) : DGs A X δ (e :: es) (c :: cs) δ2 (ks ++ ls) := by
  obtain ⟨tt, p, ev⟩ := t
  refine ⟨_, pgs_cons pg_w p hs, fun w σ vs en dv Q q => ?_⟩
  match vs, dv with
  | v :: vs, ⟨d1, d2⟩ => exact ⟨v, vs, rfl, h w σ v en d1 _ fun σ1 e1 o1 => ev w σ1 vs e1 d2 Q fun σ2 e2 o2 => q σ2 e2 (o1.trans o2)⟩
theorem dg_tup {es : List Expr} {j : Nat} {pos : Pos} {ds : List PyData} {cs : List Sl} {ks : List Nat} (hc : X.calm = true) (h : DGs A X δ es cs δ' ks) (hcs : ds.map Sl.d = cs := by rfl)
    (hn : (assignEach es X.env).length = ds.length := by rfl) (hst : (assignEach es X.env).findIdx? (·.1) = none := by rfl) : DG A X δ (.Tuple es j pos) (.d (.tuple ds)) δ' ks := by
  subst hcs
  obtain ⟨tt, p, ev⟩ := h
  refine DG.of (pg_tup hc p hn hst) fun w σ v en dv Q q => ?_
  obtain ⟨a, xs, rfl, hs, da⟩ := dv_tup dv
  exact ⟨a, xs, rfl, same_t w.sub hs, dpa_len da, ev w σ xs en (all_dvs da) Q q⟩

/-! ### objects in motion, and what makes a new one -/
inductive Mo where
  | l (ds : List PyData)
  | m (kvs : List (List Key × V))
def MoOk (K : Fg) (G H : Hp) (D : Addr) : Mo → Prop
  | .l ds => ∃ vs, H D = some (.lst vs) ∧ DpAll K G vs ds
  | .m kvs => H D = some (.dT kvs)
theorem MoOk.mono {K : Fg} {G G' H H' : Hp} {D : Addr} {o : Mo} (h : MoOk K G H D o) (e : Same G G') (k : ∀ u, H D = some u → H' D = some u) : MoOk K G' H' D o := by
  cases o with
  | l ds => obtain ⟨vs, a, b⟩ := h; exact ⟨vs, k _ a, dpa_mono e b⟩
  | m kvs => exact k _ h
theorem MoOk.mu {K : Fg} {G H : Hp} {D : Addr} {o : Mo} (h : MoOk K G H D o) : Mu (H D) := by
  cases o with
  | l ds => obtain ⟨vs, a, _⟩ := h; rw [a]; exact mu_lst
  | m kvs => rw [show H D = some (.dT kvs) from h]; exact mu_dT
/-- e makes a new object -/
def EvF (A : Amb) (K : Fg) (t : TE) (δ : Dl) (s : A.S) (o : Mo) (s1 : A.S) : Prop := ∀ (w : Wd A) (σ : L2.St), EnvD K σ w.G δ → A.inv s w.G w.H → ∀ Q : VK, (∀ D (w' : Wd A), Le w w' → A.inv s1 w'.G w'.H → w.H D = none → w'.G D = none → ¬ A.M D → MoOk K w'.G w'.H D o → Q (.ref D) w'.H) → t σ w.H Q
def DF (A : Amb) (X : Cx) (δ : Dl) (s : A.S) (e : Expr) (o : Mo) (s1 : A.S) : Prop := EvF A X.K (wpT X e) δ s o s1
theorem EvF.ev {A : Amb} {K : Fg} {δ : Dl} {s s1 : A.S} {t : TE} {ds : List PyData} (h : EvF A K t δ s (.l ds) s1) : EvD A K t δ s (.d (.list ds)) s1 := fun w σ en iv Q q => h w σ en iv Q fun D w2 l2 i2 hD hG hM ⟨acc, hD2, da⟩ => by
  refine q _ (w2.fz D _ hM hD2) (fz_le hD hG l2) (inv_fz hG i2) (Dp.lst (SqL.of (show upd w2.G D _ D = _ from upd_same)) (dpa_mono (fun x u e => ?_) da))
  show upd w2.G D _ x = some u
  rw [upd_ne (ne_of_none e hG)]; exact e
theorem DF.de {A : Amb} {X : Cx} {δ : Dl} {s s1 : A.S} {e : Expr} {ds : List PyData} (h : DF A X δ s e (.l ds) s1) : DE A X δ s e (.d (.list ds)) s1 := EvF.ev h
theorem Le.back {A : Amb} {w w1 : Wd A} (l : Le w w1) {D : Addr} (h : w1.H D = none) (hM : ¬ A.M D) : w.H D = none := by
  cases e : w.H D with
  | none => rfl
  | some u => rw [l.h D u hM e] at h; cases h
/-! ### comprehensions -/
def wpTs (X : Cx) (ifs : List Expr) : TT := fun σ H Q => Wp (∀ pins s, Inv X pins σ H s → wpAny (model X.prog X.w) X.A (forIn ifs true fun c r => if r = true then do let ok ← isTrue c X.env (eval c X.env); pure (ForInStep.yield ok) else pure (ForInStep.yield r)) (TP X pins σ Q) X.xe s)
theorem pts_w {X : Cx} {ifs : List Expr} : PTs X ifs (wpTs X ifs) := ⟨fun pins s _ _ _ I h => h.run pins s I⟩
def DTs (A : Amb) (X : Cx) (δ : Dl) (s : A.S) (ifs : List Expr) (b : Bool) (s' : A.S) : Prop := EvT A X.K (wpTs X ifs) δ s b s'
theorem dts_nil : DTs A X δ s [] true s := fun w σ en iv Q q => ⟨fun pins sh I => pts_nil.run pins sh σ w.H Q I (q w (Le.refl w) iv)⟩
theorem dts_one {e : Expr} {b : Bool} (h : DT A X δ s e b s1) : DTs A X δ s [e] b s1 := fun w σ en iv Q q => ⟨fun pins sh I => (pts_one pt_w).run pins sh σ w.H Q I (h w σ en iv Q q)⟩
def outs (n : Nat) (f : Nat → Bool) (g : Nat → PyData) : List PyData := ((List.range n).filter f).map g
theorem outs_yes {n : Nat} {f : Nat → Bool} {g : Nat → PyData} (h : f n = true) : outs (n + 1) f g = outs n f g ++ [g n] := by
  unfold outs
  rw [List.range_succ, List.filter_append, List.map_append]
  simp [h]
theorem outs_no {n : Nat} {f : Nat → Bool} {g : Nat → PyData} (h : f n = false) : outs (n + 1) f g = outs n f g := by
  unfold outs
  rw [List.range_succ, List.filter_append, List.map_append]
  simp [h]
theorem outs_len (n : Nat) (f : Nat → Bool) (g : Nat → PyData) : (outs n f g).length ≤ n := by
  unfold outs
  rw [List.length_map]
  exact Nat.le_trans (List.length_filter_le _ _) (Nat.le_of_eq List.length_range)
abbrev Bk (X : Cx) (scope : Scope) (sh : Shared) (H : Hp) (C : Addr) (cl : List (Str × Addr)) (fp : List Addr) : Cx := X.blk sh H scope (compEnvC scope cl C X.env) fp
theorem df_of {e : Expr} {o : Mo} {t : TE} (h : PE X e t) (ev : EvF A X.K t δ s o s1) : DF A X δ s e o s1 := fun w σ en iv Q q => ⟨fun pins sh I => h.run pins sh σ w.H Q I (ev w σ en iv Q q)⟩
theorem evf_lcS {elt iter : Expr} {ifs : List Expr} {scope : Scope} {own : List (Str × Nat)} {n : Nat} {item : Nat → Sl} {f : Nat → Bool} {g : Nat → PyData} {δi : Nat → Dl} {ks : List Nat} (st st' : Nat → A.S)
    (hc : X.calm = true) (hN : X.N.Nodup) (hi : DI A X δ s tg iter n item (st 0)) (ok : BlkOk X.N X.env.scope scope own) (hks : ∀ k ∈ ks, k ∈ own.map (·.2)) (hl : n ≤ 100000)
    (hg : ∀ i, i < n → ∀ sh H C cl fp, DG A (Bk X scope sh H C cl fp) (dwipe δ (own.map (·.2))) tg (item i) (δi i) ks)
    (ht : ∀ i, i < n → ∀ sh H C cl fp, DTs A (Bk X scope sh H C cl fp) (δi i) (st i) ifs (f i) (st' i))
    (he : ∀ i, i < n → f i = true → ∀ sh H C cl fp, DE A (Bk X scope sh H C cl fp) (δi i) (st' i) elt (.d (g i)) (st (i + 1)))
    (hn : ∀ i, i < n → f i = false → st' i = st (i + 1)) (hs : ∀ x, foldedSetIterable iter X.env x = pure x := by intro _; rfl) :
    EvF A X.K (tLc (wpI X tg iter) (fun v σ H Q => ∀ sh H0 C cl fp, wpG (Bk X scope sh H0 C cl fp) tg v σ H Q) (fun σ H Q => ∀ sh H0 C cl fp, wpTs (Bk X scope sh H0 C cl fp) ifs σ H Q) (fun σ H Q => ∀ sh H0 C cl fp, wpT (Bk X scope sh H0 C cl fp) elt σ H Q) (own.map (·.2))) δ s (.l (outs n f g)) (st n) := by
  intro w σ en iv Q q
  refine hi w σ en iv _ fun J w1 l1 i1 go yl stp D hD => ?_
  have hM := not_m hD
  refine ⟨fun i m H => ∃ w2 : Wd A, w2.H = H ∧ m = n - i ∧ i ≤ n ∧ Le w1 w2 ∧ w2.G D = none ∧ A.inv (st i) w2.G w2.H ∧ ∃ acc, w2.H D = some (.lst acc) ∧ DpAll X.K w2.G acc (outs i f g), ⟨n, w1.put D (.lst []) (w1.gn hD), rfl, by simp, Nat.zero_le _, put_le hD (Le.refl w1), w1.gn hD, inv_put hM i1, [], upd_same, .nil⟩, ?_⟩
  rintro i m H ⟨w2, rfl, rfl, hi', l2, hG, i2, acc, hD2, da⟩
  by_cases hlt : i < n
  · refine .inr ⟨go i hlt w2 l2.g, fun H' => ∃ w3 : Wd A, w3.H = H' ∧ i + 1 ≤ n ∧ Le w1 w3 ∧ w3.G D = none ∧ A.inv (st (i + 1)) w3.G w3.H ∧ ∃ acc, w3.H D = some (.lst acc) ∧ DpAll X.K w3.G acc (outs (i + 1) f g), ?_, fun x H' y => ?_⟩
    · rintro H' ⟨w3, e, h1, h2⟩
      exact ⟨n - (i + 1), by omega, w3, e, rfl, h1, h2⟩
    · obtain ⟨rfl, dx⟩ := yl i hlt w2 l2.g x H' y
      have en2 : EnvD X.K (wipe σ (own.map (·.2))) w2.G (dwipe δ (own.map (·.2))) := (en.mono (l1.trans l2).g).wipe _
      intro sh H0 C cl fp
      refine hg i hlt sh H0 C cl fp w2 _ x en2 dx _ fun σ2 en3 off => ⟨by rw [off.wipe hks, wipe_wipe], fun sh H0 C cl fp => ?_⟩
      refine ht i hlt sh H0 C cl fp w2 σ2 en3 i2 _ fun w3 l3 i3 => ?_
      cases hf : f i with
      | true =>
        refine iteT fun sh H0 C cl fp => he i hlt hf sh H0 C cl fp w3 σ2 (en3.mono l3.g) i3 _ fun v w4 l4 i4 d4 => ?_
        have l24 := l3.trans l4
        have hD4 : w4.H D = some (.lst acc) := l24.h D _ hM hD2
        have hG4 : w4.G D = none := l24.f D (by rw [hD2]; exact mu_lst) hG
        have hlen : acc.length ≤ n := by
          rw [dpa_len da]
          exact Nat.le_trans (outs_len i f g) (Nat.le_of_lt hlt)
        refine ⟨acc, hD4, Nat.lt_of_le_of_lt (Nat.le_trans hlen hl) (by decide), w4.put D (.lst (acc ++ [v])) hG4, rfl, hlt, put_le hD (l2.trans l24), hG4, inv_put hM i4, _, upd_same, ?_⟩
        rw [outs_yes hf]
        exact dpa_app (dpa_mono l24.g da) (.cons d4 .nil)
      | false =>
        refine iteF ⟨w3, rfl, hlt, l2.trans l3, l3.f D (by rw [hD2]; exact mu_lst) hG, by rw [← hn i hlt hf]; exact i3, acc, l3.h D _ hM hD2, ?_⟩
        rw [outs_no hf]
        exact dpa_mono l3.g da
  · have e : i = n := by omega
    subst e
    exact .inl ⟨stp w2 l2.g, q D w2 (l1.trans l2) i2 (l1.back hD hM) hG hM ⟨acc, hD2, da⟩⟩
theorem df_lcS {elt iter : Expr} {ifs : List Expr} {scope : Scope} {own : List (Str × Nat)} {pos : Pos} {n : Nat} {item : Nat → Sl} {f : Nat → Bool} {g : Nat → PyData} {δi : Nat → Dl} {ks : List Nat} (st st' : Nat → A.S)
    (hc : X.calm = true) (hN : X.N.Nodup) (hi : DI A X δ s tg iter n item (st 0)) (ok : BlkOk X.N X.env.scope scope own) (hks : ∀ k ∈ ks, k ∈ own.map (·.2)) (hl : n ≤ 100000)
    (hg : ∀ i, i < n → ∀ sh H C cl fp, DG A (Bk X scope sh H C cl fp) (dwipe δ (own.map (·.2))) tg (item i) (δi i) ks)
    (ht : ∀ i, i < n → ∀ sh H C cl fp, DTs A (Bk X scope sh H C cl fp) (δi i) (st i) ifs (f i) (st' i))
    (he : ∀ i, i < n → f i = true → ∀ sh H C cl fp, DE A (Bk X scope sh H C cl fp) (δi i) (st' i) elt (.d (g i)) (st (i + 1)))
    (hn : ∀ i, i < n → f i = false → st' i = st (i + 1)) (hs : ∀ x, foldedSetIterable iter X.env x = pure x := by intro _; rfl) :
    DF A X δ s (.ListComp elt [⟨tg, iter, ifs, 0⟩] scope pos) (.l (outs n f g)) (st n) := df_of (pe_lc (wi := wpI X tg iter) (g := fun v σ H Q => ∀ sh H0 C cl fp, wpG (Bk X scope sh H0 C cl fp) tg v σ H Q) (tt := fun σ H Q => ∀ sh H0 C cl fp, wpTs (Bk X scope sh H0 C cl fp) ifs σ H Q)
    (te := fun σ H Q => ∀ sh H0 C cl fp, wpT (Bk X scope sh H0 C cl fp) elt σ H Q) hc hN pi_w ok (fun sh H0 C cl fp => ⟨fun pins s' σ H v u Q I r h => (h sh H0 C cl fp).run pins s' u I r⟩)
    (fun sh H0 C cl fp => ⟨fun pins s' σ H Q I h => (h sh H0 C cl fp).run pins s' I⟩) (fun sh H0 C cl fp => ⟨fun pins s' σ H Q I h => (h sh H0 C cl fp).run pins s' I⟩) hs) (evf_lcS st st' hc hN hi ok hks hl hg ht he hn hs)
theorem de_lcS {elt iter : Expr} {ifs : List Expr} {scope : Scope} {own : List (Str × Nat)} {pos : Pos} {n : Nat} {item : Nat → Sl} {f : Nat → Bool} {g : Nat → PyData} {δi : Nat → Dl} {ks : List Nat} (st st' : Nat → A.S)
    (hc : X.calm = true) (hN : X.N.Nodup) (hi : DI A X δ s tg iter n item (st 0)) (ok : BlkOk X.N X.env.scope scope own) (hks : ∀ k ∈ ks, k ∈ own.map (·.2)) (hl : n ≤ 100000)
    (hg : ∀ i, i < n → ∀ sh H C cl fp, DG A (Bk X scope sh H C cl fp) (dwipe δ (own.map (·.2))) tg (item i) (δi i) ks)
    (ht : ∀ i, i < n → ∀ sh H C cl fp, DTs A (Bk X scope sh H C cl fp) (δi i) (st i) ifs (f i) (st' i))
    (he : ∀ i, i < n → f i = true → ∀ sh H C cl fp, DE A (Bk X scope sh H C cl fp) (δi i) (st' i) elt (.d (g i)) (st (i + 1)))
    (hn : ∀ i, i < n → f i = false → st' i = st (i + 1)) (hs : ∀ x, foldedSetIterable iter X.env x = pure x := by intro _; rfl) :
    DE A X δ s (.ListComp elt [⟨tg, iter, ifs, 0⟩] scope pos) (.d (.list (outs n f g))) (st n) :=
  (df_lcS st st' hc hN hi ok hks hl hg ht he hn hs).de
/-- nothing in motion is touched -/
theorem de_lc {elt iter : Expr} {ifs : List Expr} {scope : Scope} {own : List (Str × Nat)} {pos : Pos} {n : Nat} {item : Nat → Sl} {f : Nat → Bool} {g : Nat → PyData} {δi : Nat → Dl} {ks : List Nat}
    (hc : X.calm = true) (hN : X.N.Nodup) (hi : DI A X δ s tg iter n item s1) (ok : BlkOk X.N X.env.scope scope own) (hks : ∀ k ∈ ks, k ∈ own.map (·.2)) (hl : n ≤ 100000)
    (hg : ∀ i, i < n → ∀ sh H C cl fp, DG A (Bk X scope sh H C cl fp) (dwipe δ (own.map (·.2))) tg (item i) (δi i) ks)
    (ht : ∀ i, i < n → ∀ sh H C cl fp, DTs A (Bk X scope sh H C cl fp) (δi i) s1 ifs (f i) s1)
    (he : ∀ i, i < n → f i = true → ∀ sh H C cl fp, DE A (Bk X scope sh H C cl fp) (δi i) s1 elt (.d (g i)) s1) (hs : ∀ x, foldedSetIterable iter X.env x = pure x := by intro _; rfl) :
    DE A X δ s (.ListComp elt [⟨tg, iter, ifs, 0⟩] scope pos) (.d (.list (outs n f g))) s1 :=
  de_lcS (fun _ => s1) (fun _ => s1) hc hN hi ok hks hl hg ht he (fun _ _ _ => rfl) hs
theorem outs_all {n : Nat} {g : Nat → PyData} : outs n (fun _ => true) g = (List.range n).map g := by
  unfold outs
  rw [List.filter_eq_self.mpr (fun _ _ => rfl)]
/-- the turns as items of a list of data -/
theorem outs_list {β : Type} {xs : List β} {p : β → Bool} {h : β → PyData} {f : Nat → Bool} {g : Nat → PyData} (hf : ∀ i (l : i < xs.length), f i = p xs[i]) (hg : ∀ i (l : i < xs.length), g i = h xs[i]) : outs xs.length f g = (xs.filter p).map h := by
  induction xs generalizing f g with
  | nil => rfl
  | cons x r ih =>
    have i2 := ih (f := fun i => f (i + 1)) (g := fun i => g (i + 1)) (fun i l => hf (i + 1) (by simpa using l)) (fun i l => hg (i + 1) (by simpa using l))
    unfold outs at i2 ⊢
    have f0 := hf 0 (by simp)
    have g0 := hg 0 (by simp)
    rw [List.length_cons, List.range_succ_eq_map, List.filter_cons, List.filter_cons, List.filter_map]
    simp only [List.getElem_cons_zero] at f0 g0
    rw [f0]
    cases hx : p x with
    | true =>
      rw [if_pos rfl, if_pos rfl, List.map_cons, List.map_cons, List.map_map, g0, ← i2]
      rfl
    | false =>
      rw [if_neg (by simp), if_neg (by simp), List.map_map, ← i2]
      rfl
/-- two sources, no tests; nothing in motion is touched -/
def outs2 (n : Nat) (m : Nat → Nat) (g : Nat → Nat → PyData) : List PyData := (List.range n).flatMap fun i => (List.range (m i)).map (g i)
theorem outs2_succ (n : Nat) (m : Nat → Nat) (g : Nat → Nat → PyData) : outs2 (n + 1) m g = outs2 n m g ++ (List.range (m n)).map (g n) := by
  unfold outs2
  rw [List.range_succ, List.flatMap_append]
  simp
theorem yes_ {T : Bool → Hp → Prop} {σ : L2.St} {H : Hp} (h : T true H) : tYes σ H T := h
theorem evf_lc2 {elt iter tg1 iter1 : Expr} {scope : Scope} {own : List (Str × Nat)} {vs1 : List Nat} {n : Nat} {item : Nat → Sl} {m : Nat → Nat} {item1 : Nat → Nat → Sl} {g : Nat → Nat → PyData} {δi : Nat → Dl} {δj : Nat → Nat → Dl} {ks ks1 : List Nat}
    (hc : X.calm = true) (hN : X.N.Nodup) (hi : DI A X δ s tg iter n item s1) (ok : BlkOk X.N X.env.scope scope own) (hv : ∀ i ∈ vs1, i ∈ own.map (·.2)) (hks : ∀ k ∈ ks, k ∈ own.map (·.2)) (hks1 : ∀ k ∈ ks1, k ∈ vs1) (hl : ∀ i, i ≤ n → (outs2 i m g).length ≤ 50000) (hm : ∀ i, m i ≤ 50000)
    (hg : ∀ i, i < n → ∀ sh H C cl fp, DG A (Bk X scope sh H C cl fp) (dwipe δ (own.map (·.2))) tg (item i) (δi i) ks)
    (hi1 : ∀ i, i < n → ∀ sh H C cl fp, DI A (Bk X scope sh H C cl fp) (δi i) s1 tg1 iter1 (m i) (item1 i) s1)
    (hg1 : ∀ i j, i < n → j < m i → ∀ sh H C cl fp, DG A (Bk X scope sh H C cl fp) (dwipe (δi i) vs1) tg1 (item1 i j) (δj i j) ks1)
    (he : ∀ i j, i < n → j < m i → ∀ sh H C cl fp, DE A (Bk X scope sh H C cl fp) (δj i j) s1 elt (.d (g i j)) s1)
    (hs : ∀ x, foldedSetIterable iter X.env x = pure x := by intro _; rfl) (hs1 : ∀ env x, foldedSetIterable iter1 env x = pure x := by intro _ _; rfl) :
    EvF A X.K (tLc2 (wpI X tg iter) (fun v σ H Q => ∀ sh H0 C cl fp, wpG (Bk X scope sh H0 C cl fp) tg v σ H Q) tYes (fun σ H R => ∀ sh H0 C cl fp, wpI (Bk X scope sh H0 C cl fp) tg1 iter1 σ H R) (fun v σ H Q => ∀ sh H0 C cl fp, wpG (Bk X scope sh H0 C cl fp) tg1 v σ H Q) tYes (fun σ H Q => ∀ sh H0 C cl fp, wpT (Bk X scope sh H0 C cl fp) elt σ H Q) (own.map (·.2)) vs1) δ s (.l (outs2 n m g)) s1 := by
  intro w σ en iv Q q
  refine hi w σ en iv _ fun J w1 l1 i1 go yl stp D hD => ?_
  have hM := not_m hD
  refine ⟨fun i k H => ∃ w2 : Wd A, w2.H = H ∧ k = n - i ∧ i ≤ n ∧ Le w1 w2 ∧ w2.G D = none ∧ A.inv s1 w2.G w2.H ∧ ∃ acc, w2.H D = some (.lst acc) ∧ DpAll X.K w2.G acc (outs2 i m g), ⟨n, w1.put D (.lst []) (w1.gn hD), rfl, by simp, Nat.zero_le _, put_le hD (Le.refl w1), w1.gn hD, inv_put hM i1, [], upd_same, .nil⟩, ?_⟩
  rintro i k H ⟨w2, rfl, rfl, hi', l2, hG, i2, acc, hD2, da⟩
  by_cases hlt : i < n
  · refine .inr ⟨go i hlt w2 l2.g, fun H' => ∃ w3 : Wd A, w3.H = H' ∧ i + 1 ≤ n ∧ Le w1 w3 ∧ w3.G D = none ∧ A.inv s1 w3.G w3.H ∧ ∃ acc, w3.H D = some (.lst acc) ∧ DpAll X.K w3.G acc (outs2 (i + 1) m g), ?_, fun x H' y => ?_⟩
    · rintro H' ⟨w3, e, h1, h2⟩
      exact ⟨n - (i + 1), by omega, w3, e, rfl, h1, h2⟩
    · obtain ⟨rfl, dx⟩ := yl i hlt w2 l2.g x H' y
      have en2 : EnvD X.K (wipe σ (own.map (·.2))) w2.G (dwipe δ (own.map (·.2))) := (en.mono (l1.trans l2).g).wipe _
      intro sh H0 C cl fp
      refine hg i hlt sh H0 C cl fp w2 _ x en2 dx _ fun σ2 en3 off => ⟨by rw [off.wipe hks, wipe_wipe], ?_⟩
      refine yes_ (iteT ?_)
      refine fun sh H0 C cl fp => hi1 i hlt sh H0 C cl fp w2 σ2 en3 i2 _ fun J1 w3 l3 i3 go1 yl1 stp1 => ?_
      have hD3 : w3.H D = some (.lst acc) := l3.h D _ hM hD2
      have hG3 : w3.G D = none := l3.f D (by rw [hD2]; exact mu_lst) hG
      refine ⟨fun j k H => ∃ w4 : Wd A, w4.H = H ∧ k = m i - j ∧ j ≤ m i ∧ Le w1 w4 ∧ Same w3.G w4.G ∧ w4.G D = none ∧ A.inv s1 w4.G w4.H ∧ ∃ acc, w4.H D = some (.lst acc) ∧ DpAll X.K w4.G acc (outs2 i m g ++ (List.range j).map (g i)), ⟨m i, w3, rfl, by simp, Nat.zero_le _, l2.trans l3, Same.refl _, hG3, i3, acc, hD3, by rw [List.range_zero, List.map_nil, List.append_nil]; exact dpa_mono l3.g da⟩, ?_⟩
      rintro j k H ⟨w4, rfl, rfl, hj', l4, e4, hG4, i4, acc4, hD4, da4⟩
      by_cases hj : j < m i
      · refine .inr ⟨go1 j hj w4 e4, fun H' => ∃ w5 : Wd A, w5.H = H' ∧ j + 1 ≤ m i ∧ Le w1 w5 ∧ Same w3.G w5.G ∧ w5.G D = none ∧ A.inv s1 w5.G w5.H ∧ ∃ acc, w5.H D = some (.lst acc) ∧ DpAll X.K w5.G acc (outs2 i m g ++ (List.range (j + 1)).map (g i)), ?_, fun x1 H' y1 => ?_⟩
        · rintro H' ⟨w5, e, h1, h2⟩
          exact ⟨m i - (j + 1), by omega, w5, e, rfl, h1, h2⟩
        · obtain ⟨rfl, dx1⟩ := yl1 j hj w4 e4 x1 H' y1
          have en4 : EnvD X.K (wipe σ2 vs1) w4.G (dwipe (δi i) vs1) := (en3.mono (l3.g.trans e4)).wipe _
          intro sh H0 C cl fp
          refine hg1 i j hlt hj sh H0 C cl fp w4 _ x1 en4 dx1 _ fun σ3 en5 off1 => ⟨by rw [off1.wipe hks1, wipe_wipe], ?_⟩
          refine yes_ (iteT ?_)
          refine fun sh H0 C cl fp => he i j hlt hj sh H0 C cl fp w4 σ3 en5 i4 _ fun v w5 l5 i5 d5 => ?_
          have hD5 : w5.H D = some (.lst acc4) := l5.h D _ hM hD4
          have hG5 : w5.G D = none := l5.f D (by rw [hD4]; exact mu_lst) hG4
          have hlen : acc4.length ≤ 50000 + m i := by
            rw [dpa_len da4, List.length_append, List.length_map, List.length_range]
            have := hl i hi'
            omega
          have hmi := hm i
          refine ⟨acc4, hD5, Nat.lt_of_le_of_lt (Nat.le_trans hlen (show 50000 + m i ≤ 100000 by omega)) (by decide), w5.put D (.lst (acc4 ++ [v])) hG5, rfl, hj, put_le hD (l4.trans l5), e4.trans l5.g, hG5, inv_put hM i5, _, upd_same, ?_⟩
          rw [List.range_succ, List.map_append, ← List.append_assoc]
          exact dpa_app (dpa_mono l5.g da4) (.cons d5 .nil)
      · have e : j = m i := by omega
        subst e
        refine .inl ⟨stp1 w4 e4, w4, rfl, hlt, l4, hG4, i4, acc4, hD4, ?_⟩
        rw [outs2_succ]
        exact da4
  · have e : i = n := by omega
    subst e
    exact .inl ⟨stp w2 l2.g, q D w2 (l1.trans l2) i2 (l1.back hD hM) hG hM ⟨acc, hD2, da⟩⟩
theorem df_lc2 {elt iter tg1 iter1 : Expr} {scope : Scope} {own : List (Str × Nat)} {vs1 : List Nat} {pos : Pos} {n : Nat} {item : Nat → Sl} {m : Nat → Nat} {item1 : Nat → Nat → Sl} {g : Nat → Nat → PyData} {δi : Nat → Dl} {δj : Nat → Nat → Dl} {ks ks1 : List Nat}
    (hc : X.calm = true) (hN : X.N.Nodup) (hi : DI A X δ s tg iter n item s1) (ok : BlkOk X.N X.env.scope scope own) (hv : ∀ i ∈ vs1, i ∈ own.map (·.2)) (hks : ∀ k ∈ ks, k ∈ own.map (·.2)) (hks1 : ∀ k ∈ ks1, k ∈ vs1) (hl : ∀ i, i ≤ n → (outs2 i m g).length ≤ 50000) (hm : ∀ i, m i ≤ 50000)
    (hg : ∀ i, i < n → ∀ sh H C cl fp, DG A (Bk X scope sh H C cl fp) (dwipe δ (own.map (·.2))) tg (item i) (δi i) ks)
    (hi1 : ∀ i, i < n → ∀ sh H C cl fp, DI A (Bk X scope sh H C cl fp) (δi i) s1 tg1 iter1 (m i) (item1 i) s1)
    (hg1 : ∀ i j, i < n → j < m i → ∀ sh H C cl fp, DG A (Bk X scope sh H C cl fp) (dwipe (δi i) vs1) tg1 (item1 i j) (δj i j) ks1)
    (he : ∀ i j, i < n → j < m i → ∀ sh H C cl fp, DE A (Bk X scope sh H C cl fp) (δj i j) s1 elt (.d (g i j)) s1)
    (hs : ∀ x, foldedSetIterable iter X.env x = pure x := by intro _; rfl) (hs1 : ∀ env x, foldedSetIterable iter1 env x = pure x := by intro _ _; rfl) :
    DF A X δ s (.ListComp elt [⟨tg, iter, [], 0⟩, ⟨tg1, iter1, [], 0⟩] scope pos) (.l (outs2 n m g)) s1 := df_of (pe_lc2 (vs1 := vs1) (wi := wpI X tg iter) (g := fun v σ H Q => ∀ sh H0 C cl fp, wpG (Bk X scope sh H0 C cl fp) tg v σ H Q) (tt := tYes) (wi1 := fun σ H R => ∀ sh H0 C cl fp, wpI (Bk X scope sh H0 C cl fp) tg1 iter1 σ H R) (g1 := fun v σ H Q => ∀ sh H0 C cl fp, wpG (Bk X scope sh H0 C cl fp) tg1 v σ H Q) (tt1 := tYes)
    (te := fun σ H Q => ∀ sh H0 C cl fp, wpT (Bk X scope sh H0 C cl fp) elt σ H Q) hc hN pi_w ok hv (fun sh H0 C cl fp => ⟨fun pins s' σ H v u Q I r h => (h sh H0 C cl fp).run pins s' u I r⟩) (fun sh H0 C cl fp => pts_nil)
    (fun sh H0 C cl fp => ⟨fun pins s' σ H R I h => (h sh H0 C cl fp).run pins s' I⟩) (fun sh H0 C cl fp => ⟨fun pins s' σ H v u Q I r h => (h sh H0 C cl fp).run pins s' u I r⟩) (fun sh H0 C cl fp => pts_nil)
    (fun sh H0 C cl fp => ⟨fun pins s' σ H Q I h => (h sh H0 C cl fp).run pins s' I⟩) hs hs1) (evf_lc2 hc hN hi ok hv hks hks1 hl hm hg hi1 hg1 he hs hs1)
theorem de_lc2 {elt iter tg1 iter1 : Expr} {scope : Scope} {own : List (Str × Nat)} {vs1 : List Nat} {pos : Pos} {n : Nat} {item : Nat → Sl} {m : Nat → Nat} {item1 : Nat → Nat → Sl} {g : Nat → Nat → PyData} {δi : Nat → Dl} {δj : Nat → Nat → Dl} {ks ks1 : List Nat}
    (hc : X.calm = true) (hN : X.N.Nodup) (hi : DI A X δ s tg iter n item s1) (ok : BlkOk X.N X.env.scope scope own) (hv : ∀ i ∈ vs1, i ∈ own.map (·.2)) (hks : ∀ k ∈ ks, k ∈ own.map (·.2)) (hks1 : ∀ k ∈ ks1, k ∈ vs1) (hl : ∀ i, i ≤ n → (outs2 i m g).length ≤ 50000) (hm : ∀ i, m i ≤ 50000)
    (hg : ∀ i, i < n → ∀ sh H C cl fp, DG A (Bk X scope sh H C cl fp) (dwipe δ (own.map (·.2))) tg (item i) (δi i) ks)
    (hi1 : ∀ i, i < n → ∀ sh H C cl fp, DI A (Bk X scope sh H C cl fp) (δi i) s1 tg1 iter1 (m i) (item1 i) s1)
    (hg1 : ∀ i j, i < n → j < m i → ∀ sh H C cl fp, DG A (Bk X scope sh H C cl fp) (dwipe (δi i) vs1) tg1 (item1 i j) (δj i j) ks1)
    (he : ∀ i j, i < n → j < m i → ∀ sh H C cl fp, DE A (Bk X scope sh H C cl fp) (δj i j) s1 elt (.d (g i j)) s1)
    (hs : ∀ x, foldedSetIterable iter X.env x = pure x := by intro _; rfl) (hs1 : ∀ env x, foldedSetIterable iter1 env x = pure x := by intro _ _; rfl) :
    DE A X δ s (.ListComp elt [⟨tg, iter, [], 0⟩, ⟨tg1, iter1, [], 0⟩] scope pos) (.d (.list (outs2 n m g))) s1 :=
  (df_lc2 hc hN hi ok hv hks hks1 hl hm hg hi1 hg1 he hs hs1).de
end
end Kp
end
section
set_option Elab.async false
set_option linter.all false
set_option maxRecDepth 100000
set_option maxHeartbeats 4000000
namespace Kp
open PySem PySem.Spec PyProof.Rows L2
/-! ### statements: what a list of blocks comes to -/
inductive Out (A : Amb) where
  | nx (δ : Dl) (s : A.S)
  | rt (c : Sl) (s : A.S)
  | ex (C : Addr) (s : A.S)
def OutOk (A : Amb) (K : Fg) (E : XK) (w : Wd A) (D : Ends) : Out A → Prop
  | .nx δ s => ∀ σ' (w' : Wd A), Le w w' → A.inv s w'.G w'.H → EnvD K σ' w'.G δ → D.nx σ' w'.H
  | .rt c s => ∀ v (w' : Wd A), Le w w' → A.inv s w'.G w'.H → DV K w'.G v c → D.rt v w'.H
  | .ex C s => ∀ (w' : Wd A), Le w w' → A.inv s w'.G w'.H → E (.ref C) none w'.H
theorem OutOk.le {A : Amb} {K : Fg} {E : XK} {w w' : Wd A} {D : Ends} {o : Out A} (h : OutOk A K E w D o) (l : Le w w') : OutOk A K E w' D o := by
  cases o with
  | nx δ s => exact fun σ u k i e => h σ u (l.trans k) i e
  | rt c s => exact fun v u k i e => h v u (l.trans k) i e
  | ex C s => exact fun u k i => h u (l.trans k) i
def wpS (X : Cx) (sts : List Stmt) : TS := fun D σ H => Wp (∀ pins s, Inv X pins σ H s → wpAny (model X.prog X.w) X.A (execs sts X.env) (SP X pins D) X.xe s)
theorem pss_w {X : Cx} {sts : List Stmt} : PSs X sts (wpS X sts) := ⟨fun pins s _ _ _ I h => h.run pins s I⟩
def wpBs (X : Cx) : List (List Stmt) → TS
  | [] => tNext
  | b :: bs => tSeq (wpS X b) (wpBs X bs)
/-- E: what is wanted of an exception -/
def DB (A : Amb) (X : Cx) (E : XK) (δ : Dl) (s : A.S) (bs : List (List Stmt)) (o : Out A) : Prop :=
  ∀ (w : Wd A) (σ : L2.St), EnvD X.K σ w.G δ → A.inv s w.G w.H → ∀ D : Ends, OutOk A X.K E w D o → wpBs X bs D σ w.H
section
variable {A : Amb} {X : Cx} {E : XK} {δ δ' δ2 : Dl} {s s1 s2 : A.S} {o : Out A} {rest : List Stmt} {bs : List (List Stmt)}
theorem db_eq {o' : Out A} (h : DB A X E δ s bs o) (e : o = o') : DB A X E δ s bs o' := e ▸ h
theorem db_weak (h : DB A X E δ' s bs o) (k : Wk δ δ') : DB A X E δ s bs o := fun w σ en iv D q => h w σ (en.weak k) iv D q
theorem db_nil : DB A X E δ s [] (.nx δ s) := fun w σ en iv D q => q σ w (Le.refl w) iv en
theorem wp_nil {D : Ends} {σ : L2.St} {H : Hp} (h : D.nx σ H) : wpS X [] D σ H := ⟨fun pins s I => pss_nil.run pins s σ H D I h⟩
theorem wp_cons {st : Stmt} {t : TS} {D : Ends} {σ : L2.St} {H : Hp} (h : PS X st t) (k : t { D with nx := wpS X rest D } σ H) : wpS X (st :: rest) D σ H := ⟨fun pins s I =>
  (pss_cons h pss_w).run pins s σ H D I k⟩
theorem db_pop (h : DB A X E δ s bs o) : DB A X E δ s ([] :: bs) o := fun w σ en iv D q => wp_nil (h w σ en iv D q)
/-- a statement that only goes on, with t's reading -/
theorem db_step {st : Stmt} {t : TS} (h : PS X st t) (k : ∀ (w : Wd A) (σ : L2.St), EnvD X.K σ w.G δ → A.inv s w.G w.H → ∀ D : Ends, (∀ σ' (w' : Wd A), Le w w' → A.inv s1 w'.G w'.H → EnvD X.K σ' w'.G δ' → D.nx σ' w'.H) → t D σ w.H) (r : DB A X E δ' s1 (rest :: bs) o) : DB A X E δ s ((st :: rest) :: bs) o :=
  fun w σ en iv D q => wp_cons h (k w σ en iv _ fun σ' w' l i e => r w' σ' e i D (q.le l))
theorem db_asg {tg e : Expr} {c : Sl} {ks : List Nat} {pos : Pos} (h : DE A X δ s e c s1) (hg : DG A X δ tg c δ' ks) (r : DB A X E δ' s1 (rest :: bs) o) (hs : swapsWithSole [tg] e pos.line X.env = pure false := by rfl) (hw : swappedStores [tg] e X.env = pure none := by rfl)
    (h1 : (assignEach [tg] X.env).map (·.2) = [assign tg X.env] := by rfl) : DB A X E δ s ((.Assign [tg] e pos :: rest) :: bs) o :=
  db_step (ps_asg pe_w pg_w hs hw h1) (fun w σ en iv D q => h w σ en iv _ fun v w1 l1 i1 d1 => hg w1 σ v (en.mono l1.g) d1 _ fun σ' e2 _ => q σ' w1 l1 i1 e2) r
theorem db_set (i : Nat) {x : Str} {e : Expr} {c : Sl} {p pos : Pos} (hN : X.N.Nodup) (h : DE A X δ s e c s1) (r : DB A X E (δ.set i (some c)) s1 (rest :: bs) o) (hi : X.N[i]? = some x := by rfl) (hx : Loc X.env.scope x := by first | exact Or.inl rfl | exact Or.inr rfl)
    (hs : swapsWith e (some (.Name x p)) pos.line X.env = pure false := by rfl) (hf : X.fn x = true ∨ X.env.scope.names.lookup x = some .local := by first | exact .inl rfl | exact .inr rfl) : DB A X E δ s ((.Assign [.Name x p] e pos :: rest) :: bs) o :=
  db_step (ps_set hN hi hx pe_w hs hf) (fun w σ en iv D q => h w σ en iv _ fun v w1 l1 i1 d1 => q _ w1 l1 i1 ((en.mono l1.g).set i d1)) r
/-- x, y = a, b (plain local names) -/
theorem db_par (i j : Nat) {x y : Str} {a b : Expr} {c c' : Sl} {px py pt pt2 pos : Pos} {kt k2 : Nat} (hc : X.calm = true) (hN : X.N.Nodup) (h : DA A X δ s [a, b] [c, c'] s1) (r : DB A X E ((δ.set i (some c)).set j (some c')) s1 (rest :: bs) o)
    (hi : X.N[i]? = some x := by rfl) (hj : X.N[j]? = some y := by rfl) (hij : i ≠ j := by decide) (hx : X.env.scope.names.lookup x = some .local := by rfl) (hy : X.env.scope.names.lookup y = some .local := by rfl)
    (hw : swappedStores [.Tuple [.Name x px, .Name y py] kt pt] (.Tuple [a, b] k2 pt2) X.env = pure (some [x, y]) := by rfl) (hs : swapsWithSole [.Tuple [.Name x px, .Name y py] kt pt] (.Tuple [a, b] k2 pt2) pos.line X.env = pure false := by rfl) :
    DB A X E δ s ((.Assign [.Tuple [.Name x px, .Name y py] kt pt] (.Tuple [a, b] k2 pt2) pos :: rest) :: bs) o :=
  db_step (ps_par hc hN hi hj hij hx hy pa_w hw hs) (fun w σ en iv D q => h w σ en iv _ fun vs w1 l1 i1 d1 => by
    obtain ⟨v, u, rfl, d2, d3⟩ := dvs2 d1
    exact ⟨v, u, rfl, q _ w1 l1 i1 (((en.mono l1.g).set i d2).set j d3)⟩) r
theorem db_drop {e : Expr} {c : Sl} {pos : Pos} (h : DE A X δ s e c s1) (r : DB A X E δ s1 (rest :: bs) o) (hs : swapsWith e none pos.line X.env = pure false := by rfl) : DB A X E δ s ((.Expr e pos :: rest) :: bs) o :=
  db_step (ps_expr pe_w hs) (fun w σ en iv D q => h w σ en iv _ fun v w1 l1 i1 d1 => q σ w1 l1 i1 (en.mono l1.g)) r
theorem wpBs_rt : ∀ {bs : List (List Stmt)} {st : Stmt} {t : TS} {rest : List Stmt} {D : Ends} {σ : L2.St} {H : Hp}, PS X st t → (∀ D' : Ends, D'.rt = D.rt → t D' σ H) → wpBs X ((st :: rest) :: bs) D σ H := fun h k => wp_cons h (k _ rfl)
theorem db_ret {e : Expr} {c : Sl} {pos : Pos} (h : DE A X δ s e c s1) : DB A X E δ s ((.Return (some e) pos :: rest) :: bs) (.rt c s1) := fun w σ en iv D q =>
  wpBs_rt (ps_ret pe_w) fun D' e => h w σ en iv _ fun v w1 l1 i1 d1 => by rw [e]; exact q v w1 l1 i1 d1
theorem db_if {t : Expr} {a b : List Stmt} {z : Bool} {pos : Pos} (h : DT A X δ s t z s1) (h1 : z = true → DB A X E δ s1 (a :: rest :: bs) o) (h2 : z = false → DB A X E δ s1 (b :: rest :: bs) o) : DB A X E δ s ((.If t a b pos :: rest) :: bs) o := fun w σ en iv D q =>
  wp_cons (ps_if pt_w pss_w pss_w) (h w σ en iv _ fun w1 l1 i1 => by
    cases z with
    | true => exact iteT (h1 rfl w1 σ (en.mono l1.g) i1 D (q.le l1))
    | false => exact iteF (h2 rfl w1 σ (en.mono l1.g) i1 D (q.le l1)))
/-- an exception of an own class, made without arguments -/
theorem pmk_bare {C : Addr} {bmB : List Value} {B newId initId : String} {x : Str} {p pos : Pos} (F : ExcBaseFacts B newId initId bmB) (q : PySem.W.excIn X.K C bmB newId = true) (gC : X.mg x = some (.ref C))
    (kC : PySem.W.keepIn X.K (.ref C) = true) (r : Raises X (.ref C)) (hg : Gl X x) (hdb : (x == ("__debug__" : Str)) = false := by decide) : PMk X (.Call (.Name x p) [] [] pos) (fun σ H Q => Q (.ref C) none H) := by
  intro pins s σ H Q I h
  refine wpAny_Call_Name_kw (ld_glob I hg gC ?_ hdb)
  refine PySem.W.callWith_K0 I.kIn kC ?_
  obtain ⟨bm, N, nm, qn, bs, hdct, sn, sub, ab, col, dd, k0, k1, k2, k3, k5, mN, hC, hN, hni, T⟩ := exc_obj I.kIn q
  refine wpAny_call_exc_subT F T hC hN hni (fun h' e hm => ?_) (by show 0 ≤ sizeLine; exact Nat.zero_le _)
  exact mk_of I hm r h (I.hok.gone hm.new)
/-- what is known of an own class of errors -/
structure ExC (K : Fg) (mg : Str → Option Value) (x : Str) (C : Addr) : Prop where
  q : PySem.W.excIn K C [.type "ValueError", .type "Exception", .type "BaseException", .type "object"] "ValueError.__new__" = true
  g : mg x = some (.ref C)
  k : PySem.W.keepIn K (.ref C) = true
  b : PySem.W.subIn K (.ref C) (.type "BaseException") = some true
  t : PySem.W.typeIn K (.ref C) = some (.type "type")
theorem db_raise {x : Str} {C : Addr} {p p2 pos : Pos} (F : ExC X.K X.mg x C) (hc : X.calm = true) (tk : Takes X (fun cls d _ H => E cls d H)) (hg : Gl X x := by rfl) (hdb : (x == ("__debug__" : Str)) = false := by decide) :
    DB A X E δ s ((.Raise (some (.Call (.Name x p) [] [] p2)) none pos :: rest) :: bs) (.ex C s) := fun w σ en iv D q =>
  wp_cons (ps_raise hc tk (pmk_bare PySem.F.excBase_ValueError F.q F.g F.k (raises_own F.b F.t) hg hdb)) (q w (Le.refl w) iv)
/-- a call that raises -/
theorem db_callX {x : Str} {ps : List Str} {k : Nat} {R : List Sl → Res → Prop} {e : Expr} {es : List Expr} {cs : List Sl} {C : Addr} {p p2 pos : Pos} (F : Dfn X.prog X.w X.K X.mg X.base k x ps (spR X.K R)) (hr : Room k X.A) (h : DA A X δ s (e :: es) cs s1) (hR : R cs (.exc C))
    (tk : Takes X (fun cls d _ H => E cls d H)) (hg : Gl X x := by rfl)
    (hdb : (x == ("__debug__" : Str)) = false := by decide) (he : starEach (e :: es) X.env = (false, eval e X.env) :: starEach es X.env := by rfl) (hpl : (backTo p2 (starEach es X.env)).any (·.1) = false := by rfl) (hs : swapsWith (.Call (.Name x p) (e :: es) [] p2) none pos.line X.env = pure false := by rfl) :
    DB A X E δ s ((.Expr (.Call (.Name x p) (e :: es) [] p2) pos :: rest) :: bs) (.ex C s1) := by
  obtain ⟨f, fd, G, b, m, k⟩ := F.ex
  refine fun w σ en iv D q => wp_cons (ps_expr (pe_call G hr hg m k b .nil (passes_call tk fun _ _ _ _ z => z) pa_w hdb he hpl) hs) (h w σ en iv _ fun vs w1 l1 i1 d1 => ?_)
  rw [List.append_nil]
  refine ⟨w1.G, cs, _, w1.nt, w1.sub, d1, hR, fun H' sm => ?_⟩
  exact q (w1.on w1.G H' w1.nt (w1.sub.trans sm) (Same.refl _) sm fun x _ e => e) (l1.trans (w1.on_le w1.nt (w1.sub.trans sm) (Same.refl _) sm fun x _ e => e)) (A.st i1 (Same.refl _) fun x o _ e => sm x o e)
/-! loops -/
/-- the whole loop: δL is what is known at each turn's start and end -/
theorem db_for {tg iter : Expr} {body : List Stmt} {n : Nat} {item : Nat → Sl} {δi : Nat → Dl} {δe : Nat → Dl} {ks : List Nat} {pos : Pos} (δL : Dl) (st : Nat → A.S) (hp : PassesOwn (model X.prog X.w) X.A X.env X.xe) (hc : X.calm = true) (hi : DI A X δ s tg iter n item (st 0)) (hL : Wk δ δL)
    (hg : ∀ i, i < n → DG A X δL tg (item i) (δi i) ks) (hb : ∀ i, i < n → DB A X E (δi i) (st i) [body] (.nx (δe i) (st (i + 1)))) (he : ∀ i, i < n → Wk (δe i) δL) (r : DB A X E δL (st n) (rest :: bs) o)
    (hs : ∀ x, foldedSetIterable iter X.env x = pure x := by intro _; rfl) : DB A X E δ s ((.For tg iter body [] pos :: rest) :: bs) o := fun w σ en iv D q => by
  refine wp_cons (ps_for (tb := wpS X body) (wi := wpI X tg iter) (g := wpG X tg) hp hc pi_w pg_w pss_w hs) ?_
  refine hi w σ en iv _ fun J w1 l1 i1 go yl stp => ?_
  refine ⟨fun i m σ H => ∃ w2 : Wd A, w2.H = H ∧ m = n - i ∧ i ≤ n ∧ Le w1 w2 ∧ A.inv (st i) w2.G w2.H ∧ EnvD X.K σ w2.G δL, ⟨n, w1, rfl, by simp, Nat.zero_le _, Le.refl w1, i1, (en.mono l1.g).weak hL⟩, ?_⟩
  rintro i m σ2 H ⟨w2, rfl, rfl, hi', l2, i2, e2⟩
  by_cases hlt : i < n
  · refine .inr ⟨go i hlt w2 l2.g, fun σ3 H3 => ∃ w3 : Wd A, w3.H = H3 ∧ i + 1 ≤ n ∧ Le w1 w3 ∧ A.inv (st (i + 1)) w3.G w3.H ∧ EnvD X.K σ3 w3.G δL, ?_, fun x H' y => ?_⟩
    · rintro σ3 H3 ⟨w3, e, h1, h2⟩
      exact ⟨n - (i + 1), by omega, w3, e, rfl, h1, h2⟩
    · obtain ⟨rfl, dx⟩ := yl i hlt w2 l2.g x H' y
      refine hg i hlt w2 σ2 x e2 dx _ fun σ3 e3 off => ?_
      have h := hb i hlt w2 σ3 e3 i2 { D with nx := fun σ3 H3 => ∃ w3 : Wd A, w3.H = H3 ∧ i + 1 ≤ n ∧ Le w1 w3 ∧ A.inv (st (i + 1)) w3.G w3.H ∧ EnvD X.K σ3 w3.G δL, ct := fun σ3 H3 => ∃ w3 : Wd A, w3.H = H3 ∧ i + 1 ≤ n ∧ Le w1 w3 ∧ A.inv (st (i + 1)) w3.G w3.H ∧ EnvD X.K σ3 w3.G δL, bk := wpS X rest { D with nx := wpBs X bs D } }
        (fun σ4 w4 l4 i4 e4 => ⟨w4, rfl, hlt, l2.trans l4, i4, e4.weak (he i hlt)⟩)
      exact h
  · have e : i = n := by omega
    subst e
    exact .inl ⟨stp w2 l2.g, r w2 σ2 e2 i2 D (q.le (l1.trans l2))⟩
/-- a loop that ends the def (by return or raise) in turn k -/
theorem db_forX {tg iter : Expr} {body : List Stmt} {n k : Nat} {item : Nat → Sl} {δi : Nat → Dl} {δe : Nat → Dl} {ks : List Nat} {pos : Pos} (δL : Dl) (st : Nat → A.S) (hp : PassesOwn (model X.prog X.w) X.A X.env X.xe) (hc : X.calm = true) (hi : DI A X δ s tg iter n item (st 0)) (hL : Wk δ δL)
    (hk : k < n) (hg : ∀ i, i ≤ k → DG A X δL tg (item i) (δi i) ks) (hb : ∀ i, i < k → DB A X E (δi i) (st i) [body] (.nx (δe i) (st (i + 1)))) (he : ∀ i, i < k → Wk (δe i) δL) (hx : DB A X E (δi k) (st k) [body] o) (ho : ∀ δ s, o ≠ .nx δ s)
    (hs : ∀ x, foldedSetIterable iter X.env x = pure x := by intro _; rfl) : DB A X E δ s ((.For tg iter body [] pos :: rest) :: bs) o := fun w σ en iv D q => by
  refine wp_cons (ps_for (tb := wpS X body) (wi := wpI X tg iter) (g := wpG X tg) hp hc pi_w pg_w pss_w hs) ?_
  refine hi w σ en iv _ fun J w1 l1 i1 go yl stp => ?_
  refine ⟨fun i m σ H => ∃ w2 : Wd A, w2.H = H ∧ m = n - i ∧ i ≤ k ∧ Le w1 w2 ∧ A.inv (st i) w2.G w2.H ∧ EnvD X.K σ w2.G δL, ⟨n, w1, rfl, by simp, Nat.zero_le _, Le.refl w1, i1, (en.mono l1.g).weak hL⟩, ?_⟩
  rintro i m σ2 H ⟨w2, rfl, rfl, hi', l2, i2, e2⟩
  have hin : i < n := by omega
  refine .inr ⟨go i hin w2 l2.g, fun σ3 H3 => ∃ w3 : Wd A, w3.H = H3 ∧ i + 1 ≤ k ∧ Le w1 w3 ∧ A.inv (st (i + 1)) w3.G w3.H ∧ EnvD X.K σ3 w3.G δL, ?_, fun x H' y => ?_⟩
  · rintro σ3 H3 ⟨w3, e, h1, h2⟩
    exact ⟨n - (i + 1), by omega, w3, e, rfl, h1, h2⟩
  · obtain ⟨rfl, dx⟩ := yl i hin w2 l2.g x H' y
    refine hg i hi' w2 σ2 x e2 dx _ fun σ3 e3 off => ?_
    by_cases hlt : i < k
    · have h := hb i hlt w2 σ3 e3 i2 { D with nx := fun σ3 H3 => ∃ w3 : Wd A, w3.H = H3 ∧ i + 1 ≤ k ∧ Le w1 w3 ∧ A.inv (st (i + 1)) w3.G w3.H ∧ EnvD X.K σ3 w3.G δL, ct := fun σ3 H3 => ∃ w3 : Wd A, w3.H = H3 ∧ i + 1 ≤ k ∧ Le w1 w3 ∧ A.inv (st (i + 1)) w3.G w3.H ∧ EnvD X.K σ3 w3.G δL, bk := wpS X rest { D with nx := wpBs X bs D } }
        (fun σ4 w4 l4 i4 e4 => ⟨w4, rfl, hlt, l2.trans l4, i4, e4.weak (he i hlt)⟩)
      exact h
    · have e : i = k := by omega
      subst e
      have h := hx w2 σ3 e3 i2 { D with nx := fun σ3 H3 => ∃ w3 : Wd A, w3.H = H3 ∧ i + 1 ≤ i ∧ Le w1 w3 ∧ A.inv (st (i + 1)) w3.G w3.H ∧ EnvD X.K σ3 w3.G δL, ct := fun σ3 H3 => ∃ w3 : Wd A, w3.H = H3 ∧ i + 1 ≤ i ∧ Le w1 w3 ∧ A.inv (st (i + 1)) w3.G w3.H ∧ EnvD X.K σ3 w3.G δL, bk := wpS X rest { D with nx := wpBs X bs D } } (by
        have q2 := q.le (l1.trans l2)
        cases o with
        | nx δ s => exact absurd rfl (ho δ s)
        | rt c s => exact q2
        | ex C s => exact q2)
      exact h
end

/-! ### defs -/
/-- a def's slots at its start -/
def dstart (N : List Str) (cs : List Sl) : Dl := cs.map some ++ List.replicate (N.length - cs.length) none
theorem env_start {K : Fg} {G : Hp} {N : List Str} {vs : List V} {cs : List Sl} (h : DVs K G vs cs) : EnvD K (L2.start N vs) G (dstart N cs) := by
  have hl := dvs_len h
  refine ⟨by unfold L2.start dstart; simp [hl], fun i c k => ?_⟩
  have go : ∀ {vs : List V} {cs : List Sl} {i : Nat}, DVs K G vs cs → cs[i]? = some c → ∃ v, vs[i]? = some v ∧ DV K G v c := by
    intro vs cs
    induction cs generalizing vs with
    | nil => intro i _ e; simp at e
    | cons a r ih =>
      intro i h e
      match vs, h with
      | v :: vr, ⟨h1, h2⟩ =>
        cases i with
        | zero => simp at e; subst e; exact ⟨v, rfl, h1⟩
        | succ i => exact ih (i := i) h2 (by simpa using e)
  have hi : i < cs.length := by
    by_cases q : i < cs.length
    · exact q
    · exfalso
      unfold dstart at k
      rw [List.getElem?_append_right (by rw [List.length_map]; omega)] at k
      rw [List.length_map, List.getElem?_replicate] at k
      split at k <;> cases k
  have e : cs[i]? = some c := by
    unfold dstart at k
    rw [List.getElem?_append_left (by rw [List.length_map]; exact hi), List.getElem?_map] at k
    cases z : cs[i]? with
    | none => rw [z] at k; cases k
    | some a => rw [z] at k; simpa using k
  obtain ⟨v, ev, dv⟩ := go h e
  refine ⟨v, ?_, dv⟩
  unfold L2.start
  have hv : i < (vs.map some).length := by rw [List.length_map, hl]; exact hi
  rw [List.getElem?_append_left hv, List.getElem?_map, ev]
  rfl
def ResOut (A : Amb) (s : A.S) : Res → Out A
  | .val c => .rt c s
  | .exc C => .ex C s
section
variable {P : Program} {w : World} {K : Fg} {mg : Str → Option Value} {base : Heap}
/-- what stands in the written part of a def -/
structure Df (K : Fg) (mg : Str → Option Value) (x : Str) (st : Stmt) (ps : List Str) : Prop where
  ex : ∃ f fd, Fun K x x st f fd ∧ Binds K fd ps [] ∧ mg x = some (.ref f)
abbrev Cf (P : Program) (w : World) (K : Fg) (mg : Str → Option Value) (base : Heap) (N : List Str) (x : Str) (st : Stmt) (f : Addr) (cdv : Value) (B : Around) (outer : List Env) (s : Shared) (H : Hp) (E : XK) : Cx := cxOf (L2.CX P w) P w K mg base N x (defScope st) f cdv B outer s H E
/-- a def whose promise is told by R: its body is walked for each arguments and result -/
theorem dfn_of {x : Str} {st : Stmt} {N ps : List Str} {k : Nat} {R : List Sl → Res → Prop} (F : Df K mg x st ps) (S : FnScope N ps (defScope st)) (len : ∀ cs r, R cs r → cs.length = ps.length)
    (body : ∀ f cdv B outer s H E cs r, Room k (B.deeper (envOfC x (defScope st) s.heap.objs.size f cdv)) → R cs r → Takes (Cf P w K mg base N x st f cdv B outer s H E) (fun cls d _ H => E cls d H) →
      DB A0 (Cf P w K mg base N x st f cdv B outer s H E) E (dstart N cs) () [defBody st] (ResOut A0 () r)) : Dfn P w K mg base (k + 1) x ps (spR K R) := by
  obtain ⟨f, fd, G, b, m⟩ := F.ex
  refine ⟨f, fd, ?_, b, m, G.kp⟩
  refine G.okX S (fun vs H Q E h => ?_) fun cdv B outer s H vs Q E hr h => ?_
  · obtain ⟨G', cs, r, _, _, dv, hR, _⟩ := h
    rw [dvs_len dv]; exact len cs r hR
  · obtain ⟨G', cs, r, nt, sub, dv, hR, hq⟩ := h
    have tk : Takes (Cf P w K mg base N x st f cdv B outer s H E) (fun cls d _ H => E cls d H) := takes_of rfl rfl rfl rfl
    refine ⟨wpS _ (defBody st), pss_w, ?_⟩
    have h := body f cdv B outer s H E cs r hr hR tk (w0 sub nt) (L2.start N vs) (env_start dv) trivial { nx := fun _ H' => Q .non H', rt := Q } (by
      cases r with
      | val c => exact fun v w' l _ d => hq v w'.G w'.H w'.nt w'.sub l.g (fun x o e => l.h x o (fun z => z) e) l.f d
      | exc C => exact fun w' l _ => hq w'.H (fun x o e => l.h x o (fun z => z) e))
    have : wpBs (Cf P w K mg base N x st f cdv B outer s H E) [defBody st] { nx := fun _ H' => Q .non H', rt := Q } (L2.start N vs) H := h
    exact this
end
end Kp
end
section
set_option Elab.async false
set_option linter.all false
set_option maxRecDepth 100000
set_option maxHeartbeats 4000000
namespace Kp
open PySem PySem.Spec PyProof.Rows L2
def top (i : Nat) : Stmt := PySem.Challenge.pw_stagebelt_k16_whole_paths.main.body.getD i (.Pass ⟨0, 0, 0, 0⟩)
section
variable {P : Program} {w : World} {K : Fg} {mg : Str → Option Value} {base : Heap}
theorem sc1 : FnScope ["value"] ["value"] (defScope (top 1)) := ⟨rfl, rfl, rfl, by decide +kernel, rfl, by decide +kernel, by decide +kernel⟩
theorem sc2 : FnScope ["value", "least", "most"] ["value", "least", "most"] (defScope (top 2)) := ⟨rfl, rfl, rfl, by decide +kernel, rfl, by decide +kernel, by decide +kernel⟩
theorem sc3 : FnScope ["value", "least", "most"] ["value", "least", "most"] (defScope (top 3)) := ⟨rfl, rfl, rfl, by decide +kernel, rfl, by decide +kernel, by decide +kernel⟩

/-- is_integer -/
def rInteger : List Sl → Res → Prop := fun cs r => ∃ d, cs = [.d d] ∧ r = .val (.d (.bool (isiD d "int" && !isiD d "bool")))
theorem f_integer (N : Nms mg) (F : Df K mg "is_integer" (top 1) ["value"]) : Dfn P w K mg base 1 "is_integer" ["value"] (spR K rInteger) := by
  refine dfn_of F sc1 ?_ ?_
  · rintro cs r ⟨d, rfl, _⟩; rfl
  · rintro f cdv B outer s H E cs r hr ⟨d, rfl, rfl⟩ tk
    exact db_ret (de_and (de_isi N (de_var 0) N.int boot_int (.inl rfl)) fun _ => de_one (de_not (de_isi N (de_var 0) N.bool boot_bool (.inr (.inl rfl)))))
def isInt (d : PyData) : Bool := isiD d "int" && !isiD d "bool"
/-- is_in: of any value -/
def inB (d : PyData) (l m : Int) : Bool := match d with
  | .int i => decide (l ≤ i) && decide (i ≤ m)
  | _ => false
theorem isInt_int (i : Int) : isInt (.int i) = true := by rfl
def rIsIn : List Sl → Res → Prop := fun cs r => ∃ d l m, cs = [.d d, .d (.int l), .d (.int m)] ∧ r = .val (.d (.bool (inB d l m)))
theorem f_isin (N : Nms mg) (F : Df K mg "is_in" (top 2) ["value", "least", "most"]) (G : Dfn P w K mg base 1 "is_integer" ["value"] (spR K rInteger)) : Dfn P w K mg base 2 "is_in" ["value", "least", "most"] (spR K rIsIn) := by
  refine dfn_of F sc2 ?_ ?_
  · rintro cs r ⟨d, l, m, rfl, _⟩; rfl
  · rintro f cdv B outer s H E cs r hr ⟨d, l, m, rfl, rfl⟩ tk
    cases d with
    | int i => exact db_eq (db_ret (de_and (de_call G hr (da_cons (de_var 0) da_nil) ⟨_, rfl, rfl⟩) fun _ => de_one (de_lele (de_var 1) (de_var 0) (de_var 2)))) rfl
    | none => exact db_ret (de_andF (de_call G hr (da_cons (de_var 0) da_nil) ⟨_, rfl, rfl⟩))
    | bool b => exact db_ret (de_andF (de_call G hr (da_cons (de_var 0) da_nil) ⟨_, rfl, rfl⟩))
    | str b => exact db_ret (de_andF (de_call G hr (da_cons (de_var 0) da_nil) ⟨_, rfl, rfl⟩))
    | list b => exact db_ret (de_andF (de_call G hr (da_cons (de_var 0) da_nil) ⟨_, rfl, rfl⟩))
    | tuple b => exact db_ret (de_andF (de_call G hr (da_cons (de_var 0) da_nil) ⟨_, rfl, rfl⟩))
    | dict b => exact db_ret (de_andF (de_call G hr (da_cons (de_var 0) da_nil) ⟨_, rfl, rfl⟩))
def lenB (d : PyData) (l m : Int) : Bool := match d with
  | .tuple xs => decide (l ≤ (xs.length : Int)) && decide ((xs.length : Int) ≤ m)
  | _ => false
def rIsList : List Sl → Res → Prop := fun cs r => ∃ d l m, cs = [.d d, .d (.int l), .d (.int m)] ∧ r = .val (.d (.bool (lenB d l m)))
theorem f_islist (N : Nms mg) (F : Df K mg "is_list" (top 3) ["value", "least", "most"]) : Dfn P w K mg base 1 "is_list" ["value", "least", "most"] (spR K rIsList) := by
  refine dfn_of F sc3 ?_ ?_
  · rintro cs r ⟨d, l, m, rfl, _⟩; rfl
  · rintro f cdv B outer s H E cs r hr ⟨d, l, m, rfl, rfl⟩ tk
    cases d with
    | tuple b => exact db_eq (db_ret (de_and (de_isi N (de_var 0) N.tuple boot_tuple (.inr (.inr (.inr (.inl rfl))))) fun _ => de_one (de_lele (de_var 1) (de_len N (de_var 0)) (de_var 2)))) rfl
    | none => exact db_ret (de_andF (de_isi N (de_var 0) N.tuple boot_tuple (.inr (.inr (.inr (.inl rfl))))))
    | bool b => exact db_ret (de_andF (de_isi N (de_var 0) N.tuple boot_tuple (.inr (.inr (.inr (.inl rfl))))))
    | str b => exact db_ret (de_andF (de_isi N (de_var 0) N.tuple boot_tuple (.inr (.inr (.inr (.inl rfl))))))
    | list b => exact db_ret (de_andF (de_isi N (de_var 0) N.tuple boot_tuple (.inr (.inr (.inr (.inl rfl))))))
    | int b => exact db_ret (de_andF (de_isi N (de_var 0) N.tuple boot_tuple (.inr (.inr (.inr (.inl rfl))))))
    | dict b => exact db_ret (de_andF (de_isi N (de_var 0) N.tuple boot_tuple (.inr (.inr (.inr (.inl rfl))))))
end
end Kp
end
section
set_option Elab.async false
set_option linter.all false
set_option maxRecDepth 100000
set_option maxHeartbeats 4000000
namespace Kp
open PySem PySem.Spec PyProof.Rows L2
section
variable {A : Amb} {X : Cx} {δ δ' δ2 : Dl} {s s0 s1 s2 s3 : A.S} {tg : Expr}
theorem DI.eq {iter : Expr} {n m : Nat} {item item' : Nat → Sl} (h : DI A X δ s tg iter n item s1) (e : n = m) (k : ∀ i, i < m → item i = item' i) : DI A X δ s tg iter m item' s1 := by
  subst e
  exact fun w σ en iv R q => h w σ en iv R fun J w1 l1 i1 go yl stp => q J w1 l1 i1 go (fun i hi w2 e2 x H' y => by
    rw [← k i hi]; exact yl i hi w2 e2 x H' y) stp
theorem itm_map {β : Type} (l : List β) (f : β → PyData) (d : β) {i : Nat} (h : i < l.length) : itm (l.map f) i = .d (f (l.getD i d)) := by
  unfold itm
  rw [List.getD_eq_getElem?_getD, List.getElem?_map, List.getD_eq_getElem?_getD, List.getElem?_eq_getElem h]
  rfl
theorem di_tupM {β : Type} {e : Expr} {l : List β} (f : β → PyData) (d : β) (h : DE A X δ s e (.d (.tuple (l.map f))) s1) : DI A X δ s tg e l.length (fun i => .d (f (l.getD i d))) s1 :=
  (di_tup h).eq (List.length_map ..) fun i hi => itm_map l f d hi
theorem di_listM {β : Type} {e : Expr} {l : List β} (f : β → PyData) (d : β) (h : DE A X δ s e (.d (.list (l.map f))) s1) : DI A X δ s tg e l.length (fun i => .d (f (l.getD i d))) s1 :=
  (di_list h).eq (List.length_map ..) fun i hi => itm_map l f d hi
/-- one name is the target -/
theorem de_lcN (j : Nat) {x : Str} {px : Pos} {elt iter : Expr} {ifs : List Expr} {scope : Scope} {pos : Pos} {n : Nat} {item : Nat → Sl} {f : Nat → Bool} {g : Nat → PyData}
    (hc : X.calm = true) (hN : X.N.Nodup) (ok : BlkOk X.N X.env.scope scope [(x, j)]) (hi : DI A X δ s (.Name x px) iter n item s1) (hl : n ≤ 100000)
    (ht : ∀ i, i < n → ∀ sh H C cl fp, DTs A (Bk X scope sh H C cl fp) (δ.set j (some (item i))) s1 ifs (f i) s1)
    (he : ∀ i, i < n → f i = true → ∀ sh H C cl fp, DE A (Bk X scope sh H C cl fp) (δ.set j (some (item i))) s1 elt (.d (g i)) s1) (hj : X.N[j]? = some x := by rfl)
    (hx : ∀ sh H C cl fp, Loc (Bk X scope sh H C cl fp).env.scope x := by intros; first | exact Or.inl rfl | exact Or.inr rfl)
    (hf : ∀ sh H C cl fp, (Bk X scope sh H C cl fp).fn x = true ∨ (Bk X scope sh H C cl fp).env.scope.names.lookup x = some .local := by intros; first | exact .inl rfl | exact .inr rfl)
    (hs : ∀ x, foldedSetIterable iter X.env x = pure x := by intro _; rfl) : DE A X δ s (.ListComp elt [⟨.Name x px, iter, ifs, 0⟩] scope pos) (.d (.list (outs n f g))) s1 :=
  de_lc (ks := [j]) (δi := fun i => (δ.set j none).set j (some (item i))) hc hN hi ok (fun k hk => hk) hl (fun i _ sh H C cl fp => dg_name j hN hj (hx sh H C cl fp) (hf sh H C cl fp))
    (fun i hi sh H C cl fp => by rw [List.set_set]; exact ht i hi sh H C cl fp) (fun i hi hf sh H C cl fp => by rw [List.set_set]; exact he i hi hf sh H C cl fp) hs
theorem wk_keep {c : Option Sl} (h : Wk δ δ') : Wk (c :: δ) (c :: δ') := ⟨congrArg (· + 1) h.1, fun i a e => by
  cases i with
  | zero => exact e
  | succ i => exact h.2 i a e⟩
theorem wk_drop {c : Option Sl} (h : Wk δ δ') : Wk (c :: δ) (none :: δ') := ⟨congrArg (· + 1) h.1, fun i a e => by
  cases i with
  | zero => cases e
  | succ i => exact h.2 i a e⟩
theorem bq {b c : Bool} (h : b = c) : Sl.d (.bool b) = Sl.d (.bool c) := by rw [h]
theorem de_eqI {a b : Expr} {i j : Int} {pos : Pos} {k : Nat} (hr : Room k X.A) (ha : DE A X δ s a (.d (.int i)) s1) (hb : DE A X δ s1 b (.d (.int j)) s2) : DE A X δ s (.Compare a [.Eq] [b] pos) (.d (.bool (decide (i = j)))) s2 := DE.eq (de_eq hr ha hb (by rfl) (by rfl)) (bq (by rfl))
theorem dt_eqI {a b : Expr} {i j : Int} {pos : Pos} {k : Nat} (hr : Room k X.A) (ha : DE A X δ s a (.d (.int i)) s1) (hb : DE A X δ s1 b (.d (.int j)) s2) : DT A X δ s (.Compare a [.Eq] [b] pos) (decide (i = j)) s2 := DT.eq (dt_eq hr ha hb (by rfl) (by rfl)) (by rfl)
theorem outs_bl {n : Nat} {b : Nat → Bool} : outs n (fun _ => true) (fun i => .bool (b i)) = ((List.range n).map b).map PyData.bool := by
  rw [outs_all, List.map_map]; rfl
theorem all_range {n : Nat} {b : Nat → Bool} : ((List.range n).map b).all id = (List.range n).all b := by
  rw [List.all_map]; rfl
/-- all([elt for x in iter]) -/
theorem de_allc (j : Nat) {x : Str} {px p p2 : Pos} {elt iter : Expr} {scope : Scope} {pos : Pos} {n : Nat} {item : Nat → Sl} {b : Nat → Bool}
    (N : Nms X.mg) (hc : X.calm = true) (hN : X.N.Nodup) (ok : BlkOk X.N X.env.scope scope [(x, j)]) (hi : DI A X δ s (.Name x px) iter n item s1) (hl : n ≤ 100000)
    (he : ∀ i, i < n → ∀ sh H C cl fp, DE A (Bk X scope sh H C cl fp) (δ.set j (some (item i))) s1 elt (.d (.bool (b i))) s1) (hj : X.N[j]? = some x := by rfl)
    (hx : ∀ sh H C cl fp, Loc (Bk X scope sh H C cl fp).env.scope x := by intros; first | exact Or.inl rfl | exact Or.inr rfl)
    (hf : ∀ sh H C cl fp, (Bk X scope sh H C cl fp).fn x = true ∨ (Bk X scope sh H C cl fp).env.scope.names.lookup x = some .local := by intros; first | exact .inl rfl | exact .inr rfl)
    (hs : ∀ x, foldedSetIterable iter X.env x = pure x := by intro _; rfl) (hg : Gl X "all" := by rfl)
    (hs2 : starEach [.ListComp elt [⟨.Name x px, iter, [], 0⟩] scope p2] X.env = (false, eval (.ListComp elt [⟨.Name x px, iter, [], 0⟩] scope p2) X.env) :: starEach [] X.env := by rfl) :
    DE A X δ s (.Call (.Name "all" p) [.ListComp elt [⟨.Name x px, iter, [], 0⟩] scope p2] [] pos) (.d (.bool ((List.range n).all b))) s1 := by
  refine DE.eq (de_all (bs := (List.range n).map b) N hc (DE.eq (de_lcN (f := fun _ => true) (g := fun i => .bool (b i)) j hc hN ok hi hl (fun _ _ _ _ _ _ _ => dts_nil) (fun i h _ => he i h) hj hx hf hs) ?_) hg hs2) ?_
  · rw [outs_bl]
  · rw [all_range]
theorem atI_map {β : Type} {l : List β} {f : β → PyData} {d : β} {i : Nat} (h : i < l.length) : atI (l.map f) ((i : Nat) : Int) = some (f (l.getD i d)) :=
  atI_nat (by rw [List.getElem?_map, List.getD_eq_getElem?_getD, List.getElem?_eq_getElem h]; rfl)
theorem atI_get2 {l : List PyData} {i : Nat} (h : i < l.length) : atI l ((i : Nat) : Int) = some (l.getD i .none) := atI_nat (by rw [List.getD_eq_getElem?_getD, List.getElem?_eq_getElem h]; rfl)
end
end Kp
end
section
set_option Elab.async false
set_option linter.all false
set_option maxRecDepth 100000
set_option maxHeartbeats 4000000
namespace Kp
open PySem PySem.Spec PyProof.Rows L2
/-! ### designs -/
structure Dsg where
  rd : Int
  sm : Bool
  s1 : Int
  s2 : Int
  u1 : Int
  u2 : Int
  u3 : Int
  m1 : Int
  m2 : Int
  m3 : Int
  l1 : Int
  l2 : Int
  l3 : Int
  t1 : Int
  t2 : Int
  t3 : Int
  z1 : Int
  z2 : Int
  g1 : Int
  o1 : Int
  o2 : Int
  ps : List (Int × Int)
def itup (l : List Int) : PyData := .tuple (l.map .int)
def Dsg.rows (D : Dsg) : List (List Int) := [[D.s1, D.s2], [D.u1, D.u2, D.u3], [D.m1, D.m2, D.m3], [D.l1, D.l2, D.l3], [D.t1, D.t2, D.t3], [D.z1, D.z2], [D.g1], [D.o1, D.o2]]
def pth (p : Int × Int) : PyData := .tuple [.int p.1, .int p.2]
def Dsg.pl (D : Dsg) : PyData := .tuple (D.rows.map itup)
def pths (ps : List (Int × Int)) : PyData := .tuple (ps.map pth)
def Dsg.enc (D : Dsg) : PyData := .tuple [.int D.rd, .bool D.sm, D.pl, pths D.ps, .tuple []]
def pB (i : Int) : Bool := decide (0 ≤ i) && decide (i ≤ 7)
def ltP (p q : Int × Int) : Bool := decide (p.1 < q.1) || (decide (p.1 = q.1) && decide (p.2 < q.2))
def okP (p : Int × Int) : Bool := pB p.1 && (pB p.2 && decide (p.2 < p.1))
def risesP (ps : List (Int × Int)) : Bool := (List.range (ps.length - 1)).all fun i => ltP (ps.getD i (0, 0)) (ps.getD (i + 1) (0, 0))
/-- a design of the document -/
structure Dsg.Ok (D : Dsg) : Prop where
  rd : pB D.rd = true
  pl : D.rows.all (fun r => r.all pB) = true
  s : decide (D.rd < D.s2) = true ∧ decide (D.s1 < D.s2) = true
  z : decide (D.rd ≤ D.z1) = true ∧ decide (D.z1 ≤ D.z2) = true
  o : decide (D.rd ≤ D.o1) = true ∧ decide (D.o1 ≤ D.o2) = true
  u : decide (D.rd ≤ D.u1) = true ∧ decide (D.u1 ≤ D.u2) = true ∧ decide (D.u2 < D.u3) = true
  m : decide (D.rd ≤ D.m1) = true ∧ decide (D.m1 ≤ D.m2) = true ∧ decide (D.m2 < D.m3) = true
  l : decide (D.rd ≤ D.l1) = true ∧ decide (D.l1 ≤ D.l2) = true ∧ decide (D.l2 < D.l3) = true
  t : decide (D.rd ≤ D.t1) = true ∧ decide (D.t1 < D.t3) = true ∧ decide (D.rd ≤ D.t2) = true ∧ decide (D.t2 < D.t3) = true
  ps : D.ps.all okP = true
  rs : risesP D.ps = true
  few : D.ps.length ≤ 100
/-! ### the text's tables -/
def S (x : String) : Str := Str.ofString x
def namesL : List (List Str) := [[S "set", S "made", S "written"], [S "sum", S "used", S "made", S "written"], [S "mul", S "used", S "made", S "written"], [S "load", S "used", S "fetched", S "written"],
  [S "store", S "used a", S "used b", S "put"], [S "zero", S "used", S "decided"], [S "go", S "decided"], [S "out", S "used", S "shown"]]
def strs_ (l : List Str) : PyData := .tuple (l.map .str)
def namesD : PyData := .tuple (namesL.map strs_)
def writingL : List Str := [S "set", S "sum", S "mul", S "load"]
def usersL : List (Str × Str) := [(S "sum", S "a"), (S "mul", S "a"), (S "load", S "a"), (S "store", S "a"), (S "store", S "b"), (S "zero", S "a"), (S "out", S "a")]
def pairS (p : Str × Str) : PyData := .tuple [.str p.1, .str p.2]
def usersD : PyData := .tuple (usersL.map pairS)
def effectsL : List Str := [S "set", S "sum", S "mul", S "load", S "store", S "out"]
structure Tabs_ (K : Fg) (mg : Str → Option Value) : Prop where
  names : KC K mg "NAMES" (.d namesD)
  writing : KC K mg "WRITING" (.d (strs_ writingL))
  users : KC K mg "USERS" (.d usersD)
  effects : KC K mg "EFFECTS" (.d (strs_ effectsL))
  place : KC K mg "MOST_PLACE" (.d (.int 7))
  apart : KC K mg "MOST_APART" (.d (.int 7))
/-! ### entries -/
inductive Ent where
  | value (k : Str) (u : Str × Str) (d : Int)
  | order (k l : Str) (d : Int)
  | mem (b : Bool) (d : Int)
  | wrong (j e : Str) (d : Int)
  deriving DecidableEq
def Ent.d : Ent → Int
  | .value _ _ d => d
  | .order _ _ d => d
  | .mem _ d => d
  | .wrong _ _ d => d
def Ent.row : Ent → List PyData
  | .value k u d => [.str (S "value"), .str k, .str u.1, .str u.2, .int d]
  | .order k l d => [.str (S "order"), .str k, .str l, .int d]
  | .mem true d => [.str (S "memory"), .str (S "store"), .str (S "load"), .int d]
  | .mem false d => [.str (S "memory"), .str (S "load"), .str (S "store"), .int d]
  | .wrong j e d => [.str (S "wrong"), .str j, .str e, .int d]
def Ent.enc (e : Ent) : PyData := .tuple e.row
def jumpsL : List Str := [S "zero", S "go"]
def Ent.okB : Ent → Bool
  | .value k u d => writingL.contains k && (usersL.contains u && (decide (1 ≤ d) && decide (d ≤ 7)))
  | .order k l d => writingL.contains k && (writingL.contains l && (decide (1 ≤ d) && decide (d ≤ 7)))
  | .mem _ d => decide (1 ≤ d) && decide (d ≤ 7)
  | .wrong j e d => jumpsL.contains j && (effectsL.contains e && (decide (1 ≤ d) && decide (d ≤ 7)))
/-! ### places by their words -/
def whatOf (k w : Str) : Str := if k = S "load" ∧ w = S "made" then S "fetched" else w
def plI (k w : Str) : Nat × Nat := (namesL.findIdx fun r => r.head? == some k, (namesL.getD (namesL.findIdx fun r => r.head? == some k) []).idxOf (whatOf k w) - 1)
def Dsg.pla (D : Dsg) (k w : Str) : Int := (D.rows.getD (plI k w).1 []).getD (plI k w).2 0
/-- the table has this word of this kind -/
def plOk (k w : Str) : Bool := decide ((plI k w).1 < 8) && ((namesL.getD (plI k w).1 []).head? == some k && ((namesL.getD (plI k w).1 [])[(plI k w).2 + 1]? == some (whatOf k w) && (((List.range (plI k w).1).all fun i => !((namesL.getD i []).head? == some k)) &&
  (((List.range ((plI k w).2 + 1)).all fun m => !((namesL.getD (plI k w).1 [])[m]? == some (whatOf k w))) && (SeqAt.shaped (.str k) && SeqAt.shaped (.str w))))))
def usedW (l ro : Str) : Str := if l = S "store" then S "used " ++ ro else S "used"
def Dsg.inP (D : Dsg) (p : Int × Int) : Bool := D.ps.any fun q => decide (q.1 = p.1) && decide (q.2 = p.2)
def Dsg.eff (D : Dsg) (e : Str) : Int := if e = S "store" then D.pla e (S "put") else if e = S "out" then D.pla e (S "shown") else D.pla e (S "written")
/-- an entry is open -/
def opn (D : Dsg) : Ent → Bool
  | .value k u d => let wr := D.pla k (S "written"); let mk := D.pla k (S "made"); let us := D.pla u.1 (usedW u.1 u.2)
    !(decide (wr < D.rd + d) || (D.sm && decide (D.rd + d = wr))) && (!D.inP (us + d, us) || decide (us + d ≤ mk))
  | .order k l d => decide (d + D.pla l (S "written") < D.pla k (S "written"))
  | .mem true d => let f := D.pla (S "load") (S "fetched"); let p := D.pla (S "store") (S "put"); !(decide (p < f + d) || (D.sm && decide (f + d = p)))
  | .mem false d => let f := D.pla (S "load") (S "fetched"); let p := D.pla (S "store") (S "put"); decide (d + p < f) || (D.sm && decide (d + p = f))
  | .wrong j e d => decide (d + D.eff e ≤ D.pla j (S "decided"))
theorem names_len : namesL.length = 8 := rfl
end Kp
end
section
set_option Elab.async false
set_option linter.all false
set_option maxRecDepth 100000
set_option maxHeartbeats 4000000
namespace Kp
open PySem PySem.Spec PyProof.Rows L2
section
variable {P : Program} {w : World} {K : Fg} {mg : Str → Option Value} {base : Heap}
/-! is_place -/
theorem sc19 : FnScope ["value"] ["value"] (defScope (top 19)) := ⟨rfl, rfl, rfl, by decide +kernel, rfl, by decide +kernel, by decide +kernel⟩
def rPlaceB : List Sl → Res → Prop := fun cs r => ∃ d, cs = [.d d] ∧ r = .val (.d (.bool (inB d 0 7)))
abbrev DIsIn (P : Program) (w : World) (K : Fg) (mg : Str → Option Value) (base : Heap) : Prop := Dfn P w K mg base 2 "is_in" ["value", "least", "most"] (spR K rIsIn)
abbrev DIsList (P : Program) (w : World) (K : Fg) (mg : Str → Option Value) (base : Heap) : Prop := Dfn P w K mg base 1 "is_list" ["value", "least", "most"] (spR K rIsList)
abbrev DIsPlace (P : Program) (w : World) (K : Fg) (mg : Str → Option Value) (base : Heap) : Prop := Dfn P w K mg base 3 "is_place" ["value"] (spR K rPlaceB)
theorem f_isplace (T : Tabs_ K mg) (F : Df K mg "is_place" (top 19) ["value"]) (G : DIsIn P w K mg base) : DIsPlace P w K mg base := by
  refine dfn_of F sc19 ?_ ?_
  · rintro cs r ⟨d, rfl, _⟩; rfl
  · rintro f cdv B outer s H E cs r hr ⟨d, rfl, rfl⟩ tk
    exact db_ret (de_call G hr (da_cons (de_var 0) (da_cons de_int (da_cons (de_glob T.place) da_nil))) ⟨_, _, _, rfl, rfl⟩)
/-! are_places -/
abbrev N20 : List Str := ["read", "places", "index", "many", "own", "sums", "mul", "load", "store", "zero", "go", "out", "one"]
theorem sc20 : FnScope N20 ["read", "places"] (defScope (top 20)) := ⟨rfl, rfl, rfl, by decide +kernel, rfl, by decide +kernel, by decide +kernel⟩
def rArePlaces : List Sl → Res → Prop := fun cs r => ∃ D : Dsg, D.Ok ∧ cs = [.d (.int D.rd), .d D.pl] ∧ r = .val (.d (.bool true))
abbrev DArePlaces (P : Program) (w : World) (K : Fg) (mg : Str → Option Value) (base : Heap) : Prop := Dfn P w K mg base 4 "are_places" ["read", "places"] (spR K rArePlaces)
theorem rows_len (D : Dsg) {i : Nat} (h : i < 8) : ((namesL.getD i []).length : Int) - 1 = ((D.rows.getD i []).length : Int) := by
  match i, h with
  | 0, _ => rfl
  | 1, _ => rfl
  | 2, _ => rfl
  | 3, _ => rfl
  | 4, _ => rfl
  | 5, _ => rfl
  | 6, _ => rfl
  | 7, _ => rfl
  | n + 8, h => omega
theorem row_ok {D : Dsg} (h : D.rows.all (fun r => r.all pB) = true) {i j : Nat} (hi : i < 8) (hj : j < (D.rows.getD i []).length) : inB (.int ((D.rows.getD i []).getD j 0)) 0 7 = true := by
  have hm : D.rows.getD i [] ∈ D.rows := by
    rw [List.getD_eq_getElem?_getD, List.getElem?_eq_getElem (show i < D.rows.length from hi)]
    exact List.getElem_mem _
  have h1 := List.all_eq_true.mp h _ hm
  have h2 := List.all_eq_true.mp h1 ((D.rows.getD i []).getD j 0) (by
    generalize D.rows.getD i [] = r at hj
    rw [List.getD_eq_getElem?_getD, List.getElem?_eq_getElem hj]
    exact List.getElem_mem _)
  exact h2
theorem all_true {n : Nat} {b : Nat → Bool} (h : ∀ i, i < n → b i = true) : (List.range n).all b = true := List.all_eq_true.mpr fun i hi => h i (List.mem_range.mp hi)
theorem row_few (D : Dsg) {i : Nat} (h : i < 8) : (D.rows.getD i []).length ≤ 3 := by
  match i, h with
  | 0, _ => exact Nat.le_of_ble_eq_true rfl
  | 1, _ => exact Nat.le_of_ble_eq_true rfl
  | 2, _ => exact Nat.le_of_ble_eq_true rfl
  | 3, _ => exact Nat.le_of_ble_eq_true rfl
  | 4, _ => exact Nat.le_of_ble_eq_true rfl
  | 5, _ => exact Nat.le_of_ble_eq_true rfl
  | 6, _ => exact Nat.le_of_ble_eq_true rfl
  | 7, _ => exact Nat.le_of_ble_eq_true rfl
  | n + 8, h => omega
theorem f_areplaces (N : Nms mg) (T : Tabs_ K mg) (F : Df K mg "are_places" (top 20) ["read", "places"]) (GL : DIsList P w K mg base) (GP : DIsPlace P w K mg base) : DArePlaces P w K mg base := by
  refine dfn_of F sc20 ?_ ?_
  · rintro cs r ⟨D, _, rfl, _⟩; rfl
  · rintro f cdv B outer s H E cs r hr ⟨D, ok, rfl, rfl⟩ tk
    have nd := sc20.nd
    refine db_if (dt_not (dt_val (de_call GL (hr.mono (by decide)) (da_cons (de_var 1) (da_cons (de_len N (de_glob T.names)) (da_cons (de_len N (de_glob T.names)) da_nil))) ⟨_, _, _, rfl, rfl⟩))) (fun h => by cases h) (fun _ => db_pop ?_)
    refine db_for (δL := [some (.d (.int D.rd)), some (.d D.pl), none, none, none, none, none, none, none, none, none, none, none]) (fun _ => ()) (passes_of rfl) rfl (di_rng1 N (de_len N (de_glob T.names)) ⟨by decide, by decide⟩) (Wk.refl _) (fun i _ => dg_name 2 nd) (δe := fun i => [some (.d (.int D.rd)), some (.d D.pl), some (.d (.int i)), some (.d (.int ((D.rows.getD i []).length : Int))), none, none, none, none, none, none, none, none, none]) (fun i hi => ?_) (fun i hi => ?_) ?_
    · have hx : atI (namesL.map strs_) ((i : Nat) : Int) = some (strs_ (namesL.getD i [])) := atI_map hi
      have hy : atI (D.rows.map itup) ((i : Nat) : Int) = some (itup (D.rows.getD i [])) := atI_map hi
      refine db_set 3 nd (DE.eq (de_sub (de_len (ds := (namesL.getD i []).map .str) N (de_ix (de_glob T.names) (de_var 2) hx)) de_int) (by rw [List.length_map, rows_len D hi])) ?_
      refine db_if (z := false) (DT.eq (dt_or (dt_not (dt_val (de_call GL (hr.mono (by decide)) (da_cons (de_ix (de_var 1) (de_var 2) hy) (da_cons (de_var 3) (da_cons (de_var 3) da_nil))) ⟨_, _, _, rfl, rfl⟩)))
        (fun _ => dw_or1 (dt_not (dt_val (de_allc (j := 12) (b := fun _ => true) N rfl nd (blkOk_by (N := N20) (sc := defScope (top 20)) (by decide +kernel)) (di_tupM .int 0 (de_ix (de_var 1) (de_var 2) hy)) (by have := row_few D hi; omega)
          (fun j hj sh H C cl fp => DE.eq (de_call GP (hr.mono (by decide)) (da_cons (de_var 12) da_nil) ⟨_, rfl, rfl⟩) (by rw [row_ok ok.pl hi hj]))))))) ?_) (fun h => by cases h) (fun _ => db_pop (db_pop db_nil))
      · have e : lenB (itup (D.rows.getD i [])) ((D.rows.getD i []).length : Int) ((D.rows.getD i []).length : Int) = true := by
          show (decide (_ ≤ (((D.rows.getD i []).map PyData.int).length : Int)) && decide ((((D.rows.getD i []).map PyData.int).length : Int) ≤ _)) = true
          rw [List.length_map]; simp
        rw [e, all_true fun _ _ => rfl]
        rfl
    · repeat (first | exact Wk.refl _ | refine wk_keep ?_ | refine wk_drop ?_)
    · refine db_asg (de_var 1) (dg_tup rfl (dgs_cons (dg_name 4 nd) (dgs_cons (dg_name 5 nd) (dgs_cons (dg_name 6 nd) (dgs_cons (dg_name 7 nd) (dgs_cons (dg_name 8 nd) (dgs_cons (dg_name 9 nd) (dgs_cons (dg_name 10 nd) (dgs_cons (dg_name 11 nd) dgs_nil))))))))) ?_
      refine db_if (z := false) (DT.eq (dt_not (dt_and (dt_lt (de_var 0) (de_ix (de_var 4) de_int)) fun _ => dw_and (dt_lt (de_ix (de_var 4) de_int) (de_ix (de_var 4) de_int)) fun _ => dw_and (dt_lele (de_var 0) (de_ix (de_var 9) de_int) (de_ix (de_var 9) de_int)) fun _ => dw_and1 (dt_lele (de_var 0) (de_ix (de_var 11) de_int) (de_ix (de_var 11) de_int)))) ?_) (fun h => by cases h) (fun _ => db_pop ?_)
      · rw [ok.s.1, ok.s.2, ok.z.1, ok.z.2, ok.o.1, ok.o.2]; rfl
      refine db_if (z := false) (DT.eq (dt_not (dt_val (de_allc (j := 12) (b := fun _ => true) N rfl nd (blkOk_by (N := N20) (sc := defScope (top 20)) (by decide +kernel)) (di_tupM (l := [[D.u1, D.u2, D.u3], [D.m1, D.m2, D.m3], [D.l1, D.l2, D.l3]]) itup [] (de_tup (da_cons (de_var 5) (da_cons (de_var 6) (da_cons (de_var 7) da_nil))))) (Nat.le_of_ble_eq_true rfl) (fun i hi sh H C cl fp => ?_)))) (by rfl)) (fun h => by cases h) (fun _ => db_pop ?_)
      · match i, hi with
        | 0, _ => exact DE.eq (de_lelelt (de_var 0) (de_ix (de_var 12) de_int) (de_ix (de_var 12) de_int) (de_ix (de_var 12) de_int)) (by rw [ok.u.1, ok.u.2.1, ok.u.2.2]; rfl)
        | 1, _ => exact DE.eq (de_lelelt (de_var 0) (de_ix (de_var 12) de_int) (de_ix (de_var 12) de_int) (de_ix (de_var 12) de_int)) (by rw [ok.m.1, ok.m.2.1, ok.m.2.2]; rfl)
        | 2, _ => exact DE.eq (de_lelelt (de_var 0) (de_ix (de_var 12) de_int) (de_ix (de_var 12) de_int) (de_ix (de_var 12) de_int)) (by rw [ok.l.1, ok.l.2.1, ok.l.2.2]; rfl)
        | n + 3, h => exact absurd h (by show ¬ n + 3 < 3; omega)
      refine db_eq (db_ret (de_allc (j := 12) (b := fun _ => true) N rfl nd (blkOk_by (N := N20) (sc := defScope (top 20)) (by decide +kernel)) (di_tupM (l := [D.t1, D.t2]) .int 0 (de_cut (es := [.int D.t1, .int D.t2]) (de_var 8) do_none (do_some de_int))) (Nat.le_of_ble_eq_true rfl) (fun i hi sh H C cl fp => ?_))) (by rfl)
      match i, hi with
      | 0, _ => exact DE.eq (de_lelt (de_var 0) (de_var 12) (de_ix (de_var 8) de_int)) (by show Sl.d (.bool (decide (D.rd ≤ D.t1) && decide (D.t1 < D.t3))) = _; rw [ok.t.1, ok.t.2.1]; rfl)
      | 1, _ => exact DE.eq (de_lelt (de_var 0) (de_var 12) (de_ix (de_var 8) de_int)) (by show Sl.d (.bool (decide (D.rd ≤ D.t2) && decide (D.t2 < D.t3))) = _; rw [ok.t.2.2.1, ok.t.2.2.2]; rfl)
      | n + 2, h => exact absurd h (by show ¬ n + 2 < 2; omega)
end
end Kp
end
section
set_option Elab.async false
set_option linter.all false
set_option maxRecDepth 100000
set_option maxHeartbeats 4000000
namespace Kp
open PySem PySem.Spec PyProof.Rows L2
section
variable {A : Amb} {X : Cx} {δ : Dl} {s s1 s2 : A.S}
/-! < of alike data -/
def rLtD (K : Fg) : R2 := fun x y H Q => ∃ d e, Dp K H x d ∧ Dp K H y e ∧ PySem.W.alike d e = true ∧ d ≠ .none ∧ d.depth ≤ 64 ∧ Q (.bl (PySem.W.dataLt d e)) H
theorem op_ltD (hu : X.A.units + 65 < cLine) : OpR X (compareOp .Lt) (rLtD X.K) := by
  intro pins s σ H x y v u Q I rx ry h
  obtain ⟨d, e, hd, he, al, nn, dp, q⟩ := h
  obtain ⟨as, k1⟩ := Dp.reads I d x v hd rx
  obtain ⟨bs, k2⟩ := Dp.reads I e y u he ry
  have hm : min d.depth e.depth ≤ d.depth := Nat.min_le_left _ _
  exact PySem.W.lt_data k1 k2 al nn (by omega) ⟨.bl _, H, I, rfl, q⟩
theorem od_ltD {K : Fg} {d e : PyData} (al : PySem.W.alike d e = true) (nn : d ≠ .none) (dp : d.depth ≤ 64) : OpD A K (rLtD K) (.d d) (.d e) (.d (.bool (PySem.W.dataLt d e))) := fun x y w s iv dx dy Q q =>
  ⟨d, e, dp_mono w.sub dx, dp_mono w.sub dy, al, nn, dp, q _ w (Le.refl w) iv (.bl _)⟩
theorem de_ltD {a b : Expr} {d e : PyData} {pos : Pos} {k : Nat} (hr : Room k X.A) (ha : DE A X δ s a (.d d) s1) (hb : DE A X δ s1 b (.d e) s2) (al : PySem.W.alike d e = true) (nn : d ≠ .none) (dp : d.depth ≤ 64) : DE A X δ s (.Compare a [.Lt] [b] pos) (.d (.bool (PySem.W.dataLt d e))) s2 :=
  de_cmp (op_ltD (room65 hr)) (od_ltD al nn dp) (nomark _) ha hb
end
section
variable {P : Program} {w : World} {K : Fg} {mg : Str → Option Value} {base : Heap}
/-! is_path -/
def ltD (b a : PyData) : Bool := match b, a with
  | .int j, .int i => decide (j < i)
  | _, _ => false
def isPathB (d : PyData) : Bool := match d with
  | .tuple [a, b] => inB a 0 7 && (inB b 0 7 && ltD b a)
  | _ => false
theorem inB_int {d : PyData} {l m : Int} (h : inB d l m = true) : ∃ i, d = .int i := by
  cases d <;> first | exact ⟨_, rfl⟩ | cases h
theorem lenB_two {d : PyData} (h : lenB d 2 2 = true) : ∃ a b, d = .tuple [a, b] := by
  cases d with
  | tuple xs =>
    have h : (decide ((2 : Int) ≤ (xs.length : Int)) && decide ((xs.length : Int) ≤ 2)) = true := h
    simp only [Bool.and_eq_true, decide_eq_true_eq] at h
    match xs, h with
    | [a, b], _ => exact ⟨a, b, rfl⟩
    | [], h => exact absurd h.1 (by decide)
    | [_], h => exact absurd h.1 (by simp)
    | _ :: _ :: _ :: r, h => exact absurd h.2 (by simp only [List.length_cons]; omega)
  | _ => cases h
theorem isPath_no {d : PyData} (h : lenB d 2 2 = false) : isPathB d = false := by
  unfold isPathB
  split
  · cases h
  · rfl
theorem sc21 : FnScope ["value"] ["value"] (defScope (top 21)) := ⟨rfl, rfl, rfl, by decide +kernel, rfl, by decide +kernel, by decide +kernel⟩
def rIsPath : List Sl → Res → Prop := fun cs r => ∃ d, cs = [.d d] ∧ r = .val (.d (.bool (isPathB d)))
abbrev DIsPath (P : Program) (w : World) (K : Fg) (mg : Str → Option Value) (base : Heap) : Prop := Dfn P w K mg base 4 "is_path" ["value"] (spR K rIsPath)
theorem f_ispath (F : Df K mg "is_path" (top 21) ["value"]) (GL : DIsList P w K mg base) (GP : DIsPlace P w K mg base) : DIsPath P w K mg base := by
  refine dfn_of F sc21 ?_ ?_
  · rintro cs r ⟨d, rfl, _⟩; rfl
  · rintro f cdv B outer s H E cs r hr ⟨d, rfl, rfl⟩ tk
    cases hl : lenB d 2 2 with
    | false =>
      rw [isPath_no hl]
      exact db_ret (de_andF (de_call GL (hr.mono (by decide)) (da_cons (de_var 0) (da_cons de_int (da_cons de_int da_nil))) ⟨_, _, _, rfl, rfl⟩) hl)
    | true =>
      obtain ⟨a, b, rfl⟩ := lenB_two hl
      refine db_eq (db_ret (de_and (de_call GL (hr.mono (by decide)) (da_cons (de_var 0) (da_cons de_int (da_cons de_int da_nil))) ⟨_, _, _, rfl, rfl⟩) fun _ => de_and (de_call GP hr (da_cons (de_ix (de_var 0) de_int) da_nil) ⟨_, rfl, rfl⟩) fun ha => de_and (y := ltD b a) (de_call GP hr (da_cons (de_ix (de_var 0) de_int) da_nil) ⟨_, rfl, rfl⟩) fun hb => ?_)) (by rw [hl]; rfl)
      obtain ⟨i, rfl⟩ := inB_int ha
      obtain ⟨j, rfl⟩ := inB_int hb
      exact de_one (de_lt (de_ix (de_var 0) de_int) (de_ix (de_var 0) de_int))
/-! rises -/
abbrev N22 : List Str := ["some", "index"]
theorem sc22 : FnScope N22 ["some"] (defScope (top 22)) := ⟨rfl, rfl, rfl, by decide +kernel, rfl, by decide +kernel, by decide +kernel⟩
def risesD (ds : List PyData) : Bool := (List.range (ds.length - 1)).all fun i => PySem.W.dataLt (ds.getD i .none) (ds.getD (i + 1) .none)
def rRises : List Sl → Res → Prop := fun cs r => ∃ ds : List PyData, cs = [.d (.tuple ds)] ∧ ds.length ≤ 1000 ∧ (∀ d ∈ ds, ∀ e ∈ ds, PySem.W.alike d e = true ∧ d ≠ .none ∧ d.depth ≤ 64) ∧ r = .val (.d (.bool (risesD ds)))
abbrev DRises (P : Program) (w : World) (K : Fg) (mg : Str → Option Value) (base : Heap) : Prop := Dfn P w K mg base 1 "rises" ["some"] (spR K rRises)
theorem getD_mem {ds : List PyData} {i : Nat} (h : i < ds.length) : ds.getD i .none ∈ ds := by
  rw [List.getD_eq_getElem?_getD, List.getElem?_eq_getElem h]
  exact List.getElem_mem _
theorem f_rises (N : Nms mg) (F : Df K mg "rises" (top 22) ["some"]) : DRises P w K mg base := by
  refine dfn_of F sc22 ?_ ?_
  · rintro cs r ⟨d, rfl, _⟩; rfl
  · rintro f cdv B outer s H E cs r hr ⟨ds, rfl, hlen, hal, rfl⟩ tk
    have nd := sc22.nd
    refine db_eq (db_ret (de_allc (j := 1) (b := fun i => PySem.W.dataLt (ds.getD i .none) (ds.getD (i + 1) .none)) N rfl nd (blkOk_by (N := N22) (sc := defScope (top 22)) (by decide +kernel)) (DI.eq (m := ds.length - 1) (item' := fun i => .d (.int (((i + 1 : Nat) : Int)))) (di_rng2 N de_int (de_len N (de_var 0)) ⟨by decide, by decide, by omega, by omega⟩) (by omega) (fun i _ => by show Sl.d (.int (1 + (i : Int))) = _; congr 2; omega)) (by omega) (fun i hi sh H C cl fp => ?_))) rfl
    have h1 : i < ds.length := by omega
    have h2 : i + 1 < ds.length := by omega
    have e1 : atI ds (((i + 1 : Nat) : Int) - 1) = some (ds.getD i .none) := by
      rw [show (((i + 1 : Nat) : Int) - 1) = ((i : Nat) : Int) by omega]
      exact atI_get2 h1
    have hh := hal _ (getD_mem h1) _ (getD_mem h2)
    exact de_ltD hr (de_ix (de_var 0) (de_sub (de_var 1) de_int) e1) (de_ix (de_var 0) (de_var 1) (atI_get2 h2)) hh.1 hh.2.1 hh.2.2
end
end Kp
end
section
set_option Elab.async false
set_option linter.all false
set_option maxRecDepth 100000
set_option maxHeartbeats 4000000
namespace Kp
open PySem PySem.Spec PyProof.Rows L2
/-! data of pairs, of entries -/
theorem pth_depth (p : Int × Int) : (pth p).depth = 1 := by simp [pth, PyData.depth, PyData.depthAll]
theorem pth_alike (p q : Int × Int) : PySem.W.alike (pth p) (pth q) = true := by simp [pth, PySem.W.alike, PySem.W.alikeAll]
theorem pth_lt (p q : Int × Int) : PySem.W.dataLt (pth p) (pth q) = ltP p q := by
  unfold pth ltP
  rw [PySem.W.dataLt_ii]
  by_cases h1 : p.1 < q.1 <;> by_cases h2 : p.1 = q.1 <;> by_cases h3 : p.2 < q.2 <;> simp [h1, h2, h3]
theorem pth_ok (p : Int × Int) : isPathB (pth p) = okP p := rfl
theorem getD_map {β : Type} {l : List β} {f : β → PyData} {d : β} {i : Nat} (h : i < l.length) : (l.map f).getD i .none = f (l.getD i d) := by
  rw [List.getD_eq_getElem?_getD, List.getElem?_map, List.getD_eq_getElem?_getD, List.getElem?_eq_getElem h]
  rfl
theorem all_congr {n : Nat} {b c : Nat → Bool} (h : ∀ i, i < n → b i = c i) : (List.range n).all b = (List.range n).all c := by
  rw [Bool.eq_iff_iff, List.all_eq_true, List.all_eq_true]
  exact ⟨fun k i hi => by rw [← h i (List.mem_range.mp hi)]; exact k i hi, fun k i hi => by rw [h i (List.mem_range.mp hi)]; exact k i hi⟩
theorem rises_pth (ps : List (Int × Int)) : risesD (ps.map pth) = risesP ps := by
  unfold risesD risesP
  rw [List.length_map]
  refine all_congr fun i hi => ?_
  rw [getD_map (d := (0, 0)) (by omega), getD_map (d := (0, 0)) (by omega), pth_lt]
section
variable {P : Program} {w : World} {K : Fg} {mg : Str → Option Value} {base : Heap}
/-! are_paths -/
abbrev N23 : List Str := ["value", "one"]
theorem sc23 : FnScope N23 ["value"] (defScope (top 23)) := ⟨rfl, rfl, rfl, by decide +kernel, rfl, by decide +kernel, by decide +kernel⟩
def okPs (ps : List (Int × Int)) : Prop := ps.all okP = true ∧ risesP ps = true ∧ ps.length ≤ 100
def rArePaths : List Sl → Res → Prop := fun cs r => ∃ ps, okPs ps ∧ cs = [.d (pths ps)] ∧ r = .val (.d (.bool true))
abbrev DArePaths (P : Program) (w : World) (K : Fg) (mg : Str → Option Value) (base : Heap) : Prop := Dfn P w K mg base 5 "are_paths" ["value"] (spR K rArePaths)
theorem getD_all {β : Type} {l : List β} {p : β → Bool} {d : β} (h : l.all p = true) {i : Nat} (hi : i < l.length) : p (l.getD i d) = true := by
  rw [List.getD_eq_getElem?_getD, List.getElem?_eq_getElem hi]
  exact List.all_eq_true.mp h _ (List.getElem_mem _)
theorem f_arepaths (N : Nms mg) (F : Df K mg "are_paths" (top 23) ["value"]) (GI : DIsPath P w K mg base) (GR : DRises P w K mg base) : DArePaths P w K mg base := by
  refine dfn_of F sc23 ?_ ?_
  · rintro cs r ⟨d, _, rfl, _⟩; rfl
  · rintro f cdv B outer s H E cs r hr ⟨ps, ok, rfl, rfl⟩ tk
    have nd := sc23.nd
    refine db_eq (db_ret (de_and (de_isi N (de_var 0) N.tuple boot_tuple (.inr (.inr (.inr (.inl rfl))))) fun _ => de_and (de_allc (j := 1) (b := fun _ => true) N rfl nd (blkOk_by (N := N23) (sc := defScope (top 23)) (by decide +kernel)) (di_tupM pth (0, 0) (de_var 0)) (by have := ok.2.2; omega) (fun i hi sh H C cl fp => ?_)) fun _ => de_one (de_call GR (hr.mono (by decide)) (da_cons (de_var 0) da_nil) ⟨ps.map pth, rfl, by rw [List.length_map]; have := ok.2.2; omega, ?_, rfl⟩))) ?_
    · exact DE.eq (de_call GI hr (da_cons (de_var 1) da_nil) ⟨_, rfl, rfl⟩) (by rw [pth_ok, getD_all ok.1 hi])
    · intro d hd e he
      obtain ⟨p, _, rfl⟩ := List.mem_map.mp hd
      obtain ⟨q, _, rfl⟩ := List.mem_map.mp he
      exact ⟨pth_alike p q, (fun z => nomatch z), by rw [pth_depth]; decide⟩
    · rw [rises_pth, ok.2.1, all_true fun _ _ => rfl]
      rfl
/-! is_entry_in -/
abbrev N24 : List Str := ["value", "rule", "first", "second", "one"]
theorem sc24 : FnScope N24 ["value"] (defScope (top 24)) := ⟨rfl, rfl, rfl, by decide +kernel, rfl, by decide +kernel, by decide +kernel⟩
/-- asked of value entries, of one other, of what is no tuple -/
def rIsEntry : List Sl → Res → Prop := fun cs r => (∃ k u d, (Ent.value k u d).okB = true ∧ cs = [.d (Ent.value k u d).enc] ∧ r = .val (.d (.bool true))) ∨
  (cs = [.d (Ent.order (S "set") (S "sum") 1).enc] ∧ r = .val (.d (.bool true))) ∨ ∃ d, lenB d 4 5 = false ∧ cs = [.d d] ∧ r = .val (.d (.bool false))
abbrev DIsEntry (P : Program) (w : World) (K : Fg) (mg : Str → Option Value) (base : Heap) : Prop := Dfn P w K mg base 3 "is_entry_in" ["value"] (spR K rIsEntry)
theorem any_str {l : List Str} {x : Str} (h : l.contains x = true) : (l.map PyData.str).any (fun z => PyData.eqv z (.str x)) = true := by
  rw [List.any_eq_true]
  have hm : x ∈ l := by simpa using h
  refine ⟨.str x, List.mem_map.mpr ⟨x, hm, rfl⟩, ?_⟩
  simp [PyData.eqv]
theorem any_pair {l : List (Str × Str)} {x : Str × Str} (h : l.contains x = true) : (l.map pairS).any (fun z => PyData.eqv z (pairS x)) = true := by
  rw [List.any_eq_true]
  have hm : x ∈ l := by simpa using h
  refine ⟨pairS x, List.mem_map.mpr ⟨x, hm, rfl⟩, ?_⟩
  simp [pairS, PyData.eqv, PyData.eqvAll]
theorem wr_shaped {k : Str} (h : writingL.contains k = true) : SeqAt.shaped (.str k) = true := by
  have hm : k ∈ writingL := by simpa using h
  have := (by decide +kernel : ∀ k ∈ writingL, SeqAt.shaped (.str k) = true)
  exact this k hm
theorem us_shaped {u : Str × Str} (h : usersL.contains u = true) : SeqAt.shaped (pairS u) = true := by
  have hm : u ∈ usersL := by simpa using h
  have := (by decide +kernel : ∀ u ∈ usersL, SeqAt.shaped (pairS u) = true)
  exact this u hm
theorem ent_ok {k : Str} {u : Str × Str} {d : Int} (h : (Ent.value k u d).okB = true) : writingL.contains k = true ∧ usersL.contains u = true ∧ 1 ≤ d ∧ d ≤ 7 := by
  have h : (writingL.contains k && (usersL.contains u && (decide (1 ≤ d) && decide (d ≤ 7)))) = true := h
  simp only [Bool.and_eq_true, decide_eq_true_eq] at h
  exact ⟨h.1, h.2.1, h.2.2.1, h.2.2.2⟩
theorem f_isentry (N : Nms mg) (T : Tabs_ K mg) (F : Df K mg "is_entry_in" (top 24) ["value"]) (GL : DIsList P w K mg base) (GI : DIsIn P w K mg base) : DIsEntry P w K mg base := by
  refine dfn_of F sc24 ?_ ?_
  · rintro cs r (⟨_, _, _, _, rfl, _⟩ | ⟨rfl, _⟩ | ⟨_, _, rfl, _⟩) <;> rfl
  · rintro f cdv B outer s H E cs r hr h tk
    have nd := sc24.nd
    rcases h with ⟨k, u, d, ok, rfl, rfl⟩ | ⟨rfl, rfl⟩ | ⟨d, hd, rfl, rfl⟩
    · obtain ⟨hk, hu, h1, h7⟩ := ent_ok ok
      refine db_if (z := false) (DT.eq (dt_or (dt_not (dt_val (de_call GL (hr.mono (by decide)) (da_cons (de_var 0) (da_cons de_int (da_cons de_int da_nil))) ⟨_, _, _, rfl, rfl⟩)))
        (fun _ => dw_or1 (dt_not (dt_val (de_allc (j := 4) (b := fun _ => true) N rfl nd (blkOk_by (N := N24) (sc := defScope (top 24)) (by decide +kernel)) (di_tupM (l := [S "value", k, u.1, u.2]) .str (S "") (de_cut (es := [.str (S "value"), .str k, .str u.1, .str u.2]) (de_var 0) do_none (do_some (de_neg de_int)))) (Nat.le_of_ble_eq_true rfl)
          (fun j hj sh H C cl fp => DE.eq (de_isi N (de_var 4) N.str (by decide +kernel) (.inr (.inr (.inl rfl)))) (by rfl))))))) (by rfl)) (fun h => by cases h) (fun _ => db_pop ?_)
      refine db_if (z := false) (DT.eq (dt_not (dt_val (de_call GI (hr.mono (by decide)) (da_cons (de_ix (de_var 0) (de_neg de_int)) (da_cons de_int (da_cons (de_glob T.apart) da_nil))) ⟨_, _, _, rfl, rfl⟩))) (by
        show (!(decide (1 ≤ d) && decide (d ≤ 7))) = false
        rw [decide_eq_true h1, decide_eq_true h7]; rfl)) (fun h => by cases h) (fun _ => db_pop ?_)
      refine db_asg (de_cut (es := [.str (S "value"), .str k, .str u.1]) (de_var 0) do_none (do_some de_int)) (dg_tup rfl (dgs_cons (dg_name 1 nd) (dgs_cons (dg_name 2 nd) (dgs_cons (dg_name 3 nd) dgs_nil)))) ?_
      refine db_if (z := true) (DT.eq (dt_eq hr (de_len N (de_var 0)) de_int (by rfl) (by rfl)) (by rfl)) (fun _ => ?_) (fun h => by cases h)
      refine db_eq (db_ret (de_and (DE.eq (de_eq hr (de_var 1) de_str (by decide +kernel) (by decide +kernel)) (c' := .d (.bool true)) (bq (by decide +kernel))) fun _ => de_and (DE.eq (de_isT hr (de_var 2) (de_glob T.writing) (wr_shaped hk) (by decide +kernel)) (by rw [any_str hk])) fun _ => de_one (DE.eq (de_isT hr (de_tup (ds := [.str u.1, .str u.2]) (da_cons (de_var 3) (da_cons (de_ix (de_var 0) de_int) da_nil))) (de_glob T.users) (us_shaped hu) (by decide +kernel)) ?_))) (by rfl)
      exact congrArg (fun b => Sl.d (.bool b)) (any_pair hu)
    · refine db_if (z := false) (DT.eq (dt_or (dt_not (dt_val (de_call GL (hr.mono (by decide)) (da_cons (de_var 0) (da_cons de_int (da_cons de_int da_nil))) ⟨_, _, _, rfl, rfl⟩)))
        (fun _ => dw_or1 (dt_not (dt_val (de_allc (j := 4) (b := fun _ => true) N rfl nd (blkOk_by (N := N24) (sc := defScope (top 24)) (by decide +kernel)) (di_tupM (l := [S "order", S "set", S "sum"]) .str (S "") (de_cut (es := [.str (S "order"), .str (S "set"), .str (S "sum")]) (de_var 0) do_none (do_some (de_neg de_int)))) (Nat.le_of_ble_eq_true rfl)
          (fun j hj sh H C cl fp => DE.eq (de_isi N (de_var 4) N.str (by decide +kernel) (.inr (.inr (.inl rfl)))) (by rfl))))))) (by rfl)) (fun h => by cases h) (fun _ => db_pop ?_)
      refine db_if (z := false) (DT.eq (dt_not (dt_val (de_call GI (hr.mono (by decide)) (da_cons (de_ix (de_var 0) (de_neg de_int)) (da_cons de_int (da_cons (de_glob T.apart) da_nil))) ⟨_, _, _, rfl, rfl⟩))) (by rfl)) (fun h => by cases h) (fun _ => db_pop ?_)
      refine db_asg (de_cut (es := [.str (S "order"), .str (S "set"), .str (S "sum")]) (de_var 0) do_none (do_some de_int)) (dg_tup rfl (dgs_cons (dg_name 1 nd) (dgs_cons (dg_name 2 nd) (dgs_cons (dg_name 3 nd) dgs_nil)))) ?_
      refine db_if (z := false) (DT.eq (dt_eq hr (de_len N (de_var 0)) de_int (by decide +kernel) (by decide +kernel)) (by rfl)) (fun h => by cases h) (fun _ => db_pop ?_)
      refine db_if (z := true) (DT.eq (dt_eq hr (de_var 1) de_str (by decide +kernel) (by decide +kernel)) (by decide +kernel)) (fun _ => ?_) (fun h => by cases h)
      exact db_eq (db_ret (de_and (DE.eq (de_isT hr (de_var 2) (de_glob T.writing) (by decide +kernel) (by decide +kernel)) (by rw [any_str (by decide +kernel)])) fun _ => de_one (DE.eq (de_isT hr (de_var 3) (de_glob T.writing) (by decide +kernel) (by decide +kernel)) (by rw [any_str (by decide +kernel)])))) (by rfl)
    · refine db_if (z := true) (DT.eq (dt_or (y := true) (dt_not (dt_val (de_call GL (hr.mono (by decide)) (da_cons (de_var 0) (da_cons de_int (da_cons de_int da_nil))) ⟨_, _, _, rfl, rfl⟩))) (fun h => by rw [hd] at h; cases h)) (by rw [hd]; rfl)) (fun _ => db_ret de_bl) (fun h => by cases h)
end
end Kp
end
section
set_option Elab.async false
set_option linter.all false
set_option maxRecDepth 100000
set_option maxHeartbeats 4000000
namespace Kp
open PySem PySem.Spec PyProof.Rows L2
/-! ### defs that may come to their end -/
inductive OutR : Out A0 → Res → Prop where
  | same (r : Res) : OutR (ResOut A0 () r) r
  | fall (δ : Dl) : OutR (.nx δ ()) (.val (.d .none))
section
variable {P : Program} {w : World} {K : Fg} {mg : Str → Option Value} {base : Heap}
theorem dfn_ofN {x : Str} {st : Stmt} {N ps : List Str} {k : Nat} {R : List Sl → Res → Prop} (F : Df K mg x st ps) (S : FnScope N ps (defScope st)) (len : ∀ cs r, R cs r → cs.length = ps.length)
    (body : ∀ f cdv B outer s H E cs r, Room k (B.deeper (envOfC x (defScope st) s.heap.objs.size f cdv)) → R cs r → Takes (Cf P w K mg base N x st f cdv B outer s H E) (fun cls d _ H => E cls d H) →
      ∃ o, OutR o r ∧ DB A0 (Cf P w K mg base N x st f cdv B outer s H E) E (dstart N cs) () [defBody st] o) : Dfn P w K mg base (k + 1) x ps (spR K R) := by
  obtain ⟨f, fd, G, b, m⟩ := F.ex
  refine ⟨f, fd, ?_, b, m, G.kp⟩
  refine G.okX S (fun vs H Q E h => ?_) fun cdv B outer s H vs Q E hr h => ?_
  · obtain ⟨G', cs, r, _, _, dv, hR, _⟩ := h
    rw [dvs_len dv]; exact len cs r hR
  · obtain ⟨G', cs, r, nt, sub, dv, hR, hq⟩ := h
    have tk : Takes (Cf P w K mg base N x st f cdv B outer s H E) (fun cls d _ H => E cls d H) := takes_of rfl rfl rfl rfl
    refine ⟨wpS _ (defBody st), pss_w, ?_⟩
    obtain ⟨o, ho, hb⟩ := body f cdv B outer s H E cs r hr hR tk
    have h := hb (w0 sub nt) (L2.start N vs) (env_start dv) trivial { nx := fun _ H' => Q .non H', rt := Q } (by
      cases ho with
      | same r =>
        cases r with
        | val c => exact fun v w' l _ d => hq v w'.G w'.H w'.nt w'.sub l.g (fun x o e => l.h x o (fun z => z) e) l.f d
        | exc C => exact fun w' l _ => hq w'.H (fun x o e => l.h x o (fun z => z) e)
      | fall δ => exact fun σ' w' l _ _ => hq _ w'.G w'.H w'.nt w'.sub l.g (fun x o e => l.h x o (fun z => z) e) l.f .non)
    have : wpBs (Cf P w K mg base N x st f cdv B outer s H E) [defBody st] { nx := fun _ H' => Q .non H', rt := Q } (L2.start N vs) H := h
    exact this
/-! are_waits, is_design, need_.. -/
abbrev N25 : List Str := ["value", "one"]
theorem sc25 : FnScope N25 ["value"] (defScope (top 25)) := ⟨rfl, rfl, rfl, by decide +kernel, rfl, by decide +kernel, by decide +kernel⟩
def rAreWaits : List Sl → Res → Prop := fun cs r => cs = [.d (.tuple [])] ∧ r = .val (.d (.bool true))
abbrev DAreWaits (P : Program) (w : World) (K : Fg) (mg : Str → Option Value) (base : Heap) : Prop := Dfn P w K mg base 4 "are_waits" ["value"] (spR K rAreWaits)
theorem f_arewaits (N : Nms mg) (F : Df K mg "are_waits" (top 25) ["value"]) (GE : DIsEntry P w K mg base) (GR : DRises P w K mg base) : DAreWaits P w K mg base := by
  refine dfn_of F sc25 ?_ ?_
  · rintro cs r ⟨rfl, _⟩; rfl
  · rintro f cdv B outer s H E cs r hr ⟨rfl, rfl⟩ tk
    have nd := sc25.nd
    refine db_eq (db_ret (de_and (de_isi N (de_var 0) N.tuple boot_tuple (.inr (.inr (.inr (.inl rfl))))) fun _ => de_and (de_allc (j := 1) (b := fun _ => true) N rfl nd (blkOk_by (N := N25) (sc := defScope (top 25)) (by decide +kernel)) (di_tup (ds := []) (de_var 0)) (Nat.le_of_ble_eq_true rfl) (fun i hi => absurd hi (Nat.not_lt_zero i))) fun _ => de_one (de_call GR (hr.mono (by decide)) (da_cons (de_var 0) da_nil) ⟨[], rfl, Nat.zero_le _, (fun d hd => by cases hd), rfl⟩))) rfl
theorem sc26 : FnScope ["value"] ["value"] (defScope (top 26)) := ⟨rfl, rfl, rfl, by decide +kernel, rfl, by decide +kernel, by decide +kernel⟩
def rIsDesign : List Sl → Res → Prop := fun cs r => ∃ D : Dsg, D.Ok ∧ cs = [.d D.enc] ∧ r = .val (.d (.bool true))
abbrev DIsDesign (P : Program) (w : World) (K : Fg) (mg : Str → Option Value) (base : Heap) : Prop := Dfn P w K mg base 6 "is_design" ["value"] (spR K rIsDesign)
theorem f_isdesign (N : Nms mg) (F : Df K mg "is_design" (top 26) ["value"]) (GL : DIsList P w K mg base) (GP : DIsPlace P w K mg base) (GA : DArePlaces P w K mg base) (GT : DArePaths P w K mg base) (GW : DAreWaits P w K mg base) : DIsDesign P w K mg base := by
  refine dfn_of F sc26 ?_ ?_
  · rintro cs r ⟨_, _, rfl, _⟩; rfl
  · rintro f cdv B outer s H E cs r hr ⟨D, ok, rfl, rfl⟩ tk
    refine db_if (z := false) (DT.eq (dt_or (dt_not (dt_val (de_call GL (hr.mono (by decide)) (da_cons (de_var 0) (da_cons de_int (da_cons de_int da_nil))) ⟨_, _, _, rfl, rfl⟩))) fun _ => dw_or (dt_not (dt_val (de_call GP (hr.mono (by decide)) (da_cons (de_ix (de_var 0) de_int) da_nil) ⟨_, rfl, rfl⟩)))
      fun _ => dw_or1 (dt_not (dt_val (de_isi N (de_ix (de_var 0) de_int) N.bool boot_bool (.inr (.inl rfl)))))) (by
        show (_ || (!pB D.rd || _)) = false
        rw [ok.rd]; rfl)) (fun h => by cases h) (fun _ => db_pop ?_)
    exact db_eq (db_ret (de_and (de_call GA (hr.mono (by decide)) (da_cons (de_ix (de_var 0) de_int) (da_cons (de_ix (de_var 0) de_int) da_nil)) ⟨D, ok, rfl, rfl⟩) fun _ => de_and (de_call GT hr (da_cons (de_ix (de_var 0) de_int) da_nil) ⟨D.ps, ⟨ok.ps, ok.rs, ok.few⟩, rfl, rfl⟩) fun _ => de_one (de_call GW (hr.mono (by decide)) (da_cons (de_ix (de_var 0) de_int) da_nil) ⟨rfl, rfl⟩))) rfl
theorem sc27 : FnScope ["design"] ["design"] (defScope (top 27)) := ⟨rfl, rfl, rfl, by decide +kernel, rfl, by decide +kernel, by decide +kernel⟩
def rNeedDesign : List Sl → Res → Prop := fun cs r => ∃ D : Dsg, D.Ok ∧ cs = [.d D.enc] ∧ r = .val (.d .none)
abbrev DNeedDesign (P : Program) (w : World) (K : Fg) (mg : Str → Option Value) (base : Heap) : Prop := Dfn P w K mg base 7 "need_design" ["design"] (spR K rNeedDesign)
theorem f_needdesign (F : Df K mg "need_design" (top 27) ["design"]) (G : DIsDesign P w K mg base) : DNeedDesign P w K mg base := by
  refine dfn_ofN F sc27 ?_ ?_
  · rintro cs r ⟨_, _, rfl, _⟩; rfl
  · rintro f cdv B outer s H E cs r hr ⟨D, ok, rfl, rfl⟩ tk
    exact ⟨_, .fall _, db_if (z := false) (DT.eq (dt_not (dt_val (de_call G hr (da_cons (de_var 0) da_nil) ⟨D, ok, rfl, rfl⟩))) rfl) (fun h => by cases h) (fun _ => db_pop (db_pop db_nil))⟩
theorem sc28 : FnScope ["entry"] ["entry"] (defScope (top 28)) := ⟨rfl, rfl, rfl, by decide +kernel, rfl, by decide +kernel, by decide +kernel⟩
def rNeedEntry : List Sl → Res → Prop := fun cs r => ∃ k u d, (Ent.value k u d).okB = true ∧ cs = [.d (Ent.value k u d).enc] ∧ r = .val (.d .none)
abbrev DNeedEntry (P : Program) (w : World) (K : Fg) (mg : Str → Option Value) (base : Heap) : Prop := Dfn P w K mg base 4 "need_entry" ["entry"] (spR K rNeedEntry)
theorem f_needentry (F : Df K mg "need_entry" (top 28) ["entry"]) (G : DIsEntry P w K mg base) : DNeedEntry P w K mg base := by
  refine dfn_ofN F sc28 ?_ ?_
  · rintro cs r ⟨_, _, _, _, rfl, _⟩; rfl
  · rintro f cdv B outer s H E cs r hr ⟨k, u, d, ok, rfl, rfl⟩ tk
    exact ⟨_, .fall _, db_if (z := false) (DT.eq (dt_not (dt_val (de_call G hr (da_cons (de_var 0) da_nil) (.inl ⟨k, u, d, ok, rfl, rfl⟩)))) rfl) (fun h => by cases h) (fun _ => db_pop (db_pop db_nil))⟩
theorem sc34 : FnScope ["path"] ["path"] (defScope (top 34)) := ⟨rfl, rfl, rfl, by decide +kernel, rfl, by decide +kernel, by decide +kernel⟩
def rNeedPath (C : Addr) : List Sl → Res → Prop := fun cs r => ∃ d, cs = [.d d] ∧ ((isPathB d = true ∧ r = .val (.d .none)) ∨ (isPathB d = false ∧ r = .exc C))
abbrev DNeedPath (P : Program) (w : World) (K : Fg) (mg : Str → Option Value) (base : Heap) (C : Addr) : Prop := Dfn P w K mg base 5 "need_path" ["path"] (spR K (rNeedPath C))
theorem f_needpath {C : Addr} (X : ExC K mg "BadPath" C) (F : Df K mg "need_path" (top 34) ["path"]) (G : DIsPath P w K mg base) : DNeedPath P w K mg base C := by
  refine dfn_ofN F sc34 ?_ ?_
  · rintro cs r ⟨_, rfl, _⟩; rfl
  · rintro f cdv B outer s H E cs r hr ⟨d, rfl, (⟨hp, rfl⟩ | ⟨hp, rfl⟩)⟩ tk
    · exact ⟨_, .fall _, db_if (z := false) (DT.eq (dt_not (dt_val (de_call G hr (da_cons (de_var 0) da_nil) ⟨d, rfl, rfl⟩))) (by rw [hp]; rfl)) (fun h => by cases h) (fun _ => db_pop (db_pop db_nil))⟩
    · exact ⟨_, .same _, db_if (z := true) (DT.eq (dt_not (dt_val (de_call G hr (da_cons (de_var 0) da_nil) ⟨d, rfl, rfl⟩))) (by rw [hp]; rfl)) (fun _ => db_raise X rfl tk) (fun h => by cases h)⟩
def Dsg.with (D : Dsg) (ps : List (Int × Int)) : Dsg := { D with ps := ps }
theorem sc35 : FnScope ["design", "paths"] ["design", "paths"] (defScope (top 35)) := ⟨rfl, rfl, rfl, by decide +kernel, rfl, by decide +kernel, by decide +kernel⟩
def rWithPaths : List Sl → Res → Prop := fun cs r => ∃ (D : Dsg) (ps : List (Int × Int)), D.Ok ∧ okPs ps ∧ cs = [.d D.enc, .d (pths ps)] ∧ r = .val (.d (D.with ps).enc)
abbrev DWithPaths (P : Program) (w : World) (K : Fg) (mg : Str → Option Value) (base : Heap) : Prop := Dfn P w K mg base 8 "with_paths" ["design", "paths"] (spR K rWithPaths)
theorem f_withpaths (F : Df K mg "with_paths" (top 35) ["design", "paths"]) (GD : DNeedDesign P w K mg base) (GT : DArePaths P w K mg base) : DWithPaths P w K mg base := by
  refine dfn_of F sc35 ?_ ?_
  · rintro cs r ⟨_, _, _, _, rfl, _⟩; rfl
  · rintro f cdv B outer s H E cs r hr ⟨D, ps, ok, okp, rfl, rfl⟩ tk
    refine db_drop (de_call GD hr (da_cons (de_var 0) da_nil) ⟨D, ok, rfl, rfl⟩) ?_
    refine db_if (z := false) (DT.eq (dt_not (dt_val (de_call GT (hr.mono (by decide)) (da_cons (de_var 1) da_nil) ⟨ps, okp, rfl, rfl⟩))) rfl) (fun h => by cases h) (fun _ => db_pop ?_)
    exact db_eq (db_ret (de_addT (de_cut (es := [.int D.rd, .bool D.sm, D.pl]) (de_var 0) do_none (do_some de_int)) (de_tup (ds := [pths ps, .tuple []]) (da_cons (de_var 1) (da_cons (de_ix (de_var 0) de_int) da_nil))) (Nat.le_of_ble_eq_true rfl))) rfl
end

/-! ### NAMES[i].index(what) -/
/-- the table stands in the written part -/
structure NamesK (K : Fg) (mg : Str → Option Value) : Prop where
  ex : ∃ (a : Addr) (bs : List Addr), mg "NAMES" = some (.ref a) ∧ (∀ G, SqT K G a (bs.map V.ref)) ∧ ∀ i, i < 8 → ∃ b, bs[i]? = some b ∧ (∃ o, K.lookup b = some o ∧ o.cls = .type "tuple" ∧ o.dict = none) ∧ ∀ G, SqT K G b ((namesL.getD i []).map V.str)
section
variable {A : Amb} {X : Cx} {δ : Dl} {s s1 s2 : A.S}
theorem de_nmi {a w' : Expr} {i j : Nat} {z : Str} {p p2 p3 pos : Pos} (hK : NamesK X.K X.mg) (ha : DE A X δ s a (.d (.int (i : Nat))) s1) (hw : DE A X δ s1 w' (.d (.str z)) s2) (hi : i < 8) (hj : (namesL.getD i [])[j]? = some z) (hm : ∀ m, m < j → (namesL.getD i [])[m]? ≠ some z)
    (hg : Gl X "NAMES" := by rfl) (hp : PlainIx a := by exact fun _ _ => rfl) (hbase : attributeBase (.Subscript (.Name "NAMES" p) a p2) "index" X.env (eval (.Subscript (.Name "NAMES" p) a p2) X.env) = eval (.Subscript (.Name "NAMES" p) a p2) X.env := by rfl)
    (hfew : ((backTo pos (starEach [w'] X.env)).all (fun x => !x.1) && (backToKw pos (keywordEach [] X.env)).all (fun x => x.1.isSome) && decide (([w'] : List Expr).length + ([] : List Keyword).length + (if ([] : List Keyword).isEmpty then 0 else 1) < 30)) = true := by rfl)
    (hline : (p3.endLine == pos.line) = true := by rfl) (hs : starEach [w'] X.env = (false, eval w' X.env) :: starEach [] X.env := by rfl) (hplain : (backTo pos (starEach [] X.env)).any (·.1) = false := by rfl) :
    DE A X δ s (.Call (.Attribute (.Subscript (.Name "NAMES" p) a p2) "index" p3) [w'] [] pos) (.d (.int (j : Nat))) s2 := by
  obtain ⟨t, bs, hm0, hT, hrow⟩ := hK.ex
  obtain ⟨b, hb, ⟨o, ho, hc, hd⟩, hB⟩ := hrow i hi
  refine DE.of (pe_bm PySem.F.plainAttrs_tuple PySem.F.slot_tuple_index PySem.F.type_tuple_index mt_tup_index (pe_ix ix_tup (pe_glob (v := .ref t) hg hm0 rfl) pe_w hp) pa_w hbase hfew hline hs hplain) fun w σ en iv Q q => ?_
  refine ha w σ en iv _ fun v w1 l1 i1 d1 => ⟨t, bs.map V.ref, i, .ref b, rfl, dv_int d1, hT _, atI_nat (by rw [List.getElem?_map, hb]; rfl), .inr (.inl ⟨rfl, o, ho, hc, hd⟩), ?_⟩
  refine da_cons hw da_nil hs w1 σ (en.mono l1.g) i1 _ fun vs w2 l2 i2 d2 => ?_
  obtain ⟨u, rfl, d3⟩ := dvs1 d2
  rw [dv_str d3]
  exact ⟨b, _, z, j, rfl, rfl, hB _, hj, hm, q _ w2 (l1.trans l2) i2 (Dp.int _)⟩
end
end Kp
end
section
set_option Elab.async false
set_option linter.all false
set_option maxRecDepth 100000
set_option maxHeartbeats 4000000
namespace Kp
open PySem PySem.Spec PyProof.Rows L2
def hdI (i : Nat) : Str := (namesL.getD i []).headD (S "")
theorem nm_hd {i : Nat} (h : i < 8) : atI ((namesL.getD i []).map PyData.str) 0 = some (.str (hdI i)) := by
  match i, h with
  | 0, _ => rfl
  | 1, _ => rfl
  | 2, _ => rfl
  | 3, _ => rfl
  | 4, _ => rfl
  | 5, _ => rfl
  | 6, _ => rfl
  | 7, _ => rfl
  | n + 8, h => omega
theorem nm_head {i : Nat} (h : i < 8) : (namesL.getD i []).head? = some (hdI i) := by
  match i, h with
  | 0, _ => rfl
  | 1, _ => rfl
  | 2, _ => rfl
  | 3, _ => rfl
  | 4, _ => rfl
  | 5, _ => rfl
  | 6, _ => rfl
  | 7, _ => rfl
  | n + 8, h => omega
theorem nm_cut {i : Nat} (h : i < 8) : cutD ((namesL.getD i []).map PyData.str) (some 1) none = ((namesL.getD i []).drop 1).map PyData.str := by
  match i, h with
  | 0, _ => rfl
  | 1, _ => rfl
  | 2, _ => rfl
  | 3, _ => rfl
  | 4, _ => rfl
  | 5, _ => rfl
  | 6, _ => rfl
  | 7, _ => rfl
  | n + 8, h => omega
theorem nm_shaped : ∀ i, i < 8 → SeqAt.shaped (.str (hdI i)) = true ∧ SeqAt.shaped (.tuple (((namesL.getD i []).drop 1).map PyData.str)) = true := by decide +kernel
theorem eqv_str (a b : Str) : PyData.eqv (.str a) (.str b) = (a == b) := by simp [PyData.eqv]
section
variable {P : Program} {w : World} {K : Fg} {mg : Str → Option Value} {base : Heap}
/-! place_in -/
abbrev N29 : List Str := ["design", "kind", "what", "index"]
theorem sc29 : FnScope N29 ["design", "kind", "what"] (defScope (top 29)) := ⟨rfl, rfl, rfl, by decide +kernel, rfl, by decide +kernel, by decide +kernel⟩
def rPlaceIn : List Sl → Res → Prop := fun cs r => ∃ (D : Dsg) (k w : Str), plOk k w = true ∧ cs = [.d D.enc, .d (.str k), .d (.str w)] ∧ r = .val (.d (.int (D.pla k w)))
abbrev DPlaceIn (P : Program) (w : World) (K : Fg) (mg : Str → Option Value) (base : Heap) : Prop := Dfn P w K mg base 1 "place_in" ["design", "kind", "what"] (spR K rPlaceIn)
structure PlOk (k w : Str) (i j : Nat) : Prop where
  i8 : i < 8
  hd : hdI i = k
  at_ : (namesL.getD i [])[j + 1]? = some (whatOf k w)
  no : ∀ i', i' < i → hdI i' ≠ k
  nw : ∀ m, m < j + 1 → (namesL.getD i [])[m]? ≠ some (whatOf k w)
  sk : SeqAt.shaped (.str k) = true
  sw : SeqAt.shaped (.str w) = true
theorem plOk_of {k w : Str} (h : plOk k w = true) : PlOk k w (plI k w).1 (plI k w).2 := by
  unfold plOk at h
  simp only [Bool.and_eq_true, decide_eq_true_eq, List.all_eq_true, Bool.not_eq_true', beq_eq_false_iff_ne, beq_iff_eq, List.mem_range] at h
  obtain ⟨h1, h2, h3, h4, h5, h6, h7⟩ := h
  refine ⟨h1, ?_, h3, fun i' hi => ?_, h5, h6, h7⟩
  · rw [nm_head h1] at h2; exact Option.some.inj h2
  · have h := h4 i' hi
    rw [nm_head (by omega)] at h
    exact fun e => h (by rw [e])
theorem what_shaped {k w : Str} (h : SeqAt.shaped (.str w) = true) : SeqAt.shaped (.str (whatOf k w)) = true := by
  unfold whatOf
  split
  · decide +kernel
  · exact h
theorem f_placein (N : Nms mg) (T : Tabs_ K mg) (NK : NamesK K mg) (F : Df K mg "place_in" (top 29) ["design", "kind", "what"]) : DPlaceIn P w K mg base := by
  refine dfn_of F sc29 ?_ ?_
  · rintro cs r ⟨_, _, _, _, rfl, _⟩; rfl
  · rintro f cdv B outer s H E cs r hr ⟨D, k, v, ok, rfl, rfl⟩ tk
    have nd := sc29.nd
    have p := plOk_of ok
    unfold Dsg.pla
    generalize (plI k v).1 = i at p
    generalize (plI k v).2 = j at p
    have hx : ∀ {i : Nat}, i < 8 → atI (namesL.map strs_) ((i : Nat) : Int) = some (strs_ (namesL.getD i [])) := fun hi => atI_map hi
    have hy : ∀ {i : Nat}, i < 8 → atI (D.rows.map itup) ((i : Nat) : Int) = some (itup (D.rows.getD i [])) := fun hi => atI_map hi
    have sw := what_shaped (k := k) p.sw
    have loop : DB A0 (Cf P w K mg base N29 "place_in" (top 29) f cdv B outer s H E) E [some (.d D.enc), some (.d (.str k)), some (.d (.str (whatOf k v))), none] () [(defBody (top 29)).drop 1] (.rt (.d (.int ((D.rows.getD i []).getD j 0))) ()) := by
      refine db_forX (k := i) (δL := [some (.d D.enc), some (.d (.str k)), some (.d (.str (whatOf k v))), none]) (fun _ => ()) (passes_of rfl) rfl (di_rng1 N (de_len N (de_glob T.names)) ⟨by decide, by decide⟩) (Wk.refl _) p.i8 (fun i _ => dg_name 3 nd) (δe := fun i => [some (.d D.enc), some (.d (.str k)), some (.d (.str (whatOf k v))), some (.d (.int i))]) (fun i' hi => ?_) (fun i' hi => ?_) ?_ (fun _ _ z => nomatch z)
      · have h8 : i' < 8 := Nat.lt_trans hi p.i8
        refine db_if (z := false) (DT.eq (dt_and (y := false) (dt_eq hr (de_ix (de_ix (de_glob T.names) (de_var 3) (hx h8)) de_int (nm_hd h8)) (de_var 1) (nm_shaped i' h8).1 p.sk) (fun h => ?_)) (by simp)) (fun h => by cases h) (fun _ => db_pop (db_pop db_nil))
        rw [eqv_str] at h
        exact absurd (by simpa using h) (p.no i' hi)
      · exact wk_keep (wk_keep (wk_keep (wk_drop (Wk.refl _))))
      · refine db_if (z := true) (DT.eq (dt_and (dt_eq hr (de_ix (de_ix (de_glob T.names) (de_var 3) (hx p.i8)) de_int (nm_hd p.i8)) (de_var 1) (nm_shaped i p.i8).1 p.sk) fun _ => dw_and1 (dt_isT hr (de_var 2) (de_cut (es := ((namesL.getD i []).drop 1).map PyData.str) (de_ix (de_glob T.names) (de_var 3) (hx p.i8)) (do_some de_int) do_none (nm_cut p.i8)) sw (nm_shaped i p.i8).2)) ?_) (fun _ => ?_) (fun h => by cases h)
        · rw [eqv_str, p.hd, any_str]
          · simp
          · rw [List.contains_iff_mem]
            refine List.mem_of_getElem? (i := j) ?_
            rw [List.getElem?_drop, Nat.add_comm 1 j]
            exact p.at_
        · have hlen : j < (D.rows.getD i []).length := by
            have h1 := rows_len D p.i8
            have h2 := (List.getElem?_eq_some_iff.mp p.at_).1
            omega
          refine db_ret (de_ix (de_ix (de_ix (de_var 0) de_int) (de_var 3) (hy p.i8)) (de_sub (de_nmi NK (de_var 3) (de_var 2) p.i8 p.at_ p.nw) de_int) ?_)
          rw [show (((j + 1 : Nat) : Int) - 1) = ((j : Nat) : Int) by omega]
          exact atI_map hlen
    refine db_if (dt_and (dt_eq hr (de_var 1) de_str p.sk (by decide +kernel)) fun _ => dw_and1 (dt_eq hr (de_var 2) de_str p.sw (by decide +kernel))) (fun h => ?_) (fun h => db_pop ?_)
    · refine db_set 2 nd de_str (db_pop ?_)
      rw [eqv_str, eqv_str] at h
      have e : whatOf k v = S "fetched" := by
        unfold whatOf
        rw [if_pos (by simpa [S] using h)]
      rw [e] at loop
      exact loop
    · rw [eqv_str, eqv_str] at h
      have e : whatOf k v = v := by
        unfold whatOf
        rw [if_neg]
        rintro ⟨rfl, rfl⟩
        simp [S] at h
      rw [e] at loop
      exact loop
end
end Kp
end
section
set_option Elab.async false
set_option linter.all false
set_option maxRecDepth 100000
set_option maxHeartbeats 4000000
namespace Kp
open PySem PySem.Spec PyProof.Rows L2
theorem bo {b c : Bool} (h : b = c) : (Out.rt (Sl.d (.bool b)) () : Out A0) = Out.rt (Sl.d (.bool c)) () := by rw [h]
theorem mem_c {α : Type} [BEq α] [LawfulBEq α] {l : List α} {x : α} (h : l.contains x = true) : x ∈ l := by simpa using h
theorem pth_lay (p : Int × Int) : (pth p).canLay0 = true := by simp [pth, PyData.canLay0, PyData.canLayAll0]
theorem pths_lay : ∀ ps : List (Int × Int), PyData.canLayAll0 (ps.map pth) = true
  | [] => by simp [PyData.canLayAll0]
  | p :: ps => by simp [PyData.canLayAll0, pth_lay p, pths_lay ps]
theorem pths_depth : ∀ ps : List (Int × Int), PyData.depthAll (ps.map pth) ≤ 1
  | [] => by simp [PyData.depthAll]
  | p :: ps => by
    have h1 := pths_depth ps
    have h2 := pth_depth p
    simp only [List.map_cons, PyData.depthAll]
    omega
theorem pths_shaped (ps : List (Int × Int)) : SeqAt.shaped (pths ps) = true := by
  have h1 := pths_depth ps
  have h2 : (pths ps).depth ≤ 64 := by
    unfold pths
    simp only [PyData.depth]
    omega
  unfold SeqAt.shaped
  rw [Bool.and_eq_true]
  exact ⟨by unfold pths; simp only [PyData.canLay0]; exact pths_lay ps, decide_eq_true h2⟩
theorem pth_shaped (p : Int × Int) : SeqAt.shaped (pth p) = true := by
  unfold SeqAt.shaped
  rw [Bool.and_eq_true]
  exact ⟨pth_lay p, decide_eq_true (by rw [pth_depth]; decide)⟩
theorem any_pth {D : Dsg} {p : Int × Int} : (D.ps.map pth).any (fun z => PyData.eqv z (pth p)) = D.inP p := by
  unfold Dsg.inP
  rw [List.any_map]
  congr 1
  funext q
  simp only [Function.comp, pth, PyData.eqv, PyData.eqvAll, Bool.and_true]
  rfl
theorem wr_pl {k : Str} (h : writingL.contains k = true) : plOk k (S "written") = true ∧ plOk k (S "made") = true :=
  (by decide +kernel : ∀ k ∈ writingL, plOk k (S "written") = true ∧ plOk k (S "made") = true) k (mem_c h)
theorem us_pl {u : Str × Str} (h : usersL.contains u = true) : plOk u.1 (usedW u.1 u.2) = true ∧ SeqAt.shaped (.str u.1) = true ∧ Nat.ble ((S "used ").length + u.2.length) 100000 = true :=
  (by decide +kernel : ∀ u ∈ usersL, plOk u.1 (usedW u.1 u.2) = true ∧ SeqAt.shaped (.str u.1) = true ∧ Nat.ble ((S "used ").length + u.2.length) 100000 = true) u (mem_c h)
section
variable {P : Program} {w : World} {K : Fg} {mg : Str → Option Value} {base : Heap}
/-! effect_in, used_in -/
theorem sc30 : FnScope ["design", "kind"] ["design", "kind"] (defScope (top 30)) := ⟨rfl, rfl, rfl, by decide +kernel, rfl, by decide +kernel, by decide +kernel⟩
def rEffect : List Sl → Res → Prop := fun cs r => ∃ (D : Dsg) (e : Str), effectsL.contains e = true ∧ cs = [.d D.enc, .d (.str e)] ∧ r = .val (.d (.int (D.eff e)))
abbrev DEffect (P : Program) (w : World) (K : Fg) (mg : Str → Option Value) (base : Heap) : Prop := Dfn P w K mg base 2 "effect_in" ["design", "kind"] (spR K rEffect)
theorem ef_cases {e : Str} (h : effectsL.contains e = true) : (writingL.contains e = true ∧ e ≠ S "store" ∧ e ≠ S "out") ∨ e = S "store" ∨ e = S "out" :=
  (by decide +kernel : ∀ e ∈ effectsL, (writingL.contains e = true ∧ e ≠ S "store" ∧ e ≠ S "out") ∨ e = S "store" ∨ e = S "out") e (mem_c h)
theorem f_effect (T : Tabs_ K mg) (F : Df K mg "effect_in" (top 30) ["design", "kind"]) (G : DPlaceIn P w K mg base) : DEffect P w K mg base := by
  refine dfn_of F sc30 ?_ ?_
  · rintro cs r ⟨_, _, _, rfl, _⟩; rfl
  · rintro f cdv B outer s H E cs r hr ⟨D, e, he, rfl, rfl⟩ tk
    unfold Dsg.eff
    rcases ef_cases he with ⟨hw, h1, h2⟩ | rfl | rfl
    · rw [if_neg h1, if_neg h2]
      exact db_if (z := true) (DT.eq (dt_isT hr (de_var 1) (de_glob T.writing) (wr_shaped hw) (by decide +kernel)) (by rw [any_str hw])) (fun _ => db_ret (de_call G hr (da_cons (de_var 0) (da_cons (de_var 1) (da_cons de_str da_nil))) ⟨D, e, _, (wr_pl hw).1, rfl, rfl⟩)) (fun h => by cases h)
    · rw [if_pos rfl]
      refine db_if (z := false) (DT.eq (dt_isT hr (de_var 1) (de_glob T.writing) (by decide +kernel) (by decide +kernel)) (by decide +kernel)) (fun h => by cases h) (fun _ => db_pop ?_)
      exact db_if (z := true) (DT.eq (dt_eq hr (de_var 1) de_str (by decide +kernel) (by decide +kernel)) (by decide +kernel)) (fun _ => db_ret (de_call G hr (da_cons (de_var 0) (da_cons (de_var 1) (da_cons de_str da_nil))) ⟨D, S "store", S "put", by decide +kernel, rfl, rfl⟩)) (fun h => by cases h)
    · rw [if_neg (by decide), if_pos rfl]
      refine db_if (z := false) (DT.eq (dt_isT hr (de_var 1) (de_glob T.writing) (by decide +kernel) (by decide +kernel)) (by decide +kernel)) (fun h => by cases h) (fun _ => db_pop ?_)
      refine db_if (z := false) (DT.eq (dt_eq hr (de_var 1) de_str (by decide +kernel) (by decide +kernel)) (by decide +kernel)) (fun h => by cases h) (fun _ => db_pop ?_)
      exact db_ret (de_if (x := true) (DT.eq (dt_eq hr (de_var 1) de_str (by decide +kernel) (by decide +kernel)) (by decide +kernel)) (fun _ => de_call G hr (da_cons (de_var 0) (da_cons (de_var 1) (da_cons de_str da_nil))) ⟨D, S "out", S "shown", by decide +kernel, rfl, rfl⟩) (fun h => by cases h))
theorem sc31 : FnScope ["design", "kind", "role"] ["design", "kind", "role"] (defScope (top 31)) := ⟨rfl, rfl, rfl, by decide +kernel, rfl, by decide +kernel, by decide +kernel⟩
def rUsed : List Sl → Res → Prop := fun cs r => ∃ (D : Dsg) (u : Str × Str), usersL.contains u = true ∧ cs = [.d D.enc, .d (.str u.1), .d (.str u.2)] ∧ r = .val (.d (.int (D.pla u.1 (usedW u.1 u.2))))
abbrev DUsed (P : Program) (w : World) (K : Fg) (mg : Str → Option Value) (base : Heap) : Prop := Dfn P w K mg base 2 "used_in" ["design", "kind", "role"] (spR K rUsed)
theorem f_used (F : Df K mg "used_in" (top 31) ["design", "kind", "role"]) (G : DPlaceIn P w K mg base) : DUsed P w K mg base := by
  refine dfn_of F sc31 ?_ ?_
  · rintro cs r ⟨_, _, _, rfl, _⟩; rfl
  · rintro f cdv B outer s H E cs r hr ⟨D, u, hu, rfl, rfl⟩ tk
    obtain ⟨h1, h2, h3⟩ := us_pl hu
    refine db_ret (de_call G hr (da_cons (de_var 0) (da_cons (de_var 1) (da_cons (c := .d (.str (usedW u.1 u.2))) (de_if (dt_eq hr (de_var 1) de_str h2 (by decide +kernel)) (fun h => ?_) (fun h => ?_)) da_nil))) ⟨D, u.1, _, h1, rfl, rfl⟩)
    · rw [eqv_str] at h
      have e : usedW u.1 u.2 = S "used " ++ u.2 := if_pos (by simpa [S] using h)
      rw [e]
      exact de_addS de_str (de_var 2) h3
    · rw [eqv_str] at h
      have e : usedW u.1 u.2 = S "used" := if_neg (by simpa [S] using h)
      rw [e]
      exact de_str
/-! value_open, open_in -/
abbrev N37 : List Str := ["design", "entry", "rule", "first", "second", "role", "apart", "written", "made", "used"]
theorem sc37 : FnScope N37 ["design", "entry"] (defScope (top 37)) := ⟨rfl, rfl, rfl, by decide +kernel, rfl, by decide +kernel, by decide +kernel⟩
def rValueOpen : List Sl → Res → Prop := fun cs r => ∃ (D : Dsg) (k : Str) (u : Str × Str) (d : Int), (Ent.value k u d).okB = true ∧ cs = [.d D.enc, .d (Ent.value k u d).enc] ∧ r = .val (.d (.bool (opn D (.value k u d))))
abbrev DValueOpen (P : Program) (w : World) (K : Fg) (mg : Str → Option Value) (base : Heap) : Prop := Dfn P w K mg base 3 "value_open" ["design", "entry"] (spR K rValueOpen)
theorem f_valueopen (F : Df K mg "value_open" (top 37) ["design", "entry"]) (GP : DPlaceIn P w K mg base) (GU : DUsed P w K mg base) : DValueOpen P w K mg base := by
  refine dfn_of F sc37 ?_ ?_
  · rintro cs r ⟨_, _, _, _, _, rfl, _⟩; rfl
  · rintro f cdv B outer s H E cs r hr ⟨D, k, u, d, ok, rfl, rfl⟩ tk
    have nd := sc37.nd
    obtain ⟨hk, hu, _, _⟩ := ent_ok ok
    refine db_asg (de_var 1) (dg_tup rfl (dgs_cons (dg_name 2 nd) (dgs_cons (dg_name 3 nd) (dgs_cons (dg_name 4 nd) (dgs_cons (dg_name 5 nd) (dgs_cons (dg_name 6 nd) dgs_nil)))))) ?_
    refine db_par 7 8 rfl nd (da_cons (de_call GP (hr.mono (by decide)) (da_cons (de_var 0) (da_cons (de_var 3) (da_cons de_str da_nil))) ⟨D, k, S "written", (wr_pl hk).1, rfl, rfl⟩) (da_cons (de_call GP (hr.mono (by decide)) (da_cons (de_var 0) (da_cons (de_var 3) (da_cons de_str da_nil))) ⟨D, k, S "made", (wr_pl hk).2, rfl, rfl⟩) da_nil)) ?_
    refine db_set 9 nd (de_call GU hr (da_cons (de_var 0) (da_cons (de_var 4) (da_cons (de_var 5) da_nil))) ⟨D, u, hu, rfl, rfl⟩) ?_
    refine db_if (z := decide (D.pla k (S "written") < D.rd + d) || (D.sm && decide (D.rd + d = D.pla k (S "written")))) (dt_or (dt_gt (de_add (de_ix (de_var 0) de_int) (de_var 6)) (de_var 7)) fun _ => dw_or1 (dt_and (dt_val (de_ix (de_var 0) de_int)) fun _ => dw_and1 (dt_eqI hr (de_add (de_ix (de_var 0) de_int) (de_var 6)) (de_var 7)))) (fun h => ?_) (fun h => db_pop ?_)
    · refine db_eq (db_ret de_bl) (bo ?_)
      show false = (!(decide (D.pla k (S "written") < D.rd + d) || (D.sm && decide (D.rd + d = D.pla k (S "written")))) && _)
      rw [h]; rfl
    · refine db_eq (db_ret (de_or (de_niT hr (de_tup (ds := [.int (D.pla u.1 (usedW u.1 u.2) + d), .int (D.pla u.1 (usedW u.1 u.2))]) (da_cons (de_add (de_var 9) (de_var 6)) (da_cons (de_var 9) da_nil))) (de_ix (de_var 0) de_int) (pth_shaped (_, _)) (pths_shaped D.ps)) fun _ => de_one (de_le (de_add (de_var 9) (de_var 6)) (de_var 8)))) (bo ?_)
      show (!((D.ps.map pth).any fun z => PyData.eqv z (pth (_, _))) || _) = (!(decide (D.pla k (S "written") < D.rd + d) || (D.sm && decide (D.rd + d = D.pla k (S "written")))) && _)
      rw [h, any_pth]; rfl
abbrev N38 : List Str := ["design", "entry", "rule", "first", "second", "apart", "fetched", "put"]
theorem sc38 : FnScope N38 ["design", "entry"] (defScope (top 38)) := ⟨rfl, rfl, rfl, by decide +kernel, rfl, by decide +kernel, by decide +kernel⟩
def rOpenIn : List Sl → Res → Prop := fun cs r => ∃ (D : Dsg) (e : Ent), e.okB = true ∧ cs = [.d D.enc, .d e.enc] ∧ r = .val (.d (.bool (opn D e)))
abbrev DOpenIn (P : Program) (w : World) (K : Fg) (mg : Str → Option Value) (base : Heap) : Prop := Dfn P w K mg base 4 "open_in" ["design", "entry"] (spR K rOpenIn)
theorem f_openin (F : Df K mg "open_in" (top 38) ["design", "entry"]) (GV : DValueOpen P w K mg base) (GP : DPlaceIn P w K mg base) (GE : DEffect P w K mg base) : DOpenIn P w K mg base := by
  refine dfn_of F sc38 ?_ ?_
  · rintro cs r ⟨_, _, _, rfl, _⟩; rfl
  · rintro f cdv B outer s H E cs r hr ⟨D, e, ok, rfl, rfl⟩ tk
    have nd := sc38.nd
    cases e with
    | value k u d =>
      refine db_asg (de_tup (ds := [.str (S "value"), .str k, .str u.1, .int d]) (da_cons (de_ix (de_var 1) de_int) (da_cons (de_ix (de_var 1) de_int) (da_cons (de_ix (de_var 1) de_int) (da_cons (de_ix (de_var 1) (de_neg de_int)) da_nil))))) (dg_tup rfl (dgs_cons (dg_name 2 nd) (dgs_cons (dg_name 3 nd) (dgs_cons (dg_name 4 nd) (dgs_cons (dg_name 5 nd) dgs_nil))))) ?_
      exact db_if (z := true) (DT.eq (dt_eq hr (de_var 2) de_str (by decide +kernel) (by decide +kernel)) (by decide +kernel)) (fun _ => db_ret (de_call GV hr (da_cons (de_var 0) (da_cons (de_var 1) da_nil)) ⟨D, k, u, d, ok, rfl, rfl⟩)) (fun h => by cases h)
    | order k l d =>
      have ok : (writingL.contains k && (writingL.contains l && (decide (1 ≤ d) && decide (d ≤ 7)))) = true := ok
      simp only [Bool.and_eq_true] at ok
      refine db_asg (de_tup (ds := [.str (S "order"), .str k, .str l, .int d]) (da_cons (de_ix (de_var 1) de_int) (da_cons (de_ix (de_var 1) de_int) (da_cons (de_ix (de_var 1) de_int) (da_cons (de_ix (de_var 1) (de_neg de_int)) da_nil))))) (dg_tup rfl (dgs_cons (dg_name 2 nd) (dgs_cons (dg_name 3 nd) (dgs_cons (dg_name 4 nd) (dgs_cons (dg_name 5 nd) dgs_nil))))) ?_
      refine db_if (z := false) (DT.eq (dt_eq hr (de_var 2) de_str (by decide +kernel) (by decide +kernel)) (by decide +kernel)) (fun h => by cases h) (fun _ => db_pop ?_)
      exact db_if (z := true) (DT.eq (dt_eq hr (de_var 2) de_str (by decide +kernel) (by decide +kernel)) (by decide +kernel)) (fun _ => db_ret (de_lt (de_add (de_var 5) (de_call GP (hr.mono (by decide)) (da_cons (de_var 0) (da_cons (de_var 4) (da_cons de_str da_nil))) ⟨D, l, S "written", (wr_pl ok.2.1).1, rfl, rfl⟩)) (de_call GP (hr.mono (by decide)) (da_cons (de_var 0) (da_cons (de_var 3) (da_cons de_str da_nil))) ⟨D, k, S "written", (wr_pl ok.1).1, rfl, rfl⟩))) (fun h => by cases h)
    | mem b d =>
      have places : ∀ {δ : Dl}, DA A0 (Cf P w K mg base N38 "open_in" (top 38) f cdv B outer s H E) δ () [] [] () := fun {δ} => da_nil
      cases b with
      | true =>
        refine db_asg (de_tup (ds := [.str (S "memory"), .str (S "store"), .str (S "load"), .int d]) (da_cons (de_ix (de_var 1) de_int) (da_cons (de_ix (de_var 1) de_int) (da_cons (de_ix (de_var 1) de_int) (da_cons (de_ix (de_var 1) (de_neg de_int)) da_nil))))) (dg_tup rfl (dgs_cons (dg_name 2 nd) (dgs_cons (dg_name 3 nd) (dgs_cons (dg_name 4 nd) (dgs_cons (dg_name 5 nd) dgs_nil))))) ?_
        refine db_if (z := false) (DT.eq (dt_eq hr (de_var 2) de_str (by decide +kernel) (by decide +kernel)) (by decide +kernel)) (fun h => by cases h) (fun _ => db_pop ?_)
        refine db_if (z := false) (DT.eq (dt_eq hr (de_var 2) de_str (by decide +kernel) (by decide +kernel)) (by decide +kernel)) (fun h => by cases h) (fun _ => db_pop ?_)
        refine db_par 6 7 rfl nd (da_cons (de_call GP (hr.mono (by decide)) (da_cons (de_var 0) (da_cons de_str (da_cons de_str da_nil))) ⟨D, S "load", S "fetched", by decide +kernel, rfl, rfl⟩) (da_cons (de_call GP (hr.mono (by decide)) (da_cons (de_var 0) (da_cons de_str (da_cons de_str da_nil))) ⟨D, S "store", S "put", by decide +kernel, rfl, rfl⟩) da_nil)) ?_
        refine db_if (z := true) (DT.eq (dt_and (dt_eq hr (de_var 2) de_str (by decide +kernel) (by decide +kernel)) fun _ => dw_and1 (dt_eq hr (de_var 3) de_str (by decide +kernel) (by decide +kernel))) (by decide +kernel)) (fun _ => ?_) (fun h => by cases h)
        exact db_eq (db_ret (de_not (de_or (de_gt (de_add (de_var 6) (de_var 5)) (de_var 7)) fun _ => de_one (de_and (de_ix (de_var 0) de_int) fun _ => de_one (de_eqI hr (de_add (de_var 6) (de_var 5)) (de_var 7)))))) rfl
      | false =>
        refine db_asg (de_tup (ds := [.str (S "memory"), .str (S "load"), .str (S "store"), .int d]) (da_cons (de_ix (de_var 1) de_int) (da_cons (de_ix (de_var 1) de_int) (da_cons (de_ix (de_var 1) de_int) (da_cons (de_ix (de_var 1) (de_neg de_int)) da_nil))))) (dg_tup rfl (dgs_cons (dg_name 2 nd) (dgs_cons (dg_name 3 nd) (dgs_cons (dg_name 4 nd) (dgs_cons (dg_name 5 nd) dgs_nil))))) ?_
        refine db_if (z := false) (DT.eq (dt_eq hr (de_var 2) de_str (by decide +kernel) (by decide +kernel)) (by decide +kernel)) (fun h => by cases h) (fun _ => db_pop ?_)
        refine db_if (z := false) (DT.eq (dt_eq hr (de_var 2) de_str (by decide +kernel) (by decide +kernel)) (by decide +kernel)) (fun h => by cases h) (fun _ => db_pop ?_)
        refine db_par 6 7 rfl nd (da_cons (de_call GP (hr.mono (by decide)) (da_cons (de_var 0) (da_cons de_str (da_cons de_str da_nil))) ⟨D, S "load", S "fetched", by decide +kernel, rfl, rfl⟩) (da_cons (de_call GP (hr.mono (by decide)) (da_cons (de_var 0) (da_cons de_str (da_cons de_str da_nil))) ⟨D, S "store", S "put", by decide +kernel, rfl, rfl⟩) da_nil)) ?_
        refine db_if (z := false) (DT.eq (dt_and (dt_eq hr (de_var 2) de_str (by decide +kernel) (by decide +kernel)) fun _ => dw_and1 (dt_eq hr (de_var 3) de_str (by decide +kernel) (by decide +kernel))) (by decide +kernel)) (fun h => by cases h) (fun _ => db_pop ?_)
        refine db_if (z := true) (DT.eq (dt_eq hr (de_var 2) de_str (by decide +kernel) (by decide +kernel)) (by decide +kernel)) (fun _ => ?_) (fun h => by cases h)
        exact db_eq (db_ret (de_or (de_lt (de_add (de_var 5) (de_var 7)) (de_var 6)) fun _ => de_one (de_and (de_ix (de_var 0) de_int) fun _ => de_one (de_eqI hr (de_add (de_var 5) (de_var 7)) (de_var 6))))) rfl
    | wrong j e d =>
      have ok : (jumpsL.contains j && (effectsL.contains e && (decide (1 ≤ d) && decide (d ≤ 7)))) = true := ok
      simp only [Bool.and_eq_true] at ok
      have hj : plOk j (S "decided") = true := (by decide +kernel : ∀ j ∈ jumpsL, plOk j (S "decided") = true) j (mem_c ok.1)
      have hs : SeqAt.shaped (.str j) = true := (by decide +kernel : ∀ j ∈ jumpsL, SeqAt.shaped (.str j) = true) j (mem_c ok.1)
      refine db_asg (de_tup (ds := [.str (S "wrong"), .str j, .str e, .int d]) (da_cons (de_ix (de_var 1) de_int) (da_cons (de_ix (de_var 1) de_int) (da_cons (de_ix (de_var 1) de_int) (da_cons (de_ix (de_var 1) (de_neg de_int)) da_nil))))) (dg_tup rfl (dgs_cons (dg_name 2 nd) (dgs_cons (dg_name 3 nd) (dgs_cons (dg_name 4 nd) (dgs_cons (dg_name 5 nd) dgs_nil))))) ?_
      refine db_if (z := false) (DT.eq (dt_eq hr (de_var 2) de_str (by decide +kernel) (by decide +kernel)) (by decide +kernel)) (fun h => by cases h) (fun _ => db_pop ?_)
      refine db_if (z := false) (DT.eq (dt_eq hr (de_var 2) de_str (by decide +kernel) (by decide +kernel)) (by decide +kernel)) (fun h => by cases h) (fun _ => db_pop ?_)
      refine db_par 6 7 rfl nd (da_cons (de_call GP (hr.mono (by decide)) (da_cons (de_var 0) (da_cons de_str (da_cons de_str da_nil))) ⟨D, S "load", S "fetched", by decide +kernel, rfl, rfl⟩) (da_cons (de_call GP (hr.mono (by decide)) (da_cons (de_var 0) (da_cons de_str (da_cons de_str da_nil))) ⟨D, S "store", S "put", by decide +kernel, rfl, rfl⟩) da_nil)) ?_
      refine db_if (z := false) (DT.eq (dt_and (y := false) (dt_eq hr (de_var 2) de_str (by decide +kernel) (by decide +kernel)) fun h => absurd h (by decide +kernel)) (by decide +kernel)) (fun h => by cases h) (fun _ => db_pop ?_)
      refine db_if (z := false) (DT.eq (dt_eq hr (de_var 2) de_str (by decide +kernel) (by decide +kernel)) (by decide +kernel)) (fun h => by cases h) (fun _ => db_pop ?_)
      exact db_ret (de_le (de_add (de_var 5) (de_call GE (hr.mono (by decide)) (da_cons (de_var 0) (da_cons (de_var 4) da_nil)) ⟨D, e, ok.2.1, rfl, rfl⟩)) (de_call GP (hr.mono (by decide)) (da_cons (de_var 0) (da_cons (de_var 3) (da_cons de_str da_nil))) ⟨D, j, S "decided", hj, rfl, rfl⟩))
end
end Kp
end
section
set_option Elab.async false
set_option linter.all false
set_option maxRecDepth 100000
set_option maxHeartbeats 4000000
/-! sets of tuples whose items are ints and texts -/
namespace Kp
open PySem PySem.Spec PyProof.Rows L2
/-- an int or a text -/
def Flt (v : Value) : Prop := (∃ i t, v = Value.int i t) ∨ ∃ x t, v = Value.str x t
theorem Flt.cls {v : Value} (h : Flt v) (n : Nat) : ofAClassStatement n v = pure false := by
  rcases h with ⟨i, t, rfl⟩ | ⟨x, t, rfl⟩ <;> cases n <;> rfl
theorem Flt.hsh {v : Value} (h : Flt v) (n : Nat) : ∃ z, hashByValue n v = pure z := by
  rcases h with ⟨i, t, rfl⟩ | ⟨x, t, rfl⟩
  · exact ⟨true, by cases n <;> rfl⟩
  · exact ⟨false, by cases n <;> rfl⟩
section
variable {P : Program} {w : World}
theorem flts {k : List Key} {vs : List Value} (h : ItemsAre (mixKind P w) k vs) : ∀ v ∈ vs, Flt v := by
  induction h with
  | nil => exact fun v m => nomatch m
  | @cons k0 u ks us hu _ ih =>
    intro v m
    cases m with
    | head => rcases keyIs_shape hu with ⟨i, t, _, e⟩ | ⟨x, t, _, e⟩
              · exact .inl ⟨i, t, e⟩
              · exact .inr ⟨x, t, e⟩
    | tail _ m => exact ih v m
end
/-- the tuple at b has the items k -/
abbrev TKy (P : Program) (w : World) (h : Heap) (k : List Key) (b : Addr) : Prop := IsTupleKey (mixKind P w) h k b
abbrev hky (P : Program) (w : World) (k : List Key) : Int := tupleKeyHash (mixKind P w) k
section
variable {P : Program} {w : World} {A : Around} {E : Value → Shared → Prop} {s : Shared}
theorem tky_cls {k : List Key} {b : Addr} {Q : Bool → Shared → Prop} (x : TKy P w s.heap k b) (q : Q false s) : wpAny (model P w) A (ofAClassStatement 8 (.ref b)) Q E s := by
  have ty := x.typeIs
  obtain ⟨u, its, n, hu, _, hd, hi⟩ := x
  unfold ofAClassStatement
  refine wpAny_bind (wpAny_typeOf ty ?_)
  dsimp only
  simp only [show (("tuple" : String) == "tuple") = true by decide, if_true, Bool.not_true, Bool.false_eq_true, if_false]
  try refine wpAny_bind (wpAny_pure ?_)
  try simp only [Bool.not_true, Bool.false_eq_true, if_false]
  show wpAny _ _ (seqItems? (.ref b) >>= _) _ _ s
  refine wpAny_bind (wpAny_seqItems hu hd (wpAny_bind ?_))
  try dsimp only
  show wpAny _ _ (forIn its _ _) _ _ s
  rw [← Array.forIn_toList]
  refine wpAny_forIn_list _ (fun l r z => r.1 = none ∧ z = s ∧ ∀ v ∈ l, Flt v) _ (fun v l r z hz => ?_) (fun r z hz => ?_) _ _ ⟨rfl, rfl, flts hi⟩
  · obtain ⟨e1, rfl, fl⟩ := hz
    rw [(fl v (List.mem_cons_self ..)).cls]
    refine wpAny_bind (wpAny_pure ?_)
    simp only [Bool.false_eq_true, if_false]
    exact wpAny_pure ⟨rfl, rfl, fun y m => fl y (List.mem_cons_of_mem _ m)⟩
  · obtain ⟨r1, r2⟩ := r
    obtain ⟨e1, rfl, _⟩ := hz
    have e1 : r1 = none := e1
    subst e1
    exact wpAny_pure q
theorem tky_hsh {k : List Key} {b : Addr} {Q : Bool → Shared → Prop} (x : TKy P w s.heap k b) (q : ∀ z, Q z s) : wpAny (model P w) A (hashByValue 8 (.ref b)) Q E s := by
  have ty := x.typeIs
  obtain ⟨u, its, n, hu, _, hd, hi⟩ := x
  unfold hashByValue
  refine wpAny_bind (wpAny_specialOf ty F.slot_tuple_hash.lookup ?_)
  show wpAny _ _ (seqItems? (.ref b) >>= _) _ _ s
  refine wpAny_bind (wpAny_seqItems hu hd (wpAny_bind ?_))
  show wpAny _ _ (forIn its _ _) _ _ s
  rw [← Array.forIn_toList]
  refine wpAny_forIn_list _ (fun l r z => (r.1 = none ∧ z = s ∧ ∀ v ∈ l, Flt v)) _ (fun v l r z hz => ?_) (fun r z hz => ?_) _ _ ⟨rfl, rfl, flts hi⟩
  · obtain ⟨e1, rfl, fl⟩ := hz
    obtain ⟨y, ey⟩ := (fl v (List.mem_cons_self ..)).hsh 7
    rw [ey]
    refine wpAny_bind (wpAny_pure ?_)
    cases y with
    | true =>
      simp only [Bool.not_true, Bool.false_eq_true, if_false]
      exact wpAny_pure ⟨rfl, rfl, fun y m => fl y (List.mem_cons_of_mem _ m)⟩
    | false =>
      simp only [Bool.not_false, if_true]
      exact wpAny_pure (wpAny_pure (q false))
  · obtain ⟨r1, r2⟩ := r
    obtain ⟨e1, rfl, _⟩ := hz
    have e1 : r1 = none := e1
    subst e1
    exact wpAny_pure (q true)
theorem tky_seen {k : List Key} {b : Addr} {Q : Bool → Shared → Prop} (x : TKy P w s.heap k b) {ys : List Value} (hy : ∀ y ∈ ys, ∃ k' c, y = Value.ref c ∧ TKy P w s.heap k' c) (q : Q false s) :
    wpAny (model P w) A (searchCouldBeSeen (.ref b) ys) Q E s := by
  unfold searchCouldBeSeen
  refine wpAny_bind (wpAny_forIn_list _ (fun l r z => r.1 = none ∧ z = s ∧ ∀ y ∈ l, ∃ k' c, y = Value.ref c ∧ TKy P w s.heap k' c) _ (fun v l r z hz => ?_) (fun r z hz => ?_) _ _ ⟨rfl, rfl, hy⟩)
  · obtain ⟨e1, rfl, al⟩ := hz
    obtain ⟨k', c, rfl, y⟩ := al v (List.mem_cons_self ..)
    have next : ∀ y ∈ l, ∃ k' c, y = Value.ref c ∧ TKy P w z.heap k' c := fun y m => al y (List.mem_cons_of_mem _ m)
    dsimp only
    by_cases cv : (b == c || (carriedByValue (.ref b) && carriedByValue (.ref c))) = true
    · exact wp_if_pos cv (wpAny_pure ⟨rfl, rfl, next⟩)
    · refine wp_if_neg cv (wpAny_bind (wpAny_eqIsQuiet_tuple x ?_))
      simp only [Bool.not_true, Bool.false_eq_true, if_false]
      refine wpAny_bind (wpAny_eqIsQuiet_tuple y ?_)
      simp only [Bool.not_true, Bool.false_eq_true, if_false]
      refine wpAny_bind (tky_cls x ?_)
      simp only [Bool.false_eq_true, if_false]
      refine wpAny_bind (tky_cls y ?_)
      simp only [Bool.false_eq_true, if_false]
      exact wpAny_pure ⟨rfl, rfl, next⟩
  · obtain ⟨r1, r2⟩ := r
    obtain ⟨e1, rfl, _⟩ := hz
    have e1 : r1 = none := e1
    subst e1
    exact wpAny_pure q
end
/-! the set as the model lays it -/
abbrev Ky := Addr × List Key
def ents (P : Program) (w : World) (L : List Ky) : List (Int × Value) := L.map fun r => (hky P w r.2, .ref r.1)
def hks (P : Program) (w : World) (L : List Ky) : List Int := L.map fun r => hky P w r.2
structure SKy (P : Program) (w : World) (h : Heap) (a : Addr) (L : List Ky) (es : Array (Int × Value)) (ep : Nat) (t : SetTable) : Prop where
  ob : ∃ o, h.get? a = some o ∧ o.ExactSet ∧ o.data = .set es ep t
  en : es.toList = ents P w L
  tb : TabOk t (hks P w L)
  un : (L.map (·.2)).Nodup
  tk : ∀ r ∈ L, TKy P w h r.2 r.1
  ld : w.params.followText "set-order" = true ∨ t.led = true
  rm : L.length * 5 < t.mask * 3
  fw : L.length < 64
theorem ents_len {P : Program} {w : World} {L : List Ky} {es : Array (Int × Value)} (h : es.toList = ents P w L) : es.size = L.length := by
  rw [← Array.length_toList, h, ents, List.length_map]
theorem hks_len {P : Program} {w : World} {L : List Ky} : (hks P w L).length = L.length := List.length_map ..
section
variable {P : Program} {w : World} {A : Around} {E : Value → Shared → Prop} {s : Shared} {a : Addr} {L : List Ky} {es : Array (Int × Value)} {ep : Nat} {t : SetTable}
theorem fit_of (T : TabOk t (hks P w L)) (hn : es.size = L.length) (hm : L.length ≤ t.mask) : t.fits es.size = true := by
  have h1 := T.sz
  rw [hks_len] at h1
  unfold SetTable.fits SetTable.fill
  rw [T.dm, Bool.and_eq_true, beq_iff_eq, decide_eq_true_eq]
  show t.place.size = es.size ∧ t.place.size + 0 ≤ t.mask
  omega
theorem SKy.fit (R : SKy P w s.heap a L es ep t) : t.fits es.size = true := fit_of R.tb (ents_len R.en) (by have := R.rm; omega)
theorem ent_at (h : es.toList = ents P w L) {i : Nat} {r : Ky} (e : L[i]? = some r) : es[i]? = some (hky P w r.2, Value.ref r.1) := by
  rw [← Array.getElem?_toList, h, ents, List.getElem?_map, e]; rfl
/-- the c-th place looked at -/
def pr (t : SetTable) (h : Int) (c : Nat) : SetTable.Probe := nth t.mask (t.probeStart h) c
theorem pr_add (t : SetTable) (h : Int) (c q : Nat) : nth t.mask (pr t h c) q = pr t h (c + q) := (nth_add t.mask c _ q).symm
theorem pr_way (t : SetTable) (h : Int) (c : Nat) : (pr t h c).j = way t.mask h c := rfl
theorem nth_clean (m : Nat) : ∀ (n : Nat) (p : SetTable.Probe), p.dummy = none → (nth m p n).dummy = none
  | 0, _, h => h
  | n + 1, p, h => nth_clean m n (adv m p) (by unfold adv; split <;> exact h)
theorem sk_go (R : SKy P w s.heap a L es ep t) {x : Addr} {k : List Key} (hx : TKy P w s.heap k x) (hu : A.units < cLine) {K : Nat} (lim : K < 10 * SetTable.turns t.mask)
    (free : way t.mask (hky P w k) K ∉ t.place.toList) (taken : ∀ c, c < K → way t.mask (hky P w k) c ∈ t.place.toList) {Q : SetFound → Shared → Prop}
    (yes : k ∈ L.map (·.2) → Q (.there none) s) (no : k ∉ L.map (·.2) → Q (.free (way t.mask (hky P w k) K) false) s) :
    ∀ (fuel c : Nat) (from_ : Option SetTable.Probe), from_.getD (t.probeStart (hky P w k)) = pr t (hky P w k) c → c ≤ K → K - c < fuel →
      (∀ (i : Nat) r, L[i]? = some r → r.2 = k → ∃ d, c ≤ d ∧ d < K ∧ t.place.toList[i]? = some (way t.mask (hky P w k) d)) →
      wpAny (model P w) A (setSearchFrom a (.ref x) (hky P w k) true fuel from_) Q E s := by
  obtain ⟨o, ho, _, hd⟩ := id R.ob
  have quiet : ¬ t.gaveWay = true := by unfold SetTable.gaveWay; rw [mask_odd R.tb.mok]; decide
  have same : t.sameMemory t.moves t.mask = some true := by unfold SetTable.sameMemory; rw [if_pos (beq_self_eq_true _)]
  have hh : ∀ (i : Nat) r, L[i]? = some r → (fun i => (es[i]?.map (·.1)).getD 0) i = hky P w r.2 := fun i r e => by
    show (es[i]?.map (·.1)).getD 0 = _
    rw [ent_at R.en e]; rfl
  intro fuel
  induction fuel with
  | zero => intro c _ _ _ z; exact absurd z (Nat.not_lt_zero _)
  | succ fuel ih =>
    intro c from_ hst hc hf hre
    rw [setSearchFrom_succ]
    refine wpAny_bind (wpAny_setState_of ho hd R.fit ?_)
    dsimp only
    refine wp_if_neg quiet ?_
    try refine wpAny_bind (wpAny_pure ?_)
    have e1 : ∀ q, (nth t.mask (pr t (hky P w k) c) q).j = way t.mask (hky P w k) (c + q) := fun q => congrArg SetTable.Probe.j (pr_add t _ c q)
    rcases go_spec t R.tb.ris R.tb.dm (fun i => (es[i]?.map (·.1)).getD 0) (hky P w k) (10 * SetTable.turns t.mask) (K - c) (pr t (hky P w k) c) (nth_clean _ _ _ rfl) (by omega)
      (fun q hq => by rw [e1]; exact taken (c + q) (by omega)) (by rw [e1, show c + (K - c) = K by omega]; exact free) with ⟨q, i, hq, hi, _, hno, hpr⟩ | ⟨hno, hpr⟩
    · have met : t.probe (fun i => (es[i]?.map (·.1)).getD 0) (hky P w k) (from_.getD (t.probeStart (hky P w k))) = some (.candidate (way t.mask (hky P w k) (c + q)) i (pr t (hky P w k) (c + (q + 1)))) := by
        rw [hst, ← e1, ← pr_add]; exact hpr
      rw [met]
      dsimp only
      rw [e1] at hi
      have hil : i < L.length := by
        have h1 : i < t.place.toList.length := (List.getElem?_eq_some_iff.mp hi).1
        have h2 := R.tb.sz
        rw [hks_len] at h2
        rw [Array.length_toList] at h1
        omega
      obtain ⟨r, hr⟩ : ∃ r, L[i]? = some r := ⟨_, List.getElem?_eq_getElem hil⟩
      have hm : r ∈ L := List.mem_of_getElem? hr
      have hsl : t.slot (way t.mask (hky P w k) (c + q)) = .live i := slot_live R.tb.ris hi
      have goon : wpAny (model P w) A (searchRest a (.ref x) (hky P w k) true fuel es t (way t.mask (hky P w k) (c + q)) i (pr t (hky P w k) (c + (q + 1)))) Q E s := by
        unfold searchRest
        rw [ent_at R.en hr]
        dsimp only
        refine wpAny_bind (wpAny_holding (wpAny_eqBool_tuple hu (R.tk r hm) hx (wpAny_bind (wpAny_setState_of ho hd R.fit ?_))))
        dsimp only
        by_cases hkk : r.2 = k
        · exact wp_if_pos (by simp [hkk]) (wpAny_pure (yes (List.mem_map.mpr ⟨r, hm, hkk⟩)))
        · refine wp_if_neg (by simp [hkk]) ?_
          try refine wpAny_bind (wpAny_pure ?_)
          rw [same]
          dsimp only
          simp only [if_true, hsl, ent_at R.en hr]
          refine wpAny_bind (wpAny_isSame_ref_self (wpAny_bind (wpAny_pure ?_)))
          simp only [if_true]
          refine wp_if_neg (by simp [hkk]) (ih (c + (q + 1)) _ rfl (by omega) (by omega) fun i0 r0 h0 hk0 => ?_)
          obtain ⟨d, a1, a2, a3⟩ := hre i0 r0 h0 hk0
          refine ⟨d, ?_, a2, a3⟩
          rcases Nat.lt_trichotomy d (c + q) with z | z | z
          · exact absurd ((hh i0 r0 h0).trans (by rw [hk0])) (hno (d - c) i0 (by omega) (by rw [e1, show c + (d - c) = d by omega]; exact a3))
          · subst z
            have s0 := slot_live R.tb.ris a3
            rw [hsl] at s0
            injection s0 with s0
            subst s0
            rw [hr] at h0
            cases h0
            exact absurd hk0 hkk
          · omega
      by_cases hl : t.led = true
      · refine wp_if_neg (by simp [hl]) ?_
        try refine wpAny_bind (wpAny_pure ?_)
        exact goon
      · refine wp_if_pos (by simp [hl]) (wpAny_bind (tky_seen hx (fun y hy => ?_) ?_))
        · obtain ⟨e, he, ee⟩ := List.mem_map.mp hy
          have he1 : e ∈ es ∧ e.1 = hky P w k := by simpa using he
          have he2 : e ∈ es.toList := by simpa using he1.1
          rw [R.en] at he2
          obtain ⟨r2, hr2, e2⟩ := List.mem_map.mp he2
          exact ⟨r2.2, r2.1, by rw [← ee, ← e2], R.tk r2 hr2⟩
        · refine wp_if_neg (by decide) ?_
          try refine wpAny_bind (wpAny_pure ?_)
          exact goon
    · have met : t.probe (fun i => (es[i]?.map (·.1)).getD 0) (hky P w k) (from_.getD (t.probeStart (hky P w k))) = some (.empty (way t.mask (hky P w k) K) none) := by
        have e2 : way t.mask (hky P w k) K = (nth t.mask (pr t (hky P w k) c) (K - c)).j := by rw [e1, show c + (K - c) = K by omega]
        rw [hst, e2]; exact hpr
      rw [met]
      dsimp only
      refine wpAny_pure (no fun hm => ?_)
      obtain ⟨r0, h0, hk0⟩ := List.mem_map.mp hm
      obtain ⟨i0, hi0, e0⟩ := List.getElem_of_mem h0
      have h00 : L[i0]? = some r0 := by rw [List.getElem?_eq_getElem hi0, e0]
      obtain ⟨d, a1, a2, a3⟩ := hre i0 r0 h00 hk0
      exact absurd ((hh i0 r0 h00).trans (by rw [hk0])) (hno (d - c) i0 (by omega) (by rw [e1, show c + (d - c) = d by omega]; exact a3))
theorem sk_search (R : SKy P w s.heap a L es ep t) {x : Addr} {k : List Key} (hx : TKy P w s.heap k x) (hu : A.units < cLine) {Q : SetFound → Shared → Prop} (yes : k ∈ L.map (·.2) → Q (.there none) s)
    (no : ∀ K, k ∉ L.map (·.2) → way t.mask (hky P w k) K ∉ t.place.toList → (∀ c, c < K → way t.mask (hky P w k) c ∈ t.place.toList) → Q (.free (way t.mask (hky P w k) K) false) s) :
    wpAny (model P w) A (setSearch a (.ref x) (hky P w k) true) Q E s := by
  obtain ⟨K, lim, free, taken⟩ := R.tb.first (by rw [hks_len]; have := R.rm; omega) (hky P w k)
  have big : 10 * SetTable.turns t.mask ≤ 1420 := by
    unfold SetTable.turns
    rcases R.tb.mok with e | e | e <;> omega
  unfold setSearch
  refine sk_go R hx hu lim free taken yes (fun h => no K h free taken) 100000 0 none rfl (Nat.zero_le _) (by omega) fun i r hr hk => ?_
  have hi : (hks P w L)[i]? = some (hky P w k) := by rw [hks, List.getElem?_map, hr, ← hk]; rfl
  have hil : i < t.place.toList.length := by
    have h1 : i < L.length := (List.getElem?_eq_some_iff.mp hr).1
    have h2 := R.tb.sz
    rw [hks_len] at h2
    rw [Array.length_toList]
    omega
  obtain ⟨d, hd, e⟩ := R.tb.before free hi (List.getElem?_eq_getElem hil)
  exact ⟨d, Nat.zero_le _, hd, by rw [List.getElem?_eq_getElem hil, e]⟩
end
end Kp
end
section
set_option Elab.async false
set_option linter.all false
set_option maxRecDepth 100000
set_option maxHeartbeats 4000000
namespace Kp
open PySem PySem.Spec PyProof.Rows L2
section
variable {P : Program} {w : World} {A : Around} {E : Value → Shared → Prop} {s : Shared} {a : Addr} {L : List Ky} {es : Array (Int × Value)} {ep : Nat} {t : SetTable}
theorem tky_else {h h' : Heap} {k : List Key} {a b : Addr} {o : Obj} {es : Array (Int × Value)} {ep : Nat} {t : SetTable} (x : TKy P w h k b) (ho : h.get? a = some o) (hd : o.data = .set es ep t) (hs : Heap.SameBut a h h') : TKy P w h' k b := by
  obtain ⟨u, its, n, hu, hc, hd', hi⟩ := x
  have ne : b ≠ a := by
    intro z
    rw [z, ho] at hu
    cases hu
    rw [hd] at hd'
    cases hd'
  exact ⟨u, its, n, (hs.2 b ne).trans hu, hc, hd', hi⟩
theorem tky_keep {h h' : Heap} {k : List Key} {b : Addr} (x : TKy P w h k b) (hk : ∀ c o, h.get? c = some o → h'.get? c = some o) : TKy P w h' k b := by
  obtain ⟨u, its, n, hu, r⟩ := x
  exact ⟨u, its, n, hk b u hu, r⟩
theorem take_all {α : Type} (l : List α) : ∀ n, n ≤ l.length → (List.range n).filterMap (fun i => l[i]?) = l.take n
  | 0, _ => rfl
  | n + 1, h => by
    rw [List.range_succ, List.filterMap_append, take_all l n (by omega), List.take_succ, List.getElem?_eq_getElem (by omega), List.filterMap_cons_some (List.getElem?_eq_getElem (by omega))]
    rfl
/-- the entries in another order are the entries of a list in another order -/
theorem ents_order {order : Array Nat} (h : es.toList = ents P w L) (hp : order.toList.Perm (List.range L.length)) :
    ∃ L', (order.filterMap (es[·]?)).toList = ents P w L' ∧ L'.Perm L ∧ hks P w L' = order.toList.map fun i => (es.map (·.1)).getD i 0 := by
  have go : ∀ l : List Nat, (∀ i ∈ l, i < L.length) → l.filterMap (fun i => es[i]?) = ents P w (l.filterMap fun i => L[i]?) ∧ hks P w (l.filterMap fun i => L[i]?) = l.map fun i => (es.map (·.1)).getD i 0 := by
    intro l
    induction l with
    | nil => exact fun _ => ⟨rfl, rfl⟩
    | cons i l ih =>
      intro hl
      obtain ⟨e1, e2⟩ := ih fun j m => hl j (List.mem_cons_of_mem _ m)
      have hL := List.getElem?_eq_getElem (hl i (List.mem_cons_self ..))
      have hE := ent_at h hL
      have hD : (es.map (·.1)).getD i 0 = hky P w (L[i]'(hl i (List.mem_cons_self ..))).2 := by
        have e3 : (es.map (·.1))[i]? = some (hky P w (L[i]'(hl i (List.mem_cons_self ..))).2) := by rw [Array.getElem?_map, hE]; rfl
        simp [Array.getD_eq_getD_getElem?, e3]
      rw [List.filterMap_cons_some hE, List.filterMap_cons_some hL, e1, List.map_cons, ← e2, hD]
      exact ⟨rfl, rfl⟩
  obtain ⟨e1, e2⟩ := go order.toList fun i m => List.mem_range.mp (hp.mem_iff.mp m)
  refine ⟨order.toList.filterMap fun i => L[i]?, by rw [Array.toList_filterMap]; exact e1, ?_, e2⟩
  have pm := hp.filterMap fun i => L[i]?
  rwa [take_all L _ (Nat.le_refl _), List.take_length] at pm
theorem sk_relay {o : Obj} (ho : s.heap.get? a = some o) (hex : o.ExactSet) (hd : o.data = .set es ep t) (en : es.toList = ents P w L) (T : TabOk t (hks P w L)) (un : (L.map (·.2)).Nodup) (tk : ∀ r ∈ L, TKy P w s.heap r.2 r.1)
    (ld : w.params.followText "set-order" = true ∨ t.led = true) (hm : L.length ≤ t.mask) (fw : L.length < 64) {n M : Nat} (hw : SetTable.sizeAbove n - 1 = M) (hM : MaskOk M) (h128 : SetTable.sizeAbove n ≤ 128) (rm : L.length * 5 < M * 3) {Q : Unit → Shared → Prop}
    (q : ∀ h' L' es' ep' t', Heap.SameBut a s.heap h' → SKy P w h' a L' es' ep' t' → L'.Perm L → Q () { s with heap := h' }) : wpAny (model P w) A (setRelay a n) Q E s := by
  have sz := ents_len en
  obtain ⟨t', order, e, hp, T', em, el, _, _⟩ := relaid_ok t (hs := es.map (·.1)) (wanted := n) hw hM (by rw [Array.size_map, sz]; omega)
  rw [Array.size_map, sz] at hp
  obtain ⟨L', r1, pm, r3⟩ := ents_order en hp
  rw [← r3] at T'
  have sz' : (order.filterMap (es[·]?)).size = es.size := by rw [ents_len r1, pm.length_eq, sz]
  have line : ∀ n, n ≤ 128 → n ≤ sizeLine := fun n h => Nat.le_trans h (by decide)
  rw [setRelay_eq]
  refine wpAny_bind (wpAny_setState_of ho hd (fit_of T sz hm) ?_)
  dsimp only
  refine wp_if_neg (Nat.not_lt.mpr (line _ h128)) ?_
  try refine wpAny_bind (wpAny_pure ?_)
  rw [e]
  dsimp only
  refine wpAny_bind (wp_if_neg (by rw [sz']; simp) ?_)
  try refine wpAny_bind (wpAny_pure ?_)
  refine wpAny_pure ?_
  dsimp only
  have sb : Heap.SameBut a s.heap (s.heap.update a (Obj.putSet (order.filterMap (es[·]?)) t')) := Heap.SameBut.update ..
  refine wpAny_storeSet_of ho hd (q _ L' _ (ep + 1) t' sb ⟨⟨_, store_at ho hd, ⟨hex.1, hex.2.1, hex.2.2⟩, rfl⟩, r1, T', (pm.map (·.2)).nodup_iff.mpr un, fun r m => tky_else (tk r (pm.mem_iff.mp m)) ho hd sb, by rw [el]; exact ld, by rw [pm.length_eq, em]; exact rm, by rw [pm.length_eq]; exact fw⟩ pm) (line _ (by rw [sz', sz]; omega))
theorem tabok_plain {hs : List Int} {z : Bool} (T : TabOk t hs) : TabOk { t with plain := z } hs := ⟨T.ris, T.dm, T.sz, T.mok, T.bd, T.reach⟩
/-- once the slot is found: the store, and perhaps a larger table -/
theorem sk_store (R : SKy P w s.heap a L es ep t) {x : Addr} {k : List Key} (hx : TKy P w s.heap k x) (hfew : L.length + 1 < 64) (hm : k ∉ L.map (·.2)) {p : Nat} {t1 : SetTable} (T : TabOk t1 ((hks P w L).take p ++ hky P w k :: (hks P w L).drop p)) (em : t1.mask = t.mask) (el : t1.led = t.led) (ef : t1.fill = L.length + 1)
    {Q : Bool → Shared → Prop} (q : ∀ h' L' es' ep' t', Heap.SameBut a s.heap h' → SKy P w h' a L' es' ep' t' → L'.Perm ((x, k) :: L) → Q true { s with heap := h' }) :
    wpAny (model P w) A (do
      storeSet a (SetTable.insertAt es p (hky P w k, .ref x)) t1
      if !false && t1.tooFull then setRelay a (SetTable.grown (es.size + 1))
      return true) Q E s := by
  obtain ⟨o, ho, hex, hd⟩ := id R.ob
  have rm := R.rm
  have pm := put_perm L p (x, k)
  have ln : (L.take p ++ (x, k) :: L.drop p).length = L.length + 1 := pm.length_eq
  have en1 : (SetTable.insertAt es p (hky P w k, Value.ref x)).toList = ents P w (L.take p ++ (x, k) :: L.drop p) := by
    rw [SetTable.toList_insertAt, R.en]
    unfold ents
    rw [List.map_append, List.map_cons, List.map_take, List.map_drop]
  have T1 : TabOk t1 (hks P w (L.take p ++ (x, k) :: L.drop p)) := by
    have e : hks P w (L.take p ++ (x, k) :: L.drop p) = (hks P w L).take p ++ hky P w k :: (hks P w L).drop p := by
      unfold hks
      rw [List.map_append, List.map_cons, List.map_take, List.map_drop]
    rw [e]; exact T
  have un1 : ((L.take p ++ (x, k) :: L.drop p).map (·.2)).Nodup := (pm.map (·.2)).nodup_iff.mpr (List.nodup_cons.mpr ⟨hm, R.un⟩)
  generalize SetTable.insertAt es p (hky P w k, Value.ref x) = es1 at en1 ⊢
  generalize L.take p ++ (x, k) :: L.drop p = L1 at pm ln en1 T1 un1
  have sz1 := ents_len en1
  have szL := ents_len R.en
  refine wpAny_bind (wpAny_storeSet_of ho hd ?_ (Nat.le_trans (show es1.size ≤ 64 by omega) (by decide)))
  have sb : Heap.SameBut a s.heap (s.heap.update a (Obj.putSet es1 t1)) := Heap.SameBut.update ..
  have ho1 := store_at (es' := es1) (t' := t1) ho hd
  generalize s.heap.update a (Obj.putSet es1 t1) = h1 at sb ho1 ⊢
  have tk1 : ∀ r ∈ L1, TKy P w h1 r.2 r.1 := fun r m => by
    rcases List.mem_cons.mp (pm.mem_iff.mp m) with e | m
    · rw [e]; exact tky_else hx ho hd sb
    · exact tky_else (R.tk r m) ho hd sb
  have ld1 : w.params.followText "set-order" = true ∨ t1.led = true := by rw [el]; exact R.ld
  have ful : t1.tooFull = decide ((L.length + 1) * 5 ≥ t1.mask * 3) := by unfold SetTable.tooFull; rw [ef]
  by_cases hf : t1.tooFull = true
  · have hge : (L.length + 1) * 5 ≥ t1.mask * 3 := by rw [ful, decide_eq_true_eq] at hf; exact hf
    have two : (t.mask = 7 ∧ L.length = 4) ∨ (t.mask = 31 ∧ L.length = 18) := by
      rcases R.tb.mok with e | e | e
      · exact .inl ⟨e, by rw [em, e] at hge; rw [e] at rm; omega⟩
      · exact .inr ⟨e, by rw [em, e] at hge; rw [e] at rm; omega⟩
      · exfalso; rw [em, e] at hge; omega
    have go : ∀ M, SetTable.sizeAbove (SetTable.grown (L.length + 1)) - 1 = M → MaskOk M → SetTable.sizeAbove (SetTable.grown (L.length + 1)) ≤ 128 → (L.length + 1) * 5 < M * 3 →
        wpAny (model P w) A (setRelay a (SetTable.grown (L.length + 1))) (fun _ z => wpAny (model P w) A (pure true) Q E z) E { s with heap := h1 } := fun M g1 g2 g3 g4 =>
      sk_relay (s := { s with heap := h1 }) ho1 ⟨hex.1, hex.2.1, hex.2.2⟩ rfl en1 T1 un1 tk1 ld1 (by rw [ln, em]; rcases two with ⟨e, e2⟩ | ⟨e, e2⟩ <;> omega) (by omega) g1 g2 g3 (by rw [ln]; exact g4)
        fun h2 L2 es2 ep2 t2 sb2 R2 pm2 => wpAny_pure (q h2 L2 es2 ep2 t2 (sb.trans sb2) R2 (pm2.trans pm))
    refine wp_if_pos (by simp [hf]) ?_
    refine wpAny_bind ?_
    rw [szL]
    rcases two with ⟨_, e2⟩ | ⟨_, e2⟩
    · exact go 31 (by rw [e2, size_20]) (.inr (.inl rfl)) (by rw [e2, size_20]; decide) (by omega)
    · exact go 127 (by rw [e2, size_76]) (.inr (.inr rfl)) (by rw [e2, size_76]; decide) (by omega)
  · refine wp_if_neg (by simp [hf]) ?_
    refine wpAny_pure ?_
    refine q h1 L1 es1 (ep + 1) t1 sb ⟨⟨_, ho1, ⟨hex.1, hex.2.1, hex.2.2⟩, rfl⟩, en1, T1, un1, tk1, ld1, ?_, by omega⟩ pm
    rw [ful, decide_eq_true_eq] at hf
    rw [ln]; omega
theorem sk_add (R : SKy P w s.heap a L es ep t) {x : Addr} {k : List Key} (hx : TKy P w s.heap k x) (hu : A.units < cLine) (hfew : L.length + 1 < 64) {Q : Bool → Shared → Prop}
    (q : ∀ z h' L' es' ep' t', Heap.SameBut a s.heap h' → SKy P w h' a L' es' ep' t' → (k ∈ L.map (·.2) → L' = L) → (k ∉ L.map (·.2) → L'.Perm ((x, k) :: L)) → Q z { s with heap := h' }) :
    wpAny (model P w) A (setAddHashed a (.ref x) (hky P w k)) Q E s := by
  obtain ⟨o, ho, hex, hd⟩ := id R.ob
  unfold setAddHashed
  refine wpAny_holding ?_
  rw [show (100000 : Nat) = 99999 + 1 from rfl, setAddHashedIn_succ]
  refine wpAny_bind (wpAny_setState_of ho hd R.fit ?_)
  dsimp only
  refine wp_if_neg (by simp [byScan, Value.scannable]) ?_
  try refine wpAny_bind (wpAny_pure ?_)
  refine wpAny_bind (sk_search R hx hu (fun hm => ?_) fun K hm free taken => ?_)
  · exact wpAny_pure (q false s.heap L es ep t (Heap.SameBut.refl a s.heap) R (fun _ => rfl) fun z => absurd hm z)
  · dsimp only
    refine wpAny_bind (wpAny_setState_of ho hd R.fit ?_)
    dsimp only
    obtain ⟨q1, _, q3, q4, q5, _, _, _, q9⟩ := R.tb.put free taken
    rw [hks_len] at q9
    generalize hpt : t.put (way t.mask (hky P w k) K) = pt at q1 q3 q4 q5 q9 ⊢
    obtain ⟨t1, p⟩ := pt
    dsimp only at q1 q3 q4 q5 q9 ⊢
    subst q1
    have fin : ∀ z : Bool, wpAny (model P w) A (do
        storeSet a (SetTable.insertAt es (SetTable.below t.place (way t.mask (hky P w k) K)) (hky P w k, .ref x)) (if z = true then t1 else { t1 with plain := false })
        if !false && (if z = true then t1 else { t1 with plain := false }).tooFull then setRelay a (SetTable.grown (es.size + 1))
        return true) Q E s := fun z => by
      cases z with
      | true => exact sk_store (t1 := t1) R hx hfew hm q3 q4 q5 q9 fun h' L' es' ep' t' sb R' pm => q true h' L' es' ep' t' sb R' (fun m => absurd m hm) fun _ => pm
      | false => exact sk_store (t1 := { t1 with plain := false }) R hx hfew hm (tabok_plain q3) q4 q5 q9 fun h' L' es' ep' t' sb R' pm => q true h' L' es' ep' t' sb R' (fun m => absurd m hm) fun _ => pm
    by_cases hp : t1.plain = true
    · first
        | exact wpAny_bind (wp_if_pos hp (tky_hsh hx fin))
        | exact wp_if_pos hp (wpAny_bind (tky_hsh hx fin))
    · first
        | exact wpAny_bind (wp_if_neg hp (wpAny_pure (fin true)))
        | exact wp_if_neg hp (wpAny_bind (wpAny_pure (fin true)))
        | exact wp_if_neg hp (fin true)
end
end Kp
end
section
set_option Elab.async false
set_option linter.all false
set_option maxRecDepth 100000
set_option maxHeartbeats 4000000
namespace Kp
open PySem PySem.Spec PyProof.Rows L2
/-- the set L holds what the first i of ks are -/
structure Hs (ks : List Ky) (i : Nat) (L : List Ky) : Prop where
  sub : ∀ r ∈ L, r ∈ ks.take i
  all : ∀ r ∈ ks.take i, r.2 ∈ L.map (·.2)
  len : L.length ≤ i
theorem Hs.zero (ks : List Ky) : Hs ks 0 [] := ⟨fun _ h => (nomatch h), fun _ h => by simp at h, Nat.le_refl 0⟩
theorem Hs.next {ks L L' : List Ky} {i : Nat} {x : Ky} (g : Hs ks i L) (h : ks[i]? = some x) (c1 : x.2 ∈ L.map (·.2) → L' = L) (c2 : x.2 ∉ L.map (·.2) → L'.Perm (x :: L)) : Hs ks (i + 1) L' := by
  have tk := take_next h
  by_cases m : x.2 ∈ L.map (·.2)
  · rw [c1 m]
    refine ⟨fun r hr => by rw [tk]; exact List.mem_append_left _ (g.sub r hr), fun r hr => ?_, Nat.le_succ_of_le g.len⟩
    rw [tk, List.mem_append, List.mem_singleton] at hr
    rcases hr with z | rfl
    · exact g.all r z
    · exact m
  · have pm := c2 m
    refine ⟨fun r hr => ?_, fun r hr => ?_, by rw [pm.length_eq]; exact Nat.succ_le_succ g.len⟩
    · rw [tk, List.mem_append, List.mem_singleton]
      rcases List.mem_cons.mp (pm.mem_iff.mp hr) with e | z
      · exact .inr e
      · exact .inl (g.sub r z)
    · rw [(pm.map (·.2)).mem_iff, List.map_cons, List.mem_cons]
      rw [tk, List.mem_append, List.mem_singleton] at hr
      rcases hr with z | rfl
      · exact .inr (g.all r z)
      · exact .inl rfl
section
variable {P : Program} {w : World} {A : Around} {E : Value → Shared → Prop} {s : Shared}
abbrev blank (w : World) : Obj := { cls := .type "set", dict := none, data := .set #[] 0 (.fresh 0 0 (!w.params.followText "set-order")) }
theorem SKy.keep {h h' : Heap} {a : Addr} {L : List Ky} {es : Array (Int × Value)} {ep : Nat} {t : SetTable} (R : SKy P w h a L es ep t) (ka : ∀ o, h.get? a = some o → h'.get? a = some o) (kt : ∀ r ∈ L, TKy P w h' r.2 r.1) : SKy P w h' a L es ep t := by
  obtain ⟨o, ho, r⟩ := R.ob
  exact ⟨⟨o, ka o ho, r⟩, R.en, R.tb, R.un, kt, R.ld, R.rm, R.fw⟩
theorem sky_new {h : Heap} {a : Addr} (ho : h.get? a = some (blank w)) : SKy P w h a [] #[] 0 (.fresh 0 0 (!w.params.followText "set-order")) :=
  ⟨⟨_, ho, ⟨rfl, rfl, rfl⟩, rfl⟩, rfl, ⟨List.Pairwise.nil, rfl, rfl, .inl rfl, fun _ z => (nomatch z), fun i _ _ z => by simp [hks] at z⟩, List.nodup_nil, fun _ z => (nomatch z), by
    show _ ∨ (!w.params.followText "set-order") = true
    cases w.params.followText "set-order" <;> simp, (by decide : 0 * 5 < 7 * 3), (by decide : 0 < 64)⟩
theorem tky_but {h h' : Heap} {k : List Key} {b S : Addr} (x : TKy P w h k b) (ne : b ≠ S) (hk : ∀ c o, c ≠ S → h.get? c = some o → h'.get? c = some o) : TKy P w h' k b := by
  obtain ⟨u, its, n, hu, r⟩ := x
  exact ⟨u, its, n, hk b u ne hu, r⟩
/-- the loop that fills the set -/
theorem sk_loop {I : Addr} {fp wr : List Addr} {G : Array GenState → Array GenState → Prop} {n : Nat} {Pv : Nat → Value → Prop} {St : Nat → Shared → Prop} {R : Result → Shared → Prop} (W : WalksS P w A.in1 I fp wr G n Pv St) (S : Addr) (hSf : S ∉ fp) (ks : List Ky) (hn : n = ks.length) (hfew : ks.length < 64)
    (hval : ∀ i v, Pv i v → ∃ r, ks[i]? = some r ∧ v = .ref r.1) (h0 : Heap) (hk : ∀ r ∈ ks, TKy P w h0 r.2 r.1 ∧ r.1 ≠ S) (hw0 : ∀ b ∈ wr, h0.get? b = none) (hu : A.in1.units < cLine) :
    ∀ (m i : Nat) (s : Shared), n - i = m → i ≤ n → St i s → (∀ b o, b ≠ S → h0.get? b = some o → s.heap.get? b = some o) → (∃ L es ep t, SKy P w s.heap S L es ep t ∧ Hs ks i L) →
      (∀ s' L es ep t, Moved (S :: wr) G s s' → SKy P w s'.heap S L es ep t → Hs ks n L → (∀ b o, b ≠ S → h0.get? b = some o → s'.heap.get? b = some o) → R (.ok (.ret .none)) s') →
      codeAny (model P w) A (.builtin "set.update.loop" ⟨[.ref S, .ref I], []⟩) R s := by
  have hSw : S ∉ wr := fun z => hSf (W.sub _ z)
  have more : ∀ {s s' : Shared}, Moved wr G s s' → (∀ b o, b ≠ S → h0.get? b = some o → s.heap.get? b = some o) → ∀ b o, b ≠ S → h0.get? b = some o → s'.heap.get? b = some o := fun mv kp b o ne e =>
    mv.heap b o (fun z => by rw [hw0 b z] at e; cases e) (kp b o ne e)
  intro m
  induction m with
  | zero =>
    intro i s hm hi hst kp ⟨L, es, ep, t, hS, g⟩ hR
    obtain rfl : i = n := by omega
    refine codeAny_builtin F.entry_set_update_loop ?_
    rw [Around.under_plainId F.plain_set_update_loop _]
    show wpAny _ A.in1 (pyNext (.ref I) >>= _) _ _ s
    refine wpAny_bind (W.done s _ _ hst fun s' mv => ?_)
    show wpAny _ A.in1 (ret Value.none) _ _ s'
    have kp' := more mv kp
    exact wpAny_pure (hR s' L es ep t (mv.mono fun b z => List.mem_cons_of_mem _ z) (hS.keep (fun o e => mv.heap S o hSw e) fun r z => by
      have := hk r (List.mem_of_mem_take (g.sub r z))
      exact tky_but this.1 this.2 kp') g kp')
  | succ m ih =>
    intro i s hm hi hst kp ⟨L, es, ep, t, hS, g⟩ hR
    have lt : i < n := by omega
    refine codeAny_builtin F.entry_set_update_loop ?_
    rw [Around.under_plainId F.plain_set_update_loop _]
    show wpAny _ A.in1 (pyNext (.ref I) >>= _) _ _ s
    refine wpAny_bind (W.item i s _ _ lt hst fun v s' hP hst' mv => ?_)
    obtain ⟨r, hr, rfl⟩ := hval i v hP
    have kp' := more mv kp
    have at_ : ∀ r ∈ ks, TKy P w s'.heap r.2 r.1 := fun r z => tky_but (hk r z).1 (hk r z).2 kp'
    have hx := at_ r (List.mem_of_getElem? hr)
    have hS' : SKy P w s'.heap S L es ep t := hS.keep (fun o e => mv.heap S o hSw e) fun r z => at_ r (List.mem_of_mem_take (g.sub r z))
    show wpAny _ A.in1 (holding [Value.ref r.1] (setAdd S (.ref r.1)) >>= _) _ _ s'
    unfold setAdd
    refine wpAny_bind (wpAny_holding (wpAny_holding (wpAny_bind (wpAny_pyHash_tuple hu hx ?_))))
    refine sk_add (s := { s' with toks := s'.toks + (r.2.length + 1) }) hS' hx hu (by have := g.len; omega) fun z h' L' es' ep' t' sb hS2 c1 c2 => ?_
    refine wpAny_pure ⟨plainId_quiet F.plain_set_update_loop _, ih (i + 1) _ (by omega) lt (W.frame _ s' _ _ hst' (Nat.le_add_right _ _) fun b hb o e => ?_) (fun b o ne e => (sb.2 b ne).trans (kp' b o ne e)) ⟨L', es', ep', t', hS2, g.next hr c1 c2⟩ fun s'' L2 es2 ep2 t2 mv2 hS3 g3 kp3 => ?_⟩
    · exact (sb.2 b (fun z => hSf (z ▸ hb))).trans e
    · refine hR s'' L2 es2 ep2 t2 (Moved.trans W.gtrans ((mv.mono fun b z => List.mem_cons_of_mem _ z).then_heap (Nat.le_add_right _ _) fun b o hb e => ?_) mv2) hS3 g3 kp3
      exact (sb.2 b (fun z => hb (z ▸ List.mem_cons_self ..))).trans e
/-- what set(xs) walks -/
def Src (h : Heap) (l : Addr) (items : Array Value) : Prop := h.IsList l items ∨ h.IsTuple l items
theorem ks_val {items : Array Value} {ks : List Ky} (hit : items.toList = ks.map fun r => Value.ref r.1) (i : Nat) (v : Value) (hv : items[i]? = some v) : ∃ r, ks[i]? = some r ∧ v = .ref r.1 := by
  rw [← Array.getElem?_toList, hit, List.getElem?_map] at hv
  cases q : ks[i]? with
  | none => rw [q] at hv; cases hv
  | some r => rw [q] at hv; exact ⟨r, rfl, (Option.some.inj hv).symm⟩
/-- what is left behind -/
def Done (P : Program) (w : World) (s : Shared) (S : Addr) (ks : List Ky) (z : Shared) : Prop :=
  ∃ h' tk L es ep t, z = { s with heap := h', toks := tk } ∧ SKy P w h' S L es ep t ∧ Hs ks ks.length L ∧ ∀ b o, b ≠ S → s.heap.get? b = some o → h'.get? b = some o
theorem moved_done {S : Addr} {ks : List Ky} {s1 s' : Shared} {fp : List Addr} {L : List Ky} {es : Array (Int × Value)} {ep : Nat} {t : SetTable} {n : Nat} (hn : n = ks.length) (e1 : s1 = { s with heap := s1.heap }) (mv : Moved fp (fun a b => b = a) s1 s') (R : SKy P w s'.heap S L es ep t) (g : Hs ks n L)
    (kp : ∀ b o, b ≠ S → s.heap.get? b = some o → s'.heap.get? b = some o) : Done P w s S ks s' := by
  subst hn
  refine ⟨s'.heap, s'.toks, L, es, ep, t, ?_, R, g, kp⟩
  have g1 := mv.gens
  have g2 := mv.drawn
  have g3 := mv.os
  rw [e1] at g1 g2 g3
  obtain ⟨_, _, _, _, _⟩ := s'
  dsimp only at g1 g2 g3
  subst g1; subst g2; subst g3
  rfl
theorem upd_list {l S : Addr} {items : Array Value} {ks : List Ky} {Q : Unit → Shared → Prop} (hh : A.handled = none) (hl : s.heap.IsList l items) (hit : items.toList = ks.map fun r => Value.ref r.1) (hk : ∀ r ∈ ks, TKy P w s.heap r.2 r.1 ∧ r.1 ≠ S) (hfew : ks.length < 64) (hu : A.in1.units < cLine)
    (hS : s.heap.get? S = some (blank w)) (hlS : l ≠ S) (q : ∀ z, Done P w s S ks z → Q () z) : wpAny (model P w) A (Builtin.Frozenset.updateFrom "set.__init__" S (.ref l)) Q E s := by
  have sz : items.size = ks.length := by rw [← Array.length_toList, hit, List.length_map]
  obtain ⟨ol, hol, hcl, nl, hdl⟩ := id hl
  obtain ⟨ocls, odict, odata, oslots⟩ := ol
  simp only at hcl hdl
  subst hcl; subst hdl
  have f1 := F.sub_list_set
  have f2 := F.sub_list_frozenset
  have f3 : (Value.type "list" == Value.type "dict") = false := by decide
  unfold Builtin.Frozenset.updateFrom
  generalize hPI : pyIter = PI
  wp_walk
  subst hPI
  refine wpAny_pyIter_list hl (wpAny_bind (wpAny_runValue ?_))
  have fresh : ∀ b o, s.heap.get? b = some o → b ≠ s.heap.objs.size := fun b o e => Nat.ne_of_lt (Heap.lt_size e)
  have ne1 := fresh S _ hS
  have ne2 := fresh l _ hol
  have none_ : s.heap.get? s.heap.objs.size = none := by
    cases e : s.heap.get? s.heap.objs.size with
    | none => rfl
    | some o => exact absurd rfl (fresh _ _ e)
  refine sk_loop ((Walks.list (by simp [hh]) s.heap.objs.size l ne2 items).toS) S (by simp [ne1, Ne.symm hlS]) ks sz hfew (ks_val hit) s.heap hk (fun b z => by rw [List.mem_singleton.mp z]; exact none_) hu items.size 0 _ (by omega) (Nat.zero_le _)
    ⟨⟨_, Heap.get?_push_size _ rfl, rfl, rfl⟩, hl.push _⟩ (fun b o _ e => Heap.get?_push_of_some _ e) ⟨[], #[], 0, _, sky_new (Heap.get?_push_of_some _ hS), Hs.zero ks⟩ fun s' L es ep t mv R g kp => ?_
  exact wpAny_pure (q _ (moved_done sz rfl mv R g kp))
end
end Kp
end
section
set_option Elab.async false
set_option linter.all false
set_option maxRecDepth 100000
set_option maxHeartbeats 4000000
namespace Kp
open PySem PySem.Spec PyProof.Rows L2
section
variable {P : Program} {w : World} {A : Around} {E : Value → Shared → Prop} {s : Shared}
theorem upd_tup {l S : Addr} {items : Array Value} {ks : List Ky} {Q : Unit → Shared → Prop} (hh : A.handled = none) (hl : s.heap.IsTuple l items) (hit : items.toList = ks.map fun r => Value.ref r.1) (hk : ∀ r ∈ ks, TKy P w s.heap r.2 r.1 ∧ r.1 ≠ S) (hfew : ks.length < 64) (hu : A.in1.units < cLine)
    (hS : s.heap.get? S = some (blank w)) (hlS : l ≠ S) (q : ∀ z, Done P w s S ks z → Q () z) : wpAny (model P w) A (Builtin.Frozenset.updateFrom "set.__init__" S (.ref l)) Q E s := by
  have sz : items.size = ks.length := by rw [← Array.length_toList, hit, List.length_map]
  obtain ⟨ol, hol, hcl, nl, hdl⟩ := id hl
  obtain ⟨ocls, odict, odata, oslots⟩ := ol
  simp only at hcl hdl
  subst hcl; subst hdl
  have f1 := F.sub_tuple_set
  have f2 := F.sub_tuple_frozenset
  have f3 : (Value.type "tuple" == Value.type "dict") = false := by decide
  unfold Builtin.Frozenset.updateFrom
  generalize hPI : pyIter = PI
  wp_walk
  subst hPI
  refine wpAny_pyIter_tuple hl (wpAny_bind (wpAny_runValue ?_))
  have fresh : ∀ b o, s.heap.get? b = some o → b ≠ s.heap.objs.size := fun b o e => Nat.ne_of_lt (Heap.lt_size e)
  have ne1 := fresh S _ hS
  have ne2 := fresh l _ hol
  have none_ : s.heap.get? s.heap.objs.size = none := by
    cases e : s.heap.get? s.heap.objs.size with
    | none => rfl
    | some o => exact absurd rfl (fresh _ _ e)
  refine sk_loop ((Walks.tuple (by simp [hh]) s.heap.objs.size l ne2 items).toS) S (by simp [ne1, Ne.symm hlS]) ks sz hfew (ks_val hit) s.heap hk (fun b z => by rw [List.mem_singleton.mp z]; exact none_) hu items.size 0 _ (by omega) (Nat.zero_le _)
    ⟨⟨_, Heap.get?_push_size _ rfl, rfl, rfl⟩, hl.push _⟩ (fun b o _ e => Heap.get?_push_of_some _ e) ⟨[], #[], 0, _, sky_new (Heap.get?_push_of_some _ hS), Hs.zero ks⟩ fun s' L es ep t mv R g kp => ?_
  exact wpAny_pure (q _ (moved_done sz rfl mv R g kp))
/-- set(xs) of a list or tuple of such tuples -/
theorem call_sk {l : Addr} {items : Array Value} (ks : List Ky) {Q : Value → Shared → Prop} (hh : A.handled = none) (hl : Src s.heap l items) (hit : items.toList = ks.map fun r => Value.ref r.1) (hk : ∀ r ∈ ks, TKy P w s.heap r.2 r.1) (hfew : ks.length < 64) (hu : A.units + 3 < cLine)
    (q : ∀ (h' : Heap) (tk : Nat) L es ep t, SKy P w h' s.heap.objs.size L es ep t → Hs ks ks.length L → (∀ b o, s.heap.get? b = some o → h'.get? b = some o) → Q (.ref s.heap.objs.size) { s with heap := h', toks := tk }) :
    wpAny (model P w) A (call (.type "set") [.ref l]) Q E s := by
  obtain ⟨c, tl, hmro⟩ := F.called_set.mro
  have hmade := F.called_set.made
  have hsub := F.called_set.sub
  refine wpAny_call (codeAny_of_tree (show wpAny _ _ (callAny (.type "set") _) _ _ _ from ?_))
  refine wpAny_pure ⟨Code.quiet_builtin _ (by decide +kernel), codeAny_builtin F.entry_type_call ?_⟩
  rw [Around.under_plain (weight_type_call_type "set" [.ref l] []) rfl]
  have h1 := F.called_set.notType
  have h2 := F.called_set.canCreate
  have hct := F.typeCall_set_1 (.ref l)
  repeat (any_goals (first | assumption | wp_step))
  refine codeAny_mono (code_set_led1 (.ref l) (E := E) (Q₁ := fun v z => v = .ref s.heap.objs.size ∧ z = { s with heap := s.heap.push (blank w) }) ⟨rfl, rfl⟩) fun r z hr => ?_
  cases r with
  | error e => exact hr
  | ok fl =>
    cases fl with
    | ret v =>
      obtain ⟨rfl, rfl⟩ := hr
      have hS : (s.heap.push (blank w)).get? s.heap.objs.size = some (blank w) := Heap.get?_push_size _ rfl
      have hT : Shared.TypeIs { s with heap := s.heap.push (blank w) } (.ref s.heap.objs.size) "set" := ⟨_, hS, rfl⟩
      have hli := F.called_set.init.lookup
      have hbi := F.called_set.init.bind (.ref s.heap.objs.size)
      have old : ∀ b o, s.heap.get? b = some o → (s.heap.push (blank w)).get? b = some o := fun b o e => Heap.get?_push_of_some _ e
      have ne_ : ∀ b o, s.heap.get? b = some o → b ≠ s.heap.objs.size := fun b o e => Nat.ne_of_lt (Heap.lt_size e)
      repeat (any_goals (first | assumption | wp_step))
      refine codeAny_mono (codeAny_call_builtin (R := wants (fun r z => r = .none ∧ Done P w { s with heap := s.heap.push (blank w) } s.heap.objs.size ks z) E) F.called_set.init.plain F.entry_set_init (check_set_init_1 hT ?_)) fun r2 s2 hr2 => ?_
      · have hk1 : ∀ r ∈ ks, TKy P w (s.heap.push (blank w)) r.2 r.1 ∧ r.1 ≠ s.heap.objs.size := fun r m => by
          refine ⟨tky_keep (hk r m) old, ?_⟩
          obtain ⟨u, its, n, hu, _⟩ := hk r m
          exact ne_ _ u hu
        unfold Builtin.«set.__init__» noKeywords
        generalize hUF : Builtin.Frozenset.updateFrom = UF
        wp_walk
        subst hUF
        rcases hl with hl | hl
        · exact upd_list (s := { s with heap := s.heap.push (blank w) }) (by simp [hh]) (hl.push _) hit hk1 hfew hu hS (ne_ _ _ hl.choose_spec.1) fun z d => wpAny_pure ⟨rfl, d⟩
        · exact upd_tup (s := { s with heap := s.heap.push (blank w) }) (by simp [hh]) (hl.push _) hit hk1 hfew hu hS (ne_ _ _ hl.choose_spec.1) fun z d => wpAny_pure ⟨rfl, d⟩
      · cases r2 with
        | error e => exact hr2
        | ok fl2 =>
          cases fl2 with
          | ret r =>
            obtain ⟨rfl, h', tk, L, es, ep, t, rfl, R, g, kp⟩ := hr2
            repeat (any_goals (first | assumption | wp_step))
            exact q _ _ _ _ _ _ R g fun b o e => kp b o (ne_ b o e) (old b o e)
          | _ => exact hr2.elim
    | _ => exact hr.elim
end
end Kp
end
section
set_option Elab.async false
set_option linter.all false
set_option maxRecDepth 100000
set_option maxHeartbeats 4000000
namespace Kp
open PySem PySem.Spec PyProof.Rows L2
/-! keys as data -/
def keyD : Key → PyData
  | .inl i => .int i
  | .inr x => .str x
def keysD (k : List Key) : PyData := .tuple (k.map keyD)
theorem perm_map_of {α β : Type} (f : α → β) {l m : List β} (p : l.Perm m) : ∀ L : List α, L.map f = l → ∃ M : List α, M.Perm L ∧ M.map f = m := by
  induction p with
  | nil => intro L e; exact ⟨L, List.Perm.refl _, e⟩
  | cons x _ ih =>
    intro L e
    cases L with
    | nil => cases e
    | cons y L =>
      obtain ⟨e1, e2⟩ := List.cons.inj e
      obtain ⟨M, p, e3⟩ := ih L e2
      exact ⟨y :: M, p.cons y, by rw [List.map_cons, e1, e3]⟩
  | swap x y l =>
    intro L e
    match L, e with
    | a :: b :: L, e =>
      obtain ⟨e1, e2⟩ := List.cons.inj e
      obtain ⟨e2, e3⟩ := List.cons.inj e2
      exact ⟨b :: a :: L, List.Perm.swap _ _ _, by rw [List.map_cons, List.map_cons, e1, e2, e3]⟩
  | trans _ _ ih1 ih2 =>
    intro L e
    obtain ⟨M, p1, e1⟩ := ih1 L e
    obtain ⟨N, p2, e2⟩ := ih2 M e1
    exact ⟨N, p2.trans p1, e2⟩
section
variable {P : Program} {w : World} {A : Around} {E : Value → Shared → Prop} {s : Shared}
theorem reads_flat {h : Heap} {k : List Key} {us : List Value} (x : ItemsAre (mixKind P w) k us) : ReadsAll h us (k.map keyD) [] := by
  induction x with
  | nil => exact .nil
  | @cons k0 v ks vs hv _ ih =>
    have e : Reads h v (keyD k0) [] := by
      rcases keyIs_shape hv with ⟨i, t, rfl, rfl⟩ | ⟨y, t, rfl, rfl⟩
      · exact .int i t
      · exact .str y t
    exact ReadsAll.cons e ih
theorem tky_reads {h : Heap} {k : List Key} {b : Addr} (x : TKy P w h k b) : Reads h (.ref b) (keysD k) [] := by
  obtain ⟨u, its, n, hu, hc, hd, hi⟩ := x
  exact .tuple hu hc hd (reads_flat hi)
theorem each_refs {R : Value → Ky → Prop} : ∀ (L : List Ky), (∀ r ∈ L, R (.ref r.1) r) → PySem.W.EachIs R (L.map fun r => Value.ref r.1) L
  | [], _ => .nil
  | r :: L, h => .cons (h r (List.mem_cons_self ..)) (each_refs L fun q m => h q (List.mem_cons_of_mem _ m))
theorem refs_each : ∀ {vs : List Value} {L : List Ky}, PySem.W.EachIs (fun v r => v = Value.ref r.1) vs L → vs = L.map fun r => Value.ref r.1
  | _, _, .nil => rfl
  | _, _, .cons h t => by rw [h, refs_each t]; rfl
abbrev leK (q r : Ky) : Bool := PySem.W.dataLe false (fun r : Ky => keysD r.2) q r
theorem leK_eq (q r : Ky) : leK q r = !PySem.W.dataLt (keysD r.2) (keysD q.2) := rfl
/-- sorted(such a set) -/
theorem call_skSorted {a : Addr} {L : List Ky} {es : Array (Int × Value)} {ep : Nat} {t : SetTable} {Q : Value → Shared → Prop} (R : SKy P w s.heap a L es ep t) (hh : A.handled = none) (al : ∀ q ∈ L, ∀ r ∈ L, PySem.W.alike (keysD q.2) (keysD r.2) = true) (ne : ∀ r ∈ L, r.2 ≠ []) (hu : A.units + 10 < cLine)
    (q : ∀ z p (out : Array Value) (c : Nat) (L' : List Ky), (∀ b o, s.heap.get? b = some o → z.heap.get? b = some o) → z.gens = s.gens → z.os = s.os → s.heap.objs.size ≤ p → z.heap.get? p = some (seqObj "list" out c) → out.toList = L'.map (fun r => Value.ref r.1) → L'.Perm L →
      L'.Pairwise (fun q r => leK q r = true) → Q (.ref p) z) : wpAny (model P w) A (call (.builtin "sorted") [.ref a]) Q E s := by
  obtain ⟨o, ho, hex, hd⟩ := id R.ob
  have sz := ents_len R.en
  have fw := R.fw
  refine Calls.call_function_entry kind_sorted plain_sorted entry_sorted (args_sorted1 _) ?_
  unfold Builtin.«sorted»
  refine wpAny_bind (m := checkCount "sorted" 1 1 _) (wpAny_pure (wpAny_bind (collect_set (A := A.in1) hh ⟨o, ho, hex.1, hd⟩ R.fit (by unfold scanBound; omega) R.tb.ris R.ld fun s1 vs k1 hz g1 o1 pm => ?_)))
  rw [R.en, ents, List.map_map] at pm
  obtain ⟨L1, p1, e1⟩ := perm_map_of (fun r : Ky => Value.ref r.1) pm.symm L rfl
  subst e1
  have n1 : L1.length < 64 := by rw [p1.length_eq]; exact fw
  have lin : ∀ n, n < 64 → n ≤ sizeLine := fun n h => Nat.le_trans (Nat.le_of_lt h) (by decide)
  refine wpAny_bind (wpAny_newList ?_ (by rw [List.length_map]; exact lin _ n1))
  generalize hvs : (L1.map fun r : Ky => Value.ref r.1) = vs
  have hoL : (s1.heap.push (seqObj "list" vs.toArray 0)).get? s1.heap.objs.size = some (seqObj "list" vs.toArray 0) := Heap.get?_push_size _ rfl
  have rd : ∀ r ∈ L1, Reads (s1.heap.push (seqObj "list" vs.toArray 0)) (.ref r.1) (keysD r.2) [] := fun r m => tky_reads (P := P) (w := w) (tky_keep (R.tk r (p1.mem_iff.mp m)) fun b u e => Heap.get?_push_of_some _ (k1 b u e))
  have ea1 : PySem.W.EachIs (fun v (r : Ky) => v = Value.ref r.1) vs L1 := by rw [← hvs]; exact each_refs L1 fun _ _ => rfl
  have ea2 : PySem.W.EachIs (fun v (r : Ky) => ∃ as, Reads (s1.heap.push (seqObj "list" vs.toArray 0)) v (keysD r.2) as ∧ s1.heap.objs.size ∉ as) vs L1 := by
    generalize s1.heap.push (seqObj "list" vs.toArray 0) = hp at rd ⊢
    rw [← hvs]
    exact each_refs L1 fun r m => ⟨[], rd r m, fun z => nomatch z⟩
  have dep : ∀ k : List Key, (keysD k).depth ≤ 1 := fun k => by
    have d0 : ∀ k : List Key, PyData.depthAll (k.map keyD) = 0 := fun k => by
      induction k with
      | nil => rfl
      | cons x k ih =>
        rw [List.map_cons, PyData.depthAll, ih]
        cases x <;> rfl
    unfold keysD
    rw [PyData.depth, d0]
    exact Nat.le_refl _
  refine wpAny_bind (wpAny_holding (PySem.W.list_sort_data (s := { s1 with heap := s1.heap.push (seqObj "list" vs.toArray 0) }) (R := fun v (r : Ky) => v = Value.ref r.1) (enc := fun r : Ky => keysD r.2) (bs := L1) hoL ea1 ea2 ?_ (.inl ?_) (lin _ n1) (fun r m => ?_) fun out hlen ea => ?_))
  · intro d hd d' hd'
    obtain ⟨q1, m1, rfl⟩ := List.mem_map.mp hd
    obtain ⟨q2, m2, rfl⟩ := List.mem_map.mp hd'
    exact al _ (p1.mem_iff.mp m1) _ (p1.mem_iff.mp m2)
  · intro d hd
    obtain ⟨q1, m1, rfl⟩ := List.mem_map.mp hd
    have n0 := ne _ (p1.mem_iff.mp m1)
    show ∃ x r, PyData.tuple (q1.2.map keyD) = .tuple (x :: r)
    cases h : q1.2 with
    | nil => exact absurd h n0
    | cons x k => exact ⟨_, _, rfl⟩
  · have := dep r.2
    show A.in1.units + 1 + (keysD r.2).depth < cLine
    have h1 : A.in1.units = A.units + 1 ∨ A.in1.units ≤ A.units + 3 := .inr (by simp [Around.in1, Around.units] <;> omega)
    omega
  · have e2 := refs_each ea
    obtain ⟨c, hc⟩ := sortedHeap_at (vs := vs) (out := out.toArray) hoL
    refine wpAny_pure ⟨_, rfl, q _ s1.heap.objs.size out.toArray c _ (fun b u e => ?_) g1 o1 hz hc (by rw [← e2]) ((List.mergeSort_perm ..).trans p1) ?_⟩
    · have e3 := k1 b u e
      have lt := Heap.lt_size e3
      show (sortedHeap (s1.heap.push (seqObj "list" vs.toArray 0)) s1.heap.objs.size vs out.toArray).get? b = some u
      rw [sortedHeap_old (Nat.ne_of_lt lt) (by rw [size_push']; exact Nat.lt_succ_of_lt lt)]
      exact Heap.get?_push_of_some _ e3
    · refine List.pairwise_mergeSort (le := leK) (fun a b c h1 h2 => ?_) (fun a b => ?_) L1
      · rw [leK_eq, Bool.not_eq_true'] at h1 h2 ⊢
        cases h : PySem.W.dataLt (keysD c.2) (keysD a.2) with
        | false => rfl
        | true =>
          rcases lex_negTrans (O := PyProof.Rows.itemOrd) _ (PySem.W.keyToks (keysD b.2)) _ h with z | z
          · exact absurd (z.symm.trans h2) (by decide)
          · exact absurd (z.symm.trans h1) (by decide)
      · rw [leK_eq, leK_eq]
        cases h1 : PySem.W.dataLt (keysD b.2) (keysD a.2) with
        | false => rfl
        | true =>
          cases h2 : PySem.W.dataLt (keysD a.2) (keysD b.2) with
          | false => rfl
          | true =>
            have := lex_trans (O := PyProof.Rows.itemOrd) _ _ _ h1 h2
            rw [lex_irrefl] at this
            cases this
end
/-! as objects of the walk -/
def SKo (P : Program) (w : World) (a : Addr) (L : List Ky) : HO := .ext fun h => ∃ es ep t, (∃ o, h.get? a = some o ∧ o.ExactSet ∧ o.data = .set es ep t) ∧ es.toList = ents P w L ∧ TabOk t (hks P w L) ∧ (L.map (·.2)).Nodup ∧ (w.params.followText "set-order" = true ∨ t.led = true) ∧ L.length * 5 < t.mask * 3 ∧ L.length < 64
theorem sko_nt {P : Program} {w : World} {a : Addr} {L : List Ky} (ps : Array Value) : SKo P w a L ≠ .tbl ps := fun z => by
  unfold SKo at z
  cases z
theorem sko_new {P : Program} {w : World} {H : Hp} {h : Heap} {a : Addr} {L : List Ky} {es : Array (Int × Value)} {ep : Nat} {t : SetTable} (R : SKy P w h a L es ep t) : ObjOk P w H h a (SKo P w a L) := by
  obtain ⟨o, ho, r⟩ := id R.ob
  refine ⟨⟨es, ep, t, R.ob, R.en, R.tb, R.un, R.ld, R.rm, R.fw⟩, ⟨o, ho⟩, fun h1 h2 p k => ?_⟩
  obtain ⟨es', ep', t', ⟨o', ho', r'⟩, q'⟩ := p
  exact ⟨es', ep', t', ⟨o', k o' ho', r'⟩, q'⟩
section
variable {X : Cx}
theorem inv_tky {pins : List (Addr × Obj)} {σ : L2.St} {H : Hp} {s : Shared} {b : Addr} {k : List Key} (I : Inv X pins σ H s) (h : SqT X.K H b (k.map kV)) : TKy X.prog X.w s.heap k b := by
  obtain ⟨its, r, ⟨o, ho, hc, n, hd⟩, _⟩ := I.tuple h
  exact ⟨o, its.toArray, n, ho, hc, hd, by simpa using items_are r⟩
theorem ref_vals {L : List Ky} : ∀ {us : List Value}, Vals (L.map fun r => V.ref r.1) us → us = L.map fun r => Value.ref r.1 := by
  induction L with
  | nil => intro us h; cases h; rfl
  | cons r L ih =>
    intro us h
    cases h with
    | cons a b => cases a; rw [ih b]; rfl
theorem vals_ref : ∀ L : List Ky, Vals (L.map fun r => V.ref r.1) (L.map fun r => Value.ref r.1)
  | [] => .nil
  | _ :: L => .cons rfl (vals_ref L)
def rSetK (K : Fg) (P : Program) (w : World) : List V → Hp → VK → Prop := fun xs H Q => ∃ (l : Addr) (ks : List Ky), xs = [V.ref l] ∧ (SqL K H l (ks.map fun r => V.ref r.1) ∨ SqT K H l (ks.map fun r => V.ref r.1)) ∧ (∀ r ∈ ks, SqT K H r.1 (r.2.map kV)) ∧ ks.length < 64 ∧
  ∀ a L, H a = none → (∀ r ∈ L, r ∈ ks) → (∀ r ∈ ks, r.2 ∈ L.map (·.2)) → Q (.ref a) (upd H a (SKo P w a L))
theorem cr_setK (hc : X.calm = true) (hu : X.A.units + 64 < cLine) : CallR X (.type "set") (rSetK X.K X.prog X.w) := by
  intro pins s σ H xs us Q I r h
  obtain ⟨l, ks, rfl, hl, hk, hf, q⟩ := h
  rw [Vals.ref1 r]
  have src : ∃ its : List Value, Src s.heap l its.toArray ∧ its = ks.map fun r => Value.ref r.1 := by
    rcases hl with hl | hl
    · obtain ⟨its, rv, pl, hz⟩ := I.list hl
      exact ⟨its, .inl pl.isList, ref_vals rv⟩
    · obtain ⟨its, rv, pl, hz⟩ := I.tuple hl
      exact ⟨its, .inr pl, ref_vals rv⟩
  obtain ⟨its, hs, hi⟩ := src
  have hn : H s.heap.objs.size = none := I.hok.fresh (Nat.le_refl _)
  refine call_sk (P := X.prog) (w := X.w) ks (I.ok.hd hc) hs (by simpa using hi) (fun r m => inv_tky I (hk r m)) hf (by omega) fun h' tk L es ep t R g k => ?_
  exact ⟨.ref s.heap.objs.size, upd H s.heap.objs.size (SKo X.prog X.w s.heap.objs.size L), I.laid (t' := tk) k (Nat.le_refl _) (sko_new R), rfl, q _ L hn (fun r m => List.mem_of_mem_take (g.sub r m)) fun r m => g.all r (by rw [List.take_length]; exact m)⟩
def rSortK (K : Fg) (P : Program) (w : World) : List V → Hp → VK → Prop := fun vs H Q => ∃ (a : Addr) (L : List Ky), vs = [V.ref a] ∧ H a = some (SKo P w a L) ∧ (∀ r ∈ L, SqT K H r.1 (r.2.map kV)) ∧ (∀ q ∈ L, ∀ r ∈ L, PySem.W.alike (keysD q.2) (keysD r.2) = true) ∧ (∀ r ∈ L, r.2 ≠ []) ∧
  ∀ (L' : List Ky) (p : Addr), L'.Perm L → (L'.map (·.2)).Nodup → L'.length < 64 → L'.Pairwise (fun q r => leK q r = true) → H p = none → Q (.ref p) (upd H p (.lst (L'.map fun r => V.ref r.1)))
theorem cr_sortK (hc : X.calm = true) (hu : X.A.units + 64 < cLine) : CallR X (.builtin "sorted") (rSortK X.K X.prog X.w) := by
  intro pins s σ H vs us Q I r h
  obtain ⟨a, L, rfl, ha, hk, al, ne, q⟩ := h
  obtain ⟨es, ep, t, ob, en, tb, un, ld, rm, fw⟩ := (I.hok a _ ha).1
  have R : SKy X.prog X.w s.heap a L es ep t := ⟨ob, en, tb, un, fun r m => inv_tky I (hk r m), ld, rm, fw⟩
  rw [Vals.ref1 r]
  refine call_skSorted R (I.ok.hd hc) al ne (by omega) fun z p out c L' k g o hp hg hout pm pw => ?_
  have n1 : L'.length < 64 := by rw [pm.length_eq]; exact fw
  have hn : H p = none := I.hok.fresh hp
  have J : Inv X pins σ (upd H p (.lst (L'.map fun r => V.ref r.1))) { s with heap := z.heap, gens := z.gens, drawn := z.drawn, toks := z.toks } :=
    I.call (ch := []) (Un.laid k hp hn) (I.hok.laid k hp ⟨by rw [List.length_map]; exact Nat.le_trans (Nat.le_of_lt n1) (by decide), out.toList, c, by rw [hout]; exact vals_ref L', hg⟩) (by rw [g]; exact I.bare) (fun _ m => nomatch m)
  have e : z = { s with heap := z.heap, gens := z.gens, drawn := z.drawn, toks := z.toks } := by
    obtain ⟨_, _, _, _, _⟩ := z
    obtain ⟨_, _, _, _, _⟩ := s
    cases o
    rfl
  rw [e]
  exact ⟨.ref p, _, J, rfl, q L' p pm ((pm.map (·.2)).nodup_iff.mpr un) n1 pw hn⟩
end
end Kp
end
section
set_option Elab.async false
set_option linter.all false
set_option maxRecDepth 100000
set_option maxHeartbeats 4000000
namespace Kp
open PySem PySem.Spec PyProof.Rows L2
/-! the order of such tuples -/
def ltK (a b : List Key) : Bool := PySem.W.dataLt (keysD a) (keysD b)
theorem toks_inj : ∀ {a b : List Key}, PySem.W.keyToksAll (a.map keyD) = PySem.W.keyToksAll (b.map keyD) → a = b
  | [], [], _ => rfl
  | [], y :: b, h => by
    rw [List.map_nil, List.map_cons, PySem.W.keyToksAll, PySem.W.keyToksAll] at h
    injection h with h _
    cases h
  | x :: a, [], h => by
    rw [List.map_nil, List.map_cons, PySem.W.keyToksAll, PySem.W.keyToksAll] at h
    injection h with h _
    cases h
  | x :: a, y :: b, h => by
    rw [List.map_cons, List.map_cons, PySem.W.keyToksAll, PySem.W.keyToksAll] at h
    injection h with _ h
    cases x with
    | inl i =>
      cases y with
      | inl j =>
        rw [keyD, keyD, PySem.W.keyToks, PySem.W.keyToks] at h
        injection h with h1 h2
        injection h1 with h1
        rw [h1, toks_inj h2]
      | inr z =>
        rw [keyD, keyD, PySem.W.keyToks, PySem.W.keyToks] at h
        injection h with h1 h2
        cases h1
    | inr u =>
      cases y with
      | inl j =>
        rw [keyD, keyD, PySem.W.keyToks, PySem.W.keyToks] at h
        injection h with h1 h2
        cases h1
      | inr z =>
        rw [keyD, keyD, PySem.W.keyToks, PySem.W.keyToks] at h
        injection h with h1 h2
        injection h1 with h1
        rw [PySem.W.str_of_cps h1, toks_inj h2]
theorem ltK_self (a : List Key) : ltK a a = false := lex_irrefl (O := PyProof.Rows.itemOrd) _
theorem ltK_tr {a b c : List Key} (h : ltK a b = true) (k : ltK b c = true) : ltK a c = true := lex_trans (O := PyProof.Rows.itemOrd) _ _ _ h k
theorem ltK_tot {a b : List Key} (h : ltK a b = false) (n : a ≠ b) : ltK b a = true := by
  cases e : ltK b a with
  | true => rfl
  | false =>
    have := lex_total (O := PyProof.Rows.itemOrd) _ _ h e
    exact absurd (toks_inj (show PySem.W.keyToksAll (a.map keyD) = PySem.W.keyToksAll (b.map keyD) from this)) n
theorem ltK_neg {a b c : List Key} (h : ltK b a = false) (k : ltK c b = false) : ltK c a = false := by
  cases e : ltK c a with
  | false => rfl
  | true =>
    rcases lex_negTrans (O := PyProof.Rows.itemOrd) _ (PySem.W.keyToks (keysD b)) _ e with z | z
    · exact absurd (z.symm.trans k) (by decide)
    · exact absurd (z.symm.trans h) (by decide)
theorem rs {x a : List Key} {l : List (List Key)} (h : x ∈ a :: l) (n : x ≠ a) : x ∈ l := (List.mem_cons.mp h).resolve_left n
abbrev Asc (l : List (List Key)) : Prop := l.Pairwise fun a b => ltK a b = true
theorem asc_uniq : ∀ {l m : List (List Key)}, Asc l → Asc m → (∀ k, k ∈ l ↔ k ∈ m) → l = m
  | [], [], _, _, _ => rfl
  | [], b :: m, _, _, h => nomatch (h b).mpr (List.mem_cons_self ..)
  | a :: l, [], _, _, h => nomatch (h a).mp (List.mem_cons_self ..)
  | a :: l, b :: m, hl, hm, h => by
    have hl' := List.pairwise_cons.mp hl
    have hm' := List.pairwise_cons.mp hm
    have no : ∀ x y, ltK x y = true → ltK y x = true → False := fun x y p q => by
      have := ltK_tr p q
      rw [ltK_self] at this
      cases this
    have e : a = b := by
      rcases List.mem_cons.mp ((h a).mp (List.mem_cons_self ..)) with e | ma
      · exact e
      · rcases List.mem_cons.mp ((h b).mpr (List.mem_cons_self ..)) with e | mb
        · exact e.symm
        · exact (no _ _ (hl'.1 b mb) (hm'.1 a ma)).elim
    subst e
    have nn : ∀ x, ltK a x = true → x ≠ a := fun x p z => by
      rw [z, ltK_self] at p
      cases p
    rw [asc_uniq hl'.2 hm'.2 fun k => ⟨fun m => rs ((h k).mp (List.mem_cons_of_mem _ m)) (nn k (hl'.1 k m)), fun m => rs ((h k).mpr (List.mem_cons_of_mem _ m)) (nn k (hm'.1 k m))⟩]
theorem asc_of {L : List Ky} (h : L.Pairwise fun q r => leK q r = true) (n : (L.map (·.2)).Nodup) : Asc (L.map (·.2)) := by
  refine List.pairwise_map.mpr ((h.and (List.pairwise_map.mp n)).imp fun {q r} z => ?_)
  obtain ⟨z1, z2⟩ := z
  rw [leK_eq, Bool.not_eq_true'] at z1
  exact ltK_tot z1 (Ne.symm z2)
/-! the two calls in one -/
section
variable {A : Amb} {X : Cx} {δ : Dl} {s s1 : A.S}
theorem dp_key {K : Fg} {G : Hp} {v : V} {k : Key} (h : Dp K G v (keyD k)) : v = kV k := by
  cases k with
  | inl i => cases (show Dp K G v (.int i) from h); rfl
  | inr x => cases (show Dp K G v (.str x) from h); rfl
theorem key_dp {K : Fg} {G : Hp} (k : Key) : Dp K G (kV k) (keyD k) := by
  cases k with
  | inl i => exact .int i
  | inr x => exact .str x
theorem dpa_keys {K : Fg} {G : Hp} : ∀ {k : List Key} {vs : List V}, DpAll K G vs (k.map keyD) → vs = k.map kV
  | [], _, .nil => rfl
  | _ :: _, _, .cons a b => by rw [dp_key a, dpa_keys b]; rfl
theorem keys_dpa {K : Fg} {G : Hp} : ∀ k : List Key, DpAll K G (k.map kV) (k.map keyD)
  | [] => .nil
  | x :: k => .cons (key_dp x) (keys_dpa k)
theorem dpa_kys {K : Fg} {G : Hp} : ∀ {ks : List (List Key)} {vs : List V}, DpAll K G vs (ks.map keysD) → ∃ L : List Ky, vs = L.map (fun r => V.ref r.1) ∧ L.map (·.2) = ks ∧ ∀ r ∈ L, SqT K G r.1 (r.2.map kV)
  | [], _, .nil => ⟨[], rfl, rfl, fun _ z => nomatch z⟩
  | k :: ks, _, .cons a b => by
    obtain ⟨L, e1, e2, h⟩ := dpa_kys b
    obtain ⟨p, xs, rfl, hs, da⟩ := dv_tup (show DV K G _ (.d (.tuple (k.map keyD))) from a)
    rw [dpa_keys da] at hs
    refine ⟨(p, k) :: L, by rw [e1]; rfl, by rw [← e2]; rfl, fun r m => ?_⟩
    rcases List.mem_cons.mp m with rfl | m
    · exact hs
    · exact h r m
theorem kys_dpa {K : Fg} {G : Hp} : ∀ {L : List Ky}, (∀ r ∈ L, SqT K G r.1 (r.2.map kV)) → DpAll K G (L.map fun r => V.ref r.1) ((L.map (·.2)).map keysD)
  | [], _ => .nil
  | r :: L, h => .cons (.tup (h r (List.mem_cons_self ..)) (keys_dpa _)) (kys_dpa fun q m => h q (List.mem_cons_of_mem _ m))
theorem boot_set : bootBuiltins "set" = some (.type "set") := by decide +kernel
theorem boot_sorted : bootBuiltins "sorted" = some (.builtin "sorted") := by decide +kernel
/-- e is a list or tuple of these -/
def DR (A : Amb) (X : Cx) (δ : Dl) (s : A.S) (e : Expr) (ds : List PyData) (s1 : A.S) : Prop := ∀ (w : Wd A) (σ : L2.St), EnvD X.K σ w.G δ → A.inv s w.G w.H → ∀ Q : VK,
  (∀ a vs (w' : Wd A), Le w w' → A.inv s1 w'.G w'.H → (SqL X.K w'.H a vs ∨ SqT X.K w'.H a vs) → DpAll X.K w'.G vs ds → Q (.ref a) w'.H) → wpT X e σ w.H Q
theorem dr_l {e : Expr} {ds : List PyData} (h : DE A X δ s e (.d (.list ds)) s1) : DR A X δ s e ds s1 := fun w σ en iv Q q => h w σ en iv _ fun v w1 l1 i1 d1 => by
  obtain ⟨a, xs, rfl, hx, da⟩ := dv_lst d1
  exact q a xs w1 l1 i1 (.inl (Same.seq w1.sub hx)) da
theorem dr_t {e : Expr} {ds : List PyData} (h : DE A X δ s e (.d (.tuple ds)) s1) : DR A X δ s e ds s1 := fun w σ en iv Q q => h w σ en iv _ fun v w1 l1 i1 d1 => by
  obtain ⟨a, xs, rfl, hx, da⟩ := dv_tup d1
  exact q a xs w1 l1 i1 (.inr (same_t w1.sub hx)) da
/-- sorted(set(e)) of such tuples, fewer than 64: the ascending list of them -/
theorem de_sset {e : Expr} {ks out : List (List Key)} {p p2 p3 pos : Pos} {k0 : Nat} (N : Nms X.mg) (hc : X.calm = true) (hr : Room k0 X.A) (h : DR A X δ s e (ks.map keysD) s1) (few : ks.length < 64)
    (al : ∀ q ∈ ks, ∀ r ∈ ks, PySem.W.alike (keysD q) (keysD r) = true) (ne : ∀ r ∈ ks, r ≠ []) (ho : Asc out) (hm : ∀ k, k ∈ out ↔ k ∈ ks) (hg : Gl X "sorted" := by rfl) (hg2 : Gl X "set" := by rfl)
    (hs : starEach [e] X.env = (false, eval e X.env) :: starEach [] X.env := by rfl) (hs2 : starEach [.Call (.Name "set" p2) [e] [] p3] X.env = (false, eval (.Call (.Name "set" p2) [e] [] p3) X.env) :: starEach [] X.env := by rfl) :
    DE A X δ s (.Call (.Name "sorted" p) [.Call (.Name "set" p2) [e] [] p3] [] pos) (.d (.list (out.map keysD))) s1 := by
  have hu := room65 hr
  refine DE.of (pe_callB (cr_sortK hc (by omega)) hg N.sorted boot_sorted (pa_cons (pe_callTy (cr_setK hc (by omega)) hg2 N.set boot_set pa_w (he := hs)) pa_nil hs2) (he := hs2)) fun w σ en iv Q q => ?_
  refine ⟨fun pos pins sh I => (pa_cons (X := X) pe_w pa_nil hs).run pos pins sh σ w.H _ I (h w σ en iv _ fun l xs w1 l1 i1 hx da => ?_)⟩
  obtain ⟨L, rfl, e2, hL⟩ := dpa_kys da
  have len : L.length < 64 := by rw [← List.length_map (f := (·.2)), e2]; exact few
  refine ⟨l, L, rfl, hx, fun r m => same_t w1.sub (hL r m), len, fun a M ha m1 m2 => ?_⟩
  have in_ : ∀ r ∈ M, r.2 ∈ ks := fun r m => by rw [← e2]; exact List.mem_map_of_mem (m1 r m)
  have w2 := w1.new a (SKo X.prog X.w a M) ha sko_nt
  have l2 := w1.new_le a (SKo X.prog X.w a M) ha sko_nt
  refine ⟨a, M, rfl, upd_same, fun r m => same_t (w1.new a _ ha sko_nt).sub (same_t l2.g (hL r (m1 r m))), fun q m r m' => al _ (in_ q m) _ (in_ r m'), fun r m => ne _ (in_ r m), fun M' p pm nd _ pw hp => ?_⟩
  have w3 := (w1.new a (SKo X.prog X.w a M) ha sko_nt).new p (.lst (M'.map fun r => V.ref r.1)) hp
  have l3 := (w1.new a (SKo X.prog X.w a M) ha sko_nt).new_le p (.lst (M'.map fun r => V.ref r.1)) hp
  refine q _ ((w1.new a _ ha sko_nt).new p _ hp) ((l1.trans l2).trans l3) (inv_new hp (inv_new ha i1)) ?_
  have eo : M'.map (·.2) = out := by
    refine asc_uniq (asc_of pw nd) ho fun k => ?_
    rw [hm, (pm.map (·.2)).mem_iff, ← e2]
    constructor
    · intro z
      obtain ⟨r, m, rfl⟩ := List.mem_map.mp z
      exact List.mem_map_of_mem (m1 r m)
    · intro z
      obtain ⟨r, m, rfl⟩ := List.mem_map.mp z
      exact m2 r m
  rw [← eo]
  refine Dp.lst (SqL.of (show upd _ p _ p = _ from upd_same)) (dpa_mono l3.g (dpa_mono l2.g (kys_dpa fun r m => hL r (m1 r (pm.mem_iff.mp m)))))
end
end Kp
end
section
set_option Elab.async false
set_option linter.all false
set_option maxRecDepth 100000
set_option maxHeartbeats 4000000
/-! sorted(list of tuples of ints and texts), any number of them; they need not be alike behind their first difference -/
namespace Kp
open PySem PySem.Spec PyProof.Rows L2
/-- alike as far as a comparison looks -/
def cmpK : List Key → List Key → Bool
  | .inl i :: a, .inl j :: b => if i = j then cmpK a b else true
  | .inr x :: a, .inr y :: b => if x = y then cmpK a b else true
  | [], _ => true
  | _, [] => true
  | _, _ => false
theorem ltK_nn : ltK [] [] = false := ltK_self []
theorem ltK_nc (x : Key) (a : List Key) : ltK [] (x :: a) = true := by cases x <;> rfl
theorem ltK_cn (x : Key) (a : List Key) : ltK (x :: a) [] = false := by cases x <;> rfl
theorem ltK_toks (a b : List Key) : ltK a b = lexLt PyProof.Rows.itemOrd (PySem.W.keyToksAll (a.map keyD)) (PySem.W.keyToksAll (b.map keyD)) := rfl
theorem toks_ci (i : Int) (a : List Key) : PySem.W.keyToksAll ((Sum.inl i :: a).map keyD) = .inl 1 :: .inl i :: PySem.W.keyToksAll (a.map keyD) := rfl
theorem toks_cs (x : Str) (a : List Key) : PySem.W.keyToksAll ((Sum.inr x :: a).map keyD) = .inl 1 :: .inr x.cps.toList :: PySem.W.keyToksAll (a.map keyD) := rfl
theorem ltK_ii (i j : Int) (a b : List Key) : ltK (.inl i :: a) (.inl j :: b) = if i = j then ltK a b else decide (i < j) := by
  rw [ltK_toks, toks_ci, toks_ci, lex_self (O := PyProof.Rows.itemOrd)]
  by_cases h : i = j
  · rw [if_pos h, h, lex_self (O := PyProof.Rows.itemOrd)]; rfl
  · rw [if_neg h, lex_diff (O := PyProof.Rows.itemOrd) (fun z => h (Sum.inl.inj z))]; rfl
theorem ltK_ss (x y : Str) (a b : List Key) : ltK (.inr x :: a) (.inr y :: b) = if x = y then ltK a b else decide (x.cps.toList < y.cps.toList) := by
  rw [ltK_toks, toks_cs, toks_cs, lex_self (O := PyProof.Rows.itemOrd)]
  by_cases h : x = y
  · rw [if_pos h, h, lex_self (O := PyProof.Rows.itemOrd)]; rfl
  · rw [if_neg h, lex_diff (O := PyProof.Rows.itemOrd) (fun z => h (PySem.W.str_of_cps (Sum.inr.inj z)))]; rfl
section
variable {P : Program} {w : World} {A : Around} {E : Value → Shared → Prop} {s : Shared}
theorem kl_keys {fl fin : Bool} {Q : Bool → Shared → Prop} : ∀ {a b : List Key} {xs ys : List Value} (i : Nat), ItemsAre (mixKind P w) a xs → ItemsAre (mixKind P w) b ys → cmpK a b = true → fin = decide (a.length < b.length) → Q (ltK a b) s → PySem.W.KatLex P w A fl fin Q (xs.zip ys) i s
  | [], [], _, _, i, .nil, .nil, _, hf, q => by rw [ltK_nn] at q; exact PySem.W.kat_nil (by rw [hf]; exact q)
  | [], y :: b, _, _, i, .nil, .cons _ _, _, hf, q => by
    rw [ltK_nc] at q
    refine PySem.W.kat_nil ?_
    rw [hf, List.length_cons, List.length_nil, decide_eq_true (Nat.succ_pos _)]; exact q
  | x :: a, [], _, _, i, .cons _ _, .nil, _, hf, q => by
    rw [ltK_cn] at q
    refine PySem.W.kat_nil ?_
    rw [hf, List.length_nil, decide_eq_false (Nat.not_lt_zero _)]; exact q
  | x :: a, y :: b, u :: xs, v :: ys, i, .cons hu hx, .cons hv hy, hc, hf, q => by
    have fin' : fin = decide (a.length < b.length) := by rw [hf, List.length_cons, List.length_cons]; exact decide_eq_decide.mpr (by omega)
    refine PySem.W.kat_cons ((mixKind P w).eqBool hu hv (PySem.W.kat_go (fun e => ?_) (fun e => ?_)))
    · have e : x = y := of_decide_eq_true e
      subst e
      refine PySem.W.kat_yes (kl_keys (i + 1) hx hy ?_ fin' ?_)
      · cases x with
        | inl n => rw [cmpK, if_pos rfl] at hc; exact hc
        | inr n => rw [cmpK, if_pos rfl] at hc; exact hc
      · cases x with
        | inl n => rw [ltK_ii, if_pos rfl] at q; exact q
        | inr n => rw [ltK_ss, if_pos rfl] at q; exact q
    · have e : x ≠ y := of_decide_eq_false e
      refine PySem.W.kat_no ?_
      rcases keyIs_shape hu with ⟨n, t, rfl, rfl⟩ | ⟨n, t, rfl, rfl⟩
      · rcases keyIs_shape hv with ⟨m, t', rfl, rfl⟩ | ⟨m, t', rfl, rfl⟩
        · rw [ltK_ii, if_neg (fun z => e (by rw [z]))] at q
          exact oneLt_any_int q
        · rw [cmpK] at hc
          · cases hc
          all_goals simp
      · rcases keyIs_shape hv with ⟨m, t', rfl, rfl⟩ | ⟨m, t', rfl, rfl⟩
        · rw [cmpK] at hc
          · cases hc
          all_goals simp
        · rw [ltK_ss, if_neg (fun z => e (by rw [z]))] at q
          exact oneLt_any_str q
/-- the items of a value, as this heap has them -/
noncomputable def kof (P : Program) (w : World) (h : Heap) (v : Value) : List Key := open Classical in if q : ∃ k b, v = .ref b ∧ TKy P w h k b then q.choose else []
theorem kof_eq {h : Heap} {k : List Key} {b : Addr} (x : TKy P w h k b) : kof P w h (.ref b) = k := by
  have q : ∃ k b', Value.ref b = .ref b' ∧ TKy P w h k b' := ⟨k, b, rfl, x⟩
  have e : kof P w h (.ref b) = q.choose := by
    unfold kof
    rw [dif_pos q]
  obtain ⟨b', e1, e2⟩ := q.choose_spec
  cases e1
  rw [e]
  exact e2.inj x
/-- their first items are of one type -/
def Fst (L : List Ky) : Prop := (∀ r ∈ L, ∃ x k, r.2 = Sum.inl x :: k) ∨ ∀ r ∈ L, ∃ x k, r.2 = Sum.inr x :: k
theorem firsts_k {h : Heap} {T : Value} {F : Key → Prop} (hF : ∀ k u, F k → (mixKind P w).is k u = true → ∀ s : Shared, PySem.W.Looks (model P w) s.heap (typeOf u) T) : ∀ (L : List Ky), (∀ r ∈ L, TKy P w h r.2 r.1) → (∀ r ∈ L, ∃ x k, r.2 = x :: k ∧ F x) →
    ∃ fs : List Value, PySem.W.KatTups h (L.map fun r => Value.ref r.1) fs ∧ fs.length = L.length ∧ ∀ f ∈ fs, ∀ s : Shared, PySem.W.Looks (model P w) s.heap (typeOf f) T
  | [], _, _ => ⟨[], PySem.W.KatTups.nil, rfl, fun _ m => nomatch m⟩
  | r :: L, hk, hf => by
    obtain ⟨fs, h1, h2, h3⟩ := firsts_k hF L (fun q m => hk q (List.mem_cons_of_mem _ m)) fun q m => hf q (List.mem_cons_of_mem _ m)
    obtain ⟨x, k, e, fx⟩ := hf r (List.mem_cons_self ..)
    obtain ⟨o, its, n, ho, hc, hd, hi⟩ := hk r (List.mem_cons_self ..)
    rw [e] at hi
    generalize hl : its.toList = l at hi
    cases hi with
    | @cons _ v _ vs hv _ =>
      refine ⟨v :: fs, PySem.W.KatTups.cons ho hc hd (by rw [← Array.getElem?_toList, hl]; rfl) h1, by rw [List.length_cons, List.length_cons, h2], fun f m => ?_⟩
      rcases List.mem_cons.mp m with rfl | m
      · exact hF x f fx hv
      · exact h3 f m
theorem swo_k (k : Value → List Key) : SrtO.Swo fun v u => ltK (k v) (k u) := ⟨fun x y h => by
  cases e : ltK (k y) (k x) with
  | false => rfl
  | true => exact absurd ((ltK_self (k x)).symm.trans (ltK_tr h e)) (by decide), fun x y z h1 h2 => ltK_neg h1 h2⟩
theorem sortable_k {a : Addr} {L : List Ky} (h0 : 0 < L.length) (hk : ∀ r ∈ L, TKy P w s.heap r.2 r.1) (al : ∀ q ∈ L, ∀ r ∈ L, cmpK q.2 r.2 = true) (hf : Fst L) (ha : ∀ o, s.heap.get? a = some o → o.cls ≠ .type "tuple") :
    SrtO.SortableO P w A s a (L.map fun r => Value.ref r.1) fun v u => ltK (kof P w s.heap v) (kof P w s.heap u) := by
  intro h' keep
  have hk' : ∀ r ∈ L, TKy P w h' r.2 r.1 := fun r m => by
    obtain ⟨o, its, n, ho, hc, hd, hi⟩ := hk r m
    exact ⟨o, its, n, keep _ o (fun z => ha o (by rw [← z]; exact ho) hc) ho, hc, hd, hi⟩
  have hT : ∃ (T : Value) (fs : List Value), PySem.W.KatTups h' (L.map fun r => Value.ref r.1) fs ∧ fs.length = L.length ∧ (∀ f ∈ fs, ∀ s : Shared, PySem.W.Looks (model P w) s.heap (typeOf f) T) ∧ (T == T) = true ∧ (T != Value.type "tuple") = true := by
    rcases hf with hf | hf
    · obtain ⟨fs, h1, h2, h3⟩ := firsts_k (P := P) (w := w) (h := h') (T := .type "int") (F := fun k => ∃ i, k = Sum.inl i) (fun k u fk hu s => by
        obtain ⟨i, rfl⟩ := fk
        rcases keyIs_shape (show keyIs (.inl i) u = true from hu) with ⟨n, t, e, rfl⟩ | ⟨n, t, e, rfl⟩
        · exact PySem.W.Looks.now
        · cases e) L hk' fun r m => by
          obtain ⟨x, k, e⟩ := hf r m
          exact ⟨_, k, e, x, rfl⟩
      exact ⟨_, fs, h1, h2, h3, by rfl, by first | decide +kernel | rfl⟩
    · obtain ⟨fs, h1, h2, h3⟩ := firsts_k (P := P) (w := w) (h := h') (T := .type "str") (F := fun k => ∃ i, k = Sum.inr i) (fun k u fk hu s => by
        obtain ⟨i, rfl⟩ := fk
        rcases keyIs_shape (show keyIs (.inr i) u = true from hu) with ⟨n, t, e, rfl⟩ | ⟨n, t, e, rfl⟩
        · cases e
        · exact PySem.W.Looks.now) L hk' fun r m => by
          obtain ⟨x, k, e⟩ := hf r m
          exact ⟨_, k, e, x, rfl⟩
      exact ⟨_, fs, h1, h2, h3, by rfl, by first | decide +kernel | rfl⟩
  obtain ⟨T, fs, h1, h2, h3, h4, h5⟩ := hT
  refine ⟨tuples' true, fun Q E hq => PySem.W.kat_kind (s := { s with heap := h' }) (T := T) h1 (by omega) (fun f m => h3 f m { s with heap := h' }) h4 (by rw [h5]; exact hq), fun p q hp hq => ?_⟩
  obtain ⟨r1, m1, e1⟩ := List.mem_map.mp hp
  obtain ⟨r2, m2, e2⟩ := List.mem_map.mp hq
  show wpAny (model P w) A (keyLt' (tuples' true) p.1 q.1) (fun r s' => s' = { s with heap := h' } ∧ r = ltK (kof P w s.heap p.1) (kof P w s.heap q.1)) (fun _ _ => False) { s with heap := h' }
  rw [← e1, ← e2, kof_eq (hk r1 m1), kof_eq (hk r2 m2)]
  obtain ⟨o, its, n, ho, hc, hd, hi⟩ := hk' r1 m1
  obtain ⟨o', its', n', ho', hc', hd', hi'⟩ := hk' r2 m2
  exact PySem.W.kat_lt (s := { s with heap := h' }) ho hd ho' hd' (kl_keys 0 hi hi' (al r1 m1 r2 m2) (by rw [hi.length, hi'.length, Array.length_toList, Array.length_toList]) ⟨rfl, rfl⟩)
end
section
variable {X : Cx}
def rSortT (K : Fg) : List V → Hp → VK → Prop := fun vs H Q => ∃ (a : Addr) (L : List Ky), vs = [V.ref a] ∧ SqL K H a (L.map fun r => V.ref r.1) ∧ (∀ r ∈ L, SqT K H r.1 (r.2.map kV)) ∧ (∀ q ∈ L, ∀ r ∈ L, cmpK q.2 r.2 = true) ∧ Fst L ∧
  ∀ (L' : List Ky) (p : Addr), L'.Perm L → L'.Pairwise (fun q r => ltK r.2 q.2 = false) → H p = none → Q (.ref p) (upd H p (.lst (L'.map fun r => V.ref r.1)))
theorem cr_sortT : CallR X (.builtin "sorted") (rSortT X.K) := by
  intro pins s σ H vs us Q I r h
  obtain ⟨a, L, rfl, ha, hk, al, hf, q⟩ := h
  obtain ⟨its, rv, pl, hz⟩ := I.list ha
  rw [Vals.ref1 r]
  have ei := ref_vals rv
  subst ei
  rw [List.length_map] at hz
  have hk' : ∀ r ∈ L, TKy X.prog X.w s.heap r.2 r.1 := fun r m => inv_tky I (hk r m)
  refine SrtO.sorted_ord (ltv := fun v u => ltK (kof X.prog X.w s.heap v) (kof X.prog X.w s.heap u)) (swo_k _) pl.isList (by rw [List.length_map]; exact hz) (fun h2 h1 b hb kk => ?_) fun out h1 h2 => ?_
  · have e : ∀ r ∈ L, kof X.prog X.w h1 (.ref r.1) = kof X.prog X.w s.heap (.ref r.1) := fun r m => by
      rw [kof_eq (hk' r m), kof_eq (tky_keep (hk' r m) fun c o e => (kk c o e).2)]
    have so := sortable_k (P := X.prog) (w := X.w) (A := X.A.in1.in1) (s := { s with heap := h1 }) (a := b) (L := L) (by rw [List.length_map] at h2; omega) (fun r m => tky_keep (hk' r m) fun c o e => (kk c o e).2) al hf (fun o e c => by
      have e' : some o = some (seqObj "list" _ 0) := e.symm.trans hb
      cases e'
      exact absurd (Value.type.inj c) (by decide))
    intro h' keep
    obtain ⟨κ, k1, k2⟩ := so h' keep
    refine ⟨κ, k1, fun p q hp hq => ?_⟩
    have := k2 p q hp hq
    obtain ⟨r1, m1, e1⟩ := List.mem_map.mp hp
    obtain ⟨r2, m2, e2⟩ := List.mem_map.mp hq
    refine thn this fun z s' hz => ⟨hz.1, hz.2.trans ?_⟩
    show ltK (kof X.prog X.w h1 p.1) (kof X.prog X.w h1 q.1) = ltK (kof X.prog X.w s.heap p.1) (kof X.prog X.w s.heap q.1)
    rw [← e1, ← e2, e r1 m1, e r2 m2]
  · obtain ⟨L', pm, eo⟩ := perm_map_of (fun r : Ky => Value.ref r.1) h2.perm.symm L rfl
    subst eo
    obtain ⟨ep, he'⟩ := PyProof.Rows.sortedAll_at s.heap (L.map fun r => Value.ref r.1) (List.toArray (L'.map fun r => Value.ref r.1))
    have hlen : (L'.map fun r => V.ref r.1).length ≤ sizeLine := by rw [List.length_map, pm.length_eq]; exact hz
    refine ⟨.ref _, upd H (s.heap.objs.size + 1) (.lst (L'.map fun r => V.ref r.1)), I.laid (t' := s.toks) (fun _ _ => PyProof.Rows.sortedAll_old) (Nat.le_succ _) ⟨hlen, _, ep, vals_ref L', he'⟩, rfl, q _ _ pm ?_ (I.hok.fresh (Nat.le_succ _))⟩
    refine (List.pairwise_map.mp h1).imp_of_mem fun {q r} mq mr hz => ?_
    have hz : ltK (kof X.prog X.w s.heap (.ref r.1)) (kof X.prog X.w s.heap (.ref q.1)) = false := hz
    rw [kof_eq (hk' r (pm.mem_iff.mp mr)), kof_eq (hk' q (pm.mem_iff.mp mq))] at hz
    exact hz
end
section
variable {A : Amb} {X : Cx} {δ : Dl} {s s1 : A.S}
/-- sorted(e), a list of such tuples, no two the same -/
theorem de_sortT {e : Expr} {ks out : List (List Key)} {p pos : Pos} (N : Nms X.mg) (h : DE A X δ s e (.d (.list (ks.map keysD))) s1) (nd : ks.Nodup) (al : ∀ q ∈ ks, ∀ r ∈ ks, cmpK q r = true) (hf : (∀ k ∈ ks, ∃ x r, k = Sum.inl x :: r) ∨ ∀ k ∈ ks, ∃ x r, k = Sum.inr x :: r)
    (ho : Asc out) (hm : ∀ k, k ∈ out ↔ k ∈ ks) (hg : Gl X "sorted" := by rfl) (hs : starEach [e] X.env = (false, eval e X.env) :: starEach [] X.env := by rfl) : DE A X δ s (.Call (.Name "sorted" p) [e] [] pos) (.d (.list (out.map keysD))) s1 := by
  refine DE.of (pe_callB cr_sortT hg N.sorted boot_sorted pa_w (he := hs)) (ev_cb (da_cons h da_nil hs) fun vs w iv dv Q q => ?_)
  obtain ⟨v, rfl, d1⟩ := dvs1 dv
  obtain ⟨a, xs, rfl, hx, da⟩ := dv_lst d1
  obtain ⟨L, rfl, e2, hL⟩ := dpa_kys da
  have in_ : ∀ r ∈ L, r.2 ∈ ks := fun r m => by rw [← e2]; exact List.mem_map_of_mem m
  refine ⟨a, L, rfl, Same.seq w.sub hx, fun r m => same_t w.sub (hL r m), fun q m r m' => al _ (in_ q m) _ (in_ r m'), hf.imp (fun z r m => z _ (in_ r m)) (fun z r m => z _ (in_ r m)), fun L' p pm pw hp => ?_⟩
  refine q _ (w.new p _ hp) (w.new_le p _ hp) (inv_new hp iv) ?_
  have nd' : (L'.map (·.2)).Nodup := (pm.map (·.2)).nodup_iff.mpr (by rw [e2]; exact nd)
  have eo : L'.map (·.2) = out := by
    refine asc_uniq (List.pairwise_map.mpr ((pw.and (List.pairwise_map.mp nd')).imp fun {q r} z => ltK_tot z.1 (Ne.symm z.2))) ho fun k => ?_
    rw [hm, (pm.map (·.2)).mem_iff, e2]
  rw [← eo]
  exact Dp.lst (SqL.of (show upd _ p _ p = _ from upd_same)) (dpa_mono (w.new_le p _ hp).g (kys_dpa fun r m => hL r (pm.mem_iff.mp m)))
end
end Kp
end
section
set_option Elab.async false
set_option linter.all false
set_option maxRecDepth 100000
set_option maxHeartbeats 4000000
/-! objects in motion: lists and dicts that a def changes -/
namespace Kp
open PySem PySem.Spec PyProof.Rows L2
def Amb.add (A : Amb) (K : Fg) (D : Addr) : Amb where
  M := fun x => A.M x ∨ x = D
  S := A.S × Mo
  inv := fun s G H => A.inv s.1 G H ∧ MoOk K G H D s.2
  st := fun h e k => ⟨A.st h.1 e fun x o m => k x o (.inl m), h.2.mono e fun u => k D u (.inr rfl)⟩
/-- the object at D is in motion -/
structure Ln (A : Amb) (K : Fg) (D : Addr) where
  get : A.S → Mo
  put : A.S → Mo → A.S
  m : A.M D
  rd : ∀ {s : A.S} {G H : Hp}, A.inv s G H → MoOk K G H D (get s)
  wr : ∀ {s : A.S} {G G' H H' : Hp} {o : Mo}, A.inv s G H → Same G G' → MoOk K G' H' D o → (∀ x u, A.M x → x ≠ D → H x = some u → H' x = some u) → A.inv (put s o) G' H'
section
variable {A : Amb} {K : Fg} {D D' : Addr}
def Ln.top (h : ¬ A.M D) : Ln (A.add K D) K D where
  get := fun s => s.2
  put := fun s o => (s.1, o)
  m := .inr rfl
  rd := fun h => h.2
  wr := fun iv e ok k => ⟨A.st iv.1 e fun x u m eq => k x u (.inl m) (fun z => h (z ▸ m)) eq, ok⟩
def Ln.up (L : Ln A K D) (h : ¬ A.M D') : Ln (A.add K D') K D where
  get := fun s => L.get s.1
  put := fun s o => (L.put s.1 o, s.2)
  m := .inl L.m
  rd := fun h => L.rd h.1
  wr := fun iv e ok k => ⟨L.wr iv.1 e ok fun x u m ne => k x u (.inl m) ne, iv.2.mono e fun u eq => k D' u (.inr rfl) (fun z => h (z ▸ L.m)) eq⟩
def Wd.up (w : Wd A) (K : Fg) (D : Addr) (hG : w.G D = none) (hm : Mu (w.H D)) : Wd (A.add K D) := ⟨w.G, w.H, w.sub, (fun x m => m.elim (w.mt x) fun e => by subst e; exact ⟨hG, hm⟩), w.nt⟩
def Wd.dn (w : Wd (A.add K D)) : Wd A := ⟨w.G, w.H, w.sub, fun x m => w.mt x (.inl m), w.nt⟩
theorem le_dn {w w1 : Wd A} (l : Le w w1) (h : w.H D = none) {hG : w1.G D = none} {hm : Mu (w1.H D)} {w2 : Wd (A.add K D)} (l2 : Le (w1.up K D hG hm) w2) : Le w w2.dn where
  g := l.g.trans l2.g
  h := fun x o m e => l2.h x o (fun z => z.elim m fun z => by rw [z, h] at e; cases e) (l.h x o m e)
  f := fun x hx e => l2.f x (l.ne hx) (l.f x hx e)
theorem mo_mu {o : Mo} {u : HO} (h : match o with | .l ds => ∃ vs, u = .lst vs | .m kvs => u = .dT kvs) : Mu (some u) := by
  cases o with
  | l ds => obtain ⟨vs, rfl⟩ := h; exact mu_lst
  | m kvs => cases h; exact mu_dT
/-- what a def's end in the larger ambient is in the smaller -/
inductive OutUp (A : Amb) (K : Fg) (D : Addr) : Out (A.add K D) → Out A → Prop
  | rt (c : Sl) (s : A.S) (m : Mo) : OutUp A K D (.rt c (s, m)) (.rt c s)
  | rtL (s : A.S) (ds : List PyData) : OutUp A K D (.rt (.r (.ref D)) (s, .l ds)) (.rt (.d (.list ds)) s)
  | rtM (s : A.S) (kvs : List (List Key × V)) : OutUp A K D (.rt (.r (.ref D)) (s, .m kvs)) (.rt (.t kvs) s)
  | ex (C : Addr) (s : A.S) (m : Mo) : OutUp A K D (.ex C (s, m)) (.ex C s)
theorem outUp_ok {E : XK} {w w1 : Wd A} {Ds : Ends} {o : Out A} {o' : Out (A.add K D)} (hu : OutUp A K D o' o) (q : OutOk A K E w Ds o) (l : Le w w1) (h : w.H D = none) (hM : ¬ A.M D) {hG : w1.G D = none} {hm : Mu (w1.H D)} : OutOk (A.add K D) K E (w1.up K D hG hm) Ds o' := by
  cases hu with
  | rt c s m => exact fun v w2 l2 i2 d => q v w2.dn (le_dn l h l2) i2.1 d
  | rtL s ds =>
    intro v w2 l2 i2 d
    obtain rfl : v = .ref D := d
    obtain ⟨vs, hD, da⟩ := i2.2
    have hG2 : w2.G D = none := (w2.mt D (.inr rfl)).1
    refine q _ (w2.dn.fz D _ hM hD) (fz_le h hG2 (le_dn l h l2)) (inv_fz hG2 i2.1) (Dp.lst (SqL.of (show upd w2.G D _ D = _ from upd_same)) (dpa_mono (fun x u e => ?_) da))
    show upd w2.G D _ x = some u
    rw [upd_ne (ne_of_none e hG2)]; exact e
  | rtM s kvs =>
    intro v w2 l2 i2 d
    obtain rfl : v = .ref D := d
    have hG2 : w2.G D = none := (w2.mt D (.inr rfl)).1
    exact q _ (w2.dn.fz D _ hM i2.2) (fz_le h hG2 (le_dn l h l2)) (inv_fz hG2 i2.1) ⟨D, rfl, upd_same⟩
  | ex C s m => exact fun w2 l2 i2 => q w2.dn (le_dn l h l2) i2.1
end
section
variable {A : Amb} {X : Cx} {E : XK} {δ δ' : Dl} {s s1 s2 s3 : A.S} {o : Out A} {rest : List Stmt} {bs : List (List Stmt)}
/-- x = a new object, which is changed from then on -/
theorem db_mut (i : Nat) {x : Str} {e : Expr} {m : Mo} {p pos : Pos} (hN : X.N.Nodup) (h : DF A X δ s e m s1) (r : ∀ D, (hD : ¬ A.M D) → ∃ o', OutUp A X.K D o' o ∧ DB (A.add X.K D) X E (δ.set i (some (.r (.ref D)))) (s1, m) (rest :: bs) o') (hi : X.N[i]? = some x := by rfl)
    (hx : Loc X.env.scope x := by first | exact Or.inl rfl | exact Or.inr rfl) (hs : swapsWith e (some (.Name x p)) pos.line X.env = pure false := by rfl) (hf : X.fn x = true ∨ X.env.scope.names.lookup x = some .local := by first | exact .inl rfl | exact .inr rfl) :
    DB A X E δ s ((.Assign [.Name x p] e pos :: rest) :: bs) o := fun w σ en iv Ds q => wp_cons (ps_set hN hi hx pe_w hs hf) (h w σ en iv _ fun D w1 l1 i1 hw hG hM ok => by
  obtain ⟨o', hu, hb⟩ := r D hM
  exact hb (w1.up X.K D hG ok.mu) _ ((en.mono l1.g).set i (c := .r (.ref D)) rfl) ⟨i1, ok⟩ Ds (outUp_ok hu q l1 hw hM))
/-- .. whatever statement lays it -/
theorem db_mutG {i : Nat} {st : Stmt} {t : TE} {m : Mo} (h : PS X st (tAsg t (gName i))) (ev : EvF A X.K t δ s m s1) (r : ∀ D, (hD : ¬ A.M D) → ∃ o', OutUp A X.K D o' o ∧ DB (A.add X.K D) X E (δ.set i (some (.r (.ref D)))) (s1, m) (rest :: bs) o') : DB A X E δ s ((st :: rest) :: bs) o := fun w σ en iv Ds q =>
  wp_cons h (ev w σ en iv _ fun D w1 l1 i1 hw hG hM ok => by
    obtain ⟨o', hu, hb⟩ := r D hM
    exact hb (w1.up X.K D hG ok.mu) _ ((en.mono l1.g).set i (c := .r (.ref D)) rfl) ⟨i1, ok⟩ Ds (outUp_ok hu q l1 hw hM))
/-- .. and it stands still from then on -/
theorem db_setG {i : Nat} {st : Stmt} {t : TE} {ds : List PyData} (h : PS X st (tAsg t (gName i))) (ev : EvF A X.K t δ s (.l ds) s1) (r : DB A X E (δ.set i (some (.d (.list ds)))) s1 (rest :: bs) o) : DB A X E δ s ((st :: rest) :: bs) o :=
  db_step h (fun w σ en iv Ds q => EvF.ev ev w σ en iv _ fun v w1 l1 i1 d1 => q _ w1 l1 i1 ((en.mono l1.g).set i d1)) r
/-- x = [elt for tg in iter if ..] on one line -/
theorem ps_lc (i : Nat) {y : Str} {py : Pos} {elt tg iter : Expr} {ifs : List Expr} {scope : Scope} {own : List (Str × Nat)} {pos spos : Pos} (hc : X.calm = true) (hN : X.N.Nodup) (ok : BlkOk X.N X.env.scope scope own) (hy : X.N[i]? = some y := by rfl) (hyl : X.env.scope.names.lookup y = some .local := by rfl)
    (hk : X.env.scope.kind = .function := by rfl) (hl : (py.line == pos.line) = true := by rfl) (ha : (scope.names.any fun (n, k) => n == y && (k == .local || k == .cell)) = false := by rfl) (hs : ∀ x, foldedSetIterable iter X.env x = pure x := by intro _; rfl) :
    PS X (.Assign [.Name y py] (.ListComp elt [⟨tg, iter, ifs, 0⟩] scope pos) spos) (tAsg (tLc (wpI X tg iter) (fun v σ H Q => ∀ sh H0 C cl fp, wpG (Bk X scope sh H0 C cl fp) tg v σ H Q) (fun σ H Q => ∀ sh H0 C cl fp, wpTs (Bk X scope sh H0 C cl fp) ifs σ H Q) (fun σ H Q => ∀ sh H0 C cl fp, wpT (Bk X scope sh H0 C cl fp) elt σ H Q) (own.map (·.2))) (gName i)) :=
  ps_setLc hc hN hy hyl (sw_true hk hyl hl ha) pi_w ok (fun sh H0 C cl fp => ⟨fun pins s' σ H v u Q I r h => (h sh H0 C cl fp).run pins s' u I r⟩) (fun sh H0 C cl fp => ⟨fun pins s' σ H Q I h => (h sh H0 C cl fp).run pins s' I⟩) (fun sh H0 C cl fp => ⟨fun pins s' σ H Q I h => (h sh H0 C cl fp).run pins s' I⟩) hs
theorem ps_lc2 (i : Nat) {y : Str} {py : Pos} {elt tg iter tg1 iter1 : Expr} {scope : Scope} {own : List (Str × Nat)} {vs1 : List Nat} {pos spos : Pos} (hc : X.calm = true) (hN : X.N.Nodup) (ok : BlkOk X.N X.env.scope scope own) (hv : ∀ i ∈ vs1, i ∈ own.map (·.2)) (hy : X.N[i]? = some y := by rfl) (hyl : X.env.scope.names.lookup y = some .local := by rfl)
    (hk : X.env.scope.kind = .function := by rfl) (hl : (py.line == pos.line) = true := by rfl) (ha : (scope.names.any fun (n, k) => n == y && (k == .local || k == .cell)) = false := by rfl) (hs : ∀ x, foldedSetIterable iter X.env x = pure x := by intro _; rfl) (hs1 : ∀ env x, foldedSetIterable iter1 env x = pure x := by intro _ _; rfl) :
    PS X (.Assign [.Name y py] (.ListComp elt [⟨tg, iter, [], 0⟩, ⟨tg1, iter1, [], 0⟩] scope pos) spos) (tAsg (tLc2 (wpI X tg iter) (fun v σ H Q => ∀ sh H0 C cl fp, wpG (Bk X scope sh H0 C cl fp) tg v σ H Q) tYes (fun σ H R => ∀ sh H0 C cl fp, wpI (Bk X scope sh H0 C cl fp) tg1 iter1 σ H R)
      (fun v σ H Q => ∀ sh H0 C cl fp, wpG (Bk X scope sh H0 C cl fp) tg1 v σ H Q) tYes (fun σ H Q => ∀ sh H0 C cl fp, wpT (Bk X scope sh H0 C cl fp) elt σ H Q) (own.map (·.2)) vs1) (gName i)) :=
  ps_setLc2 hc hN hy hyl (sw_true hk hyl hl ha) pi_w ok hv (fun sh H0 C cl fp => ⟨fun pins s' σ H v u Q I r h => (h sh H0 C cl fp).run pins s' u I r⟩) (fun sh H0 C cl fp => pts_nil) (fun sh H0 C cl fp => ⟨fun pins s' σ H R I h => (h sh H0 C cl fp).run pins s' I⟩)
    (fun sh H0 C cl fp => ⟨fun pins s' σ H v u Q I r h => (h sh H0 C cl fp).run pins s' u I r⟩) (fun sh H0 C cl fp => pts_nil) (fun sh H0 C cl fp => ⟨fun pins s' σ H Q I h => (h sh H0 C cl fp).run pins s' I⟩) hs hs1
/-- reading and writing the world -/
theorem putM_le {w : Wd A} {D : Addr} {u : HO} (m : A.M D) {hG : w.G D = none} {hM : A.M D → Mu (some u)} : Le w (w.put D u hG hM) :=
  ⟨Same.refl _, fun x v n e => by
    show upd w.H D u x = some v
    have ne : x ≠ D := fun z => n (by rw [z]; exact m)
    rw [upd_ne ne]; exact e, fun _ _ e => e⟩
theorem put_inv {w : Wd A} {D : Addr} {u : HO} {m : Mo} (L : Ln A X.K D) (iv : A.inv s w.G w.H) {hG : w.G D = none} {hM : A.M D → Mu (some u)} (ok : MoOk X.K w.G (upd w.H D u) D m) : A.inv (L.put s m) (w.put D u hG hM).G (w.put D u hG hM).H :=
  L.wr iv (Same.refl _) ok fun x v _ ne e => by
    show upd w.H D u x = some v
    rw [upd_ne ne]; exact e
section
variable {D : Addr} (L : Ln A X.K D)
theorem de_mget {a b : Expr} {ds : List PyData} {i : Int} {d : PyData} {pos : Pos} (ha : DE A X δ s a (.r (.ref D)) s1) (hb : DE A X δ s1 b (.d (.int i)) s2) (hs : L.get s2 = .l ds := by rfl) (h : atI ds i = some d := by rfl) (hp : PlainIx b := by exact fun _ _ => rfl) : DE A X δ s (.Subscript a b pos) (.d d) s2 :=
  DE.of (pe_ix ix_list pe_w pe_w hp) fun w σ en iv Q q => ha w σ en iv _ fun x w1 l1 i1 d1 => hb w1 σ (en.mono l1.g) i1 _ fun y w2 l2 i2 d2 => by
    obtain rfl : x = .ref D := d1
    have ok := L.rd i2
    rw [hs] at ok
    obtain ⟨vs, hD, da⟩ := ok
    obtain ⟨v, hv, dv⟩ := dpa_at da h
    exact ⟨D, vs, i, v, rfl, dv_int d2, SqL.of hD, hv, q v w2 (l1.trans l2) i2 dv⟩
theorem db_mset {t b e : Expr} {ds : List PyData} {i : Int} {j : Nat} {d : PyData} {p pos : Pos} (he : DE A X δ s e (.d d) s1) (ht : DE A X δ s1 t (.r (.ref D)) s2) (hb : DE A X δ s2 b (.d (.int i)) s3) (hs : L.get s3 = .l ds) (hj : ixN ds.length i = some j) (r : DB A X E δ (L.put s3 (.l (ds.set j d))) (rest :: bs) o)
    (ha : ∀ v, assign (.Subscript t b p) X.env v = (do
      let ov ← holding [v] (eval t X.env)
      let iv ← holding [v, ov] (eval b X.env)
      standAt p
      holding [v, ov, iv] (setItem ov iv v)
      release [v, ov, iv] []) := by intro _; rfl)
    (hsw : swapsWithSole [.Subscript t b p] e pos.line X.env = pure false := by rfl) (hw : swappedStores [.Subscript t b p] e X.env = pure none := by rfl) (h1 : (assignEach [.Subscript t b p] X.env).map (·.2) = [assign (.Subscript t b p) X.env] := by rfl) :
    DB A X E δ s ((.Assign [.Subscript t b p] e pos :: rest) :: bs) o :=
  db_step (ps_asg pe_w (pg_sub pe_w pe_w set_list ha) hsw hw h1) (fun w σ en iv Ds q => he w σ en iv _ fun v w1 l1 i1 d1 => ht w1 σ (en.mono l1.g) i1 _ fun x w2 l2 i2 d2 => hb w2 σ (en.mono (l1.trans l2).g) i2 _ fun y w3 l3 i3 d3 => by
    obtain rfl : x = .ref D := d2
    have ok := L.rd i3
    rw [hs] at ok
    obtain ⟨vs, hD, da⟩ := ok
    have hG := (w3.mt D L.m).1
    have l := (l1.trans l2).trans l3
    refine ⟨D, vs, i, j, rfl, dv_int d3, hD, by rw [dpa_len da]; exact hj, ?_⟩
    refine q σ (w3.put D (.lst (vs.set j v)) hG) (l.trans (putM_le L.m)) (put_inv L i3 ⟨_, upd_same, dpa_set da j (dv_mono (l2.trans l3).g d1)⟩) (en.mono l.g)) r
where
  dpa_set {K : Fg} {G : Hp} {v : V} {d : PyData} : ∀ {vs : List V} {ds : List PyData}, DpAll K G vs ds → ∀ j : Nat, Dp K G v d → DpAll K G (vs.set j v) (ds.set j d)
    | _, _, .nil, _, _ => .nil
    | _, _, .cons a b, 0, h => .cons h b
    | _, _, .cons a b, j + 1, h => .cons a (dpa_set b j h)
theorem db_mapp {t e : Expr} {ds : List PyData} {d : PyData} {p p2 pos : Pos} (ht : DE A X δ s t (.r (.ref D)) s1) (he : DE A X δ s1 e (.d d) s2) (hs : L.get s2 = .l ds) (hz : ds.length < 100000) (r : DB A X E δ (L.put s2 (.l (ds ++ [d]))) (rest :: bs) o) (h0 : ∃ ds, L.get s1 = .l ds := by exact ⟨_, rfl⟩)
    (hbase : attributeBase t "append" X.env (eval t X.env) = eval t X.env := by rfl)
    (hfew : ((backTo p2 (starEach [e] X.env)).all (fun x => !x.1) && (backToKw p2 (keywordEach [] X.env)).all (fun x => x.1.isSome) && decide (([e] : List Expr).length + ([] : List Keyword).length + (if ([] : List Keyword).isEmpty then 0 else 1) < 30)) = true := by rfl)
    (hline : (p.endLine == p2.line) = true := by rfl) (hst : starEach [e] X.env = (false, eval e X.env) :: starEach [] X.env := by rfl) (hpl : (backTo p2 (starEach [] X.env)).any (·.1) = false := by rfl) (hsw : swapsWith (.Call (.Attribute t "append" p) [e] [] p2) none pos.line X.env = pure false := by rfl) :
    DB A X E δ s ((.Expr (.Call (.Attribute t "append" p) [e] [] p2) pos :: rest) :: bs) o :=
  db_step (ps_expr (pe_bm PySem.F.plainAttrs_list PySem.F.slot_list_append PySem.F.type_list_append mt_append pe_w pa_w hbase hfew hline hst hpl) hsw) (fun w σ en iv Ds q => ht w σ en iv _ fun x w1 l1 i1 d1 => by
    obtain rfl : x = .ref D := d1
    refine ⟨.inl ⟨rfl, ?_⟩, da_cons he da_nil hst w1 σ (en.mono l1.g) i1 _ fun vs w2 l2 i2 d2 => ?_⟩
    · have ok := L.rd i1
      obtain ⟨ds1, e1⟩ := h0
      rw [e1] at ok
      obtain ⟨vs, hD, _⟩ := ok
      exact ⟨vs, SqL.of hD⟩
    · obtain ⟨v, rfl, d3⟩ := dvs1 d2
      have ok := L.rd i2
      rw [hs] at ok
      obtain ⟨vs, hD, da⟩ := ok
      have hG := (w2.mt D L.m).1
      have l := l1.trans l2
      refine ⟨D, vs, v, rfl, rfl, hD, Nat.lt_of_lt_of_le (by rw [dpa_len da]; exact hz) (by decide), ?_⟩
      exact q σ (w2.put D (.lst (vs ++ [v])) hG) (l.trans (putM_le L.m)) (put_inv L i2 ⟨_, upd_same, dpa_app da (.cons d3 .nil)⟩) (en.mono l.g)) r
/-- x.extend(a new list) -/
theorem db_mext {t e : Expr} {ds es : List PyData} {p p2 pos : Pos} (ht : DE A X δ s t (.r (.ref D)) s1) (he : DF A X δ s1 e (.l es) s2) (hs : L.get s2 = .l ds) (hz : ds.length + es.length ≤ 100000) (r : DB A X E δ (L.put s2 (.l (ds ++ es))) (rest :: bs) o) (h0 : ∃ ds, L.get s1 = .l ds := by exact ⟨_, rfl⟩)
    (hbase : attributeBase t "extend" X.env (eval t X.env) = eval t X.env := by rfl)
    (hfew : ((backTo p2 (starEach [e] X.env)).all (fun x => !x.1) && (backToKw p2 (keywordEach [] X.env)).all (fun x => x.1.isSome) && decide (([e] : List Expr).length + ([] : List Keyword).length + (if ([] : List Keyword).isEmpty then 0 else 1) < 30)) = true := by rfl)
    (hline : (p.endLine == p2.line) = true := by rfl) (hst : starEach [e] X.env = (false, eval e X.env) :: starEach [] X.env := by rfl) (hpl : (backTo p2 (starEach [] X.env)).any (·.1) = false := by rfl) (hsw : swapsWith (.Call (.Attribute t "extend" p) [e] [] p2) none pos.line X.env = pure false := by rfl) :
    DB A X E δ s ((.Expr (.Call (.Attribute t "extend" p) [e] [] p2) pos :: rest) :: bs) o :=
  db_step (ps_expr (pe_bm PySem.F.plainAttrs_list PySem.F.slot_list_extend PySem.F.type_list_extend mt_extend pe_w (pa_cons pe_w pa_nil hst) hbase hfew hline hst hpl) hsw) (fun w σ en iv Ds q => ht w σ en iv _ fun x w1 l1 i1 d1 => by
    obtain rfl : x = .ref D := d1
    refine ⟨.inl ⟨rfl, ?_⟩, he w1 σ (en.mono l1.g) i1 _ fun B w2 l2 i2 hB0 hBG hBM ok2 => ?_⟩
    · have ok := L.rd i1
      obtain ⟨ds1, e1⟩ := h0
      rw [e1] at ok
      obtain ⟨vs, hD, _⟩ := ok
      exact ⟨vs, SqL.of hD⟩
    · have ok := L.rd i2
      rw [hs] at ok
      obtain ⟨vs, hD, da⟩ := ok
      obtain ⟨us, hB, db⟩ := ok2
      have hG := (w2.mt D L.m).1
      have l := l1.trans l2
      refine ⟨D, B, vs, us, rfl, rfl, hD, hB, Nat.le_trans (by rw [dpa_len da, dpa_len db]; exact hz) (by decide), ?_⟩
      exact q σ (w2.put D (.lst (vs ++ us)) hG) (l.trans (putM_le L.m)) (put_inv L i2 ⟨_, upd_same, dpa_app da db⟩) (en.mono l.g)) r
/-- tuple(x) of a list in motion -/
theorem de_mtup {e : Expr} {ds : List PyData} {p pos : Pos} (N : Nms X.mg) (h : DE A X δ s e (.r (.ref D)) s1) (hs : L.get s1 = .l ds := by rfl) (hg : Gl X "tuple" := by rfl) (hst : starEach [e] X.env = (false, eval e X.env) :: starEach [] X.env := by rfl) : DE A X δ s (.Call (.Name "tuple" p) [e] [] pos) (.d (.tuple ds)) s1 :=
  DE.of (pe_callTy call_tuple_of hg N.tuple (by decide +kernel) pa_w (he := hst)) (ev_cb (da_cons h da_nil hst) fun vs w iv dv Q q => by
    obtain ⟨v, rfl, d1⟩ := dvs1 dv
    obtain rfl : v = .ref D := d1
    have ok := L.rd iv
    rw [hs] at ok
    obtain ⟨xs, hD, da⟩ := ok
    refine ⟨D, xs, rfl, .inl ⟨SqL.of hD, fun l hl => q _ (w.new l _ hl) (w.new_le l _ hl) (inv_new hl iv) ?_⟩⟩
    exact Dp.tup (SqT.of (show upd w.G l _ l = _ from upd_same)) (dpa_mono (w.new_le l _ hl).g da))
/-- a list in motion, read -/
theorem dr_m {e : Expr} {ds : List PyData} (h : DE A X δ s e (.r (.ref D)) s1) (hs : L.get s1 = .l ds := by rfl) : DR A X δ s e ds s1 := fun w σ en iv Q q => h w σ en iv _ fun v w1 l1 i1 d1 => by
  obtain rfl : v = .ref D := d1
  have ok := L.rd i1
  rw [hs] at ok
  obtain ⟨xs, hD, da⟩ := ok
  exact q D xs w1 l1 i1 (.inl (SqL.of hD)) da
end
/-! dicts keyed by pairs -/
def vD : PyData → Option V
  | .int i => some (.int i)
  | .bool b => some (.bl b)
  | _ => none
theorem vD_eq {K : Fg} {G : Hp} {u v : V} {d : PyData} (h : vD d = some v) (k : Dp K G u d) : u = v := by
  cases d with
  | int i => cases h; exact dv_int k
  | bool i => cases h; exact dv_bl k
  | _ => cases h
theorem vD_dv {K : Fg} {G : Hp} {v : V} {d : PyData} (h : vD d = some v) : Dp K G v d := by
  cases d with
  | int i => cases h; exact .int i
  | bool i => cases h; exact .bl i
  | _ => cases h
theorem df_dict {pos : Pos} : DF A X δ s (.Dict [] [] pos) (.m []) s := df_of pe_dnewT fun w σ en iv Q q p hp =>
  q p (⟨w.G, upd w.H p (.dT []), fun b x e => by rw [upd_ne (ne_of_none (w.sub b x e) hp)]; exact w.sub b x e, fun x m => ⟨(w.mt x m).1, by rw [upd_ne ((w.mt x m).2.ne hp)]; exact (w.mt x m).2⟩, w.nt⟩ : Wd A)
    ⟨Same.refl _, fun x o _ e => by
      show upd w.H p _ x = some o
      rw [upd_ne (ne_of_none e hp)]; exact e, fun _ _ e => e⟩ (A.st iv (Same.refl _) fun x o _ e => by
      show upd w.H p _ x = some o
      rw [upd_ne (ne_of_none e hp)]; exact e) hp (w.gn hp) (fun m => (w.mt p m).2.ne hp rfl) upd_same
theorem df_lst {es : List Expr} {ds : List PyData} {pos : Pos} (h : DA A X δ s es (ds.map Sl.d) s1) (hl : Nat.ble ds.length 100000 = true := by rfl) : DF A X δ s (.List es pos) (.l ds) s1 := df_of (pe_lst pa_w) fun w0 σ en iv Q q => h w0 σ en iv _ fun vs w l1 i1 d1 => by
  have da := dvs_all d1
  refine ⟨by rw [dpa_len da]; exact line_of hl, fun p hp => ?_⟩
  exact q p (⟨w.G, upd w.H p (.lst vs), fun b x e => by rw [upd_ne (ne_of_none (w.sub b x e) hp)]; exact w.sub b x e, fun x m => ⟨(w.mt x m).1, by rw [upd_ne ((w.mt x m).2.ne hp)]; exact (w.mt x m).2⟩, w.nt⟩ : Wd A)
    (l1.trans ⟨Same.refl _, fun x o _ e => by
      show upd w.H p _ x = some o
      rw [upd_ne (ne_of_none e hp)]; exact e, fun _ _ e => e⟩) (A.st i1 (Same.refl _) fun x o _ e => by
      show upd w.H p _ x = some o
      rw [upd_ne (ne_of_none e hp)]; exact e) (l1.back hp (not_m hp)) (w.gn hp) (not_m hp) ⟨vs, upd_same, da⟩
/-- a pair as a key: a new tuple -/
theorem ev_key {a b : Expr} {k1 k2 : Key} {j : Nat} {pos : Pos} (h : DA A X δ s [a, b] [.d (keyD k1), .d (keyD k2)] s1) (w : Wd A) (σ : L2.St) (en : EnvD X.K σ w.G δ) (iv : A.inv s w.G w.H) (Q : VK)
    (q : ∀ B (w' : Wd A), Le w w' → A.inv s1 w'.G w'.H → w'.H B = some (.tup ([k1, k2].map kV)) → Q (.ref B) w'.H) : wpT X (.Tuple [a, b] j pos) σ w.H Q := ⟨fun pins sh I =>
  (pe_tup pa_w).run pins sh σ w.H Q I (h w σ en iv _ fun vs w1 l1 i1 d1 => by
    obtain ⟨v, u, rfl, d2, d3⟩ := dvs2 d1
    rw [dp_key d2, dp_key d3]
    exact ⟨Nat.le_trans (show 2 ≤ 100000 by decide) (by decide), fun p hp => q p (w1.new p _ hp) (l1.trans (w1.new_le p _ hp)) (inv_new hp i1) upd_same⟩)⟩
theorem units1 {k : Nat} {B : Around} (r : Room k B) : B.units + 1 < cLine := by have := r.un; omega
theorem db_dput {D : Addr} (L : Ln A X.K D) {t a b e : Expr} {kvs : List (List Key × V)} {k1 k2 : Key} {d : PyData} {v : V} {j k0 : Nat} {p p2 pos : Pos} (hr : Room k0 X.A) (he : DE A X δ s e (.d d) s1) (ht : DE A X δ s1 t (.r (.ref D)) s2) (hk : DA A X δ s2 [a, b] [.d (keyD k1), .d (keyD k2)] s3) (hs : L.get s3 = .m kvs) (hv : vD d = some v) (hz : kvs.length < 100000)
    (r : DB A X E δ (L.put s3 (.m (putK kvs [k1, k2] v))) (rest :: bs) o) (hsw : swapsWith e (some (.Subscript t (.Tuple [a, b] j p2) p)) pos.line X.env = pure false := by rfl) : DB A X E δ s ((.Assign [.Subscript t (.Tuple [a, b] j p2) p] e pos :: rest) :: bs) o :=
  db_step (ps_dput (units1 hr) pe_w pe_w pe_w hsw) (fun w σ en iv Ds q => he w σ en iv _ fun x w1 l1 i1 d1 => ht w1 σ (en.mono l1.g) i1 _ fun y w2 l2 i2 d2 => ev_key hk w2 σ (en.mono (l1.trans l2).g) i2 _ fun B w3 l3 i3 hB => by
    obtain rfl : y = .ref D := d2
    obtain rfl : x = v := vD_eq hv d1
    have ok := L.rd i3
    rw [hs] at ok
    have ok : w3.H D = some (.dT kvs) := ok
    have hG := (w3.mt D L.m).1
    have l := (l1.trans l2).trans l3
    refine ⟨D, _, rfl, DPut.t ok hB (Nat.lt_of_lt_of_le hz (by decide)), ?_⟩
    exact q σ (w3.put D (.dT (putK kvs [k1, k2] x)) hG (fun _ => mu_dT)) (l.trans (putM_le L.m)) (put_inv L i3 upd_same) (en.mono l.g)) r
theorem de_dget {t a b : Expr} {kvs : List (List Key × V)} {k1 k2 : Key} {d : PyData} {v : V} {j k0 : Nat} {p2 pos : Pos} (hr : Room k0 X.A) (ht : DE A X δ s t (.t kvs) s1) (hk : DA A X δ s1 [a, b] [.d (keyD k1), .d (keyD k2)] s2) (hv : vD d = some v) (hg : valV kvs [k1, k2] = some v) (hns : NoSl (.Tuple [a, b] j p2) := by exact fun _ => rfl) :
    DE A X δ s (.Subscript t (.Tuple [a, b] j p2) pos) (.d d) s2 :=
  DE.of (pe_dget (units1 hr) pe_w pe_w hns) fun w σ en iv Q q => ht w σ en iv _ fun y w1 l1 i1 d1 => ev_key hk w1 σ (en.mono l1.g) i1 _ fun B w2 l2 i2 hB => by
    obtain ⟨D, rfl, hD⟩ := d1
    refine ⟨D, v, rfl, ?_, q v w2 (l1.trans l2) i2 (vD_dv hv)⟩
    rw [← hg]
    exact DGet.t (w2.sub _ _ (l2.g _ _ hD)) hB
end
end Kp
end
section
set_option Elab.async false
set_option linter.all false
set_option maxRecDepth 100000
set_option maxHeartbeats 4000000
namespace Kp
open PySem PySem.Spec PyProof.Rows L2
section
variable {A : Amb}
/-- tuples that are there may stand still -/
def Wd.tups (w : Wd A) (bs : List Addr) (h : ∀ b ∈ bs, ∃ xs, w.H b = some (.tup xs)) : Wd A where
  G := fun x => if x ∈ bs then w.H x else w.G x
  H := w.H
  sub := fun b x e => by
    dsimp only at e
    by_cases m : b ∈ bs
    · rw [if_pos m] at e; exact e
    · rw [if_neg m] at e; exact w.sub b x e
  mt := fun x m => ⟨by
    try dsimp only
    have n : x ∉ bs := fun z => by
      obtain ⟨xs, e⟩ := h x z
      obtain ⟨u, e2, n⟩ := (w.mt x m).2
      rw [e] at e2
      cases e2
      exact n.1 xs rfl
    rw [if_neg n]
    exact (w.mt x m).1, (w.mt x m).2⟩
  nt := fun x ps e => by
    dsimp only at e
    by_cases m : x ∈ bs
    · rw [if_pos m] at e
      obtain ⟨xs, e2⟩ := h x m
      rw [e2] at e
      cases e
    · rw [if_neg m] at e
      exact w.nt x ps e
theorem Wd.tups_le (w : Wd A) (bs : List Addr) (h : ∀ b ∈ bs, ∃ xs, w.H b = some (.tup xs)) : Le w (w.tups bs h) where
  g := fun x o e => by
    show (if x ∈ bs then w.H x else w.G x) = some o
    by_cases m : x ∈ bs
    · rw [if_pos m]; exact w.sub x o e
    · rw [if_neg m]; exact e
  h := fun _ _ _ e => e
  f := fun x hx e => by
    show (if x ∈ bs then w.H x else w.G x) = none
    have n : x ∉ bs := fun z => by
      obtain ⟨xs, e⟩ := h x z
      obtain ⟨u, e2, n⟩ := hx
      rw [e] at e2
      cases e2
      exact n.1 xs rfl
    rw [if_neg n]
    exact e
theorem paired_mem {H : Hp} : ∀ {kvs : List (List Key × V)} {bs : List Addr}, IsKeys H kvs bs → ∀ b ∈ bs, ∃ k : List Key, H b = some (.tup (k.map kV))
  | _, _, .nil, _, m => nomatch m
  | _, _, .cons h t, b, m => by
    cases m with
    | head => exact ⟨_, h⟩
    | tail _ m => exact paired_mem t b m
theorem keys_all {K : Fg} {G H : Hp} : ∀ {kvs : List (List Key × V)} {bs : List Addr}, IsKeys H kvs bs → (∀ b ∈ bs, ∀ u, H b = some u → G b = some u) → DpAll K G (bs.map V.ref) ((kvs.map (·.1)).map keysD)
  | _, _, .nil, _ => .nil
  | _, _, .cons h t, k => .cons (.tup (SqT.of (k _ (List.mem_cons_self ..) _ h)) (keys_dpa _)) (keys_all t fun b m => k b (List.mem_cons_of_mem _ m))
end
section
variable {A : Amb} {X : Cx} {E : XK} {δ δ' : Dl} {s s1 s2 s3 : A.S} {o : Out A} {rest : List Stmt} {bs : List (List Stmt)}
/-- list(d) of a dict in motion: its keys -/
theorem de_mlist {D : Addr} (L : Ln A X.K D) {e : Expr} {kvs : List (List Key × V)} {p pos : Pos} (N : Nms X.mg) (hc : X.calm = true) (h : DE A X δ s e (.r (.ref D)) s1) (hs : L.get s1 = .m kvs) (hg : Gl X "list" := by rfl) (hst : starEach [e] X.env = (false, eval e X.env) :: starEach [] X.env := by rfl) :
    DE A X δ s (.Call (.Name "list" p) [e] [] pos) (.d (.list ((kvs.map (·.1)).map keysD))) s1 :=
  DE.of (pe_callTy (call_list_dT hc) hg N.list (by decide +kernel) pa_w (he := hst)) (ev_cb (da_cons h da_nil hst) fun vs w iv dv Q q => by
    obtain ⟨v, rfl, d1⟩ := dvs1 dv
    obtain rfl : v = .ref D := d1
    have ok := L.rd iv
    rw [hs] at ok
    have ok : w.H D = some (.dT kvs) := ok
    refine ⟨D, kvs, rfl, .inl ok, fun p bs hp hk => ?_⟩
    have ne : ∀ b ∈ bs, b ≠ p := fun b m z => by
      obtain ⟨k, e⟩ := paired_mem hk b m
      rw [z, hp] at e
      cases e
    have h1 : ∀ b ∈ bs, ∃ xs, (w.new p (.lst (bs.map V.ref)) hp).H b = some (.tup xs) := fun b m => by
      obtain ⟨k, e⟩ := paired_mem hk b m
      exact ⟨_, (upd_ne (ne b m)).trans e⟩
    have l1 := w.new_le p (.lst (bs.map V.ref)) hp
    have l2 := (w.new p (.lst (bs.map V.ref)) hp).tups_le bs h1
    refine q _ ((w.new p (.lst (bs.map V.ref)) hp).tups bs h1) (l1.trans l2) (A.st (inv_new hp iv) l2.g fun _ _ _ e => e) (Dp.lst (SqL.of (l2.g p _ (show upd w.G p _ p = _ from upd_same))) (keys_all hk fun b m u e => ?_))
    show (if b ∈ bs then upd w.H p _ b else _) = some u
    rw [if_pos m, upd_ne (ne b m)]
    exact e)
/-! defs that change their first argument -/
def spM (K : Fg) (R : Mo → List Sl → Mo → Sl → Prop) : Sp := fun vs H Q E => ∃ (G : Hp) (D : Addr) (us : List V) (cs : List Sl) (m m' : Mo) (c : Sl), vs = .ref D :: us ∧ Nt G ∧ Same G H ∧ G D = none ∧ MoOk K G H D m ∧ DVs K G us cs ∧ R m cs m' c ∧
  ∀ v G' H', Nt G' → Same G' H' → Same G G' → (∀ x u, x ≠ D → H x = some u → H' x = some u) → (∀ x, Mu (H x) → G x = none → G' x = none) → MoOk K G' H' D m' → DV K G' v c → Q v H'
section
variable {P : Program} {w : World} {K : Fg} {mg : Str → Option Value} {base : Heap}
theorem dfn_ofM {x : Str} {st : Stmt} {N ps : List Str} {k : Nat} {R : Mo → List Sl → Mo → Sl → Prop} (F : Df K mg x st ps) (S : FnScope N ps (defScope st)) (len : ∀ m cs m' c, R m cs m' c → cs.length + 1 = ps.length)
    (body : ∀ f cdv B outer s H E D m cs m' c, (hD : ¬ A0.M D) → Room k (B.deeper (envOfC x (defScope st) s.heap.objs.size f cdv)) → R m cs m' c → Takes (Cf P w K mg base N x st f cdv B outer s H E) (fun cls d _ H => E cls d H) →
      DB (A0.add (Cf P w K mg base N x st f cdv B outer s H E).K D) (Cf P w K mg base N x st f cdv B outer s H E) E (dstart N (.r (.ref D) :: cs)) ((), m) [defBody st] (.rt c ((), m'))) : Dfn P w K mg base (k + 1) x ps (spM K R) := by
  obtain ⟨f, fd, G, b, m⟩ := F.ex
  refine ⟨f, fd, ?_, b, m, G.kp⟩
  refine G.okX S (fun vs H Q E h => ?_) fun cdv B outer s H vs Q E hr h => ?_
  · obtain ⟨G', D, us, cs, m, m', c, rfl, _, _, _, _, dv, hR, _⟩ := h
    rw [List.length_cons, dvs_len dv]; exact len m cs m' c hR
  · obtain ⟨G', D, us, cs, m, m', c, rfl, nt, sub, hD, ok, dv, hR, hq⟩ := h
    have tk : Takes (Cf P w K mg base N x st f cdv B outer s H E) (fun cls d _ H => E cls d H) := takes_of rfl rfl rfl rfl
    refine ⟨wpS _ (defBody st), pss_w, ?_⟩
    have h := body f cdv B outer s H E D m cs m' c (fun z => z) hr hR tk ((w0 sub nt).up K D hD ok.mu) (L2.start N (.ref D :: us)) (env_start (cs := .r (.ref D) :: cs) ⟨rfl, dv⟩) ⟨trivial, ok⟩ { nx := fun _ H' => Q .non H', rt := Q }
      (fun v w' l i d => hq v w'.G w'.H w'.nt w'.sub l.g (fun x o n e => l.h x o (fun z => z.elim (fun z => z) n) e) l.f i.2 d)
    have : wpBs (Cf P w K mg base N x st f cdv B outer s H E) [defBody st] { nx := fun _ H' => Q .non H', rt := Q } (L2.start N (.ref D :: us)) H := h
    exact this
end
theorem de_callM {D : Addr} (L : Ln A X.K D) {x : Str} {ps : List Str} {k : Nat} {R : Mo → List Sl → Mo → Sl → Prop} {e : Expr} {es : List Expr} {cs : List Sl} {c : Sl} {m m' : Mo} {p pos : Pos} (F : Dfn X.prog X.w X.K X.mg X.base k x ps (spM X.K R)) (hr : Room k X.A) (h : DA A X δ s (e :: es) (.r (.ref D) :: cs) s1)
    (hs : L.get s1 = m) (hR : R m cs m' c) (hg : Gl X x := by rfl) (hdb : (x == ("__debug__" : Str)) = false := by decide) (he : starEach (e :: es) X.env = (false, eval e X.env) :: starEach es X.env := by rfl) (hpl : (backTo pos (starEach es X.env)).any (·.1) = false := by rfl) :
    DE A X δ s (.Call (.Name x p) (e :: es) [] pos) c (L.put s1 m') := by
  obtain ⟨f, fd, Gf, b, mm, kk⟩ := F.ex
  refine DE.of (pe_call Gf hr hg mm kk b .nil passL pa_w hdb he hpl) fun w σ en iv Q q => h w σ en iv _ fun vs w1 l1 i1 d1 => ?_
  rw [List.append_nil]
  match vs, d1 with
  | v :: us, ⟨dv, d2⟩ =>
    obtain rfl : v = .ref D := dv
    have ok := L.rd i1
    rw [hs] at ok
    refine ⟨w1.G, D, us, cs, m, m', c, rfl, w1.nt, w1.sub, (w1.mt D L.m).1, ok, d2, hR, fun v G' H' a0 a1 a2 a3 a4 ok' dv => ?_⟩
    refine q v (⟨G', H', a1, fun x mx => ⟨a4 x (w1.mt x mx).2 (w1.mt x mx).1, ?_⟩, a0⟩ : Wd A) (l1.trans ⟨a2, fun x u n e => a3 x u (fun z => n (by rw [z]; exact L.m)) e, a4⟩) (L.wr i1 a2 ok' fun x u _ n e => a3 x u n e) dv
    by_cases z : x = D
    · rw [z]; exact ok'.mu
    · obtain ⟨u, e, n⟩ := (w1.mt x mx).2
      exact ⟨u, a3 x u z e, n⟩
end
end Kp
end
section
set_option Elab.async false
set_option linter.all false
set_option maxRecDepth 100000
set_option maxHeartbeats 4000000
namespace Kp
open PySem PySem.Spec PyProof.Rows L2
/-! all entries so many beats apart -/
def sG (l : List Str) (i : Nat) : Str := l.getD i (S "")
def uG (i : Nat) : Str × Str := usersL.getD i (S "", S "")
def valsAt (d : Int) : List PyData := outs2 4 (fun _ => 7) fun i j => (Ent.value (sG writingL i) (uG j) d).enc
def ordsAt (d : Int) : List PyData := outs2 4 (fun _ => 4) fun i j => (Ent.order (sG writingL i) (sG writingL j) d).enc
def wrosAt (d : Int) : List PyData := outs2 2 (fun _ => 6) fun i j => (Ent.wrong (sG jumpsL i) (sG effectsL j) d).enc
def entD (d : Int) : List PyData := valsAt d ++ ordsAt d ++ [(Ent.mem true d).enc, (Ent.mem false d).enc] ++ wrosAt d
theorem outs2_len (n k : Nat) (g : Nat → Nat → PyData) : (outs2 n (fun _ => k) g).length = n * k := by
  unfold outs2
  induction n with
  | zero => simp
  | succ n ih =>
    rw [List.range_succ, List.flatMap_append, List.length_append, ih]
    simp [Nat.succ_mul]
theorem few2 {n k : Nat} {g : Nat → Nat → PyData} (h : n * k ≤ 1000) : ∀ i, i ≤ n → (outs2 i (fun _ => k) g).length ≤ 50000 := fun i hi => by
  rw [outs2_len]
  have := Nat.mul_le_mul_right k hi
  omega
section
variable {P : Program} {w : World} {K : Fg} {mg : Str → Option Value} {base : Heap}
abbrev N32 : List Str := ["apart", "found", "first", "second", "role"]
theorem sc32 : FnScope N32 ["apart"] (defScope (top 32)) := ⟨rfl, rfl, rfl, by decide +kernel, rfl, by decide +kernel, by decide +kernel⟩
def rApart : List Sl → Res → Prop := fun cs r => ∃ d : Int, cs = [.d (.int d)] ∧ r = .val (.d (.list (entD d)))
abbrev DApart (P : Program) (w : World) (K : Fg) (mg : Str → Option Value) (base : Heap) : Prop := Dfn P w K mg base 1 "entries_apart" ["apart"] (spR K rApart)
theorem f_apart (N : Nms mg) (T : Tabs_ K mg) (F : Df K mg "entries_apart" (top 32) ["apart"]) : DApart P w K mg base := by
  refine dfn_of F sc32 ?_ ?_
  · rintro cs r ⟨_, rfl, _⟩; rfl
  · rintro f cdv B outer s H E cs r hr ⟨d, rfl, rfl⟩ tk
    have nd := sc32.nd
    refine db_mutG (s1 := ()) (m := .l (valsAt d)) (ps_lc2 1 rfl nd (blkOk_by (N := N32) (sc := defScope (top 32)) (own := [("first", 2), ("second", 3), ("role", 4)]) (by decide +kernel)) (vs1 := [3, 4]) (by decide)) ?_ fun D hD => ⟨_, OutUp.rtL (A := A0) (s := ()) (ds := entD d), ?_⟩
    · exact evf_lc2 (n := 4) (m := fun _ => 7) (vs1 := [3, 4]) (ks := [2]) (ks1 := [3, 4]) (item1 := fun _ j => .d (pairS (uG j))) (g := fun i j => (Ent.value (sG writingL i) (uG j) d).enc) rfl nd (di_tupM (l := writingL) .str (S "") (de_glob T.writing)) (blkOk_by (N := N32) (sc := defScope (top 32)) (own := [("first", 2), ("second", 3), ("role", 4)]) (by decide +kernel)) (by decide) (by decide) (by decide)
        (few2 (by decide)) (fun _ => by decide) (fun i hi sh H C cl fp => dg_name 2 nd) (fun i hi sh H C cl fp => di_tupM (l := usersL) pairS (S "", S "") (de_glob T.users))
        (fun i j hi hj sh H C cl fp => dg_tup (ds := [.str (uG j).1, .str (uG j).2]) rfl (dgs_cons (dg_name 3 nd) (dgs_cons (dg_name 4 nd) dgs_nil)))
        (fun i j hi hj sh H C cl fp => de_tup (ds := [.str (S "value"), .str (sG writingL i), .str (uG j).1, .str (uG j).2, .int d]) (da_cons de_str (da_cons (de_var 2) (da_cons (de_var 3) (da_cons (de_var 4) (da_cons (de_var 0) da_nil))))))
    · refine db_mext (Ln.top hD) (s1 := ((), .l (valsAt d))) (s2 := ((), .l (valsAt d))) (es := ordsAt d) (de_var 1) ?_ rfl ?_ ?_
      · exact df_lc2 (n := 4) (m := fun _ => 4) (vs1 := [3]) (ks := [2]) (ks1 := [3]) (item1 := fun _ j => .d (.str (sG writingL j))) (g := fun i j => (Ent.order (sG writingL i) (sG writingL j) d).enc) rfl nd (di_tupM (l := writingL) .str (S "") (de_glob T.writing)) (blkOk_by (N := N32) (sc := defScope (top 32)) (own := [("first", 2), ("second", 3)]) (by decide +kernel)) (by decide) (by decide) (by decide)
          (few2 (by decide)) (fun _ => by decide) (fun i hi sh H C cl fp => dg_name 2 nd) (fun i hi sh H C cl fp => di_tupM (l := writingL) .str (S "") (de_glob T.writing))
          (fun i j hi hj sh H C cl fp => dg_name 3 nd)
          (fun i j hi hj sh H C cl fp => de_tup (ds := [.str (S "order"), .str (sG writingL i), .str (sG writingL j), .int d]) (da_cons de_str (da_cons (de_var 2) (da_cons (de_var 3) (da_cons (de_var 0) da_nil)))))
      · simp only [valsAt, ordsAt, outs2_len]; decide
      · refine db_mext (Ln.top hD) (s1 := ((), .l (valsAt d ++ ordsAt d))) (s2 := ((), .l (valsAt d ++ ordsAt d))) (es := [(Ent.mem true d).enc, (Ent.mem false d).enc]) (de_var 1) ?_ rfl ?_ ?_
        · exact df_lst (da_cons (de_tup (ds := [.str (S "memory"), .str (S "store"), .str (S "load"), .int d]) (da_cons de_str (da_cons de_str (da_cons de_str (da_cons (de_var 0) da_nil))))) (da_cons (de_tup (ds := [.str (S "memory"), .str (S "load"), .str (S "store"), .int d]) (da_cons de_str (da_cons de_str (da_cons de_str (da_cons (de_var 0) da_nil))))) da_nil))
        · simp only [valsAt, ordsAt, List.length_append, outs2_len]; exact Nat.le_of_ble_eq_true rfl
        · refine db_mext (Ln.top hD) (s1 := ((), .l (valsAt d ++ ordsAt d ++ [(Ent.mem true d).enc, (Ent.mem false d).enc]))) (s2 := ((), .l (valsAt d ++ ordsAt d ++ [(Ent.mem true d).enc, (Ent.mem false d).enc]))) (es := wrosAt d) (de_var 1) ?_ rfl ?_ ?_
          · exact df_lc2 (n := 2) (m := fun _ => 6) (vs1 := [3]) (ks := [2]) (ks1 := [3]) (item1 := fun _ j => .d (.str (sG effectsL j))) (g := fun i j => (Ent.wrong (sG jumpsL i) (sG effectsL j) d).enc) rfl nd (di_tupM (l := jumpsL) .str (S "") (de_tup (ds := [.str (S "zero"), .str (S "go")]) (da_cons de_str (da_cons de_str da_nil)))) (blkOk_by (N := N32) (sc := defScope (top 32)) (own := [("first", 2), ("second", 3)]) (by decide +kernel)) (by decide) (by decide) (by decide)
              (few2 (by decide)) (fun _ => by decide) (fun i hi sh H C cl fp => dg_name 2 nd) (fun i hi sh H C cl fp => di_tupM (l := effectsL) .str (S "") (de_glob T.effects))
              (fun i j hi hj sh H C cl fp => dg_name 3 nd)
              (fun i j hi hj sh H C cl fp => de_tup (ds := [.str (S "wrong"), .str (sG jumpsL i), .str (sG effectsL j), .int d]) (da_cons de_str (da_cons (de_var 2) (da_cons (de_var 3) (da_cons (de_var 0) da_nil)))))
          · simp only [valsAt, ordsAt, wrosAt, List.length_append, outs2_len]; exact Nat.le_of_ble_eq_true rfl
          · exact db_ret (de_var 1)
end
end Kp
end
section
set_option Elab.async false
set_option linter.all false
set_option maxRecDepth 100000
set_option maxHeartbeats 4000000
namespace Kp
open PySem PySem.Spec PyProof.Rows L2
/-! sorted without doubles -/
section
variable {β : Type} (ky : β → List Key)
def insU (x : β) : List β → List β
  | [] => [x]
  | y :: l => if ltK (ky x) (ky y) = true then x :: y :: l else if ltK (ky y) (ky x) = true then y :: insU x l else y :: l
def sortU (l : List β) : List β := l.foldr (insU ky) []
theorem mem_insU (inj : ∀ a b, ky a = ky b → a = b) (x z : β) : ∀ l : List β, z ∈ insU ky x l ↔ z = x ∨ z ∈ l
  | [] => by simp [insU]
  | y :: l => by
    unfold insU
    by_cases h : ltK (ky x) (ky y) = true
    · rw [if_pos h, List.mem_cons]
    · rw [if_neg h]
      by_cases h2 : ltK (ky y) (ky x) = true
      · rw [if_pos h2, List.mem_cons, mem_insU inj x z l, List.mem_cons]
        constructor
        · rintro (e | e | e)
          · exact .inr (.inl e)
          · exact .inl e
          · exact .inr (.inr e)
        · rintro (e | e | e)
          · exact .inr (.inl e)
          · exact .inl e
          · exact .inr (.inr e)
      · rw [if_neg h2]
        have e : x = y := by
          refine Classical.byContradiction fun ne => ?_
          rw [Bool.not_eq_true] at h h2
          have := ltK_tot h (fun z => ne (inj _ _ z))
          rw [h2] at this
          cases this
        rw [e, List.mem_cons]
        constructor
        · exact .inr
        · rintro (e | e)
          · exact .inl e
          · exact e
theorem mem_sortU (inj : ∀ a b, ky a = ky b → a = b) (z : β) : ∀ l : List β, z ∈ sortU ky l ↔ z ∈ l
  | [] => Iff.rfl
  | x :: l => by
    show z ∈ insU ky x (sortU ky l) ↔ _
    rw [mem_insU ky inj, mem_sortU inj z l, List.mem_cons]
theorem asc_insU (inj : ∀ a b, ky a = ky b → a = b) (x : β) : ∀ {l : List β}, l.Pairwise (fun a b => ltK (ky a) (ky b) = true) → (insU ky x l).Pairwise fun a b => ltK (ky a) (ky b) = true
  | [], _ => List.pairwise_singleton _ _
  | y :: l, h => by
    have h' := List.pairwise_cons.mp h
    unfold insU
    by_cases c : ltK (ky x) (ky y) = true
    · rw [if_pos c]
      refine List.pairwise_cons.mpr ⟨fun z m => ?_, h⟩
      rcases List.mem_cons.mp m with rfl | m
      · exact c
      · exact ltK_tr c (h'.1 z m)
    · rw [if_neg c]
      by_cases c2 : ltK (ky y) (ky x) = true
      · rw [if_pos c2]
        refine List.pairwise_cons.mpr ⟨fun z m => ?_, asc_insU inj x h'.2⟩
        rcases (mem_insU ky inj x z l).mp m with rfl | m
        · exact c2
        · exact h'.1 z m
      · rw [if_neg c2]
        exact h
theorem asc_sortU (inj : ∀ a b, ky a = ky b → a = b) : ∀ l : List β, (sortU ky l).Pairwise fun a b => ltK (ky a) (ky b) = true
  | [] => .nil
  | x :: l => asc_insU ky inj x (asc_sortU inj l)
theorem sortU_asc (inj : ∀ a b, ky a = ky b → a = b) (l : List β) : Asc ((sortU ky l).map ky) := List.pairwise_map.mpr (asc_sortU ky inj l)
theorem sortU_mem (inj : ∀ a b, ky a = ky b → a = b) (l : List β) (k : List Key) : k ∈ (sortU ky l).map ky ↔ k ∈ l.map ky := by
  rw [List.mem_map, List.mem_map]
  exact ⟨fun ⟨a, m, e⟩ => ⟨a, (mem_sortU ky inj a l).mp m, e⟩, fun ⟨a, m, e⟩ => ⟨a, (mem_sortU ky inj a l).mpr m, e⟩⟩
theorem uniqU (inj : ∀ a b, ky a = ky b → a = b) {l m : List β} (hl : l.Pairwise fun a b => ltK (ky a) (ky b) = true) (hm : m.Pairwise fun a b => ltK (ky a) (ky b) = true) (h : ∀ a, a ∈ l ↔ a ∈ m) : l = m := by
  have e : l.map ky = m.map ky := asc_uniq (List.pairwise_map.mpr hl) (List.pairwise_map.mpr hm) fun k => by
    rw [List.mem_map, List.mem_map]
    exact ⟨fun ⟨a, m, e⟩ => ⟨a, (h a).mp m, e⟩, fun ⟨a, m, e⟩ => ⟨a, (h a).mpr m, e⟩⟩
  have go : ∀ {l m : List β}, l.map ky = m.map ky → l = m := fun {l} => by
    induction l with
    | nil => intro m e; cases m with
      | nil => rfl
      | cons => cases e
    | cons x l ih =>
      intro m e
      cases m with
      | nil => cases e
      | cons y m =>
        obtain ⟨e1, e2⟩ := List.cons.inj e
        rw [inj _ _ e1, ih e2]
  exact go e
theorem insU_len (x : β) : ∀ l : List β, (insU ky x l).length ≤ l.length + 1
  | [] => Nat.le_refl _
  | y :: l => by
    unfold insU
    by_cases c : ltK (ky x) (ky y) = true
    · rw [if_pos c]; exact Nat.le_refl _
    · rw [if_neg c]
      by_cases c2 : ltK (ky y) (ky x) = true
      · rw [if_pos c2, List.length_cons, List.length_cons]
        exact Nat.succ_le_succ (insU_len x l)
      · rw [if_neg c2]; exact Nat.le_succ _
theorem sortU_len : ∀ l : List β, (sortU ky l).length ≤ l.length
  | [] => Nat.le_refl _
  | x :: l => Nat.le_trans (insU_len ky x (sortU ky l)) (Nat.succ_le_succ (sortU_len l))
end
/-! pairs -/
def pk (p : Int × Int) : List Key := [.inl p.1, .inl p.2]
theorem pk_inj (a b : Int × Int) (h : pk a = pk b) : a = b := by
  injection h with h1 h2
  injection h2 with h2 _
  injection h1 with h1
  injection h2 with h2
  exact Prod.ext h1 h2
theorem pk_enc (p : Int × Int) : keysD (pk p) = pth p := rfl
theorem pks_enc (l : List (Int × Int)) : (l.map pk).map keysD = l.map pth := by rw [List.map_map]; rfl
theorem pk_alike (q r : Int × Int) : PySem.W.alike (keysD (pk q)) (keysD (pk r)) = true := pth_alike q r
theorem pk_cmp (q r : Int × Int) : cmpK (pk q) (pk r) = true := by
  unfold pk cmpK
  split
  · unfold cmpK
    split
    · rfl
    · rfl
  · rfl
theorem pk_lt (q r : Int × Int) : ltK (pk q) (pk r) = ltP q r := pth_lt q r
/-! entries -/
def Ent.ky : Ent → List Key
  | .value k u d => [.inr (S "value"), .inr k, .inr u.1, .inr u.2, .inl d]
  | .order k l d => [.inr (S "order"), .inr k, .inr l, .inl d]
  | .mem true d => [.inr (S "memory"), .inr (S "store"), .inr (S "load"), .inl d]
  | .mem false d => [.inr (S "memory"), .inr (S "load"), .inr (S "store"), .inl d]
  | .wrong j e d => [.inr (S "wrong"), .inr j, .inr e, .inl d]
theorem ky_enc (e : Ent) : keysD e.ky = e.enc := by
  cases e with
  | mem b d => cases b <;> rfl
  | _ => rfl
theorem kys_enc (l : List Ent) : (l.map Ent.ky).map keysD = l.map Ent.enc := by
  rw [List.map_map]
  exact List.map_congr_left fun e _ => ky_enc e
theorem s_ne1 : S "value" ≠ S "order" := by decide +kernel
theorem s_ne2 : S "value" ≠ S "memory" := by decide +kernel
theorem s_ne3 : S "value" ≠ S "wrong" := by decide +kernel
theorem s_ne4 : S "order" ≠ S "memory" := by decide +kernel
theorem s_ne5 : S "order" ≠ S "wrong" := by decide +kernel
theorem s_ne6 : S "memory" ≠ S "wrong" := by decide +kernel
theorem s_ne7 : S "store" ≠ S "load" := by decide +kernel
theorem hd_inj {x y : Str} {r t : List Key} (h : (Sum.inr x :: r : List Key) = Sum.inr y :: t) : x = y ∧ r = t := by
  obtain ⟨h1, h2⟩ := List.cons.inj h
  exact ⟨Sum.inr.inj h1, h2⟩
theorem ky_inj (a b : Ent) (h : a.ky = b.ky) : a = b := by
  cases a with
  | value k u d =>
    cases b with
    | value k' u' d' =>
      obtain ⟨_, h⟩ := hd_inj h
      obtain ⟨h1, h⟩ := hd_inj h
      obtain ⟨h2, h⟩ := hd_inj h
      obtain ⟨h3, h⟩ := hd_inj h
      have h4 := Sum.inl.inj (List.cons.inj h).1
      rw [h1, h4, Prod.ext h2 h3]
    | order => exact absurd (hd_inj h).1 s_ne1
    | mem b => cases b <;> exact absurd (hd_inj h).1 s_ne2
    | wrong => exact absurd (hd_inj h).1 s_ne3
  | order k l d =>
    cases b with
    | value => exact absurd (hd_inj h).1.symm s_ne1
    | order k' l' d' =>
      obtain ⟨_, h⟩ := hd_inj h
      obtain ⟨h1, h⟩ := hd_inj h
      obtain ⟨h2, h⟩ := hd_inj h
      have h4 := Sum.inl.inj (List.cons.inj h).1
      rw [h1, h4, h2]
    | mem b => cases b <;> exact absurd (hd_inj h).1 s_ne4
    | wrong => exact absurd (hd_inj h).1 s_ne5
  | mem c d =>
    cases b with
    | value => cases c <;> exact absurd (hd_inj h).1.symm s_ne2
    | order => cases c <;> exact absurd (hd_inj h).1.symm s_ne4
    | mem b d' =>
      cases c with
      | true =>
        cases b with
        | true =>
          obtain ⟨_, h⟩ := hd_inj h
          obtain ⟨_, h⟩ := hd_inj h
          obtain ⟨_, h⟩ := hd_inj h
          rw [Sum.inl.inj (List.cons.inj h).1]
        | false => exact absurd (hd_inj (hd_inj h).2).1 s_ne7
      | false =>
        cases b with
        | false =>
          obtain ⟨_, h⟩ := hd_inj h
          obtain ⟨_, h⟩ := hd_inj h
          obtain ⟨_, h⟩ := hd_inj h
          rw [Sum.inl.inj (List.cons.inj h).1]
        | true => exact absurd (hd_inj (hd_inj h).2).1.symm s_ne7
    | wrong => cases c <;> exact absurd (hd_inj h).1 s_ne6
  | wrong j e d =>
    cases b with
    | value => exact absurd (hd_inj h).1.symm s_ne3
    | order => exact absurd (hd_inj h).1.symm s_ne5
    | mem b => cases b <;> exact absurd (hd_inj h).1.symm s_ne6
    | wrong j' e' d' =>
      obtain ⟨_, h⟩ := hd_inj h
      obtain ⟨h1, h⟩ := hd_inj h
      obtain ⟨h2, h⟩ := hd_inj h
      have h4 := Sum.inl.inj (List.cons.inj h).1
      rw [h1, h4, h2]
theorem cmp_s {x y : Str} {a b : List Key} (h : x = y → cmpK a b = true) : cmpK (.inr x :: a) (.inr y :: b) = true := by
  rw [cmpK]
  by_cases e : x = y
  · rw [if_pos e]; exact h e
  · rw [if_neg e]
theorem cmp_i {x y : Int} : cmpK [.inl x] [.inl y] = true := by
  rw [cmpK]
  by_cases e : x = y
  · rw [if_pos e]; rfl
  · rw [if_neg e]
theorem ky_cmp (a b : Ent) : cmpK a.ky b.ky = true := by
  have five : ∀ {x y x1 y1 x2 y2 x3 y3 : Str} {d e : Int}, cmpK [.inr x, .inr x1, .inr x2, .inr x3, .inl d] [.inr y, .inr y1, .inr y2, .inr y3, .inl e] = true := cmp_s fun _ => cmp_s fun _ => cmp_s fun _ => cmp_s fun _ => cmp_i
  have four : ∀ {x y x1 y1 x2 y2 : Str} {d e : Int}, cmpK [.inr x, .inr x1, .inr x2, .inl d] [.inr y, .inr y1, .inr y2, .inl e] = true := cmp_s fun _ => cmp_s fun _ => cmp_s fun _ => cmp_i
  cases a with
  | value => cases b with
    | value => exact five
    | order => exact cmp_s fun z => absurd z s_ne1
    | mem b => cases b <;> exact cmp_s fun z => absurd z s_ne2
    | wrong => exact cmp_s fun z => absurd z s_ne3
  | order => cases b with
    | value => exact cmp_s fun z => absurd z.symm s_ne1
    | order => exact four
    | mem b => cases b <;> exact four
    | wrong => exact four
  | mem c => cases b with
    | value => cases c <;> exact cmp_s fun z => absurd z.symm s_ne2
    | order => cases c <;> exact four
    | mem b => cases c <;> cases b <;> exact four
    | wrong => cases c <;> exact four
  | wrong => cases b with
    | value => exact cmp_s fun z => absurd z.symm s_ne3
    | order => exact four
    | mem b => cases b <;> exact four
    | wrong => exact four
theorem ky_fst (e : Ent) : ∃ x r, e.ky = Sum.inr x :: r := by
  cases e with
  | mem b d => cases b <;> exact ⟨_, _, rfl⟩
  | _ => exact ⟨_, _, rfl⟩
/-! all entries -/
def entL (d : Int) : List Ent := (writingL.flatMap fun k => usersL.map fun u => .value k u d) ++ (writingL.flatMap fun k => writingL.map fun l => .order k l d) ++ [.mem true d, .mem false d] ++ jumpsL.flatMap fun j => effectsL.map fun e => .wrong j e d
theorem entD_eq (d : Int) : entD d = (entL d).map Ent.enc := by rfl
def allL : List Ent := (List.range 7).flatMap fun (i : Nat) => entL (1 + (i : Int))
theorem entL_d (d : Int) : ∀ e ∈ entL d, e.d = d ∧ (1 ≤ d → d ≤ 7 → e.okB = true) := by
  intro e h
  unfold entL at h
  simp only [List.mem_append, List.mem_flatMap, List.mem_map] at h
  have ok : 1 ≤ d → d ≤ 7 → (decide (1 ≤ d) && decide (d ≤ 7)) = true := fun a b => by rw [decide_eq_true a, decide_eq_true b]; rfl
  have mc : ∀ {α : Type} [BEq α] [LawfulBEq α] {l : List α} {x : α}, x ∈ l → l.contains x = true := fun m => by simpa using m
  rcases h with ((⟨k, hk, u, hu, rfl⟩ | ⟨k, hk, l, hl, rfl⟩) | h) | ⟨j, hj, x, hx, rfl⟩
  · exact ⟨rfl, fun a b => by show (_ && (_ && _)) = true; rw [mc hk, mc hu, ok a b]; rfl⟩
  · exact ⟨rfl, fun a b => by show (_ && (_ && _)) = true; rw [mc hk, mc hl, ok a b]; rfl⟩
  · simp only [List.mem_cons, List.not_mem_nil, or_false] at h
    rcases h with rfl | rfl
    · exact ⟨rfl, ok⟩
    · exact ⟨rfl, ok⟩
  · exact ⟨rfl, fun a b => by show (_ && (_ && _)) = true; rw [mc hj, mc hx, ok a b]; rfl⟩
theorem allL_ok {e : Ent} (h : e ∈ allL) : e.okB = true := by
  unfold allL at h
  rw [List.mem_flatMap] at h
  obtain ⟨i, hi, he⟩ := h
  have hi := List.mem_range.mp hi
  exact (entL_d _ e he).2 (by omega) (by omega)
theorem mem_allL {e : Ent} (h : e.okB = true) : e ∈ allL := by
  have rg : ∀ d : Int, 1 ≤ d → d ≤ 7 → e ∈ entL d → e ∈ allL := fun d a b m => by
    unfold allL
    rw [List.mem_flatMap]
    exact ⟨(d - 1).toNat, List.mem_range.mpr (by omega), by rw [show (1 + ((d - 1).toNat : Int)) = d by omega]; exact m⟩
  cases e with
  | value k u d =>
    obtain ⟨hk, hu, a, b⟩ := ent_ok h
    refine rg d a b ?_
    unfold entL
    simp only [List.mem_append, List.mem_flatMap, List.mem_map]
    exact .inl (.inl (.inl ⟨k, mem_c hk, u, mem_c hu, rfl⟩))
  | order k l d =>
    have h : (writingL.contains k && (writingL.contains l && (decide (1 ≤ d) && decide (d ≤ 7)))) = true := h
    simp only [Bool.and_eq_true, decide_eq_true_eq] at h
    refine rg d h.2.2.1 h.2.2.2 ?_
    unfold entL
    simp only [List.mem_append, List.mem_flatMap, List.mem_map]
    exact .inl (.inl (.inr ⟨k, mem_c h.1, l, mem_c h.2.1, rfl⟩))
  | mem b d =>
    have h : (decide (1 ≤ d) && decide (d ≤ 7)) = true := h
    simp only [Bool.and_eq_true, decide_eq_true_eq] at h
    refine rg d h.1 h.2 ?_
    unfold entL
    simp only [List.mem_append]
    refine .inl (.inr ?_)
    cases b <;> simp
  | wrong j x d =>
    have h : (jumpsL.contains j && (effectsL.contains x && (decide (1 ≤ d) && decide (d ≤ 7)))) = true := h
    simp only [Bool.and_eq_true, decide_eq_true_eq] at h
    refine rg d h.2.2.1 h.2.2.2 ?_
    unfold entL
    simp only [List.mem_append, List.mem_flatMap, List.mem_map]
    exact .inr ⟨j, mem_c h.1, x, mem_c h.2.1, rfl⟩
theorem nodup_flat {α β : Type} {f : α → List β} : ∀ {l : List α}, l.Nodup → (∀ a ∈ l, (f a).Nodup) → (∀ a ∈ l, ∀ b ∈ l, a ≠ b → ∀ x, x ∈ f a → x ∈ f b → False) → (l.flatMap f).Nodup
  | [], _, _, _ => List.nodup_nil
  | a :: l, nd, h1, h2 => by
    rw [List.flatMap_cons, List.nodup_append]
    have nd := List.nodup_cons.mp nd
    refine ⟨h1 a (List.mem_cons_self ..), nodup_flat nd.2 (fun b m => h1 b (List.mem_cons_of_mem _ m)) fun b m c m' => h2 b (List.mem_cons_of_mem _ m) c (List.mem_cons_of_mem _ m'), fun x hx y hy e => ?_⟩
    subst e
    rw [List.mem_flatMap] at hy
    obtain ⟨b, mb, hb⟩ := hy
    exact h2 a (List.mem_cons_self ..) b (List.mem_cons_of_mem _ mb) (fun z => nd.1 (z ▸ mb)) x hx hb
theorem nodup_map' {α β : Type} {f : α → β} (inj : ∀ a b, f a = f b → a = b) {l : List α} (h : l.Nodup) : (l.map f).Nodup := List.pairwise_map.mpr (h.imp fun {a b} n e => n (inj a b e))
theorem entL_nodup (d : Int) : (entL d).Nodup := by
  have dw : writingL.Nodup := by decide +kernel
  have du : usersL.Nodup := by decide +kernel
  have dj : jumpsL.Nodup := by decide +kernel
  have de : effectsL.Nodup := by decide +kernel
  unfold entL
  have v : (writingL.flatMap fun k => usersL.map fun u => Ent.value k u d).Nodup := nodup_flat dw (fun k _ => nodup_map' (fun a b e => by cases e; rfl) du) fun a _ b _ n x hx hy => by
    obtain ⟨u, _, rfl⟩ := List.mem_map.mp hx
    obtain ⟨u', _, e⟩ := List.mem_map.mp hy
    cases e
    exact n rfl
  have o : (writingL.flatMap fun k => writingL.map fun l => Ent.order k l d).Nodup := nodup_flat dw (fun k _ => nodup_map' (fun a b e => by cases e; rfl) dw) fun a _ b _ n x hx hy => by
    obtain ⟨u, _, rfl⟩ := List.mem_map.mp hx
    obtain ⟨u', _, e⟩ := List.mem_map.mp hy
    cases e
    exact n rfl
  have r : (jumpsL.flatMap fun j => effectsL.map fun e => Ent.wrong j e d).Nodup := nodup_flat dj (fun k _ => nodup_map' (fun a b e => by cases e; rfl) de) fun a _ b _ n x hx hy => by
    obtain ⟨u, _, rfl⟩ := List.mem_map.mp hx
    obtain ⟨u', _, e⟩ := List.mem_map.mp hy
    cases e
    exact n rfl
  refine List.nodup_append.mpr ⟨List.nodup_append.mpr ⟨List.nodup_append.mpr ⟨v, o, fun x hx y hy e => ?_⟩, ?_, fun x hx y hy e => ?_⟩, r, fun x hx y hy e => ?_⟩
  · subst e
    simp only [List.mem_flatMap, List.mem_map] at hx hy
    obtain ⟨_, _, _, _, rfl⟩ := hx
    obtain ⟨_, _, _, _, e⟩ := hy
    cases e
  · simp
  · subst e
    simp only [List.mem_append, List.mem_flatMap, List.mem_map, List.mem_cons, List.not_mem_nil, or_false] at hx hy
    rcases hy with rfl | rfl <;> rcases hx with ⟨_, _, _, _, e⟩ | ⟨_, _, _, _, e⟩ <;> cases e
  · subst e
    simp only [List.mem_append, List.mem_flatMap, List.mem_map, List.mem_cons, List.not_mem_nil, or_false] at hx hy
    obtain ⟨_, _, _, _, rfl⟩ := hy
    rcases hx with (⟨_, _, _, _, e⟩ | ⟨_, _, _, _, e⟩) | e | e <;> cases e
theorem allL_nodup : allL.Nodup := by
  unfold allL
  refine nodup_flat List.nodup_range (fun i _ => entL_nodup _) fun a _ b _ n x hx hy => ?_
  have e1 := (entL_d _ x hx).1
  have e2 := (entL_d _ x hy).1
  omega
def allS : List Ent := sortU Ent.ky allL
theorem mem_allS {e : Ent} : e ∈ allS ↔ e.okB = true := by
  unfold allS
  rw [mem_sortU Ent.ky ky_inj]
  exact ⟨allL_ok, mem_allL⟩
theorem allS_asc : allS.Pairwise fun a b => ltK a.ky b.ky = true := asc_sortU Ent.ky ky_inj allL
end Kp
end
section
set_option Elab.async false
set_option linter.all false
set_option maxRecDepth 100000
set_option maxHeartbeats 4000000
namespace Kp
open PySem PySem.Spec PyProof.Rows L2
theorem range_getD {α : Type} (l : List α) (d : α) : (List.range l.length).map (fun j => l.getD j d) = l := by
  apply List.ext_getElem
  · simp
  · intro i h1 h2
    rw [List.getElem_map, List.getElem_range, List.getD_eq_getElem?_getD, List.getElem?_eq_getElem h2]
    rfl
theorem getD_in {α : Type} {l : List α} {d : α} {i : Nat} (h : i < l.length) : l.getD i d ∈ l := by
  rw [List.getD_eq_getElem?_getD, List.getElem?_eq_getElem h]
  exact List.getElem_mem _
theorem getD_at {α : Type} {l : List α} {d : α} {i : Nat} (h : i < l.length) : l.getD i d = l[i] := by
  rw [List.getD_eq_getElem?_getD, List.getElem?_eq_getElem h]
  rfl
def e0 : Ent := .mem true 0
theorem all_outs : outs2 7 (fun _ => 58) (fun i j => (entD (1 + (i : Int))).getD j .none) = (allL.map Ent.ky).map keysD := by
  rw [kys_enc]
  unfold outs2 allL
  rw [List.map_flatMap]
  congr 1
/-- the open entries -/
def opns (D : Dsg) : List Ent := allS.filter (opn D)
theorem outs_ent {l : List Ent} {p : Ent → Bool} {f : Nat → Bool} (hf : ∀ i, i < l.length → f i = p (l.getD i e0)) : outs l.length f (fun i => (l.getD i e0).enc) = (l.filter p).map Ent.enc :=
  outs_list (h := Ent.enc) (fun i h => by rw [hf i h, getD_at h]) fun i h => by rw [getD_at h]
theorem outs_ent' {l : List Ent} {p : Ent → Bool} : outs l.length (fun i => p (l.getD i e0)) (fun i => (l.getD i e0).enc) = (l.filter p).map Ent.enc := outs_ent fun _ _ => rfl
theorem allS_len : allS.length ≤ 406 := Nat.le_trans (sortU_len Ent.ky allL) (by decide +kernel)
theorem opns_len (D : Dsg) : (opns D).length ≤ 406 := Nat.le_trans (List.length_filter_le _ _) allS_len
theorem opns_ok {D : Dsg} {e : Ent} (h : e ∈ opns D) : e.okB = true := mem_allS.mp (List.mem_filter.mp h).1
section
variable {P : Program} {w : World} {K : Fg} {mg : Str → Option Value} {base : Heap}
/-! every_entry, opens_in, is_open -/
abbrev N33 : List Str := ["apart", "entry"]
theorem sc33 : FnScope N33 [] (defScope (top 33)) := ⟨rfl, rfl, rfl, by decide +kernel, rfl, by decide +kernel, by decide +kernel⟩
def rEvery : List Sl → Res → Prop := fun cs r => cs = [] ∧ r = .val (.d (.list (allS.map Ent.enc)))
abbrev DEvery (P : Program) (w : World) (K : Fg) (mg : Str → Option Value) (base : Heap) : Prop := Dfn P w K mg base 2 "every_entry" [] (spR K rEvery)
theorem f_every (N : Nms mg) (T : Tabs_ K mg) (F : Df K mg "every_entry" (top 33) []) (G : DApart P w K mg base) : DEvery P w K mg base := by
  refine dfn_of F sc33 ?_ ?_
  · rintro cs r ⟨rfl, _⟩; rfl
  · rintro f cdv B outer s H E cs r hr ⟨rfl, rfl⟩ tk
    have nd := sc33.nd
    have e := kys_enc allS
    rw [← e]
    refine db_ret (de_sortT (ks := allL.map Ent.ky) N (DE.eq (c := .d (.list (outs2 7 (fun _ => 58) (fun i j => (entD (1 + (i : Int))).getD j .none)))) ?_ (by rw [all_outs])) (nodup_map' ky_inj allL_nodup) (fun q hq r hr => ?_) (.inr fun k hk => ?_) (sortU_asc Ent.ky ky_inj allL) (sortU_mem Ent.ky ky_inj allL))
    · exact de_lc2 (n := 7) (m := fun _ => 58) (vs1 := [1]) (ks := [0]) (ks1 := [1]) (item := fun i => .d (.int (1 + (i : Int)))) (item1 := fun i j => .d ((entD (1 + (i : Int))).getD j .none)) (g := fun i j => (entD (1 + (i : Int))).getD j .none) rfl nd
        (DI.eq (di_rng2 N de_int (de_add (de_glob T.apart) de_int) (by decide)) (by rfl) (fun _ _ => rfl)) (blkOk_by (N := N33) (sc := defScope (top 33)) (own := [("apart", 0), ("entry", 1)]) (by decide +kernel)) (by decide) (by decide) (by decide)
        (few2 (by decide)) (fun _ => by decide) (fun i hi sh H C cl fp => dg_name 0 nd) (fun i hi sh H C cl fp => DI.eq (di_list (de_call G hr (da_cons (de_var 0) da_nil) ⟨_, rfl, rfl⟩)) (by rfl) (fun _ _ => rfl))
        (fun i j hi hj sh H C cl fp => dg_name 1 nd) (fun i j hi hj sh H C cl fp => de_var 1)
    · obtain ⟨a, _, rfl⟩ := List.mem_map.mp hq
      obtain ⟨b, _, rfl⟩ := List.mem_map.mp hr
      exact ky_cmp a b
    · obtain ⟨a, _, rfl⟩ := List.mem_map.mp hk
      exact ky_fst a
abbrev N39 : List Str := ["design", "entry"]
theorem sc39 : FnScope N39 ["design"] (defScope (top 39)) := ⟨rfl, rfl, rfl, by decide +kernel, rfl, by decide +kernel, by decide +kernel⟩
def rOpens : List Sl → Res → Prop := fun cs r => ∃ D : Dsg, cs = [.d D.enc] ∧ r = .val (.d (.list ((opns D).map Ent.enc)))
abbrev DOpens (P : Program) (w : World) (K : Fg) (mg : Str → Option Value) (base : Heap) : Prop := Dfn P w K mg base 5 "opens_in" ["design"] (spR K rOpens)
theorem f_opens (F : Df K mg "opens_in" (top 39) ["design"]) (GE : DEvery P w K mg base) (GO : DOpenIn P w K mg base) : DOpens P w K mg base := by
  refine dfn_of F sc39 ?_ ?_
  · rintro cs r ⟨_, rfl, _⟩; rfl
  · rintro f cdv B outer s H E cs r hr ⟨D, rfl, rfl⟩ tk
    have nd := sc39.nd
    rw [opns, ← outs_ent']
    refine db_ret (de_lcN (j := 1) (n := allS.length) (item := fun i => .d (allS.getD i e0).enc) (f := fun i => opn D (allS.getD i e0)) (g := fun i => (allS.getD i e0).enc) rfl nd (blkOk_by (N := N39) (sc := defScope (top 39)) (by decide +kernel)) (di_listM Ent.enc e0 (de_call0 GE (hr.mono (by decide)) ⟨rfl, rfl⟩)) (Nat.le_trans allS_len (by decide)) (fun i hi sh H C cl fp => ?_) (fun i hi hf sh H C cl fp => de_var 1))
    exact dts_one (dt_val (de_call GO hr (da_cons (de_var 0) (da_cons (de_var 1) da_nil)) ⟨D, _, mem_allS.mp (getD_in hi), rfl, rfl⟩))
theorem sc40 : FnScope ["design", "entry"] ["design", "entry"] (defScope (top 40)) := ⟨rfl, rfl, rfl, by decide +kernel, rfl, by decide +kernel, by decide +kernel⟩
def rIsOpen : List Sl → Res → Prop := fun cs r => ∃ (D : Dsg) (k : Str) (u : Str × Str) (d : Int), D.Ok ∧ (Ent.value k u d).okB = true ∧ cs = [.d D.enc, .d (Ent.value k u d).enc] ∧ r = .val (.d (.bool (opn D (.value k u d))))
abbrev DIsOpen (P : Program) (w : World) (K : Fg) (mg : Str → Option Value) (base : Heap) : Prop := Dfn P w K mg base 8 "is_open" ["design", "entry"] (spR K rIsOpen)
theorem f_isopen (F : Df K mg "is_open" (top 40) ["design", "entry"]) (GD : DNeedDesign P w K mg base) (GN : DNeedEntry P w K mg base) (GO : DOpenIn P w K mg base) : DIsOpen P w K mg base := by
  refine dfn_of F sc40 ?_ ?_
  · rintro cs r ⟨_, _, _, _, _, _, rfl, _⟩; rfl
  · rintro f cdv B outer s H E cs r hr ⟨D, k, u, d, ok, oke, rfl, rfl⟩ tk
    refine db_drop (de_call GD hr (da_cons (de_var 0) da_nil) ⟨D, ok, rfl, rfl⟩) ?_
    refine db_drop (de_call GN (hr.mono (by decide)) (da_cons (de_var 1) da_nil) ⟨k, u, d, oke, rfl, rfl⟩) ?_
    exact db_ret (de_call GO (hr.mono (by decide)) (da_cons (de_var 0) (da_cons (de_var 1) da_nil)) ⟨D, _, oke, rfl, rfl⟩)
/-! spared_by -/
abbrev N41 : List Str := ["design", "path", "other", "entry"]
theorem sc41 : FnScope N41 ["design", "path"] (defScope (top 41)) := ⟨rfl, rfl, rfl, by decide +kernel, rfl, by decide +kernel, by decide +kernel⟩
def sprd (D D' : Dsg) : List Ent := (opns D).filter fun e => !opn D' e
def rSpared (C : Addr) : List Sl → Res → Prop := fun cs r => ∃ D : Dsg, D.Ok ∧ D.ps.length ≤ 50 ∧ ((∃ p, okP p = true ∧ cs = [.d D.enc, .d (pth p)] ∧ r = .val (.d (.tuple ((sprd D (D.with (sortU pk (D.ps ++ [p])))).map Ent.enc)))) ∨ ∃ d, isPathB d = false ∧ cs = [.d D.enc, .d d] ∧ r = .exc C)
abbrev DSpared (P : Program) (w : World) (K : Fg) (mg : Str → Option Value) (base : Heap) (C : Addr) : Prop := Dfn P w K mg base 8 "spared_by" ["design", "path"] (spR K (rSpared C))
theorem f_spared {C : Addr} (N : Nms mg) (F : Df K mg "spared_by" (top 41) ["design", "path"]) (GD : DNeedDesign P w K mg base) (GP : DNeedPath P w K mg base C) (GO : DOpenIn P w K mg base) (GS : DOpens P w K mg base) : DSpared P w K mg base C := by
  refine dfn_of F sc41 ?_ ?_
  · rintro cs r ⟨_, _, _, ⟨_, _, rfl, _⟩ | ⟨_, _, rfl, _⟩⟩ <;> rfl
  · rintro f cdv B outer s H E cs r hr ⟨D, ok, few, ⟨p, hp, rfl, rfl⟩ | ⟨d, hd, rfl, rfl⟩⟩ tk
    · have nd := sc41.nd
      refine db_drop (de_call GD hr (da_cons (de_var 0) da_nil) ⟨D, ok, rfl, rfl⟩) ?_
      refine db_drop (de_call GP (hr.mono (by decide)) (da_cons (de_var 1) da_nil) ⟨pth p, rfl, .inl ⟨hp, rfl⟩⟩) ?_
      have few' : (D.ps ++ [p]).length < 64 := by rw [List.length_append]; show D.ps.length + 1 < 64; omega
      refine db_set (s1 := ()) (c := .d (D.with (sortU pk (D.ps ++ [p]))).enc) 2 nd (de_addT (de_cut (es := [.int D.rd, .bool D.sm, D.pl]) (de_var 0) do_none (do_some de_int)) (de_tup (ds := [pths (sortU pk (D.ps ++ [p])), .tuple []]) (da_cons ?_ (da_cons (de_ix (de_var 0) de_int) da_nil))) (Nat.le_of_ble_eq_true rfl)) ?_
      · refine DE.eq (c := .d (.tuple (((sortU pk (D.ps ++ [p])).map pk).map keysD))) (de_tupL N (de_sset (ks := (D.ps ++ [p]).map pk) N rfl hr (dr_t (DE.eq (c := .d (.tuple (D.ps.map pth ++ [pth p]))) (de_addT (de_ix (de_var 0) de_int) (de_tup (ds := [pth p]) (da_cons (de_var 1) da_nil)) ?_) ?_)) ?_ (fun q hq r hr => ?_) (fun r hr => ?_) (sortU_asc pk pk_inj _) (sortU_mem pk pk_inj _))) (by rw [pks_enc]; rfl)
        · rw [List.length_map]; show D.ps.length + 1 ≤ 100000; omega
        · rw [pks_enc, List.map_append]; rfl
        · rw [List.length_map]; exact few'
        · obtain ⟨a, _, rfl⟩ := List.mem_map.mp hq
          obtain ⟨b, _, rfl⟩ := List.mem_map.mp hr
          exact pk_alike a b
        · obtain ⟨a, _, rfl⟩ := List.mem_map.mp hr
          exact fun z => nomatch z
      · rw [sprd, ← outs_ent' (p := fun e => !opn (D.with (sortU pk (D.ps ++ [p]))) e)]
        refine db_ret (de_tupL N (de_lcN (j := 3) (n := (opns D).length) (item := fun i => .d ((opns D).getD i e0).enc) (f := fun i => !opn (D.with (sortU pk (D.ps ++ [p]))) ((opns D).getD i e0)) (g := fun i => ((opns D).getD i e0).enc) rfl nd (blkOk_by (N := N41) (sc := defScope (top 41)) (by decide +kernel))
          (di_listM Ent.enc e0 (de_call GS (hr.mono (by decide)) (da_cons (de_var 0) da_nil) ⟨D, rfl, rfl⟩)) (Nat.le_trans (opns_len D) (by decide)) (fun i hi sh H C cl fp => ?_) (fun i hi hf sh H C cl fp => de_var 3)))
        exact dts_one (dt_not (dt_val (de_call GO (hr.mono (by decide)) (da_cons (de_var 2) (da_cons (de_var 3) da_nil)) ⟨_, _, opns_ok (getD_in hi), rfl, rfl⟩)))
    · refine db_drop (de_call GD hr (da_cons (de_var 0) da_nil) ⟨D, ok, rfl, rfl⟩) ?_
      exact db_callX GP (hr.mono (by decide)) (da_cons (de_var 1) da_nil) ⟨d, rfl, .inr ⟨hd, rfl⟩⟩ tk
end
end Kp
end
section
set_option Elab.async false
set_option linter.all false
set_option maxRecDepth 100000
set_option maxHeartbeats 4000000
namespace Kp
open PySem PySem.Spec PyProof.Rows L2
/-! value entries, and what paths_for says of them -/
abbrev VE := Str × (Str × Str) × Int
def vE (x : VE) : Ent := .value x.1 x.2.1 x.2.2
def vUs (D : Dsg) (x : VE) : Int := D.pla x.2.1.1 (usedW x.2.1.1 x.2.1.2)
def vMk (D : Dsg) (x : VE) : Int := D.pla x.1 (S "made")
def vOpn (D : Dsg) (x : VE) : Bool := opn D (vE x)
def vFar (D : Dsg) (x : VE) : Bool := decide (7 < vUs D x + x.2.2) || decide (vUs D x + x.2.2 ≤ vMk D x)
def vBad (D : Dsg) (x : VE) : Bool := vOpn D x && vFar D x
def vPth (D : Dsg) (x : VE) : Int × Int := (vUs D x + x.2.2, vUs D x)
def fndV (D : Dsg) (l : List VE) : List (Int × Int) := (l.filter (vOpn D)).map (vPth D)
def v0 : VE := (S "", (S "", S ""), 0)
theorem fnd_take {D : Dsg} {l : List VE} {i : Nat} (h : i < l.length) : fndV D (l.take (i + 1)) = fndV D (l.take i) ++ if vOpn D (l.getD i v0) = true then [vPth D (l.getD i v0)] else [] := by
  rw [getD_at h, List.take_succ, List.getElem?_eq_getElem h]
  unfold fndV
  rw [List.filter_append, List.map_append]
  congr 1
  show List.map _ (List.filter _ [l[i]]) = _
  rw [List.filter_cons]
  by_cases c : vOpn D l[i] = true
  · rw [if_pos c, if_pos c]; rfl
  · rw [if_neg c, if_neg c]; rfl
theorem fnd_len (D : Dsg) (l : List VE) (i : Nat) : (fndV D (l.take i)).length ≤ l.length := by
  unfold fndV
  rw [List.length_map]
  exact Nat.le_trans (List.length_filter_le _ _) (by rw [List.length_take]; exact Nat.min_le_right ..)
def ascV (l : List VE) : Prop := l.Pairwise fun a b => ltK (vE a).ky (vE b).ky = true
theorem asc_rises {l : List VE} (h : ascV l) : risesD (l.map fun x => (vE x).enc) = true := by
  unfold risesD
  rw [List.all_eq_true]
  intro i hi
  rw [List.length_map] at hi
  have hi := List.mem_range.mp hi
  rw [getD_map (d := v0) (by omega), getD_map (d := v0) (by omega), ← ky_enc, ← ky_enc, getD_at (by omega), getD_at (by omega)]
  exact List.pairwise_iff_getElem.mp h i (i + 1) (by omega) (by omega) (by omega)
theorem vE_alike (a b : VE) : PySem.W.alike (vE a).enc (vE b).enc = true := by simp [vE, Ent.enc, Ent.row, PySem.W.alike, PySem.W.alikeAll]
theorem vE_depth (a : VE) : (vE a).enc.depth ≤ 64 := by simp [vE, Ent.enc, Ent.row, PyData.depth, PyData.depthAll]
def v1D : PyData := (Ent.value (S "set") (S "sum", S "a") 1).enc
def v2D : PyData := (Ent.value (S "set") (S "sum", S "a") 2).enc
def oddL : List PyData := [.none, .list [], .tuple [(Ent.order (S "set") (S "sum") 1).enc], .tuple [.none], .tuple [v1D, v1D], .str (S "value"), .tuple [v2D, v1D], .tuple [.list []]]
def fbody : List Stmt → List Stmt
  | .For _ _ b _ _ :: _ => b
  | _ => []
section
variable {P : Program} {w : World} {K : Fg} {mg : Str → Option Value} {base : Heap}
theorem db_nxw {A : Amb} {X : Cx} {E : XK} {δ δ1 δ2 : Dl} {s s1 : A.S} {bs : List (List Stmt)} (h : DB A X E δ s bs (.nx δ1 s1)) (k : Wk δ1 δ2) : DB A X E δ s bs (.nx δ2 s1) := fun w σ en iv D q => h w σ en iv D fun σ' w' l i e => q σ' w' l i (e.weak k)
theorem dr_eq {A : Amb} {X : Cx} {δ : Dl} {s s1 : A.S} {e : Expr} {ds ds' : List PyData} (h : DR A X δ s e ds s1) (q : ds = ds') : DR A X δ s e ds' s1 := q ▸ h
abbrev N42 : List Str := ["design", "entries", "found", "entry", "used", "one"]
theorem sc42 : FnScope N42 ["design", "entries"] (defScope (top 42)) := ⟨rfl, rfl, rfl, by decide +kernel, rfl, by decide +kernel, by decide +kernel⟩
def rPathsFor (CE CN : Addr) : List Sl → Res → Prop := fun cs r => ∃ D : Dsg, D.Ok ∧ ((∃ l : List VE, (∀ x ∈ l, (vE x).okB = true) ∧ ascV l ∧ l.length ≤ 60 ∧ cs = [.d D.enc, .d (.tuple (l.map fun x => (vE x).enc))] ∧ r = if l.any (vBad D) = true then .exc CN else .val (.d (pths (sortU pk (fndV D l))))) ∨
  ∃ d, d ∈ oddL ∧ cs = [.d D.enc, .d d] ∧ r = .exc CE)
abbrev DPathsFor (P : Program) (w : World) (K : Fg) (mg : Str → Option Value) (base : Heap) (CE CN : Addr) : Prop := Dfn P w K mg base 8 "paths_for" ["design", "entries"] (spR K (rPathsFor CE CN))
theorem f_pathsfor {CE CN : Addr} (N : Nms mg) (T : Tabs_ K mg) (XE : ExC K mg "BadEntries" CE) (XN : ExC K mg "NotMade" CN) (F : Df K mg "paths_for" (top 42) ["design", "entries"]) (GD : DNeedDesign P w K mg base) (GE : DIsEntry P w K mg base) (GR : DRises P w K mg base)
    (GO : DOpenIn P w K mg base) (GU : DUsed P w K mg base) (GP : DPlaceIn P w K mg base) : DPathsFor P w K mg base CE CN := by
  refine dfn_of F sc42 ?_ ?_
  · rintro cs r ⟨_, _, ⟨_, _, _, _, rfl, _⟩ | ⟨_, _, rfl, _⟩⟩ <;> rfl
  · rintro f cdv B outer s H E cs r hr ⟨D, ok, ⟨l, okl, as, few, rfl, rfl⟩ | ⟨d, hd, rfl, rfl⟩⟩ tk
    · have nd := sc42.nd
      have okx : ∀ {i}, i < l.length → (vE (l.getD i v0)).okB = true := fun h => okl _ (getD_in h)
      refine db_drop (de_call GD hr (da_cons (de_var 0) da_nil) ⟨D, ok, rfl, rfl⟩) ?_
      refine db_if (z := false) (DT.eq (dt_or (dt_not (dt_val (de_isi N (de_var 1) N.tuple boot_tuple (.inr (.inr (.inr (.inl rfl))))))) fun _ => dw_or1 (dt_not (dt_val (de_allc (j := 5) (b := fun _ => true) N rfl nd (blkOk_by (N := N42) (sc := defScope (top 42)) (by decide +kernel)) (di_tupM (l := l) (fun x => (vE x).enc) v0 (de_var 1)) (by omega) (fun i hi sh H C cl fp => ?_))))) ?_) (fun h => by cases h) (fun _ => db_pop ?_)
      · exact DE.eq (de_and (de_call GE (hr.mono (by decide)) (da_cons (de_var 5) da_nil) (.inl ⟨_, _, _, okx hi, rfl, rfl⟩)) fun _ => de_one (DE.eq (de_eq hr (de_ix (de_var 5) de_int) de_str (by decide +kernel) (by decide +kernel)) (c' := .d (.bool true)) (bq (by decide +kernel)))) rfl
      · rw [all_true fun _ _ => rfl]; rfl
      refine db_if (z := false) (DT.eq (dt_not (dt_val (de_call GR (hr.mono (by decide)) (da_cons (de_var 1) da_nil) ⟨l.map fun x => (vE x).enc, rfl, by rw [List.length_map]; omega, fun a ha b hb => ?_, rfl⟩))) (by rw [asc_rises as]; rfl)) (fun h => by cases h) (fun _ => db_pop ?_)
      · obtain ⟨x, _, rfl⟩ := List.mem_map.mp ha
        obtain ⟨y, _, rfl⟩ := List.mem_map.mp hb
        exact ⟨vE_alike x y, (fun z => nomatch z), vE_depth x⟩
      refine db_mut (s1 := ()) (m := .l []) 2 nd (df_lst (ds := []) da_nil) fun Q hQ => ?_
      have body : ∀ i, i < l.length → ∀ o : Out (A0.add (Cf P w K mg base N42 "paths_for" (top 42) f cdv B outer s H E).K Q), (vBad D (l.getD i v0) = false → o = .nx [some (.d D.enc), some (.d (.tuple (l.map fun x => (vE x).enc))), some (.r (.ref Q)), none, none, none] ((), .l ((fndV D (l.take (i + 1))).map pth))) → (vBad D (l.getD i v0) = true → o = .ex CN ((), .l ((fndV D (l.take i)).map pth))) →
          DB (A0.add (Cf P w K mg base N42 "paths_for" (top 42) f cdv B outer s H E).K Q) (Cf P w K mg base N42 "paths_for" (top 42) f cdv B outer s H E) E [some (.d D.enc), some (.d (.tuple (l.map fun x => (vE x).enc))), some (.r (.ref Q)), some (.d (vE (l.getD i v0)).enc), none, none] ((), .l ((fndV D (l.take i)).map pth)) [fbody ((defBody (top 42)).drop 4)] o := by
        intro i hi o ho1 ho2
        have hx := okx hi
        generalize hxe : l.getD i v0 = x at ho1 ho2 hx ⊢
        obtain ⟨hk, hu, _, _⟩ := ent_ok (k := x.1) (u := x.2.1) (d := x.2.2) hx
        refine db_if (z := vOpn D x) (dt_val (de_call GO (hr.mono (by decide)) (da_cons (de_var 0) (da_cons (de_var 3) da_nil)) ⟨D, vE x, hx, rfl, rfl⟩)) (fun h => ?_) (fun h => db_pop ?_)
        · refine db_set 4 nd (de_call GU (hr.mono (by decide)) (da_cons (de_var 0) (da_cons (de_ix (de_var 3) de_int) (da_cons (de_ix (de_var 3) de_int) da_nil))) ⟨D, x.2.1, hu, rfl, rfl⟩) ?_
          refine db_if (z := vFar D x) (dt_or (dt_gt (de_add (de_var 4) (de_ix (de_var 3) (de_neg de_int))) (de_glob T.place)) fun _ => dw_or1 (dt_le (de_add (de_var 4) (de_ix (de_var 3) (de_neg de_int))) (de_call GP (hr.mono (by decide)) (da_cons (de_var 0) (da_cons (de_ix (de_var 3) de_int) (da_cons de_str da_nil))) ⟨D, x.1, S "made", (wr_pl hk).2, rfl, rfl⟩))) (fun h2 => ?_) (fun h2 => db_pop ?_)
          · rw [ho2 (by unfold vBad; rw [h, h2]; rfl)]
            exact db_raise XN rfl tk
          · rw [ho1 (by unfold vBad; rw [h, h2]; rfl)]
            refine db_mapp (Ln.top hQ) (s1 := ((), .l ((fndV D (l.take i)).map pth))) (s2 := ((), .l ((fndV D (l.take i)).map pth))) (d := pth (vPth D x)) ?_ ?_ rfl ?_ ?_
            · exact de_var 2
            · exact de_tup (ds := [.int (vUs D x + x.2.2), .int (vUs D x)]) (da_cons (de_add (de_var 4) (de_ix (de_var 3) (de_neg de_int))) (da_cons (de_var 4) da_nil))
            · rw [List.length_map]; have := fnd_len D l i; omega
            refine db_pop (db_pop (db_eq (db_nxw db_nil (wk_keep (wk_keep (wk_keep (wk_drop (wk_drop (Wk.refl _))))))) ?_))
            rw [fnd_take hi, hxe, if_pos h, List.map_append]
            rfl
        · rw [ho1 (by unfold vBad; rw [h]; rfl)]
          refine db_pop (db_eq (db_nxw db_nil (wk_keep (wk_keep (wk_keep (wk_drop (Wk.refl _)))))) ?_)
          rw [fnd_take hi, hxe, if_neg (by rw [h]; decide), List.append_nil]
      by_cases c : l.any (vBad D) = true
      · rw [if_pos c]
        have hk : l.findIdx (vBad D) < l.length := List.findIdx_lt_length_of_exists (by rw [List.any_eq_true] at c; exact c)
        have hb : vBad D (l.getD (l.findIdx (vBad D)) v0) = true := by rw [getD_at hk]; exact List.findIdx_getElem
        have nb : ∀ i, i < l.findIdx (vBad D) → vBad D (l.getD i v0) = false := fun i hi => by
          have := List.not_of_lt_findIdx hi
          rw [getD_at (Nat.lt_trans hi hk)]
          simpa using this
        refine ⟨_, OutUp.ex (A := A0) (C := CN) (s := ()) (m := .l ((fndV D (l.take (l.findIdx (vBad D)))).map pth)), ?_⟩
        exact db_forX (n := l.length) (k := l.findIdx (vBad D)) (item := fun i => .d (vE (l.getD i v0)).enc) (δL := [some (.d D.enc), some (.d (.tuple (l.map fun x => (vE x).enc))), some (.r (.ref Q)), none, none, none]) (st := fun i => ((), .l ((fndV D (l.take i)).map pth))) (passes_of rfl) rfl (di_tupM (l := l) (fun x => (vE x).enc) v0 (de_var 1)) (Wk.refl _) hk
          (fun i hi => dg_name 3 nd) (δe := fun _ => [some (.d D.enc), some (.d (.tuple (l.map fun x => (vE x).enc))), some (.r (.ref Q)), none, none, none]) (fun i hi => body i (Nat.lt_trans hi hk) _ (fun _ => rfl) (fun h => by rw [nb i hi] at h; cases h)) (fun i hi => Wk.refl _) (body _ hk _ (fun h => by rw [hb] at h; cases h) fun _ => rfl) (fun _ _ z => nomatch z)
      · rw [if_neg c]
        refine ⟨_, OutUp.rt (A := A0) (c := .d (pths (sortU pk (fndV D l)))) (s := ()) (m := .l ((fndV D (l.take l.length)).map pth)), ?_⟩
        have nb : ∀ i, i < l.length → vBad D (l.getD i v0) = false := fun i hi => by
          cases e : vBad D (l.getD i v0) with
          | false => rfl
          | true => exact absurd (List.any_eq_true.mpr ⟨_, getD_in hi, e⟩) c
        refine db_for (n := l.length) (item := fun i => .d (vE (l.getD i v0)).enc) (δL := [some (.d D.enc), some (.d (.tuple (l.map fun x => (vE x).enc))), some (.r (.ref Q)), none, none, none]) (st := fun i => ((), .l ((fndV D (l.take i)).map pth))) (passes_of rfl) rfl (di_tupM (l := l) (fun x => (vE x).enc) v0 (de_var 1)) (Wk.refl _)
          (fun i hi => dg_name 3 nd) (δe := fun _ => [some (.d D.enc), some (.d (.tuple (l.map fun x => (vE x).enc))), some (.r (.ref Q)), none, none, none]) (fun i hi => body i hi _ (fun _ => rfl) (fun h => by rw [nb i hi] at h; cases h)) (fun i hi => Wk.refl _) ?_
        refine db_ret (DE.eq (c := .d (.tuple (((sortU pk (fndV D l)).map pk).map keysD))) (de_tupL N (de_sset (ks := (fndV D l).map pk) N rfl hr (dr_eq (dr_m (Ln.top hQ) (ds := (fndV D (l.take l.length)).map pth) (de_var 2) rfl) ?_) ?_ (fun q hq r hr => ?_) (fun r hr => ?_) (sortU_asc pk pk_inj _) (sortU_mem pk pk_inj _))) (by rw [pks_enc]; rfl))
        · rw [pks_enc, List.take_length]
        · rw [List.length_map]
          have := fnd_len D l l.length
          rw [List.take_length] at this
          omega
        · obtain ⟨a, _, rfl⟩ := List.mem_map.mp hq
          obtain ⟨b, _, rfl⟩ := List.mem_map.mp hr
          exact pk_alike a b
        · obtain ⟨a, _, rfl⟩ := List.mem_map.mp hr
          exact fun z => nomatch z
    · have nd := sc42.nd
      refine db_drop (de_call GD hr (da_cons (de_var 0) da_nil) ⟨D, ok, rfl, rfl⟩) ?_
      have hx : isiD d "tuple" = false ∨ (∃ y z, d = .tuple [y] ∧ y = z ∧ (lenB y 4 5 = false ∨ y = (Ent.order (S "set") (S "sum") 1).enc)) ∨ ∃ a b : VE, (vE a).okB = true ∧ (vE b).okB = true ∧ d = .tuple [(vE a).enc, (vE b).enc] ∧ risesD [(vE a).enc, (vE b).enc] = false := by
        simp only [oddL, List.mem_cons, List.not_mem_nil, or_false] at hd
        rcases hd with rfl | rfl | rfl | rfl | rfl | rfl | rfl | rfl
        · exact .inl (by rfl)
        · exact .inl (by rfl)
        · exact .inr (.inl ⟨_, _, rfl, rfl, .inr rfl⟩)
        · exact .inr (.inl ⟨_, _, rfl, rfl, .inl rfl⟩)
        · exact .inr (.inr ⟨(S "set", (S "sum", S "a"), 1), (S "set", (S "sum", S "a"), 1), by decide +kernel, by decide +kernel, rfl, by decide +kernel⟩)
        · exact .inl (by rfl)
        · exact .inr (.inr ⟨(S "set", (S "sum", S "a"), 2), (S "set", (S "sum", S "a"), 1), by decide +kernel, by decide +kernel, rfl, by decide +kernel⟩)
        · exact .inr (.inl ⟨_, _, rfl, rfl, .inl rfl⟩)
      rcases hx with h | ⟨y, _, rfl, _, h⟩ | ⟨a, b, oka, okb, rfl, h⟩
      · exact db_if (z := true) (DT.eq (dt_or (y := true) (dt_not (dt_val (de_isi N (de_var 1) N.tuple boot_tuple (.inr (.inr (.inr (.inl rfl))))))) (fun h2 => by rw [h] at h2; cases h2)) (by rw [h]; rfl)) (fun _ => db_raise XE rfl tk) (fun h => by cases h)
      · refine db_if (z := true) (DT.eq (dt_or (dt_not (dt_val (de_isi N (de_var 1) N.tuple boot_tuple (.inr (.inr (.inr (.inl rfl))))))) fun _ => dw_or1 (dt_not (dt_val (de_allc (j := 5) (b := fun _ => false) N rfl nd (blkOk_by (N := N42) (sc := defScope (top 42)) (by decide +kernel)) (di_tupM (l := [y]) (fun y => y) .none (de_var 1)) (Nat.le_of_ble_eq_true rfl) (fun i hi sh H C cl fp => ?_))))) (by rfl)) (fun _ => db_raise XE rfl tk) (fun h => by cases h)
        obtain rfl : i = 0 := by simpa using hi
        rcases h with h | rfl
        · exact DE.eq (de_andF (de_call GE (hr.mono (by decide)) (da_cons (de_var 5) da_nil) (.inr (.inr ⟨_, h, rfl, rfl⟩)))) rfl
        · exact DE.eq (de_and (de_call GE (hr.mono (by decide)) (da_cons (de_var 5) da_nil) (.inr (.inl ⟨rfl, rfl⟩))) fun _ => de_one (DE.eq (de_eq hr (de_ix (de_var 5) de_int) de_str (by decide +kernel) (by decide +kernel)) (c' := .d (.bool false)) (bq (by decide +kernel)))) rfl
      · refine db_if (z := false) (DT.eq (dt_or (dt_not (dt_val (de_isi N (de_var 1) N.tuple boot_tuple (.inr (.inr (.inr (.inl rfl))))))) fun _ => dw_or1 (dt_not (dt_val (de_allc (j := 5) (b := fun _ => true) N rfl nd (blkOk_by (N := N42) (sc := defScope (top 42)) (by decide +kernel)) (di_tupM (l := [a, b]) (fun x => (vE x).enc) v0 (de_var 1)) (Nat.le_of_ble_eq_true rfl) (fun i hi sh H C cl fp => ?_))))) (by rfl)) (fun h => by cases h) (fun _ => db_pop ?_)
        · have okx : (vE ([a, b].getD i v0)).okB = true := by
            have hi : i < 2 := hi
            match i, hi with
            | 0, _ => exact oka
            | 1, _ => exact okb
          exact DE.eq (de_and (de_call GE (hr.mono (by decide)) (da_cons (de_var 5) da_nil) (.inl ⟨_, _, _, okx, rfl, rfl⟩)) fun _ => de_one (DE.eq (de_eq hr (de_ix (de_var 5) de_int) de_str (by decide +kernel) (by decide +kernel)) (c' := .d (.bool true)) (bq (by decide +kernel)))) rfl
        · refine db_if (z := true) (DT.eq (dt_not (dt_val (de_call GR (hr.mono (by decide)) (da_cons (de_var 1) da_nil) ⟨[(vE a).enc, (vE b).enc], rfl, Nat.le_of_ble_eq_true rfl, fun x hx y hy => ?_, rfl⟩))) (by rw [h]; rfl)) (fun _ => db_raise XE rfl tk) (fun h => by cases h)
          have hx' : ∃ z, x = (vE z).enc := by
            simp only [List.mem_cons, List.not_mem_nil, or_false] at hx
            rcases hx with rfl | rfl <;> exact ⟨_, rfl⟩
          have hy' : ∃ z, y = (vE z).enc := by
            simp only [List.mem_cons, List.not_mem_nil, or_false] at hy
            rcases hy with rfl | rfl <;> exact ⟨_, rfl⟩
          obtain ⟨x', rfl⟩ := hx'
          obtain ⟨y', rfl⟩ := hy'
          exact ⟨vE_alike x' y', (fun z => nomatch z), vE_depth x'⟩
end
end Kp
end
section
set_option Elab.async false
set_option linter.all false
set_option maxRecDepth 100000
set_option maxHeartbeats 4000000
namespace Kp
open PySem PySem.Spec PyProof.Rows L2
section
variable {A : Amb} {X : Cx} {δ : Dl} {s s1 s2 : A.S} {a b : Expr} {i j : Int} {pos : Pos}
theorem de_fdiv (h : 0 < j ∧ j < 1073741824) (ha : DE A X δ s a (.d (.int i)) s1) (hb : DE A X δ s1 b (.d (.int j)) s2) : DE A X δ s (.BinOp a .FloorDiv b pos) (.d (.int (i / j))) s2 := de_bin op_fdiv (od_I (f := fun i j => .int (i / j)) (fun _ _ _ => .int _) h) ha hb
theorem de_mod (h : 0 < j) (ha : DE A X δ s a (.d (.int i)) s1) (hb : DE A X δ s1 b (.d (.int j)) s2) : DE A X δ s (.BinOp a .Mod b pos) (.d (.int (i % j))) s2 := de_bin op_mod (od_I (f := fun i j => .int (i % j)) (fun _ _ _ => .int _) h) ha hb
theorem de_mul (h : -(2 ^ 64) < j ∧ j < 2 ^ 64) (ha : DE A X δ s a (.d (.int i)) s1) (hb : DE A X δ s1 b (.d (.int j)) s2) : DE A X δ s (.BinOp a .Mult b pos) (.d (.int (i * j))) s2 := de_bin op_mul (od_I (f := fun i j => .int (i * j)) (fun _ _ _ => .int _) (.inr h)) ha hb
theorem de_pow (h : 0 ≤ j ∧ j ≤ 1000000 ∧ i.natAbs < 2 ^ 64) (ha : DE A X δ s a (.d (.int i)) s1) (hb : DE A X δ s1 b (.d (.int j)) s2) : DE A X δ s (.BinOp a .Pow b pos) (.d (.int (i ^ j.toNat))) s2 := de_bin op_pow (od_I (f := fun i j => .int (i ^ j.toNat)) (fun _ _ _ => .int _) h) ha hb
theorem dt_ge (ha : DE A X δ s a (.d (.int i)) s1) (hb : DE A X δ s1 b (.d (.int j)) s2) : DT A X δ s (.Compare a [.GtE] [b] pos) (decide (j ≤ i)) s2 := dt_cmp op_ge (od_I0 (f := fun i j => .bool (decide (j ≤ i))) fun _ _ _ => .bl _) (nomark _) ha hb
/-- int(of an int) -/
theorem de_toint {e : Expr} {p : Pos} (N : Nms X.mg) (h : DE A X δ s e (.d (.int i)) s1) (hg : Gl X "int" := by rfl) (hs : starEach [e] X.env = (false, eval e X.env) :: starEach [] X.env := by rfl) : DE A X δ s (.Call (.Name "int" p) [e] [] pos) (.d (.int i)) s1 :=
  DE.of (pe_callTy call_int1 hg N.int boot_int pa_w (he := hs)) (ev_cb (da_cons h da_nil hs) fun vs w iv dv Q q => by
    obtain ⟨v, rfl, d1⟩ := dvs1 dv
    rw [dv_int d1]
    exact .inl ⟨i, rfl, q _ w (Le.refl w) iv (.int _)⟩)
end
/-! ### the draws -/
structure Rw where
  scr : List Int
  i : Nat
  x : Int
  r : Int
def rowD (w : Rw) : List PyData := [.list (w.scr.map .int), .int w.i, .int w.x, .int w.r]
structure Rw.Ok (w : Rw) : Prop where
  x0 : 0 ≤ w.x
  x1 : w.x < 2147483647
  few : w.scr.length ≤ 100
def big : Int := 10 ^ 18
def takeN (w : Rw) (n : Int) : Int × Rw :=
  if 0 < w.r then (w.r % n, { w with r := w.r / n })
  else if (w.scr.length : Int) < (w.i : Int) + 1 then ((w.x * 48271 + 11) % 2147483647 / 7 % n, { w with i := w.i + 1, x := (w.x * 48271 + 11) % 2147483647 })
  else (w.scr.getD w.i 0 % n, { w with i := w.i + 1, x := (w.x * 48271 + w.scr.getD w.i 0 + 11) % 2147483647, r := if big ≤ w.scr.getD w.i 0 then w.scr.getD w.i 0 / n else w.r })
theorem takeN_ok {w : Rw} {n : Int} (h : w.Ok) : (takeN w n).2.Ok := by
  have m : ∀ z : Int, 0 ≤ z % 2147483647 ∧ z % 2147483647 < 2147483647 := fun z => ⟨Int.emod_nonneg _ (by decide), Int.emod_lt_of_pos _ (by decide)⟩
  unfold takeN
  split
  · exact ⟨h.x0, h.x1, h.few⟩
  · split
    · exact ⟨(m _).1, (m _).2, h.few⟩
    · exact ⟨(m _).1, (m _).2, h.few⟩
theorem takeN_lt {w : Rw} {n : Int} (hn : 0 < n) : 0 ≤ (takeN w n).1 ∧ (takeN w n).1 < n := by
  have m : ∀ z : Int, 0 ≤ z % n ∧ z % n < n := fun z => ⟨Int.emod_nonneg _ (by omega), Int.emod_lt_of_pos _ hn⟩
  unfold takeN
  split
  · exact m _
  · split
    · exact m _
    · exact m _
section
variable {P : Program} {w : World} {K : Fg} {mg : Str → Option Value} {base : Heap}
abbrev N44 : List Str := ["_law_row", "_law_many", "_law_found", "_law_cell"]
theorem sc44 : FnScope N44 ["_law_row", "_law_many"] (defScope (top 44)) := ⟨rfl, rfl, rfl, by decide +kernel, rfl, by decide +kernel, by decide +kernel⟩
def rTaken : Mo → List Sl → Mo → Sl → Prop := fun m cs m' c => ∃ (r : Rw) (n : Int), r.Ok ∧ 0 < n ∧ n < 1000 ∧ m = .l (rowD r) ∧ cs = [.d (.int n)] ∧ m' = .l (rowD (takeN r n).2) ∧ c = .d (.int (takeN r n).1)
abbrev DTaken (P : Program) (w : World) (K : Fg) (mg : Str → Option Value) (base : Heap) : Prop := Dfn P w K mg base 1 "_law_taken" ["_law_row", "_law_many"] (spM K rTaken)
theorem f_taken (N : Nms mg) (F : Df K mg "_law_taken" (top 44) ["_law_row", "_law_many"]) : DTaken P w K mg base := by
  refine dfn_ofM F sc44 ?_ ?_
  · rintro m cs m' c ⟨_, _, _, _, _, _, rfl, _⟩; rfl
  · rintro f cdv B outer s H E D m cs m' c hD hr ⟨r, n, ok, n0, n1, rfl, rfl, rfl, rfl⟩ tk
    have nd := sc44.nd
    have hn : 0 < n ∧ n < 1073741824 := ⟨n0, by omega⟩
    refine db_if (z := decide (0 < r.r)) (s1 := ((), .l (rowD r))) (dt_gt (de_mget (Ln.top hD) (de_var 0) de_int) de_int) (fun h => ?_) (fun h => db_pop ?_)
    · have e : takeN r n = (r.r % n, { r with r := r.r / n }) := by unfold takeN; rw [if_pos (of_decide_eq_true h)]
      rw [e]
      refine db_set (s1 := ((), .l (rowD r))) 2 nd (de_mod n0 (de_toint N (de_mget (Ln.top hD) (de_var 0) de_int)) (de_var 1)) ?_
      refine db_mset (Ln.top hD) (s1 := ((), .l (rowD r))) (s2 := ((), .l (rowD r))) (s3 := ((), .l (rowD r))) (ds := rowD r) (i := 3) (j := 3) (d := .int (r.r / n)) ?_ ?_ ?_ rfl rfl ?_
      · exact de_fdiv hn (de_mget (Ln.top hD) (de_var 0) de_int) (de_var 1)
      · exact de_var 0
      · exact de_int
      · exact db_ret (de_var 2)
    · have h0 : ¬ 0 < r.r := of_decide_eq_false h
      refine db_mset (Ln.top hD) (s1 := ((), .l (rowD r))) (s2 := ((), .l (rowD r))) (s3 := ((), .l (rowD r))) (ds := rowD r) (i := 1) (j := 1) (d := .int ((r.i : Int) + 1)) ?_ ?_ ?_ rfl rfl ?_
      · exact de_add (de_mget (Ln.top hD) (de_var 0) de_int) de_int
      · exact de_var 0
      · exact de_int
      let s1 : (A0.add (Cf P w K mg base N44 "_law_taken" (top 44) f cdv B outer s H E).K D).S := ((), .l [.list (r.scr.map .int), .int ((r.i : Int) + 1), .int r.x, .int r.r])
      refine db_if (z := decide ((r.scr.length : Int) < (r.i : Int) + 1)) (s1 := s1) (DT.eq (dt_gt (de_mget (Ln.top hD) (de_var 0) de_int) (de_lenL N (de_mget (Ln.top hD) (de_var 0) de_int))) (by rw [List.length_map])) (fun h => ?_) (fun h => db_pop ?_)
      · have e : takeN r n = ((r.x * 48271 + 11) % 2147483647 / 7 % n, { r with i := r.i + 1, x := (r.x * 48271 + 11) % 2147483647 }) := by unfold takeN; rw [if_neg h0, if_pos (of_decide_eq_true h)]
        rw [e]
        refine db_mset (Ln.top hD) (s1 := s1) (s2 := s1) (s3 := s1) (ds := [.list (r.scr.map .int), .int ((r.i : Int) + 1), .int r.x, .int r.r]) (i := 2) (j := 2) (d := .int ((r.x * 48271 + 11) % 2147483647)) ?_ ?_ ?_ rfl rfl ?_
        · exact de_mod (by decide) (de_toint N (de_add (de_mul (by decide) (de_mget (Ln.top hD) (de_var 0) de_int) de_int) de_int)) de_int
        · exact de_var 0
        · exact de_int
        · exact db_eq (db_ret (de_mod n0 (de_toint N (de_fdiv (by decide) (de_mget (Ln.top hD) (de_var 0) de_int) de_int)) (de_var 1))) rfl
      · have hi : r.i < r.scr.length := by have := of_decide_eq_false h; omega
        refine db_set (s1 := s1) 3 nd (de_ixL (ds := r.scr.map .int) (i := (r.i : Int)) (de_mget (Ln.top hD) (de_var 0) de_int) (DE.eq (de_sub (de_mget (Ln.top hD) (de_var 0) de_int) de_int) (by rw [Int.add_sub_cancel])) (atI_map (d := 0) hi)) ?_
        refine db_mset (Ln.top hD) (s1 := s1) (s2 := s1) (s3 := s1) (ds := [.list (r.scr.map .int), .int ((r.i : Int) + 1), .int r.x, .int r.r]) (i := 2) (j := 2) (d := .int ((r.x * 48271 + r.scr.getD r.i 0 + 11) % 2147483647)) ?_ ?_ ?_ rfl rfl ?_
        · exact de_mod (by decide) (de_toint N (de_add (de_add (de_mul (by decide) (de_mget (Ln.top hD) (de_var 0) de_int) de_int) (de_var 3)) de_int)) de_int
        · exact de_var 0
        · exact de_int
        let s2 : (A0.add (Cf P w K mg base N44 "_law_taken" (top 44) f cdv B outer s H E).K D).S := ((), .l [.list (r.scr.map .int), .int ((r.i : Int) + 1), .int ((r.x * 48271 + r.scr.getD r.i 0 + 11) % 2147483647), .int r.r])
        have e : takeN r n = (r.scr.getD r.i 0 % n, { r with i := r.i + 1, x := (r.x * 48271 + r.scr.getD r.i 0 + 11) % 2147483647, r := if big ≤ r.scr.getD r.i 0 then r.scr.getD r.i 0 / n else r.r }) := by unfold takeN; rw [if_neg h0, if_neg (of_decide_eq_false h)]
        rw [e]
        refine db_if (z := decide (big ≤ r.scr.getD r.i 0)) (s1 := s2) (dt_ge (de_var 3) (de_pow (by decide) de_int de_int)) (fun h => ?_) (fun h => db_pop ?_)
        · rw [if_pos (of_decide_eq_true h)]
          refine db_mset (Ln.top hD) (s1 := s2) (s2 := s2) (s3 := s2) (ds := [.list (r.scr.map .int), .int ((r.i : Int) + 1), .int ((r.x * 48271 + r.scr.getD r.i 0 + 11) % 2147483647), .int r.r]) (i := 3) (j := 3) (d := .int (r.scr.getD r.i 0 / n)) ?_ ?_ ?_ rfl rfl ?_
          · exact de_fdiv hn (de_var 3) (de_var 1)
          · exact de_var 0
          · exact de_int
          · exact db_pop (db_ret (de_mod n0 (de_toint N (de_var 3)) (de_var 1)))
        · rw [if_neg (of_decide_eq_false h)]
          exact db_ret (de_mod n0 (de_toint N (de_var 3)) (de_var 1))
end
end Kp
end
section
set_option Elab.async false
set_option linter.all false
set_option maxRecDepth 100000
set_option maxHeartbeats 4000000
namespace Kp
open PySem PySem.Spec PyProof.Rows L2
def upN (w : Rw) (a b : Int) : Int × Rw := (if a + (takeN w 3).1 < b then a + (takeN w 3).1 else b, (takeN w 3).2)
section
variable {P : Program} {w : World} {K : Fg} {mg : Str → Option Value} {base : Heap}
theorem sc45 : FnScope ["_law_row", "_law_kinds"] ["_law_row", "_law_kinds"] (defScope (top 45)) := ⟨rfl, rfl, rfl, by decide +kernel, rfl, by decide +kernel, by decide +kernel⟩
def rPick : Mo → List Sl → Mo → Sl → Prop := fun m cs m' c => ∃ (r : Rw) (ds : List PyData), r.Ok ∧ 0 < ds.length ∧ ds.length < 1000 ∧ m = .l (rowD r) ∧ cs = [.d (.list ds)] ∧ m' = .l (rowD (takeN r ds.length).2) ∧ c = .d (ds.getD (takeN r ds.length).1.toNat .none)
abbrev DPick (P : Program) (w : World) (K : Fg) (mg : Str → Option Value) (base : Heap) : Prop := Dfn P w K mg base 2 "_law_pick" ["_law_row", "_law_kinds"] (spM K rPick)
theorem f_pick (N : Nms mg) (F : Df K mg "_law_pick" (top 45) ["_law_row", "_law_kinds"]) (G : DTaken P w K mg base) : DPick P w K mg base := by
  refine dfn_ofM F sc45 ?_ ?_
  · rintro m cs m' c ⟨_, _, _, _, _, _, rfl, _⟩; rfl
  · rintro f cdv B outer s H E D m cs m' c hD hr ⟨r, ds, ok, n0, n1, rfl, rfl, rfl, rfl⟩ tk
    have lt := takeN_lt (w := r) (n := (ds.length : Int)) (by omega)
    refine db_ret (de_ixL (ds := ds) (i := (((takeN r ds.length).1.toNat : Nat) : Int)) (s1 := ((), .l (rowD r))) (s2 := ((), .l (rowD (takeN r ds.length).2))) (de_var 1) (DE.eq (de_callM (Ln.top hD) (s1 := ((), .l (rowD r))) G hr (da_cons (de_var 0) (da_cons (de_lenL N (de_var 1)) da_nil)) rfl ⟨r, ds.length, ok, by omega, by omega, rfl, rfl, rfl, rfl⟩) ?_) (atI_get2 (by omega)))
    congr 2
    omega
theorem sc47 : FnScope ["_law_row", "_law_least", "_law_most"] ["_law_row", "_law_least", "_law_most"] (defScope (top 47)) := ⟨rfl, rfl, rfl, by decide +kernel, rfl, by decide +kernel, by decide +kernel⟩
def rUp : Mo → List Sl → Mo → Sl → Prop := fun m cs m' c => ∃ (r : Rw) (a b : Int), r.Ok ∧ m = .l (rowD r) ∧ cs = [.d (.int a), .d (.int b)] ∧ m' = .l (rowD (upN r a b).2) ∧ c = .d (.int (upN r a b).1)
abbrev DUp (P : Program) (w : World) (K : Fg) (mg : Str → Option Value) (base : Heap) : Prop := Dfn P w K mg base 2 "_law_up" ["_law_row", "_law_least", "_law_most"] (spM K rUp)
theorem f_up (N : Nms mg) (F : Df K mg "_law_up" (top 47) ["_law_row", "_law_least", "_law_most"]) (G : DTaken P w K mg base) : DUp P w K mg base := by
  refine dfn_ofM F sc47 ?_ ?_
  · rintro m cs m' c ⟨_, _, _, _, _, rfl, _⟩; rfl
  · rintro f cdv B outer s H E D m cs m' c hD hr ⟨r, a, b, ok, rfl, rfl, rfl, rfl⟩ tk
    exact db_ret (de_min N rfl (s1 := ((), .l (rowD r))) (s2 := ((), .l (rowD (takeN r 3).2))) (de_var 2) (de_add (s1 := ((), .l (rowD r))) (de_var 1) (de_callM (Ln.top hD) (s1 := ((), .l (rowD r))) G hr (da_cons (de_var 0) (da_cons de_int da_nil)) rfl ⟨r, 3, ok, by decide, by decide, rfl, rfl, rfl, rfl⟩)))
end
/-! the calls, with what they draw by name -/
section
variable {A : Amb} {X : Cx} {δ : Dl} {s s1 s2 : A.S} {D : Addr}
theorem de_take (L : Ln A X.K D) (F : DTaken X.prog X.w X.K X.mg X.base) (hr : Room 1 X.A) {row e : Expr} {r r' : Rw} {n v : Int} {p pos : Pos} (hrow : DE A X δ s row (.r (.ref D)) s) (hn : DE A X δ s e (.d (.int n)) s) (h : takeN r n = (v, r')) (hs : L.get s = .l (rowD r)) (ok : r.Ok) (n0 : 0 < n) (n1 : n < 1000) (hp : L.put s (.l (rowD r')) = s1 := by rfl) (hg : Gl X "_law_taken" := by rfl)
    (he : starEach [row, e] X.env = (false, eval row X.env) :: starEach [e] X.env := by rfl) (he2 : starEach [e] X.env = (false, eval e X.env) :: starEach [] X.env := by rfl) (hpl : (backTo pos (starEach [e] X.env)).any (·.1) = false := by rfl) : DE A X δ s (.Call (.Name "_law_taken" p) [row, e] [] pos) (.d (.int v)) s1 := by
  subst hp
  have := de_callM L F hr (da_cons hrow (da_cons hn da_nil he2) he) hs (m' := .l (rowD (takeN r n).2)) (c := .d (.int (takeN r n).1)) ⟨r, n, ok, n0, n1, rfl, rfl, rfl, rfl⟩ hg (by decide) he hpl (pos := pos) (p := p)
  rw [h] at this
  exact this
theorem de_upp (L : Ln A X.K D) (F : DUp X.prog X.w X.K X.mg X.base) (hr : Room 2 X.A) {row e e' : Expr} {r r' : Rw} {a b v : Int} {p pos : Pos} (hrow : DE A X δ s row (.r (.ref D)) s) (ha : DE A X δ s e (.d (.int a)) s) (hb : DE A X δ s e' (.d (.int b)) s) (h : upN r a b = (v, r')) (hs : L.get s = .l (rowD r)) (ok : r.Ok) (hp : L.put s (.l (rowD r')) = s1 := by rfl) (hg : Gl X "_law_up" := by rfl)
    (he : starEach [row, e, e'] X.env = (false, eval row X.env) :: starEach [e, e'] X.env := by rfl) (he2 : starEach [e, e'] X.env = (false, eval e X.env) :: starEach [e'] X.env := by rfl) (he3 : starEach [e'] X.env = (false, eval e' X.env) :: starEach [] X.env := by rfl) (hpl : (backTo pos (starEach [e, e'] X.env)).any (·.1) = false := by rfl) :
    DE A X δ s (.Call (.Name "_law_up" p) [row, e, e'] [] pos) (.d (.int v)) s1 := by
  subst hp
  have := de_callM L F hr (da_cons hrow (da_cons ha (da_cons hb da_nil he3) he2) he) hs (m' := .l (rowD (upN r a b).2)) (c := .d (.int (upN r a b).1)) ⟨r, a, b, ok, rfl, rfl, rfl, rfl⟩ hg (by decide) he hpl (pos := pos) (p := p)
  rw [h] at this
  exact this
end
/-! ### the drawn design -/
def tripN (rd : Int) : Nat → Rw → List (List Int) × Rw
  | 0, r => ([], r)
  | k + 1, r =>
    let (l, r0) := tripN rd k r
    let (u1, r1) := upN r0 rd 5
    let (u2, r2) := upN r1 u1 6
    let (u3, r3) := upN r2 (u2 + 1) 7
    (l ++ [[u1, u2, u3]], r3)
def addU (l : List (Int × Int)) (p : Int × Int) : List (Int × Int) := if p ∈ l then l else l ++ [p]
def pathN : Nat → Rw → List (Int × Int) × Rw
  | 0, r => ([], r)
  | k + 1, r =>
    let (l, r0) := pathN k r
    let (t, r1) := takeN r0 5
    let (u, r2) := takeN r1 (7 - t)
    (addU l (t + 1 + u, t), r2)
def mx (i j : Int) : Int := if j > i then j else i
def drawD (r : Rw) : Dsg × Rw :=
  let (rd, r1) := takeN r 3
  let (s1, r2) := takeN r1 3
  let (s2, r3) := upN r2 (mx s1 rd + 1) 7
  let (u1, r4) := upN r3 rd 5
  let (u2, r5) := upN r4 u1 6
  let (u3, r6) := upN r5 (u2 + 1) 7
  let (m1, r7) := upN r6 rd 5
  let (m2, r8) := upN r7 m1 6
  let (m3, r9) := upN r8 (m2 + 1) 7
  let (l1, r10) := upN r9 rd 5
  let (l2, r11) := upN r10 l1 6
  let (l3, r12) := upN r11 (l2 + 1) 7
  let (t1, r13) := upN r12 rd 5
  let (t2, r14) := upN r13 rd 5
  let (t3, r15) := upN r14 (mx t1 t2 + 1) 7
  let (z1, r16) := upN r15 rd 5
  let (z2, r17) := upN r16 z1 7
  let (g1, r18) := takeN r17 4
  let (o1, r19) := upN r18 rd 5
  let (o2, r20) := upN r19 o1 7
  let (n, r21) := takeN r20 10
  let (ps, r22) := pathN n.toNat r21
  let (b, r23) := takeN r22 2
  (⟨rd, decide (b = 0), s1, s2, u1, u2, u3, m1, m2, m3, l1, l2, l3, t1, t2, t3, z1, z2, g1, o1, o2, sortU pk ps⟩, r23)
theorem upN_ok {w : Rw} {a b : Int} (h : w.Ok) : (upN w a b).2.Ok := takeN_ok h
theorem upN_b {w r : Rw} {a b v : Int} (h : upN w a b = (v, r)) (ok : w.Ok) (hab : a ≤ b) : a ≤ v ∧ v ≤ b ∧ v ≤ a + 2 ∧ r.Ok := by
  have e1 := congrArg (·.1) h
  have e2 := congrArg (·.2) h
  dsimp only at e1 e2
  have t := takeN_lt (w := w) (n := 3) (by decide)
  subst e2
  refine ⟨?_, ?_, ?_, upN_ok ok⟩ <;> (unfold upN at e1; dsimp only at e1; split at e1 <;> omega)
theorem takeN_b {w r : Rw} {n v : Int} (h : takeN w n = (v, r)) (ok : w.Ok) (hn : 0 < n) : 0 ≤ v ∧ v < n ∧ r.Ok := by
  have t := takeN_lt (w := w) (n := n) hn
  have k := takeN_ok (n := n) ok
  rw [h] at t k
  exact ⟨t.1, t.2, k⟩
theorem addU_mem {l : List (Int × Int)} {p q : Int × Int} : q ∈ addU l p ↔ q = p ∨ q ∈ l := by
  unfold addU
  by_cases m : p ∈ l
  · rw [if_pos m]
    exact ⟨.inr, fun h => h.elim (fun e => by rw [e]; exact m) id⟩
  · rw [if_neg m, List.mem_append, List.mem_singleton]
    exact ⟨fun h => h.symm, fun h => h.symm⟩
theorem addU_nodup {l : List (Int × Int)} {p : Int × Int} (h : l.Nodup) : (addU l p).Nodup := by
  unfold addU
  by_cases m : p ∈ l
  · rw [if_pos m]; exact h
  · rw [if_neg m, List.nodup_append]
    exact ⟨h, by simp, fun a ha b hb e => by rw [List.mem_singleton.mp hb] at e; exact m (e ▸ ha)⟩
theorem addU_len {l : List (Int × Int)} {p : Int × Int} : (addU l p).length ≤ l.length + 1 := by
  unfold addU
  by_cases m : p ∈ l
  · rw [if_pos m]; omega
  · rw [if_neg m, List.length_append]; exact Nat.le_refl _
theorem pathN_ok : ∀ (k : Nat) (r : Rw), r.Ok → (pathN k r).2.Ok ∧ (pathN k r).1.Nodup ∧ (pathN k r).1.length ≤ k ∧ ∀ p ∈ (pathN k r).1, okP p = true
  | 0, r, ok => ⟨ok, List.nodup_nil, Nat.le_refl _, fun _ m => nomatch m⟩
  | k + 1, r, ok => by
    obtain ⟨h1, h2, h3, h4⟩ := pathN_ok k r ok
    rcases e0 : pathN k r with ⟨l, r0⟩
    rcases e1 : takeN r0 5 with ⟨t, r1⟩
    rcases e2 : takeN r1 (7 - t) with ⟨u, r2⟩
    rw [e0] at h1 h2 h3 h4
    obtain ⟨a1, a2, a3⟩ := takeN_b e1 h1 (by decide)
    obtain ⟨b1, b2, b3⟩ := takeN_b e2 a3 (by omega)
    have e : pathN (k + 1) r = (addU l (t + 1 + u, t), r2) := by simp only [pathN, e0, e1, e2]
    rw [e]
    refine ⟨b3, addU_nodup h2, Nat.le_trans addU_len (Nat.succ_le_succ h3), fun p m => ?_⟩
    rcases addU_mem.mp m with rfl | m
    · show (pB (t + 1 + u) && (pB t && decide (t < t + 1 + u))) = true
      unfold pB
      simp only [Bool.and_eq_true, decide_eq_true_eq]
      omega
    · exact h4 p m
theorem asc_risesP {l : List (Int × Int)} (h : l.Pairwise fun a b => ltK (pk a) (pk b) = true) : risesP l = true := by
  unfold risesP
  rw [List.all_eq_true]
  intro i hi
  have hi := List.mem_range.mp hi
  rw [getD_at (by omega), getD_at (by omega), ← pk_lt]
  exact List.pairwise_iff_getElem.mp h i (i + 1) (by omega) (by omega) (by omega)
theorem sortU_okPs {l : List (Int × Int)} (h : ∀ p ∈ l, okP p = true) (n : l.length ≤ 100) : okPs (sortU pk l) := ⟨List.all_eq_true.mpr fun p m => h p ((mem_sortU pk pk_inj p l).mp m), asc_risesP (asc_sortU pk pk_inj l), Nat.le_trans (sortU_len pk l) n⟩
theorem mx_b (i j : Int) : i ≤ mx i j ∧ j ≤ mx i j ∧ (mx i j = i ∨ mx i j = j) := by
  unfold mx
  split <;> omega
theorem drawD_ok {r : Rw} (ok : r.Ok) : (drawD r).1.Ok ∧ (drawD r).2.Ok ∧ (drawD r).1.ps.length ≤ 9 := by
  rcases h1 : takeN r 3 with ⟨rd, r1⟩
  rcases h2 : takeN r1 3 with ⟨s1, r2⟩
  rcases h3 : upN r2 (mx s1 rd + 1) 7 with ⟨s2, r3⟩
  rcases h4 : upN r3 rd 5 with ⟨u1, r4⟩
  rcases h5 : upN r4 u1 6 with ⟨u2, r5⟩
  rcases h6 : upN r5 (u2 + 1) 7 with ⟨u3, r6⟩
  rcases h7 : upN r6 rd 5 with ⟨m1, r7⟩
  rcases h8 : upN r7 m1 6 with ⟨m2, r8⟩
  rcases h9 : upN r8 (m2 + 1) 7 with ⟨m3, r9⟩
  rcases h10 : upN r9 rd 5 with ⟨l1, r10⟩
  rcases h11 : upN r10 l1 6 with ⟨l2, r11⟩
  rcases h12 : upN r11 (l2 + 1) 7 with ⟨l3, r12⟩
  rcases h13 : upN r12 rd 5 with ⟨t1, r13⟩
  rcases h14 : upN r13 rd 5 with ⟨t2, r14⟩
  rcases h15 : upN r14 (mx t1 t2 + 1) 7 with ⟨t3, r15⟩
  rcases h16 : upN r15 rd 5 with ⟨z1, r16⟩
  rcases h17 : upN r16 z1 7 with ⟨z2, r17⟩
  rcases h18 : takeN r17 4 with ⟨g1, r18⟩
  rcases h19 : upN r18 rd 5 with ⟨o1, r19⟩
  rcases h20 : upN r19 o1 7 with ⟨o2, r20⟩
  rcases h21 : takeN r20 10 with ⟨n, r21⟩
  rcases h22 : pathN n.toNat r21 with ⟨ps, r22⟩
  rcases h23 : takeN r22 2 with ⟨b, r23⟩
  have e : drawD r = (⟨rd, decide (b = 0), s1, s2, u1, u2, u3, m1, m2, m3, l1, l2, l3, t1, t2, t3, z1, z2, g1, o1, o2, sortU pk ps⟩, r23) := by simp only [drawD, h1, h2, h3, h4, h5, h6, h7, h8, h9, h10, h11, h12, h13, h14, h15, h16, h17, h18, h19, h20, h21, h22, h23]
  rw [e]
  obtain ⟨a1, b1, k1⟩ := takeN_b h1 ok (by decide)
  obtain ⟨a2, b2, k2⟩ := takeN_b h2 k1 (by decide)
  have x1 := mx_b s1 rd
  obtain ⟨a3, b3, c3, k3⟩ := upN_b h3 k2 (by omega)
  obtain ⟨a4, b4, c4, k4⟩ := upN_b h4 k3 (by omega)
  obtain ⟨a5, b5, c5, k5⟩ := upN_b h5 k4 (by omega)
  obtain ⟨a6, b6, c6, k6⟩ := upN_b h6 k5 (by omega)
  obtain ⟨a7, b7, c7, k7⟩ := upN_b h7 k6 (by omega)
  obtain ⟨a8, b8, c8, k8⟩ := upN_b h8 k7 (by omega)
  obtain ⟨a9, b9, c9, k9⟩ := upN_b h9 k8 (by omega)
  obtain ⟨a10, b10, c10, k10⟩ := upN_b h10 k9 (by omega)
  obtain ⟨a11, b11, c11, k11⟩ := upN_b h11 k10 (by omega)
  obtain ⟨a12, b12, c12, k12⟩ := upN_b h12 k11 (by omega)
  obtain ⟨a13, b13, c13, k13⟩ := upN_b h13 k12 (by omega)
  obtain ⟨a14, b14, c14, k14⟩ := upN_b h14 k13 (by omega)
  have x2 := mx_b t1 t2
  obtain ⟨a15, b15, c15, k15⟩ := upN_b h15 k14 (by omega)
  obtain ⟨a16, b16, c16, k16⟩ := upN_b h16 k15 (by omega)
  obtain ⟨a17, b17, c17, k17⟩ := upN_b h17 k16 (by omega)
  obtain ⟨a18, b18, k18⟩ := takeN_b h18 k17 (by decide)
  obtain ⟨a19, b19, c19, k19⟩ := upN_b h19 k18 (by omega)
  obtain ⟨a20, b20, c20, k20⟩ := upN_b h20 k19 (by omega)
  obtain ⟨a21, b21, k21⟩ := takeN_b h21 k20 (by decide)
  obtain ⟨q1, q2, q3, q4⟩ := pathN_ok n.toNat r21 k21
  rw [h22] at q1 q2 q3 q4
  dsimp only at q1 q2 q3 q4
  obtain ⟨a23, b23, k23⟩ := takeN_b h23 q1 (by decide)
  have few : ps.length ≤ 9 := by omega
  have p := sortU_okPs q4 (by omega)
  refine ⟨⟨?_, ?_, ?_, ?_, ?_, ?_, ?_, ?_, ?_, p.1, p.2.1, p.2.2⟩, k23, Nat.le_trans (sortU_len pk ps) few⟩
  · simp only [pB, Bool.and_eq_true, decide_eq_true_eq]; omega
  · simp only [Dsg.rows, List.all_cons, List.all_nil, pB, Bool.and_true, Bool.and_eq_true, decide_eq_true_eq]; omega
  all_goals simp only [decide_eq_true_eq]; omega
end Kp
end
section
set_option Elab.async false
set_option linter.all false
set_option maxRecDepth 100000
set_option maxHeartbeats 4000000
namespace Kp
open PySem PySem.Spec PyProof.Rows L2
def dm (l : List (Int × Int)) : List (List Key × V) := l.map fun p => (pk p, V.bl true)
theorem dm_keys (l : List (Int × Int)) : (dm l).map (·.1) = l.map pk := by unfold dm; rw [List.map_map]; rfl
theorem dm_put (l : List (Int × Int)) (p : Int × Int) : putK (dm l) [.inl p.1, .inl p.2] (.bl true) = dm (addU l p) := by
  unfold putK addU
  have any_ : ((dm l).any fun kv => decide (kv.1 = ([.inl p.1, .inl p.2] : List Key))) = decide (p ∈ l) := by
    rw [Bool.eq_iff_iff, List.any_eq_true, decide_eq_true_eq]
    constructor
    · rintro ⟨kv, m, e⟩
      obtain ⟨q, mq, rfl⟩ := List.mem_map.mp m
      have := pk_inj q p (of_decide_eq_true e)
      rw [← this]; exact mq
    · exact fun m => ⟨(pk p, .bl true), List.mem_map.mpr ⟨p, m, rfl⟩, decide_eq_true rfl⟩
  by_cases m : p ∈ l
  · rw [any_, decide_eq_true m, if_pos rfl, if_pos m]
    have e : ∀ kv ∈ dm l, (if kv.1 = ([.inl p.1, .inl p.2] : List Key) then (kv.1, V.bl true) else kv) = kv := fun kv hm => by
      obtain ⟨q, mq, rfl⟩ := List.mem_map.mp hm
      split <;> rfl
    rw [List.map_congr_left e, List.map_id']
  · rw [any_, decide_eq_false m, if_neg (by decide), if_neg m]
    unfold dm
    rw [List.map_append]
    rfl
theorem tripN_ok (rd : Int) : ∀ (k : Nat) (r : Rw), r.Ok → (tripN rd k r).2.Ok ∧ (tripN rd k r).1.length = k
  | 0, r, ok => ⟨ok, rfl⟩
  | k + 1, r, ok => by
    obtain ⟨h1, h2⟩ := tripN_ok rd k r ok
    rcases e0 : tripN rd k r with ⟨l, r0⟩
    rw [e0] at h1 h2
    refine ⟨?_, ?_⟩
    · simp only [tripN, e0]
      exact upN_ok (upN_ok (upN_ok h1))
    · simp only [tripN, e0, List.length_append, List.length_cons, List.length_nil]
      dsimp only at h2
      omega
section
variable {P : Program} {w : World} {K : Fg} {mg : Str → Option Value} {base : Heap}
abbrev N48 : List Str := ["_law_row", "_law_read", "_law_made", "_law_places_here", "_law_kind", "_law_used", "_law_one", "_law_other", "_law_paths", "_law_turn", "_law_to"]
theorem sc48 : FnScope N48 ["_law_row"] (defScope (top 48)) := ⟨rfl, rfl, rfl, by decide +kernel, rfl, by decide +kernel, by decide +kernel⟩
def rDesign : Mo → List Sl → Mo → Sl → Prop := fun m cs m' c => ∃ r : Rw, r.Ok ∧ m = .l (rowD r) ∧ cs = [] ∧ m' = .l (rowD (drawD r).2) ∧ c = .d (drawD r).1.enc
abbrev DDesign (P : Program) (w : World) (K : Fg) (mg : Str → Option Value) (base : Heap) : Prop := Dfn P w K mg base 3 "_law_design" ["_law_row"] (spM K rDesign)
theorem f_design (N : Nms mg) (F : Df K mg "_law_design" (top 48) ["_law_row"]) (GT : DTaken P w K mg base) (GU : DUp P w K mg base) : DDesign P w K mg base := by
  refine dfn_ofM F sc48 ?_ ?_
  · rintro m cs m' c ⟨_, _, _, rfl, _⟩; rfl
  · rintro f cdv B outer s H E D m cs m' c hD hr ⟨r, ok, rfl, rfl, rfl, rfl⟩ tk
    have nd := sc48.nd
    have hr1 : Room 1 (B.deeper (envOfC (Str.ofString "_law_design") (defScope (top 48)) s.heap.objs.size f cdv)) := hr.mono (by decide)
    rcases h1 : takeN r 3 with ⟨rd, r1⟩
    rcases h2 : takeN r1 3 with ⟨s1, r2⟩
    rcases h3 : upN r2 (mx s1 rd + 1) 7 with ⟨s2, r3⟩
    rcases h4 : upN r3 rd 5 with ⟨u1, r4⟩
    rcases h5 : upN r4 u1 6 with ⟨u2, r5⟩
    rcases h6 : upN r5 (u2 + 1) 7 with ⟨u3, r6⟩
    rcases h7 : upN r6 rd 5 with ⟨m1, r7⟩
    rcases h8 : upN r7 m1 6 with ⟨m2, r8⟩
    rcases h9 : upN r8 (m2 + 1) 7 with ⟨m3, r9⟩
    rcases h10 : upN r9 rd 5 with ⟨l1, r10⟩
    rcases h11 : upN r10 l1 6 with ⟨l2, r11⟩
    rcases h12 : upN r11 (l2 + 1) 7 with ⟨l3, r12⟩
    rcases h13 : upN r12 rd 5 with ⟨t1, r13⟩
    rcases h14 : upN r13 rd 5 with ⟨t2, r14⟩
    rcases h15 : upN r14 (mx t1 t2 + 1) 7 with ⟨t3, r15⟩
    rcases h16 : upN r15 rd 5 with ⟨z1, r16⟩
    rcases h17 : upN r16 z1 7 with ⟨z2, r17⟩
    rcases h18 : takeN r17 4 with ⟨g1, r18⟩
    rcases h19 : upN r18 rd 5 with ⟨o1, r19⟩
    rcases h20 : upN r19 o1 7 with ⟨o2, r20⟩
    rcases h21 : takeN r20 10 with ⟨n, r21⟩
    rcases h22 : pathN n.toNat r21 with ⟨ps, r22⟩
    rcases h23 : takeN r22 2 with ⟨b, r23⟩
    have e : drawD r = (⟨rd, decide (b = 0), s1, s2, u1, u2, u3, m1, m2, m3, l1, l2, l3, t1, t2, t3, z1, z2, g1, o1, o2, sortU pk ps⟩, r23) := by simp only [drawD, h1, h2, h3, h4, h5, h6, h7, h8, h9, h10, h11, h12, h13, h14, h15, h16, h17, h18, h19, h20, h21, h22, h23]
    rw [e]
    obtain ⟨a1, b1, k1⟩ := takeN_b h1 ok (by decide)
    obtain ⟨a2, b2, k2⟩ := takeN_b h2 k1 (by decide)
    have x1 := mx_b s1 rd
    obtain ⟨a3, b3, c3, k3⟩ := upN_b h3 k2 (by omega)
    refine db_set (s1 := ((), .l (rowD r1))) 1 nd (de_take (Ln.top hD) GT hr1 (de_var 0) de_int h1 rfl ok (by decide) (by decide)) ?_
    refine db_set (s1 := ((), .l (rowD r2))) 2 nd (de_take (Ln.top hD) GT hr1 (de_var 0) de_int h2 rfl k1 (by decide) (by decide)) ?_
    refine db_mut (s1 := ((), .l (rowD r3))) (m := .l [itup [s1, s2]]) 3 nd (df_lst (ds := [itup [s1, s2]]) (da_cons (de_tup (ds := [.int s1, .int s2]) (da_cons (de_var 2) (da_cons (de_upp (Ln.top hD) GU hr (de_var 0) (de_add (de_max N rfl (de_var 2) (de_var 1)) de_int) de_int h3 rfl k2) da_nil))) da_nil)) fun Dp hP => ?_
    refine ⟨_, OutUp.rt (A := (A0.add (Cf P w K mg base N48 "_law_design" (top 48) f cdv B outer s H E).K D)) (c := .d (Dsg.enc ⟨rd, decide (b = 0), s1, s2, u1, u2, u3, m1, m2, m3, l1, l2, l3, t1, t2, t3, z1, z2, g1, o1, o2, sortU pk ps⟩)) (s := ((), .l (rowD r23))) (m := .l [itup [s1, s2], itup [u1, u2, u3], itup [m1, m2, m3], itup [l1, l2, l3], itup [t1, t2, t3], itup [z1, z2], itup [g1], itup [o1, o2]]), ?_⟩
    have LR := (Ln.top hD).up hP (K := (Cf P w K mg base N48 "_law_design" (top 48) f cdv B outer s H E).K)
    -- the three kinds that compute
    refine db_for (n := 3) (item := fun i => .d (.str ([S "sum", S "mul", S "load"].getD i (S "")))) (δi := fun i => [some (.r (.ref D)), some (.d (.int rd)), none, some (.r (.ref Dp)), some (.d (.str ([S "sum", S "mul", S "load"].getD i (S "")))), none, none, none, none, none, none]) (ks := [4])
      (δL := [some (.r (.ref D)), some (.d (.int rd)), none, some (.r (.ref Dp)), none, none, none, none, none, none, none]) (st := fun i => (((), .l (rowD (tripN rd i r3).2)), .l (itup [s1, s2] :: (tripN rd i r3).1.map itup))) (δe := fun i => [some (.r (.ref D)), some (.d (.int rd)), none, some (.r (.ref Dp)), none, none, none, none, none, none, none]) (passes_of rfl) rfl
      (di_listM (l := [S "sum", S "mul", S "load"]) .str (S "") (de_lst (ds := [.str (S "sum"), .str (S "mul"), .str (S "load")]) (da_cons de_str (da_cons de_str (da_cons de_str da_nil))))) (wk_keep (wk_keep (wk_drop (wk_keep (Wk.refl _))))) (fun i hi => dg_name 4 nd) (fun i hi => ?_) (fun i hi => Wk.refl _) ?_
    · obtain ⟨q0k, q0l⟩ := tripN_ok rd i r3 k3
      rcases e0 : tripN rd i r3 with ⟨l, q0⟩
      rw [e0] at q0k q0l
      dsimp only at q0k q0l
      rcases f1 : upN q0 rd 5 with ⟨v1, q1⟩
      rcases f2 : upN q1 v1 6 with ⟨v2, q2⟩
      rcases f3 : upN q2 (v2 + 1) 7 with ⟨v3, q3⟩
      have e1 : tripN rd (i + 1) r3 = (l ++ [[v1, v2, v3]], q3) := by simp only [tripN, e0, f1, f2, f3]
      have e2 : itup [s1, s2] :: (l ++ [[v1, v2, v3]]).map itup = itup [s1, s2] :: l.map itup ++ [itup [v1, v2, v3]] := by rw [List.map_append]; rfl
      rw [e1]
      dsimp only
      rw [e2]
      obtain ⟨y1, y2, y3, y4⟩ := upN_b f1 q0k (by omega)
      obtain ⟨w1, w2, w3, w4⟩ := upN_b f2 y4 (by omega)
      refine db_set (s1 := (((), .l (rowD q1)), .l (itup [s1, s2] :: l.map itup))) 5 nd (de_upp ((Ln.top hD).up hP) GU hr (de_var 0) (de_var 1) de_int f1 rfl q0k) ?_
      refine db_set (s1 := (((), .l (rowD q2)), .l (itup [s1, s2] :: l.map itup))) 2 nd (de_upp ((Ln.top hD).up hP) GU hr (de_var 0) (de_var 5) de_int f2 rfl y4) ?_
      refine db_mapp (Ln.top hP) (s1 := (((), .l (rowD q2)), .l (itup [s1, s2] :: l.map itup))) (s2 := (((), .l (rowD q3)), .l (itup [s1, s2] :: l.map itup))) (d := itup [v1, v2, v3]) ?_ ?_ rfl ?_ ?_
      · exact de_var 3
      · exact de_tup (ds := [.int v1, .int v2, .int v3]) (da_cons (de_var 5) (da_cons (de_var 2) (da_cons (de_upp ((Ln.top hD).up hP) GU hr (de_var 0) (de_add (de_var 2) de_int) de_int f3 rfl w4) da_nil)))
      · rw [List.length_cons, List.length_map]; omega
      · exact db_pop (db_nxw db_nil (wk_keep (wk_keep (wk_drop (wk_keep (wk_drop (wk_drop (Wk.refl _))))))))
    · have e3 : tripN rd 3 r3 = ([[u1, u2, u3], [m1, m2, m3], [l1, l2, l3]], r12) := by simp only [tripN, h4, h5, h6, h7, h8, h9, h10, h11, h12, List.nil_append, List.cons_append]
      have k12 : r12.Ok := by
        have := (tripN_ok rd 3 r3 k3).1
        rw [e3] at this
        exact this
      rw [e3]
      dsimp only
      obtain ⟨a13, b13, c13, k13⟩ := upN_b h13 k12 (by omega)
      obtain ⟨a14, b14, c14, k14⟩ := upN_b h14 k13 (by omega)
      have x2 := mx_b t1 t2
      obtain ⟨a15, b15, c15, k15⟩ := upN_b h15 k14 (by omega)
      obtain ⟨a16, b16, c16, k16⟩ := upN_b h16 k15 (by omega)
      obtain ⟨a17, b17, c17, k17⟩ := upN_b h17 k16 (by omega)
      obtain ⟨a18, b18, k18⟩ := takeN_b h18 k17 (by decide)
      obtain ⟨a19, b19, c19, k19⟩ := upN_b h19 k18 (by omega)
      obtain ⟨a20, b20, c20, k20⟩ := upN_b h20 k19 (by omega)
      obtain ⟨a21, b21, k21⟩ := takeN_b h21 k20 (by decide)
      refine db_par (s1 := (((), .l (rowD r14)), .l (itup [s1, s2] :: [[u1, u2, u3], [m1, m2, m3], [l1, l2, l3]].map itup))) (c := .d (.int t1)) (c' := .d (.int t2)) 6 7 rfl nd (da_cons (s1 := (((), .l (rowD r13)), .l (itup [s1, s2] :: [[u1, u2, u3], [m1, m2, m3], [l1, l2, l3]].map itup))) (de_upp ((Ln.top hD).up hP) GU hr (de_var 0) (de_var 1) de_int h13 rfl k12) (da_cons (de_upp ((Ln.top hD).up hP) GU hr (de_var 0) (de_var 1) de_int h14 rfl k13) da_nil)) ?_
      refine db_mapp (Ln.top hP) (s1 := (((), .l (rowD r14)), .l (itup [s1, s2] :: [[u1, u2, u3], [m1, m2, m3], [l1, l2, l3]].map itup))) (s2 := (((), .l (rowD r15)), .l (itup [s1, s2] :: [[u1, u2, u3], [m1, m2, m3], [l1, l2, l3]].map itup))) (d := itup [t1, t2, t3]) ?_ ?_ rfl (Nat.lt_of_lt_of_le (by decide : 4 < 5) (by decide)) ?_
      · exact de_var 3
      · exact de_tup (ds := [.int t1, .int t2, .int t3]) (da_cons (de_var 6) (da_cons (de_var 7) (da_cons (de_upp ((Ln.top hD).up hP) GU hr (de_var 0) (de_add (de_max N rfl (de_var 6) (de_var 7)) de_int) de_int h15 rfl k14) da_nil)))
      refine db_set (s1 := (((), .l (rowD r16)), .l [itup [s1, s2], itup [u1, u2, u3], itup [m1, m2, m3], itup [l1, l2, l3], itup [t1, t2, t3]])) 5 nd (de_upp ((Ln.top hD).up hP) GU hr (de_var 0) (de_var 1) de_int h16 rfl k15) ?_
      refine db_mapp (Ln.top hP) (s1 := (((), .l (rowD r16)), .l [itup [s1, s2], itup [u1, u2, u3], itup [m1, m2, m3], itup [l1, l2, l3], itup [t1, t2, t3]])) (s2 := (((), .l (rowD r17)), .l [itup [s1, s2], itup [u1, u2, u3], itup [m1, m2, m3], itup [l1, l2, l3], itup [t1, t2, t3]])) (d := itup [z1, z2]) ?_ ?_ rfl (Nat.lt_of_lt_of_le (by decide : 5 < 6) (by decide)) ?_
      · exact de_var 3
      · exact de_tup (ds := [.int z1, .int z2]) (da_cons (de_var 5) (da_cons (de_upp ((Ln.top hD).up hP) GU hr (de_var 0) (de_var 5) de_int h17 rfl k16) da_nil))
      refine db_mapp (Ln.top hP) (s1 := (((), .l (rowD r17)), .l [itup [s1, s2], itup [u1, u2, u3], itup [m1, m2, m3], itup [l1, l2, l3], itup [t1, t2, t3], itup [z1, z2]])) (s2 := (((), .l (rowD r18)), .l [itup [s1, s2], itup [u1, u2, u3], itup [m1, m2, m3], itup [l1, l2, l3], itup [t1, t2, t3], itup [z1, z2]])) (d := itup [g1]) ?_ ?_ rfl (Nat.lt_of_lt_of_le (by decide : 6 < 7) (by decide)) ?_
      · exact de_var 3
      · exact de_tup (ds := [.int g1]) (da_cons (de_take ((Ln.top hD).up hP) GT hr1 (de_var 0) de_int h18 rfl k17 (by decide) (by decide)) da_nil)
      refine db_set (s1 := (((), .l (rowD r19)), .l [itup [s1, s2], itup [u1, u2, u3], itup [m1, m2, m3], itup [l1, l2, l3], itup [t1, t2, t3], itup [z1, z2], itup [g1]])) 5 nd (de_upp ((Ln.top hD).up hP) GU hr (de_var 0) (de_var 1) de_int h19 rfl k18) ?_
      refine db_mapp (Ln.top hP) (s1 := (((), .l (rowD r19)), .l [itup [s1, s2], itup [u1, u2, u3], itup [m1, m2, m3], itup [l1, l2, l3], itup [t1, t2, t3], itup [z1, z2], itup [g1]])) (s2 := (((), .l (rowD r20)), .l [itup [s1, s2], itup [u1, u2, u3], itup [m1, m2, m3], itup [l1, l2, l3], itup [t1, t2, t3], itup [z1, z2], itup [g1]])) (d := itup [o1, o2]) ?_ ?_ rfl (Nat.lt_of_lt_of_le (by decide : 7 < 8) (by decide)) ?_
      · exact de_var 3
      · exact de_tup (ds := [.int o1, .int o2]) (da_cons (de_var 5) (da_cons (de_upp ((Ln.top hD).up hP) GU hr (de_var 0) (de_var 5) de_int h20 rfl k19) da_nil))
      -- the paths
      let pls : Mo := .l [itup [s1, s2], itup [u1, u2, u3], itup [m1, m2, m3], itup [l1, l2, l3], itup [t1, t2, t3], itup [z1, z2], itup [g1], itup [o1, o2]]
      refine db_mut (s1 := (((), .l (rowD r20)), pls)) (m := .m []) 8 nd df_dict fun Dq hQ => ?_
      refine ⟨_, OutUp.rt (A := (A0.add (Cf P w K mg base N48 "_law_design" (top 48) f cdv B outer s H E).K D).add (Cf P w K mg base N48 "_law_design" (top 48) f cdv B outer s H E).K Dp) (c := .d (Dsg.enc ⟨rd, decide (b = 0), s1, s2, u1, u2, u3, m1, m2, m3, l1, l2, l3, t1, t2, t3, z1, z2, g1, o1, o2, sortU pk ps⟩)) (s := (((), .l (rowD r23)), pls)) (m := .m (dm ps)), ?_⟩
      refine db_for (n := n.toNat) (item := fun i => .d (.int i)) (δi := fun i => [some (.r (.ref D)), some (.d (.int rd)), none, some (.r (.ref Dp)), none, none, none, none, some (.r (.ref Dq)), some (.d (.int i)), none]) (ks := [9])
        (δL := [some (.r (.ref D)), some (.d (.int rd)), none, some (.r (.ref Dp)), none, none, none, none, some (.r (.ref Dq)), none, none]) (st := fun i => ((((), .l (rowD (pathN i r21).2)), pls), .m (dm (pathN i r21).1))) (δe := fun i => [some (.r (.ref D)), some (.d (.int rd)), none, some (.r (.ref Dp)), none, none, none, none, some (.r (.ref Dq)), none, none]) (passes_of rfl) rfl
        (di_rng1 N (de_take (((Ln.top hD).up hP).up hQ) GT hr1 (de_var 0) de_int h21 rfl k20 (by decide) (by decide)) (by omega)) (wk_keep (wk_keep (wk_keep (wk_keep (wk_keep (wk_drop (wk_drop (wk_drop (Wk.refl _))))))))) (fun i hi => dg_name 9 nd) (fun i hi => ?_) (fun i hi => Wk.refl _) ?_
      · obtain ⟨q0k, q0n, q0l, _⟩ := pathN_ok i r21 k21
        rcases e0 : pathN i r21 with ⟨l, q0⟩
        rw [e0] at q0k q0n q0l
        dsimp only at q0k q0n q0l
        rcases f1 : takeN q0 5 with ⟨t, q1⟩
        rcases f2 : takeN q1 (7 - t) with ⟨u, q2⟩
        have e1 : pathN (i + 1) r21 = (addU l (t + 1 + u, t), q2) := by simp only [pathN, e0, f1, f2]
        rw [e1]
        dsimp only
        rw [← dm_put]
        obtain ⟨y1, y2, y3⟩ := takeN_b f1 q0k (by decide)
        refine db_set (s1 := ((((), .l (rowD q1)), pls), .m (dm l))) 10 nd (de_take (((Ln.top hD).up hP).up hQ) GT hr1 (de_var 0) de_int f1 rfl q0k (by decide) (by decide)) ?_
        refine db_dput (Ln.top hQ) (s1 := ((((), .l (rowD q1)), pls), .m (dm l))) (s2 := ((((), .l (rowD q1)), pls), .m (dm l))) (s3 := ((((), .l (rowD q2)), pls), .m (dm l))) (kvs := dm l) (k1 := .inl (t + 1 + u)) (k2 := .inl t) (d := .bool true) (v := .bl true) hr ?_ ?_ ?_ rfl rfl ?_ ?_
        · exact de_bl
        · exact de_var 8
        · exact da_cons (de_add (de_add (de_var 10) de_int) (de_take (((Ln.top hD).up hP).up hQ) GT hr1 (de_var 0) (de_sub de_int (de_var 10)) f2 rfl y3 (by omega) (by omega))) (da_cons (de_var 10) da_nil)
        · unfold dm
          rw [List.length_map]
          omega
        · exact db_pop (db_nxw db_nil (wk_keep (wk_keep (wk_keep (wk_keep (wk_keep (wk_keep (wk_keep (wk_keep (wk_keep (wk_drop (wk_drop (Wk.refl _)))))))))))))
      · rw [h22]
        dsimp only
        obtain ⟨q0k, q0n, q0l, _⟩ := pathN_ok n.toNat r21 k21
        rw [h22] at q0k q0n q0l
        dsimp only at q0k q0n q0l
        let s9 : (((A0.add (Cf P w K mg base N48 "_law_design" (top 48) f cdv B outer s H E).K D).add (Cf P w K mg base N48 "_law_design" (top 48) f cdv B outer s H E).K Dp).add (Cf P w K mg base N48 "_law_design" (top 48) f cdv B outer s H E).K Dq).S := ((((), .l (rowD r23)), pls), .m (dm ps))
        refine db_ret (s1 := s9) (de_tup (ds := [.int rd, .bool (decide (b = 0)), .tuple [itup [s1, s2], itup [u1, u2, u3], itup [m1, m2, m3], itup [l1, l2, l3], itup [t1, t2, t3], itup [z1, z2], itup [g1], itup [o1, o2]], pths (sortU pk ps), .tuple []]) (da_cons (de_var 1) (da_cons (s1 := s9) (de_eqI hr (de_take (((Ln.top hD).up hP).up hQ) GT hr1 (de_var 0) de_int h23 rfl q0k (by decide) (by decide)) de_int) (da_cons (s1 := s9) (de_mtup ((Ln.top hP).up hQ) N (de_var 3)) (da_cons (s1 := s9) ?_ (da_cons (s1 := s9) (de_tup (ds := []) da_nil) da_nil))))))
        refine DE.eq (c := .d (.tuple (((sortU pk ps).map pk).map keysD))) (de_tupL N (de_sortT (ks := ps.map pk) N (DE.eq (de_mlist (Ln.top hQ) N rfl (de_var 8) rfl) (by rw [dm_keys])) (nodup_map' pk_inj q0n) (fun q hq r hr => ?_) (.inl fun k hk => ?_) (sortU_asc pk pk_inj ps) (sortU_mem pk pk_inj ps))) (by rw [pks_enc]; rfl)
        · obtain ⟨a, _, rfl⟩ := List.mem_map.mp hq
          obtain ⟨b, _, rfl⟩ := List.mem_map.mp hr
          exact pk_cmp a b
        · obtain ⟨a, _, rfl⟩ := List.mem_map.mp hk
          exact ⟨_, _, rfl⟩
end
end Kp
end
section
set_option Elab.async false
set_option linter.all false
set_option maxRecDepth 100000
set_option maxHeartbeats 4000000
namespace Kp
open PySem PySem.Spec PyProof.Rows L2
section
variable {X : Cx}
def rCatS (K : Fg) : R2 := fun x y H Q => ∃ l b xs zs, x = .ref l ∧ y = .ref b ∧ SqL K H l xs ∧ SqL K H b zs ∧ xs.length + zs.length ≤ sizeLine ∧ ∀ p, H p = none → Q (.ref p) (upd H p (.lst (xs ++ zs)))
theorem op_catS : OpR X (binaryOp .Add) (rCatS X.K) := by
  intro pins s σ H x y v u Q I rx ry h
  obtain ⟨l, b, xs, zs, rfl, rfl, hH, hB, hz, q⟩ := h
  cases rx
  cases ry
  obtain ⟨its, r, pl, z⟩ := I.list hH
  obtain ⟨its2, r2, pl2, z2⟩ := I.list hB
  obtain ⟨⟨c1, d1, t1, e1⟩, ho, hc, n, hd⟩ := pl.isList
  obtain ⟨⟨c2, d2, t2, e2⟩, ho2, hc2, n2, hd2⟩ := pl2.isList
  simp only at hc hd hc2 hd2
  subst hc hd hc2 hd2
  have e : its.toArray ++ its2.toArray = (its ++ its2).toArray := by simp
  have hsz : its.length + its2.length ≤ sizeLine := by rw [← r.length, ← r2.length]; exact hz
  refine PySem.concat_meets ⟨_, ho, rfl⟩ ⟨_, ho2, rfl⟩ PySem.noFill_list_add PySem.seq_list_add PySem.F.slot_list_add PySem.F.entry_list_add (PySem.F.args_list_add_2 _ _) (PyProof.Rows.list_addW l b its.toArray its2.toArray n n2 d1 d2 e1 e2 (by simpa using hsz)) ⟨ho, ho2, ?_⟩
  rw [e]
  exact ⟨.ref _, _, I.lnew (t' := s.toks) (r.append r2) (by rw [List.length_append]; exact hz), rfl, q _ I.fresh⟩
end
section
variable {A : Amb} {X : Cx} {E : XK} {δ δ' : Dl} {s s1 s2 s3 : A.S} {o : Out A} {rest : List Stmt} {bs : List (List Stmt)}
theorem de_addL {a b : Expr} {x y : List PyData} {pos : Pos} (ha : DE A X δ s a (.d (.list x)) s1) (hb : DE A X δ s1 b (.d (.list y)) s2) (hl : x.length + y.length ≤ 100000) : DE A X δ s (.BinOp a .Add b pos) (.d (.list (x ++ y))) s2 :=
  de_bin op_catS (fun u v w s iv dx dy Q q => by
    obtain ⟨a, xs, ea, hs, da⟩ := dv_lst dx
    obtain ⟨b, ys, eb, ht, db⟩ := dv_lst dy
    refine ⟨a, b, xs, ys, ea, eb, Same.seq w.sub hs, Same.seq w.sub ht, by rw [dpa_len da, dpa_len db]; exact Nat.le_trans hl (by decide), fun p hp => ?_⟩
    refine q _ (w.new p _ hp) (w.new_le p _ hp) (inv_new hp iv) ?_
    exact Dp.lst (SqL.of (show upd w.G p _ p = _ from upd_same)) (dpa_mono (w.new_le p _ hp).g (dpa_app da db))) ha hb
def isNonD : PyData → Bool
  | .none => true
  | _ => false
theorem od_isN {K : Fg} {d : PyData} : OpD A K (fun x y H Q => y = .non ∧ Q (.bl (decide (x = .non))) H) (.d d) (.d .none) (.d (.bool (isNonD d))) := fun x y w s iv dx dy Q q => by
  refine ⟨dv_non dy, q _ w (Le.refl w) iv ?_⟩
  have dx : Dp K w.G x d := dx
  cases dx <;> exact .bl _
theorem dt_isN {a b : Expr} {d : PyData} {pos : Pos} (ha : DE A X δ s a (.d d) s1) (hb : DE A X δ s1 b (.d .none) s2) : DT A X δ s (.Compare a [.Is] [b] pos) (isNonD d) s2 := dt_cmp op_isN od_isN (nomark _) ha hb
/-- isinstance(e, (T1, T2)) -/
theorem de_isi2 {e : Expr} {d : PyData} {x y : Str} {T U : String} {j : Nat} {p p2 p3 p4 pos : Pos} (N : Nms X.mg) (h : DE A X δ s e (.d d) s1) (hm : X.mg x = none) (hb : bootBuiltins x = some (.type T)) (hT : T = "int" ∨ T = "bool" ∨ T = "str" ∨ T = "tuple" ∨ T = "list") (hm2 : X.mg y = none) (hb2 : bootBuiltins y = some (.type U)) (hU : U = "int" ∨ U = "bool" ∨ U = "str" ∨ U = "tuple" ∨ U = "list")
    (hg : Gl X "isinstance" := by rfl) (hg2 : Gl X x := by rfl) (hn : x ≠ "__name__" := by decide) (hd : (x == ("__debug__" : Str)) = false := by decide) (hg3 : Gl X y := by rfl) (hn3 : y ≠ "__name__" := by decide) (hd3 : (y == ("__debug__" : Str)) = false := by decide)
    (hs : starEach [e, .Tuple [.Name x p2, .Name y p3] j p4] X.env = (false, eval e X.env) :: starEach [.Tuple [.Name x p2, .Name y p3] j p4] X.env := by rfl) (hs2 : starEach [.Tuple [.Name x p2, .Name y p3] j p4] X.env = (false, eval (.Tuple [.Name x p2, .Name y p3] j p4) X.env) :: starEach [] X.env := by rfl) :
    DE A X δ s (.Call (.Name "isinstance" p) [e, .Tuple [.Name x p2, .Name y p3] j p4] [] pos) (.d (.bool (isiD d T || isiD d U))) s1 :=
  DE.of (pe_callB call_isiT hg N.isinstance boot_isinstance (pa_cons pe_w (pa_cons (pe_tup pa_w) pa_nil hs2) hs) (he := hs)) fun w σ en iv Q q => h w σ en iv _ fun v w1 l1 i1 d1 =>
    da_cons (c := .r (.ty T)) (cs := [.r (.ty U)]) (DE.of (pe_bltn hg2 hm hb (show RelV (.ty T) (.type T) from rfl) hn hd) (ev_c fun _ => rfl)) (da_cons (DE.of (pe_bltn hg3 hm2 hb2 (show RelV (.ty U) (.type U) from rfl) hn3 hd3) (ev_c fun _ => rfl)) da_nil rfl) rfl w1 σ (en.mono l1.g) i1 _ fun vs w2 l2 i2 d2 => by
      obtain ⟨t, u, rfl, e1, e2⟩ := dvs2 d2
      obtain rfl : t = .ty T := e1
      obtain rfl : u = .ty U := e2
      refine ⟨Nat.le_trans (show 2 ≤ 100000 by decide) (by decide), fun tp hp => ⟨v, tp, [.ty T, .ty U], _, [.type T, .type U], isiD d T || isiD d U, rfl, upd_same, .cons (.ty T) (.cons (.ty U) .nil), ty_of (dp_mono (w2.new tp _ hp).sub (dp_mono (w2.new_le tp _ hp).g (dp_mono l2.g d1))), ?_, q _ (w2.new tp _ hp) ((l1.trans l2).trans (w2.new_le tp _ hp)) (inv_new hp i2) (.bl _)⟩⟩
      refine kitAny_cons (kit_ty (kit_isi d T hT)) (fun z => ?_) fun z => by rw [z]; rfl
      rw [z, Bool.false_or]
      refine kitAny_cons (kit_ty (kit_isi d U hU)) (fun z => ?_) fun z => z
      rw [z]; rfl
/-- a loop whose known facts change from turn to turn -/
theorem db_forV {tg iter : Expr} {body : List Stmt} {n : Nat} {item : Nat → Sl} {δi : Nat → Dl} {δe : Nat → Dl} {ks : List Nat} {pos : Pos} (δL : Nat → Dl) (st : Nat → A.S) (hp : PassesOwn (model X.prog X.w) X.A X.env X.xe) (hc : X.calm = true) (hi : DI A X δ s tg iter n item (st 0)) (hL : Wk δ (δL 0))
    (hg : ∀ i, i < n → DG A X (δL i) tg (item i) (δi i) ks) (hb : ∀ i, i < n → DB A X E (δi i) (st i) [body] (.nx (δe i) (st (i + 1)))) (he : ∀ i, i < n → Wk (δe i) (δL (i + 1))) (r : DB A X E (δL n) (st n) (rest :: bs) o)
    (hs : ∀ x, foldedSetIterable iter X.env x = pure x := by intro _; rfl) : DB A X E δ s ((.For tg iter body [] pos :: rest) :: bs) o := fun w σ en iv D q => by
  refine wp_cons (ps_for (tb := wpS X body) (wi := wpI X tg iter) (g := wpG X tg) hp hc pi_w pg_w pss_w hs) ?_
  refine hi w σ en iv _ fun J w1 l1 i1 go yl stp => ?_
  refine ⟨fun i m σ H => ∃ w2 : Wd A, w2.H = H ∧ m = n - i ∧ i ≤ n ∧ Le w1 w2 ∧ A.inv (st i) w2.G w2.H ∧ EnvD X.K σ w2.G (δL i), ⟨n, w1, rfl, by simp, Nat.zero_le _, Le.refl w1, i1, (en.mono l1.g).weak hL⟩, ?_⟩
  rintro i m σ2 H ⟨w2, rfl, rfl, hi', l2, i2, e2⟩
  by_cases hlt : i < n
  · refine .inr ⟨go i hlt w2 l2.g, fun σ3 H3 => ∃ w3 : Wd A, w3.H = H3 ∧ i + 1 ≤ n ∧ Le w1 w3 ∧ A.inv (st (i + 1)) w3.G w3.H ∧ EnvD X.K σ3 w3.G (δL (i + 1)), ?_, fun x H' y => ?_⟩
    · rintro σ3 H3 ⟨w3, e, h1, h2⟩
      exact ⟨n - (i + 1), by omega, w3, e, rfl, h1, h2⟩
    · obtain ⟨rfl, dx⟩ := yl i hlt w2 l2.g x H' y
      refine hg i hlt w2 σ2 x e2 dx _ fun σ3 e3 off => ?_
      have h := hb i hlt w2 σ3 e3 i2 { D with nx := fun σ3 H3 => ∃ w3 : Wd A, w3.H = H3 ∧ i + 1 ≤ n ∧ Le w1 w3 ∧ A.inv (st (i + 1)) w3.G w3.H ∧ EnvD X.K σ3 w3.G (δL (i + 1)), ct := fun σ3 H3 => ∃ w3 : Wd A, w3.H = H3 ∧ i + 1 ≤ n ∧ Le w1 w3 ∧ A.inv (st (i + 1)) w3.G w3.H ∧ EnvD X.K σ3 w3.G (δL (i + 1)), bk := wpS X rest { D with nx := wpBs X bs D } }
        (fun σ4 w4 l4 i4 e4 => ⟨w4, rfl, hlt, l2.trans l4, i4, e4.weak (he i hlt)⟩)
      exact h
  · have e : i = n := by omega
    subst e
    exact .inl ⟨stp w2 l2.g, r w2 σ2 e2 i2 D (q.le (l1.trans l2))⟩
end
/-! ### _law_alike of a value and itself -/
def nice : Nat → PyData → Bool
  | _, .int _ => true
  | _, .str x => SeqAt.shaped (.str x)
  | n + 1, .tuple xs => decide (xs.length ≤ 1000) && xs.all (nice n)
  | _, _ => false
section
variable {P : Program} {w : World} {K : Fg} {mg : Str → Option Value} {base : Heap}
abbrev N46 : List Str := ["_law_found", "_law_due", "_law_k"]
theorem sc46 : FnScope N46 ["_law_found", "_law_due"] (defScope (top 46)) := ⟨rfl, rfl, rfl, by decide +kernel, rfl, by decide +kernel, by decide +kernel⟩
def rAlike (n : Nat) : List Sl → Res → Prop := fun cs r => ∃ d, nice n d = true ∧ cs = [.d d, .d d] ∧ r = .val (.d (.bool true))
abbrev DAlike (P : Program) (w : World) (K : Fg) (mg : Str → Option Value) (base : Heap) (n : Nat) : Prop := Dfn P w K mg base (n + 1) "_law_alike" ["_law_found", "_law_due"] (spR K (rAlike n))
theorem f_alike0 {n : Nat} (N : Nms mg) (F : Df K mg "_law_alike" (top 46) ["_law_found", "_law_due"]) (G : ∀ m, n = m + 1 → DAlike P w K mg base m) : DAlike P w K mg base n := by
  refine dfn_of F sc46 ?_ ?_
  · rintro cs r ⟨_, _, rfl, _⟩; rfl
  · rintro f cdv B outer s H E cs r hr ⟨d, hd, rfl, rfl⟩ tk
    have nd := sc46.nd
    cases d with
    | int i =>
      refine db_if (z := false) (DT.eq (dt_val (de_isi2 N (de_var 1) N.tuple boot_tuple (.inr (.inr (.inr (.inl rfl)))) N.list (by decide +kernel) (.inr (.inr (.inr (.inr rfl)))))) (by rfl)) (fun h => by cases h) (fun _ => db_pop ?_)
      refine db_if (z := false) (DT.eq (dt_or (dt_isN (de_var 1) de_non) fun _ => dw_or1 (dt_val (de_isi N (de_var 1) N.str (by decide +kernel) (.inr (.inr (.inl rfl)))))) (by rfl)) (fun h => by cases h) (fun _ => db_pop ?_)
      exact db_eq (db_ret (de_and (de_isi N (de_var 0) N.int boot_int (.inl rfl)) fun _ => de_and (DE.eq (de_eq hr (de_isi N (de_var 0) N.bool boot_bool (.inr (.inl rfl))) (de_isi N (de_var 1) N.bool boot_bool (.inr (.inl rfl))) (by rfl) (by rfl)) (c' := .d (.bool true)) (bq (by rfl))) fun _ => de_one (DE.eq (de_eqI hr (de_var 0) (de_var 1)) (c' := .d (.bool true)) (bq (by simp))))) rfl
    | str x =>
      have hx : SeqAt.shaped (.str x) = true := by cases n <;> exact hd
      refine db_if (z := false) (DT.eq (dt_val (de_isi2 N (de_var 1) N.tuple boot_tuple (.inr (.inr (.inr (.inl rfl)))) N.list (by decide +kernel) (.inr (.inr (.inr (.inr rfl)))))) (by rfl)) (fun h => by cases h) (fun _ => db_pop ?_)
      refine db_if (z := true) (DT.eq (dt_or (dt_isN (de_var 1) de_non) fun _ => dw_or1 (dt_val (de_isi N (de_var 1) N.str (by decide +kernel) (.inr (.inr (.inl rfl)))))) (by rfl)) (fun _ => ?_) (fun h => by cases h)
      exact db_eq (db_ret (de_and (DE.eq (de_eq hr (de_var 0) (de_var 1) hx hx) (c' := .d (.bool true)) (bq (by rw [eqv_str]; simp))) fun _ => de_one (DE.eq (de_eq hr (de_isi N (de_var 0) N.str (by decide +kernel) (.inr (.inr (.inl rfl)))) (de_isi N (de_var 1) N.str (by decide +kernel) (.inr (.inr (.inl rfl)))) (by rfl) (by rfl)) (c' := .d (.bool true)) (bq (by rfl))))) rfl
    | tuple xs =>
      cases n with
      | zero => cases hd
      | succ m =>
        have hd : (decide (xs.length ≤ 1000) && xs.all (nice m)) = true := hd
        rw [Bool.and_eq_true, decide_eq_true_eq] at hd
        refine db_if (z := true) (DT.eq (dt_val (de_isi2 N (de_var 1) N.tuple boot_tuple (.inr (.inr (.inr (.inl rfl)))) N.list (by decide +kernel) (.inr (.inr (.inr (.inr rfl)))))) (by rfl)) (fun _ => ?_) (fun h => by cases h)
        refine db_if (z := false) (DT.eq (dt_or (dt_not (dt_val (de_isi2 N (de_var 0) N.tuple boot_tuple (.inr (.inr (.inr (.inl rfl)))) N.list (by decide +kernel) (.inr (.inr (.inr (.inr rfl))))))) fun _ => dw_or1 (dt_ne hr (de_isi N (de_var 0) N.list (by decide +kernel) (.inr (.inr (.inr (.inr rfl))))) (de_isi N (de_var 1) N.list (by decide +kernel) (.inr (.inr (.inr (.inr rfl))))) (by rfl) (by rfl))) (by rfl)) (fun h => by cases h) (fun _ => db_pop ?_)
        refine db_if (z := false) (DT.eq (dt_ne hr (de_len N (de_var 0)) (de_len N (de_var 1)) (by rfl) (by rfl)) (by
          show (!decide ((xs.length : Int) = (xs.length : Int))) = false
          simp)) (fun h => by cases h) (fun _ => db_pop ?_)
        refine db_eq (db_ret (de_eq hr (DE.eq (c' := .d (.list [])) (de_lcN (j := 2) (n := xs.length) (item := fun i => .d (.int i)) (f := fun _ => false) (g := fun i => .int i) rfl nd (blkOk_by (N := N46) (sc := defScope (top 46)) (by decide +kernel)) (DI.eq (di_rng1 N (de_len N (de_var 1)) (by omega)) (by omega) (fun _ _ => rfl)) (by omega) (fun i hi sh H C cl fp => ?_) (fun i hi hf => by cases hf)) ?_) (de_lst (ds := []) da_nil) (by rfl) (by rfl))) rfl
        · exact dts_one (DT.eq (dt_not (dt_val (de_call (G m rfl) hr (da_cons (de_ix (de_var 0) (de_var 2) (atI_get2 hi)) (da_cons (de_ix (de_var 1) (de_var 2) (atI_get2 hi)) da_nil)) ⟨_, List.all_eq_true.mp hd.2 _ (getD_in hi), rfl, rfl⟩))) rfl)
        · unfold outs
          rw [List.filter_eq_nil_iff.mpr (fun _ _ => by decide)]
          rfl
    | none => cases n <;> cases hd
    | bool b => cases n <;> cases hd
    | list b => cases n <;> cases hd
    | dict b => cases n <;> cases hd
theorem f_alike (N : Nms mg) (F : Df K mg "_law_alike" (top 46) ["_law_found", "_law_due"]) : ∀ n, DAlike P w K mg base n
  | 0 => f_alike0 N F fun _ e => nomatch e
  | n + 1 => f_alike0 N F fun m e => by
    cases e
    exact f_alike N F n
end
end Kp
end
section
set_option Elab.async false
set_option linter.all false
set_option maxRecDepth 100000
set_option maxHeartbeats 4000000
namespace Kp
open PySem PySem.Spec PyProof.Rows L2
/-! ### the law's dict of places -/
def lnm : List (List Str) := [[S "set", S "made", S "written"], [S "sum", S "used", S "made", S "written"], [S "mul", S "used", S "made", S "written"], [S "load", S "used", S "made", S "written"],
  [S "store", S "used a", S "used b", S "put"], [S "zero", S "used", S "decided"], [S "go", S "decided"], [S "out", S "used", S "shown"]]
def cnt (k : Nat) : Nat := (lnm.getD k []).length - 1
def lw (k j : Nat) : Str := (lnm.getD k []).getD j (S "")
def lkey (k j : Nat) : List Key := [.inr (lw k 0), .inr (lw k (j + 1))]
def lkeys (k j : Nat) : List (List Key) := ((List.range k).flatMap fun k => (List.range (cnt k)).map (lkey k)) ++ (List.range j).map (lkey k)
theorem lkeys_new : ∀ k ∈ List.range 8, ∀ j ∈ List.range (cnt k), (lkeys k j).any (fun x => decide (x = lkey k j)) = false := by decide +kernel
def spE (D : Dsg) (k j : Nat) : List Key × V := (lkey k j, .int ((D.rows.getD k []).getD j 0))
def spTo (D : Dsg) (k j : Nat) : List (List Key × V) := ((List.range k).flatMap fun k => (List.range (cnt k)).map (spE D k)) ++ (List.range j).map (spE D k)
def spots (D : Dsg) : List (List Key × V) := spTo D 8 0
theorem spTo_keys (D : Dsg) (k j : Nat) : (spTo D k j).map (·.1) = lkeys k j := by
  unfold spTo lkeys
  rw [List.map_append, List.map_flatMap, List.map_map]
  congr 1
  congr 1
  funext k
  rw [List.map_map]
  rfl
theorem spTo_put {D : Dsg} {k j : Nat} (hk : k < 8) (hj : j < cnt k) (v : V) : putK (spTo D k j) (lkey k j) v = spTo D k j ++ [(lkey k j, v)] := by
  unfold putK
  have e : ((spTo D k j).any fun kv => decide (kv.1 = lkey k j)) = (lkeys k j).any (fun x => decide (x = lkey k j)) := by rw [← spTo_keys D, List.any_map]; rfl
  rw [e, lkeys_new k (List.mem_range.mpr hk) j (List.mem_range.mpr hj), if_neg (by decide)]
theorem spTo_next (D : Dsg) (k j : Nat) : spTo D k (j + 1) = spTo D k j ++ [spE D k j] := by
  unfold spTo
  rw [List.range_succ, List.map_append, ← List.append_assoc]
  rfl
theorem spTo_full (D : Dsg) (k : Nat) : spTo D (k + 1) 0 = spTo D k (cnt k) := by
  unfold spTo
  rw [List.range_succ, List.flatMap_append]
  simp
theorem spTo_len (D : Dsg) (k j : Nat) (hk : k ≤ 8) (hj : j ≤ 3) : (spTo D k j).length ≤ 40 := by
  have h : ∀ k ∈ List.range 9, ∀ j ∈ List.range 4, (lkeys k j).length ≤ 40 := by decide +kernel
  rw [← List.length_map (f := (·.1)), spTo_keys]
  exact h k (List.mem_range.mpr (by omega)) j (List.mem_range.mpr (by omega))
theorem cnt_le {k : Nat} (h : k < 8) : cnt k ≤ 3 := (by decide +kernel : ∀ k ∈ List.range 8, cnt k ≤ 3) k (List.mem_range.mpr h)
theorem rows_cnt (D : Dsg) {k : Nat} (h : k < 8) : (D.rows.getD k []).length = cnt k := by
  match k, h with
  | 0, _ => rfl
  | 1, _ => rfl
  | 2, _ => rfl
  | 3, _ => rfl
  | 4, _ => rfl
  | 5, _ => rfl
  | 6, _ => rfl
  | 7, _ => rfl
theorem lnm_len {k : Nat} (h : k < 8) : (lnm.getD k []).length = cnt k + 1 := (by decide +kernel : ∀ k ∈ List.range 8, (lnm.getD k []).length = cnt k + 1) k (List.mem_range.mpr h)
/-- what is asked of the dict -/
def qsL : List (Str × Str) := [(S "set", S "written"), (S "sum", S "written"), (S "mul", S "written"), (S "load", S "written"), (S "set", S "made"), (S "sum", S "made"), (S "mul", S "made"), (S "load", S "made"), (S "sum", S "used"), (S "mul", S "used"), (S "load", S "used"),
  (S "store", S "used a"), (S "store", S "used b"), (S "zero", S "used"), (S "out", S "used"), (S "store", S "put"), (S "out", S "shown"), (S "zero", S "decided"), (S "go", S "decided")]
theorem sp_up (D : Dsg) (k : Nat) : ∀ m j, j + m = cnt k → ∃ r, spTo D k (cnt k) = spTo D k j ++ r
  | 0, j, h => ⟨[], by rw [← h, Nat.add_zero, List.append_nil]⟩
  | m + 1, j, h => by
    obtain ⟨r, e⟩ := sp_up D k m (j + 1) (by omega)
    exact ⟨spE D k j :: r, by rw [e, spTo_next, List.append_assoc]; rfl⟩
theorem sp_top (D : Dsg) : ∀ m k, k + m = 8 → ∃ r, spots D = spTo D k 0 ++ r
  | 0, k, h => ⟨[], by
    have : k = 8 := by omega
    rw [this, List.append_nil]; rfl⟩
  | m + 1, k, h => by
    obtain ⟨r, e⟩ := sp_top D m (k + 1) (by omega)
    obtain ⟨r2, e2⟩ := sp_up D k (cnt k) 0 (by omega)
    exact ⟨r2 ++ r, by rw [e, spTo_full, e2, List.append_assoc]⟩
theorem sp_at (D : Dsg) {k j : Nat} (hk : k < 8) (hj : j < cnt k) : valV (spots D) (lkey k j) = some (.int ((D.rows.getD k []).getD j 0)) := by
  obtain ⟨r, e⟩ := sp_top D (8 - (k + 1)) (k + 1) (by omega)
  obtain ⟨r2, e2⟩ := sp_up D k (cnt k - (j + 1)) (j + 1) (by omega)
  rw [e, spTo_full, e2, spTo_next, List.append_assoc, List.append_assoc]
  unfold valV
  have n : ((spTo D k j).find? fun kv => decide (kv.1 = lkey k j)) = none := by
    rw [List.find?_eq_none]
    intro kv m h
    have := lkeys_new k (List.mem_range.mpr hk) j (List.mem_range.mpr hj)
    rw [← spTo_keys D, List.any_eq_false] at this
    exact this _ (List.mem_map_of_mem m) h
  rw [List.find?_append, n, List.singleton_append, List.find?_cons_of_pos (by exact decide_eq_true rfl)]
  rfl
theorem qs_at : ∀ q ∈ qsL, ∃ k ∈ List.range 8, ∃ j ∈ List.range (cnt k), lkey k j = [.inr q.1, .inr q.2] ∧ plI q.1 q.2 = (k, j) := by decide +kernel
theorem sp_get (D : Dsg) (q : Str × Str) (h : q ∈ qsL) : valV (spots D) [.inr q.1, .inr q.2] = some (.int (D.pla q.1 q.2)) := by
  obtain ⟨k, hk, j, hj, e1, e2⟩ := qs_at q h
  rw [← e1, sp_at D (List.mem_range.mp hk) (List.mem_range.mp hj)]
  unfold Dsg.pla
  rw [e2]
section
variable {P : Program} {w : World} {K : Fg} {mg : Str → Option Value} {base : Heap}
abbrev N49 : List Str := ["_law_design_here", "_law_names", "_law_found", "_law_k", "_law_j"]
theorem sc49 : FnScope N49 ["_law_design_here"] (defScope (top 49)) := ⟨rfl, rfl, rfl, by decide +kernel, rfl, by decide +kernel, by decide +kernel⟩
def rPlaces : List Sl → Res → Prop := fun cs r => ∃ D : Dsg, cs = [.d D.enc] ∧ r = .val (.t (spots D))
abbrev DPlaces (P : Program) (w : World) (K : Fg) (mg : Str → Option Value) (base : Heap) : Prop := Dfn P w K mg base 1 "_law_places" ["_law_design_here"] (spR K rPlaces)
theorem f_places (N : Nms mg) (F : Df K mg "_law_places" (top 49) ["_law_design_here"]) : DPlaces P w K mg base := by
  refine dfn_of F sc49 ?_ ?_
  · rintro cs r ⟨_, rfl, _⟩; rfl
  · rintro f cdv B outer s H E cs r hr ⟨D, rfl, rfl⟩ tk
    have nd := sc49.nd
    refine db_set (s1 := ()) (c := .d (.list [.tuple [.str (S "set"), .str (S "made"), .str (S "written")], .tuple [.str (S "sum"), .str (S "used"), .str (S "made"), .str (S "written")], .tuple [.str (S "mul"), .str (S "used"), .str (S "made"), .str (S "written")]])) 1 nd (de_lst (ds := [.tuple [.str (S "set"), .str (S "made"), .str (S "written")], .tuple [.str (S "sum"), .str (S "used"), .str (S "made"), .str (S "written")], .tuple [.str (S "mul"), .str (S "used"), .str (S "made"), .str (S "written")]]) (da_cons (de_tup (ds := [.str (S "set"), .str (S "made"), .str (S "written")]) (da_cons de_str (da_cons de_str (da_cons de_str da_nil)))) (da_cons (de_tup (ds := [.str (S "sum"), .str (S "used"), .str (S "made"), .str (S "written")]) (da_cons de_str (da_cons de_str (da_cons de_str (da_cons de_str da_nil))))) (da_cons (de_tup (ds := [.str (S "mul"), .str (S "used"), .str (S "made"), .str (S "written")]) (da_cons de_str (da_cons de_str (da_cons de_str (da_cons de_str da_nil))))) da_nil)))) ?_
    refine db_set (s1 := ()) (c := .d (.list [.tuple [.str (S "set"), .str (S "made"), .str (S "written")], .tuple [.str (S "sum"), .str (S "used"), .str (S "made"), .str (S "written")], .tuple [.str (S "mul"), .str (S "used"), .str (S "made"), .str (S "written")], .tuple [.str (S "load"), .str (S "used"), .str (S "made"), .str (S "written")], .tuple [.str (S "store"), .str (S "used a"), .str (S "used b"), .str (S "put")], .tuple [.str (S "zero"), .str (S "used"), .str (S "decided")]])) 1 nd (de_addL (x := [.tuple [.str (S "set"), .str (S "made"), .str (S "written")], .tuple [.str (S "sum"), .str (S "used"), .str (S "made"), .str (S "written")], .tuple [.str (S "mul"), .str (S "used"), .str (S "made"), .str (S "written")]]) (y := [.tuple [.str (S "load"), .str (S "used"), .str (S "made"), .str (S "written")], .tuple [.str (S "store"), .str (S "used a"), .str (S "used b"), .str (S "put")], .tuple [.str (S "zero"), .str (S "used"), .str (S "decided")]]) (de_var 1) (de_lst (ds := [.tuple [.str (S "load"), .str (S "used"), .str (S "made"), .str (S "written")], .tuple [.str (S "store"), .str (S "used a"), .str (S "used b"), .str (S "put")], .tuple [.str (S "zero"), .str (S "used"), .str (S "decided")]]) (da_cons (de_tup (ds := [.str (S "load"), .str (S "used"), .str (S "made"), .str (S "written")]) (da_cons de_str (da_cons de_str (da_cons de_str (da_cons de_str da_nil))))) (da_cons (de_tup (ds := [.str (S "store"), .str (S "used a"), .str (S "used b"), .str (S "put")]) (da_cons de_str (da_cons de_str (da_cons de_str (da_cons de_str da_nil))))) (da_cons (de_tup (ds := [.str (S "zero"), .str (S "used"), .str (S "decided")]) (da_cons de_str (da_cons de_str (da_cons de_str da_nil)))) da_nil)))) (Nat.le_of_ble_eq_true rfl)) ?_
    refine db_set (s1 := ()) (c := .d (.list (lnm.map strs_))) 1 nd (DE.eq (c := .d (.list [.tuple [.str (S "set"), .str (S "made"), .str (S "written")], .tuple [.str (S "sum"), .str (S "used"), .str (S "made"), .str (S "written")], .tuple [.str (S "mul"), .str (S "used"), .str (S "made"), .str (S "written")], .tuple [.str (S "load"), .str (S "used"), .str (S "made"), .str (S "written")], .tuple [.str (S "store"), .str (S "used a"), .str (S "used b"), .str (S "put")], .tuple [.str (S "zero"), .str (S "used"), .str (S "decided")], .tuple [.str (S "go"), .str (S "decided")], .tuple [.str (S "out"), .str (S "used"), .str (S "shown")]])) (de_addL (x := [.tuple [.str (S "set"), .str (S "made"), .str (S "written")], .tuple [.str (S "sum"), .str (S "used"), .str (S "made"), .str (S "written")], .tuple [.str (S "mul"), .str (S "used"), .str (S "made"), .str (S "written")], .tuple [.str (S "load"), .str (S "used"), .str (S "made"), .str (S "written")], .tuple [.str (S "store"), .str (S "used a"), .str (S "used b"), .str (S "put")], .tuple [.str (S "zero"), .str (S "used"), .str (S "decided")]]) (y := [.tuple [.str (S "go"), .str (S "decided")], .tuple [.str (S "out"), .str (S "used"), .str (S "shown")]]) (de_var 1) (de_lst (ds := [.tuple [.str (S "go"), .str (S "decided")], .tuple [.str (S "out"), .str (S "used"), .str (S "shown")]]) (da_cons (de_tup (ds := [.str (S "go"), .str (S "decided")]) (da_cons de_str (da_cons de_str da_nil))) (da_cons (de_tup (ds := [.str (S "out"), .str (S "used"), .str (S "shown")]) (da_cons de_str (da_cons de_str (da_cons de_str da_nil)))) da_nil))) (Nat.le_of_ble_eq_true rfl)) rfl) ?_
    refine db_mut (s1 := ()) (m := .m []) 2 nd df_dict fun Q hQ => ⟨_, OutUp.rtM (A := A0) (s := ()) (kvs := spots D), ?_⟩
    refine db_for (n := 8) (item := fun i => .d (.int i)) (ks := [3]) (δi := fun i => [some (.d D.enc), some (.d (.list (lnm.map strs_))), some (.r (.ref Q)), some (.d (.int i)), none]) (δL := [some (.d D.enc), some (.d (.list (lnm.map strs_))), some (.r (.ref Q)), none, none]) (st := fun k => ((), .m (spTo D k 0))) (δe := fun _ => [some (.d D.enc), some (.d (.list (lnm.map strs_))), some (.r (.ref Q)), none, none]) (passes_of rfl) rfl
      (di_rng1 N de_int (by decide)) (wk_keep (wk_keep (wk_keep (wk_drop (wk_drop (Wk.refl _)))))) (fun i hi => dg_name 3 nd) (fun k hk => ?_) (fun _ _ => Wk.refl _) ?_
    · rw [spTo_full]
      refine db_for (n := cnt k) (item := fun j => .d (.int j)) (ks := [4]) (δi := fun j => [some (.d D.enc), some (.d (.list (lnm.map strs_))), some (.r (.ref Q)), some (.d (.int k)), some (.d (.int j))]) (δL := [some (.d D.enc), some (.d (.list (lnm.map strs_))), some (.r (.ref Q)), some (.d (.int k)), none]) (st := fun j => ((), .m (spTo D k j))) (δe := fun _ => [some (.d D.enc), some (.d (.list (lnm.map strs_))), some (.r (.ref Q)), some (.d (.int k)), none]) (passes_of rfl) rfl
        (DI.eq (di_rng1 N (de_len (ds := (D.rows.getD k []).map .int) N (de_ix (de_ix (de_var 0) de_int) (de_var 3) (atI_map (d := []) hk))) (by rw [List.length_map, rows_cnt D hk]; have := cnt_le hk; omega)) (by rw [List.length_map, rows_cnt D hk]; omega) (fun _ _ => rfl)) (wk_keep (wk_keep (wk_keep (wk_keep (wk_drop (Wk.refl _)))))) (fun j hj => dg_name 4 nd) (fun j hj => ?_) (fun _ _ => Wk.refl _) ?_
      · have hj1 : j + 1 < (lnm.getD k []).length := by rw [lnm_len hk]; omega
        have hj0 : 0 < (lnm.getD k []).length := by rw [lnm_len hk]; omega
        have hjr : j < (D.rows.getD k []).length := by rw [rows_cnt D hk]; exact hj
        have hkl : k < lnm.length := hk
        have ep : spTo D k (j + 1) = putK (spTo D k j) [.inr (lw k 0), .inr (lw k (j + 1))] (.int ((D.rows.getD k []).getD j 0)) := by rw [spTo_next]; exact (spTo_put hk hj _).symm
        rw [ep]
        refine db_dput (Ln.top hQ) (s1 := ((), .m (spTo D k j))) (s2 := ((), .m (spTo D k j))) (s3 := ((), .m (spTo D k j))) (kvs := spTo D k j) (k1 := .inr (lw k 0)) (k2 := .inr (lw k (j + 1))) (d := .int ((D.rows.getD k []).getD j 0)) (v := .int ((D.rows.getD k []).getD j 0)) hr ?_ ?_ ?_ rfl rfl ?_ ?_
        · exact de_ix (ds := (D.rows.getD k []).map .int) (i := (j : Int)) (de_ix (ds := D.rows.map itup) (i := (k : Int)) (de_ix (de_var 0) de_int) (de_var 3) (atI_map (d := []) hk)) (de_var 4) (atI_map (d := 0) hjr)
        · exact de_var 2
        · exact da_cons (de_ix (ds := (lnm.getD k []).map .str) (i := ((0 : Nat) : Int)) (de_ixL (ds := lnm.map strs_) (i := (k : Int)) (de_var 1) (de_var 3) (atI_map (d := []) hkl)) de_int (atI_map (d := S "") hj0)) (da_cons (de_ix (ds := (lnm.getD k []).map .str) (i := ((j + 1 : Nat) : Int)) (de_ixL (ds := lnm.map strs_) (i := (k : Int)) (de_var 1) (de_var 3) (atI_map (d := []) hkl)) (DE.eq (c := .d (.int ((j : Int) + 1))) (de_add (de_var 4) de_int) (by congr 1)) (atI_map (d := S "") hj1)) da_nil)
        · have := spTo_len D k j (by omega) (by have := cnt_le hk; omega)
          omega
        · exact db_pop (db_nxw db_nil (wk_keep (wk_keep (wk_keep (wk_keep (wk_drop (Wk.refl _)))))))
      · exact db_pop (db_nxw db_nil (wk_keep (wk_keep (wk_keep (wk_drop (wk_drop (Wk.refl _)))))))
    · exact db_ret (de_var 2)
end
end Kp
end
section
set_option Elab.async false
set_option linter.all false
set_option maxRecDepth 100000
set_option maxHeartbeats 4000000
namespace Kp
open PySem PySem.Spec PyProof.Rows L2
/-! ### the law's own list of entries -/
def lOne (d : Int) (k : Str) : List Ent := (usersL.map fun u => .value k u d) ++ writingL.map fun l => .order k l d
def lWr (d : Int) (j : Str) : List Ent := effectsL.map fun e => .wrong j e d
def lAt (d : Int) : List Ent := writingL.flatMap (lOne d) ++ [.mem true d, .mem false d] ++ jumpsL.flatMap (lWr d)
def lAll (n : Nat) : List Ent := (List.range n).flatMap fun (i : Nat) => lAt (1 + (i : Int))
theorem flat_app {α β : Type} (f g : α → List β) : ∀ l : List α, (l.flatMap fun x => f x ++ g x).Perm (l.flatMap f ++ l.flatMap g)
  | [] => List.Perm.refl _
  | a :: l => by
    rw [List.flatMap_cons, List.flatMap_cons, List.flatMap_cons, List.append_assoc, List.append_assoc]
    refine List.Perm.append_left _ ?_
    refine ((flat_app f g l).append_left _).trans ?_
    rw [← List.append_assoc, ← List.append_assoc]
    exact List.Perm.append_right _ List.perm_append_comm
theorem flat_congr {α β : Type} {f g : α → List β} (h : ∀ x, (f x).Perm (g x)) : ∀ l : List α, (l.flatMap f).Perm (l.flatMap g)
  | [] => List.Perm.refl _
  | a :: l => by
    rw [List.flatMap_cons, List.flatMap_cons]
    exact (h a).append (flat_congr h l)
theorem lAt_perm (d : Int) : (lAt d).Perm (entL d) := by
  unfold lAt entL
  refine List.Perm.append_right _ (List.Perm.append_right _ ?_)
  exact flat_app (fun k => usersL.map fun u => Ent.value k u d) (fun k => writingL.map fun l => Ent.order k l d) writingL
theorem lAll_perm : (lAll 7).Perm allL := flat_congr (fun _ => lAt_perm _) _
theorem lAt_len (d : Int) : (lAt d).length = 58 := by rfl
theorem lAll_len (n : Nat) : (lAll n).length = 58 * n := by
  unfold lAll
  induction n with
  | zero => rfl
  | succ n ih =>
    rw [List.range_succ, List.flatMap_append, List.length_append, ih]
    simp only [List.flatMap_cons, List.flatMap_nil, List.append_nil, lAt_len]
    omega
theorem lAll_next (n : Nat) : lAll (n + 1) = lAll n ++ lAt (1 + (n : Int)) := by
  unfold lAll
  rw [List.range_succ, List.flatMap_append]
  simp
def takeF {α β : Type} (f : α → List β) (l : List α) (i : Nat) : List β := (l.take i).flatMap f
theorem takeF_next {α β : Type} (f : α → List β) {l : List α} {i : Nat} {d : α} (h : i < l.length) : takeF f l (i + 1) = takeF f l i ++ f (l.getD i d) := by
  unfold takeF
  rw [List.take_succ, List.getElem?_eq_getElem h, List.flatMap_append, getD_at h]
  simp
theorem takeF_all {α β : Type} (f : α → List β) (l : List α) : takeF f l l.length = l.flatMap f := by unfold takeF; rw [List.take_length]
theorem takeF_len (d : Int) (i : Nat) (h : i ≤ 4) : (takeF (lOne d) writingL i).length ≤ 100 := by
  match i, h with
  | 0, _ => exact Nat.zero_le _
  | 1, _ => exact Nat.le_of_ble_eq_true rfl
  | 2, _ => exact Nat.le_of_ble_eq_true rfl
  | 3, _ => exact Nat.le_of_ble_eq_true rfl
  | 4, _ => exact Nat.le_of_ble_eq_true rfl
theorem takeW_len (d : Int) (i : Nat) (h : i ≤ 2) : (takeF (lWr d) jumpsL i).length ≤ 100 := by
  match i, h with
  | 0, _ => exact Nat.zero_le _
  | 1, _ => exact Nat.le_of_ble_eq_true rfl
  | 2, _ => exact Nat.le_of_ble_eq_true rfl
/-- a list of data that are the entries xs -/
abbrev eD (xs : List Ent) : PyData := .list (xs.map Ent.enc)
theorem eD_app (xs ys : List Ent) : PyData.list (xs.map Ent.enc ++ ys.map Ent.enc) = eD (xs ++ ys) := by rw [← List.map_append]
section
variable {P : Program} {w : World} {K : Fg} {mg : Str → Option Value} {base : Heap}
abbrev N50 : List Str := ["_law_makers", "_law_found", "_law_users", "_law_d", "_law_one", "_law_other", "_law_role"]
theorem sc50 : FnScope N50 [] (defScope (top 50)) := ⟨rfl, rfl, rfl, by decide +kernel, rfl, by decide +kernel, by decide +kernel⟩
def rEntries : List Sl → Res → Prop := fun cs r => cs = [] ∧ r = .val (.d (eD allS))
abbrev DEntries (P : Program) (w : World) (K : Fg) (mg : Str → Option Value) (base : Heap) : Prop := Dfn P w K mg base 1 "_law_entries" [] (spR K rEntries)
theorem f_entries (N : Nms mg) (F : Df K mg "_law_entries" (top 50) []) : DEntries P w K mg base := by
  refine dfn_of F sc50 ?_ ?_
  · rintro cs r ⟨rfl, _⟩; rfl
  · rintro f cdv B outer s H E cs r hr ⟨rfl, rfl⟩ tk
    have nd := sc50.nd
    have d2 : ∀ {a b : Str}, pairS (a, b) = .tuple [.str a, .str b] := rfl
    refine db_par (s1 := ()) (c := .d (.list (writingL.map .str))) (c' := .d (eD [])) 0 1 rfl nd (da_cons (s1 := ()) (de_lst (ds := [.str (S "set"), .str (S "sum"), .str (S "mul"), .str (S "load")]) (da_cons de_str (da_cons de_str (da_cons de_str (da_cons de_str da_nil))))) (da_cons (de_lst (ds := []) da_nil) da_nil)) ?_
    refine db_set (s1 := ()) (c := .d (.list (usersL.map pairS))) 2 nd ?_ ?_
    · refine de_lst (ds := usersL.map pairS) ?_
      exact da_cons (de_tup (ds := [.str (S "sum"), .str (S "a")]) (da_cons de_str (da_cons de_str da_nil))) (da_cons (de_tup (ds := [.str (S "mul"), .str (S "a")]) (da_cons de_str (da_cons de_str da_nil))) (da_cons (de_tup (ds := [.str (S "load"), .str (S "a")]) (da_cons de_str (da_cons de_str da_nil))) (da_cons (de_tup (ds := [.str (S "store"), .str (S "a")]) (da_cons de_str (da_cons de_str da_nil)))
        (da_cons (de_tup (ds := [.str (S "store"), .str (S "b")]) (da_cons de_str (da_cons de_str da_nil))) (da_cons (de_tup (ds := [.str (S "zero"), .str (S "a")]) (da_cons de_str (da_cons de_str da_nil))) (da_cons (de_tup (ds := [.str (S "out"), .str (S "a")]) (da_cons de_str (da_cons de_str da_nil))) da_nil))))))
    let δM : List Ent → Option Sl → Dl := fun xs o => [some (.d (.list (writingL.map .str))), some (.d (eD xs)), some (.d (.list (usersL.map pairS))), o, none, none, none]
    let δN : List Ent → Int → Str → Dl := fun xs d k => [some (.d (.list (writingL.map .str))), some (.d (eD xs)), some (.d (.list (usersL.map pairS))), some (.d (.int d)), some (.d (.str k)), none, none]
    refine db_forV (n := 7) (item := fun i => .d (.int (1 + (i : Int)))) (ks := [3]) (δL := fun i => δM (lAll i) none) (δi := fun i => δM (lAll i) (some (.d (.int (1 + (i : Int)))))) (δe := fun i => δM (lAll (i + 1)) none) (st := fun _ => ()) (passes_of rfl) rfl (DI.eq (di_rng2 N de_int de_int (by decide)) (by rfl) (fun _ _ => rfl)) (Wk.refl _) (fun i hi => dg_name 3 nd) (fun i hi => ?_) (fun i hi => Wk.refl _) ?_
    · have hl := lAll_len i
      have l58 := lAt_len (1 + (i : Int))
      rw [lAll_next]
      generalize hd : (1 + (i : Int)) = d at l58 ⊢
      generalize lAll i = base0 at hl ⊢
      have hb : base0.length ≤ 500 := by omega
      -- the makers
      refine db_forV (n := writingL.length) (item := fun j => .d (.str (sG writingL j))) (ks := [4]) (δL := fun j => δM (base0 ++ takeF (lOne d) writingL j) (some (.d (.int d)))) (δi := fun j => δN (base0 ++ takeF (lOne d) writingL j) d (sG writingL j)) (δe := fun j => δN (base0 ++ takeF (lOne d) writingL (j + 1)) d (sG writingL j)) (st := fun _ => ()) (passes_of rfl) rfl (di_listM (l := writingL) .str (S "") (de_var 0))
        ?_ (fun j hj => dg_name 4 nd) (fun j hj => ?_) (fun j hj => wk_keep (wk_keep (wk_keep (wk_keep (wk_drop (Wk.refl _)))))) ?_
      · rw [show takeF (lOne d) writingL 0 = [] from rfl, List.append_nil]
        exact Wk.refl _
      · have e : base0 ++ takeF (lOne d) writingL (j + 1) = (base0 ++ takeF (lOne d) writingL j ++ usersL.map fun u => .value (sG writingL j) u d) ++ writingL.map fun l => .order (sG writingL j) l d := by
          rw [takeF_next (d := S "") (lOne d) hj, List.append_assoc, List.append_assoc]
          rfl
        rw [e]
        have ht := takeF_len d j (Nat.le_of_lt hj)
        generalize takeF (lOne d) writingL j = t0 at ht ⊢
        generalize sG writingL j = k
        have hbt : (base0 ++ t0).length ≤ 600 := by rw [List.length_append]; omega
        generalize base0 ++ t0 = b1 at hbt ⊢
        refine db_set (s1 := ()) (c := .d (eD (b1 ++ usersL.map fun u => .value k u d))) 1 nd (DE.eq (de_addL (x := b1.map Ent.enc) (y := (usersL.map fun u => Ent.value k u d).map Ent.enc) (de_var 1) ?_ ?_) (by rw [eD_app])) ?_
        · refine DE.eq (c := .d (.list (outs usersL.length (fun _ => true) fun i => (Ent.value k (uG i) d).enc))) (de_lc (n := usersL.length) (item := fun i => .d (pairS (uG i))) (ks := [5, 6]) (f := fun _ => true) (g := fun i => (Ent.value k (uG i) d).enc) (δi := fun i => [some (.d (.list (writingL.map .str))), some (.d (eD b1)), some (.d (.list (usersL.map pairS))), some (.d (.int d)), some (.d (.str k)), some (.d (.str (uG i).1)), some (.d (.str (uG i).2))]) rfl nd (di_listM (l := usersL) pairS (S "", S "") (de_var 2)) (blkOk_by (N := N50) (sc := defScope (top 50)) (own := [("_law_other", 5), ("_law_role", 6)]) (by decide +kernel)) (by decide) (by decide)
            (fun i hi sh H C cl fp => dg_tup (ds := [.str (uG i).1, .str (uG i).2]) rfl (dgs_cons (dg_name 5 nd) (dgs_cons (dg_name 6 nd) dgs_nil))) (fun i hi sh H C cl fp => dts_nil) (fun i hi _ sh H C cl fp => de_tup (ds := [.str (S "value"), .str k, .str (uG i).1, .str (uG i).2, .int d]) (da_cons de_str (da_cons (de_var 4) (da_cons (de_var 5) (da_cons (de_var 6) (da_cons (de_var 3) da_nil))))))) ?_
          rw [outs_all]
          rfl
        · rw [List.length_map, List.length_map, List.length_map]; have : usersL.length = 7 := rfl; omega
        · refine db_set (s1 := ()) (c := .d (eD ((b1 ++ usersL.map fun u => .value k u d) ++ writingL.map fun l => .order k l d))) 1 nd (DE.eq (de_addL (x := (b1 ++ usersL.map fun u => Ent.value k u d).map Ent.enc) (y := (writingL.map fun l => Ent.order k l d).map Ent.enc) (de_var 1) ?_ ?_) (by rw [eD_app])) ?_
          · refine DE.eq (c := .d (.list (outs writingL.length (fun _ => true) fun i => (Ent.order k (sG writingL i) d).enc))) (de_lcN (j := 5) (n := writingL.length) (item := fun i => .d (.str (sG writingL i))) (f := fun _ => true) (g := fun i => (Ent.order k (sG writingL i) d).enc) rfl nd (blkOk_by (N := N50) (sc := defScope (top 50)) (by decide +kernel)) (di_listM (l := writingL) .str (S "") (de_var 0)) (by decide) (fun i hi sh H C cl fp => dts_nil)
              (fun i hi _ sh H C cl fp => de_tup (ds := [.str (S "order"), .str k, .str (sG writingL i), .int d]) (da_cons de_str (da_cons (de_var 4) (da_cons (de_var 5) (da_cons (de_var 3) da_nil)))))) ?_
            rw [outs_all]
            rfl
          · rw [List.length_map, List.length_append, List.length_map, List.length_map, List.length_map]; have h7 : usersL.length = 7 := rfl; have h4 : writingL.length = 4 := rfl; omega
          · exact db_pop db_nil
      · rw [takeF_all]
        have hm : (base0 ++ writingL.flatMap (lOne d)).length ≤ 700 := by
          rw [List.length_append, ← takeF_all]
          have := takeF_len d 4 (by decide)
          exact Nat.le_trans (Nat.add_le_add hb this) (by decide)
        have e1 : base0 ++ lAt d = (base0 ++ writingL.flatMap (lOne d) ++ [.mem true d, .mem false d]) ++ jumpsL.flatMap (lWr d) := by
          unfold lAt
          simp only [List.append_assoc]
        rw [e1]
        generalize base0 ++ writingL.flatMap (lOne d) = b1 at hm ⊢
        refine db_set (s1 := ()) (c := .d (eD (b1 ++ [.mem true d, .mem false d]))) 1 nd (DE.eq (de_addL (x := b1.map Ent.enc) (y := [(Ent.mem true d).enc, (Ent.mem false d).enc]) (de_var 1) ?_ ?_) ?_) ?_
        · exact de_lst (ds := [(Ent.mem true d).enc, (Ent.mem false d).enc]) (da_cons (de_tup (ds := [.str (S "memory"), .str (S "store"), .str (S "load"), .int d]) (da_cons de_str (da_cons de_str (da_cons de_str (da_cons (de_var 3) da_nil))))) (da_cons (de_tup (ds := [.str (S "memory"), .str (S "load"), .str (S "store"), .int d]) (da_cons de_str (da_cons de_str (da_cons de_str (da_cons (de_var 3) da_nil))))) da_nil))
        · rw [List.length_map]
          exact Nat.le_trans (Nat.add_le_add_right hm 2) (by decide)
        · exact congrArg Sl.d (eD_app b1 [.mem true d, .mem false d])
        have hm2 : (b1 ++ [Ent.mem true d, Ent.mem false d]).length ≤ 702 := by rw [List.length_append]; exact Nat.add_le_add_right hm 2
        generalize b1 ++ [.mem true d, .mem false d] = b2 at hm2 ⊢
        refine db_forV (n := jumpsL.length) (item := fun j => .d (.str (sG jumpsL j))) (ks := [4]) (δL := fun j => δM (b2 ++ takeF (lWr d) jumpsL j) (some (.d (.int d)))) (δi := fun j => δN (b2 ++ takeF (lWr d) jumpsL j) d (sG jumpsL j)) (δe := fun j => δN (b2 ++ takeF (lWr d) jumpsL (j + 1)) d (sG jumpsL j)) (st := fun _ => ()) (passes_of rfl) rfl (di_listM (l := jumpsL) .str (S "") (de_lst (ds := [.str (S "zero"), .str (S "go")]) (da_cons de_str (da_cons de_str da_nil))))
          ?_ (fun j hj => dg_name 4 nd) (fun j hj => ?_) (fun j hj => wk_keep (wk_keep (wk_keep (wk_keep (wk_drop (Wk.refl _)))))) ?_
        · rw [show takeF (lWr d) jumpsL 0 = [] from rfl, List.append_nil]
          exact wk_keep (wk_keep (wk_keep (wk_keep (Wk.refl _))))
        · rw [takeF_next (d := S "") (lWr d) hj, ← List.append_assoc]
          have ht := takeW_len d j (Nat.le_of_lt hj)
          generalize takeF (lWr d) jumpsL j = t0 at ht ⊢
          have hbt : (b2 ++ t0).length ≤ 802 := by rw [List.length_append]; exact Nat.add_le_add hm2 ht
          generalize b2 ++ t0 = b3 at hbt ⊢
          show DB _ _ _ (δN b3 d (sG jumpsL j)) _ _ (.nx (δN (b3 ++ lWr d (sG jumpsL j)) d (sG jumpsL j)) ())
          generalize sG jumpsL j = k
          refine db_set (s1 := ()) (c := .d (eD (b3 ++ lWr d k))) 1 nd (DE.eq (de_addL (x := b3.map Ent.enc) (y := (lWr d k).map Ent.enc) (de_var 1) ?_ ?_) (by rw [eD_app])) ?_
          · refine DE.eq (c := .d (.list (outs effectsL.length (fun _ => true) fun i => (Ent.wrong k (sG effectsL i) d).enc))) (de_lcN (j := 5) (n := effectsL.length) (item := fun i => .d (.str (sG effectsL i))) (f := fun _ => true) (g := fun i => (Ent.wrong k (sG effectsL i) d).enc) rfl nd (blkOk_by (N := N50) (sc := defScope (top 50)) (by decide +kernel)) (di_listM (l := effectsL) .str (S "") (de_addL (x := writingL.map .str) (y := [.str (S "store"), .str (S "out")]) (de_var 0) (de_lst (ds := [.str (S "store"), .str (S "out")]) (da_cons de_str (da_cons de_str da_nil))) (Nat.le_of_ble_eq_true rfl))) (by decide) (fun i hi sh H C cl fp => dts_nil)
              (fun i hi _ sh H C cl fp => de_tup (ds := [.str (S "wrong"), .str k, .str (sG effectsL i), .int d]) (da_cons de_str (da_cons (de_var 4) (da_cons (de_var 5) (da_cons (de_var 3) da_nil)))))) ?_
            rw [outs_all]
            rfl
          · rw [List.length_map]
            exact Nat.le_trans (Nat.add_le_add_right hbt 6) (by decide)
          · exact db_pop db_nil
        · rw [takeF_all]
          exact db_pop (db_nxw db_nil (wk_keep (wk_keep (wk_keep (wk_drop (Wk.refl _))))))
    · have e := kys_enc allS
      show DB _ _ _ _ _ _ (.rt (.d (.list (allS.map Ent.enc))) ())
      rw [← e]
      refine db_ret (de_sortT (ks := (lAll 7).map Ent.ky) N (DE.eq (c := .d (eD (lAll 7))) (de_var 1) (by rw [kys_enc])) (nodup_map' ky_inj (lAll_perm.nodup_iff.mpr allL_nodup)) (fun q hq r hr => ?_) (.inr fun k hk => ?_) (sortU_asc Ent.ky ky_inj allL) (fun k => (sortU_mem Ent.ky ky_inj allL k).trans ((lAll_perm.map Ent.ky).mem_iff.symm)))
      · obtain ⟨a, _, rfl⟩ := List.mem_map.mp hq
        obtain ⟨b, _, rfl⟩ := List.mem_map.mp hr
        exact ky_cmp a b
      · obtain ⟨a, _, rfl⟩ := List.mem_map.mp hk
        exact ky_fst a
end
end Kp
end
section
set_option Elab.async false
set_option linter.all false
set_option maxRecDepth 100000
set_option maxHeartbeats 4000000
namespace Kp
open PySem PySem.Spec PyProof.Rows L2
theorem wr_q {k : Str} (h : writingL.contains k = true) : (k, S "written") ∈ qsL ∧ (k, S "made") ∈ qsL := (by decide +kernel : ∀ k ∈ writingL, (k, S "written") ∈ qsL ∧ (k, S "made") ∈ qsL) k (mem_c h)
theorem us_q {u : Str × Str} (h : usersL.contains u = true) : (u.1, usedW u.1 u.2) ∈ qsL := (by decide +kernel : ∀ u ∈ usersL, (u.1, usedW u.1 u.2) ∈ qsL) u (mem_c h)
theorem jm_q {j : Str} (h : jumpsL.contains j = true) : (j, S "decided") ∈ qsL := (by decide +kernel : ∀ j ∈ jumpsL, (j, S "decided") ∈ qsL) j (mem_c h)
section
variable {P : Program} {w : World} {K : Fg} {mg : Str → Option Value} {base : Heap}
theorem de_spot {A : Amb} {X : Cx} {δ : Dl} {s s1 s2 : A.S} {t a b : Expr} {D : Dsg} {k v : Str} {j k0 : Nat} {p2 pos : Pos} (hr : Room k0 X.A) (ht : DE A X δ s t (.t (spots D)) s1) (hk : DA A X δ s1 [a, b] [.d (.str k), .d (.str v)] s2) (hq : (k, v) ∈ qsL) : DE A X δ s (.Subscript t (.Tuple [a, b] j p2) pos) (.d (.int (D.pla k v))) s2 :=
  de_dget (k1 := .inr k) (k2 := .inr v) (v := .int (D.pla k v)) hr ht hk rfl (sp_get D (k, v) hq) (fun _ _ => rfl)
abbrev N51 : List Str := ["_law_design_here", "_law_spots", "_law_entry", "_law_same", "_law_d", "_law_one", "_law_other", "_law_used", "_law_late", "_law_fetched", "_law_put", "_law_effect"]
theorem sc51 : FnScope N51 ["_law_design_here", "_law_spots", "_law_entry"] (defScope (top 51)) := ⟨rfl, rfl, rfl, by decide +kernel, rfl, by decide +kernel, by decide +kernel⟩
def rLOpen : List Sl → Res → Prop := fun cs r => ∃ (D : Dsg) (e : Ent), e.okB = true ∧ cs = [.d D.enc, .t (spots D), .d e.enc] ∧ r = .val (.d (.bool (opn D e)))
abbrev DLOpen (P : Program) (w : World) (K : Fg) (mg : Str → Option Value) (base : Heap) : Prop := Dfn P w K mg base 1 "_law_is_open" ["_law_design_here", "_law_spots", "_law_entry"] (spR K rLOpen)
theorem late_eq (a b : Int) (m : Bool) : (decide (a < b) || (decide (a = b) && !m)) = !(decide (b < a) || (m && decide (a = b))) := by
  by_cases h1 : a < b <;> by_cases h2 : a = b <;> by_cases h3 : b < a <;> cases m <;> simp [h1, h2, h3] <;> omega
theorem f_lopen (N : Nms mg) (F : Df K mg "_law_is_open" (top 51) ["_law_design_here", "_law_spots", "_law_entry"]) : DLOpen P w K mg base := by
  refine dfn_of F sc51 ?_ ?_
  · rintro cs r ⟨_, _, _, rfl, _⟩; rfl
  · rintro f cdv B outer s H E cs r hr ⟨D, e, ok, rfl, rfl⟩ tk
    have nd := sc51.nd
    cases e with
    | value k u d =>
      obtain ⟨hk, hu, _, _⟩ := ent_ok ok
      refine db_asg (de_tup (ds := [.bool D.sm, .int d, .str k, .str u.1]) (da_cons (de_ix (de_var 0) de_int) (da_cons (de_ix (de_var 2) (de_neg de_int)) (da_cons (de_ix (de_var 2) de_int) (da_cons (de_ix (de_var 2) de_int) da_nil))))) (dg_tup rfl (dgs_cons (dg_name 3 nd) (dgs_cons (dg_name 4 nd) (dgs_cons (dg_name 5 nd) (dgs_cons (dg_name 6 nd) dgs_nil))))) ?_
      refine db_if (z := true) (DT.eq (dt_eq hr (de_ix (de_var 2) de_int) de_str (by decide +kernel) (by decide +kernel)) (by decide +kernel)) (fun _ => ?_) (fun h => by cases h)
      refine db_set (s1 := ()) (c := .d (.int (D.pla u.1 (usedW u.1 u.2)))) 7 nd (de_spot hr (de_var 1) (da_cons (de_var 6) (da_cons (c := .d (.str (usedW u.1 u.2))) (de_if (dt_eq hr (de_var 6) de_str (us_pl hu).2.1 (by decide +kernel)) (fun h => ?_) (fun h => ?_)) da_nil)) (us_q hu)) ?_
      · rw [eqv_str] at h
        have e : usedW u.1 u.2 = S "used " ++ u.2 := if_pos (by simpa [S] using h)
        rw [e]
        exact de_addS de_str (de_ix (de_var 2) de_int) (us_pl hu).2.2
      · rw [eqv_str] at h
        have e : usedW u.1 u.2 = S "used" := if_neg (by simpa [S] using h)
        rw [e]
        exact de_str
      let wr := D.pla k (S "written")
      let us := D.pla u.1 (usedW u.1 u.2)
      refine db_set (s1 := ()) (c := .d (.bool (decide (D.rd + d < D.pla k (S "written")) || (decide (D.rd + d = D.pla k (S "written")) && !D.sm)))) 8 nd (de_or (de_lt (de_add (de_ix (de_var 0) de_int) (de_var 4)) (de_spot hr (de_var 1) (da_cons (de_var 5) (da_cons de_str da_nil)) (wr_q hk).1)) fun _ => de_one (de_and (de_eqI hr (de_add (de_ix (de_var 0) de_int) (de_var 4)) (de_spot hr (de_var 1) (da_cons (de_var 5) (da_cons de_str da_nil)) (wr_q hk).1)) fun _ => de_one (de_not (de_var 3)))) ?_
      refine db_eq (db_ret (de_and (de_var 8) fun _ => de_one (de_not (de_and (de_isT hr (de_tup (ds := [.int (us + d), .int us]) (da_cons (de_add (de_var 7) (de_var 4)) (da_cons (de_var 7) da_nil))) (de_ix (de_var 0) de_int) (pth_shaped (_, _)) (pths_shaped D.ps)) fun _ => de_one (de_gt (de_add (de_var 7) (de_var 4)) (de_spot hr (de_var 1) (da_cons (de_var 5) (da_cons de_str da_nil)) (wr_q hk).2)))))) (bo ?_)
      show ((decide (D.rd + d < wr) || (decide (D.rd + d = wr) && !D.sm)) && !(((D.ps.map pth).any fun z => PyData.eqv z (pth (us + d, us))) && decide (D.pla k (S "made") < us + d))) = (!(decide (wr < D.rd + d) || (D.sm && decide (D.rd + d = wr))) && (!D.inP (us + d, us) || decide (us + d ≤ D.pla k (S "made"))))
      rw [any_pth, late_eq, Bool.not_and]
      congr 2
      by_cases h : D.pla k (S "made") < us + d
      · rw [decide_eq_true h, decide_eq_false (by omega)]; rfl
      · rw [decide_eq_false h, decide_eq_true (by omega)]; rfl
    | order k l d =>
      have ok : (writingL.contains k && (writingL.contains l && (decide (1 ≤ d) && decide (d ≤ 7)))) = true := ok
      simp only [Bool.and_eq_true] at ok
      refine db_asg (de_tup (ds := [.bool D.sm, .int d, .str k, .str l]) (da_cons (de_ix (de_var 0) de_int) (da_cons (de_ix (de_var 2) (de_neg de_int)) (da_cons (de_ix (de_var 2) de_int) (da_cons (de_ix (de_var 2) de_int) da_nil))))) (dg_tup rfl (dgs_cons (dg_name 3 nd) (dgs_cons (dg_name 4 nd) (dgs_cons (dg_name 5 nd) (dgs_cons (dg_name 6 nd) dgs_nil))))) ?_
      refine db_if (z := false) (DT.eq (dt_eq hr (de_ix (de_var 2) de_int) de_str (by decide +kernel) (by decide +kernel)) (by decide +kernel)) (fun h => by cases h) (fun _ => db_pop ?_)
      exact db_if (z := true) (DT.eq (dt_eq hr (de_ix (de_var 2) de_int) de_str (by decide +kernel) (by decide +kernel)) (by decide +kernel)) (fun _ => db_ret (de_lt (de_add (de_var 4) (de_spot hr (de_var 1) (da_cons (de_var 6) (da_cons de_str da_nil)) (wr_q ok.2.1).1)) (de_spot hr (de_var 1) (da_cons (de_var 5) (da_cons de_str da_nil)) (wr_q ok.1).1))) (fun h => by cases h)
    | mem b d =>
      have q1 : (S "load", S "made") ∈ qsL := by decide +kernel
      have q2 : (S "store", S "put") ∈ qsL := by decide +kernel
      have ef : D.pla (S "load") (S "made") = D.pla (S "load") (S "fetched") := by rfl
      cases b with
      | true =>
        refine db_asg (de_tup (ds := [.bool D.sm, .int d, .str (S "store"), .str (S "load")]) (da_cons (de_ix (de_var 0) de_int) (da_cons (de_ix (de_var 2) (de_neg de_int)) (da_cons (de_ix (de_var 2) de_int) (da_cons (de_ix (de_var 2) de_int) da_nil))))) (dg_tup rfl (dgs_cons (dg_name 3 nd) (dgs_cons (dg_name 4 nd) (dgs_cons (dg_name 5 nd) (dgs_cons (dg_name 6 nd) dgs_nil))))) ?_
        refine db_if (z := false) (DT.eq (dt_eq hr (de_ix (de_var 2) de_int) de_str (by decide +kernel) (by decide +kernel)) (by decide +kernel)) (fun h => by cases h) (fun _ => db_pop ?_)
        refine db_if (z := false) (DT.eq (dt_eq hr (de_ix (de_var 2) de_int) de_str (by decide +kernel) (by decide +kernel)) (by decide +kernel)) (fun h => by cases h) (fun _ => db_pop ?_)
        refine db_par (s1 := ()) (c := .d (.int (D.pla (S "load") (S "made")))) (c' := .d (.int (D.pla (S "store") (S "put")))) 9 10 rfl nd (da_cons (s1 := ()) (de_spot hr (de_var 1) (da_cons de_str (da_cons de_str da_nil)) q1) (da_cons (de_spot hr (de_var 1) (da_cons de_str (da_cons de_str da_nil)) q2) da_nil)) ?_
        refine db_if (z := true) (DT.eq (dt_eq hr (de_ix (de_var 2) de_int) de_str (by decide +kernel) (by decide +kernel)) (by decide +kernel)) (fun _ => ?_) (fun h => by cases h)
        refine db_if (z := true) (DT.eq (dt_eq hr (de_var 5) de_str (by decide +kernel) (by decide +kernel)) (by decide +kernel)) (fun _ => ?_) (fun h => by cases h)
        refine db_eq (db_ret (de_or (de_lt (de_add (de_var 9) (de_var 4)) (de_var 10)) fun _ => de_one (de_and (de_eqI hr (de_add (de_var 9) (de_var 4)) (de_var 10)) fun _ => de_one (de_not (de_var 3))))) (bo ?_)
        rw [ef, late_eq]
        rfl
      | false =>
        refine db_asg (de_tup (ds := [.bool D.sm, .int d, .str (S "load"), .str (S "store")]) (da_cons (de_ix (de_var 0) de_int) (da_cons (de_ix (de_var 2) (de_neg de_int)) (da_cons (de_ix (de_var 2) de_int) (da_cons (de_ix (de_var 2) de_int) da_nil))))) (dg_tup rfl (dgs_cons (dg_name 3 nd) (dgs_cons (dg_name 4 nd) (dgs_cons (dg_name 5 nd) (dgs_cons (dg_name 6 nd) dgs_nil))))) ?_
        refine db_if (z := false) (DT.eq (dt_eq hr (de_ix (de_var 2) de_int) de_str (by decide +kernel) (by decide +kernel)) (by decide +kernel)) (fun h => by cases h) (fun _ => db_pop ?_)
        refine db_if (z := false) (DT.eq (dt_eq hr (de_ix (de_var 2) de_int) de_str (by decide +kernel) (by decide +kernel)) (by decide +kernel)) (fun h => by cases h) (fun _ => db_pop ?_)
        refine db_par (s1 := ()) (c := .d (.int (D.pla (S "load") (S "made")))) (c' := .d (.int (D.pla (S "store") (S "put")))) 9 10 rfl nd (da_cons (s1 := ()) (de_spot hr (de_var 1) (da_cons de_str (da_cons de_str da_nil)) q1) (da_cons (de_spot hr (de_var 1) (da_cons de_str (da_cons de_str da_nil)) q2) da_nil)) ?_
        refine db_if (z := true) (DT.eq (dt_eq hr (de_ix (de_var 2) de_int) de_str (by decide +kernel) (by decide +kernel)) (by decide +kernel)) (fun _ => ?_) (fun h => by cases h)
        refine db_if (z := false) (DT.eq (dt_eq hr (de_var 5) de_str (by decide +kernel) (by decide +kernel)) (by decide +kernel)) (fun h => by cases h) (fun _ => db_pop ?_)
        refine db_eq (db_ret (de_or (de_lt (de_add (de_var 4) (de_var 10)) (de_var 9)) fun _ => de_one (de_and (de_eqI hr (de_add (de_var 4) (de_var 10)) (de_var 9)) fun _ => de_one (de_var 3)))) (bo ?_)
        rw [ef, Bool.and_comm (decide _) D.sm]
        rfl
    | wrong j x d =>
      have ok : (jumpsL.contains j && (effectsL.contains x && (decide (1 ≤ d) && decide (d ≤ 7)))) = true := ok
      simp only [Bool.and_eq_true] at ok
      have q1 : (S "load", S "made") ∈ qsL := by decide +kernel
      have q2 : (S "store", S "put") ∈ qsL := by decide +kernel
      have q3 : (S "out", S "shown") ∈ qsL := by decide +kernel
      have hs : SeqAt.shaped (.str x) = true := (by decide +kernel : ∀ x ∈ effectsL, SeqAt.shaped (.str x) = true) x (mem_c ok.2.1)
      refine db_asg (de_tup (ds := [.bool D.sm, .int d, .str j, .str x]) (da_cons (de_ix (de_var 0) de_int) (da_cons (de_ix (de_var 2) (de_neg de_int)) (da_cons (de_ix (de_var 2) de_int) (da_cons (de_ix (de_var 2) de_int) da_nil))))) (dg_tup rfl (dgs_cons (dg_name 3 nd) (dgs_cons (dg_name 4 nd) (dgs_cons (dg_name 5 nd) (dgs_cons (dg_name 6 nd) dgs_nil))))) ?_
      refine db_if (z := false) (DT.eq (dt_eq hr (de_ix (de_var 2) de_int) de_str (by decide +kernel) (by decide +kernel)) (by decide +kernel)) (fun h => by cases h) (fun _ => db_pop ?_)
      refine db_if (z := false) (DT.eq (dt_eq hr (de_ix (de_var 2) de_int) de_str (by decide +kernel) (by decide +kernel)) (by decide +kernel)) (fun h => by cases h) (fun _ => db_pop ?_)
      refine db_par (s1 := ()) (c := .d (.int (D.pla (S "load") (S "made")))) (c' := .d (.int (D.pla (S "store") (S "put")))) 9 10 rfl nd (da_cons (s1 := ()) (de_spot hr (de_var 1) (da_cons de_str (da_cons de_str da_nil)) q1) (da_cons (de_spot hr (de_var 1) (da_cons de_str (da_cons de_str da_nil)) q2) da_nil)) ?_
      refine db_if (z := false) (DT.eq (dt_eq hr (de_ix (de_var 2) de_int) de_str (by decide +kernel) (by decide +kernel)) (by decide +kernel)) (fun h => by cases h) (fun _ => db_pop ?_)
      refine db_set (s1 := ()) (c := .d (.int (D.eff x))) 11 nd (de_if (dt_eq hr (de_var 6) de_str hs (by decide +kernel)) (fun h => ?_) (fun h => de_if (dt_eq hr (de_var 6) de_str hs (by decide +kernel)) (fun h2 => ?_) (fun h2 => ?_))) ?_
      · rw [eqv_str] at h
        have e : x = S "store" := by simpa [S] using h
        subst e
        exact de_var 10
      · rw [eqv_str] at h2
        have e : x = S "out" := by simpa [S] using h2
        subst e
        exact de_spot hr (de_var 1) (da_cons de_str (da_cons de_str da_nil)) q3
      · rw [eqv_str] at h h2
        have n1 : x ≠ S "store" := by simpa [S] using h
        have n2 : x ≠ S "out" := by simpa [S] using h2
        rcases ef_cases ok.2.1 with ⟨hw, _, _⟩ | z | z
        · have e : D.eff x = D.pla x (S "written") := by unfold Dsg.eff; rw [if_neg n1, if_neg n2]
          rw [e]
          exact de_spot hr (de_var 1) (da_cons (de_var 6) (da_cons de_str da_nil)) (wr_q hw).1
        · exact absurd z n1
        · exact absurd z n2
      · exact db_ret (de_le (de_add (de_var 4) (de_var 11)) (de_spot hr (de_var 1) (da_cons (de_var 5) (da_cons de_str da_nil)) (jm_q ok.1)))
abbrev N52 : List Str := ["_law_design_here", "_law_spots", "_law_entry"]
theorem sc52 : FnScope N52 ["_law_design_here"] (defScope (top 52)) := ⟨rfl, rfl, rfl, by decide +kernel, rfl, by decide +kernel, by decide +kernel⟩
def rLOpens : List Sl → Res → Prop := fun cs r => ∃ D : Dsg, cs = [.d D.enc] ∧ r = .val (.d (eD (opns D)))
abbrev DLOpens (P : Program) (w : World) (K : Fg) (mg : Str → Option Value) (base : Heap) : Prop := Dfn P w K mg base 2 "_law_opens" ["_law_design_here"] (spR K rLOpens)
theorem f_lopens (F : Df K mg "_law_opens" (top 52) ["_law_design_here"]) (GP : DPlaces P w K mg base) (GE : DEntries P w K mg base) (GO : DLOpen P w K mg base) : DLOpens P w K mg base := by
  refine dfn_of F sc52 ?_ ?_
  · rintro cs r ⟨_, rfl, _⟩; rfl
  · rintro f cdv B outer s H E cs r hr ⟨D, rfl, rfl⟩ tk
    have nd := sc52.nd
    refine db_set (s1 := ()) (c := .t (spots D)) 1 nd (de_call GP hr (da_cons (de_var 0) da_nil) ⟨D, rfl, rfl⟩) ?_
    show DB _ _ _ _ _ _ (.rt (.d (.list ((allS.filter (opn D)).map Ent.enc))) ())
    rw [← outs_ent']
    refine db_ret (de_lcN (j := 2) (n := allS.length) (item := fun i => .d (allS.getD i e0).enc) (f := fun i => opn D (allS.getD i e0)) (g := fun i => (allS.getD i e0).enc) rfl nd (blkOk_by (N := N52) (sc := defScope (top 52)) (by decide +kernel)) (di_listM Ent.enc e0 (de_call0 GE hr ⟨rfl, rfl⟩)) (Nat.le_trans allS_len (by decide)) (fun i hi sh H C cl fp => ?_) (fun i hi hf sh H C cl fp => de_var 2))
    exact dts_one (dt_val (de_call GO hr (da_cons (de_var 0) (da_cons (de_var 1) (da_cons (de_var 2) da_nil))) ⟨D, _, mem_allS.mp (getD_in hi), rfl, rfl⟩))
end
end Kp
end
section
set_option Elab.async false
set_option linter.all false
set_option maxRecDepth 100000
set_option maxHeartbeats 4000000
namespace Kp
open PySem PySem.Spec PyProof.Rows L2
/-! list.count, list.index of data -/
section
variable {X : Cx}
def rCountD (K : Fg) : V → List V → Hp → VK → Prop := fun x xs H Q => ∃ (a : Addr) (y : V) (d : PyData) (ds : List PyData), x = V.ref a ∧ xs = [y] ∧ Dp K H (V.ref a) (.list ds) ∧ Dp K H y d ∧ SeqAt.shaped (.list ds) = true ∧ SeqAt.shaped d = true ∧ Q (.int (ds.countP fun z => PyData.eqv z d : Nat)) H
theorem mt_countD (hu : X.A.units + 65 < cLine) : MtR X "list.count" (rCountD X.K) := by
  intro pins s σ H x xs v us Q I rx rxs h
  obtain ⟨a, y, d, ds, rfl, rfl, hl, hy, sl, sd, q⟩ := h
  cases rx
  obtain ⟨u, rfl, ru⟩ := rxs.one
  obtain ⟨bs, r1⟩ := Dp.reads I d y u hy ru
  have hxs : PyData.canLayAll0 ds = true := SeqAt.canLay_of_shaped sl
  have hroom : X.A.units + 1 + min (PyData.depthAll ds) d.depth < cLine := room_in_shaped sd hu
  cases hl with
  | lst hs ha =>
    obtain ⟨its, rv, ⟨⟨cls, dd, data, sls⟩, n, ho, hc, hdn, hdt⟩, hlen⟩ := I.list hs
    simp only at hc hdt
    subst hc hdt
    obtain ⟨as, h4⟩ := Dp.readsAll I ds _ its ha rv
    have hmap : its.map (SeqAt.readOf s.heap) = ds := SeqAt.readsAll_map ds its as hxs h4
    refine call_meets PySem.F.slot_list_count ⟨_, ho, rfl⟩ PySem.F.entry_list_count (PySem.F.args_list_count_2 _ _)
      (SeqAt.list_countAt a its.toArray n dd sls u fun z => PyData.eqv (SeqAt.readOf s.heap z) d) ⟨ho, SeqAt.items_eqAt (vs := its.toArray) (show ReadsAll s.heap its.toArray.toList ds as from h4) r1 hxs (SeqAt.canLay_of_shaped sd) hroom, ?_⟩
    have ec : its.toArray.toList.countP (fun z => PyData.eqv (SeqAt.readOf s.heap z) d) = ds.countP fun z => PyData.eqv z d := by
      rw [← hmap, List.countP_map]
      rfl
    rw [ec]
    exact ⟨.int _, H, I.tok _, ⟨s.toks, rfl⟩, q⟩
end
section
variable {A : Amb} {X : Cx} {δ : Dl} {s s1 s2 : A.S} {t e : Expr} {ds : List PyData} {d : PyData} {p pos : Pos}
theorem de_count (hu : X.A.units + 65 < cLine) (ht : DE A X δ s t (.d (.list ds)) s1) (he : DE A X δ s1 e (.d d) s2) (sl : SeqAt.shaped (.list ds) = true) (sd : SeqAt.shaped d = true) (hbase : attributeBase t "count" X.env (eval t X.env) = eval t X.env := by rfl)
    (hfew : ((backTo pos (starEach [e] X.env)).all (fun x => !x.1) && (backToKw pos (keywordEach [] X.env)).all (fun x => x.1.isSome) && decide (([e] : List Expr).length + ([] : List Keyword).length + (if ([] : List Keyword).isEmpty then 0 else 1) < 30)) = true := by rfl)
    (hline : (p.endLine == pos.line) = true := by rfl) (hst : starEach [e] X.env = (false, eval e X.env) :: starEach [] X.env := by rfl) (hpl : (backTo pos (starEach [] X.env)).any (·.1) = false := by rfl) :
    DE A X δ s (.Call (.Attribute t "count" p) [e] [] pos) (.d (.int (ds.countP fun z => PyData.eqv z d : Nat))) s2 :=
  DE.of (pe_bm PySem.F.plainAttrs_list PySem.F.slot_list_count PySem.F.type_list_count (mt_countD hu) pe_w pa_w hbase hfew hline hst hpl) fun w σ en iv Q q => ht w σ en iv _ fun x w1 l1 i1 d1 => by
    obtain ⟨a, xs, rfl, hx, da⟩ := dv_lst d1
    refine ⟨.inl ⟨rfl, xs, Same.seq w1.sub hx⟩, da_cons he da_nil hst w1 σ (en.mono l1.g) i1 _ fun vs w2 l2 i2 d2 => ?_⟩
    obtain ⟨v, rfl, d3⟩ := dvs1 d2
    exact ⟨a, v, d, ds, rfl, rfl, dp_mono w2.sub (dp_mono l2.g d1), dp_mono w2.sub d3, sl, sd, q _ w2 (l1.trans l2) i2 (.int _)⟩
theorem de_index {j : Nat} {z : PyData} (hu : X.A.units + 65 < cLine) (ht : DE A X δ s t (.d (.list ds)) s1) (he : DE A X δ s1 e (.d d) s2) (sl : SeqAt.shaped (.list ds) = true) (sd : SeqAt.shaped d = true) (hz : ds[j]? = some z) (hzd : PyData.eqv z d = true) (hno : ∀ (m : Nat) (z' : PyData), m < j → ds[m]? = some z' → PyData.eqv z' d = false)
    (hbase : attributeBase t "index" X.env (eval t X.env) = eval t X.env := by rfl)
    (hfew : ((backTo pos (starEach [e] X.env)).all (fun x => !x.1) && (backToKw pos (keywordEach [] X.env)).all (fun x => x.1.isSome) && decide (([e] : List Expr).length + ([] : List Keyword).length + (if ([] : List Keyword).isEmpty then 0 else 1) < 30)) = true := by rfl)
    (hline : (p.endLine == pos.line) = true := by rfl) (hst : starEach [e] X.env = (false, eval e X.env) :: starEach [] X.env := by rfl) (hpl : (backTo pos (starEach [] X.env)).any (·.1) = false := by rfl) :
    DE A X δ s (.Call (.Attribute t "index" p) [e] [] pos) (.d (.int (j : Nat))) s2 :=
  DE.of (pe_bm PySem.F.plainAttrs_list PySem.F.slot_list_index PySem.F.type_list_index (mt_indexD hu) pe_w pa_w hbase hfew hline hst hpl) fun w σ en iv Q q => ht w σ en iv _ fun x w1 l1 i1 d1 => by
    obtain ⟨a, xs, rfl, hx, da⟩ := dv_lst d1
    refine ⟨.inl ⟨rfl, xs, Same.seq w1.sub hx⟩, da_cons he da_nil hst w1 σ (en.mono l1.g) i1 _ fun vs w2 l2 i2 d2 => ?_⟩
    obtain ⟨v, rfl, d3⟩ := dvs1 d2
    exact ⟨a, v, d, ds, j, z, rfl, rfl, dp_mono w2.sub (dp_mono l2.g d1), dp_mono w2.sub d3, sl, sd, hz, hzd, hno, q _ w2 (l1.trans l2) i2 (.int _)⟩
end
/-! what is known of the classes of errors -/
structure Errs (K : Fg) (mg : Str → Option Value) (CB CP CE CN : Addr) : Prop where
  mgB : mg "BeltError" = some (.ref CB)
  p : ExC K mg "BadPath" CP
  e : ExC K mg "BadEntries" CE
  n : ExC K mg "NotMade" CN
  ok : ∀ C ∈ [CP, CE, CN], L2.ExcC K C ∧ PySem.W.exmOne K (.ref C) (.ref CB) = some true
  kit : ∀ C ∈ [CP, CE, CN], ∀ D ∈ [CP, CE, CN], PySem.W.kitOne K (.ref C) (.ref D) = some (decide (C = D))
  ne : [CP, CE, CN].Nodup
def wordOf (CP CE CN C : Addr) : Str := if C = CP then S "path" else if C = CE then S "entries" else S "made"
section
variable {A : Amb} {X : Cx} {δ : Dl} {s s1 s2 : A.S}
/-- isinstance(e, an own class), in the suite -/
theorem de_isE {a C D : Addr} {oe : Obj} {pn : List (Addr × Obj)} {e : Expr} {x : Str} {b : Bool} {p p2 pos : Pos} (N : Nms X.mg) (hC : L2.ExcC X.K C) (hz : Zc (.ref C) none oe) (hf : ∃ vs, oe.data = .fields vs) (h : DE A (X.suite a ((a, oe) :: pn)) δ s e (.r (.ref a)) s1) (hm : X.mg x = some (.ref D)) (hk : PySem.W.kitOne X.K (.ref C) (.ref D) = some b)
    (hg : Gl X "isinstance" := by rfl) (hg2 : Gl X x := by rfl) (hd : (x == ("__debug__" : Str)) = false := by decide) (hs : starEach [e, .Name x p2] X.env = (false, eval e X.env) :: starEach [.Name x p2] X.env := by rfl) :
    DE A (X.suite a ((a, oe) :: pn)) δ s (.Call (.Name "isinstance" p) [e, .Name x p2] [] pos) (.d (.bool b)) s1 :=
  DE.of (pe_callB (call_isE hC hz hf) hg N.isinstance boot_isinstance pa_w (he := hs)) (ev_cb (cs := [.r (.ref a), .r (.ref D)]) (da_cons h (da_cons (de_glob (X := X.suite a ((a, oe) :: pn)) ⟨.ref D, .ref D, hm, rfl, fun _ => rfl⟩ hg2 hd) da_nil rfl) hs) fun vs w iv dv Q q => by
    obtain ⟨v, u, rfl, d1, d2⟩ := dvs2 dv
    obtain rfl : v = .ref a := d1
    obtain rfl : u = .ref D := d2
    exact ⟨.ref D, .ref D, b, rfl, fun u r => r, hk, q _ w (Le.refl w) iv (.bl _)⟩)
end
end Kp
end
section
set_option Elab.async false
set_option linter.all false
set_option maxRecDepth 100000
set_option maxHeartbeats 4000000
namespace Kp
open PySem PySem.Spec PyProof.Rows L2 LamX
abbrev N53 : List Str := ["_law_work", "e", "_law_known"]
theorem sc53 : FnScope N53 ["_law_work"] (defScope (top 53)) := ⟨rfl, rfl, rfl, by decide +kernel, rfl, by decide +kernel, by decide +kernel⟩
def TTw (CP CE CN : Addr) : (XK → Hp → VK → Prop) → Hp → VK → Prop := fun tl H Q => tl (fun cls d H' => ∃ C, C ∈ [CP, CE, CN] ∧ cls = .ref C ∧ d = none ∧ ∀ H'', Same H' H'' → Q (.str (wordOf CP CE CN C)) H'') H fun _ H' => Q (.str (S "")) H'
def sW (K : Fg) (CP CE CN : Addr) (a : Addr) (cls : Value) (d : Option Addr) : TS := fun D σ H => (σ.length = 3 → σ[1]? = some (some (.ref a))) ∧ ∃ C, C ∈ [CP, CE, CN] ∧ cls = .ref C ∧ d = none ∧ ∀ H', Same H H' → D.rt (.str (wordOf CP CE CN C)) H'
def hbody : List Stmt → List Stmt
  | .Try _ [.ExceptHandler _ _ b _] _ _ _ :: _ => b
  | _ => []
theorem wrong_gives {X : Cx} {CB CP CE CN g : Addr} {cdg : Value} {q : Str} (N : Nms X.mg) (E : Errs X.K X.mg CB CP CE CN) (hr : Room 2 X.A) : GivesTo X N53 "_law_wrong" (defScope (top 53)) g cdg (defBody (top 53)) "_law_work" q (TTw CP CE CN) := by
  intro f c' s H0 Q tl act hc h
  have nd := sc53.nd
  refine ⟨_, pss_cons (ps_try_as (X := (cxOf C8.CX0 X.prog X.w X.K X.mg X.base N53 "_law_wrong" (defScope (top 53)) g cdg X.A X.stack s H0 C8.E0).nox) (i := 1) (c := .ref CB) (Wout := fun _ _ _ _ => False)
    (tb := fun W D σ H => ∃ Ech : XK, (∀ cls d σ' H', Ech cls d H' → W cls d σ' H') ∧ σ[0]? = some (some (.ref f)) ∧ H c' = some (CodeO c' q) ∧ tl Ech H fun _ H1 => D.nx σ H1) (ts := sW X.K CP CE CN) rfl rfl nd rfl rfl ⟨rfl, by decide, .inl E.mgB⟩ LamX.takes0 (fun W pn xe tk _ => ?_) (fun a oe cls d pn hz hf => ?_)) (pss_one (ps_ret pe_str)), ?_⟩
  · refine ⟨fun pins s' σ H' D I h' => ?_⟩
    obtain ⟨Ech, hW, h1, h2, h3⟩ := h'
    exact (pss_one (ps_expr (act W pn xe Ech _ _ tk hW))).run pins s' σ H' D I ⟨h1, h2, h3⟩
  · refine ⟨fun pins sh σ H D I h => ?_⟩
    obtain ⟨hσ, C, hC, rfl, rfl, hq⟩ := h
    have hl : σ.length = 3 := I.len
    have he := hσ hl
    obtain ⟨hEC, _⟩ := E.ok C hC
    obtain ⟨n1, n2⟩ := List.nodup_cons.mp E.ne
    have n12 : CP ≠ CE := fun z => n1 (by rw [z]; exact List.mem_cons_self ..)
    have n13 : CP ≠ CN := fun z => n1 (by rw [z]; exact List.mem_cons_of_mem _ (List.mem_cons_self ..))
    have n23 : CE ≠ CN := fun z => (List.nodup_cons.mp n2).1 (by rw [z]; exact List.mem_cons_self ..)
    have u65 : (X.A.deeper (envOfC "_law_wrong" (defScope (top 53)) s.heap.objs.size g cdg)).units + 65 < cLine := room65 (hr.deeper _)
    have k1 := E.kit C hC CP (List.mem_cons_self ..)
    have k2 := E.kit C hC CE (List.mem_cons_of_mem _ (List.mem_cons_self ..))
    have k3 := E.kit C hC CN (List.mem_cons_of_mem _ (List.mem_cons_of_mem _ (List.mem_cons_self ..)))
    have db : ∀ (b1 b2 b3 : Bool) (j : Nat) (wd : Str) (EE : XK), PySem.W.kitOne X.K (.ref C) (.ref CP) = some b1 → PySem.W.kitOne X.K (.ref C) (.ref CE) = some b2 → PySem.W.kitOne X.K (.ref C) (.ref CN) = some b3 →
        (b1 = true ∧ b2 = false ∧ b3 = false ∧ j = 0 ∧ wd = S "path") ∨ (b1 = false ∧ b2 = true ∧ b3 = false ∧ j = 1 ∧ wd = S "entries") ∨ (b1 = false ∧ b2 = false ∧ b3 = true ∧ j = 2 ∧ wd = S "made") →
        DB A0 ((cxOf C8.CX0 X.prog X.w X.K X.mg X.base N53 "_law_wrong" (defScope (top 53)) g cdg X.A X.stack s H0 C8.E0).nox.suite a ((a, oe) :: pn)) EE [none, some (.r (.ref a)), none] () [hbody (defBody (top 53))] (.rt (.d (.str wd)) ()) := by
      intro b1 b2 b3 j wd EE k1 k2 k3 hh
      refine db_set (s1 := ()) (c := .d (.list [.bool b1, .bool b2, .bool b3])) 2 nd (de_lst (ds := [.bool b1, .bool b2, .bool b3]) (da_cons (de_isE N hEC hz hf (de_var 1) E.p.g k1) (da_cons (de_isE N hEC hz hf (de_var 1) E.e.g k2) (da_cons (de_isE N hEC hz hf (de_var 1) E.n.g k3) da_nil)))) ?_
      refine db_ret (de_if (s1 := ()) (x := true) (DT.eq (dt_cmp (op_eqD (Nat.lt_of_succ_lt u65)) (od_eq (d := .int (([.bool b1, .bool b2, .bool b3] : List PyData).countP fun z => PyData.eqv z (.bool true) : Nat)) (by rfl) (by rfl)) (nomark _) (de_count u65 (de_var 2) de_bl (by rfl) (by rfl)) de_int) ?_) (fun _ => ?_) (fun h => by cases h))
      · rcases hh with ⟨rfl, rfl, rfl, _⟩ | ⟨rfl, rfl, rfl, _⟩ | ⟨rfl, rfl, rfl, _⟩ <;> rfl
      · refine de_ixL (ds := [.str (S "path"), .str (S "entries"), .str (S "made")]) (i := (j : Int)) (de_lst (ds := [.str (S "path"), .str (S "entries"), .str (S "made")]) (da_cons de_str (da_cons de_str (da_cons de_str da_nil)))) (de_index (z := .bool true) u65 (de_var 2) de_bl (by rfl) (by rfl) ?_ (by rfl) ?_) ?_
        · rcases hh with ⟨rfl, rfl, rfl, rfl, _⟩ | ⟨rfl, rfl, rfl, rfl, _⟩ | ⟨rfl, rfl, rfl, rfl, _⟩ <;> rfl
        · intro m z' hm hz'
          rcases hh with ⟨rfl, rfl, rfl, rfl, _⟩ | ⟨rfl, rfl, rfl, rfl, _⟩ | ⟨rfl, rfl, rfl, rfl, _⟩
          · exact absurd hm (Nat.not_lt_zero _)
          · match m, hm with
            | 0, _ => cases hz'; rfl
          · match m, hm with
            | 0, _ => cases hz'; rfl
            | 1, _ => cases hz'; rfl
        · rcases hh with ⟨rfl, rfl, rfl, rfl, rfl⟩ | ⟨rfl, rfl, rfl, rfl, rfl⟩ | ⟨rfl, rfl, rfl, rfl, rfl⟩ <;> rfl
    have fin : ∃ j, (decide (C = CP) = true ∧ decide (C = CE) = false ∧ decide (C = CN) = false ∧ j = 0 ∧ wordOf CP CE CN C = S "path") ∨ (decide (C = CP) = false ∧ decide (C = CE) = true ∧ decide (C = CN) = false ∧ j = 1 ∧ wordOf CP CE CN C = S "entries") ∨ (decide (C = CP) = false ∧ decide (C = CE) = false ∧ decide (C = CN) = true ∧ j = 2 ∧ wordOf CP CE CN C = S "made") := by
      simp only [List.mem_cons, List.not_mem_nil, or_false] at hC
      rcases hC with rfl | rfl | rfl
      · exact ⟨0, .inl ⟨decide_eq_true rfl, decide_eq_false n12, decide_eq_false n13, rfl, if_pos rfl⟩⟩
      · exact ⟨1, .inr (.inl ⟨decide_eq_false (Ne.symm n12), decide_eq_true rfl, decide_eq_false n23, rfl, (if_neg (Ne.symm n12)).trans (if_pos rfl)⟩)⟩
      · exact ⟨2, .inr (.inr ⟨decide_eq_false (Ne.symm n13), decide_eq_false (Ne.symm n23), decide_eq_true rfl, rfl, (if_neg (Ne.symm n13)).trans (if_neg (Ne.symm n23))⟩)⟩
    obtain ⟨j, hj⟩ := fin
    have env : EnvD X.K σ (fun _ => none) [none, some (.r (.ref a)), none] := ⟨hl, fun i c k => by
      match i, k with
      | 1, k => cases k; exact ⟨.ref a, he, rfl⟩
      | 0, k => cases k
      | 2, k => cases k
      | i + 3, k => cases k⟩
    have run := db _ _ _ j _ (fun _ _ _ => True) k1 k2 k3 hj (w0 (G := fun _ => none) (H := H) (fun _ _ e => nomatch e) (fun _ _ e => nomatch e)) σ env trivial D (fun v w' l _ dv => by rw [dv_str dv]; exact hq w'.H (fun x o e => l.h x o (fun z => z) e))
    have run2 : wpS ((cxOf C8.CX0 X.prog X.w X.K X.mg X.base N53 "_law_wrong" (defScope (top 53)) g cdg X.A X.stack s H0 C8.E0).nox.suite a ((a, oe) :: pn)) (hbody (defBody (top 53))) D σ H := run
    exact run2.run pins sh I
  · refine ⟨fun cls d H' => ∃ C, C ∈ [CP, CE, CN] ∧ cls = .ref C ∧ d = none ∧ ∀ H'', Same H' H'' → Q (.str (wordOf CP CE CN C)) H'', fun cls d σ' H' hx => ?_, rfl, hc, h⟩
    obtain ⟨C, hC, rfl, rfl, hq⟩ := hx
    refine ⟨true, (E.ok C hC).2, fun _ a _ => ⟨fun hl => ?_, C, hC, rfl, rfl, hq⟩, fun z => nomatch z⟩
    rw [List.length_set] at hl
    exact List.getElem?_set_self (by omega)
end Kp
end
section
set_option Elab.async false
set_option linter.all false
set_option maxRecDepth 100000
set_option maxHeartbeats 4000000
/-! a lambda handed to _law_wrong: only the one table of code objects changes -/
namespace Kp
open PySem PySem.Spec PyProof.Rows L2 LamX
def TabI (P : Addr) (q : Str) (G H : Hp) : Prop := ∃ ps : Array Value, H P = some (.tbl ps) ∧ TriplesOk ps.toList ∧ ∀ (pos : Pos) (cv : Value), codeAmong pos ps.toList = some cv → ∃ c, cv = .ref c ∧ G c = some (CodeO c q)
section
variable {X : Cx} {pins : List (Addr × Obj)} {σ : L2.St} {H : Hp} {s : Shared}
theorem lam_mk {c P : Addr} {params : Arguments} {body : Expr} {scope : Scope} {pos : Pos} {E : Value → Shared → Prop} {Q : Value → Shared → Prop} (I : Inv X pins σ H s) (TB : TabB X.base X.mg c P) (hcode : X.env.code = .ref c) (tb : TabI P (X.env.qual ++ "<lambda>") H H) (hdef : defaultsOf params X.env = ([], []))
    (hfree : ∀ y ∈ scope.names, y.2 = .free → ∃ c, X.env.cells.lookup y.1 = some c)
    (h : ∀ (f c' : Addr) (pm ctv : Value) (H1 : Hp) (z : Shared), Inv X pins σ H1 z → (∀ b o, b ≠ P → H b = some o → H1 b = some o) → TabI P (X.env.qual ++ "<lambda>") H1 H1 →
      z.heap.get? f = some (PySem.W.kla_obj "<lambda>" (X.env.qual ++ "<lambda>") params body scope (cloFrom X.env.cells scope.names []) pm c' ctv) → H1 f = none → f ∉ frs X.stack → H1 c' = some (CodeO c' (X.env.qual ++ "<lambda>")) → Q (.ref f) z) :
    wpAny (model X.prog X.w) X.A (eval (.Lambda params body scope pos) X.env) Q E s := by
  obtain ⟨ps, hP, ht, ha⟩ := tb
  refine PySem.W.kla_eval hdef ?_
  have bP := TB.bm.keeps I.bk
  have hP' := I.hok P _ hP
  have far : ∀ f, s.heap.objs.size ≤ f → f ∉ frs X.stack := fun f hf z => (List.mem_cons.mp (I.stkSub _ z)).elim (fun e => by
    have h1 := I.lt
    rw [← e] at h1
    exact Nat.lt_irrefl _ (Nat.lt_of_lt_of_le h1 hf)) (I.nofs hf)
  cases hc : codeAmong pos ps.toList with
  | some cv =>
    obtain ⟨c', rfl, hco⟩ := ha pos cv hc
    refine PySem.W.kla_makeFunctionHit (mg := X.mg) (c := c) (P := P) (ps := ps) (closure_ok hfree) I.ok.glob (I.mod.glob.keeps I.bk) hcode (TB.code.keeps I.bk) hP' ht hc bP fun ctv h' tk hx hsz => ?_
    exact h h'.objs.size c' ((X.mg "__name__").getD .none) ctv H _ (I.kept (t' := tk) fun b o e => Heap.get?_push_of_some _ (hx b o e)) (fun _ _ _ e => e) ⟨ps, hP, ht, ha⟩ (Heap.get?_push_size _ rfl) (I.hok.fresh hsz) (far _ hsz) hco
  | none =>
    refine PySem.W.kla_makeFunction (mg := X.mg) (c := c) (P := P) (ps := ps) (closure_ok hfree) I.ok.glob (I.mod.glob.keeps I.bk) hcode (TB.code.keeps I.bk) hP' ht hc TB.gP bP fun c' ctv h' tk hx hge hlt hrec htb => ?_
    obtain ⟨c2, oc, vs, t, e2, hoc, hd, hv⟩ := hrec
    cases e2
    have hsz : s.heap.objs.size ≤ h'.objs.size := by omega
    have nC : H c' = none := I.hok.fresh hge
    have J := inv_table (t' := tk) (more := #[rawInt pos.line, rawInt pos.col, .ref c']) (h' := h'.push (PySem.W.kla_obj "<lambda>" (X.env.qual ++ "<lambda>") params body scope (cloFrom X.env.cells scope.names []) ((X.mg "__name__").getD .none) c' ctv)) I hP
      (fun b o hb e => Heap.get?_push_of_some _ (hx b o hb e)) (Heap.get?_push_of_some _ htb) hge ⟨oc, vs, t, Heap.get?_push_of_some _ hoc, hd, hv⟩
    have old : ∀ b o, b ≠ P → H b = some o → upd (upd H P (.tbl (ps ++ #[rawInt pos.line, rawInt pos.col, .ref c']))) c' (CodeO c' (X.env.qual ++ "<lambda>")) b = some o := fun b o ne e => by
      rw [upd_ne (ne_of_none e nC), upd_ne ne]; exact e
    have eL : (ps ++ #[rawInt pos.line, rawInt pos.col, .ref c']).toList = ps.toList ++ [rawInt pos.line, rawInt pos.col, .ref c'] := by simp
    have lt2 : P < h'.objs.size := Nat.lt_of_lt_of_le (Heap.lt_size hP') hsz
    refine h h'.objs.size c' ((X.mg "__name__").getD .none) ctv _ _ J old ⟨_, by rw [upd_ne (ne_of_none hP nC), upd_same], by rw [eL]; exact PySem.TriplesOk_snoc _ _ _ _ ht, fun p' cv hcv => ?_⟩ (Heap.get?_push_size _ rfl) ?_ (far _ hsz) upd_same
    · rw [eL] at hcv
      rcases among_app _ ht hcv with z | z
      · obtain ⟨c0, e1, e2⟩ := ha p' cv z
        exact ⟨c0, e1, old _ _ (fun w => by rw [w, hP] at e2; exact codeO_ne _ (Option.some.inj e2).symm) e2⟩
      · exact ⟨c', z, upd_same⟩
    · rw [upd_ne (Nat.ne_of_gt hlt), upd_ne (Nat.ne_of_gt lt2)]
      exact I.hok.fresh hsz
end
def tLamP (P : Addr) (q : Str) (TT : (XK → Hp → VK → Prop) → Hp → VK → Prop) (t : XK → TE) : TE := fun σ H Q => TabI P q H H ∧ ∀ H1, (∀ b o, b ≠ P → H b = some o → H1 b = some o) → TabI P q H1 H1 → TT (fun E H' Q' => t E σ H' Q') H1 Q
theorem pe_lamP {X : Cx} {TT : (XK → Hp → VK → Prop) → Hp → VK → Prop} {x a : Str} {g c P : Addr} {k : Nat} {pg : Arguments} {bg : List Stmt} {sg : Scope} {dV kV doc pm cdv ct oc : Value} {an od : Option Addr} {osl : Array (Option Value)} {Ng : List Str}
    {params : Arguments} {body : Expr} {scope : Scope} {t : XK → TE} {p lpos pos : Pos} (hg : Gl X x) (hm : X.mg x = some (.ref g)) (hk : PySem.W.keepIn X.K (.ref g) = true)
    (lk : X.K.lookup g = some ⟨oc, od, .func (PySem.W.fnOf x x pg bg sg dV kV doc pm an cdv ct), osl⟩) (hcg : PySem.W.codeIn X.K cdv x = true) (hb : L2.Binds X.K (PySem.W.fnOf x x pg bg sg dV kV doc pm an cdv ct) [a] []) (Sg : FnScope Ng [a] sg) (hNg : Ng[0]? = some a) (hva : Vis sg a)
    (hG : GivesTo X Ng x sg g cdv bg a (X.env.qual ++ "<lambda>") TT) (TB : TabB X.base X.mg c P) (hcode : X.env.code = .ref c) (hr : Room (k + 2) X.A) (L : LamS X.env.scope scope) (hdef : defaultsOf params X.env = ([], []))
    (hbind : ∀ (q : Str) (cl : List (Str × Addr)) (pm cv ctv : Value), bindArgs (PySem.W.kla_fn "<lambda>" q params body scope cl pm cv ctv) ⟨[], []⟩ = pure [])
    (hbody : ∀ (A : Around) (outer : List Env) (s : Shared) (H : Hp) (E : XK) (f c' : Addr), Room k (A.deeper (lamEnv X scope s.heap.objs.size f c')) → PE (lamCx X A outer s H E scope f c') body (t E))
    (hdb : (x == ("__debug__" : Str)) = false := by decide) (hd : (a == ("__debug__" : Str)) = false := by decide) (hcd : (a == ("__classdict__" : Str)) = false := by decide) :
    PE X (.Call (.Name x p) [.Lambda params body scope lpos] [] pos) (tLamP P (X.env.qual ++ "<lambda>") TT t) := by
  refine ⟨fun pins s σ H Q I h => ?_⟩
  obtain ⟨hT, h⟩ := h
  refine wpAny_Call_Name_kw (ld_glob I hg hm (PySem.W.callWith_K (h₀ := X.base) I.ok.mod.kin hk ?_ (by rfl) (by rfl)) hdb)
  show wpAny _ _ (spliced ((false, eval (.Lambda params body scope lpos) X.env) :: backTo pos (starEach [] X.env))) _ _ s
  refine Calls.spliced_cons (lam_mk I TB hcode hT hdef (L.has I.ok) fun f c' pm' ctv H1 z J old T1 hf hfn hfr hco => Calls.spliced_nil ⟨J.kIn, ?_⟩)
  have run : codeAny (model X.prog X.w) X.A (.call (.ref g) ⟨[.ref f], []⟩) (CR C8.CX0 X.stack X.prog X.w H1 z Q C8.E0) z :=
    run_ofS (N := Ng) (ps := [a]) (us := [.ref f]) (vs := [.ref f]) lk hcg Sg hr J.env0 (hb z [.ref f] J.kIn rfl) (.cons rfl .nil) rfl fun hr' => by
      obtain ⟨t', ht', hq'⟩ := hG f c' z H1 Q (fun E H' Q' => t E σ H' Q') (fun W pn xe E p1 p2 tk hW => pe_act (i := 0) J L hf hfn hfr (hbind _ _ _ _ _) tk hW hr' (fun A outer s H hr2 => hbody A outer s H E f c' hr2) hNg hva hd hcd) hco (h H1 old T1)
      exact ⟨t', ht'.nox, hq'⟩
  refine wpAny_call (codeAny_mono run fun r y hq => ?_)
  match r, hq with
  | .ok (.ret u), hq => exact J.after hq
  | .ok .next, hq => exact hq.elim
  | .ok .brk, hq => exact hq.elim
  | .ok .cont, hq => exact hq.elim
  | .error e, hq => exact (show False from hq).elim
end Kp
end
section
set_option Elab.async false
set_option linter.all false
set_option maxRecDepth 100000
set_option maxHeartbeats 4000000
namespace Kp
open PySem PySem.Spec PyProof.Rows L2 LamX
/-- the table of code objects is in motion -/
def AT (P : Addr) (q : Str) : Amb where
  M := fun x => x = P
  S := Unit
  inv := fun _ G H => TabI P q G H
  st := fun ⟨ps, h1, h2, h3⟩ e k => ⟨ps, k P _ rfl h1, h2, fun pos cv hc => by
    obtain ⟨c, a, b⟩ := h3 pos cv hc
    exact ⟨c, a, e _ _ b⟩⟩
structure Tl (A : Amb) (P : Addr) (q : Str) : Prop where
  m : A.M P
  rd : ∀ {s : A.S} {G H : Hp}, A.inv s G H → TabI P q G H
  wr : ∀ {s : A.S} {G G' H H' : Hp}, A.inv s G H → Same G G' → TabI P q G' H' → (∀ x u, A.M x → x ≠ P → H x = some u → H' x = some u) → A.inv s G' H'
  nt : ∀ {s : A.S} {G H : Hp} {x : Addr}, A.inv s G H → A.M x → x ≠ P → ∃ u, H x = some u ∧ ∀ φ, u ≠ .ext φ
theorem tl_base {P : Addr} {q : Str} : Tl (AT P q) P q := ⟨rfl, fun h => h, fun _ _ t _ => t, fun _ m n => absurd m n⟩
theorem mo_ext {K : Fg} {G H : Hp} {D : Addr} {o : Mo} (h : MoOk K G H D o) : ∃ u, H D = some u ∧ ∀ φ, u ≠ .ext φ := by
  cases o with
  | l ds =>
    obtain ⟨vs, a, _⟩ := h
    exact ⟨_, a, fun _ z => nomatch z⟩
  | m kvs => exact ⟨_, h, fun _ z => nomatch z⟩
theorem Tl.up {A : Amb} {P : Addr} {q : Str} (L : Tl A P q) {K : Fg} {D : Addr} (h : ¬ A.M D) : Tl (A.add K D) P q := ⟨.inl L.m, fun i => L.rd i.1, fun iv e t k => ⟨L.wr iv.1 e t fun x u m ne => k x u (.inl m) ne, iv.2.mono e fun u eq => k D u (.inr rfl) (fun z => h (z ▸ L.m)) eq⟩, fun iv m n => m.elim (fun m => L.nt iv.1 m n) fun e => by
  subst e
  exact mo_ext iv.2⟩
/-- the world behind the making of a lambda -/
noncomputable def gCodes (G H : Hp) (ps : Array Value) : Hp := open Classical in fun x => if ∃ pos, codeAmong pos ps.toList = some (.ref x) then H x else G x
section
variable {A : Amb} {X : Cx} {δ : Dl} {s s1 : A.S}
/-- an expression that gives a value or raises -/
def DX (A : Amb) (X : Cx) (E : XK) (δ : Dl) (s : A.S) (e : Expr) (r : Res) (s1 : A.S) : Prop := ∀ (w : Wd A) (σ : L2.St), EnvD X.K σ w.G δ → A.inv s w.G w.H → ∀ Q : VK, (match r with | .val c => ∀ v (w' : Wd A), Le w w' → A.inv s1 w'.G w'.H → DV X.K w'.G v c → Q v w'.H | .exc C => ∀ (w' : Wd A), Le w w' → A.inv s1 w'.G w'.H → E (.ref C) none w'.H) → wpT X e σ w.H Q
/-- a call that gives a value or raises -/
theorem dx_call {x : Str} {ps : List Str} {k : Nat} {R : List Sl → Res → Prop} {E : XK} {e : Expr} {es : List Expr} {cs : List Sl} {r : Res} {p pos : Pos} (F : Dfn X.prog X.w X.K X.mg X.base k x ps (spR X.K R)) (hr : Room k X.A) (h : DA A X δ s (e :: es) cs s1) (hR : R cs r) (tk : Takes X (fun cls d _ H => E cls d H)) (hg : Gl X x := by rfl)
    (hdb : (x == ("__debug__" : Str)) = false := by decide) (he : starEach (e :: es) X.env = (false, eval e X.env) :: starEach es X.env := by rfl) (hpl : (backTo pos (starEach es X.env)).any (·.1) = false := by rfl) : DX A X E δ s (.Call (.Name x p) (e :: es) [] pos) r s1 := by
  obtain ⟨f, fd, G, b, m, kk⟩ := F.ex
  refine fun w σ en iv Q q => ⟨fun pins sh I => (pe_call G hr hg m kk b .nil (passes_call tk fun _ _ _ _ z => z) pa_w hdb he hpl).run pins sh σ w.H Q I (h w σ en iv _ fun vs w1 l1 i1 d1 => ?_)⟩
  rw [List.append_nil]
  refine ⟨w1.G, cs, r, w1.nt, w1.sub, d1, hR, ?_⟩
  cases r with
  | val c => exact fun v G' H' a0 a1 a2 a3 a4 dv => q v (w1.on G' H' a0 a1 a2 a3 a4) (l1.trans (w1.on_le a0 a1 a2 a3 a4)) (A.st i1 a2 fun x o _ e => a3 x o e) dv
  | exc C => exact fun H' sm => q (w1.on w1.G H' w1.nt (w1.sub.trans sm) (Same.refl _) sm fun x _ e => e) (l1.trans (w1.on_le w1.nt (w1.sub.trans sm) (Same.refl _) sm fun x _ e => e)) (A.st i1 (Same.refl _) fun x o _ e => sm x o e)
def wOf (CP CE CN : Addr) : Res → Str
  | .val _ => S ""
  | .exc C => wordOf CP CE CN C
/-- _law_wrong(lambda: body) -/
theorem de_lamcall {c P CB CP CE CN : Addr} {k : Nat} {params : Arguments} {body : Expr} {scope : Scope} {r : Res} {p lpos pos : Pos} (TL : Tl A P (X.env.qual ++ "<lambda>")) (N : Nms X.mg) (Er : Errs X.K X.mg CB CP CE CN) (F : Df X.K X.mg "_law_wrong" (top 53) ["_law_work"]) (hg : Gl X "_law_wrong" := by rfl)
    (TB : TabB X.base X.mg c P) (hcode : X.env.code = .ref c) (hr : Room (k + 2) X.A) (L : LamS X.env.scope scope) (hC : ∀ C, r = .exc C → C ∈ [CP, CE, CN])
    (hbody : ∀ (B : Around) (outer : List Env) (sh : Shared) (H : Hp) (E : XK) (f c' : Addr), Room k (B.deeper (lamEnv X scope sh.heap.objs.size f c')) → Takes (lamCx X B outer sh H E scope f c') (fun cls d _ H => E cls d H) → DX A (lamCx X B outer sh H E scope f c') E δ s body r s1)
    (hdef : defaultsOf params X.env = ([], []) := by rfl) (hbind : ∀ (q : Str) (cl : List (Str × Addr)) (pm cv ctv : Value), bindArgs (PySem.W.kla_fn "<lambda>" q params body scope cl pm cv ctv) ⟨[], []⟩ = pure [] := by intros; rfl) :
    DE A X δ s (.Call (.Name "_law_wrong" p) [.Lambda params body scope lpos] [] pos) (.d (.str (wOf CP CE CN r))) s1 := by
  obtain ⟨g, fd, FF, bb, hm⟩ := F.ex
  obtain ⟨oc, od, kV, doc, pm, an, cdv, ct, osl, rfl, lk, hcd⟩ := FF.ex
  refine DE.of (pe_lamP (k := k) (P := P) (t := fun E σ H Q => ∀ (B : Around) (outer : List Env) (sh : Shared) (H0 : Hp) (f c' : Addr), Room k (B.deeper (lamEnv X scope sh.heap.objs.size f c')) → wpT (lamCx X B outer sh H0 E scope f c') body σ H Q) hg hm FF.kp lk hcd bb sc53 rfl (.inl rfl) (wrong_gives N Er (hr.mono (by omega))) TB hcode hr L hdef hbind (fun B outer sh H E f c' hr2 => ⟨fun pins z σ H Q I h => (h B outer sh _ f c' hr2).run pins z I⟩)) fun w σ en iv Q q => ?_
  obtain ⟨ps, hP, ht, ha⟩ := TL.rd iv
  refine ⟨⟨ps, hP, ht, fun pos cv hc => ?_⟩, fun H1 old tb => ?_⟩
  · obtain ⟨c0, e1, e2⟩ := ha pos cv hc
    exact ⟨c0, e1, w.sub _ _ e2⟩
  · obtain ⟨ps1, hP1, ht1, ha1⟩ := tb
    have code : ∀ x, (∃ pos, codeAmong pos ps1.toList = some (.ref x)) → H1 x = some (CodeO x (X.env.qual ++ "<lambda>")) := fun x ⟨pos, hc⟩ => by
      obtain ⟨c0, e1, e2⟩ := ha1 pos _ hc
      cases e1
      exact e2
    have nP : ∀ x u, w.G x = some u → x ≠ P := fun x u e z => by
      rw [z, (w.mt P TL.m).1] at e
      cases e
    have noM : ∀ x, A.M x → ¬ ∃ pos, codeAmong pos ps1.toList = some (.ref x) := fun x m hc => by
      have e := code x hc
      by_cases z : x = P
      · rw [z, hP1] at e
        exact codeO_ne _ (Option.some.inj e).symm
      · obtain ⟨u, e1, n⟩ := TL.nt iv m z
        rw [old x u z e1] at e
        exact n _ (Option.some.inj e)
    have gS : Same w.G (gCodes w.G H1 ps1) := fun x u e => by
      unfold gCodes
      split
      · exact old x u (nP x u e) (w.sub x u e)
      · exact e
    let w1 : Wd A := ⟨gCodes w.G H1 ps1, H1, fun x u e => by
      unfold gCodes at e
      split at e
      · exact e
      · exact old x u (nP x u e) (w.sub x u e), fun x m => ⟨by
      unfold gCodes
      rw [if_neg (noM x m)]
      exact (w.mt x m).1, by
      by_cases z : x = P
      · rw [z, hP1]
        exact ⟨_, rfl, fun _ y => (nomatch y), fun _ y => nomatch y⟩
      · obtain ⟨u, e, n⟩ := (w.mt x m).2
        exact ⟨u, old x u z e, n⟩⟩, fun x pp e => by
      unfold gCodes at e
      split at e
      · rename_i hc
        rw [code x hc] at e
        exact codeO_ne _ (Option.some.inj e)
      · exact w.nt x pp e⟩
    have l1 : Le w w1 := ⟨gS, fun x u n e => old x u (fun z => n (by rw [z]; exact TL.m)) e, fun x hx e => by
      show gCodes w.G H1 ps1 x = none
      unfold gCodes
      split
      · rename_i hc
        exfalso
        have e2 := code x hc
        obtain ⟨u, e3, _, n⟩ := hx
        by_cases z : x = P
        · exact noM P TL.m (z ▸ hc)
        · rw [old x u z e3] at e2
          exact n _ (Option.some.inj e2)
      · exact e⟩
    have i1 : A.inv s w1.G w1.H := TL.wr iv gS ⟨ps1, hP1, ht1, fun pos cv hc => by
      obtain ⟨c0, e1, e2⟩ := ha1 pos cv hc
      refine ⟨c0, e1, ?_⟩
      show gCodes w.G H1 ps1 c0 = _
      unfold gCodes
      rw [if_pos ⟨pos, by rw [hc, e1]⟩]
      exact e2⟩ fun x u _ n e => old x u n e
    intro B outer sh H0 f c' hr2
    refine hbody B outer sh H0 _ f c' hr2 (takes_of rfl rfl rfl rfl) w1 σ (en.mono gS) i1 _ ?_
    cases r with
    | val c => exact fun v w2 l2 i2 _ => q _ w2 (l1.trans l2) i2 (.str _)
    | exc C =>
      intro w2 l2 i2
      refine ⟨C, hC C rfl, rfl, rfl, fun H'' sm => ?_⟩
      exact q _ (w2.on w2.G H'' w2.nt (w2.sub.trans sm) (Same.refl _) sm fun x _ e => e) ((l1.trans l2).trans (w2.on_le w2.nt (w2.sub.trans sm) (Same.refl _) sm fun x _ e => e)) (A.st i2 (Same.refl _) fun x o _ e => sm x o e) (.str _)
end
end Kp
end
section
set_option Elab.async false
set_option linter.all false
set_option maxRecDepth 100000
set_option maxHeartbeats 4000000
namespace Kp
open PySem PySem.Spec PyProof.Rows L2
section
variable {A : Amb} {X : Cx} {E : XK} {δ δ' : Dl} {s s1 s2 s3 : A.S} {o : Out A} {rest : List Stmt} {bs : List (List Stmt)}
/-- (targets) = (values), through the tuple itself -/
theorem db_asgT {es ts : List Expr} {cs : List Sl} {ks : List Nat} {j j2 : Nat} {p p2 pos : Pos} (hc : X.calm = true) (h : DA A X δ s es cs s1) (hg : DGs A X δ ts cs δ' ks) (r : DB A X E δ' s1 (rest :: bs) o) (hl : Nat.ble cs.length 100000 = true := by rfl) (hn : (assignEach ts X.env).length = cs.length := by rfl) (hst : (assignEach ts X.env).findIdx? (·.1) = none := by rfl)
    (hs : swapsWithSole [.Tuple ts j p] (.Tuple es j2 p2) pos.line X.env = pure false := by rfl) (hw : swappedStores [.Tuple ts j p] (.Tuple es j2 p2) X.env = pure none := by rfl) (h1 : (assignEach [.Tuple ts j p] X.env).map (·.2) = [assign (.Tuple ts j p) X.env] := by rfl) : DB A X E δ s ((.Assign [.Tuple ts j p] (.Tuple es j2 p2) pos :: rest) :: bs) o := by
  obtain ⟨tt, pg, ev⟩ := hg
  refine db_step (ps_asg (pe_tup pa_w) (pg_tup hc pg hn hst) hs hw h1) (fun w σ en iv D q => h w σ en iv _ fun vs w1 l1 i1 d1 => ?_) r
  refine ⟨by rw [dvs_len d1]; exact line_of hl, fun b hb => ?_⟩
  have l2 := w1.new_le b (.tup vs) hb
  refine ⟨b, vs, rfl, SqT.of (show upd w1.H b _ b = _ from upd_same), dvs_len d1, ev (w1.new b (.tup vs) hb) σ vs (en.mono (l1.trans l2).g) (dvs_mono l2.g d1) _ fun σ' e2 _ => q σ' (w1.new b (.tup vs) hb) (l1.trans l2) (inv_new hb i1) e2⟩
/-- x, y = a new object, a value (plain local names) -/
theorem db_parM (i j : Nat) {x y : Str} {a b : Expr} {m : Mo} {c : Sl} {px py pt pt2 pos : Pos} {kt k2 : Nat} (hc : X.calm = true) (hN : X.N.Nodup) (h : DF A X δ s a (.m []) s) (h' : ∀ δ : Dl, EvD A X.K (wpT X b) δ s c s) (hcv : ∀ G v, DV X.K G v c → ∀ G', DV X.K G' v c)
    (r : ∀ D, (hD : ¬ A.M D) → ∃ o', OutUp A X.K D o' o ∧ DB (A.add X.K D) X E ((δ.set i (some (.r (.ref D)))).set j (some c)) (s, .m []) (rest :: bs) o')
    (hi : X.N[i]? = some x := by rfl) (hj : X.N[j]? = some y := by rfl) (hij : i ≠ j := by decide) (hx : X.env.scope.names.lookup x = some .local := by rfl) (hy : X.env.scope.names.lookup y = some .local := by rfl)
    (hw : swappedStores [.Tuple [.Name x px, .Name y py] kt pt] (.Tuple [a, b] k2 pt2) X.env = pure (some [x, y]) := by rfl) (hs : swapsWithSole [.Tuple [.Name x px, .Name y py] kt pt] (.Tuple [a, b] k2 pt2) pos.line X.env = pure false := by rfl)
    (he : starEach [a, b] X.env = (false, eval a X.env) :: starEach [b] X.env := by rfl) (he2 : starEach [b] X.env = (false, eval b X.env) :: starEach [] X.env := by rfl) : DB A X E δ s ((.Assign [.Tuple [.Name x px, .Name y py] kt pt] (.Tuple [a, b] k2 pt2) pos :: rest) :: bs) o := fun w σ en iv Ds q =>
  wp_cons (ps_par hc hN hi hj hij hx hy (pa_cons pe_w (pa_cons pe_w pa_nil he2) he) hw hs) (h w σ en iv _ fun D w1 l1 i1 hw0 hG hM ok => h' δ w1 σ (en.mono l1.g) i1 _ fun v w2 l2 i2 d2 => by
    have ok2 : MoOk X.K w2.G w2.H D (.m []) := l2.h D _ hM ok
    have hG2 : w2.G D = none := l2.f D ok.mu hG
    obtain ⟨o', hu, hb⟩ := r D hM
    refine ⟨.ref D, v, rfl, ?_⟩
    exact hb (w2.up X.K D hG2 ok2.mu) _ (((en.mono (l1.trans l2).g).set i (c := .r (.ref D)) rfl).set j d2) ⟨i2, ok2⟩ Ds (outUp_ok hu q (l1.trans l2) hw0 hM))
end
/-! entries, equal as data -/
theorem eqv_key (a b : Key) : PyData.eqv (keyD a) (keyD b) = decide (a = b) := by
  cases a with
  | inl i =>
    cases b with
    | inl j =>
      show decide (i = j) = _
      exact decide_eq_decide.mpr ⟨fun e => by rw [e], fun e => Sum.inl.inj e⟩
    | inr y => exact (decide_eq_false (fun z => nomatch z)).symm
  | inr x =>
    cases b with
    | inl j => exact (decide_eq_false (fun z => nomatch z)).symm
    | inr y =>
      show PyData.eqv (.str x) (.str y) = _
      rw [eqv_str]
      by_cases e : x = y
      · subst e
        rw [decide_eq_true rfl]; simp
      · rw [decide_eq_false (fun z => e (Sum.inr.inj z))]; simpa using e
theorem eqv_keysA : ∀ a b : List Key, PyData.eqvAll (a.map keyD) (b.map keyD) = decide (a = b)
  | [], [] => rfl
  | [], _ :: _ => (decide_eq_false (fun z => nomatch z)).symm
  | _ :: _, [] => (decide_eq_false (fun z => nomatch z)).symm
  | x :: a, y :: b => by
    rw [List.map_cons, List.map_cons, PyData.eqvAll, eqv_key, eqv_keysA a b]
    by_cases e : x = y
    · by_cases f : a = b
      · rw [e, f]; simp
      · rw [decide_eq_false f, decide_eq_false (fun z => f (List.cons.inj z).2)]; simp
    · rw [decide_eq_false e, decide_eq_false (fun z => e (List.cons.inj z).1)]; rfl
theorem eqv_ent (a b : Ent) : PyData.eqv a.enc b.enc = decide (a = b) := by
  rw [← ky_enc, ← ky_enc]
  show PyData.eqvAll (a.ky.map keyD) (b.ky.map keyD) = _
  rw [eqv_keysA]
  exact decide_eq_decide.mpr ⟨ky_inj a b, fun e => by rw [e]⟩
theorem any_ent (l : List Ent) (e : Ent) : (l.map Ent.enc).any (fun z => PyData.eqv z e.enc) = decide (e ∈ l) := by
  rw [List.any_map, Bool.eq_iff_iff, List.any_eq_true, decide_eq_true_eq]
  constructor
  · rintro ⟨x, m, h⟩
    have h : PyData.eqv x.enc e.enc = true := h
    rw [eqv_ent] at h
    rw [← of_decide_eq_true h]
    exact m
  · exact fun m => ⟨e, m, by show PyData.eqv e.enc e.enc = true; rw [eqv_ent]; exact decide_eq_true rfl⟩
/-! more paths, fewer open entries -/
theorem opn_mono {D : Dsg} {ps : List (Int × Int)} (h : ∀ p ∈ D.ps, p ∈ ps) (e : Ent) (o : opn (D.with ps) e = true) : opn D e = true := by
  cases e with
  | value k u d =>
    have hin : ∀ p, D.inP p = true → (D.with ps).inP p = true := fun p hp => by
      unfold Dsg.inP at hp ⊢
      rw [List.any_eq_true] at hp ⊢
      obtain ⟨q, m, e⟩ := hp
      exact ⟨q, h q m, e⟩
    have o : (!(decide (D.pla k (S "written") < D.rd + d) || (D.sm && decide (D.rd + d = D.pla k (S "written")))) && (!(D.with ps).inP (D.pla u.1 (usedW u.1 u.2) + d, D.pla u.1 (usedW u.1 u.2)) || decide (D.pla u.1 (usedW u.1 u.2) + d ≤ D.pla k (S "made")))) = true := o
    show (!(decide (D.pla k (S "written") < D.rd + d) || (D.sm && decide (D.rd + d = D.pla k (S "written")))) && (!D.inP (D.pla u.1 (usedW u.1 u.2) + d, D.pla u.1 (usedW u.1 u.2)) || decide (D.pla u.1 (usedW u.1 u.2) + d ≤ D.pla k (S "made")))) = true
    rw [Bool.and_eq_true] at o ⊢
    refine ⟨o.1, ?_⟩
    have o2 := o.2
    rw [Bool.or_eq_true] at o2 ⊢
    refine o2.imp (fun z => ?_) id
    cases hp : D.inP (D.pla u.1 (usedW u.1 u.2) + d, D.pla u.1 (usedW u.1 u.2)) with
    | false => rfl
    | true => rw [hin _ hp] at z; cases z
  | order => exact o
  | mem b => cases b <;> exact o
  | wrong => exact o
end Kp
end
section
set_option Elab.async false
set_option linter.all false
set_option maxRecDepth 100000
set_option maxHeartbeats 4000000
namespace Kp
open PySem PySem.Spec PyProof.Rows L2
/-! the plain law -/
theorem vE_inj {a b : VE} (h : vE a = vE b) : a = b := by
  obtain ⟨k, u, d⟩ := a
  obtain ⟨k', u', d'⟩ := b
  have h : Ent.value k u d = Ent.value k' u' d' := h
  injection h with h1 h2 h3
  rw [h1, h2, h3]
def vk (x : VE) : List Key := (vE x).ky
theorem vk_inj (a b : VE) (h : vk a = vk b) : a = b := vE_inj (ky_inj _ _ h)
theorem vks_enc (l : List VE) : (l.map vk).map keysD = l.map fun x => (vE x).enc := by
  rw [List.map_map]
  exact List.map_congr_left fun x _ => ky_enc (vE x)
theorem asc_vk (l : List VE) : ascV (sortU vk l) := asc_sortU vk vk_inj l
theorem mem_vk {x : VE} {l : List VE} : x ∈ sortU vk l ↔ x ∈ l := mem_sortU vk vk_inj x l
theorem ne_vk (x : VE) : vk x ≠ [] := by
  obtain ⟨y, r, e⟩ := ky_fst (vE x)
  show (vE x).ky ≠ []
  rw [e]
  exact fun z => nomatch z
def toV : Ent → Option VE
  | .value k u d => some (k, u, d)
  | _ => none
theorem toV_eq {e : Ent} {x : VE} (h : toV e = some x) : e = vE x := by
  cases e with
  | value k u d =>
    have h : some (k, u, d) = some x := h
    injection h with h
    subst h
    rfl
  | order => cases h
  | mem => cases h
  | wrong => cases h
def valsL : List VE := allS.filterMap toV
theorem vals_map : ∀ l : List Ent, (l.filterMap toV).map (fun x => (vE x).enc) = (l.filter fun e => (toV e).isSome).map Ent.enc
  | [] => rfl
  | e :: l => by
    rw [List.filterMap_cons, List.filter_cons]
    cases h : toV e with
    | none => exact vals_map l
    | some x =>
      show _ :: _ = _ :: _
      rw [vals_map l, toV_eq h]
theorem vals_ok {x : VE} (h : x ∈ valsL) : (vE x).okB = true := by
  obtain ⟨e, m, q⟩ := List.mem_filterMap.mp h
  rw [← toV_eq q]
  exact mem_allS.mp m
theorem vals_len : valsL.length ≤ 406 := Nat.le_trans (List.length_filterMap_le _ _) allS_len
theorem vals_pos : 0 < valsL.length := List.length_pos_of_mem (a := (S "set", (S "sum", S "a"), 1)) (List.mem_filterMap.mpr ⟨.value (S "set") (S "sum", S "a") 1, mem_allS.mpr (by decide +kernel), rfl⟩)
theorem is_val (e : Ent) : PyData.eqv (.str (match e with | .value .. => S "value" | .order .. => S "order" | .mem .. => S "memory" | .wrong .. => S "wrong")) (.str (S "value")) = (toV e).isSome := by
  cases e with
  | value => exact (by decide +kernel : PyData.eqv (.str (S "value")) (.str (S "value")) = true)
  | order => exact (by decide +kernel : PyData.eqv (.str (S "order")) (.str (S "value")) = false)
  | mem => exact (by decide +kernel : PyData.eqv (.str (S "memory")) (.str (S "value")) = false)
  | wrong => exact (by decide +kernel : PyData.eqv (.str (S "wrong")) (.str (S "value")) = false)
/-! what a path more spares -/
theorem due_eq (D D' : Dsg) : (opns D).filter (fun e => !((opns D').map Ent.enc).any fun z => PyData.eqv z e.enc) = sprd D D' := by
  refine List.filter_congr fun e m => ?_
  show (!(List.map Ent.enc (opns D')).any fun z => PyData.eqv z e.enc) = _
  rw [any_ent]
  have a := (List.mem_filter.mp m).1
  cases o : opn D' e with
  | true => rw [decide_eq_true (show e ∈ opns D' from List.mem_filter.mpr ⟨a, o⟩)]
  | false => rw [decide_eq_false (show ¬ e ∈ opns D' from fun z => by rw [(List.mem_filter.mp z).2] at o; cases o)]
theorem left_nil {D : Dsg} {ps : List (Int × Int)} (h : ∀ p ∈ D.ps, p ∈ ps) : (opns (D.with ps)).filter (fun e => !((opns D).map Ent.enc).any fun z => PyData.eqv z e.enc) = [] := by
  refine List.filter_eq_nil_iff.mpr fun e m => ?_
  show ¬ (!(List.map Ent.enc (opns D)).any fun z => PyData.eqv z e.enc) = true
  rw [any_ent, decide_eq_true (show e ∈ opns D from List.mem_filter.mpr ⟨(List.mem_filter.mp m).1, opn_mono h e (List.mem_filter.mp m).2⟩)]
  decide
/-! picks -/
def rwN (m : Nat) : Nat → Rw → Rw
  | 0, r => r
  | i + 1, r => (takeN (rwN m i r) m).2
def pkI (l : List VE) (r : Rw) (i : Nat) : VE := l.getD (takeN (rwN l.length i r) l.length).1.toNat v0
def pkN (l : List VE) (n : Nat) (r : Rw) : List VE := (List.range n).map (pkI l r)
theorem rwN_ok {m : Nat} {r : Rw} (h : r.Ok) : ∀ i, (rwN m i r).Ok
  | 0 => h
  | i + 1 => takeN_ok (rwN_ok h i)
theorem pkI_in {l : List VE} {r : Rw} {i : Nat} (h : 0 < l.length) : pkI l r i ∈ l := by
  have t := takeN_lt (w := rwN l.length i r) (n := (l.length : Int)) (by omega)
  exact getD_in (by omega)
theorem pkN_in {l : List VE} {n : Nat} {r : Rw} (h : 0 < l.length) {x : VE} (m : x ∈ pkN l n r) : x ∈ l := by
  obtain ⟨i, _, rfl⟩ := List.mem_map.mp m
  exact pkI_in h
theorem pkN_len (l : List VE) (n : Nat) (r : Rw) : (pkN l n r).length = n := by
  unfold pkN
  rw [List.length_map, List.length_range]
/-! the paths found -/
def fdN (D : Dsg) (m : List VE) : List (Int × Int) := m.foldl (fun l x => addU l (vPth D x)) []
theorem fd_fold (D : Dsg) : ∀ (m : List VE) (l : List (Int × Int)), l.Nodup → (m.foldl (fun l x => addU l (vPth D x)) l).Nodup ∧ (∀ p, p ∈ m.foldl (fun l x => addU l (vPth D x)) l ↔ p ∈ l ∨ p ∈ m.map (vPth D)) ∧ (m.foldl (fun l x => addU l (vPth D x)) l).length ≤ l.length + m.length
  | [], l, h => ⟨h, fun p => by simp, Nat.le_refl _⟩
  | x :: m, l, h => by
    obtain ⟨a, b, c⟩ := fd_fold D m (addU l (vPth D x)) (addU_nodup h)
    refine ⟨a, fun p => ?_, ?_⟩
    · show p ∈ m.foldl (fun l x => addU l (vPth D x)) (addU l (vPth D x)) ↔ _
      rw [b p, List.map_cons, List.mem_cons]
      unfold addU
      split
      · rename_i q
        constructor
        · rintro (y | y)
          · exact .inl y
          · exact .inr (.inr y)
        · rintro (y | y | y)
          · exact .inl y
          · exact .inl (y ▸ q)
          · exact .inr y
      · rw [List.mem_append, List.mem_singleton]
        constructor
        · rintro ((y | y) | y)
          · exact .inl y
          · exact .inr (.inl y)
          · exact .inr (.inr y)
        · rintro (y | y | y)
          · exact .inl (.inl y)
          · exact .inl (.inr y)
          · exact .inr y
    · have : (addU l (vPth D x)).length ≤ l.length + 1 := addU_len
      show (m.foldl (fun l x => addU l (vPth D x)) (addU l (vPth D x))).length ≤ _
      rw [List.length_cons]
      omega
theorem fdN_nodup (D : Dsg) (m : List VE) : (fdN D m).Nodup := (fd_fold D m [] List.nodup_nil).1
theorem fdN_mem (D : Dsg) (m : List VE) (p : Int × Int) : p ∈ fdN D m ↔ p ∈ m.map (vPth D) := by
  rw [fdN, (fd_fold D m [] List.nodup_nil).2.1 p]
  simp
theorem fdN_len (D : Dsg) (m : List VE) : (fdN D m).length ≤ m.length := by
  have := (fd_fold D m [] List.nodup_nil).2.2
  simpa [fdN] using this
theorem fdN_succ {D : Dsg} {m : List VE} {i : Nat} (h : i < m.length) : fdN D (m.take (i + 1)) = addU (fdN D (m.take i)) (vPth D (m.getD i v0)) := by
  rw [getD_at h, List.take_succ, List.getElem?_eq_getElem h]
  unfold fdN
  rw [List.foldl_append]
  rfl
def gd (D : Dsg) (m : List VE) (i : Nat) : Bool := !(m.take i).any (vFar D)
theorem gd_succ {D : Dsg} {m : List VE} {i : Nat} (h : i < m.length) : gd D m (i + 1) = (gd D m i && !vFar D (m.getD i v0)) := by
  unfold gd
  rw [getD_at h, List.take_succ, List.getElem?_eq_getElem h, List.any_append, Bool.not_or]
  simp
theorem gd_all (D : Dsg) (l : List VE) : gd D (l.filter (vOpn D)) (l.filter (vOpn D)).length = !l.any (vBad D) := by
  unfold gd
  rw [List.take_length, List.any_filter]
  rfl
/-! the paths made close what they were made for -/
theorem pla_nn {D : Dsg} (ok : D.Ok) (k w : Str) : 0 ≤ D.pla k w := by
  unfold Dsg.pla
  generalize (plI k w).1 = a
  generalize (plI k w).2 = b
  by_cases h : a < D.rows.length
  · rw [getD_at h]
    by_cases g : b < D.rows[a].length
    · rw [getD_at g]
      have q := List.all_eq_true.mp (List.all_eq_true.mp ok.pl _ (List.getElem_mem h)) _ (List.getElem_mem g)
      unfold pB at q
      rw [Bool.and_eq_true] at q
      exact of_decide_eq_true q.1
    · rw [List.getD_eq_getElem?_getD, List.getElem?_eq_none (by omega)]
      exact Int.le_refl _
  · rw [List.getD_eq_getElem?_getD (l := D.rows), List.getElem?_eq_none (by omega)]
    exact Int.le_refl _
theorem fnd_mem {D : Dsg} {l : List VE} {x : VE} (h : x ∈ l) (o : vOpn D x = true) : vPth D x ∈ fndV D l := List.mem_map_of_mem (List.mem_filter.mpr ⟨h, o⟩)
theorem fnd_okP {D : Dsg} {l : List VE} (ok : D.Ok) (h : ∀ x ∈ l, (vE x).okB = true) (g : l.any (vBad D) = false) {p : Int × Int} (m : p ∈ fndV D l) : okP p = true := by
  obtain ⟨x, mx, rfl⟩ := List.mem_map.mp m
  obtain ⟨mx, o⟩ := List.mem_filter.mp mx
  obtain ⟨_, _, d1, _⟩ := ent_ok (k := x.1) (u := x.2.1) (d := x.2.2) (h x mx)
  have nb : vBad D x = false := by
    cases e : vBad D x with
    | false => rfl
    | true => rw [List.any_eq_true.mpr ⟨x, mx, e⟩] at g; cases g
  unfold vBad at nb
  rw [o, Bool.true_and] at nb
  unfold vFar at nb
  rw [Bool.or_eq_false_iff, decide_eq_false_iff_not, decide_eq_false_iff_not] at nb
  have nn : 0 ≤ vUs D x := pla_nn ok _ _
  have a := nb.1
  show (decide (0 ≤ vUs D x + x.2.2) && decide (vUs D x + x.2.2 ≤ 7) && (decide (0 ≤ vUs D x) && decide (vUs D x ≤ 7) && decide (vUs D x < vUs D x + x.2.2))) = true
  simp only [Bool.and_eq_true, decide_eq_true_eq]
  omega
theorem whole_closes {D : Dsg} {l : List VE} (g : l.any (vBad D) = false) {ps : List (Int × Int)} (h1 : ∀ p ∈ D.ps, p ∈ ps) (h2 : ∀ p ∈ fndV D l, p ∈ ps) {x : VE} (m : x ∈ l) : opn (D.with ps) (vE x) = false := by
  cases e : opn (D.with ps) (vE x) with
  | false => rfl
  | true =>
    exfalso
    have o : vOpn D x = true := opn_mono h1 _ e
    have ip : (D.with ps).inP (vPth D x) = true := by
      unfold Dsg.inP
      exact List.any_eq_true.mpr ⟨_, h2 _ (fnd_mem m o), by simp⟩
    have nb : vBad D x = false := by
      cases e : vBad D x with
      | false => rfl
      | true => rw [List.any_eq_true.mpr ⟨x, m, e⟩] at g; cases g
    unfold vBad at nb
    rw [o, Bool.true_and] at nb
    unfold vFar at nb
    rw [Bool.or_eq_false_iff, decide_eq_false_iff_not, decide_eq_false_iff_not] at nb
    have e : (!(decide (D.pla x.1 (S "written") < D.rd + x.2.2) || (D.sm && decide (D.rd + x.2.2 = D.pla x.1 (S "written")))) && (!(D.with ps).inP (vPth D x) || decide (vUs D x + x.2.2 ≤ vMk D x))) = true := e
    rw [ip, decide_eq_false nb.2] at e
    simp at e
end Kp
end
section
set_option Elab.async false
set_option linter.all false
set_option maxRecDepth 100000
set_option maxHeartbeats 4000000
namespace Kp
open PySem PySem.Spec PyProof.Rows L2
theorem ent_lays {e : Ent} (h : e.okB = true) : ∀ z ∈ e.row, (∃ i, z = .int i) ∨ ∃ x, z = .str x ∧ SeqAt.shaped (.str x) = true := by
  have W : ∀ x ∈ writingL, SeqAt.shaped (.str x) = true := by decide +kernel
  have J : ∀ x ∈ jumpsL, SeqAt.shaped (.str x) = true := by decide +kernel
  have F : ∀ x ∈ effectsL, SeqAt.shaped (.str x) = true := by decide +kernel
  have U : ∀ x ∈ usersL, SeqAt.shaped (.str x.1) = true ∧ SeqAt.shaped (.str x.2) = true := by decide +kernel
  have s1 : SeqAt.shaped (.str (S "value")) = true := by decide +kernel
  have s2 : SeqAt.shaped (.str (S "order")) = true := by decide +kernel
  have s3 : SeqAt.shaped (.str (S "memory")) = true := by decide +kernel
  have s4 : SeqAt.shaped (.str (S "wrong")) = true := by decide +kernel
  have s5 : SeqAt.shaped (.str (S "load")) = true := by decide +kernel
  have s6 : SeqAt.shaped (.str (S "store")) = true := by decide +kernel
  cases e with
  | value k u d =>
    have h : (writingL.contains k && (usersL.contains u && (decide (1 ≤ d) && decide (d ≤ 7)))) = true := h
    simp only [Bool.and_eq_true] at h
    have a := W k (mem_c h.1)
    have b := U u (mem_c h.2.1)
    intro z m
    simp only [Ent.row, List.mem_cons, List.not_mem_nil, or_false] at m
    rcases m with rfl | rfl | rfl | rfl | rfl
    · exact .inr ⟨_, rfl, s1⟩
    · exact .inr ⟨_, rfl, a⟩
    · exact .inr ⟨_, rfl, b.1⟩
    · exact .inr ⟨_, rfl, b.2⟩
    · exact .inl ⟨_, rfl⟩
  | order k l d =>
    have h : (writingL.contains k && (writingL.contains l && (decide (1 ≤ d) && decide (d ≤ 7)))) = true := h
    simp only [Bool.and_eq_true] at h
    have a := W k (mem_c h.1)
    have b := W l (mem_c h.2.1)
    intro z m
    simp only [Ent.row, List.mem_cons, List.not_mem_nil, or_false] at m
    rcases m with rfl | rfl | rfl | rfl
    · exact .inr ⟨_, rfl, s2⟩
    · exact .inr ⟨_, rfl, a⟩
    · exact .inr ⟨_, rfl, b⟩
    · exact .inl ⟨_, rfl⟩
  | mem b d =>
    intro z m
    cases b <;>
    · simp only [Ent.row, List.mem_cons, List.not_mem_nil, or_false] at m
      rcases m with rfl | rfl | rfl | rfl
      · exact .inr ⟨_, rfl, s3⟩
      · exact .inr ⟨_, rfl, by assumption⟩
      · exact .inr ⟨_, rfl, by assumption⟩
      · exact .inl ⟨_, rfl⟩
  | wrong j x d =>
    have h : (jumpsL.contains j && (effectsL.contains x && (decide (1 ≤ d) && decide (d ≤ 7)))) = true := h
    simp only [Bool.and_eq_true] at h
    have a := J j (mem_c h.1)
    have b := F x (mem_c h.2.1)
    intro z m
    simp only [Ent.row, List.mem_cons, List.not_mem_nil, or_false] at m
    rcases m with rfl | rfl | rfl | rfl
    · exact .inr ⟨_, rfl, s4⟩
    · exact .inr ⟨_, rfl, a⟩
    · exact .inr ⟨_, rfl, b⟩
    · exact .inl ⟨_, rfl⟩
theorem shaped_tup {n : Nat} {xs : List PyData} (hn : n + 1 ≤ 64) (h : ∀ z ∈ xs, z.canLay0 = true ∧ z.depth ≤ n) : PyData.canLayAll0 xs = true ∧ PyData.depthAll xs ≤ n := by
  induction xs with
  | nil => exact ⟨by simp [PyData.canLayAll0], by simp [PyData.depthAll]⟩
  | cons x xs ih =>
    obtain ⟨a, b⟩ := ih fun z m => h z (List.mem_cons_of_mem _ m)
    obtain ⟨c, d⟩ := h x List.mem_cons_self
    exact ⟨by simp [PyData.canLayAll0, a, c], by simp only [PyData.depthAll]; omega⟩
theorem ent_lay {e : Ent} (h : e.okB = true) : e.enc.canLay0 = true ∧ e.enc.depth ≤ 2 := by
  obtain ⟨a, b⟩ := shaped_tup (n := 1) (xs := e.row) (by decide) fun z m => by
    rcases ent_lays h z m with ⟨i, rfl⟩ | ⟨x, rfl, s⟩
    · exact ⟨by simp [PyData.canLay0], by simp [PyData.depth]⟩
    · unfold SeqAt.shaped at s
      rw [Bool.and_eq_true] at s
      exact ⟨s.1, by simp [PyData.depth]⟩
  unfold Ent.enc
  exact ⟨by simp [PyData.canLay0, a], by simp only [PyData.depth]; omega⟩
theorem ent_shaped {e : Ent} (h : e.okB = true) : SeqAt.shaped e.enc = true := by
  obtain ⟨a, b⟩ := ent_lay h
  unfold SeqAt.shaped
  rw [Bool.and_eq_true]
  exact ⟨a, decide_eq_true (by omega)⟩
theorem ents_shaped {l : List Ent} (h : ∀ e ∈ l, e.okB = true) : SeqAt.shaped (.list (l.map Ent.enc)) = true := by
  obtain ⟨a, b⟩ := shaped_tup (n := 2) (xs := l.map Ent.enc) (by decide) fun z m => by
    obtain ⟨e, m2, rfl⟩ := List.mem_map.mp m
    exact ent_lay (h e m2)
  unfold SeqAt.shaped
  rw [Bool.and_eq_true]
  exact ⟨by simp [PyData.canLay0, a], decide_eq_true (by simp only [PyData.depth]; omega)⟩
theorem opns_shaped (D : Dsg) : SeqAt.shaped (.list ((opns D).map Ent.enc)) = true := ents_shaped fun _ m => opns_ok m
theorem ent_nice {e : Ent} (h : e.okB = true) : nice 1 e.enc = true := by
  show (decide (e.row.length ≤ 1000) && e.row.all (nice 0)) = true
  rw [Bool.and_eq_true]
  refine ⟨?_, List.all_eq_true.mpr fun z m => ?_⟩
  · cases e with
    | mem b d => cases b <;> rfl
    | _ => rfl
  · rcases ent_lays h z m with ⟨i, rfl⟩ | ⟨x, rfl, s⟩
    · rfl
    · exact s
theorem ents_nice {l : List Ent} (h : ∀ e ∈ l, e.okB = true) (n : l.length ≤ 1000) : nice 2 (.tuple (l.map Ent.enc)) = true := by
  show (decide ((l.map Ent.enc).length ≤ 1000) && (l.map Ent.enc).all (nice 1)) = true
  rw [Bool.and_eq_true, List.length_map]
  refine ⟨decide_eq_true n, List.all_eq_true.mpr fun z m => ?_⟩
  obtain ⟨e, m2, rfl⟩ := List.mem_map.mp m
  exact ent_nice (h e m2)
theorem pths_nice {l : List (Int × Int)} (n : l.length ≤ 1000) : nice 2 (pths l) = true := by
  show (decide ((l.map pth).length ≤ 1000) && (l.map pth).all (nice 1)) = true
  rw [Bool.and_eq_true, List.length_map]
  refine ⟨decide_eq_true n, List.all_eq_true.mpr fun z m => ?_⟩
  obtain ⟨e, m, rfl⟩ := List.mem_map.mp m
  rfl
theorem de_draw {A : Amb} {X : Cx} {δ : Dl} {s s1 : A.S} {D : Addr} (L : Ln A X.K D) (F : DDesign X.prog X.w X.K X.mg X.base) (hr : Room 3 X.A) {row : Expr} {r r' : Rw} {d : Dsg} {p pos : Pos} (hrow : DE A X δ s row (.r (.ref D)) s) (h : drawD r = (d, r')) (hs : L.get s = .l (rowD r)) (ok : r.Ok) (hp : L.put s (.l (rowD r')) = s1 := by rfl) (hg : Gl X "_law_design" := by rfl)
    (he : starEach [row] X.env = (false, eval row X.env) :: starEach [] X.env := by rfl) (hpl : (backTo pos (starEach [] X.env)).any (·.1) = false := by rfl) : DE A X δ s (.Call (.Name "_law_design" p) [row] [] pos) (.d d.enc) s1 := by
  subst hp
  have := de_callM L F hr (da_cons hrow da_nil he) hs (m' := .l (rowD (drawD r).2)) (c := .d (drawD r).1.enc) ⟨r, ok, rfl, rfl, rfl, rfl⟩ hg (by decide) he hpl (pos := pos) (p := p)
  rw [h] at this
  exact this
abbrev N54 : List Str := ["_law_script", "_law_opens_here", "_law_spots", "_law_to", "_law_path", "_law_other", "_law_left", "_law_entry", "_law_due", "_law_values", "_law_near", "_law_found", "_law_good", "_law_used", "_law_paths", "_law_whole", "_law_bad", "_law_design_here", "_law_odd", "_law_row", "_law_some", "_law_turn"]
theorem sc54 : FnScope N54 ["_law_script"] (defScope (top 54)) := ⟨rfl, rfl, rfl, by decide +kernel, rfl, by decide +kernel, by decide +kernel⟩
section
variable {P : Program} {w : World} {K : Fg} {mg : Str → Option Value} {base : Heap}
abbrev LX (P : Program) (w : World) (K : Fg) (mg : Str → Option Value) (base : Heap) (f : Addr) (cdv : Value) (B : Around) (outer : List Env) (s : Shared) (H : Hp) (E : XK) : Cx := Cf P w K mg base N54 "law" (top 54) f cdv B outer s H E
/-- the first eight statements: a path more, and what it spares -/
theorem law_one {A : Amb} {f : Addr} {cdv : Value} {B : Around} {outer : List Env} {s : Shared} {H : Hp} {E : XK} {R : Addr} (hR : ¬ A.M R) {sA : A.S} {scr : List Int} {CP : Addr} {D : Dsg} {r0 r1 r2 r3 : Rw} {t u : Int} (N : Nms mg)
    (GT : DTaken P w K mg base) (GD : DDesign P w K mg base) (GPl : DPlaces P w K mg base) (GLO : DLOpens P w K mg base) (GA : DAlike P w K mg base 2) (GS : DSpared P w K mg base CP) (hr : Room 12 (LX P w K mg base f cdv B outer s H E).A)
    (ok0 : r0.Ok) (hd : drawD r0 = (D, r1)) (ht : takeN r1 7 = (t, r2)) (hu : takeN r2 (7 - t) = (u, r3)) {o : Out (A.add K R)}
    (next : DB (A.add K R) (LX P w K mg base f cdv B outer s H E) E [some (.d (.list (scr.map .int))), some (.d (eD (opns D))), some (.t (spots D)), some (.d (.int t)), some (.d (pth (t + 1 + u, t))), some (.d (D.with (sortU pk (D.ps ++ [(t + 1 + u, t)]))).enc), some (.d (eD (opns (D.with (sortU pk (D.ps ++ [(t + 1 + u, t)])))))), none, some (.d (.tuple ((sprd D (D.with (sortU pk (D.ps ++ [(t + 1 + u, t)])))).map Ent.enc))), none, none, none, none, none, none, none, none, some (.d D.enc), none, some (.r (.ref R)), none, none] (sA, .l (rowD r3)) [(defBody (top 54)).drop 9] o) :
    DB (A.add K R) (LX P w K mg base f cdv B outer s H E) E [some (.d (.list (scr.map .int))), none, none, none, none, none, none, none, none, none, none, none, none, none, none, none, none, none, none, some (.r (.ref R)), none, none] (sA, .l (rowD r0)) [(defBody (top 54)).drop 1] o := by
  have nd := sc54.nd
  obtain ⟨okD, ok1, few⟩ := drawD_ok ok0
  rw [hd] at okD ok1 few
  dsimp only at okD ok1 few
  obtain ⟨t0, t1, ok2⟩ := takeN_b ht ok1 (by decide)
  obtain ⟨u0, u1, ok3⟩ := takeN_b hu ok2 (by omega)
  generalize hp : ((t + 1 + u, t) : Int × Int) = p at next
  have okp : okP p = true := by
    subst hp
    show (decide (0 ≤ t + 1 + u) && decide (t + 1 + u ≤ 7) && (decide (0 ≤ t) && decide (t ≤ 7) && decide (t < t + 1 + u))) = true
    simp only [Bool.and_eq_true, decide_eq_true_eq]
    omega
  refine db_set (s1 := (sA, .l (rowD r1))) (c := .d D.enc) 17 nd ?_ ?_
  · exact de_draw (Ln.top hR) GD (hr.mono (by decide)) (de_var 19) hd rfl ok0
  refine db_asgT (cs := [.d (eD (opns D)), .t (spots D)]) (s1 := (sA, .l (rowD r1))) rfl (da_cons (s1 := (sA, .l (rowD r1))) (de_call GLO (hr.mono (by decide)) (da_cons (de_var 17) da_nil) ⟨D, rfl, rfl⟩) (da_cons (de_call GPl (hr.mono (by decide)) (da_cons (de_var 17) da_nil) ⟨D, rfl, rfl⟩) da_nil)) (dgs_cons (dg_name 1 nd) (dgs_cons (dg_name 2 nd) dgs_nil)) ?_
  refine db_set (s1 := (sA, .l (rowD r2))) 3 nd (de_take (Ln.top hR) GT (hr.mono (by decide)) (de_var 19) de_int ht rfl ok1 (by decide) (by decide)) ?_
  refine db_set (s1 := (sA, .l (rowD r3))) (c := .d (pth p)) 4 nd (DE.eq (de_tup (ds := [.int (t + 1 + u), .int t]) (da_cons (de_add (de_add (de_var 3) de_int) (de_take (Ln.top hR) GT (hr.mono (by decide)) (de_var 19) (de_sub de_int (de_var 3)) hu rfl ok2 (by omega) (by omega))) (da_cons (de_var 3) da_nil))) (by rw [← hp]; rfl)) ?_
  have few' : (D.ps ++ [p]).length < 64 := by rw [List.length_append]; show D.ps.length + 1 < 64; omega
  refine db_set (s1 := (sA, .l (rowD r3))) (c := .d (D.with (sortU pk (D.ps ++ [p]))).enc) 5 nd (de_addT (de_cut (es := [.int D.rd, .bool D.sm, D.pl]) (de_var 17) do_none (do_some de_int)) (de_tup (ds := [pths (sortU pk (D.ps ++ [p])), .tuple []]) (da_cons ?_ (da_cons (de_ix (de_var 17) de_int) da_nil))) (Nat.le_of_ble_eq_true rfl)) ?_
  · refine DE.eq (c := .d (.tuple (((sortU pk (D.ps ++ [p])).map pk).map keysD))) (de_tupL N (de_sset (ks := (D.ps ++ [p]).map pk) N rfl hr (dr_t (DE.eq (c := .d (.tuple (D.ps.map pth ++ [pth p]))) (de_addT (de_ix (de_var 17) de_int) (de_tup (ds := [pth p]) (da_cons (de_var 4) da_nil)) ?_) ?_)) ?_ (fun q hq r hr => ?_) (fun r hr => ?_) (sortU_asc pk pk_inj _) (sortU_mem pk pk_inj _))) (by rw [pks_enc]; rfl)
    · rw [List.length_map]; show D.ps.length + 1 ≤ 100000; omega
    · rw [pks_enc, List.map_append]; rfl
    · rw [List.length_map]; exact few'
    · obtain ⟨a, _, rfl⟩ := List.mem_map.mp hq
      obtain ⟨b, _, rfl⟩ := List.mem_map.mp hr
      exact pk_alike a b
    · obtain ⟨a, _, rfl⟩ := List.mem_map.mp hr
      exact fun z => nomatch z
  generalize hW : D.with (sortU pk (D.ps ++ [p])) = W at next
  refine db_set (s1 := (sA, .l (rowD r3))) (c := .d (eD (opns W))) 6 nd (de_call GLO (hr.mono (by decide)) (da_cons (de_var 5) da_nil) ⟨W, rfl, rfl⟩) ?_
  refine db_set (s1 := (sA, .l (rowD r3))) (c := .d (.tuple ((sprd D W).map Ent.enc))) 8 nd (de_tupL N ?_) ?_
  · rw [← due_eq, ← outs_ent']
    refine de_lcN (j := 7) (n := (opns D).length) (item := fun i => .d ((opns D).getD i e0).enc) (f := fun i => !((opns W).map Ent.enc).any fun z => PyData.eqv z ((opns D).getD i e0).enc) (g := fun i => ((opns D).getD i e0).enc) rfl nd (blkOk_by (N := N54) (sc := defScope (top 54)) (by decide +kernel)) (di_listM Ent.enc e0 (de_var 1)) (Nat.le_trans (opns_len D) (by decide)) (fun i hi sh H C cl fp => ?_) (fun i hi hf sh H C cl fp => de_var 7)
    exact dts_one (dt_niL hr (de_var 7) (de_var 6) (ent_shaped (opns_ok (getD_in hi))) (opns_shaped W))
  refine db_if (z := false) ?_ (fun h => by cases h) (fun _ => db_pop next)
  refine DT.eq (dt_or (y := false) (dt_not (dt_val (de_call GA (hr.mono (by decide)) (da_cons (s1 := (sA, .l (rowD r3))) (de_call GS (hr.mono (by decide)) (da_cons (de_var 17) (da_cons (de_var 4) da_nil)) ⟨D, okD, by omega, .inl ⟨p, okp, rfl, rfl⟩⟩) (da_cons (de_var 8) da_nil)) ⟨.tuple ((sprd D W).map Ent.enc), ents_nice (fun e m => opns_ok (List.mem_filter.mp m).1) ?_, by rw [hW], rfl⟩))) (fun _ => ?_)) rfl
  · exact Nat.le_trans (List.length_filter_le _ _) (Nat.le_trans (opns_len D) (by decide))
  · refine dw_or1 (DT.eq (dt_ne hr (DE.eq (c' := .d (.list [])) (de_lcN (j := 7) (n := (opns W).length) (item := fun i => .d ((opns W).getD i e0).enc) (f := fun i => !((opns D).map Ent.enc).any fun z => PyData.eqv z ((opns W).getD i e0).enc) (g := fun i => ((opns W).getD i e0).enc) rfl nd (blkOk_by (N := N54) (sc := defScope (top 54)) (by decide +kernel)) (di_listM Ent.enc e0 (de_var 6)) (Nat.le_trans (opns_len W) (by decide)) (fun i hi sh H C cl fp => ?_) (fun i hi hf sh H C cl fp => de_var 7)) ?_) (de_lst (ds := []) da_nil) (by decide +kernel) (by decide +kernel)) (by decide +kernel))
    · exact dts_one (dt_niL hr (de_var 7) (de_var 1) (ent_shaped (opns_ok (getD_in hi))) (opns_shaped D))
    · rw [outs_ent' (p := fun e => !((opns D).map Ent.enc).any fun z => PyData.eqv z e.enc), ← hW, left_nil fun q m => (mem_sortU pk pk_inj q _).mpr (List.mem_append_left _ m)]
      rfl
end
end Kp
end
section
set_option Elab.async false
set_option linter.all false
set_option maxRecDepth 100000
set_option maxHeartbeats 4000000
namespace Kp
open PySem PySem.Spec PyProof.Rows L2
def vEs (l : List VE) : List PyData := l.map fun x => (vE x).enc
def eV (l : List VE) : PyData := .list (vEs l)
theorem outs_ve {l : List VE} {p : VE → Bool} : outs l.length (fun i => p (l.getD i v0)) (fun i => (vE (l.getD i v0)).enc) = vEs (l.filter p) :=
  outs_list (h := fun x => (vE x).enc) (fun i h => by rw [getD_at h]) fun i h => by rw [getD_at h]
def nearB (D : Dsg) (x : VE) : Bool := ((opns D).map Ent.enc).any (fun z => PyData.eqv z (vE x).enc) && decide (x.2.2 < 4)
def nearL (D : Dsg) : List VE := valsL.filter (nearB D)
theorem near_len (D : Dsg) : (nearL D).length ≤ 406 := Nat.le_trans (List.length_filter_le _ _) vals_len
theorem near_in {D : Dsg} {x : VE} (h : x ∈ nearL D) : x ∈ valsL := (List.mem_filter.mp h).1
theorem vE_okS {x : VE} (h : x ∈ valsL) : SeqAt.shaped (vE x).enc = true := ent_shaped (vals_ok h)
theorem vEs_shaped {l : List VE} (h : ∀ x ∈ l, (vE x).okB = true) : SeqAt.shaped (eV l) = true := by
  have : eV l = .list ((l.map vE).map Ent.enc) := by unfold eV vEs; rw [List.map_map]; rfl
  rw [this]
  exact ents_shaped fun e m => by
    obtain ⟨x, m2, rfl⟩ := List.mem_map.mp m
    exact h x m2
theorem vEs_ne {l : List VE} : PyData.eqv (eV l) (.list []) = l.isEmpty := by
  cases l <;> simp [eV, vEs, PyData.eqv, PyData.eqvAll]
theorem vk_al {l : List VE} : ∀ q ∈ l.map vk, ∀ r ∈ l.map vk, PySem.W.alike (keysD q) (keysD r) = true := fun q hq r hr => by
  obtain ⟨a, _, rfl⟩ := List.mem_map.mp hq
  obtain ⟨b, _, rfl⟩ := List.mem_map.mp hr
  unfold vk
  rw [ky_enc, ky_enc]
  exact vE_alike a b
theorem vk_nes {l : List VE} : ∀ r ∈ l.map vk, r ≠ [] := fun r hr => by
  obtain ⟨a, _, rfl⟩ := List.mem_map.mp hr
  exact ne_vk a
/-- the comprehension of the near picks, in the text -/
def cmp54 (b : List Stmt) : Expr := match b.drop 12 with
  | .Assign _ (.Call _ [.Call _ [.BinOp _ _ c _] _ _] _ _) _ :: _ => c
  | _ => .Constant .none 0 ⟨0, 0, 0, 0⟩
theorem de_pk {A : Amb} {X : Cx} {δ : Dl} {s s1 : A.S} {D : Addr} {row e : Expr} {r : Rw} {l : List VE} {p pos : Pos} (L : Ln A X.K D) (F : DPick X.prog X.w X.K X.mg X.base) (hr : Room 2 X.A) (hrow : DE A X δ s row (.r (.ref D)) s) (hl : DE A X δ s e (.d (eV l)) s) (hs : L.get s = .l (rowD r)) (ok : r.Ok) (n0 : 0 < l.length) (n1 : l.length < 1000) (hp : L.put s (.l (rowD (takeN r l.length).2)) = s1 := by rfl) (hg : Gl X "_law_pick" := by rfl)
    (he : starEach [row, e] X.env = (false, eval row X.env) :: starEach [e] X.env := by rfl) (he2 : starEach [e] X.env = (false, eval e X.env) :: starEach [] X.env := by rfl) (hpl : (backTo pos (starEach [e] X.env)).any (·.1) = false := by rfl) : DE A X δ s (.Call (.Name "_law_pick" p) [row, e] [] pos) (.d (vE (l.getD (takeN r l.length).1.toNat v0)).enc) s1 := by
  subst hp
  have el : (vEs l).length = l.length := List.length_map ..
  have := de_callM L F hr (da_cons hrow (da_cons hl da_nil he2) he) hs (m' := .l (rowD (takeN r l.length).2)) (c := .d (vE (l.getD (takeN r l.length).1.toNat v0)).enc) ⟨r, vEs l, ok, by rw [el]; exact n0, by rw [el]; exact n1, rfl, rfl, by rw [el], ?_⟩ hg (by decide) he hpl (pos := pos) (p := p)
  · exact this
  · rw [el]
    have t := takeN_lt (w := r) (n := (l.length : Int)) (by omega)
    unfold vEs
    rw [getD_map (d := v0) (f := fun x => (vE x).enc) (by omega)]
/-- a comprehension over one name, with a state that moves along -/
theorem de_lcM {A : Amb} {X : Cx} {δ : Dl} {s s1 : A.S} (j : Nat) (st : Nat → A.S) {x : Str} {px : Pos} {elt iter : Expr} {ifs : List Expr} {scope : Scope} {pos : Pos} {n : Nat} {item : Nat → Sl} {f : Nat → Bool} {g : Nat → PyData}
    (hc : X.calm = true) (hN : X.N.Nodup) (ok : BlkOk X.N X.env.scope scope [(x, j)]) (hi : DI A X δ s (.Name x px) iter n item (st 0)) (hl : n ≤ 100000)
    (ht : ∀ i, i < n → ∀ sh H C cl fp, DTs A (Bk X scope sh H C cl fp) (δ.set j (some (item i))) (st i) ifs (f i) (st i))
    (he : ∀ i, i < n → f i = true → ∀ sh H C cl fp, DE A (Bk X scope sh H C cl fp) (δ.set j (some (item i))) (st i) elt (.d (g i)) (st (i + 1))) (hno : ∀ i, i < n → f i = false → st i = st (i + 1)) (h1 : st n = s1 := by rfl) (hj : X.N[j]? = some x := by rfl)
    (hx : ∀ sh H C cl fp, Loc (Bk X scope sh H C cl fp).env.scope x := by intros; first | exact Or.inl rfl | exact Or.inr rfl)
    (hf : ∀ sh H C cl fp, (Bk X scope sh H C cl fp).fn x = true ∨ (Bk X scope sh H C cl fp).env.scope.names.lookup x = some .local := by intros; first | exact .inl rfl | exact .inr rfl)
    (hs : ∀ x, foldedSetIterable iter X.env x = pure x := by intro _; rfl) : DE A X δ s (.ListComp elt [⟨.Name x px, iter, ifs, 0⟩] scope pos) (.d (.list (outs n f g))) s1 := by
  subst h1
  exact de_lcS (ks := [j]) (δi := fun i => (δ.set j none).set j (some (item i))) st st hc hN hi ok (fun k hk => hk) hl (fun i _ sh H C cl fp => dg_name j hN hj (hx sh H C cl fp) (hf sh H C cl fp))
    (fun i hi sh H C cl fp => by rw [List.set_set]; exact ht i hi sh H C cl fp) (fun i hi hf sh H C cl fp => by rw [List.set_set]; exact he i hi hf sh H C cl fp) hno hs
section
variable {P : Program} {w : World} {K : Fg} {mg : Str → Option Value} {base : Heap}
/-- the entries to make paths for -/
theorem law_two {A : Amb} {f : Addr} {cdv : Value} {B : Around} {outer : List Env} {s : Shared} {H : Hp} {E : XK} {R : Addr} (hR : ¬ A.M R) {sA : A.S} {D : Dsg} {r3 r4 r6 r7 : Rw} {n n2 : Int} {x0 x2 x3 x4 x5 x6 x8 : Option Sl} {ex : List VE} (N : Nms mg)
    (GT : DTaken P w K mg base) (GP : DPick P w K mg base) (GE : DEntries P w K mg base) (hr : Room 12 (LX P w K mg base f cdv B outer s H E).A)
    (ok3 : r3.Ok) (hn : takeN r3 5 = (n, r4)) (hn2 : takeN (rwN valsL.length n.toNat r4) 3 = (n2, r6)) (hx : (nearL D = [] ∧ ex = [] ∧ r7 = r6) ∨ (nearL D ≠ [] ∧ ex = pkN (nearL D) n2.toNat r6 ∧ r7 = rwN (nearL D).length n2.toNat r6)) {o : Out (A.add K R)}
    (next : DB (A.add K R) (LX P w K mg base f cdv B outer s H E) E [x0, some (.d (eD (opns D))), x2, x3, x4, x5, x6, none, x8, some (.d (eV valsL)), some (.d (eV (nearL D))), none, none, none, none, none, none, some (.d D.enc), none, some (.r (.ref R)), some (.d (eV (sortU vk (sortU vk (pkN valsL n.toNat r4) ++ ex)))), none] (sA, .l (rowD r7)) [(defBody (top 54)).drop 13] o) :
    DB (A.add K R) (LX P w K mg base f cdv B outer s H E) E [x0, some (.d (eD (opns D))), x2, x3, x4, x5, x6, none, x8, none, none, none, none, none, none, none, none, some (.d D.enc), none, some (.r (.ref R)), none, none] (sA, .l (rowD r3)) [(defBody (top 54)).drop 9] o := by
  have nd := sc54.nd
  obtain ⟨n0, n1, ok4⟩ := takeN_b hn ok3 (by decide)
  obtain ⟨m0, m1, ok6⟩ := takeN_b hn2 (rwN_ok ok4 _) (by decide)
  have hr2 : Room 2 (LX P w K mg base f cdv B outer s H E).A := hr.mono (by decide)
  refine db_set (s1 := (sA, .l (rowD r3))) (c := .d (eV valsL)) 9 nd ?_ ?_
  · unfold eV vEs valsL
    rw [vals_map, ← outs_ent']
    refine de_lcN (j := 7) (n := allS.length) (item := fun i => .d (allS.getD i e0).enc) (f := fun i => (toV (allS.getD i e0)).isSome) (g := fun i => (allS.getD i e0).enc) rfl nd (blkOk_by (N := N54) (sc := defScope (top 54)) (by decide +kernel)) (di_listM Ent.enc e0 (de_call0 GE (hr.mono (by decide)) ⟨rfl, rfl⟩)) (Nat.le_trans allS_len (by decide)) (fun i hi sh H C cl fp => ?_) (fun i hi hf sh H C cl fp => de_var 7)
    generalize allS.getD i e0 = e
    cases e with
    | value k u d => exact dts_one (DT.eq (dt_eq hr (de_ix (de_var 7) de_int) de_str (by decide +kernel) (by decide +kernel)) (by decide +kernel : PyData.eqv (.str (S "value")) (.str (S "value")) = true))
    | order k l d => exact dts_one (DT.eq (dt_eq hr (de_ix (de_var 7) de_int) de_str (by decide +kernel) (by decide +kernel)) (by decide +kernel : PyData.eqv (.str (S "order")) (.str (S "value")) = false))
    | mem b d => cases b <;> exact dts_one (DT.eq (dt_eq hr (de_ix (de_var 7) de_int) de_str (by decide +kernel) (by decide +kernel)) (by decide +kernel : PyData.eqv (.str (S "memory")) (.str (S "value")) = false))
    | wrong j e d => exact dts_one (DT.eq (dt_eq hr (de_ix (de_var 7) de_int) de_str (by decide +kernel) (by decide +kernel)) (by decide +kernel : PyData.eqv (.str (S "wrong")) (.str (S "value")) = false))
  let S5 : (A.add K R).S := (sA, .l (rowD (rwN valsL.length n.toNat r4)))
  refine db_set (s1 := S5) (c := .d (eV (sortU vk (pkN valsL n.toNat r4)))) 20 nd ?_ ?_
  · refine DE.eq (s1 := S5) (c := .d (.list (((sortU vk (pkN valsL n.toNat r4)).map vk).map keysD))) (de_sset (s1 := S5) (ks := (pkN valsL n.toNat r4).map vk) N rfl hr (dr_l (DE.eq (s1 := S5) (c := .d (.list (outs n.toNat (fun _ => true) fun i => (vE (pkI valsL r4 i)).enc))) ?_ ?_)) ?_ ?_ ?_ (sortU_asc vk vk_inj _) (sortU_mem vk vk_inj _)) ?_
    · refine de_lcM 21 (fun i => ((sA, .l (rowD (rwN valsL.length i r4))) : (A.add K R).S)) rfl nd (blkOk_by (N := N54) (sc := defScope (top 54)) (by decide +kernel)) ?_ (by omega) (item := fun i => .d (.int i)) (fun i hi sh H C cl fp => dts_nil) (fun i hi _ sh H C cl fp => ?_) (fun i hi h => by cases h)
      · exact di_rng1 N (de_take (Ln.top hR) GT (hr.mono (by decide)) (de_var 19) de_int hn rfl ok3 (by decide) (by decide)) (by omega)
      · show DE _ _ _ _ _ (.d (vE (valsL.getD (takeN (rwN valsL.length i r4) valsL.length).1.toNat v0)).enc) _
        exact de_pk (Ln.top hR) GP hr2 (de_var 19) (de_var 9) rfl (rwN_ok ok4 i) vals_pos (Nat.lt_of_le_of_lt vals_len (by decide))
    · rw [outs_all, vks_enc]
      unfold pkN
      rw [List.map_map]
      rfl
    · rw [List.length_map, pkN_len]
      omega
    · exact vk_al
    · exact vk_nes
    · rw [vks_enc]
      rfl
  refine db_set (s1 := S5) (c := .d (eV (nearL D))) 10 nd ?_ ?_
  · unfold eV nearL
    rw [← outs_ve]
    refine de_lcN (j := 7) (n := valsL.length) (item := fun i => .d (vE (valsL.getD i v0)).enc) (f := fun i => nearB D (valsL.getD i v0)) (g := fun i => (vE (valsL.getD i v0)).enc) rfl nd (blkOk_by (N := N54) (sc := defScope (top 54)) (by decide +kernel)) (di_listM (l := valsL) (fun x => (vE x).enc) v0 (de_var 9)) (Nat.le_trans vals_len (by decide)) (fun i hi sh H C cl fp => ?_) (fun i hi hf sh H C cl fp => de_var 7)
    exact dts_one (dt_and (dt_isL hr (de_var 7) (de_var 1) (vE_okS (getD_in hi)) (opns_shaped D)) fun _ => dw_and1 (dt_lt (de_ix (de_var 7) (de_neg de_int)) de_int))
  have mid : DE (A.add K R) (LX P w K mg base f cdv B outer s H E) [x0, some (.d (eD (opns D))), x2, x3, x4, x5, x6, none, x8, some (.d (eV valsL)), some (.d (eV (nearL D))), none, none, none, none, none, none, some (.d D.enc), none, some (.r (.ref R)), some (.d (eV (sortU vk (pkN valsL n.toNat r4)))), none] S5 (cmp54 (defBody (top 54))) (.d (.list (vEs ex))) (sA, .l (rowD r7)) := by
    rcases hx with ⟨e0, rfl, rfl⟩ | ⟨ne, rfl, rfl⟩
    · refine DE.eq (c := .d (.list (outs n2.toNat (fun _ => false) fun _ => .none))) (de_lcM 21 (fun i => ((sA, .l (rowD r7)) : (A.add K R).S)) rfl nd (blkOk_by (N := N54) (sc := defScope (top 54)) (by decide +kernel)) ?_ (by omega) (item := fun i => .d (.int i)) (fun i hi sh H C cl fp => ?_) (fun i hi h => by cases h) (fun i hi h => rfl)) ?_
      · exact di_rng1 N (de_take (Ln.top hR) GT (hr.mono (by decide)) (de_var 19) de_int hn2 rfl (rwN_ok ok4 _) (by decide) (by decide)) (by omega)
      · exact dts_one (DT.eq (dt_ne hr (de_var 10) (de_lst (ds := []) da_nil) (vEs_shaped fun x m => vals_ok (near_in m)) (by decide +kernel)) (by rw [vEs_ne, e0]; rfl))
      · unfold outs; simp [vEs]
    · have npos : 0 < (nearL D).length := List.length_pos_iff.mpr ne
      refine DE.eq (c := .d (.list (outs n2.toNat (fun _ => true) fun i => (vE (pkI (nearL D) r6 i)).enc))) (de_lcM 21 (fun i => ((sA, .l (rowD (rwN (nearL D).length i r6))) : (A.add K R).S)) rfl nd (blkOk_by (N := N54) (sc := defScope (top 54)) (by decide +kernel)) ?_ (by omega) (item := fun i => .d (.int i)) (fun i hi sh H C cl fp => ?_) (fun i hi h sh H C cl fp => ?_) (fun i hi h => by cases h)) ?_
      · exact di_rng1 N (de_take (Ln.top hR) GT (hr.mono (by decide)) (de_var 19) de_int hn2 rfl (rwN_ok ok4 _) (by decide) (by decide)) (by omega)
      · exact dts_one (DT.eq (dt_ne hr (de_var 10) (de_lst (ds := []) da_nil) (vEs_shaped fun x m => vals_ok (near_in m)) (by decide +kernel)) (by rw [vEs_ne]; cases h0 : nearL D with
        | nil => exact absurd h0 ne
        | cons => rfl))
      · show DE _ _ _ _ _ (.d (vE ((nearL D).getD (takeN (rwN (nearL D).length i r6) (nearL D).length).1.toNat v0)).enc) _
        exact de_pk (Ln.top hR) GP hr2 (de_var 19) (de_var 10) rfl (rwN_ok ok6 i) npos (Nat.lt_of_le_of_lt (near_len D) (by decide))
      · rw [outs_all]
        unfold pkN vEs
        rw [List.map_map]
        rfl
  have exl : ex.length ≤ 2 := by
    rcases hx with ⟨_, rfl, _⟩ | ⟨_, rfl, _⟩
    · exact Nat.zero_le _
    · rw [pkN_len]; omega
  have len1 : (sortU vk (pkN valsL n.toNat r4)).length ≤ 4 := Nat.le_trans (sortU_len vk _) (by rw [pkN_len]; omega)
  let S7 : (A.add K R).S := (sA, .l (rowD r7))
  refine db_set (s1 := S7) (c := .d (eV (sortU vk (sortU vk (pkN valsL n.toNat r4) ++ ex)))) 20 nd ?_ next
  refine DE.eq (s1 := S7) (c := .d (.list (((sortU vk (sortU vk (pkN valsL n.toNat r4) ++ ex)).map vk).map keysD))) (de_sset (s1 := S7) (ks := (sortU vk (pkN valsL n.toNat r4) ++ ex).map vk) N rfl hr (dr_l (DE.eq (s1 := S7) (c := .d (.list (vEs (sortU vk (pkN valsL n.toNat r4)) ++ vEs ex))) ?_ ?_)) ?_ ?_ ?_ (sortU_asc vk vk_inj _) (sortU_mem vk vk_inj _)) ?_
  · refine de_addL (s1 := S5) (de_var 20) mid ?_
    unfold vEs
    rw [List.length_map, List.length_map]
    omega
  · rw [vks_enc]
    unfold vEs
    rw [List.map_append]
  · rw [List.length_map, List.length_append]
    omega
  · exact vk_al
  · exact vk_nes
  · rw [vks_enc]
    rfl
end
end Kp
end
section
set_option Elab.async false
set_option linter.all false
set_option maxRecDepth 100000
set_option maxHeartbeats 4000000
namespace Kp
open PySem PySem.Spec PyProof.Rows L2
theorem opn_shapedV {D : Dsg} {x : VE} : (((opns D).map Ent.enc).any fun z => PyData.eqv z (vE x).enc) = decide (vE x ∈ opns D) := any_ent _ _
theorem opn_in {D : Dsg} {x : VE} (h : (vE x).okB = true) : (((opns D).map Ent.enc).any fun z => PyData.eqv z (vE x).enc) = vOpn D x := by
  rw [any_ent]
  unfold vOpn
  cases o : opn D (vE x) with
  | true => exact decide_eq_true (show vE x ∈ opns D from List.mem_filter.mpr ⟨mem_allS.mpr h, o⟩)
  | false => exact decide_eq_false (show ¬ vE x ∈ opns D from fun z => by rw [(List.mem_filter.mp z).2] at o; cases o)
section
variable {P : Program} {w : World} {K : Fg} {mg : Str → Option Value} {base : Heap}
/-- what paths those entries ask for -/
theorem law_three {A : Amb} {f : Addr} {cdv : Value} {B : Around} {outer : List Env} {s : Shared} {H : Hp} {E : XK} {R : Addr} (hR : ¬ A.M R) {sA : A.S} {D : Dsg} {r7 : Rw} {x0 x3 x4 x5 x6 x8 x9 x10 : Option Sl} {l : List VE} (N : Nms mg)
    (hr : Room 12 (LX P w K mg base f cdv B outer s H E).A) (okl : ∀ x ∈ l, (vE x).okB = true) (few : l.length ≤ 60) {o : Out (A.add K R)}
    (next : ∀ Q, (hQ : ¬ (A.add K R).M Q) → ∃ o', OutUp (A.add K R) K Q o' o ∧ DB ((A.add K R).add K Q) (LX P w K mg base f cdv B outer s H E) E [x0, some (.d (eD (opns D))), some (.t (spots D)), x3, x4, x5, x6, none, x8, x9, x10, some (.r (.ref Q)), some (.d (.bool (!l.any (vBad D)))), none, none, none, none, some (.d D.enc), none, some (.r (.ref R)), some (.d (eV l)), none] ((sA, .l (rowD r7)), .m (dm (fdN D (l.filter (vOpn D))))) [(defBody (top 54)).drop 15] o') :
    DB (A.add K R) (LX P w K mg base f cdv B outer s H E) E [x0, some (.d (eD (opns D))), some (.t (spots D)), x3, x4, x5, x6, none, x8, x9, x10, none, none, none, none, none, none, some (.d D.enc), none, some (.r (.ref R)), some (.d (eV l)), none] (sA, .l (rowD r7)) [(defBody (top 54)).drop 13] o := by
  have nd := sc54.nd
  refine db_parM 11 12 (m := .m []) (c := .d (.bool true)) rfl nd df_dict (fun δ => de_bl) (fun G v d G' => ?_) fun Q hQ => ?_
  · have d : Dp K G v (.bool true) := d
    cases d
    exact (Dp.bl true : Dp K G' _ _)
  obtain ⟨o', ho, hb⟩ := next Q hQ
  refine ⟨o', ho, ?_⟩
  have okm : ∀ {i}, i < (l.filter (vOpn D)).length → (vE ((l.filter (vOpn D)).getD i v0)).okB = true := fun h => okl _ (List.mem_filter.mp (getD_in h)).1
  have fewm : (l.filter (vOpn D)).length ≤ 60 := Nat.le_trans (List.length_filter_le _ _) few
  let S7 : ((A.add K R).add K Q).S := ((sA, .l (rowD r7)), .m [])
  refine db_forV (n := (l.filter (vOpn D)).length) (item := fun i => .d (vE ((l.filter (vOpn D)).getD i v0)).enc) (ks := [7])
    (δi := fun i => [x0, some (.d (eD (opns D))), some (.t (spots D)), x3, x4, x5, x6, some (.d (vE ((l.filter (vOpn D)).getD i v0)).enc), x8, x9, x10, some (.r (.ref Q)), some (.d (.bool (gd D (l.filter (vOpn D)) i))), none, none, none, none, some (.d D.enc), none, some (.r (.ref R)), some (.d (eV l)), none])
    (δe := fun i => [x0, some (.d (eD (opns D))), some (.t (spots D)), x3, x4, x5, x6, none, x8, x9, x10, some (.r (.ref Q)), some (.d (.bool (gd D (l.filter (vOpn D)) (i + 1)))), none, none, none, none, some (.d D.enc), none, some (.r (.ref R)), some (.d (eV l)), none])
    (fun i => [x0, some (.d (eD (opns D))), some (.t (spots D)), x3, x4, x5, x6, none, x8, x9, x10, some (.r (.ref Q)), some (.d (.bool (gd D (l.filter (vOpn D)) i))), none, none, none, none, some (.d D.enc), none, some (.r (.ref R)), some (.d (eV l)), none])
    (fun i => (((sA, .l (rowD r7)), .m (dm (fdN D ((l.filter (vOpn D)).take i)))) : ((A.add K R).add K Q).S)) (passes_of rfl) rfl ?_ (Wk.refl _) (fun i hi => dg_name 7 nd) (fun i hi => ?_) (fun i hi => Wk.refl _) ?_
  · refine di_listM (l := l.filter (vOpn D)) (fun x => (vE x).enc) v0 (DE.eq (c := .d (eV (l.filter (vOpn D)))) ?_ rfl)
    unfold eV
    rw [← outs_ve]
    refine de_lcN (j := 7) (n := l.length) (item := fun i => .d (vE (l.getD i v0)).enc) (f := fun i => vOpn D (l.getD i v0)) (g := fun i => (vE (l.getD i v0)).enc) rfl nd (blkOk_by (N := N54) (sc := defScope (top 54)) (by decide +kernel)) (di_listM (l := l) (fun x => (vE x).enc) v0 (de_var 20)) (by omega) (fun i hi sh H C cl fp => ?_) (fun i hi hf sh H C cl fp => de_var 7)
    exact dts_one (DT.eq (dt_isL hr (de_var 7) (de_var 1) (ent_shaped (okl _ (getD_in hi))) (opns_shaped D)) (opn_in (okl _ (getD_in hi))))
  · have hx := okm hi
    rw [gd_succ hi, fdN_succ hi, ← dm_put]
    have fl := Nat.le_trans (fdN_len D ((l.filter (vOpn D)).take i)) (Nat.le_trans (List.length_take_le' ..) fewm)
    generalize fdN D ((l.filter (vOpn D)).take i) = fd at fl ⊢
    generalize (l.filter (vOpn D)).getD i v0 = x at hx ⊢
    generalize gd D (l.filter (vOpn D)) i = g
    obtain ⟨hk, hu, _, _⟩ := ent_ok (k := x.1) (u := x.2.1) (d := x.2.2) hx
    let S8 : ((A.add K R).add K Q).S := ((sA, .l (rowD r7)), .m (dm fd))
    refine db_set (s1 := S8) (c := .d (.int (vUs D x))) 13 nd (de_spot hr (de_var 2) (da_cons (de_ix (de_var 7) de_int) (da_cons (c := .d (.str (usedW x.2.1.1 x.2.1.2))) (de_if (dt_eq hr (de_ix (de_var 7) de_int) de_str (us_pl hu).2.1 (by decide +kernel)) (fun h => ?_) (fun h => ?_)) da_nil)) (us_q hu)) ?_
    · rw [eqv_str] at h
      have e : usedW x.2.1.1 x.2.1.2 = S "used " ++ x.2.1.2 := if_pos (by simpa [S] using h)
      rw [e]
      exact de_addS de_str (de_ix (de_var 7) de_int) (us_pl hu).2.2
    · rw [eqv_str] at h
      have e : usedW x.2.1.1 x.2.1.2 = S "used" := if_neg (by simpa [S] using h)
      rw [e]
      exact de_str
    refine db_set (s1 := S8) (c := .d (.bool (g && !vFar D x))) 12 nd ?_ ?_
    · refine DE.eq (de_and (de_var 12) fun _ => de_and (de_le (de_add (de_var 13) (de_ix (de_var 7) (de_neg de_int))) de_int) fun _ => de_one (de_gt (de_add (de_var 13) (de_ix (de_var 7) (de_neg de_int))) (de_spot hr (de_var 2) (da_cons (de_ix (de_var 7) de_int) (da_cons de_str da_nil)) (wr_q hk).2))) (bq ?_)
      have e1 : decide (vUs D x + x.2.2 ≤ 7) = !decide (7 < vUs D x + x.2.2) := by rw [← decide_not]; exact decide_eq_decide.mpr (by omega)
      have e2 : decide (vMk D x < vUs D x + x.2.2) = !decide (vUs D x + x.2.2 ≤ vMk D x) := by rw [← decide_not]; exact decide_eq_decide.mpr (by omega)
      unfold vFar
      rw [Bool.not_or, ← e1, ← e2]
      rfl
    refine db_dput (Ln.top hQ) (s1 := S8) (s2 := S8) (s3 := S8) (kvs := dm fd) (k1 := .inl (vUs D x + x.2.2)) (k2 := .inl (vUs D x)) (d := .bool true) (v := .bl true) hr ?_ ?_ ?_ rfl rfl ?_ ?_
    · exact de_bl
    · exact de_var 11
    · exact da_cons (de_add (de_var 13) (de_ix (de_var 7) (de_neg de_int))) (da_cons (de_var 13) da_nil)
    · unfold dm
      rw [List.length_map]
      omega
    · exact db_pop (db_nxw db_nil (wk_keep (wk_keep (wk_keep (wk_keep (wk_keep (wk_keep (wk_keep (wk_drop (wk_keep (wk_keep (wk_keep (wk_keep (wk_keep (wk_drop (Wk.refl _))))))))))))))))
  · rw [gd_all, List.take_length]
    exact hb
end
end Kp
end
section
set_option Elab.async false
set_option linter.all false
set_option maxRecDepth 100000
set_option maxHeartbeats 4000000
namespace Kp
open PySem PySem.Spec PyProof.Rows L2 LamX
section
variable {P : Program} {w : World} {K : Fg} {mg : Str → Option Value} {base : Heap}
/-- the call of the sixteenth statement, in the text -/
def call54 (b : List Stmt) (i : Nat) : Expr := match b.drop i with
  | .If (.Compare c _ _ _) _ _ _ :: _ => c
  | .Return (some (.Compare c _ _ _)) _ :: _ => c
  | _ => .Constant .none 0 ⟨0, 0, 0, 0⟩
theorem wrong_paths {A : Amb} {f : Addr} {cdv : Value} {B : Around} {outer : List Env} {s : Shared} {H : Hp} {E : XK} {TA c CB CP CE CN : Addr} {st : A.S} {D : Dsg} {δ : Dl} {l : List VE} (N : Nms mg) (Er : Errs K mg CB CP CE CN)
    (TL : Tl A TA ((LX P w K mg base f cdv B outer s H E).env.qual ++ "<lambda>")) (TB : TabB base mg c TA) (hcode : (LX P w K mg base f cdv B outer s H E).env.code = .ref c) (F : Df K mg "_law_wrong" (top 53) ["_law_work"]) (GP : DPathsFor P w K mg base CE CN)
    (hr : Room 12 (LX P w K mg base f cdv B outer s H E).A) (ok : D.Ok) (okl : ∀ x ∈ l, (vE x).okB = true) (as : ascV l) (few : l.length ≤ 60) (h17 : δ[17]? = some (some (.d D.enc))) (h20 : δ[20]? = some (some (.d (eV l)))) :
    DE A (LX P w K mg base f cdv B outer s H E) δ st (call54 (defBody (top 54)) 15) (.d (.str (wOf CP CE CN (if l.any (vBad D) = true then .exc CN else .val (.d (pths (sortU pk (fndV D l)))))))) st := by
  refine de_lamcall (k := 8) TL N Er F rfl TB hcode (hr.mono (by decide)) (lamS_by (sc := defScope (top 54)) (by decide +kernel)) ?_ ?_
  · intro C h
    split at h
    · injection h with h
      subst h
      simp
    · cases h
  · intro B' outer' sh H0 E' f' c' hr' tk
    exact dx_call GP hr' (da_cons (de_var 17 (hδ := h17)) (da_cons (de_tupL N (de_var 20 (hδ := h20))) da_nil)) ⟨D, ok, .inl ⟨l, okl, as, few, rfl, rfl⟩⟩ tk
theorem wrong_odd {A : Amb} {f : Addr} {cdv : Value} {B : Around} {outer : List Env} {s : Shared} {H : Hp} {E : XK} {TA c CB CP CE CN R : Addr} {st st1 : A.S} {D : Dsg} {δ : Dl} {r r' : Rw} {v : Int} (N : Nms mg) (Er : Errs K mg CB CP CE CN)
    (TL : Tl A TA ((LX P w K mg base f cdv B outer s H E).env.qual ++ "<lambda>")) (TB : TabB base mg c TA) (hcode : (LX P w K mg base f cdv B outer s H E).env.code = .ref c) (F : Df K mg "_law_wrong" (top 53) ["_law_work"]) (GP : DPathsFor P w K mg base CE CN) (GT : DTaken P w K mg base) (L : Ln A K R)
    (hr : Room 12 (LX P w K mg base f cdv B outer s H E).A) (ok : D.Ok) (okr : r.Ok) (hs : L.get st = .l (rowD r)) (hv : takeN r 8 = (v, r')) (h17 : δ[17]? = some (some (.d D.enc))) (h18 : δ[18]? = some (some (.d (.list oddL)))) (h19 : δ[19]? = some (some (.r (.ref R)))) (hp : L.put st (.l (rowD r')) = st1) :
    DE A (LX P w K mg base f cdv B outer s H E) δ st (call54 (defBody (top 54)) 19) (.d (.str (wordOf CP CE CN CE))) st1 := by
  obtain ⟨v0, v1, _⟩ := takeN_b hv okr (by decide)
  refine de_lamcall (r := .exc CE) (k := 8) TL N Er F rfl TB hcode (hr.mono (by decide)) (lamS_by (sc := defScope (top 54)) (by decide +kernel)) ?_ ?_
  · intro C h
    injection h with h
    subst h
    simp
  · intro B' outer' sh H0 E' f' c' hr' tk
    have hlt : v.toNat < oddL.length := by show v.toNat < 8; omega
    refine dx_call GP hr' (da_cons (de_var 17 (hδ := h17)) (da_cons (de_ixL (ds := oddL) (i := ((v.toNat : Nat) : Int)) (s1 := st) (s2 := st1) (de_var 18 (hδ := h18)) (DE.eq (de_take L GT (hr'.mono (by decide)) (de_var 19 (hδ := h19)) de_int hv hs okr (by decide) (by decide) hp) ?_) (atI_get2 hlt)) da_nil)) ⟨D, ok, .inr ⟨_, getD_in hlt, rfl, rfl⟩⟩ tk
    congr 2
    omega
theorem wrong_spared {A : Amb} {f : Addr} {cdv : Value} {B : Around} {outer : List Env} {s : Shared} {H : Hp} {E : XK} {TA c CB CP CE CN : Addr} {st : A.S} {D : Dsg} {δ : Dl} {d : PyData} (N : Nms mg) (Er : Errs K mg CB CP CE CN)
    (TL : Tl A TA ((LX P w K mg base f cdv B outer s H E).env.qual ++ "<lambda>")) (TB : TabB base mg c TA) (hcode : (LX P w K mg base f cdv B outer s H E).env.code = .ref c) (F : Df K mg "_law_wrong" (top 53) ["_law_work"]) (GS : DSpared P w K mg base CP)
    (hr : Room 12 (LX P w K mg base f cdv B outer s H E).A) (ok : D.Ok) (few : D.ps.length ≤ 50) (hd : isPathB d = false) (h17 : δ[17]? = some (some (.d D.enc))) (h16 : δ[16]? = some (some (.d d))) :
    DE A (LX P w K mg base f cdv B outer s H E) δ st (call54 (defBody (top 54)) 21) (.d (.str (wordOf CP CE CN CP))) st := by
  refine de_lamcall (r := .exc CP) (k := 8) TL N Er F rfl TB hcode (hr.mono (by decide)) (lamS_by (sc := defScope (top 54)) (by decide +kernel)) ?_ ?_
  · intro C h
    injection h with h
    subst h
    simp
  · intro B' outer' sh H0 E' f' c' hr' tk
    exact dx_call GS hr' (da_cons (de_var 17 (hδ := h17)) (da_cons (de_var 16 (hδ := h16)) da_nil)) ⟨D, ok, few, .inr ⟨d, hd, rfl, rfl⟩⟩ tk
end
end Kp
end
section
set_option Elab.async false
set_option linter.all false
set_option maxRecDepth 100000
set_option maxHeartbeats 4000000
namespace Kp
open PySem PySem.Spec PyProof.Rows L2 LamX
theorem fndV_len (D : Dsg) (l : List VE) : (fndV D l).length ≤ l.length := by
  unfold fndV
  rw [List.length_map]
  exact List.length_filter_le _ _
theorem fd_fnd (D : Dsg) (l : List VE) (k : List Key) : k ∈ (sortU pk (fndV D l)).map pk ↔ k ∈ (fdN D (l.filter (vOpn D))).map pk := by
  rw [sortU_mem pk pk_inj]
  constructor
  · rintro m
    obtain ⟨p, m2, rfl⟩ := List.mem_map.mp m
    exact List.mem_map_of_mem ((fdN_mem D _ p).mpr m2)
  · rintro m
    obtain ⟨p, m2, rfl⟩ := List.mem_map.mp m
    exact List.mem_map_of_mem ((fdN_mem D _ p).mp m2)
/-- the paths due, sorted, in the text -/
def srt54 (b : List Stmt) : Expr := match b.drop 16 with
  | .If _ (_ :: .If (.UnaryOp _ (.Call _ [_, e] _ _) _) _ _ _ :: _) _ _ :: _ => e
  | _ => .Constant .none 0 ⟨0, 0, 0, 0⟩
section
variable {P : Program} {w : World} {K : Fg} {mg : Str → Option Value} {base : Heap}
/-- the paths made are right, and close the entries they were made for -/
theorem law_good {A : Amb} {f : Addr} {cdv : Value} {B : Around} {outer : List Env} {s : Shared} {H : Hp} {E : XK} {CE CN R Q : Addr} (hR : ¬ A.M R) (hQ : ¬ (A.add K R).M Q) {sA : A.S} {D : Dsg} {r7 : Rw} {x0 x1 x2 x3 x4 x5 x6 x8 x9 x10 : Option Sl} {l : List VE} (N : Nms mg)
    (GP : DPathsFor P w K mg base CE CN) (GA : DAlike P w K mg base 2) (GW : DWithPaths P w K mg base) (GI : DIsOpen P w K mg base) (hr : Room 12 (LX P w K mg base f cdv B outer s H E).A) (okD : D.Ok) (fewD : D.ps.length ≤ 9) (okl : ∀ x ∈ l, (vE x).okB = true) (as : ascV l) (few : l.length ≤ 6) (g : l.any (vBad D) = false) {o : Out ((A.add K R).add K Q)} {bs : List (List Stmt)}
    (next : DB ((A.add K R).add K Q) (LX P w K mg base f cdv B outer s H E) E [x0, x1, x2, x3, x4, x5, x6, none, x8, x9, x10, some (.r (.ref Q)), some (.d (.bool true)), none, none, none, none, some (.d D.enc), none, some (.r (.ref R)), some (.d (eV l)), none] ((sA, .l (rowD r7)), .m (dm (fdN D (l.filter (vOpn D))))) ((defBody (top 54)).drop 17 :: bs) o) :
    DB ((A.add K R).add K Q) (LX P w K mg base f cdv B outer s H E) E [x0, x1, x2, x3, x4, x5, x6, none, x8, x9, x10, some (.r (.ref Q)), some (.d (.bool true)), none, none, none, none, some (.d D.enc), none, some (.r (.ref R)), some (.d (eV l)), none] ((sA, .l (rowD r7)), .m (dm (fdN D (l.filter (vOpn D))))) ((defBody (top 54)).drop 16 :: bs) o := by
  have nd := sc54.nd
  have fl := fndV_len D l
  let S7 : ((A.add K R).add K Q).S := ((sA, .l (rowD r7)), .m (dm (fdN D (l.filter (vOpn D)))))
  generalize hF : sortU pk (fndV D l) = ps
  have lps : ps.length ≤ 6 := by rw [← hF]; exact Nat.le_trans (sortU_len pk _) (by omega)
  have few' : (D.ps ++ ps).length < 64 := by rw [List.length_append]; omega
  refine db_if (z := true) (dt_val (de_var 12)) (fun _ => ?_) (fun h => by cases h)
  refine db_set (s1 := S7) (c := .d (pths ps)) 14 nd ?_ ?_
  · exact de_call GP (hr.mono (by decide)) (da_cons (de_var 17) (da_cons (de_tupL N (de_var 20)) da_nil)) ⟨D, okD, .inl ⟨l, okl, as, by omega, rfl, by rw [g, hF]; rfl⟩⟩
  refine db_if (z := false) (DT.eq (dt_not (dt_val (de_call GA (hr.mono (by decide)) (da_cons (s1 := S7) (de_var 14) (da_cons (s1 := S7) (c := .d (pths ps)) ?_ da_nil)) ⟨pths ps, pths_nice (by omega), rfl, rfl⟩))) rfl) (fun h => by cases h) (fun _ => db_pop ?_)
  · refine DE.eq (c := .d (.tuple ((ps.map pk).map keysD))) (de_tupL N (de_sortT (ks := (fdN D (l.filter (vOpn D))).map pk) N ?_ (nodup_map' pk_inj (fdN_nodup D _)) (fun q hq r hr => ?_) (.inl fun k hk => ?_) (by rw [← hF]; exact sortU_asc pk pk_inj _) (by rw [← hF]; exact fd_fnd D l))) (by rw [pks_enc]; rfl)
    · refine DE.eq (s1 := S7) (c := .d (.list (((dm (fdN D (l.filter (vOpn D)))).map (·.1)).map keysD))) (de_mlist (Ln.top hQ) N rfl (s1 := S7) (de_var 11) rfl) (by rw [dm_keys])
    · obtain ⟨a, _, rfl⟩ := List.mem_map.mp hq
      obtain ⟨b, _, rfl⟩ := List.mem_map.mp hr
      exact pk_cmp a b
    · obtain ⟨a, _, rfl⟩ := List.mem_map.mp hk
      exact ⟨_, _, rfl⟩
  have okps : okPs (sortU pk (D.ps ++ ps)) := sortU_okPs (fun p m => by
    rcases List.mem_append.mp m with m | m
    · exact List.all_eq_true.mp okD.ps p m
    · rw [← hF] at m
      exact fnd_okP okD okl g ((mem_sortU pk pk_inj p _).mp m)) (by omega)
  refine db_set (s1 := S7) (c := .d (D.with (sortU pk (D.ps ++ ps))).enc) 15 nd (de_call GW (hr.mono (by decide)) (da_cons (s1 := S7) (de_var 17) (da_cons (s1 := S7) (c := .d (pths (sortU pk (D.ps ++ ps)))) ?_ da_nil)) ⟨D, _, okD, okps, rfl, rfl⟩) ?_
  · refine DE.eq (c := .d (.tuple (((sortU pk (D.ps ++ ps)).map pk).map keysD))) (de_tupL N (de_sset (ks := (D.ps ++ ps).map pk) N rfl hr (dr_t (DE.eq (c := .d (.tuple (D.ps.map pth ++ ps.map pth))) (de_addT (de_ix (de_var 17) de_int) (de_var 14) ?_) ?_)) ?_ (fun q hq r hr => ?_) (fun r hr => ?_) (sortU_asc pk pk_inj _) (sortU_mem pk pk_inj _))) (by rw [pks_enc]; rfl)
    · rw [List.length_map, List.length_map]; omega
    · rw [pks_enc, List.map_append]
    · rw [List.length_map]; exact few'
    · obtain ⟨a, _, rfl⟩ := List.mem_map.mp hq
      obtain ⟨b, _, rfl⟩ := List.mem_map.mp hr
      exact pk_alike a b
    · obtain ⟨a, _, rfl⟩ := List.mem_map.mp hr
      exact fun z => nomatch z
  have okW : (D.with (sortU pk (D.ps ++ ps))).Ok := ⟨okD.rd, okD.pl, okD.s, okD.z, okD.o, okD.u, okD.m, okD.l, okD.t, okps.1, okps.2.1, okps.2.2⟩
  refine db_if (z := false) (DT.eq (dt_ne hr (DE.eq (c' := .d (.list [])) (de_lcN (j := 7) (n := l.length) (item := fun i => .d (vE (l.getD i v0)).enc) (f := fun i => vOpn (D.with (sortU pk (D.ps ++ ps))) (l.getD i v0)) (g := fun i => (vE (l.getD i v0)).enc) rfl nd (blkOk_by (N := N54) (sc := defScope (top 54)) (by decide +kernel)) (di_listM (l := l) (fun x => (vE x).enc) v0 (de_var 20)) (by omega) (fun i hi sh H C cl fp => ?_) (fun i hi hf sh H C cl fp => de_var 7)) ?_) (de_lst (ds := []) da_nil) (by decide +kernel) (by decide +kernel)) (by decide +kernel)) (fun h => by cases h) (fun _ => db_pop (db_pop ?_))
  · exact dts_one (dt_val (de_call GI (hr.mono (by decide)) (da_cons (de_var 15) (da_cons (de_var 7) da_nil)) ⟨_, _, _, _, okW, okl _ (getD_in hi), rfl, rfl⟩))
  · rw [outs_ve, List.filter_eq_nil_iff.mpr]
    · rfl
    · intro x m
      unfold vOpn
      rw [whole_closes g (fun p m => (mem_sortU pk pk_inj p _).mpr (List.mem_append_left _ m)) (fun p m => (mem_sortU pk pk_inj p _).mpr (List.mem_append_right _ (by rw [← hF]; exact (mem_sortU pk pk_inj p _).mpr m))) m]
      decide
  · exact db_weak next (wk_keep (wk_keep (wk_keep (wk_keep (wk_keep (wk_keep (wk_keep (wk_keep (wk_keep (wk_keep (wk_keep (wk_keep (wk_keep (wk_keep (wk_drop (wk_drop (Wk.refl _)))))))))))))))))
end
end Kp
end
section
set_option Elab.async false
set_option linter.all false
set_option maxRecDepth 100000
set_option maxHeartbeats 4000000
namespace Kp
open PySem PySem.Spec PyProof.Rows L2 LamX
section
variable {A : Amb} {X : Cx} {δ : Dl} {s s1 s2 : A.S}
/-- (a,) * 2 -/
theorem de_two {a b : Expr} {d : PyData} {pos : Pos} (ha : DE A X δ s a (.d (.tuple [d])) s1) (hb : DE A X δ s1 b (.d (.int 2)) s2) : DE A X δ s (.BinOp a .Mult b pos) (.d (.tuple [d, d])) s2 :=
  de_bin op_repT (fun u v w s iv dx dy Q q => by
    obtain ⟨a, xs, ea, hs, da⟩ := dv_tup dx
    obtain rfl := dv_int dy
    have hl : xs.length = 1 := dpa_len da
    match xs, hl, da, hs with
    | [x], _, da, hs =>
    refine ⟨a, 2, [x], ea, rfl, same_t w.sub hs, (fun z => nomatch z), by decide, by decide, Nat.le_of_ble_eq_true rfl, fun p hp => ?_⟩
    refine q _ (w.new p _ hp) (w.new_le p _ hp) (inv_new hp iv) ?_
    exact Dp.tup (SqT.of (show upd w.G p _ p = _ from upd_same)) (dpa_mono (w.new_le p _ hp).g (dpa_app da da))) ha hb
end
theorem de_pkD {A : Amb} {X : Cx} {δ : Dl} {s s1 : A.S} {D : Addr} {row e : Expr} {r r' : Rw} {ds : List PyData} {v : Int} {p pos : Pos} (L : Ln A X.K D) (F : DPick X.prog X.w X.K X.mg X.base) (hr : Room 2 X.A) (hrow : DE A X δ s row (.r (.ref D)) s) (hl : DE A X δ s e (.d (.list ds)) s) (h : takeN r ds.length = (v, r')) (hs : L.get s = .l (rowD r)) (ok : r.Ok) (n0 : 0 < ds.length) (n1 : ds.length < 1000) (hp : L.put s (.l (rowD r')) = s1 := by rfl) (hg : Gl X "_law_pick" := by rfl)
    (he : starEach [row, e] X.env = (false, eval row X.env) :: starEach [e] X.env := by rfl) (he2 : starEach [e] X.env = (false, eval e X.env) :: starEach [] X.env := by rfl) (hpl : (backTo pos (starEach [e] X.env)).any (·.1) = false := by rfl) : DE A X δ s (.Call (.Name "_law_pick" p) [row, e] [] pos) (.d (ds.getD v.toNat .none)) s1 := by
  subst hp
  have := de_callM L F hr (da_cons hrow (da_cons hl da_nil he2) he) hs (m' := .l (rowD (takeN r ds.length).2)) (c := .d (ds.getD (takeN r ds.length).1.toNat .none)) ⟨r, ds, ok, n0, n1, rfl, rfl, rfl, rfl⟩ hg (by decide) he hpl (pos := pos) (p := p)
  rw [h] at this
  exact this
section
variable {P : Program} {w : World} {K : Fg} {mg : Str → Option Value} {base : Heap}
def badL : List PyData := [.none, .tuple [.int 1], .tuple [.int 1, .int 1], .tuple [.int 0, .int 1], .tuple [.int 8, .int 0], .list [.int 1, .int 0], .tuple [.bool true, .int 0], .tuple [.int 1, .int (-1)], .str (S "10")]
theorem badL_not : ∀ d ∈ badL, isPathB d = false := by decide +kernel
/-- what is no path and no entries is told so -/
theorem law_end {A : Amb} {f : Addr} {cdv : Value} {B : Around} {outer : List Env} {s : Shared} {H : Hp} {E : XK} {TA c CB CP CE CN R Q : Addr} (hR : ¬ A.M R) (hQ : ¬ (A.add K R).M Q) {sA : A.S} {D : Dsg} {r7 r8 r9 : Rw} {v b : Int} {m : Mo} {x0 x1 x2 x3 x4 x5 x6 x8 x9 x10 x11 x12 x20 : Option Sl} (N : Nms mg) (Er : Errs K mg CB CP CE CN)
    (TL : Tl ((A.add K R).add K Q) TA ((LX P w K mg base f cdv B outer s H E).env.qual ++ "<lambda>")) (TB : TabB base mg c TA) (hcode : (LX P w K mg base f cdv B outer s H E).env.code = .ref c) (F : Df K mg "_law_wrong" (top 53) ["_law_work"]) (GP : DPathsFor P w K mg base CE CN) (GT : DTaken P w K mg base) (GK : DPick P w K mg base) (GS : DSpared P w K mg base CP)
    (hr : Room 12 (LX P w K mg base f cdv B outer s H E).A) (okD : D.Ok) (few : D.ps.length ≤ 9) (ok7 : r7.Ok) (hv : takeN r7 8 = (v, r8)) (hb : takeN r8 9 = (b, r9)) :
    DB ((A.add K R).add K Q) (LX P w K mg base f cdv B outer s H E) E [x0, x1, x2, x3, x4, x5, x6, none, x8, x9, x10, x11, x12, none, none, none, none, some (.d D.enc), none, some (.r (.ref R)), x20, none] ((sA, .l (rowD r7)), m) [(defBody (top 54)).drop 17] (.rt (.d (.bool true)) ((sA, .l (rowD r9)), m)) := by
  have nd := sc54.nd
  obtain ⟨v0, v1, ok8⟩ := takeN_b hv ok7 (by decide)
  obtain ⟨b0, b1, ok9⟩ := takeN_b hb ok8 (by decide)
  let S7 : ((A.add K R).add K Q).S := ((sA, .l (rowD r7)), m)
  let S8 : ((A.add K R).add K Q).S := ((sA, .l (rowD r8)), m)
  let S9 : ((A.add K R).add K Q).S := ((sA, .l (rowD r9)), m)
  refine db_set (s1 := S7) (c := .d (.list [.none, .list [], .tuple [(Ent.order (S "set") (S "sum") 1).enc], .tuple [.none], .tuple [v1D, v1D], .str (S "value")])) 18 nd (de_lst (da_cons de_non (da_cons (de_lst (ds := []) da_nil) (da_cons (de_tup (ds := [(Ent.order (S "set") (S "sum") 1).enc]) (da_cons (de_tup (ds := [.str (S "order"), .str (S "set"), .str (S "sum"), .int 1]) (da_cons de_str (da_cons de_str (da_cons de_str (da_cons de_int da_nil))))) da_nil)) (da_cons (de_tup (ds := [.none]) (da_cons de_non da_nil)) (da_cons (de_two (d := v1D) (de_tup (ds := [v1D]) (da_cons (de_tup (ds := [.str (S "value"), .str (S "set"), .str (S "sum"), .str (S "a"), .int 1]) (da_cons de_str (da_cons de_str (da_cons de_str (da_cons de_str (da_cons de_int da_nil)))))) da_nil)) de_int) (da_cons de_str da_nil))))))) ?_
  refine db_set (s1 := S7) (c := .d (.list oddL)) 18 nd (DE.eq (s1 := S7) (c := .d (.list ([.none, .list [], .tuple [(Ent.order (S "set") (S "sum") 1).enc], .tuple [.none], .tuple [v1D, v1D], .str (S "value")] ++ [.tuple [v2D, v1D], .tuple [.list []]]))) (de_addL (s1 := S7) (de_var 18) (de_lst (ds := [.tuple [v2D, v1D], .tuple [.list []]]) (da_cons (de_tup (ds := [v2D, v1D]) (da_cons (de_tup (ds := [.str (S "value"), .str (S "set"), .str (S "sum"), .str (S "a"), .int 2]) (da_cons de_str (da_cons de_str (da_cons de_str (da_cons de_str (da_cons de_int da_nil)))))) (da_cons (de_tup (ds := [.str (S "value"), .str (S "set"), .str (S "sum"), .str (S "a"), .int 1]) (da_cons de_str (da_cons de_str (da_cons de_str (da_cons de_str (da_cons de_int da_nil)))))) da_nil))) (da_cons (de_tup (ds := [.list []]) (da_cons (de_lst (ds := []) da_nil) da_nil)) da_nil))) (Nat.le_of_ble_eq_true rfl)) rfl) ?_
  have w1 : wordOf CP CE CN CE = S "entries" := by
    have n := Er.ne
    simp only [List.nodup_cons, List.mem_cons, List.not_mem_nil, or_false, not_or] at n
    unfold wordOf
    rw [if_neg (fun z => n.1.1 z.symm), if_pos rfl]
  have w2 : wordOf CP CE CN CP = S "path" := if_pos rfl
  refine db_if (s1 := S8) (z := false) (DT.eq (dt_ne (d := .str (S "entries")) hr (DE.eq (wrong_odd N Er TL TB hcode F GP GT ((Ln.top hR).up hQ (K := K)) hr okD ok7 rfl hv rfl rfl rfl rfl) (by rw [w1])) de_str (by decide +kernel) (by decide +kernel)) (by decide +kernel)) (fun h => by cases h) (fun _ => db_pop ?_)
  refine db_set (s1 := S9) (c := .d (badL.getD b.toNat .none)) 16 nd ?_ ?_
  · refine de_pkD (ds := badL) ((Ln.top hR).up hQ (K := K)) GK (hr.mono (by decide)) (de_var 19) (de_lst (ds := badL) ?_) hb rfl ok8 (by decide) (by decide)
    exact da_cons de_non (da_cons (de_tup (ds := [.int 1]) (da_cons de_int da_nil)) (da_cons (de_tup (ds := [.int 1, .int 1]) (da_cons de_int (da_cons de_int da_nil))) (da_cons (de_tup (ds := [.int 0, .int 1]) (da_cons de_int (da_cons de_int da_nil))) (da_cons (de_tup (ds := [.int 8, .int 0]) (da_cons de_int (da_cons de_int da_nil))) (da_cons (de_lst (ds := [.int 1, .int 0]) (da_cons de_int (da_cons de_int da_nil))) (da_cons (de_tup (ds := [.bool true, .int 0]) (da_cons de_bl (da_cons de_int da_nil))) (da_cons (de_tup (ds := [.int 1, .int (-1)]) (da_cons de_int (da_cons (de_neg de_int) da_nil))) (da_cons de_str da_nil))))))))
  have hbad : isPathB (badL.getD b.toNat .none) = false := badL_not _ (getD_in (by show b.toNat < 9; omega))
  exact db_eq (db_ret (s1 := S9) (de_eq (d := .str (S "path")) hr (DE.eq (wrong_spared N Er TL TB hcode F GS hr okD (by omega) hbad rfl rfl) (by rw [w2])) de_str (by decide +kernel) (by decide +kernel))) rfl
end
end Kp
end
section
set_option Elab.async false
set_option linter.all false
set_option maxRecDepth 100000
set_option maxHeartbeats 4000000
namespace Kp
open PySem PySem.Spec PyProof.Rows L2 LamX
section
variable {P : Program} {w : World} {K : Fg} {mg : Str → Option Value} {base : Heap}
theorem law_db {f : Addr} {cdv : Value} {B : Around} {outer : List Env} {s : Shared} {H : Hp} {E : XK} {TA c CB CP CE CN : Addr} {scr : List Int} {q : Str} (N : Nms mg) (Er : Errs K mg CB CP CE CN)
    (hq : (LX P w K mg base f cdv B outer s H E).env.qual ++ "<lambda>" = q) (TB : TabB base mg c TA) (hcode : (LX P w K mg base f cdv B outer s H E).env.code = .ref c) (F : Df K mg "_law_wrong" (top 53) ["_law_work"])
    (GT : DTaken P w K mg base) (GK : DPick P w K mg base) (GD : DDesign P w K mg base) (GPl : DPlaces P w K mg base) (GE : DEntries P w K mg base) (GLO : DLOpens P w K mg base) (GA : DAlike P w K mg base 2)
    (GS : DSpared P w K mg base CP) (GP : DPathsFor P w K mg base CE CN) (GW : DWithPaths P w K mg base) (GI : DIsOpen P w K mg base)
    (hr : Room 12 (LX P w K mg base f cdv B outer s H E).A) (few : scr.length ≤ 100) :
    DB (AT TA q) (LX P w K mg base f cdv B outer s H E) E [some (.d (.list (scr.map .int))), none, none, none, none, none, none, none, none, none, none, none, none, none, none, none, none, none, none, none, none, none] () [defBody (top 54)] (.rt (.d (.bool true)) ()) := by
  have nd := sc54.nd
  have ok0 : Rw.Ok ⟨scr, 0, 14316, 0⟩ := ⟨(by decide : (0 : Int) ≤ 14316), (by decide : (14316 : Int) < 2147483647), few⟩
  rcases h0 : drawD ⟨scr, 0, 14316, 0⟩ with ⟨D, r1⟩
  rcases h1 : takeN r1 7 with ⟨t, r2⟩
  rcases h2 : takeN r2 (7 - t) with ⟨u, r3⟩
  rcases h3 : takeN r3 5 with ⟨n, r4⟩
  rcases h4 : takeN (rwN valsL.length n.toNat r4) 3 with ⟨n2, r6⟩
  obtain ⟨ex, r7, hx⟩ : ∃ (ex : List VE) (r7 : Rw), (nearL D = [] ∧ ex = [] ∧ r7 = r6) ∨ (nearL D ≠ [] ∧ ex = pkN (nearL D) n2.toNat r6 ∧ r7 = rwN (nearL D).length n2.toNat r6) := by
    by_cases e : nearL D = []
    · exact ⟨_, _, .inl ⟨e, rfl, rfl⟩⟩
    · exact ⟨_, _, .inr ⟨e, rfl, rfl⟩⟩
  rcases h5 : takeN r7 8 with ⟨v, r8⟩
  rcases h6 : takeN r8 9 with ⟨b, r9⟩
  obtain ⟨okD, ok1, fewD⟩ := drawD_ok ok0
  rw [h0] at okD ok1 fewD
  dsimp only at okD ok1 fewD
  obtain ⟨t0, t1, ok2⟩ := takeN_b h1 ok1 (by decide)
  obtain ⟨u0, u1, ok3⟩ := takeN_b h2 ok2 (by omega)
  obtain ⟨n0, n1, ok4⟩ := takeN_b h3 ok3 (by decide)
  obtain ⟨m0, m1, ok6⟩ := takeN_b h4 (rwN_ok ok4 _) (by decide)
  have ok7 : r7.Ok := by
    rcases hx with ⟨_, _, rfl⟩ | ⟨_, _, rfl⟩
    · exact ok6
    · exact rwN_ok ok6 _
  have exl : ex.length ≤ 2 := by
    rcases hx with ⟨_, rfl, _⟩ | ⟨_, rfl, _⟩
    · exact Nat.zero_le _
    · rw [pkN_len]; omega
  have exi : ∀ x ∈ ex, x ∈ valsL := by
    rcases hx with ⟨_, rfl, _⟩ | ⟨ne, rfl, _⟩
    · exact fun x m => nomatch m
    · exact fun x m => near_in (pkN_in (List.length_pos_iff.mpr ne) m)
  have len1 : (sortU vk (pkN valsL n.toNat r4)).length ≤ 4 := Nat.le_trans (sortU_len vk _) (by rw [pkN_len]; omega)
  have lenL : (sortU vk (sortU vk (pkN valsL n.toNat r4) ++ ex)).length ≤ 6 := Nat.le_trans (sortU_len vk _) (by rw [List.length_append]; omega)
  have okl : ∀ x ∈ sortU vk (sortU vk (pkN valsL n.toNat r4) ++ ex), (vE x).okB = true := fun x m => by
    rcases List.mem_append.mp (mem_vk.mp m) with m | m
    · exact vals_ok (pkN_in vals_pos (mem_vk.mp m))
    · exact vals_ok (exi x m)
  refine db_mut (s1 := ()) (m := .l (rowD ⟨scr, 0, 14316, 0⟩)) 19 nd (df_lst (ds := rowD ⟨scr, 0, 14316, 0⟩) (da_cons (de_var 0) (da_cons de_int (da_cons de_int (da_cons de_int da_nil))))) fun R hR => ?_
  refine ⟨_, OutUp.rt (A := AT TA q) (c := .d (.bool true)) (s := ()) (m := .l (rowD r9)), ?_⟩
  refine law_one hR N GT GD GPl GLO GA GS hr ok0 h0 h1 h2 ?_
  refine law_two hR N GT GK GE hr ok3 h3 h4 hx ?_
  have as := asc_vk (sortU vk (pkN valsL n.toNat r4) ++ ex)
  generalize sortU vk (sortU vk (pkN valsL n.toNat r4) ++ ex) = l at lenL okl as ⊢
  refine law_three hR N hr okl (by omega) fun Q hQ => ⟨_, OutUp.rt (A := (AT TA q).add K R) (c := .d (.bool true)) (s := ((), .l (rowD r9))) (m := .m (dm (fdN D (l.filter (vOpn D))))), ?_⟩
  have TL : Tl (((AT TA q).add K R).add K Q) TA ((LX P w K mg base f cdv B outer s H E).env.qual ++ "<lambda>") := by
    rw [hq]
    exact (tl_base.up hR).up hQ
  have hne := Er.ne
  simp only [List.nodup_cons, List.mem_cons, List.not_mem_nil, or_false, not_or] at hne
  cases g : l.any (vBad D) with
  | true =>
    refine db_if (z := false) (DT.eq (dt_ne (d := .str (S "made")) (e := .str (S "made")) hr (DE.eq (wrong_paths N Er TL TB hcode F GP hr okD okl as (by omega) rfl rfl) ?_) (de_if (dt_val (de_var 12)) (fun h => ?_) (fun h => de_str)) (by decide +kernel) (by decide +kernel)) (by decide +kernel)) (fun h => by cases h) (fun _ => db_pop ?_)
    · rw [if_pos g]
      show Sl.d (.str (wordOf CP CE CN CN)) = _
      unfold wordOf
      rw [if_neg (fun z => hne.1.2 z.symm), if_neg (fun z => hne.2.1 z.symm)]
    · cases h
    · refine db_if (z := false) (DT.eq (dt_val (de_var 12)) rfl) (fun h => by cases h) (fun _ => db_pop ?_)
      exact law_end hR hQ N Er TL TB hcode F GP GT GK GS hr okD fewD ok7 h5 h6
  | false =>
    refine db_if (z := false) (DT.eq (dt_ne (d := .str (S "")) (e := .str (S "")) hr (DE.eq (wrong_paths N Er TL TB hcode F GP hr okD okl as (by omega) rfl rfl) ?_) (de_if (dt_val (de_var 12)) (fun h => de_str) (fun h => ?_)) (by decide +kernel) (by decide +kernel)) (by decide +kernel)) (fun h => by cases h) (fun _ => db_pop ?_)
    · rw [if_neg (by rw [g]; decide)]
      rfl
    · cases h
    · exact law_good hR hQ N GP GA GW GI hr okD fewD okl as lenL g (law_end hR hQ N Er TL TB hcode F GP GT GK GS hr okD fewD ok7 h5 h6)
end
end Kp
end
section
set_option Elab.async false
set_option linter.all false
set_option maxRecDepth 100000
set_option maxHeartbeats 4000000
namespace Kp
open PySem PySem.Spec PyProof.Rows L2 LamX
/-! ### the law keeps its promise -/
def spLaw (K : Fg) (TA : Addr) : Sp := fun vs H Q _ => ∃ (a : Addr) (ns : List Int), vs = [.ref a] ∧ SqL K H a (ns.map V.int) ∧ ns.length ≤ 100 ∧ H TA = some (.tbl #[]) ∧ ∀ H', Q (.bl true) H'
theorem ints_dpa {K : Fg} {G : Hp} : ∀ ns : List Int, DpAll K G (ns.map V.int) (ns.map PyData.int)
  | [] => .nil
  | n :: r => .cons (.int n) (ints_dpa r)
section
variable {P : Program} {w : World} {K : Fg} {mg : Str → Option Value} {base : Heap}
theorem ok_law {f c TA CB CP CE CN : Addr} {fd : FuncData} (F : Fun K "law" "law" (top 54) f fd) (hfc : fd.code = .ref c) (TB : TabB base mg c TA) (N : Nms mg) (Er : Errs K mg CB CP CE CN) (FW : Df K mg "_law_wrong" (top 53) ["_law_work"])
    (GT : DTaken P w K mg base) (GK : DPick P w K mg base) (GD : DDesign P w K mg base) (GPl : DPlaces P w K mg base) (GE : DEntries P w K mg base) (GLO : DLOpens P w K mg base) (GA : DAlike P w K mg base 2)
    (GS : DSpared P w K mg base CP) (GP : DPathsFor P w K mg base CE CN) (GW : DWithPaths P w K mg base) (GI : DIsOpen P w K mg base) : FnOk P w K mg base (L2.CX P w) 13 f fd ["_law_script"] (spLaw K TA) := by
  obtain ⟨oc, od, kV, doc, pm, an, cdv, ct, osl, rfl, lk, hcd⟩ := F.ex
  have ec : cdv = .ref c := hfc
  subst ec
  refine fn_of lk hcd sc54 (fun vs H Q E h => ?_) fun B outer s H vs Q E hr h => ?_
  · obtain ⟨a, ns, rfl, _⟩ := h
    rfl
  · obtain ⟨a, ns, rfl, hS, few, hT, hQ⟩ := h
    refine ⟨wpS _ (defBody (top 54)), pss_w, ?_⟩
    have nA : ∀ o, (Rd H a o → (∀ ps, o ≠ .tbl ps)) → True := fun _ _ => trivial
    obtain ⟨G, sub, nt, gT, hG⟩ : ∃ G : Hp, Same G H ∧ Nt G ∧ G TA = none ∧ SqL K G a (ns.map V.int) := by
      rcases hS with (e | ⟨o, e⟩) | hS
      · refine ⟨upd (fun _ => none) a (.lst (ns.map V.int)), fun b x z => ?_, Nt.upd (G := fun _ => none) (fun _ _ z => (nomatch z)) (fun _ z => nomatch z), ?_, .inl (.inl upd_same)⟩
        · by_cases q : b = a
          · subst q
            rw [upd_same] at z
            rw [e]; exact z
          · rw [upd_ne q] at z
            cases z
        · rw [upd_ne (fun z => by rw [z, e] at hT; cases hT)]
      · refine ⟨upd (fun _ => none) a (.frz o (.lst (ns.map V.int))), fun b x z => ?_, Nt.upd (G := fun _ => none) (fun _ _ z => (nomatch z)) (fun _ z => nomatch z), ?_, .inl (.inr ⟨o, upd_same⟩)⟩
        · by_cases q : b = a
          · subst q
            rw [upd_same] at z
            rw [e]; exact z
          · rw [upd_ne q] at z
            cases z
        · rw [upd_ne (fun z => by rw [z, e] at hT; cases hT)]
      · exact ⟨fun _ => none, (fun _ _ z => nomatch z), (fun _ _ z => nomatch z), rfl, .inr hS⟩
    let w1 : Wd (AT TA ((LX P w K mg base f (.ref c) B outer s H E).env.qual ++ "<lambda>")) := ⟨G, H, sub, fun x m => by
      obtain rfl : x = TA := m
      exact ⟨gT, by rw [hT]; exact ⟨_, rfl, fun _ z => (nomatch z), fun _ z => nomatch z⟩⟩, nt⟩
    have run := law_db (w := w) (f := f) (cdv := .ref c) (B := B) (outer := outer) (s := s) (H := H) (E := E) (c := c) (TA := TA) (scr := ns) N Er rfl TB rfl FW GT GK GD GPl GE GLO GA GS GP GW GI hr few w1 (L2.start N54 [.ref a])
      (env_start (N := N54) (cs := [.d (.list (ns.map .int))]) ⟨Dp.lst hG (ints_dpa ns), trivial⟩) ⟨#[], hT, trivial, fun pos cv h => nomatch h⟩ { nx := fun _ H' => Q .non H', rt := Q } (fun v w' l i d => by rw [dv_bl d]; exact hQ _)
    exact run
end
end Kp
end
section
set_option Elab.async false
set_option linter.all false
set_option maxRecDepth 100000
set_option maxHeartbeats 4000000
namespace Kp
open PySem PySem.Spec PyProof.Rows L2 LamX
/-! ### what the head looks at -/
def dd (x : Str) (i : Nat) : He.DefD := ⟨(x, none), x, x, defArgs (top i), defBody (top i), defScope (top i), [], []⟩
/-- a written row of texts -/
def rowB (K : Fg) (a : Addr) (ss : List Str) : Bool := match K.lookup a with
  | some ⟨.type c, od, .seq its _, _⟩ => decide (c = "tuple") && (decide (od = none) && (decide (its.size ≤ sizeLine) && He.relAll (ss.map V.str) its.toList))
  | _ => false
theorem rowB_ok {K : Fg} {a : Addr} {ss : List Str} (h : rowB K a ss = true) : (∃ o, K.lookup a = some o ∧ o.cls = .type "tuple" ∧ o.dict = none) ∧ ∀ G, SqT K G a (ss.map V.str) := by
  unfold rowB at h
  split at h
  · rename_i c od its n sl q
    obtain ⟨h1, h2⟩ := He.ba h
    obtain ⟨h3, h4⟩ := He.ba h2
    obtain ⟨h5, h6⟩ := He.ba h4
    have e1 := of_decide_eq_true h1
    have e2 := of_decide_eq_true h3
    exact ⟨⟨_, q, congrArg Value.type e1, e2⟩, fun G => .inr ⟨_, its, n, q, congrArg Value.type e1, rfl, of_decide_eq_true h5, He.relAll_ok h6⟩⟩
  · cases h
/-- the i-th item of the module's tuple x, an object -/
def itA (K : Fg) (x : Str) (i : Nat) : Addr := match K.lookup (He.ga K x) with
  | some ⟨_, _, .seq its _, _⟩ => (match its.toList[i]? with
    | some (.ref a) => a
    | _ => 0)
  | _ => 0
def tabB (K : Fg) (x : Str) (rows : List (List Str)) : Bool := (match K.lookup (He.ga K x) with
  | some ⟨.type c, _, .seq its _, _⟩ => decide (c = "tuple") && (decide (its.size ≤ sizeLine) && He.relAll ((List.range' 0 rows.length).map fun i => V.ref (itA K x i)) its.toList)
  | _ => false) && (List.range rows.length).all fun i => rowB K (itA K x i) (rows.getD i [])
theorem tabB_ok {K : Fg} {x : Str} {rows : List (List Str)} (h : tabB K x rows = true) : (∀ G, SqT K G (He.ga K x) ((List.range' 0 rows.length).map fun i => V.ref (itA K x i))) ∧ ∀ i, i < rows.length → rowB K (itA K x i) (rows.getD i []) = true := by
  unfold tabB at h
  obtain ⟨h1, h2⟩ := He.ba h
  refine ⟨fun G => ?_, fun i hi => List.all_eq_true.mp h2 i (List.mem_range.mpr hi)⟩
  split at h1
  · rename_i c od its n sl q
    obtain ⟨a1, a2⟩ := He.ba h1
    obtain ⟨a3, a4⟩ := He.ba a2
    exact .inr ⟨_, its, n, q, congrArg Value.type (of_decide_eq_true a1), rfl, of_decide_eq_true a3, He.relAll_ok a4⟩
  · cases h1
theorem dpa_strs {K : Fg} {G : Hp} : ∀ ss : List Str, DpAll K G (ss.map V.str) (ss.map PyData.str)
  | [] => .nil
  | s :: r => .cons (.str s) (dpa_strs r)
theorem dp_row {K : Fg} {G : Hp} {a : Addr} {ss : List Str} (h : rowB K a ss = true) : Dp K G (.ref a) (strs_ ss) := .tup ((rowB_ok h).2 G) (dpa_strs ss)
theorem dpa_ix {K : Fg} {G : Hp} {f : Nat → V} : ∀ (l : List PyData) (k : Nat), (∀ i d, l[i]? = some d → Dp K G (f (k + i)) d) → DpAll K G ((List.range' k l.length).map f) l
  | [], _, _ => .nil
  | d :: l, k, h => .cons (h 0 d rfl) (dpa_ix l (k + 1) fun i e z => by
    have := h (i + 1) e (by simpa using z)
    rwa [show k + (i + 1) = k + 1 + i by omega] at this)
theorem dp_tab {K : Fg} {G : Hp} {x : Str} {rows : List (List Str)} (h : tabB K x rows = true) : Dp K G (.ref (He.ga K x)) (.tuple (rows.map strs_)) := by
  obtain ⟨h1, h2⟩ := tabB_ok h
  refine .tup (h1 G) ?_
  have := dpa_ix (K := K) (G := G) (f := fun i => V.ref (itA K x i)) (rows.map strs_) 0 fun i d z => by
    rw [List.getElem?_map] at z
    cases e : rows[i]? with
    | none => rw [e] at z; cases z
    | some r =>
      rw [e] at z
      have hi : i < rows.length := by
        by_cases q : i < rows.length
        · exact q
        · rw [List.getElem?_eq_none (by omega)] at e; cases e
      have hr := h2 i hi
      have er : rows.getD i [] = r := by rw [List.getD_eq_getElem?_getD, e]; rfl
      rw [er] at hr
      cases z
      rw [Nat.zero_add]
      exact dp_row hr
  rwa [List.length_map] at this
section
variable {K : Fg} {mg : Str → Option Value}
theorem kc_row {x : Str} {ss : List Str} (g : mg x = some (.ref (He.ga K x))) (h : rowB K (He.ga K x) ss = true) : KC K mg x (.d (strs_ ss)) := ⟨.ref (He.ga K x), _, g, rfl, fun _ => dp_row h⟩
theorem kc_tab {x : Str} {rows : List (List Str)} (g : mg x = some (.ref (He.ga K x))) (h : tabB K x rows = true) : KC K mg x (.d (.tuple (rows.map strs_))) := ⟨.ref (He.ga K x), _, g, rfl, fun _ => dp_tab h⟩
theorem kc_int {x : Str} {i : Int} (h : ∃ t, mg x = some (.int i t)) : KC K mg x (.d (.int i)) := by
  obtain ⟨t, e⟩ := h
  exact ⟨.int i, _, e, ⟨t, rfl⟩, fun _ => .int i⟩
theorem nk_of (g : mg "NAMES" = some (.ref (He.ga K "NAMES"))) (h : tabB K "NAMES" namesL = true) : NamesK K mg := by
  obtain ⟨h1, h2⟩ := tabB_ok h
  refine ⟨He.ga K "NAMES", (List.range' 0 8).map fun i => itA K "NAMES" i, g, fun G => ?_, fun i hi => ⟨itA K "NAMES" i, ?_, rowB_ok (h2 i hi)⟩⟩
  · rw [List.map_map]
    exact h1 G
  · rw [List.getElem?_map, List.getElem?_range' (by omega)]
    simp
def exC1 (K : Fg) (C : Addr) : Bool := decide (PySem.W.findIn K (.ref C) "__getattribute__" = some (some (.builtin "BaseException.__getattribute__"))) && (decide (PySem.W.findIn K (.ref C) "__getattr__" = some none) && (decide (PySem.W.subIn K (.ref C) (.type "BaseException") = some true) && (PySem.W.hasDictIn K C &&
  (decide (PySem.W.findIn K (.ref C) "__class__" = some (some (.builtin "object.__class__"))) && (decide (PySem.W.specialIn K (.builtin "object.__class__") "__get__" = some (some (.builtin "getset_descriptor.__get__"))) && (decide (PySem.W.takesIn K (.builtin "object.__class__") = some true) && decide (PySem.W.mroIn K C (.type "object") = some true)))))))
theorem exC1_ok {C : Addr} (h : exC1 K C = true) : L2.ExcC K C := by
  unfold exC1 at h
  simp only [Bool.and_eq_true, decide_eq_true_eq] at h
  obtain ⟨h1, h2, h3, h4, h5, h6, h7, h8⟩ := h
  exact ⟨h1, h2, h3, h4, h5, h6, h7, h8⟩
def errL (K : Fg) : List Addr := [He.ga K "BadPath", He.ga K "BadEntries", He.ga K "NotMade"]
def errB (K : Fg) : Bool := (errL K).all (exC1 K) && (((errL K).all fun C => (errL K).all fun D => decide (PySem.W.kitOne K (.ref C) (.ref D) = some (decide (C = D)))) && decide (errL K).Nodup)
def exB (K : Fg) : Bool := tabB K "NAMES" namesL && (rowB K (He.ga K "WRITING") writingL && (tabB K "USERS" (usersL.map fun p => [p.1, p.2]) && (rowB K (He.ga K "EFFECTS") effectsL && errB K)))
theorem exc_of {x : Str} (c : (He.Fa.exc x).ok K = true) (g : mg x = some (.ref (He.ga K x))) : ExC K mg x (He.ga K x) := by
  obtain ⟨h1, h2, h3, h4⟩ := He.exc_ok c
  exact ⟨h1, g, h2, h3, h4⟩
theorem errs_of (e : errB K = true) (g : mg "BeltError" = some (.ref (He.ga K "BeltError"))) (p : ExC K mg "BadPath" (He.ga K "BadPath")) (e' : ExC K mg "BadEntries" (He.ga K "BadEntries")) (n : ExC K mg "NotMade" (He.ga K "NotMade"))
    (m1 : PySem.W.exmOne K (.ref (He.ga K "BadPath")) (.ref (He.ga K "BeltError")) = some true) (m2 : PySem.W.exmOne K (.ref (He.ga K "BadEntries")) (.ref (He.ga K "BeltError")) = some true) (m3 : PySem.W.exmOne K (.ref (He.ga K "NotMade")) (.ref (He.ga K "BeltError")) = some true) :
    Errs K mg (He.ga K "BeltError") (He.ga K "BadPath") (He.ga K "BadEntries") (He.ga K "NotMade") := by
  obtain ⟨e1, e2⟩ := He.ba e
  obtain ⟨e3, e4⟩ := He.ba e2
  refine ⟨g, p, e', n, fun C hC => ⟨exC1_ok (List.all_eq_true.mp e1 C hC), ?_⟩, fun C hC D hD => of_decide_eq_true (List.all_eq_true.mp (List.all_eq_true.mp e3 C hC) D hD), of_decide_eq_true e4⟩
  simp only [List.mem_cons, List.not_mem_nil, or_false] at hC
  rcases hC with rfl | rfl | rfl
  · exact m1
  · exact m2
  · exact m3
theorem fun_of {x : Str} {st : Stmt} {f : Addr} {fd : FuncData} (F : FunD K x x (defArgs st) (defBody st) (defScope st) [] [] f fd) : Fun K x x st f fd := by
  obtain ⟨oc, od, dV, kV, doc, pm, an, cdv, ct, osl, rfl, lk, hcd, hD, hK⟩ := F.ex
  rcases hD with ⟨_, rfl⟩ | ⟨e, _⟩
  · exact ⟨⟨oc, od, kV, doc, pm, an, cdv, ct, osl, rfl, lk, hcd⟩, F.kp⟩
  · exact absurd rfl e
theorem df_mk {x : Str} {st : Stmt} {ps : List Str} (h : ∃ fd, FunD K x x (defArgs st) (defBody st) (defScope st) [] [] (He.ga K x) fd)
    (hb : ∀ (kV doc pm : Value) (an : Option Addr) (cdv ct : Value) (us : List Value), us.length = ps.length → bindArgs (PySem.W.fnOf x x (defArgs st) (defBody st) (defScope st) .none kV doc pm an cdv ct) ⟨us, []⟩ = pure (ps.zip us)) (g : mg x = some (.ref (He.ga K x))) : Df K mg x st ps := by
  obtain ⟨fd, F⟩ := h
  exact ⟨_, fd, fun_of F, F.bindsN hb, g⟩
end
def fn : List He.DefD := [dd "is_integer" 1, dd "is_in" 2, dd "is_list" 3, dd "is_place" 19, dd "are_places" 20, dd "is_path" 21, dd "rises" 22, dd "are_paths" 23, dd "is_entry_in" 24, dd "are_waits" 25, dd "is_design" 26, dd "need_design" 27, dd "need_entry" 28, dd "place_in" 29, dd "effect_in" 30, dd "used_in" 31, dd "entries_apart" 32, dd "every_entry" 33, dd "need_path" 34, dd "with_paths" 35, dd "value_open" 37, dd "open_in" 38, dd "opens_in" 39, dd "is_open" 40, dd "spared_by" 41, dd "paths_for" 42, dd "_law_taken" 44, dd "_law_pick" 45, dd "_law_alike" 46, dd "_law_up" 47, dd "_law_design" 48, dd "_law_places" 49, dd "_law_entries" 50, dd "_law_is_open" 51, dd "_law_opens" 52, dd "_law_wrong" 53, dd "law" 54]
def fa1 : List He.Fa := [.free "len", .free "all", .free "isinstance", .free "int", .free "bool", .free "str", .free "tuple", .free "list", .free "range", .free "sorted", .free "set", .free "min", .free "max", .glo "is_integer", .glo "is_in", .glo "is_list", .glo "is_place", .glo "are_places", .glo "is_path", .glo "rises", .glo "are_paths", .glo "is_entry_in", .glo "are_waits", .glo "is_design", .glo "need_design", .glo "need_entry", .glo "place_in", .glo "effect_in", .glo "used_in", .glo "entries_apart", .glo "every_entry", .glo "need_path", .glo "with_paths"]
def fa2 : List He.Fa := [.glo "value_open", .glo "open_in", .glo "opens_in", .glo "is_open", .glo "spared_by", .glo "paths_for", .glo "_law_taken", .glo "_law_pick", .glo "_law_alike", .glo "_law_up", .glo "_law_design", .glo "_law_places", .glo "_law_entries", .glo "_law_is_open", .glo "_law_opens", .glo "_law_wrong", .glo "law", .int "MOST_PLACE" 7, .int "MOST_APART" 7, .glo "BeltError", .glo "NAMES", .glo "WRITING", .glo "USERS", .glo "EFFECTS", .glo "BadPath", .glo "BadEntries", .glo "NotMade", .exc "BadPath", .exc "BadEntries", .exc "NotMade", .exm "BadPath" "BeltError" true, .exm "BadEntries" "BeltError" true, .exm "NotMade" "BeltError" true]
def fa : List He.Fa := fa1 ++ fa2
def loose0 : List Str := ["is_integer", "is_in", "is_list", "is_place", "are_places", "is_path", "rises", "are_paths", "is_entry_in", "are_waits", "is_design", "need_design"]
def loose1 : List Str := ["need_entry", "place_in", "effect_in", "used_in", "entries_apart", "every_entry", "need_path", "with_paths", "value_open", "open_in", "opens_in", "is_open"]
def loose2 : List Str := ["spared_by", "paths_for", "_law_taken", "_law_pick", "_law_alike", "_law_up", "_law_design", "_law_places", "_law_entries", "_law_is_open", "_law_opens", "_law_wrong"]
def loose3 : List Str := ["BeltError", "BadDesign", "BadEntry", "BadPaths", "BadPath", "BadEntries", "NotMade", "WRITING", "MOST_PLACE", "MOST_APART", "USERS", "EFFECTS"]
def loose4 : List Str := ["NAMES"]
def loose : List Str := loose0 ++ loose1 ++ loose2 ++ loose3 ++ loose4
section
variable {P : Program} {w : World} {K : Fg} {h base : Heap} {mg : Str → Option Value}
/-- what the head tells -/
structure All (K : Fg) (mg : Str → Option Value) : Prop where
  N : Nms mg
  T : Tabs_ K mg
  NK : NamesK K mg
  Er : Errs K mg (He.ga K "BeltError") (He.ga K "BadPath") (He.ga K "BadEntries") (He.ga K "NotMade")
  d1 : Df K mg "is_integer" (top 1) ["value"]
  d2 : Df K mg "is_in" (top 2) ["value", "least", "most"]
  d3 : Df K mg "is_list" (top 3) ["value", "least", "most"]
  d19 : Df K mg "is_place" (top 19) ["value"]
  d20 : Df K mg "are_places" (top 20) ["read", "places"]
  d21 : Df K mg "is_path" (top 21) ["value"]
  d22 : Df K mg "rises" (top 22) ["some"]
  d23 : Df K mg "are_paths" (top 23) ["value"]
  d24 : Df K mg "is_entry_in" (top 24) ["value"]
  d25 : Df K mg "are_waits" (top 25) ["value"]
  d26 : Df K mg "is_design" (top 26) ["value"]
  d27 : Df K mg "need_design" (top 27) ["design"]
  d28 : Df K mg "need_entry" (top 28) ["entry"]
  d29 : Df K mg "place_in" (top 29) ["design", "kind", "what"]
  d30 : Df K mg "effect_in" (top 30) ["design", "kind"]
  d31 : Df K mg "used_in" (top 31) ["design", "kind", "role"]
  d32 : Df K mg "entries_apart" (top 32) ["apart"]
  d33 : Df K mg "every_entry" (top 33) []
  d34 : Df K mg "need_path" (top 34) ["path"]
  d35 : Df K mg "with_paths" (top 35) ["design", "paths"]
  d37 : Df K mg "value_open" (top 37) ["design", "entry"]
  d38 : Df K mg "open_in" (top 38) ["design", "entry"]
  d39 : Df K mg "opens_in" (top 39) ["design"]
  d40 : Df K mg "is_open" (top 40) ["design", "entry"]
  d41 : Df K mg "spared_by" (top 41) ["design", "path"]
  d42 : Df K mg "paths_for" (top 42) ["design", "entries"]
  d44 : Df K mg "_law_taken" (top 44) ["_law_row", "_law_many"]
  d45 : Df K mg "_law_pick" (top 45) ["_law_row", "_law_kinds"]
  d46 : Df K mg "_law_alike" (top 46) ["_law_found", "_law_due"]
  d47 : Df K mg "_law_up" (top 47) ["_law_row", "_law_least", "_law_most"]
  d48 : Df K mg "_law_design" (top 48) ["_law_row"]
  d49 : Df K mg "_law_places" (top 49) ["_law_design_here"]
  d50 : Df K mg "_law_entries" (top 50) []
  d51 : Df K mg "_law_is_open" (top 51) ["_law_design_here", "_law_spots", "_law_entry"]
  d52 : Df K mg "_law_opens" (top 52) ["_law_design_here"]
  d53 : Df K mg "_law_wrong" (top 53) ["_law_work"]
theorem all_of (c : He.SaysD fa fn K) (e : exB K = true) (X : K.In h) (G : h.Ns mainGlobals mg) : All K mg := by
  have n_len : mg "len" = none := He.free_ok X G (c.fact 0 (f := .free "len") rfl)
  have n_all : mg "all" = none := He.free_ok X G (c.fact 1 (f := .free "all") rfl)
  have n_isinstance : mg "isinstance" = none := He.free_ok X G (c.fact 2 (f := .free "isinstance") rfl)
  have n_int : mg "int" = none := He.free_ok X G (c.fact 3 (f := .free "int") rfl)
  have n_bool : mg "bool" = none := He.free_ok X G (c.fact 4 (f := .free "bool") rfl)
  have n_str : mg "str" = none := He.free_ok X G (c.fact 5 (f := .free "str") rfl)
  have n_tuple : mg "tuple" = none := He.free_ok X G (c.fact 6 (f := .free "tuple") rfl)
  have n_list : mg "list" = none := He.free_ok X G (c.fact 7 (f := .free "list") rfl)
  have n_range : mg "range" = none := He.free_ok X G (c.fact 8 (f := .free "range") rfl)
  have n_sorted : mg "sorted" = none := He.free_ok X G (c.fact 9 (f := .free "sorted") rfl)
  have n_set : mg "set" = none := He.free_ok X G (c.fact 10 (f := .free "set") rfl)
  have n_min : mg "min" = none := He.free_ok X G (c.fact 11 (f := .free "min") rfl)
  have n_max : mg "max" = none := He.free_ok X G (c.fact 12 (f := .free "max") rfl)
  have N : Nms mg := ⟨n_len, n_all, n_isinstance, n_int, n_bool, n_str, n_tuple, n_list, n_range, n_sorted, n_set, n_min, n_max⟩
  have g_BeltError : mg "BeltError" = some (.ref (He.ga K "BeltError")) := He.glo_ok X G (c.fact 52 (f := .glo "BeltError") rfl)
  have g_NAMES : mg "NAMES" = some (.ref (He.ga K "NAMES")) := He.glo_ok X G (c.fact 53 (f := .glo "NAMES") rfl)
  have g_WRITING : mg "WRITING" = some (.ref (He.ga K "WRITING")) := He.glo_ok X G (c.fact 54 (f := .glo "WRITING") rfl)
  have g_USERS : mg "USERS" = some (.ref (He.ga K "USERS")) := He.glo_ok X G (c.fact 55 (f := .glo "USERS") rfl)
  have g_EFFECTS : mg "EFFECTS" = some (.ref (He.ga K "EFFECTS")) := He.glo_ok X G (c.fact 56 (f := .glo "EFFECTS") rfl)
  have g_BadPath : mg "BadPath" = some (.ref (He.ga K "BadPath")) := He.glo_ok X G (c.fact 57 (f := .glo "BadPath") rfl)
  have g_BadEntries : mg "BadEntries" = some (.ref (He.ga K "BadEntries")) := He.glo_ok X G (c.fact 58 (f := .glo "BadEntries") rfl)
  have g_NotMade : mg "NotMade" = some (.ref (He.ga K "NotMade")) := He.glo_ok X G (c.fact 59 (f := .glo "NotMade") rfl)
  obtain ⟨e1, e⟩ := He.ba e
  obtain ⟨e2, e⟩ := He.ba e
  obtain ⟨e3, e⟩ := He.ba e
  obtain ⟨e4, e⟩ := He.ba e
  have T : Tabs_ K mg := ⟨kc_tab g_NAMES e1, kc_row g_WRITING e2, kc_tab g_USERS e3, kc_row g_EFFECTS e4, kc_int (He.int_ok X G (c.fact 50 (f := .int "MOST_PLACE" 7) rfl)), kc_int (He.int_ok X G (c.fact 51 (f := .int "MOST_APART" 7) rfl))⟩
  have NK : NamesK K mg := nk_of g_NAMES e1
  have x_BadPath : ExC K mg "BadPath" (He.ga K "BadPath") := exc_of (c.fact 60 (f := .exc "BadPath") rfl) g_BadPath
  have x_BadEntries : ExC K mg "BadEntries" (He.ga K "BadEntries") := exc_of (c.fact 61 (f := .exc "BadEntries") rfl) g_BadEntries
  have x_NotMade : ExC K mg "NotMade" (He.ga K "NotMade") := exc_of (c.fact 62 (f := .exc "NotMade") rfl) g_NotMade
  have m_BadPath : PySem.W.exmOne K (.ref (He.ga K "BadPath")) (.ref (He.ga K "BeltError")) = some true := He.exm_ok (c.fact 63 (f := .exm "BadPath" "BeltError" true) rfl)
  have m_BadEntries : PySem.W.exmOne K (.ref (He.ga K "BadEntries")) (.ref (He.ga K "BeltError")) = some true := He.exm_ok (c.fact 64 (f := .exm "BadEntries" "BeltError" true) rfl)
  have m_NotMade : PySem.W.exmOne K (.ref (He.ga K "NotMade")) (.ref (He.ga K "BeltError")) = some true := He.exm_ok (c.fact 65 (f := .exm "NotMade" "BeltError" true) rfl)
  have Er := errs_of e g_BeltError x_BadPath x_BadEntries x_NotMade m_BadPath m_BadEntries m_NotMade
  have d1 : Df K mg "is_integer" (top 1) ["value"] := df_mk (x := "is_integer") (st := top 1) (c.def_ 0 (d := dd "is_integer" 1) rfl) (fun _ _ _ _ _ _ us hl => match us, hl with | [_], _ => rfl) (He.glo_ok X G (c.fact 13 (f := .glo "is_integer") rfl))
  have d2 : Df K mg "is_in" (top 2) ["value", "least", "most"] := df_mk (x := "is_in") (st := top 2) (c.def_ 1 (d := dd "is_in" 2) rfl) (fun _ _ _ _ _ _ us hl => match us, hl with | [_, _, _], _ => rfl) (He.glo_ok X G (c.fact 14 (f := .glo "is_in") rfl))
  have d3 : Df K mg "is_list" (top 3) ["value", "least", "most"] := df_mk (x := "is_list") (st := top 3) (c.def_ 2 (d := dd "is_list" 3) rfl) (fun _ _ _ _ _ _ us hl => match us, hl with | [_, _, _], _ => rfl) (He.glo_ok X G (c.fact 15 (f := .glo "is_list") rfl))
  have d19 : Df K mg "is_place" (top 19) ["value"] := df_mk (x := "is_place") (st := top 19) (c.def_ 3 (d := dd "is_place" 19) rfl) (fun _ _ _ _ _ _ us hl => match us, hl with | [_], _ => rfl) (He.glo_ok X G (c.fact 16 (f := .glo "is_place") rfl))
  have d20 : Df K mg "are_places" (top 20) ["read", "places"] := df_mk (x := "are_places") (st := top 20) (c.def_ 4 (d := dd "are_places" 20) rfl) (fun _ _ _ _ _ _ us hl => match us, hl with | [_, _], _ => rfl) (He.glo_ok X G (c.fact 17 (f := .glo "are_places") rfl))
  have d21 : Df K mg "is_path" (top 21) ["value"] := df_mk (x := "is_path") (st := top 21) (c.def_ 5 (d := dd "is_path" 21) rfl) (fun _ _ _ _ _ _ us hl => match us, hl with | [_], _ => rfl) (He.glo_ok X G (c.fact 18 (f := .glo "is_path") rfl))
  have d22 : Df K mg "rises" (top 22) ["some"] := df_mk (x := "rises") (st := top 22) (c.def_ 6 (d := dd "rises" 22) rfl) (fun _ _ _ _ _ _ us hl => match us, hl with | [_], _ => rfl) (He.glo_ok X G (c.fact 19 (f := .glo "rises") rfl))
  have d23 : Df K mg "are_paths" (top 23) ["value"] := df_mk (x := "are_paths") (st := top 23) (c.def_ 7 (d := dd "are_paths" 23) rfl) (fun _ _ _ _ _ _ us hl => match us, hl with | [_], _ => rfl) (He.glo_ok X G (c.fact 20 (f := .glo "are_paths") rfl))
  have d24 : Df K mg "is_entry_in" (top 24) ["value"] := df_mk (x := "is_entry_in") (st := top 24) (c.def_ 8 (d := dd "is_entry_in" 24) rfl) (fun _ _ _ _ _ _ us hl => match us, hl with | [_], _ => rfl) (He.glo_ok X G (c.fact 21 (f := .glo "is_entry_in") rfl))
  have d25 : Df K mg "are_waits" (top 25) ["value"] := df_mk (x := "are_waits") (st := top 25) (c.def_ 9 (d := dd "are_waits" 25) rfl) (fun _ _ _ _ _ _ us hl => match us, hl with | [_], _ => rfl) (He.glo_ok X G (c.fact 22 (f := .glo "are_waits") rfl))
  have d26 : Df K mg "is_design" (top 26) ["value"] := df_mk (x := "is_design") (st := top 26) (c.def_ 10 (d := dd "is_design" 26) rfl) (fun _ _ _ _ _ _ us hl => match us, hl with | [_], _ => rfl) (He.glo_ok X G (c.fact 23 (f := .glo "is_design") rfl))
  have d27 : Df K mg "need_design" (top 27) ["design"] := df_mk (x := "need_design") (st := top 27) (c.def_ 11 (d := dd "need_design" 27) rfl) (fun _ _ _ _ _ _ us hl => match us, hl with | [_], _ => rfl) (He.glo_ok X G (c.fact 24 (f := .glo "need_design") rfl))
  have d28 : Df K mg "need_entry" (top 28) ["entry"] := df_mk (x := "need_entry") (st := top 28) (c.def_ 12 (d := dd "need_entry" 28) rfl) (fun _ _ _ _ _ _ us hl => match us, hl with | [_], _ => rfl) (He.glo_ok X G (c.fact 25 (f := .glo "need_entry") rfl))
  have d29 : Df K mg "place_in" (top 29) ["design", "kind", "what"] := df_mk (x := "place_in") (st := top 29) (c.def_ 13 (d := dd "place_in" 29) rfl) (fun _ _ _ _ _ _ us hl => match us, hl with | [_, _, _], _ => rfl) (He.glo_ok X G (c.fact 26 (f := .glo "place_in") rfl))
  have d30 : Df K mg "effect_in" (top 30) ["design", "kind"] := df_mk (x := "effect_in") (st := top 30) (c.def_ 14 (d := dd "effect_in" 30) rfl) (fun _ _ _ _ _ _ us hl => match us, hl with | [_, _], _ => rfl) (He.glo_ok X G (c.fact 27 (f := .glo "effect_in") rfl))
  have d31 : Df K mg "used_in" (top 31) ["design", "kind", "role"] := df_mk (x := "used_in") (st := top 31) (c.def_ 15 (d := dd "used_in" 31) rfl) (fun _ _ _ _ _ _ us hl => match us, hl with | [_, _, _], _ => rfl) (He.glo_ok X G (c.fact 28 (f := .glo "used_in") rfl))
  have d32 : Df K mg "entries_apart" (top 32) ["apart"] := df_mk (x := "entries_apart") (st := top 32) (c.def_ 16 (d := dd "entries_apart" 32) rfl) (fun _ _ _ _ _ _ us hl => match us, hl with | [_], _ => rfl) (He.glo_ok X G (c.fact 29 (f := .glo "entries_apart") rfl))
  have d33 : Df K mg "every_entry" (top 33) [] := df_mk (x := "every_entry") (st := top 33) (c.def_ 17 (d := dd "every_entry" 33) rfl) (fun _ _ _ _ _ _ us hl => match us, hl with | [], _ => rfl) (He.glo_ok X G (c.fact 30 (f := .glo "every_entry") rfl))
  have d34 : Df K mg "need_path" (top 34) ["path"] := df_mk (x := "need_path") (st := top 34) (c.def_ 18 (d := dd "need_path" 34) rfl) (fun _ _ _ _ _ _ us hl => match us, hl with | [_], _ => rfl) (He.glo_ok X G (c.fact 31 (f := .glo "need_path") rfl))
  have d35 : Df K mg "with_paths" (top 35) ["design", "paths"] := df_mk (x := "with_paths") (st := top 35) (c.def_ 19 (d := dd "with_paths" 35) rfl) (fun _ _ _ _ _ _ us hl => match us, hl with | [_, _], _ => rfl) (He.glo_ok X G (c.fact 32 (f := .glo "with_paths") rfl))
  have d37 : Df K mg "value_open" (top 37) ["design", "entry"] := df_mk (x := "value_open") (st := top 37) (c.def_ 20 (d := dd "value_open" 37) rfl) (fun _ _ _ _ _ _ us hl => match us, hl with | [_, _], _ => rfl) (He.glo_ok X G (c.fact 33 (f := .glo "value_open") rfl))
  have d38 : Df K mg "open_in" (top 38) ["design", "entry"] := df_mk (x := "open_in") (st := top 38) (c.def_ 21 (d := dd "open_in" 38) rfl) (fun _ _ _ _ _ _ us hl => match us, hl with | [_, _], _ => rfl) (He.glo_ok X G (c.fact 34 (f := .glo "open_in") rfl))
  have d39 : Df K mg "opens_in" (top 39) ["design"] := df_mk (x := "opens_in") (st := top 39) (c.def_ 22 (d := dd "opens_in" 39) rfl) (fun _ _ _ _ _ _ us hl => match us, hl with | [_], _ => rfl) (He.glo_ok X G (c.fact 35 (f := .glo "opens_in") rfl))
  have d40 : Df K mg "is_open" (top 40) ["design", "entry"] := df_mk (x := "is_open") (st := top 40) (c.def_ 23 (d := dd "is_open" 40) rfl) (fun _ _ _ _ _ _ us hl => match us, hl with | [_, _], _ => rfl) (He.glo_ok X G (c.fact 36 (f := .glo "is_open") rfl))
  have d41 : Df K mg "spared_by" (top 41) ["design", "path"] := df_mk (x := "spared_by") (st := top 41) (c.def_ 24 (d := dd "spared_by" 41) rfl) (fun _ _ _ _ _ _ us hl => match us, hl with | [_, _], _ => rfl) (He.glo_ok X G (c.fact 37 (f := .glo "spared_by") rfl))
  have d42 : Df K mg "paths_for" (top 42) ["design", "entries"] := df_mk (x := "paths_for") (st := top 42) (c.def_ 25 (d := dd "paths_for" 42) rfl) (fun _ _ _ _ _ _ us hl => match us, hl with | [_, _], _ => rfl) (He.glo_ok X G (c.fact 38 (f := .glo "paths_for") rfl))
  have d44 : Df K mg "_law_taken" (top 44) ["_law_row", "_law_many"] := df_mk (x := "_law_taken") (st := top 44) (c.def_ 26 (d := dd "_law_taken" 44) rfl) (fun _ _ _ _ _ _ us hl => match us, hl with | [_, _], _ => rfl) (He.glo_ok X G (c.fact 39 (f := .glo "_law_taken") rfl))
  have d45 : Df K mg "_law_pick" (top 45) ["_law_row", "_law_kinds"] := df_mk (x := "_law_pick") (st := top 45) (c.def_ 27 (d := dd "_law_pick" 45) rfl) (fun _ _ _ _ _ _ us hl => match us, hl with | [_, _], _ => rfl) (He.glo_ok X G (c.fact 40 (f := .glo "_law_pick") rfl))
  have d46 : Df K mg "_law_alike" (top 46) ["_law_found", "_law_due"] := df_mk (x := "_law_alike") (st := top 46) (c.def_ 28 (d := dd "_law_alike" 46) rfl) (fun _ _ _ _ _ _ us hl => match us, hl with | [_, _], _ => rfl) (He.glo_ok X G (c.fact 41 (f := .glo "_law_alike") rfl))
  have d47 : Df K mg "_law_up" (top 47) ["_law_row", "_law_least", "_law_most"] := df_mk (x := "_law_up") (st := top 47) (c.def_ 29 (d := dd "_law_up" 47) rfl) (fun _ _ _ _ _ _ us hl => match us, hl with | [_, _, _], _ => rfl) (He.glo_ok X G (c.fact 42 (f := .glo "_law_up") rfl))
  have d48 : Df K mg "_law_design" (top 48) ["_law_row"] := df_mk (x := "_law_design") (st := top 48) (c.def_ 30 (d := dd "_law_design" 48) rfl) (fun _ _ _ _ _ _ us hl => match us, hl with | [_], _ => rfl) (He.glo_ok X G (c.fact 43 (f := .glo "_law_design") rfl))
  have d49 : Df K mg "_law_places" (top 49) ["_law_design_here"] := df_mk (x := "_law_places") (st := top 49) (c.def_ 31 (d := dd "_law_places" 49) rfl) (fun _ _ _ _ _ _ us hl => match us, hl with | [_], _ => rfl) (He.glo_ok X G (c.fact 44 (f := .glo "_law_places") rfl))
  have d50 : Df K mg "_law_entries" (top 50) [] := df_mk (x := "_law_entries") (st := top 50) (c.def_ 32 (d := dd "_law_entries" 50) rfl) (fun _ _ _ _ _ _ us hl => match us, hl with | [], _ => rfl) (He.glo_ok X G (c.fact 45 (f := .glo "_law_entries") rfl))
  have d51 : Df K mg "_law_is_open" (top 51) ["_law_design_here", "_law_spots", "_law_entry"] := df_mk (x := "_law_is_open") (st := top 51) (c.def_ 33 (d := dd "_law_is_open" 51) rfl) (fun _ _ _ _ _ _ us hl => match us, hl with | [_, _, _], _ => rfl) (He.glo_ok X G (c.fact 46 (f := .glo "_law_is_open") rfl))
  have d52 : Df K mg "_law_opens" (top 52) ["_law_design_here"] := df_mk (x := "_law_opens") (st := top 52) (c.def_ 34 (d := dd "_law_opens" 52) rfl) (fun _ _ _ _ _ _ us hl => match us, hl with | [_], _ => rfl) (He.glo_ok X G (c.fact 47 (f := .glo "_law_opens") rfl))
  have d53 : Df K mg "_law_wrong" (top 53) ["_law_work"] := df_mk (x := "_law_wrong") (st := top 53) (c.def_ 35 (d := dd "_law_wrong" 53) rfl) (fun _ _ _ _ _ _ us hl => match us, hl with | [_], _ => rfl) (He.glo_ok X G (c.fact 48 (f := .glo "_law_wrong") rfl))
  exact ⟨N, T, NK, Er, d1, d2, d3, d19, d20, d21, d22, d23, d24, d25, d26, d27, d28, d29, d30, d31, d32, d33, d34, d35, d37, d38, d39, d40, d41, d42, d44, d45, d46, d47, d48, d49, d50, d51, d52, d53⟩
/-- each def's rule, one after the other; then the law's -/
theorem law_ok {f c TA : Addr} {fd : FuncData} (A : All K mg) (F : Fun K "law" "law" (top 54) f fd) (hfc : fd.code = .ref c) (TB : TabB base mg c TA) : FnOk P w K mg base (L2.CX P w) 13 f fd ["_law_script"] (spLaw K TA) := by
  have N := A.N
  have T := A.T
  have Er := A.Er
  have g1 : Dfn P w K mg base 1 "is_integer" ["value"] (spR K rInteger) := f_integer N A.d1
  have g2 : DIsIn P w K mg base := f_isin N A.d2 g1
  have g3 : DIsList P w K mg base := f_islist N A.d3
  have g19 : DIsPlace P w K mg base := f_isplace T A.d19 g2
  have g20 : DArePlaces P w K mg base := f_areplaces N T A.d20 g3 g19
  have g21 : DIsPath P w K mg base := f_ispath A.d21 g3 g19
  have g22 : DRises P w K mg base := f_rises N A.d22
  have g23 : DArePaths P w K mg base := f_arepaths N A.d23 g21 g22
  have g24 : DIsEntry P w K mg base := f_isentry N T A.d24 g3 g2
  have g25 : DAreWaits P w K mg base := f_arewaits N A.d25 g24 g22
  have g26 : DIsDesign P w K mg base := f_isdesign N A.d26 g3 g19 g20 g23 g25
  have g27 : DNeedDesign P w K mg base := f_needdesign A.d27 g26
  have g28 : DNeedEntry P w K mg base := f_needentry A.d28 g24
  have g29 : DPlaceIn P w K mg base := f_placein N T A.NK A.d29
  have g30 : DEffect P w K mg base := f_effect T A.d30 g29
  have g31 : DUsed P w K mg base := f_used A.d31 g29
  have g32 : DApart P w K mg base := f_apart N T A.d32
  have g33 : DEvery P w K mg base := f_every N T A.d33 g32
  have g34 : DNeedPath P w K mg base (He.ga K "BadPath") := f_needpath Er.p A.d34 g21
  have g35 : DWithPaths P w K mg base := f_withpaths A.d35 g27 g23
  have g37 : DValueOpen P w K mg base := f_valueopen A.d37 g29 g31
  have g38 : DOpenIn P w K mg base := f_openin A.d38 g37 g29 g30
  have g39 : DOpens P w K mg base := f_opens A.d39 g33 g38
  have g40 : DIsOpen P w K mg base := f_isopen A.d40 g27 g28 g38
  have g41 : DSpared P w K mg base (He.ga K "BadPath") := f_spared N A.d41 g27 g34 g38 g39
  have g42 : DPathsFor P w K mg base (He.ga K "BadEntries") (He.ga K "NotMade") := f_pathsfor N T Er.e Er.n A.d42 g27 g24 g22 g38 g31 g29
  have g44 : DTaken P w K mg base := f_taken N A.d44
  have g45 : DPick P w K mg base := f_pick N A.d45 g44
  have g46 : DAlike P w K mg base 2 := f_alike N A.d46 2
  have g47 : DUp P w K mg base := f_up N A.d47 g44
  have g48 : DDesign P w K mg base := f_design N A.d48 g44 g47
  have g49 : DPlaces P w K mg base := f_places N A.d49
  have g50 : DEntries P w K mg base := f_entries N A.d50
  have g51 : DLOpen P w K mg base := f_lopen N A.d51
  have g52 : DLOpens P w K mg base := f_lopens A.d52 g49 g50 g51
  exact ok_law F hfc TB N Er A.d53 g44 g45 g48 g49 g50 g52 g46 g41 g42 g35 g40
theorem law_at (X : K.In h) (G : h.Ns mainGlobals mg) {fa' : Addr} (hfa : mg ("law" : Str) = some (.ref fa')) (c : He.SaysX fa fn [] [("law", none)] exB w h K) : LawAtS PySem.Challenge.rw_stagebelt_k16_whole_paths w K (L2.CX PySem.Challenge.pw_stagebelt_k16_whole_paths w) 13 63 "_law_script" mg fa' h := by
  have d := c.t.d
  have A : All K mg := all_of d c.more X G
  obtain ⟨fd, FD⟩ := d.def_ 36 (d := dd "law" 54) rfl
  have g := He.glo_ok X G (d.fact 49 (f := .glo "law") rfl)
  have e : fa' = He.ga K "law" := by
    rw [hfa] at g
    cases g; rfl
  subst e
  have F := fun_of (x := "law") (st := top 54) FD
  obtain ⟨oc, od, kV, doc, pm, an, cdv, ct, osl, e1, lk, hcd⟩ := F.ex
  obtain ⟨c0, e2⟩ := He.codeIn_ref hcd
  have ec : fd.code = .ref c0 := by rw [e1]; exact e2
  have ek : He.codeOf K ("law", none) = c0 := He.codeOf_eq (p := ("law", none)) lk ec
  have hm : (("law", none) : He.Defn) ∈ [(("law", none) : He.Defn)] := List.mem_cons_self ..
  refine ⟨fd, [He.cT K ("law", none)], spLaw K (He.cT K ("law", none)).2, ?_, ?_, ?_, ?_, ?_, ?_⟩
  · intro p hp
    rw [List.mem_singleton] at hp
    subst hp
    exact c.empty _ hm
  · intro p hp
    rw [List.mem_singleton] at hp
    subst hp
    exact c.out _ hm
  · intro p hp
    rw [List.mem_singleton] at hp
    subst hp
    exact PySem.W.codeHd_of_K X (c.hd _ hm)
  · exact fun s u => FD.bindsA (ps := ["_law_script"]) (fun _ _ _ _ _ _ us hl => match us, hl with | [_], _ => rfl) s [u] rfl
  · intro H a ns hl _ hT hS
    exact ⟨a, ns, rfl, hS, Nat.le_trans hl (by decide), hT _ (List.mem_cons_self ..), fun _ => rfl⟩
  · intro base _ _ hTB
    have TB := hTB _ (List.mem_cons_self ..)
    have e3 : (He.cT K ("law", none)).1 = c0 := ek
    rw [e3] at TB
    exact law_ok A F ec TB
end
end Kp
end
section
set_option Elab.async false
set_option linter.all false
set_option maxRecDepth 100000
set_option maxHeartbeats 0
namespace KpHead
open PySem PySem.Spec PyProof.Rows L2
abbrev R : PySem.W.OpenRow := PySem.W.OpenLaw.row PySem.Challenge.rw_stagebelt_k16_whole_paths
abbrev hk : PySem.W.Hook := He.hookX 4 Kp.fa Kp.fn [] [("law", none)] Kp.exB
def ob (s : PySem.W.SharedT) : He.AlX := He.obsX 4 Kp.fa Kp.fn [] [("law", none)] Kp.exB (HandSHeadRun.getT s)
theorem ob_eq (s : PySem.W.SharedT) : ob s = hk.obs s.abs := He.obsX_eq (HandSHeadRun.getT_eq s)
theorem run (w : World) : HandSHeadRun.RunEq R (PySem.W.view R.prog [54]) hk ob 6000 Kp.loose w := by
  intro os
  kernel_rfl
end KpHead
end
set_option Elab.async false
set_option linter.all false
set_option maxRecDepth 100000
set_option maxHeartbeats 0
open PySem PySem.W PySem.Calls PyProof.Rows
theorem PySem.Challenge.cw_stagebelt_k16_whole_paths_holds : PySem.Challenge.rw_stagebelt_k16_whole_paths.Holds := by
  w_on; o_law
  refine HandSHeadRun.head_any (r := OpenLaw.row PySem.Challenge.rw_stagebelt_k16_whole_paths) (q := view (OpenLaw.row PySem.Challenge.rw_stagebelt_k16_whole_paths).prog [54]) (H := KpHead.hk) (ob := KpHead.ob) (M := 6000) (loose := Kp.loose) (d := HandSHeadRun.topDef (OpenLaw.row PySem.Challenge.rw_stagebelt_k16_whole_paths).prog 54) (kwd := []) KpHead.ob_eq
    (by kernel_rfl) (fun s => by kernel_rfl) KpHead.run (by kernel_rfl) (by kernel_rfl) (by kernel_rfl) (by rfl) (by first | assumption | decide +kernel) (by decide +kernel) ⟨rfl, rfl, rfl, rfl, rfl, by decide +kernel⟩ ?hw ?hc
  case hw => w_witness2
  case hc =>
    refine LamX.walk_ofTsE (l := PySem.Challenge.rw_stagebelt_k16_whole_paths) (n := 63) (k := 13) (x := "_law_script") (CX := fun w => L2.CX PySem.Challenge.pw_stagebelt_k16_whole_paths w) rfl (by decide) (by kernel_rfl) ⟨rfl, by decide, by decide⟩ ?F (fun _ _ _ _ _ h => by
      obtain ⟨_, _, _, _, _, _, _, _, _, _, _, _, z⟩ := h
      exact z.elim)
    intro w mg fa h Y G hmg0
    obtain ⟨K, KX, c⟩ := Y
    have hmg : mg ("law" : PySem.Str) = some (.ref fa) := by
      have e : (HandSHeadRun.topDef (OpenLaw.row PySem.Challenge.rw_stagebelt_k16_whole_paths).prog 54).name = ("law" : PySem.Str) := by kernel_rfl
      rw [← e]
      exact hmg0
    exact ⟨K, KX, Kp.law_at KX G hmg c⟩
