import PyProof.Rows.All
import Wide.All
import OpenK.AllK
import Wide.FinOn
import KE.KStateDown
import HandS.ForMost
import HandS.Defaults
import HandS.More
import HandS.Conv
import HandS.Flow
import HandS.IsInst
import HandS.Lambda
import KE.DataEq
import KE.DataCmp
import KE.SortData
import HandS.TupAny
import HandS.Style
import HandS.RaiseMore
import KE.GoesEnum
import KE.SortKeyHeap
import HandS.SortKw
import HandS.EndTab
import HandS.HeadHook4
import HandS.HeadWalk
import PyProof.StrLawsRepr
import PyProof.ReprLen
import PyProof.Rows.ReprShort
import HandS.Head0
import HandS.Head1
import HandS.Head2
import HandS.HeadEnd
import HandS.HeadHook1
import HandS.HeadHook2
import PySem.Challenge.RW_ringdown_k11_calls_of_rings
-- part Fw1
set_option Elab.async false
set_option linter.all false
set_option maxRecDepth 100000
set_option maxHeartbeats 4000000
set_option autoImplicit false
/-! Framework 1: plain values, frozen and owned parts of the abstract heap, the state relation. -/
namespace G
open PySem PySem.Spec PyProof.Rows L2

/-- the tables of code objects that are tracked -/
class TabC where
  T : List (Addr × Str)
variable [TabC]
/-- a value as plain data; cell n: the n-th shared changeable dict -/
inductive D where
  | non | bl (b : Bool) | int (i : Int) | str (x : Str) | tup (xs : List D) | lst (xs : List D) | dct (kvs : List (Key × D)) | cell (n : Nat)

/-- what is frozen, where the cells stand -/
structure Wd where
  fz : Addr → Option HO
  cs : List Addr
structure Wle (W W' : Wd) : Prop where
  fz : ∀ a o, W.fz a = some o → W'.fz a = some o
  cs : ∀ (n : Nat) (a : Addr), W.cs[n]? = some a → W'.cs[n]? = some a
theorem Wle.refl {W : Wd} : Wle W W := ⟨fun _ _ h => h, fun _ _ h => h⟩
theorem Wle.trans {A B C : Wd} (h : Wle A B) (k : Wle B C) : Wle A C := ⟨fun a o e => k.fz a o (h.fz a o e), fun n a e => k.cs n a (h.cs n a e)⟩

/-- a list as it may be read off a frozen object -/
def IsL (o : HO) (vs : List V) : Prop := o = .lst vs ∨ ∃ ob, o = .frz ob (.lst vs)

mutual
/-- a frozen value -/
inductive Rp (W : Wd) : V → D → Prop
  | non : Rp W .non .non
  | bl (b : Bool) : Rp W (.bl b) (.bl b)
  | int (i : Int) : Rp W (.int i) (.int i)
  | str (x : Str) : Rp W (.str x) (.str x)
  | tup {a : Addr} {vs : List V} {ds : List D} : W.fz a = some (.tup vs) → RpAll W vs ds → Rp W (.ref a) (.tup ds)
  | lst {a : Addr} {o : HO} {vs : List V} {ds : List D} : W.fz a = some o → IsL o vs → RpAll W vs ds → Rp W (.ref a) (.lst ds)
  | dct {a : Addr} {kvs' : List (Key × V)} {kvs : List (Key × D)} : W.fz a = some (.dK kvs') → kvs'.map (·.1) = kvs.map (·.1) → RpAll W (kvs'.map (·.2)) (kvs.map (·.2)) → Rp W (.ref a) (.dct kvs)
  | cell {a : Addr} {n : Nat} : W.cs[n]? = some a → Rp W (.ref a) (.cell n)
inductive RpAll (W : Wd) : List V → List D → Prop
  | nil : RpAll W [] []
  | cons {v : V} {vs : List V} {d : D} {ds : List D} : Rp W v d → RpAll W vs ds → RpAll W (v :: vs) (d :: ds)
end

theorem RpAll.length {W : Wd} : ∀ {vs : List V} {ds : List D}, RpAll W vs ds → vs.length = ds.length
  | _, _, .nil => rfl
  | _, _, .cons _ t => congrArg Nat.succ t.length
theorem RpAll.get {W : Wd} : ∀ {vs : List V} {ds : List D}, RpAll W vs ds → ∀ {i : Nat} {d : D}, ds[i]? = some d → ∃ v, vs[i]? = some v ∧ Rp W v d
  | _, _, .nil, _, _, h => by simp at h
  | _, _, .cons r t, 0, _, h => by
    simp at h; subst h; exact ⟨_, rfl, r⟩
  | _, _, .cons _ t, i + 1, d, h => by
    obtain ⟨v, e, q⟩ := t.get (i := i) (d := d) (by simpa using h)
    exact ⟨v, by simpa using e, q⟩
theorem RpAll.getV {W : Wd} {vs : List V} {ds : List D} (h : RpAll W vs ds) {i : Nat} {v : V} (e : vs[i]? = some v) : ∃ d, ds[i]? = some d ∧ Rp W v d := by
  have hi : i < vs.length := (List.getElem?_eq_some_iff.mp e).1
  have hd : i < ds.length := by rw [← h.length]; exact hi
  obtain ⟨u, e2, q⟩ := h.get (List.getElem?_eq_getElem hd)
  rw [e] at e2; cases e2
  exact ⟨_, List.getElem?_eq_getElem hd, q⟩
theorem RpAll.append {W : Wd} : ∀ {vs us : List V} {ds es : List D}, RpAll W vs ds → RpAll W us es → RpAll W (vs ++ us) (ds ++ es)
  | _, _, _, _, .nil, k => k
  | _, _, _, _, .cons r t, k => .cons r (t.append k)
theorem RpAll.take {W : Wd} : ∀ {vs : List V} {ds : List D} (n : Nat), RpAll W vs ds → RpAll W (vs.take n) (ds.take n)
  | _, _, 0, _ => .nil
  | _, _, _ + 1, .nil => .nil
  | _, _, n + 1, .cons r t => .cons r (t.take n)
theorem RpAll.drop {W : Wd} : ∀ {vs : List V} {ds : List D} (n : Nat), RpAll W vs ds → RpAll W (vs.drop n) (ds.drop n)
  | _, _, 0, h => h
  | _, _, _ + 1, .nil => .nil
  | _, _, n + 1, .cons r t => t.drop n
theorem RpAll.reverse {W : Wd} : ∀ {vs : List V} {ds : List D}, RpAll W vs ds → RpAll W vs.reverse ds.reverse
  | _, _, .nil => .nil
  | _, _, .cons r t => by
    rw [List.reverse_cons, List.reverse_cons]
    exact t.reverse.append (.cons r .nil)

mutual
theorem Rp.mono {W W' : Wd} (k : Wle W W') : ∀ {v : V} {d : D}, Rp W v d → Rp W' v d
  | _, _, .non => .non
  | _, _, .bl b => .bl b
  | _, _, .int i => .int i
  | _, _, .str x => .str x
  | _, _, .tup e h => .tup (k.fz _ _ e) (RpAll.mono k h)
  | _, _, .lst e i h => .lst (k.fz _ _ e) i (RpAll.mono k h)
  | _, _, .dct e i h => .dct (k.fz _ _ e) i (RpAll.mono k h)
  | _, _, .cell e => .cell (k.cs _ _ e)
theorem RpAll.mono {W W' : Wd} (k : Wle W W') : ∀ {vs : List V} {ds : List D}, RpAll W vs ds → RpAll W' vs ds
  | _, _, .nil => .nil
  | _, _, .cons r t => .cons (Rp.mono k r) (RpAll.mono k t)
end

/-- a row of values with their footprints -/
inductive Row (P : V → D → List Addr → Prop) : List V → List D → List Addr → Prop
  | nil : Row P [] [] []
  | cons {v : V} {vs : List V} {d : D} {ds : List D} {f fs : List Addr} : P v d f → Row P vs ds fs → Row P (v :: vs) (d :: ds) (f ++ fs)
theorem Row.length {P : V → D → List Addr → Prop} : ∀ {vs : List V} {ds : List D} {fs : List Addr}, Row P vs ds fs → vs.length = ds.length
  | _, _, _, .nil => rfl
  | _, _, _, .cons _ t => congrArg Nat.succ t.length
theorem Row.imp {P P' : V → D → List Addr → Prop} : ∀ {vs : List V} {ds : List D} {fs : List Addr}, Row P vs ds fs → (∀ v d f, (∀ a ∈ f, a ∈ fs) → P v d f → P' v d f) → Row P' vs ds fs
  | _, _, _, .nil, _ => .nil
  | _, _, _, .cons r t, k => .cons (k _ _ _ (fun _ h => List.mem_append_left _ h) r) (t.imp fun v d f h => k v d f fun a ha => List.mem_append_right _ (h a ha))

/-- owned to the level l, with its footprint; level 0: frozen -/
def Own (W : Wd) (H : Hp) : Nat → V → D → List Addr → Prop
  | 0 => fun v d fp => Rp W v d ∧ fp = []
  | l + 1 => fun v d fp => match d with
    | .lst ds => ∃ a vs fs, v = .ref a ∧ H a = some (.lst vs) ∧ Row (Own W H l) vs ds fs ∧ fp = a :: fs
    | .dct kvs => ∃ a kvs' fs, v = .ref a ∧ H a = some (.dK kvs') ∧ kvs'.map (·.1) = kvs.map (·.1) ∧ Row (Own W H l) (kvs'.map (·.2)) (kvs.map (·.2)) fs ∧ fp = a :: fs
    | _ => Rp W v d ∧ fp = []
theorem Own.zero {W : Wd} {H : Hp} {v : V} {d : D} (h : Rp W v d) : Own W H 0 v d [] := ⟨h, rfl⟩

theorem Own.mono {W W' : Wd} {H H' : Hp} (k : Wle W W') : ∀ (l : Nat) {v : V} {d : D} {fp : List Addr}, (∀ a ∈ fp, H' a = H a) → Own W H l v d fp → Own W' H' l v d fp
  | 0, _, _, _, _, h => ⟨h.1.mono k, h.2⟩
  | l + 1, v, d, fp, hf, h => by
    cases d with
    | lst ds =>
      obtain ⟨a, vs, fs, e, q, r, ef⟩ := h
      subst ef
      exact ⟨a, vs, fs, e, by rw [hf a (by simp)]; exact q, r.imp fun v d f hs o => Own.mono k l (fun b hb => hf b (List.mem_cons_of_mem _ (hs b hb))) o, rfl⟩
    | dct kvs =>
      obtain ⟨a, vs, fs, e, q, q2, r, ef⟩ := h
      subst ef
      exact ⟨a, vs, fs, e, by rw [hf a (by simp)]; exact q, q2, r.imp fun v d f hs o => Own.mono k l (fun b hb => hf b (List.mem_cons_of_mem _ (hs b hb))) o, rfl⟩
    | non => exact ⟨h.1.mono k, h.2⟩
    | bl _ => exact ⟨h.1.mono k, h.2⟩
    | int _ => exact ⟨h.1.mono k, h.2⟩
    | str _ => exact ⟨h.1.mono k, h.2⟩
    | tup _ => exact ⟨h.1.mono k, h.2⟩
    | cell _ => exact ⟨h.1.mono k, h.2⟩

/-- what is in a footprint stands -/
theorem Own.there {W : Wd} {H : Hp} : ∀ (l : Nat) {v : V} {d : D} {fp : List Addr}, Own W H l v d fp → ∀ a ∈ fp, H a ≠ none
  | 0, _, _, _, h, a, ha => by rw [h.2] at ha; cases ha
  | l + 1, v, d, fp, h, b, hb => by
    have rows : ∀ {vs : List V} {ds : List D} {fs : List Addr}, Row (Own W H l) vs ds fs → ∀ a ∈ fs, H a ≠ none := by
      intro vs ds fs r
      induction r with
      | nil => intro a ha; cases ha
      | cons p _ ih =>
        intro a ha
        rcases List.mem_append.mp ha with z | z
        · exact Own.there l p a z
        · exact ih a z
    cases d with
    | lst ds =>
      obtain ⟨a, vs, fs, e, q, r, ef⟩ := h
      subst ef
      rcases List.mem_cons.mp hb with z | z
      · subst z; rw [q]; exact nofun
      · exact rows r b z
    | dct kvs =>
      obtain ⟨a, vs, fs, e, q, q2, r, ef⟩ := h
      subst ef
      rcases List.mem_cons.mp hb with z | z
      · subst z; rw [q]; exact nofun
      · exact rows r b z
    | non => rw [h.2] at hb; cases hb
    | bl _ => rw [h.2] at hb; cases hb
    | int _ => rw [h.2] at hb; cases hb
    | str _ => rw [h.2] at hb; cases hb
    | tup _ => rw [h.2] at hb; cases hb
    | cell _ => rw [h.2] at hb; cases hb

/-- frozen where it stands -/
def Wd.freeze (W : Wd) (H : Hp) (fp : List Addr) : Wd := { W with fz := fun a => if a ∈ fp then H a else W.fz a }
theorem Wd.freeze_le {W : Wd} {H : Hp} {fp : List Addr} (ok : ∀ a o, W.fz a = some o → H a = some o) : Wle W (W.freeze H fp) := by
  refine ⟨fun a o e => ?_, fun n a e => e⟩
  show (if a ∈ fp then H a else W.fz a) = some o
  split
  · exact ok a o e
  · exact e
theorem Row.frozen {W : Wd} {P : V → D → List Addr → Prop} : ∀ {vs : List V} {ds : List D} {fs : List Addr}, Row P vs ds fs → (∀ v d f, (∀ a ∈ f, a ∈ fs) → P v d f → Rp W v d) → RpAll W vs ds
  | _, _, _, .nil, _ => .nil
  | _, _, _, .cons r t, k => .cons (k _ _ _ (fun _ h => List.mem_append_left _ h) r) (t.frozen fun v d f h => k v d f fun a ha => List.mem_append_right _ (h a ha))
theorem Own.frozen {W W' : Wd} {H : Hp} (k : Wle W W') : ∀ (l : Nat) {v : V} {d : D} {fp : List Addr}, Own W H l v d fp → (∀ a ∈ fp, W'.fz a = H a) → Rp W' v d
  | 0, _, _, _, h, _ => h.1.mono k
  | l + 1, v, d, fp, h, hf => by
    cases d with
    | lst ds =>
      obtain ⟨a, vs, fs, e, q, r, ef⟩ := h
      subst ef; subst e
      exact .lst (by rw [hf a (by simp)]; exact q) (.inl rfl) (r.frozen fun v d f hs o => Own.frozen k l o fun b hb => hf b (List.mem_cons_of_mem _ (hs b hb)))
    | dct kvs =>
      obtain ⟨a, vs, fs, e, q, q2, r, ef⟩ := h
      subst ef; subst e
      exact .dct (by rw [hf a (by simp)]; exact q) q2 (r.frozen fun v d f hs o => Own.frozen k l o fun b hb => hf b (List.mem_cons_of_mem _ (hs b hb)))
    | non => exact h.1.mono k
    | bl _ => exact h.1.mono k
    | int _ => exact h.1.mono k
    | str _ => exact h.1.mono k
    | tup _ => exact h.1.mono k
    | cell _ => exact h.1.mono k

/-! ### the state -/
structure S where
  env : List (Option (Nat × D))
  st : List (Nat × D)

inductive Slots (W : Wd) (H : Hp) : List (Option (Nat × D)) → L2.St → List Addr → Prop
  | nil : Slots W H [] [] []
  | no {es : List (Option (Nat × D))} {o : Option V} {σ : L2.St} {fs : List Addr} : Slots W H es σ fs → Slots W H (none :: es) (o :: σ) fs
  | yes {l : Nat} {d : D} {v : V} {es : List (Option (Nat × D))} {σ : L2.St} {f fs : List Addr} : Own W H l v d f → Slots W H es σ fs → Slots W H (some (l, d) :: es) (some v :: σ) (f ++ fs)
inductive Cells (W : Wd) (H : Hp) : List (Nat × D) → List Addr → List Addr → Prop
  | nil : Cells W H [] [] []
  | cons {l : Nat} {d : D} {a : Addr} {es : List (Nat × D)} {as f fs : List Addr} : Own W H l (.ref a) d f → Cells W H es as fs → Cells W H ((l, d) :: es) (a :: as) (f ++ fs)
inductive Tmps (W : Wd) (H : Hp) : List (Nat × V × D) → List Addr → Prop
  | nil : Tmps W H [] []
  | cons {l : Nat} {d : D} {v : V} {ts : List (Nat × V × D)} {f fs : List Addr} : Own W H l v d f → Tmps W H ts fs → Tmps W H ((l, v, d) :: ts) (f ++ fs)

/-- the whole relation: Fr are addresses that stand aside (the callers' owned ones) -/
structure Fit (W : Wd) (Fr : Addr → Prop) (fp : List Addr) (H : Hp) : Prop where
  fz : ∀ a o, W.fz a = some o → H a = some o
  nd : fp.Nodup
  sep : ∀ a ∈ fp, W.fz a = none ∧ ¬ Fr a
  fr : ∀ a, Fr a → H a ≠ none ∧ W.fz a = none
  tb : LamX.Tabs TabC.T H
  nt : ∀ a, (W.fz a ≠ none ∨ Fr a ∨ a ∈ fp) → ∀ ps, H a ≠ some (.tbl ps)
def Rel (W : Wd) (Fr : Addr → Prop) (ts : List (Nat × V × D)) (s : S) (σ : L2.St) (H : Hp) : Prop :=
  ∃ f1 f2 f3, Slots W H s.env σ f1 ∧ Cells W H s.st W.cs f2 ∧ Tmps W H ts f3 ∧ Fit W Fr (f1 ++ f2 ++ f3) H
def Agree (Fr : Addr → Prop) (H H' : Hp) : Prop := ∀ a, Fr a → H' a = H a
theorem Agree.refl {Fr : Addr → Prop} {H : Hp} : Agree Fr H H := fun _ _ => rfl
theorem Agree.trans {Fr : Addr → Prop} {A B C : Hp} (h : Agree Fr A B) (k : Agree Fr B C) : Agree Fr A C := fun a x => (k a x).trans (h a x)

theorem Slots.length {W : Wd} {H : Hp} : ∀ {es : List (Option (Nat × D))} {σ : L2.St} {f : List Addr}, Slots W H es σ f → es.length = σ.length
  | _, _, _, .nil => rfl
  | _, _, _, .no t => congrArg Nat.succ t.length
  | _, _, _, .yes _ t => congrArg Nat.succ t.length
theorem Slots.mono {W W' : Wd} {H H' : Hp} (k : Wle W W') : ∀ {es : List (Option (Nat × D))} {σ : L2.St} {f : List Addr}, Slots W H es σ f → (∀ a ∈ f, H' a = H a) → Slots W' H' es σ f
  | _, _, _, .nil, _ => .nil
  | _, _, _, .no t, h => .no (t.mono k h)
  | _, _, _, .yes o t, h => .yes (o.mono k _ fun a ha => h a (List.mem_append_left _ ha)) (t.mono k fun a ha => h a (List.mem_append_right _ ha))
theorem Cells.mono {W W' : Wd} {H H' : Hp} (k : Wle W W') : ∀ {es : List (Nat × D)} {as f : List Addr}, Cells W H es as f → (∀ a ∈ f, H' a = H a) → Cells W' H' es as f
  | _, _, _, .nil, _ => .nil
  | _, _, _, .cons o t, h => .cons (o.mono k _ fun a ha => h a (List.mem_append_left _ ha)) (t.mono k fun a ha => h a (List.mem_append_right _ ha))
theorem Tmps.mono {W W' : Wd} {H H' : Hp} (k : Wle W W') : ∀ {es : List (Nat × V × D)} {f : List Addr}, Tmps W H es f → (∀ a ∈ f, H' a = H a) → Tmps W' H' es f
  | _, _, .nil, _ => .nil
  | _, _, .cons o t, h => .cons (o.mono k _ fun a ha => h a (List.mem_append_left _ ha)) (t.mono k fun a ha => h a (List.mem_append_right _ ha))
theorem Slots.there {W : Wd} {H : Hp} : ∀ {es : List (Option (Nat × D))} {σ : L2.St} {f : List Addr}, Slots W H es σ f → ∀ a ∈ f, H a ≠ none
  | _, _, _, .nil, a, h => by cases h
  | _, _, _, .no t, a, h => t.there a h
  | _, _, _, .yes o t, a, h => by
    rcases List.mem_append.mp h with z | z
    · exact Own.there _ o a z
    · exact t.there a z
theorem Cells.there {W : Wd} {H : Hp} : ∀ {es : List (Nat × D)} {as f : List Addr}, Cells W H es as f → ∀ a ∈ f, H a ≠ none
  | _, _, _, .nil, a, h => by cases h
  | _, _, _, .cons o t, a, h => by
    rcases List.mem_append.mp h with z | z
    · exact Own.there _ o a z
    · exact t.there a z
theorem Tmps.there {W : Wd} {H : Hp} : ∀ {es : List (Nat × V × D)} {f : List Addr}, Tmps W H es f → ∀ a ∈ f, H a ≠ none
  | _, _, .nil, a, h => by cases h
  | _, _, .cons o t, a, h => by
    rcases List.mem_append.mp h with z | z
    · exact Own.there _ o a z
    · exact t.there a z
end G
-- part Fw2
set_option Elab.async false
set_option linter.all false
set_option maxRecDepth 100000
set_option maxHeartbeats 4000000
set_option autoImplicit false
/-! Framework 2: moving about in the state relation. -/
namespace G
open PySem PySem.Spec PyProof.Rows L2
variable [TabC]

theorem Fit.perm {W : Wd} {Fr : Addr → Prop} {f g : List Addr} {H : Hp} (h : Fit W Fr f H) (p : f.Perm g) : Fit W Fr g H :=
  ⟨h.fz, p.nodup_iff.mp h.nd, fun a ha => h.sep a (p.mem_iff.mpr ha), h.fr, h.tb, fun a ha => h.nt a (ha.imp id (Or.imp id p.mem_iff.mpr))⟩
theorem Fit.sub {W : Wd} {Fr : Addr → Prop} {f g : List Addr} {H : Hp} (h : Fit W Fr f H) (p : g.Sublist f) : Fit W Fr g H :=
  ⟨h.fz, h.nd.sublist p, fun a ha => h.sep a (p.subset ha), h.fr, h.tb, fun a ha => h.nt a (ha.imp id (Or.imp id fun z => p.subset z))⟩
/-- a new object -/
theorem Fit.grow {W : Wd} {Fr : Addr → Prop} {f : List Addr} {H : Hp} {p : Addr} {o : HO} (h : Fit W Fr f H) (hp : H p = none) (ho : ∀ ps, o ≠ .tbl ps) : Fit W Fr f (upd H p o) := by
  refine ⟨fun a o' e => ?_, h.nd, h.sep, fun a ha => ?_, h.tb.ext fun b u e => by rw [upd_ne (ne_of_none e hp)]; exact e, fun a ha ps z => ?_⟩
  · rw [upd_ne (ne_of_none (h.fz a o' e) hp)]; exact h.fz a o' e
  · have q := h.fr a ha
    refine ⟨?_, q.2⟩
    rw [upd_ne (fun z => q.1 (by rw [z]; exact hp))]
    exact q.1
  · by_cases e : a = p
    · rw [e, upd_same] at z; exact ho ps (Option.some.inj z)
    · rw [upd_ne e] at z; exact h.nt a ha ps z
theorem Fit.new {W : Wd} {Fr : Addr → Prop} {f : List Addr} {H : Hp} {p : Addr} {o : HO} (h : Fit W Fr f H) (hf : ∀ a ∈ f, H a ≠ none) (hp : H p = none) (ho : ∀ ps, o ≠ .tbl ps) : Fit W Fr (p :: f) (upd H p o) := by
  have g := h.grow (o := o) hp ho
  refine ⟨g.fz, List.nodup_cons.mpr ⟨fun z => hf p z hp, h.nd⟩, fun a ha => ?_, g.fr, g.tb, fun a ha ps z => ?_⟩
  · rcases List.mem_cons.mp ha with z | z
    · subst z
      refine ⟨?_, fun q => (h.fr a q).1 hp⟩
      cases e : W.fz a with
      | none => rfl
      | some o' => rw [h.fz a o' e] at hp; cases hp
    · exact h.sep a z
  · by_cases e : a = p
    · rw [e, upd_same] at z; exact ho ps (Option.some.inj z)
    · exact g.nt a (ha.imp id (Or.imp id fun q => (List.mem_cons.mp q).resolve_left e)) ps z
def Wd.add (W : Wd) (p : Addr) (o : HO) : Wd := { W with fz := fun a => if a = p then some o else W.fz a }
theorem Wd.add_le {W : Wd} {p : Addr} {o : HO} (h : W.fz p = none) : Wle W (W.add p o) := by
  refine ⟨fun a o' e => ?_, fun n a e => e⟩
  show (if a = p then some o else W.fz a) = some o'
  split
  · rename_i z; rw [z, h] at e; cases e
  · exact e
theorem Wd.add_at {W : Wd} {p : Addr} {o : HO} : (W.add p o).fz p = some o := if_pos rfl
theorem Fit.add {W : Wd} {Fr : Addr → Prop} {f : List Addr} {H : Hp} {p : Addr} {o : HO} (h : Fit W Fr f H) (hf : ∀ a ∈ f, H a ≠ none) (hp : H p = none) (ho : ∀ ps, o ≠ .tbl ps) : Fit (W.add p o) Fr f (upd H p o) := by
  refine ⟨fun a o' e => ?_, h.nd, fun a ha => ⟨?_, (h.sep a ha).2⟩, fun a ha => ?_, h.tb.ext fun b u e => by rw [upd_ne (ne_of_none e hp)]; exact e, fun a ha ps z => ?_⟩
  · have e2 : (if a = p then some o else W.fz a) = some o' := e
    by_cases z : a = p
    · rw [if_pos z] at e2; rw [z, upd_same]; exact e2
    · rw [if_neg z] at e2; rw [upd_ne z]; exact h.fz a o' e2
  · show (if a = p then some o else W.fz a) = none
    rw [if_neg (fun z => hf a ha (by rw [z]; exact hp))]
    exact (h.sep a ha).1
  · have q := h.fr a ha
    have ne : a ≠ p := fun z => q.1 (by rw [z]; exact hp)
    exact ⟨by rw [upd_ne ne]; exact q.1, by show (if a = p then some o else W.fz a) = none; rw [if_neg ne]; exact q.2⟩
  · by_cases e : a = p
    · rw [e, upd_same] at z; exact ho ps (Option.some.inj z)
    · rw [upd_ne e] at z
      refine h.nt a (ha.imp (fun w => ?_) id) ps z
      have w : (if a = p then some o else W.fz a) ≠ none := w
      rw [if_neg e] at w
      exact w
theorem Fit.noneAt {W : Wd} {Fr : Addr → Prop} {f : List Addr} {H : Hp} {p : Addr} (h : Fit W Fr f H) (hp : H p = none) : W.fz p = none := by
  cases e : W.fz p with
  | none => rfl
  | some o' => rw [h.fz p o' e] at hp; cases hp
/-- what may be changed: no table, no code object -/
def Plain : HO → Prop
  | .lst _ => True
  | .dK _ => True
  | _ => False
theorem tabs_write {T : List (Addr × Str)} {H : Hp} {a : Addr} {o o' : HO} (t : LamX.Tabs T H) (e : H a = some o) (hp : Plain o) : LamX.Tabs T (upd H a o') := by
  intro p hpT
  obtain ⟨ps, h1, h2, h3⟩ := t p hpT
  refine ⟨ps, ?_, h2, fun pos cv hc => ?_⟩
  · rw [upd_ne (ne_of h1 e (fun z => by rw [← z] at hp; exact hp))]; exact h1
  · obtain ⟨c, e1, e2⟩ := h3 pos cv hc
    refine ⟨c, e1, ?_⟩
    rw [upd_ne (ne_of e2 e (fun z => by rw [← z] at hp; exact hp))]; exact e2
/-- a change at an owned address -/
theorem Fit.write {W : Wd} {Fr : Addr → Prop} {f : List Addr} {H : Hp} {a : Addr} {o u : HO} (h : Fit W Fr f H) (ha : a ∈ f) (eu : H a = some u) (hp : Plain u) (ho : ∀ ps, o ≠ .tbl ps) : Fit W Fr f (upd H a o) := by
  obtain ⟨h1, h2⟩ := h.sep a ha
  refine ⟨fun b o' e => ?_, h.nd, h.sep, fun b hb => ?_, tabs_write h.tb eu hp, fun b hb ps z => ?_⟩
  · have ne : b ≠ a := fun z => by rw [z, h1] at e; cases e
    rw [upd_ne ne]; exact h.fz b o' e
  · have ne : b ≠ a := fun z => h2 (z ▸ hb)
    rw [upd_ne ne]; exact h.fr b hb
  · by_cases e : b = a
    · rw [e, upd_same] at z; exact ho ps (Option.some.inj z)
    · rw [upd_ne e] at z; exact h.nt b hb ps z
/-- frozen -/
theorem Fit.freeze {W : Wd} {Fr : Addr → Prop} {f g : List Addr} {H : Hp} (h : Fit W Fr (f ++ g) H) : Fit (W.freeze H f) Fr g H := by
  have hd := List.nodup_append.mp h.nd
  refine ⟨fun a o e => ?_, hd.2.1, fun a ha => ⟨?_, (h.sep a (List.mem_append_right _ ha)).2⟩, fun a ha => ⟨(h.fr a ha).1, ?_⟩, h.tb, fun a ha => h.nt a ?_⟩
  · have e2 : (if a ∈ f then H a else W.fz a) = some o := e
    split at e2
    · exact e2
    · exact h.fz a o e2
  · show (if a ∈ f then H a else W.fz a) = none
    rw [if_neg (fun z => hd.2.2 a z a ha rfl)]
    exact (h.sep a (List.mem_append_right _ ha)).1
  · show (if a ∈ f then H a else W.fz a) = none
    rw [if_neg (fun z => (h.sep a (List.mem_append_left _ z)).2 ha)]
    exact (h.fr a ha).2
  · rcases ha with w | w | w
    · have w : (if a ∈ f then H a else W.fz a) ≠ none := w
      by_cases z : a ∈ f
      · exact .inr (.inr (List.mem_append_left _ z))
      · rw [if_neg z] at w; exact .inl w
    · exact .inr (.inl w)
    · exact .inr (.inr (List.mem_append_right _ w))
theorem Wd.freeze_at {W : Wd} {H : Hp} {f : List Addr} {a : Addr} (h : a ∈ f) : (W.freeze H f).fz a = H a := if_pos h

/-! ### slots -/
theorem Slots.take {W : Wd} {H : Hp} : ∀ {es : List (Option (Nat × D))} {σ : L2.St} {fp : List Addr}, Slots W H es σ fp → ∀ {i : Nat} {l : Nat} {d : D}, es[i]? = some (some (l, d)) →
    ∃ v f g, σ[i]? = some (some v) ∧ Own W H l v d f ∧ Slots W H (es.set i none) σ g ∧ fp.Perm (f ++ g)
  | _, _, _, .nil, i, l, d, h => by simp at h
  | _, _, _, .no t, 0, l, d, h => by simp at h
  | _, _, _, .no t, i + 1, l, d, h => by
    obtain ⟨v, f, g, e, o, s, p⟩ := t.take (i := i) (l := l) (d := d) (by simpa using h)
    exact ⟨v, f, g, by simpa using e, o, .no s, p⟩
  | _, _, _, .yes (f := f) (fs := fs) o t, 0, l, d, h => by
    simp at h; obtain ⟨rfl, rfl⟩ := h
    exact ⟨_, f, fs, rfl, o, .no t, .refl _⟩
  | _, _, _, .yes (f := f0) (fs := fs) o0 t, i + 1, l, d, h => by
    obtain ⟨v, f, g, e, o, s, p⟩ := t.take (i := i) (l := l) (d := d) (by simpa using h)
    refine ⟨v, f, f0 ++ g, by simpa using e, o, .yes o0 s, ?_⟩
    calc (f0 ++ fs).Perm (f0 ++ (f ++ g)) := p.append_left _
      _ = (f0 ++ f ++ g) := (List.append_assoc ..).symm
      List.Perm _ (f ++ f0 ++ g) := (List.perm_append_comm).append_right _
      _ = f ++ (f0 ++ g) := List.append_assoc ..
/-- a slot is forgotten -/
theorem Slots.forget {W : Wd} {H : Hp} : ∀ {es : List (Option (Nat × D))} {σ : L2.St} {fp : List Addr}, Slots W H es σ fp → ∀ (i : Nat), ∃ g, Slots W H (es.set i none) σ g ∧ g.Sublist fp
  | _, _, _, .nil, i => ⟨[], .nil, List.Sublist.refl _⟩
  | _, _, _, .no t, 0 => ⟨_, .no t, List.Sublist.refl _⟩
  | _, _, _, .no t, i + 1 => let ⟨g, s, p⟩ := t.forget i; ⟨g, .no s, p⟩
  | _, _, _, .yes (f := f) (fs := fs) o t, 0 => ⟨fs, .no t, List.sublist_append_right _ _⟩
  | _, _, _, .yes (f := f) o t, i + 1 => let ⟨g, s, p⟩ := t.forget i; ⟨f ++ g, .yes o s, p.append_left _⟩
theorem Slots.put {W : Wd} {H : Hp} {l : Nat} {v : V} {d : D} {f : List Addr} (o : Own W H l v d f) : ∀ {es : List (Option (Nat × D))} {σ : L2.St} {g : List Addr}, Slots W H es σ g → ∀ {i : Nat}, es[i]? = some none →
    ∃ fp, Slots W H (es.set i (some (l, d))) (σ.set i (some v)) fp ∧ fp.Perm (f ++ g)
  | _, _, _, .nil, i, h => by simp at h
  | _, _, _, .no t, 0, h => ⟨_, .yes o t, .refl _⟩
  | _, _, _, .no t, i + 1, h => by
    obtain ⟨fp, s, p⟩ := t.put o (i := i) (by simpa using h)
    exact ⟨fp, .no s, p⟩
  | _, _, _, .yes _ t, 0, h => by simp at h
  | _, _, _, .yes (f := f0) (fs := fs) o0 t, i + 1, h => by
    obtain ⟨fp, s, p⟩ := t.put o (i := i) (by simpa using h)
    refine ⟨f0 ++ fp, .yes o0 s, ?_⟩
    calc (f0 ++ fp).Perm (f0 ++ (f ++ fs)) := p.append_left _
      _ = (f0 ++ f ++ fs) := (List.append_assoc ..).symm
      List.Perm _ (f ++ f0 ++ fs) := (List.perm_append_comm).append_right _
      _ = f ++ (f0 ++ fs) := List.append_assoc ..
theorem set_none_at {es : List (Option (Nat × D))} {i : Nat} (h : i < es.length) : (es.set i none)[i]? = some none := by simp [h]
theorem Slots.look {W : Wd} {H : Hp} {es : List (Option (Nat × D))} {σ : L2.St} {fp : List Addr} (h : Slots W H es σ fp) {i l : Nat} {d : D} (e : es[i]? = some (some (l, d))) : ∃ v f, σ[i]? = some (some v) ∧ Own W H l v d f := by
  obtain ⟨v, f, g, e, o, _⟩ := h.take e
  exact ⟨v, f, e, o⟩
/-- the state's other values are unknown: a slot that holds something else may be overwritten -/
theorem Slots.over {W : Wd} {H : Hp} : ∀ {es : List (Option (Nat × D))} {σ : L2.St} {g : List Addr}, Slots W H es σ g → ∀ {i : Nat} (o : Option V), es[i]? = some none → Slots W H es (σ.set i o) g
  | _, _, _, .nil, i, _, h => by simp at h
  | _, _, _, .no t, 0, _, h => .no t
  | _, _, _, .no t, i + 1, o, h => .no (t.over o (i := i) (by simpa using h))
  | _, _, _, .yes _ t, 0, _, h => by simp at h
  | _, _, _, .yes q t, i + 1, o, h => .yes q (t.over o (i := i) (by simpa using h))

/-! ### the relation -/
theorem Tmps.uncons {W : Wd} {H : Hp} {l : Nat} {v : V} {d : D} {ts : List (Nat × V × D)} {f : List Addr} (h : Tmps W H ((l, v, d) :: ts) f) : ∃ g f3, f = g ++ f3 ∧ Own W H l v d g ∧ Tmps W H ts f3 := by
  cases h with
  | cons o t => exact ⟨_, _, rfl, o, t⟩
theorem set_self {α : Type} : ∀ {l : List α} {i : Nat} {x : α}, l[i]? = some x → l.set i x = l
  | [], _, _, _ => rfl
  | a :: l, 0, x, h => by simp at h; simp [h]
  | a :: l, i + 1, x, h => by
    show a :: l.set i x = a :: l
    rw [set_self (l := l) (by simpa using h)]
section
variable {W : Wd} {Fr : Addr → Prop} {ts : List (Nat × V × D)} {s : S} {σ : L2.St} {H : Hp}
theorem Rel.fzok (h : Rel W Fr ts s σ H) : ∀ a o, W.fz a = some o → H a = some o := by
  obtain ⟨_, _, _, _, _, _, f⟩ := h
  exact f.fz
theorem Rel.frok (h : Rel W Fr ts s σ H) : ∀ a, Fr a → H a ≠ none := by
  obtain ⟨_, _, _, _, _, _, f⟩ := h
  exact fun a ha => (f.fr a ha).1
theorem Rel.noneAt (h : Rel W Fr ts s σ H) {p : Addr} (hp : H p = none) : W.fz p = none := by
  obtain ⟨_, _, _, _, _, _, f⟩ := h
  exact f.noneAt hp
theorem there3 {f1 f2 f3 : List Addr} (h1 : Slots W H s.env σ f1) (h2 : Cells W H s.st W.cs f2) (h3 : Tmps W H ts f3) : ∀ a ∈ f1 ++ f2 ++ f3, H a ≠ none := fun a ha => by
  rcases List.mem_append.mp ha with z | z
  · rcases List.mem_append.mp z with z | z
    · exact h1.there a z
    · exact h2.there a z
  · exact h3.there a z
theorem keep_of {f : List Addr} {p : Addr} {o : HO} (hf : ∀ a ∈ f, H a ≠ none) (hp : H p = none) : ∀ a ∈ f, upd H p o a = H a := fun a ha => upd_ne fun z => hf a ha (by rw [z]; exact hp)
theorem Rel.agreeNew (h : Rel W Fr ts s σ H) {p : Addr} {o : HO} (hp : H p = none) : Agree Fr H (upd H p o) := fun a ha => upd_ne fun z => h.frok a ha (by rw [z]; exact hp)
theorem Rel.grow (h : Rel W Fr ts s σ H) {p : Addr} {o : HO} (hp : H p = none) (ho : ∀ ps, o ≠ .tbl ps) : Rel W Fr ts s σ (upd H p o) := by
  obtain ⟨f1, f2, f3, h1, h2, h3, f⟩ := h
  exact ⟨f1, f2, f3, h1.mono .refl (keep_of h1.there hp), h2.mono .refl (keep_of h2.there hp), h3.mono .refl (keep_of h3.there hp), f.grow hp ho⟩
/-- a value of level 0 more, or less -/
theorem Rel.tmp0 (h : Rel W Fr ts s σ H) {v : V} {d : D} (r : Rp W v d) : Rel W Fr ((0, v, d) :: ts) s σ H := by
  obtain ⟨f1, f2, f3, h1, h2, h3, f⟩ := h
  exact ⟨f1, f2, [] ++ f3, h1, h2, .cons (.zero r) h3, f⟩
theorem Rel.untmp {l : Nat} {v : V} {d : D} (h : Rel W Fr ((l, v, d) :: ts) s σ H) : Rel W Fr ts s σ H := by
  obtain ⟨f1, f2, f0, h1, h2, h0, f⟩ := h
  obtain ⟨g, f3, rfl, o, h3⟩ := h0.uncons
  exact ⟨f1, f2, f3, h1, h2, h3, f.sub ((List.sublist_append_right g f3).append_left _)⟩
/-- a new tuple -/
theorem Rel.tup (h : Rel W Fr ts s σ H) {p : Addr} {vs : List V} {ds : List D} (hp : H p = none) (r : RpAll W vs ds) :
    Wle W (W.add p (.tup vs)) ∧ Agree Fr H (upd H p (.tup vs)) ∧ Rel (W.add p (.tup vs)) Fr ((0, .ref p, .tup ds) :: ts) s σ (upd H p (.tup vs)) := by
  have hn := h.noneAt hp
  have le : Wle W (W.add p (.tup vs)) := Wd.add_le hn
  refine ⟨le, h.agreeNew hp, Rel.tmp0 ?_ (.tup Wd.add_at (r.mono le))⟩
  obtain ⟨f1, f2, f3, h1, h2, h3, f⟩ := h
  exact ⟨f1, f2, f3, h1.mono le (keep_of h1.there hp), h2.mono le (keep_of h2.there hp), h3.mono le (keep_of h3.there hp), f.add (there3 h1 h2 h3) hp nofun⟩
theorem rows0 {W : Wd} {H : Hp} : ∀ {vs : List V} {ds : List D}, RpAll W vs ds → Row (Own W H 0) vs ds []
  | _, _, .nil => .nil
  | _, _, .cons r t => .cons (f := []) (fs := []) (.zero r) (rows0 t)
theorem own1 {W : Wd} {H : Hp} {a : Addr} {vs : List V} {ds : List D} (e : H a = some (.lst vs)) (r : RpAll W vs ds) : Own W H 1 (.ref a) (.lst ds) [a] := ⟨a, vs, [], rfl, e, rows0 r, rfl⟩
theorem own1d {W : Wd} {H : Hp} {a : Addr} {kvs' : List (Key × V)} {kvs : List (Key × D)} (e : H a = some (.dK kvs')) (k : kvs'.map (·.1) = kvs.map (·.1)) (r : RpAll W (kvs'.map (·.2)) (kvs.map (·.2))) : Own W H 1 (.ref a) (.dct kvs) [a] := ⟨a, kvs', [], rfl, e, k, rows0 r, rfl⟩
/-- a new owned object -/
theorem Rel.newOwn (h : Rel W Fr ts s σ H) {p : Addr} {o : HO} {l : Nat} {d : D} (hp : H p = none) (q : Own W (upd H p o) l (.ref p) d [p]) (ho : ∀ ps, o ≠ .tbl ps) :
    Agree Fr H (upd H p o) ∧ Rel W Fr ((l, .ref p, d) :: ts) s σ (upd H p o) := by
  refine ⟨h.agreeNew hp, ?_⟩
  obtain ⟨f1, f2, f3, h1, h2, h3, f⟩ := h
  refine ⟨f1, f2, [p] ++ f3, h1.mono .refl (keep_of h1.there hp), h2.mono .refl (keep_of h2.there hp), .cons q (h3.mono .refl (keep_of h3.there hp)), ?_⟩
  refine (f.new (o := o) (there3 h1 h2 h3) hp ho).perm ?_
  exact (List.perm_middle (a := p) (l₁ := f1 ++ f2) (l₂ := f3)).symm
theorem Rel.newList (h : Rel W Fr ts s σ H) {p : Addr} {vs : List V} {ds : List D} (hp : H p = none) (r : RpAll W vs ds) :
    Agree Fr H (upd H p (.lst vs)) ∧ Rel W Fr ((1, .ref p, .lst ds) :: ts) s σ (upd H p (.lst vs)) := h.newOwn hp (own1 upd_same r) nofun
/-- a temporary value is frozen -/
theorem Rel.thaw {l : Nat} {v : V} {d : D} (h : Rel W Fr ((l, v, d) :: ts) s σ H) : ∃ W', Wle W W' ∧ Rp W' v d ∧ Rel W' Fr ts s σ H := by
  obtain ⟨f1, f2, f0, h1, h2, h0, f⟩ := h
  obtain ⟨g, f3, rfl, o, h3⟩ := h0.uncons
  have le : Wle W (W.freeze H g) := Wd.freeze_le f.fz
  refine ⟨W.freeze H g, le, o.frozen le _ fun a ha => Wd.freeze_at ha, f1, f2, f3, h1.mono le fun _ _ => rfl, h2.mono le fun _ _ => rfl, h3.mono le fun _ _ => rfl, ?_⟩
  refine Fit.freeze (f := g) (f.perm ?_)
  have : (f1 ++ f2 ++ (g ++ f3)).Perm (g ++ (f1 ++ f2 ++ f3)) := by
    calc (f1 ++ f2 ++ (g ++ f3)).Perm ((g ++ f3) ++ (f1 ++ f2)) := List.perm_append_comm
      _ = g ++ (f3 ++ (f1 ++ f2)) := List.append_assoc ..
      List.Perm _ (g ++ ((f1 ++ f2) ++ f3)) := (List.perm_append_comm).append_left _
  exact this
/-- a name is read as a value: what it holds is frozen -/
theorem Rel.var (h : Rel W Fr ts s σ H) {i l : Nat} {d : D} (e : s.env[i]? = some (some (l, d))) :
    ∃ v W', σ[i]? = some (some v) ∧ Wle W W' ∧ Rp W' v d ∧ Rel W' Fr ts { s with env := s.env.set i (some (0, d)) } σ H := by
  obtain ⟨f1, f2, f3, h1, h2, h3, f⟩ := h
  obtain ⟨v, g, r, ev, o, h1', p⟩ := h1.take e
  have le : Wle W (W.freeze H g) := Wd.freeze_le f.fz
  have rp : Rp (W.freeze H g) v d := o.frozen le _ fun a ha => Wd.freeze_at ha
  have hl : i < s.env.length := (List.getElem?_eq_some_iff.mp e).1
  obtain ⟨fp, hs, pf⟩ := (h1'.mono le fun _ _ => rfl).put (H := H) (Own.zero rp) (set_none_at hl)
  have es : (s.env.set i none).set i (some (0, d)) = s.env.set i (some (0, d)) := List.set_set ..
  have eσ : σ.set i (some v) = σ := set_self ev
  rw [es, eσ] at hs
  refine ⟨v, _, ev, le, rp, fp, f2, f3, hs, h2.mono le fun _ _ => rfl, h3.mono le fun _ _ => rfl, ?_⟩
  have ff : Fit (W.freeze H g) Fr (r ++ f2 ++ f3) H := by
    refine Fit.freeze (f := g) (f.perm ?_)
    have := (p.append_right f2).append_right f3
    simpa [List.append_assoc] using this
  exact ff.perm (((pf.symm.append_right f2).append_right f3))
/-- a name is moved out -/
theorem Rel.move (h : Rel W Fr ts s σ H) {i l : Nat} {d : D} (e : s.env[i]? = some (some (l, d))) :
    ∃ v, σ[i]? = some (some v) ∧ Rel W Fr ((l, v, d) :: ts) { s with env := s.env.set i none } σ H := by
  obtain ⟨f1, f2, f3, h1, h2, h3, f⟩ := h
  obtain ⟨v, g, r, ev, o, h1', p⟩ := h1.take e
  refine ⟨v, ev, r, f2, g ++ f3, h1', h2, .cons o h3, f.perm ?_⟩
  have := (p.append_right f2).append_right f3
  refine this.trans ?_
  calc ((g ++ r) ++ f2 ++ f3).Perm (g ++ (r ++ f2) ++ f3) := by rw [List.append_assoc g r f2]
    List.Perm _ ((r ++ f2) ++ g ++ f3) := (List.perm_append_comm).append_right _
    _ = (r ++ f2) ++ (g ++ f3) := List.append_assoc ..
/-- a name is stored -/
theorem Rel.store {l : Nat} {v : V} {d : D} (h : Rel W Fr ((l, v, d) :: ts) s σ H) {i : Nat} (hi : i < s.env.length) : Rel W Fr ts { s with env := s.env.set i (some (l, d)) } (σ.set i (some v)) H := by
  obtain ⟨f1, f2, f0, h1, h2, h0, f⟩ := h
  obtain ⟨g, f3, rfl, o, h3⟩ := h0.uncons
  obtain ⟨r, h1', sb⟩ := h1.forget i
  obtain ⟨fp, hs, pf⟩ := h1'.put o (set_none_at hi)
  have es : (s.env.set i none).set i (some (l, d)) = s.env.set i (some (l, d)) := List.set_set ..
  rw [es] at hs
  refine ⟨fp, f2, f3, hs, h2, h3, ?_⟩
  have f' := f.sub ((sb.append_right f2).append_right (g ++ f3))
  refine f'.perm ?_
  have : (fp ++ f2 ++ f3).Perm (r ++ f2 ++ (g ++ f3)) := by
    calc (fp ++ f2 ++ f3).Perm ((g ++ r) ++ f2 ++ f3) := (pf.append_right f2).append_right f3
      _ = g ++ (r ++ f2) ++ f3 := by rw [List.append_assoc g r f2]
      List.Perm _ ((r ++ f2) ++ g ++ f3) := (List.perm_append_comm).append_right _
      _ = (r ++ f2) ++ (g ++ f3) := List.append_assoc ..
  exact this.symm
/-- a name is forgotten -/
theorem Rel.forget (h : Rel W Fr ts s σ H) (i : Nat) : Rel W Fr ts { s with env := s.env.set i none } σ H := by
  obtain ⟨f1, f2, f3, h1, h2, h3, f⟩ := h
  obtain ⟨r, h1', sb⟩ := h1.forget i
  exact ⟨r, f2, f3, h1', h2, h3, f.sub ((sb.append_right f2).append_right f3)⟩
theorem Rel.len (h : Rel W Fr ts s σ H) : s.env.length = σ.length := by
  obtain ⟨_, _, _, h1, _⟩ := h
  exact h1.length
end
end G
-- part Fw3
set_option Elab.async false
set_option linter.all false
set_option maxRecDepth 100000
set_option maxHeartbeats 4000000
set_option autoImplicit false
/-! Framework 3: results, readings, the judgements; names, constants, lists of arguments. -/
namespace G
open PySem PySem.Spec PyProof.Rows L2
variable [TabC]

structure Xc where
  cls : Str
  fs : List (Str × D)
inductive R (α : Type) where
  | bad
  | ok (a : α) (s : S)
  | err (x : Xc) (s : S)
def R.bind {α β : Type} (x : R α) (f : α → S → R β) : R β := match x with
  | .bad => .bad
  | .ok a s => f a s
  | .err x s => .err x s
theorem R.bind_ok {α β : Type} {x : R α} {f : α → S → R β} {b : β} {s : S} (h : x.bind f = .ok b s) : ∃ a s1, x = .ok a s1 ∧ f a s1 = .ok b s := by
  cases x with
  | bad => cases h
  | ok a s1 => exact ⟨a, s1, rfl, h⟩
  | err x s1 => cases h
def R.opt {α : Type} (o : Option α) (s : S) : R α := match o with
  | some a => .ok a s
  | none => .bad
theorem R.opt_ok {α : Type} {o : Option α} {s s' : S} {a : α} (h : R.opt o s = .ok a s') : o = some a ∧ s = s' := by
  cases o with
  | none => cases h
  | some b => cases h; exact ⟨rfl, rfl⟩

abbrev E := S → R (Nat × D)
/-- an operand: a frozen value, or what a name holds -/
inductive O where
  | val (d : D)
  | slot (i : Nat)
abbrev EO := S → R O
abbrev EV := S → R D
abbrev ET := S → R Bool

/-! ### the judgements -/
section
variable {X : Cx}
def UE (X : Cx) (e : Expr) : TE := fun σ H Q => ∀ (pins : List (Addr × Obj)) (sh : Shared), Inv X pins σ H sh → wpAny (model X.prog X.w) X.A (eval e X.env) (EP X pins σ Q) X.xe sh
theorem pU (e : Expr) : PE X e (UE X e) := ⟨fun pins s σ H Q I h => h pins s I⟩
theorem UE.of {e : Expr} {t : TE} (p : PE X e t) {σ : L2.St} {H : Hp} {Q : VK} (h : t σ H Q) : UE X e σ H Q := fun pins sh I => p.run pins sh σ H Q I h
def UT (X : Cx) (e : Expr) : TT := fun σ H Q => ∀ (pins : List (Addr × Obj)) (sh : Shared), Inv X pins σ H sh → wpAny (model X.prog X.w) X.A (isTrue e X.env (eval e X.env)) (TP X pins σ Q) X.xe sh
theorem pUT (e : Expr) : PT X e (UT X e) := ⟨fun pins s σ H Q I h => h pins s I⟩
theorem UT.of {e : Expr} {t : TT} (p : PT X e t) {σ : L2.St} {H : Hp} {Q : Bool → Hp → Prop} (h : t σ H Q) : UT X e σ H Q := fun pins sh I => p.run pins sh σ H Q I h
def UA (X : Cx) (es : List Expr) : TA := fun σ H Q => ∀ (pos : Pos) (pins : List (Addr × Obj)) (sh : Shared), Inv X pins σ H sh → wpAny (model X.prog X.w) X.A (spliced (backTo pos (starEach es X.env))) (AP X pins σ Q) X.xe sh
theorem pUA (es : List Expr) : PA X es (UA X es) := ⟨fun pos pins s σ H Q I h => h pos pins s I⟩
theorem UA.of {es : List Expr} {t : TA} (p : PA X es t) {σ : L2.St} {H : Hp} {Q : List V → Hp → Prop} (h : t σ H Q) : UA X es σ H Q := fun pos pins sh I => p.run pos pins sh σ H Q I h

/-- the expression with its level -/
def DenE (X : Cx) (m : E) (e : Expr) : Prop := ∀ (W : Wd) (Fr : Addr → Prop) (s : S) (σ : L2.St) (H : Hp) (Q : VK), Rel W Fr [] s σ H → ∀ (l : Nat) (d : D) (s' : S), m s = .ok (l, d) s' →
  (∀ (W' : Wd) (v : V) (H' : Hp), Wle W W' → Agree Fr H H' → Rel W' Fr [(l, v, d)] s' σ H' → Q v H') → UE X e σ H Q
/-- .. frozen -/
def DenV (X : Cx) (m : EV) (e : Expr) : Prop := ∀ (W : Wd) (Fr : Addr → Prop) (s : S) (σ : L2.St) (H : Hp) (Q : VK), Rel W Fr [] s σ H → ∀ (d : D) (s' : S), m s = .ok d s' →
  (∀ (W' : Wd) (v : V) (H' : Hp), Wle W W' → Agree Fr H H' → Rel W' Fr [] s' σ H' → Rp W' v d → Q v H') → UE X e σ H Q
/-- .. as a test -/
def DenT (X : Cx) (m : ET) (e : Expr) : Prop := ∀ (W : Wd) (Fr : Addr → Prop) (s : S) (σ : L2.St) (H : Hp) (Q : Bool → Hp → Prop), Rel W Fr [] s σ H → ∀ (b : Bool) (s' : S), m s = .ok b s' →
  (∀ (W' : Wd) (H' : Hp), Wle W W' → Agree Fr H H' → Rel W' Fr [] s' σ H' → Q b H') → UT X e σ H Q
def OR (W : Wd) (σ : L2.St) (v : V) : O → Prop
  | .val d => Rp W v d
  | .slot i => σ[i]? = some (some v)
theorem OR.mono {W W' : Wd} {σ : L2.St} {v : V} {o : O} (k : Wle W W') (h : OR W σ v o) : OR W' σ v o := by
  cases o with
  | val d => exact Rp.mono k h
  | slot i => exact h
/-- .. as an operand -/
def DenO (X : Cx) (m : EO) (e : Expr) : Prop := ∀ (W : Wd) (Fr : Addr → Prop) (s : S) (σ : L2.St) (H : Hp) (Q : VK), Rel W Fr [] s σ H → ∀ (o : O) (s' : S), m s = .ok o s' →
  (∀ (W' : Wd) (v : V) (H' : Hp), Wle W W' → Agree Fr H H' → Rel W' Fr [] s' σ H' → OR W' σ v o → Q v H') → UE X e σ H Q

inductive ORs (W : Wd) (σ : L2.St) : List V → List O → Prop
  | nil : ORs W σ [] []
  | cons {v : V} {vs : List V} {o : O} {os : List O} : OR W σ v o → ORs W σ vs os → ORs W σ (v :: vs) (o :: os)
theorem ORs.mono {W W' : Wd} {σ : L2.St} (k : Wle W W') : ∀ {vs : List V} {os : List O}, ORs W σ vs os → ORs W' σ vs os
  | _, _, .nil => .nil
  | _, _, .cons r t => .cons (OR.mono k r) (t.mono k)
def DenOs (X : Cx) (m : S → R (List O)) (es : List Expr) : Prop := ∀ (W : Wd) (Fr : Addr → Prop) (s : S) (σ : L2.St) (H : Hp) (Q : List V → Hp → Prop), Rel W Fr [] s σ H → ∀ (os : List O) (s' : S), m s = .ok os s' →
  (∀ (W' : Wd) (vs : List V) (H' : Hp), Wle W W' → Agree Fr H H' → Rel W' Fr [] s' σ H' → ORs W' σ vs os → Q vs H') → UA X es σ H Q
def DenVs (X : Cx) (m : S → R (List D)) (es : List Expr) : Prop := ∀ (W : Wd) (Fr : Addr → Prop) (s : S) (σ : L2.St) (H : Hp) (Q : List V → Hp → Prop), Rel W Fr [] s σ H → ∀ (ds : List D) (s' : S), m s = .ok ds s' →
  (∀ (W' : Wd) (vs : List V) (H' : Hp), Wle W W' → Agree Fr H H' → Rel W' Fr [] s' σ H' → RpAll W' vs ds → Q vs H') → UA X es σ H Q

/-! ### levels dropped -/
def eV (m : E) : EV := fun s => (m s).bind fun p s1 => .ok p.2 s1
theorem den_v {m : E} {e : Expr} (h : DenE X m e) : DenV X (eV m) e := by
  intro W Fr s σ H Q r d s' hm q
  obtain ⟨⟨l, d1⟩, s1, e1, e2⟩ := R.bind_ok hm
  cases e2
  refine h W Fr s σ H Q r l _ _ e1 fun W' v H' le ag r' => ?_
  obtain ⟨W2, le2, rp, r2⟩ := r'.thaw
  exact q W2 v H' (le.trans le2) ag r2 rp
def oV (m : EV) : EO := fun s => (m s).bind fun d s1 => .ok (.val d) s1
theorem den_oV {m : EV} {e : Expr} (h : DenV X m e) : DenO X (oV m) e := by
  intro W Fr s σ H Q r o s' hm q
  obtain ⟨d, s1, e1, e2⟩ := R.bind_ok hm
  cases e2
  exact h W Fr s σ H Q r d s' e1 fun W' v H' le ag r' rp => q W' v H' le ag r' rp
def eOf (m : EV) : E := fun s => (m s).bind fun d s1 => .ok (0, d) s1
theorem den_eOf {m : EV} {e : Expr} (h : DenV X m e) : DenE X (eOf m) e := by
  intro W Fr s σ H Q r l d s' hm q
  obtain ⟨d1, s1, e1, e2⟩ := R.bind_ok hm
  cases e2
  exact h W Fr s σ H Q r d s' e1 fun W' v H' le ag r' rp => q W' v H' le ag (r'.tmp0 rp)

/-! ### names, constants -/
def eC (d : D) : EV := fun s => .ok d s
theorem den_c {e : Expr} {d : D} {v : V} (p : PE X e (tC v)) (hr : ∀ W, Rp W v d) : DenV X (eC d) e := by
  intro W Fr s σ H Q r d' s' hm q
  cases hm
  exact .of p (q W v H .refl .refl r (hr W))
def eVar (i : Nat) : EV := fun s => match s.env[i]? with
  | some (some (_, d)) => .ok d { s with env := s.env.set i (some (0, d)) }
  | _ => .bad
theorem den_var {i : Nat} {x : Str} {pos : Pos} (hN : X.N[i]? = some x) (hv : Vis X.env.scope x) (hd : (x == ("__debug__" : Str)) = false) (hcd : (x == ("__classdict__" : Str)) = false) : DenV X (eVar i) (.Name x pos) := by
  intro W Fr s σ H Q r d' s' hm q
  unfold eVar at hm
  split at hm
  · rename_i l d e
    cases hm
    obtain ⟨v, W', ev, le, rp, r'⟩ := r.var e
    exact .of (pe_var hN hv hd hcd) ⟨v, ev, q W' v H le .refl r' rp⟩
  · cases hm
def oVar (i : Nat) : EO := fun s => match s.env[i]? with
  | some (some _) => .ok (.slot i) s
  | _ => .bad
theorem Rel.slot {W : Wd} {Fr : Addr → Prop} {ts : List (Nat × V × D)} {s : S} {σ : L2.St} {H : Hp} (r : Rel W Fr ts s σ H) {i l : Nat} {d : D} (e : s.env[i]? = some (some (l, d))) : ∃ v f, σ[i]? = some (some v) ∧ Own W H l v d f := by
  obtain ⟨f1, f2, f3, h1, _⟩ := r
  exact h1.look e
theorem den_oVar {i : Nat} {x : Str} {pos : Pos} (hN : X.N[i]? = some x) (hv : Vis X.env.scope x) (hd : (x == ("__debug__" : Str)) = false) (hcd : (x == ("__classdict__" : Str)) = false) : DenO X (oVar i) (.Name x pos) := by
  intro W Fr s σ H Q r o s' hm q
  unfold oVar at hm
  split at hm
  · rename_i p e
    obtain ⟨l, d⟩ := p
    cases hm
    obtain ⟨v, f, ev, _⟩ := r.slot e
    exact .of (pe_var hN hv hd hcd) ⟨v, ev, q W v H .refl .refl r ev⟩
  · cases hm

/-! ### lists of arguments -/
def notStar : Expr → Bool
  | .Starred _ _ => false
  | _ => true
theorem star_cons {e : Expr} {es : List Expr} {env : Env} (h : notStar e = true) : starEach (e :: es) env = (false, eval e env) :: starEach es env := by
  cases e <;> first | rfl | cases h
def osNil : S → R (List O) := fun s => .ok [] s
def osCons (m : EO) (ms : S → R (List O)) : S → R (List O) := fun s => (m s).bind fun o s1 => (ms s1).bind fun os s2 => .ok (o :: os) s2
theorem den_osNil : DenOs X osNil [] := by
  intro W Fr s σ H Q r os s' hm q
  cases hm
  exact .of pa_nil (q W [] H .refl .refl r .nil)
theorem den_osCons {m : EO} {ms : S → R (List O)} {e : Expr} {es : List Expr} (h : DenO X m e) (hs : DenOs X ms es) (ns : notStar e = true) : DenOs X (osCons m ms) (e :: es) := by
  intro W Fr s σ H Q r os s' hm q
  obtain ⟨o, s1, e1, hm⟩ := R.bind_ok hm
  obtain ⟨os1, s2, e2, hm⟩ := R.bind_ok hm
  cases hm
  refine .of (pa_cons (pU e) (pUA es) (star_cons ns)) ?_
  refine h W Fr s σ H _ r o s1 e1 fun W1 v H1 le1 ag1 r1 or1 => ?_
  refine hs W1 Fr s1 σ H1 _ r1 os1 s' e2 fun W2 vs H2 le2 ag2 r2 or2 => ?_
  exact q W2 (v :: vs) H2 (le1.trans le2) (ag1.trans ag2) r2 (.cons (or1.mono le2) or2)
def vsNil : S → R (List D) := fun s => .ok [] s
def vsCons (m : EV) (ms : S → R (List D)) : S → R (List D) := fun s => (m s).bind fun d s1 => (ms s1).bind fun ds s2 => .ok (d :: ds) s2
theorem den_vsNil : DenVs X vsNil [] := by
  intro W Fr s σ H Q r os s' hm q
  cases hm
  exact .of pa_nil (q W [] H .refl .refl r .nil)
theorem den_vsCons {m : EV} {ms : S → R (List D)} {e : Expr} {es : List Expr} (h : DenV X m e) (hs : DenVs X ms es) (ns : notStar e = true) : DenVs X (vsCons m ms) (e :: es) := by
  intro W Fr s σ H Q r ds s' hm q
  obtain ⟨d, s1, e1, hm⟩ := R.bind_ok hm
  obtain ⟨ds1, s2, e2, hm⟩ := R.bind_ok hm
  cases hm
  refine .of (pa_cons (pU e) (pUA es) (star_cons ns)) ?_
  refine h W Fr s σ H _ r d s1 e1 fun W1 v H1 le1 ag1 r1 rp1 => ?_
  refine hs W1 Fr s1 σ H1 _ r1 ds1 s' e2 fun W2 vs H2 le2 ag2 r2 rp2 => ?_
  exact q W2 (v :: vs) H2 (le1.trans le2) (ag1.trans ag2) r2 (.cons (rp1.mono le2) rp2)

/-! ### displays -/
def szOk (n : Nat) : Bool := decide (n ≤ 1000000)
theorem szOk.le {n : Nat} (h : szOk n = true) : n ≤ sizeLine := by
  have := of_decide_eq_true h
  have hs : sizeLine = 16777216 := sizeLine_eq
  omega
theorem szOk.lt {n : Nat} (h : szOk n = true) : n < sizeLine := by
  have := of_decide_eq_true h
  have hs : sizeLine = 16777216 := sizeLine_eq
  omega
def eTup (ms : S → R (List D)) : EV := fun s => (ms s).bind fun ds s1 => if szOk ds.length then .ok (.tup ds) s1 else .bad
theorem den_tup {ms : S → R (List D)} {es : List Expr} {k : Nat} {pos : Pos} (h : DenVs X ms es) : DenV X (eTup ms) (.Tuple es k pos) := by
  intro W Fr s σ H Q r d s' hm q
  obtain ⟨ds, s1, e1, hm⟩ := R.bind_ok hm
  split at hm
  · rename_i hz
    cases hm
    refine .of (pe_tup (pUA es)) ?_
    refine h W Fr s σ H _ r ds s' e1 fun W1 vs H1 le1 ag1 r1 rp => ?_
    refine ⟨by rw [rp.length]; exact szOk.le hz, fun p hp => ?_⟩
    obtain ⟨le2, ag2, r2⟩ := r1.tup hp rp
    exact q _ (.ref p) _ (le1.trans le2) (ag1.trans ag2) r2.untmp (.tup Wd.add_at (rp.mono le2))
  · cases hm
def eLst (ms : S → R (List D)) : E := fun s => (ms s).bind fun ds s1 => if szOk ds.length then .ok (1, .lst ds) s1 else .bad
theorem den_lst {ms : S → R (List D)} {es : List Expr} {pos : Pos} (h : DenVs X ms es) : DenE X (eLst ms) (.List es pos) := by
  intro W Fr s σ H Q r l d s' hm q
  obtain ⟨ds, s1, e1, hm⟩ := R.bind_ok hm
  split at hm
  · rename_i hz
    cases hm
    refine .of (pe_lst (pUA es)) ?_
    refine h W Fr s σ H _ r ds s' e1 fun W1 vs H1 le1 ag1 r1 rp => ?_
    refine ⟨by rw [rp.length]; exact szOk.le hz, fun p hp => ?_⟩
    obtain ⟨ag2, r2⟩ := r1.newList hp rp
    exact q _ (.ref p) _ le1 (ag1.trans ag2) r2
  · cases hm
end
end G
-- part Fw4
set_option Elab.async false
set_option linter.all false
set_option maxRecDepth 100000
set_option maxHeartbeats 4000000
set_option autoImplicit false
/-! Framework 4: values as they are read off the heap; operators and comparisons. -/
namespace G
open PySem PySem.Spec PyProof.Rows L2
variable [TabC]

mutual
/-- what may be read -/
inductive Vw (H : Hp) : V → D → Prop
  | non : Vw H .non .non
  | bl (b : Bool) : Vw H (.bl b) (.bl b)
  | int (i : Int) : Vw H (.int i) (.int i)
  | str (x : Str) : Vw H (.str x) (.str x)
  | tup {a : Addr} {vs : List V} {ds : List D} : H a = some (.tup vs) → VwAll H vs ds → Vw H (.ref a) (.tup ds)
  | lst {a : Addr} {vs : List V} {ds : List D} : Rd H a (.lst vs) → VwAll H vs ds → Vw H (.ref a) (.lst ds)
  | dct {a : Addr} {kvs' : List (Key × V)} {kvs : List (Key × D)} : H a = some (.dK kvs') → kvs'.map (·.1) = kvs.map (·.1) → VwAll H (kvs'.map (·.2)) (kvs.map (·.2)) → Vw H (.ref a) (.dct kvs)
  | cell {a : Addr} {n : Nat} : Vw H (.ref a) (.cell n)
inductive VwAll (H : Hp) : List V → List D → Prop
  | nil : VwAll H [] []
  | cons {v : V} {vs : List V} {d : D} {ds : List D} : Vw H v d → VwAll H vs ds → VwAll H (v :: vs) (d :: ds)
end
theorem VwAll.length {H : Hp} : ∀ {vs : List V} {ds : List D}, VwAll H vs ds → vs.length = ds.length
  | _, _, .nil => rfl
  | _, _, .cons _ t => congrArg Nat.succ t.length
mutual
theorem Rp.vw {W : Wd} {H : Hp} (f : ∀ a o, W.fz a = some o → H a = some o) : ∀ {v : V} {d : D}, Rp W v d → Vw H v d
  | _, _, .non => .non
  | _, _, .bl b => .bl b
  | _, _, .int i => .int i
  | _, _, .str x => .str x
  | _, _, .tup e h => .tup (f _ _ e) (RpAll.vw f h)
  | _, _, .lst e i h => .lst (i.elim (fun z => .inl (by rw [← z]; exact f _ _ e)) fun ⟨ob, z⟩ => .inr ⟨ob, by rw [← z]; exact f _ _ e⟩) (RpAll.vw f h)
  | _, _, .dct e i h => .dct (f _ _ e) i (RpAll.vw f h)
  | _, _, .cell _ => .cell
theorem RpAll.vw {W : Wd} {H : Hp} (f : ∀ a o, W.fz a = some o → H a = some o) : ∀ {vs : List V} {ds : List D}, RpAll W vs ds → VwAll H vs ds
  | _, _, .nil => .nil
  | _, _, .cons r t => .cons (Rp.vw f r) (RpAll.vw f t)
end
theorem Row.vw {H : Hp} {P : V → D → List Addr → Prop} (k : ∀ v d f, P v d f → Vw H v d) : ∀ {vs : List V} {ds : List D} {fs : List Addr}, Row P vs ds fs → VwAll H vs ds
  | _, _, _, .nil => .nil
  | _, _, _, .cons r t => .cons (k _ _ _ r) (t.vw k)
theorem Own.vw {W : Wd} {H : Hp} (f : ∀ a o, W.fz a = some o → H a = some o) : ∀ (l : Nat) {v : V} {d : D} {fp : List Addr}, Own W H l v d fp → Vw H v d
  | 0, _, _, _, h => h.1.vw f
  | l + 1, v, d, fp, h => by
    cases d with
    | lst ds =>
      obtain ⟨a, vs, fs, e, q, r, ef⟩ := h
      subst e
      exact .lst (.inl q) (r.vw fun v d g o => Own.vw f l o)
    | dct kvs =>
      obtain ⟨a, vs, fs, e, q, q2, r, ef⟩ := h
      subst e
      exact .dct q q2 (r.vw fun v d g o => Own.vw f l o)
    | non => exact h.1.vw f
    | bl _ => exact h.1.vw f
    | int _ => exact h.1.vw f
    | str _ => exact h.1.vw f
    | tup _ => exact h.1.vw f
    | cell _ => exact h.1.vw f

/-! ### plain data -/
mutual
def D.py : D → PyData
  | .non => .none
  | .bl b => .bool b
  | .int i => .int i
  | .str x => .str x
  | .tup xs => .tuple (D.pys xs)
  | .lst xs => .list (D.pys xs)
  | .dct _ => .none
  | .cell _ => .none
def D.pys : List D → List PyData
  | [] => []
  | d :: ds => d.py :: D.pys ds
end
theorem D.pys_map : ∀ ds : List D, D.pys ds = ds.map D.py
  | [] => rfl
  | d :: ds => by rw [D.pys, D.pys_map ds]; rfl
/-- nested no deeper than n, no dict, no cell -/
def D.fits : Nat → D → Bool
  | 0, d => match d with
    | .non | .bl _ | .int _ | .str _ => true
    | _ => false
  | n + 1, d => match d with
    | .non | .bl _ | .int _ | .str _ => true
    | .tup xs => xs.all (D.fits n)
    | .lst xs => xs.all (D.fits n)
    | _ => false
theorem D.fits_depth : ∀ (n : Nat) (d : D), d.fits n = true → d.py.depth ≤ n ∧ d.py.plain = true
  | 0, d, h => by
    cases d <;> first | exact ⟨Nat.le_refl _, rfl⟩ | cases h
  | n + 1, d, h => by
    have all : ∀ xs : List D, xs.all (D.fits n) = true → PyData.depthAll (D.pys xs) ≤ n ∧ PyData.plainAll (D.pys xs) = true := by
      intro xs
      induction xs with
      | nil => intro _; exact ⟨Nat.zero_le _, rfl⟩
      | cons x xs ih =>
        intro h
        simp only [List.all_cons, Bool.and_eq_true] at h
        have h1 := D.fits_depth n x h.1
        have h2 := ih h.2
        refine ⟨?_, ?_⟩
        · show max x.py.depth (PyData.depthAll (D.pys xs)) ≤ n
          exact Nat.max_le.mpr ⟨h1.1, h2.1⟩
        · show (x.py.plain && PyData.plainAll (D.pys xs)) = true
          rw [h1.2, h2.2]; rfl
    cases d with
    | tup xs => exact ⟨Nat.succ_le_succ (all xs h).1, (all xs h).2⟩
    | lst xs => exact ⟨Nat.succ_le_succ (all xs h).1, (all xs h).2⟩
    | non => exact ⟨Nat.zero_le _, rfl⟩
    | bl _ => exact ⟨Nat.zero_le _, rfl⟩
    | int _ => exact ⟨Nat.zero_le _, rfl⟩
    | str _ => exact ⟨Nat.zero_le _, rfl⟩
    | dct _ => cases h
    | cell _ => cases h
mutual
theorem Vw.dp {K : PySem.W.Frag} {H : Hp} : ∀ (n : Nat) {v : V} {d : D}, Vw H v d → d.fits n = true → Dp K H v d.py
  | _, _, _, .non, _ => .non
  | _, _, _, .bl b, _ => .bl b
  | _, _, _, .int i, _ => .int i
  | _, _, _, .str x, _ => .str x
  | 0, _, _, .tup e h, f => by cases f
  | n + 1, _, _, .tup e h, f => .tup (SqT.of e) (VwAll.dp n h f)
  | 0, _, _, .lst e h, f => by cases f
  | n + 1, _, _, .lst e h, f => .lst (.inl e) (VwAll.dp n h f)
  | 0, _, _, .dct _ _ _, f => by cases f
  | _ + 1, _, _, .dct _ _ _, f => by cases f
  | 0, _, _, .cell, f => by cases f
  | _ + 1, _, _, .cell, f => by cases f
theorem VwAll.dp {K : PySem.W.Frag} {H : Hp} : ∀ (n : Nat) {vs : List V} {ds : List D}, VwAll H vs ds → ds.all (D.fits n) = true → DpAll K H vs (D.pys ds)
  | _, _, _, .nil, _ => .nil
  | n, _, _, .cons r t, f => by
    simp only [List.all_cons, Bool.and_eq_true] at f
    exact .cons (Vw.dp n r f.1) (VwAll.dp n t f.2)
end
/-- the greatest depth that is looked into -/
abbrev deep : Nat := 12

/-! ### operands at a state -/
def S.look (s : S) : O → Option (Nat × D)
  | .val d => some (0, d)
  | .slot i => match s.env[i]? with
    | some (some p) => some p
    | _ => none
def S.looks (s : S) : List O → Option (List (Nat × D))
  | [] => some []
  | o :: os => match s.look o, s.looks os with
    | some p, some ps => some (p :: ps)
    | _, _ => none
theorem Rel.look {W : Wd} {Fr : Addr → Prop} {ts : List (Nat × V × D)} {s : S} {σ : L2.St} {H : Hp} (r : Rel W Fr ts s σ H) {v : V} {o : O} (h : OR W σ v o) {l : Nat} {d : D} (e : s.look o = some (l, d)) : ∃ f, Own W H l v d f := by
  cases o with
  | val d' =>
    cases e
    exact ⟨[], .zero h⟩
  | slot i =>
    unfold S.look at e
    simp only at e
    split at e
    · rename_i p e2
      cases e
      obtain ⟨u, f, eu, ow⟩ := r.slot e2
      have h' : σ[i]? = some (some v) := h
      rw [eu] at h'
      cases h'
      exact ⟨f, ow⟩
    · cases e
theorem Rel.lookV {W : Wd} {Fr : Addr → Prop} {ts : List (Nat × V × D)} {s : S} {σ : L2.St} {H : Hp} (r : Rel W Fr ts s σ H) {v : V} {o : O} (h : OR W σ v o) {l : Nat} {d : D} (e : s.look o = some (l, d)) : Vw H v d := by
  obtain ⟨f, ow⟩ := r.look h e
  exact ow.vw r.fzok _
inductive Owns (W : Wd) (H : Hp) : List V → List (Nat × D) → Prop
  | nil : Owns W H [] []
  | cons {v : V} {vs : List V} {l : Nat} {d : D} {ps : List (Nat × D)} {f : List Addr} : Own W H l v d f → Owns W H vs ps → Owns W H (v :: vs) ((l, d) :: ps)
theorem Rel.looks {W : Wd} {Fr : Addr → Prop} {ts : List (Nat × V × D)} {s : S} {σ : L2.St} {H : Hp} (r : Rel W Fr ts s σ H) : ∀ {vs : List V} {os : List O}, ORs W σ vs os → ∀ {ps : List (Nat × D)}, s.looks os = some ps → Owns W H vs ps
  | _, _, .nil, ps, e => by cases e; exact .nil
  | _, _, .cons (o := o) (os := os) h t, ps, e => by
    unfold S.looks at e
    split at e
    · rename_i p qs e1 e2
      cases e
      obtain ⟨l, d⟩ := p
      obtain ⟨f, ow⟩ := r.look h e1
      exact .cons ow (r.looks t e2)
    · cases e
/-- an owned list whose items are frozen -/
theorem Own.items {W : Wd} {H : Hp} (fz : ∀ a o, W.fz a = some o → H a = some o) {l : Nat} {v : V} {ds : List D} {f : List Addr} (h : Own W H l v (.lst ds) f) (hl : l ≤ 1) : ∃ a vs, v = .ref a ∧ Rd H a (.lst vs) ∧ RpAll W vs ds := by
  cases l with
  | zero =>
    obtain ⟨h, _⟩ := h
    cases h with
    | lst e i r =>
      refine ⟨_, _, rfl, ?_, r⟩
      rcases i with z | ⟨ob, z⟩
      · exact .inl (by rw [← z]; exact fz _ _ e)
      · exact .inr ⟨ob, by rw [← z]; exact fz _ _ e⟩
  | succ l =>
    have : l = 0 := by omega
    subst this
    obtain ⟨a, vs, fs, e, q, r, _⟩ := h
    exact ⟨a, vs, e, .inl q, r.frozen fun v d g _ o => o.1⟩
theorem Own.dict {W : Wd} {H : Hp} (fz : ∀ a o, W.fz a = some o → H a = some o) {l : Nat} {v : V} {kvs : List (Key × D)} {f : List Addr} (h : Own W H l v (.dct kvs) f) (hl : l ≤ 1) :
    ∃ a kvs', v = .ref a ∧ H a = some (.dK kvs') ∧ kvs'.map (·.1) = kvs.map (·.1) ∧ RpAll W (kvs'.map (·.2)) (kvs.map (·.2)) := by
  cases l with
  | zero =>
    obtain ⟨h, _⟩ := h
    cases h with
    | dct e i r => exact ⟨_, _, rfl, fz _ _ e, i, r⟩
  | succ l =>
    have : l = 0 := by omega
    subst this
    obtain ⟨a, vs, fs, e, q, q2, r, _⟩ := h
    exact ⟨a, vs, e, q, q2, r.frozen fun v d g _ o => o.1⟩
theorem Own.rp {W : Wd} {H : Hp} {l : Nat} {v : V} {d : D} {f : List Addr} (h : Own W H l v d f) (hd : match d with | .lst _ | .dct _ => False | _ => True) : Rp W v d := by
  cases l with
  | zero => exact h.1
  | succ l => cases d <;> first | exact h.1 | exact hd.elim
theorem Own.tupI {W : Wd} {H : Hp} (fz : ∀ a o, W.fz a = some o → H a = some o) {l : Nat} {v : V} {ds : List D} {f : List Addr} (h : Own W H l v (.tup ds) f) : ∃ a vs, v = .ref a ∧ H a = some (.tup vs) ∧ RpAll W vs ds := by
  have h := h.rp trivial
  cases h with
  | tup e r => exact ⟨_, _, rfl, fz _ _ e, r⟩

/-! ### two-place operators -/
def binD : Operator → Nat × D → Nat × D → Option (Nat × D)
  | .Add, (_, .int i), (_, .int j) => some (0, .int (i + j))
  | .Sub, (_, .int i), (_, .int j) => some (0, .int (i - j))
  | .Mult, (_, .int i), (_, .int j) => if (-(2 ^ 64) < i ∧ i < 2 ^ 64) ∨ (-(2 ^ 64) < j ∧ j < 2 ^ 64) then some (0, .int (i * j)) else none
  | .FloorDiv, (_, .int i), (_, .int j) => if 0 < j ∧ j < 1073741824 then some (0, .int (i / j)) else none
  | .Mod, (_, .int i), (_, .int j) => if 0 < j then some (0, .int (i % j)) else none
  | .Pow, (_, .int i), (_, .int j) => if 0 ≤ j ∧ j ≤ 1000000 ∧ i.natAbs < 2 ^ 64 then some (0, .int (i ^ j.toNat)) else none
  | .Add, (_, .str x), (_, .str y) => if szOk (x.length + y.length) then some (0, .str (x ++ y)) else none
  | .Add, (l, .lst xs), (k, .lst ys) => if l ≤ 1 ∧ k ≤ 1 ∧ szOk (xs.length + ys.length) then some (1, .lst (xs ++ ys)) else none
  | .Add, (_, .tup xs), (_, .tup ys) => if xs ≠ [] ∧ ys ≠ [] ∧ szOk (xs.length + ys.length) then some (0, .tup (xs ++ ys)) else none
  | _, _, _ => none
end G
-- part Fw5
set_option Elab.async false
set_option linter.all false
set_option maxRecDepth 100000
set_option maxHeartbeats 4000000
set_option autoImplicit false
/-! Framework 5: operators, comparisons, subscripts: what they ask, and that they keep it. -/
namespace G
open PySem PySem.Spec PyProof.Rows L2
variable [TabC]

section
variable {X : Cx}
/-- whatever may be asked of an operation -/
def rU (X : Cx) (f : Value → Value → Sem Value) : R2 := fun x y H Q => ∀ (σ' : L2.St) (pins : List (Addr × Obj)) (sh : Shared) (v u : Value), Inv X pins σ' H sh → RelV x v → RelV y u → wpAny (model X.prog X.w) X.A (f v u) (EP X pins σ' Q) X.xe sh
theorem opRU (f : Value → Value → Sem Value) : OpR X f (rU X f) := fun pins sh σ H x y v u Q I rx ry h => h σ pins sh v u I rx ry
/-- a two-place operation on values keeps what g says -/
def OpS (X : Cx) (f : Value → Value → Sem Value) (g : Nat × D → Nat × D → Option (Nat × D)) : Prop :=
  ∀ (W : Wd) (Fr : Addr → Prop) (s : S) (σ : L2.St) (H : Hp) (x y : V) (l1 l2 l : Nat) (d1 d2 d : D) (f1 f2 : List Addr) (Q : VK), Rel W Fr [] s σ H → Own W H l1 x d1 f1 → Own W H l2 y d2 f2 → g (l1, d1) (l2, d2) = some (l, d) →
    (∀ (W' : Wd) (z : V) (H' : Hp), Wle W W' → Agree Fr H H' → Rel W' Fr [(l, z, d)] s σ H' → Q z H') →
    rU X f x y H Q
def eOp (g : Nat × D → Nat × D → Option (Nat × D)) (a b : EO) : E := fun s => (a s).bind fun oa s1 => (b s1).bind fun ob s2 => match s2.look oa, s2.look ob with
  | some p, some q => R.opt (g p q) s2
  | _, _ => .bad
abbrev eBin (op : Operator) (a b : EO) : E := eOp (binD op) a b
/-- the two operands are at hand -/
theorem opS_use {f : Value → Value → Sem Value} {g : Nat × D → Nat × D → Option (Nat × D)} {ma mb : EO} {a b : Expr} (ho : OpS X f g) (ha : DenO X ma a) (hb : DenO X mb b)
    {W : Wd} {Fr : Addr → Prop} {s : S} {σ : L2.St} {H : Hp} {Q : VK} (r : Rel W Fr [] s σ H) {l : Nat} {d : D} {s' : S} (hm : eOp g ma mb s = .ok (l, d) s')
    (q : ∀ (W' : Wd) (v : V) (H' : Hp), Wle W W' → Agree Fr H H' → Rel W' Fr [(l, v, d)] s' σ H' → Q v H') :
    tOp (rU X f) (UE X a) (UE X b) σ H Q := by
  obtain ⟨oa, s1, e1, hm⟩ := R.bind_ok hm
  obtain ⟨ob, s2, e2, hm⟩ := R.bind_ok hm
  split at hm
  · rename_i p1 p2 ea eb
    obtain ⟨l1, d1⟩ := p1
    obtain ⟨l2, d2⟩ := p2
    obtain ⟨eg, es⟩ := R.opt_ok hm
    subst es
    refine ha W Fr s σ H _ r oa s1 e1 fun W1 x H1 le1 ag1 r1 or1 => ?_
    refine hb W1 Fr s1 σ H1 _ r1 ob s2 e2 fun W2 y H2 le2 ag2 r2 or2 => ?_
    obtain ⟨f1, o1⟩ := r2.look (or1.mono le2) ea
    obtain ⟨f2, o2⟩ := r2.look or2 eb
    exact ho W2 Fr s2 σ H2 x y l1 l2 l d1 d2 d f1 f2 Q r2 o1 o2 eg fun W' z H' le ag r' => q W' z H' ((le1.trans le2).trans le) ((ag1.trans ag2).trans ag) r'
  · cases hm
theorem den_bin {op : Operator} {ma mb : EO} {a b : Expr} {pos : Pos} (ho : OpS X (binaryOp op) (binD op)) (ha : DenO X ma a) (hb : DenO X mb b) : DenE X (eBin op ma mb) (.BinOp a op b pos) := by
  intro W Fr s σ H Q r l d s' hm q
  exact .of (pe_op (opRU _) (pU a) (pU b)) (opS_use ho ha hb r hm q)

/-! ### what stands behind an operation -/
theorem fin0 {W : Wd} {Fr : Addr → Prop} {s : S} {σ : L2.St} {H : Hp} {Q : VK} {d : D} {v : V} (r : Rel W Fr [] s σ H) (q : ∀ (W' : Wd) (z : V) (H' : Hp), Wle W W' → Agree Fr H H' → Rel W' Fr [(0, z, d)] s σ H' → Q z H') (hv : Rp W v d) : Q v H :=
  q W v H .refl .refl (r.tmp0 hv)
theorem Own.int {W : Wd} {H : Hp} {l : Nat} {v : V} {i : Int} {f : List Addr} (h : Own W H l v (.int i) f) : v = .int i := by
  have h := h.rp trivial
  cases h; rfl
theorem Own.str {W : Wd} {H : Hp} {l : Nat} {v : V} {x : Str} {f : List Addr} (h : Own W H l v (.str x) f) : v = .str x := by
  have h := h.rp trivial
  cases h; rfl
theorem Own.bl {W : Wd} {H : Hp} {l : Nat} {v : V} {b : Bool} {f : List Addr} (h : Own W H l v (.bl b) f) : v = .bl b := by
  have h := h.rp trivial
  cases h; rfl
theorem Own.non {W : Wd} {H : Hp} {l : Nat} {v : V} {f : List Addr} (h : Own W H l v .non f) : v = .non := by
  have h := h.rp trivial
  cases h; rfl
/-- list + list where either may be locked -/
theorem op_catR : OpR X (binaryOp .Add) (fun x y H Q => ∃ a b xs zs, x = .ref a ∧ y = .ref b ∧ Rd H a (.lst xs) ∧ Rd H b (.lst zs) ∧ xs.length + zs.length ≤ sizeLine ∧ ∀ p, H p = none → Q (.ref p) (upd H p (.lst (xs ++ zs)))) := by
  intro pins sh σ H x y v u Q J rx ry h
  obtain ⟨a, b, xs, zs, rfl, rfl, ha, hb, hz, q⟩ := h
  cases rx
  cases ry
  obtain ⟨z1, i1, n1, r1, e1⟩ := ha.ok J.hok
  obtain ⟨z2, i2, n2, r2, e2⟩ := hb.ok J.hok
  have l1 := r1.length
  have l2 := r2.length
  refine PySem.P.add_list e1 e2 ?_ (by simp only [List.size_toArray]; omega)
  rw [show i1.toArray ++ i2.toArray = (i1 ++ i2).toArray by simp]
  exact ⟨.ref _, _, J.lnew (t' := sh.toks) (r1.append r2) (by simp only [List.length_append]; omega), rfl, q _ J.fresh⟩
theorem opS_add (hc : X.calm = true) : OpS X (binaryOp .Add) (binD .Add) := by
  intro W Fr s σ H x y l1 l2 l d1 d2 d f1 f2 Q r o1 o2 hg q σ' pins sh v u I rx ry
  cases d1 <;> cases d2 <;> simp only [binD] at hg <;> try (cases hg; done)
  case int.int i j =>
    cases hg; cases o1.int; cases o2.int
    exact op_add pins sh σ' H _ _ v u Q I rx ry ⟨i, j, rfl, rfl, fin0 r q (.int _)⟩
  case str.str a b =>
    split at hg
    · rename_i hz
      cases hg; cases o1.str; cases o2.str
      exact op_add_str pins sh σ' H _ _ v u Q I rx ry ⟨a, b, rfl, rfl, szOk.le hz, fin0 r q (.str _)⟩
    · cases hg
  case lst.lst xs ys =>
    split at hg
    · rename_i hz
      cases hg
      obtain ⟨h1, h2, hz⟩ := hz
      obtain ⟨a, vs, rfl, ra, pa⟩ := o1.items r.fzok h1
      obtain ⟨b, us, rfl, rb, pb⟩ := o2.items r.fzok h2
      refine op_catR pins sh σ' H _ _ v u Q I rx ry ⟨a, b, vs, us, rfl, rfl, ra, rb, by rw [pa.length, pb.length]; exact szOk.le hz, fun p hp => ?_⟩
      obtain ⟨ag, r'⟩ := r.newList hp (pa.append pb)
      exact q W _ _ .refl ag r'
    · cases hg
  case tup.tup xs ys =>
    split at hg
    · rename_i hz
      cases hg
      obtain ⟨h1, h2, hz⟩ := hz
      obtain ⟨a, vs, rfl, ra, pa⟩ := o1.tupI r.fzok
      obtain ⟨b, us, rfl, rb, pb⟩ := o2.tupI r.fzok
      refine op_catA pins sh σ' H _ _ v u Q I rx ry ⟨a, b, vs, us, rfl, rfl, SqT.of ra, SqT.of rb, by rw [pa.length, pb.length]; exact szOk.le hz, ?_, ?_, ?_⟩
      · intro z; subst z; cases pa; exact absurd rfl h1
      · intro _ z; subst z; cases pb; exact absurd rfl h2
      · intro _ _ p hp
        obtain ⟨le, ag, r'⟩ := r.tup hp (pa.append pb)
        exact q _ _ _ le ag r'
    · cases hg
theorem opS_sub : OpS X (binaryOp .Sub) (binD .Sub) := by
  intro W Fr s σ H x y l1 l2 l d1 d2 d f1 f2 Q r o1 o2 hg q σ' pins sh v u I rx ry
  cases d1 <;> cases d2 <;> simp only [binD] at hg <;> try (cases hg; done)
  case int.int i j =>
    cases hg; cases o1.int; cases o2.int
    exact op_sub pins sh σ' H _ _ v u Q I rx ry ⟨i, j, rfl, rfl, fin0 r q (.int _)⟩
theorem opS_mod : OpS X (binaryOp .Mod) (binD .Mod) := by
  intro W Fr s σ H x y l1 l2 l d1 d2 d f1 f2 Q r o1 o2 hg q σ' pins sh v u I rx ry
  cases d1 <;> cases d2 <;> simp only [binD] at hg <;> try (cases hg; done)
  case int.int i j =>
    split at hg
    · rename_i hz
      cases hg; cases o1.int; cases o2.int
      exact op_mod pins sh σ' H _ _ v u Q I rx ry ⟨i, j, rfl, rfl, hz, fin0 r q (.int _)⟩
    · cases hg
theorem opS_fdiv : OpS X (binaryOp .FloorDiv) (binD .FloorDiv) := by
  intro W Fr s σ H x y l1 l2 l d1 d2 d f1 f2 Q r o1 o2 hg q σ' pins sh v u I rx ry
  cases d1 <;> cases d2 <;> simp only [binD] at hg <;> try (cases hg; done)
  case int.int i j =>
    split at hg
    · rename_i hz
      cases hg; cases o1.int; cases o2.int
      exact op_fdiv pins sh σ' H _ _ v u Q I rx ry ⟨i, j, rfl, rfl, hz, fin0 r q (.int _)⟩
    · cases hg
theorem opS_pow : OpS X (binaryOp .Pow) (binD .Pow) := by
  intro W Fr s σ H x y l1 l2 l d1 d2 d f1 f2 Q r o1 o2 hg q σ' pins sh v u I rx ry
  cases d1 <;> cases d2 <;> simp only [binD] at hg <;> try (cases hg; done)
  case int.int i j =>
    split at hg
    · rename_i hz
      cases hg; cases o1.int; cases o2.int
      exact op_pow pins sh σ' H _ _ v u Q I rx ry ⟨i, j, rfl, rfl, hz, fin0 r q (.int _)⟩
    · cases hg
theorem opS_mul : OpS X (binaryOp .Mult) (binD .Mult) := by
  intro W Fr s σ H x y l1 l2 l d1 d2 d f1 f2 Q r o1 o2 hg q σ' pins sh v u I rx ry
  cases d1 <;> cases d2 <;> simp only [binD] at hg <;> try (cases hg; done)
  case int.int i j =>
    split at hg
    · rename_i hz
      cases hg; cases o1.int; cases o2.int
      exact op_mul pins sh σ' H _ _ v u Q I rx ry ⟨i, j, rfl, rfl, hz, fin0 r q (.int _)⟩
    · cases hg
theorem opS_bin (hc : X.calm = true) : ∀ op : Operator, OpS X (binaryOp op) (binD op)
  | .Add => opS_add hc
  | .Sub => opS_sub
  | .Mult => opS_mul
  | .FloorDiv => opS_fdiv
  | .Mod => opS_mod
  | .Pow => opS_pow
  | .MatMult | .Div | .LShift | .RShift | .BitOr | .BitXor | .BitAnd => by
    intro W Fr s σ H x y l1 l2 l d1 d2 d f1 f2 Q r o1 o2 hg
    simp only [binD] at hg
    cases hg

/-! ### comparisons -/
def D.key : D → Option Key
  | .int i => some (.inl i)
  | .str x => some (.inr x)
  | _ => none
def D.isNon : D → Bool
  | .non => true
  | _ => false
def getK {α : Type} (kvs : List (Key × α)) (k : Key) : Option α := (kvs.find? fun kv => decide (kv.1 = k)).map (·.2)
theorem getK_eq (kvs : List (Key × V)) (k : Key) : valV kvs k = getK kvs k := rfl
def cmpD : CmpOp → Nat × D → Nat × D → Option Bool
  | .Eq, (_, a), (_, b) => if a.fits deep && b.fits deep then some (PyData.eqv a.py b.py) else none
  | .NotEq, (_, a), (_, b) => if a.fits deep && b.fits deep then some (!PyData.eqv a.py b.py) else none
  | .Lt, (_, .int i), (_, .int j) => some (decide (i < j))
  | .LtE, (_, .int i), (_, .int j) => some (decide (i ≤ j))
  | .Gt, (_, .int i), (_, .int j) => some (decide (j < i))
  | .GtE, (_, .int i), (_, .int j) => some (decide (j ≤ i))
  | .Lt, (_, .str x), (_, .str y) => some (decide (x.cps.toList < y.cps.toList))
  | .LtE, (_, .str x), (_, .str y) => some (!decide (y.cps.toList < x.cps.toList))
  | .Is, (_, a), (_, .non) => some a.isNon
  | .IsNot, (_, a), (_, .non) => some (!a.isNon)
  | .In, (_, a), (_, .lst ys) => if a.fits deep && ys.all (D.fits deep) then some (ys.any fun y => PyData.eqv y.py a.py) else none
  | .NotIn, (_, a), (_, .lst ys) => if a.fits deep && ys.all (D.fits deep) then some (!ys.any fun y => PyData.eqv y.py a.py) else none
  | .In, (_, a), (_, .tup ys) => if a.fits deep && ys.all (D.fits deep) then some (ys.any fun y => PyData.eqv y.py a.py) else none
  | .NotIn, (_, a), (_, .tup ys) => if a.fits deep && ys.all (D.fits deep) then some (!ys.any fun y => PyData.eqv y.py a.py) else none
  | .In, (_, .str x), (_, .str z) => match x.cps.toList with
    | [c] => some (decide (c ∈ z.cps.toList))
    | _ => none
  | .NotIn, (_, .str x), (_, .str z) => match x.cps.toList with
    | [c] => some (!decide (c ∈ z.cps.toList))
    | _ => none
  | .In, (_, a), (_, .dct kvs) => a.key.map fun k => (getK kvs k).isSome
  | .NotIn, (_, a), (_, .dct kvs) => a.key.map fun k => !(getK kvs k).isSome
  | _, _, _ => none
def cmpP (op : CmpOp) (p q : Nat × D) : Option (Nat × D) := (cmpD op p q).map fun b => (0, .bl b)
theorem cmpP_some {op : CmpOp} {p q : Nat × D} {l : Nat} {d : D} (h : cmpP op p q = some (l, d)) : ∃ b, cmpD op p q = some b ∧ l = 0 ∧ d = .bl b := by
  unfold cmpP at h
  cases e : cmpD op p q with
  | none => rw [e] at h; cases h
  | some b => rw [e] at h; cases h; exact ⟨b, rfl, rfl, rfl⟩
theorem Own.fit {W : Wd} {H : Hp} {K : PySem.W.Frag} (fz : ∀ a o, W.fz a = some o → H a = some o) {l n : Nat} {v : V} {d : D} {f : List Addr} (h : Own W H l v d f) (hf : d.fits n = true) : Dp K H v d.py := (h.vw fz _).dp n hf
theorem anyPy (ys : List D) (p : PyData) : (D.pys ys).any (fun y => PyData.eqv y p) = ys.any fun y => PyData.eqv y.py p := by
  rw [D.pys_map, List.any_map]; rfl
theorem allPy {n : Nat} : ∀ {ys : List D}, ys.all (D.fits n) = true → PyData.depthAll (D.pys ys) ≤ n ∧ PyData.plainAll (D.pys ys) = true
  | [], _ => ⟨Nat.zero_le _, rfl⟩
  | y :: ys, h => by
    simp only [List.all_cons, Bool.and_eq_true] at h
    have h1 := D.fits_depth n y h.1
    have h2 := allPy h.2
    exact ⟨Nat.max_le.mpr ⟨h1.1, h2.1⟩, by show (y.py.plain && PyData.plainAll (D.pys ys)) = true; rw [h1.2, h2.2]; rfl⟩
/-- the room that is left for looking into data -/
theorem roomD {k : Nat} (h : Room k X.A) : X.A.units + 64 < cLine := h.units
theorem keyV {W : Wd} {v : V} {d : D} {k : Key} (h : Rp W v d) (e : d.key = some k) : v = kV k := by
  cases h <;> simp only [D.key] at e <;> cases e <;> rfl
theorem D.key_rp {W : Wd} {H : Hp} {l : Nat} {v : V} {d : D} {k : Key} {f : List Addr} (h : Own W H l v d f) (e : d.key = some k) : v = kV k := by
  refine keyV (h.rp ?_) e
  cases d <;> simp only [D.key] at e <;> first | trivial | cases e
theorem getK_rel {P : V → D → Prop} {k : Key} : ∀ {kvs' : List (Key × V)} {kvs : List (Key × D)}, kvs'.map (·.1) = kvs.map (·.1) → (∀ (i : Nat) (v : V) (d : D), (kvs'.map (·.2))[i]? = some v → (kvs.map (·.2))[i]? = some d → P v d) →
    (∀ d, getK kvs k = some d → ∃ v, getK kvs' k = some v ∧ P v d) ∧ (getK kvs k = none → getK kvs' k = none)
  | [], [], _, _ => ⟨fun d h => (by simp [getK] at h), fun _ => rfl⟩
  | [], _ :: _, e, _ => by cases e
  | _ :: _, [], e, _ => by cases e
  | (k1, v) :: kvs', (k2, d) :: kvs, e, h => by
    simp only [List.map_cons, List.cons.injEq] at e
    obtain ⟨e1, e2⟩ := e
    subst e1
    by_cases hk : k1 = k
    · have a1 : getK ((k1, d) :: kvs) k = some d := by simp [getK, hk]
      have a2 : getK ((k1, v) :: kvs') k = some v := by simp [getK, hk]
      rw [a1, a2]
      exact ⟨fun d' e => by cases e; exact ⟨v, rfl, h 0 v d rfl rfl⟩, fun e => by cases e⟩
    · have a1 : getK ((k1, d) :: kvs) k = getK kvs k := by simp [getK, hk]
      have a2 : getK ((k1, v) :: kvs') k = getK kvs' k := by simp [getK, hk]
      rw [a1, a2]
      exact getK_rel e2 fun i v d h1 h2 => h (i + 1) v d (by simpa using h1) (by simpa using h2)
theorem VwAll.at {H : Hp} : ∀ {vs : List V} {ds : List D}, VwAll H vs ds → ∀ (i : Nat) (v : V) (d : D), vs[i]? = some v → ds[i]? = some d → Vw H v d
  | _, _, .nil, i, v, d, h, _ => by simp at h
  | _, _, .cons r t, 0, v, d, h1, h2 => by simp at h1 h2; subst h1 h2; exact r
  | _, _, .cons _ t, i + 1, v, d, h1, h2 => t.at i v d (by simpa using h1) (by simpa using h2)
theorem RpAll.at {W : Wd} : ∀ {vs : List V} {ds : List D}, RpAll W vs ds → ∀ (i : Nat) (v : V) (d : D), vs[i]? = some v → ds[i]? = some d → Rp W v d
  | _, _, .nil, i, v, d, h, _ => by simp at h
  | _, _, .cons r t, 0, v, d, h1, h2 => by simp at h1 h2; subst h1 h2; exact r
  | _, _, .cons _ t, i + 1, v, d, h1, h2 => t.at i v d (by simpa using h1) (by simpa using h2)
theorem isSome_rel {H : Hp} {kvs' : List (Key × V)} {kvs : List (Key × D)} {k : Key} (e : kvs'.map (·.1) = kvs.map (·.1)) (h : VwAll H (kvs'.map (·.2)) (kvs.map (·.2))) : (valV kvs' k).isSome = (getK kvs k).isSome := by
  have q := getK_rel (P := Vw H) (k := k) e h.at
  rw [getK_eq]
  cases hd : getK kvs k with
  | none => rw [q.2 hd]; rfl
  | some d => obtain ⟨v, hv, _⟩ := q.1 d hd; rw [hv]; rfl
theorem sign_of {x : Str} {c : Nat} (h : x.cps.toList = [c]) : x = ⟨#[c]⟩ := by
  cases x with
  | mk cps =>
    have : cps = #[c] := by
      apply Array.ext'
      simpa using h
    rw [this]
theorem opS_cmp {k : Nat} (hr : Room k X.A) (op : CmpOp) : OpS X (compareOp op) (cmpP op) := by
  intro W Fr s σ H x y l1 l2 l d1 d2 d f1 f2 Q r o1 o2 hg q σ' pins sh v u I rx ry
  obtain ⟨b, hb, rfl, rfl⟩ := cmpP_some hg
  have fin : Q (.bl b) H := fin0 r q (.bl b)
  have hu := roomD hr
  have hu1 : X.A.units + 1 < cLine := by omega
  have dp : deep = 12 := rfl
  cases op with
  | Eq =>
    simp only [cmpD] at hb
    split at hb
    · rename_i hf
      simp only [Bool.and_eq_true] at hf
      cases hb
      obtain ⟨as, ra⟩ := Dp.reads I _ x v (o1.fit r.fzok hf.1) rx
      obtain ⟨bs, rb⟩ := Dp.reads I _ y u (o2.fit r.fzok hf.2) ry
      have q1 := D.fits_depth _ _ hf.1
      have q2 := D.fits_depth _ _ hf.2
      exact SeqAt.eq_plain ra rb q1.2 q2.2 (by have := q1.1; have := Nat.min_le_left d1.py.depth d2.py.depth; omega) ⟨.bl _, H, I, rfl, fin⟩
    · cases hb
  | NotEq =>
    simp only [cmpD] at hb
    split at hb
    · rename_i hf
      simp only [Bool.and_eq_true] at hf
      cases hb
      obtain ⟨as, ra⟩ := Dp.reads I _ x v (o1.fit r.fzok hf.1) rx
      obtain ⟨bs, rb⟩ := Dp.reads I _ y u (o2.fit r.fzok hf.2) ry
      have q1 := D.fits_depth _ _ hf.1
      have q2 := D.fits_depth _ _ hf.2
      exact SeqAt.ne_plain ra rb q1.2 q2.2 (by have := q1.1; have := Nat.min_le_left d1.py.depth d2.py.depth; omega) ⟨.bl _, H, I, rfl, fin⟩
    · cases hb
  | Lt =>
    cases d1 <;> cases d2 <;> simp only [cmpD] at hb <;> try (cases hb; done)
    · cases hb; cases o1.int; cases o2.int
      exact op_lt pins sh σ' H _ _ v u Q I rx ry ⟨_, _, rfl, rfl, fin⟩
    · cases hb; cases o1.str; cases o2.str
      exact op_lt_str pins sh σ' H _ _ v u Q I rx ry ⟨_, _, rfl, rfl, fin⟩
  | LtE =>
    cases d1 <;> cases d2 <;> simp only [cmpD] at hb <;> try (cases hb; done)
    · cases hb; cases o1.int; cases o2.int
      exact op_le pins sh σ' H _ _ v u Q I rx ry ⟨_, _, rfl, rfl, fin⟩
    · cases hb; cases o1.str; cases o2.str
      exact op_le_str pins sh σ' H _ _ v u Q I rx ry ⟨_, _, rfl, rfl, fin⟩
  | Gt =>
    cases d1 <;> cases d2 <;> simp only [cmpD] at hb <;> try (cases hb; done)
    cases hb; cases o1.int; cases o2.int
    exact op_gt pins sh σ' H _ _ v u Q I rx ry ⟨_, _, rfl, rfl, fin⟩
  | GtE =>
    cases d1 <;> cases d2 <;> simp only [cmpD] at hb <;> try (cases hb; done)
    cases hb; cases o1.int; cases o2.int
    exact op_ge pins sh σ' H _ _ v u Q I rx ry ⟨_, _, rfl, rfl, fin⟩
  | Is =>
    cases d2 <;> simp only [cmpD] at hb <;> try (cases hb; done)
    cases hb; cases o2.non
    refine op_isN pins sh σ' H _ _ v u Q I rx ry ⟨rfl, ?_⟩
    have : decide (x = V.non) = d1.isNon := by
      have vw := o1.vw r.fzok _
      cases vw <;> rfl
    rw [this]; exact fin
  | IsNot =>
    cases d2 <;> simp only [cmpD] at hb <;> try (cases hb; done)
    cases hb; cases o2.non
    refine op_notN pins sh σ' H _ _ v u Q I rx ry ⟨rfl, ?_⟩
    have : decide (x = V.non) = d1.isNon := by
      have vw := o1.vw r.fzok _
      cases vw <;> rfl
    rw [this]; exact fin
  | In =>
    cases d2 with
    | lst ys =>
      simp only [cmpD] at hb
      split at hb
      · rename_i hf
        simp only [Bool.and_eq_true] at hf
        cases hb
        obtain ⟨as, ra⟩ := Dp.reads I _ x v (o1.fit r.fzok hf.1) rx
        obtain ⟨bs, rb⟩ := Dp.reads I _ y u (o2.fit (n := deep + 1) r.fzok hf.2) ry
        have q1 := D.fits_depth _ _ hf.1
        have q2 := allPy hf.2
        refine SeqAt.in_list_data (xs := D.pys ys) rb ra q2.2 q1.2 (by have := q1.1; have := Nat.min_le_right (PyData.depthAll (D.pys ys)) d1.py.depth; omega) ?_
        rw [anyPy]
        exact ⟨.bl _, H, I, rfl, fin⟩
      · cases hb
    | tup ys =>
      simp only [cmpD] at hb
      split at hb
      · rename_i hf
        simp only [Bool.and_eq_true] at hf
        cases hb
        obtain ⟨as, ra⟩ := Dp.reads I _ x v (o1.fit r.fzok hf.1) rx
        obtain ⟨bs, rb⟩ := Dp.reads I _ y u (o2.fit (n := deep + 1) r.fzok hf.2) ry
        have q1 := D.fits_depth _ _ hf.1
        have q2 := allPy hf.2
        refine SeqAt.in_tuple_data (xs := D.pys ys) rb ra q2.2 q1.2 (by have := q1.1; have := Nat.min_le_right (PyData.depthAll (D.pys ys)) d1.py.depth; omega) ?_
        rw [anyPy]
        exact ⟨.bl _, H, I, rfl, fin⟩
      · cases hb
    | str z =>
      cases d1 <;> simp only [cmpD] at hb <;> try (cases hb; done)
      split at hb
      · rename_i c hc
        cases hb; cases o1.str; cases o2.str
        rw [sign_of hc] at rx
        exact op_in_sign pins sh σ' H _ _ v u Q I rx ry ⟨c, z, rfl, rfl, fin⟩
      · cases hb
    | dct kvs =>
      have vw := o2.vw r.fzok _
      cases vw with
      | dct e ek hv =>
        have ea : u = Value.ref _ := ry
        subst ea
        have hb' : (d1.key.map fun k => (getK kvs k).isSome) = some b := by cases d1 <;> exact hb
        cases hk : d1.key with
        | none => rw [hk] at hb'; cases hb'
        | some k =>
          rw [hk] at hb'; cases hb'
          have ev := D.key_rp o1 hk
          subst ev
          refine d_in hu1 I (DGet.k e) rx fun s3 I3 => ⟨.bl _, H, I3, rfl, ?_⟩
          rw [isSome_rel ek hv]; exact fin
    | non => cases d1 <;> cases hb
    | bl _ => cases d1 <;> cases hb
    | int _ => cases d1 <;> cases hb
    | cell _ => cases d1 <;> cases hb
  | NotIn =>
    cases d2 with
    | lst ys =>
      simp only [cmpD] at hb
      split at hb
      · rename_i hf
        simp only [Bool.and_eq_true] at hf
        cases hb
        obtain ⟨as, ra⟩ := Dp.reads I _ x v (o1.fit r.fzok hf.1) rx
        obtain ⟨bs, rb⟩ := Dp.reads I _ y u (o2.fit (n := deep + 1) r.fzok hf.2) ry
        have q1 := D.fits_depth _ _ hf.1
        have q2 := allPy hf.2
        refine SeqAt.notIn_list_data (xs := D.pys ys) rb ra q2.2 q1.2 (by have := q1.1; have := Nat.min_le_right (PyData.depthAll (D.pys ys)) d1.py.depth; omega) ?_
        rw [anyPy]
        exact ⟨.bl _, H, I, rfl, fin⟩
      · cases hb
    | tup ys =>
      simp only [cmpD] at hb
      split at hb
      · rename_i hf
        simp only [Bool.and_eq_true] at hf
        cases hb
        obtain ⟨as, ra⟩ := Dp.reads I _ x v (o1.fit r.fzok hf.1) rx
        obtain ⟨bs, rb⟩ := Dp.reads I _ y u (o2.fit (n := deep + 1) r.fzok hf.2) ry
        have q1 := D.fits_depth _ _ hf.1
        have q2 := allPy hf.2
        refine SeqAt.notIn_tuple_data (xs := D.pys ys) rb ra q2.2 q1.2 (by have := q1.1; have := Nat.min_le_right (PyData.depthAll (D.pys ys)) d1.py.depth; omega) ?_
        rw [anyPy]
        exact ⟨.bl _, H, I, rfl, fin⟩
      · cases hb
    | str z =>
      cases d1 <;> simp only [cmpD] at hb <;> try (cases hb; done)
      split at hb
      · rename_i c hc
        cases hb; cases o1.str; cases o2.str
        rw [sign_of hc] at rx
        exact op_notIn_sign pins sh σ' H _ _ v u Q I rx ry ⟨c, z, rfl, rfl, fin⟩
      · cases hb
    | dct kvs =>
      have vw := o2.vw r.fzok _
      cases vw with
      | dct e ek hv =>
        have ea : u = Value.ref _ := ry
        subst ea
        have hb' : (d1.key.map fun k => !(getK kvs k).isSome) = some b := by cases d1 <;> exact hb
        cases hk : d1.key with
        | none => rw [hk] at hb'; cases hb'
        | some k =>
          rw [hk] at hb'; cases hb'
          have ev := D.key_rp o1 hk
          subst ev
          refine d_notIn hu1 I (DGet.k e) rx fun s3 I3 => ⟨.bl _, H, I3, rfl, ?_⟩
          rw [isSome_rel ek hv]; exact fin
    | non => cases d1 <;> cases hb
    | bl _ => cases d1 <;> cases hb
    | int _ => cases d1 <;> cases hb
    | cell _ => cases d1 <;> cases hb
end
end G
-- part Fw6
set_option Elab.async false
set_option linter.all false
set_option maxRecDepth 100000
set_option maxHeartbeats 4000000
set_option autoImplicit false
/-! Framework 6: comparisons as expressions and tests, and, or, not, if; subscripts, slices. -/
namespace G
open PySem PySem.Spec PyProof.Rows L2
variable [TabC]

section
variable {X : Cx}
/-! ### comparisons -/
def toB : R (Nat × D) → R Bool
  | .ok (_, .bl b) s => .ok b s
  | .ok _ _ => .bad
  | .bad => .bad
  | .err x s => .err x s
abbrev eCmp (op : CmpOp) (a b : EO) : E := eOp (cmpP op) a b
def tCmp (op : CmpOp) (a b : EO) : ET := fun s => toB (eCmp op a b s)
theorem toB_ok {r : R (Nat × D)} {b : Bool} {s : S} (h : toB r = .ok b s) : ∃ l, r = .ok (l, .bl b) s := by
  cases r with
  | bad => cases h
  | err x s' => cases h
  | ok p s' =>
    obtain ⟨l, d⟩ := p
    cases d <;> cases h
    exact ⟨l, rfl⟩
theorem den_cmp {k : Nat} {op : CmpOp} {ma mb : EO} {a b : Expr} {pos : Pos} (hr : Room k X.A) (hm : behindInMarks op b = false) (ha : DenO X ma a) (hb : DenO X mb b) : DenE X (eCmp op ma mb) (.Compare a [op] [b] pos) := by
  intro W Fr s σ H Q r l d s' h q
  exact .of (pe_cmpR (opRU _) (pU a) (pU b) hm) (opS_use (opS_cmp hr op) ha hb r h q)
theorem Rel.blOf {W : Wd} {Fr : Addr → Prop} {s : S} {σ : L2.St} {H : Hp} {l : Nat} {v : V} {b : Bool} (r : Rel W Fr [(l, v, .bl b)] s σ H) : v = .bl b ∧ Rel W Fr [] s σ H := by
  refine ⟨?_, r.untmp⟩
  obtain ⟨f1, f2, f3, h1, h2, h3, f⟩ := r
  obtain ⟨g, f3, rfl, o, h3⟩ := h3.uncons
  exact o.bl
theorem den_tCmp {k : Nat} {op : CmpOp} {ma mb : EO} {a b : Expr} {pos : Pos} (hr : Room k X.A) (hm : behindInMarks op b = false) (ha : DenO X ma a) (hb : DenO X mb b) : DenT X (tCmp op ma mb) (.Compare a [op] [b] pos) := by
  intro W Fr s σ H Q r c s' h q
  obtain ⟨l, h⟩ := toB_ok h
  refine .of (pt_cmpR (opRU _) (pU a) (pU b) hm) ?_
  refine opS_use (opS_cmp hr op) ha hb r h fun W' v H' le ag r' => ?_
  obtain ⟨rfl, r2⟩ := r'.blOf
  exact ⟨c, rfl, q W' H' le ag r2⟩
/-- a op b op' c -/
def tChain2 (op op' : CmpOp) (a b c : EO) : ET := fun s => (a s).bind fun oa s1 => (b s1).bind fun ob s2 => match s2.look oa, s2.look ob with
  | some p, some q => (match cmpD op p q with
    | some true => (c s2).bind fun oc s3 => (match s3.look ob, s3.look oc with
      | some p, some q => R.opt (cmpD op' p q) s3
      | _, _ => .bad)
    | some false => .ok false s2
    | none => .bad)
  | _, _ => .bad
theorem chain_use {k : Nat} {op op' : CmpOp} {ma mb mc : EO} {a b c : Expr} (hr : Room k X.A) (ha : DenO X ma a) (hb : DenO X mb b) (hc : DenO X mc c)
    {W : Wd} {Fr : Addr → Prop} {s : S} {σ : L2.St} {H : Hp} {Q : VK} (r : Rel W Fr [] s σ H) {k : Bool} {s' : S} (hm : tChain2 op op' ma mb mc s = .ok k s')
    (q : ∀ (W' : Wd) (H' : Hp), Wle W W' → Agree Fr H H' → Rel W' Fr [] s' σ H' → Q (.bl k) H') :
    tChain (rU X (compareOp op)) (rU X (compareOp op')) (UE X a) (UE X b) (UE X c) σ H Q := by
  obtain ⟨oa, s1, e1, hm⟩ := R.bind_ok hm
  obtain ⟨ob, s2, e2, hm⟩ := R.bind_ok hm
  split at hm
  · rename_i p1 p2 ea eb
    obtain ⟨l1, d1⟩ := p1
    obtain ⟨l2, d2⟩ := p2
    refine ha W Fr s σ H _ r oa s1 e1 fun W1 x H1 le1 ag1 r1 or1 => ?_
    refine hb W1 Fr s1 σ H1 _ r1 ob s2 e2 fun W2 y H2 le2 ag2 r2 or2 => ?_
    obtain ⟨f1, o1⟩ := r2.look (or1.mono le2) ea
    obtain ⟨f2, o2⟩ := r2.look or2 eb
    split at hm
    · rename_i ec
      refine opS_cmp hr op W2 Fr s2 σ H2 x y l1 l2 0 d1 d2 (.bl true) f1 f2 _ r2 o1 o2 (by unfold cmpP; rw [ec]; rfl) fun W3 z H3 le3 ag3 r3 => ?_
      obtain ⟨rfl, r3b⟩ := r3.blOf
      refine ⟨true, rfl, ?_⟩
      rw [if_pos rfl]
      obtain ⟨oc, s3, e3, hm⟩ := R.bind_ok hm
      refine hc W3 Fr s2 σ H3 _ r3b oc s3 e3 fun W4 w H4 le4 ag4 r4 or4 => ?_
      split at hm
      · rename_i q1 q2 eb' ec'
        obtain ⟨l3, d3⟩ := q1
        obtain ⟨l4, d4⟩ := q2
        obtain ⟨eg, es⟩ := R.opt_ok hm
        subst es
        obtain ⟨f3, o3⟩ := r4.look ((or2.mono le3).mono le4) eb'
        obtain ⟨f4, o4⟩ := r4.look or4 ec'
        refine opS_cmp hr op' W4 Fr s3 σ H4 y w l3 l4 0 d3 d4 (.bl k) f3 f4 _ r4 o3 o4 (by unfold cmpP; rw [eg]; rfl) fun W5 z H5 le5 ag5 r5 => ?_
        obtain ⟨rfl, r5b⟩ := r5.blOf
        exact q W5 H5 (((le1.trans le2).trans (le3.trans le4)).trans le5) (((ag1.trans ag2).trans (ag3.trans ag4)).trans ag5) r5b
      · cases hm
    · rename_i ec
      cases hm
      refine opS_cmp hr op W2 Fr _ σ H2 x y l1 l2 0 d1 d2 (.bl false) f1 f2 _ r2 o1 o2 (by unfold cmpP; rw [ec]; rfl) fun W3 z H3 le3 ag3 r3 => ?_
      obtain ⟨rfl, r3b⟩ := r3.blOf
      refine ⟨false, rfl, ?_⟩
      rw [if_neg Bool.false_ne_true]
      exact q W3 H3 ((le1.trans le2).trans le3) ((ag1.trans ag2).trans ag3) r3b
    · cases hm
  · cases hm
theorem den_tChain {k : Nat} {op op' : CmpOp} {ma mb mc : EO} {a b c : Expr} {pos : Pos} (hr : Room k X.A) (hm : lastMarks [op, op'] [b, c] = false) (ha : DenO X ma a) (hb : DenO X mb b) (hc : DenO X mc c) : DenT X (tChain2 op op' ma mb mc) (.Compare a [op, op'] [b, c] pos) := by
  intro W Fr s σ H Q r b' s' h q
  refine .of (pt_chain (opRU _) (opRU _) (pU a) (pU b) (pU c) hm) ?_
  exact chain_use hr ha hb hc r h fun W' H' le ag r' => ⟨b', rfl, q W' H' le ag r'⟩
/-- a test as a value -/
def eT (m : ET) : EV := fun s => (m s).bind fun b s1 => .ok (.bl b) s1
theorem den_eChain {k : Nat} {op op' : CmpOp} {ma mb mc : EO} {a b c : Expr} {pos : Pos} (hr : Room k X.A) (hm : lastMarks [op, op'] [b, c] = false) (ha : DenO X ma a) (hb : DenO X mb b) (hc : DenO X mc c) : DenV X (eT (tChain2 op op' ma mb mc)) (.Compare a [op, op'] [b, c] pos) := by
  intro W Fr s σ H Q r d s' h q
  obtain ⟨b', s1, h, e2⟩ := R.bind_ok h
  cases e2
  refine .of (pe_chain (opRU _) (opRU _) (pU a) (pU b) (pU c) hm) ?_
  exact chain_use hr ha hb hc r h fun W' H' le ag r' => q W' _ H' le ag r' (.bl _)

/-! ### and, or, not -/
def UW (X : Cx) (e : Expr) : TT := fun σ H Q => ∀ (whole : Sem Value) (pins : List (Addr × Obj)) (sh : Shared), Inv X pins σ H sh → wpAny (model X.prog X.w) X.A (isTrue e X.env whole) (TP X pins σ Q) X.xe sh
theorem pUW (e : Expr) : PW X e (UW X e) := ⟨fun wh pins s σ H Q I h => h wh pins s I⟩
def DenW (X : Cx) (m : ET) (e : Expr) : Prop := ∀ (W : Wd) (Fr : Addr → Prop) (s : S) (σ : L2.St) (H : Hp) (Q : Bool → Hp → Prop), Rel W Fr [] s σ H → ∀ (b : Bool) (s' : S), m s = .ok b s' →
  (∀ (W' : Wd) (H' : Hp), Wle W W' → Agree Fr H H' → Rel W' Fr [] s' σ H' → Q b H') → UW X e σ H Q
theorem DenW.t {m : ET} {e : Expr} (h : DenW X m e) : DenT X m e := fun W Fr s σ H Q r b s' hm q pins sh I => h W Fr s σ H Q r b s' hm q _ pins sh I
def tAnd2 (a b : ET) : ET := fun s => (a s).bind fun c s1 => if c then b s1 else .ok false s1
def tOr2 (a b : ET) : ET := fun s => (a s).bind fun c s1 => if c then .ok true s1 else b s1
def tNot1 (a : ET) : ET := fun s => (a s).bind fun c s1 => .ok (!c) s1
theorem den_and1 {m : ET} {a : Expr} {pos : Pos} (h : DenT X m a) : DenW X m (.BoolOp .And [a] pos) := by
  intro W Fr s σ H Q r b s' hm q wh pins sh I
  exact (pw_and1 (pUT a)).run wh pins sh σ H Q I (h W Fr s σ H Q r b s' hm q)
theorem den_or1 {m : ET} {a : Expr} {pos : Pos} (h : DenT X m a) : DenW X m (.BoolOp .Or [a] pos) := by
  intro W Fr s σ H Q r b s' hm q wh pins sh I
  exact (pw_or1 (pUT a)).run wh pins sh σ H Q I (h W Fr s σ H Q r b s' hm q)
theorem den_and {ma mb : ET} {a b : Expr} {rest : List Expr} {pos : Pos} (ha : DenT X ma a) (hb : DenW X mb (.BoolOp .And (b :: rest) pos)) : DenW X (tAnd2 ma mb) (.BoolOp .And (a :: b :: rest) pos) := by
  intro W Fr s σ H Q r c s' hm q wh pins sh I
  obtain ⟨c1, s1, e1, hm⟩ := R.bind_ok hm
  refine (pw_and (pUT a) (pUW _)).run wh pins sh σ H Q I ?_
  refine ha W Fr s σ H _ r c1 s1 e1 fun W1 H1 le1 ag1 r1 => ?_
  cases c1 with
  | true =>
    rw [if_pos rfl] at hm ⊢
    exact hb W1 Fr s1 σ H1 Q r1 c s' hm fun W2 H2 le2 ag2 r2 => q W2 H2 (le1.trans le2) (ag1.trans ag2) r2
  | false =>
    rw [if_neg Bool.false_ne_true] at hm ⊢
    cases hm
    exact q W1 H1 le1 ag1 r1
theorem den_or {ma mb : ET} {a b : Expr} {rest : List Expr} {pos : Pos} (ha : DenT X ma a) (hb : DenW X mb (.BoolOp .Or (b :: rest) pos)) : DenW X (tOr2 ma mb) (.BoolOp .Or (a :: b :: rest) pos) := by
  intro W Fr s σ H Q r c s' hm q wh pins sh I
  obtain ⟨c1, s1, e1, hm⟩ := R.bind_ok hm
  refine (pw_or (pUT a) (pUW _)).run wh pins sh σ H Q I ?_
  refine ha W Fr s σ H _ r c1 s1 e1 fun W1 H1 le1 ag1 r1 => ?_
  cases c1 with
  | true =>
    rw [if_pos rfl] at hm ⊢
    cases hm
    exact q W1 H1 le1 ag1 r1
  | false =>
    rw [if_neg Bool.false_ne_true] at hm ⊢
    exact hb W1 Fr s1 σ H1 Q r1 c s' hm fun W2 H2 le2 ag2 r2 => q W2 H2 (le1.trans le2) (ag1.trans ag2) r2
theorem den_not {m : ET} {a : Expr} {pos : Pos} (h : DenT X m a) : DenT X (tNot1 m) (.UnaryOp .Not a pos) := by
  intro W Fr s σ H Q r c s' hm q
  obtain ⟨c1, s1, e1, hm⟩ := R.bind_ok hm
  cases hm
  refine .of (pt_not (pUT a)) ?_
  exact h W Fr s σ H _ r c1 s' e1 fun W1 H1 le1 ag1 r1 => q W1 H1 le1 ag1 r1
/-- .. as values, of bools -/
def bOf (m : EV) : ET := fun s => (m s).bind fun d s1 => match d with
  | .bl b => .ok b s1
  | _ => .bad
theorem bOf_ok {m : EV} {s s' : S} {b : Bool} (h : bOf m s = .ok b s') : m s = .ok (.bl b) s' := by
  obtain ⟨d, s1, e1, h⟩ := R.bind_ok h
  cases d <;> cases h
  exact e1
def eAnd2 (a b : EV) : EV := fun s => (bOf a s).bind fun c s1 => if c then b s1 else .ok (.bl false) s1
def eOr2 (a b : EV) : EV := fun s => (bOf a s).bind fun c s1 => if c then .ok (.bl true) s1 else b s1
def eNot1 (a : EV) : EV := fun s => (bOf a s).bind fun c s1 => .ok (.bl (!c)) s1
theorem den_one {op : BoolOp} {m : EV} {a : Expr} {pos : Pos} (h : DenV X m a) : DenV X m (.BoolOp op [a] pos) := fun W Fr s σ H Q r d s' hm q => .of (pe_one (pU a)) (h W Fr s σ H Q r d s' hm q)
theorem den_eAnd {ma mb : EV} {a b : Expr} {rest : List Expr} {pos : Pos} (ha : DenV X ma a) (hb : DenV X mb (.BoolOp .And (b :: rest) pos)) : DenV X (eAnd2 ma mb) (.BoolOp .And (a :: b :: rest) pos) := by
  intro W Fr s σ H Q r d s' hm q
  obtain ⟨c1, s1, e1, hm⟩ := R.bind_ok hm
  refine .of (pe_and (pU a) (pU _)) ?_
  refine ha W Fr s σ H _ r (.bl c1) s1 (bOf_ok e1) fun W1 v H1 le1 ag1 r1 rp => ?_
  cases rp
  refine ⟨c1, rfl, ?_⟩
  cases c1 with
  | true =>
    rw [if_pos rfl] at hm ⊢
    exact hb W1 Fr s1 σ H1 Q r1 d s' hm fun W2 v H2 le2 ag2 r2 => q W2 v H2 (le1.trans le2) (ag1.trans ag2) r2
  | false =>
    rw [if_neg Bool.false_ne_true] at hm ⊢
    cases hm
    exact q W1 _ H1 le1 ag1 r1 (.bl false)
theorem den_eOr {ma mb : EV} {a b : Expr} {rest : List Expr} {pos : Pos} (ha : DenV X ma a) (hb : DenV X mb (.BoolOp .Or (b :: rest) pos)) : DenV X (eOr2 ma mb) (.BoolOp .Or (a :: b :: rest) pos) := by
  intro W Fr s σ H Q r d s' hm q
  obtain ⟨c1, s1, e1, hm⟩ := R.bind_ok hm
  refine .of (pe_or (pU a) (pU _)) ?_
  refine ha W Fr s σ H _ r (.bl c1) s1 (bOf_ok e1) fun W1 v H1 le1 ag1 r1 rp => ?_
  cases rp
  refine ⟨c1, rfl, ?_⟩
  cases c1 with
  | true =>
    rw [if_pos rfl] at hm ⊢
    cases hm
    exact q W1 _ H1 le1 ag1 r1 (.bl true)
  | false =>
    rw [if_neg Bool.false_ne_true] at hm ⊢
    exact hb W1 Fr s1 σ H1 Q r1 d s' hm fun W2 v H2 le2 ag2 r2 => q W2 v H2 (le1.trans le2) (ag1.trans ag2) r2
theorem den_eNot {m : EV} {a : Expr} {pos : Pos} (h : DenV X m a) : DenV X (eNot1 m) (.UnaryOp .Not a pos) := by
  intro W Fr s σ H Q r d s' hm q
  obtain ⟨c1, s1, e1, hm⟩ := R.bind_ok hm
  cases hm
  refine .of (pe_not (pU a)) ?_
  refine h W Fr s σ H _ r (.bl c1) s' (bOf_ok e1) fun W1 v H1 le1 ag1 r1 rp => ?_
  cases rp
  exact ⟨c1, rfl, q W1 _ H1 le1 ag1 r1 (.bl _)⟩
/-- a if t else b -/
def eIf (t : ET) (a b : E) : E := fun s => (t s).bind fun c s1 => if c then a s1 else b s1
theorem den_if {t : ET} {ma mb : E} {c a b : Expr} {pos : Pos} (hc : DenT X t c) (ha : DenE X ma a) (hb : DenE X mb b) : DenE X (eIf t ma mb) (.IfExp c a b pos) := by
  intro W Fr s σ H Q r l d s' hm q
  obtain ⟨k, s1, e1, hm⟩ := R.bind_ok hm
  refine .of (pe_ifExp (pUT c) (pU a) (pU b)) ?_
  refine hc W Fr s σ H _ r k s1 e1 fun W1 H1 le1 ag1 r1 => ?_
  cases k with
  | true =>
    rw [if_pos rfl] at hm ⊢
    exact ha W1 Fr s1 σ H1 Q r1 l d s' hm fun W2 v H2 le2 ag2 r2 => q W2 v H2 (le1.trans le2) (ag1.trans ag2) r2
  | false =>
    rw [if_neg Bool.false_ne_true] at hm ⊢
    exact hb W1 Fr s1 σ H1 Q r1 l d s' hm fun W2 v H2 le2 ag2 r2 => q W2 v H2 (le1.trans le2) (ag1.trans ag2) r2
/-- a value's truth as a test -/
def truD : D → Option Bool
  | .non => some false
  | .bl b => some b
  | .int i => some (i != 0)
  | .str x => if szOk x.length then some ((x.length : Int) != 0) else none
  | .tup xs => some (!xs.isEmpty)
  | .lst xs => some (!xs.isEmpty)
  | .dct kvs => some (!kvs.isEmpty)
  | .cell _ => none
def tTru (m : EO) : ET := fun s => (m s).bind fun o s1 => match s1.look o with
  | some (_, d) => R.opt (truD d) s1
  | none => .bad
def plainTest : Expr → Bool
  | .UnaryOp .Not _ _ => false
  | .BoolOp _ _ _ => false
  | .IfExp _ _ _ _ => false
  | .Compare _ _ _ _ => false
  | _ => true
theorem plainTest_eq {a : Expr} {env : Env} (h : plainTest a = true) (whole : Sem Value) : isTrue a env whole = (do let v ← whole; standAt a.pos; holding [v] (truthy v)) := by
  cases a with
  | UnaryOp op _ _ => cases op <;> first | rfl | cases h
  | _ => first | rfl | cases h
theorem empty_len {α β : Type} {xs : List α} {ys : List β} (h : xs.length = ys.length) : (!xs.isEmpty) = !ys.isEmpty := by
  cases xs <;> cases ys <;> first | rfl | cases h
theorem den_tru {m : EO} {a : Expr} (ht : plainTest a = true) (h : DenO X m a) : DenT X (tTru m) a := by
  intro W Fr s σ H Q r b s' hm q
  obtain ⟨o, s1, e1, hm⟩ := R.bind_ok hm
  split at hm
  · rename_i l d ed
    obtain ⟨eb, es⟩ := R.opt_ok hm
    subst es
    refine .of (pt_truth (pU a) (plainTest_eq ht)) ?_
    refine h W Fr s σ H _ r o s1 e1 fun W1 v H1 le1 ag1 r1 or1 => ?_
    have vw := r1.lookV or1 ed
    refine ⟨b, ?_, q W1 H1 le1 ag1 r1⟩
    cases vw with
    | non => cases eb; exact rfl
    | bl b => cases eb; exact rfl
    | int i => cases eb; exact rfl
    | str x =>
      simp only [truD] at eb
      split at eb
      · rename_i hz; cases eb; exact ⟨szOk.le hz, rfl⟩
      · cases eb
    | tup e hv =>
      simp only [truD] at eb
      cases eb
      exact .inr (.inl ⟨_, SqT.of e, (empty_len hv.length).symm⟩)
    | lst e hv =>
      simp only [truD] at eb
      cases eb
      exact .inl ⟨_, .inl e, (empty_len hv.length).symm⟩
    | dct e ek hv =>
      simp only [truD] at eb
      cases eb
      refine .inr (.inr ⟨_, e, ?_⟩)
      have := congrArg List.length ek
      simp only [List.length_map] at this
      exact (empty_len this).symm
    | cell => simp only [truD] at eb; cases eb
  · cases hm
end
end G
-- part Fw7
set_option Elab.async false
set_option linter.all false
set_option maxRecDepth 100000
set_option maxHeartbeats 4000000
set_option autoImplicit false
/-! Framework 7: cells; subscripts and slices. -/
namespace G
open PySem PySem.Spec PyProof.Rows L2
variable [TabC]

/-! ### cells -/
theorem Cells.lens {W : Wd} {H : Hp} : ∀ {es : List (Nat × D)} {as f : List Addr}, Cells W H es as f → ∀ {n l : Nat} {d : D}, es[n]? = some (l, d) →
    ∃ a g h, as[n]? = some a ∧ Own W H l (.ref a) d g ∧ f.Perm (g ++ h) ∧
      ∀ (W' : Wd) (H' : Hp) (l' : Nat) (d' : D) (g' : List Addr), Wle W W' → (∀ b ∈ h, H' b = H b) → Own W' H' l' (.ref a) d' g' → ∃ f', Cells W' H' (es.set n (l', d')) as f' ∧ f'.Perm (g' ++ h)
  | _, _, _, .nil, n, l, d, e => by simp at e
  | _, _, _, .cons (a := a) (f := g) (fs := h) o t, 0, l, d, e => by
    simp at e; obtain ⟨rfl, rfl⟩ := e
    exact ⟨a, g, h, rfl, o, .refl _, fun W' H' l' d' g' le k o' => ⟨g' ++ h, .cons o' (t.mono le k), .refl _⟩⟩
  | _, _, _, .cons (f := f0) (fs := fs) o0 t, n + 1, l, d, e => by
    obtain ⟨a, g, h, ea, o, p, k⟩ := t.lens (n := n) (l := l) (d := d) (by simpa using e)
    refine ⟨a, g, f0 ++ h, by simpa using ea, o, ?_, fun W' H' l' d' g' le kk o' => ?_⟩
    · calc (f0 ++ fs).Perm (f0 ++ (g ++ h)) := p.append_left _
        _ = (f0 ++ g ++ h) := (List.append_assoc ..).symm
        List.Perm _ (g ++ f0 ++ h) := (List.perm_append_comm).append_right _
        _ = g ++ (f0 ++ h) := List.append_assoc ..
    · obtain ⟨f', c, p'⟩ := k W' H' l' d' g' le (fun b hb => kk b (List.mem_append_right _ hb)) o'
      refine ⟨f0 ++ f', .cons (o0.mono le _ fun b hb => kk b (List.mem_append_left _ hb)) c, ?_⟩
      calc (f0 ++ f').Perm (f0 ++ (g' ++ h)) := p'.append_left _
        _ = (f0 ++ g' ++ h) := (List.append_assoc ..).symm
        List.Perm _ (g' ++ f0 ++ h) := (List.perm_append_comm).append_right _
        _ = g' ++ (f0 ++ h) := List.append_assoc ..
section
variable {W : Wd} {Fr : Addr → Prop} {ts : List (Nat × V × D)} {s : S} {σ : L2.St} {H : Hp}
theorem Rel.cellAt (r : Rel W Fr ts s σ H) {n l : Nat} {d : D} (e : s.st[n]? = some (l, d)) : ∃ a f, W.cs[n]? = some a ∧ Own W H l (.ref a) d f := by
  obtain ⟨f1, f2, f3, h1, h2, h3, f⟩ := r
  obtain ⟨a, g, h, ea, o, _⟩ := h2.lens e
  exact ⟨a, g, ea, o⟩

/-! ### the children of a name's value are frozen -/
def S.flat (s : S) : O → S
  | .val _ => s
  | .slot i => match s.env[i]? with
    | some (some (_ + 2, d)) => { s with env := s.env.set i (some (1, d)) }
    | _ => s
theorem Own.flat {l : Nat} {v : V} {d : D} {f : List Addr} (h : Own W H (l + 2) v d f) (fz : ∀ a o, W.fz a = some o → H a = some o) : ∃ f1 f2, f = f1 ++ f2 ∧ Own (W.freeze H f2) H 1 v d f1 := by
  cases d with
  | lst ds =>
    obtain ⟨a, vs, fs, e, q, r, ef⟩ := h
    refine ⟨[a], fs, ef, a, vs, [], e, q, rows0 ?_, rfl⟩
    exact r.frozen fun v d g hs o => Own.frozen (Wd.freeze_le fz) _ o fun b hb => Wd.freeze_at (hs b hb)
  | dct kvs =>
    obtain ⟨a, vs, fs, e, q, q2, r, ef⟩ := h
    refine ⟨[a], fs, ef, a, vs, [], e, q, q2, rows0 ?_, rfl⟩
    exact r.frozen fun v d g hs o => Own.frozen (Wd.freeze_le fz) _ o fun b hb => Wd.freeze_at (hs b hb)
  | non => exact ⟨[], [], h.2, h.1.mono (Wd.freeze_le fz), rfl⟩
  | bl _ => exact ⟨[], [], h.2, h.1.mono (Wd.freeze_le fz), rfl⟩
  | int _ => exact ⟨[], [], h.2, h.1.mono (Wd.freeze_le fz), rfl⟩
  | str _ => exact ⟨[], [], h.2, h.1.mono (Wd.freeze_le fz), rfl⟩
  | tup _ => exact ⟨[], [], h.2, h.1.mono (Wd.freeze_le fz), rfl⟩
  | cell _ => exact ⟨[], [], h.2, h.1.mono (Wd.freeze_le fz), rfl⟩
theorem Rel.flat (r : Rel W Fr ts s σ H) (o : O) : ∃ W', Wle W W' ∧ Rel W' Fr ts (s.flat o) σ H := by
  cases o with
  | val d => exact ⟨W, .refl, r⟩
  | slot i =>
    show ∃ W', Wle W W' ∧ Rel W' Fr ts (match s.env[i]? with
      | some (some (_ + 2, d)) => { s with env := s.env.set i (some (1, d)) }
      | _ => s) σ H
    split
    · rename_i l d e
      obtain ⟨f1, f2, f3, h1, h2, h3, f⟩ := r
      obtain ⟨v, g, rr, ev, ow, h1', p⟩ := h1.take e
      obtain ⟨g1, g2, rfl, ow1⟩ := ow.flat f.fz
      have le : Wle W (W.freeze H g2) := Wd.freeze_le f.fz
      have hl : i < s.env.length := (List.getElem?_eq_some_iff.mp e).1
      obtain ⟨fp, hs, pf⟩ := (h1'.mono le fun _ _ => rfl).put (H := H) ow1 (set_none_at hl)
      have es : (s.env.set i none).set i (some (1, d)) = s.env.set i (some (1, d)) := List.set_set ..
      have eσ : σ.set i (some v) = σ := set_self ev
      rw [es, eσ] at hs
      refine ⟨_, le, fp, f2, f3, hs, h2.mono le fun _ _ => rfl, h3.mono le fun _ _ => rfl, ?_⟩
      have pp : (f1 ++ f2 ++ f3).Perm (g2 ++ (g1 ++ rr ++ f2 ++ f3)) := by
        calc (f1 ++ f2 ++ f3).Perm (((g1 ++ g2) ++ rr) ++ f2 ++ f3) := (p.append_right f2).append_right f3
          List.Perm _ (((g2 ++ g1) ++ rr) ++ f2 ++ f3) := (((List.perm_append_comm).append_right rr).append_right f2).append_right f3
          _ = g2 ++ (g1 ++ rr ++ f2 ++ f3) := by simp [List.append_assoc]
      exact (Fit.freeze (f := g2) (f.perm pp)).perm ((pf.symm.append_right f2).append_right f3)
    · exact ⟨W, .refl, r⟩
end

/-! ### subscripts -/
def subD : Nat × D → D → Option D
  | (l, .lst xs), .int i => if l ≤ 1 then atI xs i else none
  | (_, .tup xs), .int i => atI xs i
  | (_, .str z), .int i => if szOk z.length then (atI z.cps.toList i).map fun c => .str ⟨#[c]⟩ else none
  | (l, .dct kvs), k => if l ≤ 1 then k.key.bind fun k => getK kvs k else none
  | _, _ => none
/-- a cell stands for what it holds -/
def S.deref (s : S) : Nat × D → Option (Nat × D)
  | (_, .cell n) => s.st[n]?
  | p => some p
theorem Rel.derefOwn {W : Wd} {Fr : Addr → Prop} {ts : List (Nat × V × D)} {s : S} {σ : L2.St} {H : Hp} (r : Rel W Fr ts s σ H) {l l' : Nat} {c c' : D} {v : V} {f : List Addr} (o : Own W H l v c f) (e : s.deref (l, c) = some (l', c')) : ∃ f', Own W H l' v c' f' := by
  cases c with
  | cell n =>
    obtain ⟨a, g, ea, ow⟩ := r.cellAt (show s.st[n]? = some (l', c') from e)
    have h := o.rp trivial
    cases h with
    | cell e2 =>
      rw [ea] at e2
      cases e2
      exact ⟨g, ow⟩
  | _ => cases e; exact ⟨f, o⟩
def eSub (a b : EO) : EV := fun s => (a s).bind fun oa s1 => (b s1).bind fun ob s2 =>
  match (s2.flat oa).look oa, (s2.flat oa).look ob with
  | some p, some (_, i) => (match (s2.flat oa).deref p with
    | some p => R.opt (subD p i) (s2.flat oa)
    | none => .bad)
  | _, _ => .bad
theorem atI_rel {W : Wd} {vs : List V} {ds : List D} {i : Int} {d : D} (h : RpAll W vs ds) (e : atI ds i = some d) : ∃ v, atI vs i = some v ∧ Rp W v d := by
  unfold atI at e ⊢
  rw [h.length]
  cases q : ixN ds.length i with
  | none => rw [q] at e; cases e
  | some j =>
    rw [q] at e
    exact h.get e
def notSlice : Expr → Bool
  | .Slice _ _ _ _ => false
  | _ => true
theorem notSlice_ix {b : Expr} (h : notSlice b = true) : PlainIx b := by
  intro o i
  cases b <;> first | rfl | cases h
section
variable {X : Cx}
theorem den_sub {k : Nat} {ma mb : EO} {a b : Expr} {pos : Pos} (hr : Room k X.A) (hs : notSlice b = true) (ha : DenO X ma a) (hb : DenO X mb b) : DenV X (eSub ma mb) (.Subscript a b pos) := by
  intro W Fr s σ H Q r d s' hm q
  have hu1 : X.A.units + 1 < cLine := by have := hr.units; omega
  obtain ⟨oa, s1, e1, hm⟩ := R.bind_ok hm
  obtain ⟨ob, s2, e2, hm⟩ := R.bind_ok hm
  split at hm
  · rename_i p l2 i ea eb
    split at hm
    · rename_i p2 ed
      obtain ⟨hsub, es⟩ := R.opt_ok hm
      subst es
      -- the operands
      have use : ∀ {R2 : V → V → Hp → Prop}, (∀ (W' : Wd) (x y : V) (H' : Hp), Wle W W' → Agree Fr H H' → Rel W' Fr [] (s2.flat oa) σ H' → OR W' σ x oa → OR W' σ y ob → R2 x y H') → UE X a σ H fun x H1 => UE X b σ H1 fun y H2 => R2 x y H2 := by
        intro R2 hk
        refine ha W Fr s σ H _ r oa s1 e1 fun W1 x H1 le1 ag1 r1 or1 => ?_
        refine hb W1 Fr s1 σ H1 _ r1 ob s2 e2 fun W2 y H2 le2 ag2 r2 or2 => ?_
        obtain ⟨W3, le3, r3⟩ := r2.flat oa
        exact hk W3 x y H2 ((le1.trans le2).trans le3) (ag1.trans ag2) r3 ((or1.mono le2).mono le3) (or2.mono le3)
      obtain ⟨l, c⟩ := p
      obtain ⟨l', c'⟩ := p2
      have own : ∀ {W' : Wd} {x : V} {H' : Hp}, Rel W' Fr [] (s2.flat oa) σ H' → OR W' σ x oa → ∃ f, Own W' H' l' x c' f := fun r' o' => by
        obtain ⟨f, ow⟩ := r'.look o' ea
        exact r'.derefOwn ow ed
      cases c' with
      | lst xs =>
        cases i <;> simp only [subD] at hsub <;> try (cases hsub; done)
        rename_i i
        split at hsub
        · rename_i hl
          refine .of (pe_ix ix_list (pU a) (pU b) (notSlice_ix hs)) (use fun W' x y H' le ag r' o1 o2 => ?_)
          obtain ⟨f, ow⟩ := own r' o1
          obtain ⟨f2, ow2⟩ := r'.look o2 eb
          cases ow2.int
          obtain ⟨p, vs, rfl, hv, rp⟩ := ow.items r'.fzok hl
          obtain ⟨v, ev, rv⟩ := atI_rel rp hsub
          exact ⟨p, vs, i, v, rfl, rfl, .inl hv, ev, q W' v H' le ag r' rv⟩
        · cases hsub
      | tup xs =>
        cases i <;> simp only [subD] at hsub <;> try (cases hsub; done)
        rename_i i
        refine .of (pe_ix ix_tup (pU a) (pU b) (notSlice_ix hs)) (use fun W' x y H' le ag r' o1 o2 => ?_)
        obtain ⟨f, ow⟩ := own r' o1
        obtain ⟨f2, ow2⟩ := r'.look o2 eb
        cases ow2.int
        obtain ⟨p, vs, rfl, hv, rp⟩ := ow.tupI r'.fzok
        obtain ⟨v, ev, rv⟩ := atI_rel rp hsub
        exact ⟨p, vs, i, v, rfl, rfl, SqT.of hv, ev, q W' v H' le ag r' rv⟩
      | str z =>
        cases i <;> simp only [subD] at hsub <;> try (cases hsub; done)
        rename_i i
        split at hsub
        · rename_i hz
          cases ec : atI z.cps.toList i with
          | none => rw [ec] at hsub; cases hsub
          | some c =>
            rw [ec] at hsub; cases hsub
            refine .of (pe_ix ix_str (pU a) (pU b) (notSlice_ix hs)) (use fun W' x y H' le ag r' o1 o2 => ?_)
            obtain ⟨f, ow⟩ := own r' o1
            obtain ⟨f2, ow2⟩ := r'.look o2 eb
            cases ow2.int; cases ow.str
            exact ⟨z, i, c, rfl, rfl, szOk.le hz, ec, q W' _ H' le ag r' (.str _)⟩
        · cases hsub
      | dct kvs =>
        simp only [subD] at hsub
        split at hsub
        · rename_i hl
          cases hk : i.key with
          | none => rw [hk] at hsub; cases hsub
          | some k =>
            rw [hk] at hsub
            have hsub' : getK kvs k = some d := hsub
            refine .of (pe_dget hu1 (pU a) (pU b) (notSlice_ix hs)) (use fun W' x y H' le ag r' o1 o2 => ?_)
            obtain ⟨f, ow⟩ := own r' o1
            obtain ⟨f2, ow2⟩ := r'.look o2 eb
            obtain ⟨p, kvs', rfl, hv, ek, rp⟩ := ow.dict r'.fzok hl
            have ey := D.key_rp ow2 hk
            subst ey
            obtain ⟨v, ev, rv⟩ := (getK_rel (P := Rp W') (k := k) ek rp.at).1 d hsub'
            refine ⟨p, v, rfl, ?_, q W' v H' le ag r' rv⟩
            have := DGet.k (k := k) hv
            rw [getK_eq, ev] at this
            exact this
        · cases hsub
      | non => cases hsub
      | bl _ => cases hsub
      | int _ => cases hsub
      | cell _ => cases hsub
    · cases hm
  · cases hm

/-! ### slices -/
def cutL {α : Type} (xs : List α) (lo hi : Option Int) : List α := (xs.drop (HT.sIx xs.length 0 lo)).take (HT.sIx xs.length xs.length hi - HT.sIx xs.length 0 lo)
theorem cut_rel {W : Wd} {vs : List V} {ds : List D} {lo hi : Option Int} (h : RpAll W vs ds) : RpAll W (cutV vs lo hi) (cutL ds lo hi) := by
  unfold cutV cutL
  rw [h.length]
  exact (h.drop _).take _
def pNone : S → R (Option Int) := fun s => .ok none s
def pSome (m : EO) : S → R (Option Int) := fun s => (m s).bind fun o s1 => match s1.look o with
  | some (_, .int i) => .ok (some i) s1
  | _ => .bad
abbrev TOx := L2.St → Hp → (Option Int → Hp → Prop) → Prop
def UO (X : Cx) (e : Option Expr) : TOx := fun σ H Q => ∀ (pins : List (Addr × Obj)) (sh : Shared), Inv X pins σ H sh → wpAny (model X.prog X.w) X.A (evalPart e X.env) (fun u s' => ∃ o H', Inv X pins σ H' s' ∧ IsPart u o ∧ Q o H') X.xe sh
theorem pUO (e : Option Expr) : PO X e (UO X e) := ⟨fun pins s σ H Q I h => h pins s I⟩
theorem UO.of {e : Option Expr} {t : TOx} (p : PO X e t) {σ : L2.St} {H : Hp} {Q : Option Int → Hp → Prop} (h : t σ H Q) : UO X e σ H Q := fun pins sh I => p.run pins sh σ H Q I h
def DenP (X : Cx) (m : S → R (Option Int)) (e : Option Expr) : Prop := ∀ (W : Wd) (Fr : Addr → Prop) (s : S) (σ : L2.St) (H : Hp) (Q : Option Int → Hp → Prop), Rel W Fr [] s σ H → ∀ (o : Option Int) (s' : S), m s = .ok o s' →
  (∀ (W' : Wd) (H' : Hp), Wle W W' → Agree Fr H H' → Rel W' Fr [] s' σ H' → Q o H') → UO X e σ H Q
theorem den_pNone : DenP X pNone none := by
  intro W Fr s σ H Q r o s' hm q
  cases hm
  exact .of po_none (q W H .refl .refl r)
theorem den_pSome {m : EO} {e : Expr} (h : DenO X m e) : DenP X (pSome m) (some e) := by
  intro W Fr s σ H Q r o s' hm q
  obtain ⟨oa, s1, e1, hm⟩ := R.bind_ok hm
  split at hm
  · rename_i l i ei
    cases hm
    refine .of (po_some (pU e)) ?_
    refine h W Fr s σ H _ r oa s' e1 fun W1 x H1 le1 ag1 r1 or1 => ?_
    obtain ⟨f, ow⟩ := r1.look or1 ei
    exact ⟨i, ow.int, q W1 H1 le1 ag1 r1⟩
  · cases hm
def sliceD : Nat × D → Option Int → Option Int → Option (Nat × D)
  | (l, .lst xs), lo, hi => if l ≤ 1 then some (1, .lst (cutL xs lo hi)) else none
  | (_, .tup xs), lo, hi => some (0, .tup (cutL xs lo hi))
  | (_, .str z), lo, hi => if szOk z.length then some (0, .str (cutS z lo hi)) else none
  | _, _, _ => none
def eSlice (a : EO) (lo hi : S → R (Option Int)) : E := fun s => (a s).bind fun oa s1 => (lo s1).bind fun l s2 => (hi s2).bind fun h s3 => match s3.look oa with
  | some p => R.opt (sliceD p l h) s3
  | none => .bad
theorem cut_whole {α : Type} (xs : List α) {lo hi : Option Int} (h : HT.sIx xs.length 0 lo = 0 ∧ HT.sIx xs.length xs.length hi = xs.length) : cutL xs lo hi = xs := by
  unfold cutL
  rw [h.1, h.2]
  simp
theorem den_slice {ma : EO} {ml mh : S → R (Option Int)} {a : Expr} {lo hi : Option Expr} {p2 pos : Pos} (ha : DenO X ma a) (hl : DenP X ml lo) (hh : DenP X mh hi) : DenE X (eSlice ma ml mh) (.Subscript a (.Slice lo hi none p2) pos) := by
  intro W Fr s σ H Q r l d s' hm q
  obtain ⟨oa, s1, e1, hm⟩ := R.bind_ok hm
  obtain ⟨lo', s2, e2, hm⟩ := R.bind_ok hm
  obtain ⟨hi', s3, e3, hm⟩ := R.bind_ok hm
  split at hm
  · rename_i p ea
    obtain ⟨hsl, es⟩ := R.opt_ok hm
    subst es
    have use : ∀ {R2 : V → Option Int → Option Int → Hp → Prop}, (∀ (W' : Wd) (x : V) (H' : Hp), Wle W W' → Agree Fr H H' → Rel W' Fr [] s3 σ H' → OR W' σ x oa → R2 x lo' hi' H') → UE X a σ H fun x H1 => UO X lo σ H1 fun l H2 => UO X hi σ H2 fun u H3 => R2 x l u H3 := by
      intro R2 hk
      refine ha W Fr s σ H _ r oa s1 e1 fun W1 x H1 le1 ag1 r1 or1 => ?_
      refine hl W1 Fr s1 σ H1 _ r1 lo' s2 e2 fun W2 H2 le2 ag2 r2 => ?_
      refine hh W2 Fr s2 σ H2 _ r2 hi' s3 e3 fun W3 H3 le3 ag3 r3 => ?_
      exact hk W3 x H3 ((le1.trans le2).trans le3) ((ag1.trans ag2).trans ag3) r3 ((or1.mono le2).mono le3)
    obtain ⟨lv, c⟩ := p
    cases c <;> simp only [sliceD] at hsl <;> try (cases hsl; done)
    case lst xs =>
      split at hsl
      · rename_i hlv
        cases hsl
        refine .of (pe_slice sl_list (pU a) (pUO lo) (pUO hi)) (use fun W' x H' le ag r' o1 => ?_)
        obtain ⟨f, ow⟩ := r'.look o1 ea
        obtain ⟨p, vs, rfl, hv, rp⟩ := ow.items r'.fzok hlv
        refine ⟨p, vs, rfl, .inl hv, fun b hb => ?_⟩
        obtain ⟨ag2, r2⟩ := r'.newList hb (cut_rel rp)
        exact q W' _ _ le (ag.trans ag2) r2
      · cases hsl
    case tup xs =>
      cases hsl
      refine .of (pe_slice sl_tupA (pU a) (pUO lo) (pUO hi)) (use fun W' x H' le ag r' o1 => ?_)
      obtain ⟨f, ow⟩ := r'.look o1 ea
      obtain ⟨p, vs, rfl, hv, rp⟩ := ow.tupI r'.fzok
      refine ⟨p, vs, rfl, SqT.of hv, fun hw => ?_, fun hw b hb => ?_⟩
      · rw [rp.length] at hw
        rw [cut_whole xs hw] at q
        exact q W' _ _ le ag (r'.tmp0 (ow.rp trivial))
      · obtain ⟨le2, ag2, r2⟩ := r'.tup hb (cut_rel (lo := lo') (hi := hi') rp)
        exact q _ _ _ (le.trans le2) (ag.trans ag2) r2
    case str z =>
      split at hsl
      · rename_i hz
        cases hsl
        refine .of (pe_slice sl_str (pU a) (pUO lo) (pUO hi)) (use fun W' x H' le ag r' o1 => ?_)
        obtain ⟨f, ow⟩ := r'.look o1 ea
        cases ow.str
        exact ⟨z, rfl, szOk.le hz, q W' _ _ le ag (r'.tmp0 (.str _))⟩
      · cases hsl
  · cases hm
/-- xs[::-1] -/
def eRev (a : EO) : E := fun s => (a s).bind fun oa s1 => match s1.look oa with
  | some (l, .lst xs) => if l ≤ 1 then .ok (1, .lst xs.reverse) s1 else .bad
  | _ => .bad
theorem den_rev {ma : EO} {a : Expr} {k : Nat} {p1 p2 p3 pos : Pos} (ha : DenO X ma a) : DenE X (eRev ma) (.Subscript a (.Slice none none (some (.UnaryOp .USub (.Constant (.int 1) k p1) p2)) p3) pos) := by
  intro W Fr s σ H Q r l d s' hm q
  obtain ⟨oa, s1, e1, hm⟩ := R.bind_ok hm
  split at hm
  · rename_i lv xs ea
    split at hm
    · rename_i hlv
      cases hm
      refine .of (pe_revL (pU a)) ?_
      refine ha W Fr s σ H _ r oa s' e1 fun W1 x H1 le1 ag1 r1 or1 => ?_
      obtain ⟨f, ow⟩ := r1.look or1 ea
      obtain ⟨p, vs, rfl, hv, rp⟩ := ow.items r1.fzok hlv
      refine ⟨p, vs, rfl, .inl hv, fun b hb => ?_⟩
      obtain ⟨ag2, r2⟩ := r1.newList hb rp.reverse
      exact q W1 _ _ le1 (ag1.trans ag2) r2
    · cases hm
  · cases hm
end
end G
-- part Fw8
set_option Elab.async false
set_option linter.all false
set_option maxRecDepth 100000
set_option maxHeartbeats 4000000
set_option autoImplicit false
/-! Framework 8: built-in functions by values. -/
namespace G
open PySem PySem.Spec PyProof.Rows L2
variable [TabC]

section
variable {X : Cx}
/-! ### calls of built-ins -/
def cU (X : Cx) (f : Value) : List V → Hp → VK → Prop := fun xs H Q => ∀ (σ' : L2.St) (pins : List (Addr × Obj)) (sh : Shared) (us : List Value), Inv X pins σ' H sh → Vals xs us → wpAny (model X.prog X.w) X.A (call f us) (EP X pins σ' Q) X.xe sh
theorem callRU (f : Value) : CallR X f (cU X f) := fun pins sh σ H xs us Q I r h => h σ pins sh us I r
def CallS (X : Cx) (f : Value) (g : List (Nat × D) → Option (Nat × D)) : Prop :=
  ∀ (W : Wd) (Fr : Addr → Prop) (s : S) (σ : L2.St) (H : Hp) (vs : List V) (ps : List (Nat × D)) (l : Nat) (d : D) (Q : VK), Rel W Fr [] s σ H → Owns W H vs ps → g ps = some (l, d) →
    (∀ (W' : Wd) (z : V) (H' : Hp), Wle W W' → Agree Fr H H' → Rel W' Fr [(l, z, d)] s σ H' → Q z H') → cU X f vs H Q
def eCallB (g : List (Nat × D) → Option (Nat × D)) (ms : S → R (List O)) : E := fun s => (ms s).bind fun os s1 => match s1.looks os with
  | some ps => R.opt (g ps) s1
  | none => .bad
def noStars (es : List Expr) : Bool := es.all notStar
theorem noStars_any : ∀ {es : List Expr} {env : Env} {pos : Pos}, noStars es = true → (backTo pos (starEach es env)).any (·.1) = false
  | [], _, _, _ => rfl
  | e :: es, env, pos, h => by
    have h' : (notStar e && es.all notStar) = true := h
    simp only [Bool.and_eq_true] at h'
    rw [star_cons h'.1]
    show (false || (backTo pos (starEach es env)).any (·.1)) = false
    rw [noStars_any (show noStars es = true from h'.2)]
    rfl
theorem callS_use {f : Value} {g : List (Nat × D) → Option (Nat × D)} {ms : S → R (List O)} {es : List Expr} (hf : CallS X f g) (ha : DenOs X ms es)
    {W : Wd} {Fr : Addr → Prop} {s : S} {σ : L2.St} {H : Hp} {Q : VK} (r : Rel W Fr [] s σ H) {l : Nat} {d : D} {s' : S} (hm : eCallB g ms s = .ok (l, d) s')
    (q : ∀ (W' : Wd) (v : V) (H' : Hp), Wle W W' → Agree Fr H H' → Rel W' Fr [(l, v, d)] s' σ H' → Q v H') : tCB (cU X f) (UA X es) σ H Q := by
  obtain ⟨os, s1, e1, hm⟩ := R.bind_ok hm
  split at hm
  · rename_i ps eo
    obtain ⟨eg, es'⟩ := R.opt_ok hm
    subst es'
    refine ha W Fr s σ H _ r os s1 e1 fun W1 vs H1 le1 ag1 r1 or1 => ?_
    exact hf W1 Fr s1 σ H1 vs ps l d Q r1 (r1.looks or1 eo) eg fun W' z H' le ag r' => q W' z H' (le1.trans le) (ag1.trans ag) r'
  · cases hm
theorem den_callB {x : Str} {id : String} {g : List (Nat × D) → Option (Nat × D)} {ms : S → R (List O)} {e : Expr} {es : List Expr} {p pos : Pos} (hf : CallS X (.builtin id) g) (hg : Gl X x) (hm : X.mg x = none) (hv : bootBuiltins x = some (.builtin id))
    (hn : x ≠ "__name__") (hdb : (x == ("__debug__" : Str)) = false) (hs : noStars (e :: es) = true) (ha : DenOs X ms (e :: es)) : DenE X (eCallB g ms) (.Call (.Name x p) (e :: es) [] pos) := by
  intro W Fr s σ H Q r l d s' h q
  have hs' : (notStar e && es.all notStar) = true := hs
  simp only [Bool.and_eq_true] at hs'
  exact .of (pe_callB (callRU _) hg hm hv (pUA (e :: es)) hn hdb (star_cons hs'.1) (noStars_any (show noStars es = true from hs'.2))) (callS_use hf ha r h q)
theorem den_callT {x : Str} {T : String} {g : List (Nat × D) → Option (Nat × D)} {ms : S → R (List O)} {e : Expr} {es : List Expr} {p pos : Pos} (hf : CallS X (.type T) g) (hg : Gl X x) (hm : X.mg x = none) (hv : bootBuiltins x = some (.type T))
    (hn : x ≠ "__name__") (hdb : (x == ("__debug__" : Str)) = false) (hs : noStars (e :: es) = true) (ha : DenOs X ms (e :: es)) : DenE X (eCallB g ms) (.Call (.Name x p) (e :: es) [] pos) := by
  intro W Fr s σ H Q r l d s' h q
  have hs' : (notStar e && es.all notStar) = true := hs
  simp only [Bool.and_eq_true] at hs'
  exact .of (pe_callTy (callRU _) hg hm hv (pUA (e :: es)) hn hdb (star_cons hs'.1) (noStars_any (show noStars es = true from hs'.2))) (callS_use hf ha r h q)

/-! ### lists of one kind -/
def intsOf : List D → Option (List Int)
  | [] => some []
  | .int i :: r => (intsOf r).map (i :: ·)
  | _ :: _ => none
def blsOf : List D → Option (List Bool)
  | [] => some []
  | .bl i :: r => (blsOf r).map (i :: ·)
  | _ :: _ => none
def strsOf : List D → Option (List Str)
  | [] => some []
  | .str i :: r => (strsOf r).map (i :: ·)
  | _ :: _ => none
theorem intsOf_v {W : Wd} : ∀ {vs : List V} {ds : List D} {ns : List Int}, RpAll W vs ds → intsOf ds = some ns → vs = ns.map V.int
  | _, _, _, .nil, h => by cases h; rfl
  | _, _, _, .cons (d := d) (ds := ds) r t, h => by
    cases r <;> simp only [intsOf] at h <;> try (cases h; done)
    cases e : intsOf ds with
    | none => rw [e] at h; cases h
    | some ms => rw [e] at h; cases h; rw [intsOf_v t e]; rfl
theorem blsOf_v {W : Wd} : ∀ {vs : List V} {ds : List D} {ns : List Bool}, RpAll W vs ds → blsOf ds = some ns → vs = ns.map V.bl
  | _, _, _, .nil, h => by cases h; rfl
  | _, _, _, .cons (d := d) (ds := ds) r t, h => by
    cases r <;> simp only [blsOf] at h <;> try (cases h; done)
    cases e : blsOf ds with
    | none => rw [e] at h; cases h
    | some ms => rw [e] at h; cases h; rw [blsOf_v t e]; rfl
theorem strsOf_v {W : Wd} : ∀ {vs : List V} {ds : List D} {ns : List Str}, RpAll W vs ds → strsOf ds = some ns → vs = ns.map V.str
  | _, _, _, .nil, h => by cases h; rfl
  | _, _, _, .cons (d := d) (ds := ds) r t, h => by
    cases r <;> simp only [strsOf] at h <;> try (cases h; done)
    cases e : strsOf ds with
    | none => rw [e] at h; cases h
    | some ms => rw [e] at h; cases h; rw [strsOf_v t e]; rfl
theorem Owns.one {W : Wd} {H : Hp} {vs : List V} {l : Nat} {d : D} (h : Owns W H vs [(l, d)]) : ∃ v f, vs = [v] ∧ Own W H l v d f := by
  cases h with
  | cons o t => cases t; exact ⟨_, _, rfl, o⟩
theorem Owns.two {W : Wd} {H : Hp} {vs : List V} {l k : Nat} {d e : D} (h : Owns W H vs [(l, d), (k, e)]) : ∃ v u f g, vs = [v, u] ∧ Own W H l v d f ∧ Own W H k u e g := by
  cases h with
  | cons o t => cases t with
    | cons o2 t => cases t; exact ⟨_, _, _, _, rfl, o, o2⟩
/-- by a rule of the layer -/
theorem callS_of {f : Value} {r : List V → Hp → VK → Prop} {g : List (Nat × D) → Option (Nat × D)} (hr : CallR X f r)
    (h : ∀ (W : Wd) (Fr : Addr → Prop) (s : S) (σ : L2.St) (H : Hp) (vs : List V) (ps : List (Nat × D)) (l : Nat) (d : D) (Q : VK), Rel W Fr [] s σ H → Owns W H vs ps → g ps = some (l, d) →
      (∀ (W' : Wd) (z : V) (H' : Hp), Wle W W' → Agree Fr H H' → Rel W' Fr [(l, z, d)] s σ H' → Q z H') → r vs H Q) : CallS X f g :=
  fun W Fr s σ H vs ps l d Q rel ow hg q σ' pins sh us I rv => hr pins sh σ' H vs us Q I rv (h W Fr s σ H vs ps l d Q rel ow hg q)

/-! ### len -/
def lenD : List (Nat × D) → Option (Nat × D)
  | [(_, .lst xs)] => some (0, .int xs.length)
  | [(_, .tup xs)] => some (0, .int xs.length)
  | [(_, .str x)] => if szOk x.length then some (0, .int x.length) else none
  | [(_, .dct kvs)] => some (0, .int kvs.length)
  | _ => none
theorem callS_len : CallS X (.builtin "len") lenD := by
  refine callS_of (CallR.or call_len call_lenD) fun W Fr s σ H vs ps l d Q r ow hg q => ?_
  unfold lenD at hg
  split at hg
  · rename_i k xs
    cases hg
    obtain ⟨v, f, rfl, o⟩ := ow.one
    have vw := o.vw r.fzok _
    cases vw with
    | lst e hv => exact .inl ⟨_, xs.length, rfl, .inl ⟨_, .inl e, hv.length.symm⟩, fin0 r q (.int _)⟩
  · rename_i k xs
    cases hg
    obtain ⟨v, f, rfl, o⟩ := ow.one
    have vw := o.vw r.fzok _
    cases vw with
    | tup e hv => exact .inl ⟨_, xs.length, rfl, .inr ⟨_, SqT.of e, hv.length.symm⟩, fin0 r q (.int _)⟩
  · rename_i k x
    split at hg
    · rename_i hz
      cases hg
      obtain ⟨v, f, rfl, o⟩ := ow.one
      cases o.str
      exact .inl ⟨_, x.length, rfl, ⟨szOk.le hz, rfl⟩, fin0 r q (.int _)⟩
    · cases hg
  · rename_i k kvs
    cases hg
    obtain ⟨v, f, rfl, o⟩ := ow.one
    have vw := o.vw r.fzok _
    cases vw with
    | dct e ek hv =>
      have hl := congrArg List.length ek
      simp only [List.length_map] at hl
      refine .inr ⟨_, _, rfl, e, ?_⟩
      rw [hl]
      exact fin0 r q (.int _)
  · cases hg
/-! ### sum, max, min, all, any, abs -/
def sumD : List (Nat × D) → Option (Nat × D)
  | [(l, .lst xs)] => if l ≤ 1 then (intsOf xs).map fun ns => (0, .int ns.sum) else none
  | _ => none
theorem callS_sum (hc : X.calm = true) : CallS X (.builtin "sum") sumD := by
  refine callS_of (cr_sum hc) fun W Fr s σ H vs ps l d Q r ow hg q => ?_
  unfold sumD at hg
  split at hg
  · rename_i k xs
    split at hg
    · rename_i hl
      obtain ⟨v, f, rfl, o⟩ := ow.one
      obtain ⟨a, us, rfl, hv, rp⟩ := o.items r.fzok hl
      cases e : intsOf xs with
      | none => rw [e] at hg; cases hg
      | some ns =>
        rw [e] at hg; cases hg
        rw [intsOf_v rp e] at hv
        exact ⟨a, ns, rfl, .inl hv, fin0 r q (.int _)⟩
    · cases hg
  · cases hg
def maxI : Int → List Int → Int
  | m, [] => m
  | m, x :: r => maxI (if x > m then x else m) r
theorem maxI_spec : ∀ (m : Int) (r : List Int), maxI m r ∈ m :: r ∧ ∀ y ∈ m :: r, y ≤ maxI m r
  | m, [] => ⟨by simp [maxI], fun y hy => by simp at hy; rw [hy]; exact Int.le_refl _⟩
  | m, x :: r => by
    have h := maxI_spec (if x > m then x else m) r
    show maxI (if x > m then x else m) r ∈ m :: x :: r ∧ ∀ y ∈ m :: x :: r, y ≤ maxI (if x > m then x else m) r
    by_cases c : x > m
    · rw [if_pos c] at h ⊢
      refine ⟨List.mem_cons_of_mem _ h.1, fun y hy => ?_⟩
      have hx := h.2 x (by simp)
      rcases List.mem_cons.mp hy with z | z
      · omega
      · exact h.2 y z
    · rw [if_neg c] at h ⊢
      refine ⟨?_, fun y hy => ?_⟩
      · rcases List.mem_cons.mp h.1 with z | z
        · rw [z]; simp
        · exact List.mem_cons_of_mem _ (List.mem_cons_of_mem _ z)
      · have hm := h.2 m (by simp)
        rcases List.mem_cons.mp hy with z | z
        · rw [z]; exact hm
        · rcases List.mem_cons.mp z with z | z
          · omega
          · exact h.2 y (List.mem_cons_of_mem _ z)
theorem maxI_uniq {n m : Int} {r : List Int} (h1 : m ∈ n :: r) (h2 : ∀ y ∈ n :: r, y ≤ m) : m = maxI n r := by
  have h := maxI_spec n r
  have a := h2 _ h.1
  have b := h.2 _ h1
  omega
def minI : Int → List Int → Int
  | m, [] => m
  | m, x :: r => minI (if x < m then x else m) r
theorem minI_spec : ∀ (m : Int) (r : List Int), minI m r ∈ m :: r ∧ ∀ y ∈ m :: r, minI m r ≤ y
  | m, [] => ⟨by simp [minI], fun y hy => by simp at hy; rw [hy]; exact Int.le_refl _⟩
  | m, x :: r => by
    have h := minI_spec (if x < m then x else m) r
    show minI (if x < m then x else m) r ∈ m :: x :: r ∧ ∀ y ∈ m :: x :: r, minI (if x < m then x else m) r ≤ y
    by_cases c : x < m
    · rw [if_pos c] at h ⊢
      refine ⟨List.mem_cons_of_mem _ h.1, fun y hy => ?_⟩
      have hx := h.2 x (by simp)
      rcases List.mem_cons.mp hy with z | z
      · omega
      · exact h.2 y z
    · rw [if_neg c] at h ⊢
      refine ⟨?_, fun y hy => ?_⟩
      · rcases List.mem_cons.mp h.1 with z | z
        · rw [z]; simp
        · exact List.mem_cons_of_mem _ (List.mem_cons_of_mem _ z)
      · have hm := h.2 m (by simp)
        rcases List.mem_cons.mp hy with z | z
        · rw [z]; exact hm
        · rcases List.mem_cons.mp z with z | z
          · omega
          · exact h.2 y (List.mem_cons_of_mem _ z)
theorem minI_uniq {n m : Int} {r : List Int} (h1 : m ∈ n :: r) (h2 : ∀ y ∈ n :: r, m ≤ y) : m = minI n r := by
  have h := minI_spec n r
  have a := h2 _ h.1
  have b := h.2 _ h1
  omega
def maxD : List (Nat × D) → Option (Nat × D)
  | [(l, .lst xs)] => if l ≤ 1 then (match intsOf xs with
    | some (n :: r) => some (0, .int (maxI n r))
    | _ => none) else none
  | [(_, .int i), (_, .int j)] => some (0, .int (if j > i then j else i))
  | _ => none
def minD : List (Nat × D) → Option (Nat × D)
  | [(l, .lst xs)] => if l ≤ 1 then (match intsOf xs with
    | some (n :: r) => some (0, .int (minI n r))
    | _ => none) else none
  | [(_, .int i), (_, .int j)] => some (0, .int (if j < i then j else i))
  | _ => none
theorem callS_max (hc : X.calm = true) : CallS X (.builtin "max") maxD := by
  refine callS_of (CallR.or (cr_max hc) (call_max2 hc)) fun W Fr s σ H vs ps l d Q r ow hg q => ?_
  unfold maxD at hg
  split at hg
  · rename_i k xs
    split at hg
    · rename_i hl
      obtain ⟨v, f, rfl, o⟩ := ow.one
      obtain ⟨a, us, rfl, hv, rp⟩ := o.items r.fzok hl
      split at hg
      · rename_i n t e
        cases hg
        rw [intsOf_v rp e] at hv
        refine .inl ⟨a, n :: t, rfl, .inl hv, by simp, fun m h1 h2 => ?_⟩
        rw [maxI_uniq h1 h2]
        exact fin0 r q (.int _)
      · cases hg
    · cases hg
  · cases hg
    obtain ⟨v, u, f, g, rfl, o1, o2⟩ := ow.two
    cases o1.int; cases o2.int
    exact .inr ⟨_, _, rfl, fin0 r q (.int _)⟩
  · cases hg
theorem callS_min (hc : X.calm = true) : CallS X (.builtin "min") minD := by
  refine callS_of (CallR.or (cr_min hc) (call_min2 hc)) fun W Fr s σ H vs ps l d Q r ow hg q => ?_
  unfold minD at hg
  split at hg
  · rename_i k xs
    split at hg
    · rename_i hl
      obtain ⟨v, f, rfl, o⟩ := ow.one
      obtain ⟨a, us, rfl, hv, rp⟩ := o.items r.fzok hl
      split at hg
      · rename_i n t e
        cases hg
        rw [intsOf_v rp e] at hv
        refine .inl ⟨a, n :: t, rfl, .inl hv, by simp, fun m h1 h2 => ?_⟩
        rw [minI_uniq h1 h2]
        exact fin0 r q (.int _)
      · cases hg
    · cases hg
  · cases hg
    obtain ⟨v, u, f, g, rfl, o1, o2⟩ := ow.two
    cases o1.int; cases o2.int
    exact .inr ⟨_, _, rfl, fin0 r q (.int _)⟩
  · cases hg
def allD : List (Nat × D) → Option (Nat × D)
  | [(l, .lst xs)] => if l ≤ 1 then (blsOf xs).map fun bs => (0, .bl (bs.all id)) else none
  | _ => none
def anyD : List (Nat × D) → Option (Nat × D)
  | [(l, .lst xs)] => if l ≤ 1 then (blsOf xs).map fun bs => (0, .bl (bs.any id)) else none
  | _ => none
theorem callS_all (hc : X.calm = true) : CallS X (.builtin "all") allD := by
  refine callS_of (cr_all hc) fun W Fr s σ H vs ps l d Q r ow hg q => ?_
  unfold allD at hg
  split at hg
  · rename_i k xs
    split at hg
    · rename_i hl
      obtain ⟨v, f, rfl, o⟩ := ow.one
      obtain ⟨a, us, rfl, hv, rp⟩ := o.items r.fzok hl
      cases e : blsOf xs with
      | none => rw [e] at hg; cases hg
      | some ns =>
        rw [e] at hg; cases hg
        rw [blsOf_v rp e] at hv
        exact ⟨a, ns, rfl, .inl hv, fin0 r q (.bl _)⟩
    · cases hg
  · cases hg
theorem callS_any (hc : X.calm = true) : CallS X (.builtin "any") anyD := by
  refine callS_of (cr_any hc) fun W Fr s σ H vs ps l d Q r ow hg q => ?_
  unfold anyD at hg
  split at hg
  · rename_i k xs
    split at hg
    · rename_i hl
      obtain ⟨v, f, rfl, o⟩ := ow.one
      obtain ⟨a, us, rfl, hv, rp⟩ := o.items r.fzok hl
      cases e : blsOf xs with
      | none => rw [e] at hg; cases hg
      | some ns =>
        rw [e] at hg; cases hg
        rw [blsOf_v rp e] at hv
        exact ⟨a, ns, rfl, .inl hv, fin0 r q (.bl _)⟩
    · cases hg
  · cases hg
def absD : List (Nat × D) → Option (Nat × D)
  | [(_, .int i)] => some (0, .int (if i < 0 then -i else i))
  | _ => none
theorem callS_abs : CallS X (.builtin "abs") absD := by
  refine callS_of call_abs fun W Fr s σ H vs ps l d Q r ow hg q => ?_
  unfold absD at hg
  split at hg
  · cases hg
    obtain ⟨v, f, rfl, o⟩ := ow.one
    cases o.int
    exact ⟨_, rfl, fin0 r q (.int _)⟩
  · cases hg
/-! ### tuple, list, str, int -/
def tupleD : List (Nat × D) → Option (Nat × D)
  | [(l, .lst xs)] => if l ≤ 1 then some (0, .tup xs) else none
  | [(_, .tup xs)] => some (0, .tup xs)
  | _ => none
theorem callS_tuple : CallS X (.type "tuple") tupleD := by
  refine callS_of call_tuple_of fun W Fr s σ H vs ps l d Q r ow hg q => ?_
  unfold tupleD at hg
  split at hg
  · rename_i k xs
    split at hg
    · rename_i hl
      cases hg
      obtain ⟨v, f, rfl, o⟩ := ow.one
      obtain ⟨a, us, rfl, hv, rp⟩ := o.items r.fzok hl
      refine ⟨a, us, rfl, .inl ⟨.inl hv, fun p hp => ?_⟩⟩
      obtain ⟨le, ag, r'⟩ := r.tup hp rp
      exact q _ _ _ le ag r'
    · cases hg
  · rename_i k xs
    cases hg
    obtain ⟨v, f, rfl, o⟩ := ow.one
    obtain ⟨a, us, rfl, hv, rp⟩ := o.tupI r.fzok
    exact ⟨a, us, rfl, .inr ⟨SqT.of hv, q _ _ _ .refl .refl (r.tmp0 (o.rp trivial))⟩⟩
  · cases hg
def kD : Key → D
  | .inl i => .int i
  | .inr x => .str x
theorem kD_rp {W : Wd} (k : Key) : Rp W (kV k) (kD k) := by
  cases k with
  | inl i => exact .int i
  | inr x => exact .str x
def listD : List (Nat × D) → Option (Nat × D)
  | [(l, .lst xs)] => if l ≤ 1 then some (1, .lst xs) else none
  | [(_, .tup xs)] => some (1, .lst xs)
  | [(_, .dct kvs)] => some (1, .lst (kvs.map fun kv => kD kv.1))
  | _ => none
theorem callS_list (hc : X.calm = true) : CallS X (.type "list") listD := by
  refine callS_of (CallR.or call_list_of (call_list_dK hc)) fun W Fr s σ H vs ps l d Q r ow hg q => ?_
  unfold listD at hg
  split at hg
  · rename_i k xs
    split at hg
    · rename_i hl
      cases hg
      obtain ⟨v, f, rfl, o⟩ := ow.one
      obtain ⟨a, us, rfl, hv, rp⟩ := o.items r.fzok hl
      refine .inl ⟨a, us, rfl, .inl (.inl hv), fun p hp => ?_⟩
      obtain ⟨ag, r'⟩ := r.newList hp rp
      exact q _ _ _ .refl ag r'
    · cases hg
  · rename_i k xs
    cases hg
    obtain ⟨v, f, rfl, o⟩ := ow.one
    obtain ⟨a, us, rfl, hv, rp⟩ := o.tupI r.fzok
    refine .inl ⟨a, us, rfl, .inr (SqT.of hv), fun p hp => ?_⟩
    obtain ⟨ag, r'⟩ := r.newList hp rp
    exact q _ _ _ .refl ag r'
  · rename_i k kvs
    cases hg
    obtain ⟨v, f, rfl, o⟩ := ow.one
    have vw := o.vw r.fzok _
    cases vw with
    | dct e ek hv =>
      rename_i a kvs'
      refine .inr ⟨a, kvs', rfl, e, fun p hp => ?_⟩
      have rk : ∀ ks : List Key, RpAll W (ks.map kV) (ks.map kD) := fun ks => by
        induction ks with
        | nil => exact .nil
        | cons k ks ih => exact .cons (kD_rp k) ih
      have rp : RpAll W (kvs'.map fun kv => kV kv.1) (kvs.map fun kv => kD kv.1) := by
        have h := rk (kvs.map (·.1))
        have e2 : (kvs.map (·.1)).map kD = kvs.map fun kv => kD kv.1 := by rw [List.map_map]; rfl
        rw [e2] at h
        have e1 : (kvs.map (·.1)).map kV = kvs'.map fun kv => kV kv.1 := by rw [← ek, List.map_map]; rfl
        rw [← e1]
        exact h
      obtain ⟨ag, r'⟩ := r.newList hp rp
      exact q _ _ _ .refl ag r'
  · cases hg
def strD : List (Nat × D) → Option (Nat × D)
  | [(_, .int i)] => if i.natAbs < 2 ^ 250 then some (0, .str (toString i)) else none
  | [(_, .str x)] => some (0, .str x)
  | _ => none
theorem log_small {i : Int} (h : i.natAbs < 2 ^ 250) : i.natAbs.log2 < 1920 := by
  by_cases h0 : i.natAbs = 0
  · rw [h0]; decide
  · have := (Nat.log2_lt h0).mpr h
    omega
theorem callS_str : CallS X (.type "str") strD := by
  refine callS_of (CallR.or call_str_int SkE.call_str_str) fun W Fr s σ H vs ps l d Q r ow hg q => ?_
  unfold strD at hg
  split at hg
  · split at hg
    · rename_i hz
      cases hg
      obtain ⟨v, f, rfl, o⟩ := ow.one
      cases o.int
      exact .inl ⟨_, rfl, log_small hz, fin0 r q (.str _)⟩
    · cases hg
  · cases hg
    obtain ⟨v, f, rfl, o⟩ := ow.one
    cases o.str
    exact .inr ⟨_, rfl, fin0 r q (.str _)⟩
  · cases hg
def intD : List (Nat × D) → Option (Nat × D)
  | [(_, .int i)] => some (0, .int i)
  | [(_, .bl b)] => some (0, .int (if b then 1 else 0))
  | [(_, .str x)] => if x.length ≤ 640 then (PySem.intText? x).map fun n => (0, .int n) else none
  | _ => none
theorem callS_int : CallS X (.type "int") intD := by
  refine callS_of (CallR.or call_int1 call_int_str) fun W Fr s σ H vs ps l d Q r ow hg q => ?_
  unfold intD at hg
  split at hg
  · cases hg
    obtain ⟨v, f, rfl, o⟩ := ow.one
    cases o.int
    exact .inl (.inl ⟨_, rfl, fin0 r q (.int _)⟩)
  · cases hg
    obtain ⟨v, f, rfl, o⟩ := ow.one
    cases o.bl
    exact .inl (.inr ⟨_, rfl, fin0 r q (.int _)⟩)
  · rename_i k x
    split at hg
    · rename_i hz
      cases e : PySem.intText? x with
      | none => rw [e] at hg; cases hg
      | some n =>
        rw [e] at hg; cases hg
        obtain ⟨v, f, rfl, o⟩ := ow.one
        cases o.str
        exact .inr ⟨x, n, rfl, e, hz, fin0 r q (.int _)⟩
    · cases hg
  · cases hg
end
end G
-- part Fw9
set_option Elab.async false
set_option linter.all false
set_option maxRecDepth 100000
set_option maxHeartbeats 4000000
set_option autoImplicit false
/-! Framework 9: calls of the program's own defs; statements. -/
namespace G
open PySem PySem.Spec PyProof.Rows L2
variable [TabC]

/-! ### aside and back -/
section
variable {W : Wd} {Fr : Addr → Prop} {ts : List (Nat × V × D)} {s : S} {σ : L2.St} {H : Hp}
/-- the names' values are put aside -/
theorem Rel.enter (r : Rel W Fr [] s σ H) : ∃ f1, Slots W H s.env σ f1 ∧ Rel W (fun a => Fr a ∨ a ∈ f1) [] ⟨[], s.st⟩ [] H ∧ (∀ a ∈ f1, ¬ Fr a) ∧ f1.Nodup := by
  obtain ⟨f1, f2, f3, h1, h2, h3, f⟩ := r
  refine ⟨f1, h1, ⟨[], f2, f3, .nil, h2, h3, ⟨f.fz, ?_, fun a ha => ?_, fun a ha => ?_, f.tb, fun a ha => f.nt a ?_⟩⟩, fun a ha => (f.sep a ?_).2, ?_⟩
  · exact f.nd.sublist (by simp)
  · have hd := List.nodup_append.mp (show (f1 ++ (f2 ++ f3)).Nodup by rw [← List.append_assoc]; exact f.nd)
    have ha' : a ∈ f2 ++ f3 := by simpa using ha
    refine ⟨(f.sep a ?_).1, fun z => z.elim (f.sep a ?_).2 fun z => hd.2.2 a z a ha' rfl⟩ <;> (rw [List.append_assoc]; exact List.mem_append_right _ ha')
  · rcases ha with z | z
    · exact f.fr a z
    · exact ⟨h1.there a z, (f.sep a (by rw [List.append_assoc]; exact List.mem_append_left _ z)).1⟩
  · rcases ha with z | (z | z) | z
    · exact .inl z
    · exact .inr (.inl z)
    · exact .inr (.inr (by rw [List.append_assoc]; exact List.mem_append_left _ z))
    · exact .inr (.inr (by rw [List.append_assoc]; exact List.mem_append_right _ (by simpa using z)))
  · rw [List.append_assoc]; exact List.mem_append_left _ ha
  · exact f.nd.sublist (by rw [List.append_assoc]; exact List.sublist_append_left _ _)
/-- .. and taken again -/
theorem Rel.leave {W' : Wd} {H' : Hp} {f1 : List Addr} {st' : List (Nat × D)} (h1 : Slots W H s.env σ f1) (hf : ∀ a ∈ f1, ¬ Fr a) (hn : f1.Nodup) (le : Wle W W') (ag : Agree (fun a => Fr a ∨ a ∈ f1) H H')
    (r : Rel W' (fun a => Fr a ∨ a ∈ f1) ts ⟨[], st'⟩ [] H') : Rel W' Fr ts { s with st := st' } σ H' := by
  obtain ⟨g1, f2, f3, k1, h2, h3, f⟩ := r
  cases k1
  refine ⟨f1, f2, f3, h1.mono le fun a ha => ag a (.inr ha), h2, h3, ⟨f.fz, ?_, fun a ha => ?_, fun a ha => f.fr a (.inl ha), f.tb, fun a ha => f.nt a ?_⟩⟩
  · rw [List.append_assoc]
    have hd := f.nd
    simp only [List.nil_append] at hd
    exact List.nodup_append.mpr ⟨hn, hd, fun a ha b hb z => (f.sep b (by simpa using hb)).2 (.inr (z ▸ ha))⟩
  · rw [List.append_assoc] at ha
    rcases List.mem_append.mp ha with z | z
    · exact ⟨(f.fr a (.inr z)).2, hf a z⟩
    · have q := f.sep a (by simpa using z)
      exact ⟨q.1, fun w => q.2 (.inl w)⟩
  · rcases ha with z | z | z
    · exact .inl z
    · exact .inr (.inl (.inl z))
    · rw [List.append_assoc] at z
      rcases List.mem_append.mp z with z | z
      · exact .inr (.inl (.inr z))
      · exact .inr (.inr (by simpa using z))
end

/-! ### the program's defs -/
abbrev Call := Str → List D → S → R (Nat × D)
/-- what a call of x promises, by C -/
def spC (C : Call) (x : Str) (np : Nat) : Sp := fun vs H Q _ => ∃ (W : Wd) (Fr : Addr → Prop) (ds : List D) (st st' : List (Nat × D)) (l : Nat) (d : D), ds.length = np ∧ RpAll W vs ds ∧ Rel W Fr [] ⟨[], st⟩ [] H ∧ C x ds ⟨[], st⟩ = .ok (l, d) ⟨[], st'⟩ ∧
  ∀ (W' : Wd) (v : V) (H' : Hp), Wle W W' → Agree Fr H H' → Rel W' Fr [(l, v, d)] ⟨[], st'⟩ [] H' → Q v H'
/-- a def keeps a promise where no repr is under way -/
structure FnG (P : Program) (w : World) (K : PySem.W.Frag) (mg : Str → Option Value) (base : Heap) (k : Nat) (f : Addr) (fd : FuncData) (ps : List Str) (sp : Sp) : Prop where
  len : ∀ vs H Q E, sp vs H Q E → vs.length = ps.length
  run : ∀ (A : Around) (outer : List Env) (sh : Shared) (H : Hp) (args : Args) (us : List Value) (vs : List V) (Q : VK) (E : XK), A.guards = some [] → Room k A → Env0 P w K mg base A outer sh H → BindsTo sh fd args (ps.zip us) → Vals vs us → sp vs H Q E →
    codeAny (model P w) A (.call (.ref f) args) (CR CX0 outer P w H sh Q E) sh
/-- a def with the number of its parameters and its defaults -/
structure FnI where
  np : Nat
  dfl : List D
/-- what is known of the def x -/
def FnFact (X : Cx) (k : Nat) (C : Call) (x : Str) (i : FnI) : Prop := ∃ (f : Addr) (fd : FuncData) (ps : List Str), X.mg x = some (.ref f) ∧ PySem.W.keepIn X.K (.ref f) = true ∧ (x == ("__debug__" : Str)) = false ∧
  FnG X.prog X.w X.K X.mg X.base k f fd ps (spC C x i.np) ∧ ∀ j, j ≤ i.dfl.length → ∃ (dvs : List V) (ds : List Value), Vals dvs ds ∧ (∀ W, RpAll W dvs (i.dfl.drop j)) ∧ Binds X.K fd ps ds
section
variable {X : Cx}
theorem runG {k : Nat} {f : Addr} {fd : FuncData} {ps : List Str} {sp : Sp} {pins : List (Addr × Obj)} {σ : L2.St} {H : Hp} {sh : Shared} {Q : VK} {us ds : List Value} {vs dvs : List V} (F : FnG X.prog X.w X.K X.mg X.base k f fd ps sp) (hgd : X.A.guards = some [])
    (hr : Room k X.A) (hb : Binds X.K fd ps ds) (hd : Vals dvs ds) (I : Inv X pins σ H sh) (rv : Vals vs us) (h : sp (vs ++ dvs) H Q E0) : wpAny (model X.prog X.w) X.A (call (.ref f) us) (EP X pins σ Q) X.xe sh := by
  have both : Vals (vs ++ dvs) (us ++ ds) := rv.append hd
  have len : (us ++ ds).length = ps.length := both.length.symm.trans (F.len _ _ _ _ h)
  have go := F.run X.A X.stack sh H ⟨us, []⟩ (us ++ ds) (vs ++ dvs) Q E0 hgd hr I.env0 (hb sh us I.kIn len) both h
  refine wpAny_call (codeAny_mono go fun res s' q => ?_)
  match res, q with
  | .error e, q => exact False.elim q
  | .ok (.ret u), q => exact I.after q
  | .ok .next, q => exact False.elim q
  | .ok .brk, q => exact False.elim q
  | .ok .cont, q => exact False.elim q
def eCall (C : Call) (x : Str) (ms : S → R (List D)) (dfl : List D) : E := fun s => (ms s).bind fun ds s1 => match C x (ds ++ dfl) ⟨[], s1.st⟩ with
  | .ok p s2 => .ok p { s1 with st := s2.st }
  | .bad => .bad
  | .err e s2 => .err e { s1 with st := s2.st }
/-- a call ends with no names of its own -/
def Closed (C : Call) : Prop := ∀ x ds st p s', C x ds ⟨[], st⟩ = .ok p s' → s'.env = []
theorem spC_use {C : Call} {x : Str} {np : Nat} (cl : Closed C) {W : Wd} {Fr : Addr → Prop} {s : S} {σ : L2.St} {H : Hp} {Q : VK} {vs : List V} {ds : List D} {l : Nat} {d : D} {s2 : S} (r : Rel W Fr [] s σ H) (hn : ds.length = np) (rp : RpAll W vs ds)
    (hc : C x ds ⟨[], s.st⟩ = .ok (l, d) s2) (q : ∀ (W' : Wd) (v : V) (H' : Hp), Wle W W' → Agree Fr H H' → Rel W' Fr [(l, v, d)] { s with st := s2.st } σ H' → Q v H') : spC C x np vs H Q E0 := by
  obtain ⟨f1, h1, r1, hf, hn1⟩ := r.enter
  have e2 : s2 = ⟨[], s2.st⟩ := by
    have := cl x ds s.st _ _ hc
    cases s2
    simp only at this
    subst this
    rfl
  rw [e2] at hc
  refine ⟨W, _, ds, s.st, s2.st, l, d, hn, rp, r1, hc, fun W' v H' le ag r' => ?_⟩
  exact q W' v H' le (fun a ha => ag a (.inl ha)) (Rel.leave h1 hf hn1 le ag r')
theorem den_call {k : Nat} {C : Call} {x : Str} {i : FnI} {j : Nat} {ms : S → R (List D)} {e : Expr} {es : List Expr} {p pos : Pos} (cl : Closed C) (F : FnFact X k C x i) (hr : Room k X.A) (hgd : X.A.guards = some []) (hg : Gl X x) (hj : j ≤ i.dfl.length)
    (hs : noStars (e :: es) = true) (hm : ∀ s ds s', ms s = .ok ds s' → ds.length + (i.dfl.drop j).length = i.np) (ha : DenVs X ms (e :: es)) : DenE X (eCall C x ms (i.dfl.drop j)) (.Call (.Name x p) (e :: es) [] pos) := by
  intro W Fr s σ H Q r l d s' h q pins sh I
  obtain ⟨f, fd, ps, mgx, kp, hdb, FG, hb⟩ := F
  obtain ⟨dvs, dV, rd, rpd, hB⟩ := hb j hj
  have hs' : (notStar e && es.all notStar) = true := hs
  simp only [Bool.and_eq_true] at hs'
  obtain ⟨ds, s1, e1, h⟩ := R.bind_ok h
  refine wpAny_Call_Name_kw (ld_glob I hg mgx ?_ hdb)
  have args : UA X (e :: es) σ H fun vs H1 => spC C x i.np (vs ++ dvs) H1 Q E0 := by
    refine ha W Fr s σ H _ r ds s1 e1 fun W1 vs H1 le1 ag1 r1 rp1 => ?_
    split at h
    · rename_i pr s2 hc
      cases h
      refine spC_use cl r1 ?_ (rp1.append (rpd W1)) hc fun W' v H' le ag r' => q W' v H' (le1.trans le) (ag1.trans ag) r'
      rw [List.length_append]
      exact hm s ds s1 e1
    · cases h
    · cases h
  refine PySem.W.callWith_K (h₀ := X.base) I.ok.mod.kin kp (thn (args pos pins sh I) fun us s2 ⟨vs, H1, I1, rv, qv⟩ => ⟨I1.kIn, ?_⟩) (star_cons hs'.1) (noStars_any (show noStars es = true from hs'.2))
  exact runG FG hgd hr hB rd I1 rv qv
theorem den_call0 {k : Nat} {C : Call} {x : Str} {i : FnI} {p pos : Pos} (cl : Closed C) (F : FnFact X k C x i) (hr : Room k X.A) (hgd : X.A.guards = some []) (hg : Gl X x) (hm : i.dfl.length = i.np) : DenE X (eCall C x vsNil i.dfl) (.Call (.Name x p) [] [] pos) := by
  intro W Fr s σ H Q r l d s' h q pins sh I
  obtain ⟨f, fd, ps, mgx, kp, hdb, FG, hb⟩ := F
  obtain ⟨dvs, dV, rd, rpd, hB⟩ := hb 0 (Nat.zero_le _)
  obtain ⟨ds, s1, e1, h⟩ := R.bind_ok h
  cases e1
  refine wpAny_Call_Name_kw (ld_glob I hg mgx ?_ hdb)
  refine PySem.W.callWith_K0 I.kIn kp ?_
  refine runG (vs := []) (us := []) FG hgd hr hB rd I .nil ?_
  split at h
  · rename_i pr s2 hc
    cases h
    exact spC_use cl r hm (rpd W) hc q
  · cases h
  · cases h
end
end G
-- part Fw10
set_option Elab.async false
set_option linter.all false
set_option maxRecDepth 100000
set_option maxHeartbeats 4000000
set_option autoImplicit false
/-! Framework 10: statements. -/
namespace G
open PySem PySem.Spec PyProof.Rows L2
variable [TabC]

inductive RS where
  | bad
  | nx (s : S)
  | rt (p : Nat × D) (s : S)
  | bk (s : S)
  | ct (s : S)
  | err (x : Xc) (s : S)
abbrev Sm := S → RS
/-- what is wanted behind a statement that comes to r -/
def Post (W : Wd) (Fr : Addr → Prop) (H : Hp) (D : Ends) : RS → Prop
  | .nx s' => ∀ (W' : Wd) (σ' : L2.St) (H' : Hp), Wle W W' → Agree Fr H H' → Rel W' Fr [] s' σ' H' → D.nx σ' H'
  | .bk s' => ∀ (W' : Wd) (σ' : L2.St) (H' : Hp), Wle W W' → Agree Fr H H' → Rel W' Fr [] s' σ' H' → D.bk σ' H'
  | .ct s' => ∀ (W' : Wd) (σ' : L2.St) (H' : Hp), Wle W W' → Agree Fr H H' → Rel W' Fr [] s' σ' H' → D.ct σ' H'
  | .rt (l, d) s' => ∀ (W' : Wd) (v : V) (H' : Hp), Wle W W' → Agree Fr H H' → Rel W' Fr [(l, v, d)] ⟨[], s'.st⟩ [] H' → D.rt v H'
  | .bad => False
  | .err _ _ => False
theorem Post.mono {W W' : Wd} {Fr : Addr → Prop} {H H' : Hp} {D : Ends} {r : RS} (le : Wle W W') (ag : Agree Fr H H') (h : Post W Fr H D r) : Post W' Fr H' D r := by
  cases r with
  | bad => exact h
  | err _ _ => exact h
  | nx s => exact fun W2 σ2 H2 l2 a2 r2 => h W2 σ2 H2 (le.trans l2) (ag.trans a2) r2
  | bk s => exact fun W2 σ2 H2 l2 a2 r2 => h W2 σ2 H2 (le.trans l2) (ag.trans a2) r2
  | ct s => exact fun W2 σ2 H2 l2 a2 r2 => h W2 σ2 H2 (le.trans l2) (ag.trans a2) r2
  | rt p s =>
    obtain ⟨l, d⟩ := p
    exact fun W2 v H2 l2 a2 r2 => h W2 v H2 (le.trans l2) (ag.trans a2) r2
theorem Rel.noEnv {W : Wd} {Fr : Addr → Prop} {ts : List (Nat × V × D)} {s : S} {σ : L2.St} {H : Hp} (r : Rel W Fr ts s σ H) : Rel W Fr ts ⟨[], s.st⟩ [] H := by
  obtain ⟨f1, f2, f3, h1, h2, h3, f⟩ := r
  exact ⟨[], f2, f3, .nil, h2, h3, f.sub (by simp)⟩
section
variable {X : Cx}
def US (X : Cx) (st : Stmt) : TS := fun D σ H => ∀ (pins : List (Addr × Obj)) (sh : Shared), Inv X pins σ H sh → wpAny (model X.prog X.w) X.A (exec st X.env) (SP X pins D) X.xe sh
theorem pUS (st : Stmt) : PS X st (US X st) := ⟨fun pins s σ H D I h => h pins s I⟩
theorem US.of {st : Stmt} {t : TS} (p : PS X st t) {D : Ends} {σ : L2.St} {H : Hp} (h : t D σ H) : US X st D σ H := fun pins sh I => p.run pins sh σ H D I h
def USs (X : Cx) (sts : List Stmt) : TS := fun D σ H => ∀ (pins : List (Addr × Obj)) (sh : Shared), Inv X pins σ H sh → wpAny (model X.prog X.w) X.A (execs sts X.env) (SP X pins D) X.xe sh
theorem pUSs (sts : List Stmt) : PSs X sts (USs X sts) := ⟨fun pins s σ H D I h => h pins s I⟩
theorem USs.of {sts : List Stmt} {t : TS} (p : PSs X sts t) {D : Ends} {σ : L2.St} {H : Hp} (h : t D σ H) : USs X sts D σ H := fun pins sh I => p.run pins sh σ H D I h
def DenS (X : Cx) (m : Sm) (st : Stmt) : Prop := ∀ (W : Wd) (Fr : Addr → Prop) (s : S) (σ : L2.St) (H : Hp) (D : Ends), Rel W Fr [] s σ H → Post W Fr H D (m s) → US X st D σ H
def DenSs (X : Cx) (m : Sm) (sts : List Stmt) : Prop := ∀ (W : Wd) (Fr : Addr → Prop) (s : S) (σ : L2.St) (H : Hp) (D : Ends), Rel W Fr [] s σ H → Post W Fr H D (m s) → USs X sts D σ H
def sNil : Sm := fun s => .nx s
def sSeq (a b : Sm) : Sm := fun s => match a s with
  | .nx s1 => b s1
  | r => r
theorem den_sNil : DenSs X sNil [] := fun W Fr s σ H D r h => .of pss_nil (h W σ H .refl .refl r)
theorem den_seq {a b : Sm} {st : Stmt} {rest : List Stmt} (ha : DenS X a st) (hb : DenSs X b rest) : DenSs X (sSeq a b) (st :: rest) := by
  intro W Fr s σ H D r h
  refine .of (pss_cons (pUS st) (pUSs rest)) (ha W Fr s σ H _ r ?_)
  unfold sSeq at h
  cases e : a s with
  | nx s1 =>
    rw [e] at h
    exact fun W' σ' H' le ag r' => hb W' Fr s1 σ' H' D r' (h.mono le ag)
  | bad => rw [e] at h; exact h
  | rt p s1 => rw [e] at h; exact h
  | bk s1 => rw [e] at h; exact h
  | ct s1 => rw [e] at h; exact h
  | err x s1 => rw [e] at h; exact h
theorem den_pass {pos : Pos} : DenS X sNil (.Pass pos) := fun W Fr s σ H D r h => .of ps_pass (h W σ H .refl .refl r)
def sBreak : Sm := fun s => .bk s
def sCont : Sm := fun s => .ct s
theorem den_break {pos : Pos} : DenS X sBreak (.Break pos) := fun W Fr s σ H D r h => .of ps_break (h W σ H .refl .refl r)
theorem den_cont {pos : Pos} : DenS X sCont (.Continue pos) := fun W Fr s σ H D r h => .of ps_continue (h W σ H .refl .refl r)
/-- what a result of an expression makes a statement do -/
def R.then {α : Type} (x : R α) (f : α → S → RS) : RS := match x with
  | .bad => .bad
  | .ok a s => f a s
  | .err x s => .err x s
def sExpr (m : EV) : Sm := fun s => (m s).then fun _ s1 => .nx s1
def notComp : Expr → Bool
  | .ListComp _ _ _ _ => false
  | .SetComp _ _ _ _ => false
  | .DictComp _ _ _ _ _ => false
  | _ => true
theorem notComp_sw {e : Expr} {t : Option Expr} {l : Nat} {env : Env} (h : notComp e = true) : swapsWith e t l env = pure false := by
  cases e <;> first | rfl | cases h
theorem den_expr {m : EV} {e : Expr} {pos : Pos} (hn : notComp e = true) (h : DenV X m e) : DenS X (sExpr m) (.Expr e pos) := by
  intro W Fr s σ H D r hp
  refine .of (ps_expr (pU e) (notComp_sw hn)) ?_
  unfold sExpr at hp
  cases hm : m s with
  | bad => rw [hm] at hp; exact hp.elim
  | err x s1 => rw [hm] at hp; exact hp.elim
  | ok d s1 =>
    rw [hm] at hp
    exact h W Fr s σ H _ r d s1 hm fun W' v H' le ag r' _ => hp W' σ H' le ag r'
/-! ### return -/
def capL : Nat → Nat
  | 0 => 0
  | _ + 1 => 1
theorem Rel.capTmp {W : Wd} {Fr : Addr → Prop} {s : S} {σ : L2.St} {H : Hp} {l : Nat} {v : V} {d : D} (r : Rel W Fr [(l, v, d)] s σ H) : ∃ W', Wle W W' ∧ Rel W' Fr [(capL l, v, d)] s σ H := by
  match l, r with
  | 0, r => exact ⟨W, .refl, r⟩
  | 1, r => exact ⟨W, .refl, r⟩
  | l + 2, r =>
    obtain ⟨f1, f2, f0, h1, h2, h0, f⟩ := r
    obtain ⟨g, f3, rfl, o, h3⟩ := h0.uncons
    obtain ⟨g1, g2, rfl, o1⟩ := o.flat f.fz
    have le : Wle W (W.freeze H g2) := Wd.freeze_le f.fz
    refine ⟨_, le, f1, f2, g1 ++ f3, h1.mono le fun _ _ => rfl, h2.mono le fun _ _ => rfl, .cons o1 (h3.mono le fun _ _ => rfl), ?_⟩
    refine Fit.freeze (f := g2) (f.perm ?_)
    calc (f1 ++ f2 ++ (g1 ++ g2 ++ f3)).Perm (f1 ++ f2 ++ (g2 ++ g1 ++ f3)) := ((List.perm_append_comm).append_right f3).append_left _
      _ = (f1 ++ f2) ++ (g2 ++ (g1 ++ f3)) := by simp [List.append_assoc]
      List.Perm _ ((g2 ++ (g1 ++ f3)) ++ (f1 ++ f2)) := List.perm_append_comm
      _ = g2 ++ ((g1 ++ f3) ++ (f1 ++ f2)) := List.append_assoc ..
      List.Perm _ (g2 ++ ((f1 ++ f2) ++ (g1 ++ f3))) := (List.perm_append_comm).append_left _
def sRet (m : E) : Sm := fun s => (m s).then fun p s1 => .rt (capL p.1, p.2) s1
theorem den_ret {m : E} {e : Expr} {pos : Pos} (h : DenE X m e) : DenS X (sRet m) (.Return (some e) pos) := by
  intro W Fr s σ H D r hp
  refine .of (ps_ret (pU e)) ?_
  unfold sRet at hp
  cases hm : m s with
  | bad => rw [hm] at hp; exact hp.elim
  | err x s1 => rw [hm] at hp; exact hp.elim
  | ok p s1 =>
    obtain ⟨l, d⟩ := p
    rw [hm] at hp
    refine h W Fr s σ H _ r l d s1 hm fun W' v H' le ag r' => ?_
    obtain ⟨W2, le2, r2⟩ := r'.capTmp
    exact hp W2 v H' (le.trans le2) ag r2.noEnv
/-- return x: what x holds is handed on -/
def eMove (i : Nat) : E := fun s => match s.env[i]? with
  | some (some (l, d)) => .ok (l, d) { s with env := s.env.set i none }
  | _ => .bad
theorem den_move {i : Nat} {x : Str} {pos : Pos} (hN : X.N[i]? = some x) (hv : Vis X.env.scope x) (hd : (x == ("__debug__" : Str)) = false) (hcd : (x == ("__classdict__" : Str)) = false) : DenE X (eMove i) (.Name x pos) := by
  intro W Fr s σ H Q r l d s' hm q
  unfold eMove at hm
  split at hm
  · rename_i l' d' e
    cases hm
    obtain ⟨v, ev, r'⟩ := r.move e
    exact .of (pe_var hN hv hd hcd) ⟨v, ev, q W v H .refl .refl r'⟩
  · cases hm
def sRetN : Sm := fun s => .rt (0, .non) s
theorem den_retN {pos : Pos} : DenS X sRetN (.Return none pos) := fun W Fr s σ H D r h => .of ps_retN (h W .non H .refl .refl (r.noEnv.tmp0 .non))
/-! ### if -/
def sIf (t : ET) (a b : Sm) : Sm := fun s => (t s).then fun c s1 => if c then a s1 else b s1
theorem den_sIf {t : ET} {ma mb : Sm} {c : Expr} {a b : List Stmt} {pos : Pos} (hc : DenT X t c) (ha : DenSs X ma a) (hb : DenSs X mb b) : DenS X (sIf t ma mb) (.If c a b pos) := by
  intro W Fr s σ H D r hp
  refine .of (ps_if (pUT c) (pUSs a) (pUSs b)) ?_
  unfold sIf at hp
  cases hm : t s with
  | bad => rw [hm] at hp; exact hp.elim
  | err x s1 => rw [hm] at hp; exact hp.elim
  | ok k s1 =>
    rw [hm] at hp
    refine hc W Fr s σ H _ r k s1 hm fun W1 H1 le ag r1 => ?_
    cases k with
    | true => rw [if_pos rfl]; exact ha W1 Fr s1 σ H1 D r1 (Post.mono le ag hp)
    | false => rw [if_neg Bool.false_ne_true]; exact hb W1 Fr s1 σ H1 D r1 (Post.mono le ag hp)
/-! ### names -/
def sSet (i : Nat) (m : E) : Sm := fun s => (m s).then fun p s1 => if i < s1.env.length then .nx { s1 with env := s1.env.set i (some p) } else .bad
/-- a target -/
abbrev Tm := D → S → Option S
theorem wipe_get : ∀ (vs : List Nat) (σ : L2.St) (j : Nat), (wipe σ vs)[j]? = if j ∈ vs ∧ j < σ.length then some none else σ[j]?
  | [], σ, j => by simp [wipe]
  | v :: vs, σ, j => by
    show ((wipe σ vs).set v none)[j]? = _
    by_cases hv : v = j
    · subst hv
      by_cases hl : v < σ.length
      · rw [List.getElem?_set_self (by rw [wipe_length]; exact hl), if_pos ⟨by simp, hl⟩]
      · rw [if_neg (fun z => hl z.2), List.getElem?_eq_none (by rw [List.length_set, wipe_length]; omega), List.getElem?_eq_none (by omega)]
    · rw [List.getElem?_set_ne hv, wipe_get vs σ j]
      have : (j ∈ v :: vs ∧ j < σ.length) ↔ (j ∈ vs ∧ j < σ.length) := by
        simp only [List.mem_cons]
        exact ⟨fun ⟨a, b⟩ => ⟨a.resolve_left (fun z => hv z.symm), b⟩, fun ⟨a, b⟩ => ⟨.inr a, b⟩⟩
      by_cases hc : j ∈ vs ∧ j < σ.length
      · rw [if_pos hc, if_pos (this.mpr hc)]
      · rw [if_neg hc, if_neg (fun z => hc (this.mp z))]
/-- no other slots than these were written -/
def Wr (is : List Nat) (σ σ' : L2.St) : Prop := ∀ vs : List Nat, (∀ i ∈ is, i ∈ vs) → wipe σ' vs = wipe σ vs
theorem Wr.set {σ : L2.St} {i : Nat} {v : Option V} : Wr [i] σ (σ.set i v) := by
  intro vs hv
  have hi := hv i (by simp)
  apply List.ext_getElem?
  intro j
  rw [wipe_get, wipe_get, List.length_set]
  by_cases hj : j ∈ vs ∧ j < σ.length
  · rw [if_pos hj, if_pos hj]
  · rw [if_neg hj, if_neg hj]
    by_cases he : i = j
    · subst he
      have hl : ¬ i < σ.length := fun z => hj ⟨hi, z⟩
      rw [List.getElem?_eq_none (by rw [List.length_set]; omega), List.getElem?_eq_none (by omega)]
    · rw [List.getElem?_set_ne he]
theorem Wr.refl {σ : L2.St} : Wr [] σ σ := fun _ _ => rfl
theorem Wr.trans {is js : List Nat} {σ σ1 σ2 : L2.St} (h : Wr is σ σ1) (k : Wr js σ1 σ2) : Wr (is ++ js) σ σ2 := fun vs hv => (k vs fun i hi => hv i (List.mem_append_right _ hi)).trans (h vs fun i hi => hv i (List.mem_append_left _ hi))
def DenG (X : Cx) (is : List Nat) (g : Tm) (tg : Expr) : Prop := ∀ (W : Wd) (Fr : Addr → Prop) (s s' : S) (σ : L2.St) (H : Hp) (v : V) (d : D) (Q : L2.St → Hp → Prop), Rel W Fr [] s σ H → Rp W v d → g d s = some s' →
  (∀ (W' : Wd) (σ' : L2.St) (H' : Hp), Wle W W' → Agree Fr H H' → Rel W' Fr [] s' σ' H' → Wr is σ σ' → Q σ' H') →
  ∀ (pins : List (Addr × Obj)) (sh : Shared) (u : Value), Inv X pins σ H sh → RelV v u → wpAny (model X.prog X.w) X.A (assign tg X.env u) (fun _ s' => ∃ σ' H', Inv X pins σ' H' s' ∧ Q σ' H') X.xe sh
def UG (X : Cx) (tg : Expr) : TG := fun v σ H Q => ∀ (pins : List (Addr × Obj)) (sh : Shared) (u : Value), Inv X pins σ H sh → RelV v u → wpAny (model X.prog X.w) X.A (assign tg X.env u) (fun _ s' => ∃ σ' H', Inv X pins σ' H' s' ∧ Q σ' H') X.xe sh
theorem pUG (tg : Expr) : PG X tg (UG X tg) := ⟨fun pins s σ H v u Q I r h => h pins s u I r⟩
def gVar (i : Nat) : Tm := fun d s => if i < s.env.length then some { s with env := s.env.set i (some (0, d)) } else none
theorem den_gVar {i : Nat} {x : Str} {pos : Pos} (hN : X.N.Nodup) (hi : X.N[i]? = some x) (hx : Loc X.env.scope x) (hf : X.fn x = true ∨ X.env.scope.names.lookup x = some .local) : DenG X [i] (gVar i) (.Name x pos) := by
  intro W Fr s s' σ H v d Q r rp hg q pins sh u I rv
  unfold gVar at hg
  split at hg
  · rename_i hl
    cases hg
    exact (pg_name hN hi hx hf).run pins sh σ H v u Q I rv (q W _ H .refl .refl ((r.tmp0 rp).store hl) .set)
  · cases hg
/-- several targets of a tuple -/
abbrev Tms := List D → S → Option S
def DenGs (X : Cx) (is : List Nat) (g : Tms) (tgs : List Expr) : Prop := ∀ (W : Wd) (Fr : Addr → Prop) (s s' : S) (σ : L2.St) (H : Hp) (vs : List V) (ds : List D) (Q : L2.St → Hp → Prop), Rel W Fr [] s σ H → RpAll W vs ds → g ds s = some s' →
  (∀ (W' : Wd) (σ' : L2.St) (H' : Hp), Wle W W' → Agree Fr H H' → Rel W' Fr [] s' σ' H' → Wr is σ σ' → Q σ' H') → UGs X tgs vs σ H Q
where UGs (X : Cx) (tgs : List Expr) : TGs := fun vs σ H Q => ∀ (pins : List (Addr × Obj)) (sh : Shared) (us : List Value), Inv X pins σ H sh → Vals vs us → wpAny (model X.prog X.w) X.A (assignInOrder ((assignEach tgs X.env).map (·.2)) us) (fun _ s' => ∃ σ' H', Inv X pins σ' H' s' ∧ Q σ' H') X.xe sh
theorem pUGs (tgs : List Expr) : PGs X tgs (DenGs.UGs X tgs) := ⟨fun pins s σ H vs us Q I r h => h pins s us I r⟩
def gsNil : Tms := fun ds s => match ds with
  | [] => some s
  | _ => none
def gsCons (g : Tm) (gs : Tms) : Tms := fun ds s => match ds with
  | d :: r => (g d s).bind fun s1 => gs r s1
  | [] => none
theorem den_gsNil : DenGs X [] gsNil [] := by
  intro W Fr s s' σ H vs ds Q r rp hg q pins sh us I rv
  cases rp with
  | nil =>
    cases hg
    exact pgs_nil.run pins sh σ H [] us Q I rv ⟨rfl, q W σ H .refl .refl r .refl⟩
  | cons _ _ => cases hg
def plainTg : Expr → Bool
  | .Name _ _ => true
  | .Tuple _ _ _ => true
  | _ => false
theorem plainTg_each {e : Expr} {es : List Expr} {env : Env} (h : plainTg e = true) : (assignEach (e :: es) env).map (·.2) = assign e env :: (assignEach es env).map (·.2) := by
  cases e <;> first | rfl | cases h
theorem den_gsCons {is js : List Nat} {g : Tm} {gs : Tms} {e : Expr} {es : List Expr} (hp : plainTg e = true) (h : DenG X is g e) (hs : DenGs X js gs es) : DenGs X (is ++ js) (gsCons g gs) (e :: es) := by
  intro W Fr s s' σ H vs ds Q r rp hg q pins sh us I rv
  cases rp with
  | nil => cases hg
  | cons rp1 rp2 =>
    rename_i v vs d ds
    have hg' : (g d s).bind (fun s1 => gs ds s1) = some s' := hg
    cases e1 : g d s with
    | none => rw [e1] at hg'; cases hg'
    | some s1 =>
      rw [e1] at hg'
      refine (pgs_cons (pUG e) (pUGs es) (plainTg_each hp)).run pins sh σ H _ us Q I rv ⟨v, vs, rfl, ?_⟩
      refine h W Fr s s1 σ H v d _ r rp1 e1 fun W1 σ1 H1 le1 ag1 r1 w1 => ?_
      exact hs W1 Fr s1 s' σ1 H1 vs ds Q r1 (rp2.mono le1) hg' fun W2 σ2 H2 le2 ag2 r2 w2 => q W2 σ2 H2 (le1.trans le2) (ag1.trans ag2) r2 (w1.trans w2)
def gTupM (n : Nat) (gs : Tms) : Tm := fun d s => match d with
  | .tup ds => if ds.length = n then gs ds s else none
  | _ => none
theorem plain_idx : ∀ {es : List Expr} {env : Env}, es.all plainTg = true → (assignEach es env).length = es.length ∧ (assignEach es env).findIdx? (·.1) = none
  | [], _, _ => ⟨rfl, rfl⟩
  | e :: es, env, h => by
    simp only [List.all_cons, Bool.and_eq_true] at h
    obtain ⟨h1, h2⟩ := plain_idx (env := env) h.2
    have e1 : ∃ a, assignEach (e :: es) env = (false, a) :: assignEach es env := by
      cases e <;> first | exact ⟨_, rfl⟩ | cases h.1
    obtain ⟨a, e1⟩ := e1
    rw [e1]
    refine ⟨by simp [h1], ?_⟩
    rw [List.findIdx?_cons]
    simp [h2]
theorem den_gTup {is : List Nat} {gs : Tms} {es : List Expr} {k : Nat} {pos : Pos} (hc : X.calm = true) (hp : es.all plainTg = true) (h : DenGs X is gs es) : DenG X is (gTupM es.length gs) (.Tuple es k pos) := by
  intro W Fr s s' σ H v d Q r rp hg q pins sh u I rv
  unfold gTupM at hg
  split at hg
  · rename_i ds
    split at hg
    · rename_i hl
      cases rp with
      | tup e rps =>
        obtain ⟨i1, i2⟩ := plain_idx (env := X.env) hp
        refine (pg_tup hc (pUGs es) i1 i2).run pins sh σ H _ u Q I rv ⟨_, _, rfl, SqT.of (r.fzok _ _ e), rps.length.trans hl, ?_⟩
        exact h W Fr s s' σ H _ ds Q r rps hg q
    · cases hg
  · cases hg
theorem den_set {i : Nat} {m : E} {x : Str} {e : Expr} {pos pos' : Pos} (hn : notComp e = true) (hN : X.N.Nodup) (hi : X.N[i]? = some x) (hx : Loc X.env.scope x) (hf : X.fn x = true ∨ X.env.scope.names.lookup x = some .local) (h : DenE X m e) : DenS X (sSet i m) (.Assign [.Name x pos'] e pos) := by
  intro W Fr s σ H D r hp
  refine .of (ps_set hN hi hx (pU e) (notComp_sw hn) hf) ?_
  unfold sSet at hp
  cases hm : m s with
  | bad => rw [hm] at hp; exact hp.elim
  | err x s1 => rw [hm] at hp; exact hp.elim
  | ok p s1 =>
    obtain ⟨l, d⟩ := p
    rw [hm] at hp
    refine h W Fr s σ H _ r l d s1 hm fun W' v H' le ag r' => ?_
    have hp' : Post W Fr H D (if i < s1.env.length then RS.nx { s1 with env := s1.env.set i (some (l, d)) } else .bad) := hp
    split at hp'
    · rename_i hl
      exact hp' W' _ H' le ag (r'.store hl)
    · exact hp'.elim
/-- a tuple of names, by the value of an expression -/
def sAsg (g : Tm) (m : EV) : Sm := fun s => (m s).then fun d s1 => match g d s1 with
  | some s2 => .nx s2
  | none => .bad
theorem den_asg {is : List Nat} {g : Tm} {m : EV} {tg e : Expr} {pos : Pos} (hn : notComp e = true) (hp : plainTg tg = true) (hw : swappedStores [tg] e X.env = pure none) (hg : DenG X is g tg) (h : DenV X m e) : DenS X (sAsg g m) (.Assign [tg] e pos) := by
  intro W Fr s σ H D r hpost
  refine .of (ps_asg (pU e) (pUG tg) (notComp_sw hn) hw (plainTg_each hp)) ?_
  unfold sAsg at hpost
  cases hm : m s with
  | bad => rw [hm] at hpost; exact hpost.elim
  | err x s1 => rw [hm] at hpost; exact hpost.elim
  | ok d s1 =>
    rw [hm] at hpost
    refine h W Fr s σ H _ r d s1 hm fun W' v H' le ag r' rp => ?_
    have hp' : Post W Fr H D (match g d s1 with
      | some s2 => .nx s2
      | none => .bad) := hpost
    split at hp'
    · rename_i s2 e2
      exact hg W' Fr s1 s2 σ H' v d _ r' rp e2 fun W2 σ2 H2 le2 ag2 r2 _ => hp' W2 σ2 H2 (le.trans le2) (ag.trans ag2) r2
    · exact hp'.elim
end
end G
-- part Fw11
set_option Elab.async false
set_option linter.all false
set_option maxRecDepth 100000
set_option maxHeartbeats 4000000
set_option autoImplicit false
/-! Framework 11: several names at once; loops. -/
namespace G
open PySem PySem.Spec PyProof.Rows L2
variable [TabC]

/-! ### temporary values aside -/
section
variable {W : Wd} {Fr : Addr → Prop} {ts : List (Nat × V × D)} {s : S} {σ : L2.St} {H : Hp}
theorem Rel.shelve {l : Nat} {v : V} {d : D} (r : Rel W Fr ((l, v, d) :: ts) s σ H) : ∃ g, Own W H l v d g ∧ g.Nodup ∧ (∀ a ∈ g, ¬ Fr a) ∧ Rel W (fun a => Fr a ∨ a ∈ g) ts s σ H := by
  obtain ⟨f1, f2, f0, h1, h2, h0, f⟩ := r
  obtain ⟨g, f3, rfl, o, h3⟩ := h0.uncons
  have pp : (f1 ++ f2 ++ (g ++ f3)).Perm (g ++ (f1 ++ f2 ++ f3)) := by
    calc (f1 ++ f2 ++ (g ++ f3)).Perm ((g ++ f3) ++ (f1 ++ f2)) := List.perm_append_comm
      _ = g ++ (f3 ++ (f1 ++ f2)) := List.append_assoc ..
      List.Perm _ (g ++ ((f1 ++ f2) ++ f3)) := (List.perm_append_comm).append_left _
  have f' := f.perm pp
  have hd := List.nodup_append.mp f'.nd
  refine ⟨g, o, hd.1, fun a ha => (f'.sep a (List.mem_append_left _ ha)).2, f1, f2, f3, h1, h2, h3, f'.fz, hd.2.1, fun a ha => ?_, fun a ha => ?_, f'.tb, fun a ha => f'.nt a ?_⟩
  · have q := f'.sep a (List.mem_append_right _ ha)
    exact ⟨q.1, fun z => z.elim q.2 fun z => hd.2.2 a z a ha rfl⟩
  · rcases ha with z | z
    · exact f'.fr a z
    · exact ⟨Own.there _ o a z, (f'.sep a (List.mem_append_left _ z)).1⟩
  · rcases ha with z | (z | z) | z
    · exact .inl z
    · exact .inr (.inl z)
    · exact .inr (.inr (List.mem_append_left _ z))
    · exact .inr (.inr (List.mem_append_right _ z))
theorem Rel.unshelve {W' : Wd} {H' : Hp} {s' : S} {σ' : L2.St} {l : Nat} {v : V} {d : D} {g : List Addr} (o : Own W H l v d g) (hn : g.Nodup) (hf : ∀ a ∈ g, ¬ Fr a) (le : Wle W W') (ag : Agree (fun a => Fr a ∨ a ∈ g) H H')
    (r : Rel W' (fun a => Fr a ∨ a ∈ g) ts s' σ' H') : Rel W' Fr ((l, v, d) :: ts) s' σ' H' := by
  obtain ⟨f1, f2, f3, h1, h2, h3, f⟩ := r
  refine ⟨f1, f2, g ++ f3, h1, h2, .cons (o.mono le _ fun a ha => ag a (.inr ha)) h3, ?_⟩
  have pp : (g ++ (f1 ++ f2 ++ f3)).Perm (f1 ++ f2 ++ (g ++ f3)) := by
    calc (g ++ ((f1 ++ f2) ++ f3)).Perm (g ++ (f3 ++ (f1 ++ f2))) := (List.perm_append_comm).append_left _
      _ = (g ++ f3) ++ (f1 ++ f2) := (List.append_assoc ..).symm
      List.Perm _ (f1 ++ f2 ++ (g ++ f3)) := List.perm_append_comm
  refine Fit.perm ⟨f.fz, List.nodup_append.mpr ⟨hn, f.nd, fun a ha b hb z => (f.sep b hb).2 (.inr (z ▸ ha))⟩, fun a ha => ?_, fun a ha => f.fr a (.inl ha), f.tb, fun a ha => f.nt a ?_⟩ pp
  · rcases List.mem_append.mp ha with z | z
    · exact ⟨(f.fr a (.inr z)).2, hf a z⟩
    · exact ⟨(f.sep a z).1, fun w => (f.sep a z).2 (.inl w)⟩
  · rcases ha with z | z | z
    · exact .inl z
    · exact .inr (.inl (.inl z))
    · rcases List.mem_append.mp z with z | z
      · exact .inr (.inl (.inr z))
      · exact .inr (.inr z)
end
/-- values with their levels -/
def mkT : List V → List (Nat × D) → List (Nat × V × D)
  | v :: vs, (l, d) :: ps => (l, v, d) :: mkT vs ps
  | _, _ => []
section
variable {X : Cx}
def DenLs (X : Cx) (m : S → R (List (Nat × D))) (es : List Expr) : Prop := ∀ (W : Wd) (Fr : Addr → Prop) (s : S) (σ : L2.St) (H : Hp) (Q : List V → Hp → Prop), Rel W Fr [] s σ H → ∀ (ps : List (Nat × D)) (s' : S), m s = .ok ps s' →
  (∀ (W' : Wd) (vs : List V) (H' : Hp), Wle W W' → Agree Fr H H' → vs.length = ps.length → Rel W' Fr (mkT vs ps) s' σ H' → Q vs H') → UA X es σ H Q
def lsNil : S → R (List (Nat × D)) := fun s => .ok [] s
def lsCons (m : E) (ms : S → R (List (Nat × D))) : S → R (List (Nat × D)) := fun s => (m s).bind fun p s1 => (ms s1).bind fun ps s2 => .ok (p :: ps) s2
theorem den_lsNil : DenLs X lsNil [] := by
  intro W Fr s σ H Q r os s' hm q
  cases hm
  exact .of pa_nil (q W [] H .refl .refl rfl r)
theorem den_lsCons {m : E} {ms : S → R (List (Nat × D))} {e : Expr} {es : List Expr} (h : DenE X m e) (hs : DenLs X ms es) (ns : notStar e = true) : DenLs X (lsCons m ms) (e :: es) := by
  intro W Fr s σ H Q r ps s' hm q
  obtain ⟨⟨l, d⟩, s1, e1, hm⟩ := R.bind_ok hm
  obtain ⟨ps1, s2, e2, hm⟩ := R.bind_ok hm
  cases hm
  refine .of (pa_cons (pU e) (pUA es) (star_cons ns)) ?_
  refine h W Fr s σ H _ r l d s1 e1 fun W1 v H1 le1 ag1 r1 => ?_
  obtain ⟨g, o, hn, hf, r1'⟩ := r1.shelve
  refine hs W1 _ s1 σ H1 _ r1' ps1 s' e2 fun W2 vs H2 le2 ag2 hl r2 => ?_
  exact q W2 (v :: vs) H2 (le1.trans le2) (ag1.trans fun a ha => ag2 a (.inl ha)) (by simp [hl]) (Rel.unshelve o hn hf le2 ag2 r2)
/-- the order of the stores -/
def scBlock (sc : Scope) : ScopeKind := if sc.kind.isAnnotationScope then .function else sc.kind
def swB (sc : Scope) (ts vs : List Expr) : Option (Option (List Str)) :=
  if !(ts.length == 2 || ts.length == 3) || vs.length != ts.length || scBlock sc != .function then some none
  else if vs.any fun | .Starred .. => true | _ => false then some none
  else
    let line := (ts.head?.map (·.pos.line)).getD 0
    let names := ts.filterMap fun
      | .Name id pos => if sc.names.lookup id == some .local && pos.line == line then some id else none
      | _ => none
    if names.length != ts.length || names.eraseDups.length != names.length then some none
    else if vs.all (foldedForSure 8) then some none
    else if vs.all (constantsAlone 8) then none
    else some (some names)
theorem swB_ok {env : Env} {ts vs : List Expr} {k k2 : Nat} {p p2 : Pos} {o : Option (List Str)} (h : swB env.scope ts vs = some o) : swappedStores [.Tuple ts k p] (.Tuple vs k2 p2) env = pure o := by
  have eb : env.blockKind = scBlock env.scope := rfl
  unfold swB at h
  unfold swappedStores
  rw [eb]
  generalize scBlock env.scope = bk at h ⊢
  simp only [Env.kindOf, pure_bind] at h ⊢
  split at h
  · rename_i c
    cases h
    exact if_pos c
  · rename_i c
    refine (if_neg c).trans ?_
    split at h
    · rename_i c2
      cases h
      exact if_pos c2
    · rename_i c2
      refine (if_neg c2).trans ?_
      split at h
      · rename_i c3
        cases h
        exact if_pos c3
      · rename_i c3
        refine (if_neg c3).trans ?_
        split at h
        · rename_i c4
          cases h
          exact if_pos c4
        · rename_i c4
          refine (if_neg c4).trans ?_
          split at h
          · cases h
          · rename_i c5
            cases h
            exact if_neg c5
/-- a, b = x, y -/
def par2K (i j : Nat) (ps : List (Nat × D)) (s1 : S) : RS := match ps with
  | [p, q] => if i < s1.env.length ∧ j < s1.env.length then .nx { s1 with env := (s1.env.set i (some p)).set j (some q) } else .bad
  | _ => .bad
def sPar2 (i j : Nat) (ms : S → R (List (Nat × D))) : Sm := fun s => (ms s).then (par2K i j)
theorem den_par2 {i j : Nat} {x y : Str} {a b : Expr} {ms : S → R (List (Nat × D))} {px py pt pos : Pos} {kt k2 : Nat} {pt2 : Pos} (hc : X.calm = true) (hN : X.N.Nodup) (hi : X.N[i]? = some x) (hj : X.N[j]? = some y) (hij : i ≠ j)
    (hx : X.env.scope.names.lookup x = some .local) (hy : X.env.scope.names.lookup y = some .local) (hw : swB X.env.scope [.Name x px, .Name y py] [a, b] = some (some [x, y])) (ha : DenLs X ms [a, b]) : DenS X (sPar2 i j ms) (.Assign [.Tuple [.Name x px, .Name y py] kt pt] (.Tuple [a, b] k2 pt2) pos) := by
  intro W Fr s σ H D r hp
  refine .of (ps_par hc hN hi hj hij hx hy (pUA [a, b]) (swB_ok hw)) ?_
  unfold sPar2 at hp
  cases hm : ms s with
  | bad => rw [hm] at hp; exact hp.elim
  | err x s1 => rw [hm] at hp; exact hp.elim
  | ok ps s1 =>
    rw [hm] at hp
    refine ha W Fr s σ H _ r ps s1 hm fun W' vs H' le ag hl r' => ?_
    have hp' : Post W Fr H D (par2K i j ps s1) := hp
    unfold par2K at hp'
    split at hp'
    · rename_i p q
      obtain ⟨l1, d1⟩ := p
      obtain ⟨l2, d2⟩ := q
      split at hp'
      · rename_i hb
        match vs, hl with
        | [v, w], _ =>
          refine ⟨v, w, rfl, hp' W' _ H' le ag ?_⟩
          have r1 := Rel.store (s := s1) (i := i) r' hb.1
          exact Rel.store r1 (by simpa using hb.2)
      · exact hp'.elim
    · exact hp'.elim
def par3K (i j n : Nat) (ps : List (Nat × D)) (s1 : S) : RS := match ps with
  | [p, q, r] => if i < s1.env.length ∧ j < s1.env.length ∧ n < s1.env.length then .nx { s1 with env := ((s1.env.set i (some p)).set j (some q)).set n (some r) } else .bad
  | _ => .bad
def sPar3 (i j n : Nat) (ms : S → R (List (Nat × D))) : Sm := fun s => (ms s).then (par3K i j n)
theorem den_par3 {i j n : Nat} {x y z : Str} {a b c : Expr} {ms : S → R (List (Nat × D))} {px py pz pt pos : Pos} {kt k2 : Nat} {pt2 : Pos} (hc : X.calm = true) (hN : X.N.Nodup) (hi : X.N[i]? = some x) (hj : X.N[j]? = some y) (hn : X.N[n]? = some z) (hij : i ≠ j) (hin : i ≠ n) (hjn : j ≠ n)
    (hx : X.env.scope.names.lookup x = some .local) (hy : X.env.scope.names.lookup y = some .local) (hz : X.env.scope.names.lookup z = some .local) (hw : swB X.env.scope [.Name x px, .Name y py, .Name z pz] [a, b, c] = some (some [x, y, z])) (ha : DenLs X ms [a, b, c]) :
    DenS X (sPar3 i j n ms) (.Assign [.Tuple [.Name x px, .Name y py, .Name z pz] kt pt] (.Tuple [a, b, c] k2 pt2) pos) := by
  intro W Fr s σ H D r hp
  refine .of (ps_par3 hc hN hi hj hn hij hin hjn hx hy hz (pUA [a, b, c]) (swB_ok hw)) ?_
  unfold sPar3 at hp
  cases hm : ms s with
  | bad => rw [hm] at hp; exact hp.elim
  | err x s1 => rw [hm] at hp; exact hp.elim
  | ok ps s1 =>
    rw [hm] at hp
    refine ha W Fr s σ H _ r ps s1 hm fun W' vs H' le ag hl r' => ?_
    have hp' : Post W Fr H D (par3K i j n ps s1) := hp
    unfold par3K at hp'
    split at hp'
    · rename_i p q t
      obtain ⟨l1, d1⟩ := p
      obtain ⟨l2, d2⟩ := q
      obtain ⟨l3, d3⟩ := t
      split at hp'
      · rename_i hb
        match vs, hl with
        | [v, w, u], _ =>
          refine ⟨v, w, u, rfl, hp' W' _ H' le ag ?_⟩
          have r1 := Rel.store (s := s1) (i := i) r' hb.1
          have r2 := Rel.store r1 (i := j) (by simpa using hb.2.1)
          exact Rel.store r2 (by simpa using hb.2.2)
      · exact hp'.elim
    · exact hp'.elim
/-! ### while -/
def whileM (t : ET) (b : Sm) : Nat → Sm
  | 0, _ => .bad
  | n + 1, s => (t s).then fun c s1 => if c then (match b s1 with
    | .nx s2 => whileM t b n s2
    | .ct s2 => whileM t b n s2
    | .bk s2 => .nx s2
    | r => r) else .nx s1
/-- more turns than any loop takes -/
abbrev turns : Nat := 100000
def sWhile (t : ET) (b : Sm) : Sm := whileM t b turns
theorem den_while {t : ET} {mb : Sm} {c : Expr} {body : List Stmt} {pos : Pos} (hp : PassesOwn (model X.prog X.w) X.A X.env X.xe) (hc : DenT X t c) (hb : DenSs X mb body) : DenS X (sWhile t mb) (.While c body [] pos) := by
  intro W Fr s σ H D r hpost
  refine .of (ps_while hp (pUT c) (pUSs body)) ?_
  refine ⟨fun n σ' H' => ∃ (W' : Wd) (s' : S), Wle W W' ∧ Agree Fr H H' ∧ Rel W' Fr [] s' σ' H' ∧ Post W Fr H D (whileM t mb n s'), ⟨turns, W, s, .refl, .refl, r, hpost⟩, ?_⟩
  rintro n σ1 H1 ⟨W1, s1, le1, ag1, r1, h1⟩
  match n, h1 with
  | 0, h1 => exact h1.elim
  | n + 1, h1 =>
    unfold whileM at h1
    cases hm : t s1 with
    | bad => rw [hm] at h1; exact h1.elim
    | err x s2 => rw [hm] at h1; exact h1.elim
    | ok k s2 =>
      rw [hm] at h1
      refine hc W1 Fr s1 σ1 H1 _ r1 k s2 hm fun W2 H2 le2 ag2 r2 => ?_
      cases k with
      | false =>
        rw [if_neg Bool.false_ne_true]
        have h1 : Post W Fr H D (.nx s2) := h1
        exact h1 W2 σ1 H2 (le1.trans le2) (ag1.trans ag2) r2
      | true =>
        rw [if_pos rfl]
        have h1 : Post W Fr H D (match mb s2 with
          | .nx s2 => whileM t mb n s2
          | .ct s2 => whileM t mb n s2
          | .bk s2 => .nx s2
          | r => r) := h1
        refine ⟨fun σ' H' => ∃ (W' : Wd) (s' : S), Wle W W' ∧ Agree Fr H H' ∧ Rel W' Fr [] s' σ' H' ∧ Post W Fr H D (whileM t mb n s'), fun σ' H' q => ⟨n, Nat.lt_succ_self n, q⟩, ?_⟩
        refine hb W2 Fr s2 σ1 H2 _ r2 ?_
        cases hm2 : mb s2 with
        | bad => rw [hm2] at h1; exact h1.elim
        | err x s3 => rw [hm2] at h1; exact h1.elim
        | nx s3 => rw [hm2] at h1; exact fun W3 σ3 H3 le3 ag3 r3 => ⟨W3, s3, (le1.trans le2).trans le3, (ag1.trans ag2).trans ag3, r3, h1⟩
        | ct s3 => rw [hm2] at h1; exact fun W3 σ3 H3 le3 ag3 r3 => ⟨W3, s3, (le1.trans le2).trans le3, (ag1.trans ag2).trans ag3, r3, h1⟩
        | bk s3 => rw [hm2] at h1; exact fun W3 σ3 H3 le3 ag3 r3 => h1 W3 σ3 H3 ((le1.trans le2).trans le3) ((ag1.trans ag2).trans ag3) r3
        | rt p s3 =>
          rw [hm2] at h1
          obtain ⟨l, d⟩ := p
          exact fun W3 v H3 le3 ag3 r3 => h1 W3 v H3 ((le1.trans le2).trans le3) ((ag1.trans ag2).trans ag3) r3
/-! ### what is walked -/
def UI (X : Cx) (tg iter : Expr) : TI := fun σ H R => ∀ (pins : List (Addr × Obj)) (sh : Shared), Inv X pins σ H sh → wpAny (model X.prog X.w) X.A (eval iter X.env) (fun v s1 => wpAny (model X.prog X.w) X.A (pyIter v) (PIE X pins σ tg R) X.xe s1) X.xe sh
theorem pUI (tg iter : Expr) : PI X tg iter (UI X tg iter) := ⟨fun pins s σ H R I h => h pins s I⟩
theorem UI.of {tg iter : Expr} {t : TI} (p : PI X tg iter t) {σ : L2.St} {H : Hp} {R : It → Hp → Prop} (h : t σ H R) : UI X tg iter σ H R := fun pins sh I => p.run pins sh σ H R I h
/-- the iterator J yields ds, one behind the other, as long as what is frozen stays so -/
def ItOk (W : Wd) (J : It) (ds : List D) : Prop := ∀ (W' : Wd) (Fr : Addr → Prop) (ts : List (Nat × V × D)) (s : S) (σ : L2.St) (H : Hp), Wle W W' → Rel W' Fr ts s σ H → ∀ i : Nat, (ds.length ≤ i → J.stop i H) ∧
  ∀ d, ds[i]? = some d → J.go i H ∧ ∀ x H1, J.yld i H x H1 → ∃ W1, Wle W' W1 ∧ Agree Fr H H1 ∧ Rel W1 Fr ts s σ H1 ∧ Rp W1 x d ∧ ∀ a o, H a = some o → H1 a = some o
def DenI (X : Cx) (m : S → R (List D)) (tg iter : Expr) : Prop := ∀ (W : Wd) (Fr : Addr → Prop) (s : S) (σ : L2.St) (H : Hp) (Q : It → Hp → Prop), Rel W Fr [] s σ H → ∀ (ds : List D) (s' : S), m s = .ok ds s' →
  (∀ (W' : Wd) (J : It) (H' : Hp), Wle W W' → Agree Fr H H' → Rel W' Fr [] s' σ H' → ItOk W' J ds → Q J H') → UI X tg iter σ H Q
theorem ItOk.list {W : Wd} {K : PySem.W.Frag} {a : Addr} {o : HO} {vs : List V} {ds : List D} (e : W.fz a = some o) (hl : IsL o vs) (rp : RpAll W vs ds) : ItOk W (Itl K a) ds := by
  intro W' Fr ts s σ H le r i
  have hs : SqL K H a vs := by
    have e' := r.fzok _ _ (le.fz _ _ e)
    rcases hl with z | ⟨ob, z⟩
    · rw [z] at e'; exact .inl (.inl e')
    · rw [z] at e'; exact .inl (.inr ⟨ob, e'⟩)
  refine ⟨fun h => ⟨vs, hs, by rw [rp.length]; exact h⟩, fun d hd => ?_⟩
  obtain ⟨v, hv, rv⟩ := rp.get hd
  refine ⟨⟨vs, v, hs, hv⟩, fun x H1 hy => ?_⟩
  obtain ⟨rfl, hx⟩ := hy
  have ex := hx vs hs
  rw [hv] at ex
  cases ex
  exact ⟨W', .refl, .refl, r, rv.mono le, fun _ _ q => q⟩
theorem ItOk.tup {W : Wd} {K : PySem.W.Frag} {a : Addr} {vs : List V} {ds : List D} (e : W.fz a = some (.tup vs)) (rp : RpAll W vs ds) : ItOk W (Itt K a) ds := by
  intro W' Fr ts s σ H le r i
  have hs : SqT K H a vs := SqT.of (r.fzok _ _ (le.fz _ _ e))
  refine ⟨fun h => ⟨vs, hs, by rw [rp.length]; exact h⟩, fun d hd => ?_⟩
  obtain ⟨v, hv, rv⟩ := rp.get hd
  refine ⟨⟨vs, v, hs, hv⟩, fun x H1 hy => ?_⟩
  obtain ⟨rfl, hx⟩ := hy
  have ex := hx vs hs
  rw [hv] at ex
  cases ex
  exact ⟨W', .refl, .refl, r, rv.mono le, fun _ _ q => q⟩
/-- the items of a value -/
def itemsD : D → Option (List D)
  | .lst xs => some xs
  | .tup xs => some xs
  | .str x => some (x.cps.toList.map fun c => .str ⟨#[c]⟩)
  | _ => none
def iVal (m : EV) : S → R (List D) := fun s => (m s).bind fun d s1 => R.opt (itemsD d) s1
theorem ItOk.str {W : Wd} {x : Str} : ItOk W (Its x) (x.cps.toList.map fun c => .str ⟨#[c]⟩) := by
  intro W' Fr ts s σ H le r i
  refine ⟨fun h => ?_, fun d hd => ?_⟩
  · show x.cps.size ≤ i
    simpa using h
  · rw [List.getElem?_map] at hd
    cases e : x.cps.toList[i]? with
    | none => rw [e] at hd; cases hd
    | some c =>
      rw [e] at hd; cases hd
      have e' : x.cps[i]? = some c := by simpa using e
      refine ⟨(Array.getElem?_eq_some_iff.mp e').1, fun v H1 hy => ?_⟩
      obtain ⟨rfl, c', hc', rfl⟩ := hy
      rw [e'] at hc'
      cases hc'
      exact ⟨W', .refl, .refl, r, .str _, fun _ _ q => q⟩
theorem den_iVal {m : EV} {tg iter : Expr} (h : DenV X m iter) : DenI X (iVal m) tg iter := by
  intro W Fr s σ H Q r ds s' hm q
  obtain ⟨d, s1, e1, hm⟩ := R.bind_ok hm
  obtain ⟨ed, es⟩ := R.opt_ok hm
  subst es
  cases d <;> simp only [itemsD] at ed <;> try (cases ed; done)
  case lst xs =>
    cases ed
    refine .of (pi_list (pU iter)) (h W Fr s σ H _ r _ s1 e1 fun W1 v H1 le1 ag1 r1 rp => ?_)
    cases rp with
    | @lst _ _ vs _ e hl rps =>
      have e' := r1.fzok _ _ e
      refine ⟨_, rfl, ⟨vs, ?_⟩, q W1 _ H1 le1 ag1 r1 (.list e hl rps)⟩
      rcases hl with z | ⟨ob, z⟩
      · rw [z] at e'; exact .inl (.inl e')
      · rw [z] at e'; exact .inl (.inr ⟨ob, e'⟩)
  case tup xs =>
    cases ed
    refine .of (pi_tup (pU iter)) (h W Fr s σ H _ r _ s1 e1 fun W1 v H1 le1 ag1 r1 rp => ?_)
    cases rp with
    | tup e rps => exact ⟨_, rfl, ⟨_, SqT.of (r1.fzok _ _ e)⟩, q W1 _ H1 le1 ag1 r1 (.tup e rps)⟩
  case str x =>
    cases ed
    refine .of (pi_str (pU iter)) (h W Fr s σ H _ r _ s1 e1 fun W1 v H1 le1 ag1 r1 rp => ?_)
    cases rp
    exact ⟨x, rfl, q W1 _ H1 le1 ag1 r1 .str⟩
/-- range -/
def upL (lo : Int) (n : Nat) : List D := (List.range n).map fun (i : Nat) => .int (lo + (i : Int))
theorem ItOk.range {W : Wd} {lo : Int} {n : Nat} : ItOk W (Itr lo n) (upL lo n) := by
  intro W' Fr ts s σ H le r i
  refine ⟨fun h => ?_, fun d hd => ?_⟩
  · show n ≤ i
    simpa [upL] using h
  · unfold upL at hd
    rw [List.getElem?_map] at hd
    have hi : i < n := by
      cases e : (List.range n)[i]? with
      | none => rw [e] at hd; cases hd
      | some j => have := (List.getElem?_eq_some_iff.mp e).1; simpa using this
    rw [List.getElem?_range hi] at hd
    cases hd
    refine ⟨hi, fun v H1 hy => ?_⟩
    obtain ⟨rfl, rfl⟩ := hy
    exact ⟨W', .refl, .refl, r, .int _, fun _ _ q => q⟩
def big62 (i : Int) : Bool := decide (-(2 ^ 62) ≤ i ∧ i < 2 ^ 62)
def iRange1 (m : EO) : S → R (List D) := fun s => (m s).bind fun o s1 => match s1.look o with
  | some (_, .int j) => if big62 j then .ok (upL 0 j.toNat) s1 else .bad
  | _ => .bad
theorem den_range1 {m : EO} {tg a : Expr} {p pos : Pos} (hg : Gl X "range") (hm : X.mg "range" = none) (hs : notStar a = true) (h : DenO X m a) : DenI X (iRange1 m) tg (.Call (.Name "range" p) [a] [] pos) := by
  intro W Fr s σ H Q r ds s' hmm q
  obtain ⟨o, s1, e1, hmm⟩ := R.bind_ok hmm
  split at hmm
  · rename_i l j ej
    split at hmm
    · rename_i hb
      cases hmm
      have hb' := of_decide_eq_true hb
      refine .of (pi_range1 hg hm (pa_cons (pU a) pa_nil (star_cons hs)) (star_cons hs)) ?_
      refine h W Fr s σ H _ r o s' e1 fun W1 v H1 le1 ag1 r1 or1 => ?_
      obtain ⟨f, ow⟩ := r1.look or1 ej
      cases ow.int
      exact ⟨j, rfl, hb'.1, hb'.2, q W1 _ H1 le1 ag1 r1 .range⟩
    · cases hmm
  · cases hmm
def iRange2 (m m2 : EO) : S → R (List D) := fun s => (m s).bind fun o s1 => (m2 s1).bind fun o2 s2 => match s2.look o, s2.look o2 with
  | some (_, .int i), some (_, .int j) => if big62 i && big62 j then .ok (upL i (j - i).toNat) s2 else .bad
  | _, _ => .bad
theorem den_range2 {m m2 : EO} {tg a b : Expr} {p pos : Pos} (hg : Gl X "range") (hm : X.mg "range" = none) (hs : notStar a = true) (hs2 : notStar b = true) (h : DenO X m a) (h2 : DenO X m2 b) : DenI X (iRange2 m m2) tg (.Call (.Name "range" p) [a, b] [] pos) := by
  intro W Fr s σ H Q r ds s' hmm q
  obtain ⟨o, s1, e1, hmm⟩ := R.bind_ok hmm
  obtain ⟨o2, s2, e2, hmm⟩ := R.bind_ok hmm
  split at hmm
  · rename_i l i l2 j ei ej
    split at hmm
    · rename_i hb
      cases hmm
      simp only [Bool.and_eq_true] at hb
      have hb1 := of_decide_eq_true hb.1
      have hb2 := of_decide_eq_true hb.2
      refine .of (pi_range2 hg hm (pa_cons (pU a) (pa_cons (pU b) pa_nil (star_cons hs2)) (star_cons hs)) (by rw [star_cons hs, star_cons hs2]; rfl) (by rw [star_cons hs2]; rfl)) ?_
      refine h W Fr s σ H _ r o s1 e1 fun W1 v H1 le1 ag1 r1 or1 => ?_
      refine h2 W1 Fr s1 σ H1 _ r1 o2 s' e2 fun W2 v2 H2 le2 ag2 r2 or2 => ?_
      obtain ⟨f, ow⟩ := r2.look (or1.mono le2) ei
      obtain ⟨f2, ow2⟩ := r2.look or2 ej
      cases ow.int
      cases ow2.int
      exact ⟨i, j, rfl, ⟨hb1.1, hb1.2, hb2.1, hb2.2⟩, q W2 _ H2 (le1.trans le2) (ag1.trans ag2) r2 .range⟩
    · cases hmm
  · cases hmm
/-! ### for -/
def forM (g : Tm) (b : Sm) : List D → Sm
  | [], s => .nx s
  | d :: ds, s => match g d s with
    | none => .bad
    | some s1 => (match b s1 with
      | .nx s2 => forM g b ds s2
      | .ct s2 => forM g b ds s2
      | .bk s2 => .nx s2
      | r => r)
def sFor (it : S → R (List D)) (g : Tm) (b : Sm) : Sm := fun s => (it s).then fun ds s1 => forM g b ds s1
def plainIter : Expr → Bool
  | .Set _ _ _ => false
  | _ => true
theorem plainIter_eq {e : Expr} {env : Env} (h : plainIter e = true) (x : Value) : foldedSetIterable e env x = pure x := by
  cases e <;> first | rfl | cases h
theorem drop_get {ds : List D} {i : Nat} {d : D} {r : List D} (h : ds.drop i = d :: r) : ds[i]? = some d ∧ ds.drop (i + 1) = r := by
  have h1 : ds[i]? = some d := by
    have := congrArg (fun l => l[0]?) h
    simpa [List.getElem?_drop] using this
  refine ⟨h1, ?_⟩
  have := congrArg List.tail h
  simpa [List.tail_drop] using this
theorem den_for {is : List Nat} {it : S → R (List D)} {g : Tm} {mb : Sm} {tg iter : Expr} {body : List Stmt} {pos : Pos} (hp : PassesOwn (model X.prog X.w) X.A X.env X.xe) (hc : X.calm = true) (hpi : plainIter iter = true) (hi : DenI X it tg iter) (hg : DenG X is g tg) (hb : DenSs X mb body) : DenS X (sFor it g mb) (.For tg iter body [] pos) := by
  intro W Fr s σ H D r hpost
  refine .of (ps_for hp hc (pUI tg iter) (pUG tg) (pUSs body) (plainIter_eq hpi)) ?_
  unfold sFor at hpost
  cases hm : it s with
  | bad => rw [hm] at hpost; exact hpost.elim
  | err x s1 => rw [hm] at hpost; exact hpost.elim
  | ok ds s1 =>
    rw [hm] at hpost
    refine hi W Fr s σ H _ r ds s1 hm fun W1 J H1 le1 ag1 r1 ok => ?_
    have h0 : Post W Fr H D (forM g mb ds s1) := hpost
    refine ⟨fun i n σ' H' => n = ds.length - i ∧ i ≤ ds.length ∧ ∃ (W' : Wd) (s' : S), Wle W1 W' ∧ Agree Fr H H' ∧ Rel W' Fr [] s' σ' H' ∧ Post W Fr H D (forM g mb (ds.drop i) s'), ⟨ds.length, by simp, Nat.zero_le _, W1, s1, .refl, ag1, r1, h0⟩, ?_⟩
    rintro i n σ2 H2 ⟨rfl, hi2, W2, s2, le2, ag2, r2, h2⟩
    obtain ⟨stop, go⟩ := ok W2 Fr [] s2 σ2 H2 le2 r2 i
    cases hd : ds.drop i with
    | nil =>
      rw [hd] at h2
      have hl : ds.length ≤ i := by simpa using hd
      have h2 : Post W Fr H D (.nx s2) := h2
      exact .inl ⟨stop hl, h2 W2 σ2 H2 (le1.trans le2) ag2 r2⟩
    | cons d rest =>
      rw [hd] at h2
      obtain ⟨e1, e2⟩ := drop_get hd
      have hlt : i < ds.length := (List.getElem?_eq_some_iff.mp e1).1
      obtain ⟨hgo, hy⟩ := go d e1
      refine .inr ⟨hgo, fun σ' H' => ∃ (W' : Wd) (s' : S), Wle W1 W' ∧ Agree Fr H H' ∧ Rel W' Fr [] s' σ' H' ∧ Post W Fr H D (forM g mb rest s'), fun σ' H' ⟨W', s', a, b, c, e⟩ => ⟨ds.length - (i + 1), by omega, rfl, hlt, W', s', a, b, c, by rw [e2]; exact e⟩, fun x H3 y3 => ?_⟩
      obtain ⟨W3, le3, ag3, r3, rp3, _⟩ := hy x H3 y3
      have h2 : Post W Fr H D (match g d s2 with
        | none => .bad
        | some s1 => (match mb s1 with
          | .nx s2 => forM g mb rest s2
          | .ct s2 => forM g mb rest s2
          | .bk s2 => .nx s2
          | r => r)) := h2
      split at h2
      · exact h2.elim
      · rename_i s3 eg
        refine hg W3 Fr s2 s3 σ2 H3 x d _ r3 rp3 eg fun W4 σ4 H4 le4 ag4 r4 _ => ?_
        refine hb W4 Fr s3 σ4 H4 _ r4 ?_
        have leA : Wle W1 W4 := (le2.trans le3).trans le4
        have agA : Agree Fr H H4 := (ag2.trans ag3).trans ag4
        cases hm2 : mb s3 with
        | bad => rw [hm2] at h2; exact h2.elim
        | err x s4 => rw [hm2] at h2; exact h2.elim
        | nx s4 => rw [hm2] at h2; exact fun W5 σ5 H5 le5 ag5 r5 => ⟨W5, s4, leA.trans le5, agA.trans ag5, r5, h2⟩
        | ct s4 => rw [hm2] at h2; exact fun W5 σ5 H5 le5 ag5 r5 => ⟨W5, s4, leA.trans le5, agA.trans ag5, r5, h2⟩
        | bk s4 => rw [hm2] at h2; exact fun W5 σ5 H5 le5 ag5 r5 => h2 W5 σ5 H5 (le1.trans (leA.trans le5)) (agA.trans ag5) r5
        | rt p s4 =>
          rw [hm2] at h2
          obtain ⟨l, d⟩ := p
          exact fun W5 v H5 le5 ag5 r5 => h2 W5 v H5 (le1.trans (leA.trans le5)) (agA.trans ag5) r5
end
end G
-- part Fw12
set_option Elab.async false
set_option linter.all false
set_option maxRecDepth 100000
set_option maxHeartbeats 4000000
set_option autoImplicit false
/-! Framework 12: list comprehensions. -/
namespace G
open PySem PySem.Spec PyProof.Rows L2
variable [TabC]

/-- the names of a comprehension forgotten -/
def wipeE (env : List (Option (Nat × D))) : List Nat → List (Option (Nat × D))
  | [] => env
  | v :: vs => (wipeE env vs).set v none
def S.wipe (s : S) (vs : List Nat) : S := { s with env := wipeE s.env vs }
theorem Slots.wipe {W : Wd} {H : Hp} : ∀ (vs : List Nat) {es : List (Option (Nat × D))} {σ : L2.St} {f : List Addr}, Slots W H es σ f → ∃ g, Slots W H (wipeE es vs) (L2.wipe σ vs) g ∧ g.Sublist f
  | [], _, _, f, h => ⟨f, h, List.Sublist.refl _⟩
  | v :: vs, es, σ, f, h => by
    obtain ⟨g, h1, p1⟩ := Slots.wipe vs h
    obtain ⟨g2, h2, p2⟩ := h1.forget v
    refine ⟨g2, ?_, p2.trans p1⟩
    by_cases hl : v < (wipeE es vs).length
    · exact h2.over none (set_none_at hl)
    · show Slots W H ((wipeE es vs).set v none) ((L2.wipe σ vs).set v none) g2
      have e : (L2.wipe σ vs).set v none = L2.wipe σ vs := List.set_eq_of_length_le (by rw [← h1.length]; omega)
      rw [e]
      exact h2
theorem Rel.wipe {W : Wd} {Fr : Addr → Prop} {ts : List (Nat × V × D)} {s : S} {σ : L2.St} {H : Hp} (r : Rel W Fr ts s σ H) (vs : List Nat) : Rel W Fr ts (s.wipe vs) (L2.wipe σ vs) H := by
  obtain ⟨f1, f2, f3, h1, h2, h3, f⟩ := r
  obtain ⟨g, h1', p⟩ := h1.wipe vs
  exact ⟨g, f2, f3, h1', h2, h3, f.sub ((p.append_right f2).append_right f3)⟩
/-- what the forgotten slots hold doesn't matter -/
theorem Slots.any {W : Wd} {H : Hp} : ∀ {es : List (Option (Nat × D))} {σ : L2.St} {f : List Addr}, Slots W H es σ f → ∀ σ' : L2.St, σ'.length = σ.length → (∀ (i : Nat) p, es[i]? = some (some p) → σ'[i]? = σ[i]?) → Slots W H es σ' f
  | _, _, _, .nil, σ', hl, _ => by
    cases σ' with
    | nil => exact .nil
    | cons _ _ => cases hl
  | _, _, _, .no t, σ', hl, hk => by
    cases σ' with
    | nil => cases hl
    | cons o σ' => exact .no (t.any σ' (Nat.succ.inj hl) fun i p e => by have := hk (i + 1) p (by simpa using e); simpa using this)
  | _, _, _, .yes o t, σ', hl, hk => by
    cases σ' with
    | nil => cases hl
    | cons u σ' =>
      have h0 := hk 0 _ rfl
      simp at h0
      subst h0
      exact .yes o (t.any σ' (Nat.succ.inj hl) fun i p e => by have := hk (i + 1) p (by simpa using e); simpa using this)
theorem wipeE_get : ∀ (vs : List Nat) (es : List (Option (Nat × D))) (j : Nat) (p : Nat × D), (wipeE es vs)[j]? = some (some p) → j ∉ vs
  | [], _, _, _, _ => by simp
  | v :: vs, es, j, p, h => by
    have h' : ((wipeE es vs).set v none)[j]? = some (some p) := h
    by_cases hv : v = j
    · subst hv
      by_cases hl : v < (wipeE es vs).length
      · rw [List.getElem?_set_self hl] at h'; cases h'
      · rw [List.getElem?_eq_none (by rw [List.length_set]; omega)] at h'; cases h'
    · rw [List.getElem?_set_ne hv] at h'
      have := wipeE_get vs es j p h'
      simp only [List.mem_cons]
      exact fun z => z.elim (fun z => hv z.symm) this
theorem Rel.unwipe {W : Wd} {Fr : Addr → Prop} {ts : List (Nat × V × D)} {s : S} {σ σ2 : L2.St} {H : Hp} {vs : List Nat} (r : Rel W Fr ts s σ2 H) (e : L2.wipe σ2 vs = L2.wipe σ vs) : Rel W Fr ts (s.wipe vs) σ H := by
  obtain ⟨f1, f2, f3, h1, h2, h3, f⟩ := r
  obtain ⟨g, h1', p⟩ := h1.wipe vs
  refine ⟨g, f2, f3, h1'.any σ ?_ ?_, h2, h3, f.sub ((p.append_right f2).append_right f3)⟩
  · rw [e, wipe_length]
  · intro i q hq
    have hn := wipeE_get vs s.env i q hq
    rw [e, wipe_get, if_neg (fun z => hn z.1)]
theorem wipeE_at : ∀ (vs : List Nat) (es : List (Option (Nat × D))) (j : Nat), (wipeE es vs)[j]? = if j ∈ vs ∧ j < es.length then some none else es[j]?
  | [], es, j => by simp [wipeE]
  | v :: vs, es, j => by
    have len : ∀ vs : List Nat, (wipeE es vs).length = es.length := fun vs => by
      induction vs with
      | nil => rfl
      | cons v vs ih => show ((wipeE es vs).set v none).length = _; rw [List.length_set, ih]
    show ((wipeE es vs).set v none)[j]? = _
    by_cases hv : v = j
    · subst hv
      by_cases hl : v < es.length
      · rw [List.getElem?_set_self (by rw [len]; exact hl), if_pos ⟨by simp, hl⟩]
      · rw [if_neg (fun z => hl z.2), List.getElem?_eq_none (by rw [List.length_set, len]; omega), List.getElem?_eq_none (by omega)]
    · rw [List.getElem?_set_ne hv, wipeE_at vs es j]
      have : (j ∈ v :: vs ∧ j < es.length) ↔ (j ∈ vs ∧ j < es.length) := by
        simp only [List.mem_cons]
        exact ⟨fun ⟨a, b⟩ => ⟨a.resolve_left (fun z => hv z.symm), b⟩, fun ⟨a, b⟩ => ⟨.inr a, b⟩⟩
      by_cases hc : j ∈ vs ∧ j < es.length
      · rw [if_pos hc, if_pos (this.mpr hc)]
      · rw [if_neg hc, if_neg (fun z => hc (this.mp z))]
theorem wipeE_len (vs : List Nat) (es : List (Option (Nat × D))) : (wipeE es vs).length = es.length := by
  induction vs with
  | nil => rfl
  | cons v vs ih => show ((wipeE es vs).set v none).length = _; rw [List.length_set, ih]
theorem S.wipe_wipe (s : S) (vs : List Nat) : (s.wipe vs).wipe vs = s.wipe vs := by
  unfold S.wipe
  simp only [S.mk.injEq, and_true]
  apply List.ext_getElem?
  intro j
  rw [wipeE_at, wipeE_at, wipeE_len]
  by_cases hj : j ∈ vs ∧ j < s.env.length
  · rw [if_pos hj, if_pos hj]
  · rw [if_neg hj, if_neg hj]
/-- what stands aside is changed -/
theorem Rel.frWrite {W : Wd} {Fr : Addr → Prop} {ts : List (Nat × V × D)} {s : S} {σ : L2.St} {H : Hp} {a : Addr} {vs us : List V} (r : Rel W Fr ts s σ H) (e : H a = some (.lst vs)) (ha : Fr a) : Rel W Fr ts s σ (upd H a (.lst us)) := by
  obtain ⟨f1, f2, f3, h1, h2, h3, f⟩ := r
  have ne : ∀ b, b ∈ f1 ++ f2 ++ f3 → b ≠ a := fun b hb z => (f.sep b hb).2 (z ▸ ha)
  have q1 : ∀ b ∈ f1, upd H a (.lst us) b = H b := fun b hb => upd_ne (ne b (by simp [hb]))
  have q2 : ∀ b ∈ f2, upd H a (.lst us) b = H b := fun b hb => upd_ne (ne b (by simp [hb]))
  have q3 : ∀ b ∈ f3, upd H a (.lst us) b = H b := fun b hb => upd_ne (ne b (by simp [hb]))
  refine ⟨f1, f2, f3, h1.mono .refl q1, h2.mono .refl q2, h3.mono .refl q3, fun b o eb => ?_, f.nd, f.sep, fun b hb => ⟨?_, (f.fr b hb).2⟩, tabs_write f.tb e trivial, fun b hb ps z => ?_⟩
  · have nb : b ≠ a := fun z => by rw [z, (f.fr a ha).2] at eb; cases eb
    rw [upd_ne nb]
    exact f.fz b o eb
  · by_cases z : b = a
    · rw [z, upd_same]; exact nofun
    · rw [upd_ne z]; exact (f.fr b hb).1
  · by_cases w : b = a
    · rw [w, upd_same] at z; cases z
    · rw [upd_ne w] at z; exact f.nt b hb ps z
/-- the turns of a comprehension: own the slots of its names -/
def lcM (own : List Nat) (g : Tm) (t : ET) (m : EV) : List D → List D → S → R (List D)
  | [], acc, s => .ok acc s
  | d :: ds, acc, s => match g d s with
    | none => .bad
    | some s1 => (t s1).bind fun c s2 => if c then (m s2).bind fun y s3 => (if szOk acc.length then lcM own g t m ds (acc ++ [y]) (s3.wipe own) else .bad) else lcM own g t m ds acc (s2.wipe own)
def eLc (own : List Nat) (it : S → R (List D)) (g : Tm) (t : ET) (m : EV) : E := fun s => (it s).bind fun ds s1 => (lcM own g t m ds [] (s1.wipe own)).bind fun ys s2 => .ok (1, .lst ys) s2
def tTrue : ET := fun s => .ok true s
section
variable {X : Cx}
abbrev Blk (X : Cx) (scope : Scope) (P : Cx → Prop) : Prop := ∀ (sh : Shared) (H : Hp) (C : Addr) (cl : List (Str × Addr)) (fp : List Addr), P (X.blk sh H scope (compEnvC scope cl C X.env) fp)
def UTs (X : Cx) (ifs : List Expr) : TT := fun σ H Q => ∀ (pins : List (Addr × Obj)) (sh : Shared), Inv X pins σ H sh →
  wpAny (model X.prog X.w) X.A (forIn ifs true fun c r => if r = true then do let ok ← isTrue c X.env (eval c X.env); pure (ForInStep.yield ok) else pure (ForInStep.yield r)) (TP X pins σ Q) X.xe sh
def DenTs (X : Cx) (m : ET) (ifs : List Expr) : Prop := ∀ (W : Wd) (Fr : Addr → Prop) (s : S) (σ : L2.St) (H : Hp) (Q : Bool → Hp → Prop), Rel W Fr [] s σ H → ∀ (b : Bool) (s' : S), m s = .ok b s' →
  (∀ (W' : Wd) (H' : Hp), Wle W W' → Agree Fr H H' → Rel W' Fr [] s' σ H' → Q b H') → UTs X ifs σ H Q
theorem den_tsNil : DenTs X tTrue [] := by
  intro W Fr s σ H Q r b s' hm q pins sh I
  cases hm
  exact pts_nil.run pins sh σ H Q I (q W H .refl .refl r)
theorem den_tsOne {t : ET} {c : Expr} (h : DenT X t c) : DenTs X t [c] := fun W Fr s σ H Q r b s' hm q pins sh I => (pts_one (pUT c)).run pins sh σ H Q I (h W Fr s σ H Q r b s' hm q)
theorem lc_use {own : List (Str × Nat)} {is : List Nat} {it : S → R (List D)} {g : Tm} {t : ET} {m : EV} {tg iter elt : Expr} {ifs : List Expr} {scope : Scope}
    (hi : DenI X it tg iter) (hg : Blk X scope fun X' => DenG X' is g tg) (his : ∀ i ∈ is, i ∈ own.map (·.2)) (ht : Blk X scope fun X' => DenTs X' t ifs) (hm : Blk X scope fun X' => DenV X' m elt)
    {W : Wd} {Fr : Addr → Prop} {s : S} {σ : L2.St} {H : Hp} {Q : VK} (r : Rel W Fr [] s σ H) {l : Nat} {d : D} {s' : S} (hev : eLc (own.map (·.2)) it g t m s = .ok (l, d) s')
    (q : ∀ (W' : Wd) (v : V) (H' : Hp), Wle W W' → Agree Fr H H' → Rel W' Fr [(l, v, d)] s' σ H' → Q v H') :
    tLc (UI X tg iter) (fun v σ H Q => Blk X scope fun X' => UG X' tg v σ H Q) (fun σ H Q => Blk X scope fun X' => UTs X' ifs σ H Q) (fun σ H Q => Blk X scope fun X' => UE X' elt σ H Q) (own.map (·.2)) σ H Q := by
  obtain ⟨ds, s1, e1, hev⟩ := R.bind_ok hev
  obtain ⟨ys, s2, e2, hev⟩ := R.bind_ok hev
  cases hev
  refine hi W Fr s σ H _ r ds s1 e1 fun W1 J H1 le1 ag1 r1 ok => ?_
  intro L hL
  generalize hvs : own.map (·.2) = vs at *
  obtain ⟨agL, rL⟩ := r1.newList (vs := []) (ds := []) hL .nil
  obtain ⟨fL, oL, hnL, hfL, rS⟩ := rL.shelve
  have eL : fL = [L] := by
    obtain ⟨a, us, fs, e, _, rr, ef⟩ := oL
    cases rr
    cases e
    exact ef
  subst eL
  refine ⟨fun i n H' => n = ds.length - i ∧ i ≤ ds.length ∧ ∃ (W' : Wd) (s3 s4 : S) (av : List V) (ad : List D), Wle W1 W' ∧ Agree Fr H1 H' ∧ Rel W' (fun a => Fr a ∨ a ∈ [L]) [] s3 (L2.wipe σ vs) H' ∧ s3 = s4.wipe vs ∧ H' L = some (.lst av) ∧ RpAll W' av ad ∧ lcM vs g t m (ds.drop i) ad s3 = .ok ys s',
    ⟨ds.length, by simp, Nat.zero_le _, W1, s1.wipe vs, s1, [], [], .refl, agL, rS.wipe vs, rfl, upd_same, .nil, by simpa using e2⟩, ?_⟩
  rintro i n H3 ⟨rfl, hi3, W3, s3, s4, av, ad, le3, ag3, r3, es3, hL3, rp3, ev⟩
  obtain ⟨stop, go⟩ := ok W3 _ [] s3 (L2.wipe σ vs) H3 le3 r3 i
  cases hd : ds.drop i with
  | nil =>
    rw [hd] at ev
    have ev : R.ok ad s3 = R.ok ys s' := ev
    cases ev
    refine .inl ⟨stop (by simpa using hd), q W3 _ H3 (le1.trans le3) (ag1.trans ag3) ?_⟩
    have r4 : Rel W3 (fun a => Fr a ∨ a ∈ [L]) [] s' σ H3 := by
      have := r3.unwipe (σ := σ) (vs := vs) (by
        apply List.ext_getElem?
        intro j
        rw [wipe_get, wipe_get, wipe_length]
        by_cases hj : j ∈ vs ∧ j < σ.length
        · rw [if_pos hj, if_pos hj]
        · rw [if_neg hj, if_neg hj])
      rw [es3, S.wipe_wipe, ← es3] at this
      exact this
    exact Rel.unshelve (W := W3) (H := H3) (own1 hL3 rp3) (by simp) hfL .refl .refl r4
  | cons d rest =>
    rw [hd] at ev
    obtain ⟨h1, h2⟩ := drop_get hd
    have hlt : i < ds.length := (List.getElem?_eq_some_iff.mp h1).1
    obtain ⟨hgo, hy⟩ := go d h1
    refine .inr ⟨hgo, fun H' => ∃ (W' : Wd) (s3 s4 : S) (av : List V) (ad : List D), Wle W1 W' ∧ Agree Fr H1 H' ∧ Rel W' (fun a => Fr a ∨ a ∈ [L]) [] s3 (L2.wipe σ vs) H' ∧ s3 = s4.wipe vs ∧ H' L = some (.lst av) ∧ RpAll W' av ad ∧ lcM vs g t m rest ad s3 = .ok ys s',
      fun H' ⟨W', s5, s6, av', ad', a1, a2, a3, a4, a5, a6, a7⟩ => ⟨ds.length - (i + 1), by omega, rfl, hlt, W', s5, s6, av', ad', a1, a2, a3, a4, a5, a6, by rw [h2]; exact a7⟩, fun x H4 y4 => ?_⟩
    obtain ⟨W4, le4, ag4, r4, rp4, _⟩ := hy x H4 y4
    unfold lcM at ev
    split at ev
    · cases ev
    · rename_i s5 eg
      obtain ⟨c, s6, et, ev⟩ := R.bind_ok ev
      intro sh0 H0 C0 cl0 fp0
      refine hg sh0 H0 C0 cl0 fp0 W4 _ s3 s5 (L2.wipe σ vs) H4 x d _ r4 rp4 eg fun W5 σ5 H5 le5 ag5 r5 wr5 => ⟨?_, ?_⟩
      · have := wr5 vs his
        rw [this]
        apply List.ext_getElem?
        intro j
        rw [wipe_get, wipe_get, wipe_length]
        by_cases hj : j ∈ vs ∧ j < σ.length
        · rw [if_pos hj, if_pos hj]
        · rw [if_neg hj, if_neg hj]
      have wσ : L2.wipe σ5 vs = L2.wipe (L2.wipe σ vs) vs := wr5 vs his
      intro sh1 H1' C1 cl1 fp1
      refine ht sh1 H1' C1 cl1 fp1 W5 _ s5 σ5 H5 _ r5 c s6 et fun W6 H6 le6 ag6 r6 => ?_
      have leA : Wle W1 W6 := ((le3.trans le4).trans le5).trans le6
      have agA : Agree (fun a => Fr a ∨ a ∈ [L]) H3 H6 := (ag4.trans ag5).trans ag6
      cases c with
      | true =>
        rw [if_pos rfl]
        rw [if_pos rfl] at ev
        obtain ⟨y, s7, em, ev⟩ := R.bind_ok ev
        intro sh2 H2' C2 cl2 fp2
        refine hm sh2 H2' C2 cl2 fp2 W6 _ s6 σ5 H6 _ r6 y s7 em fun W7 v7 H7 le7 ag7 r7 rp7 => ?_
        split at ev
        · rename_i hz
          have hL7 : H7 L = some (.lst av) := by
            rw [(agA.trans ag7) L (.inr (by simp))]
            exact hL3
          refine ⟨av, hL7, by rw [rp3.length]; exact szOk.lt hz, W7, s7.wipe vs, s7, av ++ [v7], ad ++ [y], leA.trans le7, ?_, ?_, rfl, upd_same, ?_, ev⟩
          · intro a ha
            have na : a ≠ L := fun z => hfL L (by simp) (z ▸ ha)
            rw [upd_ne na]
            exact ((agA.trans ag7) a (.inl ha)).trans (ag3 a ha)
          · refine Rel.frWrite ?_ hL7 (by simp)
            exact r7.unwipe wσ
          · exact (rp3.mono (((le4.trans le5).trans le6).trans le7)).append (.cons rp7 .nil)
        · cases ev
      | false =>
        rw [if_neg Bool.false_ne_true]
        rw [if_neg Bool.false_ne_true] at ev
        have hL6 : H6 L = some (.lst av) := by
          rw [agA L (.inr (by simp))]
          exact hL3
        exact ⟨W6, s6.wipe vs, s6, av, ad, leA, fun a ha => (agA a (.inl ha)).trans (ag3 a ha), r6.unwipe wσ, rfl, hL6, rp3.mono ((le4.trans le5).trans le6), ev⟩
end
end G
-- part Fw13
set_option Elab.async false
set_option linter.all false
set_option maxRecDepth 100000
set_option maxHeartbeats 4000000
set_option autoImplicit false
/-! Framework 13: comprehensions as expressions; what changes in place. -/
namespace G
open PySem PySem.Spec PyProof.Rows L2
variable [TabC]

section
variable {X : Cx}
theorem den_lc {own : List (Str × Nat)} {is : List Nat} {it : S → R (List D)} {g : Tm} {t : ET} {m : EV} {tg iter elt : Expr} {ifs : List Expr} {scope : Scope} {pos : Pos} (hc : X.calm = true) (hN : X.N.Nodup) (ok : BlkOk X.N X.env.scope scope own) (hpi : plainIter iter = true)
    (hi : DenI X it tg iter) (hg : Blk X scope fun X' => DenG X' is g tg) (his : ∀ i ∈ is, i ∈ own.map (·.2)) (ht : Blk X scope fun X' => DenTs X' t ifs) (hm : Blk X scope fun X' => DenV X' m elt) : DenE X (eLc (own.map (·.2)) it g t m) (.ListComp elt [⟨tg, iter, ifs, 0⟩] scope pos) := by
  intro W Fr s σ H Q r l d s' hev q
  exact .of (pe_lc hc hN (pUI tg iter) ok (fun sh H C cl fp => ⟨fun pins s σ H' v u Q I rv h => h sh H C cl fp pins s u I rv⟩) (fun sh H C cl fp => ⟨fun pins s σ H' Q I h => h sh H C cl fp pins s I⟩) (fun sh H C cl fp => ⟨fun pins s σ H' Q I h => h sh H C cl fp pins s I⟩) (plainIter_eq hpi)) (lc_use hi hg his ht hm r hev q)
theorem den_setLc {i : Nat} {y : Str} {own : List (Str × Nat)} {is : List Nat} {it : S → R (List D)} {g : Tm} {t : ET} {m : EV} {tg iter elt : Expr} {ifs : List Expr} {scope : Scope} {pos py spos : Pos} (hc : X.calm = true) (hN : X.N.Nodup) (hi' : X.N[i]? = some y) (hx : Loc X.env.scope y)
    (hf : X.fn y = true ∨ X.env.scope.names.lookup y = some .local) (ok : BlkOk X.N X.env.scope scope own) (hpi : plainIter iter = true)
    (hi : DenI X it tg iter) (hg : Blk X scope fun X' => DenG X' is g tg) (his : ∀ i ∈ is, i ∈ own.map (·.2)) (ht : Blk X scope fun X' => DenTs X' t ifs) (hm : Blk X scope fun X' => DenV X' m elt) :
    DenS X (sSet i (eLc (own.map (·.2)) it g t m)) (.Assign [.Name y py] (.ListComp elt [⟨tg, iter, ifs, 0⟩] scope pos) spos) := by
  intro W Fr s σ H D r hp
  have fin : tAsg (tLc (UI X tg iter) (fun v σ H Q => Blk X scope fun X' => UG X' tg v σ H Q) (fun σ H Q => Blk X scope fun X' => UTs X' ifs σ H Q) (fun σ H Q => Blk X scope fun X' => UE X' elt σ H Q) (own.map (·.2))) (gName i) D σ H := by
    unfold sSet at hp
    cases hev : eLc (own.map (·.2)) it g t m s with
    | bad => rw [hev] at hp; exact hp.elim
    | err x s1 => rw [hev] at hp; exact hp.elim
    | ok p s1 =>
      obtain ⟨l, d⟩ := p
      rw [hev] at hp
      refine lc_use hi hg his ht hm r hev fun W' v H' le ag r' => ?_
      have hp' : Post W Fr H D (if i < s1.env.length then RS.nx { s1 with env := s1.env.set i (some (l, d)) } else .bad) := hp
      split at hp'
      · rename_i hl
        exact hp' W' _ H' le ag (r'.store hl)
      · exact hp'.elim
  have PGb : ∀ (sh : Shared) (H : Hp) (C : Addr) (cl : List (Str × Addr)) (fp : List Addr), PG (X.blk sh H scope (compEnvC scope cl C X.env) fp) tg (fun v σ H Q => Blk X scope fun X' => UG X' tg v σ H Q) := fun sh H C cl fp => ⟨fun pins s σ H' v u Q I rv h => h sh H C cl fp pins s u I rv⟩
  have PTb : ∀ (sh : Shared) (H : Hp) (C : Addr) (cl : List (Str × Addr)) (fp : List Addr), PTs (X.blk sh H scope (compEnvC scope cl C X.env) fp) ifs (fun σ H Q => Blk X scope fun X' => UTs X' ifs σ H Q) := fun sh H C cl fp => ⟨fun pins s σ H' Q I h => h sh H C cl fp pins s I⟩
  have PEb : ∀ (sh : Shared) (H : Hp) (C : Addr) (cl : List (Str × Addr)) (fp : List Addr), PE (X.blk sh H scope (compEnvC scope cl C X.env) fp) elt (fun σ H Q => Blk X scope fun X' => UE X' elt σ H Q) := fun sh H C cl fp => ⟨fun pins s σ H' Q I h => h sh H C cl fp pins s I⟩
  have sw : ∃ b, swapsWith (.ListComp elt [⟨tg, iter, ifs, 0⟩] scope pos) (some (.Name y py)) spos.line X.env = pure b ∧ (b = true → X.env.kindOf y = some .local) := by
    refine ⟨_, rfl, fun h => ?_⟩
    simp only [Bool.and_eq_true, beq_iff_eq] at h
    exact h.1.1.2
  obtain ⟨b, eb, hb⟩ := sw
  cases b with
  | true => exact .of (ps_setLc hc hN hi' (hb rfl) eb (pUI tg iter) ok PGb PTb PEb (plainIter_eq hpi)) fin
  | false => exact .of (ps_set hN hi' hx (pe_lc hc hN (pUI tg iter) ok PGb PTb PEb (plainIter_eq hpi)) eb hf) fin
end

/-! ### in place -/
theorem Rel.mut {W : Wd} {Fr : Addr → Prop} {s : S} {σ : L2.St} {H : Hp} (r : Rel W Fr [] s σ H) {i l : Nat} {d : D} (hd : match d with | .lst _ | .dct _ => True | _ => False) (e : s.env[i]? = some (some (l + 1, d))) :
    ∃ a o f, σ[i]? = some (some (.ref a)) ∧ H a = some o ∧ Plain o ∧ Own W H (l + 1) (.ref a) d (a :: f) ∧ (a :: f).Nodup ∧ ∀ o' l' d', (∀ ps, o' ≠ .tbl ps) → Own W (upd H a o') l' (.ref a) d' (a :: f) → Agree Fr H (upd H a o') ∧ Rel W Fr [] { s with env := s.env.set i (some (l', d')) } σ (upd H a o') := by
  obtain ⟨f1, f2, f3, h1, h2, h3, f⟩ := r
  obtain ⟨v, g, rr, ev, ow, h1', p⟩ := h1.take e
  have shape : ∃ a o fs, v = .ref a ∧ H a = some o ∧ Plain o ∧ g = a :: fs := by
    cases d with
    | lst ds => obtain ⟨a, vs, fs, e1, q, _, ef⟩ := id ow; exact ⟨a, _, fs, e1, q, trivial, ef⟩
    | dct kvs => obtain ⟨a, vs, fs, e1, q, _, _, ef⟩ := id ow; exact ⟨a, _, fs, e1, q, trivial, ef⟩
    | _ => exact hd.elim
  obtain ⟨a, o, fs, rfl, ha, po, rfl⟩ := shape
  have pp : (f1 ++ f2 ++ f3).Perm ((a :: fs) ++ (rr ++ f2 ++ f3)) := by
    have := (p.append_right f2).append_right f3
    simpa [List.append_assoc] using this
  have fit := f.perm pp
  have hnd := List.nodup_append.mp fit.nd
  have hl : i < s.env.length := (List.getElem?_eq_some_iff.mp e).1
  refine ⟨a, o, fs, ev, ha, po, ow, hnd.1, fun o' l' d' ho ow' => ?_⟩
  have keep : ∀ b ∈ rr ++ f2 ++ f3, upd H a o' b = H b := fun b hb => upd_ne fun z => hnd.2.2 a (by simp) b hb z.symm
  refine ⟨fun b hb => upd_ne fun z => (fit.sep a (by simp)).2 (z ▸ hb), ?_⟩
  obtain ⟨fp, hs, pf⟩ := (h1'.mono .refl fun b hb => keep b (by simp [hb])).put ow' (set_none_at hl)
  rw [List.set_set, set_self ev] at hs
  refine ⟨fp, f2, f3, hs, h2.mono .refl fun b hb => keep b (by simp [hb]), h3.mono .refl fun b hb => keep b (by simp [hb]), ?_⟩
  refine (fit.write (a := a) (by simp) ha po ho).perm ?_
  have := (pf.append_right f2).append_right f3
  refine List.Perm.symm ?_
  simpa [List.append_assoc] using this
/-- a list of level 1 -/
theorem Rel.mutL {W : Wd} {Fr : Addr → Prop} {s : S} {σ : L2.St} {H : Hp} (r : Rel W Fr [] s σ H) {i : Nat} {ds : List D} (e : s.env[i]? = some (some (1, .lst ds))) :
    ∃ a vs, σ[i]? = some (some (.ref a)) ∧ H a = some (.lst vs) ∧ RpAll W vs ds ∧ ∀ (vs' : List V) (ds' : List D), RpAll W vs' ds' → Agree Fr H (upd H a (.lst vs')) ∧ Rel W Fr [] { s with env := s.env.set i (some (1, .lst ds')) } σ (upd H a (.lst vs')) := by
  obtain ⟨a, o, f, ev, ha, po, ow, nd, k⟩ := r.mut (d := .lst ds) trivial e
  obtain ⟨a', vs, fs, e1, q, rows, ef⟩ := ow
  cases e1
  have rp : RpAll W vs ds := rows.frozen fun v d g _ o => o.1
  have hf : f = [] := by
    cases ef
    have : ∀ {vs : List V} {ds : List D} {fs : List Addr}, Row (Own W H 0) vs ds fs → fs = [] := by
      intro vs ds fs h
      induction h with
      | nil => rfl
      | cons p _ ih => rw [p.2, ih]; rfl
    exact this rows
  subst hf
  exact ⟨a, vs, ev, q, rp, fun vs' ds' rp' => k _ _ _ nofun (own1 upd_same rp')⟩
theorem Rel.mutK {W : Wd} {Fr : Addr → Prop} {s : S} {σ : L2.St} {H : Hp} (r : Rel W Fr [] s σ H) {i : Nat} {ds : List (Key × D)} (e : s.env[i]? = some (some (1, .dct ds))) :
    ∃ a vs, σ[i]? = some (some (.ref a)) ∧ H a = some (.dK vs) ∧ vs.map (·.1) = ds.map (·.1) ∧ RpAll W (vs.map (·.2)) (ds.map (·.2)) ∧ ∀ (vs' : List (Key × V)) (ds' : List (Key × D)), vs'.map (·.1) = ds'.map (·.1) → RpAll W (vs'.map (·.2)) (ds'.map (·.2)) →
      Agree Fr H (upd H a (.dK vs')) ∧ Rel W Fr [] { s with env := s.env.set i (some (1, .dct ds')) } σ (upd H a (.dK vs')) := by
  obtain ⟨a, o, f, ev, ha, po, ow, nd, k⟩ := r.mut (d := .dct ds) trivial e
  obtain ⟨a', vs, fs, e1, q, ek, rows, ef⟩ := ow
  cases e1
  have rp : RpAll W (vs.map (·.2)) (ds.map (·.2)) := rows.frozen fun v d g _ o => o.1
  have hf : f = [] := by
    cases ef
    have : ∀ {vs : List V} {ds : List D} {fs : List Addr}, Row (Own W H 0) vs ds fs → fs = [] := by
      intro vs ds fs h
      induction h with
      | nil => rfl
      | cons p _ ih => rw [p.2, ih]; rfl
    exact this rows
  subst hf
  exact ⟨a, vs, ev, q, ek, rp, fun vs' ds' ek' rp' => k _ _ _ nofun (own1d upd_same ek' rp')⟩
section
variable {X : Cx}
/-- the name's list is there -/
def S.isList (s : S) (i : Nat) : Bool := match s.env[i]? with
  | some (some (_, .lst _)) => true
  | _ => false
theorem Rel.isList {W : Wd} {Fr : Addr → Prop} {s : S} {σ : L2.St} {H : Hp} {K : PySem.W.Frag} (r : Rel W Fr [] s σ H) {i : Nat} (h : s.isList i = true) : ∃ v, σ[i]? = some (some v) ∧ tyV K "list" v H := by
  unfold S.isList at h
  split at h
  · rename_i l ds e
    obtain ⟨v, f, ev, ow⟩ := r.slot e
    have vw := ow.vw r.fzok _
    cases vw with
    | lst e' _ => exact ⟨_, ev, .inl ⟨rfl, _, .inl e'⟩⟩
  · cases h
structure NameAt (X : Cx) (i : Nat) (x : Str) : Prop where
  at_ : X.N[i]? = some x
  vis : Vis X.env.scope x
  db : (x == ("__debug__" : Str)) = false
  cd : (x == ("__classdict__" : Str)) = false
theorem NameAt.pe {i : Nat} {x : Str} {pos : Pos} (h : NameAt X i x) : PE X (.Name x pos) (tVar i) := pe_var h.at_ h.vis h.db h.cd
theorem few1 {e : Expr} {env : Env} {cpos : Pos} (h : notStar e = true) : ((backTo cpos (starEach [e] env)).all (fun x => !x.1) && (backToKw cpos (keywordEach [] env)).all (fun x => x.1.isSome)
      && decide (([e] : List Expr).length + ([] : List Keyword).length + (if ([] : List Keyword).isEmpty then 0 else 1) < 30)) = true := by
  rw [star_cons h]; rfl
/-- x.append(e) -/
def sAppend (i : Nat) (m : EV) : Sm := fun s => if s.isList i then (m s).then fun d s1 => (match s1.env[i]? with
  | some (some (1, .lst xs)) => if szOk xs.length then .nx { s1 with env := s1.env.set i (some (1, .lst (xs ++ [d]))) } else .bad
  | _ => .bad) else .bad
theorem den_append {i : Nat} {x : Str} {m : EV} {e : Expr} {px ap cp pos : Pos} (hx : NameAt X i x) (hl : (ap.endLine == cp.line) = true) (hs : notStar e = true) (h : DenV X m e) : DenS X (sAppend i m) (.Expr (.Call (.Attribute (.Name x px) "append" ap) [e] [] cp) pos) := by
  intro W Fr s σ H D r hp
  refine .of (ps_expr (pe_bm PySem.F.plainAttrs_list PySem.F.slot_list_append PySem.F.type_list_append mt_append hx.pe (pa_cons (pU e) pa_nil (star_cons hs)) rfl (few1 hs) hl (star_cons hs) rfl) (notComp_sw rfl)) ?_
  unfold sAppend at hp
  split at hp
  · rename_i hil
    obtain ⟨v, ev, ty⟩ := r.isList hil
    refine ⟨v, ev, ty, ?_⟩
    cases hm : m s with
    | bad => rw [hm] at hp; exact hp.elim
    | err x s1 => rw [hm] at hp; exact hp.elim
    | ok d s1 =>
      rw [hm] at hp
      refine h W Fr s σ H _ r d s1 hm fun W1 y H1 le1 ag1 r1 rp1 => ?_
      simp only [R.then] at hp
      split at hp
      · rename_i xs ei
        obtain ⟨a, vs, ea, ha, rpa, k⟩ := r1.mutL ei
        rw [ev] at ea
        cases ea
        split at hp
        · rename_i hz
          obtain ⟨ag2, r2⟩ := k (vs ++ [y]) (xs ++ [d]) (rpa.append (.cons rp1 .nil))
          exact ⟨a, vs, y, rfl, rfl, ha, by rw [rpa.length]; exact szOk.lt hz, hp W1 σ _ le1 (ag1.trans ag2) r2⟩
        · exact hp.elim
      · exact hp.elim
  · exact hp.elim
/-- x.extend(e), e a list -/
def sExtend (i : Nat) (m : E) : Sm := fun s => if s.isList i then (m s).then fun p s1 => (match p, s1.env[i]? with
  | (1, .lst ys), some (some (1, .lst xs)) => if szOk (xs.length + ys.length) then .nx { s1 with env := s1.env.set i (some (1, .lst (xs ++ ys))) } else .bad
  | _, _ => .bad) else .bad
theorem den_extend {i : Nat} {x : Str} {m : E} {e : Expr} {px ap cp pos : Pos} (hx : NameAt X i x) (hl : (ap.endLine == cp.line) = true) (hs : notStar e = true) (h : DenE X m e) : DenS X (sExtend i m) (.Expr (.Call (.Attribute (.Name x px) "extend" ap) [e] [] cp) pos) := by
  intro W Fr s σ H D r hp
  refine .of (ps_expr (pe_bm PySem.F.plainAttrs_list PySem.F.slot_list_extend PySem.F.type_list_extend mt_extend hx.pe (pa_cons (pU e) pa_nil (star_cons hs)) rfl (few1 hs) hl (star_cons hs) rfl) (notComp_sw rfl)) ?_
  unfold sExtend at hp
  split at hp
  · rename_i hil
    obtain ⟨v, ev, ty⟩ := r.isList hil
    refine ⟨v, ev, ty, ?_⟩
    cases hm : m s with
    | bad => rw [hm] at hp; exact hp.elim
    | err x s1 => rw [hm] at hp; exact hp.elim
    | ok p s1 =>
      rw [hm] at hp
      obtain ⟨l, d⟩ := p
      refine h W Fr s σ H _ r l d s1 hm fun W1 y H1 le1 ag1 r1 => ?_
      simp only [R.then] at hp
      split at hp
      · rename_i q1 q2 ys xs eq1 ei
        cases eq1
        obtain ⟨f1, f2, f0, h1, h2, h0, f⟩ := id r1
        obtain ⟨g, f3, _, oy, _⟩ := h0.uncons
        obtain ⟨b, us, fs, rfl, hb, rows, _⟩ := oy
        have rpb : RpAll W1 us ys := rows.frozen fun v d g _ o => o.1
        obtain ⟨a, vs, ea, ha, rpa, k⟩ := r1.untmp.mutL ei
        rw [ev] at ea
        cases ea
        split at hp
        · rename_i hz
          obtain ⟨ag2, r2⟩ := k (vs ++ us) (xs ++ ys) (rpa.append rpb)
          exact ⟨a, b, vs, us, rfl, rfl, ha, hb, by rw [rpa.length, rpb.length]; exact szOk.le hz, hp W1 σ _ le1 (ag1.trans ag2) r2⟩
        · exact hp.elim
      · exact hp.elim
  · exact hp.elim
/-- x.pop() -/
def ePop (i : Nat) : EV := fun s => match s.env[i]? with
  | some (some (1, .lst xs)) => (match xs[xs.length - 1]? with
    | some d => .ok d { s with env := s.env.set i (some (1, .lst xs.dropLast)) }
    | none => .bad)
  | _ => .bad
theorem dropLast_rp {W : Wd} {vs : List V} {ds : List D} (h : RpAll W vs ds) : RpAll W vs.dropLast ds.dropLast := by
  rw [List.dropLast_eq_take, List.dropLast_eq_take, h.length]
  exact h.take _
theorem den_pop {i : Nat} {x : Str} {px ap cp : Pos} (hx : NameAt X i x) (hl : (ap.endLine == cp.line) = true) : DenV X (ePop i) (.Call (.Attribute (.Name x px) "pop" ap) [] [] cp) := by
  intro W Fr s σ H Q r d s' hm q
  unfold ePop at hm
  split at hm
  · rename_i xs ei
    split at hm
    · rename_i d' ed
      cases hm
      obtain ⟨a, vs, ea, ha, rpa, k⟩ := r.mutL ei
      obtain ⟨v, hv, rv⟩ := rpa.get ed
      obtain ⟨ag2, r2⟩ := k _ _ (dropLast_rp rpa)
      refine .of (pe_bm0 PySem.F.plainAttrs_list PySem.F.slot_list_pop PySem.F.type_list_pop mt_pop hx.pe rfl hl) ?_
      exact ⟨_, ea, .inl ⟨rfl, _, SqL.of ha⟩, a, vs, v, rfl, rfl, ha, by rw [rpa.length]; exact hv, q W v _ .refl ag2 r2 rv⟩
    · cases hm
  · cases hm
/-- x.pop(k) -/
def ePopAt (i : Nat) (m : EO) : EV := fun s => if s.isList i then (m s).bind fun o s1 => (match s1.look o, s1.env[i]? with
  | some (_, .int k), some (some (1, .lst xs)) => if big62 k then (match seqIndex? k xs.length with
    | some j => (match xs[j]? with
      | some d => .ok d { s1 with env := s1.env.set i (some (1, .lst (xs.eraseIdx j))) }
      | none => .bad)
    | none => .bad) else .bad
  | _, _ => .bad) else .bad
theorem erase_rp {W : Wd} : ∀ {vs : List V} {ds : List D} (j : Nat), RpAll W vs ds → RpAll W (vs.eraseIdx j) (ds.eraseIdx j)
  | _, _, _, .nil => .nil
  | _, _, 0, .cons _ t => t
  | _, _, j + 1, .cons r t => .cons r (erase_rp j t)
theorem den_popAt {i : Nat} {x : Str} {m : EO} {e : Expr} {px ap cp : Pos} (hx : NameAt X i x) (hl : (ap.endLine == cp.line) = true) (hs : notStar e = true) (h : DenO X m e) : DenV X (ePopAt i m) (.Call (.Attribute (.Name x px) "pop" ap) [e] [] cp) := by
  intro W Fr s σ H Q r d s' hm q
  unfold ePopAt at hm
  split at hm
  · rename_i hil
    obtain ⟨o, s1, e1, hm⟩ := R.bind_ok hm
    split at hm
    · rename_i l k xs ek ei
      split at hm
      · rename_i hb
        split at hm
        · rename_i j ej
          split at hm
          · rename_i d' ed
            cases hm
            obtain ⟨v, ev, ty⟩ := r.isList hil
            refine .of (pe_bm PySem.F.plainAttrs_list PySem.F.slot_list_pop PySem.F.type_list_pop mt_popAt hx.pe (pa_cons (pU e) pa_nil (star_cons hs)) rfl (few1 hs) hl (star_cons hs) rfl) ?_
            refine ⟨v, ev, ty, ?_⟩
            refine h W Fr s σ H _ r o s1 e1 fun W1 y H1 le1 ag1 r1 or1 => ?_
            obtain ⟨fk, ok⟩ := r1.look or1 ek
            cases ok.int
            obtain ⟨a, vs, ea, ha, rpa, kk⟩ := r1.mutL ei
            rw [ev] at ea
            cases ea
            obtain ⟨u, hu, ru⟩ := rpa.get ed
            obtain ⟨ag2, r2⟩ := kk _ _ (erase_rp j rpa)
            have hb' := of_decide_eq_true hb
            exact ⟨a, vs, k, j, u, rfl, rfl, ha, by omega, by omega, by rw [rpa.length]; exact ej, hu, q W1 u _ le1 (ag1.trans ag2) r2 ru⟩
          · cases hm
        · cases hm
      · cases hm
    · cases hm
  · cases hm
/-! ### d[k] = v -/
def putL {α : Type} (kvs : List (Key × α)) (k : Key) (v : α) : List (Key × α) :=
  if (kvs.any fun kv => decide (kv.1 = k)) = true then kvs.map (fun kv => if kv.1 = k then (kv.1, v) else kv) else kvs ++ [(k, v)]
theorem putL_eq (kvs : List (Key × V)) (k : Key) (v : V) : putK kvs k v = putL kvs k v := rfl
theorem put_rel {W : Wd} {k : Key} {v : V} {d : D} (hv : Rp W v d) {vs : List (Key × V)} {ds : List (Key × D)} (ek : vs.map (·.1) = ds.map (·.1)) (rp : RpAll W (vs.map (·.2)) (ds.map (·.2))) :
    (putL vs k v).map (·.1) = (putL ds k d).map (·.1) ∧ RpAll W ((putL vs k v).map (·.2)) ((putL ds k d).map (·.2)) := by
  have ea : (vs.any fun kv => decide (kv.1 = k)) = (ds.any fun kv => decide (kv.1 = k)) := by
    have h1 : (vs.any fun kv => decide (kv.1 = k)) = (vs.map (·.1)).any fun x => decide (x = k) := by rw [List.any_map]; rfl
    have h2 : (ds.any fun kv => decide (kv.1 = k)) = (ds.map (·.1)).any fun x => decide (x = k) := by rw [List.any_map]; rfl
    rw [h1, h2, ek]
  have both : ∀ {vs : List (Key × V)} {ds : List (Key × D)}, vs.map (·.1) = ds.map (·.1) → RpAll W (vs.map (·.2)) (ds.map (·.2)) →
      (vs.map fun kv => if kv.1 = k then (kv.1, v) else kv).map (·.1) = (ds.map fun kv => if kv.1 = k then (kv.1, d) else kv).map (·.1) ∧ RpAll W ((vs.map fun kv => if kv.1 = k then (kv.1, v) else kv).map (·.2)) ((ds.map fun kv => if kv.1 = k then (kv.1, d) else kv).map (·.2)) := by
    intro vs
    induction vs with
    | nil =>
      intro ds e _
      cases ds with
      | nil => exact ⟨rfl, .nil⟩
      | cons _ _ => cases e
    | cons p vs ih =>
      intro ds e rr
      cases ds with
      | nil => cases e
      | cons q ds =>
        obtain ⟨k1, v1⟩ := p
        obtain ⟨k2, d2⟩ := q
        simp only [List.map_cons, List.cons.injEq] at e
        obtain ⟨rfl, e2⟩ := e
        cases rr with
        | cons r1 r2 =>
          obtain ⟨a1, a2⟩ := ih e2 r2
          by_cases hk : k1 = k
          · simp only [List.map_cons, if_pos hk, List.cons.injEq]
            exact ⟨⟨trivial, a1⟩, .cons hv a2⟩
          · simp only [List.map_cons, if_neg hk, List.cons.injEq]
            exact ⟨⟨trivial, a1⟩, .cons r1 a2⟩
  unfold putL
  rw [ea]
  split
  · exact both ek rp
  · simp only [List.map_append, List.map_cons, List.map_nil, ek]
    exact ⟨trivial, rp.append (.cons hv .nil)⟩
end
/-! ### a store with a value that may be owned -/
theorem Rel.mut2 {W : Wd} {Fr : Addr → Prop} {s : S} {σ : L2.St} {H : Hp} {lv : Nat} {v : V} {dv : D} (r : Rel W Fr [(lv, v, dv)] s σ H) {i l : Nat} {d : D} (hd : match d with | .lst _ | .dct _ => True | _ => False) (e : s.env[i]? = some (some (l + 1, d))) :
    ∃ a o f fv, σ[i]? = some (some (.ref a)) ∧ H a = some o ∧ Plain o ∧ Own W H (l + 1) (.ref a) d (a :: f) ∧ Own W H lv v dv fv ∧ (a :: (f ++ fv)).Nodup ∧
      ∀ o' l' d' g p, (∀ ps, o' ≠ .tbl ps) → Own W (upd H a o') l' (.ref a) d' g → g.Sublist p → p.Perm (a :: (f ++ fv)) → Agree Fr H (upd H a o') ∧ Rel W Fr [] { s with env := s.env.set i (some (l', d')) } σ (upd H a o') := by
  obtain ⟨f1, f2, f3, h1, h2, h3, f⟩ := r
  obtain ⟨fv, f3', rfl, ov, h3'⟩ := h3.uncons
  cases h3'
  rw [List.append_nil] at f
  obtain ⟨u, g, rr, ev, ow, h1', p⟩ := h1.take e
  have shape : ∃ a o fs, u = .ref a ∧ H a = some o ∧ Plain o ∧ g = a :: fs := by
    cases d with
    | lst ds => obtain ⟨a, vs, fs, e1, q, _, ef⟩ := id ow; exact ⟨a, _, fs, e1, q, trivial, ef⟩
    | dct kvs => obtain ⟨a, vs, fs, e1, q, _, _, ef⟩ := id ow; exact ⟨a, _, fs, e1, q, trivial, ef⟩
    | _ => exact hd.elim
  obtain ⟨a, o, fs, rfl, ha, po, rfl⟩ := shape
  have pp : (f1 ++ f2 ++ fv).Perm ((a :: (fs ++ fv)) ++ (rr ++ f2)) := by
    calc (f1 ++ f2 ++ fv).Perm (((a :: fs) ++ rr) ++ f2 ++ fv) := (p.append_right f2).append_right fv
      _ = (a :: fs) ++ ((rr ++ f2) ++ fv) := by simp [List.append_assoc]
      List.Perm _ ((a :: fs) ++ (fv ++ (rr ++ f2))) := (List.perm_append_comm).append_left _
      _ = _ := by simp [List.append_assoc]
  have fit := f.perm pp
  have hnd := List.nodup_append.mp fit.nd
  have hl : i < s.env.length := (List.getElem?_eq_some_iff.mp e).1
  refine ⟨a, o, fs, fv, ev, ha, po, ow, ov, hnd.1, fun o' l' d' g p' ho ow' sub per => ?_⟩
  have keep : ∀ b ∈ rr ++ f2, upd H a o' b = H b := fun b hb => upd_ne fun z => hnd.2.2 a (by simp) b hb z.symm
  refine ⟨fun b hb => upd_ne fun z => (fit.sep a (by simp)).2 (z ▸ hb), ?_⟩
  obtain ⟨fp, hs, pf⟩ := (h1'.mono .refl fun b hb => keep b (by simp [hb])).put ow' (set_none_at hl)
  rw [List.set_set, set_self ev] at hs
  refine ⟨fp, f2, [], hs, h2.mono .refl fun b hb => keep b (by simp [hb]), .nil, ?_⟩
  have fit2 := (fit.write (a := a) (o := o') (by simp) ha po ho).perm ((per.symm.append_right (rr ++ f2)))
  have fit3 := fit2.sub (sub.append_right (rr ++ f2))
  refine fit3.perm ?_
  have := pf.append_right f2
  refine List.Perm.symm ?_
  simpa [List.append_assoc] using this
/-- a cell's dict -/
theorem Rel.mutC {W : Wd} {Fr : Addr → Prop} {s : S} {σ : L2.St} {H : Hp} (r : Rel W Fr [] s σ H) {n : Nat} {ds : List (Key × D)} (e : s.st[n]? = some (1, .dct ds)) :
    ∃ a vs, W.cs[n]? = some a ∧ H a = some (.dK vs) ∧ vs.map (·.1) = ds.map (·.1) ∧ RpAll W (vs.map (·.2)) (ds.map (·.2)) ∧ ∀ (vs' : List (Key × V)) (ds' : List (Key × D)), vs'.map (·.1) = ds'.map (·.1) → RpAll W (vs'.map (·.2)) (ds'.map (·.2)) →
      Agree Fr H (upd H a (.dK vs')) ∧ Rel W Fr [] { s with st := s.st.set n (1, .dct ds') } σ (upd H a (.dK vs')) := by
  obtain ⟨f1, f2, f3, h1, h2, h3, f⟩ := r
  cases h3
  rw [List.append_nil] at f
  obtain ⟨a, g, h, ea, ow, p, k⟩ := h2.lens e
  obtain ⟨a', vs, fs, e1, q, ek, rows, ef⟩ := ow
  cases e1
  have rp : RpAll W (vs.map (·.2)) (ds.map (·.2)) := rows.frozen fun v d g _ o => o.1
  have hf : fs = [] := by
    have : ∀ {vs : List V} {ds : List D} {fs : List Addr}, Row (Own W H 0) vs ds fs → fs = [] := by
      intro vs ds fs h
      induction h with
      | nil => rfl
      | cons p _ ih => rw [p.2, ih]; rfl
    exact this rows
  subst hf
  subst ef
  have pp : (f1 ++ f2).Perm ([a] ++ (f1 ++ h)) := by
    calc (f1 ++ f2).Perm (f1 ++ ([a] ++ h)) := p.append_left _
      _ = (f1 ++ [a]) ++ h := (List.append_assoc ..).symm
      List.Perm _ (([a] ++ f1) ++ h) := (List.perm_append_comm).append_right _
      _ = _ := List.append_assoc ..
  have fit := f.perm pp
  have hnd := List.nodup_append.mp fit.nd
  refine ⟨a, vs, ea, q, ek, rp, fun vs' ds' ek' rp' => ?_⟩
  have keep : ∀ b ∈ f1 ++ h, upd H a (.dK vs') b = H b := fun b hb => upd_ne fun z => hnd.2.2 a (by simp) b hb z.symm
  refine ⟨fun b hb => upd_ne fun z => (fit.sep a (by simp)).2 (z ▸ hb), ?_⟩
  obtain ⟨f', c, p'⟩ := k W (upd H a (.dK vs')) 1 (.dct ds') [a] .refl (fun b hb => keep b (by simp [hb])) (own1d upd_same ek' rp')
  refine ⟨f1, f', [], h1.mono .refl fun b hb => keep b (by simp [hb]), c, .nil, ?_⟩
  rw [List.append_nil]
  refine (fit.write (a := a) (o := .dK vs') (by simp) q trivial nofun).perm ?_
  refine List.Perm.symm ?_
  calc (f1 ++ f').Perm (f1 ++ ([a] ++ h)) := p'.append_left _
    _ = (f1 ++ [a]) ++ h := (List.append_assoc ..).symm
    List.Perm _ (([a] ++ f1) ++ h) := (List.perm_append_comm).append_right _
    _ = _ := List.append_assoc ..
/-- a row with one value put in: the footprint -/
theorem Row.app {P : V → D → List Addr → Prop} : ∀ {vs : List V} {ds : List D} {fs : List Addr} {v : V} {d : D} {f : List Addr}, Row P vs ds fs → P v d f → Row P (vs ++ [v]) (ds ++ [d]) (fs ++ f)
  | _, _, _, _, _, f, .nil, h => by
    have := Row.cons h (.nil (P := P))
    simpa using this
  | _, _, _, _, _, f, .cons (f := f0) (fs := fs) r t, h => by
    have := Row.cons r (t.app h)
    simpa [List.append_assoc] using this
theorem row_put {P : V → D → List Addr → Prop} {k : Key} {v : V} {d : D} {f : List Addr} (hv : P v d f) : ∀ {vs : List (Key × V)} {ds : List (Key × D)} {fs : List Addr}, vs.map (·.1) = ds.map (·.1) → (vs.map (·.1)).Nodup → Row P (vs.map (·.2)) (ds.map (·.2)) fs → (vs.any fun kv => decide (kv.1 = k)) = true →
    (vs.map fun kv => if kv.1 = k then (kv.1, v) else kv).map (·.1) = (ds.map fun kv => if kv.1 = k then (kv.1, d) else kv).map (·.1) ∧
    ∃ g, Row P ((vs.map fun kv => if kv.1 = k then (kv.1, v) else kv).map (·.2)) ((ds.map fun kv => if kv.1 = k then (kv.1, d) else kv).map (·.2)) g ∧ ∃ p, g.Sublist p ∧ p.Perm (fs ++ f)
  | [], _, _, _, _, _, h => by cases h
  | (k1, v1) :: vs, [], _, e, _, _, _ => by cases e
  | (k1, v1) :: vs, (k2, d2) :: ds, _, e, nd, .cons (f := f0) (fs := fs) r t, h => by
    simp only [List.map_cons, List.cons.injEq] at e
    obtain ⟨rfl, e⟩ := e
    have nd' := List.nodup_cons.mp nd
    by_cases hk : k1 = k
    · subst hk
      have no : ∀ {α : Type} {xs : List (Key × α)} {z : α}, k1 ∉ xs.map (·.1) → (xs.map fun kv => if kv.1 = k1 then (kv.1, z) else kv) = xs := by
        intro α xs z hn
        induction xs with
        | nil => rfl
        | cons x xs ih =>
          simp only [List.map_cons, List.mem_cons, not_or] at hn
          rw [List.map_cons, ih hn.2, if_neg fun q => hn.1 q.symm]
      have n1 : k1 ∉ vs.map (·.1) := nd'.1
      have n2 : k1 ∉ ds.map (·.1) := by rw [← e]; exact n1
      simp only [List.map_cons, if_true, no n1, no n2]
      refine ⟨by rw [e], f ++ fs, .cons hv t, f0 ++ (f ++ fs), List.sublist_append_right _ _, ?_⟩
      calc (f0 ++ (f ++ fs)).Perm (f0 ++ (fs ++ f)) := (List.perm_append_comm).append_left _
        _ = _ := (List.append_assoc ..).symm
    · have h' : (vs.any fun kv => decide (kv.1 = k)) = true := by
        simp only [List.any_cons, decide_eq_false hk, Bool.false_or] at h
        exact h
      obtain ⟨a1, g, a2, p, sb, pm⟩ := row_put hv e nd'.2 t h'
      simp only [List.map_cons, if_neg hk]
      refine ⟨by rw [a1], f0 ++ g, .cons r a2, f0 ++ p, sb.append_left _, ?_⟩
      calc (f0 ++ p).Perm (f0 ++ (fs ++ f)) := pm.append_left _
        _ = _ := (List.append_assoc ..).symm
def nodupK (ks : List Key) : Bool := match ks with
  | [] => true
  | k :: r => !(r.any fun x => decide (x = k)) && nodupK r
theorem nodupK_ok : ∀ {ks : List Key}, nodupK ks = true → ks.Nodup
  | [], _ => .nil
  | k :: r, h => by
    have h' : (!(r.any fun x => decide (x = k)) && nodupK r) = true := h
    simp only [Bool.and_eq_true, Bool.not_eq_true', List.any_eq_false, decide_eq_true_eq] at h'
    exact List.nodup_cons.mpr ⟨fun hm => h'.1 k hm rfl, nodupK_ok h'.2⟩
theorem Own.put2 {W : Wd} {H : Hp} {a : Addr} {k : Key} {v : V} {d : D} {f fv : List Addr} {vs : List (Key × V)} {ds : List (Key × D)} (e : H a = some (.dK vs)) (ek : vs.map (·.1) = ds.map (·.1)) (hn : nodupK (ds.map (·.1)) = true) (rows : Row (Own W H 1) (vs.map (·.2)) (ds.map (·.2)) f) (ov : Own W H 1 v d fv) (nd : (a :: (f ++ fv)).Nodup) :
    ∃ g p, Own W (upd H a (.dK (putL vs k v))) 2 (.ref a) (.dct (putL ds k d)) g ∧ g.Sublist p ∧ p.Perm (a :: (f ++ fv)) := by
  have ea : (vs.any fun kv => decide (kv.1 = k)) = (ds.any fun kv => decide (kv.1 = k)) := by
    have h1 : (vs.any fun kv => decide (kv.1 = k)) = (vs.map (·.1)).any fun x => decide (x = k) := by rw [List.any_map]; rfl
    have h2 : (ds.any fun kv => decide (kv.1 = k)) = (ds.map (·.1)).any fun x => decide (x = k) := by rw [List.any_map]; rfl
    rw [h1, h2, ek]
  have hnd := List.nodup_cons.mp nd
  have mv : ∀ (o' : HO) {v : V} {d : D} {g : List Addr}, (∀ b ∈ g, b ∈ f ++ fv) → Own W H 1 v d g → Own W (upd H a o') 1 v d g := fun o' v d g hg o => o.mono .refl _ fun b hb => upd_ne fun z => hnd.1 (z ▸ hg b hb)
  generalize eo : (HO.dK (putL vs k v)) = o'
  have rows' : Row (Own W (upd H a o') 1) (vs.map (·.2)) (ds.map (·.2)) f := rows.imp fun v d g hs o => mv o' (fun b hb => List.mem_append_left _ (hs b hb)) o
  have ov' : Own W (upd H a o') 1 v d fv := mv o' (fun b hb => List.mem_append_right _ hb) ov
  cases hany : (vs.any fun kv => decide (kv.1 = k)) with
  | true =>
    obtain ⟨a1, g, a2, p, sb, pm⟩ := row_put (k := k) ov' ek (by rw [ek]; exact nodupK_ok hn) rows' hany
    have e1 : putL vs k v = vs.map fun kv => if kv.1 = k then (kv.1, v) else kv := if_pos hany
    have e2 : putL ds k d = ds.map fun kv => if kv.1 = k then (kv.1, d) else kv := if_pos (ea ▸ hany)
    exact ⟨a :: g, a :: p, ⟨a, _, g, rfl, by rw [upd_same, ← eo], by rw [e1, e2]; exact a1, by rw [e1, e2]; exact a2, rfl⟩, sb.cons₂ a, pm.cons a⟩
  | false =>
    have e1 : putL vs k v = vs ++ [(k, v)] := if_neg (by rw [hany]; exact nofun)
    have e2 : putL ds k d = ds ++ [(k, d)] := if_neg (by rw [← ea, hany]; exact nofun)
    refine ⟨a :: (f ++ fv), a :: (f ++ fv), ⟨a, _, f ++ fv, rfl, by rw [upd_same, ← eo], by rw [e1, e2]; simp [ek], ?_, rfl⟩, List.Sublist.refl _, .refl _⟩
    rw [e1, e2]
    simpa using rows'.app ov'
section
variable {X : Cx}
def S.bound (s : S) (i : Nat) : Bool := match s.env[i]? with
  | some (some _) => true
  | _ => false
def storeK (s : S) (i : Nat) (k : Key) (p : Nat × D) : Option S := match s.env[i]? with
  | some (some (_, .cell n)) => (match s.st[n]? with
    | some (1, .dct kvs) => if szOk kvs.length then some { s with st := s.st.set n (1, .dct (putL kvs k p.2)) } else none
    | _ => none)
  | some (some (L, .dct kvs)) => if szOk kvs.length then
      (if p.1 = 1 ∧ ((L = 1 ∧ kvs = []) ∨ (L = 2 ∧ nodupK (kvs.map (·.1)) = true)) then some { s with env := s.env.set i (some (2, .dct (putL kvs k p.2))) }
       else if L = 1 then some { s with env := s.env.set i (some (1, .dct (putL kvs k p.2))) } else none) else none
  | _ => none
/-- x[k] = v where x is a name -/
def sDPut (i : Nat) (mk : EO) (mv : E) : Sm := fun s => (mv s).then fun p s1 => if s1.bound i then (mk s1).then fun ok s2 => (match s2.look ok with
  | some (_, kd) => (match kd.key with
    | some k => (match storeK s2 i k p with
      | some s3 => .nx s3
      | none => .bad)
    | none => .bad)
  | none => .bad) else .bad
theorem store_rel {W : Wd} {Fr : Addr → Prop} {s s' : S} {σ : L2.St} {H : Hp} {i : Nat} {k : Key} {l : Nat} {v : V} {d : D} (r : Rel W Fr [(l, v, d)] s σ H) (h : storeK s i k (l, d) = some s') :
    ∃ W' a H', Wle W W' ∧ σ[i]? = some (some (.ref a)) ∧ DPut H a (kV k) v H' ∧ Agree Fr H H' ∧ Rel W' Fr [] s' σ H' := by
  unfold storeK at h
  split at h
  · rename_i L n ei
    split at h
    · rename_i kvs en
      split at h
      · rename_i hz
        cases h
        obtain ⟨W', le, rp, r'⟩ := r.thaw
        obtain ⟨u, f, eu, ow⟩ := r'.slot ei
        have hc := ow.rp trivial
        obtain ⟨a, vs, ea, ha, ek, rpa, kk⟩ := r'.mutC en
        cases hc with
        | cell e2 =>
          rw [ea] at e2
          cases e2
          obtain ⟨p1, p2⟩ := put_rel (k := k) rp ek rpa
          obtain ⟨ag, r2⟩ := kk (putL vs k v) (putL kvs k d) p1 p2
          refine ⟨W', a, _, le, eu, DPut.k ha ?_, ag, r2⟩
          have : vs.length = kvs.length := by have := congrArg List.length ek; simpa using this
          rw [this]; exact szOk.lt hz
      · cases h
    · cases h
  · rename_i L kvs ei
    split at h
    · rename_i hz
      split at h
      · rename_i hc
        cases h
        obtain ⟨hl, hc⟩ := hc
        simp only at hl
        subst hl
        have key : ∃ M, L = M + 1 ∧ nodupK (kvs.map (·.1)) = true ∧ (M = 1 ∨ kvs = []) := by
          rcases hc with ⟨h1, h2⟩ | ⟨h1, h2⟩
          · exact ⟨0, h1, by rw [h2]; rfl, .inr h2⟩
          · exact ⟨1, h1, h2, .inl rfl⟩
        obtain ⟨M, rfl, hn, hM⟩ := key
        obtain ⟨a, o, f, fv, ea, ha, po, ow, ov, nd, kk⟩ := r.mut2 (d := .dct kvs) trivial ei
        obtain ⟨a', vs, fs, e1, q, ek, rows, ef⟩ := ow
        cases e1
        cases ef
        have rows' : Row (Own W H 1) (vs.map (·.2)) (kvs.map (·.2)) f := by
          rcases hM with h1 | h1
          · subst h1; exact rows
          · subst h1
            have : vs = [] := by cases vs with | nil => rfl | cons _ _ => cases ek
            subst this
            cases rows
            exact .nil
        obtain ⟨g, p, o2, sb, pm⟩ := Own.put2 (k := k) q ek hn rows' ov nd
        obtain ⟨ag, r2⟩ := kk (.dK (putL vs k v)) _ _ g p nofun o2 sb pm
        refine ⟨W, a, _, .refl, ea, DPut.k q ?_, ag, r2⟩
        have : vs.length = kvs.length := by have := congrArg List.length ek; simpa using this
        rw [this]; exact szOk.lt hz
      · split at h
        · rename_i hL
          cases h
          subst hL
          obtain ⟨W', le, rp, r'⟩ := r.thaw
          obtain ⟨a, vs, ea, ha, ek, rpa, kk⟩ := r'.mutK ei
          obtain ⟨p1, p2⟩ := put_rel (k := k) rp ek rpa
          obtain ⟨ag, r2⟩ := kk (putL vs k v) (putL kvs k d) p1 p2
          refine ⟨W', a, _, le, ea, DPut.k ha ?_, ag, r2⟩
          have : vs.length = kvs.length := by have := congrArg List.length ek; simpa using this
          rw [this]; exact szOk.lt hz
        · cases h
    · cases h
  · cases h
theorem den_dput {k : Nat} {i : Nat} {x : Str} {mk : EO} {mv : E} {ke ve : Expr} {px sp pos : Pos} (hr : Room k X.A) (hx : NameAt X i x) (hn : notComp ve = true) (hk : DenO X mk ke) (hv : DenE X mv ve) : DenS X (sDPut i mk mv) (.Assign [.Subscript (.Name x px) ke sp] ve pos) := by
  intro W Fr s σ H D r hp
  have hu1 : X.A.units + 1 < cLine := by have := hr.units; omega
  refine .of (ps_dput hu1 hx.pe (pU ke) (pU ve) (notComp_sw hn)) ?_
  unfold sDPut at hp
  cases hm : mv s with
  | bad => rw [hm] at hp; exact hp.elim
  | err x s1 => rw [hm] at hp; exact hp.elim
  | ok p s1 =>
    obtain ⟨l, d⟩ := p
    rw [hm] at hp
    simp only [R.then] at hp
    refine hv W Fr s σ H _ r l d s1 hm fun W1 v H1 le1 ag1 r1 => ?_
    split at hp
    · rename_i hb
      have hsl : ∃ u, σ[i]? = some (some u) := by
        unfold S.bound at hb
        split at hb
        · rename_i p ei
          obtain ⟨lq, dq⟩ := p
          obtain ⟨u, f, eu, _⟩ := r1.slot ei
          exact ⟨u, eu⟩
        · cases hb
      obtain ⟨u, eu⟩ := hsl
      refine ⟨u, eu, ?_⟩
      obtain ⟨g, ov, hgn, hgf, r1'⟩ := r1.shelve
      cases hm2 : mk s1 with
      | bad => rw [hm2] at hp; exact hp.elim
      | err x s2 => rw [hm2] at hp; exact hp.elim
      | ok ok s2 =>
        rw [hm2] at hp
        simp only [] at hp
        refine hk W1 _ s1 σ H1 _ r1' ok s2 hm2 fun W2 y H2 le2 ag2 r2 or2 => ?_
        split at hp
        · rename_i lk kd ek
          split at hp
          · rename_i key hkey
            split at hp
            · rename_i s3 hs3
              have r3 := Rel.unshelve ov hgn hgf le2 ag2 r2
              obtain ⟨f2, ow2⟩ := r3.look or2 ek
              have ey := _root_.G.D.key_rp ow2 hkey
              subst ey
              obtain ⟨W3, a, H3, le3, ea, dp, ag3, r4⟩ := store_rel r3 hs3
              rw [eu] at ea
              cases ea
              exact ⟨a, H3, rfl, dp, hp W3 σ H3 ((le1.trans le2).trans le3) ((ag1.trans fun b hb => ag2 b (.inl hb)).trans ag3) r4⟩
            · exact hp.elim
          · exact hp.elim
        · exact hp.elim
    · exact hp.elim
end
end G
-- part Fw14
set_option Elab.async false
set_option linter.all false
set_option maxRecDepth 100000
set_option maxHeartbeats 4000000
set_option autoImplicit false
/-! Framework 14: displays of dicts, cells, isinstance, join, dict(pairs), constants of modules. -/
namespace G
open PySem PySem.Spec PyProof.Rows L2
variable [TabC]

section
variable {X : Cx}
/-! ### a module's constants -/
def GlobC (X : Cx) (x : Str) (d : D) : Prop := ∃ (u : Value) (v : V), X.mg x = some u ∧ RelV v u ∧ (∀ W, Rp W v d) ∧ (x == ("__debug__" : Str)) = false
theorem den_glob {x : Str} {d : D} {pos : Pos} (h : GlobC X x d) (hg : Gl X x) : DenV X (eC d) (.Name x pos) := by
  obtain ⟨u, v, hm, r, rp, hd⟩ := h
  exact den_c (pe_glob hg hm r hd) rp

/-! ### isinstance -/
def D.isT (T : String) : D → Option Bool
  | .non => some (T == "NoneType")
  | .bl _ => some (T == "bool" || T == "int")
  | .int _ => some (T == "int")
  | .str _ => some (T == "str")
  | .tup _ => some (T == "tuple")
  | .lst _ => some (T == "list")
  | .dct _ => some (T == "dict")
  | .cell _ => none
def okT (T : String) : Bool := T == "int" || T == "bool" || T == "str" || T == "tuple" || T == "list" || T == "dict"
theorem okT_cases {T : String} (h : okT T = true) : T = "int" ∨ T = "bool" ∨ T = "str" ∨ T = "tuple" ∨ T = "list" ∨ T = "dict" := by
  unfold okT at h
  simp only [Bool.or_eq_true, beq_iff_eq] at h
  rcases h with ((((h | h) | h) | h) | h) | h <;> simp [h]
theorem isT_ok {K : PySem.W.Frag} {H : Hp} {T : String} {v : V} {d : D} {b : Bool} (hT : okT T = true) (vw : Vw H v d) (h : d.isT T = some b) : ∃ t, TyX K H v t ∧ PySem.W.kitOne K t (.type T) = some b := by
  have k : ∀ {a : String}, kitB a T = some b → PySem.W.kitOne K (.type a) (.type T) = some b := fun h => kit_ty h
  cases vw with
  | non => refine ⟨_, .base .non, k ?_⟩; cases h; rcases okT_cases hT with rfl | rfl | rfl | rfl | rfl | rfl <;> decide +kernel
  | bl y => refine ⟨_, .base (.bl y), k ?_⟩; cases h; rcases okT_cases hT with rfl | rfl | rfl | rfl | rfl | rfl <;> decide +kernel
  | int y => refine ⟨_, .base (.int y), k ?_⟩; cases h; rcases okT_cases hT with rfl | rfl | rfl | rfl | rfl | rfl <;> decide +kernel
  | str y => refine ⟨_, .base (.str y), k ?_⟩; cases h; rcases okT_cases hT with rfl | rfl | rfl | rfl | rfl | rfl <;> decide +kernel
  | tup e _ => refine ⟨_, .base (.tup e), k ?_⟩; cases h; rcases okT_cases hT with rfl | rfl | rfl | rfl | rfl | rfl <;> decide +kernel
  | lst e _ =>
    rcases e with e | ⟨ob, e⟩
    · refine ⟨_, .base (.lst e), k ?_⟩; cases h; rcases okT_cases hT with rfl | rfl | rfl | rfl | rfl | rfl <;> decide +kernel
    · refine ⟨_, .base (.frz e), k ?_⟩; cases h; rcases okT_cases hT with rfl | rfl | rfl | rfl | rfl | rfl <;> decide +kernel
  | dct e _ _ => refine ⟨_, .base (.dK e), k ?_⟩; cases h; rcases okT_cases hT with rfl | rfl | rfl | rfl | rfl | rfl <;> decide +kernel
  | cell => cases h
def eIsi (T : String) (m : EO) : EV := fun s => (m s).bind fun o s1 => match s1.look o with
  | some (_, d) => R.opt ((d.isT T).map D.bl) s1
  | none => .bad
theorem den_isi {x : Str} {T : String} {m : EO} {e : Expr} {p p2 pos : Pos} (hT : okT T = true) (hx : bootBuiltins x = some (.type T)) (hgi : Gl X "isinstance") (hmi : X.mg "isinstance" = none) (hg : Gl X x) (hm : X.mg x = none) (hn : x ≠ "__name__") (hdb : (x == ("__debug__" : Str)) = false)
    (hs : notStar e = true) (h : DenO X m e) : DenV X (eIsi T m) (.Call (.Name "isinstance" p) [e, .Name x p2] [] pos) := by
  intro W Fr s σ H Q r d s' hm' q
  obtain ⟨o, s1, e1, hm'⟩ := R.bind_ok hm'
  split at hm'
  · rename_i l c ec
    obtain ⟨e2, es⟩ := R.opt_ok hm'
    subst es
    cases hb : c.isT T with
    | none => rw [hb] at e2; cases e2
    | some b =>
      rw [hb] at e2; cases e2
      refine .of (pe_callB call_isi hgi hmi rfl (pa_cons (pU e) (pa_cons (pe_bltn (v := .ty T) hg hm hx rfl hn hdb) pa_nil rfl) (star_cons hs)) (by decide) (by decide) (star_cons hs) rfl) ?_
      refine h W Fr s σ H _ r o s1 e1 fun W1 v H1 le1 ag1 r1 or1 => ?_
      obtain ⟨f, ow⟩ := r1.look or1 ec
      obtain ⟨t, ty, kt⟩ := isT_ok (K := X.K) hT (ow.vw r1.fzok _) hb
      exact ⟨v, .ty T, t, .type T, b, rfl, .ty T, ty, kt, q W1 _ H1 le1 ag1 r1 (.bl b)⟩
  · cases hm'

/-! ### join -/
def eJoin (m : EV) (me : EO) : EV := fun s => (m s).bind fun d s1 => (me s1).bind fun o s2 => match d, s2.look o with
  | .str a, some (l, .lst ds) => (match strsOf ds with
    | some ys => if l ≤ 1 ∧ (ys.map (·.length)).sum + ys.length * a.length ≤ 16777216 then .ok (.str (Txt.join a ys)) s2 else .bad
    | none => .bad)
  | .str a, some (_, .tup ds) => (match strsOf ds with
    | some ys => if (ys.map (·.length)).sum + ys.length * a.length ≤ 16777216 then .ok (.str (Txt.join a ys)) s2 else .bad
    | none => .bad)
  | _, _ => .bad
def D.isS : D → Bool
  | .str _ => true
  | _ => false
theorem den_join {m : EV} {me : EO} {o e : Expr} {ap cp : Pos} (hb : attributeBase o "join" X.env (eval o X.env) = eval o X.env) (hl : (ap.endLine == cp.line) = true) (hs : notStar e = true) (h : DenV X m o) (he : DenO X me e) : DenV X (eJoin m me) (.Call (.Attribute o "join" ap) [e] [] cp) := by
  intro W Fr s σ H Q r d s' hm q
  obtain ⟨d1, s1, e1, hm⟩ := R.bind_ok hm
  obtain ⟨o2, s2, e2, hm⟩ := R.bind_ok hm
  refine .of (pe_join (pU o) (pU e) (star_cons hs) hb hl) ?_
  refine h W Fr s σ H _ r d1 s1 e1 fun W1 v H1 le1 ag1 r1 rp1 => ?_
  split at hm
  · rename_i a l ds el rp1
    cases rp1
    split at hm
    · rename_i ys ey
      split at hm
      · rename_i hz
        cases hm
        refine ⟨⟨a, rfl⟩, ?_⟩
        refine he W1 Fr s1 σ H1 _ r1 o2 _ e2 fun W2 u H2 le2 ag2 r2 or2 => ?_
        obtain ⟨f, ow⟩ := r2.look or2 el
        obtain ⟨p, vs, rfl, hv, rp⟩ := ow.items r2.fzok hz.1
        have := strsOf_v rp ey
        subst this
        exact ⟨a, p, ys, rfl, rfl, .inl (.inl hv), hz.2, q W2 _ H2 (le1.trans le2) (ag1.trans ag2) r2 (.str _)⟩
      · cases hm
    · cases hm
  · rename_i a l ds el rp1
    cases rp1
    split at hm
    · rename_i ys ey
      split at hm
      · rename_i hz
        cases hm
        refine ⟨⟨a, rfl⟩, ?_⟩
        refine he W1 Fr s1 σ H1 _ r1 o2 _ e2 fun W2 u H2 le2 ag2 r2 or2 => ?_
        obtain ⟨f, ow⟩ := r2.look or2 el
        obtain ⟨p, vs, rfl, hv, rp⟩ := ow.tupI r2.fzok
        have := strsOf_v rp ey
        subst this
        exact ⟨a, p, ys, rfl, rfl, .inr (SqT.of hv), hz, q W2 _ H2 (le1.trans le2) (ag1.trans ag2) r2 (.str _)⟩
      · cases hm
    · cases hm
  · cases hm

/-! ### dict(pairs) -/
def pairD : D → Option (Key × D)
  | .tup [k, v] => k.key.map fun k => (k, v)
  | _ => none
def pairsD : List D → Option (List (Key × D))
  | [] => some []
  | d :: r => match pairD d, pairsD r with
    | some p, some ps => some (p :: ps)
    | _, _ => none
def mergeL {α : Type} (kvs more : List (Key × α)) : List (Key × α) := more.foldl (fun acc kv => putL acc kv.1 kv.2) kvs
def dictD : List (Nat × D) → Option (Nat × D)
  | [(l, .lst xs)] => if l ≤ 1 then (pairsD xs).map fun ps => (1, .dct (mergeL [] ps)) else none
  | _ => none
theorem merge_rel {W : Wd} : ∀ {us : List (Key × V)} {es : List (Key × D)} {vs : List (Key × V)} {ds : List (Key × D)}, us.map (·.1) = es.map (·.1) → RpAll W (us.map (·.2)) (es.map (·.2)) → vs.map (·.1) = ds.map (·.1) → RpAll W (vs.map (·.2)) (ds.map (·.2)) →
    (mergeL vs us).map (·.1) = (mergeL ds es).map (·.1) ∧ RpAll W ((mergeL vs us).map (·.2)) ((mergeL ds es).map (·.2))
  | [], [], _, _, _, _, h1, h2 => ⟨h1, h2⟩
  | [], _ :: _, _, _, e, _, _, _ => by cases e
  | _ :: _, [], _, _, e, _, _, _ => by cases e
  | (k1, u) :: us, (k2, d) :: es, vs, ds, e, .cons r t, h1, h2 => by
    simp only [List.map_cons, List.cons.injEq] at e
    obtain ⟨rfl, e⟩ := e
    obtain ⟨p1, p2⟩ := put_rel (k := k1) r h1 h2
    exact merge_rel (us := us) (es := es) e t p1 p2
theorem mergeK_eq (vs us : List (Key × V)) : mergeK vs us = mergeL vs us := rfl
theorem pairs_rel {W : Wd} {K : PySem.W.Frag} {H : Hp} (fz : ∀ a o, W.fz a = some o → H a = some o) : ∀ {vs : List V} {ds : List D} {ps : List (Key × D)}, RpAll W vs ds → pairsD ds = some ps →
    ∃ (as : List Addr) (kvs : List (Key × V)), vs = as.map V.ref ∧ Paired (fun p kv => SqT K H p [kV kv.1, kv.2]) as kvs ∧ kvs.map (·.1) = ps.map (·.1) ∧ RpAll W (kvs.map (·.2)) (ps.map (·.2))
  | _, _, _, .nil, h => by cases h; exact ⟨[], [], rfl, .nil, rfl, .nil⟩
  | _, _, _, .cons (v := v) (d := d) (ds := ds) r t, h => by
    unfold pairsD at h
    split at h
    · rename_i p ps e1 e2
      cases h
      obtain ⟨as, kvs, h1, h2, h3, h4⟩ := pairs_rel (K := K) fz t e2
      unfold pairD at e1
      split at e1
      · rename_i kd vd
        have e1 : Option.map (fun k => (k, vd)) kd.key = some p := e1
        cases hk : kd.key with
        | none => rw [hk] at e1; cases e1
        | some k =>
          rw [hk] at e1
          cases e1
          cases r with
          | tup ea rr =>
            rename_i a us
            cases rr with
            | cons rk rr => cases rr with
              | cons rv rr =>
                cases rr
                have ek := D.key_rp (H := H) (Own.zero rk) hk
                subst ek
                rename_i v2
                refine ⟨a :: as, (k, v2) :: kvs, by rw [h1]; rfl, .cons (SqT.of (fz _ _ ea)) h2, by simp [h3], .cons rv h4⟩
      · cases e1
    · cases h
theorem callS_dict (hc : X.calm = true) : CallS X (.type "dict") dictD := by
  refine callS_of (call_dictP hc) fun W Fr s σ H vs ps l d Q r ow hg q => ?_
  unfold dictD at hg
  split at hg
  · rename_i k xs
    split at hg
    · rename_i hl
      cases hp : pairsD xs with
      | none => rw [hp] at hg; cases hg
      | some prs =>
        rw [hp] at hg
        cases hg
        obtain ⟨v, f, rfl, o⟩ := ow.one
        obtain ⟨a, us, rfl, hv, rp⟩ := o.items r.fzok hl
        obtain ⟨as, kvs, e1, e2, e3, e4⟩ := pairs_rel (K := X.K) r.fzok rp hp
        subst e1
        refine ⟨a, as, kvs, rfl, .inl hv, e2, fun p hp => ?_⟩
        obtain ⟨m1, m2⟩ := merge_rel (vs := []) (ds := []) e3 e4 rfl .nil
        obtain ⟨ag, r'⟩ := r.newOwn (o := .dK (mergeL [] kvs)) hp (own1d upd_same m1 m2) nofun
        exact q _ _ _ .refl ag r'
    · cases hg
  · cases hg

/-! ### displays -/
def eDict0 : E := fun s => .ok (1, .dct []) s
theorem den_dict0 {pos : Pos} : DenE X eDict0 (.Dict [] [] pos) := by
  intro W Fr s σ H Q r l d s' hm q
  cases hm
  refine .of pe_dnewK fun p hp => ?_
  obtain ⟨ag, r'⟩ := r.newOwn (o := .dK []) hp (own1d (kvs := []) upd_same rfl .nil) nofun
  exact q _ _ _ .refl ag r'
def psNil : S → R (List (Key × D)) := fun s => .ok [] s
def psCons (mk mv : EV) (ms : S → R (List (Key × D))) : S → R (List (Key × D)) := fun s => (mk s).bind fun kd s1 => (mv s1).bind fun d s2 => (ms s2).bind fun ps s3 => match kd.key with
  | some k => .ok ((k, d) :: ps) s3
  | none => .bad
def trs (X : Cx) : List (Option Expr) → List Expr → List (TE × TE)
  | some k :: ks, v :: vs => (UE X k, UE X v) :: trs X ks vs
  | _, _ => []
theorem pps_trs {pos : Pos} : ∀ {ks : List (Option Expr)} {vs : List Expr}, ks.all (·.isSome) = true → ks.length = vs.length → PPs X pos ks vs (trs X ks vs)
  | [], [], _, _ => pps_nil
  | [], _ :: _, _, e => by cases e
  | _ :: _, [], _, e => by cases e
  | none :: _, _ :: _, h, _ => by cases h
  | some k :: ks, v :: vs, h, e => pps_cons (pU k) (pU v) (pps_trs (by simpa using h) (by simpa using e))
def DenPs (X : Cx) (m : S → R (List (Key × D))) (ks : List (Option Expr)) (vs : List Expr) : Prop := ∀ (W : Wd) (Fr : Addr → Prop) (s : S) (σ : L2.St) (H : Hp) (Q : List (V × V) → Hp → Prop), Rel W Fr [] s σ H → ∀ (ps : List (Key × D)) (s' : S), m s = .ok ps s' →
  (∀ (W' : Wd) (kvs : List (Key × V)) (H' : Hp), Wle W W' → Agree Fr H H' → Rel W' Fr [] s' σ H' → kvs.map (·.1) = ps.map (·.1) → RpAll W' (kvs.map (·.2)) (ps.map (·.2)) → Q (kvs.map fun kv => (kV kv.1, kv.2)) H') → tPairs (trs X ks vs) σ H Q
theorem den_psNil : DenPs X psNil [] [] := by
  intro W Fr s σ H Q r ps s' hm q
  cases hm
  exact q W [] H .refl .refl r rfl .nil
theorem den_psCons {mk mv : EV} {ms : S → R (List (Key × D))} {k v : Expr} {ks : List (Option Expr)} {vs : List Expr} (hk : DenV X mk k) (hv : DenV X mv v) (hs : DenPs X ms ks vs) : DenPs X (psCons mk mv ms) (some k :: ks) (v :: vs) := by
  intro W Fr s σ H Q r ps s' hm q
  obtain ⟨kd, s1, e1, hm⟩ := R.bind_ok hm
  obtain ⟨d, s2, e2, hm⟩ := R.bind_ok hm
  obtain ⟨ps2, s3, e3, hm⟩ := R.bind_ok hm
  split at hm
  · rename_i key ek
    cases hm
    refine hk W Fr s σ H _ r kd s1 e1 fun W1 x H1 le1 ag1 r1 rp1 => ?_
    refine hv W1 Fr s1 σ H1 _ r1 d s2 e2 fun W2 y H2 le2 ag2 r2 rp2 => ?_
    refine hs W2 Fr s2 σ H2 _ r2 ps2 s' e3 fun W3 kvs H3 le3 ag3 r3 ek3 rp3 => ?_
    have := D.key_rp (H := H1) (Own.zero rp1) ek
    subst this
    exact q W3 ((key, y) :: kvs) H3 ((le1.trans le2).trans le3) ((ag1.trans ag2).trans ag3) r3 (by simp [ek3]) (.cons (rp2.mono le3) rp3)
  · cases hm
def eDisp (ms : S → R (List (Key × D))) : E := fun s => (ms s).bind fun ps s1 => if ps.length ≤ 15 then .ok (1, .dct (mergeL [] ps)) s1 else .bad
theorem den_disp {ms : S → R (List (Key × D))} {k : Option Expr} {ks : List (Option Expr)} {vs : List Expr} {pos : Pos} (hall : (k :: ks).all (·.isSome) = true) (hl : (k :: ks).length = vs.length) (h15 : (k :: ks).length ≤ 15) (h : DenPs X ms (k :: ks) vs) : DenE X (eDisp ms) (.Dict (k :: ks) vs pos) := by
  intro W Fr s σ H Q r l d s' hm q
  obtain ⟨ps, s1, e1, hm⟩ := R.bind_ok hm
  split at hm
  · rename_i hz
    cases hm
    refine .of (pe_disp (pps_trs hall hl) hall hl (by simp) h15) fun p hp => ?_
    obtain ⟨ag, r'⟩ := r.newOwn (o := .dK []) hp (own1d (kvs := []) upd_same rfl .nil) nofun
    obtain ⟨g, ov, hn, hf, r2⟩ := r'.shelve
    obtain ⟨a', vs0, fs, e0, q0, ek0, rows0', ef⟩ := id ov
    cases e0
    have hvs0 : vs0 = [] := by cases vs0 with | nil => rfl | cons _ _ => cases ek0
    subst hvs0
    cases rows0'
    subst ef
    refine h W _ s σ _ _ r2 ps s' e1 fun W1 kvs H1 le1 ag1 r1 ek rp => ?_
    have hH1 : H1 p = some (.dK []) := by rw [ag1 p (.inr (by simp))]; exact q0
    have hlen : kvs.length = ps.length := by have := congrArg List.length ek; simpa using this
    refine ⟨hH1, kvs, rfl, by omega, ?_⟩
    have r3 := Rel.unshelve ov hn hf le1 ag1 r1
    obtain ⟨m1, m2⟩ := merge_rel (vs := []) (ds := []) ek rp rfl .nil
    -- the new dict is written
    obtain ⟨f1, f2, f3, h1, h2, h3, f⟩ := r1
    cases h3
    rw [List.append_nil] at f
    have hp1 : ∀ b ∈ f1 ++ f2, b ≠ p := fun b hb z => (f.sep b hb).2 (.inr (by simp [z]))
    have keep : ∀ b ∈ f1 ++ f2, upd H1 p (.dK (mergeL [] kvs)) b = H1 b := fun b hb => upd_ne (hp1 b hb)
    have agp : Agree Fr H1 (upd H1 p (.dK (mergeL [] kvs))) := fun b hb => upd_ne fun z => hf p (by simp) (z ▸ hb)
    refine q W1 (.ref p) _ le1 ((ag.trans fun b hb => ag1 b (.inl hb)).trans agp) ⟨f1, f2, [p] ++ [], h1.mono .refl fun b hb => keep b (by simp [hb]), h2.mono .refl fun b hb => keep b (by simp [hb]), .cons (own1d upd_same m1 m2) .nil, ?_⟩
    obtain ⟨g1, g2, g3, _, _, k3, fit⟩ := r3
    obtain ⟨gg, _, _, oo, _⟩ := k3.uncons
    have fitp : Fit W1 Fr ([p] ++ (f1 ++ f2)) H1 := by
      refine ⟨f.fz, ?_, fun b hb => ?_, fun b hb => f.fr b (.inl hb), f.tb, fun b hb => f.nt b ?_⟩
      · refine List.nodup_append.mpr ⟨by simp, f.nd, fun b hb c hc z => ?_⟩
        simp at hb
        exact hp1 c hc (z ▸ hb)
      · rcases List.mem_append.mp hb with z | z
        · simp at z
          subst z
          exact ⟨(f.fr b (.inr (by simp))).2, hf b (by simp)⟩
        · exact ⟨(f.sep b z).1, fun w => (f.sep b z).2 (.inl w)⟩
      · rcases hb with z | z | z
        · exact .inl z
        · exact .inr (.inl (.inl z))
        · rcases List.mem_append.mp z with z | z
          · simp at z
            exact .inr (.inl (.inr (by simp [z])))
          · exact .inr (.inr z)
    refine (fitp.write (a := p) (o := .dK (mergeL [] kvs)) (by simp) hH1 trivial nofun).perm ?_
    rw [List.append_nil]
    exact List.perm_append_comm
  · cases hm
/-- a dict of constant keys is a cell -/
def eCell (m : E) : EV := fun s => (m s).bind fun p s1 => match p with
  | (1, .dct kvs) => .ok (.cell s1.st.length) { s1 with st := s1.st ++ [(1, .dct kvs)] }
  | _ => .bad
theorem Cells.app {W W' : Wd} {H : Hp} (le : Wle W W') : ∀ {es : List (Nat × D)} {as f : List Addr} {l : Nat} {d : D} {a : Addr} {g : List Addr}, Cells W H es as f → Own W' H l (.ref a) d g → es.length = as.length ∧ Cells W' H (es ++ [(l, d)]) (as ++ [a]) (f ++ g)
  | _, _, _, l, d, a, g, .nil, o => ⟨rfl, by simpa using Cells.cons o (.nil)⟩
  | _, _, _, l, d, a, g, .cons (f := f0) (fs := fs) o0 t, o => by
    obtain ⟨e, c⟩ := t.app le o
    refine ⟨by simp [e], ?_⟩
    have := Cells.cons (o0.mono le _ fun _ _ => rfl) c
    simpa [List.append_assoc] using this
theorem Rel.toCell {W : Wd} {Fr : Addr → Prop} {s : S} {σ : L2.St} {H : Hp} {v : V} {kvs : List (Key × D)} (r : Rel W Fr [(1, v, .dct kvs)] s σ H) : ∃ W', Wle W W' ∧ Rp W' v (.cell s.st.length) ∧ Rel W' Fr [] { s with st := s.st ++ [(1, .dct kvs)] } σ H := by
  obtain ⟨f1, f2, f0, h1, h2, h0, f⟩ := r
  obtain ⟨g, f3, rfl, o, h3⟩ := h0.uncons
  cases h3
  obtain ⟨a, vs, fs, rfl, ha, ek, rows, ef⟩ := id o
  have le : Wle W { W with cs := W.cs ++ [a] } := ⟨fun _ _ e => e, fun n b e => by
    have hn : n < W.cs.length := (List.getElem?_eq_some_iff.mp e).1
    show (W.cs ++ [a])[n]? = some b
    rw [List.getElem?_append_left hn]; exact e⟩
  obtain ⟨el, c⟩ := h2.app le (o.mono le _ fun _ _ => rfl)
  refine ⟨_, le, .cell (by show (W.cs ++ [a])[s.st.length]? = some a; rw [el]; simp), f1, f2 ++ g, [], h1.mono le fun _ _ => rfl, c, .nil, ?_⟩
  refine Fit.perm (f := f1 ++ f2 ++ (g ++ [])) ⟨f.fz, f.nd, f.sep, f.fr, f.tb, f.nt⟩ (by simp [List.append_assoc])
theorem den_cell {m : E} {e : Expr} (h : DenE X m e) : DenV X (eCell m) e := by
  intro W Fr s σ H Q r d s' hm q
  obtain ⟨p, s1, e1, hm⟩ := R.bind_ok hm
  split at hm
  · rename_i kvs
    cases hm
    refine h W Fr s σ H Q r 1 _ s1 e1 fun W1 v H1 le1 ag1 r1 => ?_
    obtain ⟨W2, le2, rp, r2⟩ := r1.toCell
    exact q W2 v H1 (le1.trans le2) ag1 r2 rp
  · cases hm
/-- {k: a fresh list} -/
def eDispL (mk : EV) (mv : E) : E := fun s => (mk s).bind fun kd s1 => (mv s1).bind fun p s2 => match kd.key, p with
  | some k, (1, d) => .ok (2, .dct [(k, d)]) s2
  | _, _ => .bad
theorem den_dispL {mk : EV} {mv : E} {k v : Expr} {pos : Pos} (hk : DenV X mk k) (hv : DenE X mv v) : DenE X (eDispL mk mv) (.Dict [some k] [v] pos) := by
  intro W Fr s σ H Q r l d s' hm q
  obtain ⟨kd, s1, e1, hm⟩ := R.bind_ok hm
  obtain ⟨p, s2, e2, hm⟩ := R.bind_ok hm
  split at hm
  · rename_i kx key dv ek
    cases hm
    refine .of (pe_disp (pps_cons (pU k) (pU v) pps_nil) rfl rfl (by simp) (by simp)) fun p hp => ?_
    obtain ⟨ag, r'⟩ := r.newOwn (o := .dK []) hp (own1d (kvs := []) upd_same rfl .nil) nofun
    obtain ⟨g, ov, hn, hf, r2⟩ := r'.shelve
    obtain ⟨a', vs0, fs, e0, q0, ek0, rows0', ef⟩ := id ov
    cases e0
    have hvs0 : vs0 = [] := by cases vs0 with | nil => rfl | cons _ _ => cases ek0
    subst hvs0
    cases rows0'
    subst ef
    refine hk W _ s σ _ _ r2 kd s1 e1 fun W1 x H1 le1 ag1 r1 rp1 => ?_
    refine hv W1 _ s1 σ H1 _ r1 1 dv s' e2 fun W2 y H2 le2 ag2 r2' => ?_
    have := D.key_rp (H := H1) (Own.zero rp1) ek
    subst this
    have hH2 : H2 p = some (.dK []) := by rw [(ag1.trans ag2) p (.inr (by simp))]; exact q0
    refine ⟨hH2, [(key, y)], rfl, by simp, ?_⟩
    obtain ⟨f1, f2, f0, h1, h2, h0, f⟩ := r2'
    obtain ⟨fv, f3, rfl, o, h3⟩ := h0.uncons
    cases h3
    rw [List.append_nil] at f
    have hp1 : ∀ b ∈ f1 ++ f2 ++ fv, b ≠ p := fun b hb z => (f.sep b hb).2 (.inr (by simp [z]))
    have keep : ∀ b ∈ f1 ++ f2 ++ fv, upd H2 p (.dK [(key, y)]) b = H2 b := fun b hb => upd_ne (hp1 b hb)
    have agp : Agree Fr H2 (upd H2 p (.dK [(key, y)])) := fun b hb => upd_ne fun z => hf p (by simp) (z ▸ hb)
    have o' : Own W2 (upd H2 p (.dK [(key, y)])) 1 y dv fv := o.mono .refl _ fun b hb => keep b (by simp [hb])
    refine q W2 (.ref p) _ (le1.trans le2) ((ag.trans fun b hb => (ag1.trans ag2) b (.inl hb)).trans agp) ⟨f1, f2, (p :: (fv ++ [])) ++ [], h1.mono .refl fun b hb => keep b (by simp [hb]), h2.mono .refl fun b hb => keep b (by simp [hb]), .cons ⟨p, [(key, y)], fv ++ [], rfl, upd_same, rfl, .cons o' .nil, rfl⟩ .nil, ?_⟩
    have fitp : Fit W2 Fr ([p] ++ (f1 ++ f2 ++ fv)) H2 := by
      refine ⟨f.fz, ?_, fun b hb => ?_, fun b hb => f.fr b (.inl hb), f.tb, fun b hb => f.nt b ?_⟩
      · refine List.nodup_append.mpr ⟨by simp, f.nd, fun b hb c hc z => ?_⟩
        simp at hb
        exact hp1 c hc (z ▸ hb)
      · rcases List.mem_append.mp hb with z | z
        · simp at z
          subst z
          exact ⟨(f.fr b (.inr (by simp))).2, hf b (by simp)⟩
        · exact ⟨(f.sep b z).1, fun w => (f.sep b z).2 (.inl w)⟩
      · rcases hb with z | z | z
        · exact .inl z
        · exact .inr (.inl (.inl z))
        · rcases List.mem_append.mp z with z | z
          · simp at z
            exact .inr (.inl (.inr (by simp [z])))
          · exact .inr (.inr z)
    refine (fitp.write (a := p) (o := .dK [(key, y)]) (by simp) hH2 trivial nofun).perm ?_
    calc ([p] ++ (f1 ++ f2 ++ fv)).Perm ((f1 ++ f2 ++ fv) ++ [p]) := List.perm_append_comm
      _ = (f1 ++ f2) ++ (fv ++ [p]) := List.append_assoc ..
      List.Perm _ ((f1 ++ f2) ++ ([p] ++ fv)) := (List.perm_append_comm).append_left _
      _ = _ := by simp
  · cases hm
end
end G
-- part Fw15
set_option Elab.async false
set_option linter.all false
set_option maxRecDepth 100000
set_option maxHeartbeats 4000000
set_option autoImplicit false
/-! Framework 15: enumerate of lists and tuples. -/
namespace G
open PySem PySem.Spec PyProof.Rows L2
variable [TabC]

theorem meets_enum1 {v : Value} {o : Obj} {H : Heap → Prop} (B : Begins v o H) :
    Meets (Builtin.«enumerate.__new__» ⟨[.type "enumerate", v], []⟩) (fun _ R s => H s.heap ∧
      R (.ok (.ret (.ref (s.heap.push o).objs.size))) { s with heap := (s.heap.push o).push { cls := .type "enumerate", data := .fields #[.none, .bool false, .ref s.heap.objs.size, rawInt 0, .none, .none] } }) :=
  .of_wp fun prog w A R s h => by
    obtain ⟨hp, g, d, tk, os⟩ := s; obtain ⟨h1, h⟩ := h
    have hsub := sub_enumerate
    have q1 : ∀ {A' : Around} {E : Value → Shared → Prop} {Q : Value → Shared → Prop}, Q (.ref hp.objs.size) ⟨hp.push o, g, d, tk, os⟩ → wpAny (model prog w) A' (pyIter v) Q E ⟨hp, g, d, tk, os⟩ :=
      fun q => B.iter prog w _ _ ⟨hp, g, d, tk, os⟩ _ h1 q
    wp_walk using q1
    refine wpAny_stack_any fun st => wpAny_pure ?_
    split
    · rename_i c _ _ _ _ _
      cases (c == Value.type "enumerate")
      · wp_walk using q1
        exact ⟨_, rfl, h⟩
      · wp_walk using q1
        exact ⟨_, rfl, h⟩
    · wp_walk using q1
      exact ⟨_, rfl, h⟩
theorem call_enum1 {prog : Program} {w : World} {A : Around} {E : Value → Shared → Prop} {s : Shared} {v : Value} {o : Obj} {H : Heap → Prop} {Q : Value → Shared → Prop} (B : Begins v o H) (h1 : H s.heap)
    (h : ∀ h', IsEnum h' (s.heap.objs.size + 1) s.heap.objs.size 0 .none → h'.get? s.heap.objs.size = some o → (∀ b o, s.heap.get? b = some o → h'.get? b = some o) → Q (.ref (s.heap.objs.size + 1)) { s with heap := h' }) :
    wpAny (model prog w) A (call (.type "enumerate") [v]) Q E s := by
  refine callType_new F.called_enumerate (by decide) (F.typeCall_enumerate_1 _) (F.newCall_enumerate_1 _) (fun obj => F.args_object_init_2 obj _) F.entry_enumerate_new (meets_enum1 B) ⟨h1, ?_⟩
  have hz : (s.heap.push o).objs.size = s.heap.objs.size + 1 := Heap.size_push ..
  show _ ∧ _
  rw [hz]
  have he : IsEnum ((s.heap.push o).push { cls := .type "enumerate", data := .fields #[.none, .bool false, .ref s.heap.objs.size, rawInt 0, .none, .none] }) (s.heap.objs.size + 1) s.heap.objs.size 0 .none := by
    have := Heap.get?_push_size (s.heap.push o) (o := { cls := .type "enumerate", data := .fields #[.none, .bool false, .ref s.heap.objs.size, rawInt 0, .none, .none] }) rfl
    rw [hz] at this; exact this
  exact ⟨⟨_, he, rfl⟩, h _ he (Heap.get?_push_of_some _ (Heap.get?_push_size _ B.free)) fun b o x => Heap.get?_push_of_some _ (Heap.get?_push_of_some _ x)⟩

/-- the tuple at a, each item in a new pair -/
def Iet (K : PySem.W.Frag) (a : Addr) : It :=
  ⟨fun i H => ∃ (xs : List V) (x : V), SqT K H a xs ∧ xs[i]? = some x, fun i H v H' => ∃ T x, v = .ref T ∧ H T = none ∧ H' = upd H T (.tup [.int (i : Nat), x]) ∧ ∀ xs, SqT K H a xs → xs[i]? = some x, fun i H => ∃ xs : List V, SqT K H a xs ∧ xs.length ≤ i⟩
theorem turn_enumT {P : Program} {w : World} {K : PySem.W.Frag} {elts : List Expr} {kk : Nat} {tpos : Pos} (a e it : Addr) (hat : a ≠ it) (hae : e ≠ a) :
    Turn P w K (.Tuple elts kk tpos) (Iet K a) [e, it] e (fun i h => (∃ old, IsEnum h e it ((i : Nat) : Int) old) ∧ h.IsTupleIter it a i ∧ e ≠ it) where
  mem := by simp
  obj := fun i h st b hb => by
    obtain ⟨⟨old, he⟩, ⟨o, ho, hc, hd⟩, _⟩ := st
    have e' : b = e ∨ b = it := by simpa using hb
    rcases e' with z | z
    · rw [z]; exact ⟨_, he, fun v q => nomatch q⟩
    · rw [z]; exact ⟨o, ho, fun v q => by rw [hd] at q; cases q⟩
  keep := fun i h h' st k => let ⟨⟨old, he⟩, hi, hne⟩ := st; ⟨⟨old, k e (by simp) _ he⟩, hi.at fun o q => k it (by simp) o q, hne⟩
  item := by
    intro X hP hw hK hc i pins s σ H E I hf st hg
    subst hP hw hK
    obtain ⟨⟨old, he⟩, hit, hne⟩ := st
    obtain ⟨xs, x, hq, hx⟩ := hg
    obtain ⟨its, rv, p, hz⟩ := I.tuple hq
    obtain ⟨u, hu, ru⟩ := rv.get hx
    have hel : e < s.heap.objs.size := Heap.lt_size he
    have hil : it < s.heap.objs.size := by obtain ⟨_, q, _⟩ := hit; exact Heap.lt_size q
    have hilt : i < its.toArray.size := by
      have := (List.getElem?_eq_some_iff.mp hu).1
      simpa using this
    have p' : s.heap.IsTuple a its.toArray := p
    refine wpAny_pyNext_enum_itemD (Draws.tuple (A := X.A.in1) (I.ok.hd hc) it a hat its.toArray) he ⟨hit, p'⟩ hilt hne (by simp [hne, hae]) fun y h' tk hy ho hst hT hsz hk => ?_
    have ey : u = y := by
      have h2 : its.toArray[i]? = some y := hy
      have h3 : its[i]? = some y := by simpa using h2
      rw [hu] at h3
      exact Option.some.inj h3
    subst ey
    refine ⟨_, rfl, wpAny_letOwnedTupleGo_enum (s := { s with heap := h', toks := tk + 1 }) ho fun h'' he' sb => ?_⟩
    have hT2 : h''.get? s.heap.objs.size = some { cls := .type "tuple", data := .seq #[.int i tk, u] } := (sb.2 _ (Nat.ne_of_gt hel)).trans hT
    have new : ObjOk X.prog X.w (upd H s.heap.objs.size (.tup [.int (i : Nat), x])) h'' s.heap.objs.size (.tup [.int (i : Nat), x]) :=
      ⟨by show 2 ≤ sizeLine; decide, [.int i tk, u], .cons ⟨_, rfl⟩ (.cons ru .nil), ⟨_, hT2, rfl, _, rfl⟩⟩
    have I1 : Inv X pins σ (upd H s.heap.objs.size (.tup [.int (i : Nat), x])) { s with heap := h'', toks := tk + 1 } :=
      I.turnedNew (ch := [e, it]) (fun b ob hb q => (sb.2 b (fun z => hb (by simp [z]))).trans (hk b ob (fun z => hb (by simp [z])) (fun z => hb (by simp [z])) q)) hf (Nat.le_refl _) new
    refine ⟨.ref s.heap.objs.size, _, I1, rfl, ⟨_, x, rfl, I.hok.fresh (Nat.le_refl _), rfl, fun ys hy => by rw [I.tuple_inj hy hq]; exact hx⟩, ⟨⟨u, ?_⟩, hst.1.at fun o q => (sb.2 it (Ne.symm hne)).trans q, hne⟩, fun b hb => ?_⟩
    · have e1 : ((i + 1 : Nat) : Int) = (i : Int) + 1 := by omega
      rw [e1]; exact he'
    · have hb' : b < s.heap.objs.size := by
        have e' : b = e ∨ b = it := by simpa using hb
        rcases e' with z | z
        · rw [z]; exact hel
        · rw [z]; exact hil
      rw [upd_ne (Nat.ne_of_lt hb')]
      exact (hf b hb).1
  done := by
    intro X hP hw hK hc i pins s σ H E I hf st hg
    subst hP hw hK
    obtain ⟨⟨old, he⟩, hit, hne⟩ := st
    obtain ⟨xs, hq, hx⟩ := hg
    obtain ⟨its, rv, p, hz⟩ := I.tuple hq
    obtain ⟨f0, f1, f2, f3, f4, f5⟩ := hf it (by simp)
    have hl := rv.length
    have hi' : its.toArray[i]? = none := by simp; omega
    have p' : s.heap.IsTuple a its.toArray := p
    have D : Draws X.prog X.w X.A.in1 it [it, a] i (fun j v => its.toArray[j]? = some v) (fun j h => (h.IsTupleIter it a j ∧ h.IsTuple a its.toArray) ∧ j = i) :=
      { live := fun _ _ st => let ⟨o, ho, _⟩ := st.1.1; ⟨o, ho⟩
        frame := fun _ _ _ st hk => ⟨⟨st.1.1.at fun o e => hk it (by simp) o e, st.1.2.at fun o e => hk a (by simp) o e⟩, st.2⟩
        item := fun j s Q E hi st hQ => absurd st.2 (Nat.ne_of_lt hi)
        done := fun s Q E st hE => wpAny_nextOf_tuple_end (I.ok.hd hc) st.1.1 st.1.2 hi' hE }
    exact wpAny_pyNext_enum_endD D he ⟨⟨hit, p'⟩, rfl⟩ fun h' eb => ⟨rfl, I.turned (t' := s.toks) (fun b o hb q => eb b o hb q) f0 f1 f3 f4 f5⟩
  self := fun A i s Q E st h => let ⟨⟨_, he⟩, _⟩ := st; wpAny_pyIter_enum he h
section
variable {X : Cx}
def iEnumT (K : PySem.W.Frag) (ta : TA) : TI := fun σ H R => ta σ H fun vs H1 => ∃ a xs, vs = [.ref a] ∧ SqT K H1 a xs ∧ R (Iet K a) H1
theorem pi_enumT {e : Expr} {ta : TA} {p pos tpos : Pos} {elts : List Expr} {kk : Nat} (hg : Gl X "enumerate") (hm : X.mg "enumerate" = none) (ha : PA X [e] ta) (hs : starEach [e] X.env = [(false, eval e X.env)] := by rfl) :
    PI X (.Tuple elts kk tpos) (.Call (.Name "enumerate" p) [e] [] pos) (iEnumT X.K ta) := by
  refine ⟨fun pins s σ H R I h => ?_⟩
  refine Call_ (ld_blt I hg hm boot_enumerate (PyProof.Rows.callWith_type1 (thn (ha.run pos pins s σ H _ I h) fun us s1 ⟨vs, H1, I1, r1, q1⟩ => ?_) hs rfl))
  obtain ⟨a, xs, ex, hq, q⟩ := q1
  subst ex
  cases r1 with
  | cons r rr =>
    cases rr
    cases r
    obtain ⟨its, rv, p', hz⟩ := I1.tuple hq
    have p2 : s1.heap.IsTuple a its.toArray := p'
    have hal : a < s1.heap.objs.size := by obtain ⟨o, ho, _⟩ := p2; exact Heap.lt_size ho
    refine call_enum1 (begins_tuple a its.toArray) p2 fun h' he hit hk => wpAny_pyIter_enum he ?_
    have I2 : Inv X pins σ H1 { s1 with heap := h' } := I1.kept (t' := s1.toks) hk
    refine ⟨s1.heap.objs.size + 1, [s1.heap.objs.size + 1, s1.heap.objs.size], _, _, H1, rfl, I2, turn_enumT a (s1.heap.objs.size + 1) s1.heap.objs.size (Nat.ne_of_lt hal) (Nat.ne_of_gt (Nat.lt_succ_of_lt hal)), ⟨⟨.none, he⟩, ⟨_, hit, rfl, rfl⟩, Nat.succ_ne_self _⟩, fun b hb => ?_, q⟩
    have e' : b = s1.heap.objs.size + 1 ∨ b = s1.heap.objs.size := by simpa using hb
    have hle : s1.heap.objs.size ≤ b := by
      rcases e' with z | z
      · rw [z]; exact Nat.le_add_right _ _
      · rw [z]; exact Nat.le_refl _
    exact I1.fpOk hle (I1.hok.fresh hle)
/-- the items with their numbers -/
def numL (ds : List D) : List D := ds.mapIdx fun i d => .tup [.int (i : Nat), d]
theorem numL_get {ds : List D} {i : Nat} {d : D} (h : (numL ds)[i]? = some d) : ∃ c, ds[i]? = some c ∧ d = .tup [.int (i : Nat), c] := by
  unfold numL at h
  rw [List.getElem?_mapIdx] at h
  cases e : ds[i]? with
  | none => rw [e] at h; cases h
  | some c => rw [e] at h; cases h; exact ⟨c, rfl, rfl⟩
theorem numL_len (ds : List D) : (numL ds).length = ds.length := by unfold numL; simp
theorem ItOk.enumL {W : Wd} {K : PySem.W.Frag} {a : Addr} {o : HO} {vs : List V} {ds : List D} (e : W.fz a = some o) (hl : IsL o vs) (rp : RpAll W vs ds) : ItOk W (Ite K a) (numL ds) := by
  intro W' Fr ts s σ H le r i
  have hs : SqL K H a vs := by
    have e' := r.fzok _ _ (le.fz _ _ e)
    rcases hl with z | ⟨ob, z⟩
    · rw [z] at e'; exact .inl (.inl e')
    · rw [z] at e'; exact .inl (.inr ⟨ob, e'⟩)
  refine ⟨fun h => ⟨vs, hs, by rw [rp.length, ← numL_len]; exact h⟩, fun d hd => ?_⟩
  obtain ⟨c, hc, rfl⟩ := numL_get hd
  obtain ⟨v, hv, rv⟩ := rp.get hc
  refine ⟨⟨vs, v, hs, hv⟩, fun x H1 hy => ?_⟩
  obtain ⟨T, y, rfl, hT, rfl, hx⟩ := hy
  have ex := hx vs hs
  rw [hv] at ex
  cases ex
  obtain ⟨le2, ag2, r2⟩ := r.tup hT (.cons (.int _) (.cons (rv.mono le) .nil))
  exact ⟨_, le2, ag2, r2.untmp, .tup Wd.add_at ((RpAll.cons (.int _) (.cons (rv.mono le) .nil)).mono le2), fun b o q => by rw [upd_ne fun z => by rw [z, hT] at q; cases q]; exact q⟩
theorem ItOk.enumT {W : Wd} {K : PySem.W.Frag} {a : Addr} {vs : List V} {ds : List D} (e : W.fz a = some (.tup vs)) (rp : RpAll W vs ds) : ItOk W (Iet K a) (numL ds) := by
  intro W' Fr ts s σ H le r i
  have hs : SqT K H a vs := SqT.of (r.fzok _ _ (le.fz _ _ e))
  refine ⟨fun h => ⟨vs, hs, by rw [rp.length, ← numL_len]; exact h⟩, fun d hd => ?_⟩
  obtain ⟨c, hc, rfl⟩ := numL_get hd
  obtain ⟨v, hv, rv⟩ := rp.get hc
  refine ⟨⟨vs, v, hs, hv⟩, fun x H1 hy => ?_⟩
  obtain ⟨T, y, rfl, hT, rfl, hx⟩ := hy
  have ex := hx vs hs
  rw [hv] at ex
  cases ex
  obtain ⟨le2, ag2, r2⟩ := r.tup hT (.cons (.int _) (.cons (rv.mono le) .nil))
  exact ⟨_, le2, ag2, r2.untmp, .tup Wd.add_at ((RpAll.cons (.int _) (.cons (rv.mono le) .nil)).mono le2), fun b o q => by rw [upd_ne fun z => by rw [z, hT] at q; cases q]; exact q⟩
def iEnumM (m : EV) : S → R (List D) := fun s => (m s).bind fun d s1 => match d with
  | .lst xs => .ok (numL xs) s1
  | .tup xs => .ok (numL xs) s1
  | _ => .bad
theorem den_enum {m : EV} {e : Expr} {p pos tpos : Pos} {elts : List Expr} {kk : Nat} (hg : Gl X "enumerate") (hm : X.mg "enumerate" = none) (hs : notStar e = true) (h : DenV X m e) : DenI X (iEnumM m) (.Tuple elts kk tpos) (.Call (.Name "enumerate" p) [e] [] pos) := by
  intro W Fr s σ H Q r ds s' hm' q
  obtain ⟨d, s1, e1, hm'⟩ := R.bind_ok hm'
  split at hm'
  · rename_i xs
    cases hm'
    refine .of (pi_enum hg hm (pa_cons (pU e) pa_nil (star_cons hs)) (star_cons hs)) (h W Fr s σ H _ r _ s' e1 fun W1 v H1 le1 ag1 r1 rp => ?_)
    cases rp with
    | @lst a o vs _ ea hl rps =>
      have e' := r1.fzok _ _ ea
      refine ⟨a, vs, rfl, ?_, q W1 _ H1 le1 ag1 r1 (.enumL ea hl rps)⟩
      rcases hl with z | ⟨ob, z⟩
      · rw [z] at e'; exact .inl (.inl e')
      · rw [z] at e'; exact .inl (.inr ⟨ob, e'⟩)
  · rename_i xs
    cases hm'
    refine .of (pi_enumT hg hm (pa_cons (pU e) pa_nil (star_cons hs)) (star_cons hs)) (h W Fr s σ H _ r _ s' e1 fun W1 v H1 le1 ag1 r1 rp => ?_)
    cases rp with
    | @tup a vs _ ea rps => exact ⟨a, vs, rfl, SqT.of (r1.fzok _ _ ea), q W1 _ H1 le1 ag1 r1 (.enumT ea rps)⟩
  · cases hm'
end
end G
-- part Fw16
set_option Elab.async false
set_option linter.all false
set_option maxRecDepth 100000
set_option maxHeartbeats 4000000
set_option autoImplicit false
/-! Framework 16: repr, sorted. -/
namespace G
open PySem PySem.Spec PyProof.Rows L2
variable [TabC]
section
variable {X : Cx}
theorem hasDict_no : ∀ (n : Nat) (d : D), d.fits n = true → d.py.hasDict = false
  | 0, d, h => by cases d <;> first | rfl | cases h
  | n + 1, d, h => by
    have all : ∀ xs : List D, xs.all (D.fits n) = true → PyData.hasDictAll (D.pys xs) = false := by
      intro xs
      induction xs with
      | nil => intro _; rfl
      | cons x xs ih =>
        intro h
        simp only [List.all_cons, Bool.and_eq_true] at h
        show (x.py.hasDict || PyData.hasDictAll (D.pys xs)) = false
        rw [hasDict_no n x h.1, ih h.2]
        rfl
    cases d with
    | tup xs => exact all xs h
    | lst xs => exact all xs h
    | dct _ => cases h
    | cell _ => cases h
    | _ => rfl
def reprD : List (Nat × D) → Option (Nat × D)
  | [(_, .lst xs)] => if (D.lst xs).fits deep && (D.lst xs).py.showable && szOk (D.lst xs).py.shown.length then some (0, .str (D.lst xs).py.shown) else none
  | [(_, .tup xs)] => if (D.tup xs).fits deep && (D.tup xs).py.showable && szOk (D.tup xs).py.shown.length then some (0, .str (D.tup xs).py.shown) else none
  | _ => none
theorem callS_repr {k : Nat} (hr : Room k X.A) (hgd : X.A.guards = some []) : CallS X (.builtin "repr") reprD := by
  have go : ∀ (W : Wd) (Fr : Addr → Prop) (s : S) (σ : L2.St) (H : Hp) (v : V) (lv : Nat) (c : D) (f : List Addr) (Q : VK), (match c with | .lst _ | .tup _ => True | _ => False) → Rel W Fr [] s σ H → Own W H lv v c f → (c.fits deep && c.py.showable && szOk c.py.shown.length) = true →
      (∀ (W' : Wd) (z : V) (H' : Hp), Wle W W' → Agree Fr H H' → Rel W' Fr [(0, z, .str c.py.shown)] s σ H' → Q z H') → cU X (.builtin "repr") [v] H Q := by
    intro W Fr s σ H v lv c f Q hc r ow hg q σ' pins sh us I rv
    simp only [Bool.and_eq_true] at hg
    obtain ⟨⟨h1, h2⟩, h3⟩ := hg
    have vw := ow.vw r.fzok _
    have dp := vw.dp (K := X.K) _ h1
    obtain ⟨u, rfl, ru⟩ := rv.one
    obtain ⟨as, rd⟩ := Dp.reads I _ _ _ dp ru
    have hv : ∃ a, v = .ref a := by
      cases c with
      | lst xs => cases vw; exact ⟨_, rfl⟩
      | tup xs => cases vw; exact ⟨_, rfl⟩
      | _ => exact hc.elim
    obtain ⟨a, rfl⟩ := hv
    cases ru
    have hd := D.fits_depth _ _ h1
    have hu := hr.units
    refine repr_of_reads' rd h2 (PyData.noDict_hsm (hasDict_no _ _ h1)) hgd (by have h12 : c.py.depth ≤ 12 := hd.1; omega) (fun _ _ e => e) (fun h' t tk hk => ?_) (szOk.le h3)
    exact ⟨.str _, H, I.kept (t' := tk) hk, ⟨_, rfl⟩, q W _ H .refl .refl (r.tmp0 (.str _))⟩
  intro W Fr s σ H vs ps l d Q r ow hg q
  unfold reprD at hg
  split at hg
  · rename_i lv xs
    split at hg
    · rename_i hc
      cases hg
      obtain ⟨v, f, rfl, o⟩ := ow.one
      exact go W Fr s σ H v lv (.lst xs) f Q trivial r o hc q
    · cases hg
  · rename_i lv xs
    split at hg
    · rename_i hc
      cases hg
      obtain ⟨v, f, rfl, o⟩ := ow.one
      exact go W Fr s σ H v lv (.tup xs) f Q trivial r o hc q
    · cases hg
  · cases hg

/-! ### sorted -/
def alikeB (ds : List PyData) : Bool := ds.all fun d => ds.all fun e => PySem.W.alike d e
theorem alikeB_ok {ds : List PyData} (h : alikeB ds = true) : PySem.W.AllAlike ds := by
  intro d hd e he
  exact List.all_eq_true.mp (List.all_eq_true.mp h d hd) e he
def isTup1 : PyData → Bool
  | .tuple (_ :: _) => true
  | _ => false
def noTup : PyData → Bool
  | .tuple _ => false
  | .none => false
  | _ => true
def sortableB (ds : List PyData) : Bool := ds.all isTup1 || ds.all noTup
theorem sortableB_ok {ds : List PyData} (h : sortableB ds = true) : PySem.W.Sortable ds := by
  unfold sortableB at h
  rw [Bool.or_eq_true] at h
  rcases h with h | h
  · refine .inl fun d hd => ?_
    have := List.all_eq_true.mp h d hd
    unfold isTup1 at this
    split at this
    · exact ⟨_, _, rfl⟩
    · cases this
  · refine .inr fun d hd => ?_
    have := List.all_eq_true.mp h d hd
    constructor
    · rintro rfl; cases this
    · rintro xs rfl; cases this
def sortOk (ds : List D) : Bool := ds.all (D.fits deep) && alikeB (ds.map D.py) && sortableB (ds.map D.py) && szOk ds.length
def sortL (ds : List D) : List D := ds.mergeSort (PySem.W.dataLe false D.py)
def sortD : List (Nat × D) → Option (Nat × D)
  | [(l, .lst xs)] => if l ≤ 1 ∧ sortOk xs = true then some (1, .lst (sortL xs)) else none
  | _ => none
theorem each_zip {us : List Value} {vs : List V} {ds : List D} (rv : Vals vs us) (hl : vs.length = ds.length) : PySem.W.EachIs (fun u (p : V × D) => RelV p.1 u) us (vs.zip ds) := by
  induction rv generalizing ds with
  | nil => exact .nil
  | cons r t ih =>
    cases ds with
    | nil => cases hl
    | cons d ds => exact .cons r (ih (by simpa using hl))
theorem each_reads {pins : List (Addr × Obj)} {σ : L2.St} {H : Hp} {sh : Shared} {us : List Value} {vs : List V} {ds : List D} {n : Nat} (I : Inv X pins σ H sh) (rv : Vals vs us) (va : VwAll H vs ds) (hf : ds.all (D.fits n) = true) :
    PySem.W.EachIs (fun u (p : V × D) => ∃ as, Reads sh.heap u p.2.py as) us (vs.zip ds) := by
  induction rv generalizing ds with
  | nil => exact .nil
  | cons r t ih =>
    cases va with
    | cons w ws =>
      simp only [List.all_cons, Bool.and_eq_true] at hf
      exact .cons (Dp.reads I _ _ _ (w.dp (K := X.K) n hf.1) r) (ih ws hf.2)
theorem zip_maps {vs : List V} {ds : List D} (hl : vs.length = ds.length) : (vs.zip ds).map (·.1) = vs ∧ (vs.zip ds).map (·.2) = ds := by
  constructor
  · exact List.map_fst_zip (by omega)
  · exact List.map_snd_zip (by omega)
theorem RpAll.zip {W : Wd} : ∀ {vs : List V} {ds : List D}, RpAll W vs ds → ∀ p ∈ vs.zip ds, Rp W p.1 p.2
  | _, _, .nil, _, h => by cases h
  | _, _, .cons r t, p, h => by
    rw [List.zip_cons_cons, List.mem_cons] at h
    rcases h with rfl | h
    · exact r
    · exact t.zip p h
theorem RpAll.ofPairs {W : Wd} : ∀ {ps : List (V × D)}, (∀ p ∈ ps, Rp W p.1 p.2) → RpAll W (ps.map (·.1)) (ps.map (·.2))
  | [], _ => .nil
  | p :: ps, h => .cons (h p (by simp)) (RpAll.ofPairs fun q hq => h q (by simp [hq]))
theorem each_vals : ∀ {us : List Value} {ps : List (V × D)}, PySem.W.EachIs (fun u (p : V × D) => RelV p.1 u) us ps → Vals (ps.map (·.1)) us
  | _, _, .nil => .nil
  | _, _, .cons r t => .cons r (each_vals t)
theorem zip_key {vs : List V} {ds : List D} (hl : vs.length = ds.length) (k : D → PyData) : (vs.zip ds).map (fun p => k p.2) = ds.map k := by
  have := (zip_maps hl).2
  calc (vs.zip ds).map (fun p => k p.2) = ((vs.zip ds).map (·.2)).map k := by rw [List.map_map]; rfl
    _ = ds.map k := by rw [this]
theorem sort_snd {vs : List V} {ds : List D} (hl : vs.length = ds.length) (b : Bool) (k : D → PyData) : ((vs.zip ds).mergeSort (PySem.W.dataLe b fun p => k p.2)).map (·.2) = ds.mergeSort (PySem.W.dataLe b k) := by
  have := List.map_mergeSort (r := PySem.W.dataLe b fun p : V × D => k p.2) (s := PySem.W.dataLe b k) (f := Prod.snd) (l := vs.zip ds) (fun p _ q _ => rfl)
  refine this.trans ?_
  rw [show (vs.zip ds).map Prod.snd = ds from (zip_maps hl).2]
theorem callS_sorted {k : Nat} (hr : Room k X.A) : CallS X (.builtin "sorted") sortD := by
  intro W Fr s σ H vs ps l d Q r ow hg q σ' pins sh us I rv
  unfold sortD at hg
  split at hg
  · rename_i lv xs
    split at hg
    · rename_i hc
      cases hg
      obtain ⟨hl, hok⟩ := hc
      unfold sortOk at hok
      simp only [Bool.and_eq_true] at hok
      obtain ⟨⟨⟨h1, h2⟩, h3⟩, h4⟩ := hok
      obtain ⟨v, f, rfl, o⟩ := ow.one
      obtain ⟨a, xv, rfl, hv, rp⟩ := o.items r.fzok hl
      obtain ⟨u, rfl, ru⟩ := rv.one
      cases ru
      obtain ⟨its, rvs, pl, _⟩ := I.list (show SqL X.K H a xv from .inl hv)
      have len : xv.length = xs.length := rp.length
      have hzl : (xv.zip xs).length = xs.length := by rw [List.length_zip, len, Nat.min_self]
      have hu := hr.units
      have km : (xv.zip xs).map (fun p => p.2.py) = xs.map D.py := zip_key len D.py
      refine PySem.W.sorted_data (enc := fun p : V × D => p.2.py) (R := fun u p => RelV p.1 u) pl.isList (each_zip rvs len) (each_reads I rvs (rp.vw r.fzok) h1) (by rw [km]; exact alikeB_ok h2) (by rw [km]; exact sortableB_ok h3) (by rw [hzl]; exact szOk.le h4)
        (fun p hp => ?_) fun out ol eo => ?_
      · have hp2 : p.2 ∈ xs := (List.of_mem_zip hp).2
        have h12 : p.2.py.depth ≤ 12 := (D.fits_depth _ _ (List.all_eq_true.mp h1 _ hp2)).1
        show X.A.units + 2 + p.2.py.depth < cLine
        omega
      · have ov := each_vals eo
        have es := sort_snd len false D.py
        have rpo : RpAll W (((xv.zip xs).mergeSort (PySem.W.dataLe false fun p => p.2.py)).map (·.1)) (sortL xs) := by
          unfold sortL
          rw [← es]
          exact RpAll.ofPairs fun p hp => rp.zip p ((List.mergeSort_perm _ _).mem_iff.mp hp)
        obtain ⟨ep, he'⟩ := PyProof.Rows.sortedAll_at sh.heap its out.toArray
        have hp := I.hok.fresh (Nat.le_succ sh.heap.objs.size)
        obtain ⟨ag, r'⟩ := r.newList hp rpo
        refine ⟨.ref _, upd H (sh.heap.objs.size + 1) (.lst (((xv.zip xs).mergeSort (PySem.W.dataLe false fun p => p.2.py)).map (·.1))), I.laid (t' := sh.toks) (fun _ _ => PyProof.Rows.sortedAll_old) (Nat.le_succ _) ⟨?_, out, ep, ov, he'⟩, rfl, q W _ _ .refl ag r'⟩
        rw [List.length_map, List.length_mergeSort, hzl]
        exact szOk.le h4
    · cases hg
  · cases hg
end
end G
-- part Fw17
set_option Elab.async false
set_option linter.all false
set_option maxRecDepth 100000
set_option maxHeartbeats 4000000
set_option autoImplicit false
/-! Framework 17: sorted by a key that is a lambda. -/
namespace G
open PySem PySem.Spec PyProof.Rows L2
variable [TabC]
/-! ### the shapes of keys -/
inductive KS where
  | ix (i : Int)
  | tup (is : List Int)
def ixOf (p : Str) : Expr → Option Int
  | .Subscript (.Name x _) (.Constant (.int i) _ _) _ => if x = p ∧ 0 ≤ i then some i else none
  | _ => none
def ixsOf (p : Str) : List Expr → Option (List Int)
  | [] => some []
  | e :: r => match ixOf p e, ixsOf p r with
    | some i, some is => some (i :: is)
    | _, _ => none
def ksOf (p : Str) : Expr → Option KS
  | .Tuple es _ _ => if es.length ≤ 100 then (ixsOf p es).map .tup else none
  | e => (ixOf p e).map .ix
def D.atom : D → Option D
  | .non => some .non
  | .bl b => some (.bl b)
  | .int i => some (.int i)
  | .str x => some (.str x)
  | _ => none
def pick1 (xs : List D) (i : Int) : Option D := (xs[i.toNat]?).bind D.atom
def picks (xs : List D) : List Int → Option (List D)
  | [] => some []
  | i :: r => match pick1 xs i, picks xs r with
    | some d, some ds => some (d :: ds)
    | _, _ => none
def KS.key : KS → D → Option D
  | .ix i, .tup xs => pick1 xs i
  | .tup is, .tup xs => (picks xs is).map .tup
  | _, _ => none
section
variable {prog : Program} {w : World} {A : Around} {E : Value → Shared → Prop} {s : Shared}
theorem key_ix {env : Env} {p : Str} {m : Str → Option Value} {a : Addr} {its : List Value} {i : Int} {u : Value} {e : Expr} {Q : Value → Shared → Prop} (he : ixOf p e = some i) (hk : env.scope.kind = .function) (hl : env.kindOf p = some .local) (hn : s.heap.Ns env.locals m) (hm : m p = some (.ref a))
    (ht : s.heap.IsTuple a its.toArray) (hu : its[i.toNat]? = some u) (hz : its.length ≤ sizeLine) (hdb : (p == ("__debug__" : Str)) = false) (q : ∀ tk, Q u { s with toks := tk }) : wpAny (model prog w) A (eval e env) Q E s := by
  unfold ixOf at he
  split at he
  · rename_i x p1 j c p2 p3
    split at he
    · rename_i hx
      cases he
      obtain ⟨rfl, h0⟩ := hx
      have hlt : i.toNat < its.length := (List.getElem?_eq_some_iff.mp hu).1
      have hs := sizeLine_eq
      refine Subscript_ (wpAny_Name (wpAny_loadName_local hk hl hn hm (wpAny_Constant_int ?_)) hdb)
      refine subscriptTail_builtinR (x := u) (s := { s with toks := s.toks + 1 }) (T := "tuple") (id := "tuple.__getitem__") ⟨_, ht.choose_spec.1, ht.choose_spec.2.1⟩ slot_tuple_getitem.lookup
        (PyProof.Rows.getItem_tuple (j := i.toNat) (Q := fun r s' => r = u ∧ Q r s') ht (by omega) (by omega) ?_ (by simpa using hu) ⟨rfl, q _⟩) (by with_unfolding_all rfl)
      unfold seqIndex?
      rw [List.size_toArray]
      simp
      omega
    · cases he
  · cases he
theorem atom_reads {W : Wd} {h : Heap} {v : V} {u : Value} {d d' : D} (rp : Rp W v d) (ru : RelV v u) (e : d.atom = some d') : Reads h u d'.py [] := by
  cases rp with
  | non => cases e; cases (show u = Value.none from ru); exact .none
  | bl b => cases e; cases (show u = Value.bool b from ru); exact .bool b
  | int i => cases e; obtain ⟨t, rfl⟩ := (show ∃ t, u = Value.int i t from ru); exact .int i t
  | str x => cases e; obtain ⟨t, rfl⟩ := (show ∃ t, u = Value.str x t from ru); exact .str x t
  | tup _ _ => cases e
  | lst _ _ _ => cases e
  | dct _ _ _ => cases e
  | cell _ => cases e
theorem pick_val {W : Wd} {vs : List V} {its : List Value} {xs : List D} {i : Int} {d : D} (rp : RpAll W vs xs) (rv : Vals vs its) (e : pick1 xs i = some d) : ∃ u, its[i.toNat]? = some u ∧ ∀ h, Reads h u d.py [] := by
  unfold pick1 at e
  cases hx : xs[i.toNat]? with
  | none => rw [hx] at e; cases e
  | some c =>
    rw [hx] at e
    obtain ⟨v, hv, rc⟩ := rp.get hx
    obtain ⟨u, hu, ru⟩ := rv.get hv
    exact ⟨u, hu, fun h => atom_reads rc ru e⟩
/-- a row of picked items -/
theorem key_row {W : Wd} {env : Env} {p : Str} {m : Str → Option Value} {a : Addr} {its : List Value} {vs : List V} {xs : List D} {pos : Pos} (hk : env.scope.kind = .function) (hl : env.kindOf p = some .local) (hm : m p = some (.ref a)) (rp : RpAll W vs xs) (rv : Vals vs its)
    (hz : its.length ≤ sizeLine) (hdb : (p == ("__debug__" : Str)) = false) : ∀ (es : List Expr) (is : List Int) (ds : List D) (s : Shared) (Q : List Value → Shared → Prop), ixsOf p es = some is → picks xs is = some ds → s.heap.Ns env.locals m → s.heap.IsTuple a its.toArray →
      (∀ us tk, us.length = es.length → (∀ h, ReadsAll h us (D.pys ds) []) → Q us { s with toks := tk }) → wpAny (model prog w) A (spliced (backTo pos (starEach es env))) Q E s
  | [], is, ds, s, Q, e1, e2, hn, ht, q => by
    cases e1
    cases e2
    exact Calls.spliced_nil (q [] s.toks rfl fun h => .nil)
  | e :: es, is, ds, s, Q, e1, e2, hn, ht, q => by
    unfold ixsOf at e1
    split at e1
    · rename_i i js ei ej
      cases e1
      unfold picks at e2
      split at e2
      · rename_i d ds' ed eds
        cases e2
        have ns : notStar e = true := by
          unfold ixOf at ei
          split at ei
          · rfl
          · cases ei
        obtain ⟨u, hu, hr⟩ := pick_val rp rv ed
        rw [star_cons ns]
        refine Calls.spliced_cons (key_ix ei hk hl hn hm ht hu hz hdb fun tk => ?_)
        refine key_row (pos := pos) hk hl hm rp rv hz hdb es js ds' _ _ ej eds hn ht fun us tk' ul hus => ?_
        exact q (u :: us) tk' (by simp [ul]) fun h => ReadsAll.cons (as := []) (bs := []) (hr h) (hus h)
      · cases e2
    · cases e1
/-- the lambda called -/
theorem key_call {W : Wd} {f c' a : Addr} {q p : Str} {params : Arguments} {body : Expr} {scope : Scope} {pm ctv : Value} {its : List Value} {vs : List V} {xs : List D} {k : KS} {kd : D} (hroom : A.depth < recursionLimit)
    (ho : s.heap.get? f = some (PySem.W.kla_obj "<lambda>" q params body scope [] pm c' ctv)) (hcd : s.heap.CodeRec (.ref c') q) (lim : s.heap.NoLimit)
    (hbind : bindArgs (PySem.W.kla_fn "<lambda>" q params body scope [] pm (.ref c') ctv) ⟨[.ref a], []⟩ = pure [(p, .ref a)]) (hco : scope.isCoroutine = false) (hgen : scope.isGenerator = false) (hkind : scope.kind = .function)
    (hcell : ∀ y ∈ scope.names, y.2 ≠ .cell) (hp : scope.names.lookup p = some .local) (hdb : (p == ("__debug__" : Str)) = false) (hks : ksOf p body = some k) (ht : s.heap.IsTuple a its.toArray) (rp : RpAll W vs xs) (rv : Vals vs its) (hz : its.length ≤ sizeLine)
    (hkd : k.key (.tup xs) = some kd) : wpAny (model prog w) A (call (.ref f) [.ref a]) (PySem.W.KeyPure kd.py s) (fun _ _ => False) s := by
  refine wpAny_call (PySem.W.kla_callFunE hroom ho rfl hco hgen rfl hcd ?_)
  rw [hbind]
  refine wpAny_pure (wpAny_newFunctionEnv hcell (fun y hy => ?_) (fun h₁ hns hsb => ⟨lim.fresh _ hsb, ?_⟩) hkind)
  · simp only [List.mem_singleton] at hy
    subst hy
    exact hp
  have kp : ∀ b o, s.heap.get? b = some o → h₁.get? b = some o := fun b o e => hsb.extBut b o (Nat.ne_of_lt (Heap.lt_size e)) (Heap.get?_push_of_some _ e)
  have ht1 : h₁.IsTuple a its.toArray := let ⟨o, h1, h2⟩ := ht; ⟨o, kp _ _ h1, h2⟩
  refine PySem.W.kla_codeExpr ?_
  have hm : (fun y => ([(p, Value.ref a)].reverse).lookup y) p = some (.ref a) := by simp
  unfold ksOf at hks
  split at hks
  · rename_i es kk pos
    have h100 : es.length ≤ 100 := by
      by_cases hh : es.length ≤ 100
      · exact hh
      · rw [if_neg hh] at hks; cases hks
    rw [if_pos h100] at hks
    cases hi : ixsOf p es with
    | none => rw [hi] at hks; cases hks
    | some is =>
      rw [hi] at hks
      cases hks
      have hkd : (picks xs is).map D.tup = some kd := hkd
      cases hd : picks xs is with
      | none => rw [hd] at hkd; cases hkd
      | some ds =>
        rw [hd] at hkd
        cases hkd
        refine wpAny_Tuple_spliced (key_row (env := newEnv scope s.heap.objs.size mainGlobals [] (q ++ ".<locals>.") (some f) (.ref c') none builtinsNs) hkind hp hm rp rv hz hdb es is ds _ _ hi hd hns ht1 fun us tk ul hus => ?_)
        refine ⟨by have := sizeLine_eq; omega, _, tk, rfl, fun b o e => Heap.get?_push_of_some _ (kp b o e), ?_⟩
        exact .tuple (vs := us.toArray) (Heap.get?_push_size _ rfl) rfl rfl (by simpa using hus _)
  · rename_i e hne
    cases hi : ixOf p body with
    | none => rw [hi] at hks; cases hks
    | some i =>
      rw [hi] at hks
      cases hks
      obtain ⟨u, hu, hr⟩ := pick_val rp rv (show pick1 xs i = some kd from hkd)
      refine key_ix (env := newEnv scope s.heap.objs.size mainGlobals [] (q ++ ".<locals>.") (some f) (.ref c') none builtinsNs) hi hkind hp hns hm ht1 hu hz hdb fun tk => ?_
      exact ⟨h₁, tk, rfl, kp, hr _⟩
end
end G
-- part Fw18
set_option Elab.async false
set_option linter.all false
set_option maxRecDepth 100000
set_option maxHeartbeats 4000000
set_option autoImplicit false
/-! Framework 18: sorted by a key, as an expression. -/
namespace G
open PySem PySem.Spec PyProof.Rows L2
variable [TabC]
theorem Rel.extN {W : Wd} {Fr : Addr → Prop} {ts : List (Nat × V × D)} {s : S} {σ : L2.St} {H H1 : Hp} (r : Rel W Fr ts s σ H) (e : LamX.ExtN H H1) (t : LamX.Tabs TabC.T H1) : Agree Fr H H1 ∧ Rel W Fr ts s σ H1 := by
  obtain ⟨f1, f2, f3, h1, h2, h3, f⟩ := r
  have same : ∀ a, (W.fz a ≠ none ∨ Fr a ∨ a ∈ f1 ++ f2 ++ f3) → H1 a = H a := fun a ha => by
    have hx : H a ≠ none := by
      rcases ha with z | z | z
      · cases q : W.fz a with
        | none => exact absurd q z
        | some o => rw [f.fz a o q]; exact nofun
      · exact (f.fr a z).1
      · exact there3 h1 h2 h3 a z
    cases q : H a with
    | none => exact absurd q hx
    | some o => exact e a o q fun ps z => f.nt a ha ps (by rw [q, z])
  refine ⟨fun a ha => same a (.inr (.inl ha)), f1, f2, f3, h1.mono .refl fun a ha => same a (.inr (.inr (by simp [ha]))), h2.mono .refl fun a ha => same a (.inr (.inr (by simp [ha]))), h3.mono .refl fun a ha => same a (.inr (.inr (by simp [ha]))), fun a o q => ?_, f.nd, f.sep, fun a ha => ?_, t, fun a ha => ?_⟩
  · rw [same a (.inl (by rw [q]; exact nofun))]; exact f.fz a o q
  · rw [same a (.inr (.inl ha))]; exact f.fr a ha
  · rw [same a ha]; exact f.nt a ha
def keyPy (k : KS) (d : D) : PyData := ((k.key d).getD .non).py
def sortKOk (k : KS) (xs : List D) : Bool := xs.all (fun d => (k.key d).isSome) && alikeB (xs.map (keyPy k)) && sortableB (xs.map (keyPy k)) && szOk xs.length
def sortKL (k : KS) (xs : List D) : List D := xs.mergeSort (PySem.W.dataLe false (keyPy k))
def eSortK (k : KS) (m : EO) : E := fun s => (m s).bind fun o s1 => match s1.look o with
  | some (l, .lst xs) => if l ≤ 1 ∧ sortKOk k xs = true then .ok (1, .lst (sortKL k xs)) s1 else .bad
  | _ => .bad
/-- where a lambda's code object is kept -/
def LamFact (X : Cx) : Prop := ∃ c P, LamX.TabB X.base X.mg c P ∧ X.env.code = .ref c ∧ (P, X.env.qual ++ "<lambda>") ∈ TabC.T ∧ ∀ p ∈ TabC.T, p.1 = P → p.2 = X.env.qual ++ "<lambda>"
def lamParams (p : Str) (ap : Pos) : Arguments := ⟨[], [⟨p, none, ap⟩], none, [], [], none, []⟩
/-- a lambda's scope: one name of its own, no captured one -/
def lamSc (p : Str) (scope : Scope) : Bool := decide (scope.kind = .function) && !scope.isCoroutine && !scope.isGenerator && scope.names.all (fun y => !decide (y.2 = .cell) && !decide (y.2 = .free)) && decide (scope.names.lookup p = some .local)
theorem clo_nil : ∀ (ns : List (Str × NameKind)) (cells : List (Str × Addr)), (∀ y ∈ ns, y.2 ≠ .free) → cloFrom cells ns [] = []
  | [], _, _ => rfl
  | (x, k) :: ns, cells, h => by
    have hk : k ≠ .free := h (x, k) (by simp)
    have ih := clo_nil ns cells fun y hy => h y (by simp [hy])
    cases k <;> first | exact absurd rfl hk | exact ih
theorem key_depth {k : KS} {d kd : D} (h : k.key d = some kd) : kd.py.depth ≤ 1 := by
  have at0 : ∀ {c e : D}, c.atom = some e → e.py.depth = 0 := by
    intro c e h
    cases c <;> first | (cases h; rfl) | cases h
  have p1 : ∀ {xs : List D} {i : Int} {e : D}, pick1 xs i = some e → e.py.depth = 0 := by
    intro xs i e h
    unfold pick1 at h
    cases hx : xs[i.toNat]? with
    | none => rw [hx] at h; cases h
    | some c => rw [hx] at h; exact at0 h
  unfold KS.key at h
  split at h
  · rw [p1 h]; exact Nat.zero_le _
  · rename_i is xs
    have all : ∀ (is : List Int) (ds : List D), picks xs is = some ds → PyData.depthAll (D.pys ds) = 0 := by
      intro is
      induction is with
      | nil => intro ds h; cases h; rfl
      | cons i is ih =>
        intro ds h
        unfold picks at h
        split at h
        · rename_i d ds' e1 e2
          cases h
          show max d.py.depth (PyData.depthAll (D.pys ds')) = 0
          rw [p1 e1, ih _ e2]; rfl
        · cases h
    cases hd : picks xs is with
    | none => rw [hd] at h; cases h
    | some ds =>
      rw [hd] at h
      cases h
      show PyData.depthAll (D.pys ds) + 1 ≤ 1
      rw [all is ds hd]
      exact Nat.le_refl _
  · cases h
theorem lam_bind {q p : Str} {ap : Pos} {body : Expr} {scope : Scope} {cl : List (Str × Addr)} {pm cv ctv v : Value} :
    bindArgs (PySem.W.kla_fn "<lambda>" q (lamParams p ap) body scope cl pm cv ctv) ⟨[v], []⟩ = pure [(p, v)] := by
  unfold bindArgs lamParams
  simp [PySem.W.kla_fn, seqItems?]
  rfl
section
variable {X : Cx}
theorem den_sortK {kk : Nat} {m : EO} {e body : Expr} {k : KS} {p : Str} {scope : Scope} {ap lp np pos kp : Pos} (hr : Room kk X.A) (hg : Gl X "sorted") (hmg : X.mg "sorted" = none) (LF : LamFact X) (hs : notStar e = true) (hks : ksOf p body = some k) (hsc : lamSc p scope = true) (hdb : (p == ("__debug__" : Str)) = false)
    (h : DenO X m e) : DenE X (eSortK k m) (.Call (.Name "sorted" np) [e] [⟨some "key", .Lambda (lamParams p ap) body scope lp, kp⟩] pos) := by
  intro W Fr s σ H Q r l d s' hm q pins sh I
  obtain ⟨c, P, TB, hcode, hmT, hu⟩ := LF
  unfold lamSc at hsc
  simp only [Bool.and_eq_true, Bool.not_eq_true', decide_eq_true_eq, decide_eq_false_iff_not, List.all_eq_true] at hsc
  obtain ⟨⟨⟨⟨c1, c2⟩, c3⟩, c4⟩, c5⟩ := hsc
  obtain ⟨o, s1, e1, hm⟩ := R.bind_ok hm
  split at hm
  · rename_i lv xs el
    split at hm
    · rename_i hc
      cases hm
      obtain ⟨hl, hok⟩ := hc
      unfold sortKOk at hok
      rw [Bool.and_eq_true, Bool.and_eq_true, Bool.and_eq_true] at hok
      obtain ⟨⟨⟨k1, k2⟩, k3⟩, k4⟩ := hok
      refine wpAny_Call_Name_kw (ld_blt (u := .builtin "sorted") I hg hmg rfl ?_)
      have args : UA X [e] σ H fun vs H1 => ∃ W1 v, Wle W W1 ∧ Agree Fr H H1 ∧ Rel W1 Fr [] s' σ H1 ∧ vs = [v] ∧ OR W1 σ v o :=
        .of (pa_cons (pU e) pa_nil (star_cons hs)) (h W Fr s σ H _ r o s' e1 fun W1 v H1 le1 ag1 r1 or1 => ⟨W1, v, le1, ag1, r1, rfl, or1⟩)
      refine PyProof.Rows.callWith_kw (thn (args pos pins sh I) fun us sh1 ⟨vs, H1, I1, rvs, W1, v, le1, ag1, r1, ev, or1⟩ => ?_) ?_ ?_ rfl rfl
      · subst ev
        show wpAny _ _ (evalAll [(do let v ← eval (.Lambda (lamParams p ap) body scope lp) X.env; standAt pos; pure v)]) _ _ sh1
        have hT : LamX.Tabs TabC.T H1 := let ⟨_, _, _, _, _, _, f⟩ := r1; f.tb
        refine wpAny_evalAll_cons (wpAny_bind (LamX.lam_make2 I1 TB hcode hmT hu hT rfl (fun y hy z => absurd z (c4 y hy).2) fun f c' pm ctv H2 sh2 I2 eN T2 hf hfn hfr hco => wpAny_bind (wpAny_standAt (wpAny_pure (wpAny_evalAll_nil ?_)))))
        rw [clo_nil scope.names X.env.cells fun y hy => (c4 y hy).2] at hf
        obtain ⟨ag2, r2⟩ := r1.extN eN T2
        obtain ⟨fx, ow⟩ := r2.look or1 el
        obtain ⟨a, xv, rfl, hv, rp⟩ := ow.items r2.fzok hl
        obtain ⟨u, rfl, ru⟩ := rvs.one
        cases ru
        obtain ⟨its, rvi, pl, _⟩ := I2.list (show SqL X.K H2 a xv from .inl hv)
        have len : xv.length = xs.length := rp.length
        have hzl : (xv.zip xs).length = xs.length := by rw [List.length_zip, len, Nat.min_self]
        have hun := hr.units
        have km : (xv.zip xs).map (fun p => keyPy k p.2) = xs.map (keyPy k) := zip_key len (keyPy k)
        obtain ⟨⟨oc, cvs, ct, hoc, hdc, hvc⟩, _, _⟩ := I2.hok c' _ hco
        show wpAny _ _ (call (.builtin "sorted") [.ref a] [(Str.ofString "key", .ref f)]) _ _ sh2
        refine PySem.W.sorted_key_data (R := fun u (p : V × D) => RelV p.1 u) (b := false) (fun p : V × D => keyPy k p.2) pl.isList (each_zip rvi len) (by rw [km]; exact alikeB_ok k2) (by rw [km]; exact sortableB_ok k3) (by rw [hzl]; exact szOk.le k4)
          (fun x hx => ?_) (PyProof.Rows.ksk_s1 _ _) (fun _ => PyProof.Rows.ksk_l1 _ _) (fun _ => PyProof.Rows.ksk_t1 _ _) (fun v x hR hx h tk kph => ?_) fun out cc h' tk kph _ hout ol eo => ?_
        · have hx2 : x.2 ∈ xs := (List.of_mem_zip hx).2
          have hk := List.all_eq_true.mp k1 _ hx2
          cases hkd : k.key x.2 with
          | none => rw [hkd] at hk; cases hk
          | some kd =>
            have := key_depth hkd
            have e2 : keyPy k x.2 = kd.py := by unfold keyPy; rw [hkd]; rfl
            show X.A.units + 2 + (keyPy k x.2).depth < cLine
            rw [e2]; omega
        · have hx2 : x.2 ∈ xs := (List.of_mem_zip hx).2
          have hrp := rp.zip x hx
          have hk := List.all_eq_true.mp k1 _ hx2
          obtain ⟨xv1, xd⟩ := x
          cases hkd : k.key xd with
          | none => rw [hkd] at hk; cases hk
          | some kd =>
            have e2 : keyPy k xd = kd.py := by unfold keyPy; rw [hkd]; rfl
            have htup : ∃ ds, xd = .tup ds := by
              unfold KS.key at hkd
              split at hkd
              · exact ⟨_, rfl⟩
              · exact ⟨_, rfl⟩
              · cases hkd
            obtain ⟨ds, rfl⟩ := htup
            cases hrp with
            | @tup ta tvs _ ea rps =>
              cases hR
              obtain ⟨tis, trv, tp, tz⟩ := I2.tuple (SqT.of (K := X.K) (r2.fzok _ _ ea))
              have tp' : h.IsTuple ta tis.toArray := let ⟨o, h1, h2⟩ := tp; ⟨o, kph _ _ h1, h2⟩
              show wpAny _ _ (call (.ref f) [.ref ta]) (PySem.W.KeyPure (keyPy k (.tup ds)) _) _ _
              rw [e2]
              exact key_call (s := { sh2 with heap := h, toks := tk }) (A := X.A.in1.in1) hr.depth (kph _ _ hf) ⟨c', oc, cvs, ct, rfl, kph _ _ hoc, hdc, hvc⟩ (I2.nolimit.keeps kph) lam_bind c2 c3 c1 (fun y hy => (c4 y hy).1) c5 hdb hks tp' rps trv (by rw [← trv.length]; exact tz) hkd
        · have ov := each_vals eo
          have es := sort_snd len false (keyPy k)
          have rpo : RpAll W1 (((xv.zip xs).mergeSort (PySem.W.dataLe false fun p => keyPy k p.2)).map (·.1)) (sortKL k xs) := by
            unfold sortKL
            rw [← es]
            exact RpAll.ofPairs fun p hp => rp.zip p ((List.mergeSort_perm _ _).mem_iff.mp hp)
          have hp := I2.hok.fresh (Nat.le_succ sh2.heap.objs.size)
          obtain ⟨ag3, r3⟩ := r2.newList hp rpo
          refine ⟨.ref _, upd H2 (sh2.heap.objs.size + 1) (.lst (((xv.zip xs).mergeSort (PySem.W.dataLe false fun p => keyPy k p.2)).map (·.1))), I2.laid (t' := tk) kph (Nat.le_succ _) ⟨?_, out, cc, ov, hout⟩, rfl, q W1 _ _ le1 ((ag1.trans ag2).trans ag3) r3⟩
          rw [List.length_map, List.length_mergeSort, hzl]
          exact szOk.le k4
      · rw [star_cons hs]; rfl
      · rw [star_cons hs]; rfl
    · cases hm
  · cases hm
end
end G
-- part Fw19
set_option Elab.async false
set_option linter.all false
set_option maxRecDepth 100000
set_option maxHeartbeats 4000000
set_option autoImplicit false
/-! Framework 19: lists within a dict; calls that are lent what a name holds; a minus sign. -/
namespace G
open PySem PySem.Spec PyProof.Rows L2
variable [TabC]
theorem map_same {α : Type} {k : Key} {z : α} : ∀ {xs : List (Key × α)}, k ∉ xs.map (·.1) → (xs.map fun kv => if kv.1 = k then (kv.1, z) else kv) = xs
  | [], _ => rfl
  | x :: xs, h => by
    simp only [List.map_cons, List.mem_cons, not_or] at h
    rw [List.map_cons, map_same h.2, if_neg fun q => h.1 q.symm]
theorem getK_cons {α : Type} {k1 k : Key} {v : α} {r : List (Key × α)} : getK ((k1, v) :: r) k = if k1 = k then some v else getK r k := by
  unfold getK
  by_cases h : k1 = k
  · rw [if_pos h, List.find?_cons_of_pos (by simpa using h)]; rfl
  · rw [if_neg h, List.find?_cons_of_neg (by simpa using h)]
theorem Row.setK {P : V → D → List Addr → Prop} {k : Key} {d : D} : ∀ {vs : List (Key × V)} {ds : List (Key × D)} {fs : List Addr}, vs.map (·.1) = ds.map (·.1) → (ds.map (·.1)).Nodup → fs.Nodup → Row P (vs.map (·.2)) (ds.map (·.2)) fs → getK ds k = some d →
    ∃ v f, getK vs k = some v ∧ P v d f ∧ (∀ b ∈ f, b ∈ fs) ∧ ∀ (P' : V → D → List Addr → Prop) (d' : D), (∀ v' d'' g, P v' d'' g → (∀ b ∈ g, b ∈ fs) → (∀ b ∈ g, b ∉ f) → P' v' d'' g) → P' v d' f →
      Row P' (vs.map (·.2)) ((ds.map fun kv => if kv.1 = k then (kv.1, d') else kv).map (·.2)) fs
  | [], [], _, _, _, _, _, h => by cases h
  | [], _ :: _, _, e, _, _, _, _ => by cases e
  | _ :: _, [], _, e, _, _, _, _ => by cases e
  | (k1, v1) :: vs, (k2, d1) :: ds, fs0, e, nd, fn, ro, h => by
    have ro : Row P (v1 :: vs.map (·.2)) (d1 :: ds.map (·.2)) fs0 := ro
    generalize hA : vs.map (·.2) = A at ro
    generalize hB : ds.map (·.2) = B at ro
    cases ro with
    | @cons _ _ _ _ f0 fs r t =>
    subst hA hB
    simp only [List.map_cons, List.cons.injEq] at e
    obtain ⟨e0, e⟩ := e
    subst e0
    have nd' := List.nodup_cons.mp nd
    have fn' := List.nodup_append.mp fn
    rw [getK_cons] at h
    by_cases hk : k1 = k
    · subst hk
      rw [if_pos rfl] at h
      cases h
      refine ⟨v1, f0, by rw [getK_cons, if_pos rfl], r, fun b hb => List.mem_append_left _ hb, fun P' d' hP pv => ?_⟩
      simp only [List.map_cons, if_true]
      have e3 : (ds.map fun kv => if kv.1 = k1 then (kv.1, d') else kv) = ds := map_same nd'.1
      rw [e3]
      exact .cons pv (t.imp fun v' d'' g hg o => hP v' d'' g o (fun b hb => List.mem_append_right _ (hg b hb)) fun b hb z => fn'.2.2 b z b (hg b hb) rfl)
    · rw [if_neg hk] at h
      obtain ⟨v, f, a1, a2, a3, a4⟩ := Row.setK e nd'.2 fn'.2.1 t h
      refine ⟨v, f, by rw [getK_cons, if_neg hk]; exact a1, a2, fun b hb => List.mem_append_right _ (a3 b hb), fun P' d' hP pv => ?_⟩
      simp only [List.map_cons, if_neg hk]
      exact .cons (hP _ _ _ r (fun b hb => List.mem_append_left _ hb) fun b hb z => fn'.2.2 b hb b (a3 b z) rfl) (a4 P' d' (fun v' d'' g o hg hn => hP v' d'' g o (fun b hb => List.mem_append_right _ (hg b hb)) hn) pv)
section
variable {X : Cx}
/-- x[k].append(e) where x holds a dict of lists -/
def sSubApp (i : Nat) (mk : EO) (m : EV) : Sm := fun s => if s.bound i then (mk s).then fun ok s1 => (match s1.look ok, s1.env[i]? with
  | some (_, kd), some (some (2, .dct kvs)) => (match kd.key with
    | some k => (match getK kvs k with
      | some (.lst ds) => if szOk ds.length && nodupK (kvs.map (·.1)) then (m { s1 with env := s1.env.set i none }).then fun d s2 => (match s2.env[i]? with
        | some none => .nx { s2 with env := s2.env.set i (some (2, .dct (putL kvs k (.lst (ds ++ [d]))))) }
        | _ => .bad) else .bad
      | _ => .bad)
    | none => .bad)
  | _, _ => .bad) else .bad
theorem S.bound_at {W : Wd} {Fr : Addr → Prop} {ts : List (Nat × V × D)} {s : S} {σ : L2.St} {H : Hp} {i : Nat} (r : Rel W Fr ts s σ H) (hb : s.bound i = true) : ∃ u, σ[i]? = some (some u) := by
  unfold S.bound at hb
  split at hb
  · rename_i p ei
    obtain ⟨lq, dq⟩ := p
    obtain ⟨u, f, eu, _⟩ := r.slot ei
    exact ⟨u, eu⟩
  · cases hb
theorem den_subApp {k : Nat} {i : Nat} {x : Str} {mk : EO} {m : EV} {ke e : Expr} {px sp ap cp pos : Pos} (hr : Room k X.A) (hx : NameAt X i x) (hsl : notSlice ke = true) (hl : (ap.endLine == cp.line) = true) (hs : notStar e = true) (hk : DenO X mk ke) (h : DenV X m e) :
    DenS X (sSubApp i mk m) (.Expr (.Call (.Attribute (.Subscript (.Name x px) ke sp) "append" ap) [e] [] cp) pos) := by
  intro W Fr s σ H En r hp
  have hu1 : X.A.units + 1 < cLine := by have := hr.units; omega
  refine .of (ps_expr (pe_bm PySem.F.plainAttrs_list PySem.F.slot_list_append PySem.F.type_list_append mt_append (pe_dget hu1 hx.pe (pU ke) (notSlice_ix hsl)) (pa_cons (pU e) pa_nil (star_cons hs)) rfl (few1 hs) hl (star_cons hs) rfl) (notComp_sw rfl)) ?_
  unfold sSubApp at hp
  split at hp
  · rename_i hb
    obtain ⟨u, eu⟩ := S.bound_at r hb
    refine ⟨u, eu, ?_⟩
    cases hm : mk s with
    | bad => rw [hm] at hp; exact hp.elim
    | err x s1 => rw [hm] at hp; exact hp.elim
    | ok ok s1 =>
      rw [hm] at hp
      simp only [R.then] at hp
      refine hk W Fr s σ H _ r ok s1 hm fun W1 y H1 le1 ag1 r1 or1 => ?_
      split at hp
      · rename_i lk kd kvs ek ei
        split at hp
        · rename_i key hkey
          split at hp
          · rename_i ds hget
            split at hp
            · rename_i hz
              rw [Bool.and_eq_true] at hz
              obtain ⟨f2, ow2⟩ := r1.look or1 ek
              have ey := _root_.G.D.key_rp ow2 hkey
              subst ey
              have hil : i < s1.env.length := (List.getElem?_eq_some_iff.mp ei).1
              -- the dict is put aside
              obtain ⟨v, ev, r2⟩ := r1.move ei
              rw [eu] at ev
              cases ev
              obtain ⟨g, ow, hgn, hgf, r3⟩ := r2.shelve
              obtain ⟨a, vs, fs, rfl, ha, ekk, rows, rfl⟩ := id ow
              have nd := List.nodup_cons.mp hgn
              obtain ⟨bv, fb, gv, ob, hsub, upd'⟩ := Row.setK ekk (nodupK_ok hz.2) nd.2 rows hget
              obtain ⟨b, bvs, bfs, rfl, hbb, brows, rfl⟩ := id ob
              have rpb : RpAll W1 bvs ds := brows.frozen fun v d g _ o => o.1
              have hbf : b ∈ fs := hsub b (by simp)
              refine ⟨a, .ref b, rfl, ?_, .inl ⟨rfl, _, SqL.of hbb⟩, ?_⟩
              · have := DGet.k (k := key) ha
                rw [getK_eq, gv] at this
                exact this
              cases hm2 : m { s1 with env := s1.env.set i none } with
              | bad => rw [hm2] at hp; exact hp.elim
              | err x s2 => rw [hm2] at hp; exact hp.elim
              | ok d s2 =>
                rw [hm2] at hp
                simp only [] at hp
                refine h W1 _ _ σ H1 _ r3 d s2 hm2 fun W2 z H2 le2 ag2 r4 rp4 => ?_
                split at hp
                · rename_i e2
                  have hH2 : ∀ c ∈ a :: fs, H2 c = H1 c := fun c hc => ag2 c (.inr hc)
                  have hb2 : H2 b = some (.lst bvs) := by rw [hH2 b (by simp [hbf])]; exact hbb
                  refine ⟨b, bvs, z, rfl, rfl, hb2, by rw [rpb.length]; exact szOk.lt hz.1, ?_⟩
                  have hab : a ≠ b := fun q => nd.1 (q ▸ hbf)
                  have r5 := r4.frWrite (us := bvs ++ [z]) hb2 (.inr (by simp [hbf]))
                  have ow5 : Own W2 (upd H2 b (.lst (bvs ++ [z]))) 2 (.ref a) (.dct (putL kvs key (.lst (ds ++ [d])))) (a :: fs) := by
                    have hany : (kvs.any fun kv => decide (kv.1 = key)) = true := by
                      unfold getK at hget
                      cases hf : kvs.find? fun kv => decide (kv.1 = key) with
                      | none => rw [hf] at hget; cases hget
                      | some kv => exact List.any_eq_true.mpr ⟨kv, List.mem_of_find?_eq_some hf, by have := List.find?_some hf; simpa using this⟩
                    have e6 : putL kvs key (D.lst (ds ++ [d])) = kvs.map fun kv => if kv.1 = key then (kv.1, D.lst (ds ++ [d])) else kv := if_pos hany
                    refine ⟨a, vs, fs, rfl, by rw [upd_ne hab, hH2 a (by simp)]; exact ha, ?_, ?_, rfl⟩
                    · rw [e6, ekk, List.map_map]
                      refine List.map_congr_left fun kv _ => ?_
                      show kv.1 = (if kv.1 = key then (kv.1, D.lst (ds ++ [d])) else kv).1
                      split <;> rfl
                    · rw [e6]
                      refine upd' (Own W2 (upd H2 b (.lst (bvs ++ [z]))) 1) _ (fun v' d'' g o hg hn => ?_) ?_
                      · refine o.mono le2 _ fun c hc => ?_
                        rw [upd_ne fun q => hn c hc (by simp [q]), hH2 c (by simp [hg c hc])]
                      · have bf0 : bfs = [] := by
                          have : ∀ {vs : List V} {ds : List D} {fs : List Addr}, Row (Own W1 H1 0) vs ds fs → fs = [] := by
                            intro vs ds fs h
                            induction h with
                            | nil => rfl
                            | cons p _ ih => rw [p.2, ih]; rfl
                          exact this brows
                        subst bf0
                        exact own1 upd_same ((rpb.mono le2).append (.cons rp4 .nil))
                  have r6 := Rel.unshelve (Fr := Fr) ow5 hgn hgf .refl .refl r5
                  have hil2 : i < s2.env.length := (List.getElem?_eq_some_iff.mp e2).1
                  have r7 := r6.store (i := i) hil2
                  rw [set_self eu] at r7
                  refine hp W2 σ _ (le1.trans le2) (ag1.trans fun c hc => ?_) r7
                  rw [upd_ne fun q => hgf b (by simp [hbf]) (by rw [← q]; exact hc)]
                  exact ag2 c (.inl hc)
                · exact hp.elim
            · exact hp.elim
          · exact hp.elim
        · exact hp.elim
      · exact hp.elim
  · exact hp.elim
end
end G
-- part Fw20
set_option Elab.async false
set_option linter.all false
set_option maxRecDepth 100000
set_option maxHeartbeats 4000000
set_option autoImplicit false
/-! Framework 20: calls that are lent what names hold. -/
namespace G
open PySem PySem.Spec PyProof.Rows L2
variable [TabC]
/-- the world without a few frozen objects -/
def Wd.less (W : Wd) (f : List Addr) : Wd := { W with fz := fun a => if a ∈ f then none else W.fz a }
def flatC : Nat × D → Bool
  | (1, .dct kvs) => kvs.all fun kv => kv.2.atom.isSome
  | _ => false
theorem atom_rp {W W' : Wd} {v : V} {d : D} (h : Rp W v d) (e : d.atom.isSome = true) : Rp W' v d := by
  cases h <;> first | exact .non | exact .bl _ | exact .int _ | exact .str _ | cases e
theorem atoms_rp {W W' : Wd} : ∀ {vs : List V} {ds : List D}, RpAll W vs ds → ds.all (fun d => d.atom.isSome) = true → RpAll W' vs ds
  | _, _, .nil, _ => .nil
  | _, _, .cons r t, h => by
    rw [List.all_cons, Bool.and_eq_true] at h
    exact .cons (atom_rp r h.1) (atoms_rp t h.2)
theorem Cells.flat {W W' : Wd} {H : Hp} : ∀ {es : List (Nat × D)} {as f : List Addr}, Cells W H es as f → es.all flatC = true → Cells W' H es as f
  | _, _, _, .nil, _ => .nil
  | _, _, _, .cons (l := l) (d := d) o t, h => by
    rw [List.all_cons, Bool.and_eq_true] at h
    refine .cons ?_ (t.flat h.2)
    have h1 := h.1
    unfold flatC at h1
    split at h1
    · rename_i x kvs e
      cases e
      obtain ⟨a, vs, fs, e1, q, ek, rows, ef⟩ := o
      have rp : RpAll W (vs.map (·.2)) (kvs.map (·.2)) := rows.frozen fun v d g _ o => o.1
      have hf : fs = [] := by
        have : ∀ {vs : List V} {ds : List D} {fs : List Addr}, Row (Own W H 0) vs ds fs → fs = [] := by
          intro vs ds fs h
          induction h with
          | nil => rfl
          | cons p _ ih => rw [p.2, ih]; rfl
        exact this rows
      subst hf
      cases e1
      rw [ef]
      exact own1d q ek (atoms_rp rp (by rw [List.all_map]; exact h1))
    · cases h1
/-- what operands hold, with all names' values frozen -/
theorem Slots.lend {W : Wd} {H : Hp} {s : S} {σ : L2.St} {f1 : List Addr} (fz : ∀ a o, W.fz a = some o → H a = some o) (h1 : Slots W H s.env σ f1) : ∀ {vs : List V} {os : List O} {ps : List (Nat × D)}, ORs W σ vs os → s.looks os = some ps → RpAll (W.freeze H f1) vs (ps.map (·.2))
  | _, _, ps, .nil, e => by cases e; exact .nil
  | _, _, ps, .cons (v := v) (o := o) (os := os) h t, e => by
    unfold S.looks at e
    split at e
    · rename_i p qs e1 e2
      cases e
      refine .cons ?_ (Slots.lend fz h1 t e2)
      cases o with
      | val d => cases e1; exact Rp.mono (Wd.freeze_le fz) h
      | slot i =>
        unfold S.look at e1
        simp only at e1
        split at e1
        · rename_i p' e3
          cases e1
          obtain ⟨l, d⟩ := p
          obtain ⟨u, g, rr, eu, ow, _, pm⟩ := h1.take e3
          have h' : σ[i]? = some (some v) := h
          rw [eu] at h'
          cases h'
          exact ow.frozen (Wd.freeze_le fz) _ fun a ha => Wd.freeze_at (pm.mem_iff.mpr (List.mem_append_left _ ha))
        · cases e1
    · cases e
section
variable {X : Cx}
def eCallL (C : Call) (x : Str) (ms : S → R (List O)) (dfl : List D) : E := fun s => (ms s).bind fun os s1 => match s1.looks os with
  | some ps => (match C x (ps.map (·.2) ++ dfl) ⟨[], s1.st⟩ with
    | .ok p s2 => if p.2.atom.isSome && s2.st.all flatC then .ok (0, p.2) { s1 with st := s2.st } else .bad
    | .bad => .bad
    | .err e s2 => .bad)
  | none => .bad
theorem lend_use {C : Call} {x : Str} {np : Nat} (cl : Closed C) {W : Wd} {Fr : Addr → Prop} {s : S} {σ : L2.St} {H : Hp} {Q : VK} {vs dvs : List V} {os : List O} {ps : List (Nat × D)} {dfl : List D} {l : Nat} {d : D} {s2 : S} (r : Rel W Fr [] s σ H) (or1 : ORs W σ vs os) (el : s.looks os = some ps)
    (hd : ∀ W, RpAll W dvs dfl) (hn : (ps.map (·.2) ++ dfl).length = np) (hc : C x (ps.map (·.2) ++ dfl) ⟨[], s.st⟩ = .ok (l, d) s2) (ha : d.atom.isSome = true) (hf : s2.st.all flatC = true)
    (q : ∀ (W' : Wd) (v : V) (H' : Hp), Wle W W' → Agree Fr H H' → Rel W' Fr [(0, v, d)] { s with st := s2.st } σ H' → Q v H') : spC C x np (vs ++ dvs) H Q E0 := by
  have e2 : s2 = ⟨[], s2.st⟩ := by
    have := cl x _ s.st _ _ hc
    cases s2
    simp only at this
    subst this
    rfl
  rw [e2] at hc
  obtain ⟨f1, f2, f3, h1, h2, h3, f⟩ := r
  cases h3
  rw [List.append_nil] at f
  have rp := h1.lend f.fz or1 el
  have le : Wle W (W.freeze H f1) := Wd.freeze_le f.fz
  refine ⟨W.freeze H f1, Fr, _, s.st, s2.st, l, d, hn, rp.append (hd _), ⟨[], f2, [], .nil, h2.mono le fun _ _ => rfl, .nil, ?_⟩, hc, fun W' v H' le' ag r' => ?_⟩
  · simpa using Fit.freeze (f := f1) (g := f2) f
  · obtain ⟨g1, g2, g3, k1, k2, k3, fit⟩ := r'
    cases k1
    obtain ⟨gv, g4, rfl, ov, k4⟩ := k3.uncons
    cases k4
    have hrp : Rp W' v d := ov.rp (by cases d <;> first | trivial | cases ha)
    have onf : ∀ a ∈ f1, ∃ o, H a = some o ∧ W'.fz a = some o := fun a ha => by
      have hx := h1.there a ha
      cases e : H a with
      | none => exact absurd e hx
      | some o => exact ⟨o, rfl, le'.fz a o (by rw [Wd.freeze_at ha]; exact e)⟩
    have leW : Wle W (W'.less f1) := ⟨fun a o e => by
      have hna : a ∉ f1 := fun z => by have := (f.sep a (List.mem_append_left _ z)).1; rw [e] at this; cases this
      show (if a ∈ f1 then none else W'.fz a) = some o
      rw [if_neg hna]
      exact le'.fz a o (le.fz a o e), fun n a e => le'.cs n a (le.cs n a e)⟩
    have g2n : ∀ a ∈ g2, a ∉ f1 := fun a ha z => by
      obtain ⟨o, _, e⟩ := onf a z
      have := (fit.sep a (by simp [ha])).1
      rw [e] at this
      cases this
    refine q (W'.less f1) v H' leW ag ⟨f1, g2, [] ++ [], h1.mono leW fun a ha => ?_, k2.flat hf, .cons (.zero (atom_rp hrp ha)) .nil, fun a o e => ?_, ?_, fun a ha => ?_, fun a ha => ?_, fit.tb, fun a ha => ?_⟩
    · obtain ⟨o, e1, e2⟩ := onf a ha
      rw [fit.fz a o e2, e1]
    · have e : (if a ∈ f1 then none else W'.fz a) = some o := e
      split at e
      · cases e
      · exact fit.fz a o e
    · have n1 := (List.nodup_append.mp f.nd).1
      have n2 : g2.Nodup := fit.nd.sublist (by simp)
      simp only [List.append_nil]
      exact List.nodup_append.mpr ⟨n1, n2, fun a ha b hb z => g2n b hb (z ▸ ha)⟩
    · simp only [List.append_nil] at ha
      rcases List.mem_append.mp ha with z | z
      · exact ⟨by show (if a ∈ f1 then none else W'.fz a) = none; rw [if_pos z], (f.sep a (List.mem_append_left _ z)).2⟩
      · refine ⟨?_, (fit.sep a (by simp [z])).2⟩
        show (if a ∈ f1 then none else W'.fz a) = none
        rw [if_neg (g2n a z)]
        exact (fit.sep a (by simp [z])).1
    · refine ⟨(fit.fr a ha).1, ?_⟩
      show (if a ∈ f1 then none else W'.fz a) = none
      split
      · rfl
      · exact (fit.fr a ha).2
    · refine fit.nt a ?_
      rcases ha with z | z | z
      · have z : (if a ∈ f1 then none else W'.fz a) ≠ none := z
        split at z
        · exact absurd rfl z
        · exact .inl z
      · exact .inr (.inl z)
      · simp only [List.append_nil] at z
        rcases List.mem_append.mp z with z | z
        · obtain ⟨o, _, e⟩ := onf a z
          exact .inl (by rw [e]; exact nofun)
        · exact .inr (.inr (by simp [z]))
theorem looks_len {s : S} : ∀ {os : List O} {ps : List (Nat × D)}, s.looks os = some ps → ps.length = os.length
  | [], ps, e => by cases e; rfl
  | o :: os, ps, e => by
    unfold S.looks at e
    split at e
    · rename_i p qs e1 e2
      cases e
      simp [looks_len e2]
    · cases e
theorem den_callL {k : Nat} {C : Call} {x : Str} {i : FnI} {j : Nat} {ms : S → R (List O)} {e : Expr} {es : List Expr} {p pos : Pos} (cl : Closed C) (F : FnFact X k C x i) (hr : Room k X.A) (hgd : X.A.guards = some []) (hg : Gl X x) (hj : j ≤ i.dfl.length)
    (hs : noStars (e :: es) = true) (hm : ∀ s os s', ms s = .ok os s' → os.length + (i.dfl.drop j).length = i.np) (ha : DenOs X ms (e :: es)) : DenE X (eCallL C x ms (i.dfl.drop j)) (.Call (.Name x p) (e :: es) [] pos) := by
  intro W Fr s σ H Q r l d s' h q pins sh I
  obtain ⟨f, fd, ps, mgx, kp, hdb, FG, hb⟩ := F
  obtain ⟨dvs, dV, rd, rpd, hB⟩ := hb j hj
  have hs' : (notStar e && es.all notStar) = true := hs
  rw [Bool.and_eq_true] at hs'
  obtain ⟨os, s1, e1, h⟩ := R.bind_ok h
  refine wpAny_Call_Name_kw (ld_glob I hg mgx ?_ hdb)
  have args : UA X (e :: es) σ H fun vs H1 => spC C x i.np (vs ++ dvs) H1 Q E0 := by
    refine ha W Fr s σ H _ r os s1 e1 fun W1 vs H1 le1 ag1 r1 or1 => ?_
    split at h
    · rename_i prs el
      split at h
      · rename_i pr s2 hc
        split at h
        · rename_i hz
          rw [Bool.and_eq_true] at hz
          cases h
          obtain ⟨pl, pd⟩ := pr
          refine lend_use cl r1 or1 el rpd ?_ hc hz.1 hz.2 fun W' v H' le ag r' => q W' v H' (le1.trans le) (ag1.trans ag) r'
          rw [List.length_append, List.length_map, looks_len el]
          exact hm s os s1 e1
        · cases h
      · cases h
      · cases h
    · cases h
  refine PySem.W.callWith_K (h₀ := X.base) I.ok.mod.kin kp (thn (args pos pins sh I) fun us s2 ⟨vs, H1, I1, rv, qv⟩ => ⟨I1.kIn, ?_⟩) (star_cons hs'.1) (noStars_any (show noStars es = true from hs'.2))
  exact runG FG hgd hr hB rd I1 rv qv
end
end G
-- part Fw21
set_option Elab.async false
set_option linter.all false
set_option maxRecDepth 100000
set_option maxHeartbeats 4000000
set_option autoImplicit false
/-! Framework 21: the reader of expressions, and that it is sound. -/
namespace G
open PySem PySem.Spec PyProof.Rows L2
variable [TabC]

/-- what is known of a def's surroundings -/
structure Lay where
  N : List Str
  glob : List (Str × D)
  fns : List (Str × FnI × Bool)
  free : List Str
  C : Call
  top : Bool
  lam : Bool
structure Good (L : Lay) (k : Nat) (sc : Scope) (X : Cx) : Prop where
  sc : X.env.scope = sc
  N : X.N = L.N
  nd : L.N.Nodup
  calm : X.calm = true
  room : Room k X.A
  gd : X.A.guards = some []
  glob : ∀ x d, L.glob.lookup x = some d → GlobC X x d
  fns : ∀ x i b, L.fns.lookup x = some (i, b) → FnFact X k L.C x i
  free : ∀ x, x ∈ L.free → X.mg x = none
  cl : Closed L.C
  top : L.top = true → ∀ x, X.fn x = true
  lam : L.lam = true → LamFact X
def Lay.inner (L : Lay) : Lay := { L with top := false, lam := false }
theorem Good.blk {L : Lay} {k : Nat} {sc scope : Scope} {X : Cx} (g : Good L k sc X) : Blk X scope fun X' => Good L.inner k (relS scope sc) X' := fun sh H C cl fp =>
  ⟨by rw [← g.sc]; rfl, g.N, g.nd, g.calm, g.room, g.gd, g.glob, g.fns, g.free, g.cl, nofun, nofun⟩

/-! ### names -/
def ixS : List Str → Str → Option Nat
  | [], _ => none
  | y :: r, x => if x = y then some 0 else (ixS r x).map (· + 1)
theorem ixS_ok : ∀ {N : List Str} {x : Str} {i : Nat}, ixS N x = some i → N[i]? = some x
  | [], _, _, h => by cases h
  | y :: r, x, i, h => by
    unfold ixS at h
    split at h
    · rename_i e; cases h; rw [e]; rfl
    · cases q : ixS r x with
      | none => rw [q] at h; cases h
      | some j => rw [q] at h; cases h; exact (show r[j]? = some x from ixS_ok (N := r) q)
def isVis (sc : Scope) (x : Str) : Bool := match sc.names.lookup x with
  | some .local | some .cell | some .free => true
  | _ => false
def isLoc (sc : Scope) (x : Str) : Bool := match sc.names.lookup x with
  | some .local | some .cell => true
  | _ => false
def isLcl (sc : Scope) (x : Str) : Bool := match sc.names.lookup x with
  | some .local => true
  | _ => false
def isGl (sc : Scope) (x : Str) : Bool := match sc.names.lookup x with
  | some .globalImplicit => true
  | _ => false
theorem isVis_ok {sc : Scope} {x : Str} (h : isVis sc x = true) : Vis sc x := by
  unfold isVis at h
  unfold Vis
  split at h <;> simp_all
theorem isLoc_ok {sc : Scope} {x : Str} (h : isLoc sc x = true) : Loc sc x := by
  unfold isLoc at h
  unfold L2.Loc
  split at h <;> simp_all
theorem isLcl_ok {sc : Scope} {x : Str} (h : isLcl sc x = true) : sc.names.lookup x = some .local := by
  unfold isLcl at h
  split at h <;> simp_all
theorem isGl_ok {L : Lay} {k : Nat} {sc : Scope} {X : Cx} (g : Good L k sc X) {x : Str} (h : isGl sc x = true) : Gl X x := by
  unfold isGl at h
  show X.env.scope.names.lookup x = _
  rw [g.sc]
  split at h <;> simp_all
def okName (x : Str) : Bool := !(x == ("__debug__" : Str)) && !(x == ("__classdict__" : Str))
def slotOf (L : Lay) (sc : Scope) (x : Str) : Option Nat := if isVis sc x && okName x then ixS L.N x else none
theorem slot_ok {L : Lay} {k : Nat} {sc : Scope} {X : Cx} (g : Good L k sc X) {x : Str} {i : Nat} (h : slotOf L sc x = some i) : NameAt X i x := by
  unfold slotOf at h
  split at h
  · rename_i c
    simp only [Bool.and_eq_true, okName, Bool.not_eq_true'] at c
    exact ⟨by rw [g.N]; exact ixS_ok h, by rw [g.sc]; exact isVis_ok c.1, c.2.1, c.2.2⟩
  · cases h
/-! ### lists -/
def vsR (rv : Expr → Option EV) : List Expr → Option (S → R (List D))
  | [] => some vsNil
  | e :: es => if notStar e then (match rv e, vsR rv es with
    | some m, some ms => some (vsCons m ms)
    | _, _ => none) else none
def osR (ro : Expr → Option EO) : List Expr → Option (S → R (List O))
  | [] => some osNil
  | e :: es => if notStar e then (match ro e, osR ro es with
    | some m, some ms => some (osCons m ms)
    | _, _ => none) else none
def lsR (re : Expr → Option E) : List Expr → Option (S → R (List (Nat × D)))
  | [] => some lsNil
  | e :: es => if notStar e then (match re e, lsR re es with
    | some m, some ms => some (lsCons m ms)
    | _, _ => none) else none
section
variable {X : Cx}
theorem vsR_ok {rv : Expr → Option EV} (h : ∀ e m, rv e = some m → DenV X m e) : ∀ {es : List Expr} {ms : S → R (List D)}, vsR rv es = some ms → DenVs X ms es ∧ noStars es = true ∧ ∀ s ds s', ms s = .ok ds s' → ds.length = es.length
  | [], ms, q => by
    cases q
    exact ⟨den_vsNil, rfl, fun s ds s' z => by cases z; rfl⟩
  | e :: es, ms, q => by
    unfold vsR at q
    split at q
    · rename_i hn
      split at q
      · rename_i m ms' e1 e2
        cases q
        obtain ⟨a1, a2, a3⟩ := vsR_ok h e2
        refine ⟨den_vsCons (h _ _ e1) a1 hn, by show (notStar e && es.all notStar) = true; rw [hn]; exact a2, fun s ds s' z => ?_⟩
        obtain ⟨d, s1, z1, z⟩ := R.bind_ok z
        obtain ⟨ds1, s2, z2, z⟩ := R.bind_ok z
        cases z
        simp [a3 _ _ _ z2]
      · cases q
    · cases q
theorem osR_ok {ro : Expr → Option EO} (h : ∀ e m, ro e = some m → DenO X m e) : ∀ {es : List Expr} {ms : S → R (List O)}, osR ro es = some ms → DenOs X ms es ∧ noStars es = true ∧ ∀ s ds s', ms s = .ok ds s' → ds.length = es.length
  | [], ms, q => by
    cases q
    exact ⟨den_osNil, rfl, fun s ds s' z => by cases z; rfl⟩
  | e :: es, ms, q => by
    unfold osR at q
    split at q
    · rename_i hn
      split at q
      · rename_i m ms' e1 e2
        cases q
        obtain ⟨a1, a2, a3⟩ := osR_ok h e2
        refine ⟨den_osCons (h _ _ e1) a1 hn, by show (notStar e && es.all notStar) = true; rw [hn]; exact a2, fun s ds s' z => ?_⟩
        obtain ⟨d, s1, z1, z⟩ := R.bind_ok z
        obtain ⟨ds1, s2, z2, z⟩ := R.bind_ok z
        cases z
        simp [a3 _ _ _ z2]
      · cases q
    · cases q
theorem lsR_ok {re : Expr → Option E} (h : ∀ e m, re e = some m → DenE X m e) : ∀ {es : List Expr} {ms : S → R (List (Nat × D))}, lsR re es = some ms → DenLs X ms es
  | [], ms, q => by cases q; exact den_lsNil
  | e :: es, ms, q => by
    unfold lsR at q
    split at q
    · rename_i hn
      split at q
      · rename_i m ms' e1 e2
        cases q
        exact den_lsCons (h _ _ e1) (lsR_ok h e2) hn
      · cases q
    · cases q
/-! ### and, or -/
def andR (rv : Expr → Option EV) : List Expr → Option EV
  | [] => none
  | a :: r => match r with
    | [] => rv a
    | _ :: _ => match rv a, andR rv r with
      | some m, some n => some (eAnd2 m n)
      | _, _ => none
def orR (rv : Expr → Option EV) : List Expr → Option EV
  | [] => none
  | a :: r => match r with
    | [] => rv a
    | _ :: _ => match rv a, orR rv r with
      | some m, some n => some (eOr2 m n)
      | _, _ => none
def tandR (rt : Expr → Option ET) : List Expr → Option ET
  | [] => none
  | a :: r => match r with
    | [] => rt a
    | _ :: _ => match rt a, tandR rt r with
      | some m, some n => some (tAnd2 m n)
      | _, _ => none
def torR (rt : Expr → Option ET) : List Expr → Option ET
  | [] => none
  | a :: r => match r with
    | [] => rt a
    | _ :: _ => match rt a, torR rt r with
      | some m, some n => some (tOr2 m n)
      | _, _ => none
theorem andR_ok {rv : Expr → Option EV} {pos : Pos} (h : ∀ e m, rv e = some m → DenV X m e) : ∀ {es : List Expr} {m : EV}, andR rv es = some m → DenV X m (.BoolOp .And es pos)
  | [], m, q => by cases q
  | [a], m, q => den_one (h _ _ q)
  | a :: b :: r, m, q => by
    unfold andR at q
    simp only at q
    split at q
    · rename_i m1 m2 e1 e2
      cases q
      exact den_eAnd (h _ _ e1) (andR_ok h e2)
    · cases q
theorem orR_ok {rv : Expr → Option EV} {pos : Pos} (h : ∀ e m, rv e = some m → DenV X m e) : ∀ {es : List Expr} {m : EV}, orR rv es = some m → DenV X m (.BoolOp .Or es pos)
  | [], m, q => by cases q
  | [a], m, q => den_one (h _ _ q)
  | a :: b :: r, m, q => by
    unfold orR at q
    simp only at q
    split at q
    · rename_i m1 m2 e1 e2
      cases q
      exact den_eOr (h _ _ e1) (orR_ok h e2)
    · cases q
theorem tandR_ok {rt : Expr → Option ET} {pos : Pos} (h : ∀ e m, rt e = some m → DenT X m e) : ∀ {es : List Expr} {m : ET}, tandR rt es = some m → DenW X m (.BoolOp .And es pos)
  | [], m, q => by cases q
  | [a], m, q => den_and1 (h _ _ q)
  | a :: b :: r, m, q => by
    unfold tandR at q
    simp only at q
    split at q
    · rename_i m1 m2 e1 e2
      cases q
      exact den_and (h _ _ e1) (tandR_ok h e2)
    · cases q
theorem torR_ok {rt : Expr → Option ET} {pos : Pos} (h : ∀ e m, rt e = some m → DenT X m e) : ∀ {es : List Expr} {m : ET}, torR rt es = some m → DenW X m (.BoolOp .Or es pos)
  | [], m, q => by cases q
  | [a], m, q => den_or1 (h _ _ q)
  | a :: b :: r, m, q => by
    unfold torR at q
    simp only at q
    split at q
    · rename_i m1 m2 e1 e2
      cases q
      exact den_or (h _ _ e1) (torR_ok h e2)
    · cases q
theorem DenW.test {m : ET} {e : Expr} (h : DenW X m e) : DenT X m e := fun W Fr s σ H Q r b s' hm q pins sh I => h W Fr s σ H Q r b s' hm q (eval e X.env) pins sh I
/-! ### pairs of a display -/
def psR (rv : Expr → Option EV) : List (Option Expr) → List Expr → Option (S → R (List (Key × D)))
  | [], [] => some psNil
  | some k :: ks, v :: vs => (match rv k, rv v, psR rv ks vs with
    | some mk, some mv, some ms => some (psCons mk mv ms)
    | _, _, _ => none)
  | _, _ => none
theorem psR_ok {rv : Expr → Option EV} (h : ∀ e m, rv e = some m → DenV X m e) : ∀ {ks : List (Option Expr)} {vs : List Expr} {ms : S → R (List (Key × D))}, psR rv ks vs = some ms → DenPs X ms ks vs ∧ ks.all (·.isSome) = true ∧ ks.length = vs.length
  | [], [], ms, q => by cases q; exact ⟨den_psNil, rfl, rfl⟩
  | [], _ :: _, ms, q => by cases q
  | none :: _, [], ms, q => by cases q
  | none :: _, _ :: _, ms, q => by cases q
  | some _ :: _, [], ms, q => by cases q
  | some k :: ks, v :: vs, ms, q => by
    unfold psR at q
    split at q
    · rename_i mk mv ms' e1 e2 e3
      cases q
      obtain ⟨a1, a2, a3⟩ := psR_ok h e3
      exact ⟨den_psCons (h _ _ e1) (h _ _ e2) a1, by simpa using a2, by simp [a3]⟩
    · cases q
/-! ### targets -/
def tg1 (L : Lay) (sc : Scope) : Expr → Option (Nat × Tm)
  | .Name x _ => if isLcl sc x || (L.top && isLoc sc x) then (ixS L.N x).map fun i => (i, gVar i) else none
  | _ => none
def tgsR (L : Lay) (sc : Scope) : List Expr → Option (List Nat × Tms)
  | [] => some ([], gsNil)
  | e :: es => match tg1 L sc e, tgsR L sc es with
    | some (i, g), some (is, gs) => some (i :: is, gsCons g gs)
    | _, _ => none
def tgR (L : Lay) (sc : Scope) : Expr → Option (List Nat × Tm)
  | .Tuple es _ _ => (tgsR L sc es).map fun p => (p.1, gTupM es.length p.2)
  | e => (tg1 L sc e).map fun p => ([p.1], p.2)
theorem tg1_ok {L : Lay} {k : Nat} {sc : Scope} (gd : Good L k sc X) {e : Expr} {i : Nat} {g : Tm} (h : tg1 L sc e = some (i, g)) : DenG X [i] g e ∧ plainTg e = true := by
  unfold tg1 at h
  split at h
  · rename_i x p
    split at h
    · rename_i c
      cases q : ixS L.N x with
      | none => rw [q] at h; cases h
      | some j =>
        rw [q] at h
        cases h
        rw [Bool.or_eq_true, Bool.and_eq_true] at c
        have hl : Loc X.env.scope x := by
          rw [gd.sc]
          rcases c with c | c
          · exact .inl (isLcl_ok c)
          · exact isLoc_ok c.2
        refine ⟨den_gVar (by rw [gd.N]; exact gd.nd) (by rw [gd.N]; exact ixS_ok q) hl ?_, rfl⟩
        rcases c with c | c
        · exact .inr (by rw [gd.sc]; exact isLcl_ok c)
        · exact .inl (gd.top c.1 x)
    · cases h
  · cases h
theorem tgsR_ok {L : Lay} {k : Nat} {sc : Scope} (gd : Good L k sc X) : ∀ {es : List Expr} {is : List Nat} {gs : Tms}, tgsR L sc es = some (is, gs) → DenGs X is gs es ∧ es.all plainTg = true
  | [], is, gs, h => by cases h; exact ⟨den_gsNil, rfl⟩
  | e :: es, is, gs, h => by
    unfold tgsR at h
    split at h
    · rename_i i g is' gs' e1 e2
      cases h
      obtain ⟨a1, a2⟩ := tg1_ok gd e1
      obtain ⟨b1, b2⟩ := tgsR_ok gd e2
      exact ⟨den_gsCons a2 a1 b1, by rw [List.all_cons, a2, b2]; rfl⟩
    · cases h
theorem tgR_ok {L : Lay} {k : Nat} {sc : Scope} (gd : Good L k sc X) {e : Expr} {is : List Nat} {g : Tm} (h : tgR L sc e = some (is, g)) : DenG X is g e ∧ plainTg e = true := by
  unfold tgR at h
  split at h
  · rename_i es kk p
    cases q : tgsR L sc es with
    | none => rw [q] at h; cases h
    | some z =>
      rw [q] at h
      obtain ⟨is', gs⟩ := z
      cases h
      obtain ⟨b1, b2⟩ := tgsR_ok gd q
      exact ⟨den_gTup gd.calm b2 b1, rfl⟩
  · rename_i e' hne
    cases q : tg1 L sc e with
    | none => rw [q] at h; cases h
    | some z =>
      rw [q] at h
      obtain ⟨i, g'⟩ := z
      cases h
      exact tg1_ok gd q
end
end G
-- part Fw22
set_option Elab.async false
set_option linter.all false
set_option maxRecDepth 100000
set_option maxHeartbeats 4000000
set_option autoImplicit false
/-! Framework 22: one step of the reader of expressions. -/
namespace G
open PySem PySem.Spec PyProof.Rows L2
variable [TabC]

structure Rdr where
  e : Lay → Scope → Expr → Option E
  v : Lay → Scope → Expr → Option EV
  o : Lay → Scope → Expr → Option EO
  t : Lay → Scope → Expr → Option ET
def rdr0 : Rdr := ⟨fun _ _ _ => none, fun _ _ _ => none, fun _ _ _ => none, fun _ _ _ => none⟩
structure GoodR (R : Rdr) (k : Nat) : Prop where
  e : ∀ L sc X, Good L k sc X → ∀ x m, R.e L sc x = some m → DenE X m x
  v : ∀ L sc X, Good L k sc X → ∀ x m, R.v L sc x = some m → DenV X m x
  o : ∀ L sc X, Good L k sc X → ∀ x m, R.o L sc x = some m → DenO X m x
  t : ∀ L sc X, Good L k sc X → ∀ x m, R.t L sc x = some m → DenT X m x
/-! ### operands -/
def stepO (R : Rdr) (L : Lay) (sc : Scope) (e : Expr) : Option EO := match e with
  | .Name x _ => (match slotOf L sc x with
    | some i => some (oVar i)
    | none => (R.v L sc e).map oV)
  | _ => (R.v L sc e).map oV
theorem map_some {α β : Type} {o : Option α} {f : α → β} {b : β} (h : o.map f = some b) : ∃ a, o = some a ∧ b = f a := by
  cases o with
  | none => cases h
  | some a => cases h; exact ⟨a, rfl, rfl⟩
theorem stepO_ok {R : Rdr} {k : Nat} (G : GoodR R k) {L : Lay} {sc : Scope} {X : Cx} (g : Good L k sc X) {e : Expr} {m : EO} (h : stepO R L sc e = some m) : DenO X m e := by
  unfold stepO at h
  split at h
  · rename_i x p
    split at h
    · rename_i i q
      cases h
      have n := slot_ok g q
      exact den_oVar n.at_ n.vis n.db n.cd
    · obtain ⟨n, q, rfl⟩ := map_some h
      exact den_oV (G.v L sc X g _ _ q)
  · obtain ⟨n, q, rfl⟩ := map_some h
    exact den_oV (G.v L sc X g _ _ q)
/-! ### values -/
theorem den_neg {X : Cx} {i : Int} {c : Nat} {p1 p2 : Pos} : DenV X (eC (.int (-i))) (.UnaryOp .USub (.Constant (.int i) c p1) p2) := by
  intro W Fr s σ H Q r d s' hm q
  cases hm
  exact .of (pe_un un_neg pe_int) ⟨i, rfl, q W _ H .refl .refl r (.int _)⟩
def stepV (R : Rdr) (L : Lay) (sc : Scope) (e : Expr) : Option EV := match e with
  | .Constant (.int i) _ _ => some (eC (.int i))
  | .Constant (.str x) _ _ => some (eC (.str x))
  | .Constant (.bool b) _ _ => some (eC (.bl b))
  | .Constant .none _ _ => some (eC .non)
  | .Name x _ => (match slotOf L sc x with
    | some i => some (eVar i)
    | none => if isGl sc x then (L.glob.lookup x).map eC else none)
  | .Tuple es _ _ => (vsR (R.v L sc) es).map eTup
  | .Compare a [op] [b] _ => if behindInMarks op b then none else (match R.o L sc a, R.o L sc b with
    | some ma, some mb => some (eV (eCmp op ma mb))
    | _, _ => none)
  | .Compare a [op, op'] [b, c] _ => if lastMarks [op, op'] [b, c] then none else (match R.o L sc a, R.o L sc b, R.o L sc c with
    | some ma, some mb, some mc => some (eT (tChain2 op op' ma mb mc))
    | _, _, _ => none)
  | .BoolOp .And es _ => andR (R.v L sc) es
  | .BoolOp .Or es _ => orR (R.v L sc) es
  | .UnaryOp .Not a _ => (R.v L sc a).map eNot1
  | .UnaryOp .USub (.Constant (.int i) _ _) _ => some (eC (.int (-i)))
  | .Subscript a b _ => if notSlice b then (match R.o L sc a, R.o L sc b with
    | some ma, some mb => some (eSub ma mb)
    | _, _ => none) else (R.e L sc e).map eV
  | .Call _ _ _ _ => (R.e L sc e).map eV
  | .BinOp _ _ _ _ => (R.e L sc e).map eV
  | .List _ _ => (R.e L sc e).map eV
  | .Dict _ _ _ => (R.e L sc e).map eV
  | .IfExp _ _ _ _ => (R.e L sc e).map eV
  | .ListComp _ _ _ _ => (R.e L sc e).map eV
  | _ => none
theorem stepV_ok {R : Rdr} {k : Nat} (G : GoodR R k) {L : Lay} {sc : Scope} {X : Cx} (g : Good L k sc X) {e : Expr} {m : EV} (h : stepV R L sc e = some m) : DenV X m e := by
  have viaE : ∀ {x : Expr} {m : EV}, (R.e L sc x).map eV = some m → DenV X m x := fun h => by
    obtain ⟨n, q, rfl⟩ := map_some h
    exact den_v (G.e L sc X g _ _ q)
  unfold stepV at h
  split at h
  · cases h; exact den_c pe_int fun W => .int _
  · cases h; exact den_c pe_str fun W => .str _
  · cases h; exact den_c pe_bl fun W => .bl _
  · cases h; exact den_c pe_non fun W => .non
  · rename_i x p
    split at h
    · rename_i i q
      cases h
      have n := slot_ok g q
      exact den_var n.at_ n.vis n.db n.cd
    · split at h
      · rename_i hg
        obtain ⟨d, q, rfl⟩ := map_some h
        exact den_glob (g.glob x d q) (isGl_ok g hg)
      · cases h
  · obtain ⟨ms, q, rfl⟩ := map_some h
    exact den_tup (vsR_ok (G.v L sc X g) q).1
  · split at h
    · cases h
    · rename_i hm
      split at h
      · rename_i ma mb e1 e2
        cases h
        exact den_v (den_cmp g.room (by simpa using hm) (G.o L sc X g _ _ e1) (G.o L sc X g _ _ e2))
      · cases h
  · split at h
    · cases h
    · rename_i hm
      split at h
      · rename_i ma mb mc e1 e2 e3
        cases h
        exact den_eChain g.room (by simpa using hm) (G.o L sc X g _ _ e1) (G.o L sc X g _ _ e2) (G.o L sc X g _ _ e3)
      · cases h
  · exact andR_ok (G.v L sc X g) h
  · exact orR_ok (G.v L sc X g) h
  · obtain ⟨n, q, rfl⟩ := map_some h
    exact den_eNot (G.v L sc X g _ _ q)
  · cases h; exact den_neg
  · split at h
    · rename_i hn
      split at h
      · rename_i ma mb e1 e2
        cases h
        exact den_sub g.room hn (G.o L sc X g _ _ e1) (G.o L sc X g _ _ e2)
      · cases h
    · exact viaE h
  · exact viaE h
  · exact viaE h
  · exact viaE h
  · exact viaE h
  · exact viaE h
  · exact viaE h
  · cases h
/-! ### tests -/
def stepT (R : Rdr) (L : Lay) (sc : Scope) (e : Expr) : Option ET := match e with
  | .Compare a [op] [b] _ => if behindInMarks op b then none else (match R.o L sc a, R.o L sc b with
    | some ma, some mb => some (tCmp op ma mb)
    | _, _ => none)
  | .Compare a [op, op'] [b, c] _ => if lastMarks [op, op'] [b, c] then none else (match R.o L sc a, R.o L sc b, R.o L sc c with
    | some ma, some mb, some mc => some (tChain2 op op' ma mb mc)
    | _, _, _ => none)
  | .BoolOp .And es _ => tandR (R.t L sc) es
  | .BoolOp .Or es _ => torR (R.t L sc) es
  | .UnaryOp .Not a _ => (R.t L sc a).map tNot1
  | _ => if plainTest e then (R.o L sc e).map tTru else none
theorem stepT_ok {R : Rdr} {k : Nat} (G : GoodR R k) {L : Lay} {sc : Scope} {X : Cx} (g : Good L k sc X) {e : Expr} {m : ET} (h : stepT R L sc e = some m) : DenT X m e := by
  unfold stepT at h
  split at h
  · split at h
    · cases h
    · rename_i hm
      split at h
      · rename_i ma mb e1 e2
        cases h
        exact den_tCmp g.room (by simpa using hm) (G.o L sc X g _ _ e1) (G.o L sc X g _ _ e2)
      · cases h
  · split at h
    · cases h
    · rename_i hm
      split at h
      · rename_i ma mb mc e1 e2 e3
        cases h
        exact den_tChain g.room (by simpa using hm) (G.o L sc X g _ _ e1) (G.o L sc X g _ _ e2) (G.o L sc X g _ _ e3)
      · cases h
  · exact (tandR_ok (G.t L sc X g) h).test
  · exact (torR_ok (G.t L sc X g) h).test
  · obtain ⟨n, q, rfl⟩ := map_some h
    exact den_not (G.t L sc X g _ _ q)
  · split at h
    · rename_i hp
      obtain ⟨n, q, rfl⟩ := map_some h
      exact den_tru hp (G.o L sc X g _ _ q)
    · cases h
/-! ### what is walked -/
def iterR (R : Rdr) (L : Lay) (sc : Scope) (tg iter : Expr) : Option (S → _root_.G.R (List D)) := match iter with
  | .Call (.Name x _) [a] [] _ =>
    if x = ("range" : Str) ∧ isGl sc x = true ∧ x ∈ L.free ∧ notStar a = true then (R.o L sc a).map iRange1
    else if x = ("enumerate" : Str) ∧ isGl sc x = true ∧ x ∈ L.free ∧ notStar a = true then (match tg with
      | .Tuple _ _ _ => (R.v L sc a).map iEnumM
      | _ => none)
    else (R.v L sc iter).map iVal
  | .Call (.Name x _) [a, b] [] _ =>
    if x = ("range" : Str) ∧ isGl sc x = true ∧ x ∈ L.free ∧ notStar a = true ∧ notStar b = true then (match R.o L sc a, R.o L sc b with
      | some ma, some mb => some (iRange2 ma mb)
      | _, _ => none)
    else (R.v L sc iter).map iVal
  | _ => (R.v L sc iter).map iVal
theorem iterR_ok {R : Rdr} {k : Nat} (G : GoodR R k) {L : Lay} {sc : Scope} {X : Cx} (g : Good L k sc X) {tg iter : Expr} {m : S → _root_.G.R (List D)} (h : iterR R L sc tg iter = some m) : DenI X m tg iter := by
  have viaV : ∀ {m : S → _root_.G.R (List D)}, (R.v L sc iter).map iVal = some m → DenI X m tg iter := fun h => by
    obtain ⟨n, q, rfl⟩ := map_some h
    exact den_iVal (G.v L sc X g _ _ q)
  unfold iterR at h
  split at h
  · rename_i x p a pos
    split at h
    · rename_i hc
      obtain ⟨rfl, c1, c2, c3⟩ := hc
      obtain ⟨n, q, rfl⟩ := map_some h
      exact den_range1 (isGl_ok g c1) (g.free _ c2) c3 (G.o L sc X g _ _ q)
    · split at h
      · rename_i hc
        obtain ⟨rfl, c1, c2, c3⟩ := hc
        split at h
        · obtain ⟨n, q, rfl⟩ := map_some h
          exact den_enum (isGl_ok g c1) (g.free _ c2) c3 (G.v L sc X g _ _ q)
        · cases h
      · exact viaV h
  · rename_i x p a b pos
    split at h
    · rename_i hc
      obtain ⟨rfl, c1, c2, c3, c4⟩ := hc
      split at h
      · rename_i ma mb e1 e2
        cases h
        exact den_range2 (isGl_ok g c1) (g.free _ c2) c3 c4 (G.o L sc X g _ _ e1) (G.o L sc X g _ _ e2)
      · cases h
    · exact viaV h
  · exact viaV h
end G
-- part Fw23
set_option Elab.async false
set_option linter.all false
set_option maxRecDepth 100000
set_option maxHeartbeats 4000000
set_option autoImplicit false
/-! Framework 23: calls and comprehensions read. -/
namespace G
open PySem PySem.Spec PyProof.Rows L2
variable [TabC]
abbrev Bi := List (Nat × D) → Option (Nat × D)
def biF (x : Str) : Option (String × Bi) :=
  if x = ("len" : Str) then some ("len", lenD)
  else if x = ("sum" : Str) then some ("sum", sumD)
  else if x = ("max" : Str) then some ("max", maxD)
  else if x = ("min" : Str) then some ("min", minD)
  else if x = ("all" : Str) then some ("all", allD)
  else if x = ("any" : Str) then some ("any", anyD)
  else if x = ("abs" : Str) then some ("abs", absD)
  else if x = ("repr" : Str) then some ("repr", reprD)
  else if x = ("sorted" : Str) then some ("sorted", sortD)
  else none
def biT (x : Str) : Option (String × Bi) :=
  if x = ("tuple" : Str) then some ("tuple", tupleD)
  else if x = ("list" : Str) then some ("list", listD)
  else if x = ("str" : Str) then some ("str", strD)
  else if x = ("int" : Str) then some ("int", intD)
  else if x = ("dict" : Str) then some ("dict", dictD)
  else none
theorem biF_ok {L : Lay} {k : Nat} {sc : Scope} {X : Cx} (g : Good L k sc X) {x : Str} {id : String} {f : Bi} (h : biF x = some (id, f)) : CallS X (.builtin id) f ∧ bootBuiltins x = some (.builtin id) ∧ x ≠ "__name__" ∧ (x == ("__debug__" : Str)) = false := by
  unfold biF at h
  split at h
  · rename_i e; subst e; cases h; exact ⟨callS_len, by decide +kernel, by decide, by decide⟩
  split at h
  · rename_i e; subst e; cases h; exact ⟨callS_sum g.calm, by decide +kernel, by decide, by decide⟩
  split at h
  · rename_i e; subst e; cases h; exact ⟨callS_max g.calm, by decide +kernel, by decide, by decide⟩
  split at h
  · rename_i e; subst e; cases h; exact ⟨callS_min g.calm, by decide +kernel, by decide, by decide⟩
  split at h
  · rename_i e; subst e; cases h; exact ⟨callS_all g.calm, by decide +kernel, by decide, by decide⟩
  split at h
  · rename_i e; subst e; cases h; exact ⟨callS_any g.calm, by decide +kernel, by decide, by decide⟩
  split at h
  · rename_i e; subst e; cases h; exact ⟨callS_abs, by decide +kernel, by decide, by decide⟩
  split at h
  · rename_i e; subst e; cases h; exact ⟨callS_repr g.room g.gd, by decide +kernel, by decide, by decide⟩
  split at h
  · rename_i e; subst e; cases h; exact ⟨callS_sorted g.room, by decide +kernel, by decide, by decide⟩
  cases h
theorem biT_ok {L : Lay} {k : Nat} {sc : Scope} {X : Cx} (g : Good L k sc X) {x : Str} {id : String} {f : Bi} (h : biT x = some (id, f)) : CallS X (.type id) f ∧ bootBuiltins x = some (.type id) ∧ x ≠ "__name__" ∧ (x == ("__debug__" : Str)) = false := by
  unfold biT at h
  split at h
  · rename_i e; subst e; cases h; exact ⟨callS_tuple, by decide +kernel, by decide, by decide⟩
  split at h
  · rename_i e; subst e; cases h; exact ⟨callS_list g.calm, by decide +kernel, by decide, by decide⟩
  split at h
  · rename_i e; subst e; cases h; exact ⟨callS_str, by decide +kernel, by decide, by decide⟩
  split at h
  · rename_i e; subst e; cases h; exact ⟨callS_int, by decide +kernel, by decide, by decide⟩
  split at h
  · rename_i e; subst e; cases h; exact ⟨callS_dict g.calm, by decide +kernel, by decide, by decide⟩
  cases h
/-- the types that isinstance is asked of -/
def tyN (x : Str) : Option String :=
  if x = ("int" : Str) then some "int" else if x = ("bool" : Str) then some "bool" else if x = ("str" : Str) then some "str" else if x = ("tuple" : Str) then some "tuple"
  else if x = ("list" : Str) then some "list" else if x = ("dict" : Str) then some "dict" else none
theorem tyN_ok {x : Str} {T : String} (h : tyN x = some T) : okT T = true ∧ bootBuiltins x = some (.type T) ∧ x ≠ "__name__" ∧ (x == ("__debug__" : Str)) = false := by
  unfold tyN at h
  split at h
  · rename_i e; subst e; cases h; exact ⟨rfl, by decide +kernel, by decide, by decide⟩
  split at h
  · rename_i e; subst e; cases h; exact ⟨rfl, by decide +kernel, by decide, by decide⟩
  split at h
  · rename_i e; subst e; cases h; exact ⟨rfl, by decide +kernel, by decide, by decide⟩
  split at h
  · rename_i e; subst e; cases h; exact ⟨rfl, by decide +kernel, by decide, by decide⟩
  split at h
  · rename_i e; subst e; cases h; exact ⟨rfl, by decide +kernel, by decide, by decide⟩
  split at h
  · rename_i e; subst e; cases h; exact ⟨rfl, by decide +kernel, by decide, by decide⟩
  cases h
/-! ### calls -/
def fnR (R : Rdr) (L : Lay) (sc : Scope) (x : Str) (i : FnI) (lent : Bool) (es : List Expr) : Option E := match es with
  | [] => if i.dfl.length = i.np then some (eCall L.C x vsNil i.dfl) else none
  | _ :: _ => if es.length ≤ i.np ∧ i.np ≤ es.length + i.dfl.length then
      (if lent then (osR (R.o L sc) es).map fun ms => eCallL L.C x ms (i.dfl.drop (es.length + i.dfl.length - i.np))
       else (vsR (R.v L sc) es).map fun ms => eCall L.C x ms (i.dfl.drop (es.length + i.dfl.length - i.np))) else none
theorem fnR_ok {R : Rdr} {k : Nat} (G : GoodR R k) {L : Lay} {sc : Scope} {X : Cx} (g : Good L k sc X) {x : Str} {i : FnI} {lent : Bool} {es : List Expr} {m : E} {p pos : Pos} (hf : L.fns.lookup x = some (i, lent)) (hx : isGl sc x = true) (h : fnR R L sc x i lent es = some m) : DenE X m (.Call (.Name x p) es [] pos) := by
  have F := g.fns x i lent hf
  unfold fnR at h
  split at h
  · split at h
    · rename_i hl
      cases h
      exact den_call0 g.cl F g.room g.gd (isGl_ok g hx) hl
    · cases h
  · rename_i e r
    split at h
    · rename_i hl
      have hj : (e :: r).length + i.dfl.length - i.np ≤ i.dfl.length := by omega
      have hd : ((e :: r).length + (i.dfl.drop ((e :: r).length + i.dfl.length - i.np)).length) = i.np := by
        rw [List.length_drop]; omega
      split at h
      · obtain ⟨ms, q, rfl⟩ := map_some h
        obtain ⟨a1, a2, a3⟩ := osR_ok (G.o L sc X g) q
        exact den_callL g.cl F g.room g.gd (isGl_ok g hx) hj a2 (fun s ds s' z => by rw [a3 _ _ _ z]; exact hd) a1
      · obtain ⟨ms, q, rfl⟩ := map_some h
        obtain ⟨a1, a2, a3⟩ := vsR_ok (G.v L sc X g) q
        exact den_call g.cl F g.room g.gd (isGl_ok g hx) hj a2 (fun s ds s' z => by rw [a3 _ _ _ z]; exact hd) a1
    · cases h
/-- a call of a built-in, positional arguments alone -/
def biR (R : Rdr) (L : Lay) (sc : Scope) (x : Str) (es : List Expr) : Option E := match es with
  | [] => none
  | e :: r => (match biF x with
    | some (_, f) => (osR (R.o L sc) (e :: r)).map (eCallB f)
    | none => (match biT x with
      | some (_, f) => (osR (R.o L sc) (e :: r)).map (eCallB f)
      | none => none))
theorem biR_ok {R : Rdr} {k : Nat} (G : GoodR R k) {L : Lay} {sc : Scope} {X : Cx} (g : Good L k sc X) {x : Str} {es : List Expr} {m : E} {p pos : Pos} (hfr : x ∈ L.free) (hx : isGl sc x = true) (h : biR R L sc x es = some m) : DenE X m (.Call (.Name x p) es [] pos) := by
  unfold biR at h
  split at h
  · cases h
  · rename_i e r
    split at h
    · rename_i id f q
      obtain ⟨ms, z, rfl⟩ := map_some h
      obtain ⟨a1, a2, _⟩ := osR_ok (G.o L sc X g) z
      obtain ⟨b1, b2, b3, b4⟩ := biF_ok g q
      exact den_callB b1 (isGl_ok g hx) (g.free x hfr) b2 b3 b4 a2 a1
    · split at h
      · rename_i id f q
        obtain ⟨ms, z, rfl⟩ := map_some h
        obtain ⟨a1, a2, _⟩ := osR_ok (G.o L sc X g) z
        obtain ⟨b1, b2, b3, b4⟩ := biT_ok g q
        exact den_callT b1 (isGl_ok g hx) (g.free x hfr) b2 b3 b4 a2 a1
      · cases h
/-- isinstance(e, T) -/
def isiR (R : Rdr) (L : Lay) (sc : Scope) (es : List Expr) : Option E := match es with
  | [e, .Name t _] => if isGl sc t = true ∧ t ∈ L.free ∧ notStar e = true then (match tyN t, R.o L sc e with
    | some T, some m => some (eOf (eIsi T m))
    | _, _ => none) else none
  | _ => none
theorem isiR_ok {R : Rdr} {k : Nat} (G : GoodR R k) {L : Lay} {sc : Scope} {X : Cx} (g : Good L k sc X) {es : List Expr} {m : E} {p pos : Pos} (hfr : ("isinstance" : Str) ∈ L.free) (hx : isGl sc "isinstance" = true) (h : isiR R L sc es = some m) : DenE X m (.Call (.Name "isinstance" p) es [] pos) := by
  unfold isiR at h
  split at h
  · rename_i e t p2
    split at h
    · rename_i hc
      obtain ⟨c1, c2, c3⟩ := hc
      split at h
      · rename_i T m' q1 q2
        cases h
        obtain ⟨b1, b2, b3, b4⟩ := tyN_ok q1
        exact den_eOf (den_isi b1 b2 (isGl_ok g hx) (g.free _ hfr) (isGl_ok g c1) (g.free _ c2) b3 b4 c3 (G.o L sc X g _ _ q2))
      · cases h
    · cases h
  · cases h
/-- sorted(e, key=lambda p: ..) -/
def keyR (R : Rdr) (L : Lay) (sc : Scope) (es : List Expr) (kws : List Keyword) : Option E := match es, kws with
  | [e], [⟨some kn, .Lambda ⟨[], [⟨p, none, _⟩], none, [], [], none, []⟩ body scope _, _⟩] =>
    if kn = ("key" : Str) ∧ L.lam = true ∧ notStar e = true ∧ lamSc p scope = true ∧ (p == ("__debug__" : Str)) = false then (match ksOf p body, R.o L sc e with
      | some k, some m => some (eSortK k m)
      | _, _ => none) else none
  | _, _ => none
theorem keyR_ok {R : Rdr} {k : Nat} (G : GoodR R k) {L : Lay} {sc : Scope} {X : Cx} (g : Good L k sc X) {es : List Expr} {kws : List Keyword} {m : E} {p pos : Pos} (hfr : ("sorted" : Str) ∈ L.free) (hx : isGl sc "sorted" = true) (h : keyR R L sc es kws = some m) : DenE X m (.Call (.Name "sorted" p) es kws pos) := by
  unfold keyR at h
  split at h
  · rename_i e kn pn ap body scope lp kp
    split at h
    · rename_i hc
      obtain ⟨rfl, c1, c2, c3, c4⟩ := hc
      split at h
      · rename_i ks m' q1 q2
        cases h
        exact den_sortK g.room (isGl_ok g hx) (g.free _ hfr) (g.lam c1) c2 q1 c3 c4 (G.o L sc X g _ _ q2)
      · cases h
    · cases h
  · cases h
def callR (R : Rdr) (L : Lay) (sc : Scope) (x : Str) (es : List Expr) (kws : List Keyword) : Option E :=
  if isGl sc x = true then (match L.fns.lookup x with
    | some (i, lent) => (match kws with
      | [] => fnR R L sc x i lent es
      | _ => none)
    | none => if x ∈ L.free then (match kws with
        | [] => if x = ("isinstance" : Str) then isiR R L sc es else biR R L sc x es
        | _ :: _ => if x = ("sorted" : Str) then keyR R L sc es kws else none) else none) else none
theorem callR_ok {R : Rdr} {k : Nat} (G : GoodR R k) {L : Lay} {sc : Scope} {X : Cx} (g : Good L k sc X) {x : Str} {es : List Expr} {kws : List Keyword} {m : E} {p pos : Pos} (h : callR R L sc x es kws = some m) : DenE X m (.Call (.Name x p) es kws pos) := by
  unfold callR at h
  split at h
  · rename_i hx
    split at h
    · rename_i i lent q
      split at h
      · exact fnR_ok G g q hx h
      · cases h
    · split at h
      · rename_i hfr
        split at h
        · split at h
          · rename_i e; subst e; exact isiR_ok G g hfr hx h
          · exact biR_ok G g hfr hx h
        · split at h
          · rename_i e; subst e; exact keyR_ok G g hfr hx h
          · cases h
      · cases h
  · cases h
/-! ### comprehensions -/
def ownOf (N : List Str) (scope : Scope) : List (Str × Nat) := scope.names.filterMap fun p => match p.2 with
  | .local | .cell => (ixS N p.1).map fun i => (p.1, i)
  | _ => none
def ifsR (rt : Expr → Option ET) : List Expr → Option ET
  | [] => some tTrue
  | [c] => rt c
  | _ => none
def lcR (R : Rdr) (L : Lay) (sc : Scope) (elt tg iter : Expr) (ifs : List Expr) (scope : Scope) : Option E :=
  if blkC L.N sc scope (ownOf L.N scope) = true ∧ plainIter iter = true then (match iterR R L sc tg iter, tgR L.inner (relS scope sc) tg, ifsR (R.t L.inner (relS scope sc)) ifs, R.v L.inner (relS scope sc) elt with
    | some it, some (is, g), some t, some m => if (is.all fun i => decide (i ∈ (ownOf L.N scope).map (·.2))) = true then some (eLc ((ownOf L.N scope).map (·.2)) it g t m) else none
    | _, _, _, _ => none) else none
theorem ifsR_ok {X : Cx} {rt : Expr → Option ET} (h : ∀ e m, rt e = some m → DenT X m e) : ∀ {ifs : List Expr} {t : ET}, ifsR rt ifs = some t → DenTs X t ifs
  | [], t, q => by cases q; exact den_tsNil
  | [c], t, q => den_tsOne (h _ _ q)
  | _ :: _ :: _, t, q => by cases q
theorem lcR_ok {R : Rdr} {k : Nat} (G : GoodR R k) {L : Lay} {sc : Scope} {X : Cx} (g : Good L k sc X) {elt tg iter : Expr} {ifs : List Expr} {scope : Scope} {m : E} {pos : Pos} (h : lcR R L sc elt tg iter ifs scope = some m) :
    DenE X m (.ListComp elt [⟨tg, iter, ifs, 0⟩] scope pos) ∧ ∀ (i : Nat) (y : Str) (py spos : Pos), X.N[i]? = some y → Loc X.env.scope y → (X.fn y = true ∨ X.env.scope.names.lookup y = some .local) →
      DenS X (sSet i m) (.Assign [.Name y py] (.ListComp elt [⟨tg, iter, ifs, 0⟩] scope pos) spos) := by
  unfold lcR at h
  split at h
  · rename_i hc
    split at h
    · rename_i it is tm t me q1 q2 q3 q4
      split at h
      · rename_i hi
        cases h
        have hN : X.N.Nodup := by rw [g.N]; exact g.nd
        have ok : BlkOk X.N X.env.scope scope (ownOf L.N scope) := by rw [g.N, g.sc]; exact blkOk_by hc.1
        have h1 := iterR_ok G g q1
        have h2 : Blk X scope fun X' => DenG X' is tm tg := fun sh H C cl fp => (tgR_ok (g.blk sh H C cl fp) q2).1
        have h3 : ∀ i ∈ is, i ∈ (ownOf L.N scope).map (·.2) := fun i hi' => of_decide_eq_true (List.all_eq_true.mp hi i hi')
        have h4 : Blk X scope fun X' => DenTs X' t ifs := fun sh H C cl fp => ifsR_ok (G.t _ _ _ (g.blk sh H C cl fp)) q3
        have h5 : Blk X scope fun X' => DenV X' me elt := fun sh H C cl fp => G.v _ _ _ (g.blk sh H C cl fp) _ _ q4
        exact ⟨den_lc g.calm hN ok hc.2 h1 h2 h3 h4 h5, fun i y py spos a1 a2 a3 => den_setLc g.calm hN a1 a2 a3 ok hc.2 h1 h2 h3 h4 h5⟩
      · cases h
    · cases h
  · cases h
end G
-- part Fw24
set_option Elab.async false
set_option linter.all false
set_option maxRecDepth 100000
set_option maxHeartbeats 4000000
set_option autoImplicit false
/-! Framework 24: the reader of expressions whole; the reader of statements. -/
namespace G
open PySem PySem.Spec PyProof.Rows L2
variable [TabC]
def pR (ro : Expr → Option EO) : Option Expr → Option (S → R (Option Int))
  | none => some pNone
  | some e => (ro e).map pSome
theorem pR_ok {X : Cx} {ro : Expr → Option EO} (h : ∀ e m, ro e = some m → DenO X m e) : ∀ {e : Option Expr} {m : S → R (Option Int)}, pR ro e = some m → DenP X m e
  | none, m, q => by cases q; exact den_pNone
  | some e, m, q => by
    obtain ⟨n, z, rfl⟩ := map_some q
    exact den_pSome (h _ _ z)
def isList : Expr → Bool
  | .List _ _ => true
  | _ => false
def dictR (R : Rdr) (L : Lay) (sc : Scope) (ks : List (Option Expr)) (vs : List Expr) : Option E := match ks with
  | [] => (match vs with
    | [] => some eDict0
    | _ => none)
  | k0 :: kr => if (k0 :: kr).length ≤ 15 then (if 2 ≤ (k0 :: kr).length then (psR (R.v L sc) (k0 :: kr) vs).map fun ms => eOf (eCell (eDisp ms))
      else (match k0, kr, vs with
        | some k, [], [v] => if isList v then (match R.v L sc k, R.e L sc v with
            | some mk, some mv => some (eDispL mk mv)
            | _, _ => none) else (psR (R.v L sc) (k0 :: kr) vs).map eDisp
        | _, _, _ => none)) else none
theorem dictR_ok {R : Rdr} {k : Nat} (G : GoodR R k) {L : Lay} {sc : Scope} {X : Cx} (g : Good L k sc X) {ks : List (Option Expr)} {vs : List Expr} {m : E} {pos : Pos} (h : dictR R L sc ks vs = some m) : DenE X m (.Dict ks vs pos) := by
  unfold dictR at h
  split at h
  · split at h
    · cases h; exact den_dict0
    · cases h
  · rename_i k0 kr
    split at h
    · rename_i h15
      split at h
      · obtain ⟨ms, q, rfl⟩ := map_some h
        obtain ⟨a1, a2, a3⟩ := psR_ok (G.v L sc X g) q
        exact den_eOf (den_cell (den_disp a2 a3 h15 a1))
      · split at h
        · rename_i kx v
          split at h
          · split at h
            · rename_i mk mv q1 q2
              cases h
              exact den_dispL (G.v L sc X g _ _ q1) (G.e L sc X g _ _ q2)
            · cases h
          · obtain ⟨ms, q, rfl⟩ := map_some h
            obtain ⟨a1, a2, a3⟩ := psR_ok (G.v L sc X g) q
            exact den_disp a2 a3 h15 a1
        · cases h
    · cases h
/-- calls of methods -/
def methR (R : Rdr) (L : Lay) (sc : Scope) (o : Expr) (m : Str) (ap : Pos) (es : List Expr) (cp : Pos) : Option E :=
  if (ap.endLine == cp.line) = true then
    (if m = ("pop" : Str) then (match o with
      | .Name x _ => (match slotOf L sc x with
        | some i => (match es with
          | [] => some (eOf (ePop i))
          | [e] => if notStar e then (R.o L sc e).map fun n => eOf (ePopAt i n) else none
          | _ => none)
        | none => none)
      | _ => none)
    else if m = ("join" : Str) then (match o, es with
      | .Constant (.str z) _ _, [e] => if notStar e then (R.o L sc e).map fun n => eOf (eJoin (eC (.str z)) n) else none
      | _, _ => none)
    else none) else none
theorem methR_ok {R : Rdr} {k : Nat} (G : GoodR R k) {L : Lay} {sc : Scope} {X : Cx} (g : Good L k sc X) {o : Expr} {m : Str} {ap cp : Pos} {es : List Expr} {r : E} (h : methR R L sc o m ap es cp = some r) : DenE X r (.Call (.Attribute o m ap) es [] cp) := by
  unfold methR at h
  split at h
  · rename_i hl
    split at h
    · rename_i hm
      subst hm
      split at h
      · rename_i x p
        split at h
        · rename_i i q
          have n := slot_ok g q
          split at h
          · cases h
            exact den_eOf (den_pop n hl)
          · rename_i e
            split at h
            · rename_i hs
              obtain ⟨mo, z, rfl⟩ := map_some h
              exact den_eOf (den_popAt n hl hs (G.o L sc X g _ _ z))
            · cases h
          · cases h
        · cases h
      · cases h
    · split at h
      · rename_i hm
        subst hm
        split at h
        · rename_i z c p e
          split at h
          · rename_i hs
            obtain ⟨mo, q, rfl⟩ := map_some h
            exact den_eOf (den_join rfl hl hs (den_c pe_str fun W => .str _) (G.o L sc X g _ _ q))
          · cases h
        · cases h
      · cases h
  · cases h
def stepE (R : Rdr) (L : Lay) (sc : Scope) (e : Expr) : Option E := match e with
  | .List es _ => (vsR (R.v L sc) es).map eLst
  | .BinOp a op b _ => (match R.o L sc a, R.o L sc b with
    | some ma, some mb => some (eBin op ma mb)
    | _, _ => none)
  | .IfExp c a b _ => (match R.t L sc c, R.e L sc a, R.e L sc b with
    | some t, some ma, some mb => some (eIf t ma mb)
    | _, _, _ => none)
  | .Subscript a (.Slice lo hi none _) _ => (match R.o L sc a, pR (R.o L sc) lo, pR (R.o L sc) hi with
    | some ma, some ml, some mh => some (eSlice ma ml mh)
    | _, _, _ => none)
  | .Subscript a (.Slice none none (some (.UnaryOp .USub (.Constant (.int 1) _ _) _)) _) _ => (R.o L sc a).map eRev
  | .Dict ks vs _ => dictR R L sc ks vs
  | .ListComp elt [⟨tg, iter, ifs, 0⟩] scope _ => lcR R L sc elt tg iter ifs scope
  | .Call (.Name x _) es kws _ => callR R L sc x es kws
  | .Call (.Attribute o m ap) es [] cp => methR R L sc o m ap es cp
  | .Constant _ _ _ => (R.v L sc e).map eOf
  | .Name _ _ => (R.v L sc e).map eOf
  | .Tuple _ _ _ => (R.v L sc e).map eOf
  | .Compare _ _ _ _ => (R.v L sc e).map eOf
  | .BoolOp _ _ _ => (R.v L sc e).map eOf
  | .UnaryOp _ _ _ => (R.v L sc e).map eOf
  | .Subscript _ b _ => if notSlice b then (R.v L sc e).map eOf else none
  | _ => none
theorem stepE_ok {R : Rdr} {k : Nat} (G : GoodR R k) {L : Lay} {sc : Scope} {X : Cx} (g : Good L k sc X) {e : Expr} {m : E} (h : stepE R L sc e = some m) : DenE X m e := by
  have viaV : ∀ {x : Expr} {m : E}, (R.v L sc x).map eOf = some m → DenE X m x := fun h => by
    obtain ⟨n, q, rfl⟩ := map_some h
    exact den_eOf (G.v L sc X g _ _ q)
  unfold stepE at h
  split at h
  · obtain ⟨ms, q, rfl⟩ := map_some h
    exact den_lst (vsR_ok (G.v L sc X g) q).1
  · split at h
    · rename_i ma mb e1 e2
      cases h
      exact den_bin (opS_bin g.calm _) (G.o L sc X g _ _ e1) (G.o L sc X g _ _ e2)
    · cases h
  · split at h
    · rename_i t ma mb e1 e2 e3
      cases h
      exact den_if (G.t L sc X g _ _ e1) (G.e L sc X g _ _ e2) (G.e L sc X g _ _ e3)
    · cases h
  · split at h
    · rename_i ma ml mh e1 e2 e3
      cases h
      exact den_slice (G.o L sc X g _ _ e1) (pR_ok (G.o L sc X g) e2) (pR_ok (G.o L sc X g) e3)
    · cases h
  · obtain ⟨n, q, rfl⟩ := map_some h
    exact den_rev (G.o L sc X g _ _ q)
  · exact dictR_ok G g h
  · exact (lcR_ok G g h).1
  · exact callR_ok G g h
  · exact methR_ok G g h
  · exact viaV h
  · exact viaV h
  · exact viaV h
  · exact viaV h
  · exact viaV h
  · exact viaV h
  · split at h
    · exact viaV h
    · cases h
  · cases h
def stepR (R : Rdr) : Rdr := ⟨stepE R, stepV R, stepO R, stepT R⟩
def rdr : Nat → Rdr
  | 0 => rdr0
  | n + 1 => stepR (rdr n)
theorem rdr_ok (k : Nat) : ∀ n, GoodR (rdr n) k
  | 0 => ⟨fun _ _ _ _ _ _ h => (by cases h), fun _ _ _ _ _ _ h => (by cases h), fun _ _ _ _ _ _ h => (by cases h), fun _ _ _ _ _ _ h => (by cases h)⟩
  | n + 1 => ⟨fun L sc X g x m h => stepE_ok (rdr_ok k n) g h, fun L sc X g x m h => stepV_ok (rdr_ok k n) g h, fun L sc X g x m h => stepO_ok (rdr_ok k n) g h, fun L sc X g x m h => stepT_ok (rdr_ok k n) g h⟩

/-! ### statements -/
abbrev Rds := Lay → Scope → Stmt → Option Sm
def GoodS (Rs : Rds) (k : Nat) : Prop := ∀ L sc X, Good L k sc X → L.top = true → PassesOwn (model X.prog X.w) X.A X.env X.xe → ∀ st m, Rs L sc st = some m → DenS X m st
def ssR (rs : Stmt → Option Sm) : List Stmt → Option Sm
  | [] => some sNil
  | st :: r => match rs st, ssR rs r with
    | some m, some ms => some (sSeq m ms)
    | _, _ => none
theorem ssR_ok {X : Cx} {rs : Stmt → Option Sm} (h : ∀ st m, rs st = some m → DenS X m st) : ∀ {sts : List Stmt} {m : Sm}, ssR rs sts = some m → DenSs X m sts
  | [], m, q => by cases q; exact den_sNil
  | st :: r, m, q => by
    unfold ssR at q
    split at q
    · rename_i m1 m2 e1 e2
      cases q
      exact den_seq (h _ _ e1) (ssR_ok h e2)
    · cases q
def sBad : Sm := fun _ => .bad
theorem den_bad {X : Cx} {st : Stmt} : DenS X sBad st := fun W Fr s σ H D r h => h.elim
/-- where a name may be stored -/
def stSlot (L : Lay) (sc : Scope) (x : Str) : Option Nat := if isLoc sc x then ixS L.N x else none
theorem stSlot_ok {L : Lay} {k : Nat} {sc : Scope} {X : Cx} (g : Good L k sc X) {x : Str} {i : Nat} (h : stSlot L sc x = some i) : X.N[i]? = some x ∧ L2.Loc X.env.scope x := by
  unfold stSlot at h
  split at h
  · rename_i c
    exact ⟨by rw [g.N]; exact ixS_ok h, by rw [g.sc]; exact isLoc_ok c⟩
  · cases h
/-- x = e -/
def setR (R : Rdr) (L : Lay) (sc : Scope) (x : Str) (e : Expr) : Option Sm := match stSlot L sc x with
  | some i => (match e with
    | .ListComp elt [⟨tg, iter, ifs, 0⟩] scope _ => (lcR R L sc elt tg iter ifs scope).map (sSet i)
    | _ => if notComp e then (R.e L sc e).map (sSet i) else none)
  | none => none
theorem setR_ok {R : Rdr} {k : Nat} (G : GoodR R k) {L : Lay} {sc : Scope} {X : Cx} (g : Good L k sc X) (ht : L.top = true) {x : Str} {e : Expr} {m : Sm} {px pos : Pos} (h : setR R L sc x e = some m) : DenS X m (.Assign [.Name x px] e pos) := by
  unfold setR at h
  split at h
  · rename_i i q
    obtain ⟨a1, a2⟩ := stSlot_ok g q
    split at h
    · obtain ⟨n, z, rfl⟩ := map_some h
      exact (lcR_ok G g z).2 i x px pos a1 a2 (.inl (g.top ht x))
    · split at h
      · rename_i hn
        obtain ⟨n, z, rfl⟩ := map_some h
        exact den_set hn (by rw [g.N]; exact g.nd) a1 a2 (.inl (g.top ht x)) (G.e L sc X g _ _ z)
      · cases h
  · cases h
/-- targets in a row -/
def swNone (sc : Scope) (ts : List Expr) (e : Expr) : Bool := match e with
  | .Tuple vs _ _ => (match swB sc ts vs with
    | some none => true
    | _ => false)
  | _ => true
theorem swNone_ok {env : Env} {ts : List Expr} {e : Expr} {k : Nat} {p : Pos} (h : swNone env.scope ts e = true) : swappedStores [.Tuple ts k p] e env = pure none := by
  unfold swNone at h
  split at h
  · split at h
    · rename_i q
      exact swB_ok q
    · cases h
  · rename_i hne
    cases e <;> first | rfl | exact absurd rfl (hne _ _ _)
def parR (R : Rdr) (L : Lay) (sc : Scope) (ts vs : List Expr) : Option Sm := match ts, vs with
  | [.Name x px, .Name y py], [a, b] => (match swB sc [.Name x px, .Name y py] [a, b], ixS L.N x, ixS L.N y, lsR (R.e L sc) [a, b] with
    | some (some ns), some i, some j, some ms => if ns = [x, y] ∧ isLcl sc x = true ∧ isLcl sc y = true ∧ i ≠ j then some (sPar2 i j ms) else none
    | _, _, _, _ => none)
  | [.Name x px, .Name y py, .Name z pz], [a, b, c] => (match swB sc [.Name x px, .Name y py, .Name z pz] [a, b, c], ixS L.N x, ixS L.N y, ixS L.N z, lsR (R.e L sc) [a, b, c] with
    | some (some ns), some i, some j, some n, some ms => if ns = [x, y, z] ∧ isLcl sc x = true ∧ isLcl sc y = true ∧ isLcl sc z = true ∧ i ≠ j ∧ i ≠ n ∧ j ≠ n then some (sPar3 i j n ms) else none
    | _, _, _, _, _ => none)
  | _, _ => none
theorem parR_ok {R : Rdr} {k : Nat} (G : GoodR R k) {L : Lay} {sc : Scope} {X : Cx} (g : Good L k sc X) {ts vs : List Expr} {m : Sm} {kt k2 : Nat} {pt pt2 pos : Pos} (h : parR R L sc ts vs = some m) : DenS X m (.Assign [.Tuple ts kt pt] (.Tuple vs k2 pt2) pos) := by
  have hN : X.N.Nodup := by rw [g.N]; exact g.nd
  have at_ : ∀ {x : Str} {i : Nat}, ixS L.N x = some i → X.N[i]? = some x := fun q => by rw [g.N]; exact ixS_ok q
  have lc : ∀ {x : Str}, isLcl sc x = true → X.env.scope.names.lookup x = some .local := fun q => by rw [g.sc]; exact isLcl_ok q
  unfold parR at h
  split at h
  · split at h
    · rename_i ns i j ms q1 q2 q3 q4
      split at h
      · rename_i hc
        obtain ⟨rfl, c1, c2, c3⟩ := hc
        cases h
        exact den_par2 g.calm hN (at_ q2) (at_ q3) c3 (lc c1) (lc c2) (by rw [g.sc]; exact q1) (lsR_ok (G.e L sc X g) q4)
      · cases h
    · cases h
  · split at h
    · rename_i ns i j n ms q1 q2 q3 q4 q5
      split at h
      · rename_i hc
        obtain ⟨rfl, c1, c2, c3, c4, c5, c6⟩ := hc
        cases h
        exact den_par3 g.calm hN (at_ q2) (at_ q3) (at_ q4) c4 c5 c6 (lc c1) (lc c2) (lc c3) (by rw [g.sc]; exact q1) (lsR_ok (G.e L sc X g) q5)
      · cases h
    · cases h
  · cases h
def tupR (R : Rdr) (L : Lay) (sc : Scope) (ts : List Expr) (tk : Nat) (tp : Pos) (e : Expr) : Option Sm :=
  if swNone sc ts e = true ∧ notComp e = true then (match tgR L sc (.Tuple ts tk tp), R.v L sc e with
    | some (_, g), some m => some (sAsg g m)
    | _, _ => none)
  else (match e with
    | .Tuple vs _ _ => parR R L sc ts vs
    | _ => none)
theorem tupR_ok {R : Rdr} {k : Nat} (G : GoodR R k) {L : Lay} {sc : Scope} {X : Cx} (g : Good L k sc X) {ts : List Expr} {tk : Nat} {tp pos : Pos} {e : Expr} {m : Sm} (h : tupR R L sc ts tk tp e = some m) : DenS X m (.Assign [.Tuple ts tk tp] e pos) := by
  unfold tupR at h
  split at h
  · rename_i hc
    split at h
    · rename_i is gm me q1 q2
      cases h
      obtain ⟨a1, a2⟩ := tgR_ok g q1
      exact den_asg hc.2 a2 (swNone_ok (by rw [g.sc]; exact hc.1)) a1 (G.v L sc X g _ _ q2)
    · cases h
  · split at h
    · exact parR_ok G g h
    · cases h
/-- an expression as a statement -/
def exprR (R : Rdr) (L : Lay) (sc : Scope) (e : Expr) : Option Sm := match e with
  | .Call (.Attribute (.Name x _) m ap) [a] [] cp =>
    if m = ("append" : Str) then (if (ap.endLine == cp.line) = true ∧ notStar a = true then (match slotOf L sc x, R.v L sc a with
      | some i, some n => some (sAppend i n)
      | _, _ => none) else none)
    else if m = ("extend" : Str) then (if (ap.endLine == cp.line) = true ∧ notStar a = true then (match slotOf L sc x, R.e L sc a with
      | some i, some n => some (sExtend i n)
      | _, _ => none) else none)
    else (R.v L sc e).map sExpr
  | .Call (.Attribute (.Subscript (.Name x _) ke _) m ap) [a] [] cp =>
    if m = ("append" : Str) ∧ (ap.endLine == cp.line) = true ∧ notStar a = true ∧ notSlice ke = true then (match slotOf L sc x, R.o L sc ke, R.v L sc a with
      | some i, some mk, some n => some (sSubApp i mk n)
      | _, _, _ => none)
    else none
  | _ => if notComp e then (R.v L sc e).map sExpr else none
theorem exprR_ok {R : Rdr} {k : Nat} (G : GoodR R k) {L : Lay} {sc : Scope} {X : Cx} (g : Good L k sc X) {e : Expr} {m : Sm} {pos : Pos} (h : exprR R L sc e = some m) : DenS X m (.Expr e pos) := by
  unfold exprR at h
  split at h
  · rename_i x px mm ap a cp
    split at h
    · rename_i hm
      subst hm
      split at h
      · rename_i hc
        split at h
        · rename_i i n q1 q2
          cases h
          exact den_append (slot_ok g q1) hc.1 hc.2 (G.v L sc X g _ _ q2)
        · cases h
      · cases h
    · split at h
      · rename_i hm
        subst hm
        split at h
        · rename_i hc
          split at h
          · rename_i i n q1 q2
            cases h
            exact den_extend (slot_ok g q1) hc.1 hc.2 (G.e L sc X g _ _ q2)
          · cases h
        · cases h
      · obtain ⟨n, z, rfl⟩ := map_some h
        exact den_expr rfl (G.v L sc X g _ _ z)
  · split at h
    · rename_i hc
      obtain ⟨rfl, c1, c2, c3⟩ := hc
      split at h
      · rename_i i mk n q1 q2 q3
        cases h
        exact den_subApp g.room (slot_ok g q1) c3 c1 c2 (G.o L sc X g _ _ q2) (G.v L sc X g _ _ q3)
      · cases h
    · cases h
  · split at h
    · rename_i hn
      obtain ⟨n, z, rfl⟩ := map_some h
      exact den_expr hn (G.v L sc X g _ _ z)
    · cases h
def retR (R : Rdr) (L : Lay) (sc : Scope) (e : Expr) : Option Sm := match e with
  | .Name x _ => (match slotOf L sc x with
    | some i => some (sRet (eMove i))
    | none => (R.e L sc e).map sRet)
  | _ => (R.e L sc e).map sRet
theorem retR_ok {R : Rdr} {k : Nat} (G : GoodR R k) {L : Lay} {sc : Scope} {X : Cx} (g : Good L k sc X) {e : Expr} {m : Sm} {pos : Pos} (h : retR R L sc e = some m) : DenS X m (.Return (some e) pos) := by
  unfold retR at h
  split at h
  · split at h
    · rename_i i q
      cases h
      have n := slot_ok g q
      exact den_ret (den_move n.at_ n.vis n.db n.cd)
    · obtain ⟨n, z, rfl⟩ := map_some h
      exact den_ret (G.e L sc X g _ _ z)
  · obtain ⟨n, z, rfl⟩ := map_some h
    exact den_ret (G.e L sc X g _ _ z)
def stepS (R : Rdr) (Rs : Rds) (L : Lay) (sc : Scope) (st : Stmt) : Option Sm := match st with
  | .Pass _ => some sNil
  | .Break _ => some sBreak
  | .Continue _ => some sCont
  | .Raise _ _ _ => some sBad
  | .Expr e _ => exprR R L sc e
  | .Return none _ => some sRetN
  | .Return (some e) _ => retR R L sc e
  | .If c a b _ => (match R.t L sc c, ssR (Rs L sc) a, ssR (Rs L sc) b with
    | some t, some ma, some mb => some (sIf t ma mb)
    | _, _, _ => none)
  | .While c body [] _ => (match R.t L sc c, ssR (Rs L sc) body with
    | some t, some m => some (sWhile t m)
    | _, _ => none)
  | .For tg iter body [] _ => if plainIter iter then (match iterR R L sc tg iter, tgR L sc tg, ssR (Rs L sc) body with
    | some it, some (_, g), some m => some (sFor it g m)
    | _, _, _ => none) else none
  | .Assign [.Name x _] e _ => setR R L sc x e
  | .Assign [.Tuple ts tk tp] e _ => tupR R L sc ts tk tp e
  | .Assign [.Subscript (.Name x _) ke _] e _ => if notComp e then (match slotOf L sc x, R.o L sc ke, R.e L sc e with
    | some i, some mk, some mv => some (sDPut i mk mv)
    | _, _, _ => none) else none
  | _ => none
theorem stepS_ok {R : Rdr} {Rs : Rds} {k : Nat} (G : GoodR R k) (GS : GoodS Rs k) : GoodS (stepS R Rs) k := by
  intro L sc X g ht hp st m h
  have ss : ∀ {sts : List Stmt} {m : Sm}, ssR (Rs L sc) sts = some m → DenSs X m sts := fun q => ssR_ok (fun st m z => GS L sc X g ht hp st m z) q
  unfold stepS at h
  split at h
  · cases h; exact den_pass
  · cases h; exact den_break
  · cases h; exact den_cont
  · cases h; exact den_bad
  · exact exprR_ok G g h
  · cases h; exact den_retN
  · exact retR_ok G g h
  · split at h
    · rename_i t ma mb q1 q2 q3
      cases h
      exact den_sIf (G.t L sc X g _ _ q1) (ss q2) (ss q3)
    · cases h
  · split at h
    · rename_i t mb q1 q2
      cases h
      exact den_while hp (G.t L sc X g _ _ q1) (ss q2)
    · cases h
  · split at h
    · rename_i hpi
      split at h
      · rename_i it is gm mb q1 q2 q3
        cases h
        exact den_for hp g.calm hpi (iterR_ok G g q1) (tgR_ok g q2).1 (ss q3)
      · cases h
    · cases h
  · exact setR_ok G g ht h
  · exact tupR_ok G g h
  · split at h
    · rename_i hn
      split at h
      · rename_i i mk mv q1 q2 q3
        cases h
        exact den_dput g.room (slot_ok g q1) hn (G.o L sc X g _ _ q2) (G.e L sc X g _ _ q3)
      · cases h
    · cases h
  · cases h
def rds (n : Nat) : Nat → Rds
  | 0 => fun _ _ _ => none
  | j + 1 => stepS (rdr n) (rds n j)
theorem rds_ok (k n : Nat) : ∀ j, GoodS (rds n j) k
  | 0 => fun _ _ _ _ _ _ _ _ h => by cases h
  | j + 1 => stepS_ok (rdr_ok k n) (rds_ok k n j)
end G
-- part Fw25
set_option Elab.async false
set_option linter.all false
set_option maxRecDepth 100000
set_option maxHeartbeats 4000000
set_option autoImplicit false
/-! Framework 25: a def read keeps its promise; the law's end. -/
namespace G
open PySem PySem.Spec PyProof.Rows L2
variable [TabC]
/-- a def's body run on its arguments -/
def runB (n : Nat) (m : Sm) (ds : List D) (s : S) : R (Nat × D) := match m ⟨ds.map (fun d => some (0, d)) ++ List.replicate (n - ds.length) none, s.st⟩ with
  | .rt p s' => .ok p ⟨[], s'.st⟩
  | .nx s' => .ok (0, .non) ⟨[], s'.st⟩
  | .bad => .bad
  | .bk _ => .bad
  | .ct _ => .bad
  | .err _ _ => .bad
theorem slots_pad {W : Wd} {H : Hp} : ∀ n : Nat, Slots W H (List.replicate n none) (List.replicate n none) []
  | 0 => .nil
  | n + 1 => .no (slots_pad n)
theorem slots_start {W : Wd} {H : Hp} {n : Nat} : ∀ {vs : List V} {ds : List D}, RpAll W vs ds → Slots W H (ds.map (fun d => some (0, d)) ++ List.replicate n none) (vs.map some ++ List.replicate n none) []
  | _, _, .nil => slots_pad n
  | _, _, .cons r t => .yes (f := []) (fs := []) (.zero r) (slots_start t)
theorem Rel.start {W : Wd} {Fr : Addr → Prop} {st : List (Nat × D)} {H : Hp} {N : List Str} {vs : List V} {ds : List D} (r : Rel W Fr [] ⟨[], st⟩ [] H) (rp : RpAll W vs ds) :
    Rel W Fr [] ⟨ds.map (fun d => some (0, d)) ++ List.replicate (N.length - ds.length) none, st⟩ (L2.start N vs) H := by
  obtain ⟨f1, f2, f3, h1, h2, h3, f⟩ := r
  cases h1
  refine ⟨[], f2, f3, ?_, h2, h3, f⟩
  unfold L2.start
  rw [rp.length]
  exact slots_start rp
/-- what is known of the globals, wherever a def is entered -/
structure Glo (L : Lay) (k : Nat) (P : Program) (w : World) (K : PySem.W.Frag) (mg : Str → Option Value) (base : Heap) : Prop where
  glob : ∀ x d, L.glob.lookup x = some d → ∃ (u : Value) (v : V), mg x = some u ∧ RelV v u ∧ (∀ W, Rp W v d) ∧ (x == ("__debug__" : Str)) = false
  fns : ∀ x i b, L.fns.lookup x = some (i, b) → ∀ X : Cx, X.prog = P → X.w = w → X.K = K → X.mg = mg → X.base = base → FnFact X k L.C x i
  free : ∀ x, x ∈ L.free → mg x = none
  cl : Closed L.C
/-- where a def's lambdas lie -/
def LamAt (mg : Str → Option Value) (base : Heap) (qual : Str) (cdv : Value) : Prop := ∃ c P, LamX.TabB base mg c P ∧ cdv = .ref c ∧ (P, qual ++ ".<locals>." ++ "<lambda>") ∈ TabC.T ∧ ∀ p ∈ TabC.T, p.1 = P → p.2 = qual ++ ".<locals>." ++ "<lambda>"
theorem fn_ok {L : Lay} {n j k : Nat} {P : Program} {w : World} {K : PySem.W.Frag} {mg : Str → Option Value} {base : Heap} {x qual : Str} {params : Arguments} {body : List Stmt} {scope : Scope} {dvs : List V} {kws : List (Str × V)} {f : Addr} {fd : FuncData} {ps : List Str} {m : Sm} {C : Call}
    (F : FunD K x qual params body scope dvs kws f fd) (S : FnScope L.N ps scope) (g : Glo L k P w K mg base) (ht : L.top = true) (hl : L.lam = true → LamAt mg base qual fd.code) (hm : ssR (rds n j L scope) body = some m) (hC : ∀ ds s, C x ds s = runB L.N.length m ds s) :
    FnG P w K mg base (k + 1) f fd ps (spC C x ps.length) := by
  refine ⟨fun vs H Q E h => ?_, fun A outer sh H args us vs Q E hgd hr e0 hb hv h => ?_⟩
  · obtain ⟨W, Fr, ds, st, st', l, d, h1, h2, _⟩ := h
    rw [h2.length]; exact h1
  · obtain ⟨oc, od, dV, kV, doc, pm, an, cdv, ct, osl, rfl, lk, hcd, _, _⟩ := F.ex
    obtain ⟨W, Fr, ds, st, st', l, d, h1, h2, h3, h4, h5⟩ := h
    refine LamX.run_ofS (CX := CX0) (N := L.N) (ps := ps) lk hcd S hr e0 hb hv (by rw [h2.length]; exact h1) fun hr' => ?_
    generalize hX : (cxOf CX0 P w K mg base L.N qual scope f cdv A outer sh H E).nox = X
    have good : Good L k scope X := by
      subst hX
      exact ⟨rfl, rfl, S.nd, rfl, hr', hgd, fun y d q => g.glob y d q, fun y i b q => g.fns y i b q _ rfl rfl rfl rfl rfl, g.free, g.cl, fun _ _ => rfl, fun q => hl q⟩
    have hp : PassesOwn (model X.prog X.w) X.A X.env X.xe := by
      subst hX
      exact PassesOwn.never
    have den : DenSs X m body := ssR_ok (fun st mm z => rds_ok k n j L scope X good ht hp st mm z) hm
    have key : USs X body { nx := fun _ H' => Q .non H', rt := Q } (L2.start L.N vs) H := by
      refine den W Fr _ _ H _ (Rel.start (N := L.N) h3 h2) ?_
      rw [hC] at h4
      unfold runB at h4
      split at h4
      · rename_i p s' e
        cases h4
        have e' : m ⟨ds.map (fun d => some (0, d)) ++ List.replicate (L.N.length - ds.length) none, st⟩ = .rt (l, d) s' := e
        rw [e']
        exact fun W' v H' le ag r' => h5 W' v H' le ag r'
      · rename_i s' e
        cases h4
        have e' : m ⟨ds.map (fun d => some (0, d)) ++ List.replicate (L.N.length - ds.length) none, st⟩ = .nx s' := e
        rw [e']
        exact fun W' σ' H' le ag r' => h5 W' .non H' le ag (r'.noEnv.tmp0 .non)
      · cases h4
      · cases h4
      · cases h4
      · cases h4
    subst hX
    exact ⟨_, PSs.nox (pUSs body), key⟩
theorem FnG.mono {P : Program} {w : World} {K : PySem.W.Frag} {mg : Str → Option Value} {base : Heap} {k k' : Nat} {f : Addr} {fd : FuncData} {ps : List Str} {sp : Sp} (h : FnG P w K mg base k f fd ps sp) (hk : k ≤ k') : FnG P w K mg base k' f fd ps sp :=
  ⟨h.len, fun A outer sh H args us vs Q E hgd hr => h.run A outer sh H args us vs Q E hgd (hr.mono hk)⟩
/-- one call of the table stands for another -/
theorem FnG.as {P : Program} {w : World} {K : PySem.W.Frag} {mg : Str → Option Value} {base : Heap} {k np : Nat} {f : Addr} {fd : FuncData} {ps : List Str} {C C' : Call} {x : Str} (h : FnG P w K mg base k f fd ps (spC C x np)) (e : ∀ ds s, C' x ds s = C x ds s) : FnG P w K mg base k f fd ps (spC C' x np) := by
  have e2 : spC C' x np = spC C x np := by
    unfold spC
    funext vs H Q E
    have : C' x = C x := by funext ds s; exact e ds s
    rw [this]
  rw [e2]; exact h

/-! ### the law's end -/
theorem law_callG {P : Program} {w : World} {K : PySem.W.Frag} {mg mb : Str → Option Value} {fa a : Addr} {cs : List (Addr × Addr)} {sh : Shared} {vs : List Value} {ns : List Int} (KX : K.In sh.heap) (hmg : sh.heap.Ns mainGlobals mg) (hmb : sh.heap.Ns builtinsNs mb)
    (hbb : ∀ x : Str, x ≠ "__name__" → mb x = bootBuiltins x) (hlim : sh.heap.NoLimit) (hgens : sh.gens = #[]) (noL : ∀ b o, K.lookup b = some o → o.cls ≠ .type "list")
    (tabs : ∀ p ∈ cs, sh.heap.get? p.2 = some { cls := .none, data := .fields #[] } ∧ K.lookup p.2 = none ∧ PySem.W.CodeHd sh.heap p.1 p.2)
    (hbm : ∃ (bm : Addr) (ob : Obj), mg "__builtins__" = some (.ref bm) ∧ bm ≠ builtinsNs ∧ sh.heap.get? bm = some ob ∧ ob.cls = .type "module" ∧ ob.dict = some builtinsNs ∧ ob.data = .plain)
    (hobj : sh.heap.get? a = some { cls := .type "list", data := .seq vs.toArray }) (hi : IntsAre vs ns) (hsz : ns.length ≤ sizeLine)
    (go : ∀ (base : Heap) (H : Hp), K.In base → base.Ns mainGlobals mg → (∀ p ∈ cs, LamX.TabB base mg p.1 p.2) → Env0 P w K mg base callerA [] sh H → H a = some (.frz { cls := .type "list", data := .seq vs.toArray } (.lst (ns.map V.int))) → (∀ p ∈ cs, H p.2 = some (.tbl #[])) →
      codeAny (model P w) callerA (.call (.ref fa) ⟨[.ref a], []⟩) (CR CX0 [] P w H sh (fun v _ => v = .bl true) E0) sh) :
    codeAny (model P w) callerA (.call (.ref fa) ⟨[.ref a], []⟩) (fun res s' => res = .ok (.ret (.bool true)) ∧ OldK sh.heap s'.heap ∧ s'.os = sh.os ∧ AllBare s'.gens) sh := by
  generalize hT : cs.map (·.2) = T
  have tabAt : ∀ b ∈ T, ∃ p ∈ cs, p.2 = b := fun b hb => by
    rw [← hT] at hb
    obtain ⟨p, hp, e⟩ := List.mem_map.mp hb
    exact ⟨p, hp, e⟩
  have inT : ∀ p ∈ cs, p.2 ∈ T := fun p hp => by rw [← hT]; exact List.mem_map.mpr ⟨p, hp, rfl⟩
  have objT : ∀ b ∈ T, sh.heap.get? b = some { cls := .none, data := .fields #[] } := fun b hb => by
    obtain ⟨p, hp, rfl⟩ := tabAt b hb
    exact (tabs p hp).1
  have aT : a ∉ T := fun z => by
    have q := (objT a z).symm.trans hobj
    cases q
  -- the abstract heap: the script, the tables
  generalize hH : (fun b : Addr => if b = a then some (HO.frz { cls := .type "list", data := .seq vs.toArray } (.lst (ns.map V.int))) else if b ∈ T then some (HO.tbl #[]) else none) = H
  have Ha : H a = some (.frz { cls := .type "list", data := .seq vs.toArray } (.lst (ns.map V.int))) := by rw [← hH]; exact if_pos rfl
  have Ht : ∀ b ∈ T, H b = some (.tbl #[]) := fun b hb => by
    rw [← hH]
    show (if b = a then _ else if b ∈ T then _ else _) = _
    rw [if_neg (show ¬ b = a from fun z => aT (by rw [← z]; exact hb)), if_pos hb]
  have Hn : ∀ b, b ≠ a → b ∉ T → H b = none := fun b h1 h2 => by
    rw [← hH]
    show (if b = a then _ else if b ∈ T then _ else _) = _
    rw [if_neg h1, if_neg h2]
  have Hc : ∀ b, H b = none ∨ b = a ∨ b ∈ T := fun b => by
    by_cases h1 : b = a
    · exact .inr (.inl h1)
    · by_cases h2 : b ∈ T
      · exact .inr (.inr h2)
      · exact .inl (Hn b h1 h2)
  -- whatever is neither a list nor an empty table is not tracked
  have out : ∀ {b : Addr} {o : Obj}, sh.heap.get? b = some o → (∀ us n, o.data ≠ .seq us n) → o.data ≠ .fields #[] → H b = none := fun {b o} e d1 d2 => by
    refine Hn b (fun z => ?_) fun z => ?_
    · subst z
      rw [hobj] at e
      cases e
      exact d1 _ _ rfl
    · rw [objT b z] at e
      cases e
      exact d2 rfl
  have kept : ∀ {b : Addr} {m : Str → Option Value}, sh.heap.Ns b m → (hidT sh.heap H).Ns b m := fun {b m} ⟨o, es, ep, e, d, rest⟩ =>
    ⟨o, es, ep, hidT_get e (out e (fun us n z => by rw [d] at z; cases z) fun z => by rw [d] at z; cases z), d, rest⟩
  have Kb : K.In (hidT sh.heap H) := fun b o e => by
    refine hidT_get (KX b o e) (Hn b (fun z => ?_) fun z => ?_)
    · subst z
      have q := (KX b o e).symm.trans hobj
      exact noL b o e (by rw [Option.some.inj q])
    · obtain ⟨p, hp, rfl⟩ := tabAt b z
      rw [(tabs p hp).2.1] at e
      cases e
  have md : L2.Mod K mg (hidT sh.heap H) := ⟨Kb, kept hmg, ⟨mb, kept hmb, hbb⟩, let ⟨mc, q1, q2⟩ := hlim; ⟨mc, kept q1, q2⟩⟩
  have notG : ∀ {b : Addr} {o : Obj}, sh.heap.get? b = some o → (∀ es n, o.data ≠ .dict es n) → b ≠ mainGlobals := fun {b o} e d z => by
    obtain ⟨og, es, ep, eg, dg, _⟩ := hmg
    rw [z, eg] at e
    cases e
    exact d _ _ dg
  have TB : ∀ p ∈ cs, LamX.TabB (hidT sh.heap H) mg p.1 p.2 := fun p hp => by
    obtain ⟨t1, t2, o, us, file, tf, flags, tg, inF, text, tt, e1, r1, r2, r3, rest⟩ := tabs p hp
    obtain ⟨bm, ob, b1, b2, b3, b4, b5, b6⟩ := hbm
    refine ⟨⟨o, us, file, tf, flags, tg, inF, text, tt, hidT_get e1 (out e1 (fun xs n z => by rw [r2] at z; cases z) fun z => ?_), r1, r2, r3, rest⟩, ⟨bm, ob, b1, b2, notG b3 (fun es n z => by rw [b6] at z; cases z), fun z => ?_, hidT_get b3 (out b3 (fun xs n z => by rw [b6] at z; cases z) fun z => by rw [b6] at z; cases z), b4, b5, b6⟩,
      fun z => notG t1 (fun es n q => by cases q) z.symm⟩
    · rw [r2] at z
      cases z
      simp at r3
    · rw [z, t1] at b3
      cases b3
      cases b6
  have hok : HOk P w H sh.heap := fun b u e => by
    rcases Hc b with z | z | z
    · rw [z] at e; cases e
    · subst z
      rw [Ha] at e
      cases e
      exact ⟨hobj, by rw [List.length_map]; exact hsz, vs, _, vals_ints hi, hobj⟩
    · rw [Ht b z] at e
      cases e
      exact objT b z
  have e0 : Env0 P w K mg (hidT sh.heap H) callerA [] sh H := ⟨rfl, md, fun b o e => of_hidT e, Nat.le_of_eq (hidT_size _ _), trivial, fun b hb => (by cases hb), hok, .of_eq hgens⟩
  refine codeAny_mono (go _ H Kb (kept hmg) TB e0 Ha fun p hp => Ht _ (inT p hp)) fun res s' h => ?_
  match res, h with
  | .error e, h => exact False.elim h
  | .ok .next, h => exact False.elim h
  | .ok .brk, h => exact False.elim h
  | .ok .cont, h => exact False.elim h
  | .ok (.ret u), h =>
    obtain ⟨v, H', q1, q2, un, hok', rv, qv⟩ := h
    have qv : v = .bl true := qv
    subst qv
    obtain rfl : u = Value.bool true := rv
    have tabGrown : ∀ b ∈ T, ∃ more : Array Value, s'.heap.get? b = some { cls := .none, data := .fields more } := fun b hb => by
      obtain ⟨more, z⟩ := un.tbls b #[] (Ht b hb)
      exact ⟨_, hok' b _ z⟩
    have same : ∀ b o, b ∉ T → sh.heap.get? b = some o → s'.heap.get? b = some o := fun b o nb e => by
      by_cases ba : b = a
      · subst ba
        have z := un.frzs b _ _ Ha
        have q := (hok' b _ z).1
        rw [hobj] at e
        rw [q, ← e]
      · exact un.keep b o e (Hn b ba nb) (fun z => by cases z) fun z => by cases z
    refine ⟨rfl, ⟨fun b o e => ?_, fun b o e => ?_⟩, q1, q2⟩
    · by_cases hb : b ∈ T
      · obtain ⟨p, hp, rfl⟩ := tabAt b hb
        obtain ⟨more, gm⟩ := tabGrown _ hb
        have e2 := (tabs p hp).1.symm.trans e
        cases e2
        exact .inr (.inl ⟨((tabs p hp).2.2.tab (tabs p hp).1).isCodeTable, rfl, #[], more, rfl, (by rw [Array.empty_append]; exact gm)⟩)
      · exact .inl (same b o hb e)
    · by_cases hb : b ∈ T
      · obtain ⟨more, gm⟩ := tabGrown b hb
        exact ⟨_, gm⟩
      · exact ⟨o, same b o hb e⟩
end G
-- part Fw26
set_option Elab.async false
set_option linter.all false
set_option maxRecDepth 100000
set_option maxHeartbeats 4000000
set_option autoImplicit false
/-! Framework 26: a law's defs one behind the other; the walk's end. -/
namespace G
open PySem PySem.Spec PyProof.Rows L2
/-- a def that was read -/
structure Ent where
  name : Str
  info : FnI
  lent : Bool
  f : List D → S → R (Nat × D)
def callOf : List Ent → Call
  | [], _, _, _ => .bad
  | e :: r, x, ds, s => if x = e.name then e.f ds s else callOf r x ds s
def fnsOf (T : List Ent) : List (Str × FnI × Bool) := T.map fun e => (e.name, e.info, e.lent)
def Shut (T : List Ent) : Prop := ∀ e ∈ T, ∀ ds st p s', e.f ds ⟨[], st⟩ = .ok p s' → s'.env = []
theorem runB_shut {n : Nat} {m : Sm} {ds : List D} {s s' : S} {p : Nat × D} (h : runB n m ds s = .ok p s') : s'.env = [] := by
  unfold runB at h
  split at h <;> first | (cases h; rfl) | cases h
theorem closed_of : ∀ {T : List Ent}, Shut T → Closed (callOf T)
  | [], _, x, ds, st, p, s', h => by cases h
  | e :: r, hs, x, ds, st, p, s', h => by
    have h : (if x = e.name then e.f ds ⟨[], st⟩ else callOf r x ds ⟨[], st⟩) = .ok p s' := h
    split at h
    · exact hs e (by simp) ds st p s' h
    · exact closed_of (fun e' he => hs e' (by simp [he])) x ds st p s' h
section
variable [TabC]
def Facts (T : List Ent) (k : Nat) (P : Program) (w : World) (K : PySem.W.Frag) (mg : Str → Option Value) (base : Heap) : Prop :=
  Shut T ∧ ∀ x i b, (fnsOf T).lookup x = some (i, b) → ∀ X : Cx, X.prog = P → X.w = w → X.K = K → X.mg = mg → X.base = base → FnFact X k (callOf T) x i
theorem facts0 {k : Nat} {P : Program} {w : World} {K : PySem.W.Frag} {mg : Str → Option Value} {base : Heap} : Facts [] k P w K mg base := ⟨fun e he => (by cases he), fun x i b h => (by cases h)⟩
def layOf (T : List Ent) (N : List Str) (glob : List (Str × D)) (free : List Str) (lam : Bool) : Lay := ⟨N, glob, fnsOf T, free, callOf T, true, lam⟩
theorem Facts.glo {T : List Ent} {k : Nat} {P : Program} {w : World} {K : PySem.W.Frag} {mg : Str → Option Value} {base : Heap} (h : Facts T k P w K mg base) {N : List Str} {glob : List (Str × D)} {free : List Str} {lam : Bool}
    (hg : ∀ x d, glob.lookup x = some d → ∃ (u : Value) (v : V), mg x = some u ∧ RelV v u ∧ (∀ W, Rp W v d) ∧ (x == ("__debug__" : Str)) = false) (hf : ∀ x, x ∈ free → mg x = none) : Glo (layOf T N glob free lam) k P w K mg base :=
  ⟨hg, h.2, hf, closed_of h.1⟩
/-- one def more -/
theorem Facts.step {T : List Ent} {k n j : Nat} {P : Program} {w : World} {K : PySem.W.Frag} {mg : Str → Option Value} {base : Heap} {x : Str} {params : Arguments} {body : List Stmt} {scope : Scope} {dvs : List V} {kws : List (Str × V)} {f : Addr} {fd : FuncData} {ps N : List Str} {m : Sm}
    {glob : List (Str × D)} {free : List Str} {lam lent : Bool} {i : FnI} (h : Facts T k P w K mg base) (F : FunD K x x params body scope dvs kws f fd) (S : FnScope N ps scope) (g : Glo (layOf T N glob free lam) k P w K mg base) (hl : lam = true → LamAt mg base x fd.code)
    (hm : ssR (rds n j (layOf T N glob free lam) scope) body = some m) (hmg : mg x = some (.ref f)) (hdb : (x == ("__debug__" : Str)) = false) (hnp : i.np = ps.length)
    (hb : ∀ j, j ≤ i.dfl.length → ∃ (dvs : List V) (ds : List Value), Vals dvs ds ∧ (∀ W, RpAll W dvs (i.dfl.drop j)) ∧ Binds K fd ps ds) : Facts (⟨x, i, lent, runB N.length m⟩ :: T) (k + 1) P w K mg base := by
  refine ⟨fun e he => ?_, fun y i' b q X e1 e2 e3 e4 e5 => ?_⟩
  · rcases List.mem_cons.mp he with z | z
    · subst z; exact fun ds st p s' q => runB_shut q
    · exact h.1 e z
  · have q : (match y == x with | true => some (i, lent) | false => (fnsOf T).lookup y) = some (i', b) := q
    by_cases hy : y = x
    · subst hy
      rw [beq_self_eq_true] at q
      cases q
      subst e1 e2 e3 e4 e5
      refine ⟨f, fd, ps, hmg, F.kp, hdb, ?_, hb⟩
      rw [hnp]
      exact fn_ok (C := callOf (⟨y, i, lent, runB N.length m⟩ :: T)) F S g rfl hl hm fun ds s => if_pos rfl
    · have hb' : (y == x) = false := by simpa using hy
      rw [hb'] at q
      obtain ⟨f', fd', ps', m1, m2, m3, m4, m5⟩ := h.2 y i' b q X e1 e2 e3 e4 e5
      exact ⟨f', fd', ps', m1, m2, m3, (m4.mono (Nat.le_succ k)).as fun ds s => if_neg hy, m5⟩
end
/-! ### the lambdas' tables -/
abbrev tabC (K : PySem.W.Frag) (tf : List He.Defn) : TabC := ⟨tf.map fun p => ((He.cT K p).2, p.1 ++ ".<locals>." ++ "<lambda>")⟩
def noList (K : PySem.W.Frag) : Bool := K.all fun p => !(match p.2.cls with
  | .type c => c == "list"
  | _ => false)
def dupN : List Addr → Bool
  | [] => false
  | a :: r => r.contains a || dupN r
def exB (tf : List He.Defn) (K : PySem.W.Frag) : Bool := noList K && !dupN (tf.map fun p => (He.cT K p).2)
theorem noList_ok {K : PySem.W.Frag} (h : noList K = true) : ∀ b o, K.lookup b = some o → o.cls ≠ .type "list" := fun b o e z => by
  have hm := He.lookup_mem e
  have q := List.all_eq_true.mp h _ hm
  rw [z] at q
  simp at q
theorem dup_uniq {α : Type} {f : α → Addr} : ∀ {l : List α}, dupN (l.map f) = false → ∀ p ∈ l, ∀ q ∈ l, f p = f q → p = q
  | [], _, p, hp, _, _, _ => by cases hp
  | a :: r, h, p, hp, q, hq, e => by
    have h : ((r.map f).contains (f a) || dupN (r.map f)) = false := h
    rw [Bool.or_eq_false_iff] at h
    have nm : ∀ z ∈ r, f z ≠ f a := fun z hz e => by
      have : (r.map f).contains (f a) = true := by
        rw [List.contains_iff_mem, ← e]; exact List.mem_map.mpr ⟨z, hz, rfl⟩
      rw [h.1] at this; cases this
    rcases List.mem_cons.mp hp with z1 | z1 <;> rcases List.mem_cons.mp hq with z2 | z2
    · rw [z1, z2]
    · exact absurd (by rw [← z1]; exact e.symm) (nm q z2)
    · exact absurd (by rw [← z2]; exact e) (nm p z1)
    · exact dup_uniq h.2 p z1 q z2 e
theorem lamAt_of {K : PySem.W.Frag} {tf : List He.Defn} {mg : Str → Option Value} {base : Heap} {x : Str} {params : Arguments} {body : List Stmt} {scope : Scope} {dvs : List V} {kws : List (Str × V)} {fd : FuncData} (F : FunD K x x params body scope dvs kws (He.fAd K (x, none)) fd)
    (hp : (x, none) ∈ tf) (TB : ∀ p ∈ tf, LamX.TabB base mg (He.cT K p).1 (He.cT K p).2) (hu : dupN (tf.map fun p => (He.cT K p).2) = false) (hn : ∀ p ∈ tf, p.2 = none) : @LamAt (tabC K tf) mg base x fd.code := by
  obtain ⟨oc, od, dV, kV, doc, pm, an, cdv, ct, osl, rfl, lk, hcd, _, _⟩ := F.ex
  obtain ⟨c, rfl⟩ := He.codeIn_ref hcd
  have e := He.codeOf_eq lk rfl
  have ec : (He.cT K (x, none)).1 = c := e
  refine ⟨c, (He.cT K (x, none)).2, ec ▸ TB _ hp, rfl, List.mem_map.mpr ⟨_, hp, rfl⟩, fun q hq z => ?_⟩
  obtain ⟨p, hp', rfl⟩ := List.mem_map.mp hq
  have := dup_uniq hu p hp' (x, none) hp z
  rw [this]
/-- the walk's end: the plain law is all that is left -/
theorem walkG {l : PySem.W.OpenLaw} {n k nn : Nat} {q : Program} {loose : List Str} {XP : (Str → Option Value) → Heap → Prop} {d : DefRec} {fa : List He.Fa} {fn : List He.DefD} {tf : List He.Defn} {C : Call} {lw : Str} {x : Str}
    (hn : l.most = some n) (hn2 : n ≤ sizeLine) (hdf : d.params.defaults = []) (hr : Room k callerA) (hnone : ∀ p ∈ tf, p.2 = none)
    (F : ∀ (w : World) (K : PySem.W.Frag) (mg : Str → Option Value) (f : Addr) (h base : Heap), K.In h → h.Ns mainGlobals mg → He.SaysD fa fn K → mg d.name = some (.ref f) → K.In base → base.Ns mainGlobals mg →
      (∀ p ∈ tf, LamX.TabB base mg (He.cT K p).1 (He.cT K p).2) → dupN (tf.map fun p => (He.cT K p).2) = false →
      ∃ fd : FuncData, (∀ (s : Shared) (u : Value), BindsTo s fd ⟨[u], []⟩ [(x, u)]) ∧ @FnG l.prog w K mg base k f fd [x] (@spC (tabC K tf) C lw 1))
    (law : ∀ ns : List Int, ns.length ≤ n → (∀ z ∈ ns, Builtin.Int.intBits z ≤ 1048576) → ∃ lv st', C lw [.lst (ns.map D.int)] ⟨[], []⟩ = .ok (lv, .bl true) ⟨[], st'⟩) :
    PySem.W.WalkO q loose XP (He.hookX nn fa fn [] tf (exB tf)).says l.row.toRowW d [] (fun f vs => PySem.call f vs) := by
  refine Att.attach_callB hn hdf fun w s₀ s₁ mg mb fa' o pm cd doc a vs ns G Y ho hd hcd hmg hobj hints hlen hbits hg => ?_
  obtain ⟨K, KX, c⟩ := Y
  have hex := c.more
  unfold exB at hex
  rw [Bool.and_eq_true, Bool.not_eq_true'] at hex
  letI : TabC := tabC K tf
  refine law_callG (cs := tf.map (He.cT K)) KX G.T.g G.T.b G.T.builtins G.T.nolimit hg (noList_ok hex.1) (fun p hp => ?_) G.T.bmain hobj hints (Nat.le_trans hlen hn2) fun base H Kb nb TB e0 Ha Ht => ?_
  · obtain ⟨p', hp', rfl⟩ := List.mem_map.mp hp
    exact ⟨c.empty p' hp', c.out p' hp', PySem.W.codeHd_of_K KX (c.hd p' hp')⟩
  · obtain ⟨fd, hb, FG⟩ := F w K mg fa' _ base KX G.T.g c.t.d hmg Kb nb (fun p hp => TB _ (List.mem_map.mpr ⟨p, hp, rfl⟩)) hex.2
    obtain ⟨lv, st', hlaw⟩ := law ns hlen hbits
    refine FG.run callerA [] s₁ H ⟨[.ref a], []⟩ [.ref a] [.ref a] _ _ rfl hr e0 (hb s₁ (.ref a)) (.cons rfl .nil) ?_
    have rpi : ∀ (W : Wd) (ms : List Int), RpAll W (ms.map V.int) (ms.map D.int) := fun W ms => by
      induction ms with
      | nil => exact .nil
      | cons z ms ih => exact .cons (.int z) ih
    refine ⟨⟨fun b => if b = a then some (.frz { cls := .type "list", data := .seq vs.toArray } (.lst (ns.map V.int))) else none, []⟩, fun _ => False, [.lst (ns.map D.int)], [], st', lv, .bl true, rfl, .cons (.lst (o := .frz { cls := .type "list", data := .seq vs.toArray } (.lst (ns.map V.int))) (if_pos rfl) (.inr ⟨_, rfl⟩) (rpi _ ns)) .nil, ⟨[], [], [], .nil, .nil, .nil, ?_⟩, hlaw, fun W' v H' le ag r' => ?_⟩
    · refine ⟨fun b o e => ?_, .nil, fun b hb => (by cases hb), fun b hb => hb.elim, fun p hp => ?_, fun b hb ps z => ?_⟩
      · have e : (if b = a then some (HO.frz { cls := .type "list", data := .seq vs.toArray } (.lst (ns.map V.int))) else none) = some o := e
        split at e
        · rename_i hba
          rw [hba, Ha]; exact e
        · cases e
      · obtain ⟨p', hp', rfl⟩ := List.mem_map.mp hp
        exact LamX.TabS.nil (Ht _ (List.mem_map.mpr ⟨p', hp', rfl⟩))
      · rcases hb with hb | hb | hb
        · have hb : (if b = a then some (HO.frz { cls := .type "list", data := .seq vs.toArray } (.lst (ns.map V.int))) else none) ≠ none := hb
          split at hb
          · rename_i hba
            rw [hba, Ha] at z; cases z
          · exact hb rfl
        · exact hb.elim
        · cases hb
    · obtain ⟨W2, _, rp, _⟩ := r'.thaw
      cases rp
      rfl
end G
-- part Fw27
set_option Elab.async false
set_option linter.all false
set_option maxRecDepth 100000
set_option maxHeartbeats 4000000
set_option autoImplicit false
/-! Framework 27: small things that the printed walk asks for. -/
namespace G
open PySem PySem.Spec PyProof.Rows L2
def GP (mg : Str → Option Value) (x : Str) (d : D) : Prop := ∃ (u : Value) (v : V), mg x = some u ∧ RelV v u ∧ (∀ W, Rp W v d) ∧ (x == ("__debug__" : Str)) = false
theorem gp_int {mg : Str → Option Value} {x : Str} {i : Int} (h : ∃ t, mg x = some (.int i t)) (hd : (x == ("__debug__" : Str)) = false) : GP mg x (.int i) := by
  obtain ⟨t, e⟩ := h
  exact ⟨_, .int i, e, ⟨t, rfl⟩, fun W => .int i, hd⟩
theorem gp_str {mg : Str → Option Value} {x z : Str} (h : ∃ t, mg x = some (.str z t)) (hd : (x == ("__debug__" : Str)) = false) : GP mg x (.str z) := by
  obtain ⟨t, e⟩ := h
  exact ⟨_, .str z, e, ⟨t, rfl⟩, fun W => .str z, hd⟩
theorem lookup_at {α : Type} : ∀ {l : List (Str × α)} {x : Str} {d : α}, l.lookup x = some d → (x, d) ∈ l
  | [], _, _, h => by cases h
  | (y, a) :: l, x, d, h => by
    have h : (match x == y with | true => some a | false => l.lookup x) = some d := h
    cases e : x == y with
    | true =>
      rw [e] at h
      cases h
      have := eq_of_beq e
      subst this
      simp
    | false =>
      rw [e] at h
      exact List.mem_cons_of_mem _ (lookup_at h)
theorem globs_of {mg : Str → Option Value} {l : List (Str × D)} (h : ∀ p ∈ l, GP mg p.1 p.2) : ∀ x d, l.lookup x = some d → GP mg x d := fun x d q => h _ (lookup_at q)
theorem bd0 {K : PySem.W.Frag} {fd : FuncData} {ps : List Str} (h : Binds K fd ps []) : ∀ j, j ≤ ([] : List D).length → ∃ (dvs : List V) (ds : List Value), Vals dvs ds ∧ (∀ W, RpAll W dvs (([] : List D).drop j)) ∧ Binds K fd ps ds := fun j hj =>
  ⟨[], [], .nil, fun W => (by rw [List.drop_nil]; exact .nil), h⟩
end G
-- part Ev
set_option Elab.async false
set_option linter.all false
set_option maxRecDepth 100000
set_option maxHeartbeats 4000000
set_option autoImplicit false
/-! Ev: running the readings: steps, loops, comprehensions. -/
namespace G
open PySem PySem.Spec
/-! ### the parts that are run first -/
def RS.seq (x : RS) (b : Sm) : RS := match x with
  | .nx s1 => b s1
  | r => r
theorem sSeq_eq (a b : Sm) (s : S) : sSeq a b s = (a s).seq b := by unfold sSeq RS.seq; rfl
theorem seq_nx' (s : S) (b : Sm) : (RS.nx s).seq b = b s := rfl
theorem seq_rt' (p : Nat × D) (s : S) (b : Sm) : (RS.rt p s).seq b = .rt p s := rfl
theorem seq_bk' (s : S) (b : Sm) : (RS.bk s).seq b = .bk s := rfl
theorem seq_ct' (s : S) (b : Sm) : (RS.ct s).seq b = .ct s := rfl
theorem bind_ok' {α β : Type} (a : α) (s : S) (f : α → S → R β) : (R.ok a s).bind f = f a s := rfl
theorem then_ok' {α : Type} (a : α) (s : S) (f : α → S → RS) : (R.ok a s).then f = f a s := rfl
theorem opt_some' {α : Type} (a : α) (s : S) : R.opt (some a) s = .ok a s := rfl
theorem toB_ok' (b : Bool) (n : Nat) (s : S) : toB (.ok (n, .bl b) s) = .ok b s := rfl
theorem RS.seq_congr {x y : RS} {b : Sm} (h : x = y) : x.seq b = y.seq b := by rw [h]
theorem R.bind_congr {α β : Type} {x y : R α} {f : α → S → R β} (h : x = y) : x.bind f = y.bind f := by rw [h]
theorem R.then_congr {α : Type} {x y : R α} {f : α → S → RS} (h : x = y) : x.then f = y.then f := by rw [h]
/-- what a call's result does to the state of the caller -/
def R.back (x : R (Nat × D)) (s1 : S) : R (Nat × D) := match x with
  | .ok p s2 => .ok p { s1 with st := s2.st }
  | .bad => .bad
  | .err e s2 => .err e { s1 with st := s2.st }
theorem eCall_eq (C : Call) (x : Str) (ms : S → R (List D)) (dfl : List D) (s : S) : eCall C x ms dfl s = (ms s).bind fun ds s1 => (C x (ds ++ dfl) ⟨[], s1.st⟩).back s1 := rfl
theorem back_ok' (p : Nat × D) (s1 s2 : S) : (R.ok p s2).back s1 = .ok p { s1 with st := s2.st } := rfl
def R.backL (x : R (Nat × D)) (s1 : S) : R (Nat × D) := match x with
    | .ok p s2 => if p.2.atom.isSome && s2.st.all flatC then .ok (0, p.2) { s1 with st := s2.st } else .bad
    | .bad => .bad
    | .err e s2 => .bad
def looksL (C : Call) (x : Str) (dfl : List D) (s1 : S) (o : Option (List (Nat × D))) : R (Nat × D) := match o with
  | some ps => (C x (ps.map (·.2) ++ dfl) ⟨[], s1.st⟩).backL s1
  | none => .bad
theorem eCallL_eq (C : Call) (x : Str) (ms : S → R (List O)) (dfl : List D) (s : S) : eCallL C x ms dfl s = (ms s).bind fun os s1 => looksL C x dfl s1 (s1.looks os) := by
  unfold eCallL looksL R.backL
  congr 1
theorem looksL_some (C : Call) (x : Str) (dfl : List D) (s1 : S) (ps : List (Nat × D)) : looksL C x dfl s1 (some ps) = (C x (ps.map (·.2) ++ dfl) ⟨[], s1.st⟩).backL s1 := rfl
theorem backL_int (l : Nat) (i : Int) (s1 : S) {e : List (Option (Nat × D))} {st : List (Nat × D)} (h : st.all flatC = true) : (R.ok (l, D.int i) ⟨e, st⟩).backL s1 = .ok (0, .int i) { s1 with st := st } := by unfold R.backL; simp [D.atom, h]
theorem backL_bl (l : Nat) (i : Bool) (s1 : S) {e : List (Option (Nat × D))} {st : List (Nat × D)} (h : st.all flatC = true) : (R.ok (l, D.bl i) ⟨e, st⟩).backL s1 = .ok (0, .bl i) { s1 with st := st } := by unfold R.backL; simp [D.atom, h]
theorem backL_str (l : Nat) (i : Str) (s1 : S) {e : List (Option (Nat × D))} {st : List (Nat × D)} (h : st.all flatC = true) : (R.ok (l, D.str i) ⟨e, st⟩).backL s1 = .ok (0, .str i) { s1 with st := st } := by unfold R.backL; simp [D.atom, h]
theorem run_rt' {n : Nat} {m : Sm} {ds : List D} {st st' : List (Nat × D)} {p : Nat × D} (h : ∃ env', m ⟨ds.map (fun d => some (0, d)) ++ List.replicate (n - ds.length) none, st⟩ = .rt p ⟨env', st'⟩) : runB n m ds ⟨[], st⟩ = .ok p ⟨[], st'⟩ := by
  obtain ⟨e, h⟩ := h
  unfold runB; rw [show (S.mk [] st).st = st from rfl, h]
theorem run_nx' {n : Nat} {m : Sm} {ds : List D} {st st' : List (Nat × D)} (h : ∃ env', m ⟨ds.map (fun d => some (0, d)) ++ List.replicate (n - ds.length) none, st⟩ = .nx ⟨env', st'⟩) : runB n m ds ⟨[], st⟩ = .ok (0, .non) ⟨[], st'⟩ := by
  obtain ⟨e, h⟩ := h
  unfold runB; rw [show (S.mk [] st).st = st from rfl, h]
/-! ### statements in a row -/
theorem seq_nx {a b : Sm} {s s1 : S} (h : a s = .nx s1) : sSeq a b s = b s1 := by unfold sSeq; rw [h]
theorem seq_rt {a b : Sm} {s s1 : S} {p : Nat × D} (h : a s = .rt p s1) : sSeq a b s = .rt p s1 := by unfold sSeq; rw [h]
theorem seq_bk {a b : Sm} {s s1 : S} (h : a s = .bk s1) : sSeq a b s = .bk s1 := by unfold sSeq; rw [h]
theorem seq_ct {a b : Sm} {s s1 : S} (h : a s = .ct s1) : sSeq a b s = .ct s1 := by unfold sSeq; rw [h]
theorem if_t {t : ET} {a b : Sm} {s s1 : S} (h : t s = .ok true s1) : sIf t a b s = a s1 := by unfold sIf; rw [h]; rfl
theorem if_f {t : ET} {a b : Sm} {s s1 : S} (h : t s = .ok false s1) : sIf t a b s = b s1 := by unfold sIf; rw [h]; rfl
theorem run_rt {n : Nat} {m : Sm} {ds : List D} {st : List (Nat × D)} {p : Nat × D} {s' : S} (h : m ⟨ds.map (fun d => some (0, d)) ++ List.replicate (n - ds.length) none, st⟩ = .rt p s') : runB n m ds ⟨[], st⟩ = .ok p ⟨[], s'.st⟩ := by
  unfold runB; rw [show (S.mk [] st).st = st from rfl, h]
theorem run_nx {n : Nat} {m : Sm} {ds : List D} {st : List (Nat × D)} {s' : S} (h : m ⟨ds.map (fun d => some (0, d)) ++ List.replicate (n - ds.length) none, st⟩ = .nx s') : runB n m ds ⟨[], st⟩ = .ok (0, .non) ⟨[], s'.st⟩ := by
  unfold runB; rw [show (S.mk [] st).st = st from rfl, h]
/-! ### what is asked of an end -/
/-- of a def's end -/
def Fin (P : Nat × D → List (Nat × D) → Prop) : RS → Prop
  | .rt p s => P p s.st
  | .nx s => P (0, .non) s.st
  | _ => False
/-- of a loop's turn -/
def LB (P B : S → Prop) (T : Nat × D → S → Prop) : RS → Prop
  | .nx s => P s
  | .ct s => P s
  | .bk s => B s
  | .rt p s => T p s
  | _ => False
theorem run_fin {n : Nat} {m : Sm} {ds : List D} {st : List (Nat × D)} {P : Nat × D → List (Nat × D) → Prop} (h : Fin P (m ⟨ds.map (fun d => some (0, d)) ++ List.replicate (n - ds.length) none, st⟩)) : ∃ p st', runB n m ds ⟨[], st⟩ = .ok p ⟨[], st'⟩ ∧ P p st' := by
  unfold runB
  rw [show (S.mk [] st).st = st from rfl]
  cases e : m ⟨ds.map (fun d => some (0, d)) ++ List.replicate (n - ds.length) none, st⟩ with
  | bad => rw [e] at h; exact h.elim
  | nx s => rw [e] at h; exact ⟨_, _, rfl, h⟩
  | rt p s => rw [e] at h; exact ⟨_, _, rfl, h⟩
  | bk s => rw [e] at h; exact h.elim
  | ct s => rw [e] at h; exact h.elim
  | err x s => rw [e] at h; exact h.elim
theorem run_eq {n : Nat} {m : Sm} {ds : List D} {st st' : List (Nat × D)} {p : Nat × D} (h : Fin (fun p' st'' => p' = p ∧ st'' = st') (m ⟨ds.map (fun d => some (0, d)) ++ List.replicate (n - ds.length) none, st⟩)) : runB n m ds ⟨[], st⟩ = .ok p ⟨[], st'⟩ := by
  obtain ⟨_, _, e, rfl, rfl⟩ := run_fin h
  exact e
/-! ### for -/
/-- one turn -/
def for1 (g : Tm) (b : Sm) (d : D) (s : S) : RS := match g d s with
  | none => .bad
  | some s1 => b s1
theorem for_q {α : Type} {Q : RS → Prop} {g : Tm} {b r : Sm} {ds : List D} {s : S} (enc : α → D) (I : List α → S → Prop) (xs : List α) (e : ds = xs.map enc)
    (h : ∀ pre x post (s : S), xs = pre ++ x :: post → I pre s → LB (I (pre ++ [x])) (fun s => Q (r s)) (fun p s => Q (.rt p s)) (for1 g b (enc x) s)) (h0 : I [] s) (hr : ∀ s', I xs s' → Q (r s')) :
    Q ((forM g b ds s).seq r) := by
  subst e
  have go : ∀ (post pre : List α) (s : S), xs = pre ++ post → I pre s → Q ((forM g b (post.map enc) s).seq r) := by
    intro post
    induction post with
    | nil => intro pre s e hi; exact hr s (by rw [e, List.append_nil]; exact hi)
    | cons d post ih =>
      intro pre s e hi
      have hh := h pre d post s e hi
      rw [List.map_cons]
      show Q ((match g (enc d) s with | none => RS.bad | some s1 => _ : RS).seq r)
      unfold for1 at hh
      cases hg : g (enc d) s with
      | none => rw [hg] at hh; exact hh.elim
      | some s1 =>
        rw [hg] at hh
        have hh : LB (I (pre ++ [d])) (fun s => Q (r s)) (fun p s => Q (.rt p s)) (b s1) := hh
        show Q ((match b s1 with | .nx s2 => forM g b (post.map enc) s2 | .ct s2 => forM g b (post.map enc) s2 | .bk s2 => .nx s2 | r => r : RS).seq r)
        cases hb : b s1 with
        | bad => rw [hb] at hh; exact hh.elim
        | err x q => rw [hb] at hh; exact hh.elim
        | nx s2 => rw [hb] at hh; exact ih (pre ++ [d]) s2 (by rw [e]; simp) hh
        | ct s2 => rw [hb] at hh; exact ih (pre ++ [d]) s2 (by rw [e]; simp) hh
        | bk s2 => rw [hb] at hh; exact hh
        | rt p s2 => rw [hb] at hh; exact hh
  exact go xs [] s rfl h0
/-! ### while -/
theorem while_q {Q : RS → Prop} {t : ET} {b r : Sm} {s : S} (I : Nat → S → Prop) (n : Nat) (h : ∀ n s, I n s → (∃ s1, t s = .ok false s1 ∧ Q (r s1)) ∨ (∃ s1, t s = .ok true s1 ∧ LB (fun s2 => ∃ n', n' < n ∧ I n' s2) (fun s => Q (r s)) (fun p s => Q (.rt p s)) (b s1))) (h0 : I n s) (hn : n < turns) :
    Q ((sWhile t b s).seq r) := by
  have go : ∀ (N n : Nat) {s : S}, I n s → n < N → Q ((whileM t b N s).seq r) := by
    intro N
    induction N with
    | zero => intro n s _ h0; omega
    | succ N ih =>
      intro n s hi hn
      show Q (((t s).then fun c s1 => if c then (match b s1 with | .nx s2 => whileM t b N s2 | .ct s2 => whileM t b N s2 | .bk s2 => .nx s2 | r => r) else .nx s1).seq r)
      rcases h n s hi with ⟨s1, ht, hq⟩ | ⟨s1, ht, hb⟩
      · rw [ht]; exact hq
      · rw [ht]
        show Q ((match b s1 with | .nx s2 => whileM t b N s2 | .ct s2 => whileM t b N s2 | .bk s2 => .nx s2 | r => r : RS).seq r)
        cases hb' : b s1 with
        | bad => rw [hb'] at hb; exact hb.elim
        | err x q => rw [hb'] at hb; exact hb.elim
        | nx s2 => rw [hb'] at hb; obtain ⟨n', hl, hi'⟩ := hb; exact ih n' hi' (by omega)
        | ct s2 => rw [hb'] at hb; obtain ⟨n', hl, hi'⟩ := hb; exact ih n' hi' (by omega)
        | bk s2 => rw [hb'] at hb; exact hb
        | rt p s2 => rw [hb'] at hb; exact hb
  exact go turns n h0 hn
/-! ### comprehensions -/
/-- one turn -/
def lc1 (own : List Nat) (g : Tm) (t : ET) (m : EV) (d : D) (s : S) : R (Option D) := match g d s with
  | none => .bad
  | some s1 => (t s1).bind fun c s2 => if c then (m s2).bind fun y s3 => .ok (some y) (s3.wipe own) else .ok none (s2.wipe own)
theorem lcM_some {own : List Nat} {g : Tm} {t : ET} {m : EV} {d y : D} {ds acc : List D} {s s' : S} (h : lc1 own g t m d s = .ok (some y) s') (hz : acc.length ≤ 1000000) : lcM own g t m (d :: ds) acc s = lcM own g t m ds (acc ++ [y]) s' := by
  unfold lc1 at h
  show (match g d s with | none => _ | some s1 => _) = _
  cases hg : g d s with
  | none => rw [hg] at h; cases h
  | some s1 =>
    rw [hg] at h
    show ((t s1).bind _) = _
    have h : ((t s1).bind fun c s2 => if c then (m s2).bind fun y s3 => R.ok (some y) (s3.wipe own) else .ok none (s2.wipe own)) = .ok (some y) s' := h
    cases ht : t s1 with
    | bad => rw [ht] at h; cases h
    | err x q => rw [ht] at h; cases h
    | ok c s2 =>
      rw [ht] at h
      cases c with
      | false => exact absurd h (by show ¬ (R.ok none _ = R.ok (some y) s'); intro z; cases z)
      | true =>
        have h : ((m s2).bind fun y s3 => R.ok (some y) (s3.wipe own)) = .ok (some y) s' := h
        show ((m s2).bind fun y s3 => if szOk acc.length then lcM own g t m ds (acc ++ [y]) (s3.wipe own) else .bad) = _
        cases hm : m s2 with
        | bad => rw [hm] at h; cases h
        | err x q => rw [hm] at h; cases h
        | ok y' s3 =>
          rw [hm] at h
          cases h
          show (if szOk acc.length then lcM own g t m ds (acc ++ [y]) (s3.wipe own) else .bad) = _
          rw [if_pos (by unfold szOk; rw [decide_eq_true_eq]; exact hz)]
theorem lcM_none {own : List Nat} {g : Tm} {t : ET} {m : EV} {d : D} {ds acc : List D} {s s' : S} (h : lc1 own g t m d s = .ok none s') : lcM own g t m (d :: ds) acc s = lcM own g t m ds acc s' := by
  unfold lc1 at h
  show (match g d s with | none => _ | some s1 => _) = _
  cases hg : g d s with
  | none => rw [hg] at h; cases h
  | some s1 =>
    rw [hg] at h
    show ((t s1).bind _) = _
    have h : ((t s1).bind fun c s2 => if c then (m s2).bind fun y s3 => R.ok (some y) (s3.wipe own) else .ok none (s2.wipe own)) = .ok none s' := h
    cases ht : t s1 with
    | bad => rw [ht] at h; cases h
    | err x q => rw [ht] at h; cases h
    | ok c s2 =>
      rw [ht] at h
      cases c with
      | false => cases h; rfl
      | true =>
        have h : ((m s2).bind fun y s3 => R.ok (some y) (s3.wipe own)) = .ok none s' := h
        cases hm : m s2 with
        | bad => rw [hm] at h; cases h
        | err x q => rw [hm] at h; cases h
        | ok y' s3 => rw [hm] at h; cases h
/-- one that changes nothing -/
theorem lcM_pure {α : Type} {own : List Nat} {g : Tm} {t : ET} {m : EV} {s : S} (enc : α → D) (r : α → Option D) : ∀ (xs : List α) (acc : List D), acc.length + xs.length ≤ 1000000 →
    (∀ x ∈ xs, lc1 own g t m (enc x) s = .ok (r x) s) → lcM own g t m (xs.map enc) acc s = .ok (acc ++ xs.filterMap r) s
  | [], acc, _, _ => by simp [lcM]
  | x :: xs, acc, hl, h => by
    have hl' : acc.length + (xs.length + 1) ≤ 1000000 := hl
    have hx := h x (by simp)
    rw [List.map_cons]
    cases hr : r x with
    | none =>
      rw [hr] at hx
      rw [lcM_none hx, List.filterMap_cons_none hr]
      exact lcM_pure enc r xs acc (by omega) fun y hy => h y (by simp [hy])
    | some y =>
      rw [hr] at hx
      rw [lcM_some hx (by omega), List.filterMap_cons_some hr, lcM_pure enc r xs (acc ++ [y]) (by rw [List.length_append, List.length_singleton]; omega) fun y hy => h y (by simp [hy])]
      simp
/-- .. every one -/
theorem lcM_map {α : Type} {own : List Nat} {g : Tm} {t : ET} {m : EV} {s : S} (enc f : α → D) (xs : List α) (hl : xs.length ≤ 1000000)
    (h : ∀ x ∈ xs, lc1 own g t m (enc x) s = .ok (some (f x)) s) : lcM own g t m (xs.map enc) [] s = .ok (xs.map f) s := by
  have := lcM_pure enc (fun x => some (f x)) xs [] (by simpa using hl) h
  rw [this]
  have e : List.filterMap (fun x => some (f x)) xs = xs.map f := by
    rw [show (fun x => some (f x)) = some ∘ f from rfl, List.filterMap_eq_map]
  rw [e, List.nil_append]
/-- one that may change what is kept -/
theorem lcM_gen {α : Type} {own : List Nat} {g : Tm} {t : ET} {m : EV} (enc : α → D) (I : List α → List D → S → Prop) (xs0 : List α) (h : ∀ pre x post acc s, xs0 = pre ++ x :: post → I pre acc s → ∃ o s', lc1 own g t m (enc x) s = .ok o s' ∧ I (pre ++ [x]) (acc ++ o.toList) s') : ∀ (xs pre : List α) (acc : List D) (s : S), xs0 = pre ++ xs → acc.length + xs.length ≤ 1000000 → I pre acc s →
    ∃ ys s', lcM own g t m (xs.map enc) acc s = .ok ys s' ∧ I xs0 ys s'
  | [], pre, acc, s, e, _, hi => ⟨acc, s, rfl, by rw [e, List.append_nil]; exact hi⟩
  | x :: xs, pre, acc, s, e, hl, hi => by
    obtain ⟨o, s1, h1, h2⟩ := h pre x xs acc s e hi
    have hl' : acc.length + (xs.length + 1) ≤ 1000000 := hl
    rw [List.map_cons]
    cases o with
    | none =>
      rw [lcM_none h1]
      exact lcM_gen enc I xs0 h xs (pre ++ [x]) acc s1 (by rw [e]; simp) (by omega) (by simpa using h2)
    | some y =>
      rw [lcM_some h1 (by omega)]
      exact lcM_gen enc I xs0 h xs (pre ++ [x]) (acc ++ [y]) s1 (by rw [e]; simp) (by rw [List.length_append, List.length_singleton]; omega) (by simpa using h2)
end G
-- part Rd
set_option Elab.async false
set_option linter.all false
set_option maxRecDepth 100000
set_option maxHeartbeats 0
/-! Readings of defs, shared by the laws. Printed by rd.py. -/
namespace Rd
open PySem PySem.Spec L2 G
def n_law_draw : List Str := ["_law_cell", "_law_k"]
def m_law_draw (C : Call) : Sm :=
  (sSeq (sRet (eOf (eCell (eDisp (psCons (eC (.str "left")) (eV (eIf (tCmp .GtE (oVar 0) (oV (eV (eBin .Pow (oV (eC (.int 10))) (oV (eC (.int 18))))))) (eOf (eVar 0)) (eOf (eC (.int 0))))) (psCons (eC (.str "cell")) (eVar 0) (psCons (eC (.str "turns")) (eV (eBin .Mult (oV (eC (.int 1000))) (oVar 1))) psNil)))))))
  sNil)
abbrev f_law_draw (C : Call) : List D → S → R (Nat × D) := runB 2 (m_law_draw C)
def n_law_mixed : List Str := ["_law_cell", "_law_k", "_law_number"]
def m_law_mixed (C : Call) : Sm :=
  (sSeq (sSet 2 (eBin .Add (oV (eV (eBin .Add (oV (eV (eBin .Mod (oVar 0) (oV (eSub (oV (eV (eLst (vsCons (eC (.int 1000000007)) (vsCons (eC (.int 998244353)) (vsCons (eC (.int 2147483629)) (vsCons (eC (.int 1000000009)) vsNil))))))) (oV (eV (eBin .Mod (oVar 1) (oV (eC (.int 4))))))))))) (oV (eV (eBin .Mult (oV (eC (.int 7919))) (oVar 1))))))) (oV (eC (.int 13)))))
  (sSeq (sRet (eBin .Mod (oV (eV (eBin .Mult (oV (eV (eBin .Mod (oV (eV (eBin .Mult (oVar 2) (oVar 2)))) (oV (eC (.int 2147483647)))))) (oV (eC (.int 48271)))))) (oV (eC (.int 2147483647)))))
  sNil))
abbrev f_law_mixed (C : Call) : List D → S → R (Nat × D) := runB 3 (m_law_mixed C)
def n_law_digit : List Str := ["_law_state", "_law_many", "_law_j", "_law_found"]
def m_law_digit (C : Call) : Sm :=
  (sSeq (sIf (tCmp .Eq (oV (eSub (oVar 0) (oV (eC (.str "left"))))) (oV (eC (.int 0))))
    (sSeq (sFor (iRange1 (oV (eC (.int 4)))) (gVar 2)
      (sSeq (sDPut 0 (oV (eC (.str "turns"))) (eBin .Add (oV (eSub (oVar 0) (oV (eC (.str "turns"))))) (oV (eC (.int 1)))))
      (sSeq (sDPut 0 (oV (eC (.str "left"))) (eBin .Add (oV (eV (eBin .Mult (oV (eSub (oVar 0) (oV (eC (.str "left"))))) (oV (eC (.int 2147483647)))))) (oV (eV (eCall C "_law_mixed" (vsCons (eSub (oVar 0) (oV (eC (.str "cell")))) (vsCons (eSub (oVar 0) (oV (eC (.str "turns")))) vsNil)) [])))))
      sNil)))
    sNil)
    sNil)
  (sSeq (sSet 3 (eBin .Mod (oV (eSub (oVar 0) (oV (eC (.str "left"))))) (oVar 1)))
  (sSeq (sDPut 0 (oV (eC (.str "left"))) (eBin .FloorDiv (oV (eSub (oVar 0) (oV (eC (.str "left"))))) (oVar 1)))
  (sSeq (sRet (eMove 3))
  sNil))))
abbrev f_law_digit (C : Call) : List D → S → R (Nat × D) := runB 4 (m_law_digit C)
def n_law_word : List Str := ["_law_state", "_law_signs", "_law_some", "_law_j"]
def m_law_word (C : Call) : Sm :=
  (sSeq (sSet 1 (eLc [3] (iRange1 (oV (eV (eBin .Add (oV (eC (.int 1))) (oV (eV (eCall C "_law_digit" (vsCons (eVar 0) (vsCons (eC (.int 8)) vsNil)) []))))))) (gVar 3) tTrue (eSub (oV (eC (.str "abcdefghijklmnopqrstuvwxyz"))) (oV (eV (eCall C "_law_digit" (vsCons (eVar 0) (vsCons (eC (.int 26)) vsNil)) []))))))
  (sSeq (sSet 2 (eLst (vsCons (eV (eOf (eJoin (eC (.str "")) (oVar 1)))) (vsCons (eV (eOf (eJoin (eC (.str "")) (oV (eV (eSlice (oVar 1) pNone (pSome (oV (eC (.int 2)))))))))) (vsCons (eC (.str "a")) (vsCons (eC (.str "ab")) (vsCons (eC (.str "b")) (vsCons (eC (.str "bell")) (vsCons (eC (.str "away")) (vsCons (eC (.str "tree")) (vsCons (eC (.str "told")) (vsCons (eC (.str "last")) (vsCons (eC (.str "lost")) (vsCons (eC (.str "ring")) vsNil))))))))))))))
  (sSeq (sRet (eOf (eSub (oVar 2) (oV (eV (eCall C "_law_digit" (vsCons (eVar 0) (vsCons (eC (.int 12)) vsNil)) []))))))
  sNil)))
abbrev f_law_word (C : Call) : List D → S → R (Nat × D) := runB 4 (m_law_word C)
def n_law_tree : List Str := ["_law_state", "_law_most", "_law_way", "_law_many", "_law_head", "_law_names", "_law_people", "_law_j", "_law_word_here", "_law_talk", "_law_some", "_law_caller"]
def m_law_tree (C : Call) : Sm :=
  (sSeq (sPar2 2 3 (lsCons (eCall C "_law_digit" (vsCons (eVar 0) (vsCons (eC (.int 4)) vsNil)) []) (lsCons (eCall C "_law_digit" (vsCons (eVar 0) (vsCons (eV (eBin .Add (oVar 1) (oV (eC (.int 1))))) vsNil)) []) lsNil)))
  (sSeq (sSet 4 (eOf (eTup (vsCons (eV (eBin .Add (oV (eC (.int 1))) (oV (eV (eCall C "_law_digit" (vsCons (eVar 0) (vsCons (eC (.int 60)) vsNil)) []))))) (vsCons (eV (eCall C "_law_digit" (vsCons (eVar 0) (vsCons (eC (.int 5)) vsNil)) [])) vsNil)))))
  (sSeq (sPar2 5 6 (lsCons (eLst vsNil) (lsCons (eLst vsNil) lsNil)))
  (sSeq (sFor (iRange1 (oV (eV (eBin .Mult (oV (eC (.int 2))) (oVar 3))))) (gVar 7)
    (sSeq (sPar2 8 9 (lsCons (eCall C "_law_word" (vsCons (eVar 0) vsNil) []) (lsCons (eOf (eSub (oV (eV (eLst (vsCons (eC (.int 1)) (vsCons (eC (.int 4)) (vsCons (eC (.int 4)) (vsCons (eV (eBin .Add (oV (eC (.int 1))) (oV (eV (eCall C "_law_digit" (vsCons (eVar 0) (vsCons (eC (.int 60)) vsNil)) []))))) vsNil))))))) (oV (eV (eCall C "_law_digit" (vsCons (eVar 0) (vsCons (eC (.int 4)) vsNil)) []))))) lsNil)))
    (sSeq (sSet 10 (eBin .Add (oV (eV (eLst (vsCons (eC (.str "")) vsNil)))) (oVar 5)))
    (sSeq (sSet 10 (eOf (eSub (oV (eV (eLst (vsCons (eVar 10) (vsCons (eV (eSlice (oVar 10) (pSome (oV (eC (.int (-1))))) pNone)) (vsCons (eV (eSlice (oVar 10) pNone (pSome (oV (eC (.int 2)))))) (vsCons (eV (eSlice (oVar 10) (pSome (oV (eC (.int (-3))))) pNone)) vsNil))))))) (oVar 2))))
    (sSeq (sSet 11 (eOf (eSub (oVar 10) (oV (eV (eCall C "_law_digit" (vsCons (eVar 0) (vsCons (eV (eCallB lenD (osCons (oVar 10) osNil))) vsNil)) []))))))
    (sSeq (sIf (tAnd2 (tCmp .NotIn (oVar 8) (oVar 5)) (tCmp .Lt (oV (eV (eCallB lenD (osCons (oVar 5) osNil)))) (oVar 3)))
      (sSeq (sAppend 5 (eVar 8))
      (sSeq (sAppend 6 (eTup (vsCons (eVar 8) (vsCons (eVar 11) (vsCons (eVar 9) vsNil)))))
      sNil))
      sNil)
    sNil))))))
  (sSeq (sRet (eBin .Add (oVar 4) (oV (eTup (vsCons (eV (eCallB tupleD (osCons (oVar 6) osNil))) vsNil)))))
  sNil)))))
abbrev f_law_tree (C : Call) : List D → S → R (Nat × D) := runB 12 (m_law_tree C)
def n_law_away : List Str := ["_law_state", "_law_tree_here", "_law_share", "_law_person"]
def m_law_away (C : Call) : Sm :=
  (sSeq (sSet 2 (eOf (eSub (oV (eV (eLst (vsCons (eC (.int 1)) (vsCons (eC (.int 2)) (vsCons (eC (.int 2)) (vsCons (eC (.int 3)) (vsCons (eC (.int 8)) vsNil)))))))) (oV (eV (eCall C "_law_digit" (vsCons (eVar 0) (vsCons (eC (.int 5)) vsNil)) []))))))
  (sSeq (sRet (eCallB tupleD (osCons (oV (eV (eCallB sortD (osCons (oV (eV (eLc [3] (iVal (eSub (oVar 1) (oV (eC (.int 2))))) (gVar 3) (tCmp .Eq (oV (eV (eCall C "_law_digit" (vsCons (eVar 0) (vsCons (eVar 2) vsNil)) []))) (oV (eC (.int 0)))) (eSub (oVar 3) (oV (eC (.int 0))))))) osNil)))) osNil)))
  sNil))
abbrev f_law_away (C : Call) : List D → S → R (Nat × D) := runB 4 (m_law_away C)
def n_is_whole : List Str := ["thing"]
def m_is_whole (C : Call) : Sm :=
  (sSeq (sRet (eOf (eAnd2 (eV (eOf (eIsi "int" (oVar 0)))) (eNot1 (eV (eOf (eIsi "bool" (oVar 0))))))))
  sNil)
abbrev f_is_whole (C : Call) : List D → S → R (Nat × D) := runB 1 (m_is_whole C)
def n_is_among : List Str := ["thing", "least", "most"]
def m_is_among (C : Call) : Sm :=
  (sSeq (sRet (eOf (eAnd2 (eV (eCall C "is_whole" (vsCons (eVar 0) vsNil) [])) (eT (tChain2 .LtE .LtE (oVar 1) (oVar 0) (oVar 2))))))
  sNil)
abbrev f_is_among (C : Call) : List D → S → R (Nat × D) := runB 3 (m_is_among C)
def n_is_name : List Str := ["thing", "sign"]
def m_is_name (C : Call) : Sm :=
  (sSeq (sIf (tOr2 (tNot1 (tTru (oV (eV (eOf (eIsi "str" (oVar 0))))))) (tNot1 (tChain2 .LtE .LtE (oV (eC (.int 1))) (oV (eV (eCallB lenD (osCons (oVar 0) osNil)))) (oV (eC (.int 8))))))
    (sSeq (sRet (eOf (eC (.bl false))))
    sNil)
    sNil)
  (sSeq (sRet (eCallB allD (osCons (oV (eV (eLc [1] (iVal (eVar 0)) (gVar 1) tTrue (eV (eCmp .In (oVar 1) (oV (eC (.str "abcdefghijklmnopqrstuvwxyz")))))))) osNil)))
  sNil))
abbrev f_is_name (C : Call) : List D → S → R (Nat × D) := runB 2 (m_is_name C)
def n_is_person : List Str := ["thing", "known", "name", "caller", "talk"]
def m_is_person (C : Call) : Sm :=
  (sSeq (sIf (tOr2 (tNot1 (tTru (oV (eV (eOf (eIsi "tuple" (oVar 0))))))) (tCmp .NotEq (oV (eV (eCallB lenD (osCons (oVar 0) osNil)))) (oV (eC (.int 3)))))
    (sSeq (sRet (eOf (eC (.bl false))))
    sNil)
    sNil)
  (sSeq (sAsg (gTupM 3 (gsCons (gVar 2) (gsCons (gVar 3) (gsCons (gVar 4) gsNil)))) (eVar 0))
  (sSeq (sIf (tOr2 (tNot1 (tTru (oV (eV (eCall C "is_name" (vsCons (eVar 2) vsNil) []))))) (tOr2 (tCmp .In (oVar 2) (oVar 1)) (tNot1 (tTru (oV (eV (eOf (eIsi "str" (oVar 3)))))))))
    (sSeq (sRet (eOf (eC (.bl false))))
    sNil)
    sNil)
  (sSeq (sRet (eOf (eAnd2 (eOr2 (eV (eCmp .Eq (oVar 3) (oV (eC (.str ""))))) (eV (eCmp .In (oVar 3) (oVar 1)))) (eV (eCall C "is_among" (vsCons (eVar 4) (vsCons (eC (.int 1)) (vsCons (eC (.int 60)) vsNil))) [])))))
  sNil))))
abbrev f_is_person (C : Call) : List D → S → R (Nat × D) := runB 5 (m_is_person C)
def n_first_wrong : List Str := ["thing", "wait", "deep", "people", "known", "number", "person"]
def m_first_wrong (C : Call) : Sm :=
  (sSeq (sIf (tOr2 (tNot1 (tTru (oV (eV (eOf (eIsi "tuple" (oVar 0))))))) (tCmp .NotEq (oV (eV (eCallB lenD (osCons (oVar 0) osNil)))) (oV (eC (.int 3)))))
    (sSeq (sRet (eOf (eTup (vsCons (eC .non) (vsCons (eC .non) vsNil)))))
    sNil)
    sNil)
  (sSeq (sAsg (gTupM 3 (gsCons (gVar 1) (gsCons (gVar 2) (gsCons (gVar 3) gsNil)))) (eVar 0))
  (sSeq (sIf (tNot1 (tTru (oV (eV (eCall C "is_among" (vsCons (eVar 1) (vsCons (eC (.int 1)) (vsCons (eC (.int 60)) vsNil))) [])))))
    (sSeq (sRet (eOf (eTup (vsCons (eC (.str "wait")) (vsCons (eC .non) vsNil)))))
    sNil)
    sNil)
  (sSeq (sIf (tNot1 (tTru (oV (eV (eCall C "is_among" (vsCons (eVar 2) (vsCons (eC (.int 0)) (vsCons (eC (.int 4)) vsNil))) [])))))
    (sSeq (sRet (eOf (eTup (vsCons (eC (.str "deep")) (vsCons (eC .non) vsNil)))))
    sNil)
    sNil)
  (sSeq (sIf (tOr2 (tNot1 (tTru (oV (eV (eOf (eIsi "tuple" (oVar 3))))))) (tCmp .Gt (oV (eV (eCallB lenD (osCons (oVar 3) osNil)))) (oV (eC (.int 16)))))
    (sSeq (sRet (eOf (eTup (vsCons (eC (.str "people")) (vsCons (eC .non) vsNil)))))
    sNil)
    sNil)
  (sSeq (sSet 4 eDict0)
  (sSeq (sFor (iEnumM (eVar 3)) (gTupM 2 (gsCons (gVar 5) (gsCons (gVar 6) gsNil)))
    (sSeq (sIf (tNot1 (tTru (oV (eV (eCallL C "is_person" (osCons (oVar 6) (osCons (oVar 4) osNil)) [])))))
      (sSeq (sRet (eOf (eTup (vsCons (eC (.str "people")) (vsCons (eVar 5) vsNil)))))
      sNil)
      sNil)
    (sSeq (sDPut 4 (oV (eSub (oVar 6) (oV (eC (.int 0))))) (eOf (eC (.bl true))))
    sNil)))
  (sSeq (sRet (eOf (eC .non)))
  sNil))))))))
abbrev f_first_wrong (C : Call) : List D → S → R (Nat × D) := runB 7 (m_first_wrong C)
def n_need_tree : List Str := ["tree", "wrong"]
def m_need_tree (C : Call) : Sm :=
  (sSeq (sSet 1 (eCall C "first_wrong" (vsCons (eVar 0) vsNil) []))
  (sSeq (sIf (tCmp .IsNot (oVar 1) (oV (eC .non)))
    (sSeq sBad
    sNil)
    sNil)
  sNil))
abbrev f_need_tree (C : Call) : List D → S → R (Nat × D) := runB 2 (m_need_tree C)
def n_first_not_away : List Str := ["tree", "thing", "names", "number", "name", "person"]
def m_first_not_away (C : Call) : Sm :=
  (sSeq (sIf (tNot1 (tTru (oV (eV (eOf (eIsi "tuple" (oVar 1)))))))
    (sSeq (sRet (eOf (eC (.int (-1)))))
    sNil)
    sNil)
  (sSeq (sSet 2 (eLc [5] (iVal (eSub (oVar 0) (oV (eC (.int 2))))) (gVar 5) tTrue (eSub (oVar 5) (oV (eC (.int 0))))))
  (sSeq (sFor (iEnumM (eVar 1)) (gTupM 2 (gsCons (gVar 3) (gsCons (gVar 4) gsNil)))
    (sSeq (sIf (tOr2 (tCmp .NotIn (oVar 4) (oVar 2)) (tAnd2 (tCmp .Gt (oVar 3) (oV (eC (.int 0)))) (tCmp .LtE (oVar 4) (oV (eSub (oVar 1) (oV (eV (eBin .Sub (oVar 3) (oV (eC (.int 1)))))))))))
      (sSeq (sRet (eMove 3))
      sNil)
      sNil)
    sNil))
  (sSeq (sRet (eOf (eC .non)))
  sNil))))
abbrev f_first_not_away (C : Call) : List D → S → R (Nat × D) := runB 6 (m_first_not_away C)
def n_need_away : List Str := ["tree", "away", "wrong"]
def m_need_away (C : Call) : Sm :=
  (sSeq (sExpr (eV (eCall C "need_tree" (vsCons (eVar 0) vsNil) [])))
  (sSeq (sSet 2 (eCall C "first_not_away" (vsCons (eVar 0) (vsCons (eVar 1) vsNil)) []))
  (sSeq (sIf (tAnd2 (tCmp .IsNot (oVar 2) (oV (eC .non))) (tCmp .Lt (oVar 2) (oV (eC (.int 0)))))
    (sSeq sBad
    sNil)
    sNil)
  (sSeq (sIf (tCmp .IsNot (oVar 2) (oV (eC .non)))
    (sSeq sBad
    sNil)
    sNil)
  sNil))))
abbrev f_need_away (C : Call) : List D → S → R (Nat × D) := runB 3 (m_need_away C)
def n_those_away : List Str := ["tree", "away", "some"]
def m_those_away (C : Call) : Sm :=
  (sSeq (sSet 2 (eIf (tCmp .Is (oVar 1) (oV (eC .non))) (eOf (eTup vsNil)) (eOf (eVar 1))))
  (sSeq (sExpr (eV (eCall C "need_away" (vsCons (eVar 0) (vsCons (eVar 2) vsNil)) [])))
  (sSeq (sRet (eMove 2))
  sNil)))
abbrev f_those_away (C : Call) : List D → S → R (Nat × D) := runB 3 (m_those_away C)
def n_lists_by : List Str := ["tree", "lists", "name", "caller", "talk"]
def m_lists_by (C : Call) : Sm :=
  (sSeq (sSet 1 (eDispL (eC (.str "")) (eLst vsNil)))
  (sSeq (sFor (iVal (eSub (oVar 0) (oV (eC (.int 2))))) (gTupM 3 (gsCons (gVar 2) (gsCons (gVar 3) (gsCons (gVar 4) gsNil))))
    (sSeq (sSubApp 1 (oVar 3) (eVar 2))
    (sSeq (sDPut 1 (oVar 2) (eLst vsNil))
    sNil)))
  (sSeq (sRet (eMove 1))
  sNil)))
abbrev f_lists_by (C : Call) : List D → S → R (Nat × D) := runB 5 (m_lists_by C)
def n_own_calls : List Str := ["tree", "away", "wait", "deep", "people", "name", "caller", "lists", "talks", "calls", "told", "minute", "line", "rows", "is_there", "end", "talk", "one"]
def m_own_calls (C : Call) : Sm :=
  (sSeq (sAsg (gTupM 3 (gsCons (gVar 2) (gsCons (gVar 3) (gsCons (gVar 4) gsNil)))) (eVar 0))
  (sSeq (sPar2 7 8 (lsCons (eCall C "lists_by" (vsCons (eVar 0) vsNil) []) (lsCons (eCallB dictD (osCons (oV (eV (eLc [5, 6, 16] (iVal (eVar 4)) (gTupM 3 (gsCons (gVar 5) (gsCons (gVar 6) (gsCons (gVar 16) gsNil)))) tTrue (eTup (vsCons (eVar 5) (vsCons (eVar 16) vsNil)))))) osNil)) lsNil)))
  (sSeq (sPar2 9 10 (lsCons (eLst vsNil) (lsCons (eLst (vsCons (eTup (vsCons (eC (.int 0)) (vsCons (eC (.str "")) vsNil))) vsNil)) lsNil)))
  (sSeq (sWhile (tCmp .NotEq (oVar 10) (oV (eV (eLst vsNil))))
    (sSeq (sAsg (gTupM 2 (gsCons (gVar 11) (gsCons (gVar 6) gsNil))) (eV (eOf (ePop 10))))
    (sSeq (sSet 12 (eLc [5] (iVal (eSub (oVar 7) (oVar 6))) (gVar 5) tTrue (eTup (vsCons (eVar 5) (vsCons (eVar 3) vsNil)))))
    (sSeq (sWhile (tCmp .NotEq (oVar 12) (oV (eV (eLst vsNil))))
      (sSeq (sAsg (gTupM 2 (gsCons (gVar 5) (gsCons (gVar 13) gsNil))) (eV (eOf (ePopAt 12 (oV (eC (.int 0)))))))
      (sSeq (sSet 14 (eOf (eV (eCmp .NotIn (oVar 5) (oVar 1)))))
      (sSeq (sSet 15 (eBin .Add (oVar 11) (oV (eV (eIf (tTru (oVar 14)) (eOf (eSub (oVar 8) (oVar 5))) (eOf (eVar 2)))))))
      (sSeq (sAppend 9 (eTup (vsCons (eVar 11) (vsCons (eVar 15) (vsCons (eVar 6) (vsCons (eVar 5) (vsCons (eVar 14) vsNil)))))))
      (sSeq (sIf (tTru (oVar 14))
        (sSeq (sAppend 10 (eTup (vsCons (eVar 15) (vsCons (eVar 5) vsNil))))
        sNil)
        (sSeq (sIf (tCmp .NotEq (oVar 13) (oV (eC (.int 1))))
          (sSeq (sSet 12 (eBin .Add (oV (eV (eLc [17] (iVal (eSub (oVar 7) (oVar 5))) (gVar 17) tTrue (eTup (vsCons (eVar 17) (vsCons (eV (eCallB maxD (osCons (oV (eC (.int 0))) (osCons (oV (eV (eBin .Sub (oVar 13) (oV (eC (.int 1)))))) osNil)))) vsNil)))))) (oVar 12)))
          sNil)
          sNil)
        sNil))
      (sSeq (sSet 11 (eOf (eVar 15)))
      sNil)))))))
    sNil))))
  (sSeq (sRet (eSortK (.tup [0, 2]) (oVar 9)))
  sNil)))))
abbrev f_own_calls (C : Call) : List D → S → R (Nat × D) := runB 18 (m_own_calls C)
def n_asked_calls : List Str := ["tree", "away", "some"]
def m_asked_calls (C : Call) : Sm :=
  (sSeq (sSet 2 (eCall C "those_away" (vsCons (eVar 0) (vsCons (eVar 1) vsNil)) []))
  (sSeq (sRet (eCall C "own_calls" (vsCons (eVar 0) (vsCons (eVar 2) vsNil)) []))
  sNil))
abbrev f_asked_calls (C : Call) : List D → S → R (Nat × D) := runB 3 (m_asked_calls C)
def n_ring_calls : List Str := ["tree", "away"]
def m_ring_calls (C : Call) : Sm :=
  (sSeq (sRet (eCall C "asked_calls" (vsCons (eVar 0) (vsCons (eVar 1) vsNil)) []))
  sNil)
abbrev f_ring_calls (C : Call) : List D → S → R (Nat × D) := runB 2 (m_ring_calls C)
def n_law_walk : List Str := ["_law_tree_here", "_law_order", "_law_todo", "_law_name", "_law_one", "_law_caller", "_law_talk"]
def m_law_walk (C : Call) : Sm :=
  (sSeq (sPar2 1 2 (lsCons (eLst vsNil) (lsCons (eLst (vsCons (eC (.str "")) vsNil)) lsNil)))
  (sSeq (sWhile (tCmp .NotEq (oVar 2) (oV (eV (eLst vsNil))))
    (sSeq (sSet 3 (eOf (ePop 2)))
    (sSeq (sAppend 1 (eVar 3))
    (sSeq (sSet 2 (eBin .Add (oVar 2) (oV (eV (eRev (oV (eV (eLc [4, 5, 6] (iVal (eSub (oVar 0) (oV (eC (.int 2))))) (gTupM 3 (gsCons (gVar 4) (gsCons (gVar 5) (gsCons (gVar 6) gsNil)))) (tCmp .Eq (oVar 5) (oVar 3)) (eVar 4)))))))))
    sNil))))
  (sSeq (sRet (eSlice (oVar 1) (pSome (oV (eC (.int 1)))) pNone))
  sNil)))
abbrev f_law_walk (C : Call) : List D → S → R (Nat × D) := runB 7 (m_law_walk C)
def n_law_callers : List Str := ["_law_tree_here", "_law_away_here", "_law_name", "_law_caller", "_law_talk", "_law_above", "_law_found", "_law_one", "_law_levels"]
def m_law_callers (C : Call) : Sm :=
  (sSeq (sSet 5 (eCallB dictD (osCons (oV (eV (eLc [2, 3, 4] (iVal (eSub (oVar 0) (oV (eC (.int 2))))) (gTupM 3 (gsCons (gVar 2) (gsCons (gVar 3) (gsCons (gVar 4) gsNil)))) tTrue (eTup (vsCons (eVar 2) (vsCons (eVar 3) vsNil)))))) osNil)))
  (sSeq (sSet 6 eDict0)
  (sSeq (sFor (iVal (eSub (oVar 0) (oV (eC (.int 2))))) (gTupM 3 (gsCons (gVar 2) (gsCons (gVar 3) (gsCons (gVar 4) gsNil))))
    (sSeq (sPar2 7 8 (lsCons (eOf (eVar 3)) (lsCons (eOf (eC (.int 1))) lsNil)))
    (sSeq (sWhile (tCmp .In (oVar 7) (oVar 1))
      (sSeq (sPar2 7 8 (lsCons (eOf (eSub (oVar 5) (oVar 7))) (lsCons (eBin .Add (oVar 8) (oV (eC (.int 1)))) lsNil)))
      sNil))
    (sSeq (sIf (tAnd2 (tOr2 (tCmp .Eq (oV (eSub (oVar 0) (oV (eC (.int 1))))) (oV (eC (.int 0)))) (tCmp .LtE (oVar 8) (oV (eSub (oVar 0) (oV (eC (.int 1))))))) (tOr2 (tCmp .Eq (oVar 7) (oV (eC (.str "")))) (tCmp .In (oVar 7) (oVar 6))))
      (sSeq (sDPut 6 (oVar 2) (eOf (eVar 7)))
      sNil)
      sNil)
    sNil))))
  (sSeq (sRet (eMove 6))
  sNil))))
abbrev f_law_callers (C : Call) : List D → S → R (Nat × D) := runB 9 (m_law_callers C)
def n_law_calls : List Str := ["_law_tree_here", "_law_away_here", "_law_name", "_law_callers_here", "_law_talks", "_law_free", "_law_rows", "_law_begin", "_law_end", "_law_caller", "_law_talk"]
def m_law_calls (C : Call) : Sm :=
  (sSeq (sPar2 3 4 (lsCons (eCall C "_law_callers" (vsCons (eVar 0) (vsCons (eVar 1) vsNil)) []) (lsCons (eCallB dictD (osCons (oV (eV (eLc [2, 9, 10] (iVal (eSub (oVar 0) (oV (eC (.int 2))))) (gTupM 3 (gsCons (gVar 2) (gsCons (gVar 9) (gsCons (gVar 10) gsNil)))) tTrue (eTup (vsCons (eVar 2) (vsCons (eVar 10) vsNil)))))) osNil)) lsNil)))
  (sSeq (sPar2 5 6 (lsCons (eDisp (psCons (eC (.str "")) (eC (.int 0)) psNil)) (lsCons (eLst vsNil) lsNil)))
  (sSeq (sFor (iVal (eV (eCall C "_law_walk" (vsCons (eVar 0) vsNil) []))) (gVar 2)
    (sSeq (sIf (tCmp .In (oVar 2) (oVar 3))
      (sSeq (sSet 7 (eOf (eSub (oVar 5) (oV (eSub (oVar 3) (oVar 2))))))
      (sSeq (sSet 8 (eBin .Add (oVar 7) (oV (eV (eIf (tCmp .In (oVar 2) (oVar 1)) (eOf (eSub (oVar 0) (oV (eC (.int 0))))) (eOf (eSub (oVar 4) (oVar 2))))))))
      (sSeq (sDPut 5 (oV (eSub (oVar 3) (oVar 2))) (eOf (eVar 8)))
      (sSeq (sDPut 5 (oVar 2) (eOf (eVar 8)))
      (sSeq (sAppend 6 (eTup (vsCons (eVar 7) (vsCons (eVar 8) (vsCons (eSub (oVar 3) (oVar 2)) (vsCons (eVar 2) (vsCons (eV (eCmp .NotIn (oVar 2) (oVar 1))) vsNil)))))))
      sNil)))))
      sNil)
    sNil))
  (sSeq (sRet (eSortK (.tup [0, 2]) (oVar 6)))
  sNil))))
abbrev f_law_calls (C : Call) : List D → S → R (Nat × D) := runB 11 (m_law_calls C)
def n_law : List Str := ["_law_script", "_law_k", "_law_cell", "_law_state", "_law_tree_here", "_law_away_here"]
def m_law (C : Call) : Sm :=
  (sSeq (sFor (iEnumM (eV (eBin .Add (oV (eV (eSlice (oVar 0) pNone (pSome (oV (eC (.int 8))))))) (oV (eV (eLst (vsCons (eV (eCallB sumD (osCons (oVar 0) osNil))) vsNil))))))) (gTupM 2 (gsCons (gVar 1) (gsCons (gVar 2) gsNil)))
    (sSeq (sSet 3 (eCall C "_law_draw" (vsCons (eVar 2) (vsCons (eVar 1) vsNil)) []))
    (sSeq (sSet 4 (eCall C "_law_tree" (vsCons (eVar 3) (vsCons (eC (.int 16)) vsNil)) []))
    (sSeq (sSet 5 (eCall C "_law_away" (vsCons (eVar 3) (vsCons (eVar 4) vsNil)) []))
    (sSeq (sIf (tCmp .NotEq (oV (eV (eCallB reprD (osCons (oV (eV (eCall C "ring_calls" (vsCons (eVar 4) (vsCons (eVar 5) vsNil)) []))) osNil)))) (oV (eV (eCallB reprD (osCons (oV (eV (eCall C "_law_calls" (vsCons (eVar 4) (vsCons (eVar 5) vsNil)) []))) osNil)))))
      (sSeq (sRet (eOf (eC (.bl false))))
      sNil)
      sNil)
    (sSeq (sIf (tCmp .NotEq (oV (eV (eCallB reprD (osCons (oV (eV (eCall C "ring_calls" (vsCons (eVar 4) vsNil) [.non]))) osNil)))) (oV (eV (eCallB reprD (osCons (oV (eV (eCall C "_law_calls" (vsCons (eVar 4) (vsCons (eTup vsNil) vsNil)) []))) osNil)))))
      (sSeq (sRet (eOf (eC (.bl false))))
      sNil)
      sNil)
    (sSeq (sIf (tCmp .NotEq (oV (eV (eCallB reprD (osCons (oV (eV (eCall C "ring_calls" (vsCons (eVar 4) (vsCons (eC .non) vsNil)) []))) osNil)))) (oV (eV (eCallB reprD (osCons (oV (eV (eCall C "ring_calls" (vsCons (eVar 4) (vsCons (eTup vsNil) vsNil)) []))) osNil)))))
      (sSeq (sRet (eOf (eC (.bl false))))
      sNil)
      sNil)
    sNil)))))))
  (sSeq (sRet (eOf (eC (.bl true))))
  sNil))
abbrev f_law (C : Call) : List D → S → R (Nat × D) := runB 6 (m_law C)
end Rd
-- part Ev2
set_option Elab.async false
set_option linter.all false
set_option maxRecDepth 100000
set_option maxHeartbeats 4000000
set_option autoImplicit false
/-! Ev2: comparisons, places, dicts, as they are used. -/
namespace G
open PySem PySem.Spec L2
abbrev St := List (Nat × D)
theorem atI_nat {α : Type} (l : List α) (k : Nat) : atI l (k : Int) = l[k]? := by
  unfold atI ixN
  rw [if_pos (by omega)]
  split
  · simp
  · rw [List.getElem?_eq_none (by omega)]; rfl
theorem atI_0 {α : Type} (x : α) (l : List α) : atI (x :: l) 0 = some x := atI_nat (x :: l) 0
theorem atI_1 {α : Type} (x y : α) (l : List α) : atI (x :: y :: l) 1 = some y := atI_nat (x :: y :: l) 1
theorem atI_2 {α : Type} (x y z : α) (l : List α) : atI (x :: y :: z :: l) 2 = some z := atI_nat (x :: y :: z :: l) 2
theorem atI_3 {α : Type} (x y z w : α) (l : List α) : atI (x :: y :: z :: w :: l) 3 = some w := atI_nat (x :: y :: z :: w :: l) 3
theorem atI_4 {α : Type} (x y z w v : α) (l : List α) : atI (x :: y :: z :: w :: v :: l) 4 = some v := atI_nat (x :: y :: z :: w :: v :: l) 4
/-- a place that is there -/
theorem atI_of {α : Type} {l : List α} {i : Int} (h0 : 0 ≤ i) (h : i < l.length) : ∃ x ∈ l, atI l i = some x := by
  obtain ⟨k, rfl⟩ := Int.eq_ofNat_of_zero_le h0
  rw [atI_nat]
  have hk : k < l.length := by omega
  exact ⟨l[k], List.getElem_mem hk, List.getElem?_eq_getElem hk⟩
theorem szOk_of {n : Nat} (h : n ≤ 1000000) : szOk n = true := decide_eq_true h
theorem sz_0 : szOk 0 = true := rfl
theorem sz_1 : szOk 1 = true := rfl
theorem sz_2 : szOk 2 = true := rfl
theorem sz_3 : szOk 3 = true := rfl
theorem sz_4 : szOk 4 = true := rfl
theorem sz_5 : szOk 5 = true := rfl
theorem sz_6 : szOk 6 = true := rfl
theorem sz_7 : szOk 7 = true := rfl
theorem sz_8 : szOk 8 = true := rfl
theorem sz_9 : szOk 9 = true := rfl
theorem sz_10 : szOk 10 = true := rfl
theorem sz_11 : szOk 11 = true := rfl
theorem sz_12 : szOk 12 = true := rfl
theorem sz_13 : szOk 13 = true := rfl
theorem sz_14 : szOk 14 = true := rfl
theorem sz_15 : szOk 15 = true := rfl
theorem sz_16 : szOk 16 = true := rfl
theorem isNon_non : D.isNon .non = true := rfl
theorem isNon_int (i : Int) : D.isNon (.int i) = false := rfl
theorem isNon_str (x : Str) : D.isNon (.str x) = false := rfl
theorem isNon_bl (b : Bool) : D.isNon (.bl b) = false := rfl
theorem isNon_tup (l : List D) : D.isNon (.tup l) = false := rfl
theorem isNon_lst (l : List D) : D.isNon (.lst l) = false := rfl
theorem isNon_dct (l : List (Key × D)) : D.isNon (.dct l) = false := rfl
/-! ### comparisons -/
section
variable (l k : Nat) (x y z : Str) (i j : Int)
theorem eqv_str : PyData.eqv (.str x) (.str y) = (x == y) := by simp only [PyData.eqv]
theorem eqv_int : PyData.eqv (.int i) (.int j) = (i == j) := by simp only [PyData.eqv]
theorem cm_eq_str : cmpD .Eq (l, .str x) (k, .str y) = some (x == y) := by
  show some (PyData.eqv (.str x) (.str y)) = _; rw [eqv_str]
theorem cm_ne_str : cmpD .NotEq (l, .str x) (k, .str y) = some (!(x == y)) := by
  show some (!PyData.eqv (.str x) (.str y)) = _; rw [eqv_str]
theorem cm_eq_int : cmpD .Eq (l, .int i) (k, .int j) = some (i == j) := by
  show some (PyData.eqv (.int i) (.int j)) = _; rw [eqv_int]
theorem cm_ne_int : cmpD .NotEq (l, .int i) (k, .int j) = some (!(i == j)) := by
  show some (!PyData.eqv (.int i) (.int j)) = _; rw [eqv_int]
theorem cm_lt : cmpD .Lt (l, .int i) (k, .int j) = some (decide (i < j)) := rfl
theorem cm_le : cmpD .LtE (l, .int i) (k, .int j) = some (decide (i ≤ j)) := rfl
theorem cm_gt : cmpD .Gt (l, .int i) (k, .int j) = some (decide (j < i)) := rfl
theorem cm_ge : cmpD .GtE (l, .int i) (k, .int j) = some (decide (j ≤ i)) := rfl
theorem cm_slt : cmpD .Lt (l, .str x) (k, .str y) = some (decide (x.cps.toList < y.cps.toList)) := rfl
theorem cm_sle : cmpD .LtE (l, .str x) (k, .str y) = some (!decide (y.cps.toList < x.cps.toList)) := rfl
theorem cm_is (d : D) : cmpD .Is (l, d) (k, .non) = some d.isNon := by cases d <;> rfl
theorem cm_isnot (d : D) : cmpD .IsNot (l, d) (k, .non) = some (!d.isNon) := by cases d <;> rfl
theorem fits_strs (ns : List Str) : (ns.map D.str).all (D.fits deep) = true := by
  rw [List.all_eq_true]; intro d hd; obtain ⟨x, _, rfl⟩ := List.mem_map.mp hd; rfl
theorem any_strs (ns : List Str) : ((ns.map D.str).any fun y => PyData.eqv y.py (D.str x).py) = decide (x ∈ ns) := by
  rw [List.any_map]
  have : (fun y => PyData.eqv y.py (D.str x).py) ∘ D.str = fun y => y == x := by
    funext y; exact eqv_str y x
  rw [this, Bool.eq_iff_iff, List.any_eq_true, decide_eq_true_eq]
  constructor
  · rintro ⟨y, hy, e⟩; rw [← eq_of_beq e]; exact hy
  · intro h; exact ⟨x, h, beq_self_eq_true x⟩
theorem cm_in_tup (ns : List Str) : cmpD .In (l, .str x) (k, .tup (ns.map D.str)) = some (decide (x ∈ ns)) := by
  show (if ((D.str x).fits deep && (ns.map D.str).all (D.fits deep)) = true then some ((ns.map D.str).any fun y => PyData.eqv y.py (D.str x).py) else none) = _
  rw [fits_strs, any_strs]; rfl
theorem cm_nin_tup (ns : List Str) : cmpD .NotIn (l, .str x) (k, .tup (ns.map D.str)) = some (!decide (x ∈ ns)) := by
  show (if ((D.str x).fits deep && (ns.map D.str).all (D.fits deep)) = true then some (!(ns.map D.str).any fun y => PyData.eqv y.py (D.str x).py) else none) = _
  rw [fits_strs, any_strs]; rfl
theorem cm_in_lst (ns : List Str) : cmpD .In (l, .str x) (k, .lst (ns.map D.str)) = some (decide (x ∈ ns)) := by
  show (if ((D.str x).fits deep && (ns.map D.str).all (D.fits deep)) = true then some ((ns.map D.str).any fun y => PyData.eqv y.py (D.str x).py) else none) = _
  rw [fits_strs, any_strs]; rfl
theorem cm_nin_lst (ns : List Str) : cmpD .NotIn (l, .str x) (k, .lst (ns.map D.str)) = some (!decide (x ∈ ns)) := by
  show (if ((D.str x).fits deep && (ns.map D.str).all (D.fits deep)) = true then some (!(ns.map D.str).any fun y => PyData.eqv y.py (D.str x).py) else none) = _
  rw [fits_strs, any_strs]; rfl
theorem cm_in_dct (kvs : List (Key × D)) : cmpD .In (l, .str x) (k, .dct kvs) = some (getK kvs (.inr x)).isSome := rfl
theorem cm_nin_dct (kvs : List (Key × D)) : cmpD .NotIn (l, .str x) (k, .dct kvs) = some (!(getK kvs (.inr x)).isSome) := rfl
theorem cm_in_str (c : Nat) : cmpD .In (l, .str ⟨#[c]⟩) (k, .str z) = some (decide (c ∈ z.cps.toList)) := rfl
/-- a list against the empty one -/
theorem eqvAll_nil (ds : List D) : PyData.eqv (D.lst ds).py (D.lst []).py = ds.isEmpty := by
  cases ds with
  | nil => rfl
  | cons d r => show PyData.eqv (.list (d.py :: D.pys r)) (.list []) = false; simp only [PyData.eqv, PyData.eqvAll]
theorem cm_ne_nil (ds : List D) (h : (D.lst ds).fits deep = true) : cmpD .NotEq (l, .lst ds) (k, .lst []) = some (!ds.isEmpty) := by
  show (if ((D.lst ds).fits deep && true) = true then some (!PyData.eqv (D.lst ds).py (D.lst []).py) else none) = _
  rw [h, eqvAll_nil]; rfl
end
theorem cm_ne_nn (l k : Nat) : cmpD .NotEq (l, .lst []) (k, .lst []) = some false := rfl
theorem cm_eq_nn (l k : Nat) : cmpD .Eq (l, .lst []) (k, .lst []) = some true := rfl
/-! ### pop -/
theorem pop_last {α : Type} (a : List α) (b : α) : (a ++ [b])[(a ++ [b]).length - 1]? = some b := by simp
theorem drop_last {α : Type} (a : List α) (b : α) : (a ++ [b]).dropLast = a := by simp
theorem big_0 : big62 0 = true := rfl
theorem seqIx_0 (n : Nat) : seqIndex? 0 (n + 1) = some 0 := by
  unfold seqIndex?
  simp
theorem max2 (l k : Nat) (i j : Int) : maxD [(l, .int i), (k, .int j)] = some (0, .int (max i j)) := by
  show some (0, D.int (if j > i then j else i)) = _
  have : (if j > i then j else i) = max i j := by split <;> omega
  rw [this]
theorem add_lst (l k : Nat) (xs ys : List D) (hl : l ≤ 1) (hk : k ≤ 1) (h : xs.length + ys.length ≤ 1000000) : binD .Add (l, .lst xs) (k, .lst ys) = some (1, .lst (xs ++ ys)) := by
  show (if l ≤ 1 ∧ k ≤ 1 ∧ szOk (xs.length + ys.length) = true then some (1, D.lst (xs ++ ys)) else none) = _
  rw [if_pos ⟨hl, hk, szOk_of h⟩]
/-! ### dicts -/
theorem getK_nil {α : Type} (k : Key) : getK ([] : List (Key × α)) k = none := rfl
theorem gk_cons {α : Type} (p : Key × α) (r : List (Key × α)) (k : Key) : getK (p :: r) k = if p.1 = k then some p.2 else getK r k := by
  unfold getK
  rw [List.find?_cons]
  by_cases h : p.1 = k
  · rw [if_pos h, decide_eq_true h]; rfl
  · rw [if_neg h, decide_eq_false h]
theorem getK_append {α : Type} (a b : List (Key × α)) (k : Key) : getK (a ++ b) k = (getK a k).or (getK b k) := by
  induction a with
  | nil => simp [getK_nil]
  | cons p r ih =>
    rw [List.cons_append, gk_cons, gk_cons, ih]
    split
    · rfl
    · rfl
theorem any_getK {α : Type} (kvs : List (Key × α)) (k : Key) : (kvs.any fun kv => decide (kv.1 = k)) = (getK kvs k).isSome := by
  induction kvs with
  | nil => rfl
  | cons p r ih =>
    rw [List.any_cons, gk_cons, ih]
    by_cases h : p.1 = k
    · rw [if_pos h, decide_eq_true h]; rfl
    · rw [if_neg h, decide_eq_false h, Bool.false_or]
theorem getK_map {α : Type} (kvs : List (Key × α)) (k : Key) (v : α) (k' : Key) : getK (kvs.map fun kv => if kv.1 = k then (kv.1, v) else kv) k' = if k' = k then (getK kvs k').map (fun _ => v) else getK kvs k' := by
  induction kvs with
  | nil => simp [getK_nil]
  | cons p r ih =>
    rw [List.map_cons, gk_cons, gk_cons, ih]
    by_cases h : p.1 = k
    · rw [if_pos h]
      by_cases h2 : p.1 = k'
      · rw [if_pos h2, if_pos h2, if_pos (h2.symm.trans h)]; rfl
      · rw [if_neg h2, if_neg h2]
    · rw [if_neg h]
      by_cases h2 : p.1 = k'
      · rw [if_pos h2, if_pos h2, if_neg (fun z => h (h2.trans z))]
      · rw [if_neg h2, if_neg h2]
theorem getK_putL {α : Type} (kvs : List (Key × α)) (k : Key) (v : α) (k' : Key) : getK (putL kvs k v) k' = if k' = k then some v else getK kvs k' := by
  unfold putL
  rw [any_getK]
  split
  · rename_i h
    rw [getK_map]
    by_cases h2 : k' = k
    · rw [if_pos h2, if_pos h2, h2]
      cases e : getK kvs k with
      | none => rw [e] at h; cases h
      | some u => rfl
    · rw [if_neg h2, if_neg h2]
  · rename_i h
    rw [getK_append, gk_cons, getK_nil]
    by_cases h2 : k' = k
    · subst h2
      rw [if_pos rfl, if_pos rfl]
      cases e : getK kvs k' with
      | none => rfl
      | some u => rw [e] at h; exact absurd rfl h
    · rw [if_neg h2, if_neg (Ne.symm h2)]
      cases getK kvs k' <;> rfl
theorem putL_new {α : Type} (kvs : List (Key × α)) (k : Key) (v : α) (h : getK kvs k = none) : putL kvs k v = kvs ++ [(k, v)] := by
  unfold putL
  rw [any_getK, h]
  rfl
theorem getK_none {α : Type} {kvs : List (Key × α)} {k : Key} : getK kvs k = none ↔ k ∉ kvs.map (·.1) := by
  induction kvs with
  | nil => simp [getK_nil]
  | cons p r ih =>
    rw [gk_cons, List.map_cons, List.mem_cons]
    by_cases h : p.1 = k
    · rw [if_pos h]; simp [h]
    · rw [if_neg h, ih]; constructor
      · intro q z; rcases z with z | z
        · exact h z.symm
        · exact q z
      · intro q z; exact q (.inr z)
theorem length_putL {α : Type} (kvs : List (Key × α)) (k : Key) (v : α) : (putL kvs k v).length ≤ kvs.length + 1 := by
  unfold putL
  split
  · rw [List.length_map]; omega
  · rw [List.length_append]; simp
/-- keys are texts -/
theorem inr_eq {x y : Str} : ((Sum.inr x : Key) = Sum.inr y) = (x = y) := by rw [Sum.inr.injEq]
theorem getK_strs {α β : Type} (f : α → Str) (g : α → β) : ∀ (xs : List α) (y : Str), getK (xs.map fun x => ((Sum.inr (f x) : Key), g x)) (.inr y) = (xs.find? fun x => decide (f x = y)).map g
  | [], y => rfl
  | x :: xs, y => by
    rw [List.map_cons, gk_cons, List.find?_cons, getK_strs f g xs y]
    by_cases h : f x = y
    · rw [if_pos (by rw [h]), decide_eq_true h]; rfl
    · rw [if_neg (fun z => h (Sum.inr.inj z)), decide_eq_false h]
/-- a dict of pairs, their keys unlike -/
theorem pairsD_strs {α : Type} (f : α → Str) (g : α → D) : ∀ (xs : List α), pairsD (xs.map fun x => D.tup [.str (f x), g x]) = some (xs.map fun x => ((Sum.inr (f x) : Key), g x))
  | [] => rfl
  | x :: xs => by
    rw [List.map_cons]
    show (match pairD (D.tup [.str (f x), g x]), pairsD (xs.map fun x => D.tup [.str (f x), g x]) with | some p, some ps => some (p :: ps) | _, _ => none) = _
    rw [pairsD_strs f g xs]; rfl
theorem mergeL_new {α : Type} : ∀ (more kvs : List (Key × α)), ((kvs ++ more).map (·.1)).Nodup → mergeL kvs more = kvs ++ more
  | [], kvs, _ => by simp [mergeL]
  | p :: more, kvs, h => by
    show mergeL (putL kvs p.1 p.2) more = _
    have h1 : getK kvs p.1 = none := by
      rw [getK_none]
      intro z
      rw [List.map_append, List.nodup_append] at h
      exact h.2.2 _ z _ (by simp) rfl
    rw [putL_new _ _ _ h1, mergeL_new more (kvs ++ [(p.1, p.2)]) (by simpa using h)]
    simp
theorem nodupK_iff : ∀ (ks : List Key), nodupK ks = true ↔ ks.Nodup
  | [] => by simp [nodupK]
  | k :: r => by
    unfold nodupK
    rw [Bool.and_eq_true, nodupK_iff r, List.nodup_cons, Bool.not_eq_true', List.any_eq_false]
    simp only [decide_eq_true_eq]
    constructor
    · rintro ⟨a, b⟩; exact ⟨fun z => a k z rfl, b⟩
    · rintro ⟨a, b⟩; exact ⟨fun x hx e => a (e ▸ hx), b⟩
end G
-- part Ring
set_option Elab.async false
set_option linter.all false
set_option autoImplicit false
/-! Ring: trees of people, the ring's calls in walk order, plainly. -/
namespace Ring
variable {N : Type} [DecidableEq N]

/-- name, caller, talk -/
abbrev P (N : Type) := N × N × Int
inductive T (N : Type) where
  | node (n : N) (talk : Int) (ks : List (T N))

/-- who stands below x, as a forest -/
def forest : List (P N) → N → List (T N)
  | [], _ => []
  | p :: r, x => if p.2.1 = x then .node p.1 p.2.2 (forest r p.1) :: forest r x else forest r x

/-- good people: names unlike each other and the bell; callers stand ahead -/
structure GoodP (b : N) (ps : List (P N)) : Prop where
  nd : (b :: ps.map (·.1)).Nodup
  up : ∀ pre p post, ps = pre ++ p :: post → p.2.1 = b ∨ p.2.1 ∈ pre.map (·.1)

/-- a call: begin, end, caller, name, answered -/
abbrev Cl (N : Type) := Int × Int × N × N × Bool

variable (aw : N → Bool) (wait deep : Int)
mutual
def ringT (x : N) (rows m : Int) : T N → List (Cl N) × Int
  | .node n talk ks =>
    if aw n then
      (if rows = 1 then ([(m, m + wait, x, n, false)], m + wait)
       else ((m, m + wait, x, n, false) :: (ringF x (max 0 (rows - 1)) (m + wait) ks).1, (ringF x (max 0 (rows - 1)) (m + wait) ks).2))
    else ((m, m + talk, x, n, true) :: (ringF n deep (m + talk) ks).1, m + talk)
def ringF (x : N) (rows m : Int) : List (T N) → List (Cl N) × Int
  | [] => ([], m)
  | t :: ts => ((ringT x rows m t).1 ++ (ringF x rows (ringT x rows m t).2 ts).1, (ringF x rows (ringT x rows m t).2 ts).2)
end

mutual
def sizeT : T N → Nat
  | .node _ _ ks => 1 + sizeF ks
def sizeF : List (T N) → Nat
  | [] => 0
  | t :: ts => sizeT t + sizeF ts
end
mutual
def preT : T N → List N
  | .node n _ ks => n :: preF ks
def preF : List (T N) → List N
  | [] => []
  | t :: ts => preT t ++ preF ts
end

/-! ### forests of good people -/
/-- a suffix tells the forest of a name ahead of which nobody stands below it -/
theorem forest_skip (x : N) : ∀ (pre r : List (P N)), (∀ p ∈ pre, p.2.1 ≠ x) → forest (pre ++ r) x = forest r x
  | [], _, _ => rfl
  | p :: pre, r, h => by
    show (if p.2.1 = x then _ else _) = _
    rw [if_neg (h p (by simp))]
    exact forest_skip x pre r fun q hq => h q (by simp [hq])

theorem GoodP.above {b : N} {ps : List (P N)} (h : GoodP b ps) {pre : List (P N)} {p : P N} {post : List (P N)} (e : ps = pre ++ p :: post) : ∀ q ∈ pre ++ [p], q.2.1 ≠ p.1 := by
  intro q hq hqe
  -- q stands in pre ++ [p]
  obtain ⟨a, c, hac⟩ := List.append_of_mem hq
  have e2 : ps = a ++ q :: (c ++ post) := by rw [e, show pre ++ p :: post = (pre ++ [p]) ++ post by simp, hac]; simp
  have nd := h.nd
  rw [List.nodup_cons] at nd
  rcases h.up a q (c ++ post) e2 with z | z
  · apply nd.1
    rw [← z, hqe, e]; simp
  · rw [hqe] at z
    -- p.1 in names of a, yet p stands behind
    have : ps.map (·.1) = (a.map (·.1)) ++ (q.1 :: (c.map (·.1)) ++ post.map (·.1)) := by rw [e2]; simp
    have e3 : ps.map (·.1) = pre.map (·.1) ++ p.1 :: post.map (·.1) := by rw [e]; simp
    have nd2 := nd.2
    rw [e3] at nd2
    have hn : p.1 ∉ pre.map (·.1) := by
      intro hm
      rw [List.nodup_append] at nd2
      exact nd2.2.2 _ hm _ (by simp) rfl
    -- a is a prefix of pre
    have hp : a <+: pre := by
      have : a ++ q :: c = pre ++ [p] := hac.symm
      have h1 : a <+: pre ++ [p] := ⟨q :: c, this⟩
      rcases List.prefix_concat_iff.mp h1 with z | z
      · rw [z] at this
        have := congrArg List.length this
        simp at this
      · exact z
    obtain ⟨t, ht⟩ := hp
    apply hn
    rw [← ht]; simp only [List.map_append, List.mem_append]
    exact .inl z

theorem forest_eq_aux {b : N} {ps : List (P N)} (h : GoodP b ps) (x : N) : ∀ (pre r : List (P N)), ps = pre ++ r → forest r x = (r.filter (fun p => p.2.1 = x)).map fun p => .node p.1 p.2.2 (forest ps p.1)
  | _, [], _ => rfl
  | pre, p :: r, e => by
    have ih := forest_eq_aux h x (pre ++ [p]) r (by rw [e]; simp)
    show (if p.2.1 = x then _ else _) = _
    have hp : forest ps p.1 = forest r p.1 := by
      conv => lhs; rw [e, show pre ++ p :: r = (pre ++ [p]) ++ r by simp]
      exact forest_skip _ _ _ (h.above e)
    by_cases hx : p.2.1 = x
    · rw [if_pos hx, List.filter_cons_of_pos (by simpa using hx), List.map_cons, ih, hp]
    · rw [if_neg hx, List.filter_cons_of_neg (by simpa using hx), ih]
theorem forest_eq {b : N} {ps : List (P N)} (h : GoodP b ps) (x : N) : forest ps x = (ps.filter (fun p => p.2.1 = x)).map fun p => .node p.1 p.2.2 (forest ps p.1) := forest_eq_aux h x [] ps rfl

/-! ### everybody stands in the forest once -/
theorem preF_append : ∀ (a c : List (T N)), preF (a ++ c) = preF a ++ preF c
  | [], _ => rfl
  | t :: a, c => by
    show preT t ++ preF (a ++ c) = (preT t ++ preF a) ++ preF c
    rw [preF_append a c, List.append_assoc]
mutual
theorem len_preT : ∀ t : T N, (preT t).length = sizeT t
  | .node n _ ks => by
    show (n :: preF ks).length = 1 + sizeF ks
    rw [List.length_cons, len_preF ks, Nat.add_comm]
theorem len_preF : ∀ ts : List (T N), (preF ts).length = sizeF ts
  | [] => rfl
  | t :: ts => by
    show (preT t ++ preF ts).length = sizeT t + sizeF ts
    rw [List.length_append, len_preT t, len_preF ts]
end
/-- one place of a row of lists is longer by l ahead -/
theorem flat_pull {c : N} {l : List N} {F G : N → List N} : ∀ {xs : List N}, xs.Nodup → c ∈ xs → (∀ x ∈ xs, x ≠ c → F x = G x) → F c = l ++ G c → (xs.flatMap F).Perm (l ++ xs.flatMap G)
  | [], _, h, _, _ => by cases h
  | y :: xs, nd, h, hne, hc => by
    rw [List.nodup_cons] at nd
    rw [List.flatMap_cons, List.flatMap_cons]
    by_cases hy : y = c
    · subst hy
      have e : xs.flatMap F = xs.flatMap G := by
        rw [List.flatMap_def, List.flatMap_def]
        congr 1
        apply List.map_congr_left
        intro x hx
        exact hne x (by simp [hx]) (fun z => nd.1 (z ▸ hx))
      rw [hc, e, List.append_assoc]
    · have hm : c ∈ xs := by
        rcases List.mem_cons.mp h with z | z
        · exact absurd z.symm hy
        · exact z
      rw [hne y (by simp) hy]
      have ih := flat_pull (l := l) nd.2 hm (fun x hx => hne x (by simp [hx])) hc
      refine (List.Perm.append_left _ ih).trans ?_
      rw [← List.append_assoc, ← List.append_assoc]
      exact List.Perm.append_right _ List.perm_append_comm
theorem forests_all : ∀ (r : List (P N)) (xs : List N), (xs ++ r.map (·.1)).Nodup → (∀ pre p post, r = pre ++ p :: post → p.2.1 ∈ xs ∨ p.2.1 ∈ pre.map (·.1)) → (xs.flatMap fun x => preF (forest r x)).Perm (r.map (·.1))
  | [], xs, _, _ => by
    have : (xs.flatMap fun x => preF (forest ([] : List (P N)) x)) = [] := by
      rw [List.flatMap_eq_nil_iff]; intro x _; rfl
    rw [this]; exact List.Perm.nil
  | p :: r, xs, nd, up => by
    have hc : p.2.1 ∈ xs := by
      rcases up [] p r rfl with z | z
      · exact z
      · cases z
    have nd' : ((p.1 :: xs) ++ r.map (·.1)).Nodup := by
      have : (xs ++ p.1 :: r.map (·.1)).Perm (p.1 :: xs ++ r.map (·.1)) := List.perm_middle
      exact this.nodup_iff.mp nd
    have up' : ∀ pre q post, r = pre ++ q :: post → q.2.1 ∈ p.1 :: xs ∨ q.2.1 ∈ pre.map (·.1) := by
      intro pre q post e
      rcases up (p :: pre) q post (by rw [e]; rfl) with z | z
      · exact .inl (by simp [z])
      · rcases List.mem_cons.mp z with z | z
        · exact .inl (by simp [z])
        · exact .inr z
    have ih := forests_all r (p.1 :: xs) nd' up'
    have ndx : xs.Nodup := (List.nodup_append.mp nd).1
    have key := flat_pull (l := p.1 :: preF (forest r p.1)) (F := fun x => preF (forest (p :: r) x)) (G := fun x => preF (forest r x)) ndx hc ?_ ?_
    · refine key.trans ?_
      rw [List.map_cons]
      exact List.Perm.cons _ (by simpa using ih)
    · intro x _ hx
      show preF (if p.2.1 = x then _ else _) = _
      rw [if_neg (Ne.symm hx)]
    · show preF (if p.2.1 = p.2.1 then _ else _) = _
      rw [if_pos rfl]
      rfl
theorem GoodP.perm {b : N} {ps : List (P N)} (h : GoodP b ps) : (preF (forest ps b)).Perm (ps.map (·.1)) := by
  have := forests_all ps [b] h.nd (fun pre p post e => by
    rcases h.up pre p post e with z | z
    · exact .inl (by simp [z])
    · exact .inr z)
  simpa using this
theorem GoodP.pre_nd {b : N} {ps : List (P N)} (h : GoodP b ps) : (b :: preF (forest ps b)).Nodup := (List.Perm.cons b h.perm).nodup_iff.mpr h.nd
theorem GoodP.size {b : N} {ps : List (P N)} (h : GoodP b ps) : sizeF (forest ps b) = ps.length := by
  rw [← len_preF, h.perm.length_eq, List.length_map]

/-! ### the calls: callers, begins, ends -/
section
variable {aw : N → Bool} {wait deep : Int}
/-- what is known of a row of calls by x and those in ns, from m to m' -/
structure RingRow (x : N) (ns : List N) (m m' : Int) (cs : List (Cl N)) : Prop where
  le : m ≤ m'
  by_ : ∀ c ∈ cs, c.2.2.1 = x ∧ c.2.1 ≤ m' ∨ c.2.2.1 ∈ ns
  to_ : ∀ c ∈ cs, c.2.2.2.1 ∈ ns
  from_ : ∀ c ∈ cs, m ≤ c.1 ∧ c.1 < c.2.1
  nd : cs.Pairwise fun c d => (c.1, c.2.2.1) ≠ (d.1, d.2.2.1)
/-- talks are at least one minute -/
inductive Talks : List (T N) → Prop
  | nil : Talks []
  | cons {n : N} {t : Int} {ks ts : List (T N)} : 1 ≤ t → Talks ks → Talks ts → Talks (.node n t ks :: ts)
theorem RingRow.nil {x : N} {m : Int} : RingRow x ([] : List N) m m [] := ⟨Int.le_refl _, fun c h => (by cases h), fun c h => (by cases h), fun c h => (by cases h), List.Pairwise.nil⟩
theorem RingRow.app {x : N} {ns ns' : List N} {m m' m'' : Int} {cs cs' : List (Cl N)} (h : RingRow x ns m m' cs) (h' : RingRow x ns' m' m'' cs') (nd : (x :: (ns ++ ns')).Nodup) : RingRow x (ns ++ ns') m m'' (cs ++ cs') := by
  refine ⟨Int.le_trans h.le h'.le, fun c hc => ?_, fun c hc => ?_, fun c hc => ?_, ?_⟩
  · rcases List.mem_append.mp hc with z | z
    · rcases h.by_ c z with ⟨q, l⟩ | q
      · exact .inl ⟨q, Int.le_trans l h'.le⟩
      · exact .inr (by simp [q])
    · rcases h'.by_ c z with q | q
      · exact .inl q
      · exact .inr (by simp [q])
  · rcases List.mem_append.mp hc with z | z
    · exact List.mem_append.mpr (.inl (h.to_ c z))
    · exact List.mem_append.mpr (.inr (h'.to_ c z))
  · rcases List.mem_append.mp hc with z | z
    · exact h.from_ c z
    · exact ⟨Int.le_trans h.le (h'.from_ c z).1, (h'.from_ c z).2⟩
  · rw [List.pairwise_append]
    refine ⟨h.nd, h'.nd, fun c hc d hd e => ?_⟩
    rw [Prod.mk.injEq] at e
    rw [List.nodup_cons, List.nodup_append] at nd
    obtain ⟨nx, _, _, dj⟩ := nd
    rcases h.by_ c hc with ⟨z, l⟩ | z <;> rcases h'.by_ d hd with ⟨z', _⟩ | z'
    · have h1 := (h.from_ c hc).2
      have h2 := (h'.from_ d hd).1
      omega
    · apply nx; rw [← z, e.2]; simp [z']
    · apply nx; rw [← z', ← e.2]; simp [z]
    · exact dj _ z _ (e.2 ▸ z') rfl
mutual
theorem rowT (hw : 1 ≤ wait) : ∀ (t : T N) (x : N) (rows m : Int), Talks [t] → (x :: preT t).Nodup → RingRow x (preT t) m (ringT aw wait deep x rows m t).2 (ringT aw wait deep x rows m t).1
  | .node n talk ks, x, rows, m, ht, nd => by
    cases ht with
    | cons h1 hk _ =>
    have nd : (x :: n :: preF ks).Nodup := nd
    have ndk : (n :: preF ks).Nodup := (List.nodup_cons.mp nd).2
    have ndx : (x :: preF ks).Nodup := List.nodup_cons.mpr ⟨fun z => (List.nodup_cons.mp nd).1 (by simp [z]), (List.nodup_cons.mp ndk).2⟩
    have xn : x ≠ n := fun z => (List.nodup_cons.mp nd).1 (by simp [z])
    unfold ringT
    split
    · split
      · refine ⟨by dsimp only; omega, fun c hc => ?_, fun c hc => ?_, fun c hc => ?_, List.pairwise_singleton _ _⟩
        · rw [List.mem_singleton] at hc; subst hc; exact .inl ⟨rfl, Int.le_refl _⟩
        · rw [List.mem_singleton] at hc; subst hc; simp [preT]
        · rw [List.mem_singleton] at hc; subst hc; exact ⟨Int.le_refl _, by dsimp only; omega⟩
      · have r := rowF hw ks x (max 0 (rows - 1)) (m + wait) hk ndx
        refine ⟨by have := r.le; dsimp only; omega, fun c hc => ?_, fun c hc => ?_, fun c hc => ?_, ?_⟩
        · rcases List.mem_cons.mp hc with z | z
          · subst z; exact .inl ⟨rfl, r.le⟩
          · rcases r.by_ c z with q | q
            · exact .inl q
            · exact .inr (by simp [preT, q])
        · rcases List.mem_cons.mp hc with z | z
          · subst z; simp [preT]
          · have := r.to_ c z; simp [preT, this]
        · rcases List.mem_cons.mp hc with z | z
          · subst z; exact ⟨Int.le_refl _, by dsimp only; omega⟩
          · have := r.from_ c z; omega
        · refine List.pairwise_cons.mpr ⟨fun d hd e => ?_, r.nd⟩
          rw [Prod.mk.injEq] at e
          have := (r.from_ d hd).1
          have e1 : m = d.1 := e.1
          omega
    · have r := rowF hw ks n deep (m + talk) hk ndk
      refine ⟨by dsimp only; omega, fun c hc => ?_, fun c hc => ?_, fun c hc => ?_, ?_⟩
      · rcases List.mem_cons.mp hc with z | z
        · subst z; exact .inl ⟨rfl, Int.le_refl _⟩
        · rcases r.by_ c z with q | q
          · exact .inr (by simp [preT, q.1])
          · exact .inr (by simp [preT, q])
      · rcases List.mem_cons.mp hc with z | z
        · subst z; simp [preT]
        · have := r.to_ c z; simp [preT, this]
      · rcases List.mem_cons.mp hc with z | z
        · subst z; exact ⟨Int.le_refl _, by dsimp only; omega⟩
        · have := r.from_ c z; omega
      · refine List.pairwise_cons.mpr ⟨fun d hd e => ?_, r.nd⟩
        rw [Prod.mk.injEq] at e
        have := (r.from_ d hd).1
        have e1 : m = d.1 := e.1
        omega
theorem rowF (hw : 1 ≤ wait) : ∀ (ts : List (T N)) (x : N) (rows m : Int), Talks ts → (x :: preF ts).Nodup → RingRow x (preF ts) m (ringF aw wait deep x rows m ts).2 (ringF aw wait deep x rows m ts).1
  | [], x, rows, m, _, _ => by unfold ringF; exact RingRow.nil
  | .node n tk ks :: ts, x, rows, m, ht, nd => by
    cases ht with
    | cons h1 hk hts =>
    have nd : (x :: (preT (.node n tk ks) ++ preF ts)).Nodup := nd
    have nd1 : (x :: preT (.node n tk ks)).Nodup := by
      rw [List.nodup_cons, List.nodup_append] at nd
      exact List.nodup_cons.mpr ⟨fun z => nd.1 (List.mem_append.mpr (.inl z)), nd.2.1⟩
    have nd2 : (x :: preF ts).Nodup := by
      rw [List.nodup_cons, List.nodup_append] at nd
      exact List.nodup_cons.mpr ⟨fun z => nd.1 (List.mem_append.mpr (.inr z)), nd.2.2.1⟩
    have r1 := rowT hw (.node n tk ks) x rows m (.cons h1 hk .nil) nd1
    unfold ringF
    exact r1.app (rowF hw ts x rows _ hts nd2) nd
end
/-! ### how many calls, how late -/
mutual
theorem lenT : ∀ (t : T N) (x : N) (rows m : Int), (ringT aw wait deep x rows m t).1.length ≤ sizeT t
  | .node n talk ks, x, rows, m => by
    unfold ringT sizeT
    split
    · split
      · simp only [List.length_singleton]; omega
      · have := lenF ks x (max 0 (rows - 1)) (m + wait)
        simp only [List.length_cons]; omega
    · have := lenF ks n deep (m + talk)
      simp only [List.length_cons]; omega
theorem lenF : ∀ (ts : List (T N)) (x : N) (rows m : Int), (ringF aw wait deep x rows m ts).1.length ≤ sizeF ts
  | [], x, rows, m => by unfold ringF sizeF; simp
  | t :: ts, x, rows, m => by
    have h1 := lenT t x rows m
    have h2 := lenF ts x rows (ringT aw wait deep x rows m t).2
    unfold ringF sizeF
    simp only [List.length_append]; omega
end
theorem ringF_cons (x : N) (rows m : Int) (t : T N) (ts : List (T N)) : ringF aw wait deep x rows m (t :: ts) = ((ringT aw wait deep x rows m t).1 ++ (ringF aw wait deep x rows (ringT aw wait deep x rows m t).2 ts).1, (ringF aw wait deep x rows (ringT aw wait deep x rows m t).2 ts).2) := by rw [ringF]
theorem sizeF_cons (t : T N) (ts : List (T N)) : sizeF (t :: ts) = sizeT t + sizeF ts := by rw [sizeF]
/-- a line: trees with the rows that are left -/
def ringL (aw : N → Bool) (wait deep : Int) (x : N) : Int → List (T N × Int) → List (Cl N)
  | _, [] => []
  | m, (t, r) :: l => (ringT aw wait deep x r m t).1 ++ ringL aw wait deep x (ringT aw wait deep x r m t).2 l
def sizeL : List (T N × Int) → Nat
  | [] => 0
  | (t, _) :: l => sizeT t + sizeL l
theorem ringL_app (x : N) (rows : Int) : ∀ (ts : List (T N)) (m : Int) (l : List (T N × Int)), ringL aw wait deep x m (ts.map (fun t => (t, rows)) ++ l) = (ringF aw wait deep x rows m ts).1 ++ ringL aw wait deep x (ringF aw wait deep x rows m ts).2 l
  | [], m, l => by unfold ringF; rfl
  | t :: ts, m, l => by
    rw [List.map_cons, List.cons_append]
    show (ringT aw wait deep x rows m t).1 ++ ringL aw wait deep x _ _ = _
    rw [ringL_app x rows ts, ringF_cons, List.append_assoc]
theorem sizeL_app (rows : Int) : ∀ (ts : List (T N)) (l : List (T N × Int)), sizeL (ts.map (fun t => (t, rows)) ++ l) = sizeF ts + sizeL l
  | [], l => by unfold sizeF; simp
  | t :: ts, l => by
    rw [List.map_cons, List.cons_append]
    show sizeT t + sizeL _ = _
    rw [sizeL_app rows ts, sizeF_cons]; omega
theorem sizeL_len : ∀ (l : List (T N × Int)), l.length ≤ sizeL l
  | [] => Nat.le_refl _
  | (t, r) :: l => by
    have := sizeL_len l
    have h : 1 ≤ sizeT t := by cases t; unfold sizeT; omega
    show l.length + 1 ≤ sizeT t + sizeL l
    omega
/-- ends are no later than most minutes each -/
inductive TalksLe (most : Int) : List (T N) → Prop
  | nil : TalksLe most []
  | cons {n : N} {t : Int} {ks ts : List (T N)} : t ≤ most → TalksLe most ks → TalksLe most ts → TalksLe most (.node n t ks :: ts)
mutual
theorem lateT {most : Int} (h0 : 0 ≤ most) (hw : wait ≤ most) : ∀ (t : T N) (x : N) (rows m : Int), TalksLe most [t] → (∀ c ∈ (ringT aw wait deep x rows m t).1, c.2.1 ≤ m + most * sizeT t) ∧ (ringT aw wait deep x rows m t).2 ≤ m + most * sizeT t
  | .node n talk ks, x, rows, m, ht => by
    cases ht with
    | cons h1 hk _ =>
    have hs : most * ((sizeT (T.node n talk ks) : Nat) : Int) = most + most * (sizeF ks : Nat) := by unfold sizeT; rw [Int.natCast_add, Int.mul_add]; simp
    have h2 : 0 ≤ most * ((sizeF ks : Nat) : Int) := Int.mul_nonneg h0 (by omega)
    rw [hs]
    unfold ringT
    split
    · split
      · refine ⟨fun c hc => ?_, by dsimp only; omega⟩
        rw [List.mem_singleton] at hc; subst hc; dsimp only; omega
      · have := lateF h0 hw ks x (max 0 (rows - 1)) (m + wait) hk
        refine ⟨fun c hc => ?_, by dsimp only; omega⟩
        rcases List.mem_cons.mp hc with z | z
        · subst z; dsimp only; omega
        · have := this.1 c z; omega
    · have := lateF h0 hw ks n deep (m + talk) hk
      refine ⟨fun c hc => ?_, by dsimp only; omega⟩
      rcases List.mem_cons.mp hc with z | z
      · subst z; dsimp only; omega
      · have := this.1 c z; omega
theorem lateF {most : Int} (h0 : 0 ≤ most) (hw : wait ≤ most) : ∀ (ts : List (T N)) (x : N) (rows m : Int), TalksLe most ts → (∀ c ∈ (ringF aw wait deep x rows m ts).1, c.2.1 ≤ m + most * sizeF ts) ∧ (ringF aw wait deep x rows m ts).2 ≤ m + most * sizeF ts
  | [], x, rows, m, _ => by
    unfold ringF sizeF
    exact ⟨fun c hc => (by cases hc), by simp⟩
  | .node n tk ks :: ts, x, rows, m, ht => by
    cases ht with
    | cons h1 hk hts =>
    have a := lateT h0 hw (.node n tk ks) x rows m (.cons h1 hk .nil)
    have b := lateF h0 hw ts x rows (ringT aw wait deep x rows m (.node n tk ks)).2 hts
    have hs : most * ((sizeF (T.node n tk ks :: ts) : Nat) : Int) = most * (sizeT (T.node n tk ks) : Nat) + most * (sizeF ts : Nat) := by
      conv => lhs; unfold sizeF
      rw [Int.natCast_add, Int.mul_add]
    have h2 : 0 ≤ most * ((sizeF ts : Nat) : Int) := Int.mul_nonneg h0 (by omega)
    rw [hs]
    unfold ringF
    refine ⟨fun c hc => ?_, by have := b.2; have := a.2; dsimp only; omega⟩
    rcases List.mem_append.mp hc with z | z
    · have := a.1 c z; omega
    · have := b.1 c z; have := a.2; omega
end
/-- who is in a forest of people -/
theorem talks_forest {P : Int → Prop} (R : List (T N) → Prop) (h0 : R []) (h1 : ∀ n t ks ts, P t → R ks → R ts → R (.node n t ks :: ts)) : ∀ (ps : List (Ring.P N)) (x : N), (∀ p ∈ ps, P p.2.2) → R (forest ps x)
  | [], _, _ => h0
  | p :: r, x, h => by
    have i1 := talks_forest R h0 h1 r
    unfold forest
    split
    · exact h1 _ _ _ _ (h p (by simp)) (i1 _ fun q hq => h q (by simp [hq])) (i1 _ fun q hq => h q (by simp [hq]))
    · exact i1 _ fun q hq => h q (by simp [hq])
end
end Ring
-- part Sp1
set_option Elab.async false
set_option linter.all false
set_option maxRecDepth 100000
set_option maxHeartbeats 4000000
set_option autoImplicit false
/-! Sp1: what the first defs come to: words, trees, who is away. -/
namespace G
open PySem PySem.Spec Rd L2
/-! ### encodings -/
abbrev Pe := Ring.P Str
def pD (p : Pe) : D := .tup [.str p.1, .str p.2.1, .int p.2.2]
def treeD (w d : Int) (ps : List Pe) : D := .tup [.int w, .int d, .tup (ps.map pD)]
def namesD (xs : List Str) : D := .tup (xs.map .str)
def callD (c : Ring.Cl Str) : D := .tup [.int c.1, .int c.2.1, .str c.2.2.1, .str c.2.2.2.1, .bl c.2.2.2.2]
def letters : List Nat := ("abcdefghijklmnopqrstuvwxyz" : Str).cps.toList
def isName (x : Str) : Bool := decide (1 ≤ x.length) && decide (x.length ≤ 8) && x.cps.toList.all fun c => decide (c ∈ letters)
structure TreeOk (w d : Int) (ps : List Pe) : Prop where
  w : 1 ≤ w ∧ w ≤ 60
  d : 0 ≤ d ∧ d ≤ 4
  n : ps.length ≤ 16
  nm : ∀ p ∈ ps, isName p.1 = true
  tk : ∀ p ∈ ps, 1 ≤ p.2.2 ∧ p.2.2 ≤ 60
  good : Ring.GoodP (("" : Str)) ps
/-! ### words -/
theorem is_whole_int (C : Call) (i : Int) (st : St) : f_is_whole C [.int i] ⟨[], st⟩ = .ok (0, .bl true) ⟨[], st⟩ := run_eq ⟨rfl, rfl⟩
def IsWhole (f : List D → S → R (Nat × D)) : Prop := ∀ (i : Int) (st : St), f [.int i] ⟨[], st⟩ = .ok (0, .bl true) ⟨[], st⟩
def IsAmong (f : List D → S → R (Nat × D)) : Prop := ∀ (i a b : Int) (st : St), f [.int i, .int a, .int b] ⟨[], st⟩ = .ok (0, .bl (decide (a ≤ i ∧ i ≤ b))) ⟨[], st⟩
theorem is_among_sp (C : Call) (h : IsWhole (C "is_whole")) : IsAmong (f_is_among C) := by
  intro i a b st
  refine run_eq ?_
  unfold m_is_among
  simp only [sSeq_eq, seq_nx', seq_rt', seq_bk', seq_ct', bind_ok', then_ok', opt_some', toB_ok', eCall_eq, back_ok', eCallL_eq, looksL_some, sNil, sBreak, sCont, sExpr, sRet, sRetN, sIf, sSet, sAsg, sPar2, par2K, sPar3, par3K, sFor, sAppend, sExtend, sDPut, storeK, sSubApp, eOf, eV, oV, eC, eVar, oVar, eTup, eLst, vsNil, vsCons, osNil, osCons, lsNil, lsCons, eOp, binD, cmpP, cm_eq_str, cm_ne_str, cm_eq_int, cm_ne_int, cm_lt, cm_le, cm_gt, cm_ge, cm_slt, cm_sle, cm_is, cm_isnot, cm_in_tup, cm_nin_tup, cm_in_lst, cm_nin_lst, cm_in_dct, cm_nin_dct, cm_in_str, cm_ne_nn, cm_eq_nn, Nat.le_refl, Nat.zero_le, Nat.reduceLeDiff, big_0, seqIx_0, pop_last, drop_last, max2, eSortK, atI_0, atI_1, atI_2, atI_3, atI_4, tCmp, tChain2, eT, tAnd2, tOr2, tNot1, bOf, eAnd2, eOr2, eNot1, eIf, truD, tTru, eSub, S.flat, S.look, S.looks, S.deref, subD, pNone, pSome, eSlice, sliceD, eRev, eCallB, iVal, itemsD, iRange1, iRange2, iEnumM, gVar, gsNil, gsCons, gTupM, eLc, lc1, for1, tTrue, S.wipe, wipeE, ePop, ePopAt, S.isList, S.bound, eMove, capL, eIsi, D.isT, eDict0, eDisp, eDispL, eCell, psNil, psCons, D.key, isNon_non, isNon_int, isNon_str, isNon_tup, isNon_lst, isNon_bl, isNon_dct, Option.map, Option.bind, List.getElem?_cons_zero, List.getElem?_cons_succ, List.set_cons_zero, List.set_cons_succ, List.map_cons, List.map_nil, List.length_cons, List.length_nil, List.replicate_succ, List.replicate_zero, List.cons_append, List.nil_append, List.append_nil, Nat.reduceSub, Nat.reduceAdd, Nat.reduceEqDiff, decide_true, decide_false, if_true, if_false, ite_true, ite_false, reduceIte, Bool.false_eq_true, Nat.reduceLT, Nat.zero_lt_succ, Nat.lt_add_one, Nat.zero_add, true_and, and_true, or_true, true_or, false_and, and_false, false_or, or_false, Bool.not_true, Bool.not_false, Nat.succ_lt_succ_iff, Nat.add_lt_add_iff_right, beq_self_eq_true, String.reduceBEq, Bool.or_true, Bool.true_or, Bool.or_false, Bool.false_or, Bool.and_true, Bool.true_and, Bool.and_false, Bool.false_and, Int.cast_ofNat_Int, Int.reduceBEq, Int.reduceLT, Int.reduceLE, Int.reduceAdd, Int.reduceSub, Int.reduceMul, Int.reduceNeg, Int.natCast_zero, Int.natCast_one, sz_0, sz_1, sz_2, sz_3, sz_4, sz_5, sz_6, sz_7, sz_8, sz_9, sz_10, sz_11, sz_12, sz_13, sz_14, sz_15, sz_16, h i st]
  by_cases h1 : a ≤ i
  · simp only [sSeq_eq, seq_nx', seq_rt', seq_bk', seq_ct', bind_ok', then_ok', opt_some', toB_ok', eCall_eq, back_ok', eCallL_eq, looksL_some, sNil, sBreak, sCont, sExpr, sRet, sRetN, sIf, sSet, sAsg, sPar2, par2K, sPar3, par3K, sFor, sAppend, sExtend, sDPut, storeK, sSubApp, eOf, eV, oV, eC, eVar, oVar, eTup, eLst, vsNil, vsCons, osNil, osCons, lsNil, lsCons, eOp, binD, cmpP, cm_eq_str, cm_ne_str, cm_eq_int, cm_ne_int, cm_lt, cm_le, cm_gt, cm_ge, cm_slt, cm_sle, cm_is, cm_isnot, cm_in_tup, cm_nin_tup, cm_in_lst, cm_nin_lst, cm_in_dct, cm_nin_dct, cm_in_str, cm_ne_nn, cm_eq_nn, Nat.le_refl, Nat.zero_le, Nat.reduceLeDiff, big_0, seqIx_0, pop_last, drop_last, max2, eSortK, atI_0, atI_1, atI_2, atI_3, atI_4, tCmp, tChain2, eT, tAnd2, tOr2, tNot1, bOf, eAnd2, eOr2, eNot1, eIf, truD, tTru, eSub, S.flat, S.look, S.looks, S.deref, subD, pNone, pSome, eSlice, sliceD, eRev, eCallB, iVal, itemsD, iRange1, iRange2, iEnumM, gVar, gsNil, gsCons, gTupM, eLc, lc1, for1, tTrue, S.wipe, wipeE, ePop, ePopAt, S.isList, S.bound, eMove, capL, eIsi, D.isT, eDict0, eDisp, eDispL, eCell, psNil, psCons, D.key, isNon_non, isNon_int, isNon_str, isNon_tup, isNon_lst, isNon_bl, isNon_dct, Option.map, Option.bind, List.getElem?_cons_zero, List.getElem?_cons_succ, List.set_cons_zero, List.set_cons_succ, List.map_cons, List.map_nil, List.length_cons, List.length_nil, List.replicate_succ, List.replicate_zero, List.cons_append, List.nil_append, List.append_nil, Nat.reduceSub, Nat.reduceAdd, Nat.reduceEqDiff, decide_true, decide_false, if_true, if_false, ite_true, ite_false, reduceIte, Bool.false_eq_true, Nat.reduceLT, Nat.zero_lt_succ, Nat.lt_add_one, Nat.zero_add, true_and, and_true, or_true, true_or, false_and, and_false, false_or, or_false, Bool.not_true, Bool.not_false, Nat.succ_lt_succ_iff, Nat.add_lt_add_iff_right, beq_self_eq_true, String.reduceBEq, Bool.or_true, Bool.true_or, Bool.or_false, Bool.false_or, Bool.and_true, Bool.true_and, Bool.and_false, Bool.false_and, Int.cast_ofNat_Int, Int.reduceBEq, Int.reduceLT, Int.reduceLE, Int.reduceAdd, Int.reduceSub, Int.reduceMul, Int.reduceNeg, Int.natCast_zero, Int.natCast_one, sz_0, sz_1, sz_2, sz_3, sz_4, sz_5, sz_6, sz_7, sz_8, sz_9, sz_10, sz_11, sz_12, sz_13, sz_14, sz_15, sz_16, decide_eq_true h1, h1]; exact ⟨rfl, rfl⟩
  · simp only [sSeq_eq, seq_nx', seq_rt', seq_bk', seq_ct', bind_ok', then_ok', opt_some', toB_ok', eCall_eq, back_ok', eCallL_eq, looksL_some, sNil, sBreak, sCont, sExpr, sRet, sRetN, sIf, sSet, sAsg, sPar2, par2K, sPar3, par3K, sFor, sAppend, sExtend, sDPut, storeK, sSubApp, eOf, eV, oV, eC, eVar, oVar, eTup, eLst, vsNil, vsCons, osNil, osCons, lsNil, lsCons, eOp, binD, cmpP, cm_eq_str, cm_ne_str, cm_eq_int, cm_ne_int, cm_lt, cm_le, cm_gt, cm_ge, cm_slt, cm_sle, cm_is, cm_isnot, cm_in_tup, cm_nin_tup, cm_in_lst, cm_nin_lst, cm_in_dct, cm_nin_dct, cm_in_str, cm_ne_nn, cm_eq_nn, Nat.le_refl, Nat.zero_le, Nat.reduceLeDiff, big_0, seqIx_0, pop_last, drop_last, max2, eSortK, atI_0, atI_1, atI_2, atI_3, atI_4, tCmp, tChain2, eT, tAnd2, tOr2, tNot1, bOf, eAnd2, eOr2, eNot1, eIf, truD, tTru, eSub, S.flat, S.look, S.looks, S.deref, subD, pNone, pSome, eSlice, sliceD, eRev, eCallB, iVal, itemsD, iRange1, iRange2, iEnumM, gVar, gsNil, gsCons, gTupM, eLc, lc1, for1, tTrue, S.wipe, wipeE, ePop, ePopAt, S.isList, S.bound, eMove, capL, eIsi, D.isT, eDict0, eDisp, eDispL, eCell, psNil, psCons, D.key, isNon_non, isNon_int, isNon_str, isNon_tup, isNon_lst, isNon_bl, isNon_dct, Option.map, Option.bind, List.getElem?_cons_zero, List.getElem?_cons_succ, List.set_cons_zero, List.set_cons_succ, List.map_cons, List.map_nil, List.length_cons, List.length_nil, List.replicate_succ, List.replicate_zero, List.cons_append, List.nil_append, List.append_nil, Nat.reduceSub, Nat.reduceAdd, Nat.reduceEqDiff, decide_true, decide_false, if_true, if_false, ite_true, ite_false, reduceIte, Bool.false_eq_true, Nat.reduceLT, Nat.zero_lt_succ, Nat.lt_add_one, Nat.zero_add, true_and, and_true, or_true, true_or, false_and, and_false, false_or, or_false, Bool.not_true, Bool.not_false, Nat.succ_lt_succ_iff, Nat.add_lt_add_iff_right, beq_self_eq_true, String.reduceBEq, Bool.or_true, Bool.true_or, Bool.or_false, Bool.false_or, Bool.and_true, Bool.true_and, Bool.and_false, Bool.false_and, Int.cast_ofNat_Int, Int.reduceBEq, Int.reduceLT, Int.reduceLE, Int.reduceAdd, Int.reduceSub, Int.reduceMul, Int.reduceNeg, Int.natCast_zero, Int.natCast_one, sz_0, sz_1, sz_2, sz_3, sz_4, sz_5, sz_6, sz_7, sz_8, sz_9, sz_10, sz_11, sz_12, sz_13, sz_14, sz_15, sz_16, decide_eq_false h1, h1, false_and]; exact ⟨rfl, rfl⟩
def IsNameS (f : List D → S → R (Nat × D)) : Prop := ∀ (x : Str) (st : St), x.length ≤ 1000000 → f [.str x] ⟨[], st⟩ = .ok (0, .bl (isName x)) ⟨[], st⟩
theorem blsOf_map : ∀ (l : List Bool), blsOf (l.map D.bl) = some l
  | [] => rfl
  | b :: l => by simp [blsOf, blsOf_map l]
theorem cps1 (c : Nat) : (Str.mk #[c]).cps.toList = [c] := rfl
theorem is_name_sp (C : Call) : IsNameS (f_is_name C) := by
  intro x st hz
  refine run_eq ?_
  unfold m_is_name
  by_cases hl : x.length ≤ 8
  · have e8 : ((x.length : Nat) : Int) ≤ 8 := by omega
    by_cases h1 : 1 ≤ x.length
    · have e1 : (1 : Int) ≤ ((x.length : Nat) : Int) := by omega
      have hx : x.cps.toList.length ≤ 8 := by simpa [Str.length] using hl
      have key := lcM_map (own := [1]) (g := gVar 1) (t := tTrue) (m := eV (eCmp .In (oVar 1) (oV (eC (.str "abcdefghijklmnopqrstuvwxyz"))))) (s := ⟨[some (0, .str x), none], st⟩) (fun c => D.str ⟨#[c]⟩) (fun c => .bl (decide (c ∈ letters))) x.cps.toList (by omega) (fun c _ => by
        simp only [sSeq_eq, seq_nx', seq_rt', seq_bk', seq_ct', bind_ok', then_ok', opt_some', toB_ok', eCall_eq, back_ok', eCallL_eq, looksL_some, sNil, sBreak, sCont, sExpr, sRet, sRetN, sIf, sSet, sAsg, sPar2, par2K, sPar3, par3K, sFor, sAppend, sExtend, sDPut, storeK, sSubApp, eOf, eV, oV, eC, eVar, oVar, eTup, eLst, vsNil, vsCons, osNil, osCons, lsNil, lsCons, eOp, binD, cmpP, cm_eq_str, cm_ne_str, cm_eq_int, cm_ne_int, cm_lt, cm_le, cm_gt, cm_ge, cm_slt, cm_sle, cm_is, cm_isnot, cm_in_tup, cm_nin_tup, cm_in_lst, cm_nin_lst, cm_in_dct, cm_nin_dct, cm_in_str, cm_ne_nn, cm_eq_nn, Nat.le_refl, Nat.zero_le, Nat.reduceLeDiff, big_0, seqIx_0, pop_last, drop_last, max2, eSortK, atI_0, atI_1, atI_2, atI_3, atI_4, tCmp, tChain2, eT, tAnd2, tOr2, tNot1, bOf, eAnd2, eOr2, eNot1, eIf, truD, tTru, eSub, S.flat, S.look, S.looks, S.deref, subD, pNone, pSome, eSlice, sliceD, eRev, eCallB, iVal, itemsD, iRange1, iRange2, iEnumM, gVar, gsNil, gsCons, gTupM, eLc, lc1, for1, tTrue, S.wipe, wipeE, ePop, ePopAt, S.isList, S.bound, eMove, capL, eIsi, D.isT, eDict0, eDisp, eDispL, eCell, psNil, psCons, D.key, isNon_non, isNon_int, isNon_str, isNon_tup, isNon_lst, isNon_bl, isNon_dct, Option.map, Option.bind, List.getElem?_cons_zero, List.getElem?_cons_succ, List.set_cons_zero, List.set_cons_succ, List.map_cons, List.map_nil, List.length_cons, List.length_nil, List.replicate_succ, List.replicate_zero, List.cons_append, List.nil_append, List.append_nil, Nat.reduceSub, Nat.reduceAdd, Nat.reduceEqDiff, decide_true, decide_false, if_true, if_false, ite_true, ite_false, reduceIte, Bool.false_eq_true, Nat.reduceLT, Nat.zero_lt_succ, Nat.lt_add_one, Nat.zero_add, true_and, and_true, or_true, true_or, false_and, and_false, false_or, or_false, Bool.not_true, Bool.not_false, Nat.succ_lt_succ_iff, Nat.add_lt_add_iff_right, beq_self_eq_true, String.reduceBEq, Bool.or_true, Bool.true_or, Bool.or_false, Bool.false_or, Bool.and_true, Bool.true_and, Bool.and_false, Bool.false_and, Int.cast_ofNat_Int, Int.reduceBEq, Int.reduceLT, Int.reduceLE, Int.reduceAdd, Int.reduceSub, Int.reduceMul, Int.reduceNeg, Int.natCast_zero, Int.natCast_one, sz_0, sz_1, sz_2, sz_3, sz_4, sz_5, sz_6, sz_7, sz_8, sz_9, sz_10, sz_11, sz_12, sz_13, sz_14, sz_15, sz_16]; rfl)
      simp only [sSeq_eq, seq_nx', seq_rt', seq_bk', seq_ct', bind_ok', then_ok', opt_some', toB_ok', eCall_eq, back_ok', eCallL_eq, looksL_some, sNil, sBreak, sCont, sExpr, sRet, sRetN, sIf, sSet, sAsg, sPar2, par2K, sPar3, par3K, sFor, sAppend, sExtend, sDPut, storeK, sSubApp, eOf, eV, oV, eC, eVar, oVar, eTup, eLst, vsNil, vsCons, osNil, osCons, lsNil, lsCons, eOp, binD, cmpP, cm_eq_str, cm_ne_str, cm_eq_int, cm_ne_int, cm_lt, cm_le, cm_gt, cm_ge, cm_slt, cm_sle, cm_is, cm_isnot, cm_in_tup, cm_nin_tup, cm_in_lst, cm_nin_lst, cm_in_dct, cm_nin_dct, cm_in_str, cm_ne_nn, cm_eq_nn, Nat.le_refl, Nat.zero_le, Nat.reduceLeDiff, big_0, seqIx_0, pop_last, drop_last, max2, eSortK, atI_0, atI_1, atI_2, atI_3, atI_4, tCmp, tChain2, eT, tAnd2, tOr2, tNot1, bOf, eAnd2, eOr2, eNot1, eIf, truD, tTru, eSub, S.flat, S.look, S.looks, S.deref, subD, pNone, pSome, eSlice, sliceD, eRev, eCallB, iVal, itemsD, iRange1, iRange2, iEnumM, gVar, gsNil, gsCons, gTupM, eLc, lc1, for1, tTrue, S.wipe, wipeE, ePop, ePopAt, S.isList, S.bound, eMove, capL, eIsi, D.isT, eDict0, eDisp, eDispL, eCell, psNil, psCons, D.key, isNon_non, isNon_int, isNon_str, isNon_tup, isNon_lst, isNon_bl, isNon_dct, Option.map, Option.bind, List.getElem?_cons_zero, List.getElem?_cons_succ, List.set_cons_zero, List.set_cons_succ, List.map_cons, List.map_nil, List.length_cons, List.length_nil, List.replicate_succ, List.replicate_zero, List.cons_append, List.nil_append, List.append_nil, Nat.reduceSub, Nat.reduceAdd, Nat.reduceEqDiff, decide_true, decide_false, if_true, if_false, ite_true, ite_false, reduceIte, Bool.false_eq_true, Nat.reduceLT, Nat.zero_lt_succ, Nat.lt_add_one, Nat.zero_add, true_and, and_true, or_true, true_or, false_and, and_false, false_or, or_false, Bool.not_true, Bool.not_false, Nat.succ_lt_succ_iff, Nat.add_lt_add_iff_right, beq_self_eq_true, String.reduceBEq, Bool.or_true, Bool.true_or, Bool.or_false, Bool.false_or, Bool.and_true, Bool.true_and, Bool.and_false, Bool.false_and, Int.cast_ofNat_Int, Int.reduceBEq, Int.reduceLT, Int.reduceLE, Int.reduceAdd, Int.reduceSub, Int.reduceMul, Int.reduceNeg, Int.natCast_zero, Int.natCast_one, sz_0, sz_1, sz_2, sz_3, sz_4, sz_5, sz_6, sz_7, sz_8, sz_9, sz_10, sz_11, sz_12, sz_13, sz_14, sz_15, sz_16, lenD, szOk_of hz, decide_eq_true e1, decide_eq_true e8, key, allD, Nat.zero_le]
      have e2 : List.map (fun c => D.bl (decide (c ∈ letters))) x.cps.toList = (x.cps.toList.map fun c => decide (c ∈ letters)).map D.bl := by simp
      rw [e2, blsOf_map]
      unfold isName
      simp only [sSeq_eq, seq_nx', seq_rt', seq_bk', seq_ct', bind_ok', then_ok', opt_some', toB_ok', eCall_eq, back_ok', eCallL_eq, looksL_some, sNil, sBreak, sCont, sExpr, sRet, sRetN, sIf, sSet, sAsg, sPar2, par2K, sPar3, par3K, sFor, sAppend, sExtend, sDPut, storeK, sSubApp, eOf, eV, oV, eC, eVar, oVar, eTup, eLst, vsNil, vsCons, osNil, osCons, lsNil, lsCons, eOp, binD, cmpP, cm_eq_str, cm_ne_str, cm_eq_int, cm_ne_int, cm_lt, cm_le, cm_gt, cm_ge, cm_slt, cm_sle, cm_is, cm_isnot, cm_in_tup, cm_nin_tup, cm_in_lst, cm_nin_lst, cm_in_dct, cm_nin_dct, cm_in_str, cm_ne_nn, cm_eq_nn, Nat.le_refl, Nat.zero_le, Nat.reduceLeDiff, big_0, seqIx_0, pop_last, drop_last, max2, eSortK, atI_0, atI_1, atI_2, atI_3, atI_4, tCmp, tChain2, eT, tAnd2, tOr2, tNot1, bOf, eAnd2, eOr2, eNot1, eIf, truD, tTru, eSub, S.flat, S.look, S.looks, S.deref, subD, pNone, pSome, eSlice, sliceD, eRev, eCallB, iVal, itemsD, iRange1, iRange2, iEnumM, gVar, gsNil, gsCons, gTupM, eLc, lc1, for1, tTrue, S.wipe, wipeE, ePop, ePopAt, S.isList, S.bound, eMove, capL, eIsi, D.isT, eDict0, eDisp, eDispL, eCell, psNil, psCons, D.key, isNon_non, isNon_int, isNon_str, isNon_tup, isNon_lst, isNon_bl, isNon_dct, Option.map, Option.bind, List.getElem?_cons_zero, List.getElem?_cons_succ, List.set_cons_zero, List.set_cons_succ, List.map_cons, List.map_nil, List.length_cons, List.length_nil, List.replicate_succ, List.replicate_zero, List.cons_append, List.nil_append, List.append_nil, Nat.reduceSub, Nat.reduceAdd, Nat.reduceEqDiff, decide_true, decide_false, if_true, if_false, ite_true, ite_false, reduceIte, Bool.false_eq_true, Nat.reduceLT, Nat.zero_lt_succ, Nat.lt_add_one, Nat.zero_add, true_and, and_true, or_true, true_or, false_and, and_false, false_or, or_false, Bool.not_true, Bool.not_false, Nat.succ_lt_succ_iff, Nat.add_lt_add_iff_right, beq_self_eq_true, String.reduceBEq, Bool.or_true, Bool.true_or, Bool.or_false, Bool.false_or, Bool.and_true, Bool.true_and, Bool.and_false, Bool.false_and, Int.cast_ofNat_Int, Int.reduceBEq, Int.reduceLT, Int.reduceLE, Int.reduceAdd, Int.reduceSub, Int.reduceMul, Int.reduceNeg, Int.natCast_zero, Int.natCast_one, sz_0, sz_1, sz_2, sz_3, sz_4, sz_5, sz_6, sz_7, sz_8, sz_9, sz_10, sz_11, sz_12, sz_13, sz_14, sz_15, sz_16, decide_eq_true h1, decide_eq_true hl, List.all_map, Bool.and_self, Bool.true_and]
      exact ⟨rfl, rfl⟩
    · have e1 : ¬ (1 : Int) ≤ ((x.length : Nat) : Int) := by omega
      simp only [sSeq_eq, seq_nx', seq_rt', seq_bk', seq_ct', bind_ok', then_ok', opt_some', toB_ok', eCall_eq, back_ok', eCallL_eq, looksL_some, sNil, sBreak, sCont, sExpr, sRet, sRetN, sIf, sSet, sAsg, sPar2, par2K, sPar3, par3K, sFor, sAppend, sExtend, sDPut, storeK, sSubApp, eOf, eV, oV, eC, eVar, oVar, eTup, eLst, vsNil, vsCons, osNil, osCons, lsNil, lsCons, eOp, binD, cmpP, cm_eq_str, cm_ne_str, cm_eq_int, cm_ne_int, cm_lt, cm_le, cm_gt, cm_ge, cm_slt, cm_sle, cm_is, cm_isnot, cm_in_tup, cm_nin_tup, cm_in_lst, cm_nin_lst, cm_in_dct, cm_nin_dct, cm_in_str, cm_ne_nn, cm_eq_nn, Nat.le_refl, Nat.zero_le, Nat.reduceLeDiff, big_0, seqIx_0, pop_last, drop_last, max2, eSortK, atI_0, atI_1, atI_2, atI_3, atI_4, tCmp, tChain2, eT, tAnd2, tOr2, tNot1, bOf, eAnd2, eOr2, eNot1, eIf, truD, tTru, eSub, S.flat, S.look, S.looks, S.deref, subD, pNone, pSome, eSlice, sliceD, eRev, eCallB, iVal, itemsD, iRange1, iRange2, iEnumM, gVar, gsNil, gsCons, gTupM, eLc, lc1, for1, tTrue, S.wipe, wipeE, ePop, ePopAt, S.isList, S.bound, eMove, capL, eIsi, D.isT, eDict0, eDisp, eDispL, eCell, psNil, psCons, D.key, isNon_non, isNon_int, isNon_str, isNon_tup, isNon_lst, isNon_bl, isNon_dct, Option.map, Option.bind, List.getElem?_cons_zero, List.getElem?_cons_succ, List.set_cons_zero, List.set_cons_succ, List.map_cons, List.map_nil, List.length_cons, List.length_nil, List.replicate_succ, List.replicate_zero, List.cons_append, List.nil_append, List.append_nil, Nat.reduceSub, Nat.reduceAdd, Nat.reduceEqDiff, decide_true, decide_false, if_true, if_false, ite_true, ite_false, reduceIte, Bool.false_eq_true, Nat.reduceLT, Nat.zero_lt_succ, Nat.lt_add_one, Nat.zero_add, true_and, and_true, or_true, true_or, false_and, and_false, false_or, or_false, Bool.not_true, Bool.not_false, Nat.succ_lt_succ_iff, Nat.add_lt_add_iff_right, beq_self_eq_true, String.reduceBEq, Bool.or_true, Bool.true_or, Bool.or_false, Bool.false_or, Bool.and_true, Bool.true_and, Bool.and_false, Bool.false_and, Int.cast_ofNat_Int, Int.reduceBEq, Int.reduceLT, Int.reduceLE, Int.reduceAdd, Int.reduceSub, Int.reduceMul, Int.reduceNeg, Int.natCast_zero, Int.natCast_one, sz_0, sz_1, sz_2, sz_3, sz_4, sz_5, sz_6, sz_7, sz_8, sz_9, sz_10, sz_11, sz_12, sz_13, sz_14, sz_15, sz_16, lenD, szOk_of hz, decide_eq_false e1]
      unfold isName
      rw [decide_eq_false h1]
      exact ⟨rfl, rfl⟩
  · have e8 : ¬ ((x.length : Nat) : Int) ≤ 8 := by omega
    have e1 : (1 : Int) ≤ ((x.length : Nat) : Int) := by omega
    simp only [sSeq_eq, seq_nx', seq_rt', seq_bk', seq_ct', bind_ok', then_ok', opt_some', toB_ok', eCall_eq, back_ok', eCallL_eq, looksL_some, sNil, sBreak, sCont, sExpr, sRet, sRetN, sIf, sSet, sAsg, sPar2, par2K, sPar3, par3K, sFor, sAppend, sExtend, sDPut, storeK, sSubApp, eOf, eV, oV, eC, eVar, oVar, eTup, eLst, vsNil, vsCons, osNil, osCons, lsNil, lsCons, eOp, binD, cmpP, cm_eq_str, cm_ne_str, cm_eq_int, cm_ne_int, cm_lt, cm_le, cm_gt, cm_ge, cm_slt, cm_sle, cm_is, cm_isnot, cm_in_tup, cm_nin_tup, cm_in_lst, cm_nin_lst, cm_in_dct, cm_nin_dct, cm_in_str, cm_ne_nn, cm_eq_nn, Nat.le_refl, Nat.zero_le, Nat.reduceLeDiff, big_0, seqIx_0, pop_last, drop_last, max2, eSortK, atI_0, atI_1, atI_2, atI_3, atI_4, tCmp, tChain2, eT, tAnd2, tOr2, tNot1, bOf, eAnd2, eOr2, eNot1, eIf, truD, tTru, eSub, S.flat, S.look, S.looks, S.deref, subD, pNone, pSome, eSlice, sliceD, eRev, eCallB, iVal, itemsD, iRange1, iRange2, iEnumM, gVar, gsNil, gsCons, gTupM, eLc, lc1, for1, tTrue, S.wipe, wipeE, ePop, ePopAt, S.isList, S.bound, eMove, capL, eIsi, D.isT, eDict0, eDisp, eDispL, eCell, psNil, psCons, D.key, isNon_non, isNon_int, isNon_str, isNon_tup, isNon_lst, isNon_bl, isNon_dct, Option.map, Option.bind, List.getElem?_cons_zero, List.getElem?_cons_succ, List.set_cons_zero, List.set_cons_succ, List.map_cons, List.map_nil, List.length_cons, List.length_nil, List.replicate_succ, List.replicate_zero, List.cons_append, List.nil_append, List.append_nil, Nat.reduceSub, Nat.reduceAdd, Nat.reduceEqDiff, decide_true, decide_false, if_true, if_false, ite_true, ite_false, reduceIte, Bool.false_eq_true, Nat.reduceLT, Nat.zero_lt_succ, Nat.lt_add_one, Nat.zero_add, true_and, and_true, or_true, true_or, false_and, and_false, false_or, or_false, Bool.not_true, Bool.not_false, Nat.succ_lt_succ_iff, Nat.add_lt_add_iff_right, beq_self_eq_true, String.reduceBEq, Bool.or_true, Bool.true_or, Bool.or_false, Bool.false_or, Bool.and_true, Bool.true_and, Bool.and_false, Bool.false_and, Int.cast_ofNat_Int, Int.reduceBEq, Int.reduceLT, Int.reduceLE, Int.reduceAdd, Int.reduceSub, Int.reduceMul, Int.reduceNeg, Int.natCast_zero, Int.natCast_one, sz_0, sz_1, sz_2, sz_3, sz_4, sz_5, sz_6, sz_7, sz_8, sz_9, sz_10, sz_11, sz_12, sz_13, sz_14, sz_15, sz_16, lenD, szOk_of hz, decide_eq_false e8, decide_eq_true e1]
    unfold isName
    rw [decide_eq_false hl, Bool.and_false, Bool.false_and]
    exact ⟨rfl, rfl⟩
/-! ### trees -/
def knownD (ns : List Str) : List (Key × D) := ns.map fun x => ((Sum.inr x : Key), D.bl true)
theorem known_get (ns : List Str) (x : Str) : (getK (knownD ns) (.inr x)).isSome = decide (x ∈ ns) := by
  unfold knownD
  rw [getK_strs (fun x => x) (fun _ => D.bl true) ns x, Option.isSome_map]
  rw [Bool.eq_iff_iff, List.find?_isSome, decide_eq_true_eq]
  constructor
  · rintro ⟨y, hy, e⟩; rw [← of_decide_eq_true e]; exact hy
  · intro h; exact ⟨x, h, decide_eq_true rfl⟩
def IsPersonOk (f : List D → S → R (Nat × D)) : Prop := ∀ (p : Pe) (ns : List Str) (st : St), isName p.1 = true → p.1 ∉ ns → (p.2.1 = "" ∨ p.2.1 ∈ ns) → 1 ≤ p.2.2 ∧ p.2.2 ≤ 60 → f [pD p, .dct (knownD ns)] ⟨[], st⟩ = .ok (0, .bl true) ⟨[], st⟩
theorem isName_len {x : Str} (h : isName x = true) : 1 ≤ x.length ∧ x.length ≤ 8 := by
  unfold isName at h
  simp only [Bool.and_eq_true, decide_eq_true_eq] at h
  exact h.1
theorem is_person_ok (C : Call) (hn : IsNameS (C "is_name")) (ha : IsAmong (C "is_among")) : IsPersonOk (f_is_person C) := by
  intro p ns st h1 h2 h3 h4
  obtain ⟨x, c, t⟩ := p
  have h1 : isName x = true := h1
  have hl := isName_len h1
  have e1 := hn x st (by omega)
  rw [h1] at e1
  have e2 := ha t 1 60 st
  rw [decide_eq_true h4] at e2
  refine run_eq ?_
  unfold m_is_person pD
  have e3 : decide (x ∈ ns) = false := decide_eq_false h2
  simp only [sSeq_eq, seq_nx', seq_rt', seq_bk', seq_ct', bind_ok', then_ok', opt_some', toB_ok', eCall_eq, back_ok', eCallL_eq, looksL_some, sNil, sBreak, sCont, sExpr, sRet, sRetN, sIf, sSet, sAsg, sPar2, par2K, sPar3, par3K, sFor, sAppend, sExtend, sDPut, storeK, sSubApp, eOf, eV, oV, eC, eVar, oVar, eTup, eLst, vsNil, vsCons, osNil, osCons, lsNil, lsCons, eOp, binD, cmpP, cm_eq_str, cm_ne_str, cm_eq_int, cm_ne_int, cm_lt, cm_le, cm_gt, cm_ge, cm_slt, cm_sle, cm_is, cm_isnot, cm_in_tup, cm_nin_tup, cm_in_lst, cm_nin_lst, cm_in_dct, cm_nin_dct, cm_in_str, cm_ne_nn, cm_eq_nn, Nat.le_refl, Nat.zero_le, Nat.reduceLeDiff, big_0, seqIx_0, pop_last, drop_last, max2, eSortK, atI_0, atI_1, atI_2, atI_3, atI_4, tCmp, tChain2, eT, tAnd2, tOr2, tNot1, bOf, eAnd2, eOr2, eNot1, eIf, truD, tTru, eSub, S.flat, S.look, S.looks, S.deref, subD, pNone, pSome, eSlice, sliceD, eRev, eCallB, iVal, itemsD, iRange1, iRange2, iEnumM, gVar, gsNil, gsCons, gTupM, eLc, lc1, for1, tTrue, S.wipe, wipeE, ePop, ePopAt, S.isList, S.bound, eMove, capL, eIsi, D.isT, eDict0, eDisp, eDispL, eCell, psNil, psCons, D.key, isNon_non, isNon_int, isNon_str, isNon_tup, isNon_lst, isNon_bl, isNon_dct, Option.map, Option.bind, List.getElem?_cons_zero, List.getElem?_cons_succ, List.set_cons_zero, List.set_cons_succ, List.map_cons, List.map_nil, List.length_cons, List.length_nil, List.replicate_succ, List.replicate_zero, List.cons_append, List.nil_append, List.append_nil, Nat.reduceSub, Nat.reduceAdd, Nat.reduceEqDiff, decide_true, decide_false, if_true, if_false, ite_true, ite_false, reduceIte, Bool.false_eq_true, Nat.reduceLT, Nat.zero_lt_succ, Nat.lt_add_one, Nat.zero_add, true_and, and_true, or_true, true_or, false_and, and_false, false_or, or_false, Bool.not_true, Bool.not_false, Nat.succ_lt_succ_iff, Nat.add_lt_add_iff_right, beq_self_eq_true, String.reduceBEq, Bool.or_true, Bool.true_or, Bool.or_false, Bool.false_or, Bool.and_true, Bool.true_and, Bool.and_false, Bool.false_and, Int.cast_ofNat_Int, Int.reduceBEq, Int.reduceLT, Int.reduceLE, Int.reduceAdd, Int.reduceSub, Int.reduceMul, Int.reduceNeg, Int.natCast_zero, Int.natCast_one, sz_0, sz_1, sz_2, sz_3, sz_4, sz_5, sz_6, sz_7, sz_8, sz_9, sz_10, sz_11, sz_12, sz_13, sz_14, sz_15, sz_16, lenD, e1, e2, known_get, e3]
  rcases h3 with h3 | h3
  · have h3 : c = "" := h3
    subst h3
    simp only [sSeq_eq, seq_nx', seq_rt', seq_bk', seq_ct', bind_ok', then_ok', opt_some', toB_ok', eCall_eq, back_ok', eCallL_eq, looksL_some, sNil, sBreak, sCont, sExpr, sRet, sRetN, sIf, sSet, sAsg, sPar2, par2K, sPar3, par3K, sFor, sAppend, sExtend, sDPut, storeK, sSubApp, eOf, eV, oV, eC, eVar, oVar, eTup, eLst, vsNil, vsCons, osNil, osCons, lsNil, lsCons, eOp, binD, cmpP, cm_eq_str, cm_ne_str, cm_eq_int, cm_ne_int, cm_lt, cm_le, cm_gt, cm_ge, cm_slt, cm_sle, cm_is, cm_isnot, cm_in_tup, cm_nin_tup, cm_in_lst, cm_nin_lst, cm_in_dct, cm_nin_dct, cm_in_str, cm_ne_nn, cm_eq_nn, Nat.le_refl, Nat.zero_le, Nat.reduceLeDiff, big_0, seqIx_0, pop_last, drop_last, max2, eSortK, atI_0, atI_1, atI_2, atI_3, atI_4, tCmp, tChain2, eT, tAnd2, tOr2, tNot1, bOf, eAnd2, eOr2, eNot1, eIf, truD, tTru, eSub, S.flat, S.look, S.looks, S.deref, subD, pNone, pSome, eSlice, sliceD, eRev, eCallB, iVal, itemsD, iRange1, iRange2, iEnumM, gVar, gsNil, gsCons, gTupM, eLc, lc1, for1, tTrue, S.wipe, wipeE, ePop, ePopAt, S.isList, S.bound, eMove, capL, eIsi, D.isT, eDict0, eDisp, eDispL, eCell, psNil, psCons, D.key, isNon_non, isNon_int, isNon_str, isNon_tup, isNon_lst, isNon_bl, isNon_dct, Option.map, Option.bind, List.getElem?_cons_zero, List.getElem?_cons_succ, List.set_cons_zero, List.set_cons_succ, List.map_cons, List.map_nil, List.length_cons, List.length_nil, List.replicate_succ, List.replicate_zero, List.cons_append, List.nil_append, List.append_nil, Nat.reduceSub, Nat.reduceAdd, Nat.reduceEqDiff, decide_true, decide_false, if_true, if_false, ite_true, ite_false, reduceIte, Bool.false_eq_true, Nat.reduceLT, Nat.zero_lt_succ, Nat.lt_add_one, Nat.zero_add, true_and, and_true, or_true, true_or, false_and, and_false, false_or, or_false, Bool.not_true, Bool.not_false, Nat.succ_lt_succ_iff, Nat.add_lt_add_iff_right, beq_self_eq_true, String.reduceBEq, Bool.or_true, Bool.true_or, Bool.or_false, Bool.false_or, Bool.and_true, Bool.true_and, Bool.and_false, Bool.false_and, Int.cast_ofNat_Int, Int.reduceBEq, Int.reduceLT, Int.reduceLE, Int.reduceAdd, Int.reduceSub, Int.reduceMul, Int.reduceNeg, Int.natCast_zero, Int.natCast_one, sz_0, sz_1, sz_2, sz_3, sz_4, sz_5, sz_6, sz_7, sz_8, sz_9, sz_10, sz_11, sz_12, sz_13, sz_14, sz_15, sz_16, e2]
    exact ⟨rfl, rfl⟩
  · have h3 : decide (c ∈ ns) = true := decide_eq_true h3
    cases hc : (c == ("" : Str)) <;> simp only [sSeq_eq, seq_nx', seq_rt', seq_bk', seq_ct', bind_ok', then_ok', opt_some', toB_ok', eCall_eq, back_ok', eCallL_eq, looksL_some, sNil, sBreak, sCont, sExpr, sRet, sRetN, sIf, sSet, sAsg, sPar2, par2K, sPar3, par3K, sFor, sAppend, sExtend, sDPut, storeK, sSubApp, eOf, eV, oV, eC, eVar, oVar, eTup, eLst, vsNil, vsCons, osNil, osCons, lsNil, lsCons, eOp, binD, cmpP, cm_eq_str, cm_ne_str, cm_eq_int, cm_ne_int, cm_lt, cm_le, cm_gt, cm_ge, cm_slt, cm_sle, cm_is, cm_isnot, cm_in_tup, cm_nin_tup, cm_in_lst, cm_nin_lst, cm_in_dct, cm_nin_dct, cm_in_str, cm_ne_nn, cm_eq_nn, Nat.le_refl, Nat.zero_le, Nat.reduceLeDiff, big_0, seqIx_0, pop_last, drop_last, max2, eSortK, atI_0, atI_1, atI_2, atI_3, atI_4, tCmp, tChain2, eT, tAnd2, tOr2, tNot1, bOf, eAnd2, eOr2, eNot1, eIf, truD, tTru, eSub, S.flat, S.look, S.looks, S.deref, subD, pNone, pSome, eSlice, sliceD, eRev, eCallB, iVal, itemsD, iRange1, iRange2, iEnumM, gVar, gsNil, gsCons, gTupM, eLc, lc1, for1, tTrue, S.wipe, wipeE, ePop, ePopAt, S.isList, S.bound, eMove, capL, eIsi, D.isT, eDict0, eDisp, eDispL, eCell, psNil, psCons, D.key, isNon_non, isNon_int, isNon_str, isNon_tup, isNon_lst, isNon_bl, isNon_dct, Option.map, Option.bind, List.getElem?_cons_zero, List.getElem?_cons_succ, List.set_cons_zero, List.set_cons_succ, List.map_cons, List.map_nil, List.length_cons, List.length_nil, List.replicate_succ, List.replicate_zero, List.cons_append, List.nil_append, List.append_nil, Nat.reduceSub, Nat.reduceAdd, Nat.reduceEqDiff, decide_true, decide_false, if_true, if_false, ite_true, ite_false, reduceIte, Bool.false_eq_true, Nat.reduceLT, Nat.zero_lt_succ, Nat.lt_add_one, Nat.zero_add, true_and, and_true, or_true, true_or, false_and, and_false, false_or, or_false, Bool.not_true, Bool.not_false, Nat.succ_lt_succ_iff, Nat.add_lt_add_iff_right, beq_self_eq_true, String.reduceBEq, Bool.or_true, Bool.true_or, Bool.or_false, Bool.false_or, Bool.and_true, Bool.true_and, Bool.and_false, Bool.false_and, Int.cast_ofNat_Int, Int.reduceBEq, Int.reduceLT, Int.reduceLE, Int.reduceAdd, Int.reduceSub, Int.reduceMul, Int.reduceNeg, Int.natCast_zero, Int.natCast_one, sz_0, sz_1, sz_2, sz_3, sz_4, sz_5, sz_6, sz_7, sz_8, sz_9, sz_10, sz_11, sz_12, sz_13, sz_14, sz_15, sz_16, h3, e2] <;> exact ⟨rfl, rfl⟩
/-- the people so far are known -/
def FirstWrongOk (f : List D → S → R (Nat × D)) : Prop := ∀ (w d : Int) (ps : List Pe) (st : St), TreeOk w d ps → st.all flatC = true → f [treeD w d ps] ⟨[], st⟩ = .ok (0, .non) ⟨[], st⟩
theorem numL_eq (ds : List D) : numL ds = ds.zipIdx.map fun q => D.tup [.int (q.2 : Nat), q.1] := by
  unfold numL
  rw [List.mapIdx_eq_zipIdx_map]
theorem zipIdx_at {α : Type} {l pre post : List α} {p : α × Nat} {pre' : List (α × Nat)} {post' : List (α × Nat)} (h : l.zipIdx = pre' ++ p :: post') : l = pre'.map (·.1) ++ p.1 :: post'.map (·.1) ∧ p.2 = pre'.length := by
  have h1 : l.zipIdx.map (·.1) = (pre' ++ p :: post').map (·.1) := by rw [h]
  rw [List.zipIdx_map_fst] at h1
  refine ⟨by simpa using h1, ?_⟩
  have h2 : l.zipIdx.map (·.2) = (pre' ++ p :: post').map (·.2) := by rw [h]
  rw [List.zipIdx_map_snd] at h2
  have h3 : (List.range' 0 l.length)[pre'.length]? = ((pre' ++ p :: post').map (·.2))[pre'.length]? := by rw [h2]
  rw [List.map_append, List.map_cons, List.getElem?_append_right (by simp)] at h3
  simp only [List.length_map, Nat.sub_self, List.getElem?_cons_zero] at h3
  rw [List.getElem?_range'] at h3
  · simpa using h3.symm
  · have := congrArg List.length h1
    simp at this
    omega
theorem first_wrong_ok (C : Call) (ha : IsAmong (C "is_among")) (hp : IsPersonOk (C "is_person")) : FirstWrongOk (f_first_wrong C) := by
  intro w d ps st ok hst
  refine run_eq ?_
  unfold m_first_wrong treeD
  have e1 := ha w 1 60 st
  rw [decide_eq_true ok.w] at e1
  have e2 := ha d 0 4 st
  rw [decide_eq_true ok.d] at e2
  have e3 : ((ps.map pD).length : Int) ≤ 16 := by rw [List.length_map]; have := ok.n; omega
  have e3' : decide ((16 : Int) < ((ps.map pD).length : Int)) = false := decide_eq_false (by omega)
  simp only [sSeq_eq, seq_nx', seq_rt', seq_bk', seq_ct', bind_ok', then_ok', opt_some', toB_ok', eCall_eq, back_ok', eCallL_eq, looksL_some, sNil, sBreak, sCont, sExpr, sRet, sRetN, sIf, sSet, sAsg, sPar2, par2K, sPar3, par3K, sFor, sAppend, sExtend, sDPut, storeK, sSubApp, eOf, eV, oV, eC, eVar, oVar, eTup, eLst, vsNil, vsCons, osNil, osCons, lsNil, lsCons, eOp, binD, cmpP, cm_eq_str, cm_ne_str, cm_eq_int, cm_ne_int, cm_lt, cm_le, cm_gt, cm_ge, cm_slt, cm_sle, cm_is, cm_isnot, cm_in_tup, cm_nin_tup, cm_in_lst, cm_nin_lst, cm_in_dct, cm_nin_dct, cm_in_str, cm_ne_nn, cm_eq_nn, Nat.le_refl, Nat.zero_le, Nat.reduceLeDiff, big_0, seqIx_0, pop_last, drop_last, max2, eSortK, atI_0, atI_1, atI_2, atI_3, atI_4, tCmp, tChain2, eT, tAnd2, tOr2, tNot1, bOf, eAnd2, eOr2, eNot1, eIf, truD, tTru, eSub, S.flat, S.look, S.looks, S.deref, subD, pNone, pSome, eSlice, sliceD, eRev, eCallB, iVal, itemsD, iRange1, iRange2, iEnumM, gVar, gsNil, gsCons, gTupM, eLc, lc1, for1, tTrue, S.wipe, wipeE, ePop, ePopAt, S.isList, S.bound, eMove, capL, eIsi, D.isT, eDict0, eDisp, eDispL, eCell, psNil, psCons, D.key, isNon_non, isNon_int, isNon_str, isNon_tup, isNon_lst, isNon_bl, isNon_dct, Option.map, Option.bind, List.getElem?_cons_zero, List.getElem?_cons_succ, List.set_cons_zero, List.set_cons_succ, List.map_cons, List.map_nil, List.length_cons, List.length_nil, List.replicate_succ, List.replicate_zero, List.cons_append, List.nil_append, List.append_nil, Nat.reduceSub, Nat.reduceAdd, Nat.reduceEqDiff, decide_true, decide_false, if_true, if_false, ite_true, ite_false, reduceIte, Bool.false_eq_true, Nat.reduceLT, Nat.zero_lt_succ, Nat.lt_add_one, Nat.zero_add, true_and, and_true, or_true, true_or, false_and, and_false, false_or, or_false, Bool.not_true, Bool.not_false, Nat.succ_lt_succ_iff, Nat.add_lt_add_iff_right, beq_self_eq_true, String.reduceBEq, Bool.or_true, Bool.true_or, Bool.or_false, Bool.false_or, Bool.and_true, Bool.true_and, Bool.and_false, Bool.false_and, Int.cast_ofNat_Int, Int.reduceBEq, Int.reduceLT, Int.reduceLE, Int.reduceAdd, Int.reduceSub, Int.reduceMul, Int.reduceNeg, Int.natCast_zero, Int.natCast_one, sz_0, sz_1, sz_2, sz_3, sz_4, sz_5, sz_6, sz_7, sz_8, sz_9, sz_10, sz_11, sz_12, sz_13, sz_14, sz_15, sz_16, lenD, e1, e2, e3']
  refine for_q (fun q : Pe × Nat => D.tup [.int (q.2 : Nat), pD q.1])
    (fun pre s => ∃ j1 j2, s = ⟨[some (0, D.tup [.int w, .int d, .tup (ps.map pD)]), some (0, .int w), some (0, .int d), some (0, .tup (ps.map pD)), some (1, .dct (knownD (pre.map (·.1.1)))), j1, j2], st⟩) ps.zipIdx (by rw [numL_eq, List.zipIdx_map, List.map_map]; rfl) ?_ ⟨none, none, rfl⟩ ?_
  · rintro pre ⟨p, n⟩ post s e ⟨j1, j2, rfl⟩
    obtain ⟨ep, _⟩ := zipIdx_at (pre := []) (post := []) e
    have hm : p ∈ ps := by rw [ep]; simp
    have nd := ok.good.nd
    have hn : p.1 ∉ pre.map (·.1.1) := by
      rw [ep] at nd
      simp only [List.map_append, List.map_map, List.map_cons, List.nodup_cons, List.nodup_append] at nd
      intro z
      exact nd.2.2.2 p.1 z p.1 (by simp) rfl
    have hu : p.2.1 = "" ∨ p.2.1 ∈ pre.map (·.1.1) := by
      rcases ok.good.up _ _ _ ep with z | z
      · exact .inl z
      · exact .inr (by simpa using z)
    have e7 := hp p (pre.map (·.1.1)) st (ok.nm p hm) hn hu (ok.tk p hm)
    have e8 : putL (knownD (pre.map (·.1.1))) (Sum.inr p.1) (D.bl true) = knownD ((pre ++ [(p, n)]).map (·.1.1)) := by
      rw [putL_new]
      · simp [knownD]
      · have := known_get (pre.map (·.1.1)) p.1
        rw [decide_eq_false hn] at this
        cases h : getK (knownD (pre.map (·.1.1))) (.inr p.1) with
        | none => rfl
        | some u => rw [h] at this; cases this
    have hz : szOk (knownD (pre.map (·.1.1))).length = true := szOk_of (by
      have := congrArg List.length ep
      have hn := ok.n
      simp only [List.length_append, List.length_map, List.length_cons] at this
      simp only [knownD, List.length_map]
      omega)
    simp only [sSeq_eq, seq_nx', seq_rt', seq_bk', seq_ct', bind_ok', then_ok', opt_some', toB_ok', eCall_eq, back_ok', eCallL_eq, looksL_some, sNil, sBreak, sCont, sExpr, sRet, sRetN, sIf, sSet, sAsg, sPar2, par2K, sPar3, par3K, sFor, sAppend, sExtend, sDPut, storeK, sSubApp, eOf, eV, oV, eC, eVar, oVar, eTup, eLst, vsNil, vsCons, osNil, osCons, lsNil, lsCons, eOp, binD, cmpP, cm_eq_str, cm_ne_str, cm_eq_int, cm_ne_int, cm_lt, cm_le, cm_gt, cm_ge, cm_slt, cm_sle, cm_is, cm_isnot, cm_in_tup, cm_nin_tup, cm_in_lst, cm_nin_lst, cm_in_dct, cm_nin_dct, cm_in_str, cm_ne_nn, cm_eq_nn, Nat.le_refl, Nat.zero_le, Nat.reduceLeDiff, big_0, seqIx_0, pop_last, drop_last, max2, eSortK, atI_0, atI_1, atI_2, atI_3, atI_4, tCmp, tChain2, eT, tAnd2, tOr2, tNot1, bOf, eAnd2, eOr2, eNot1, eIf, truD, tTru, eSub, S.flat, S.look, S.looks, S.deref, subD, pNone, pSome, eSlice, sliceD, eRev, eCallB, iVal, itemsD, iRange1, iRange2, iEnumM, gVar, gsNil, gsCons, gTupM, eLc, lc1, for1, tTrue, S.wipe, wipeE, ePop, ePopAt, S.isList, S.bound, eMove, capL, eIsi, D.isT, eDict0, eDisp, eDispL, eCell, psNil, psCons, D.key, isNon_non, isNon_int, isNon_str, isNon_tup, isNon_lst, isNon_bl, isNon_dct, Option.map, Option.bind, List.getElem?_cons_zero, List.getElem?_cons_succ, List.set_cons_zero, List.set_cons_succ, List.map_cons, List.map_nil, List.length_cons, List.length_nil, List.replicate_succ, List.replicate_zero, List.cons_append, List.nil_append, List.append_nil, Nat.reduceSub, Nat.reduceAdd, Nat.reduceEqDiff, decide_true, decide_false, if_true, if_false, ite_true, ite_false, reduceIte, Bool.false_eq_true, Nat.reduceLT, Nat.zero_lt_succ, Nat.lt_add_one, Nat.zero_add, true_and, and_true, or_true, true_or, false_and, and_false, false_or, or_false, Bool.not_true, Bool.not_false, Nat.succ_lt_succ_iff, Nat.add_lt_add_iff_right, beq_self_eq_true, String.reduceBEq, Bool.or_true, Bool.true_or, Bool.or_false, Bool.false_or, Bool.and_true, Bool.true_and, Bool.and_false, Bool.false_and, Int.cast_ofNat_Int, Int.reduceBEq, Int.reduceLT, Int.reduceLE, Int.reduceAdd, Int.reduceSub, Int.reduceMul, Int.reduceNeg, Int.natCast_zero, Int.natCast_one, sz_0, sz_1, sz_2, sz_3, sz_4, sz_5, sz_6, sz_7, sz_8, sz_9, sz_10, sz_11, sz_12, sz_13, sz_14, sz_15, sz_16, e7, backL_bl _ _ _ hst]
    simp only [sSeq_eq, seq_nx', seq_rt', seq_bk', seq_ct', bind_ok', then_ok', opt_some', toB_ok', eCall_eq, back_ok', eCallL_eq, looksL_some, sNil, sBreak, sCont, sExpr, sRet, sRetN, sIf, sSet, sAsg, sPar2, par2K, sPar3, par3K, sFor, sAppend, sExtend, sDPut, storeK, sSubApp, eOf, eV, oV, eC, eVar, oVar, eTup, eLst, vsNil, vsCons, osNil, osCons, lsNil, lsCons, eOp, binD, cmpP, cm_eq_str, cm_ne_str, cm_eq_int, cm_ne_int, cm_lt, cm_le, cm_gt, cm_ge, cm_slt, cm_sle, cm_is, cm_isnot, cm_in_tup, cm_nin_tup, cm_in_lst, cm_nin_lst, cm_in_dct, cm_nin_dct, cm_in_str, cm_ne_nn, cm_eq_nn, Nat.le_refl, Nat.zero_le, Nat.reduceLeDiff, big_0, seqIx_0, pop_last, drop_last, max2, eSortK, atI_0, atI_1, atI_2, atI_3, atI_4, tCmp, tChain2, eT, tAnd2, tOr2, tNot1, bOf, eAnd2, eOr2, eNot1, eIf, truD, tTru, eSub, S.flat, S.look, S.looks, S.deref, subD, pNone, pSome, eSlice, sliceD, eRev, eCallB, iVal, itemsD, iRange1, iRange2, iEnumM, gVar, gsNil, gsCons, gTupM, eLc, lc1, for1, tTrue, S.wipe, wipeE, ePop, ePopAt, S.isList, S.bound, eMove, capL, eIsi, D.isT, eDict0, eDisp, eDispL, eCell, psNil, psCons, D.key, isNon_non, isNon_int, isNon_str, isNon_tup, isNon_lst, isNon_bl, isNon_dct, Option.map, Option.bind, List.getElem?_cons_zero, List.getElem?_cons_succ, List.set_cons_zero, List.set_cons_succ, List.map_cons, List.map_nil, List.length_cons, List.length_nil, List.replicate_succ, List.replicate_zero, List.cons_append, List.nil_append, List.append_nil, Nat.reduceSub, Nat.reduceAdd, Nat.reduceEqDiff, decide_true, decide_false, if_true, if_false, ite_true, ite_false, reduceIte, Bool.false_eq_true, Nat.reduceLT, Nat.zero_lt_succ, Nat.lt_add_one, Nat.zero_add, true_and, and_true, or_true, true_or, false_and, and_false, false_or, or_false, Bool.not_true, Bool.not_false, Nat.succ_lt_succ_iff, Nat.add_lt_add_iff_right, beq_self_eq_true, String.reduceBEq, Bool.or_true, Bool.true_or, Bool.or_false, Bool.false_or, Bool.and_true, Bool.true_and, Bool.and_false, Bool.false_and, Int.cast_ofNat_Int, Int.reduceBEq, Int.reduceLT, Int.reduceLE, Int.reduceAdd, Int.reduceSub, Int.reduceMul, Int.reduceNeg, Int.natCast_zero, Int.natCast_one, sz_0, sz_1, sz_2, sz_3, sz_4, sz_5, sz_6, sz_7, sz_8, sz_9, sz_10, sz_11, sz_12, sz_13, sz_14, sz_15, sz_16, pD, e8, hz]
    exact ⟨_, _, rfl⟩
  · rintro s' ⟨j1, j2, rfl⟩
    simp only [sSeq_eq, seq_nx', seq_rt', seq_bk', seq_ct', bind_ok', then_ok', opt_some', toB_ok', eCall_eq, back_ok', eCallL_eq, looksL_some, sNil, sBreak, sCont, sExpr, sRet, sRetN, sIf, sSet, sAsg, sPar2, par2K, sPar3, par3K, sFor, sAppend, sExtend, sDPut, storeK, sSubApp, eOf, eV, oV, eC, eVar, oVar, eTup, eLst, vsNil, vsCons, osNil, osCons, lsNil, lsCons, eOp, binD, cmpP, cm_eq_str, cm_ne_str, cm_eq_int, cm_ne_int, cm_lt, cm_le, cm_gt, cm_ge, cm_slt, cm_sle, cm_is, cm_isnot, cm_in_tup, cm_nin_tup, cm_in_lst, cm_nin_lst, cm_in_dct, cm_nin_dct, cm_in_str, cm_ne_nn, cm_eq_nn, Nat.le_refl, Nat.zero_le, Nat.reduceLeDiff, big_0, seqIx_0, pop_last, drop_last, max2, eSortK, atI_0, atI_1, atI_2, atI_3, atI_4, tCmp, tChain2, eT, tAnd2, tOr2, tNot1, bOf, eAnd2, eOr2, eNot1, eIf, truD, tTru, eSub, S.flat, S.look, S.looks, S.deref, subD, pNone, pSome, eSlice, sliceD, eRev, eCallB, iVal, itemsD, iRange1, iRange2, iEnumM, gVar, gsNil, gsCons, gTupM, eLc, lc1, for1, tTrue, S.wipe, wipeE, ePop, ePopAt, S.isList, S.bound, eMove, capL, eIsi, D.isT, eDict0, eDisp, eDispL, eCell, psNil, psCons, D.key, isNon_non, isNon_int, isNon_str, isNon_tup, isNon_lst, isNon_bl, isNon_dct, Option.map, Option.bind, List.getElem?_cons_zero, List.getElem?_cons_succ, List.set_cons_zero, List.set_cons_succ, List.map_cons, List.map_nil, List.length_cons, List.length_nil, List.replicate_succ, List.replicate_zero, List.cons_append, List.nil_append, List.append_nil, Nat.reduceSub, Nat.reduceAdd, Nat.reduceEqDiff, decide_true, decide_false, if_true, if_false, ite_true, ite_false, reduceIte, Bool.false_eq_true, Nat.reduceLT, Nat.zero_lt_succ, Nat.lt_add_one, Nat.zero_add, true_and, and_true, or_true, true_or, false_and, and_false, false_or, or_false, Bool.not_true, Bool.not_false, Nat.succ_lt_succ_iff, Nat.add_lt_add_iff_right, beq_self_eq_true, String.reduceBEq, Bool.or_true, Bool.true_or, Bool.or_false, Bool.false_or, Bool.and_true, Bool.true_and, Bool.and_false, Bool.false_and, Int.cast_ofNat_Int, Int.reduceBEq, Int.reduceLT, Int.reduceLE, Int.reduceAdd, Int.reduceSub, Int.reduceMul, Int.reduceNeg, Int.natCast_zero, Int.natCast_one, sz_0, sz_1, sz_2, sz_3, sz_4, sz_5, sz_6, sz_7, sz_8, sz_9, sz_10, sz_11, sz_12, sz_13, sz_14, sz_15, sz_16]
    exact ⟨rfl, rfl⟩
def NeedTreeOk (f : List D → S → R (Nat × D)) : Prop := FirstWrongOk f
theorem need_tree_ok (C : Call) (h : FirstWrongOk (C "first_wrong")) : NeedTreeOk (f_need_tree C) := by
  intro w d ps st ok hst
  refine run_eq ?_
  unfold m_need_tree
  simp only [sSeq_eq, seq_nx', seq_rt', seq_bk', seq_ct', bind_ok', then_ok', opt_some', toB_ok', eCall_eq, back_ok', eCallL_eq, looksL_some, sNil, sBreak, sCont, sExpr, sRet, sRetN, sIf, sSet, sAsg, sPar2, par2K, sPar3, par3K, sFor, sAppend, sExtend, sDPut, storeK, sSubApp, eOf, eV, oV, eC, eVar, oVar, eTup, eLst, vsNil, vsCons, osNil, osCons, lsNil, lsCons, eOp, binD, cmpP, cm_eq_str, cm_ne_str, cm_eq_int, cm_ne_int, cm_lt, cm_le, cm_gt, cm_ge, cm_slt, cm_sle, cm_is, cm_isnot, cm_in_tup, cm_nin_tup, cm_in_lst, cm_nin_lst, cm_in_dct, cm_nin_dct, cm_in_str, cm_ne_nn, cm_eq_nn, Nat.le_refl, Nat.zero_le, Nat.reduceLeDiff, big_0, seqIx_0, pop_last, drop_last, max2, eSortK, atI_0, atI_1, atI_2, atI_3, atI_4, tCmp, tChain2, eT, tAnd2, tOr2, tNot1, bOf, eAnd2, eOr2, eNot1, eIf, truD, tTru, eSub, S.flat, S.look, S.looks, S.deref, subD, pNone, pSome, eSlice, sliceD, eRev, eCallB, iVal, itemsD, iRange1, iRange2, iEnumM, gVar, gsNil, gsCons, gTupM, eLc, lc1, for1, tTrue, S.wipe, wipeE, ePop, ePopAt, S.isList, S.bound, eMove, capL, eIsi, D.isT, eDict0, eDisp, eDispL, eCell, psNil, psCons, D.key, isNon_non, isNon_int, isNon_str, isNon_tup, isNon_lst, isNon_bl, isNon_dct, Option.map, Option.bind, List.getElem?_cons_zero, List.getElem?_cons_succ, List.set_cons_zero, List.set_cons_succ, List.map_cons, List.map_nil, List.length_cons, List.length_nil, List.replicate_succ, List.replicate_zero, List.cons_append, List.nil_append, List.append_nil, Nat.reduceSub, Nat.reduceAdd, Nat.reduceEqDiff, decide_true, decide_false, if_true, if_false, ite_true, ite_false, reduceIte, Bool.false_eq_true, Nat.reduceLT, Nat.zero_lt_succ, Nat.lt_add_one, Nat.zero_add, true_and, and_true, or_true, true_or, false_and, and_false, false_or, or_false, Bool.not_true, Bool.not_false, Nat.succ_lt_succ_iff, Nat.add_lt_add_iff_right, beq_self_eq_true, String.reduceBEq, Bool.or_true, Bool.true_or, Bool.or_false, Bool.false_or, Bool.and_true, Bool.true_and, Bool.and_false, Bool.false_and, Int.cast_ofNat_Int, Int.reduceBEq, Int.reduceLT, Int.reduceLE, Int.reduceAdd, Int.reduceSub, Int.reduceMul, Int.reduceNeg, Int.natCast_zero, Int.natCast_one, sz_0, sz_1, sz_2, sz_3, sz_4, sz_5, sz_6, sz_7, sz_8, sz_9, sz_10, sz_11, sz_12, sz_13, sz_14, sz_15, sz_16, h w d ps st ok hst]
  exact ⟨rfl, rfl⟩
/-! ### who is away -/
/-- rising names of people -/
structure AwayOk (ps : List Pe) (aw : List Str) : Prop where
  mem : ∀ x ∈ aw, x ∈ ps.map (·.1)
  up : ∀ pre x y post, aw = pre ++ x :: y :: post → x.cps.toList < y.cps.toList
theorem AwayOk.nil (ps : List Pe) : AwayOk ps [] := ⟨fun _ h => (by cases h), fun pre x y post e => by simp at e⟩
theorem names_of_people (own : List Nat) (g : Tm) (t : ET) (m : EV) (s : S) (ps : List Pe) (hl : ps.length ≤ 1000000) (h : ∀ p ∈ ps, lc1 own g t m (pD p) s = .ok (some (.str p.1)) s) : lcM own g t m (ps.map pD) [] s = .ok ((ps.map (·.1)).map D.str) s := by
  rw [lcM_map pD (fun p => .str p.1) ps hl h, List.map_map]; rfl
def FirstNotAwayOk (f : List D → S → R (Nat × D)) : Prop := ∀ (w d : Int) (ps : List Pe) (aw : List Str) (st : St), TreeOk w d ps → AwayOk ps aw → f [treeD w d ps, namesD aw] ⟨[], st⟩ = .ok (0, .non) ⟨[], st⟩
theorem first_not_away_ok (C : Call) : FirstNotAwayOk (f_first_not_away C) := by
  intro w d ps aw st ok ao
  refine run_eq ?_
  unfold m_first_not_away treeD namesD
  have hn := ok.n
  have key : lcM [5] (gVar 5) tTrue (eSub (oVar 5) (oV (eC (.int 0)))) (ps.map pD) [] ⟨[some (0, D.tup [.int w, .int d, .tup (ps.map pD)]), some (0, .tup (aw.map D.str)), none, none, none, none], st⟩ = .ok ((ps.map (·.1)).map D.str) ⟨[some (0, D.tup [.int w, .int d, .tup (ps.map pD)]), some (0, .tup (aw.map D.str)), none, none, none, none], st⟩ :=
    names_of_people _ _ _ _ _ ps (by omega) fun p _ => by simp only [sSeq_eq, seq_nx', seq_rt', seq_bk', seq_ct', bind_ok', then_ok', opt_some', toB_ok', eCall_eq, back_ok', eCallL_eq, looksL_some, sNil, sBreak, sCont, sExpr, sRet, sRetN, sIf, sSet, sAsg, sPar2, par2K, sPar3, par3K, sFor, sAppend, sExtend, sDPut, storeK, sSubApp, eOf, eV, oV, eC, eVar, oVar, eTup, eLst, vsNil, vsCons, osNil, osCons, lsNil, lsCons, eOp, binD, cmpP, cm_eq_str, cm_ne_str, cm_eq_int, cm_ne_int, cm_lt, cm_le, cm_gt, cm_ge, cm_slt, cm_sle, cm_is, cm_isnot, cm_in_tup, cm_nin_tup, cm_in_lst, cm_nin_lst, cm_in_dct, cm_nin_dct, cm_in_str, cm_ne_nn, cm_eq_nn, Nat.le_refl, Nat.zero_le, Nat.reduceLeDiff, big_0, seqIx_0, pop_last, drop_last, max2, eSortK, atI_0, atI_1, atI_2, atI_3, atI_4, tCmp, tChain2, eT, tAnd2, tOr2, tNot1, bOf, eAnd2, eOr2, eNot1, eIf, truD, tTru, eSub, S.flat, S.look, S.looks, S.deref, subD, pNone, pSome, eSlice, sliceD, eRev, eCallB, iVal, itemsD, iRange1, iRange2, iEnumM, gVar, gsNil, gsCons, gTupM, eLc, lc1, for1, tTrue, S.wipe, wipeE, ePop, ePopAt, S.isList, S.bound, eMove, capL, eIsi, D.isT, eDict0, eDisp, eDispL, eCell, psNil, psCons, D.key, isNon_non, isNon_int, isNon_str, isNon_tup, isNon_lst, isNon_bl, isNon_dct, Option.map, Option.bind, List.getElem?_cons_zero, List.getElem?_cons_succ, List.set_cons_zero, List.set_cons_succ, List.map_cons, List.map_nil, List.length_cons, List.length_nil, List.replicate_succ, List.replicate_zero, List.cons_append, List.nil_append, List.append_nil, Nat.reduceSub, Nat.reduceAdd, Nat.reduceEqDiff, decide_true, decide_false, if_true, if_false, ite_true, ite_false, reduceIte, Bool.false_eq_true, Nat.reduceLT, Nat.zero_lt_succ, Nat.lt_add_one, Nat.zero_add, true_and, and_true, or_true, true_or, false_and, and_false, false_or, or_false, Bool.not_true, Bool.not_false, Nat.succ_lt_succ_iff, Nat.add_lt_add_iff_right, beq_self_eq_true, String.reduceBEq, Bool.or_true, Bool.true_or, Bool.or_false, Bool.false_or, Bool.and_true, Bool.true_and, Bool.and_false, Bool.false_and, Int.cast_ofNat_Int, Int.reduceBEq, Int.reduceLT, Int.reduceLE, Int.reduceAdd, Int.reduceSub, Int.reduceMul, Int.reduceNeg, Int.natCast_zero, Int.natCast_one, sz_0, sz_1, sz_2, sz_3, sz_4, sz_5, sz_6, sz_7, sz_8, sz_9, sz_10, sz_11, sz_12, sz_13, sz_14, sz_15, sz_16, pD]
  simp only [sSeq_eq, seq_nx', seq_rt', seq_bk', seq_ct', bind_ok', then_ok', opt_some', toB_ok', eCall_eq, back_ok', eCallL_eq, looksL_some, sNil, sBreak, sCont, sExpr, sRet, sRetN, sIf, sSet, sAsg, sPar2, par2K, sPar3, par3K, sFor, sAppend, sExtend, sDPut, storeK, sSubApp, eOf, eV, oV, eC, eVar, oVar, eTup, eLst, vsNil, vsCons, osNil, osCons, lsNil, lsCons, eOp, binD, cmpP, cm_eq_str, cm_ne_str, cm_eq_int, cm_ne_int, cm_lt, cm_le, cm_gt, cm_ge, cm_slt, cm_sle, cm_is, cm_isnot, cm_in_tup, cm_nin_tup, cm_in_lst, cm_nin_lst, cm_in_dct, cm_nin_dct, cm_in_str, cm_ne_nn, cm_eq_nn, Nat.le_refl, Nat.zero_le, Nat.reduceLeDiff, big_0, seqIx_0, pop_last, drop_last, max2, eSortK, atI_0, atI_1, atI_2, atI_3, atI_4, tCmp, tChain2, eT, tAnd2, tOr2, tNot1, bOf, eAnd2, eOr2, eNot1, eIf, truD, tTru, eSub, S.flat, S.look, S.looks, S.deref, subD, pNone, pSome, eSlice, sliceD, eRev, eCallB, iVal, itemsD, iRange1, iRange2, iEnumM, gVar, gsNil, gsCons, gTupM, eLc, lc1, for1, tTrue, S.wipe, wipeE, ePop, ePopAt, S.isList, S.bound, eMove, capL, eIsi, D.isT, eDict0, eDisp, eDispL, eCell, psNil, psCons, D.key, isNon_non, isNon_int, isNon_str, isNon_tup, isNon_lst, isNon_bl, isNon_dct, Option.map, Option.bind, List.getElem?_cons_zero, List.getElem?_cons_succ, List.set_cons_zero, List.set_cons_succ, List.map_cons, List.map_nil, List.length_cons, List.length_nil, List.replicate_succ, List.replicate_zero, List.cons_append, List.nil_append, List.append_nil, Nat.reduceSub, Nat.reduceAdd, Nat.reduceEqDiff, decide_true, decide_false, if_true, if_false, ite_true, ite_false, reduceIte, Bool.false_eq_true, Nat.reduceLT, Nat.zero_lt_succ, Nat.lt_add_one, Nat.zero_add, true_and, and_true, or_true, true_or, false_and, and_false, false_or, or_false, Bool.not_true, Bool.not_false, Nat.succ_lt_succ_iff, Nat.add_lt_add_iff_right, beq_self_eq_true, String.reduceBEq, Bool.or_true, Bool.true_or, Bool.or_false, Bool.false_or, Bool.and_true, Bool.true_and, Bool.and_false, Bool.false_and, Int.cast_ofNat_Int, Int.reduceBEq, Int.reduceLT, Int.reduceLE, Int.reduceAdd, Int.reduceSub, Int.reduceMul, Int.reduceNeg, Int.natCast_zero, Int.natCast_one, sz_0, sz_1, sz_2, sz_3, sz_4, sz_5, sz_6, sz_7, sz_8, sz_9, sz_10, sz_11, sz_12, sz_13, sz_14, sz_15, sz_16, key]
  refine for_q (fun q : Str × Nat => D.tup [.int (q.2 : Nat), .str q.1])
    (fun pre s => ∃ j1 j2, s = ⟨[some (0, D.tup [.int w, .int d, .tup (ps.map pD)]), some (0, .tup (aw.map D.str)), some (1, .lst ((ps.map (·.1)).map D.str)), j1, j2, none], st⟩) aw.zipIdx (by rw [numL_eq, List.zipIdx_map, List.map_map]; rfl) ?_ ⟨none, none, rfl⟩ ?_
  · rintro pre ⟨x, n⟩ post s e ⟨j1, j2, rfl⟩
    obtain ⟨ep, hn2⟩ := zipIdx_at (pre := []) (post := []) e
    have hn2 : n = pre.length := hn2
    have hm : decide (x ∈ ps.map (·.1)) = true := decide_eq_true (ao.mem x (by rw [ep]; simp))
    simp only [sSeq_eq, seq_nx', seq_rt', seq_bk', seq_ct', bind_ok', then_ok', opt_some', toB_ok', eCall_eq, back_ok', eCallL_eq, looksL_some, sNil, sBreak, sCont, sExpr, sRet, sRetN, sIf, sSet, sAsg, sPar2, par2K, sPar3, par3K, sFor, sAppend, sExtend, sDPut, storeK, sSubApp, eOf, eV, oV, eC, eVar, oVar, eTup, eLst, vsNil, vsCons, osNil, osCons, lsNil, lsCons, eOp, binD, cmpP, cm_eq_str, cm_ne_str, cm_eq_int, cm_ne_int, cm_lt, cm_le, cm_gt, cm_ge, cm_slt, cm_sle, cm_is, cm_isnot, cm_in_tup, cm_nin_tup, cm_in_lst, cm_nin_lst, cm_in_dct, cm_nin_dct, cm_in_str, cm_ne_nn, cm_eq_nn, Nat.le_refl, Nat.zero_le, Nat.reduceLeDiff, big_0, seqIx_0, pop_last, drop_last, max2, eSortK, atI_0, atI_1, atI_2, atI_3, atI_4, tCmp, tChain2, eT, tAnd2, tOr2, tNot1, bOf, eAnd2, eOr2, eNot1, eIf, truD, tTru, eSub, S.flat, S.look, S.looks, S.deref, subD, pNone, pSome, eSlice, sliceD, eRev, eCallB, iVal, itemsD, iRange1, iRange2, iEnumM, gVar, gsNil, gsCons, gTupM, eLc, lc1, for1, tTrue, S.wipe, wipeE, ePop, ePopAt, S.isList, S.bound, eMove, capL, eIsi, D.isT, eDict0, eDisp, eDispL, eCell, psNil, psCons, D.key, isNon_non, isNon_int, isNon_str, isNon_tup, isNon_lst, isNon_bl, isNon_dct, Option.map, Option.bind, List.getElem?_cons_zero, List.getElem?_cons_succ, List.set_cons_zero, List.set_cons_succ, List.map_cons, List.map_nil, List.length_cons, List.length_nil, List.replicate_succ, List.replicate_zero, List.cons_append, List.nil_append, List.append_nil, Nat.reduceSub, Nat.reduceAdd, Nat.reduceEqDiff, decide_true, decide_false, if_true, if_false, ite_true, ite_false, reduceIte, Bool.false_eq_true, Nat.reduceLT, Nat.zero_lt_succ, Nat.lt_add_one, Nat.zero_add, true_and, and_true, or_true, true_or, false_and, and_false, false_or, or_false, Bool.not_true, Bool.not_false, Nat.succ_lt_succ_iff, Nat.add_lt_add_iff_right, beq_self_eq_true, String.reduceBEq, Bool.or_true, Bool.true_or, Bool.or_false, Bool.false_or, Bool.and_true, Bool.true_and, Bool.and_false, Bool.false_and, Int.cast_ofNat_Int, Int.reduceBEq, Int.reduceLT, Int.reduceLE, Int.reduceAdd, Int.reduceSub, Int.reduceMul, Int.reduceNeg, Int.natCast_zero, Int.natCast_one, sz_0, sz_1, sz_2, sz_3, sz_4, sz_5, sz_6, sz_7, sz_8, sz_9, sz_10, sz_11, sz_12, sz_13, sz_14, sz_15, sz_16, hm]
    rcases List.eq_nil_or_concat pre with z | ⟨pre', y, z⟩
    · have h0 : decide ((0 : Int) < (n : Nat)) = false := decide_eq_false (by rw [hn2, z]; simp)
      simp only [sSeq_eq, seq_nx', seq_rt', seq_bk', seq_ct', bind_ok', then_ok', opt_some', toB_ok', eCall_eq, back_ok', eCallL_eq, looksL_some, sNil, sBreak, sCont, sExpr, sRet, sRetN, sIf, sSet, sAsg, sPar2, par2K, sPar3, par3K, sFor, sAppend, sExtend, sDPut, storeK, sSubApp, eOf, eV, oV, eC, eVar, oVar, eTup, eLst, vsNil, vsCons, osNil, osCons, lsNil, lsCons, eOp, binD, cmpP, cm_eq_str, cm_ne_str, cm_eq_int, cm_ne_int, cm_lt, cm_le, cm_gt, cm_ge, cm_slt, cm_sle, cm_is, cm_isnot, cm_in_tup, cm_nin_tup, cm_in_lst, cm_nin_lst, cm_in_dct, cm_nin_dct, cm_in_str, cm_ne_nn, cm_eq_nn, Nat.le_refl, Nat.zero_le, Nat.reduceLeDiff, big_0, seqIx_0, pop_last, drop_last, max2, eSortK, atI_0, atI_1, atI_2, atI_3, atI_4, tCmp, tChain2, eT, tAnd2, tOr2, tNot1, bOf, eAnd2, eOr2, eNot1, eIf, truD, tTru, eSub, S.flat, S.look, S.looks, S.deref, subD, pNone, pSome, eSlice, sliceD, eRev, eCallB, iVal, itemsD, iRange1, iRange2, iEnumM, gVar, gsNil, gsCons, gTupM, eLc, lc1, for1, tTrue, S.wipe, wipeE, ePop, ePopAt, S.isList, S.bound, eMove, capL, eIsi, D.isT, eDict0, eDisp, eDispL, eCell, psNil, psCons, D.key, isNon_non, isNon_int, isNon_str, isNon_tup, isNon_lst, isNon_bl, isNon_dct, Option.map, Option.bind, List.getElem?_cons_zero, List.getElem?_cons_succ, List.set_cons_zero, List.set_cons_succ, List.map_cons, List.map_nil, List.length_cons, List.length_nil, List.replicate_succ, List.replicate_zero, List.cons_append, List.nil_append, List.append_nil, Nat.reduceSub, Nat.reduceAdd, Nat.reduceEqDiff, decide_true, decide_false, if_true, if_false, ite_true, ite_false, reduceIte, Bool.false_eq_true, Nat.reduceLT, Nat.zero_lt_succ, Nat.lt_add_one, Nat.zero_add, true_and, and_true, or_true, true_or, false_and, and_false, false_or, or_false, Bool.not_true, Bool.not_false, Nat.succ_lt_succ_iff, Nat.add_lt_add_iff_right, beq_self_eq_true, String.reduceBEq, Bool.or_true, Bool.true_or, Bool.or_false, Bool.false_or, Bool.and_true, Bool.true_and, Bool.and_false, Bool.false_and, Int.cast_ofNat_Int, Int.reduceBEq, Int.reduceLT, Int.reduceLE, Int.reduceAdd, Int.reduceSub, Int.reduceMul, Int.reduceNeg, Int.natCast_zero, Int.natCast_one, sz_0, sz_1, sz_2, sz_3, sz_4, sz_5, sz_6, sz_7, sz_8, sz_9, sz_10, sz_11, sz_12, sz_13, sz_14, sz_15, sz_16, h0]
      exact ⟨_, _, rfl⟩
    · have h0 : decide ((0 : Int) < (n : Nat)) = true := decide_eq_true (by rw [hn2, z]; simp)
      have hat : atI (aw.map D.str) ((n : Nat) - 1) = some (.str y.1) := by
        have : ((n : Nat) : Int) - 1 = ((pre'.length : Nat) : Int) := by rw [hn2, z]; simp
        rw [this, atI_nat, List.getElem?_map, ep, z]
        simp
      have hlt : decide (x.cps.toList < y.1.cps.toList ∨ x = y.1) = false := decide_eq_false (by
        have := ao.up (pre'.map (·.1)) y.1 x (post.map (·.1)) (by rw [ep, z]; simp)
        rintro (q | q)
        · exact absurd (List.lt_trans this q) (List.lt_irrefl _)
        · rw [q] at this; exact absurd this (List.lt_irrefl _))
      have hle : decide (y.1.cps.toList < x.cps.toList) = true := decide_eq_true (ao.up (pre'.map (·.1)) y.1 x (post.map (·.1)) (by rw [ep, z]; simp))
      simp only [sSeq_eq, seq_nx', seq_rt', seq_bk', seq_ct', bind_ok', then_ok', opt_some', toB_ok', eCall_eq, back_ok', eCallL_eq, looksL_some, sNil, sBreak, sCont, sExpr, sRet, sRetN, sIf, sSet, sAsg, sPar2, par2K, sPar3, par3K, sFor, sAppend, sExtend, sDPut, storeK, sSubApp, eOf, eV, oV, eC, eVar, oVar, eTup, eLst, vsNil, vsCons, osNil, osCons, lsNil, lsCons, eOp, binD, cmpP, cm_eq_str, cm_ne_str, cm_eq_int, cm_ne_int, cm_lt, cm_le, cm_gt, cm_ge, cm_slt, cm_sle, cm_is, cm_isnot, cm_in_tup, cm_nin_tup, cm_in_lst, cm_nin_lst, cm_in_dct, cm_nin_dct, cm_in_str, cm_ne_nn, cm_eq_nn, Nat.le_refl, Nat.zero_le, Nat.reduceLeDiff, big_0, seqIx_0, pop_last, drop_last, max2, eSortK, atI_0, atI_1, atI_2, atI_3, atI_4, tCmp, tChain2, eT, tAnd2, tOr2, tNot1, bOf, eAnd2, eOr2, eNot1, eIf, truD, tTru, eSub, S.flat, S.look, S.looks, S.deref, subD, pNone, pSome, eSlice, sliceD, eRev, eCallB, iVal, itemsD, iRange1, iRange2, iEnumM, gVar, gsNil, gsCons, gTupM, eLc, lc1, for1, tTrue, S.wipe, wipeE, ePop, ePopAt, S.isList, S.bound, eMove, capL, eIsi, D.isT, eDict0, eDisp, eDispL, eCell, psNil, psCons, D.key, isNon_non, isNon_int, isNon_str, isNon_tup, isNon_lst, isNon_bl, isNon_dct, Option.map, Option.bind, List.getElem?_cons_zero, List.getElem?_cons_succ, List.set_cons_zero, List.set_cons_succ, List.map_cons, List.map_nil, List.length_cons, List.length_nil, List.replicate_succ, List.replicate_zero, List.cons_append, List.nil_append, List.append_nil, Nat.reduceSub, Nat.reduceAdd, Nat.reduceEqDiff, decide_true, decide_false, if_true, if_false, ite_true, ite_false, reduceIte, Bool.false_eq_true, Nat.reduceLT, Nat.zero_lt_succ, Nat.lt_add_one, Nat.zero_add, true_and, and_true, or_true, true_or, false_and, and_false, false_or, or_false, Bool.not_true, Bool.not_false, Nat.succ_lt_succ_iff, Nat.add_lt_add_iff_right, beq_self_eq_true, String.reduceBEq, Bool.or_true, Bool.true_or, Bool.or_false, Bool.false_or, Bool.and_true, Bool.true_and, Bool.and_false, Bool.false_and, Int.cast_ofNat_Int, Int.reduceBEq, Int.reduceLT, Int.reduceLE, Int.reduceAdd, Int.reduceSub, Int.reduceMul, Int.reduceNeg, Int.natCast_zero, Int.natCast_one, sz_0, sz_1, sz_2, sz_3, sz_4, sz_5, sz_6, sz_7, sz_8, sz_9, sz_10, sz_11, sz_12, sz_13, sz_14, sz_15, sz_16, h0, hat, hle]
      exact ⟨_, _, rfl⟩
  · rintro s' ⟨j1, j2, rfl⟩
    simp only [sSeq_eq, seq_nx', seq_rt', seq_bk', seq_ct', bind_ok', then_ok', opt_some', toB_ok', eCall_eq, back_ok', eCallL_eq, looksL_some, sNil, sBreak, sCont, sExpr, sRet, sRetN, sIf, sSet, sAsg, sPar2, par2K, sPar3, par3K, sFor, sAppend, sExtend, sDPut, storeK, sSubApp, eOf, eV, oV, eC, eVar, oVar, eTup, eLst, vsNil, vsCons, osNil, osCons, lsNil, lsCons, eOp, binD, cmpP, cm_eq_str, cm_ne_str, cm_eq_int, cm_ne_int, cm_lt, cm_le, cm_gt, cm_ge, cm_slt, cm_sle, cm_is, cm_isnot, cm_in_tup, cm_nin_tup, cm_in_lst, cm_nin_lst, cm_in_dct, cm_nin_dct, cm_in_str, cm_ne_nn, cm_eq_nn, Nat.le_refl, Nat.zero_le, Nat.reduceLeDiff, big_0, seqIx_0, pop_last, drop_last, max2, eSortK, atI_0, atI_1, atI_2, atI_3, atI_4, tCmp, tChain2, eT, tAnd2, tOr2, tNot1, bOf, eAnd2, eOr2, eNot1, eIf, truD, tTru, eSub, S.flat, S.look, S.looks, S.deref, subD, pNone, pSome, eSlice, sliceD, eRev, eCallB, iVal, itemsD, iRange1, iRange2, iEnumM, gVar, gsNil, gsCons, gTupM, eLc, lc1, for1, tTrue, S.wipe, wipeE, ePop, ePopAt, S.isList, S.bound, eMove, capL, eIsi, D.isT, eDict0, eDisp, eDispL, eCell, psNil, psCons, D.key, isNon_non, isNon_int, isNon_str, isNon_tup, isNon_lst, isNon_bl, isNon_dct, Option.map, Option.bind, List.getElem?_cons_zero, List.getElem?_cons_succ, List.set_cons_zero, List.set_cons_succ, List.map_cons, List.map_nil, List.length_cons, List.length_nil, List.replicate_succ, List.replicate_zero, List.cons_append, List.nil_append, List.append_nil, Nat.reduceSub, Nat.reduceAdd, Nat.reduceEqDiff, decide_true, decide_false, if_true, if_false, ite_true, ite_false, reduceIte, Bool.false_eq_true, Nat.reduceLT, Nat.zero_lt_succ, Nat.lt_add_one, Nat.zero_add, true_and, and_true, or_true, true_or, false_and, and_false, false_or, or_false, Bool.not_true, Bool.not_false, Nat.succ_lt_succ_iff, Nat.add_lt_add_iff_right, beq_self_eq_true, String.reduceBEq, Bool.or_true, Bool.true_or, Bool.or_false, Bool.false_or, Bool.and_true, Bool.true_and, Bool.and_false, Bool.false_and, Int.cast_ofNat_Int, Int.reduceBEq, Int.reduceLT, Int.reduceLE, Int.reduceAdd, Int.reduceSub, Int.reduceMul, Int.reduceNeg, Int.natCast_zero, Int.natCast_one, sz_0, sz_1, sz_2, sz_3, sz_4, sz_5, sz_6, sz_7, sz_8, sz_9, sz_10, sz_11, sz_12, sz_13, sz_14, sz_15, sz_16]
    exact ⟨rfl, rfl⟩
def NeedAwayOk (f : List D → S → R (Nat × D)) : Prop := ∀ (w d : Int) (ps : List Pe) (aw : List Str) (st : St), TreeOk w d ps → AwayOk ps aw → st.all flatC = true → f [treeD w d ps, namesD aw] ⟨[], st⟩ = .ok (0, .non) ⟨[], st⟩
theorem need_away_ok (C : Call) (h1 : NeedTreeOk (C "need_tree")) (h2 : FirstNotAwayOk (C "first_not_away")) : NeedAwayOk (f_need_away C) := by
  intro w d ps aw st ok ao hst
  refine run_eq ?_
  unfold m_need_away
  simp only [sSeq_eq, seq_nx', seq_rt', seq_bk', seq_ct', bind_ok', then_ok', opt_some', toB_ok', eCall_eq, back_ok', eCallL_eq, looksL_some, sNil, sBreak, sCont, sExpr, sRet, sRetN, sIf, sSet, sAsg, sPar2, par2K, sPar3, par3K, sFor, sAppend, sExtend, sDPut, storeK, sSubApp, eOf, eV, oV, eC, eVar, oVar, eTup, eLst, vsNil, vsCons, osNil, osCons, lsNil, lsCons, eOp, binD, cmpP, cm_eq_str, cm_ne_str, cm_eq_int, cm_ne_int, cm_lt, cm_le, cm_gt, cm_ge, cm_slt, cm_sle, cm_is, cm_isnot, cm_in_tup, cm_nin_tup, cm_in_lst, cm_nin_lst, cm_in_dct, cm_nin_dct, cm_in_str, cm_ne_nn, cm_eq_nn, Nat.le_refl, Nat.zero_le, Nat.reduceLeDiff, big_0, seqIx_0, pop_last, drop_last, max2, eSortK, atI_0, atI_1, atI_2, atI_3, atI_4, tCmp, tChain2, eT, tAnd2, tOr2, tNot1, bOf, eAnd2, eOr2, eNot1, eIf, truD, tTru, eSub, S.flat, S.look, S.looks, S.deref, subD, pNone, pSome, eSlice, sliceD, eRev, eCallB, iVal, itemsD, iRange1, iRange2, iEnumM, gVar, gsNil, gsCons, gTupM, eLc, lc1, for1, tTrue, S.wipe, wipeE, ePop, ePopAt, S.isList, S.bound, eMove, capL, eIsi, D.isT, eDict0, eDisp, eDispL, eCell, psNil, psCons, D.key, isNon_non, isNon_int, isNon_str, isNon_tup, isNon_lst, isNon_bl, isNon_dct, Option.map, Option.bind, List.getElem?_cons_zero, List.getElem?_cons_succ, List.set_cons_zero, List.set_cons_succ, List.map_cons, List.map_nil, List.length_cons, List.length_nil, List.replicate_succ, List.replicate_zero, List.cons_append, List.nil_append, List.append_nil, Nat.reduceSub, Nat.reduceAdd, Nat.reduceEqDiff, decide_true, decide_false, if_true, if_false, ite_true, ite_false, reduceIte, Bool.false_eq_true, Nat.reduceLT, Nat.zero_lt_succ, Nat.lt_add_one, Nat.zero_add, true_and, and_true, or_true, true_or, false_and, and_false, false_or, or_false, Bool.not_true, Bool.not_false, Nat.succ_lt_succ_iff, Nat.add_lt_add_iff_right, beq_self_eq_true, String.reduceBEq, Bool.or_true, Bool.true_or, Bool.or_false, Bool.false_or, Bool.and_true, Bool.true_and, Bool.and_false, Bool.false_and, Int.cast_ofNat_Int, Int.reduceBEq, Int.reduceLT, Int.reduceLE, Int.reduceAdd, Int.reduceSub, Int.reduceMul, Int.reduceNeg, Int.natCast_zero, Int.natCast_one, sz_0, sz_1, sz_2, sz_3, sz_4, sz_5, sz_6, sz_7, sz_8, sz_9, sz_10, sz_11, sz_12, sz_13, sz_14, sz_15, sz_16, h1 w d ps st ok hst, h2 w d ps aw st ok ao]
  exact ⟨rfl, rfl⟩
def ThoseAwayOk (f : List D → S → R (Nat × D)) : Prop := (∀ (w d : Int) (ps : List Pe) (aw : List Str) (st : St), TreeOk w d ps → AwayOk ps aw → st.all flatC = true → f [treeD w d ps, namesD aw] ⟨[], st⟩ = .ok (0, namesD aw) ⟨[], st⟩) ∧
  ∀ (w d : Int) (ps : List Pe) (st : St), TreeOk w d ps → st.all flatC = true → f [treeD w d ps, .non] ⟨[], st⟩ = .ok (0, namesD []) ⟨[], st⟩
theorem those_away_ok (C : Call) (h : NeedAwayOk (C "need_away")) : ThoseAwayOk (f_those_away C) := by
  refine ⟨fun w d ps aw st ok ao hst => ?_, fun w d ps st ok hst => ?_⟩
  · refine run_eq ?_
    unfold m_those_away
    have e0 : (namesD aw).isNon = false := rfl
    simp only [sSeq_eq, seq_nx', seq_rt', seq_bk', seq_ct', bind_ok', then_ok', opt_some', toB_ok', eCall_eq, back_ok', eCallL_eq, looksL_some, sNil, sBreak, sCont, sExpr, sRet, sRetN, sIf, sSet, sAsg, sPar2, par2K, sPar3, par3K, sFor, sAppend, sExtend, sDPut, storeK, sSubApp, eOf, eV, oV, eC, eVar, oVar, eTup, eLst, vsNil, vsCons, osNil, osCons, lsNil, lsCons, eOp, binD, cmpP, cm_eq_str, cm_ne_str, cm_eq_int, cm_ne_int, cm_lt, cm_le, cm_gt, cm_ge, cm_slt, cm_sle, cm_is, cm_isnot, cm_in_tup, cm_nin_tup, cm_in_lst, cm_nin_lst, cm_in_dct, cm_nin_dct, cm_in_str, cm_ne_nn, cm_eq_nn, Nat.le_refl, Nat.zero_le, Nat.reduceLeDiff, big_0, seqIx_0, pop_last, drop_last, max2, eSortK, atI_0, atI_1, atI_2, atI_3, atI_4, tCmp, tChain2, eT, tAnd2, tOr2, tNot1, bOf, eAnd2, eOr2, eNot1, eIf, truD, tTru, eSub, S.flat, S.look, S.looks, S.deref, subD, pNone, pSome, eSlice, sliceD, eRev, eCallB, iVal, itemsD, iRange1, iRange2, iEnumM, gVar, gsNil, gsCons, gTupM, eLc, lc1, for1, tTrue, S.wipe, wipeE, ePop, ePopAt, S.isList, S.bound, eMove, capL, eIsi, D.isT, eDict0, eDisp, eDispL, eCell, psNil, psCons, D.key, isNon_non, isNon_int, isNon_str, isNon_tup, isNon_lst, isNon_bl, isNon_dct, Option.map, Option.bind, List.getElem?_cons_zero, List.getElem?_cons_succ, List.set_cons_zero, List.set_cons_succ, List.map_cons, List.map_nil, List.length_cons, List.length_nil, List.replicate_succ, List.replicate_zero, List.cons_append, List.nil_append, List.append_nil, Nat.reduceSub, Nat.reduceAdd, Nat.reduceEqDiff, decide_true, decide_false, if_true, if_false, ite_true, ite_false, reduceIte, Bool.false_eq_true, Nat.reduceLT, Nat.zero_lt_succ, Nat.lt_add_one, Nat.zero_add, true_and, and_true, or_true, true_or, false_and, and_false, false_or, or_false, Bool.not_true, Bool.not_false, Nat.succ_lt_succ_iff, Nat.add_lt_add_iff_right, beq_self_eq_true, String.reduceBEq, Bool.or_true, Bool.true_or, Bool.or_false, Bool.false_or, Bool.and_true, Bool.true_and, Bool.and_false, Bool.false_and, Int.cast_ofNat_Int, Int.reduceBEq, Int.reduceLT, Int.reduceLE, Int.reduceAdd, Int.reduceSub, Int.reduceMul, Int.reduceNeg, Int.natCast_zero, Int.natCast_one, sz_0, sz_1, sz_2, sz_3, sz_4, sz_5, sz_6, sz_7, sz_8, sz_9, sz_10, sz_11, sz_12, sz_13, sz_14, sz_15, sz_16, e0, h w d ps aw st ok ao hst]
    exact ⟨rfl, rfl⟩
  · have h := h w d ps [] st ok (.nil ps) hst
    refine run_eq ?_
    unfold m_those_away
    have e0 : D.tup [] = namesD [] := rfl
    simp only [sSeq_eq, seq_nx', seq_rt', seq_bk', seq_ct', bind_ok', then_ok', opt_some', toB_ok', eCall_eq, back_ok', eCallL_eq, looksL_some, sNil, sBreak, sCont, sExpr, sRet, sRetN, sIf, sSet, sAsg, sPar2, par2K, sPar3, par3K, sFor, sAppend, sExtend, sDPut, storeK, sSubApp, eOf, eV, oV, eC, eVar, oVar, eTup, eLst, vsNil, vsCons, osNil, osCons, lsNil, lsCons, eOp, binD, cmpP, cm_eq_str, cm_ne_str, cm_eq_int, cm_ne_int, cm_lt, cm_le, cm_gt, cm_ge, cm_slt, cm_sle, cm_is, cm_isnot, cm_in_tup, cm_nin_tup, cm_in_lst, cm_nin_lst, cm_in_dct, cm_nin_dct, cm_in_str, cm_ne_nn, cm_eq_nn, Nat.le_refl, Nat.zero_le, Nat.reduceLeDiff, big_0, seqIx_0, pop_last, drop_last, max2, eSortK, atI_0, atI_1, atI_2, atI_3, atI_4, tCmp, tChain2, eT, tAnd2, tOr2, tNot1, bOf, eAnd2, eOr2, eNot1, eIf, truD, tTru, eSub, S.flat, S.look, S.looks, S.deref, subD, pNone, pSome, eSlice, sliceD, eRev, eCallB, iVal, itemsD, iRange1, iRange2, iEnumM, gVar, gsNil, gsCons, gTupM, eLc, lc1, for1, tTrue, S.wipe, wipeE, ePop, ePopAt, S.isList, S.bound, eMove, capL, eIsi, D.isT, eDict0, eDisp, eDispL, eCell, psNil, psCons, D.key, isNon_non, isNon_int, isNon_str, isNon_tup, isNon_lst, isNon_bl, isNon_dct, Option.map, Option.bind, List.getElem?_cons_zero, List.getElem?_cons_succ, List.set_cons_zero, List.set_cons_succ, List.map_cons, List.map_nil, List.length_cons, List.length_nil, List.replicate_succ, List.replicate_zero, List.cons_append, List.nil_append, List.append_nil, Nat.reduceSub, Nat.reduceAdd, Nat.reduceEqDiff, decide_true, decide_false, if_true, if_false, ite_true, ite_false, reduceIte, Bool.false_eq_true, Nat.reduceLT, Nat.zero_lt_succ, Nat.lt_add_one, Nat.zero_add, true_and, and_true, or_true, true_or, false_and, and_false, false_or, or_false, Bool.not_true, Bool.not_false, Nat.succ_lt_succ_iff, Nat.add_lt_add_iff_right, beq_self_eq_true, String.reduceBEq, Bool.or_true, Bool.true_or, Bool.or_false, Bool.false_or, Bool.and_true, Bool.true_and, Bool.and_false, Bool.false_and, Int.cast_ofNat_Int, Int.reduceBEq, Int.reduceLT, Int.reduceLE, Int.reduceAdd, Int.reduceSub, Int.reduceMul, Int.reduceNeg, Int.natCast_zero, Int.natCast_one, sz_0, sz_1, sz_2, sz_3, sz_4, sz_5, sz_6, sz_7, sz_8, sz_9, sz_10, sz_11, sz_12, sz_13, sz_14, sz_15, sz_16, e0, h]
    exact ⟨rfl, rfl⟩
end G
-- part Sp2
set_option Elab.async false
set_option linter.all false
set_option maxRecDepth 100000
set_option maxHeartbeats 4000000
set_option autoImplicit false
/-! Sp2: the ring's calls. -/
namespace G
open PySem PySem.Spec Rd L2 Ring
def kidsD (pre : List Pe) (x : Str) : List D := (pre.filter fun p => decide (p.2.1 = x)).map fun p => D.str p.1
def listsD (ns : List Str) (pre : List Pe) : List (Key × D) := ns.map fun x => ((Sum.inr x : Key), D.lst (kidsD pre x))
theorem lists_get (ns : List Str) (pre : List Pe) (x : Str) (h : x ∈ ns) : getK (listsD ns pre) (.inr x) = some (.lst (kidsD pre x)) := by
  unfold listsD
  rw [getK_strs (fun x => x) (fun x => D.lst (kidsD pre x)) ns x]
  have : (ns.find? fun y => decide (y = x)) = some x := by
    cases e : ns.find? (fun y => decide (y = x)) with
    | none => exact absurd (List.find?_eq_none.mp e x h) (by simp)
    | some y => have := List.find?_some e; rw [decide_eq_true_eq] at this; rw [this]
  rw [this]; rfl
theorem lists_keys (ns : List Str) (pre : List Pe) (h : ns.Nodup) : nodupK ((listsD ns pre).map (·.1)) = true := by
  rw [nodupK_iff]
  unfold listsD
  rw [List.map_map]
  exact List.pairwise_map.mpr (h.imp fun hne z => hne (Sum.inr.inj z))
theorem kids_snoc (pre : List Pe) (p : Pe) (x : Str) : kidsD (pre ++ [p]) x = if p.2.1 = x then kidsD pre x ++ [.str p.1] else kidsD pre x := by
  unfold kidsD
  rw [List.filter_append]
  by_cases h : p.2.1 = x
  · rw [if_pos h, List.filter_cons_of_pos (by simpa using h)]; simp
  · rw [if_neg h, List.filter_cons_of_neg (by simpa using h)]; simp
theorem lists_put (ns : List Str) (pre : List Pe) (p : Pe) (h : p.2.1 ∈ ns) : putL (listsD ns pre) (.inr p.2.1) (.lst (kidsD pre p.2.1 ++ [.str p.1])) = listsD ns (pre ++ [p]) := by
  unfold putL
  rw [any_getK, lists_get ns pre _ h]
  rw [if_pos (show (some (D.lst (kidsD pre p.2.1))).isSome = true from rfl)]
  unfold listsD
  rw [List.map_map]
  apply List.map_congr_left
  intro x _
  show (if (Sum.inr x : Key) = Sum.inr p.2.1 then ((Sum.inr x : Key), D.lst (kidsD pre p.2.1 ++ [.str p.1])) else (Sum.inr x, D.lst (kidsD pre x))) = _
  rw [kids_snoc]
  by_cases e : x = p.2.1
  · rw [if_pos (by rw [e]), if_pos e.symm, e]
  · rw [if_neg (fun z => e (Sum.inr.inj z)), if_neg (fun z => e z.symm)]
theorem lists_new (ns : List Str) (pre : List Pe) (n : Str) (h : n ∉ ns) (hk : ∀ q ∈ pre, q.2.1 ≠ n) : putL (listsD ns pre) (.inr n) (.lst []) = listsD (ns ++ [n]) pre := by
  rw [putL_new]
  · unfold listsD
    rw [List.map_append]
    have : kidsD pre n = [] := by
      unfold kidsD
      rw [List.filter_eq_nil_iff.mpr (fun q hq => by simpa using hk q hq)]; rfl
    simp [this]
  · rw [getK_none]
    unfold listsD
    rw [List.map_map]
    intro z
    obtain ⟨y, hy, e⟩ := List.mem_map.mp z
    exact h (Sum.inr.inj e ▸ hy)
def ListsByOk (f : List D → S → R (Nat × D)) : Prop := ∀ (w d : Int) (ps : List Pe) (st : St), TreeOk w d ps → f [treeD w d ps] ⟨[], st⟩ = .ok (1, .dct (listsD (("" : Str) :: ps.map (·.1)) ps)) ⟨[], st⟩
theorem lists_by_ok (C : Call) : ListsByOk (f_lists_by C) := by
  intro w d ps st ok
  refine run_eq ?_
  unfold m_lists_by treeD
  simp only [sSeq_eq, seq_nx', seq_rt', seq_bk', seq_ct', bind_ok', then_ok', opt_some', toB_ok', eCall_eq, back_ok', eCallL_eq, looksL_some, sNil, sBreak, sCont, sExpr, sRet, sRetN, sIf, sSet, sAsg, sPar2, par2K, sPar3, par3K, sFor, sAppend, sExtend, sDPut, storeK, sSubApp, eOf, eV, oV, eC, eVar, oVar, eTup, eLst, vsNil, vsCons, osNil, osCons, lsNil, lsCons, eOp, binD, cmpP, cm_eq_str, cm_ne_str, cm_eq_int, cm_ne_int, cm_lt, cm_le, cm_gt, cm_ge, cm_slt, cm_sle, cm_is, cm_isnot, cm_in_tup, cm_nin_tup, cm_in_lst, cm_nin_lst, cm_in_dct, cm_nin_dct, cm_in_str, cm_ne_nn, cm_eq_nn, Nat.le_refl, Nat.zero_le, Nat.reduceLeDiff, big_0, seqIx_0, pop_last, drop_last, max2, eSortK, atI_0, atI_1, atI_2, atI_3, atI_4, tCmp, tChain2, eT, tAnd2, tOr2, tNot1, bOf, eAnd2, eOr2, eNot1, eIf, truD, tTru, eSub, S.flat, S.look, S.looks, S.deref, subD, pNone, pSome, eSlice, sliceD, eRev, eCallB, iVal, itemsD, iRange1, iRange2, iEnumM, gVar, gsNil, gsCons, gTupM, eLc, lc1, for1, tTrue, S.wipe, wipeE, ePop, ePopAt, S.isList, S.bound, eMove, capL, eIsi, D.isT, eDict0, eDisp, eDispL, eCell, psNil, psCons, D.key, isNon_non, isNon_int, isNon_str, isNon_tup, isNon_lst, isNon_bl, isNon_dct, Option.map, Option.bind, List.getElem?_cons_zero, List.getElem?_cons_succ, List.set_cons_zero, List.set_cons_succ, List.map_cons, List.map_nil, List.length_cons, List.length_nil, List.replicate_succ, List.replicate_zero, List.cons_append, List.nil_append, List.append_nil, Nat.reduceSub, Nat.reduceAdd, Nat.reduceEqDiff, decide_true, decide_false, if_true, if_false, ite_true, ite_false, reduceIte, Bool.false_eq_true, Nat.reduceLT, Nat.zero_lt_succ, Nat.lt_add_one, Nat.zero_add, true_and, and_true, or_true, true_or, false_and, and_false, false_or, or_false, Bool.not_true, Bool.not_false, Nat.succ_lt_succ_iff, Nat.add_lt_add_iff_right, beq_self_eq_true, String.reduceBEq, Bool.or_true, Bool.true_or, Bool.or_false, Bool.false_or, Bool.and_true, Bool.true_and, Bool.and_false, Bool.false_and, Int.cast_ofNat_Int, Int.reduceBEq, Int.reduceLT, Int.reduceLE, Int.reduceAdd, Int.reduceSub, Int.reduceMul, Int.reduceNeg, Int.natCast_zero, Int.natCast_one, sz_0, sz_1, sz_2, sz_3, sz_4, sz_5, sz_6, sz_7, sz_8, sz_9, sz_10, sz_11, sz_12, sz_13, sz_14, sz_15, sz_16]
  refine for_q pD (fun pre s => ∃ L j1 j2 j3, (L = 2) ∧ s = ⟨[some (0, D.tup [.int w, .int d, .tup (ps.map pD)]), some (L, .dct (listsD (("" : Str) :: pre.map (·.1)) pre)), j1, j2, j3], st⟩) ps rfl ?_ ⟨2, none, none, none, rfl, rfl⟩ ?_
  · rintro pre p post s e ⟨L, j1, j2, j3, rfl, rfl⟩
    have nd := ok.good.nd
    have nd0 : (("" : Str) :: pre.map (·.1)).Nodup := by
      rw [e] at nd
      have : (("" : Str) :: (pre ++ p :: post).map (·.1)) = (("" : Str) :: pre.map (·.1)) ++ (p :: post).map (·.1) := by simp
      rw [this] at nd
      exact (List.nodup_append.mp nd).1
    have hc : p.2.1 ∈ ("" : Str) :: pre.map (·.1) := by
      rcases ok.good.up pre p post e with z | z
      · rw [z]; simp
      · simp only [List.mem_cons]; exact .inr z
    have hn : p.1 ∉ ("" : Str) :: pre.map (·.1) := by
      rw [e] at nd
      have : (("" : Str) :: (pre ++ p :: post).map (·.1)) = (("" : Str) :: pre.map (·.1)) ++ (p :: post).map (·.1) := by simp
      rw [this] at nd
      intro z
      exact (List.nodup_append.mp nd).2.2 _ z _ (by simp) rfl
    have hl : pre.length ≤ 16 := by
      have := congrArg List.length e
      have := ok.n
      simp at *; omega
    have e1 := lists_get _ pre _ hc
    have e2 := lists_keys _ pre nd0
    have e3 := lists_put _ pre p hc
    have e4 := lists_keys _ (pre ++ [p]) nd0
    have e5 := lists_new _ (pre ++ [p]) p.1 hn (ok.good.above e)
    have hz : szOk (kidsD pre p.2.1).length = true := szOk_of (by
      unfold kidsD
      rw [List.length_map]
      have := List.length_filter_le (fun q : Pe => decide (q.2.1 = p.2.1)) pre
      omega)
    have hz2 : szOk (listsD (("" : Str) :: pre.map (·.1)) (pre ++ [p])).length = true := szOk_of (by
      unfold listsD; simp; omega)
    simp only [sSeq_eq, seq_nx', seq_rt', seq_bk', seq_ct', bind_ok', then_ok', opt_some', toB_ok', eCall_eq, back_ok', eCallL_eq, looksL_some, sNil, sBreak, sCont, sExpr, sRet, sRetN, sIf, sSet, sAsg, sPar2, par2K, sPar3, par3K, sFor, sAppend, sExtend, sDPut, storeK, sSubApp, eOf, eV, oV, eC, eVar, oVar, eTup, eLst, vsNil, vsCons, osNil, osCons, lsNil, lsCons, eOp, binD, cmpP, cm_eq_str, cm_ne_str, cm_eq_int, cm_ne_int, cm_lt, cm_le, cm_gt, cm_ge, cm_slt, cm_sle, cm_is, cm_isnot, cm_in_tup, cm_nin_tup, cm_in_lst, cm_nin_lst, cm_in_dct, cm_nin_dct, cm_in_str, cm_ne_nn, cm_eq_nn, Nat.le_refl, Nat.zero_le, Nat.reduceLeDiff, big_0, seqIx_0, pop_last, drop_last, max2, eSortK, atI_0, atI_1, atI_2, atI_3, atI_4, tCmp, tChain2, eT, tAnd2, tOr2, tNot1, bOf, eAnd2, eOr2, eNot1, eIf, truD, tTru, eSub, S.flat, S.look, S.looks, S.deref, subD, pNone, pSome, eSlice, sliceD, eRev, eCallB, iVal, itemsD, iRange1, iRange2, iEnumM, gVar, gsNil, gsCons, gTupM, eLc, lc1, for1, tTrue, S.wipe, wipeE, ePop, ePopAt, S.isList, S.bound, eMove, capL, eIsi, D.isT, eDict0, eDisp, eDispL, eCell, psNil, psCons, D.key, isNon_non, isNon_int, isNon_str, isNon_tup, isNon_lst, isNon_bl, isNon_dct, Option.map, Option.bind, List.getElem?_cons_zero, List.getElem?_cons_succ, List.set_cons_zero, List.set_cons_succ, List.map_cons, List.map_nil, List.length_cons, List.length_nil, List.replicate_succ, List.replicate_zero, List.cons_append, List.nil_append, List.append_nil, Nat.reduceSub, Nat.reduceAdd, Nat.reduceEqDiff, decide_true, decide_false, if_true, if_false, ite_true, ite_false, reduceIte, Bool.false_eq_true, Nat.reduceLT, Nat.zero_lt_succ, Nat.lt_add_one, Nat.zero_add, true_and, and_true, or_true, true_or, false_and, and_false, false_or, or_false, Bool.not_true, Bool.not_false, Nat.succ_lt_succ_iff, Nat.add_lt_add_iff_right, beq_self_eq_true, String.reduceBEq, Bool.or_true, Bool.true_or, Bool.or_false, Bool.false_or, Bool.and_true, Bool.true_and, Bool.and_false, Bool.false_and, Int.cast_ofNat_Int, Int.reduceBEq, Int.reduceLT, Int.reduceLE, Int.reduceAdd, Int.reduceSub, Int.reduceMul, Int.reduceNeg, Int.natCast_zero, Int.natCast_one, sz_0, sz_1, sz_2, sz_3, sz_4, sz_5, sz_6, sz_7, sz_8, sz_9, sz_10, sz_11, sz_12, sz_13, sz_14, sz_15, sz_16, pD, e1, e2, e3, hz, hz2, e4, e5]
    exact ⟨2, _, _, _, rfl, by rw [List.map_append]; rfl⟩
  · rintro s' ⟨L, j1, j2, j3, rfl, rfl⟩
    simp only [sSeq_eq, seq_nx', seq_rt', seq_bk', seq_ct', bind_ok', then_ok', opt_some', toB_ok', eCall_eq, back_ok', eCallL_eq, looksL_some, sNil, sBreak, sCont, sExpr, sRet, sRetN, sIf, sSet, sAsg, sPar2, par2K, sPar3, par3K, sFor, sAppend, sExtend, sDPut, storeK, sSubApp, eOf, eV, oV, eC, eVar, oVar, eTup, eLst, vsNil, vsCons, osNil, osCons, lsNil, lsCons, eOp, binD, cmpP, cm_eq_str, cm_ne_str, cm_eq_int, cm_ne_int, cm_lt, cm_le, cm_gt, cm_ge, cm_slt, cm_sle, cm_is, cm_isnot, cm_in_tup, cm_nin_tup, cm_in_lst, cm_nin_lst, cm_in_dct, cm_nin_dct, cm_in_str, cm_ne_nn, cm_eq_nn, Nat.le_refl, Nat.zero_le, Nat.reduceLeDiff, big_0, seqIx_0, pop_last, drop_last, max2, eSortK, atI_0, atI_1, atI_2, atI_3, atI_4, tCmp, tChain2, eT, tAnd2, tOr2, tNot1, bOf, eAnd2, eOr2, eNot1, eIf, truD, tTru, eSub, S.flat, S.look, S.looks, S.deref, subD, pNone, pSome, eSlice, sliceD, eRev, eCallB, iVal, itemsD, iRange1, iRange2, iEnumM, gVar, gsNil, gsCons, gTupM, eLc, lc1, for1, tTrue, S.wipe, wipeE, ePop, ePopAt, S.isList, S.bound, eMove, capL, eIsi, D.isT, eDict0, eDisp, eDispL, eCell, psNil, psCons, D.key, isNon_non, isNon_int, isNon_str, isNon_tup, isNon_lst, isNon_bl, isNon_dct, Option.map, Option.bind, List.getElem?_cons_zero, List.getElem?_cons_succ, List.set_cons_zero, List.set_cons_succ, List.map_cons, List.map_nil, List.length_cons, List.length_nil, List.replicate_succ, List.replicate_zero, List.cons_append, List.nil_append, List.append_nil, Nat.reduceSub, Nat.reduceAdd, Nat.reduceEqDiff, decide_true, decide_false, if_true, if_false, ite_true, ite_false, reduceIte, Bool.false_eq_true, Nat.reduceLT, Nat.zero_lt_succ, Nat.lt_add_one, Nat.zero_add, true_and, and_true, or_true, true_or, false_and, and_false, false_or, or_false, Bool.not_true, Bool.not_false, Nat.succ_lt_succ_iff, Nat.add_lt_add_iff_right, beq_self_eq_true, String.reduceBEq, Bool.or_true, Bool.true_or, Bool.or_false, Bool.false_or, Bool.and_true, Bool.true_and, Bool.and_false, Bool.false_and, Int.cast_ofNat_Int, Int.reduceBEq, Int.reduceLT, Int.reduceLE, Int.reduceAdd, Int.reduceSub, Int.reduceMul, Int.reduceNeg, Int.natCast_zero, Int.natCast_one, sz_0, sz_1, sz_2, sz_3, sz_4, sz_5, sz_6, sz_7, sz_8, sz_9, sz_10, sz_11, sz_12, sz_13, sz_14, sz_15, sz_16]
    exact ⟨rfl, rfl⟩
end G
-- part Sp3
set_option Elab.async false
set_option linter.all false
set_option maxRecDepth 100000
set_option maxHeartbeats 4000000
set_option autoImplicit false
/-! Sp3: own_calls. -/
namespace G
open PySem PySem.Spec Rd L2 Ring
abbrev awB (aw : List Str) : Str → Bool := fun x => decide (x ∈ aw)
def total (w d : Int) (ps : List Pe) (aw : List Str) : List (Cl Str) := (ringF (awB aw) w d (("" : Str)) d 0 (forest ps (("" : Str)))).1
def sortC (cs : List (Cl Str)) : List D := sortKL (.tup [0, 2]) (cs.map callD)
def talksD (ps : List Pe) : List (Key × D) := ps.map fun p => ((Sum.inr p.1 : Key), D.int p.2.2)
def toldD (q : Int × Str) : D := .tup [.int q.1, .str q.2]
def tname : T Str → Str
  | .node n _ _ => n
theorem tname_node (n : Str) (tk : Int) (ks : List (T Str)) : tname (.node n tk ks) = n := rfl
def lineD (q : T Str × Int) : D := .tup [.str (tname q.1), .int q.2]
theorem fits_lst {α : Type} (f : α → D) (h : ∀ x, (f x).fits 11 = true) (xs : List α) : (D.lst (xs.map f)).fits deep = true := by
  show (xs.map f).all (D.fits 11) = true
  rw [List.all_map, List.all_eq_true]
  exact fun x _ => h x
theorem cm_ne_told (l k : Nat) (ts : List (Int × Str)) : cmpD .NotEq (l, .lst (ts.map toldD)) (k, .lst []) = some (!ts.isEmpty) := by
  rw [cm_ne_nil _ _ _ (fits_lst _ (fun _ => rfl) ts)]; cases ts <;> rfl
theorem cm_ne_line (l k : Nat) (ts : List (T Str × Int)) : cmpD .NotEq (l, .lst (ts.map lineD)) (k, .lst []) = some (!ts.isEmpty) := by
  rw [cm_ne_nil _ _ _ (fits_lst _ (fun _ => rfl) ts)]; cases ts <;> rfl
theorem talks_get {ps : List Pe} (nd : (ps.map (·.1)).Nodup) {p : Pe} (h : p ∈ ps) : getK (talksD ps) (.inr p.1) = some (.int p.2.2) := by
  unfold talksD
  rw [getK_strs (fun p : Pe => p.1) (fun p => D.int p.2.2) ps p.1]
  cases e : ps.find? (fun q => decide (q.1 = p.1)) with
  | none => exact absurd (List.find?_eq_none.mp e p h) (by simp)
  | some q =>
    have h1 := List.find?_some e
    have h2 := List.mem_of_find?_eq_some e
    rw [decide_eq_true_eq] at h1
    have : q = p := by
      have := List.pairwise_map.mp nd
      obtain ⟨i, hi, rfl⟩ := List.mem_iff_getElem.mp h
      obtain ⟨j, hj, rfl⟩ := List.mem_iff_getElem.mp h2
      rw [List.pairwise_iff_getElem] at this
      rcases Nat.lt_trichotomy i j with z | z | z
      · exact absurd h1.symm (this i j hi hj z)
      · subst z; rfl
      · exact absurd h1 (this j i hj hi z)
    rw [this]; rfl
theorem talks_dict {ps : List Pe} (nd : (ps.map (·.1)).Nodup) (l : Nat) (hl : l ≤ 1) : dictD [(l, .lst (ps.map fun p => D.tup [.str p.1, .int p.2.2]))] = some (1, .dct (talksD ps)) := by
  show (if l ≤ 1 then (pairsD (ps.map fun p => D.tup [.str p.1, .int p.2.2])).map fun ps => (1, D.dct (mergeL [] ps)) else none) = _
  rw [if_pos hl, pairsD_strs (fun p : Pe => p.1) (fun p => D.int p.2.2) ps, Option.map_some, mergeL_new]
  · rfl
  · rw [List.nil_append, List.map_map]
    exact List.pairwise_map.mpr ((List.pairwise_map.mp nd).imp fun hne z => hne (Sum.inr.inj z))
/-- a person's own tree -/
def Own1 (ps : List Pe) (t : T Str) : Prop := ∃ p ∈ ps, t = .node p.1 p.2.2 (forest ps p.1)
theorem own_forest {b : Str} {ps : List Pe} (h : GoodP b ps) (x : Str) : ∀ t ∈ forest ps x, Own1 ps t := by
  rw [forest_eq h]
  intro t ht
  obtain ⟨p, hp, rfl⟩ := List.mem_map.mp ht
  exact ⟨p, (List.mem_filter.mp hp).1, rfl⟩
theorem kids_forest {b : Str} {ps : List Pe} (h : GoodP b ps) (x : Str) : kidsD ps x = (forest ps x).map fun t => D.str (tname t) := by
  rw [forest_eq h, List.map_map]; rfl
def pend (w d : Int) (ps : List Pe) (aw : List Str) (q : Int × Str) : List (Cl Str) := (ringF (awB aw) w d q.2 d q.1 (forest ps q.2)).1
def szT (ps : List Pe) (told : List (Int × Str)) : Nat := (told.map fun q => 1 + sizeF (forest ps q.2)).sum
abbrev envI (w d : Int) (ps : List Pe) (aw : List Str) (j5 : Option (Nat × D)) (x : Str) (calls : List (Cl Str)) (told : List (Int × Str)) (m : Int) (line : List (T Str × Int)) (j13 j14 j15 : Option (Nat × D)) (st : St) : S :=
  ⟨[some (0, .tup [.int w, .int d, .tup (ps.map pD)]), some (0, .tup (aw.map D.str)), some (0, .int w), some (0, .int d), some (0, .tup (ps.map pD)), j5, some (0, .str x), some (1, .dct (listsD (("" : Str) :: ps.map (·.1)) ps)), some (1, .dct (talksD ps)), some (1, .lst (calls.map callD)), some (1, .lst (told.map toldD)), some (0, .int m), some (1, .lst (line.map lineD)), j13, j14, j15, none, none], st⟩
abbrev envO (w d : Int) (ps : List Pe) (aw : List Str) (j5 j6 : Option (Nat × D)) (calls : List (Cl Str)) (told : List (Int × Str)) (j11 j12 j13 j14 j15 : Option (Nat × D)) (st : St) : S :=
  ⟨[some (0, .tup [.int w, .int d, .tup (ps.map pD)]), some (0, .tup (aw.map D.str)), some (0, .int w), some (0, .int d), some (0, .tup (ps.map pD)), j5, j6, some (1, .dct (listsD (("" : Str) :: ps.map (·.1)) ps)), some (1, .dct (talksD ps)), some (1, .lst (calls.map callD)), some (1, .lst (told.map toldD)), j11, j12, j13, j14, j15, none, none], st⟩
structure InvO (w d : Int) (ps : List Pe) (aw : List Str) (n : Nat) (calls : List (Cl Str)) (told : List (Int × Str)) : Prop where
  perm : (calls ++ told.flatMap (pend w d ps aw)).Perm (total w d ps aw)
  mem : ∀ q ∈ told, q.2 ∈ ("" : Str) :: ps.map (·.1)
  sz : szT ps told = n
  n : n ≤ 17
structure InvI (w d : Int) (ps : List Pe) (aw : List Str) (n0 n : Nat) (x : Str) (calls : List (Cl Str)) (told : List (Int × Str)) (m : Int) (line : List (T Str × Int)) : Prop where
  perm : (calls ++ told.flatMap (pend w d ps aw) ++ ringL (awB aw) w d x m line).Perm (total w d ps aw)
  mem : ∀ q ∈ told, q.2 ∈ ("" : Str) :: ps.map (·.1)
  own : ∀ q ∈ line, Own1 ps q.1
  sz : szT ps told + sizeL line < n0
  n : sizeL line = n
  n0 : n0 ≤ 17
/-! ### sorted calls -/
theorem kcall (c : Cl Str) : keyPy (.tup [0, 2]) (callD c) = .tuple [.int c.1, .str c.2.2.1] := rfl
theorem sortKOk_calls (cs : List (Cl Str)) (h : cs.length ≤ 1000000) : sortKOk (.tup [0, 2]) (cs.map callD) = true := by
  unfold sortKOk
  rw [Bool.and_eq_true, Bool.and_eq_true, Bool.and_eq_true]
  refine ⟨⟨⟨?_, ?_⟩, ?_⟩, szOk_of (by rw [List.length_map]; exact h)⟩
  · rw [List.all_map, List.all_eq_true]; exact fun c _ => rfl
  · unfold alikeB
    rw [List.map_map, List.all_map, List.all_eq_true]
    intro c _
    show ((cs.map (keyPy (.tup [0, 2]) ∘ callD)).all fun e => PySem.W.alike (keyPy (.tup [0, 2]) (callD c)) e) = true
    rw [List.all_map, List.all_eq_true]
    intro c' _
    show PySem.W.alike (.tuple [.int c.1, .str c.2.2.1]) (.tuple [.int c'.1, .str c'.2.2.1]) = true
    simp [PySem.W.alike, PySem.W.alikeAll]
  · unfold sortableB
    rw [Bool.or_eq_true]
    left
    rw [List.map_map, List.all_map, List.all_eq_true]
    exact fun c _ => rfl
theorem key_inj {a b : Cl Str} (h1 : PySem.W.dataLe false (keyPy (.tup [0, 2])) (callD a) (callD b) = true) (h2 : PySem.W.dataLe false (keyPy (.tup [0, 2])) (callD b) (callD a) = true) : (a.1, a.2.2.1) = (b.1, b.2.2.1) := by
  unfold PySem.W.dataLe PySem.W.sortLe at h1 h2
  rw [cond_false, Bool.not_eq_true'] at h1 h2
  have e : PySem.W.keyToks (keyPy (.tup [0, 2]) (callD b)) = PySem.W.keyToks (keyPy (.tup [0, 2]) (callD a)) := (PyProof.Rows.listOrd PyProof.Rows.itemOrd).total _ _ h1 h2
  rw [kcall, kcall] at e
  simp [PySem.W.keyToks, PySem.W.keyToksAll] at e
  rw [Prod.mk.injEq]
  exact ⟨e.1.symm, (PySem.W.str_of_cps (by rw [e.2])).symm⟩
theorem sortC_perm {a b : List (Cl Str)} (h : a.Perm b) (nd : b.Pairwise fun c d => (c.1, c.2.2.1) ≠ (d.1, d.2.2.1)) : sortC a = sortC b := by
  unfold sortC sortKL
  have tot : PySem.W.TotalLe (PySem.W.dataLe false (keyPy (.tup [0, 2]))) := PySem.W.sortLe_total _ _ _
  refine List.Perm.eq_of_pairwise (le := fun a b => PySem.W.dataLe false (keyPy (.tup [0, 2])) a b = true) (fun x y hx hy h1 h2 => ?_) (PySem.W.sort_pairwise tot _) (PySem.W.sort_pairwise tot _) ((List.mergeSort_perm _ _).trans ((h.map callD).trans (List.mergeSort_perm _ _).symm))
  have hx := (List.mergeSort_perm _ _).mem_iff.mp hx
  have hy := (List.mergeSort_perm _ _).mem_iff.mp hy
  obtain ⟨c, hc, rfl⟩ := List.mem_map.mp hx
  obtain ⟨c', hc', rfl⟩ := List.mem_map.mp hy
  have hc := h.mem_iff.mp hc
  have e := key_inj h1 h2
  obtain ⟨i, hi, rfl⟩ := List.mem_iff_getElem.mp hc
  obtain ⟨j, hj, rfl⟩ := List.mem_iff_getElem.mp hc'
  rw [List.pairwise_iff_getElem] at nd
  rcases Nat.lt_trichotomy i j with z | z | z
  · exact absurd e (nd i j hi hj z)
  · subst z; rfl
  · exact absurd e.symm (nd j i hj hi z)
theorem total_row {w d : Int} {ps : List Pe} (ok : TreeOk w d ps) (aw : List Str) : ∃ m', RingRow (("" : Str)) (preF (forest ps (("" : Str)))) 0 m' (total w d ps aw) :=
  ⟨_, rowF ok.w.1 _ _ _ _ (talks_forest (P := fun t => 1 ≤ t) Talks .nil (fun n t ks ts a b c => .cons a b c) ps _ fun p hp => (ok.tk p hp).1) ok.good.pre_nd⟩
theorem permc {α : Type} (A B W : List α) (c : α) : (A ++ [c] ++ B ++ W).Perm (A ++ B ++ c :: W) := by
  have : (A ++ [c] ++ B ++ W) = A ++ (c :: (B ++ W)) := by simp
  rw [this, List.append_assoc]
  exact List.Perm.append_left _ List.perm_middle.symm
theorem ringT_away {aw : Str → Bool} {w d : Int} {x n : Str} {r m tk : Int} {ks : List (T Str)} (h : aw n = true) (hr : r ≠ 1) : ringT aw w d x r m (.node n tk ks) = ((m, m + w, x, n, false) :: (ringF aw w d x (max 0 (r - 1)) (m + w) ks).1, (ringF aw w d x (max 0 (r - 1)) (m + w) ks).2) := by
  rw [ringT, if_pos h, if_neg hr]
theorem ringT_away1 {aw : Str → Bool} {w d : Int} {x n : Str} {m tk : Int} {ks : List (T Str)} (h : aw n = true) : ringT aw w d x 1 m (.node n tk ks) = ([(m, m + w, x, n, false)], m + w) := by
  rw [ringT, if_pos h, if_pos rfl]
theorem ringT_there {aw : Str → Bool} {w d : Int} {x n : Str} {r m tk : Int} {ks : List (T Str)} (h : aw n = false) : ringT aw w d x r m (.node n tk ks) = ((m, m + tk, x, n, true) :: (ringF aw w d n d (m + tk) ks).1, m + tk) := by
  rw [ringT, if_neg (by rw [h]; simp)]
def OwnCallsOk (f : List D → S → R (Nat × D)) : Prop := ∀ (w d : Int) (ps : List Pe) (aw : List Str) (st : St), TreeOk w d ps → f [treeD w d ps, namesD aw] ⟨[], st⟩ = .ok (1, .lst (sortC (total w d ps aw))) ⟨[], st⟩
theorem own_calls_ok (C : Call) (h : ListsByOk (C "lists_by")) : OwnCallsOk (f_own_calls C) := by
  intro w d ps aw st ok
  have nd := ok.good.nd
  have ndn := (List.nodup_cons.mp nd).2
  have hn := ok.n
  refine run_eq ?_
  have e1 := h w d ps st ok
  unfold m_own_calls namesD
  unfold treeD at *
  have key : ∀ z7, lcM [5, 6, 16] (gTupM 3 (gsCons (gVar 5) (gsCons (gVar 6) (gsCons (gVar 16) gsNil)))) tTrue (eTup (vsCons (eVar 5) (vsCons (eVar 16) vsNil))) (ps.map pD) []
      ⟨[some (0, D.tup [.int w, .int d, .tup (ps.map pD)]), some (0, .tup (aw.map D.str)), some (0, .int w), some (0, .int d), some (0, .tup (ps.map pD)), none, none, z7, none, none, none, none, none, none, none, none, none, none], st⟩
      = .ok (ps.map fun p => D.tup [.str p.1, .int p.2.2]) ⟨[some (0, D.tup [.int w, .int d, .tup (ps.map pD)]), some (0, .tup (aw.map D.str)), some (0, .int w), some (0, .int d), some (0, .tup (ps.map pD)), none, none, z7, none, none, none, none, none, none, none, none, none, none], st⟩ := fun z7 =>
    lcM_map pD _ ps (by omega) fun p _ => by simp only [sSeq_eq, seq_nx', seq_rt', seq_bk', seq_ct', bind_ok', then_ok', opt_some', toB_ok', eCall_eq, back_ok', eCallL_eq, looksL_some, sNil, sBreak, sCont, sExpr, sRet, sRetN, sIf, sSet, sAsg, sPar2, par2K, sPar3, par3K, sFor, sAppend, sExtend, sDPut, storeK, sSubApp, eOf, eV, oV, eC, eVar, oVar, eTup, eLst, vsNil, vsCons, osNil, osCons, lsNil, lsCons, eOp, binD, cmpP, cm_eq_str, cm_ne_str, cm_eq_int, cm_ne_int, cm_lt, cm_le, cm_gt, cm_ge, cm_slt, cm_sle, cm_is, cm_isnot, cm_in_tup, cm_nin_tup, cm_in_lst, cm_nin_lst, cm_in_dct, cm_nin_dct, cm_in_str, cm_ne_nn, cm_eq_nn, Nat.le_refl, Nat.zero_le, Nat.reduceLeDiff, big_0, seqIx_0, List.eraseIdx_cons_zero, pop_last, drop_last, max2, eSortK, atI_0, atI_1, atI_2, atI_3, atI_4, tCmp, tChain2, eT, tAnd2, tOr2, tNot1, bOf, eAnd2, eOr2, eNot1, eIf, truD, tTru, eSub, S.flat, S.look, S.looks, S.deref, subD, pNone, pSome, eSlice, sliceD, eRev, eCallB, iVal, itemsD, iRange1, iRange2, iEnumM, gVar, gsNil, gsCons, gTupM, eLc, lc1, for1, tTrue, S.wipe, wipeE, ePop, ePopAt, S.isList, S.bound, eMove, capL, eIsi, D.isT, eDict0, eDisp, eDispL, eCell, psNil, psCons, D.key, isNon_non, isNon_int, isNon_str, isNon_tup, isNon_lst, isNon_bl, isNon_dct, Option.map, Option.bind, List.getElem?_cons_zero, List.getElem?_cons_succ, List.set_cons_zero, List.set_cons_succ, List.map_cons, List.map_nil, List.length_cons, List.length_nil, List.replicate_succ, List.replicate_zero, List.cons_append, List.nil_append, List.append_nil, Nat.reduceSub, Nat.reduceAdd, Nat.reduceEqDiff, decide_true, decide_false, if_true, if_false, ite_true, ite_false, reduceIte, Bool.false_eq_true, Nat.reduceLT, Nat.zero_lt_succ, Nat.lt_add_one, Nat.zero_add, true_and, and_true, or_true, true_or, false_and, and_false, false_or, or_false, Bool.not_true, Bool.not_false, Nat.succ_lt_succ_iff, Nat.add_lt_add_iff_right, beq_self_eq_true, String.reduceBEq, Bool.or_true, Bool.true_or, Bool.or_false, Bool.false_or, Bool.and_true, Bool.true_and, Bool.and_false, Bool.false_and, Int.cast_ofNat_Int, Int.reduceBEq, Int.reduceLT, Int.reduceLE, Int.reduceAdd, Int.reduceSub, Int.reduceMul, Int.reduceNeg, Int.natCast_zero, Int.natCast_one, sz_0, sz_1, sz_2, sz_3, sz_4, sz_5, sz_6, sz_7, sz_8, sz_9, sz_10, sz_11, sz_12, sz_13, sz_14, sz_15, sz_16, pD]
  simp only [sSeq_eq, seq_nx', seq_rt', seq_bk', seq_ct', bind_ok', then_ok', opt_some', toB_ok', eCall_eq, back_ok', eCallL_eq, looksL_some, sNil, sBreak, sCont, sExpr, sRet, sRetN, sIf, sSet, sAsg, sPar2, par2K, sPar3, par3K, sFor, sAppend, sExtend, sDPut, storeK, sSubApp, eOf, eV, oV, eC, eVar, oVar, eTup, eLst, vsNil, vsCons, osNil, osCons, lsNil, lsCons, eOp, binD, cmpP, cm_eq_str, cm_ne_str, cm_eq_int, cm_ne_int, cm_lt, cm_le, cm_gt, cm_ge, cm_slt, cm_sle, cm_is, cm_isnot, cm_in_tup, cm_nin_tup, cm_in_lst, cm_nin_lst, cm_in_dct, cm_nin_dct, cm_in_str, cm_ne_nn, cm_eq_nn, Nat.le_refl, Nat.zero_le, Nat.reduceLeDiff, big_0, seqIx_0, List.eraseIdx_cons_zero, pop_last, drop_last, max2, eSortK, atI_0, atI_1, atI_2, atI_3, atI_4, tCmp, tChain2, eT, tAnd2, tOr2, tNot1, bOf, eAnd2, eOr2, eNot1, eIf, truD, tTru, eSub, S.flat, S.look, S.looks, S.deref, subD, pNone, pSome, eSlice, sliceD, eRev, eCallB, iVal, itemsD, iRange1, iRange2, iEnumM, gVar, gsNil, gsCons, gTupM, eLc, lc1, for1, tTrue, S.wipe, wipeE, ePop, ePopAt, S.isList, S.bound, eMove, capL, eIsi, D.isT, eDict0, eDisp, eDispL, eCell, psNil, psCons, D.key, isNon_non, isNon_int, isNon_str, isNon_tup, isNon_lst, isNon_bl, isNon_dct, Option.map, Option.bind, List.getElem?_cons_zero, List.getElem?_cons_succ, List.set_cons_zero, List.set_cons_succ, List.map_cons, List.map_nil, List.length_cons, List.length_nil, List.replicate_succ, List.replicate_zero, List.cons_append, List.nil_append, List.append_nil, Nat.reduceSub, Nat.reduceAdd, Nat.reduceEqDiff, decide_true, decide_false, if_true, if_false, ite_true, ite_false, reduceIte, Bool.false_eq_true, Nat.reduceLT, Nat.zero_lt_succ, Nat.lt_add_one, Nat.zero_add, true_and, and_true, or_true, true_or, false_and, and_false, false_or, or_false, Bool.not_true, Bool.not_false, Nat.succ_lt_succ_iff, Nat.add_lt_add_iff_right, beq_self_eq_true, String.reduceBEq, Bool.or_true, Bool.true_or, Bool.or_false, Bool.false_or, Bool.and_true, Bool.true_and, Bool.and_false, Bool.false_and, Int.cast_ofNat_Int, Int.reduceBEq, Int.reduceLT, Int.reduceLE, Int.reduceAdd, Int.reduceSub, Int.reduceMul, Int.reduceNeg, Int.natCast_zero, Int.natCast_one, sz_0, sz_1, sz_2, sz_3, sz_4, sz_5, sz_6, sz_7, sz_8, sz_9, sz_10, sz_11, sz_12, sz_13, sz_14, sz_15, sz_16, e1, key, talks_dict ndn 0 (by omega)]
  refine while_q (fun n s => ∃ j5 j6 calls told j11 j12 j13 j14 j15, s = envO w d ps aw j5 j6 calls told j11 j12 j13 j14 j15 st ∧ InvO w d ps aw n calls told) (1 + sizeF (forest ps (("" : Str)))) ?_ ⟨none, none, [], [(0, (("" : Str)))], none, none, none, none, none, rfl, ?_⟩ ?_
  · rintro n s ⟨j5, j6, calls, told, j11, j12, j13, j14, j15, rfl, inv⟩
    have hlen : calls.length ≤ 16 := by
      have h1 := inv.perm.length_eq
      have h2 := lenF (aw := awB aw) (wait := w) (deep := d) (forest ps (("" : Str))) (("" : Str)) d 0
      rw [ok.good.size] at h2
      rw [List.length_append] at h1
      unfold total at h1
      omega
    rcases List.eq_nil_or_concat told with z | ⟨told', ⟨m, x⟩, z⟩
    · subst z
      left
      refine ⟨envO w d ps aw j5 j6 calls [] j11 j12 j13 j14 j15 st, ?_, ?_⟩
      · simp only [sSeq_eq, seq_nx', seq_rt', seq_bk', seq_ct', bind_ok', then_ok', opt_some', toB_ok', eCall_eq, back_ok', eCallL_eq, looksL_some, sNil, sBreak, sCont, sExpr, sRet, sRetN, sIf, sSet, sAsg, sPar2, par2K, sPar3, par3K, sFor, sAppend, sExtend, sDPut, storeK, sSubApp, eOf, eV, oV, eC, eVar, oVar, eTup, eLst, vsNil, vsCons, osNil, osCons, lsNil, lsCons, eOp, binD, cmpP, cm_eq_str, cm_ne_str, cm_eq_int, cm_ne_int, cm_lt, cm_le, cm_gt, cm_ge, cm_slt, cm_sle, cm_is, cm_isnot, cm_in_tup, cm_nin_tup, cm_in_lst, cm_nin_lst, cm_in_dct, cm_nin_dct, cm_in_str, cm_ne_nn, cm_eq_nn, Nat.le_refl, Nat.zero_le, Nat.reduceLeDiff, big_0, seqIx_0, List.eraseIdx_cons_zero, pop_last, drop_last, max2, eSortK, atI_0, atI_1, atI_2, atI_3, atI_4, tCmp, tChain2, eT, tAnd2, tOr2, tNot1, bOf, eAnd2, eOr2, eNot1, eIf, truD, tTru, eSub, S.flat, S.look, S.looks, S.deref, subD, pNone, pSome, eSlice, sliceD, eRev, eCallB, iVal, itemsD, iRange1, iRange2, iEnumM, gVar, gsNil, gsCons, gTupM, eLc, lc1, for1, tTrue, S.wipe, wipeE, ePop, ePopAt, S.isList, S.bound, eMove, capL, eIsi, D.isT, eDict0, eDisp, eDispL, eCell, psNil, psCons, D.key, isNon_non, isNon_int, isNon_str, isNon_tup, isNon_lst, isNon_bl, isNon_dct, Option.map, Option.bind, List.getElem?_cons_zero, List.getElem?_cons_succ, List.set_cons_zero, List.set_cons_succ, List.map_cons, List.map_nil, List.length_cons, List.length_nil, List.replicate_succ, List.replicate_zero, List.cons_append, List.nil_append, List.append_nil, Nat.reduceSub, Nat.reduceAdd, Nat.reduceEqDiff, decide_true, decide_false, if_true, if_false, ite_true, ite_false, reduceIte, Bool.false_eq_true, Nat.reduceLT, Nat.zero_lt_succ, Nat.lt_add_one, Nat.zero_add, true_and, and_true, or_true, true_or, false_and, and_false, false_or, or_false, Bool.not_true, Bool.not_false, Nat.succ_lt_succ_iff, Nat.add_lt_add_iff_right, beq_self_eq_true, String.reduceBEq, Bool.or_true, Bool.true_or, Bool.or_false, Bool.false_or, Bool.and_true, Bool.true_and, Bool.and_false, Bool.false_and, Int.cast_ofNat_Int, Int.reduceBEq, Int.reduceLT, Int.reduceLE, Int.reduceAdd, Int.reduceSub, Int.reduceMul, Int.reduceNeg, Int.natCast_zero, Int.natCast_one, sz_0, sz_1, sz_2, sz_3, sz_4, sz_5, sz_6, sz_7, sz_8, sz_9, sz_10, sz_11, sz_12, sz_13, sz_14, sz_15, sz_16, cm_ne_told, List.isEmpty_nil]
      · have hp : calls.Perm (total w d ps aw) := by simpa using inv.perm
        have e5 := sortC_perm hp (total_row ok aw).choose_spec.nd
        have hk := sortKOk_calls calls (by omega)
        simp only [sSeq_eq, seq_nx', seq_rt', seq_bk', seq_ct', bind_ok', then_ok', opt_some', toB_ok', eCall_eq, back_ok', eCallL_eq, looksL_some, sNil, sBreak, sCont, sExpr, sRet, sRetN, sIf, sSet, sAsg, sPar2, par2K, sPar3, par3K, sFor, sAppend, sExtend, sDPut, storeK, sSubApp, eOf, eV, oV, eC, eVar, oVar, eTup, eLst, vsNil, vsCons, osNil, osCons, lsNil, lsCons, eOp, binD, cmpP, cm_eq_str, cm_ne_str, cm_eq_int, cm_ne_int, cm_lt, cm_le, cm_gt, cm_ge, cm_slt, cm_sle, cm_is, cm_isnot, cm_in_tup, cm_nin_tup, cm_in_lst, cm_nin_lst, cm_in_dct, cm_nin_dct, cm_in_str, cm_ne_nn, cm_eq_nn, Nat.le_refl, Nat.zero_le, Nat.reduceLeDiff, big_0, seqIx_0, List.eraseIdx_cons_zero, pop_last, drop_last, max2, eSortK, atI_0, atI_1, atI_2, atI_3, atI_4, tCmp, tChain2, eT, tAnd2, tOr2, tNot1, bOf, eAnd2, eOr2, eNot1, eIf, truD, tTru, eSub, S.flat, S.look, S.looks, S.deref, subD, pNone, pSome, eSlice, sliceD, eRev, eCallB, iVal, itemsD, iRange1, iRange2, iEnumM, gVar, gsNil, gsCons, gTupM, eLc, lc1, for1, tTrue, S.wipe, wipeE, ePop, ePopAt, S.isList, S.bound, eMove, capL, eIsi, D.isT, eDict0, eDisp, eDispL, eCell, psNil, psCons, D.key, isNon_non, isNon_int, isNon_str, isNon_tup, isNon_lst, isNon_bl, isNon_dct, Option.map, Option.bind, List.getElem?_cons_zero, List.getElem?_cons_succ, List.set_cons_zero, List.set_cons_succ, List.map_cons, List.map_nil, List.length_cons, List.length_nil, List.replicate_succ, List.replicate_zero, List.cons_append, List.nil_append, List.append_nil, Nat.reduceSub, Nat.reduceAdd, Nat.reduceEqDiff, decide_true, decide_false, if_true, if_false, ite_true, ite_false, reduceIte, Bool.false_eq_true, Nat.reduceLT, Nat.zero_lt_succ, Nat.lt_add_one, Nat.zero_add, true_and, and_true, or_true, true_or, false_and, and_false, false_or, or_false, Bool.not_true, Bool.not_false, Nat.succ_lt_succ_iff, Nat.add_lt_add_iff_right, beq_self_eq_true, String.reduceBEq, Bool.or_true, Bool.true_or, Bool.or_false, Bool.false_or, Bool.and_true, Bool.true_and, Bool.and_false, Bool.false_and, Int.cast_ofNat_Int, Int.reduceBEq, Int.reduceLT, Int.reduceLE, Int.reduceAdd, Int.reduceSub, Int.reduceMul, Int.reduceNeg, Int.natCast_zero, Int.natCast_one, sz_0, sz_1, sz_2, sz_3, sz_4, sz_5, sz_6, sz_7, sz_8, sz_9, sz_10, sz_11, sz_12, sz_13, sz_14, sz_15, sz_16, hk, Nat.le_refl]
        refine ⟨?_, rfl⟩
        rw [← e5]; rfl
    · rw [List.concat_eq_append] at z
      subst z
      right
      refine ⟨envO w d ps aw j5 j6 calls (told' ++ [(m, x)]) j11 j12 j13 j14 j15 st, ?_, ?_⟩
      · have : (told' ++ [(m, x)]).isEmpty = false := by simp
        simp only [sSeq_eq, seq_nx', seq_rt', seq_bk', seq_ct', bind_ok', then_ok', opt_some', toB_ok', eCall_eq, back_ok', eCallL_eq, looksL_some, sNil, sBreak, sCont, sExpr, sRet, sRetN, sIf, sSet, sAsg, sPar2, par2K, sPar3, par3K, sFor, sAppend, sExtend, sDPut, storeK, sSubApp, eOf, eV, oV, eC, eVar, oVar, eTup, eLst, vsNil, vsCons, osNil, osCons, lsNil, lsCons, eOp, binD, cmpP, cm_eq_str, cm_ne_str, cm_eq_int, cm_ne_int, cm_lt, cm_le, cm_gt, cm_ge, cm_slt, cm_sle, cm_is, cm_isnot, cm_in_tup, cm_nin_tup, cm_in_lst, cm_nin_lst, cm_in_dct, cm_nin_dct, cm_in_str, cm_ne_nn, cm_eq_nn, Nat.le_refl, Nat.zero_le, Nat.reduceLeDiff, big_0, seqIx_0, List.eraseIdx_cons_zero, pop_last, drop_last, max2, eSortK, atI_0, atI_1, atI_2, atI_3, atI_4, tCmp, tChain2, eT, tAnd2, tOr2, tNot1, bOf, eAnd2, eOr2, eNot1, eIf, truD, tTru, eSub, S.flat, S.look, S.looks, S.deref, subD, pNone, pSome, eSlice, sliceD, eRev, eCallB, iVal, itemsD, iRange1, iRange2, iEnumM, gVar, gsNil, gsCons, gTupM, eLc, lc1, for1, tTrue, S.wipe, wipeE, ePop, ePopAt, S.isList, S.bound, eMove, capL, eIsi, D.isT, eDict0, eDisp, eDispL, eCell, psNil, psCons, D.key, isNon_non, isNon_int, isNon_str, isNon_tup, isNon_lst, isNon_bl, isNon_dct, Option.map, Option.bind, List.getElem?_cons_zero, List.getElem?_cons_succ, List.set_cons_zero, List.set_cons_succ, List.map_cons, List.map_nil, List.length_cons, List.length_nil, List.replicate_succ, List.replicate_zero, List.cons_append, List.nil_append, List.append_nil, Nat.reduceSub, Nat.reduceAdd, Nat.reduceEqDiff, decide_true, decide_false, if_true, if_false, ite_true, ite_false, reduceIte, Bool.false_eq_true, Nat.reduceLT, Nat.zero_lt_succ, Nat.lt_add_one, Nat.zero_add, true_and, and_true, or_true, true_or, false_and, and_false, false_or, or_false, Bool.not_true, Bool.not_false, Nat.succ_lt_succ_iff, Nat.add_lt_add_iff_right, beq_self_eq_true, String.reduceBEq, Bool.or_true, Bool.true_or, Bool.or_false, Bool.false_or, Bool.and_true, Bool.true_and, Bool.and_false, Bool.false_and, Int.cast_ofNat_Int, Int.reduceBEq, Int.reduceLT, Int.reduceLE, Int.reduceAdd, Int.reduceSub, Int.reduceMul, Int.reduceNeg, Int.natCast_zero, Int.natCast_one, sz_0, sz_1, sz_2, sz_3, sz_4, sz_5, sz_6, sz_7, sz_8, sz_9, sz_10, sz_11, sz_12, sz_13, sz_14, sz_15, sz_16, cm_ne_told, this]
      · have hx : x ∈ ("" : Str) :: ps.map (·.1) := inv.mem (m, x) (by simp)
        have e2 := lists_get _ ps x hx
        rw [kids_forest ok.good] at e2
        have hsz : szT ps told' + (1 + sizeF (forest ps x)) = n := by
          have := inv.sz
          unfold szT at *
          simpa using this
        have hn17 := inv.n
        have hfl : (forest ps x).length ≤ 17 := by
          have := sizeL_len ((forest ps x).map fun t => (t, d))
          have h2 := sizeL_app d (forest ps x) []
          rw [List.append_nil] at h2
          rw [List.length_map, h2] at this
          unfold sizeL at this
          omega
        have key2 : ∀ j12, lcM [5] (gVar 5) tTrue (eTup (vsCons (eVar 5) (vsCons (eVar 3) vsNil))) ((forest ps x).map fun t => D.str (tname t)) [] (envO w d ps aw none (some (0, .str x)) calls told' (some (0, .int m)) j12 j13 j14 j15 st)
            = .ok ((forest ps x).map fun t => lineD (t, d)) (envO w d ps aw none (some (0, .str x)) calls told' (some (0, .int m)) j12 j13 j14 j15 st) := fun j12 =>
          lcM_map (fun t => D.str (tname t)) (fun t => lineD (t, d)) (forest ps x) (by omega) fun t _ => by simp only [sSeq_eq, seq_nx', seq_rt', seq_bk', seq_ct', bind_ok', then_ok', opt_some', toB_ok', eCall_eq, back_ok', eCallL_eq, looksL_some, sNil, sBreak, sCont, sExpr, sRet, sRetN, sIf, sSet, sAsg, sPar2, par2K, sPar3, par3K, sFor, sAppend, sExtend, sDPut, storeK, sSubApp, eOf, eV, oV, eC, eVar, oVar, eTup, eLst, vsNil, vsCons, osNil, osCons, lsNil, lsCons, eOp, binD, cmpP, cm_eq_str, cm_ne_str, cm_eq_int, cm_ne_int, cm_lt, cm_le, cm_gt, cm_ge, cm_slt, cm_sle, cm_is, cm_isnot, cm_in_tup, cm_nin_tup, cm_in_lst, cm_nin_lst, cm_in_dct, cm_nin_dct, cm_in_str, cm_ne_nn, cm_eq_nn, Nat.le_refl, Nat.zero_le, Nat.reduceLeDiff, big_0, seqIx_0, List.eraseIdx_cons_zero, pop_last, drop_last, max2, eSortK, atI_0, atI_1, atI_2, atI_3, atI_4, tCmp, tChain2, eT, tAnd2, tOr2, tNot1, bOf, eAnd2, eOr2, eNot1, eIf, truD, tTru, eSub, S.flat, S.look, S.looks, S.deref, subD, pNone, pSome, eSlice, sliceD, eRev, eCallB, iVal, itemsD, iRange1, iRange2, iEnumM, gVar, gsNil, gsCons, gTupM, eLc, lc1, for1, tTrue, S.wipe, wipeE, ePop, ePopAt, S.isList, S.bound, eMove, capL, eIsi, D.isT, eDict0, eDisp, eDispL, eCell, psNil, psCons, D.key, isNon_non, isNon_int, isNon_str, isNon_tup, isNon_lst, isNon_bl, isNon_dct, Option.map, Option.bind, List.getElem?_cons_zero, List.getElem?_cons_succ, List.set_cons_zero, List.set_cons_succ, List.map_cons, List.map_nil, List.length_cons, List.length_nil, List.replicate_succ, List.replicate_zero, List.cons_append, List.nil_append, List.append_nil, Nat.reduceSub, Nat.reduceAdd, Nat.reduceEqDiff, decide_true, decide_false, if_true, if_false, ite_true, ite_false, reduceIte, Bool.false_eq_true, Nat.reduceLT, Nat.zero_lt_succ, Nat.lt_add_one, Nat.zero_add, true_and, and_true, or_true, true_or, false_and, and_false, false_or, or_false, Bool.not_true, Bool.not_false, Nat.succ_lt_succ_iff, Nat.add_lt_add_iff_right, beq_self_eq_true, String.reduceBEq, Bool.or_true, Bool.true_or, Bool.or_false, Bool.false_or, Bool.and_true, Bool.true_and, Bool.and_false, Bool.false_and, Int.cast_ofNat_Int, Int.reduceBEq, Int.reduceLT, Int.reduceLE, Int.reduceAdd, Int.reduceSub, Int.reduceMul, Int.reduceNeg, Int.natCast_zero, Int.natCast_one, sz_0, sz_1, sz_2, sz_3, sz_4, sz_5, sz_6, sz_7, sz_8, sz_9, sz_10, sz_11, sz_12, sz_13, sz_14, sz_15, sz_16, lineD]
        have e3 : List.map toldD (told' ++ [(m, x)]) = told'.map toldD ++ [D.tup [.int m, .str x]] := by simp [toldD]
        simp only [sSeq_eq, seq_nx', seq_rt', seq_bk', seq_ct', bind_ok', then_ok', opt_some', toB_ok', eCall_eq, back_ok', eCallL_eq, looksL_some, sNil, sBreak, sCont, sExpr, sRet, sRetN, sIf, sSet, sAsg, sPar2, par2K, sPar3, par3K, sFor, sAppend, sExtend, sDPut, storeK, sSubApp, eOf, eV, oV, eC, eVar, oVar, eTup, eLst, vsNil, vsCons, osNil, osCons, lsNil, lsCons, eOp, binD, cmpP, cm_eq_str, cm_ne_str, cm_eq_int, cm_ne_int, cm_lt, cm_le, cm_gt, cm_ge, cm_slt, cm_sle, cm_is, cm_isnot, cm_in_tup, cm_nin_tup, cm_in_lst, cm_nin_lst, cm_in_dct, cm_nin_dct, cm_in_str, cm_ne_nn, cm_eq_nn, Nat.le_refl, Nat.zero_le, Nat.reduceLeDiff, big_0, seqIx_0, List.eraseIdx_cons_zero, pop_last, drop_last, max2, eSortK, atI_0, atI_1, atI_2, atI_3, atI_4, tCmp, tChain2, eT, tAnd2, tOr2, tNot1, bOf, eAnd2, eOr2, eNot1, eIf, truD, tTru, eSub, S.flat, S.look, S.looks, S.deref, subD, pNone, pSome, eSlice, sliceD, eRev, eCallB, iVal, itemsD, iRange1, iRange2, iEnumM, gVar, gsNil, gsCons, gTupM, eLc, lc1, for1, tTrue, S.wipe, wipeE, ePop, ePopAt, S.isList, S.bound, eMove, capL, eIsi, D.isT, eDict0, eDisp, eDispL, eCell, psNil, psCons, D.key, isNon_non, isNon_int, isNon_str, isNon_tup, isNon_lst, isNon_bl, isNon_dct, Option.map, Option.bind, List.getElem?_cons_zero, List.getElem?_cons_succ, List.set_cons_zero, List.set_cons_succ, List.map_cons, List.map_nil, List.length_cons, List.length_nil, List.replicate_succ, List.replicate_zero, List.cons_append, List.nil_append, List.append_nil, Nat.reduceSub, Nat.reduceAdd, Nat.reduceEqDiff, decide_true, decide_false, if_true, if_false, ite_true, ite_false, reduceIte, Bool.false_eq_true, Nat.reduceLT, Nat.zero_lt_succ, Nat.lt_add_one, Nat.zero_add, true_and, and_true, or_true, true_or, false_and, and_false, false_or, or_false, Bool.not_true, Bool.not_false, Nat.succ_lt_succ_iff, Nat.add_lt_add_iff_right, beq_self_eq_true, String.reduceBEq, Bool.or_true, Bool.true_or, Bool.or_false, Bool.false_or, Bool.and_true, Bool.true_and, Bool.and_false, Bool.false_and, Int.cast_ofNat_Int, Int.reduceBEq, Int.reduceLT, Int.reduceLE, Int.reduceAdd, Int.reduceSub, Int.reduceMul, Int.reduceNeg, Int.natCast_zero, Int.natCast_one, sz_0, sz_1, sz_2, sz_3, sz_4, sz_5, sz_6, sz_7, sz_8, sz_9, sz_10, sz_11, sz_12, sz_13, sz_14, sz_15, sz_16, e3, pop_last, drop_last, e2, key2]
        have e4 : (forest ps x).map (fun t => lineD (t, d)) = ((forest ps x).map fun t => (t, d)).map lineD := by simp
        rw [e4]
        refine while_q (fun n1 s => ∃ j5 calls told m line j13 j14 j15, s = envI w d ps aw j5 x calls told m line j13 j14 j15 st ∧ InvI w d ps aw n n1 x calls told m line) (sizeF (forest ps x)) ?_ ⟨none, calls, told', m, (forest ps x).map fun t => (t, d), j13, j14, j15, rfl, ?_⟩ ?_
        · rintro n1 s ⟨j5, calls, told, m, line, j13, j14, j15, rfl, ii⟩
          have hlen : calls.length ≤ 16 := by
            have h1 := ii.perm.length_eq
            have h2 := lenF (aw := awB aw) (wait := w) (deep := d) (forest ps (("" : Str))) (("" : Str)) d 0
            rw [ok.good.size] at h2
            rw [List.length_append, List.length_append] at h1
            unfold total at h1
            omega
          have hz : szOk (calls.map callD).length = true := szOk_of (by rw [List.length_map]; omega)
          have htl : told.length ≤ 17 := by
            have h1 := ii.sz
            have h2 := ii.n0
            have h3 : told.length ≤ szT ps told := by
              unfold szT
              clear ii h1
              induction told with
              | nil => simp
              | cons q r ih => rw [List.map_cons, List.sum_cons, List.length_cons]; omega
            omega
          have hz2 : szOk (told.map toldD).length = true := szOk_of (by rw [List.length_map]; omega)
          match line, ii with
          | [], ii =>
            left
            refine ⟨envI w d ps aw j5 x calls told m [] j13 j14 j15 st, ?_, ?_⟩
            · simp only [sSeq_eq, seq_nx', seq_rt', seq_bk', seq_ct', bind_ok', then_ok', opt_some', toB_ok', eCall_eq, back_ok', eCallL_eq, looksL_some, sNil, sBreak, sCont, sExpr, sRet, sRetN, sIf, sSet, sAsg, sPar2, par2K, sPar3, par3K, sFor, sAppend, sExtend, sDPut, storeK, sSubApp, eOf, eV, oV, eC, eVar, oVar, eTup, eLst, vsNil, vsCons, osNil, osCons, lsNil, lsCons, eOp, binD, cmpP, cm_eq_str, cm_ne_str, cm_eq_int, cm_ne_int, cm_lt, cm_le, cm_gt, cm_ge, cm_slt, cm_sle, cm_is, cm_isnot, cm_in_tup, cm_nin_tup, cm_in_lst, cm_nin_lst, cm_in_dct, cm_nin_dct, cm_in_str, cm_ne_nn, cm_eq_nn, Nat.le_refl, Nat.zero_le, Nat.reduceLeDiff, big_0, seqIx_0, List.eraseIdx_cons_zero, pop_last, drop_last, max2, eSortK, atI_0, atI_1, atI_2, atI_3, atI_4, tCmp, tChain2, eT, tAnd2, tOr2, tNot1, bOf, eAnd2, eOr2, eNot1, eIf, truD, tTru, eSub, S.flat, S.look, S.looks, S.deref, subD, pNone, pSome, eSlice, sliceD, eRev, eCallB, iVal, itemsD, iRange1, iRange2, iEnumM, gVar, gsNil, gsCons, gTupM, eLc, lc1, for1, tTrue, S.wipe, wipeE, ePop, ePopAt, S.isList, S.bound, eMove, capL, eIsi, D.isT, eDict0, eDisp, eDispL, eCell, psNil, psCons, D.key, isNon_non, isNon_int, isNon_str, isNon_tup, isNon_lst, isNon_bl, isNon_dct, Option.map, Option.bind, List.getElem?_cons_zero, List.getElem?_cons_succ, List.set_cons_zero, List.set_cons_succ, List.map_cons, List.map_nil, List.length_cons, List.length_nil, List.replicate_succ, List.replicate_zero, List.cons_append, List.nil_append, List.append_nil, Nat.reduceSub, Nat.reduceAdd, Nat.reduceEqDiff, decide_true, decide_false, if_true, if_false, ite_true, ite_false, reduceIte, Bool.false_eq_true, Nat.reduceLT, Nat.zero_lt_succ, Nat.lt_add_one, Nat.zero_add, true_and, and_true, or_true, true_or, false_and, and_false, false_or, or_false, Bool.not_true, Bool.not_false, Nat.succ_lt_succ_iff, Nat.add_lt_add_iff_right, beq_self_eq_true, String.reduceBEq, Bool.or_true, Bool.true_or, Bool.or_false, Bool.false_or, Bool.and_true, Bool.true_and, Bool.and_false, Bool.false_and, Int.cast_ofNat_Int, Int.reduceBEq, Int.reduceLT, Int.reduceLE, Int.reduceAdd, Int.reduceSub, Int.reduceMul, Int.reduceNeg, Int.natCast_zero, Int.natCast_one, sz_0, sz_1, sz_2, sz_3, sz_4, sz_5, sz_6, sz_7, sz_8, sz_9, sz_10, sz_11, sz_12, sz_13, sz_14, sz_15, sz_16]
            · simp only [sSeq_eq, seq_nx', seq_rt', seq_bk', seq_ct', bind_ok', then_ok', opt_some', toB_ok', eCall_eq, back_ok', eCallL_eq, looksL_some, sNil, sBreak, sCont, sExpr, sRet, sRetN, sIf, sSet, sAsg, sPar2, par2K, sPar3, par3K, sFor, sAppend, sExtend, sDPut, storeK, sSubApp, eOf, eV, oV, eC, eVar, oVar, eTup, eLst, vsNil, vsCons, osNil, osCons, lsNil, lsCons, eOp, binD, cmpP, cm_eq_str, cm_ne_str, cm_eq_int, cm_ne_int, cm_lt, cm_le, cm_gt, cm_ge, cm_slt, cm_sle, cm_is, cm_isnot, cm_in_tup, cm_nin_tup, cm_in_lst, cm_nin_lst, cm_in_dct, cm_nin_dct, cm_in_str, cm_ne_nn, cm_eq_nn, Nat.le_refl, Nat.zero_le, Nat.reduceLeDiff, big_0, seqIx_0, List.eraseIdx_cons_zero, pop_last, drop_last, max2, eSortK, atI_0, atI_1, atI_2, atI_3, atI_4, tCmp, tChain2, eT, tAnd2, tOr2, tNot1, bOf, eAnd2, eOr2, eNot1, eIf, truD, tTru, eSub, S.flat, S.look, S.looks, S.deref, subD, pNone, pSome, eSlice, sliceD, eRev, eCallB, iVal, itemsD, iRange1, iRange2, iEnumM, gVar, gsNil, gsCons, gTupM, eLc, lc1, for1, tTrue, S.wipe, wipeE, ePop, ePopAt, S.isList, S.bound, eMove, capL, eIsi, D.isT, eDict0, eDisp, eDispL, eCell, psNil, psCons, D.key, isNon_non, isNon_int, isNon_str, isNon_tup, isNon_lst, isNon_bl, isNon_dct, Option.map, Option.bind, List.getElem?_cons_zero, List.getElem?_cons_succ, List.set_cons_zero, List.set_cons_succ, List.map_cons, List.map_nil, List.length_cons, List.length_nil, List.replicate_succ, List.replicate_zero, List.cons_append, List.nil_append, List.append_nil, Nat.reduceSub, Nat.reduceAdd, Nat.reduceEqDiff, decide_true, decide_false, if_true, if_false, ite_true, ite_false, reduceIte, Bool.false_eq_true, Nat.reduceLT, Nat.zero_lt_succ, Nat.lt_add_one, Nat.zero_add, true_and, and_true, or_true, true_or, false_and, and_false, false_or, or_false, Bool.not_true, Bool.not_false, Nat.succ_lt_succ_iff, Nat.add_lt_add_iff_right, beq_self_eq_true, String.reduceBEq, Bool.or_true, Bool.true_or, Bool.or_false, Bool.false_or, Bool.and_true, Bool.true_and, Bool.and_false, Bool.false_and, Int.cast_ofNat_Int, Int.reduceBEq, Int.reduceLT, Int.reduceLE, Int.reduceAdd, Int.reduceSub, Int.reduceMul, Int.reduceNeg, Int.natCast_zero, Int.natCast_one, sz_0, sz_1, sz_2, sz_3, sz_4, sz_5, sz_6, sz_7, sz_8, sz_9, sz_10, sz_11, sz_12, sz_13, sz_14, sz_15, sz_16]
              exact ⟨szT ps told, by have := ii.sz; omega, _, _, calls, told, _, _, _, _, _, rfl, ⟨by have := ii.perm; unfold ringL at this; simpa using this, ii.mem, rfl, by have := ii.sz; have := ii.n0; omega⟩⟩
          | (t, r) :: l, ii =>
            right
            refine ⟨envI w d ps aw j5 x calls told m ((t, r) :: l) j13 j14 j15 st, ?_, ?_⟩
            · have : ((t, r) :: l).isEmpty = false := rfl
              rw [show tCmp .NotEq (oVar 12) (oV (eV (eLst vsNil))) (envI w d ps aw j5 x calls told m ((t, r) :: l) j13 j14 j15 st) = toB (R.opt ((cmpD .NotEq (1, .lst (((t, r) :: l).map lineD)) (0, .lst [])).map fun b => (0, D.bl b)) (envI w d ps aw j5 x calls told m ((t, r) :: l) j13 j14 j15 st)) from rfl, cm_ne_line]
              rfl
            · obtain ⟨p, hp, rfl⟩ := ii.own (t, r) (by simp)
              have e6 := talks_get ndn hp
              have hln := sizeL_len l
              have hs1 : sizeL ((T.node p.1 p.2.2 (forest ps p.1), r) :: l) = 1 + sizeF (forest ps p.1) + sizeL l := by
                show sizeT _ + sizeL l = _
                rw [sizeT]
              have hii := ii.sz
              have hin := ii.n
              have hi0 := ii.n0
              rw [hs1] at hii hin
              have hkl : (forest ps p.1).length ≤ 17 := by
                have := sizeL_len ((forest ps p.1).map fun t => (t, d))
                have h2 := sizeL_app d (forest ps p.1) []
                rw [List.append_nil] at h2
                rw [List.length_map, h2] at this
                unfold sizeL at this
                omega
              have hpm := ii.perm
              unfold ringL at hpm
              by_cases ha : p.1 ∈ aw
              · have ha' : decide (p.1 ∈ aw) = true := decide_eq_true ha
                by_cases hr : r = 1
                · subst hr
                  simp only [sSeq_eq, seq_nx', seq_rt', seq_bk', seq_ct', bind_ok', then_ok', opt_some', toB_ok', eCall_eq, back_ok', eCallL_eq, looksL_some, sNil, sBreak, sCont, sExpr, sRet, sRetN, sIf, sSet, sAsg, sPar2, par2K, sPar3, par3K, sFor, sAppend, sExtend, sDPut, storeK, sSubApp, eOf, eV, oV, eC, eVar, oVar, eTup, eLst, vsNil, vsCons, osNil, osCons, lsNil, lsCons, eOp, binD, cmpP, cm_eq_str, cm_ne_str, cm_eq_int, cm_ne_int, cm_lt, cm_le, cm_gt, cm_ge, cm_slt, cm_sle, cm_is, cm_isnot, cm_in_tup, cm_nin_tup, cm_in_lst, cm_nin_lst, cm_in_dct, cm_nin_dct, cm_in_str, cm_ne_nn, cm_eq_nn, Nat.le_refl, Nat.zero_le, Nat.reduceLeDiff, big_0, seqIx_0, List.eraseIdx_cons_zero, pop_last, drop_last, max2, eSortK, atI_0, atI_1, atI_2, atI_3, atI_4, tCmp, tChain2, eT, tAnd2, tOr2, tNot1, bOf, eAnd2, eOr2, eNot1, eIf, truD, tTru, eSub, S.flat, S.look, S.looks, S.deref, subD, pNone, pSome, eSlice, sliceD, eRev, eCallB, iVal, itemsD, iRange1, iRange2, iEnumM, gVar, gsNil, gsCons, gTupM, eLc, lc1, for1, tTrue, S.wipe, wipeE, ePop, ePopAt, S.isList, S.bound, eMove, capL, eIsi, D.isT, eDict0, eDisp, eDispL, eCell, psNil, psCons, D.key, isNon_non, isNon_int, isNon_str, isNon_tup, isNon_lst, isNon_bl, isNon_dct, Option.map, Option.bind, List.getElem?_cons_zero, List.getElem?_cons_succ, List.set_cons_zero, List.set_cons_succ, List.map_cons, List.map_nil, List.length_cons, List.length_nil, List.replicate_succ, List.replicate_zero, List.cons_append, List.nil_append, List.append_nil, Nat.reduceSub, Nat.reduceAdd, Nat.reduceEqDiff, decide_true, decide_false, if_true, if_false, ite_true, ite_false, reduceIte, Bool.false_eq_true, Nat.reduceLT, Nat.zero_lt_succ, Nat.lt_add_one, Nat.zero_add, true_and, and_true, or_true, true_or, false_and, and_false, false_or, or_false, Bool.not_true, Bool.not_false, Nat.succ_lt_succ_iff, Nat.add_lt_add_iff_right, beq_self_eq_true, String.reduceBEq, Bool.or_true, Bool.true_or, Bool.or_false, Bool.false_or, Bool.and_true, Bool.true_and, Bool.and_false, Bool.false_and, Int.cast_ofNat_Int, Int.reduceBEq, Int.reduceLT, Int.reduceLE, Int.reduceAdd, Int.reduceSub, Int.reduceMul, Int.reduceNeg, Int.natCast_zero, Int.natCast_one, sz_0, sz_1, sz_2, sz_3, sz_4, sz_5, sz_6, sz_7, sz_8, sz_9, sz_10, sz_11, sz_12, sz_13, sz_14, sz_15, sz_16, lineD, tname_node, ha', e6, hz]
                  refine ⟨sizeL l, by omega, some (0, .str p.1), calls ++ [(m, m + w, x, p.1, false)], told, m + w, l, some (0, .int 1), some (0, .bl false), some (0, .int (m + w)), ?_, ⟨?_, ii.mem, fun q hq => ii.own q (by simp [hq]), by omega, rfl, hi0⟩⟩
                  · simp [callD]
                  · rw [ringT_away1 ha'] at hpm
                    exact (permc _ _ _ _).trans hpm
                · have hr' : (r == 1) = false := by simpa using hr
                  have e7 := lists_get _ ps p.1 (show p.1 ∈ ("" : Str) :: ps.map (·.1) from List.mem_cons_of_mem _ (List.mem_map.mpr ⟨p, hp, rfl⟩))
                  rw [kids_forest ok.good] at e7
                  have key3 : ∀ s0 : S, s0 = envI w d ps aw (some (0, .str p.1)) x (calls ++ [(m, m + w, x, p.1, false)]) told m l (some (0, .int r)) (some (0, .bl false)) (some (0, .int (m + w))) st → lcM [17] (gVar 17) tTrue (eTup (vsCons (eVar 17) (vsCons (eV (eCallB maxD (osCons (oV (eC (.int 0))) (osCons (oV (eV (eBin .Sub (oVar 13) (oV (eC (.int 1)))))) osNil)))) vsNil))) ((forest ps p.1).map fun t => D.str (tname t)) [] s0
                      = .ok ((forest ps p.1).map fun t => lineD (t, max 0 (r - 1))) s0 := fun s0 hs0 => by
                    subst hs0
                    exact lcM_map (fun t => D.str (tname t)) (fun t => lineD (t, max 0 (r - 1))) (forest ps p.1) (by omega) fun t _ => by simp only [sSeq_eq, seq_nx', seq_rt', seq_bk', seq_ct', bind_ok', then_ok', opt_some', toB_ok', eCall_eq, back_ok', eCallL_eq, looksL_some, sNil, sBreak, sCont, sExpr, sRet, sRetN, sIf, sSet, sAsg, sPar2, par2K, sPar3, par3K, sFor, sAppend, sExtend, sDPut, storeK, sSubApp, eOf, eV, oV, eC, eVar, oVar, eTup, eLst, vsNil, vsCons, osNil, osCons, lsNil, lsCons, eOp, binD, cmpP, cm_eq_str, cm_ne_str, cm_eq_int, cm_ne_int, cm_lt, cm_le, cm_gt, cm_ge, cm_slt, cm_sle, cm_is, cm_isnot, cm_in_tup, cm_nin_tup, cm_in_lst, cm_nin_lst, cm_in_dct, cm_nin_dct, cm_in_str, cm_ne_nn, cm_eq_nn, Nat.le_refl, Nat.zero_le, Nat.reduceLeDiff, big_0, seqIx_0, List.eraseIdx_cons_zero, pop_last, drop_last, max2, eSortK, atI_0, atI_1, atI_2, atI_3, atI_4, tCmp, tChain2, eT, tAnd2, tOr2, tNot1, bOf, eAnd2, eOr2, eNot1, eIf, truD, tTru, eSub, S.flat, S.look, S.looks, S.deref, subD, pNone, pSome, eSlice, sliceD, eRev, eCallB, iVal, itemsD, iRange1, iRange2, iEnumM, gVar, gsNil, gsCons, gTupM, eLc, lc1, for1, tTrue, S.wipe, wipeE, ePop, ePopAt, S.isList, S.bound, eMove, capL, eIsi, D.isT, eDict0, eDisp, eDispL, eCell, psNil, psCons, D.key, isNon_non, isNon_int, isNon_str, isNon_tup, isNon_lst, isNon_bl, isNon_dct, Option.map, Option.bind, List.getElem?_cons_zero, List.getElem?_cons_succ, List.set_cons_zero, List.set_cons_succ, List.map_cons, List.map_nil, List.length_cons, List.length_nil, List.replicate_succ, List.replicate_zero, List.cons_append, List.nil_append, List.append_nil, Nat.reduceSub, Nat.reduceAdd, Nat.reduceEqDiff, decide_true, decide_false, if_true, if_false, ite_true, ite_false, reduceIte, Bool.false_eq_true, Nat.reduceLT, Nat.zero_lt_succ, Nat.lt_add_one, Nat.zero_add, true_and, and_true, or_true, true_or, false_and, and_false, false_or, or_false, Bool.not_true, Bool.not_false, Nat.succ_lt_succ_iff, Nat.add_lt_add_iff_right, beq_self_eq_true, String.reduceBEq, Bool.or_true, Bool.true_or, Bool.or_false, Bool.false_or, Bool.and_true, Bool.true_and, Bool.and_false, Bool.false_and, Int.cast_ofNat_Int, Int.reduceBEq, Int.reduceLT, Int.reduceLE, Int.reduceAdd, Int.reduceSub, Int.reduceMul, Int.reduceNeg, Int.natCast_zero, Int.natCast_one, sz_0, sz_1, sz_2, sz_3, sz_4, sz_5, sz_6, sz_7, sz_8, sz_9, sz_10, sz_11, sz_12, sz_13, sz_14, sz_15, sz_16, lineD]
                  have e8 := key3 _ rfl
                  have hcd : (calls ++ [(m, m + w, x, p.1, false)]).map callD = calls.map callD ++ [D.tup [.int m, .int (m + w), .str x, .str p.1, .bl false]] := by simp [callD]
                  simp only [envI, hcd] at e8
                  have hz3 : szOk (((forest ps p.1).map fun t => lineD (t, max 0 (r - 1))).length + (l.map lineD).length) = true := szOk_of (by rw [List.length_map, List.length_map]; omega)
                  simp only [sSeq_eq, seq_nx', seq_rt', seq_bk', seq_ct', bind_ok', then_ok', opt_some', toB_ok', eCall_eq, back_ok', eCallL_eq, looksL_some, sNil, sBreak, sCont, sExpr, sRet, sRetN, sIf, sSet, sAsg, sPar2, par2K, sPar3, par3K, sFor, sAppend, sExtend, sDPut, storeK, sSubApp, eOf, eV, oV, eC, eVar, oVar, eTup, eLst, vsNil, vsCons, osNil, osCons, lsNil, lsCons, eOp, binD, cmpP, cm_eq_str, cm_ne_str, cm_eq_int, cm_ne_int, cm_lt, cm_le, cm_gt, cm_ge, cm_slt, cm_sle, cm_is, cm_isnot, cm_in_tup, cm_nin_tup, cm_in_lst, cm_nin_lst, cm_in_dct, cm_nin_dct, cm_in_str, cm_ne_nn, cm_eq_nn, Nat.le_refl, Nat.zero_le, Nat.reduceLeDiff, big_0, seqIx_0, List.eraseIdx_cons_zero, pop_last, drop_last, max2, eSortK, atI_0, atI_1, atI_2, atI_3, atI_4, tCmp, tChain2, eT, tAnd2, tOr2, tNot1, bOf, eAnd2, eOr2, eNot1, eIf, truD, tTru, eSub, S.flat, S.look, S.looks, S.deref, subD, pNone, pSome, eSlice, sliceD, eRev, eCallB, iVal, itemsD, iRange1, iRange2, iEnumM, gVar, gsNil, gsCons, gTupM, eLc, lc1, for1, tTrue, S.wipe, wipeE, ePop, ePopAt, S.isList, S.bound, eMove, capL, eIsi, D.isT, eDict0, eDisp, eDispL, eCell, psNil, psCons, D.key, isNon_non, isNon_int, isNon_str, isNon_tup, isNon_lst, isNon_bl, isNon_dct, Option.map, Option.bind, List.getElem?_cons_zero, List.getElem?_cons_succ, List.set_cons_zero, List.set_cons_succ, List.map_cons, List.map_nil, List.length_cons, List.length_nil, List.replicate_succ, List.replicate_zero, List.cons_append, List.nil_append, List.append_nil, Nat.reduceSub, Nat.reduceAdd, Nat.reduceEqDiff, decide_true, decide_false, if_true, if_false, ite_true, ite_false, reduceIte, Bool.false_eq_true, Nat.reduceLT, Nat.zero_lt_succ, Nat.lt_add_one, Nat.zero_add, true_and, and_true, or_true, true_or, false_and, and_false, false_or, or_false, Bool.not_true, Bool.not_false, Nat.succ_lt_succ_iff, Nat.add_lt_add_iff_right, beq_self_eq_true, String.reduceBEq, Bool.or_true, Bool.true_or, Bool.or_false, Bool.false_or, Bool.and_true, Bool.true_and, Bool.and_false, Bool.false_and, Int.cast_ofNat_Int, Int.reduceBEq, Int.reduceLT, Int.reduceLE, Int.reduceAdd, Int.reduceSub, Int.reduceMul, Int.reduceNeg, Int.natCast_zero, Int.natCast_one, sz_0, sz_1, sz_2, sz_3, sz_4, sz_5, sz_6, sz_7, sz_8, sz_9, sz_10, sz_11, sz_12, sz_13, sz_14, sz_15, sz_16, lineD, tname_node, ha', hr', e7, hz]
                  rw [e8]
                  simp only [sSeq_eq, seq_nx', seq_rt', seq_bk', seq_ct', bind_ok', then_ok', opt_some', toB_ok', eCall_eq, back_ok', eCallL_eq, looksL_some, sNil, sBreak, sCont, sExpr, sRet, sRetN, sIf, sSet, sAsg, sPar2, par2K, sPar3, par3K, sFor, sAppend, sExtend, sDPut, storeK, sSubApp, eOf, eV, oV, eC, eVar, oVar, eTup, eLst, vsNil, vsCons, osNil, osCons, lsNil, lsCons, eOp, binD, cmpP, cm_eq_str, cm_ne_str, cm_eq_int, cm_ne_int, cm_lt, cm_le, cm_gt, cm_ge, cm_slt, cm_sle, cm_is, cm_isnot, cm_in_tup, cm_nin_tup, cm_in_lst, cm_nin_lst, cm_in_dct, cm_nin_dct, cm_in_str, cm_ne_nn, cm_eq_nn, Nat.le_refl, Nat.zero_le, Nat.reduceLeDiff, big_0, seqIx_0, List.eraseIdx_cons_zero, pop_last, drop_last, max2, eSortK, atI_0, atI_1, atI_2, atI_3, atI_4, tCmp, tChain2, eT, tAnd2, tOr2, tNot1, bOf, eAnd2, eOr2, eNot1, eIf, truD, tTru, eSub, S.flat, S.look, S.looks, S.deref, subD, pNone, pSome, eSlice, sliceD, eRev, eCallB, iVal, itemsD, iRange1, iRange2, iEnumM, gVar, gsNil, gsCons, gTupM, eLc, lc1, for1, tTrue, S.wipe, wipeE, ePop, ePopAt, S.isList, S.bound, eMove, capL, eIsi, D.isT, eDict0, eDisp, eDispL, eCell, psNil, psCons, D.key, isNon_non, isNon_int, isNon_str, isNon_tup, isNon_lst, isNon_bl, isNon_dct, Option.map, Option.bind, List.getElem?_cons_zero, List.getElem?_cons_succ, List.set_cons_zero, List.set_cons_succ, List.map_cons, List.map_nil, List.length_cons, List.length_nil, List.replicate_succ, List.replicate_zero, List.cons_append, List.nil_append, List.append_nil, Nat.reduceSub, Nat.reduceAdd, Nat.reduceEqDiff, decide_true, decide_false, if_true, if_false, ite_true, ite_false, reduceIte, Bool.false_eq_true, Nat.reduceLT, Nat.zero_lt_succ, Nat.lt_add_one, Nat.zero_add, true_and, and_true, or_true, true_or, false_and, and_false, false_or, or_false, Bool.not_true, Bool.not_false, Nat.succ_lt_succ_iff, Nat.add_lt_add_iff_right, beq_self_eq_true, String.reduceBEq, Bool.or_true, Bool.true_or, Bool.or_false, Bool.false_or, Bool.and_true, Bool.true_and, Bool.and_false, Bool.false_and, Int.cast_ofNat_Int, Int.reduceBEq, Int.reduceLT, Int.reduceLE, Int.reduceAdd, Int.reduceSub, Int.reduceMul, Int.reduceNeg, Int.natCast_zero, Int.natCast_one, sz_0, sz_1, sz_2, sz_3, sz_4, sz_5, sz_6, sz_7, sz_8, sz_9, sz_10, sz_11, sz_12, sz_13, sz_14, sz_15, sz_16, hz3]
                  refine ⟨sizeF (forest ps p.1) + sizeL l, by omega, some (0, .str p.1), calls ++ [(m, m + w, x, p.1, false)], told, m + w, (forest ps p.1).map (fun t => (t, max 0 (r - 1))) ++ l, some (0, .int r), some (0, .bl false), some (0, .int (m + w)), ?_, ⟨?_, ii.mem, fun q hq => ?_, ?_, ?_, hi0⟩⟩
                  · simp [callD]
                  · rw [ringT_away ha' hr] at hpm
                    rw [ringL_app]
                    refine List.Perm.trans (permc _ _ _ _) ?_
                    simpa using hpm
                  · rcases List.mem_append.mp hq with z | z
                    · obtain ⟨t, ht, rfl⟩ := List.mem_map.mp z
                      exact own_forest ok.good _ t ht
                    · exact ii.own q (by simp [z])
                  · rw [sizeL_app]; omega
                  · rw [sizeL_app]
              · have ha' : decide (p.1 ∈ aw) = false := decide_eq_false ha
                simp only [sSeq_eq, seq_nx', seq_rt', seq_bk', seq_ct', bind_ok', then_ok', opt_some', toB_ok', eCall_eq, back_ok', eCallL_eq, looksL_some, sNil, sBreak, sCont, sExpr, sRet, sRetN, sIf, sSet, sAsg, sPar2, par2K, sPar3, par3K, sFor, sAppend, sExtend, sDPut, storeK, sSubApp, eOf, eV, oV, eC, eVar, oVar, eTup, eLst, vsNil, vsCons, osNil, osCons, lsNil, lsCons, eOp, binD, cmpP, cm_eq_str, cm_ne_str, cm_eq_int, cm_ne_int, cm_lt, cm_le, cm_gt, cm_ge, cm_slt, cm_sle, cm_is, cm_isnot, cm_in_tup, cm_nin_tup, cm_in_lst, cm_nin_lst, cm_in_dct, cm_nin_dct, cm_in_str, cm_ne_nn, cm_eq_nn, Nat.le_refl, Nat.zero_le, Nat.reduceLeDiff, big_0, seqIx_0, List.eraseIdx_cons_zero, pop_last, drop_last, max2, eSortK, atI_0, atI_1, atI_2, atI_3, atI_4, tCmp, tChain2, eT, tAnd2, tOr2, tNot1, bOf, eAnd2, eOr2, eNot1, eIf, truD, tTru, eSub, S.flat, S.look, S.looks, S.deref, subD, pNone, pSome, eSlice, sliceD, eRev, eCallB, iVal, itemsD, iRange1, iRange2, iEnumM, gVar, gsNil, gsCons, gTupM, eLc, lc1, for1, tTrue, S.wipe, wipeE, ePop, ePopAt, S.isList, S.bound, eMove, capL, eIsi, D.isT, eDict0, eDisp, eDispL, eCell, psNil, psCons, D.key, isNon_non, isNon_int, isNon_str, isNon_tup, isNon_lst, isNon_bl, isNon_dct, Option.map, Option.bind, List.getElem?_cons_zero, List.getElem?_cons_succ, List.set_cons_zero, List.set_cons_succ, List.map_cons, List.map_nil, List.length_cons, List.length_nil, List.replicate_succ, List.replicate_zero, List.cons_append, List.nil_append, List.append_nil, Nat.reduceSub, Nat.reduceAdd, Nat.reduceEqDiff, decide_true, decide_false, if_true, if_false, ite_true, ite_false, reduceIte, Bool.false_eq_true, Nat.reduceLT, Nat.zero_lt_succ, Nat.lt_add_one, Nat.zero_add, true_and, and_true, or_true, true_or, false_and, and_false, false_or, or_false, Bool.not_true, Bool.not_false, Nat.succ_lt_succ_iff, Nat.add_lt_add_iff_right, beq_self_eq_true, String.reduceBEq, Bool.or_true, Bool.true_or, Bool.or_false, Bool.false_or, Bool.and_true, Bool.true_and, Bool.and_false, Bool.false_and, Int.cast_ofNat_Int, Int.reduceBEq, Int.reduceLT, Int.reduceLE, Int.reduceAdd, Int.reduceSub, Int.reduceMul, Int.reduceNeg, Int.natCast_zero, Int.natCast_one, sz_0, sz_1, sz_2, sz_3, sz_4, sz_5, sz_6, sz_7, sz_8, sz_9, sz_10, sz_11, sz_12, sz_13, sz_14, sz_15, sz_16, lineD, tname_node, ha', e6, hz, hz2]
                refine ⟨sizeL l, by omega, some (0, .str p.1), calls ++ [(m, m + p.2.2, x, p.1, true)], told ++ [(m + p.2.2, p.1)], m + p.2.2, l, some (0, .int r), some (0, .bl true), some (0, .int (m + p.2.2)), ?_, ⟨?_, fun q hq => ?_, fun q hq => ii.own q (by simp [hq]), ?_, rfl, hi0⟩⟩
                · simp [callD, toldD]
                · rw [ringT_there ha'] at hpm
                  refine List.Perm.trans ?_ hpm
                  rw [List.flatMap_append]
                  have := permc calls (told.flatMap (pend w d ps aw)) (pend w d ps aw (m + p.2.2, p.1) ++ ringL (awB aw) w d x (m + p.2.2) l) (m, m + p.2.2, x, p.1, true)
                  simpa [pend] using this
                · rcases List.mem_append.mp hq with z | z
                  · exact ii.mem q z
                  · rw [List.mem_singleton] at z; subst z
                    exact List.mem_cons_of_mem _ (List.mem_map.mpr ⟨p, hp, rfl⟩)
                · unfold szT at *
                  rw [List.map_append, List.sum_append]
                  simp only [List.map_cons, List.map_nil, List.sum_cons, List.sum_nil]
                  omega
        · refine ⟨?_, fun q hq => inv.mem q (by simp [hq]), fun q hq => ?_, ?_, ?_, hn17⟩
          · have h1 := inv.perm
            rw [List.flatMap_append] at h1
            have h2 := ringL_app (aw := awB aw) (wait := w) (deep := d) x d (forest ps x) m []
            rw [List.append_nil] at h2
            rw [h2]
            simp only [List.flatMap_cons, List.flatMap_nil, List.append_nil] at h1
            show (calls ++ told'.flatMap (pend w d ps aw) ++ (pend w d ps aw (m, x) ++ [])).Perm _
            rw [List.append_nil, List.append_assoc]
            exact h1
          · obtain ⟨t, ht, rfl⟩ := List.mem_map.mp hq
            exact own_forest ok.good x t ht
          · have h2 := sizeL_app d (forest ps x) []
            rw [List.append_nil] at h2
            rw [h2]
            unfold sizeL
            omega
          · have h2 := sizeL_app d (forest ps x) []
            rw [List.append_nil] at h2
            rw [h2]
            unfold sizeL
            omega
        · show sizeF (forest ps x) < 100000
          omega
  · refine ⟨?_, fun q hq => ?_, ?_, ?_⟩
    · simp [pend, total]
    · simp at hq; subst hq; simp
    · simp [szT]
    · rw [ok.good.size]; omega
  · rw [ok.good.size]; show 1 + ps.length < 100000; omega
end G
-- part Sp4
set_option Elab.async false
set_option linter.all false
set_option maxRecDepth 100000
set_option maxHeartbeats 4000000
set_option autoImplicit false
/-! Sp4: ring_calls; the law's walk and callers. -/
namespace G
open PySem PySem.Spec Rd L2 Ring
/-- of who is away, or None -/
def AskedOk (f : List D → S → R (Nat × D)) : Prop := (∀ (w d : Int) (ps : List Pe) (aw : List Str) (st : St), TreeOk w d ps → AwayOk ps aw → st.all flatC = true → f [treeD w d ps, namesD aw] ⟨[], st⟩ = .ok (1, .lst (sortC (total w d ps aw))) ⟨[], st⟩) ∧
  ∀ (w d : Int) (ps : List Pe) (st : St), TreeOk w d ps → st.all flatC = true → f [treeD w d ps, .non] ⟨[], st⟩ = .ok (1, .lst (sortC (total w d ps []))) ⟨[], st⟩
theorem asked_calls_ok (C : Call) (h1 : ThoseAwayOk (C "those_away")) (h2 : OwnCallsOk (C "own_calls")) : AskedOk (f_asked_calls C) := by
  refine ⟨fun w d ps aw st ok ao hst => ?_, fun w d ps st ok hst => ?_⟩
  · refine run_eq ?_
    unfold m_asked_calls
    simp only [sSeq_eq, seq_nx', seq_rt', seq_bk', seq_ct', bind_ok', then_ok', opt_some', toB_ok', eCall_eq, back_ok', eCallL_eq, looksL_some, sNil, sBreak, sCont, sExpr, sRet, sRetN, sIf, sSet, sAsg, sPar2, par2K, sPar3, par3K, sFor, sAppend, sExtend, sDPut, storeK, sSubApp, eOf, eV, oV, eC, eVar, oVar, eTup, eLst, vsNil, vsCons, osNil, osCons, lsNil, lsCons, eOp, binD, cmpP, cm_eq_str, cm_ne_str, cm_eq_int, cm_ne_int, cm_lt, cm_le, cm_gt, cm_ge, cm_slt, cm_sle, cm_is, cm_isnot, cm_in_tup, cm_nin_tup, cm_in_lst, cm_nin_lst, cm_in_dct, cm_nin_dct, cm_in_str, cm_ne_nn, cm_eq_nn, Nat.le_refl, Nat.zero_le, Nat.reduceLeDiff, big_0, seqIx_0, List.eraseIdx_cons_zero, pop_last, drop_last, max2, eSortK, atI_0, atI_1, atI_2, atI_3, atI_4, tCmp, tChain2, eT, tAnd2, tOr2, tNot1, bOf, eAnd2, eOr2, eNot1, eIf, truD, tTru, eSub, S.flat, S.look, S.looks, S.deref, subD, pNone, pSome, eSlice, sliceD, eRev, eCallB, iVal, itemsD, iRange1, iRange2, iEnumM, gVar, gsNil, gsCons, gTupM, eLc, lc1, for1, tTrue, S.wipe, wipeE, ePop, ePopAt, S.isList, S.bound, eMove, capL, eIsi, D.isT, eDict0, eDisp, eDispL, eCell, psNil, psCons, D.key, isNon_non, isNon_int, isNon_str, isNon_tup, isNon_lst, isNon_bl, isNon_dct, Option.map, Option.bind, List.getElem?_cons_zero, List.getElem?_cons_succ, List.set_cons_zero, List.set_cons_succ, List.map_cons, List.map_nil, List.length_cons, List.length_nil, List.replicate_succ, List.replicate_zero, List.cons_append, List.nil_append, List.append_nil, Nat.reduceSub, Nat.reduceAdd, Nat.reduceEqDiff, decide_true, decide_false, if_true, if_false, ite_true, ite_false, reduceIte, Bool.false_eq_true, Nat.reduceLT, Nat.zero_lt_succ, Nat.lt_add_one, Nat.zero_add, true_and, and_true, or_true, true_or, false_and, and_false, false_or, or_false, Bool.not_true, Bool.not_false, Nat.succ_lt_succ_iff, Nat.add_lt_add_iff_right, beq_self_eq_true, String.reduceBEq, Bool.or_true, Bool.true_or, Bool.or_false, Bool.false_or, Bool.and_true, Bool.true_and, Bool.and_false, Bool.false_and, Int.cast_ofNat_Int, Int.reduceBEq, Int.reduceLT, Int.reduceLE, Int.reduceAdd, Int.reduceSub, Int.reduceMul, Int.reduceNeg, Int.natCast_zero, Int.natCast_one, sz_0, sz_1, sz_2, sz_3, sz_4, sz_5, sz_6, sz_7, sz_8, sz_9, sz_10, sz_11, sz_12, sz_13, sz_14, sz_15, sz_16, h1.1 w d ps aw st ok ao hst, h2 w d ps aw st ok]
    exact ⟨rfl, rfl⟩
  · refine run_eq ?_
    unfold m_asked_calls
    simp only [sSeq_eq, seq_nx', seq_rt', seq_bk', seq_ct', bind_ok', then_ok', opt_some', toB_ok', eCall_eq, back_ok', eCallL_eq, looksL_some, sNil, sBreak, sCont, sExpr, sRet, sRetN, sIf, sSet, sAsg, sPar2, par2K, sPar3, par3K, sFor, sAppend, sExtend, sDPut, storeK, sSubApp, eOf, eV, oV, eC, eVar, oVar, eTup, eLst, vsNil, vsCons, osNil, osCons, lsNil, lsCons, eOp, binD, cmpP, cm_eq_str, cm_ne_str, cm_eq_int, cm_ne_int, cm_lt, cm_le, cm_gt, cm_ge, cm_slt, cm_sle, cm_is, cm_isnot, cm_in_tup, cm_nin_tup, cm_in_lst, cm_nin_lst, cm_in_dct, cm_nin_dct, cm_in_str, cm_ne_nn, cm_eq_nn, Nat.le_refl, Nat.zero_le, Nat.reduceLeDiff, big_0, seqIx_0, List.eraseIdx_cons_zero, pop_last, drop_last, max2, eSortK, atI_0, atI_1, atI_2, atI_3, atI_4, tCmp, tChain2, eT, tAnd2, tOr2, tNot1, bOf, eAnd2, eOr2, eNot1, eIf, truD, tTru, eSub, S.flat, S.look, S.looks, S.deref, subD, pNone, pSome, eSlice, sliceD, eRev, eCallB, iVal, itemsD, iRange1, iRange2, iEnumM, gVar, gsNil, gsCons, gTupM, eLc, lc1, for1, tTrue, S.wipe, wipeE, ePop, ePopAt, S.isList, S.bound, eMove, capL, eIsi, D.isT, eDict0, eDisp, eDispL, eCell, psNil, psCons, D.key, isNon_non, isNon_int, isNon_str, isNon_tup, isNon_lst, isNon_bl, isNon_dct, Option.map, Option.bind, List.getElem?_cons_zero, List.getElem?_cons_succ, List.set_cons_zero, List.set_cons_succ, List.map_cons, List.map_nil, List.length_cons, List.length_nil, List.replicate_succ, List.replicate_zero, List.cons_append, List.nil_append, List.append_nil, Nat.reduceSub, Nat.reduceAdd, Nat.reduceEqDiff, decide_true, decide_false, if_true, if_false, ite_true, ite_false, reduceIte, Bool.false_eq_true, Nat.reduceLT, Nat.zero_lt_succ, Nat.lt_add_one, Nat.zero_add, true_and, and_true, or_true, true_or, false_and, and_false, false_or, or_false, Bool.not_true, Bool.not_false, Nat.succ_lt_succ_iff, Nat.add_lt_add_iff_right, beq_self_eq_true, String.reduceBEq, Bool.or_true, Bool.true_or, Bool.or_false, Bool.false_or, Bool.and_true, Bool.true_and, Bool.and_false, Bool.false_and, Int.cast_ofNat_Int, Int.reduceBEq, Int.reduceLT, Int.reduceLE, Int.reduceAdd, Int.reduceSub, Int.reduceMul, Int.reduceNeg, Int.natCast_zero, Int.natCast_one, sz_0, sz_1, sz_2, sz_3, sz_4, sz_5, sz_6, sz_7, sz_8, sz_9, sz_10, sz_11, sz_12, sz_13, sz_14, sz_15, sz_16, h1.2 w d ps st ok hst, h2 w d ps [] st ok]
    exact ⟨rfl, rfl⟩
theorem ring_calls_ok (C : Call) (h : AskedOk (C "asked_calls")) : AskedOk (f_ring_calls C) := by
  refine ⟨fun w d ps aw st ok ao hst => ?_, fun w d ps st ok hst => ?_⟩
  · refine run_eq ?_
    unfold m_ring_calls
    simp only [sSeq_eq, seq_nx', seq_rt', seq_bk', seq_ct', bind_ok', then_ok', opt_some', toB_ok', eCall_eq, back_ok', eCallL_eq, looksL_some, sNil, sBreak, sCont, sExpr, sRet, sRetN, sIf, sSet, sAsg, sPar2, par2K, sPar3, par3K, sFor, sAppend, sExtend, sDPut, storeK, sSubApp, eOf, eV, oV, eC, eVar, oVar, eTup, eLst, vsNil, vsCons, osNil, osCons, lsNil, lsCons, eOp, binD, cmpP, cm_eq_str, cm_ne_str, cm_eq_int, cm_ne_int, cm_lt, cm_le, cm_gt, cm_ge, cm_slt, cm_sle, cm_is, cm_isnot, cm_in_tup, cm_nin_tup, cm_in_lst, cm_nin_lst, cm_in_dct, cm_nin_dct, cm_in_str, cm_ne_nn, cm_eq_nn, Nat.le_refl, Nat.zero_le, Nat.reduceLeDiff, big_0, seqIx_0, List.eraseIdx_cons_zero, pop_last, drop_last, max2, eSortK, atI_0, atI_1, atI_2, atI_3, atI_4, tCmp, tChain2, eT, tAnd2, tOr2, tNot1, bOf, eAnd2, eOr2, eNot1, eIf, truD, tTru, eSub, S.flat, S.look, S.looks, S.deref, subD, pNone, pSome, eSlice, sliceD, eRev, eCallB, iVal, itemsD, iRange1, iRange2, iEnumM, gVar, gsNil, gsCons, gTupM, eLc, lc1, for1, tTrue, S.wipe, wipeE, ePop, ePopAt, S.isList, S.bound, eMove, capL, eIsi, D.isT, eDict0, eDisp, eDispL, eCell, psNil, psCons, D.key, isNon_non, isNon_int, isNon_str, isNon_tup, isNon_lst, isNon_bl, isNon_dct, Option.map, Option.bind, List.getElem?_cons_zero, List.getElem?_cons_succ, List.set_cons_zero, List.set_cons_succ, List.map_cons, List.map_nil, List.length_cons, List.length_nil, List.replicate_succ, List.replicate_zero, List.cons_append, List.nil_append, List.append_nil, Nat.reduceSub, Nat.reduceAdd, Nat.reduceEqDiff, decide_true, decide_false, if_true, if_false, ite_true, ite_false, reduceIte, Bool.false_eq_true, Nat.reduceLT, Nat.zero_lt_succ, Nat.lt_add_one, Nat.zero_add, true_and, and_true, or_true, true_or, false_and, and_false, false_or, or_false, Bool.not_true, Bool.not_false, Nat.succ_lt_succ_iff, Nat.add_lt_add_iff_right, beq_self_eq_true, String.reduceBEq, Bool.or_true, Bool.true_or, Bool.or_false, Bool.false_or, Bool.and_true, Bool.true_and, Bool.and_false, Bool.false_and, Int.cast_ofNat_Int, Int.reduceBEq, Int.reduceLT, Int.reduceLE, Int.reduceAdd, Int.reduceSub, Int.reduceMul, Int.reduceNeg, Int.natCast_zero, Int.natCast_one, sz_0, sz_1, sz_2, sz_3, sz_4, sz_5, sz_6, sz_7, sz_8, sz_9, sz_10, sz_11, sz_12, sz_13, sz_14, sz_15, sz_16, h.1 w d ps aw st ok ao hst]
    exact ⟨rfl, rfl⟩
  · refine run_eq ?_
    unfold m_ring_calls
    simp only [sSeq_eq, seq_nx', seq_rt', seq_bk', seq_ct', bind_ok', then_ok', opt_some', toB_ok', eCall_eq, back_ok', eCallL_eq, looksL_some, sNil, sBreak, sCont, sExpr, sRet, sRetN, sIf, sSet, sAsg, sPar2, par2K, sPar3, par3K, sFor, sAppend, sExtend, sDPut, storeK, sSubApp, eOf, eV, oV, eC, eVar, oVar, eTup, eLst, vsNil, vsCons, osNil, osCons, lsNil, lsCons, eOp, binD, cmpP, cm_eq_str, cm_ne_str, cm_eq_int, cm_ne_int, cm_lt, cm_le, cm_gt, cm_ge, cm_slt, cm_sle, cm_is, cm_isnot, cm_in_tup, cm_nin_tup, cm_in_lst, cm_nin_lst, cm_in_dct, cm_nin_dct, cm_in_str, cm_ne_nn, cm_eq_nn, Nat.le_refl, Nat.zero_le, Nat.reduceLeDiff, big_0, seqIx_0, List.eraseIdx_cons_zero, pop_last, drop_last, max2, eSortK, atI_0, atI_1, atI_2, atI_3, atI_4, tCmp, tChain2, eT, tAnd2, tOr2, tNot1, bOf, eAnd2, eOr2, eNot1, eIf, truD, tTru, eSub, S.flat, S.look, S.looks, S.deref, subD, pNone, pSome, eSlice, sliceD, eRev, eCallB, iVal, itemsD, iRange1, iRange2, iEnumM, gVar, gsNil, gsCons, gTupM, eLc, lc1, for1, tTrue, S.wipe, wipeE, ePop, ePopAt, S.isList, S.bound, eMove, capL, eIsi, D.isT, eDict0, eDisp, eDispL, eCell, psNil, psCons, D.key, isNon_non, isNon_int, isNon_str, isNon_tup, isNon_lst, isNon_bl, isNon_dct, Option.map, Option.bind, List.getElem?_cons_zero, List.getElem?_cons_succ, List.set_cons_zero, List.set_cons_succ, List.map_cons, List.map_nil, List.length_cons, List.length_nil, List.replicate_succ, List.replicate_zero, List.cons_append, List.nil_append, List.append_nil, Nat.reduceSub, Nat.reduceAdd, Nat.reduceEqDiff, decide_true, decide_false, if_true, if_false, ite_true, ite_false, reduceIte, Bool.false_eq_true, Nat.reduceLT, Nat.zero_lt_succ, Nat.lt_add_one, Nat.zero_add, true_and, and_true, or_true, true_or, false_and, and_false, false_or, or_false, Bool.not_true, Bool.not_false, Nat.succ_lt_succ_iff, Nat.add_lt_add_iff_right, beq_self_eq_true, String.reduceBEq, Bool.or_true, Bool.true_or, Bool.or_false, Bool.false_or, Bool.and_true, Bool.true_and, Bool.and_false, Bool.false_and, Int.cast_ofNat_Int, Int.reduceBEq, Int.reduceLT, Int.reduceLE, Int.reduceAdd, Int.reduceSub, Int.reduceMul, Int.reduceNeg, Int.natCast_zero, Int.natCast_one, sz_0, sz_1, sz_2, sz_3, sz_4, sz_5, sz_6, sz_7, sz_8, sz_9, sz_10, sz_11, sz_12, sz_13, sz_14, sz_15, sz_16, h.2 w d ps st ok hst]
    exact ⟨rfl, rfl⟩
/-! ### the law's walk -/
theorem filterMap_kids (ps : List Pe) (x : Str) : (ps.filterMap fun p => if p.2.1 = x then some (D.str p.1) else none) = (ps.filter fun p => decide (p.2.1 = x)).map (fun p => D.str p.1) := by
  induction ps with
  | nil => rfl
  | cons p r ih =>
    by_cases h : p.2.1 = x
    · rw [List.filterMap_cons_some (by rw [if_pos h]), List.filter_cons_of_pos (by simpa using h), List.map_cons, ih]
    · rw [List.filterMap_cons_none (by rw [if_neg h]), List.filter_cons_of_neg (by simpa using h), ih]
theorem cut_1 {α : Type} (x : α) (r : List α) : cutL (x :: r) (some 1) none = r := by
  unfold cutL
  have : HT.sIx (x :: r).length 0 (some 1) = 1 := by
    have := HT.sIx_nat (x :: r).length 0 1
    rw [show ((1 : Nat) : Int) = 1 from rfl] at this
    rw [this]; simp
  rw [this, HT.sIx_none]
  simp
def stackW (ps : List Pe) (todo : List Str) : List Str := todo.reverse.flatMap fun x => x :: preF (forest ps x)
def szW (ps : List Pe) (todo : List Str) : Nat := (todo.map fun x => 1 + sizeF (forest ps x)).sum
theorem preF_kids {b : Str} {ps : List Pe} (h : GoodP b ps) (x : Str) : preF (forest ps x) = ((ps.filter fun p => decide (p.2.1 = x)).map (·.1)).flatMap fun y => y :: preF (forest ps y) := by
  conv => lhs; rw [forest_eq h]
  induction ps.filter fun p => decide (p.2.1 = x) with
  | nil => rfl
  | cons p r ih =>
    rw [List.map_cons, List.map_cons, List.flatMap_cons, ← ih]
    show preT _ ++ preF _ = _
    rw [preT]
theorem sizeF_kids {b : Str} {ps : List Pe} (h : GoodP b ps) (x : Str) : sizeF (forest ps x) = szW ps ((ps.filter fun p => decide (p.2.1 = x)).map (·.1)) := by
  conv => lhs; rw [forest_eq h]
  unfold szW
  induction ps.filter fun p => decide (p.2.1 = x) with
  | nil => rfl
  | cons p r ih =>
    rw [List.map_cons, List.map_cons, List.map_cons, List.sum_cons, ← ih, sizeF_cons, sizeT]
theorem szW_len (ps : List Pe) : ∀ todo : List Str, todo.length ≤ szW ps todo
  | [] => Nat.le_refl _
  | x :: r => by
    have := szW_len ps r
    unfold szW at *
    rw [List.map_cons, List.sum_cons, List.length_cons]; omega
theorem szW_app (ps : List Pe) (a b : List Str) : szW ps (a ++ b) = szW ps a + szW ps b := by unfold szW; rw [List.map_append, List.sum_append]
theorem szW_rev (ps : List Pe) (a : List Str) : szW ps a.reverse = szW ps a := by unfold szW; rw [List.map_reverse, List.sum_reverse]
theorem cm_ne_strs (l k : Nat) (ts : List Str) : cmpD .NotEq (l, .lst (ts.map D.str)) (k, .lst []) = some (!ts.isEmpty) := by
  rw [cm_ne_nil _ _ _ (fits_lst _ (fun _ => rfl) ts)]; cases ts <;> rfl
def LawWalkOk (f : List D → S → R (Nat × D)) : Prop := ∀ (w d : Int) (ps : List Pe) (st : St), TreeOk w d ps → f [treeD w d ps] ⟨[], st⟩ = .ok (1, .lst ((preF (forest ps (("" : Str)))).map D.str)) ⟨[], st⟩
abbrev envW (w d : Int) (ps : List Pe) (order todo : List Str) (j3 : Option (Nat × D)) (st : St) : S := ⟨[some (0, .tup [.int w, .int d, .tup (ps.map pD)]), some (1, .lst (order.map D.str)), some (1, .lst (todo.map D.str)), j3, none, none, none], st⟩
theorem law_walk_ok (C : Call) : LawWalkOk (f_law_walk C) := by
  intro w d ps st ok
  have hn := ok.n
  refine run_eq ?_
  unfold m_law_walk treeD
  simp only [sSeq_eq, seq_nx', seq_rt', seq_bk', seq_ct', bind_ok', then_ok', opt_some', toB_ok', eCall_eq, back_ok', eCallL_eq, looksL_some, sNil, sBreak, sCont, sExpr, sRet, sRetN, sIf, sSet, sAsg, sPar2, par2K, sPar3, par3K, sFor, sAppend, sExtend, sDPut, storeK, sSubApp, eOf, eV, oV, eC, eVar, oVar, eTup, eLst, vsNil, vsCons, osNil, osCons, lsNil, lsCons, eOp, binD, cmpP, cm_eq_str, cm_ne_str, cm_eq_int, cm_ne_int, cm_lt, cm_le, cm_gt, cm_ge, cm_slt, cm_sle, cm_is, cm_isnot, cm_in_tup, cm_nin_tup, cm_in_lst, cm_nin_lst, cm_in_dct, cm_nin_dct, cm_in_str, cm_ne_nn, cm_eq_nn, Nat.le_refl, Nat.zero_le, Nat.reduceLeDiff, big_0, seqIx_0, List.eraseIdx_cons_zero, pop_last, drop_last, max2, eSortK, atI_0, atI_1, atI_2, atI_3, atI_4, tCmp, tChain2, eT, tAnd2, tOr2, tNot1, bOf, eAnd2, eOr2, eNot1, eIf, truD, tTru, eSub, S.flat, S.look, S.looks, S.deref, subD, pNone, pSome, eSlice, sliceD, eRev, eCallB, iVal, itemsD, iRange1, iRange2, iEnumM, gVar, gsNil, gsCons, gTupM, eLc, lc1, for1, tTrue, S.wipe, wipeE, ePop, ePopAt, S.isList, S.bound, eMove, capL, eIsi, D.isT, eDict0, eDisp, eDispL, eCell, psNil, psCons, D.key, isNon_non, isNon_int, isNon_str, isNon_tup, isNon_lst, isNon_bl, isNon_dct, Option.map, Option.bind, List.getElem?_cons_zero, List.getElem?_cons_succ, List.set_cons_zero, List.set_cons_succ, List.map_cons, List.map_nil, List.length_cons, List.length_nil, List.replicate_succ, List.replicate_zero, List.cons_append, List.nil_append, List.append_nil, Nat.reduceSub, Nat.reduceAdd, Nat.reduceEqDiff, decide_true, decide_false, if_true, if_false, ite_true, ite_false, reduceIte, Bool.false_eq_true, Nat.reduceLT, Nat.zero_lt_succ, Nat.lt_add_one, Nat.zero_add, true_and, and_true, or_true, true_or, false_and, and_false, false_or, or_false, Bool.not_true, Bool.not_false, Nat.succ_lt_succ_iff, Nat.add_lt_add_iff_right, beq_self_eq_true, String.reduceBEq, Bool.or_true, Bool.true_or, Bool.or_false, Bool.false_or, Bool.and_true, Bool.true_and, Bool.and_false, Bool.false_and, Int.cast_ofNat_Int, Int.reduceBEq, Int.reduceLT, Int.reduceLE, Int.reduceAdd, Int.reduceSub, Int.reduceMul, Int.reduceNeg, Int.natCast_zero, Int.natCast_one, sz_0, sz_1, sz_2, sz_3, sz_4, sz_5, sz_6, sz_7, sz_8, sz_9, sz_10, sz_11, sz_12, sz_13, sz_14, sz_15, sz_16]
  refine while_q (fun n s => ∃ order todo j3, s = envW w d ps order todo j3 st ∧ order ++ stackW ps todo = (("" : Str)) :: preF (forest ps (("" : Str))) ∧ szW ps todo = n ∧ order.length + n = 1 + ps.length) (1 + ps.length) ?_ ⟨[], [(("" : Str))], none, rfl, ?_, ?_, ?_⟩ ?_
  · rintro n s ⟨order, todo, j3, rfl, h1, h2, h3⟩
    rcases List.eq_nil_or_concat todo with z | ⟨todo', x, z⟩
    · subst z
      left
      refine ⟨envW w d ps order [] j3 st, ?_, ?_⟩
      · simp only [sSeq_eq, seq_nx', seq_rt', seq_bk', seq_ct', bind_ok', then_ok', opt_some', toB_ok', eCall_eq, back_ok', eCallL_eq, looksL_some, sNil, sBreak, sCont, sExpr, sRet, sRetN, sIf, sSet, sAsg, sPar2, par2K, sPar3, par3K, sFor, sAppend, sExtend, sDPut, storeK, sSubApp, eOf, eV, oV, eC, eVar, oVar, eTup, eLst, vsNil, vsCons, osNil, osCons, lsNil, lsCons, eOp, binD, cmpP, cm_eq_str, cm_ne_str, cm_eq_int, cm_ne_int, cm_lt, cm_le, cm_gt, cm_ge, cm_slt, cm_sle, cm_is, cm_isnot, cm_in_tup, cm_nin_tup, cm_in_lst, cm_nin_lst, cm_in_dct, cm_nin_dct, cm_in_str, cm_ne_nn, cm_eq_nn, Nat.le_refl, Nat.zero_le, Nat.reduceLeDiff, big_0, seqIx_0, List.eraseIdx_cons_zero, pop_last, drop_last, max2, eSortK, atI_0, atI_1, atI_2, atI_3, atI_4, tCmp, tChain2, eT, tAnd2, tOr2, tNot1, bOf, eAnd2, eOr2, eNot1, eIf, truD, tTru, eSub, S.flat, S.look, S.looks, S.deref, subD, pNone, pSome, eSlice, sliceD, eRev, eCallB, iVal, itemsD, iRange1, iRange2, iEnumM, gVar, gsNil, gsCons, gTupM, eLc, lc1, for1, tTrue, S.wipe, wipeE, ePop, ePopAt, S.isList, S.bound, eMove, capL, eIsi, D.isT, eDict0, eDisp, eDispL, eCell, psNil, psCons, D.key, isNon_non, isNon_int, isNon_str, isNon_tup, isNon_lst, isNon_bl, isNon_dct, Option.map, Option.bind, List.getElem?_cons_zero, List.getElem?_cons_succ, List.set_cons_zero, List.set_cons_succ, List.map_cons, List.map_nil, List.length_cons, List.length_nil, List.replicate_succ, List.replicate_zero, List.cons_append, List.nil_append, List.append_nil, Nat.reduceSub, Nat.reduceAdd, Nat.reduceEqDiff, decide_true, decide_false, if_true, if_false, ite_true, ite_false, reduceIte, Bool.false_eq_true, Nat.reduceLT, Nat.zero_lt_succ, Nat.lt_add_one, Nat.zero_add, true_and, and_true, or_true, true_or, false_and, and_false, false_or, or_false, Bool.not_true, Bool.not_false, Nat.succ_lt_succ_iff, Nat.add_lt_add_iff_right, beq_self_eq_true, String.reduceBEq, Bool.or_true, Bool.true_or, Bool.or_false, Bool.false_or, Bool.and_true, Bool.true_and, Bool.and_false, Bool.false_and, Int.cast_ofNat_Int, Int.reduceBEq, Int.reduceLT, Int.reduceLE, Int.reduceAdd, Int.reduceSub, Int.reduceMul, Int.reduceNeg, Int.natCast_zero, Int.natCast_one, sz_0, sz_1, sz_2, sz_3, sz_4, sz_5, sz_6, sz_7, sz_8, sz_9, sz_10, sz_11, sz_12, sz_13, sz_14, sz_15, sz_16]
      · have h4 : order = (("" : Str)) :: preF (forest ps (("" : Str))) := by simpa [stackW] using h1
        subst h4
        simp only [sSeq_eq, seq_nx', seq_rt', seq_bk', seq_ct', bind_ok', then_ok', opt_some', toB_ok', eCall_eq, back_ok', eCallL_eq, looksL_some, sNil, sBreak, sCont, sExpr, sRet, sRetN, sIf, sSet, sAsg, sPar2, par2K, sPar3, par3K, sFor, sAppend, sExtend, sDPut, storeK, sSubApp, eOf, eV, oV, eC, eVar, oVar, eTup, eLst, vsNil, vsCons, osNil, osCons, lsNil, lsCons, eOp, binD, cmpP, cm_eq_str, cm_ne_str, cm_eq_int, cm_ne_int, cm_lt, cm_le, cm_gt, cm_ge, cm_slt, cm_sle, cm_is, cm_isnot, cm_in_tup, cm_nin_tup, cm_in_lst, cm_nin_lst, cm_in_dct, cm_nin_dct, cm_in_str, cm_ne_nn, cm_eq_nn, Nat.le_refl, Nat.zero_le, Nat.reduceLeDiff, big_0, seqIx_0, List.eraseIdx_cons_zero, pop_last, drop_last, max2, eSortK, atI_0, atI_1, atI_2, atI_3, atI_4, tCmp, tChain2, eT, tAnd2, tOr2, tNot1, bOf, eAnd2, eOr2, eNot1, eIf, truD, tTru, eSub, S.flat, S.look, S.looks, S.deref, subD, pNone, pSome, eSlice, sliceD, eRev, eCallB, iVal, itemsD, iRange1, iRange2, iEnumM, gVar, gsNil, gsCons, gTupM, eLc, lc1, for1, tTrue, S.wipe, wipeE, ePop, ePopAt, S.isList, S.bound, eMove, capL, eIsi, D.isT, eDict0, eDisp, eDispL, eCell, psNil, psCons, D.key, isNon_non, isNon_int, isNon_str, isNon_tup, isNon_lst, isNon_bl, isNon_dct, Option.map, Option.bind, List.getElem?_cons_zero, List.getElem?_cons_succ, List.set_cons_zero, List.set_cons_succ, List.map_cons, List.map_nil, List.length_cons, List.length_nil, List.replicate_succ, List.replicate_zero, List.cons_append, List.nil_append, List.append_nil, Nat.reduceSub, Nat.reduceAdd, Nat.reduceEqDiff, decide_true, decide_false, if_true, if_false, ite_true, ite_false, reduceIte, Bool.false_eq_true, Nat.reduceLT, Nat.zero_lt_succ, Nat.lt_add_one, Nat.zero_add, true_and, and_true, or_true, true_or, false_and, and_false, false_or, or_false, Bool.not_true, Bool.not_false, Nat.succ_lt_succ_iff, Nat.add_lt_add_iff_right, beq_self_eq_true, String.reduceBEq, Bool.or_true, Bool.true_or, Bool.or_false, Bool.false_or, Bool.and_true, Bool.true_and, Bool.and_false, Bool.false_and, Int.cast_ofNat_Int, Int.reduceBEq, Int.reduceLT, Int.reduceLE, Int.reduceAdd, Int.reduceSub, Int.reduceMul, Int.reduceNeg, Int.natCast_zero, Int.natCast_one, sz_0, sz_1, sz_2, sz_3, sz_4, sz_5, sz_6, sz_7, sz_8, sz_9, sz_10, sz_11, sz_12, sz_13, sz_14, sz_15, sz_16, cut_1]
        exact ⟨rfl, rfl⟩
    · rw [List.concat_eq_append] at z
      subst z
      right
      refine ⟨envW w d ps order (todo' ++ [x]) j3 st, ?_, ?_⟩
      · have : (todo' ++ [x]).isEmpty = false := by simp
        simp only [sSeq_eq, seq_nx', seq_rt', seq_bk', seq_ct', bind_ok', then_ok', opt_some', toB_ok', eCall_eq, back_ok', eCallL_eq, looksL_some, sNil, sBreak, sCont, sExpr, sRet, sRetN, sIf, sSet, sAsg, sPar2, par2K, sPar3, par3K, sFor, sAppend, sExtend, sDPut, storeK, sSubApp, eOf, eV, oV, eC, eVar, oVar, eTup, eLst, vsNil, vsCons, osNil, osCons, lsNil, lsCons, eOp, binD, cmpP, cm_eq_str, cm_ne_str, cm_eq_int, cm_ne_int, cm_lt, cm_le, cm_gt, cm_ge, cm_slt, cm_sle, cm_is, cm_isnot, cm_in_tup, cm_nin_tup, cm_in_lst, cm_nin_lst, cm_in_dct, cm_nin_dct, cm_in_str, cm_ne_nn, cm_eq_nn, Nat.le_refl, Nat.zero_le, Nat.reduceLeDiff, big_0, seqIx_0, List.eraseIdx_cons_zero, pop_last, drop_last, max2, eSortK, atI_0, atI_1, atI_2, atI_3, atI_4, tCmp, tChain2, eT, tAnd2, tOr2, tNot1, bOf, eAnd2, eOr2, eNot1, eIf, truD, tTru, eSub, S.flat, S.look, S.looks, S.deref, subD, pNone, pSome, eSlice, sliceD, eRev, eCallB, iVal, itemsD, iRange1, iRange2, iEnumM, gVar, gsNil, gsCons, gTupM, eLc, lc1, for1, tTrue, S.wipe, wipeE, ePop, ePopAt, S.isList, S.bound, eMove, capL, eIsi, D.isT, eDict0, eDisp, eDispL, eCell, psNil, psCons, D.key, isNon_non, isNon_int, isNon_str, isNon_tup, isNon_lst, isNon_bl, isNon_dct, Option.map, Option.bind, List.getElem?_cons_zero, List.getElem?_cons_succ, List.set_cons_zero, List.set_cons_succ, List.map_cons, List.map_nil, List.length_cons, List.length_nil, List.replicate_succ, List.replicate_zero, List.cons_append, List.nil_append, List.append_nil, Nat.reduceSub, Nat.reduceAdd, Nat.reduceEqDiff, decide_true, decide_false, if_true, if_false, ite_true, ite_false, reduceIte, Bool.false_eq_true, Nat.reduceLT, Nat.zero_lt_succ, Nat.lt_add_one, Nat.zero_add, true_and, and_true, or_true, true_or, false_and, and_false, false_or, or_false, Bool.not_true, Bool.not_false, Nat.succ_lt_succ_iff, Nat.add_lt_add_iff_right, beq_self_eq_true, String.reduceBEq, Bool.or_true, Bool.true_or, Bool.or_false, Bool.false_or, Bool.and_true, Bool.true_and, Bool.and_false, Bool.false_and, Int.cast_ofNat_Int, Int.reduceBEq, Int.reduceLT, Int.reduceLE, Int.reduceAdd, Int.reduceSub, Int.reduceMul, Int.reduceNeg, Int.natCast_zero, Int.natCast_one, sz_0, sz_1, sz_2, sz_3, sz_4, sz_5, sz_6, sz_7, sz_8, sz_9, sz_10, sz_11, sz_12, sz_13, sz_14, sz_15, sz_16, cm_ne_strs, this]
      · rw [szW_app] at h2
        have h5 : szW ps [x] = 1 + sizeF (forest ps x) := by simp [szW]
        have h6 := sizeF_kids ok.good x
        have hl1 := szW_len ps todo'
        have hl2 := szW_len ps ((ps.filter fun p => decide (p.2.1 = x)).map (·.1))
        have e3 : List.map D.str (todo' ++ [x]) = todo'.map D.str ++ [D.str x] := by simp
        have hz : szOk (order.map D.str).length = true := szOk_of (by rw [List.length_map]; omega)
        have key : ∀ s0 : S, s0 = ⟨[some (0, .tup [.int w, .int d, .tup (ps.map pD)]), some (1, .lst (order.map D.str ++ [D.str x])), some (1, .lst (todo'.map D.str)), some (0, .str x), none, none, none], st⟩ → lcM [4, 5, 6] (gTupM 3 (gsCons (gVar 4) (gsCons (gVar 5) (gsCons (gVar 6) gsNil)))) (tCmp .Eq (oVar 5) (oVar 3)) (eVar 4) (ps.map pD) [] s0
            = .ok ((((ps.filter fun p => decide (p.2.1 = x)).map (·.1))).map D.str) s0 := fun s0 hs0 => by
          rw [lcM_pure pD (fun p => if p.2.1 = x then some (D.str p.1) else none) ps [] (by simp only [List.length_nil]; omega) fun p _ => ?_]
          · rw [filterMap_kids, List.map_map]; rfl
          · subst hs0
            by_cases h : p.2.1 = x
            · have h' : (p.2.1 == x) = true := by simpa using h
              rw [if_pos h]
              simp only [sSeq_eq, seq_nx', seq_rt', seq_bk', seq_ct', bind_ok', then_ok', opt_some', toB_ok', eCall_eq, back_ok', eCallL_eq, looksL_some, sNil, sBreak, sCont, sExpr, sRet, sRetN, sIf, sSet, sAsg, sPar2, par2K, sPar3, par3K, sFor, sAppend, sExtend, sDPut, storeK, sSubApp, eOf, eV, oV, eC, eVar, oVar, eTup, eLst, vsNil, vsCons, osNil, osCons, lsNil, lsCons, eOp, binD, cmpP, cm_eq_str, cm_ne_str, cm_eq_int, cm_ne_int, cm_lt, cm_le, cm_gt, cm_ge, cm_slt, cm_sle, cm_is, cm_isnot, cm_in_tup, cm_nin_tup, cm_in_lst, cm_nin_lst, cm_in_dct, cm_nin_dct, cm_in_str, cm_ne_nn, cm_eq_nn, Nat.le_refl, Nat.zero_le, Nat.reduceLeDiff, big_0, seqIx_0, List.eraseIdx_cons_zero, pop_last, drop_last, max2, eSortK, atI_0, atI_1, atI_2, atI_3, atI_4, tCmp, tChain2, eT, tAnd2, tOr2, tNot1, bOf, eAnd2, eOr2, eNot1, eIf, truD, tTru, eSub, S.flat, S.look, S.looks, S.deref, subD, pNone, pSome, eSlice, sliceD, eRev, eCallB, iVal, itemsD, iRange1, iRange2, iEnumM, gVar, gsNil, gsCons, gTupM, eLc, lc1, for1, tTrue, S.wipe, wipeE, ePop, ePopAt, S.isList, S.bound, eMove, capL, eIsi, D.isT, eDict0, eDisp, eDispL, eCell, psNil, psCons, D.key, isNon_non, isNon_int, isNon_str, isNon_tup, isNon_lst, isNon_bl, isNon_dct, Option.map, Option.bind, List.getElem?_cons_zero, List.getElem?_cons_succ, List.set_cons_zero, List.set_cons_succ, List.map_cons, List.map_nil, List.length_cons, List.length_nil, List.replicate_succ, List.replicate_zero, List.cons_append, List.nil_append, List.append_nil, Nat.reduceSub, Nat.reduceAdd, Nat.reduceEqDiff, decide_true, decide_false, if_true, if_false, ite_true, ite_false, reduceIte, Bool.false_eq_true, Nat.reduceLT, Nat.zero_lt_succ, Nat.lt_add_one, Nat.zero_add, true_and, and_true, or_true, true_or, false_and, and_false, false_or, or_false, Bool.not_true, Bool.not_false, Nat.succ_lt_succ_iff, Nat.add_lt_add_iff_right, beq_self_eq_true, String.reduceBEq, Bool.or_true, Bool.true_or, Bool.or_false, Bool.false_or, Bool.and_true, Bool.true_and, Bool.and_false, Bool.false_and, Int.cast_ofNat_Int, Int.reduceBEq, Int.reduceLT, Int.reduceLE, Int.reduceAdd, Int.reduceSub, Int.reduceMul, Int.reduceNeg, Int.natCast_zero, Int.natCast_one, sz_0, sz_1, sz_2, sz_3, sz_4, sz_5, sz_6, sz_7, sz_8, sz_9, sz_10, sz_11, sz_12, sz_13, sz_14, sz_15, sz_16, pD, h']
            · have h' : (p.2.1 == x) = false := by simpa using h
              rw [if_neg h]
              simp only [sSeq_eq, seq_nx', seq_rt', seq_bk', seq_ct', bind_ok', then_ok', opt_some', toB_ok', eCall_eq, back_ok', eCallL_eq, looksL_some, sNil, sBreak, sCont, sExpr, sRet, sRetN, sIf, sSet, sAsg, sPar2, par2K, sPar3, par3K, sFor, sAppend, sExtend, sDPut, storeK, sSubApp, eOf, eV, oV, eC, eVar, oVar, eTup, eLst, vsNil, vsCons, osNil, osCons, lsNil, lsCons, eOp, binD, cmpP, cm_eq_str, cm_ne_str, cm_eq_int, cm_ne_int, cm_lt, cm_le, cm_gt, cm_ge, cm_slt, cm_sle, cm_is, cm_isnot, cm_in_tup, cm_nin_tup, cm_in_lst, cm_nin_lst, cm_in_dct, cm_nin_dct, cm_in_str, cm_ne_nn, cm_eq_nn, Nat.le_refl, Nat.zero_le, Nat.reduceLeDiff, big_0, seqIx_0, List.eraseIdx_cons_zero, pop_last, drop_last, max2, eSortK, atI_0, atI_1, atI_2, atI_3, atI_4, tCmp, tChain2, eT, tAnd2, tOr2, tNot1, bOf, eAnd2, eOr2, eNot1, eIf, truD, tTru, eSub, S.flat, S.look, S.looks, S.deref, subD, pNone, pSome, eSlice, sliceD, eRev, eCallB, iVal, itemsD, iRange1, iRange2, iEnumM, gVar, gsNil, gsCons, gTupM, eLc, lc1, for1, tTrue, S.wipe, wipeE, ePop, ePopAt, S.isList, S.bound, eMove, capL, eIsi, D.isT, eDict0, eDisp, eDispL, eCell, psNil, psCons, D.key, isNon_non, isNon_int, isNon_str, isNon_tup, isNon_lst, isNon_bl, isNon_dct, Option.map, Option.bind, List.getElem?_cons_zero, List.getElem?_cons_succ, List.set_cons_zero, List.set_cons_succ, List.map_cons, List.map_nil, List.length_cons, List.length_nil, List.replicate_succ, List.replicate_zero, List.cons_append, List.nil_append, List.append_nil, Nat.reduceSub, Nat.reduceAdd, Nat.reduceEqDiff, decide_true, decide_false, if_true, if_false, ite_true, ite_false, reduceIte, Bool.false_eq_true, Nat.reduceLT, Nat.zero_lt_succ, Nat.lt_add_one, Nat.zero_add, true_and, and_true, or_true, true_or, false_and, and_false, false_or, or_false, Bool.not_true, Bool.not_false, Nat.succ_lt_succ_iff, Nat.add_lt_add_iff_right, beq_self_eq_true, String.reduceBEq, Bool.or_true, Bool.true_or, Bool.or_false, Bool.false_or, Bool.and_true, Bool.true_and, Bool.and_false, Bool.false_and, Int.cast_ofNat_Int, Int.reduceBEq, Int.reduceLT, Int.reduceLE, Int.reduceAdd, Int.reduceSub, Int.reduceMul, Int.reduceNeg, Int.natCast_zero, Int.natCast_one, sz_0, sz_1, sz_2, sz_3, sz_4, sz_5, sz_6, sz_7, sz_8, sz_9, sz_10, sz_11, sz_12, sz_13, sz_14, sz_15, sz_16, pD, h']
        have e4 := key _ rfl
        have hz2 : szOk ((todo'.map D.str).length + ((((ps.filter fun p => decide (p.2.1 = x)).map (·.1)).map D.str).reverse).length) = true := szOk_of (by
          rw [List.length_reverse, List.length_map, List.length_map]; omega)
        simp only [sSeq_eq, seq_nx', seq_rt', seq_bk', seq_ct', bind_ok', then_ok', opt_some', toB_ok', eCall_eq, back_ok', eCallL_eq, looksL_some, sNil, sBreak, sCont, sExpr, sRet, sRetN, sIf, sSet, sAsg, sPar2, par2K, sPar3, par3K, sFor, sAppend, sExtend, sDPut, storeK, sSubApp, eOf, eV, oV, eC, eVar, oVar, eTup, eLst, vsNil, vsCons, osNil, osCons, lsNil, lsCons, eOp, binD, cmpP, cm_eq_str, cm_ne_str, cm_eq_int, cm_ne_int, cm_lt, cm_le, cm_gt, cm_ge, cm_slt, cm_sle, cm_is, cm_isnot, cm_in_tup, cm_nin_tup, cm_in_lst, cm_nin_lst, cm_in_dct, cm_nin_dct, cm_in_str, cm_ne_nn, cm_eq_nn, Nat.le_refl, Nat.zero_le, Nat.reduceLeDiff, big_0, seqIx_0, List.eraseIdx_cons_zero, pop_last, drop_last, max2, eSortK, atI_0, atI_1, atI_2, atI_3, atI_4, tCmp, tChain2, eT, tAnd2, tOr2, tNot1, bOf, eAnd2, eOr2, eNot1, eIf, truD, tTru, eSub, S.flat, S.look, S.looks, S.deref, subD, pNone, pSome, eSlice, sliceD, eRev, eCallB, iVal, itemsD, iRange1, iRange2, iEnumM, gVar, gsNil, gsCons, gTupM, eLc, lc1, for1, tTrue, S.wipe, wipeE, ePop, ePopAt, S.isList, S.bound, eMove, capL, eIsi, D.isT, eDict0, eDisp, eDispL, eCell, psNil, psCons, D.key, isNon_non, isNon_int, isNon_str, isNon_tup, isNon_lst, isNon_bl, isNon_dct, Option.map, Option.bind, List.getElem?_cons_zero, List.getElem?_cons_succ, List.set_cons_zero, List.set_cons_succ, List.map_cons, List.map_nil, List.length_cons, List.length_nil, List.replicate_succ, List.replicate_zero, List.cons_append, List.nil_append, List.append_nil, Nat.reduceSub, Nat.reduceAdd, Nat.reduceEqDiff, decide_true, decide_false, if_true, if_false, ite_true, ite_false, reduceIte, Bool.false_eq_true, Nat.reduceLT, Nat.zero_lt_succ, Nat.lt_add_one, Nat.zero_add, true_and, and_true, or_true, true_or, false_and, and_false, false_or, or_false, Bool.not_true, Bool.not_false, Nat.succ_lt_succ_iff, Nat.add_lt_add_iff_right, beq_self_eq_true, String.reduceBEq, Bool.or_true, Bool.true_or, Bool.or_false, Bool.false_or, Bool.and_true, Bool.true_and, Bool.and_false, Bool.false_and, Int.cast_ofNat_Int, Int.reduceBEq, Int.reduceLT, Int.reduceLE, Int.reduceAdd, Int.reduceSub, Int.reduceMul, Int.reduceNeg, Int.natCast_zero, Int.natCast_one, sz_0, sz_1, sz_2, sz_3, sz_4, sz_5, sz_6, sz_7, sz_8, sz_9, sz_10, sz_11, sz_12, sz_13, sz_14, sz_15, sz_16, e3, hz]
        rw [e4]
        simp only [sSeq_eq, seq_nx', seq_rt', seq_bk', seq_ct', bind_ok', then_ok', opt_some', toB_ok', eCall_eq, back_ok', eCallL_eq, looksL_some, sNil, sBreak, sCont, sExpr, sRet, sRetN, sIf, sSet, sAsg, sPar2, par2K, sPar3, par3K, sFor, sAppend, sExtend, sDPut, storeK, sSubApp, eOf, eV, oV, eC, eVar, oVar, eTup, eLst, vsNil, vsCons, osNil, osCons, lsNil, lsCons, eOp, binD, cmpP, cm_eq_str, cm_ne_str, cm_eq_int, cm_ne_int, cm_lt, cm_le, cm_gt, cm_ge, cm_slt, cm_sle, cm_is, cm_isnot, cm_in_tup, cm_nin_tup, cm_in_lst, cm_nin_lst, cm_in_dct, cm_nin_dct, cm_in_str, cm_ne_nn, cm_eq_nn, Nat.le_refl, Nat.zero_le, Nat.reduceLeDiff, big_0, seqIx_0, List.eraseIdx_cons_zero, pop_last, drop_last, max2, eSortK, atI_0, atI_1, atI_2, atI_3, atI_4, tCmp, tChain2, eT, tAnd2, tOr2, tNot1, bOf, eAnd2, eOr2, eNot1, eIf, truD, tTru, eSub, S.flat, S.look, S.looks, S.deref, subD, pNone, pSome, eSlice, sliceD, eRev, eCallB, iVal, itemsD, iRange1, iRange2, iEnumM, gVar, gsNil, gsCons, gTupM, eLc, lc1, for1, tTrue, S.wipe, wipeE, ePop, ePopAt, S.isList, S.bound, eMove, capL, eIsi, D.isT, eDict0, eDisp, eDispL, eCell, psNil, psCons, D.key, isNon_non, isNon_int, isNon_str, isNon_tup, isNon_lst, isNon_bl, isNon_dct, Option.map, Option.bind, List.getElem?_cons_zero, List.getElem?_cons_succ, List.set_cons_zero, List.set_cons_succ, List.map_cons, List.map_nil, List.length_cons, List.length_nil, List.replicate_succ, List.replicate_zero, List.cons_append, List.nil_append, List.append_nil, Nat.reduceSub, Nat.reduceAdd, Nat.reduceEqDiff, decide_true, decide_false, if_true, if_false, ite_true, ite_false, reduceIte, Bool.false_eq_true, Nat.reduceLT, Nat.zero_lt_succ, Nat.lt_add_one, Nat.zero_add, true_and, and_true, or_true, true_or, false_and, and_false, false_or, or_false, Bool.not_true, Bool.not_false, Nat.succ_lt_succ_iff, Nat.add_lt_add_iff_right, beq_self_eq_true, String.reduceBEq, Bool.or_true, Bool.true_or, Bool.or_false, Bool.false_or, Bool.and_true, Bool.true_and, Bool.and_false, Bool.false_and, Int.cast_ofNat_Int, Int.reduceBEq, Int.reduceLT, Int.reduceLE, Int.reduceAdd, Int.reduceSub, Int.reduceMul, Int.reduceNeg, Int.natCast_zero, Int.natCast_one, sz_0, sz_1, sz_2, sz_3, sz_4, sz_5, sz_6, sz_7, sz_8, sz_9, sz_10, sz_11, sz_12, sz_13, sz_14, sz_15, sz_16, hz2]
        refine ⟨szW ps (todo' ++ ((ps.filter fun p => decide (p.2.1 = x)).map (·.1)).reverse), ?_, order ++ [x], todo' ++ ((ps.filter fun p => decide (p.2.1 = x)).map (·.1)).reverse, some (0, .str x), ?_, ?_, rfl, ?_⟩
        · rw [szW_app, szW_rev]; omega
        · simp
        · rw [← h1]
          unfold stackW
          simp only [List.reverse_append, List.reverse_reverse, List.flatMap_append, List.reverse_cons, List.reverse_nil, List.nil_append, List.flatMap_cons, List.flatMap_nil, List.append_nil]
          rw [← preF_kids ok.good]
          simp
        · rw [szW_app, szW_rev, List.length_append, List.length_singleton]; omega
  · simp [stackW]
  · simp only [szW, List.map_cons, List.map_nil, List.sum_cons, List.sum_nil]; rw [ok.good.size]; rfl
  · simp
  · show 1 + ps.length < 100000
    omega
end G
-- part Sp5
set_option Elab.async false
set_option linter.all false
set_option maxRecDepth 100000
set_option maxHeartbeats 4000000
set_option autoImplicit false
/-! Sp5: the law's callers. -/
namespace G
open PySem PySem.Spec Rd L2 Ring
inductive Climb (aw : List Str) (ps : List Pe) : Str → Int → Str → Int → Prop
  | stop {c : Str} {l : Int} : c ∉ aw → Climb aw ps c l c l
  | up {c c' : Str} {t l l' : Int} {X : Str} : c ∈ aw → (c, c', t) ∈ ps → Climb aw ps c' (l + 1) X l' → Climb aw ps c l X l'
theorem uniq_name {ps : List Pe} (nd : (ps.map (·.1)).Nodup) {p q : Pe} (hp : p ∈ ps) (hq : q ∈ ps) (e : p.1 = q.1) : p = q := by
  have := List.pairwise_map.mp nd
  obtain ⟨i, hi, rfl⟩ := List.mem_iff_getElem.mp hp
  obtain ⟨j, hj, rfl⟩ := List.mem_iff_getElem.mp hq
  rw [List.pairwise_iff_getElem] at this
  rcases Nat.lt_trichotomy i j with z | z | z
  · exact absurd e (this i j hi hj z)
  · subst z; rfl
  · exact absurd e.symm (this j i hj hi z)
theorem Climb.det {aw : List Str} {ps : List Pe} (nd : (ps.map (·.1)).Nodup) {c X X' : Str} {l k k' : Int} (h : Climb aw ps c l X k) (h' : Climb aw ps c l X' k') : X = X' ∧ k = k' := by
  induction h with
  | stop hn =>
    cases h' with
    | stop _ => exact ⟨rfl, rfl⟩
    | up ha _ _ => exact absurd ha hn
  | up ha hm _ ih =>
    cases h' with
    | stop hn => exact absurd ha hn
    | up _ hm' h2 =>
      have := uniq_name nd hm hm' rfl
      rw [Prod.mk.injEq, Prod.mk.injEq] at this
      rw [this.2.1] at ih
      exact ih h2
theorem Climb.shift {aw : List Str} {ps : List Pe} {c X : Str} {l k : Int} (h : Climb aw ps c l X k) (j : Int) : Climb aw ps c (l + j) X (k + j) := by
  induction h with
  | stop hn => exact .stop hn
  | up ha hm _ ih => exact .up ha hm (by rw [show ∀ a b : Int, a + b + 1 = a + 1 + b by omega]; exact ih)
/-- what a caller's entry must be -/
def entry (d : Int) (found : List (Key × D)) (X : Str) (lev : Int) : Option D := if (d = 0 ∨ lev ≤ d) ∧ (X = "" ∨ (getK found (.inr X)).isSome = true) then some (.str X) else none
structure FoundOk (d : Int) (ps : List Pe) (aw : List Str) (found : List (Key × D)) (pre : List Pe) : Prop where
  out : ∀ x, x ∉ pre.map (·.1) → getK found (.inr x) = none
  at_ : ∀ p ∈ pre, ∃ X lev, Climb aw ps p.2.1 1 X lev ∧ (X = "" ∨ X ∈ pre.map (·.1)) ∧ getK found (.inr p.1) = entry d found X lev
  len : found.length ≤ pre.length
def aboveD (ps : List Pe) : List (Key × D) := ps.map fun p => ((Sum.inr p.1 : Key), D.str p.2.1)
theorem pairs_get {ps : List Pe} (g : Pe → D) (nd : (ps.map (·.1)).Nodup) {p : Pe} (h : p ∈ ps) : getK (ps.map fun p => ((Sum.inr p.1 : Key), g p)) (.inr p.1) = some (g p) := by
  rw [getK_strs (fun p : Pe => p.1) g ps p.1]
  cases e : ps.find? (fun q => decide (q.1 = p.1)) with
  | none => exact absurd (List.find?_eq_none.mp e p h) (by simp)
  | some q =>
    have h1 := List.find?_some e
    have h2 := List.mem_of_find?_eq_some e
    rw [decide_eq_true_eq] at h1
    rw [uniq_name nd h2 h h1]; rfl
theorem pairs_dict {ps : List Pe} (g : Pe → D) (nd : (ps.map (·.1)).Nodup) (l : Nat) (hl : l ≤ 1) : dictD [(l, .lst (ps.map fun p => D.tup [.str p.1, g p]))] = some (1, .dct (ps.map fun p => ((Sum.inr p.1 : Key), g p))) := by
  show (if l ≤ 1 then (pairsD (ps.map fun p => D.tup [.str p.1, g p])).map fun ps => (1, D.dct (mergeL [] ps)) else none) = _
  rw [if_pos hl, pairsD_strs (fun p : Pe => p.1) g ps, Option.map_some, mergeL_new]
  · rfl
  · rw [List.nil_append, List.map_map]
    exact List.pairwise_map.mpr ((List.pairwise_map.mp nd).imp fun hne z => hne (Sum.inr.inj z))
def LawCallersOk (f : List D → S → R (Nat × D)) : Prop := ∀ (w d : Int) (ps : List Pe) (aw : List Str) (st : St), TreeOk w d ps → AwayOk ps aw → ∃ found, f [treeD w d ps, namesD aw] ⟨[], st⟩ = .ok (1, .dct found) ⟨[], st⟩ ∧ FoundOk d ps aw found ps
theorem FoundOk.next {d : Int} {ps : List Pe} {aw : List Str} {found : List (Key × D)} {pre : List Pe} {p : Pe} {X : Str} {lev : Int} (h : FoundOk d ps aw found pre) (hn : p.1 ∉ (("" : Str)) :: pre.map (·.1)) (hc : Climb aw ps p.2.1 1 X lev) (hX : X = "" ∨ X ∈ pre.map (·.1)) :
    FoundOk d ps aw (match entry d found X lev with | some v => putL found (.inr p.1) v | none => found) (pre ++ [p]) := by
  have hn0 : p.1 ≠ "" := fun z => hn (by rw [z]; simp)
  have hnp : p.1 ∉ pre.map (·.1) := fun z => hn (by simp only [List.mem_cons]; exact .inr z)
  have hget : ∀ y, y ≠ p.1 → getK (match entry d found X lev with | some v => putL found (.inr p.1) v | none => found) (.inr y) = getK found (.inr y) := by
    intro y hy
    cases entry d found X lev with
    | none => rfl
    | some v =>
      show getK (putL found (.inr p.1) v) (.inr y) = _
      rw [getK_putL, if_neg (fun z => hy (Sum.inr.inj z))]
  have hent : ∀ (Y : Str) (l : Int), (Y = "" ∨ Y ∈ pre.map (·.1)) → entry d (match entry d found X lev with | some v => putL found (.inr p.1) v | none => found) Y l = entry d found Y l := by
    intro Y l hY
    unfold entry
    rcases hY with z | z
    · subst z; simp
    · rw [show getK (match (if (d = 0 ∨ lev ≤ d) ∧ (X = "" ∨ (getK found (.inr X)).isSome = true) then some (D.str X) else none) with | some v => putL found (.inr p.1) v | none => found) (.inr Y) = getK found (.inr Y) from hget Y (fun e => hnp (e ▸ z))]
  refine ⟨fun x hx => ?_, fun q hq => ?_, ?_⟩
  · have h1 : x ≠ p.1 := fun z => hx (by rw [z]; simp)
    rw [hget x h1]
    exact h.out x fun z => hx (by rw [List.map_append]; exact List.mem_append.mpr (.inl z))
  · rcases List.mem_append.mp hq with hq | hq
    · obtain ⟨Y, l, h1, h2, h3⟩ := h.at_ q hq
      refine ⟨Y, l, h1, h2.imp id (fun z => by rw [List.map_append]; exact List.mem_append.mpr (.inl z)), ?_⟩
      rw [hent Y l h2, ← h3, hget q.1 (fun z => hnp (z ▸ List.mem_map.mpr ⟨q, hq, rfl⟩))]
    · rw [List.mem_singleton] at hq
      subst hq
      refine ⟨X, lev, hc, hX.imp id (fun z => by rw [List.map_append]; exact List.mem_append.mpr (.inl z)), ?_⟩
      rw [hent X lev hX]
      cases e : entry d found X lev with
      | none => exact h.out q.1 hnp
      | some v =>
        show getK (putL found (.inr q.1) v) (.inr q.1) = _
        rw [getK_putL, if_pos rfl]
  · rw [List.length_append, List.length_singleton]
    have := h.len
    cases entry d found X lev with
    | none => show found.length ≤ _; omega
    | some v => show (putL found (.inr p.1) v).length ≤ _; have := length_putL found (.inr p.1) v; omega
abbrev envC (w d : Int) (ps : List Pe) (aw : List Str) (j2 j3 j4 : Option (Nat × D)) (found : List (Key × D)) (j7 j8 : Option (Nat × D)) (st : St) : S := ⟨[some (0, .tup [.int w, .int d, .tup (ps.map pD)]), some (0, .tup (aw.map D.str)), j2, j3, j4, some (1, .dct (aboveD ps)), some (1, .dct found), j7, j8], st⟩
theorem law_callers_ok (C : Call) : LawCallersOk (f_law_callers C) := by
  intro w d ps aw st ok ao
  have hn := ok.n
  have nd := ok.good.nd
  have ndn := (List.nodup_cons.mp nd).2
  have hb : ("" : Str) ∉ aw := fun z => (List.nodup_cons.mp nd).1 (ao.mem _ z)
  have main : Fin (fun p st' => ∃ found, p = (1, .dct found) ∧ st' = st ∧ FoundOk d ps aw found ps) (m_law_callers C ⟨[treeD w d ps, namesD aw].map (fun d => some (0, d)) ++ List.replicate (9 - [treeD w d ps, namesD aw].length) none, st⟩) := by
    unfold m_law_callers treeD namesD
    have key : lcM [2, 3, 4] (gTupM 3 (gsCons (gVar 2) (gsCons (gVar 3) (gsCons (gVar 4) gsNil)))) tTrue (eTup (vsCons (eVar 2) (vsCons (eVar 3) vsNil))) (ps.map pD) []
        ⟨[some (0, D.tup [.int w, .int d, .tup (ps.map pD)]), some (0, .tup (aw.map D.str)), none, none, none, none, none, none, none], st⟩ = .ok (ps.map fun p => D.tup [.str p.1, .str p.2.1]) ⟨[some (0, D.tup [.int w, .int d, .tup (ps.map pD)]), some (0, .tup (aw.map D.str)), none, none, none, none, none, none, none], st⟩ :=
      lcM_map pD _ ps (by omega) fun p _ => by simp only [sSeq_eq, seq_nx', seq_rt', seq_bk', seq_ct', bind_ok', then_ok', opt_some', toB_ok', eCall_eq, back_ok', eCallL_eq, looksL_some, sNil, sBreak, sCont, sExpr, sRet, sRetN, sIf, sSet, sAsg, sPar2, par2K, sPar3, par3K, sFor, sAppend, sExtend, sDPut, storeK, sSubApp, eOf, eV, oV, eC, eVar, oVar, eTup, eLst, vsNil, vsCons, osNil, osCons, lsNil, lsCons, eOp, binD, cmpP, cm_eq_str, cm_ne_str, cm_eq_int, cm_ne_int, cm_lt, cm_le, cm_gt, cm_ge, cm_slt, cm_sle, cm_is, cm_isnot, cm_in_tup, cm_nin_tup, cm_in_lst, cm_nin_lst, cm_in_dct, cm_nin_dct, cm_in_str, cm_ne_nn, cm_eq_nn, Nat.le_refl, Nat.zero_le, Nat.reduceLeDiff, big_0, seqIx_0, List.eraseIdx_cons_zero, pop_last, drop_last, max2, eSortK, atI_0, atI_1, atI_2, atI_3, atI_4, tCmp, tChain2, eT, tAnd2, tOr2, tNot1, bOf, eAnd2, eOr2, eNot1, eIf, truD, tTru, eSub, S.flat, S.look, S.looks, S.deref, subD, pNone, pSome, eSlice, sliceD, eRev, eCallB, iVal, itemsD, iRange1, iRange2, iEnumM, gVar, gsNil, gsCons, gTupM, eLc, lc1, for1, tTrue, S.wipe, wipeE, ePop, ePopAt, S.isList, S.bound, eMove, capL, eIsi, D.isT, eDict0, eDisp, eDispL, eCell, psNil, psCons, D.key, isNon_non, isNon_int, isNon_str, isNon_tup, isNon_lst, isNon_bl, isNon_dct, Option.map, Option.bind, List.getElem?_cons_zero, List.getElem?_cons_succ, List.set_cons_zero, List.set_cons_succ, List.map_cons, List.map_nil, List.length_cons, List.length_nil, List.replicate_succ, List.replicate_zero, List.cons_append, List.nil_append, List.append_nil, Nat.reduceSub, Nat.reduceAdd, Nat.reduceEqDiff, decide_true, decide_false, if_true, if_false, ite_true, ite_false, reduceIte, Bool.false_eq_true, Nat.reduceLT, Nat.zero_lt_succ, Nat.lt_add_one, Nat.zero_add, true_and, and_true, or_true, true_or, false_and, and_false, false_or, or_false, Bool.not_true, Bool.not_false, Nat.succ_lt_succ_iff, Nat.add_lt_add_iff_right, beq_self_eq_true, String.reduceBEq, Bool.or_true, Bool.true_or, Bool.or_false, Bool.false_or, Bool.and_true, Bool.true_and, Bool.and_false, Bool.false_and, Int.cast_ofNat_Int, Int.reduceBEq, Int.reduceLT, Int.reduceLE, Int.reduceAdd, Int.reduceSub, Int.reduceMul, Int.reduceNeg, Int.natCast_zero, Int.natCast_one, sz_0, sz_1, sz_2, sz_3, sz_4, sz_5, sz_6, sz_7, sz_8, sz_9, sz_10, sz_11, sz_12, sz_13, sz_14, sz_15, sz_16, pD]
    simp only [sSeq_eq, seq_nx', seq_rt', seq_bk', seq_ct', bind_ok', then_ok', opt_some', toB_ok', eCall_eq, back_ok', eCallL_eq, looksL_some, sNil, sBreak, sCont, sExpr, sRet, sRetN, sIf, sSet, sAsg, sPar2, par2K, sPar3, par3K, sFor, sAppend, sExtend, sDPut, storeK, sSubApp, eOf, eV, oV, eC, eVar, oVar, eTup, eLst, vsNil, vsCons, osNil, osCons, lsNil, lsCons, eOp, binD, cmpP, cm_eq_str, cm_ne_str, cm_eq_int, cm_ne_int, cm_lt, cm_le, cm_gt, cm_ge, cm_slt, cm_sle, cm_is, cm_isnot, cm_in_tup, cm_nin_tup, cm_in_lst, cm_nin_lst, cm_in_dct, cm_nin_dct, cm_in_str, cm_ne_nn, cm_eq_nn, Nat.le_refl, Nat.zero_le, Nat.reduceLeDiff, big_0, seqIx_0, List.eraseIdx_cons_zero, pop_last, drop_last, max2, eSortK, atI_0, atI_1, atI_2, atI_3, atI_4, tCmp, tChain2, eT, tAnd2, tOr2, tNot1, bOf, eAnd2, eOr2, eNot1, eIf, truD, tTru, eSub, S.flat, S.look, S.looks, S.deref, subD, pNone, pSome, eSlice, sliceD, eRev, eCallB, iVal, itemsD, iRange1, iRange2, iEnumM, gVar, gsNil, gsCons, gTupM, eLc, lc1, for1, tTrue, S.wipe, wipeE, ePop, ePopAt, S.isList, S.bound, eMove, capL, eIsi, D.isT, eDict0, eDisp, eDispL, eCell, psNil, psCons, D.key, isNon_non, isNon_int, isNon_str, isNon_tup, isNon_lst, isNon_bl, isNon_dct, Option.map, Option.bind, List.getElem?_cons_zero, List.getElem?_cons_succ, List.set_cons_zero, List.set_cons_succ, List.map_cons, List.map_nil, List.length_cons, List.length_nil, List.replicate_succ, List.replicate_zero, List.cons_append, List.nil_append, List.append_nil, Nat.reduceSub, Nat.reduceAdd, Nat.reduceEqDiff, decide_true, decide_false, if_true, if_false, ite_true, ite_false, reduceIte, Bool.false_eq_true, Nat.reduceLT, Nat.zero_lt_succ, Nat.lt_add_one, Nat.zero_add, true_and, and_true, or_true, true_or, false_and, and_false, false_or, or_false, Bool.not_true, Bool.not_false, Nat.succ_lt_succ_iff, Nat.add_lt_add_iff_right, beq_self_eq_true, String.reduceBEq, Bool.or_true, Bool.true_or, Bool.or_false, Bool.false_or, Bool.and_true, Bool.true_and, Bool.and_false, Bool.false_and, Int.cast_ofNat_Int, Int.reduceBEq, Int.reduceLT, Int.reduceLE, Int.reduceAdd, Int.reduceSub, Int.reduceMul, Int.reduceNeg, Int.natCast_zero, Int.natCast_one, sz_0, sz_1, sz_2, sz_3, sz_4, sz_5, sz_6, sz_7, sz_8, sz_9, sz_10, sz_11, sz_12, sz_13, sz_14, sz_15, sz_16, key, pairs_dict (fun p => D.str p.2.1) ndn 0 (by omega)]
    refine for_q pD (fun pre s => ∃ j2 j3 j4 found j7 j8, s = envC w d ps aw j2 j3 j4 found j7 j8 st ∧ FoundOk d ps aw found pre) ps rfl ?_ ⟨none, none, none, [], none, none, rfl, ⟨fun _ _ => rfl, fun _ h => (by cases h), Nat.le_refl _⟩⟩ ?_
    · rintro pre p post s e ⟨j2, j3, j4, found, j7, j8, rfl, fo⟩
      have hnp : p.1 ∉ ("" : Str) :: pre.map (·.1) := by
        rw [e] at nd
        have : ((("" : Str)) :: (pre ++ p :: post).map (·.1)) = ((("" : Str)) :: pre.map (·.1)) ++ (p :: post).map (·.1) := by simp
        rw [this] at nd
        intro z
        exact (List.nodup_append.mp nd).2.2 _ z _ (by simp) rfl
      have hpl : pre.length ≤ 16 := by
        have := congrArg List.length e
        simp at this
        omega
      simp only [sSeq_eq, seq_nx', seq_rt', seq_bk', seq_ct', bind_ok', then_ok', opt_some', toB_ok', eCall_eq, back_ok', eCallL_eq, looksL_some, sNil, sBreak, sCont, sExpr, sRet, sRetN, sIf, sSet, sAsg, sPar2, par2K, sPar3, par3K, sFor, sAppend, sExtend, sDPut, storeK, sSubApp, eOf, eV, oV, eC, eVar, oVar, eTup, eLst, vsNil, vsCons, osNil, osCons, lsNil, lsCons, eOp, binD, cmpP, cm_eq_str, cm_ne_str, cm_eq_int, cm_ne_int, cm_lt, cm_le, cm_gt, cm_ge, cm_slt, cm_sle, cm_is, cm_isnot, cm_in_tup, cm_nin_tup, cm_in_lst, cm_nin_lst, cm_in_dct, cm_nin_dct, cm_in_str, cm_ne_nn, cm_eq_nn, Nat.le_refl, Nat.zero_le, Nat.reduceLeDiff, big_0, seqIx_0, List.eraseIdx_cons_zero, pop_last, drop_last, max2, eSortK, atI_0, atI_1, atI_2, atI_3, atI_4, tCmp, tChain2, eT, tAnd2, tOr2, tNot1, bOf, eAnd2, eOr2, eNot1, eIf, truD, tTru, eSub, S.flat, S.look, S.looks, S.deref, subD, pNone, pSome, eSlice, sliceD, eRev, eCallB, iVal, itemsD, iRange1, iRange2, iEnumM, gVar, gsNil, gsCons, gTupM, eLc, lc1, for1, tTrue, S.wipe, wipeE, ePop, ePopAt, S.isList, S.bound, eMove, capL, eIsi, D.isT, eDict0, eDisp, eDispL, eCell, psNil, psCons, D.key, isNon_non, isNon_int, isNon_str, isNon_tup, isNon_lst, isNon_bl, isNon_dct, Option.map, Option.bind, List.getElem?_cons_zero, List.getElem?_cons_succ, List.set_cons_zero, List.set_cons_succ, List.map_cons, List.map_nil, List.length_cons, List.length_nil, List.replicate_succ, List.replicate_zero, List.cons_append, List.nil_append, List.append_nil, Nat.reduceSub, Nat.reduceAdd, Nat.reduceEqDiff, decide_true, decide_false, if_true, if_false, ite_true, ite_false, reduceIte, Bool.false_eq_true, Nat.reduceLT, Nat.zero_lt_succ, Nat.lt_add_one, Nat.zero_add, true_and, and_true, or_true, true_or, false_and, and_false, false_or, or_false, Bool.not_true, Bool.not_false, Nat.succ_lt_succ_iff, Nat.add_lt_add_iff_right, beq_self_eq_true, String.reduceBEq, Bool.or_true, Bool.true_or, Bool.or_false, Bool.false_or, Bool.and_true, Bool.true_and, Bool.and_false, Bool.false_and, Int.cast_ofNat_Int, Int.reduceBEq, Int.reduceLT, Int.reduceLE, Int.reduceAdd, Int.reduceSub, Int.reduceMul, Int.reduceNeg, Int.natCast_zero, Int.natCast_one, sz_0, sz_1, sz_2, sz_3, sz_4, sz_5, sz_6, sz_7, sz_8, sz_9, sz_10, sz_11, sz_12, sz_13, sz_14, sz_15, sz_16, pD]
      refine while_q (fun n s => ∃ one lev, s = envC w d ps aw (some (0, .str p.1)) (some (0, .str p.2.1)) (some (0, .int p.2.2)) found (some (0, .str one)) (some (0, .int lev)) st ∧ (∃ a r, ps = a ++ r ∧ a.length = n ∧ a <+: pre ∧ (one = "" ∨ one ∈ a.map (·.1))) ∧ ∀ X l, Climb aw ps one lev X l → Climb aw ps p.2.1 1 X l) pre.length ?_ ⟨p.2.1, 1, rfl, ⟨pre, p :: post, e, rfl, List.prefix_refl _, ok.good.up pre p post e⟩, fun _ _ h => h⟩ ?_
      · rintro n s ⟨one, lev, rfl, ⟨a, r, ea, en, ep, ho⟩, hcl⟩
        by_cases ha : one ∈ aw
        · have ha' : decide (one ∈ aw) = true := decide_eq_true ha
          right
          refine ⟨envC w d ps aw (some (0, .str p.1)) (some (0, .str p.2.1)) (some (0, .int p.2.2)) found (some (0, .str one)) (some (0, .int lev)) st, ?_, ?_⟩
          · simp only [sSeq_eq, seq_nx', seq_rt', seq_bk', seq_ct', bind_ok', then_ok', opt_some', toB_ok', eCall_eq, back_ok', eCallL_eq, looksL_some, sNil, sBreak, sCont, sExpr, sRet, sRetN, sIf, sSet, sAsg, sPar2, par2K, sPar3, par3K, sFor, sAppend, sExtend, sDPut, storeK, sSubApp, eOf, eV, oV, eC, eVar, oVar, eTup, eLst, vsNil, vsCons, osNil, osCons, lsNil, lsCons, eOp, binD, cmpP, cm_eq_str, cm_ne_str, cm_eq_int, cm_ne_int, cm_lt, cm_le, cm_gt, cm_ge, cm_slt, cm_sle, cm_is, cm_isnot, cm_in_tup, cm_nin_tup, cm_in_lst, cm_nin_lst, cm_in_dct, cm_nin_dct, cm_in_str, cm_ne_nn, cm_eq_nn, Nat.le_refl, Nat.zero_le, Nat.reduceLeDiff, big_0, seqIx_0, List.eraseIdx_cons_zero, pop_last, drop_last, max2, eSortK, atI_0, atI_1, atI_2, atI_3, atI_4, tCmp, tChain2, eT, tAnd2, tOr2, tNot1, bOf, eAnd2, eOr2, eNot1, eIf, truD, tTru, eSub, S.flat, S.look, S.looks, S.deref, subD, pNone, pSome, eSlice, sliceD, eRev, eCallB, iVal, itemsD, iRange1, iRange2, iEnumM, gVar, gsNil, gsCons, gTupM, eLc, lc1, for1, tTrue, S.wipe, wipeE, ePop, ePopAt, S.isList, S.bound, eMove, capL, eIsi, D.isT, eDict0, eDisp, eDispL, eCell, psNil, psCons, D.key, isNon_non, isNon_int, isNon_str, isNon_tup, isNon_lst, isNon_bl, isNon_dct, Option.map, Option.bind, List.getElem?_cons_zero, List.getElem?_cons_succ, List.set_cons_zero, List.set_cons_succ, List.map_cons, List.map_nil, List.length_cons, List.length_nil, List.replicate_succ, List.replicate_zero, List.cons_append, List.nil_append, List.append_nil, Nat.reduceSub, Nat.reduceAdd, Nat.reduceEqDiff, decide_true, decide_false, if_true, if_false, ite_true, ite_false, reduceIte, Bool.false_eq_true, Nat.reduceLT, Nat.zero_lt_succ, Nat.lt_add_one, Nat.zero_add, true_and, and_true, or_true, true_or, false_and, and_false, false_or, or_false, Bool.not_true, Bool.not_false, Nat.succ_lt_succ_iff, Nat.add_lt_add_iff_right, beq_self_eq_true, String.reduceBEq, Bool.or_true, Bool.true_or, Bool.or_false, Bool.false_or, Bool.and_true, Bool.true_and, Bool.and_false, Bool.false_and, Int.cast_ofNat_Int, Int.reduceBEq, Int.reduceLT, Int.reduceLE, Int.reduceAdd, Int.reduceSub, Int.reduceMul, Int.reduceNeg, Int.natCast_zero, Int.natCast_one, sz_0, sz_1, sz_2, sz_3, sz_4, sz_5, sz_6, sz_7, sz_8, sz_9, sz_10, sz_11, sz_12, sz_13, sz_14, sz_15, sz_16, ha']
          · have ho : one ∈ a.map (·.1) := by
              rcases ho with z | z
              · rw [z] at ha; exact absurd ha hb
              · exact z
            obtain ⟨q, hq, rfl⟩ := List.mem_map.mp ho
            obtain ⟨a1, a2, ea2⟩ := List.append_of_mem hq
            have hqs : q ∈ ps := by rw [ea]; simp [hq]
            have e5 : getK (aboveD ps) (.inr q.1) = some (.str q.2.1) := pairs_get (fun p => D.str p.2.1) ndn hqs
            have eps : ps = a1 ++ q :: (a2 ++ r) := by rw [ea, ea2]; simp
            simp only [sSeq_eq, seq_nx', seq_rt', seq_bk', seq_ct', bind_ok', then_ok', opt_some', toB_ok', eCall_eq, back_ok', eCallL_eq, looksL_some, sNil, sBreak, sCont, sExpr, sRet, sRetN, sIf, sSet, sAsg, sPar2, par2K, sPar3, par3K, sFor, sAppend, sExtend, sDPut, storeK, sSubApp, eOf, eV, oV, eC, eVar, oVar, eTup, eLst, vsNil, vsCons, osNil, osCons, lsNil, lsCons, eOp, binD, cmpP, cm_eq_str, cm_ne_str, cm_eq_int, cm_ne_int, cm_lt, cm_le, cm_gt, cm_ge, cm_slt, cm_sle, cm_is, cm_isnot, cm_in_tup, cm_nin_tup, cm_in_lst, cm_nin_lst, cm_in_dct, cm_nin_dct, cm_in_str, cm_ne_nn, cm_eq_nn, Nat.le_refl, Nat.zero_le, Nat.reduceLeDiff, big_0, seqIx_0, List.eraseIdx_cons_zero, pop_last, drop_last, max2, eSortK, atI_0, atI_1, atI_2, atI_3, atI_4, tCmp, tChain2, eT, tAnd2, tOr2, tNot1, bOf, eAnd2, eOr2, eNot1, eIf, truD, tTru, eSub, S.flat, S.look, S.looks, S.deref, subD, pNone, pSome, eSlice, sliceD, eRev, eCallB, iVal, itemsD, iRange1, iRange2, iEnumM, gVar, gsNil, gsCons, gTupM, eLc, lc1, for1, tTrue, S.wipe, wipeE, ePop, ePopAt, S.isList, S.bound, eMove, capL, eIsi, D.isT, eDict0, eDisp, eDispL, eCell, psNil, psCons, D.key, isNon_non, isNon_int, isNon_str, isNon_tup, isNon_lst, isNon_bl, isNon_dct, Option.map, Option.bind, List.getElem?_cons_zero, List.getElem?_cons_succ, List.set_cons_zero, List.set_cons_succ, List.map_cons, List.map_nil, List.length_cons, List.length_nil, List.replicate_succ, List.replicate_zero, List.cons_append, List.nil_append, List.append_nil, Nat.reduceSub, Nat.reduceAdd, Nat.reduceEqDiff, decide_true, decide_false, if_true, if_false, ite_true, ite_false, reduceIte, Bool.false_eq_true, Nat.reduceLT, Nat.zero_lt_succ, Nat.lt_add_one, Nat.zero_add, true_and, and_true, or_true, true_or, false_and, and_false, false_or, or_false, Bool.not_true, Bool.not_false, Nat.succ_lt_succ_iff, Nat.add_lt_add_iff_right, beq_self_eq_true, String.reduceBEq, Bool.or_true, Bool.true_or, Bool.or_false, Bool.false_or, Bool.and_true, Bool.true_and, Bool.and_false, Bool.false_and, Int.cast_ofNat_Int, Int.reduceBEq, Int.reduceLT, Int.reduceLE, Int.reduceAdd, Int.reduceSub, Int.reduceMul, Int.reduceNeg, Int.natCast_zero, Int.natCast_one, sz_0, sz_1, sz_2, sz_3, sz_4, sz_5, sz_6, sz_7, sz_8, sz_9, sz_10, sz_11, sz_12, sz_13, sz_14, sz_15, sz_16, e5]
            refine ⟨a1.length, by rw [← en, ea2]; simp, q.2.1, lev + 1, rfl, ⟨a1, q :: (a2 ++ r), eps, rfl, List.IsPrefix.trans ⟨q :: a2, ea2.symm⟩ ep, ok.good.up _ _ _ eps⟩, fun X l h => hcl X l (.up ha (by exact hqs) h)⟩
        · have ha' : decide (one ∈ aw) = false := decide_eq_false ha
          left
          refine ⟨envC w d ps aw (some (0, .str p.1)) (some (0, .str p.2.1)) (some (0, .int p.2.2)) found (some (0, .str one)) (some (0, .int lev)) st, ?_, ?_⟩
          · simp only [sSeq_eq, seq_nx', seq_rt', seq_bk', seq_ct', bind_ok', then_ok', opt_some', toB_ok', eCall_eq, back_ok', eCallL_eq, looksL_some, sNil, sBreak, sCont, sExpr, sRet, sRetN, sIf, sSet, sAsg, sPar2, par2K, sPar3, par3K, sFor, sAppend, sExtend, sDPut, storeK, sSubApp, eOf, eV, oV, eC, eVar, oVar, eTup, eLst, vsNil, vsCons, osNil, osCons, lsNil, lsCons, eOp, binD, cmpP, cm_eq_str, cm_ne_str, cm_eq_int, cm_ne_int, cm_lt, cm_le, cm_gt, cm_ge, cm_slt, cm_sle, cm_is, cm_isnot, cm_in_tup, cm_nin_tup, cm_in_lst, cm_nin_lst, cm_in_dct, cm_nin_dct, cm_in_str, cm_ne_nn, cm_eq_nn, Nat.le_refl, Nat.zero_le, Nat.reduceLeDiff, big_0, seqIx_0, List.eraseIdx_cons_zero, pop_last, drop_last, max2, eSortK, atI_0, atI_1, atI_2, atI_3, atI_4, tCmp, tChain2, eT, tAnd2, tOr2, tNot1, bOf, eAnd2, eOr2, eNot1, eIf, truD, tTru, eSub, S.flat, S.look, S.looks, S.deref, subD, pNone, pSome, eSlice, sliceD, eRev, eCallB, iVal, itemsD, iRange1, iRange2, iEnumM, gVar, gsNil, gsCons, gTupM, eLc, lc1, for1, tTrue, S.wipe, wipeE, ePop, ePopAt, S.isList, S.bound, eMove, capL, eIsi, D.isT, eDict0, eDisp, eDispL, eCell, psNil, psCons, D.key, isNon_non, isNon_int, isNon_str, isNon_tup, isNon_lst, isNon_bl, isNon_dct, Option.map, Option.bind, List.getElem?_cons_zero, List.getElem?_cons_succ, List.set_cons_zero, List.set_cons_succ, List.map_cons, List.map_nil, List.length_cons, List.length_nil, List.replicate_succ, List.replicate_zero, List.cons_append, List.nil_append, List.append_nil, Nat.reduceSub, Nat.reduceAdd, Nat.reduceEqDiff, decide_true, decide_false, if_true, if_false, ite_true, ite_false, reduceIte, Bool.false_eq_true, Nat.reduceLT, Nat.zero_lt_succ, Nat.lt_add_one, Nat.zero_add, true_and, and_true, or_true, true_or, false_and, and_false, false_or, or_false, Bool.not_true, Bool.not_false, Nat.succ_lt_succ_iff, Nat.add_lt_add_iff_right, beq_self_eq_true, String.reduceBEq, Bool.or_true, Bool.true_or, Bool.or_false, Bool.false_or, Bool.and_true, Bool.true_and, Bool.and_false, Bool.false_and, Int.cast_ofNat_Int, Int.reduceBEq, Int.reduceLT, Int.reduceLE, Int.reduceAdd, Int.reduceSub, Int.reduceMul, Int.reduceNeg, Int.natCast_zero, Int.natCast_one, sz_0, sz_1, sz_2, sz_3, sz_4, sz_5, sz_6, sz_7, sz_8, sz_9, sz_10, sz_11, sz_12, sz_13, sz_14, sz_15, sz_16, ha']
          · have hc := hcl one lev (.stop ha)
            have hX : one = "" ∨ one ∈ pre.map (·.1) := ho.imp id fun z => by
              obtain ⟨t, ht⟩ := ep
              rw [← ht, List.map_append]; exact List.mem_append.mpr (.inl z)
            have fin := fo.next hnp hc hX
            have hz : szOk found.length = true := szOk_of (by have := fo.len; omega)
            have hen : entry d found one lev = if ((d == 0) || decide (lev ≤ d)) && ((one == ("" : Str)) || (getK found (.inr one)).isSome) then some (.str one) else none := by
              unfold entry
              congr 1
              simp
            rw [hen] at fin
            cases h1 : (d == 0) <;> cases h2 : decide (lev ≤ d) <;> cases h3 : (one == ("" : Str)) <;> cases h4 : (getK found (.inr one)).isSome <;> simp only [h1, h2, h3, h4, Bool.or_true, Bool.true_or, Bool.or_false, Bool.false_or, Bool.and_true, Bool.and_false, Bool.true_and, Bool.false_and, if_true, if_false, Bool.false_eq_true] at fin <;> simp only [sSeq_eq, seq_nx', seq_rt', seq_bk', seq_ct', bind_ok', then_ok', opt_some', toB_ok', eCall_eq, back_ok', eCallL_eq, looksL_some, sNil, sBreak, sCont, sExpr, sRet, sRetN, sIf, sSet, sAsg, sPar2, par2K, sPar3, par3K, sFor, sAppend, sExtend, sDPut, storeK, sSubApp, eOf, eV, oV, eC, eVar, oVar, eTup, eLst, vsNil, vsCons, osNil, osCons, lsNil, lsCons, eOp, binD, cmpP, cm_eq_str, cm_ne_str, cm_eq_int, cm_ne_int, cm_lt, cm_le, cm_gt, cm_ge, cm_slt, cm_sle, cm_is, cm_isnot, cm_in_tup, cm_nin_tup, cm_in_lst, cm_nin_lst, cm_in_dct, cm_nin_dct, cm_in_str, cm_ne_nn, cm_eq_nn, Nat.le_refl, Nat.zero_le, Nat.reduceLeDiff, big_0, seqIx_0, List.eraseIdx_cons_zero, pop_last, drop_last, max2, eSortK, atI_0, atI_1, atI_2, atI_3, atI_4, tCmp, tChain2, eT, tAnd2, tOr2, tNot1, bOf, eAnd2, eOr2, eNot1, eIf, truD, tTru, eSub, S.flat, S.look, S.looks, S.deref, subD, pNone, pSome, eSlice, sliceD, eRev, eCallB, iVal, itemsD, iRange1, iRange2, iEnumM, gVar, gsNil, gsCons, gTupM, eLc, lc1, for1, tTrue, S.wipe, wipeE, ePop, ePopAt, S.isList, S.bound, eMove, capL, eIsi, D.isT, eDict0, eDisp, eDispL, eCell, psNil, psCons, D.key, isNon_non, isNon_int, isNon_str, isNon_tup, isNon_lst, isNon_bl, isNon_dct, Option.map, Option.bind, List.getElem?_cons_zero, List.getElem?_cons_succ, List.set_cons_zero, List.set_cons_succ, List.map_cons, List.map_nil, List.length_cons, List.length_nil, List.replicate_succ, List.replicate_zero, List.cons_append, List.nil_append, List.append_nil, Nat.reduceSub, Nat.reduceAdd, Nat.reduceEqDiff, decide_true, decide_false, if_true, if_false, ite_true, ite_false, reduceIte, Bool.false_eq_true, Nat.reduceLT, Nat.zero_lt_succ, Nat.lt_add_one, Nat.zero_add, true_and, and_true, or_true, true_or, false_and, and_false, false_or, or_false, Bool.not_true, Bool.not_false, Nat.succ_lt_succ_iff, Nat.add_lt_add_iff_right, beq_self_eq_true, String.reduceBEq, Bool.or_true, Bool.true_or, Bool.or_false, Bool.false_or, Bool.and_true, Bool.true_and, Bool.and_false, Bool.false_and, Int.cast_ofNat_Int, Int.reduceBEq, Int.reduceLT, Int.reduceLE, Int.reduceAdd, Int.reduceSub, Int.reduceMul, Int.reduceNeg, Int.natCast_zero, Int.natCast_one, sz_0, sz_1, sz_2, sz_3, sz_4, sz_5, sz_6, sz_7, sz_8, sz_9, sz_10, sz_11, sz_12, sz_13, sz_14, sz_15, sz_16, h1, h2, h3, h4, hz] <;> exact ⟨_, _, _, _, _, _, rfl, fin⟩
      · show pre.length < 100000
        omega
    · rintro s' ⟨j2, j3, j4, found, j7, j8, rfl, fo⟩
      simp only [sSeq_eq, seq_nx', seq_rt', seq_bk', seq_ct', bind_ok', then_ok', opt_some', toB_ok', eCall_eq, back_ok', eCallL_eq, looksL_some, sNil, sBreak, sCont, sExpr, sRet, sRetN, sIf, sSet, sAsg, sPar2, par2K, sPar3, par3K, sFor, sAppend, sExtend, sDPut, storeK, sSubApp, eOf, eV, oV, eC, eVar, oVar, eTup, eLst, vsNil, vsCons, osNil, osCons, lsNil, lsCons, eOp, binD, cmpP, cm_eq_str, cm_ne_str, cm_eq_int, cm_ne_int, cm_lt, cm_le, cm_gt, cm_ge, cm_slt, cm_sle, cm_is, cm_isnot, cm_in_tup, cm_nin_tup, cm_in_lst, cm_nin_lst, cm_in_dct, cm_nin_dct, cm_in_str, cm_ne_nn, cm_eq_nn, Nat.le_refl, Nat.zero_le, Nat.reduceLeDiff, big_0, seqIx_0, List.eraseIdx_cons_zero, pop_last, drop_last, max2, eSortK, atI_0, atI_1, atI_2, atI_3, atI_4, tCmp, tChain2, eT, tAnd2, tOr2, tNot1, bOf, eAnd2, eOr2, eNot1, eIf, truD, tTru, eSub, S.flat, S.look, S.looks, S.deref, subD, pNone, pSome, eSlice, sliceD, eRev, eCallB, iVal, itemsD, iRange1, iRange2, iEnumM, gVar, gsNil, gsCons, gTupM, eLc, lc1, for1, tTrue, S.wipe, wipeE, ePop, ePopAt, S.isList, S.bound, eMove, capL, eIsi, D.isT, eDict0, eDisp, eDispL, eCell, psNil, psCons, D.key, isNon_non, isNon_int, isNon_str, isNon_tup, isNon_lst, isNon_bl, isNon_dct, Option.map, Option.bind, List.getElem?_cons_zero, List.getElem?_cons_succ, List.set_cons_zero, List.set_cons_succ, List.map_cons, List.map_nil, List.length_cons, List.length_nil, List.replicate_succ, List.replicate_zero, List.cons_append, List.nil_append, List.append_nil, Nat.reduceSub, Nat.reduceAdd, Nat.reduceEqDiff, decide_true, decide_false, if_true, if_false, ite_true, ite_false, reduceIte, Bool.false_eq_true, Nat.reduceLT, Nat.zero_lt_succ, Nat.lt_add_one, Nat.zero_add, true_and, and_true, or_true, true_or, false_and, and_false, false_or, or_false, Bool.not_true, Bool.not_false, Nat.succ_lt_succ_iff, Nat.add_lt_add_iff_right, beq_self_eq_true, String.reduceBEq, Bool.or_true, Bool.true_or, Bool.or_false, Bool.false_or, Bool.and_true, Bool.true_and, Bool.and_false, Bool.false_and, Int.cast_ofNat_Int, Int.reduceBEq, Int.reduceLT, Int.reduceLE, Int.reduceAdd, Int.reduceSub, Int.reduceMul, Int.reduceNeg, Int.natCast_zero, Int.natCast_one, sz_0, sz_1, sz_2, sz_3, sz_4, sz_5, sz_6, sz_7, sz_8, sz_9, sz_10, sz_11, sz_12, sz_13, sz_14, sz_15, sz_16]
      exact ⟨found, rfl, rfl, fo⟩
  obtain ⟨p, st', e, found, rfl, rfl, fo⟩ := run_fin main
  exact ⟨found, e, fo⟩
end G
-- part Sp6
set_option Elab.async false
set_option linter.all false
set_option maxRecDepth 100000
set_option maxHeartbeats 4000000
set_option autoImplicit false
/-! Sp6: the law's calls. -/
namespace G
open PySem PySem.Spec Rd L2 Ring
/-- turns that all go on -/
inductive Runs (g : Tm) (b : Sm) : List D → S → S → Prop
  | nil {s : S} : Runs g b [] s s
  | cons {d : D} {ds : List D} {s s1 s2 : S} : for1 g b d s = .nx s1 → Runs g b ds s1 s2 → Runs g b (d :: ds) s s2
theorem Runs.app {g : Tm} {b : Sm} {ds es : List D} {s s1 s2 : S} (h : Runs g b ds s s1) (h' : Runs g b es s1 s2) : Runs g b (ds ++ es) s s2 := by
  induction h with
  | nil => exact h'
  | cons e _ ih => exact .cons e (ih h')
theorem Runs.forM {g : Tm} {b : Sm} {ds : List D} {s s' : S} (h : Runs g b ds s s') : forM g b ds s = .nx s' := by
  induction h with
  | nil => rfl
  | cons e _ ih =>
    rename_i d ds s s1 s2 _
    show (match g d s with | none => RS.bad | some s1 => _) = _
    unfold for1 at e
    cases hg : g d s with
    | none => rw [hg] at e; cases e
    | some s3 =>
      rw [hg] at e
      have e : b s3 = .nx s1 := e
      show (match b s3 with | .nx s2 => G.forM g b ds s2 | .ct s2 => G.forM g b ds s2 | .bk s2 => .nx s2 | r => r : RS) = _
      rw [e]; exact ih
def bodyL : Sm := (sSeq (sIf (tCmp .In (oVar 2) (oVar 3))
      (sSeq (sSet 7 (eOf (eSub (oVar 5) (oV (eSub (oVar 3) (oVar 2))))))
      (sSeq (sSet 8 (eBin .Add (oVar 7) (oV (eV (eIf (tCmp .In (oVar 2) (oVar 1)) (eOf (eSub (oVar 0) (oV (eC (.int 0))))) (eOf (eSub (oVar 4) (oVar 2))))))))
      (sSeq (sDPut 5 (oV (eSub (oVar 3) (oVar 2))) (eOf (eVar 8)))
      (sSeq (sDPut 5 (oVar 2) (eOf (eVar 8)))
      (sSeq (sAppend 6 (eTup (vsCons (eVar 7) (vsCons (eVar 8) (vsCons (eSub (oVar 3) (oVar 2)) (vsCons (eVar 2) (vsCons (eV (eCmp .NotIn (oVar 2) (oVar 1))) vsNil)))))))
      sNil)))))
      sNil)
    sNil)
abbrev envL (w d : Int) (ps : List Pe) (aw : List Str) (found : List (Key × D)) (j2 : Option (Nat × D)) (F : List (Key × D)) (rows : List (Cl Str)) (j7 j8 : Option (Nat × D)) (st : St) : S :=
  ⟨[some (0, .tup [.int w, .int d, .tup (ps.map pD)]), some (0, .tup (aw.map D.str)), j2, some (1, .dct found), some (1, .dct (talksD ps)), some (1, .dct F), some (1, .lst (rows.map callD)), j7, j8, none, none], st⟩
section
variable {w d : Int} {ps : List Pe} {aw : List Str} {found : List (Key × D)} {st : St}
theorem step_no {n : Str} {j2 j7 j8 : Option (Nat × D)} {F : List (Key × D)} {rows : List (Cl Str)} (h : getK found (.inr n) = none) :
    for1 (gVar 2) bodyL (.str n) (envL w d ps aw found j2 F rows j7 j8 st) = .nx (envL w d ps aw found (some (0, .str n)) F rows j7 j8 st) := by
  have h' : (getK found (.inr n)).isSome = false := by rw [h]; rfl
  unfold bodyL
  simp only [sSeq_eq, seq_nx', seq_rt', seq_bk', seq_ct', bind_ok', then_ok', opt_some', toB_ok', eCall_eq, back_ok', eCallL_eq, looksL_some, sNil, sBreak, sCont, sExpr, sRet, sRetN, sIf, sSet, sAsg, sPar2, par2K, sPar3, par3K, sFor, sAppend, sExtend, sDPut, storeK, sSubApp, eOf, eV, oV, eC, eVar, oVar, eTup, eLst, vsNil, vsCons, osNil, osCons, lsNil, lsCons, eOp, binD, cmpP, cm_eq_str, cm_ne_str, cm_eq_int, cm_ne_int, cm_lt, cm_le, cm_gt, cm_ge, cm_slt, cm_sle, cm_is, cm_isnot, cm_in_tup, cm_nin_tup, cm_in_lst, cm_nin_lst, cm_in_dct, cm_nin_dct, cm_in_str, cm_ne_nn, cm_eq_nn, Nat.le_refl, Nat.zero_le, Nat.reduceLeDiff, big_0, seqIx_0, List.eraseIdx_cons_zero, pop_last, drop_last, max2, eSortK, atI_0, atI_1, atI_2, atI_3, atI_4, tCmp, tChain2, eT, tAnd2, tOr2, tNot1, bOf, eAnd2, eOr2, eNot1, eIf, truD, tTru, eSub, S.flat, S.look, S.looks, S.deref, subD, pNone, pSome, eSlice, sliceD, eRev, eCallB, iVal, itemsD, iRange1, iRange2, iEnumM, gVar, gsNil, gsCons, gTupM, eLc, lc1, for1, tTrue, S.wipe, wipeE, ePop, ePopAt, S.isList, S.bound, eMove, capL, eIsi, D.isT, eDict0, eDisp, eDispL, eCell, psNil, psCons, D.key, isNon_non, isNon_int, isNon_str, isNon_tup, isNon_lst, isNon_bl, isNon_dct, Option.map, Option.bind, Option.isSome_some, Option.isSome_none, List.getElem?_cons_zero, List.getElem?_cons_succ, List.set_cons_zero, List.set_cons_succ, List.map_cons, List.map_nil, List.length_cons, List.length_nil, List.replicate_succ, List.replicate_zero, List.cons_append, List.nil_append, List.append_nil, Nat.reduceSub, Nat.reduceAdd, Nat.reduceEqDiff, decide_true, decide_false, if_true, if_false, ite_true, ite_false, reduceIte, Bool.false_eq_true, Nat.reduceLT, Nat.zero_lt_succ, Nat.lt_add_one, Nat.zero_add, true_and, and_true, or_true, true_or, false_and, and_false, false_or, or_false, Bool.not_true, Bool.not_false, Nat.succ_lt_succ_iff, Nat.add_lt_add_iff_right, beq_self_eq_true, String.reduceBEq, Bool.or_true, Bool.true_or, Bool.or_false, Bool.false_or, Bool.and_true, Bool.true_and, Bool.and_false, Bool.false_and, Int.cast_ofNat_Int, Int.reduceBEq, Int.reduceLT, Int.reduceLE, Int.reduceAdd, Int.reduceSub, Int.reduceMul, Int.reduceNeg, Int.natCast_zero, Int.natCast_one, sz_0, sz_1, sz_2, sz_3, sz_4, sz_5, sz_6, sz_7, sz_8, sz_9, sz_10, sz_11, sz_12, sz_13, sz_14, sz_15, sz_16, h']
theorem step_yes {n X : Str} {tk m : Int} {j2 j7 j8 : Option (Nat × D)} {F : List (Key × D)} {rows : List (Cl Str)} (h : getK found (.inr n) = some (.str X)) (hF : getK F (.inr X) = some (.int m)) (ht : getK (talksD ps) (.inr n) = some (.int tk)) (hl : F.length ≤ 1000) (hr : rows.length ≤ 1000) :
    for1 (gVar 2) bodyL (.str n) (envL w d ps aw found j2 F rows j7 j8 st) = .nx (envL w d ps aw found (some (0, .str n)) (putL (putL F (.inr X) (.int (m + if n ∈ aw then w else tk))) (.inr n) (.int (m + if n ∈ aw then w else tk))) (rows ++ [(m, m + (if n ∈ aw then w else tk), X, n, !decide (n ∈ aw))]) (some (0, .int m)) (some (0, .int (m + if n ∈ aw then w else tk))) st) := by
  have h' : (getK found (.inr n)).isSome = true := by rw [h]; rfl
  have hz1 : szOk F.length = true := szOk_of (by omega)
  have hz2 : ∀ k v, szOk (putL F k v).length = true := fun k v => szOk_of (by have := length_putL F k v; omega)
  have hz3 : szOk (rows.map callD).length = true := szOk_of (by rw [List.length_map]; omega)
  unfold bodyL
  by_cases ha : n ∈ aw
  · have ha' : decide (n ∈ aw) = true := decide_eq_true ha
    simp only [sSeq_eq, seq_nx', seq_rt', seq_bk', seq_ct', bind_ok', then_ok', opt_some', toB_ok', eCall_eq, back_ok', eCallL_eq, looksL_some, sNil, sBreak, sCont, sExpr, sRet, sRetN, sIf, sSet, sAsg, sPar2, par2K, sPar3, par3K, sFor, sAppend, sExtend, sDPut, storeK, sSubApp, eOf, eV, oV, eC, eVar, oVar, eTup, eLst, vsNil, vsCons, osNil, osCons, lsNil, lsCons, eOp, binD, cmpP, cm_eq_str, cm_ne_str, cm_eq_int, cm_ne_int, cm_lt, cm_le, cm_gt, cm_ge, cm_slt, cm_sle, cm_is, cm_isnot, cm_in_tup, cm_nin_tup, cm_in_lst, cm_nin_lst, cm_in_dct, cm_nin_dct, cm_in_str, cm_ne_nn, cm_eq_nn, Nat.le_refl, Nat.zero_le, Nat.reduceLeDiff, big_0, seqIx_0, List.eraseIdx_cons_zero, pop_last, drop_last, max2, eSortK, atI_0, atI_1, atI_2, atI_3, atI_4, tCmp, tChain2, eT, tAnd2, tOr2, tNot1, bOf, eAnd2, eOr2, eNot1, eIf, truD, tTru, eSub, S.flat, S.look, S.looks, S.deref, subD, pNone, pSome, eSlice, sliceD, eRev, eCallB, iVal, itemsD, iRange1, iRange2, iEnumM, gVar, gsNil, gsCons, gTupM, eLc, lc1, for1, tTrue, S.wipe, wipeE, ePop, ePopAt, S.isList, S.bound, eMove, capL, eIsi, D.isT, eDict0, eDisp, eDispL, eCell, psNil, psCons, D.key, isNon_non, isNon_int, isNon_str, isNon_tup, isNon_lst, isNon_bl, isNon_dct, Option.map, Option.bind, Option.isSome_some, Option.isSome_none, List.getElem?_cons_zero, List.getElem?_cons_succ, List.set_cons_zero, List.set_cons_succ, List.map_cons, List.map_nil, List.length_cons, List.length_nil, List.replicate_succ, List.replicate_zero, List.cons_append, List.nil_append, List.append_nil, Nat.reduceSub, Nat.reduceAdd, Nat.reduceEqDiff, decide_true, decide_false, if_true, if_false, ite_true, ite_false, reduceIte, Bool.false_eq_true, Nat.reduceLT, Nat.zero_lt_succ, Nat.lt_add_one, Nat.zero_add, true_and, and_true, or_true, true_or, false_and, and_false, false_or, or_false, Bool.not_true, Bool.not_false, Nat.succ_lt_succ_iff, Nat.add_lt_add_iff_right, beq_self_eq_true, String.reduceBEq, Bool.or_true, Bool.true_or, Bool.or_false, Bool.false_or, Bool.and_true, Bool.true_and, Bool.and_false, Bool.false_and, Int.cast_ofNat_Int, Int.reduceBEq, Int.reduceLT, Int.reduceLE, Int.reduceAdd, Int.reduceSub, Int.reduceMul, Int.reduceNeg, Int.natCast_zero, Int.natCast_one, sz_0, sz_1, sz_2, sz_3, sz_4, sz_5, sz_6, sz_7, sz_8, sz_9, sz_10, sz_11, sz_12, sz_13, sz_14, sz_15, sz_16, h', h, hF, ht, ha', hz1, hz2, hz3, ha, List.map_append, callD, envL]
  · have ha' : decide (n ∈ aw) = false := decide_eq_false ha
    simp only [sSeq_eq, seq_nx', seq_rt', seq_bk', seq_ct', bind_ok', then_ok', opt_some', toB_ok', eCall_eq, back_ok', eCallL_eq, looksL_some, sNil, sBreak, sCont, sExpr, sRet, sRetN, sIf, sSet, sAsg, sPar2, par2K, sPar3, par3K, sFor, sAppend, sExtend, sDPut, storeK, sSubApp, eOf, eV, oV, eC, eVar, oVar, eTup, eLst, vsNil, vsCons, osNil, osCons, lsNil, lsCons, eOp, binD, cmpP, cm_eq_str, cm_ne_str, cm_eq_int, cm_ne_int, cm_lt, cm_le, cm_gt, cm_ge, cm_slt, cm_sle, cm_is, cm_isnot, cm_in_tup, cm_nin_tup, cm_in_lst, cm_nin_lst, cm_in_dct, cm_nin_dct, cm_in_str, cm_ne_nn, cm_eq_nn, Nat.le_refl, Nat.zero_le, Nat.reduceLeDiff, big_0, seqIx_0, List.eraseIdx_cons_zero, pop_last, drop_last, max2, eSortK, atI_0, atI_1, atI_2, atI_3, atI_4, tCmp, tChain2, eT, tAnd2, tOr2, tNot1, bOf, eAnd2, eOr2, eNot1, eIf, truD, tTru, eSub, S.flat, S.look, S.looks, S.deref, subD, pNone, pSome, eSlice, sliceD, eRev, eCallB, iVal, itemsD, iRange1, iRange2, iEnumM, gVar, gsNil, gsCons, gTupM, eLc, lc1, for1, tTrue, S.wipe, wipeE, ePop, ePopAt, S.isList, S.bound, eMove, capL, eIsi, D.isT, eDict0, eDisp, eDispL, eCell, psNil, psCons, D.key, isNon_non, isNon_int, isNon_str, isNon_tup, isNon_lst, isNon_bl, isNon_dct, Option.map, Option.bind, Option.isSome_some, Option.isSome_none, List.getElem?_cons_zero, List.getElem?_cons_succ, List.set_cons_zero, List.set_cons_succ, List.map_cons, List.map_nil, List.length_cons, List.length_nil, List.replicate_succ, List.replicate_zero, List.cons_append, List.nil_append, List.append_nil, Nat.reduceSub, Nat.reduceAdd, Nat.reduceEqDiff, decide_true, decide_false, if_true, if_false, ite_true, ite_false, reduceIte, Bool.false_eq_true, Nat.reduceLT, Nat.zero_lt_succ, Nat.lt_add_one, Nat.zero_add, true_and, and_true, or_true, true_or, false_and, and_false, false_or, or_false, Bool.not_true, Bool.not_false, Nat.succ_lt_succ_iff, Nat.add_lt_add_iff_right, beq_self_eq_true, String.reduceBEq, Bool.or_true, Bool.true_or, Bool.or_false, Bool.false_or, Bool.and_true, Bool.true_and, Bool.and_false, Bool.false_and, Int.cast_ofNat_Int, Int.reduceBEq, Int.reduceLT, Int.reduceLE, Int.reduceAdd, Int.reduceSub, Int.reduceMul, Int.reduceNeg, Int.natCast_zero, Int.natCast_one, sz_0, sz_1, sz_2, sz_3, sz_4, sz_5, sz_6, sz_7, sz_8, sz_9, sz_10, sz_11, sz_12, sz_13, sz_14, sz_15, sz_16, h', h, hF, ht, ha', hz1, hz2, hz3, ha, List.map_append, callD, envL]
def Own2 (ps : List Pe) (c : Str) (t : T Str) : Prop := ∃ p ∈ ps, p.2.1 = c ∧ t = .node p.1 p.2.2 (forest ps p.1)
theorem own2_forest {b : Str} {ps : List Pe} (h : GoodP b ps) (x : Str) : ∀ t ∈ forest ps x, Own2 ps x t := by
  rw [forest_eq h]
  intro t ht
  obtain ⟨p, hp, rfl⟩ := List.mem_map.mp ht
  have := List.mem_filter.mp hp
  exact ⟨p, this.1, by simpa using this.2, rfl⟩
theorem found_at (nd : (ps.map (·.1)).Nodup) (fo : FoundOk d ps aw found ps) {p : Pe} (hp : p ∈ ps) {X : Str} {lev : Int} (hc : Climb aw ps p.2.1 1 X lev) : getK found (.inr p.1) = entry d found X lev := by
  obtain ⟨X', l', h1, _, h3⟩ := fo.at_ p hp
  obtain ⟨rfl, rfl⟩ := h1.det nd hc
  exact h3
def Called (d : Int) (found : List (Key × D)) (X : Str) (lev : Int) : Prop := (d = 0 ∨ lev ≤ d) ∧ (X = "" ∨ (getK found (.inr X)).isSome = true)
theorem climb_kid {p : Pe} (hp : p ∈ ps) {X : Str} {lev : Int} (hc : Climb aw ps p.2.1 1 X lev) : (p.1 ∈ aw → Climb aw ps p.1 1 X (lev + 1)) ∧ (p.1 ∉ aw → Climb aw ps p.1 1 p.1 1) :=
  ⟨fun ha => .up ha hp (hc.shift 1), fun ha => .stop ha⟩
mutual
theorem noT (ok : TreeOk w d ps) (fo : FoundOk d ps aw found ps) : ∀ (t : T Str) (c X : Str) (lev : Int) (F : List (Key × D)) (rows : List (Cl Str)) (j2 j7 j8 : Option (Nat × D)), Own2 ps c t → Climb aw ps c 1 X lev → ¬ Called d found X lev →
    ∃ j2', Runs (gVar 2) bodyL ((preT t).map D.str) (envL w d ps aw found j2 F rows j7 j8 st) (envL w d ps aw found j2' F rows j7 j8 st)
  | .node n tk ks, c, X, lev, F, rows, j2, j7, j8, own, hc, hn => by
    have nd := (List.nodup_cons.mp ok.good.nd).2
    obtain ⟨p, hp, rfl, e⟩ := own
    rw [T.node.injEq] at e
    obtain ⟨rfl, rfl, e3⟩ := e
    have hf := found_at nd fo hp hc
    have hf0 : getK found (.inr p.1) = none := by rw [hf]; exact if_neg hn
    have hk := climb_kid hp hc
    have hne : p.1 ≠ "" := fun z => (List.nodup_cons.mp ok.good.nd).1 (by rw [← z]; exact List.mem_map.mpr ⟨p, hp, rfl⟩)
    have kids : ∀ t ∈ ks, Own2 ps p.1 t := by rw [e3]; exact own2_forest ok.good p.1
    have : ∃ Y l, Climb aw ps p.1 1 Y l ∧ ¬ Called d found Y l := by
      by_cases ha : p.1 ∈ aw
      · exact ⟨X, lev + 1, hk.1 ha, fun z => hn ⟨z.1.imp id (by omega), z.2⟩⟩
      · refine ⟨p.1, 1, hk.2 ha, fun z => ?_⟩
        rcases z.2 with q | q
        · exact hne q
        · rw [hf0] at q; cases q
    obtain ⟨Y, l, h1, h2⟩ := this
    obtain ⟨j2', h3⟩ := noF ok fo ks p.1 Y l F rows (some (0, .str p.1)) j7 j8 kids h1 h2
    refine ⟨j2', ?_⟩
    rw [preT, List.map_cons]
    exact .cons (step_no hf0) h3
theorem noF (ok : TreeOk w d ps) (fo : FoundOk d ps aw found ps) : ∀ (ts : List (T Str)) (c X : Str) (lev : Int) (F : List (Key × D)) (rows : List (Cl Str)) (j2 j7 j8 : Option (Nat × D)), (∀ t ∈ ts, Own2 ps c t) → Climb aw ps c 1 X lev → ¬ Called d found X lev →
    ∃ j2', Runs (gVar 2) bodyL ((preF ts).map D.str) (envL w d ps aw found j2 F rows j7 j8 st) (envL w d ps aw found j2' F rows j7 j8 st)
  | [], c, X, lev, F, rows, j2, j7, j8, own, hc, hn => ⟨j2, by rw [preF]; exact .nil⟩
  | t :: ts, c, X, lev, F, rows, j2, j7, j8, own, hc, hn => by
    obtain ⟨j3, h1⟩ := noT ok fo t c X lev F rows j2 j7 j8 (own t (by simp)) hc hn
    obtain ⟨j4, h2⟩ := noF ok fo ts c X lev F rows j3 j7 j8 (fun t ht => own t (by simp [ht])) hc hn
    refine ⟨j4, ?_⟩
    rw [preF, List.map_append]
    exact h1.app h2
end
def rowsOf (d lev : Int) : Int := if d = 0 then 0 else d - lev + 1
mutual
theorem goT (ok : TreeOk w d ps) (fo : FoundOk d ps aw found ps) : ∀ (t : T Str) (c X : Str) (lev m : Int) (F : List (Key × D)) (rows : List (Cl Str)) (j2 j7 j8 : Option (Nat × D)), Own2 ps c t → Climb aw ps c 1 X lev → Called d found X lev → 1 ≤ lev → getK F (.inr X) = some (.int m) → (X :: preT t).Nodup → F.length + 2 * sizeT t ≤ 100 → rows.length + sizeT t ≤ 100 →
    ∃ F' j2' j7' j8', Runs (gVar 2) bodyL ((preT t).map D.str) (envL w d ps aw found j2 F rows j7 j8 st) (envL w d ps aw found j2' F' (rows ++ (ringT (awB aw) w d X (rowsOf d lev) m t).1) j7' j8' st) ∧ getK F' (.inr X) = some (.int (ringT (awB aw) w d X (rowsOf d lev) m t).2) ∧ (∀ y, y ∉ X :: preT t → getK F' (.inr y) = getK F (.inr y)) ∧ F'.length ≤ F.length + 2 * sizeT t
  | .node n tk ks, c, X, lev, m, F, rows, j2, j7, j8, own, hc, hcd, hlev, hF, hnd, hl1, hl2 => by
    have nd := (List.nodup_cons.mp ok.good.nd).2
    obtain ⟨p, hp, rfl, e⟩ := own
    rw [T.node.injEq] at e
    obtain ⟨rfl, rfl, e3⟩ := e
    have hf := found_at nd fo hp hc
    have hf0 : getK found (.inr p.1) = some (.str X) := by rw [hf]; exact if_pos hcd
    have hk := climb_kid hp hc
    have hd := ok.d
    have kids : ∀ t ∈ ks, Own2 ps p.1 t := by rw [e3]; exact own2_forest ok.good p.1
    have ht := talks_get nd hp
    have hnd : (X :: p.1 :: preF ks).Nodup := by rw [preT] at hnd; exact hnd
    have hX : X ≠ p.1 := fun z => (List.nodup_cons.mp hnd).1 (by simp [z])
    have ndk : (p.1 :: preF ks).Nodup := (List.nodup_cons.mp hnd).2
    have ndx : (X :: preF ks).Nodup := List.nodup_cons.mpr ⟨fun z => (List.nodup_cons.mp hnd).1 (by simp [z]), (List.nodup_cons.mp ndk).2⟩
    rw [sizeT] at hl1 hl2
    have hs := step_yes (w := w) (d := d) (ps := ps) (aw := aw) (st := st) (j2 := j2) (j7 := j7) (j8 := j8) (rows := rows) hf0 hF ht (by omega) (by omega)
    have l1 := length_putL F (.inr X) (.int (m + if p.1 ∈ aw then w else p.2.2))
    have l2 := length_putL (putL F (.inr X) (.int (m + if p.1 ∈ aw then w else p.2.2))) (.inr p.1) (.int (m + if p.1 ∈ aw then w else p.2.2))
    have gX : getK (putL (putL F (.inr X) (.int (m + if p.1 ∈ aw then w else p.2.2))) (.inr p.1) (.int (m + if p.1 ∈ aw then w else p.2.2))) (.inr X) = some (.int (m + if p.1 ∈ aw then w else p.2.2)) := by
      rw [getK_putL, if_neg (fun z => hX (Sum.inr.inj z)), getK_putL, if_pos rfl]
    have gn : getK (putL (putL F (.inr X) (.int (m + if p.1 ∈ aw then w else p.2.2))) (.inr p.1) (.int (m + if p.1 ∈ aw then w else p.2.2))) (.inr p.1) = some (.int (m + if p.1 ∈ aw then w else p.2.2)) := by
      rw [getK_putL, if_pos rfl]
    have gy : ∀ y, y ≠ X → y ≠ p.1 → getK (putL (putL F (.inr X) (.int (m + if p.1 ∈ aw then w else p.2.2))) (.inr p.1) (.int (m + if p.1 ∈ aw then w else p.2.2))) (.inr y) = getK F (.inr y) := fun y h1 h2 => by
      rw [getK_putL, if_neg (fun z => h2 (Sum.inr.inj z)), getK_putL, if_neg (fun z => h1 (Sum.inr.inj z))]
    generalize putL (putL F (.inr X) (.int (m + if p.1 ∈ aw then w else p.2.2))) (.inr p.1) (.int (m + if p.1 ∈ aw then w else p.2.2)) = F1 at *
    rw [preT, List.map_cons, sizeT]
    by_cases ha : p.1 ∈ aw
    · have ha' : awB aw p.1 = true := decide_eq_true ha
      rw [if_pos ha] at hs gX gn
      by_cases hr : rowsOf d lev = 1
      · -- the children are too far
        have hun : ¬ Called d found X (lev + 1) := fun z => by
          unfold rowsOf at hr
          rcases z.1 with q | q
          · rw [if_pos q] at hr; omega
          · split at hr <;> omega
        obtain ⟨j2', h3⟩ := noF (st := st) ok fo ks p.1 X (lev + 1) F1 (rows ++ [(m, m + w, X, p.1, !decide (p.1 ∈ aw))]) (some (0, .str p.1)) (some (0, .int m)) (some (0, .int (m + w))) kids (hk.1 ha) hun
        rw [hr, ringT_away1 ha']
        refine ⟨F1, j2', some (0, .int m), some (0, .int (m + w)), .cons hs ?_, gX, fun y hy => ?_, by omega⟩
        · rw [show (false : Bool) = !decide (p.1 ∈ aw) by rw [decide_eq_true ha]; rfl]; exact h3
        · exact gy y (fun z => hy (by simp [z])) (fun z => hy (by simp [z]))
      · rw [ringT_away ha' hr]
        have hr2 : rowsOf d (lev + 1) = max 0 (rowsOf d lev - 1) := by
          unfold rowsOf at hr ⊢
          rcases hcd.1 with q | q
          · rw [if_pos q, if_pos q]; omega
          · split at hr
            · rename_i q2; rw [if_pos q2, if_pos q2]; omega
            · rename_i q2; rw [if_neg q2]; rw [if_neg q2]; omega
        have hcd2 : Called d found X (lev + 1) := by
          refine ⟨?_, hcd.2⟩
          unfold rowsOf at hr
          rcases hcd.1 with q | q
          · exact .inl q
          · split at hr
            · rename_i q2; exact .inl q2
            · right; omega
        obtain ⟨F', j2', j7', j8', r1, r2, r3, r4⟩ := goF ok fo ks p.1 X (lev + 1) (m + w) F1 (rows ++ [(m, m + w, X, p.1, !decide (p.1 ∈ aw))]) (some (0, .str p.1)) (some (0, .int m)) (some (0, .int (m + w))) kids (hk.1 ha) hcd2 (by omega) gX ndx (by omega) (by rw [List.length_append, List.length_singleton]; omega)
        rw [hr2] at r1 r2
        refine ⟨F', j2', j7', j8', .cons hs ?_, r2, fun y hy => ?_, by omega⟩
        · rw [show (false : Bool) = !decide (p.1 ∈ aw) by rw [decide_eq_true ha]; rfl]
          simpa using r1
        · rw [r3 y (fun z => hy (by rcases List.mem_cons.mp z with q | q <;> simp [q])), gy y (fun z => hy (by simp [z])) (fun z => hy (by simp [z]))]
    · have ha' : awB aw p.1 = false := decide_eq_false ha
      rw [if_neg ha] at hs gX gn
      rw [ringT_there ha']
      have hcd2 : Called d found p.1 1 := ⟨by omega, .inr (by rw [hf0]; rfl)⟩
      have hr2 : rowsOf d 1 = d := by unfold rowsOf; split <;> omega
      obtain ⟨F', j2', j7', j8', r1, r2, r3, r4⟩ := goF ok fo ks p.1 p.1 1 (m + p.2.2) F1 (rows ++ [(m, m + p.2.2, X, p.1, !decide (p.1 ∈ aw))]) (some (0, .str p.1)) (some (0, .int m)) (some (0, .int (m + p.2.2))) kids (hk.2 ha) hcd2 (by omega) gn ndk (by omega) (by rw [List.length_append, List.length_singleton]; omega)
      rw [hr2] at r1 r2
      refine ⟨F', j2', j7', j8', .cons hs ?_, ?_, fun y hy => ?_, by omega⟩
      · rw [show (true : Bool) = !decide (p.1 ∈ aw) by rw [decide_eq_false ha]; rfl]
        simpa using r1
      · rw [r3 X (fun z => by rcases List.mem_cons.mp z with q | q; exact hX q; exact (List.nodup_cons.mp ndx).1 q), gX]
      · rw [r3 y (fun z => hy (by rcases List.mem_cons.mp z with q | q <;> simp [q])), gy y (fun z => hy (by simp [z])) (fun z => hy (by simp [z]))]
theorem goF (ok : TreeOk w d ps) (fo : FoundOk d ps aw found ps) : ∀ (ts : List (T Str)) (c X : Str) (lev m : Int) (F : List (Key × D)) (rows : List (Cl Str)) (j2 j7 j8 : Option (Nat × D)), (∀ t ∈ ts, Own2 ps c t) → Climb aw ps c 1 X lev → Called d found X lev → 1 ≤ lev → getK F (.inr X) = some (.int m) → (X :: preF ts).Nodup → F.length + 2 * sizeF ts ≤ 100 → rows.length + sizeF ts ≤ 100 →
    ∃ F' j2' j7' j8', Runs (gVar 2) bodyL ((preF ts).map D.str) (envL w d ps aw found j2 F rows j7 j8 st) (envL w d ps aw found j2' F' (rows ++ (ringF (awB aw) w d X (rowsOf d lev) m ts).1) j7' j8' st) ∧ getK F' (.inr X) = some (.int (ringF (awB aw) w d X (rowsOf d lev) m ts).2) ∧ (∀ y, y ∉ X :: preF ts → getK F' (.inr y) = getK F (.inr y)) ∧ F'.length ≤ F.length + 2 * sizeF ts
  | [], c, X, lev, m, F, rows, j2, j7, j8, own, hc, hcd, hlev, hF, hnd, hl1, hl2 => by
    rw [ringF, preF, sizeF]
    exact ⟨F, j2, j7, j8, by rw [List.append_nil]; exact .nil, hF, fun _ _ => rfl, by omega⟩
  | t :: ts, c, X, lev, m, F, rows, j2, j7, j8, own, hc, hcd, hlev, hF, hnd, hl1, hl2 => by
    have hnd : (X :: (preT t ++ preF ts)).Nodup := by rw [preF] at hnd; exact hnd
    have nd1 : (X :: preT t).Nodup := by
      rw [List.nodup_cons, List.nodup_append] at hnd
      exact List.nodup_cons.mpr ⟨fun z => hnd.1 (List.mem_append.mpr (.inl z)), hnd.2.1⟩
    have nd2 : (X :: preF ts).Nodup := by
      rw [List.nodup_cons, List.nodup_append] at hnd
      exact List.nodup_cons.mpr ⟨fun z => hnd.1 (List.mem_append.mpr (.inr z)), hnd.2.2.1⟩
    rw [sizeF_cons] at hl1 hl2
    have hlen := lenT (aw := awB aw) (wait := w) (deep := d) t X (rowsOf d lev) m
    obtain ⟨F1, k2, k7, k8, a1, a2, a3, a4⟩ := goT ok fo t c X lev m F rows j2 j7 j8 (own t (by simp)) hc hcd hlev hF nd1 (by omega) (by omega)
    obtain ⟨F2, i2, i7, i8, b1, b2, b3, b4⟩ := goF ok fo ts c X lev (ringT (awB aw) w d X (rowsOf d lev) m t).2 F1 (rows ++ (ringT (awB aw) w d X (rowsOf d lev) m t).1) k2 k7 k8 (fun t ht => own t (by simp [ht])) hc hcd hlev a2 nd2 (by omega) (by rw [List.length_append]; omega)
    rw [ringF_cons, preF, sizeF_cons, List.map_append]
    refine ⟨F2, i2, i7, i8, ?_, b2, fun y hy => ?_, by omega⟩
    · have := a1.app b1
      simpa using this
    · rw [b3 y (fun z => hy (by rcases List.mem_cons.mp z with q | q <;> simp [q])), a3 y (fun z => hy (by rcases List.mem_cons.mp z with q | q <;> simp [q]))]
end
end
def LawCallsOk (f : List D → S → R (Nat × D)) : Prop := ∀ (w d : Int) (ps : List Pe) (aw : List Str) (st : St), TreeOk w d ps → AwayOk ps aw → f [treeD w d ps, namesD aw] ⟨[], st⟩ = .ok (1, .lst (sortC (total w d ps aw))) ⟨[], st⟩
theorem law_calls_ok (C : Call) (h1 : LawCallersOk (C "_law_callers")) (h2 : LawWalkOk (C "_law_walk")) : LawCallsOk (f_law_calls C) := by
  intro w d ps aw st ok ao
  have nd := ok.good.nd
  have ndn := (List.nodup_cons.mp nd).2
  have hb : ("" : Str) ∉ aw := fun z => (List.nodup_cons.mp nd).1 (ao.mem _ z)
  have hn := ok.n
  have hd := ok.d
  obtain ⟨found, e1, fo⟩ := h1 w d ps aw st ok ao
  have e2 := h2 w d ps st ok
  refine run_eq ?_
  unfold m_law_calls
  unfold treeD namesD at *
  have key : ∀ z3, lcM [2, 9, 10] (gTupM 3 (gsCons (gVar 2) (gsCons (gVar 9) (gsCons (gVar 10) gsNil)))) tTrue (eTup (vsCons (eVar 2) (vsCons (eVar 10) vsNil))) (ps.map pD) []
      ⟨[some (0, D.tup [.int w, .int d, .tup (ps.map pD)]), some (0, .tup (aw.map D.str)), none, z3, none, none, none, none, none, none, none], st⟩ = .ok (ps.map fun p => D.tup [.str p.1, .int p.2.2]) ⟨[some (0, D.tup [.int w, .int d, .tup (ps.map pD)]), some (0, .tup (aw.map D.str)), none, z3, none, none, none, none, none, none, none], st⟩ := fun z3 =>
    lcM_map pD _ ps (by omega) fun p _ => by simp only [sSeq_eq, seq_nx', seq_rt', seq_bk', seq_ct', bind_ok', then_ok', opt_some', toB_ok', eCall_eq, back_ok', eCallL_eq, looksL_some, sNil, sBreak, sCont, sExpr, sRet, sRetN, sIf, sSet, sAsg, sPar2, par2K, sPar3, par3K, sFor, sAppend, sExtend, sDPut, storeK, sSubApp, eOf, eV, oV, eC, eVar, oVar, eTup, eLst, vsNil, vsCons, osNil, osCons, lsNil, lsCons, eOp, binD, cmpP, cm_eq_str, cm_ne_str, cm_eq_int, cm_ne_int, cm_lt, cm_le, cm_gt, cm_ge, cm_slt, cm_sle, cm_is, cm_isnot, cm_in_tup, cm_nin_tup, cm_in_lst, cm_nin_lst, cm_in_dct, cm_nin_dct, cm_in_str, cm_ne_nn, cm_eq_nn, Nat.le_refl, Nat.zero_le, Nat.reduceLeDiff, big_0, seqIx_0, List.eraseIdx_cons_zero, pop_last, drop_last, max2, eSortK, atI_0, atI_1, atI_2, atI_3, atI_4, tCmp, tChain2, eT, tAnd2, tOr2, tNot1, bOf, eAnd2, eOr2, eNot1, eIf, truD, tTru, eSub, S.flat, S.look, S.looks, S.deref, subD, pNone, pSome, eSlice, sliceD, eRev, eCallB, iVal, itemsD, iRange1, iRange2, iEnumM, gVar, gsNil, gsCons, gTupM, eLc, lc1, for1, tTrue, S.wipe, wipeE, ePop, ePopAt, S.isList, S.bound, eMove, capL, eIsi, D.isT, eDict0, eDisp, eDispL, eCell, psNil, psCons, D.key, isNon_non, isNon_int, isNon_str, isNon_tup, isNon_lst, isNon_bl, isNon_dct, Option.map, Option.bind, Option.isSome_some, Option.isSome_none, List.getElem?_cons_zero, List.getElem?_cons_succ, List.set_cons_zero, List.set_cons_succ, List.map_cons, List.map_nil, List.length_cons, List.length_nil, List.replicate_succ, List.replicate_zero, List.cons_append, List.nil_append, List.append_nil, Nat.reduceSub, Nat.reduceAdd, Nat.reduceEqDiff, decide_true, decide_false, if_true, if_false, ite_true, ite_false, reduceIte, Bool.false_eq_true, Nat.reduceLT, Nat.zero_lt_succ, Nat.lt_add_one, Nat.zero_add, true_and, and_true, or_true, true_or, false_and, and_false, false_or, or_false, Bool.not_true, Bool.not_false, Nat.succ_lt_succ_iff, Nat.add_lt_add_iff_right, beq_self_eq_true, String.reduceBEq, Bool.or_true, Bool.true_or, Bool.or_false, Bool.false_or, Bool.and_true, Bool.true_and, Bool.and_false, Bool.false_and, Int.cast_ofNat_Int, Int.reduceBEq, Int.reduceLT, Int.reduceLE, Int.reduceAdd, Int.reduceSub, Int.reduceMul, Int.reduceNeg, Int.natCast_zero, Int.natCast_one, sz_0, sz_1, sz_2, sz_3, sz_4, sz_5, sz_6, sz_7, sz_8, sz_9, sz_10, sz_11, sz_12, sz_13, sz_14, sz_15, sz_16, pD]
  simp only [sSeq_eq, seq_nx', seq_rt', seq_bk', seq_ct', bind_ok', then_ok', opt_some', toB_ok', eCall_eq, back_ok', eCallL_eq, looksL_some, sNil, sBreak, sCont, sExpr, sRet, sRetN, sIf, sSet, sAsg, sPar2, par2K, sPar3, par3K, sFor, sAppend, sExtend, sDPut, storeK, sSubApp, eOf, eV, oV, eC, eVar, oVar, eTup, eLst, vsNil, vsCons, osNil, osCons, lsNil, lsCons, eOp, binD, cmpP, cm_eq_str, cm_ne_str, cm_eq_int, cm_ne_int, cm_lt, cm_le, cm_gt, cm_ge, cm_slt, cm_sle, cm_is, cm_isnot, cm_in_tup, cm_nin_tup, cm_in_lst, cm_nin_lst, cm_in_dct, cm_nin_dct, cm_in_str, cm_ne_nn, cm_eq_nn, Nat.le_refl, Nat.zero_le, Nat.reduceLeDiff, big_0, seqIx_0, List.eraseIdx_cons_zero, pop_last, drop_last, max2, eSortK, atI_0, atI_1, atI_2, atI_3, atI_4, tCmp, tChain2, eT, tAnd2, tOr2, tNot1, bOf, eAnd2, eOr2, eNot1, eIf, truD, tTru, eSub, S.flat, S.look, S.looks, S.deref, subD, pNone, pSome, eSlice, sliceD, eRev, eCallB, iVal, itemsD, iRange1, iRange2, iEnumM, gVar, gsNil, gsCons, gTupM, eLc, lc1, for1, tTrue, S.wipe, wipeE, ePop, ePopAt, S.isList, S.bound, eMove, capL, eIsi, D.isT, eDict0, eDisp, eDispL, eCell, psNil, psCons, D.key, isNon_non, isNon_int, isNon_str, isNon_tup, isNon_lst, isNon_bl, isNon_dct, Option.map, Option.bind, Option.isSome_some, Option.isSome_none, List.getElem?_cons_zero, List.getElem?_cons_succ, List.set_cons_zero, List.set_cons_succ, List.map_cons, List.map_nil, List.length_cons, List.length_nil, List.replicate_succ, List.replicate_zero, List.cons_append, List.nil_append, List.append_nil, Nat.reduceSub, Nat.reduceAdd, Nat.reduceEqDiff, decide_true, decide_false, if_true, if_false, ite_true, ite_false, reduceIte, Bool.false_eq_true, Nat.reduceLT, Nat.zero_lt_succ, Nat.lt_add_one, Nat.zero_add, true_and, and_true, or_true, true_or, false_and, and_false, false_or, or_false, Bool.not_true, Bool.not_false, Nat.succ_lt_succ_iff, Nat.add_lt_add_iff_right, beq_self_eq_true, String.reduceBEq, Bool.or_true, Bool.true_or, Bool.or_false, Bool.false_or, Bool.and_true, Bool.true_and, Bool.and_false, Bool.false_and, Int.cast_ofNat_Int, Int.reduceBEq, Int.reduceLT, Int.reduceLE, Int.reduceAdd, Int.reduceSub, Int.reduceMul, Int.reduceNeg, Int.natCast_zero, Int.natCast_one, sz_0, sz_1, sz_2, sz_3, sz_4, sz_5, sz_6, sz_7, sz_8, sz_9, sz_10, sz_11, sz_12, sz_13, sz_14, sz_15, sz_16, e1, e2, key, talks_dict ndn 0 (by omega)]
  have hsz := ok.good.size
  obtain ⟨F', j2, j7, j8, r1, r2, r3, r4⟩ := goF (st := st) ok fo (forest ps (("" : Str))) (("" : Str)) (("" : Str)) 1 0 [(Sum.inr (("" : Str)), .int 0)] [] none none none (own2_forest ok.good _) (.stop hb) ⟨by omega, .inl rfl⟩ (by omega) (by rw [gk_cons, if_pos rfl]) ok.good.pre_nd (by rw [hsz]; simp only [List.length_singleton]; omega) (by rw [hsz]; simp only [List.length_nil]; omega)
  have hr2 : rowsOf d 1 = d := by unfold rowsOf; split <;> omega
  rw [hr2, List.nil_append] at r1
  have r5 := r1.forM
  unfold bodyL at r5
  have hm : mergeL [] [((Sum.inr (("" : Str)) : Key), D.int 0)] = [((Sum.inr (("" : Str)) : Key), D.int 0)] := rfl
  rw [hm]
  have e3 : ((preF (forest ps (("" : Str)))).map D.str) = ((preF (forest ps (("" : Str)))).map D.str) := rfl
  simp only [envL, List.map_nil] at r5
  rw [r5]
  have hlen : (total w d ps aw).length ≤ 1000000 := by
    have h2 := lenF (aw := awB aw) (wait := w) (deep := d) (forest ps (("" : Str))) (("" : Str)) d 0
    unfold total; omega
  have hk := sortKOk_calls _ hlen
  unfold total at hk
  simp only [sSeq_eq, seq_nx', seq_rt', seq_bk', seq_ct', bind_ok', then_ok', opt_some', toB_ok', eCall_eq, back_ok', eCallL_eq, looksL_some, sNil, sBreak, sCont, sExpr, sRet, sRetN, sIf, sSet, sAsg, sPar2, par2K, sPar3, par3K, sFor, sAppend, sExtend, sDPut, storeK, sSubApp, eOf, eV, oV, eC, eVar, oVar, eTup, eLst, vsNil, vsCons, osNil, osCons, lsNil, lsCons, eOp, binD, cmpP, cm_eq_str, cm_ne_str, cm_eq_int, cm_ne_int, cm_lt, cm_le, cm_gt, cm_ge, cm_slt, cm_sle, cm_is, cm_isnot, cm_in_tup, cm_nin_tup, cm_in_lst, cm_nin_lst, cm_in_dct, cm_nin_dct, cm_in_str, cm_ne_nn, cm_eq_nn, Nat.le_refl, Nat.zero_le, Nat.reduceLeDiff, big_0, seqIx_0, List.eraseIdx_cons_zero, pop_last, drop_last, max2, eSortK, atI_0, atI_1, atI_2, atI_3, atI_4, tCmp, tChain2, eT, tAnd2, tOr2, tNot1, bOf, eAnd2, eOr2, eNot1, eIf, truD, tTru, eSub, S.flat, S.look, S.looks, S.deref, subD, pNone, pSome, eSlice, sliceD, eRev, eCallB, iVal, itemsD, iRange1, iRange2, iEnumM, gVar, gsNil, gsCons, gTupM, eLc, lc1, for1, tTrue, S.wipe, wipeE, ePop, ePopAt, S.isList, S.bound, eMove, capL, eIsi, D.isT, eDict0, eDisp, eDispL, eCell, psNil, psCons, D.key, isNon_non, isNon_int, isNon_str, isNon_tup, isNon_lst, isNon_bl, isNon_dct, Option.map, Option.bind, Option.isSome_some, Option.isSome_none, List.getElem?_cons_zero, List.getElem?_cons_succ, List.set_cons_zero, List.set_cons_succ, List.map_cons, List.map_nil, List.length_cons, List.length_nil, List.replicate_succ, List.replicate_zero, List.cons_append, List.nil_append, List.append_nil, Nat.reduceSub, Nat.reduceAdd, Nat.reduceEqDiff, decide_true, decide_false, if_true, if_false, ite_true, ite_false, reduceIte, Bool.false_eq_true, Nat.reduceLT, Nat.zero_lt_succ, Nat.lt_add_one, Nat.zero_add, true_and, and_true, or_true, true_or, false_and, and_false, false_or, or_false, Bool.not_true, Bool.not_false, Nat.succ_lt_succ_iff, Nat.add_lt_add_iff_right, beq_self_eq_true, String.reduceBEq, Bool.or_true, Bool.true_or, Bool.or_false, Bool.false_or, Bool.and_true, Bool.true_and, Bool.and_false, Bool.false_and, Int.cast_ofNat_Int, Int.reduceBEq, Int.reduceLT, Int.reduceLE, Int.reduceAdd, Int.reduceSub, Int.reduceMul, Int.reduceNeg, Int.natCast_zero, Int.natCast_one, sz_0, sz_1, sz_2, sz_3, sz_4, sz_5, sz_6, sz_7, sz_8, sz_9, sz_10, sz_11, sz_12, sz_13, sz_14, sz_15, sz_16, hk]
  exact ⟨rfl, rfl⟩
end G
-- part Sp7
set_option Elab.async false
set_option linter.all false
set_option maxRecDepth 100000
set_option maxHeartbeats 4000000
set_option autoImplicit false
/-! Sp7: draws. -/
namespace G
open PySem PySem.Spec Rd L2 Ring
def drawK (a c t : Int) : List (Key × D) := [((Sum.inr (("left" : Str)) : Key), .int a), (Sum.inr (("cell" : Str)), .int c), (Sum.inr (("turns" : Str)), .int t)]
def drawD (a c t : Int) : Nat × D := (1, .dct (drawK a c t))
theorem dr_left (a c t : Int) : getK (drawK a c t) (.inr (("left" : Str))) = some (.int a) := rfl
theorem dr_cell (a c t : Int) : getK (drawK a c t) (.inr (("cell" : Str))) = some (.int c) := rfl
theorem dr_turns (a c t : Int) : getK (drawK a c t) (.inr (("turns" : Str))) = some (.int t) := rfl
theorem put_left (a c t v : Int) : putL (drawK a c t) (.inr (("left" : Str))) (.int v) = drawK v c t := rfl
theorem put_turns (a c t v : Int) : putL (drawK a c t) (.inr (("turns" : Str))) (.int v) = drawK a c v := rfl
theorem dr_len (a c t : Int) : szOk (drawK a c t).length = true := rfl
theorem dr_flat (a c t : Int) : flatC (1, .dct (drawK a c t)) = true := rfl
structure Draw (n : Nat) (b : Int) (st : St) : Prop where
  at_ : ∃ a c t : Int, st[n]? = some (1, .dct (drawK a c t)) ∧ 0 ≤ t ∧ t ≤ b
  flat : st.all flatC = true
theorem all_set {st : St} {n : Nat} {x : Nat × D} (h : st.all flatC = true) (hx : flatC x = true) : (st.set n x).all flatC = true := by
  rw [List.all_eq_true] at *
  intro y hy
  rcases List.mem_or_eq_of_mem_set hy with z | z
  · exact h y z
  · rw [z]; exact hx
theorem Draw.mono {n : Nat} {b b' : Int} {st : St} (h : Draw n b st) (hb : b ≤ b') : Draw n b' st := by
  obtain ⟨⟨a, c, t, h1, h2, h3⟩, f⟩ := h
  exact ⟨⟨a, c, t, h1, h2, by omega⟩, f⟩
def MixedOk (f : List D → S → R (Nat × D)) : Prop := ∀ (c k : Int) (st : St), 0 ≤ k → k ≤ 2199023255552 → ∃ v : Int, f [.int c, .int k] ⟨[], st⟩ = .ok (0, .int v) ⟨[], st⟩
theorem law_mixed_ok (C : Call) : MixedOk (f_law_mixed C) := by
  intro c k st h0 h1
  have main : Fin (fun p st' => ∃ v : Int, p = (0, .int v) ∧ st' = st) (m_law_mixed C ⟨[D.int c, .int k].map (fun d => some (0, d)) ++ List.replicate (3 - [D.int c, .int k].length) none, st⟩) := by
    unfold m_law_mixed
    have a1 : (0 : Int) < 4 := by omega
    have a2 : -(2 ^ 64 : Int) < 7919 := by decide
    have a3 : (7919 : Int) < 2 ^ 64 := by decide
    have a4 : (0 : Int) < 2147483647 := by omega
    have a5 : -(2 ^ 64 : Int) < 48271 := by decide
    have a6 : (48271 : Int) < 2 ^ 64 := by decide
    obtain ⟨q, hq, eq⟩ : ∃ q : Int, (0 < q ∧ q < 2147483648) ∧ atI [D.int 1000000007, D.int 998244353, D.int 2147483629, D.int 1000000009] (k % 4) = some (.int q) := by
      obtain ⟨r, hr⟩ : ∃ r, r = k % 4 := ⟨_, rfl⟩
      rw [← hr]
      have : r = 0 ∨ r = 1 ∨ r = 2 ∨ r = 3 := by omega
      rcases this with rfl | rfl | rfl | rfl
      · exact ⟨1000000007, by omega, atI_0 _ _⟩
      · exact ⟨998244353, by omega, atI_1 _ _ _⟩
      · exact ⟨2147483629, by omega, atI_2 _ _ _ _⟩
      · exact ⟨1000000009, by omega, atI_3 _ _ _ _ _⟩
    have hq0 := hq.1
    have b1 := Int.emod_nonneg c (show q ≠ 0 by omega)
    have b2 := Int.emod_lt_of_pos c hq0
    have c1 : -(2 ^ 64 : Int) < c % q + 7919 * k + 13 := by omega
    have c2 : c % q + 7919 * k + 13 < (2 ^ 64 : Int) := by omega
    simp only [sSeq_eq, seq_nx', seq_rt', seq_bk', seq_ct', bind_ok', then_ok', opt_some', toB_ok', eCall_eq, back_ok', eCallL_eq, looksL_some, sNil, sBreak, sCont, sExpr, sRet, sRetN, sIf, sSet, sAsg, sPar2, par2K, sPar3, par3K, sFor, sAppend, sExtend, sDPut, storeK, sSubApp, eOf, eV, oV, eC, eVar, oVar, eTup, eLst, vsNil, vsCons, osNil, osCons, lsNil, lsCons, eOp, binD, cmpP, cm_eq_str, cm_ne_str, cm_eq_int, cm_ne_int, cm_lt, cm_le, cm_gt, cm_ge, cm_slt, cm_sle, cm_is, cm_isnot, cm_in_tup, cm_nin_tup, cm_in_lst, cm_nin_lst, cm_in_dct, cm_nin_dct, cm_in_str, cm_ne_nn, cm_eq_nn, Nat.le_refl, Nat.zero_le, Nat.reduceLeDiff, big_0, seqIx_0, List.eraseIdx_cons_zero, pop_last, drop_last, max2, eSortK, atI_0, atI_1, atI_2, atI_3, atI_4, tCmp, tChain2, eT, tAnd2, tOr2, tNot1, bOf, eAnd2, eOr2, eNot1, eIf, truD, tTru, eSub, S.flat, S.look, S.looks, S.deref, subD, pNone, pSome, eSlice, sliceD, eRev, eCallB, iVal, itemsD, iRange1, iRange2, iEnumM, gVar, gsNil, gsCons, gTupM, eLc, lc1, for1, tTrue, S.wipe, wipeE, ePop, ePopAt, S.isList, S.bound, eMove, capL, eIsi, D.isT, eDict0, eDisp, eDispL, eCell, psNil, psCons, D.key, isNon_non, isNon_int, isNon_str, isNon_tup, isNon_lst, isNon_bl, isNon_dct, Option.map, Option.bind, Option.isSome_some, Option.isSome_none, List.getElem?_cons_zero, List.getElem?_cons_succ, List.set_cons_zero, List.set_cons_succ, List.map_cons, List.map_nil, List.length_cons, List.length_nil, List.replicate_succ, List.replicate_zero, List.cons_append, List.nil_append, List.append_nil, Nat.reduceSub, Nat.reduceAdd, Nat.reduceEqDiff, decide_true, decide_false, if_true, if_false, ite_true, ite_false, reduceIte, Bool.false_eq_true, Nat.reduceLT, Nat.zero_lt_succ, Nat.lt_add_one, Nat.zero_add, true_and, and_true, or_true, true_or, false_and, and_false, false_or, or_false, Bool.not_true, Bool.not_false, Nat.succ_lt_succ_iff, Nat.add_lt_add_iff_right, beq_self_eq_true, String.reduceBEq, Bool.or_true, Bool.true_or, Bool.or_false, Bool.false_or, Bool.and_true, Bool.true_and, Bool.and_false, Bool.false_and, Int.cast_ofNat_Int, Int.reduceBEq, Int.reduceLT, Int.reduceLE, Int.reduceAdd, Int.reduceSub, Int.reduceMul, Int.reduceNeg, Int.natCast_zero, Int.natCast_one, sz_0, sz_1, sz_2, sz_3, sz_4, sz_5, sz_6, sz_7, sz_8, sz_9, sz_10, sz_11, sz_12, sz_13, sz_14, sz_15, sz_16, a1, a2, a3, a4, a5, a6, eq, hq0, c1, c2]
    exact ⟨_, rfl, rfl⟩
  obtain ⟨p, st', e, v, rfl, rfl⟩ := run_fin main
  exact ⟨v, e⟩
def DigitOk (f : List D → S → R (Nat × D)) : Prop := ∀ (n : Nat) (b many : Int) (st : St), Draw n b st → b ≤ 1099511627776 → 0 < many → many < 1073741824 → ∃ (v : Int) (st' : St), f [.cell n, .int many] ⟨[], st⟩ = .ok (0, .int v) ⟨[], st'⟩ ∧ 0 ≤ v ∧ v < many ∧ Draw n (b + 4) st' ∧ st'.length = st.length
theorem law_digit_ok (C : Call) (hm : MixedOk (C "_law_mixed")) : DigitOk (f_law_digit C) := by
  intro n b many st dr hb h0 h1
  obtain ⟨⟨a, c, t, hst, ht0, htb⟩, hfl⟩ := dr
  have hnl : n < st.length := (List.getElem?_eq_some_iff.mp hst).1
  have main : Fin (fun p st' => ∃ v : Int, p = (0, .int v) ∧ 0 ≤ v ∧ v < many ∧ Draw n (b + 4) st' ∧ st'.length = st.length) (m_law_digit C ⟨[D.cell n, .int many].map (fun d => some (0, d)) ++ List.replicate (4 - [D.cell n, .int many].length) none, st⟩) := by
    -- behind the if
    obtain ⟨rs, hrs⟩ : ∃ rs : Sm, rs = (sSeq (sSet 3 (eBin .Mod (oV (eSub (oVar 0) (oV (eC (.str "left"))))) (oVar 1))) (sSeq (sDPut 0 (oV (eC (.str "left"))) (eBin .FloorDiv (oV (eSub (oVar 0) (oV (eC (.str "left"))))) (oVar 1))) (sSeq (sRet (eMove 3)) sNil))) := ⟨_, rfl⟩
    have rest : ∀ (a t : Int) (st1 : St) (j2 : Option (Nat × D)), st1[n]? = some (1, .dct (drawK a c t)) → 0 ≤ t → t ≤ b + 4 → st1.length = st.length → st1.all flatC = true → Fin (fun p st' => ∃ v : Int, p = (0, .int v) ∧ 0 ≤ v ∧ v < many ∧ Draw n (b + 4) st' ∧ st'.length = st.length)
        (rs ⟨[some (0, .cell n), some (0, .int many), j2, none], st1⟩) := by
      intro a t st1 j2 hs g0 g1 hl hf
      subst hrs
      simp only [sSeq_eq, seq_nx', seq_rt', seq_bk', seq_ct', bind_ok', then_ok', opt_some', toB_ok', eCall_eq, back_ok', eCallL_eq, looksL_some, sNil, sBreak, sCont, sExpr, sRet, sRetN, sIf, sSet, sAsg, sPar2, par2K, sPar3, par3K, sFor, sAppend, sExtend, sDPut, storeK, sSubApp, eOf, eV, oV, eC, eVar, oVar, eTup, eLst, vsNil, vsCons, osNil, osCons, lsNil, lsCons, eOp, binD, cmpP, cm_eq_str, cm_ne_str, cm_eq_int, cm_ne_int, cm_lt, cm_le, cm_gt, cm_ge, cm_slt, cm_sle, cm_is, cm_isnot, cm_in_tup, cm_nin_tup, cm_in_lst, cm_nin_lst, cm_in_dct, cm_nin_dct, cm_in_str, cm_ne_nn, cm_eq_nn, Nat.le_refl, Nat.zero_le, Nat.reduceLeDiff, big_0, seqIx_0, List.eraseIdx_cons_zero, pop_last, drop_last, max2, eSortK, atI_0, atI_1, atI_2, atI_3, atI_4, tCmp, tChain2, eT, tAnd2, tOr2, tNot1, bOf, eAnd2, eOr2, eNot1, eIf, truD, tTru, eSub, S.flat, S.look, S.looks, S.deref, subD, pNone, pSome, eSlice, sliceD, eRev, eCallB, iVal, itemsD, iRange1, iRange2, iEnumM, gVar, gsNil, gsCons, gTupM, eLc, lc1, for1, tTrue, S.wipe, wipeE, ePop, ePopAt, S.isList, S.bound, eMove, capL, eIsi, D.isT, eDict0, eDisp, eDispL, eCell, psNil, psCons, D.key, isNon_non, isNon_int, isNon_str, isNon_tup, isNon_lst, isNon_bl, isNon_dct, Option.map, Option.bind, Option.isSome_some, Option.isSome_none, List.getElem?_cons_zero, List.getElem?_cons_succ, List.set_cons_zero, List.set_cons_succ, List.map_cons, List.map_nil, List.length_cons, List.length_nil, List.replicate_succ, List.replicate_zero, List.cons_append, List.nil_append, List.append_nil, Nat.reduceSub, Nat.reduceAdd, Nat.reduceEqDiff, decide_true, decide_false, if_true, if_false, ite_true, ite_false, reduceIte, Bool.false_eq_true, Nat.reduceLT, Nat.zero_lt_succ, Nat.lt_add_one, Nat.zero_add, true_and, and_true, or_true, true_or, false_and, and_false, false_or, or_false, Bool.not_true, Bool.not_false, Nat.succ_lt_succ_iff, Nat.add_lt_add_iff_right, beq_self_eq_true, String.reduceBEq, Bool.or_true, Bool.true_or, Bool.or_false, Bool.false_or, Bool.and_true, Bool.true_and, Bool.and_false, Bool.false_and, Int.cast_ofNat_Int, Int.reduceBEq, Int.reduceLT, Int.reduceLE, Int.reduceAdd, Int.reduceSub, Int.reduceMul, Int.reduceNeg, Int.natCast_zero, Int.natCast_one, sz_0, sz_1, sz_2, sz_3, sz_4, sz_5, sz_6, sz_7, sz_8, sz_9, sz_10, sz_11, sz_12, sz_13, sz_14, sz_15, sz_16, hs, dr_left, h0, h1, put_left, dr_len]
      refine ⟨a % many, rfl, Int.emod_nonneg _ (by omega), Int.emod_lt_of_pos _ h0, ⟨⟨a / many, c, t, ?_, g0, g1⟩, all_set hf (dr_flat _ _ _)⟩, by rw [List.length_set]; exact hl⟩
      rw [List.getElem?_set_self (by omega)]
    unfold m_law_digit
    rw [← hrs]
    cases hz : (a == 0) with
    | false =>
      simp only [sSeq_eq, seq_nx', seq_rt', seq_bk', seq_ct', bind_ok', then_ok', opt_some', toB_ok', eCall_eq, back_ok', eCallL_eq, looksL_some, sNil, sBreak, sCont, sExpr, sRet, sRetN, sIf, sSet, sAsg, sPar2, par2K, sPar3, par3K, sFor, sAppend, sExtend, sDPut, storeK, sSubApp, eOf, eV, oV, eC, eVar, oVar, eTup, eLst, vsNil, vsCons, osNil, osCons, lsNil, lsCons, eOp, binD, cmpP, cm_eq_str, cm_ne_str, cm_eq_int, cm_ne_int, cm_lt, cm_le, cm_gt, cm_ge, cm_slt, cm_sle, cm_is, cm_isnot, cm_in_tup, cm_nin_tup, cm_in_lst, cm_nin_lst, cm_in_dct, cm_nin_dct, cm_in_str, cm_ne_nn, cm_eq_nn, Nat.le_refl, Nat.zero_le, Nat.reduceLeDiff, big_0, seqIx_0, List.eraseIdx_cons_zero, pop_last, drop_last, max2, eSortK, atI_0, atI_1, atI_2, atI_3, atI_4, tCmp, tChain2, eT, tAnd2, tOr2, tNot1, bOf, eAnd2, eOr2, eNot1, eIf, truD, tTru, eSub, S.flat, S.look, S.looks, S.deref, subD, pNone, pSome, eSlice, sliceD, eRev, eCallB, iVal, itemsD, iRange1, iRange2, iEnumM, gVar, gsNil, gsCons, gTupM, eLc, lc1, for1, tTrue, S.wipe, wipeE, ePop, ePopAt, S.isList, S.bound, eMove, capL, eIsi, D.isT, eDict0, eDisp, eDispL, eCell, psNil, psCons, D.key, isNon_non, isNon_int, isNon_str, isNon_tup, isNon_lst, isNon_bl, isNon_dct, Option.map, Option.bind, Option.isSome_some, Option.isSome_none, List.getElem?_cons_zero, List.getElem?_cons_succ, List.set_cons_zero, List.set_cons_succ, List.map_cons, List.map_nil, List.length_cons, List.length_nil, List.replicate_succ, List.replicate_zero, List.cons_append, List.nil_append, List.append_nil, Nat.reduceSub, Nat.reduceAdd, Nat.reduceEqDiff, decide_true, decide_false, if_true, if_false, ite_true, ite_false, reduceIte, Bool.false_eq_true, Nat.reduceLT, Nat.zero_lt_succ, Nat.lt_add_one, Nat.zero_add, true_and, and_true, or_true, true_or, false_and, and_false, false_or, or_false, Bool.not_true, Bool.not_false, Nat.succ_lt_succ_iff, Nat.add_lt_add_iff_right, beq_self_eq_true, String.reduceBEq, Bool.or_true, Bool.true_or, Bool.or_false, Bool.false_or, Bool.and_true, Bool.true_and, Bool.and_false, Bool.false_and, Int.cast_ofNat_Int, Int.reduceBEq, Int.reduceLT, Int.reduceLE, Int.reduceAdd, Int.reduceSub, Int.reduceMul, Int.reduceNeg, Int.natCast_zero, Int.natCast_one, sz_0, sz_1, sz_2, sz_3, sz_4, sz_5, sz_6, sz_7, sz_8, sz_9, sz_10, sz_11, sz_12, sz_13, sz_14, sz_15, sz_16, hst, dr_left, hz]
      exact rest a t st none hst ht0 (by omega) rfl hfl
    | true =>
      have big : big62 4 = true := rfl
      simp only [sSeq_eq, seq_nx', seq_rt', seq_bk', seq_ct', bind_ok', then_ok', opt_some', toB_ok', eCall_eq, back_ok', eCallL_eq, looksL_some, sNil, sBreak, sCont, sExpr, sRet, sRetN, sIf, sSet, sAsg, sPar2, par2K, sPar3, par3K, sFor, sAppend, sExtend, sDPut, storeK, sSubApp, eOf, eV, oV, eC, eVar, oVar, eTup, eLst, vsNil, vsCons, osNil, osCons, lsNil, lsCons, eOp, binD, cmpP, cm_eq_str, cm_ne_str, cm_eq_int, cm_ne_int, cm_lt, cm_le, cm_gt, cm_ge, cm_slt, cm_sle, cm_is, cm_isnot, cm_in_tup, cm_nin_tup, cm_in_lst, cm_nin_lst, cm_in_dct, cm_nin_dct, cm_in_str, cm_ne_nn, cm_eq_nn, Nat.le_refl, Nat.zero_le, Nat.reduceLeDiff, big_0, seqIx_0, List.eraseIdx_cons_zero, pop_last, drop_last, max2, eSortK, atI_0, atI_1, atI_2, atI_3, atI_4, tCmp, tChain2, eT, tAnd2, tOr2, tNot1, bOf, eAnd2, eOr2, eNot1, eIf, truD, tTru, eSub, S.flat, S.look, S.looks, S.deref, subD, pNone, pSome, eSlice, sliceD, eRev, eCallB, iVal, itemsD, iRange1, iRange2, iEnumM, gVar, gsNil, gsCons, gTupM, eLc, lc1, for1, tTrue, S.wipe, wipeE, ePop, ePopAt, S.isList, S.bound, eMove, capL, eIsi, D.isT, eDict0, eDisp, eDispL, eCell, psNil, psCons, D.key, isNon_non, isNon_int, isNon_str, isNon_tup, isNon_lst, isNon_bl, isNon_dct, Option.map, Option.bind, Option.isSome_some, Option.isSome_none, List.getElem?_cons_zero, List.getElem?_cons_succ, List.set_cons_zero, List.set_cons_succ, List.map_cons, List.map_nil, List.length_cons, List.length_nil, List.replicate_succ, List.replicate_zero, List.cons_append, List.nil_append, List.append_nil, Nat.reduceSub, Nat.reduceAdd, Nat.reduceEqDiff, decide_true, decide_false, if_true, if_false, ite_true, ite_false, reduceIte, Bool.false_eq_true, Nat.reduceLT, Nat.zero_lt_succ, Nat.lt_add_one, Nat.zero_add, true_and, and_true, or_true, true_or, false_and, and_false, false_or, or_false, Bool.not_true, Bool.not_false, Nat.succ_lt_succ_iff, Nat.add_lt_add_iff_right, beq_self_eq_true, String.reduceBEq, Bool.or_true, Bool.true_or, Bool.or_false, Bool.false_or, Bool.and_true, Bool.true_and, Bool.and_false, Bool.false_and, Int.cast_ofNat_Int, Int.reduceBEq, Int.reduceLT, Int.reduceLE, Int.reduceAdd, Int.reduceSub, Int.reduceMul, Int.reduceNeg, Int.natCast_zero, Int.natCast_one, sz_0, sz_1, sz_2, sz_3, sz_4, sz_5, sz_6, sz_7, sz_8, sz_9, sz_10, sz_11, sz_12, sz_13, sz_14, sz_15, sz_16, hst, dr_left, hz, big]
      refine for_q (Q := fun x => Fin _ (x.seq rs)) (fun i : Nat => D.int (0 + (i : Int))) (fun pre s => ∃ a' t' st1 j2, s = ⟨[some (0, .cell n), some (0, .int many), j2, none], st1⟩ ∧ st1[n]? = some (1, .dct (drawK a' c t')) ∧ t ≤ t' ∧ t' ≤ t + pre.length ∧ st1.length = st.length ∧ st1.all flatC = true) (List.range 4) rfl ?_ ⟨a, t, st, none, rfl, hst, Int.le_refl _, by simp, rfl, hfl⟩ ?_
      · rintro pre i post s e ⟨a', t', st1, j2, rfl, hs, g0, g1, hl, hf⟩
        have hlen : pre.length ≤ 3 := by
          have := congrArg List.length e
          simp at this; omega
        obtain ⟨v, ev⟩ := hm c (t' + 1) (st1.set n (1, .dct (drawK a' c (t' + 1)))) (by omega) (by omega)
        have hs2 : (st1.set n (1, D.dct (drawK a' c (t' + 1))))[n]? = some (1, .dct (drawK a' c (t' + 1))) := List.getElem?_set_self (by omega)
        have a2 : -(2 ^ 64 : Int) < 2147483647 := by decide
        have a3 : (2147483647 : Int) < 2 ^ 64 := by decide
        simp only [sSeq_eq, seq_nx', seq_rt', seq_bk', seq_ct', bind_ok', then_ok', opt_some', toB_ok', eCall_eq, back_ok', eCallL_eq, looksL_some, sNil, sBreak, sCont, sExpr, sRet, sRetN, sIf, sSet, sAsg, sPar2, par2K, sPar3, par3K, sFor, sAppend, sExtend, sDPut, storeK, sSubApp, eOf, eV, oV, eC, eVar, oVar, eTup, eLst, vsNil, vsCons, osNil, osCons, lsNil, lsCons, eOp, binD, cmpP, cm_eq_str, cm_ne_str, cm_eq_int, cm_ne_int, cm_lt, cm_le, cm_gt, cm_ge, cm_slt, cm_sle, cm_is, cm_isnot, cm_in_tup, cm_nin_tup, cm_in_lst, cm_nin_lst, cm_in_dct, cm_nin_dct, cm_in_str, cm_ne_nn, cm_eq_nn, Nat.le_refl, Nat.zero_le, Nat.reduceLeDiff, big_0, seqIx_0, List.eraseIdx_cons_zero, pop_last, drop_last, max2, eSortK, atI_0, atI_1, atI_2, atI_3, atI_4, tCmp, tChain2, eT, tAnd2, tOr2, tNot1, bOf, eAnd2, eOr2, eNot1, eIf, truD, tTru, eSub, S.flat, S.look, S.looks, S.deref, subD, pNone, pSome, eSlice, sliceD, eRev, eCallB, iVal, itemsD, iRange1, iRange2, iEnumM, gVar, gsNil, gsCons, gTupM, eLc, lc1, for1, tTrue, S.wipe, wipeE, ePop, ePopAt, S.isList, S.bound, eMove, capL, eIsi, D.isT, eDict0, eDisp, eDispL, eCell, psNil, psCons, D.key, isNon_non, isNon_int, isNon_str, isNon_tup, isNon_lst, isNon_bl, isNon_dct, Option.map, Option.bind, Option.isSome_some, Option.isSome_none, List.getElem?_cons_zero, List.getElem?_cons_succ, List.set_cons_zero, List.set_cons_succ, List.map_cons, List.map_nil, List.length_cons, List.length_nil, List.replicate_succ, List.replicate_zero, List.cons_append, List.nil_append, List.append_nil, Nat.reduceSub, Nat.reduceAdd, Nat.reduceEqDiff, decide_true, decide_false, if_true, if_false, ite_true, ite_false, reduceIte, Bool.false_eq_true, Nat.reduceLT, Nat.zero_lt_succ, Nat.lt_add_one, Nat.zero_add, true_and, and_true, or_true, true_or, false_and, and_false, false_or, or_false, Bool.not_true, Bool.not_false, Nat.succ_lt_succ_iff, Nat.add_lt_add_iff_right, beq_self_eq_true, String.reduceBEq, Bool.or_true, Bool.true_or, Bool.or_false, Bool.false_or, Bool.and_true, Bool.true_and, Bool.and_false, Bool.false_and, Int.cast_ofNat_Int, Int.reduceBEq, Int.reduceLT, Int.reduceLE, Int.reduceAdd, Int.reduceSub, Int.reduceMul, Int.reduceNeg, Int.natCast_zero, Int.natCast_one, sz_0, sz_1, sz_2, sz_3, sz_4, sz_5, sz_6, sz_7, sz_8, sz_9, sz_10, sz_11, sz_12, sz_13, sz_14, sz_15, sz_16, hs, dr_left, dr_turns, dr_cell, put_turns, put_left, dr_len, hs2, ev, a2, a3]
        refine ⟨a' * 2147483647 + v, t' + 1, _, _, rfl, ?_, by omega, by rw [List.length_append, List.length_singleton]; omega, ?_, ?_⟩
        · exact List.getElem?_set_self (by rw [List.length_set]; omega)
        · rw [List.length_set, List.length_set]; exact hl
        · exact all_set (all_set hf (dr_flat _ _ _)) (dr_flat _ _ _)
      · rintro s' ⟨a', t', st1, j2, rfl, hs, g0, g1, hl, hf⟩
        exact rest a' t' st1 j2 hs (by omega) (by simp at g1; omega) hl hf
  obtain ⟨p, st', e, v, rfl, h⟩ := run_fin main
  exact ⟨v, st', e, h⟩
end G
-- part Sp8
set_option Elab.async false
set_option linter.all false
set_option maxRecDepth 100000
set_option maxHeartbeats 4000000
set_option autoImplicit false
/-! Sp8: drawn words, trees, who is away. -/
namespace G
open PySem PySem.Spec Rd L2 Ring
def LawDrawOk (f : List D → S → R (Nat × D)) : Prop := ∀ (c k : Int) (st : St), 0 ≤ k → k ≤ 1000 → st.all flatC = true → ∃ st', f [.int c, .int k] ⟨[], st⟩ = .ok (0, .cell st.length) ⟨[], st'⟩ ∧ Draw st.length 1000000 st'
theorem law_draw_ok (C : Call) : LawDrawOk (f_law_draw C) := by
  intro c k st h0 h1 hf
  have main : Fin (fun p st' => p = (0, .cell st.length) ∧ Draw st.length 1000000 st') (m_law_draw C ⟨[D.int c, .int k].map (fun d => some (0, d)) ++ List.replicate (2 - [D.int c, .int k].length) none, st⟩) := by
    unfold m_law_draw
    have a2 : -(2 ^ 64 : Int) < 1000 := by decide
    have a3 : (1000 : Int) < 2 ^ 64 := by decide
    have a4 : (10 : Int).natAbs < 2 ^ 64 := by decide
    have a5 : (0 : Int) ≤ 18 := by omega
    have a6 : (18 : Int) ≤ 1000000 := by omega
    have a7 : (3 : Nat) ≤ 15 := by omega
    have fl : ∀ a : Int, Draw st.length 1000000 (st ++ [(1, .dct (drawK a c (1000 * k)))]) := fun a =>
      ⟨⟨a, c, 1000 * k, by simp, by omega, by omega⟩, by rw [List.all_append, hf]; rfl⟩
    cases hc : decide ((10 : Int) ^ (18 : Int).toNat ≤ c) with
    | true =>
      simp only [sSeq_eq, seq_nx', seq_rt', seq_bk', seq_ct', bind_ok', then_ok', opt_some', toB_ok', eCall_eq, back_ok', eCallL_eq, looksL_some, sNil, sBreak, sCont, sExpr, sRet, sRetN, sIf, sSet, sAsg, sPar2, par2K, sPar3, par3K, sFor, sAppend, sExtend, sDPut, storeK, sSubApp, eOf, eV, oV, eC, eVar, oVar, eTup, eLst, vsNil, vsCons, osNil, osCons, lsNil, lsCons, eOp, binD, cmpP, cm_eq_str, cm_ne_str, cm_eq_int, cm_ne_int, cm_lt, cm_le, cm_gt, cm_ge, cm_slt, cm_sle, cm_is, cm_isnot, cm_in_tup, cm_nin_tup, cm_in_lst, cm_nin_lst, cm_in_dct, cm_nin_dct, cm_in_str, cm_ne_nn, cm_eq_nn, Nat.le_refl, Nat.zero_le, Nat.reduceLeDiff, big_0, seqIx_0, List.eraseIdx_cons_zero, pop_last, drop_last, max2, eSortK, atI_0, atI_1, atI_2, atI_3, atI_4, tCmp, tChain2, eT, tAnd2, tOr2, tNot1, bOf, eAnd2, eOr2, eNot1, eIf, truD, tTru, eSub, S.flat, S.look, S.looks, S.deref, subD, pNone, pSome, eSlice, sliceD, eRev, eCallB, iVal, itemsD, iRange1, iRange2, iEnumM, gVar, gsNil, gsCons, gTupM, eLc, lc1, for1, tTrue, S.wipe, wipeE, ePop, ePopAt, S.isList, S.bound, eMove, capL, eIsi, D.isT, eDict0, eDisp, eDispL, eCell, psNil, psCons, D.key, isNon_non, isNon_int, isNon_str, isNon_tup, isNon_lst, isNon_bl, isNon_dct, Option.map, Option.bind, Option.isSome_some, Option.isSome_none, List.getElem?_cons_zero, List.getElem?_cons_succ, List.set_cons_zero, List.set_cons_succ, List.map_cons, List.map_nil, List.length_cons, List.length_nil, List.replicate_succ, List.replicate_zero, List.cons_append, List.nil_append, List.append_nil, Nat.reduceSub, Nat.reduceAdd, Nat.reduceEqDiff, decide_true, decide_false, if_true, if_false, ite_true, ite_false, reduceIte, Bool.false_eq_true, Nat.reduceLT, Nat.zero_lt_succ, Nat.lt_add_one, Nat.zero_add, true_and, and_true, or_true, true_or, false_and, and_false, false_or, or_false, Bool.not_true, Bool.not_false, Nat.succ_lt_succ_iff, Nat.add_lt_add_iff_right, beq_self_eq_true, String.reduceBEq, Bool.or_true, Bool.true_or, Bool.or_false, Bool.false_or, Bool.and_true, Bool.true_and, Bool.and_false, Bool.false_and, Int.cast_ofNat_Int, Int.reduceBEq, Int.reduceLT, Int.reduceLE, Int.reduceAdd, Int.reduceSub, Int.reduceMul, Int.reduceNeg, Int.natCast_zero, Int.natCast_one, sz_0, sz_1, sz_2, sz_3, sz_4, sz_5, sz_6, sz_7, sz_8, sz_9, sz_10, sz_11, sz_12, sz_13, sz_14, sz_15, sz_16, a2, a3, a4, a5, a6, a7, hc]
      exact ⟨rfl, fl c⟩
    | false =>
      simp only [sSeq_eq, seq_nx', seq_rt', seq_bk', seq_ct', bind_ok', then_ok', opt_some', toB_ok', eCall_eq, back_ok', eCallL_eq, looksL_some, sNil, sBreak, sCont, sExpr, sRet, sRetN, sIf, sSet, sAsg, sPar2, par2K, sPar3, par3K, sFor, sAppend, sExtend, sDPut, storeK, sSubApp, eOf, eV, oV, eC, eVar, oVar, eTup, eLst, vsNil, vsCons, osNil, osCons, lsNil, lsCons, eOp, binD, cmpP, cm_eq_str, cm_ne_str, cm_eq_int, cm_ne_int, cm_lt, cm_le, cm_gt, cm_ge, cm_slt, cm_sle, cm_is, cm_isnot, cm_in_tup, cm_nin_tup, cm_in_lst, cm_nin_lst, cm_in_dct, cm_nin_dct, cm_in_str, cm_ne_nn, cm_eq_nn, Nat.le_refl, Nat.zero_le, Nat.reduceLeDiff, big_0, seqIx_0, List.eraseIdx_cons_zero, pop_last, drop_last, max2, eSortK, atI_0, atI_1, atI_2, atI_3, atI_4, tCmp, tChain2, eT, tAnd2, tOr2, tNot1, bOf, eAnd2, eOr2, eNot1, eIf, truD, tTru, eSub, S.flat, S.look, S.looks, S.deref, subD, pNone, pSome, eSlice, sliceD, eRev, eCallB, iVal, itemsD, iRange1, iRange2, iEnumM, gVar, gsNil, gsCons, gTupM, eLc, lc1, for1, tTrue, S.wipe, wipeE, ePop, ePopAt, S.isList, S.bound, eMove, capL, eIsi, D.isT, eDict0, eDisp, eDispL, eCell, psNil, psCons, D.key, isNon_non, isNon_int, isNon_str, isNon_tup, isNon_lst, isNon_bl, isNon_dct, Option.map, Option.bind, Option.isSome_some, Option.isSome_none, List.getElem?_cons_zero, List.getElem?_cons_succ, List.set_cons_zero, List.set_cons_succ, List.map_cons, List.map_nil, List.length_cons, List.length_nil, List.replicate_succ, List.replicate_zero, List.cons_append, List.nil_append, List.append_nil, Nat.reduceSub, Nat.reduceAdd, Nat.reduceEqDiff, decide_true, decide_false, if_true, if_false, ite_true, ite_false, reduceIte, Bool.false_eq_true, Nat.reduceLT, Nat.zero_lt_succ, Nat.lt_add_one, Nat.zero_add, true_and, and_true, or_true, true_or, false_and, and_false, false_or, or_false, Bool.not_true, Bool.not_false, Nat.succ_lt_succ_iff, Nat.add_lt_add_iff_right, beq_self_eq_true, String.reduceBEq, Bool.or_true, Bool.true_or, Bool.or_false, Bool.false_or, Bool.and_true, Bool.true_and, Bool.and_false, Bool.false_and, Int.cast_ofNat_Int, Int.reduceBEq, Int.reduceLT, Int.reduceLE, Int.reduceAdd, Int.reduceSub, Int.reduceMul, Int.reduceNeg, Int.natCast_zero, Int.natCast_one, sz_0, sz_1, sz_2, sz_3, sz_4, sz_5, sz_6, sz_7, sz_8, sz_9, sz_10, sz_11, sz_12, sz_13, sz_14, sz_15, sz_16, a2, a3, a4, a5, a6, a7, hc]
      exact ⟨rfl, fl 0⟩
  obtain ⟨p, st', e, rfl, h⟩ := run_fin main
  exact ⟨st', e, h⟩
/-! ### words -/
theorem strsOf_map : ∀ l : List Str, strsOf (l.map D.str) = some l
  | [] => rfl
  | b :: l => by simp [strsOf, strsOf_map l]
def sgn (c : Nat) : Str := ⟨#[c]⟩
theorem joinL_ones : ∀ cs : List Nat, TL.joinL [] (cs.map fun c => [c]) = cs
  | [] => rfl
  | [c] => rfl
  | c :: c' :: r => by
    have := joinL_ones (c' :: r)
    show [c] ++ ([] ++ TL.joinL [] ((c' :: r).map fun c => [c])) = _
    rw [this]; rfl
theorem join_signs (cs : List Nat) : (Txt.join (("" : Str)) (cs.map sgn)).cps.toList = cs := by
  have e := TL.tl_join (("" : Str)) (cs.map sgn)
  rw [List.map_map] at e
  have e2 : (TL.tl (("" : Str))) = [] := rfl
  rw [e2] at e
  have e3 : (cs.map (TL.tl ∘ sgn)) = cs.map fun c => [c] := rfl
  rw [e3, joinL_ones] at e
  rw [TL.join_eq]
  exact e
theorem isName_join {cs : List Nat} (h1 : 1 ≤ cs.length) (h2 : cs.length ≤ 8) (h : ∀ c ∈ cs, c ∈ letters) : isName (Txt.join (("" : Str)) (cs.map sgn)) = true := by
  have e := join_signs cs
  have el : (Txt.join (("" : Str)) (cs.map sgn)).length = cs.length := by
    unfold Str.length
    rw [← Array.length_toList, e]
  unfold isName
  rw [el, e, decide_eq_true h1, decide_eq_true h2]
  simp only [Bool.and_self, Bool.true_and, List.all_eq_true, decide_eq_true_eq]
  exact h
theorem sgn_sum (cs : List Nat) : ((cs.map sgn).map (·.length)).sum = cs.length := by
  induction cs with
  | nil => rfl
  | cons c r ih =>
    rw [List.map_cons, List.map_cons, List.sum_cons, ih, List.length_cons]
    show 1 + _ = _; omega
theorem cut_2 {α : Type} (xs : List α) : cutL xs none (some 2) = xs.take 2 := by
  unfold cutL
  have : HT.sIx xs.length xs.length (some 2) = min 2 xs.length := HT.sIx_nat xs.length xs.length 2
  rw [this, HT.sIx_none]
  simp
theorem letters_len : letters.length = 26 := by decide
def WordOk (f : List D → S → R (Nat × D)) : Prop := ∀ (n : Nat) (b : Int) (st : St), Draw n b st → b ≤ 1000000000 → ∃ (x : Str) (st' : St), f [.cell n] ⟨[], st⟩ = .ok (0, .str x) ⟨[], st'⟩ ∧ isName x = true ∧ Draw n (b + 40) st' ∧ st'.length = st.length
theorem law_word_ok (C : Call) (hd : DigitOk (C "_law_digit")) : WordOk (f_law_word C) := by
  intro n b st dr hb
  have main : Fin (fun p st' => ∃ x : Str, p = (0, .str x) ∧ isName x = true ∧ Draw n (b + 40) st' ∧ st'.length = st.length) (m_law_word C ⟨[D.cell n].map (fun d => some (0, d)) ++ List.replicate (4 - [D.cell n].length) none, st⟩) := by
    unfold m_law_word
    obtain ⟨v, st1, e1, v0, v1, d1, l1⟩ := hd n b 8 st dr (by omega) (by omega) (by omega)
    have big : big62 (1 + v) = true := by unfold big62; rw [decide_eq_true_eq]; omega
    obtain ⟨k, hk⟩ : ∃ k : Nat, 1 + v = (k : Int) := ⟨(1 + v).toNat, by omega⟩
    have hup : upL 0 (1 + v).toNat = (List.range k).map fun (i : Nat) => D.int (0 + (i : Int)) := by unfold upL; rw [hk]; rfl
    obtain ⟨ys, s2, e2, cs, st2, hys, hcl, hcm, rfl, d2, l2⟩ := lcM_gen (own := [3]) (g := gVar 3) (t := tTrue) (m := eSub (oV (eC (.str "abcdefghijklmnopqrstuvwxyz"))) (oV (eV (eCall C "_law_digit" (vsCons (eVar 0) (vsCons (eC (.int 26)) vsNil)) [])))) (fun (i : Nat) => D.int (0 + (i : Int)))
      (fun pre acc s => ∃ (cs : List Nat) (st2 : St), acc = (cs.map sgn).map D.str ∧ cs.length = pre.length ∧ (∀ c ∈ cs, c ∈ letters) ∧ s = ⟨[some (0, .cell n), none, none, none], st2⟩ ∧ Draw n (b + 4 + 4 * pre.length) st2 ∧ st2.length = st.length) (List.range k) (by
        rintro pre i post acc s e ⟨cs, st2, rfl, hcl, hcm, rfl, d2, l2⟩
        have hlen : pre.length ≤ 7 := by
          have := congrArg List.length e
          simp at this; omega
        obtain ⟨u, st3, e3, u0, u1, d3, l3⟩ := hd n _ 26 st2 d2 (by omega) (by omega) (by omega)
        obtain ⟨c, hc, hat⟩ := atI_of (l := letters) (i := u) u0 (by rw [letters_len]; omega)
        have hz : szOk (("abcdefghijklmnopqrstuvwxyz" : Str)).length = true := rfl
        have hat : atI (("abcdefghijklmnopqrstuvwxyz" : Str)).cps.toList u = some c := hat
        refine ⟨some (.str (sgn c)), ⟨[some (0, .cell n), none, none, none], st3⟩, ?_, cs ++ [c], st3, ?_, ?_, ?_, rfl, ?_, by omega⟩
        · simp only [sSeq_eq, seq_nx', seq_rt', seq_bk', seq_ct', bind_ok', then_ok', opt_some', toB_ok', eCall_eq, back_ok', eCallL_eq, looksL_some, sNil, sBreak, sCont, sExpr, sRet, sRetN, sIf, sSet, sAsg, sPar2, par2K, sPar3, par3K, sFor, sAppend, sExtend, sDPut, storeK, sSubApp, eOf, eV, oV, eC, eVar, oVar, eTup, eLst, vsNil, vsCons, osNil, osCons, lsNil, lsCons, eOp, binD, cmpP, cm_eq_str, cm_ne_str, cm_eq_int, cm_ne_int, cm_lt, cm_le, cm_gt, cm_ge, cm_slt, cm_sle, cm_is, cm_isnot, cm_in_tup, cm_nin_tup, cm_in_lst, cm_nin_lst, cm_in_dct, cm_nin_dct, cm_in_str, cm_ne_nn, cm_eq_nn, Nat.le_refl, Nat.zero_le, Nat.reduceLeDiff, big_0, seqIx_0, List.eraseIdx_cons_zero, pop_last, drop_last, max2, eSortK, atI_0, atI_1, atI_2, atI_3, atI_4, tCmp, tChain2, eT, tAnd2, tOr2, tNot1, bOf, eAnd2, eOr2, eNot1, eIf, truD, tTru, eSub, S.flat, S.look, S.looks, S.deref, subD, pNone, pSome, eSlice, sliceD, eRev, eCallB, iVal, itemsD, iRange1, iRange2, iEnumM, gVar, gsNil, gsCons, gTupM, eLc, lc1, for1, tTrue, S.wipe, wipeE, ePop, ePopAt, S.isList, S.bound, eMove, capL, eIsi, D.isT, eDict0, eDisp, eDispL, eCell, psNil, psCons, D.key, isNon_non, isNon_int, isNon_str, isNon_tup, isNon_lst, isNon_bl, isNon_dct, Option.map, Option.bind, Option.isSome_some, Option.isSome_none, List.getElem?_cons_zero, List.getElem?_cons_succ, List.set_cons_zero, List.set_cons_succ, List.map_cons, List.map_nil, List.length_cons, List.length_nil, List.replicate_succ, List.replicate_zero, List.cons_append, List.nil_append, List.append_nil, Nat.reduceSub, Nat.reduceAdd, Nat.reduceEqDiff, decide_true, decide_false, if_true, if_false, ite_true, ite_false, reduceIte, Bool.false_eq_true, Nat.reduceLT, Nat.zero_lt_succ, Nat.lt_add_one, Nat.zero_add, true_and, and_true, or_true, true_or, false_and, and_false, false_or, or_false, Bool.not_true, Bool.not_false, Nat.succ_lt_succ_iff, Nat.add_lt_add_iff_right, beq_self_eq_true, String.reduceBEq, Bool.or_true, Bool.true_or, Bool.or_false, Bool.false_or, Bool.and_true, Bool.true_and, Bool.and_false, Bool.false_and, Int.cast_ofNat_Int, Int.reduceBEq, Int.reduceLT, Int.reduceLE, Int.reduceAdd, Int.reduceSub, Int.reduceMul, Int.reduceNeg, Int.natCast_zero, Int.natCast_one, sz_0, sz_1, sz_2, sz_3, sz_4, sz_5, sz_6, sz_7, sz_8, sz_9, sz_10, sz_11, sz_12, sz_13, sz_14, sz_15, sz_16, e3, hz, hat]; rfl
        · simp
        · simp [hcl]
        · intro c' h'
          rcases List.mem_append.mp h' with z | z
          · exact hcm c' z
          · rw [List.mem_singleton] at z; rw [z]; exact hc
        · rw [List.length_append, List.length_singleton]
          exact d3.mono (by omega)) (List.range k) [] [] ⟨[some (0, .cell n), none, none, none], st1⟩ rfl (by simp; omega) ⟨[], st1, rfl, rfl, fun c h => (by cases h), rfl, d1.mono (by simp), l1⟩
    simp only [sSeq_eq, seq_nx', seq_rt', seq_bk', seq_ct', bind_ok', then_ok', opt_some', toB_ok', eCall_eq, back_ok', eCallL_eq, looksL_some, sNil, sBreak, sCont, sExpr, sRet, sRetN, sIf, sSet, sAsg, sPar2, par2K, sPar3, par3K, sFor, sAppend, sExtend, sDPut, storeK, sSubApp, eOf, eV, oV, eC, eVar, oVar, eTup, eLst, vsNil, vsCons, osNil, osCons, lsNil, lsCons, eOp, binD, cmpP, cm_eq_str, cm_ne_str, cm_eq_int, cm_ne_int, cm_lt, cm_le, cm_gt, cm_ge, cm_slt, cm_sle, cm_is, cm_isnot, cm_in_tup, cm_nin_tup, cm_in_lst, cm_nin_lst, cm_in_dct, cm_nin_dct, cm_in_str, cm_ne_nn, cm_eq_nn, Nat.le_refl, Nat.zero_le, Nat.reduceLeDiff, big_0, seqIx_0, List.eraseIdx_cons_zero, pop_last, drop_last, max2, eSortK, atI_0, atI_1, atI_2, atI_3, atI_4, tCmp, tChain2, eT, tAnd2, tOr2, tNot1, bOf, eAnd2, eOr2, eNot1, eIf, truD, tTru, eSub, S.flat, S.look, S.looks, S.deref, subD, pNone, pSome, eSlice, sliceD, eRev, eCallB, iVal, itemsD, iRange1, iRange2, iEnumM, gVar, gsNil, gsCons, gTupM, eLc, lc1, for1, tTrue, S.wipe, wipeE, ePop, ePopAt, S.isList, S.bound, eMove, capL, eIsi, D.isT, eDict0, eDisp, eDispL, eCell, psNil, psCons, D.key, isNon_non, isNon_int, isNon_str, isNon_tup, isNon_lst, isNon_bl, isNon_dct, Option.map, Option.bind, Option.isSome_some, Option.isSome_none, List.getElem?_cons_zero, List.getElem?_cons_succ, List.set_cons_zero, List.set_cons_succ, List.map_cons, List.map_nil, List.length_cons, List.length_nil, List.replicate_succ, List.replicate_zero, List.cons_append, List.nil_append, List.append_nil, Nat.reduceSub, Nat.reduceAdd, Nat.reduceEqDiff, decide_true, decide_false, if_true, if_false, ite_true, ite_false, reduceIte, Bool.false_eq_true, Nat.reduceLT, Nat.zero_lt_succ, Nat.lt_add_one, Nat.zero_add, true_and, and_true, or_true, true_or, false_and, and_false, false_or, or_false, Bool.not_true, Bool.not_false, Nat.succ_lt_succ_iff, Nat.add_lt_add_iff_right, beq_self_eq_true, String.reduceBEq, Bool.or_true, Bool.true_or, Bool.or_false, Bool.false_or, Bool.and_true, Bool.true_and, Bool.and_false, Bool.false_and, Int.cast_ofNat_Int, Int.reduceBEq, Int.reduceLT, Int.reduceLE, Int.reduceAdd, Int.reduceSub, Int.reduceMul, Int.reduceNeg, Int.natCast_zero, Int.natCast_one, sz_0, sz_1, sz_2, sz_3, sz_4, sz_5, sz_6, sz_7, sz_8, sz_9, sz_10, sz_11, sz_12, sz_13, sz_14, sz_15, sz_16, e1, big, hup, e2]
    rw [List.length_range] at hcl d2
    have hcl1 : 1 ≤ cs.length := by omega
    have hcl8 : cs.length ≤ 8 := by omega
    subst hys
    have hj := sgn_sum cs
    have j1 : (1 : Nat) ≤ 1 ∧ ((cs.map sgn).map (·.length)).sum + (cs.map sgn).length * (("" : Str)).length ≤ 16777216 := ⟨Nat.le_refl _, by rw [hj, show (("" : Str)).length = 0 from rfl]; omega⟩
    have hj2 := sgn_sum (cs.take 2)
    have j2 : (0 : Nat) ≤ 1 ∧ (((cs.take 2).map sgn).map (·.length)).sum + ((cs.take 2).map sgn).length * (("" : Str)).length ≤ 16777216 := ⟨by omega, by rw [hj2, show (("" : Str)).length = 0 from rfl, List.length_take]; omega⟩
    have et : (((cs.map sgn).map D.str).take 2) = ((cs.take 2).map sgn).map D.str := by rw [List.map_take, List.map_take]
    obtain ⟨u, st3, e3, u0, u1, d3, l3⟩ := hd n _ 12 st2 d2 (by omega) (by omega) (by omega)
    obtain ⟨dd, hdm, hat⟩ := atI_of (l := [D.str (Txt.join (("" : Str)) (cs.map sgn)), D.str (Txt.join (("" : Str)) ((cs.take 2).map sgn)), D.str (("a" : Str)), D.str (("ab" : Str)), D.str (("b" : Str)), D.str (("bell" : Str)), D.str (("away" : Str)), D.str (("tree" : Str)), D.str (("told" : Str)), D.str (("last" : Str)), D.str (("lost" : Str)), D.str (("ring" : Str))]) (i := u) u0 (by simp only [List.length_cons, List.length_nil]; omega)
    obtain ⟨x, rfl, hx⟩ : ∃ x, dd = .str x ∧ isName x = true := by
      simp only [List.mem_cons, List.mem_nil_iff, or_false] at hdm
      rcases hdm with z | z | z | z | z | z | z | z | z | z | z | z
      · exact ⟨_, z, isName_join hcl1 hcl8 hcm⟩
      · exact ⟨_, z, isName_join (by rw [List.length_take]; omega) (by rw [List.length_take]; omega) fun c hc => hcm c (List.mem_of_mem_take hc)⟩
      all_goals exact ⟨_, z, by decide⟩
    simp only [sSeq_eq, seq_nx', seq_rt', seq_bk', seq_ct', bind_ok', then_ok', opt_some', toB_ok', eCall_eq, back_ok', eCallL_eq, looksL_some, sNil, sBreak, sCont, sExpr, sRet, sRetN, sIf, sSet, sAsg, sPar2, par2K, sPar3, par3K, sFor, sAppend, sExtend, sDPut, storeK, sSubApp, eOf, eV, oV, eC, eVar, oVar, eTup, eLst, vsNil, vsCons, osNil, osCons, lsNil, lsCons, eOp, binD, cmpP, cm_eq_str, cm_ne_str, cm_eq_int, cm_ne_int, cm_lt, cm_le, cm_gt, cm_ge, cm_slt, cm_sle, cm_is, cm_isnot, cm_in_tup, cm_nin_tup, cm_in_lst, cm_nin_lst, cm_in_dct, cm_nin_dct, cm_in_str, cm_ne_nn, cm_eq_nn, Nat.le_refl, Nat.zero_le, Nat.reduceLeDiff, big_0, seqIx_0, List.eraseIdx_cons_zero, pop_last, drop_last, max2, eSortK, atI_0, atI_1, atI_2, atI_3, atI_4, tCmp, tChain2, eT, tAnd2, tOr2, tNot1, bOf, eAnd2, eOr2, eNot1, eIf, truD, tTru, eSub, S.flat, S.look, S.looks, S.deref, subD, pNone, pSome, eSlice, sliceD, eRev, eCallB, iVal, itemsD, iRange1, iRange2, iEnumM, gVar, gsNil, gsCons, gTupM, eLc, lc1, for1, tTrue, S.wipe, wipeE, ePop, ePopAt, S.isList, S.bound, eMove, capL, eIsi, D.isT, eDict0, eDisp, eDispL, eCell, psNil, psCons, D.key, isNon_non, isNon_int, isNon_str, isNon_tup, isNon_lst, isNon_bl, isNon_dct, Option.map, Option.bind, Option.isSome_some, Option.isSome_none, List.getElem?_cons_zero, List.getElem?_cons_succ, List.set_cons_zero, List.set_cons_succ, List.map_cons, List.map_nil, List.length_cons, List.length_nil, List.replicate_succ, List.replicate_zero, List.cons_append, List.nil_append, List.append_nil, Nat.reduceSub, Nat.reduceAdd, Nat.reduceEqDiff, decide_true, decide_false, if_true, if_false, ite_true, ite_false, reduceIte, Bool.false_eq_true, Nat.reduceLT, Nat.zero_lt_succ, Nat.lt_add_one, Nat.zero_add, true_and, and_true, or_true, true_or, false_and, and_false, false_or, or_false, Bool.not_true, Bool.not_false, Nat.succ_lt_succ_iff, Nat.add_lt_add_iff_right, beq_self_eq_true, String.reduceBEq, Bool.or_true, Bool.true_or, Bool.or_false, Bool.false_or, Bool.and_true, Bool.true_and, Bool.and_false, Bool.false_and, Int.cast_ofNat_Int, Int.reduceBEq, Int.reduceLT, Int.reduceLE, Int.reduceAdd, Int.reduceSub, Int.reduceMul, Int.reduceNeg, Int.natCast_zero, Int.natCast_one, sz_0, sz_1, sz_2, sz_3, sz_4, sz_5, sz_6, sz_7, sz_8, sz_9, sz_10, sz_11, sz_12, sz_13, sz_14, sz_15, sz_16, eJoin, strsOf_map, cut_2, et, j1.2, j2.2, e3, hat]
    exact ⟨x, rfl, hx, d3.mono (by omega), by show List.length st3 = _; omega⟩
  obtain ⟨p, st', e, x, rfl, h⟩ := run_fin main
  exact ⟨x, st', e, h⟩
end G
-- part Sp9
set_option Elab.async false
set_option linter.all false
set_option maxRecDepth 100000
set_option maxHeartbeats 4000000
set_option autoImplicit false
/-! Sp9: drawn trees, who is away. -/
namespace G
open PySem PySem.Spec Rd L2 Ring
theorem good_snoc {b : Str} {ps : List Pe} (h : GoodP b ps) {p : Pe} (hn : p.1 ∉ b :: ps.map (·.1)) (hc : p.2.1 ∈ b :: ps.map (·.1)) : GoodP b (ps ++ [p]) := by
  refine ⟨?_, fun pre q post e => ?_⟩
  · rw [List.map_append, ← List.cons_append, List.nodup_append]
    refine ⟨h.nd, by simp, fun a ha c hc' => ?_⟩
    simp only [List.map_cons, List.map_nil, List.mem_singleton] at hc'
    subst hc'
    exact fun z => hn (z ▸ ha)
  · rcases List.eq_nil_or_concat post with z | ⟨post', y, z⟩
    · subst z
      have := List.append_inj' e rfl
      obtain ⟨rfl, e2⟩ := this
      cases e2
      rcases List.mem_cons.mp hc with z | z
      · exact .inl z
      · exact .inr z
    · rw [List.concat_eq_append] at z
      subst z
      have e' : ps ++ [p] = (pre ++ q :: post') ++ [y] := by rw [e]; simp
      obtain ⟨e1, _⟩ := List.append_inj' e' rfl
      exact h.up pre q post' e1
theorem cut_map {α β : Type} (f : α → β) (xs : List α) (lo hi : Option Int) : cutL (xs.map f) lo hi = (cutL xs lo hi).map f := by
  unfold cutL
  rw [List.length_map, List.map_take, List.map_drop]
theorem cut_sub {α : Type} (xs : List α) (lo hi : Option Int) : ∀ x ∈ cutL xs lo hi, x ∈ xs := fun x hx => List.mem_of_mem_drop (List.mem_of_mem_take hx)
theorem cut_neg {α : Type} (xs : List α) (k : Nat) (hk : 1 ≤ k) (h : xs ≠ []) : cutL xs (some (-(k : Int))) none ≠ [] := by
  unfold cutL
  rw [HT.sIx_none]
  have e : HT.sIx xs.length 0 (some (-(k : Int))) = xs.length - k := by
    show (if -(k : Int) < 0 then (-(k : Int) + (xs.length : Int)).toNat else _) = _
    rw [if_pos (by omega)]; omega
  have hl : 0 < xs.length := List.length_pos_iff.mpr h
  rw [e]
  intro z
  have := congrArg List.length z
  rw [List.length_take, List.length_drop, List.length_nil] at this
  omega
theorem cut_len {α : Type} (xs : List α) (lo hi : Option Int) : (cutL xs lo hi).length ≤ xs.length := by
  unfold cutL
  rw [List.length_take, List.length_drop]; omega
theorem take2_ne {α : Type} {xs : List α} (h : xs ≠ []) : xs.take 2 ≠ [] := by
  cases xs with
  | nil => exact absurd rfl h
  | cons x r => simp
def LawTreeOk (f : List D → S → R (Nat × D)) : Prop := ∀ (n : Nat) (b most : Int) (st : St), Draw n b st → b ≤ 10000000 → 0 ≤ most → most ≤ 16 → ∃ (w d : Int) (ps : List Pe) (st' : St), f [.cell n, .int most] ⟨[], st⟩ = .ok (0, treeD w d ps) ⟨[], st'⟩ ∧ TreeOk w d ps ∧ (ps.length : Int) ≤ most ∧ Draw n (b + 2000) st' ∧ st'.length = st.length
theorem law_tree_ok (C : Call) (hd : DigitOk (C "_law_digit")) (hw : WordOk (C "_law_word")) : LawTreeOk (f_law_tree C) := by
  intro n b most st dr hb m0 m1
  have main : Fin (fun p st' => ∃ (w d : Int) (ps : List Pe), p = (0, treeD w d ps) ∧ TreeOk w d ps ∧ (ps.length : Int) ≤ most ∧ Draw n (b + 2000) st' ∧ st'.length = st.length) (m_law_tree C ⟨[D.cell n, .int most].map (fun d => some (0, d)) ++ List.replicate (12 - [D.cell n, .int most].length) none, st⟩) := by
    unfold m_law_tree
    obtain ⟨way, st1, e1, w0, w1, d1, l1⟩ := hd n b 4 st dr (by omega) (by omega) (by omega)
    obtain ⟨many, st2, e2, n0, n1, d2, l2⟩ := hd n _ (most + 1) st1 d1 (by omega) (by omega) (by omega)
    obtain ⟨wt, st3, e3, x0, x1, d3, l3⟩ := hd n _ 60 st2 d2 (by omega) (by omega) (by omega)
    obtain ⟨dp, st4, e4, y0, y1, d4, l4⟩ := hd n _ 5 st3 d3 (by omega) (by omega) (by omega)
    have a2 : -(2 ^ 64 : Int) < 2 := by decide
    have a3 : (2 : Int) < 2 ^ 64 := by decide
    have big : big62 (2 * many) = true := by unfold big62; rw [decide_eq_true_eq]; omega
    obtain ⟨k, hk⟩ : ∃ k : Nat, 2 * many = (k : Int) := ⟨(2 * many).toNat, by omega⟩
    have hup : upL 0 (2 * many).toNat = (List.range k).map fun (i : Nat) => D.int (0 + (i : Int)) := by unfold upL; rw [hk]; rfl
    simp only [sSeq_eq, seq_nx', seq_rt', seq_bk', seq_ct', bind_ok', then_ok', opt_some', toB_ok', eCall_eq, back_ok', eCallL_eq, looksL_some, sNil, sBreak, sCont, sExpr, sRet, sRetN, sIf, sSet, sAsg, sPar2, par2K, sPar3, par3K, sFor, sAppend, sExtend, sDPut, storeK, sSubApp, eOf, eV, oV, eC, eVar, oVar, eTup, eLst, vsNil, vsCons, osNil, osCons, lsNil, lsCons, eOp, binD, cmpP, cm_eq_str, cm_ne_str, cm_eq_int, cm_ne_int, cm_lt, cm_le, cm_gt, cm_ge, cm_slt, cm_sle, cm_is, cm_isnot, cm_in_tup, cm_nin_tup, cm_in_lst, cm_nin_lst, cm_in_dct, cm_nin_dct, cm_in_str, cm_ne_nn, cm_eq_nn, Nat.le_refl, Nat.zero_le, Nat.reduceLeDiff, big_0, seqIx_0, List.eraseIdx_cons_zero, pop_last, drop_last, max2, eSortK, atI_0, atI_1, atI_2, atI_3, atI_4, tCmp, tChain2, eT, tAnd2, tOr2, tNot1, bOf, eAnd2, eOr2, eNot1, eIf, truD, tTru, eSub, S.flat, S.look, S.looks, S.deref, subD, pNone, pSome, eSlice, sliceD, eRev, eCallB, iVal, itemsD, iRange1, iRange2, iEnumM, gVar, gsNil, gsCons, gTupM, eLc, lc1, for1, tTrue, S.wipe, wipeE, ePop, ePopAt, S.isList, S.bound, eMove, capL, eIsi, D.isT, eDict0, eDisp, eDispL, eCell, psNil, psCons, D.key, isNon_non, isNon_int, isNon_str, isNon_tup, isNon_lst, isNon_bl, isNon_dct, Option.map, Option.bind, Option.isSome_some, Option.isSome_none, List.getElem?_cons_zero, List.getElem?_cons_succ, List.set_cons_zero, List.set_cons_succ, List.map_cons, List.map_nil, List.length_cons, List.length_nil, List.replicate_succ, List.replicate_zero, List.cons_append, List.nil_append, List.append_nil, Nat.reduceSub, Nat.reduceAdd, Nat.reduceEqDiff, decide_true, decide_false, if_true, if_false, ite_true, ite_false, reduceIte, Bool.false_eq_true, Nat.reduceLT, Nat.zero_lt_succ, Nat.lt_add_one, Nat.zero_add, true_and, and_true, or_true, true_or, false_and, and_false, false_or, or_false, Bool.not_true, Bool.not_false, Nat.succ_lt_succ_iff, Nat.add_lt_add_iff_right, beq_self_eq_true, String.reduceBEq, Bool.or_true, Bool.true_or, Bool.or_false, Bool.false_or, Bool.and_true, Bool.true_and, Bool.and_false, Bool.false_and, Int.cast_ofNat_Int, Int.reduceBEq, Int.reduceLT, Int.reduceLE, Int.reduceAdd, Int.reduceSub, Int.reduceMul, Int.reduceNeg, Int.natCast_zero, Int.natCast_one, sz_0, sz_1, sz_2, sz_3, sz_4, sz_5, sz_6, sz_7, sz_8, sz_9, sz_10, sz_11, sz_12, sz_13, sz_14, sz_15, sz_16, e1, e2, e3, e4, a2, a3, big, hup]
    refine for_q (fun (i : Nat) => D.int (0 + (i : Int))) (fun pre s => ∃ (ps : List Pe) (stx : St) (j7 j8 j9 j10 j11 : Option (Nat × D)), s = ⟨[some (0, .cell n), some (0, .int most), some (0, .int way), some (0, .int many), some (0, .tup [.int (1 + wt), .int dp]), some (1, .lst ((ps.map (·.1)).map D.str)), some (1, .lst (ps.map pD)), j7, j8, j9, j10, j11], stx⟩ ∧ GoodP (("" : Str)) ps ∧ (∀ p ∈ ps, isName p.1 = true) ∧ (∀ p ∈ ps, 1 ≤ p.2.2 ∧ p.2.2 ≤ 60) ∧ (ps.length : Int) ≤ many ∧ Draw n (b + 4 + 4 + 4 + 4 + 52 * pre.length) stx ∧ stx.length = st.length) (List.range k) rfl ?_ ⟨[], st4, none, none, none, none, none, rfl, ⟨by simp, fun pre p post e => by simp at e⟩, fun p h => (by cases h), fun p h => (by cases h), by simpa using n0, d4.mono (by simp), by omega⟩ ?_
    · rintro pre i post s e ⟨ps, stx, j7, j8, j9, j10, j11, rfl, gp, gn, gt, gl, dx, lx⟩
      have hlen : pre.length ≤ 32 := by
        have := congrArg List.length e
        simp at this; omega
      obtain ⟨x, s1, f1, hx, t1, k1⟩ := hw n _ stx dx (by omega)
      obtain ⟨tk, s2, f2, tk0, tk1, t2, k2⟩ := hd n _ 60 s1 t1 (by omega) (by omega) (by omega)
      obtain ⟨ti, s3, f3, ti0, ti1, t3, k3⟩ := hd n _ 4 s2 t2 (by omega) (by omega) (by omega)
      obtain ⟨dd, hdm, hat⟩ := atI_of (l := [D.int 1, D.int 4, D.int 4, D.int (1 + tk)]) (i := ti) ti0 (by simp only [List.length_cons, List.length_nil]; omega)
      obtain ⟨talk, rfl, ht1⟩ : ∃ t : Int, dd = .int t ∧ (1 ≤ t ∧ t ≤ 60) := by
        simp only [List.mem_cons, List.mem_nil_iff, or_false] at hdm
        rcases hdm with z | z | z | z <;> exact ⟨_, z, by omega⟩
      have hpl : ps.length ≤ 16 := by omega
      have hz : szOk (1 + ((ps.map (·.1)).map D.str).length) = true := szOk_of (by simp; omega)
      obtain ⟨Ls, hLs, hne, hsub, hll⟩ : ∃ Ls : List Str, atI [D.lst (D.str (("" : Str)) :: (ps.map (·.1)).map D.str), D.lst (cutL (D.str (("" : Str)) :: (ps.map (·.1)).map D.str) (some (-1)) none), D.lst (cutL (D.str (("" : Str)) :: (ps.map (·.1)).map D.str) none (some 2)), D.lst (cutL (D.str (("" : Str)) :: (ps.map (·.1)).map D.str) (some (-3)) none)] way = some (.lst (Ls.map D.str)) ∧ Ls ≠ [] ∧ (∀ y ∈ Ls, y ∈ (("" : Str)) :: ps.map (·.1)) ∧ Ls.length ≤ (("" : Str) :: ps.map (·.1)).length := by
        have hcons : D.str (("" : Str)) :: (ps.map (·.1)).map D.str = ((("" : Str)) :: ps.map (·.1)).map D.str := rfl
        rw [hcons, cut_map, cut_map, cut_map, cut_2]
        have hc : way = 0 ∨ way = 1 ∨ way = 2 ∨ way = 3 := by omega
        rcases hc with z | z | z | z
        · rw [z, atI_0]; exact ⟨_, rfl, by simp, fun y h => h, Nat.le_refl _⟩
        · rw [z, atI_1]; exact ⟨_, rfl, cut_neg _ 1 (by omega) (by simp), cut_sub _ _ _, cut_len _ _ _⟩
        · rw [z, atI_2]; exact ⟨_, rfl, take2_ne (by simp), fun y h => List.mem_of_mem_take h, by rw [List.length_take]; omega⟩
        · rw [z, atI_3]; exact ⟨_, rfl, cut_neg _ 3 (by omega) (by simp), cut_sub _ _ _, cut_len _ _ _⟩
      rw [List.length_cons, List.length_map] at hll
      have hl0 : 0 < Ls.length := List.length_pos_iff.mpr hne
      obtain ⟨ci, s4, f4, ci0, ci1, t4, k4⟩ := hd n _ (((Ls.map D.str).length : Nat) : Int) s3 t3 (by omega) (by rw [List.length_map]; omega) (by rw [List.length_map]; omega)
      obtain ⟨cd, hcm, hat2⟩ := atI_of (l := Ls.map D.str) (i := ci) ci0 (by omega)
      obtain ⟨cl, hcl, rfl⟩ := List.mem_map.mp hcm
      have hcl2 := hsub cl hcl
      have dfin : Draw n (b + 4 + 4 + 4 + 4 + 52 * ((pre ++ [i]).length : Nat)) s4 := t4.mono (by rw [List.length_append, List.length_singleton]; omega)
      have lfin : List.length s4 = List.length st := by omega
      by_cases hin : x ∈ ps.map (·.1)
      · have hin' : decide (x ∈ ps.map (·.1)) = true := decide_eq_true hin
        simp only [sSeq_eq, seq_nx', seq_rt', seq_bk', seq_ct', bind_ok', then_ok', opt_some', toB_ok', eCall_eq, back_ok', eCallL_eq, looksL_some, sNil, sBreak, sCont, sExpr, sRet, sRetN, sIf, sSet, sAsg, sPar2, par2K, sPar3, par3K, sFor, sAppend, sExtend, sDPut, storeK, sSubApp, eOf, eV, oV, eC, eVar, oVar, eTup, eLst, vsNil, vsCons, osNil, osCons, lsNil, lsCons, eOp, binD, cmpP, cm_eq_str, cm_ne_str, cm_eq_int, cm_ne_int, cm_lt, cm_le, cm_gt, cm_ge, cm_slt, cm_sle, cm_is, cm_isnot, cm_in_tup, cm_nin_tup, cm_in_lst, cm_nin_lst, cm_in_dct, cm_nin_dct, cm_in_str, cm_ne_nn, cm_eq_nn, Nat.le_refl, Nat.zero_le, Nat.reduceLeDiff, big_0, seqIx_0, List.eraseIdx_cons_zero, pop_last, drop_last, max2, eSortK, atI_0, atI_1, atI_2, atI_3, atI_4, tCmp, tChain2, eT, tAnd2, tOr2, tNot1, bOf, eAnd2, eOr2, eNot1, eIf, truD, tTru, eSub, S.flat, S.look, S.looks, S.deref, subD, pNone, pSome, eSlice, sliceD, eRev, eCallB, iVal, itemsD, iRange1, iRange2, iEnumM, gVar, gsNil, gsCons, gTupM, eLc, lc1, for1, tTrue, S.wipe, wipeE, ePop, ePopAt, S.isList, S.bound, eMove, capL, eIsi, D.isT, eDict0, eDisp, eDispL, eCell, psNil, psCons, D.key, isNon_non, isNon_int, isNon_str, isNon_tup, isNon_lst, isNon_bl, isNon_dct, Option.map, Option.bind, Option.isSome_some, Option.isSome_none, List.getElem?_cons_zero, List.getElem?_cons_succ, List.set_cons_zero, List.set_cons_succ, List.map_cons, List.map_nil, List.length_cons, List.length_nil, List.replicate_succ, List.replicate_zero, List.cons_append, List.nil_append, List.append_nil, Nat.reduceSub, Nat.reduceAdd, Nat.reduceEqDiff, decide_true, decide_false, if_true, if_false, ite_true, ite_false, reduceIte, Bool.false_eq_true, Nat.reduceLT, Nat.zero_lt_succ, Nat.lt_add_one, Nat.zero_add, true_and, and_true, or_true, true_or, false_and, and_false, false_or, or_false, Bool.not_true, Bool.not_false, Nat.succ_lt_succ_iff, Nat.add_lt_add_iff_right, beq_self_eq_true, String.reduceBEq, Bool.or_true, Bool.true_or, Bool.or_false, Bool.false_or, Bool.and_true, Bool.true_and, Bool.and_false, Bool.false_and, Int.cast_ofNat_Int, Int.reduceBEq, Int.reduceLT, Int.reduceLE, Int.reduceAdd, Int.reduceSub, Int.reduceMul, Int.reduceNeg, Int.natCast_zero, Int.natCast_one, sz_0, sz_1, sz_2, sz_3, sz_4, sz_5, sz_6, sz_7, sz_8, sz_9, sz_10, sz_11, sz_12, sz_13, sz_14, sz_15, sz_16, f1, f2, f3, hat, hz, hLs, lenD, f4, hat2, hin']
        exact ⟨ps, s4, _, _, _, _, _, rfl, gp, gn, gt, gl, dfin, lfin⟩
      · have hin' : decide (x ∈ ps.map (·.1)) = false := decide_eq_false hin
        by_cases hlt : ((((ps.map (·.1)).map D.str).length : Nat) : Int) < many
        · have hlt' : decide (((((ps.map (·.1)).map D.str).length : Nat) : Int) < many) = true := decide_eq_true hlt
          have hz2 : szOk ((ps.map (·.1)).map D.str).length = true := szOk_of (by simp; omega)
          have hz3 : szOk (ps.map pD).length = true := szOk_of (by simp; omega)
          simp only [sSeq_eq, seq_nx', seq_rt', seq_bk', seq_ct', bind_ok', then_ok', opt_some', toB_ok', eCall_eq, back_ok', eCallL_eq, looksL_some, sNil, sBreak, sCont, sExpr, sRet, sRetN, sIf, sSet, sAsg, sPar2, par2K, sPar3, par3K, sFor, sAppend, sExtend, sDPut, storeK, sSubApp, eOf, eV, oV, eC, eVar, oVar, eTup, eLst, vsNil, vsCons, osNil, osCons, lsNil, lsCons, eOp, binD, cmpP, cm_eq_str, cm_ne_str, cm_eq_int, cm_ne_int, cm_lt, cm_le, cm_gt, cm_ge, cm_slt, cm_sle, cm_is, cm_isnot, cm_in_tup, cm_nin_tup, cm_in_lst, cm_nin_lst, cm_in_dct, cm_nin_dct, cm_in_str, cm_ne_nn, cm_eq_nn, Nat.le_refl, Nat.zero_le, Nat.reduceLeDiff, big_0, seqIx_0, List.eraseIdx_cons_zero, pop_last, drop_last, max2, eSortK, atI_0, atI_1, atI_2, atI_3, atI_4, tCmp, tChain2, eT, tAnd2, tOr2, tNot1, bOf, eAnd2, eOr2, eNot1, eIf, truD, tTru, eSub, S.flat, S.look, S.looks, S.deref, subD, pNone, pSome, eSlice, sliceD, eRev, eCallB, iVal, itemsD, iRange1, iRange2, iEnumM, gVar, gsNil, gsCons, gTupM, eLc, lc1, for1, tTrue, S.wipe, wipeE, ePop, ePopAt, S.isList, S.bound, eMove, capL, eIsi, D.isT, eDict0, eDisp, eDispL, eCell, psNil, psCons, D.key, isNon_non, isNon_int, isNon_str, isNon_tup, isNon_lst, isNon_bl, isNon_dct, Option.map, Option.bind, Option.isSome_some, Option.isSome_none, List.getElem?_cons_zero, List.getElem?_cons_succ, List.set_cons_zero, List.set_cons_succ, List.map_cons, List.map_nil, List.length_cons, List.length_nil, List.replicate_succ, List.replicate_zero, List.cons_append, List.nil_append, List.append_nil, Nat.reduceSub, Nat.reduceAdd, Nat.reduceEqDiff, decide_true, decide_false, if_true, if_false, ite_true, ite_false, reduceIte, Bool.false_eq_true, Nat.reduceLT, Nat.zero_lt_succ, Nat.lt_add_one, Nat.zero_add, true_and, and_true, or_true, true_or, false_and, and_false, false_or, or_false, Bool.not_true, Bool.not_false, Nat.succ_lt_succ_iff, Nat.add_lt_add_iff_right, beq_self_eq_true, String.reduceBEq, Bool.or_true, Bool.true_or, Bool.or_false, Bool.false_or, Bool.and_true, Bool.true_and, Bool.and_false, Bool.false_and, Int.cast_ofNat_Int, Int.reduceBEq, Int.reduceLT, Int.reduceLE, Int.reduceAdd, Int.reduceSub, Int.reduceMul, Int.reduceNeg, Int.natCast_zero, Int.natCast_one, sz_0, sz_1, sz_2, sz_3, sz_4, sz_5, sz_6, sz_7, sz_8, sz_9, sz_10, sz_11, sz_12, sz_13, sz_14, sz_15, sz_16, f1, f2, f3, hat, hz, hLs, lenD, f4, hat2, hin', hlt', hz2, hz3]
          have hx0 := isName_len hx
          have hnb : x ∉ (("" : Str)) :: ps.map (·.1) := by
            intro z
            rcases List.mem_cons.mp z with z | z
            · rw [z] at hx0; exact absurd hx0.1 (by decide)
            · exact hin z
          refine ⟨ps ++ [(x, cl, talk)], s4, some (0, .int (0 + (i : Int))), some (0, .str x), some (0, .int talk), some (0, .lst (Ls.map D.str)), some (0, .str cl), ?_, good_snoc gp hnb hcl2, fun p hp => ?_, fun p hp => ?_, ?_, dfin, lfin⟩
          rotate_left
          · rcases List.mem_append.mp hp with z | z
            · exact gn p z
            · rw [List.mem_singleton] at z; subst z; exact hx
          · rcases List.mem_append.mp hp with z | z
            · exact gt p z
            · rw [List.mem_singleton] at z; subst z; exact ht1
          · rw [List.length_map, List.length_map] at hlt
            rw [List.length_append, List.length_singleton]; omega
          · simp only [List.map_append, List.map_cons, List.map_nil, pD]
        · have hlt' : decide (((((ps.map (·.1)).map D.str).length : Nat) : Int) < many) = false := decide_eq_false hlt
          simp only [sSeq_eq, seq_nx', seq_rt', seq_bk', seq_ct', bind_ok', then_ok', opt_some', toB_ok', eCall_eq, back_ok', eCallL_eq, looksL_some, sNil, sBreak, sCont, sExpr, sRet, sRetN, sIf, sSet, sAsg, sPar2, par2K, sPar3, par3K, sFor, sAppend, sExtend, sDPut, storeK, sSubApp, eOf, eV, oV, eC, eVar, oVar, eTup, eLst, vsNil, vsCons, osNil, osCons, lsNil, lsCons, eOp, binD, cmpP, cm_eq_str, cm_ne_str, cm_eq_int, cm_ne_int, cm_lt, cm_le, cm_gt, cm_ge, cm_slt, cm_sle, cm_is, cm_isnot, cm_in_tup, cm_nin_tup, cm_in_lst, cm_nin_lst, cm_in_dct, cm_nin_dct, cm_in_str, cm_ne_nn, cm_eq_nn, Nat.le_refl, Nat.zero_le, Nat.reduceLeDiff, big_0, seqIx_0, List.eraseIdx_cons_zero, pop_last, drop_last, max2, eSortK, atI_0, atI_1, atI_2, atI_3, atI_4, tCmp, tChain2, eT, tAnd2, tOr2, tNot1, bOf, eAnd2, eOr2, eNot1, eIf, truD, tTru, eSub, S.flat, S.look, S.looks, S.deref, subD, pNone, pSome, eSlice, sliceD, eRev, eCallB, iVal, itemsD, iRange1, iRange2, iEnumM, gVar, gsNil, gsCons, gTupM, eLc, lc1, for1, tTrue, S.wipe, wipeE, ePop, ePopAt, S.isList, S.bound, eMove, capL, eIsi, D.isT, eDict0, eDisp, eDispL, eCell, psNil, psCons, D.key, isNon_non, isNon_int, isNon_str, isNon_tup, isNon_lst, isNon_bl, isNon_dct, Option.map, Option.bind, Option.isSome_some, Option.isSome_none, List.getElem?_cons_zero, List.getElem?_cons_succ, List.set_cons_zero, List.set_cons_succ, List.map_cons, List.map_nil, List.length_cons, List.length_nil, List.replicate_succ, List.replicate_zero, List.cons_append, List.nil_append, List.append_nil, Nat.reduceSub, Nat.reduceAdd, Nat.reduceEqDiff, decide_true, decide_false, if_true, if_false, ite_true, ite_false, reduceIte, Bool.false_eq_true, Nat.reduceLT, Nat.zero_lt_succ, Nat.lt_add_one, Nat.zero_add, true_and, and_true, or_true, true_or, false_and, and_false, false_or, or_false, Bool.not_true, Bool.not_false, Nat.succ_lt_succ_iff, Nat.add_lt_add_iff_right, beq_self_eq_true, String.reduceBEq, Bool.or_true, Bool.true_or, Bool.or_false, Bool.false_or, Bool.and_true, Bool.true_and, Bool.and_false, Bool.false_and, Int.cast_ofNat_Int, Int.reduceBEq, Int.reduceLT, Int.reduceLE, Int.reduceAdd, Int.reduceSub, Int.reduceMul, Int.reduceNeg, Int.natCast_zero, Int.natCast_one, sz_0, sz_1, sz_2, sz_3, sz_4, sz_5, sz_6, sz_7, sz_8, sz_9, sz_10, sz_11, sz_12, sz_13, sz_14, sz_15, sz_16, f1, f2, f3, hat, hz, hLs, lenD, f4, hat2, hin', hlt']
          exact ⟨ps, s4, _, _, _, _, _, rfl, gp, gn, gt, gl, dfin, lfin⟩
    · rintro s' ⟨ps, stx, j7, j8, j9, j10, j11, rfl, gp, gn, gt, gl, dx, lx⟩
      rw [List.length_range] at dx
      have ne1 : (D.int (1 + wt) :: [D.int dp] = []) = False := by simp
      have ne2 : ([D.tup (ps.map pD)] = []) = False := by simp
      simp only [sSeq_eq, seq_nx', seq_rt', seq_bk', seq_ct', bind_ok', then_ok', opt_some', toB_ok', eCall_eq, back_ok', eCallL_eq, looksL_some, sNil, sBreak, sCont, sExpr, sRet, sRetN, sIf, sSet, sAsg, sPar2, par2K, sPar3, par3K, sFor, sAppend, sExtend, sDPut, storeK, sSubApp, eOf, eV, oV, eC, eVar, oVar, eTup, eLst, vsNil, vsCons, osNil, osCons, lsNil, lsCons, eOp, binD, cmpP, cm_eq_str, cm_ne_str, cm_eq_int, cm_ne_int, cm_lt, cm_le, cm_gt, cm_ge, cm_slt, cm_sle, cm_is, cm_isnot, cm_in_tup, cm_nin_tup, cm_in_lst, cm_nin_lst, cm_in_dct, cm_nin_dct, cm_in_str, cm_ne_nn, cm_eq_nn, Nat.le_refl, Nat.zero_le, Nat.reduceLeDiff, big_0, seqIx_0, List.eraseIdx_cons_zero, pop_last, drop_last, max2, eSortK, atI_0, atI_1, atI_2, atI_3, atI_4, tCmp, tChain2, eT, tAnd2, tOr2, tNot1, bOf, eAnd2, eOr2, eNot1, eIf, truD, tTru, eSub, S.flat, S.look, S.looks, S.deref, subD, pNone, pSome, eSlice, sliceD, eRev, eCallB, iVal, itemsD, iRange1, iRange2, iEnumM, gVar, gsNil, gsCons, gTupM, eLc, lc1, for1, tTrue, S.wipe, wipeE, ePop, ePopAt, S.isList, S.bound, eMove, capL, eIsi, D.isT, eDict0, eDisp, eDispL, eCell, psNil, psCons, D.key, isNon_non, isNon_int, isNon_str, isNon_tup, isNon_lst, isNon_bl, isNon_dct, Option.map, Option.bind, Option.isSome_some, Option.isSome_none, List.getElem?_cons_zero, List.getElem?_cons_succ, List.set_cons_zero, List.set_cons_succ, List.map_cons, List.map_nil, List.length_cons, List.length_nil, List.replicate_succ, List.replicate_zero, List.cons_append, List.nil_append, List.append_nil, Nat.reduceSub, Nat.reduceAdd, Nat.reduceEqDiff, decide_true, decide_false, if_true, if_false, ite_true, ite_false, reduceIte, Bool.false_eq_true, Nat.reduceLT, Nat.zero_lt_succ, Nat.lt_add_one, Nat.zero_add, true_and, and_true, or_true, true_or, false_and, and_false, false_or, or_false, Bool.not_true, Bool.not_false, Nat.succ_lt_succ_iff, Nat.add_lt_add_iff_right, beq_self_eq_true, String.reduceBEq, Bool.or_true, Bool.true_or, Bool.or_false, Bool.false_or, Bool.and_true, Bool.true_and, Bool.and_false, Bool.false_and, Int.cast_ofNat_Int, Int.reduceBEq, Int.reduceLT, Int.reduceLE, Int.reduceAdd, Int.reduceSub, Int.reduceMul, Int.reduceNeg, Int.natCast_zero, Int.natCast_one, sz_0, sz_1, sz_2, sz_3, sz_4, sz_5, sz_6, sz_7, sz_8, sz_9, sz_10, sz_11, sz_12, sz_13, sz_14, sz_15, sz_16, tupleD, ne_eq, ne1, ne2, not_false_eq_true]
      exact ⟨1 + wt, dp, ps, rfl, ⟨by omega, by omega, by omega, gn, gt, gp⟩, by omega, dx.mono (by omega), lx⟩
  obtain ⟨p, st', e, w, d, ps, rfl, h⟩ := run_fin main
  exact ⟨w, d, ps, st', e, h⟩
/-! ### who is away -/
def leS (x y : Str) : Bool := !decide (y.cps.toList < x.cps.toList)
theorem leS_eq (x y : Str) : PySem.W.dataLe false D.py (.str x) (.str y) = leS x y := by
  have := PySem.W.dataLt_str y x
  unfold leS
  rw [← this]; rfl
def sortS (xs : List Str) : List Str := xs.mergeSort leS
theorem sortL_strs (xs : List Str) : sortL (xs.map D.str) = (sortS xs).map D.str := by
  unfold sortL sortS
  exact (PySem.W.sort_maps (r := leS) (s := PySem.W.dataLe false D.py) D.str (l := xs) (fun a _ b _ => (leS_eq a b).symm)).symm
theorem sortOk_strs (xs : List Str) (h : xs.length ≤ 1000000) : sortOk (xs.map D.str) = true := by
  unfold sortOk
  rw [Bool.and_eq_true, Bool.and_eq_true, Bool.and_eq_true]
  refine ⟨⟨⟨fits_strs xs, ?_⟩, ?_⟩, szOk_of (by rw [List.length_map]; exact h)⟩
  · unfold alikeB
    rw [List.map_map, List.all_map, List.all_eq_true]
    intro c _
    show ((xs.map (D.py ∘ D.str)).all fun e => PySem.W.alike (D.str c).py e) = true
    rw [List.all_map, List.all_eq_true]
    intro c' _
    show PySem.W.alike (.str c) (.str c') = true
    simp [PySem.W.alike]
  · unfold sortableB
    rw [Bool.or_eq_true]
    right
    rw [List.map_map, List.all_map, List.all_eq_true]
    exact fun c _ => rfl
theorem leS_total : PySem.W.TotalLe leS := by
  have tot : PySem.W.TotalLe (PySem.W.dataLe false D.py) := PySem.W.sortLe_total _ _ _
  exact ⟨fun a b c h1 h2 => by rw [← leS_eq] at *; exact tot.trans _ _ _ h1 h2, fun a b => by rw [← leS_eq, ← leS_eq]; exact tot.total _ _⟩
theorem lt_of_leS {x y : Str} (h : leS x y = true) (hne : x ≠ y) : x.cps.toList < y.cps.toList := by
  unfold leS at h
  rw [Bool.not_eq_true', decide_eq_false_iff_not] at h
  by_cases h2 : x.cps.toList < y.cps.toList
  · exact h2
  · exfalso
    apply hne
    apply PySem.W.str_of_cps
    exact List.le_antisymm (List.not_lt.mp h) (List.not_lt.mp h2)
theorem away_sorted {ps : List Pe} {xs : List Str} (nd : (ps.map (·.1)).Nodup) (h : xs.Sublist (ps.map (·.1))) : AwayOk ps (sortS xs) := by
  have hp : (sortS xs).Perm xs := List.mergeSort_perm _ _
  refine ⟨fun x hx => h.subset (hp.mem_iff.mp hx), fun pre x y post e => ?_⟩
  have h1 := PySem.W.sort_pairwise leS_total xs
  have h2 : (sortS xs).Nodup := hp.nodup_iff.mpr (nd.sublist h)
  rw [show xs.mergeSort leS = sortS xs from rfl, e] at h1
  rw [e] at h2
  have q1 := (List.pairwise_append.mp h1).2.1
  have q2 := (List.nodup_append.mp h2).2.1
  exact lt_of_leS ((List.pairwise_cons.mp q1).1 y (by simp)) (fun z => (List.nodup_cons.mp q2).1 (by simp [z]))
def LawAwayOk (f : List D → S → R (Nat × D)) : Prop := ∀ (n : Nat) (b w d : Int) (ps : List Pe) (st : St), Draw n b st → b ≤ 20000000 → TreeOk w d ps → ∃ (aw : List Str) (st' : St), f [.cell n, treeD w d ps] ⟨[], st⟩ = .ok (0, namesD aw) ⟨[], st'⟩ ∧ AwayOk ps aw ∧ Draw n (b + 100) st' ∧ st'.length = st.length
theorem law_away_ok (C : Call) (hd : DigitOk (C "_law_digit")) : LawAwayOk (f_law_away C) := by
  intro n b w d ps st dr hb ok
  have hn := ok.n
  have main : Fin (fun p st' => ∃ (aw : List Str), p = (0, namesD aw) ∧ AwayOk ps aw ∧ Draw n (b + 100) st' ∧ st'.length = st.length) (m_law_away C ⟨[D.cell n, treeD w d ps].map (fun d => some (0, d)) ++ List.replicate (4 - [D.cell n, treeD w d ps].length) none, st⟩) := by
    unfold m_law_away treeD
    obtain ⟨v, st1, e1, v0, v1, d1, l1⟩ := hd n b 5 st dr (by omega) (by omega) (by omega)
    obtain ⟨dd, hdm, hat⟩ := atI_of (l := [D.int 1, D.int 2, D.int 2, D.int 3, D.int 8]) (i := v) v0 (by simp only [List.length_cons, List.length_nil]; omega)
    obtain ⟨sh, rfl, hs⟩ : ∃ t : Int, dd = .int t ∧ (1 ≤ t ∧ t ≤ 8) := by
      simp only [List.mem_cons, List.mem_nil_iff, or_false] at hdm
      rcases hdm with z | z | z | z | z <;> exact ⟨_, z, by omega⟩
    obtain ⟨ys, s2, e2, xs, st2, rfl, hsub, rfl, d2, l2⟩ := lcM_gen (own := [3]) (g := gVar 3) (t := tCmp .Eq (oV (eV (eCall C "_law_digit" (vsCons (eVar 0) (vsCons (eVar 2) vsNil)) []))) (oV (eC (.int 0)))) (m := eSub (oVar 3) (oV (eC (.int 0)))) pD
      (fun pre acc s => ∃ (xs : List Str) (st2 : St), acc = xs.map D.str ∧ xs.Sublist (pre.map (·.1)) ∧ s = ⟨[some (0, .cell n), some (0, .tup [.int w, .int d, .tup (ps.map pD)]), some (0, .int sh), none], st2⟩ ∧ Draw n (b + 4 + 4 * pre.length) st2 ∧ st2.length = st.length) ps (by
        rintro pre p post acc s e ⟨xs, st2, rfl, hsub, rfl, d2, l2⟩
        have hlen : pre.length ≤ 16 := by
          have := congrArg List.length e
          simp at this; omega
        obtain ⟨u, st3, e3, u0, u1, d3, l3⟩ := hd n _ sh st2 d2 (by omega) (by omega) (by omega)
        have dfin : Draw n (b + 4 + 4 * ((pre ++ [p]).length : Nat)) st3 := d3.mono (by rw [List.length_append, List.length_singleton]; omega)
        cases hu : (u == 0) with
        | true =>
          refine ⟨some (.str p.1), ⟨[some (0, .cell n), some (0, .tup [.int w, .int d, .tup (ps.map pD)]), some (0, .int sh), none], st3⟩, ?_, xs ++ [p.1], st3, by simp, ?_, rfl, dfin, by omega⟩
          · simp only [sSeq_eq, seq_nx', seq_rt', seq_bk', seq_ct', bind_ok', then_ok', opt_some', toB_ok', eCall_eq, back_ok', eCallL_eq, looksL_some, sNil, sBreak, sCont, sExpr, sRet, sRetN, sIf, sSet, sAsg, sPar2, par2K, sPar3, par3K, sFor, sAppend, sExtend, sDPut, storeK, sSubApp, eOf, eV, oV, eC, eVar, oVar, eTup, eLst, vsNil, vsCons, osNil, osCons, lsNil, lsCons, eOp, binD, cmpP, cm_eq_str, cm_ne_str, cm_eq_int, cm_ne_int, cm_lt, cm_le, cm_gt, cm_ge, cm_slt, cm_sle, cm_is, cm_isnot, cm_in_tup, cm_nin_tup, cm_in_lst, cm_nin_lst, cm_in_dct, cm_nin_dct, cm_in_str, cm_ne_nn, cm_eq_nn, Nat.le_refl, Nat.zero_le, Nat.reduceLeDiff, big_0, seqIx_0, List.eraseIdx_cons_zero, pop_last, drop_last, max2, eSortK, atI_0, atI_1, atI_2, atI_3, atI_4, tCmp, tChain2, eT, tAnd2, tOr2, tNot1, bOf, eAnd2, eOr2, eNot1, eIf, truD, tTru, eSub, S.flat, S.look, S.looks, S.deref, subD, pNone, pSome, eSlice, sliceD, eRev, eCallB, iVal, itemsD, iRange1, iRange2, iEnumM, gVar, gsNil, gsCons, gTupM, eLc, lc1, for1, tTrue, S.wipe, wipeE, ePop, ePopAt, S.isList, S.bound, eMove, capL, eIsi, D.isT, eDict0, eDisp, eDispL, eCell, psNil, psCons, D.key, isNon_non, isNon_int, isNon_str, isNon_tup, isNon_lst, isNon_bl, isNon_dct, Option.map, Option.bind, Option.isSome_some, Option.isSome_none, List.getElem?_cons_zero, List.getElem?_cons_succ, List.set_cons_zero, List.set_cons_succ, List.map_cons, List.map_nil, List.length_cons, List.length_nil, List.replicate_succ, List.replicate_zero, List.cons_append, List.nil_append, List.append_nil, Nat.reduceSub, Nat.reduceAdd, Nat.reduceEqDiff, decide_true, decide_false, if_true, if_false, ite_true, ite_false, reduceIte, Bool.false_eq_true, Nat.reduceLT, Nat.zero_lt_succ, Nat.lt_add_one, Nat.zero_add, true_and, and_true, or_true, true_or, false_and, and_false, false_or, or_false, Bool.not_true, Bool.not_false, Nat.succ_lt_succ_iff, Nat.add_lt_add_iff_right, beq_self_eq_true, String.reduceBEq, Bool.or_true, Bool.true_or, Bool.or_false, Bool.false_or, Bool.and_true, Bool.true_and, Bool.and_false, Bool.false_and, Int.cast_ofNat_Int, Int.reduceBEq, Int.reduceLT, Int.reduceLE, Int.reduceAdd, Int.reduceSub, Int.reduceMul, Int.reduceNeg, Int.natCast_zero, Int.natCast_one, sz_0, sz_1, sz_2, sz_3, sz_4, sz_5, sz_6, sz_7, sz_8, sz_9, sz_10, sz_11, sz_12, sz_13, sz_14, sz_15, sz_16, e3, hu, pD]
          · rw [List.map_append]; exact hsub.append (List.Sublist.refl _)
        | false =>
          refine ⟨none, ⟨[some (0, .cell n), some (0, .tup [.int w, .int d, .tup (ps.map pD)]), some (0, .int sh), none], st3⟩, ?_, xs, st3, by simp, ?_, rfl, dfin, by omega⟩
          · simp only [sSeq_eq, seq_nx', seq_rt', seq_bk', seq_ct', bind_ok', then_ok', opt_some', toB_ok', eCall_eq, back_ok', eCallL_eq, looksL_some, sNil, sBreak, sCont, sExpr, sRet, sRetN, sIf, sSet, sAsg, sPar2, par2K, sPar3, par3K, sFor, sAppend, sExtend, sDPut, storeK, sSubApp, eOf, eV, oV, eC, eVar, oVar, eTup, eLst, vsNil, vsCons, osNil, osCons, lsNil, lsCons, eOp, binD, cmpP, cm_eq_str, cm_ne_str, cm_eq_int, cm_ne_int, cm_lt, cm_le, cm_gt, cm_ge, cm_slt, cm_sle, cm_is, cm_isnot, cm_in_tup, cm_nin_tup, cm_in_lst, cm_nin_lst, cm_in_dct, cm_nin_dct, cm_in_str, cm_ne_nn, cm_eq_nn, Nat.le_refl, Nat.zero_le, Nat.reduceLeDiff, big_0, seqIx_0, List.eraseIdx_cons_zero, pop_last, drop_last, max2, eSortK, atI_0, atI_1, atI_2, atI_3, atI_4, tCmp, tChain2, eT, tAnd2, tOr2, tNot1, bOf, eAnd2, eOr2, eNot1, eIf, truD, tTru, eSub, S.flat, S.look, S.looks, S.deref, subD, pNone, pSome, eSlice, sliceD, eRev, eCallB, iVal, itemsD, iRange1, iRange2, iEnumM, gVar, gsNil, gsCons, gTupM, eLc, lc1, for1, tTrue, S.wipe, wipeE, ePop, ePopAt, S.isList, S.bound, eMove, capL, eIsi, D.isT, eDict0, eDisp, eDispL, eCell, psNil, psCons, D.key, isNon_non, isNon_int, isNon_str, isNon_tup, isNon_lst, isNon_bl, isNon_dct, Option.map, Option.bind, Option.isSome_some, Option.isSome_none, List.getElem?_cons_zero, List.getElem?_cons_succ, List.set_cons_zero, List.set_cons_succ, List.map_cons, List.map_nil, List.length_cons, List.length_nil, List.replicate_succ, List.replicate_zero, List.cons_append, List.nil_append, List.append_nil, Nat.reduceSub, Nat.reduceAdd, Nat.reduceEqDiff, decide_true, decide_false, if_true, if_false, ite_true, ite_false, reduceIte, Bool.false_eq_true, Nat.reduceLT, Nat.zero_lt_succ, Nat.lt_add_one, Nat.zero_add, true_and, and_true, or_true, true_or, false_and, and_false, false_or, or_false, Bool.not_true, Bool.not_false, Nat.succ_lt_succ_iff, Nat.add_lt_add_iff_right, beq_self_eq_true, String.reduceBEq, Bool.or_true, Bool.true_or, Bool.or_false, Bool.false_or, Bool.and_true, Bool.true_and, Bool.and_false, Bool.false_and, Int.cast_ofNat_Int, Int.reduceBEq, Int.reduceLT, Int.reduceLE, Int.reduceAdd, Int.reduceSub, Int.reduceMul, Int.reduceNeg, Int.natCast_zero, Int.natCast_one, sz_0, sz_1, sz_2, sz_3, sz_4, sz_5, sz_6, sz_7, sz_8, sz_9, sz_10, sz_11, sz_12, sz_13, sz_14, sz_15, sz_16, e3, hu, pD]
          · rw [List.map_append]; exact hsub.trans (List.sublist_append_left _ _)) ps [] [] ⟨[some (0, .cell n), some (0, .tup [.int w, .int d, .tup (ps.map pD)]), some (0, .int sh), none], st1⟩ rfl (by simp; omega) ⟨[], st1, rfl, by simp, rfl, d1.mono (by simp), l1⟩
    have hxl := hsub.length_le
    rw [List.length_map] at hxl
    have hso := sortOk_strs xs (by omega)
    simp only [sSeq_eq, seq_nx', seq_rt', seq_bk', seq_ct', bind_ok', then_ok', opt_some', toB_ok', eCall_eq, back_ok', eCallL_eq, looksL_some, sNil, sBreak, sCont, sExpr, sRet, sRetN, sIf, sSet, sAsg, sPar2, par2K, sPar3, par3K, sFor, sAppend, sExtend, sDPut, storeK, sSubApp, eOf, eV, oV, eC, eVar, oVar, eTup, eLst, vsNil, vsCons, osNil, osCons, lsNil, lsCons, eOp, binD, cmpP, cm_eq_str, cm_ne_str, cm_eq_int, cm_ne_int, cm_lt, cm_le, cm_gt, cm_ge, cm_slt, cm_sle, cm_is, cm_isnot, cm_in_tup, cm_nin_tup, cm_in_lst, cm_nin_lst, cm_in_dct, cm_nin_dct, cm_in_str, cm_ne_nn, cm_eq_nn, Nat.le_refl, Nat.zero_le, Nat.reduceLeDiff, big_0, seqIx_0, List.eraseIdx_cons_zero, pop_last, drop_last, max2, eSortK, atI_0, atI_1, atI_2, atI_3, atI_4, tCmp, tChain2, eT, tAnd2, tOr2, tNot1, bOf, eAnd2, eOr2, eNot1, eIf, truD, tTru, eSub, S.flat, S.look, S.looks, S.deref, subD, pNone, pSome, eSlice, sliceD, eRev, eCallB, iVal, itemsD, iRange1, iRange2, iEnumM, gVar, gsNil, gsCons, gTupM, eLc, lc1, for1, tTrue, S.wipe, wipeE, ePop, ePopAt, S.isList, S.bound, eMove, capL, eIsi, D.isT, eDict0, eDisp, eDispL, eCell, psNil, psCons, D.key, isNon_non, isNon_int, isNon_str, isNon_tup, isNon_lst, isNon_bl, isNon_dct, Option.map, Option.bind, Option.isSome_some, Option.isSome_none, List.getElem?_cons_zero, List.getElem?_cons_succ, List.set_cons_zero, List.set_cons_succ, List.map_cons, List.map_nil, List.length_cons, List.length_nil, List.replicate_succ, List.replicate_zero, List.cons_append, List.nil_append, List.append_nil, Nat.reduceSub, Nat.reduceAdd, Nat.reduceEqDiff, decide_true, decide_false, if_true, if_false, ite_true, ite_false, reduceIte, Bool.false_eq_true, Nat.reduceLT, Nat.zero_lt_succ, Nat.lt_add_one, Nat.zero_add, true_and, and_true, or_true, true_or, false_and, and_false, false_or, or_false, Bool.not_true, Bool.not_false, Nat.succ_lt_succ_iff, Nat.add_lt_add_iff_right, beq_self_eq_true, String.reduceBEq, Bool.or_true, Bool.true_or, Bool.or_false, Bool.false_or, Bool.and_true, Bool.true_and, Bool.and_false, Bool.false_and, Int.cast_ofNat_Int, Int.reduceBEq, Int.reduceLT, Int.reduceLE, Int.reduceAdd, Int.reduceSub, Int.reduceMul, Int.reduceNeg, Int.natCast_zero, Int.natCast_one, sz_0, sz_1, sz_2, sz_3, sz_4, sz_5, sz_6, sz_7, sz_8, sz_9, sz_10, sz_11, sz_12, sz_13, sz_14, sz_15, sz_16, e1, hat, e2, sortD, hso, sortL_strs, tupleD]
    exact ⟨sortS xs, rfl, away_sorted (List.nodup_cons.mp ok.good.nd).2 hsub, d2.mono (by omega), l2⟩
  obtain ⟨p, st', e, aw, rfl, h⟩ := run_fin main
  exact ⟨aw, st', e, h⟩
end G
-- part Sp10
set_option Elab.async false
set_option linter.all false
set_option maxRecDepth 100000
set_option maxHeartbeats 4000000
set_option autoImplicit false
/-! Sp10: what is shown. -/
namespace G
open PySem PySem.Spec Rd L2 Ring
theorem piled_le {B : Nat} : ∀ {ts : List Str}, (∀ t ∈ ts, t.length ≤ B) → piled ts ≤ (B + 2) * ts.length
  | [], _ => by simp [piled]
  | t :: r, h => by
    have := piled_le (ts := r) fun t ht => h t (by simp [ht])
    have h1 := h t (by simp)
    rw [piled_cons, List.length_cons, Nat.mul_succ]
    omega
theorem join_le (ts : List Str) : (Str.join ((", " : String) : Str) ts).length ≤ piled ts := by
  by_cases h : ts = []
  · subst h; simp [piled]; rfl
  · have := join_length_add ts h; omega
theorem listText_le (ts : List Str) : (listText ts).length ≤ piled ts + 2 := by
  unfold listText
  rw [strLen_append]
  have h1 := textFrom_len_le ts 0 (("[" : Str))
  have e1 : ((("[" : String) : Str)).length = 1 := rfl
  have e2 : ((("]" : String) : Str)).length = 1 := rfl
  have e3 : piled ts = (ts.map (·.length)).sum + 2 * ts.length := by
    clear h1
    induction ts with
    | nil => simp [piled]
    | cons t r ih => rw [piled_cons, ih, List.map_cons, List.sum_cons, List.length_cons]; omega
  rw [e1] at h1
  rw [e2]; omega
theorem tupleText_le (ts : List Str) : (tupleText ts).length ≤ piled ts + 3 := by
  unfold tupleText
  rw [strLen_append, strLen_append]
  have := join_le ts
  have e1 : ((("(" : String) : Str)).length = 1 := rfl
  have e3 : (((if ts.length == 1 then ",)" else ")" : String) : Str)).length ≤ 2 := by split <;> decide
  rw [e1]; omega
theorem shownAll_map : ∀ xs : List PyData, PyData.shownAll xs = xs.map PyData.shown
  | [] => rfl
  | x :: xs => by rw [PyData.shownAll, shownAll_map xs, List.map_cons]
theorem shown_list_le {B : Nat} {xs : List PyData} (h : ∀ x ∈ xs, x.shown.length ≤ B) : (PyData.list xs).shown.length ≤ (B + 2) * xs.length + 2 := by
  rw [PyData.shown, shownAll_map]
  have h1 := listText_le (xs.map PyData.shown)
  have h2 := piled_le (B := B) (ts := xs.map PyData.shown) (fun t ht => by obtain ⟨x, hx, rfl⟩ := List.mem_map.mp ht; exact h x hx)
  rw [List.length_map] at h2
  omega
theorem shown_tuple_le {B : Nat} {xs : List PyData} (h : ∀ x ∈ xs, x.shown.length ≤ B) : (PyData.tuple xs).shown.length ≤ (B + 2) * xs.length + 3 := by
  rw [PyData.shown, shownAll_map]
  have h1 := tupleText_le (xs.map PyData.shown)
  have h2 := piled_le (B := B) (ts := xs.map PyData.shown) (fun t ht => by obtain ⟨x, hx, rfl⟩ := List.mem_map.mp ht; exact h x hx)
  rw [List.length_map] at h2
  omega
theorem letters_lt : ∀ c ∈ letters, c < 16 ^ 8 := by decide
theorem shown_name_le {x : Str} (h : isName x = true ∨ x = "") : (PyData.str x).shown.length ≤ 82 := by
  rw [PyData.shown]
  have hl : x.length ≤ 8 ∧ ∀ c ∈ x.cps.toList, c < 16 ^ 8 := by
    rcases h with h | h
    · refine ⟨(isName_len h).2, fun c hc => letters_lt c ?_⟩
      unfold isName at h
      simp only [Bool.and_eq_true, List.all_eq_true, decide_eq_true_eq] at h
      exact h.2 c hc
    · subst h; exact ⟨by decide, fun c hc => by cases hc⟩
  have := PySem.StrLaws.reprText_len x hl.2
  omega
/-- a call that can be shown -/
structure CallOk (c : Cl Str) : Prop where
  b : 0 ≤ c.1 ∧ c.1 ≤ 2000
  e : 0 ≤ c.2.1 ∧ c.2.1 ≤ 2000
  x : isName c.2.2.1 = true ∨ c.2.2.1 = ""
  n : isName c.2.2.2.1 = true ∨ c.2.2.2.1 = ""
theorem shown_call {c : Cl Str} (h : CallOk c) : (callD c).py.shown.length ≤ 500 ∧ (callD c).py.showable = true := by
  have hb := h.b
  have he := h.e
  constructor
  · have := shown_tuple_le (B := 82) (xs := [PyData.int c.1, .int c.2.1, .str c.2.2.1, .str c.2.2.2.1, .bool c.2.2.2.2]) (fun y hy => by
      simp only [List.mem_cons, List.mem_nil_iff, or_false] at hy
      rcases hy with z | z | z | z | z
      · subst z; exact Nat.le_trans (PyData.shown_int_le2 (by omega) (by omega)) (by omega)
      · subst z; exact Nat.le_trans (PyData.shown_int_le2 (by omega) (by omega)) (by omega)
      · subst z; exact shown_name_le h.x
      · subst z; exact shown_name_le h.n
      · subst z; rw [PyData.shown]; cases c.2.2.2.2 <;> decide)
    exact Nat.le_trans this (by simp)
  · have l1 : c.1.natAbs.log2 < 1920 := by
      by_cases hz : c.1.natAbs = 0
      · rw [hz]; decide
      · exact (Nat.log2_lt hz).mpr (Nat.lt_of_lt_of_le (show c.1.natAbs < 2 ^ 11 by omega) (Nat.pow_le_pow_right (by omega) (by omega)))
    have l2 : c.2.1.natAbs.log2 < 1920 := by
      by_cases hz : c.2.1.natAbs = 0
      · rw [hz]; decide
      · exact (Nat.log2_lt hz).mpr (Nat.lt_of_lt_of_le (show c.2.1.natAbs < 2 ^ 11 by omega) (Nat.pow_le_pow_right (by omega) (by omega)))
    show PyData.showable (.tuple [.int c.1, .int c.2.1, .str c.2.2.1, .str c.2.2.2.1, .bool c.2.2.2.2]) = true
    simp only [PyData.showable, PyData.showableAll, decide_eq_true l1, decide_eq_true l2, Bool.and_self]
theorem pys_map : ∀ ds : List D, D.pys ds = ds.map D.py
  | [] => rfl
  | d :: ds => by rw [D.pys, pys_map ds, List.map_cons]
theorem showableAll_of' : ∀ {xs : List PyData}, (∀ x ∈ xs, PyData.showable x = true) → PyData.showableAll xs = true
  | [], _ => by rw [PyData.showableAll]
  | x :: xs, h => by
    rw [PyData.showableAll, h x (by simp), showableAll_of' fun y hy => h y (by simp [hy])]; rfl
theorem repr_lst {l : Nat} {xs : List D} {B : Nat} (hf : (D.lst xs).fits deep = true) (h : ∀ d ∈ xs, d.py.shown.length ≤ B ∧ d.py.showable = true) (hB : (B + 2) * xs.length + 2 ≤ 1000000) : reprD [(l, .lst xs)] = some (0, .str (D.lst xs).py.shown) := by
  show (if ((D.lst xs).fits deep && (D.lst xs).py.showable && szOk (D.lst xs).py.shown.length) = true then some (0, D.str (D.lst xs).py.shown) else none) = _
  have e : (D.lst xs).py = .list (xs.map D.py) := by rw [D.py, pys_map]
  rw [if_pos]
  rw [e, hf, Bool.true_and, Bool.and_eq_true]
  refine ⟨?_, szOk_of ?_⟩
  · rw [PyData.showable]
    exact showableAll_of' fun y hy => by obtain ⟨d, hd, rfl⟩ := List.mem_map.mp hy; exact (h d hd).2
  · have := shown_list_le (B := B) (xs := xs.map D.py) (fun y hy => by obtain ⟨d, hd, rfl⟩ := List.mem_map.mp hy; exact (h d hd).1)
    rw [List.length_map] at this
    omega
theorem sortC_mem {cs : List (Cl Str)} {x : D} (h : x ∈ sortC cs) : ∃ c ∈ cs, x = callD c := by
  unfold sortC sortKL at h
  have := (List.mergeSort_perm _ _).mem_iff.mp h
  obtain ⟨c, hc, rfl⟩ := List.mem_map.mp this
  exact ⟨c, hc, rfl⟩
theorem sortC_len (cs : List (Cl Str)) : (sortC cs).length = cs.length := by
  unfold sortC sortKL
  rw [(List.mergeSort_perm _ _).length_eq, List.length_map]
theorem total_len {w d : Int} {ps : List Pe} (ok : TreeOk w d ps) (aw : List Str) : (total w d ps aw).length ≤ 16 := by
  have h2 := lenF (aw := awB aw) (wait := w) (deep := d) (forest ps (("" : Str))) (("" : Str)) d 0
  rw [ok.good.size] at h2
  have := ok.n
  unfold total; omega
theorem total_ok {w d : Int} {ps : List Pe} (ok : TreeOk w d ps) (aw : List Str) : ∀ c ∈ total w d ps aw, CallOk c := by
  intro c hc
  obtain ⟨m', r⟩ := total_row ok aw
  have hw := ok.w
  have hn := ok.n
  have late := (lateF (aw := awB aw) (wait := w) (deep := d) (most := 60) (by omega) hw.2 (forest ps (("" : Str))) (("" : Str)) d 0 (talks_forest (P := fun t => t ≤ 60) (TalksLe 60) .nil (fun n t ks ts a b c => .cons a b c) ps _ fun p hp => (ok.tk p hp).2)).1 c hc
  rw [ok.good.size] at late
  have h1 := r.from_ c hc
  have nm : ∀ y ∈ preF (forest ps (("" : Str))), isName y = true := fun y hy => by
    have := ok.good.perm.mem_iff.mp hy
    obtain ⟨p, hp, rfl⟩ := List.mem_map.mp this
    exact ok.nm p hp
  refine ⟨by omega, by omega, ?_, .inl (nm _ (r.to_ c hc))⟩
  rcases r.by_ c hc with z | z
  · exact .inr z.1
  · exact .inl (nm _ z)
theorem repr_total {w d : Int} {ps : List Pe} (ok : TreeOk w d ps) (aw : List Str) (l : Nat) : reprD [(l, .lst (sortC (total w d ps aw)))] = some (0, .str (D.lst (sortC (total w d ps aw))).py.shown) := by
  refine repr_lst (B := 500) ?_ (fun x hx => ?_) ?_
  · show (sortC (total w d ps aw)).all (D.fits 11) = true
    rw [List.all_eq_true]
    intro x hx
    obtain ⟨c, _, rfl⟩ := sortC_mem hx
    rfl
  · obtain ⟨c, hc, rfl⟩ := sortC_mem hx
    exact shown_call (total_ok ok aw c hc)
  · rw [sortC_len]
    have := total_len ok aw
    omega
end G
-- part L11
set_option Elab.async false
set_option linter.all false
set_option maxRecDepth 100000
set_option maxHeartbeats 4000000
set_option autoImplicit false
/-! L11: the law k11, plainly. -/
namespace G
open PySem PySem.Spec Rd L2 Ring
theorem intsOf_map : ∀ ns : List Int, intsOf (ns.map D.int) = some ns
  | [] => rfl
  | n :: ns => by simp [intsOf, intsOf_map ns]
theorem cut_n {α : Type} (xs : List α) (k : Nat) : cutL xs none (some (k : Int)) = xs.take k := by
  unfold cutL
  rw [HT.sIx_nat, HT.sIx_none]
  simp
theorem cut_8 {α : Type} (xs : List α) : cutL xs none (some 8) = xs.take 8 := cut_n xs 8
theorem law_k11 (C : Call) (h1 : LawDrawOk (C "_law_draw")) (h2 : LawTreeOk (C "_law_tree")) (h3 : LawAwayOk (C "_law_away")) (h4 : AskedOk (C "ring_calls")) (h5 : LawCallsOk (C "_law_calls")) (ns : List Int) : ∃ lv st', f_law C [.lst (ns.map D.int)] ⟨[], []⟩ = .ok (lv, .bl true) ⟨[], st'⟩ := by
  have main : Fin (fun p _ => ∃ lv, p = (lv, .bl true)) (m_law C ⟨[D.lst (ns.map D.int)].map (fun d => some (0, d)) ++ List.replicate (6 - [D.lst (ns.map D.int)].length) none, []⟩) := by
    unfold m_law
    have e1 : cutL (ns.map D.int) none (some 8) = (ns.take 8).map D.int := by rw [cut_8, List.map_take]
    have hz : szOk (((ns.take 8).map D.int).length + 1) = true := szOk_of (by rw [List.length_map, List.length_take]; omega)
    simp only [sSeq_eq, seq_nx', seq_rt', seq_bk', seq_ct', bind_ok', then_ok', opt_some', toB_ok', eCall_eq, back_ok', eCallL_eq, looksL_some, sNil, sBreak, sCont, sExpr, sRet, sRetN, sIf, sSet, sAsg, sPar2, par2K, sPar3, par3K, sFor, sAppend, sExtend, sDPut, storeK, sSubApp, eOf, eV, oV, eC, eVar, oVar, eTup, eLst, vsNil, vsCons, osNil, osCons, lsNil, lsCons, eOp, binD, cmpP, cm_eq_str, cm_ne_str, cm_eq_int, cm_ne_int, cm_lt, cm_le, cm_gt, cm_ge, cm_slt, cm_sle, cm_is, cm_isnot, cm_in_tup, cm_nin_tup, cm_in_lst, cm_nin_lst, cm_in_dct, cm_nin_dct, cm_in_str, cm_ne_nn, cm_eq_nn, Nat.le_refl, Nat.zero_le, Nat.reduceLeDiff, big_0, seqIx_0, List.eraseIdx_cons_zero, pop_last, drop_last, max2, eSortK, atI_0, atI_1, atI_2, atI_3, atI_4, tCmp, tChain2, eT, tAnd2, tOr2, tNot1, bOf, eAnd2, eOr2, eNot1, eIf, truD, tTru, eSub, S.flat, S.look, S.looks, S.deref, subD, pNone, pSome, eSlice, sliceD, eRev, eCallB, iVal, itemsD, iRange1, iRange2, iEnumM, gVar, gsNil, gsCons, gTupM, eLc, lc1, for1, tTrue, S.wipe, wipeE, ePop, ePopAt, S.isList, S.bound, eMove, capL, eIsi, D.isT, eDict0, eDisp, eDispL, eCell, psNil, psCons, D.key, isNon_non, isNon_int, isNon_str, isNon_tup, isNon_lst, isNon_bl, isNon_dct, Option.map, Option.bind, Option.isSome_some, Option.isSome_none, List.getElem?_cons_zero, List.getElem?_cons_succ, List.set_cons_zero, List.set_cons_succ, List.map_cons, List.map_nil, List.length_cons, List.length_nil, List.replicate_succ, List.replicate_zero, List.cons_append, List.nil_append, List.append_nil, Nat.reduceSub, Nat.reduceAdd, Nat.reduceEqDiff, decide_true, decide_false, if_true, if_false, ite_true, ite_false, reduceIte, Bool.false_eq_true, Nat.reduceLT, Nat.zero_lt_succ, Nat.lt_add_one, Nat.zero_add, true_and, and_true, or_true, true_or, false_and, and_false, false_or, or_false, Bool.not_true, Bool.not_false, Nat.succ_lt_succ_iff, Nat.add_lt_add_iff_right, beq_self_eq_true, String.reduceBEq, Bool.or_true, Bool.true_or, Bool.or_false, Bool.false_or, Bool.and_true, Bool.true_and, Bool.and_false, Bool.false_and, Int.cast_ofNat_Int, Int.reduceBEq, Int.reduceLT, Int.reduceLE, Int.reduceAdd, Int.reduceSub, Int.reduceMul, Int.reduceNeg, Int.natCast_zero, Int.natCast_one, sz_0, sz_1, sz_2, sz_3, sz_4, sz_5, sz_6, sz_7, sz_8, sz_9, sz_10, sz_11, sz_12, sz_13, sz_14, sz_15, sz_16, e1, sumD, intsOf_map, hz]
    refine for_q (fun q : Int × Nat => D.tup [.int (q.2 : Nat), .int q.1]) (fun pre s => ∃ j1 j2 j3 j4 j5 stx, s = ⟨[some (0, .lst (ns.map D.int)), j1, j2, j3, j4, j5], stx⟩ ∧ stx.all flatC = true) (ns.take 8 ++ [ns.sum]).zipIdx (by rw [numL_eq, show (ns.take 8).map D.int ++ [D.int ns.sum] = (ns.take 8 ++ [ns.sum]).map D.int by simp, List.zipIdx_map, List.map_map]; rfl) ?_ ⟨none, none, none, none, none, [], rfl, rfl⟩ ?_
    · rintro pre ⟨c, k⟩ post s e ⟨j1, j2, j3, j4, j5, stx, rfl, hf⟩
      have hk : k ≤ 8 := by
        obtain ⟨ep, hk⟩ := zipIdx_at (pre := []) (post := []) e
        have := congrArg List.length ep
        simp at this
        have hk : k = pre.length := hk
        omega
      obtain ⟨st1, f1, d1⟩ := h1 c (k : Nat) stx (by omega) (by omega) hf
      obtain ⟨w, d, ps, st2, f2, ok, _, d2, l2⟩ := h2 stx.length 1000000 16 st1 d1 (by omega) (by omega) (by omega)
      obtain ⟨aw, st3, f3, ao, d3, l3⟩ := h3 stx.length _ w d ps st2 d2 (by omega) ok
      have r1 := h4.1 w d ps aw st3 ok ao d3.flat
      have r2 := h5 w d ps aw st3 ok ao
      have r3 := h4.2 w d ps st3 ok d3.flat
      have r4 := h4.1 w d ps [] st3 ok (.nil ps) d3.flat
      have r5 := h5 w d ps [] st3 ok (.nil ps)
      have e0 : D.tup [] = namesD [] := rfl
      simp only [sSeq_eq, seq_nx', seq_rt', seq_bk', seq_ct', bind_ok', then_ok', opt_some', toB_ok', eCall_eq, back_ok', eCallL_eq, looksL_some, sNil, sBreak, sCont, sExpr, sRet, sRetN, sIf, sSet, sAsg, sPar2, par2K, sPar3, par3K, sFor, sAppend, sExtend, sDPut, storeK, sSubApp, eOf, eV, oV, eC, eVar, oVar, eTup, eLst, vsNil, vsCons, osNil, osCons, lsNil, lsCons, eOp, binD, cmpP, cm_eq_str, cm_ne_str, cm_eq_int, cm_ne_int, cm_lt, cm_le, cm_gt, cm_ge, cm_slt, cm_sle, cm_is, cm_isnot, cm_in_tup, cm_nin_tup, cm_in_lst, cm_nin_lst, cm_in_dct, cm_nin_dct, cm_in_str, cm_ne_nn, cm_eq_nn, Nat.le_refl, Nat.zero_le, Nat.reduceLeDiff, big_0, seqIx_0, List.eraseIdx_cons_zero, pop_last, drop_last, max2, eSortK, atI_0, atI_1, atI_2, atI_3, atI_4, tCmp, tChain2, eT, tAnd2, tOr2, tNot1, bOf, eAnd2, eOr2, eNot1, eIf, truD, tTru, eSub, S.flat, S.look, S.looks, S.deref, subD, pNone, pSome, eSlice, sliceD, eRev, eCallB, iVal, itemsD, iRange1, iRange2, iEnumM, gVar, gsNil, gsCons, gTupM, eLc, lc1, for1, tTrue, S.wipe, wipeE, ePop, ePopAt, S.isList, S.bound, eMove, capL, eIsi, D.isT, eDict0, eDisp, eDispL, eCell, psNil, psCons, D.key, isNon_non, isNon_int, isNon_str, isNon_tup, isNon_lst, isNon_bl, isNon_dct, Option.map, Option.bind, Option.isSome_some, Option.isSome_none, List.getElem?_cons_zero, List.getElem?_cons_succ, List.set_cons_zero, List.set_cons_succ, List.map_cons, List.map_nil, List.length_cons, List.length_nil, List.replicate_succ, List.replicate_zero, List.cons_append, List.nil_append, List.append_nil, Nat.reduceSub, Nat.reduceAdd, Nat.reduceEqDiff, decide_true, decide_false, if_true, if_false, ite_true, ite_false, reduceIte, Bool.false_eq_true, Nat.reduceLT, Nat.zero_lt_succ, Nat.lt_add_one, Nat.zero_add, true_and, and_true, or_true, true_or, false_and, and_false, false_or, or_false, Bool.not_true, Bool.not_false, Nat.succ_lt_succ_iff, Nat.add_lt_add_iff_right, beq_self_eq_true, String.reduceBEq, Bool.or_true, Bool.true_or, Bool.or_false, Bool.false_or, Bool.and_true, Bool.true_and, Bool.and_false, Bool.false_and, Int.cast_ofNat_Int, Int.reduceBEq, Int.reduceLT, Int.reduceLE, Int.reduceAdd, Int.reduceSub, Int.reduceMul, Int.reduceNeg, Int.natCast_zero, Int.natCast_one, sz_0, sz_1, sz_2, sz_3, sz_4, sz_5, sz_6, sz_7, sz_8, sz_9, sz_10, sz_11, sz_12, sz_13, sz_14, sz_15, sz_16, f1, f2, f3, e0, r1, r2, r3, r4, r5, repr_total ok]
      exact ⟨_, _, _, _, _, st3, rfl, d3.flat⟩
    · rintro s' ⟨j1, j2, j3, j4, j5, stx, rfl, hf⟩
      simp only [sSeq_eq, seq_nx', seq_rt', seq_bk', seq_ct', bind_ok', then_ok', opt_some', toB_ok', eCall_eq, back_ok', eCallL_eq, looksL_some, sNil, sBreak, sCont, sExpr, sRet, sRetN, sIf, sSet, sAsg, sPar2, par2K, sPar3, par3K, sFor, sAppend, sExtend, sDPut, storeK, sSubApp, eOf, eV, oV, eC, eVar, oVar, eTup, eLst, vsNil, vsCons, osNil, osCons, lsNil, lsCons, eOp, binD, cmpP, cm_eq_str, cm_ne_str, cm_eq_int, cm_ne_int, cm_lt, cm_le, cm_gt, cm_ge, cm_slt, cm_sle, cm_is, cm_isnot, cm_in_tup, cm_nin_tup, cm_in_lst, cm_nin_lst, cm_in_dct, cm_nin_dct, cm_in_str, cm_ne_nn, cm_eq_nn, Nat.le_refl, Nat.zero_le, Nat.reduceLeDiff, big_0, seqIx_0, List.eraseIdx_cons_zero, pop_last, drop_last, max2, eSortK, atI_0, atI_1, atI_2, atI_3, atI_4, tCmp, tChain2, eT, tAnd2, tOr2, tNot1, bOf, eAnd2, eOr2, eNot1, eIf, truD, tTru, eSub, S.flat, S.look, S.looks, S.deref, subD, pNone, pSome, eSlice, sliceD, eRev, eCallB, iVal, itemsD, iRange1, iRange2, iEnumM, gVar, gsNil, gsCons, gTupM, eLc, lc1, for1, tTrue, S.wipe, wipeE, ePop, ePopAt, S.isList, S.bound, eMove, capL, eIsi, D.isT, eDict0, eDisp, eDispL, eCell, psNil, psCons, D.key, isNon_non, isNon_int, isNon_str, isNon_tup, isNon_lst, isNon_bl, isNon_dct, Option.map, Option.bind, Option.isSome_some, Option.isSome_none, List.getElem?_cons_zero, List.getElem?_cons_succ, List.set_cons_zero, List.set_cons_succ, List.map_cons, List.map_nil, List.length_cons, List.length_nil, List.replicate_succ, List.replicate_zero, List.cons_append, List.nil_append, List.append_nil, Nat.reduceSub, Nat.reduceAdd, Nat.reduceEqDiff, decide_true, decide_false, if_true, if_false, ite_true, ite_false, reduceIte, Bool.false_eq_true, Nat.reduceLT, Nat.zero_lt_succ, Nat.lt_add_one, Nat.zero_add, true_and, and_true, or_true, true_or, false_and, and_false, false_or, or_false, Bool.not_true, Bool.not_false, Nat.succ_lt_succ_iff, Nat.add_lt_add_iff_right, beq_self_eq_true, String.reduceBEq, Bool.or_true, Bool.true_or, Bool.or_false, Bool.false_or, Bool.and_true, Bool.true_and, Bool.and_false, Bool.false_and, Int.cast_ofNat_Int, Int.reduceBEq, Int.reduceLT, Int.reduceLE, Int.reduceAdd, Int.reduceSub, Int.reduceMul, Int.reduceNeg, Int.natCast_zero, Int.natCast_one, sz_0, sz_1, sz_2, sz_3, sz_4, sz_5, sz_6, sz_7, sz_8, sz_9, sz_10, sz_11, sz_12, sz_13, sz_14, sz_15, sz_16]
      exact ⟨_, rfl⟩
  obtain ⟨p, st', e, lv, rfl⟩ := run_fin main
  exact ⟨lv, st', e⟩
end G
-- part K11
set_option Elab.async false
set_option linter.all false
set_option maxRecDepth 100000
set_option maxHeartbeats 0
/-! The defs of the law law_k11_calls_of_rings, read. Printed by gen2.py. -/
namespace K11
open PySem PySem.Spec L2 G Rd
def top (i : Nat) : Stmt := PySem.Challenge.pw_ringdown_k11_calls_of_rings.main.body.getD i (.Pass ⟨0, 0, 0, 0⟩)
def glob : List (Str × D) := [("LETTERS", (.str "abcdefghijklmnopqrstuvwxyz")), ("MOST_LETTERS", (.int 8)), ("BELL", (.str "")), ("MOST_PEOPLE", (.int 16)), ("MOST_DEEP", (.int 4)), ("MOST_WAIT", (.int 60)), ("MOST_TALK", (.int 60))]
def free : List Str := ["len", "sum", "max", "all", "repr", "sorted", "tuple", "str", "int", "dict", "range", "enumerate", "isinstance", "bool"]
def T0 : List Ent := []
abbrev Q0 : Call := callOf T0
def T1 : List Ent := ⟨"_law_draw", ⟨2, []⟩, false, runB 2 (m_law_draw Q0)⟩ :: T0
abbrev Q1 : Call := callOf T1
theorem rd_law_draw : ssR (rds 40 20 (layOf T0 n_law_draw glob free false) (defScope (top 29))) (defBody (top 29)) = some (m_law_draw Q0) := by kernel_rfl
theorem c_law_draw : Q1 "_law_draw" = f_law_draw Q0 := rfl
def T2 : List Ent := ⟨"_law_mixed", ⟨2, []⟩, false, runB 3 (m_law_mixed Q1)⟩ :: T1
abbrev Q2 : Call := callOf T2
theorem rd_law_mixed : ssR (rds 40 20 (layOf T1 n_law_mixed glob free false) (defScope (top 28))) (defBody (top 28)) = some (m_law_mixed Q1) := by kernel_rfl
theorem c_law_mixed : Q2 "_law_mixed" = f_law_mixed Q1 := rfl
def T3 : List Ent := ⟨"_law_digit", ⟨2, []⟩, false, runB 4 (m_law_digit Q2)⟩ :: T2
abbrev Q3 : Call := callOf T3
theorem rd_law_digit : ssR (rds 40 20 (layOf T2 n_law_digit glob free false) (defScope (top 30))) (defBody (top 30)) = some (m_law_digit Q2) := by kernel_rfl
theorem c_law_digit : Q3 "_law_digit" = f_law_digit Q2 := rfl
def T4 : List Ent := ⟨"_law_word", ⟨1, []⟩, false, runB 4 (m_law_word Q3)⟩ :: T3
abbrev Q4 : Call := callOf T4
theorem rd_law_word : ssR (rds 40 20 (layOf T3 n_law_word glob free false) (defScope (top 31))) (defBody (top 31)) = some (m_law_word Q3) := by kernel_rfl
theorem c_law_word : Q4 "_law_word" = f_law_word Q3 := rfl
def T5 : List Ent := ⟨"_law_tree", ⟨2, []⟩, false, runB 12 (m_law_tree Q4)⟩ :: T4
abbrev Q5 : Call := callOf T5
theorem rd_law_tree : ssR (rds 40 20 (layOf T4 n_law_tree glob free false) (defScope (top 32))) (defBody (top 32)) = some (m_law_tree Q4) := by kernel_rfl
theorem c_law_tree : Q5 "_law_tree" = f_law_tree Q4 := rfl
def T6 : List Ent := ⟨"_law_away", ⟨2, []⟩, false, runB 4 (m_law_away Q5)⟩ :: T5
abbrev Q6 : Call := callOf T6
theorem rd_law_away : ssR (rds 40 20 (layOf T5 n_law_away glob free false) (defScope (top 33))) (defBody (top 33)) = some (m_law_away Q5) := by kernel_rfl
theorem c_law_away : Q6 "_law_away" = f_law_away Q5 := rfl
def T7 : List Ent := ⟨"is_whole", ⟨1, []⟩, false, runB 1 (m_is_whole Q6)⟩ :: T6
abbrev Q7 : Call := callOf T7
theorem rd_is_whole : ssR (rds 40 20 (layOf T6 n_is_whole glob free false) (defScope (top 7))) (defBody (top 7)) = some (m_is_whole Q6) := by kernel_rfl
theorem c_is_whole : Q7 "is_whole" = f_is_whole Q6 := rfl
def T8 : List Ent := ⟨"is_among", ⟨3, []⟩, false, runB 3 (m_is_among Q7)⟩ :: T7
abbrev Q8 : Call := callOf T8
theorem rd_is_among : ssR (rds 40 20 (layOf T7 n_is_among glob free false) (defScope (top 8))) (defBody (top 8)) = some (m_is_among Q7) := by kernel_rfl
theorem c_is_among : Q8 "is_among" = f_is_among Q7 := rfl
def T9 : List Ent := ⟨"is_name", ⟨1, []⟩, false, runB 2 (m_is_name Q8)⟩ :: T8
abbrev Q9 : Call := callOf T9
theorem rd_is_name : ssR (rds 40 20 (layOf T8 n_is_name glob free false) (defScope (top 9))) (defBody (top 9)) = some (m_is_name Q8) := by kernel_rfl
theorem c_is_name : Q9 "is_name" = f_is_name Q8 := rfl
def T10 : List Ent := ⟨"is_person", ⟨2, []⟩, true, runB 5 (m_is_person Q9)⟩ :: T9
abbrev Q10 : Call := callOf T10
theorem rd_is_person : ssR (rds 40 20 (layOf T9 n_is_person glob free false) (defScope (top 16))) (defBody (top 16)) = some (m_is_person Q9) := by kernel_rfl
theorem c_is_person : Q10 "is_person" = f_is_person Q9 := rfl
def T11 : List Ent := ⟨"first_wrong", ⟨1, []⟩, false, runB 7 (m_first_wrong Q10)⟩ :: T10
abbrev Q11 : Call := callOf T11
theorem rd_first_wrong : ssR (rds 40 20 (layOf T10 n_first_wrong glob free false) (defScope (top 17))) (defBody (top 17)) = some (m_first_wrong Q10) := by kernel_rfl
theorem c_first_wrong : Q11 "first_wrong" = f_first_wrong Q10 := rfl
def T12 : List Ent := ⟨"need_tree", ⟨1, []⟩, false, runB 2 (m_need_tree Q11)⟩ :: T11
abbrev Q12 : Call := callOf T12
theorem rd_need_tree : ssR (rds 40 20 (layOf T11 n_need_tree glob free false) (defScope (top 18))) (defBody (top 18)) = some (m_need_tree Q11) := by kernel_rfl
theorem c_need_tree : Q12 "need_tree" = f_need_tree Q11 := rfl
def T13 : List Ent := ⟨"first_not_away", ⟨2, []⟩, false, runB 6 (m_first_not_away Q12)⟩ :: T12
abbrev Q13 : Call := callOf T13
theorem rd_first_not_away : ssR (rds 40 20 (layOf T12 n_first_not_away glob free false) (defScope (top 19))) (defBody (top 19)) = some (m_first_not_away Q12) := by kernel_rfl
theorem c_first_not_away : Q13 "first_not_away" = f_first_not_away Q12 := rfl
def T14 : List Ent := ⟨"need_away", ⟨2, []⟩, false, runB 3 (m_need_away Q13)⟩ :: T13
abbrev Q14 : Call := callOf T14
theorem rd_need_away : ssR (rds 40 20 (layOf T13 n_need_away glob free false) (defScope (top 20))) (defBody (top 20)) = some (m_need_away Q13) := by kernel_rfl
theorem c_need_away : Q14 "need_away" = f_need_away Q13 := rfl
def T15 : List Ent := ⟨"those_away", ⟨2, []⟩, false, runB 3 (m_those_away Q14)⟩ :: T14
abbrev Q15 : Call := callOf T15
theorem rd_those_away : ssR (rds 40 20 (layOf T14 n_those_away glob free false) (defScope (top 22))) (defBody (top 22)) = some (m_those_away Q14) := by kernel_rfl
theorem c_those_away : Q15 "those_away" = f_those_away Q14 := rfl
def T16 : List Ent := ⟨"lists_by", ⟨1, []⟩, false, runB 5 (m_lists_by Q15)⟩ :: T15
abbrev Q16 : Call := callOf T16
theorem rd_lists_by : ssR (rds 40 20 (layOf T15 n_lists_by glob free false) (defScope (top 23))) (defBody (top 23)) = some (m_lists_by Q15) := by kernel_rfl
theorem c_lists_by : Q16 "lists_by" = f_lists_by Q15 := rfl
def T17 : List Ent := ⟨"own_calls", ⟨2, []⟩, false, runB 18 (m_own_calls Q16)⟩ :: T16
abbrev Q17 : Call := callOf T17
theorem rd_own_calls : ssR (rds 40 20 (layOf T16 n_own_calls glob free true) (defScope (top 24))) (defBody (top 24)) = some (m_own_calls Q16) := by kernel_rfl
theorem c_own_calls : Q17 "own_calls" = f_own_calls Q16 := rfl
def T18 : List Ent := ⟨"asked_calls", ⟨2, []⟩, false, runB 3 (m_asked_calls Q17)⟩ :: T17
abbrev Q18 : Call := callOf T18
theorem rd_asked_calls : ssR (rds 40 20 (layOf T17 n_asked_calls glob free false) (defScope (top 25))) (defBody (top 25)) = some (m_asked_calls Q17) := by kernel_rfl
theorem c_asked_calls : Q18 "asked_calls" = f_asked_calls Q17 := rfl
def T19 : List Ent := ⟨"ring_calls", ⟨2, [.non]⟩, false, runB 2 (m_ring_calls Q18)⟩ :: T18
abbrev Q19 : Call := callOf T19
theorem rd_ring_calls : ssR (rds 40 20 (layOf T18 n_ring_calls glob free false) (defScope (top 26))) (defBody (top 26)) = some (m_ring_calls Q18) := by kernel_rfl
theorem c_ring_calls : Q19 "ring_calls" = f_ring_calls Q18 := rfl
def T20 : List Ent := ⟨"_law_walk", ⟨1, []⟩, false, runB 7 (m_law_walk Q19)⟩ :: T19
abbrev Q20 : Call := callOf T20
theorem rd_law_walk : ssR (rds 40 20 (layOf T19 n_law_walk glob free false) (defScope (top 34))) (defBody (top 34)) = some (m_law_walk Q19) := by kernel_rfl
theorem c_law_walk : Q20 "_law_walk" = f_law_walk Q19 := rfl
def T21 : List Ent := ⟨"_law_callers", ⟨2, []⟩, false, runB 9 (m_law_callers Q20)⟩ :: T20
abbrev Q21 : Call := callOf T21
theorem rd_law_callers : ssR (rds 40 20 (layOf T20 n_law_callers glob free false) (defScope (top 35))) (defBody (top 35)) = some (m_law_callers Q20) := by kernel_rfl
theorem c_law_callers : Q21 "_law_callers" = f_law_callers Q20 := rfl
def T22 : List Ent := ⟨"_law_calls", ⟨2, []⟩, false, runB 11 (m_law_calls Q21)⟩ :: T21
abbrev Q22 : Call := callOf T22
theorem rd_law_calls : ssR (rds 40 20 (layOf T21 n_law_calls glob free true) (defScope (top 36))) (defBody (top 36)) = some (m_law_calls Q21) := by kernel_rfl
theorem c_law_calls : Q22 "_law_calls" = f_law_calls Q21 := rfl
def T23 : List Ent := ⟨"law", ⟨1, []⟩, false, runB 6 (m_law Q22)⟩ :: T22
abbrev Q23 : Call := callOf T23
theorem rd_law : ssR (rds 40 20 (layOf T22 n_law glob free false) (defScope (top 37))) (defBody (top 37)) = some (m_law Q22) := by kernel_rfl
theorem c_law : Q23 "law" = f_law Q22 := rfl
theorem c4_law_digit : Q4 "_law_digit" = f_law_digit Q2 := rfl
theorem c5_law_digit : Q5 "_law_digit" = f_law_digit Q2 := rfl
theorem c9_is_among : Q9 "is_among" = f_is_among Q7 := rfl
theorem c10_is_among : Q10 "is_among" = f_is_among Q7 := rfl
theorem c13_need_tree : Q13 "need_tree" = f_need_tree Q11 := rfl
theorem c17_those_away : Q17 "those_away" = f_those_away Q14 := rfl
theorem c21_law_walk : Q21 "_law_walk" = f_law_walk Q19 := rfl
theorem c22_law_draw : Q22 "_law_draw" = f_law_draw Q0 := rfl
theorem c22_law_tree : Q22 "_law_tree" = f_law_tree Q4 := rfl
theorem c22_law_away : Q22 "_law_away" = f_law_away Q5 := rfl
theorem c22_ring_calls : Q22 "ring_calls" = f_ring_calls Q18 := rfl
end K11
-- part W11
set_option Elab.async false
set_option linter.all false
set_option maxRecDepth 100000
set_option maxHeartbeats 0
/-! The walk of law_k11_calls_of_rings. Printed by gen.py. -/
namespace K11
open PySem PySem.Spec L2 G Rd
def mkD (x : Str) (i : Nat) (dfl : List He.Dv) : He.DefD := ⟨(x, none), x, x, defArgs (top i), defBody (top i), defScope (top i), dfl, []⟩
def fn : List He.DefD := [mkD "_law_draw" 29 [], mkD "_law_mixed" 28 [], mkD "_law_digit" 30 [], mkD "_law_word" 31 [], mkD "_law_tree" 32 [], mkD "_law_away" 33 [], mkD "is_whole" 7 [], mkD "is_among" 8 [], mkD "is_name" 9 [], mkD "is_person" 16 [], mkD "first_wrong" 17 [], mkD "need_tree" 18 [], mkD "first_not_away" 19 [], mkD "need_away" 20 [], mkD "those_away" 22 [], mkD "lists_by" 23 [], mkD "own_calls" 24 [], mkD "asked_calls" 25 [], mkD "ring_calls" 26 [.non], mkD "_law_walk" 34 [], mkD "_law_callers" 35 [], mkD "_law_calls" 36 [], mkD "law" 37 []]
def fa : List He.Fa := [.free "len", .free "sum", .free "max", .free "all", .free "repr", .free "sorted", .free "tuple", .free "str", .free "int", .free "dict", .free "range", .free "enumerate", .free "isinstance", .free "bool", .glo "_law_draw", .glo "_law_mixed", .glo "_law_digit", .glo "_law_word", .glo "_law_tree", .glo "_law_away", .glo "is_whole", .glo "is_among", .glo "is_name", .glo "is_person", .glo "first_wrong", .glo "need_tree", .glo "first_not_away", .glo "need_away", .glo "those_away", .glo "lists_by", .glo "own_calls", .glo "asked_calls", .glo "ring_calls", .glo "_law_walk", .glo "_law_callers", .glo "_law_calls", .glo "law", .str "LETTERS" "abcdefghijklmnopqrstuvwxyz", .int "MOST_LETTERS" 8, .str "BELL" "", .int "MOST_PEOPLE" 16, .int "MOST_DEEP" 4, .int "MOST_WAIT" 60, .int "MOST_TALK" 60]
def tf : List He.Defn := [("own_calls", none), ("_law_calls", none)]
abbrev R : PySem.W.OpenRow := PySem.W.OpenLaw.row PySem.Challenge.rw_ringdown_k11_calls_of_rings
abbrev hk : PySem.W.Hook := He.hookX 4 fa fn [] tf (exB tf)
def ob (s : PySem.W.SharedT) : He.AlX := He.obsX 4 fa fn [] tf (exB tf) (HandSHeadRun.getT s)
theorem ob_eq (s : PySem.W.SharedT) : ob s = hk.obs s.abs := He.obsX_eq (HandSHeadRun.getT_eq s)
def loose : List Str := (["__name__", "RingError", "BadTree", "BadAway", "LETTERS", "MOST_LETTERS", "is_whole", "is_among", "is_name", "BELL"] : List Str) ++ (["MOST_PEOPLE", "MOST_DEEP", "MOST_WAIT", "MOST_TALK", "is_person", "first_wrong", "need_tree", "first_not_away", "need_away", "those_away"] : List Str) ++ (["lists_by", "own_calls", "asked_calls", "ring_calls", "_law_mixed", "_law_draw", "_law_digit", "_law_word", "_law_tree", "_law_away"] : List Str) ++ (["_law_walk", "_law_callers", "_law_calls"] : List Str)
theorem run (w : World) : HandSHeadRun.RunEq R (PySem.W.view R.prog [37]) hk ob 4000 loose w := by
  intro os
  kernel_rfl
theorem sc_law_draw : FnScope n_law_draw ["_law_cell", "_law_k"] (defScope (top 29)) := C8.fnScope_by (by kernel_rfl)
theorem sc_law_mixed : FnScope n_law_mixed ["_law_cell", "_law_k"] (defScope (top 28)) := C8.fnScope_by (by kernel_rfl)
theorem sc_law_digit : FnScope n_law_digit ["_law_state", "_law_many"] (defScope (top 30)) := C8.fnScope_by (by kernel_rfl)
theorem sc_law_word : FnScope n_law_word ["_law_state"] (defScope (top 31)) := C8.fnScope_by (by kernel_rfl)
theorem sc_law_tree : FnScope n_law_tree ["_law_state", "_law_most"] (defScope (top 32)) := C8.fnScope_by (by kernel_rfl)
theorem sc_law_away : FnScope n_law_away ["_law_state", "_law_tree_here"] (defScope (top 33)) := C8.fnScope_by (by kernel_rfl)
theorem sc_is_whole : FnScope n_is_whole ["thing"] (defScope (top 7)) := C8.fnScope_by (by kernel_rfl)
theorem sc_is_among : FnScope n_is_among ["thing", "least", "most"] (defScope (top 8)) := C8.fnScope_by (by kernel_rfl)
theorem sc_is_name : FnScope n_is_name ["thing"] (defScope (top 9)) := C8.fnScope_by (by kernel_rfl)
theorem sc_is_person : FnScope n_is_person ["thing", "known"] (defScope (top 16)) := C8.fnScope_by (by kernel_rfl)
theorem sc_first_wrong : FnScope n_first_wrong ["thing"] (defScope (top 17)) := C8.fnScope_by (by kernel_rfl)
theorem sc_need_tree : FnScope n_need_tree ["tree"] (defScope (top 18)) := C8.fnScope_by (by kernel_rfl)
theorem sc_first_not_away : FnScope n_first_not_away ["tree", "thing"] (defScope (top 19)) := C8.fnScope_by (by kernel_rfl)
theorem sc_need_away : FnScope n_need_away ["tree", "away"] (defScope (top 20)) := C8.fnScope_by (by kernel_rfl)
theorem sc_those_away : FnScope n_those_away ["tree", "away"] (defScope (top 22)) := C8.fnScope_by (by kernel_rfl)
theorem sc_lists_by : FnScope n_lists_by ["tree"] (defScope (top 23)) := C8.fnScope_by (by kernel_rfl)
theorem sc_own_calls : FnScope n_own_calls ["tree", "away"] (defScope (top 24)) := C8.fnScope_by (by kernel_rfl)
theorem sc_asked_calls : FnScope n_asked_calls ["tree", "away"] (defScope (top 25)) := C8.fnScope_by (by kernel_rfl)
theorem sc_ring_calls : FnScope n_ring_calls ["tree", "away"] (defScope (top 26)) := C8.fnScope_by (by kernel_rfl)
theorem sc_law_walk : FnScope n_law_walk ["_law_tree_here"] (defScope (top 34)) := C8.fnScope_by (by kernel_rfl)
theorem sc_law_callers : FnScope n_law_callers ["_law_tree_here", "_law_away_here"] (defScope (top 35)) := C8.fnScope_by (by kernel_rfl)
theorem sc_law_calls : FnScope n_law_calls ["_law_tree_here", "_law_away_here"] (defScope (top 36)) := C8.fnScope_by (by kernel_rfl)
theorem sc_law : FnScope n_law ["_law_script"] (defScope (top 37)) := C8.fnScope_by (by kernel_rfl)
section
variable {w : World} {K : PySem.W.Frag} {mg : Str → Option Value} {h base : Heap}
theorem globs (X : K.In h) (Gm : h.Ns mainGlobals mg) (c : He.SaysD fa fn K) : ∀ x d, glob.lookup x = some d → GP mg x d := by
  refine globs_of fun p hp => ?_
  rcases List.mem_cons.mp hp with rfl | hp
  · exact gp_str (He.str_ok X Gm (c.fact 37 (f := .str "LETTERS" "abcdefghijklmnopqrstuvwxyz") rfl)) (by decide)
  rcases List.mem_cons.mp hp with rfl | hp
  · exact gp_int (He.int_ok X Gm (c.fact 38 (f := .int "MOST_LETTERS" 8) rfl)) (by decide)
  rcases List.mem_cons.mp hp with rfl | hp
  · exact gp_str (He.str_ok X Gm (c.fact 39 (f := .str "BELL" "") rfl)) (by decide)
  rcases List.mem_cons.mp hp with rfl | hp
  · exact gp_int (He.int_ok X Gm (c.fact 40 (f := .int "MOST_PEOPLE" 16) rfl)) (by decide)
  rcases List.mem_cons.mp hp with rfl | hp
  · exact gp_int (He.int_ok X Gm (c.fact 41 (f := .int "MOST_DEEP" 4) rfl)) (by decide)
  rcases List.mem_cons.mp hp with rfl | hp
  · exact gp_int (He.int_ok X Gm (c.fact 42 (f := .int "MOST_WAIT" 60) rfl)) (by decide)
  rcases List.mem_cons.mp hp with rfl | hp
  · exact gp_int (He.int_ok X Gm (c.fact 43 (f := .int "MOST_TALK" 60) rfl)) (by decide)
  cases hp
theorem frees (X : K.In h) (Gm : h.Ns mainGlobals mg) (c : He.SaysD fa fn K) : ∀ x, x ∈ free → mg x = none := by
  intro x hp
  rcases List.mem_cons.mp hp with rfl | hp
  · exact He.free_ok X Gm (c.fact 0 (f := .free "len") rfl)
  rcases List.mem_cons.mp hp with rfl | hp
  · exact He.free_ok X Gm (c.fact 1 (f := .free "sum") rfl)
  rcases List.mem_cons.mp hp with rfl | hp
  · exact He.free_ok X Gm (c.fact 2 (f := .free "max") rfl)
  rcases List.mem_cons.mp hp with rfl | hp
  · exact He.free_ok X Gm (c.fact 3 (f := .free "all") rfl)
  rcases List.mem_cons.mp hp with rfl | hp
  · exact He.free_ok X Gm (c.fact 4 (f := .free "repr") rfl)
  rcases List.mem_cons.mp hp with rfl | hp
  · exact He.free_ok X Gm (c.fact 5 (f := .free "sorted") rfl)
  rcases List.mem_cons.mp hp with rfl | hp
  · exact He.free_ok X Gm (c.fact 6 (f := .free "tuple") rfl)
  rcases List.mem_cons.mp hp with rfl | hp
  · exact He.free_ok X Gm (c.fact 7 (f := .free "str") rfl)
  rcases List.mem_cons.mp hp with rfl | hp
  · exact He.free_ok X Gm (c.fact 8 (f := .free "int") rfl)
  rcases List.mem_cons.mp hp with rfl | hp
  · exact He.free_ok X Gm (c.fact 9 (f := .free "dict") rfl)
  rcases List.mem_cons.mp hp with rfl | hp
  · exact He.free_ok X Gm (c.fact 10 (f := .free "range") rfl)
  rcases List.mem_cons.mp hp with rfl | hp
  · exact He.free_ok X Gm (c.fact 11 (f := .free "enumerate") rfl)
  rcases List.mem_cons.mp hp with rfl | hp
  · exact He.free_ok X Gm (c.fact 12 (f := .free "isinstance") rfl)
  rcases List.mem_cons.mp hp with rfl | hp
  · exact He.free_ok X Gm (c.fact 13 (f := .free "bool") rfl)
  cases hp
variable (X : K.In h) (Gm : h.Ns mainGlobals mg) (c : He.SaysD fa fn K) (TB : ∀ p ∈ tf, LamX.TabB base mg (He.cT K p).1 (He.cT K p).2) (hu : dupN (tf.map fun p => (He.cT K p).2) = false)
include X Gm c TB hu
theorem st0 : @Facts (tabC K tf) T0 0 R.prog w K mg base := @facts0 (tabC K tf) _ _ _ _ _ _
theorem st1 : @Facts (tabC K tf) T1 1 R.prog w K mg base := by
  letI : TabC := tabC K tf
  obtain ⟨fd, F⟩ := c.def_ 0 (d := mkD "_law_draw" 29 []) rfl
  refine Facts.step (st0 X Gm c TB hu) F sc_law_draw (@Facts.glo (tabC K tf) _ _ _ _ _ _ _ (st0 X Gm c TB hu) n_law_draw glob free false (globs X Gm c) (frees X Gm c)) (fun q => nomatch q) rd_law_draw (He.glo_ok X Gm (c.fact 14 (f := .glo "_law_draw") rfl)) (by decide) rfl (bd0 (FunD.bindsN F fun _ _ _ _ _ _ us hl => match us, hl with | [_, _], _ => rfl))
theorem st2 : @Facts (tabC K tf) T2 2 R.prog w K mg base := by
  letI : TabC := tabC K tf
  obtain ⟨fd, F⟩ := c.def_ 1 (d := mkD "_law_mixed" 28 []) rfl
  refine Facts.step (st1 X Gm c TB hu) F sc_law_mixed (@Facts.glo (tabC K tf) _ _ _ _ _ _ _ (st1 X Gm c TB hu) n_law_mixed glob free false (globs X Gm c) (frees X Gm c)) (fun q => nomatch q) rd_law_mixed (He.glo_ok X Gm (c.fact 15 (f := .glo "_law_mixed") rfl)) (by decide) rfl (bd0 (FunD.bindsN F fun _ _ _ _ _ _ us hl => match us, hl with | [_, _], _ => rfl))
theorem st3 : @Facts (tabC K tf) T3 3 R.prog w K mg base := by
  letI : TabC := tabC K tf
  obtain ⟨fd, F⟩ := c.def_ 2 (d := mkD "_law_digit" 30 []) rfl
  refine Facts.step (st2 X Gm c TB hu) F sc_law_digit (@Facts.glo (tabC K tf) _ _ _ _ _ _ _ (st2 X Gm c TB hu) n_law_digit glob free false (globs X Gm c) (frees X Gm c)) (fun q => nomatch q) rd_law_digit (He.glo_ok X Gm (c.fact 16 (f := .glo "_law_digit") rfl)) (by decide) rfl (bd0 (FunD.bindsN F fun _ _ _ _ _ _ us hl => match us, hl with | [_, _], _ => rfl))
theorem st4 : @Facts (tabC K tf) T4 4 R.prog w K mg base := by
  letI : TabC := tabC K tf
  obtain ⟨fd, F⟩ := c.def_ 3 (d := mkD "_law_word" 31 []) rfl
  refine Facts.step (st3 X Gm c TB hu) F sc_law_word (@Facts.glo (tabC K tf) _ _ _ _ _ _ _ (st3 X Gm c TB hu) n_law_word glob free false (globs X Gm c) (frees X Gm c)) (fun q => nomatch q) rd_law_word (He.glo_ok X Gm (c.fact 17 (f := .glo "_law_word") rfl)) (by decide) rfl (bd0 (FunD.bindsN F fun _ _ _ _ _ _ us hl => match us, hl with | [_], _ => rfl))
theorem st5 : @Facts (tabC K tf) T5 5 R.prog w K mg base := by
  letI : TabC := tabC K tf
  obtain ⟨fd, F⟩ := c.def_ 4 (d := mkD "_law_tree" 32 []) rfl
  refine Facts.step (st4 X Gm c TB hu) F sc_law_tree (@Facts.glo (tabC K tf) _ _ _ _ _ _ _ (st4 X Gm c TB hu) n_law_tree glob free false (globs X Gm c) (frees X Gm c)) (fun q => nomatch q) rd_law_tree (He.glo_ok X Gm (c.fact 18 (f := .glo "_law_tree") rfl)) (by decide) rfl (bd0 (FunD.bindsN F fun _ _ _ _ _ _ us hl => match us, hl with | [_, _], _ => rfl))
theorem st6 : @Facts (tabC K tf) T6 6 R.prog w K mg base := by
  letI : TabC := tabC K tf
  obtain ⟨fd, F⟩ := c.def_ 5 (d := mkD "_law_away" 33 []) rfl
  refine Facts.step (st5 X Gm c TB hu) F sc_law_away (@Facts.glo (tabC K tf) _ _ _ _ _ _ _ (st5 X Gm c TB hu) n_law_away glob free false (globs X Gm c) (frees X Gm c)) (fun q => nomatch q) rd_law_away (He.glo_ok X Gm (c.fact 19 (f := .glo "_law_away") rfl)) (by decide) rfl (bd0 (FunD.bindsN F fun _ _ _ _ _ _ us hl => match us, hl with | [_, _], _ => rfl))
theorem st7 : @Facts (tabC K tf) T7 7 R.prog w K mg base := by
  letI : TabC := tabC K tf
  obtain ⟨fd, F⟩ := c.def_ 6 (d := mkD "is_whole" 7 []) rfl
  refine Facts.step (st6 X Gm c TB hu) F sc_is_whole (@Facts.glo (tabC K tf) _ _ _ _ _ _ _ (st6 X Gm c TB hu) n_is_whole glob free false (globs X Gm c) (frees X Gm c)) (fun q => nomatch q) rd_is_whole (He.glo_ok X Gm (c.fact 20 (f := .glo "is_whole") rfl)) (by decide) rfl (bd0 (FunD.bindsN F fun _ _ _ _ _ _ us hl => match us, hl with | [_], _ => rfl))
theorem st8 : @Facts (tabC K tf) T8 8 R.prog w K mg base := by
  letI : TabC := tabC K tf
  obtain ⟨fd, F⟩ := c.def_ 7 (d := mkD "is_among" 8 []) rfl
  refine Facts.step (st7 X Gm c TB hu) F sc_is_among (@Facts.glo (tabC K tf) _ _ _ _ _ _ _ (st7 X Gm c TB hu) n_is_among glob free false (globs X Gm c) (frees X Gm c)) (fun q => nomatch q) rd_is_among (He.glo_ok X Gm (c.fact 21 (f := .glo "is_among") rfl)) (by decide) rfl (bd0 (FunD.bindsN F fun _ _ _ _ _ _ us hl => match us, hl with | [_, _, _], _ => rfl))
theorem st9 : @Facts (tabC K tf) T9 9 R.prog w K mg base := by
  letI : TabC := tabC K tf
  obtain ⟨fd, F⟩ := c.def_ 8 (d := mkD "is_name" 9 []) rfl
  refine Facts.step (st8 X Gm c TB hu) F sc_is_name (@Facts.glo (tabC K tf) _ _ _ _ _ _ _ (st8 X Gm c TB hu) n_is_name glob free false (globs X Gm c) (frees X Gm c)) (fun q => nomatch q) rd_is_name (He.glo_ok X Gm (c.fact 22 (f := .glo "is_name") rfl)) (by decide) rfl (bd0 (FunD.bindsN F fun _ _ _ _ _ _ us hl => match us, hl with | [_], _ => rfl))
theorem st10 : @Facts (tabC K tf) T10 10 R.prog w K mg base := by
  letI : TabC := tabC K tf
  obtain ⟨fd, F⟩ := c.def_ 9 (d := mkD "is_person" 16 []) rfl
  refine Facts.step (st9 X Gm c TB hu) F sc_is_person (@Facts.glo (tabC K tf) _ _ _ _ _ _ _ (st9 X Gm c TB hu) n_is_person glob free false (globs X Gm c) (frees X Gm c)) (fun q => nomatch q) rd_is_person (He.glo_ok X Gm (c.fact 23 (f := .glo "is_person") rfl)) (by decide) rfl (bd0 (FunD.bindsN F fun _ _ _ _ _ _ us hl => match us, hl with | [_, _], _ => rfl))
theorem st11 : @Facts (tabC K tf) T11 11 R.prog w K mg base := by
  letI : TabC := tabC K tf
  obtain ⟨fd, F⟩ := c.def_ 10 (d := mkD "first_wrong" 17 []) rfl
  refine Facts.step (st10 X Gm c TB hu) F sc_first_wrong (@Facts.glo (tabC K tf) _ _ _ _ _ _ _ (st10 X Gm c TB hu) n_first_wrong glob free false (globs X Gm c) (frees X Gm c)) (fun q => nomatch q) rd_first_wrong (He.glo_ok X Gm (c.fact 24 (f := .glo "first_wrong") rfl)) (by decide) rfl (bd0 (FunD.bindsN F fun _ _ _ _ _ _ us hl => match us, hl with | [_], _ => rfl))
theorem st12 : @Facts (tabC K tf) T12 12 R.prog w K mg base := by
  letI : TabC := tabC K tf
  obtain ⟨fd, F⟩ := c.def_ 11 (d := mkD "need_tree" 18 []) rfl
  refine Facts.step (st11 X Gm c TB hu) F sc_need_tree (@Facts.glo (tabC K tf) _ _ _ _ _ _ _ (st11 X Gm c TB hu) n_need_tree glob free false (globs X Gm c) (frees X Gm c)) (fun q => nomatch q) rd_need_tree (He.glo_ok X Gm (c.fact 25 (f := .glo "need_tree") rfl)) (by decide) rfl (bd0 (FunD.bindsN F fun _ _ _ _ _ _ us hl => match us, hl with | [_], _ => rfl))
theorem st13 : @Facts (tabC K tf) T13 13 R.prog w K mg base := by
  letI : TabC := tabC K tf
  obtain ⟨fd, F⟩ := c.def_ 12 (d := mkD "first_not_away" 19 []) rfl
  refine Facts.step (st12 X Gm c TB hu) F sc_first_not_away (@Facts.glo (tabC K tf) _ _ _ _ _ _ _ (st12 X Gm c TB hu) n_first_not_away glob free false (globs X Gm c) (frees X Gm c)) (fun q => nomatch q) rd_first_not_away (He.glo_ok X Gm (c.fact 26 (f := .glo "first_not_away") rfl)) (by decide) rfl (bd0 (FunD.bindsN F fun _ _ _ _ _ _ us hl => match us, hl with | [_, _], _ => rfl))
theorem st14 : @Facts (tabC K tf) T14 14 R.prog w K mg base := by
  letI : TabC := tabC K tf
  obtain ⟨fd, F⟩ := c.def_ 13 (d := mkD "need_away" 20 []) rfl
  refine Facts.step (st13 X Gm c TB hu) F sc_need_away (@Facts.glo (tabC K tf) _ _ _ _ _ _ _ (st13 X Gm c TB hu) n_need_away glob free false (globs X Gm c) (frees X Gm c)) (fun q => nomatch q) rd_need_away (He.glo_ok X Gm (c.fact 27 (f := .glo "need_away") rfl)) (by decide) rfl (bd0 (FunD.bindsN F fun _ _ _ _ _ _ us hl => match us, hl with | [_, _], _ => rfl))
theorem st15 : @Facts (tabC K tf) T15 15 R.prog w K mg base := by
  letI : TabC := tabC K tf
  obtain ⟨fd, F⟩ := c.def_ 14 (d := mkD "those_away" 22 []) rfl
  refine Facts.step (st14 X Gm c TB hu) F sc_those_away (@Facts.glo (tabC K tf) _ _ _ _ _ _ _ (st14 X Gm c TB hu) n_those_away glob free false (globs X Gm c) (frees X Gm c)) (fun q => nomatch q) rd_those_away (He.glo_ok X Gm (c.fact 28 (f := .glo "those_away") rfl)) (by decide) rfl (bd0 (FunD.bindsN F fun _ _ _ _ _ _ us hl => match us, hl with | [_, _], _ => rfl))
theorem st16 : @Facts (tabC K tf) T16 16 R.prog w K mg base := by
  letI : TabC := tabC K tf
  obtain ⟨fd, F⟩ := c.def_ 15 (d := mkD "lists_by" 23 []) rfl
  refine Facts.step (st15 X Gm c TB hu) F sc_lists_by (@Facts.glo (tabC K tf) _ _ _ _ _ _ _ (st15 X Gm c TB hu) n_lists_by glob free false (globs X Gm c) (frees X Gm c)) (fun q => nomatch q) rd_lists_by (He.glo_ok X Gm (c.fact 29 (f := .glo "lists_by") rfl)) (by decide) rfl (bd0 (FunD.bindsN F fun _ _ _ _ _ _ us hl => match us, hl with | [_], _ => rfl))
theorem st17 : @Facts (tabC K tf) T17 17 R.prog w K mg base := by
  letI : TabC := tabC K tf
  obtain ⟨fd, F⟩ := c.def_ 16 (d := mkD "own_calls" 24 []) rfl
  refine Facts.step (st16 X Gm c TB hu) F sc_own_calls (@Facts.glo (tabC K tf) _ _ _ _ _ _ _ (st16 X Gm c TB hu) n_own_calls glob free true (globs X Gm c) (frees X Gm c)) (fun _ => lamAt_of F (by decide) TB hu (by decide)) rd_own_calls (He.glo_ok X Gm (c.fact 30 (f := .glo "own_calls") rfl)) (by decide) rfl (bd0 (FunD.bindsN F fun _ _ _ _ _ _ us hl => match us, hl with | [_, _], _ => rfl))
theorem st18 : @Facts (tabC K tf) T18 18 R.prog w K mg base := by
  letI : TabC := tabC K tf
  obtain ⟨fd, F⟩ := c.def_ 17 (d := mkD "asked_calls" 25 []) rfl
  refine Facts.step (st17 X Gm c TB hu) F sc_asked_calls (@Facts.glo (tabC K tf) _ _ _ _ _ _ _ (st17 X Gm c TB hu) n_asked_calls glob free false (globs X Gm c) (frees X Gm c)) (fun q => nomatch q) rd_asked_calls (He.glo_ok X Gm (c.fact 31 (f := .glo "asked_calls") rfl)) (by decide) rfl (bd0 (FunD.bindsN F fun _ _ _ _ _ _ us hl => match us, hl with | [_, _], _ => rfl))
theorem st19 : @Facts (tabC K tf) T19 19 R.prog w K mg base := by
  letI : TabC := tabC K tf
  obtain ⟨fd, F⟩ := c.def_ 18 (d := mkD "ring_calls" 26 [.non]) rfl
  refine Facts.step (st18 X Gm c TB hu) F sc_ring_calls (@Facts.glo (tabC K tf) _ _ _ _ _ _ _ (st18 X Gm c TB hu) n_ring_calls glob free false (globs X Gm c) (frees X Gm c)) (fun q => nomatch q) rd_ring_calls (He.glo_ok X Gm (c.fact 32 (f := .glo "ring_calls") rfl)) (by decide) rfl (fun j hj => ?_)
  
  by_cases h0 : j = 0
  · subst h0
    obtain ⟨ds, r1, r2⟩ := FunD.binds1 (ps := ["tree", "away"]) F 1 0 (by simp [He.DefD.dvs, mkD]) rfl fun T kV doc pm an cdv ct us its h1 h2 => match us, its, h1, h2 with | [_], [_], _, _ => ⟨_, rfl, rfl⟩
    exact ⟨_, ds, r1, fun W => (by repeat (first | exact .nil | refine .cons (by first | exact .non | exact .bl _ | exact .int _ | exact .str _) ?_)), r2⟩
  
  by_cases h1 : j = 1
  · subst h1
    obtain ⟨ds, r1, r2⟩ := FunD.binds1 (ps := ["tree", "away"]) F 2 1 (by simp [He.DefD.dvs, mkD]) rfl fun T kV doc pm an cdv ct us its h1 h2 => match us, its, h1, h2 with | [_, _], [_], _, _ => ⟨_, rfl, rfl⟩
    exact ⟨_, ds, r1, fun W => (by repeat (first | exact .nil | refine .cons (by first | exact .non | exact .bl _ | exact .int _ | exact .str _) ?_)), r2⟩
  exact absurd hj (by simp only [List.length_cons, List.length_nil]; omega)
theorem st20 : @Facts (tabC K tf) T20 20 R.prog w K mg base := by
  letI : TabC := tabC K tf
  obtain ⟨fd, F⟩ := c.def_ 19 (d := mkD "_law_walk" 34 []) rfl
  refine Facts.step (st19 X Gm c TB hu) F sc_law_walk (@Facts.glo (tabC K tf) _ _ _ _ _ _ _ (st19 X Gm c TB hu) n_law_walk glob free false (globs X Gm c) (frees X Gm c)) (fun q => nomatch q) rd_law_walk (He.glo_ok X Gm (c.fact 33 (f := .glo "_law_walk") rfl)) (by decide) rfl (bd0 (FunD.bindsN F fun _ _ _ _ _ _ us hl => match us, hl with | [_], _ => rfl))
theorem st21 : @Facts (tabC K tf) T21 21 R.prog w K mg base := by
  letI : TabC := tabC K tf
  obtain ⟨fd, F⟩ := c.def_ 20 (d := mkD "_law_callers" 35 []) rfl
  refine Facts.step (st20 X Gm c TB hu) F sc_law_callers (@Facts.glo (tabC K tf) _ _ _ _ _ _ _ (st20 X Gm c TB hu) n_law_callers glob free false (globs X Gm c) (frees X Gm c)) (fun q => nomatch q) rd_law_callers (He.glo_ok X Gm (c.fact 34 (f := .glo "_law_callers") rfl)) (by decide) rfl (bd0 (FunD.bindsN F fun _ _ _ _ _ _ us hl => match us, hl with | [_, _], _ => rfl))
theorem st22 : @Facts (tabC K tf) T22 22 R.prog w K mg base := by
  letI : TabC := tabC K tf
  obtain ⟨fd, F⟩ := c.def_ 21 (d := mkD "_law_calls" 36 []) rfl
  refine Facts.step (st21 X Gm c TB hu) F sc_law_calls (@Facts.glo (tabC K tf) _ _ _ _ _ _ _ (st21 X Gm c TB hu) n_law_calls glob free true (globs X Gm c) (frees X Gm c)) (fun _ => lamAt_of F (by decide) TB hu (by decide)) rd_law_calls (He.glo_ok X Gm (c.fact 35 (f := .glo "_law_calls") rfl)) (by decide) rfl (bd0 (FunD.bindsN F fun _ _ _ _ _ _ us hl => match us, hl with | [_, _], _ => rfl))
theorem fin {f : Addr} (hmg : mg "law" = some (.ref f)) : ∃ fd : FuncData, (∀ (s : Shared) (u : Value), BindsTo s fd ⟨[u], []⟩ [("_law_script", u)]) ∧ @FnG R.prog w K mg base 23 f fd ["_law_script"] (@spC (tabC K tf) (callOf T23) "law" 1) := by
  letI : TabC := tabC K tf
  obtain ⟨fd, F⟩ := c.def_ 22 (d := mkD "law" 37 []) rfl
  have e := hmg.symm.trans (He.glo_ok X Gm (c.fact 36 (f := .glo "law") rfl))
  cases e
  have b := FunD.bindsA (ps := ["_law_script"]) F fun _ _ _ _ _ _ us hl => match us, hl with | [_], _ => rfl
  exact ⟨fd, fun s v => b s [v] rfl, fn_ok (C := callOf T23) F sc_law (@Facts.glo (tabC K tf) _ _ _ _ _ _ _ (st22 X Gm c TB hu) n_law glob free false (globs X Gm c) (frees X Gm c)) rfl (fun q => nomatch q) rd_law fun ds s => if_pos rfl⟩
end
end K11
open PySem PySem.W PySem.Calls PyProof.Rows
theorem K11.holds_of (law : ∀ ns : List Int, ns.length ≤ 63 → (∀ z ∈ ns, Builtin.Int.intBits z ≤ 1048576) → ∃ lv st', G.callOf K11.T23 "law" [.lst (ns.map G.D.int)] ⟨[], []⟩ = .ok (lv, .bl true) ⟨[], st'⟩) : PySem.Challenge.rw_ringdown_k11_calls_of_rings.Holds := by
  w_on; o_law
  refine HandSHeadRun.head_any (r := OpenLaw.row PySem.Challenge.rw_ringdown_k11_calls_of_rings) (q := view (OpenLaw.row PySem.Challenge.rw_ringdown_k11_calls_of_rings).prog [37]) (H := K11.hk) (ob := K11.ob) (M := 4000) (loose := K11.loose) (d := HandSHeadRun.topDef (OpenLaw.row PySem.Challenge.rw_ringdown_k11_calls_of_rings).prog 37) (kwd := []) K11.ob_eq
    (by kernel_rfl) (fun s => by kernel_rfl) K11.run (by kernel_rfl) (by kernel_rfl) (by kernel_rfl) (by rfl) (by first | assumption | decide +kernel) (by decide +kernel) ⟨rfl, rfl, rfl, rfl, rfl, by decide +kernel⟩ ?hw ?hc
  case hw => w_witness2
  case hc =>
    have en : (HandSHeadRun.topDef (OpenLaw.row PySem.Challenge.rw_ringdown_k11_calls_of_rings).prog 37).name = ("law" : PySem.Str) := by kernel_rfl
    refine G.walkG (l := PySem.Challenge.rw_ringdown_k11_calls_of_rings) (n := 63) (k := 23) (lw := "law") (x := "_law_script") (C := G.callOf K11.T23) rfl (by decide) (by kernel_rfl) ⟨rfl, by decide, by decide⟩ (by decide) ?F law
    intro w K mg f h base X Gm c hmg Xb Gb TB hu
    rw [en] at hmg
    exact K11.fin X Gm c TB hu hmg
-- part F11
set_option Elab.async false
set_option linter.all false
set_option maxRecDepth 100000
set_option maxHeartbeats 0
/-! F11: the law k11 joined. -/
namespace K11
open PySem PySem.Spec L2 G Rd
theorem dig : DigitOk (f_law_digit Q2) := law_digit_ok Q2 (by rw [c_law_mixed]; exact law_mixed_ok Q1)
theorem amg : IsAmong (f_is_among Q7) := is_among_sp Q7 (by rw [c_is_whole]; exact is_whole_int Q6)
theorem ntr : NeedTreeOk (f_need_tree Q11) := need_tree_ok Q11 (by
  rw [c_first_wrong]
  exact first_wrong_ok Q10 (by rw [c10_is_among]; exact amg) (by rw [c_is_person]; exact is_person_ok Q9 (by rw [c_is_name]; exact is_name_sp Q8) (by rw [c9_is_among]; exact amg)))
theorem thr : ThoseAwayOk (f_those_away Q14) := those_away_ok Q14 (by
  rw [c_need_away]
  exact need_away_ok Q13 (by rw [c13_need_tree]; exact ntr) (by rw [c_first_not_away]; exact first_not_away_ok Q12))
theorem rng : AskedOk (f_ring_calls Q18) := ring_calls_ok Q18 (by
  rw [c_asked_calls]
  exact asked_calls_ok Q17 (by rw [c17_those_away]; exact thr) (by rw [c_own_calls]; exact own_calls_ok Q16 (by rw [c_lists_by]; exact lists_by_ok Q15)))
theorem plain (ns : List Int) : ∃ lv st', Q23 "law" [.lst (ns.map G.D.int)] ⟨[], []⟩ = .ok (lv, .bl true) ⟨[], st'⟩ := by
  rw [c_law]
  exact law_k11 Q22 (by rw [c22_law_draw]; exact law_draw_ok Q0) (by rw [c22_law_tree]; exact law_tree_ok Q4 (by rw [c4_law_digit]; exact dig) (by rw [c_law_word]; exact law_word_ok Q3 (by rw [c_law_digit]; exact dig)))
    (by rw [c22_law_away]; exact law_away_ok Q5 (by rw [c5_law_digit]; exact dig)) (by rw [c22_ring_calls]; exact rng) (by rw [c_law_calls]; exact law_calls_ok Q21 (by rw [c_law_callers]; exact law_callers_ok Q20) (by rw [c21_law_walk]; exact law_walk_ok Q19)) ns
end K11
theorem PySem.Challenge.cw_ringdown_k11_calls_of_rings_holds : PySem.Challenge.rw_ringdown_k11_calls_of_rings.Holds := by
  exact K11.holds_of fun ns _ _ => K11.plain ns
