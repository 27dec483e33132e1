import PyProof.Rows.All
import Wide.All
import OpenK.AllK
import Wide.FinOn
import HandS.ForMost
import HandS.ForExc
import HandS.CallSlots
import HandS.Wide
import HandS.Flow
import HandS.Style
import HandS.Zip
import HandS.EndBits
import HandS.TupAny
import HandS.TupLe
import HandS.IsInst
import HandS.WideBits
import HandS.Text
import HandS.RaiseMore
import HandS.ListEq
import HandS.Conv
import PyProof.ReprRoads
import HandS.Ends
import HandS.SortInts
import HandS.Dict
import HandS.Small
import HandS.TryOnly
import HandS.SetFor
import HandS.More
import HandS.WordsDict
import PyProof.Rows.IntBool
import HandS.TupMul
import KE.SortData
import KE.KTupSum
import HandS.Strs
import PyProof.CallFns
import HandS.Walk
import KE.GoesZip
import KE.GoesMore
import KE.KTurns
import PySem.Challenge.RW_etaparts_k59_whole_divisor_sums_as_ways
set_option Elab.async false
set_option linter.all false
set_option maxRecDepth 100000
set_option maxRecDepth 100000
namespace L2.Py
open PySem PySem.Spec PyProof.Rows
inductive D where
  | non | bl (b : Bool) | int (i : Int) | str (x : Str) | lst (l : List D) | tup (l : List D) | dct (l : List (Key × D)) | scr (l : List D) | ty (n : String) | hid
mutual
def Rp (K : PySem.W.Frag) (H : Hp) : D → V → Prop
  | .non, v => v = .non
  | .bl b, v => v = .bl b
  | .int i, v => v = .int i
  | .str x, v => v = .str x
  | .ty n, v => v = .ty n
  | .hid, v => ∃ a, v = .ref a
  | .lst ds, v => ∃ a xs, v = .ref a ∧ H a = some (.lst xs) ∧ Rps K H ds xs
  | .scr ds, v => ∃ a xs, v = .ref a ∧ SqL K H a xs ∧ Rps K H ds xs
  | .tup ds, v => ∃ a xs, v = .ref a ∧ SqT K H a xs ∧ Rps K H ds xs
  | .dct kd, v => ∃ a kvs, v = .ref a ∧ Rd H a (.dK kvs) ∧ Rpk K H kd kvs
def Rps (K : PySem.W.Frag) (H : Hp) : List D → List V → Prop
  | [], vs => vs = []
  | d :: ds, vs => ∃ v r, vs = v :: r ∧ Rp K H d v ∧ Rps K H ds r
def Rpk (K : PySem.W.Frag) (H : Hp) : List (Key × D) → List (Key × V) → Prop
  | [], vs => vs = []
  | (k, d) :: ds, vs => ∃ v r, vs = (k, v) :: r ∧ Rp K H d v ∧ Rpk K H ds r
end
theorem Same.sqt {K : PySem.W.Frag} {H H' : Hp} {a : Addr} {xs : List V} (e : Same H H') (h : SqT K H a xs) : SqT K H' a xs := by
  rcases h with (h | ⟨o, h⟩) | h
  · exact .inl (.inl (e _ _ h))
  · exact .inl (.inr ⟨o, e _ _ h⟩)
  · exact .inr h
theorem Same.rd {H H' : Hp} {a : Addr} {u : HO} (e : Same H H') (h : Rd H a u) : Rd H' a u := by
  rcases h with h | ⟨o, h⟩
  · exact .inl (e _ _ h)
  · exact .inr ⟨o, e _ _ h⟩
section
variable {K : PySem.W.Frag} {H H' : Hp}
mutual
theorem Rp.mono (e : Same H H') : ∀ (d : D) (v : V), Rp K H d v → Rp K H' d v
  | .non, v, h => h
  | .bl b, v, h => h
  | .int b, v, h => h
  | .str b, v, h => h
  | .ty b, v, h => h
  | .hid, v, h => h
  | .lst ds, v, h => by
    unfold Rp at h ⊢
    obtain ⟨a, xs, h1, h2, h3⟩ := h
    exact ⟨a, xs, h1, e _ _ h2, Rps.mono e ds xs h3⟩
  | .scr ds, v, h => by
    unfold Rp at h ⊢
    obtain ⟨a, xs, h1, h2, h3⟩ := h
    exact ⟨a, xs, h1, e.seq h2, Rps.mono e ds xs h3⟩
  | .tup ds, v, h => by
    unfold Rp at h ⊢
    obtain ⟨a, xs, h1, h2, h3⟩ := h
    exact ⟨a, xs, h1, Same.sqt e h2, Rps.mono e ds xs h3⟩
  | .dct ds, v, h => by
    unfold Rp at h ⊢
    obtain ⟨a, xs, h1, h2, h3⟩ := h
    exact ⟨a, xs, h1, Same.rd e h2, Rpk.mono e ds xs h3⟩
theorem Rps.mono (e : Same H H') : ∀ (d : List D) (v : List V), Rps K H d v → Rps K H' d v
  | [], v, h => h
  | d :: ds, v, h => by
    unfold Rps at h ⊢
    obtain ⟨w, r, h1, h2, h3⟩ := h
    exact ⟨w, r, h1, Rp.mono e d w h2, Rps.mono e ds r h3⟩
theorem Rpk.mono (e : Same H H') : ∀ (d : List (Key × D)) (v : List (Key × V)), Rpk K H d v → Rpk K H' d v
  | [], v, h => h
  | (k, d) :: ds, v, h => by
    unfold Rpk at h ⊢
    obtain ⟨w, r, h1, h2, h3⟩ := h
    exact ⟨w, r, h1, Rp.mono e d w h2, Rpk.mono e ds r h3⟩
end
end
inductive Fl where
  | sh | mv | lt | ls
  deriving DecidableEq
def Fl.own : Fl → Bool
  | .mv => true
  | .lt => true
  | _ => false
def Fl.pin : Fl → Bool
  | .lt => true
  | .ls => true
  | _ => false
def Fl.leak : Fl → Fl
  | .mv => .sh
  | .lt => .ls
  | f => f
theorem Fl.leak_own (f : Fl) : f.leak.own = false := by cases f <;> rfl
theorem Fl.leak_pin (f : Fl) : f.leak.pin = f.pin := by cases f <;> rfl
abbrev Slot := Option (D × Fl)
abbrev En := List Slot
structure XD where
  cls : Str
  fs : List (Str × D)
inductive R (α : Type) where
  | ok (a : α) (e : En)
  | ex (x : XD) (e : En)
  | no
inductive Tm where
  | im (d : D) | sl (i : Nat) | ow (d : D)
abbrev Sem := En → R Tm
abbrev SemL := En → R (List Tm)
abbrev SemB := En → R Bool
def OwnAt (K : PySem.W.Frag) (Hs H : Hp) : D → Addr → Prop
  | .lst ds, p => ∃ xs, H p = some (.lst xs) ∧ Rps K Hs ds xs
  | .dct kd, p => ∃ kvs, H p = some (.dK kvs) ∧ Rpk K Hs kd kvs
  | _, _ => False
section
variable {K : PySem.W.Frag} {Hs Hs' H H' Bk Bk' : Hp} {d : D} {p : Addr} {vs0 : List V} {σ : St} {e : En}
theorem OwnAt.some (h : OwnAt K Hs H d p) : ∃ o, H p = Option.some o := by
  cases d <;> first | exact h.elim | (obtain ⟨xs, h1, _⟩ := h; exact ⟨_, h1⟩)
theorem OwnAt.mono (h : OwnAt K Hs H d p) (e : Same Hs Hs') (k : H' p = H p) : OwnAt K Hs' H' d p := by
  cases d <;> first | exact h.elim | skip
  · obtain ⟨xs, h1, h2⟩ := h
    exact ⟨xs, k.trans h1, Rps.mono e _ _ h2⟩
  · obtain ⟨xs, h1, h2⟩ := h
    exact ⟨xs, k.trans h1, Rpk.mono e _ _ h2⟩
theorem same_upd {o : HO} (h : H p = none) : Same H (upd H p o) := fun b x e => by
  rw [upd_ne (ne_of_none e h)]
  exact e
theorem OwnAt.leak (h : OwnAt K Hs H d p) (n : Hs p = none) : ∃ o, H p = Option.some o ∧ Rp K (upd Hs p o) d (.ref p) := by
  cases d <;> first | exact h.elim | skip
  · obtain ⟨xs, h1, h2⟩ := h
    exact ⟨_, h1, p, xs, rfl, upd_same, Rps.mono (same_upd n) _ _ h2⟩
  · obtain ⟨xs, h1, h2⟩ := h
    exact ⟨_, h1, p, xs, rfl, .inl upd_same, Rpk.mono (same_upd n) _ _ h2⟩
structure Frm (K : PySem.W.Frag) (vs0 : List V) (Bk Hs H : Hp) (σ : St) (e : En) : Prop where
  len : e.length ≤ σ.length
  sb : Same Hs H
  bb : Same Bk H
  sh : ∀ (i : Nat) d f, e[i]? = some (some (d, f)) → f.own = false → ∃ v, σ[i]? = some (some v) ∧ Rp K Hs d v
  ow : ∀ (i : Nat) d f, e[i]? = some (some (d, f)) → f.own = true → ∃ p, σ[i]? = some (some (V.ref p)) ∧ OwnAt K Hs H d p ∧ Hs p = none ∧ Bk p = none
  dj : ∀ (i j : Nat) d f d' f' p, e[i]? = some (some (d, f)) → f.own = true → e[j]? = some (some (d', f')) → f'.own = true → σ[i]? = some (some (V.ref p)) → σ[j]? = some (some (V.ref p)) → i = j
  pn : ∀ (i : Nat) d f, e[i]? = some (some (d, f)) → f.pin = true → ∃ v, σ[i]? = some (some v) ∧ vs0[i]? = some v
def Grow (Bk Hs Hs' : Hp) : Prop := Same Hs Hs' ∧ ∀ a, Hs a = none → Hs' a ≠ none → Bk a = none
theorem Grow.refl : Grow Bk Hs Hs := ⟨.refl _, fun _ h n => absurd h n⟩
theorem Grow.trans {Hs'' : Hp} (a : Grow Bk Hs Hs') (b : Grow Bk Hs' Hs'') : Grow Bk Hs Hs'' :=
  ⟨a.1.trans b.1, fun x h n => by
    by_cases z : Hs' x = none
    · exact b.2 x z n
    · exact a.2 x h z⟩
theorem Same.none (s : Same Bk Bk') {a : Addr} (h : Bk' a = none) : Bk a = none := s.free h
theorem Grow.weak (g : Grow Bk' Hs Hs') (s : Same Bk Bk') : Grow Bk Hs Hs' := ⟨g.1, fun a h n => Same.none s (g.2 a h n)⟩
theorem Frm.weak (f : Frm K vs0 Bk' Hs H σ e) (s : Same Bk Bk') : Frm K vs0 Bk Hs H σ e :=
  ⟨f.len, f.sb, s.trans f.bb, f.sh, fun i d fl h o => let ⟨p, h1, h2, h3, h4⟩ := f.ow i d fl h o; ⟨p, h1, h2, h3, Same.none s h4⟩, f.dj, f.pn⟩
def RpT (K : PySem.W.Frag) (Bk Hs H : Hp) (σ : St) : Tm → V → Prop
  | .im d, v => Rp K Hs d v
  | .sl i, v => σ[i]? = some (some v)
  | .ow d, v => ∃ p, v = .ref p ∧ OwnAt K Hs H d p ∧ Hs p = none ∧ Bk p = none
def ext (Bk H : Hp) (l : List Addr) : Hp := fun a => if a ∈ l then H a else Bk a
def ownA : Tm → V → List Addr
  | .ow _, .ref p => [p]
  | _, _ => []
def ownAs : List Tm → List V → List Addr
  | t :: ts, v :: vs => ownA t v ++ ownAs ts vs
  | _, _ => []
theorem ext_nil : ext Bk H [] = Bk := by funext a; unfold ext; simp
theorem ext_mem {l : List Addr} {a : Addr} (h : a ∈ l) : ext Bk H l a = H a := if_pos h
theorem ext_not {l : List Addr} {a : Addr} (h : a ∉ l) : ext Bk H l a = Bk a := if_neg h
theorem ext_ext {l m : List Addr} : ext (ext Bk H l) H m = ext Bk H (l ++ m) := by
  funext a
  unfold ext
  by_cases h : a ∈ m <;> by_cases g : a ∈ l <;> simp [h, g]
theorem ext_same {l : List Addr} (h : ∀ a ∈ l, Bk a = none) : Same Bk (ext Bk H l) := fun a o q => by
  rw [ext_not fun m => by rw [h a m] at q; cases q]
  exact q
def Tmp (K : PySem.W.Frag) (vs0 : List V) (Bk Hs H : Hp) (σ : St) (e : En) (t : Tm) (v : V) : Prop := Frm K vs0 (ext Bk H (ownA t v)) Hs H σ e ∧ RpT K Bk Hs H σ t v
theorem RpT.own {t : Tm} {v : V} (h : RpT K Bk Hs H σ t v) : ∀ a ∈ ownA t v, Bk a = none ∧ Hs a = none ∧ ∃ o, H a = Option.some o := by
  intro a m
  cases t with
  | im d => cases m
  | sl i => cases m
  | ow d =>
    obtain ⟨p, rfl, h1, h2, n⟩ := h
    cases List.mem_singleton.mp m
    exact ⟨n, h2, h1.some⟩
theorem RpT.weak {t : Tm} {v : V} (h : RpT K Bk' Hs H σ t v) (s : Same Bk Bk') : RpT K Bk Hs H σ t v := by
  cases t with
  | im d => exact h
  | sl i => exact h
  | ow d =>
    obtain ⟨p, rfl, h1, h2, n⟩ := h
    exact ⟨p, rfl, h1, h2, Same.none s n⟩
theorem Tmp.frm {t : Tm} {v : V} (h : Tmp K vs0 Bk Hs H σ e t v) : Frm K vs0 Bk Hs H σ e := h.1.weak (ext_same fun a m => (h.2.own a m).1)
def RpF (K : PySem.W.Frag) (Hs : Hp) : List (Str × D) → List (Str × V) → Prop
  | [], vs => vs = []
  | (k, d) :: ds, vs => ∃ v r, vs = (k, v) :: r ∧ Rp K Hs d v ∧ RpF K Hs ds r
def RpX (K : PySem.W.Frag) (mg : Str → Option Value) (Hs H : Hp) (x : XD) (c : Value) (dx : Option Addr) : Prop :=
  mg x.cls = some c ∧ (x.fs ≠ [] → ∃ a fs, dx = some a ∧ H a = some (.xd fs) ∧ RpF K Hs x.fs fs)
def PostE (K : PySem.W.Frag) (mg : Str → Option Value) (W : WX) (vs0 : List V) (Bk Hs : Hp) (σ : St) (Q : VK) : R Tm → Prop
  | .no => False
  | .ok t e' => ∀ v Hs' H', Grow Bk Hs Hs' → Tmp K vs0 Bk Hs' H' σ e' t v → Q v H'
  | .ex x e' => ∀ c dx Hs' H', Grow Bk Hs Hs' → Frm K vs0 Bk Hs' H' σ e' → RpX K mg Hs' H' x c dx → W c dx σ H'
def TI' (K : PySem.W.Frag) (mg : Str → Option Value) (W : WX) (f : Sem) : TE := fun σ H Q => ∃ vs0 Bk Hs e, Frm K vs0 Bk Hs H σ e ∧ PostE K mg W vs0 Bk Hs σ Q (f e)
def PostB (K : PySem.W.Frag) (mg : Str → Option Value) (W : WX) (vs0 : List V) (Bk Hs : Hp) (σ : St) (Q : Bool → Hp → Prop) : R Bool → Prop
  | .no => False
  | .ok t e' => ∀ Hs' H', Grow Bk Hs Hs' → Frm K vs0 Bk Hs' H' σ e' → Q t H'
  | .ex x e' => ∀ c dx Hs' H', Grow Bk Hs Hs' → Frm K vs0 Bk Hs' H' σ e' → RpX K mg Hs' H' x c dx → W c dx σ H'
def TB' (K : PySem.W.Frag) (mg : Str → Option Value) (W : WX) (f : SemB) : TT := fun σ H Q => ∃ vs0 Bk Hs e, Frm K vs0 Bk Hs H σ e ∧ PostB K mg W vs0 Bk Hs σ Q (f e)
def RpTs (K : PySem.W.Frag) (Bk Hs H : Hp) (σ : St) : List Tm → List V → Prop
  | [], vs => vs = []
  | t :: ts, vs => ∃ v r, vs = v :: r ∧ RpT K Bk Hs H σ t v ∧ RpTs K Bk Hs H σ ts r
structure Tmps (K : PySem.W.Frag) (vs0 : List V) (Bk Hs H : Hp) (σ : St) (e : En) (ts : List Tm) (vs : List V) : Prop where
  f : Frm K vs0 (ext Bk H (ownAs ts vs)) Hs H σ e
  r : RpTs K Bk Hs H σ ts vs
  n : (ownAs ts vs).Nodup
theorem RpTs.own : ∀ {ts : List Tm} {vs : List V}, RpTs K Bk Hs H σ ts vs → ∀ a ∈ ownAs ts vs, Bk a = none ∧ Hs a = none ∧ ∃ o, H a = Option.some o
  | [], vs, h, a, m => by cases m
  | t :: ts, vs, h, a, m => by
    obtain ⟨v, r, rfl, h1, h2⟩ := h
    rcases List.mem_append.mp m with m | m
    · exact h1.own a m
    · exact RpTs.own h2 a m
theorem RpTs.weak (s : Same Bk Bk') : ∀ {ts : List Tm} {vs : List V}, RpTs K Bk' Hs H σ ts vs → RpTs K Bk Hs H σ ts vs
  | [], vs, h => h
  | t :: ts, vs, h => by
    obtain ⟨v, r, rfl, h1, h2⟩ := h
    exact ⟨v, r, rfl, h1.weak s, RpTs.weak s h2⟩
theorem Tmps.frm {ts : List Tm} {vs : List V} (h : Tmps K vs0 Bk Hs H σ e ts vs) : Frm K vs0 Bk Hs H σ e := h.f.weak (ext_same fun a m => (h.r.own a m).1)
def PostL (K : PySem.W.Frag) (mg : Str → Option Value) (W : WX) (vs0 : List V) (Bk Hs : Hp) (σ : St) (Q : List V → Hp → Prop) : R (List Tm) → Prop
  | .no => False
  | .ok ts e' => ∀ vs Hs' H', Grow Bk Hs Hs' → Tmps K vs0 Bk Hs' H' σ e' ts vs → Q vs H'
  | .ex x e' => ∀ c dx Hs' H', Grow Bk Hs Hs' → Frm K vs0 Bk Hs' H' σ e' → RpX K mg Hs' H' x c dx → W c dx σ H'
def TL' (K : PySem.W.Frag) (mg : Str → Option Value) (W : WX) (f : SemL) : TA := fun σ H Q => ∃ vs0 Bk Hs e, Frm K vs0 Bk Hs H σ e ∧ PostL K mg W vs0 Bk Hs σ Q (f e)
theorem own_later {l : List Addr} {Hs1 H1 : Hp} (h : ∀ a ∈ l, Bk a = none ∧ Hs a = none ∧ ∃ o, H a = Option.some o) (g : Grow (ext Bk H l) Hs Hs1) (f : Same (ext Bk H l) H1) : ∀ a ∈ l, H1 a = H a ∧ Hs1 a = none := by
  intro a m
  obtain ⟨h1, h2, o, h3⟩ := h a m
  have k : ext Bk H l a = some o := (ext_mem m).trans h3
  refine ⟨(f a o k).trans h3.symm, ?_⟩
  cases q : Hs1 a with
  | none => rfl
  | some u =>
    have := g.2 a h2 (by rw [q]; simp)
    rw [k] at this
    cases this
theorem RpT.later {t : Tm} {v : V} {Hs1 H1 : Hp} (h : RpT K Bk Hs H σ t v) (g : Grow (ext Bk H (ownA t v)) Hs Hs1) (f : Same (ext Bk H (ownA t v)) H1) : RpT K Bk Hs1 H1 σ t v := by
  have z := own_later h.own g f
  cases t with
  | im d => exact Rp.mono g.1 _ _ h
  | sl i => exact h
  | ow d =>
    obtain ⟨p, rfl, h1, h2, h3⟩ := h
    obtain ⟨z1, z2⟩ := z p (List.mem_singleton.mpr rfl)
    exact ⟨p, rfl, h1.mono g.1 z1, z2, h3⟩
theorem ext_later {l : List Addr} {H1 : Hp} (h : ∀ a ∈ l, H1 a = H a) : ext Bk H1 l = ext Bk H l := by
  funext a
  by_cases q : a ∈ l
  · rw [ext_mem q, ext_mem q, h a q]
  · rw [ext_not q, ext_not q]
theorem PostE.grow {mg : Str → Option Value} {W : WX} {Q : VK} {r : R Tm} (h : PostE K mg W vs0 Bk Hs σ Q r) (g : Grow Bk Hs Hs') : PostE K mg W vs0 Bk Hs' σ Q r := by
  cases r with
  | no => exact h
  | ok t e' => exact fun v Hs1 H1 g1 => h v Hs1 H1 (g.trans g1)
  | ex x e' => exact fun c dx Hs1 H1 g1 => h c dx Hs1 H1 (g.trans g1)
theorem PostL.grow {mg : Str → Option Value} {W : WX} {Q : List V → Hp → Prop} {r : R (List Tm)} (h : PostL K mg W vs0 Bk Hs σ Q r) (g : Grow Bk Hs Hs') : PostL K mg W vs0 Bk Hs' σ Q r := by
  cases r with
  | no => exact h
  | ok t e' => exact fun v Hs1 H1 g1 => h v Hs1 H1 (g.trans g1)
  | ex x e' => exact fun c dx Hs1 H1 g1 => h c dx Hs1 H1 (g.trans g1)
theorem PostB.grow {mg : Str → Option Value} {W : WX} {Q : Bool → Hp → Prop} {r : R Bool} (h : PostB K mg W vs0 Bk Hs σ Q r) (g : Grow Bk Hs Hs') : PostB K mg W vs0 Bk Hs' σ Q r := by
  cases r with
  | no => exact h
  | ok t e' => exact fun Hs1 H1 g1 => h Hs1 H1 (g.trans g1)
  | ex x e' => exact fun c dx Hs1 H1 g1 => h c dx Hs1 H1 (g.trans g1)
end
def Tm.get (e : En) : Tm → Option D
  | .im d => some d
  | .ow d => some d
  | .sl i => match e[i]? with
    | some (some (d, _)) => some d
    | _ => none
def getAll (e : En) : List Tm → Option (List D)
  | [] => some []
  | t :: ts => match t.get e with
    | none => none
    | some d => match getAll e ts with
      | none => none
      | some ds => some (d :: ds)
def Rd1 (K : PySem.W.Frag) (Hs H : Hp) (d : D) (v : V) : Prop := Rp K Hs d v ∨ ∃ p, v = .ref p ∧ OwnAt K Hs H d p
def Rds (K : PySem.W.Frag) (Hs H : Hp) : List D → List V → Prop
  | [], vs => vs = []
  | d :: ds, vs => ∃ v r, vs = v :: r ∧ Rd1 K Hs H d v ∧ Rds K Hs H ds r
section
variable {K : PySem.W.Frag} {Hs Hs' H H' Bk Bk' : Hp} {d : D} {p : Addr} {vs0 : List V} {σ : St} {e : En}
theorem RpT.rd {t : Tm} {v : V} (h : RpT K Bk Hs H σ t v) (f : Frm K vs0 Bk' Hs H σ e) (g : t.get e = some d) : Rd1 K Hs H d v := by
  cases t with
  | im d' => cases g; exact .inl h
  | ow d' =>
    cases g
    obtain ⟨p, h1, h2, _⟩ := h
    exact .inr ⟨p, h1, h2⟩
  | sl i =>
    have g : (match e[i]? with
      | some (some (d, _)) => some d
      | _ => none) = some d := g
    split at g
    · rename_i d' fl q
      cases g
      cases o : fl.own with
      | false =>
        obtain ⟨v', h1, h2⟩ := f.sh i _ _ q o
        have h : σ[i]? = some (some v) := h
        rw [h1] at h
        cases h
        exact .inl h2
      | true =>
        obtain ⟨p, h1, h2, _⟩ := f.ow i _ _ q o
        have h : σ[i]? = some (some v) := h
        rw [h1] at h
        cases h
        exact .inr ⟨p, rfl, h2⟩
    · cases g
theorem RpTs.rds (f : Frm K vs0 Bk' Hs H σ e) : ∀ {ts : List Tm} {vs : List V} {ds : List D}, RpTs K Bk Hs H σ ts vs → getAll e ts = some ds → Rds K Hs H ds vs
  | [], vs, ds, h, g => by cases g; exact h
  | t :: ts, vs, ds, h, g => by
    obtain ⟨v, r, rfl, h1, h2⟩ := h
    unfold getAll at g
    split at g
    · cases g
    · rename_i d hd
      split at g
      · cases g
      · rename_i ds' hds
        cases g
        exact ⟨v, r, rfl, h1.rd f hd, RpTs.rds f h2 hds⟩
def NewOut (K : PySem.W.Frag) (Hs H : Hp) (t : Tm) (v : V) (Hs' H' : Hp) : Prop := Same H H' ∧ Same Hs Hs' ∧ Same Hs' H' ∧ (∀ a, Hs a = none → Hs' a ≠ none → H a = none) ∧
  match t with
  | .im d => Rp K Hs' d v
  | .ow d => ∃ p, v = .ref p ∧ H p = none ∧ Hs' p = none ∧ OwnAt K Hs' H' d p
  | .sl _ => False
theorem NewOut.tmp {t : Tm} {v : V} (n : NewOut K Hs H t v Hs' H') (f : Frm K vs0 Bk' Hs H σ e) (s : Same Bk Bk') : Tmp K vs0 Bk Hs' H' σ e t v ∧ Grow Bk Hs Hs' := by
  obtain ⟨n1, n2, n3, n4, n5⟩ := n
  have fb := f.weak s
  have hb : ∀ a, H a = none → Bk a = none := fun a h => Same.none fb.bb h
  have g : Grow Bk Hs Hs' := ⟨n2, fun a h k => hb a (n4 a h k)⟩
  have fw : Frm K vs0 Bk Hs' H' σ e := by
    refine ⟨f.len, n3, fb.bb.trans n1, fun i d fl h o => ?_, fun i d fl h o => ?_, f.dj, f.pn⟩
    · obtain ⟨w, h1, h2⟩ := f.sh i d fl h o
      exact ⟨w, h1, Rp.mono n2 _ _ h2⟩
    · obtain ⟨p, h1, h2, h3, h4⟩ := fb.ow i d fl h o
      obtain ⟨ob, hob⟩ := h2.some
      refine ⟨p, h1, h2.mono n2 ((n1 _ _ hob).trans hob.symm), ?_, h4⟩
      cases q : Hs' p with
      | none => rfl
      | some u =>
        have := n4 p h3 (by rw [q]; simp)
        rw [hob] at this
        cases this
  refine ⟨?_, g⟩
  cases t with
  | im d => exact ⟨by rw [show ownA (.im d) v = [] from rfl, ext_nil]; exact fw, n5⟩
  | sl i => exact n5.elim
  | ow d =>
    obtain ⟨p, rfl, h1, h2, h3⟩ := n5
    refine ⟨⟨fw.len, fw.sb, fun a o q => ?_, fw.sh, fun i d' fl h o => ?_, fw.dj, fw.pn⟩, p, rfl, h3, h2, hb p h1⟩
    · by_cases m : a ∈ ownA (.ow d) (.ref p)
      · rw [ext_mem m] at q; exact q
      · rw [ext_not m] at q; exact fw.bb a o q
    · obtain ⟨p', k1, k2, k3, k4⟩ := fw.ow i d' fl h o
      refine ⟨p', k1, k2, k3, ?_⟩
      rw [ext_not ?_]
      · exact k4
      · intro m
        cases List.mem_singleton.mp m
        obtain ⟨q, w1, w2, _⟩ := f.ow i d' fl h o
        rw [w1] at k1
        cases k1
        obtain ⟨ob, hob⟩ := w2.some
        rw [hob] at h1
        cases h1
end
def PureOk (K : PySem.W.Frag) (g : List D → Option Tm) (r : List V → Hp → VK → Prop) : Prop :=
  ∀ (Hs H : Hp) (vs : List V) (ds : List D) (t : Tm) (Q : VK), Same Hs H → Rds K Hs H ds vs → g ds = some t → (∀ v H' Hs', NewOut K Hs H t v Hs' H' → Q v H') → r vs H Q
def sPure (g : List D → Option Tm) (ts : List Tm) (e : En) : R Tm := match getAll e ts with
  | none => .no
  | some ds => match g ds with
    | none => .no
    | some t => .ok t e
theorem pure_fin {K : PySem.W.Frag} {mg : Str → Option Value} {W : WX} {vs0 : List V} {Bk Hs H : Hp} {σ : St} {e : En} {g : List D → Option Tm} {r : List V → Hp → VK → Prop} {Q : VK} {ts : List Tm} {vs : List V}
    (hp : PureOk K g r) (t : Tmps K vs0 Bk Hs H σ e ts vs) (h : PostE K mg W vs0 Bk Hs σ Q (sPure g ts e)) : r vs H Q := by
  unfold sPure at h
  split at h
  · exact h.elim
  · rename_i ds hds
    split at h
    · exact h.elim
    · rename_i t' ht
      refine hp Hs H vs ds t' Q t.f.sb (t.r.rds t.f hds) ht fun v H' Hs' n => ?_
      obtain ⟨a, b⟩ := n.tmp t.f (ext_same fun a m => (t.r.own a m).1)
      exact h v Hs' H' b a
theorem PE_imp {X : Cx} {e : Expr} {t t' : TE} (h : PE X e t) (i : ∀ σ H Q, t' σ H Q → t σ H Q) : PE X e t' := ⟨fun pins s σ H Q I q => h.run pins s σ H Q I (i σ H Q q)⟩
theorem PT_imp {X : Cx} {e : Expr} {t t' : TT} (h : PT X e t) (i : ∀ σ H Q, t' σ H Q → t σ H Q) : PT X e t' := ⟨fun pins s σ H Q I q => h.run pins s σ H Q I (i σ H Q q)⟩
theorem PA_imp {X : Cx} {e : List Expr} {t t' : TA} (h : PA X e t) (i : ∀ σ H Q, t' σ H Q → t σ H Q) : PA X e t' := ⟨fun pos pins s σ H Q I q => h.run pos pins s σ H Q I (i σ H Q q)⟩
theorem PS_imp {X : Cx} {e : Stmt} {t t' : TS} (h : PS X e t) (i : ∀ D σ H, t' D σ H → t D σ H) : PS X e t' := ⟨fun pins s σ H D I q => h.run pins s σ H D I (i D σ H q)⟩
theorem PSs_imp {X : Cx} {e : List Stmt} {t t' : TS} (h : PSs X e t) (i : ∀ D σ H, t' D σ H → t D σ H) : PSs X e t' := ⟨fun pins s σ H D I q => h.run pins s σ H D I (i D σ H q)⟩
abbrev JE (X : Cx) (W : WX) (e : Expr) (f : Sem) : Prop := PE X e (TI' X.K X.mg W f)
abbrev JA (X : Cx) (W : WX) (e : List Expr) (f : SemL) : Prop := PA X e (TL' X.K X.mg W f)
abbrev JB (X : Cx) (W : WX) (e : Expr) (f : SemB) : Prop := PT X e (TB' X.K X.mg W f)
def sNil : SemL := fun e => .ok [] e
def sCons (f : Sem) (g : SemL) : SemL := fun e => match f e with
  | .no => .no
  | .ex x e1 => .ex x e1
  | .ok t e1 => match g e1 with
    | .no => .no
    | .ex x e2 => .ex x e2
    | .ok ts e2 => .ok (t :: ts) e2
def sOp (g : List D → Option Tm) (f : SemL) : Sem := fun e => match f e with
  | .no => .no
  | .ex x e1 => .ex x e1
  | .ok ts e1 => sPure g ts e1
section
variable {X : Cx} {W : WX} {a b : Expr} {es : List Expr} {fa fb : Sem} {fl : SemL} {pos : Pos}
variable {K : PySem.W.Frag} {mg : Str → Option Value} {vs0 : List V} {Bk Hs H : Hp} {σ : St} {e : En}
theorem cons_fin {Q : List V → Hp → Prop} (f : Frm K vs0 Bk Hs H σ e) (h : PostL K mg W vs0 Bk Hs σ Q (sCons fa fl e)) :
    PostE K mg W vs0 Bk Hs σ (fun x H1 => TL' K mg W fl σ H1 fun xs H2 => Q (x :: xs) H2) (fa e) := by
  unfold sCons at h
  split at h
  · exact h.elim
  · rename_i x e1 q; rw [q]; exact h
  · rename_i t e1 q
    rw [q]
    intro v Hs1 H1 g1 t1
    have es := ext_same (H := H1) fun a m => (t1.2.own a m).1
    refine ⟨vs0, ext Bk H1 (ownA t v), Hs1, e1, t1.1, ?_⟩
    split at h
    · exact h.elim
    · rename_i x e2 q2
      rw [q2]
      intro c dx Hs2 H2 g2 f2
      exact h c dx Hs2 H2 (g1.trans (g2.weak es)) (f2.weak es)
    · rename_i ts e2 q2
      rw [q2]
      intro vs Hs2 H2 g2 t2
      have fb := t2.frm.bb
      have lt := t1.2.later g2 fb
      have z := own_later t1.2.own g2 fb
      have ee : ext Bk H2 (ownA t v) = ext Bk H1 (ownA t v) := ext_later fun a m => (z a m).1
      refine h (v :: vs) Hs2 H2 (g1.trans (g2.weak es)) ⟨?_, ⟨v, vs, rfl, lt, t2.r.weak es⟩, ?_⟩
      · show Frm K vs0 (ext Bk H2 (ownA t v ++ ownAs ts vs)) Hs2 H2 σ e2
        rw [← ext_ext, ee]
        exact t2.f
      · show (ownA t v ++ ownAs ts vs).Nodup
        refine List.nodup_append.mpr ⟨?_, t2.n, fun a m b m2 q => ?_⟩
        · cases t with
          | im d => exact .nil
          | sl i => exact .nil
          | ow d =>
            obtain ⟨p, rfl, _⟩ := lt
            exact List.nodup_cons.mpr ⟨by simp, .nil⟩
        · subst q
          have k1 := (t2.r.own a m2).1
          rw [ext_mem m] at k1
          obtain ⟨_, _, o, k2⟩ := t1.2.own a m
          rw [k2] at k1
          cases k1
theorem tl_nil {Q : List V → Hp → Prop} (h : TL' K mg W sNil σ H Q) : Q [] H := by
  obtain ⟨vs0, Bk, Hs, e, f, h⟩ := h
  exact h [] Hs H .refl ⟨by rw [show ownAs [] [] = [] from rfl, ext_nil]; exact f, rfl, .nil⟩
theorem ja_nil : JA X W [] sNil := PA_imp pa_nil fun σ H Q h => tl_nil h
theorem ja_cons (ha : JE X W a fa) (hr : JA X W es fl) (hs : starEach (a :: es) X.env = (false, eval a X.env) :: starEach es X.env := by rfl) : JA X W (a :: es) (sCons fa fl) :=
  PA_imp (pa_cons ha hr hs) fun σ H Q ⟨vs0, Bk, Hs, e, f, h⟩ => ⟨vs0, Bk, Hs, e, f, cons_fin f h⟩
theorem op_fin {g : List D → Option Tm} {r : List V → Hp → VK → Prop} {Q : VK} (hp : PureOk K g r) (f : Frm K vs0 Bk Hs H σ e) (h : PostE K mg W vs0 Bk Hs σ Q (sOp g fl e)) : PostL K mg W vs0 Bk Hs σ (fun vs H1 => r vs H1 Q) (fl e) := by
  unfold sOp at h
  split at h
  · exact h.elim
  · rename_i x e1 q; rw [q]; exact h
  · rename_i ts e1 q
    rw [q]
    intro vs Hs1 H1 g1 t1
    exact pure_fin hp t1 (h.grow g1)
def r2 (r : R2) : List V → Hp → VK → Prop := fun vs H Q => ∃ x y, vs = [x, y] ∧ r x y H Q
def s2 (fa fb : Sem) : SemL := sCons fa (sCons fb sNil)
theorem tl_cons {Q : List V → Hp → Prop} (h : TL' K mg W (sCons fa fl) σ H Q) : TI' K mg W fa σ H fun x H1 => TL' K mg W fl σ H1 fun xs H2 => Q (x :: xs) H2 := by
  obtain ⟨vs0, Bk, Hs, e, f, h⟩ := h
  exact ⟨vs0, Bk, Hs, e, f, cons_fin f h⟩
theorem TI_imp {Q Q' : VK} (h : TI' K mg W fa σ H Q) (i : ∀ v H', Q v H' → Q' v H') : TI' K mg W fa σ H Q' := by
  obtain ⟨vs0, Bk, Hs, e, f, h⟩ := h
  refine ⟨vs0, Bk, Hs, e, f, ?_⟩
  cases q : fa e with
  | no => rw [q] at h; exact h
  | ok t e1 => rw [q] at h; exact fun v Hs1 H1 g1 t1 => i _ _ (h v Hs1 H1 g1 t1)
  | ex x e1 => rw [q] at h; exact h
theorem two_fin {g : List D → Option Tm} {r : R2} {Q : VK} (hp : PureOk K g (r2 r)) (h : TI' K mg W (sOp g (s2 fa fb)) σ H Q) : tOp r (TI' K mg W fa) (TI' K mg W fb) σ H Q := by
  obtain ⟨vs0, Bk, Hs, e, f, h⟩ := h
  have h1 : TL' K mg W (s2 fa fb) σ H (fun vs H1 => r2 r vs H1 Q) := ⟨vs0, Bk, Hs, e, f, op_fin hp f h⟩
  refine TI_imp (tl_cons h1) fun x H1 h2 => ?_
  refine TI_imp (tl_cons h2) fun y H2 h3 => ?_
  obtain ⟨x', y', e, q⟩ := tl_nil h3
  cases e
  exact q
theorem je_bin {op : Operator} {g : List D → Option Tm} {r : R2} (ho : OpR X (binaryOp op) r) (hp : PureOk X.K g (r2 r)) (ha : JE X W a fa) (hb : JE X W b fb) : JE X W (.BinOp a op b pos) (sOp g (s2 fa fb)) :=
  PE_imp (pe_op ho ha hb) fun _ _ _ h => two_fin hp h
theorem je_cmp {op : CmpOp} {g : List D → Option Tm} {r : R2} (ho : OpR X (compareOp op) r) (hp : PureOk X.K g (r2 r)) (ha : JE X W a fa) (hb : JE X W b fb) (hm : behindInMarks op b = false) : JE X W (.Compare a [op] [b] pos) (sOp g (s2 fa fb)) :=
  PE_imp (pe_cmpR ho ha hb hm) fun _ _ _ h => two_fin hp h
end
end L2.Py
set_option maxRecDepth 100000
namespace L2.Py
open PySem PySem.Spec PyProof.Rows
def takeT : Tm → En → Option (Tm × En)
  | .sl i, e => match e[i]? with
    | some (some (d, f)) => some (.im d, e.set i (some (d, f.leak)))
    | _ => none
  | t, e => some (t, e)
def takeAll : List Tm → En → Option (List Tm × En)
  | [], e => some ([], e)
  | t :: ts, e => match takeT t e with
    | none => none
    | some (t', e1) => match takeAll ts e1 with
      | none => none
      | some (ts', e2) => some (t' :: ts', e2)
def put (i : Nat) (d : D) (f : Fl) (e : En) : Option En := match e[i]? with
  | none => none
  | some none => some (e.set i (some (d, f)))
  | some (some (_, fl)) => if fl.pin then none else some (e.set i (some (d, f)))
def storeT (i : Nat) : Tm → En → Option En
  | .im d, e => put i d .sh e
  | .ow d, e => put i d .mv e
  | .sl _, _ => none
def NoSl : Tm → Prop
  | .sl _ => False
  | _ => True
section
variable {K : PySem.W.Frag} {mg : Str → Option Value} {Hs Hs' H H' Bk Bk' : Hp} {d : D} {p : Addr} {vs0 : List V} {σ : St} {e e' : En} {i : Nat} {fl : Fl} {t t' : Tm} {v : V}
theorem get_set {e : En} {i j : Nat} {x : Slot} {y : D × Fl} (h : (e.set i x)[j]? = some (some y)) : (j = i ∧ x = some y) ∨ (j ≠ i ∧ e[j]? = some (some y)) := by
  by_cases q : j = i
  · subst q
    rw [List.getElem?_set] at h
    simp only [if_true] at h
    split at h
    · exact .inl ⟨rfl, Option.some.inj h⟩
    · cases h
  · rw [List.getElem?_set_ne (Ne.symm q)] at h
    exact .inr ⟨q, h⟩
theorem Frm.leak (f : Frm K vs0 Bk Hs H σ e) (q : e[i]? = some (some (d, fl))) : ∃ Hs' v, Grow Bk Hs Hs' ∧ Frm K vs0 Bk Hs' H σ (e.set i (some (d, fl.leak))) ∧ σ[i]? = some (some v) ∧ Rp K Hs' d v := by
  cases o : fl.own with
  | false =>
    obtain ⟨v, h1, h2⟩ := f.sh i d fl q o
    have el : fl.leak = fl := by cases fl <;> first | rfl | cases o
    refine ⟨Hs, v, .refl, ?_, h1, h2⟩
    rw [el]
    have : e.set i (some (d, fl)) = e := by
      apply List.ext_getElem?
      intro j
      by_cases h : j = i
      · subst h
        rw [List.getElem?_set]
        simp only [if_true]
        split
        · exact q.symm
        · rename_i hl
          rw [List.getElem?_eq_none (Nat.le_of_not_lt hl)]
      · rw [List.getElem?_set_ne (Ne.symm h)]
    rw [this]
    exact f
  | true =>
    obtain ⟨p, h1, h2, h3, h4⟩ := f.ow i d fl q o
    obtain ⟨ob, h5, h6⟩ := h2.leak h3
    have sm : Same Hs (upd Hs p ob) := same_upd h3
    refine ⟨upd Hs p ob, .ref p, ⟨sm, fun a ha hn => ?_⟩, ⟨by simpa using f.len, fun a o' q' => ?_, f.bb, fun j d' f' h ho => ?_, fun j d' f' h ho => ?_, fun j k d1 f1 d2 f2 p' a1 o1 a2 o2 s1 s2 => ?_, fun j d' f' h ho => ?_⟩, h1, h6⟩
    · by_cases z : a = p
      · subst z; exact h4
      · rw [upd_ne z] at hn; exact absurd ha hn
    · by_cases z : a = p
      · subst z; rw [upd_same] at q'; rw [← q']; exact h5
      · rw [upd_ne z] at q'; exact f.sb a o' q'
    · rcases get_set h with ⟨rfl, z⟩ | ⟨_, z⟩
      · cases z; exact ⟨_, h1, h6⟩
      · obtain ⟨w, k1, k2⟩ := f.sh j d' f' z ho
        exact ⟨w, k1, Rp.mono sm _ _ k2⟩
    · rcases get_set h with ⟨rfl, z⟩ | ⟨ne, z⟩
      · cases z; rw [Fl.leak_own] at ho; cases ho
      · obtain ⟨p', k1, k2, k3, k4⟩ := f.ow j d' f' z ho
        have hne : p' ≠ p := fun z' => by
          subst z'
          exact ne (f.dj j i d' f' d fl p' z ho q o k1 h1)
        exact ⟨p', k1, k2.mono sm rfl, by rw [upd_ne hne]; exact k3, k4⟩
    · rcases get_set a1 with ⟨rfl, z⟩ | ⟨_, z1⟩
      · cases z; rw [Fl.leak_own] at o1; cases o1
      · rcases get_set a2 with ⟨rfl, z⟩ | ⟨_, z2⟩
        · cases z; rw [Fl.leak_own] at o2; cases o2
        · exact f.dj j k d1 f1 d2 f2 p' z1 o1 z2 o2 s1 s2
    · rcases get_set h with ⟨rfl, z⟩ | ⟨_, z⟩
      · cases z; rw [Fl.leak_pin] at ho; exact f.pn _ _ _ q ho
      · exact f.pn _ _ _ z ho
theorem RpT.grow {l : List Addr} (h : RpT K Bk Hs H σ t v) (s : ∀ a ∈ ownA t v, a ∈ l) (g : Grow (ext Bk H l) Hs Hs') : RpT K Bk Hs' H σ t v := by
  cases t with
  | im d => exact Rp.mono g.1 _ _ h
  | sl i => exact h
  | ow d =>
    obtain ⟨p, rfl, h1, h2, h3⟩ := h
    refine ⟨p, rfl, h1.mono g.1 rfl, ?_, h3⟩
    cases q : Hs' p with
    | none => rfl
    | some u =>
      have := g.2 p h2 (by rw [q]; simp)
      rw [ext_mem (s p (List.mem_singleton.mpr rfl))] at this
      obtain ⟨o, ho⟩ := h1.some
      rw [ho] at this
      cases this
theorem RpTs.grow {l : List Addr} (g : Grow (ext Bk H l) Hs Hs') : ∀ {ts : List Tm} {vs : List V}, RpTs K Bk Hs H σ ts vs → (∀ a ∈ ownAs ts vs, a ∈ l) → RpTs K Bk Hs' H σ ts vs
  | [], vs, h, s => h
  | t :: ts, vs, h, s => by
    obtain ⟨v, r, rfl, h1, h2⟩ := h
    exact ⟨v, r, rfl, h1.grow (fun a m => s a (List.mem_append_left _ m)) g, RpTs.grow g h2 fun a m => s a (List.mem_append_right _ m)⟩
theorem take_ok {l : List Addr} (f : Frm K vs0 (ext Bk H l) Hs H σ e) (h : RpT K Bk Hs H σ t v) (q : takeT t e = some (t', e')) :
    ∃ Hs', Grow (ext Bk H l) Hs Hs' ∧ Frm K vs0 (ext Bk H l) Hs' H σ e' ∧ (NoSl t' ∧ ownA t' v = ownA t v) ∧ ((∀ a ∈ ownA t v, a ∈ l) → RpT K Bk Hs' H σ t' v) := by
  cases t with
  | im d => cases q; exact ⟨Hs, .refl, f, ⟨trivial, rfl⟩, fun _ => h⟩
  | ow d => cases q; exact ⟨Hs, .refl, f, ⟨trivial, rfl⟩, fun _ => h⟩
  | sl i =>
    have q : (match e[i]? with
      | some (some (d, f)) => some (Tm.im d, e.set i (some (d, f.leak)))
      | _ => none) = some (t', e') := q
    split at q
    · rename_i d fl z
      cases q
      obtain ⟨Hs', w, g, f', h1, h2⟩ := f.leak z
      have h : σ[i]? = some (some v) := h
      rw [h1] at h
      cases h
      exact ⟨Hs', g, f', ⟨trivial, rfl⟩, fun _ => h2⟩
    · cases q
theorem takeAll_ok {l : List Addr} : ∀ {ts ts' : List Tm} {vs : List V} {e e' : En} {Hs : Hp}, Frm K vs0 (ext Bk H l) Hs H σ e → RpTs K Bk Hs H σ ts vs → (∀ a ∈ ownAs ts vs, a ∈ l) → takeAll ts e = some (ts', e') →
    ∃ Hs', Grow (ext Bk H l) Hs Hs' ∧ Frm K vs0 (ext Bk H l) Hs' H σ e' ∧ (∀ t ∈ ts', NoSl t) ∧ ownAs ts' vs = ownAs ts vs ∧ RpTs K Bk Hs' H σ ts' vs
  | [], ts', vs, e, e', Hs, f, h, s, q => by cases q; exact ⟨Hs, .refl, f, fun _ z => (nomatch z), rfl, h⟩
  | t :: ts, ts', vs, e, e', Hs, f, h, s, q => by
    obtain ⟨v, r, rfl, h1, h2⟩ := h
    unfold takeAll at q
    split at q
    · cases q
    · rename_i t1 e1 q1
      split at q
      · cases q
      · rename_i ts1 e2 q2
        cases q
        have s1 : ∀ a ∈ ownA t v, a ∈ l := fun a m => s a (List.mem_append_left _ m)
        have s2 : ∀ a ∈ ownAs ts r, a ∈ l := fun a m => s a (List.mem_append_right _ m)
        obtain ⟨Hs1, g1, f1, ⟨n1, o1⟩, r1⟩ := take_ok f h1 q1
        obtain ⟨Hs2, g2, f2, n2, o2, r2⟩ := takeAll_ok f1 (h2.grow g1 s2) s2 q2
        refine ⟨Hs2, g1.trans g2, f2, fun t m => ?_, ?_, v, r, rfl, (r1 s1).grow (by rw [o1]; exact s1) g2, r2⟩
        · rcases List.mem_cons.mp m with rfl | m
          · exact n1
          · exact n2 t m
        · show ownA t1 v ++ ownAs ts1 r = ownA t v ++ ownAs ts r
          rw [o1, o2]
theorem put_ok {f : Fl} (q : put i d f e = some e') : e' = e.set i (some (d, f)) ∧ i < e.length ∧ ∀ d' f', e[i]? = some (some (d', f')) → f'.pin = false := by
  unfold put at q
  split at q
  · cases q
  · rename_i z
    cases q
    refine ⟨rfl, ?_, fun d' f' z' => by rw [z] at z'; cases z'⟩
    exact (List.getElem?_eq_some_iff.mp z).1
  · rename_i dd fl z
    split at q
    · cases q
    · rename_i hp
      cases q
      refine ⟨rfl, (List.getElem?_eq_some_iff.mp z).1, fun d' f' z' => ?_⟩
      rw [z] at z'
      cases z'
      simpa using hp
theorem st_set {σ : St} {i j : Nat} {x : V} (h : i < σ.length) : (σ.set i (some x))[j]? = if j = i then some (some x) else σ[j]? := by
  by_cases q : j = i
  · subst q; rw [if_pos rfl, List.getElem?_set_self h]
  · rw [if_neg q, List.getElem?_set_ne (Ne.symm q)]
theorem Frm.put_im (f : Frm K vs0 Bk Hs H σ e) (q : put i d .sh e = some e') (r : Rp K Hs d v) : Frm K vs0 Bk Hs H (σ.set i (some v)) e' := by
  obtain ⟨rfl, hl, hp⟩ := put_ok q
  have hs : i < σ.length := Nat.lt_of_lt_of_le hl f.len
  refine ⟨by simpa using f.len, f.sb, f.bb, fun j d' f' h o => ?_, fun j d' f' h o => ?_, fun j k d1 f1 d2 f2 p' a1 o1 a2 o2 s1 s2 => ?_, fun j d' f' h o => ?_⟩
  · rw [st_set hs]
    rcases get_set h with ⟨rfl, z⟩ | ⟨ne, z⟩
    · cases z; rw [if_pos rfl]; exact ⟨v, rfl, r⟩
    · rw [if_neg ne]; exact f.sh j d' f' z o
  · rw [st_set hs]
    rcases get_set h with ⟨rfl, z⟩ | ⟨ne, z⟩
    · cases z; cases o
    · rw [if_neg ne]; exact f.ow j d' f' z o
  · rw [st_set hs] at s1 s2
    rcases get_set a1 with ⟨rfl, z⟩ | ⟨ne1, z1⟩
    · cases z; cases o1
    · rcases get_set a2 with ⟨rfl, z⟩ | ⟨ne2, z2⟩
      · cases z; cases o2
      · rw [if_neg ne1] at s1
        rw [if_neg ne2] at s2
        exact f.dj j k d1 f1 d2 f2 p' z1 o1 z2 o2 s1 s2
  · rw [st_set hs]
    rcases get_set h with ⟨rfl, z⟩ | ⟨ne, z⟩
    · cases z; cases o
    · rw [if_neg ne]; exact f.pn j d' f' z o
theorem Frm.put_ow (f : Frm K vs0 Bk' Hs H σ e) (q : put i d .mv e = some e') (r : OwnAt K Hs H d p) (n : Hs p = none) (nb : Bk p = none) (s : Same Bk Bk') (k : ∃ o, Bk' p = some o) : Frm K vs0 Bk Hs H (σ.set i (some (.ref p))) e' := by
  obtain ⟨rfl, hl, hp⟩ := put_ok q
  have hs : i < σ.length := Nat.lt_of_lt_of_le hl f.len
  have nop : ∀ (j : Nat) (d' : D) (f' : Fl), e[j]? = some (some (d', f')) → f'.own = true → σ[j]? = some (some (V.ref p)) → False := fun j d' f' h o z => by
    obtain ⟨p', k1, k2, k3, k4⟩ := f.ow j d' f' h o
    rw [k1] at z
    cases z
    obtain ⟨ob, hob⟩ := k
    rw [hob] at k4
    cases k4
  have f := f.weak s
  refine ⟨by simpa using f.len, f.sb, f.bb, fun j d' f' h o => ?_, fun j d' f' h o => ?_, fun j k d1 f1 d2 f2 p' a1 o1 a2 o2 s1 s2 => ?_, fun j d' f' h o => ?_⟩
  · rw [st_set hs]
    rcases get_set h with ⟨rfl, z⟩ | ⟨ne, z⟩
    · cases z; cases o
    · rw [if_neg ne]; exact f.sh j d' f' z o
  · rw [st_set hs]
    rcases get_set h with ⟨rfl, z⟩ | ⟨ne, z⟩
    · cases z; rw [if_pos rfl]; exact ⟨p, rfl, r, n, nb⟩
    · rw [if_neg ne]; exact f.ow j d' f' z o
  · rw [st_set hs] at s1 s2
    rcases get_set a1 with ⟨rfl, z⟩ | ⟨ne1, z1⟩
    · rcases get_set a2 with ⟨rfl, z⟩ | ⟨ne2, z2⟩
      · rfl
      · rw [if_pos rfl] at s1
        rw [if_neg ne2] at s2
        cases s1
        exact (nop k d2 f2 z2 o2 s2).elim
    · rcases get_set a2 with ⟨rfl, z⟩ | ⟨ne2, z2⟩
      · rw [if_pos rfl] at s2
        rw [if_neg ne1] at s1
        cases s2
        exact (nop j d1 f1 z1 o1 s1).elim
      · rw [if_neg ne1] at s1
        rw [if_neg ne2] at s2
        exact f.dj j k d1 f1 d2 f2 p' z1 o1 z2 o2 s1 s2
  · rw [st_set hs]
    rcases get_set h with ⟨rfl, z⟩ | ⟨ne, z⟩
    · cases z; cases o
    · rw [if_neg ne]; exact f.pn j d' f' z o
theorem store_ok1 {l : List Addr} (f : Frm K vs0 (ext Bk H (ownA t v ++ l)) Hs H σ e) (h : RpT K Bk Hs H σ t v) (nd : ∀ a ∈ ownA t v, a ∉ l) (q : storeT i t e = some e') : Frm K vs0 (ext Bk H l) Hs H (σ.set i (some v)) e' := by
  cases t with
  | im d => exact f.put_im q h
  | sl j => cases q
  | ow d =>
    obtain ⟨p, rfl, h1, h2, h3⟩ := h
    have m : p ∉ l := nd p (List.mem_singleton.mpr rfl)
    refine f.put_ow q h1 h2 (by rw [ext_not m]; exact h3) (fun a o z => ?_) ?_
    · by_cases ml : a ∈ l
      · rw [ext_mem ml] at z
        rw [ext_mem (List.mem_append_right _ ml)]
        exact z
      · rw [ext_not ml] at z
        rw [ext_not (fun mm => by
          rcases List.mem_append.mp mm with mm | mm
          · cases List.mem_singleton.mp mm; rw [h3] at z; cases z
          · exact ml mm)]
        exact z
    · obtain ⟨o, ho⟩ := h1.some
      exact ⟨o, (ext_mem (List.mem_append_left l (show p ∈ ownA (.ow d) (.ref p) from List.mem_singleton.mpr rfl))).trans ho⟩
end
inductive RS where
  | nx (e : En) | rt (t : Tm) (e : En) | bk (e : En) | ct (e : En) | ex (x : XD) (e : En) | no
abbrev SemS := En → RS
section
variable (K : PySem.W.Frag) (mg : Str → Option Value) (W : WX)
def PostS (vs0 : List V) (Bk Hs : Hp) (Dn : Ends) : RS → Prop
  | .no => False
  | .nx e' => ∀ σ' Hs' H', Grow Bk Hs Hs' → Frm K vs0 Bk Hs' H' σ' e' → Dn.nx σ' H'
  | .bk e' => ∀ σ' Hs' H', Grow Bk Hs Hs' → Frm K vs0 Bk Hs' H' σ' e' → Dn.bk σ' H'
  | .ct e' => ∀ σ' Hs' H', Grow Bk Hs Hs' → Frm K vs0 Bk Hs' H' σ' e' → Dn.ct σ' H'
  | .rt t e' => NoSl t ∧ ∀ v σ' Hs' H', Grow Bk Hs Hs' → Tmp K vs0 Bk Hs' H' σ' e' t v → Dn.rt v H'
  | .ex x e' => ∀ c dx σ' Hs' H', Grow Bk Hs Hs' → Frm K vs0 Bk Hs' H' σ' e' → RpX K mg Hs' H' x c dx → W c dx σ' H'
def TSt (f : SemS) : TS := fun Dn σ H => ∃ vs0 Bk Hs e, Frm K vs0 Bk Hs H σ e ∧ PostS K mg W vs0 Bk Hs Dn (f e)
end
theorem PostS.grow {K : PySem.W.Frag} {mg : Str → Option Value} {W : WX} {vs0 : List V} {Bk Hs Hs' : Hp} {Dn : Ends} {r : RS} (h : PostS K mg W vs0 Bk Hs Dn r) (g : Grow Bk Hs Hs') : PostS K mg W vs0 Bk Hs' Dn r := by
  cases r with
  | no => exact h
  | nx e' => exact fun σ1 Hs1 H1 g1 => h σ1 Hs1 H1 (g.trans g1)
  | bk e' => exact fun σ1 Hs1 H1 g1 => h σ1 Hs1 H1 (g.trans g1)
  | ct e' => exact fun σ1 Hs1 H1 g1 => h σ1 Hs1 H1 (g.trans g1)
  | rt t e' => exact ⟨h.1, fun v σ1 Hs1 H1 g1 => h.2 v σ1 Hs1 H1 (g.trans g1)⟩
  | ex x e' => exact fun c dx σ1 Hs1 H1 g1 => h c dx σ1 Hs1 H1 (g.trans g1)
abbrev JS (X : Cx) (W : WX) (s : Stmt) (f : SemS) : Prop := PS X s (TSt X.K X.mg W f)
abbrev JSs (X : Cx) (W : WX) (s : List Stmt) (f : SemS) : Prop := PSs X s (TSt X.K X.mg W f)
def sSkip : SemS := fun e => .nx e
def sSeq (f g : SemS) : SemS := fun e => match f e with
  | .nx e1 => g e1
  | r => r
def sSet (i : Nat) (f : Sem) : SemS := fun e => match f e with
  | .no => .no
  | .ex x e1 => .ex x e1
  | .ok t e1 => match takeT t e1 with
    | none => .no
    | some (t', e2) => match storeT i t' e2 with
      | none => .no
      | some e3 => .nx e3
def sExpr (f : Sem) : SemS := fun e => match f e with
  | .no => .no
  | .ex x e1 => .ex x e1
  | .ok _ e1 => .nx e1
def retT : Tm → En → Option (Tm × En)
  | .sl i, e => match e[i]? with
    | some (some (d, .mv)) => some (.ow d, e.set i none)
    | some (some (d, f)) => some (.im d, e.set i (some (d, f.leak)))
    | _ => none
  | t, e => some (t, e)
def sRet (f : Sem) : SemS := fun e => match f e with
  | .no => .no
  | .ex x e1 => .ex x e1
  | .ok t e1 => match retT t e1 with
    | none => .no
    | some (t', e2) => .rt t' e2
def sRetN : SemS := fun e => .rt (.im .non) e
def sIf (c : SemB) (f g : SemS) : SemS := fun e => match c e with
  | .no => .no
  | .ex x e1 => .ex x e1
  | .ok b e1 => if b then f e1 else g e1
def sCont : SemS := fun e => .ct e
def sBreak : SemS := fun e => .bk e
section
variable {X : Cx} {W : WX} {st : Stmt} {rest : List Stmt} {f g : SemS} {fe : Sem} {ex : Expr} {pos : Pos}
theorem js_nil : JSs X W [] sSkip := PSs_imp pss_nil fun D σ H ⟨vs0, Bk, Hs, e, fr, h⟩ => h σ Hs H .refl fr
theorem js_cons (h1 : JS X W st f) (h2 : JSs X W rest g) : JSs X W (st :: rest) (sSeq f g) := PSs_imp (pss_cons h1 h2) fun D σ H ⟨vs0, Bk, Hs, e, fr, h⟩ => by
  refine ⟨vs0, Bk, Hs, e, fr, ?_⟩
  unfold sSeq at h
  cases q : f e with
  | no => rw [q] at h; exact h
  | nx e1 => rw [q] at h; exact fun σ1 Hs1 H1 g1 f1 => ⟨vs0, Bk, Hs1, e1, f1, h.grow g1⟩
  | bk e1 => rw [q] at h; exact h
  | ct e1 => rw [q] at h; exact h
  | rt t e1 => rw [q] at h; exact h
  | ex x e1 => rw [q] at h; exact h
theorem js_one (h1 : JS X W st f) : JSs X W [st] f := pss_one h1
theorem js_pass : JS X W (.Pass pos) sSkip := PS_imp ps_pass fun D σ H ⟨vs0, Bk, Hs, e, fr, h⟩ => h σ Hs H .refl fr
theorem js_cont : JS X W (.Continue pos) sCont := PS_imp ps_continue fun D σ H ⟨vs0, Bk, Hs, e, fr, h⟩ => h σ Hs H .refl fr
theorem js_break : JS X W (.Break pos) sBreak := PS_imp ps_break fun D σ H ⟨vs0, Bk, Hs, e, fr, h⟩ => h σ Hs H .refl fr
theorem js_expr (he : JE X W ex fe) (hs : swapsWith ex none pos.line X.env = pure false := by rfl) : JS X W (.Expr ex pos) (sExpr fe) := PS_imp (ps_expr he hs) fun D σ H ⟨vs0, Bk, Hs, e, fr, h⟩ => by
  refine ⟨vs0, Bk, Hs, e, fr, ?_⟩
  unfold sExpr at h
  cases q : fe e with
  | no => rw [q] at h; exact h
  | ex x e1 => rw [q] at h; exact fun c dx Hs1 H1 g1 f1 r => h c dx σ Hs1 H1 g1 f1 r
  | ok t e1 => rw [q] at h; exact fun v Hs1 H1 g1 t1 => h σ Hs1 H1 g1 t1.frm
theorem js_set {i : Nat} {x : Str} {pos' : Pos} (hN : X.N.Nodup) (hi : X.N[i]? = some x) (hx : Loc X.env.scope x) (he : JE X W ex fe) (hs : swapsWith ex (some (.Name x pos')) pos.line X.env = pure false := by rfl) (hf : X.fn x = true ∨ X.env.scope.names.lookup x = some .local := by first | exact .inl rfl | exact .inr rfl | assumption) :
    JS X W (.Assign [.Name x pos'] ex pos) (sSet i fe) := PS_imp (ps_set hN hi hx he hs hf) fun D σ H ⟨vs0, Bk, Hs, e, fr, h⟩ => by
  refine ⟨vs0, Bk, Hs, e, fr, ?_⟩
  unfold sSet at h
  cases q : fe e with
  | no => rw [q] at h; exact h
  | ex x e1 => rw [q] at h; exact fun c dx Hs1 H1 g1 f1 r => h c dx σ Hs1 H1 g1 f1 r
  | ok t e1 =>
    rw [q] at h
    intro v Hs1 H1 g1 t1
    dsimp only at h
    split at h
    · exact h.elim
    · rename_i t' e2 q2
      split at h
      · exact h.elim
      · rename_i e3 q3
        obtain ⟨Hs2, g2, f2, ⟨n2, o2⟩, r2⟩ := take_ok t1.1 t1.2 q2
        have r2 := r2 fun _ m => m
        have f3 : Frm X.K vs0 (ext Bk H1 (ownA t' v ++ [])) Hs2 H1 σ e2 := by rw [List.append_nil, o2]; exact f2
        have f4 := store_ok1 f3 r2 (fun _ _ z => nomatch z) q3
        rw [ext_nil] at f4
        exact h _ Hs2 H1 (g1.trans (g2.weak (ext_same fun a m => (t1.2.own a m).1))) f4
theorem js_ret (he : JE X W ex fe) : JS X W (.Return (some ex) pos) (sRet fe) := PS_imp (ps_ret he) fun D σ H ⟨vs0, Bk, Hs, e, fr, h⟩ => by
  refine ⟨vs0, Bk, Hs, e, fr, ?_⟩
  unfold sRet at h
  cases q : fe e with
  | no => rw [q] at h; exact h
  | ex x e1 => rw [q] at h; exact fun c dx Hs1 H1 g1 f1 r => h c dx σ Hs1 H1 g1 f1 r
  | ok t e1 =>
    rw [q] at h
    intro v Hs1 H1 g1 t1
    dsimp only at h
    split at h
    · exact h.elim
    · rename_i t' e2 q2
      obtain ⟨hn, h⟩ := h
      cases t with
      | im d => cases q2; exact h v σ Hs1 H1 g1 t1
      | ow d => cases q2; exact h v σ Hs1 H1 g1 t1
      | sl i =>
        have q2 : (match e1[i]? with
          | some (some (d, .mv)) => some (Tm.ow d, e1.set i none)
          | some (some (d, f)) => some (.im d, e1.set i (some (d, f.leak)))
          | _ => none) = some (t', e2) := q2
        have hv : σ[i]? = some (some v) := t1.2
        have f1 := t1.frm
        split at q2
        · rename_i d z
          cases q2
          obtain ⟨p, k1, k2, k3, k4⟩ := f1.ow i d .mv z rfl
          rw [k1] at hv
          cases hv
          refine h (.ref p) σ Hs1 H1 g1 ⟨⟨by simpa using f1.len, f1.sb, fun a o q => ?_, fun j d' f' hh ho => ?_, fun j d' f' hh ho => ?_, fun j k d1 f1' d2 f2 p' a1 o1 a2 o2 s1 s2 => ?_, fun j d' f' hh ho => ?_⟩, p, rfl, k2, k3, k4⟩
          · by_cases m : a ∈ ownA (.ow d) (.ref p)
            · rw [ext_mem m] at q; exact q
            · rw [ext_not m] at q; exact f1.bb a o q
          · rcases get_set hh with ⟨_, z'⟩ | ⟨_, z'⟩
            · cases z'
            · exact f1.sh j d' f' z' ho
          · rcases get_set hh with ⟨_, z'⟩ | ⟨ne, z'⟩
            · cases z'
            · obtain ⟨p', w1, w2, w3, w4⟩ := f1.ow j d' f' z' ho
              refine ⟨p', w1, w2, w3, ?_⟩
              rw [ext_not ?_]
              · exact w4
              · intro m
                have m : p' = p := List.mem_singleton.mp m
                subst m
                exact ne (f1.dj j i d' f' d .mv p' z' ho z rfl w1 k1)
          · rcases get_set a1 with ⟨_, z1⟩ | ⟨_, z1⟩
            · cases z1
            · rcases get_set a2 with ⟨_, z2⟩ | ⟨_, z2⟩
              · cases z2
              · exact f1.dj j k d1 f1' d2 f2 p' z1 o1 z2 o2 s1 s2
          · rcases get_set hh with ⟨_, z'⟩ | ⟨_, z'⟩
            · cases z'
            · exact f1.pn j d' f' z' ho
        · rename_i d fl nz z
          cases q2
          obtain ⟨Hs2, w, g2, f2, k1, k2⟩ := f1.leak z
          rw [k1] at hv
          cases hv
          refine h v σ Hs2 H1 (g1.trans g2) ⟨?_, k2⟩
          rw [show ownA (.im d) v = [] from rfl, ext_nil]
          exact f2
        · cases q2
theorem js_retN : JS X W (.Return none pos) sRetN := PS_imp ps_retN fun D σ H ⟨vs0, Bk, Hs, e, fr, h⟩ => by
  refine h.2 .non σ Hs H .refl ⟨?_, rfl⟩
  rw [show ownA (.im .non) .non = [] from rfl, ext_nil]
  exact fr
theorem js_if {c : Expr} {fc : SemB} {a b : List Stmt} (hc : JB X W c fc) (ha : JSs X W a f) (hb : JSs X W b g) : JS X W (.If c a b pos) (sIf fc f g) := PS_imp (ps_if hc ha hb) fun D σ H ⟨vs0, Bk, Hs, e, fr, h⟩ => by
  refine ⟨vs0, Bk, Hs, e, fr, ?_⟩
  unfold sIf at h
  cases q : fc e with
  | no => rw [q] at h; exact h
  | ex x e1 => rw [q] at h; exact fun c dx Hs1 H1 g1 f1 r => h c dx σ Hs1 H1 g1 f1 r
  | ok t e1 =>
    rw [q] at h
    intro Hs1 H1 g1 f1
    cases t with
    | true => exact ⟨vs0, Bk, Hs1, e1, f1, h.grow g1⟩
    | false => exact ⟨vs0, Bk, Hs1, e1, f1, h.grow g1⟩
end
end L2.Py
set_option maxRecDepth 100000
namespace L2.Py
open PySem PySem.Spec PyProof.Rows
abbrev line : Nat := 16777216
def dOf : Tm → D
  | .im d => d
  | .ow d => d
  | .sl _ => .non
section
variable {K : PySem.W.Frag} {mg : Str → Option Value} {W : WX} {Hs Hs' H H' Bk Bk' : Hp} {d : D} {p : Addr} {vs0 : List V} {σ : St} {e e' : En} {i : Nat} {t t' : Tm} {v : V}
theorem rps_of {l : List Addr} (sm : Same Hs (ext Hs H l)) : ∀ {ts : List Tm} {vs : List V}, RpTs K Bk Hs H σ ts vs → (∀ t ∈ ts, NoSl t) → (∀ a ∈ ownAs ts vs, a ∈ l) → Rps K (ext Hs H l) (ts.map dOf) vs
  | [], vs, h, n, s => h
  | t :: ts, vs, h, n, s => by
    obtain ⟨v, r, rfl, h1, h2⟩ := h
    refine ⟨v, r, rfl, ?_, rps_of sm h2 (fun t m => n t (List.mem_cons_of_mem _ m)) fun a m => s a (List.mem_append_right _ m)⟩
    cases t with
    | im d => exact Rp.mono sm _ _ h1
    | sl i => exact (n _ List.mem_cons_self).elim
    | ow d =>
      obtain ⟨p, rfl, k1, k2, k3⟩ := h1
      have m : p ∈ l := s p (List.mem_append_left _ (List.mem_singleton.mpr rfl))
      cases d <;> first | exact k1.elim | skip
      · obtain ⟨xs, z1, z2⟩ := k1
        exact ⟨p, xs, rfl, (ext_mem m).trans z1, Rps.mono sm _ _ z2⟩
      · obtain ⟨xs, z1, z2⟩ := k1
        exact ⟨p, xs, rfl, .inl ((ext_mem m).trans z1), Rpk.mono sm _ _ z2⟩
theorem Frm.share {l : List Addr} (f : Frm K vs0 (ext Bk H l) Hs H σ e) (h : ∀ a ∈ l, Bk a = none ∧ Hs a = none ∧ ∃ o, H a = some o) : Grow Bk Hs (ext Hs H l) ∧ Frm K vs0 Bk (ext Hs H l) H σ e := by
  have sm : Same Hs (ext Hs H l) := ext_same fun a m => (h a m).2.1
  refine ⟨⟨sm, fun a z n => ?_⟩, f.len, fun a o q => ?_, (ext_same fun a m => (h a m).1).trans f.bb, fun i d fl q o => ?_, fun i d fl q o => ?_, f.dj, f.pn⟩
  · by_cases m : a ∈ l
    · exact (h a m).1
    · rw [ext_not m] at n; exact absurd z n
  · by_cases m : a ∈ l
    · rw [ext_mem m] at q; exact q
    · rw [ext_not m] at q; exact f.sb a o q
  · obtain ⟨w, h1, h2⟩ := f.sh i d fl q o
    exact ⟨w, h1, Rp.mono sm _ _ h2⟩
  · obtain ⟨p, h1, h2, h3, h4⟩ := f.ow i d fl q o
    have m : p ∉ l := fun m => by
      rw [ext_mem m] at h4
      obtain ⟨o, ho⟩ := h2.some
      rw [ho] at h4
      cases h4
    rw [ext_not m] at h4
    exact ⟨p, h1, h2.mono sm rfl, by rw [ext_not m]; exact h3, h4⟩
theorem shared_all {ts ts' : List Tm} {vs : List V} (t : Tmps K vs0 Bk Hs H σ e ts vs) (q : takeAll ts e = some (ts', e')) :
    ∃ Hs', Grow Bk Hs Hs' ∧ Frm K vs0 Bk Hs' H σ e' ∧ Rps K Hs' (ts'.map dOf) vs := by
  obtain ⟨Hs1, g1, f1, n1, o1, r1⟩ := takeAll_ok t.f t.r (fun _ m => m) q
  have hw : ∀ a ∈ ownAs ts vs, Bk a = none ∧ Hs1 a = none ∧ ∃ o, H a = some o := by rw [← o1]; exact r1.own
  obtain ⟨g2, f2⟩ := f1.share hw
  have es : Same Bk (ext Bk H (ownAs ts vs)) := ext_same fun a m => (hw a m).1
  exact ⟨_, (g1.weak es).trans g2, f2, rps_of (ext_same fun a m => (hw a m).2.1) r1 n1 fun a m => by rw [← o1]; exact m⟩
theorem new_tup {xs : List V} {ds : List D} (sb : Same Hs H) (r : Rps K Hs ds xs) (n : H p = none) : NewOut K Hs H (.im (.tup ds)) (.ref p) (upd Hs p (.tup xs)) (upd H p (.tup xs)) := by
  have hn : Hs p = none := Same.none sb n
  refine ⟨same_upd n, same_upd hn, fun a o q => ?_, fun a z q => ?_, p, xs, rfl, .inl (.inl upd_same), Rps.mono (same_upd hn) _ _ r⟩
  · by_cases z : a = p
    · subst z; rw [upd_same] at q ⊢; exact q
    · rw [upd_ne z] at q ⊢; exact sb a o q
  · by_cases w : a = p
    · subst w; exact n
    · rw [upd_ne w] at q; exact absurd z q
theorem new_lst {xs : List V} {ds : List D} (sb : Same Hs H) (r : Rps K Hs ds xs) (n : H p = none) : NewOut K Hs H (.ow (.lst ds)) (.ref p) Hs (upd H p (.lst xs)) :=
  ⟨same_upd n, .refl _, sb.trans (same_upd n), fun a z q => absurd z q, p, rfl, n, Same.none sb n, xs, upd_same, r⟩
theorem new_dct {xs : List (Key × V)} {ds : List (Key × D)} (sb : Same Hs H) (r : Rpk K Hs ds xs) (n : H p = none) : NewOut K Hs H (.ow (.dct ds)) (.ref p) Hs (upd H p (.dK xs)) :=
  ⟨same_upd n, .refl _, sb.trans (same_upd n), fun a z q => absurd z q, p, rfl, n, Same.none sb n, xs, upd_same, r⟩
theorem new_imm (sb : Same Hs H) (r : Rp K Hs d v) : NewOut K Hs H (.im d) v Hs H := ⟨.refl _, .refl _, sb, fun a z q => absurd z q, r⟩
theorem tmp_of (f : Frm K vs0 Bk Hs H σ e) (n : NewOut K Hs H t v Hs' H') : Tmp K vs0 Bk Hs' H' σ e t v ∧ Grow Bk Hs Hs' := n.tmp f (.refl _)
theorem tmp_im (f : Frm K vs0 Bk Hs H σ e) (r : Rp K Hs d v) : Tmp K vs0 Bk Hs H σ e (.im d) v := ⟨by rw [show ownA (.im d) v = [] from rfl, ext_nil]; exact f, r⟩
end
def sTup (fl : SemL) : Sem := fun e => match fl e with
  | .no => .no
  | .ex x e1 => .ex x e1
  | .ok ts e1 => match takeAll ts e1 with
    | none => .no
    | some (ts', e2) => if ts'.length ≤ line then .ok (.im (.tup (ts'.map dOf))) e2 else .no
def sLst (fl : SemL) : Sem := fun e => match fl e with
  | .no => .no
  | .ex x e1 => .ex x e1
  | .ok ts e1 => match takeAll ts e1 with
    | none => .no
    | some (ts', e2) => if ts'.length ≤ line then .ok (.ow (.lst (ts'.map dOf))) e2 else .no
theorem rps_len {K : PySem.W.Frag} {H : Hp} : ∀ {ds : List D} {vs : List V}, Rps K H ds vs → ds.length = vs.length
  | [], vs, h => by have h : vs = [] := h; subst h; rfl
  | d :: ds, vs, h => by
    obtain ⟨v, r, rfl, _, h2⟩ := h
    simp [rps_len h2]
theorem line_eq : line = sizeLine := by rw [sizeLine_eq]
def sK (d : D) : Sem := fun e => .ok (.im d) e
def sV (i : Nat) : Sem := fun e => match e[i]? with
  | some (some _) => .ok (.sl i) e
  | _ => .no
def sIte (c : SemB) (fa fb : Sem) : Sem := fun e => match c e with
  | .no => .no
  | .ex x e1 => .ex x e1
  | .ok b e1 => if b then fa e1 else fb e1
def truD : D → Option Bool
  | .non => some false
  | .bl b => some b
  | .int i => some (i != 0)
  | .str y => if y.length ≤ line then some ((y.length : Int) != 0) else none
  | .lst ds => some !ds.isEmpty
  | .tup ds => some !ds.isEmpty
  | .dct _ => none
  | .ty _ => none
  | .hid => none
  | .scr ds => some !ds.isEmpty
def sTru (f : Sem) : SemB := fun e => match f e with
  | .no => .no
  | .ex x e1 => .ex x e1
  | .ok t e1 => match t.get e1 with
    | none => .no
    | some d => match truD d with
      | none => .no
      | some b => .ok b e1
def sAndB (c1 c2 : SemB) : SemB := fun e => match c1 e with
  | .ok true e1 => c2 e1
  | r => r
def sOrB (c1 c2 : SemB) : SemB := fun e => match c1 e with
  | .ok false e1 => c2 e1
  | r => r
def sNotB (c : SemB) : SemB := fun e => match c e with
  | .no => .no
  | .ex x e1 => .ex x e1
  | .ok b e1 => .ok (!b) e1
def sOrV (f g : Sem) : Sem := fun e => match f e with
  | .no => .no
  | .ex x e1 => .ex x e1
  | .ok t e1 => match t.get e1 with
    | none => .no
    | some d => match truD d with
      | none => .no
      | some b => if b then .ok t e1 else g e1
def sAndV (f g : Sem) : Sem := fun e => match f e with
  | .no => .no
  | .ex x e1 => .ex x e1
  | .ok t e1 => match t.get e1 with
    | none => .no
    | some d => match truD d with
      | none => .no
      | some b => if b then g e1 else .ok t e1
def sAlt (f g : Sem) : Sem := fun e => match f e with
  | .no => g e
  | r => r
section
variable {X : Cx} {W : WX} {a b c : Expr} {es rest : List Expr} {fa fb : Sem} {fc fc' : SemB} {fl : SemL} {pos : Pos}
variable {K : PySem.W.Frag} {Hs H : Hp} {d : D} {v : V}
theorem tru_str {y : Str} {k : Bool} (q : truD (.str y) = some k) : y.length ≤ line ∧ k = ((y.length : Int) != 0) := by
  have q : (if y.length ≤ line then some ((y.length : Int) != 0) else none) = some k := q
  split at q
  · rename_i h; cases q; exact ⟨h, rfl⟩
  · cases q
theorem rd1_tru (sb : Same Hs H) (r : Rd1 K Hs H d v) {k : Bool} (q : truD d = some k) : TruV K v H k := by
  have emp : ∀ {ds : List D} {xs : List V}, Rps K Hs ds xs → (!ds.isEmpty) = !xs.isEmpty := fun {ds xs} h => by
    have := rps_len h
    cases ds <;> cases xs <;> first | rfl | (simp at this)
  have empk : ∀ {ds : List (Key × D)} {xs : List (Key × V)}, Rpk K Hs ds xs → (!ds.isEmpty) = !xs.isEmpty := fun {ds xs} h => by
    cases ds with
    | nil => have h : xs = [] := h; subst h; rfl
    | cons x r => obtain ⟨_, _, rfl, _⟩ := h; rfl
  rcases r with r | ⟨p, rfl, r⟩
  · cases d with
    | non => have r : v = .non := r; subst r; cases q; rfl
    | bl b => have r : v = .bl b := r; subst r; cases q; rfl
    | int b => have r : v = .int b := r; subst r; cases q; rfl
    | str b => have r : v = .str b := r; subst r; obtain ⟨q1, q2⟩ := tru_str q; exact ⟨by rw [← line_eq]; exact q1, q2⟩
    | ty n => cases q
    | hid => cases q
    | lst ds => obtain ⟨p, xs, rfl, h1, h2⟩ := r; cases q; exact .inl ⟨xs, .inl (.inl (sb _ _ h1)), emp h2⟩
    | scr ds => obtain ⟨p, xs, rfl, h1, h2⟩ := r; cases q; exact .inl ⟨xs, Same.seq sb h1, emp h2⟩
    | tup ds => obtain ⟨p, xs, rfl, h1, h2⟩ := r; cases q; exact .inr (.inl ⟨xs, Same.sqt sb h1, emp h2⟩)
    | dct ds => cases q
  · cases d <;> first | exact r.elim | skip
    · obtain ⟨xs, h1, h2⟩ := r; cases q; exact .inl ⟨xs, .inl (.inl h1), emp h2⟩
    · cases q
theorem je_k_int {i : Int} {j : Nat} : JE X W (.Constant (.int i) j pos) (sK (.int i)) := PE_imp pe_int fun σ H Q ⟨vs0, Bk, Hs, e, f, h⟩ => h (.int i) Hs H .refl (tmp_im f rfl)
theorem je_k_bl {i : Bool} {j : Nat} : JE X W (.Constant (.bool i) j pos) (sK (.bl i)) := PE_imp pe_bl fun σ H Q ⟨vs0, Bk, Hs, e, f, h⟩ => h (.bl i) Hs H .refl (tmp_im f rfl)
theorem je_k_non {j : Nat} : JE X W (.Constant .none j pos) (sK .non) := PE_imp pe_non fun σ H Q ⟨vs0, Bk, Hs, e, f, h⟩ => h .non Hs H .refl (tmp_im f rfl)
theorem je_k_str {x : Str} {j : Nat} : JE X W (.Constant (.str x) j pos) (sK (.str x)) := PE_imp pe_str fun σ H Q ⟨vs0, Bk, Hs, e, f, h⟩ => h (.str x) Hs H .refl (tmp_im f rfl)
theorem je_glob {x : Str} {d : D} {v : V} {u : Value} (hg : Gl X x) (hm : X.mg x = some u) (r : RelV v u) (rd : ∀ Hs, Rp X.K Hs d v) (hd : (x == ("__debug__" : Str)) = false := by decide) : JE X W (.Name x pos) (sK d) :=
  PE_imp (pe_glob hg hm r hd) fun σ H Q ⟨vs0, Bk, Hs, e, f, h⟩ => h v Hs H .refl (tmp_im f (rd Hs))
theorem je_var {i : Nat} {x : Str} (hN : X.N[i]? = some x) (hv : Vis X.env.scope x) (hd : (x == ("__debug__" : Str)) = false := by decide) (hcd : (x == ("__classdict__" : Str)) = false := by decide) : JE X W (.Name x pos) (sV i) :=
  PE_imp (pe_var hN hv hd hcd) fun σ H Q ⟨vs0, Bk, Hs, e, f, h⟩ => by
    unfold sV at h
    split at h
    · rename_i d q
      obtain ⟨d, fl⟩ := d
      have hs : ∃ v, σ[i]? = some (some v) := by
        cases o : fl.own with
        | false => obtain ⟨v, h1, _⟩ := f.sh i d fl q o; exact ⟨v, h1⟩
        | true => obtain ⟨p, h1, _⟩ := f.ow i d fl q o; exact ⟨_, h1⟩
      obtain ⟨v, hv⟩ := hs
      refine ⟨v, hv, h v Hs H .refl ⟨?_, hv⟩⟩
      rw [show ownA (.sl i) v = [] from rfl, ext_nil]
      exact f
    · exact h.elim
theorem je_ite (hc : JB X W c fc) (ha : JE X W a fa) (hb : JE X W b fb) : JE X W (.IfExp c a b pos) (sIte fc fa fb) := PE_imp (pe_ifExp hc ha hb) fun σ H Q ⟨vs0, Bk, Hs, e, f, h⟩ => by
  refine ⟨vs0, Bk, Hs, e, f, ?_⟩
  unfold sIte at h
  cases q : fc e with
  | no => rw [q] at h; exact h
  | ex x e1 => rw [q] at h; exact h
  | ok t e1 =>
    rw [q] at h
    intro Hs1 H1 g1 f1
    cases t with
    | true => exact ⟨vs0, Bk, Hs1, e1, f1, h.grow g1⟩
    | false => exact ⟨vs0, Bk, Hs1, e1, f1, h.grow g1⟩
theorem PE_or {X : Cx} {e : Expr} {t t' : TE} (h : PE X e t) (h' : PE X e t') : PE X e (fun σ H Q => t σ H Q ∨ t' σ H Q) := ⟨fun pins s σ H Q I q => q.elim (h.run pins s σ H Q I) (h'.run pins s σ H Q I)⟩
theorem je_alt (ha : JE X W a fa) (hb : JE X W a fb) : JE X W a (sAlt fa fb) := PE_imp (PE_or ha hb) fun σ H Q ⟨vs0, Bk, Hs, e, f, h⟩ => by
  unfold sAlt at h
  cases q : fa e with
  | no => rw [q] at h; exact .inr ⟨vs0, Bk, Hs, e, f, h⟩
  | ex x e1 => rw [q] at h; exact .inl ⟨vs0, Bk, Hs, e, f, by rw [q]; exact h⟩
  | ok t e1 => rw [q] at h; exact .inl ⟨vs0, Bk, Hs, e, f, by rw [q]; exact h⟩
theorem je_tup {x1 : Nat} (h : JA X W es fl) : JE X W (.Tuple es x1 pos) (sTup fl) := PE_imp (pe_tup h) fun σ H Q ⟨vs0, Bk, Hs, e, f, h⟩ => by
  refine ⟨vs0, Bk, Hs, e, f, ?_⟩
  unfold sTup at h
  cases q : fl e with
  | no => rw [q] at h; exact h
  | ex x e1 => rw [q] at h; exact h
  | ok ts e1 =>
    rw [q] at h
    intro vs Hs1 H1 g1 t1
    dsimp only at h
    split at h
    · exact h.elim
    · rename_i ts' e2 q2
      split at h
      · rename_i hl
        obtain ⟨Hs2, g2, f2, r2⟩ := shared_all t1 q2
        refine ⟨by rw [← rps_len r2, List.length_map, ← line_eq]; exact hl, fun p np => ?_⟩
        obtain ⟨a, b⟩ := tmp_of f2 (new_tup f2.sb r2 np)
        exact h _ _ _ ((g1.trans g2).trans b) a
      · exact h.elim
theorem je_lst (h : JA X W es fl) : JE X W (.List es pos) (sLst fl) := PE_imp (pe_lst h) fun σ H Q ⟨vs0, Bk, Hs, e, f, h⟩ => by
  refine ⟨vs0, Bk, Hs, e, f, ?_⟩
  unfold sLst at h
  cases q : fl e with
  | no => rw [q] at h; exact h
  | ex x e1 => rw [q] at h; exact h
  | ok ts e1 =>
    rw [q] at h
    intro vs Hs1 H1 g1 t1
    dsimp only at h
    split at h
    · exact h.elim
    · rename_i ts' e2 q2
      split at h
      · rename_i hl
        obtain ⟨Hs2, g2, f2, r2⟩ := shared_all t1 q2
        refine ⟨by rw [← rps_len r2, List.length_map, ← line_eq]; exact hl, fun p np => ?_⟩
        obtain ⟨a, b⟩ := tmp_of f2 (new_lst f2.sb r2 np)
        exact h _ _ _ ((g1.trans g2).trans b) a
      · exact h.elim
theorem jb_tru (ha : JE X W a fa) (he : ∀ whole, isTrue a X.env whole = (do let v ← whole; standAt a.pos; holding [v] (truthy v)) := by intro _; rfl) : JB X W a (sTru fa) := PT_imp (pt_truth ha he) fun σ H Q ⟨vs0, Bk, Hs, e, f, h⟩ => by
  refine ⟨vs0, Bk, Hs, e, f, ?_⟩
  unfold sTru at h
  cases q : fa e with
  | no => rw [q] at h; exact h
  | ex x e1 => rw [q] at h; exact h
  | ok t e1 =>
    rw [q] at h
    intro v Hs1 H1 g1 t1
    dsimp only at h
    split at h
    · exact h.elim
    · rename_i d hd
      split at h
      · exact h.elim
      · rename_i b hb
        exact ⟨b, rd1_tru t1.1.sb (t1.2.rd t1.1 hd) hb, h Hs1 H1 g1 t1.frm⟩
theorem tru_bool {v : V} {b : Bool} (r : Rd1 K Hs H (.bl b) v) : v = .bl b := by
  rcases r with r | ⟨p, _, r⟩
  · exact r
  · exact r.elim
def sTruC (f : Sem) : SemB := fun e => match f e with
  | .no => .no
  | .ex x e1 => .ex x e1
  | .ok (.im (.bl b)) e1 => .ok b e1
  | .ok _ _ => .no
theorem truC_fin {σ : St} {Q : Bool → Hp → Prop} {W : WX} {mg : Str → Option Value} (h : TB' K mg W (sTruC fa) σ H Q) : TI' K mg W fa σ H fun x H' => ∃ k, x = .bl k ∧ Q k H' := by
  obtain ⟨vs0, Bk, Hs, e, f, h⟩ := h
  refine ⟨vs0, Bk, Hs, e, f, ?_⟩
  unfold sTruC at h
  cases q : fa e with
  | no => rw [q] at h; exact h
  | ex x e1 => rw [q] at h; exact h
  | ok t e1 =>
    rw [q] at h
    intro v Hs1 H1 g1 t1
    split at h
    · rename_i q'; cases q'
    · rename_i q'; cases q'
    · rename_i b e2 q'
      cases q'
      exact ⟨b, t1.2, h Hs1 H1 g1 t1.frm⟩
    · exact h.elim
theorem jb_cmp {op : CmpOp} {g : List D → Option Tm} {r : R2} (ho : OpR X (compareOp op) r) (hp : PureOk X.K g (r2 r)) (ha : JE X W a fa) (hb : JE X W b fb) (hm : behindInMarks op b = false) : JB X W (.Compare a [op] [b] pos) (sTruC (sOp g (s2 fa fb))) :=
  PT_imp (pt_cmpR ho ha hb hm) fun σ H Q h => two_fin hp (truC_fin h)
abbrev JW (X : Cx) (W : WX) (e : Expr) (f : SemB) : Prop := PW X e (TB' X.K X.mg W f)
theorem PW_imp {X : Cx} {e : Expr} {t t' : TT} (h : PW X e t) (i : ∀ σ H Q, t' σ H Q → t σ H Q) : PW X e t' := ⟨fun wh pins s σ H Q I q => h.run wh pins s σ H Q I (i σ H Q q)⟩
theorem jb_w (h : JW X W a fc) : JB X W a fc := PW.pt h
theorem jw_and1 (ha : JB X W a fc) : JW X W (.BoolOp .And [a] pos) fc := pw_and1 ha
theorem jw_or1 (ha : JB X W a fc) : JW X W (.BoolOp .Or [a] pos) fc := pw_or1 ha
theorem jw_and (ha : JB X W a fc) (hb : JW X W (.BoolOp .And (b :: rest) pos) fc') : JW X W (.BoolOp .And (a :: b :: rest) pos) (sAndB fc fc') := PW_imp (pw_and ha hb) fun σ H Q ⟨vs0, Bk, Hs, e, f, h⟩ => by
  refine ⟨vs0, Bk, Hs, e, f, ?_⟩
  unfold sAndB at h
  cases q : fc e with
  | no => rw [q] at h; exact h
  | ex x e1 => rw [q] at h; exact h
  | ok t e1 =>
    rw [q] at h
    intro Hs1 H1 g1 f1
    cases t with
    | true => exact ⟨vs0, Bk, Hs1, e1, f1, h.grow g1⟩
    | false => exact h Hs1 H1 g1 f1
theorem jw_or (ha : JB X W a fc) (hb : JW X W (.BoolOp .Or (b :: rest) pos) fc') : JW X W (.BoolOp .Or (a :: b :: rest) pos) (sOrB fc fc') := PW_imp (pw_or ha hb) fun σ H Q ⟨vs0, Bk, Hs, e, f, h⟩ => by
  refine ⟨vs0, Bk, Hs, e, f, ?_⟩
  unfold sOrB at h
  cases q : fc e with
  | no => rw [q] at h; exact h
  | ex x e1 => rw [q] at h; exact h
  | ok t e1 =>
    rw [q] at h
    intro Hs1 H1 g1 f1
    cases t with
    | true => exact h Hs1 H1 g1 f1
    | false => exact ⟨vs0, Bk, Hs1, e1, f1, h.grow g1⟩
theorem jb_not (ha : JB X W a fc) : JB X W (.UnaryOp .Not a pos) (sNotB fc) := PT_imp (pt_not ha) fun σ H Q ⟨vs0, Bk, Hs, e, f, h⟩ => by
  refine ⟨vs0, Bk, Hs, e, f, ?_⟩
  unfold sNotB at h
  cases q : fc e with
  | no => rw [q] at h; exact h
  | ex x e1 => rw [q] at h; exact h
  | ok t e1 => rw [q] at h; exact fun Hs1 H1 g1 f1 => h Hs1 H1 g1 f1
theorem je_one {op : BoolOp} (h : JE X W a fa) : JE X W (.BoolOp op [a] pos) fa := pe_one h
theorem je_or (ha : JE X W a fa) (hb : JE X W (.BoolOp .Or (b :: rest) pos) fb) : JE X W (.BoolOp .Or (a :: b :: rest) pos) (sOrV fa fb) := PE_imp (pe_orT ha hb) fun σ H Q ⟨vs0, Bk, Hs, e, f, h⟩ => by
  refine ⟨vs0, Bk, Hs, e, f, ?_⟩
  unfold sOrV at h
  cases q : fa e with
  | no => rw [q] at h; exact h
  | ex x e1 => rw [q] at h; exact h
  | ok t e1 =>
    rw [q] at h
    intro v Hs1 H1 g1 t1
    dsimp only at h
    split at h
    · exact h.elim
    · rename_i d hd
      split at h
      · exact h.elim
      · rename_i b hb
        refine ⟨b, rd1_tru t1.1.sb (t1.2.rd t1.1 hd) hb, ?_⟩
        cases b with
        | true => exact h v Hs1 H1 g1 t1
        | false => exact ⟨vs0, Bk, Hs1, e1, t1.frm, PostE.grow h g1⟩
theorem je_and (ha : JE X W a fa) (hb : JE X W (.BoolOp .And (b :: rest) pos) fb) : JE X W (.BoolOp .And (a :: b :: rest) pos) (sAndV fa fb) := PE_imp (pe_andT ha hb) fun σ H Q ⟨vs0, Bk, Hs, e, f, h⟩ => by
  refine ⟨vs0, Bk, Hs, e, f, ?_⟩
  unfold sAndV at h
  cases q : fa e with
  | no => rw [q] at h; exact h
  | ex x e1 => rw [q] at h; exact h
  | ok t e1 =>
    rw [q] at h
    intro v Hs1 H1 g1 t1
    dsimp only at h
    split at h
    · exact h.elim
    · rename_i d hd
      split at h
      · exact h.elim
      · rename_i b hb
        refine ⟨b, rd1_tru t1.1.sb (t1.2.rd t1.1 hd) hb, ?_⟩
        cases b with
        | true => exact ⟨vs0, Bk, Hs1, e1, t1.frm, PostE.grow h g1⟩
        | false => exact h v Hs1 H1 g1 t1
def sNotV (f : Sem) : Sem := fun e => match f e with
  | .no => .no
  | .ex x e1 => .ex x e1
  | .ok t e1 => match t.get e1 with
    | none => .no
    | some d => match truD d with
      | none => .no
      | some b => .ok (.im (.bl !b)) e1
theorem je_not (ha : JE X W a fa) : JE X W (.UnaryOp .Not a pos) (sNotV fa) := PE_imp (pe_notT ha) fun σ H Q ⟨vs0, Bk, Hs, e, f, h⟩ => by
  refine ⟨vs0, Bk, Hs, e, f, ?_⟩
  unfold sNotV at h
  cases q : fa e with
  | no => rw [q] at h; exact h
  | ex x e1 => rw [q] at h; exact h
  | ok t e1 =>
    rw [q] at h
    intro v Hs1 H1 g1 t1
    dsimp only at h
    split at h
    · exact h.elim
    · rename_i d hd
      split at h
      · exact h.elim
      · rename_i b hb
        exact ⟨b, rd1_tru t1.1.sb (t1.2.rd t1.1 hd) hb, h (.bl !b) Hs1 H1 g1 (tmp_im t1.frm rfl)⟩
end
end L2.Py
set_option maxRecDepth 100000
namespace L2.Py
open PySem PySem.Spec PyProof.Rows
inductive DR where
  | ok (t : Tm) (fin : En) | ex (x : XD) (fin : En) | no
abbrev Fn := List (D × Fl) → DR
def fins (np : Nat) (e : En) : En := (e.take np).map fun s => match s with
  | some (d, f) => if f.pin then some (d, f) else none
  | none => none
def fnD (np n : Nat) (body : SemS) : Fn := fun as => if as.length = np then
    match body (as.map some ++ List.replicate (n - np) none) with
    | .rt t e => .ok t (fins np e)
    | .nx e => .ok (.im .non) (fins np e)
    | .ex x e => .ex x (fins np e)
    | _ => .no
  else .no
section
variable (K : PySem.W.Frag) (mg : Str → Option Value)
def PostC (vs : List V) (Bk Hs : Hp) (Q : VK) (E : XK) : DR → Prop
  | .no => False
  | .ok t fin => NoSl t ∧ ∀ v Hs' H', Grow Bk Hs Hs' → Tmp K vs Bk Hs' H' (vs.map some) fin t v → Q v H'
  | .ex x fin => ∀ c dx Hs' H', Grow Bk Hs Hs' → Frm K vs Bk Hs' H' (vs.map some) fin → RpX K mg Hs' H' x c dx → E c dx H'
def spD (F : Fn) : Sp := fun vs H Q E => ∃ Bk Hs as, as.length = vs.length ∧ Frm K vs Bk Hs H (vs.map some) (as.map some) ∧ PostC K mg vs Bk Hs Q E (F as)
end
section
variable {K : PySem.W.Frag} {mg : Str → Option Value} {W : WX} {Hs Hs' H H' Bk Bk' : Hp} {d : D} {p : Addr} {vs0 : List V} {σ : St} {e e' : En} {i : Nat} {t t' : Tm} {v : V}
theorem spD_len {np n : Nat} {body : SemS} {vs : List V} {Q : VK} {E : XK} (h : spD K mg (fnD np n body) vs H Q E) : vs.length = np := by
  obtain ⟨Bk, Hs, as, hl, f, h⟩ := h
  unfold fnD at h
  split at h
  · rename_i q
    omega
  · exact h.elim
theorem fins_get {np : Nat} {j : Nat} {x : D × Fl} (h : (fins np e)[j]? = some (some x)) : j < np ∧ e[j]? = some (some x) ∧ x.2.pin = true := by
  unfold fins at h
  rw [List.getElem?_map] at h
  cases q : (e.take np)[j]? with
  | none => rw [q] at h; cases h
  | some s =>
    rw [q] at h
    have hj : j < np := by
      have := (List.getElem?_eq_some_iff.mp q).1
      rw [List.length_take] at this
      omega
    rw [List.getElem?_take_of_lt hj] at q
    cases s with
    | none => simp at h
    | some y =>
      obtain ⟨d, f⟩ := y
      simp only [Option.map_some, Option.some.injEq] at h
      split at h
      · rename_i hp
        cases h
        exact ⟨hj, q, hp⟩
      · cases h
theorem fins_frm {np : Nat} (f : Frm K vs0 Bk Hs H σ e) (hl : vs0.length = np) : Frm K vs0 Bk Hs H (vs0.map some) (fins np e) := by
  have sv : ∀ {j : Nat} {d : D} {fl : Fl}, (fins np e)[j]? = some (some (d, fl)) → e[j]? = some (some (d, fl)) ∧ (vs0.map some)[j]? = σ[j]? := fun {j d fl} h => by
    obtain ⟨h1, h2, h3⟩ := fins_get h
    obtain ⟨v, k1, k2⟩ := f.pn j d fl h2 h3
    refine ⟨h2, ?_⟩
    rw [List.getElem?_map, k2, k1]
    rfl
  refine ⟨?_, f.sb, f.bb, fun j d fl h o => ?_, fun j d fl h o => ?_, fun j k d1 f1 d2 f2 p' a1 o1 a2 o2 s1 s2 => ?_, fun j d fl h o => ?_⟩
  · unfold fins
    simp only [List.length_map, List.length_take]
    omega
  · obtain ⟨h1, h2⟩ := sv h; rw [h2]; exact f.sh j d fl h1 o
  · obtain ⟨h1, h2⟩ := sv h; rw [h2]; exact f.ow j d fl h1 o
  · obtain ⟨h1, h2⟩ := sv a1
    obtain ⟨h3, h4⟩ := sv a2
    rw [h2] at s1
    rw [h4] at s2
    exact f.dj j k d1 f1 d2 f2 p' h1 o1 h3 o2 s1 s2
  · obtain ⟨h1, h2⟩ := sv h; rw [h2]; exact f.pn j d fl h1 o
theorem Frm.ext_none (f : Frm K vs0 Bk Hs H σ e) (n : Nat) : Frm K vs0 Bk Hs H (σ ++ List.replicate n none) (e ++ List.replicate n none) := by
  have g : ∀ {j : Nat} {x : D × Fl}, (e ++ List.replicate n none)[j]? = some (some x) → e[j]? = some (some x) ∧ (σ ++ List.replicate n none)[j]? = σ[j]? := fun {j x} h => by
    by_cases hj : j < e.length
    · rw [List.getElem?_append_left hj] at h
      exact ⟨h, List.getElem?_append_left (Nat.lt_of_lt_of_le hj f.len)⟩
    · rw [List.getElem?_append_right (Nat.le_of_not_lt hj), List.getElem?_replicate] at h
      split at h <;> cases h
  refine ⟨by simpa using f.len, f.sb, f.bb, fun j d fl h o => ?_, fun j d fl h o => ?_, fun j k d1 f1 d2 f2 p' a1 o1 a2 o2 s1 s2 => ?_, fun j d fl h o => ?_⟩
  · obtain ⟨h1, h2⟩ := g h; rw [h2]; exact f.sh j d fl h1 o
  · obtain ⟨h1, h2⟩ := g h; rw [h2]; exact f.ow j d fl h1 o
  · obtain ⟨h1, h2⟩ := g a1
    obtain ⟨h3, h4⟩ := g a2
    rw [h2] at s1
    rw [h4] at s2
    exact f.dj j k d1 f1 d2 f2 p' h1 o1 h3 o2 s1 s2
  · obtain ⟨h1, h2⟩ := g h; rw [h2]; exact f.pn j d fl h1 o
end
structure FnG (P : Program) (w : World) (K : PySem.W.Frag) (mg : Str → Option Value) (base : Heap) (k : Nat) (f : Addr) (fd : FuncData) (ps : List Str) (sp : Sp) : Prop where
  len : ∀ vs H Q E, sp vs H Q E → vs.length = ps.length
  go : ∀ (A : Around) (out : List PySem.Env) (s : Shared) (H : Hp) (args : Args) (us : List Value) (vs : List V) (Q : VK) (E : XK), Room k A → A.guards = some [] → Env0 P w K mg base A out s H →
    BindsTo s fd args (ps.zip us) → Vals vs us → sp vs H Q E → codeAny (model P w) A (.call (.ref f) args) (CR (L2.CX P w) out P w H s Q E) s
theorem FnG.mono {P : Program} {w : World} {K : PySem.W.Frag} {mg : Str → Option Value} {base : Heap} {j k : Nat} {f : Addr} {fd : FuncData} {ps : List Str} {sp : Sp} (F : FnG P w K mg base j f fd ps sp) (h : j ≤ k) : FnG P w K mg base k f fd ps sp :=
  ⟨F.len, fun A out s H args us vs Q E r g => F.go A out s H args us vs Q E (r.mono h) g⟩
theorem fn_ok {P : Program} {w : World} {K : PySem.W.Frag} {mg : Str → Option Value} {base : Heap} {x qual : Str} {st : Stmt} {f : Addr} {fd : FuncData} {N ps : List Str} {k : Nat} {np n : Nat} {body : SemS} (F : Fun K x qual st f fd) (S : FnScope N ps (defScope st)) (hp : ps.length = np) (hn : N.length = n)
    (hb : ∀ (cdv : Value) (A : Around) (outer : List PySem.Env) (s : Shared) (H : Hp) (E : XK), Room k (A.deeper (envOfC qual (defScope st) s.heap.objs.size f cdv)) → (A.deeper (envOfC qual (defScope st) s.heap.objs.size f cdv)).guards = some [] →
      Takes (cxOf (L2.CX P w) P w K mg base N qual (defScope st) f cdv A outer s H E) (fun c dx _ H' => E c dx H') → PassesOwn (model P w) (cxOf (L2.CX P w) P w K mg base N qual (defScope st) f cdv A outer s H E).A (cxOf (L2.CX P w) P w K mg base N qual (defScope st) f cdv A outer s H E).env (cxOf (L2.CX P w) P w K mg base N qual (defScope st) f cdv A outer s H E).xe →
      JSs (cxOf (L2.CX P w) P w K mg base N qual (defScope st) f cdv A outer s H E) (fun c dx _ H' => E c dx H') (defBody st) body) :
    FnG P w K mg base (k + 1) f fd ps (spD K mg (fnD np n body)) := by
  obtain ⟨ocl, odd, kVv, dcc, pmm, ann, cdv, ctt, osl, rfl, look, rec⟩ := F.ex
  refine ⟨fun vs H Q E h => (spD_len h).trans hp.symm, fun A out s H args us vs Q E room grd env0 bnd rel h => ?_⟩
  have vl := spD_len h
  have kin : K.In s.heap := env0.mod.kin.keeps (fun b o q => (env0.bs b o q).1)
  have nolim : s.heap.NoLimit := env0.mod.nolimit.keeps (fun b o q => (env0.bs b o q).1)
  have kinds : ∀ y ∈ ps.zip us, (defScope st).names.lookup y.1 = some .local ∨ ((defScope st).names.lookup y.1 = some .cell ∧ ((cellsFrom (s.heap.objs.size + 1) (defScope st).names []).lookup y.1).isSome = true) := by
    rintro ⟨nm, u⟩ hy
    cases S.par nm (List.of_mem_zip hy).1 with
    | inl q => exact .inl q
    | inr q => exact .inr ⟨q, PySem.W.cellsFrom_some _ _ _ (.inl q)⟩
  apply codeAny_call_function room.depth (kin _ _ look) rfl S.co S.gen rfl (PySem.W.codeRec_of kin rec) (bnd _ _ _ _ ?_)
  apply wpAny_newFunctionEnv_cells S.kind kinds
  intro env he s1 x
  subst he
  refine ⟨nolim.keeps x.toInCall.keep, codeAny_func ?_⟩
  have start_ok : Inv (cxOf (L2.CX P w) P w K mg base N qual (defScope st) f cdv A out s H E) [] (start N vs) H s1 := inv_start S room.hd env0 (vl.trans hp.symm) rel x
  have body_ok := hb cdv A out s H E (room.deeper _) grd (takes_of rfl rfl rfl rfl) (passes_of rfl)
  obtain ⟨Bk, Hs, as, al, fr, post⟩ := h
  have al' : as.length = np := al.trans vl
  have given : TSt K mg (fun c dx _ H' => E c dx H') body { nx := fun _ H' => Q .non H', rt := Q } (start N vs) H := by
    refine ⟨vs, Bk, Hs, as.map some ++ List.replicate (n - np) none, ?_, ?_⟩
    · show Frm K vs Bk Hs H (vs.map some ++ List.replicate (N.length - vs.length) none) _
      rw [hn, vl]
      exact fr.ext_none _
    · unfold fnD at post
      rw [if_pos al'] at post
      cases q : body (as.map some ++ List.replicate (n - np) none) with
      | no => rw [q] at post; exact post
      | bk e => rw [q] at post; exact post.elim
      | ct e => rw [q] at post; exact post.elim
      | nx e =>
        rw [q] at post
        intro σ' Hs' H' g fr'
        exact post.2 .non Hs' H' g (tmp_im (fins_frm fr' vl) rfl)
      | rt t e =>
        rw [q] at post
        refine ⟨post.1, fun v σ' Hs' H' g tm => post.2 v Hs' H' g ⟨fins_frm tm.1 vl, ?_⟩⟩
        cases t with
        | im d => exact tm.2
        | sl i => exact post.1.elim
        | ow d => exact tm.2
      | ex x e =>
        rw [q] at post
        intro c dx σ' Hs' H' g fr' rx
        exact post c dx Hs' H' g (fins_frm fr' vl) rx
  refine wpAny_mono (body_ok.run [] s1 (start N vs) H _ start_ok given) (fun fl s' done => ?_) fun _ _ z => z
  cases fl with
  | ret u => obtain ⟨v, σ', H', J, rv, q⟩ := done; exact ⟨v, H', J.os, J.bare, J.base, J.hok, rv, q⟩
  | next => obtain ⟨σ', H', J, q⟩ := done; exact ⟨.non, H', J.os, J.bare, J.base, J.hok, rfl, q⟩
  | brk => obtain ⟨_, _, _, q⟩ := done; exact q.elim
  | cont => obtain ⟨_, _, _, q⟩ := done; exact q.elim
end L2.Py
set_option maxRecDepth 100000
namespace L2.Py
open PySem PySem.Spec PyProof.Rows
abbrev Lent := Tm × Option (Nat × Fl)
def outT : Tm → En → Option (Lent × En)
  | .sl i, e => match e[i]? with
    | some (some (d, f)) => if f.own then some ((.ow d, some (i, f)), e.set i none) else some ((.im d, none), e)
    | _ => none
  | t, e => some ((t, none), e)
def outAll : List Tm → En → Option (List Lent × En)
  | [], e => some ([], e)
  | t :: ts, e => match outT t e with
    | none => none
    | some (t', e1) => match outAll ts e1 with
      | none => none
      | some (ts', e2) => some (t' :: ts', e2)
def argOf : Lent → D × Fl
  | (.im d, _) => (d, .sh)
  | (.ow d, none) => (d, .mv)
  | (.ow d, some _) => (d, .lt)
  | (.sl _, _) => (.non, .sh)
def backAll : List Lent → En → En → Option En
  | [], _, e => some e
  | (_, none) :: r, _ :: fin, e => backAll r fin e
  | (_, some (i, fl)) :: r, some (d, .lt) :: fin, e => if i < e.length then backAll r fin (e.set i (some (d, fl))) else none
  | (_, some (i, fl)) :: r, some (d, .ls) :: fin, e => if i < e.length then backAll r fin (e.set i (some (d, fl.leak))) else none
  | _, _, _ => none
def sCallU (F : Fn) (us : List Lent) (e : En) : R Tm := match F (us.map argOf) with
  | .no => .no
  | .ok (.sl _) _ => .no
  | .ok t fin => match backAll us fin e with
    | none => .no
    | some e' => .ok t e'
  | .ex x fin => match backAll us fin e with
    | none => .no
    | some e' => .ex x e'
def sCallT (F : Fn) (ts : List Tm) (e : En) : R Tm := match outAll ts e with
  | none => .no
  | some (us, e1) => sCallU F us e1
def sCall (F : Fn) (fl : SemL) : Sem := fun e => match fl e with
  | .no => .no
  | .ex x e1 => .ex x e1
  | .ok ts e1 => sCallT F ts e1
section
variable {K : PySem.W.Frag} {mg : Str → Option Value} {W : WX} {Hs Hs' H H' Bk Bk' : Hp} {d : D} {p : Addr} {vs0 : List V} {σ : St} {e e' e1 : En} {i : Nat} {t t' : Tm} {v : V}
def less (H : Hp) (A : List Addr) : Hp := fun a => if a ∈ A then none else H a
theorem less_mem {H : Hp} {A : List Addr} {a : Addr} (h : a ∈ A) : less H A a = none := if_pos h
theorem less_not {H : Hp} {A : List Addr} {a : Addr} (h : a ∉ A) : less H A a = H a := if_neg h
def LentOk (vs0 : List V) (σ : St) (e : En) (u : Lent) (v : V) : Prop := ∀ i fl, u.2 = some (i, fl) → fl.own = true ∧ σ[i]? = some (some v) ∧ (fl.pin = true → vs0[i]? = some v) ∧ (∃ d, u.1 = .ow d) ∧ e[i]? = some none
theorem outT_ok {l : List Addr} {u : Lent} (f : Frm K vs0 (ext Bk H l) Hs H σ e) (h : RpT K Bk Hs H σ t v) (hl : ∀ a ∈ ownA t v, a ∈ l) (hb : ∀ a ∈ l, Bk a = none) (q : outT t e = some (u, e')) :
    ∃ l', ((∀ a ∈ l, a ∈ l') ∧ ∀ a ∈ l', Bk a = none) ∧ Frm K vs0 (ext Bk H l') Hs H σ e' ∧ NoSl u.1 ∧ RpT K Bk Hs H σ u.1 v ∧ LentOk vs0 σ e' u v ∧ (∀ a ∈ ownA u.1 v, a ∈ l') ∧ (∀ a ∈ ownA u.1 v, a ∈ ownA t v ∨ a ∉ l) ∧ (∀ j : Nat, e[j]? = some none → e'[j]? = some none) ∧ e'.length = e.length := by
  cases t with
  | im d =>
    cases q
    exact ⟨l, ⟨fun _ m => m, hb⟩, f, trivial, h, (fun i fl z => nomatch z), hl, fun a m => .inl m, fun _ z => z, rfl⟩
  | ow d =>
    cases q
    exact ⟨l, ⟨fun _ m => m, hb⟩, f, trivial, h, (fun i fl z => nomatch z), hl, fun a m => .inl m, fun _ z => z, rfl⟩
  | sl i =>
    have q : (match e[i]? with
      | some (some (d, f)) => if f.own then some ((Tm.ow d, some (i, f)), e.set i none) else some ((.im d, none), e)
      | _ => none) = some (u, e') := q
    have h : σ[i]? = some (some v) := h
    split at q
    · rename_i d fl z
      split at q
      · rename_i o
        cases q
        obtain ⟨p, k1, k2, k3, k4⟩ := f.ow i d fl z o
        rw [k1] at h
        cases h
        have np : p ∉ l := fun m => by
          rw [ext_mem m] at k4
          obtain ⟨ob, hob⟩ := k2.some
          rw [hob] at k4
          cases k4
        rw [ext_not np] at k4
        have hi : i < e.length := (List.getElem?_eq_some_iff.mp z).1
        refine ⟨p :: l, ⟨fun _ m => List.mem_cons_of_mem _ m, fun a m => (List.mem_cons.mp m).elim (fun z => by rw [z]; exact k4) (hb a)⟩, ⟨by simpa using f.len, f.sb, fun a ob q => ?_, fun j d' f' hh ho => ?_, fun j d' f' hh ho => ?_, fun j k d1 f1' d2 f2 p' a1 o1 a2 o2 s1 s2 => ?_, fun j d' f' hh ho => ?_⟩, trivial, ⟨p, rfl, k2, k3, k4⟩, fun i' fl' z' => ?_, fun a m => ?_, fun a m => ?_, fun j z' => ?_, by simp⟩
        · by_cases m : a ∈ p :: l
          · rw [ext_mem m] at q; exact q
          · rw [ext_not m] at q
            refine f.bb a ob ?_
            rw [ext_not fun mm => m (List.mem_cons_of_mem _ mm)]
            exact q
        · rcases get_set hh with ⟨_, z'⟩ | ⟨_, z'⟩
          · cases z'
          · exact f.sh j d' f' z' ho
        · rcases get_set hh with ⟨_, z'⟩ | ⟨ne, z'⟩
          · cases z'
          · obtain ⟨p', w1, w2, w3, w4⟩ := f.ow j d' f' z' ho
            refine ⟨p', w1, w2, w3, ?_⟩
            have n1 : p' ≠ p := fun m => by
              subst m
              exact ne (f.dj j i d' f' d fl p' z' ho z o w1 k1)
            have n2 : p' ∉ l := fun m => by
              rw [ext_mem m] at w4
              obtain ⟨ob, hob⟩ := w2.some
              rw [hob] at w4
              cases w4
            rw [ext_not n2] at w4
            rw [ext_not ?_]
            · exact w4
            · intro m
              rcases List.mem_cons.mp m with m | m
              · exact n1 m
              · exact n2 m
        · rcases get_set a1 with ⟨_, z1⟩ | ⟨_, z1⟩
          · cases z1
          · rcases get_set a2 with ⟨_, z2⟩ | ⟨_, z2⟩
            · cases z2
            · exact f.dj j k d1 f1' d2 f2 p' z1 o1 z2 o2 s1 s2
        · rcases get_set hh with ⟨_, z'⟩ | ⟨_, z'⟩
          · cases z'
          · exact f.pn j d' f' z' ho
        · cases z'
          refine ⟨o, k1, fun hp => ?_, ⟨d, rfl⟩, by rw [List.getElem?_set_self hi]⟩
          obtain ⟨v', w1, w2⟩ := f.pn i d fl z hp
          rw [k1] at w1
          cases w1
          exact w2
        · have m : a = p := List.mem_singleton.mp m
          rw [m]
          exact List.mem_cons_self
        · have m : a = p := List.mem_singleton.mp m
          rw [m]
          exact .inr np
        · by_cases ji : j = i
          · subst ji; rw [List.getElem?_set_self hi]
          · rw [List.getElem?_set_ne (Ne.symm ji)]; exact z'
      · rename_i o
        cases q
        have o : fl.own = false := by simpa using o
        obtain ⟨w, k1, k2⟩ := f.sh i d fl z o
        rw [k1] at h
        cases h
        exact ⟨l, ⟨fun _ m => m, hb⟩, f, trivial, k2, (fun i fl z => nomatch z), (fun a m => nomatch m), (fun a m => nomatch m), fun _ z => z, rfl⟩
    · cases q
def LentsOk (vs0 : List V) (σ : St) (e : En) : List Lent → List V → Prop
  | [], vs => vs = []
  | u :: us, vs => ∃ v r, vs = v :: r ∧ LentOk vs0 σ e u v ∧ LentsOk vs0 σ e us r
theorem LentOk.later {u : Lent} (h : LentOk vs0 σ e u v) (g : ∀ j : Nat, e[j]? = some none → e'[j]? = some none) : LentOk vs0 σ e' u v := fun i fl z =>
  let ⟨a, b, c, d, k⟩ := h i fl z
  ⟨a, b, c, d, g i k⟩
theorem outAll_ok : ∀ {ts : List Tm} {us : List Lent} {vs : List V} {e e' : En} {l : List Addr}, Frm K vs0 (ext Bk H l) Hs H σ e → RpTs K Bk Hs H σ ts vs → (∀ a ∈ ownAs ts vs, a ∈ l) → (∀ a ∈ l, Bk a = none) → (ownAs ts vs).Nodup → outAll ts e = some (us, e') →
    ∃ l', ((∀ a ∈ l, a ∈ l') ∧ ∀ a ∈ l', Bk a = none) ∧ Frm K vs0 (ext Bk H l') Hs H σ e' ∧ (∀ u ∈ us, NoSl u.1) ∧ RpTs K Bk Hs H σ (us.map (·.1)) vs ∧ LentsOk vs0 σ e' us vs ∧ (∀ a ∈ ownAs (us.map (·.1)) vs, a ∈ l') ∧ (∀ a ∈ ownAs (us.map (·.1)) vs, a ∈ ownAs ts vs ∨ a ∉ l) ∧ (ownAs (us.map (·.1)) vs).Nodup ∧ (∀ j : Nat, e[j]? = some none → e'[j]? = some none) ∧ e'.length = e.length
  | [], us, vs, e, e', l, f, h, hl, hb, n, q => by
    cases q
    have h : vs = [] := h
    subst h
    exact ⟨l, ⟨fun _ m => m, hb⟩, f, (fun _ z => nomatch z), rfl, rfl, (fun a m => nomatch m), (fun a m => nomatch m), .nil, fun _ z => z, rfl⟩
  | t :: ts, us, vs, e, e', l, f, h, hl, hb, n, q => by
    obtain ⟨v, r, rfl, h1, h2⟩ := h
    unfold outAll at q
    split at q
    · cases q
    · rename_i u1 e1 q1
      split at q
      · cases q
      · rename_i us1 e2 q2
        cases q
        obtain ⟨l1, ⟨s1, b1⟩, f1, n1, r1, k1, w1, d1, g1, z1⟩ := outT_ok f h1 (fun a m => hl a (List.mem_append_left _ m)) hb q1
        have n : (ownA t v ++ ownAs ts r).Nodup := n
        obtain ⟨na, nb, nc⟩ := List.nodup_append.mp n
        obtain ⟨l2, ⟨s2, b2⟩, f2, n2, r2, k2, w2, d2, nd2, g2, z2⟩ := outAll_ok (l := l1) f1 h2 (fun a m => s1 a (hl a (List.mem_append_right _ m))) b1 nb q2
        refine ⟨l2, ⟨fun a m => s2 a (s1 a m), b2⟩, f2, fun u m => ?_, ⟨v, r, rfl, r1, r2⟩, ⟨v, r, rfl, k1.later g2, k2⟩, fun a m => ?_, fun a m => ?_, ?_, fun j z => g2 j (g1 j z), z2.trans z1⟩
        · rcases List.mem_cons.mp m with rfl | m
          · exact n1
          · exact n2 u m
        · rcases List.mem_append.mp m with m | m
          · exact s2 a (w1 a m)
          · exact w2 a m
        · rcases List.mem_append.mp m with m | m
          · rcases d1 a m with z | z
            · exact .inl (List.mem_append_left _ z)
            · exact .inr z
          · rcases d2 a m with z | z
            · exact .inl (List.mem_append_right _ z)
            · exact .inr fun zz => z (s1 a zz)
        · show (ownA u1.1 v ++ ownAs (us1.map (·.1)) r).Nodup
          refine List.nodup_append.mpr ⟨?_, nd2, fun a m b m2 q => ?_⟩
          · have : ∀ (t : Tm) (v : V), (ownA t v).Nodup := fun t v => by
              cases t <;> cases v <;> first | exact .nil | exact List.nodup_cons.mpr ⟨by simp, .nil⟩
            exact this _ _
          · subst q
            rcases d2 a m2 with z | z
            · rcases d1 a m with z' | z'
              · exact nc a z' a z rfl
              · exact z' (hl a (List.mem_append_right _ z))
            · exact z (w1 a m)
theorem callee_frm {l : List Addr} : ∀ {us : List Lent} {vs : List V}, Same Hs H → RpTs K Bk Hs H σ (us.map (·.1)) vs → (∀ u ∈ us, NoSl u.1) → (ownAs (us.map (·.1)) vs).Nodup → (∀ a ∈ ownAs (us.map (·.1)) vs, a ∈ l) →
    Frm K vs (less H l) Hs H (vs.map some) ((us.map argOf).map some) := by
  intro us vs sb h n nd hl
  have len : ∀ {us : List Lent} {vs : List V}, RpTs K Bk Hs H σ (us.map (·.1)) vs → us.length = vs.length := by
    intro us
    induction us with
    | nil => intro vs h; have h : vs = [] := h; subst h; rfl
    | cons u us ih =>
      intro vs h
      obtain ⟨v, r, rfl, _, h2⟩ := h
      simp [ih h2]
  have at_ : ∀ {us : List Lent} {vs : List V} {j : Nat} {d : D} {fl : Fl}, RpTs K Bk Hs H σ (us.map (·.1)) vs → (∀ u ∈ us, NoSl u.1) → ((us.map argOf).map some)[j]? = some (some (d, fl)) →
      ∃ v, vs[j]? = some v ∧ ((fl.own = false ∧ Rp K Hs d v) ∨ (fl.own = true ∧ ∃ p, v = .ref p ∧ OwnAt K Hs H d p ∧ Hs p = none ∧ p ∈ ownAs (us.map (·.1)) vs)) ∧ (fl.pin = true → fl.own = true) := by
    intro us
    induction us with
    | nil => intro vs j d fl h n q; simp at q
    | cons u us ih =>
      intro vs j d fl h n q
      obtain ⟨v, r, rfl, h1, h2⟩ := h
      cases j with
      | zero =>
        simp only [List.map_cons, List.getElem?_cons_zero, Option.some.injEq] at q
        refine ⟨v, rfl, ?_⟩
        obtain ⟨t, o⟩ := u
        cases t with
        | sl i => exact (n _ List.mem_cons_self).elim
        | im d' =>
          cases q
          exact ⟨.inl ⟨rfl, h1⟩, fun z => nomatch z⟩
        | ow d' =>
          obtain ⟨p, rfl, k1, k2, k3⟩ := h1
          cases o with
          | none => cases q; exact ⟨.inr ⟨rfl, p, rfl, k1, k2, List.mem_append_left _ (List.mem_singleton.mpr rfl)⟩, fun z => nomatch z⟩
          | some w => cases q; exact ⟨.inr ⟨rfl, p, rfl, k1, k2, List.mem_append_left _ (List.mem_singleton.mpr rfl)⟩, fun _ => rfl⟩
      | succ j =>
        obtain ⟨v', k1, k2, k3⟩ := ih h2 (fun u m => n u (List.mem_cons_of_mem _ m)) (by simpa using q)
        refine ⟨v', by simpa using k1, ?_, k3⟩
        rcases k2 with k2 | ⟨o, p, e1, k4, k5, k6⟩
        · exact .inl k2
        · exact .inr ⟨o, p, e1, k4, k5, List.mem_append_right _ k6⟩
  have inj : ∀ {us : List Lent} {vs : List V} {j k : Nat} {d d' : D} {fl fl' : Fl} {p : Addr}, RpTs K Bk Hs H σ (us.map (·.1)) vs → (∀ u ∈ us, NoSl u.1) → (ownAs (us.map (·.1)) vs).Nodup → ((us.map argOf).map some)[j]? = some (some (d, fl)) → fl.own = true → ((us.map argOf).map some)[k]? = some (some (d', fl')) → fl'.own = true → vs[j]? = some (.ref p) → vs[k]? = some (.ref p) → j = k := by
    intro us
    induction us with
    | nil => intro vs j k d d' fl fl' p h n nd q; simp at q
    | cons u us ih =>
      intro vs j k d d' fl fl' p h n nd q o q' o' s s'
      obtain ⟨v, r, rfl, h1, h2⟩ := h
      have nd : (ownA u.1 v ++ ownAs (us.map (·.1)) r).Nodup := nd
      obtain ⟨na, nb, nc⟩ := List.nodup_append.mp nd
      have n2 : ∀ u ∈ us, NoSl u.1 := fun u m => n u (List.mem_cons_of_mem _ m)
      have head : ∀ {d : D} {fl : Fl}, some (argOf u) = some (d, fl) → fl.own = true → v = .ref p → p ∈ ownA u.1 v := by
        intro d fl e o ev
        obtain ⟨t, w⟩ := u
        cases t with
        | sl i => exact (n _ List.mem_cons_self).elim
        | im d' => cases e; cases o
        | ow d' => subst ev; exact List.mem_singleton.mpr rfl
      have tail : ∀ {j : Nat} {d : D} {fl : Fl}, ((us.map argOf).map some)[j]? = some (some (d, fl)) → fl.own = true → r[j]? = some (.ref p) → p ∈ ownAs (us.map (·.1)) r := by
        intro j d fl e o ev
        obtain ⟨v', k1, k2, _⟩ := at_ h2 n2 e
        rw [ev] at k1
        cases k1
        rcases k2 with ⟨z, _⟩ | ⟨_, p', e1, _, _, k6⟩
        · rw [o] at z; cases z
        · cases e1; exact k6
      cases j with
      | zero =>
        cases k with
        | zero => rfl
        | succ k =>
          simp only [List.map_cons, List.getElem?_cons_zero, List.getElem?_cons_succ, Option.some.injEq] at q q' s s'
          exact (nc p (head (congrArg some q) o s) p (tail q' o' s') rfl).elim
      | succ j =>
        cases k with
        | zero =>
          simp only [List.map_cons, List.getElem?_cons_zero, List.getElem?_cons_succ, Option.some.injEq] at q q' s s'
          exact (nc p (head (congrArg some q') o' s') p (tail q o s) rfl).elim
        | succ k =>
          simp only [List.map_cons, List.getElem?_cons_succ] at q q' s s'
          rw [ih h2 n2 nb q o q' o' s s']
  refine ⟨by simpa using Nat.le_of_eq (len h), sb, fun a o q => ?_, fun j d fl q o => ?_, fun j d fl q o => ?_, fun j k d1 f1 d2 f2 p' a1 o1 a2 o2 s1 s2 => ?_, fun j d fl q o => ?_⟩
  · by_cases m : a ∈ l
    · rw [less_mem m] at q; cases q
    · rw [less_not m] at q; exact q
  · obtain ⟨v, k1, k2, _⟩ := at_ h n q
    rcases k2 with ⟨_, k2⟩ | ⟨z, _⟩
    · exact ⟨v, by rw [List.getElem?_map, k1]; rfl, k2⟩
    · rw [o] at z; cases z
  · obtain ⟨v, k1, k2, _⟩ := at_ h n q
    rcases k2 with ⟨z, _⟩ | ⟨_, p, rfl, k3, k4, k5⟩
    · rw [o] at z; cases z
    · exact ⟨p, by rw [List.getElem?_map, k1]; rfl, k3, k4, less_mem (hl p k5)⟩
  · have sv : ∀ {j : Nat}, (vs.map some)[j]? = some (some (V.ref p')) → vs[j]? = some (.ref p') := fun {j} z => by
      rw [List.getElem?_map] at z
      cases w : vs[j]? with
      | none => rw [w] at z; cases z
      | some y => rw [w] at z; simpa using z
    exact inj h n nd a1 o1 a2 o2 (sv s1) (sv s2)
  · obtain ⟨v, k1, _, _⟩ := at_ h n q
    exact ⟨v, by rw [List.getElem?_map, k1]; rfl, k1⟩
theorem after_frm {L A M : List Addr} (f : Frm K vs0 (ext Bk H L) Hs H σ e) (hb : ∀ a ∈ L, Bk a = none) (hA : ∀ a ∈ A, a ∈ L) (g : Grow (less H A) Hs Hs') (s1 : Same (less H A) H') (s2 : Same Hs' H') (hM : ∀ a ∈ M, a ∈ A ∨ H a = none) :
    Frm K vs0 (ext Bk H' M) Hs' H' σ e := by
  have fb : Same Bk H := (ext_same (H := H) hb).trans f.bb
  refine ⟨f.len, s2, fun a o q => ?_, fun j d fl q o => ?_, fun j d fl q o => ?_, f.dj, f.pn⟩
  · by_cases m : a ∈ M
    · rw [ext_mem m] at q; exact q
    · rw [ext_not m] at q
      have na : a ∉ A := fun z => by rw [hb a (hA a z)] at q; cases q
      exact s1 a o (by rw [less_not na]; exact fb a o q)
  · obtain ⟨v, k1, k2⟩ := f.sh j d fl q o
    exact ⟨v, k1, Rp.mono g.1 _ _ k2⟩
  · obtain ⟨p, k1, k2, k3, k4⟩ := f.ow j d fl q o
    obtain ⟨ob, hob⟩ := k2.some
    have nL : p ∉ L := fun m => by rw [ext_mem m, hob] at k4; cases k4
    have nA : p ∉ A := fun m => nL (hA p m)
    rw [ext_not nL] at k4
    have hp : H' p = some ob := s1 p ob (by rw [less_not nA]; exact hob)
    refine ⟨p, k1, k2.mono g.1 (hp.trans hob.symm), ?_, ?_⟩
    · cases z : Hs' p with
      | none => rfl
      | some u =>
        have := g.2 p k3 (by rw [z]; simp)
        rw [less_not nA, hob] at this
        cases this
    · rw [ext_not fun m => ?_]
      · exact k4
      · rcases hM p m with z | z
        · exact nA z
        · rw [hob] at z; cases z
theorem back_own {B : Hp} {fl : Fl} (f : Frm K vs0 B Hs H σ e) (s : σ[i]? = some (some (.ref p))) (o : OwnAt K Hs H d p) (n : Hs p = none) (b : B p = none) (dj : ∀ (j : Nat) d' f', e[j]? = some (some (d', f')) → f'.own = true → σ[j]? = some (some (V.ref p)) → False)
    (hp : fl.pin = true → vs0[i]? = some (.ref p)) (ho : fl.own = true) (hi : i < e.length) : Frm K vs0 B Hs H σ (e.set i (some (d, fl))) := by
  refine ⟨by simpa using f.len, f.sb, f.bb, fun j d' f' h o' => ?_, fun j d' f' h o' => ?_, fun j k d1 f1 d2 f2 p' a1 o1 a2 o2 s1 s2 => ?_, fun j d' f' h o' => ?_⟩
  · rcases get_set h with ⟨rfl, z⟩ | ⟨ne, z⟩
    · cases z; rw [ho] at o'; cases o'
    · exact f.sh j d' f' z o'
  · rcases get_set h with ⟨rfl, z⟩ | ⟨ne, z⟩
    · cases z; exact ⟨p, s, o, n, b⟩
    · exact f.ow j d' f' z o'
  · rcases get_set a1 with ⟨rfl, z1⟩ | ⟨ne1, z1⟩
    · rcases get_set a2 with ⟨rfl, z2⟩ | ⟨ne2, z2⟩
      · rfl
      · rw [s] at s1; cases s1; exact (dj k d2 f2 z2 o2 s2).elim
    · rcases get_set a2 with ⟨rfl, z2⟩ | ⟨ne2, z2⟩
      · rw [s] at s2; cases s2; exact (dj j d1 f1 z1 o1 s1).elim
      · exact f.dj j k d1 f1 d2 f2 p' z1 o1 z2 o2 s1 s2
  · rcases get_set h with ⟨rfl, z⟩ | ⟨ne, z⟩
    · cases z; exact ⟨_, s, hp o'⟩
    · exact f.pn j d' f' z o'
theorem back_sh {B : Hp} {fl : Fl} (f : Frm K vs0 B Hs H σ e) (s : σ[i]? = some (some v)) (r : Rp K Hs d v) (hp : fl.pin = true → vs0[i]? = some v) (ho : fl.own = false) : Frm K vs0 B Hs H σ (e.set i (some (d, fl))) := by
  refine ⟨by simpa using f.len, f.sb, f.bb, fun j d' f' h o' => ?_, fun j d' f' h o' => ?_, fun j k d1 f1 d2 f2 p' a1 o1 a2 o2 s1 s2 => ?_, fun j d' f' h o' => ?_⟩
  · rcases get_set h with ⟨rfl, z⟩ | ⟨ne, z⟩
    · cases z; exact ⟨v, s, r⟩
    · exact f.sh j d' f' z o'
  · rcases get_set h with ⟨rfl, z⟩ | ⟨ne, z⟩
    · cases z; rw [ho] at o'; cases o'
    · exact f.ow j d' f' z o'
  · rcases get_set a1 with ⟨rfl, z1⟩ | ⟨ne1, z1⟩
    · cases z1; rw [ho] at o1; cases o1
    · rcases get_set a2 with ⟨rfl, z2⟩ | ⟨ne2, z2⟩
      · cases z2; rw [ho] at o2; cases o2
      · exact f.dj j k d1 f1 d2 f2 p' z1 o1 z2 o2 s1 s2
  · rcases get_set h with ⟨rfl, z⟩ | ⟨ne, z⟩
    · cases z; exact ⟨_, s, hp o'⟩
    · exact f.pn j d' f' z o'
def FinAt (K : PySem.W.Frag) (Hs H B : Hp) (x : Slot) (v : V) : Prop := ∀ d f, x = some (d, f) → (f.own = true → ∃ p, v = .ref p ∧ OwnAt K Hs H d p ∧ Hs p = none ∧ B p = none) ∧ (f.own = false → Rp K Hs d v)
theorem backAll_ok {B : Hp} : ∀ {us : List Lent} {vs : List V} {fin e e3 : En}, Frm K vs0 B Hs H σ e → LentsOk vs0 σ e1 us vs → (∀ u ∈ us, NoSl u.1) → (ownAs (us.map (·.1)) vs).Nodup → (∀ (k : Nat) x v, fin[k]? = some x → vs[k]? = some v → FinAt K Hs H B x v) →
    (∀ (j : Nat) d' f' p, e[j]? = some (some (d', f')) → f'.own = true → σ[j]? = some (some (V.ref p)) → p ∉ ownAs (us.map (·.1)) vs) → backAll us fin e = some e3 → Frm K vs0 B Hs H σ e3
  | [], vs, fin, e, e3, f, lk, n, nd, fa, dj, q => by cases q; exact f
  | (t, none) :: us, vs, fin, e, e3, f, lk, n, nd, fa, dj, q => by
    obtain ⟨v, r, rfl, l1, l2⟩ := lk
    cases fin with
    | nil => cases q
    | cons x fin =>
      have nd : (ownA t v ++ ownAs (us.map (·.1)) r).Nodup := nd
      exact backAll_ok (us := us) (vs := r) (fin := fin) f l2 (fun u m => n u (List.mem_cons_of_mem _ m)) (List.nodup_append.mp nd).2.1 (fun k x v h1 h2 => fa (k + 1) x v (by simpa using h1) (by simpa using h2))
        (fun j d' f' p h1 h2 h3 m => dj j d' f' p h1 h2 h3 (List.mem_append_right _ m)) q
  | (t, some (i, fl)) :: us, vs, fin, e, e3, f, lk, n, nd, fa, dj, q => by
    obtain ⟨v, r, rfl, l1, l2⟩ := lk
    have nd : (ownA t v ++ ownAs (us.map (·.1)) r).Nodup := nd
    obtain ⟨na, nb, nc⟩ := List.nodup_append.mp nd
    obtain ⟨k1, k2, k3, ⟨d0, k4⟩, k5⟩ := l1 i fl rfl
    have k4 : t = .ow d0 := k4
    subst k4
    cases fin with
    | nil => cases q
    | cons x fin =>
      have fx := fa 0 x v rfl rfl
      have rest : ∀ {e' : En}, Frm K vs0 B Hs H σ e' → (∀ (j : Nat) d' f' p, e'[j]? = some (some (d', f')) → f'.own = true → σ[j]? = some (some (V.ref p)) → p ∉ ownAs (us.map (·.1)) r) → backAll us fin e' = some e3 → Frm K vs0 B Hs H σ e3 := fun {e'} f' dj' q' =>
        backAll_ok (us := us) (vs := r) (fin := fin) f' l2 (fun u m => n u (List.mem_cons_of_mem _ m)) nb (fun k x v h1 h2 => fa (k + 1) x v (by simpa using h1) (by simpa using h2)) dj' q'
      have djr : ∀ {y : D × Fl} {e' : En}, e' = e.set i (some y) → (∀ p, y.2.own = true → σ[i]? = some (some (V.ref p)) → p ∉ ownAs (us.map (·.1)) r) → ∀ (j : Nat) d' f' p, e'[j]? = some (some (d', f')) → f'.own = true → σ[j]? = some (some (V.ref p)) → p ∉ ownAs (us.map (·.1)) r := by
        intro y e' he hy j d' f' p h1 h2 h3
        subst he
        rcases get_set h1 with ⟨rfl, z⟩ | ⟨ne, z⟩
        · cases z; exact hy p h2 h3
        · exact fun m => dj j d' f' p z h2 h3 (List.mem_append_right _ m)
      cases x with
      | none => cases q
      | some x =>
        obtain ⟨d, fx'⟩ := x
        cases fx' with
        | sh => cases q
        | mv => cases q
        | lt =>
          have q : (if i < e.length then backAll us fin (e.set i (some (d, fl))) else none) = some e3 := q
          split at q
          · rename_i hi
            obtain ⟨p, rfl, w1, w2, w3⟩ := (fx d .lt rfl).1 rfl
            have mp : p ∈ ownA (.ow d0) (.ref p) := List.mem_singleton.mpr rfl
            refine rest (back_own f k2 w1 w2 w3 (fun j d' f' h1 h2 h3 => dj j d' f' p h1 h2 h3 (List.mem_append_left _ mp)) k3 k1 hi) (djr rfl fun p' o' s' m => ?_) q
            rw [k2] at s'
            cases s'
            exact nc p mp p m rfl
          · cases q
        | ls =>
          have q : (if i < e.length then backAll us fin (e.set i (some (d, fl.leak))) else none) = some e3 := q
          split at q
          · rename_i hi
            refine rest (back_sh f k2 ((fx d .ls rfl).2 rfl) (by rw [Fl.leak_pin]; exact k3) (Fl.leak_own fl)) (djr rfl fun p' o' s' m => ?_) q
            have o' : fl.leak.own = true := o'
            rw [Fl.leak_own] at o'
            cases o'
          · cases q
theorem call_fin {F : Fn} {ts : List Tm} {vs : List V} {Q : VK} (t : Tmps K vs0 Bk Hs H σ e ts vs) (h : PostE K mg W vs0 Bk Hs σ Q (sCallT F ts e)) : spD K mg F vs H Q (fun c dx H' => W c dx σ H') := by
  unfold sCallT at h
  split at h
  · exact h.elim
  · rename_i us e1 q
    have hw := t.r.own
    obtain ⟨L, ⟨s1, b1⟩, f1, n1, r1, lk, w1, d1, nd, g1, z1⟩ := outAll_ok t.f t.r (fun _ m => m) (fun a m => (hw a m).1) t.n q
    have fb : Same Bk H := t.frm.bb
    have cf := callee_frm (l := ownAs (us.map (·.1)) vs) t.f.sb r1 n1 nd fun _ m => m
    have hlen : (us.map argOf).length = vs.length := by
      have := cf.len
      have len : ∀ {us : List Lent} {vs : List V}, RpTs K Bk Hs H σ (us.map (·.1)) vs → us.length = vs.length := by
        intro us
        induction us with
        | nil => intro vs h; have h : vs = [] := h; subst h; rfl
        | cons u us ih =>
          intro vs h
          obtain ⟨v, r, rfl, _, h2⟩ := h
          simp [ih h2]
      rw [List.length_map]
      exact len r1
    refine ⟨_, Hs, us.map argOf, hlen, cf, ?_⟩
    unfold sCallU at h
    have gr : ∀ {Hs' : Hp}, Grow (less H (ownAs (us.map (·.1)) vs)) Hs Hs' → Grow Bk Hs Hs' := fun {Hs'} g => ⟨g.1, fun a z n => by
      have := g.2 a z n
      by_cases m : a ∈ ownAs (us.map (·.1)) vs
      · exact b1 a (w1 a m)
      · rw [less_not m] at this; exact Same.none fb this⟩
    have fin_of : ∀ {Hs' H' : Hp} {M : List Addr} {fin : En}, Frm K vs (ext (less H (ownAs (us.map (·.1)) vs)) H' M) Hs' H' (vs.map some) fin → (∀ a ∈ M, ∃ o, H' a = some o) →
        ∀ (k : Nat) x v, fin[k]? = some x → vs[k]? = some v → FinAt K Hs' H' (ext Bk H' M) x v := by
      intro Hs' H' M fin ff hM k x v h1 h2 d f e
      subst e
      have sv : ∀ {y : V}, (vs.map some)[k]? = some (some y) → y = v := fun {y} z => by
        rw [List.getElem?_map, h2] at z
        simpa using z.symm
      refine ⟨fun o => ?_, fun o => ?_⟩
      · obtain ⟨p, k1, k2, k3, k4⟩ := ff.ow k d f h1 o
        have := sv k1
        subst this
        refine ⟨p, rfl, k2, k3, ?_⟩
        have nM : p ∉ M := fun m => by
          rw [ext_mem m] at k4
          obtain ⟨o, ho⟩ := k2.some
          rw [ho] at k4
          cases k4
        rw [ext_not nM] at k4 ⊢
        by_cases m : p ∈ ownAs (us.map (·.1)) vs
        · exact b1 p (w1 p m)
        · rw [less_not m] at k4; exact Same.none fb k4
      · obtain ⟨y, k1, k2⟩ := ff.sh k d f h1 o
        have := sv k1
        subst this
        exact k2
    have dj_of : ∀ (j : Nat) d' f' p, e1[j]? = some (some (d', f')) → f'.own = true → σ[j]? = some (some (V.ref p)) → p ∉ ownAs (us.map (·.1)) vs := fun j d' f' p h1 h2 h3 m => by
      obtain ⟨p', k1, k2, k3, k4⟩ := f1.ow j d' f' h1 h2
      rw [h3] at k1
      cases k1
      rw [ext_mem (w1 p m)] at k4
      obtain ⟨o, ho⟩ := k2.some
      rw [ho] at k4
      cases k4
    cases hF : F (us.map argOf) with
    | no => rw [hF] at h; exact h
    | ok t' fin =>
      rw [hF] at h
      have nsl : NoSl t' := by
        cases t' with
        | im d => trivial
        | ow d => trivial
        | sl i => exact h.elim
      have h : PostE K mg W vs0 Bk Hs σ Q (match backAll us fin e1 with
        | none => .no
        | some e' => .ok t' e') := by
        cases t' with
        | im d => exact h
        | ow d => exact h
        | sl i => exact nsl.elim
      split at h
      · exact h.elim
      · rename_i e3 q3
        refine ⟨nsl, fun v Hs' H' g tm => ?_⟩
        have own' := tm.2.own
        have sbc : Same (less H (ownAs (us.map (·.1)) vs)) H' := (ext_same fun a m => (own' a m).1).trans tm.1.bb
        have hM : ∀ a ∈ ownA t' v, a ∈ ownAs (us.map (·.1)) vs ∨ H a = none := fun a m => by
          have z := (own' a m).1
          by_cases m' : a ∈ ownAs (us.map (·.1)) vs
          · exact .inl m'
          · rw [less_not m'] at z; exact .inr z
        have f2 := after_frm (M := ownA t' v) f1 b1 w1 g sbc tm.1.sb hM
        have f3 := backAll_ok (e1 := e1) f2 lk n1 nd (fin_of tm.1 fun a m => (own' a m).2.2) dj_of q3
        refine h v Hs' H' (gr g) ⟨f3, ?_⟩
        cases t' with
        | im d => exact tm.2
        | sl i => exact nsl.elim
        | ow d =>
          obtain ⟨p, rfl, k1, k2, k3⟩ := tm.2
          refine ⟨p, rfl, k1, k2, ?_⟩
          by_cases m : p ∈ ownAs (us.map (·.1)) vs
          · exact b1 p (w1 p m)
          · rw [less_not m] at k3; exact Same.none fb k3
    | ex x fin =>
      rw [hF] at h
      dsimp only at h
      split at h
      · exact h.elim
      · rename_i e3 q3
        intro c dx Hs' H' g fr rx
        have f2 := after_frm (M := []) f1 b1 w1 g fr.bb fr.sb (fun a m => nomatch m)
        have fr' : Frm K vs (ext (less H (ownAs (us.map (·.1)) vs)) H' []) Hs' H' (vs.map some) fin := by rw [ext_nil]; exact fr
        have f3 := backAll_ok (e1 := e1) f2 lk n1 nd (fin_of fr' fun a m => nomatch m) dj_of q3
        rw [ext_nil] at f3
        exact h c dx Hs' H' (gr g) f3 rx
end
end L2.Py
set_option maxRecDepth 100000
namespace L2.Py
open PySem PySem.Spec PyProof.Rows
section
variable {X : Cx} {W : WX} {a b c e : Expr} {es : List Expr} {fa fb : Sem} {fc : SemB} {fl : SemL} {pos p : Pos} {k : Nat} {f : Addr} {fd : FuncData} {ps : List Str} {F : Fn} {x : Str}
theorem ran {pins : List (Addr × Obj)} {σ : St} {H : Hp} {s : Shared} {Q : VK} {args : Args} {us : List Value} {vs : List V} {sp : Sp} (G : FnG X.prog X.w X.K X.mg X.base k f fd ps sp) (hr : Room k X.A) (hd : X.A.guards = some []) (tk : Takes X W)
    (I : Inv X pins σ H s) (bnd : BindsTo s fd args (ps.zip us)) (rel : Vals vs us) (h : sp vs H Q (fun c dx H' => W c dx σ H')) : codeAny (model X.prog X.w) X.A (.call (.ref f) args) (fun r s' => match r with
      | .ok (.ret u) => EP X pins σ Q u s'
      | .ok _ => False
      | .error x => X.xe x s') s := by
  refine codeAny_mono (G.go X.A X.stack s H args us vs Q _ hr hd I.env0 bnd rel h) ?_
  intro r s' q
  match r, q with
  | .ok (.ret u), q => exact I.after q
  | .error x, q => exact passAt tk σ pins H s x s' I q
  | .ok .next, q => exact q
  | .ok .brk, q => exact q
  | .ok .cont, q => exact q
def tCallW (sp : Sp) (W : WX) (t : TA) : TE := fun σ H Q => t σ H fun vs H1 => sp vs H1 Q (fun c dx H' => W c dx σ H')
theorem je_call (G : FnG X.prog X.w X.K X.mg X.base k f fd ps (spD X.K X.mg F)) (hr : Room k X.A) (hd : X.A.guards = some []) (hg : Gl X x) (hm : X.mg x = some (.ref f)) (hk : PySem.W.keepIn X.K (.ref f) = true) (hb : Binds X.K fd ps []) (tk : Takes X W)
    (ha : JA X W (e :: es) fl) (hdb : (x == ("__debug__" : Str)) = false := by decide) (he : starEach (e :: es) X.env = (false, eval e X.env) :: starEach es X.env := by rfl) (hpl : (backTo pos (starEach es X.env)).any (·.1) = false := by rfl) :
    JE X W (.Call (.Name x p) (e :: es) [] pos) (sCall F fl) := by
  have raw : PE X (.Call (.Name x p) (e :: es) [] pos) (tCallW (spD X.K X.mg F) W (TL' X.K X.mg W fl)) := by
    constructor
    intro pins s σ H Q I h
    apply wpAny_Call_Name_kw (ld_glob I hg hm ?_ hdb)
    apply PySem.W.callWith_K (h₀ := X.base) I.ok.mod.kin hk _ he hpl
    refine thn (ha.run pos pins s σ H _ I h) ?_
    rintro us s1 ⟨vs, H1, I1, rel, q⟩
    have hl : us.length = ps.length := rel.length.symm.trans (G.len _ _ _ _ q)
    have bnd := hb s1 us I1.kIn (by rw [List.append_nil]; exact hl)
    rw [List.append_nil] at bnd
    exact ⟨I1.kIn, wpAny_call (codeAny_mono (ran G hr hd tk I1 bnd rel q) fun r s' z => by
      match r, z with
      | .ok (.ret u), z => exact z
      | .error x, z => exact z
      | .ok .next, z => exact z
      | .ok .brk, z => exact z
      | .ok .cont, z => exact z)⟩
  refine PE_imp raw fun σ H Q ⟨vs0, Bk, Hs, en, fr, h⟩ => ?_
  refine ⟨vs0, Bk, Hs, en, fr, ?_⟩
  unfold sCall at h
  cases q : fl en with
  | no => rw [q] at h; exact h
  | ex x e1 => rw [q] at h; exact h
  | ok ts e1 => rw [q] at h; exact fun vs Hs1 H1 g1 t1 => call_fin t1 (PostE.grow h g1)
def rawT (K : PySem.W.Frag) (mg : Str → Option Value) (W : WX) : List Sem → TA
  | [] => tNil
  | f :: fs => tCons (TI' K mg W f) (rawT K mg W fs)
def sList : List Sem → SemL
  | [] => sNil
  | f :: fs => sCons f (sList fs)
def pick {α : Type} (pm : List Nat) (l : List α) : List α := pm.filterMap fun i => l[i]?
theorem pick_vals {pm : List Nat} {vs : List V} {us : List Value} (h : Vals vs us) : Vals (pick pm vs) (pick pm us) := by
  induction pm with
  | nil => exact .nil
  | cons i pm ih =>
    unfold pick
    rw [List.filterMap_cons, List.filterMap_cons]
    cases q : vs[i]? with
    | none => rw [h.none_of q]; exact ih
    | some v =>
      obtain ⟨u, h1, h2⟩ := h.get q
      rw [h1]
      exact .cons h2 ih
def KwB (K : PySem.W.Frag) (fd : FuncData) (ps : List Str) (n : Nat) (ks : List Str) (pm : List Nat) : Prop :=
  ∀ (s : Shared) (us ws : List Value), us.length = n → ws.length = ks.length → BindsTo s fd ⟨us, ks.zip ws⟩ (ps.zip (pick pm (us ++ ws)))
theorem par_nil : PA X [] (rawT X.K X.mg W []) := pa_nil
theorem par_cons {fs : List Sem} (ha : JE X W a fa) (hr : PA X es (rawT X.K X.mg W fs)) (hs : starEach (a :: es) X.env = (false, eval a X.env) :: starEach es X.env := by rfl) : PA X (a :: es) (rawT X.K X.mg W (fa :: fs)) := pa_cons ha hr hs
theorem pkr_nil : PK X [] (rawT X.K X.mg W []) := pk_nil
theorem pkr_cons {fs : List Sem} {nm : Option Str} {kpos : Pos} {kws : List Keyword} (ha : JE X W a fa) (hr : PK X kws (rawT X.K X.mg W fs)) : PK X (⟨nm, a, kpos⟩ :: kws) (rawT X.K X.mg W (fa :: fs)) := pk_cons ha hr
theorem raw_split {K : PySem.W.Frag} {mg : Str → Option Value} {σ : St} : ∀ {fs gs : List Sem} {H : Hp} {Q : List V → Hp → Prop}, TL' K mg W (sList (fs ++ gs)) σ H Q → rawT K mg W fs σ H fun vs H1 => TL' K mg W (sList gs) σ H1 fun zs H2 => Q (vs ++ zs) H2
  | [], gs, H, Q, h => h
  | f :: fs, gs, H, Q, h => TI_imp (tl_cons (fl := sList (fs ++ gs)) h) fun v H1 h1 => raw_split (fs := fs) h1
theorem raw_of {K : PySem.W.Frag} {mg : Str → Option Value} {σ : St} : ∀ {fs : List Sem} {H : Hp} {Q : List V → Hp → Prop}, TL' K mg W (sList fs) σ H Q → rawT K mg W fs σ H Q
  | [], H, Q, h => tl_nil h
  | f :: fs, H, Q, h => TI_imp (tl_cons (fl := sList fs) h) fun v H1 h1 => raw_of (fs := fs) h1
theorem raw_imp {K : PySem.W.Frag} {mg : Str → Option Value} {σ : St} : ∀ {fs : List Sem} {H : Hp} {Q Q' : List V → Hp → Prop}, rawT K mg W fs σ H Q → (∀ v H', Q v H' → Q' v H') → rawT K mg W fs σ H Q'
  | [], H, Q, Q', h, i => i _ _ h
  | f :: fs, H, Q, Q', h, i => TI_imp (show TI' K mg W f σ H (fun x H1 => rawT K mg W fs σ H1 fun xs H2 => Q (x :: xs) H2) from h) fun x H1 h1 => raw_imp (fs := fs) h1 fun xs H2 => i _ _
theorem raw_len {K : PySem.W.Frag} {mg : Str → Option Value} {σ : St} : ∀ {fs : List Sem} {H : Hp} {Q : List V → Hp → Prop}, rawT K mg W fs σ H (fun vs H1 => vs.length = fs.length → Q vs H1) → rawT K mg W fs σ H Q
  | [], H, Q, h => h rfl
  | f :: fs, H, Q, h => TI_imp (show TI' K mg W f σ H (fun x H1 => rawT K mg W fs σ H1 fun xs H2 => (x :: xs).length = (f :: fs).length → Q (x :: xs) H2) from h) fun x H1 h1 => by
    refine raw_len (fs := fs) (raw_imp h1 fun xs H2 q l => q (by simp [l]))
def tCallKW (sp : Sp) (W : WX) (pm : List Nat) (n m : Nat) (t tk : TA) : TE := fun σ H Q => t σ H fun vs H1 => tk σ H1 fun zs H2 => vs.length = n ∧ zs.length = m ∧ sp (pick pm (vs ++ zs)) H2 Q (fun c dx H' => W c dx σ H')
def sPick (pm : List Nat) (f : SemL) : SemL := fun e => match f e with
  | .no => .no
  | .ex x e1 => .ex x e1
  | .ok ts e1 => if pm.length = ts.length ∧ pm.Nodup then .ok (pick pm ts) e1 else .no
def sCallK (F : Fn) (pm : List Nat) (fs : List Sem) : Sem := sCall F (sPick pm (sList fs))
end
def whileN (c : SemB) (b : SemS) : Nat → SemS
  | 0, _ => .no
  | n + 1, e => match c e with
    | .no => .no
    | .ex x e1 => .ex x e1
    | .ok false e1 => .nx e1
    | .ok true e1 => match b e1 with
      | .nx e2 => whileN c b n e2
      | .ct e2 => whileN c b n e2
      | .bk e2 => .nx e2
      | r => r
def wfuel : Nat := 1000000
def sWhile (c : SemB) (b : SemS) : SemS := whileN c b wfuel
section
variable {X : Cx} {W : WX} {c : Expr} {body : List Stmt} {fc : SemB} {fb : SemS} {pos : Pos}
theorem js_while (hp : PassesOwn (model X.prog X.w) X.A X.env X.xe) (hc : JB X W c fc) (hb : JSs X W body fb) : JS X W (.While c body [] pos) (sWhile fc fb) := PS_imp (ps_while hp hc hb) fun D σ H ⟨vs0, Bk, Hs, en, fr, h⟩ => by
  refine ⟨fun m σ' H' => ∃ Hs' e', Frm X.K vs0 Bk Hs' H' σ' e' ∧ PostS X.K X.mg W vs0 Bk Hs' D (whileN fc fb m e'), ⟨wfuel, Hs, en, fr, h⟩, ?_⟩
  rintro m σ1 H1 ⟨Hs1, e1, f1, h1⟩
  refine ⟨vs0, Bk, Hs1, e1, f1, ?_⟩
  cases m with
  | zero => exact h1.elim
  | succ m =>
    unfold whileN at h1
    cases q : fc e1 with
    | no => rw [q] at h1; exact h1
    | ex x e2 => rw [q] at h1; exact fun c dx Hs2 H2 g2 f2 r => h1 c dx σ1 Hs2 H2 g2 f2 r
    | ok t e2 =>
      rw [q] at h1
      intro Hs2 H2 g2 f2
      cases t with
      | false => exact h1 σ1 Hs2 H2 g2 f2
      | true =>
        refine ⟨fun σ' H' => ∃ Hs' e', Frm X.K vs0 Bk Hs' H' σ' e' ∧ PostS X.K X.mg W vs0 Bk Hs' D (whileN fc fb m e'), fun σ' H' n => ⟨m, Nat.lt_succ_self m, n⟩, vs0, Bk, Hs2, e2, f2, ?_⟩
        dsimp only at h1
        cases q2 : fb e2 with
        | no => rw [q2] at h1; exact h1
        | nx e3 => rw [q2] at h1; exact fun σ3 Hs3 H3 g3 f3 => ⟨Hs3, e3, f3, PostS.grow h1 (g2.trans g3)⟩
        | ct e3 => rw [q2] at h1; exact fun σ3 Hs3 H3 g3 f3 => ⟨Hs3, e3, f3, PostS.grow h1 (g2.trans g3)⟩
        | bk e3 => rw [q2] at h1; exact fun σ3 Hs3 H3 g3 f3 => h1 σ3 Hs3 H3 (g2.trans g3) f3
        | rt t e3 => rw [q2] at h1; exact ⟨h1.1, fun v σ3 Hs3 H3 g3 t3 => h1.2 v σ3 Hs3 H3 (g2.trans g3) t3⟩
        | ex x e3 => rw [q2] at h1; exact fun c dx σ3 Hs3 H3 g3 f3 r => h1 c dx σ3 Hs3 H3 (g2.trans g3) f3 r
end
abbrev G := Tm → En → Option En
def Off (L : List Nat) (σ σ' : St) : Prop := σ'.length = σ.length ∧ ∀ j : Nat, j ∉ L → σ'[j]? = σ[j]?
theorem Off.refl {L : List Nat} {σ : St} : Off L σ σ := ⟨rfl, fun _ _ => rfl⟩
theorem Off.trans {L M : List Nat} {σ σ' σ'' : St} (a : Off L σ σ') (b : Off M σ' σ'') : Off (L ++ M) σ σ'' :=
  ⟨b.1.trans a.1, fun j h => (b.2 j fun m => h (List.mem_append_right _ m)).trans (a.2 j fun m => h (List.mem_append_left _ m))⟩
section
variable (K : PySem.W.Frag)
def PostG (L : List Nat) (σ : St) (vs0 : List V) (Bk Hs : Hp) (Q : St → Hp → Prop) : Option En → Prop
  | none => False
  | some e' => ∀ σ' Hs' H', Off L σ σ' → Grow Bk Hs Hs' → Frm K vs0 Bk Hs' H' σ' e' → Q σ' H'
def TGt (L : List Nat) (g : G) : TG := fun v σ H Q => ∃ vs0 Bk Hs e t, Tmp K vs0 Bk Hs H σ e t v ∧ NoSl t ∧ PostG K L σ vs0 Bk Hs Q (g t e)
def TGts (L : List Nat) (g : List D → En → Option En) : TGs := fun vs σ H Q => ∃ vs0 Bk Hs e ds, Frm K vs0 Bk Hs H σ e ∧ Rps K Hs ds vs ∧ PostG K L σ vs0 Bk Hs Q (g ds e)
end
abbrev JG (X : Cx) (tg : Expr) (L : List Nat) (g : G) : Prop := PG X tg (TGt X.K L g)
abbrev JGs (X : Cx) (tg : List Expr) (L : List Nat) (g : List D → En → Option En) : Prop := PGs X tg (TGts X.K L g)
theorem PG_imp {X : Cx} {e : Expr} {t t' : TG} (h : PG X e t) (i : ∀ v σ H Q, t' v σ H Q → t v σ H Q) : PG X e t' := ⟨fun pins s σ H v u Q I r q => h.run pins s σ H v u Q I r (i v σ H Q q)⟩
theorem PGs_imp {X : Cx} {e : List Expr} {t t' : TGs} (h : PGs X e t) (i : ∀ v σ H Q, t' v σ H Q → t v σ H Q) : PGs X e t' := ⟨fun pins s σ H v u Q I r q => h.run pins s σ H v u Q I r (i v σ H Q q)⟩
def gN (i : Nat) : G := fun t e => storeT i t e
def gsNil : List D → En → Option En
  | [], e => some e
  | _ :: _, _ => none
def gsCons (g : G) (gs : List D → En → Option En) : List D → En → Option En
  | [], _ => none
  | d :: ds, e => match g (.im d) e with
    | none => none
    | some e1 => gs ds e1
def gT (gs : List D → En → Option En) : G := fun t e => match t with
  | .im (.tup ds) => gs ds e
  | _ => none
section
variable {X : Cx} {W : WX} {ex : Expr} {tg : Expr} {tgs : List Expr} {L M : List Nat} {g : G} {gs : List D → En → Option En} {fe : Sem} {pos : Pos}
theorem PostG.grow {K : PySem.W.Frag} {L : List Nat} {σ : St} {vs0 : List V} {Bk Hs Hs' : Hp} {Q : St → Hp → Prop} {r : Option En} (h : PostG K L σ vs0 Bk Hs Q r) (g : Grow Bk Hs Hs') : PostG K L σ vs0 Bk Hs' Q r := by
  cases r with
  | none => exact h
  | some e => exact fun σ1 Hs1 H1 o1 g1 => h σ1 Hs1 H1 o1 (g.trans g1)
theorem jg_name {i : Nat} {x : Str} (hN : X.N.Nodup) (hi : X.N[i]? = some x) (hx : Loc X.env.scope x) (hf : X.fn x = true ∨ X.env.scope.names.lookup x = some .local := by first | exact .inl rfl | exact .inr rfl | assumption) : JG X (.Name x pos) [i] (gN i) :=
  PG_imp (pg_name hN hi hx hf) fun v σ H Q ⟨vs0, Bk, Hs, e, t, tm, n, h⟩ => by
    have h : PostG X.K [i] σ vs0 Bk Hs Q (storeT i t e) := h
    show Q (σ.set i (some v)) H
    cases q : storeT i t e with
    | none => rw [q] at h; exact h.elim
    | some e3 =>
      rw [q] at h
      have f3 : Frm X.K vs0 (ext Bk H (ownA t v ++ [])) Hs H σ e := by rw [List.append_nil]; exact tm.1
      have f4 := store_ok1 f3 tm.2 (fun _ _ z => nomatch z) q
      rw [ext_nil] at f4
      exact h _ Hs H ⟨by simp, fun j m => List.getElem?_set_ne fun z => m (by simp [z])⟩ .refl f4
theorem jgs_nil : JGs X [] [] gsNil := PGs_imp pgs_nil fun vs σ H Q ⟨vs0, Bk, Hs, e, ds, f, r, h⟩ => by
  cases ds with
  | nil =>
    have r : vs = [] := r
    exact ⟨r, h σ Hs H .refl .refl f⟩
  | cons d ds => exact h.elim
theorem jgs_cons (h1 : JG X tg L g) (h2 : JGs X tgs M gs) (hs : (assignEach (tg :: tgs) X.env).map (·.2) = assign tg X.env :: (assignEach tgs X.env).map (·.2) := by rfl) : JGs X (tg :: tgs) (L ++ M) (gsCons g gs) :=
  PGs_imp (pgs_cons h1 h2 hs) fun vs σ H Q ⟨vs0, Bk, Hs, e, ds, f, r, h⟩ => by
    cases ds with
    | nil => exact h.elim
    | cons d ds =>
      obtain ⟨v, r', rfl, r1, r2⟩ := r
      refine ⟨v, r', rfl, vs0, Bk, Hs, e, .im d, tmp_im f r1, trivial, ?_⟩
      have h : PostG X.K (L ++ M) σ vs0 Bk Hs Q (match g (.im d) e with
        | none => none
        | some e1 => gs ds e1) := h
      cases q : g (.im d) e with
      | none => rw [q] at h; exact h.elim
      | some e1 =>
        rw [q] at h
        intro σ1 Hs1 H1 o1 g1 f1
        refine ⟨vs0, Bk, Hs1, e1, ds, f1, Rps.mono g1.1 _ _ r2, ?_⟩
        dsimp only at h
        cases q2 : gs ds e1 with
        | none => rw [q2] at h; exact h
        | some e2 => rw [q2] at h; exact fun σ2 Hs2 H2 o2 g2 f2 => h σ2 Hs2 H2 (o1.trans o2) (g1.trans g2) f2
theorem jg_tup {k n : Nat} (hc : X.calm = true) (h : JGs X tgs L gs) (hn : (assignEach tgs X.env).length = n := by rfl) (hst : (assignEach tgs X.env).findIdx? (·.1) = none := by rfl) (hgl : ∀ ds e, gs ds e ≠ none → ds.length = n) : JG X (.Tuple tgs k pos) L (gT gs) :=
  PG_imp (pg_tup hc h hn hst) fun v σ H Q ⟨vs0, Bk, Hs, e, t, tm, nsl, h⟩ => by
    unfold gT at h
    split at h
    · rename_i ds
      obtain ⟨a, xs, rfl, h1, h2⟩ := tm.2
      have hl : ds.length = n := hgl ds e fun z => by rw [z] at h; exact h
      exact ⟨a, xs, rfl, Same.sqt tm.1.sb h1, by rw [← rps_len h2]; exact hl, vs0, Bk, Hs, e, ds, tm.frm, h2, h⟩
    · exact h.elim
def sAsg (g : G) (f : Sem) : SemS := fun e => match f e with
  | .no => .no
  | .ex x e1 => .ex x e1
  | .ok t e1 => match takeT t e1 with
    | none => .no
    | some (t', e2) => match g t' e2 with
      | none => .no
      | some e3 => .nx e3
theorem take_tmp {K : PySem.W.Frag} {vs0 : List V} {Bk Hs H : Hp} {σ : St} {e e' : En} {t t' : Tm} {v : V} (tm : Tmp K vs0 Bk Hs H σ e t v) (q : takeT t e = some (t', e')) : ∃ Hs', Grow Bk Hs Hs' ∧ Tmp K vs0 Bk Hs' H σ e' t' v ∧ NoSl t' := by
  obtain ⟨Hs2, g2, f2, ⟨n2, o2⟩, r2⟩ := take_ok tm.1 tm.2 q
  exact ⟨Hs2, g2.weak (ext_same fun a m => (tm.2.own a m).1), ⟨by rw [o2]; exact f2, r2 fun _ m => m⟩, n2⟩
theorem js_asg (he : JE X W ex fe) (hg : JG X tg L g) (hs : swapsWithSole [tg] ex pos.line X.env = pure false := by rfl) (hw : swappedStores [tg] ex X.env = pure none := by rfl)
    (h1 : (assignEach [tg] X.env).map (·.2) = [assign tg X.env] := by rfl) : JS X W (.Assign [tg] ex pos) (sAsg g fe) := PS_imp (ps_asg he hg hs hw h1) fun D σ H ⟨vs0, Bk, Hs, e, fr, h⟩ => by
  refine ⟨vs0, Bk, Hs, e, fr, ?_⟩
  unfold sAsg at h
  cases q : fe e with
  | no => rw [q] at h; exact h
  | ex x e1 => rw [q] at h; exact fun c dx Hs1 H1 g1 f1 r => h c dx σ Hs1 H1 g1 f1 r
  | ok t e1 =>
    rw [q] at h
    intro v Hs1 H1 g1 t1
    dsimp only at h
    split at h
    · exact h.elim
    · rename_i t' e2 q2
      obtain ⟨Hs2, g2, t2, n2⟩ := take_tmp t1 q2
      refine ⟨vs0, Bk, Hs2, e2, t', t2, n2, ?_⟩
      cases q3 : g t' e2 with
      | none => rw [q3] at h; exact h.elim
      | some e3 => rw [q3] at h; exact fun σ3 Hs3 H3 o3 g3 f3 => h σ3 Hs3 H3 ((g1.trans g2).trans g3) f3
end
end L2.Py
set_option maxRecDepth 100000
namespace L2.Py
open PySem PySem.Spec PyProof.Rows
theorem gl_nil : ∀ ds e, gsNil ds e ≠ none → ds.length = 0 := fun ds e h => by
  cases ds with
  | nil => rfl
  | cons d ds => exact (h rfl).elim
theorem gl_cons {g : G} {gs : List D → En → Option En} {n : Nat} (i : ∀ ds e, gs ds e ≠ none → ds.length = n) : ∀ ds e, gsCons g gs ds e ≠ none → ds.length = n + 1 := fun ds e h => by
  cases ds with
  | nil => exact (h rfl).elim
  | cons d ds =>
    have h : (match g (.im d) e with
        | none => none
        | some e1 => gs ds e1) ≠ none := h
    split at h
    · exact (h rfl).elim
    · rw [List.length_cons, i _ _ h]
def ItOk (K : PySem.W.Frag) (J : It) (Hs0 : Hp) (ds : List D) : Prop := ∀ (Hs H : Hp), Same Hs0 Hs → Same Hs H → ∀ i : Nat,
  (∀ d, ds[i]? = some d → J.go i H ∧ ∀ x H', J.yld i H x H' → ∃ Hs', NewOut K Hs H (.im d) x Hs' H') ∧ (ds.length = i → J.stop i H)
abbrev SemI := En → R (List D)
section
variable (K : PySem.W.Frag) (mg : Str → Option Value) (W : WX)
def PostI (vs0 : List V) (Bk Hs : Hp) (σ : St) (Rr : It → Hp → Prop) : R (List D) → Prop
  | .no => False
  | .ok ds e' => ∀ J Hs' H', Grow Bk Hs Hs' → Frm K vs0 Bk Hs' H' σ e' → ItOk K J Hs' ds → Rr J H'
  | .ex x e' => ∀ c dx Hs' H', Grow Bk Hs Hs' → Frm K vs0 Bk Hs' H' σ e' → RpX K mg Hs' H' x c dx → W c dx σ H'
def TIt (f : SemI) : TI := fun σ H Rr => ∃ vs0 Bk Hs e, Frm K vs0 Bk Hs H σ e ∧ PostI K mg W vs0 Bk Hs σ Rr (f e)
end
abbrev JI (X : Cx) (W : WX) (tg iter : Expr) (f : SemI) : Prop := PI X tg iter (TIt X.K X.mg W f)
theorem PI_imp {X : Cx} {tg e : Expr} {t t' : TI} (h : PI X tg e t) (i : ∀ σ H Q, t' σ H Q → t σ H Q) : PI X tg e t' := ⟨fun pins s σ H Q I q => h.run pins s σ H Q I (i σ H Q q)⟩
theorem PI_or {X : Cx} {tg e : Expr} {t t' : TI} (h : PI X tg e t) (h' : PI X tg e t') : PI X tg e (fun σ H Q => t σ H Q ∨ t' σ H Q) := ⟨fun pins s σ H Q I q => q.elim (h.run pins s σ H Q I) (h'.run pins s σ H Q I)⟩
section
variable {K : PySem.W.Frag} {mg : Str → Option Value} {W : WX} {Hs Hs' H H' Bk : Hp} {d : D} {p : Addr} {vs0 : List V} {σ : St} {e e' : En}
theorem PostI.grow {Rr : It → Hp → Prop} {r : R (List D)} (h : PostI K mg W vs0 Bk Hs σ Rr r) (g : Grow Bk Hs Hs') : PostI K mg W vs0 Bk Hs' σ Rr r := by
  cases r with
  | no => exact h
  | ok t e' => exact fun J Hs1 H1 g1 => h J Hs1 H1 (g.trans g1)
  | ex x e' => exact fun c dx Hs1 H1 g1 => h c dx Hs1 H1 (g.trans g1)
theorem rps_get : ∀ {ds : List D} {xs : List V}, Rps K H ds xs → ∀ {i : Nat} {d : D}, ds[i]? = some d → ∃ x, xs[i]? = some x ∧ Rp K H d x
  | [], xs, h, i, d, q => by simp at q
  | d :: ds, xs, h, i, d', q => by
    obtain ⟨v, r, rfl, h1, h2⟩ := h
    cases i with
    | zero => simp only [List.getElem?_cons_zero, Option.some.injEq] at q; subst q; exact ⟨v, rfl, h1⟩
    | succ i => simp only [List.getElem?_cons_succ] at q ⊢; exact rps_get h2 q
theorem Tmp.share {t : Tm} {v : V} (h : Tmp K vs0 Bk Hs H σ e t v) (n : NoSl t) : ∃ Hs', Grow Bk Hs Hs' ∧ Frm K vs0 Bk Hs' H σ e ∧ Rp K Hs' (dOf t) v := by
  cases t with
  | sl i => exact n.elim
  | im d => exact ⟨Hs, .refl, h.frm, h.2⟩
  | ow d =>
    obtain ⟨g, f⟩ := h.1.share h.2.own
    have r : RpTs K Bk Hs H σ [.ow d] [v] := ⟨v, [], rfl, h.2, rfl⟩
    have w := rps_of (l := ownA (.ow d) v) g.1 r (fun t m => by cases List.mem_singleton.mp m; trivial) (fun a m => by
      have m : a ∈ ownA (.ow d) v ++ [] := m
      rw [List.append_nil] at m
      exact m)
    obtain ⟨v', r', e1, w1, _⟩ := w
    cases e1
    exact ⟨_, g, f, w1⟩
theorem it_list {a : Addr} {xs : List V} {ds : List D} (h : SqL K Hs a xs) (r : Rps K Hs ds xs) (inj : ∀ {H : Hp} {ys : List V}, Same Hs H → SqL K H a ys → ys = xs) : ItOk K (Itl K a) Hs ds := by
  intro Hs1 H1 s1 s2 i
  refine ⟨fun d q => ?_, fun q => have q := Nat.le_of_eq q; ?_⟩
  · obtain ⟨x, h1, h2⟩ := rps_get r q
    refine ⟨⟨xs, x, Same.seq s2 (Same.seq s1 h), h1⟩, fun y H' ⟨e1, e2⟩ => ?_⟩
    subst e1
    have := e2 xs (Same.seq s2 (Same.seq s1 h))
    rw [h1] at this
    cases this
    exact ⟨Hs1, new_imm s2 (Rp.mono s1 _ _ h2)⟩
  · exact ⟨xs, Same.seq s2 (Same.seq s1 h), by rw [← rps_len r]; exact q⟩
theorem it_list' {a : Addr} {xs : List V} {ds : List D} (h : SqL K Hs a xs) (r : Rps K Hs ds xs) : ItOk K (Itl K a) Hs ds := by
  intro Hs1 H1 s1 s2 i
  refine ⟨fun d q => ?_, fun q => have q := Nat.le_of_eq q; ?_⟩
  · obtain ⟨x, h1, h2⟩ := rps_get r q
    refine ⟨⟨xs, x, Same.seq s2 (Same.seq s1 h), h1⟩, fun y H' ⟨e1, e2⟩ => ?_⟩
    subst e1
    have := e2 xs (Same.seq s2 (Same.seq s1 h))
    rw [h1] at this
    cases this
    exact ⟨Hs1, new_imm s2 (Rp.mono s1 _ _ h2)⟩
  · exact ⟨xs, Same.seq s2 (Same.seq s1 h), by rw [← rps_len r]; exact q⟩
theorem it_tup {a : Addr} {xs : List V} {ds : List D} (h : SqT K Hs a xs) (r : Rps K Hs ds xs) : ItOk K (Itt K a) Hs ds := by
  intro Hs1 H1 s1 s2 i
  refine ⟨fun d q => ?_, fun q => have q := Nat.le_of_eq q; ?_⟩
  · obtain ⟨x, h1, h2⟩ := rps_get r q
    refine ⟨⟨xs, x, Same.sqt s2 (Same.sqt s1 h), h1⟩, fun y H' ⟨e1, e2⟩ => ?_⟩
    subst e1
    have := e2 xs (Same.sqt s2 (Same.sqt s1 h))
    rw [h1] at this
    cases this
    exact ⟨Hs1, new_imm s2 (Rp.mono s1 _ _ h2)⟩
  · exact ⟨xs, Same.sqt s2 (Same.sqt s1 h), by rw [← rps_len r]; exact q⟩
end
def sItS (f : Sem) : SemI := fun e => match f e with
  | .no => .no
  | .ex x e1 => .ex x e1
  | .ok t e1 => match takeT t e1 with
    | none => .no
    | some (t', e2) => match dOf t' with
      | .lst ds => .ok ds e2
      | .tup ds => .ok ds e2
      | _ => .no
def sRng (g : List D → Option (Int × Int × Int × Nat)) (f : SemL) : SemI := fun e => match f e with
  | .no => .no
  | .ex x e1 => .ex x e1
  | .ok ts e1 => match getAll e1 ts with
    | none => .no
    | some ds => match g ds with
      | none => .no
      | some (lo, hi, c, n) => .ok ((List.range n).map fun (i : Nat) => D.int (lo + i * c)) e1
def b62 (i : Int) : Bool := decide (-(2 ^ 62) ≤ i ∧ i < 2 ^ 62)
def rng1 : List D → Option (Int × Int × Int × Nat)
  | [.int j] => if b62 j then some (0, j, 1, j.toNat) else none
  | _ => none
def rng2 : List D → Option (Int × Int × Int × Nat)
  | [.int i, .int j] => if b62 i && b62 j then some (i, j, 1, (j - i).toNat) else none
  | _ => none
section
variable {X : Cx} {W : WX} {tg ex : Expr} {es : List Expr} {fe : Sem} {fl : SemL} {pos p : Pos}
theorem ji_seq (he : JE X W ex fe) : JI X W tg ex (sItS fe) := PI_imp (PI_or (pi_list he) (pi_tup he)) fun σ H Rr ⟨vs0, Bk, Hs, e, fr, h⟩ => by
  unfold sItS at h
  cases q : fe e with
  | no => rw [q] at h; exact h.elim
  | ex x e1 => rw [q] at h; exact .inl ⟨vs0, Bk, Hs, e, fr, by rw [q]; exact h⟩
  | ok t e1 =>
    rw [q] at h
    dsimp only at h
    split at h
    · exact h.elim
    · rename_i t' e2 q2
      split at h
      · rename_i ds hd
        refine .inl ⟨vs0, Bk, Hs, e, fr, ?_⟩
        rw [q]
        intro v Hs1 H1 g1 t1
        obtain ⟨Hs2, g2, t2, n2⟩ := take_tmp t1 q2
        obtain ⟨Hs3, g3, f3, r3⟩ := t2.share n2
        rw [hd] at r3
        obtain ⟨a, xs, rfl, h1, h2⟩ := r3
        exact ⟨a, rfl, ⟨xs, .inl (.inl (f3.sb _ _ h1))⟩, h _ Hs3 H1 ((g1.trans g2).trans g3) f3 (it_list' (.inl (.inl h1)) h2)⟩
      · rename_i ds hd
        refine .inr ⟨vs0, Bk, Hs, e, fr, ?_⟩
        rw [q]
        intro v Hs1 H1 g1 t1
        obtain ⟨Hs2, g2, t2, n2⟩ := take_tmp t1 q2
        obtain ⟨Hs3, g3, f3, r3⟩ := t2.share n2
        rw [hd] at r3
        obtain ⟨a, xs, rfl, h1, h2⟩ := r3
        exact ⟨a, rfl, ⟨xs, Same.sqt f3.sb h1⟩, h _ Hs3 H1 ((g1.trans g2).trans g3) f3 (it_tup h1 h2)⟩
      · exact h.elim
theorem range_get {n : Nat} {lo c : Int} {i : Nat} {d : D} (q : ((List.range n).map fun (i : Nat) => D.int (lo + i * c))[i]? = some d) : i < n ∧ d = .int (lo + i * c) := by
  rw [List.getElem?_map] at q
  by_cases h : i < n
  · rw [List.getElem?_range h] at q
    exact ⟨h, (Option.some.inj q).symm⟩
  · rw [List.getElem?_eq_none (by simpa using Nat.le_of_not_lt h)] at q
    cases q
theorem it_rng {K : PySem.W.Frag} {Hs : Hp} {lo : Int} {n : Nat} : ItOk K (Itr lo n) Hs ((List.range n).map fun (i : Nat) => D.int (lo + i * 1)) := by
  intro Hs1 H1 s1 s2 i
  refine ⟨fun d q => ?_, fun q => have q := Nat.le_of_eq q; ?_⟩
  · obtain ⟨h, rfl⟩ := range_get q
    refine ⟨h, fun y H' ⟨e1, e2⟩ => ?_⟩
    subst e1
    subst e2
    exact ⟨Hs1, new_imm s2 (by rw [Int.mul_one]; rfl)⟩
  · show n ≤ i
    simpa using q
theorem it_rngC {K : PySem.W.Frag} {Hs : Hp} {lo c : Int} {n : Nat} : ItOk K (Itc lo c n) Hs ((List.range n).map fun (i : Nat) => D.int (lo + i * c)) := by
  intro Hs1 H1 s1 s2 i
  refine ⟨fun d q => ?_, fun q => have q := Nat.le_of_eq q; ?_⟩
  · obtain ⟨h, rfl⟩ := range_get q
    refine ⟨h, fun y H' ⟨e1, e2⟩ => ?_⟩
    subst e1
    subst e2
    exact ⟨Hs1, new_imm s2 rfl⟩
  · show n ≤ i
    simpa using q
theorem rds_int1 {K : PySem.W.Frag} {Hs H : Hp} {j : Int} {vs : List V} (r : Rds K Hs H [.int j] vs) : vs = [.int j] := by
  obtain ⟨v, r, rfl, h1, rfl⟩ := r
  rcases h1 with h1 | ⟨p, _, h1⟩
  · cases h1; rfl
  · exact h1.elim
theorem rd1_int {K : PySem.W.Frag} {Hs H : Hp} {j : Int} {v : V} (h1 : Rd1 K Hs H (.int j) v) : v = .int j := by
  rcases h1 with h1 | ⟨p, _, h1⟩
  · exact h1
  · exact h1.elim
theorem b62_ok {i : Int} (h : b62 i = true) : -(2 ^ 62) ≤ i ∧ i < 2 ^ 62 := of_decide_eq_true h
theorem rng_fin {σ : St} {H : Hp} {Rr : It → Hp → Prop} {g : List D → Option (Int × Int × Int × Nat)} {Pv : List V → Hp → Prop} (h : TIt X.K X.mg W (sRng g fl) σ H Rr)
    (i : ∀ ds lo hi c n vs H1, g ds = some (lo, hi, c, n) → (∃ Hs, Rds X.K Hs H1 ds vs) → (∀ J, (∀ Hs, ItOk X.K J Hs ((List.range n).map fun (i : Nat) => D.int (lo + i * c))) → Rr J H1) → Pv vs H1) : TL' X.K X.mg W fl σ H Pv := by
  obtain ⟨vs0, Bk, Hs, e, fr, h⟩ := h
  refine ⟨vs0, Bk, Hs, e, fr, ?_⟩
  unfold sRng at h
  cases q : fl e with
  | no => rw [q] at h; exact h
  | ex x e1 => rw [q] at h; exact h
  | ok ts e1 =>
    rw [q] at h
    intro vs Hs1 H1 g1 t1
    dsimp only at h
    split at h
    · exact h.elim
    · rename_i ds hds
      split at h
      · exact h.elim
      · rename_i lo hi c n hg
        exact i ds lo hi c n vs H1 hg ⟨Hs1, t1.r.rds t1.f hds⟩ fun J hJ => h J Hs1 H1 g1 t1.frm (hJ Hs1)
theorem ji_range1 {a : Expr} (hg : Gl X "range") (hm : X.mg "range" = none) (ha : JA X W [a] fl) (hs : starEach [a] X.env = [(false, eval a X.env)] := by rfl) : JI X W tg (.Call (.Name "range" p) [a] [] pos) (sRng rng1 fl) :=
  PI_imp (pi_range1 hg hm ha hs) fun σ H Rr h => rng_fin h fun ds lo hi c n vs H1 hg ⟨Hs, hr⟩ k => by
    unfold rng1 at hg
    split at hg
    · split at hg
      · rename_i j hb
        cases hg
        obtain ⟨b1, b2⟩ := b62_ok hb
        exact ⟨_, rds_int1 hr, b1, b2, k _ fun Hs => it_rng⟩
      · cases hg
    · cases hg
theorem ji_range2 {a b : Expr} (hg : Gl X "range") (hm : X.mg "range" = none) (ha : JA X W [a, b] fl) (hs : starEach [a, b] X.env = [(false, eval a X.env), (false, eval b X.env)] := by rfl) (hs2 : starEach [b] X.env = [(false, eval b X.env)] := by rfl) : JI X W tg (.Call (.Name "range" p) [a, b] [] pos) (sRng rng2 fl) :=
  PI_imp (pi_range2 hg hm ha hs hs2) fun σ H Rr h => rng_fin h fun ds lo hi c n vs H1 hg ⟨Hs, hr⟩ k => by
    unfold rng2 at hg
    split at hg
    · split at hg
      · rename_i hb
        cases hg
        have hb : b62 lo = true ∧ b62 hi = true := by simpa using hb
        obtain ⟨v, r, rfl, h1, w, r', rfl, h2, rfl⟩ := hr
        cases rd1_int h1
        cases rd1_int h2
        obtain ⟨b1, b2⟩ := b62_ok hb.1
        obtain ⟨b3, b4⟩ := b62_ok hb.2
        exact ⟨lo, hi, rfl, ⟨b1, b2, b3, b4⟩, k _ fun Hs => it_rng⟩
      · cases hg
    · cases hg
def forN (g : G) (b : SemS) : List D → SemS
  | [], e => .nx e
  | d :: ds, e => match g (.im d) e with
    | none => .no
    | some e1 => match b e1 with
      | .nx e2 => forN g b ds e2
      | .ct e2 => forN g b ds e2
      | .bk e2 => .nx e2
      | r => r
def sFor (g : G) (it : SemI) (b : SemS) : SemS := fun e => match it e with
  | .no => .no
  | .ex x e1 => .ex x e1
  | .ok ds e1 => forN g b ds e1
theorem js_for {iter : Expr} {body : List Stmt} {fi : SemI} {L : List Nat} {g : G} {fb : SemS} (hp : PassesOwn (model X.prog X.w) X.A X.env X.xe) (hc : X.calm = true) (hi : JI X W tg iter fi) (hg : JG X tg L g) (hb : JSs X W body fb)
    (hs : ∀ x, foldedSetIterable iter X.env x = pure x := by intro _; rfl) : JS X W (.For tg iter body [] pos) (sFor g fi fb) := PS_imp (ps_for hp hc hi hg hb hs) fun D σ H ⟨vs0, Bk, Hs, e, fr, h⟩ => by
  refine ⟨vs0, Bk, Hs, e, fr, ?_⟩
  unfold sFor at h
  cases q : fi e with
  | no => rw [q] at h; exact h
  | ex x e1 => rw [q] at h; exact fun c dx Hs1 H1 g1 f1 r => h c dx σ Hs1 H1 g1 f1 r
  | ok ds e1 =>
    rw [q] at h
    intro J Hs1 H1 g1 f1 it
    have h : PostS X.K X.mg W vs0 Bk Hs1 D (forN g fb ds e1) := PostS.grow h g1
    refine ⟨fun i m σ' H' => m = ds.length - i ∧ i ≤ ds.length ∧ ∃ Hs' e', Grow Bk Hs1 Hs' ∧ Frm X.K vs0 Bk Hs' H' σ' e' ∧ PostS X.K X.mg W vs0 Bk Hs' D (forN g fb (ds.drop i) e'), ⟨ds.length, rfl, Nat.zero_le _, Hs1, e1, .refl, f1, h⟩, ?_⟩
    rintro i m σ2 H2 ⟨rfl, hi, Hs2, e2, g2, f2, h2⟩
    obtain ⟨k1, k2⟩ := it Hs2 H2 g2.1 f2.sb i
    by_cases hlt : i < ds.length
    · have hd : ds[i]? = some ds[i] := List.getElem?_eq_getElem hlt
      obtain ⟨w1, w2⟩ := k1 _ hd
      rw [List.drop_eq_getElem_cons hlt] at h2
      refine .inr ⟨w1, fun σ' H' => ∃ Hs' e', Grow Bk Hs1 Hs' ∧ Frm X.K vs0 Bk Hs' H' σ' e' ∧ PostS X.K X.mg W vs0 Bk Hs' D (forN g fb (ds.drop (i + 1)) e'), fun σ' H' n => ⟨ds.length - (i + 1), by omega, rfl, hlt, n⟩, fun x H3 y => ?_⟩
      obtain ⟨Hs3, n3⟩ := w2 x H3 y
      obtain ⟨t3, g3⟩ := n3.tmp f2 (.refl _)
      refine ⟨vs0, Bk, Hs3, e2, .im ds[i], t3, trivial, ?_⟩
      unfold forN at h2
      cases q3 : g (.im ds[i]) e2 with
      | none => rw [q3] at h2; exact h2.elim
      | some e3 =>
        rw [q3] at h2
        intro σ4 Hs4 H4 o4 g4 f4
        refine ⟨vs0, Bk, Hs4, e3, f4, ?_⟩
        dsimp only at h2
        have g24 := g3.trans g4
        cases q4 : fb e3 with
        | no => rw [q4] at h2; exact h2
        | nx e5 => rw [q4] at h2; exact fun σ5 Hs5 H5 g5 f5 => ⟨Hs5, e5, (g2.trans g24).trans g5, f5, PostS.grow h2 (g24.trans g5)⟩
        | ct e5 => rw [q4] at h2; exact fun σ5 Hs5 H5 g5 f5 => ⟨Hs5, e5, (g2.trans g24).trans g5, f5, PostS.grow h2 (g24.trans g5)⟩
        | bk e5 => rw [q4] at h2; exact fun σ5 Hs5 H5 g5 f5 => h2 σ5 Hs5 H5 (g24.trans g5) f5
        | rt t e5 => rw [q4] at h2; exact ⟨h2.1, fun v σ5 Hs5 H5 g5 t5 => h2.2 v σ5 Hs5 H5 (g24.trans g5) t5⟩
        | ex x e5 => rw [q4] at h2; exact fun c dx σ5 Hs5 H5 g5 f5 r => h2 c dx σ5 Hs5 H5 (g24.trans g5) f5 r
    · have ei : i = ds.length := by omega
      subst ei
      rw [List.drop_length] at h2
      exact .inl ⟨k2 rfl, h2 σ2 Hs2 H2 .refl f2⟩
end
end L2.Py
set_option maxRecDepth 100000
namespace L2.Py
open PySem PySem.Spec PyProof.Rows
def wipeE (e : En) : List Nat → En
  | [] => e
  | v :: vs => (wipeE e vs).set v none
def backE (e0 : En) (e : En) : List Nat → En
  | [] => e
  | v :: vs => match e0[v]? with
    | some x => (backE e0 e vs).set v x
    | none => backE e0 e vs
def noOwn (e : En) (vs : List Nat) : Bool := vs.all fun v => match e[v]? with
  | some (some (_, f)) => !f.own
  | _ => true
def lcN (vs : List Nat) (g : G) (c : SemB) (f : Sem) : List D → List D → En → R (List D)
  | [], acc, e => .ok acc e
  | d :: ds, acc, e => match g (.im d) e with
    | none => .no
    | some e1 => match c e1 with
      | .ok false e2 => lcN vs g c f ds acc (wipeE e2 vs)
      | .ok true e2 => match f e2 with
        | .ok t e3 => match takeT t e3 with
          | none => .no
          | some (t', e4) => if acc.length < line then lcN vs g c f ds (acc ++ [dOf t']) (wipeE e4 vs) else .no
        | _ => .no
      | _ => .no
def sLc (vs : List Nat) (g : G) (it : SemI) (c : SemB) (f : Sem) : Sem := fun e => match it e with
  | .no => .no
  | .ex x e1 => .ex x e1
  | .ok ds e1 => if noOwn e1 vs then match lcN vs g c f ds [] (wipeE e1 vs) with
      | .ok acc e2 => .ok (.ow (.lst acc)) (backE e1 e2 vs)
      | _ => .no
    else .no
def sYes : SemB := fun e => .ok true e
def NoX : WX := fun _ _ _ _ => False
section
variable {K : PySem.W.Frag} {mg : Str → Option Value} {W : WX} {Hs Hs' H H' Bk : Hp} {d : D} {p : Addr} {vs0 : List V} {σ : St} {e e' : En}
theorem wipeE_get : ∀ {vs : List Nat} {j : Nat} {x : D × Fl}, (wipeE e vs)[j]? = some (some x) → e[j]? = some (some x) ∧ j ∉ vs
  | [], j, x, h => ⟨h, by simp⟩
  | v :: vs, j, x, h => by
    unfold wipeE at h
    rcases get_set h with ⟨_, z⟩ | ⟨ne, z⟩
    · cases z
    · obtain ⟨a, b⟩ := wipeE_get z
      exact ⟨a, by simp [ne, b]⟩
theorem wipe_not : ∀ {vs : List Nat} {j : Nat}, j ∉ vs → (wipe σ vs)[j]? = σ[j]?
  | [], j, h => rfl
  | v :: vs, j, h => by
    unfold wipe
    rw [List.getElem?_set_ne (fun z => h (by simp [z]))]
    exact wipe_not fun m => h (List.mem_cons_of_mem _ m)
theorem wipe_mem : ∀ {vs : List Nat} {j : Nat}, j ∈ vs → (wipe σ vs)[j]? = if j < σ.length then some none else none
  | v :: vs, j, h => by
    unfold wipe
    by_cases z : j = v
    · subst z
      rw [List.getElem?_set]
      simp only [if_true, wipe_length]
    · rw [List.getElem?_set_ne (Ne.symm z)]
      rcases List.mem_cons.mp h with h | h
      · exact absurd h z
      · exact wipe_mem h
theorem wipe_off {L vs : List Nat} {σ' : St} (o : Off L (wipe σ vs) σ') (s : ∀ j ∈ L, j ∈ vs) : wipe σ' vs = wipe σ vs := by
  apply List.ext_getElem?
  intro j
  have hl : σ'.length = σ.length := by rw [o.1, wipe_length]
  by_cases m : j ∈ vs
  · rw [wipe_mem m, wipe_mem m, hl]
  · rw [wipe_not m, o.2 j fun q => m (s j q)]
theorem wipeE_len (vs : List Nat) : (wipeE e vs).length = e.length := by
  induction vs with
  | nil => rfl
  | cons v vs ih => unfold wipeE; rw [List.length_set, ih]
theorem Frm.wiped (f : Frm K vs0 Bk Hs H σ e) (vs : List Nat) : Frm K vs0 Bk Hs H (wipe σ vs) (wipeE e vs) := by
  have g : ∀ {j : Nat} {x : D × Fl}, (wipeE e vs)[j]? = some (some x) → e[j]? = some (some x) ∧ (wipe σ vs)[j]? = σ[j]? := fun {j x} h => by
    obtain ⟨a, b⟩ := wipeE_get h
    exact ⟨a, wipe_not b⟩
  refine ⟨by rw [wipeE_len, wipe_length]; exact f.len, f.sb, f.bb, fun j d fl h o => ?_, fun j d fl h o => ?_, fun j k d1 f1 d2 f2 p' a1 o1 a2 o2 s1 s2 => ?_, fun j d fl h o => ?_⟩
  · obtain ⟨h1, h2⟩ := g h; rw [h2]; exact f.sh j d fl h1 o
  · obtain ⟨h1, h2⟩ := g h; rw [h2]; exact f.ow j d fl h1 o
  · obtain ⟨h1, h2⟩ := g a1
    obtain ⟨h3, h4⟩ := g a2
    rw [h2] at s1
    rw [h4] at s2
    exact f.dj j k d1 f1 d2 f2 p' h1 o1 h3 o2 s1 s2
  · obtain ⟨h1, h2⟩ := g h; rw [h2]; exact f.pn j d fl h1 o
theorem backE_get {e0 : En} : ∀ {vs : List Nat} {j : Nat} {x : D × Fl}, (backE e0 e vs)[j]? = some (some x) → (j ∈ vs ∧ e0[j]? = some (some x)) ∨ e[j]? = some (some x)
  | [], j, x, h => .inr h
  | v :: vs, j, x, h => by
    unfold backE at h
    split at h
    · rename_i y hy
      rcases get_set h with ⟨rfl, z⟩ | ⟨ne, z⟩
      · subst z; exact .inl ⟨List.mem_cons_self, hy⟩
      · rcases backE_get z with ⟨a, b⟩ | a
        · exact .inl ⟨List.mem_cons_of_mem _ a, b⟩
        · exact .inr a
    · rcases backE_get h with ⟨a, b⟩ | a
      · exact .inl ⟨List.mem_cons_of_mem _ a, b⟩
      · exact .inr a
theorem backE_len {e0 : En} (vs : List Nat) : (backE e0 e vs).length = e.length := by
  induction vs with
  | nil => rfl
  | cons v vs ih =>
    unfold backE
    split
    · rw [List.length_set, ih]
    · exact ih
theorem Frm.back {e0 : En} {Hs0 H0 : Hp} {vs : List Nat} {Bk' : Hp} (f0 : Frm K vs0 Bk Hs0 H0 σ e0) (n : noOwn e0 vs = true) (f : Frm K vs0 Bk' Hs H (wipe σ vs) e) (s : Same Hs0 Hs) : Frm K vs0 Bk' Hs H σ (backE e0 e vs) := by
  have nw : ∀ {j : Nat} {d : D} {fl : Fl}, j ∈ vs → e0[j]? = some (some (d, fl)) → fl.own = false := fun {j d fl} m h => by
    have := List.all_eq_true.mp n j m
    rw [h] at this
    simpa using this
  have out : ∀ {j : Nat} {x : D × Fl}, (backE e0 e vs)[j]? = some (some x) → (e0[j]? = some (some x) ∧ x.2.own = false) ∨ (e[j]? = some (some x) ∧ j ∉ vs ∧ (wipe σ vs)[j]? = σ[j]?) := fun {j x} h => by
    obtain ⟨d, fl⟩ := x
    rcases backE_get h with ⟨a, b⟩ | a
    · exact .inl ⟨b, nw a b⟩
    · by_cases m : j ∈ vs
      · -- a slot of the block's own holds nothing
        exfalso
        have : ∃ v, (wipe σ vs)[j]? = some (some v) := by
          cases o : fl.own with
          | false => obtain ⟨v, h1, _⟩ := f.sh j d fl a o; exact ⟨v, h1⟩
          | true => obtain ⟨p, h1, _⟩ := f.ow j d fl a o; exact ⟨_, h1⟩
        obtain ⟨v, hv⟩ := this
        rw [wipe_mem m] at hv
        split at hv <;> cases hv
      · exact .inr ⟨a, m, wipe_not m⟩
  refine ⟨by rw [backE_len]; have := f.len; rw [wipe_length] at this; exact this, f.sb, f.bb, fun j d fl h o => ?_, fun j d fl h o => ?_, fun j k d1 f1 d2 f2 p' a1 o1 a2 o2 s1 s2 => ?_, fun j d fl h o => ?_⟩
  · rcases out h with ⟨a, _⟩ | ⟨a, _, b⟩
    · obtain ⟨v, h1, h2⟩ := f0.sh j d fl a o; exact ⟨v, h1, Rp.mono s _ _ h2⟩
    · rw [← b]; exact f.sh j d fl a o
  · rcases out h with ⟨_, b⟩ | ⟨a, _, b⟩
    · rw [o] at b; cases b
    · rw [← b]; exact f.ow j d fl a o
  · rcases out a1 with ⟨_, b⟩ | ⟨a, _, b⟩
    · rw [o1] at b; cases b
    · rcases out a2 with ⟨_, b2⟩ | ⟨a', _, b2⟩
      · rw [o2] at b2; cases b2
      · rw [← b] at s1; rw [← b2] at s2
        exact f.dj j k d1 f1 d2 f2 p' a o1 a' o2 s1 s2
  · rcases out h with ⟨a, _⟩ | ⟨a, _, b⟩
    · exact f0.pn j d fl a o
    · rw [← b]; exact f.pn j d fl a o
theorem rps_app : ∀ {ds : List D} {xs : List V} {d : D} {x : V}, Rps K H ds xs → Rp K H d x → Rps K H (ds ++ [d]) (xs ++ [x])
  | [], xs, d, x, h, r => by
    have h : xs = [] := h
    subst h
    exact ⟨x, [], rfl, r, rfl⟩
  | d' :: ds, xs, d, x, h, r => by
    obtain ⟨v, r', rfl, h1, h2⟩ := h
    exact ⟨v, r' ++ [x], rfl, h1, rps_app h2 r⟩
end
theorem ext_one {Bk H : Hp} {d : D} {p : Addr} {o : HO} (h : H p = some o) : ext Bk H (ownA (.ow d) (.ref p)) = upd Bk p o := by
  funext a
  have hm : ∀ a, a ∈ ownA (.ow d) (.ref p) ↔ a = p := fun a => List.mem_singleton
  by_cases z : a = p
  · rw [ext_mem ((hm a).mpr z), z, upd_same, h]
  · rw [ext_not fun m => z ((hm a).mp m), upd_ne z]
section
variable {X : Cx} {W : WX} {elt tg iter : Expr} {ifs : List Expr} {scope : Scope} {own : List (Str × Nat)} {pos : Pos} {fi : SemI} {L : List Nat} {g : G} {fc : SemB} {fe : Sem}
abbrev BlkJ (X : Cx) (scope : Scope) (J : Cx → Prop) : Prop := ∀ (s : Shared) (H : Hp) (C : Addr) (cl : List (Str × Addr)) (fp : List Addr), J (X.blk s H scope (compEnvC scope cl C X.env) fp)
abbrev JT (X : Cx) (ifs : List Expr) (f : SemB) : Prop := PTs X ifs (TB' X.K X.mg NoX f)
theorem jt_nil : JT X [] sYes := ⟨fun pins s σ H Q I ⟨vs0, Bk, Hs, e, f, h⟩ => pts_nil.run pins s σ H Q I (h Hs H .refl f)⟩
theorem jt_one {c : Expr} (h : JB X NoX c fc) : JT X [c] fc := pts_one h
theorem lc_fin {σ : St} {H : Hp} {Q : VK} (hL : ∀ j ∈ L, j ∈ own.map (·.2)) (h : TI' X.K X.mg W (sLc (own.map (·.2)) g fi fc fe) σ H Q) :
    tLc (TIt X.K X.mg W fi) (TGt X.K L g) (TB' X.K X.mg NoX fc) (TI' X.K X.mg NoX fe) (own.map (·.2)) σ H Q := by
  generalize hvs : own.map (·.2) = vs at h hL ⊢
  obtain ⟨vs0, Bk, Hs, e, fr, h⟩ := h
  refine ⟨vs0, Bk, Hs, e, fr, ?_⟩
  unfold sLc at h
  cases q : fi e with
  | no => rw [q] at h; exact h
  | ex x e1 => rw [q] at h; exact h
  | ok ds e1 =>
    rw [q] at h
    intro J Hs1 H1 g1 f1 it
    dsimp only at h
    split at h
    · rename_i hno
      split at h
      · rename_i accF e2 hlc
        intro Dp hD
        have hsD : Hs1 Dp = none := Same.none f1.sb hD
        have hbD : Bk Dp = none := Same.none f1.bb hD
        let Inv' : Nat → Hp → Prop := fun i H' => i ≤ ds.length ∧ ∃ Hs' e' accV accD, Grow Bk Hs1 Hs' ∧ H' Dp = some (.lst accV) ∧ Hs' Dp = none ∧ Frm X.K vs0 (upd Bk Dp (.lst accV)) Hs' H' (wipe σ vs) e' ∧ Rps X.K Hs' accD accV ∧ lcN vs g fc fe (ds.drop i) accD e' = .ok accF e2
        refine ⟨fun i m H' => m = ds.length - i ∧ Inv' i H', ⟨ds.length, rfl, Nat.zero_le _, Hs1, wipeE e1 vs, [], [], .refl, upd_same, hsD, ?_, rfl, hlc⟩, ?_⟩
        · have fw := f1.wiped vs
          have n0 : NewOut X.K Hs1 H1 (.ow (.lst [])) (.ref Dp) Hs1 (upd H1 Dp (.lst [])) := new_lst f1.sb rfl hD
          obtain ⟨t0, _⟩ := n0.tmp fw (.refl Bk)
          have t1 := t0.1
          rw [ext_one upd_same] at t1
          exact t1
        · rintro i m H2 ⟨rfl, hi, Hs2, e', accV, accD, g2, hD2, hsD2, f2, r2, h2⟩
          obtain ⟨k1, k2⟩ := it Hs2 H2 g2.1 f2.sb i
          have sbk : Same Bk (upd Bk Dp (.lst accV)) := same_upd hbD
          by_cases hlt : i < ds.length
          · have hd : ds[i]? = some ds[i] := List.getElem?_eq_getElem hlt
            obtain ⟨w1, w2⟩ := k1 _ hd
            rw [List.drop_eq_getElem_cons hlt] at h2
            refine .inr ⟨w1, fun H' => Inv' (i + 1) H', fun H' n => ⟨ds.length - (i + 1), by omega, rfl, n⟩, fun x H3 y => ?_⟩
            obtain ⟨Hs3, n3⟩ := w2 x H3 y
            obtain ⟨t3, g3⟩ := n3.tmp f2 (.refl _)
            refine ⟨vs0, upd Bk Dp (.lst accV), Hs3, e', .im ds[i], t3, trivial, ?_⟩
            unfold lcN at h2
            cases q3 : g (.im ds[i]) e' with
            | none => rw [q3] at h2; cases h2
            | some e3 =>
              rw [q3] at h2
              intro σ4 Hs4 H4 o4 g4 f4
              have wo := wipe_off o4 hL
              refine ⟨wo, vs0, upd Bk Dp (.lst accV), Hs4, e3, f4, ?_⟩
              dsimp only at h2
              cases q4 : fc e3 with
              | no => rw [q4] at h2; cases h2
              | ex x e4 => rw [q4] at h2; cases h2
              | ok b e4 =>
                rw [q4] at h2
                intro Hs5 H5 g5 f5
                have g35 : Grow (upd Bk Dp (.lst accV)) Hs2 Hs5 := (g3.trans g4).trans g5
                cases b with
                | false =>
                  rw [if_neg Bool.false_ne_true]
                  have hD5 : H5 Dp = some (.lst accV) := f5.bb Dp _ upd_same
                  have fw := f5.wiped vs
                  rw [wo] at fw
                  refine ⟨hlt, Hs5, wipeE e4 vs, accV, accD, g2.trans (g35.weak sbk), hD5, ?_, fw, Rps.mono g35.1 _ _ r2, h2⟩
                  cases z : Hs5 Dp with
                  | none => rfl
                  | some u =>
                    have := g35.2 Dp hsD2 (by rw [z]; simp)
                    rw [upd_same] at this
                    cases this
                | true =>
                  rw [if_pos rfl]
                  refine ⟨vs0, upd Bk Dp (.lst accV), Hs5, e4, f5, ?_⟩
                  dsimp only at h2
                  cases q5 : fe e4 with
                  | no => rw [q5] at h2; cases h2
                  | ex x e5 => rw [q5] at h2; cases h2
                  | ok t e5 =>
                    rw [q5] at h2
                    intro v Hs6 H6 g6 t6
                    dsimp only at h2
                    split at h2
                    · cases h2
                    · rename_i t' e6 q6
                      split at h2
                      · rename_i hsz
                        obtain ⟨Hs7, g7, t7, n7⟩ := take_tmp t6 q6
                        obtain ⟨Hs8, g8, f8, r8⟩ := t7.share n7
                        have g38 : Grow (upd Bk Dp (.lst accV)) Hs2 Hs8 := ((g35.trans g6).trans g7).trans g8
                        have hD6 : H6 Dp = some (.lst accV) := f8.bb Dp _ upd_same
                        have hs8 : Hs8 Dp = none := by
                          cases z : Hs8 Dp with
                          | none => rfl
                          | some u =>
                            have := g38.2 Dp hsD2 (by rw [z]; simp)
                            rw [upd_same] at this
                            cases this
                        have r8' := Rps.mono g38.1 _ _ r2
                        refine ⟨accV, hD6, by rw [← rps_len r2, ← line_eq]; exact hsz, hlt, Hs8, wipeE e6 vs, accV ++ [v], accD ++ [dOf t'], g2.trans (g38.weak sbk), upd_same, hs8, ?_, rps_app r8' r8, h2⟩
                        have fw := f8.wiped vs
                        rw [wo] at fw
                        refine ⟨fw.len, fun a o z => ?_, fun a o z => ?_, fw.sh, fun j d fl z o => ?_, fw.dj, fw.pn⟩
                        · have ne : a ≠ Dp := fun z' => by rw [z', hs8] at z; cases z
                          rw [upd_ne ne]; exact fw.sb a o z
                        · by_cases ne : a = Dp
                          · subst ne; rw [upd_same] at z ⊢; exact z
                          · rw [upd_ne ne] at z ⊢
                            exact fw.bb a o (by rw [upd_ne ne]; exact z)
                        · obtain ⟨p, w1, w2, w3, w4⟩ := fw.ow j d fl z o
                          have ne : p ≠ Dp := fun z' => by rw [z', upd_same] at w4; cases w4
                          rw [upd_ne ne] at w4
                          exact ⟨p, w1, w2.mono (.refl _) (upd_ne ne), w3, by rw [upd_ne ne]; exact w4⟩
                      · cases h2
          · have ei : i = ds.length := by omega
            subst ei
            rw [List.drop_length] at h2
            have h2 : (R.ok accD e' : R (List D)) = .ok accF e2 := h2
            cases h2
            refine .inl ⟨k2 rfl, ?_⟩
            have fb := f1.back hno f2 g2.1
            refine h (.ref Dp) Hs2 H2 (g1.trans g2) ⟨?_, Dp, rfl, ⟨accV, hD2, r2⟩, hsD2, hbD⟩
            rw [ext_one hD2]
            exact fb
      · exact h.elim
    · exact h.elim
theorem je_lc (hc : X.calm = true) (hN : X.N.Nodup) (hi : JI X W tg iter fi) (ok : BlkOk X.N X.env.scope scope own) (hL : ∀ j ∈ L, j ∈ own.map (·.2))
    (hg : BlkJ X scope fun X => JG X tg L g) (ht : BlkJ X scope fun X => JT X ifs fc) (he : BlkJ X scope fun X => JE X NoX elt fe) (hs : ∀ x, foldedSetIterable iter X.env x = pure x := by intro _; rfl) :
    JE X W (.ListComp elt [⟨tg, iter, ifs, 0⟩] scope pos) (sLc (own.map (·.2)) g fi fc fe) :=
  PE_imp (pe_lc hc hN hi ok hg ht he hs) fun σ H Q h => lc_fin hL h
theorem js_setLc {i : Nat} {y : Str} {py spos : Pos} (hc : X.calm = true) (hN : X.N.Nodup) (hy : X.N[i]? = some y) (hyl : X.env.scope.names.lookup y = some .local)
    (hsw : swapsWith (.ListComp elt [⟨tg, iter, ifs, 0⟩] scope pos) (some (.Name y py)) spos.line X.env = pure true) (hi : JI X W tg iter fi) (ok : BlkOk X.N X.env.scope scope own) (hL : ∀ j ∈ L, j ∈ own.map (·.2))
    (hg : BlkJ X scope fun X => JG X tg L g) (ht : BlkJ X scope fun X => JT X ifs fc) (he : BlkJ X scope fun X => JE X NoX elt fe) (hs : ∀ x, foldedSetIterable iter X.env x = pure x := by intro _; rfl) :
    JS X W (.Assign [.Name y py] (.ListComp elt [⟨tg, iter, ifs, 0⟩] scope pos) spos) (sSet i (sLc (own.map (·.2)) g fi fc fe)) :=
  PS_imp (ps_setLc (g := TGt X.K L g) (tt := TB' X.K X.mg NoX fc) (te := TI' X.K X.mg NoX fe) hc hN hy hyl hsw hi ok hg ht he hs) fun D σ H ⟨vs0, Bk, Hs, e, fr, h⟩ => by
    refine lc_fin (W := W) (fe := fe) (own := own) hL ⟨vs0, Bk, Hs, e, fr, ?_⟩
    unfold sSet at h
    cases q : sLc (own.map (·.2)) g fi fc fe e with
    | no => rw [q] at h; exact h
    | ex x e1 => rw [q] at h; exact fun c dx Hs1 H1 g1 f1 r => h c dx σ Hs1 H1 g1 f1 r
    | ok t e1 =>
      rw [q] at h
      intro v Hs1 H1 g1 t1
      dsimp only at h
      split at h
      · exact h.elim
      · rename_i t' e2 q2
        split at h
        · exact h.elim
        · rename_i e3 q3
          obtain ⟨Hs2, g2, f2, ⟨n2, o2⟩, r2⟩ := take_ok t1.1 t1.2 q2
          have r2 := r2 fun _ m => m
          have f3 : Frm X.K vs0 (ext Bk H1 (ownA t' v ++ [])) Hs2 H1 σ e2 := by rw [List.append_nil, o2]; exact f2
          have f4 := store_ok1 f3 r2 (fun _ _ z => nomatch z) q3
          rw [ext_nil] at f4
          exact h _ Hs2 H1 (g1.trans (g2.weak (ext_same fun a m => (t1.2.own a m).1))) f4
end
end L2.Py
set_option maxRecDepth 100000
namespace L2.Py
open PySem PySem.Spec PyProof.Rows
section
variable {X : Cx} {W : WX} {e : Expr} {es : List Expr} {kws : List Keyword} {fs gs : List Sem} {pos p : Pos} {k : Nat} {f : Addr} {fd : FuncData} {ps ks : List Str} {F : Fn} {x : Str} {pm : List Nat}
variable {K : PySem.W.Frag} {mg : Str → Option Value} {vs0 : List V} {Bk Hs H : Hp} {σ : St} {en : En}
theorem rts_get : ∀ {ts : List Tm} {vs : List V}, RpTs K Bk Hs H σ ts vs → ∀ {i : Nat} {t : Tm}, ts[i]? = some t → ∃ v, vs[i]? = some v ∧ RpT K Bk Hs H σ t v
  | [], vs, h, i, t, q => by simp at q
  | t' :: ts, vs, h, i, t, q => by
    obtain ⟨v, r, rfl, h1, h2⟩ := h
    cases i with
    | zero => cases q; exact ⟨v, rfl, h1⟩
    | succ i => exact rts_get h2 q
theorem rts_none : ∀ {ts : List Tm} {vs : List V}, RpTs K Bk Hs H σ ts vs → ∀ {i : Nat}, ts[i]? = none → vs[i]? = none
  | [], vs, h, i, q => by have h : vs = [] := h; subst h; rfl
  | t' :: ts, vs, h, i, q => by
    obtain ⟨v, r, rfl, h1, h2⟩ := h
    cases i with
    | zero => cases q
    | succ i => exact rts_none h2 q
theorem own_get {a : Addr} : ∀ {ts : List Tm} {vs : List V}, RpTs K Bk Hs H σ ts vs → a ∈ ownAs ts vs → ∃ (i : Nat) (t : Tm) (v : V), ts[i]? = some t ∧ vs[i]? = some v ∧ a ∈ ownA t v
  | [], vs, h, m => by cases m
  | t' :: ts, vs, h, m => by
    obtain ⟨v, r, rfl, h1, h2⟩ := h
    rcases List.mem_append.mp m with m | m
    · exact ⟨0, t', v, rfl, rfl, m⟩
    · obtain ⟨i, t, v', a1, a2, a3⟩ := own_get h2 m
      exact ⟨i + 1, t, v', a1, a2, a3⟩
theorem own_in {a : Addr} : ∀ {ts : List Tm} {vs : List V} {i : Nat} {t : Tm} {v : V}, ts[i]? = some t → vs[i]? = some v → a ∈ ownA t v → a ∈ ownAs ts vs
  | [], vs, i, t, v, h1, h2, m => by simp at h1
  | t' :: ts, [], i, t, v, h1, h2, m => by simp at h2
  | t' :: ts, v' :: vs, 0, t, v, h1, h2, m => by cases h1; cases h2; exact List.mem_append_left _ m
  | t' :: ts, v' :: vs, i + 1, t, v, h1, h2, m => List.mem_append_right _ (own_in (by simpa using h1) (by simpa using h2) m)
theorem own_ix {a : Addr} : ∀ {ts : List Tm} {vs : List V} {i j : Nat} {t u : Tm} {v w : V}, (ownAs ts vs).Nodup → ts[i]? = some t → vs[i]? = some v → a ∈ ownA t v → ts[j]? = some u → vs[j]? = some w → a ∈ ownA u w → i = j
  | [], vs, i, j, t, u, v, w, n, h1, h2, m, k1, k2, m2 => by simp at h1
  | t' :: ts, [], i, j, t, u, v, w, n, h1, h2, m, k1, k2, m2 => by simp at h2
  | t' :: ts, v' :: vs, i, j, t, u, v, w, n, h1, h2, m, k1, k2, m2 => by
    have n : (ownA t' v' ++ ownAs ts vs).Nodup := n
    obtain ⟨na, nb, nc⟩ := List.nodup_append.mp n
    cases i with
    | zero =>
      cases j with
      | zero => rfl
      | succ j =>
        cases h1; cases h2
        exact (nc a m a (own_in (by simpa using k1) (by simpa using k2) m2) rfl).elim
    | succ i =>
      cases j with
      | zero =>
        cases k1; cases k2
        exact (nc a m2 a (own_in (by simpa using h1) (by simpa using h2) m) rfl).elim
      | succ j => rw [own_ix (i := i) (j := j) nb (by simpa using h1) (by simpa using h2) m (by simpa using k1) (by simpa using k2) m2]
theorem pick_tmps {ts : List Tm} {vs : List V} (h : Tmps K vs0 Bk Hs H σ en ts vs) (nd : pm.Nodup) (hl : pm.length = ts.length) : Tmps K vs0 Bk Hs H σ en (pick pm ts) (pick pm vs) := by
  have r : ∀ pm : List Nat, RpTs K Bk Hs H σ (pick pm ts) (pick pm vs) := fun pm => by
    induction pm with
    | nil => rfl
    | cons i pm ih =>
      unfold pick
      rw [List.filterMap_cons, List.filterMap_cons]
      cases q : ts[i]? with
      | none => rw [rts_none h.r q]; exact ih
      | some t =>
        obtain ⟨v, h1, h2⟩ := rts_get h.r q
        rw [h1]
        exact ⟨v, _, rfl, h2, ih⟩
  have sub : ∀ (pm : List Nat) (a : Addr), a ∈ ownAs (pick pm ts) (pick pm vs) → ∃ i ∈ pm, ∃ t v, ts[i]? = some t ∧ vs[i]? = some v ∧ a ∈ ownA t v := fun pm a => by
    induction pm with
    | nil => intro m; cases m
    | cons i pm ih =>
      intro m
      unfold pick at m
      rw [List.filterMap_cons, List.filterMap_cons] at m
      cases q : ts[i]? with
      | none =>
        rw [q, rts_none h.r q] at m
        obtain ⟨j, hj, z⟩ := ih m
        exact ⟨j, List.mem_cons_of_mem _ hj, z⟩
      | some t =>
        obtain ⟨v, h1, h2⟩ := rts_get h.r q
        rw [q, h1] at m
        rcases List.mem_append.mp m with m | m
        · exact ⟨i, List.mem_cons_self, t, v, q, h1, m⟩
        · obtain ⟨j, hj, z⟩ := ih m
          exact ⟨j, List.mem_cons_of_mem _ hj, z⟩
  have n2 : ∀ pm : List Nat, pm.Nodup → (ownAs (pick pm ts) (pick pm vs)).Nodup := fun pm => by
    induction pm with
    | nil => intro _; exact .nil
    | cons i pm ih =>
      intro nd
      obtain ⟨ni, nd'⟩ := List.nodup_cons.mp nd
      unfold pick
      rw [List.filterMap_cons, List.filterMap_cons]
      cases q : ts[i]? with
      | none => rw [rts_none h.r q]; exact ih nd'
      | some t =>
        obtain ⟨v, h1, h2⟩ := rts_get h.r q
        rw [h1]
        show (ownA t v ++ ownAs (pick pm ts) (pick pm vs)).Nodup
        refine List.nodup_append.mpr ⟨?_, ih nd', fun a m b m2 e => ?_⟩
        · cases t <;> cases v <;> first | exact .nil | exact List.nodup_cons.mpr ⟨by simp, .nil⟩
        · subst e
          obtain ⟨j, hj, t', v', a1, a2, a3⟩ := sub pm a m2
          have := own_ix h.n q h1 m a1 a2 a3
          subst this
          exact ni hj
  have sub' : ∀ a ∈ ownAs (pick pm ts) (pick pm vs), a ∈ ownAs ts vs := fun a m => by
    obtain ⟨i, _, t, v, a1, a2, a3⟩ := sub pm a m
    exact own_in a1 a2 a3
  refine ⟨?_, r pm, n2 pm nd⟩
  refine h.f.weak fun a o q => ?_
  by_cases m : a ∈ ownAs (pick pm ts) (pick pm vs)
  · rw [ext_mem m] at q
    rw [ext_mem (sub' a m)]
    exact q
  · rw [ext_not m] at q
    by_cases m' : a ∈ ownAs ts vs
    · have := (h.r.own a m').1
      rw [this] at q
      cases q
    · rw [ext_not m']
      exact q
theorem callk_fin {F : Fn} {Q : VK} (h : TI' K mg W (sCallK F pm (fs ++ gs)) σ H Q) : tCallKW (spD K mg F) W pm fs.length gs.length (rawT K mg W fs) (rawT K mg W gs) σ H Q := by
  have h1 : TL' K mg W (sList (fs ++ gs)) σ H (fun vs H1 => spD K mg F (pick pm vs) H1 Q (fun c dx H' => W c dx σ H')) := by
    obtain ⟨vs0, Bk, Hs, en, fr, h⟩ := h
    refine ⟨vs0, Bk, Hs, en, fr, ?_⟩
    unfold sCallK sCall sPick at h
    cases q : sList (fs ++ gs) en with
    | no => rw [q] at h; exact h
    | ex x e1 => rw [q] at h; exact h
    | ok ts e1 =>
      rw [q] at h
      intro vs Hs1 H1 g1 t1
      dsimp only at h
      split at h
      · rename_i q2; split at q2 <;> cases q2; exact h.elim
      · rename_i q2; split at q2 <;> cases q2
      · rename_i ts' e2 q2
        split at q2
        · rename_i hl
          cases q2
          exact call_fin (pick_tmps t1 hl.2 hl.1) (PostE.grow h g1)
        · cases q2
  have h2 := raw_split h1
  refine raw_len (raw_imp h2 fun vs H1 q l => ?_)
  refine raw_len (raw_imp (raw_of q) fun zs H2 q2 l2 => ?_)
  exact ⟨l, l2, q2⟩
theorem kw_run {pins : List (Addr × Obj)} {s : Shared} {Q : VK} {us ws : List Value} {vs zs : List V} (G : FnG X.prog X.w X.K X.mg X.base k f fd ps (spD X.K X.mg F)) (hr : Room k X.A) (hd : X.A.guards = some []) (tk : Takes X W) {n : Nat} (hb : KwB X.K fd ps n ks pm)
    (I : Inv X pins σ H s) (r1 : Vals vs us) (r2 : Vals zs ws) (l1 : vs.length = n) (l2 : zs.length = ks.length) (h : spD X.K X.mg F (pick pm (vs ++ zs)) H Q (fun c dx H' => W c dx σ H')) :
    wpAny (model X.prog X.w) X.A (call (.ref f) us (ks.zip ws)) (EP X pins σ Q) X.xe s := by
  refine wpAny_call (codeAny_mono (ran G hr hd tk I (hb s us ws (r1.length.symm.trans l1) (r2.length.symm.trans l2)) (pick_vals (r1.append r2)) h) fun r s' z => ?_)
  match r, z with
  | .ok (.ret u), z => exact z
  | .error x, z => exact z
  | .ok .next, z => exact z
  | .ok .brk, z => exact z
  | .ok .cont, z => exact z
theorem je_callK {n : Nat} (G : FnG X.prog X.w X.K X.mg X.base k f fd ps (spD X.K X.mg F)) (hr : Room k X.A) (hd : X.A.guards = some []) (hg : Gl X x) (hm : X.mg x = some (.ref f)) (hk : PySem.W.keepIn X.K (.ref f) = true) (hb : KwB X.K fd ps n ks pm) (tk : Takes X W)
    (ha : PA X (e :: es) (rawT X.K X.mg W fs)) (hkw : PK X kws (rawT X.K X.mg W gs)) (hn : fs.length = n) (hm2 : gs.length = ks.length) (hall : (backToKw pos (keywordEach kws X.env)).all (·.1.isSome) = true := by rfl) (hks : (backToKw pos (keywordEach kws X.env)).filterMap (·.1) = ks := by rfl)
    (hdb : (x == ("__debug__" : Str)) = false := by decide) (he : starEach (e :: es) X.env = (false, eval e X.env) :: starEach es X.env := by rfl)
    (hpl : ((backTo pos (starEach (e :: es) X.env)).any (·.1) || (backToKw pos (keywordEach kws X.env)).any (·.1.isNone)) = false := by rfl) : JE X W (.Call (.Name x p) (e :: es) kws pos) (sCallK F pm (fs ++ gs)) := by
  have raw : PE X (.Call (.Name x p) (e :: es) kws pos) (tCallKW (spD X.K X.mg F) W pm fs.length gs.length (rawT X.K X.mg W fs) (rawT X.K X.mg W gs)) := by
    constructor
    intro pins s σ H Q I h
    apply wpAny_Call_Name_kw (ld_glob I hg hm ?_ hdb)
    apply PySem.W.callWith_KW (h₀ := X.base) I.ok.mod.kin hk hall ?_ hpl he
    refine thn (ha.run pos pins s σ H _ I h) ?_
    rintro us s1 ⟨vs, H1, I1, r1, q⟩
    refine thn (hkw.run pos pins s1 σ H1 _ I1 q) ?_
    rintro ws s2 ⟨zs, H2, I2, r2, l1, l2, q2⟩
    rw [hks]
    exact ⟨I2.kIn, kw_run G hr hd tk hb I2 r1 r2 (l1.trans hn) (l2.trans hm2) q2⟩
  exact PE_imp raw fun σ H Q h => callk_fin h
theorem je_callK0 (G : FnG X.prog X.w X.K X.mg X.base k f fd ps (spD X.K X.mg F)) (hr : Room k X.A) (hd : X.A.guards = some []) (hg : Gl X x) (hm : X.mg x = some (.ref f)) (hk : PySem.W.keepIn X.K (.ref f) = true) (hb : KwB X.K fd ps 0 ks pm) (tk : Takes X W)
    (hkw : PK X kws (rawT X.K X.mg W gs)) (hm2 : gs.length = ks.length) (hall : (backToKw pos (keywordEach kws X.env)).all (·.1.isSome) = true := by rfl) (hks : (backToKw pos (keywordEach kws X.env)).filterMap (·.1) = ks := by rfl)
    (hdb : (x == ("__debug__" : Str)) = false := by decide)
    (hpl : ((backTo pos (starEach [] X.env)).any (·.1) || (backToKw pos (keywordEach kws X.env)).any (·.1.isNone)) = false := by rfl) : JE X W (.Call (.Name x p) [] kws pos) (sCallK F pm gs) := by
  have raw : PE X (.Call (.Name x p) [] kws pos) (tCallKW (spD X.K X.mg F) W pm 0 gs.length (rawT X.K X.mg W []) (rawT X.K X.mg W gs)) := by
    constructor
    intro pins s σ H Q I h
    apply wpAny_Call_Name_kw (ld_glob I hg hm ?_ hdb)
    apply PySem.W.callWith_KW0 (h₀ := X.base) I.ok.mod.kin hk hall ?_ hpl
    have h : rawT X.K X.mg W gs σ H (fun zs H2 => ([] : List V).length = 0 ∧ zs.length = gs.length ∧ spD X.K X.mg F (pick pm ([] ++ zs)) H2 Q (fun c dx H' => W c dx σ H')) := h
    refine thn (hkw.run pos pins s σ H _ I h) ?_
    rintro ws s2 ⟨zs, H2, I2, r2, l1, l2, q2⟩
    rw [hks]
    exact ⟨I2.kIn, kw_run G hr hd tk hb I2 .nil r2 rfl (l2.trans hm2) q2⟩
  exact PE_imp raw fun σ H Q h => callk_fin (fs := []) h
theorem je_call0 (G : FnG X.prog X.w X.K X.mg X.base k f fd ps (spD X.K X.mg F)) (hr : Room k X.A) (hd : X.A.guards = some []) (hg : Gl X x) (hm : X.mg x = some (.ref f)) (hk : PySem.W.keepIn X.K (.ref f) = true) (hb : Binds X.K fd ps []) (tk : Takes X W)
    (hdb : (x == ("__debug__" : Str)) = false := by decide) : JE X W (.Call (.Name x p) [] [] pos) (sCall F sNil) := by
  have raw : PE X (.Call (.Name x p) [] [] pos) (tCallW (spD X.K X.mg F) W (TL' X.K X.mg W sNil)) := by
    constructor
    intro pins s σ H Q I h
    apply wpAny_Call_Name_kw (ld_glob I hg hm ?_ hdb)
    apply PySem.W.callWith_K0 I.kIn hk
    have q := tl_nil h
    have hl : (0 : Nat) = ps.length := G.len _ _ _ _ q
    have bnd := hb s [] I.kIn (by simpa using hl)
    exact wpAny_call (codeAny_mono (ran G hr hd tk I bnd .nil q) fun r s' z => by
      match r, z with
      | .ok (.ret u), z => exact z
      | .error x, z => exact z
      | .ok .next, z => exact z
      | .ok .brk, z => exact z
      | .ok .cont, z => exact z)
  refine PE_imp raw fun σ H Q ⟨vs0, Bk, Hs, en, fr, h⟩ => ⟨vs0, Bk, Hs, en, fr, ?_⟩
  exact fun vs Hs1 H1 g1 t1 => call_fin t1 (PostE.grow h g1)
end
end L2.Py
set_option maxRecDepth 100000
namespace L2.Py
open PySem PySem.Spec PyProof.Rows
section
variable {K : PySem.W.Frag} {Hs Hs' H H' : Hp} {d : D} {v : V} {ds : List D} {kd : List (Key × D)}
theorem rd1_bl {b : Bool} (h : Rd1 K Hs H (.bl b) v) : v = .bl b := by
  rcases h with h | ⟨p, _, h⟩
  · exact h
  · exact h.elim
theorem rd1_non (h : Rd1 K Hs H .non v) : v = .non := by
  rcases h with h | ⟨p, _, h⟩
  · exact h
  · exact h.elim
theorem rd1_str {x : Str} (h : Rd1 K Hs H (.str x) v) : v = .str x := by
  rcases h with h | ⟨p, _, h⟩
  · exact h
  · exact h.elim
theorem rd1_ty {x : String} (h : Rd1 K Hs H (.ty x) v) : v = .ty x := by
  rcases h with h | ⟨p, _, h⟩
  · exact h
  · exact h.elim
theorem rd1_lst (sb : Same Hs H) (h : Rd1 K Hs H (.lst ds) v) : ∃ p xs, v = .ref p ∧ H p = some (.lst xs) ∧ Rps K Hs ds xs := by
  rcases h with ⟨p, xs, h1, h2, h3⟩ | ⟨p, h1, xs, h2, h3⟩
  · exact ⟨p, xs, h1, sb _ _ h2, h3⟩
  · exact ⟨p, xs, h1, h2, h3⟩
theorem rd1_dct (sb : Same Hs H) (h : Rd1 K Hs H (.dct kd) v) : ∃ p xs, v = .ref p ∧ Rd H p (.dK xs) ∧ Rpk K Hs kd xs := by
  rcases h with ⟨p, xs, h1, h2, h3⟩ | ⟨p, h1, xs, h2, h3⟩
  · exact ⟨p, xs, h1, Same.rd sb h2, h3⟩
  · exact ⟨p, xs, h1, .inl h2, h3⟩
theorem rd1_tup (sb : Same Hs H) (h : Rd1 K Hs H (.tup ds) v) : ∃ p xs, v = .ref p ∧ SqT K H p xs ∧ Rps K Hs ds xs := by
  rcases h with ⟨p, xs, h1, h2, h3⟩ | ⟨p, h1, h2⟩
  · exact ⟨p, xs, h1, Same.sqt sb h2, h3⟩
  · exact h2.elim
theorem rd1_tup' (h : Rd1 K Hs H (.tup ds) v) : Rp K Hs (.tup ds) v := by
  rcases h with h | ⟨p, h1, h2⟩
  · exact h
  · exact h2.elim
theorem rd1_scr (sb : Same Hs H) (h : Rd1 K Hs H (.scr ds) v) : ∃ p xs, v = .ref p ∧ SqL K H p xs ∧ Rps K Hs ds xs := by
  rcases h with ⟨p, xs, h1, h2, h3⟩ | ⟨p, h1, h2⟩
  · exact ⟨p, xs, h1, Same.seq sb h2, h3⟩
  · exact h2.elim
theorem rds1 {vs : List V} (h : Rds K Hs H [d] vs) : ∃ v, vs = [v] ∧ Rd1 K Hs H d v := by
  obtain ⟨v, r, rfl, h1, rfl⟩ := h
  exact ⟨v, rfl, h1⟩
theorem rds2 {d' : D} {vs : List V} (h : Rds K Hs H [d, d'] vs) : ∃ v w, vs = [v, w] ∧ Rd1 K Hs H d v ∧ Rd1 K Hs H d' w := by
  obtain ⟨v, r, rfl, h1, h2⟩ := h
  obtain ⟨w, rfl, h3⟩ := rds1 h2
  exact ⟨v, w, rfl, h1, h3⟩
theorem new_int {i : Int} (sb : Same Hs H) : NewOut K Hs H (.im (.int i)) (.int i) Hs H := new_imm sb rfl
theorem new_bl {b : Bool} (sb : Same Hs H) : NewOut K Hs H (.im (.bl b)) (.bl b) Hs H := new_imm sb rfl
end
def BIG : Nat := 2 ^ 400000
def BIGD : Nat := 2 ^ 8000
theorem big_mul {i j : Int} (hi : i.natAbs ≤ BIG) (hj : j.natAbs ≤ BIG) : IntMulOk i j := by
  have a : ∀ x : Int, x.natAbs ≤ BIG → x.natAbs < 2 ^ 400001 := fun x h => Nat.lt_of_le_of_lt h (Nat.pow_lt_pow_right (by decide) (by decide))
  exact (wide_mul (a i hi) (a j hj) (by decide) (by decide) (by decide)).ok
theorem big_div {j : Int} (hj : j.natAbs ≤ BIGD) : j.natAbs.log2 < 9000 := by
  have h : j.natAbs < 2 ^ 8001 := Nat.lt_of_le_of_lt hj (Nat.pow_lt_pow_right (by decide) (by decide))
  exact Nat.lt_of_lt_of_le (PySem.Flt.log2_lt_of (by decide) h) (by decide)
theorem small_big {n : Nat} (h : n ≤ 2 ^ 64) : n ≤ BIG := Nat.le_trans h (Nat.pow_le_pow_right (by decide) (by decide))
theorem small_bigd {n : Nat} (h : n ≤ 2 ^ 64) : n ≤ BIGD := Nat.le_trans h (Nat.pow_le_pow_right (by decide) (by decide))
def mulI (i j : Int) : Option Int := if i.natAbs ≤ BIG ∧ j.natAbs ≤ BIG then some (i * j) else none
def divI (i j : Int) : Option Int := if j ≠ 0 ∧ j.natAbs ≤ BIGD then some (i.fdiv j) else none
def modI (i j : Int) : Option Int := if j ≠ 0 then some (i.fmod j) else none
def powI (i j : Int) : Option Int := if 0 ≤ j ∧ j ≤ 1000000 ∧ i.natAbs < 2 ^ 64 then some (i ^ j.toNat) else none
section
variable {X : Cx} {K : PySem.W.Frag}
def CDivX (_ j : Int) : Prop := j ≠ 0 ∧ j.natAbs.log2 < 9000
theorem op_fdivX : OpR X (binaryOp .FloorDiv) (rI CDivX fun i j => .int (i.fdiv j)) := opI fun _ _ _ _ _ _ _ hc q => floordiv_int hc.1 q (.inl (PyProof.noPylong_of_log2 hc.2))
def CMulB (i j : Int) : Prop := i.natAbs ≤ BIG ∧ j.natAbs ≤ BIG
theorem op_mulB : OpR X (binaryOp .Mult) (rI CMulB fun i j => .int (i * j)) := opI fun _ _ _ _ _ _ _ hc q => mul_int q (big_mul hc.1 hc.2)
theorem pure_or {g g' : List D → Option Tm} {r r' : R2} (h : PureOk K g (r2 r)) (h' : PureOk K g' (r2 r')) : PureOk K (fun ds => (g ds).orElse fun _ => g' ds) (r2 fun x y H Q => r x y H Q ∨ r' x y H Q) := by
  intro Hs H vs ds t Q sb rd q k
  dsimp only at q
  cases e : g ds with
  | some t' =>
    rw [e] at q
    cases q
    obtain ⟨x, y, e1, z⟩ := h Hs H vs ds t Q sb rd e k
    exact ⟨x, y, e1, .inl z⟩
  | none =>
    rw [e] at q
    obtain ⟨x, y, e1, z⟩ := h' Hs H vs ds t Q sb rd q k
    exact ⟨x, y, e1, .inr z⟩
theorem pure_of {g g' : List D → Option Tm} {r : List V → Hp → VK → Prop} (h : PureOk K g r) (e : ∀ ds t, g' ds = some t → g ds = some t) : PureOk K g' r := fun Hs H vs ds t Q sb rd q k => h Hs H vs ds t Q sb rd (e ds t q) k
end
def gAdd : List D → Option Tm
  | [.int i, .int j] => some (.im (.int (i + j)))
  | [.lst a, .lst b] => if a.length + b.length ≤ line then some (.ow (.lst (a ++ b))) else none
  | [.tup a, .tup b] => if a.length + b.length ≤ line then some (.im (.tup (a ++ b))) else none
  | [.str a, .str b] => if a.length + b.length ≤ line then some (.im (.str (a ++ b))) else none
  | _ => none
def gSub : List D → Option Tm
  | [.int i, .int j] => some (.im (.int (i - j)))
  | _ => none
def gMul : List D → Option Tm
  | [.int i, .int j] => match mulI i j with
    | some k => some (.im (.int k))
    | none => none
  | [.lst a, .int k] => if -(2 ^ 63) ≤ k ∧ k < 2 ^ 63 ∧ a.length * k.toNat ≤ line then some (.ow (.lst (List.replicate k.toNat a).flatten)) else none
  | _ => none
def gDiv : List D → Option Tm
  | [.int i, .int j] => match divI i j with
    | some k => some (.im (.int k))
    | none => none
  | _ => none
def gMod : List D → Option Tm
  | [.int i, .int j] => match modI i j with
    | some k => some (.im (.int k))
    | none => none
  | _ => none
def gPow : List D → Option Tm
  | [.int i, .int j] => match powI i j with
    | some k => some (.im (.int k))
    | none => none
  | _ => none
def gNeg : List D → Option Tm
  | [.int i] => some (.im (.int (-i)))
  | _ => none
def gCmp (f : Int → Int → Bool) : List D → Option Tm
  | [.int i, .int j] => some (.im (.bl (f i j)))
  | _ => none
theorem rps_append {K : PySem.W.Frag} {H : Hp} : ∀ {a b : List D} {xs ys : List V}, Rps K H a xs → Rps K H b ys → Rps K H (a ++ b) (xs ++ ys)
  | [], b, xs, ys, h, r => by have h : xs = [] := h; subst h; exact r
  | d :: a, b, xs, ys, h, r => by
    obtain ⟨v, r', rfl, h1, h2⟩ := h
    exact ⟨v, r' ++ ys, rfl, h1, rps_append h2 r⟩
theorem rps_flat {K : PySem.W.Frag} {H : Hp} {a : List D} {xs : List V} (h : Rps K H a xs) : ∀ n : Nat, Rps K H (List.replicate n a).flatten (List.replicate n xs).flatten
  | 0 => rfl
  | n + 1 => by
    rw [List.replicate_succ, List.replicate_succ, List.flatten_cons, List.flatten_cons]
    exact rps_append h (rps_flat h n)
section
variable {X : Cx} {K : PySem.W.Frag}
def rAddAll (K : PySem.W.Frag) : R2 := fun x y H Q => (∃ i j, x = .int i ∧ y = .int j ∧ Q (.int (i + j)) H) ∨ rCat x y H Q ∨ rCatA K x y H Q ∨ (∃ i j, x = .str i ∧ y = .str j ∧ i.length + j.length ≤ sizeLine ∧ Q (.str (i ++ j)) H)
theorem or_r {f : Value → Value → PySem.Sem Value} {r r' : R2} (h : OpR X f r) (h' : OpR X f r') : OpR X f (fun x y H Q => r x y H Q ∨ r' x y H Q) := h.or h'
theorem op_addAll : OpR X (binaryOp .Add) (rAddAll X.K) := or_r op_add (or_r op_cat (or_r op_catA op_add_str))
theorem pr_add : PureOk K gAdd (r2 (rAddAll K)) := by
  intro Hs H vs ds t Q sb rd q k
  unfold gAdd at q
  split at q
  · cases q
    obtain ⟨v, w, rfl, h1, h2⟩ := rds2 rd
    cases rd1_int h1; cases rd1_int h2
    exact ⟨_, _, rfl, .inl ⟨_, _, rfl, rfl, k _ _ _ (new_int sb)⟩⟩
  · split at q
    · rename_i hl
      cases q
      obtain ⟨v, w, rfl, h1, h2⟩ := rds2 rd
      obtain ⟨p, xs, rfl, a1, a2⟩ := rd1_lst sb h1
      obtain ⟨p', ys, rfl, b1, b2⟩ := rd1_lst sb h2
      exact ⟨_, _, rfl, .inr (.inl ⟨_, _, _, _, rfl, rfl, a1, b1, by rw [← rps_len a2, ← rps_len b2, ← line_eq]; exact hl, fun z hz => k _ _ _ (new_lst sb (rps_append a2 b2) hz)⟩)⟩
    · cases q
  · split at q
    · rename_i hl
      cases q
      obtain ⟨v, w, rfl, h1, h2⟩ := rds2 rd
      have h1' := rd1_tup' h1
      have h2' := rd1_tup' h2
      obtain ⟨p, xs, rfl, a1, a2⟩ := rd1_tup sb h1
      obtain ⟨p', ys, rfl, b1, b2⟩ := rd1_tup sb h2
      refine ⟨_, _, rfl, .inr (.inr (.inl ⟨_, _, _, _, rfl, rfl, a1, b1, by rw [← rps_len a2, ← rps_len b2, ← line_eq]; exact hl, fun e => ?_, fun _ e => ?_, fun _ _ z hz => k _ _ _ (new_tup sb (rps_append a2 b2) hz)⟩))⟩
      · refine k _ _ Hs (new_imm sb ?_)
        have := rps_len a2
        rw [e] at this
        rw [List.length_eq_zero_iff.mp this]
        exact h2'
      · refine k _ _ Hs (new_imm sb ?_)
        have := rps_len b2
        rw [e] at this
        rw [List.length_eq_zero_iff.mp this, List.append_nil]
        exact h1'
    · cases q
  · split at q
    · rename_i hl
      cases q
      obtain ⟨v, w, rfl, h1, h2⟩ := rds2 rd
      cases rd1_str h1; cases rd1_str h2
      exact ⟨_, _, rfl, .inr (.inr (.inr ⟨_, _, rfl, rfl, by rw [← line_eq]; exact hl, k _ _ Hs (new_imm sb rfl)⟩))⟩
    · cases q
  · cases q
theorem pr_sub : PureOk K gSub (r2 (rI0 fun i j => .int (i - j))) := by
  intro Hs H vs ds t Q sb rd q k
  unfold gSub at q
  split at q
  · cases q
    obtain ⟨v, w, rfl, h1, h2⟩ := rds2 rd
    cases rd1_int h1; cases rd1_int h2
    exact ⟨_, _, rfl, _, _, rfl, rfl, k _ _ _ (new_int sb)⟩
  · cases q
def rMulAll (K : PySem.W.Frag) : R2 := fun x y H Q => rI CMulB (fun i j => .int (i * j)) x y H Q ∨ rRep x y H Q
theorem op_mulAll : OpR X (binaryOp .Mult) (rMulAll X.K) := or_r op_mulB op_rep
theorem pr_mul : PureOk K gMul (r2 (rMulAll K)) := by
  intro Hs H vs ds t Q sb rd q k
  unfold gMul at q
  split at q
  · split at q
    · rename_i hm
      cases q
      obtain ⟨v, w, rfl, h1, h2⟩ := rds2 rd
      cases rd1_int h1; cases rd1_int h2
      unfold mulI at hm
      split at hm
      · rename_i hb
        cases hm
        exact ⟨_, _, rfl, .inl ⟨_, _, rfl, rfl, hb, k _ _ _ (new_int sb)⟩⟩
      · cases hm
    · cases q
  · split at q
    · rename_i hl
      cases q
      obtain ⟨v, w, rfl, h1, h2⟩ := rds2 rd
      obtain ⟨p, xs, rfl, a1, a2⟩ := rd1_lst sb h1
      cases rd1_int h2
      exact ⟨_, _, rfl, .inr ⟨_, _, _, rfl, rfl, a1, hl.1, hl.2.1, by rw [← rps_len a2, ← line_eq]; exact hl.2.2, fun z hz => k _ _ _ (new_lst sb (rps_flat a2 _) hz)⟩⟩
    · cases q
  · cases q
theorem pr_div : PureOk K gDiv (r2 (rI CDivX fun i j => .int (i.fdiv j))) := by
  intro Hs H vs ds t Q sb rd q k
  unfold gDiv at q
  split at q
  · split at q
    · rename_i hm
      cases q
      obtain ⟨v, w, rfl, h1, h2⟩ := rds2 rd
      cases rd1_int h1; cases rd1_int h2
      unfold divI at hm
      split at hm
      · rename_i hb
        cases hm
        exact ⟨_, _, rfl, _, _, rfl, rfl, ⟨hb.1, big_div hb.2⟩, k _ _ _ (new_int sb)⟩
      · cases hm
    · cases q
  · cases q
theorem pr_mod : PureOk K gMod (r2 (rI (fun _ j => j ≠ 0) fun i j => .int (i.fmod j))) := by
  intro Hs H vs ds t Q sb rd q k
  unfold gMod at q
  split at q
  · split at q
    · rename_i hm
      cases q
      obtain ⟨v, w, rfl, h1, h2⟩ := rds2 rd
      cases rd1_int h1; cases rd1_int h2
      unfold modI at hm
      split at hm
      · rename_i hb
        cases hm
        exact ⟨_, _, rfl, _, _, rfl, rfl, hb, k _ _ _ (new_int sb)⟩
      · cases hm
    · cases q
  · cases q
theorem pr_pow : PureOk K gPow (r2 (rI CPow fun i j => .int (i ^ j.toNat))) := by
  intro Hs H vs ds t Q sb rd q k
  unfold gPow at q
  split at q
  · split at q
    · rename_i hm
      cases q
      obtain ⟨v, w, rfl, h1, h2⟩ := rds2 rd
      cases rd1_int h1; cases rd1_int h2
      unfold powI at hm
      split at hm
      · rename_i hb
        cases hm
        exact ⟨_, _, rfl, _, _, rfl, rfl, hb, k _ _ _ (new_int sb)⟩
      · cases hm
    · cases q
  · cases q
theorem pr_cmp (f : Int → Int → Bool) : PureOk K (gCmp f) (r2 (rI0 fun i j => .bl (f i j))) := by
  intro Hs H vs ds t Q sb rd q k
  unfold gCmp at q
  split at q
  · cases q
    obtain ⟨v, w, rfl, h1, h2⟩ := rds2 rd
    cases rd1_int h1; cases rd1_int h2
    exact ⟨_, _, rfl, _, _, rfl, rfl, k _ _ _ (new_bl sb)⟩
  · cases q
end
mutual
def toP : D → PyData
  | .non => .none
  | .bl b => .bool b
  | .int i => .int i
  | .str x => .str x
  | .lst l => .list (toPs l)
  | .tup l => .tuple (toPs l)
  | .scr l => .list (toPs l)
  | .dct _ => .none
  | .ty _ => .none
  | .hid => .none
def toPs : List D → List PyData
  | [] => []
  | d :: ds => toP d :: toPs ds
end
mutual
def isP : D → Bool
  | .dct _ => false
  | .ty _ => false
  | .hid => false
  | .lst l => isPs l
  | .tup l => isPs l
  | .scr l => isPs l
  | _ => true
def isPs : List D → Bool
  | [] => true
  | d :: ds => isP d && isPs ds
end
section
variable {K : PySem.W.Frag} {H : Hp}
mutual
theorem rp_dp : ∀ (d : D) (v : V), isP d = true → Rp K H d v → Dp K H v (toP d)
  | .non, v, _, h => by have h : v = .non := h; subst h; exact .non
  | .bl b, v, _, h => by have h : v = .bl b := h; subst h; exact .bl b
  | .int b, v, _, h => by have h : v = .int b := h; subst h; exact .int b
  | .str b, v, _, h => by have h : v = .str b := h; subst h; exact .str b
  | .ty b, v, p, h => by cases p
  | .hid, v, p, h => by cases p
  | .dct b, v, p, h => by cases p
  | .lst ds, v, p, h => by
    obtain ⟨a, xs, rfl, h1, h2⟩ := h
    exact .lst (.inl (.inl h1)) (rps_dp ds xs p h2)
  | .scr ds, v, p, h => by
    obtain ⟨a, xs, rfl, h1, h2⟩ := h
    exact .lst h1 (rps_dp ds xs p h2)
  | .tup ds, v, p, h => by
    obtain ⟨a, xs, rfl, h1, h2⟩ := h
    exact .tup h1 (rps_dp ds xs p h2)
theorem rps_dp : ∀ (ds : List D) (vs : List V), isPs ds = true → Rps K H ds vs → DpAll K H vs (toPs ds)
  | [], vs, _, h => by have h : vs = [] := h; subst h; exact .nil
  | d :: ds, vs, p, h => by
    obtain ⟨v, r, rfl, h1, h2⟩ := h
    have p : (isP d && isPs ds) = true := p
    rw [Bool.and_eq_true] at p
    exact .cons (rp_dp d v p.1 h1) (rps_dp ds r p.2 h2)
end
theorem rd1_dp {Hs : Hp} {d : D} {v : V} (sb : Same Hs H) (p : isP d = true) (h : Rd1 K Hs H d v) : Dp K H v (toP d) := by
  rcases h with h | ⟨a, rfl, h⟩
  · exact rp_dp d v p (Rp.mono sb _ _ h)
  · cases d <;> first | exact h.elim | skip
    · obtain ⟨xs, h1, h2⟩ := h
      exact .lst (.inl (.inl h1)) (rps_dp _ _ p (Rps.mono sb _ _ h2))
    · cases p
end
def shp (d : D) : Bool := isP d && SeqAt.shaped (toP d)
def eqD (a b : D) : Bool := PyData.eqv (toP a) (toP b)
def gEq : List D → Option Tm
  | [.int i, .int j] => some (.im (.bl (decide (i = j))))
  | [.str i, .str j] => some (.im (.bl (decide (i = j))))
  | [a, b] => if shp a && shp b then some (.im (.bl (eqD a b))) else none
  | _ => none
def gNe : List D → Option Tm
  | [.int i, .int j] => some (.im (.bl (!decide (i = j))))
  | [.str i, .str j] => some (.im (.bl (!decide (i = j))))
  | [a, b] => if shp a && shp b then some (.im (.bl (!eqD a b))) else none
  | _ => none
section
variable {X : Cx} {K : PySem.W.Frag}
def rEqAll (K : PySem.W.Frag) : R2 := fun x y H Q => rEq x y H Q ∨ rEqD K x y H Q
def rNeAll (K : PySem.W.Frag) : R2 := fun x y H Q => rNe x y H Q ∨ rNeD K x y H Q
theorem op_eqAll (hu : X.A.units + 64 < cLine) : OpR X (compareOp .Eq) (rEqAll X.K) := or_r op_eq (op_eqD hu)
theorem op_neAll (hu : X.A.units + 64 < cLine) : OpR X (compareOp .NotEq) (rNeAll X.K) := or_r op_ne (op_neD hu)
theorem dec_v {i j : Int} : decide (V.int i = V.int j) = decide (i = j) := by
  by_cases h : i = j
  · subst h; simp
  · rw [decide_eq_false h, decide_eq_false fun z => h (V.int.inj z)]
theorem dec_vs {i j : Str} : decide (V.str i = V.str j) = decide (i = j) := by
  by_cases h : i = j
  · subst h; simp
  · rw [decide_eq_false h, decide_eq_false fun z => h (V.str.inj z)]
theorem pr_eq : PureOk K gEq (r2 (rEqAll K)) := by
  intro Hs H vs ds t Q sb rd q k
  unfold gEq at q
  split at q
  · cases q
    obtain ⟨v, w, rfl, h1, h2⟩ := rds2 rd
    cases rd1_int h1; cases rd1_int h2
    exact ⟨_, _, rfl, .inl ⟨rfl, by rw [dec_v]; exact k _ _ _ (new_bl sb)⟩⟩
  · cases q
    obtain ⟨v, w, rfl, h1, h2⟩ := rds2 rd
    cases rd1_str h1; cases rd1_str h2
    exact ⟨_, _, rfl, .inl ⟨rfl, by rw [dec_vs]; exact k _ _ _ (new_bl sb)⟩⟩
  · split at q
    · rename_i hs
      cases q
      obtain ⟨v, w, rfl, h1, h2⟩ := rds2 rd
      unfold shp at hs
      simp only [Bool.and_eq_true] at hs
      exact ⟨_, _, rfl, .inr ⟨_, _, rd1_dp sb hs.1.1 h1, rd1_dp sb hs.2.1 h2, hs.1.2, hs.2.2, k _ _ _ (new_bl sb)⟩⟩
    · cases q
  · cases q
theorem pr_ne : PureOk K gNe (r2 (rNeAll K)) := by
  intro Hs H vs ds t Q sb rd q k
  unfold gNe at q
  split at q
  · cases q
    obtain ⟨v, w, rfl, h1, h2⟩ := rds2 rd
    cases rd1_int h1; cases rd1_int h2
    exact ⟨_, _, rfl, .inl ⟨rfl, by rw [dec_v]; exact k _ _ _ (new_bl sb)⟩⟩
  · cases q
    obtain ⟨v, w, rfl, h1, h2⟩ := rds2 rd
    cases rd1_str h1; cases rd1_str h2
    exact ⟨_, _, rfl, .inl ⟨rfl, by rw [dec_vs]; exact k _ _ _ (new_bl sb)⟩⟩
  · split at q
    · rename_i hs
      cases q
      obtain ⟨v, w, rfl, h1, h2⟩ := rds2 rd
      unfold shp at hs
      simp only [Bool.and_eq_true] at hs
      exact ⟨_, _, rfl, .inr ⟨_, _, rd1_dp sb hs.1.1 h1, rd1_dp sb hs.2.1 h2, hs.1.2, hs.2.2, k _ _ _ (new_bl sb)⟩⟩
    · cases q
  · cases q
end
end L2.Py
set_option maxRecDepth 100000
namespace L2.Py
open PySem PySem.Spec PyProof.Rows
def sNo : SemS := fun _ => .no
theorem js_never {X : Cx} {W : WX} {st : Stmt} : JS X W st sNo := PS_imp ps_never fun D σ H ⟨vs0, Bk, Hs, e, fr, h⟩ => h
def sNoE : Sem := fun _ => .no
theorem je_never {X : Cx} {W : WX} {e : Expr} : JE X W e sNoE := ⟨fun pins s σ H Q I ⟨vs0, Bk, Hs, en, fr, h⟩ => h.elim⟩
def gIx : List D → Option Tm
  | [.lst ds, .int i] => (atI ds i).map .im
  | [.tup ds, .int i] => (atI ds i).map .im
  | [.scr ds, .int i] => (atI ds i).map .im
  | [.str z, .int i] => if z.length ≤ line then (atI z.cps.toList i).map fun c => .im (.str ⟨#[c]⟩) else none
  | _ => none
theorem at_rps {K : PySem.W.Frag} {H : Hp} {ds : List D} {xs : List V} {i : Int} {d : D} (r : Rps K H ds xs) (h : atI ds i = some d) : ∃ x, atI xs i = some x ∧ Rp K H d x := by
  unfold atI at h ⊢
  rw [← rps_len r]
  cases q : ixN ds.length i with
  | none => rw [q] at h; cases h
  | some j =>
    rw [q] at h
    exact rps_get r h
def cutD (ds : List D) (lo hi : Option Int) : List D := (ds.drop (HT.sIx ds.length 0 lo)).take (HT.sIx ds.length ds.length hi - HT.sIx ds.length 0 lo)
theorem rps_drop {K : PySem.W.Frag} {H : Hp} : ∀ {ds : List D} {xs : List V} (n : Nat), Rps K H ds xs → Rps K H (ds.drop n) (xs.drop n)
  | ds, xs, 0, h => h
  | [], xs, n + 1, h => by have h : xs = [] := h; subst h; rfl
  | d :: ds, xs, n + 1, h => by
    obtain ⟨v, r, rfl, h1, h2⟩ := h
    exact rps_drop n h2
theorem rps_take {K : PySem.W.Frag} {H : Hp} : ∀ {ds : List D} {xs : List V} (n : Nat), Rps K H ds xs → Rps K H (ds.take n) (xs.take n)
  | ds, xs, 0, h => by rw [List.take_zero, List.take_zero]; rfl
  | [], xs, n + 1, h => by have h : xs = [] := h; subst h; rfl
  | d :: ds, xs, n + 1, h => by
    obtain ⟨v, r, rfl, h1, h2⟩ := h
    exact ⟨v, r.take n, rfl, h1, rps_take n h2⟩
theorem rps_cut {K : PySem.W.Frag} {H : Hp} {ds : List D} {xs : List V} (r : Rps K H ds xs) (lo hi : Option Int) : Rps K H (cutD ds lo hi) (cutV xs lo hi) := by
  unfold cutD cutV
  rw [← rps_len r]
  exact rps_take _ (rps_drop _ r)
theorem rps_rev {K : PySem.W.Frag} {H : Hp} : ∀ {ds : List D} {xs : List V}, Rps K H ds xs → Rps K H ds.reverse xs.reverse
  | [], xs, h => by have h : xs = [] := h; subst h; rfl
  | d :: ds, xs, h => by
    obtain ⟨v, r, rfl, h1, h2⟩ := h
    rw [List.reverse_cons, List.reverse_cons]
    exact rps_append (rps_rev h2) ⟨v, [], rfl, h1, rfl⟩
def gSl (lo hi : Option Int) : D → Option Tm
  | .lst ds => some (.ow (.lst (cutD ds lo hi)))
  | .scr ds => some (.ow (.lst (cutD ds lo hi)))
  | .tup ds => some (.im (.tup (cutD ds lo hi)))
  | .str z => if z.length ≤ line then some (.im (.str (cutS z lo hi))) else none
  | _ => none
def sInt (f : Sem) (e : En) : R (Option Int) := match f e with
  | .no => .no
  | .ex x e1 => .ex x e1
  | .ok t e1 => match t.get e1 with
    | some (.int i) => .ok (some i) e1
    | _ => .no
def sPart : Option Sem → En → R (Option Int)
  | none, e => .ok none e
  | some f, e => sInt f e
def PostP (K : PySem.W.Frag) (mg : Str → Option Value) (W : WX) (vs0 : List V) (Bk Hs : Hp) (σ : St) (Q : Option Int → Hp → Prop) : R (Option Int) → Prop
  | .no => False
  | .ok l e' => ∀ Hs' H', Grow Bk Hs Hs' → Frm K vs0 Bk Hs' H' σ e' → Q l H'
  | .ex x e' => ∀ c dx Hs' H', Grow Bk Hs Hs' → Frm K vs0 Bk Hs' H' σ e' → RpX K mg Hs' H' x c dx → W c dx σ H'
def sSlc (f : Sem) (lo hi : Option Sem) : Sem := fun e => match f e with
  | .no => .no
  | .ex x e1 => .ex x e1
  | .ok t e1 => match sPart lo e1 with
    | .no => .no
    | .ex x e2 => .ex x e2
    | .ok l e2 => match sPart hi e2 with
      | .no => .no
      | .ex x e3 => .ex x e3
      | .ok h e3 => match t.get e3 with
        | none => .no
        | some d => match gSl l h d with
          | none => .no
          | some t' => .ok t' e3
def gRev : List D → Option Tm
  | [.lst ds] => some (.ow (.lst ds.reverse))
  | [.scr ds] => some (.ow (.lst ds.reverse))
  | _ => none
def r1 (r : V → Hp → VK → Prop) : List V → Hp → VK → Prop := fun vs H Q => ∃ x, vs = [x] ∧ r x H Q
section
variable {X : Cx} {W : WX} {a b c : Expr} {es : List Expr} {fa fb fc : Sem} {fl : SemL} {pos p : Pos} {x : Str}
variable {K : PySem.W.Frag} {mg : Str → Option Value} {vs0 : List V} {Bk Hs H : Hp} {σ : St} {e : En}
theorem pr_ix : PureOk K gIx (r2 (rIx K)) := by
  intro Hs H vs ds t Q sb rd q k
  unfold gIx at q
  split at q
  · rename_i ds i
    obtain ⟨v, w, rfl, h1, h2⟩ := rds2 rd
    obtain ⟨p, xs, rfl, a1, a2⟩ := rd1_lst sb h1
    cases rd1_int h2
    cases z : atI ds i with
    | none => rw [z] at q; cases q
    | some d =>
      rw [z] at q
      cases q
      obtain ⟨y, y1, y2⟩ := at_rps a2 z
      exact ⟨_, _, rfl, .inl ⟨_, _, _, _, rfl, rfl, .inl (.inl a1), y1, k _ _ _ (new_imm sb y2)⟩⟩
  · rename_i ds i
    obtain ⟨v, w, rfl, h1, h2⟩ := rds2 rd
    obtain ⟨p, xs, rfl, a1, a2⟩ := rd1_tup sb h1
    cases rd1_int h2
    cases z : atI ds i with
    | none => rw [z] at q; cases q
    | some d =>
      rw [z] at q
      cases q
      obtain ⟨y, y1, y2⟩ := at_rps a2 z
      exact ⟨_, _, rfl, .inr (.inl ⟨_, _, _, _, rfl, rfl, a1, y1, k _ _ _ (new_imm sb y2)⟩)⟩
  · rename_i ds i
    obtain ⟨v, w, rfl, h1, h2⟩ := rds2 rd
    obtain ⟨p, xs, rfl, a1, a2⟩ := rd1_scr sb h1
    cases rd1_int h2
    cases z : atI ds i with
    | none => rw [z] at q; cases q
    | some d =>
      rw [z] at q
      cases q
      obtain ⟨y, y1, y2⟩ := at_rps a2 z
      exact ⟨_, _, rfl, .inl ⟨_, _, _, _, rfl, rfl, a1, y1, k _ _ _ (new_imm sb y2)⟩⟩
  · rename_i z i
    split at q
    · rename_i hl
      obtain ⟨v, w, rfl, h1, h2⟩ := rds2 rd
      cases rd1_str h1
      cases rd1_int h2
      cases y : atI z.cps.toList i with
      | none => rw [y] at q; cases q
      | some c =>
        rw [y] at q
        cases q
        exact ⟨_, _, rfl, .inr (.inr ⟨_, _, _, rfl, rfl, by rw [← line_eq]; exact hl, y, k _ _ Hs (new_imm sb rfl)⟩)⟩
    · cases q
  · cases q
theorem je_ix (ha : JE X W a fa) (hb : JE X W b fb) (hs : PlainIx b) : JE X W (.Subscript a b pos) (sOp gIx (s2 fa fb)) := PE_imp (pe_ix ix_seq ha hb hs) fun _ _ _ h => two_fin pr_ix h
theorem one_fin {g : List D → Option Tm} {r : V → Hp → VK → Prop} {Q : VK} (hp : PureOk K g (r1 r)) (h : TI' K mg W (sOp g (sCons fa sNil)) σ H Q) : TI' K mg W fa σ H fun x H1 => r x H1 Q := by
  obtain ⟨vs0, Bk, Hs, e, f, h⟩ := h
  have h1 : TL' K mg W (sCons fa sNil) σ H (fun vs H1 => r1 r vs H1 Q) := ⟨vs0, Bk, Hs, e, f, op_fin hp f h⟩
  refine TI_imp (tl_cons h1) fun x H1 h2 => ?_
  obtain ⟨y, e, q⟩ := tl_nil h2
  cases e
  exact q
theorem pr_rev : PureOk K gRev (r1 fun x H Q => ∃ a xs, x = .ref a ∧ SqL K H a xs ∧ ∀ p, H p = none → Q (.ref p) (upd H p (.lst xs.reverse))) := by
  intro Hs H vs ds t Q sb rd q k
  unfold gRev at q
  split at q
  · cases q
    obtain ⟨v, rfl, h1⟩ := rds1 rd
    obtain ⟨p, xs, rfl, a1, a2⟩ := rd1_lst sb h1
    exact ⟨_, rfl, _, _, rfl, .inl (.inl a1), fun z hz => k _ _ _ (new_lst sb (rps_rev a2) hz)⟩
  · cases q
    obtain ⟨v, rfl, h1⟩ := rds1 rd
    obtain ⟨p, xs, rfl, a1, a2⟩ := rd1_scr sb h1
    exact ⟨_, rfl, _, _, rfl, a1, fun z hz => k _ _ _ (new_lst sb (rps_rev a2) hz)⟩
  · cases q
theorem je_rev {k : Nat} {p1 p2 p3 : Pos} (ha : JE X W a fa) : JE X W (.Subscript a (.Slice none none (some (.UnaryOp .USub (.Constant (.int 1) k p1) p2)) p3) pos) (sOp gRev (sCons fa sNil)) :=
  PE_imp (pe_revL ha) fun σ H Q h => one_fin pr_rev h
theorem pr_neg : PureOk K gNeg (r1 (rU fun i => .int (-i))) := by
  intro Hs H vs ds t Q sb rd q k
  unfold gNeg at q
  split at q
  · cases q
    obtain ⟨v, rfl, h1⟩ := rds1 rd
    cases rd1_int h1
    exact ⟨_, rfl, _, rfl, k _ _ _ (new_int sb)⟩
  · cases q
theorem je_neg (ha : JE X W a fa) : JE X W (.UnaryOp .USub a pos) (sOp gNeg (sCons fa sNil)) := PE_imp (pe_un un_neg ha) fun σ H Q h => one_fin pr_neg h
theorem part_fin {e1 : En} {o : Option Expr} {f : Option Sem} {Q : Option Int → Hp → Prop} {t : TO} (ho : (o = none ∧ f = none ∧ t = tNoPart) ∨ ∃ a fa, o = some a ∧ f = some fa ∧ t = tPart (TI' K mg W fa)) (fr : Frm K vs0 Bk Hs H σ e1)
    (h : PostP K mg W vs0 Bk Hs σ Q (sPart f e1)) : t σ H Q := by
  rcases ho with ⟨rfl, rfl, rfl⟩ | ⟨a, fa, rfl, rfl, rfl⟩
  · exact h Hs H .refl fr
  · refine ⟨vs0, Bk, Hs, e1, fr, ?_⟩
    have h : PostP K mg W vs0 Bk Hs σ Q (sInt fa e1) := h
    unfold sInt at h
    cases q : fa e1 with
    | no => rw [q] at h; exact h
    | ex x e2 => rw [q] at h; exact h
    | ok t e2 =>
      rw [q] at h
      intro v Hs1 H1 g1 t1
      dsimp only at h
      split at h
      · rename_i i hi
        have := rd1_int (t1.2.rd t1.1 hi)
        subst this
        exact ⟨i, rfl, h Hs1 H1 g1 t1.frm⟩
      · exact h.elim
def rSlAll (K : PySem.W.Frag) : V → Option Int → Option Int → Hp → VK → Prop := fun x lo hi H Q => rSlL K x lo hi H Q ∨ rSlA K x lo hi H Q ∨ rSlS x lo hi H Q
theorem sl_all : SlR X (rSlAll X.K) := sl_list.or (sl_tupA.or sl_str)
theorem cut_whole {ds : List D} {lo hi : Option Int} (h : HT.sIx ds.length 0 lo = 0 ∧ HT.sIx ds.length ds.length hi = ds.length) : cutD ds lo hi = ds := by
  unfold cutD
  rw [h.1, h.2, List.drop_zero, Nat.sub_zero, List.take_length]
theorem pr_sl {lo hi : Option Int} {d : D} {v : V} {t : Tm} {Q : VK} (sb : Same Hs H) (rd : Rd1 K Hs H d v) (q : gSl lo hi d = some t) (k : ∀ v H' Hs', NewOut K Hs H t v Hs' H' → Q v H') : rSlAll K v lo hi H Q := by
  unfold gSl at q
  split at q
  · cases q
    obtain ⟨p, xs, rfl, a1, a2⟩ := rd1_lst sb rd
    exact .inl ⟨_, _, rfl, .inl (.inl a1), fun z hz => k _ _ _ (new_lst sb (rps_cut a2 lo hi) hz)⟩
  · cases q
    obtain ⟨p, xs, rfl, a1, a2⟩ := rd1_scr sb rd
    exact .inl ⟨_, _, rfl, a1, fun z hz => k _ _ _ (new_lst sb (rps_cut a2 lo hi) hz)⟩
  · cases q
    have rd' := rd1_tup' rd
    obtain ⟨p, xs, rfl, a1, a2⟩ := rd1_tup sb rd
    refine .inr (.inl ⟨_, _, rfl, a1, fun w => k _ _ Hs (new_imm sb ?_), fun _ z hz => k _ _ _ (new_tup sb (rps_cut a2 lo hi) hz)⟩)
    rw [← rps_len a2] at w
    rw [cut_whole w]
    exact rd'
  · split at q
    · rename_i hl
      cases q
      cases rd1_str rd
      exact .inr (.inr ⟨_, rfl, by rw [← line_eq]; exact hl, k _ _ Hs (new_imm sb rfl)⟩)
    · cases q
  · cases q
def PoOk (X : Cx) (W : WX) (o : Option Expr) (f : Option Sem) : Prop := (o = none ∧ f = none) ∨ ∃ a fa, o = some a ∧ f = some fa ∧ JE X W a fa
theorem po_no : PoOk X W none none := .inl ⟨rfl, rfl⟩
theorem po_so (h : JE X W a fa) : PoOk X W (some a) (some fa) := .inr ⟨_, _, rfl, rfl, h⟩
theorem PoOk.po {o : Option Expr} {f : Option Sem} (h : PoOk X W o f) : ∃ t, PO X o t ∧ ((o = none ∧ f = none ∧ t = tNoPart) ∨ ∃ a fa, o = some a ∧ f = some fa ∧ t = tPart (TI' X.K X.mg W fa)) := by
  rcases h with ⟨rfl, rfl⟩ | ⟨a, fa, rfl, rfl, h⟩
  · exact ⟨_, po_none, .inl ⟨rfl, rfl, rfl⟩⟩
  · exact ⟨_, po_some h, .inr ⟨_, _, rfl, rfl, rfl⟩⟩
theorem je_slice {lo hi : Option Expr} {fl fh : Option Sem} {p2 : Pos} (ha : JE X W a fa) (hl : PoOk X W lo fl) (hh : PoOk X W hi fh) : JE X W (.Subscript a (.Slice lo hi none p2) pos) (sSlc fa fl fh) := by
  obtain ⟨tl, pl, kl⟩ := hl.po
  obtain ⟨th, ph, kh⟩ := hh.po
  refine PE_imp (pe_slice sl_all ha pl ph) fun σ H Q ⟨vs0, Bk, Hs, e, fr, h⟩ => ⟨vs0, Bk, Hs, e, fr, ?_⟩
  unfold sSlc at h
  cases q : fa e with
  | no => rw [q] at h; exact h
  | ex x e1 => rw [q] at h; exact h
  | ok t e1 =>
    rw [q] at h
    intro v Hs1 H1 g1 t1
    have es := ext_same (H := H1) fun a m => (t1.2.own a m).1
    dsimp only at h
    refine part_fin kl t1.1 ?_
    cases q2 : sPart fl e1 with
    | no => rw [q2] at h; exact h
    | ex x e2 => rw [q2] at h; exact fun c dx Hs2 H2 g2 f2 => h c dx Hs2 H2 (g1.trans (g2.weak es)) (f2.weak es)
    | ok l e2 =>
      rw [q2] at h
      intro Hs2 H2 g2 f2
      dsimp only at h
      refine part_fin kh f2 ?_
      cases q3 : sPart fh e2 with
      | no => rw [q3] at h; exact h
      | ex x e3 => rw [q3] at h; exact fun c dx Hs3 H3 g3 f3 => h c dx Hs3 H3 (g1.trans ((g2.trans g3).weak es)) (f3.weak es)
      | ok hh e3 =>
        rw [q3] at h
        intro Hs3 H3 g3 f3
        dsimp only at h
        split at h
        · exact h.elim
        · rename_i d hd
          split at h
          · exact h.elim
          · rename_i t' ht
            have t2 := t1.2.later (g2.trans g3) f3.bb
            refine pr_sl f3.sb (t2.rd f3 hd) ht fun w H4 Hs4 n => ?_
            obtain ⟨a1, a2⟩ := n.tmp f3 es
            exact h w Hs4 H4 ((g1.trans ((g2.trans g3).weak es)).trans a2) a1
end
end L2.Py
set_option maxRecDepth 100000
namespace L2.Py
open PySem PySem.Spec PyProof.Rows
section
variable {X : Cx} {W : WX} {a b c e : Expr} {es : List Expr} {fa fb fc : Sem} {fl : SemL} {pos p : Pos} {x : Str}
theorem je_callB {id : String} {g : List D → Option Tm} {r : List V → Hp → VK → Prop} (hc : CallR X (.builtin id) r) (hp : PureOk X.K g r) (hg : Gl X x) (hm : X.mg x = none) (hv : bootBuiltins x = some (.builtin id)) (ha : JA X W (e :: es) fl) (hn : x ≠ "__name__" := by decide) (hdb : (x == ("__debug__" : Str)) = false := by decide)
    (hs : starEach (e :: es) X.env = (false, eval e X.env) :: starEach es X.env := by rfl) (hpl : (backTo pos (starEach es X.env)).any (·.1) = false := by rfl) : JE X W (.Call (.Name x p) (e :: es) [] pos) (sOp g fl) :=
  PE_imp (pe_callB hc hg hm hv ha hn hdb hs hpl) fun σ H Q ⟨vs0, Bk, Hs, en, fr, h⟩ => ⟨vs0, Bk, Hs, en, fr, op_fin hp fr h⟩
theorem je_callTy {id : String} {g : List D → Option Tm} {r : List V → Hp → VK → Prop} (hc : CallR X (.type id) r) (hp : PureOk X.K g r) (hg : Gl X x) (hm : X.mg x = none) (hv : bootBuiltins x = some (.type id)) (ha : JA X W (e :: es) fl) (hn : x ≠ "__name__" := by decide) (hdb : (x == ("__debug__" : Str)) = false := by decide)
    (hs : starEach (e :: es) X.env = (false, eval e X.env) :: starEach es X.env := by rfl) (hpl : (backTo pos (starEach es X.env)).any (·.1) = false := by rfl) : JE X W (.Call (.Name x p) (e :: es) [] pos) (sOp g fl) :=
  PE_imp (pe_callTy hc hg hm hv ha hn hdb hs hpl) fun σ H Q ⟨vs0, Bk, Hs, en, fr, h⟩ => ⟨vs0, Bk, Hs, en, fr, op_fin hp fr h⟩
end
def intsOf : List D → Option (List Int)
  | [] => some []
  | .int i :: ds => match intsOf ds with
    | some ns => some (i :: ns)
    | none => none
  | _ => none
def blsOf : List D → Option (List Bool)
  | [] => some []
  | .bl i :: ds => match blsOf ds with
    | some ns => some (i :: ns)
    | none => none
  | _ => none
section
variable {K : PySem.W.Frag} {Hs H : Hp}
theorem rps_ints : ∀ {ds : List D} {xs : List V} {ns : List Int}, Rps K H ds xs → intsOf ds = some ns → xs = ns.map V.int
  | [], xs, ns, h, q => by cases q; exact h
  | d :: ds, xs, ns, h, q => by
    obtain ⟨v, r, rfl, h1, h2⟩ := h
    cases d <;> first | (cases q; done) | skip
    rename_i i
    have q : (match intsOf ds with
      | some ns => some (i :: ns)
      | none => none) = some ns := q
    split at q
    · rename_i ns' hn
      cases q
      cases (show v = .int i from h1)
      rw [rps_ints h2 hn]
      rfl
    · cases q
theorem rps_bls : ∀ {ds : List D} {xs : List V} {ns : List Bool}, Rps K H ds xs → blsOf ds = some ns → xs = ns.map V.bl
  | [], xs, ns, h, q => by cases q; exact h
  | d :: ds, xs, ns, h, q => by
    obtain ⟨v, r, rfl, h1, h2⟩ := h
    cases d <;> first | (cases q; done) | skip
    rename_i i
    have q : (match blsOf ds with
      | some ns => some (i :: ns)
      | none => none) = some ns := q
    split at q
    · rename_i ns' hn
      cases q
      cases (show v = .bl i from h1)
      rw [rps_bls h2 hn]
      rfl
    · cases q
theorem intsOf_map (ns : List Int) : intsOf (ns.map D.int) = some ns := by
  induction ns with
  | nil => rfl
  | cons n ns ih => show (match intsOf (ns.map D.int) with
      | some ns => some (n :: ns)
      | none => none) = _; rw [ih]
theorem blsOf_map (ns : List Bool) : blsOf (ns.map D.bl) = some ns := by
  induction ns with
  | nil => rfl
  | cons n ns ih => show (match blsOf (ns.map D.bl) with
      | some ns => some (n :: ns)
      | none => none) = _; rw [ih]
def lstOf : D → Option (List D)
  | .lst l => some l
  | .scr l => some l
  | _ => none
theorem rd1_seq {d : D} {l : List D} {v : V} (sb : Same Hs H) (h : Rd1 K Hs H d v) (q : lstOf d = some l) : ∃ p xs, v = .ref p ∧ SqL K H p xs ∧ Rps K Hs l xs := by
  cases d <;> first | (cases q; done) | skip
  · cases q
    obtain ⟨p, xs, h1, h2, h3⟩ := rd1_lst sb h
    exact ⟨p, xs, h1, .inl (.inl h2), h3⟩
  · cases q
    obtain ⟨p, xs, h1, h2, h3⟩ := rd1_scr sb h
    exact ⟨p, xs, h1, h2, h3⟩
end
def maxL : List Int → Int
  | [] => 0
  | [x] => x
  | x :: xs => max x (maxL xs)
def minL : List Int → Int
  | [] => 0
  | [x] => x
  | x :: xs => min x (minL xs)
theorem maxL_is : ∀ {ns : List Int} {m : Int}, 0 < ns.length → m ∈ ns → (∀ y ∈ ns, y ≤ m) → m = maxL ns
  | [x], m, _, hm, h => List.mem_singleton.mp hm
  | x :: y :: r, m, _, hm, h => by
    have hx := h x List.mem_cons_self
    have e : maxL (x :: y :: r) = max x (maxL (y :: r)) := rfl
    by_cases q : m ∈ y :: r
    · have := maxL_is (ns := y :: r) (m := m) (by simp) q fun z hz => h z (List.mem_cons_of_mem _ hz)
      rw [e, ← this]
      omega
    · have hmx : m = x := (List.mem_cons.mp hm).resolve_right q
      subst hmx
      have bd : ∀ (ns : List Int), 0 < ns.length → (∀ z ∈ ns, z ≤ m) → maxL ns ≤ m := by
        intro ns
        induction ns with
        | nil => intro h; simp at h
        | cons a ns ih =>
          intro _ hz
          cases ns with
          | nil => exact hz a List.mem_cons_self
          | cons b ns =>
            have e2 : maxL (a :: b :: ns) = max a (maxL (b :: ns)) := rfl
            have h1 := hz a List.mem_cons_self
            have h2 := ih (by simp) fun z hz' => hz z (List.mem_cons_of_mem _ hz')
            rw [e2]
            omega
      have := bd (y :: r) (by simp) fun z hz => h z (List.mem_cons_of_mem _ hz)
      rw [e]
      omega
theorem minL_is : ∀ {ns : List Int} {m : Int}, 0 < ns.length → m ∈ ns → (∀ y ∈ ns, m ≤ y) → m = minL ns
  | [x], m, _, hm, h => List.mem_singleton.mp hm
  | x :: y :: r, m, _, hm, h => by
    have hx := h x List.mem_cons_self
    have e : minL (x :: y :: r) = min x (minL (y :: r)) := rfl
    by_cases q : m ∈ y :: r
    · have := minL_is (ns := y :: r) (m := m) (by simp) q fun z hz => h z (List.mem_cons_of_mem _ hz)
      rw [e, ← this]
      omega
    · have hmx : m = x := (List.mem_cons.mp hm).resolve_right q
      subst hmx
      have bd : ∀ (ns : List Int), 0 < ns.length → (∀ z ∈ ns, m ≤ z) → m ≤ minL ns := by
        intro ns
        induction ns with
        | nil => intro h; simp at h
        | cons a ns ih =>
          intro _ hz
          cases ns with
          | nil => exact hz a List.mem_cons_self
          | cons b ns =>
            have e2 : minL (a :: b :: ns) = min a (minL (b :: ns)) := rfl
            have h1 := hz a List.mem_cons_self
            have h2 := ih (by simp) fun z hz' => hz z (List.mem_cons_of_mem _ hz')
            rw [e2]
            omega
      have := bd (y :: r) (by simp) fun z hz => h z (List.mem_cons_of_mem _ hz)
      rw [e]
      omega
def gAbs : List D → Option Tm
  | [.int i] => some (.im (.int (i.natAbs : Int)))
  | _ => none
def gInt : List D → Option Tm
  | [.int i] => some (.im (.int i))
  | [.bl b] => some (.im (.int (if b then 1 else 0)))
  | _ => none
def gDivmod : List D → Option Tm
  | [.int i, .int j] => if 0 < j ∧ j < 1073741824 then some (.im (.tup [.int (i / j), .int (i % j)])) else none
  | _ => none
def gLen : List D → Option Tm
  | [.lst l] => some (.im (.int (l.length : Int)))
  | [.tup l] => some (.im (.int (l.length : Int)))
  | [.scr l] => some (.im (.int (l.length : Int)))
  | [.str z] => if z.length ≤ line then some (.im (.int (z.length : Int))) else none
  | _ => none
def ints1 (f : List Int → Option D) : List D → Option Tm
  | [d] => match lstOf d with
    | none => none
    | some l => match intsOf l with
      | none => none
      | some ns => (f ns).map .im
  | _ => none
def gSum : List D → Option Tm := ints1 fun ns => some (.int ns.sum)
def gMax : List D → Option Tm
  | [.int i, .int j] => some (.im (.int (max i j)))
  | l => ints1 (fun ns => if ns = [] then none else some (.int (maxL ns))) l
def gMin : List D → Option Tm
  | [.int i, .int j] => some (.im (.int (min i j)))
  | l => ints1 (fun ns => if ns = [] then none else some (.int (minL ns))) l
def bls1 (f : List Bool → Bool) : List D → Option Tm
  | [d] => match lstOf d with
    | none => none
    | some l => match blsOf l with
      | none => none
      | some ns => some (.im (.bl (f ns)))
  | _ => none
def gAll : List D → Option Tm := bls1 fun bs => bs.all id
def gAny : List D → Option Tm := bls1 fun bs => bs.any id
def gList : List D → Option Tm
  | [.lst l] => some (.ow (.lst l))
  | [.tup l] => some (.ow (.lst l))
  | [.scr l] => some (.ow (.lst l))
  | _ => none
def gTuple : List D → Option Tm
  | [.lst l] => some (.im (.tup l))
  | [.tup l] => some (.im (.tup l))
  | [.scr l] => some (.im (.tup l))
  | _ => none
section
variable {X : Cx} {W : WX} {K : PySem.W.Frag}
theorem pr_abs : PureOk K gAbs (fun xs H Q => ∃ i, xs = [.int i] ∧ Q (.int (if i < 0 then -i else i)) H) := by
  intro Hs H vs ds t Q sb rd q k
  unfold gAbs at q
  split at q
  · rename_i i
    cases q
    obtain ⟨v, rfl, h1⟩ := rds1 rd
    cases rd1_int h1
    refine ⟨_, rfl, ?_⟩
    have e : (if i < 0 then -i else i) = (i.natAbs : Int) := by split <;> omega
    rw [e]
    exact k _ _ _ (new_int sb)
  · cases q
theorem pr_int : PureOk K gInt (fun xs H Q => (∃ i, xs = [.int i] ∧ Q (.int i) H) ∨ ∃ k, xs = [.bl k] ∧ Q (.int (if k then 1 else 0)) H) := by
  intro Hs H vs ds t Q sb rd q k
  unfold gInt at q
  split at q
  · cases q
    obtain ⟨v, rfl, h1⟩ := rds1 rd
    cases rd1_int h1
    exact .inl ⟨_, rfl, k _ _ _ (new_int sb)⟩
  · cases q
    obtain ⟨v, rfl, h1⟩ := rds1 rd
    cases rd1_bl h1
    exact .inr ⟨_, rfl, k _ _ _ (new_int sb)⟩
  · cases q
theorem pr_divmod : PureOk K gDivmod (fun xs H Q => ∃ i j, xs = [.int i, .int j] ∧ CDiv i j ∧ ∀ p, H p = none → Q (.ref p) (upd H p (.tup [.int (i / j), .int (i % j)]))) := by
  intro Hs H vs ds t Q sb rd q k
  unfold gDivmod at q
  split at q
  · split at q
    · rename_i hj
      cases q
      obtain ⟨v, w, rfl, h1, h2⟩ := rds2 rd
      cases rd1_int h1; cases rd1_int h2
      exact ⟨_, _, rfl, hj, fun p np => k _ _ _ (new_tup sb ⟨_, _, rfl, rfl, _, _, rfl, rfl, rfl⟩ np)⟩
    · cases q
  · cases q
theorem pr_len : PureOk K gLen (fun xs H Q => ∃ x n, xs = [x] ∧ LenV K x H n ∧ Q (.int n) H) := by
  intro Hs H vs ds t Q sb rd q k
  unfold gLen at q
  split at q
  · cases q
    obtain ⟨v, rfl, h1⟩ := rds1 rd
    obtain ⟨p, xs, rfl, a1, a2⟩ := rd1_lst sb h1
    exact ⟨_, _, rfl, .inl ⟨xs, .inl (.inl a1), rps_len a2⟩, k _ _ _ (new_int sb)⟩
  · cases q
    obtain ⟨v, rfl, h1⟩ := rds1 rd
    obtain ⟨p, xs, rfl, a1, a2⟩ := rd1_tup sb h1
    exact ⟨_, _, rfl, .inr ⟨xs, a1, rps_len a2⟩, k _ _ _ (new_int sb)⟩
  · cases q
    obtain ⟨v, rfl, h1⟩ := rds1 rd
    obtain ⟨p, xs, rfl, a1, a2⟩ := rd1_scr sb h1
    exact ⟨_, _, rfl, .inl ⟨xs, a1, rps_len a2⟩, k _ _ _ (new_int sb)⟩
  · split at q
    · rename_i hl
      cases q
      obtain ⟨v, rfl, h1⟩ := rds1 rd
      cases rd1_str h1
      exact ⟨_, _, rfl, ⟨by rw [← line_eq]; exact hl, rfl⟩, k _ _ _ (new_int sb)⟩
    · cases q
  · cases q
theorem ints1_ok {f : List Int → Option D} {ds : List D} {t : Tm} {Hs H : Hp} {vs : List V} (sb : Same Hs H) (rd : Rds K Hs H ds vs) (q : ints1 f ds = some t) : ∃ p ns d, vs = [.ref p] ∧ SqL K H p (ns.map V.int) ∧ f ns = some d ∧ t = .im d := by
  unfold ints1 at q
  split at q
  · split at q
    · cases q
    · rename_i l hl
      split at q
      · cases q
      · rename_i ns hn
        obtain ⟨v, rfl, h1⟩ := rds1 rd
        obtain ⟨p, xs, rfl, a1, a2⟩ := rd1_seq sb h1 hl
        have e := rps_ints a2 hn
        subst e
        cases z : f ns with
        | none => rw [z] at q; cases q
        | some d => rw [z] at q; cases q; exact ⟨p, ns, d, rfl, a1, z, rfl⟩
  · cases q
theorem pr_sum : PureOk K gSum (rSum K) := by
  intro Hs H vs ds t Q sb rd q k
  obtain ⟨p, ns, d, rfl, h1, h2, rfl⟩ := ints1_ok sb rd q
  cases h2
  exact ⟨p, ns, rfl, h1, k _ _ _ (new_int sb)⟩
theorem call_maxAll (hc : X.calm = true) : CallR X (.builtin "max") (fun xs H Q => (∃ i j, xs = [.int i, .int j] ∧ Q (.int (if j > i then j else i)) H) ∨ rMax X.K xs H Q) := (call_max2 hc).or (cr_max hc)
theorem call_minAll (hc : X.calm = true) : CallR X (.builtin "min") (fun xs H Q => (∃ i j, xs = [.int i, .int j] ∧ Q (.int (if j < i then j else i)) H) ∨ rMin X.K xs H Q) := (call_min2 hc).or (cr_min hc)
theorem pr_max : PureOk K gMax (fun xs H Q => (∃ i j, xs = [.int i, .int j] ∧ Q (.int (if j > i then j else i)) H) ∨ rMax K xs H Q) := by
  intro Hs H vs ds t Q sb rd q k
  unfold gMax at q
  split at q
  · rename_i i j
    cases q
    obtain ⟨v, w, rfl, h1, h2⟩ := rds2 rd
    cases rd1_int h1; cases rd1_int h2
    refine .inl ⟨_, _, rfl, ?_⟩
    have e : (if j > i then j else i) = max i j := by split <;> omega
    rw [e]
    exact k _ _ _ (new_int sb)
  · obtain ⟨p, ns, d, rfl, h1, h2, rfl⟩ := ints1_ok sb rd q
    split at h2
    · cases h2
    · rename_i hne
      cases h2
      have hpos : 0 < ns.length := by cases ns with
        | nil => exact (hne rfl).elim
        | cons a r => exact Nat.succ_pos _
      exact .inr ⟨p, ns, rfl, h1, hpos, fun m hm hb => by rw [maxL_is hpos hm hb]; exact k _ _ _ (new_int sb)⟩
theorem pr_min : PureOk K gMin (fun xs H Q => (∃ i j, xs = [.int i, .int j] ∧ Q (.int (if j < i then j else i)) H) ∨ rMin K xs H Q) := by
  intro Hs H vs ds t Q sb rd q k
  unfold gMin at q
  split at q
  · rename_i i j
    cases q
    obtain ⟨v, w, rfl, h1, h2⟩ := rds2 rd
    cases rd1_int h1; cases rd1_int h2
    refine .inl ⟨_, _, rfl, ?_⟩
    have e : (if j < i then j else i) = min i j := by split <;> omega
    rw [e]
    exact k _ _ _ (new_int sb)
  · obtain ⟨p, ns, d, rfl, h1, h2, rfl⟩ := ints1_ok sb rd q
    split at h2
    · cases h2
    · rename_i hne
      cases h2
      have hpos : 0 < ns.length := by cases ns with
        | nil => exact (hne rfl).elim
        | cons a r => exact Nat.succ_pos _
      exact .inr ⟨p, ns, rfl, h1, hpos, fun m hm hb => by rw [minL_is hpos hm hb]; exact k _ _ _ (new_int sb)⟩
theorem bls1_ok {f : List Bool → Bool} {ds : List D} {t : Tm} {Hs H : Hp} {vs : List V} (sb : Same Hs H) (rd : Rds K Hs H ds vs) (q : bls1 f ds = some t) : ∃ p bs, vs = [.ref p] ∧ SqL K H p (bs.map V.bl) ∧ t = .im (.bl (f bs)) := by
  unfold bls1 at q
  split at q
  · split at q
    · cases q
    · rename_i l hl
      split at q
      · cases q
      · rename_i ns hn
        cases q
        obtain ⟨v, rfl, h1⟩ := rds1 rd
        obtain ⟨p, xs, rfl, a1, a2⟩ := rd1_seq sb h1 hl
        have e := rps_bls a2 hn
        subst e
        exact ⟨p, ns, rfl, a1, rfl⟩
  · cases q
theorem pr_all : PureOk K gAll (rAll K) := by
  intro Hs H vs ds t Q sb rd q k
  obtain ⟨p, ns, rfl, h1, rfl⟩ := bls1_ok sb rd q
  exact ⟨p, ns, rfl, h1, k _ _ _ (new_bl sb)⟩
theorem pr_any : PureOk K gAny (rAny K) := by
  intro Hs H vs ds t Q sb rd q k
  obtain ⟨p, ns, rfl, h1, rfl⟩ := bls1_ok sb rd q
  exact ⟨p, ns, rfl, h1, k _ _ _ (new_bl sb)⟩
theorem pr_list : PureOk K gList (fun xs H Q => ∃ p ys, xs = [.ref p] ∧ (SqL K H p ys ∨ SqT K H p ys) ∧ ∀ l, H l = none → Q (.ref l) (upd H l (.lst ys))) := by
  intro Hs H vs ds t Q sb rd q k
  unfold gList at q
  split at q
  · cases q
    obtain ⟨v, rfl, h1⟩ := rds1 rd
    obtain ⟨p, xs, rfl, a1, a2⟩ := rd1_lst sb h1
    exact ⟨_, _, rfl, .inl (.inl (.inl a1)), fun z hz => k _ _ _ (new_lst sb a2 hz)⟩
  · cases q
    obtain ⟨v, rfl, h1⟩ := rds1 rd
    obtain ⟨p, xs, rfl, a1, a2⟩ := rd1_tup sb h1
    exact ⟨_, _, rfl, .inr a1, fun z hz => k _ _ _ (new_lst sb a2 hz)⟩
  · cases q
    obtain ⟨v, rfl, h1⟩ := rds1 rd
    obtain ⟨p, xs, rfl, a1, a2⟩ := rd1_scr sb h1
    exact ⟨_, _, rfl, .inl a1, fun z hz => k _ _ _ (new_lst sb a2 hz)⟩
  · cases q
theorem pr_tuple : PureOk K gTuple (fun xs H Q => ∃ p ys, xs = [.ref p] ∧ ((SqL K H p ys ∧ ∀ l, H l = none → Q (.ref l) (upd H l (.tup ys))) ∨ (SqT K H p ys ∧ Q (.ref p) H))) := by
  intro Hs H vs ds t Q sb rd q k
  unfold gTuple at q
  split at q
  · cases q
    obtain ⟨v, rfl, h1⟩ := rds1 rd
    obtain ⟨p, xs, rfl, a1, a2⟩ := rd1_lst sb h1
    exact ⟨_, _, rfl, .inl ⟨.inl (.inl a1), fun z hz => k _ _ _ (new_tup sb a2 hz)⟩⟩
  · cases q
    obtain ⟨v, rfl, h1⟩ := rds1 rd
    have h1' := rd1_tup' h1
    obtain ⟨p, xs, rfl, a1, a2⟩ := rd1_tup sb h1
    exact ⟨_, _, rfl, .inr ⟨a1, k _ _ Hs (new_imm sb h1')⟩⟩
  · cases q
    obtain ⟨v, rfl, h1⟩ := rds1 rd
    obtain ⟨p, xs, rfl, a1, a2⟩ := rd1_scr sb h1
    exact ⟨_, _, rfl, .inl ⟨a1, fun z hz => k _ _ _ (new_tup sb a2 hz)⟩⟩
  · cases q
end
def tyD : D → String
  | .non => "NoneType"
  | .bl _ => "bool"
  | .int _ => "int"
  | .str _ => "str"
  | .lst _ => "list"
  | .scr _ => "list"
  | .tup _ => "tuple"
  | .dct _ => "dict"
  | .ty _ => "type"
  | .hid => "hid"
def NTy (d : D) : Prop := (∀ s, d ≠ .ty s) ∧ d ≠ .hid
def isiD (d : D) (n : String) : Option Bool := match d with
  | .ty _ => none
  | .hid => none
  | d => kitB (tyD d) n
def gIsi : List D → Option Tm
  | [d, .ty n] => (isiD d n).map fun b => .im (.bl b)
  | _ => none
def isiAny (d : D) : List String → Option Bool
  | [] => some false
  | n :: ns => match isiD d n, isiAny d ns with
    | some b, some c => some (b || c)
    | _, _ => none
def gIsiT (ns : List String) : List D → Option Tm
  | [d] => (isiAny d ns).map fun b => .im (.bl b)
  | _ => none
section
variable {X : Cx} {W : WX} {K : PySem.W.Frag} {Hs H : Hp}
theorem sql_ty {p : Addr} {xs : List V} (h : SqL K H p xs) : TyX K H (.ref p) (.type "list") := by
  rcases h with (h | ⟨o, h⟩) | ⟨o, its, n, h1, h2, _⟩
  · exact .base (.lst h)
  · exact .base (.frz h)
  · exact .kList h1 h2
theorem sqt_ty {p : Addr} {xs : List V} (h : SqT K H p xs) : TyX K H (.ref p) (.type "tuple") := by
  rcases h with (h | ⟨o, h⟩) | ⟨o, its, n, h1, h2, _⟩
  · exact .base (.tup h)
  · exact .fTuple h
  · exact .kTuple h1 h2
theorem rd1_tyX {d : D} {v : V} (sb : Same Hs H) (h : Rd1 K Hs H d v) (n : NTy d) : TyX K H v (.type (tyD d)) := by
  cases d with
  | non => cases rd1_non h; exact .base .non
  | bl b => cases rd1_bl h; exact .base (.bl b)
  | int b => cases rd1_int h; exact .base (.int b)
  | str b => cases rd1_str h; exact .base (.str b)
  | lst l => obtain ⟨p, xs, rfl, a1, _⟩ := rd1_lst sb h; exact .base (.lst a1)
  | scr l => obtain ⟨p, xs, rfl, a1, _⟩ := rd1_scr sb h; exact sql_ty a1
  | tup l => obtain ⟨p, xs, rfl, a1, _⟩ := rd1_tup sb h; exact sqt_ty a1
  | dct l => obtain ⟨p, xs, rfl, a1, _⟩ := rd1_dct sb h; exact a1.elim (fun z => .base (.dK z)) fun ⟨o, z⟩ => .fDict z
  | ty s => exact (n.1 s rfl).elim
  | hid => exact (n.2 rfl).elim
theorem isiD_ok {d : D} {n : String} {b : Bool} (h : isiD d n = some b) : (NTy d) ∧ kitB (tyD d) n = some b := by
  unfold isiD at h
  split at h
  · cases h
  · cases h
  · rename_i nt nh
    exact ⟨⟨fun s z => nt s z, fun z => nh z⟩, h⟩
theorem pr_isi : PureOk K gIsi (rIsi K) := by
  intro Hs H vs ds t Q sb rd q k
  unfold gIsi at q
  split at q
  · rename_i d n
    obtain ⟨v, w, rfl, h1, h2⟩ := rds2 rd
    cases rd1_ty h2
    cases z : isiD d n with
    | none => rw [z] at q; cases q
    | some b =>
      rw [z] at q
      cases q
      obtain ⟨z1, z2⟩ := isiD_ok z
      exact ⟨_, _, _, _, _, rfl, .ty n, rd1_tyX sb h1 z1, kit_ty z2, k _ _ _ (new_bl sb)⟩
  · cases q
theorem je_tyname {x : Str} {n : String} {pos : Pos} (hg : Gl X x) (hm : X.mg x = none) (hv : bootBuiltins x = some (.type n)) (hn : x ≠ "__name__" := by decide) (hd : (x == ("__debug__" : Str)) = false := by decide) : JE X W (.Name x pos) (sK (.ty n)) :=
  PE_imp (pe_bltn (v := .ty n) hg hm hv rfl hn hd) fun σ H Q ⟨vs0, Bk, Hs, e, f, h⟩ => h (.ty n) Hs H .refl (tmp_im f rfl)
def tTys (ns : List String) : TA := fun σ H Q => Q (ns.map V.ty) H
theorem pt_nil : PA X [] (tTys []) := pa_nil
theorem pt_cons {x : Str} {n : String} {ns : List String} {es : List Expr} {pos : Pos} (hg : Gl X x) (hm : X.mg x = none) (hv : bootBuiltins x = some (.type n)) (hr : PA X es (tTys ns)) (hs : starEach (.Name x pos :: es) X.env = (false, eval (.Name x pos) X.env) :: starEach es X.env := by rfl) (hn : x ≠ "__name__" := by decide) (hd : (x == ("__debug__" : Str)) = false := by decide) : PA X (.Name x pos :: es) (tTys (n :: ns)) :=
  pa_cons (pe_bltn (v := .ty n) hg hm hv rfl hn hd) hr hs
theorem isiAny_ok {d : D} : ∀ {ns : List String} {b : Bool}, isiAny d ns = some b → (NTy d) → PySem.W.kitAny K (.type (tyD d)) (ns.map Value.type) = some b
  | [], b, h, n => by cases h; rfl
  | m :: ns, b, h, n => by
    have h : (match isiD d m, isiAny d ns with
      | some b, some c => some (b || c)
      | _, _ => none) = some b := h
    split at h
    · rename_i x c h1 h2
      cases h
      refine kitAny_cons (kit_ty (isiD_ok h1).2) (fun hb => ?_) (fun hb => ?_)
      · rw [hb, Bool.false_or]; exact isiAny_ok h2 n
      · rw [hb]; rfl
    · cases h
theorem cls_tys (ns : List String) : Paired ClsV (ns.map V.ty) (ns.map Value.type) := by
  induction ns with
  | nil => exact .nil
  | cons n ns ih => exact .cons (.ty n) ih
theorem je_isiT {a : Expr} {ts : List Expr} {ns : List String} {fa : Sem} {k : Nat} {p pt pos : Pos} (hg : Gl X "isinstance") (hm : X.mg "isinstance" = none) (ha : JE X W a fa) (ht : PA X ts (tTys ns)) (hns : ns ≠ []) (hfew : ns.length ≤ 16777216)
    (hs : starEach [a, .Tuple ts k pt] X.env = (false, eval a X.env) :: starEach [.Tuple ts k pt] X.env := by rfl) (hs2 : starEach [.Tuple ts k pt] X.env = (false, eval (.Tuple ts k pt) X.env) :: starEach [] X.env := by rfl) (hpl : (backTo pos (starEach [.Tuple ts k pt] X.env)).any (·.1) = false := by rfl) :
    JE X W (.Call (.Name "isinstance" p) [a, .Tuple ts k pt] [] pos) (sOp (gIsiT ns) (sCons fa sNil)) :=
  PE_imp (pe_callB call_isiT hg hm PyProof.Rows.boot_isinstance (pa_cons ha (pa_cons (pe_tup ht) pa_nil hs2) hs) (by decide) (by decide) hs hpl) fun σ H Q h => by
    obtain ⟨vs0, Bk, Hs, e, f, h⟩ := h
    refine ⟨vs0, Bk, Hs, e, f, ?_⟩
    unfold sOp at h
    have hc : sCons fa sNil e = match fa e with
      | .no => .no
      | .ex x e1 => .ex x e1
      | .ok t e1 => .ok [t] e1 := rfl
    rw [hc] at h
    cases q : fa e with
    | no => rw [q] at h; exact h
    | ex x e1 => rw [q] at h; exact h
    | ok t e1 =>
      rw [q] at h
      intro v Hs1 H1 g1 t1
      have h : PostE X.K X.mg W vs0 Bk Hs σ Q (sPure (gIsiT ns) [t] e1) := h
      unfold sPure at h
      have hga : getAll e1 [t] = (match t.get e1 with
        | none => none
        | some d => some [d]) := by
        unfold getAll
        cases t.get e1 <;> rfl
      rw [hga] at h
      cases hd : t.get e1 with
      | none => rw [hd] at h; exact h.elim
      | some d =>
        rw [hd] at h
        dsimp only at h
        have h : PostE X.K X.mg W vs0 Bk Hs σ Q (match (isiAny d ns).map (fun b => Tm.im (D.bl b)) with | none => .no | some t => .ok t e1) := h
        cases z : isiAny d ns with
        | none => rw [z] at h; exact h.elim
        | some b =>
          rw [z] at h
          have nty : NTy d := by
            cases ns with
            | nil => exact (hns rfl).elim
            | cons m ns =>
              have z : (match isiD d m, isiAny d ns with
                | some b, some c => some (b || c)
                | _, _ => none) = some b := z
              split at z
              · rename_i x c h1 h2; exact (isiD_ok h1).1
              · cases z
          have rd := t1.2.rd t1.1 hd
          have hl : (ns.map V.ty).length ≤ sizeLine := by rw [List.length_map, sizeLine_eq]; exact hfew
          show (ns.map V.ty).length ≤ sizeLine ∧ ∀ p, H1 p = none → rIsiT X.K [v, .ref p] (upd H1 p (.tup (ns.map V.ty))) Q
          refine ⟨hl, fun p np => ?_⟩
          have sm : Same H1 (upd H1 p (.tup (ns.map V.ty))) := same_upd np
          have rd' : Rd1 X.K Hs1 (upd H1 p (.tup (ns.map V.ty))) d v := by
            rcases rd with rd | ⟨p', e1, rd⟩
            · exact .inl rd
            · obtain ⟨o, ho⟩ := rd.some
              exact .inr ⟨p', e1, rd.mono (.refl _) (upd_ne (ne_of_none ho np))⟩
          refine ⟨_, _, _, _, _, _, rfl, upd_same, cls_tys ns, rd1_tyX (t1.1.sb.trans sm) rd' nty, isiAny_ok z nty, ?_⟩
          have n : NewOut X.K Hs1 H1 (.im (.bl b)) (.bl b) Hs1 (upd H1 p (.tup (ns.map V.ty))) := ⟨sm, .refl _, t1.1.sb.trans sm, fun a z q => absurd z q, rfl⟩
          obtain ⟨a1, a2⟩ := n.tmp t1.1 (ext_same fun a m => (t1.2.own a m).1)
          exact h _ Hs1 _ (g1.trans a2) a1
end
end L2.Py
set_option maxRecDepth 100000
namespace L2.Py
open PySem PySem.Spec PyProof.Rows
section
variable {K : PySem.W.Frag} {mg : Str → Option Value} {Hs Hs' H H' Bk Bk' : Hp} {d d' : D} {p : Addr} {vs0 : List V} {σ : St} {e e' : En} {i : Nat} {fl : Fl} {t t' : Tm} {v : V}
theorem Frm.mut {o' : HO} (f : Frm K vs0 Bk Hs H σ e) (q : e[i]? = some (some (d, fl))) (ow : fl.own = true) (hs : σ[i]? = some (some (.ref p))) (r : OwnAt K Hs (upd H p o') d' p) :
    Frm K vs0 Bk Hs (upd H p o') σ (e.set i (some (d', fl))) := by
  obtain ⟨p', a1, a2, a3, a4⟩ := f.ow i d fl q ow
  rw [hs] at a1
  cases a1
  have keep : ∀ {B : Hp}, Same B H → B p = none → Same B (upd H p o') := fun {B} s n a o h => by
    rw [upd_ne (fun z => by subst z; rw [n] at h; cases h)]
    exact s a o h
  refine ⟨by rw [List.length_set]; exact f.len, keep f.sb a3, keep f.bb a4, fun j dj fj h o => ?_, fun j dj fj h o => ?_, fun j k dj fj dk fk x hj oj hk ok sj sk => ?_, fun j dj fj h o => ?_⟩
  · rcases get_set h with ⟨rfl, h1⟩ | ⟨n, h1⟩
    · cases h1; rw [ow] at o; cases o
    · exact f.sh j dj fj h1 o
  · rcases get_set h with ⟨rfl, h1⟩ | ⟨n, h1⟩
    · cases h1
      exact ⟨p, hs, r, a3, a4⟩
    · obtain ⟨z, b1, b2, b3, b4⟩ := f.ow j dj fj h1 o
      refine ⟨z, b1, b2.mono (.refl _) (upd_ne fun w => ?_), b3, b4⟩
      subst w
      exact n (f.dj j i _ _ _ _ z h1 o q ow b1 hs)
  · rcases get_set hj with ⟨e1, h1⟩ | ⟨n1, h1⟩ <;> rcases get_set hk with ⟨e2, h2⟩ | ⟨n2, h2⟩
    · exact e1.trans e2.symm
    · subst e1
      cases h1
      exact f.dj _ _ _ _ _ _ x q ow h2 ok sj sk
    · subst e2
      cases h2
      exact f.dj _ _ _ _ _ _ x h1 oj q ow sj sk
    · exact f.dj _ _ _ _ _ _ x h1 oj h2 ok sj sk
  · rcases get_set h with ⟨rfl, h1⟩ | ⟨n, h1⟩
    · cases h1
      exact f.pn _ _ _ q o
    · exact f.pn j dj fj h1 o
end
def sMut (fo : Sem) (fl : SemL) (m : D → List D → Option (Tm × D)) : Sem := fun e => match fo e with
  | .ok (.sl i) e1 => match fl e1 with
    | .no => .no
    | .ex x e2 => .ex x e2
    | .ok ts e2 => match takeAll ts e2 with
      | none => .no
      | some (ts', e3) => match e3[i]? with
        | some (some (d, f)) => if f.own then match m d (ts'.map dOf) with
          | none => .no
          | some (t, d') => .ok t (e3.set i (some (d', f))) else .no
        | _ => .no
  | .ex x e1 => .ex x e1
  | _ => .no
def MutOk (K : PySem.W.Frag) (m : D → List D → Option (Tm × D)) (r : V → List V → Hp → VK → Prop) : Prop :=
  ∀ (Hs H : Hp) (p : Addr) (vs : List V) (d : D) (ds : List D) (t : Tm) (d' : D) (Q : VK), Same Hs H → Hs p = none → OwnAt K Hs H d p → Rps K Hs ds vs → m d ds = some (t, d') →
    (∀ v o', OwnAt K Hs (upd H p o') d' p → (∃ c, t = .im c ∧ Rp K Hs c v) → Q v (upd H p o')) → r (.ref p) vs H Q
def mApp : D → List D → Option (Tm × D)
  | .lst ds, [d] => if ds.length < line then some (.im .non, .lst (ds ++ [d])) else none
  | _, _ => none
def mExt : D → List D → Option (Tm × D)
  | .lst ds, [.lst es] => if ds.length + es.length ≤ line then some (.im .non, .lst (ds ++ es)) else none
  | _, _ => none
def mPop : D → List D → Option (Tm × D)
  | .lst ds, [] => match ds[ds.length - 1]? with
    | none => none
    | some c => some (.im c, .lst ds.dropLast)
  | _, _ => none
section
variable {X : Cx} {W : WX} {o a b : Expr} {es : List Expr} {fo : Sem} {fl : SemL} {apos cpos : Pos} {K : PySem.W.Frag}
theorem rps_len_le {H : Hp} {ds : List D} {xs : List V} (h : Rps K H ds xs) : xs.length = ds.length := (rps_len h).symm
theorem mu_app : MutOk K mApp rAppend := by
  intro Hs H p vs d ds t d' Q sb np ow rs q k
  unfold mApp at q
  split at q
  · rename_i ds c
    split at q
    · rename_i hl
      cases q
      obtain ⟨xs, h1, h2⟩ := ow
      obtain ⟨v, r, rfl, r1, rfl⟩ := rs
      refine ⟨p, xs, v, rfl, rfl, h1, by rw [rps_len_le h2, ← line_eq]; exact hl, k _ _ ⟨_, upd_same, rps_append h2 ⟨v, [], rfl, r1, rfl⟩⟩ ⟨_, rfl, rfl⟩⟩
    · cases q
  · cases q
theorem mu_ext : MutOk K mExt rExtend := by
  intro Hs H p vs d ds t d' Q sb np ow rs q k
  unfold mExt at q
  split at q
  · rename_i ds c
    split at q
    · rename_i hl
      cases q
      obtain ⟨xs, h1, h2⟩ := ow
      obtain ⟨v, r, rfl, ⟨b, zs, rfl, z1, z2⟩, rfl⟩ := rs
      refine ⟨p, b, xs, zs, rfl, rfl, h1, sb _ _ z1, by rw [rps_len_le h2, rps_len_le z2, ← line_eq]; exact hl, k _ _ ⟨_, upd_same, rps_append h2 z2⟩ ⟨_, rfl, rfl⟩⟩
    · cases q
  · cases q
theorem rps_dropLast {H : Hp} : ∀ {ds : List D} {xs : List V}, Rps K H ds xs → Rps K H ds.dropLast xs.dropLast
  | [], xs, h => by have h : xs = [] := h; subst h; rfl
  | [d], xs, h => by obtain ⟨v, r, rfl, h1, rfl⟩ := h; rfl
  | d :: c :: ds, xs, h => by
    obtain ⟨v, r, rfl, h1, w, r', rfl, h2, h3⟩ := h
    exact ⟨v, _, rfl, h1, rps_dropLast ⟨w, r', rfl, h2, h3⟩⟩
theorem mu_pop : MutOk K mPop rPop := by
  intro Hs H p vs d ds t d' Q sb np ow rs q k
  unfold mPop at q
  split at q
  · rename_i ds
    split at q
    · cases q
    · rename_i c hc
      cases q
      obtain ⟨xs, h1, h2⟩ := ow
      have rs : vs = [] := rs
      obtain ⟨y, y1, y2⟩ := rps_get h2 hc
      refine ⟨p, xs, y, rfl, rs, h1, by rw [rps_len_le h2]; exact y1, k _ _ ⟨_, upd_same, rps_dropLast h2⟩ ⟨_, rfl, y2⟩⟩
  · cases q
theorem mut_fin {m : D → List D → Option (Tm × D)} {r : V → List V → Hp → VK → Prop} (hm : MutOk K m r)
    {mg : Str → Option Value} {vs0 : List V} {Bk Hs H : Hp} {σ : St} {Q : VK} {i : Nat} {ts ts' : List Tm} {vs : List V} {e2 e3 : En} {v : V}
    (tm : Tmps K vs0 Bk Hs H σ e2 ts vs) (q : takeAll ts e2 = some (ts', e3)) (hv : σ[i]? = some (some v))
    (h : PostE K mg W vs0 Bk Hs σ Q (match e3[i]? with
        | some (some (d, f)) => if f.own then match m d (ts'.map dOf) with
          | none => .no
          | some (t, d') => .ok t (e3.set i (some (d', f))) else .no
        | _ => .no)) : r v vs H Q := by
  obtain ⟨Hs2, g2, f2, n2, o2, r2⟩ := takeAll_ok tm.f tm.r (fun _ m => m) q
  have es : Same Bk (ext Bk H (ownAs ts vs)) := ext_same fun a m => (tm.r.own a m).1
  obtain ⟨g3, f3⟩ := f2.share (o2 ▸ r2.own)
  split at h
  · rename_i d f hd
    split at h
    · rename_i ho
      obtain ⟨p, p1, p2, p3, p4⟩ := f3.ow i d f hd ho
      rw [hv] at p1
      cases p1
      cases hmd : m d (ts'.map dOf) with
      | none => rw [hmd] at h; exact h.elim
      | some x =>
        obtain ⟨t, d'⟩ := x
        rw [hmd] at h
        have rr := rps_of g3.1 r2 n2 (fun a m => by
          rw [o2] at m
          exact m)
        refine hm _ H p vs d _ t d' Q f3.sb p3 p2 rr hmd fun w o' ow hw => ?_
        obtain ⟨c, rfl, hc⟩ := hw
        exact h w _ _ ((g2.weak es).trans (g3.weak (.refl _))) ⟨by rw [show ownA (.im c) w = [] from rfl, ext_nil]; exact f3.mut hd ho hv ow, hc⟩
    · exact h.elim
  · exact h.elim
end
end L2.Py
set_option maxRecDepth 100000
namespace L2.Py
open PySem PySem.Spec PyProof.Rows
def sMutL (i : Nat) (fl : SemL) (m : D → List D → Option (Tm × D)) : Sem := fun e => match e[i]? with
  | some (some (.lst _, _)) => match fl e with
    | .no => .no
    | .ex x e2 => .ex x e2
    | .ok ts e2 => match takeAll ts e2 with
      | none => .no
      | some (ts', e3) => match e3[i]? with
        | some (some (d, f)) => if f.own then match m d (ts'.map dOf) with
          | none => .no
          | some (t, d') => .ok t (e3.set i (some (d', f))) else .no
        | _ => .no
  | _ => .no
section
variable {X : Cx} {W : WX} {o a b c : Expr} {es : List Expr} {fa fb fc : Sem} {fl : SemL} {apos cpos pos : Pos} {K : PySem.W.Frag}
theorem ow_list {H Hs : Hp} {vs0 : List V} {Bk : Hp} {σ : St} {e : En} {i : Nat} {ds : List D} {f : Fl} {v : V} (fr : Frm K vs0 Bk Hs H σ e) (q : e[i]? = some (some (.lst ds, f))) (hv : σ[i]? = some (some v)) : tyV K "list" v H := by
  cases o : f.own with
  | true =>
    obtain ⟨p, h1, ⟨xs, h2, _⟩, _⟩ := fr.ow i _ _ q o
    rw [hv] at h1
    cases h1
    exact .inl ⟨rfl, xs, .inl (.inl h2)⟩
  | false =>
    obtain ⟨w, h1, p, xs, rfl, h2, _⟩ := fr.sh i _ _ q o
    rw [hv] at h1
    cases h1
    exact .inl ⟨rfl, xs, .inl (.inl (fr.sb _ _ h2))⟩
theorem je_mut {m : D → List D → Option (Tm × D)} {r : V → List V → Hp → VK → Prop} {id : String} {name : Str} {i : Nat} (hm : MutOk X.K m r) (hmt : MtM X id r) (slot : PySem.Slot "list" name id) (hty : typeOf (.builtin id) = pure (.type "method_descriptor"))
    (ho : JE X W o (sV i)) (ha : JA X W (a :: es) fl)
    (hbase : attributeBase o name X.env (eval o X.env) = eval o X.env := by rfl)
    (hfew : ((backTo cpos (starEach (a :: es) X.env)).all (fun x => !x.1) && (backToKw cpos (keywordEach [] X.env)).all (fun x => x.1.isSome)
      && decide ((a :: es).length + ([] : List Keyword).length + (if ([] : List Keyword).isEmpty then 0 else 1) < 30)) = true := by rfl)
    (hline : (apos.endLine == cpos.line) = true := by rfl) (hs : starEach (a :: es) X.env = (false, eval a X.env) :: starEach es X.env := by rfl) (hplain : (backTo cpos (starEach es X.env)).any (·.1) = false := by rfl) :
    JE X W (.Call (.Attribute o name apos) (a :: es) [] cpos) (sMutL i fl m) :=
  PE_imp (pe_bm PySem.F.plainAttrs_list slot hty hmt ho ha hbase hfew hline hs hplain) fun σ H Q ⟨vs0, Bk, Hs, e, fr, h⟩ => by
    unfold sMutL at h
    split at h
    · rename_i ds f hd
      refine ⟨vs0, Bk, Hs, e, fr, ?_⟩
      unfold sV
      rw [hd]
      intro v Hs1 H1 g1 t1
      have hv : σ[i]? = some (some v) := t1.2
      have t1f := t1.frm
      refine ⟨ow_list t1f hd hv, vs0, Bk, Hs1, e, t1f, ?_⟩
      have h := h.grow g1
      cases q : fl e with
      | no => rw [q] at h; exact h
      | ex x e2 => rw [q] at h; exact h
      | ok ts e2 =>
        rw [q] at h
        intro vs Hs2 H2 g2 t2
        dsimp only at h
        split at h
        · exact h.elim
        · rename_i ts' e3 q3
          exact mut_fin (r := r) hm t2 q3 hv (h.grow g2)
    · exact h.elim
theorem je_append {i : Nat} {x : Str} {p : Pos} (ho : JE X W (.Name x p) (sV i)) (ha : JE X W a fa) (hbase : attributeBase (.Name x p) "append" X.env (eval (.Name x p) X.env) = eval (.Name x p) X.env := by rfl)
    (hfew : ((backTo cpos (starEach [a] X.env)).all (fun x => !x.1) && (backToKw cpos (keywordEach [] X.env)).all (fun x => x.1.isSome)
      && decide ([a].length + ([] : List Keyword).length + (if ([] : List Keyword).isEmpty then 0 else 1) < 30)) = true := by rfl)
    (hline : (apos.endLine == cpos.line) = true := by rfl) (hs : starEach [a] X.env = (false, eval a X.env) :: starEach [] X.env := by rfl) (hplain : (backTo cpos (starEach [] X.env)).any (·.1) = false := by rfl) :
    JE X W (.Call (.Attribute (.Name x p) "append" apos) [a] [] cpos) (sMutL i (sCons fa sNil) mApp) :=
  je_mut mu_app mt_append PySem.F.slot_list_append PySem.F.type_list_append ho (ja_cons ha ja_nil hs) hbase hfew hline hs hplain
theorem je_extend {i : Nat} {x : Str} {p : Pos} (ho : JE X W (.Name x p) (sV i)) (ha : JE X W a fa) (hbase : attributeBase (.Name x p) "extend" X.env (eval (.Name x p) X.env) = eval (.Name x p) X.env := by rfl)
    (hfew : ((backTo cpos (starEach [a] X.env)).all (fun x => !x.1) && (backToKw cpos (keywordEach [] X.env)).all (fun x => x.1.isSome)
      && decide ([a].length + ([] : List Keyword).length + (if ([] : List Keyword).isEmpty then 0 else 1) < 30)) = true := by rfl)
    (hline : (apos.endLine == cpos.line) = true := by rfl) (hs : starEach [a] X.env = (false, eval a X.env) :: starEach [] X.env := by rfl) (hplain : (backTo cpos (starEach [] X.env)).any (·.1) = false := by rfl) :
    JE X W (.Call (.Attribute (.Name x p) "extend" apos) [a] [] cpos) (sMutL i (sCons fa sNil) mExt) :=
  je_mut mu_ext mt_extend PySem.F.slot_list_extend PySem.F.type_list_extend ho (ja_cons ha ja_nil hs) hbase hfew hline hs hplain
def gPut (i : Nat) (fi : Sem) : G := fun t e => match e[i]? with
  | some (some _) => match fi e with
    | .ok ti e1 => match ti.get e1 with
      | some (.int k) => match e1[i]? with
        | some (some (.lst ds, f)) => if f.own then match ixN ds.length k with
          | none => none
          | some j => some (e1.set i (some (.lst (ds.set j (dOf t)), f))) else none
        | _ => none
      | _ => none
    | _ => none
  | _ => none
theorem rps_set {H : Hp} : ∀ {ds : List D} {xs : List V} (j : Nat) {d : D} {v : V}, Rps K H ds xs → Rp K H d v → Rps K H (ds.set j d) (xs.set j v)
  | [], xs, j, d, v, h, r => by have h : xs = [] := h; subst h; rfl
  | d' :: ds, xs, 0, d, v, h, r => by
    obtain ⟨w, r', rfl, h1, h2⟩ := h
    exact ⟨v, r', rfl, r, h2⟩
  | d' :: ds, xs, j + 1, d, v, h, r => by
    obtain ⟨w, r', rfl, h1, h2⟩ := h
    exact ⟨w, _, rfl, h1, rps_set j h2 r⟩
theorem jg_put {i : Nat} (ho : JE X W o (sV i)) (hi : JE X W a fa)
    (he : ∀ v, assign (.Subscript o a pos) X.env v = (do
      let ov ← holding [v] (eval o X.env)
      let iv ← holding [v, ov] (eval a X.env)
      standAt pos
      holding [v, ov, iv] (setItem ov iv v)
      release [v, ov, iv] []) := by intro _; rfl) : JG X (.Subscript o a pos) [] (gPut i fa) :=
  PG_imp (pg_sub ho hi set_list he) fun v σ H Q ⟨vs0, Bk, Hs, e, t, tm, n, h⟩ => by
    obtain ⟨Hs1, g1, f1, r1⟩ := tm.share n
    have h := h.grow g1
    unfold gPut at h
    split at h
    · rename_i z hz
      refine ⟨vs0, Bk, Hs1, e, f1, ?_⟩
      unfold sV
      rw [hz]
      intro w Hs2 H2 g2 t2
      have hv : σ[i]? = some (some w) := t2.2
      refine ⟨vs0, Bk, Hs2, e, t2.frm, ?_⟩
      have h := h.grow g2
      cases q : fa e with
      | no => rw [q] at h; exact h.elim
      | ex x e1 => rw [q] at h; exact h.elim
      | ok ti e1 =>
        rw [q] at h
        intro u Hs3 H3 g3 t3
        have h := h.grow g3
        dsimp only at h
        split at h
        · rename_i k hk
          have hu := rd1_int (t3.2.rd t3.1 hk)
          have f3 := t3.frm
          split at h
          · rename_i ds f hd
            split at h
            · rename_i ow
              split at h
              · exact h.elim
              · rename_i j hj
                obtain ⟨p, p1, ⟨xs, p2, p2'⟩, p3, p4⟩ := f3.ow i _ f hd ow
                rw [hv] at p1
                cases p1
                have r3 := Rp.mono (g2.1.trans g3.1) _ _ r1
                refine ⟨p, xs, k, j, rfl, hu, p2, by rw [← rps_len p2']; exact hj, ?_⟩
                exact h σ Hs3 _ .refl .refl (f3.mut hd ow hv ⟨_, upd_same, rps_set j p2' r3⟩)
            · exact h.elim
          · exact h.elim
        · exact h.elim
    · exact h.elim
def storeAll : List Nat → List Tm → En → Option En
  | [], [], e => some e
  | i :: is, t :: ts, e => match storeT i t e with
    | none => none
    | some e1 => storeAll is ts e1
  | _, _, _ => none
def setAll : List Nat → List V → St → St
  | i :: is, v :: vs, σ => setAll is vs (σ.set i (some v))
  | _, _, σ => σ
def sPar (is : List Nat) (fl : SemL) : SemS := fun e => match fl e with
  | .no => .no
  | .ex x e1 => .ex x e1
  | .ok ts e1 => match takeAll ts e1 with
    | none => .no
    | some (ts', e2) => match storeAll is ts' e2 with
      | none => .no
      | some e3 => .nx e3
theorem RpTs.st {Bk Hs H : Hp} {σ σ' : St} : ∀ {ts : List Tm} {vs : List V}, (∀ t ∈ ts, NoSl t) → RpTs K Bk Hs H σ ts vs → RpTs K Bk Hs H σ' ts vs
  | [], vs, n, h => h
  | t :: ts, vs, n, h => by
    obtain ⟨v, r, rfl, h1, h2⟩ := h
    refine ⟨v, r, rfl, ?_, RpTs.st (fun t m => n t (List.mem_cons_of_mem _ m)) h2⟩
    cases t with
    | sl i => exact (n (.sl i) List.mem_cons_self).elim
    | im d => exact h1
    | ow d => exact h1
theorem storeAll_ok {Bk Hs H : Hp} {vs0 : List V} : ∀ {is : List Nat} {ts : List Tm} {vs : List V} {σ : St} {e e' : En}, Frm K vs0 (ext Bk H (ownAs ts vs)) Hs H σ e → RpTs K Bk Hs H σ ts vs → (∀ t ∈ ts, NoSl t) → (ownAs ts vs).Nodup → storeAll is ts e = some e' →
    Frm K vs0 Bk Hs H (setAll is vs σ) e'
  | [], [], vs, σ, e, e', f, r, n, nd, q => by
    cases q
    have r : vs = [] := r
    subst r
    rw [show ownAs [] [] = [] from rfl, ext_nil] at f
    exact f
  | i :: is, t :: ts, vs, σ, e, e', f, r, n, nd, q => by
    obtain ⟨v, rr, rfl, h1, h2⟩ := r
    have q : (match storeT i t e with
      | none => none
      | some e1 => storeAll is ts e1) = some e' := q
    split at q
    · cases q
    · rename_i e1 q1
      have nd' : (ownA t v ++ ownAs ts rr).Nodup := nd
      have f1 := store_ok1 (l := ownAs ts rr) f h1 (fun a m m2 => (List.nodup_append.mp nd').2.2 a m a m2 rfl) q1
      have n2 : ∀ t ∈ ts, NoSl t := fun t m => n t (List.mem_cons_of_mem _ m)
      exact storeAll_ok (vs := rr) (σ := σ.set i (some v)) f1 (RpTs.st n2 h2) n2 (List.nodup_append.mp nd').2.1 q
  | [], t :: ts, vs, σ, e, e', f, r, n, nd, q => by cases q
  | i :: is, [], vs, σ, e, e', f, r, n, nd, q => by cases q
theorem rpts_len {Bk Hs H : Hp} {σ : St} : ∀ {ts : List Tm} {vs : List V}, RpTs K Bk Hs H σ ts vs → ts.length = vs.length
  | [], vs, h => by have h : vs = [] := h; subst h; rfl
  | t :: ts, vs, h => by
    obtain ⟨v, r, rfl, h1, h2⟩ := h
    rw [List.length_cons, List.length_cons, rpts_len h2]
theorem stAll_len : ∀ {is : List Nat} {ts : List Tm} {e e' : En}, storeAll is ts e = some e' → is.length = ts.length
  | [], [], _, _, _ => rfl
  | i :: is, t :: ts, e, e', q => by
    have q : (match storeT i t e with
      | none => none
      | some e1 => storeAll is ts e1) = some e' := q
    split at q
    · cases q
    · rw [List.length_cons, List.length_cons, stAll_len q]
  | [], t :: ts, _, _, q => by cases q
  | i :: is, [], _, _, q => by cases q
theorem par_fin {is : List Nat} {Dn : Ends} {σ : St} {vs0 : List V} {Bk Hs H : Hp} {e : En} (fr : Frm X.K vs0 Bk Hs H σ e) (h : PostS X.K X.mg W vs0 Bk Hs Dn (sPar is fl e)) :
    PostL X.K X.mg W vs0 Bk Hs σ (fun vs H1 => vs.length = is.length ∧ Dn.nx (setAll is vs σ) H1) (fl e) := by
  unfold sPar at h
  cases q : fl e with
  | no => rw [q] at h; exact h
  | ex x e1 => rw [q] at h; exact fun c dx Hs1 H1 g1 f1 r => h c dx σ Hs1 H1 g1 f1 r
  | ok ts e1 =>
    rw [q] at h
    intro vs Hs1 H1 g1 t1
    dsimp only at h
    split at h
    · exact h.elim
    · rename_i ts' e2 q2
      split at h
      · exact h.elim
      · rename_i e3 q3
        obtain ⟨Hs2, g2, f2, n2, o2, r2⟩ := takeAll_ok t1.f t1.r (fun _ m => m) q2
        have es : Same Bk (ext Bk H1 (ownAs ts vs)) := ext_same fun a m => (t1.r.own a m).1
        refine ⟨by rw [← rpts_len r2, ← stAll_len q3], ?_⟩
        have f3 := storeAll_ok (K := X.K) (by rw [o2]; exact f2) r2 n2 (by rw [o2]; exact t1.n) q3
        exact h _ Hs2 H1 (g1.trans (g2.weak es)) f3
theorem js_par2 {i j : Nat} {x y : Str} {px py pt : Pos} {kt k2 pt2} (hc : X.calm = true) (hN : X.N.Nodup) (hi : X.N[i]? = some x) (hj : X.N[j]? = some y) (hij : i ≠ j)
    (hx : X.env.scope.names.lookup x = some .local) (hy : X.env.scope.names.lookup y = some .local) (ha : JA X W [a, b] fl)
    (hw : swappedStores [.Tuple [.Name x px, .Name y py] kt pt] (.Tuple [a, b] k2 pt2) X.env = pure (some [x, y]))
    (hs : swapsWithSole [.Tuple [.Name x px, .Name y py] kt pt] (.Tuple [a, b] k2 pt2) pos.line X.env = pure false := by rfl) :
    JS X W (.Assign [.Tuple [.Name x px, .Name y py] kt pt] (.Tuple [a, b] k2 pt2) pos) (sPar [i, j] fl) :=
  PS_imp (ps_par hc hN hi hj hij hx hy ha hw hs) fun D σ H ⟨vs0, Bk, Hs, e, fr, h⟩ => by
    refine ⟨vs0, Bk, Hs, e, fr, ?_⟩
    have z := par_fin fr h
    cases q : fl e with
    | no => rw [q] at z; exact z
    | ex x e1 => rw [q] at z; exact z
    | ok ts e1 =>
      rw [q] at z
      intro vs Hs1 H1 g1 t1
      obtain ⟨z1, z2⟩ := z vs Hs1 H1 g1 t1
      match vs, z1, z2 with
      | [v, w], _, z2 => exact ⟨v, w, rfl, z2⟩
theorem js_par3 {i j l : Nat} {x y z : Str} {px py pz pt : Pos} {kt k2 pt2} (hc : X.calm = true) (hN : X.N.Nodup) (hi : X.N[i]? = some x) (hj : X.N[j]? = some y) (hl : X.N[l]? = some z) (hij : i ≠ j) (hil : i ≠ l) (hjl : j ≠ l)
    (hx : X.env.scope.names.lookup x = some .local) (hy : X.env.scope.names.lookup y = some .local) (hz : X.env.scope.names.lookup z = some .local) (ha : JA X W [a, b, c] fl)
    (hw : swappedStores [.Tuple [.Name x px, .Name y py, .Name z pz] kt pt] (.Tuple [a, b, c] k2 pt2) X.env = pure (some [x, y, z]))
    (hs : swapsWithSole [.Tuple [.Name x px, .Name y py, .Name z pz] kt pt] (.Tuple [a, b, c] k2 pt2) pos.line X.env = pure false := by rfl) :
    JS X W (.Assign [.Tuple [.Name x px, .Name y py, .Name z pz] kt pt] (.Tuple [a, b, c] k2 pt2) pos) (sPar [i, j, l] fl) :=
  PS_imp (ps_par3 hc hN hi hj hl hij hil hjl hx hy hz ha hw hs) fun D σ H ⟨vs0, Bk, Hs, e, fr, h⟩ => by
    refine ⟨vs0, Bk, Hs, e, fr, ?_⟩
    have z := par_fin fr h
    cases q : fl e with
    | no => rw [q] at z; exact z
    | ex x e1 => rw [q] at z; exact z
    | ok ts e1 =>
      rw [q] at z
      intro vs Hs1 H1 g1 t1
      obtain ⟨z1, z2⟩ := z vs Hs1 H1 g1 t1
      match vs, z1, z2 with
      | [v, w, u], _, z2 => exact ⟨v, w, u, rfl, z2⟩
def sChn (c1 c2 : Int → Int → Bool) (fa fb fc : Sem) : Sem := fun e => match s2 fa fb e with
  | .no => .no
  | .ex x e1 => .ex x e1
  | .ok ts e1 => match getAll e1 ts with
    | some [.int i, .int j] => if c1 i j then (match fc e1 with
      | .no => .no
      | .ex x e2 => .ex x e2
      | .ok t e2 => match t.get e2 with
        | some (.int k) => .ok (.im (.bl (c2 j k))) e2
        | _ => .no) else .ok (.im (.bl false)) e1
    | _ => .no
theorem chn_fin {c1 c2 : Int → Int → Bool} {σ : St} {H : Hp} {Q : VK} (h : TI' X.K X.mg W (sChn c1 c2 fa fb fc) σ H Q) : tChain (rI0 fun i j => .bl (c1 i j)) (rI0 fun i j => .bl (c2 i j)) (TI' X.K X.mg W fa) (TI' X.K X.mg W fb) (TI' X.K X.mg W fc) σ H Q := by
    obtain ⟨vs0, Bk, Hs, e, f, h⟩ := h
    have h1 : TL' X.K X.mg W (s2 fa fb) σ H (fun vs H1 => ∃ i j, vs = [.int i, .int j] ∧ (if c1 i j = true then TI' X.K X.mg W fc σ H1 fun w H4 => ∃ k, w = .int k ∧ Q (.bl (c2 j k)) H4 else Q (.bl false) H1)) := by
      refine ⟨vs0, Bk, Hs, e, f, ?_⟩
      unfold sChn at h
      cases q : s2 fa fb e with
      | no => rw [q] at h; exact h
      | ex x e1 => rw [q] at h; exact h
      | ok ts e1 =>
        rw [q] at h
        intro vs Hs1 H1 g1 t1
        dsimp only at h
        split at h
        · rename_i i j hg
          obtain ⟨v, w, rfl, r1, r2⟩ := rds2 (t1.r.rds t1.f hg)
          refine ⟨i, j, by rw [rd1_int r1, rd1_int r2], ?_⟩
          split at h
          · rename_i hc1
            rw [if_pos hc1]
            refine ⟨vs0, Bk, Hs1, e1, t1.frm, ?_⟩
            have h := h.grow g1
            cases q3 : fc e1 with
            | no => rw [q3] at h; exact h
            | ex x e2 => rw [q3] at h; exact h
            | ok t e2 =>
              rw [q3] at h
              intro u Hs2 H2 g2 t2
              dsimp only at h
              split at h
              · rename_i k hk
                refine ⟨k, rd1_int (t2.2.rd t2.1 hk), h _ Hs2 H2 g2 (tmp_im t2.frm rfl)⟩
              · exact h.elim
          · rename_i hc1
            rw [if_neg hc1]
            exact h _ Hs1 H1 g1 (tmp_im t1.frm rfl)
        · exact h.elim
    refine TI_imp (tl_cons h1) fun x H1 h2 => ?_
    refine TI_imp (tl_cons h2) fun y H2 h3 => ?_
    obtain ⟨i, j, e1, h4⟩ := tl_nil h3
    clear h2 h3
    cases e1
    refine ⟨i, j, rfl, rfl, c1 i j, rfl, ?_⟩
    split at h4
    · rename_i hc1
      rw [if_pos hc1]
      refine TI_imp h4 fun w H4 ⟨k, e2, q⟩ => ?_
      exact ⟨j, k, rfl, e2, q⟩
    · rename_i hc1
      rw [if_neg hc1]
      exact h4
theorem je_chain {op op' : CmpOp} {c1 c2 : Int → Int → Bool} (ho : OpR X (compareOp op) (rI0 fun i j => .bl (c1 i j))) (ho' : OpR X (compareOp op') (rI0 fun i j => .bl (c2 i j))) (ha : JE X W a fa) (hb : JE X W b fb) (hc : JE X W c fc)
    (hm : lastMarks [op, op'] [b, c] = false := by with_unfolding_all rfl) : JE X W (.Compare a [op, op'] [b, c] pos) (sChn c1 c2 fa fb fc) :=
  PE_imp (pe_chain ho ho' ha hb hc hm) fun σ H Q h => chn_fin h
theorem jb_chain {op op' : CmpOp} {c1 c2 : Int → Int → Bool} (ho : OpR X (compareOp op) (rI0 fun i j => .bl (c1 i j))) (ho' : OpR X (compareOp op') (rI0 fun i j => .bl (c2 i j))) (ha : JE X W a fa) (hb : JE X W b fb) (hc : JE X W c fc)
    (hm : lastMarks [op, op'] [b, c] = false := by with_unfolding_all rfl) : JB X W (.Compare a [op, op'] [b, c] pos) (sTruC (sChn c1 c2 fa fb fc)) :=
  PT_imp (pt_chain ho ho' ha hb hc hm) fun σ H Q h => chn_fin (truC_fin h)
def gIs : List D → Option Tm
  | [.bl a, .bl b] => some (.im (.bl (decide (a = b))))
  | _ => none
def gIsnt : List D → Option Tm
  | [.bl a, .bl b] => some (.im (.bl (!decide (a = b))))
  | _ => none
theorem pr_is : PureOk K gIs (r2 rIsB) := by
  intro Hs H vs ds t Q sb rd q k
  unfold gIs at q
  split at q
  · cases q
    obtain ⟨v, w, rfl, h1, h2⟩ := rds2 rd
    exact ⟨_, _, rfl, _, _, rd1_bl h1, rd1_bl h2, k _ _ _ (new_bl sb)⟩
  · cases q
theorem pr_isnt : PureOk K gIsnt (r2 rNotB) := by
  intro Hs H vs ds t Q sb rd q k
  unfold gIsnt at q
  split at q
  · cases q
    obtain ⟨v, w, rfl, h1, h2⟩ := rds2 rd
    exact ⟨_, _, rfl, _, _, rd1_bl h1, rd1_bl h2, k _ _ _ (new_bl sb)⟩
  · cases q
def flD : D → Option V
  | .non => some .non
  | .bl b => some (.bl b)
  | .int i => some (.int i)
  | .str x => some (.str x)
  | _ => none
def flDs : List D → Option (List V)
  | [] => some []
  | d :: ds => match flD d, flDs ds with
    | some v, some vs => some (v :: vs)
    | _, _ => none
theorem flD_ok {H : Hp} {d : D} {v w : V} (h : Rp K H d v) (q : flD d = some w) : v = w ∧ flatV w = true := by
  cases d <;> first | cases q | skip
  all_goals exact ⟨h, rfl⟩
theorem flDs_ok {H : Hp} : ∀ {ds : List D} {vs ws : List V}, Rps K H ds vs → flDs ds = some ws → vs = ws ∧ ws.all flatV = true
  | [], vs, ws, h, q => by cases q; exact ⟨h, rfl⟩
  | d :: ds, vs, ws, h, q => by
    obtain ⟨v, r, rfl, h1, h2⟩ := h
    have q : (match flD d, flDs ds with
      | some v, some vs => some (v :: vs)
      | _, _ => none) = some ws := q
    split at q
    · rename_i w ws' q1 q2
      cases q
      obtain ⟨rfl, a⟩ := flD_ok h1 q1
      obtain ⟨rfl, b⟩ := flDs_ok h2 q2
      refine ⟨rfl, ?_⟩
      rw [List.all_cons, a, b]
      rfl
    · cases q
def inD (neg : Bool) (d : D) (ds : List D) : Option Tm := match flD d, flDs ds with
  | some v, some vs => some (.im (.bl (if neg then !inV v vs else inV v vs)))
  | _, _ => none
def gIn (neg : Bool) : List D → Option Tm
  | [d, .lst ds] => inD neg d ds
  | [d, .tup ds] => inD neg d ds
  | [d, .scr ds] => inD neg d ds
  | _ => none
theorem pr_in {neg : Bool} : PureOk K (gIn neg) (r2 (rIn K neg)) := by
  intro Hs H vs ds t Q sb rd q k
  unfold gIn at q
  have go : ∀ {d : D} {es : List D} {v : V} {p : Addr} {xs : List V}, inD neg d es = some t → Rd1 K Hs H d v → Rps K Hs es xs → (SqL K H p xs ∨ SqT K H p xs) → rIn K neg v (.ref p) H Q := by
    intro d es v p xs q r1 r2 hq
    unfold inD at q
    split at q
    · rename_i w ws q1 q2
      cases q
      have r1 : Rp K Hs d v := r1.elim id fun ⟨a, _, z⟩ => by cases d <;> first | exact z.elim | cases q1
      obtain ⟨rfl, a⟩ := flD_ok r1 q1
      obtain ⟨rfl, b⟩ := flDs_ok r2 q2
      exact ⟨p, _, rfl, hq, a, b, k _ _ _ (new_bl sb)⟩
    · cases q
  split at q
  · obtain ⟨v, w, rfl, h1, h2⟩ := rds2 rd
    obtain ⟨p, xs, rfl, a1, a2⟩ := rd1_lst sb h2
    exact ⟨_, _, rfl, go q h1 a2 (.inl (.inl (.inl a1)))⟩
  · obtain ⟨v, w, rfl, h1, h2⟩ := rds2 rd
    obtain ⟨p, xs, rfl, a1, a2⟩ := rd1_tup sb h2
    exact ⟨_, _, rfl, go q h1 a2 (.inr a1)⟩
  · obtain ⟨v, w, rfl, h1, h2⟩ := rds2 rd
    obtain ⟨p, xs, rfl, a1, a2⟩ := rd1_scr sb h2
    exact ⟨_, _, rfl, go q h1 a2 (.inl a1)⟩
  · cases q
def okR (d : D) : Bool := isP d && (toP d).showable && decide ((toP d).depth ≤ 60) && decide ((toP d).shown.length ≤ line)
def gRepr : List D → Option Tm
  | [.lst ds] => if okR (.lst ds) then some (.im (.str (toP (.lst ds)).shown)) else none
  | [.tup ds] => if okR (.tup ds) then some (.im (.str (toP (.tup ds)).shown)) else none
  | _ => none
mutual
theorem noDict : ∀ d : D, (toP d).hasDict = false
  | .non => rfl
  | .bl _ => rfl
  | .int _ => rfl
  | .str _ => rfl
  | .ty _ => rfl
  | .hid => rfl
  | .dct _ => rfl
  | .lst ds => noDicts ds
  | .scr ds => noDicts ds
  | .tup ds => noDicts ds
theorem noDicts : ∀ ds : List D, PyData.hasDictAll (toPs ds) = false
  | [] => rfl
  | d :: ds => by
    show ((toP d).hasDict || PyData.hasDictAll (toPs ds)) = false
    rw [noDict d, noDicts ds]
    rfl
end
def rRepr (K : PySem.W.Frag) : List V → Hp → VK → Prop := fun vs H Q => ∃ a d, vs = [.ref a] ∧ Dp K H (.ref a) d ∧ d.showable = true ∧ d.hasDict = false ∧ d.depth ≤ 60 ∧ d.shown.length ≤ sizeLine ∧ Q (.str d.shown) H
theorem call_reprD (hg : X.A.guards = some []) (hu : X.A.units + 64 < cLine) : CallR X (.builtin "repr") (rRepr X.K) := by
  intro pins s σ H xs us Q I r h
  obtain ⟨a, d, rfl, hd, h1, h2, h3, h4, q⟩ := h
  rw [Vals.ref1 r]
  obtain ⟨as, rd⟩ := Dp.reads I d (.ref a) (.ref a) hd rfl
  exact repr_of_reads' rd h1 (PyData.noDict_hsm h2) hg (by omega) (fun _ _ z => z) (fun h' u tk hk => ⟨.str d.shown, H, I.kept fun b o e => hk b o e, ⟨_, rfl⟩, q⟩) h4
theorem pr_repr : PureOk K gRepr (rRepr K) := by
  intro Hs H vs ds t Q sb rd q k
  unfold gRepr at q
  have go : ∀ {d : D} {v : V}, okR d = true → Rd1 K Hs H d v → (∃ p, v = .ref p) → some (Tm.im (.str (toP d).shown)) = some t → rRepr K [v] H Q := by
    intro d v ho r hp q
    obtain ⟨p, rfl⟩ := hp
    cases q
    unfold okR at ho
    simp only [Bool.and_eq_true, decide_eq_true_eq] at ho
    exact ⟨p, toP d, rfl, rd1_dp sb ho.1.1.1 r, ho.1.1.2, noDict d, ho.1.2, by rw [← line_eq]; exact ho.2, k _ _ Hs (new_imm sb rfl)⟩
  split at q
  · split at q
    · rename_i ho
      obtain ⟨v, rfl, h1⟩ := rds1 rd
      have h1' := h1
      obtain ⟨p, xs, rfl, a1, a2⟩ := rd1_lst sb h1
      exact go ho h1' ⟨_, rfl⟩ q
    · cases q
  · split at q
    · rename_i ho
      obtain ⟨v, rfl, h1⟩ := rds1 rd
      have h1' := h1
      obtain ⟨p, xs, rfl, a1, a2⟩ := rd1_tup sb h1
      exact go ho h1' ⟨_, rfl⟩ q
    · cases q
  · cases q
end
end L2.Py
set_option maxRecDepth 100000
namespace L2.Py
open PySem PySem.Spec PyProof.Rows
theorem cx_false {P : Program} {w : World} {out : List PySem.Env} {H : Hp} {s : Shared} {e : Value} {s' : Shared} {B : Prop} (h : L2.CX P w out H s (fun _ _ _ => False) e s') : B := by
  unfold L2.CX at h
  obtain ⟨_, _, _, _, _, _, _, _, _, _, _, _, h⟩ := h
  exact h.elim
theorem law_callG {P : Program} {wd : World} {K : PySem.W.Frag} {mgl mbl : Str → Option Value} {k : Nat} {fa ad : Addr} {fd : FuncData} {xn : Str} {sp : Sp} {sa : Shared} {vl : List Value} {nn : List Int}
    (kin : K.In sa.heap) (mn : sa.heap.Ns mainGlobals mgl) (bs1 : sa.heap.Ns builtinsNs mbl) (bl1 : ∀ xn : Str, xn ≠ "__name__" → mbl xn = bootBuiltins xn) (nl1 : sa.heap.NoLimit) (gn1 : sa.gens = #[])
    (at1 : sa.heap.get? ad = some { cls := .type "list", data := .seq vl.toArray }) (in1 : IntsAre vl nn) (le1 : nn.length ≤ sizeLine) (rm1 : Room k callerA)
    (Fd : ∀ base : Heap, K.In base → base.Ns mainGlobals mgl → FnG P wd K mgl base k fa fd [xn] sp) (bd1 : ∀ (s : Shared) (uu : Value), BindsTo s fd ⟨[uu], []⟩ [(xn, uu)])
    (sp1 : ∀ G0 : Hp, Only G0 → SqL K G0 ad (nn.map V.int) → sp [.ref ad] G0 (fun va _ => va = .bl true) fun _ _ _ => False) :
    codeAny (model P wd) callerA (.call (.ref fa) ⟨[.ref ad], []⟩) (fun rr s9 => rr = .ok (.ret (.bool true)) ∧ OldK sa.heap s9.heap ∧ s9.os = sa.os ∧ AllBare s9.gens) sa := by
  have vr1 := vals_ints in1
  have ln1 := in1.length
  have mid : ∀ G0 : Hp, Only G0 → SqL K G0 ad (nn.map V.int) → HOk P wd G0 sa.heap → (∀ bb, G0 bb ≠ none → bb = ad) → (G0 ad ≠ none → K.lookup ad = none) →
      codeAny (model P wd) callerA (.call (.ref fa) ⟨[.ref ad], []⟩) (fun rr s9 => rr = .ok (.ret (.bool true)) ∧ OldK sa.heap s9.heap ∧ s9.os = sa.os ∧ AllBare s9.gens) sa := by
    intro G0 oo1 ss1 kok aa1 kk1
    have bo : ∀ {bb : Addr} {ob1 : Obj}, sa.heap.get? bb = some ob1 → G0 bb = none → (hidT sa.heap G0).get? bb = some ob1 := fun ee n => hidT_get ee n
    have na1 : ∀ {bb : Addr} {ob1 : Obj} {els : Array DictEntry} {epo : Nat}, sa.heap.get? bb = some ob1 → ob1.data = .dict els epo → G0 bb = none := fun {bb ob1 els epo} ee dd => by
      cases qq : G0 bb with
      | none => rfl
      | some uu =>
        have ee9 : bb = ad := aa1 bb (by rw [qq]; simp)
        subst ee9
        rw [at1] at ee; cases ee
        have dd9 : Data.seq vl.toArray _ = Data.dict els epo := dd
        cases dd9
    have nk : ∀ {bb : Addr} {mm : Str → Option Value}, sa.heap.Ns bb mm → (hidT sa.heap G0).Ns bb mm := fun {bb mm} ⟨ob1, els, epo, ee, dd, rr⟩ => ⟨ob1, els, epo, bo ee (na1 ee dd), dd, rr⟩
    have kb1 : K.In (hidT sa.heap G0) := fun bb ob1 ee => bo (kin bb ob1 ee) (by
      cases qq : G0 bb with
      | none => rfl
      | some uu =>
        have ee9 : bb = ad := aa1 bb (by rw [qq]; simp)
        subst ee9
        rw [kk1 (by rw [qq]; simp)] at ee; cases ee)
    have md1 : Mod K mgl (hidT sa.heap G0) := ⟨kb1, nk mn, ⟨mbl, nk bs1, bl1⟩, let ⟨mc, h1, h2⟩ := nl1; ⟨mc, nk h1, h2⟩⟩
    have e0 : Env0 P wd K mgl (hidT sa.heap G0) callerA [] sa G0 := ⟨rfl, md1, fun bb ob1 ee => of_hidT ee, Nat.le_of_eq (hidT_size _ _), trivial, fun bb bs1 => absurd (show bb ∈ ([] : List Addr) from bs1) (by simp), kok, .of_eq gn1⟩
    refine codeAny_mono ((Fd _ kb1 (nk mn)).go callerA [] sa G0 ⟨[.ref ad], []⟩ [.ref ad] [.ref ad] _ _ rm1 rfl e0 (bd1 sa (.ref ad)) (.cons rfl .nil) (sp1 G0 oo1 ss1)) fun rr s9 hh => ?_
    cases rr with
    | error ee => exact cx_false hh
    | ok fl =>
      cases fl with
      | next => exact False.elim hh
      | brk => exact False.elim hh
      | cont => exact False.elim hh
      | ret uu =>
        obtain ⟨va, G9, os, bare, un1, kok9, rr9, qq⟩ := hh
        have qq9 : va = .bl true := qq
        subst qq9
        obtain rfl : uu = Value.bool true := rr9
        refine ⟨rfl, OldK.of_keep fun bb ob1 ee => ?_, os, bare⟩
        cases qq : G0 bb with
        | none => exact un1.keep bb ob1 ee qq (by intro zz; exact absurd (show bb ∈ ([] : List Addr) from zz) (by simp)) (by simp)
        | some uu =>
          rcases oo1 bb with zz | ⟨obj1, xl, zz⟩
          · rw [qq] at zz; cases zz
          · have z2 := un1.frzs bb obj1 _ zz
            obtain ⟨e1, _⟩ := kok bb _ zz
            obtain ⟨e2, _⟩ := kok9 bb _ z2
            rw [ee] at e1; cases e1
            exact e2
  cases hk : K.lookup ad with
  | some ob1 =>
    have ee := kin ad ob1 hk
    rw [at1] at ee
    cases ee
    refine mid (fun _ => none) (fun _ => .inl rfl) (.inr ⟨_, vl.toArray, _, hk, rfl, rfl, rfl, by rw [List.size_toArray, ln1]; exact le1, by simpa using vr1⟩) (fun bb uu zz => by have zz9 : (none : Option HO) = some uu := zz; cases zz9) (fun bb zz => absurd rfl zz) fun zz => absurd rfl zz
  | none =>
    refine mid (fun bb => if bb = ad then some (.frz { cls := .type "list", data := .seq vl.toArray } (.lst (nn.map V.int))) else none) (fun bb => ?_) (.inl (.inr ⟨{ cls := .type "list", data := .seq vl.toArray }, if_pos rfl⟩)) (fun bb uu zz => ?_) (fun bb zz => ?_) fun _ => hk
    · by_cases bs1 : bb = ad
      · exact .inr ⟨_, _, if_pos bs1⟩
      · exact .inl (if_neg bs1)
    · by_cases bs1 : bb = ad
      · have zz9 := (if_pos bs1).symm.trans zz
        cases zz9
        subst bs1
        exact ⟨at1, by rw [List.length_map]; exact le1, vl, _, vr1, at1⟩
      · have zz9 := (if_neg bs1).symm.trans zz
        cases zz9
    · by_cases bs1 : bb = ad
      · exact bs1
      · exact absurd (if_neg bs1) zz
theorem rps_of_ints {K : PySem.W.Frag} {H : Hp} : ∀ l : List Int, Rps K H (l.map D.int) (l.map V.int)
  | [] => rfl
  | i :: l => ⟨.int i, l.map V.int, rfl, rfl, rps_of_ints l⟩
theorem sp_start {K : PySem.W.Frag} {mg : Str → Option Value} {H : Hp} {a : Addr} {l : List Int} {sem : Fn} {fin : En} (hS : SqL K H a (l.map V.int)) (hs : sem [(.scr (l.map D.int), .sh)] = .ok (.im (.bl true)) fin) :
    spD K mg sem [.ref a] H (fun v _ => v = .bl true) fun _ _ _ => False := by
  refine ⟨fun _ => none, H, [(.scr (l.map D.int), .sh)], rfl, ⟨Nat.le_refl _, .refl _, (fun _ _ z => nomatch z), fun i d f z o => ?_, fun i d f z o => ?_, fun i j d f d' f' p z o => ?_, fun i d f z o => ?_⟩, ?_⟩
  · cases i with
    | zero => cases z; exact ⟨_, rfl, a, _, rfl, hS, rps_of_ints l⟩
    | succ i => cases z
  · cases i with
    | zero => cases z; cases o
    | succ i => cases z
  · cases i with
    | zero => cases z; cases o
    | succ i => cases z
  · cases i with
    | zero => cases z; cases o
    | succ i => cases z
  · rw [hs]
    exact ⟨trivial, fun v Hs' H' g t => t.2⟩
open Att in
theorem law_end {l : PySem.W.OpenLaw} {n k : Nat} {q : Program} {loose : List Str} {XP : (Str → Option Value) → Heap → Prop} {YP : World → Heap → Prop} {d : DefRec} {K : Params → PySem.W.Frag} {x : Str} (sem : Fn)
    (hn : l.most = some n) (hn2 : n ≤ sizeLine) (hdf : d.params.defaults = []) (hr : Room k callerA)
    (hY : ∀ (w : World) (h : Heap), YP w h → (K w.params).In h)
    (hsem : ∀ ns : List Int, ns.length ≤ n → (∀ z ∈ ns, Builtin.Int.intBits z ≤ 1048576) → ∃ fin, sem [(.scr (ns.map D.int), .sh)] = .ok (.im (.bl true)) fin)
    (F : ∀ (w : World) (mg : Str → Option Value) (fa : Addr) (h : Heap), (K w.params).In h → h.Ns mainGlobals mg → mg d.name = some (.ref fa) →
      ∃ fd : FuncData, (∀ (s : Shared) (u : Value), BindsTo s fd ⟨[u], []⟩ [(x, u)]) ∧
        ∀ base : Heap, (K w.params).In base → base.Ns mainGlobals mg → FnG l.prog w (K w.params) mg base k fa fd [x] (spD (K w.params) mg sem)) :
    PySem.W.WalkO q loose XP YP l.row.toRowW d [] (fun f vs => PySem.call f vs) := by
  refine Att.attach_callB hn hdf fun w s0 s1 mg mb fa o pm cd doc a vs ns G Y ho hd hcd hmg hobj hints hlen hbits hg => ?_
  have kin := hY w _ Y
  obtain ⟨fd, hb, hF⟩ := F w mg fa _ kin G.T.g hmg
  obtain ⟨fin, hs⟩ := hsem ns hlen hbits
  exact law_callG kin G.T.g G.T.b G.T.builtins G.T.nolimit hg hobj hints (Nat.le_trans hlen hn2) hr hF hb fun H _ hS => sp_start hS hs
end L2.Py
set_option maxRecDepth 100000
namespace L2.Py
open PySem PySem.Spec PyProof.Rows
theorem takes_no {X : Cx} : Takes X NoX := fun u s' ⟨a, B, sI, pins, σ, H, cls, d, e, I, nb, up, sky, na, os, ag, w⟩ => w.elim
theorem hu_room {A : Around} {k : Nat} (r : Room k A) : A.units + 64 < cLine := by have := r.un; omega
def cLt (i j : Int) : Bool := decide (i < j)
def cLe (i j : Int) : Bool := decide (i ≤ j)
def cGt (i j : Int) : Bool := decide (i > j)
def cGe (i j : Int) : Bool := decide (i ≥ j)
def cEq (i j : Int) : Bool := decide (i = j)
section
variable {X : Cx} {W : WX} {a b c : Expr} {es : List Expr} {fa fb fc : Sem} {fl : SemL} {pos p : Pos}
theorem je_add (ha : JE X W a fa) (hb : JE X W b fb) : JE X W (.BinOp a .Add b pos) (sOp gAdd (s2 fa fb)) := je_bin op_addAll pr_add ha hb
theorem je_sub (ha : JE X W a fa) (hb : JE X W b fb) : JE X W (.BinOp a .Sub b pos) (sOp gSub (s2 fa fb)) := je_bin op_sub pr_sub ha hb
theorem je_mul (ha : JE X W a fa) (hb : JE X W b fb) : JE X W (.BinOp a .Mult b pos) (sOp gMul (s2 fa fb)) := je_bin op_mulAll pr_mul ha hb
theorem je_div (ha : JE X W a fa) (hb : JE X W b fb) : JE X W (.BinOp a .FloorDiv b pos) (sOp gDiv (s2 fa fb)) := je_bin op_fdivX pr_div ha hb
theorem je_mod (ha : JE X W a fa) (hb : JE X W b fb) : JE X W (.BinOp a .Mod b pos) (sOp gMod (s2 fa fb)) := je_bin op_modN pr_mod ha hb
theorem je_pow (ha : JE X W a fa) (hb : JE X W b fb) : JE X W (.BinOp a .Pow b pos) (sOp gPow (s2 fa fb)) := je_bin op_pow pr_pow ha hb
theorem je_lt (ha : JE X W a fa) (hb : JE X W b fb) : JE X W (.Compare a [.Lt] [b] pos) (sOp (gCmp cLt) (s2 fa fb)) := je_cmp op_lt (pr_cmp cLt) ha hb (nomark b)
theorem jb_lt (ha : JE X W a fa) (hb : JE X W b fb) : JB X W (.Compare a [.Lt] [b] pos) (sTruC (sOp (gCmp cLt) (s2 fa fb))) := jb_cmp op_lt (pr_cmp cLt) ha hb (nomark b)
theorem je_le (ha : JE X W a fa) (hb : JE X W b fb) : JE X W (.Compare a [.LtE] [b] pos) (sOp (gCmp cLe) (s2 fa fb)) := je_cmp op_le (pr_cmp cLe) ha hb (nomark b)
theorem jb_le (ha : JE X W a fa) (hb : JE X W b fb) : JB X W (.Compare a [.LtE] [b] pos) (sTruC (sOp (gCmp cLe) (s2 fa fb))) := jb_cmp op_le (pr_cmp cLe) ha hb (nomark b)
theorem je_gt (ha : JE X W a fa) (hb : JE X W b fb) : JE X W (.Compare a [.Gt] [b] pos) (sOp (gCmp cGt) (s2 fa fb)) := je_cmp op_gt (pr_cmp cGt) ha hb (nomark b)
theorem jb_gt (ha : JE X W a fa) (hb : JE X W b fb) : JB X W (.Compare a [.Gt] [b] pos) (sTruC (sOp (gCmp cGt) (s2 fa fb))) := jb_cmp op_gt (pr_cmp cGt) ha hb (nomark b)
theorem je_ge (ha : JE X W a fa) (hb : JE X W b fb) : JE X W (.Compare a [.GtE] [b] pos) (sOp (gCmp cGe) (s2 fa fb)) := je_cmp op_ge (pr_cmp cGe) ha hb (nomark b)
theorem jb_ge (ha : JE X W a fa) (hb : JE X W b fb) : JB X W (.Compare a [.GtE] [b] pos) (sTruC (sOp (gCmp cGe) (s2 fa fb))) := jb_cmp op_ge (pr_cmp cGe) ha hb (nomark b)
theorem je_eq (hu : X.A.units + 64 < cLine) (ha : JE X W a fa) (hb : JE X W b fb) : JE X W (.Compare a [.Eq] [b] pos) (sOp gEq (s2 fa fb)) := je_cmp (op_eqAll hu) pr_eq ha hb (nomark b)
theorem jb_eq (hu : X.A.units + 64 < cLine) (ha : JE X W a fa) (hb : JE X W b fb) : JB X W (.Compare a [.Eq] [b] pos) (sTruC (sOp gEq (s2 fa fb))) := jb_cmp (op_eqAll hu) pr_eq ha hb (nomark b)
theorem je_ne (hu : X.A.units + 64 < cLine) (ha : JE X W a fa) (hb : JE X W b fb) : JE X W (.Compare a [.NotEq] [b] pos) (sOp gNe (s2 fa fb)) := je_cmp (op_neAll hu) pr_ne ha hb (nomark b)
theorem jb_ne (hu : X.A.units + 64 < cLine) (ha : JE X W a fa) (hb : JE X W b fb) : JB X W (.Compare a [.NotEq] [b] pos) (sTruC (sOp gNe (s2 fa fb))) := jb_cmp (op_neAll hu) pr_ne ha hb (nomark b)
theorem je_is (ha : JE X W a fa) (hb : JE X W b fb) : JE X W (.Compare a [.Is] [b] pos) (sOp gIs (s2 fa fb)) := je_cmp (op_isBl) pr_is ha hb (nomark b)
theorem jb_is (ha : JE X W a fa) (hb : JE X W b fb) : JB X W (.Compare a [.Is] [b] pos) (sTruC (sOp gIs (s2 fa fb))) := jb_cmp (op_isBl) pr_is ha hb (nomark b)
theorem je_isnt (ha : JE X W a fa) (hb : JE X W b fb) : JE X W (.Compare a [.IsNot] [b] pos) (sOp gIsnt (s2 fa fb)) := je_cmp (op_notBl) pr_isnt ha hb (nomark b)
theorem jb_isnt (ha : JE X W a fa) (hb : JE X W b fb) : JB X W (.Compare a [.IsNot] [b] pos) (sTruC (sOp gIsnt (s2 fa fb))) := jb_cmp (op_notBl) pr_isnt ha hb (nomark b)
theorem je_in (ha : JE X W a fa) (hb : JE X W b fb) (hm : behindInMarks .In b = false := by with_unfolding_all rfl) : JE X W (.Compare a [.In] [b] pos) (sOp (gIn false) (s2 fa fb)) := je_cmp op_in_seq pr_in ha hb hm
theorem jb_in (ha : JE X W a fa) (hb : JE X W b fb) (hm : behindInMarks .In b = false := by with_unfolding_all rfl) : JB X W (.Compare a [.In] [b] pos) (sTruC (sOp (gIn false) (s2 fa fb))) := jb_cmp op_in_seq pr_in ha hb hm
theorem je_notin (ha : JE X W a fa) (hb : JE X W b fb) (hm : behindInMarks .NotIn b = false := by with_unfolding_all rfl) : JE X W (.Compare a [.NotIn] [b] pos) (sOp (gIn true) (s2 fa fb)) := je_cmp op_notIn_seq pr_in ha hb hm
theorem jb_notin (ha : JE X W a fa) (hb : JE X W b fb) (hm : behindInMarks .NotIn b = false := by with_unfolding_all rfl) : JB X W (.Compare a [.NotIn] [b] pos) (sTruC (sOp (gIn true) (s2 fa fb))) := jb_cmp op_notIn_seq pr_in ha hb hm
theorem jc_abs (hg : Gl X "abs") (hm : X.mg "abs" = none) (ha : JA X W (a :: es) fl) (hs : starEach (a :: es) X.env = (false, eval a X.env) :: starEach es X.env := by rfl) (hpl : (backTo pos (starEach es X.env)).any (·.1) = false := by rfl) :
    JE X W (.Call (.Name "abs" p) (a :: es) [] pos) (sOp gAbs fl) := je_callB call_abs pr_abs hg hm (by decide +kernel) ha (by decide) (by decide) hs hpl
theorem jc_divmod (hg : Gl X "divmod") (hm : X.mg "divmod" = none) (ha : JA X W (a :: es) fl) (hs : starEach (a :: es) X.env = (false, eval a X.env) :: starEach es X.env := by rfl) (hpl : (backTo pos (starEach es X.env)).any (·.1) = false := by rfl) :
    JE X W (.Call (.Name "divmod" p) (a :: es) [] pos) (sOp gDivmod fl) := je_callB call_divmod pr_divmod hg hm (by decide +kernel) ha (by decide) (by decide) hs hpl
theorem jc_len (hg : Gl X "len") (hm : X.mg "len" = none) (ha : JA X W (a :: es) fl) (hs : starEach (a :: es) X.env = (false, eval a X.env) :: starEach es X.env := by rfl) (hpl : (backTo pos (starEach es X.env)).any (·.1) = false := by rfl) :
    JE X W (.Call (.Name "len" p) (a :: es) [] pos) (sOp gLen fl) := je_callB call_len pr_len hg hm (by decide +kernel) ha (by decide) (by decide) hs hpl
theorem jc_sum (hc : X.calm = true) (hg : Gl X "sum") (hm : X.mg "sum" = none) (ha : JA X W (a :: es) fl) (hs : starEach (a :: es) X.env = (false, eval a X.env) :: starEach es X.env := by rfl) (hpl : (backTo pos (starEach es X.env)).any (·.1) = false := by rfl) :
    JE X W (.Call (.Name "sum" p) (a :: es) [] pos) (sOp gSum fl) := je_callB (cr_sum hc) pr_sum hg hm (by decide +kernel) ha (by decide) (by decide) hs hpl
theorem jc_max (hc : X.calm = true) (hg : Gl X "max") (hm : X.mg "max" = none) (ha : JA X W (a :: es) fl) (hs : starEach (a :: es) X.env = (false, eval a X.env) :: starEach es X.env := by rfl) (hpl : (backTo pos (starEach es X.env)).any (·.1) = false := by rfl) :
    JE X W (.Call (.Name "max" p) (a :: es) [] pos) (sOp gMax fl) := je_callB (call_maxAll hc) pr_max hg hm (by decide +kernel) ha (by decide) (by decide) hs hpl
theorem jc_min (hc : X.calm = true) (hg : Gl X "min") (hm : X.mg "min" = none) (ha : JA X W (a :: es) fl) (hs : starEach (a :: es) X.env = (false, eval a X.env) :: starEach es X.env := by rfl) (hpl : (backTo pos (starEach es X.env)).any (·.1) = false := by rfl) :
    JE X W (.Call (.Name "min" p) (a :: es) [] pos) (sOp gMin fl) := je_callB (call_minAll hc) pr_min hg hm (by decide +kernel) ha (by decide) (by decide) hs hpl
theorem jc_all (hc : X.calm = true) (hg : Gl X "all") (hm : X.mg "all" = none) (ha : JA X W (a :: es) fl) (hs : starEach (a :: es) X.env = (false, eval a X.env) :: starEach es X.env := by rfl) (hpl : (backTo pos (starEach es X.env)).any (·.1) = false := by rfl) :
    JE X W (.Call (.Name "all" p) (a :: es) [] pos) (sOp gAll fl) := je_callB (cr_all hc) pr_all hg hm (by decide +kernel) ha (by decide) (by decide) hs hpl
theorem jc_any (hc : X.calm = true) (hg : Gl X "any") (hm : X.mg "any" = none) (ha : JA X W (a :: es) fl) (hs : starEach (a :: es) X.env = (false, eval a X.env) :: starEach es X.env := by rfl) (hpl : (backTo pos (starEach es X.env)).any (·.1) = false := by rfl) :
    JE X W (.Call (.Name "any" p) (a :: es) [] pos) (sOp gAny fl) := je_callB (cr_any hc) pr_any hg hm (by decide +kernel) ha (by decide) (by decide) hs hpl
theorem jc_repr (hd : X.A.guards = some []) (hu : X.A.units + 64 < cLine) (hg : Gl X "repr") (hm : X.mg "repr" = none) (ha : JA X W (a :: es) fl) (hs : starEach (a :: es) X.env = (false, eval a X.env) :: starEach es X.env := by rfl) (hpl : (backTo pos (starEach es X.env)).any (·.1) = false := by rfl) :
    JE X W (.Call (.Name "repr" p) (a :: es) [] pos) (sOp gRepr fl) := je_callB (call_reprD hd hu) pr_repr hg hm (by decide +kernel) ha (by decide) (by decide) hs hpl
theorem jc_isinstance (hg : Gl X "isinstance") (hm : X.mg "isinstance" = none) (ha : JA X W (a :: es) fl) (hs : starEach (a :: es) X.env = (false, eval a X.env) :: starEach es X.env := by rfl) (hpl : (backTo pos (starEach es X.env)).any (·.1) = false := by rfl) :
    JE X W (.Call (.Name "isinstance" p) (a :: es) [] pos) (sOp gIsi fl) := je_callB call_isi pr_isi hg hm (by decide +kernel) ha (by decide) (by decide) hs hpl
theorem jc_int (hg : Gl X "int") (hm : X.mg "int" = none) (ha : JA X W (a :: es) fl) (hs : starEach (a :: es) X.env = (false, eval a X.env) :: starEach es X.env := by rfl) (hpl : (backTo pos (starEach es X.env)).any (·.1) = false := by rfl) :
    JE X W (.Call (.Name "int" p) (a :: es) [] pos) (sOp gInt fl) := je_callTy call_int1 pr_int hg hm (by decide +kernel) ha (by decide) (by decide) hs hpl
theorem jc_list (hg : Gl X "list") (hm : X.mg "list" = none) (ha : JA X W (a :: es) fl) (hs : starEach (a :: es) X.env = (false, eval a X.env) :: starEach es X.env := by rfl) (hpl : (backTo pos (starEach es X.env)).any (·.1) = false := by rfl) :
    JE X W (.Call (.Name "list" p) (a :: es) [] pos) (sOp gList fl) := je_callTy call_list_of pr_list hg hm (by decide +kernel) ha (by decide) (by decide) hs hpl
theorem jc_tuple (hg : Gl X "tuple") (hm : X.mg "tuple" = none) (ha : JA X W (a :: es) fl) (hs : starEach (a :: es) X.env = (false, eval a X.env) :: starEach es X.env := by rfl) (hpl : (backTo pos (starEach es X.env)).any (·.1) = false := by rfl) :
    JE X W (.Call (.Name "tuple" p) (a :: es) [] pos) (sOp gTuple fl) := je_callTy call_tuple_of pr_tuple hg hm (by decide +kernel) ha (by decide) (by decide) hs hpl
end
end L2.Py
set_option maxRecDepth 100000
namespace L2.Py
open PySem PySem.Spec PyProof.Rows
def sSh (g : List D → Option (List D)) (fl : SemL) : SemI := fun e => match fl e with
  | .no => .no
  | .ex x e1 => .ex x e1
  | .ok ts e1 => match takeAll ts e1 with
    | none => .no
    | some (ts', e2) => match g (ts'.map dOf) with
      | none => .no
      | some ds => .ok ds e2
def sNoI : SemI := fun _ => .no
def gRng3 : List D → Option (List D)
  | [.int i, .int j, .int c] => if c ≠ 0 ∧ c.natAbs < 1073741824 ∧ Builtin.Range.small i j c = true ∧ 0 ≤ Builtin.Range.rangeSize i j c then some ((List.range (Builtin.Range.rangeSize i j c).toNat).map fun (k : Nat) => D.int (i + k * c)) else none
  | _ => none
def enumD : Nat → List D → List D
  | _, [] => []
  | i, d :: ds => .tup [.int (i : Int), d] :: enumD (i + 1) ds
def gEnum : List D → Option (List D)
  | [.lst ds] => some (enumD 0 ds)
  | [.scr ds] => some (enumD 0 ds)
  | _ => none
def zipD : List D → List D → List D
  | a :: as, b :: bs => .tup [a, b] :: zipD as bs
  | _, _ => []
def gZip : List D → Option (List D)
  | [.lst a, .lst b] => some (zipD a b)
  | [.lst a, .scr b] => some (zipD a b)
  | [.scr a, .lst b] => some (zipD a b)
  | [.tup a, .tup b] => some (zipD a b)
  | _ => none
theorem enum_get : ∀ {ds : List D} {k i : Nat} {d : D}, (enumD k ds)[i]? = some d → ∃ x, ds[i]? = some x ∧ d = .tup [.int ((k + i : Nat) : Int), x]
  | [], k, i, d, h => by simp [enumD] at h
  | x :: ds, k, 0, d, h => by
    have h : some (D.tup [.int (k : Int), x]) = some d := h
    cases h
    exact ⟨x, rfl, rfl⟩
  | x :: ds, k, i + 1, d, h => by
    have h : (enumD (k + 1) ds)[i]? = some d := h
    obtain ⟨y, h1, h2⟩ := enum_get h
    exact ⟨y, h1, by rw [h2, show k + 1 + i = k + (i + 1) by omega]⟩
theorem enum_len : ∀ {ds : List D} {k : Nat}, (enumD k ds).length = ds.length
  | [], _ => rfl
  | x :: ds, k => by
    show (enumD (k + 1) ds).length + 1 = ds.length + 1
    rw [enum_len]
theorem zip_get : ∀ {as bs : List D} {i : Nat} {d : D}, (zipD as bs)[i]? = some d → ∃ x y, as[i]? = some x ∧ bs[i]? = some y ∧ d = .tup [x, y]
  | [], bs, i, d, h => by cases bs <;> simp [zipD] at h
  | a :: as, [], i, d, h => by simp [zipD] at h
  | a :: as, b :: bs, 0, d, h => by
    have h : some (D.tup [a, b]) = some d := h
    cases h
    exact ⟨a, b, rfl, rfl, rfl⟩
  | a :: as, b :: bs, i + 1, d, h => by
    have h : (zipD as bs)[i]? = some d := h
    obtain ⟨x, y, h1, h2, h3⟩ := zip_get h
    exact ⟨x, y, h1, h2, h3⟩
theorem zip_len : ∀ {as bs : List D}, (zipD as bs).length = min as.length bs.length
  | [], bs => by cases bs <;> simp [zipD]
  | a :: as, [] => by simp [zipD]
  | a :: as, b :: bs => by
    show (zipD as bs).length + 1 = _
    rw [zip_len, List.length_cons, List.length_cons]
    omega
section
variable {X : Cx} {W : WX} {a b c : Expr} {es : List Expr} {fa fb fc : Sem} {fl : SemL} {pos p tpos : Pos} {K : PySem.W.Frag} {tg : Expr} {elts : List Expr} {kk : Nat}
theorem ji_never {tg iter : Expr} : JI X W tg iter sNoI := ⟨fun pins s σ H Q I ⟨vs0, Bk, Hs, en, fr, h⟩ => h.elim⟩
theorem sh_fin {σ : St} {H : Hp} {Rr : It → Hp → Prop} {g : List D → Option (List D)} {Pv : List V → Hp → Prop} (h : TIt X.K X.mg W (sSh g fl) σ H Rr)
    (i : ∀ ds out vs H1 Hs, g ds = some out → Same Hs H1 → Rps X.K Hs ds vs → (∀ J, ItOk X.K J Hs out → Rr J H1) → Pv vs H1) : TL' X.K X.mg W fl σ H Pv := by
  obtain ⟨vs0, Bk, Hs, e, fr, h⟩ := h
  refine ⟨vs0, Bk, Hs, e, fr, ?_⟩
  unfold sSh at h
  cases q : fl e with
  | no => rw [q] at h; exact h
  | ex x e1 => rw [q] at h; exact h
  | ok ts e1 =>
    rw [q] at h
    intro vs Hs1 H1 g1 t1
    dsimp only at h
    split at h
    · exact h.elim
    · rename_i ts' e2 q2
      obtain ⟨Hs2, g2, f2, n2, o2, r2⟩ := takeAll_ok t1.f t1.r (fun _ m => m) q2
      have es : Same Bk (ext Bk H1 (ownAs ts vs)) := ext_same fun a m => (t1.r.own a m).1
      obtain ⟨g3, f3⟩ := f2.share (o2 ▸ r2.own)
      have rr := rps_of g3.1 r2 n2 (fun a m => by
        rw [o2] at m
        exact m)
      split at h
      · exact h.elim
      · rename_i ds hds
        exact i _ ds vs H1 _ hds f3.sb rr fun J hJ => h J _ H1 ((g1.trans (g2.weak es)).trans g3) f3 hJ
theorem ji_range3 (hg : Gl X "range") (hm : X.mg "range" = none) (ha : JA X W [a, b, c] fl) (hs : starEach [a, b, c] X.env = (false, eval a X.env) :: starEach [b, c] X.env := by rfl) (hpl : (backTo pos (starEach [b, c] X.env)).any (·.1) = false := by rfl) :
    JI X W tg (.Call (.Name "range" p) [a, b, c] [] pos) (sSh gRng3 fl) :=
  PI_imp (pi_range3 hg hm ha hs hpl) fun σ H Rr h => sh_fin h fun ds out vs H1 Hs hg sb rr k => by
    unfold gRng3 at hg
    split at hg
    · rename_i i j c
      split at hg
      · rename_i hc
        cases hg
        obtain ⟨v, r, rfl, h1, w, r', rfl, h2, u, r'', rfl, h3, rfl⟩ := rr
        cases h1; cases h2; cases h3
        exact ⟨i, j, c, _, rfl, ⟨hc.1, hc.2.1, hc.2.2.1, (Int.toNat_of_nonneg hc.2.2.2).symm⟩, k _ it_rngC⟩
      · cases hg
    · cases hg
theorem it_enum {Hs : Hp} {p : Addr} {xs : List V} {ds : List D} (h : SqL K Hs p xs) (r : Rps K Hs ds xs) : ItOk K (Ite K p) Hs (enumD 0 ds) := by
  intro Hs1 H1 s1 s2 i
  refine ⟨fun d q => ?_, fun q => have q := Nat.le_of_eq q; ?_⟩
  · obtain ⟨x, h1, rfl⟩ := enum_get q
    obtain ⟨y, y1, y2⟩ := rps_get r h1
    refine ⟨⟨xs, y, Same.seq s2 (Same.seq s1 h), y1⟩, fun v H' ⟨T, z, e1, nT, e2, e3⟩ => ?_⟩
    subst e1
    subst e2
    have := e3 xs (Same.seq s2 (Same.seq s1 h))
    rw [y1] at this
    cases this
    rw [Nat.zero_add]
    exact ⟨_, new_tup s2 ⟨.int (i : Int), [y], rfl, rfl, y, [], rfl, Rp.mono s1 _ _ y2, rfl⟩ nT⟩
  · exact ⟨xs, Same.seq s2 (Same.seq s1 h), by rw [← rps_len r, ← enum_len (k := 0)]; exact q⟩
theorem ji_enum (hg : Gl X "enumerate") (hm : X.mg "enumerate" = none) (ha : JA X W [a] fl) (hs : starEach [a] X.env = [(false, eval a X.env)] := by rfl) :
    JI X W (.Tuple elts kk tpos) (.Call (.Name "enumerate" p) [a] [] pos) (sSh gEnum fl) :=
  PI_imp (pi_enum hg hm ha hs) fun σ H Rr h => sh_fin h fun ds out vs H1 Hs hg sb rr k => by
    unfold gEnum at hg
    split at hg
    · cases hg
      obtain ⟨v, r, rfl, ⟨p, xs, rfl, h1, h2⟩, rfl⟩ := rr
      exact ⟨p, xs, rfl, .inl (.inl (sb _ _ h1)), k _ (it_enum (.inl (.inl h1)) h2)⟩
    · cases hg
      obtain ⟨v, r, rfl, ⟨p, xs, rfl, h1, h2⟩, rfl⟩ := rr
      exact ⟨p, xs, rfl, Same.seq sb h1, k _ (it_enum h1 h2)⟩
    · cases hg
theorem it_zip {Hs : Hp} {p q : Addr} {xs ys : List V} {ds es : List D} (h : SqL K Hs p xs) (r : Rps K Hs ds xs) (h' : SqL K Hs q ys) (r' : Rps K Hs es ys) : ItOk K (Itz K p q) Hs (zipD ds es) := by
  intro Hs1 H1 s1 s2 i
  have a1 := Same.seq s2 (Same.seq s1 h)
  have a2 := Same.seq s2 (Same.seq s1 h')
  refine ⟨fun d q => ?_, fun q => have q := Nat.le_of_eq q; ?_⟩
  · obtain ⟨x, y, h1, h2, rfl⟩ := zip_get q
    obtain ⟨u, u1, u2⟩ := rps_get r h1
    obtain ⟨w, w1, w2⟩ := rps_get r' h2
    refine ⟨⟨xs, ys, u, w, a1, a2, u1, w1⟩, fun v H' ⟨T, z, z', e1, nT, e2, e3, e4⟩ => ?_⟩
    subst e1
    subst e2
    have b1 := e3 xs a1
    rw [u1] at b1
    cases b1
    have b2 := e4 ys a2
    rw [w1] at b2
    cases b2
    exact ⟨_, new_tup s2 ⟨u, [w], rfl, Rp.mono s1 _ _ u2, w, [], rfl, Rp.mono s1 _ _ w2, rfl⟩ nT⟩
  · refine ⟨xs, ys, a1, a2, ?_⟩
    rw [zip_len] at q
    rw [← rps_len r, ← rps_len r']
    omega
theorem it_zipT {Hs : Hp} {p q : Addr} {xs ys : List V} {ds es : List D} (h : SqT K Hs p xs) (r : Rps K Hs ds xs) (h' : SqT K Hs q ys) (r' : Rps K Hs es ys) : ItOk K (RZ.ItzT K p q) Hs (zipD ds es) := by
  intro Hs1 H1 s1 s2 i
  have a1 := Same.sqt s2 (Same.sqt s1 h)
  have a2 := Same.sqt s2 (Same.sqt s1 h')
  refine ⟨fun d q => ?_, fun q => have q := Nat.le_of_eq q; ?_⟩
  · obtain ⟨x, y, h1, h2, rfl⟩ := zip_get q
    obtain ⟨u, u1, u2⟩ := rps_get r h1
    obtain ⟨w, w1, w2⟩ := rps_get r' h2
    refine ⟨⟨xs, ys, u, w, a1, a2, u1, w1⟩, fun v H' ⟨T, z, z', e1, nT, e2, e3, e4⟩ => ?_⟩
    subst e1
    subst e2
    have b1 := e3 xs a1
    rw [u1] at b1
    cases b1
    have b2 := e4 ys a2
    rw [w1] at b2
    cases b2
    exact ⟨_, new_tup s2 ⟨u, [w], rfl, Rp.mono s1 _ _ u2, w, [], rfl, Rp.mono s1 _ _ w2, rfl⟩ nT⟩
  · refine ⟨xs, ys, a1, a2, ?_⟩
    rw [zip_len] at q
    rw [← rps_len r, ← rps_len r']
    omega
theorem ji_zip (hg : Gl X "zip") (hm : X.mg "zip" = none) (ha : JA X W [a, b] fl) (hs : starEach [a, b] X.env = (false, eval a X.env) :: starEach [b] X.env := by rfl) (hpl : (backTo pos (starEach [b] X.env)).any (·.1) = false := by rfl) :
    JI X W (.Tuple elts kk tpos) (.Call (.Name "zip" p) [a, b] [] pos) (sSh gZip fl) :=
  PI_imp (RZ.pi_zipA hg hm ha hs hpl) fun σ H Rr h => sh_fin h fun ds out vs H1 Hs hg sb rr k => by
    unfold gZip at hg
    split at hg
    · cases hg
      obtain ⟨v, r, rfl, ⟨p, xs, rfl, h1, h2⟩, v', r', rfl, ⟨p', xs', rfl, h3, h4⟩, rfl⟩ := rr
      exact ⟨p, p', xs, xs', rfl, .inl ⟨.inl (.inl (sb _ _ h1)), .inl (.inl (sb _ _ h3)), k _ (it_zip (.inl (.inl h1)) h2 (.inl (.inl h3)) h4)⟩⟩
    · cases hg
      obtain ⟨v, r, rfl, ⟨p, xs, rfl, h1, h2⟩, v', r', rfl, ⟨p', xs', rfl, h3, h4⟩, rfl⟩ := rr
      exact ⟨p, p', xs, xs', rfl, .inl ⟨.inl (.inl (sb _ _ h1)), Same.seq sb h3, k _ (it_zip (.inl (.inl h1)) h2 h3 h4)⟩⟩
    · cases hg
      obtain ⟨v, r, rfl, ⟨p, xs, rfl, h1, h2⟩, v', r', rfl, ⟨p', xs', rfl, h3, h4⟩, rfl⟩ := rr
      exact ⟨p, p', xs, xs', rfl, .inl ⟨Same.seq sb h1, .inl (.inl (sb _ _ h3)), k _ (it_zip h1 h2 (.inl (.inl h3)) h4)⟩⟩
    · cases hg
      obtain ⟨v, r, rfl, ⟨p, xs, rfl, h1, h2⟩, v', r', rfl, ⟨p', xs', rfl, h3, h4⟩, rfl⟩ := rr
      exact ⟨p, p', xs, xs', rfl, .inr ⟨Same.sqt sb h1, Same.sqt sb h3, k _ (it_zipT h1 h2 h3 h4)⟩⟩
    · cases hg
def isort (l : List Int) : List Int := l.mergeSort fun a b => decide (a ≤ b)
theorem isort_is {l m : List Int} (h : m.Perm l) (hs : m.Pairwise (· ≤ ·)) : m = isort l := by
  have h1 : (isort l).Pairwise (· ≤ ·) := by
    have := List.pairwise_mergeSort (le := fun a b : Int => decide (a ≤ b)) (fun a b c h1 h2 => by simp at *; omega) (fun a b => by simp; omega) l
    exact this.imp fun h => by simpa using h
  exact List.Perm.eq_of_pairwise (fun a b _ _ h1 h2 => Int.le_antisymm h1 h2) hs h1 (h.trans (List.mergeSort_perm l _).symm)
def gSorted : List D → Option Tm
  | [d] => match lstOf d with
    | none => none
    | some l => match intsOf l with
      | none => none
      | some ns => some (.ow (.lst ((isort ns).map .int)))
  | _ => none
theorem rps_ofi {H : Hp} : ∀ l : List Int, Rps K H (l.map D.int) (l.map V.int)
  | [] => rfl
  | i :: l => ⟨.int i, l.map V.int, rfl, rfl, rps_ofi l⟩
theorem pr_sorted : PureOk K gSorted (rSortedI K) := by
  intro Hs H vs ds t Q sb rd q k
  unfold gSorted at q
  split at q
  · split at q
    · cases q
    · rename_i l hl
      split at q
      · cases q
      · rename_i ns hn
        cases q
        obtain ⟨v, rfl, h1⟩ := rds1 rd
        obtain ⟨p, xs, rfl, a1, a2⟩ := rd1_seq sb h1 hl
        have e := rps_ints a2 hn
        subst e
        refine ⟨p, ns, rfl, a1, fun ns' z hp hs hz => ?_⟩
        rw [isort_is hp hs]
        exact k _ _ _ (new_lst sb (rps_ofi _) hz)
  · cases q
theorem jc_sorted (hg : Gl X "sorted") (hm : X.mg "sorted" = none) (ha : JA X W (a :: es) fl) (hs : starEach (a :: es) X.env = (false, eval a X.env) :: starEach es X.env := by rfl) (hpl : (backTo pos (starEach es X.env)).any (·.1) = false := by rfl) :
    JE X W (.Call (.Name "sorted" p) (a :: es) [] pos) (sOp gSorted fl) := je_callB cr_sortedI pr_sorted hg hm (by decide +kernel) ha (by decide) (by decide) hs hpl
end
end L2.Py
set_option maxRecDepth 100000
namespace L2.Py
open PySem PySem.Spec PyProof.Rows
def keyD : D → Option Key
  | .int i => some (.inl i)
  | .str x => some (.inr x)
  | _ => none
def getD (kd : List (Key × D)) (k : Key) : Option D := (kd.find? fun kv => decide (kv.1 = k)).map (·.2)
def putD (kd : List (Key × D)) (k : Key) (d : D) : List (Key × D) :=
  if (kd.any fun kv => decide (kv.1 = k)) = true then kd.map (fun kv => if kv.1 = k then (kv.1, d) else kv) else kd ++ [(k, d)]
section
variable {K : PySem.W.Frag} {Hs H : Hp}
theorem keyD_ok {d : D} {k : Key} {v : V} (q : keyD d = some k) (h : Rd1 K Hs H d v) : v = kV k := by
  cases d <;> first | (cases q; done) | skip
  · cases q
    exact rd1_int h
  · cases q
    exact rd1_str h
theorem rpk_get {k : Key} : ∀ {kd : List (Key × D)} {kvs : List (Key × V)}, Rpk K H kd kvs → match getD kd k with
    | some d => ∃ v, valV kvs k = some v ∧ Rp K H d v
    | none => valV kvs k = none
  | [], kvs, h => by have h : kvs = [] := h; subst h; rfl
  | (k', d) :: kd, kvs, h => by
    obtain ⟨v, r, rfl, h1, h2⟩ := h
    by_cases e : k' = k
    · have : getD ((k', d) :: kd) k = some d := by simp [getD, List.find?_cons, e]
      rw [this]
      exact ⟨v, valV_pos (p := (k', v)) e, h1⟩
    · have : getD ((k', d) :: kd) k = getD kd k := by simp [getD, List.find?_cons, e]
      rw [this, valV_neg (p := (k', v)) e]
      exact rpk_get h2
theorem rpk_any {k : Key} : ∀ {kd : List (Key × D)} {kvs : List (Key × V)}, Rpk K H kd kvs → (kd.any fun kv => decide (kv.1 = k)) = kvs.any fun kv => decide (kv.1 = k)
  | [], kvs, h => by have h : kvs = [] := h; subst h; rfl
  | (k', d) :: kd, kvs, h => by
    obtain ⟨v, r, rfl, h1, h2⟩ := h
    rw [List.any_cons, List.any_cons, rpk_any h2]
theorem rpk_map {k : Key} {d : D} {v : V} (r : Rp K H d v) : ∀ {kd : List (Key × D)} {kvs : List (Key × V)}, Rpk K H kd kvs → Rpk K H (kd.map fun kv => if kv.1 = k then (kv.1, d) else kv) (kvs.map fun kv => if kv.1 = k then (kv.1, v) else kv)
  | [], kvs, h => by have h : kvs = [] := h; subst h; rfl
  | (k', d') :: kd, kvs, h => by
    obtain ⟨v', r', rfl, h1, h2⟩ := h
    rw [List.map_cons, List.map_cons]
    by_cases e : k' = k
    · rw [if_pos e, if_pos e]
      exact ⟨v, _, rfl, r, rpk_map r h2⟩
    · rw [if_neg e, if_neg e]
      exact ⟨v', _, rfl, h1, rpk_map r h2⟩
theorem rpk_append : ∀ {a b : List (Key × D)} {xs ys : List (Key × V)}, Rpk K H a xs → Rpk K H b ys → Rpk K H (a ++ b) (xs ++ ys)
  | [], b, xs, ys, h, r => by have h : xs = [] := h; subst h; exact r
  | (k, d) :: a, b, xs, ys, h, r => by
    obtain ⟨v, r', rfl, h1, h2⟩ := h
    exact ⟨v, r' ++ ys, rfl, h1, rpk_append h2 r⟩
theorem rpk_put {k : Key} {d : D} {v : V} {kd : List (Key × D)} {kvs : List (Key × V)} (h : Rpk K H kd kvs) (r : Rp K H d v) : Rpk K H (putD kd k d) (putK kvs k v) := by
  unfold putD putK
  rw [rpk_any h]
  split
  · exact rpk_map r h
  · exact rpk_append h ⟨v, [], rfl, r, rfl⟩
theorem rpk_len : ∀ {kd : List (Key × D)} {kvs : List (Key × V)}, Rpk K H kd kvs → kvs.length = kd.length
  | [], kvs, h => by have h : kvs = [] := h; subst h; rfl
  | (k, d) :: kd, kvs, h => by
    obtain ⟨v, r, rfl, _, h2⟩ := h
    rw [List.length_cons, List.length_cons, rpk_len h2]
end
def sDNew : Sem := fun e => .ok (.ow (.dct [])) e
def gDG : List D → Option Tm
  | [.dct kd, y] => match keyD y with
    | none => none
    | some k => (getD kd k).map .im
  | _ => none
def gDIn (neg : Bool) : List D → Option Tm
  | [y, .dct kd] => match keyD y with
    | none => none
    | some k => some (.im (.bl (if neg then !(getD kd k).isSome else (getD kd k).isSome)))
  | _ => none
def gDG3 : List D → Option Tm
  | [.dct kd, y, z] => match keyD y with
    | none => none
    | some k => match getD kd k with
      | some d => some (.im d)
      | none => match flD z with
        | some _ => some (.im z)
        | none => none
  | _ => none
def sDG3 (i : Nat) (fk fx : Sem) : Sem := fun e => match e[i]? with
  | some (some (.dct _, _)) => sOp gDG3 (sCons (sV i) (sCons fk (sCons fx sNil))) e
  | _ => .no
def rDG : R2 := fun x y H Q => ∃ a v, x = .ref a ∧ DGet H a y (some v) ∧ Q v H
def rDI (neg : Bool) : R2 := fun y x H Q => ∃ a o, x = .ref a ∧ DGet H a y o ∧ Q (.bl (if neg then !o.isSome else o.isSome)) H
def rDG3 : List V → Hp → VK → Prop := fun vs H Q => ∃ a y z o, vs = [.ref a, y, z] ∧ DGet H a y o ∧ Q (o.getD z) H
def gPutD (i : Nat) (fi : Sem) : G := fun t e => match e[i]? with
  | some (some _) => match fi e with
    | .ok ti e1 => match ti.get e1 with
      | some dk => match keyD dk with
        | some k => match e1[i]? with
          | some (some (.dct kd, f)) => if f.own && decide (kd.length < line) then some (e1.set i (some (.dct (putD kd k (dOf t)), f))) else none
          | _ => none
        | none => none
      | none => none
    | _ => none
  | _ => none
section
variable {X : Cx} {W : WX} {o a b c : Expr} {es : List Expr} {fa fb fc fd fk fx : Sem} {fl : SemL} {apos pos p : Pos} {K : PySem.W.Frag}
theorem je_dnew : JE X W (.Dict [] [] pos) sDNew := PE_imp pe_dnewK fun σ H Q ⟨vs0, Bk, Hs, e, f, h⟩ => by
  intro p np
  have h : PostE X.K X.mg W vs0 Bk Hs σ Q (.ok (.ow (.dct [])) e) := h
  obtain ⟨t, g⟩ := tmp_of f (new_dct (K := X.K) (xs := []) (ds := []) f.sb rfl np)
  exact h _ _ _ g t
theorem dget_of {H : Hp} {q : Addr} {kvs : List (Key × V)} {k : Key} (a1 : Rd H q (.dK kvs)) : DGet H q (kV k) (valV kvs k) := .inl ⟨kvs, k, a1, rfl, rfl⟩
theorem pr_dg : PureOk K gDG (r2 rDG) := by
  intro Hs H vs ds t Q sb rd q k
  unfold gDG at q
  split at q
  · rename_i kd y
    split at q
    · cases q
    · rename_i ky hk
      obtain ⟨v, w, rfl, h1, h2⟩ := rds2 rd
      obtain ⟨pa, xs, rfl, a1, a2⟩ := rd1_dct sb h1
      have e := keyD_ok hk h2
      subst e
      have g := rpk_get (k := ky) a2
      cases z : getD kd ky with
      | none => rw [z] at q; cases q
      | some d =>
        rw [z] at q g
        cases q
        obtain ⟨u, u1, u2⟩ := g
        exact ⟨_, _, rfl, pa, u, rfl, by rw [← u1]; exact dget_of a1, k _ _ _ (new_imm sb u2)⟩
  · cases q
theorem je_dget (hu : X.A.units + 1 < cLine) (ho : JE X W o fd) (hi : JE X W a fk) (hs : L2.NoSl a := by exact fun _ _ => rfl) : JE X W (.Subscript o a pos) (sOp gDG (s2 fd fk)) :=
  PE_imp (pe_dget hu ho hi hs) fun _ _ _ h => two_fin pr_dg h
theorem pr_din {neg : Bool} : PureOk K (gDIn neg) (r2 (rDI neg)) := by
  intro Hs H vs ds t Q sb rd q k
  unfold gDIn at q
  split at q
  · rename_i y kd
    split at q
    · cases q
    · rename_i ky hk
      cases q
      obtain ⟨v, w, rfl, h1, h2⟩ := rds2 rd
      obtain ⟨pa, xs, rfl, a1, a2⟩ := rd1_dct sb h2
      have e := keyD_ok hk h1
      subst e
      have g := rpk_get (k := ky) a2
      have e2 : (getD kd ky).isSome = (valV xs ky).isSome := by
        cases z : getD kd ky with
        | none => rw [z] at g; dsimp only at g; rw [g]; rfl
        | some d =>
          rw [z] at g
          obtain ⟨u, u1, _⟩ := g
          rw [u1]
          rfl
      refine ⟨_, _, rfl, pa, _, rfl, dget_of a1, ?_⟩
      rw [← e2]
      exact k _ _ _ (new_bl sb)
  · cases q
theorem je_din (hu : X.A.units + 1 < cLine) (hi : JE X W a fk) (ho : JE X W o fd) (hm : behindInMarks .In o = false := by with_unfolding_all rfl) : JE X W (.Compare a [.In] [o] pos) (sOp (gDIn false) (s2 fk fd)) :=
  PE_imp (pe_cmp (pc_din hu hi ho) hm) fun _ _ _ h => two_fin pr_din h
theorem jb_din (hu : X.A.units + 1 < cLine) (hi : JE X W a fk) (ho : JE X W o fd) (hm : behindInMarks .In o = false := by with_unfolding_all rfl) : JB X W (.Compare a [.In] [o] pos) (sTruC (sOp (gDIn false) (s2 fk fd))) :=
  PT_imp (pt_cmp (pc_din hu hi ho) hm) fun _ _ _ h => two_fin pr_din (truC_fin h)
theorem je_dnotin (hu : X.A.units + 1 < cLine) (hi : JE X W a fk) (ho : JE X W o fd) (hm : behindInMarks .NotIn o = false := by with_unfolding_all rfl) : JE X W (.Compare a [.NotIn] [o] pos) (sOp (gDIn true) (s2 fk fd)) :=
  PE_imp (pe_cmp (pc_dnotin hu hi ho) hm) fun _ _ _ h => two_fin pr_din h
theorem jb_dnotin (hu : X.A.units + 1 < cLine) (hi : JE X W a fk) (ho : JE X W o fd) (hm : behindInMarks .NotIn o = false := by with_unfolding_all rfl) : JB X W (.Compare a [.NotIn] [o] pos) (sTruC (sOp (gDIn true) (s2 fk fd))) :=
  PT_imp (pt_cmp (pc_dnotin hu hi ho) hm) fun _ _ _ h => two_fin pr_din (truC_fin h)
theorem pr_dg3 : PureOk K gDG3 rDG3 := by
  intro Hs H vs ds t Q sb rd q k
  unfold gDG3 at q
  split at q
  · rename_i kd y z
    split at q
    · cases q
    · rename_i ky hk
      obtain ⟨v, r, rfl, h1, w, r', rfl, h2, u, r'', rfl, h3, rfl⟩ := rd
      obtain ⟨pa, xs, rfl, a1, a2⟩ := rd1_dct sb h1
      have e := keyD_ok hk h2
      subst e
      have g := rpk_get (k := ky) a2
      cases zz : getD kd ky with
      | none =>
        rw [zz] at g q
        dsimp only at g q
        split at q
        · rename_i fz hz
          cases q
          refine ⟨pa, _, u, _, rfl, dget_of a1, ?_⟩
          rw [g]
          have h3 : Rp K Hs z u := h3.elim id fun ⟨a, _, w⟩ => by cases z <;> first | exact w.elim | cases hz
          exact k _ _ _ (new_imm sb h3)
        · cases q
      | some d =>
        rw [zz] at g q
        cases q
        obtain ⟨u', u1, u2⟩ := g
        refine ⟨pa, _, u, _, rfl, dget_of a1, ?_⟩
        rw [u1]
        exact k _ _ _ (new_imm sb u2)
  · cases q
theorem je_dget3 {i : Nat} {x : Str} (hu : X.A.units + 1 < cLine) (ho : JE X W (.Name x p) (sV i)) (he : JE X W a fk) (hf : JE X W b fx) (m : M2 X (.Name x p) "get" apos a b pos) :
    JE X W (.Call (.Attribute (.Name x p) "get" apos) [a, b] [] pos) (sDG3 i fk fx) :=
  PE_imp (pe_dget2 hu ho he hf m) fun σ H Q ⟨vs0, Bk, Hs, e, fr, h⟩ => by
    unfold sDG3 at h
    split at h
    · rename_i kd f hd
      have z := cons_fin fr (op_fin pr_dg3 fr h)
      refine ⟨vs0, Bk, Hs, e, fr, ?_⟩
      unfold sV at z ⊢
      rw [hd] at z ⊢
      intro v Hs1 H1 g1 t1
      have z := z v Hs1 H1 g1 t1
      have fr1 := t1.frm
      have hv : σ[i]? = some (some v) := t1.2
      have hdv : ∃ q kvs, v = .ref q ∧ Rd H1 q (.dK kvs) := by
        have rd := t1.2.rd fr1 (show (Tm.sl i).get e = some (.dct kd) by simp only [Tm.get, hd])
        obtain ⟨q, kvs, e1, e2, _⟩ := rd1_dct fr1.sb rd
        exact ⟨q, kvs, e1, e2⟩
      obtain ⟨q, kvs, rfl, hq⟩ := hdv
      refine ⟨q, rfl, .inl ⟨kvs, hq⟩, ?_⟩
      refine TI_imp (tl_cons z) fun y H2 z2 => ?_
      refine TI_imp (tl_cons z2) fun w H3 z3 => ?_
      obtain ⟨a', y', w', o, e1, g, r⟩ := tl_nil z3
      cases e1
      exact ⟨o, g, r⟩
    · exact h.elim
theorem jg_putD {i : Nat} (hu : X.A.units + 1 < cLine) (ho : JE X W o (sV i)) (hi : JE X W a fa)
    (he : ∀ v, assign (.Subscript o a pos) X.env v = (do
      let ov ← holding [v] (eval o X.env)
      let iv ← holding [v, ov] (eval a X.env)
      standAt pos
      holding [v, ov, iv] (setItem ov iv v)
      release [v, ov, iv] []) := by intro _; rfl) : JG X (.Subscript o a pos) [] (gPutD i fa) :=
  PG_imp (pg_sub ho hi (set_dict hu) he) fun v σ H Q ⟨vs0, Bk, Hs, e, t, tm, n, h⟩ => by
    obtain ⟨Hs1, g1, f1, r1⟩ := tm.share n
    have h := h.grow g1
    unfold gPutD at h
    split at h
    · rename_i z hz
      refine ⟨vs0, Bk, Hs1, e, f1, ?_⟩
      unfold sV
      rw [hz]
      intro w Hs2 H2 g2 t2
      have hv : σ[i]? = some (some w) := t2.2
      refine ⟨vs0, Bk, Hs2, e, t2.frm, ?_⟩
      have h := h.grow g2
      cases q : fa e with
      | no => rw [q] at h; exact h.elim
      | ex x e1 => rw [q] at h; exact h.elim
      | ok ti e1 =>
        rw [q] at h
        intro u Hs3 H3 g3 t3
        have h := h.grow g3
        dsimp only at h
        split at h
        · rename_i dk hk
          split at h
          · rename_i k hkk
            have hu := keyD_ok hkk (t3.2.rd t3.1 hk)
            have f3 := t3.frm
            split at h
            · rename_i kd f hd
              split at h
              · rename_i ow
                simp only [Bool.and_eq_true, decide_eq_true_eq] at ow
                obtain ⟨p, p1, ⟨xs, p2, p2'⟩, p3, p4⟩ := f3.ow i _ f hd ow.1
                rw [hv] at p1
                cases p1
                have r3 := Rp.mono (g2.1.trans g3.1) _ _ r1
                subst hu
                refine ⟨p, _, rfl, DPut.k p2 (by rw [rpk_len p2', ← line_eq]; exact ow.2), ?_⟩
                exact h σ Hs3 _ .refl .refl (f3.mut hd ow.1 hv ⟨_, upd_same, rpk_put p2' r3⟩)
              · exact h.elim
            · exact h.elim
          · exact h.elim
        · exact h.elim
    · exact h.elim
end
end L2.Py
set_option maxRecDepth 100000
namespace L2.Py
open PySem PySem.Spec PyProof.Rows
def isNon : D → Bool
  | .non => true
  | _ => false
def gIsN : List D → Option Tm
  | [d] => some (.im (.bl (isNon d)))
  | _ => none
def gIsntN : List D → Option Tm
  | [d] => some (.im (.bl (!isNon d)))
  | _ => none
section
variable {X : Cx} {W : WX} {a : Expr} {fa : Sem} {pos p2 : Pos} {K : PySem.W.Frag} {j : Nat}
theorem rd1_isN {Hs H : Hp} {d : D} {v : V} (h : Rd1 K Hs H d v) : decide (v = .non) = isNon d := by
  rcases h with h | ⟨p, rfl, h⟩
  · cases d <;> first
      | (have h : v = _ := h; subst h; rfl)
      | (obtain ⟨a, xs, rfl, _⟩ := h; rfl)
      | (obtain ⟨a, rfl⟩ := h; rfl)
  · cases d <;> first | exact h.elim | rfl
theorem pr_isN : PureOk K gIsN (r1 fun x H Q => Q (.bl (decide (x = .non))) H) := by
  intro Hs H vs ds t Q sb rd q k
  unfold gIsN at q
  split at q
  · cases q
    obtain ⟨v, rfl, h1⟩ := rds1 rd
    refine ⟨v, rfl, ?_⟩
    dsimp only
    rw [rd1_isN h1]
    exact k _ _ _ (new_bl sb)
  · cases q
theorem pr_isntN : PureOk K gIsntN (r1 fun x H Q => Q (.bl (!decide (x = .non))) H) := by
  intro Hs H vs ds t Q sb rd q k
  unfold gIsntN at q
  split at q
  · cases q
    obtain ⟨v, rfl, h1⟩ := rds1 rd
    refine ⟨v, rfl, ?_⟩
    dsimp only
    rw [rd1_isN h1]
    exact k _ _ _ (new_bl sb)
  · cases q
theorem je_isN (ha : JE X W a fa) : JE X W (.Compare a [.Is] [.Constant .none j p2] pos) (sOp gIsN (sCons fa sNil)) :=
  PE_imp (pe_cmp (pc_isN ha)) fun σ H Q h => one_fin pr_isN h
theorem je_isntN (ha : JE X W a fa) : JE X W (.Compare a [.IsNot] [.Constant .none j p2] pos) (sOp gIsntN (sCons fa sNil)) :=
  PE_imp (pe_cmp (pc_notN ha)) fun σ H Q h => one_fin pr_isntN h
theorem jb_isN (ha : JE X W a fa) : JB X W (.Compare a [.Is] [.Constant .none j p2] pos) (sTruC (sOp gIsN (sCons fa sNil))) :=
  PT_imp (pt_cmp (pc_isN ha)) fun σ H Q h => one_fin pr_isN (truC_fin h)
theorem jb_isntN (ha : JE X W a fa) : JB X W (.Compare a [.IsNot] [.Constant .none j p2] pos) (sTruC (sOp gIsntN (sCons fa sNil))) :=
  PT_imp (pt_cmp (pc_notN ha)) fun σ H Q h => one_fin pr_isntN (truC_fin h)
end
end L2.Py
set_option maxRecDepth 10000
namespace L2.Py
theorem mulI_s {i j : Int} (hi : i.natAbs ≤ 2 ^ 64) (hj : j.natAbs ≤ 2 ^ 64) : mulI i j = some (i * j) := if_pos ⟨small_big hi, small_big hj⟩
theorem divI_s {i j : Int} (h0 : j ≠ 0) (hj : j.natAbs ≤ 2 ^ 64) : divI i j = some (i.fdiv j) := if_pos ⟨h0, small_bigd hj⟩
theorem modI_s {i j : Int} (h0 : j ≠ 0) : modI i j = some (i.fmod j) := if_pos h0
theorem powI_s {i j : Int} (h0 : 0 ≤ j) (hj : j ≤ 1000000) (hi : i.natAbs < 2 ^ 64) : powI i j = some (i ^ j.toNat) := if_pos ⟨h0, hj, hi⟩
theorem fm_pos (a : Int) {m : Int} (h : 0 < m) : 0 ≤ a.fmod m ∧ a.fmod m < m := ⟨Int.fmod_nonneg_of_pos a h, Int.fmod_lt_of_pos a h⟩
theorem fn_rt {np n : Nat} {body : SemS} {as : List (D × Fl)} {t : Tm} {e : En} (hl : as.length = np) (h : body (as.map some ++ List.replicate (n - np) none) = .rt t e) : fnD np n body as = .ok t (fins np e) := by
  unfold fnD
  rw [if_pos hl, h]
theorem sq_nx {f g : SemS} {e e1 : En} {r : RS} (h : f e = .nx e1) (h2 : g e1 = r) : sSeq f g e = r := by
  unfold sSeq
  rw [h]
  exact h2
theorem sq_rt {f g : SemS} {e e1 : En} {t : Tm} (h : f e = .rt t e1) : sSeq f g e = .rt t e1 := by
  unfold sSeq
  rw [h]
theorem rng_run {g : List D → Option (Int × Int × Int × Nat)} {f : SemL} {e e1 : En} {ts : List Tm} {ds : List D} {lo hi c : Int} {n : Nat} (h : f e = .ok ts e1) (h2 : getAll e1 ts = some ds) (hr : g ds = some (lo, hi, c, n)) : sRng g f e = .ok ((List.range n).map fun (i : Nat) => .int (lo + i * c)) e1 := by
  unfold sRng
  rw [h]
  dsimp only
  rw [h2]
  dsimp only
  rw [hr]
theorem rng1_of {j : Int} (h : b62 j = true) : rng1 [.int j] = some (0, j, 1, j.toNat) := by
  show (if b62 j = true then some (0, j, 1, j.toNat) else none) = _
  rw [if_pos h]
theorem rng2_of {i j : Int} (h : b62 i = true) (h2 : b62 j = true) : rng2 [.int i, .int j] = some (i, j, 1, (j - i).toNat) := by
  show (if (b62 i && b62 j) = true then some (i, j, 1, (j - i).toNat) else none) = _
  rw [if_pos (by rw [h, h2]; rfl)]
theorem for_fold {α : Type} {g : G} {fb : SemS} (P : α → En) (I : α → Prop) (step : α → Int → α) (hs : ∀ s x, I s → I (step s x) ∧ ∃ e1, g (.im (.int x)) (P s) = some e1 ∧ fb e1 = .nx (P (step s x))) : ∀ (l : List Int) (s : α), I s → forN g fb (l.map D.int) (P s) = .nx (P (l.foldl step s))
  | [], s, _ => rfl
  | x :: l, s, hi => by
    obtain ⟨hj, e1, h1, h2⟩ := hs s x hi
    rw [List.map_cons]
    unfold forN
    rw [h1]
    dsimp only
    rw [h2]
    exact for_fold P I step hs l _ hj
theorem lc_map {vs : List Nat} {g : G} {f : Sem} {e : En} (h : Int → Int) (P : Int → Prop) (hs : ∀ x, P x → ∃ e1, g (.im (.int x)) e = some e1 ∧ f e1 = .ok (.im (.int (h x))) e1 ∧ wipeE e1 vs = e) : ∀ (l acc : List Int), (∀ x ∈ l, P x) → acc.length + l.length ≤ line → lcN vs g sYes f (l.map D.int) (acc.map D.int) e = .ok ((acc ++ l.map h).map D.int) e
  | [], acc, _, _ => by
    show R.ok (acc.map D.int) e = _
    rw [List.map_nil, List.append_nil]
  | x :: l, acc, hp, hl => by
    obtain ⟨e1, h1, h2, h3⟩ := hs x (hp x List.mem_cons_self)
    rw [List.length_cons] at hl
    rw [List.map_cons]
    unfold lcN
    rw [h1]
    dsimp only [sYes]
    rw [h2]
    dsimp only [takeT]
    rw [if_pos (by rw [List.length_map]; omega), h3]
    have := lc_map h P hs l (acc ++ [h x]) (fun y hy => hp y (List.mem_cons_of_mem _ hy)) (by rw [List.length_append, List.length_singleton]; omega)
    rw [List.map_append] at this
    rw [show (acc.map D.int ++ [dOf (.im (.int (h x)))]) = acc.map D.int ++ [h x].map D.int from rfl, this, List.map_cons, List.append_assoc]
    rfl
theorem fmod_nat (a b : Nat) : ((a : Int).fmod (b : Int)) = ((a % b : Nat) : Int) := by
  rw [Int.fmod_eq_emod_of_nonneg _ (Int.natCast_nonneg b), Int.natCast_emod]
theorem fdiv_nat (a b : Nat) : ((a : Int).fdiv (b : Int)) = ((a / b : Nat) : Int) := by
  rw [Int.fdiv_eq_ediv_of_nonneg _ (Int.natCast_nonneg b), Int.natCast_ediv]
theorem beq_nat (u v : Nat) : ((u : Int) == (v : Int)) = (u == v) := by
  rw [Bool.eq_iff_iff, beq_iff_eq, beq_iff_eq]
  omega
theorem inV_ints (r : Int) (l : List Int) : flDs (l.map D.int) = some (l.map L2.V.int) ∧ L2.inV (.int r) (l.map L2.V.int) = l.any fun y => y == r := by
  constructor
  · induction l with
    | nil => rfl
    | cons x l ih =>
      rw [List.map_cons, List.map_cons]
      unfold flDs
      rw [ih]
      rfl
  · unfold L2.inV
    rw [List.any_map]
    rfl
theorem lc_run {vs : List Nat} {g : G} {it : SemI} {c : SemB} {f : Sem} {e e1 e2 : En} {ds acc : List D} (h : it e = .ok ds e1) (h2 : noOwn e1 vs = true) (h3 : lcN vs g c f ds [] (wipeE e1 vs) = .ok acc e2) : sLc vs g it c f e = .ok (.ow (.lst acc)) (backE e1 e2 vs) := by
  unfold sLc
  rw [h]
  dsimp only
  rw [if_pos h2, h3]
theorem ret_ite_t {c : SemB} {fa fb : Sem} {e e1 : En} {r : RS} (h : c e = .ok true e1) (h2 : sRet fa e1 = r) : sRet (sIte c fa fb) e = r := by
  rw [← h2]
  unfold sRet sIte
  rw [h]
  rfl
theorem ret_ite_f {c : SemB} {fa fb : Sem} {e e1 : En} {r : RS} (h : c e = .ok false e1) (h2 : sRet fb e1 = r) : sRet (sIte c fa fb) e = r := by
  rw [← h2]
  unfold sRet sIte
  rw [h]
  rfl
theorem in_run {F : Sem} {e : En} {i : Nat} {r : Int} {fl : Fl} {l : List Int} (h : e[i]? = some (some (.int r, fl))) (hF : F e = .ok (.ow (.lst (l.map D.int))) e) : sTruC (sOp (gIn false) (s2 (sV i) F)) e = .ok (l.any fun y => y == r) e := by
  have hi := inV_ints r l
  simp only [sTruC, sOp, s2, sCons, sNil, sV, h, hF, sPure, getAll, Tm.get, gIn, inD, flD, hi.1, hi.2]
  rfl
theorem if_t {c : SemB} {f g : SemS} {e e1 : En} {r : RS} (h : c e = .ok true e1) (h2 : f e1 = r) : sIf c f g e = r := by
  unfold sIf
  rw [h]
  exact h2
theorem if_f {c : SemB} {f g : SemS} {e e1 : En} {r : RS} (h : c e = .ok false e1) (h2 : g e1 = r) : sIf c f g e = r := by
  unfold sIf
  rw [h]
  exact h2
theorem or_f {c c' : SemB} {e e1 : En} {r : R Bool} (h : c e = .ok false e1) (h2 : c' e1 = r) : sOrB c c' e = r := by
  unfold sOrB
  rw [h]
  exact h2
theorem ne_run {f g : Sem} {e e1 e2 : En} {t1 t2 : Tm} {d1 d2 : D} {b : Bool} (hf : f e = .ok t1 e1) (hg : g e1 = .ok t2 e2) (h1 : t1.get e2 = some d1) (h2 : t2.get e2 = some d2) (hn : gNe [d1, d2] = some (.im (.bl b))) : sTruC (sOp gNe (s2 f g)) e = .ok b e2 := by
  have a4 : s2 f g e = .ok [t1, t2] e2 := by
    simp only [s2, sCons, sNil, hf, hg]
  unfold sTruC sOp
  rw [a4]
  dsimp only [sPure, getAll]
  rw [h1, h2]
  dsimp only
  rw [hn]
theorem rne_run {f g : Sem} {e e1 e2 : En} {t1 t2 : Tm} {ds : List D} (hf : f e = .ok t1 e1) (hg : g e1 = .ok t2 e2) (h1 : t1.get e1 = some (.lst ds)) (h2 : t2.get e2 = some (.lst ds)) (ho : okR (.lst ds) = true) (hs : shp (.str (toP (.lst ds)).shown) = true) : sTruC (sOp gNe (s2 (sOp gRepr (sCons f sNil)) (sOp gRepr (sCons g sNil)))) e = .ok false e2 := by
  have a1 : sOp gRepr (sCons f sNil) e = .ok (.im (.str (toP (.lst ds)).shown)) e1 := by
    simp only [sOp, sCons, sNil, hf, sPure, getAll, h1, gRepr, ho, if_true]
  have a2 : sOp gRepr (sCons g sNil) e1 = .ok (.im (.str (toP (.lst ds)).shown)) e2 := by
    simp only [sOp, sCons, sNil, hg, sPure, getAll, h2, gRepr, ho, if_true]
  have a3 : gNe [.str (toP (.lst ds)).shown, .str (toP (.lst ds)).shown] = some (.im (.bl false)) := by
    show some (Tm.im (.bl (!decide (_ = _)))) = _
    rw [decide_eq_true rfl]
    rfl
  have a4 : s2 (sOp gRepr (sCons f sNil)) (sOp gRepr (sCons g sNil)) e = .ok [.im (.str (toP (.lst ds)).shown), .im (.str (toP (.lst ds)).shown)] e2 := by
    simp only [s2, sCons, sNil, a1, a2]
  have a5 : sOp gNe (s2 (sOp gRepr (sCons f sNil)) (sOp gRepr (sCons g sNil))) e = .ok (.im (.bl false)) e2 := by
    unfold sOp at *
    rw [a4]
    dsimp only [sPure, getAll, Tm.get]
    rw [a3]
  unfold sTruC
  rw [a5]
theorem set_ow {i : Nat} {f : Sem} {e e1 e2 : En} {d : D} (h : f e = .ok (.ow d) e1) (h2 : put i d .mv e1 = some e2) : sSet i f e = .nx e2 := by
  unfold sSet
  rw [h]
  show (match put i d .mv e1 with
    | none => RS.no
    | some e3 => .nx e3) = _
  rw [h2]
theorem at_ints {l : List Int} {r : Int} (h0 : 0 ≤ r) (h1 : r < l.length) : ∃ x ∈ l, L2.atI (l.map D.int) r = some (.int x) := by
  have h2 : r.toNat < l.length := by omega
  refine ⟨l[r.toNat], List.getElem_mem _, ?_⟩
  unfold L2.atI L2.ixN
  rw [List.length_map, if_pos h0, if_pos h1]
  show (l.map D.int)[r.toNat]? = _
  rw [List.getElem?_map, List.getElem?_eq_getElem h2]
  rfl
theorem canLay_ints : ∀ l : List Int, PySem.PyData.canLayAll0 (toPs (l.map D.int)) = true ∧ PySem.PyData.depthAll (toPs (l.map D.int)) = 0 ∧ isPs (l.map D.int) = true ∧ PySem.PyData.eqvAll (toPs (l.map D.int)) (toPs (l.map D.int)) = true
  | [] => ⟨rfl, rfl, rfl, rfl⟩
  | x :: l => by
    obtain ⟨h1, h2, h3, h4⟩ := canLay_ints l
    rw [List.map_cons]
    simp only [toPs, toP, PySem.PyData.canLayAll0, PySem.PyData.canLay0, PySem.PyData.depthAll, PySem.PyData.depth, isPs, isP, PySem.PyData.eqvAll, PySem.PyData.eqv, h1, h2, h3, h4, Bool.true_and, Nat.max_self, beq_self_eq_true, and_self]
theorem ne_ints (l : List Int) : gNe [.lst (l.map D.int), .lst (l.map D.int)] = some (.im (.bl false)) := by
  obtain ⟨h1, h2, h3, h4⟩ := canLay_ints l
  have hs : shp (.lst (l.map D.int)) = true := by
    simp only [shp, isP, toP, PySem.SeqAt.shaped, PySem.PyData.canLay0, PySem.PyData.depth, h1, h2, h3, Bool.true_and]
    decide
  have he : eqD (.lst (l.map D.int)) (.lst (l.map D.int)) = true := by
    simp only [eqD, toP, PySem.PyData.eqv, h4]
  show (if shp _ && shp _ then some (Tm.im (.bl (!eqD _ _))) else none) = _
  rw [if_pos (by rw [hs]; rfl), he]
  rfl
theorem sum_ints (l : List Int) : gSum [.lst (l.map D.int)] = some (.im (.int l.sum)) := by
  show (match intsOf (l.map D.int) with
      | none => none
      | some ns => (some (D.int ns.sum)).map Tm.im) = _
  rw [intsOf_map]
  rfl
theorem toNat_fmod (x : Int) {p : Nat} (h : 0 < p) : x.fmod p = ((x.fmod p).toNat : Int) ∧ (x.fmod p).toNat < p := by
  have := fm_pos x (m := (p : Int)) (by omega)
  omega
theorem fmod_mul (a b : Int) {p : Nat} (h : 0 < p) : ((a * b).fmod p).toNat = ((a.fmod p).toNat * (b.fmod p).toNat) % p := by
  have e1 := toNat_fmod a h
  have e2 := toNat_fmod b h
  have e3 : (a * b).fmod p = (((a.fmod p).toNat * (b.fmod p).toNat % p : Nat) : Int) := by
    rw [← fmod_nat, Int.natCast_mul, ← e1.1, ← e2.1]
    simp only [Int.fmod_eq_emod_of_nonneg _ (Int.natCast_nonneg p)]
    rw [Int.mul_emod]
  rw [e3, Int.toNat_natCast]
theorem fmod_addm (a b : Int) (p : Nat) : (a + p * b).fmod p = a.fmod p := by
  simp only [Int.fmod_eq_emod_of_nonneg _ (Int.natCast_nonneg p)]
  exact Int.add_mul_emod_self_left _ _ _
theorem fmod_mulm (b : Int) (p : Nat) : ((p : Int) * b).fmod p = 0 := by
  simp only [Int.fmod_eq_emod_of_nonneg _ (Int.natCast_nonneg p)]
  exact Int.mul_emod_right _ _
theorem all_lt {p : Nat} {f : Nat → Bool} (h : (List.range p).all f = true) {r : Nat} (hr : r < p) : f r = true := List.all_eq_true.mp h r (List.mem_range.mpr hr)
theorem pow_mod' (a k p : Nat) : (a % p) ^ k % p = a ^ k % p := (Nat.pow_mod a k p).symm
theorem isi_ii (a : Int) : gIsi [.int a, .ty "int"] = some (.im (.bl true)) := by
  have k1 : L2.kitB "int" "int" = some true := by decide +kernel
  exact congrArg (Option.map fun b => Tm.im (D.bl b)) k1
theorem isi_ib (a : Int) : gIsi [.int a, .ty "bool"] = some (.im (.bl false)) := by
  have k1 : L2.kitB "int" "bool" = some false := by decide +kernel
  exact congrArg (Option.map fun b => Tm.im (D.bl b)) k1
theorem or_t {c c' : SemB} {e e1 : En} (h : c e = .ok true e1) : sOrB c c' e = .ok true e1 := by
  unfold sOrB
  rw [h]
theorem and_t {c c' : SemB} {e e1 : En} {r : R Bool} (h : c e = .ok true e1) (h2 : c' e1 = r) : sAndB c c' e = r := by
  unfold sAndB
  rw [h]
  exact h2
theorem and_f {c c' : SemB} {e e1 : En} (h : c e = .ok false e1) : sAndB c c' e = .ok false e1 := by
  unfold sAndB
  rw [h]
theorem not_run {c : SemB} {e e1 : En} {b : Bool} (h : c e = .ok b e1) : sNotB c e = .ok (!b) e1 := by
  unfold sNotB
  rw [h]
theorem tru_run {f : Sem} {e e1 : En} {t : Tm} {d : D} {b : Bool} (h : f e = .ok t e1) (h1 : t.get e1 = some d) (h2 : truD d = some b) : sTru f e = .ok b e1 := by
  unfold sTru
  rw [h]
  dsimp only
  rw [h1]
  dsimp only
  rw [h2]
theorem set_im {i : Nat} {f : Sem} {e e1 e2 : En} {d : D} (h : f e = .ok (.im d) e1) (h2 : put i d .sh e1 = some e2) : sSet i f e = .nx e2 := by
  unfold sSet
  rw [h]
  show (match put i d .sh e1 with
    | none => RS.no
    | some e3 => .nx e3) = _
  rw [h2]
theorem ret_im {f : Sem} {e e1 : En} {d : D} (h : f e = .ok (.im d) e1) : sRet f e = .rt (.im d) e1 := by
  unfold sRet
  rw [h]
  rfl
theorem ret_ow {f : Sem} {e e1 : En} {d : D} (h : f e = .ok (.ow d) e1) : sRet f e = .rt (.ow d) e1 := by
  unfold sRet
  rw [h]
  rfl
theorem wh_more {c : SemB} {b : SemS} {n : Nat} {e e1 e2 : En} {r : RS} (h : c e = .ok true e1) (h2 : b e1 = .nx e2) (h3 : whileN c b n e2 = r) : whileN c b (n + 1) e = r := by
  show (match c e with
    | .no => .no
    | .ex x e1 => .ex x e1
    | .ok false e1 => .nx e1
    | .ok true e1 => match b e1 with
      | .nx e2 => whileN c b n e2
      | .ct e2 => whileN c b n e2
      | .bk e2 => .nx e2
      | r => r : RS) = _
  rw [h]
  dsimp only
  rw [h2]
  exact h3
theorem wh_end {c : SemB} {b : SemS} {n : Nat} {e e1 : En} (h : c e = .ok false e1) : whileN c b (n + 1) e = .nx e1 := by
  show (match c e with
    | .no => .no
    | .ex x e1 => .ex x e1
    | .ok false e1 => .nx e1
    | .ok true e1 => match b e1 with
      | .nx e2 => whileN c b n e2
      | .ct e2 => whileN c b n e2
      | .bk e2 => .nx e2
      | r => r : RS) = _
  rw [h]
theorem wh_run {α : Type} {c : SemB} {b : SemS} (P : α → En) (I : α → Prop) (go : α → Bool) (step : α → α) (m : α → Nat) (hc : ∀ s, I s → c (P s) = .ok (go s) (P s)) (hb : ∀ s, I s → go s = true → b (P s) = .nx (P (step s)) ∧ I (step s) ∧ m (step s) < m s) : ∀ (n : Nat) (s : α), I s → m s < n → ∃ s', I s' ∧ go s' = false ∧ whileN c b n (P s) = .nx (P s')
  | 0, s, _, h => absurd h (Nat.not_lt_zero _)
  | n + 1, s, hi, h => by
    cases q : go s with
    | false => exact ⟨s, hi, q, wh_end (by rw [hc s hi, q])⟩
    | true =>
      obtain ⟨h1, h2, h3⟩ := hb s hi q
      obtain ⟨s', k1, k2, k3⟩ := wh_run P I go step m hc hb n (step s) h2 (by omega)
      exact ⟨s', k1, k2, wh_more (by rw [hc s hi, q]) h1 k3⟩
end L2.Py
set_option maxRecDepth 10000
namespace L2.Py
theorem ret_sl {i : Nat} {e : En} {d : D} (h : e[i]? = some (some (d, .sh))) : sRet (sV i) e = .rt (.im d) (e.set i (some (d, .sh))) := by
  unfold sRet sV
  rw [h]
  dsimp only [retT]
  rw [h]
  rfl
theorem lc_gen {α : Type} (emb : α → D) (h : α → D) (q : α → Bool) (P : α → Prop) {vs : List Nat} {g : G} {c : SemB} {f : Sem} {e : En}
    (hs : ∀ x, P x → ∃ e1 e2, g (.im (emb x)) e = some e1 ∧ c e1 = .ok (q x) e2 ∧ (q x = false → wipeE e2 vs = e) ∧ (q x = true → ∃ t e3 t' e4, f e2 = .ok t e3 ∧ takeT t e3 = some (t', e4) ∧ dOf t' = h x ∧ wipeE e4 vs = e)) :
    ∀ (l : List α) (acc : List D), (∀ x ∈ l, P x) → acc.length + l.length ≤ line → lcN vs g c f (l.map emb) acc e = .ok (acc ++ (l.filter q).map h) e
  | [], acc, _, _ => by
    show R.ok acc e = _
    rw [List.filter_nil, List.map_nil, List.append_nil]
  | x :: l, acc, hp, hl => by
    obtain ⟨e1, e2, h1, h2, h3, h4⟩ := hs x (hp x List.mem_cons_self)
    rw [List.length_cons] at hl
    have ih := lc_gen emb h q P hs l
    rw [List.map_cons]
    unfold lcN
    rw [h1]
    dsimp only
    rw [h2]
    cases z : q x with
    | false =>
      dsimp only
      rw [h3 z, ih acc (fun y hy => hp y (List.mem_cons_of_mem _ hy)) (by omega), List.filter_cons, z]
      rfl
    | true =>
      obtain ⟨t, e3, t', e4, k1, k2, k3, k4⟩ := h4 z
      dsimp only
      rw [k1]
      dsimp only
      rw [k2]
      dsimp only
      rw [if_pos (by omega), k4, k3, ih (acc ++ [h x]) (fun y hy => hp y (List.mem_cons_of_mem _ hy)) (by rw [List.length_append, List.length_singleton]; omega), List.filter_cons, z, List.append_assoc]
      rfl
theorem lc_all {α : Type} (emb : α → D) (h : α → D) (P : α → Prop) {vs : List Nat} {g : G} {f : Sem} {e : En}
    (hs : ∀ x, P x → ∃ e1 t e3 t' e4, g (.im (emb x)) e = some e1 ∧ f e1 = .ok t e3 ∧ takeT t e3 = some (t', e4) ∧ dOf t' = h x ∧ wipeE e4 vs = e)
    (l : List α) (hp : ∀ x ∈ l, P x) (hl : l.length ≤ line) : lcN vs g sYes f (l.map emb) [] e = .ok (l.map h) e := by
  have := lc_gen emb h (fun _ => true) P (vs := vs) (g := g) (c := sYes) (f := f) (e := e) (fun x hx => by
    obtain ⟨e1, t, e3, t', e4, k1, k2, k3, k4, k5⟩ := hs x hx
    exact ⟨e1, e1, k1, rfl, fun z => (nomatch z), fun _ => ⟨t, e3, t', e4, k2, k3, k4, k5⟩⟩) l [] hp (by rw [List.length_nil, Nat.zero_add]; exact hl)
  rw [this, List.nil_append, List.filter_eq_self.mpr fun _ _ => rfl]
theorem for_gen {α β : Type} (emb : β → D) {g : G} {fb : SemS} (P : α → En) (I : α → Prop) (J : β → Prop) (step : α → β → α) (hs : ∀ s x, I s → J x → I (step s x) ∧ ∃ e1, g (.im (emb x)) (P s) = some e1 ∧ (fb e1 = .nx (P (step s x)) ∨ fb e1 = .ct (P (step s x)))) :
    ∀ (l : List β) (s : α), I s → (∀ x ∈ l, J x) → forN g fb (l.map emb) (P s) = .nx (P (l.foldl step s)) ∧ I (l.foldl step s)
  | [], s, hi, _ => ⟨rfl, hi⟩
  | x :: l, s, hi, hj => by
    obtain ⟨hk, e1, h1, h2⟩ := hs s x hi (hj x List.mem_cons_self)
    obtain ⟨k1, k2⟩ := for_gen emb P I J step hs l _ hk fun y hy => hj y (List.mem_cons_of_mem _ hy)
    refine ⟨?_, k2⟩
    rw [List.map_cons]
    unfold forN
    rw [h1]
    dsimp only
    rcases h2 with h2 | h2
    · rw [h2]
      exact k1
    · rw [h2]
      exact k1
theorem for_first {β : Type} (emb : β → D) {g : G} {fb : SemS} (P : Option β → En) (J : β → Prop) (out : β → Option Tm) (fin : β → En)
    (hs : ∀ s x, J x → ∃ e1, g (.im (emb x)) (P s) = some e1 ∧ match out x with
      | none => fb e1 = .nx (P (some x))
      | some t => fb e1 = .rt t (fin x)) :
    ∀ (l : List β) (s : Option β), (∀ x ∈ l, J x) → (∃ x t, x ∈ l ∧ out x = some t ∧ l.findSome? out = some t ∧ forN g fb (l.map emb) (P s) = .rt t (fin x)) ∨ (l.findSome? out = none ∧ ∃ s', forN g fb (l.map emb) (P s) = .nx (P s'))
  | [], s, _ => .inr ⟨rfl, s, rfl⟩
  | x :: l, s, hj => by
    obtain ⟨e1, h1, h2⟩ := hs s x (hj x List.mem_cons_self)
    rw [List.map_cons]
    unfold forN
    rw [h1]
    dsimp only
    cases z : out x with
    | some t =>
      rw [z] at h2
      dsimp only at h2
      rw [h2]
      exact .inl ⟨x, t, List.mem_cons_self, z, by rw [List.findSome?_cons, z], rfl⟩
    | none =>
      rw [z] at h2
      dsimp only at h2
      rw [h2]
      rcases for_first emb P J out fin hs l (some x) (fun y hy => hj y (List.mem_cons_of_mem _ hy)) with ⟨y, t, k1, k2, k3, k4⟩ | ⟨k1, s', k2⟩
      · exact .inl ⟨y, t, List.mem_cons_of_mem _ k1, k2, by rw [List.findSome?_cons, z]; exact k3, k4⟩
      · exact .inr ⟨by rw [List.findSome?_cons, z]; exact k1, s', k2⟩
theorem it_run {f : Sem} {e e1 e2 : En} {t t' : Tm} {ds : List D} (h : f e = .ok t e1) (h2 : takeT t e1 = some (t', e2)) (h3 : dOf t' = .lst ds ∨ dOf t' = .tup ds) : sItS f e = .ok ds e2 := by
  unfold sItS
  rw [h]
  dsimp only
  rw [h2]
  dsimp only
  rcases h3 with h3 | h3 <;> rw [h3]
theorem for_run {g : G} {it : SemI} {b : SemS} {e e1 : En} {ds : List D} {r : RS} (h : it e = .ok ds e1) (h2 : forN g b ds e1 = r) : sFor g it b e = r := by
  unfold sFor
  rw [h]
  exact h2
end L2.Py
set_option maxRecDepth 100000
namespace L2.Py
open PySem PySem.Spec PyProof.Rows
theorem hu1_of {n : Nat} (h : n + 64 < cLine) : n + 1 < cLine := by omega
def gLs (gs : List D → En → Option En) : G := fun t e => match t with
  | .im (.lst ds) => gs ds e
  | .ow (.lst ds) => gs ds e
  | _ => none
section
variable {X : Cx} {W : WX} {L : List Nat} {tgs : List Expr} {gs : List D → En → Option En} {pos : Pos}
theorem jg_lst {k n : Nat} (hc : X.calm = true) (h : JGs X tgs L gs) (hn : (assignEach tgs X.env).length = n := by rfl) (hst : (assignEach tgs X.env).findIdx? (·.1) = none := by rfl) (hgl : ∀ ds e, gs ds e ≠ none → ds.length = n) : JG X (.Tuple tgs k pos) L (gLs gs) :=
  PG_imp (pg_lst hc h hn hst) fun v σ H Q ⟨vs0, Bk, Hs, e, t, tm, nsl, h⟩ => by
    unfold gLs at h
    split at h
    · rename_i ds
      obtain ⟨a, xs, rfl, h1, h2⟩ := tm.2
      have hl : ds.length = n := hgl ds e fun z => by rw [z] at h; exact h
      exact ⟨a, xs, rfl, .inl (.inl (tm.1.sb _ _ h1)), by rw [← rps_len h2]; exact hl, vs0, Bk, Hs, e, ds, tm.frm, h2, h⟩
    · rename_i ds
      obtain ⟨a, rfl, ⟨xs, h1, h2⟩, _, _⟩ := tm.2
      have hl : ds.length = n := hgl ds e fun z => by rw [z] at h; exact h
      exact ⟨a, xs, rfl, .inl (.inl h1), by rw [← rps_len h2]; exact hl, vs0, Bk, Hs, e, ds, tm.frm, h2, h⟩
    · exact h.elim
end
theorem int___sub___bool_bool (a b : Bool) :
    Gives (Builtin.«int.__sub__» ⟨[.bool a, .bool b], []⟩) (.int ((if a = true then (1 : Int) else 0) - if b = true then (1 : Int) else 0)) :=
  .of_wp fun M A E s Q h => by obtain ⟨hp, g, d, tk, os⟩ := s; wp_walk; exact ⟨_, rfl, h⟩
def gSubB : List D → Option Tm
  | [.bl a, .bl b] => some (.im (.int ((if a = true then (1 : Int) else 0) - if b = true then (1 : Int) else 0)))
  | _ => none
section
variable {X : Cx} {W : WX} {a b e : Expr} {es : List Expr} {fa fb : Sem} {fl : SemL} {pos p : Pos} {K : PySem.W.Frag}
def rSubB : R2 := fun x y H Q => ∃ i j, x = .bl i ∧ y = .bl j ∧ Q (.int ((if i = true then (1 : Int) else 0) - if j = true then (1 : Int) else 0)) H
theorem op_subB : OpR X (binaryOp .Sub) rSubB := by
  intro pins s σ H x y v u Q I rx ry h
  obtain ⟨i, j, rfl, rfl, q⟩ := h
  cases rx
  cases ry
  exact binaryOp_gives (op := .Sub) (PySem.typeIs_bool s i) (PySem.typeIs_bool s j) F.fills_bool_sub F.slot_bool_sub F.entry_int_sub (F.args_int_sub_2 _ _) (int___sub___bool_bool i j) trivial ⟨.int _, H, I.tok _, ⟨_, rfl⟩, q⟩
theorem pr_subB : PureOk K gSubB (r2 rSubB) := by
  intro Hs H vs ds t Q sb rd q k
  unfold gSubB at q
  split at q
  · cases q
    obtain ⟨v, w, rfl, h1, h2⟩ := rds2 rd
    cases rd1_bl h1; cases rd1_bl h2
    exact ⟨_, _, rfl, _, _, rfl, rfl, k _ _ _ (new_int sb)⟩
  · cases q
theorem je_subB (ha : JE X W a fa) (hb : JE X W b fb) : JE X W (.BinOp a .Sub b pos) (sOp gSubB (s2 fa fb)) := je_bin op_subB pr_subB ha hb
def gStr : List D → Option Tm
  | [.int i] => if i.natAbs.log2 < 1920 then some (.im (.str (toString i))) else none
  | _ => none
theorem pr_str : PureOk K gStr (fun xs H Q => ∃ i, xs = [.int i] ∧ i.natAbs.log2 < 1920 ∧ Q (.str (toString i)) H) := by
  intro Hs H vs ds t Q sb rd q k
  unfold gStr at q
  split at q
  · split at q
    · rename_i hl
      cases q
      obtain ⟨v, rfl, h1⟩ := rds1 rd
      cases rd1_int h1
      exact ⟨_, rfl, hl, k _ _ _ (new_imm sb rfl)⟩
    · cases q
  · cases q
theorem jc_str (hg : Gl X "str") (hm : X.mg "str" = none) (ha : JA X W (e :: es) fl) (hs : starEach (e :: es) X.env = (false, eval e X.env) :: starEach es X.env := by rfl) (hpl : (backTo pos (starEach es X.env)).any (·.1) = false := by rfl) :
    JE X W (.Call (.Name "str" p) (e :: es) [] pos) (sOp gStr fl) := je_callTy call_str_int pr_str hg hm (by decide +kernel) ha (by decide) (by decide) hs hpl
theorem rp_tup_K {K : PySem.W.Frag} {Hs : Hp} {a : Addr} {o : Obj} {its : Array Value} {n : Nat} {ds : List D} {xs : List V} (hk : K.lookup a = some o) (hc : o.cls = .type "tuple") (hd : o.data = .seq its n) (hz : its.size ≤ sizeLine) (hv : Vals xs its.toList) (hr : Rps K Hs ds xs) : Rp K Hs (.tup ds) (.ref a) :=
  ⟨a, xs, rfl, .inr ⟨o, its, n, hk, hc, hd, hz, hv⟩, hr⟩
def gLenD : List D → Option Tm
  | [.dct kd] => some (.im (.int (kd.length : Int)))
  | _ => none
def rLenRd : List V → Hp → VK → Prop := fun xs H Q => ∃ a kvs, xs = [V.ref a] ∧ Rd H a (.dK kvs) ∧ Q (.int kvs.length) H
theorem call_lenRd : CallR X (.builtin "len") rLenRd := by
  intro pins s σ H xs us Q I r h
  obtain ⟨a, kvs, rfl, ha, q⟩ := h
  obtain ⟨u, rfl, ru⟩ := vals1 r
  cases ru
  exact d_len I ha fun t s' J => ⟨.int kvs.length, H, J, ⟨t, rfl⟩, q⟩
theorem pr_lenD : PureOk K gLenD rLenRd := by
  intro Hs H vs ds t Q sb rd q k
  unfold gLenD at q
  split at q
  · rename_i kd
    cases q
    obtain ⟨v, rfl, h1⟩ := rds1 rd
    obtain ⟨pa, xs, rfl, a1, a2⟩ := rd1_dct sb h1
    refine ⟨pa, xs, rfl, a1, ?_⟩
    rw [rpk_len a2]
    exact k _ _ _ (new_int sb)
  · cases q
theorem jc_lenD (hg : Gl X "len") (hm : X.mg "len" = none) (ha : JA X W (e :: es) fl) (hs : starEach (e :: es) X.env = (false, eval e X.env) :: starEach es X.env := by rfl) (hpl : (backTo pos (starEach es X.env)).any (·.1) = false := by rfl) :
    JE X W (.Call (.Name "len" p) (e :: es) [] pos) (sOp gLenD fl) := je_callB call_lenRd pr_lenD hg hm (by decide +kernel) ha (by decide) (by decide) hs hpl
def kD : Key → D
  | .inl i => .int i
  | .inr x => .str x
def gListD : List D → Option Tm
  | [.dct kd] => some (.ow (.lst (kd.map fun kv => kD kv.1)))
  | _ => none
theorem rps_keys {H : Hp} : ∀ {kd : List (Key × D)} {kvs : List (Key × V)}, Rpk K H kd kvs → Rps K H (kd.map fun kv => kD kv.1) (kvs.map fun kv => kV kv.1)
  | [], kvs, h => by have h : kvs = [] := h; subst h; rfl
  | (k, d) :: kd, kvs, h => by
    obtain ⟨v, r, rfl, _, h2⟩ := h
    refine ⟨kV k, r.map fun kv => kV kv.1, rfl, ?_, rps_keys h2⟩
    cases k <;> rfl
def rListRd : List V → Hp → VK → Prop := fun xs H Q => ∃ p kvs, xs = [.ref p] ∧ Rd H p (.dK kvs) ∧ ∀ q, H q = none → Q (.ref q) (upd H q (.lst (kvs.map fun kv => kV kv.1)))
theorem call_list_Rd (hc : X.calm = true) : CallR X (.type "list") rListRd := by
  intro pins s σ H xs us Q I r h
  obtain ⟨p, kvs, e, hk, q⟩ := h
  subst e
  obtain ⟨u, eu, rx⟩ := vals1 r
  subst eu
  obtain rfl : u = Value.ref p := rx
  have ok : ObjOk X.prog X.w H s.heap p (.dK kvs) := Rd.ok hk I.hok
  obtain ⟨z, lo, vs, rk, hd⟩ := ok
  obtain ⟨ep, hat⟩ := hd.dictAt
  have hl : kvs.length = vs.length := Paired.length rk
  refine PySem.W.kdl_call (PySem.W.kdl_dict (knd := mixKind X.prog X.w) (kvs := vs) (ep := ep) lo) (I.ok.hd hc) hat (by omega) fun g tk acc c k1 k2 k3 => ?_
  have len : (kvs.map fun kv => kV kv.1).length ≤ sizeLine := by rw [List.length_map]; exact z
  have va : Vals (kvs.map fun kv => kV kv.1) acc.toList := by
    have e0 : acc.toList.length = acc.size := by simp
    refine vals_of_at (by rw [List.length_map, e0, k3.1, hl]) fun j x w h1 h2 => ?_
    obtain ⟨k, y, a1, a2⟩ := k3.2 j w (by rw [← Array.getElem?_toList]; exact h2)
    have b1 : (kvs.map (·.1))[j]? = some k := by rw [KV.keys rk, List.getElem?_map, a1]; rfl
    have b2 : (kvs.map fun kv => kV kv.1)[j]? = some (kV k) := by
      have b3 : (kvs.map fun kv => kV kv.1) = (kvs.map (·.1)).map kV := by rw [List.map_map]; rfl
      rw [b3, List.getElem?_map, b1]; rfl
    rw [b2] at h1
    cases h1
    exact keyIs_rel a2
  exact ⟨.ref s.heap.objs.size, upd H s.heap.objs.size (.lst (kvs.map fun kv => kV kv.1)), I.laid k1 (Nat.le_refl _) (show ObjOk X.prog X.w _ _ _ (.lst _) from ⟨len, acc.toList, c, va, by rw [Array.toArray_toList]; exact k2⟩), rfl, q _ (I.hok.fresh (Nat.le_refl _))⟩
theorem pr_listD : PureOk K gListD rListRd := by
  intro Hs H vs ds t Q sb rd q k
  unfold gListD at q
  split at q
  · rename_i kd
    cases q
    obtain ⟨v, rfl, h1⟩ := rds1 rd
    obtain ⟨pa, xs, rfl, a1, a2⟩ := rd1_dct sb h1
    exact ⟨pa, xs, rfl, a1, fun z hz => k _ _ _ (new_lst sb (rps_keys a2) hz)⟩
  · cases q
theorem jc_listD (hc : X.calm = true) (hg : Gl X "list") (hm : X.mg "list" = none) (ha : JA X W (e :: es) fl) (hs : starEach (e :: es) X.env = (false, eval e X.env) :: starEach es X.env := by rfl) (hpl : (backTo pos (starEach es X.env)).any (·.1) = false := by rfl) :
    JE X W (.Call (.Name "list" p) (e :: es) [] pos) (sOp gListD fl) := je_callTy (call_list_Rd hc) pr_listD hg hm (by decide +kernel) ha (by decide) (by decide) hs hpl
def prsOf : List D → Option (List (Key × D))
  | [] => some []
  | .tup [k, d] :: ds => match keyD k, prsOf ds with
    | some k', some r => some ((k', d) :: r)
    | _, _ => none
  | _ => none
def mergeD : List (Key × D) → List (Key × D) → List (Key × D)
  | acc, [] => acc
  | acc, (k, d) :: r => mergeD (putD acc k d) r
def gDict : List D → Option Tm
  | [d] => match lstOf d with
    | none => none
    | some l => match prsOf l with
      | none => none
      | some kd => if kd.length ≤ 1000000 then some (.ow (.dct (mergeD [] kd))) else none
  | _ => none
theorem prs_ok {Hs H : Hp} (sb : Same Hs H) : ∀ {l : List D} {xs : List V} {kd : List (Key × D)}, Rps K Hs l xs → prsOf l = some kd → ∃ (ps : List Addr) (kvs : List (Key × V)), xs = ps.map V.ref ∧ Paired (fun p kv => SqT K H p [kV kv.1, kv.2]) ps kvs ∧ Rpk K Hs kd kvs
  | [], xs, kd, h, q => by
    cases q
    have h : xs = [] := h
    subst h
    exact ⟨[], [], rfl, .nil, rfl⟩
  | d :: l, xs, kd, h, q => by
    obtain ⟨v, r, rfl, h1, h2⟩ := h
    unfold prsOf at q
    split at q
    · rename_i e1; cases e1
    · rename_i k d' ds' e1
      cases e1
      split at q
      · rename_i k' r' z1 z2
        cases q
        obtain ⟨ps, kvs, rfl, p1, p2⟩ := prs_ok sb h2 z2
        obtain ⟨a, ys, rfl, t1, u, us, rfl, t2, w, ws, rfl, t3, t4⟩ := h1
        have t4 : ws = [] := t4
        subst t4
        have e := keyD_ok (H := Hs) z1 (.inl t2)
        subst e
        exact ⟨a :: ps, (k', w) :: kvs, rfl, .cons (Same.sqt sb t1) p1, w, kvs, rfl, t3, p2⟩
      · cases q
    · cases q
theorem merge_ok {H : Hp} : ∀ {more acc : List (Key × D)} {kvs vs : List (Key × V)}, Rpk K H more kvs → Rpk K H acc vs → Rpk K H (mergeD acc more) (mergeK vs kvs)
  | [], acc, kvs, vs, h, ha => by
    have h : kvs = [] := h
    subst h
    exact ha
  | (k, d) :: more, acc, kvs, vs, h, ha => by
    obtain ⟨v, r, rfl, h1, h2⟩ := h
    show Rpk K H (mergeD (putD acc k d) more) (mergeK (putK vs k v) r)
    exact merge_ok h2 (rpk_put ha h1)
theorem pr_dict : PureOk K gDict (fun xs H Q => ∃ (a : Addr) (ps : List Addr) (kvs : List (Key × V)), xs = [.ref a] ∧ SqL K H a (ps.map V.ref) ∧ Paired (fun p kv => SqT K H p [kV kv.1, kv.2]) ps kvs ∧
    ∀ p, H p = none → Q (.ref p) (upd H p (.dK (mergeK [] kvs)))) := by
  intro Hs H vs ds t Q sb rd q k
  unfold gDict at q
  split at q
  · split at q
    · cases q
    · rename_i l hl
      split at q
      · cases q
      · rename_i kd hk
        split at q
        · cases q
          obtain ⟨v, rfl, h1⟩ := rds1 rd
          obtain ⟨p, xs, rfl, a1, a2⟩ := rd1_seq sb h1 hl
          obtain ⟨ps, kvs, rfl, p1, p2⟩ := prs_ok sb a2 hk
          exact ⟨p, ps, kvs, rfl, a1, p1, fun z hz => k _ _ _ (new_dct sb (merge_ok p2 rfl) hz)⟩
        · cases q
  · cases q
theorem jc_dict (hc : X.calm = true) (hg : Gl X "dict") (hm : X.mg "dict" = none) (ha : JA X W (e :: es) fl) (hs : starEach (e :: es) X.env = (false, eval e X.env) :: starEach es X.env := by rfl) (hpl : (backTo pos (starEach es X.env)).any (·.1) = false := by rfl) :
    JE X W (.Call (.Name "dict" p) (e :: es) [] pos) (sOp gDict fl) := je_callTy (call_dictP hc) pr_dict hg hm (by decide +kernel) ha (by decide) (by decide) hs hpl
def gMulT : List D → Option Tm
  | [.tup a, .int k] => if a ≠ [] ∧ 2 ≤ k ∧ k ≤ 1000 ∧ a.length ≤ 1000 then some (.im (.tup (List.replicate k.toNat a).flatten)) else none
  | _ => none
theorem rps_append2 {H : Hp} {a b : List D} {xs ys : List V} (h : Rps K H a xs) (r : Rps K H b ys) : Rps K H (a ++ b) (xs ++ ys) := rps_append h r
theorem rps_rep {H : Hp} {a : List D} {xs : List V} (h : Rps K H a xs) : ∀ n : Nat, Rps K H (List.replicate n a).flatten (List.replicate n xs).flatten
  | 0 => rfl
  | n + 1 => by
    rw [List.replicate_succ, List.replicate_succ, List.flatten_cons, List.flatten_cons]
    exact rps_append h (rps_rep h n)
theorem pr_mulT : PureOk K gMulT (r2 (rRepT K)) := by
  intro Hs H vs ds t Q sb rd q k
  unfold gMulT at q
  split at q
  · rename_i a n
    split at q
    · rename_i hc
      cases q
      obtain ⟨v, w, rfl, h1, h2⟩ := rds2 rd
      cases rd1_int h2
      obtain ⟨p, xs, rfl, a1, a2⟩ := rd1_tup sb h1
      have hl := rps_len a2
      refine ⟨_, _, rfl, p, n, xs, rfl, rfl, a1, fun z => hc.1 ?_, hc.2.1, hc.2.2.1, by rw [← hl]; exact hc.2.2.2, fun z hz => k _ _ _ (new_tup sb (rps_rep a2 _) hz)⟩
      subst z
      exact List.eq_nil_of_length_eq_zero hl
    · cases q
  · cases q
theorem je_mulT (ha : JE X W a fa) (hb : JE X W b fb) : JE X W (.BinOp a .Mult b pos) (sOp gMulT (s2 fa fb)) := je_bin op_repT pr_mulT ha hb
end
end L2.Py
set_option maxRecDepth 100000
namespace L2.Py
open PySem PySem.Spec PyProof.Rows
def rSumT (K : PySem.W.Frag) : List V → Hp → VK → Prop := fun vs H Q => ∃ (a : Addr) (ns : List Int), vs = [V.ref a] ∧ SqT K H a (ns.map V.int) ∧ Q (.int ns.sum) H
section
variable {X : Cx} {K : PySem.W.Frag}
theorem cr_sumT (hc : X.calm = true) : CallR X (.builtin "sum") (rSumT X.K) := by
  intro pins s σ H vs us Q I r h
  obtain ⟨a, ns, rfl, hs, q⟩ := h
  obtain ⟨its, rv, hl, _⟩ := I.tuple hs
  rw [Vals.ref1 r]
  have hi := rv.ints
  obtain ⟨xs, e⟩ := hi.allInts.items
  have hn : numsOf (intItems xs).toList = ns := by rw [← e]; exact hi.numsOf
  rw [nums_intItems] at hn
  rw [e] at hl
  refine PySem.W.ktm_sumG (I.ok.hd hc) hl fun h' tk t' hk => ?_
  rw [preSum_eq, List.take_of_length_le (by simp), hn]
  exact ⟨.int _, H, I.kept hk, ⟨_, rfl⟩, q⟩
def gSumA : List D → Option Tm
  | [.tup l] => match intsOf l with
    | none => none
    | some ns => some (.im (.int ns.sum))
  | ds => gSum ds
theorem pr_sumA : PureOk K gSumA (fun xs H Q => rSum K xs H Q ∨ rSumT K xs H Q) := by
  intro Hs H vs ds t Q sb rd q k
  unfold gSumA at q
  split at q
  · rename_i l
    split at q
    · cases q
    · rename_i ns hn
      cases q
      obtain ⟨v, rfl, h1⟩ := rds1 rd
      obtain ⟨p, xs, rfl, a1, a2⟩ := rd1_tup sb h1
      have e := rps_ints a2 hn
      subst e
      exact .inr ⟨p, ns, rfl, a1, k _ _ _ (new_int sb)⟩
  · exact .inl (pr_sum Hs H vs _ t Q sb rd q k)
theorem jc_sumA {W : WX} (hc : X.calm = true) (hg : Gl X "sum") (hm : X.mg "sum" = none) (ha : JA X W (a :: es) fl) (hs : starEach (a :: es) X.env = (false, eval a X.env) :: starEach es X.env := by rfl) (hpl : (backTo pos (starEach es X.env)).any (·.1) = false := by rfl) :
    JE X W (.Call (.Name "sum" p) (a :: es) [] pos) (sOp gSumA fl) := je_callB ((cr_sum hc).or (cr_sumT hc)) pr_sumA hg hm (by decide +kernel) ha (by decide) (by decide) hs hpl
def tupB : D → Bool
  | .tup (_ :: _) => true
  | _ => false
def atB : D → Bool
  | .int _ => true
  | .str _ => true
  | .bl _ => true
  | .lst _ => true
  | _ => false
def okSort (l : List D) : Bool := isPs l && (l.all fun d => l.all fun e => PySem.W.alike (toP d) (toP e)) && (l.all tupB || l.all atB) && l.all fun d => decide ((toP d).depth ≤ 60)
def dsort (l : List D) : List D := l.mergeSort (PySem.W.dataLe false toP)
def rSortedD (K : PySem.W.Frag) : List V → Hp → VK → Prop := fun vs H Q => ∃ (a : Addr) (xs : List V) (ds : List D) (Hs : Hp), vs = [V.ref a] ∧ SqL K H a xs ∧ Rps K Hs ds xs ∧ Same Hs H ∧ okSort ds = true ∧
  ∀ (ys : List V) (p : Addr), Rps K Hs (dsort ds) ys → H p = none → Q (.ref p) (upd H p (.lst ys))
theorem isPs_mem : ∀ {l : List D}, isPs l = true → ∀ d ∈ l, isP d = true
  | [], _, _, h => nomatch h
  | e :: l, p, d, h => by
    have p : (isP e && isPs l) = true := p
    rw [Bool.and_eq_true] at p
    rcases List.mem_cons.mp h with rfl | h
    · exact p.1
    · exact isPs_mem p.2 d h
theorem each_in {Hs : Hp} : ∀ {l : List D} {xs : List V} {us : List Value}, Rps K Hs l xs → Vals xs us → PySem.W.EachIs (fun u d => ∃ v, RelV v u ∧ Rp K Hs d v) us l
  | [], xs, us, h, r => by
    have h : xs = [] := h
    subst h
    cases r
    exact .nil
  | d :: l, xs, us, h, r => by
    obtain ⟨v, ys, rfl, h1, h2⟩ := h
    cases r with
    | cons r1 r2 => exact .cons ⟨v, r1, h1⟩ (each_in h2 r2)
theorem each_out {Hs : Hp} : ∀ {l : List D} {us : List Value}, PySem.W.EachIs (fun u d => ∃ v, RelV v u ∧ Rp K Hs d v) us l → ∃ ys, Rps K Hs l ys ∧ Vals ys us
  | _, _, .nil => ⟨[], rfl, .nil⟩
  | _, _, .cons ⟨v, h1, h2⟩ t => by
    obtain ⟨ys, h3, h4⟩ := each_out t
    exact ⟨v :: ys, ⟨v, ys, rfl, h2, h3⟩, .cons h1 h4⟩
theorem each_rd {pins : List (Addr × Obj)} {σ : St} {H : Hp} {s : Shared} (I : Inv X pins σ H s) {Hs : Hp} (sb : Same Hs H) : ∀ {l : List D} {us : List Value}, (∀ d ∈ l, isP d = true) → PySem.W.EachIs (fun u d => ∃ v, RelV v u ∧ Rp X.K Hs d v) us l → PySem.W.EachIs (fun u d => ∃ as, Reads s.heap u (toP d) as) us l
  | _, _, _, .nil => .nil
  | _, _, p, .cons ⟨v, h1, h2⟩ t => .cons (Dp.reads I _ v _ (rp_dp _ v (p _ List.mem_cons_self) (Rp.mono sb _ _ h2)) h1) (each_rd I sb (fun d hd => p d (List.mem_cons_of_mem _ hd)) t)
theorem cr_sortedD (hu : X.A.units + 64 < cLine) : CallR X (.builtin "sorted") (rSortedD X.K) := by
  intro pins s σ H vs us Q I r h
  obtain ⟨a, xs, ds, Hs, rfl, hs, hr, sb, ho, q⟩ := h
  obtain ⟨its, rv, hl, hz⟩ := I.list hs
  rw [Vals.ref1 r]
  unfold okSort at ho
  simp only [Bool.and_eq_true, Bool.or_eq_true, List.all_eq_true, decide_eq_true_eq] at ho
  obtain ⟨⟨⟨o1, o2⟩, o3⟩, o4⟩ := ho
  have e := each_in hr rv
  refine PySem.W.sorted_data hl.isList e (each_rd I sb (isPs_mem o1) e) ?_ ?_ (by rw [rps_len hr]; exact hz) (fun b hb => ?_) fun out h1 h2 => ?_
  · intro d hd d' hd'
    obtain ⟨b, hb, rfl⟩ := List.mem_map.mp hd
    obtain ⟨b', hb', rfl⟩ := List.mem_map.mp hd'
    exact o2 b hb b' hb'
  · rcases o3 with o3 | o3
    · refine .inl fun d hd => ?_
      obtain ⟨b, hb, rfl⟩ := List.mem_map.mp hd
      have := o3 b hb
      unfold tupB at this
      split at this
      · exact ⟨_, _, rfl⟩
      · cases this
    · refine .inr fun d hd => ?_
      obtain ⟨b, hb, rfl⟩ := List.mem_map.mp hd
      have := o3 b hb
      unfold atB at this
      split at this
      · exact ⟨(fun h => nomatch h), (fun _ h => nomatch h)⟩
      · exact ⟨(fun h => nomatch h), (fun _ h => nomatch h)⟩
      · exact ⟨(fun h => nomatch h), (fun _ h => nomatch h)⟩
      · exact ⟨(fun h => nomatch h), (fun _ h => nomatch h)⟩
      · cases this
  · have := o4 b hb
    omega
  · obtain ⟨ys, k1, k2⟩ := each_out h2
    obtain ⟨ep, he'⟩ := PyProof.Rows.sortedAll_at s.heap its out.toArray
    have hlen : ys.length ≤ sizeLine := by
      rw [← rps_len k1, List.length_mergeSort, rps_len hr]
      exact hz
    exact ⟨.ref _, upd H (s.heap.objs.size + 1) (.lst ys), I.laid (t' := s.toks) (fun _ _ => PyProof.Rows.sortedAll_old) (Nat.le_succ _) ⟨hlen, out, ep, k2, he'⟩, rfl, q _ _ k1 (I.hok.fresh (Nat.le_succ _))⟩
def gSortedA (ds : List D) : Option Tm := match gSorted ds with
  | some t => some t
  | none => match ds with
    | [d] => match lstOf d with
      | none => none
      | some l => if okSort l then some (.ow (.lst (dsort l))) else none
    | _ => none
theorem pr_sortedA : PureOk K gSortedA (fun xs H Q => rSortedI K xs H Q ∨ rSortedD K xs H Q) := by
  intro Hs H vs ds t Q sb rd q k
  unfold gSortedA at q
  split at q
  · rename_i hq
    cases q
    exact .inl (pr_sorted Hs H vs _ _ Q sb rd hq k)
  · split at q
    · split at q
      · cases q
      · rename_i l hl
        split at q
        · rename_i ho
          cases q
          obtain ⟨v, rfl, h1⟩ := rds1 rd
          obtain ⟨p, xs, rfl, a1, a2⟩ := rd1_seq sb h1 hl
          exact .inr ⟨p, xs, l, Hs, rfl, a1, a2, sb, ho, fun ys z hr hz => k _ _ _ (new_lst sb hr hz)⟩
        · cases q
    · cases q
theorem jc_sortedA {W : WX} (hu : X.A.units + 64 < cLine) (hg : Gl X "sorted") (hm : X.mg "sorted" = none) (ha : JA X W (a :: es) fl) (hs : starEach (a :: es) X.env = (false, eval a X.env) :: starEach es X.env := by rfl) (hpl : (backTo pos (starEach es X.env)).any (·.1) = false := by rfl) :
    JE X W (.Call (.Name "sorted" p) (a :: es) [] pos) (sOp gSortedA fl) := je_callB (cr_sortedI.or (cr_sortedD hu)) pr_sortedA hg hm (by decide +kernel) ha (by decide) (by decide) hs hpl
end
end L2.Py
set_option maxRecDepth 100000
namespace L2
open PySem PySem.Spec PyProof.Rows PySem.Calls
section
variable {P : Program} {w : World} {A : Around} {E : Value → Shared → Prop} {s : Shared}
abbrev eset (w : World) : Obj := { cls := .type "set", dict := none, data := .set #[] 0 (.fresh 0 0 (!w.params.followText "set-order")) }
abbrev smem (ns : List Int) : Int → Bool := fun j => decide (j ∈ ns)
set_option maxHeartbeats 3200000 in
theorem call_set_L {l : Addr} {its : Array Value} (ns : List Int) {Q : Value → Shared → Prop} (a1 : A.handled = none) (a2 : s.heap.IsList l its) (a3 : IntsAre its.toList ns) (a4 : ns.length + 1 < scanBound)
    (a5 : ∀ (g : Heap) (tk c : Nat), SetR w g s.heap.objs.size (smem ns) c → c ≤ ns.length → (∀ b o, s.heap.get? b = some o → g.get? b = some o) → Q (.ref s.heap.objs.size) { s with heap := g, toks := tk }) :
    wpAny (model P w) A (call (.type "set") [.ref l]) Q E s := by
  have sz : its.size = ns.length := by have q := IntsAre.length a3; rw [Array.length_toList] at q; exact q
  obtain ⟨c, tl, hmro⟩ := F.called_set.mro
  have b1 := F.called_set.made; have b2 := F.called_set.sub
  refine wpAny_call (codeAny_of_tree ?_)
  show wpAny _ _ (callAny (.type "set") _) _ _ _
  refine wpAny_pure ⟨Code.quiet_builtin _ (by decide +kernel), codeAny_builtin F.entry_type_call ?_⟩
  rw [Around.under_plain (weight_type_call_type "set" [.ref l] []) rfl]
  have b3 := F.called_set.notType; have b4 := F.called_set.canCreate; have b5 := F.typeCall_set_1 (.ref l)
  repeat (any_goals (first | assumption | wp_step))
  refine codeAny_mono (code_set_led1 (.ref l) (E := E) (Q₁ := fun v t => v = .ref s.heap.objs.size ∧ t = { s with heap := s.heap.push (eset w) }) ⟨rfl, rfl⟩) fun r t hr => ?_
  cases r with
  | error e => exact hr
  | ok fl =>
    cases fl with
    | ret v =>
      obtain ⟨rfl, rfl⟩ := hr
      have c1 : (s.heap.push (eset w)).get? s.heap.objs.size = some (eset w) := Heap.get?_push_size _ rfl
      have c2 : Shared.TypeIs { s with heap := s.heap.push (eset w) } (.ref s.heap.objs.size) "set" := ⟨_, c1, rfl⟩
      have b6 := F.called_set.init.lookup; have b7 := F.called_set.init.bind (.ref s.heap.objs.size)
      repeat (any_goals (first | assumption | wp_step))
      refine codeAny_mono (codeAny_call_builtin (R := wants (fun r u => r = .none ∧ ∃ g tk c, u = { s with heap := g, toks := tk } ∧ SetR w g s.heap.objs.size (smem ns) c ∧ c ≤ ns.length ∧ (∀ b o, s.heap.get? b = some o → g.get? b = some o)) E)
        F.called_set.init.plain F.entry_set_init (check_set_init_1 c2 ?_)) fun r2 u hr2 => ?_
      · obtain ⟨ol, hol, hcl, nl, hdl⟩ := a2
        obtain ⟨ocls, odict, odata, oslots⟩ := ol
        simp only at hcl hdl
        subst hcl; subst hdl
        have d1 : (s.heap.push (eset w)).get? l = some { cls := .type "list", dict := odict, data := .seq its nl, slots := oslots } := Heap.get?_push_of_some _ hol
        have d2 := F.sub_list_set; have d3 := F.sub_list_frozenset
        have d4 : (Value.type "list" == Value.type "dict") = false := by decide
        have d5 : (s.heap.push (eset w)).IsList l its := ⟨_, d1, rfl, nl, rfl⟩
        unfold Builtin.«set.__init__» noKeywords Builtin.Frozenset.updateFrom
        generalize hPI : pyIter = PI
        wp_walk
        subst hPI
        refine wpAny_pyIter_list d5 ?_
        refine wpAny_bind (wpAny_runValue ?_)
        have e1 : l < s.heap.objs.size := Heap.lt_size hol
        have e2 : A.in1.in1.in1.handled = none := by simp [a1]
        have e3 : (s.heap.push (eset w)).objs.size = s.heap.objs.size + 1 := Heap.size_push ..
        have e4 : l ≠ (s.heap.push (eset w)).objs.size := fun q => absurd (q.trans e3) (Nat.ne_of_lt (Nat.lt_succ_of_lt e1))
        have e5 : s.heap.objs.size ∉ [(s.heap.push (eset w)).objs.size, l] := fun q => by
          rcases List.mem_cons.mp q with q | q
          · exact absurd (q.trans e3) (Nat.ne_of_lt (Nat.lt_succ_self _))
          · rcases List.mem_cons.mp q with q | q
            · exact absurd q (Nat.ne_of_gt e1)
            · cases q
        have e6 : ∀ (i : Nat) (v : Value), its[i]? = some v → ∃ k t, ns[i]? = some k ∧ v = .int k t := fun i v hv => by
          have hi : i < ns.length := by rw [← sz]; exact (Array.getElem?_eq_some_iff.mp hv).1
          obtain ⟨t, e⟩ := PyProof.Rows.IntsAre.int_at a3 i v (by rw [Array.getElem?_toList]; exact hv)
          exact ⟨ns[i], t, List.getElem?_eq_getElem hi, by rw [e, List.getD_eq_getElem?_getD, List.getElem?_eq_getElem hi]; rfl⟩
        refine set_update_ints ((Walks.list e2 _ l e4 its).toS) s.heap.objs.size e5 ns sz a4 e6 (its.size - 0) 0 _ (by omega) (Nat.zero_le _) ⟨⟨_, Heap.get?_push_size _ rfl, rfl, rfl⟩, (d5.push _)⟩ ?k1 ?k2
        case k1 => exact ⟨0, Nat.le_refl 0, setR_new_at (Heap.get?_push_of_some _ c1)⟩
        case k2 =>
          intro s' c' hm hc' hS'
          obtain ⟨g, g2, d', tk', os'⟩ := s'
          have eg : g2 = s.gens := hm.gens
          have ed : d' = s.drawn := hm.drawn
          have eo : os' = s.os := hm.os
          subst eg ed eo
          show wpAny _ _ _ _ _ _
          refine wpAny_pure ?_
          show wpAny _ _ (ret Value.none) _ _ _
          rw [sz] at hc'
          refine wpAny_pure ⟨rfl, g, tk', c', rfl, hS', hc', fun b o e => ?_⟩
          have f0 : b < s.heap.objs.size := Heap.lt_size e
          refine hm.heap b o (fun hb => ?_) (Heap.get?_push_of_some _ (Heap.get?_push_of_some _ e))
          rcases List.mem_cons.mp hb with hb | hb
          · exact absurd hb (Nat.ne_of_lt f0)
          · rcases List.mem_cons.mp hb with hb | hb
            · exact absurd (hb.trans e3) (Nat.ne_of_lt (Nat.lt_succ_of_lt f0))
            · cases hb
      · cases r2 with
        | error e => exact hr2
        | ok fl =>
          cases fl with
          | ret v =>
            obtain ⟨rfl, g, tk, c, rfl, h1, h2, h3⟩ := hr2
            repeat (any_goals (first | assumption | wp_step))
            all_goals exact a5 _ _ _ h1 h2 h3
          | _ => exact hr2
    | _ => exact hr
end
end L2
set_option maxRecDepth 100000
namespace L2
open PySem PySem.Spec PyProof.Rows PySem.Calls
def rSetOfL (K : PySem.W.Frag) (w : World) : List V → Hp → VK → Prop := fun vs H Q => ∃ (a : Addr) (ns : List Int), vs = [V.ref a] ∧ SqL K H a (ns.map V.int) ∧ ns.length ≤ 4000 ∧
  ∀ (p : Addr) (c : Nat) (ks : List Int), ks.Nodup → ks.length = c → (∀ k, k ∈ ks ↔ k ∈ ns) → H p = none → Q (.ref p) (upd H p (SetO w p (smem ns) c))
theorem cr_setL {X : Cx} (hc : X.calm = true) : CallR X (.type "set") (rSetOfL X.K X.w) := by
  intro pins s σ H xs us Q I r h
  obtain ⟨a, ns, rfl, hs, hn, q⟩ := h
  obtain ⟨its, rv, hl, _⟩ := I.list hs
  rw [Vals.ref1 r]
  refine call_set_L ns (I.ok.hd hc) hl.isList rv.ints (by show _ < 4096; omega) fun g tk c R _ hk => ?_
  have ⟨o, es, ep, t, ho, _, _, k1, k2, k3, _, _, k4, _⟩ := R
  exact ⟨.ref _, upd H s.heap.objs.size (SetO X.w s.heap.objs.size (smem ns) c), I.laid (t' := tk) hk (Nat.le_refl _) (setO_new R), rfl,
    q _ c (es.toList.map keyOf) k2 (by rw [List.length_map, Array.length_toList, k4]) (fun k => by rw [← k3 k]; exact decide_eq_true_iff) (I.hok.fresh (Nat.le_refl _))⟩
end L2
namespace L2.Py
open PySem PySem.Spec PyProof.Rows
def dd : List Int → List Int
  | [] => []
  | x :: l => if (l.any fun y => decide (y = x)) = true then dd l else x :: dd l
theorem dd_mem : ∀ {l : List Int} {x : Int}, x ∈ dd l ↔ x ∈ l
  | [], x => Iff.rfl
  | y :: l, x => by
    unfold dd
    split
    next h =>
      obtain ⟨z, h1, h2⟩ := List.any_eq_true.mp h
      have h2 := of_decide_eq_true h2
      rw [dd_mem, List.mem_cons]
      refine ⟨.inr, fun q => ?_⟩
      rcases q with rfl | q
      · exact h2 ▸ h1
      · exact q
    next h => rw [List.mem_cons, List.mem_cons, dd_mem]
theorem dd_nodup : ∀ l : List Int, (dd l).Nodup
  | [] => List.nodup_nil
  | y :: l => by
    unfold dd
    split
    next h => exact dd_nodup l
    next h =>
      refine List.nodup_cons.mpr ⟨fun q => h ?_, dd_nodup l⟩
      exact List.any_eq_true.mpr ⟨y, dd_mem.mp q, decide_eq_true rfl⟩
theorem rising_one : ∀ {l m : List Int}, l.Pairwise (· < ·) → m.Pairwise (· < ·) → (∀ x, x ∈ l ↔ x ∈ m) → l = m
  | [], [], _, _, _ => rfl
  | [], y :: m, _, _, h => nomatch (h y).mpr List.mem_cons_self
  | x :: l, [], _, _, h => nomatch (h x).mp List.mem_cons_self
  | x :: l, y :: m, h1, h2, h => by
    obtain ⟨a1, a2⟩ := List.pairwise_cons.mp h1
    obtain ⟨b1, b2⟩ := List.pairwise_cons.mp h2
    have e : x = y := by
      rcases List.mem_cons.mp ((h x).mp List.mem_cons_self) with q | q
      · exact q
      · rcases List.mem_cons.mp ((h y).mpr List.mem_cons_self) with r | r
        · exact r.symm
        · have := b1 x q
          have := a1 y r
          omega
    subst e
    rw [rising_one a2 b2 fun z => ?_]
    constructor
    · intro q
      rcases List.mem_cons.mp ((h z).mp (List.mem_cons_of_mem _ q)) with r | r
      · have := a1 z q
        omega
      · exact r
    · intro q
      rcases List.mem_cons.mp ((h z).mpr (List.mem_cons_of_mem _ q)) with r | r
      · have := b1 z q
        omega
      · exact r
def sset (l : List Int) : List Int := isort (dd l)
theorem sset_mem {l : List Int} {x : Int} : x ∈ sset l ↔ x ∈ l := by
  unfold sset
  exact (List.mergeSort_perm (dd l) _).mem_iff.trans dd_mem
theorem sset_up (l : List Int) : (sset l).Pairwise (· < ·) := by
  have h1 : (isort (dd l)).Pairwise (· ≤ ·) := by
    have := List.pairwise_mergeSort (le := fun a b : Int => decide (a ≤ b)) (fun a b c h1 h2 => by simp at *; omega) (fun a b => by simp; omega) (dd l)
    exact this.imp fun h => by simpa using h
  have h2 : (isort (dd l)).Nodup := (List.mergeSort_perm (dd l) _).nodup_iff.mpr (dd_nodup l)
  exact (h1.and h2).imp fun h => by omega
def gSSet : List D → Option Tm
  | [d] => match lstOf d with
    | none => none
    | some l => match intsOf l with
      | none => none
      | some ns => if ns.length ≤ 4000 ∧ (dd ns).length < 64 then some (.ow (.lst ((sset ns).map .int))) else none
  | _ => none
section
variable {X : Cx} {K : PySem.W.Frag} {W : WX}
def rSSet (K : PySem.W.Frag) (w : World) : List V → Hp → VK → Prop := fun vs H Q => rSetOfL K w vs H fun v H2 => rSortedSet w [v] H2 Q
theorem new_more {Hs H H1 Hs' H' : Hp} {d : D} {v : V} (s : Same H H1) (n : NewOut K Hs H1 (.ow d) v Hs' H') : NewOut K Hs H (.ow d) v Hs' H' := by
  obtain ⟨n1, n2, n3, n4, p, e, n5, n6⟩ := n
  exact ⟨s.trans n1, n2, n3, fun a z q => Same.none s (n4 a z q), p, e, Same.none s n5, n6⟩
theorem nodup_len {l m : List Int} (h1 : l.Nodup) (h2 : m.Nodup) (h : ∀ x, x ∈ l ↔ x ∈ m) : l.length = m.length := ((List.perm_ext_iff_of_nodup h1 h2).mpr h).length_eq
theorem pr_sset (w : World) : PureOk K gSSet (rSSet K w) := by
  intro Hs H vs ds t Q sb rd q k
  unfold gSSet at q
  split at q
  · split at q
    · cases q
    · rename_i l hl
      split at q
      · cases q
      · rename_i ns hn
        split at q
        · rename_i hb
          cases q
          obtain ⟨v, rfl, h1⟩ := rds1 rd
          obtain ⟨p, xs, rfl, a1, a2⟩ := rd1_seq sb h1 hl
          have e := rps_ints a2 hn
          subst e
          refine ⟨p, ns, rfl, a1, hb.1, fun p2 c ks k1 k2 k3 hp2 => ?_⟩
          have hc : c = (dd ns).length := by
            rw [← k2]
            exact nodup_len k1 (dd_nodup ns) fun x => (k3 x).trans dd_mem.symm
          refine ⟨p2, smem ns, c, rfl, upd_same, by omega, fun ms p3 m1 m2 m3 hp3 => ?_⟩
          have em : ms = sset ns := rising_one m1 (sset_up ns) fun x => by rw [m2 x, sset_mem]; exact decide_eq_true_iff
          rw [em]
          have sb2 : Same Hs (upd H p2 (SetO w p2 (smem ns) c)) := sb.trans (same_upd hp2)
          have n3 := new_lst (K := K) (ds := (sset ns).map .int) sb2 (rps_ofi _) hp3
          exact k _ _ _ (new_more (same_upd hp2) n3)
        · cases q
  · cases q
theorem jc_sset {a : Expr} {fa : SemL} {p p2 pos pos2 : Pos} (hc : X.calm = true) (hg : Gl X "sorted") (hm : X.mg "sorted" = none) (hg2 : Gl X "set") (hm2 : X.mg "set" = none) (ha : JA X W [a] fa)
    (hs : starEach [a] X.env = (false, eval a X.env) :: starEach [] X.env := by rfl) (hpl : (backTo pos2 (starEach [] X.env)).any (·.1) = false := by rfl)
    (hs2 : starEach [.Call (.Name "set" p2) [a] [] pos2] X.env = (false, eval (.Call (.Name "set" p2) [a] [] pos2) X.env) :: starEach [] X.env := by rfl) (hpl2 : (backTo pos (starEach [] X.env)).any (·.1) = false := by rfl) :
    JE X W (.Call (.Name "sorted" p) [.Call (.Name "set" p2) [a] [] pos2] [] pos) (sOp gSSet fa) :=
  PE_imp (pe_callB (cr_sortedSet hc) hg hm (by decide +kernel) (pa_cons (pe_callTy (cr_setL hc) hg2 hm2 (by decide +kernel) ha (by decide) (by decide) hs hpl) pa_nil) (by decide) (by decide) hs2 hpl2)
    fun σ H Q ⟨vs0, Bk, Hs, en, fr, h⟩ => by
      have h2 := op_fin (K := X.K) (r := rSSet X.K X.w) (Q := Q) (pr_sset X.w) fr h
      exact ⟨vs0, Bk, Hs, en, fr, h2⟩
end
end L2.Py
set_option maxRecDepth 100000
namespace L2.Py
open PySem PySem.Spec PyProof.Rows
section
variable {X : Cx} {K : PySem.W.Frag} {W : WX}
def rReprS : List V → Hp → VK → Prop := fun vs H Q => (vs = [.non] ∧ Q (.str "None") H) ∨ (∃ b, vs = [.bl b] ∧ Q (.str (if b then "True" else "False")) H) ∨ (∃ i, vs = [.int i] ∧ i.natAbs.log2 < 1920 ∧ Q (.str (toString i)) H)
theorem cr_reprS : CallR X (.builtin "repr") rReprS := by
  intro pins s σ H xs us Q I r h
  rcases h with ⟨rfl, q⟩ | ⟨b, rfl, q⟩ | ⟨i, rfl, hz, q⟩
  · obtain ⟨u, rfl, rfl⟩ := vals1 r
    exact PySem.P.repr_of_none ⟨.str _, H, I.tok _, ⟨_, rfl⟩, q⟩
  · obtain ⟨u, rfl, rfl⟩ := vals1 r
    refine PySem.P.repr_of_bool ⟨.str _, H, I.tok _, ⟨_, rfl⟩, ?_⟩
    cases b <;> exact q
  · obtain ⟨u, rfl, t, rfl⟩ := vals1 r
    exact PySem.P.repr_of_int hz ⟨.str _, H, I.tok _, ⟨_, rfl⟩, q⟩
def gReprA : List D → Option Tm
  | [.non] => some (.im (.str "None"))
  | [.bl b] => some (.im (.str (if b then "True" else "False")))
  | [.int i] => if i.natAbs.log2 < 1920 then some (.im (.str (toString i))) else none
  | ds => gRepr ds
theorem pr_reprA : PureOk K gReprA (fun xs H Q => rRepr K xs H Q ∨ rReprS xs H Q) := by
  intro Hs H vs ds t Q sb rd q k
  unfold gReprA at q
  split at q
  · cases q
    obtain ⟨v, rfl, h1⟩ := rds1 rd
    have h1 : v = .non := h1.elim (fun z => z) fun ⟨_, _, z⟩ => z.elim
    subst h1
    exact .inr (.inl ⟨rfl, k _ _ Hs (new_imm sb rfl)⟩)
  · cases q
    rename_i b
    obtain ⟨v, rfl, h1⟩ := rds1 rd
    have h1 : v = .bl b := h1.elim (fun z => z) fun ⟨_, _, z⟩ => z.elim
    subst h1
    exact .inr (.inr (.inl ⟨b, rfl, k _ _ Hs (new_imm sb rfl)⟩))
  · rename_i i
    split at q
    · rename_i hz
      cases q
      obtain ⟨v, rfl, h1⟩ := rds1 rd
      cases rd1_int h1
      exact .inr (.inr (.inr ⟨i, rfl, hz, k _ _ Hs (new_imm sb rfl)⟩))
    · cases q
  · exact .inl (pr_repr Hs H vs _ t Q sb rd q k)
theorem jc_reprA (hgd : X.A.guards = some []) (hu : X.A.units + 64 < cLine) (hg : Gl X "repr") (hm : X.mg "repr" = none) (ha : JA X W (a :: es) fl) (hs : starEach (a :: es) X.env = (false, eval a X.env) :: starEach es X.env := by rfl) (hpl : (backTo pos (starEach es X.env)).any (·.1) = false := by rfl) :
    JE X W (.Call (.Name "repr" p) (a :: es) [] pos) (sOp gReprA fl) := je_callB ((call_reprD hgd hu).or cr_reprS) pr_reprA hg hm (by decide +kernel) ha (by decide) (by decide) hs hpl
end
end L2.Py
set_option maxRecDepth 100000
namespace L2.Py
open PySem PySem.Spec PyProof.Rows
section
variable {X : Cx} {W : WX} {fl : SemL}
theorem par_finC {is : List Nat} {Dn : Ends} {σ : St} {vs0 : List V} {Bk Hs H : Hp} {e : En} (fr : Frm X.K vs0 Bk Hs H σ e) (h : PostS X.K X.mg W vs0 Bk Hs Dn (sPar is fl e)) :
    PostL X.K X.mg W vs0 Bk Hs σ (fun vs H1 => vs.length = is.length ∧ ∀ p, H1 p = none → Dn.nx (setAll is vs σ) (upd H1 p (.tup vs))) (fl e) := by
  unfold sPar at h
  cases q : fl e with
  | no => rw [q] at h; exact h
  | ex x e1 => rw [q] at h; exact fun c dx Hs1 H1 g1 f1 r => h c dx σ Hs1 H1 g1 f1 r
  | ok ts e1 =>
    rw [q] at h
    intro vs Hs1 H1 g1 t1
    dsimp only at h
    split at h
    · exact h.elim
    · rename_i ts' e2 q2
      split at h
      · exact h.elim
      · rename_i e3 q3
        obtain ⟨Hs2, g2, f2, n2, o2, r2⟩ := takeAll_ok t1.f t1.r (fun _ m => m) q2
        have es : Same Bk (ext Bk H1 (ownAs ts vs)) := ext_same fun a m => (t1.r.own a m).1
        refine ⟨by rw [← rpts_len r2, ← stAll_len q3], fun p hp => ?_⟩
        have f3 := storeAll_ok (K := X.K) (by rw [o2]; exact f2) r2 n2 (by rw [o2]; exact t1.n) q3
        have nw : NewOut X.K Hs2 H1 (.im .non) .non Hs2 (upd H1 p (.tup vs)) := ⟨same_upd hp, .refl _, f3.sb.trans (same_upd hp), fun a z q => absurd z q, rfl⟩
        have f4 := (nw.tmp f3 (.refl _)).1.frm
        exact h _ Hs2 _ (g1.trans (g2.weak es)) f4
theorem js_parC2 {i j : Nat} {x y : Str} {a b : Expr} {px py pt pos : Pos} {kt k2 pt2} (hc : X.calm = true) (hN : X.N.Nodup) (hi : X.N[i]? = some x) (hj : X.N[j]? = some y)
    (hx : Loc X.env.scope x) (hfx : X.fn x = true ∨ X.env.scope.names.lookup x = some .local) (hy : Loc X.env.scope y) (hfy : X.fn y = true ∨ X.env.scope.names.lookup y = some .local) (hz : 2 ≤ sizeLine) (ha : JA X W [a, b] fl)
    (hg1 : (assignEach [.Name y py] X.env).map (·.2) = assign (.Name y py) X.env :: (assignEach [] X.env).map (·.2) := by rfl)
    (hg2 : (assignEach [.Name x px, .Name y py] X.env).map (·.2) = assign (.Name x px) X.env :: (assignEach [.Name y py] X.env).map (·.2) := by rfl)
    (hn : (assignEach [.Name x px, .Name y py] X.env).length = 2 := by rfl) (hst : (assignEach [.Name x px, .Name y py] X.env).findIdx? (·.1) = none := by rfl)
    (hs : swapsWithSole [.Tuple [.Name x px, .Name y py] kt pt] (.Tuple [a, b] k2 pt2) pos.line X.env = pure false := by rfl)
    (hw : swappedStores [.Tuple [.Name x px, .Name y py] kt pt] (.Tuple [a, b] k2 pt2) X.env = pure none := by rfl)
    (h1 : (assignEach [.Tuple [.Name x px, .Name y py] kt pt] X.env).map (·.2) = [assign (.Tuple [.Name x px, .Name y py] kt pt) X.env] := by rfl) :
    JS X W (.Assign [.Tuple [.Name x px, .Name y py] kt pt] (.Tuple [a, b] k2 pt2) pos) (sPar [i, j] fl) :=
  PS_imp (ps_asg (pe_tup ha) (pg_tup hc (pgs_cons (pg_name hN hi hx hfx) (pgs_cons (pg_name hN hj hy hfy) pgs_nil hg1) hg2) hn hst) hs hw h1) fun D σ H ⟨vs0, Bk, Hs, e, fr, h⟩ => by
    refine ⟨vs0, Bk, Hs, e, fr, ?_⟩
    have z := par_finC fr h
    cases q : fl e with
    | no => rw [q] at z; exact z
    | ex x e1 => rw [q] at z; exact z
    | ok ts e1 =>
      rw [q] at z
      intro vs Hs1 H1 g1 t1
      obtain ⟨z1, z2⟩ := z vs Hs1 H1 g1 t1
      match vs, z1, z2 with
      | [v, w], _, z2 => exact ⟨hz, fun p hp => ⟨p, [v, w], rfl, .inl (.inl upd_same), rfl, v, [w], rfl, w, [], rfl, rfl, z2 p hp⟩⟩
end
end L2.Py
set_option maxRecDepth 100000
namespace L2.Py
open PySem PySem.Spec PyProof.Rows
section
variable {K : PySem.W.Frag} {H H' : Hp} {p : Addr} {kvs : List (Key × V)}
theorem rd_one {kvs' : List (Key × V)} (h : Rd H p (.dK kvs)) (h' : Rd H p (.dK kvs')) : kvs = kvs' := by
  rcases h with h | ⟨o, h⟩ <;> rcases h' with h' | ⟨o', h'⟩ <;> rw [h] at h' <;> cases h' <;> rfl
theorem rd_no {u : HO} (h : Rd H p (.dK kvs)) (h' : H p = some u) (n1 : ∀ x, u ≠ .dK x) (n2 : ∀ o x, u ≠ .frz o (.dK x)) : False := by
  rcases h with h | ⟨o, h⟩ <;> rw [h] at h' <;> cases h'
  · exact n1 _ rfl
  · exact n2 _ _ rfl
mutual
theorem Rp.swap (h1 : ∀ a, a ≠ p → H' a = H a) (h2 : Rd H p (.dK kvs)) (h3 : Rd H' p (.dK kvs)) : ∀ (d : D) (v : V), Rp K H d v → Rp K H' d v
  | .non, v, h => h
  | .bl b, v, h => h
  | .int b, v, h => h
  | .str b, v, h => h
  | .ty b, v, h => h
  | .hid, v, h => h
  | .lst ds, v, h => by
    unfold Rp at h ⊢
    obtain ⟨a, xs, e1, e2, e3⟩ := h
    have ne : a ≠ p := by rintro rfl; exact rd_no h2 e2 (fun _ q => nomatch q) (fun _ _ q => nomatch q)
    exact ⟨a, xs, e1, (h1 a ne).trans e2, Rps.swap h1 h2 h3 ds xs e3⟩
  | .scr ds, v, h => by
    unfold Rp at h ⊢
    obtain ⟨a, xs, e1, e2, e3⟩ := h
    refine ⟨a, xs, e1, ?_, Rps.swap h1 h2 h3 ds xs e3⟩
    rcases e2 with (e2 | ⟨o, e2⟩) | e2
    · have ne : a ≠ p := by rintro rfl; exact rd_no h2 e2 (fun _ q => nomatch q) (fun _ _ q => nomatch q)
      exact .inl (.inl ((h1 a ne).trans e2))
    · have ne : a ≠ p := by rintro rfl; exact rd_no h2 e2 (fun _ q => nomatch q) (fun _ _ q => nomatch q)
      exact .inl (.inr ⟨o, (h1 a ne).trans e2⟩)
    · exact .inr e2
  | .tup ds, v, h => by
    unfold Rp at h ⊢
    obtain ⟨a, xs, e1, e2, e3⟩ := h
    refine ⟨a, xs, e1, ?_, Rps.swap h1 h2 h3 ds xs e3⟩
    rcases e2 with (e2 | ⟨o, e2⟩) | e2
    · have ne : a ≠ p := by rintro rfl; exact rd_no h2 e2 (fun _ q => nomatch q) (fun _ _ q => nomatch q)
      exact .inl (.inl ((h1 a ne).trans e2))
    · have ne : a ≠ p := by rintro rfl; exact rd_no h2 e2 (fun _ q => nomatch q) (fun _ _ q => nomatch q)
      exact .inl (.inr ⟨o, (h1 a ne).trans e2⟩)
    · exact .inr e2
  | .dct ds, v, h => by
    unfold Rp at h ⊢
    obtain ⟨a, xs, e1, e2, e3⟩ := h
    refine ⟨a, xs, e1, ?_, Rpk.swap h1 h2 h3 ds xs e3⟩
    by_cases ne : a = p
    · subst ne
      rw [← rd_one h2 e2]
      exact h3
    · rcases e2 with e2 | ⟨o, e2⟩
      · exact .inl ((h1 a ne).trans e2)
      · exact .inr ⟨o, (h1 a ne).trans e2⟩
theorem Rps.swap (h1 : ∀ a, a ≠ p → H' a = H a) (h2 : Rd H p (.dK kvs)) (h3 : Rd H' p (.dK kvs)) : ∀ (d : List D) (v : List V), Rps K H d v → Rps K H' d v
  | [], v, h => h
  | d :: ds, v, h => by
    unfold Rps at h ⊢
    obtain ⟨w, r, e1, e2, e3⟩ := h
    exact ⟨w, r, e1, Rp.swap h1 h2 h3 d w e2, Rps.swap h1 h2 h3 ds r e3⟩
theorem Rpk.swap (h1 : ∀ a, a ≠ p → H' a = H a) (h2 : Rd H p (.dK kvs)) (h3 : Rd H' p (.dK kvs)) : ∀ (d : List (Key × D)) (v : List (Key × V)), Rpk K H d v → Rpk K H' d v
  | [], v, h => h
  | (k, d) :: ds, v, h => by
    unfold Rpk at h ⊢
    obtain ⟨w, r, e1, e2, e3⟩ := h
    exact ⟨w, r, e1, Rp.swap h1 h2 h3 d w e2, Rpk.swap h1 h2 h3 ds r e3⟩
end
theorem Frm.swap {vs0 : List V} {Bk Bk' Hs Hs' H H' : Hp} {σ : St} {e : En} (f : Frm K vs0 Bk Hs H σ e) (s1 : ∀ a, a ≠ p → Hs' a = Hs a) (s2 : Rd Hs p (.dK kvs)) (s3 : Rd Hs' p (.dK kvs)) (t1 : ∀ a, a ≠ p → H' a = H a) (t2 : H' p = Hs' p)
    (b1 : ∀ a, a ≠ p → Bk' a = Bk a) (b2 : Bk' p = none ∨ Bk' p = H' p) : Frm K vs0 Bk' Hs' H' σ e := by
  have nn : Hs p ≠ none := by rcases s2 with q | ⟨o, q⟩ <;> rw [q] <;> exact fun z => nomatch z
  refine ⟨f.len, fun a o q => ?_, fun a o q => ?_, fun i d fl h o => ?_, fun i d fl h o => ?_, f.dj, f.pn⟩
  · by_cases ne : a = p
    · subst ne
      exact t2.trans q
    · rw [t1 a ne]
      exact f.sb a o ((s1 a ne).symm.trans q)
  · by_cases ne : a = p
    · subst ne
      rcases b2 with z | z
      · rw [z] at q
        cases q
      · exact z.symm.trans q
    · rw [t1 a ne]
      exact f.bb a o ((b1 a ne).symm.trans q)
  · obtain ⟨v, h1, h2⟩ := f.sh i d fl h o
    exact ⟨v, h1, Rp.swap s1 s2 s3 d v h2⟩
  · obtain ⟨q, h1, h2, h3, h4⟩ := f.ow i d fl h o
    have ne : q ≠ p := by rintro rfl; exact nn h3
    refine ⟨q, h1, ?_, (s1 q ne).trans h3, (b1 q ne).trans h4⟩
    cases d <;> first | exact h2.elim | skip
    · obtain ⟨xs, k1, k2⟩ := h2
      exact ⟨xs, (t1 q ne).trans k1, Rps.swap s1 s2 s3 _ _ k2⟩
    · obtain ⟨xs, k1, k2⟩ := h2
      exact ⟨xs, (t1 q ne).trans k1, Rpk.swap s1 s2 s3 _ _ k2⟩
end
end L2.Py
set_option maxRecDepth 100000
namespace L2.Py
open PySem PySem.Spec PyProof.Rows
section
variable {X : Cx} {W : WX} {L : List Nat} {g : G} {fb : SemS}
theorem for_core {J : It} {D : Ends} {vs0 : List V} {Bk Hs1 H1 : Hp} {σ : St} {e1 : En} {ds : List L2.Py.D} (it : ItOk X.K J Hs1 ds) (f1 : Frm X.K vs0 Bk Hs1 H1 σ e1) (h : PostS X.K X.mg W vs0 Bk Hs1 D (forN g fb ds e1)) :
    ∃ M : Nat → Nat → St → Hp → Prop, (∃ m, M 0 m σ H1) ∧ ∀ i m σ H, M i m σ H → (J.stop i H ∧ D.nx σ H) ∨ (J.go i H ∧ ∃ N : St → Hp → Prop, (∀ σ' H', N σ' H' → ∃ m', m' < m ∧ M (i + 1) m' σ' H') ∧
      ∀ x H', J.yld i H x H' → TGt X.K L g x σ H' fun σ2 H2 => TSt X.K X.mg W fb { D with nx := N, ct := N, bk := D.nx } σ2 H2) := by
  refine ⟨fun i m σ' H' => m = ds.length - i ∧ i ≤ ds.length ∧ ∃ Hs' e', Grow Bk Hs1 Hs' ∧ Frm X.K vs0 Bk Hs' H' σ' e' ∧ PostS X.K X.mg W vs0 Bk Hs' D (forN g fb (ds.drop i) e'), ⟨ds.length, rfl, Nat.zero_le _, Hs1, e1, .refl, f1, h⟩, ?_⟩
  rintro i m σ2 H2 ⟨rfl, hi, Hs2, e2, g2, f2, h2⟩
  obtain ⟨k1, k2⟩ := it Hs2 H2 g2.1 f2.sb i
  by_cases hlt : i < ds.length
  · have hd : ds[i]? = some ds[i] := List.getElem?_eq_getElem hlt
    obtain ⟨w1, w2⟩ := k1 _ hd
    rw [List.drop_eq_getElem_cons hlt] at h2
    refine .inr ⟨w1, fun σ' H' => ∃ Hs' e', Grow Bk Hs1 Hs' ∧ Frm X.K vs0 Bk Hs' H' σ' e' ∧ PostS X.K X.mg W vs0 Bk Hs' D (forN g fb (ds.drop (i + 1)) e'), fun σ' H' n => ⟨ds.length - (i + 1), by omega, rfl, hlt, n⟩, fun x H3 y => ?_⟩
    obtain ⟨Hs3, n3⟩ := w2 x H3 y
    obtain ⟨t3, g3⟩ := n3.tmp f2 (.refl _)
    refine ⟨vs0, Bk, Hs3, e2, .im ds[i], t3, trivial, ?_⟩
    unfold forN at h2
    cases q3 : g (.im ds[i]) e2 with
    | none => rw [q3] at h2; exact h2.elim
    | some e3 =>
      rw [q3] at h2
      intro σ4 Hs4 H4 o4 g4 f4
      refine ⟨vs0, Bk, Hs4, e3, f4, ?_⟩
      dsimp only at h2
      have g24 := g3.trans g4
      cases q4 : fb e3 with
      | no => rw [q4] at h2; exact h2
      | nx e5 => rw [q4] at h2; exact fun σ5 Hs5 H5 g5 f5 => ⟨Hs5, e5, (g2.trans g24).trans g5, f5, PostS.grow h2 (g24.trans g5)⟩
      | ct e5 => rw [q4] at h2; exact fun σ5 Hs5 H5 g5 f5 => ⟨Hs5, e5, (g2.trans g24).trans g5, f5, PostS.grow h2 (g24.trans g5)⟩
      | bk e5 => rw [q4] at h2; exact fun σ5 Hs5 H5 g5 f5 => h2 σ5 Hs5 H5 (g24.trans g5) f5
      | rt t e5 => rw [q4] at h2; exact ⟨h2.1, fun v σ5 Hs5 H5 g5 t5 => h2.2 v σ5 Hs5 H5 (g24.trans g5) t5⟩
      | ex x e5 => rw [q4] at h2; exact fun c dx σ5 Hs5 H5 g5 f5 r => h2 c dx σ5 Hs5 H5 (g24.trans g5) f5 r
  · have ei : i = ds.length := by omega
    subst ei
    rw [List.drop_length] at h2
    exact .inl ⟨k2 rfl, h2 σ2 Hs2 H2 .refl f2⟩
theorem it_keys {K : PySem.W.Frag} {Hs : Hp} {p : Addr} {o : Obj} {kvs : List (Key × V)} {kd : List (Key × D)} (hp : Hs p = some (.frz o (.dK kvs))) (r : Rpk K Hs kd kvs) : ItOk K (Itk p o kvs) Hs (kd.map fun kv => kD kv.1) := by
  intro Hs1 H1 s1 s2 i
  have hl : kvs.length = kd.length := rpk_len r
  have hk := rps_keys r
  have a1 : H1 p = some (.frz o (.dK kvs)) := s2 _ _ (s1 _ _ hp)
  refine ⟨fun d q => ?_, fun q => ⟨a1, by rw [List.length_map] at q; omega⟩⟩
  have hi : i < kvs.length := by
    have := (List.getElem?_eq_some_iff.mp q).1
    rw [List.length_map] at this
    omega
  refine ⟨⟨a1, hi⟩, fun v H' ⟨e1, k, y, e2, e3⟩ => ?_⟩
  subst e1
  subst e3
  obtain ⟨u, u1, u2⟩ := rps_get hk q
  rw [List.getElem?_map, e2] at u1
  cases u1
  exact ⟨Hs1, .refl _, .refl _, s2, fun a z w => absurd z w, Rp.mono s1 _ _ u2⟩
def sForD (i : Nat) (g : G) (fb : SemS) : SemS := fun e => match takeT (.sl i) e with
  | some (.im (.dct kd), e1) => match forN g fb (kd.map fun kv => kD kv.1) e1 with
    | .nx e2 => .nx e2
    | _ => .no
  | _ => .no
theorem PS_or {st : Stmt} {t t' : TS} (h : PS X st t) (h' : PS X st t') : PS X st (fun D σ H => t D σ H ∨ t' D σ H) := ⟨fun pins s σ H D I q => q.elim (h.run pins s σ H D I) (h'.run pins s σ H D I)⟩
theorem js_forD {i : Nat} {x : Str} {px : Pos} {tg : Expr} {body : List Stmt} {pos : Pos} (hp : PassesOwn (model X.prog X.w) X.A X.env X.xe) (hc : X.calm = true) (hN : X.N[i]? = some x) (hv : Vis X.env.scope x) (hd : (x == ("__debug__" : Str)) = false := by decide) (hcd : (x == ("__classdict__" : Str)) = false := by decide)
    (hg : JG X tg L g) (hb : JSs X W body fb) (hs : ∀ y, foldedSetIterable (.Name x px) X.env y = pure y := by intro _; rfl) : JS X W (.For tg (.Name x px) body [] pos) (sForD i g fb) := by
  have base := ps_for (pos := pos) hp hc (pi_keys (tg := tg) (pe_var (pos := px) hN hv hd hcd)) hg hb hs
  refine PS_imp (PS_or (ps_lock base) base) fun D σ H ⟨vs0, Bk, Hs, e, fr, h⟩ => ?_
  unfold sForD at h
  split at h
  · rename_i kd e1 q
    split at h
    · rename_i e2 q2
      have fr0 : Frm X.K vs0 (ext Bk H []) Hs H σ e := by rw [ext_nil]; exact fr
      have q : (match e[i]? with
        | some (some (d, f)) => some (Tm.im d, e.set i (some (d, f.leak)))
        | _ => none) = some (Tm.im (.dct kd), e1) := q
      split at q
      · rename_i d fl z
        cases q
        obtain ⟨Hs1, w, g1, f1, h1, h2⟩ := fr0.leak z
        rw [ext_nil] at g1 f1
        obtain ⟨p, kvs, rfl, r1, r2⟩ := h2
        have rH := Same.rd f1.sb r1
        rcases r1 with u1 | ⟨o, u1⟩
        · have hH : H p = some (.dK kvs) := f1.sb _ _ u1
          refine .inl ⟨p, .dK kvs, hH, trivial, fun od => ⟨.ref p, h1, p, od, rfl, .inl ⟨kvs, upd_same, ?_⟩⟩⟩
          have s3 : Rd (upd Hs1 p (.frz od (.dK kvs))) p (.dK kvs) := .inr ⟨od, upd_same⟩
          have s1 : ∀ a, a ≠ p → upd Hs1 p (.frz od (.dK kvs)) a = Hs1 a := fun a ne => upd_ne ne
          have bL : ∃ BkL : Hp, (∀ a, a ≠ p → BkL a = Bk a) ∧ (Bk p = none ∧ BkL p = none ∨ Bk p = some (.dK kvs) ∧ BkL p = some (.frz od (.dK kvs))) := by
            cases zb : Bk p with
            | none => exact ⟨Bk, fun _ _ => rfl, .inl ⟨rfl, zb⟩⟩
            | some ob =>
              have := f1.bb _ _ zb
              rw [hH] at this
              cases this
              exact ⟨upd Bk p (.frz od (.dK kvs)), fun a ne => upd_ne ne, .inr ⟨rfl, upd_same⟩⟩
          obtain ⟨BkL, b1, b2⟩ := bL
          have fL : Frm X.K vs0 BkL (upd Hs1 p (.frz od (.dK kvs))) (upd H p (.frz od (.dK kvs))) σ (e.set i (some (.dct kd, fl.leak))) :=
            f1.swap (p := p) (kvs := kvs) s1 (.inl u1) s3 (fun a ne => upd_ne ne) (upd_same.trans upd_same.symm) b1 (b2.elim (fun z => .inl z.2) fun z => .inr (z.2.trans upd_same.symm))
          refine for_core (it_keys upd_same (Rpk.swap s1 (.inl u1) s3 _ _ r2)) fL ?_
          rw [q2]
          intro σ' Hs2 H2 gL f2
          have hs2 : Hs2 p = some (.frz od (.dK kvs)) := gL.1 _ _ upd_same
          have hh2 : H2 p = some (.frz od (.dK kvs)) := f2.sb _ _ hs2
          refine ⟨hh2, h σ' (upd Hs2 p (.dK kvs)) (upd H2 p (.dK kvs)) (g1.trans ⟨fun a o q => ?_, fun a n1 n2 => ?_⟩) ?_⟩
          · by_cases ne : a = p
            · subst ne
              rw [u1] at q
              cases q
              exact upd_same
            · rw [upd_ne ne]
              exact gL.1 a o (by rw [upd_ne ne]; exact q)
          · have ne : a ≠ p := by rintro rfl; rw [u1] at n1; cases n1
            rw [upd_ne ne] at n2
            rw [← b1 a ne]
            exact gL.2 a (by rw [upd_ne ne]; exact n1) n2
          · exact f2.swap (p := p) (kvs := kvs) (fun a ne => upd_ne ne) (.inr ⟨od, hs2⟩) (.inl upd_same) (fun a ne => upd_ne ne) (upd_same.trans upd_same.symm) (fun a ne => (b1 a ne).symm) (b2.elim (fun z => .inl z.1) fun z => .inr (z.1.trans upd_same.symm))
        · refine .inr ⟨.ref p, h1, p, o, rfl, .inl ⟨kvs, f1.sb _ _ u1, ?_⟩⟩
          refine for_core (it_keys u1 r2) f1 ?_
          rw [q2]
          exact fun σ' Hs2 H2 g2 f2 => h σ' Hs2 H2 (g1.trans g2) f2
      · cases q
    · exact h.elim
  · exact h.elim
end
end L2.Py
set_option maxRecDepth 100000
namespace L2.Py
open PySem PySem.Spec PyProof.Rows
section
variable {X : Cx} {W : WX} {elt tg : Expr} {ifs : List Expr} {scope : Scope} {own : List (Str × Nat)} {pos : Pos} {L : List Nat} {g : G} {fc : SemB} {fe : Sem}
theorem lcJ {J : It} {vs0 : List V} {Bk Hs1 H1 : Hp} {σ : St} {e1 e2 : En} {ds accF : List D} {vs : List Nat} {Q : VK} (it : ItOk X.K J Hs1 ds) (f1 : Frm X.K vs0 Bk Hs1 H1 σ e1) (hL : ∀ j ∈ L, j ∈ vs) (hno : noOwn e1 vs = true)
    (hlc : lcN vs g fc fe ds [] (wipeE e1 vs) = .ok accF e2) (h : PostE X.K X.mg W vs0 Bk Hs1 σ Q (.ok (.ow (.lst accF)) (backE e1 e2 vs))) : ∀ Dp, H1 Dp = none → ∃ M : Nat → Nat → Hp → Prop, (∃ m, M 0 m (upd H1 Dp (.lst []))) ∧ ∀ i m H, M i m H →
      (J.stop i H ∧ Q (.ref Dp) H) ∨ (J.go i H ∧ ∃ Nx : Hp → Prop, (∀ H', Nx H' → ∃ m', m' < m ∧ M (i + 1) m' H') ∧ ∀ x H', J.yld i H x H' → TGt X.K L g x (wipe σ vs) H' fun σ2 H2 => wipe σ2 vs = wipe σ vs ∧ TB' X.K X.mg NoX fc σ2 H2 fun b H3 =>
        if b = true then TI' X.K X.mg NoX fe σ2 H3 fun y H4 => ∃ acc, H4 Dp = some (.lst acc) ∧ acc.length < sizeLine ∧ Nx (upd H4 Dp (.lst (acc ++ [y]))) else Nx H3) := by
  intro Dp hD
  have hsD : Hs1 Dp = none := Same.none f1.sb hD
  have hbD : Bk Dp = none := Same.none f1.bb hD
  let Inv' : Nat → Hp → Prop := fun i H' => i ≤ ds.length ∧ ∃ Hs' e' accV accD, Grow Bk Hs1 Hs' ∧ H' Dp = some (.lst accV) ∧ Hs' Dp = none ∧ Frm X.K vs0 (upd Bk Dp (.lst accV)) Hs' H' (wipe σ vs) e' ∧ Rps X.K Hs' accD accV ∧ lcN vs g fc fe (ds.drop i) accD e' = .ok accF e2
  refine ⟨fun i m H' => m = ds.length - i ∧ Inv' i H', ⟨ds.length, rfl, Nat.zero_le _, Hs1, wipeE e1 vs, [], [], .refl, upd_same, hsD, ?_, rfl, hlc⟩, ?_⟩
  · have fw := f1.wiped vs
    have n0 : NewOut X.K Hs1 H1 (.ow (.lst [])) (.ref Dp) Hs1 (upd H1 Dp (.lst [])) := new_lst f1.sb rfl hD
    obtain ⟨t0, _⟩ := n0.tmp fw (.refl Bk)
    have t1 := t0.1
    rw [ext_one upd_same] at t1
    exact t1
  · rintro i m H2 ⟨rfl, hi, Hs2, e', accV, accD, g2, hD2, hsD2, f2, r2, h2⟩
    obtain ⟨k1, k2⟩ := it Hs2 H2 g2.1 f2.sb i
    have sbk : Same Bk (upd Bk Dp (.lst accV)) := same_upd hbD
    by_cases hlt : i < ds.length
    · have hd : ds[i]? = some ds[i] := List.getElem?_eq_getElem hlt
      obtain ⟨w1, w2⟩ := k1 _ hd
      rw [List.drop_eq_getElem_cons hlt] at h2
      refine .inr ⟨w1, fun H' => Inv' (i + 1) H', fun H' n => ⟨ds.length - (i + 1), by omega, rfl, n⟩, fun x H3 y => ?_⟩
      obtain ⟨Hs3, n3⟩ := w2 x H3 y
      obtain ⟨t3, g3⟩ := n3.tmp f2 (.refl _)
      refine ⟨vs0, upd Bk Dp (.lst accV), Hs3, e', .im ds[i], t3, trivial, ?_⟩
      unfold lcN at h2
      cases q3 : g (.im ds[i]) e' with
      | none => rw [q3] at h2; cases h2
      | some e3 =>
        rw [q3] at h2
        intro σ4 Hs4 H4 o4 g4 f4
        have wo := wipe_off o4 hL
        refine ⟨wo, vs0, upd Bk Dp (.lst accV), Hs4, e3, f4, ?_⟩
        dsimp only at h2
        cases q4 : fc e3 with
        | no => rw [q4] at h2; cases h2
        | ex x e4 => rw [q4] at h2; cases h2
        | ok b e4 =>
          rw [q4] at h2
          intro Hs5 H5 g5 f5
          have g35 : Grow (upd Bk Dp (.lst accV)) Hs2 Hs5 := (g3.trans g4).trans g5
          cases b with
          | false =>
            rw [if_neg Bool.false_ne_true]
            have hD5 : H5 Dp = some (.lst accV) := f5.bb Dp _ upd_same
            have fw := f5.wiped vs
            rw [wo] at fw
            refine ⟨hlt, Hs5, wipeE e4 vs, accV, accD, g2.trans (g35.weak sbk), hD5, ?_, fw, Rps.mono g35.1 _ _ r2, h2⟩
            cases z : Hs5 Dp with
            | none => rfl
            | some u =>
              have := g35.2 Dp hsD2 (by rw [z]; simp)
              rw [upd_same] at this
              cases this
          | true =>
            rw [if_pos rfl]
            refine ⟨vs0, upd Bk Dp (.lst accV), Hs5, e4, f5, ?_⟩
            dsimp only at h2
            cases q5 : fe e4 with
            | no => rw [q5] at h2; cases h2
            | ex x e5 => rw [q5] at h2; cases h2
            | ok t e5 =>
              rw [q5] at h2
              intro v Hs6 H6 g6 t6
              dsimp only at h2
              split at h2
              · cases h2
              · rename_i t' e6 q6
                split at h2
                · rename_i hsz
                  obtain ⟨Hs7, g7, t7, n7⟩ := take_tmp t6 q6
                  obtain ⟨Hs8, g8, f8, r8⟩ := t7.share n7
                  have g38 : Grow (upd Bk Dp (.lst accV)) Hs2 Hs8 := ((g35.trans g6).trans g7).trans g8
                  have hD6 : H6 Dp = some (.lst accV) := f8.bb Dp _ upd_same
                  have hs8 : Hs8 Dp = none := by
                    cases z : Hs8 Dp with
                    | none => rfl
                    | some u =>
                      have := g38.2 Dp hsD2 (by rw [z]; simp)
                      rw [upd_same] at this
                      cases this
                  have r8' := Rps.mono g38.1 _ _ r2
                  refine ⟨accV, hD6, by rw [← rps_len r2, ← line_eq]; exact hsz, hlt, Hs8, wipeE e6 vs, accV ++ [v], accD ++ [dOf t'], g2.trans (g38.weak sbk), upd_same, hs8, ?_, rps_app r8' r8, h2⟩
                  have fw := f8.wiped vs
                  rw [wo] at fw
                  refine ⟨fw.len, fun a o z => ?_, fun a o z => ?_, fw.sh, fun j d fl z o => ?_, fw.dj, fw.pn⟩
                  · have ne : a ≠ Dp := fun z' => by rw [z', hs8] at z; cases z
                    rw [upd_ne ne]; exact fw.sb a o z
                  · by_cases ne : a = Dp
                    · subst ne; rw [upd_same] at z ⊢; exact z
                    · rw [upd_ne ne] at z ⊢
                      exact fw.bb a o (by rw [upd_ne ne]; exact z)
                  · obtain ⟨p, w1, w2, w3, w4⟩ := fw.ow j d fl z o
                    have ne : p ≠ Dp := fun z' => by rw [z', upd_same] at w4; cases w4
                    rw [upd_ne ne] at w4
                    exact ⟨p, w1, w2.mono (.refl _) (upd_ne ne), w3, by rw [upd_ne ne]; exact w4⟩
                · cases h2
    · have ei : i = ds.length := by omega
      subst ei
      rw [List.drop_length] at h2
      have h2 : (R.ok accD e' : R (List D)) = .ok accF e2 := h2
      cases h2
      refine .inl ⟨k2 rfl, ?_⟩
      have fb := f1.back hno f2 g2.1
      refine h (.ref Dp) Hs2 H2 g2 ⟨?_, Dp, rfl, ⟨accV, hD2, r2⟩, hsD2, hbD⟩
      rw [ext_one hD2]
      exact fb
def sItD (i : Nat) : SemI := fun e => match takeT (.sl i) e with
  | some (.im (.dct kd), e1) => .ok (kd.map fun kv => kD kv.1) e1
  | _ => .no
theorem je_lcD {i : Nat} {x : Str} {px : Pos} (hc : X.calm = true) (hNd : X.N.Nodup) (hN : X.N[i]? = some x) (hv : Vis X.env.scope x) (hd : (x == ("__debug__" : Str)) = false := by decide) (hcd : (x == ("__classdict__" : Str)) = false := by decide)
    (ok : BlkOk X.N X.env.scope scope own) (hL : ∀ j ∈ L, j ∈ own.map (·.2))
    (hg : BlkJ X scope fun X => JG X tg L g) (ht : BlkJ X scope fun X => JT X ifs fc) (he : BlkJ X scope fun X => JE X NoX elt fe) (hs : ∀ y, foldedSetIterable (.Name x px) X.env y = pure y := by intro _; rfl) :
    JE X W (.ListComp elt [⟨tg, .Name x px, ifs, 0⟩] scope pos) (sLc (own.map (·.2)) g (sItD i) fc fe) := by
  have base := pe_lc (elt := elt) (ifs := ifs) (scope := scope) (own := own) (pos := pos) (g := TGt X.K L g) (tt := TB' X.K X.mg NoX fc) (te := TI' X.K X.mg NoX fe) hc hNd (pi_keys (tg := tg) (pe_var (pos := px) hN hv hd hcd)) ok hg ht he hs
  refine PE_imp (PE_or (pe_lock base) base) fun σ H Q ⟨vs0, Bk, Hs, e, fr, h⟩ => ?_
  generalize hvs : own.map (·.2) = vs at h hL ⊢
  unfold sLc sItD at h
  split at h
  · exact h.elim
  · rename_i q
    split at q <;> cases q
  · rename_i ds e1 q0
    split at q0
    · rename_i kd e1' q
      cases q0
      split at h
      · rename_i hno
        split at h
        · rename_i accF e2 hlc
          have fr0 : Frm X.K vs0 (ext Bk H []) Hs H σ e := by rw [ext_nil]; exact fr
          have q : (match e[i]? with
            | some (some (d, f)) => some (Tm.im d, e.set i (some (d, f.leak)))
            | _ => none) = some (Tm.im (.dct kd), e1) := q
          split at q
          · rename_i d fl z
            cases q
            obtain ⟨Hs1, w, g1, f1, h1, h2⟩ := fr0.leak z
            rw [ext_nil] at g1 f1
            obtain ⟨p, kvs, rfl, r1, r2⟩ := h2
            rcases r1 with u1 | ⟨o, u1⟩
            · have hH : H p = some (.dK kvs) := f1.sb _ _ u1
              refine .inl ⟨p, .dK kvs, hH, trivial, fun od => ⟨.ref p, h1, p, od, rfl, .inl ⟨kvs, upd_same, ?_⟩⟩⟩
              have s3 : Rd (upd Hs1 p (.frz od (.dK kvs))) p (.dK kvs) := .inr ⟨od, upd_same⟩
              have s1 : ∀ a, a ≠ p → upd Hs1 p (.frz od (.dK kvs)) a = Hs1 a := fun a ne => upd_ne ne
              have bL : ∃ BkL : Hp, (∀ a, a ≠ p → BkL a = Bk a) ∧ (Bk p = none ∧ BkL p = none ∨ Bk p = some (.dK kvs) ∧ BkL p = some (.frz od (.dK kvs))) := by
                cases zb : Bk p with
                | none => exact ⟨Bk, fun _ _ => rfl, .inl ⟨rfl, zb⟩⟩
                | some ob =>
                  have := f1.bb _ _ zb
                  rw [hH] at this
                  cases this
                  exact ⟨upd Bk p (.frz od (.dK kvs)), fun a ne => upd_ne ne, .inr ⟨rfl, upd_same⟩⟩
              obtain ⟨BkL, b1, b2⟩ := bL
              have fL : Frm X.K vs0 BkL (upd Hs1 p (.frz od (.dK kvs))) (upd H p (.frz od (.dK kvs))) σ (e.set i (some (.dct kd, fl.leak))) :=
                f1.swap (p := p) (kvs := kvs) s1 (.inl u1) s3 (fun a ne => upd_ne ne) (upd_same.trans upd_same.symm) b1 (b2.elim (fun z => .inl z.2) fun z => .inr (z.2.trans upd_same.symm))
              refine lcJ (W := W) (Q := fun v H' => H' p = some (.frz od (.dK kvs)) ∧ Q v (upd H' p (.dK kvs))) (it_keys upd_same (Rpk.swap s1 (.inl u1) s3 _ _ r2)) fL hL hno hlc fun v Hs2 H2 gL t2 => ?_
              obtain ⟨f2, q2, rfl, ⟨xs, oq, rq⟩, sq, bq⟩ := t2
              have hs2 : Hs2 p = some (.frz od (.dK kvs)) := gL.1 _ _ upd_same
              have nqp : q2 ≠ p := by rintro rfl; rw [hs2] at sq; cases sq
              have f2' : Frm X.K vs0 BkL Hs2 H2 σ _ := f2.weak (ext_same fun a m => by cases List.mem_singleton.mp m; exact bq)
              have hh2 : H2 p = some (.frz od (.dK kvs)) := f2'.sb _ _ hs2
              have bq' : Bk q2 = none := by rw [← b1 q2 nqp]; exact bq
              refine ⟨hh2, h (.ref q2) (upd Hs2 p (.dK kvs)) (upd H2 p (.dK kvs)) (g1.trans ⟨fun a o q => ?_, fun a n1 n2 => ?_⟩) ⟨?_, q2, rfl, ⟨xs, by rw [upd_ne nqp]; exact oq, Rps.swap (fun a ne => upd_ne ne) (.inr ⟨od, hs2⟩) (.inl upd_same) _ _ rq⟩, by rw [upd_ne nqp]; exact sq, bq'⟩⟩
              · by_cases ne : a = p
                · subst ne
                  rw [u1] at q
                  cases q
                  exact upd_same
                · rw [upd_ne ne]
                  exact gL.1 a o (by rw [upd_ne ne]; exact q)
              · have ne : a ≠ p := by rintro rfl; rw [u1] at n1; cases n1
                rw [upd_ne ne] at n2
                rw [← b1 a ne]
                exact gL.2 a (by rw [upd_ne ne]; exact n1) n2
              · refine f2.swap (p := p) (kvs := kvs) (fun a ne => upd_ne ne) (.inr ⟨od, hs2⟩) (.inl upd_same) (fun a ne => upd_ne ne) (upd_same.trans upd_same.symm) (fun a ne => ?_) ?_
                · unfold ext
                  by_cases m : a ∈ ownA (.ow (.lst accF)) (.ref q2)
                  · rw [if_pos m, if_pos m, upd_ne ne]
                  · rw [if_neg m, if_neg m, b1 a ne]
                · have m : p ∉ ownA (.ow (.lst accF)) (.ref q2) := fun m => nqp (List.mem_singleton.mp m).symm
                  rw [ext_not m]
                  exact b2.elim (fun z => .inl z.1) fun z => .inr (z.1.trans upd_same.symm)
            · refine .inr ⟨.ref p, h1, p, o, rfl, .inl ⟨kvs, f1.sb _ _ u1, ?_⟩⟩
              exact lcJ (W := W) (it_keys u1 r2) f1 hL hno hlc fun v Hs2 H2 g2 t2 => h v Hs2 H2 (g1.trans g2) t2
          · cases q
        · exact h.elim
      · exact h.elim
    · cases q0
theorem set_fin {jt : Nat} {f : Sem} {vs0 : List V} {Bk Hs H : Hp} {σ : St} {e : En} {D : Ends} (fr : Frm X.K vs0 Bk Hs H σ e) (h : PostS X.K X.mg W vs0 Bk Hs D (sSet jt f e)) : PostE X.K X.mg W vs0 Bk Hs σ (fun v H1 => D.nx (σ.set jt (some v)) H1) (f e) := by
  unfold sSet at h
  cases q : f e with
  | no => rw [q] at h; exact h
  | ex x e1 => rw [q] at h; exact fun c dx Hs1 H1 g1 f1 r => h c dx σ Hs1 H1 g1 f1 r
  | ok t e1 =>
    rw [q] at h
    intro v Hs1 H1 g1 t1
    dsimp only at h
    split at h
    · exact h.elim
    · rename_i t' e2 q2
      split at h
      · exact h.elim
      · rename_i e3 q3
        obtain ⟨Hs2, g2, f2, ⟨n2, o2⟩, r2⟩ := take_ok t1.1 t1.2 q2
        have r2 := r2 fun _ m => m
        have f3 : Frm X.K vs0 (ext Bk H1 (ownA t' v ++ [])) Hs2 H1 σ e2 := by rw [List.append_nil, o2]; exact f2
        have f4 := store_ok1 f3 r2 (fun _ _ z => nomatch z) q3
        rw [ext_nil] at f4
        exact h _ Hs2 H1 (g1.trans (g2.weak (ext_same fun a m => (t1.2.own a m).1))) f4
theorem js_setLcD {i jt : Nat} {x y : Str} {px py spos : Pos} (hc : X.calm = true) (hNd : X.N.Nodup) (hy : X.N[jt]? = some y) (hyl : X.env.scope.names.lookup y = some .local)
    (hsw : swapsWith (.ListComp elt [⟨tg, .Name x px, ifs, 0⟩] scope pos) (some (.Name y py)) spos.line X.env = pure true) (hN : X.N[i]? = some x) (hv : Vis X.env.scope x) (hd : (x == ("__debug__" : Str)) = false := by decide) (hcd : (x == ("__classdict__" : Str)) = false := by decide)
    (ok : BlkOk X.N X.env.scope scope own) (hL : ∀ j ∈ L, j ∈ own.map (·.2))
    (hg : BlkJ X scope fun X => JG X tg L g) (ht : BlkJ X scope fun X => JT X ifs fc) (he : BlkJ X scope fun X => JE X NoX elt fe) (hs : ∀ y, foldedSetIterable (.Name x px) X.env y = pure y := by intro _; rfl) :
    JS X W (.Assign [.Name y py] (.ListComp elt [⟨tg, .Name x px, ifs, 0⟩] scope pos) spos) (sSet jt (sLc (own.map (·.2)) g (sItD i) fc fe)) := by
  have base := ps_setLc (elt := elt) (ifs := ifs) (scope := scope) (own := own) (g := TGt X.K L g) (tt := TB' X.K X.mg NoX fc) (te := TI' X.K X.mg NoX fe) hc hNd hy hyl hsw (pi_keys (tg := tg) (pe_var (pos := px) hN hv hd hcd)) ok hg ht he hs
  refine PS_imp (PS_or (ps_lock base) base) fun D σ H ⟨vs0, Bk, Hs, e, fr, h0⟩ => ?_
  have h : PostE X.K X.mg W vs0 Bk Hs σ (fun v H1 => D.nx (σ.set jt (some v)) H1) (sLc (own.map (·.2)) g (sItD i) fc fe e) := set_fin fr h0
  generalize hvs : own.map (·.2) = vs at h hL ⊢
  unfold sLc sItD at h
  split at h
  · exact h.elim
  · rename_i q
    split at q <;> cases q
  · rename_i ds e1 q0
    split at q0
    · rename_i kd e1' q
      cases q0
      split at h
      · rename_i hno
        split at h
        · rename_i accF e2 hlc
          have fr0 : Frm X.K vs0 (ext Bk H []) Hs H σ e := by rw [ext_nil]; exact fr
          have q : (match e[i]? with
            | some (some (d, f)) => some (Tm.im d, e.set i (some (d, f.leak)))
            | _ => none) = some (Tm.im (.dct kd), e1) := q
          split at q
          · rename_i d fl z
            cases q
            obtain ⟨Hs1, w, g1, f1, h1, h2⟩ := fr0.leak z
            rw [ext_nil] at g1 f1
            obtain ⟨p, kvs, rfl, r1, r2⟩ := h2
            rcases r1 with u1 | ⟨o, u1⟩
            · have hH : H p = some (.dK kvs) := f1.sb _ _ u1
              refine .inl ⟨p, .dK kvs, hH, trivial, fun od => ⟨.ref p, h1, p, od, rfl, .inl ⟨kvs, upd_same, ?_⟩⟩⟩
              have s3 : Rd (upd Hs1 p (.frz od (.dK kvs))) p (.dK kvs) := .inr ⟨od, upd_same⟩
              have s1 : ∀ a, a ≠ p → upd Hs1 p (.frz od (.dK kvs)) a = Hs1 a := fun a ne => upd_ne ne
              have bL : ∃ BkL : Hp, (∀ a, a ≠ p → BkL a = Bk a) ∧ (Bk p = none ∧ BkL p = none ∨ Bk p = some (.dK kvs) ∧ BkL p = some (.frz od (.dK kvs))) := by
                cases zb : Bk p with
                | none => exact ⟨Bk, fun _ _ => rfl, .inl ⟨rfl, zb⟩⟩
                | some ob =>
                  have := f1.bb _ _ zb
                  rw [hH] at this
                  cases this
                  exact ⟨upd Bk p (.frz od (.dK kvs)), fun a ne => upd_ne ne, .inr ⟨rfl, upd_same⟩⟩
              obtain ⟨BkL, b1, b2⟩ := bL
              have fL : Frm X.K vs0 BkL (upd Hs1 p (.frz od (.dK kvs))) (upd H p (.frz od (.dK kvs))) σ (e.set i (some (.dct kd, fl.leak))) :=
                f1.swap (p := p) (kvs := kvs) s1 (.inl u1) s3 (fun a ne => upd_ne ne) (upd_same.trans upd_same.symm) b1 (b2.elim (fun z => .inl z.2) fun z => .inr (z.2.trans upd_same.symm))
              refine lcJ (W := W) (Q := fun v H' => H' p = some (.frz od (.dK kvs)) ∧ D.nx (σ.set jt (some v)) (upd H' p (.dK kvs))) (it_keys upd_same (Rpk.swap s1 (.inl u1) s3 _ _ r2)) fL hL hno hlc fun v Hs2 H2 gL t2 => ?_
              obtain ⟨f2, q2, rfl, ⟨xs, oq, rq⟩, sq, bq⟩ := t2
              have hs2 : Hs2 p = some (.frz od (.dK kvs)) := gL.1 _ _ upd_same
              have nqp : q2 ≠ p := by rintro rfl; rw [hs2] at sq; cases sq
              have f2' : Frm X.K vs0 BkL Hs2 H2 σ _ := f2.weak (ext_same fun a m => by cases List.mem_singleton.mp m; exact bq)
              have hh2 : H2 p = some (.frz od (.dK kvs)) := f2'.sb _ _ hs2
              have bq' : Bk q2 = none := by rw [← b1 q2 nqp]; exact bq
              refine ⟨hh2, h (.ref q2) (upd Hs2 p (.dK kvs)) (upd H2 p (.dK kvs)) (g1.trans ⟨fun a o q => ?_, fun a n1 n2 => ?_⟩) ⟨?_, q2, rfl, ⟨xs, by rw [upd_ne nqp]; exact oq, Rps.swap (fun a ne => upd_ne ne) (.inr ⟨od, hs2⟩) (.inl upd_same) _ _ rq⟩, by rw [upd_ne nqp]; exact sq, bq'⟩⟩
              · by_cases ne : a = p
                · subst ne
                  rw [u1] at q
                  cases q
                  exact upd_same
                · rw [upd_ne ne]
                  exact gL.1 a o (by rw [upd_ne ne]; exact q)
              · have ne : a ≠ p := by rintro rfl; rw [u1] at n1; cases n1
                rw [upd_ne ne] at n2
                rw [← b1 a ne]
                exact gL.2 a (by rw [upd_ne ne]; exact n1) n2
              · refine f2.swap (p := p) (kvs := kvs) (fun a ne => upd_ne ne) (.inr ⟨od, hs2⟩) (.inl upd_same) (fun a ne => upd_ne ne) (upd_same.trans upd_same.symm) (fun a ne => ?_) ?_
                · unfold ext
                  by_cases m : a ∈ ownA (.ow (.lst accF)) (.ref q2)
                  · rw [if_pos m, if_pos m, upd_ne ne]
                  · rw [if_neg m, if_neg m, b1 a ne]
                · have m : p ∉ ownA (.ow (.lst accF)) (.ref q2) := fun m => nqp (List.mem_singleton.mp m).symm
                  rw [ext_not m]
                  exact b2.elim (fun z => .inl z.1) fun z => .inr (z.1.trans upd_same.symm)
            · refine .inr ⟨.ref p, h1, p, o, rfl, .inl ⟨kvs, f1.sb _ _ u1, ?_⟩⟩
              exact lcJ (W := W) (it_keys u1 r2) f1 hL hno hlc fun v Hs2 H2 g2 t2 => h v Hs2 H2 (g1.trans g2) t2
          · cases q
        · exact h.elim
      · exact h.elim
    · cases q0
end
end L2.Py
set_option maxRecDepth 100000
namespace L2.Py
open PySem PySem.Spec PyProof.Rows
def pick3 {α : Type} (xs : List α) (lo hi : Option Int) (st : Int) : List α :=
  (sliceRange (sliceBounds lo hi (some st) xs.length).1 (sliceBounds lo hi (some st) xs.length).2.1 (sliceBounds lo hi (some st) xs.length).2.2).filterMap fun (i : Nat) => xs[i]?
theorem vals_pick : ∀ {xs : List V} {us : List Value} (ns : List Nat), Vals xs us → Vals (ns.filterMap fun i => xs[i]?) (ns.filterMap fun i => us[i]?)
  | xs, us, [], _ => .nil
  | xs, us, n :: ns, r => by
    rw [List.filterMap_cons, List.filterMap_cons]
    cases q : xs[n]? with
    | none =>
      have : us[n]? = none := List.getElem?_eq_none (by rw [← r.length]; exact List.getElem?_eq_none_iff.mp q)
      rw [this]
      exact vals_pick ns r
    | some x =>
      obtain ⟨u, h1, h2⟩ := r.get q
      rw [h1]
      exact .cons h2 (vals_pick ns r)
theorem rps_pick {K : PySem.W.Frag} {H : Hp} {ds : List D} {xs : List V} (r : Rps K H ds xs) : ∀ (ns : List Nat), Rps K H (ns.filterMap fun i => ds[i]?) (ns.filterMap fun i => xs[i]?)
  | [] => rfl
  | n :: ns => by
    rw [List.filterMap_cons, List.filterMap_cons]
    cases q : ds[n]? with
    | none =>
      have : xs[n]? = none := List.getElem?_eq_none (by rw [← rps_len r]; exact List.getElem?_eq_none_iff.mp q)
      rw [this]
      exact rps_pick r ns
    | some d =>
      obtain ⟨x, h1, h2⟩ := rps_get r q
      rw [h1]
      exact ⟨_, _, rfl, h2, rps_pick r ns⟩
theorem pick3_vals {xs : List V} {its : List Value} (r : Vals xs its) (lo hi : Option Int) (st : Int) : Vals (pick3 xs lo hi st) (slicePick its.toArray lo hi (some st)).toList := by
  unfold pick3 slicePick
  have h := vals_pick (sliceRange (sliceBounds lo hi (some st) its.length).1 (sliceBounds lo hi (some st) its.length).2.1 (sliceBounds lo hi (some st) its.length).2.2) r
  rw [r.length, List.size_toArray]
  have e : (fun i : Nat => its.toArray[i]?) = fun i => its[i]? := by funext i; simp
  rw [e]
  exact h
theorem pick3_rps {K : PySem.W.Frag} {H : Hp} {ds : List D} {xs : List V} (r : Rps K H ds xs) (lo hi : Option Int) (st : Int) : Rps K H (pick3 ds lo hi st) (pick3 xs lo hi st) := by
  unfold pick3
  rw [rps_len r]
  exact rps_pick r _
section
variable {X : Cx} {W : WX} {fa : Sem} {pos : Pos}
def tSl3 (K : PySem.W.Frag) (te : TE) (tl th ts : TO) : TE := fun σ H Q => te σ H fun x H1 => tl σ H1 fun l H2 => th σ H2 fun u H3 => ts σ H3 fun o H4 => ∃ a xs st, x = .ref a ∧ SqL K H4 a xs ∧ o = some st ∧ st ≠ 0 ∧ ∀ p, H4 p = none → Q (.ref p) (upd H4 p (.lst (pick3 xs l u st)))
theorem pe_slice3 {e : Expr} {lo hi st : Option Expr} {te : TE} {tl th ts : TO} {p2 : Pos} (he : PE X e te) (hl : PO X lo tl) (hu : PO X hi th) (hs : PO X st ts) (hne : st ≠ none) : PE X (.Subscript e (.Slice lo hi st p2) pos) (tSl3 X.K te tl th ts) := by
  obtain ⟨se, rfl⟩ := Option.ne_none_iff_exists'.mp hne
  refine ⟨fun pins s σ H Q I h => ?_⟩
  refine Subscript_ (thn (he.run pins s σ H _ I h) fun v s1 ⟨x, H1, I1, r1, q1⟩ => ?_)
  refine wpAny_Slice (thn (hl.run pins s1 σ H1 _ I1 q1) fun vl s2 ⟨l, H2, I2, pl, q2⟩ => thn (hu.run pins s2 σ H2 _ I2 q2) fun vu s3 ⟨u, H3, I3, pu, q3⟩ => thn (hs.run pins s3 σ H3 _ I3 q3) fun vs s4 ⟨o, H4, I4, ps, q4⟩ => ?_)
  obtain ⟨a, xs, stp, ex, hx, eo, h0, q⟩ := q4
  subst ex
  subst eo
  cases r1
  have I5 : Inv X pins σ H4 { s4 with heap := s4.heap.push { cls := .type "slice", data := .fields #[vl, vu, vs] } } := I4.kept (t' := s4.toks) fun b ob q => Heap.get?_push_of_some _ q
  obtain ⟨its, r, ht, hz⟩ := I5.list hx
  have hlen := r.length
  show wpAny (model X.prog X.w) X.A (subscriptTail e (.Slice lo hi (some se) p2) (.ref a) (.ref s4.heap.objs.size)) (EP X pins σ Q) X.xe { s4 with heap := s4.heap.push { cls := .type "slice", data := .fields #[vl, vu, vs] } }
  refine tail_any (ops := [.ref a, .ref s4.heap.objs.size]) ht.isList.typeIs (PySem.slot_list_getitem.lookup) ?_ (by with_unfolding_all rfl)
  refine wpAny_getItem_list_slice ht.isList (Heap.IsSliceOf.new _ vl vu vs) pl pu ps (fun z => h0 (Option.some.inj z)) ?_ (by rw [List.size_toArray]; omega)
  have rv := pick3_vals r l u stp
  refine ⟨.ref _, _, I5.laid (t' := s4.toks) (o := .lst (pick3 xs l u stp)) (fun b ob q => Heap.get?_push_of_some _ q) (Nat.le_refl _) ?_, rfl, q _ (I5.hok.fresh (Nat.le_refl _))⟩
  refine ⟨?_, _, 0, rv, Heap.get?_push_size _ rfl⟩
  have h1 := slicePick_size_le its.toArray l u (some stp)
  have h2 : (pick3 xs l u stp).length = (slicePick its.toArray l u (some stp)).size := rv.length
  have h3 : its.toArray.size = its.length := List.size_toArray
  rw [h2]
  omega
def gSl3 (lo hi : Option Int) (st : Int) : D → Option Tm
  | .lst ds => if st ≠ 0 then some (.ow (.lst (pick3 ds lo hi st))) else none
  | _ => none
def sSlc3 (f : Sem) (lo hi : Option Sem) (st : Sem) : Sem := fun e => match f e with
  | .no => .no
  | .ex x e1 => .ex x e1
  | .ok t e1 => match sPart lo e1 with
    | .no => .no
    | .ex x e2 => .ex x e2
    | .ok l e2 => match sPart hi e2 with
      | .no => .no
      | .ex x e3 => .ex x e3
      | .ok u e3 => match sPart (some st) e3 with
        | .no => .no
        | .ex x e4 => .ex x e4
        | .ok none _ => .no
        | .ok (some c) e4 => match t.get e4 with
          | none => .no
          | some d => match gSl3 l u c d with
            | none => .no
            | some t' => .ok t' e4
theorem je_slice3 {a se : Expr} {lo hi : Option Expr} {fl fh : Option Sem} {fs : Sem} {p2 : Pos} (ha : JE X W a fa) (hl : PoOk X W lo fl) (hh : PoOk X W hi fh) (hs : JE X W se fs) : JE X W (.Subscript a (.Slice lo hi (some se) p2) pos) (sSlc3 fa fl fh fs) := by
  obtain ⟨tl, pl, kl⟩ := hl.po
  obtain ⟨th, ph, kh⟩ := hh.po
  obtain ⟨ts, ps, ks⟩ := (po_so hs).po
  refine PE_imp (pe_slice3 ha pl ph ps (by simp)) fun σ H Q ⟨vs0, Bk, Hs, e, fr, h⟩ => ⟨vs0, Bk, Hs, e, fr, ?_⟩
  unfold sSlc3 at h
  cases q : fa e with
  | no => rw [q] at h; exact h
  | ex x e1 => rw [q] at h; exact h
  | ok t e1 =>
    rw [q] at h
    intro v Hs1 H1 g1 t1
    have es := ext_same (H := H1) fun a m => (t1.2.own a m).1
    dsimp only at h
    refine part_fin kl t1.1 ?_
    cases q2 : sPart fl e1 with
    | no => rw [q2] at h; exact h
    | ex x e2 => rw [q2] at h; exact fun c dx Hs2 H2 g2 f2 => h c dx Hs2 H2 (g1.trans (g2.weak es)) (f2.weak es)
    | ok l e2 =>
      rw [q2] at h
      intro Hs2 H2 g2 f2
      dsimp only at h
      refine part_fin kh f2 ?_
      cases q3 : sPart fh e2 with
      | no => rw [q3] at h; exact h
      | ex x e3 => rw [q3] at h; exact fun c dx Hs3 H3 g3 f3 => h c dx Hs3 H3 (g1.trans ((g2.trans g3).weak es)) (f3.weak es)
      | ok hh e3 =>
        rw [q3] at h
        intro Hs3 H3 g3 f3
        dsimp only at h
        refine part_fin ks f3 ?_
        cases q4 : sPart (some fs) e3 with
        | no => rw [q4] at h; exact h
        | ex x e4 => rw [q4] at h; exact fun c dx Hs4 H4 g4 f4 => h c dx Hs4 H4 (g1.trans (((g2.trans g3).trans g4).weak es)) (f4.weak es)
        | ok o e4 =>
          rw [q4] at h
          intro Hs4 H4 g4 f4
          cases o with
          | none => exact h.elim
          | some c =>
            dsimp only at h
            split at h
            · exact h.elim
            · rename_i d hd
              split at h
              · exact h.elim
              · rename_i t' ht
                have gg := (g2.trans g3).trans g4
                have t2 := t1.2.later gg f4.bb
                unfold gSl3 at ht
                split at ht
                · split at ht
                  · rename_i h0
                    cases ht
                    obtain ⟨p, xs, rfl, a1, a2⟩ := rd1_lst f4.sb (t2.rd f4 hd)
                    refine ⟨_, _, c, rfl, .inl (.inl a1), rfl, h0, fun z hz => ?_⟩
                    have n := new_lst f4.sb (pick3_rps a2 l hh c) hz
                    obtain ⟨b1, b2⟩ := n.tmp f4 es
                    exact h _ _ _ ((g1.trans (gg.weak es)).trans b2) b1
                  · cases ht
                · cases ht
end
end L2.Py
set_option maxRecDepth 100000
namespace L2.Py
open PySem PySem.Spec PyProof.Rows
section
variable {X : Cx} {W : WX} {K : PySem.W.Frag} {a : Expr} {fa : Sem} {fl : SemL} {apos cpos pos p : Pos} {x : Str}
def mPopAt : D → List D → Option (Tm × D)
  | .lst ds, [.int i] => if -(2 ^ 63) ≤ i ∧ i < 2 ^ 63 then match seqIndex? i ds.length with
    | none => none
    | some k => match ds[k]? with
      | none => none
      | some d => some (.im d, .lst (ds.eraseIdx k)) else none
  | _, _ => none
theorem rps_erase {H : Hp} : ∀ {ds : List D} {xs : List V} (k : Nat), Rps K H ds xs → Rps K H (ds.eraseIdx k) (xs.eraseIdx k)
  | [], xs, k, h => by
    have h : xs = [] := h
    subst h
    exact rfl
  | d :: ds, xs, 0, h => by
    obtain ⟨v, r, rfl, h1, h2⟩ := h
    exact h2
  | d :: ds, xs, k + 1, h => by
    obtain ⟨v, r, rfl, h1, h2⟩ := h
    exact ⟨v, _, rfl, h1, rps_erase k h2⟩
theorem mu_popAt : MutOk K mPopAt rPopAt := by
  intro Hs H p vs d ds t d' Q sb np ow rs q k
  unfold mPopAt at q
  split at q
  · rename_i ds i
    split at q
    · rename_i hi
      split at q
      · cases q
      · rename_i j hj
        split at q
        · cases q
        · rename_i c hc
          cases q
          obtain ⟨xs, h1, h2⟩ := ow
          obtain ⟨v, r, rfl, r1, rfl⟩ := rs
          cases (show v = .int i from r1)
          obtain ⟨y, y1, y2⟩ := rps_get h2 hc
          exact ⟨p, xs, i, j, y, rfl, rfl, h1, hi.1, hi.2, by rw [rps_len_le h2]; exact hj, y1, k _ _ ⟨_, upd_same, rps_erase j h2⟩ ⟨_, rfl, y2⟩⟩
    · cases q
  · cases q
theorem je_popAt {i : Nat} (ho : JE X W (.Name x p) (sV i)) (ha : JE X W a fa) (hbase : attributeBase (.Name x p) "pop" X.env (eval (.Name x p) X.env) = eval (.Name x p) X.env := by rfl)
    (hfew : ((backTo cpos (starEach [a] X.env)).all (fun x => !x.1) && (backToKw cpos (keywordEach [] X.env)).all (fun x => x.1.isSome)
      && decide ([a].length + ([] : List Keyword).length + (if ([] : List Keyword).isEmpty then 0 else 1) < 30)) = true := by rfl)
    (hline : (apos.endLine == cpos.line) = true := by rfl) (hs : starEach [a] X.env = (false, eval a X.env) :: starEach [] X.env := by rfl) (hplain : (backTo cpos (starEach [] X.env)).any (·.1) = false := by rfl) :
    JE X W (.Call (.Attribute (.Name x p) "pop" apos) [a] [] cpos) (sMutL i (sCons fa sNil) mPopAt) :=
  je_mut mu_popAt mt_popAt PySem.F.slot_list_pop PySem.F.type_list_pop ho (ja_cons ha ja_nil hs) hbase hfew hline hs hplain
def gCntL : List D → Option Tm
  | [.lst l, .int k] => match intsOf l with
    | some ns => some (.im (.int ((ns.count k : Nat) : Int)))
    | none => none
  | _ => none
theorem pr_cntL : PureOk K gCntL (fun vs H Q => ∃ v w, vs = [v, w] ∧ rCntI K v [w] H Q) := by
  intro Hs H vs ds t Q sb rd q k
  unfold gCntL at q
  split at q
  · rename_i l kk
    split at q
    · rename_i ns hn
      cases q
      obtain ⟨v, w, rfl, h1, h2⟩ := rds2 rd
      obtain ⟨p, xs, rfl, a1, a2⟩ := rd1_lst sb h1
      cases rd1_int h2
      have := rps_ints a2 hn
      subst this
      exact ⟨_, _, rfl, p, ns, kk, rfl, rfl, .inl (.inl a1), k _ _ Hs (new_int sb)⟩
    · cases q
  · cases q
def sCnt (f g : Sem) : Sem := fun e => match f e with
  | .no => .no
  | .ex x e1 => .ex x e1
  | .ok t e1 => match t.get e1 with
    | some (.lst _) => match g e1 with
      | .no => .no
      | .ex x e2 => .ex x e2
      | .ok u e2 => match t.get e2, u.get e2 with
        | some d, some k => match gCntL [d, k] with
          | some r => .ok r e2
          | none => .no
        | _, _ => .no
    | _ => .no
theorem je_cnt {o : Expr} {fo : Sem} (ho : JE X W o fo) (ha : JE X W a fa) (hbase : attributeBase o "count" X.env (eval o X.env) = eval o X.env := by rfl)
    (hfew : ((backTo cpos (starEach [a] X.env)).all (fun x => !x.1) && (backToKw cpos (keywordEach [] X.env)).all (fun x => x.1.isSome)
      && decide ([a].length + ([] : List Keyword).length + (if ([] : List Keyword).isEmpty then 0 else 1) < 30)) = true := by rfl)
    (hline : (apos.endLine == cpos.line) = true := by rfl) (hs : starEach [a] X.env = (false, eval a X.env) :: starEach [] X.env := by rfl) (hplain : (backTo cpos (starEach [] X.env)).any (·.1) = false := by rfl) :
    JE X W (.Call (.Attribute o "count" apos) [a] [] cpos) (sCnt fo fa) :=
  PE_imp (pe_bm PySem.F.plainAttrs_list PySem.F.slot_list_count PySem.F.type_list_count mt_lcount ho (ja_cons ha ja_nil hs) hbase hfew hline hs hplain) fun σ H Q ⟨vs0, Bk, Hs, e, fr, h⟩ => by
    refine ⟨vs0, Bk, Hs, e, fr, ?_⟩
    unfold sCnt at h
    cases q : fo e with
    | no => rw [q] at h; exact h
    | ex x e1 => rw [q] at h; exact h
    | ok t e1 =>
      rw [q] at h
      intro v Hs1 H1 g1 t1
      have es := ext_same (H := H1) fun a m => (t1.2.own a m).1
      dsimp only at h
      split at h
      · rename_i l hl
        have hty : tyV X.K "list" v H1 := by
          obtain ⟨p, xs, rfl, a1, _⟩ := rd1_lst t1.1.sb (t1.2.rd t1.1 hl)
          exact .inl ⟨rfl, xs, .inl (.inl a1)⟩
        refine ⟨hty, vs0, _, Hs1, e1, t1.1, ?_⟩
        unfold sCons
        cases q2 : fa e1 with
        | no => rw [q2] at h; exact h
        | ex x e2 => rw [q2] at h; exact fun c dx Hs2 H2 g2 f2 => h c dx Hs2 H2 (g1.trans (g2.weak es)) (f2.weak es)
        | ok u e2 =>
          rw [q2] at h
          dsimp only at h
          split at h
          · rename_i d k hd hk
            split at h
            · rename_i r hr
              show PostL _ _ _ _ _ _ _ _ (R.ok [u] e2)
              intro vs Hs2 H2 g2 t2
              obtain ⟨w, r', rfl, w1, w2⟩ := t2.r
              have w2 : r' = [] := w2
              subst w2
              have f2 := t2.frm
              have t3 := t1.2.later g2 f2.bb
              obtain ⟨v', w', ev, hq⟩ := pr_cntL (K := X.K) Hs2 H2 [v, w] [d, k] r Q f2.sb ⟨v, [w], rfl, t3.rd f2 hd, w, [], rfl, w1.rd f2 hk, rfl⟩ hr fun z H4 Hs4 n => by
                obtain ⟨a1, a2⟩ := n.tmp f2 es
                exact h z Hs4 H4 ((g1.trans (g2.weak es)).trans a2) a1
              cases ev
              exact hq
            · exact h.elim
          · exact h.elim
      · exact h.elim
def rgD (a b : Int) : List D := (List.range (b - a).toNat).map fun (i : Nat) => D.int (a + (i : Int))
theorem rps_rg {H : Hp} (a b : Int) : Rps K H (rgD a b) (rgV a b) := by
  unfold rgD rgV
  induction List.range (b - a).toNat with
  | nil => exact rfl
  | cons i l ih => exact ⟨_, _, rfl, rfl, ih⟩
def okRg (a b : Int) : Bool := decide (-(2 ^ 62) ≤ a ∧ a < 2 ^ 62 ∧ -(2 ^ 62) ≤ b ∧ b < 2 ^ 62 ∧ (b - a).toNat ≤ 2 ^ 24)
def gLRg : List D → Option Tm
  | [.int j] => if okRg 0 j then some (.ow (.lst (rgD 0 j))) else none
  | [.int i, .int j] => if okRg i j then some (.ow (.lst (rgD i j))) else none
  | _ => none
def rLRg : List V → Hp → VK → Prop := fun vs H Q => (∃ j, vs = [.int j] ∧ RgOk 0 j ∧ ∀ q, H q = none → Q (.ref q) (upd H q (.lst (rgV 0 j)))) ∨ ∃ i j, vs = [.int i, .int j] ∧ RgOk i j ∧ ∀ q, H q = none → Q (.ref q) (upd H q (.lst (rgV i j)))
theorem pr_lrg : PureOk K gLRg rLRg := by
  intro Hs H vs ds t Q sb rd q k
  unfold gLRg at q
  split at q
  · split at q
    · rename_i j ho
      cases q
      obtain ⟨v, rfl, h1⟩ := rds1 rd
      cases rd1_int h1
      exact .inl ⟨j, rfl, (by unfold okRg at ho; have z := of_decide_eq_true ho; exact z), fun z hz => k _ _ _ (new_lst sb (rps_rg 0 j) hz)⟩
    · cases q
  · split at q
    · rename_i i j ho
      cases q
      obtain ⟨v, w, rfl, h1, h2⟩ := rds2 rd
      cases rd1_int h1
      cases rd1_int h2
      exact .inr ⟨i, j, rfl, (by unfold okRg at ho; have z := of_decide_eq_true ho; exact z), fun z hz => k _ _ _ (new_lst sb (rps_rg i j) hz)⟩
    · cases q
  · cases q
theorem je_lrg1 {p2 pos2 : Pos} (hc : X.calm = true) (hg : Gl X "list") (hm : X.mg "list" = none) (hg2 : Gl X "range") (hm2 : X.mg "range" = none) (ha : JE X W a fa) (na : starEach [a] X.env = (false, eval a X.env) :: starEach [] X.env := by rfl)
    (ne : starEach [.Call (.Name "range" p2) [a] [] pos2] X.env = (false, eval (.Call (.Name "range" p2) [a] [] pos2) X.env) :: starEach [] X.env := by rfl) :
    JE X W (.Call (.Name "list" p) [.Call (.Name "range" p2) [a] [] pos2] [] pos) (sOp gLRg (sCons fa sNil)) :=
  PE_imp (pe_listRg hc hg hm (prg_1 hg2 hm2 ha na) ne) fun σ H Q ⟨vs0, Bk, Hs, e, fr, h⟩ => by
    have z := op_fin pr_lrg fr h
    refine ⟨vs0, Bk, Hs, e, fr, ?_⟩
    unfold sCons at z
    cases q : fa e with
    | no => rw [q] at z; exact z
    | ex x e1 => rw [q] at z; exact z
    | ok t e1 =>
      rw [q] at z
      intro v Hs1 H1 g1 t1
      have z2 := z [v] Hs1 H1 g1 ⟨by
        have : ownAs [t] [v] = ownA t v := List.append_nil _
        rw [this]
        exact t1.1, ⟨v, [], rfl, t1.2, rfl⟩, by
        have : ownAs [t] [v] = ownA t v := List.append_nil _
        rw [this]
        cases t with
        | ow d => cases v <;> simp [ownA]
        | _ => simp [ownA]⟩
      rcases z2 with ⟨j, hj, z3, z4⟩ | ⟨i, j, hj, _⟩
      · cases hj
        exact ⟨j, rfl, z3, z4⟩
      · cases hj
end
end L2.Py
set_option maxRecDepth 100000
namespace L2.Py
open PySem PySem.Spec PyProof.Rows PySem.Calls
section
variable {prog : Program} {w : World} {A : Around} {E : Value → Shared → Prop} {s : Shared}
theorem gather_tup {p : Addr} {us : List Value} {Q : List Value → Shared → Prop} (ht : s.heap.IsTuple p us.toArray) (hz : us.length ≤ sizeLine)
    (k : Q us { s with heap := (s.heap.push (seqObj "list" #[] 0)).update s.heap.objs.size (Obj.mapSeq (· ++ us.toArray)) }) : wpAny (model prog w) A (collect (.ref p)) Q E s := by
  obtain ⟨ob, e1, e2, m, e3⟩ := id ht
  have e1' : (s.heap.push (seqObj "list" #[] 0)).get? p = some ob := Heap.get?_push_of_some _ e1
  unfold collect
  apply wpAny_bind; apply wpAny_runValue; apply codeAny_builtin entry_proto_collect'
  show wpAny _ _ (do again (.builtin "list.__iadd__" ⟨[← newList [], .ref p], []⟩)) _ _ s
  apply wpAny_bind; refine wpAny_newList (wpAny_pure ?_) (by simp)
  refine ⟨Code.quiet_builtin _ (by decide +kernel), ?_⟩
  apply codeAny_builtin entry_list_iadd'
  show wpAny _ _ (Builtin.List.listExtendWith (.ref s.heap.objs.size) (.ref p) (.ref s.heap.objs.size)) _ _ { s with heap := s.heap.push (seqObj "list" #[] 0) }
  unfold Builtin.List.listExtendWith
  refine wpAny_bind (wpAny_typeOf (T := "tuple") ⟨ob, e1', e2⟩ ?_)
  have tt : (Value.type "tuple" == Value.type "tuple") = true := rfl
  rw [if_pos (by simp [tt])]
  apply wpAny_bind; apply listItems_at e1' e3
  apply wpAny_bind; apply listItems_at (xs := #[]) (n := 0) (Heap.get?_push_size _ rfl) rfl
  rw [if_neg (by simp)]
  apply wpAny_bind
  refine listUpdate_at (xs := #[]) (n := 0) (Heap.get?_push_size _ rfl) rfl ?_ (Nat.zero_le _) (by
    show (#[] ++ us.toArray).size ≤ sizeLine + 1
    simp
    omega)
  apply wpAny_pure
  show wpAny (model prog w) A (do
      let o ← load s.heap.objs.size
      match o.data with
      | .seq xs _ => pure xs.toList
      | _ => unsupported "internal:collect") Q E { s with heap := (s.heap.push (seqObj "list" #[] 0)).update s.heap.objs.size (Obj.mapSeq (· ++ us.toArray)) }
  apply wpAny_bind; apply wpAny_load (get?_update_seq (Heap.get?_push_size _ rfl) _)
  show wpAny _ _ (pure ((#[] : Array Value) ++ us.toArray).toList) Q E _
  have : ((#[] : Array Value) ++ us.toArray).toList = us := by simp
  rw [this]
  exact wpAny_pure k
open PySem.W in
theorem sort_of_tup {p : Addr} {us : List Value} {Q : Value → Shared → Prop} (ht : s.heap.IsTuple p us.toArray) (hz : us.length ≤ sizeLine)
    (body : ∀ E' : Value → Shared → Prop, wpAny (model prog w) A.in1.in1 (Builtin.«list.sort» ⟨[.ref (s.heap.objs.size + 1)], []⟩) (fun f s' => f = .done (.ret .none) ∧ Q (.ref (s.heap.objs.size + 1)) s') E' { s with heap := copyHeap s.heap us }) :
    wpAny (model prog w) A (call (.builtin "sorted") [.ref p]) Q E s := by
  apply call_function_entry_kw kind_sorted plain_sorted entry_sorted (args_sorted1 _)
  unfold Builtin.«sorted»
  apply wpAny_bind (m := checkCount "sorted" 1 1 _); apply wpAny_pure
  apply wpAny_bind; apply gather_tup ht hz
  apply wpAny_bind; refine wpAny_newList ?_ hz
  have sz : ((s.heap.push (seqObj "list" #[] 0)).update s.heap.objs.size (Obj.mapSeq (· ++ us.toArray))).objs.size = s.heap.objs.size + 1 := by rw [Heap.size_update, size_push']
  show wpAny _ _ _ _ _ { s with heap := copyHeap s.heap us }
  rw [sz]
  apply wpAny_bind; apply wpAny_holding
  refine wpAny_call_entry_kw slot_list_sort ⟨_, copyHeap_at s.heap us, rfl⟩ entry_list_sort ?body (args_list_sort _)
  show wpAny (model prog w) A.in1.in1 (Builtin.«list.sort» ⟨[.ref (s.heap.objs.size + 1)], []⟩) _ _ _
  refine wpAny_mono (body _) (fun f s' ⟨ef, hq⟩ => ?_) fun _ _ z => z
  subst ef
  exact ⟨_, rfl, wpAny_pure ⟨_, rfl, hq⟩⟩
open PySem.W in
theorem sorted_tup_data {p : Addr} {us : List Value} {β : Type} {bs : List β} {enc : β → PyData} {R : Value → β → Prop} {Q : Value → Shared → Prop} (ht : s.heap.IsTuple p us.toArray) (e : EachIs R us bs) (er : EachIs (fun v b => ∃ as, Reads s.heap v (enc b) as) us bs) (hal : AllAlike (bs.map enc)) (hk : Sortable (bs.map enc))
    (hL : bs.length ≤ sizeLine) (hu : ∀ b, b ∈ bs → A.units + 2 + (enc b).depth < cLine) (h : ∀ out, out.length = bs.length → EachIs R out (bs.mergeSort (dataLe false enc)) → Q (.ref (s.heap.objs.size + 1)) { s with heap := sortedAll s.heap us (List.toArray out) }) :
    wpAny (model prog w) A (call (.builtin "sorted") [.ref p]) Q E s := by
  have hl : us.length ≤ sizeLine := by rw [e.length]; exact hL
  have er' : EachIs (fun v b => ∃ as, Reads (sortingHeap (copyHeap s.heap us) (s.heap.objs.size + 1) us) v (enc b) as) us bs :=
    er.mono fun _ _ ⟨as, r⟩ => ⟨as, PyProof.Rows.Reads.keeps (fun _ _ => sorting_copy_old) r⟩
  have S := SortsAt.data (prog := prog) (w := w) (A := A.in1.in1) (s := { s with heap := sortingHeap (copyHeap s.heap us) (s.heap.objs.size + 1) us })
    (each_map (R := fun v d => ∃ as, Reads (sortingHeap (copyHeap s.heap us) (s.heap.objs.size + 1) us) v d as) enc er') hal hk (bound_map hu)
  refine sort_of_tup ht hl fun _ => list_sort_vals (s := { s with heap := copyHeap s.heap us }) (copyHeap_at s.heap us) S hl ⟨rfl, ?_⟩
  exact h _ (by rw [sortVals_length false rfl]; exact e.length) (sortVals_data false e er' hal)
end
def rSortedDT (K : PySem.W.Frag) : List V → Hp → VK → Prop := fun vs H Q => ∃ (a : Addr) (xs : List V) (ds : List D) (Hs : Hp), vs = [V.ref a] ∧ SqT K H a xs ∧ Rps K Hs ds xs ∧ Same Hs H ∧ okSort ds = true ∧
  ∀ (ys : List V) (p : Addr), Rps K Hs (dsort ds) ys → H p = none → Q (.ref p) (upd H p (.lst ys))
section
variable {X : Cx} {K : PySem.W.Frag} {a : Expr} {es : List Expr} {fl : SemL} {pos p : Pos}
theorem cr_sortedDT (hu : X.A.units + 64 < cLine) : CallR X (.builtin "sorted") (rSortedDT X.K) := by
  intro pins s σ H vs us Q I r h
  obtain ⟨a, xs, ds, Hs, rfl, hs, hr, sb, ho, q⟩ := h
  obtain ⟨its, rv, hl, hz⟩ := I.tuple hs
  rw [Vals.ref1 r]
  unfold okSort at ho
  simp only [Bool.and_eq_true, Bool.or_eq_true, List.all_eq_true, decide_eq_true_eq] at ho
  obtain ⟨⟨⟨o1, o2⟩, o3⟩, o4⟩ := ho
  have e := each_in hr rv
  refine sorted_tup_data hl e (each_rd I sb (isPs_mem o1) e) ?_ ?_ (by rw [rps_len hr]; exact hz) (fun b hb => ?_) fun out h1 h2 => ?_
  · intro d hd d' hd'
    obtain ⟨b, hb, rfl⟩ := List.mem_map.mp hd
    obtain ⟨b', hb', rfl⟩ := List.mem_map.mp hd'
    exact o2 b hb b' hb'
  · rcases o3 with o3 | o3
    · refine .inl fun d hd => ?_
      obtain ⟨b, hb, rfl⟩ := List.mem_map.mp hd
      have := o3 b hb
      unfold tupB at this
      split at this
      · exact ⟨_, _, rfl⟩
      · cases this
    · refine .inr fun d hd => ?_
      obtain ⟨b, hb, rfl⟩ := List.mem_map.mp hd
      have := o3 b hb
      unfold atB at this
      split at this
      · exact ⟨(fun h => nomatch h), (fun _ h => nomatch h)⟩
      · exact ⟨(fun h => nomatch h), (fun _ h => nomatch h)⟩
      · exact ⟨(fun h => nomatch h), (fun _ h => nomatch h)⟩
      · exact ⟨(fun h => nomatch h), (fun _ h => nomatch h)⟩
      · cases this
  · have := o4 b hb
    omega
  · obtain ⟨ys, k1, k2⟩ := each_out h2
    obtain ⟨ep, he'⟩ := PyProof.Rows.sortedAll_at s.heap its out.toArray
    have hlen : ys.length ≤ sizeLine := by
      rw [← rps_len k1, List.length_mergeSort, rps_len hr]
      exact hz
    exact ⟨.ref _, upd H (s.heap.objs.size + 1) (.lst ys), I.laid (t' := s.toks) (fun _ _ => PyProof.Rows.sortedAll_old) (Nat.le_succ _) ⟨hlen, out, ep, k2, he'⟩, rfl, q _ _ k1 (I.hok.fresh (Nat.le_succ _))⟩
def gSortedB (ds : List D) : Option Tm := match gSortedA ds with
  | some t => some t
  | none => match ds with
    | [.tup l] => if okSort l then some (.ow (.lst (dsort l))) else none
    | _ => none
theorem pr_sortedB : PureOk K gSortedB (fun xs H Q => (rSortedI K xs H Q ∨ rSortedD K xs H Q) ∨ rSortedDT K xs H Q) := by
  intro Hs H vs ds t Q sb rd q k
  unfold gSortedB at q
  split at q
  · rename_i hq
    cases q
    exact .inl (pr_sortedA Hs H vs _ _ Q sb rd hq k)
  · split at q
    · rename_i l hn
      split at q
      · rename_i ho
        cases q
        obtain ⟨v, rfl, h1⟩ := rds1 rd
        obtain ⟨p, xs, rfl, a1, a2⟩ := rd1_tup sb h1
        exact .inr ⟨p, xs, l, Hs, rfl, a1, a2, sb, ho, fun ys z hr hz => k _ _ _ (new_lst sb hr hz)⟩
      · cases q
    · cases q
theorem jc_sortedB {W : WX} (hu : X.A.units + 64 < cLine) (hg : Gl X "sorted") (hm : X.mg "sorted" = none) (ha : JA X W (a :: es) fl) (hs : starEach (a :: es) X.env = (false, eval a X.env) :: starEach es X.env := by rfl) (hpl : (backTo pos (starEach es X.env)).any (·.1) = false := by rfl) :
    JE X W (.Call (.Name "sorted" p) (a :: es) [] pos) (sOp gSortedB fl) := je_callB ((cr_sortedI.or (cr_sortedD hu)).or (cr_sortedDT hu)) pr_sortedB hg hm (by decide +kernel) ha (by decide) (by decide) hs hpl
end
end L2.Py
set_option maxRecDepth 10000
namespace L2.Py
open PySem PySem.Spec PyProof.Rows
def sChE (fa fb fc : Sem) : Sem := fun e => match s2 fa fb e with
  | .no => .no
  | .ex x e1 => .ex x e1
  | .ok [ta, tb] e1 => (match sPure gEq [ta, tb] e1 with
    | .ok (.im (.bl true)) e2 => (match tb with
      | .ow _ => .no
      | tb => (match fc e2 with
        | .no => .no
        | .ex x e3 => .ex x e3
        | .ok t e3 => sPure gEq [tb, t] e3))
    | .ok (.im (.bl false)) e2 => .ok (.im (.bl false)) e2
    | _ => .no)
  | .ok _ _ => .no
section
variable {K : PySem.W.Frag} {mg : Str → Option Value} {W : WX} {vs0 : List V} {Bk Hs H : Hp} {σ : St} {e : En} {fa fb fc : Sem}
theorem tmps_two {Hs3 H3 : Hp} {e3 : En} {tb t : Tm} {y w : V} (ho : ownA tb y = []) (rb : RpT K Bk Hs3 H3 σ tb y) (t3 : Tmp K vs0 Bk Hs3 H3 σ e3 t w) : Tmps K vs0 Bk Hs3 H3 σ e3 [tb, t] [y, w] := by
  have e1 : ownAs [tb, t] [y, w] = ownA t w := by
    show ownA tb y ++ (ownA t w ++ []) = _
    rw [ho, List.nil_append, List.append_nil]
  refine ⟨?_, ⟨y, [w], rfl, rb, w, [], rfl, t3.2, rfl⟩, ?_⟩
  · rw [e1]
    exact t3.1
  · rw [e1]
    cases t with
    | im d => exact .nil
    | sl i => exact .nil
    | ow d =>
      obtain ⟨p, rfl, _⟩ := t3.2
      exact List.nodup_cons.mpr ⟨by simp, .nil⟩
theorem che_fin {Q : VK} (h : TI' K mg W (sChE fa fb fc) σ H Q) : tChain (rEqAll K) (rEqAll K) (TI' K mg W fa) (TI' K mg W fb) (TI' K mg W fc) σ H Q := by
  obtain ⟨vs0, Bk, Hs, e, f, h⟩ := h
  have h1 : TL' K mg W (s2 fa fb) σ H (fun vs H1 => ∃ x y, vs = [x, y] ∧ rEqAll K x y H1 fun z H3 => ∃ k, z = .bl k ∧ (if k = true then TI' K mg W fc σ H3 fun w H4 => rEqAll K y w H4 Q else Q (.bl false) H3)) := by
    refine ⟨vs0, Bk, Hs, e, f, ?_⟩
    unfold sChE at h
    cases q : s2 fa fb e with
    | no => rw [q] at h; exact h
    | ex x e1 => rw [q] at h; exact h
    | ok ts e1 =>
      rw [q] at h
      intro vs Hs1 H1 g1 t1
      match ts, t1, h with
      | [ta, tb], t1, h =>
        dsimp only at h
        obtain ⟨x, _, rfl, ra, y, _, rfl, rb, rfl⟩ := t1.r
        refine ⟨x, y, rfl, ?_⟩
        have key := pure_fin (mg := mg) (W := W) (Q := fun z H3 => ∃ k, z = .bl k ∧ (if k = true then TI' K mg W fc σ H3 fun w H4 => rEqAll K y w H4 Q else Q (.bl false) H3)) pr_eq t1 (by
          cases q2 : sPure gEq [ta, tb] e1 with
          | no => rw [q2] at h; exact h.elim
          | ex x e2 => rw [q2] at h; exact h.elim
          | ok u e2 =>
            rw [q2] at h
            intro v Hs2 H2 g2 t2
            have h := h
            match u, t2, h with
            | .im (.bl true), t2, h =>
              dsimp only at h
              have ev : v = .bl true := t2.2
              refine ⟨true, ev, ?_⟩
              rw [if_pos rfl]
              have hno : ∀ (tb' : Tm), tb = tb' → ownA tb' y = [] → RpT K Bk Hs2 H2 σ tb' y → PostE K mg W vs0 Bk Hs σ Q (match fc e2 with
                  | .no => .no
                  | .ex x e3 => .ex x e3
                  | .ok t e3 => sPure gEq [tb', t] e3) → (∀ Hs3 H3, Grow Bk Hs2 Hs3 → RpT K Bk Hs3 H3 σ tb' y) → TI' K mg W fc σ H2 fun w H4 => rEqAll K y w H4 Q := fun tb' _ ho _ h hm => by
                have h := h.grow (g1.trans g2)
                refine ⟨vs0, Bk, Hs2, e2, t2.frm, ?_⟩
                cases q3 : fc e2 with
                | no => rw [q3] at h; exact h
                | ex x e3 => rw [q3] at h; exact h
                | ok t e3 =>
                  rw [q3] at h
                  intro w Hs3 H3 g3 t3
                  dsimp only at h
                  obtain ⟨y', w', ee, q4⟩ := pure_fin pr_eq (tmps_two ho (hm Hs3 H3 g3) t3) (h.grow g3)
                  cases ee
                  exact q4
              cases tb with
              | ow d => exact h.elim
              | im d => exact hno (.im d) rfl rfl (Rp.mono g2.1 _ _ rb) h fun Hs3 H3 g3 => Rp.mono (g2.trans g3).1 _ _ rb
              | sl i => exact hno (.sl i) rfl rfl rb h fun Hs3 H3 g3 => rb
            | .im (.bl false), t2, h =>
              have ev : v = .bl false := t2.2
              subst ev
              refine ⟨false, rfl, ?_⟩
              rw [if_neg (by decide)]
              exact h (.bl false) Hs2 H2 (g1.trans g2) t2
            | .sl _, t2, h => exact h.elim
            | .ow _, t2, h => exact h.elim
            | .im .non, t2, h => exact h.elim
            | .im (.int _), t2, h => exact h.elim
            | .im (.str _), t2, h => exact h.elim
            | .im (.lst _), t2, h => exact h.elim
            | .im (.tup _), t2, h => exact h.elim
            | .im (.scr _), t2, h => exact h.elim
            | .im (.dct _), t2, h => exact h.elim
            | .im (.ty _), t2, h => exact h.elim
            | .im .hid, t2, h => exact h.elim)
        obtain ⟨x', y', ee, q4⟩ := key
        cases ee
        exact q4
      | [], t1, h => exact h.elim
      | [_], t1, h => exact h.elim
      | _ :: _ :: _ :: _, t1, h => exact h.elim
  refine TI_imp (tl_cons h1) fun x H1 h2 => ?_
  refine TI_imp (tl_cons h2) fun y H2 h3 => ?_
  obtain ⟨x', y', e1, h4⟩ := tl_nil h3
  cases e1
  exact h4
end
section
variable {X : Cx} {W : WX} {a b c : Expr} {fa fb fc : Sem} {pos : Pos}
theorem je_chE (hu : X.A.units + 64 < cLine) (ha : JE X W a fa) (hb : JE X W b fb) (hc : JE X W c fc) (hm : lastMarks [.Eq, .Eq] [b, c] = false := by with_unfolding_all rfl) : JE X W (.Compare a [.Eq, .Eq] [b, c] pos) (sChE fa fb fc) :=
  PE_imp (pe_chain (op_eqAll hu) (op_eqAll hu) ha hb hc hm) fun σ H Q h => che_fin h
theorem jb_chE (hu : X.A.units + 64 < cLine) (ha : JE X W a fa) (hb : JE X W b fb) (hc : JE X W c fc) (hm : lastMarks [.Eq, .Eq] [b, c] = false := by with_unfolding_all rfl) : JB X W (.Compare a [.Eq, .Eq] [b, c] pos) (sTruC (sChE fa fb fc)) :=
  PT_imp (pt_chain (op_eqAll hu) (op_eqAll hu) ha hb hc hm) fun σ H Q h => che_fin (truC_fin h)
end
end L2.Py
set_option maxRecDepth 100000
namespace L2.Py
open PySem PySem.Spec PyProof.Rows
def hidE (e : En) (i : Nat) : En := e.set i (some (.hid, .ls))
def pinnedAt (e : En) (j : Nat) : Bool := match e[j]? with
  | some (some (_, f)) => f.pin
  | _ => false
def pinS : Slot → Bool
  | some (_, f) => f.pin
  | none => false
def cleanE : En → En → En
  | _, [] => []
  | e, x :: r => (if pinS x && !pinS (e.head?.getD none) then none else x) :: cleanE e.tail r
def unhid (e : En) (i : Nat) (d : D) (fl : Fl) (e' : En) : En := cleanE e (match e'[i]? with
  | some (some (.hid, .ls)) => e'.set i (some (d, fl))
  | _ => e'.set i none)
def unhidS (e : En) (i : Nat) (d : D) (fl : Fl) : RS → RS
  | .nx e' => .nx (unhid e i d fl e')
  | .rt t e' => .rt t (unhid e i d fl e')
  | .ex x e' => .ex x (unhid e i d fl e')
  | _ => .no
def pinV (σ : St) : List V := σ.map fun o => o.getD .non
def ItOkB (K : PySem.W.Frag) (J : It) (Bk Hs0 : Hp) (ds : List D) : Prop := ∀ (Hs H : Hp), Same Hs0 Hs → Same Hs H → Same Bk H → ∀ i : Nat,
  (∀ d, ds[i]? = some d → J.go i H ∧ ∀ x H', J.yld i H x H' → ∃ Hs', NewOut K Hs H (.im d) x Hs' H') ∧ (ds.length ≤ i → J.stop i H)
section
variable {K : PySem.W.Frag} {Hs Hs' H H' Bk Bk' : Hp} {d : D} {p : Addr} {vs0 : List V} {σ σ' : St} {e e' e2 : En} {i : Nat} {fl : Fl} {ob : HO}
theorem pinV_get {j : Nat} {v : V} (h : σ[j]? = some (some v)) : (pinV σ)[j]? = some v := by
  unfold pinV
  rw [List.getElem?_map, h]
  rfl
theorem pinnedAt_of {j : Nat} {d : D} {f : Fl} (h : e[j]? = some (some (d, f))) (q : f.pin = true) : pinnedAt e j = true := by
  unfold pinnedAt
  rw [h]
  exact q
theorem pinned_of {j : Nat} (h : pinnedAt e j = true) : ∃ d f, e[j]? = some (some (d, f)) ∧ f.pin = true := by
  unfold pinnedAt at h
  split at h
  · rename_i d f q
    exact ⟨d, f, q, h⟩
  · cases h
theorem Frm.hide (f : Frm K vs0 Bk Hs H σ e) (z : e[i]? = some (some (d, fl))) (o : fl.own = true) (k1 : σ[i]? = some (some (.ref p))) (hp : H p = some ob) : Frm K (pinV σ) (upd Bk p ob) Hs H σ (hidE e i) := by
  unfold hidE
  refine ⟨by simpa using f.len, f.sb, fun a o q => ?_, fun j d' f' h ho => ?_, fun j d' f' h ho => ?_, fun j k d1 f1 d2 f2 p' a1 o1 a2 o2 s1 s2 => ?_, fun j d' f' h ho => ?_⟩
  · by_cases ne : a = p
    · subst ne
      rw [upd_same] at q
      exact hp.trans q
    · rw [upd_ne ne] at q
      exact f.bb a o q
  · rcases get_set h with ⟨rfl, z'⟩ | ⟨_, z'⟩
    · cases z'
      exact ⟨_, k1, p, rfl⟩
    · exact f.sh j d' f' z' ho
  · rcases get_set h with ⟨rfl, z'⟩ | ⟨ne, z'⟩
    · cases z'
      cases ho
    · obtain ⟨p', w1, w2, w3, w4⟩ := f.ow j d' f' z' ho
      have np : p' ≠ p := fun m => by
        subst m
        exact ne (f.dj j i d' f' d fl p' z' ho z o w1 k1)
      exact ⟨p', w1, w2, w3, by rw [upd_ne np]; exact w4⟩
  · rcases get_set a1 with ⟨rfl, z1⟩ | ⟨_, z1⟩
    · cases z1
      cases o1
    · rcases get_set a2 with ⟨rfl, z2⟩ | ⟨_, z2⟩
      · cases z2
        cases o2
      · exact f.dj j k d1 f1 d2 f2 p' z1 o1 z2 o2 s1 s2
  · rcases get_set h with ⟨rfl, z'⟩ | ⟨_, z'⟩
    · exact ⟨_, k1, pinV_get k1⟩
    · obtain ⟨v, w1, w2⟩ := f.pn j d' f' z' ho
      exact ⟨v, w1, pinV_get w1⟩
theorem cleanE_len : ∀ (e e' : En), (cleanE e e').length = e'.length
  | _, [] => rfl
  | e, x :: r => by
    unfold cleanE
    rw [List.length_cons, List.length_cons, cleanE_len]
theorem cleanE_get : ∀ {e e' : En} {j : Nat} {x : D × Fl}, (cleanE e e')[j]? = some (some x) → e'[j]? = some (some x) ∧ (x.2.pin = true → pinnedAt e j = true)
  | _, [], j, x, h => by simp [cleanE] at h
  | e, y :: r, 0, x, h => by
    unfold cleanE at h
    rw [List.getElem?_cons_zero] at h
    by_cases q : (pinS y && !pinS (e.head?.getD none)) = true
    · rw [if_pos q] at h
      cases h
    · rw [if_neg q] at h
      cases h
      refine ⟨rfl, fun hp => ?_⟩
      have hp : pinS (some x) = true := hp
      rw [hp] at q
      have q : pinS (e.head?.getD none) = true := by simpa using q
      unfold pinnedAt
      cases e with
      | nil => cases q
      | cons z e =>
        cases z with
        | none => cases q
        | some z => exact q
  | e, y :: r, j + 1, x, h => by
    unfold cleanE at h
    rw [List.getElem?_cons_succ] at h
    obtain ⟨h1, h2⟩ := cleanE_get h
    refine ⟨h1, fun hp => ?_⟩
    have := h2 hp
    unfold pinnedAt at this ⊢
    cases e with
    | nil => simp at this
    | cons z e => exact this
theorem unhid_get {d' : D} {f1 : Fl} {j : Nat} (h : (unhid e i d fl e')[j]? = some (some (d', f1))) : (f1.pin = true → pinnedAt e j = true) ∧
    ((j = i ∧ e'[i]? = some (some (.hid, .ls)) ∧ d' = d ∧ f1 = fl) ∨ (j ≠ i ∧ e'[j]? = some (some (d', f1)))) := by
  unfold unhid at h
  obtain ⟨h, hp⟩ := cleanE_get h
  refine ⟨hp, ?_⟩
  split at h
  · rename_i zi
    rcases get_set h with ⟨rfl, z⟩ | ⟨ne, z⟩
    · cases z
      exact .inl ⟨rfl, zi, rfl, rfl⟩
    · exact .inr ⟨ne, z⟩
  · rcases get_set h with ⟨rfl, z⟩ | ⟨ne, z⟩
    · cases z
    · exact .inr ⟨ne, z⟩
theorem unhid_len : (unhid e i d fl e').length = e'.length := by
  unfold unhid
  rw [cleanE_len]
  split <;> simp
theorem unhid_frm {Bk1 Bk2 : Hp} (f : Frm K vs0 Bk Hs H σ e) (z : e[i]? = some (some (d, fl))) (o : fl.own = true) (k1 : σ[i]? = some (some (.ref p))) (f' : Frm K (pinV σ) Bk2 Hs' H' σ' e')
    (s : Same Bk1 Bk2) (b1 : Bk1 p = none) (b2 : Bk2 p ≠ none) (ow : OwnAt K Hs' H' d p) (n : Hs' p = none) : Frm K vs0 Bk1 Hs' H' σ' (unhid e i d fl e') := by
  have nop : ∀ (j : Nat) (d' : D) (f1 : Fl), e'[j]? = some (some (d', f1)) → f1.own = true → σ'[j]? = some (some (V.ref p)) → False := fun j d' f1 h ho hh => by
    obtain ⟨p', x1, x2, x3, x4⟩ := f'.ow j d' f1 h ho
    rw [x1] at hh
    cases hh
    exact b2 x4
  have own : e'[i]? = some (some (.hid, .ls)) → σ'[i]? = some (some (.ref p)) := fun zi => by
    obtain ⟨v, w1, w2⟩ := f'.pn i _ _ zi rfl
    rw [pinV_get k1] at w2
    cases w2
    exact w1
  refine ⟨by rw [unhid_len]; exact f'.len, f'.sb, s.trans f'.bb, fun j d' f1 h ho => ?_, fun j d' f1 h ho => ?_, fun j k d1 f1 d2 f2 p' a1 o1 a2 o2 s1 s2 => ?_, fun j d' f1 h ho => ?_⟩
  · rcases (unhid_get h).2 with ⟨rfl, zi, rfl, rfl⟩ | ⟨_, z'⟩
    · rw [o] at ho
      cases ho
    · exact f'.sh j d' f1 z' ho
  · rcases (unhid_get h).2 with ⟨rfl, zi, rfl, rfl⟩ | ⟨_, z'⟩
    · exact ⟨p, own zi, ow, n, b1⟩
    · obtain ⟨p', x1, x2, x3, x4⟩ := f'.ow j d' f1 z' ho
      exact ⟨p', x1, x2, x3, Same.none s x4⟩
  · rcases (unhid_get a1).2 with ⟨rfl, zi, rfl, rfl⟩ | ⟨_, z1⟩
    · rcases (unhid_get a2).2 with ⟨rfl, zi2, rfl, rfl⟩ | ⟨_, z2⟩
      · rfl
      · rw [own zi] at s1
        cases s1
        exact (nop k d2 f2 z2 o2 s2).elim
    · rcases (unhid_get a2).2 with ⟨rfl, zi, rfl, rfl⟩ | ⟨_, z2⟩
      · rw [own zi] at s2
        cases s2
        exact (nop j d1 f1 z1 o1 s1).elim
      · exact f'.dj j k d1 f1 d2 f2 p' z1 o1 z2 o2 s1 s2
  · obtain ⟨hp, hc⟩ := unhid_get h
    obtain ⟨d0, f0, y1, y2⟩ := pinned_of (hp ho)
    obtain ⟨v0, y3, y4⟩ := f.pn j d0 f0 y1 y2
    rcases hc with ⟨rfl, zi, rfl, rfl⟩ | ⟨_, z'⟩
    · rw [k1] at y3
      cases y3
      exact ⟨_, own zi, y4⟩
    · obtain ⟨v', x1, x2⟩ := f'.pn j d' f1 z' ho
      rw [pinV_get y3] at x2
      cases x2
      exact ⟨_, x1, y4⟩
theorem grow_no (g : Grow (upd Bk p ob) Hs Hs') (n : Hs p = none) : Hs' p = none := by
  cases z : Hs' p with
  | none => rfl
  | some u =>
    have := g.2 p n (by rw [z]; simp)
    rw [upd_same] at this
    cases this
theorem unhid_nx (f : Frm K vs0 Bk Hs H σ e) (z : e[i]? = some (some (d, fl))) (o : fl.own = true) (k1 : σ[i]? = some (some (.ref p))) (ow : OwnAt K Hs H d p) (n : Hs p = none) (b : Bk p = none) (hp : H p = some ob)
    (g : Grow (upd Bk p ob) Hs Hs') (f' : Frm K (pinV σ) (upd Bk p ob) Hs' H' σ' e') : Frm K vs0 Bk Hs' H' σ' (unhid e i d fl e') :=
  unhid_frm f z o k1 f' (same_upd b) b (by rw [upd_same]; exact fun z => nomatch z) (ow.mono g.1 ((f'.bb p ob upd_same).trans hp.symm)) (grow_no g n)
theorem unhid_tmp {t : Tm} {v : V} (f : Frm K vs0 Bk Hs H σ e) (z : e[i]? = some (some (d, fl))) (o : fl.own = true) (k1 : σ[i]? = some (some (.ref p))) (ow : OwnAt K Hs H d p) (n : Hs p = none) (b : Bk p = none) (hp : H p = some ob)
    (g : Grow (upd Bk p ob) Hs Hs') (t' : Tmp K (pinV σ) (upd Bk p ob) Hs' H' σ' e' t v) : Tmp K vs0 Bk Hs' H' σ' (unhid e i d fl e') t v := by
  have np : p ∉ ownA t v := fun m => by
    have := (t'.2.own p m).1
    rw [upd_same] at this
    cases this
  have h1 : H' p = some ob := t'.frm.bb p ob upd_same
  refine ⟨unhid_frm f z o k1 t'.1 (fun a u q => ?_) (by rw [ext_not np]; exact b) (by rw [ext_not np, upd_same]; exact fun z => nomatch z) (ow.mono g.1 (h1.trans hp.symm)) (grow_no g n), t'.2.weak (same_upd b)⟩
  by_cases m : a ∈ ownA t v
  · rw [ext_mem m] at q ⊢; exact q
  · rw [ext_not m] at q ⊢
    have ne : a ≠ p := by rintro rfl; rw [b] at q; cases q
    rw [upd_ne ne]
    exact q
theorem Grow.unhide (g : Grow (upd Bk p ob) Hs Hs') (b : Bk p = none) : Grow Bk Hs Hs' := g.weak (same_upd b)
theorem it_own {a : Addr} {xs : List V} {ds : List D} (r : Rps K Hs ds xs) : ItOkB K (Itl K a) (upd Bk a (.lst xs)) Hs ds := by
  intro Hs1 H1 s1 s2 s3 i
  have h : SqL K H1 a xs := .inl (.inl (s3 _ _ upd_same))
  refine ⟨fun d q => ?_, fun q => ?_⟩
  · obtain ⟨x, h1, h2⟩ := rps_get r q
    refine ⟨⟨xs, x, h, h1⟩, fun y H' ⟨e1, e2⟩ => ?_⟩
    subst e1
    have := e2 xs h
    rw [h1] at this
    cases this
    exact ⟨Hs1, new_imm s2 (Rp.mono s1 _ _ h2)⟩
  · exact ⟨xs, h, by rw [← rps_len r]; exact q⟩
end
section
variable {X : Cx} {W : WX} {L : List Nat} {g : G} {fb : SemS}
theorem for_coreB {J : It} {D : Ends} {vs0 : List V} {Bk Hs1 H1 : Hp} {σ : St} {e1 : En} {ds : List L2.Py.D} (it : ItOkB X.K J Bk Hs1 ds) (f1 : Frm X.K vs0 Bk Hs1 H1 σ e1) (h : PostS X.K X.mg W vs0 Bk Hs1 D (forN g fb ds e1)) :
    ∃ M : Nat → Nat → St → Hp → Prop, (∃ m, M 0 m σ H1) ∧ ∀ i m σ H, M i m σ H → (J.stop i H ∧ D.nx σ H) ∨ (J.go i H ∧ ∃ N : St → Hp → Prop, (∀ σ' H', N σ' H' → ∃ m', m' < m ∧ M (i + 1) m' σ' H') ∧
      ∀ x H', J.yld i H x H' → TGt X.K L g x σ H' fun σ2 H2 => TSt X.K X.mg W fb { D with nx := N, ct := N, bk := D.nx } σ2 H2) := by
  refine ⟨fun i m σ' H' => m = ds.length - i ∧ i ≤ ds.length ∧ ∃ Hs' e', Grow Bk Hs1 Hs' ∧ Frm X.K vs0 Bk Hs' H' σ' e' ∧ PostS X.K X.mg W vs0 Bk Hs' D (forN g fb (ds.drop i) e'), ⟨ds.length, rfl, Nat.zero_le _, Hs1, e1, .refl, f1, h⟩, ?_⟩
  rintro i m σ2 H2 ⟨rfl, hi, Hs2, e2, g2, f2, h2⟩
  obtain ⟨k1, k2⟩ := it Hs2 H2 g2.1 f2.sb f2.bb i
  by_cases hlt : i < ds.length
  · have hd : ds[i]? = some ds[i] := List.getElem?_eq_getElem hlt
    obtain ⟨w1, w2⟩ := k1 _ hd
    rw [List.drop_eq_getElem_cons hlt] at h2
    refine .inr ⟨w1, fun σ' H' => ∃ Hs' e', Grow Bk Hs1 Hs' ∧ Frm X.K vs0 Bk Hs' H' σ' e' ∧ PostS X.K X.mg W vs0 Bk Hs' D (forN g fb (ds.drop (i + 1)) e'), fun σ' H' n => ⟨ds.length - (i + 1), by omega, rfl, hlt, n⟩, fun x H3 y => ?_⟩
    obtain ⟨Hs3, n3⟩ := w2 x H3 y
    obtain ⟨t3, g3⟩ := n3.tmp f2 (.refl _)
    refine ⟨vs0, Bk, Hs3, e2, .im ds[i], t3, trivial, ?_⟩
    unfold forN at h2
    cases q3 : g (.im ds[i]) e2 with
    | none => rw [q3] at h2; exact h2.elim
    | some e3 =>
      rw [q3] at h2
      intro σ4 Hs4 H4 o4 g4 f4
      refine ⟨vs0, Bk, Hs4, e3, f4, ?_⟩
      dsimp only at h2
      have g24 := g3.trans g4
      cases q4 : fb e3 with
      | no => rw [q4] at h2; exact h2
      | nx e5 => rw [q4] at h2; exact fun σ5 Hs5 H5 g5 f5 => ⟨Hs5, e5, (g2.trans g24).trans g5, f5, PostS.grow h2 (g24.trans g5)⟩
      | ct e5 => rw [q4] at h2; exact fun σ5 Hs5 H5 g5 f5 => ⟨Hs5, e5, (g2.trans g24).trans g5, f5, PostS.grow h2 (g24.trans g5)⟩
      | bk e5 => rw [q4] at h2; exact fun σ5 Hs5 H5 g5 f5 => h2 σ5 Hs5 H5 (g24.trans g5) f5
      | rt t e5 => rw [q4] at h2; exact ⟨h2.1, fun v σ5 Hs5 H5 g5 t5 => h2.2 v σ5 Hs5 H5 (g24.trans g5) t5⟩
      | ex x e5 => rw [q4] at h2; exact fun c dx σ5 Hs5 H5 g5 f5 r => h2 c dx σ5 Hs5 H5 (g24.trans g5) f5 r
  · have ei : i = ds.length := by omega
    subst ei
    rw [List.drop_length] at h2
    exact .inl ⟨k2 (Nat.le_refl _), h2 σ2 Hs2 H2 .refl f2⟩
def sForK (i : Nat) (g : G) (fb : SemS) : SemS := fun e => match e[i]? with
  | some (some (.lst ds, fl)) => if fl.own then unhidS e i (.lst ds) fl (forN g fb ds (hidE e i)) else sFor g (sItS (sV i)) fb e
  | _ => sFor g (sItS (sV i)) fb e
theorem js_forK {i : Nat} {x : Str} {px : Pos} {tg : Expr} {body : List Stmt} {pos : Pos} (hp : PassesOwn (model X.prog X.w) X.A X.env X.xe) (hc : X.calm = true) (hN : X.N[i]? = some x) (hv : Vis X.env.scope x) (hd : (x == ("__debug__" : Str)) = false := by decide) (hcd : (x == ("__classdict__" : Str)) = false := by decide)
    (hg : JG X tg L g) (hb : JSs X W body fb) (hs : ∀ y, foldedSetIterable (.Name x px) X.env y = pure y := by intro _; rfl) : JS X W (.For tg (.Name x px) body [] pos) (sForK i g fb) := by
  have base := ps_for (pos := pos) hp hc (pi_list (tg := tg) (pe_var (pos := px) hN hv hd hcd)) hg hb hs
  have old : JS X W (.For tg (.Name x px) body [] pos) (sFor g (sItS (sV i)) fb) := js_for hp hc (ji_seq (je_var hN hv hd hcd)) hg hb hs
  refine PS_imp (PS_or base old) fun D σ H ⟨vs0, Bk, Hs, e, fr, h⟩ => ?_
  unfold sForK at h
  split at h
  · rename_i ds fl z
    split at h
    · rename_i o
      obtain ⟨p, k1, ow, n, b⟩ := fr.ow i _ _ z o
      obtain ⟨xs, hH, rx⟩ := ow
      refine .inl ⟨.ref p, k1, p, rfl, ⟨xs, .inl (.inl hH)⟩, ?_⟩
      have ow : OwnAt X.K Hs H (.lst ds) p := ⟨xs, hH, rx⟩
      refine for_coreB (it_own rx) (fr.hide z o k1 hH) ?_
      cases q : forN g fb ds (hidE e i) with
      | no => rw [q] at h; exact h.elim
      | bk e1 => rw [q] at h; exact h.elim
      | ct e1 => rw [q] at h; exact h.elim
      | nx e1 =>
        rw [q] at h
        exact fun σ' Hs' H' g' f' => h σ' Hs' H' (g'.unhide b) (unhid_nx fr z o k1 ow n b hH g' f')
      | rt t e1 =>
        rw [q] at h
        exact ⟨h.1, fun v σ' Hs' H' g' t' => h.2 v σ' Hs' H' (g'.unhide b) (unhid_tmp fr z o k1 ow n b hH g' t')⟩
      | ex x e1 =>
        rw [q] at h
        exact fun c dx σ' Hs' H' g' f' r => h c dx σ' Hs' H' (g'.unhide b) (unhid_nx fr z o k1 ow n b hH g' f') r
    · exact .inr ⟨vs0, Bk, Hs, e, fr, h⟩
  · exact .inr ⟨vs0, Bk, Hs, e, fr, h⟩
end
end L2.Py
set_option maxRecDepth 100000
namespace L2.Py
open PySem PySem.Spec PyProof.Rows
section
variable {X : Cx} {W : WX} {elt tg : Expr} {ifs : List Expr} {scope : Scope} {own : List (Str × Nat)} {pos : Pos} {L : List Nat} {g : G} {fc : SemB} {fe : Sem}
theorem lcJB {J : It} {vs0 : List V} {Bk Hs1 H1 : Hp} {σ : St} {e1 e2 : En} {ds accF : List D} {vs : List Nat} {Q : VK} (it : ItOkB X.K J Bk Hs1 ds) (f1 : Frm X.K vs0 Bk Hs1 H1 σ e1) (hL : ∀ j ∈ L, j ∈ vs) (hno : noOwn e1 vs = true)
    (hlc : lcN vs g fc fe ds [] (wipeE e1 vs) = .ok accF e2) (h : PostE X.K X.mg W vs0 Bk Hs1 σ Q (.ok (.ow (.lst accF)) (backE e1 e2 vs))) : ∀ Dp, H1 Dp = none → ∃ M : Nat → Nat → Hp → Prop, (∃ m, M 0 m (upd H1 Dp (.lst []))) ∧ ∀ i m H, M i m H →
      (J.stop i H ∧ Q (.ref Dp) H) ∨ (J.go i H ∧ ∃ Nx : Hp → Prop, (∀ H', Nx H' → ∃ m', m' < m ∧ M (i + 1) m' H') ∧ ∀ x H', J.yld i H x H' → TGt X.K L g x (wipe σ vs) H' fun σ2 H2 => wipe σ2 vs = wipe σ vs ∧ TB' X.K X.mg NoX fc σ2 H2 fun b H3 =>
        if b = true then TI' X.K X.mg NoX fe σ2 H3 fun y H4 => ∃ acc, H4 Dp = some (.lst acc) ∧ acc.length < sizeLine ∧ Nx (upd H4 Dp (.lst (acc ++ [y]))) else Nx H3) := by
  intro Dp hD
  have hsD : Hs1 Dp = none := Same.none f1.sb hD
  have hbD : Bk Dp = none := Same.none f1.bb hD
  let Inv' : Nat → Hp → Prop := fun i H' => i ≤ ds.length ∧ ∃ Hs' e' accV accD, Grow Bk Hs1 Hs' ∧ H' Dp = some (.lst accV) ∧ Hs' Dp = none ∧ Frm X.K vs0 (upd Bk Dp (.lst accV)) Hs' H' (wipe σ vs) e' ∧ Rps X.K Hs' accD accV ∧ lcN vs g fc fe (ds.drop i) accD e' = .ok accF e2
  refine ⟨fun i m H' => m = ds.length - i ∧ Inv' i H', ⟨ds.length, rfl, Nat.zero_le _, Hs1, wipeE e1 vs, [], [], .refl, upd_same, hsD, ?_, rfl, hlc⟩, ?_⟩
  · have fw := f1.wiped vs
    have n0 : NewOut X.K Hs1 H1 (.ow (.lst [])) (.ref Dp) Hs1 (upd H1 Dp (.lst [])) := new_lst f1.sb rfl hD
    obtain ⟨t0, _⟩ := n0.tmp fw (.refl Bk)
    have t1 := t0.1
    rw [ext_one upd_same] at t1
    exact t1
  · rintro i m H2 ⟨rfl, hi, Hs2, e', accV, accD, g2, hD2, hsD2, f2, r2, h2⟩
    have sbk : Same Bk (upd Bk Dp (.lst accV)) := same_upd hbD
    obtain ⟨k1, k2⟩ := it Hs2 H2 g2.1 f2.sb (sbk.trans f2.bb) i
    by_cases hlt : i < ds.length
    · have hd : ds[i]? = some ds[i] := List.getElem?_eq_getElem hlt
      obtain ⟨w1, w2⟩ := k1 _ hd
      rw [List.drop_eq_getElem_cons hlt] at h2
      refine .inr ⟨w1, fun H' => Inv' (i + 1) H', fun H' n => ⟨ds.length - (i + 1), by omega, rfl, n⟩, fun x H3 y => ?_⟩
      obtain ⟨Hs3, n3⟩ := w2 x H3 y
      obtain ⟨t3, g3⟩ := n3.tmp f2 (.refl _)
      refine ⟨vs0, upd Bk Dp (.lst accV), Hs3, e', .im ds[i], t3, trivial, ?_⟩
      unfold lcN at h2
      cases q3 : g (.im ds[i]) e' with
      | none => rw [q3] at h2; cases h2
      | some e3 =>
        rw [q3] at h2
        intro σ4 Hs4 H4 o4 g4 f4
        have wo := wipe_off o4 hL
        refine ⟨wo, vs0, upd Bk Dp (.lst accV), Hs4, e3, f4, ?_⟩
        dsimp only at h2
        cases q4 : fc e3 with
        | no => rw [q4] at h2; cases h2
        | ex x e4 => rw [q4] at h2; cases h2
        | ok b e4 =>
          rw [q4] at h2
          intro Hs5 H5 g5 f5
          have g35 : Grow (upd Bk Dp (.lst accV)) Hs2 Hs5 := (g3.trans g4).trans g5
          cases b with
          | false =>
            rw [if_neg Bool.false_ne_true]
            have hD5 : H5 Dp = some (.lst accV) := f5.bb Dp _ upd_same
            have fw := f5.wiped vs
            rw [wo] at fw
            refine ⟨hlt, Hs5, wipeE e4 vs, accV, accD, g2.trans (g35.weak sbk), hD5, ?_, fw, Rps.mono g35.1 _ _ r2, h2⟩
            cases z : Hs5 Dp with
            | none => rfl
            | some u =>
              have := g35.2 Dp hsD2 (by rw [z]; simp)
              rw [upd_same] at this
              cases this
          | true =>
            rw [if_pos rfl]
            refine ⟨vs0, upd Bk Dp (.lst accV), Hs5, e4, f5, ?_⟩
            dsimp only at h2
            cases q5 : fe e4 with
            | no => rw [q5] at h2; cases h2
            | ex x e5 => rw [q5] at h2; cases h2
            | ok t e5 =>
              rw [q5] at h2
              intro v Hs6 H6 g6 t6
              dsimp only at h2
              split at h2
              · cases h2
              · rename_i t' e6 q6
                split at h2
                · rename_i hsz
                  obtain ⟨Hs7, g7, t7, n7⟩ := take_tmp t6 q6
                  obtain ⟨Hs8, g8, f8, r8⟩ := t7.share n7
                  have g38 : Grow (upd Bk Dp (.lst accV)) Hs2 Hs8 := ((g35.trans g6).trans g7).trans g8
                  have hD6 : H6 Dp = some (.lst accV) := f8.bb Dp _ upd_same
                  have hs8 : Hs8 Dp = none := by
                    cases z : Hs8 Dp with
                    | none => rfl
                    | some u =>
                      have := g38.2 Dp hsD2 (by rw [z]; simp)
                      rw [upd_same] at this
                      cases this
                  have r8' := Rps.mono g38.1 _ _ r2
                  refine ⟨accV, hD6, by rw [← rps_len r2, ← line_eq]; exact hsz, hlt, Hs8, wipeE e6 vs, accV ++ [v], accD ++ [dOf t'], g2.trans (g38.weak sbk), upd_same, hs8, ?_, rps_app r8' r8, h2⟩
                  have fw := f8.wiped vs
                  rw [wo] at fw
                  refine ⟨fw.len, fun a o z => ?_, fun a o z => ?_, fw.sh, fun j d fl z o => ?_, fw.dj, fw.pn⟩
                  · have ne : a ≠ Dp := fun z' => by rw [z', hs8] at z; cases z
                    rw [upd_ne ne]; exact fw.sb a o z
                  · by_cases ne : a = Dp
                    · subst ne; rw [upd_same] at z ⊢; exact z
                    · rw [upd_ne ne] at z ⊢
                      exact fw.bb a o (by rw [upd_ne ne]; exact z)
                  · obtain ⟨p, w1, w2, w3, w4⟩ := fw.ow j d fl z o
                    have ne : p ≠ Dp := fun z' => by rw [z', upd_same] at w4; cases w4
                    rw [upd_ne ne] at w4
                    exact ⟨p, w1, w2.mono (.refl _) (upd_ne ne), w3, by rw [upd_ne ne]; exact w4⟩
                · cases h2
    · have ei : i = ds.length := by omega
      subst ei
      rw [List.drop_length] at h2
      have h2 : (R.ok accD e' : R (List D)) = .ok accF e2 := h2
      cases h2
      refine .inl ⟨k2 (Nat.le_refl _), ?_⟩
      have fb := f1.back hno f2 g2.1
      refine h (.ref Dp) Hs2 H2 g2 ⟨?_, Dp, rfl, ⟨accV, hD2, r2⟩, hsD2, hbD⟩
      rw [ext_one hD2]
      exact fb
def sLcK (i : Nat) (vs : List Nat) (g : G) (c : SemB) (f : Sem) : Sem := fun e => match e[i]? with
  | some (some (.lst ds, fl)) => if fl.own then if noOwn (hidE e i) vs then match lcN vs g c f ds [] (wipeE (hidE e i) vs) with
      | .ok acc e2 => .ok (.ow (.lst acc)) (unhid e i (.lst ds) fl (backE (hidE e i) e2 vs))
      | _ => .no
    else .no
    else sLc vs g (sItS (sV i)) c f e
  | _ => sLc vs g (sItS (sV i)) c f e
theorem je_lcK {i : Nat} {x : Str} {px : Pos} (hc : X.calm = true) (hNd : X.N.Nodup) (hN : X.N[i]? = some x) (hv : Vis X.env.scope x) (hd : (x == ("__debug__" : Str)) = false := by decide) (hcd : (x == ("__classdict__" : Str)) = false := by decide)
    (ok : BlkOk X.N X.env.scope scope own) (hL : ∀ j ∈ L, j ∈ own.map (·.2))
    (hg : BlkJ X scope fun X => JG X tg L g) (ht : BlkJ X scope fun X => JT X ifs fc) (he : BlkJ X scope fun X => JE X NoX elt fe) (hs : ∀ y, foldedSetIterable (.Name x px) X.env y = pure y := by intro _; rfl) :
    JE X W (.ListComp elt [⟨tg, .Name x px, ifs, 0⟩] scope pos) (sLcK i (own.map (·.2)) g fc fe) := by
  have base := pe_lc (elt := elt) (ifs := ifs) (scope := scope) (own := own) (pos := pos) (g := TGt X.K L g) (tt := TB' X.K X.mg NoX fc) (te := TI' X.K X.mg NoX fe) hc hNd (pi_list (tg := tg) (pe_var (pos := px) hN hv hd hcd)) ok hg ht he hs
  have old : JE X W (.ListComp elt [⟨tg, .Name x px, ifs, 0⟩] scope pos) (sLc (own.map (·.2)) g (sItS (sV i)) fc fe) := je_lc hc hNd (ji_seq (je_var hN hv hd hcd)) ok hL hg ht he hs
  refine PE_imp (PE_or base old) fun σ H Q ⟨vs0, Bk, Hs, e, fr, h⟩ => ?_
  generalize hvs : own.map (·.2) = vs at h hL ⊢
  unfold sLcK at h
  split at h
  · rename_i ds fl z
    split at h
    · rename_i o
      split at h
      · rename_i hno
        split at h
        · rename_i accF e2 hlc
          obtain ⟨p, k1, ow, n, b⟩ := fr.ow i _ _ z o
          obtain ⟨xs, hH, rx⟩ := ow
          refine .inl ⟨.ref p, k1, p, rfl, ⟨xs, .inl (.inl hH)⟩, ?_⟩
          have ow : OwnAt X.K Hs H (.lst ds) p := ⟨xs, hH, rx⟩
          exact lcJB (W := W) (it_own rx) (fr.hide z o k1 hH) hL hno hlc fun v Hs2 H2 g2 t2 => h v Hs2 H2 (g2.unhide b) (unhid_tmp fr z o k1 ow n b hH g2 t2)
        · exact h.elim
      · exact h.elim
    · exact .inr ⟨vs0, Bk, Hs, e, fr, h⟩
  · exact .inr ⟨vs0, Bk, Hs, e, fr, h⟩
theorem js_setLcK {i jt : Nat} {x y : Str} {px py spos : Pos} (hc : X.calm = true) (hNd : X.N.Nodup) (hy : X.N[jt]? = some y) (hyl : X.env.scope.names.lookup y = some .local)
    (hsw : swapsWith (.ListComp elt [⟨tg, .Name x px, ifs, 0⟩] scope pos) (some (.Name y py)) spos.line X.env = pure true) (hN : X.N[i]? = some x) (hv : Vis X.env.scope x) (hd : (x == ("__debug__" : Str)) = false := by decide) (hcd : (x == ("__classdict__" : Str)) = false := by decide)
    (ok : BlkOk X.N X.env.scope scope own) (hL : ∀ j ∈ L, j ∈ own.map (·.2))
    (hg : BlkJ X scope fun X => JG X tg L g) (ht : BlkJ X scope fun X => JT X ifs fc) (he : BlkJ X scope fun X => JE X NoX elt fe) (hs : ∀ y, foldedSetIterable (.Name x px) X.env y = pure y := by intro _; rfl) :
    JS X W (.Assign [.Name y py] (.ListComp elt [⟨tg, .Name x px, ifs, 0⟩] scope pos) spos) (sSet jt (sLcK i (own.map (·.2)) g fc fe)) := by
  have base := ps_setLc (elt := elt) (ifs := ifs) (scope := scope) (own := own) (g := TGt X.K L g) (tt := TB' X.K X.mg NoX fc) (te := TI' X.K X.mg NoX fe) hc hNd hy hyl hsw (pi_list (tg := tg) (pe_var (pos := px) hN hv hd hcd)) ok hg ht he hs
  have old : JS X W (.Assign [.Name y py] (.ListComp elt [⟨tg, .Name x px, ifs, 0⟩] scope pos) spos) (sSet jt (sLc (own.map (·.2)) g (sItS (sV i)) fc fe)) := js_setLc hc hNd hy hyl hsw (ji_seq (je_var hN hv hd hcd)) ok hL hg ht he hs
  refine PS_imp (PS_or base old) fun D σ H ⟨vs0, Bk, Hs, e, fr, h0⟩ => ?_
  have h : PostE X.K X.mg W vs0 Bk Hs σ (fun v H1 => D.nx (σ.set jt (some v)) H1) (sLcK i (own.map (·.2)) g fc fe e) := set_fin fr h0
  have h0' : sLcK i (own.map (·.2)) g fc fe e = sLc (own.map (·.2)) g (sItS (sV i)) fc fe e → TSt X.K X.mg W (sSet jt (sLc (own.map (·.2)) g (sItS (sV i)) fc fe)) D σ H := fun q => ⟨vs0, Bk, Hs, e, fr, by
    unfold sSet at h0 ⊢
    rw [← q]
    exact h0⟩
  generalize hvs : own.map (·.2) = vs at h h0' hL ⊢
  unfold sLcK at h h0'
  split at h
  · rename_i ds fl z
    split at h
    · rename_i o
      split at h
      · rename_i hno
        split at h
        · rename_i accF e2 hlc
          obtain ⟨p, k1, ow, n, b⟩ := fr.ow i _ _ z o
          obtain ⟨xs, hH, rx⟩ := ow
          refine .inl ⟨.ref p, k1, p, rfl, ⟨xs, .inl (.inl hH)⟩, ?_⟩
          have ow : OwnAt X.K Hs H (.lst ds) p := ⟨xs, hH, rx⟩
          exact lcJB (W := W) (it_own rx) (fr.hide z o k1 hH) hL hno hlc fun v Hs2 H2 g2 t2 => h v Hs2 H2 (g2.unhide b) (unhid_tmp fr z o k1 ow n b hH g2 t2)
        · exact h.elim
      · exact h.elim
    · rename_i no
      refine .inr (h0' ?_)
      rw [z]
      dsimp only
      rw [if_neg no]
  · rename_i nz
    refine .inr (h0' ?_)
    split
    · rename_i ds fl z
      exact (nz ds fl z).elim
    · rfl
end
end L2.Py
set_option maxRecDepth 100000
namespace L2.Py
open PySem PySem.Spec PyProof.Rows
section
variable {X : Cx} {W : WX} {fl : SemL}
theorem js_parC3 {i j l : Nat} {x y z : Str} {a b c : Expr} {px py pz pt pos : Pos} {kt k2 pt2} (hc : X.calm = true) (hN : X.N.Nodup) (hi : X.N[i]? = some x) (hj : X.N[j]? = some y) (hl : X.N[l]? = some z)
    (hx : Loc X.env.scope x) (hfx : X.fn x = true ∨ X.env.scope.names.lookup x = some .local) (hy : Loc X.env.scope y) (hfy : X.fn y = true ∨ X.env.scope.names.lookup y = some .local) (hzl : Loc X.env.scope z) (hfz : X.fn z = true ∨ X.env.scope.names.lookup z = some .local) (hz : 3 ≤ sizeLine) (ha : JA X W [a, b, c] fl)
    (hg0 : (assignEach [.Name z pz] X.env).map (·.2) = assign (.Name z pz) X.env :: (assignEach [] X.env).map (·.2) := by rfl)
    (hg1 : (assignEach [.Name y py, .Name z pz] X.env).map (·.2) = assign (.Name y py) X.env :: (assignEach [.Name z pz] X.env).map (·.2) := by rfl)
    (hg2 : (assignEach [.Name x px, .Name y py, .Name z pz] X.env).map (·.2) = assign (.Name x px) X.env :: (assignEach [.Name y py, .Name z pz] X.env).map (·.2) := by rfl)
    (hn : (assignEach [.Name x px, .Name y py, .Name z pz] X.env).length = 3 := by rfl) (hst : (assignEach [.Name x px, .Name y py, .Name z pz] X.env).findIdx? (·.1) = none := by rfl)
    (hs : swapsWithSole [.Tuple [.Name x px, .Name y py, .Name z pz] kt pt] (.Tuple [a, b, c] k2 pt2) pos.line X.env = pure false := by rfl)
    (hw : swappedStores [.Tuple [.Name x px, .Name y py, .Name z pz] kt pt] (.Tuple [a, b, c] k2 pt2) X.env = pure none := by rfl)
    (h1 : (assignEach [.Tuple [.Name x px, .Name y py, .Name z pz] kt pt] X.env).map (·.2) = [assign (.Tuple [.Name x px, .Name y py, .Name z pz] kt pt) X.env] := by rfl) :
    JS X W (.Assign [.Tuple [.Name x px, .Name y py, .Name z pz] kt pt] (.Tuple [a, b, c] k2 pt2) pos) (sPar [i, j, l] fl) :=
  PS_imp (ps_asg (pe_tup ha) (pg_tup hc (pgs_cons (pg_name hN hi hx hfx) (pgs_cons (pg_name hN hj hy hfy) (pgs_cons (pg_name hN hl hzl hfz) pgs_nil hg0) hg1) hg2) hn hst) hs hw h1) fun D σ H ⟨vs0, Bk, Hs, e, fr, h⟩ => by
    refine ⟨vs0, Bk, Hs, e, fr, ?_⟩
    have zz := par_finC fr h
    cases q : fl e with
    | no => rw [q] at zz; exact zz
    | ex x e1 => rw [q] at zz; exact zz
    | ok ts e1 =>
      rw [q] at zz
      intro vs Hs1 H1 g1 t1
      obtain ⟨z1, z2⟩ := zz vs Hs1 H1 g1 t1
      match vs, z1, z2 with
      | [v, w, u], _, z2 => exact ⟨hz, fun p hp => ⟨p, [v, w, u], rfl, .inl (.inl upd_same), rfl, v, [w, u], rfl, w, [u], rfl, u, [], rfl, rfl, z2 p hp⟩⟩
end
end L2.Py
set_option maxRecDepth 100000
namespace L2.Py
open PySem PySem.Spec PyProof.Rows
def SqB (K : PySem.W.Frag) (H : Hp) : Bool → Addr → List V → Prop
  | false => SqL K H
  | true => SqT K H
def WkB (h : Heap) : Bool → Addr → Addr → Nat → Prop
  | false => h.IsListIter
  | true => h.IsTupleIter
def ObB (h : Heap) : Bool → Addr → Array Value → Prop
  | false => h.IsList
  | true => h.IsTuple
section
variable {P : Program} {w : World} {K : PySem.W.Frag} {X : Cx} {pins : List (Addr × Obj)} {σ : St} {H : Hp} {s : Shared} {j k : Bool} {a b : Addr} {xs ys : List V}
theorem side_inv (I : Inv X pins σ H s) (h : SqB X.K H k a xs) : ∃ us : List Value, Vals xs us ∧ ObB s.heap k a us.toArray ∧ a < s.heap.objs.size := by
  cases k with
  | false =>
    obtain ⟨us, r, q, _⟩ := I.list h
    exact ⟨us, r, q.isList, q.lt⟩
  | true =>
    obtain ⟨us, r, q, _⟩ := I.tuple h
    obtain ⟨o, ho, _⟩ := id q
    exact ⟨us, r, q, Heap.lt_size ho⟩
theorem side_one (I : Inv X pins σ H s) (h : SqB X.K H k a xs) (h' : SqB X.K H k a ys) : ys = xs := by
  cases k with
  | false => exact (I.list_inj h h').symm
  | true => exact (I.tuple_inj h h').symm
theorem side_draws {A : Around} (hh : A.handled = none) (k : Bool) (it l : Addr) (hne : l ≠ it) (us : Array Value) : Draws P w A it [it, l] us.size (fun i v => us[i]? = some v) (fun i h => WkB h k it l i ∧ ObB h k l us) := by
  cases k with
  | false => exact .list hh it l hne us
  | true => exact .tuple hh it l hne us
theorem side_some {h : Heap} {it l : Addr} {i : Nat} (st : WkB h k it l i) : ∃ o, h.get? it = some o ∧ ∀ v, o.data ≠ .cell v := by
  cases k <;>
  · obtain ⟨o, h1, _, h2⟩ := st
    exact ⟨o, h1, fun v z => by rw [h2] at z; cases z⟩
theorem side_at {h h' : Heap} {it l : Addr} {i : Nat} (st : WkB h k it l i) (f : ∀ o, h.get? it = some o → h'.get? it = some o) : WkB h' k it l i := by
  cases k with
  | false => exact Heap.IsListIter.at st f
  | true => exact Heap.IsTupleIter.at st f
def ItzB (K : PySem.W.Frag) (j k : Bool) (a b : Addr) : It where
  go i H := ∃ xs ys x y, SqB K H j a xs ∧ SqB K H k b ys ∧ xs[i]? = some x ∧ ys[i]? = some y
  yld i H v H' := ∃ T x y, v = .ref T ∧ H T = none ∧ H' = upd H T (.tup [x, y]) ∧ (∀ xs, SqB K H j a xs → xs[i]? = some x) ∧ (∀ ys, SqB K H k b ys → ys[i]? = some y)
  stop i H := ∃ xs ys, SqB K H j a xs ∧ SqB K H k b ys ∧ i ≤ xs.length ∧ i ≤ ys.length ∧ (i = xs.length ∨ i = ys.length)
theorem apart_sep {z TI TO i1 i2 : Addr} (D : ZipApart z TI TO i1 i2 a b) : ZipSep2 z TI TO i1 i2 [i1, a] [i2, b] := by
  have := D
  constructor <;> simp [D.TIz, D.TOz, D.TITO, D.TIi1, D.TIi2, D.TOi1, D.TOi2, D.i12, D.i12.symm, D.l1i2.symm, D.l2i1.symm, D.l1z.symm, D.l2z.symm, D.l1TO.symm, D.l2TO.symm, D.i1z.symm, D.i2z.symm]
abbrev Five (z TI TO i1 i2 : Addr) : List Addr := [z, TI, TO, i1, i2]
theorem five_cases {z TI TO i1 i2 c : Addr} (h : c ∈ Five z TI TO i1 i2) : c = z ∨ c = TI ∨ c = TO ∨ c = i1 ∨ c = i2 := by simpa using h
theorem five_not {z TI TO i1 i2 c : Addr} (h : c ∉ Five z TI TO i1 i2) : c ≠ z ∧ c ≠ TI ∧ c ≠ TO ∧ c ≠ i1 ∧ c ≠ i2 := by simpa [Five] using h
def ZipSt (j k : Bool) (z TI TO i1 i2 a b : Addr) (i : Nat) (h : Heap) : Prop :=
  (IsZip h z TI TO .none ∧ IsTupOf2 h TI (.ref i1) (.ref i2)) ∧ (∃ x y, IsTupOf2 h TO x y) ∧ WkB h j i1 a i ∧ WkB h k i2 b i
theorem turn_zipB {elts : List Expr} {kk : Nat} {tpos : Pos} {z TI TO i1 i2 : Addr} (D : ZipApart z TI TO i1 i2 a b) : Turn P w K (.Tuple elts kk tpos) (ItzB K j k a b) (Five z TI TO i1 i2) z (ZipSt j k z TI TO i1 i2 a b) := by
  refine ⟨List.mem_cons_self, fun i h st c hc => ?_, fun i h h' st kp => ?_, ?_, ?_, fun A i s Q E st h => wpAny_pyIter_zip st.1.1 h⟩
  · obtain ⟨⟨hz, hT⟩, ⟨x, y, hO⟩, h1, h2⟩ := st
    rcases five_cases hc with rfl | rfl | rfl | rfl | rfl
    · exact ⟨_, hz, fun _ q => nomatch q⟩
    · exact ⟨_, hT, fun _ q => nomatch q⟩
    · exact ⟨_, hO, fun _ q => nomatch q⟩
    · exact side_some h1
    · exact side_some h2
  · obtain ⟨⟨hz, hT⟩, ⟨x, y, hO⟩, h1, h2⟩ := st
    have up : ∀ c, c ∈ Five z TI TO i1 i2 → ∀ o, h.get? c = some o → h'.get? c = some o := kp
    exact ⟨⟨up _ (by simp) _ hz, up _ (by simp) _ hT⟩, ⟨x, y, up _ (by simp) _ hO⟩, side_at h1 (up _ (by simp)), side_at h2 (up _ (by simp))⟩
  · rintro X rfl rfl rfl hc i pins s σ H E I hf ⟨⟨hz, hT⟩, ⟨x0, y0, hO⟩, h1, h2⟩ ⟨xs, ys, x, y, qx, qy, hx, hy⟩
    obtain ⟨us, rx, ox, _⟩ := side_inv I qx
    obtain ⟨vs, ry, oy, _⟩ := side_inv I qy
    have hh := I.ok.hd hc
    have l1 : i < us.toArray.size := by
      rw [List.size_toArray, ← rx.length]
      exact (List.getElem?_eq_some_iff.mp hx).1
    have l2 : i < vs.toArray.size := by
      rw [List.size_toArray, ← ry.length]
      exact (List.getElem?_eq_some_iff.mp hy).1
    have hzl := Heap.lt_size hz
    refine wpAny_pyNext_zipD2_item (apart_sep D) (side_draws (A := X.A.in1) hh j i1 a D.l1i1 us.toArray) (side_draws (A := X.A.in1) hh k i2 b D.l2i2 vs.toArray) hz hT hO ⟨h1, ox⟩ ⟨h2, oy⟩ l1 l2 ?_
    rintro u1 u2 h' tk p1 p2 z' O' w1 w2 nT hsz kp
    refine ⟨_, rfl, wpAny_letOwnedTupleGo_zip (s := { s with heap := h', toks := tk }) z' fun h'' z'' sb => ?_⟩
    obtain ⟨v1, g1, r1⟩ := rx.get hx
    obtain ⟨v2, g2, r2⟩ := ry.get hy
    have e1 : u1 = v1 := by
      have : us[i]? = some u1 := by simpa using p1
      rw [g1] at this
      exact (Option.some.inj this).symm
    have e2 : u2 = v2 := by
      have : vs[i]? = some u2 := by simpa using p2
      rw [g2] at this
      exact (Option.some.inj this).symm
    subst e1
    subst e2
    have over : ∀ c o, c ≠ z → h'.get? c = some o → h''.get? c = some o := fun c o ne q => (sb.2 c ne).trans q
    have nT2 := over _ _ (Nat.ne_of_gt hzl) nT
    have ob : ObjOk X.prog X.w (upd H s.heap.objs.size (.tup [x, y])) h'' s.heap.objs.size (.tup [x, y]) := by
      refine ⟨?_, [u1, u2], .cons r1 (.cons r2 .nil), _, nT2, rfl, _, rfl⟩
      show 2 ≤ sizeLine
      decide
    have all : ∀ c o, c ∉ Five z TI TO i1 i2 → s.heap.get? c = some o → h''.get? c = some o := fun c o hb q => by
      obtain ⟨n1, n2, n3, n4, n5⟩ := five_not hb
      exact over c o n1 (kp c o n1 n3 n4 n5 q)
    have I1 := I.turnedNew (t' := tk) (ch := Five z TI TO i1 i2) all hf (Nat.le_refl _) ob
    refine ⟨.ref s.heap.objs.size, _, I1, rfl, ⟨_, x, y, rfl, I.hok.fresh (Nat.le_refl _), rfl, fun l hl => ?_, fun l hl => ?_⟩, ⟨⟨z'', ?_⟩, ⟨u1, u2, ?_⟩, ?_, ?_⟩, fun c hcm => ?_⟩
    · rw [side_one I qx hl]; exact hx
    · rw [side_one I qy hl]; exact hy
    · exact over _ _ D.TIz (kp _ _ D.TIz D.TITO D.TIi1 D.TIi2 hT)
    · exact over _ _ D.TOz O'
    · exact side_at w1.1 fun o q => over _ o D.i1z q
    · exact side_at w2.1 fun o q => over _ o D.i2z q
    · have hlt : c < s.heap.objs.size := by
        rcases five_cases hcm with rfl | rfl | rfl | rfl | rfl
        · exact hzl
        · exact Heap.lt_size hT
        · exact Heap.lt_size hO
        · obtain ⟨o, q, _⟩ := side_some h1
          exact Heap.lt_size q
        · obtain ⟨o, q, _⟩ := side_some h2
          exact Heap.lt_size q
      rw [upd_ne (Nat.ne_of_lt hlt)]
      exact (hf c hcm).1
  · rintro X rfl rfl rfl hc i pins s σ H E I hf ⟨⟨hz, hT⟩, ⟨x0, y0, hO⟩, h1, h2⟩ ⟨xs, ys, qx, qy, le1, le2, hend⟩
    obtain ⟨us, rx, ox, _⟩ := side_inv I qx
    obtain ⟨vs, ry, oy, _⟩ := side_inv I qy
    have hh := I.ok.hd hc
    rw [rx.length] at le1 hend
    rw [ry.length] at le2 hend
    refine wpAny_pyNext_zipD2_end (apart_sep D) (side_draws (A := X.A.in1) hh j i1 a D.l1i1 us.toArray) (side_draws (A := X.A.in1) hh k i2 b D.l2i2 vs.toArray) hz hT hO ⟨h1, ox⟩ ⟨h2, oy⟩ (by rw [List.size_toArray]; exact le1) (by rw [List.size_toArray]; exact le2) (by rw [List.size_toArray, List.size_toArray]; exact hend) ?_
    intro h' tk kp
    refine ⟨rfl, I.turnedL (t' := tk) (ch := Five z TI TO i1 i2) (fun c o hb q => ?_) hf⟩
    obtain ⟨n1, n2, n3, n4, n5⟩ := five_not hb
    exact kp c o n1 n3 n4 n5 q
end
end L2.Py
set_option maxRecDepth 100000
namespace L2.Py
open PySem PySem.Spec PyProof.Rows
section
variable {K : PySem.W.Frag} {X : Cx} {W : WX} {pins : List (Addr × Obj)} {σ : St} {H : Hp} {s : Shared} {j k : Bool} {a b : Addr} {xs ys : List V}
def begO (k : Bool) (l : Addr) : Obj := match k with
  | false => { cls := .type "list_iterator", data := .fields #[.ref l, .int 0 0] }
  | true => { cls := .type "tuple_iterator", data := .fields #[.ref l, .int 0 0] }
theorem side_begins (k : Bool) (l : Addr) (us : Array Value) : Begins (.ref l) (begO k l) fun h => ObB h k l us := by
  cases k with
  | false => exact begins_list l us
  | true => exact begins_tuple l us
theorem side_start {h : Heap} {k : Bool} {it l : Addr} (e : h.get? it = some (begO k l)) : WkB h k it l 0 := by
  cases k <;> exact ⟨_, e, rfl, rfl⟩
def iZipB (K : PySem.W.Frag) (ta : TA) : TI := fun σ H R => ta σ H fun vs H1 => ∃ j k a b xs ys, vs = [.ref a, .ref b] ∧ (SqB K H1 j a xs ∧ SqB K H1 k b ys) ∧ R (ItzB K j k a b) H1
theorem pi_zipB {e f : Expr} {ta : TA} {p pos tpos : Pos} {elts : List Expr} {kk : Nat} (hg : Gl X "zip") (hm : X.mg "zip" = none) (ha : PA X [e, f] ta)
    (hs : starEach [e, f] X.env = (false, eval e X.env) :: starEach [f] X.env := by rfl) (hpl : (backTo pos (starEach [f] X.env)).any (·.1) = false := by rfl) :
    PI X (.Tuple elts kk tpos) (.Call (.Name "zip" p) [e, f] [] pos) (iZipB X.K ta) := by
  constructor
  intro pins s σ H R I h
  refine Call_ (ld_blt I hg hm PyProof.Rows.boot_zip (PyProof.Rows.callWith_type1 (thn (ha.run pos pins s σ H _ I h) ?_) hs hpl))
  rintro us s1 ⟨vs, H1, I1, r1, j, k, a, b, xs, ys, rfl, ⟨qx, qy⟩, q⟩
  obtain ⟨v1, w1, rfl, ra, rb⟩ : ∃ v1 w1, us = [v1, w1] ∧ RelV (.ref a) v1 ∧ RelV (.ref b) w1 := by
    cases r1 with
    | cons r rr => cases rr with
      | cons r' rr => cases rr; exact ⟨_, _, rfl, r, r'⟩
  cases ra
  cases rb
  obtain ⟨its, rv, p1, la⟩ := side_inv I1 qx
  obtain ⟨its2, rv2, p2, lb⟩ := side_inv I1 qy
  refine zip_begins2 (side_begins j a its.toArray) (side_begins k b its2.toArray) p1 p2 ?_
  intro h' hz hT hO g1 g2 hsz hk
  refine wpAny_pyIter_zip hz ⟨_, Five _ _ _ _ _, _, _, H1, rfl, I1.kept (t' := s1.toks) hk, turn_zipB (PySem.W.ktu_apart s1.heap.objs.size a b la lb), ?_, fun c hcm => ?_, q⟩
  · exact ⟨⟨hz, hT⟩, ⟨_, _, hO⟩, side_start g1, side_start g2⟩
  · have hle : s1.heap.objs.size ≤ c := by
      rcases five_cases hcm with rfl | rfl | rfl | rfl | rfl
      · exact Nat.le_add_right _ _
      · exact Nat.le_add_right _ _
      · exact Nat.le_add_right _ _
      · exact Nat.le_refl _
      · exact Nat.le_add_right _ _
    exact I1.fpOk hle (I1.hok.fresh hle)
theorem sqb_same {H H' : Hp} (e : Same H H') (h : SqB K H k a xs) : SqB K H' k a xs := by
  cases k with
  | false => exact Same.seq e h
  | true => exact Same.sqt e h
theorem it_zipB {Hs : Hp} {p q : Addr} {xs ys : List V} {ds es : List D} (h : SqB K Hs j p xs) (r : Rps K Hs ds xs) (h' : SqB K Hs k q ys) (r' : Rps K Hs es ys) : ItOk K (ItzB K j k p q) Hs (zipD ds es) := by
  intro Hs1 H1 s1 s2 i
  have a1 := sqb_same s2 (sqb_same s1 h)
  have a2 := sqb_same s2 (sqb_same s1 h')
  refine ⟨fun d q => ?_, fun q => ?_⟩
  · obtain ⟨x, y, h1, h2, rfl⟩ := zip_get q
    obtain ⟨u, u1, u2⟩ := rps_get r h1
    obtain ⟨w, w1, w2⟩ := rps_get r' h2
    refine ⟨⟨xs, ys, u, w, a1, a2, u1, w1⟩, ?_⟩
    rintro v H' ⟨T, z, z', rfl, nT, rfl, e3, e4⟩
    have b1 := e3 xs a1
    rw [u1] at b1
    cases b1
    have b2 := e4 ys a2
    rw [w1] at b2
    cases b2
    exact ⟨_, new_tup s2 ⟨u, [w], rfl, Rp.mono s1 _ _ u2, w, [], rfl, Rp.mono s1 _ _ w2, rfl⟩ nT⟩
  · refine ⟨xs, ys, a1, a2, ?_⟩
    rw [zip_len] at q
    rw [← rps_len r, ← rps_len r']
    omega
def gZipM : List D → Option (List D)
  | [.lst a, .tup b] => some (zipD a b)
  | [.tup a, .lst b] => some (zipD a b)
  | ds => gZip ds
theorem ji_zipM {a b : Expr} {fl : SemL} {elts : List Expr} {kk : Nat} {p pos tpos : Pos} (hg : Gl X "zip") (hm : X.mg "zip" = none) (ha : JA X W [a, b] fl) (hs : starEach [a, b] X.env = (false, eval a X.env) :: starEach [b] X.env := by rfl) (hpl : (backTo pos (starEach [b] X.env)).any (·.1) = false := by rfl) :
    JI X W (.Tuple elts kk tpos) (.Call (.Name "zip" p) [a, b] [] pos) (sSh gZipM fl) :=
  PI_imp (pi_zipB hg hm ha hs hpl) fun σ H Rr h => sh_fin h fun ds out vs H1 Hs hg sb rr kf => by
    have key : ∀ {j k : Bool} {p q : Addr} {xs ys : List V} {as bs : List D}, vs = [.ref p, .ref q] → out = zipD as bs → SqB X.K Hs j p xs → Rps X.K Hs as xs → SqB X.K Hs k q ys → Rps X.K Hs bs ys →
        ∃ j k a b xs ys, vs = [.ref a, .ref b] ∧ (SqB X.K H1 j a xs ∧ SqB X.K H1 k b ys) ∧ Rr (ItzB X.K j k a b) H1 := fun {j k p q xs ys as bs} e1 e2 q1 r1 q2 r2 =>
      ⟨j, k, p, q, xs, ys, e1, ⟨sqb_same sb q1, sqb_same sb q2⟩, kf _ (e2 ▸ it_zipB q1 r1 q2 r2)⟩
    unfold gZipM at hg
    split at hg
    · cases hg
      obtain ⟨v, r, rfl, ⟨p, xs, rfl, h1, h2⟩, v', r', rfl, ⟨p', xs', rfl, h3, h4⟩, rfl⟩ := rr
      exact key (j := false) (k := true) rfl rfl (.inl (.inl h1)) h2 h3 h4
    · cases hg
      obtain ⟨v, r, rfl, ⟨p, xs, rfl, h1, h2⟩, v', r', rfl, ⟨p', xs', rfl, h3, h4⟩, rfl⟩ := rr
      exact key (j := true) (k := false) rfl rfl h1 h2 (.inl (.inl h3)) h4
    · unfold gZip at hg
      split at hg
      · cases hg
        obtain ⟨v, r, rfl, ⟨p, xs, rfl, h1, h2⟩, v', r', rfl, ⟨p', xs', rfl, h3, h4⟩, rfl⟩ := rr
        exact key (j := false) (k := false) rfl rfl (.inl (.inl h1)) h2 (.inl (.inl h3)) h4
      · cases hg
        obtain ⟨v, r, rfl, ⟨p, xs, rfl, h1, h2⟩, v', r', rfl, ⟨p', xs', rfl, h3, h4⟩, rfl⟩ := rr
        exact key (j := false) (k := false) rfl rfl (.inl (.inl h1)) h2 h3 h4
      · cases hg
        obtain ⟨v, r, rfl, ⟨p, xs, rfl, h1, h2⟩, v', r', rfl, ⟨p', xs', rfl, h3, h4⟩, rfl⟩ := rr
        exact key (j := false) (k := false) rfl rfl h1 h2 (.inl (.inl h3)) h4
      · cases hg
        obtain ⟨v, r, rfl, ⟨p, xs, rfl, h1, h2⟩, v', r', rfl, ⟨p', xs', rfl, h3, h4⟩, rfl⟩ := rr
        exact key (j := true) (k := true) rfl rfl h1 h2 h3 h4
      · cases hg
end
end L2.Py
set_option maxRecDepth 100000
namespace L2.Py
open PySem PySem.Spec PyProof.Rows
def leakE (i : Nat) (e : En) : En := match e[i]? with
  | some (some (d, fl)) => e.set i (some (d, fl.leak))
  | _ => e
def sLeak (i : Nat) (f : SemS) : SemS := fun e => f (leakE i e)
theorem js_leak {X : Cx} {W : WX} {st : Stmt} {f : SemS} {i : Nat} (h : JS X W st f) : JS X W st (sLeak i f) := PS_imp h fun D σ H ⟨vs0, Bk, Hs, e, fr, k⟩ => by
  unfold sLeak leakE at k
  split at k
  · rename_i d fl q
    have fr0 : Frm X.K vs0 (ext Bk H []) Hs H σ e := by rw [ext_nil]; exact fr
    obtain ⟨Hs1, v, g1, f1, _, _⟩ := fr0.leak q
    rw [ext_nil] at g1 f1
    exact ⟨vs0, Bk, Hs1, _, f1, k.grow g1⟩
  · exact ⟨vs0, Bk, Hs, e, fr, k⟩
end L2.Py
set_option maxRecDepth 100000
namespace L2.Py
open PySem PySem.Spec PyProof.Rows
def rUpdD : V → List V → Hp → VK → Prop := fun x vs H Q => ∃ p q kvs more, (x = .ref p ∧ vs = [.ref q] ∧ p ≠ q) ∧ H p = some (.dK kvs) ∧ Rd H q (.dK more) ∧ kvs.length + more.length ≤ sizeLine ∧ Q .non (upd H p (.dK (mergeK kvs more)))
theorem mt_updD {X : Cx} : MtM X "dict.update" rUpdD := by
  rintro pins s σ H x vs v us Q I rx rv ⟨p, q, kvs, more, ⟨rfl, rfl, hne⟩, h1, h2, hsz, hq⟩
  cases rx
  obtain ⟨u, rfl, ru⟩ := rv.one
  cases ru
  obtain ⟨_, hd1, ws, r0, d1⟩ := dk_of I.hok h1
  obtain ⟨_, hd2, rs, r2, d2⟩ := dk_rd I.hok h2
  refine call_meetsIn PySem.F.slot_dict_update d1.typeIs PySem.F.entry_dict_update (PySem.F.args_dict_update_2 _ _) (meets_dict_update (mixKind X.prog X.w) p q hne hd2) ⟨ws, rs, d1, d2, ?_, fun h' d1' _ hs => ?_⟩
  · rw [← r0.length, ← r2.length]
    exact hsz
  · have he : ∃ o, h'.get? p = some o := by
      obtain ⟨o, _, _, ho, _⟩ := d1'
      exact ⟨o, ho⟩
    exact ⟨.non, _, d_write I (by rw [h1]; trivial) hs he (dk_new (Nat.le_trans (length_mergeK more kvs) hsz) hd1 (r2.merge r0) d1'), rfl, hq⟩
def mUpdD : D → List D → Option (Tm × D)
  | .dct kd, [.dct more] => if kd.length + more.length ≤ line then some (.im .non, .dct (mergeD kd more)) else none
  | _, _ => none
def sMutD (i : Nat) (fl : SemL) (m : D → List D → Option (Tm × D)) : Sem := fun e => match e[i]? with
  | some (some (.dct kd, f0)) => if f0.own then match fl e with
    | .no => .no
    | .ex x e2 => .ex x e2
    | .ok ts e2 => match takeAll ts e2 with
      | none => .no
      | some (ts', e3) => match e3[i]? with
        | some (some (d, f)) => if f.own then match m d (ts'.map dOf) with
          | none => .no
          | some (t, d') => .ok t (e3.set i (some (d', f))) else .no
        | _ => .no
    else .no
  | _ => .no
section
variable {X : Cx} {W : WX} {o a : Expr} {fa : Sem} {fl : SemL} {apos cpos : Pos} {K : PySem.W.Frag}
theorem mu_updD : MutOk K mUpdD rUpdD := by
  intro Hs H p vs d ds t d' Q sb np ow rs q k
  unfold mUpdD at q
  split at q
  · rename_i kd more
    split at q
    · rename_i hl
      cases q
      obtain ⟨kvs, h1, h2⟩ := ow
      obtain ⟨v, r, rfl, ⟨b, zs, rfl, z1, z2⟩, rfl⟩ := rs
      have ne : p ≠ b := by
        rintro rfl
        rcases z1 with z | ⟨o, z⟩ <;> rw [np] at z <;> cases z
      refine ⟨p, b, kvs, zs, ⟨rfl, rfl, ne⟩, h1, Same.rd sb z1, ?_, k _ _ ⟨_, upd_same, merge_ok z2 h2⟩ ⟨_, rfl, rfl⟩⟩
      rw [rpk_len h2, rpk_len z2, ← line_eq]
      exact hl
    · cases q
  · cases q
theorem je_update {i : Nat} {x : Str} {p : Pos} (ho : JE X W (.Name x p) (sV i)) (ha : JE X W a fa) (hbase : attributeBase (.Name x p) "update" X.env (eval (.Name x p) X.env) = eval (.Name x p) X.env := by rfl)
    (hfew : ((backTo cpos (starEach [a] X.env)).all (fun x => !x.1) && (backToKw cpos (keywordEach [] X.env)).all (fun x => x.1.isSome)
      && decide ([a].length + ([] : List Keyword).length + (if ([] : List Keyword).isEmpty then 0 else 1) < 30)) = true := by rfl)
    (hline : (apos.endLine == cpos.line) = true := by rfl) (hs : starEach [a] X.env = (false, eval a X.env) :: starEach [] X.env := by rfl) (hplain : (backTo cpos (starEach [] X.env)).any (·.1) = false := by rfl) :
    JE X W (.Call (.Attribute (.Name x p) "update" apos) [a] [] cpos) (sMutD i (sCons fa sNil) mUpdD) :=
  PE_imp (pe_bm PySem.F.plainAttrs_dict PySem.F.slot_dict_update PySem.F.type_dict_update mt_updD ho (ja_cons ha ja_nil hs) hbase hfew hline hs hplain) fun σ H Q ⟨vs0, Bk, Hs, e, fr, h⟩ => by
    unfold sMutD at h
    split at h
    · rename_i kd f hd
      split at h
      · rename_i hown
        refine ⟨vs0, Bk, Hs, e, fr, ?_⟩
        unfold sV
        rw [hd]
        intro v Hs1 H1 g1 t1
        have hv : σ[i]? = some (some v) := t1.2
        have t1f := t1.frm
        obtain ⟨q, q1, ⟨kvs, q2, _⟩, _⟩ := t1f.ow i _ _ hd hown
        rw [hv] at q1
        cases q1
        refine ⟨.inr (.inr (.inl ⟨rfl, .inl ⟨kvs, q2⟩⟩)), vs0, Bk, Hs1, e, t1f, ?_⟩
        have h := h.grow g1
        cases z : sCons fa sNil e with
        | no => rw [z] at h; exact h
        | ex x e2 => rw [z] at h; exact h
        | ok ts e2 =>
          rw [z] at h
          intro vs Hs2 H2 g2 t2
          dsimp only at h
          split at h
          · exact h.elim
          · rename_i ts' e3 q3
            exact mut_fin (r := rUpdD) mu_updD t2 q3 hv (h.grow g2)
      · exact h.elim
    · exact h.elim
end
def sTry0 (f : SemS) : SemS := fun e => match f e with
  | .ex _ _ => .no
  | r => r
theorem js_try0 {X : Cx} {W : WX} {body : List Stmt} {h₀ : ExceptHandler} {hds : List ExceptHandler} {f : SemS} {pos : Pos} (hb : JSs X.nox NoX body f) : JS X W (.Try body (h₀ :: hds) [] [] pos) (sTry0 f) :=
  PS_imp (ps_try_thru0 hb) fun D σ H ⟨vs0, Bk, Hs, e, fr, h⟩ => by
    refine ⟨vs0, Bk, Hs, e, fr, ?_⟩
    unfold sTry0 at h
    cases q : f e with
    | ex x e1 => rw [q] at h; exact h.elim
    | no => rw [q] at h; exact h
    | nx e1 => rw [q] at h; exact h
    | bk e1 => rw [q] at h; exact h
    | ct e1 => rw [q] at h; exact h
    | rt t e1 => rw [q] at h; exact h
end L2.Py
set_option maxRecDepth 100000
namespace L2.Py
open PySem PySem.Spec PyProof.Rows
def CDict (K : PySem.W.Frag) (es : List DictEntry) (kd : List (Key × D)) : Prop :=
  ∀ k : Key, match getD kd k with
    | some d => ∃ v u, (es.find? fun e => keyIs k e.key).map (·.val) = some u ∧ RelV v u ∧ ∀ Hs, Rp K Hs d v
    | none => (es.find? fun e => keyIs k e.key).map (·.val) = none
inductive CEnt (w : World) (K : PySem.W.Frag) : List DictEntry → List (Key × D) → Prop
  | nil : CEnt w K [] []
  | cons {x : Str} {t : Tok} {u : Value} {v : V} {d : D} {es : List DictEntry} {kd : List (Key × D)} (r : RelV v u) (h : ∀ Hs, Rp K Hs d v) (l : CEnt w K es kd) : CEnt w K (⟨PyData.keyHash w.params x, .str x t, u⟩ :: es) ((.inr x, d) :: kd)
theorem CEnt.dict {w : World} {K : PySem.W.Frag} : ∀ {es : List DictEntry} {kd : List (Key × D)}, CEnt w K es kd → CDict K es kd
  | _, _, .nil => fun k => rfl
  | _, _, .cons (x := x) (t := t) (es := es) (kd := kd) (d := d) (u := u) (v := v) r h l => fun k => by
    have ih := l.dict k
    unfold getD at ih ⊢
    simp only [List.find?_cons]
    have e1 : keyIs k (.str x t) = decide ((Sum.inr x : Key) = k) := by
      cases k with
      | inl i => rw [key_rl]; rfl
      | inr y =>
        rw [key_rr]
        show Value.isStrOf y (.str x t) = _
        by_cases q : x = y
        · subst q; simp [Value.isStrOf]
        · rw [decide_eq_false q]
          have : ¬ y = x := fun e => q e.symm
          simp [Value.isStrOf, this, q]
    rw [e1]
    cases q : decide ((Sum.inr x : Key) = k) with
    | true => exact ⟨v, u, rfl, r, h⟩
    | false => exact ih
theorem CEnt.keys {P : Program} {w : World} {K : PySem.W.Frag} : ∀ {es : List DictEntry} {kd : List (Key × D)}, CEnt w K es kd → ∀ e ∈ es, ∃ k, (mixKind P w).is k e.key = true ∧ e.hash = (mixKind P w).hash k
  | _, _, .nil, _, h => nomatch h
  | _, _, .cons (x := x) (t := t) r h l, e, hm => by
    rcases List.mem_cons.mp hm with q | q
    · subst q
      exact ⟨.inr x, mixKind_str P w x t, rfl⟩
    · exact l.keys e q
structure CD (w : World) (K : PySem.W.Frag) (a : Addr) (kd : List (Key × D)) : Prop where
  ob : ∃ es n, K.lookup a = some ⟨.type "dict", none, .dict es n, #[]⟩ ∧ CEnt w K es.toList kd
  sys : (a == sysModules) = false
theorem cd_mk {w : World} {K : PySem.W.Frag} {a : Addr} {l : List DictEntry} {n : Nat} {kd : List (Key × D)} (h : K.lookup a = some ⟨.type "dict", none, .dict l.toArray n, #[]⟩) (c : CEnt w K l kd) (z : (a == sysModules) = false) : CD w K a kd := ⟨⟨l.toArray, n, h, by simpa using c⟩, z⟩
def gCG (kd : List (Key × D)) : List D → Option Tm
  | [y] => match keyD y with
    | none => none
    | some k => (getD kd k).map .im
  | _ => none
def gCI (neg : Bool) (kd : List (Key × D)) : List D → Option Tm
  | [y] => match keyD y with
    | none => none
    | some k => some (.im (.bl (if neg then !(getD kd k).isSome else (getD kd k).isSome)))
  | _ => none
def rCG (es : List DictEntry) : V → Hp → VK → Prop := fun y H Q => ∃ k v u, y = kV k ∧ (es.find? fun e => keyIs k e.key).map (·.val) = some u ∧ RelV v u ∧ Q v H
def rCI (neg : Bool) (es : List DictEntry) : V → Hp → VK → Prop := fun y H Q => ∃ k, y = kV k ∧ Q (.bl (if neg then !((es.find? fun e => keyIs k e.key).map (·.val)).isSome else ((es.find? fun e => keyIs k e.key).map (·.val)).isSome)) H
section
variable {K : PySem.W.Frag} {es : List DictEntry} {kd : List (Key × D)}
theorem pr_cg (c : CDict K es kd) : PureOk K (gCG kd) (r1 (rCG es)) := by
  intro Hs H vs ds t Q sb rd q k
  unfold gCG at q
  split at q
  · rename_i y
    split at q
    · cases q
    · rename_i ky hk
      obtain ⟨v, rfl, h1⟩ := rds1 rd
      have e := keyD_ok hk h1
      subst e
      have g := c ky
      cases z : getD kd ky with
      | none => rw [z] at q; cases q
      | some d =>
        rw [z] at q g
        cases q
        obtain ⟨v, u, u1, u2, u3⟩ := g
        exact ⟨_, rfl, ky, v, u, rfl, u1, u2, k _ _ _ (new_imm sb (u3 Hs))⟩
  · cases q
theorem pr_ci {neg : Bool} (c : CDict K es kd) : PureOk K (gCI neg kd) (r1 (rCI neg es)) := by
  intro Hs H vs ds t Q sb rd q k
  unfold gCI at q
  split at q
  · rename_i y
    split at q
    · cases q
    · rename_i ky hk
      cases q
      obtain ⟨v, rfl, h1⟩ := rds1 rd
      have e := keyD_ok hk h1
      subst e
      have g := c ky
      have e2 : (getD kd ky).isSome = ((es.find? fun e => keyIs ky e.key).map (·.val)).isSome := by
        cases z : getD kd ky with
        | none => rw [z] at g; dsimp only at g; rw [g]; rfl
        | some d =>
          rw [z] at g
          obtain ⟨v, u, u1, _⟩ := g
          rw [u1]
          rfl
      refine ⟨_, rfl, ky, rfl, ?_⟩
      rw [← e2]
      exact k _ _ _ (new_bl sb)
  · cases q
end
section
variable {X : Cx} {W : WX} {i : Expr} {pos p : Pos} {x : Str} {a : Addr} {es : Array DictEntry} {n : Nat} {kd : List (Key × D)} {ty : TE} {fk : Sem}
theorem cd_map {pins : List (Addr × Obj)} {σ : St} {H : Hp} {s : Shared} (I : Inv X pins σ H s) (l : X.K.lookup a = some ⟨.type "dict", none, .dict es n, #[]⟩) (c : CEnt X.w X.K es.toList kd) : s.heap.MapOf (mixKind X.prog X.w) a fun k => (es.toList.find? fun e => keyIs k e.key).map (·.val) :=
  ⟨_, es, _, I.bk _ _ (I.mod.kin _ _ l), ⟨rfl, rfl, rfl⟩, rfl, fun e he => c.keys e (by simpa using he), fun k => by
    unfold findBy
    rw [← Array.find?_toList]
    rfl⟩
theorem pe_cget (hg : Gl X x) (hm : X.mg x = some (.ref a)) (l : X.K.lookup a = some ⟨.type "dict", none, .dict es n, #[]⟩) (c : CEnt X.w X.K es.toList kd) (hi : PE X i ty) (hs : L2.NoSl i) (hd : (x == ("__debug__" : Str)) = false) :
    PE X (.Subscript (.Name x p) i pos) fun σ H Q => ty σ H fun y H1 => rCG es.toList y H1 Q := by
  refine ⟨fun pins s σ H Q I h => ?_⟩
  refine subD_of PySem.F.slot_dict_getitem.lookup hs (thn ((pe_glob hg hm (v := .ref a) rfl hd).run pins s σ H (fun x H1 => x = .ref a ∧ ty σ H1 fun y H2 => rCG es.toList y H2 Q) I ⟨rfl, h⟩) fun u s1 ⟨x, H1, I1, rx, ex, q1⟩ => thn (hi.run pins s1 σ H1 _ I1 q1) fun iv s2 ⟨y, H2, I2, ry, k, v, u2, ey, hv, rv, q2⟩ => ?_)
  subst ex ey
  obtain rfl : u = Value.ref a := rx
  have dd := cd_map I2 l c
  exact ⟨dd.typeIs, wpAny_getItem_of (kV_is ry) dd hv ⟨v, H2, I2.tok _, rv, q2⟩⟩
theorem pc_cin (hg : Gl X x) (hm : X.mg x = some (.ref a)) (l : X.K.lookup a = some ⟨.type "dict", none, .dict es n, #[]⟩) (hz : (a == sysModules) = false) (c : CEnt X.w X.K es.toList kd) (hi : PE X i ty) (hd : (x == ("__debug__" : Str)) = false) :
    PC X .In i (.Name x p) fun σ H Q => ty σ H fun y H1 => rCI false es.toList y H1 Q := by
  refine ⟨fun pins s σ H Q I h => ?_⟩
  refine thn (hi.run pins s σ H _ I h) fun iv s1 ⟨y, H1, I1, ry, q1⟩ => thn ((pe_glob hg hm (v := .ref a) rfl hd).run pins s1 σ H1 (fun x H2 => x = .ref a ∧ rCI false es.toList y H2 Q) I1 ⟨rfl, q1⟩) fun u s2 ⟨x, H2, I2, rx, ex, k, ey, q2⟩ => ?_
  subst ex ey
  obtain rfl : u = Value.ref a := rx
  have dd := cd_map I2 l c
  exact wpAny_in_of (kV_is ry) hz dd ⟨.bl _, H2, I2.tok _, rfl, q2⟩
theorem je_cget (hg : Gl X x) (hm : X.mg x = some (.ref a)) (c : CD X.w X.K a kd) (hi : JE X W i fk) (hs : L2.NoSl i := by exact fun _ _ => rfl) (hd : (x == ("__debug__" : Str)) = false := by decide) : JE X W (.Subscript (.Name x p) i pos) (sOp (gCG kd) (sCons fk sNil)) := by
  obtain ⟨es, n, l, c1⟩ := c.ob
  exact PE_imp (pe_cget hg hm l c1 hi hs hd) fun _ _ _ h => one_fin (pr_cg c1.dict) h
theorem je_cin (hg : Gl X x) (hm : X.mg x = some (.ref a)) (c : CD X.w X.K a kd) (hi : JE X W i fk) (hd : (x == ("__debug__" : Str)) = false := by decide) (hb : behindInMarks .In (.Name x p) = false := by with_unfolding_all rfl) : JE X W (.Compare i [.In] [.Name x p] pos) (sOp (gCI false kd) (sCons fk sNil)) := by
  obtain ⟨es, n, l, c1⟩ := c.ob
  exact PE_imp (pe_cmp (pc_cin hg hm l c.sys c1 hi hd) hb) fun _ _ _ h => one_fin (pr_ci c1.dict) h
theorem jb_cin (hg : Gl X x) (hm : X.mg x = some (.ref a)) (c : CD X.w X.K a kd) (hi : JE X W i fk) (hd : (x == ("__debug__" : Str)) = false := by decide) (hb : behindInMarks .In (.Name x p) = false := by with_unfolding_all rfl) : JB X W (.Compare i [.In] [.Name x p] pos) (sTruC (sOp (gCI false kd) (sCons fk sNil))) := by
  obtain ⟨es, n, l, c1⟩ := c.ob
  exact PT_imp (pt_cmp (pc_cin hg hm l c.sys c1 hi hd) hb) fun _ _ _ h => one_fin (pr_ci c1.dict) (truC_fin h)
end
end L2.Py
set_option maxRecDepth 100000
namespace L2.Py
open PySem PySem.Spec PyProof.Rows
def sLeakA (i : Nat) (f : SemS) : SemS := fun e => match f e with
  | .nx e' => .nx (leakE i e')
  | r => r
theorem js_leakA {X : Cx} {W : WX} {st : Stmt} {f : SemS} {i : Nat} (h : JS X W st f) : JS X W st (sLeakA i f) := PS_imp h fun D σ H ⟨vs0, Bk, Hs, e, fr, k⟩ => by
  refine ⟨vs0, Bk, Hs, e, fr, ?_⟩
  unfold sLeakA at k
  cases q : f e with
  | nx e' =>
    rw [q] at k
    intro σ1 Hs1 H1 g1 f1
    have k : ∀ σ' Hs' H', Grow Bk Hs Hs' → Frm X.K vs0 Bk Hs' H' σ' (leakE i e') → D.nx σ' H' := k
    unfold leakE at k
    split at k
    · rename_i d fl z
      have fr0 : Frm X.K vs0 (ext Bk H1 []) Hs1 H1 σ1 e' := by rw [ext_nil]; exact f1
      obtain ⟨Hs2, v, g2, f2, _, _⟩ := fr0.leak z
      rw [ext_nil] at g2 f2
      exact k σ1 Hs2 H1 (g1.trans g2) f2
    · exact k σ1 Hs1 H1 g1 f1
  | _ => rw [q] at k; exact k
end L2.Py
set_option maxRecDepth 10000
namespace L2.Py
def eU : Unit → D := fun _ => .non
def eA : D → D := fun d => d
def eL {α : Type} (m : α → D) (l : List α) : D := .lst (l.map m)
def eV {α : Type} (m : α → D) (l : List α) : D := .tup (l.map m)
def eSc (l : List Int) : D := .scr (l.map .int)
def e0 : Unit → D := fun _ => .tup []
def e1 {α : Type} (a : α → D) (x : α) : D := .tup [a x]
def e2 {α β : Type} (a : α → D) (b : β → D) (x : α × β) : D := .tup [a x.1, b x.2]
def e3 {α β γ : Type} (a : α → D) (b : β → D) (c : γ → D) (x : α × β × γ) : D := .tup [a x.1, b x.2.1, c x.2.2]
def e4 {α β γ δ : Type} (a : α → D) (b : β → D) (c : γ → D) (d : δ → D) (x : α × β × γ × δ) : D := .tup [a x.1, b x.2.1, c x.2.2.1, d x.2.2.2]
def eO {α : Type} (m : α → D) : Option α → D
  | none => .non
  | some x => m x
def eM {α : Type} (m : α → D) (l : List (Int × α)) : D := .dct (l.map fun p => (Sum.inl p.1, m p.2))
def eMS {α : Type} (m : α → D) (l : List (PySem.Str × α)) : D := .dct (l.map fun p => (Sum.inr p.1, m p.2))
def sO {α : Type} (m : α → D) (f : Fl) : Option α → Slot
  | none => none
  | some x => some (m x, f)
def flb : Bool → Fl
  | true => .mv
  | false => .sh
def tmb (b : Bool) (d : D) : Tm := match b with
  | true => .ow d
  | false => .im d
theorem bndE {α β : Type} {x : Option α} {f : α → Option β} {v : β} {C : Prop} (h : x.bind f = some v) (k : ∀ y, x = some y → f y = some v → C) : C := by
  cases x with
  | none => cases h
  | some y => exact k y rfl h
theorem gdE {β : Type} {p : Prop} [Decidable p] {k : Option β} {v : β} {C : Prop} (h : (if p then k else none) = some v) (q : p → k = some v → C) : C := by
  by_cases hp : p
  · rw [if_pos hp] at h
    exact q hp h
  · rw [if_neg hp] at h
    cases h
theorem reE {α : Type} {x v : α} {M : α → Prop} (h : some x = some v) (k : M x) : M v := by
  cases h
  exact k
theorem noE {α : Type} {v : α} {C : Prop} (h : (none : Option α) = some v) : C := nomatch h
theorem ifE {α : Type} {b : Bool} {x y : Option α} {v : α} {C : Prop} (h : (if b = true then x else y) = some v) (k1 : b = true → x = some v → C) (k2 : b = false → y = some v → C) : C := by
  cases b with
  | true => exact k1 rfl h
  | false => exact k2 rfl h
def gfor {α σ : Type} (b : σ → α → Option σ) : List α → σ → Option σ
  | [], s => some s
  | x :: l, s => (b s x).bind fun s' => gfor b l s'
def gwhile {σ : Type} (c : σ → Option Bool) (b : σ → Option σ) : Nat → σ → Option σ
  | 0, _ => none
  | n + 1, s => (c s).bind fun k => if k = true then (b s).bind fun s' => gwhile c b n s' else some s
def gforR {α σ ρ : Type} (b : σ → α → Option (σ ⊕ ρ)) : List α → σ → Option (σ ⊕ ρ)
  | [], s => some (.inl s)
  | x :: l, s => (b s x).bind fun r => match r with
    | .inl s' => gforR b l s'
    | .inr v => some (.inr v)
def mapO {α β : Type} (f : α → Option β) : List α → Option (List β)
  | [] => some []
  | x :: l => (f x).bind fun y => (mapO f l).bind fun r => some (y :: r)
def filO {α β : Type} (f : α → Option (Option β)) : List α → Option (List β)
  | [] => some []
  | x :: l => (f x).bind fun y => (filO f l).bind fun r => some (match y with
    | none => r
    | some z => z :: r)
def mapS {α β σ : Type} (f : σ → α → Option (β × σ)) : List α → σ → Option (List β × σ)
  | [], s => some ([], s)
  | x :: l, s => (f s x).bind fun y => (mapS f l y.2).bind fun r => some (y.1 :: r.1, r.2)
section
variable {α β γ σ : Type} {e e' e'' : En} {f fa fb fc : Sem} {fl : SemL} {t ta tb tc : Tm} {ts ts' : List Tm} {d da db dc : D} {i : Nat}
theorem v_ok {x : D × Fl} (h : e[i]? = some (some x)) : sV i e = .ok (.sl i) e := by
  unfold sV
  rw [h]
theorem k_ok (d : D) : sK d e = .ok (.im d) e := rfl
theorem cv {t' : Tm} (h : f e = .ok t e') (q : t = t') : f e = .ok t' e' := q ▸ h
theorem nil_ok : sNil e = .ok [] e := rfl
theorem cons_ok (h : fa e = .ok t e') (h2 : fl e' = .ok ts e'') : sCons fa fl e = .ok (t :: ts) e'' := by
  unfold sCons
  rw [h]
  dsimp only
  rw [h2]
theorem op_ok {g : List D → Option Tm} {ds : List D} (h : fl e = .ok ts e') (h2 : getAll e' ts = some ds) (h3 : g ds = some t) : sOp g fl e = .ok t e' := by
  unfold sOp
  rw [h]
  show sPure g ts e' = _
  unfold sPure
  rw [h2]
  dsimp only
  rw [h3]
theorem op1 {g : List D → Option Tm} (h : fa e = .ok ta e') (h2 : ta.get e' = some da) (h3 : g [da] = some t) : sOp g (sCons fa sNil) e = .ok t e' :=
  op_ok (cons_ok h nil_ok) (by simp only [getAll, h2]) h3
theorem op2 {g : List D → Option Tm} (h : fa e = .ok ta e') (h' : fb e' = .ok tb e'') (h2 : ta.get e'' = some da) (h2' : tb.get e'' = some db) (h3 : g [da, db] = some t) : sOp g (s2 fa fb) e = .ok t e'' :=
  op_ok (cons_ok h (cons_ok h' nil_ok)) (by simp only [getAll, h2, h2']) h3
theorem op2' {g : List D → Option Tm} (h : fa e = .ok ta e') (h' : fb e' = .ok tb e'') (h2 : ta.get e'' = some da) (h2' : tb.get e'' = some db) (h3 : g [da, db] = some t) : sOp g (sCons fa (sCons fb sNil)) e = .ok t e'' :=
  op2 h h' h2 h2' h3
theorem tup_ok {e3 : En} (h : fl e = .ok ts e') (h2 : takeAll ts e' = some (ts', e3)) (h3 : decide (ts'.length ≤ line) = true) (h4 : .tup (ts'.map dOf) = d) : sTup fl e = .ok (.im d) e3 := by
  unfold sTup
  rw [h]
  dsimp only
  rw [h2]
  dsimp only
  rw [if_pos (of_decide_eq_true h3), h4]
theorem lst_ok {e3 : En} (h : fl e = .ok ts e') (h2 : takeAll ts e' = some (ts', e3)) (h3 : decide (ts'.length ≤ line) = true) (h4 : .lst (ts'.map dOf) = d) : sLst fl e = .ok (.ow d) e3 := by
  unfold sLst
  rw [h]
  dsimp only
  rw [h2]
  dsimp only
  rw [if_pos (of_decide_eq_true h3), h4]
theorem getO {m : α → D} {o : Option α} {x : α} (h : t.get e = some (eO m o)) (q : o = some x) : t.get e = some (m x) := by
  rw [h, q]
  rfl
theorem getA {d' : D} (h : t.get e = some d) (q : d = d') : t.get e = some d' := by rw [h, q]
section
variable {c c1 c2 : SemB} {b b1 b2 : Bool}
theorem truC_ok (h : f e = .ok (.im (.bl b)) e') : sTruC f e = .ok b e' := by
  unfold sTruC
  rw [h]
theorem tru_ok (h : f e = .ok t e') (h1 : t.get e' = some d) (h2 : truD d = some b) : sTru f e = .ok b e' := tru_run h h1 h2
theorem not_ok (h : c e = .ok b e') : sNotB c e = .ok (!b) e' := not_run h
theorem and_ok (h : c1 e = .ok b1 e') (h2 : b1 = true → c2 e' = .ok b2 e') : sAndB c1 c2 e = .ok (b1 && b2) e' := by
  unfold sAndB
  rw [h]
  cases b1 with
  | true => exact h2 rfl
  | false => rfl
theorem or_ok (h : c1 e = .ok b1 e') (h2 : b1 = false → c2 e' = .ok b2 e') : sOrB c1 c2 e = .ok (b1 || b2) e' := by
  unfold sOrB
  rw [h]
  cases b1 with
  | true => rfl
  | false => exact h2 rfl
theorem and_g {o : Option Bool} (h : c1 e = .ok b1 e') (h2 : o = some b → c2 e' = .ok b e'') (hv : (if b1 = true then o else some false) = some b) (he : e'' = e') : sAndB c1 c2 e = .ok b e'' := by
  unfold sAndB
  rw [h]
  cases b1 with
  | true => exact h2 hv
  | false => cases hv; rw [he]
theorem or_g {o : Option Bool} (h : c1 e = .ok b1 e') (h2 : o = some b → c2 e' = .ok b e'') (hv : (if b1 = true then some true else o) = some b) (he : e'' = e') : sOrB c1 c2 e = .ok b e'' := by
  unfold sOrB
  rw [h]
  cases b1 with
  | true => cases hv; rw [he]
  | false => exact h2 hv
theorem andV_g {o : Option Bool} (h : fa e = .ok ta e') (h1 : ta.get e' = some (.bl b1)) (h2 : o = some b → fb e' = .ok (.im (.bl b)) e') (hv : (if b1 = true then o else some false) = some b) (ht : ta = .im (.bl b1)) : sAndV fa fb e = .ok (.im (.bl b)) e' := by
  unfold sAndV
  rw [h]
  dsimp only
  rw [h1]
  dsimp only [truD]
  cases b1 with
  | true => exact h2 hv
  | false => cases hv; rw [ht]; rfl
theorem orV_g {o : Option Bool} (h : fa e = .ok ta e') (h1 : ta.get e' = some (.bl b1)) (h2 : o = some b → fb e' = .ok (.im (.bl b)) e') (hv : (if b1 = true then some true else o) = some b) (ht : ta = .im (.bl b1)) : sOrV fa fb e = .ok (.im (.bl b)) e' := by
  unfold sOrV
  rw [h]
  dsimp only
  rw [h1]
  dsimp only [truD]
  cases b1 with
  | true => cases hv; rw [ht]; rfl
  | false => exact h2 hv
theorem notV_ok (h : f e = .ok t e') (h1 : t.get e' = some d) (h2 : truD d = some b) : sNotV f e = .ok (.im (.bl !b)) e' := by
  unfold sNotV
  rw [h]
  dsimp only
  rw [h1]
  dsimp only
  rw [h2]
theorem ite_g {o1 o2 : Option α} {v : α} {T : α → Tm} (h : c e = .ok b e') (hv : (if b = true then o1 else o2) = some v) (h1 : o1 = some v → fa e' = .ok (T v) e'') (h2 : o2 = some v → fb e' = .ok (T v) e'') : sIte c fa fb e = .ok (T v) e'' := by
  unfold sIte
  rw [h]
  cases b with
  | true => exact h1 hv
  | false => exact h2 hv
theorem ite_p {x y : α} {T : α → Tm} (h : c e = .ok b e') (h1 : b = true → fa e' = .ok (T x) e'') (h2 : b = false → fb e' = .ok (T y) e'') : sIte c fa fb e = .ok (T (if b = true then x else y)) e'' := by
  unfold sIte
  rw [h]
  cases b with
  | true => exact h1 rfl
  | false => exact h2 rfl
theorem yes_ok : sYes e = .ok true e := rfl
end
theorem call_ok {F : Fn} {us : List Lent} {as : List (D × Fl)} {fin : En} {e3 : En} (h : fl e = .ok ts e') (h2 : outAll ts e' = some (us, e'')) (ha : us.map argOf = as) (hf : F as = .ok t fin) (hn : NoSl t) (hb : backAll us fin e'' = some e3) : sCall F fl e = .ok t e3 := by
  unfold sCall
  rw [h]
  dsimp only
  unfold sCallT
  rw [h2]
  dsimp only
  unfold sCallU
  rw [ha, hf]
  cases t with
  | sl i => exact hn.elim
  | im d => dsimp only; rw [hb]
  | ow d => dsimp only; rw [hb]
theorem pick_ok {pm : List Nat} {fs : List Sem} {ts1 : List Tm} (h : sList fs e = .ok ts e') (h2 : pm.length = ts.length ∧ pm.Nodup) (h3 : L2.Py.pick pm ts = ts1) : sPick pm (sList fs) e = .ok ts1 e' := by
  unfold sPick
  rw [h]
  dsimp only
  rw [if_pos h2, h3]
def unp : Slot → Bool
  | none => true
  | some (_, f) => !f.pin
theorem unp_o {m : α → D} {o : Option α} : unp (sO m .sh o) = true := by cases o <;> rfl
theorem unp_b {x : D} {b : Bool} : unp (some (x, flb b)) = true := by cases b <;> rfl
theorem unp_ob {m : α → D} {b : Bool} {o : Option α} : unp (sO m (flb b) o) = true := by cases o <;> cases b <;> rfl
theorem put_u {s : Slot} {fl : Fl} (h : e[i]? = some s) (u : unp s = true) : put i d fl e = some (e.set i (some (d, fl))) := by
  unfold put
  rw [h]
  cases s with
  | none => rfl
  | some x =>
    obtain ⟨y, f⟩ := x
    unfold unp at u
    dsimp only
    rw [if_neg (by cases q : f.pin <;> simp_all)]
theorem set_i {s : Slot} {e3 : En} (h : f e = .ok t e') (h1 : takeT t e' = some (.im d, e'')) (h2 : e''[i]? = some s) (u : unp s = true) (q : e''.set i (some (d, .sh)) = e3) : sSet i f e = .nx e3 := by
  subst q
  unfold sSet
  rw [h]
  dsimp only
  rw [h1]
  show (match put i d .sh e'' with
    | none => RS.no
    | some e3 => .nx e3) = _
  rw [put_u h2 u]
theorem set_o {s : Slot} {e3 : En} (h : f e = .ok t e') (h1 : takeT t e' = some (.ow d, e'')) (h2 : e''[i]? = some s) (u : unp s = true) (q : e''.set i (some (d, .mv)) = e3) : sSet i f e = .nx e3 := by
  subst q
  unfold sSet
  rw [h]
  dsimp only
  rw [h1]
  show (match put i d .mv e'' with
    | none => RS.no
    | some e3 => .nx e3) = _
  rw [put_u h2 u]
theorem set_b {s : Slot} {e3 : En} {b : Bool} (h : f e = .ok (tmb b d) e') (h2 : e'[i]? = some s) (u : unp s = true) (q : e'.set i (some (d, flb b)) = e3) : sSet i f e = .nx e3 := by
  subst q
  cases b with
  | true => exact set_o h rfl h2 u rfl
  | false => exact set_i h rfl h2 u rfl
theorem expr_ok (h : f e = .ok t e') : sExpr f e = .nx e' := by
  unfold sExpr
  rw [h]
theorem gn_ok {s : Slot} (h : e[i]? = some s) (u : unp s = true) (q : e.set i (some (d, .sh)) = e') : gN i (.im d) e = some e' := q ▸ put_u h u
theorem gn_ow {s : Slot} (h : e[i]? = some s) (u : unp s = true) (q : e.set i (some (d, .mv)) = e') : gN i (.ow d) e = some e' := q ▸ put_u h u
theorem gsn_ok : gsNil [] e = some e := rfl
theorem gsc_ok {g : G} {gs : List D → En → Option En} {ds : List D} (h : g (.im d) e = some e') (h2 : gs ds e' = some e'') : gsCons g gs (d :: ds) e = some e'' := by
  show (match g (.im d) e with
    | none => none
    | some e1 => gs ds e1) = _
  rw [h]
  exact h2
theorem gt_ok {gs : List D → En → Option En} {ds : List D} (q : d = .tup ds) (h : gs ds e = some e') : gT gs (.im d) e = some e' := by
  subst q
  exact h
theorem asg_ok {g : G} {e3 : En} (h : f e = .ok t e') (h1 : takeT t e' = some (ta, e'')) (h2 : g ta e'' = some e3) : sAsg g f e = .nx e3 := by
  unfold sAsg
  rw [h]
  dsimp only
  rw [h1]
  dsimp only
  rw [h2]
theorem par_ok {is : List Nat} {e3 : En} (h : fl e = .ok ts e') (h1 : takeAll ts e' = some (ts', e'')) (h2 : storeAll is ts' e'' = some e3) : sPar is fl e = .nx e3 := by
  unfold sPar
  rw [h]
  dsimp only
  rw [h1]
  dsimp only
  rw [h2]
theorem st_nil : storeAll [] [] e = some e := rfl
theorem st_cons {is : List Nat} {s : Slot} (h : e[i]? = some s) (u : unp s = true) (q : e.set i (some (d, .sh)) = e') (h2 : storeAll is ts e' = some e'') : storeAll (i :: is) (.im d :: ts) e = some e'' := by
  subst q
  show (match put i d .sh e with
    | none => none
    | some e1 => storeAll is ts e1) = _
  rw [put_u h u]
  exact h2
theorem st_conso {is : List Nat} {s : Slot} (h : e[i]? = some s) (u : unp s = true) (q : e.set i (some (d, .mv)) = e') (h2 : storeAll is ts e' = some e'') : storeAll (i :: is) (.ow d :: ts) e = some e'' := by
  subst q
  show (match put i d .mv e with
    | none => none
    | some e1 => storeAll is ts e1) = _
  rw [put_u h u]
  exact h2
def RtF (np : Nat) (s : SemS) (e : En) (t : Tm) (F : En) : Prop := ∃ e', s e = .rt t e' ∧ fins np e' = F
variable {S S1 S2 : SemS} {np : Nat} {F : En}
theorem fn_seq (h : S1 e = .nx e') (k : RtF np S2 e' t F) : RtF np (sSeq S1 S2) e t F := by
  obtain ⟨e2, h1, h2⟩ := k
  exact ⟨e2, sq_nx h h1, h2⟩
theorem fn_ret (h : f e = .ok t e') (h1 : retT t e' = some (ta, e'')) (h2 : fins np e'' = F) : RtF np (sRet f) e ta F := by
  refine ⟨e'', ?_, h2⟩
  unfold sRet
  rw [h]
  dsimp only
  rw [h1]
theorem fn_rets (h : RtF np S e t F) : RtF np (sSeq S S2) e t F := by
  obtain ⟨e2, h1, h2⟩ := h
  exact ⟨e2, sq_rt h1, h2⟩
theorem nx_seq {e3 : En} (h : S1 e = .nx e') (k : S2 e' = .nx e3) : sSeq S1 S2 e = .nx e3 := sq_nx h k
theorem fn_if {c : SemB} {b : Bool} (h : c e = .ok b e') (k1 : b = true → RtF np S1 e' t F) (k2 : b = false → RtF np S2 e' t F) : RtF np (sIf c S1 S2) e t F := by
  cases b with
  | true =>
    obtain ⟨e2, h1, h2⟩ := k1 rfl
    exact ⟨e2, if_t h h1, h2⟩
  | false =>
    obtain ⟨e2, h1, h2⟩ := k2 rfl
    exact ⟨e2, if_f h h1, h2⟩
theorem fn_ifr {c : SemB} {b : Bool} {e3 : En} (h : c e = .ok b e') (k1 : b = true → RtF np S1 e' t F) (k2 : b = false → S2 e' = .nx e3 ∧ RtF np S e3 t F) : RtF np (sSeq (sIf c S1 S2) S) e t F := by
  cases b with
  | true =>
    obtain ⟨e2, h1, h2⟩ := k1 rfl
    exact ⟨e2, sq_rt (if_t h h1), h2⟩
  | false =>
    obtain ⟨q, e2, h1, h2⟩ := k2 rfl
    exact ⟨e2, sq_nx (if_f h q) h1, h2⟩
theorem nx_if {c : SemB} {b : Bool} {e3 : En} (h : c e = .ok b e') (k1 : b = true → S1 e' = .nx e3) (k2 : b = false → S2 e' = .nx e3) : sIf c S1 S2 e = .nx e3 := by
  cases b with
  | true => exact if_t h (k1 rfl)
  | false => exact if_f h (k2 rfl)
theorem skip_ok : sSkip e = .nx e := rfl
theorem def_ok {n : Nat} {as : List (D × Fl)} {body : SemS} (hl : as.length = np) (h : RtF np body (as.map some ++ List.replicate (n - np) none) t F) : fnD np n body as = .ok t F := by
  obtain ⟨e2, h1, h2⟩ := h
  rw [fn_rt hl h1, h2]
theorem def_nx {n : Nat} {as : List (D × Fl)} {body : SemS} (hl : as.length = np) (h : body (as.map some ++ List.replicate (n - np) none) = .nx e') (hF : fins np e' = F) : fnD np n body as = .ok (.im .non) F := by
  unfold fnD
  rw [if_pos hl, h]
  dsimp only
  rw [hF]
theorem for_ok {m : α → D} {g : G} {fb : SemS} {P : σ → En} {b : σ → α → Option σ} (hb : ∀ s x s', b s x = some s' → ∃ e1, g (.im (m x)) (P s) = some e1 ∧ fb e1 = .nx (P s')) : ∀ (l : List α) (s s' : σ), gfor b l s = some s' → forN g fb (l.map m) (P s) = .nx (P s')
  | [], s, s', h => by
    cases h
    rfl
  | x :: l, s, s', h => by
    refine bndE h fun s1 h1 h2 => ?_
    obtain ⟨e1, k1, k2⟩ := hb s x s1 h1
    rw [List.map_cons]
    unfold forN
    rw [k1]
    dsimp only
    rw [k2]
    exact for_ok hb l s1 s' h2
theorem nx_for {m : α → D} {g : G} {it : SemI} {fb : SemS} {P : σ → En} {b : σ → α → Option σ} {l : List α} {s s' : σ} (hi : it e = .ok (l.map m) e') (he : e' = P s) (h : gfor b l s = some s') (hb : ∀ s x s', b s x = some s' → ∃ e1, g (.im (m x)) (P s) = some e1 ∧ fb e1 = .nx (P s')) : sFor g it fb e = .nx (P s') :=
  for_run hi (by rw [he]; exact for_ok hb l s s' h)
theorem forR_ok {ρ : Type} {m : α → D} {g : G} {fb : SemS} {P : σ → En} {b : σ → α → Option (σ ⊕ ρ)} {T : ρ → Tm} {Fi : ρ → En} (hb : ∀ s x r, b s x = some r → ∃ e1, g (.im (m x)) (P s) = some e1 ∧ match r with
      | .inl s' => fb e1 = .nx (P s')
      | .inr v => RtF np fb e1 (T v) (Fi v)) : ∀ (l : List α) (s : σ) (r : σ ⊕ ρ), gforR b l s = some r → match r with
      | .inl s' => forN g fb (l.map m) (P s) = .nx (P s')
      | .inr v => RtF np (forN g fb (l.map m)) (P s) (T v) (Fi v)
  | [], s, r, h => by
    cases h
    rfl
  | x :: l, s, r, h => by
    refine bndE h fun r1 h1 h2 => ?_
    obtain ⟨e1, k1, k2⟩ := hb s x r1 h1
    rw [List.map_cons]
    cases r1 with
    | inl s1 =>
      dsimp only at k2 h2
      have ih := forR_ok hb l s1 r h2
      cases r with
      | inl s' =>
        dsimp only at ih ⊢
        unfold forN
        rw [k1]
        dsimp only
        rw [k2]
        exact ih
      | inr v =>
        dsimp only at ih ⊢
        obtain ⟨e2, j1, j2⟩ := ih
        refine ⟨e2, ?_, j2⟩
        unfold forN
        rw [k1]
        dsimp only
        rw [k2]
        exact j1
    | inr v =>
      cases h2
      dsimp only at k2 ⊢
      obtain ⟨e2, j1, j2⟩ := k2
      refine ⟨e2, ?_, j2⟩
      unfold forN
      rw [k1]
      dsimp only
      rw [j1]
def RN {ρ : Type} (np : Nat) (S : SemS) (e : En) (P : σ → En) (T : ρ → Tm) (Fi : ρ → En) : σ ⊕ ρ → Prop
  | .inl s => S e = .nx (P s)
  | .inr v => RtF np S e (T v) (Fi v)
theorem rn_for {ρ : Type} {m : α → D} {g : G} {it : SemI} {fb : SemS} {P : σ → En} {b : σ → α → Option (σ ⊕ ρ)} {T : ρ → Tm} {Fi : ρ → En} {l : List α} {s : σ} {r : σ ⊕ ρ} (hi : it e = .ok (l.map m) e') (he : e' = P s) (h : gforR b l s = some r) (hb : ∀ s x r, b s x = some r → ∃ e1, g (.im (m x)) (P s) = some e1 ∧ RN np fb e1 P T Fi r) : RN np (sFor g it fb) e P T Fi r := by
  have := forR_ok (np := np) (T := T) (Fi := Fi) (P := P) (m := m) (g := g) (fb := fb) (b := b) (fun s x r h => by
    obtain ⟨e1, h1, h2⟩ := hb s x r h
    refine ⟨e1, h1, ?_⟩
    cases r with
    | inl s' => exact h2
    | inr v => exact h2) l s r h
  cases r with
  | inl s' => exact for_run hi (by rw [he]; exact this)
  | inr v =>
    obtain ⟨e2, j1, j2⟩ := this
    exact ⟨e2, for_run hi (by rw [he]; exact j1), j2⟩
theorem fn_rn {ρ : Type} {P : σ → En} {T : ρ → Tm} {Fi : ρ → En} {r : σ ⊕ ρ} (h : RN np S1 e P T Fi r) (k1 : ∀ s, r = .inl s → RtF np S2 (P s) t F) (k2 : ∀ v, r = .inr v → T v = t ∧ Fi v = F) : RtF np (sSeq S1 S2) e t F := by
  cases r with
  | inl s => exact fn_seq h (k1 s rfl)
  | inr v =>
    obtain ⟨q1, q2⟩ := k2 v rfl
    rw [← q1, ← q2]
    exact fn_rets h
theorem rn_nx {ρ : Type} {P : σ → En} {T : ρ → Tm} {Fi : ρ → En} {s : σ} (h : S e = .nx (P s)) : RN np S e P T Fi (.inl s) := h
theorem rn_rt {ρ : Type} {P : σ → En} {T : ρ → Tm} {Fi : ρ → En} {v : ρ} (h : RtF np S e (T v) (Fi v)) : RN np S e P T Fi (.inr v) := h
theorem rn_seq {ρ : Type} {P : σ → En} {T : ρ → Tm} {Fi : ρ → En} {r : σ ⊕ ρ} (h : S1 e = .nx e') (k : RN np S2 e' P T Fi r) : RN np (sSeq S1 S2) e P T Fi r := by
  cases r with
  | inl s => exact nx_seq h k
  | inr v => exact fn_seq h k
theorem rn_if {ρ : Type} {c : SemB} {b : Bool} {P : σ → En} {T : ρ → Tm} {Fi : ρ → En} {r : σ ⊕ ρ} (h : c e = .ok b e') (k1 : b = true → RN np S1 e' P T Fi r) (k2 : b = false → RN np S2 e' P T Fi r) : RN np (sIf c S1 S2) e P T Fi r := by
  cases r with
  | inl s => exact nx_if h k1 k2
  | inr v => exact fn_if h k1 k2
theorem rn_ifr {ρ : Type} {c : SemB} {b : Bool} {P : σ → En} {T : ρ → Tm} {Fi : ρ → En} {r : σ ⊕ ρ} {e3 : En} (h : c e = .ok b e') (k1 : b = true → RN np (sSeq (sIf c S1 S2) S) e P T Fi r) (k2 : b = false → S2 e' = .nx e3 ∧ RN np S e3 P T Fi r) : RN np (sSeq (sIf c S1 S2) S) e P T Fi r := by
  cases b with
  | true => exact k1 rfl
  | false =>
    obtain ⟨q, k⟩ := k2 rfl
    exact rn_seq (if_f h q) k
theorem rn_rn {σ' ρ : Type} {P : σ → En} {P' : σ' → En} {T : ρ → Tm} {Fi : ρ → En} {r : σ ⊕ ρ} {q : σ' ⊕ ρ} (h : RN np S1 e P' T Fi q) (k1 : ∀ s, q = .inl s → RN np S2 (P' s) P T Fi r) (k2 : ∀ v, q = .inr v → r = .inr v) : RN np (sSeq S1 S2) e P T Fi r := by
  cases q with
  | inl s => exact rn_seq h (k1 s rfl)
  | inr v =>
    rw [k2 v rfl]
    exact fn_rets h
theorem nx_while {c : SemB} {fb : SemS} {P : σ → En} {gc : σ → Option Bool} {b : σ → Option σ} (hc : ∀ s k, gc s = some k → c (P s) = .ok k (P s)) (hb : ∀ s s', b s = some s' → fb (P s) = .nx (P s')) : ∀ (n : Nat) (s s' : σ), gwhile gc b n s = some s' → whileN c fb n (P s) = .nx (P s')
  | 0, s, s', h => nomatch h
  | n + 1, s, s', h => by
    refine bndE h fun k h1 h2 => ?_
    cases k with
    | true =>
      refine bndE h2 fun s1 h3 h4 => ?_
      exact wh_more (hc s true h1) (hb s s1 h3) (nx_while hc hb n s1 s' h4)
    | false =>
      cases h2
      exact wh_end (hc s false h1)
theorem nx_whl {c : SemB} {fb : SemS} {P : σ → En} {gc : σ → Option Bool} {b : σ → Option σ} {s s' : σ} (he : e = P s) (h : gwhile gc b wfuel s = some s') (hc : ∀ s k, gc s = some k → c (P s) = .ok k (P s)) (hb : ∀ s s', b s = some s' → fb (P s) = .nx (P s')) : sWhile c fb e = .nx (P s') := by
  rw [he]
  exact nx_while hc hb wfuel s s' h
theorem its_ok {ds : List D} (h : f e = .ok t e') (h2 : takeT t e' = some (ta, e'')) (h3 : dOf ta = .lst ds) : sItS f e = .ok ds e'' := it_run h h2 (.inl h3)
theorem itt_ok {ds : List D} (h : f e = .ok t e') (h2 : takeT t e' = some (ta, e'')) (h3 : dOf ta = .tup ds) : sItS f e = .ok ds e'' := it_run h h2 (.inr h3)
def rngL (lo hi : Int) : List Int := (List.range (hi - lo).toNat).map fun (i : Nat) => lo + i
theorem rng1_ok {j : Int} (h : fa e = .ok ta e') (h2 : ta.get e' = some (.int j)) (hj : b62 j = true) : sRng rng1 (sCons fa sNil) e = .ok ((rngL 0 j).map D.int) e' := by
  rw [rng_run (cons_ok h nil_ok) (by simp only [getAll, h2]) (rng1_of hj)]
  unfold rngL
  rw [List.map_map, Int.sub_zero]
  simp [Function.comp_def]
theorem rng2_ok {i j : Int} (h : fa e = .ok ta e') (h' : fb e' = .ok tb e'') (h2 : ta.get e'' = some (.int i)) (h2' : tb.get e'' = some (.int j)) (hj : (b62 i && b62 j) = true) : sRng rng2 (sCons fa (sCons fb sNil)) e = .ok ((rngL i j).map D.int) e'' := by
  rw [rng_run (ds := [.int i, .int j]) (cons_ok h (cons_ok h' nil_ok)) (by simp only [getAll, h2, h2']) (rng2_of (by simp at hj; exact hj.1) (by simp at hj; exact hj.2))]
  unfold rngL
  rw [List.map_map]
  simp [Function.comp_def]
theorem sh_ok {g : List D → Option (List D)} {ds : List D} (h : fl e = .ok ts e') (h2 : takeAll ts e' = some (ts', e'')) (h3 : g (ts'.map dOf) = some ds) : sSh g fl e = .ok ds e'' := by
  unfold sSh
  rw [h]
  dsimp only
  rw [h2]
  dsimp only
  rw [h3]
theorem lcm_ok {m : α → D} {m' : β → D} {vs : List Nat} {g : G} {e : En} {b : α → Option β} (hb : ∀ x y, b x = some y → ∃ e1 t t' e3 e4, g (.im (m x)) e = some e1 ∧ f e1 = .ok t e3 ∧ takeT t e3 = some (t', e4) ∧ dOf t' = m' y ∧ wipeE e4 vs = e) : ∀ (l : List α) (r : List β) (acc : List D), mapO b l = some r → acc.length + l.length ≤ line → lcN vs g sYes f (l.map m) acc e = .ok (acc ++ r.map m') e
  | [], r, acc, h, _ => by
    cases h
    show R.ok acc e = _
    rw [List.map_nil, List.append_nil]
  | x :: l, r, acc, h, hl => by
    refine bndE h fun y h1 h2 => bndE h2 fun r' h3 h4 => ?_
    cases h4
    obtain ⟨e1, t, t', e3, e4, k1, k2, k3, k4, k5⟩ := hb x y h1
    rw [List.length_cons] at hl
    rw [List.map_cons]
    unfold lcN
    rw [k1]
    dsimp only [sYes]
    rw [k2]
    dsimp only
    rw [k3]
    dsimp only
    rw [if_pos (by omega), k5, k4, lcm_ok hb l r' (acc ++ [m' y]) h3 (by rw [List.length_append, List.length_singleton]; omega), List.append_assoc]
    rfl
def FilP (c : SemB) (f : Sem) (vs : List Nat) (w e1 : En) (m' : β → D) : Option β → Prop
  | none => ∃ e2, c e1 = .ok false e2 ∧ wipeE e2 vs = w
  | some z => ∃ e2, c e1 = .ok true e2 ∧ ∃ t t' e3 e4, f e2 = .ok t e3 ∧ takeT t e3 = some (t', e4) ∧ dOf t' = m' z ∧ wipeE e4 vs = w
theorem lcf_ok {m : α → D} {m' : β → D} {vs : List Nat} {g : G} {c : SemB} {e : En} {b : α → Option (Option β)} (hb : ∀ x y, b x = some y → ∃ e1, g (.im (m x)) e = some e1 ∧ FilP c f vs e e1 m' y) : ∀ (l : List α) (r : List β) (acc : List D), filO b l = some r → acc.length + l.length ≤ line → lcN vs g c f (l.map m) acc e = .ok (acc ++ r.map m') e
  | [], r, acc, h, _ => by
    cases h
    show R.ok acc e = _
    rw [List.map_nil, List.append_nil]
  | x :: l, r, acc, h, hl => by
    refine bndE h fun y h1 h2 => bndE h2 fun r' h3 h4 => ?_
    cases h4
    obtain ⟨e1, k1, k2⟩ := hb x y h1
    rw [List.length_cons] at hl
    rw [List.map_cons]
    unfold lcN
    rw [k1]
    dsimp only
    cases y with
    | none =>
      obtain ⟨e2, k2, k3⟩ := k2
      rw [k2]
      dsimp only
      rw [k3]
      exact lcf_ok hb l r' acc h3 (by omega)
    | some z =>
      obtain ⟨e2, j0, t, t', e3, e4, j1, j2, j3, j4⟩ := k2
      rw [j0]
      dsimp only
      rw [j1]
      dsimp only
      rw [j2]
      dsimp only
      rw [if_pos (by omega), j4, j3, lcf_ok hb l r' (acc ++ [m' z]) h3 (by rw [List.length_append, List.length_singleton]; omega), List.append_assoc]
      rfl
theorem lcs_ok {m : α → D} {m' : β → D} {vs : List Nat} {g : G} {P : σ → En} {b : σ → α → Option (β × σ)} (hb : ∀ s x y, b s x = some y → ∃ e1 t t' e3 e4, g (.im (m x)) (P s) = some e1 ∧ f e1 = .ok t e3 ∧ takeT t e3 = some (t', e4) ∧ dOf t' = m' y.1 ∧ wipeE e4 vs = P y.2) : ∀ (l : List α) (s : σ) (r : List β × σ) (acc : List D), mapS b l s = some r → acc.length + l.length ≤ line → lcN vs g sYes f (l.map m) acc (P s) = .ok (acc ++ r.1.map m') (P r.2)
  | [], s, r, acc, h, _ => by
    cases h
    show R.ok acc (P s) = _
    rw [List.map_nil, List.append_nil]
  | x :: l, s, r, acc, h, hl => by
    refine bndE h fun y h1 h2 => bndE h2 fun r' h3 h4 => ?_
    cases h4
    obtain ⟨e1, t, t', e3, e4, k1, k2, k3, k4, k5⟩ := hb s x y h1
    rw [List.length_cons] at hl
    rw [List.map_cons]
    unfold lcN
    rw [k1]
    dsimp only [sYes]
    rw [k2]
    dsimp only
    rw [k3]
    dsimp only
    rw [if_pos (by omega), k5, k4, lcs_ok hb l y.2 r' (acc ++ [m' y.1]) h3 (by rw [List.length_append, List.length_singleton]; omega), List.append_assoc]
    rfl
theorem lc_m {m : α → D} {m' : β → D} {vs : List Nat} {g : G} {it : SemI} {w : En} {e3 : En} {b : α → Option β} {l : List α} {r : List β} (hi : it e = .ok (l.map m) e') (h0 : noOwn e' vs = true) (hw : wipeE e' vs = w) (h : mapO b l = some r) (hl : l.length ≤ line)
    (hb : ∀ x y, b x = some y → ∃ e1 t t' e3 e4, g (.im (m x)) w = some e1 ∧ f e1 = .ok t e3 ∧ takeT t e3 = some (t', e4) ∧ dOf t' = m' y ∧ wipeE e4 vs = w) (hk : backE e' w vs = e3) : sLc vs g it sYes f e = .ok (.ow (eL m' r)) e3 := by
  have := lcm_ok hb l r [] h (by rw [List.length_nil, Nat.zero_add]; exact hl)
  rw [← hk]
  exact lc_run hi h0 (by rw [hw]; exact this)
theorem lc_f {m : α → D} {m' : β → D} {vs : List Nat} {g : G} {it : SemI} {c : SemB} {w : En} {e3 : En} {b : α → Option (Option β)} {l : List α} {r : List β} (hi : it e = .ok (l.map m) e') (h0 : noOwn e' vs = true) (hw : wipeE e' vs = w) (h : filO b l = some r) (hl : l.length ≤ line)
    (hb : ∀ x y, b x = some y → ∃ e1, g (.im (m x)) w = some e1 ∧ FilP c f vs w e1 m' y) (hk : backE e' w vs = e3) : sLc vs g it c f e = .ok (.ow (eL m' r)) e3 := by
  have := lcf_ok hb l r [] h (by rw [List.length_nil, Nat.zero_add]; exact hl)
  rw [← hk]
  exact lc_run hi h0 (by rw [hw]; exact this)
theorem lc_s {m : α → D} {m' : β → D} {vs : List Nat} {g : G} {it : SemI} {P : σ → En} {e3 : En} {b : σ → α → Option (β × σ)} {l : List α} {s : σ} {r : List β × σ} (hi : it e = .ok (l.map m) e') (h0 : noOwn e' vs = true) (hw : wipeE e' vs = P s) (h : mapS b l s = some r) (hl : l.length ≤ line)
    (hb : ∀ s x y, b s x = some y → ∃ e1 t t' e3 e4, g (.im (m x)) (P s) = some e1 ∧ f e1 = .ok t e3 ∧ takeT t e3 = some (t', e4) ∧ dOf t' = m' y.1 ∧ wipeE e4 vs = P y.2) (hk : backE e' (P r.2) vs = e3) : sLc vs g it sYes f e = .ok (.ow (eL m' r.1)) e3 := by
  have := lcs_ok hb l s r [] h (by rw [List.length_nil, Nat.zero_add]; exact hl)
  rw [← hk]
  exact lc_run hi h0 (by rw [hw]; exact this)
theorem fil_t {c : SemB} {b : Bool} {e1 : En} {g : G} {d : D} {w : En} {vs : List Nat} {m' : β → D} {o : Option (Option β)} {y : Option β} (h1 : g (.im d) w = some e1) (hc : c e1 = .ok b e') (hv : (if b = true then o else some none) = some y) (hw : wipeE e' vs = w)
    (k : o = some y → ∃ z, y = some z ∧ ∃ t t' e3 e4, f e' = .ok t e3 ∧ takeT t e3 = some (t', e4) ∧ dOf t' = m' z ∧ wipeE e4 vs = w) : ∃ e1, g (.im d) w = some e1 ∧ FilP c f vs w e1 m' y := by
  refine ⟨e1, h1, ?_⟩
  cases b with
  | true =>
    obtain ⟨z, rfl, k2⟩ := k hv
    exact ⟨e', hc, k2⟩
  | false =>
    cases hv
    exact ⟨e', hc, hw⟩
theorem mutL_ok {m : D → List D → Option (Tm × D)} {x : Fl} {fl0 : Fl} {ds0 : List D} {d' : D} {e3 : En} (h0 : e[i]? = some (some (.lst ds0, fl0))) (h : fl e = .ok ts e') (h2 : takeAll ts e' = some (ts', e'')) (h3 : e''[i]? = some (some (d, x))) (ho : x.own = true) (h4 : m d (ts'.map dOf) = some (t, d')) (q : e''.set i (some (d', x)) = e3) : sMutL i fl m e = .ok t e3 := by
  subst q
  unfold sMutL
  rw [h0]
  dsimp only
  rw [h]
  dsimp only
  rw [h2]
  dsimp only
  rw [h3]
  dsimp only
  rw [if_pos ho, h4]
theorem app_e {m : α → D} {l : List α} {x : α} {d : D} (q : d = m x) (h : l.length < line) : mApp (eL m l) [d] = some (.im .non, eL m (l ++ [x])) := by
  subst q
  unfold eL mApp
  dsimp only
  rw [if_pos (by rw [List.length_map]; exact h), List.map_append]
  rfl
theorem app_any {m : α → D} {l : List α} {d : D} (h : l.length < line) : mApp (eL m l) [d] = some (.im .non, eA (.lst (l.map m ++ [d]))) := by
  unfold eL mApp
  dsimp only
  rw [if_pos (by rw [List.length_map]; exact h)]
  rfl
theorem ext_e {m : α → D} {l l' : List α} (h : l.length + l'.length ≤ line) : mExt (eL m l) [eL m l'] = some (.im .non, eL m (l ++ l')) := by
  unfold eL mExt
  dsimp only
  rw [if_pos (by rw [List.length_map, List.length_map]; exact h), List.map_append]
def geti {α : Type} (l : List α) (i : Int) : Option α := L2.atI l i
theorem atI_map {m : α → β} {l : List α} {i : Int} {x : α} (h : geti l i = some x) : L2.atI (l.map m) i = some (m x) := by
  unfold geti L2.atI at *
  rw [List.length_map]
  cases q : L2.ixN l.length i with
  | none => rw [q] at h; cases h
  | some j =>
    rw [q] at h
    show (l.map m)[j]? = _
    rw [List.getElem?_map, show l[j]? = some x from h]
    rfl
theorem ix_L {m : α → D} {l : List α} {i : Int} {x : α} (h : geti l i = some x) : gIx [eL m l, .int i] = some (.im (m x)) := by
  show (L2.atI (l.map m) i).map Tm.im = _
  rw [atI_map h]
  rfl
theorem ix_V {m : α → D} {l : List α} {i : Int} {x : α} (h : geti l i = some x) : gIx [eV m l, .int i] = some (.im (m x)) := by
  show (L2.atI (l.map m) i).map Tm.im = _
  rw [atI_map h]
  rfl
theorem ix_Sc {l : List Int} {i : Int} {x : Int} (h : geti l i = some x) : gIx [eSc l, .int i] = some (.im (.int x)) := by
  show (L2.atI (l.map D.int) i).map Tm.im = _
  rw [atI_map h]
  rfl
theorem len_L {m : α → D} {l : List α} : gLen [eL m l] = some (.im (.int l.length)) := by
  show some (Tm.im (.int ((l.map m).length : Int))) = _
  rw [List.length_map]
theorem len_V {m : α → D} {l : List α} : gLen [eV m l] = some (.im (.int l.length)) := by
  show some (Tm.im (.int ((l.map m).length : Int))) = _
  rw [List.length_map]
theorem len_Sc {l : List Int} : gLen [eSc l] = some (.im (.int l.length)) := by
  show some (Tm.im (.int ((l.map D.int).length : Int))) = _
  rw [List.length_map]
theorem sum_L {l : List Int} : gSum [eL D.int l] = some (.im (.int l.sum)) := sum_ints l
theorem all_L {l : List Bool} : gAll [eL D.bl l] = some (.im (.bl (l.all id))) := by
  show (match blsOf (l.map D.bl) with
      | none => none
      | some ns => some (Tm.im (D.bl (ns.all id)))) = _
  rw [blsOf_map]
theorem any_L {l : List Bool} : gAny [eL D.bl l] = some (.im (.bl (l.any id))) := by
  show (match blsOf (l.map D.bl) with
      | none => none
      | some ns => some (Tm.im (D.bl (ns.any id)))) = _
  rw [blsOf_map]
theorem add_L {m : α → D} {l l' : List α} (h : l.length + l'.length ≤ line) : gAdd [eL m l, eL m l'] = some (.ow (eL m (l ++ l'))) := by
  unfold eL gAdd
  dsimp only
  rw [if_pos (by rw [List.length_map, List.length_map]; exact h), List.map_append]
theorem add_V {m : α → D} {l l' : List α} (h : l.length + l'.length ≤ line) : gAdd [eV m l, eV m l'] = some (.im (eV m (l ++ l'))) := by
  unfold eV gAdd
  dsimp only
  rw [if_pos (by rw [List.length_map, List.length_map]; exact h), List.map_append]
theorem add_S {a b : PySem.Str} (h : a.length + b.length ≤ line) : gAdd [.str a, .str b] = some (.im (.str (a ++ b))) := by
  unfold gAdd
  dsimp only
  rw [if_pos h]
theorem mul_I {a b c : Int} (h : mulI a b = some c) : gMul [.int a, .int b] = some (.im (.int c)) := by
  unfold gMul
  dsimp only
  rw [h]
theorem div_I {a b c : Int} (h : divI a b = some c) : gDiv [.int a, .int b] = some (.im (.int c)) := by
  unfold gDiv
  dsimp only
  rw [h]
theorem mod_I {a b c : Int} (h : modI a b = some c) : gMod [.int a, .int b] = some (.im (.int c)) := by
  unfold gMod
  dsimp only
  rw [h]
theorem pow_I {a b c : Int} (h : powI a b = some c) : gPow [.int a, .int b] = some (.im (.int c)) := by
  unfold gPow
  dsimp only
  rw [h]
def dmI (i j : Int) : Option (Int × Int) := if 0 < j ∧ j < 1073741824 then some (i / j, i % j) else none
theorem divmod_I {a b : Int} {c : Int × Int} (h : dmI a b = some c) : gDivmod [.int a, .int b] = some (.im (e2 D.int D.int c)) := by
  unfold dmI at h
  unfold gDivmod
  dsimp only
  split at h
  · rename_i q
    cases h
    rw [if_pos q]
    rfl
  · cases h
def repI {α : Type} (l : List α) (k : Int) : Option (List α) := if -(2 ^ 63) ≤ k ∧ k < 2 ^ 63 ∧ l.length * k.toNat ≤ line then some (List.replicate k.toNat l).flatten else none
theorem mul_L {m : α → D} {l r : List α} {k : Int} (h : repI l k = some r) : gMul [eL m l, .int k] = some (.ow (eL m r)) := by
  unfold repI at h
  split at h
  · rename_i q
    cases h
    unfold eL gMul
    dsimp only
    rw [if_pos (by rw [List.length_map]; exact q), List.map_flatten, List.map_replicate]
  · cases h
def cutL {α : Type} (l : List α) (lo hi : Option Int) : List α := (l.drop (HT.sIx l.length 0 lo)).take (HT.sIx l.length l.length hi - HT.sIx l.length 0 lo)
theorem cutL_map {m : α → D} {l : List α} {lo hi : Option Int} : cutD (l.map m) lo hi = (cutL l lo hi).map m := by
  unfold cutD cutL
  rw [List.length_map, List.map_take, List.map_drop]
theorem sl_L {m : α → D} {l : List α} {lo hi : Option Int} : gSl lo hi (eL m l) = some (.ow (eL m (cutL l lo hi))) := by
  unfold eL gSl
  dsimp only
  rw [cutL_map]
theorem sl_V {m : α → D} {l : List α} {lo hi : Option Int} : gSl lo hi (eV m l) = some (.im (eV m (cutL l lo hi))) := by
  unfold eV gSl
  dsimp only
  rw [cutL_map]
theorem int_ok (h : f e = .ok t e') (h2 : t.get e' = some (.int i)) : sPart (some f) e = .ok (some i) e' := by
  show sInt f e = _
  unfold sInt
  rw [h]
  dsimp only
  rw [h2]
theorem slc_ok {lo hi : Option Sem} {l h : Option Int} {t' : Tm} {e3 : En} (h1 : f e = .ok t e') (h2 : sPart lo e' = .ok l e'') (h3 : sPart hi e'' = .ok h e3) (h4 : t.get e3 = some d) (h5 : gSl l h d = some t') : sSlc f lo hi e = .ok t' e3 := by
  unfold sSlc
  rw [h1]
  dsimp only
  rw [h2]
  dsimp only
  rw [h3]
  dsimp only
  rw [h4]
  dsimp only
  rw [h5]
theorem rev_L {m : α → D} {l : List α} : gRev [eL m l] = some (.ow (eL m l.reverse)) := by
  unfold eL gRev
  dsimp only
  rw [List.map_reverse]
theorem list_L {m : α → D} {l : List α} : gList [eL m l] = some (.ow (eL m l)) := rfl
theorem list_V {m : α → D} {l : List α} : gList [eV m l] = some (.ow (eL m l)) := rfl
theorem list_Sc {l : List Int} : gList [eSc l] = some (.ow (eL D.int l)) := rfl
theorem tuple_L {m : α → D} {l : List α} : gTuple [eL m l] = some (.im (eV m l)) := rfl
theorem tuple_V {m : α → D} {l : List α} : gTuple [eV m l] = some (.im (eV m l)) := rfl
theorem sorted_L {l : List Int} : gSorted [eL D.int l] = some (.ow (eL D.int (isort l))) := by
  unfold eL gSorted lstOf
  dsimp only
  rw [intsOf_map]
def zipD_map {m : α → D} {m' : β → D} : ∀ (l : List α) (l' : List β), zipD (l.map m) (l'.map m') = (l.zip l').map (e2 m m')
  | [], _ => by simp [zipD]
  | _ :: _, [] => rfl
  | a :: l, b :: l' => by
    rw [List.map_cons, List.map_cons, List.zip_cons_cons, List.map_cons, ← zipD_map l l']
    rfl
theorem zip_LL {m : α → D} {m' : β → D} {l : List α} {l' : List β} : gZip [eL m l, eL m' l'] = some ((l.zip l').map (e2 m m')) := congrArg some (zipD_map l l')
theorem zip_VV {m : α → D} {m' : β → D} {l : List α} {l' : List β} : gZip [eV m l, eV m' l'] = some ((l.zip l').map (e2 m m')) := congrArg some (zipD_map l l')
def enumL {α : Type} : Int → List α → List (Int × α)
  | _, [] => []
  | i, x :: l => (i, x) :: enumL (i + 1) l
theorem enumD_map {m : α → D} : ∀ (l : List α) (i : Nat), enumD i (l.map m) = (enumL (i : Int) l).map (e2 D.int m)
  | [], i => rfl
  | x :: l, i => by
    rw [List.map_cons]
    unfold enumD enumL
    rw [enumD_map l (i + 1), List.map_cons]
    rfl
theorem enum_L {m : α → D} {l : List α} : gEnum [eL m l] = some ((enumL 0 l).map (e2 D.int m)) := congrArg some (enumD_map l 0)
theorem in_L {x : Int} {l : List Int} {neg : Bool} : gIn neg [.int x, eL D.int l] = some (.im (.bl (if neg = true then !(l.any fun y => y == x) else l.any fun y => y == x))) := by
  have hi := inV_ints x l
  unfold eL gIn inD
  simp only [flD, hi.1, hi.2]
theorem in_V {x : Int} {l : List Int} {neg : Bool} : gIn neg [.int x, eV D.int l] = some (.im (.bl (if neg = true then !(l.any fun y => y == x) else l.any fun y => y == x))) := by
  have hi := inV_ints x l
  unfold eV gIn inD
  simp only [flD, hi.1, hi.2]
def eqO (a b : D) : Option Bool := match gEq [a, b] with
  | some (.im (.bl k)) => some k
  | _ => none
def reprO (d : D) : Option PySem.Str := match gRepr [d] with
  | some (.im (.str s)) => some s
  | _ => none
theorem eq_G {a b : D} {k : Bool} (h : eqO a b = some k) : gEq [a, b] = some (.im (.bl k)) := by
  unfold eqO at h
  split at h
  · rename_i q
    cases h
    exact q
  · cases h
theorem ne_eq (a b : D) : gNe [a, b] = (gEq [a, b]).bind fun t => match t with
    | .im (.bl k) => some (.im (.bl !k))
    | _ => none := by
  cases a <;> cases b <;> first | rfl | (unfold gNe gEq; dsimp only; split <;> rfl)
theorem ne_G {a b : D} {k : Bool} (h : eqO a b = some k) : gNe [a, b] = some (.im (.bl !k)) := by
  rw [ne_eq, eq_G h]
  rfl
theorem repr_G {d : D} {s : PySem.Str} (h : reprO d = some s) : gRepr [d] = some (.im (.str s)) := by
  unfold reprO at h
  split at h
  · rename_i q
    cases h
    exact q
  · cases h
def isiO (d : D) (n : String) : Option Bool := isiD d n
theorem isi_G {d : D} {n : String} {k : Bool} (h : isiO d n = some k) : gIsi [d, .ty n] = some (.im (.bl k)) := by
  show (isiD d n).map (fun b => Tm.im (D.bl b)) = _
  rw [show isiD d n = some k from h]
  rfl
theorem isiT_G {d : D} {ns : List String} {k : Bool} (h : isiAny d ns = some k) : gIsiT ns [d] = some (.im (.bl k)) := by
  show (isiAny d ns).map (fun b => Tm.im (D.bl b)) = _
  rw [h]
  rfl
theorem isN_O {m : α → D} {o : Option α} (h : ∀ x, isNon (m x) = false) : gIsN [eO m o] = some (.im (.bl o.isNone)) := by
  cases o with
  | none => rfl
  | some x => show some (Tm.im (.bl (isNon (m x)))) = _; rw [h]; rfl
theorem isntN_O {m : α → D} {o : Option α} (h : ∀ x, isNon (m x) = false) : gIsntN [eO m o] = some (.im (.bl o.isSome)) := by
  cases o with
  | none => rfl
  | some x => show some (Tm.im (.bl (!isNon (m x)))) = _; rw [h]; rfl
def seti {α : Type} (l : List α) (i : Int) (x : α) : Option (List α) := (L2.ixN l.length i).map fun j => l.set j x
theorem iput_ok {j : Int} {m : α → D} {l r : List α} {x : α} {fi : Sem} {ti : Tm} {fl : Fl} (h0 : e[i]? = some (some (d, fl))) (h : fi e = .ok ti e') (h2 : ti.get e' = some (.int j)) (h3 : e'[i]? = some (some (eL m l, fl))) (ho : fl.own = true) (hx : dOf t = m x) (h4 : seti l j x = some r) (q0 : e'.set i (some (eL m r, fl)) = e'') : gPut i fi t e = some e'' := by
  subst q0
  unfold seti at h4
  unfold gPut
  rw [h0]
  dsimp only
  rw [h]
  dsimp only
  rw [h2]
  dsimp only
  rw [h3]
  unfold eL
  dsimp only
  rw [if_pos ho, List.length_map]
  cases q : L2.ixN l.length j with
  | none => rw [q] at h4; cases h4
  | some k =>
    rw [q] at h4
    cases h4
    rw [hx, List.map_set]
theorem chn_ok {c1 c2 : Int → Int → Bool} {i j k : Int} (h1 : fa e = .ok ta e') (h2 : fb e' = .ok tb e'') (h3 : ta.get e'' = some (.int i)) (h4 : tb.get e'' = some (.int j)) (h5 : fc e'' = .ok tc e'') (h6 : tc.get e'' = some (.int k)) : sChn c1 c2 fa fb fc e = .ok (.im (.bl (c1 i j && c2 j k))) e'' := by
  unfold sChn s2
  rw [cons_ok h1 (cons_ok h2 nil_ok)]
  dsimp only
  simp only [getAll, h3, h4]
  cases q : c1 i j with
  | false => rfl
  | true =>
    rw [if_pos rfl, h5]
    dsimp only
    rw [h6]
    rfl
end
section
variable {α β γ σ ρ : Type} {e e' e'' e3 : En} {f : Sem} {t : Tm} {d : D} {np : Nat} {F : En} {S S1 S2 : SemS} {c : SemB} {b : Bool}
theorem val_end {T : α → Tm} {x v : α} (h : some x = some v) (k : f e = .ok (T x) e') : f e = .ok (T v) e' := by cases h; exact k
theorem b_end {x v : Bool} (h : some x = some v) (k : c e = .ok x e') : c e = .ok v e' := by cases h; exact k
theorem nx_end {P : σ → En} {x s : σ} (h : some x = some s) (k : S e = .nx (P x)) : S e = .nx (P s) := by cases h; exact k
theorem fn_end {T : α → Tm} {Fi : α → En} {x v : α} (h : some x = some v) (k : RtF np S e (T x) (Fi x)) : RtF np S e (T v) (Fi v) := by cases h; exact k
theorem rn_end {P : σ → En} {T : ρ → Tm} {Fi : ρ → En} {x r : σ ⊕ ρ} (h : some x = some r) (k : RN np S e P T Fi x) : RN np S e P T Fi r := by cases h; exact k
theorem lcm_end {m' : β → D} {A : En → Prop} {w : En} {vs : List Nat} {x y : β} (h : some x = some y) (k : ∃ e1 t t' e3 e4, A e1 ∧ f e1 = .ok t e3 ∧ takeT t e3 = some (t', e4) ∧ dOf t' = m' x ∧ wipeE e4 vs = w) : ∃ e1 t t' e3 e4, A e1 ∧ f e1 = .ok t e3 ∧ takeT t e3 = some (t', e4) ∧ dOf t' = m' y ∧ wipeE e4 vs = w := by cases h; exact k
theorem lcs_end {m' : β → D} {A : En → Prop} {P : σ → En} {vs : List Nat} {x y : β × σ} (h : some x = some y) (k : ∃ e1 t t' e3 e4, A e1 ∧ f e1 = .ok t e3 ∧ takeT t e3 = some (t', e4) ∧ dOf t' = m' x.1 ∧ wipeE e4 vs = P x.2) : ∃ e1 t t' e3 e4, A e1 ∧ f e1 = .ok t e3 ∧ takeT t e3 = some (t', e4) ∧ dOf t' = m' y.1 ∧ wipeE e4 vs = P y.2 := by cases h; exact k
theorem fil_end {m' : β → D} {w : En} {vs : List Nat} {x : β} {y : Option β} (h : some (some x) = some y) (k : ∃ t t' e3 e4, f e = .ok t e3 ∧ takeT t e3 = some (t', e4) ∧ dOf t' = m' x ∧ wipeE e4 vs = w) : ∃ z, y = some z ∧ ∃ t t' e3 e4, f e = .ok t e3 ∧ takeT t e3 = some (t', e4) ∧ dOf t' = m' z ∧ wipeE e4 vs = w := by cases h; exact ⟨x, rfl, k⟩
theorem ite_s {o1 o2 : Option α} {v : α} {T : α → Tm} {Q : α → En} {fa fb : Sem} (h : c e = .ok b e') (hv : (if b = true then o1 else o2) = some v) (h1 : o1 = some v → fa e' = .ok (T v) (Q v)) (h2 : o2 = some v → fb e' = .ok (T v) (Q v)) : sIte c fa fb e = .ok (T v) (Q v) := by
  unfold sIte
  rw [h]
  cases b with
  | true => exact h1 hv
  | false => exact h2 hv
theorem val_ends {T : α → Tm} {Q : α → En} {x v : α} (h : some x = some v) (k : f e = .ok (T x) (Q x)) : f e = .ok (T v) (Q v) := by cases h; exact k
theorem take_b {b : Bool} {i : Nat} (h : e[i]? = some (some (d, flb b))) (q : e.set i (some (d, .sh)) = e') : takeT (.sl i) e = some (.im d, e') := by
  subst q
  show (match e[i]? with
    | some (some (d, f)) => some (Tm.im d, e.set i (some (d, f.leak)))
    | _ => none) = _
  rw [h]
  cases b <;> rfl
theorem ta_nil : takeAll [] e = some ([], e) := rfl
theorem ta_cons {ts ts' : List Tm} {t' : Tm} (h : takeT t e = some (t', e')) (h2 : takeAll ts e' = some (ts', e'')) : takeAll (t :: ts) e = some (t' :: ts', e'') := by
  unfold takeAll
  rw [h]
  dsimp only
  rw [h2]
theorem fn_retb {b : Bool} {i : Nat} (h : f e = .ok (.sl i) e') (h1 : e'[i]? = some (some (d, flb b))) (q1 : fins np (e'.set i none) = F) (q2 : fins np (e'.set i (some (d, .sh))) = F) : RtF np (sRet f) e (tmb b d) F := by
  cases b with
  | true =>
    refine ⟨_, ?_, q1⟩
    unfold sRet
    rw [h]
    dsimp only [retT]
    rw [h1]
    rfl
  | false =>
    refine ⟨_, ?_, q2⟩
    unfold sRet
    rw [h]
    dsimp only [retT]
    rw [h1]
    rfl
theorem ite_t {fa fb : Sem} {ta tb : Tm} (h : c e = .ok b e') (h1 : b = true → fa e' = .ok ta e'') (h2 : b = false → fb e' = .ok tb e'') : sIte c fa fb e = .ok (if b = true then ta else tb) e'' := by
  unfold sIte
  rw [h]
  cases b with
  | true => exact h1 rfl
  | false => exact h2 rfl
theorem getI {m : α → D} {ta tb : Tm} {x y : α} (h1 : ta.get e = some (m x)) (h2 : tb.get e = some (m y)) : (if b = true then ta else tb).get e = some (m (if b = true then x else y)) := by
  cases b with
  | true => exact h1
  | false => exact h2
theorem nosl_b {b : Bool} (d : D) : NoSl (tmb b d) := by cases b <;> trivial
theorem nx_ift (h : c e = .ok b e') (hb : b = true) (k : S1 e' = .nx e3) : sIf c S1 S2 e = .nx e3 := by subst hb; exact if_t h k
theorem nx_iff (h : c e = .ok b e') (hb : b = false) (k : S2 e' = .nx e3) : sIf c S1 S2 e = .nx e3 := by subst hb; exact if_f h k
theorem fn_ift (h : c e = .ok b e') (hb : b = true) (k : RtF np S1 e' t F) : RtF np (sIf c S1 S2) e t F := fn_if h (fun _ => k) fun z => absurd (hb.symm.trans z) (by decide)
theorem fn_iff (h : c e = .ok b e') (hb : b = false) (k : RtF np S2 e' t F) : RtF np (sIf c S1 S2) e t F := fn_if h (fun z => absurd (hb.symm.trans z) (by decide)) fun _ => k
theorem fn_ifn (h : c e = .ok b e') (hb : b = false) (q : S2 e' = .nx e3) (k : RtF np S e3 t F) : RtF np (sSeq (sIf c S1 S2) S) e t F := fn_seq (nx_iff h hb q) k
theorem fn_ifn2 (h : c e = .ok b e') (hb : b = true) (q : S1 e' = .nx e3) (k : RtF np S e3 t F) : RtF np (sSeq (sIf c S1 S2) S) e t F := fn_seq (nx_ift h hb q) k
section
variable {fa fb : Sem} {i : Nat}
theorem set_ift (h : c e = .ok b e') (hb : b = true) (k : sSet i fa e' = .nx e3) : sSet i (sIte c fa fb) e = .nx e3 := by
  subst hb
  rw [← k]
  unfold sSet sIte
  rw [h]
  rfl
theorem set_iff (h : c e = .ok b e') (hb : b = false) (k : sSet i fb e' = .nx e3) : sSet i (sIte c fa fb) e = .nx e3 := by
  subst hb
  rw [← k]
  unfold sSet sIte
  rw [h]
  rfl
theorem ret_ift (h : c e = .ok b e') (hb : b = true) (k : RtF np (sRet fa) e' t F) : RtF np (sRet (sIte c fa fb)) e t F := by
  obtain ⟨e2, h1, h2⟩ := k
  subst hb
  exact ⟨e2, ret_ite_t h h1, h2⟩
theorem ret_iff (h : c e = .ok b e') (hb : b = false) (k : RtF np (sRet fb) e' t F) : RtF np (sRet (sIte c fa fb)) e t F := by
  obtain ⟨e2, h1, h2⟩ := k
  subst hb
  exact ⟨e2, ret_ite_f h h1, h2⟩
end
theorem rngL_len {a b : Int} : (rngL a b).length = (b - a).toNat := by
  unfold rngL
  rw [List.length_map, List.length_range]
section
variable {P : σ → En} {T : ρ → Tm} {Fi : ρ → En} {r : σ ⊕ ρ}
theorem rn_ift (h : c e = .ok b e') (hb : b = true) (k : RN np S1 e' P T Fi r) : RN np (sIf c S1 S2) e P T Fi r := rn_if h (fun _ => k) fun z => absurd (hb.symm.trans z) (by decide)
theorem rn_iff (h : c e = .ok b e') (hb : b = false) (k : RN np S2 e' P T Fi r) : RN np (sIf c S1 S2) e P T Fi r := rn_if h (fun z => absurd (hb.symm.trans z) (by decide)) fun _ => k
theorem rn_ifn (h : c e = .ok b e') (hb : b = false) (q : S2 e' = .nx e3) (k : RN np S e3 P T Fi r) : RN np (sSeq (sIf c S1 S2) S) e P T Fi r := rn_seq (nx_iff h hb q) k
end
theorem pin_ok {n : Nat} {as : List (D × Fl)} {body : SemS} {g : Option α} {v : α} {F : α → En} {P : α → En} (hl : as.length = np) (he : as.map some ++ List.replicate (n - np) none = e) (hF : ∀ v, fins np (P v) = F v) (hv : g = some v) (h : ∀ v, g = some v → body e = .nx (P v)) : fnD np n body as = .ok (.im .non) (F v) :=
  def_nx hl (by rw [he]; exact h v hv) (hF v)
end
end L2.Py
set_option maxRecDepth 10000
namespace L2.Py
section
variable {α β γ σ : Type} {e e' e'' e3 : En} {f fa fb fc : Sem} {fl : SemL} {t ta tb tc : Tm} {ts ts' : List Tm} {d da db dc : D} {i : Nat}
theorem subB_b {a b : Bool} : gSubB [.bl a, .bl b] = some (.im (.int ((if a = true then (1 : Int) else 0) - if b = true then (1 : Int) else 0))) := rfl
def strI (i : Int) : Option PySem.Str := if i.natAbs.log2 < 1920 then some (toString i) else none
theorem str_I {i : Int} {s : PySem.Str} (h : strI i = some s) : gStr [.int i] = some (.im (.str s)) := by
  unfold strI at h
  unfold gStr
  dsimp only
  split at h
  · rename_i q
    cases h
    rw [if_pos q]
  · cases h
theorem len_S {z : PySem.Str} (h : z.length ≤ line) : gLen [.str z] = some (.im (.int (z.length : Int))) := by
  unfold gLen
  dsimp only
  rw [if_pos h]
theorem gl_im {gs : List D → En → Option En} {ds : List D} (q : d = .lst ds) (h : gs ds e = some e') : gLs gs (.im d) e = some e' := by
  subst q
  exact h
theorem gl_ow {gs : List D → En → Option En} {ds : List D} (q : d = .lst ds) (h : gs ds e = some e') : gLs gs (.ow d) e = some e' := by
  subst q
  exact h
def two {α : Type} : List α → Option (α × α)
  | [a, b] => some (a, b)
  | _ => none
def three {α : Type} : List α → Option (α × α × α)
  | [a, b, c] => some (a, b, c)
  | _ => none
theorem two_l {m : α → D} {l : List α} {x : α × α} (h : two l = some x) : eL m l = .lst [m x.1, m x.2] := by
  unfold two at h
  split at h
  · cases h; rfl
  · cases h
theorem three_l {m : α → D} {l : List α} {x : α × α × α} (h : three l = some x) : eL m l = .lst [m x.1, m x.2.1, m x.2.2] := by
  unfold three at h
  split at h
  · cases h; rfl
  · cases h
def getM {α : Type} (l : List (Int × α)) (k : Int) : Option α := (l.find? fun p => decide (p.1 = k)).map (·.2)
def putM {α : Type} (l : List (Int × α)) (k : Int) (x : α) : List (Int × α) := if (l.any fun p => decide (p.1 = k)) = true then l.map (fun p => if p.1 = k then (p.1, x) else p) else l ++ [(k, x)]
def mergeM {α : Type} : List (Int × α) → List (Int × α) → List (Int × α)
  | acc, [] => acc
  | acc, p :: r => mergeM (putM acc p.1 p.2) r
theorem dec_inl {a b : Int} : decide ((Sum.inl a : Key) = Sum.inl b) = decide (a = b) := by
  by_cases h : a = b
  · subst h; simp
  · rw [decide_eq_false h, decide_eq_false fun z => h (Sum.inl.inj z)]
theorem getD_M {m : α → D} (k : Int) : ∀ l : List (Int × α), getD (l.map fun p => ((Sum.inl p.1 : Key), m p.2)) (Sum.inl k) = (getM l k).map m
  | [] => rfl
  | p :: l => by
    have ih := getD_M (m := m) k l
    unfold getD getM at *
    rw [List.map_cons, List.find?_cons, List.find?_cons]
    dsimp only
    rw [dec_inl]
    cases decide (p.1 = k) with
    | true => rfl
    | false => exact ih
theorem any_M {m : α → D} (k : Int) (l : List (Int × α)) : ((l.map fun p => ((Sum.inl p.1 : Key), m p.2)).any fun kv => decide (kv.1 = Sum.inl k)) = l.any fun p => decide (p.1 = k) := by
  rw [List.any_map]
  congr 1
  funext p
  exact dec_inl
theorem putD_M {m : α → D} (k : Int) (x : α) (l : List (Int × α)) : putD (l.map fun p => ((Sum.inl p.1 : Key), m p.2)) (Sum.inl k) (m x) = (putM l k x).map fun p => ((Sum.inl p.1 : Key), m p.2) := by
  unfold putD putM
  rw [any_M]
  split
  · rw [List.map_map, List.map_map]
    refine List.map_congr_left fun p _ => ?_
    show (if (Sum.inl p.1 : Key) = Sum.inl k then _ else _) = _
    by_cases h : p.1 = k
    · simp [h]
    · simp [h]
  · rw [List.map_append]
    rfl
theorem dnew_M {m : α → D} : sDNew e = .ok (.ow (eM m [])) e := rfl
theorem dg_M {m : α → D} {l : List (Int × α)} {k : Int} {x : α} (h : getM l k = some x) : gDG [eM m l, .int k] = some (.im (m x)) := by
  unfold eM gDG
  dsimp only [keyD]
  rw [getD_M, h]
  rfl
theorem din_M {m : α → D} {l : List (Int × α)} {k : Int} {neg : Bool} : gDIn neg [.int k, eM m l] = some (.im (.bl (if neg = true then !(getM l k).isSome else (getM l k).isSome))) := by
  unfold eM gDIn
  dsimp only [keyD]
  rw [getD_M, Option.isSome_map]
theorem dg3_M {m : α → D} {l : List (Int × α)} {k : Int} {x : α} {v : V} (hf : flD (m x) = some v) : gDG3 [eM m l, .int k, m x] = some (.im (m ((getM l k).getD x))) := by
  unfold eM gDG3
  dsimp only [keyD]
  rw [getD_M]
  cases getM l k with
  | none =>
    dsimp only [Option.map_none]
    rw [hf]
    rfl
  | some y => rfl
theorem sdg3_ok {m : α → D} {l : List (Int × α)} {x : Fl} {fk fx : Sem} (h0 : e[i]? = some (some (eM m l, x))) (h : sOp gDG3 (sCons (sV i) (sCons fk (sCons fx sNil))) e = .ok t e') : sDG3 i fk fx e = .ok t e' := by
  unfold sDG3
  rw [h0]
  exact h
theorem op3 {g : List D → Option Tm} {e4 : En} (h : fa e = .ok ta e') (h' : fb e' = .ok tb e'') (h'' : fc e'' = .ok tc e4) (h2 : ta.get e4 = some da) (h2' : tb.get e4 = some db) (h2'' : tc.get e4 = some dc) (h3 : g [da, db, dc] = some t) : sOp g (sCons fa (sCons fb (sCons fc sNil))) e = .ok t e4 :=
  op_ok (cons_ok h (cons_ok h' (cons_ok h'' nil_ok))) (by simp only [getAll, h2, h2', h2'']) h3
theorem dput_ok {j : Int} {m : α → D} {l : List (Int × α)} {x : α} {fi : Sem} {ti : Tm} {fl : Fl} (h0 : e[i]? = some (some (d, fl))) (h : fi e = .ok ti e') (h2 : ti.get e' = some (.int j)) (h3 : e'[i]? = some (some (eM m l, fl))) (ho : fl.own = true) (hx : dOf t = m x) (hl : l.length < line) (q0 : e'.set i (some (eM m (putM l j x), fl)) = e'') : gPutD i fi t e = some e'' := by
  subst q0
  unfold gPutD
  rw [h0]
  dsimp only
  rw [h]
  dsimp only
  rw [h2]
  dsimp only [keyD]
  rw [h3]
  unfold eM
  dsimp only
  rw [if_pos (by rw [ho, List.length_map]; simpa using hl), hx, putD_M]
theorem lenD_M {m : α → D} {l : List (Int × α)} : gLenD [eM m l] = some (.im (.int l.length)) := by
  show some (Tm.im (.int ((l.map fun p => ((Sum.inl p.1 : Key), m p.2)).length : Int))) = _
  rw [List.length_map]
theorem listD_M {m : α → D} {l : List (Int × α)} : gListD [eM m l] = some (.ow (eL D.int (l.map (·.1)))) := by
  show some (Tm.ow (.lst ((l.map fun p => ((Sum.inl p.1 : Key), m p.2)).map fun kv => kD kv.1))) = _
  rw [List.map_map]
  unfold eL
  rw [List.map_map]
  rfl
theorem prsOf_M {m : α → D} : ∀ l : List (Int × α), prsOf (l.map (e2 D.int m)) = some (l.map fun p => ((Sum.inl p.1 : Key), m p.2))
  | [] => rfl
  | p :: l => by
    rw [List.map_cons]
    unfold e2 prsOf
    dsimp only [keyD]
    rw [show (l.map fun x => D.tup [D.int x.1, m x.2]) = l.map (e2 D.int m) from rfl, prsOf_M l]
    rfl
theorem mergeD_M {m : α → D} : ∀ (l acc : List (Int × α)), mergeD (acc.map fun p => ((Sum.inl p.1 : Key), m p.2)) (l.map fun p => ((Sum.inl p.1 : Key), m p.2)) = (mergeM acc l).map fun p => ((Sum.inl p.1 : Key), m p.2)
  | [], acc => rfl
  | p :: l, acc => by
    rw [List.map_cons]
    unfold mergeD mergeM
    rw [putD_M, mergeD_M l]
theorem dict_L {m : α → D} {l : List (Int × α)} (h : l.length ≤ 1000000) : gDict [eL (e2 D.int m) l] = some (.ow (eM m (mergeM [] l))) := by
  unfold eL gDict
  dsimp only [lstOf]
  rw [prsOf_M]
  dsimp only
  rw [if_pos (by rw [List.length_map]; exact h)]
  have := mergeD_M (m := m) l []
  rw [List.map_nil] at this
  rw [this]
  rfl
def minO (l : List Int) : Option Int := if l = [] then none else some (minL l)
def maxO (l : List Int) : Option Int := if l = [] then none else some (maxL l)
theorem min_L {l : List Int} {x : Int} (h : minO l = some x) : gMin [eL D.int l] = some (.im (.int x)) := by
  unfold minO at h
  show ints1 (fun ns => if ns = [] then none else some (.int (minL ns))) [eL D.int l] = _
  unfold ints1 eL lstOf
  dsimp only
  rw [intsOf_map]
  split at h
  · cases h
  · rename_i q
    cases h
    dsimp only
    rw [if_neg q]
    rfl
theorem max_L {l : List Int} {x : Int} (h : maxO l = some x) : gMax [eL D.int l] = some (.im (.int x)) := by
  unfold maxO at h
  show ints1 (fun ns => if ns = [] then none else some (.int (maxL ns))) [eL D.int l] = _
  unfold ints1 eL lstOf
  dsimp only
  rw [intsOf_map]
  split at h
  · cases h
  · rename_i q
    cases h
    dsimp only
    rw [if_neg q]
    rfl
section
variable {c c1 c2 : SemB} {b : Bool}
theorem tst_f (h : c e = .ok b e') (hb : b = false) : c e = .ok false e' := hb ▸ h
theorem tst_t (h : c e = .ok b e') (hb : b = true) : c e = .ok true e' := hb ▸ h
theorem tst_fn (h : c e = .ok (!b) e') (hb : b = true) : c e = .ok false e' := by subst hb; exact h
theorem tst_tn (h : c e = .ok (!b) e') (hb : b = false) : c e = .ok true e' := by subst hb; exact h
theorem bl_tn {b : Bool} (h : f e = .ok (.im (.bl !b)) e') (hb : b = false) : f e = .ok (.im (.bl true)) e' := by subst hb; exact h
theorem or_ff (h : c1 e = .ok false e') (h2 : c2 e' = .ok false e'') : sOrB c1 c2 e = .ok false e'' := by
  unfold sOrB
  rw [h]
  exact h2
theorem and_tt (h : c1 e = .ok true e') (h2 : c2 e' = .ok true e'') : sAndB c1 c2 e = .ok true e'' := by
  unfold sAndB
  rw [h]
  exact h2
theorem not_f (h : c e = .ok true e') : sNotB c e = .ok false e' := not_ok h
theorem not_t (h : c e = .ok false e') : sNotB c e = .ok true e' := not_ok h
theorem andV_tt (h : fa e = .ok ta e') (h1 : ta.get e' = some (.bl true)) (h2 : fb e' = .ok tb e'') : sAndV fa fb e = .ok tb e'' := by
  unfold sAndV
  rw [h]
  dsimp only
  rw [h1]
  exact h2
theorem bl_t {b : Bool} (h : f e = .ok (.im (.bl b)) e') (hb : b = true) : f e = .ok (.im (.bl true)) e' := hb ▸ h
end
def repT {α : Type} (l : List α) (k : Int) : Option (List α) := if l ≠ [] ∧ 2 ≤ k ∧ k ≤ 1000 ∧ l.length ≤ 1000 then some (List.replicate k.toNat l).flatten else none
end
end L2.Py
set_option maxRecDepth 10000
namespace L2.Py
theorem sumA_L {l : List Int} : gSumA [eL D.int l] = some (.im (.int l.sum)) := sum_L
theorem sumA_V {l : List Int} : gSumA [eV D.int l] = some (.im (.int l.sum)) := by
  unfold eV gSumA
  dsimp only
  rw [intsOf_map]
theorem sortedA_L {l : List Int} : gSortedA [eL D.int l] = some (.ow (eL D.int (isort l))) := by
  unfold gSortedA
  rw [sorted_L]
def notI : D → Bool
  | .int _ => false
  | _ => true
def sortM {α : Type} (m : α → D) (l : List α) : List α := l.mergeSort fun a b => PySem.W.dataLe false toP (m a) (m b)
def okSM {α : Type} (m : α → D) (l : List α) : Bool := okSort (l.map m) && (l.map m).all notI
theorem dsort_map {α : Type} (m : α → D) (l : List α) : dsort (l.map m) = (sortM m l).map m := by
  unfold dsort sortM
  exact (List.map_mergeSort (r := fun a b => PySem.W.dataLe false toP (m a) (m b)) (s := PySem.W.dataLe false toP) (f := m) (l := l) (fun _ _ _ _ => rfl)).symm
theorem sortedA_M {α : Type} {m : α → D} {l : List α} (h : okSM m l = true) : gSortedA [eL m l] = some (.ow (eL m (sortM m l))) := by
  unfold okSM at h
  rw [Bool.and_eq_true] at h
  unfold gSortedA
  cases l with
  | nil =>
    have h1 : gSorted [eL m []] = some (.ow (.lst ((isort []).map .int))) := rfl
    have h2 : isort [] = [] := by unfold isort; exact List.mergeSort_nil
    have h3 : sortM m [] = [] := by unfold sortM; exact List.mergeSort_nil
    rw [h1, h2, h3]
    rfl
  | cons x l =>
    have h1 : intsOf ((x :: l).map m) = none := by
      have := List.all_eq_true.mp h.2 (m x) (List.mem_map.mpr ⟨x, List.mem_cons_self, rfl⟩)
      rw [List.map_cons]
      cases hm : m x <;> first | (rw [hm] at this; cases this; done) | rfl
    have h2 : gSorted [eL m (x :: l)] = none := by
      unfold gSorted eL
      dsimp only [lstOf]
      rw [h1]
    rw [h2]
    unfold eL
    dsimp only [lstOf]
    rw [if_pos h.1, dsort_map]
theorem sset_L {l : List Int} (h : l.length ≤ 4000 ∧ (dd l).length < 64) : gSSet [eL D.int l] = some (.ow (eL D.int (sset l))) := by
  unfold eL gSSet
  dsimp only [lstOf]
  rw [intsOf_map]
  dsimp only
  rw [if_pos h]
theorem intp_ok {f : Sem} {t : Tm} {e e' : En} {i : Int} (h : f e = .ok t e') (h2 : t.get e' = some (.int i)) : sPart (some f) e = .ok (some i) e' := by
  show sInt f e = _
  simp only [sInt, h, h2]
def reprA (d : D) : Option PySem.Str := match gReprA [d] with
  | some (.im (.str s)) => some s
  | _ => none
theorem repr_A {d : D} {s : PySem.Str} (h : reprA d = some s) : gReprA [d] = some (.im (.str s)) := by
  unfold reprA at h
  split at h
  · rename_i q
    cases h
    exact q
  · cases h
theorem reprA_lst (ds : List D) : reprA (.lst ds) = reprO (.lst ds) := rfl
theorem reprA_tup (ds : List D) : reprA (.tup ds) = reprO (.tup ds) := rfl
theorem reprA_non : reprA .non = some (PySem.Str.ofString "None") := rfl
theorem reprA_bl (b : Bool) : reprA (.bl b) = some (if b then PySem.Str.ofString "True" else PySem.Str.ofString "False") := rfl
theorem reprA_int {i : Int} (h : i.natAbs.log2 < 1920) : reprA (.int i) = some (PySem.Str.ofString (toString i)) := by
  unfold reprA gReprA
  dsimp only
  rw [if_pos h]
theorem log2_small {i : Int} (h : i.natAbs < 2 ^ 64) : i.natAbs.log2 < 1920 := by
  by_cases z : i.natAbs = 0
  · rw [z]
    decide
  · exact Nat.lt_of_lt_of_le ((Nat.log2_lt z).mpr h) (by decide)
def rngC (i j c : Int) : List Int := (List.range (PySem.Builtin.Range.rangeSize i j c).toNat).map fun (k : Nat) => i + k * c
def okRC (i j c : Int) : Bool := decide (c ≠ 0 ∧ c.natAbs < 1073741824 ∧ PySem.Builtin.Range.small i j c = true ∧ 0 ≤ PySem.Builtin.Range.rangeSize i j c)
theorem rng3_I {i j c : Int} (h : okRC i j c = true) : gRng3 [.int i, .int j, .int c] = some ((rngC i j c).map D.int) := by
  unfold gRng3 rngC
  dsimp only
  rw [if_pos (of_decide_eq_true h), List.map_map]
  rfl
theorem nx_forD {α σ : Type} {mm : α → D} {g : G} {fb : SemS} {P : σ → En} {b : σ → Int → Option σ} {l : List (Int × α)} {s s' : σ} {i : Nat} {e e' : En} (hq : takeT (.sl i) e = some (.im (eM mm l), e')) (he : e' = P s) (h : gfor b (l.map (·.1)) s = some s')
    (hb : ∀ s x s', b s x = some s' → ∃ e1, g (.im (.int x)) (P s) = some e1 ∧ fb e1 = .nx (P s')) : sForD i g fb e = .nx (P s') := by
  have k := for_ok (m := D.int) hb (l.map (·.1)) s s' h
  have e2 : (l.map fun p => ((Sum.inl p.1 : Key), mm p.2)).map (fun kv => kD kv.1) = (l.map (·.1)).map D.int := by
    rw [List.map_map, List.map_map]
    rfl
  unfold sForD
  rw [hq]
  show (match forN g fb ((l.map fun p => ((Sum.inl p.1 : Key), mm p.2)).map (fun kv => kD kv.1)) e' with
    | .nx e2 => RS.nx e2
    | _ => RS.no) = _
  rw [e2, he, k]
end L2.Py
set_option maxRecDepth 100000
namespace L2.Py
open PySem PySem.Spec PyProof.Rows
section
variable {α β γ σ : Type} {e e' e'' e3 e4 : En} {f fa fb fc fs : Sem} {t ta tb : Tm} {d : D} {c1 c2 : SemB} {b b1 : Bool}
theorem itd_ok {i : Nat} {mm : α → D} {l : List (Int × α)} (h : takeT (.sl i) e = some (.im (eM mm l), e')) : sItD i e = .ok ((l.map (·.1)).map D.int) e' := by
  unfold sItD
  rw [h]
  unfold eM
  dsimp only
  rw [List.map_map, List.map_map]
  rfl
theorem pick3_map {m : α → β} {l : List α} {lo hi : Option Int} {st : Int} : pick3 (l.map m) lo hi st = (pick3 l lo hi st).map m := by
  unfold pick3
  rw [List.length_map, List.map_filterMap]
  congr 1
  funext i
  rw [List.getElem?_map]
theorem slc3_ok {m : α → D} {x : List α} {lo hi : Option Sem} {l h : Option Int} {k : Int} (h1 : fa e = .ok t e') (h2 : sPart lo e' = .ok l e'') (h3 : sPart hi e'' = .ok h e3) (h4 : fs e3 = .ok ta e4) (h5 : ta.get e4 = some (.int k)) (h6 : t.get e4 = some (eL m x)) (h7 : k ≠ 0) :
    sSlc3 fa lo hi fs e = .ok (.ow (eL m (pick3 x l h k))) e4 := by
  unfold sSlc3
  rw [h1]
  dsimp only
  rw [h2]
  dsimp only
  rw [h3]
  dsimp only
  have : sPart (some fs) e3 = .ok (some k) e4 := by
    show sInt fs e3 = _
    unfold sInt
    rw [h4]
    dsimp only
    rw [h5]
  rw [this]
  dsimp only
  rw [h6]
  dsimp only
  unfold eL gSl3
  dsimp only
  rw [if_pos h7, pick3_map]
theorem and_s {σ : Type} {P : σ → En} {o : Option (Bool × σ)} {q : Bool × σ} {s1 : σ} (h : c1 e = .ok b1 e') (he : e' = P s1) (h2 : o = some q → c2 e' = .ok q.1 (P q.2)) (hv : (if b1 = true then o else some (false, s1)) = some q) : sAndB c1 c2 e = .ok q.1 (P q.2) := by
  cases b1 with
  | true =>
    unfold sAndB
    rw [h]
    exact h2 hv
  | false =>
    cases hv
    unfold sAndB
    rw [h, he]
theorem or_s {σ : Type} {P : σ → En} {o : Option (Bool × σ)} {q : Bool × σ} {s1 : σ} (h : c1 e = .ok b1 e') (he : e' = P s1) (h2 : o = some q → c2 e' = .ok q.1 (P q.2)) (hv : (if b1 = true then some (true, s1) else o) = some q) : sOrB c1 c2 e = .ok q.1 (P q.2) := by
  cases b1 with
  | false =>
    unfold sOrB
    rw [h]
    exact h2 hv
  | true =>
    cases hv
    unfold sOrB
    rw [h, he]
theorem b_ends {P : σ → En} {x : Bool} {s : σ} {q : Bool × σ} (h : some (x, s) = some q) (k : c1 e = .ok x (P s)) : c1 e = .ok q.1 (P q.2) := by cases h; exact k
theorem get_tmb {b : Bool} {d : D} : (tmb b d).get e = some d := by cases b <;> rfl
theorem int_B {b : Bool} : gInt [.bl b] = some (.im (.int (if b = true then 1 else 0))) := rfl
theorem mulT_V {m : α → D} {l r : List α} {k : Int} (h : repT l k = some r) : gMulT [eV m l, .int k] = some (.im (eV m r)) := by
  unfold repT at h
  split at h
  · rename_i q
    cases h
    unfold eV gMulT
    dsimp only
    rw [if_pos ⟨by simpa using q.1, q.2.1, q.2.2.1, by rw [List.length_map]; exact q.2.2.2⟩, List.map_flatten, List.map_replicate]
  · cases h
theorem mulT_E {l : List D} {k : Int} (h0 : l ≠ []) (h : 2 ≤ k ∧ k ≤ 1000) (hl : l.length ≤ 1000) : gMulT [.tup l, .int k] = some (.im (.tup (List.replicate k.toNat l).flatten)) := by
  unfold gMulT
  dsimp only
  rw [if_pos ⟨h0, h.1, h.2, hl⟩]
end
end L2.Py
namespace L2.Py
open PySem PySem.Spec PyProof.Rows
def popI {α : Type} (l : List α) (i : Int) : Option (α × List α) := if -(2 ^ 63) ≤ i ∧ i < 2 ^ 63 then (seqIndex? i l.length).bind fun k => (l[k]?).map fun x => (x, l.eraseIdx k) else none
theorem popAt_e {α : Type} {m : α → D} {l : List α} {i : Int} {r : α × List α} (h : popI l i = some r) : mPopAt (eL m l) [.int i] = some (.im (m r.1), eL m r.2) := by
  unfold popI at h
  split at h
  · rename_i q
    obtain ⟨k, h1, h2⟩ := Option.bind_eq_some_iff.mp h
    obtain ⟨x, h3, h4⟩ := Option.map_eq_some_iff.mp h2
    subst h4
    unfold eL mPopAt
    dsimp only
    rw [if_pos q, List.length_map, h1]
    dsimp only
    rw [List.getElem?_map, h3]
    dsimp only [Option.map_some]
    have : ∀ (l : List α) (k : Nat), (l.map m).eraseIdx k = (l.eraseIdx k).map m := fun l => by
      induction l with
      | nil => intro k; rfl
      | cons a l ih =>
        intro k
        cases k with
        | zero => rfl
        | succ k => show m a :: (l.map m).eraseIdx k = _; rw [ih]; rfl
    rw [this]
  · cases h
theorem cnt_ok {e e' e'' : En} {fa fb : Sem} {ta tb : Tm} {l : List Int} {k : Int} (h : fa e = .ok ta e') (g : ta.get e' = some (eL D.int l)) (h2 : fb e' = .ok tb e'') (g1 : ta.get e'' = some (eL D.int l)) (g2 : tb.get e'' = some (.int k)) : sCnt fa fb e = .ok (.im (.int ((l.count k : Nat) : Int))) e'' := by
  unfold sCnt
  rw [h]
  dsimp only
  rw [g]
  unfold eL
  dsimp only
  rw [h2]
  dsimp only
  rw [g1, g2]
  unfold eL gCntL
  dsimp only
  rw [intsOf_map]
theorem sl_Sc {l : List Int} {lo hi : Option Int} : gSl lo hi (eSc l) = some (.ow (eL D.int (cutL l lo hi))) := by
  unfold eSc gSl
  dsimp only
  rw [cutL_map]
  rfl
theorem lrg_I {j : Int} (h : okRg 0 j = true) : gLRg [.int j] = some (.ow (eL D.int (rngL 0 j))) := by
  unfold gLRg
  dsimp only
  rw [if_pos h]
  unfold rgD rngL eL
  rw [List.map_map]
  rfl
end L2.Py
namespace L2.Py
open PySem PySem.Spec PyProof.Rows
theorem sortedB_of {ds : List D} {t : Tm} (h : gSortedA ds = some t) : gSortedB ds = some t := by
  unfold gSortedB
  rw [h]
theorem isPs_ints : ∀ l : List Int, isPs (l.map D.int) = true
  | [] => rfl
  | x :: l => by
    show (isP (.int x) && isPs (l.map D.int)) = true
    rw [isPs_ints l]
    rfl
theorem okSort_ints (l : List Int) : okSort (l.map D.int) = true := by
  have h1 : ((l.map D.int).all fun d => (l.map D.int).all fun e => PySem.W.alike (toP d) (toP e)) = true := by
    rw [List.all_eq_true]
    intro d hd
    obtain ⟨i, _, rfl⟩ := List.mem_map.mp hd
    rw [List.all_eq_true]
    intro e he
    obtain ⟨j, _, rfl⟩ := List.mem_map.mp he
    simp [toP, PySem.W.alike]
  have h2 : (l.map D.int).all atB = true := by
    rw [List.all_eq_true]
    intro d hd
    obtain ⟨i, _, rfl⟩ := List.mem_map.mp hd
    rfl
  have h3 : ((l.map D.int).all fun d => decide ((toP d).depth ≤ 60)) = true := by
    rw [List.all_eq_true]
    intro d hd
    obtain ⟨i, _, rfl⟩ := List.mem_map.mp hd
    simp [toP, PySem.PyData.depth]
  unfold okSort
  rw [isPs_ints, h1, h2, h3]
  simp
theorem dsort_ints (l : List Int) : dsort (l.map D.int) = (isort l).map D.int := by
  unfold dsort isort
  refine (List.map_mergeSort (r := fun a b : Int => decide (a ≤ b)) (s := PySem.W.dataLe false toP) (f := D.int) (l := l) fun a _ b _ => ?_).symm
  exact (congrFun (congrFun (PySem.W.dataLe_int (fun z : Int => z)) a) b).symm
theorem sortedB_V {l : List Int} : gSortedB [eV D.int l] = some (.ow (eL D.int (isort l))) := by
  unfold gSortedB
  have h : gSortedA [eV D.int l] = none := rfl
  rw [h]
  unfold eV
  dsimp only
  rw [if_pos (okSort_ints l), dsort_ints]
  rfl
end L2.Py
namespace L2.Py
open PySem PySem.Spec PyProof.Rows
section
variable {e e' e'' : En} {d : D} {i : Nat} {b : Bool}
theorem take_tmb : takeT (tmb b d) e = some (tmb b d, e) := by cases b <;> rfl
theorem st_consb {is : List Nat} {ts : List Tm} {s : Slot} (h : e[i]? = some s) (u : unp s = true) (q : e.set i (some (d, flb b)) = e') (h2 : storeAll is ts e' = some e'') : storeAll (i :: is) (tmb b d :: ts) e = some e'' := by
  cases b with
  | true => first | exact st_conso h u q h2 | exact st_cons h u q h2
  | false => first | exact st_conso h u q h2 | exact st_cons h u q h2
theorem sl_imB {f : Sem} {x : Bool} (h : f e = .ok (.sl i) e') (g : Tm.get e' (.sl i) = some (.bl x)) : ∃ t, f e = .ok t e' ∧ t.get e' = some (.bl x) := ⟨_, h, g⟩
theorem wh_eq {c : SemB} {fb : SemS} {e1 e2 : En} (h : c e1 = c e2) : ∀ n, whileN c fb n e1 = whileN c fb n e2
  | 0 => rfl
  | n + 1 => by unfold whileN; rw [h]
theorem gw_some {σ : Type} {gc : σ → Option Bool} {b : σ → Option σ} {s s' : σ} : ∀ {n}, gwhile gc b n s = some s' → ∃ k, gc s = some k
  | 0, h => nomatch h
  | n + 1, h => by
    unfold gwhile at h
    cases hg : gc s with
    | none => rw [hg] at h; exact absurd h (fun q => nomatch q)
    | some k => exact ⟨k, rfl⟩
theorem nx_whlF {σ : Type} {c : SemB} {fb : SemS} {P : σ → En} {gc : σ → Option Bool} {b : σ → Option σ} {s s' : σ} (h0 : ∀ k, gc s = some k → c e = .ok k (P s)) (h : gwhile gc b wfuel s = some s') (hc : ∀ s k, gc s = some k → c (P s) = .ok k (P s)) (hb : ∀ s s', b s = some s' → fb (P s) = .nx (P s')) : sWhile c fb e = .nx (P s') := by
  have key : sWhile c fb (P s) = .nx (P s') := nx_whl rfl h hc hb
  obtain ⟨k, hg⟩ := gw_some h
  have e1 : c e = c (P s) := by rw [h0 k hg, hc s k hg]
  rw [← key]
  exact wh_eq e1 wfuel
theorem pick_okg {pm : List Nat} {f : SemL} {ts ts1 : List Tm} (h : f e = .ok ts e') (h2 : pm.length = ts.length ∧ pm.Nodup) (h3 : L2.Py.pick pm ts = ts1) : sPick pm f e = .ok ts1 e' := by
  unfold sPick
  rw [h]
  dsimp only
  rw [if_pos h2, h3]
theorem set_or {fa fb : Sem} {b1 : Bool} {o : Option Bool} {j : Nat} {s : Slot} {e3 : En} (h : fa e = .ok (.sl j) e') (hg : Tm.get e' (.sl j) = some (.bl b1)) (ht : takeT (.sl j) e' = some (.im (.bl b1), e')) (h2 : o = some b → fb e' = .ok (.im (.bl b)) e') (hv : (if b1 = true then some true else o) = some b) (h3 : e'[i]? = some s) (u : unp s = true) (q : e'.set i (some (.bl b, .sh)) = e3) : sSet i (sOrV fa fb) e = .nx e3 := by
  cases b1 with
  | true =>
    have hb : b = true := (Option.some.inj hv).symm
    subst hb
    refine set_i (t := .sl j) ?_ ht h3 u q
    unfold sOrV
    rw [h]
    dsimp only
    rw [hg]
    rfl
  | false =>
    refine set_i (t := .im (.bl b)) ?_ rfl h3 u q
    unfold sOrV
    rw [h]
    dsimp only
    rw [hg]
    exact h2 hv
def notOw : Tm → Bool
  | .ow _ => false
  | _ => true
theorem chE_end {fc : Sem} {t : Tm} {db dc : D} {y b : Bool} (hv : some y = some b) (h : fc e = .ok t e) (g : t.get e = some dc) (hq : gEq [db, dc] = some (.im (.bl y))) : ∃ t dc, fc e = .ok t e ∧ t.get e = some dc ∧ gEq [db, dc] = some (.im (.bl b)) := by
  cases hv
  exact ⟨t, dc, h, g, hq⟩
theorem chE_ok {fa fb fc : Sem} {ta tb : Tm} {da db : D} {k b : Bool} {o : Option Bool} (h1 : fa e = .ok ta e') (h2 : fb e' = .ok tb e'') (ga : ta.get e'' = some da) (gb : tb.get e'' = some db) (hq : gEq [da, db] = some (.im (.bl k))) (hn : notOw tb = true) (h3 : o = some b → ∃ t dc, fc e'' = .ok t e'' ∧ t.get e'' = some dc ∧ gEq [db, dc] = some (.im (.bl b))) (hv : (if k = true then o else some false) = some b) : sChE fa fb fc e = .ok (.im (.bl b)) e'' := by
  have hs : s2 fa fb e = .ok [ta, tb] e'' := cons_ok h1 (cons_ok h2 nil_ok)
  have hp : sPure gEq [ta, tb] e'' = .ok (.im (.bl k)) e'' := by
    unfold sPure
    have : getAll e'' [ta, tb] = some [da, db] := by simp only [getAll, ga, gb]
    rw [this]
    dsimp only
    rw [hq]
  unfold sChE
  rw [hs]
  dsimp only
  rw [hp]
  cases k with
  | false =>
    cases hv
    rfl
  | true =>
    obtain ⟨t, dc, c1, c2, c3⟩ := h3 hv
    have hp2 : sPure gEq [tb, t] e'' = .ok (.im (.bl b)) e'' := by
      unfold sPure
      have : getAll e'' [tb, t] = some [db, dc] := by simp only [getAll, gb, c2]
      rw [this]
      dsimp only
      rw [c3]
    cases tb with
    | ow d => cases hn
    | im d => dsimp only; rw [c1]; exact hp2
    | sl i => dsimp only; rw [c1]; exact hp2
theorem fn_retF {b : Bool} {i np : Nat} {f : Sem} {F : List Slot} (hb : b = false) (h : f e = .ok (.sl i) e') (h1 : e'[i]? = some (some (d, flb b))) (q1 : fins np (e'.set i none) = F) (q2 : fins np (e'.set i (some (d, .sh))) = F) : RtF np (sRet f) e (.im d) F := by
  subst hb
  exact fn_retb (b := false) h h1 q1 q2
theorem take_if {α : Type} {m : α → D} {x y : α} {c : Bool} {ta tb : Tm} (h1 : takeT ta e = some (.im (m x), e)) (h2 : takeT tb e = some (.im (m y), e)) : takeT (if c = true then ta else tb) e = some (.im (m (if c = true then x else y)), e) := by
  cases c with
  | true => exact h1
  | false => exact h2
end
end L2.Py
set_option maxRecDepth 10000
namespace L2.Py
def eH : Unit → D := fun _ => .hid
section
variable {α β σ : Type} {e e' e'' e3 : En} {d : D} {i np : Nat} {fl : Fl} {f : Sem}
theorem pinS_b {x : D} {b : Bool} : pinS (some (x, flb b)) = false := by cases b <;> rfl
theorem pinS_o {m : α → D} {o : Option α} : pinS (sO m .sh o) = false := by cases o <;> rfl
theorem pinS_om {m : α → D} {o : Option α} : pinS (sO m .mv o) = false := by cases o <;> rfl
theorem pinS_ob {m : α → D} {b : Bool} {o : Option α} : pinS (sO m (flb b) o) = false := by cases o <;> cases b <;> rfl
theorem unp_om {m : α → D} {o : Option α} : unp (sO m .mv o) = true := by cases o <;> rfl
def ixA (d : D) (i : Int) : Option D := match gIx [d, .int i] with
  | some (.im x) => some x
  | _ => none
theorem ix_A {d x : D} {i : Int} (h : ixA d i = some x) : gIx [d, .int i] = some (.im (eA x)) := by
  unfold ixA at h
  split at h
  · rename_i q
    cases h
    exact q
  · cases h
theorem zipM_LL {m : α → D} {m' : β → D} {l : List α} {l' : List β} : gZipM [eL m l, eL m' l'] = some ((l.zip l').map (e2 m m')) := zip_LL
theorem zipM_VV {m : α → D} {m' : β → D} {l : List α} {l' : List β} : gZipM [eV m l, eV m' l'] = some ((l.zip l').map (e2 m m')) := zip_VV
theorem zipM_LV {m : α → D} {m' : β → D} {l : List α} {l' : List β} : gZipM [eL m l, eV m' l'] = some ((l.zip l').map (e2 m m')) := congrArg some (zipD_map l l')
theorem zipM_VL {m : α → D} {m' : β → D} {l : List α} {l' : List β} : gZipM [eV m l, eL m' l'] = some ((l.zip l').map (e2 m m')) := congrArg some (zipD_map l l')
theorem mutD_ok {fl : SemL} {ts ts' : List Tm} {t : Tm} {m : D → List D → Option (Tm × D)} {x fl0 : Fl} {kd0 : List (Key × D)} {d' : D} {e4 : En} (h0 : e[i]? = some (some (.dct kd0, fl0))) (ho0 : fl0.own = true) (h : fl e = .ok ts e') (h2 : takeAll ts e' = some (ts', e'')) (h3 : e''[i]? = some (some (d, x))) (ho : x.own = true) (h4 : m d (ts'.map dOf) = some (t, d')) (q : e''.set i (some (d', x)) = e4) : sMutD i fl m e = .ok t e4 := by
  subst q
  unfold sMutD
  rw [h0]
  dsimp only
  rw [if_pos ho0, h]
  dsimp only
  rw [h2]
  dsimp only
  rw [h3]
  dsimp only
  rw [if_pos ho, h4]
theorem upd_e {m : α → D} {l l' : List (Int × α)} (h : l.length + l'.length ≤ line) : mUpdD (eM m l) [eM m l'] = some (.im .non, eM m (mergeM l l')) := by
  have := mergeD_M (m := m) l' l
  unfold eM mUpdD
  dsimp only
  rw [if_pos (by rw [List.length_map, List.length_map]; exact h), this]
theorem try0_nx {f : SemS} (h : f e = .nx e') : sTry0 f e = .nx e' := by
  unfold sTry0
  rw [h]
theorem eO_of {m : α → D} {o : Option α} {x : α} (h : o = some x) : Tm.im (eO m o) = .im (m x) := by
  rw [h]
  rfl
theorem cl_nil : cleanE e [] = [] := by unfold cleanE; rfl
theorem cl_n {x y : Slot} {r r' : En} (h : pinS x = false) (k : cleanE e r = r') : cleanE (y :: e) (x :: r) = x :: r' := by
  unfold cleanE
  rw [h, Bool.false_and, if_neg Bool.false_ne_true, List.tail_cons, k]
theorem cl_p {x y : Slot} {r r' : En} (h : pinS y = true) (k : cleanE e r = r') : cleanE (y :: e) (x :: r) = x :: r' := by
  unfold cleanE
  rw [List.head?_cons, Option.getD_some, h, Bool.not_true, Bool.and_false, if_neg Bool.false_ne_true, List.tail_cons, k]
theorem unh_ok (h : cleanE e (match e'[i]? with
  | some (some (.hid, .ls)) => e'.set i (some (d, fl))
  | _ => e'.set i none) = e3) : unhid e i d fl e' = e3 := h
theorem forK_own {g : G} {fb : SemS} {ds : List D} (hi : e[i]? = some (some (.lst ds, fl))) (ho : fl.own = true) : sForK i g fb e = unhidS e i (.lst ds) fl (forN g fb ds (hidE e i)) := by
  unfold sForK
  rw [hi]
  dsimp only
  rw [if_pos ho]
theorem forK_sh {g : G} {fb : SemS} (hi : e[i]? = some (some (d, fl))) (ho : fl.own = false) : sForK i g fb e = sFor g (sItS (sV i)) fb e := by
  unfold sForK
  rw [hi]
  cases d <;> first | rfl | skip
  dsimp only
  rw [if_neg (by rw [ho]; exact Bool.false_ne_true)]
theorem nx_forK {m : α → D} {g : G} {fb : SemS} {P : σ → En} {b : σ → α → Option σ} {l : List α} {s s' : σ} (hi : e[i]? = some (some (eL m l, fl))) (ho : fl.own = true) (he : hidE e i = P s) (h : gfor b l s = some s')
    (hb : ∀ s x s', b s x = some s' → ∃ e1, g (.im (m x)) (P s) = some e1 ∧ fb e1 = .nx (P s')) (hu : unhid e i (eL m l) fl (P s') = e3) : sForK i g fb e = .nx e3 := by
  rw [forK_own hi ho, he, for_ok hb l s s' h, ← hu]
  rfl
theorem cleanE_fins : ∀ (np : Nat) (e e' : En), fins np (cleanE e e') = cleanE e (fins np e')
  | 0, _, _ => by simp [fins, cleanE]
  | np + 1, _, [] => by simp [fins, cleanE]
  | np + 1, e, x :: r => by
    have ih := cleanE_fins np e.tail r
    have h1 : ∀ (y : Slot) (l : En), fins (np + 1) (y :: l) = (match y with
      | some (d, f) => if f.pin then some (d, f) else none
      | none => none) :: fins np l := fun y l => rfl
    conv => lhs; unfold cleanE
    rw [h1, h1, ih]
    conv => rhs; unfold cleanE
    congr 1
    cases x with
    | none => simp [pinS]
    | some x =>
      obtain ⟨d, f⟩ := x
      cases hf : f.pin with
      | false => simp [pinS, hf]
      | true =>
        cases hq : pinS (e.head?.getD none) with
        | true => simp [pinS, hf]
        | false => simp [pinS, hf]
theorem fins_set_hi {x : Slot} (h : np ≤ i) : fins np (e.set i x) = fins np e := by
  unfold fins
  rw [List.take_set_of_le h]
theorem fins_hi {F : En} (h : np ≤ i) (q : fins np e' = F) {F' : En} (hc : cleanE e F = F') : fins np (unhid e i d fl e') = F' := by
  unfold unhid
  rw [cleanE_fins, ← hc, ← q]
  congr 1
  split <;> exact fins_set_hi h
theorem fins_lo {F : En} (h : i < np) (q : fins np e' = F) (hF : F[i]? = some (some (.hid, .ls))) {F' : En} (hp : fl.pin = true) (hc : cleanE e (F.set i (some (d, fl))) = F') : fins np (unhid e i d fl e') = F' := by
  have z : e'[i]? = some (some (.hid, .ls)) := by
    rw [← q] at hF
    exact (fins_get hF).2.1
  unfold unhid
  rw [cleanE_fins, ← hc, ← q, z]
  dsimp only
  congr 1
  unfold fins
  rw [List.take_set, List.map_set]
  dsimp only
  rw [if_pos hp]
theorem rn_forK {ρ : Type} {m : α → D} {g : G} {fb : SemS} {P P2 : σ → En} {b : σ → α → Option (σ ⊕ ρ)} {T : ρ → Tm} {Fi Fi2 : ρ → En} {l : List α} {s : σ} {r : σ ⊕ ρ} (hi : e[i]? = some (some (eL m l, fl))) (ho : fl.own = true) (he : hidE e i = P s) (h : gforR b l s = some r)
    (hb : ∀ s x r, b s x = some r → ∃ e1, g (.im (m x)) (P s) = some e1 ∧ RN np fb e1 P T Fi r) (hu : ∀ s', unhid e i (eL m l) fl (P s') = P2 s') (hF : ∀ v e2, fins np e2 = Fi v → fins np (unhid e i (eL m l) fl e2) = Fi2 v) : RN np (sForK i g fb) e P2 T Fi2 r := by
  have this := forR_ok (np := np) (T := T) (Fi := Fi) (P := P) (m := m) (g := g) (fb := fb) (b := b) (fun s x r h => by
    obtain ⟨e1, h1, h2⟩ := hb s x r h
    refine ⟨e1, h1, ?_⟩
    cases r with
    | inl s' => exact h2
    | inr v => exact h2) l s r h
  have k := forK_own (g := g) (fb := fb) (ds := l.map m) hi ho
  cases r with
  | inl s' =>
    show sForK i g fb e = .nx (P2 s')
    rw [k, he, this, ← hu s']
    rfl
  | inr v =>
    obtain ⟨e2, j1, j2⟩ := this
    refine ⟨_, ?_, hF v e2 j2⟩
    rw [k, he, j1]
    rfl
theorem rn_forKsh {ρ : Type} {g : G} {fb : SemS} {P : σ → En} {T : ρ → Tm} {Fi : ρ → En} {r : σ ⊕ ρ} (hi : e[i]? = some (some (d, fl))) (ho : fl.own = false) (k : RN np (sFor g (sItS (sV i)) fb) e P T Fi r) : RN np (sForK i g fb) e P T Fi r := by
  unfold RN RtF at k ⊢
  rw [forK_sh hi ho]
  exact k
theorem fins_lo2 {F : En} (h : i < np) (q : fins np e' = F) (hF : F[i]? = some (some (.hid, .ls))) {F' : En} (hp : fl.pin = false) (hc : cleanE e (F.set i none) = F') : fins np (unhid e i d fl e') = F' := by
  have z : e'[i]? = some (some (.hid, .ls)) := by
    rw [← q] at hF
    exact (fins_get hF).2.1
  unfold unhid
  rw [cleanE_fins, ← hc, ← q, z]
  dsimp only
  congr 1
  unfold fins
  rw [List.take_set, List.map_set]
  dsimp only
  rw [if_neg (by rw [hp]; exact Bool.false_ne_true)]
theorem rn_rn1 {σ' ρ : Type} {S1 : SemS} {P : σ → En} {P' : σ' → En} {T : ρ → Tm} {Fi : ρ → En} {r : σ ⊕ ρ} {q : σ' ⊕ ρ} (h : RN np S1 e P' T Fi q) (k1 : ∀ s, q = .inl s → RN np sSkip (P' s) P T Fi r) (k2 : ∀ v, q = .inr v → r = .inr v) : RN np S1 e P T Fi r := by
  cases q with
  | inl s =>
    have h : S1 e = .nx (P' s) := h
    have k := k1 s rfl
    cases r with
    | inl s2 =>
      have k : RS.nx (P' s) = .nx (P s2) := k
      exact h.trans k
    | inr v =>
      obtain ⟨e2, j, _⟩ := k
      cases j
  | inr v =>
    rw [k2 v rfl]
    exact h
theorem lk_nx {f : SemS} {r : RS} (he : leakE i e = e') (h : f e' = r) : sLeak i f e = r := by
  unfold sLeak
  rw [he, h]
theorem rn_lk {ρ : Type} {f : SemS} {P : σ → En} {T : ρ → Tm} {Fi : ρ → En} {r : σ ⊕ ρ} (he : leakE i e = e') (h : RN np f e' P T Fi r) : RN np (sLeak i f) e P T Fi r := by
  unfold RN RtF sLeak at *
  rw [he]
  exact h
theorem lcK_own {vs : List Nat} {g : G} {c : SemB} {ds acc : List D} (hi : e[i]? = some (some (.lst ds, fl))) (ho : fl.own = true) (h0 : noOwn (hidE e i) vs = true) (h : lcN vs g c f ds [] (wipeE (hidE e i) vs) = .ok acc e') (hu : unhid e i (.lst ds) fl (backE (hidE e i) e' vs) = e3) : sLcK i vs g c f e = .ok (.ow (.lst acc)) e3 := by
  unfold sLcK
  rw [hi]
  dsimp only
  rw [if_pos ho, if_pos h0, h, ← hu]
theorem lcK_sh {vs : List Nat} {g : G} {c : SemB} (hi : e[i]? = some (some (d, fl))) (ho : fl.own = false) : sLcK i vs g c f e = sLc vs g (sItS (sV i)) c f e := by
  unfold sLcK
  rw [hi]
  cases d <;> first | rfl | skip
  dsimp only
  rw [if_neg (by rw [ho]; exact Bool.false_ne_true)]
theorem lcK_m {m : α → D} {m' : β → D} {vs : List Nat} {g : G} {w : En} {b : α → Option β} {l : List α} {r : List β} (hi : e[i]? = some (some (eL m l, fl))) (ho : fl.own = true) (h0 : noOwn (hidE e i) vs = true) (hw : wipeE (hidE e i) vs = w) (h : mapO b l = some r) (hl : l.length ≤ line)
    (hb : ∀ x y, b x = some y → ∃ e1 t t' e3 e4, g (.im (m x)) w = some e1 ∧ f e1 = .ok t e3 ∧ takeT t e3 = some (t', e4) ∧ dOf t' = m' y ∧ wipeE e4 vs = w) (hk : unhid e i (eL m l) fl (backE (hidE e i) w vs) = e3) : sLcK i vs g sYes f e = .ok (.ow (eL m' r)) e3 :=
  lcK_own hi ho h0 (by rw [hw]; exact lcm_ok hb l r [] h (by rw [List.length_nil, Nat.zero_add]; exact hl)) hk
theorem lcK_f {m : α → D} {m' : β → D} {vs : List Nat} {g : G} {c : SemB} {w : En} {b : α → Option (Option β)} {l : List α} {r : List β} (hi : e[i]? = some (some (eL m l, fl))) (ho : fl.own = true) (h0 : noOwn (hidE e i) vs = true) (hw : wipeE (hidE e i) vs = w) (h : filO b l = some r) (hl : l.length ≤ line)
    (hb : ∀ x y, b x = some y → ∃ e1, g (.im (m x)) w = some e1 ∧ FilP c f vs w e1 m' y) (hk : unhid e i (eL m l) fl (backE (hidE e i) w vs) = e3) : sLcK i vs g c f e = .ok (.ow (eL m' r)) e3 :=
  lcK_own hi ho h0 (by rw [hw]; exact lcf_ok hb l r [] h (by rw [List.length_nil, Nat.zero_add]; exact hl)) hk
theorem lcK_s {m : α → D} {m' : β → D} {vs : List Nat} {g : G} {P : σ → En} {b : σ → α → Option (β × σ)} {l : List α} {s : σ} {r : List β × σ} (hi : e[i]? = some (some (eL m l, fl))) (ho : fl.own = true) (h0 : noOwn (hidE e i) vs = true) (hw : wipeE (hidE e i) vs = P s) (h : mapS b l s = some r) (hl : l.length ≤ line)
    (hb : ∀ s x y, b s x = some y → ∃ e1 t t' e3 e4, g (.im (m x)) (P s) = some e1 ∧ f e1 = .ok t e3 ∧ takeT t e3 = some (t', e4) ∧ dOf t' = m' y.1 ∧ wipeE e4 vs = P y.2) (hk : unhid e i (eL m l) fl (backE (hidE e i) (P r.2) vs) = e3) : sLcK i vs g sYes f e = .ok (.ow (eL m' r.1)) e3 :=
  lcK_own hi ho h0 (by rw [hw]; exact lcs_ok hb l s r [] h (by rw [List.length_nil, Nat.zero_add]; exact hl)) hk
end
end L2.Py
set_option maxRecDepth 10000
namespace L2.Py
section
variable {α β γ σ ρ : Type}
theorem bnd_some {x : α} {f : α → Option β} : (some x).bind f = f x := rfl
theorem mapO_some {f : α → Option β} {h : α → β} : ∀ {l : List α}, (∀ x ∈ l, f x = some (h x)) → mapO f l = some (l.map h)
  | [], _ => rfl
  | x :: l, hx => by
    unfold mapO
    rw [hx x List.mem_cons_self, mapO_some (l := l) fun y hy => hx y (List.mem_cons_of_mem _ hy)]
    rfl
theorem mapO_all {f : α → Option β} {P : β → Prop} : ∀ {l : List α}, (∀ x ∈ l, ∃ y, f x = some y ∧ P y) → ∃ r, mapO f l = some r ∧ r.length = l.length ∧ ∀ y ∈ r, P y
  | [], _ => ⟨[], rfl, rfl, fun _ h => nomatch h⟩
  | x :: l, hx => by
    obtain ⟨y, h1, h2⟩ := hx x List.mem_cons_self
    obtain ⟨r, k1, k2, k3⟩ := mapO_all (l := l) fun y hy => hx y (List.mem_cons_of_mem _ hy)
    refine ⟨y :: r, ?_, by simp [k2], fun z hz => ?_⟩
    · unfold mapO
      rw [h1, k1]
      rfl
    · rcases List.mem_cons.mp hz with rfl | hz
      · exact h2
      · exact k3 z hz
theorem filO_some {f : α → Option (Option β)} {q : α → Bool} {h : α → β} : ∀ {l : List α}, (∀ x ∈ l, f x = some (if q x = true then some (h x) else none)) → filO f l = some ((l.filter q).map h)
  | [], _ => rfl
  | x :: l, hx => by
    unfold filO
    rw [hx x List.mem_cons_self, filO_some (l := l) fun y hy => hx y (List.mem_cons_of_mem _ hy)]
    cases z : q x with
    | true => simp [List.filter_cons, z]
    | false => simp [List.filter_cons, z]
theorem mapS_run {f : σ → α → Option (β × σ)} {I : σ → Prop} {P : β → Prop} : ∀ {l : List α} {s : σ}, I s → (∀ s x, I s → x ∈ l → ∃ y s', f s x = some (y, s') ∧ P y ∧ I s') → ∃ r s', mapS f l s = some (r, s') ∧ r.length = l.length ∧ (∀ y ∈ r, P y) ∧ I s'
  | [], s, h, _ => ⟨[], s, rfl, rfl, (fun _ h => nomatch h), h⟩
  | x :: l, s, h, hx => by
    obtain ⟨y, s1, h1, h2, h3⟩ := hx s x h List.mem_cons_self
    obtain ⟨r, s', k1, k2, k3, k4⟩ := mapS_run (l := l) h3 fun s y hs hy => hx s y hs (List.mem_cons_of_mem _ hy)
    refine ⟨y :: r, s', ?_, by simp [k2], fun z hz => ?_, k4⟩
    · unfold mapS
      rw [h1]
      dsimp only [Option.bind_some]
      rw [k1]
      rfl
    · rcases List.mem_cons.mp hz with rfl | hz
      · exact h2
      · exact k3 z hz
theorem gfor_run {b : σ → α → Option σ} {I : σ → Prop} : ∀ {l : List α} {s : σ}, I s → (∀ s x, I s → x ∈ l → ∃ s', b s x = some s' ∧ I s') → ∃ s', gfor b l s = some s' ∧ I s'
  | [], s, h, _ => ⟨s, rfl, h⟩
  | x :: l, s, h, hx => by
    obtain ⟨s1, h1, h2⟩ := hx s x h List.mem_cons_self
    obtain ⟨s', k1, k2⟩ := gfor_run (l := l) h2 fun s y hs hy => hx s y hs (List.mem_cons_of_mem _ hy)
    refine ⟨s', ?_, k2⟩
    unfold gfor
    rw [h1]
    exact k1
theorem gfor_pre {b : σ → α → Option σ} {I : List α → σ → Prop} : ∀ {l pre : List α} {s : σ}, I pre s → (∀ pre x s, I pre s → x ∈ l → ∃ s', b s x = some s' ∧ I (pre ++ [x]) s') → ∃ s', gfor b l s = some s' ∧ I (pre ++ l) s'
  | [], pre, s, h, _ => ⟨s, rfl, by rw [List.append_nil]; exact h⟩
  | x :: l, pre, s, h, hx => by
    obtain ⟨s1, h1, h2⟩ := hx pre x s h List.mem_cons_self
    obtain ⟨s', k1, k2⟩ := gfor_pre (l := l) h2 fun p y s hs hy => hx p y s hs (List.mem_cons_of_mem _ hy)
    refine ⟨s', ?_, by rw [List.append_assoc] at k2; exact k2⟩
    unfold gfor
    rw [h1]
    exact k1
theorem gfor_fold {b : σ → α → Option σ} {st : σ → α → σ} {I : σ → Prop} : ∀ {l : List α} {s : σ}, I s → (∀ s x, I s → x ∈ l → b s x = some (st s x) ∧ I (st s x)) → gfor b l s = some (l.foldl st s) ∧ I (l.foldl st s)
  | [], s, h, _ => ⟨rfl, h⟩
  | x :: l, s, h, hx => by
    obtain ⟨h1, h2⟩ := hx s x h List.mem_cons_self
    obtain ⟨k1, k2⟩ := gfor_fold (l := l) h2 fun s y hs hy => hx s y hs (List.mem_cons_of_mem _ hy)
    refine ⟨?_, k2⟩
    unfold gfor
    rw [h1]
    exact k1
theorem gforR_run {b : σ → α → Option (σ ⊕ ρ)} {I : σ → Prop} : ∀ {l : List α} {s : σ}, I s → (∀ s x, I s → x ∈ l → ∃ s', b s x = some (.inl s') ∧ I s') → ∃ s', gforR b l s = some (.inl s') ∧ I s'
  | [], s, h, _ => ⟨s, rfl, h⟩
  | x :: l, s, h, hx => by
    obtain ⟨s1, h1, h2⟩ := hx s x h List.mem_cons_self
    obtain ⟨s', k1, k2⟩ := gforR_run (l := l) h2 fun s y hs hy => hx s y hs (List.mem_cons_of_mem _ hy)
    refine ⟨s', ?_, k2⟩
    unfold gforR
    rw [h1]
    exact k1
theorem gforR_find {b : σ → α → Option (σ ⊕ ρ)} {o : α → Option ρ} : ∀ {l : List α} {s : σ}, (∀ s x, x ∈ l → match o x with
      | none => ∃ s', b s x = some (.inl s')
      | some v => b s x = some (.inr v)) → match l.findSome? o with
      | none => ∃ s', gforR b l s = some (.inl s')
      | some v => gforR b l s = some (.inr v)
  | [], s, _ => ⟨s, rfl⟩
  | x :: l, s, hx => by
    have h1 := hx s x List.mem_cons_self
    rw [List.findSome?_cons]
    cases z : o x with
    | some v =>
      rw [z] at h1
      dsimp only at h1 ⊢
      unfold gforR
      rw [h1]
      rfl
    | none =>
      rw [z] at h1
      obtain ⟨s1, h1⟩ := h1
      have k := gforR_find (l := l) (s := s1) fun s y hy => hx s y (List.mem_cons_of_mem _ hy)
      dsimp only
      cases q : l.findSome? o with
      | none =>
        rw [q] at k
        obtain ⟨s', k⟩ := k
        refine ⟨s', ?_⟩
        unfold gforR
        rw [h1]
        exact k
      | some v =>
        rw [q] at k
        dsimp only at k ⊢
        unfold gforR
        rw [h1]
        exact k
theorem gwhile_more {c : σ → Option Bool} {b : σ → Option σ} : ∀ {n m : Nat} {s s' : σ}, gwhile c b n s = some s' → n ≤ m → gwhile c b m s = some s'
  | 0, m, s, s', h, _ => nomatch h
  | n + 1, 0, s, s', h, hm => absurd hm (by omega)
  | n + 1, m + 1, s, s', h, hm => by
    unfold gwhile at h ⊢
    cases q : c s with
    | none => rw [q] at h; cases h
    | some k =>
      rw [q] at h
      dsimp only [Option.bind_some] at h ⊢
      cases k with
      | false => exact h
      | true =>
        rw [if_pos rfl] at h ⊢
        cases z : b s with
        | none => rw [z] at h; cases h
        | some s1 =>
          rw [z] at h
          exact gwhile_more (n := n) h (by omega)
theorem gwhile_end {c : σ → Option Bool} {b : σ → Option σ} {n : Nat} {s : σ} (h : c s = some false) : gwhile c b (n + 1) s = some s := by
  unfold gwhile
  rw [h]
  rfl
theorem gwhile_step {c : σ → Option Bool} {b : σ → Option σ} {n : Nat} {s s1 : σ} (h : c s = some true) (h2 : b s = some s1) : gwhile c b (n + 1) s = gwhile c b n s1 := by
  show (c s).bind (fun k => if k = true then (b s).bind fun s' => gwhile c b n s' else some s) = _
  rw [h]
  show (b s).bind (fun s' => gwhile c b n s') = _
  rw [h2]
  rfl
theorem gwhile_run {c : σ → Option Bool} {b : σ → Option σ} (I : σ → Prop) (go : σ → Bool) (m : σ → Nat) (hc : ∀ s, I s → c s = some (go s)) (hb : ∀ s, I s → go s = true → ∃ s', b s = some s' ∧ I s' ∧ m s' < m s) : ∀ (n : Nat) (s : σ), I s → m s < n → ∃ s', gwhile c b n s = some s' ∧ I s' ∧ go s' = false
  | 0, s, _, h => absurd h (Nat.not_lt_zero _)
  | n + 1, s, hi, h => by
    cases q : go s with
    | false => exact ⟨s, gwhile_end (by rw [hc s hi, q]), hi, q⟩
    | true =>
      obtain ⟨s1, h1, h2, h3⟩ := hb s hi q
      obtain ⟨s', k1, k2, k3⟩ := gwhile_run I go m hc hb n s1 h2 (by omega)
      exact ⟨s', by rw [gwhile_step (by rw [hc s hi, q]) h1]; exact k1, k2, k3⟩
end
def gcdB (s : Int × Int) : Option (Int × Int) := (modI s.1 s.2).bind fun (y : Int) => some (s.2, y)
theorem gcd_nat {c : Int × Int → Option Bool} (hc : ∀ a b : Nat, c ((a : Int), (b : Int)) = some (!decide (b = 0))) : ∀ (n a b : Nat), b < 2 ^ n → gwhile c gcdB (2 * n + 1) ((a : Int), (b : Int)) = some (((Nat.gcd a b : Nat) : Int), (0 : Int))
  | n, a, 0, _ => by
    rw [Nat.gcd_zero_right]
    exact gwhile_end (hc a 0)
  | 0, a, b + 1, h => absurd h (by omega)
  | n + 1, a, b + 1, h => by
    have st : ∀ u v : Nat, gcdB ((u : Int), ((v + 1 : Nat) : Int)) = some (((v + 1 : Nat) : Int), ((u % (v + 1) : Nat) : Int)) := fun u v => by
      unfold gcdB
      dsimp only
      rw [modI_s (by omega), fmod_nat]
      rfl
    rw [show 2 * (n + 1) + 1 = (2 * n + 1) + 1 + 1 by omega, gwhile_step (by rw [hc]; rfl) (st a b)]
    rw [Nat.gcd_comm, Nat.gcd_rec]
    cases q : a % (b + 1) with
    | zero =>
      rw [Nat.gcd_zero_left]
      exact gwhile_end (hc _ 0)
    | succ r =>
      rw [gwhile_step (by rw [hc]; rfl) (st (b + 1) r)]
      have hr : r + 1 < b + 1 := by
        rw [← q]
        exact Nat.mod_lt _ (by omega)
      have h2 : (b + 1) % (r + 1) < 2 ^ n := by
        rw [Nat.pow_succ] at h
        by_cases z : 2 * (r + 1) ≤ b + 1
        · have := Nat.mod_lt (b + 1) (show r + 1 > 0 by omega)
          omega
        · rw [Nat.mod_eq_sub_mod (by omega), Nat.mod_eq_of_lt (by omega)]
          omega
      rw [gcd_nat hc n (r + 1) _ h2, Nat.gcd_comm, ← Nat.gcd_rec]
theorem gcd_int {c : Int × Int → Option Bool} (hc : ∀ a b : Nat, c ((a : Int), (b : Int)) = some (!decide (b = 0))) {a b : Int} {n : Nat} (h : b.natAbs < 2 ^ n) (hn : 2 * n + 1 ≤ 1000000) : gwhile c gcdB wfuel ((a.natAbs : Int), (b.natAbs : Int)) = some (((Nat.gcd a.natAbs b.natAbs : Nat) : Int), (0 : Int)) :=
  gwhile_more (gcd_nat hc n _ _ h) hn
theorem gcd_gt : ∀ a b : Nat, (fun (s : Int × Int) => some (decide (s.2 > 0))) ((a : Int), (b : Int)) = some (!decide (b = 0)) := fun a b => by
  by_cases h : b = 0
  · simp [h]
  · simp [h]; omega
theorem gcd_ne : ∀ a b : Nat, (fun (s : Int × Int) => some (!decide (s.2 = 0))) ((a : Int), (b : Int)) = some (!decide (b = 0)) := fun a b => by
  by_cases h : b = 0
  · simp [h]
  · simp [h]
def PotOk (p : List Int) : Prop := ∃ a b, p = [a, b] ∧ 0 ≤ b ∧ b ≤ 4294967296
def drawG (A C M1 M2 DV : Int) (p : List Int) (m : Int) : Option (Int × List Int) :=
  (geti p 0).bind fun (y1 : Int) => if (decide (y1 > 0)) = true then ((geti p 0).bind fun (y2 : Int) => (dmI y2 m).bind fun (y3 : (Int × Int)) => (seti p 0 y3.1).bind fun (y4 : (List Int)) => some (y3.2, y4)) else ((geti p 1).bind fun (y5 : Int) => (mulI y5 A).bind fun (y6 : Int) => (seti p 1 (Int.fmod (y6 + C) M1)).bind fun (y7 : (List Int)) => (geti y7 1).bind fun (y8 : Int) => (geti y7 1).bind fun (y9 : Int) => (mulI y8 y9).bind fun (y10 : Int) => (modI (Int.fdiv (Int.fmod y10 M2) DV) m).bind fun (y11 : Int) => some (y11, y7))
theorem geti0 {α : Type} {a : α} {l : List α} : geti (a :: l) 0 = some a := by
  unfold geti L2.atI L2.ixN
  simp
theorem geti1 {α : Type} {a b : α} {l : List α} : geti (a :: b :: l) 1 = some b := by
  unfold geti L2.atI L2.ixN
  rw [if_pos (by decide), if_pos (by simp; omega)]
  rfl
theorem seti0 {α : Type} {a x : α} {l : List α} : seti (a :: l) 0 x = some (x :: l) := by
  unfold seti L2.ixN
  simp
theorem seti1 {α : Type} {a b x : α} {l : List α} : seti (a :: b :: l) 1 x = some (a :: x :: l) := by
  unfold seti L2.ixN
  rw [if_pos (by decide), if_pos (by simp; omega)]
  rfl
theorem drawG_ok {A C M1 M2 DV : Int} (hA : 0 ≤ A ∧ A ≤ 2 ^ 32) (hM : 0 < M1 ∧ M1 ≤ 2 ^ 32) {p : List Int} {m : Int} (hp : PotOk p) (hm : 0 < m) (hm2 : m < 1073741824) :
    ∃ r p', drawG A C M1 M2 DV p m = some (r, p') ∧ 0 ≤ r ∧ r < m ∧ PotOk p' := by
  obtain ⟨a, b, rfl, hb, hb2⟩ := hp
  unfold drawG
  rw [geti0]
  dsimp only [Option.bind_some]
  by_cases ha : 0 < a
  · refine ⟨a % m, [a / m, b], ?_, Int.emod_nonneg _ (by omega), Int.emod_lt_of_pos _ hm, _, _, rfl, hb, hb2⟩
    rw [if_pos (by simpa using ha)]
    unfold dmI
    rw [if_pos ⟨hm, hm2⟩]
    dsimp only [Option.bind_some]
    rw [seti0]
    rfl
  · have h1 := fm_pos (b * A + C) (m := M1) hM.1
    generalize hq : (b * A + C).fmod M1 = b1 at h1
    have h3 := fm_pos (((b1 * b1).fmod M2).fdiv DV) hm
    refine ⟨_, [a, b1], ?_, h3.1, h3.2, _, _, rfl, h1.1, by omega⟩
    rw [if_neg (by simpa using ha), geti1]
    dsimp only [Option.bind_some]
    rw [mulI_s (by omega) (by omega)]
    dsimp only [Option.bind_some]
    rw [hq, seti1]
    dsimp only [Option.bind_some]
    rw [geti1]
    dsimp only [Option.bind_some]
    rw [mulI_s (by omega) (by omega)]
    dsimp only [Option.bind_some]
    rw [modI_s (by omega)]
    rfl
theorem geti_mem {α : Type} {l : List α} {i : Int} (h0 : 0 ≤ i) (h1 : i < l.length) : ∃ x, geti l i = some x ∧ x ∈ l ∧ l[i.toNat]? = some x := by
  have h2 : i.toNat < l.length := by omega
  refine ⟨l[i.toNat], ?_, List.getElem_mem _, List.getElem?_eq_getElem h2⟩
  unfold geti L2.atI L2.ixN
  rw [if_pos h0, if_pos h1]
  exact List.getElem?_eq_getElem h2
theorem pick_of {α : Type} {dr : List Int → Int → Option (Int × List Int)} (hd : ∀ {p m}, PotOk p → 0 < m → m < 1073741824 → ∃ r p', dr p m = some (r, p') ∧ 0 ≤ r ∧ r < m ∧ PotOk p') {p : List Int} {l : List α} (hp : PotOk p) (h0 : 0 < l.length) (h1 : l.length < 1073741824) :
    ∃ x p', ((dr p (l.length : Int)).bind fun (y1 : (Int × (List Int))) => (geti l y1.1).bind fun (y2 : α) => some (y2, y1.2)) = some (x, p') ∧ x ∈ l ∧ PotOk p' := by
  obtain ⟨r, p', h2, h3, h4, h5⟩ := hd (m := (l.length : Int)) hp (by omega) (by omega)
  obtain ⟨x, k1, k2, _⟩ := geti_mem h3 h4
  refine ⟨x, p', ?_, k2, h5⟩
  rw [h2]
  dsimp only [Option.bind_some]
  rw [k1]
  rfl
def potG (A B M F H G M3 : Int) (l : List Int) (k : Int) : Option (List Int) :=
  (mulI A k).bind fun (y1 : Int) => (if (decide (k < (l.length : Int))) = true then ((geti l k).bind fun (y4 : Int) => some (Int.natAbs y4 : Int)) else (some (y1 + B))).bind fun (s3 : Int) => (powI 10 18).bind fun (y5 : Int) => (mulI (Int.fmod s3 M) F).bind fun (y6 : Int) => (mulI G k).bind fun (y7 : Int) => some [(max 0 (s3 - y5)), ((Int.fmod ((y6 + y7) + H) M3) + 1)]
theorem potG_ok {A B M F H G M3 : Int} (hA : 0 ≤ A ∧ A ≤ 2 ^ 32) (hM : 0 < M ∧ M ≤ 2 ^ 32) (hF : 0 ≤ F ∧ F ≤ 2 ^ 32) (hG : 0 ≤ G ∧ G ≤ 2 ^ 32) (hM3 : 0 < M3 ∧ M3 ≤ 4294967295) {l : List Int} {k : Int} (h0 : 0 ≤ k) (h1 : k ≤ 1000) : ∃ p, potG A B M F H G M3 l k = some p ∧ PotOk p := by
  unfold potG
  rw [mulI_s (by omega) (by omega)]
  dsimp only [Option.bind_some]
  obtain ⟨c, hc⟩ : ∃ c, (if (decide (k < (l.length : Int))) = true then ((geti l k).bind fun (y4 : Int) => some (Int.natAbs y4 : Int)) else (some (A * k + B))) = some c := by
    by_cases h : k < l.length
    · obtain ⟨x, k1, _⟩ := geti_mem h0 h
      exact ⟨_, by rw [if_pos (by simpa using h), k1]; rfl⟩
    · exact ⟨_, by rw [if_neg (by simpa using h)]⟩
  rw [hc]
  dsimp only [Option.bind_some]
  have h2 := fm_pos c hM.1
  rw [powI_s (by decide) (by decide) (by decide), mulI_s (by omega) (by omega), mulI_s (by omega) (by omega)]
  dsimp only [Option.bind_some]
  have h3 := fm_pos (c.fmod M * F + G * k + H) hM3.1
  exact ⟨_, rfl, _, _, rfl, by omega, by omega⟩
mutual
def okD : D → Bool
  | .non => true
  | .bl _ => true
  | .int i => decide (i.natAbs < 10 ^ 60)
  | .str x => PySem.PyData.strOk x
  | .lst l => okDs l
  | .tup l => okDs l
  | .scr _ => false
  | .dct _ => false
  | .ty _ => false
  | .hid => false
def okDs : List D → Bool
  | [] => true
  | d :: ds => okD d && okDs ds
end
mutual
def szD : D → Nat
  | .int _ => 200
  | .str x => x.cps.size
  | .lst l => szDs l
  | .tup l => szDs l
  | _ => 0
def szDs : List D → Nat
  | [] => 0
  | d :: ds => szD d + 1 + szDs ds
end
mutual
def dpD : D → Nat
  | .lst l => dpDs l + 1
  | .tup l => dpDs l + 1
  | _ => 0
def dpDs : List D → Nat
  | [] => 0
  | d :: ds => max (dpD d) (dpDs ds)
end
open PySem in
mutual
theorem okD_p : ∀ d : D, okD d = true → isP d = true ∧ (toP d).showable = true ∧ (toP d).canLay0 = true ∧ (toP d).intsShort 61 = true ∧ (toP d).weight ≤ szD d ∧ (toP d).depth = dpD d ∧ PyData.eqv (toP d) (toP d) = true
  | .non, _ => ⟨rfl, rfl, rfl, rfl, Nat.le_refl _, rfl, rfl⟩
  | .bl b, _ => ⟨rfl, rfl, rfl, rfl, Nat.le_refl _, rfl, by simp [toP, PyData.eqv]⟩
  | .int i, h => by
    have h : i.natAbs < 10 ^ 60 := of_decide_eq_true h
    have hl : i.natAbs.log2 < 200 := by
      by_cases z : i.natAbs = 0
      · rw [z]; decide
      · exact (Nat.log2_lt z).mpr (Nat.lt_of_lt_of_le h (by decide))
    refine ⟨rfl, by simp only [toP, PyData.showable, decide_eq_true_eq]; omega, rfl, ?_, ?_, rfl, by simp [toP, PyData.eqv]⟩
    · simp only [toP, PyData.intsShort, decide_eq_true_eq]
      have := int_text_length_le10 (a := i) (k := 60) (by decide) h
      have e : (PyData.shown (.int i)).length = (toString i).length := by
        show (Str.ofString (toString i)).length = _
        exact ofString_length _
      rw [e]
      exact this
    · simp only [toP, PyData.weight, szD]
      split <;> omega
  | .str x, h => ⟨rfl, rfl, h, rfl, Nat.le_refl _, rfl, by simp [toP, PyData.eqv]⟩
  | .lst l, h => by
    obtain ⟨h1, h2, h3, h4, h5, h6, h7⟩ := okDs_p l (by simpa [okD] using h)
    exact ⟨h1, h2, h3, h4, h5, congrArg (· + 1) h6, by simpa [toP, PyData.eqv] using h7⟩
  | .tup l, h => by
    obtain ⟨h1, h2, h3, h4, h5, h6, h7⟩ := okDs_p l (by simpa [okD] using h)
    exact ⟨h1, h2, h3, h4, h5, congrArg (· + 1) h6, by simpa [toP, PyData.eqv] using h7⟩
theorem okDs_p : ∀ l : List D, okDs l = true → isPs l = true ∧ PyData.showableAll (toPs l) = true ∧ PyData.canLayAll0 (toPs l) = true ∧ PyData.intsShortAll 61 (toPs l) = true ∧ PyData.weightAll (toPs l) ≤ szDs l ∧ PyData.depthAll (toPs l) = dpDs l ∧ PyData.eqvAll (toPs l) (toPs l) = true
  | [], _ => ⟨rfl, rfl, rfl, rfl, Nat.le_refl _, rfl, rfl⟩
  | d :: l, h => by
    have h : okD d = true ∧ okDs l = true := by simpa [okDs] using h
    obtain ⟨a1, a2, a3, a4, a5, a6, a7⟩ := okD_p d h.1
    obtain ⟨h1, h2, h3, h4, h5, h6, h7⟩ := okDs_p l h.2
    refine ⟨by simp [isPs, a1, h1], by simp [toPs, PyData.showableAll, a2, h2], by simp [toPs, PyData.canLayAll0, a3, h3], by simp [toPs, PyData.intsShortAll, a4, h4], ?_, by simp [toPs, PyData.depthAll, dpDs, a6, h6], by simp [toPs, PyData.eqvAll, a7, h7]⟩
    simp only [toPs, PyData.weightAll, szDs]
    omega
end
theorem okR_of {d : D} (h : okD d = true) (hs : szD d ≤ 200000) (hd : dpD d ≤ 60) : okR d = true := by
  obtain ⟨a1, a2, a3, a4, a5, a6, _⟩ := okD_p d h
  have h2 := PySem.PyData.shown_le 61 (by decide) (toP d) (PySem.PyData.leavesShort_of_canLay0 61 (toP d) a3 a4)
  unfold okR
  rw [a1, a2]
  simp only [Bool.true_and, Bool.and_eq_true, decide_eq_true_eq]
  exact ⟨by omega, by show _ ≤ 16777216; omega⟩
theorem repr_lst {ds : List D} (h : okDs ds = true) (hs : szDs ds ≤ 200000) (hd : dpDs ds + 1 ≤ 60) : ∃ s, reprO (.lst ds) = some s := by
  refine ⟨(toP (.lst ds)).shown, ?_⟩
  unfold reprO gRepr
  dsimp only
  rw [if_pos (okR_of (d := .lst ds) h hs hd)]
theorem repr_tup {ds : List D} (h : okDs ds = true) (hs : szDs ds ≤ 200000) (hd : dpDs ds + 1 ≤ 60) : ∃ s, reprO (.tup ds) = some s := by
  refine ⟨(toP (.tup ds)).shown, ?_⟩
  unfold reprO gRepr
  dsimp only
  rw [if_pos (okR_of (d := .tup ds) h hs hd)]
theorem eqO_str {a b : PySem.Str} : eqO (.str a) (.str b) = some (decide (a = b)) := rfl
theorem eqO_int {a b : Int} : eqO (.int a) (.int b) = some (decide (a = b)) := rfl
theorem eqO_refl {d : D} (h : okD d = true) (hd : dpD d ≤ 60) : eqO d d = some true := by
  obtain ⟨a1, a2, a3, a4, a5, a6, a7⟩ := okD_p d h
  have hs : shp d = true := by
    unfold shp PySem.SeqAt.shaped
    rw [a1, a3, a6]
    simp
    omega
  unfold eqO gEq
  cases d <;> first | rfl | (dsimp only; simp only [decide_true]; done) | (dsimp only; rw [hs]; simp [eqD, a7])
theorem isi_int {a : Int} : isiO (.int a) "int" = some true := by
  show L2.kitB "int" "int" = _
  decide +kernel
theorem isi_int_b {a : Int} : isiO (.int a) "bool" = some false := by
  show L2.kitB "int" "bool" = _
  decide +kernel
theorem isi_tup {l : List D} : isiO (.tup l) "tuple" = some true := by
  show L2.kitB "tuple" "tuple" = _
  decide +kernel
theorem isi_str {x : PySem.Str} : isiO (.str x) "str" = some true := by
  show L2.kitB "str" "str" = _
  decide +kernel
theorem isi_lst {l : List D} : isiO (.lst l) "list" = some true := by
  show L2.kitB "list" "list" = _
  decide +kernel
end L2.Py
namespace L2.Py
theorem cutL_from {α : Type} (l : List α) (k : Nat) : cutL l (some (k : Int)) none = l.drop k := by
  unfold cutL
  rw [HT.sIx_nat, HT.sIx_none]
  by_cases h : k ≤ l.length
  · rw [Nat.min_eq_left h]
    exact List.take_of_length_le (by rw [List.length_drop]; exact Nat.le_refl _)
  · rw [Nat.min_eq_right (by omega), List.drop_of_length_le (Nat.le_refl _), List.drop_of_length_le (by omega)]
    simp
theorem cutL_to {α : Type} (l : List α) (k : Nat) : cutL l none (some (k : Int)) = l.take k := by
  unfold cutL
  rw [HT.sIx_nat, HT.sIx_none]
  rw [List.drop_zero, Nat.sub_zero]
  exact List.take_eq_take_min.symm
theorem cutL_tail {α : Type} (l : List α) : cutL l (some 1) none = l.drop 1 := cutL_from l 1
theorem b62_small {i : Int} (h : -4611686018427387904 ≤ i) (h2 : i < 4611686018427387904) : b62 i = true := by
  unfold b62
  rw [decide_eq_true_eq]
  constructor <;> omega
theorem mem_rngL {a b x : Int} (h : x ∈ rngL a b) : a ≤ x ∧ x < b := by
  unfold rngL at h
  obtain ⟨i, h1, rfl⟩ := List.mem_map.mp h
  have := List.mem_range.mp h1
  omega
theorem perm_isort (l : List Int) : (isort l).Perm l := List.mergeSort_perm l _
theorem sorted_isort (l : List Int) : (isort l).Pairwise (· ≤ ·) := by
  have := List.pairwise_mergeSort (le := fun a b : Int => decide (a ≤ b)) (fun a b c h1 h2 => by simp at *; omega) (fun a b => by simp; omega) l
  exact this.imp fun h => by simpa using h
theorem rising_isort {l : List Int} (h : l.Nodup) : (isort l).Pairwise (· < ·) := by
  have h1 := sorted_isort l
  have h2 : (isort l).Nodup := (perm_isort l).nodup_iff.mpr h
  exact (List.pairwise_and_iff.mpr ⟨h1, h2⟩).imp fun ⟨a, b⟩ => by omega
theorem zip_rising {α : Type} {r : α → α → Prop} : ∀ {l : List α}, l.Pairwise r → ∀ q ∈ l.zip (l.drop 1), r q.1 q.2
  | [], _, q, h => by simp at h
  | [x], _, q, h => by simp at h
  | x :: y :: l, hp, q, h => by
    rw [List.drop_succ_cons, List.drop_zero, List.zip_cons_cons] at h
    rcases List.mem_cons.mp h with rfl | h
    · exact (List.pairwise_cons.mp hp).1 y List.mem_cons_self
    · exact zip_rising (List.pairwise_cons.mp hp).2 q (by rw [List.drop_succ_cons, List.drop_zero]; exact h)
theorem mulI_w {i j : Int} (hi : i.natAbs ≤ 2 ^ 250) (hj : j.natAbs ≤ 2 ^ 250) : mulI i j = some (i * j) := if_pos ⟨Nat.le_trans hi (Nat.pow_le_pow_right (by decide) (by decide)), Nat.le_trans hj (Nat.pow_le_pow_right (by decide) (by decide))⟩
theorem divI_w {i j : Int} (h0 : j ≠ 0) (hj : j.natAbs ≤ 2 ^ 250) : divI i j = some (i.fdiv j) := if_pos ⟨h0, Nat.le_trans hj (Nat.pow_le_pow_right (by decide) (by decide))⟩
theorem fdiv_pos (a : Int) {b : Int} (h : 0 < b) : a.fdiv b = a / b := Int.fdiv_eq_ediv_of_nonneg _ (by omega)
theorem fmod_pos' (a : Int) {b : Int} (h : 0 < b) : a.fmod b = a % b := Int.fmod_eq_emod_of_nonneg _ (by omega)
end L2.Py
namespace L2.Py
theorem gfor_cnt {α σ : Type} {b : σ → α → Option σ} {I : Nat → σ → Prop} : ∀ {l : List α} {s : σ} {n : Nat}, I n s → (∀ k s x, k < n + l.length → I k s → x ∈ l → ∃ s', b s x = some s' ∧ I (k + 1) s') → ∃ s', gfor b l s = some s' ∧ I (n + l.length) s'
  | [], s, n, h, _ => ⟨s, rfl, h⟩
  | x :: l, s, n, h, hx => by
    rw [List.length_cons] at hx ⊢
    obtain ⟨s1, h1, h2⟩ := hx n s x (by omega) h List.mem_cons_self
    obtain ⟨s', k1, k2⟩ := gfor_cnt (l := l) (n := n + 1) h2 fun k s y hk hs hy => hx k s y (by omega) hs (List.mem_cons_of_mem _ hy)
    refine ⟨s', ?_, by rw [show n + (l.length + 1) = n + 1 + l.length by omega]; exact k2⟩
    unfold gfor
    rw [h1]
    exact k1
end L2.Py
namespace L2.Py
theorem gfor_all' {α σ : Type} {b : σ → α → Option σ} {I : List α → σ → Prop} {l : List α} : ∀ {r pre : List α} {s : σ}, l = pre ++ r → I pre s → (∀ pre x suf s, l = pre ++ x :: suf → I pre s → ∃ s', b s x = some s' ∧ I (pre ++ [x]) s') → ∃ s', gfor b r s = some s' ∧ I l s'
  | [], pre, s, hl, h, _ => ⟨s, rfl, by rw [hl, List.append_nil]; exact h⟩
  | x :: r, pre, s, hl, h, hx => by
    obtain ⟨s1, h1, h2⟩ := hx pre x r s hl h
    obtain ⟨s', k1, k2⟩ := gfor_all' (r := r) (pre := pre ++ [x]) (by rw [hl]; simp) h2 hx
    refine ⟨s', ?_, k2⟩
    unfold gfor
    rw [h1]
    exact k1
theorem gfor_all {α σ : Type} {b : σ → α → Option σ} (I : List α → σ → Prop) {l : List α} {s : σ} (h : I [] s) (hx : ∀ pre x suf s, l = pre ++ x :: suf → I pre s → ∃ s', b s x = some s' ∧ I (pre ++ [x]) s') : ∃ s', gfor b l s = some s' ∧ I l s' := gfor_all' rfl h hx
end L2.Py
set_option maxRecDepth 10000
namespace L2.Py
def GS (n d : Int) : Int := if d > 0 then ((Nat.gcd n.natAbs d.natAbs : Nat) : Int) else -((Nat.gcd n.natAbs d.natAbs : Nat) : Int)
def LOW (n d : Int) : Int × Int := (n.fdiv (GS n d), d.fdiv (GS n d))
def Red (r : Int × Int) : Prop := 0 < r.2 ∧ Nat.gcd r.1.natAbs r.2.natAbs = 1
theorem gs_ne {n d : Int} (h : d ≠ 0) : GS n d ≠ 0 ∧ (GS n d).natAbs ≤ d.natAbs := by
  have h1 : 0 < Nat.gcd n.natAbs d.natAbs := Nat.gcd_pos_of_pos_right _ (by omega)
  have h2 : Nat.gcd n.natAbs d.natAbs ≤ d.natAbs := Nat.gcd_le_right _ (by omega)
  unfold GS
  split <;> omega
theorem gs_dvd {n d : Int} : GS n d ∣ n ∧ GS n d ∣ d := by
  have h1 : ((Nat.gcd n.natAbs d.natAbs : Nat) : Int) ∣ n := Int.ofNat_dvd_left.mpr (Nat.gcd_dvd_left _ _)
  have h2 : ((Nat.gcd n.natAbs d.natAbs : Nat) : Int) ∣ d := Int.ofNat_dvd_left.mpr (Nat.gcd_dvd_right _ _)
  unfold GS
  split
  · exact ⟨h1, h2⟩
  · exact ⟨Int.neg_dvd.mpr h1, Int.neg_dvd.mpr h2⟩
theorem low_mul {n d : Int} (h : d ≠ 0) : (LOW n d).1 * GS n d = n ∧ (LOW n d).2 * GS n d = d := by
  obtain ⟨h1, h2⟩ := gs_dvd (n := n) (d := d)
  exact ⟨Int.fdiv_mul_cancel h1, Int.fdiv_mul_cancel h2⟩
theorem low_red {n d : Int} (h : d ≠ 0) : Red (LOW n d) := by
  obtain ⟨h1, h2⟩ := low_mul (n := n) h
  have h3 := gs_ne (n := n) h
  constructor
  · by_cases z : d > 0
    · have h4 : 0 < GS n d := by unfold GS at *; rw [if_pos z] at *; omega
      by_cases q : 0 < (LOW n d).2
      · exact q
      · have := Int.mul_le_mul_of_nonneg_right (show (LOW n d).2 ≤ 0 by omega) (show 0 ≤ GS n d by omega)
        omega
    · have h4 : GS n d < 0 := by unfold GS at *; rw [if_neg z] at *; omega
      by_cases q : 0 < (LOW n d).2
      · exact q
      · have := Int.mul_nonneg_of_nonpos_of_nonpos (show (LOW n d).2 ≤ 0 by omega) (show GS n d ≤ 0 by omega)
        omega
  · have e1 : n.natAbs = (LOW n d).1.natAbs * (GS n d).natAbs := by rw [← Int.natAbs_mul, h1]
    have e2 : d.natAbs = (LOW n d).2.natAbs * (GS n d).natAbs := by rw [← Int.natAbs_mul, h2]
    have e3 : (GS n d).natAbs = Nat.gcd n.natAbs d.natAbs := by unfold GS; split <;> simp
    have e4 : Nat.gcd n.natAbs d.natAbs = Nat.gcd (LOW n d).1.natAbs (LOW n d).2.natAbs * (GS n d).natAbs := by
      rw [e1, e2, Nat.gcd_mul_right]
    rw [e3] at e4
    have h5 : 0 < Nat.gcd n.natAbs d.natAbs := Nat.gcd_pos_of_pos_right _ (by omega)
    exact (Nat.eq_of_mul_eq_mul_right h5 (by rw [Nat.one_mul]; exact e4)).symm
theorem low_cross {n d : Int} (h : d ≠ 0) : (LOW n d).1 * d = n * (LOW n d).2 := by
  obtain ⟨h1, h2⟩ := low_mul (n := n) h
  have e : (LOW n d).1 * ((LOW n d).2 * GS n d) = (LOW n d).1 * GS n d * (LOW n d).2 := by
    rw [Int.mul_assoc, Int.mul_comm (GS n d)]
  rw [h2, h1] at e
  exact e
theorem red_uniq {r s : Int × Int} (hr : Red r) (hs : Red s) (h : r.1 * s.2 = s.1 * r.2) : r = s := by
  obtain ⟨a, b⟩ := r
  obtain ⟨c, d⟩ := s
  obtain ⟨h1, h2⟩ := hr
  obtain ⟨h3, h4⟩ := hs
  dsimp only at *
  have e : a.natAbs * d.natAbs = c.natAbs * b.natAbs := by rw [← Int.natAbs_mul, ← Int.natAbs_mul, h]
  have d1 : b.natAbs ∣ d.natAbs := (Nat.Coprime.dvd_of_dvd_mul_left (show Nat.Coprime b.natAbs a.natAbs from (Nat.gcd_comm _ _).trans h2) (by rw [e]; exact Nat.dvd_mul_left _ _))
  have d2 : d.natAbs ∣ b.natAbs := (Nat.Coprime.dvd_of_dvd_mul_left (show Nat.Coprime d.natAbs c.natAbs from (Nat.gcd_comm _ _).trans h4) (by rw [← e]; exact Nat.dvd_mul_left _ _))
  have e2 : b.natAbs = d.natAbs := Nat.dvd_antisymm d1 d2
  have e3 : b = d := by omega
  subst e3
  rw [Int.eq_of_mul_eq_mul_right (show b ≠ 0 by omega) h]
theorem low_abs {n d : Int} (h : d ≠ 0) : (LOW n d).1.natAbs ≤ n.natAbs ∧ (LOW n d).2.natAbs ≤ d.natAbs := by
  obtain ⟨h1, h2⟩ := low_mul (n := n) h
  have h3 := (gs_ne (n := n) h).1
  have e1 : n.natAbs = (LOW n d).1.natAbs * (GS n d).natAbs := by rw [← Int.natAbs_mul, h1]
  have e2 : d.natAbs = (LOW n d).2.natAbs * (GS n d).natAbs := by rw [← Int.natAbs_mul, h2]
  rw [e1, e2]
  exact ⟨Nat.le_mul_of_pos_right _ (by omega), Nat.le_mul_of_pos_right _ (by omega)⟩
theorem low_same {n d n' d' : Int} (h : d ≠ 0) (h' : d' ≠ 0) (e : n * d' = n' * d) : LOW n d = LOW n' d' := by
  refine red_uniq (low_red h) (low_red h') ?_
  have h1 := low_cross (n := n) h
  have h2 := low_cross (n := n') h'
  have : ((LOW n d).1 * (LOW n' d').2) * (d * d') = ((LOW n' d').1 * (LOW n d).2) * (d * d') := by
    have a1 : ((LOW n d).1 * (LOW n' d').2) * (d * d') = ((LOW n d).1 * d) * ((LOW n' d').2 * d') := by simp only [Int.mul_assoc, Int.mul_left_comm]
    have a2 : ((LOW n' d').1 * (LOW n d).2) * (d * d') = ((LOW n' d').1 * d') * ((LOW n d).2 * d) := by simp only [Int.mul_assoc, Int.mul_left_comm, Int.mul_comm d]
    rw [a1, a2, h1, h2]
    have a3 : n * (LOW n d).2 * ((LOW n' d').2 * d') = (n * d') * ((LOW n d).2 * (LOW n' d').2) := by simp only [Int.mul_assoc, Int.mul_left_comm, Int.mul_comm d']
    have a4 : n' * (LOW n' d').2 * ((LOW n d).2 * d) = (n' * d) * ((LOW n d).2 * (LOW n' d').2) := by simp only [Int.mul_assoc, Int.mul_left_comm, Int.mul_comm d]
    rw [a3, a4, e]
  exact Int.eq_of_mul_eq_mul_right (Int.mul_ne_zero h h') this
theorem low_self {r : Int × Int} (h : Red r) {n d : Int} (hd : d ≠ 0) (e : n * r.2 = r.1 * d) : LOW n d = r := by
  refine red_uniq (low_red hd) h ?_
  have h1 := low_cross (n := n) hd
  have : ((LOW n d).1 * r.2) * d = (r.1 * (LOW n d).2) * d := by
    rw [Int.mul_right_comm, h1, Int.mul_right_comm n, e, Int.mul_right_comm]
  exact Int.eq_of_mul_eq_mul_right hd this
abbrev PL := List (Int × Int)
structure okL (l : PL) : Prop where
  len : l.length ≤ 3
  st : ∀ x ∈ l, 1 ≤ x.1 ∧ x.1 ≤ 10
  pw : ∀ x ∈ l, x.2 ≠ 0 ∧ -6 ≤ x.2 ∧ x.2 ≤ 6
  up : ∀ q ∈ l.zip (l.drop 1), q.1.1 < q.2.1
theorem sum_le {l : List Int} {B : Nat} (h : ∀ x ∈ l, x.natAbs ≤ B) : l.sum.natAbs ≤ l.length * B := by
  induction l with
  | nil => simp
  | cons x l ih =>
    have h1 := h x List.mem_cons_self
    have h2 := ih fun y hy => h y (List.mem_cons_of_mem _ hy)
    rw [List.sum_cons, List.length_cons, Nat.add_mul, Nat.one_mul]
    omega
theorem mul_abs {a b : Int} {A B : Nat} (h : a.natAbs ≤ A) (h2 : b.natAbs ≤ B) : (a * b).natAbs ≤ A * B := by
  rw [Int.natAbs_mul]
  exact Nat.mul_le_mul h h2
theorem mulS {a b : Int} {A B : Nat} (h : a.natAbs ≤ A) (h2 : b.natAbs ≤ B) (hA : A ≤ 2 ^ 64) (hB : B ≤ 2 ^ 64) : mulI a b = some (a * b) := mulI_s (Nat.le_trans h hA) (Nat.le_trans h2 hB)
theorem small_pair {l : PL} (h : okL l) {x : Int × Int} (hx : x ∈ l) : x.1.natAbs ≤ 10 ∧ x.2.natAbs ≤ 6 ∧ 1 ≤ x.1 := by
  have := h.st x hx
  have := h.pw x hx
  omega
theorem okL_tail {x : Int × Int} {l : PL} (h : okL (x :: l)) : okL l := ⟨by have := h.len; rw [List.length_cons] at this; omega, fun y hy => h.st y (List.mem_cons_of_mem _ hy), fun y hy => h.pw y (List.mem_cons_of_mem _ hy), by
  have h1 := h.up
  cases l with
  | nil => simp
  | cons y l => exact fun q hq => h1 q (by
      rw [List.drop_succ_cons, List.drop_zero] at hq
      rw [List.drop_succ_cons, List.drop_zero]
      rw [List.zip_cons_cons]
      exact List.mem_cons_of_mem _ hq)⟩
theorem all_map {α : Type} {l : List α} {q : α → Bool} : (l.map q).all id = l.all q := by rw [List.all_map]; rfl
theorem fdiv_abs {a b : Int} (h : 0 < b) : (a.fdiv b).natAbs ≤ a.natAbs := by
  rw [fdiv_pos _ h]
  exact Int.natAbs_ediv_le_natAbs a b
theorem minL_spec : ∀ {l : List Int}, l ≠ [] → minL l ∈ l ∧ ∀ y ∈ l, minL l ≤ y
  | [], h => absurd rfl h
  | [x], _ => by simp [minL]
  | x :: y :: r, _ => by
    obtain ⟨h1, h2⟩ := minL_spec (l := y :: r) (by simp)
    have e : minL (x :: y :: r) = min x (minL (y :: r)) := rfl
    constructor
    · rw [e]
      by_cases q : x ≤ minL (y :: r)
      · rw [Int.min_eq_left q]
        exact List.mem_cons_self
      · rw [Int.min_eq_right (by omega)]
        exact List.mem_cons_of_mem _ h1
    · intro z hz
      rw [e]
      rcases List.mem_cons.mp hz with rfl | hz
      · exact Int.min_le_left _ _
      · have := h2 z hz
        omega
theorem minO_some {l : List Int} (h : l ≠ []) : minO l = some (minL l) := if_neg h
theorem minL_scale {α β : Type} {A : List α} {B : List β} {f : α → Int} {g : β → Int} {q : Int} (hq : 0 < q) (hA : A ≠ []) (hB : B ≠ []) (h1 : ∀ a ∈ A, ∃ b ∈ B, f a = q * g b) (h2 : ∀ b ∈ B, ∃ a ∈ A, f a = q * g b) : minL (A.map f) = q * minL (B.map g) := by
  obtain ⟨a1, a2⟩ := minL_spec (l := A.map f) (by simpa using hA)
  obtain ⟨b1, b2⟩ := minL_spec (l := B.map g) (by simpa using hB)
  obtain ⟨a, ha, ea⟩ := List.mem_map.mp a1
  obtain ⟨b, hb, eb⟩ := List.mem_map.mp b1
  obtain ⟨b', hb', e1⟩ := h1 a ha
  obtain ⟨a', ha', e2⟩ := h2 b hb
  have k1 := b2 _ (List.mem_map.mpr ⟨b', hb', rfl⟩)
  have k2 := a2 _ (List.mem_map.mpr ⟨a', ha', rfl⟩)
  have k3 := Int.mul_le_mul_of_nonneg_left k1 (show 0 ≤ q by omega)
  rw [← ea, e1] at *
  rw [← eb] at *
  omega
end L2.Py
set_option maxRecDepth 10000
namespace L2.Py
theorem gfor_bind {α σ β : Type} {b : σ → α → Option σ} {l : List α} {s : σ} {k : σ → Option β} {v : β} (I : List α → σ → Prop) (h : I [] s) (hx : ∀ pre x suf s, l = pre ++ x :: suf → I pre s → ∃ s', b s x = some s' ∧ I (pre ++ [x]) s') (hk : ∀ s', I l s' → k s' = some v) : (gfor b l s).bind k = some v := by
  obtain ⟨s', h1, h2⟩ := gfor_all I h hx
  rw [h1]
  exact hk s' h2
theorem gfor_bindE {α σ β : Type} {b : σ → α → Option σ} {l : List α} {s : σ} {k : σ → Option β} {P : β → Prop} (I : List α → σ → Prop) (h : I [] s) (hx : ∀ pre x suf s, l = pre ++ x :: suf → I pre s → ∃ s', b s x = some s' ∧ I (pre ++ [x]) s') (hk : ∀ s', I l s' → ∃ v, k s' = some v ∧ P v) : ∃ v, (gfor b l s).bind k = some v ∧ P v := by
  obtain ⟨s', h1, h2⟩ := gfor_all I h hx
  rw [h1]
  exact hk s' h2
theorem mem_rng {a b x : Int} : x ∈ rngL a b ↔ a ≤ x ∧ x < b := by
  refine ⟨mem_rngL, fun h => ?_⟩
  unfold rngL
  exact List.mem_map.mpr ⟨(x - a).toNat, List.mem_range.mpr (by omega), by omega⟩
theorem putM_len {α : Type} (l : List (Int × α)) (k : Int) (x : α) : (putM l k x).length ≤ l.length + 1 := by
  unfold putM
  split
  · rw [List.length_map]
    omega
  · rw [List.length_append, List.length_singleton]
    omega
theorem putM_mem {α : Type} (l : List (Int × α)) (k : Int) (x : α) (j : Int) : j ∈ (putM l k x).map (·.1) ↔ j ∈ l.map (·.1) ∨ j = k := by
  unfold putM
  split
  next h =>
    have e : (l.map fun p => if p.1 = k then (p.1, x) else p).map (·.1) = l.map (·.1) := by
      rw [List.map_map]
      apply List.map_congr_left
      intro p _
      show (if p.1 = k then (p.1, x) else p).1 = p.1
      split <;> rfl
    rw [e]
    constructor
    · exact .inl
    · rintro (h1 | rfl)
      · exact h1
      · obtain ⟨p, h2, h3⟩ := List.any_eq_true.mp h
        exact List.mem_map.mpr ⟨p, h2, of_decide_eq_true h3⟩
  next h =>
    rw [List.map_append, List.mem_append]
    simp
theorem okDs_map {α : Type} {m : α → D} : ∀ {l : List α}, (∀ x ∈ l, okD (m x) = true) → okDs (l.map m) = true
  | [], _ => rfl
  | x :: l, h => by
    rw [List.map_cons]
    unfold okDs
    rw [h x List.mem_cons_self, okDs_map fun y hy => h y (List.mem_cons_of_mem _ hy)]
    rfl
theorem dpDs_map {α : Type} {m : α → D} {n : Nat} : ∀ {l : List α}, (∀ x ∈ l, dpD (m x) ≤ n) → dpDs (l.map m) ≤ n
  | [], _ => Nat.zero_le _
  | x :: l, h => by
    rw [List.map_cons]
    unfold dpDs
    exact Nat.max_le.mpr ⟨h x List.mem_cons_self, dpDs_map fun y hy => h y (List.mem_cons_of_mem _ hy)⟩
theorem putM_nodup {α : Type} {l : List (Int × α)} (h : (l.map (·.1)).Nodup) (k : Int) (x : α) : ((putM l k x).map (·.1)).Nodup := by
  unfold putM
  split
  next q =>
    have e : (l.map fun p => if p.1 = k then (p.1, x) else p).map (·.1) = l.map (·.1) := by
      rw [List.map_map]
      apply List.map_congr_left
      intro p _
      show (if p.1 = k then (p.1, x) else p).1 = p.1
      split <;> rfl
    rw [e]
    exact h
  next q =>
    rw [List.map_append, List.nodup_append]
    refine ⟨h, by simp, fun a ha b hb => ?_⟩
    simp at hb
    subst hb
    rintro rfl
    obtain ⟨p, hp, e⟩ := List.mem_map.mp ha
    exact q (List.any_eq_true.mpr ⟨p, hp, decide_eq_true e⟩)
theorem isort_sset {k l : List Int} (h : k.Nodup) (hm : ∀ x, x ∈ k ↔ x ∈ l) : isort k = sset l := rising_one (rising_isort h) (sset_up l) fun x => by
  rw [(perm_isort k).mem_iff, sset_mem]
  exact hm x
theorem sset_congr {k l : List Int} (hm : ∀ x, x ∈ k ↔ x ∈ l) : sset k = sset l := rising_one (sset_up k) (sset_up l) fun x => by
  rw [sset_mem, sset_mem]
  exact hm x
theorem dd_len : ∀ l : List Int, (dd l).length ≤ l.length
  | [] => Nat.le_refl _
  | x :: l => by
    unfold dd
    have := dd_len l
    split
    · rw [List.length_cons]
      omega
    · rw [List.length_cons, List.length_cons]
      omega
theorem sset_len (l : List Int) : (sset l).length = (dd l).length := (perm_isort (dd l)).length_eq
end L2.Py
set_option maxRecDepth 10000
namespace L2.Py
def Sm (n : Nat) (f : Nat → Int) : Int := ((List.range n).map f).sum
theorem sm_zero (f : Nat → Int) : Sm 0 f = 0 := rfl
theorem sm_succ (n : Nat) (f : Nat → Int) : Sm (n + 1) f = Sm n f + f n := by
  unfold Sm
  rw [List.range_succ, List.map_append, List.sum_append]
  simp
theorem sm_congr {n : Nat} {f g : Nat → Int} (h : ∀ i, i < n → f i = g i) : Sm n f = Sm n g := by
  unfold Sm
  congr 1
  exact List.map_congr_left fun i hi => h i (List.mem_range.mp hi)
theorem sm_front (n : Nat) (f : Nat → Int) : Sm (n + 1) f = f 0 + Sm n fun i => f (i + 1) := by
  induction n with
  | zero => rw [sm_succ, sm_zero, sm_zero]; omega
  | succ n ih => rw [sm_succ, ih, sm_succ]; omega
theorem sm_add (n : Nat) (f g : Nat → Int) : Sm n (fun i => f i + g i) = Sm n f + Sm n g := by
  induction n with
  | zero => rfl
  | succ n ih => rw [sm_succ, sm_succ, sm_succ, ih]; omega
theorem sm_mul (n : Nat) (a : Int) (f : Nat → Int) : Sm n (fun i => a * f i) = a * Sm n f := by
  induction n with
  | zero => simp [sm_zero]
  | succ n ih => rw [sm_succ, sm_succ, ih, Int.mul_add]
theorem sm_rev (n : Nat) (f : Nat → Int) : Sm n (fun i => f (n - 1 - i)) = Sm n f := by
  induction n generalizing f with
  | zero => rfl
  | succ n ih =>
    rw [sm_succ, sm_front n f, show n + 1 - 1 - n = 0 by omega]
    have := ih fun i => f (i + 1)
    rw [← this]
    have e : Sm n (fun i => f (n + 1 - 1 - i)) = Sm n (fun i => f (n - 1 - i + 1)) := sm_congr fun i hi => by
      rw [show n + 1 - 1 - i = n - 1 - i + 1 by omega]
    rw [e]
    omega
def conv (f g : Nat → Int) (n : Nat) : Int := Sm (n + 1) fun i => f i * g (n - i)
theorem conv_comm (f g : Nat → Int) (n : Nat) : conv f g n = conv g f n := by
  unfold conv
  rw [← sm_rev (n + 1) fun i => f i * g (n - i)]
  refine sm_congr fun i hi => ?_
  rw [show n + 1 - 1 - i = n - i by omega, show n - (n - i) = i by omega, Int.mul_comm]
theorem sm_tri (n : Nat) (F : Nat → Nat → Int) : Sm (n + 1) (fun i => Sm (i + 1) fun j => F j (i - j)) = Sm (n + 1) fun j => Sm (n - j + 1) fun k => F j k := by
  induction n with
  | zero => simp [Sm]
  | succ n ih =>
    rw [sm_succ, ih, sm_succ (n + 1) fun j => Sm (n + 1 - j + 1) fun k => F j k, show n + 1 - (n + 1) + 1 = 1 by omega]
    have e : Sm (n + 1) (fun j => Sm (n + 1 - j + 1) fun k => F j k) = Sm (n + 1) (fun j => Sm (n - j + 1) fun k => F j k) + Sm (n + 1) fun j => F j (n + 1 - j) := by
      rw [← sm_add]
      refine sm_congr fun j hj => ?_
      rw [sm_succ (n + 1 - j), show n + 1 - j = n - j + 1 by omega]
    rw [e, sm_succ (n + 1) fun j => F j (n + 1 - j)]
    have e1 : Sm 1 (fun k => F (n + 1) k) = F (n + 1) (n + 1 - (n + 1)) := by simp [Sm]
    rw [e1]
    omega
theorem conv_assoc (f g h : Nat → Int) (n : Nat) : conv (conv f g) h n = conv f (conv g h) n := by
  unfold conv
  have e1 : Sm (n + 1) (fun i => (Sm (i + 1) fun j => f j * g (i - j)) * h (n - i)) = Sm (n + 1) fun i => Sm (i + 1) fun j => (fun j k => f j * g k * h (n - j - k)) j (i - j) := sm_congr fun i hi => by
    rw [Int.mul_comm, ← sm_mul]
    refine sm_congr fun j hj => ?_
    dsimp only
    rw [show n - j - (i - j) = n - i by omega, Int.mul_comm]
  rw [e1, sm_tri n fun j k => f j * g k * h (n - j - k)]
  refine sm_congr fun j hj => ?_
  rw [← sm_mul]
  refine sm_congr fun k hk => ?_
  rw [Int.mul_assoc]
theorem conv_congr {f f' g g' : Nat → Int} {n : Nat} (h : ∀ i, i ≤ n → f i = f' i) (h' : ∀ i, i ≤ n → g i = g' i) : conv f g n = conv f' g' n := sm_congr fun i hi => by
  rw [h i (by omega), h' (n - i) (by omega)]
theorem conv_add (f g h : Nat → Int) (n : Nat) : conv (fun i => f i + g i) h n = conv f h n + conv g h n := by
  unfold conv
  rw [← sm_add]
  exact sm_congr fun i _ => Int.add_mul _ _ _
def Log (c f : Nat → Int) : Prop := ∀ n : Nat, (n : Int) * f n = conv c f n
theorem conv_head {c f : Nat → Int} (h : c 0 = 0) (n : Nat) : conv c f n = Sm n fun i => c (i + 1) * f (n - (i + 1)) := by
  unfold conv
  rw [sm_front, h, Int.zero_mul, Int.zero_add]
theorem log_one {c f g : Nat → Int} (hc : c 0 = 0) (h0 : f 0 = g 0) (hf : Log c f) (hg : Log c g) (n : Nat) : f n = g n := by
  induction n using Nat.strongRecOn with
  | ind n ih =>
    by_cases z : n = 0
    · rw [z, h0]
    · have h1 := hf n
      have h2 := hg n
      rw [conv_head hc] at h1 h2
      have e : Sm n (fun i => c (i + 1) * f (n - (i + 1))) = Sm n fun i => c (i + 1) * g (n - (i + 1)) := sm_congr fun i hi => by
        rw [ih (n - (i + 1)) (by omega)]
      rw [e, ← h2] at h1
      exact Int.eq_of_mul_eq_mul_left (by omega) h1
theorem conv_rule (f g : Nat → Int) (n : Nat) : (n : Int) * conv f g n = conv (fun i => (i : Int) * f i) g n + conv f (fun i => (i : Int) * g i) n := by
  unfold conv
  rw [← sm_add, ← sm_mul]
  refine sm_congr fun i hi => ?_
  have : (n : Int) = (i : Int) + ((n - i : Nat) : Int) := by omega
  rw [this, Int.add_mul, Int.mul_assoc, Int.mul_left_comm (f i)]
theorem log_mul {c d f g : Nat → Int} (hf : Log c f) (hg : Log d g) : Log (fun i => c i + d i) (conv f g) := by
  intro n
  rw [conv_rule, conv_add]
  have e1 : conv (fun i => (i : Int) * f i) g n = conv (conv c f) g n := conv_congr (fun i _ => hf i) fun _ _ => rfl
  have e2 : conv f (fun i => (i : Int) * g i) n = conv f (conv d g) n := conv_congr (fun _ _ => rfl) fun i _ => hg i
  rw [e1, e2, conv_assoc, ← conv_assoc f d g, conv_congr (g' := g) (f' := conv d f) (fun i _ => conv_comm f d i) fun _ _ => rfl, conv_assoc]
def bP : Nat → Nat → Int
  | 0, 0 => 1
  | 0, _ + 1 => 0
  | _ + 1, 0 => 1
  | e + 1, k + 1 => bP e (k + 1) - bP e k
def bN : Nat → Nat → Int
  | 0, 0 => 1
  | 0, _ + 1 => 0
  | _ + 1, 0 => 1
  | e + 1, k + 1 => bN (e + 1) k + bN e (k + 1)
theorem bP_zero (e : Nat) : bP e 0 = 1 := by cases e <;> simp [bP]
theorem bN_zero (e : Nat) : bN e 0 = 1 := by cases e <;> simp [bN]
theorem bP_step : ∀ (e k : Nat), ((k : Int) + 1) * bP e (k + 1) = ((k : Int) - e) * bP e k
  | 0, 0 => by simp [bP]
  | 0, k + 1 => by simp [bP]
  | e + 1, 0 => by
    have := bP_step e 0
    simp only [bP, bP_zero] at this ⊢
    push_cast at *
    grind
  | e + 1, k + 1 => by
    have h1 := bP_step e (k + 1)
    have h2 := bP_step e k
    simp only [bP] at *
    push_cast at *
    grind
theorem bN_step : ∀ (e k : Nat), ((k : Int) + 1) * bN e (k + 1) = ((k : Int) + e) * bN e k ∧ ((k : Int) + e) * bN e k = (e : Int) * bN (e + 1) k
  | 0, 0 => by simp [bN]
  | 0, k + 1 => by simp [bN]
  | e + 1, 0 => by
    have h1 := bN_step e 0
    simp only [bN, bN_zero] at *
    push_cast at *
    grind
  | e + 1, k + 1 => by
    have h1 := bN_step (e + 1) k
    have h2 := bN_step e (k + 1)
    have h3 := bN_step e k
    simp only [bN] at *
    push_cast at *
    grind
def bZ (e : Int) (k : Nat) : Int := if 0 ≤ e then bP e.toNat k else bN (-e).toNat k
theorem bZ_zero (e : Int) : bZ e 0 = 1 := by
  unfold bZ
  split
  · exact bP_zero _
  · exact bN_zero _
theorem bZ_step (e : Int) (k : Nat) : ((k : Int) + 1) * bZ e (k + 1) = ((k : Int) - e) * bZ e k := by
  unfold bZ
  split
  next h =>
    have := bP_step e.toNat k
    rwa [show ((e.toNat : Nat) : Int) = e by omega] at this
  next h =>
    have := (bN_step (-e).toNat k).1
    rwa [show (((-e).toNat : Nat) : Int) = -e by omega, ← Int.sub_eq_add_neg] at this
theorem bZ_next (e : Int) (k : Nat) : (bZ e k * ((k : Int) - e)).fdiv ((k : Int) + 1) = bZ e (k + 1) := by
  rw [Int.mul_comm, ← bZ_step, fdiv_pos _ (by omega), Int.mul_ediv_cancel_left _ (by omega)]
theorem bZ_sum (e : Int) (m : Nat) : (m : Int) * bZ e m = -e * Sm m (bZ e) := by
  induction m with
  | zero => simp [sm_zero]
  | succ m ih =>
    rw [sm_succ, Int.mul_add, ← ih]
    have := bZ_step e m
    push_cast
    rw [this, Int.sub_mul, Int.neg_mul]
    omega
def Fac (p : Nat) (e : Int) (n : Nat) : Int := if n % p = 0 then bZ e (n / p) else 0
def LFac (p : Nat) (e : Int) (n : Nat) : Int := if n % p = 0 ∧ 0 < n then -((p : Int) * e) else 0
theorem sm_step (p : Nat) (hp : 0 < p) (f : Nat → Int) : ∀ (m r : Nat), r < p → Sm (p * m + r + 1) (fun i => if i % p = 0 then f (i / p) else 0) = Sm (m + 1) f
  | 0, 0, _ => by simp [Sm]
  | 0, r + 1, h => by
    rw [show p * 0 + (r + 1) + 1 = (p * 0 + r + 1) + 1 by omega, sm_succ, sm_step p hp f 0 r (by omega), if_neg (by rw [Nat.mul_zero, Nat.zero_add, Nat.mod_eq_of_lt h]; omega), Int.add_zero]
  | m + 1, 0, h => by
    rw [show p * (m + 1) + 0 + 1 = (p * m + (p - 1) + 1) + 1 by rw [Nat.mul_succ]; omega, sm_succ, sm_step p hp f m (p - 1) (by omega), show p * m + (p - 1) + 1 = p * (m + 1) by rw [Nat.mul_succ]; omega, if_pos (Nat.mul_mod_right p (m + 1)), Nat.mul_div_cancel_left _ hp, sm_succ (m + 1)]
  | m + 1, r + 1, h => by
    rw [show p * (m + 1) + (r + 1) + 1 = (p * (m + 1) + r + 1) + 1 by omega, sm_succ, sm_step p hp f (m + 1) r (by omega), if_neg (by rw [show p * (m + 1) + r + 1 = p * (m + 1) + (r + 1) by omega, Nat.mul_add_mod, Nat.mod_eq_of_lt h]; omega), Int.add_zero]
theorem sm_zero' {n : Nat} {f : Nat → Int} (h : ∀ i, i < n → f i = 0) : Sm n f = 0 := by
  rw [sm_congr (g := fun _ => (0 : Int) * 0) h, sm_mul, Int.zero_mul]
theorem log_fac (p : Nat) (hp : 0 < p) (e : Int) : Log (LFac p e) (Fac p e) := by
  intro n
  have hn : n = p * (n / p) + n % p := (Nat.div_add_mod n p).symm
  have hr : n % p < p := Nat.mod_lt _ hp
  generalize n / p = m at hn
  generalize n % p = r at hn hr
  have e1 : conv (LFac p e) (Fac p e) n = Sm (m + 1) fun j => (if 0 < j then -((p : Int) * e) else 0) * Fac p e (n - p * j) := by
    rw [← sm_step p hp _ m r hr]
    unfold conv
    rw [← hn]
    refine sm_congr fun i hi => ?_
    unfold LFac
    by_cases z : i % p = 0
    · have hi2 : i = p * (i / p) := by have := Nat.div_add_mod i p; omega
      have hz : 0 < i ↔ 0 < i / p := by
        constructor
        · intro q
          refine Nat.pos_of_ne_zero fun w => ?_
          rw [w] at hi2
          omega
        · intro q
          refine Nat.pos_of_ne_zero fun w => ?_
          rw [w, Nat.zero_div] at q
          omega
      rw [if_pos z, ← hi2]
      by_cases w : 0 < i
      · rw [if_pos ⟨z, w⟩, if_pos (hz.mp w)]
      · rw [if_neg fun q => w q.2, if_neg fun q => w (hz.mpr q)]
    · rw [if_neg fun q => z q.1, if_neg z, Int.zero_mul]
  rw [e1]
  by_cases z : r = 0
  · subst z
    have hf : ∀ j, j ≤ m → Fac p e (n - p * j) = bZ e (m - j) := fun j hj => by
      have : n - p * j = p * (m - j) := by rw [hn, Nat.mul_sub]; omega
      unfold Fac
      rw [this, if_pos (Nat.mul_mod_right _ _), Nat.mul_div_cancel_left _ hp]
    have h0 : Fac p e n = bZ e m := by
      have := hf 0 (Nat.zero_le _)
      rwa [Nat.mul_zero, Nat.sub_zero, Nat.sub_zero] at this
    rw [sm_front, if_neg (by omega), Int.zero_mul, Int.zero_add, h0]
    have e2 : Sm m (fun j => (if 0 < j + 1 then -((p : Int) * e) else 0) * Fac p e (n - p * (j + 1))) = Sm m fun j => -((p : Int) * e) * (fun k => bZ e k) (m - 1 - j) := sm_congr fun j hj => by
      rw [if_pos (by omega), hf (j + 1) (by omega), show m - (j + 1) = m - 1 - j by omega]
    rw [e2, sm_mul, sm_rev m fun k => bZ e k]
    have h3 := bZ_sum e m
    have h4 : (n : Int) = (p : Int) * (m : Int) := by rw [hn]; push_cast; omega
    rw [h4, Int.mul_assoc, h3]
    have : Sm m (fun k => bZ e k) = Sm m (bZ e) := rfl
    rw [this]
    grind
  · have h0 : Fac p e n = 0 := by
      unfold Fac
      rw [if_neg]
      rw [hn, Nat.mul_add_mod, Nat.mod_eq_of_lt hr]
      exact z
    rw [h0, Int.mul_zero]
    refine (sm_zero' fun j hj => ?_).symm
    have : Fac p e (n - p * j) = 0 := by
      unfold Fac
      rw [if_neg]
      have : n - p * j = p * (m - j) + r := by
        have h1 : p * j ≤ p * m := Nat.mul_le_mul_left _ (by omega)
        rw [hn, Nat.mul_sub]
        omega
      rw [this, Nat.mul_add_mod, Nat.mod_eq_of_lt hr]
      exact z
    rw [this, Int.mul_zero]
def one (n : Nat) : Int := if n = 0 then 1 else 0
def PRow : List (Nat × Int) → Nat → Int
  | [] => one
  | f :: fs => conv (Fac f.1 f.2) (PRow fs)
def LRow : List (Nat × Int) → Nat → Int
  | [] => fun _ => 0
  | f :: fs => fun n => LFac f.1 f.2 n + LRow fs n
theorem conv_zero (f : Nat → Int) (n : Nat) : conv (fun _ => 0) f n = 0 := sm_zero' fun i _ => Int.zero_mul _
theorem log_prow : ∀ {fs : List (Nat × Int)}, (∀ f ∈ fs, 0 < f.1) → Log (LRow fs) (PRow fs)
  | [], _ => fun n => by
    show (n : Int) * one n = conv (fun _ => 0) one n
    rw [conv_zero]
    unfold one
    by_cases z : n = 0
    · subst z
      simp
    · rw [if_neg z, Int.mul_zero]
  | f :: fs, h => log_mul (log_fac f.1 (h f List.mem_cons_self) f.2) (log_prow fun g hg => h g (List.mem_cons_of_mem _ hg))
theorem lfac_zero (p : Nat) (e : Int) : LFac p e 0 = 0 := by
  unfold LFac
  rw [if_neg fun q => absurd q.2 (by omega)]
theorem lrow_zero : ∀ fs : List (Nat × Int), LRow fs 0 = 0
  | [] => rfl
  | f :: fs => by
    show LFac f.1 f.2 0 + LRow fs 0 = 0
    rw [lfac_zero, lrow_zero fs]
    rfl
theorem fac_zero (p : Nat) (e : Int) : Fac p e 0 = 1 := by
  unfold Fac
  rw [Nat.zero_mod, if_pos rfl, Nat.zero_div, bZ_zero]
theorem conv_at0 (f g : Nat → Int) : conv f g 0 = f 0 * g 0 := by
  unfold conv
  simp [Sm]
theorem prow_zero : ∀ fs : List (Nat × Int), PRow fs 0 = 1
  | [] => rfl
  | f :: fs => by
    show conv (Fac f.1 f.2) (PRow fs) 0 = 1
    rw [conv_at0, fac_zero, prow_zero fs]
    rfl
theorem prow_only {fs : List (Nat × Int)} (h : ∀ f ∈ fs, 0 < f.1) {a : Nat → Int} (h0 : a 0 = 1) (ha : Log (LRow fs) a) (n : Nat) : a n = PRow fs n :=
  log_one (lrow_zero fs) (by rw [h0, prow_zero]) ha (log_prow h) n
theorem fac_conv (p : Nat) (hp : 0 < p) (e : Int) (f : Nat → Int) (n : Nat) : conv (Fac p e) f n = Sm (n / p + 1) fun j => bZ e j * f (n - p * j) := by
  have hn : p * (n / p) + n % p = n := Nat.div_add_mod n p
  have := sm_step p hp (fun j => bZ e j * f (n - p * j)) (n / p) (n % p) (Nat.mod_lt _ hp)
  rw [hn] at this
  rw [← this]
  unfold conv
  refine sm_congr fun i hi => ?_
  unfold Fac
  by_cases z : i % p = 0
  · rw [if_pos z, if_pos z, show p * (i / p) = i by have := Nat.div_add_mod i p; omega]
  · rw [if_neg z, if_neg z, Int.zero_mul]
theorem one_conv (f : Nat → Int) (n : Nat) : conv one f n = f n := by
  unfold conv
  rw [sm_front]
  have : Sm n (fun i => one (i + 1) * f (n - (i + 1))) = 0 := sm_zero' fun i _ => by
    unfold one
    rw [if_neg (by omega), Int.zero_mul]
  rw [this]
  simp [one]
theorem prow_app (fs gs : List (Nat × Int)) (n : Nat) : PRow (fs ++ gs) n = conv (PRow fs) (PRow gs) n := by
  induction fs generalizing n with
  | nil => exact (one_conv (PRow gs) n).symm
  | cons f fs ih =>
    show conv (Fac f.1 f.2) (PRow (fs ++ gs)) n = conv (conv (Fac f.1 f.2) (PRow fs)) (PRow gs) n
    rw [conv_assoc]
    exact conv_congr (fun _ _ => rfl) fun i _ => ih i
end L2.Py
set_option maxRecDepth 10000
namespace L2.Py
def facsTo (F : Nat → Int) (n : Nat) : List (Nat × Int) := (List.range n).map fun j => (j + 1, F (j + 1))
def PF (F : Nat → Int) (n : Nat) : Int := PRow (facsTo F n) n
def LF (F : Nat → Int) (k : Nat) : Int := -(Sm k fun j => if (j + 1) ∣ k then ((j : Int) + 1) * F (j + 1) else 0)
theorem facs_succ (F : Nat → Int) (n : Nat) : facsTo F (n + 1) = facsTo F n ++ [(n + 1, F (n + 1))] := by
  unfold facsTo
  rw [List.range_succ, List.map_append]
  rfl
theorem facs_pos {F : Nat → Int} {n : Nat} : ∀ f ∈ facsTo F n, 0 < f.1 := by
  intro f hf
  unfold facsTo at hf
  obtain ⟨j, _, rfl⟩ := List.mem_map.mp hf
  show 0 < j + 1
  omega
theorem fac_far {p : Nat} {e : Int} {i : Nat} (h : i < p) : Fac p e i = one i := by
  unfold Fac one
  rw [Nat.mod_eq_of_lt h]
  by_cases z : i = 0
  · rw [if_pos z, if_pos z, z, Nat.zero_div, bZ_zero]
  · rw [if_neg z, if_neg z]
theorem conv_one (f : Nat → Int) (n : Nat) : conv f one n = f n := by rw [conv_comm, one_conv]
theorem prow_far (fs : List (Nat × Int)) (p : Nat) (e : Int) {m : Nat} (h : m < p) : PRow (fs ++ [(p, e)]) m = PRow fs m := by
  rw [prow_app]
  have : conv (PRow fs) (PRow [(p, e)]) m = conv (PRow fs) one m := conv_congr (fun _ _ => rfl) fun i hi => by
    show conv (Fac p e) one i = one i
    rw [conv_one, fac_far (by omega)]
  rw [this, conv_one]
theorem prow_to (F : Nat → Int) {m : Nat} : ∀ {n : Nat}, m ≤ n → PRow (facsTo F n) m = PF F m
  | 0, h => by
    have : m = 0 := by omega
    subst this
    rfl
  | n + 1, h => by
    by_cases z : m = n + 1
    · subst z; rfl
    · rw [facs_succ, prow_far _ _ _ (by omega), prow_to F (by omega)]
theorem lrow_app (fs gs : List (Nat × Int)) (k : Nat) : LRow (fs ++ gs) k = LRow fs k + LRow gs k := by
  induction fs with
  | nil => show LRow gs k = 0 + LRow gs k; omega
  | cons f fs ih =>
    show LFac f.1 f.2 k + LRow (fs ++ gs) k = LFac f.1 f.2 k + LRow fs k + LRow gs k
    rw [ih]; omega
theorem lrow_facs (F : Nat → Int) (k : Nat) : ∀ n : Nat, LRow (facsTo F n) k = -(Sm n fun j => if (j + 1) ∣ k ∧ 0 < k then ((j : Int) + 1) * F (j + 1) else 0)
  | 0 => by rfl
  | n + 1 => by
    rw [facs_succ, lrow_app, lrow_facs F k n, sm_succ]
    show _ + (LFac (n + 1) (F (n + 1)) k + 0) = _
    unfold LFac
    by_cases z : (n + 1) ∣ k ∧ 0 < k
    · rw [if_pos ⟨Nat.mod_eq_zero_of_dvd z.1, z.2⟩, if_pos z]
      push_cast
      omega
    · rw [if_neg fun q => z ⟨Nat.dvd_of_mod_eq_zero q.1, q.2⟩, if_neg z]
      omega
theorem sm_more {k n : Nat} {f : Nat → Int} (h : k ≤ n) (h0 : ∀ i, k ≤ i → i < n → f i = 0) : Sm n f = Sm k f := by
  induction n with
  | zero => have : k = 0 := by omega
            subst this; rfl
  | succ n ih =>
    by_cases z : k = n + 1
    · subst z; rfl
    · rw [sm_succ, ih (by omega) fun i h1 h2 => h0 i h1 (by omega), h0 n (by omega) (by omega)]
      omega
theorem lrow_to (F : Nat → Int) {k n : Nat} (h : k ≤ n) : LRow (facsTo F n) k = LF F k := by
  rw [lrow_facs]
  unfold LF
  congr 1
  rw [sm_more h]
  · refine sm_congr fun i hi => ?_
    by_cases z : (i + 1) ∣ k
    · rw [if_pos ⟨z, by omega⟩, if_pos z]
    · rw [if_neg fun q => z q.1, if_neg z]
  · intro i h1 h2
    rw [if_neg]
    rintro ⟨a, b⟩
    have := Nat.le_of_dvd b a
    omega
theorem lf_zero (F : Nat → Int) : LF F 0 = 0 := rfl
theorem pf_zero (F : Nat → Int) : PF F 0 = 1 := rfl
theorem pf_log (F : Nat → Int) : Log (LF F) (PF F) := by
  intro n
  have h := log_prow (fs := facsTo F n) facs_pos n
  rw [prow_to F (Nat.le_refl n)] at h
  rw [h]
  exact conv_congr (fun i hi => lrow_to F hi) fun i hi => prow_to F hi
def LogTo (N : Nat) (c f : Nat → Int) : Prop := ∀ n, n < N → (n : Int) * f n = conv c f n
theorem logto_one {N : Nat} {c d f g : Nat → Int} (hc : c 0 = 0) (hcd : ∀ i, i < N → c i = d i) (h0 : f 0 = g 0) (hf : LogTo N c f) (hg : LogTo N d g) : ∀ n, n < N → f n = g n := by
  intro n
  induction n using Nat.strongRecOn with
  | ind n ih =>
    intro hn
    by_cases z : n = 0
    · rw [z, h0]
    · have h1 := hf n hn
      have h2 := hg n hn
      have hd : d 0 = 0 := by rw [← hcd 0 (by omega), hc]
      rw [conv_head hc] at h1
      rw [conv_head hd] at h2
      have e : Sm n (fun i => c (i + 1) * f (n - (i + 1))) = Sm n fun i => d (i + 1) * g (n - (i + 1)) := sm_congr fun i hi => by
        rw [ih (n - (i + 1)) (by omega) (by omega), hcd (i + 1) (by omega)]
      rw [e, ← h2] at h1
      exact Int.eq_of_mul_eq_mul_left (by omega) h1
theorem Log.to {c f : Nat → Int} (h : Log c f) (N : Nat) : LogTo N c f := fun n _ => h n
theorem pf_only {N : Nat} {F : Nat → Int} {c f : Nat → Int} (h0 : f 0 = 1) (hc : ∀ i, i < N → c i = LF F i) (hf : LogTo N c f) : ∀ n, n < N → f n = PF F n := by
  intro n hn
  refine logto_one ?_ hc (h0.trans (pf_zero F).symm) hf ((pf_log F).to N) n hn
  rw [hc 0 (by omega), lf_zero]
theorem lf_congr {F G : Nat → Int} {k : Nat} (h : ∀ j, 0 < j → j ≤ k → F j = G j) : LF F k = LF G k := by
  unfold LF
  congr 1
  refine sm_congr fun i hi => ?_
  rw [h (i + 1) (by omega) (by omega)]
theorem pf_congr {F G : Nat → Int} {n : Nat} (h : ∀ j, 0 < j → j ≤ n → F j = G j) : PF F n = PF G n :=
  pf_only (N := n + 1) (c := LF F) (f := PF F) (pf_zero F) (fun i hi => lf_congr fun j h1 h2 => h j h1 (by omega)) ((pf_log F).to _) n (by omega)
theorem lf_add (F G : Nat → Int) (k : Nat) : LF (fun j => F j + G j) k = LF F k + LF G k := by
  unfold LF
  have : Sm k (fun j => if (j + 1) ∣ k then ((j : Int) + 1) * (F (j + 1) + G (j + 1)) else 0) = Sm k (fun j => if (j + 1) ∣ k then ((j : Int) + 1) * F (j + 1) else 0) + Sm k (fun j => if (j + 1) ∣ k then ((j : Int) + 1) * G (j + 1) else 0) := by
    rw [← sm_add]
    refine sm_congr fun i _ => ?_
    by_cases z : (i + 1) ∣ k
    · rw [if_pos z, if_pos z, if_pos z, Int.mul_add]
    · rw [if_neg z, if_neg z, if_neg z]; rfl
  rw [this]
  omega
theorem pf_add (F G : Nat → Int) (n : Nat) : conv (PF F) (PF G) n = PF (fun j => F j + G j) n :=
  pf_only (N := n + 1) (c := fun i => LF F i + LF G i) (by rw [conv_at0]; rfl) (fun i _ => (lf_add F G i).symm) ((log_mul (pf_log F) (pf_log G)).to _) n (by omega)
theorem lf_none {F : Nat → Int} {k : Nat} (h : ∀ j, 0 < j → j ≤ k → F j = 0) : LF F k = 0 := by
  unfold LF
  rw [sm_zero']
  · rfl
  · intro i hi
    rw [h (i + 1) (by omega) (by omega), Int.mul_zero]
    split <;> rfl
theorem pf_none {F : Nat → Int} (h : ∀ j, F j = 0) (n : Nat) : PF F n = one n := by
  refine (pf_only (N := n + 1) (c := fun _ => 0) (f := one) rfl (fun i _ => (lf_none fun j _ _ => h j).symm) (fun m _ => ?_) n (by omega)).symm
  rw [conv_zero]
  unfold one
  by_cases z : m = 0
  · subst z; simp
  · rw [if_neg z, Int.mul_zero]
def atR (d : Nat) (f : Nat → Int) (n : Nat) : Int := if n % d = 0 then f (n / d) else 0
theorem conv_atR (d : Nat) (hd : 0 < d) (f g : Nat → Int) (n : Nat) : conv (atR d f) (atR d g) n = atR d (conv f g) n := by
  have hn : d * (n / d) + n % d = n := Nat.div_add_mod n d
  unfold conv
  have := sm_step d hd (fun j => f j * atR d g (n - d * j)) (n / d) (n % d) (Nat.mod_lt _ hd)
  rw [hn] at this
  have e1 : Sm (n + 1) (fun i => atR d f i * atR d g (n - i)) = Sm (n + 1) fun i => if i % d = 0 then f (i / d) * atR d g (n - d * (i / d)) else 0 := sm_congr fun i hi => by
    unfold atR
    by_cases z : i % d = 0
    · rw [if_pos z, if_pos z, show d * (i / d) = i by have := Nat.div_add_mod i d; omega]
    · rw [if_neg z, if_neg z, Int.zero_mul]
  rw [e1, this]
  show _ = if n % d = 0 then Sm (n / d + 1) (fun i => f i * g (n / d - i)) else 0
  by_cases z : n % d = 0
  · rw [if_pos z]
    refine sm_congr fun j hj => ?_
    have e : n - d * j = d * (n / d - j) := by rw [Nat.mul_sub]; omega
    unfold atR
    rw [e, if_pos (Nat.mul_mod_right _ _), Nat.mul_div_cancel_left _ hd]
  · rw [if_neg z]
    refine sm_zero' fun j hj => ?_
    have h1 : d * j ≤ d * (n / d) := Nat.mul_le_mul_left _ (by omega)
    have e : n - d * j = d * (n / d - j) + n % d := by rw [Nat.mul_sub]; omega
    unfold atR
    rw [e, Nat.mul_add_mod, Nat.mod_eq_of_lt (Nat.mod_lt _ hd), if_neg z, Int.mul_zero]
theorem sm_dvd (d : Nat) (hd : 0 < d) (m : Nat) (f : Nat → Int) : Sm (d * m) (fun i => if d ∣ (i + 1) then f ((i + 1) / d) else 0) = Sm m fun j => f (j + 1) := by
  induction m with
  | zero => rfl
  | succ m ih =>
    rw [sm_succ, ← ih, show d * (m + 1) = d * m + (d - 1) + 1 by rw [Nat.mul_succ]; omega, sm_succ]
    rw [sm_more (k := d * m) (n := d * m + (d - 1)) (by omega)]
    · rw [if_pos ⟨m + 1, by rw [Nat.mul_succ]; omega⟩, show d * m + (d - 1) + 1 = d * (m + 1) by rw [Nat.mul_succ]; omega, Nat.mul_div_cancel_left _ hd]
    · intro i h1 h2
      rw [if_neg]
      rintro ⟨c, hc⟩
      have a1 : d * m < d * c := by omega
      have a2 : d * c < d * (m + 1) := by rw [Nat.mul_succ]; omega
      have b1 := Nat.lt_of_mul_lt_mul_left a1
      have b2 := Nat.lt_of_mul_lt_mul_left a2
      omega
def atF (d : Nat) (F : Nat → Int) (j : Nat) : Int := if d ∣ j then F (j / d) else 0
theorem lf_at (d : Nat) (hd : 0 < d) (F : Nat → Int) (k : Nat) : LF (atF d F) k = atR d (fun i => (d : Int) * LF F i) k := by
  unfold LF atR
  by_cases z : k % d = 0
  · rw [if_pos z]
    have hk : k = d * (k / d) := by have := Nat.div_add_mod k d; omega
    generalize k / d = m at hk
    subst hk
    have e : Sm (d * m) (fun j => if (j + 1) ∣ d * m then ((j : Int) + 1) * atF d F (j + 1) else 0) = Sm (d * m) fun i => if d ∣ (i + 1) then (fun t : Nat => if t ∣ m then (d : Int) * ((t : Int) * F t) else 0) ((i + 1) / d) else 0 := sm_congr fun i hi => by
      unfold atF
      by_cases w : d ∣ (i + 1)
      · obtain ⟨t, ht⟩ := w
        dsimp only
        rw [if_pos (show d ∣ i + 1 from ⟨t, ht⟩), if_pos (show d ∣ i + 1 from ⟨t, ht⟩), ht, Nat.mul_div_cancel_left _ hd]
        have h1 : d * t ∣ d * m ↔ t ∣ m := Nat.mul_dvd_mul_iff_left hd
        by_cases v : t ∣ m
        · rw [if_pos (h1.mpr v), if_pos v]
          have : (i : Int) + 1 = (d : Int) * (t : Int) := by rw [← Int.natCast_mul, ← ht]; push_cast; rfl
          rw [this, Int.mul_assoc]
        · rw [if_neg fun q => v (h1.mp q), if_neg v]
      · rw [if_neg w, if_neg w, Int.mul_zero]
        split <;> rfl
    rw [e, sm_dvd d hd m (fun t : Nat => if t ∣ m then (d : Int) * ((t : Int) * F t) else 0)]
    dsimp only
    rw [Int.mul_neg, ← sm_mul]
    congr 1
    refine sm_congr fun j hj => ?_
    by_cases v : (j + 1) ∣ m
    · rw [if_pos v, if_pos v]
      push_cast
      rfl
    · rw [if_neg v, if_neg v, Int.mul_zero]
  · rw [if_neg z, sm_zero']
    · rfl
    · intro i hi
      by_cases v : (i + 1) ∣ k
      · rw [if_pos v]
        unfold atF
        rw [if_neg, Int.mul_zero]
        intro w
        exact z (Nat.mod_eq_zero_of_dvd (Nat.dvd_trans w v))
      · rw [if_neg v]
theorem pf_at (d : Nat) (hd : 0 < d) (F : Nat → Int) (n : Nat) : atR d (PF F) n = PF (atF d F) n := by
  refine pf_only (N := n + 1) (c := LF (atF d F)) (f := atR d (PF F)) ?_ (fun _ _ => rfl) (fun m _ => ?_) n (by omega)
  · unfold atR
    rw [Nat.zero_mod, if_pos rfl, Nat.zero_div, pf_zero]
  · have e : conv (LF (atF d F)) (atR d (PF F)) m = conv (atR d fun i => (d : Int) * LF F i) (atR d (PF F)) m := conv_congr (fun i _ => lf_at d hd F i) fun _ _ => rfl
    rw [e, conv_atR d hd]
    unfold atR
    by_cases z : m % d = 0
    · rw [if_pos z, if_pos z]
      have hm : (m : Int) = (d : Int) * ((m / d : Nat) : Int) := by
        rw [← Int.natCast_mul]
        congr 1
        have := Nat.div_add_mod m d
        omega
      have h := pf_log F (m / d)
      rw [hm, Int.mul_assoc, h]
      unfold conv
      rw [← sm_mul]
      refine sm_congr fun i _ => ?_
      rw [Int.mul_assoc]
    · rw [if_neg z, if_neg z, Int.mul_zero]
theorem sm_abs {n : Nat} {f g : Nat → Int} (h : ∀ i, i < n → f i ≤ g i ∧ -(g i) ≤ f i) : Sm n f ≤ Sm n g ∧ -(Sm n g) ≤ Sm n f := by
  induction n with
  | zero => exact ⟨Int.le_refl _, Int.le_refl _⟩
  | succ n ih =>
    rw [sm_succ, sm_succ]
    have a := ih fun i hi => h i (by omega)
    have b := h n (by omega)
    omega
theorem sm_geo (B : Int) (n : Nat) : (Sm n fun i => B * (B + 1) ^ (n - 1 - i)) = (B + 1) ^ n - 1 := by
  have : Sm n (fun i => B * (B + 1) ^ (n - 1 - i)) = Sm n fun i => B * (B + 1) ^ i := sm_rev n fun i => B * (B + 1) ^ i
  rw [this]
  clear this
  induction n with
  | zero => simp [sm_zero]
  | succ n ih =>
    rw [sm_succ, ih, Int.pow_succ, Int.mul_add, Int.mul_one, Int.mul_comm B]
    omega
theorem log_le {N : Nat} {c f : Nat → Int} {B : Int} (hB : 0 ≤ B) (h0 : f 0 = 1) (hc0 : c 0 = 0) (hc : ∀ k, k < N → c k ≤ B ∧ -B ≤ c k) (hf : LogTo N c f) : ∀ n, n < N → f n ≤ (B + 1) ^ n ∧ -((B + 1) ^ n) ≤ f n := by
  intro n
  induction n using Nat.strongRecOn with
  | ind n ih =>
    intro hn
    by_cases z : n = 0
    · subst z
      rw [h0, Int.pow_zero]
      decide
    · have h1 := hf n hn
      rw [conv_head hc0] at h1
      have h2 : ∀ i, i < n → c (i + 1) * f (n - (i + 1)) ≤ B * (B + 1) ^ (n - 1 - i) ∧ -(B * (B + 1) ^ (n - 1 - i)) ≤ c (i + 1) * f (n - (i + 1)) := fun i hi => by
        have a := hc (i + 1) (by omega)
        have b := ih (n - (i + 1)) (by omega) (by omega)
        rw [show n - 1 - i = n - (i + 1) by omega]
        generalize c (i + 1) = x at *
        generalize f (n - (i + 1)) = y at *
        generalize (B + 1) ^ (n - (i + 1)) = P at *
        have hx : x.natAbs ≤ B.natAbs := by omega
        have hy : y.natAbs ≤ P.natAbs := by omega
        have hxy : (x * y).natAbs ≤ B.natAbs * P.natAbs := by rw [Int.natAbs_mul]; exact Nat.mul_le_mul hx hy
        have hBP : B * P = ((B.natAbs * P.natAbs : Nat) : Int) := by
          rw [Int.natCast_mul, Int.natAbs_of_nonneg hB, Int.natAbs_of_nonneg (by omega)]
        omega
      have h3 := sm_abs h2
      rw [sm_geo, ← h1] at h3
      have hp : 0 ≤ (B + 1) ^ n := Int.pow_nonneg (by omega)
      generalize (B + 1) ^ n = P at *
      generalize f n = y at *
      have hn1 : (1 : Int) ≤ (n : Int) := by omega
      obtain ⟨h4, h5⟩ := h3
      constructor
      · refine Int.not_lt.mp fun q => ?_
        have : (n : Int) * (P + 1) ≤ (n : Int) * y := Int.mul_le_mul_of_nonneg_left (by omega) (by omega)
        have h6 : 1 * (P + 1) ≤ (n : Int) * (P + 1) := Int.mul_le_mul_of_nonneg_right hn1 (by omega)
        omega
      · refine Int.not_lt.mp fun q => ?_
        have : (n : Int) * y ≤ (n : Int) * (-P - 1) := Int.mul_le_mul_of_nonneg_left (by omega) (by omega)
        have h6 : (n : Int) * (-P - 1) ≤ 1 * (-P - 1) := by
          have : 1 * (P + 1) ≤ (n : Int) * (P + 1) := Int.mul_le_mul_of_nonneg_right hn1 (by omega)
          have e : (n : Int) * (-P - 1) = -((n : Int) * (P + 1)) := by rw [show -P - 1 = -(P + 1) by omega, Int.mul_neg]
          omega
        omega
theorem pf_le {N : Nat} {F : Nat → Int} {B : Int} (hB : 0 ≤ B) (hc : ∀ k, k < N → LF F k ≤ B ∧ -B ≤ LF F k) {n : Nat} (hn : n < N) : PF F n ≤ (B + 1) ^ n ∧ -((B + 1) ^ n) ≤ PF F n :=
  log_le hB (pf_zero F) (lf_zero F) hc ((pf_log F).to N) n hn
theorem sm_const (n : Nat) (B : Int) : (Sm n fun _ => B) = n * B := by
  induction n with
  | zero => simp [sm_zero]
  | succ n ih => rw [sm_succ, ih]; push_cast; rw [Int.add_mul]; omega
theorem lf_le {F : Nat → Int} {k : Nat} {M : Int} (hM : 0 ≤ M) (h : ∀ j, 0 < j → j ≤ k → F j ≤ M ∧ -M ≤ F j) : LF F k ≤ k * (k * M) ∧ -(k * (k * M)) ≤ LF F k := by
  have h1 : ∀ i, i < k → (if (i + 1) ∣ k then ((i : Int) + 1) * F (i + 1) else 0) ≤ (fun _ : Nat => (k : Int) * M) i ∧ -((fun _ : Nat => (k : Int) * M) i) ≤ (if (i + 1) ∣ k then ((i : Int) + 1) * F (i + 1) else 0) := fun i hi => by
    dsimp only
    have a := h (i + 1) (by omega) (by omega)
    generalize F (i + 1) = y at *
    have hkM : 0 ≤ (k : Int) * M := Int.mul_nonneg (by omega) hM
    split
    · have b1 : ((i : Int) + 1) * y ≤ ((i : Int) + 1) * M := Int.mul_le_mul_of_nonneg_left a.1 (by omega)
      have b2 : ((i : Int) + 1) * (-M) ≤ ((i : Int) + 1) * y := Int.mul_le_mul_of_nonneg_left a.2 (by omega)
      have b3 : ((i : Int) + 1) * M ≤ (k : Int) * M := Int.mul_le_mul_of_nonneg_right (by omega) hM
      have b4 : ((i : Int) + 1) * (-M) = -(((i : Int) + 1) * M) := Int.mul_neg _ _
      omega
    · omega
  have h2 := sm_abs h1
  rw [sm_const] at h2
  unfold LF
  omega
def FP (l : List (Int × Int)) (j : Nat) : Int := (l.map fun p => if p.1 ∣ (j : Int) then p.2 else 0).sum
theorem fp_app (l m : List (Int × Int)) (j : Nat) : FP (l ++ m) j = FP l j + FP m j := by
  unfold FP
  rw [List.map_append, List.sum_append]
theorem fp_cons (p : Int × Int) (l : List (Int × Int)) (j : Nat) : FP (p :: l) j = (if p.1 ∣ (j : Int) then p.2 else 0) + FP l j := by
  unfold FP
  rw [List.map_cons, List.sum_cons]
def rowOf (n : Nat) (f : Nat → Int) : List Int := (List.range n).map f
theorem row_len {n : Nat} {f : Nat → Int} : (rowOf n f).length = n := by unfold rowOf; simp
theorem row_congr {n : Nat} {f g : Nat → Int} (h : ∀ i, i < n → f i = g i) : rowOf n f = rowOf n g := List.map_congr_left fun i hi => h i (List.mem_range.mp hi)
theorem row_succ (n : Nat) (f : Nat → Int) : rowOf (n + 1) f = rowOf n f ++ [f n] := by unfold rowOf; rw [List.range_succ, List.map_append]; rfl
theorem row_get {n : Nat} {f : Nat → Int} {i : Nat} (h : i < n) : (rowOf n f)[i]? = some (f i) := by
  unfold rowOf
  rw [List.getElem?_map, List.getElem?_range h]
  rfl
theorem row_set {n : Nat} {f : Nat → Int} {i : Nat} {x : Int} : (rowOf n f).set i x = rowOf n fun k => if k = i then x else f k := by
  refine List.ext_getElem? fun k => ?_
  rw [List.getElem?_set]
  unfold rowOf
  rw [List.getElem?_map, List.getElem?_map, List.length_map, List.length_range]
  by_cases z : k < n
  · rw [List.getElem?_range z]
    by_cases w : i = k
    · subst w
      simp [z]
    · rw [if_neg w]
      simp [Ne.symm w]
  · have : (List.range n)[k]? = none := List.getElem?_eq_none (by simp; omega)
    rw [this]
    by_cases w : i = k
    · subst w
      simp [z]
    · rw [if_neg w]
      rfl
theorem row_ext {n : Nat} {f g : Nat → Int} (h : rowOf n f = rowOf n g) : ∀ i, i < n → f i = g i := fun i hi => by
  have := congrArg (·[i]?) h
  simp only [row_get hi] at this
  exact Option.some.inj this
end L2.Py
set_option maxRecDepth 10000
namespace L2.Py
theorem ixN_in {n : Nat} {i : Int} (h0 : 0 ≤ i) (h1 : i < n) : L2.ixN n i = some i.toNat := by
  unfold L2.ixN
  rw [if_pos h0, if_pos h1]
theorem geti_row {n : Nat} {f : Nat → Int} {i : Int} (h0 : 0 ≤ i) (h1 : i < n) : geti (rowOf n f) i = some (f i.toNat) := by
  unfold geti L2.atI
  rw [row_len, ixN_in h0 h1]
  show (rowOf n f)[i.toNat]? = _
  exact row_get (by omega)
theorem seti_row {n : Nat} {f : Nat → Int} {i x : Int} (h0 : 0 ≤ i) (h1 : i < n) : seti (rowOf n f) i x = some (rowOf n fun k => if k = i.toNat then x else f k) := by
  unfold seti
  rw [row_len, ixN_in h0 h1]
  show some ((rowOf n f).set i.toNat x) = _
  rw [row_set]
theorem addAll {σ β : Type} {N : Nat} {f : Nat → Int} {b : (List Int × σ) → Int → Option (List Int × σ)} {ps : List Int} {c : Int} {t : σ} {k : (List Int × σ) → Option β} {P : β → Prop} (hn : ps.Nodup) (hp : ∀ x ∈ ps, 0 ≤ x ∧ x < N)
    (hb : ∀ (g : Nat → Int) (u : σ) (x : Int), x ∈ ps → g x.toNat = f x.toNat → ∃ u', b (rowOf N g, u) x = some (rowOf N fun i => if i = x.toNat then g i + c else g i, u'))
    (hk : ∀ u, ∃ v, k (rowOf N fun i => f i + if (i : Int) ∈ ps then c else 0, u) = some v ∧ P v) : ∃ v, (gfor b ps (rowOf N f, t)).bind k = some v ∧ P v := by
  refine gfor_bindE (fun pre s => s.1 = rowOf N fun i => f i + if (i : Int) ∈ pre then c else 0) ?_ (fun pre x suf s hl hs => ?_) (fun s hs => ?_)
  · exact row_congr fun i _ => by rw [if_neg (List.not_mem_nil), Int.add_zero]
  · obtain ⟨l, u⟩ := s
    dsimp only at hs
    subst hs
    have hx : x ∈ ps := by rw [hl]; simp
    have hx0 := hp x hx
    rw [hl] at hn
    have hnp : x ∉ pre := fun q => (List.nodup_append.mp hn).2.2 x q x List.mem_cons_self rfl
    have hxx : ((x.toNat : Nat) : Int) = x := Int.toNat_of_nonneg hx0.1
    obtain ⟨u', h⟩ := hb (fun i => f i + if (i : Int) ∈ pre then c else 0) u x hx (by rw [hxx, if_neg hnp, Int.add_zero])
    refine ⟨_, h, ?_⟩
    refine row_congr fun i hi => ?_
    by_cases z : i = x.toNat
    · subst z
      rw [if_pos rfl, hxx, if_neg hnp, if_pos (by simp)]
      omega
    · rw [if_neg z]
      congr 1
      have : (i : Int) ∈ pre ++ [x] ↔ (i : Int) ∈ pre := by
        rw [List.mem_append, List.mem_singleton]
        exact ⟨fun h => h.elim id fun h => absurd (show i = x.toNat by omega) z, .inl⟩
      by_cases w : (i : Int) ∈ pre
      · rw [if_pos w, if_pos (this.mpr w)]
      · rw [if_neg w, if_neg fun q => w (this.mp q)]
  · obtain ⟨l, u⟩ := s
    dsimp only at hs
    subst hs
    exact hk u
theorem rngC_mem {s N x : Int} (hs : 0 < s) : x ∈ rngC s N s ↔ s ∣ x ∧ 0 < x ∧ x < N := by
  unfold rngC PySem.Builtin.Range.rangeSize
  rw [if_pos hs]
  constructor
  · intro h
    obtain ⟨k, hk, rfl⟩ := List.mem_map.mp h
    have hk := List.mem_range.mp hk
    split at hk
    · rename_i q
      have h0 : 0 ≤ (N - s - 1) / s := Int.ediv_nonneg (by omega) (by omega)
      have h1 : (k : Int) ≤ (N - s - 1) / s := by omega
      have h2 : s * ((N - s - 1) / s) ≤ N - s - 1 := Int.mul_ediv_self_le (by omega)
      have h3 : s * (k : Int) ≤ s * ((N - s - 1) / s) := Int.mul_le_mul_of_nonneg_left h1 (by omega)
      have h4 : (k : Int) * s = s * (k : Int) := Int.mul_comm _ _
      have h5 : 0 ≤ s * (k : Int) := Int.mul_nonneg (by omega) (by omega)
      exact ⟨⟨k + 1, by rw [Int.mul_add, h4]; omega⟩, by omega, by omega⟩
    · exact absurd hk (by simp)
  · rintro ⟨⟨k, rfl⟩, h1, h2⟩
    have hk : 0 < k := Int.pos_of_mul_pos_right h1 (by omega)
    have h3 : s * 1 ≤ s * k := Int.mul_le_mul_of_nonneg_left (by omega) (by omega)
    have hq : s < N := by omega
    rw [if_pos hq]
    refine List.mem_map.mpr ⟨(k - 1).toNat, List.mem_range.mpr ?_, ?_⟩
    · have h4 : k - 1 ≤ (N - s - 1) / s := Int.le_ediv_of_mul_le hs (by rw [Int.sub_mul, Int.mul_comm k s]; omega)
      omega
    · rw [Int.toNat_of_nonneg (by omega), Int.sub_mul, Int.mul_comm k s]
      omega
theorem rngC_nodup {s N : Int} (hs : 0 < s) : (rngC s N s).Nodup := by
  unfold rngC
  refine List.Pairwise.map _ (R := (· ≠ ·)) (S := (· ≠ ·)) (fun a b h q => h ?_) List.nodup_range
  have h1 : (a : Int) * s = (b : Int) * s := by omega
  have := Int.eq_of_mul_eq_mul_right (by omega) h1
  omega
theorem okRC_s {s N : Int} (hs : 0 < s) (h1 : s < 1000000) (h0 : 0 ≤ N) (hN : N < 1000000) : okRC s N s = true := by
  unfold okRC
  refine decide_eq_true ⟨by omega, by omega, ?_, ?_⟩
  · unfold PySem.Builtin.Range.small
    have hr : 0 ≤ PySem.Builtin.Range.rangeSize s N s ∧ PySem.Builtin.Range.rangeSize s N s ≤ 1000001 := by
      unfold PySem.Builtin.Range.rangeSize
      rw [if_pos hs]
      split
      · have h2 : 0 ≤ (N - s - 1) / s := Int.ediv_nonneg (by omega) (by omega)
        have h3 : (N - s - 1) / s ≤ N - s - 1 := Int.ediv_le_self _ (by omega)
        omega
      · omega
    have hf : ∀ i : Int, 0 ≤ i → i < 2000000 → PySem.Builtin.Range.rangeFitsLong i = true := fun i a b => by
      unfold PySem.Builtin.Range.rangeFitsLong
      simp
      omega
    simp [hf s (by omega) (by omega), hf N (by omega) (by omega), hf _ hr.1 (by omega)]
    exact .inr (by rw [if_pos hs]; exact hf _ (by omega) (by omega))
  · unfold PySem.Builtin.Range.rangeSize
    rw [if_pos hs]
    split
    · have h2 : 0 ≤ (N - s - 1) / s := Int.ediv_nonneg (by omega) (by omega)
      omega
    · omega
end L2.Py
set_option maxRecDepth 10000
namespace L2.Py
open PySem L2
theorem rng_split {lo hi : Int} {pre suf : List Int} {x : Int} (h : rngL lo hi = pre ++ x :: suf) : x = lo + pre.length ∧ lo ≤ x ∧ x < hi := by
  have h1 : (rngL lo hi)[pre.length]? = some x := by rw [h]; simp
  have hm : x ∈ rngL lo hi := by rw [h]; simp
  have h2 := mem_rngL hm
  unfold rngL at h1
  rw [List.getElem?_map] at h1
  have hl := congrArg List.length h
  unfold rngL at hl
  simp at hl
  have : (List.range (hi - lo).toNat)[pre.length]? = some pre.length := List.getElem?_range (by omega)
  rw [this] at h1
  simp at h1
  omega
theorem gfor_rngE {σ β : Type} {b : σ → Int → Option σ} {lo hi : Int} {s : σ} {k : σ → Option β} {P : β → Prop} (I : Int → σ → Prop) (hle : lo ≤ hi) (h : I lo s) (hx : ∀ x s, lo ≤ x → x < hi → I x s → ∃ s', b s x = some s' ∧ I (x + 1) s')
    (hk : ∀ s', I hi s' → ∃ v, k s' = some v ∧ P v) : ∃ v, (gfor b (rngL lo hi) s).bind k = some v ∧ P v := by
  refine gfor_bindE (fun pre s => I (lo + pre.length) s) (by simpa using h) (fun pre x suf s hl hs => ?_) (fun s hs => hk s ?_)
  · obtain ⟨h1, h2, h3⟩ := rng_split hl
    obtain ⟨s', e, hi'⟩ := hx x s h2 h3 (by rw [h1]; exact hs)
    refine ⟨s', e, ?_⟩
    rw [List.length_append, List.length_singleton, show lo + ((pre.length + 1 : Nat) : Int) = x + 1 by omega]
    exact hi'
  · have : ((rngL lo hi).length : Int) = hi - lo := by rw [rngL_len]; omega
    rw [this, show lo + (hi - lo) = hi by omega] at hs
    exact hs
theorem gfor_rng {σ β : Type} {b : σ → Int → Option σ} {lo hi : Int} {s : σ} {k : σ → Option β} {v : β} (I : Int → σ → Prop) (hle : lo ≤ hi) (h : I lo s) (hx : ∀ x s, lo ≤ x → x < hi → I x s → ∃ s', b s x = some s' ∧ I (x + 1) s')
    (hk : ∀ s', I hi s' → k s' = some v) : (gfor b (rngL lo hi) s).bind k = some v := by
  obtain ⟨w, h1, h2⟩ := gfor_rngE (P := fun w => w = v) I hle h hx fun s' hs => ⟨v, hk s' hs, rfl⟩
  rw [h1, h2]
theorem rng_sum (a b : Int) (f : Int → Int) : ((rngL a b).map f).sum = Sm (b - a).toNat fun i => f (a + i) := by
  unfold rngL Sm
  rw [List.map_map]
  rfl
theorem rngL_nil (a b : Int) (h : b ≤ a) : rngL a b = [] := by
  unfold rngL
  rw [show (b - a).toNat = 0 by omega]
  rfl
theorem enum_row (f : Nat → Int) (n : Nat) : ∀ (i : Nat), enumL (i : Int) ((List.range' i n).map f) = (List.range' i n).map fun (j : Nat) => ((j : Int), f j) := by
  induction n with
  | zero => intro i; rfl
  | succ n ih =>
    intro i
    rw [List.range'_succ, List.map_cons, List.map_cons]
    unfold enumL
    have := ih (i + 1)
    rw [show ((i + 1 : Nat) : Int) = (i : Int) + 1 by omega] at this
    rw [this]
theorem enum_rowOf (f : Nat → Int) (n : Nat) : enumL 0 (rowOf n f) = (List.range n).map fun (j : Nat) => ((j : Int), f j) := by
  unfold rowOf
  rw [List.range_eq_range']
  exact enum_row f n 0
theorem cut_row {n : Nat} {f : Nat → Int} {m : Int} (h : 0 ≤ m) (h2 : m ≤ n) : cutL (rowOf n f) none (some m) = rowOf m.toNat f := by
  have e : m = ((m.toNat : Nat) : Int) := by omega
  generalize m.toNat = k at e
  subst e
  rw [cutL_to]
  unfold rowOf
  rw [← List.map_take, List.take_range, show min k n = k by omega]
theorem rep0 {m : Int} (h : 0 ≤ m) (h2 : m ≤ 1000000) : repI [(0 : Int)] m = some (rowOf m.toNat fun _ => 0) := by
  unfold repI
  rw [if_pos ⟨by omega, by omega, by show 1 * _ ≤ 16777216; omega⟩]
  congr 1
  unfold rowOf
  generalize m.toNat = n
  induction n with
  | zero => rfl
  | succ n ih => rw [List.range_succ, List.map_append, ← ih, List.replicate_succ', List.flatten_append]; rfl
theorem row_one {n : Nat} {f : Nat → Int} (h : ∀ i, i < n + 1 → f i = one i) : [(1 : Int)] ++ rowOf n (fun _ => 0) = rowOf (n + 1) f := by
  rw [row_congr h]
  unfold rowOf
  rw [List.range_succ_eq_map, List.map_cons, List.map_map]
  rfl
theorem mulI_B {i j : Int} {a b : Nat} (hi : i.natAbs ≤ 2 ^ a) (hj : j.natAbs ≤ 2 ^ b) (ha : a ≤ 400000) (hb : b ≤ 400000) : mulI i j = some (i * j) := by
  unfold mulI
  rw [if_pos ⟨Nat.le_trans hi (Nat.pow_le_pow_right (by decide) ha), Nat.le_trans hj (Nat.pow_le_pow_right (by decide) hb)⟩]
theorem log_le2 {N q : Nat} {c f : Nat → Int} (h0 : f 0 = 1) (hc0 : c 0 = 0) (hc : ∀ k, k < N → (c k).natAbs < 2 ^ q) (hf : LogTo N c f) (n : Nat) (hn : n < N) : (f n).natAbs ≤ 2 ^ (q * n) := by
  have hp : 0 < 2 ^ q := Nat.pow_pos (by decide)
  have h := log_le (N := N) (c := c) (f := f) (B := ((2 ^ q - 1 : Nat) : Int)) (by omega) h0 hc0 (fun k hk => by have := hc k hk; omega) hf n hn
  have e : ((2 ^ q - 1 : Nat) : Int) + 1 = ((2 ^ q : Nat) : Int) := by omega
  rw [e, ← Int.natCast_pow, ← Nat.pow_mul] at h
  omega
theorem pf_le2 {N q : Nat} {F : Nat → Int} (hc : ∀ k, k < N → (LF F k).natAbs < 2 ^ q) {n : Nat} (hn : n < N) : (PF F n).natAbs ≤ 2 ^ (q * n) :=
  log_le2 (pf_zero F) (lf_zero F) hc ((pf_log F).to N) n hn
theorem sm_natAbs {n : Nat} {f : Nat → Int} {B : Nat} (h : ∀ i, i < n → (f i).natAbs ≤ B) : (Sm n f).natAbs ≤ n * B := by
  induction n with
  | zero => simp [sm_zero]
  | succ n ih =>
    rw [sm_succ, Nat.succ_mul]
    have a := ih fun i hi => h i (by omega)
    have b := h n (by omega)
    omega
theorem lf_abs {F : Nat → Int} {k M : Nat} (h : ∀ j, 0 < j → j ≤ k → (F j).natAbs ≤ M) : (LF F k).natAbs ≤ k * (k * M) := by
  unfold LF
  rw [Int.natAbs_neg]
  refine sm_natAbs fun i hi => ?_
  split
  · rw [Int.natAbs_mul]
    exact Nat.mul_le_mul (by omega) (h _ (by omega) (by omega))
  · exact Nat.zero_le _
theorem bz_le (e : Int) {q : Nat} (he : e.natAbs < 2 ^ q) (n : Nat) : (bZ e n).natAbs ≤ 2 ^ (q * n) := by
  have h := log_le2 (N := n + 1) (c := LFac 1 e) (f := Fac 1 e) (q := q) (fac_zero 1 e) (lfac_zero 1 e) (fun k _ => by
    unfold LFac
    split
    · rw [Int.natAbs_neg, Int.natAbs_mul]; simpa using he
    · exact Nat.pow_pos (by decide)) ((log_fac 1 (by decide) e).to _) n (by omega)
  unfold Fac at h
  rw [Nat.mod_one, if_pos rfl, Nat.div_one] at h
  exact h
theorem lrow_abs {N E : Nat} : ∀ {fs : List (Nat × Int)}, (∀ f ∈ fs, f.1 ≤ N ∧ f.2.natAbs ≤ E) → ∀ k, (LRow fs k).natAbs ≤ fs.length * (N * E)
  | [], _, k => Nat.zero_le _
  | f :: fs, h, k => by
    have h1 := h f List.mem_cons_self
    have h2 := lrow_abs (fs := fs) (fun g hg => h g (List.mem_cons_of_mem _ hg)) k
    show (LFac f.1 f.2 k + LRow fs k).natAbs ≤ _
    have h3 : (LFac f.1 f.2 k).natAbs ≤ N * E := by
      unfold LFac
      split
      · rw [Int.natAbs_neg, Int.natAbs_mul]
        exact Nat.mul_le_mul (by omega) h1.2
      · exact Nat.zero_le _
    rw [List.length_cons, Nat.succ_mul]
    omega
theorem prow_le {N q : Nat} {fs : List (Nat × Int)} (h : ∀ f ∈ fs, 0 < f.1) (hc : ∀ k, k < N → (LRow fs k).natAbs < 2 ^ q) {n : Nat} (hn : n < N) : (PRow fs n).natAbs ≤ 2 ^ (q * n) :=
  log_le2 (prow_zero fs) (lrow_zero fs) hc ((log_prow h).to N) n hn
theorem lrow_mult {s e N : Int} (hs : 0 < s) {k : Nat} (hk : (k : Int) < N) : ∀ {ps : List Int}, ps.Nodup → (∀ x ∈ ps, s ∣ x ∧ 0 < x ∧ x < N) → LRow (ps.map fun x => (x.toNat, e)) k = -(Sm k fun j => if (j + 1) ∣ k then ((j : Int) + 1) * (if ((j + 1 : Nat) : Int) ∈ ps then e else 0) else 0)
  | [], _, _ => by
    rw [sm_zero']
    · rfl
    · intro i _
      simp
  | x :: ps, hn, hp => by
    have hx := hp x List.mem_cons_self
    have hn' := List.nodup_cons.mp hn
    show LFac x.toNat e k + LRow (ps.map fun x => (x.toNat, e)) k = _
    rw [lrow_mult hs hk hn'.2 fun y hy => hp y (List.mem_cons_of_mem _ hy)]
    have e1 : (Sm k fun j => if (j + 1) ∣ k then ((j : Int) + 1) * (if ((j + 1 : Nat) : Int) ∈ x :: ps then e else 0) else 0) = (Sm k fun j => if (j + 1) ∣ k then ((j : Int) + 1) * (if ((j + 1 : Nat) : Int) ∈ ps then e else 0) else 0) + Sm k fun j => if j + 1 = x.toNat then (if x.toNat ∣ k then x * e else 0) else 0 := by
      rw [← sm_add]
      refine sm_congr fun j _ => ?_
      by_cases z : j + 1 = x.toNat
      · have zx : ((j + 1 : Nat) : Int) = x := by omega
        rw [if_pos z, zx, if_pos List.mem_cons_self, if_neg hn'.1, z, Int.mul_zero, show (j : Int) + 1 = x by omega]
        split <;> omega
      · rw [if_neg z]
        have : ((j + 1 : Nat) : Int) ∈ x :: ps ↔ ((j + 1 : Nat) : Int) ∈ ps := by
          rw [List.mem_cons]
          exact ⟨fun h => h.elim (fun h => absurd (show j + 1 = x.toNat by omega) z) id, .inr⟩
        simp only [this]
        omega
    rw [e1]
    have e2 : (Sm k fun j => if j + 1 = x.toNat then (if x.toNat ∣ k then x * e else 0) else 0) = -(LFac x.toNat e k) := by
      unfold LFac
      by_cases z : x.toNat ≤ k
      · rw [sm_more (k := x.toNat) z fun i h1 _ => by rw [if_neg (by omega)]]
        rw [show x.toNat = (x.toNat - 1) + 1 by omega, sm_succ, sm_zero' fun i hi => by rw [if_neg (by omega)], if_pos (by omega)]
        by_cases w : x.toNat ∣ k
        · rw [show x.toNat - 1 + 1 = x.toNat by omega, if_pos w, if_pos ⟨Nat.mod_eq_zero_of_dvd w, by omega⟩, show ((x.toNat : Nat) : Int) = x by omega]
          omega
        · rw [show x.toNat - 1 + 1 = x.toNat by omega, if_neg w, if_neg fun q => w (Nat.dvd_of_mod_eq_zero q.1)]
          rfl
      · rw [sm_zero' fun i hi => by rw [if_neg (by omega)], if_neg]
        · rfl
        · rintro ⟨a, b⟩
          have := Nat.le_of_dvd b (Nat.dvd_of_mod_eq_zero a)
          omega
    rw [e2]
    omega
theorem lrow_step {s e N : Int} (hs : 0 < s) {k : Nat} (hk : (k : Int) < N) : LRow ((rngC s N s).map fun x => (x.toNat, e)) k = LF (fun j => if s ∣ (j : Int) then e else 0) k := by
  rw [lrow_mult hs hk (rngC_nodup hs) fun x hx => (rngC_mem hs).mp hx]
  unfold LF
  congr 1
  refine sm_congr fun j hj => ?_
  congr 2
  by_cases w : s ∣ ((j + 1 : Nat) : Int)
  · rw [if_pos ((rngC_mem hs).mpr ⟨w, by omega, by omega⟩)]
    exact (if_pos w).symm
  · rw [if_neg fun q => w ((rngC_mem hs).mp q).1]
    exact (if_neg w).symm
theorem lrow_rev (fs : List (Nat × Int)) (k : Nat) : LRow fs.reverse k = LRow fs k := by
  induction fs with
  | nil => rfl
  | cons f fs ih =>
    rw [List.reverse_cons, lrow_app, ih]
    show LRow fs k + (LFac f.1 f.2 k + 0) = LFac f.1 f.2 k + LRow fs k
    omega
def facsOf (l : List (Int × Int)) (N : Int) : List (Nat × Int) := l.flatMap fun p => (rngC p.1 N p.1).map fun x => (x.toNat, p.2)
theorem lrow_facsOf {N : Int} {k : Nat} (hk : (k : Int) < N) : ∀ {l : List (Int × Int)}, (∀ p ∈ l, 0 < p.1) → LRow (facsOf l N) k = LF (FP l) k
  | [], _ => by
    show (0 : Int) = LF (fun _ => 0) k
    rw [lf_none fun _ _ _ => rfl]
  | p :: l, h => by
    show LRow ((rngC p.1 N p.1).map (fun x => (x.toNat, p.2)) ++ facsOf l N) k = _
    rw [lrow_app, lrow_step (h p List.mem_cons_self) hk, lrow_facsOf hk fun q hq => h q (List.mem_cons_of_mem _ hq), ← lf_add]
    exact lf_congr fun j _ _ => (fp_cons p l j).symm
theorem facsOf_pos {l : List (Int × Int)} {N : Int} (h : ∀ p ∈ l, 0 < p.1) : ∀ f ∈ facsOf l N, 0 < f.1 := by
  intro f hf
  obtain ⟨p, hp, hf⟩ := List.mem_flatMap.mp hf
  obtain ⟨x, hx, rfl⟩ := List.mem_map.mp hf
  have := (rngC_mem (h p hp)).mp hx
  show 0 < x.toNat
  omega
theorem prow_fp {fs : List (Nat × Int)} {F : Nat → Int} {N : Nat} (h : ∀ f ∈ fs, 0 < f.1) (hc : ∀ k, k < N → LRow fs k = LF F k) {n : Nat} (hn : n < N) : PRow fs n = PF F n :=
  pf_only (prow_zero fs) hc ((log_prow h).to N) n hn
end L2.Py
set_option maxRecDepth 10000
namespace L2.Py
open PySem L2
def WP (l : List (Int × Int)) (s : Int) : Int := (getM l s).getD 0
theorem wp_cons (p : Int × Int) (l : List (Int × Int)) (s : Int) : WP (p :: l) s = if p.1 = s then p.2 else WP l s := by
  unfold WP getM
  rw [List.find?_cons]
  by_cases z : p.1 = s
  · rw [if_pos z, decide_eq_true z]; rfl
  · rw [if_neg z, decide_eq_false z]
theorem wp_none {l : List (Int × Int)} {s : Int} (h : s ∉ l.map (·.1)) : WP l s = 0 := by
  induction l with
  | nil => rfl
  | cons p l ih =>
    rw [List.map_cons, List.mem_cons] at h
    rw [wp_cons, if_neg fun z => h (.inl z.symm), ih fun q => h (.inr q)]
theorem getM_some {α : Type} {l : List (Int × α)} {s : Int} (h : s ∈ l.map (·.1)) : ∃ x, getM l s = some x ∧ (s, x) ∈ l := by
  induction l with
  | nil => cases h
  | cons p l ih =>
    unfold getM
    rw [List.find?_cons]
    by_cases z : p.1 = s
    · rw [decide_eq_true z]
      exact ⟨p.2, rfl, by rw [← z]; exact List.mem_cons_self⟩
    · rw [decide_eq_false z]
      rw [List.map_cons, List.mem_cons] at h
      obtain ⟨x, h1, h2⟩ := ih (h.resolve_left fun q => z q.symm)
      exact ⟨x, h1, List.mem_cons_of_mem _ h2⟩
theorem getM_wp {l : List (Int × Int)} {s : Int} (h : s ∈ l.map (·.1)) : getM l s = some (WP l s) := by
  obtain ⟨x, h1, _⟩ := getM_some h
  unfold WP
  rw [h1]; rfl
theorem getM_of {α : Type} {l : List (Int × α)} (hn : (l.map (·.1)).Nodup) {p : Int × α} (hp : p ∈ l) : getM l p.1 = some p.2 := by
  induction l with
  | nil => cases hp
  | cons q l ih =>
    unfold getM
    rw [List.find?_cons]
    rw [List.map_cons, List.nodup_cons] at hn
    rcases List.mem_cons.mp hp with z | z
    · subst z
      rw [decide_eq_true rfl]; rfl
    · have : q.1 ≠ p.1 := fun w => hn.1 (by rw [w]; exact List.mem_map.mpr ⟨p, z, rfl⟩)
      rw [decide_eq_false this]
      exact ih hn.2 z
theorem wp_of {l : List (Int × Int)} (hn : (l.map (·.1)).Nodup) {p : Int × Int} (hp : p ∈ l) : WP l p.1 = p.2 := by
  unfold WP
  rw [getM_of hn hp]; rfl
theorem wp_put (l : List (Int × Int)) (k x s : Int) : WP (putM l k x) s = if s = k then x else WP l s := by
  unfold putM
  split
  next h =>
    induction l with
    | nil => simp at h
    | cons p l ih =>
      rw [List.map_cons, wp_cons, wp_cons]
      by_cases z : p.1 = k
      · rw [if_pos z]
        dsimp only
        by_cases w : s = k
        · rw [if_pos w, if_pos (by omega)]
        · rw [if_neg w, if_neg (by omega), if_neg (by omega)]
          by_cases v : (l.any fun p => decide (p.1 = k)) = true
          · rw [ih v, if_neg w]
          · have e : l.map (fun p => if p.1 = k then (p.1, x) else p) = l := by
              rw [List.map_congr_left (g := id), List.map_id]
              intro q hq
              have := List.any_eq_false.mp (Bool.not_eq_true _ ▸ v) q hq
              rw [if_neg (by simpa using this)]; rfl
            rw [e]
      · rw [if_neg z]
        have v : (l.any fun p => decide (p.1 = k)) = true := by
          rw [List.any_cons, decide_eq_false z, Bool.false_or] at h; exact h
        by_cases w : p.1 = s
        · rw [if_pos w, if_pos w, if_neg (by omega)]
        · rw [if_neg w, if_neg w, ih v]
  next h =>
    have hk : k ∉ l.map (·.1) := fun q => by
      obtain ⟨p, h1, h2⟩ := List.mem_map.mp q
      exact h (List.any_eq_true.mpr ⟨p, h1, decide_eq_true h2⟩)
    clear h
    induction l with
    | nil =>
      rw [List.nil_append, wp_cons]
      by_cases w : s = k
      · rw [if_pos w, if_pos w.symm]
      · rw [if_neg w, if_neg (Ne.symm w)]
    | cons p l ih =>
      rw [List.map_cons, List.mem_cons] at hk
      rw [List.cons_append, wp_cons, wp_cons, ih fun q => hk (.inr q)]
      by_cases w : p.1 = s
      · rw [if_pos w, if_pos w, if_neg fun q => hk (.inl (by omega))]
      · rw [if_neg w, if_neg w]
theorem merge_nodup {α : Type} : ∀ {l acc : List (Int × α)}, ((acc ++ l).map (·.1)).Nodup → mergeM acc l = acc ++ l
  | [], acc, _ => by rw [List.append_nil]; rfl
  | p :: l, acc, h => by
    unfold mergeM
    have e : putM acc p.1 p.2 = acc ++ [p] := by
      unfold putM
      rw [if_neg]
      intro q
      obtain ⟨r, h1, h2⟩ := List.any_eq_true.mp q
      rw [List.map_append, List.map_cons, List.nodup_append] at h
      exact h.2.2 r.1 (List.mem_map.mpr ⟨r, h1, rfl⟩) p.1 List.mem_cons_self (of_decide_eq_true h2)
    rw [e, merge_nodup (by rw [List.append_assoc]; exact h), List.append_assoc]
    rfl
theorem merge_self {α : Type} {l : List (Int × α)} (h : (l.map (·.1)).Nodup) : mergeM [] l = l := merge_nodup (acc := []) h
structure okC (l : List (Int × Int)) : Prop where
  up : l.Pairwise fun a b => a.1 < b.1
  nz : ∀ p ∈ l, p.2 ≠ 0
theorem okC.nodup {l : List (Int × Int)} (h : okC l) : (l.map (·.1)).Nodup := by
  have := h.up
  exact (List.pairwise_map.mpr (this.imp fun {a b} q => Int.ne_of_lt q))
theorem okC.tail {p : Int × Int} {l : List (Int × Int)} (h : okC (p :: l)) : okC l := ⟨(List.pairwise_cons.mp h.up).2, fun q hq => h.nz q (List.mem_cons_of_mem _ hq)⟩
theorem okC_ext : ∀ {l m : List (Int × Int)}, okC l → okC m → (∀ s, WP l s = WP m s) → l = m
  | [], [], _, _, _ => rfl
  | [], q :: m, _, hm, h => by
    have := h q.1
    rw [wp_of hm.nodup List.mem_cons_self] at this
    exact absurd this.symm (hm.nz q List.mem_cons_self)
  | p :: l, [], hl, _, h => by
    have := h p.1
    rw [wp_of hl.nodup List.mem_cons_self] at this
    exact absurd this (hl.nz p List.mem_cons_self)
  | p :: l, q :: m, hl, hm, h => by
    have hp := h p.1
    have hq := h q.1
    rw [wp_of hl.nodup List.mem_cons_self] at hp
    rw [wp_of hm.nodup List.mem_cons_self] at hq
    have kp : p.1 ∈ (q :: m).map (·.1) := by
      refine Decidable.byContradiction fun z => ?_
      rw [wp_none z] at hp
      exact hl.nz p List.mem_cons_self hp
    have kq : q.1 ∈ (p :: l).map (·.1) := by
      refine Decidable.byContradiction fun z => ?_
      rw [wp_none z] at hq
      exact hm.nz q List.mem_cons_self hq.symm
    have ep : p.1 = q.1 := by
      rw [List.map_cons, List.mem_cons] at kp kq
      rcases kp with z | z
      · exact z
      · rcases kq with w | w
        · exact w.symm
        · obtain ⟨a, ha, e1⟩ := List.mem_map.mp z
          obtain ⟨b, hb, e2⟩ := List.mem_map.mp w
          have h1 := (List.pairwise_cons.mp hm.up).1 a ha
          have h2 := (List.pairwise_cons.mp hl.up).1 b hb
          omega
    have e2 : p.2 = q.2 := by
      rw [ep, wp_of hm.nodup List.mem_cons_self] at hp
      exact hp
    have e : p = q := Prod.ext ep e2
    subst e
    congr 1
    refine okC_ext hl.tail hm.tail fun s => ?_
    have hs := h s
    rw [wp_cons, wp_cons] at hs
    by_cases z : p.1 = s
    · have n1 : s ∉ l.map (·.1) := by rw [← z]; exact (List.nodup_cons.mp (by have := hl.nodup; rwa [List.map_cons] at this)).1
      have n2 : s ∉ m.map (·.1) := by rw [← z]; exact (List.nodup_cons.mp (by have := hm.nodup; rwa [List.map_cons] at this)).1
      rw [wp_none n1, wp_none n2]
    · rwa [if_neg z, if_neg z] at hs
def canon (d : List (Int × Int)) : List (Int × Int) := ((isort (d.map (·.1))).filter fun k => !decide (WP d k = 0)).map fun k => (k, WP d k)
theorem filO_canon {d : List (Int × Int)} : filO (fun (x : Int) => (getM d x).bind fun (y : Int) => if (!decide (y = 0)) = true then ((getM d x).bind fun (z : Int) => some (some (x, z))) else some none) (isort (d.map (·.1))) = some (canon d) :=
  filO_some fun x hx => by
    have hx : x ∈ d.map (·.1) := (perm_isort _).mem_iff.mp hx
    rw [getM_wp hx]
    dsimp only [Option.bind_some]
    split <;> rfl
theorem canon_keys {d : List (Int × Int)} {p : Int × Int} (h : p ∈ canon d) : p.1 ∈ d.map (·.1) ∧ p.2 = WP d p.1 ∧ p.2 ≠ 0 := by
  unfold canon at h
  obtain ⟨k, hk, rfl⟩ := List.mem_map.mp h
  have hk := List.mem_filter.mp hk
  exact ⟨(perm_isort _).mem_iff.mp hk.1, rfl, by simpa using hk.2⟩
theorem canon_ok {d : List (Int × Int)} (h : (d.map (·.1)).Nodup) : okC (canon d) := by
  refine ⟨?_, fun p hp => (canon_keys hp).2.2⟩
  unfold canon
  rw [List.pairwise_map]
  exact (rising_isort h).filter _
theorem wp_canon {d : List (Int × Int)} (h : (d.map (·.1)).Nodup) (s : Int) : WP (canon d) s = WP d s := by
  by_cases z : WP d s = 0
  · rw [z]
    refine wp_none fun q => ?_
    obtain ⟨p, h1, h2⟩ := List.mem_map.mp q
    have := canon_keys h1
    subst h2
    exact this.2.2 (this.2.1.trans z)
  · have hm : (s, WP d s) ∈ canon d := by
      unfold canon
      refine List.mem_map.mpr ⟨s, List.mem_filter.mpr ⟨(perm_isort _).mem_iff.mpr ?_, by simpa using z⟩, rfl⟩
      exact Decidable.byContradiction fun q => z (wp_none q)
    exact wp_of (canon_ok h).nodup hm
theorem canon_len (d : List (Int × Int)) : (canon d).length ≤ d.length := by
  unfold canon
  rw [List.length_map]
  refine Nat.le_trans (List.length_filter_le _ _) ?_
  rw [(perm_isort _).length_eq, List.length_map]
  exact Nat.le_refl _
theorem canon_self {l : List (Int × Int)} (h : okC l) : canon l = l := okC_ext (canon_ok h.nodup) h fun s => wp_canon h.nodup s
theorem fp_wp {l : List (Int × Int)} (hn : (l.map (·.1)).Nodup) (h1 : ∀ p ∈ l, 0 < p.1) {j : Nat} (hj : 0 < j) : FP l j = Sm j fun i => if (i + 1) ∣ j then WP l ((i + 1 : Nat) : Int) else 0 := by
  induction l with
  | nil =>
    rw [sm_zero' fun i _ => by
      show (if (i + 1) ∣ j then (0 : Int) else 0) = 0
      split <;> rfl]
    rfl
  | cons p l ih =>
    rw [List.map_cons, List.nodup_cons] at hn
    have hp := h1 p List.mem_cons_self
    rw [fp_cons, ih hn.2 fun q hq => h1 q (List.mem_cons_of_mem _ hq)]
    have e : (Sm j fun i => if (i + 1) ∣ j then WP (p :: l) ((i + 1 : Nat) : Int) else 0) = (Sm j fun i => if (i + 1) ∣ j then WP l ((i + 1 : Nat) : Int) else 0) + Sm j fun i => if i + 1 = p.1.toNat then (if p.1.toNat ∣ j then p.2 else 0) else 0 := by
      rw [← sm_add]
      refine sm_congr fun i _ => ?_
      rw [wp_cons]
      by_cases z : i + 1 = p.1.toNat
      · have zp : p.1 = ((i + 1 : Nat) : Int) := by omega
        rw [if_pos z, if_pos zp, ← zp, wp_none hn.1, ← z]
        split
        · exact (Int.zero_add _).symm
        · rfl
      · have zp : ¬ p.1 = ((i + 1 : Nat) : Int) := by omega
        rw [if_neg z, if_neg zp, Int.add_zero]
    rw [e]
    have e2 : (Sm j fun i => if i + 1 = p.1.toNat then (if p.1.toNat ∣ j then p.2 else 0) else 0) = if p.1 ∣ (j : Int) then p.2 else 0 := by
      have hd : p.1 ∣ (j : Int) ↔ p.1.toNat ∣ j := by
        rw [show p.1 = ((p.1.toNat : Nat) : Int) by omega, Int.natCast_dvd_natCast]
        rfl
      by_cases z : p.1.toNat ≤ j
      · rw [sm_more (k := p.1.toNat) z fun i h2 _ => by rw [if_neg (by omega)]]
        rw [show p.1.toNat = (p.1.toNat - 1) + 1 by omega, sm_succ, sm_zero' fun i hi => by rw [if_neg (by omega)], if_pos (by omega), show p.1.toNat - 1 + 1 = p.1.toNat by omega]
        by_cases w : p.1.toNat ∣ j
        · rw [if_pos w, if_pos (hd.mpr w)]; omega
        · rw [if_neg w, if_neg fun q => w (hd.mp q)]; omega
      · rw [sm_zero' fun i hi => by rw [if_neg (by omega)], if_neg fun q => z (Nat.le_of_dvd hj (hd.mp q))]
    rw [e2]
    omega
theorem fp_abs {l : List (Int × Int)} {E : Nat} (h : ∀ p ∈ l, p.2.natAbs ≤ E) (j : Nat) : (FP l j).natAbs ≤ l.length * E := by
  induction l with
  | nil => exact Nat.zero_le _
  | cons p l ih =>
    have a := h p List.mem_cons_self
    have b := ih fun q hq => h q (List.mem_cons_of_mem _ hq)
    rw [fp_cons, List.length_cons, Nat.succ_mul]
    split <;> omega
theorem fp_often (l : List (Int × Int)) (e : Int) (j : Nat) : FP (l.map fun p => (p.1, p.2 * e)) j = e * FP l j := by
  induction l with
  | nil => simp [FP]
  | cons p l ih =>
    rw [List.map_cons, fp_cons, fp_cons, ih, Int.mul_add]
    dsimp only
    split
    · rw [Int.mul_comm e p.2]
    · rw [Int.mul_zero]
theorem fp_at (l : List (Int × Int)) {d : Nat} (hd : 0 < d) (j : Nat) : FP (l.map fun p => (p.1 * (d : Int), p.2)) j = atF d (FP l) j ∨ ¬ d ∣ j := by
  by_cases z : d ∣ j
  · left
    unfold atF
    rw [if_pos z]
    obtain ⟨t, rfl⟩ := z
    rw [Nat.mul_div_cancel_left _ hd]
    induction l with
    | nil => rfl
    | cons p l ih =>
      rw [List.map_cons, fp_cons, fp_cons, ih]
      dsimp only
      have : p.1 * (d : Int) ∣ ((d * t : Nat) : Int) ↔ p.1 ∣ (t : Int) := by
        rw [Int.natCast_mul, Int.mul_comm (d : Int)]
        exact Int.mul_dvd_mul_iff_right (by omega)
      by_cases w : p.1 ∣ (t : Int)
      · rw [if_pos w, if_pos (this.mpr w)]
      · rw [if_neg w, if_neg fun q => w (this.mp q)]
  · exact .inr z
theorem fp_at' (l : List (Int × Int)) {d : Nat} (hd : 0 < d) (j : Nat) : FP (l.map fun p => (p.1 * (d : Int), p.2)) j = atF d (FP l) j := by
  rcases fp_at l hd j with h | h
  · exact h
  · unfold atF
    rw [if_neg h]
    induction l with
    | nil => rfl
    | cons p l ih =>
      rw [List.map_cons, fp_cons, ih, if_neg]
      · rfl
      · rintro ⟨t, ht⟩
        refine h ?_
        have : (d : Int) ∣ (j : Int) := ⟨p.1 * t, by rw [ht]; dsimp only; ac_rfl⟩
        exact Int.natCast_dvd_natCast.mp this
mutual
def okE : D → Bool
  | .non => true
  | .bl _ => true
  | .int _ => true
  | .str x => PySem.PyData.strOk x
  | .lst l => okEs l
  | .tup l => okEs l
  | .scr _ => false
  | .dct _ => false
  | .ty _ => false
  | .hid => false
def okEs : List D → Bool
  | [] => true
  | d :: ds => okE d && okEs ds
end
open PySem in
mutual
theorem okE_p : ∀ d : D, okE d = true → isP d = true ∧ (toP d).canLay0 = true ∧ (toP d).depth = dpD d ∧ PyData.eqv (toP d) (toP d) = true
  | .non, _ => ⟨rfl, rfl, rfl, rfl⟩
  | .bl b, _ => ⟨rfl, rfl, rfl, by simp [toP, PyData.eqv]⟩
  | .int i, h => ⟨rfl, rfl, rfl, by simp [toP, PyData.eqv]⟩
  | .str x, h => ⟨rfl, h, rfl, by simp [toP, PyData.eqv]⟩
  | .lst l, h => by
    obtain ⟨h1, h3, h6, h7⟩ := okEs_p l (by simpa [okE] using h)
    exact ⟨h1, h3, congrArg (· + 1) h6, by simpa [toP, PyData.eqv] using h7⟩
  | .tup l, h => by
    obtain ⟨h1, h3, h6, h7⟩ := okEs_p l (by simpa [okE] using h)
    exact ⟨h1, h3, congrArg (· + 1) h6, by simpa [toP, PyData.eqv] using h7⟩
theorem okEs_p : ∀ l : List D, okEs l = true → isPs l = true ∧ PyData.canLayAll0 (toPs l) = true ∧ PyData.depthAll (toPs l) = dpDs l ∧ PyData.eqvAll (toPs l) (toPs l) = true
  | [], _ => ⟨rfl, rfl, rfl, rfl⟩
  | d :: l, h => by
    have h : okE d = true ∧ okEs l = true := by simpa [okEs] using h
    obtain ⟨a1, a3, a6, a7⟩ := okE_p d h.1
    obtain ⟨h1, h3, h6, h7⟩ := okEs_p l h.2
    exact ⟨by simp [isPs, a1, h1], by simp [toPs, PyData.canLayAll0, a3, h3], by simp [toPs, PyData.depthAll, dpDs, a6, h6], by simp [toPs, PyData.eqvAll, a7, h7]⟩
end
theorem eqO_reflE {d : D} (h : okE d = true) (hd : dpD d ≤ 60) : eqO d d = some true := by
  obtain ⟨a1, a3, a6, a7⟩ := okE_p d h
  have hs : shp d = true := by
    unfold shp PySem.SeqAt.shaped
    rw [a1, a3, a6]
    simp
    omega
  unfold eqO gEq
  cases d <;> first | rfl | (dsimp only; simp only [decide_true]; done) | (dsimp only; rw [hs]; simp [eqD, a7])
theorem okEs_map {α : Type} {m : α → D} : ∀ {l : List α}, (∀ x ∈ l, okE (m x) = true) → okEs (l.map m) = true
  | [], _ => rfl
  | x :: l, h => by
    show (okE (m x) && okEs (l.map m)) = true
    rw [h x List.mem_cons_self, okEs_map fun y hy => h y (List.mem_cons_of_mem _ hy)]
    rfl
theorem eqO_ints (l : List Int) : eqO (eL D.int l) (eL D.int l) = some true :=
  eqO_reflE (okEs_map fun _ _ => rfl) (by
    show dpDs (l.map D.int) + 1 ≤ 60
    have := dpDs_map (m := D.int) (n := 0) (l := l) fun _ _ => Nat.le_refl _
    omega)
end L2.Py
set_option maxRecDepth 10000
namespace L2.Py
theorem bz_neg1 (k : Nat) : bZ (-1) k = 1 := by
  have h : bZ (-1) k = bN 1 k := rfl
  rw [h]
  clear h
  induction k with
  | zero => simp [bN]
  | succ k ih => simp [bN, ih]
theorem bz_one (k : Nat) : bZ 1 k = if k = 0 then 1 else if k = 1 then -1 else 0 := by
  have h : bZ 1 k = bP 1 k := rfl
  rw [h]
  match k with
  | 0 => simp [bP]
  | 1 => simp [bP]
  | k + 2 => simp [bP]
theorem wish_conv (p : Nat) (hp : 0 < p) (f : Nat → Int) (n : Nat) : conv (Fac p (-1)) f n = Sm (n / p + 1) fun j => f (n - p * j) := by
  rw [fac_conv p hp]
  exact sm_congr fun j _ => by rw [bz_neg1, Int.one_mul]
theorem wish_step (p : Nat) (hp : 0 < p) (f : Nat → Int) (n : Nat) : conv (Fac p (-1)) f n = f n + if p ≤ n then conv (Fac p (-1)) f (n - p) else 0 := by
  rw [wish_conv p hp, sm_front, Nat.mul_zero, Nat.sub_zero]
  congr 1
  by_cases z : p ≤ n
  · have e : n / p = (n - p) / p + 1 := by rw [← Nat.add_div_right _ hp, Nat.sub_add_cancel z]
    rw [if_pos z, wish_conv p hp, e]
    refine sm_congr fun j hj => ?_
    rw [Nat.mul_add, Nat.mul_one, Nat.sub_sub, Nat.add_comm]
  · rw [if_neg z, Nat.div_eq_of_lt (by omega)]
    rfl
theorem fac1_conv (q : Nat) (hq : 0 < q) (f : Nat → Int) (n : Nat) : conv (Fac q 1) f n = f n - if q ≤ n then f (n - q) else 0 := by
  rw [fac_conv q hq]
  by_cases z : q ≤ n
  · have h1 : 1 ≤ n / q := (Nat.le_div_iff_mul_le hq).mpr (by omega)
    rw [if_pos z, sm_more (k := 2) (by omega)]
    · show Sm 2 _ = _
      rw [sm_succ, sm_succ, sm_zero, bz_one, bz_one, if_pos rfl, if_neg (by omega), if_pos rfl, Nat.mul_zero, Nat.mul_one, Nat.sub_zero]
      omega
    · intro i h2 h3
      rw [bz_one, if_neg (by omega), if_neg (by omega), Int.zero_mul]
  · rw [if_neg z, Nat.div_eq_of_lt (by omega), sm_succ, sm_zero, bz_one, if_pos rfl, Nat.mul_zero, Nat.sub_zero]
    omega
theorem most_conv (p m : Nat) (hp : 0 < p) (f : Nat → Int) (n : Nat) : conv (Fac (p * (m + 1)) 1) (conv (Fac p (-1)) f) n = Sm (min (n / p) m + 1) fun j => f (n - p * j) := by
  have hq : 0 < p * (m + 1) := Nat.mul_pos hp (by omega)
  rw [fac1_conv _ hq, wish_conv p hp]
  by_cases z : p * (m + 1) ≤ n
  · have h1 : m + 1 ≤ n / p := (Nat.le_div_iff_mul_le hp).mpr (by rw [Nat.mul_comm]; exact z)
    rw [if_pos z, wish_conv p hp, show min (n / p) m = m by omega]
    have h2 : (n - p * (m + 1)) / p = n / p - (m + 1) := Nat.sub_mul_div _ _ _
    rw [h2]
    have h3 : ∀ a b : Nat, Sm (a + b) (fun j => f (n - p * j)) = Sm a (fun j => f (n - p * j)) + Sm b fun j => f (n - p * (a + j)) := fun a b => by
      induction b with
      | zero => rw [Nat.add_zero, sm_zero]; omega
      | succ b ih => rw [← Nat.add_assoc, sm_succ, ih, sm_succ]; omega
    have h4 : n / p + 1 = (m + 1) + (n / p - (m + 1) + 1) := by omega
    rw [h4, h3]
    have h5 : (Sm (n / p - (m + 1) + 1) fun j => f (n - p * (m + 1 + j))) = Sm (n / p - (m + 1) + 1) fun j => f (n - p * (m + 1) - p * j) := sm_congr fun j _ => by
      rw [Nat.mul_add p (m + 1) j, Nat.sub_sub]
    rw [h5]
    omega
  · have h1 : n / p < m + 1 := (Nat.div_lt_iff_lt_mul hp).mpr (by rw [Nat.mul_comm]; omega)
    rw [if_neg z, show min (n / p) m = n / p by omega]
    omega
abbrev KR := List (Int × Int)
def krow (M : Nat) (rows : KR) (n : Nat) : Int × Int := rows.getD (n % M) (0, 0)
def KP (M : Nat) (rows : KR) (n : Nat) : Int := 0 - (krow M rows n).1 + Sm 6 fun b => if (b + 2) ∣ n then (if (krow M rows (n / (b + 2))).2 = (b : Int) + 1 then (krow M rows (n / (b + 2))).1 else 0) else 0
def partF (p : Nat) (most : Int) : List (Nat × Int) := if most = 0 then [(p, -1)] else [(p * (most.toNat + 1), 1), (p, -1)]
def colF (p : Nat) (c most : Int) : List (Nat × Int) := (List.replicate c.toNat (partF p most)).flatten
def kindF (M : Nat) (rows : KR) (N : Nat) : List (Nat × Int) := (List.range N).flatMap fun i => colF (i + 1) (krow M rows (i + 1)).1 (krow M rows (i + 1)).2
theorem lrow_colF (p : Nat) (c most : Int) (hc : 0 ≤ c) (k : Nat) : LRow (colF p c most) k = c * LRow (partF p most) k := by
  unfold colF
  obtain ⟨n, rfl⟩ := Int.eq_ofNat_of_zero_le hc
  show LRow ((List.replicate n (partF p most)).flatten) k = _
  induction n with
  | zero => show (0 : Int) = (0 : Int) * _; rw [Int.zero_mul]
  | succ n ih =>
    rw [List.replicate_succ, List.flatten_cons, lrow_app, ih (by omega)]
    rw [show ((n + 1 : Nat) : Int) = (n : Int) + 1 by omega, Int.add_mul]
    omega
theorem lrow_partF (p : Nat) (most : Int) (k : Nat) (hk : 0 < k) : LRow (partF p most) k = (if p ∣ k then (p : Int) else 0) - if most ≠ 0 ∧ p * (most.toNat + 1) ∣ k then ((p * (most.toNat + 1) : Nat) : Int) else 0 := by
  have h : ∀ q : Nat, ∀ e : Int, LFac q e k = if q ∣ k then -((q : Int) * e) else 0 := fun q e => by
    unfold LFac
    by_cases z : q ∣ k
    · rw [if_pos ⟨Nat.mod_eq_zero_of_dvd z, hk⟩, if_pos z]
    · rw [if_neg fun w => z (Nat.dvd_of_mod_eq_zero w.1), if_neg z]
  unfold partF
  by_cases z : most = 0
  · rw [if_pos z, if_neg (show ¬ (most ≠ 0 ∧ p * (most.toNat + 1) ∣ k) from fun w => w.1 z)]
    show LFac p (-1) k + 0 = _
    rw [h]
    split <;> omega
  · rw [if_neg z]
    show LFac (p * (most.toNat + 1)) 1 k + (LFac p (-1) k + 0) = _
    rw [h, h]
    by_cases w : p * (most.toNat + 1) ∣ k
    · rw [if_pos w, if_pos (show most ≠ 0 ∧ p * (most.toNat + 1) ∣ k from ⟨z, w⟩), Int.mul_one]
      split <;> omega
    · rw [if_neg w, if_neg (show ¬ (most ≠ 0 ∧ p * (most.toNat + 1) ∣ k) from fun q => w q.2)]
      split <;> omega
theorem lrow_flat (g : Nat → List (Nat × Int)) (k : Nat) : ∀ n : Nat, LRow ((List.range n).flatMap g) k = Sm n fun i => LRow (g i) k
  | 0 => rfl
  | n + 1 => by
    rw [List.range_succ, List.flatMap_append, lrow_app, lrow_flat g k n, sm_succ]
    simp
structure okK (M : Nat) (rows : KR) : Prop where
  pos : 0 < M
  col : ∀ n, 0 ≤ (krow M rows n).1
  mo : ∀ n, 0 ≤ (krow M rows n).2 ∧ (krow M rows n).2 ≤ 6
theorem sm_swap (n m : Nat) (F : Nat → Nat → Int) : (Sm n fun i => Sm m fun j => F i j) = Sm m fun j => Sm n fun i => F i j := by
  induction n with
  | zero => rw [sm_zero]; exact (sm_zero' fun _ _ => rfl).symm
  | succ n ih =>
    rw [sm_succ, ih, ← sm_add]
    exact sm_congr fun j _ => (sm_succ n _).symm
theorem sm_pick {n k : Nat} (hk : k < n) (f : Nat → Int) : (Sm n fun i => if i = k then f i else 0) = f k := by
  rw [sm_more (k := k + 1) (by omega) fun i h1 _ => by rw [if_neg (by omega)], sm_succ, sm_zero' fun i hi => by rw [if_neg (by omega)], if_pos rfl]
  omega
theorem kp_sum {M : Nat} {rows : KR} (h : okK M rows) {N k : Nat} (hk : k < N) : LRow (kindF M rows (N - 1)) k = LF (KP M rows) k := by
  by_cases k0 : k = 0
  · subst k0
    rw [lrow_zero, lf_zero]
  have kp : 0 < k := by omega
  unfold kindF
  rw [lrow_flat]
  have e1 : (Sm (N - 1) fun i => LRow (colF (i + 1) (krow M rows (i + 1)).1 (krow M rows (i + 1)).2) k) = (Sm k fun i => if (i + 1) ∣ k then ((i : Int) + 1) * (krow M rows (i + 1)).1 else 0) - Sm k fun i => if (krow M rows (i + 1)).2 ≠ 0 ∧ (i + 1) * ((krow M rows (i + 1)).2.toNat + 1) ∣ k then (((i + 1) * ((krow M rows (i + 1)).2.toNat + 1) : Nat) : Int) * (krow M rows (i + 1)).1 else 0 := by
    have e0 : (Sm (N - 1) fun i => LRow (colF (i + 1) (krow M rows (i + 1)).1 (krow M rows (i + 1)).2) k) = Sm (N - 1) fun i => (if (i + 1) ∣ k then ((i : Int) + 1) * (krow M rows (i + 1)).1 else 0) + -1 * if (krow M rows (i + 1)).2 ≠ 0 ∧ (i + 1) * ((krow M rows (i + 1)).2.toNat + 1) ∣ k then (((i + 1) * ((krow M rows (i + 1)).2.toNat + 1) : Nat) : Int) * (krow M rows (i + 1)).1 else 0 := sm_congr fun i _ => by
      rw [lrow_colF _ _ _ (h.col _), lrow_partF _ _ _ kp, Int.mul_sub]
      have c1 : (krow M rows (i + 1)).1 * (if (i + 1) ∣ k then ((i + 1 : Nat) : Int) else 0) = if (i + 1) ∣ k then ((i : Int) + 1) * (krow M rows (i + 1)).1 else 0 := by
        split
        · rw [Int.mul_comm]; rfl
        · rw [Int.mul_zero]
      have c2 : (krow M rows (i + 1)).1 * (if (krow M rows (i + 1)).2 ≠ 0 ∧ (i + 1) * ((krow M rows (i + 1)).2.toNat + 1) ∣ k then (((i + 1) * ((krow M rows (i + 1)).2.toNat + 1) : Nat) : Int) else 0) = if (krow M rows (i + 1)).2 ≠ 0 ∧ (i + 1) * ((krow M rows (i + 1)).2.toNat + 1) ∣ k then (((i + 1) * ((krow M rows (i + 1)).2.toNat + 1) : Nat) : Int) * (krow M rows (i + 1)).1 else 0 := by
        split
        · rw [Int.mul_comm]
        · rw [Int.mul_zero]
      rw [c1, c2]
      omega
    rw [e0, sm_add, sm_mul]
    have far : ∀ i, k ≤ i → ¬ (i + 1) ∣ k := fun i hi w => by have := Nat.le_of_dvd kp w; omega
    rw [sm_more (k := k) (by omega) fun i h1 _ => by rw [if_neg (far i h1)]]
    rw [sm_more (k := k) (n := N - 1) (f := fun i => if (krow M rows (i + 1)).2 ≠ 0 ∧ (i + 1) * ((krow M rows (i + 1)).2.toNat + 1) ∣ k then (((i + 1) * ((krow M rows (i + 1)).2.toNat + 1) : Nat) : Int) * (krow M rows (i + 1)).1 else 0) (by omega) fun i h1 _ => by
      rw [if_neg]
      rintro ⟨_, w⟩
      exact far i h1 (Nat.dvd_trans (Nat.dvd_mul_right _ _) w)]
    omega
  rw [e1]
  unfold LF KP
  have e2 : (Sm k fun j => if (j + 1) ∣ k then ((j : Int) + 1) * (0 - (krow M rows (j + 1)).1 + Sm 6 fun b => if (b + 2) ∣ (j + 1) then (if (krow M rows ((j + 1) / (b + 2))).2 = (b : Int) + 1 then (krow M rows ((j + 1) / (b + 2))).1 else 0) else 0) else 0)
      = -(Sm k fun i => if (i + 1) ∣ k then ((i : Int) + 1) * (krow M rows (i + 1)).1 else 0) + Sm k fun j => Sm 6 fun b => if (j + 1) ∣ k ∧ (b + 2) ∣ (j + 1) ∧ (krow M rows ((j + 1) / (b + 2))).2 = (b : Int) + 1 then ((j : Int) + 1) * (krow M rows ((j + 1) / (b + 2))).1 else 0 := by
    have : -(Sm k fun i => if (i + 1) ∣ k then ((i : Int) + 1) * (krow M rows (i + 1)).1 else 0) = Sm k fun i => -1 * if (i + 1) ∣ k then ((i : Int) + 1) * (krow M rows (i + 1)).1 else 0 := by rw [sm_mul]; omega
    rw [this, ← sm_add]
    refine sm_congr fun j _ => ?_
    by_cases z : (j + 1) ∣ k
    · rw [if_pos z, if_pos z, Int.mul_add]
      congr 1
      · rw [Int.zero_sub, Int.mul_neg]; omega
      · rw [← sm_mul]
        refine sm_congr fun b _ => ?_
        by_cases w : (b + 2) ∣ (j + 1)
        · rw [if_pos w]
          by_cases v : (krow M rows ((j + 1) / (b + 2))).2 = (b : Int) + 1
          · rw [if_pos v, if_pos ⟨z, w, v⟩]
          · rw [if_neg v, if_neg fun q => v q.2.2, Int.mul_zero]
        · rw [if_neg w, if_neg fun q => w q.2.1, Int.mul_zero]
    · rw [if_neg z, if_neg z, sm_zero' fun b _ => by rw [if_neg fun q => z q.1]]
      omega
  rw [e2, sm_swap]
  have e3 : ∀ b, b < 6 → (Sm k fun j => if (j + 1) ∣ k ∧ (b + 2) ∣ (j + 1) ∧ (krow M rows ((j + 1) / (b + 2))).2 = (b : Int) + 1 then ((j : Int) + 1) * (krow M rows ((j + 1) / (b + 2))).1 else 0)
      = Sm k fun i => if (krow M rows (i + 1)).2 = (b : Int) + 1 ∧ (i + 1) * (b + 2) ∣ k then (((i + 1) * (b + 2) : Nat) : Int) * (krow M rows (i + 1)).1 else 0 := fun b _ => by
    by_cases z : (b + 2) ∣ k
    · obtain ⟨m, rfl⟩ := z
      have mp : 0 < m := Nat.pos_of_mul_pos_left kp |> fun _ => by
        rcases Nat.eq_zero_or_pos m with q | q
        · rw [q, Nat.mul_zero] at kp; omega
        · exact q
      have := sm_dvd (b + 2) (by omega) m (fun t => if (krow M rows t).2 = (b : Int) + 1 ∧ t * (b + 2) ∣ (b + 2) * m then ((t * (b + 2) : Nat) : Int) * (krow M rows t).1 else 0)
      have mle : m ≤ (b + 2) * m := Nat.le_mul_of_pos_left _ (by omega)
      rw [sm_more (k := m) (f := fun i => if (krow M rows (i + 1)).2 = (b : Int) + 1 ∧ (i + 1) * (b + 2) ∣ (b + 2) * m then (((i + 1) * (b + 2) : Nat) : Int) * (krow M rows (i + 1)).1 else 0) mle fun i h1 _ => by
        rw [if_neg]
        rintro ⟨_, w⟩
        rw [Nat.mul_comm (b + 2) m] at w
        have := Nat.dvd_of_mul_dvd_mul_right (by omega) w
        have := Nat.le_of_dvd mp this
        omega]
      rw [← this]
      refine sm_congr fun j _ => ?_
      by_cases w : (b + 2) ∣ (j + 1)
      · obtain ⟨t, ht⟩ := w
        have e : (j + 1) / (b + 2) = t := by rw [ht, Nat.mul_div_cancel_left _ (by omega)]
        rw [if_pos (show (b + 2) ∣ (j + 1) from ⟨t, ht⟩), e]
        have e' : t * (b + 2) = j + 1 := by rw [ht, Nat.mul_comm]
        rw [e']
        by_cases v : (krow M rows t).2 = (b : Int) + 1 ∧ j + 1 ∣ (b + 2) * m
        · rw [if_pos v, if_pos ⟨v.2, ⟨t, ht⟩, v.1⟩]
          rfl
        · rw [if_neg v, if_neg fun q => v ⟨q.2.2, q.1⟩]
      · rw [if_neg w, if_neg fun q => w q.2.1]
    · rw [sm_zero' fun j _ => by
        rw [if_neg]
        rintro ⟨q1, q2, _⟩
        exact z (Nat.dvd_trans q2 q1)]
      rw [sm_zero' fun i _ => by
        rw [if_neg]
        rintro ⟨_, q⟩
        exact z (Nat.dvd_trans (Nat.dvd_mul_left _ _) q)]
  rw [sm_congr e3, ← sm_swap]
  have e4 : (Sm k fun i => Sm 6 fun b => if (krow M rows (i + 1)).2 = (b : Int) + 1 ∧ (i + 1) * (b + 2) ∣ k then (((i + 1) * (b + 2) : Nat) : Int) * (krow M rows (i + 1)).1 else 0) = Sm k fun i => if (krow M rows (i + 1)).2 ≠ 0 ∧ (i + 1) * ((krow M rows (i + 1)).2.toNat + 1) ∣ k then (((i + 1) * ((krow M rows (i + 1)).2.toNat + 1) : Nat) : Int) * (krow M rows (i + 1)).1 else 0 := sm_congr fun i _ => by
    have hm := h.mo (i + 1)
    by_cases z : (krow M rows (i + 1)).2 = 0
    · rw [if_neg fun q => q.1 z]
      exact sm_zero' fun b _ => by
        rw [if_neg]
        rintro ⟨q, _⟩
        omega
    · have : (Sm 6 fun b => if (krow M rows (i + 1)).2 = (b : Int) + 1 ∧ (i + 1) * (b + 2) ∣ k then (((i + 1) * (b + 2) : Nat) : Int) * (krow M rows (i + 1)).1 else 0) = Sm 6 fun b => if b = (krow M rows (i + 1)).2.toNat - 1 then (if (i + 1) * (b + 2) ∣ k then (((i + 1) * (b + 2) : Nat) : Int) * (krow M rows (i + 1)).1 else 0) else 0 := sm_congr fun b _ => by
        by_cases w : b = (krow M rows (i + 1)).2.toNat - 1
        · rw [if_pos w]
          have : (krow M rows (i + 1)).2 = (b : Int) + 1 := by omega
          by_cases v : (i + 1) * (b + 2) ∣ k
          · rw [if_pos v, if_pos ⟨this, v⟩]
          · rw [if_neg v, if_neg fun q => v q.2]
        · rw [if_neg w, if_neg fun q => w (by omega)]
      rw [this, sm_pick (by omega)]
      have e : (krow M rows (i + 1)).2.toNat - 1 + 2 = (krow M rows (i + 1)).2.toNat + 1 := by omega
      rw [e]
      by_cases v : (i + 1) * ((krow M rows (i + 1)).2.toNat + 1) ∣ k
      · rw [if_pos v, if_pos ⟨z, v⟩]
      · rw [if_neg v, if_neg fun q => v q.2]
  rw [e4]
  omega
theorem partF_pos {p : Nat} (hp : 0 < p) (most : Int) : ∀ f ∈ partF p most, 0 < f.1 := by
  unfold partF
  intro f hf
  split at hf
  · cases List.mem_singleton.mp hf; exact hp
  · rcases List.mem_cons.mp hf with rfl | hf
    · exact Nat.mul_pos hp (by omega)
    · cases List.mem_singleton.mp hf; exact hp
theorem colF_mem {p : Nat} {c most : Int} {f : Nat × Int} (h : f ∈ colF p c most) : f ∈ partF p most := by
  unfold colF at h
  obtain ⟨l, h1, h2⟩ := List.mem_flatten.mp h
  rw [(List.mem_replicate.mp h1).2] at h2
  exact h2
theorem kindF_pos {M : Nat} {rows : KR} {N : Nat} : ∀ f ∈ kindF M rows N, 0 < f.1 := by
  intro f hf
  obtain ⟨i, _, h2⟩ := List.mem_flatMap.mp hf
  exact partF_pos (by omega) _ f (colF_mem h2)
theorem prow_kind {M : Nat} {rows : KR} (h : okK M rows) {N n : Nat} (hn : n < N) : PRow (kindF M rows (N - 1)) n = PF (KP M rows) n :=
  prow_fp (N := N) kindF_pos (fun _ hk => kp_sum h hk) hn
theorem prow_rev (fs : List (Nat × Int)) (h : ∀ f ∈ fs, 0 < f.1) (n : Nat) : PRow fs.reverse n = PRow fs n :=
  prow_only h (prow_zero _) (fun m => by
    have := log_prow (fs := fs.reverse) (fun f hf => h f (List.mem_reverse.mp hf)) m
    rw [this]
    exact conv_congr (fun i _ => lrow_rev fs i) fun _ _ => rfl) n
theorem partF_row (p : Nat) (hp : 0 < p) (most : Int) (f : Nat → Int) (n : Nat) : conv (PRow (partF p most)) f n = Sm ((if most = 0 then n / p else min (n / p) most.toNat) + 1) fun j => f (n - p * j) := by
  unfold partF
  by_cases z : most = 0
  · rw [if_pos z, if_pos z]
    have : conv (PRow [(p, -1)]) f n = conv (Fac p (-1)) f n := conv_congr (fun i _ => conv_one (Fac p (-1)) i) fun _ _ => rfl
    rw [this, wish_conv p hp]
  · rw [if_neg z, if_neg z]
    have : conv (PRow [(p * (most.toNat + 1), 1), (p, -1)]) f n = conv (conv (Fac (p * (most.toNat + 1)) 1) (Fac p (-1))) f n := conv_congr (fun i _ => conv_congr (fun _ _ => rfl) fun j _ => conv_one (Fac p (-1)) j) fun _ _ => rfl
    rw [this, conv_assoc, most_conv p most.toNat hp]
end L2.Py
set_option maxRecDepth 10000
namespace L2.Py
open PySem PySem.Spec PyProof.Rows
theorem okSort_of {l : List D} (h1 : isPs l = true) (h2 : ∀ d ∈ l, ∀ e ∈ l, PySem.W.alike (toP d) (toP e) = true) (h3 : ∀ d ∈ l, tupB d = true) (h4 : ∀ d ∈ l, (toP d).depth ≤ 60) : okSort l = true := by
  unfold okSort
  simp only [Bool.and_eq_true, Bool.or_eq_true, List.all_eq_true, decide_eq_true_eq]
  exact ⟨⟨⟨h1, h2⟩, .inl h3⟩, h4⟩
theorem isPs_of : ∀ {l : List D}, (∀ d ∈ l, isP d = true) → isPs l = true
  | [], _ => rfl
  | d :: l, h => by
    show (isP d && isPs l) = true
    rw [h d List.mem_cons_self, isPs_of fun e he => h e (List.mem_cons_of_mem _ he)]
    rfl
theorem okSM_ii (l : List (Int × Int)) : okSM (e2 D.int D.int) l = true := by
  unfold okSM
  rw [Bool.and_eq_true]
  refine ⟨okSort_of (isPs_of fun d hd => ?_) (fun d hd e he => ?_) (fun d hd => ?_) (fun d hd => ?_), List.all_eq_true.mpr fun d hd => ?_⟩
  all_goals obtain ⟨p, -, rfl⟩ := List.mem_map.mp hd
  · rfl
  · obtain ⟨q, -, rfl⟩ := List.mem_map.mp he
    rfl
  · rfl
  · show PyData.depth (.tuple [.int p.1, .int p.2]) ≤ 60
    simp [PyData.depth, PyData.depthAll]
  · rfl
theorem sortM_ii (l : List (Int × Int)) : sortM (e2 D.int D.int) l = l.mergeSort fun p q => decide (p.1 < q.1 ∨ (p.1 = q.1 ∧ p.2 ≤ q.2)) := by
  unfold sortM
  have h := PySem.W.dataLe_ii (β := Int × Int) (fun p => p.1) (fun p => p.2)
  congr 1
theorem wp_perm {l m : List (Int × Int)} (hn : (l.map (·.1)).Nodup) (h : l.Perm m) (s : Int) : WP l s = WP m s := by
  have hm : (m.map (·.1)).Nodup := (h.map _).nodup_iff.mp hn
  by_cases z : s ∈ l.map (·.1)
  · obtain ⟨p, hp, e⟩ := List.mem_map.mp z
    rw [← e, wp_of hn hp, wp_of hm (h.mem_iff.mp hp)]
  · have z2 : s ∉ m.map (·.1) := fun q => z ((h.map _).mem_iff.mpr q)
    rw [wp_none z, wp_none z2]
theorem sorted_canon {d : List (Int × Int)} (hn : (d.map (·.1)).Nodup) (hz : ∀ p ∈ d, p.2 ≠ 0) : sortM (e2 D.int D.int) d = canon d := by
  have hp : (sortM (e2 D.int D.int) d).Perm d := by rw [sortM_ii]; exact List.mergeSort_perm _ _
  have hn' : ((sortM (e2 D.int D.int) d).map (·.1)).Nodup := (hp.map _).nodup_iff.mpr hn
  refine okC_ext ⟨?_, fun p h => hz p (hp.mem_iff.mp h)⟩ (canon_ok hn) fun s => by rw [wp_canon hn, wp_perm hn' hp]
  have h1 : (sortM (e2 D.int D.int) d).Pairwise fun p q => decide (p.1 < q.1 ∨ (p.1 = q.1 ∧ p.2 ≤ q.2)) = true := by
    rw [sortM_ii]
    refine List.pairwise_mergeSort (fun a b c h h' => ?_) (fun a b => ?_) _
    · simp only [decide_eq_true_eq] at *
      omega
    · simp only [Bool.or_eq_true, decide_eq_true_eq]
      omega
  have h2 : (sortM (e2 D.int D.int) d).Pairwise fun p q => p.1 ≠ q.1 := List.pairwise_map.mp hn'
  exact (h1.and h2).imp fun {p q} h => by
    have := h.1
    simp only [decide_eq_true_eq] at this
    have := h.2
    omega
theorem filO_self {d : List (Int × Int)} (hn : (d.map (·.1)).Nodup) (hz : ∀ p ∈ d, p.2 ≠ 0) : filO (fun (x : Int) => (getM d x).bind fun (y : Int) => if (!decide (y = 0)) = true then ((getM d x).bind fun (z : Int) => some (some (x, z))) else some none) (d.map (·.1)) = some d := by
  have h1 := filO_some (f := fun (x : Int) => (getM d x).bind fun (y : Int) => if (!decide (y = 0)) = true then ((getM d x).bind fun (z : Int) => some (some (x, z))) else some none) (q := fun x => !decide (WP d x = 0)) (h := fun x => (x, WP d x)) (l := d.map (·.1)) fun x hx => by
    rw [getM_wp hx]
    dsimp only [Option.bind_some]
    split <;> rfl
  rw [h1]
  congr 1
  have h2 : (d.map (·.1)).filter (fun x => !decide (WP d x = 0)) = d.map (·.1) := List.filter_eq_self.mpr fun x hx => by
    obtain ⟨p, hp, e⟩ := List.mem_map.mp hx
    rw [← e, wp_of hn hp]
    simpa using hz p hp
  rw [h2, List.map_map]
  conv => rhs; rw [← List.map_id d]
  exact List.map_congr_left fun p hp => by
    show (p.1, WP d p.1) = p
    rw [wp_of hn hp]
def SF (l : List (Int × Int)) (f : Int → Int) : Int := (l.map fun p => p.2 * f p.1).sum
theorem sum_map_add {α : Type} (l : List α) (f g : α → Int) : (l.map fun x => f x + g x).sum = (l.map f).sum + (l.map g).sum := by
  induction l with
  | nil => rfl
  | cons x l ih =>
    simp only [List.map_cons, List.sum_cons, ih]
    omega
theorem sum_map_mul {α : Type} (l : List α) (f : α → Int) (a : Int) : (l.map fun x => a * f x).sum = a * (l.map f).sum := by
  induction l with
  | nil => simp
  | cons x l ih => rw [List.map_cons, List.sum_cons, ih, List.map_cons, List.sum_cons, Int.mul_add]
theorem sum_ind {ks : List Int} (hk : ks.Nodup) {x : Int} (hx : x ∈ ks) (f : Int → Int) : (ks.map fun s => if s = x then f s else 0).sum = f x := by
  induction ks with
  | nil => nomatch hx
  | cons k ks ih =>
    rw [List.nodup_cons] at hk
    rw [List.map_cons, List.sum_cons]
    by_cases z : k = x
    · have : (ks.map fun s => if s = x then f s else 0).sum = 0 := by
        have e : (ks.map fun s => if s = x then f s else 0) = ks.map fun _ => 0 := List.map_congr_left fun s hs => if_neg fun q => hk.1 (by rw [z, ← q]; exact hs)
        rw [e]
        clear e ih hk hx
        induction ks with
        | nil => rfl
        | cons _ _ ih => rw [List.map_cons, List.sum_cons, ih]; rfl
      rw [if_pos z, this, z, Int.add_zero]
    · rw [if_neg z, Int.zero_add]
      exact ih hk.2 ((List.mem_cons.mp hx).resolve_left (Ne.symm z))
theorem sf_ks {ks : List Int} (hk : ks.Nodup) {l : List (Int × Int)} (hn : (l.map (·.1)).Nodup) (hm : ∀ p ∈ l, p.1 ∈ ks) (f : Int → Int) : SF l f = (ks.map fun s => WP l s * f s).sum := by
  induction l with
  | nil =>
    have : (ks.map fun s => WP [] s * f s) = ks.map fun s => 0 * f s := List.map_congr_left fun s _ => rfl
    rw [this, sum_map_mul]
    simp [SF]
  | cons p l ih =>
    rw [List.map_cons, List.nodup_cons] at hn
    have h1 := ih hn.2 fun q hq => hm q (List.mem_cons_of_mem _ hq)
    have h2 : (ks.map fun s => WP (p :: l) s * f s) = ks.map fun s => (if s = p.1 then p.2 * f s else 0) + WP l s * f s := List.map_congr_left fun s _ => by
      rw [wp_cons]
      by_cases z : s = p.1
      · rw [if_pos z.symm, if_pos z, wp_none (by rw [z]; exact hn.1)]; omega
      · rw [if_neg (Ne.symm z), if_neg z]; omega
    rw [h2, sum_map_add, sum_ind hk (hm p List.mem_cons_self) fun s => p.2 * f s, ← h1]
    rfl
theorem sum_perm {l m : List Int} (h : l.Perm m) : l.sum = m.sum := by
  induction h with
  | nil => rfl
  | cons x _ ih => rw [List.sum_cons, List.sum_cons, ih]
  | swap x y l => simp only [List.sum_cons]; omega
  | trans _ _ h1 h2 => exact h1.trans h2
theorem sf_perm {l m : List (Int × Int)} (h : l.Perm m) (f : Int → Int) : SF l f = SF m f := sum_perm (h.map _)
theorem canon_perm {d : List (Int × Int)} (hn : (d.map (·.1)).Nodup) (hz : ∀ p ∈ d, p.2 ≠ 0) : (canon d).Perm d := by
  rw [← sorted_canon hn hz, sortM_ii]
  exact List.mergeSort_perm _ _
theorem sf_canon {d : List (Int × Int)} (hn : (d.map (·.1)).Nodup) (hz : ∀ p ∈ d, p.2 ≠ 0) (f : Int → Int) : SF (canon d) f = SF d f := sf_perm (canon_perm hn hz) f
theorem sf_congr {l : List (Int × Int)} {f g : Int → Int} (h : ∀ p ∈ l, f p.1 = g p.1) : SF l f = SF l g := by
  unfold SF
  congr 1
  exact List.map_congr_left fun p hp => by rw [h p hp]
theorem sf_mul (l : List (Int × Int)) (f : Int → Int) (a : Int) : SF l (fun s => a * f s) = a * SF l f := by
  unfold SF
  rw [← sum_map_mul]
  congr 1
  exact List.map_congr_left fun p _ => by show p.2 * (a * f p.1) = a * (p.2 * f p.1); ac_rfl
theorem sf_often (l : List (Int × Int)) (f : Int → Int) (o : Int) : SF (l.map fun p => (p.1, p.2 * o)) f = o * SF l f := by
  unfold SF
  rw [← sum_map_mul, List.map_map]
  congr 1
  exact List.map_congr_left fun p _ => by show p.2 * o * f p.1 = _; ac_rfl
theorem sf_le {l : List (Int × Int)} {f : Int → Int} {A B : Nat} (h : ∀ p ∈ l, p.2.natAbs ≤ A) (h2 : ∀ p ∈ l, (f p.1).natAbs ≤ B) : (SF l f).natAbs ≤ l.length * (A * B) := by
  have := sum_le (l := l.map fun p => p.2 * f p.1) (B := A * B) fun y hy => by
    obtain ⟨p, hp, rfl⟩ := List.mem_map.mp hy
    exact mul_abs (h p hp) (h2 p hp)
  rwa [List.length_map] at this
theorem sf_keys {l : List (Int × Int)} (hn : (l.map (·.1)).Nodup) (f : Int → Int) : SF l f = ((l.map (·.1)).map fun s => WP l s * f s).sum := by
  unfold SF
  rw [List.map_map]
  congr 1
  exact List.map_congr_left fun p hp => by
    show _ = WP l p.1 * f p.1
    rw [wp_of hn hp]
theorem put_new {α : Type} {l : List (Int × α)} {k : Int} {x : α} (h : k ∉ l.map (·.1)) : putM l k x = l ++ [(k, x)] := by
  unfold putM
  rw [if_neg]
  intro q
  obtain ⟨p, hp, e⟩ := List.any_eq_true.mp q
  exact h (List.mem_map.mpr ⟨p, hp, of_decide_eq_true e⟩)
theorem low_zero {d : Int} (h : 0 < d) : LOW 0 d = (0, 1) := low_self (r := (0, 1)) ⟨by decide, rfl⟩ (by omega) (by show 0 * 1 = 0 * d; omega)
theorem low_add {a D b E k : Int} (hE : 0 < E) (hk : 0 < k) (hD : D = E * k) : LOW ((LOW a D).1 * (LOW b E).2 + (LOW b E).1 * (LOW a D).2) ((LOW a D).2 * (LOW b E).2) = LOW (a + b * k) D := by
  have hD0 : 0 < D := by rw [hD]; exact Int.mul_pos hE hk
  have h1 := low_cross (n := a) (d := D) (by omega)
  have h2 := low_cross (n := b) (d := E) (by omega)
  have r1 := (low_red (n := a) (d := D) (by omega)).1
  have r2 := (low_red (n := b) (d := E) (by omega)).1
  refine low_same (Int.ne_of_gt (Int.mul_pos r1 r2)) (by omega) ?_
  generalize LOW a D = x at *
  generalize LOW b E = y at *
  calc (x.1 * y.2 + y.1 * x.2) * D = (x.1 * D) * y.2 + (y.1 * E) * k * x.2 := by rw [Int.add_mul, hD]; ac_rfl
    _ = (a + b * k) * (x.2 * y.2) := by rw [h1, h2, Int.add_mul]; ac_rfl
theorem low_plus {a b D : Int} (hD : 0 < D) : LOW ((LOW a D).1 * (LOW b D).2 + (LOW b D).1 * (LOW a D).2) ((LOW a D).2 * (LOW b D).2) = LOW (a + b) D := by
  have := low_add (a := a) (b := b) (E := D) (k := 1) (D := D) hD (by decide) (by omega)
  rwa [Int.mul_one] at this
theorem low_scale {a D w : Int} (hD : 0 < D) : LOW ((LOW a D).1 * w) (LOW a D).2 = LOW (a * w) D := by
  have h1 := low_cross (n := a) (d := D) (by omega)
  have r1 := (low_red (n := a) (d := D) (by omega)).1
  refine low_same (by omega) (by omega) ?_
  generalize LOW a D = x at *
  calc x.1 * w * D = (x.1 * D) * w := by ac_rfl
    _ = a * w * x.2 := by rw [h1]; ac_rfl
theorem low_sign {a D : Int} (hD : 0 < D) : 0 ≤ (LOW a D).1 ↔ 0 ≤ a := by
  have h1 := low_cross (n := a) (d := D) (by omega)
  have r1 := (low_red (n := a) (d := D) (by omega)).1
  generalize LOW a D = x at *
  constructor
  · intro h
    have : 0 ≤ a * x.2 := by rw [← h1]; exact Int.mul_nonneg h (by omega)
    exact Int.nonneg_of_mul_nonneg_left this r1
  · intro h
    have : 0 ≤ x.1 * D := by rw [h1]; exact Int.mul_nonneg h (by omega)
    exact Int.nonneg_of_mul_nonneg_left this hD
theorem low_pos {a D : Int} (hD : 0 < D) : 0 < (LOW a D).1 ↔ 0 < a := by
  have h1 := low_cross (n := a) (d := D) (by omega)
  have r1 := (low_red (n := a) (d := D) (by omega)).1
  generalize LOW a D = x at *
  constructor
  · intro h
    have : 0 < a * x.2 := by rw [← h1]; exact Int.mul_pos h hD
    exact Int.pos_of_mul_pos_left this r1
  · intro h
    have : 0 < x.1 * D := by rw [h1]; exact Int.mul_pos h r1
    exact Int.pos_of_mul_pos_left this hD
end L2.Py
set_option maxRecDepth 10000
namespace L2.Py
open PySem PySem.Spec PyProof.Rows
def GG (a b : Int) : Int := ((Nat.gcd a.natAbs b.natAbs : Nat) : Int)
theorem gg_le (a : Int) {b : Int} (h : 0 < b) : 1 ≤ GG a b ∧ GG a b ≤ b := by
  have h1 : 0 < Nat.gcd a.natAbs b.natAbs := Nat.gcd_pos_of_pos_right _ (by omega)
  have h2 : Nat.gcd a.natAbs b.natAbs ≤ b.natAbs := Nat.gcd_le_right _ (by omega)
  unfold GG
  omega
def DV (n : Int) : List Int := (rngL 1 (n + 1)).filter fun x => decide (n.fmod x = 0)
def WI (n c : Int) : Int := n.fdiv (c * GG c (n.fdiv c))
def BC (n c : Int) : Int := if GG c (n.fdiv c) > 1 then (((rngL 0 (GG c (n.fdiv c))).filter fun x => decide (GG x (GG c (n.fdiv c)) = 1)).length : Int) else 1
def EN (n : Int) : List (Int × Int × Int) := (DV n).map fun c => (c, BC n c, WI n c)
def OT (n c s : Int) : Int := GG c s * GG c s * n.fdiv s
def ORD (l : List (Int × Int)) (n c : Int) : Int × Int := LOW (SF l (OT n c) * WI n c) (24 * n)
theorem dv_mem {n x : Int} : x ∈ DV n ↔ 1 ≤ x ∧ x ≤ n ∧ n.fmod x = 0 := by
  unfold DV
  rw [List.mem_filter, mem_rng, decide_eq_true_eq]
  omega
theorem rngL_nodup (a b : Int) : (rngL a b).Nodup := by
  unfold rngL
  refine List.pairwise_map.mpr (List.nodup_range.imp fun {x y} h => ?_)
  omega
theorem dv_nodup (n : Int) : (DV n).Nodup := (rngL_nodup _ _).filter _
theorem dv_dvd {n x : Int} (h : x ∈ DV n) : ∃ k, n = x * k ∧ 1 ≤ k ∧ n.fdiv x = k := by
  obtain ⟨h1, h2, h3⟩ := dv_mem.mp h
  rw [fmod_pos' _ (by omega)] at h3
  have h4 := Int.mul_ediv_cancel' (Int.dvd_of_emod_eq_zero h3)
  refine ⟨n / x, h4.symm, ?_, fdiv_pos _ (by omega)⟩
  have : 0 < n / x := Int.ediv_pos_of_pos_of_dvd (by omega) (by omega) (Int.dvd_of_emod_eq_zero h3)
  omega
theorem dv_up {n m x : Int} (hm : 0 < m) (h : x ∈ DV n) : x ∈ DV (n * m) := by
  obtain ⟨h1, h2, h3⟩ := dv_mem.mp h
  rw [fmod_pos' _ (by omega)] at h3
  refine dv_mem.mpr ⟨h1, ?_, ?_⟩
  · have : n * 1 ≤ n * m := Int.mul_le_mul_of_nonneg_left (by omega) (by omega)
    omega
  · rw [fmod_pos' _ (by omega)]
    exact Int.emod_eq_zero_of_dvd (Int.dvd_trans (Int.dvd_of_emod_eq_zero h3) (Int.dvd_mul_right _ _))
theorem level {P : Int → Bool} (k : Nat) (h : ((List.range k).all fun i => P ((i : Nat) + 1 : Int)) = true) {n : Int} (h1 : 1 ≤ n) (h2 : n ≤ k) : P n = true := by
  have := List.all_eq_true.mp h (n - 1).toNat (List.mem_range.mpr (by omega))
  rwa [show (((n - 1).toNat : Nat) : Int) + 1 = n by omega] at this
theorem wi_all : ((List.range 120).all fun i => (DV ((i : Nat) + 1 : Int)).all fun c => decide (1 ≤ WI ((i : Nat) + 1 : Int) c) && decide (WI ((i : Nat) + 1 : Int) c ≤ ((i : Nat) + 1 : Int))) = true := by decide +kernel
theorem wi_ok {n c : Int} (h1 : 1 ≤ n) (h2 : n ≤ 120) (hc : c ∈ DV n) : 1 ≤ WI n c ∧ WI n c ≤ n := by
  have := level (P := fun n => (DV n).all fun c => decide (1 ≤ WI n c) && decide (WI n c ≤ n)) 120 wi_all h1 h2
  have := List.all_eq_true.mp this c hc
  simpa [Bool.and_eq_true] using this
theorem len_all : ((List.range 36).all fun i => decide ((DV ((i : Nat) + 1 : Int)).length ≤ 9)) = true := by decide +kernel
theorem dv_len {n : Int} (h1 : 1 ≤ n) (h2 : n ≤ 36) : (DV n).length ≤ 9 := of_decide_eq_true (level (P := fun n => decide ((DV n).length ≤ 9)) 36 len_all h1 h2)
theorem dvl_all : ((List.range 120).all fun i => decide ((DV ((i : Nat) + 1 : Int)).length ≤ 16 ∧ DV ((i : Nat) + 1 : Int) ≠ [])) = true := by decide +kernel
theorem dv_len2 {n : Int} (h1 : 1 ≤ n) (h2 : n ≤ 120) : (DV n).length ≤ 16 ∧ DV n ≠ [] := of_decide_eq_true (level (P := fun n => decide ((DV n).length ≤ 16 ∧ DV n ≠ [])) 120 dvl_all h1 h2)
theorem turn_all : ((List.range 36).all fun i => (DV ((i : Nat) + 1 : Int)).all fun c => (DV ((i : Nat) + 1 : Int)).all fun s => decide (OT ((i : Nat) + 1 : Int) c (Int.fdiv ((i : Nat) + 1 : Int) s) * WI ((i : Nat) + 1 : Int) c = OT ((i : Nat) + 1 : Int) (Int.fdiv ((i : Nat) + 1 : Int) c) s * WI ((i : Nat) + 1 : Int) (Int.fdiv ((i : Nat) + 1 : Int) c))) = true := by decide +kernel
theorem turn {n c s : Int} (h1 : 1 ≤ n) (h2 : n ≤ 36) (hc : c ∈ DV n) (hs : s ∈ DV n) : OT n c (n.fdiv s) * WI n c = OT n (n.fdiv c) s * WI n (n.fdiv c) := by
  have := level (P := fun n => (DV n).all fun c => (DV n).all fun s => decide (OT n c (n.fdiv s) * WI n c = OT n (n.fdiv c) s * WI n (n.fdiv c))) 36 turn_all h1 h2
  exact of_decide_eq_true (List.all_eq_true.mp (List.all_eq_true.mp this c hc) s hs)
theorem dv_turn {n c : Int} (hc : c ∈ DV n) : n.fdiv c ∈ DV n ∧ n.fdiv (n.fdiv c) = c := by
  obtain ⟨k, h1, h2, h3⟩ := dv_dvd hc
  have h4 := (dv_mem.mp hc).1
  rw [h3]
  have h5 : k * c = n := by rw [h1]; exact Int.mul_comm _ _
  refine ⟨dv_mem.mpr ⟨h2, ?_, ?_⟩, ?_⟩
  · have : k * 1 ≤ k * c := Int.mul_le_mul_of_nonneg_left (by omega) (by omega)
    omega
  · rw [fmod_pos' _ (by omega), ← h5]
    exact Int.mul_emod_right _ _
  · rw [fdiv_pos _ (by omega), ← h5]
    exact Int.mul_ediv_cancel_left _ (by omega)
theorem ot_le {n c s : Int} (h2 : n ≤ 120) (hc : 1 ≤ c ∧ c ≤ 120) (hs : s ∈ DV n) : (OT n c s).natAbs ≤ 1728000 ∧ 1 ≤ GG c s ∧ GG c s ≤ 120 := by
  obtain ⟨k, h3, h4, h5⟩ := dv_dvd hs
  obtain ⟨h6, h7, -⟩ := dv_mem.mp hs
  have h8 := gg_le c (b := s) (by omega)
  have h9 : (n.fdiv s).natAbs ≤ 120 := Nat.le_trans (fdiv_abs (by omega)) (by omega)
  exact ⟨mul_abs (mul_abs (A := 120) (B := 120) (by omega) (by omega)) h9, by omega, by omega⟩
structure okT (n : Int) (d : List (Int × Int)) : Prop where
  nod : (d.map (·.1)).Nodup
  nz : ∀ p ∈ d, p.2 ≠ 0
  st : ∀ p ∈ d, p.1 ∈ DV n
  pw : ∀ p ∈ d, p.2.natAbs ≤ 60
  len : d.length ≤ 12
structure okF (n : Int) (d : List (Int × Int)) : Prop where
  w : (SF d fun _ => 1).fmod 2 = 0
  s : (SF d fun s => s).fmod 24 = 0
  t : (SF d fun s => n.fdiv s).fmod 24 = 0
theorem okT.canon {n : Int} {d : List (Int × Int)} (h : okT n d) : okT n (canon d) := by
  have hp := canon_perm h.nod h.nz
  exact ⟨(hp.map _).nodup_iff.mpr h.nod, fun p q => h.nz p (hp.mem_iff.mp q), fun p q => h.st p (hp.mem_iff.mp q), fun p q => h.pw p (hp.mem_iff.mp q), by rw [hp.length_eq]; exact h.len⟩
theorem okT.up {n m : Int} {d : List (Int × Int)} (h : okT n d) (hm : 0 < m) : okT (n * m) d := ⟨h.nod, h.nz, fun p hp => dv_up hm (h.st p hp), h.pw, h.len⟩
theorem okF.up {n m : Int} {d : List (Int × Int)} (hT : okT n d) (h : okF n d) (hm : 0 < m) : okF (n * m) d := ⟨h.w, h.s, by
  have : SF d (fun s => (n * m).fdiv s) = m * SF d fun s => n.fdiv s := by
    rw [← sf_mul]
    exact sf_congr fun p hp => by
      obtain ⟨k, h1, h2, h3⟩ := dv_dvd (hT.st p hp)
      have h4 := (dv_mem.mp (hT.st p hp)).1
      rw [h3, fdiv_pos _ (by omega), h1, Int.mul_assoc, Int.mul_ediv_cancel_left _ (by omega), Int.mul_comm]
  have ht := h.t
  rw [this]
  rw [fmod_pos' _ (by decide)] at ht ⊢
  exact Int.emod_eq_zero_of_dvd (Int.dvd_trans (Int.dvd_of_emod_eq_zero ht) (Int.dvd_mul_left _ _))⟩
theorem okF.canon {n : Int} {d : List (Int × Int)} (hT : okT n d) (h : okF n d) : okF n (canon d) := ⟨by rw [sf_canon hT.nod hT.nz]; exact h.w, by rw [sf_canon hT.nod hT.nz]; exact h.s, by rw [sf_canon hT.nod hT.nz]; exact h.t⟩
theorem ord_canon {n c : Int} {d : List (Int × Int)} (hT : okT n d) : ORD (canon d) n c = ORD d n c := by
  unfold ORD
  rw [sf_canon hT.nod hT.nz]
theorem sf_ot {n c : Int} {d : List (Int × Int)} (hT : okT n d) (h2 : n ≤ 120) (hc : 1 ≤ c ∧ c ≤ 120) : (SF d (OT n c)).natAbs ≤ 2 ^ 40 := by
  have := sf_le hT.pw fun p hp => (ot_le h2 hc (hT.st p hp)).1
  have h3 := hT.len
  refine Nat.le_trans this ?_
  exact Nat.le_trans (Nat.mul_le_mul_right _ h3) (by decide)
theorem low_bound {a D : Int} (hD : 0 < D) {A B : Nat} (h : a.natAbs ≤ A) (h2 : D ≤ B) : (LOW a D).1.natAbs ≤ A ∧ (LOW a D).2.natAbs ≤ B ∧ 0 < (LOW a D).2 := by
  have h3 := low_abs (n := a) (d := D) (by omega)
  exact ⟨Nat.le_trans h3.1 h, by omega, (low_red (by omega)).1⟩
theorem ord_ok {n c : Int} {d : List (Int × Int)} (hT : okT n d) (h1 : 1 ≤ n) (h2 : n ≤ 120) (hc : c ∈ DV n) : (ORD d n c).1.natAbs ≤ 2 ^ 47 ∧ (ORD d n c).2.natAbs ≤ 2880 ∧ 0 < (ORD d n c).2 := by
  have h3 := dv_mem.mp hc
  have h4 := wi_ok h1 h2 hc
  exact low_bound (by omega) (Nat.le_trans (mul_abs (sf_ot hT h2 ⟨h3.1, by omega⟩) (B := 128) (by omega)) (by decide)) (by omega)
theorem okR_pair {x : Int × Int} (h1 : x.1.natAbs < 2 ^ 60) (h2 : x.2.natAbs < 2 ^ 60) : okD (e2 D.int D.int x) = true := by
  show okD (.tup [.int x.1, .int x.2]) = true
  unfold okD okDs
  simp only [okD, okDs, Bool.and_true, Bool.and_eq_true, decide_eq_true_eq]
  first | exact ⟨h1, h2⟩ | (constructor <;> omega) | skip
theorem shp_E {d : D} (h : okE d = true) (hd : dpD d ≤ 60) : shp d = true := by
  obtain ⟨a1, a3, a6, a7⟩ := okE_p d h
  unfold shp PySem.SeqAt.shaped
  rw [a1, a3, a6]
  simp
  omega
theorem eqO_empty (l : List Int) : eqO (eL D.int l) (eL D.int []) = some (decide (l = [])) := by
  cases l with
  | nil => rfl
  | cons x l =>
    have h1 : shp (eL D.int (x :: l)) = true := shp_E (okEs_map (m := D.int) (l := x :: l) fun _ _ => rfl) (by
      show dpDs ((x :: l).map D.int) + 1 ≤ 60
      have := dpDs_map (m := D.int) (n := 0) (l := x :: l) fun _ _ => Nat.le_refl _
      omega)
    have h2 : shp (eL D.int []) = true := rfl
    rw [show decide (x :: l = []) = false by simp]
    unfold eqO
    have : gEq [eL D.int (x :: l), eL D.int []] = some (.im (.bl false)) := by
      show (if shp (eL D.int (x :: l)) && shp (eL D.int []) then some (Tm.im (.bl (eqD (eL D.int (x :: l)) (eL D.int [])))) else none) = _
      rw [h1, h2]
      simp [eqD, eL, toP, toPs, PySem.PyData.eqv, PySem.PyData.eqvAll]
    rw [this]
end L2.Py
set_option maxRecDepth 10000
namespace L2.Py
def addD (d m : List (Int × Int)) : List (Int × Int) := m.foldl (fun d p => putM d p.1 (WP d p.1 + p.2)) d
theorem put_nodup' {l : List (Int × Int)} (h : (l.map (·.1)).Nodup) (k : Int) (x : Int) : ((putM l k x).map (·.1)).Nodup := putM_nodup h k x
theorem addD_nodup : ∀ {m d : List (Int × Int)}, (d.map (·.1)).Nodup → ((addD d m).map (·.1)).Nodup
  | [], _, h => h
  | _ :: m, _, h => addD_nodup (m := m) (put_nodup' h _ _)
theorem addD_len : ∀ {m d : List (Int × Int)}, (addD d m).length ≤ d.length + m.length
  | [], _ => Nat.le_refl _
  | p :: m, d => by
    have h1 := addD_len (m := m) (d := putM d p.1 (WP d p.1 + p.2))
    have h2 := putM_len d p.1 (WP d p.1 + p.2)
    rw [List.length_cons]
    show (addD (putM d p.1 (WP d p.1 + p.2)) m).length ≤ _
    omega
theorem wp_addD : ∀ {m d : List (Int × Int)}, (m.map (·.1)).Nodup → ∀ s, WP (addD d m) s = WP d s + WP m s
  | [], d, _, s => by
    show WP d s = WP d s + 0
    omega
  | p :: m, d, h, s => by
    rw [List.map_cons, List.nodup_cons] at h
    show WP (addD (putM d p.1 (WP d p.1 + p.2)) m) s = _
    rw [wp_addD h.2, wp_put, wp_cons]
    by_cases z : p.1 = s
    · rw [if_pos z.symm, if_pos z, ← z, wp_none h.1]; omega
    · rw [if_neg (Ne.symm z), if_neg z]
theorem addD_keys : ∀ {m d : List (Int × Int)} {s : Int}, s ∈ (addD d m).map (·.1) → s ∈ d.map (·.1) ∨ s ∈ m.map (·.1)
  | [], _, _, h => .inl h
  | p :: m, d, s, h => by
    rcases addD_keys (m := m) h with z | z
    · rcases (putM_mem _ _ _ _).mp z with z | z
      · exact .inl z
      · exact .inr (by rw [z]; exact List.mem_map.mpr ⟨p, List.mem_cons_self, rfl⟩)
    · exact .inr (by rw [List.map_cons]; exact List.mem_cons_of_mem _ z)
def both (l m : List (Int × Int)) : List (Int × Int) := canon (addD l m)
theorem both_ok {l m : List (Int × Int)} (h : okC l) : okC (both l m) := canon_ok (addD_nodup h.nodup)
theorem wp_both {l m : List (Int × Int)} (h : okC l) (h2 : okC m) (s : Int) : WP (both l m) s = WP l s + WP m s := by
  unfold both
  rw [wp_canon (addD_nodup h.nodup), wp_addD h2.nodup]
theorem both_len (l m : List (Int × Int)) : (both l m).length ≤ l.length + m.length := Nat.le_trans (canon_len _) addD_len
theorem both_st {l m : List (Int × Int)} {P : Int → Prop} (h : ∀ p ∈ l, P p.1) (h2 : ∀ p ∈ m, P p.1) : ∀ p ∈ both l m, P p.1 := fun p hp => by
  rcases addD_keys (canon_keys hp).1 with z | z
  · obtain ⟨q, h3, h4⟩ := List.mem_map.mp z
    rw [← h4]; exact h q h3
  · obtain ⟨q, h3, h4⟩ := List.mem_map.mp z
    rw [← h4]; exact h2 q h3
theorem wp_abs {l : List (Int × Int)} {a : Nat} (hn : (l.map (·.1)).Nodup) (h : ∀ p ∈ l, p.2.natAbs ≤ a) (s : Int) : (WP l s).natAbs ≤ a := by
  by_cases z : s ∈ l.map (·.1)
  · obtain ⟨q, h3, h4⟩ := List.mem_map.mp z
    rw [← h4, wp_of hn h3]; exact h q h3
  · rw [wp_none z]; exact Nat.zero_le _
theorem both_pw {l m : List (Int × Int)} {a b : Nat} (hl : okC l) (hm : okC m) (h : ∀ p ∈ l, p.2.natAbs ≤ a) (h2 : ∀ p ∈ m, p.2.natAbs ≤ b) : ∀ p ∈ both l m, p.2.natAbs ≤ a + b := fun p hp => by
  rw [← wp_of (both_ok hl).nodup hp, wp_both hl hm]
  have h3 := wp_abs hl.nodup h p.1
  have h4 := wp_abs hm.nodup h2 p.1
  omega
theorem fp_both {l m : List (Int × Int)} (hl : okC l) (hm : okC m) (h : ∀ p ∈ l, 0 < p.1) (h2 : ∀ p ∈ m, 0 < p.1) {j : Nat} (hj : 0 < j) : FP (both l m) j = FP l j + FP m j := by
  rw [fp_wp (both_ok hl).nodup (both_st h h2) hj, fp_wp hl.nodup h hj, fp_wp hm.nodup h2 hj, ← sm_add]
  refine sm_congr fun i _ => ?_
  rw [wp_both hl hm]
  split <;> omega
theorem both_comm {l m : List (Int × Int)} (hl : okC l) (hm : okC m) : both l m = both m l :=
  okC_ext (both_ok hl) (both_ok hm) fun s => by rw [wp_both hl hm, wp_both hm hl]; omega
def often (l : List (Int × Int)) (e : Int) : List (Int × Int) := if e = 0 then [] else l.map fun p => (p.1, p.2 * e)
def led (l : List (Int × Int)) (d : Int) : List (Int × Int) := l.map fun p => (p.1 * d, p.2)
theorem okC_nil : okC [] := ⟨List.Pairwise.nil, fun _ h => nomatch h⟩
theorem often_ok {l : List (Int × Int)} (h : okC l) (e : Int) : okC (often l e) := by
  unfold often
  split
  · exact okC_nil
  next z =>
    refine ⟨List.pairwise_map.mpr h.up, fun p hp => ?_⟩
    obtain ⟨q, h1, rfl⟩ := List.mem_map.mp hp
    exact Int.mul_ne_zero (h.nz q h1) z
theorem wp_map2 (l : List (Int × Int)) (e s : Int) : WP (l.map fun p => (p.1, p.2 * e)) s = WP l s * e := by
  induction l with
  | nil => exact (Int.zero_mul e).symm
  | cons p l ih =>
    rw [List.map_cons, wp_cons, wp_cons, ih]
    dsimp only
    split <;> rfl
theorem wp_often (l : List (Int × Int)) (e s : Int) : WP (often l e) s = WP l s * e := by
  unfold often
  split
  next z => rw [z, Int.mul_zero]; rfl
  next => exact wp_map2 l e s
theorem fp_oft (l : List (Int × Int)) (e : Int) (j : Nat) : FP (often l e) j = e * FP l j := by
  unfold often
  split
  next z => rw [z, Int.zero_mul]; rfl
  next => exact fp_often l e j
theorem map_nodup {l : List (Int × Int)} (e : Int) (h : (l.map (·.1)).Nodup) : ((l.map fun p => (p.1, p.2 * e)).map (·.1)).Nodup := by
  rw [List.map_map]; exact h
theorem canon_often {l : List (Int × Int)} (h : okC l) (e : Int) : canon (l.map fun p => (p.1, p.2 * e)) = often l e :=
  okC_ext (canon_ok (map_nodup e h.nodup)) (often_ok h e) fun s => by rw [wp_canon (map_nodup e h.nodup), wp_map2, wp_often]
theorem led_ok {l : List (Int × Int)} (h : okC l) {d : Int} (hd : 0 < d) : okC (led l d) := by
  refine ⟨List.pairwise_map.mpr (h.up.imp fun {a b} q => ?_), fun p hp => ?_⟩
  · exact Int.mul_lt_mul_of_pos_right q hd
  · obtain ⟨q, h1, rfl⟩ := List.mem_map.mp hp
    exact h.nz q h1
theorem wp_led {l : List (Int × Int)} {d : Int} (hd : 0 < d) (s : Int) : WP (led l d) s = if d ∣ s then WP l (s / d) else 0 := by
  induction l with
  | nil =>
    show (0 : Int) = if d ∣ s then 0 else 0
    split <;> rfl
  | cons p l ih =>
    show WP ((p.1 * d, p.2) :: led l d) s = _
    rw [wp_cons, wp_cons, ih]
    dsimp only
    by_cases z : p.1 * d = s
    · rw [if_pos z, if_pos ⟨p.1, by rw [← z, Int.mul_comm]⟩, if_pos (by rw [← z, Int.mul_ediv_cancel _ (by omega)])]
    · rw [if_neg z]
      by_cases w : d ∣ s
      · obtain ⟨t, rfl⟩ := w
        rw [if_pos (Int.dvd_mul_right _ _), if_pos (Int.dvd_mul_right _ _), Int.mul_ediv_cancel_left _ (by omega), if_neg fun q => z (by rw [q, Int.mul_comm])]
      · rw [if_neg w, if_neg w]
theorem led_both {l m : List (Int × Int)} (hl : okC l) (hm : okC m) {d : Int} (hd : 0 < d) : led (both l m) d = both (led l d) (led m d) :=
  okC_ext (led_ok (both_ok hl) hd) (both_ok (led_ok hl hd)) fun s => by
    rw [wp_led hd, wp_both (led_ok hl hd) (led_ok hm hd), wp_led hd, wp_led hd]
    split
    · rw [wp_both hl hm]
    · rfl
theorem fp_led (l : List (Int × Int)) {d : Int} (hd : 0 < d) (j : Nat) : FP (led l d) j = atF d.toNat (FP l) j := by
  have := fp_at' l (d := d.toNat) (by omega) j
  rw [show ((d.toNat : Nat) : Int) = d by omega] at this
  exact this
theorem sub_len : ∀ {l s : List Int}, l.Nodup → (∀ x ∈ l, x ∈ s) → l.length ≤ s.length
  | [], _, _, _ => Nat.zero_le _
  | a :: l, s, hn, h => by
    rw [List.nodup_cons] at hn
    have h1 := sub_len (l := l) (s := s.erase a) hn.2 fun x hx => (List.mem_erase_of_ne fun q => hn.1 (by rw [← q]; exact hx)).mpr (h x (List.mem_cons_of_mem _ hx))
    rw [List.length_erase_of_mem (h a List.mem_cons_self)] at h1
    have h2 := List.length_pos_of_mem (h a List.mem_cons_self)
    rw [List.length_cons]
    omega
theorem sf_both {l m : List (Int × Int)} (hl : okC l) (hm : okC m) (f : Int → Int) : SF (both l m) f = SF l f + SF m f := by
  have hk := (sset_up ((both l m).map (·.1) ++ (l.map (·.1) ++ m.map (·.1)))).imp fun {a b} h => Int.ne_of_lt h
  rw [sf_ks hk (both_ok hl).nodup (fun p hp => sset_mem.mpr (List.mem_append_left _ (List.mem_map.mpr ⟨p, hp, rfl⟩))), sf_ks hk hl.nodup (fun p hp => sset_mem.mpr (List.mem_append_right _ (List.mem_append_left _ (List.mem_map.mpr ⟨p, hp, rfl⟩)))), sf_ks hk hm.nodup (fun p hp => sset_mem.mpr (List.mem_append_right _ (List.mem_append_right _ (List.mem_map.mpr ⟨p, hp, rfl⟩)))), ← sum_map_add]
  congr 1
  exact List.map_congr_left fun s _ => by rw [wp_both hl hm, Int.add_mul]
theorem sf_oft {l : List (Int × Int)} (f : Int → Int) {e : Int} (he : e ≠ 0) : SF (often l e) f = e * SF l f := by
  unfold often
  rw [if_neg he]
  exact sf_often l f e
end L2.Py
set_option maxRecDepth 10000
namespace L2.Py
open PySem PySem.Spec PyProof.Rows
def PrimeN (p : Nat) : Prop := 2 ≤ p ∧ ∀ t, 1 ≤ t → t < p → Nat.gcd t p = 1
def NPR (ps : List Nat) (e : Nat → Nat) : Nat := (ps.map fun p => p ^ e p).prod
def FL (ps : List Nat) (e : Nat → Nat) : List (Int × Int) := (ps.filter fun (p : Nat) => decide (0 < e p)).map fun (p : Nat) => (((p : Nat) : Int), ((e p : Nat) : Int))
theorem npr_cons (p : Nat) (ps : List Nat) (e : Nat → Nat) : NPR (p :: ps) e = p ^ e p * NPR ps e := by
  unfold NPR
  rw [List.map_cons, List.prod_cons]
theorem npr_pos {ps : List Nat} {e : Nat → Nat} (h : ∀ p ∈ ps, PrimeN p) : 0 < NPR ps e := by
  induction ps with
  | nil => exact Nat.one_pos
  | cons p ps ih =>
    rw [npr_cons]
    exact Nat.mul_pos (Nat.pow_pos (by have := (h p List.mem_cons_self).1; omega)) (ih fun q hq => h q (List.mem_cons_of_mem _ hq))
theorem npr_cop {ps : List Nat} {e : Nat → Nat} (h : ∀ p ∈ ps, PrimeN p) {t : Nat} (ht : 1 ≤ t) (hlt : ∀ p ∈ ps, t < p) : Nat.Coprime t (NPR ps e) := by
  induction ps with
  | nil => exact Nat.gcd_one_right t
  | cons p ps ih =>
    rw [npr_cons]
    exact Nat.Coprime.mul_right (Nat.Coprime.pow_right _ ((h p List.mem_cons_self).2 t ht (hlt p List.mem_cons_self))) (ih (fun q hq => h q (List.mem_cons_of_mem _ hq)) fun q hq => hlt q (List.mem_cons_of_mem _ hq))
theorem cop_ndvd {t L : Nat} (h : Nat.Coprime t L) (ht : 2 ≤ t) : ¬ t ∣ L := fun hd => by
  have : t ∣ Nat.gcd t L := Nat.dvd_gcd (Nat.dvd_refl _) hd
  have h : Nat.gcd t L = 1 := h
  rw [h] at this
  have := Nat.le_of_dvd (by decide) this
  omega
theorem npr_filter {e : Nat → Nat} : ∀ ps : List Nat, NPR (ps.filter fun p => decide (0 < e p)) e = NPR ps e
  | [] => rfl
  | p :: ps => by
    rw [List.filter_cons, npr_cons]
    split
    · rw [npr_cons, npr_filter ps]
    · rename_i h
      have : e p = 0 := by simpa using h
      rw [this, npr_filter ps, Nat.pow_zero, Nat.one_mul]
def DL (e : Nat → Nat) : List Nat → List Nat
  | [] => [1]
  | p :: ps => (List.range (e p + 1)).flatMap fun i => (DL e ps).map fun d => p ^ i * d
theorem dvd_split {p R : Nat} (hp : PrimeN p) : ∀ {k d : Nat}, d ∣ p ^ k * R → ∃ i, i ≤ k ∧ ∃ d', d' ∣ R ∧ d = p ^ i * d'
  | 0, d, h => ⟨0, Nat.le_refl _, d, by rwa [Nat.pow_zero, Nat.one_mul] at h, by rw [Nat.pow_zero, Nat.one_mul]⟩
  | k + 1, d, h => by
    by_cases z : p ∣ d
    · obtain ⟨c, rfl⟩ := z
      have h2 : c ∣ p ^ k * R := by
        rw [Nat.pow_succ, Nat.mul_comm (p ^ k) p, Nat.mul_assoc] at h
        exact Nat.dvd_of_mul_dvd_mul_left (by have := hp.1; omega) h
      obtain ⟨i, h3, d', h4, h5⟩ := dvd_split hp h2
      exact ⟨i + 1, by omega, d', h4, by rw [h5, Nat.pow_succ, Nat.mul_comm (p ^ i) p, Nat.mul_assoc]⟩
    · have hg : Nat.Coprime d p := by
        have h1 : Nat.gcd d p ∣ p := Nat.gcd_dvd_right _ _
        have h2 := Nat.le_of_dvd (by have := hp.1; omega) h1
        have h3 : 0 < Nat.gcd d p := Nat.gcd_pos_of_pos_right _ (by have := hp.1; omega)
        by_cases q : Nat.gcd d p = p
        · exact absurd (q ▸ Nat.gcd_dvd_left d p) z
        · have h4 := hp.2 (Nat.gcd d p) h3 (by omega)
          rw [Nat.gcd_eq_left h1] at h4
          exact h4
      have h6 : d ∣ R := Nat.Coprime.dvd_of_dvd_mul_left (Nat.Coprime.pow_right _ hg) h
      exact ⟨0, Nat.zero_le _, d, h6, by rw [Nat.pow_zero, Nat.one_mul]⟩
theorem dl_mem {e : Nat → Nat} : ∀ {ps : List Nat}, (∀ p ∈ ps, PrimeN p) → ∀ {d : Nat}, d ∈ DL e ps ↔ d ∣ NPR ps e
  | [], _, d => by
    show d ∈ [1] ↔ d ∣ 1
    rw [List.mem_singleton, Nat.dvd_one]
  | p :: ps, h, d => by
    have ih := fun {d} => dl_mem (e := e) (ps := ps) (fun q hq => h q (List.mem_cons_of_mem _ hq)) (d := d)
    rw [npr_cons]
    show d ∈ (List.range (e p + 1)).flatMap _ ↔ _
    rw [List.mem_flatMap]
    constructor
    · rintro ⟨i, hi, hd⟩
      obtain ⟨c, hc, rfl⟩ := List.mem_map.mp hd
      have hi := List.mem_range.mp hi
      exact Nat.mul_dvd_mul (Nat.pow_dvd_pow p (by omega)) (ih.mp hc)
    · intro hd
      obtain ⟨i, h1, c, h2, h3⟩ := dvd_split (h p List.mem_cons_self) hd
      exact ⟨i, List.mem_range.mpr (by omega), List.mem_map.mpr ⟨c, ih.mpr h2, h3.symm⟩⟩
theorem dl_len {e : Nat → Nat} : ∀ ps : List Nat, (DL e ps).length = (ps.map fun p => e p + 1).prod
  | [] => rfl
  | p :: ps => by
    show ((List.range (e p + 1)).flatMap fun i => (DL e ps).map fun d => p ^ i * d).length = _
    rw [List.length_flatMap, List.map_cons, List.prod_cons, ← dl_len ps]
    have : ((List.range (e p + 1)).map fun i => ((DL e ps).map fun d => p ^ i * d).length) = (List.range (e p + 1)).map fun _ => (DL e ps).length := List.map_congr_left fun i _ => List.length_map ..
    rw [this]
    have h : ∀ n : Nat, ((List.range n).map fun _ => (DL e ps).length).sum = n * (DL e ps).length := fun n => by
      induction n with
      | zero => rw [Nat.zero_mul]; rfl
      | succ n ih => rw [List.range_succ, List.map_append, List.sum_append, ih, Nat.succ_mul]; rfl
    exact h _
theorem cop_of_dvd {a b c : Nat} (h : Nat.Coprime a b) (hd : c ∣ b) : Nat.Coprime a c := by
  have h1 : Nat.gcd a c ∣ Nat.gcd a b := Nat.dvd_gcd (Nat.gcd_dvd_left _ _) (Nat.dvd_trans (Nat.gcd_dvd_right _ _) hd)
  have h : Nat.gcd a b = 1 := h
  rw [h] at h1
  exact Nat.dvd_one.mp h1
theorem dl_nodup {e : Nat → Nat} : ∀ {ps : List Nat}, (∀ p ∈ ps, PrimeN p) → ps.Pairwise (· < ·) → (DL e ps).Nodup
  | [], _, _ => List.pairwise_singleton _ _
  | p :: ps, h, hr => by
    have hp := h p List.mem_cons_self
    have hps : ∀ q ∈ ps, PrimeN q := fun q hq => h q (List.mem_cons_of_mem _ hq)
    have hr2 := List.pairwise_cons.mp hr
    have ih := dl_nodup (e := e) hps hr2.2
    have hc : Nat.Coprime p (NPR ps e) := npr_cop hps (by have := hp.1; omega) hr2.1
    show ((List.range (e p + 1)).flatMap fun i => (DL e ps).map fun d => p ^ i * d).Pairwise (· ≠ ·)
    rw [List.pairwise_flatMap]
    refine ⟨fun i _ => ?_, ?_⟩
    · refine List.pairwise_map.mpr (ih.imp fun {a b} hab q => hab ?_)
      exact Nat.eq_of_mul_eq_mul_left (Nat.pow_pos (by have := hp.1; omega)) q
    · refine List.pairwise_lt_range.imp fun {i j} hij x hx y hy q => ?_
      obtain ⟨a, ha, rfl⟩ := List.mem_map.mp hx
      obtain ⟨b, hb, rfl⟩ := List.mem_map.mp hy
      obtain ⟨k, rfl⟩ : ∃ k, j = i + (k + 1) := ⟨j - i - 1, by omega⟩
      rw [Nat.pow_add, Nat.mul_assoc] at q
      have q2 := Nat.eq_of_mul_eq_mul_left (Nat.pow_pos (by have := hp.1; omega)) q
      have h5 : p ∣ a := by
        rw [q2, Nat.pow_succ, Nat.mul_comm (p ^ k) p, Nat.mul_assoc]
        exact Nat.dvd_mul_right _ _
      exact cop_ndvd (cop_of_dvd hc ((dl_mem hps).mp ha)) hp.1 h5
theorem dv_count {ps : List Nat} {e : Nat → Nat} (h : ∀ p ∈ ps, PrimeN p) (hr : ps.Pairwise (· < ·)) : (DV (NPR ps e : Nat)).length = (ps.map fun p => e p + 1).prod := by
  have hpos := npr_pos (e := e) h
  rw [← dl_len, ← List.length_map (as := DL e ps) fun d : Nat => (d : Int)]
  have hn : ((DL e ps).map fun d : Nat => (d : Int)).Nodup := List.pairwise_map.mpr ((dl_nodup h hr).imp fun {a b} hab q => hab (by omega))
  refine Nat.le_antisymm (sub_len (dv_nodup _) fun x hx => ?_) (sub_len hn fun x hx => ?_)
  · obtain ⟨h1, h2, h3⟩ := dv_mem.mp hx
    rw [fmod_pos' _ (by omega)] at h3
    refine List.mem_map.mpr ⟨x.toNat, (dl_mem h).mpr ?_, by omega⟩
    refine Int.natCast_dvd_natCast.mp ?_
    rw [show ((x.toNat : Nat) : Int) = x by omega]
    exact Int.dvd_of_emod_eq_zero h3
  · obtain ⟨d, hd, rfl⟩ := List.mem_map.mp hx
    have hd := (dl_mem h).mp hd
    have h1 := Nat.le_of_dvd hpos hd
    have h2 := Nat.pos_of_dvd_of_pos hd hpos
    refine dv_mem.mpr ⟨by omega, by omega, ?_⟩
    rw [fmod_pos' _ (by omega)]
    exact Int.emod_eq_zero_of_dvd (Int.natCast_dvd_natCast.mpr hd)
theorem dv_up_list (n : Int) : (DV n).Pairwise (· < ·) := by
  unfold DV rngL
  refine List.Pairwise.filter _ (List.pairwise_map.mpr (List.pairwise_lt_range.imp fun {a b} h => ?_))
  omega
theorem dv_sset (n : Int) : sset (DV n) = DV n := rising_one (sset_up _) (dv_up_list n) fun _ => sset_mem
theorem rngL_succ {a b : Int} (h : a ≤ b) : rngL a (b + 1) = rngL a b ++ [b] := by
  unfold rngL
  rw [show (b + 1 - a).toNat = (b - a).toNat + 1 by omega, List.range_succ, List.map_append]
  congr 1
  show [a + ((b - a).toNat : Int)] = [b]
  congr 1
  omega
theorem prod_upd {f g : Nat → Nat} {a k : Nat} : ∀ {ks : List Nat}, ks.Nodup → k ∈ ks → g k = a * f k → (∀ x ∈ ks, x ≠ k → g x = f x) → (ks.map g).prod = a * (ks.map f).prod
  | [], _, h, _, _ => nomatch h
  | x :: ks, hn, hk, h1, h2 => by
    rw [List.nodup_cons] at hn
    rw [List.map_cons, List.prod_cons, List.map_cons, List.prod_cons]
    by_cases z : x = k
    · subst z
      have : ks.map g = ks.map f := List.map_congr_left fun y hy => h2 y (List.mem_cons_of_mem _ hy) fun q => hn.1 (q ▸ hy)
      rw [this, h1, Nat.mul_assoc]
    · rw [prod_upd hn.2 ((List.mem_cons.mp hk).resolve_left (Ne.symm z)) h1 (fun y hy => h2 y (List.mem_cons_of_mem _ hy)), h2 x List.mem_cons_self z]
      ac_rfl
theorem sum_upd {f g : Nat → Nat} {a k : Nat} : ∀ {ks : List Nat}, ks.Nodup → k ∈ ks → g k = a + f k → (∀ x ∈ ks, x ≠ k → g x = f x) → (ks.map g).sum = a + (ks.map f).sum
  | [], _, h, _, _ => nomatch h
  | x :: ks, hn, hk, h1, h2 => by
    rw [List.nodup_cons] at hn
    rw [List.map_cons, List.sum_cons, List.map_cons, List.sum_cons]
    by_cases z : x = k
    · subst z
      have : ks.map g = ks.map f := List.map_congr_left fun y hy => h2 y (List.mem_cons_of_mem _ hy) fun q => hn.1 (q ▸ hy)
      rw [this, h1, Nat.add_assoc]
    · rw [sum_upd hn.2 ((List.mem_cons.mp hk).resolve_left (Ne.symm z)) h1 (fun y hy => h2 y (List.mem_cons_of_mem _ hy)), h2 x List.mem_cons_self z]
      omega
theorem prod_le_two {e : Nat → Nat} : ∀ ps : List Nat, (ps.map fun p => e p + 1).prod ≤ 2 ^ (ps.map e).sum
  | [] => Nat.le_refl _
  | p :: ps => by
    rw [List.map_cons, List.prod_cons, List.map_cons, List.sum_cons, Nat.pow_add]
    exact Nat.mul_le_mul (Nat.succ_le_of_lt Nat.lt_two_pow_self) (prod_le_two ps)
theorem eqO_pairs (l : List (Int × Int)) : eqO (eL (e2 D.int D.int) l) (eL (e2 D.int D.int) l) = some true :=
  eqO_reflE (okEs_map fun _ _ => rfl) (by
    show dpDs (l.map (e2 D.int D.int)) + 1 ≤ 60
    have := dpDs_map (m := e2 D.int D.int) (n := 1) (l := l) fun _ _ => Nat.le_refl _
    omega)
theorem gwhile_runE {σ β : Type} {c : σ → Option Bool} {b : σ → Option σ} {f : σ → Option β} {P : β → Prop} {n : Nat} {s : σ} (I : σ → Prop) (go : σ → Bool) (m : σ → Nat) (hc : ∀ s, I s → c s = some (go s)) (hb : ∀ s, I s → go s = true → ∃ s', b s = some s' ∧ I s' ∧ m s' < m s) (hi : I s) (hm : m s < n) (hk : ∀ s', I s' → go s' = false → ∃ v, f s' = some v ∧ P v) : ∃ v, (gwhile c b n s).bind f = some v ∧ P v := by
  obtain ⟨s', h1, h2, h3⟩ := gwhile_run I go m hc hb n s hi hm
  rw [h1]
  exact hk s' h2 h3
end L2.Py
set_option maxRecDepth 10000
namespace L2.Py
open PySem PySem.Spec PyProof.Rows
def UP (w : Nat) (f : Nat → Int) (n : Nat) : Int := f n + 2 * ((if w ≤ n then f (n - w) else 0) + (if 4 * w ≤ n then f (n - 4 * w) else 0) + (if 9 * w ≤ n then f (n - 9 * w) else 0))
def RW (ws : List Int) : Nat → Int := ws.foldl (fun f w => UP w.toNat f) one
def MO (w n : Int) : Int := if 9 * w ≤ n then 3 else if 4 * w ≤ n then 2 else if w ≤ n then 1 else 0
theorem rw_snoc (ws : List Int) (w : Int) : RW (ws ++ [w]) = UP w.toNat (RW ws) := by
  unfold RW
  rw [List.foldl_append]
  rfl
theorem up_abs {w : Nat} {f : Nat → Int} {B : Nat} (h : ∀ n, (f n).natAbs ≤ B) (n : Nat) : (UP w f n).natAbs ≤ 7 * B := by
  have h0 := h n
  have h1 := h (n - w)
  have h2 := h (n - 4 * w)
  have h3 := h (n - 9 * w)
  unfold UP
  split <;> split <;> split <;> omega
theorem rw_abs : ∀ (ws : List Int) (f : Nat → Int) (B : Nat), (∀ n, (f n).natAbs ≤ B) → ∀ n, ((ws.foldl (fun f w => UP w.toNat f) f) n).natAbs ≤ 7 ^ ws.length * B
  | [], f, B, h, n => by
    rw [List.length_nil, Nat.pow_zero, Nat.one_mul]
    exact h n
  | w :: ws, f, B, h, n => by
    have := rw_abs ws (UP w.toNat f) (7 * B) (fun n => up_abs h n) n
    rw [List.length_cons, Nat.pow_succ, Nat.mul_assoc]
    exact this
theorem rw_le {ws : List Int} (h : ws.length ≤ 8) (n : Nat) : (RW ws n).natAbs ≤ 2 ^ 40 := by
  have h1 := rw_abs ws one 1 (fun n => by unfold one; split <;> decide) n
  refine Nat.le_trans h1 ?_
  rw [Nat.mul_one]
  exact Nat.le_trans (Nat.pow_le_pow_right (n := 7) (by decide) h) (by decide)
theorem up_zero {w : Nat} (hw : 1 ≤ w) (f : Nat → Int) : UP w f 0 = f 0 := by
  unfold UP
  rw [if_neg (by omega), if_neg (by omega), if_neg (by omega)]
  omega
theorem up_below {w n : Nat} (h : n < w) (f : Nat → Int) : UP w f n = f n := by
  unfold UP
  rw [if_neg (by omega), if_neg (by omega), if_neg (by omega)]
  omega
theorem up_at {w : Nat} (hw : 1 ≤ w) (f : Nat → Int) : UP w f w = f w + 2 * f 0 := by
  unfold UP
  rw [if_pos (Nat.le_refl w), if_neg (by omega), if_neg (by omega), Nat.sub_self]
  omega
theorem fold_zero : ∀ (ws : List Int) (f : Nat → Int), (∀ w ∈ ws, 1 ≤ w) → (ws.foldl (fun f w => UP w.toNat f) f) 0 = f 0
  | [], _, _ => rfl
  | w :: ws, f, h => by
    have h1 := h w List.mem_cons_self
    rw [List.foldl_cons, fold_zero ws _ (fun x hx => h x (List.mem_cons_of_mem _ hx)), up_zero (by omega)]
theorem fold_far {d : Nat} : ∀ (ws : List Int) (f : Nat → Int), (∀ w ∈ ws, (d : Int) ≤ w) → 1 ≤ d → (∀ n, n < d → (ws.foldl (fun f w => UP w.toNat f) f) n = f n) ∧ (ws.foldl (fun f w => UP w.toNat f) f) d = f d + 2 * (ws.count (d : Int) : Int) * f 0
  | [], f, _, _ => ⟨fun _ _ => rfl, by show f d = f d + 2 * ((0 : Nat) : Int) * f 0; simp⟩
  | w :: ws, f, h, hd => by
    have h1 := h w List.mem_cons_self
    obtain ⟨i1, i2⟩ := fold_far (d := d) ws (UP w.toNat f) (fun x hx => h x (List.mem_cons_of_mem _ hx)) hd
    refine ⟨fun n hn => by rw [List.foldl_cons, i1 n hn, up_below (by omega)], ?_⟩
    rw [List.foldl_cons, i2, up_zero (by omega), List.count_cons]
    by_cases z : w = (d : Int)
    · subst z
      rw [Int.toNat_natCast, up_at hd, if_pos (by simp)]
      rw [Int.natCast_add, Int.mul_add, Int.add_mul]
      simp only [Int.natCast_one, Int.mul_one]
      omega
    · rw [up_below (by omega), if_neg (by simpa using z), Nat.add_zero]
theorem sorted_split {d : Int} : ∀ {ws : List Int}, ws.Pairwise (· ≤ ·) → ws = ws.filter (fun x => decide (x < d)) ++ ws.filter (fun x => !decide (x < d))
  | [], _ => rfl
  | x :: ws, h => by
    have h2 := List.pairwise_cons.mp h
    rw [List.filter_cons, List.filter_cons]
    by_cases z : x < d
    · rw [if_pos (decide_eq_true z), if_neg (by simp [z]), List.cons_append, ← sorted_split h2.2]
    · rw [if_neg (by simpa using z), if_pos (by simp [z])]
      have e : ws.filter (fun x => decide (x < d)) = [] := List.filter_eq_nil_iff.mpr fun y hy => by
        have := h2.1 y hy
        simp
        omega
      have e2 : ws.filter (fun x => !decide (x < d)) = ws := List.filter_eq_self.mpr fun y hy => by
        have := h2.1 y hy
        simp
        omega
      rw [e, e2, List.nil_append]
theorem sorted_count {ws vs : List Int} (h : ws.Pairwise (· ≤ ·)) (h2 : vs.Pairwise (· ≤ ·)) (hc : ∀ x, ws.count x = vs.count x) : ws = vs := List.Perm.eq_of_pairwise (fun a b _ _ h1 h2 => Int.le_antisymm h1 h2) h h2 (List.perm_iff_count.mpr hc)
theorem ways_unlike {d : Nat} (hd : 1 ≤ d) {ws vs : List Int} (h : ws.Pairwise (· ≤ ·)) (h2 : vs.Pairwise (· ≤ ·)) (p1 : ∀ w ∈ ws, 1 ≤ w) (p2 : ∀ w ∈ vs, 1 ≤ w) (hc : ∀ x : Int, x < d → ws.count x = vs.count x) : (∀ n, n < d → RW ws n = RW vs n) ∧ RW ws d - RW vs d = 2 * ((ws.count (d : Int) : Int) - (vs.count (d : Int) : Int)) := by
  have key : ws.filter (fun x => decide (x < (d : Int))) = vs.filter (fun x => decide (x < (d : Int))) := sorted_count (h.filter _) (h2.filter _) fun x => by
    by_cases z : x < (d : Int)
    · rw [List.count_filter (by simpa using z), List.count_filter (by simpa using z), hc x z]
    · rw [List.count_eq_zero_of_not_mem, List.count_eq_zero_of_not_mem]
      · intro q
        have := (List.mem_filter.mp q).2
        simp at this
        omega
      · intro q
        have := (List.mem_filter.mp q).2
        simp at this
        omega
  have e1 : ∀ {us : List Int}, us.Pairwise (· ≤ ·) → (∀ w ∈ us, 1 ≤ w) → (∀ n, n < d → RW us n = RW (us.filter (fun x => decide (x < (d : Int)))) n) ∧ RW us d = RW (us.filter (fun x => decide (x < (d : Int)))) d + 2 * (us.count (d : Int) : Int) := fun {us} hu hp => by
    have hs := sorted_split (d := (d : Int)) hu
    have hf := fold_far (d := d) (us.filter fun x => !decide (x < (d : Int))) (RW (us.filter fun x => decide (x < (d : Int)))) (fun w hw => by
      have := (List.mem_filter.mp hw).2
      simp at this
      exact this) hd
    have h0 : RW (us.filter fun x => decide (x < (d : Int))) 0 = 1 := by
      unfold RW
      rw [fold_zero _ _ fun w hw => hp w (List.mem_filter.mp hw).1]
      rfl
    have hRW : RW us = (us.filter fun x => !decide (x < (d : Int))).foldl (fun f w => UP w.toNat f) (RW (us.filter fun x => decide (x < (d : Int)))) := by
      conv => lhs; rw [hs]
      unfold RW
      rw [List.foldl_append]
    rw [hRW]
    refine ⟨hf.1, ?_⟩
    rw [hf.2, h0, Int.mul_one, List.count_filter (by simp)]
  obtain ⟨a1, a2⟩ := e1 h p1
  obtain ⟨b1, b2⟩ := e1 h2 p2
  exact ⟨fun n hn => by rw [a1 n hn, b1 n hn, key], by rw [a2, b2, key]; omega⟩
theorem eqv_ints : ∀ l m : List Int, PySem.PyData.eqvAll (toPs (l.map D.int)) (toPs (m.map D.int)) = decide (l = m)
  | [], [] => by simp [toPs, PySem.PyData.eqvAll]
  | [], x :: m => by simp [toPs, PySem.PyData.eqvAll]
  | x :: l, [] => by simp [toPs, PySem.PyData.eqvAll]
  | x :: l, y :: m => by
    have := eqv_ints l m
    simp [toP, toPs, PySem.PyData.eqvAll, PySem.PyData.eqv] at this ⊢
    rw [this]
    by_cases h : x = y <;> by_cases h2 : l = m <;> simp [h, h2]
def DUE (ws vs : List Int) : Option Int := (rngL 1 13).findSome? fun x => if ((ws.count x : Nat) : Int) = ((vs.count x : Nat) : Int) then none else some x
theorem due_comm (ws vs : List Int) : DUE vs ws = DUE ws vs := by
  unfold DUE
  congr 1
  funext x
  by_cases h : ((ws.count x : Nat) : Int) = ((vs.count x : Nat) : Int)
  · rw [if_pos h, if_pos h.symm]
  · rw [if_neg h, if_neg fun q => h q.symm]
theorem due_none {ws vs : List Int} (h : DUE ws vs = none) : ∀ x, 1 ≤ x → x ≤ 12 → ws.count x = vs.count x := fun x h1 h2 => by
  have := List.findSome?_eq_none_iff.mp h x (mem_rng.mpr ⟨h1, by omega⟩)
  split at this
  · rename_i q; omega
  · cases this
theorem due_some {ws vs : List Int} {d : Int} (h : DUE ws vs = some d) : 1 ≤ d ∧ d ≤ 12 ∧ ws.count d ≠ vs.count d ∧ ∀ x, 1 ≤ x → x < d → ws.count x = vs.count x := by
  obtain ⟨l1, a, l2, h1, h2, h3⟩ := List.findSome?_eq_some_iff.mp h
  split at h2
  · cases h2
  rename_i q
  cases h2
  have hr := rng_split h1
  refine ⟨by omega, by omega, fun z => q (by rw [z]), fun x hx1 hx2 => ?_⟩
  have hx : x ∈ rngL 1 13 := mem_rng.mpr ⟨hx1, by omega⟩
  have hup : (rngL 1 13).Pairwise (· < ·) := by
    unfold rngL
    exact List.pairwise_map.mpr (List.pairwise_lt_range.imp fun {x y} h => by omega)
  rw [h1] at hx hup
  have hx : x ∈ l1 := by
    rcases List.mem_append.mp hx with z | z
    · exact z
    · rcases List.mem_cons.mp z with z | z
      · omega
      · have := (List.pairwise_cons.mp (List.pairwise_append.mp hup).2.1).1 x z
        omega
  have := h3 x hx
  split at this
  · rename_i q2; omega
  · cases this
end L2.Py
set_option maxRecDepth 10000
namespace L2.Py
open PySem PySem.Spec PyProof.Rows
def GT (w : Int) (f : Nat → Int) (k : Int) (n : Nat) : Int := if w * k * k ≤ (n : Int) then f ((n : Int) - w * k * k).toNat else 0
def UG (w : Int) (f : Nat → Int) (n : Nat) : Int := f n + 2 * ((rngL 1 8).map fun k => GT w f k n).sum
def RG (ws : List Int) : Nat → Int := ws.foldl (fun f w => UG w f) one
def MG (w n : Int) : Int := (((rngL 1 8).filter fun k => decide (w * k * k ≤ n)).length : Int)
theorem rg_snoc (ws : List Int) (w : Int) : RG (ws ++ [w]) = UG w (RG ws) := by
  unfold RG
  rw [List.foldl_append]
  rfl
theorem gt_abs {w : Int} {f : Nat → Int} {B : Nat} (h : ∀ n, (f n).natAbs ≤ B) (k : Int) (n : Nat) : (GT w f k n).natAbs ≤ B := by
  unfold GT
  split
  · exact h _
  · exact Nat.zero_le _
theorem ug_abs {w : Int} {f : Nat → Int} {B : Nat} (h : ∀ n, (f n).natAbs ≤ B) (n : Nat) : (UG w f n).natAbs ≤ 15 * B := by
  have h0 := h n
  have h1 := sum_le (l := (rngL 1 8).map fun k => GT w f k n) (B := B) fun y hy => by
    obtain ⟨k, _, rfl⟩ := List.mem_map.mp hy
    exact gt_abs h k n
  rw [List.length_map, rngL_len] at h1
  have h1 : (((rngL 1 8).map fun k => GT w f k n).sum).natAbs ≤ 7 * B := h1
  unfold UG
  omega
theorem rg_abs : ∀ (ws : List Int) (f : Nat → Int) (B : Nat), (∀ n, (f n).natAbs ≤ B) → ∀ n, ((ws.foldl (fun f w => UG w f) f) n).natAbs ≤ 15 ^ ws.length * B
  | [], f, B, h, n => by
    rw [List.length_nil, Nat.pow_zero, Nat.one_mul]
    exact h n
  | w :: ws, f, B, h, n => by
    have := rg_abs ws (UG w f) (15 * B) (fun n => ug_abs h n) n
    rw [List.length_cons, Nat.pow_succ, Nat.mul_assoc]
    exact this
theorem rg_le {ws : List Int} (h : ws.length ≤ 8) (n : Nat) : (RG ws n).natAbs ≤ 2 ^ 40 := by
  have h1 := rg_abs ws one 1 (fun n => by unfold one; split <;> decide) n
  refine Nat.le_trans h1 ?_
  rw [Nat.mul_one]
  exact Nat.le_trans (Nat.pow_le_pow_right (n := 15) (by decide) h) (by decide)
theorem rngL_front {a b : Int} (h : a < b) : rngL a b = a :: rngL (a + 1) b := by
  unfold rngL
  rw [show (b - a).toNat = (b - (a + 1)).toNat + 1 by omega, List.range_succ_eq_map, List.map_cons, List.map_map]
  congr 1
  · show a + ((0 : Nat) : Int) = a
    omega
  · refine List.map_congr_left fun i _ => ?_
    show a + ((i + 1 : Nat) : Int) = a + 1 + (i : Int)
    omega
theorem sum_even {F : Int → Int} (h : ∀ y, F (-y) = F y) : ∀ m : Nat, ((rngL (-(m : Int)) ((m : Int) + 1)).map F).sum = F 0 + 2 * ((rngL 1 ((m : Int) + 1)).map F).sum
  | 0 => by
    show (([0] : List Int).map F).sum = F 0 + 2 * (([] : List Int).map F).sum
    simp
  | m + 1 => by
    have e : ((m + 1 : Nat) : Int) = (m : Int) + 1 := by omega
    rw [e, rngL_front (by omega), show -((m : Int) + 1) + 1 = -(m : Int) by omega, rngL_succ (by omega), rngL_succ (b := (m : Int) + 1) (by omega)]
    rw [List.map_cons, List.sum_cons, List.map_append, List.sum_append, sum_even h m, List.map_append, List.sum_append, h]
    simp only [List.map_cons, List.map_nil, List.sum_cons, List.sum_nil]
    omega
theorem rngL_cut {a b c : Int} (h : a ≤ b) : ∀ {n : Nat}, c = b + n → rngL a c = rngL a b ++ rngL b c
  | 0, e => by
    rw [e, show b + ((0 : Nat) : Int) = b by omega, rngL_nil b b (Int.le_refl _), List.append_nil]
  | n + 1, e => by
    have e2 : c = (b + (n : Int)) + 1 := by omega
    rw [e2, rngL_succ (by omega), rngL_succ (a := b) (by omega), rngL_cut (c := b + (n : Int)) h rfl, List.append_assoc]
theorem mg_all : ((List.range 12).all fun i => (List.range 60).all fun n => decide (0 ≤ MG ((i : Nat) + 1 : Int) (n : Nat) ∧ MG ((i : Nat) + 1 : Int) (n : Nat) ≤ 7) && (rngL 1 8).all fun k => decide (k ≤ MG ((i : Nat) + 1 : Int) (n : Nat) ↔ ((i : Nat) + 1 : Int) * k * k ≤ (n : Nat))) = true := by decide +kernel
theorem mg {w n : Int} (hw : 1 ≤ w ∧ w ≤ 12) (hn : 0 ≤ n ∧ n ≤ 59) : 0 ≤ MG w n ∧ MG w n ≤ 7 ∧ ∀ k, 1 ≤ k → k ≤ 7 → (k ≤ MG w n ↔ w * k * k ≤ n) := by
  have := level (P := fun w => (List.range 60).all fun n => decide (0 ≤ MG w (n : Nat) ∧ MG w (n : Nat) ≤ 7) && (rngL 1 8).all fun k => decide (k ≤ MG w (n : Nat) ↔ w * k * k ≤ (n : Nat))) 12 mg_all hw.1 hw.2
  have := List.all_eq_true.mp this n.toNat (List.mem_range.mpr (by omega))
  rw [show ((n.toNat : Nat) : Int) = n by omega, Bool.and_eq_true, decide_eq_true_eq] at this
  refine ⟨this.1.1, this.1.2, fun k h1 h2 => ?_⟩
  exact of_decide_eq_true (List.all_eq_true.mp this.2 k (mem_rng.mpr ⟨h1, by omega⟩))
theorem sum_zero {α : Type} {l : List α} {f : α → Int} (h : ∀ x ∈ l, f x = 0) : (l.map f).sum = 0 := by
  induction l with
  | nil => rfl
  | cons x l ih => rw [List.map_cons, List.sum_cons, h x List.mem_cons_self, ih fun y hy => h y (List.mem_cons_of_mem _ hy)]; rfl
theorem ug_cut {w : Int} {f : Nat → Int} {n : Nat} {m : Int} (h0 : 0 ≤ m) (h1 : m ≤ 7) (hz : ∀ k, m < k → k ≤ 7 → ¬ w * k * k ≤ (n : Int)) : UG w f n = f n + 2 * ((rngL 1 (m + 1)).map fun k => GT w f k n).sum := by
  unfold UG
  rw [rngL_cut (a := 1) (b := m + 1) (c := 8) (n := (7 - m).toNat) (by omega) (by omega), List.map_append, List.sum_append, sum_zero (l := rngL (m + 1) 8), Int.add_zero]
  intro k hk
  have := mem_rng.mp hk
  unfold GT
  exact if_neg (hz k (by omega) (by omega))
end L2.Py
set_option maxRecDepth 10000
namespace L2.Py
open PySem PySem.Spec PyProof.Rows
def TH (n : Nat) : Int := if n = 0 then 1 else if n = 1 ∨ n = 4 ∨ n = 9 ∨ n = 16 ∨ n = 25 ∨ n = 36 ∨ n = 49 then 2 else 0
def L1 : List (Int × Int) := [(1, -2), (2, 5), (4, -2)]
theorem th_log : ((List.range 31).all fun n => decide ((n : Int) * TH n = conv (LF (FP L1)) TH n)) = true := by decide +kernel
theorem th_pf {n : Nat} (h : n < 31) : TH n = PF (FP L1) n :=
  pf_only (N := 31) (c := LF (FP L1)) rfl (fun _ _ => rfl) (fun n hn => of_decide_eq_true (List.all_eq_true.mp th_log n (List.mem_range.mpr hn))) n h
theorem th_sum : ((List.range 60).all fun q => decide (TH q = (if q = 0 then 1 else 0) + 2 * ((rngL 1 8).map fun k => if (q : Int) = k * k then (1 : Int) else 0).sum)) = true := by decide +kernel
theorem sm_list {n : Nat} {L : List Int} {F : Nat → Int → Int} : Sm n (fun i => (L.map fun k => F i k).sum) = (L.map fun k => Sm n fun i => F i k).sum := by
  induction L with
  | nil => exact sm_zero' fun _ _ => rfl
  | cons k L ih =>
    rw [List.map_cons, List.sum_cons, ← ih, ← sm_add]
    exact sm_congr fun i _ => rfl
theorem ug_conv {w : Nat} (hw : 1 ≤ w) {f : Nat → Int} {n : Nat} (hn : n < 60) : UG (w : Int) f n = conv (atR w TH) f n := by
  have hp : ∀ i, i < n + 1 → atR w TH i * f (n - i) = (if i = 0 then f (n - i) else 0) + 2 * ((rngL 1 8).map fun k => if (i : Int) = (w : Int) * k * k then f (n - i) else 0).sum := fun i hi => by
    unfold atR
    by_cases z : i % w = 0
    · rw [if_pos z]
      obtain ⟨q, rfl⟩ : ∃ q, i = w * q := ⟨i / w, by have := Nat.div_add_mod i w; rw [z] at this; omega⟩
      rw [Nat.mul_div_cancel_left _ (by omega)]
      have hq : q < 60 := by
        have : q ≤ w * q := Nat.le_mul_of_pos_left _ (by omega)
        omega
      rw [of_decide_eq_true (List.all_eq_true.mp th_sum q (List.mem_range.mpr hq)), Int.add_mul]
      congr 1
      · by_cases q0 : q = 0
        · subst q0
          simp
        · rw [if_neg q0, if_neg (by
            intro e
            rcases Nat.mul_eq_zero.mp e with e | e <;> omega), Int.zero_mul]
      · rw [Int.mul_assoc, Int.mul_comm _ (f (n - w * q)), ← sum_map_mul]
        congr 2
        refine List.map_congr_left fun k _ => ?_
        by_cases e : (q : Int) = k * k
        · rw [if_pos e, if_pos (by rw [Int.natCast_mul, e, Int.mul_assoc]), Int.mul_one]
        · rw [if_neg e, if_neg (by
            intro e2
            rw [Int.natCast_mul, Int.mul_assoc] at e2
            exact e (Int.eq_of_mul_eq_mul_left (by omega) e2)), Int.mul_zero]
    · rw [if_neg z, Int.zero_mul]
      have h0 : i ≠ 0 := fun q => z (by rw [q]; exact Nat.zero_mod w)
      rw [if_neg h0, sum_zero]
      · rfl
      · intro k _
        rw [if_neg]
        intro e
        apply z
        have : (w : Int) ∣ (i : Int) := by rw [e, Int.mul_assoc]; exact Int.dvd_mul_right _ _
        exact Nat.mod_eq_zero_of_dvd (Int.natCast_dvd_natCast.mp this)
  unfold UG conv
  rw [sm_congr hp, sm_add, sm_pick (k := 0) (by omega) (fun i => f (n - i)), sm_mul, sm_list, Nat.sub_zero]
  congr 3
  refine List.map_congr_left fun k _ => ?_
  unfold GT
  by_cases z : (w : Int) * k * k ≤ (n : Int)
  · rw [if_pos z]
    have h0 : 0 ≤ (w : Int) * k * k := by
      rw [Int.mul_assoc]
      exact Int.mul_nonneg (by omega) (by rcases Int.le_total 0 k with h | h; exact Int.mul_nonneg h h; exact Int.mul_nonneg_of_nonpos_of_nonpos h h)
    generalize (w : Int) * k * k = B at *
    have e : (fun i : Nat => if (i : Int) = B then f (n - i) else 0) = fun i : Nat => if i = B.toNat then f (n - i) else 0 := by
      funext i
      by_cases q : (i : Int) = B
      · rw [if_pos q, if_pos (by omega)]
      · rw [if_neg q, if_neg (by omega)]
    rw [e, sm_pick (k := B.toNat) (by omega) (fun i => f (n - i))]
    congr 1
    omega
  · rw [if_neg z]
    exact (sm_zero' fun i hi => if_neg (by omega)).symm
def LW (w : Int) : List (Int × Int) := [(w, -2), (2 * w, 5), (4 * w, -2)]
theorem lw_ok {w : Int} (hw : 1 ≤ w) : okC (LW w) := by
  refine ⟨?_, fun p hp => ?_⟩
  · unfold LW
    simp only [List.pairwise_cons, List.mem_cons, List.not_mem_nil, or_false, forall_eq_or_imp, forall_eq, List.Pairwise.nil, and_true, false_implies, implies_true]
    omega
  · simp [LW] at hp
    rcases hp with rfl | rfl | rfl <;> (dsimp only; decide)
theorem lw_pf {w : Nat} (hw : 1 ≤ w) {n : Nat} (hn : n < 31) : PF (FP (LW (w : Int))) n = atR w TH n := by
  have e : LW (w : Int) = L1.map fun p => (p.1 * (w : Int), p.2) := by
    unfold LW L1
    simp
  rw [e, pf_congr (G := atF w (FP L1)) fun j _ _ => fp_at' L1 hw j, ← pf_at w hw]
  unfold atR
  split
  · exact (th_pf (Nat.lt_of_le_of_lt (Nat.div_le_self _ _) hn)).symm
  · rfl
def PW : List Int → List (Int × Int)
  | [] => []
  | w :: ws => both (PW ws) (LW w)
theorem pw_ok : ∀ {ws : List Int}, (∀ w ∈ ws, 1 ≤ w) → okC (PW ws)
  | [], _ => okC_nil
  | w :: ws, h => both_ok (pw_ok fun x hx => h x (List.mem_cons_of_mem _ hx))
theorem pw_wp : ∀ {ws : List Int}, (∀ w ∈ ws, 1 ≤ w) → ∀ s, WP (PW ws) s = (ws.map fun w => WP (LW w) s).sum
  | [], _, _ => rfl
  | w :: ws, h, s => by
    have h2 := fun x hx => h x (List.mem_cons_of_mem w hx)
    show WP (both (PW ws) (LW w)) s = _
    rw [wp_both (pw_ok h2) (lw_ok (h w List.mem_cons_self)), pw_wp h2, List.map_cons, List.sum_cons, Int.add_comm]
theorem pw_perm {ws vs : List Int} (h : ∀ w ∈ ws, 1 ≤ w) (p : ws.Perm vs) : PW ws = PW vs := by
  have h2 : ∀ w ∈ vs, 1 ≤ w := fun w hw => h w (p.mem_iff.mpr hw)
  refine okC_ext (pw_ok h) (pw_ok h2) fun s => ?_
  rw [pw_wp h, pw_wp h2]
  exact sum_perm (p.map _)
theorem pw_both {ws vs : List Int} (h : ∀ w ∈ ws, 1 ≤ w) (h2 : ∀ w ∈ vs, 1 ≤ w) : PW (ws ++ vs) = both (PW ws) (PW vs) := by
  have h3 : ∀ w ∈ ws ++ vs, 1 ≤ w := fun w hw => (List.mem_append.mp hw).elim (h w) (h2 w)
  refine okC_ext (pw_ok h3) (both_ok (pw_ok h)) fun s => ?_
  rw [pw_wp h3, wp_both (pw_ok h) (pw_ok h2), pw_wp h, pw_wp h2, List.map_append, List.sum_append]
theorem pw_st : ∀ {ws : List Int}, (∀ w ∈ ws, 1 ≤ w ∧ w ≤ 12) → ∀ p ∈ PW ws, 1 ≤ p.1 ∧ p.1 ≤ 48
  | [], _ => fun _ h => nomatch h
  | w :: ws, h => both_st (P := fun s => 1 ≤ s ∧ s ≤ 48) (pw_st fun x hx => h x (List.mem_cons_of_mem _ hx)) fun p hp => by
    have := h w List.mem_cons_self
    simp [LW] at hp
    rcases hp with rfl | rfl | rfl <;> dsimp only <;> omega
theorem pw_pw : ∀ {ws : List Int}, (∀ w ∈ ws, 1 ≤ w) → ∀ p ∈ PW ws, p.2.natAbs ≤ 5 * ws.length
  | [], _ => fun _ h => nomatch h
  | w :: ws, h => by
    have h2 := fun x hx => h x (List.mem_cons_of_mem w hx)
    have := both_pw (a := 5 * ws.length) (b := 5) (pw_ok h2) (lw_ok (h w List.mem_cons_self)) (pw_pw h2) fun p hp => by
      simp [LW] at hp
      rcases hp with rfl | rfl | rfl <;> (dsimp only; decide)
    intro p hp
    have := this p hp
    rw [List.length_cons]
    omega
theorem pw_len : ∀ ws : List Int, (PW ws).length ≤ 3 * ws.length
  | [] => Nat.zero_le _
  | w :: ws => by
    have h1 := both_len (PW ws) (LW w)
    have h2 := pw_len ws
    have h3 : (LW w).length = 3 := rfl
    rw [List.length_cons]
    show (both (PW ws) (LW w)).length ≤ _
    omega
theorem pf_both2 {l m : List (Int × Int)} (hl : okC l) (hm : okC m) (h : ∀ p ∈ l, 0 < p.1) (h2 : ∀ p ∈ m, 0 < p.1) (n : Nat) : PF (FP (both l m)) n = conv (PF (FP l)) (PF (FP m)) n := by
  rw [pf_add]
  exact pf_congr fun j hj _ => fp_both hl hm h h2 hj
theorem rg_pf : ∀ (k : Nat) {ws : List Int}, ws.length = k → (∀ w ∈ ws, 1 ≤ w ∧ w ≤ 12) → ∀ {n : Nat}, n < 31 → RG ws n = PF (FP (PW ws)) n
  | 0, ws, hk, h, n, hn => by
    have : ws = [] := List.eq_nil_of_length_eq_zero hk
    subst this
    show one n = PF (FP []) n
    exact (pf_none (fun _ => rfl) n).symm
  | k + 1, ws, hk, h, n, hn => by
    obtain ⟨us, w, rfl⟩ : ∃ us w, ws = us ++ [w] := by
      have hne : ws ≠ [] := fun q => by rw [q] at hk; cases hk
      exact ⟨ws.dropLast, ws.getLast hne, (List.dropLast_concat_getLast hne).symm⟩
    have hu : ∀ x ∈ us, 1 ≤ x ∧ x ≤ 12 := fun x hx => h x (List.mem_append_left _ hx)
    have hw := h w (List.mem_append_right _ List.mem_cons_self)
    have h1 : ∀ x ∈ us, 1 ≤ x := fun x hx => (hu x hx).1
    have h2 : ∀ x ∈ us ++ [w], 1 ≤ x := fun x hx => (h x hx).1
    have hlen : us.length = k := by
      rw [List.length_append] at hk
      have : [w].length = 1 := rfl
      omega
    have ep : PW (us ++ [w]) = both (PW us) (LW w) := by
      rw [pw_perm h2 (List.perm_append_comm (l₁ := us) (l₂ := [w]))]
      rfl
    rw [rg_snoc, ep, pf_both2 (pw_ok h1) (lw_ok hw.1) (fun p hp => by have := pw_st hu p hp; omega) (fun p hp => by
      simp [LW] at hp
      rcases hp with rfl | rfl | rfl <;> dsimp only <;> omega), conv_comm]
    have e2 : ((w.toNat : Nat) : Int) = w := by omega
    have := ug_conv (w := w.toNat) (by omega) (f := RG us) (n := n) (by omega)
    rw [e2] at this
    rw [this]
    refine conv_congr (fun i hi => ?_) fun i hi => rg_pf k hlen hu (by omega)
    rw [← lw_pf (by omega) (by omega), e2]
end L2.Py
set_option maxRecDepth 10000
namespace L2.Py
open PySem in
theorem bigs_p : ∀ l : List Int, (∀ x ∈ l, x.natAbs < 10 ^ 110) → isPs (l.map D.int) = true ∧ PyData.showableAll (toPs (l.map D.int)) = true ∧ PyData.canLayAll0 (toPs (l.map D.int)) = true ∧ PyData.intsShortAll 111 (toPs (l.map D.int)) = true ∧ PyData.weightAll (toPs (l.map D.int)) ≤ 368 * l.length ∧ PyData.depthAll (toPs (l.map D.int)) = 0
  | [], _ => ⟨rfl, rfl, rfl, rfl, Nat.le_refl _, rfl⟩
  | i :: l, h => by
    have hi := h i List.mem_cons_self
    obtain ⟨h1, h2, h3, h4, h5, h6⟩ := bigs_p l fun x hx => h x (List.mem_cons_of_mem _ hx)
    have hl : i.natAbs.log2 < 366 := by
      by_cases z : i.natAbs = 0
      · rw [z]; decide
      · exact (Nat.log2_lt z).mpr (Nat.lt_of_lt_of_le hi (by decide))
    have hs : (PyData.shown (.int i)).length ≤ 111 := by
      have := int_text_length_le10 (a := i) (k := 110) (by decide) hi
      have e : (PyData.shown (.int i)).length = (toString i).length := by
        show (Str.ofString (toString i)).length = _
        exact ofString_length _
      rw [e]
      exact this
    have hw : PyData.weight (.int i) ≤ 366 := by
      simp only [PyData.weight]
      split <;> omega
    refine ⟨by simp [isPs, isP, h1], ?_, by simp [toPs, toP, PyData.canLayAll0, PyData.canLay0, h3], ?_, ?_, by simp [toPs, toP, PyData.depthAll, PyData.depth, h6]⟩
    · simp only [List.map_cons, toPs, toP, PyData.showableAll, PyData.showable, h2, Bool.and_true, decide_eq_true_eq]
      omega
    · simp only [List.map_cons, toPs, toP, PyData.intsShortAll, PyData.intsShort, h4, Bool.and_true, decide_eq_true_eq]
      exact hs
    · simp only [List.map_cons, toPs, toP, PyData.weightAll, List.length_cons]
      omega
theorem repr_bigs {l : List Int} (h : ∀ x ∈ l, x.natAbs < 10 ^ 110) (hl : l.length ≤ 300) : ∃ s, reprA (eL D.int l) = some s := by
  obtain ⟨a1, a2, a3, a4, a5, a6⟩ := bigs_p l h
  have h2 := PySem.PyData.shown_le 111 (by decide) (toP (.lst (l.map D.int))) (PySem.PyData.leavesShort_of_canLay0 111 _ a3 a4)
  refine ⟨(toP (.lst (l.map D.int))).shown, ?_⟩
  show reprA (.lst (l.map D.int)) = _
  rw [reprA_lst]
  unfold reprO gRepr
  dsimp only
  have hw : (toP (.lst (l.map D.int))).weight ≤ 368 * l.length := a5
  have hd : (toP (.lst (l.map D.int))).depth ≤ 60 := by
    show PySem.PyData.depthAll (toPs (l.map D.int)) + 1 ≤ 60
    rw [a6]
    decide
  have hr : okR (.lst (l.map D.int)) = true := by
    unfold okR
    rw [show isP (.lst (l.map D.int)) = true from a1, show (toP (.lst (l.map D.int))).showable = true from a2]
    simp only [Bool.true_and, Bool.and_eq_true, decide_eq_true_eq]
    exact ⟨hd, by show _ ≤ 16777216; omega⟩
  rw [if_pos hr]
end L2.Py
set_option maxRecDepth 10000
namespace L2.Py
def ins (x : Int) : List Int → List Int
  | [] => [x]
  | y :: l => if x ≤ y then x :: y :: l else y :: ins x l
def insS : List Int → List Int
  | [] => []
  | x :: l => ins x (insS l)
theorem ins_perm (x : Int) : ∀ l : List Int, (ins x l).Perm (x :: l)
  | [] => .refl _
  | y :: l => by
    unfold ins
    split
    · exact .refl _
    · exact ((ins_perm x l).cons y).trans (.swap x y l)
theorem insS_perm : ∀ l : List Int, (insS l).Perm l
  | [] => .refl _
  | x :: l => (ins_perm x (insS l)).trans ((insS_perm l).cons x)
theorem ins_up (x : Int) : ∀ {l : List Int}, l.Pairwise (· ≤ ·) → (ins x l).Pairwise (· ≤ ·)
  | [], _ => by simp [ins]
  | y :: l, h => by
    unfold ins
    have h1 := List.pairwise_cons.mp h
    split
    · rename_i hxy
      refine List.pairwise_cons.mpr ⟨fun z hz => ?_, h⟩
      rcases List.mem_cons.mp hz with rfl | hz
      · exact hxy
      · exact Int.le_trans hxy (h1.1 z hz)
    · rename_i hxy
      refine List.pairwise_cons.mpr ⟨fun z hz => ?_, ins_up x h1.2⟩
      rcases List.mem_cons.mp ((ins_perm x l).mem_iff.mp hz) with rfl | hz
      · omega
      · exact h1.1 z hz
theorem insS_up : ∀ l : List Int, (insS l).Pairwise (· ≤ ·)
  | [] => .nil
  | x :: l => ins_up x (insS_up l)
theorem isort_ins (l : List Int) : isort l = insS l :=
  List.Perm.eq_of_pairwise (le := (· ≤ ·)) (fun a b _ _ h1 h2 => Int.le_antisymm h1 h2) (sorted_isort l) (insS_up l) ((perm_isort l).trans (insS_perm l).symm)
def ssetK (l : List Int) : List Int := insS (dd l)
theorem sset_K (l : List Int) : sset l = ssetK l := isort_ins (dd l)
theorem sset_LK {l : List Int} (h : l.length ≤ 4000 ∧ (dd l).length < 64) : gSSet [eL D.int l] = some (.ow (eL D.int (ssetK l))) := by
  rw [← sset_K]
  exact sset_L h
theorem sortedB_K {l : List Int} : gSortedB [eL D.int l] = some (.ow (eL D.int (insS l))) := by
  rw [← isort_ins]
  exact sortedB_of sortedA_L
theorem sortedB_VK {l : List Int} : gSortedB [eV D.int l] = some (.ow (eL D.int (insS l))) := by
  rw [← isort_ins]
  exact sortedB_V
end L2.Py
set_option maxRecDepth 100000
namespace L2.Py
open PySem PySem.Spec PyProof.Rows
def cget {α : Type} (l : List (PySem.Str × α)) (x : PySem.Str) : Option α := (l.find? fun p => decide (p.1 = x)).map (·.2)
theorem cget_map {α : Type} {m : α → D} (x : PySem.Str) : ∀ l : List (PySem.Str × α), getD (l.map fun p => ((Sum.inr p.1 : Key), m p.2)) (.inr x) = (cget l x).map m
  | [] => rfl
  | p :: l => by
    have ih := cget_map (m := m) x l
    unfold getD cget at ih ⊢
    rw [List.map_cons, List.find?_cons, List.find?_cons]
    dsimp only
    rw [key_rr]
    cases q : decide (p.1 = x) with
    | true => rfl
    | false => exact ih
theorem cg_S {α : Type} {m : α → D} (l : List (PySem.Str × α)) {kd : List (Key × D)} {x : PySem.Str} {y : α} (e : kd = l.map fun p => ((Sum.inr p.1 : Key), m p.2)) (h : cget l x = some y) : gCG kd [D.str x] = some (.im (m y)) := by
  subst e
  show (getD _ (.inr x)).map Tm.im = _
  rw [cget_map, h]
  rfl
theorem ci_S {α : Type} {m : α → D} (l : List (PySem.Str × α)) {kd : List (Key × D)} {x : PySem.Str} (e : kd = l.map fun p => ((Sum.inr p.1 : Key), m p.2)) : gCI false kd [D.str x] = some (.im (.bl (cget l x).isSome)) := by
  subst e
  show some (Tm.im (.bl (getD _ (.inr x)).isSome)) = _
  rw [cget_map, Option.isSome_map]
theorem inV_strs (x : PySem.Str) : ∀ l : List PySem.Str, flDs (l.map D.str) = some (l.map V.str) ∧ inV (.str x) (l.map V.str) = l.any fun y => y == x
  | [] => ⟨rfl, rfl⟩
  | y :: l => by
    obtain ⟨h1, h2⟩ := inV_strs x l
    refine ⟨?_, ?_⟩
    · rw [List.map_cons, List.map_cons]
      unfold flDs
      rw [h1]
      rfl
    · unfold inV at h2 ⊢
      rw [List.map_cons, List.any_cons, List.any_cons, h2]
      rfl
theorem in_VS {x : PySem.Str} {l : List PySem.Str} {neg : Bool} : gIn neg [.str x, eV D.str l] = some (.im (.bl (if neg = true then !(l.any fun y => y == x) else l.any fun y => y == x))) := by
  have hi := inV_strs x l
  unfold eV gIn inD
  simp only [flD, hi.1, hi.2]
theorem in_LS {x : PySem.Str} {l : List PySem.Str} {neg : Bool} : gIn neg [.str x, eL D.str l] = some (.im (.bl (if neg = true then !(l.any fun y => y == x) else l.any fun y => y == x))) := by
  have hi := inV_strs x l
  unfold eL gIn inD
  simp only [flD, hi.1, hi.2]
theorem la_nx {i : Nat} {f : SemS} {e e2 e' : En} (h : f e = .nx e2) (he : leakE i e2 = e') : sLeakA i f e = .nx e' := by
  unfold sLeakA
  rw [h, ← he]
end L2.Py
set_option maxRecDepth 10000
namespace L2.Py
def dotL : List Int → List Int → Int
  | c :: cs, a :: as => c * a + dotL cs as
  | _, _ => 0
def chkRow (cs : List Int) : List Int → Int → List Int → Bool
  | _, _, [] => true
  | rev, n, a :: rest => decide (n * a = dotL cs rev) && chkRow cs (a :: rev) (n + 1) rest
theorem dotL_sm : ∀ (n : Nat) (cs : List Int) (g : Nat → Int), n ≤ cs.length → dotL cs ((List.range n).map g) = Sm n fun i => cs.getD i 0 * g i
  | 0, cs, g, _ => by cases cs <;> rfl
  | n + 1, [], g, h => by simp at h
  | n + 1, c :: cs, g, h => by
    rw [List.range_succ_eq_map, List.map_cons, List.map_map]
    show c * g 0 + dotL cs ((List.range n).map (g ∘ Nat.succ)) = _
    rw [dotL_sm n cs _ (by simpa using h), sm_front]
    rfl
def revF (n : Nat) (f : Nat → Int) : List Int := (List.range n).map fun i => f (n - 1 - i)
theorem revF_succ (n : Nat) (f : Nat → Int) : revF (n + 1) f = f n :: revF n f := by
  unfold revF
  rw [List.range_succ_eq_map, List.map_cons, List.map_map]
  congr 1
  refine List.map_congr_left fun i _ => ?_
  show f (n + 1 - 1 - (i + 1)) = f (n - 1 - i)
  congr 1
  omega
theorem chkRow_ok {cs : List Int} {f : Nat → Int} : ∀ (m n : Nat), n + m ≤ cs.length + 1 → chkRow cs (revF n f) n ((List.range m).map fun i => f (n + i)) = true → ∀ i, i < m → ((n + i : Nat) : Int) * f (n + i) = Sm (n + i) fun j => cs.getD j 0 * f (n + i - 1 - j)
  | 0, n, _, _, i, hi => by omega
  | m + 1, n, hl, h, i, hi => by
    rw [List.range_succ_eq_map, List.map_cons, List.map_map] at h
    unfold chkRow at h
    rw [Bool.and_eq_true] at h
    obtain ⟨h1, h2⟩ := h
    have h1 := of_decide_eq_true h1
    cases i with
    | zero =>
      show ((n : Nat) : Int) * f n = _
      rw [show n + 0 = n from rfl] at h1 ⊢
      rw [h1]
      exact dotL_sm n cs _ (by omega)
    | succ i =>
      have e : ((fun i => f (n + i)) ∘ Nat.succ) = fun i => f (n + 1 + i) := by
        funext i
        show f (n + (i + 1)) = _
        congr 1
        omega
      rw [e, show f (n + 0) :: revF n f = revF (n + 1) f from (revF_succ n f).symm] at h2
      have := chkRow_ok m (n + 1) (by omega) h2 i (by omega)
      rw [show n + 1 + i = n + (i + 1) by omega] at this
      exact this
theorem row_told {F : Nat → Int} {cs as : List Int} (hc : cs = (List.range as.length).map fun k => LF F (k + 1)) (h : chkRow cs [1] 1 as = true) : (1 :: as) = rowOf (as.length + 1) (PF F) := by
  have ea : ∀ (l : List Int), l = (List.range l.length).map fun i => l.getD i 0 := fun l => by
    apply List.ext_getElem?
    intro i
    by_cases hi : i < l.length
    · rw [List.getElem?_map, List.getElem?_range hi]
      simp [List.getD, hi]
    · rw [List.getElem?_eq_none (by omega), List.getElem?_eq_none (by simpa using hi)]
  have hl : cs.length = as.length := by rw [hc]; simp
  let f : Nat → Int := fun n => (1 :: as).getD n 0
  have e1 : as = (List.range as.length).map fun i => f (1 + i) := (ea as).trans (List.map_congr_left fun i hi => by
    show _ = (1 :: as).getD (1 + i) 0
    rw [Nat.add_comm]
    rfl)
  have h' : chkRow cs (revF 1 f) ((1 : Nat) : Int) ((List.range as.length).map fun i => f (1 + i)) = true := by
    rw [← e1]
    exact h
  have key := chkRow_ok as.length 1 (by omega) h'
  have lg : LogTo (as.length + 1) (LF F) f := by
    intro n hn
    cases n with
    | zero =>
      show (0 : Int) * f 0 = _
      rw [conv_at0, lf_zero]
    | succ n =>
      rw [conv_head (lf_zero F)]
      have := key n (by omega)
      rw [show 1 + n = n + 1 by omega] at this
      rw [this]
      refine sm_congr fun i hi => ?_
      have : cs.getD i 0 = LF F (i + 1) := by
        rw [hc]
        simp [List.getD, show i < as.length by omega]
      rw [this, show n + 1 - 1 - i = n + 1 - (i + 1) by omega]
  have hp := pf_only (N := as.length + 1) (F := F) (c := LF F) (f := f) rfl (fun _ _ => rfl) lg
  exact (ea (1 :: as)).trans (List.map_congr_left fun i hi => hp i (List.mem_range.mp hi))
end L2.Py
set_option maxRecDepth 10000
namespace L2.Py
theorem fmod_rng (a : Int) {b : Int} (h : 0 < b) : 0 ≤ a.fmod b ∧ a.fmod b < b := by
  rw [fmod_pos' _ h]
  exact ⟨Int.emod_nonneg _ (by omega), Int.emod_lt_of_pos _ h⟩
def potH (A B M B2 M3 : Int) (l : List Int) (k : Int) : Option (List Int) :=
  (mulI A k).bind fun (y1 : Int) => (if (decide (k < (l.length : Int))) = true then ((geti l k).bind fun (y4 : Int) => some (Int.natAbs y4 : Int)) else (some (y1 + B))).bind fun (s3 : Int) => (powI 10 18).bind fun (y5 : Int) => (mulI 2 k).bind fun (y6 : Int) => (powI (y6 + 3) 3).bind fun (y7 : Int) => (mulI ((Int.fmod s3 M) + B2) y7).bind fun (y8 : Int) => some [(max 0 (s3 - y5)), ((Int.fmod y8 M3) + 1)]
theorem potH_ok {A B M B2 M3 : Int} (hA : 0 ≤ A ∧ A ≤ 2 ^ 32) (hM : 0 < M ∧ M ≤ 2 ^ 32) (hB : 0 ≤ B2 ∧ B2 ≤ 2 ^ 32) (hM3 : 0 < M3 ∧ M3 ≤ 4294967295) (l : List Int) : ∃ p, potH A B M B2 M3 l 0 = some p ∧ PotOk p := by
  unfold potH
  rw [mulI_s (by omega) (by decide), bnd_some]
  have h : ∃ s : Int, (if (decide ((0 : Int) < (l.length : Int))) = true then ((geti l 0).bind fun (y4 : Int) => some (Int.natAbs y4 : Int)) else (some (A * 0 + B))) = some s := by
    cases l with
    | nil => exact ⟨_, rfl⟩
    | cons a l => rw [if_pos (decide_eq_true (by rw [List.length_cons]; omega)), geti0]; exact ⟨_, rfl⟩
  obtain ⟨s, hs⟩ := h
  rw [hs, bnd_some, powI_s (by decide) (by decide) (by decide), bnd_some, mulI_s (by decide) (by decide), bnd_some, powI_s (by decide) (by decide) (by decide), bnd_some]
  have h1 := fmod_rng s (b := M) hM.1
  rw [mulI_s (by omega) (by decide), bnd_some]
  have h2 := fmod_rng ((s.fmod M + B2) * (2 * 0 + 3) ^ (3 : Int).toNat) (b := M3) hM3.1
  exact ⟨_, rfl, _, _, rfl, by omega, by omega⟩
def potJ (A B M F G H M3 : Int) (l : List Int) (k : Int) : Option (List Int) :=
  (if (decide (k < (l.length : Int))) = true then ((geti l k).bind fun (y4 : Int) => some (Int.natAbs y4 : Int)) else ((mulI A k).bind fun (y5 : Int) => some (y5 + B))).bind fun (s3 : Int) => (powI 10 18).bind fun (y6 : Int) => (mulI (Int.fmod s3 M) F).bind fun (y7 : Int) => (mulI G k).bind fun (y8 : Int) => some [(max 0 (s3 - y6)), ((Int.fmod ((y7 + y8) + H) M3) + 1)]
theorem potJ_ok {A B M F G H M3 : Int} (hA : 0 ≤ A ∧ A ≤ 2 ^ 32) (hM : 0 < M ∧ M ≤ 2 ^ 32) (hF : 0 ≤ F ∧ F ≤ 2 ^ 32) (hG : 0 ≤ G ∧ G ≤ 2 ^ 32) (hM3 : 0 < M3 ∧ M3 ≤ 4294967295) (l : List Int) : ∃ p, potJ A B M F G H M3 l 0 = some p ∧ PotOk p := by
  unfold potJ
  have h : ∃ s : Int, (if (decide ((0 : Int) < (l.length : Int))) = true then ((geti l 0).bind fun (y4 : Int) => some (Int.natAbs y4 : Int)) else ((mulI A 0).bind fun (y5 : Int) => some (y5 + B))) = some s := by
    cases l with
    | nil =>
      rw [if_neg (by simp), mulI_s (by omega) (by decide), bnd_some]
      exact ⟨_, rfl⟩
    | cons a l => rw [if_pos (decide_eq_true (by rw [List.length_cons]; omega)), geti0]; exact ⟨_, rfl⟩
  obtain ⟨s, hs⟩ := h
  rw [hs, bnd_some, powI_s (by decide) (by decide) (by decide), bnd_some]
  have h1 := fmod_rng s (b := M) hM.1
  rw [mulI_s (by omega) (by omega), bnd_some, mulI_s (by omega) (by decide), bnd_some]
  have h2 := fmod_rng (s.fmod M * F + G * 0 + H) (b := M3) hM3.1
  exact ⟨_, rfl, _, _, rfl, by omega, by omega⟩
theorem pick3_of {α : Type} {dr : List Int → Int → Option (Int × List Int)} (hd : ∀ {p m}, PotOk p → 0 < m → m < 1073741824 → ∃ r p', dr p m = some (r, p') ∧ 0 ≤ r ∧ r < m ∧ PotOk p') {p : List Int} {l : List α} (hp : PotOk p) (h0 : 0 < l.length) (h1 : l.length < 1073741824) :
    ∃ x p', ((dr p (l.length : Int)).bind fun (y1 : (Int × (List Int))) => (geti l y1.1).bind fun (y2 : α) => some (y2, y1.2, l)) = some (x, p', l) ∧ x ∈ l ∧ PotOk p' := by
  obtain ⟨r, p', h2, h3, h4, h5⟩ := hd (m := (l.length : Int)) hp (by omega) (by omega)
  obtain ⟨x, k1, k2, _⟩ := geti_mem h3 h4
  refine ⟨x, p', ?_, k2, h5⟩
  rw [h2, bnd_some, k1]
  rfl
end L2.Py
set_option maxRecDepth 100000
namespace Pf
open PySem PySem.Spec PyProof.Rows L2 L2.Py
def top (i : Nat) : Stmt := PySem.Challenge.pw_etaparts_k59_whole_divisor_sums_as_ways.main.body.getD i (.Pass ⟨0, 0, 0, 0⟩)
abbrev t_law_draw : Stmt := top 38
theorem s_law_draw : FnScope ["_law_pot_here", "_law_many", "_law_digit"] ["_law_pot_here", "_law_many"] (defScope t_law_draw) := ⟨rfl, rfl, rfl, by decide +kernel, rfl, by decide +kernel, by decide +kernel⟩
def e_law_draw : SemS := sSeq (sIf (sTruC (sOp (gCmp cGt) (s2 (sOp gIx (s2 (sV 0) (sK (.int 0)))) (sK (.int 0))))) (sSeq (sAsg (gT (gsCons (gPut 0 (sK (.int 0))) (gsCons (gN 2) (gsNil)))) (sOp gDivmod (sCons (sOp gIx (s2 (sV 0) (sK (.int 0)))) (sCons (sV 1) (sNil))))) (sRet (sV 2))) (sSkip)) (sSeq (sAsg (gPut 0 (sK (.int 1))) (sOp gMod (s2 (sOp gInt (sCons (sOp gAdd (s2 (sOp gMul (s2 (sOp gIx (s2 (sV 0) (sK (.int 1)))) (sK (.int 39373)))) (sK (.int 1349)))) (sNil))) (sK (.int 2147483629))))) (sRet (sOp gMod (s2 (sOp gInt (sCons (sOp gDiv (s2 (sOp gMod (s2 (sOp gInt (sCons (sOp gMul (s2 (sOp gIx (s2 (sV 0) (sK (.int 1)))) (sOp gIx (s2 (sV 0) (sK (.int 1)))))) (sNil))) (sK (.int 2147483587)))) (sK (.int 13)))) (sNil))) (sV 1)))))
def f_law_draw : Fn := fnD 2 3 e_law_draw
set_option maxHeartbeats 0 in
theorem ok_law_draw {P : Program} {w : World} {K : PySem.W.Frag} {mg : Str → Option Value} {base : Heap} {a : Addr} {d : FuncData} (F : Fun K "_law_draw" "_law_draw" t_law_draw a d) (m_divmod : mg "divmod" = none) (m_int : mg "int" = none) :
    FnG P w K mg base 1 a d ["_law_pot_here", "_law_many"] (spD K mg f_law_draw) :=
  fn_ok F s_law_draw rfl rfl fun cdv A outer s H E room grd tk po => by
    have hu := hu_room room
    have hu1 := hu1_of hu
    have nd := s_law_draw.nd
    exact (js_cons (js_if (jb_gt (je_ix (je_var (i := 0) rfl (by first | exact .inl rfl | exact .inr (.inl rfl) | exact .inr (.inr rfl))) je_k_int (fun _ _ => rfl)) je_k_int) (js_cons (js_asg (jc_divmod (by rfl) m_divmod (ja_cons (je_ix (je_var (i := 0) rfl (by first | exact .inl rfl | exact .inr (.inl rfl) | exact .inr (.inr rfl))) je_k_int (fun _ _ => rfl)) (ja_cons (je_var (i := 1) rfl (by first | exact .inl rfl | exact .inr (.inl rfl) | exact .inr (.inr rfl))) ja_nil))) (jg_tup rfl (jgs_cons (jg_put (W := NoX) (je_var (i := 0) rfl (by first | exact .inl rfl | exact .inr (.inl rfl) | exact .inr (.inr rfl))) je_k_int) (jgs_cons (jg_name (i := 2) nd rfl (by first | exact .inl rfl | exact .inr rfl)) jgs_nil)) rfl rfl (gl_cons (gl_cons gl_nil)))) (js_one (js_ret (je_var (i := 2) rfl (by first | exact .inl rfl | exact .inr (.inl rfl) | exact .inr (.inr rfl)))))) js_nil) (js_cons (js_asg (je_mod (jc_int (by rfl) m_int (ja_cons (je_add (je_mul (je_ix (je_var (i := 0) rfl (by first | exact .inl rfl | exact .inr (.inl rfl) | exact .inr (.inr rfl))) je_k_int (fun _ _ => rfl)) je_k_int) je_k_int) ja_nil)) je_k_int) (jg_put (W := NoX) (je_var (i := 0) rfl (by first | exact .inl rfl | exact .inr (.inl rfl) | exact .inr (.inr rfl))) je_k_int)) (js_one (js_ret (je_mod (jc_int (by rfl) m_int (ja_cons (je_div (je_mod (jc_int (by rfl) m_int (ja_cons (je_mul (je_ix (je_var (i := 0) rfl (by first | exact .inl rfl | exact .inr (.inl rfl) | exact .inr (.inr rfl))) je_k_int (fun _ _ => rfl)) (je_ix (je_var (i := 0) rfl (by first | exact .inl rfl | exact .inr (.inl rfl) | exact .inr (.inr rfl))) je_k_int (fun _ _ => rfl))) ja_nil)) je_k_int) je_k_int) ja_nil)) (je_var (i := 1) rfl (by first | exact .inl rfl | exact .inr (.inl rfl) | exact .inr (.inr rfl))))))))
abbrev t_law_two : Stmt := top 39
theorem s_law_two : FnScope ["_law_many", "_law_is_round", "_law_found", "_law_x", "_law_y", "_law_value"] ["_law_many", "_law_is_round"] (defScope t_law_two) := ⟨rfl, rfl, rfl, by decide +kernel, rfl, by decide +kernel, by decide +kernel⟩
def e_law_two : SemS := sSeq (sSet 2 (sOp gMul (s2 (sLst (sCons (sK (.int 0)) (sNil))) (sV 0)))) (sSeq (sFor (gN 3) (sRng rng2 (sCons (sOp gNeg (sCons (sV 0) sNil)) (sCons (sOp gAdd (s2 (sV 0) (sK (.int 1)))) (sNil)))) (sFor (gN 4) (sRng rng2 (sCons (sOp gNeg (sCons (sV 0) sNil)) (sCons (sOp gAdd (s2 (sV 0) (sK (.int 1)))) (sNil)))) (sSeq (sSet 5 (sOp gAdd (s2 (sOp gAdd (s2 (sOp gMul (s2 (sV 3) (sV 3))) (sOp gMul (s2 (sV 4) (sV 4))))) (sIte (sTru (sV 1)) (sOp gMul (s2 (sV 3) (sV 4))) (sK (.int 0)))))) (sIf (sTruC (sOp (gCmp cLt) (s2 (sV 5) (sV 0)))) (sAsg (gPut 2 (sV 5)) (sOp gAdd (s2 (sOp gIx (s2 (sV 2) (sV 5))) (sK (.int 1))))) (sSkip))))) (sRet (sV 2)))
def f_law_two : Fn := fnD 2 6 e_law_two
set_option maxHeartbeats 0 in
theorem ok_law_two {P : Program} {w : World} {K : PySem.W.Frag} {mg : Str → Option Value} {base : Heap} {a : Addr} {d : FuncData} (F : Fun K "_law_two" "_law_two" t_law_two a d) (m_range : mg "range" = none) :
    FnG P w K mg base 1 a d ["_law_many", "_law_is_round"] (spD K mg f_law_two) :=
  fn_ok F s_law_two rfl rfl fun cdv A outer s H E room grd tk po => by
    have hu := hu_room room
    have hu1 := hu1_of hu
    have nd := s_law_two.nd
    exact (js_cons (js_set (i := 2) nd rfl (by first | exact .inl rfl | exact .inr rfl) (je_mul (je_lst (ja_cons je_k_int ja_nil)) (je_var (i := 0) rfl (by first | exact .inl rfl | exact .inr (.inl rfl) | exact .inr (.inr rfl))))) (js_cons (js_for po rfl (ji_range2 (by rfl) m_range (ja_cons (je_neg (je_var (i := 0) rfl (by first | exact .inl rfl | exact .inr (.inl rfl) | exact .inr (.inr rfl)))) (ja_cons (je_add (je_var (i := 0) rfl (by first | exact .inl rfl | exact .inr (.inl rfl) | exact .inr (.inr rfl))) je_k_int) ja_nil))) (jg_name (i := 3) nd rfl (by first | exact .inl rfl | exact .inr rfl)) (js_one (js_for po rfl (ji_range2 (by rfl) m_range (ja_cons (je_neg (je_var (i := 0) rfl (by first | exact .inl rfl | exact .inr (.inl rfl) | exact .inr (.inr rfl)))) (ja_cons (je_add (je_var (i := 0) rfl (by first | exact .inl rfl | exact .inr (.inl rfl) | exact .inr (.inr rfl))) je_k_int) ja_nil))) (jg_name (i := 4) nd rfl (by first | exact .inl rfl | exact .inr rfl)) (js_cons (js_set (i := 5) nd rfl (by first | exact .inl rfl | exact .inr rfl) (je_add (je_add (je_mul (je_var (i := 3) rfl (by first | exact .inl rfl | exact .inr (.inl rfl) | exact .inr (.inr rfl))) (je_var (i := 3) rfl (by first | exact .inl rfl | exact .inr (.inl rfl) | exact .inr (.inr rfl)))) (je_mul (je_var (i := 4) rfl (by first | exact .inl rfl | exact .inr (.inl rfl) | exact .inr (.inr rfl))) (je_var (i := 4) rfl (by first | exact .inl rfl | exact .inr (.inl rfl) | exact .inr (.inr rfl))))) (je_ite (jb_tru (je_var (i := 1) rfl (by first | exact .inl rfl | exact .inr (.inl rfl) | exact .inr (.inr rfl)))) (je_mul (je_var (i := 3) rfl (by first | exact .inl rfl | exact .inr (.inl rfl) | exact .inr (.inr rfl))) (je_var (i := 4) rfl (by first | exact .inl rfl | exact .inr (.inl rfl) | exact .inr (.inr rfl)))) je_k_int))) (js_one (js_if (jb_lt (je_var (i := 5) rfl (by first | exact .inl rfl | exact .inr (.inl rfl) | exact .inr (.inr rfl))) (je_var (i := 0) rfl (by first | exact .inl rfl | exact .inr (.inl rfl) | exact .inr (.inr rfl)))) (js_one (js_asg (je_add (je_ix (je_var (i := 2) rfl (by first | exact .inl rfl | exact .inr (.inl rfl) | exact .inr (.inr rfl))) (je_var (i := 5) rfl (by first | exact .inl rfl | exact .inr (.inl rfl) | exact .inr (.inr rfl))) (fun _ _ => rfl)) je_k_int) (jg_put (W := NoX) (je_var (i := 2) rfl (by first | exact .inl rfl | exact .inr (.inl rfl) | exact .inr (.inr rfl))) (je_var (i := 5) rfl (by first | exact .inl rfl | exact .inr (.inl rfl) | exact .inr (.inr rfl)))))) js_nil)))))) (js_one (js_ret (je_var (i := 2) rfl (by first | exact .inl rfl | exact .inr (.inl rfl) | exact .inr (.inr rfl)))))))
abbrev t_is_word : Stmt := top 25
theorem s_is_word : FnScope ["value"] ["value"] (defScope t_is_word) := ⟨rfl, rfl, rfl, by decide +kernel, rfl, by decide +kernel, by decide +kernel⟩
def e_is_word : SemS := sRet (sAndV (sOp gIsi (sCons (sV 0) (sCons (sK (.ty "str")) (sNil)))) (sOp (gIn false) (s2 (sV 0) (sK (.tup [.str "third", .str "quarter", .str "two", .str "four", .str "six"])))))
def f_is_word : Fn := fnD 1 1 e_is_word
set_option maxHeartbeats 0 in
theorem ok_is_word {P : Program} {w : World} {K : PySem.W.Frag} {mg : Str → Option Value} {base : Heap} {a : Addr} {d : FuncData} (F : Fun K "is_word" "is_word" t_is_word a d) {a_WORDS : Addr} (r_WORDS : ∀ Hs, Rp K Hs (.tup [.str "third", .str "quarter", .str "two", .str "four", .str "six"]) (.ref a_WORDS)) (m_WORDS : mg "WORDS" = some (.ref a_WORDS)) (m_isinstance : mg "isinstance" = none) (m_str : mg "str" = none) :
    FnG P w K mg base 1 a d ["value"] (spD K mg f_is_word) :=
  fn_ok F s_is_word rfl rfl fun cdv A outer s H E room grd tk po => by
    have hu := hu_room room
    have hu1 := hu1_of hu
    have nd := s_is_word.nd
    exact (js_one (js_ret (je_and (jc_isinstance (by rfl) m_isinstance (ja_cons (je_var (i := 0) rfl (by first | exact .inl rfl | exact .inr (.inl rfl) | exact .inr (.inr rfl))) (ja_cons (je_tyname (n := "str") (by rfl) m_str (by decide +kernel)) ja_nil))) (je_one (je_in (je_var (i := 0) rfl (by first | exact .inl rfl | exact .inr (.inl rfl) | exact .inr (.inr rfl))) (je_glob (v := .ref a_WORDS) (by rfl) m_WORDS rfl r_WORDS))))))
abbrev t_is_integer : Stmt := top 5
theorem s_is_integer : FnScope ["value"] ["value"] (defScope t_is_integer) := ⟨rfl, rfl, rfl, by decide +kernel, rfl, by decide +kernel, by decide +kernel⟩
def e_is_integer : SemS := sRet (sAndV (sOp gIsi (sCons (sV 0) (sCons (sK (.ty "int")) (sNil)))) (sNotV (sOp gIsi (sCons (sV 0) (sCons (sK (.ty "bool")) (sNil))))))
def f_is_integer : Fn := fnD 1 1 e_is_integer
set_option maxHeartbeats 0 in
theorem ok_is_integer {P : Program} {w : World} {K : PySem.W.Frag} {mg : Str → Option Value} {base : Heap} {a : Addr} {d : FuncData} (F : Fun K "is_integer" "is_integer" t_is_integer a d) (m_isinstance : mg "isinstance" = none) (m_int : mg "int" = none) (m_bool : mg "bool" = none) :
    FnG P w K mg base 1 a d ["value"] (spD K mg f_is_integer) :=
  fn_ok F s_is_integer rfl rfl fun cdv A outer s H E room grd tk po => by
    have hu := hu_room room
    have hu1 := hu1_of hu
    have nd := s_is_integer.nd
    exact (js_one (js_ret (je_and (jc_isinstance (by rfl) m_isinstance (ja_cons (je_var (i := 0) rfl (by first | exact .inl rfl | exact .inr (.inl rfl) | exact .inr (.inr rfl))) (ja_cons (je_tyname (n := "int") (by rfl) m_int (by decide +kernel)) ja_nil))) (je_one (je_not (jc_isinstance (by rfl) m_isinstance (ja_cons (je_var (i := 0) rfl (by first | exact .inl rfl | exact .inr (.inl rfl) | exact .inr (.inr rfl))) (ja_cons (je_tyname (n := "bool") (by rfl) m_bool (by decide +kernel)) ja_nil))))))))
abbrev t_is_count : Stmt := top 6
theorem s_is_count : FnScope ["value"] ["value"] (defScope t_is_count) := ⟨rfl, rfl, rfl, by decide +kernel, rfl, by decide +kernel, by decide +kernel⟩
def e_is_count : SemS := sRet (sAndV (sCall f_is_integer (sCons (sV 0) (sNil))) (sOp (gCmp cGe) (s2 (sV 0) (sK (.int 0)))))
def f_is_count : Fn := fnD 1 1 e_is_count
set_option maxHeartbeats 0 in
theorem ok_is_count {P : Program} {w : World} {K : PySem.W.Frag} {mg : Str → Option Value} {base : Heap} {a : Addr} {d : FuncData} (F : Fun K "is_count" "is_count" t_is_count a d) {a_is_integer : Addr} {d_is_integer : FuncData} (G_is_integer : FnG P w K mg base 1 a_is_integer d_is_integer ["value"] (spD K mg f_is_integer)) (m_is_integer : mg "is_integer" = some (.ref a_is_integer)) (k_is_integer : PySem.W.keepIn K (.ref a_is_integer) = true) (b_is_integer : Binds K d_is_integer ["value"] []) :
    FnG P w K mg base 2 a d ["value"] (spD K mg f_is_count) :=
  fn_ok F s_is_count rfl rfl fun cdv A outer s H E room grd tk po => by
    have hu := hu_room room
    have hu1 := hu1_of hu
    have nd := s_is_count.nd
    exact (js_one (js_ret (je_and (je_call (G_is_integer.mono (by decide)) room grd (by rfl) m_is_integer k_is_integer b_is_integer tk (ja_cons (je_var (i := 0) rfl (by first | exact .inl rfl | exact .inr (.inl rfl) | exact .inr (.inr rfl))) ja_nil)) (je_one (je_ge (je_var (i := 0) rfl (by first | exact .inl rfl | exact .inr (.inl rfl) | exact .inr (.inr rfl))) je_k_int)))))
abbrev t_is_divisor_value : Stmt := top 26
theorem s_is_divisor_value : FnScope ["value"] ["value"] (defScope t_is_divisor_value) := ⟨rfl, rfl, rfl, by decide +kernel, rfl, by decide +kernel, by decide +kernel⟩
def e_is_divisor_value : SemS := sSeq (sIf (sOrB (sNotB (sTru (sOp gIsi (sCons (sV 0) (sCons (sK (.ty "tuple")) (sNil)))))) (sOrB (sTruC (sOp gNe (s2 (sOp gLen (sCons (sV 0) (sNil))) (sK (.int 3))))) (sOrB (sNotB (sTru (sOp gIsi (sCons (sOp gIx (s2 (sV 0) (sK (.int 0)))) (sCons (sK (.ty "str")) (sNil)))))) (sTruC (sOp gNe (s2 (sOp gIx (s2 (sV 0) (sK (.int 0)))) (sK (.str "divisors")))))))) (sRet (sK (.bl false))) (sSkip)) (sSeq (sIf (sOrB (sNotB (sTru (sCall f_is_word (sCons (sOp gIx (s2 (sV 0) (sK (.int 1)))) (sNil))))) (sOrB (sNotB (sTru (sCall f_is_count (sCons (sOp gIx (s2 (sV 0) (sK (.int 2)))) (sNil))))) (sNotB (sTruC (sChn cLe cLe (sK (.int 1)) (sOp gIx (s2 (sV 0) (sK (.int 2)))) (sK (.int 60))))))) (sRet (sK (.bl false))) (sSkip)) (sRet (sAndV (sOp (gCmp cLe) (s2 (sOp gMul (s2 (sOp (gCG [(.inr "third", .int 3), (.inr "quarter", .int 4), (.inr "two", .int 1), (.inr "four", .int 1), (.inr "six", .int 1)]) (sCons (sOp gIx (s2 (sV 0) (sK (.int 1)))) sNil)) (sOp gIx (s2 (sV 0) (sK (.int 2)))))) (sK (.int 120)))) (sOrV (sOp gNe (s2 (sOp gIx (s2 (sV 0) (sK (.int 1)))) (sK (.str "two")))) (sOp (gCmp cGt) (s2 (sOp gIx (s2 (sV 0) (sK (.int 2)))) (sK (.int 1))))))))
def f_is_divisor_value : Fn := fnD 1 1 e_is_divisor_value
set_option maxHeartbeats 0 in
theorem ok_is_divisor_value {P : Program} {w : World} {K : PySem.W.Frag} {mg : Str → Option Value} {base : Heap} {a : Addr} {d : FuncData} (F : Fun K "is_divisor_value" "is_divisor_value" t_is_divisor_value a d) {a_is_word : Addr} {d_is_word : FuncData} (G_is_word : FnG P w K mg base 1 a_is_word d_is_word ["value"] (spD K mg f_is_word)) (m_is_word : mg "is_word" = some (.ref a_is_word)) (k_is_word : PySem.W.keepIn K (.ref a_is_word) = true) (b_is_word : Binds K d_is_word ["value"] []) {a_is_count : Addr} {d_is_count : FuncData} (G_is_count : FnG P w K mg base 2 a_is_count d_is_count ["value"] (spD K mg f_is_count)) (m_is_count : mg "is_count" = some (.ref a_is_count)) (k_is_count : PySem.W.keepIn K (.ref a_is_count) = true) (b_is_count : Binds K d_is_count ["value"] []) {u_MOST_STEP : Tok} (m_MOST_STEP : mg "MOST_STEP" = some (.int 60 u_MOST_STEP)) {a_LEVELS : Addr} (c_LEVELS : CD w K a_LEVELS [(.inr "third", .int 3), (.inr "quarter", .int 4), (.inr "two", .int 1), (.inr "four", .int 1), (.inr "six", .int 1)]) (m_LEVELS : mg "LEVELS" = some (.ref a_LEVELS)) {u_MOST_LEVEL : Tok} (m_MOST_LEVEL : mg "MOST_LEVEL" = some (.int 120 u_MOST_LEVEL)) (m_isinstance : mg "isinstance" = none) (m_tuple : mg "tuple" = none) (m_len : mg "len" = none) (m_str : mg "str" = none) :
    FnG P w K mg base 3 a d ["value"] (spD K mg f_is_divisor_value) :=
  fn_ok F s_is_divisor_value rfl rfl fun cdv A outer s H E room grd tk po => by
    have hu := hu_room room
    have hu1 := hu1_of hu
    have nd := s_is_divisor_value.nd
    exact (js_cons (js_if (jb_w (jw_or (jb_not (jb_tru (jc_isinstance (by rfl) m_isinstance (ja_cons (je_var (i := 0) rfl (by first | exact .inl rfl | exact .inr (.inl rfl) | exact .inr (.inr rfl))) (ja_cons (je_tyname (n := "tuple") (by rfl) m_tuple (by decide +kernel)) ja_nil))))) (jw_or (jb_ne hu (jc_len (by rfl) m_len (ja_cons (je_var (i := 0) rfl (by first | exact .inl rfl | exact .inr (.inl rfl) | exact .inr (.inr rfl))) ja_nil)) je_k_int) (jw_or (jb_not (jb_tru (jc_isinstance (by rfl) m_isinstance (ja_cons (je_ix (je_var (i := 0) rfl (by first | exact .inl rfl | exact .inr (.inl rfl) | exact .inr (.inr rfl))) je_k_int (fun _ _ => rfl)) (ja_cons (je_tyname (n := "str") (by rfl) m_str (by decide +kernel)) ja_nil))))) (jw_or1 (jb_ne hu (je_ix (je_var (i := 0) rfl (by first | exact .inl rfl | exact .inr (.inl rfl) | exact .inr (.inr rfl))) je_k_int (fun _ _ => rfl)) je_k_str)))))) (js_one (js_ret je_k_bl)) js_nil) (js_cons (js_if (jb_w (jw_or (jb_not (jb_tru (je_call (G_is_word.mono (by decide)) room grd (by rfl) m_is_word k_is_word b_is_word tk (ja_cons (je_ix (je_var (i := 0) rfl (by first | exact .inl rfl | exact .inr (.inl rfl) | exact .inr (.inr rfl))) je_k_int (fun _ _ => rfl)) ja_nil)))) (jw_or (jb_not (jb_tru (je_call (G_is_count.mono (by decide)) room grd (by rfl) m_is_count k_is_count b_is_count tk (ja_cons (je_ix (je_var (i := 0) rfl (by first | exact .inl rfl | exact .inr (.inl rfl) | exact .inr (.inr rfl))) je_k_int (fun _ _ => rfl)) ja_nil)))) (jw_or1 (jb_not (jb_chain op_le op_le je_k_int (je_ix (je_var (i := 0) rfl (by first | exact .inl rfl | exact .inr (.inl rfl) | exact .inr (.inr rfl))) je_k_int (fun _ _ => rfl)) (je_glob (v := .int 60) (by rfl) m_MOST_STEP ⟨_, rfl⟩ fun _ => rfl))))))) (js_one (js_ret je_k_bl)) js_nil) (js_one (js_ret (je_and (je_le (je_mul (je_cget (by rfl) m_LEVELS c_LEVELS (je_ix (je_var (i := 0) rfl (by first | exact .inl rfl | exact .inr (.inl rfl) | exact .inr (.inr rfl))) je_k_int (fun _ _ => rfl))) (je_ix (je_var (i := 0) rfl (by first | exact .inl rfl | exact .inr (.inl rfl) | exact .inr (.inr rfl))) je_k_int (fun _ _ => rfl))) (je_glob (v := .int 120) (by rfl) m_MOST_LEVEL ⟨_, rfl⟩ fun _ => rfl)) (je_one (je_or (je_ne hu (je_ix (je_var (i := 0) rfl (by first | exact .inl rfl | exact .inr (.inl rfl) | exact .inr (.inr rfl))) je_k_int (fun _ _ => rfl)) je_k_str) (je_one (je_gt (je_ix (je_var (i := 0) rfl (by first | exact .inl rfl | exact .inr (.inl rfl) | exact .inr (.inr rfl))) je_k_int (fun _ _ => rfl)) je_k_int)))))))))
abbrev t_want_divisors : Stmt := top 27
theorem s_want_divisors : FnScope ["value"] ["value"] (defScope t_want_divisors) := ⟨rfl, rfl, rfl, by decide +kernel, rfl, by decide +kernel, by decide +kernel⟩
def e_want_divisors : SemS := sSeq (sIf (sNotB (sTru (sCall f_is_divisor_value (sCons (sV 0) (sNil))))) (sNo) (sSkip)) (sRet (sV 0))
def f_want_divisors : Fn := fnD 1 1 e_want_divisors
set_option maxHeartbeats 0 in
theorem ok_want_divisors {P : Program} {w : World} {K : PySem.W.Frag} {mg : Str → Option Value} {base : Heap} {a : Addr} {d : FuncData} (F : Fun K "want_divisors" "want_divisors" t_want_divisors a d) {a_is_divisor_value : Addr} {d_is_divisor_value : FuncData} (G_is_divisor_value : FnG P w K mg base 3 a_is_divisor_value d_is_divisor_value ["value"] (spD K mg f_is_divisor_value)) (m_is_divisor_value : mg "is_divisor_value" = some (.ref a_is_divisor_value)) (k_is_divisor_value : PySem.W.keepIn K (.ref a_is_divisor_value) = true) (b_is_divisor_value : Binds K d_is_divisor_value ["value"] []) :
    FnG P w K mg base 4 a d ["value"] (spD K mg f_want_divisors) :=
  fn_ok F s_want_divisors rfl rfl fun cdv A outer s H E room grd tk po => by
    have hu := hu_room room
    have hu1 := hu1_of hu
    have nd := s_want_divisors.nd
    exact (js_cons (js_if (jb_not (jb_tru (je_call (G_is_divisor_value.mono (by decide)) room grd (by rfl) m_is_divisor_value k_is_divisor_value b_is_divisor_value tk (ja_cons (je_var (i := 0) rfl (by first | exact .inl rfl | exact .inr (.inl rfl) | exact .inr (.inr rfl))) ja_nil)))) (js_one js_never) js_nil) (js_one (js_ret (je_var (i := 0) rfl (by first | exact .inl rfl | exact .inr (.inl rfl) | exact .inr (.inr rfl))))))
abbrev t_divisors_in : Stmt := top 11
theorem s_divisors_in : FnScope ["number", "low", "high", "trial"] ["number"] (defScope t_divisors_in) := ⟨rfl, rfl, rfl, by decide +kernel, rfl, by decide +kernel, by decide +kernel⟩
def e_divisors_in : SemS := sSeq (sPar [1, 2, 3] (sCons (sLst (sNil)) (sCons (sLst (sNil)) (sCons (sK (.int 1)) (sNil))))) (sSeq (sWhile (sTruC (sOp (gCmp cLe) (s2 (sOp gMul (s2 (sV 3) (sV 3))) (sV 0)))) (sSeq (sIf (sTruC (sOp gEq (s2 (sOp gMod (s2 (sV 0) (sV 3))) (sK (.int 0))))) (sSeq (sExpr (sMutL 1 (sCons (sV 3) sNil) mApp)) (sIf (sTruC (sOp (gCmp cLt) (s2 (sOp gMul (s2 (sV 3) (sV 3))) (sV 0)))) (sExpr (sMutL 2 (sCons (sOp gDiv (s2 (sV 0) (sV 3))) sNil) mApp)) (sSkip))) (sSkip)) (sSet 3 (sOp gAdd (s2 (sV 3) (sK (.int 1))))))) (sRet (sOp gAdd (s2 (sV 1) (sOp gRev (sCons (sV 2) sNil))))))
def f_divisors_in : Fn := fnD 1 4 e_divisors_in
set_option maxHeartbeats 0 in
theorem ok_divisors_in {P : Program} {w : World} {K : PySem.W.Frag} {mg : Str → Option Value} {base : Heap} {a : Addr} {d : FuncData} (F : Fun K "divisors_in" "divisors_in" t_divisors_in a d) :
    FnG P w K mg base 1 a d ["number"] (spD K mg f_divisors_in) :=
  fn_ok F s_divisors_in rfl rfl fun cdv A outer s H E room grd tk po => by
    have hu := hu_room room
    have hu1 := hu1_of hu
    have nd := s_divisors_in.nd
    exact (js_cons (js_par3 (i := 1) (j := 2) (l := 3) rfl nd rfl rfl rfl (by decide) (by decide) (by decide) rfl rfl rfl (ja_cons (je_lst ja_nil) (ja_cons (je_lst ja_nil) (ja_cons je_k_int ja_nil))) (by rfl)) (js_cons (js_while po (jb_le (je_mul (je_var (i := 3) rfl (by first | exact .inl rfl | exact .inr (.inl rfl) | exact .inr (.inr rfl))) (je_var (i := 3) rfl (by first | exact .inl rfl | exact .inr (.inl rfl) | exact .inr (.inr rfl)))) (je_var (i := 0) rfl (by first | exact .inl rfl | exact .inr (.inl rfl) | exact .inr (.inr rfl)))) (js_cons (js_if (jb_eq hu (je_mod (je_var (i := 0) rfl (by first | exact .inl rfl | exact .inr (.inl rfl) | exact .inr (.inr rfl))) (je_var (i := 3) rfl (by first | exact .inl rfl | exact .inr (.inl rfl) | exact .inr (.inr rfl)))) je_k_int) (js_cons (js_expr (je_append (je_var (i := 1) rfl (by first | exact .inl rfl | exact .inr (.inl rfl) | exact .inr (.inr rfl))) (je_var (i := 3) rfl (by first | exact .inl rfl | exact .inr (.inl rfl) | exact .inr (.inr rfl))))) (js_one (js_if (jb_lt (je_mul (je_var (i := 3) rfl (by first | exact .inl rfl | exact .inr (.inl rfl) | exact .inr (.inr rfl))) (je_var (i := 3) rfl (by first | exact .inl rfl | exact .inr (.inl rfl) | exact .inr (.inr rfl)))) (je_var (i := 0) rfl (by first | exact .inl rfl | exact .inr (.inl rfl) | exact .inr (.inr rfl)))) (js_one (js_expr (je_append (je_var (i := 2) rfl (by first | exact .inl rfl | exact .inr (.inl rfl) | exact .inr (.inr rfl))) (je_div (je_var (i := 0) rfl (by first | exact .inl rfl | exact .inr (.inl rfl) | exact .inr (.inr rfl))) (je_var (i := 3) rfl (by first | exact .inl rfl | exact .inr (.inl rfl) | exact .inr (.inr rfl))))))) js_nil))) js_nil) (js_one (js_set (i := 3) nd rfl (by first | exact .inl rfl | exact .inr rfl) (je_add (je_var (i := 3) rfl (by first | exact .inl rfl | exact .inr (.inl rfl) | exact .inr (.inr rfl))) je_k_int))))) (js_one (js_ret (je_add (je_var (i := 1) rfl (by first | exact .inl rfl | exact .inr (.inl rfl) | exact .inr (.inr rfl))) (je_rev (je_var (i := 2) rfl (by first | exact .inl rfl | exact .inr (.inl rfl) | exact .inr (.inr rfl)))))))))
abbrev t_share_of : Stmt := top 28
theorem s_share_of : FnScope ["word", "divisor", "found", "turn"] ["word", "divisor"] (defScope t_share_of) := ⟨rfl, rfl, rfl, by decide +kernel, rfl, by decide +kernel, by decide +kernel⟩
def e_share_of : SemS := sSeq (sIf (sTruC (sOp (gCI false [(.inr "third", .tup [.int 0, .int 1, .int (-1)]), (.inr "quarter", .tup [.int 0, .int 1, .int 0, .int (-1)])]) (sCons (sV 0) sNil))) (sRet (sOp gIx (s2 (sOp (gCG [(.inr "third", .tup [.int 0, .int 1, .int (-1)]), (.inr "quarter", .tup [.int 0, .int 1, .int 0, .int (-1)])]) (sCons (sV 0) sNil)) (sOp gMod (s2 (sV 1) (sOp gLen (sCons (sOp (gCG [(.inr "third", .tup [.int 0, .int 1, .int (-1)]), (.inr "quarter", .tup [.int 0, .int 1, .int 0, .int (-1)])]) (sCons (sV 0) sNil)) (sNil)))))))) (sSkip)) (sSeq (sSet 2 (sK (.int 1))) (sSeq (sFor (gN 3) (sRng rng1 (sCons (sOp (gCG [(.inr "two", .int 1), (.inr "four", .int 3), (.inr "six", .int 5)]) (sCons (sV 0) sNil)) (sNil))) (sSet 2 (sOp gMul (s2 (sV 2) (sV 1))))) (sRet (sV 2))))
def f_share_of : Fn := fnD 2 4 e_share_of
set_option maxHeartbeats 0 in
theorem ok_share_of {P : Program} {w : World} {K : PySem.W.Frag} {mg : Str → Option Value} {base : Heap} {a : Addr} {d : FuncData} (F : Fun K "share_of" "share_of" t_share_of a d) {a_RESTS : Addr} (c_RESTS : CD w K a_RESTS [(.inr "third", .tup [.int 0, .int 1, .int (-1)]), (.inr "quarter", .tup [.int 0, .int 1, .int 0, .int (-1)])]) (m_RESTS : mg "RESTS" = some (.ref a_RESTS)) {a_EXPONENTS : Addr} (c_EXPONENTS : CD w K a_EXPONENTS [(.inr "two", .int 1), (.inr "four", .int 3), (.inr "six", .int 5)]) (m_EXPONENTS : mg "EXPONENTS" = some (.ref a_EXPONENTS)) (m_len : mg "len" = none) (m_range : mg "range" = none) :
    FnG P w K mg base 1 a d ["word", "divisor"] (spD K mg f_share_of) :=
  fn_ok F s_share_of rfl rfl fun cdv A outer s H E room grd tk po => by
    have hu := hu_room room
    have hu1 := hu1_of hu
    have nd := s_share_of.nd
    exact (js_cons (js_if (jb_cin (by rfl) m_RESTS c_RESTS (je_var (i := 0) rfl (by first | exact .inl rfl | exact .inr (.inl rfl) | exact .inr (.inr rfl)))) (js_one (js_ret (je_ix (je_cget (by rfl) m_RESTS c_RESTS (je_var (i := 0) rfl (by first | exact .inl rfl | exact .inr (.inl rfl) | exact .inr (.inr rfl)))) (je_mod (je_var (i := 1) rfl (by first | exact .inl rfl | exact .inr (.inl rfl) | exact .inr (.inr rfl))) (jc_len (by rfl) m_len (ja_cons (je_cget (by rfl) m_RESTS c_RESTS (je_var (i := 0) rfl (by first | exact .inl rfl | exact .inr (.inl rfl) | exact .inr (.inr rfl)))) ja_nil))) (fun _ _ => rfl)))) js_nil) (js_cons (js_set (i := 2) nd rfl (by first | exact .inl rfl | exact .inr rfl) je_k_int) (js_cons (js_for po rfl (ji_range1 (by rfl) m_range (ja_cons (je_cget (by rfl) m_EXPONENTS c_EXPONENTS (je_var (i := 0) rfl (by first | exact .inl rfl | exact .inr (.inl rfl) | exact .inr (.inr rfl)))) ja_nil)) (jg_name (i := 3) nd rfl (by first | exact .inl rfl | exact .inr rfl)) (js_one (js_set (i := 2) nd rfl (by first | exact .inl rfl | exact .inr rfl) (je_mul (je_var (i := 2) rfl (by first | exact .inl rfl | exact .inr (.inl rfl) | exact .inr (.inr rfl))) (je_var (i := 1) rfl (by first | exact .inl rfl | exact .inr (.inl rfl) | exact .inr (.inr rfl))))))) (js_one (js_ret (je_var (i := 2) rfl (by first | exact .inl rfl | exact .inr (.inl rfl) | exact .inr (.inr rfl))))))))
abbrev t_total_of : Stmt := top 29
theorem s_total_of : FnScope ["word", "number", "divisor"] ["word", "number"] (defScope t_total_of) := ⟨rfl, rfl, rfl, by decide +kernel, rfl, by decide +kernel, by decide +kernel⟩
def e_total_of : SemS := sRet (sOp gSumA (sCons (sLc [2] (gN 2) (sItS (sCall f_divisors_in (sCons (sV 1) (sNil)))) (sYes) (sCall f_share_of (sCons (sV 0) (sCons (sV 2) (sNil))))) (sNil)))
def f_total_of : Fn := fnD 2 3 e_total_of
set_option maxHeartbeats 0 in
theorem ok_total_of {P : Program} {w : World} {K : PySem.W.Frag} {mg : Str → Option Value} {base : Heap} {a : Addr} {d : FuncData} (F : Fun K "total_of" "total_of" t_total_of a d) {a_divisors_in : Addr} {d_divisors_in : FuncData} (G_divisors_in : FnG P w K mg base 1 a_divisors_in d_divisors_in ["number"] (spD K mg f_divisors_in)) (m_divisors_in : mg "divisors_in" = some (.ref a_divisors_in)) (k_divisors_in : PySem.W.keepIn K (.ref a_divisors_in) = true) (b_divisors_in : Binds K d_divisors_in ["number"] []) {a_share_of : Addr} {d_share_of : FuncData} (G_share_of : FnG P w K mg base 1 a_share_of d_share_of ["word", "divisor"] (spD K mg f_share_of)) (m_share_of : mg "share_of" = some (.ref a_share_of)) (k_share_of : PySem.W.keepIn K (.ref a_share_of) = true) (b_share_of : Binds K d_share_of ["word", "divisor"] []) (m_sum : mg "sum" = none) :
    FnG P w K mg base 2 a d ["word", "number"] (spD K mg f_total_of) :=
  fn_ok F s_total_of rfl rfl fun cdv A outer s H E room grd tk po => by
    have hu := hu_room room
    have hu1 := hu1_of hu
    have nd := s_total_of.nd
    exact (js_one (js_ret (jc_sumA rfl (by rfl) m_sum (ja_cons (je_lc (own := [("divisor", 2)]) (L := [2]) rfl nd (ji_seq (je_call (G_divisors_in.mono (by decide)) room grd (by rfl) m_divisors_in k_divisors_in b_divisors_in tk (ja_cons (je_var (i := 1) rfl (by first | exact .inl rfl | exact .inr (.inl rfl) | exact .inr (.inr rfl))) ja_nil))) (show BlkOk ["word", "number", "divisor"] (defScope t_total_of) _ _ from ⟨rfl, by decide +kernel, by decide +kernel, by decide +kernel, by decide +kernel⟩) (by decide) (fun _ _ _ _ _ => (jg_name (i := 2) nd rfl (by first | exact .inl rfl | exact .inr rfl))) (fun _ _ _ _ _ => jt_nil) (fun _ _ _ _ _ => (je_call (G_share_of.mono (by decide)) room grd (by rfl) m_share_of k_share_of b_share_of takes_no (ja_cons (je_var (i := 0) rfl (by first | exact .inl rfl | exact .inr (.inl rfl) | exact .inr (.inr rfl))) (ja_cons (je_var (i := 2) rfl (by first | exact .inl rfl | exact .inr (.inl rfl) | exact .inr (.inr rfl))) ja_nil))))) ja_nil))))
abbrev t_greatest_common : Stmt := top 10
theorem s_greatest_common : FnScope ["first", "second", "near", "far"] ["first", "second"] (defScope t_greatest_common) := ⟨rfl, rfl, rfl, by decide +kernel, rfl, by decide +kernel, by decide +kernel⟩
def e_greatest_common : SemS := sSeq (sPar [2, 3] (sCons (sOp gAbs (sCons (sV 0) (sNil))) (sCons (sOp gAbs (sCons (sV 1) (sNil))) (sNil)))) (sSeq (sWhile (sTruC (sOp gNe (s2 (sV 3) (sK (.int 0))))) (sPar [2, 3] (sCons (sV 3) (sCons (sOp gMod (s2 (sV 2) (sV 3))) (sNil))))) (sRet (sV 2)))
def f_greatest_common : Fn := fnD 2 4 e_greatest_common
set_option maxHeartbeats 0 in
theorem ok_greatest_common {P : Program} {w : World} {K : PySem.W.Frag} {mg : Str → Option Value} {base : Heap} {a : Addr} {d : FuncData} (F : Fun K "greatest_common" "greatest_common" t_greatest_common a d) (m_abs : mg "abs" = none) :
    FnG P w K mg base 1 a d ["first", "second"] (spD K mg f_greatest_common) :=
  fn_ok F s_greatest_common rfl rfl fun cdv A outer s H E room grd tk po => by
    have hu := hu_room room
    have hu1 := hu1_of hu
    have nd := s_greatest_common.nd
    exact (js_cons (js_par2 (i := 2) (j := 3) rfl nd rfl rfl (by decide) rfl rfl (ja_cons (jc_abs (by rfl) m_abs (ja_cons (je_var (i := 0) rfl (by first | exact .inl rfl | exact .inr (.inl rfl) | exact .inr (.inr rfl))) ja_nil)) (ja_cons (jc_abs (by rfl) m_abs (ja_cons (je_var (i := 1) rfl (by first | exact .inl rfl | exact .inr (.inl rfl) | exact .inr (.inr rfl))) ja_nil)) ja_nil)) (by rfl)) (js_cons (js_while po (jb_ne hu (je_var (i := 3) rfl (by first | exact .inl rfl | exact .inr (.inl rfl) | exact .inr (.inr rfl))) je_k_int) (js_one (js_par2 (i := 2) (j := 3) rfl nd rfl rfl (by decide) rfl rfl (ja_cons (je_var (i := 3) rfl (by first | exact .inl rfl | exact .inr (.inl rfl) | exact .inr (.inr rfl))) (ja_cons (je_mod (je_var (i := 2) rfl (by first | exact .inl rfl | exact .inr (.inl rfl) | exact .inr (.inr rfl))) (je_var (i := 3) rfl (by first | exact .inl rfl | exact .inr (.inl rfl) | exact .inr (.inr rfl)))) ja_nil)) (by rfl)))) (js_one (js_ret (je_var (i := 2) rfl (by first | exact .inl rfl | exact .inr (.inl rfl) | exact .inr (.inr rfl)))))))
abbrev t_made_ratio : Stmt := top 14
theorem s_made_ratio : FnScope ["first", "second", "common"] ["first", "second"] (defScope t_made_ratio) := ⟨rfl, rfl, rfl, by decide +kernel, rfl, by decide +kernel, by decide +kernel⟩
def e_made_ratio : SemS := sSeq (sSet 2 (sCall f_greatest_common (sCons (sV 0) (sCons (sV 1) (sNil))))) (sSeq (sSet 2 (sIte (sTruC (sOp (gCmp cGt) (s2 (sV 1) (sK (.int 0))))) (sV 2) (sOp gSub (s2 (sK (.int 0)) (sV 2))))) (sRet (sTup (sCons (sOp gDiv (s2 (sV 0) (sV 2))) (sCons (sOp gDiv (s2 (sV 1) (sV 2))) (sNil))))))
def f_made_ratio : Fn := fnD 2 3 e_made_ratio
set_option maxHeartbeats 0 in
theorem ok_made_ratio {P : Program} {w : World} {K : PySem.W.Frag} {mg : Str → Option Value} {base : Heap} {a : Addr} {d : FuncData} (F : Fun K "made_ratio" "made_ratio" t_made_ratio a d) {a_greatest_common : Addr} {d_greatest_common : FuncData} (G_greatest_common : FnG P w K mg base 1 a_greatest_common d_greatest_common ["first", "second"] (spD K mg f_greatest_common)) (m_greatest_common : mg "greatest_common" = some (.ref a_greatest_common)) (k_greatest_common : PySem.W.keepIn K (.ref a_greatest_common) = true) (b_greatest_common : Binds K d_greatest_common ["first", "second"] []) :
    FnG P w K mg base 2 a d ["first", "second"] (spD K mg f_made_ratio) :=
  fn_ok F s_made_ratio rfl rfl fun cdv A outer s H E room grd tk po => by
    have hu := hu_room room
    have hu1 := hu1_of hu
    have nd := s_made_ratio.nd
    exact (js_cons (js_set (i := 2) nd rfl (by first | exact .inl rfl | exact .inr rfl) (je_call (G_greatest_common.mono (by decide)) room grd (by rfl) m_greatest_common k_greatest_common b_greatest_common tk (ja_cons (je_var (i := 0) rfl (by first | exact .inl rfl | exact .inr (.inl rfl) | exact .inr (.inr rfl))) (ja_cons (je_var (i := 1) rfl (by first | exact .inl rfl | exact .inr (.inl rfl) | exact .inr (.inr rfl))) ja_nil)))) (js_cons (js_set (i := 2) nd rfl (by first | exact .inl rfl | exact .inr rfl) (je_ite (jb_gt (je_var (i := 1) rfl (by first | exact .inl rfl | exact .inr (.inl rfl) | exact .inr (.inr rfl))) je_k_int) (je_var (i := 2) rfl (by first | exact .inl rfl | exact .inr (.inl rfl) | exact .inr (.inr rfl))) (je_sub je_k_int (je_var (i := 2) rfl (by first | exact .inl rfl | exact .inr (.inl rfl) | exact .inr (.inr rfl)))))) (js_one (js_ret (je_tup (ja_cons (je_div (je_var (i := 0) rfl (by first | exact .inl rfl | exact .inr (.inl rfl) | exact .inr (.inr rfl))) (je_var (i := 2) rfl (by first | exact .inl rfl | exact .inr (.inl rfl) | exact .inr (.inr rfl)))) (ja_cons (je_div (je_var (i := 1) rfl (by first | exact .inl rfl | exact .inr (.inl rfl) | exact .inr (.inr rfl))) (je_var (i := 2) rfl (by first | exact .inl rfl | exact .inr (.inl rfl) | exact .inr (.inr rfl)))) ja_nil)))))))
abbrev t_number_by : Stmt := top 31
theorem s_number_by : FnScope ["divisors", "here", "at_step", "word", "step"] ["divisors", "here", "at_step"] (defScope t_number_by) := ⟨rfl, rfl, rfl, by decide +kernel, rfl, by decide +kernel, by decide +kernel⟩
def e_number_by : SemS := sSeq (sPar [3, 4] (sCons (sOp gIx (s2 (sV 0) (sK (.int 1)))) (sCons (sOp gIx (s2 (sV 0) (sK (.int 2)))) (sNil)))) (sSeq (sIf (sTruC (sOp gEq (s2 (sV 3) (sK (.str "two"))))) (sRet (sCall f_made_ratio (sCons (sOp gMul (s2 (sOp (gCG [(.inr "third", .int 6), (.inr "quarter", .int 4), (.inr "two", .int 24), (.inr "four", .int 240), (.inr "six", .int (-504))]) (sCons (sV 3) sNil)) (sOp gSub (s2 (sV 1) (sOp gMul (s2 (sV 4) (sV 2))))))) (sCons (sOp gSub (s2 (sV 4) (sK (.int 1)))) (sNil))))) (sSkip)) (sRet (sCall f_made_ratio (sCons (sOp gMul (s2 (sOp (gCG [(.inr "third", .int 6), (.inr "quarter", .int 4), (.inr "two", .int 24), (.inr "four", .int 240), (.inr "six", .int (-504))]) (sCons (sV 3) sNil)) (sV 2))) (sCons (sK (.int 1)) (sNil))))))
def f_number_by : Fn := fnD 3 5 e_number_by
set_option maxHeartbeats 0 in
theorem ok_number_by {P : Program} {w : World} {K : PySem.W.Frag} {mg : Str → Option Value} {base : Heap} {a : Addr} {d : FuncData} (F : Fun K "number_by" "number_by" t_number_by a d) {a_made_ratio : Addr} {d_made_ratio : FuncData} (G_made_ratio : FnG P w K mg base 2 a_made_ratio d_made_ratio ["first", "second"] (spD K mg f_made_ratio)) (m_made_ratio : mg "made_ratio" = some (.ref a_made_ratio)) (k_made_ratio : PySem.W.keepIn K (.ref a_made_ratio) = true) (b_made_ratio : Binds K d_made_ratio ["first", "second"] []) {a_FACTORS : Addr} (c_FACTORS : CD w K a_FACTORS [(.inr "third", .int 6), (.inr "quarter", .int 4), (.inr "two", .int 24), (.inr "four", .int 240), (.inr "six", .int (-504))]) (m_FACTORS : mg "FACTORS" = some (.ref a_FACTORS)) :
    FnG P w K mg base 3 a d ["divisors", "here", "at_step"] (spD K mg f_number_by) :=
  fn_ok F s_number_by rfl rfl fun cdv A outer s H E room grd tk po => by
    have hu := hu_room room
    have hu1 := hu1_of hu
    have nd := s_number_by.nd
    exact (js_cons (js_par2 (i := 3) (j := 4) rfl nd rfl rfl (by decide) rfl rfl (ja_cons (je_ix (je_var (i := 0) rfl (by first | exact .inl rfl | exact .inr (.inl rfl) | exact .inr (.inr rfl))) je_k_int (fun _ _ => rfl)) (ja_cons (je_ix (je_var (i := 0) rfl (by first | exact .inl rfl | exact .inr (.inl rfl) | exact .inr (.inr rfl))) je_k_int (fun _ _ => rfl)) ja_nil)) (by rfl)) (js_cons (js_if (jb_eq hu (je_var (i := 3) rfl (by first | exact .inl rfl | exact .inr (.inl rfl) | exact .inr (.inr rfl))) je_k_str) (js_one (js_ret (je_call (G_made_ratio.mono (by decide)) room grd (by rfl) m_made_ratio k_made_ratio b_made_ratio tk (ja_cons (je_mul (je_cget (by rfl) m_FACTORS c_FACTORS (je_var (i := 3) rfl (by first | exact .inl rfl | exact .inr (.inl rfl) | exact .inr (.inr rfl)))) (je_sub (je_var (i := 1) rfl (by first | exact .inl rfl | exact .inr (.inl rfl) | exact .inr (.inr rfl))) (je_mul (je_var (i := 4) rfl (by first | exact .inl rfl | exact .inr (.inl rfl) | exact .inr (.inr rfl))) (je_var (i := 2) rfl (by first | exact .inl rfl | exact .inr (.inl rfl) | exact .inr (.inr rfl)))))) (ja_cons (je_sub (je_var (i := 4) rfl (by first | exact .inl rfl | exact .inr (.inl rfl) | exact .inr (.inr rfl))) je_k_int) ja_nil))))) js_nil) (js_one (js_ret (je_call (G_made_ratio.mono (by decide)) room grd (by rfl) m_made_ratio k_made_ratio b_made_ratio tk (ja_cons (je_mul (je_cget (by rfl) m_FACTORS c_FACTORS (je_var (i := 3) rfl (by first | exact .inl rfl | exact .inr (.inl rfl) | exact .inr (.inr rfl)))) (je_var (i := 2) rfl (by first | exact .inl rfl | exact .inr (.inl rfl) | exact .inr (.inr rfl)))) (ja_cons je_k_int ja_nil)))))))
abbrev t_plain_numbers : Stmt := top 33
theorem s_plain_numbers : FnScope ["divisors", "many", "word", "step", "found", "place", "here"] ["divisors", "many"] (defScope t_plain_numbers) := ⟨rfl, rfl, rfl, by decide +kernel, rfl, by decide +kernel, by decide +kernel⟩
def e_plain_numbers : SemS := sSeq (sPar [2, 3] (sCons (sOp gIx (s2 (sV 0) (sK (.int 1)))) (sCons (sOp gIx (s2 (sV 0) (sK (.int 2)))) (sNil)))) (sSeq (sSet 4 (sSlc (sLst (sCons (sK (.tup [.int 1, .int 1])) (sNil))) none (some (sV 1)))) (sSeq (sFor (gN 5) (sRng rng2 (sCons (sK (.int 1)) (sCons (sV 1) (sNil)))) (sSeq (sSet 6 (sIte (sTruC (sOp gEq (s2 (sV 2) (sK (.str "two"))))) (sCall f_total_of (sCons (sV 2) (sCons (sV 5) (sNil)))) (sK (.int 0)))) (sExpr (sMutL 4 (sCons (sCall f_number_by (sCons (sV 0) (sCons (sV 6) (sCons (sIte (sTruC (sOp gEq (s2 (sOp gMod (s2 (sV 5) (sV 3))) (sK (.int 0))))) (sCall f_total_of (sCons (sV 2) (sCons (sOp gDiv (s2 (sV 5) (sV 3))) (sNil)))) (sK (.int 0))) (sNil))))) sNil) mApp)))) (sRet (sV 4))))
def f_plain_numbers : Fn := fnD 2 7 e_plain_numbers
set_option maxHeartbeats 0 in
theorem ok_plain_numbers {P : Program} {w : World} {K : PySem.W.Frag} {mg : Str → Option Value} {base : Heap} {a : Addr} {d : FuncData} (F : Fun K "plain_numbers" "plain_numbers" t_plain_numbers a d) {a_total_of : Addr} {d_total_of : FuncData} (G_total_of : FnG P w K mg base 2 a_total_of d_total_of ["word", "number"] (spD K mg f_total_of)) (m_total_of : mg "total_of" = some (.ref a_total_of)) (k_total_of : PySem.W.keepIn K (.ref a_total_of) = true) (b_total_of : Binds K d_total_of ["word", "number"] []) {a_number_by : Addr} {d_number_by : FuncData} (G_number_by : FnG P w K mg base 3 a_number_by d_number_by ["divisors", "here", "at_step"] (spD K mg f_number_by)) (m_number_by : mg "number_by" = some (.ref a_number_by)) (k_number_by : PySem.W.keepIn K (.ref a_number_by) = true) (b_number_by : Binds K d_number_by ["divisors", "here", "at_step"] []) {a_UNIT : Addr} (r_UNIT : ∀ Hs, Rp K Hs (.tup [.int 1, .int 1]) (.ref a_UNIT)) (m_UNIT : mg "UNIT" = some (.ref a_UNIT)) (m_range : mg "range" = none) :
    FnG P w K mg base 4 a d ["divisors", "many"] (spD K mg f_plain_numbers) :=
  fn_ok F s_plain_numbers rfl rfl fun cdv A outer s H E room grd tk po => by
    have hu := hu_room room
    have hu1 := hu1_of hu
    have nd := s_plain_numbers.nd
    exact (js_cons (js_par2 (i := 2) (j := 3) rfl nd rfl rfl (by decide) rfl rfl (ja_cons (je_ix (je_var (i := 0) rfl (by first | exact .inl rfl | exact .inr (.inl rfl) | exact .inr (.inr rfl))) je_k_int (fun _ _ => rfl)) (ja_cons (je_ix (je_var (i := 0) rfl (by first | exact .inl rfl | exact .inr (.inl rfl) | exact .inr (.inr rfl))) je_k_int (fun _ _ => rfl)) ja_nil)) (by rfl)) (js_cons (js_set (i := 4) nd rfl (by first | exact .inl rfl | exact .inr rfl) (je_slice (je_lst (ja_cons (je_glob (v := .ref a_UNIT) (by rfl) m_UNIT rfl r_UNIT) ja_nil)) po_no (po_so (je_var (i := 1) rfl (by first | exact .inl rfl | exact .inr (.inl rfl) | exact .inr (.inr rfl)))))) (js_cons (js_for po rfl (ji_range2 (by rfl) m_range (ja_cons je_k_int (ja_cons (je_var (i := 1) rfl (by first | exact .inl rfl | exact .inr (.inl rfl) | exact .inr (.inr rfl))) ja_nil))) (jg_name (i := 5) nd rfl (by first | exact .inl rfl | exact .inr rfl)) (js_cons (js_set (i := 6) nd rfl (by first | exact .inl rfl | exact .inr rfl) (je_ite (jb_eq hu (je_var (i := 2) rfl (by first | exact .inl rfl | exact .inr (.inl rfl) | exact .inr (.inr rfl))) je_k_str) (je_call (G_total_of.mono (by decide)) room grd (by rfl) m_total_of k_total_of b_total_of tk (ja_cons (je_var (i := 2) rfl (by first | exact .inl rfl | exact .inr (.inl rfl) | exact .inr (.inr rfl))) (ja_cons (je_var (i := 5) rfl (by first | exact .inl rfl | exact .inr (.inl rfl) | exact .inr (.inr rfl))) ja_nil))) je_k_int)) (js_one (js_expr (je_append (je_var (i := 4) rfl (by first | exact .inl rfl | exact .inr (.inl rfl) | exact .inr (.inr rfl))) (je_call (G_number_by.mono (by decide)) room grd (by rfl) m_number_by k_number_by b_number_by tk (ja_cons (je_var (i := 0) rfl (by first | exact .inl rfl | exact .inr (.inl rfl) | exact .inr (.inr rfl))) (ja_cons (je_var (i := 6) rfl (by first | exact .inl rfl | exact .inr (.inl rfl) | exact .inr (.inr rfl))) (ja_cons (je_ite (jb_eq hu (je_mod (je_var (i := 5) rfl (by first | exact .inl rfl | exact .inr (.inl rfl) | exact .inr (.inr rfl))) (je_var (i := 3) rfl (by first | exact .inl rfl | exact .inr (.inl rfl) | exact .inr (.inr rfl)))) je_k_int) (je_call (G_total_of.mono (by decide)) room grd (by rfl) m_total_of k_total_of b_total_of tk (ja_cons (je_var (i := 2) rfl (by first | exact .inl rfl | exact .inr (.inl rfl) | exact .inr (.inr rfl))) (ja_cons (je_div (je_var (i := 5) rfl (by first | exact .inl rfl | exact .inr (.inl rfl) | exact .inr (.inr rfl))) (je_var (i := 3) rfl (by first | exact .inl rfl | exact .inr (.inl rfl) | exact .inr (.inr rfl)))) ja_nil))) je_k_int) ja_nil))))))))) (js_one (js_ret (je_var (i := 4) rfl (by first | exact .inl rfl | exact .inr (.inl rfl) | exact .inr (.inr rfl))))))))
abbrev t_is_between : Stmt := top 7
theorem s_is_between : FnScope ["value", "least", "most"] ["value", "least", "most"] (defScope t_is_between) := ⟨rfl, rfl, rfl, by decide +kernel, rfl, by decide +kernel, by decide +kernel⟩
def e_is_between : SemS := sRet (sAndV (sCall f_is_integer (sCons (sV 0) (sNil))) (sChn cLe cLe (sV 1) (sV 0) (sV 2)))
def f_is_between : Fn := fnD 3 3 e_is_between
set_option maxHeartbeats 0 in
theorem ok_is_between {P : Program} {w : World} {K : PySem.W.Frag} {mg : Str → Option Value} {base : Heap} {a : Addr} {d : FuncData} (F : Fun K "is_between" "is_between" t_is_between a d) {a_is_integer : Addr} {d_is_integer : FuncData} (G_is_integer : FnG P w K mg base 1 a_is_integer d_is_integer ["value"] (spD K mg f_is_integer)) (m_is_integer : mg "is_integer" = some (.ref a_is_integer)) (k_is_integer : PySem.W.keepIn K (.ref a_is_integer) = true) (b_is_integer : Binds K d_is_integer ["value"] []) :
    FnG P w K mg base 2 a d ["value", "least", "most"] (spD K mg f_is_between) :=
  fn_ok F s_is_between rfl rfl fun cdv A outer s H E room grd tk po => by
    have hu := hu_room room
    have hu1 := hu1_of hu
    have nd := s_is_between.nd
    exact (js_one (js_ret (je_and (je_call (G_is_integer.mono (by decide)) room grd (by rfl) m_is_integer k_is_integer b_is_integer tk (ja_cons (je_var (i := 0) rfl (by first | exact .inl rfl | exact .inr (.inl rfl) | exact .inr (.inr rfl))) ja_nil)) (je_one (je_chain op_le op_le (je_var (i := 1) rfl (by first | exact .inl rfl | exact .inr (.inl rfl) | exact .inr (.inr rfl))) (je_var (i := 0) rfl (by first | exact .inl rfl | exact .inr (.inl rfl) | exact .inr (.inr rfl))) (je_var (i := 2) rfl (by first | exact .inl rfl | exact .inr (.inl rfl) | exact .inr (.inr rfl))))))))
abbrev t_want_many : Stmt := top 8
theorem s_want_many : FnScope ["value", "most"] ["value", "most"] (defScope t_want_many) := ⟨rfl, rfl, rfl, by decide +kernel, rfl, by decide +kernel, by decide +kernel⟩
def e_want_many : SemS := sSeq (sIf (sNotB (sTru (sCall f_is_between (sCons (sV 0) (sCons (sK (.int 0)) (sCons (sV 1) (sNil))))))) (sNo) (sSkip)) (sRet (sV 0))
def f_want_many : Fn := fnD 2 2 e_want_many
set_option maxHeartbeats 0 in
theorem ok_want_many {P : Program} {w : World} {K : PySem.W.Frag} {mg : Str → Option Value} {base : Heap} {a : Addr} {d : FuncData} (F : Fun K "want_many" "want_many" t_want_many a d) {a_is_between : Addr} {d_is_between : FuncData} (G_is_between : FnG P w K mg base 2 a_is_between d_is_between ["value", "least", "most"] (spD K mg f_is_between)) (m_is_between : mg "is_between" = some (.ref a_is_between)) (k_is_between : PySem.W.keepIn K (.ref a_is_between) = true) (b_is_between : Binds K d_is_between ["value", "least", "most"] []) :
    FnG P w K mg base 3 a d ["value", "most"] (spD K mg f_want_many) :=
  fn_ok F s_want_many rfl rfl fun cdv A outer s H E room grd tk po => by
    have hu := hu_room room
    have hu1 := hu1_of hu
    have nd := s_want_many.nd
    exact (js_cons (js_if (jb_not (jb_tru (je_call (G_is_between.mono (by decide)) room grd (by rfl) m_is_between k_is_between b_is_between tk (ja_cons (je_var (i := 0) rfl (by first | exact .inl rfl | exact .inr (.inl rfl) | exact .inr (.inr rfl))) (ja_cons je_k_int (ja_cons (je_var (i := 1) rfl (by first | exact .inl rfl | exact .inr (.inl rfl) | exact .inr (.inr rfl))) ja_nil)))))) (js_one js_never) js_nil) (js_one (js_ret (je_var (i := 0) rfl (by first | exact .inl rfl | exact .inr (.inl rfl) | exact .inr (.inr rfl))))))
abbrev t_plain_divisor_row : Stmt := top 35
theorem s_plain_divisor_row : FnScope ["divisors", "many"] ["divisors", "many"] (defScope t_plain_divisor_row) := ⟨rfl, rfl, rfl, by decide +kernel, rfl, by decide +kernel, by decide +kernel⟩
def e_plain_divisor_row : SemS := sSeq (sExpr (sCall f_want_divisors (sCons (sV 0) (sNil)))) (sRet (sCall f_plain_numbers (sCons (sV 0) (sCons (sCall f_want_many (sCons (sV 1) (sCons (sK (.int 300)) (sNil)))) (sNil)))))
def f_plain_divisor_row : Fn := fnD 2 2 e_plain_divisor_row
set_option maxHeartbeats 0 in
theorem ok_plain_divisor_row {P : Program} {w : World} {K : PySem.W.Frag} {mg : Str → Option Value} {base : Heap} {a : Addr} {d : FuncData} (F : Fun K "plain_divisor_row" "plain_divisor_row" t_plain_divisor_row a d) {a_want_divisors : Addr} {d_want_divisors : FuncData} (G_want_divisors : FnG P w K mg base 4 a_want_divisors d_want_divisors ["value"] (spD K mg f_want_divisors)) (m_want_divisors : mg "want_divisors" = some (.ref a_want_divisors)) (k_want_divisors : PySem.W.keepIn K (.ref a_want_divisors) = true) (b_want_divisors : Binds K d_want_divisors ["value"] []) {a_plain_numbers : Addr} {d_plain_numbers : FuncData} (G_plain_numbers : FnG P w K mg base 4 a_plain_numbers d_plain_numbers ["divisors", "many"] (spD K mg f_plain_numbers)) (m_plain_numbers : mg "plain_numbers" = some (.ref a_plain_numbers)) (k_plain_numbers : PySem.W.keepIn K (.ref a_plain_numbers) = true) (b_plain_numbers : Binds K d_plain_numbers ["divisors", "many"] []) {a_want_many : Addr} {d_want_many : FuncData} (G_want_many : FnG P w K mg base 3 a_want_many d_want_many ["value", "most"] (spD K mg f_want_many)) (m_want_many : mg "want_many" = some (.ref a_want_many)) (k_want_many : PySem.W.keepIn K (.ref a_want_many) = true) (b_want_many : Binds K d_want_many ["value", "most"] []) {u_MOST_PLAIN : Tok} (m_MOST_PLAIN : mg "MOST_PLAIN" = some (.int 300 u_MOST_PLAIN)) :
    FnG P w K mg base 5 a d ["divisors", "many"] (spD K mg f_plain_divisor_row) :=
  fn_ok F s_plain_divisor_row rfl rfl fun cdv A outer s H E room grd tk po => by
    have hu := hu_room room
    have hu1 := hu1_of hu
    have nd := s_plain_divisor_row.nd
    exact (js_cons (js_expr (je_call (G_want_divisors.mono (by decide)) room grd (by rfl) m_want_divisors k_want_divisors b_want_divisors tk (ja_cons (je_var (i := 0) rfl (by first | exact .inl rfl | exact .inr (.inl rfl) | exact .inr (.inr rfl))) ja_nil))) (js_one (js_ret (je_call (G_plain_numbers.mono (by decide)) room grd (by rfl) m_plain_numbers k_plain_numbers b_plain_numbers tk (ja_cons (je_var (i := 0) rfl (by first | exact .inl rfl | exact .inr (.inl rfl) | exact .inr (.inr rfl))) (ja_cons (je_call (G_want_many.mono (by decide)) room grd (by rfl) m_want_many k_want_many b_want_many tk (ja_cons (je_var (i := 1) rfl (by first | exact .inl rfl | exact .inr (.inl rfl) | exact .inr (.inr rfl))) (ja_cons (je_glob (v := .int 300) (by rfl) m_MOST_PLAIN ⟨_, rfl⟩ fun _ => rfl) ja_nil))) ja_nil))))))
abbrev t_totals_to : Stmt := top 30
theorem s_totals_to : FnScope ["word", "many", "found", "divisor", "share", "place"] ["word", "many"] (defScope t_totals_to) := ⟨rfl, rfl, rfl, by decide +kernel, rfl, by decide +kernel, by decide +kernel⟩
def e_totals_to : SemS := sSeq (sSet 2 (sOp gMul (s2 (sLst (sCons (sK (.int 0)) (sNil))) (sV 1)))) (sSeq (sFor (gN 3) (sRng rng2 (sCons (sK (.int 1)) (sCons (sV 1) (sNil)))) (sSeq (sSet 4 (sCall f_share_of (sCons (sV 0) (sCons (sV 3) (sNil))))) (sFor (gN 5) (sSh gRng3 (sCons (sV 3) (sCons (sV 1) (sCons (sV 3) (sNil))))) (sAsg (gPut 2 (sV 5)) (sOp gAdd (s2 (sOp gIx (s2 (sV 2) (sV 5))) (sV 4))))))) (sRet (sV 2)))
def f_totals_to : Fn := fnD 2 6 e_totals_to
set_option maxHeartbeats 0 in
theorem ok_totals_to {P : Program} {w : World} {K : PySem.W.Frag} {mg : Str → Option Value} {base : Heap} {a : Addr} {d : FuncData} (F : Fun K "totals_to" "totals_to" t_totals_to a d) {a_share_of : Addr} {d_share_of : FuncData} (G_share_of : FnG P w K mg base 1 a_share_of d_share_of ["word", "divisor"] (spD K mg f_share_of)) (m_share_of : mg "share_of" = some (.ref a_share_of)) (k_share_of : PySem.W.keepIn K (.ref a_share_of) = true) (b_share_of : Binds K d_share_of ["word", "divisor"] []) (m_range : mg "range" = none) :
    FnG P w K mg base 2 a d ["word", "many"] (spD K mg f_totals_to) :=
  fn_ok F s_totals_to rfl rfl fun cdv A outer s H E room grd tk po => by
    have hu := hu_room room
    have hu1 := hu1_of hu
    have nd := s_totals_to.nd
    exact (js_cons (js_set (i := 2) nd rfl (by first | exact .inl rfl | exact .inr rfl) (je_mul (je_lst (ja_cons je_k_int ja_nil)) (je_var (i := 1) rfl (by first | exact .inl rfl | exact .inr (.inl rfl) | exact .inr (.inr rfl))))) (js_cons (js_for po rfl (ji_range2 (by rfl) m_range (ja_cons je_k_int (ja_cons (je_var (i := 1) rfl (by first | exact .inl rfl | exact .inr (.inl rfl) | exact .inr (.inr rfl))) ja_nil))) (jg_name (i := 3) nd rfl (by first | exact .inl rfl | exact .inr rfl)) (js_cons (js_set (i := 4) nd rfl (by first | exact .inl rfl | exact .inr rfl) (je_call (G_share_of.mono (by decide)) room grd (by rfl) m_share_of k_share_of b_share_of tk (ja_cons (je_var (i := 0) rfl (by first | exact .inl rfl | exact .inr (.inl rfl) | exact .inr (.inr rfl))) (ja_cons (je_var (i := 3) rfl (by first | exact .inl rfl | exact .inr (.inl rfl) | exact .inr (.inr rfl))) ja_nil)))) (js_one (js_for po rfl (ji_range3 (by rfl) m_range (ja_cons (je_var (i := 3) rfl (by first | exact .inl rfl | exact .inr (.inl rfl) | exact .inr (.inr rfl))) (ja_cons (je_var (i := 1) rfl (by first | exact .inl rfl | exact .inr (.inl rfl) | exact .inr (.inr rfl))) (ja_cons (je_var (i := 3) rfl (by first | exact .inl rfl | exact .inr (.inl rfl) | exact .inr (.inr rfl))) ja_nil)))) (jg_name (i := 5) nd rfl (by first | exact .inl rfl | exact .inr rfl)) (js_one (js_asg (je_add (je_ix (je_var (i := 2) rfl (by first | exact .inl rfl | exact .inr (.inl rfl) | exact .inr (.inr rfl))) (je_var (i := 5) rfl (by first | exact .inl rfl | exact .inr (.inl rfl) | exact .inr (.inr rfl))) (fun _ _ => rfl)) (je_var (i := 4) rfl (by first | exact .inl rfl | exact .inr (.inl rfl) | exact .inr (.inr rfl)))) (jg_put (W := NoX) (je_var (i := 2) rfl (by first | exact .inl rfl | exact .inr (.inl rfl) | exact .inr (.inr rfl))) (je_var (i := 5) rfl (by first | exact .inl rfl | exact .inr (.inl rfl) | exact .inr (.inr rfl)))))))))) (js_one (js_ret (je_var (i := 2) rfl (by first | exact .inl rfl | exact .inr (.inl rfl) | exact .inr (.inr rfl)))))))
abbrev t_divisor_numbers : Stmt := top 32
theorem s_divisor_numbers : FnScope ["divisors", "many", "totals", "step", "found", "place"] ["divisors", "many"] (defScope t_divisor_numbers) := ⟨rfl, rfl, rfl, by decide +kernel, rfl, by decide +kernel, by decide +kernel⟩
def e_divisor_numbers : SemS := sSeq (sPar [2, 3] (sCons (sCall f_totals_to (sCons (sOp gIx (s2 (sV 0) (sK (.int 1)))) (sCons (sV 1) (sNil)))) (sCons (sOp gIx (s2 (sV 0) (sK (.int 2)))) (sNil)))) (sSeq (sSet 4 (sSlc (sLst (sCons (sK (.tup [.int 1, .int 1])) (sNil))) none (some (sV 1)))) (sSeq (sFor (gN 5) (sRng rng2 (sCons (sK (.int 1)) (sCons (sV 1) (sNil)))) (sExpr (sMutL 4 (sCons (sCall f_number_by (sCons (sV 0) (sCons (sOp gIx (s2 (sV 2) (sV 5))) (sCons (sIte (sTruC (sOp gEq (s2 (sOp gMod (s2 (sV 5) (sV 3))) (sK (.int 0))))) (sOp gIx (s2 (sV 2) (sOp gDiv (s2 (sV 5) (sV 3))))) (sK (.int 0))) (sNil))))) sNil) mApp))) (sRet (sV 4))))
def f_divisor_numbers : Fn := fnD 2 6 e_divisor_numbers
set_option maxHeartbeats 0 in
theorem ok_divisor_numbers {P : Program} {w : World} {K : PySem.W.Frag} {mg : Str → Option Value} {base : Heap} {a : Addr} {d : FuncData} (F : Fun K "divisor_numbers" "divisor_numbers" t_divisor_numbers a d) {a_totals_to : Addr} {d_totals_to : FuncData} (G_totals_to : FnG P w K mg base 2 a_totals_to d_totals_to ["word", "many"] (spD K mg f_totals_to)) (m_totals_to : mg "totals_to" = some (.ref a_totals_to)) (k_totals_to : PySem.W.keepIn K (.ref a_totals_to) = true) (b_totals_to : Binds K d_totals_to ["word", "many"] []) {a_number_by : Addr} {d_number_by : FuncData} (G_number_by : FnG P w K mg base 3 a_number_by d_number_by ["divisors", "here", "at_step"] (spD K mg f_number_by)) (m_number_by : mg "number_by" = some (.ref a_number_by)) (k_number_by : PySem.W.keepIn K (.ref a_number_by) = true) (b_number_by : Binds K d_number_by ["divisors", "here", "at_step"] []) {a_UNIT : Addr} (r_UNIT : ∀ Hs, Rp K Hs (.tup [.int 1, .int 1]) (.ref a_UNIT)) (m_UNIT : mg "UNIT" = some (.ref a_UNIT)) (m_range : mg "range" = none) :
    FnG P w K mg base 4 a d ["divisors", "many"] (spD K mg f_divisor_numbers) :=
  fn_ok F s_divisor_numbers rfl rfl fun cdv A outer s H E room grd tk po => by
    have hu := hu_room room
    have hu1 := hu1_of hu
    have nd := s_divisor_numbers.nd
    exact (js_cons (js_par2 (i := 2) (j := 3) rfl nd rfl rfl (by decide) rfl rfl (ja_cons (je_call (G_totals_to.mono (by decide)) room grd (by rfl) m_totals_to k_totals_to b_totals_to tk (ja_cons (je_ix (je_var (i := 0) rfl (by first | exact .inl rfl | exact .inr (.inl rfl) | exact .inr (.inr rfl))) je_k_int (fun _ _ => rfl)) (ja_cons (je_var (i := 1) rfl (by first | exact .inl rfl | exact .inr (.inl rfl) | exact .inr (.inr rfl))) ja_nil))) (ja_cons (je_ix (je_var (i := 0) rfl (by first | exact .inl rfl | exact .inr (.inl rfl) | exact .inr (.inr rfl))) je_k_int (fun _ _ => rfl)) ja_nil)) (by rfl)) (js_cons (js_set (i := 4) nd rfl (by first | exact .inl rfl | exact .inr rfl) (je_slice (je_lst (ja_cons (je_glob (v := .ref a_UNIT) (by rfl) m_UNIT rfl r_UNIT) ja_nil)) po_no (po_so (je_var (i := 1) rfl (by first | exact .inl rfl | exact .inr (.inl rfl) | exact .inr (.inr rfl)))))) (js_cons (js_for po rfl (ji_range2 (by rfl) m_range (ja_cons je_k_int (ja_cons (je_var (i := 1) rfl (by first | exact .inl rfl | exact .inr (.inl rfl) | exact .inr (.inr rfl))) ja_nil))) (jg_name (i := 5) nd rfl (by first | exact .inl rfl | exact .inr rfl)) (js_one (js_expr (je_append (je_var (i := 4) rfl (by first | exact .inl rfl | exact .inr (.inl rfl) | exact .inr (.inr rfl))) (je_call (G_number_by.mono (by decide)) room grd (by rfl) m_number_by k_number_by b_number_by tk (ja_cons (je_var (i := 0) rfl (by first | exact .inl rfl | exact .inr (.inl rfl) | exact .inr (.inr rfl))) (ja_cons (je_ix (je_var (i := 2) rfl (by first | exact .inl rfl | exact .inr (.inl rfl) | exact .inr (.inr rfl))) (je_var (i := 5) rfl (by first | exact .inl rfl | exact .inr (.inl rfl) | exact .inr (.inr rfl))) (fun _ _ => rfl)) (ja_cons (je_ite (jb_eq hu (je_mod (je_var (i := 5) rfl (by first | exact .inl rfl | exact .inr (.inl rfl) | exact .inr (.inr rfl))) (je_var (i := 3) rfl (by first | exact .inl rfl | exact .inr (.inl rfl) | exact .inr (.inr rfl)))) je_k_int) (je_ix (je_var (i := 2) rfl (by first | exact .inl rfl | exact .inr (.inl rfl) | exact .inr (.inr rfl))) (je_div (je_var (i := 5) rfl (by first | exact .inl rfl | exact .inr (.inl rfl) | exact .inr (.inr rfl))) (je_var (i := 3) rfl (by first | exact .inl rfl | exact .inr (.inl rfl) | exact .inr (.inr rfl)))) (fun _ _ => rfl)) je_k_int) ja_nil)))))))) (js_one (js_ret (je_var (i := 4) rfl (by first | exact .inl rfl | exact .inr (.inl rfl) | exact .inr (.inr rfl))))))))
abbrev t_divisor_row : Stmt := top 34
theorem s_divisor_row : FnScope ["divisors", "many"] ["divisors", "many"] (defScope t_divisor_row) := ⟨rfl, rfl, rfl, by decide +kernel, rfl, by decide +kernel, by decide +kernel⟩
def e_divisor_row : SemS := sSeq (sExpr (sCall f_want_divisors (sCons (sV 0) (sNil)))) (sRet (sCall f_divisor_numbers (sCons (sV 0) (sCons (sCall f_want_many (sCons (sV 1) (sCons (sK (.int 3000)) (sNil)))) (sNil)))))
def f_divisor_row : Fn := fnD 2 2 e_divisor_row
set_option maxHeartbeats 0 in
theorem ok_divisor_row {P : Program} {w : World} {K : PySem.W.Frag} {mg : Str → Option Value} {base : Heap} {a : Addr} {d : FuncData} (F : Fun K "divisor_row" "divisor_row" t_divisor_row a d) {a_want_divisors : Addr} {d_want_divisors : FuncData} (G_want_divisors : FnG P w K mg base 4 a_want_divisors d_want_divisors ["value"] (spD K mg f_want_divisors)) (m_want_divisors : mg "want_divisors" = some (.ref a_want_divisors)) (k_want_divisors : PySem.W.keepIn K (.ref a_want_divisors) = true) (b_want_divisors : Binds K d_want_divisors ["value"] []) {a_divisor_numbers : Addr} {d_divisor_numbers : FuncData} (G_divisor_numbers : FnG P w K mg base 4 a_divisor_numbers d_divisor_numbers ["divisors", "many"] (spD K mg f_divisor_numbers)) (m_divisor_numbers : mg "divisor_numbers" = some (.ref a_divisor_numbers)) (k_divisor_numbers : PySem.W.keepIn K (.ref a_divisor_numbers) = true) (b_divisor_numbers : Binds K d_divisor_numbers ["divisors", "many"] []) {a_want_many : Addr} {d_want_many : FuncData} (G_want_many : FnG P w K mg base 3 a_want_many d_want_many ["value", "most"] (spD K mg f_want_many)) (m_want_many : mg "want_many" = some (.ref a_want_many)) (k_want_many : PySem.W.keepIn K (.ref a_want_many) = true) (b_want_many : Binds K d_want_many ["value", "most"] []) {u_MOST_TOTAL : Tok} (m_MOST_TOTAL : mg "MOST_TOTAL" = some (.int 3000 u_MOST_TOTAL)) :
    FnG P w K mg base 5 a d ["divisors", "many"] (spD K mg f_divisor_row) :=
  fn_ok F s_divisor_row rfl rfl fun cdv A outer s H E room grd tk po => by
    have hu := hu_room room
    have hu1 := hu1_of hu
    have nd := s_divisor_row.nd
    exact (js_cons (js_expr (je_call (G_want_divisors.mono (by decide)) room grd (by rfl) m_want_divisors k_want_divisors b_want_divisors tk (ja_cons (je_var (i := 0) rfl (by first | exact .inl rfl | exact .inr (.inl rfl) | exact .inr (.inr rfl))) ja_nil))) (js_one (js_ret (je_call (G_divisor_numbers.mono (by decide)) room grd (by rfl) m_divisor_numbers k_divisor_numbers b_divisor_numbers tk (ja_cons (je_var (i := 0) rfl (by first | exact .inl rfl | exact .inr (.inl rfl) | exact .inr (.inr rfl))) (ja_cons (je_call (G_want_many.mono (by decide)) room grd (by rfl) m_want_many k_want_many b_want_many tk (ja_cons (je_var (i := 1) rfl (by first | exact .inl rfl | exact .inr (.inl rfl) | exact .inr (.inr rfl))) (ja_cons (je_glob (v := .int 3000) (by rfl) m_MOST_TOTAL ⟨_, rfl⟩ fun _ => rfl) ja_nil))) ja_nil))))))
abbrev t_law_mixed_row : Stmt := top 41
theorem s_law_mixed_row : FnScope ["_law_rows", "_law_numbers", "_law_under", "_law_is_plain", "_law_many", "_law_found", "_law_word", "_law_step", "_law_told", "_law_due", "_law_place", "_law_number", "_law_low", "_law_row", "_law_much"] ["_law_rows", "_law_numbers", "_law_under", "_law_is_plain", "_law_many"] (defScope t_law_mixed_row) := ⟨rfl, rfl, rfl, by decide +kernel, rfl, by decide +kernel, by decide +kernel⟩
def e_law_mixed_row : SemS := sSeq (sSet 5 (sLst (sNil))) (sSeq (sForK 0 (gT (gsCons (gN 6) (gsCons (gN 7) (gsNil)))) (sSeq (sSet 8 (sIte (sTru (sV 3)) (sCall f_plain_divisor_row (sCons (sTup (sCons (sK (.str "divisors")) (sCons (sV 6) (sCons (sV 7) (sNil))))) (sCons (sV 4) (sNil)))) (sCall f_divisor_row (sCons (sTup (sCons (sK (.str "divisors")) (sCons (sV 6) (sCons (sV 7) (sNil))))) (sCons (sV 4) (sNil)))))) (sExpr (sMutL 5 (sCons (sV 8) sNil) mApp)))) (sSeq (sSet 9 (sLst (sNil))) (sSeq (sLeak 5 (sLeak 1 (sFor (gN 10) (sRng rng1 (sCons (sV 4) (sNil))) (sSeq (sAsg (gT (gsCons (gN 11) (gsCons (gN 12) (gsNil)))) (sTup (sCons (sK (.int 0)) (sCons (sK (.int 1)) (sNil))))) (sSeq (sFor (gT (gsCons (gN 13) (gsCons (gN 14) (gsNil)))) (sSh gZipM (sCons (sV 5) (sCons (sV 1) (sNil)))) (sPar [11, 12] (sCons (sOp gAdd (s2 (sOp gMul (s2 (sV 11) (sOp gIx (s2 (sOp gIx (s2 (sV 13) (sV 10))) (sK (.int 1)))))) (sOp gMul (s2 (sOp gMul (s2 (sV 14) (sOp gIx (s2 (sOp gIx (s2 (sV 13) (sV 10))) (sK (.int 0)))))) (sV 12))))) (sCons (sOp gMul (s2 (sV 12) (sOp gIx (s2 (sOp gIx (s2 (sV 13) (sV 10))) (sK (.int 1)))))) (sNil))))) (sExpr (sMutL 9 (sCons (sIte (sTruC (sOp gEq (s2 (sOp gMod (s2 (sV 11) (sOp gMul (s2 (sV 12) (sV 2))))) (sK (.int 0))))) (sOp gDiv (s2 (sV 11) (sOp gMul (s2 (sV 12) (sV 2))))) (sK .non)) sNil) mApp))))))) (sRet (sV 9)))))
def f_law_mixed_row : Fn := fnD 5 15 e_law_mixed_row
set_option maxHeartbeats 0 in
theorem ok_law_mixed_row {P : Program} {w : World} {K : PySem.W.Frag} {mg : Str → Option Value} {base : Heap} {a : Addr} {d : FuncData} (F : Fun K "_law_mixed_row" "_law_mixed_row" t_law_mixed_row a d) {a_plain_divisor_row : Addr} {d_plain_divisor_row : FuncData} (G_plain_divisor_row : FnG P w K mg base 5 a_plain_divisor_row d_plain_divisor_row ["divisors", "many"] (spD K mg f_plain_divisor_row)) (m_plain_divisor_row : mg "plain_divisor_row" = some (.ref a_plain_divisor_row)) (k_plain_divisor_row : PySem.W.keepIn K (.ref a_plain_divisor_row) = true) (b_plain_divisor_row : Binds K d_plain_divisor_row ["divisors", "many"] []) {a_divisor_row : Addr} {d_divisor_row : FuncData} (G_divisor_row : FnG P w K mg base 5 a_divisor_row d_divisor_row ["divisors", "many"] (spD K mg f_divisor_row)) (m_divisor_row : mg "divisor_row" = some (.ref a_divisor_row)) (k_divisor_row : PySem.W.keepIn K (.ref a_divisor_row) = true) (b_divisor_row : Binds K d_divisor_row ["divisors", "many"] []) (m_range : mg "range" = none) (m_zip : mg "zip" = none) :
    FnG P w K mg base 6 a d ["_law_rows", "_law_numbers", "_law_under", "_law_is_plain", "_law_many"] (spD K mg f_law_mixed_row) :=
  fn_ok F s_law_mixed_row rfl rfl fun cdv A outer s H E room grd tk po => by
    have hu := hu_room room
    have hu1 := hu1_of hu
    have nd := s_law_mixed_row.nd
    exact (js_cons (js_set (i := 5) nd rfl (by first | exact .inl rfl | exact .inr rfl) (je_lst ja_nil)) (js_cons (js_forK (i := 0) po rfl rfl (by first | exact .inl rfl | exact .inr (.inl rfl) | exact .inr (.inr rfl)) (by decide) (by decide) (jg_tup rfl (jgs_cons (jg_name (i := 6) nd rfl (by first | exact .inl rfl | exact .inr rfl)) (jgs_cons (jg_name (i := 7) nd rfl (by first | exact .inl rfl | exact .inr rfl)) jgs_nil)) rfl rfl (gl_cons (gl_cons gl_nil))) (js_cons (js_set (i := 8) nd rfl (by first | exact .inl rfl | exact .inr rfl) (je_ite (jb_tru (je_var (i := 3) rfl (by first | exact .inl rfl | exact .inr (.inl rfl) | exact .inr (.inr rfl)))) (je_call (G_plain_divisor_row.mono (by decide)) room grd (by rfl) m_plain_divisor_row k_plain_divisor_row b_plain_divisor_row tk (ja_cons (je_tup (ja_cons je_k_str (ja_cons (je_var (i := 6) rfl (by first | exact .inl rfl | exact .inr (.inl rfl) | exact .inr (.inr rfl))) (ja_cons (je_var (i := 7) rfl (by first | exact .inl rfl | exact .inr (.inl rfl) | exact .inr (.inr rfl))) ja_nil)))) (ja_cons (je_var (i := 4) rfl (by first | exact .inl rfl | exact .inr (.inl rfl) | exact .inr (.inr rfl))) ja_nil))) (je_call (G_divisor_row.mono (by decide)) room grd (by rfl) m_divisor_row k_divisor_row b_divisor_row tk (ja_cons (je_tup (ja_cons je_k_str (ja_cons (je_var (i := 6) rfl (by first | exact .inl rfl | exact .inr (.inl rfl) | exact .inr (.inr rfl))) (ja_cons (je_var (i := 7) rfl (by first | exact .inl rfl | exact .inr (.inl rfl) | exact .inr (.inr rfl))) ja_nil)))) (ja_cons (je_var (i := 4) rfl (by first | exact .inl rfl | exact .inr (.inl rfl) | exact .inr (.inr rfl))) ja_nil))))) (js_one (js_expr (je_append (je_var (i := 5) rfl (by first | exact .inl rfl | exact .inr (.inl rfl) | exact .inr (.inr rfl))) (je_var (i := 8) rfl (by first | exact .inl rfl | exact .inr (.inl rfl) | exact .inr (.inr rfl)))))))) (js_cons (js_set (i := 9) nd rfl (by first | exact .inl rfl | exact .inr rfl) (je_lst ja_nil)) (js_cons (js_leak (i := 5) (js_leak (i := 1) (js_for po rfl (ji_range1 (by rfl) m_range (ja_cons (je_var (i := 4) rfl (by first | exact .inl rfl | exact .inr (.inl rfl) | exact .inr (.inr rfl))) ja_nil)) (jg_name (i := 10) nd rfl (by first | exact .inl rfl | exact .inr rfl)) (js_cons (js_asg (je_tup (ja_cons je_k_int (ja_cons je_k_int ja_nil))) (jg_tup rfl (jgs_cons (jg_name (i := 11) nd rfl (by first | exact .inl rfl | exact .inr rfl)) (jgs_cons (jg_name (i := 12) nd rfl (by first | exact .inl rfl | exact .inr rfl)) jgs_nil)) rfl rfl (gl_cons (gl_cons gl_nil))) (hw := by with_unfolding_all rfl)) (js_cons (js_for po rfl (ji_zipM (by rfl) m_zip (ja_cons (je_var (i := 5) rfl (by first | exact .inl rfl | exact .inr (.inl rfl) | exact .inr (.inr rfl))) (ja_cons (je_var (i := 1) rfl (by first | exact .inl rfl | exact .inr (.inl rfl) | exact .inr (.inr rfl))) ja_nil))) (jg_tup rfl (jgs_cons (jg_name (i := 13) nd rfl (by first | exact .inl rfl | exact .inr rfl)) (jgs_cons (jg_name (i := 14) nd rfl (by first | exact .inl rfl | exact .inr rfl)) jgs_nil)) rfl rfl (gl_cons (gl_cons gl_nil))) (js_one (js_par2 (i := 11) (j := 12) rfl nd rfl rfl (by decide) rfl rfl (ja_cons (je_add (je_mul (je_var (i := 11) rfl (by first | exact .inl rfl | exact .inr (.inl rfl) | exact .inr (.inr rfl))) (je_ix (je_ix (je_var (i := 13) rfl (by first | exact .inl rfl | exact .inr (.inl rfl) | exact .inr (.inr rfl))) (je_var (i := 10) rfl (by first | exact .inl rfl | exact .inr (.inl rfl) | exact .inr (.inr rfl))) (fun _ _ => rfl)) je_k_int (fun _ _ => rfl))) (je_mul (je_mul (je_var (i := 14) rfl (by first | exact .inl rfl | exact .inr (.inl rfl) | exact .inr (.inr rfl))) (je_ix (je_ix (je_var (i := 13) rfl (by first | exact .inl rfl | exact .inr (.inl rfl) | exact .inr (.inr rfl))) (je_var (i := 10) rfl (by first | exact .inl rfl | exact .inr (.inl rfl) | exact .inr (.inr rfl))) (fun _ _ => rfl)) je_k_int (fun _ _ => rfl))) (je_var (i := 12) rfl (by first | exact .inl rfl | exact .inr (.inl rfl) | exact .inr (.inr rfl))))) (ja_cons (je_mul (je_var (i := 12) rfl (by first | exact .inl rfl | exact .inr (.inl rfl) | exact .inr (.inr rfl))) (je_ix (je_ix (je_var (i := 13) rfl (by first | exact .inl rfl | exact .inr (.inl rfl) | exact .inr (.inr rfl))) (je_var (i := 10) rfl (by first | exact .inl rfl | exact .inr (.inl rfl) | exact .inr (.inr rfl))) (fun _ _ => rfl)) je_k_int (fun _ _ => rfl))) ja_nil)) (by rfl)))) (js_one (js_expr (je_append (je_var (i := 9) rfl (by first | exact .inl rfl | exact .inr (.inl rfl) | exact .inr (.inr rfl))) (je_ite (jb_eq hu (je_mod (je_var (i := 11) rfl (by first | exact .inl rfl | exact .inr (.inl rfl) | exact .inr (.inr rfl))) (je_mul (je_var (i := 12) rfl (by first | exact .inl rfl | exact .inr (.inl rfl) | exact .inr (.inr rfl))) (je_var (i := 2) rfl (by first | exact .inl rfl | exact .inr (.inl rfl) | exact .inr (.inr rfl))))) je_k_int) (je_div (je_var (i := 11) rfl (by first | exact .inl rfl | exact .inr (.inl rfl) | exact .inr (.inr rfl))) (je_mul (je_var (i := 12) rfl (by first | exact .inl rfl | exact .inr (.inl rfl) | exact .inr (.inr rfl))) (je_var (i := 2) rfl (by first | exact .inl rfl | exact .inr (.inl rfl) | exact .inr (.inr rfl))))) je_k_non))))))))) (js_one (js_ret (je_var (i := 9) rfl (by first | exact .inl rfl | exact .inr (.inl rfl) | exact .inr (.inr rfl)))))))))
abbrev t_law_times : Stmt := top 40
theorem s_law_times : FnScope ["_law_row", "_law_other", "_law_place", "_law_near"] ["_law_row", "_law_other"] (defScope t_law_times) := ⟨rfl, rfl, rfl, by decide +kernel, rfl, by decide +kernel, by decide +kernel⟩
def e_law_times : SemS := sRet (sLc [2] (gN 2) (sRng rng1 (sCons (sOp gLen (sCons (sV 0) (sNil))) (sNil))) (sYes) (sOp gSumA (sCons (sLc [3] (gN 3) (sRng rng1 (sCons (sOp gAdd (s2 (sV 2) (sK (.int 1)))) (sNil))) (sYes) (sOp gMul (s2 (sOp gIx (s2 (sV 0) (sV 3))) (sOp gIx (s2 (sV 1) (sOp gSub (s2 (sV 2) (sV 3)))))))) (sNil))))
def f_law_times : Fn := fnD 2 4 e_law_times
set_option maxHeartbeats 0 in
theorem ok_law_times {P : Program} {w : World} {K : PySem.W.Frag} {mg : Str → Option Value} {base : Heap} {a : Addr} {d : FuncData} (F : Fun K "_law_times" "_law_times" t_law_times a d) (m_range : mg "range" = none) (m_len : mg "len" = none) (m_sum : mg "sum" = none) :
    FnG P w K mg base 1 a d ["_law_row", "_law_other"] (spD K mg f_law_times) :=
  fn_ok F s_law_times rfl rfl fun cdv A outer s H E room grd tk po => by
    have hu := hu_room room
    have hu1 := hu1_of hu
    have nd := s_law_times.nd
    exact (js_one (js_ret (je_lc (own := [("_law_place", 2)]) (L := [2]) rfl nd (ji_range1 (by rfl) m_range (ja_cons (jc_len (by rfl) m_len (ja_cons (je_var (i := 0) rfl (by first | exact .inl rfl | exact .inr (.inl rfl) | exact .inr (.inr rfl))) ja_nil)) ja_nil)) (show BlkOk ["_law_row", "_law_other", "_law_place", "_law_near"] (defScope t_law_times) _ _ from ⟨rfl, by decide +kernel, by decide +kernel, by decide +kernel, by decide +kernel⟩) (by decide) (fun _ _ _ _ _ => (jg_name (i := 2) nd rfl (by first | exact .inl rfl | exact .inr rfl))) (fun _ _ _ _ _ => jt_nil) (fun _ _ _ _ _ => (jc_sumA rfl (by rfl) m_sum (ja_cons (je_lc (own := [("_law_near", 3)]) (L := [3]) rfl nd (ji_range1 (by rfl) m_range (ja_cons (je_add (je_var (i := 2) rfl (by first | exact .inl rfl | exact .inr (.inl rfl) | exact .inr (.inr rfl))) je_k_int) ja_nil)) (blkOk_by (by kernel_rfl)) (by decide) (fun _ _ _ _ _ => (jg_name (i := 3) nd rfl (by first | exact .inl rfl | exact .inr rfl))) (fun _ _ _ _ _ => jt_nil) (fun _ _ _ _ _ => (je_mul (je_ix (je_var (i := 0) rfl (by first | exact .inl rfl | exact .inr (.inl rfl) | exact .inr (.inr rfl))) (je_var (i := 3) rfl (by first | exact .inl rfl | exact .inr (.inl rfl) | exact .inr (.inr rfl))) (fun _ _ => rfl)) (je_ix (je_var (i := 1) rfl (by first | exact .inl rfl | exact .inr (.inl rfl) | exact .inr (.inr rfl))) (je_sub (je_var (i := 2) rfl (by first | exact .inl rfl | exact .inr (.inl rfl) | exact .inr (.inr rfl))) (je_var (i := 3) rfl (by first | exact .inl rfl | exact .inr (.inl rfl) | exact .inr (.inr rfl)))) (fun _ _ => rfl))))) ja_nil))))))
abbrev t_law_right : Stmt := top 42
theorem s_law_right : FnScope ["_law_pot_here", "_law_way", "_law_many", "_law_is_plain", "_law_near", "_law_four", "_law_told"] ["_law_pot_here"] (defScope t_law_right) := ⟨rfl, rfl, rfl, by decide +kernel, rfl, by decide +kernel, by decide +kernel⟩
def e_law_right : SemS := sSeq (sPar [1, 2, 3] (sCons (sCall f_law_draw (sCons (sV 0) (sCons (sK (.int 5)) (sNil)))) (sCons (sOp gAdd (s2 (sK (.int 2)) (sCall f_law_draw (sCons (sV 0) (sCons (sK (.int 14)) (sNil)))))) (sCons (sOp gEq (s2 (sCall f_law_draw (sCons (sV 0) (sCons (sK (.int 2)) (sNil)))) (sK (.int 0)))) (sNil))))) (sSeq (sLeakA 4 (sSet 4 (sCall f_law_two (sCons (sV 2) (sCons (sOp (gCmp cGt) (s2 (sV 1) (sK (.int 2)))) (sNil)))))) (sSeq (sIf (sTruC (sOp gEq (s2 (sV 1) (sK (.int 0))))) (sRet (sOp gEq (s2 (sCall f_law_mixed_row (sCons (sLst (sCons (sTup (sCons (sK (.str "quarter")) (sCons (sK (.int 1)) (sNil)))) (sNil))) (sCons (sLst (sCons (sK (.int 1)) (sNil))) (sCons (sK (.int 1)) (sCons (sV 3) (sCons (sV 2) (sNil))))))) (sV 4)))) (sSkip)) (sSeq (sIf (sTruC (sOp gEq (s2 (sV 1) (sK (.int 1))))) (sRet (sOp gEq (s2 (sCall f_law_mixed_row (sCons (sLst (sCons (sTup (sCons (sK (.str "two")) (sCons (sK (.int 4)) (sNil)))) (sNil))) (sCons (sLst (sCons (sK (.int 1)) (sNil))) (sCons (sK (.int 1)) (sCons (sV 3) (sCons (sV 2) (sNil))))))) (sCall f_law_times (sCons (sV 4) (sCons (sV 4) (sNil))))))) (sSkip)) (sSeq (sIf (sTruC (sOp gEq (s2 (sV 1) (sK (.int 2))))) (sSeq (sLeakA 5 (sSet 5 (sCall f_law_times (sCons (sV 4) (sCons (sV 4) (sNil)))))) (sSeq (sSet 6 (sCall f_law_mixed_row (sCons (sLst (sCons (sTup (sCons (sK (.str "four")) (sCons (sK (.int 1)) (sNil)))) (sCons (sTup (sCons (sK (.str "four")) (sCons (sK (.int 2)) (sNil)))) (sCons (sTup (sCons (sK (.str "four")) (sCons (sK (.int 4)) (sNil)))) (sNil))))) (sCons (sLst (sCons (sK (.int 1)) (sCons (sOp gNeg (sCons (sK (.int 2)) sNil)) (sCons (sK (.int 16)) (sNil))))) (sCons (sK (.int 15)) (sCons (sV 3) (sCons (sV 2) (sNil)))))))) (sRet (sOp gEq (s2 (sV 6) (sCall f_law_times (sCons (sV 5) (sCons (sV 5) (sNil))))))))) (sSkip)) (sSeq (sIf (sTruC (sOp gEq (s2 (sV 1) (sK (.int 3))))) (sRet (sOp gEq (s2 (sCall f_law_mixed_row (sCons (sLst (sCons (sTup (sCons (sK (.str "third")) (sCons (sK (.int 1)) (sNil)))) (sNil))) (sCons (sLst (sCons (sK (.int 1)) (sNil))) (sCons (sK (.int 1)) (sCons (sV 3) (sCons (sV 2) (sNil))))))) (sV 4)))) (sSkip)) (sRet (sOp gEq (s2 (sCall f_law_mixed_row (sCons (sLst (sCons (sTup (sCons (sK (.str "two")) (sCons (sK (.int 3)) (sNil)))) (sNil))) (sCons (sLst (sCons (sK (.int 1)) (sNil))) (sCons (sK (.int 1)) (sCons (sV 3) (sCons (sV 2) (sNil))))))) (sCall f_law_times (sCons (sV 4) (sCons (sV 4) (sNil))))))))))))
def f_law_right : Fn := fnD 1 7 e_law_right
set_option maxHeartbeats 0 in
theorem ok_law_right {P : Program} {w : World} {K : PySem.W.Frag} {mg : Str → Option Value} {base : Heap} {a : Addr} {d : FuncData} (F : Fun K "_law_right" "_law_right" t_law_right a d) {a_law_draw : Addr} {d_law_draw : FuncData} (G_law_draw : FnG P w K mg base 1 a_law_draw d_law_draw ["_law_pot_here", "_law_many"] (spD K mg f_law_draw)) (m_law_draw : mg "_law_draw" = some (.ref a_law_draw)) (k_law_draw : PySem.W.keepIn K (.ref a_law_draw) = true) (b_law_draw : Binds K d_law_draw ["_law_pot_here", "_law_many"] []) {a_law_two : Addr} {d_law_two : FuncData} (G_law_two : FnG P w K mg base 1 a_law_two d_law_two ["_law_many", "_law_is_round"] (spD K mg f_law_two)) (m_law_two : mg "_law_two" = some (.ref a_law_two)) (k_law_two : PySem.W.keepIn K (.ref a_law_two) = true) (b_law_two : Binds K d_law_two ["_law_many", "_law_is_round"] []) {a_law_mixed_row : Addr} {d_law_mixed_row : FuncData} (G_law_mixed_row : FnG P w K mg base 6 a_law_mixed_row d_law_mixed_row ["_law_rows", "_law_numbers", "_law_under", "_law_is_plain", "_law_many"] (spD K mg f_law_mixed_row)) (m_law_mixed_row : mg "_law_mixed_row" = some (.ref a_law_mixed_row)) (k_law_mixed_row : PySem.W.keepIn K (.ref a_law_mixed_row) = true) (b_law_mixed_row : Binds K d_law_mixed_row ["_law_rows", "_law_numbers", "_law_under", "_law_is_plain", "_law_many"] []) {a_law_times : Addr} {d_law_times : FuncData} (G_law_times : FnG P w K mg base 1 a_law_times d_law_times ["_law_row", "_law_other"] (spD K mg f_law_times)) (m_law_times : mg "_law_times" = some (.ref a_law_times)) (k_law_times : PySem.W.keepIn K (.ref a_law_times) = true) (b_law_times : Binds K d_law_times ["_law_row", "_law_other"] []) :
    FnG P w K mg base 7 a d ["_law_pot_here"] (spD K mg f_law_right) :=
  fn_ok F s_law_right rfl rfl fun cdv A outer s H E room grd tk po => by
    have hu := hu_room room
    have hu1 := hu1_of hu
    have nd := s_law_right.nd
    exact (js_cons (js_par3 (i := 1) (j := 2) (l := 3) rfl nd rfl rfl rfl (by decide) (by decide) (by decide) rfl rfl rfl (ja_cons (je_call (G_law_draw.mono (by decide)) room grd (by rfl) m_law_draw k_law_draw b_law_draw tk (ja_cons (je_var (i := 0) rfl (by first | exact .inl rfl | exact .inr (.inl rfl) | exact .inr (.inr rfl))) (ja_cons je_k_int ja_nil))) (ja_cons (je_add je_k_int (je_call (G_law_draw.mono (by decide)) room grd (by rfl) m_law_draw k_law_draw b_law_draw tk (ja_cons (je_var (i := 0) rfl (by first | exact .inl rfl | exact .inr (.inl rfl) | exact .inr (.inr rfl))) (ja_cons je_k_int ja_nil)))) (ja_cons (je_eq hu (je_call (G_law_draw.mono (by decide)) room grd (by rfl) m_law_draw k_law_draw b_law_draw tk (ja_cons (je_var (i := 0) rfl (by first | exact .inl rfl | exact .inr (.inl rfl) | exact .inr (.inr rfl))) (ja_cons je_k_int ja_nil))) je_k_int) ja_nil))) (by rfl)) (js_cons (js_leakA (i := 4) (js_set (i := 4) nd rfl (by first | exact .inl rfl | exact .inr rfl) (je_call (G_law_two.mono (by decide)) room grd (by rfl) m_law_two k_law_two b_law_two tk (ja_cons (je_var (i := 2) rfl (by first | exact .inl rfl | exact .inr (.inl rfl) | exact .inr (.inr rfl))) (ja_cons (je_gt (je_var (i := 1) rfl (by first | exact .inl rfl | exact .inr (.inl rfl) | exact .inr (.inr rfl))) je_k_int) ja_nil))))) (js_cons (js_if (jb_eq hu (je_var (i := 1) rfl (by first | exact .inl rfl | exact .inr (.inl rfl) | exact .inr (.inr rfl))) je_k_int) (js_one (js_ret (je_eq hu (je_call (G_law_mixed_row.mono (by decide)) room grd (by rfl) m_law_mixed_row k_law_mixed_row b_law_mixed_row tk (ja_cons (je_lst (ja_cons (je_tup (ja_cons je_k_str (ja_cons je_k_int ja_nil))) ja_nil)) (ja_cons (je_lst (ja_cons je_k_int ja_nil)) (ja_cons je_k_int (ja_cons (je_var (i := 3) rfl (by first | exact .inl rfl | exact .inr (.inl rfl) | exact .inr (.inr rfl))) (ja_cons (je_var (i := 2) rfl (by first | exact .inl rfl | exact .inr (.inl rfl) | exact .inr (.inr rfl))) ja_nil)))))) (je_var (i := 4) rfl (by first | exact .inl rfl | exact .inr (.inl rfl) | exact .inr (.inr rfl)))))) js_nil) (js_cons (js_if (jb_eq hu (je_var (i := 1) rfl (by first | exact .inl rfl | exact .inr (.inl rfl) | exact .inr (.inr rfl))) je_k_int) (js_one (js_ret (je_eq hu (je_call (G_law_mixed_row.mono (by decide)) room grd (by rfl) m_law_mixed_row k_law_mixed_row b_law_mixed_row tk (ja_cons (je_lst (ja_cons (je_tup (ja_cons je_k_str (ja_cons je_k_int ja_nil))) ja_nil)) (ja_cons (je_lst (ja_cons je_k_int ja_nil)) (ja_cons je_k_int (ja_cons (je_var (i := 3) rfl (by first | exact .inl rfl | exact .inr (.inl rfl) | exact .inr (.inr rfl))) (ja_cons (je_var (i := 2) rfl (by first | exact .inl rfl | exact .inr (.inl rfl) | exact .inr (.inr rfl))) ja_nil)))))) (je_call (G_law_times.mono (by decide)) room grd (by rfl) m_law_times k_law_times b_law_times tk (ja_cons (je_var (i := 4) rfl (by first | exact .inl rfl | exact .inr (.inl rfl) | exact .inr (.inr rfl))) (ja_cons (je_var (i := 4) rfl (by first | exact .inl rfl | exact .inr (.inl rfl) | exact .inr (.inr rfl))) ja_nil)))))) js_nil) (js_cons (js_if (jb_eq hu (je_var (i := 1) rfl (by first | exact .inl rfl | exact .inr (.inl rfl) | exact .inr (.inr rfl))) je_k_int) (js_cons (js_leakA (i := 5) (js_set (i := 5) nd rfl (by first | exact .inl rfl | exact .inr rfl) (je_call (G_law_times.mono (by decide)) room grd (by rfl) m_law_times k_law_times b_law_times tk (ja_cons (je_var (i := 4) rfl (by first | exact .inl rfl | exact .inr (.inl rfl) | exact .inr (.inr rfl))) (ja_cons (je_var (i := 4) rfl (by first | exact .inl rfl | exact .inr (.inl rfl) | exact .inr (.inr rfl))) ja_nil))))) (js_cons (js_set (i := 6) nd rfl (by first | exact .inl rfl | exact .inr rfl) (je_call (G_law_mixed_row.mono (by decide)) room grd (by rfl) m_law_mixed_row k_law_mixed_row b_law_mixed_row tk (ja_cons (je_lst (ja_cons (je_tup (ja_cons je_k_str (ja_cons je_k_int ja_nil))) (ja_cons (je_tup (ja_cons je_k_str (ja_cons je_k_int ja_nil))) (ja_cons (je_tup (ja_cons je_k_str (ja_cons je_k_int ja_nil))) ja_nil)))) (ja_cons (je_lst (ja_cons je_k_int (ja_cons (je_neg je_k_int) (ja_cons je_k_int ja_nil)))) (ja_cons je_k_int (ja_cons (je_var (i := 3) rfl (by first | exact .inl rfl | exact .inr (.inl rfl) | exact .inr (.inr rfl))) (ja_cons (je_var (i := 2) rfl (by first | exact .inl rfl | exact .inr (.inl rfl) | exact .inr (.inr rfl))) ja_nil))))))) (js_one (js_ret (je_eq hu (je_var (i := 6) rfl (by first | exact .inl rfl | exact .inr (.inl rfl) | exact .inr (.inr rfl))) (je_call (G_law_times.mono (by decide)) room grd (by rfl) m_law_times k_law_times b_law_times tk (ja_cons (je_var (i := 5) rfl (by first | exact .inl rfl | exact .inr (.inl rfl) | exact .inr (.inr rfl))) (ja_cons (je_var (i := 5) rfl (by first | exact .inl rfl | exact .inr (.inl rfl) | exact .inr (.inr rfl))) ja_nil)))))))) js_nil) (js_cons (js_if (jb_eq hu (je_var (i := 1) rfl (by first | exact .inl rfl | exact .inr (.inl rfl) | exact .inr (.inr rfl))) je_k_int) (js_one (js_ret (je_eq hu (je_call (G_law_mixed_row.mono (by decide)) room grd (by rfl) m_law_mixed_row k_law_mixed_row b_law_mixed_row tk (ja_cons (je_lst (ja_cons (je_tup (ja_cons je_k_str (ja_cons je_k_int ja_nil))) ja_nil)) (ja_cons (je_lst (ja_cons je_k_int ja_nil)) (ja_cons je_k_int (ja_cons (je_var (i := 3) rfl (by first | exact .inl rfl | exact .inr (.inl rfl) | exact .inr (.inr rfl))) (ja_cons (je_var (i := 2) rfl (by first | exact .inl rfl | exact .inr (.inl rfl) | exact .inr (.inr rfl))) ja_nil)))))) (je_var (i := 4) rfl (by first | exact .inl rfl | exact .inr (.inl rfl) | exact .inr (.inr rfl)))))) js_nil) (js_one (js_ret (je_eq hu (je_call (G_law_mixed_row.mono (by decide)) room grd (by rfl) m_law_mixed_row k_law_mixed_row b_law_mixed_row tk (ja_cons (je_lst (ja_cons (je_tup (ja_cons je_k_str (ja_cons je_k_int ja_nil))) ja_nil)) (ja_cons (je_lst (ja_cons je_k_int ja_nil)) (ja_cons je_k_int (ja_cons (je_var (i := 3) rfl (by first | exact .inl rfl | exact .inr (.inl rfl) | exact .inr (.inr rfl))) (ja_cons (je_var (i := 2) rfl (by first | exact .inl rfl | exact .inr (.inl rfl) | exact .inr (.inr rfl))) ja_nil)))))) (je_call (G_law_times.mono (by decide)) room grd (by rfl) m_law_times k_law_times b_law_times tk (ja_cons (je_var (i := 4) rfl (by first | exact .inl rfl | exact .inr (.inl rfl) | exact .inr (.inr rfl))) (ja_cons (je_var (i := 4) rfl (by first | exact .inl rfl | exact .inr (.inl rfl) | exact .inr (.inr rfl))) ja_nil))))))))))))
abbrev t_law_pot : Stmt := top 37
theorem s_law_pot : FnScope ["_law_script", "_law_k", "_law_cell"] ["_law_script", "_law_k"] (defScope t_law_pot) := ⟨rfl, rfl, rfl, by decide +kernel, rfl, by decide +kernel, by decide +kernel⟩
def e_law_pot : SemS := sSeq (sSet 2 (sIte (sTruC (sOp (gCmp cLt) (s2 (sV 1) (sOp gLen (sCons (sV 0) (sNil)))))) (sOp gAbs (sCons (sOp gIx (s2 (sV 0) (sV 1))) (sNil))) (sOp gAdd (s2 (sOp gMul (s2 (sK (.int 403)) (sV 1))) (sK (.int 571)))))) (sRet (sLst (sCons (sOp gMax (sCons (sK (.int 0)) (sCons (sOp gSub (s2 (sV 2) (sOp gPow (s2 (sK (.int 10)) (sK (.int 18)))))) (sNil)))) (sCons (sOp gAdd (s2 (sOp gMod (s2 (sOp gInt (sCons (sOp gAdd (s2 (sOp gAdd (s2 (sOp gMul (s2 (sOp gMod (s2 (sOp gInt (sCons (sV 2) (sNil))) (sK (.int 2147483549)))) (sK (.int 48271)))) (sOp gMul (s2 (sK (.int 8867)) (sV 1))))) (sK (.int 611)))) (sNil))) (sK (.int 2147483579)))) (sK (.int 1)))) (sNil)))))
def f_law_pot : Fn := fnD 2 3 e_law_pot
set_option maxHeartbeats 0 in
theorem ok_law_pot {P : Program} {w : World} {K : PySem.W.Frag} {mg : Str → Option Value} {base : Heap} {a : Addr} {d : FuncData} (F : Fun K "_law_pot" "_law_pot" t_law_pot a d) (m_len : mg "len" = none) (m_abs : mg "abs" = none) (m_max : mg "max" = none) (m_int : mg "int" = none) :
    FnG P w K mg base 1 a d ["_law_script", "_law_k"] (spD K mg f_law_pot) :=
  fn_ok F s_law_pot rfl rfl fun cdv A outer s H E room grd tk po => by
    have hu := hu_room room
    have hu1 := hu1_of hu
    have nd := s_law_pot.nd
    exact (js_cons (js_set (i := 2) nd rfl (by first | exact .inl rfl | exact .inr rfl) (je_ite (jb_lt (je_var (i := 1) rfl (by first | exact .inl rfl | exact .inr (.inl rfl) | exact .inr (.inr rfl))) (jc_len (by rfl) m_len (ja_cons (je_var (i := 0) rfl (by first | exact .inl rfl | exact .inr (.inl rfl) | exact .inr (.inr rfl))) ja_nil))) (jc_abs (by rfl) m_abs (ja_cons (je_ix (je_var (i := 0) rfl (by first | exact .inl rfl | exact .inr (.inl rfl) | exact .inr (.inr rfl))) (je_var (i := 1) rfl (by first | exact .inl rfl | exact .inr (.inl rfl) | exact .inr (.inr rfl))) (fun _ _ => rfl)) ja_nil)) (je_add (je_mul je_k_int (je_var (i := 1) rfl (by first | exact .inl rfl | exact .inr (.inl rfl) | exact .inr (.inr rfl)))) je_k_int))) (js_one (js_ret (je_lst (ja_cons (jc_max rfl (by rfl) m_max (ja_cons je_k_int (ja_cons (je_sub (je_var (i := 2) rfl (by first | exact .inl rfl | exact .inr (.inl rfl) | exact .inr (.inr rfl))) (je_pow je_k_int je_k_int)) ja_nil))) (ja_cons (je_add (je_mod (jc_int (by rfl) m_int (ja_cons (je_add (je_add (je_mul (je_mod (jc_int (by rfl) m_int (ja_cons (je_var (i := 2) rfl (by first | exact .inl rfl | exact .inr (.inl rfl) | exact .inr (.inr rfl))) ja_nil)) je_k_int) je_k_int) (je_mul je_k_int (je_var (i := 1) rfl (by first | exact .inl rfl | exact .inr (.inl rfl) | exact .inr (.inr rfl))))) je_k_int) ja_nil)) je_k_int) je_k_int) ja_nil))))))
abbrev t_law : Stmt := top 43
theorem s_law : FnScope ["_law_script"] ["_law_script"] (defScope t_law) := ⟨rfl, rfl, rfl, by decide +kernel, rfl, by decide +kernel, by decide +kernel⟩
def e_law : SemS := sRet (sCall f_law_right (sCons (sCall f_law_pot (sCons (sV 0) (sCons (sK (.int 0)) (sNil)))) (sNil)))
def f_law : Fn := fnD 1 1 e_law
set_option maxHeartbeats 0 in
theorem ok_law {P : Program} {w : World} {K : PySem.W.Frag} {mg : Str → Option Value} {base : Heap} {a : Addr} {d : FuncData} (F : Fun K "law" "law" t_law a d) {a_law_right : Addr} {d_law_right : FuncData} (G_law_right : FnG P w K mg base 7 a_law_right d_law_right ["_law_pot_here"] (spD K mg f_law_right)) (m_law_right : mg "_law_right" = some (.ref a_law_right)) (k_law_right : PySem.W.keepIn K (.ref a_law_right) = true) (b_law_right : Binds K d_law_right ["_law_pot_here"] []) {a_law_pot : Addr} {d_law_pot : FuncData} (G_law_pot : FnG P w K mg base 1 a_law_pot d_law_pot ["_law_script", "_law_k"] (spD K mg f_law_pot)) (m_law_pot : mg "_law_pot" = some (.ref a_law_pot)) (k_law_pot : PySem.W.keepIn K (.ref a_law_pot) = true) (b_law_pot : Binds K d_law_pot ["_law_script", "_law_k"] []) :
    FnG P w K mg base 8 a d ["_law_script"] (spD K mg f_law) :=
  fn_ok F s_law rfl rfl fun cdv A outer s H E room grd tk po => by
    have hu := hu_room room
    have hu1 := hu1_of hu
    have nd := s_law.nd
    exact (js_one (js_ret (je_call (G_law_right.mono (by decide)) room grd (by rfl) m_law_right k_law_right b_law_right tk (ja_cons (je_call (G_law_pot.mono (by decide)) room grd (by rfl) m_law_pot k_law_pot b_law_pot tk (ja_cons (je_var (i := 0) rfl (by first | exact .inl rfl | exact .inr (.inl rfl) | exact .inr (.inr rfl))) (ja_cons je_k_int ja_nil))) ja_nil))))
set_option maxHeartbeats 0 in
theorem all_mk {l : PySem.W.OpenLaw} {w : World} {K : PySem.W.Frag} {h : Heap} {mg : Str → Option Value} {fa : Addr} (X : K.In h) (G : h.Ns mainGlobals mg) (hfa : mg "law" = some (.ref fa))
    {a0 : Addr} {od0 an0 : Option Addr} {sl0 : Array (Option Value)} {oc0 kv0 dc0 pm0 cd0 ct0 : Value} (q0 : PySem.W.nsIn K mainGlobals "_law_draw" = some (some (.ref a0))) (l0 : K.lookup a0 = some ⟨oc0, od0, .func (PySem.W.fnOf "_law_draw" "_law_draw" (defArgs t_law_draw) (defBody t_law_draw) (defScope t_law_draw) .none kv0 dc0 pm0 an0 cd0 ct0), sl0⟩) (c0 : PySem.W.codeIn K cd0 "_law_draw" = true) (k0 : PySem.W.keepIn K (.ref a0) = true)
    {a1 : Addr} {od1 an1 : Option Addr} {sl1 : Array (Option Value)} {oc1 kv1 dc1 pm1 cd1 ct1 : Value} (q1 : PySem.W.nsIn K mainGlobals "_law_two" = some (some (.ref a1))) (l1 : K.lookup a1 = some ⟨oc1, od1, .func (PySem.W.fnOf "_law_two" "_law_two" (defArgs t_law_two) (defBody t_law_two) (defScope t_law_two) .none kv1 dc1 pm1 an1 cd1 ct1), sl1⟩) (c1 : PySem.W.codeIn K cd1 "_law_two" = true) (k1 : PySem.W.keepIn K (.ref a1) = true)
    {a2 : Addr} {od2 an2 : Option Addr} {sl2 : Array (Option Value)} {oc2 kv2 dc2 pm2 cd2 ct2 : Value} (q2 : PySem.W.nsIn K mainGlobals "is_word" = some (some (.ref a2))) (l2 : K.lookup a2 = some ⟨oc2, od2, .func (PySem.W.fnOf "is_word" "is_word" (defArgs t_is_word) (defBody t_is_word) (defScope t_is_word) .none kv2 dc2 pm2 an2 cd2 ct2), sl2⟩) (c2 : PySem.W.codeIn K cd2 "is_word" = true) (k2 : PySem.W.keepIn K (.ref a2) = true)
    {a3 : Addr} {od3 an3 : Option Addr} {sl3 : Array (Option Value)} {oc3 kv3 dc3 pm3 cd3 ct3 : Value} (q3 : PySem.W.nsIn K mainGlobals "is_integer" = some (some (.ref a3))) (l3 : K.lookup a3 = some ⟨oc3, od3, .func (PySem.W.fnOf "is_integer" "is_integer" (defArgs t_is_integer) (defBody t_is_integer) (defScope t_is_integer) .none kv3 dc3 pm3 an3 cd3 ct3), sl3⟩) (c3 : PySem.W.codeIn K cd3 "is_integer" = true) (k3 : PySem.W.keepIn K (.ref a3) = true)
    {a4 : Addr} {od4 an4 : Option Addr} {sl4 : Array (Option Value)} {oc4 kv4 dc4 pm4 cd4 ct4 : Value} (q4 : PySem.W.nsIn K mainGlobals "is_count" = some (some (.ref a4))) (l4 : K.lookup a4 = some ⟨oc4, od4, .func (PySem.W.fnOf "is_count" "is_count" (defArgs t_is_count) (defBody t_is_count) (defScope t_is_count) .none kv4 dc4 pm4 an4 cd4 ct4), sl4⟩) (c4 : PySem.W.codeIn K cd4 "is_count" = true) (k4 : PySem.W.keepIn K (.ref a4) = true)
    {a5 : Addr} {od5 an5 : Option Addr} {sl5 : Array (Option Value)} {oc5 kv5 dc5 pm5 cd5 ct5 : Value} (q5 : PySem.W.nsIn K mainGlobals "is_divisor_value" = some (some (.ref a5))) (l5 : K.lookup a5 = some ⟨oc5, od5, .func (PySem.W.fnOf "is_divisor_value" "is_divisor_value" (defArgs t_is_divisor_value) (defBody t_is_divisor_value) (defScope t_is_divisor_value) .none kv5 dc5 pm5 an5 cd5 ct5), sl5⟩) (c5 : PySem.W.codeIn K cd5 "is_divisor_value" = true) (k5 : PySem.W.keepIn K (.ref a5) = true)
    {a6 : Addr} {od6 an6 : Option Addr} {sl6 : Array (Option Value)} {oc6 kv6 dc6 pm6 cd6 ct6 : Value} (q6 : PySem.W.nsIn K mainGlobals "want_divisors" = some (some (.ref a6))) (l6 : K.lookup a6 = some ⟨oc6, od6, .func (PySem.W.fnOf "want_divisors" "want_divisors" (defArgs t_want_divisors) (defBody t_want_divisors) (defScope t_want_divisors) .none kv6 dc6 pm6 an6 cd6 ct6), sl6⟩) (c6 : PySem.W.codeIn K cd6 "want_divisors" = true) (k6 : PySem.W.keepIn K (.ref a6) = true)
    {a7 : Addr} {od7 an7 : Option Addr} {sl7 : Array (Option Value)} {oc7 kv7 dc7 pm7 cd7 ct7 : Value} (q7 : PySem.W.nsIn K mainGlobals "divisors_in" = some (some (.ref a7))) (l7 : K.lookup a7 = some ⟨oc7, od7, .func (PySem.W.fnOf "divisors_in" "divisors_in" (defArgs t_divisors_in) (defBody t_divisors_in) (defScope t_divisors_in) .none kv7 dc7 pm7 an7 cd7 ct7), sl7⟩) (c7 : PySem.W.codeIn K cd7 "divisors_in" = true) (k7 : PySem.W.keepIn K (.ref a7) = true)
    {a8 : Addr} {od8 an8 : Option Addr} {sl8 : Array (Option Value)} {oc8 kv8 dc8 pm8 cd8 ct8 : Value} (q8 : PySem.W.nsIn K mainGlobals "share_of" = some (some (.ref a8))) (l8 : K.lookup a8 = some ⟨oc8, od8, .func (PySem.W.fnOf "share_of" "share_of" (defArgs t_share_of) (defBody t_share_of) (defScope t_share_of) .none kv8 dc8 pm8 an8 cd8 ct8), sl8⟩) (c8 : PySem.W.codeIn K cd8 "share_of" = true) (k8 : PySem.W.keepIn K (.ref a8) = true)
    {a9 : Addr} {od9 an9 : Option Addr} {sl9 : Array (Option Value)} {oc9 kv9 dc9 pm9 cd9 ct9 : Value} (q9 : PySem.W.nsIn K mainGlobals "total_of" = some (some (.ref a9))) (l9 : K.lookup a9 = some ⟨oc9, od9, .func (PySem.W.fnOf "total_of" "total_of" (defArgs t_total_of) (defBody t_total_of) (defScope t_total_of) .none kv9 dc9 pm9 an9 cd9 ct9), sl9⟩) (c9 : PySem.W.codeIn K cd9 "total_of" = true) (k9 : PySem.W.keepIn K (.ref a9) = true)
    {a10 : Addr} {od10 an10 : Option Addr} {sl10 : Array (Option Value)} {oc10 kv10 dc10 pm10 cd10 ct10 : Value} (q10 : PySem.W.nsIn K mainGlobals "greatest_common" = some (some (.ref a10))) (l10 : K.lookup a10 = some ⟨oc10, od10, .func (PySem.W.fnOf "greatest_common" "greatest_common" (defArgs t_greatest_common) (defBody t_greatest_common) (defScope t_greatest_common) .none kv10 dc10 pm10 an10 cd10 ct10), sl10⟩) (c10 : PySem.W.codeIn K cd10 "greatest_common" = true) (k10 : PySem.W.keepIn K (.ref a10) = true)
    {a11 : Addr} {od11 an11 : Option Addr} {sl11 : Array (Option Value)} {oc11 kv11 dc11 pm11 cd11 ct11 : Value} (q11 : PySem.W.nsIn K mainGlobals "made_ratio" = some (some (.ref a11))) (l11 : K.lookup a11 = some ⟨oc11, od11, .func (PySem.W.fnOf "made_ratio" "made_ratio" (defArgs t_made_ratio) (defBody t_made_ratio) (defScope t_made_ratio) .none kv11 dc11 pm11 an11 cd11 ct11), sl11⟩) (c11 : PySem.W.codeIn K cd11 "made_ratio" = true) (k11 : PySem.W.keepIn K (.ref a11) = true)
    {a12 : Addr} {od12 an12 : Option Addr} {sl12 : Array (Option Value)} {oc12 kv12 dc12 pm12 cd12 ct12 : Value} (q12 : PySem.W.nsIn K mainGlobals "number_by" = some (some (.ref a12))) (l12 : K.lookup a12 = some ⟨oc12, od12, .func (PySem.W.fnOf "number_by" "number_by" (defArgs t_number_by) (defBody t_number_by) (defScope t_number_by) .none kv12 dc12 pm12 an12 cd12 ct12), sl12⟩) (c12 : PySem.W.codeIn K cd12 "number_by" = true) (k12 : PySem.W.keepIn K (.ref a12) = true)
    {a13 : Addr} {od13 an13 : Option Addr} {sl13 : Array (Option Value)} {oc13 kv13 dc13 pm13 cd13 ct13 : Value} (q13 : PySem.W.nsIn K mainGlobals "plain_numbers" = some (some (.ref a13))) (l13 : K.lookup a13 = some ⟨oc13, od13, .func (PySem.W.fnOf "plain_numbers" "plain_numbers" (defArgs t_plain_numbers) (defBody t_plain_numbers) (defScope t_plain_numbers) .none kv13 dc13 pm13 an13 cd13 ct13), sl13⟩) (c13 : PySem.W.codeIn K cd13 "plain_numbers" = true) (k13 : PySem.W.keepIn K (.ref a13) = true)
    {a14 : Addr} {od14 an14 : Option Addr} {sl14 : Array (Option Value)} {oc14 kv14 dc14 pm14 cd14 ct14 : Value} (q14 : PySem.W.nsIn K mainGlobals "is_between" = some (some (.ref a14))) (l14 : K.lookup a14 = some ⟨oc14, od14, .func (PySem.W.fnOf "is_between" "is_between" (defArgs t_is_between) (defBody t_is_between) (defScope t_is_between) .none kv14 dc14 pm14 an14 cd14 ct14), sl14⟩) (c14 : PySem.W.codeIn K cd14 "is_between" = true) (k14 : PySem.W.keepIn K (.ref a14) = true)
    {a15 : Addr} {od15 an15 : Option Addr} {sl15 : Array (Option Value)} {oc15 kv15 dc15 pm15 cd15 ct15 : Value} (q15 : PySem.W.nsIn K mainGlobals "want_many" = some (some (.ref a15))) (l15 : K.lookup a15 = some ⟨oc15, od15, .func (PySem.W.fnOf "want_many" "want_many" (defArgs t_want_many) (defBody t_want_many) (defScope t_want_many) .none kv15 dc15 pm15 an15 cd15 ct15), sl15⟩) (c15 : PySem.W.codeIn K cd15 "want_many" = true) (k15 : PySem.W.keepIn K (.ref a15) = true)
    {a16 : Addr} {od16 an16 : Option Addr} {sl16 : Array (Option Value)} {oc16 kv16 dc16 pm16 cd16 ct16 : Value} (q16 : PySem.W.nsIn K mainGlobals "plain_divisor_row" = some (some (.ref a16))) (l16 : K.lookup a16 = some ⟨oc16, od16, .func (PySem.W.fnOf "plain_divisor_row" "plain_divisor_row" (defArgs t_plain_divisor_row) (defBody t_plain_divisor_row) (defScope t_plain_divisor_row) .none kv16 dc16 pm16 an16 cd16 ct16), sl16⟩) (c16 : PySem.W.codeIn K cd16 "plain_divisor_row" = true) (k16 : PySem.W.keepIn K (.ref a16) = true)
    {a17 : Addr} {od17 an17 : Option Addr} {sl17 : Array (Option Value)} {oc17 kv17 dc17 pm17 cd17 ct17 : Value} (q17 : PySem.W.nsIn K mainGlobals "totals_to" = some (some (.ref a17))) (l17 : K.lookup a17 = some ⟨oc17, od17, .func (PySem.W.fnOf "totals_to" "totals_to" (defArgs t_totals_to) (defBody t_totals_to) (defScope t_totals_to) .none kv17 dc17 pm17 an17 cd17 ct17), sl17⟩) (c17 : PySem.W.codeIn K cd17 "totals_to" = true) (k17 : PySem.W.keepIn K (.ref a17) = true)
    {a18 : Addr} {od18 an18 : Option Addr} {sl18 : Array (Option Value)} {oc18 kv18 dc18 pm18 cd18 ct18 : Value} (q18 : PySem.W.nsIn K mainGlobals "divisor_numbers" = some (some (.ref a18))) (l18 : K.lookup a18 = some ⟨oc18, od18, .func (PySem.W.fnOf "divisor_numbers" "divisor_numbers" (defArgs t_divisor_numbers) (defBody t_divisor_numbers) (defScope t_divisor_numbers) .none kv18 dc18 pm18 an18 cd18 ct18), sl18⟩) (c18 : PySem.W.codeIn K cd18 "divisor_numbers" = true) (k18 : PySem.W.keepIn K (.ref a18) = true)
    {a19 : Addr} {od19 an19 : Option Addr} {sl19 : Array (Option Value)} {oc19 kv19 dc19 pm19 cd19 ct19 : Value} (q19 : PySem.W.nsIn K mainGlobals "divisor_row" = some (some (.ref a19))) (l19 : K.lookup a19 = some ⟨oc19, od19, .func (PySem.W.fnOf "divisor_row" "divisor_row" (defArgs t_divisor_row) (defBody t_divisor_row) (defScope t_divisor_row) .none kv19 dc19 pm19 an19 cd19 ct19), sl19⟩) (c19 : PySem.W.codeIn K cd19 "divisor_row" = true) (k19 : PySem.W.keepIn K (.ref a19) = true)
    {a20 : Addr} {od20 an20 : Option Addr} {sl20 : Array (Option Value)} {oc20 kv20 dc20 pm20 cd20 ct20 : Value} (q20 : PySem.W.nsIn K mainGlobals "_law_mixed_row" = some (some (.ref a20))) (l20 : K.lookup a20 = some ⟨oc20, od20, .func (PySem.W.fnOf "_law_mixed_row" "_law_mixed_row" (defArgs t_law_mixed_row) (defBody t_law_mixed_row) (defScope t_law_mixed_row) .none kv20 dc20 pm20 an20 cd20 ct20), sl20⟩) (c20 : PySem.W.codeIn K cd20 "_law_mixed_row" = true) (k20 : PySem.W.keepIn K (.ref a20) = true)
    {a21 : Addr} {od21 an21 : Option Addr} {sl21 : Array (Option Value)} {oc21 kv21 dc21 pm21 cd21 ct21 : Value} (q21 : PySem.W.nsIn K mainGlobals "_law_times" = some (some (.ref a21))) (l21 : K.lookup a21 = some ⟨oc21, od21, .func (PySem.W.fnOf "_law_times" "_law_times" (defArgs t_law_times) (defBody t_law_times) (defScope t_law_times) .none kv21 dc21 pm21 an21 cd21 ct21), sl21⟩) (c21 : PySem.W.codeIn K cd21 "_law_times" = true) (k21 : PySem.W.keepIn K (.ref a21) = true)
    {a22 : Addr} {od22 an22 : Option Addr} {sl22 : Array (Option Value)} {oc22 kv22 dc22 pm22 cd22 ct22 : Value} (q22 : PySem.W.nsIn K mainGlobals "_law_right" = some (some (.ref a22))) (l22 : K.lookup a22 = some ⟨oc22, od22, .func (PySem.W.fnOf "_law_right" "_law_right" (defArgs t_law_right) (defBody t_law_right) (defScope t_law_right) .none kv22 dc22 pm22 an22 cd22 ct22), sl22⟩) (c22 : PySem.W.codeIn K cd22 "_law_right" = true) (k22 : PySem.W.keepIn K (.ref a22) = true)
    {a23 : Addr} {od23 an23 : Option Addr} {sl23 : Array (Option Value)} {oc23 kv23 dc23 pm23 cd23 ct23 : Value} (q23 : PySem.W.nsIn K mainGlobals "_law_pot" = some (some (.ref a23))) (l23 : K.lookup a23 = some ⟨oc23, od23, .func (PySem.W.fnOf "_law_pot" "_law_pot" (defArgs t_law_pot) (defBody t_law_pot) (defScope t_law_pot) .none kv23 dc23 pm23 an23 cd23 ct23), sl23⟩) (c23 : PySem.W.codeIn K cd23 "_law_pot" = true) (k23 : PySem.W.keepIn K (.ref a23) = true)
    {a24 : Addr} {od24 an24 : Option Addr} {sl24 : Array (Option Value)} {oc24 kv24 dc24 pm24 cd24 ct24 : Value} (q24 : PySem.W.nsIn K mainGlobals "law" = some (some (.ref a24))) (l24 : K.lookup a24 = some ⟨oc24, od24, .func (PySem.W.fnOf "law" "law" (defArgs t_law) (defBody t_law) (defScope t_law) .none kv24 dc24 pm24 an24 cd24 ct24), sl24⟩) (c24 : PySem.W.codeIn K cd24 "law" = true) (k24 : PySem.W.keepIn K (.ref a24) = true)
    {a_WORDS : Addr} {od_WORDS : Option Addr} {n1_WORDS : Nat} {sl_WORDS : Array (Option Value)} {u0_WORDS u1_WORDS u2_WORDS u3_WORDS u4_WORDS : Tok} (n_WORDS : PySem.W.nsIn K mainGlobals "WORDS" = some (some (.ref a_WORDS))) (t_WORDS : K.lookup a_WORDS = some ⟨.type "tuple", od_WORDS, .seq #[.str "third" u0_WORDS, .str "quarter" u1_WORDS, .str "two" u2_WORDS, .str "four" u3_WORDS, .str "six" u4_WORDS] n1_WORDS, sl_WORDS⟩)
    {u_MOST_STEP : Tok} (n_MOST_STEP : PySem.W.nsIn K mainGlobals "MOST_STEP" = some (some (.int 60 u_MOST_STEP)))
    {a_LEVELS : Addr} {np_LEVELS : Nat} {w0_LEVELS w1_LEVELS w2_LEVELS w3_LEVELS w4_LEVELS : Tok} {u0_LEVELS u1_LEVELS u2_LEVELS u3_LEVELS u4_LEVELS : Tok} (n_LEVELS : PySem.W.nsIn K mainGlobals "LEVELS" = some (some (.ref a_LEVELS))) (t_LEVELS : K.lookup a_LEVELS = some ⟨.type "dict", none, .dict #[⟨PySem.PyData.keyHash w.params "third", .str "third" w0_LEVELS, .int 3 u0_LEVELS⟩, ⟨PySem.PyData.keyHash w.params "quarter", .str "quarter" w1_LEVELS, .int 4 u1_LEVELS⟩, ⟨PySem.PyData.keyHash w.params "two", .str "two" w2_LEVELS, .int 1 u2_LEVELS⟩, ⟨PySem.PyData.keyHash w.params "four", .str "four" w3_LEVELS, .int 1 u3_LEVELS⟩, ⟨PySem.PyData.keyHash w.params "six", .str "six" w4_LEVELS, .int 1 u4_LEVELS⟩] np_LEVELS, #[]⟩) (z_LEVELS : (a_LEVELS == sysModules) = false)
    {u_MOST_LEVEL : Tok} (n_MOST_LEVEL : PySem.W.nsIn K mainGlobals "MOST_LEVEL" = some (some (.int 120 u_MOST_LEVEL)))
    {a_RESTS : Addr} {np_RESTS : Nat} {w0_RESTS w1_RESTS : Tok} {i0_RESTS : Addr} {i1_RESTS : Addr} (n_RESTS : PySem.W.nsIn K mainGlobals "RESTS" = some (some (.ref a_RESTS))) (t_RESTS : K.lookup a_RESTS = some ⟨.type "dict", none, .dict #[⟨PySem.PyData.keyHash w.params "third", .str "third" w0_RESTS, .ref i0_RESTS⟩, ⟨PySem.PyData.keyHash w.params "quarter", .str "quarter" w1_RESTS, .ref i1_RESTS⟩] np_RESTS, #[]⟩) (z_RESTS : (a_RESTS == sysModules) = false) {od0_RESTS : Option Addr} {n10_RESTS : Nat} {sl0_RESTS : Array (Option Value)} {u0_0_RESTS u0_1_RESTS u0_2_RESTS : Tok} (t0_RESTS : K.lookup i0_RESTS = some ⟨.type "tuple", od0_RESTS, .seq #[.int 0 u0_0_RESTS, .int 1 u0_1_RESTS, .int (-1) u0_2_RESTS] n10_RESTS, sl0_RESTS⟩) {od1_RESTS : Option Addr} {n11_RESTS : Nat} {sl1_RESTS : Array (Option Value)} {u1_0_RESTS u1_1_RESTS u1_2_RESTS u1_3_RESTS : Tok} (t1_RESTS : K.lookup i1_RESTS = some ⟨.type "tuple", od1_RESTS, .seq #[.int 0 u1_0_RESTS, .int 1 u1_1_RESTS, .int 0 u1_2_RESTS, .int (-1) u1_3_RESTS] n11_RESTS, sl1_RESTS⟩)
    {a_EXPONENTS : Addr} {np_EXPONENTS : Nat} {w0_EXPONENTS w1_EXPONENTS w2_EXPONENTS : Tok} {u0_EXPONENTS u1_EXPONENTS u2_EXPONENTS : Tok} (n_EXPONENTS : PySem.W.nsIn K mainGlobals "EXPONENTS" = some (some (.ref a_EXPONENTS))) (t_EXPONENTS : K.lookup a_EXPONENTS = some ⟨.type "dict", none, .dict #[⟨PySem.PyData.keyHash w.params "two", .str "two" w0_EXPONENTS, .int 1 u0_EXPONENTS⟩, ⟨PySem.PyData.keyHash w.params "four", .str "four" w1_EXPONENTS, .int 3 u1_EXPONENTS⟩, ⟨PySem.PyData.keyHash w.params "six", .str "six" w2_EXPONENTS, .int 5 u2_EXPONENTS⟩] np_EXPONENTS, #[]⟩) (z_EXPONENTS : (a_EXPONENTS == sysModules) = false)
    {a_FACTORS : Addr} {np_FACTORS : Nat} {w0_FACTORS w1_FACTORS w2_FACTORS w3_FACTORS w4_FACTORS : Tok} {u0_FACTORS u1_FACTORS u2_FACTORS u3_FACTORS u4_FACTORS : Tok} (n_FACTORS : PySem.W.nsIn K mainGlobals "FACTORS" = some (some (.ref a_FACTORS))) (t_FACTORS : K.lookup a_FACTORS = some ⟨.type "dict", none, .dict #[⟨PySem.PyData.keyHash w.params "third", .str "third" w0_FACTORS, .int 6 u0_FACTORS⟩, ⟨PySem.PyData.keyHash w.params "quarter", .str "quarter" w1_FACTORS, .int 4 u1_FACTORS⟩, ⟨PySem.PyData.keyHash w.params "two", .str "two" w2_FACTORS, .int 24 u2_FACTORS⟩, ⟨PySem.PyData.keyHash w.params "four", .str "four" w3_FACTORS, .int 240 u3_FACTORS⟩, ⟨PySem.PyData.keyHash w.params "six", .str "six" w4_FACTORS, .int (-504) u4_FACTORS⟩] np_FACTORS, #[]⟩) (z_FACTORS : (a_FACTORS == sysModules) = false)
    {a_UNIT : Addr} {od_UNIT : Option Addr} {n1_UNIT : Nat} {sl_UNIT : Array (Option Value)} {u0_UNIT u1_UNIT : Tok} (n_UNIT : PySem.W.nsIn K mainGlobals "UNIT" = some (some (.ref a_UNIT))) (t_UNIT : K.lookup a_UNIT = some ⟨.type "tuple", od_UNIT, .seq #[.int 1 u0_UNIT, .int 1 u1_UNIT] n1_UNIT, sl_UNIT⟩)
    {u_MOST_PLAIN : Tok} (n_MOST_PLAIN : PySem.W.nsIn K mainGlobals "MOST_PLAIN" = some (some (.int 300 u_MOST_PLAIN)))
    {u_MOST_TOTAL : Tok} (n_MOST_TOTAL : PySem.W.nsIn K mainGlobals "MOST_TOTAL" = some (some (.int 3000 u_MOST_TOTAL)))
    (n_divmod : PySem.W.nsIn K mainGlobals "divmod" = some none)
    (n_int : PySem.W.nsIn K mainGlobals "int" = some none)
    (n_range : PySem.W.nsIn K mainGlobals "range" = some none)
    (n_isinstance : PySem.W.nsIn K mainGlobals "isinstance" = some none)
    (n_str : PySem.W.nsIn K mainGlobals "str" = some none)
    (n_bool : PySem.W.nsIn K mainGlobals "bool" = some none)
    (n_tuple : PySem.W.nsIn K mainGlobals "tuple" = some none)
    (n_len : PySem.W.nsIn K mainGlobals "len" = some none)
    (n_sum : PySem.W.nsIn K mainGlobals "sum" = some none)
    (n_abs : PySem.W.nsIn K mainGlobals "abs" = some none)
    (n_zip : PySem.W.nsIn K mainGlobals "zip" = some none)
    (n_max : PySem.W.nsIn K mainGlobals "max" = some none) :
    ∃ fd : FuncData, (∀ (s : Shared) (v : Value), BindsTo s fd ⟨[v], []⟩ [("_law_script", v)]) ∧ ∀ base : Heap, K.In base → base.Ns mainGlobals mg → FnG l.prog w K mg base 8 fa fd ["_law_script"] (spD K mg f_law) := by
  have z := hfa.symm.trans (PySem.W.mg_of X G q24)
  have z2 : a24 = fa := by cases z; rfl
  subst z2
  have F0 := fun_mk (st := t_law_draw) l0 c0 k0
  have b0 := F0.binds (ps := ["_law_pot_here", "_law_many"]) fun _ _ _ _ _ _ us hl => match us, hl with | [_, _], _ => rfl
  have F1 := fun_mk (st := t_law_two) l1 c1 k1
  have b1 := F1.binds (ps := ["_law_many", "_law_is_round"]) fun _ _ _ _ _ _ us hl => match us, hl with | [_, _], _ => rfl
  have F2 := fun_mk (st := t_is_word) l2 c2 k2
  have b2 := F2.binds (ps := ["value"]) fun _ _ _ _ _ _ us hl => match us, hl with | [_], _ => rfl
  have F3 := fun_mk (st := t_is_integer) l3 c3 k3
  have b3 := F3.binds (ps := ["value"]) fun _ _ _ _ _ _ us hl => match us, hl with | [_], _ => rfl
  have F4 := fun_mk (st := t_is_count) l4 c4 k4
  have b4 := F4.binds (ps := ["value"]) fun _ _ _ _ _ _ us hl => match us, hl with | [_], _ => rfl
  have F5 := fun_mk (st := t_is_divisor_value) l5 c5 k5
  have b5 := F5.binds (ps := ["value"]) fun _ _ _ _ _ _ us hl => match us, hl with | [_], _ => rfl
  have F6 := fun_mk (st := t_want_divisors) l6 c6 k6
  have b6 := F6.binds (ps := ["value"]) fun _ _ _ _ _ _ us hl => match us, hl with | [_], _ => rfl
  have F7 := fun_mk (st := t_divisors_in) l7 c7 k7
  have b7 := F7.binds (ps := ["number"]) fun _ _ _ _ _ _ us hl => match us, hl with | [_], _ => rfl
  have F8 := fun_mk (st := t_share_of) l8 c8 k8
  have b8 := F8.binds (ps := ["word", "divisor"]) fun _ _ _ _ _ _ us hl => match us, hl with | [_, _], _ => rfl
  have F9 := fun_mk (st := t_total_of) l9 c9 k9
  have b9 := F9.binds (ps := ["word", "number"]) fun _ _ _ _ _ _ us hl => match us, hl with | [_, _], _ => rfl
  have F10 := fun_mk (st := t_greatest_common) l10 c10 k10
  have b10 := F10.binds (ps := ["first", "second"]) fun _ _ _ _ _ _ us hl => match us, hl with | [_, _], _ => rfl
  have F11 := fun_mk (st := t_made_ratio) l11 c11 k11
  have b11 := F11.binds (ps := ["first", "second"]) fun _ _ _ _ _ _ us hl => match us, hl with | [_, _], _ => rfl
  have F12 := fun_mk (st := t_number_by) l12 c12 k12
  have b12 := F12.binds (ps := ["divisors", "here", "at_step"]) fun _ _ _ _ _ _ us hl => match us, hl with | [_, _, _], _ => rfl
  have F13 := fun_mk (st := t_plain_numbers) l13 c13 k13
  have b13 := F13.binds (ps := ["divisors", "many"]) fun _ _ _ _ _ _ us hl => match us, hl with | [_, _], _ => rfl
  have F14 := fun_mk (st := t_is_between) l14 c14 k14
  have b14 := F14.binds (ps := ["value", "least", "most"]) fun _ _ _ _ _ _ us hl => match us, hl with | [_, _, _], _ => rfl
  have F15 := fun_mk (st := t_want_many) l15 c15 k15
  have b15 := F15.binds (ps := ["value", "most"]) fun _ _ _ _ _ _ us hl => match us, hl with | [_, _], _ => rfl
  have F16 := fun_mk (st := t_plain_divisor_row) l16 c16 k16
  have b16 := F16.binds (ps := ["divisors", "many"]) fun _ _ _ _ _ _ us hl => match us, hl with | [_, _], _ => rfl
  have F17 := fun_mk (st := t_totals_to) l17 c17 k17
  have b17 := F17.binds (ps := ["word", "many"]) fun _ _ _ _ _ _ us hl => match us, hl with | [_, _], _ => rfl
  have F18 := fun_mk (st := t_divisor_numbers) l18 c18 k18
  have b18 := F18.binds (ps := ["divisors", "many"]) fun _ _ _ _ _ _ us hl => match us, hl with | [_, _], _ => rfl
  have F19 := fun_mk (st := t_divisor_row) l19 c19 k19
  have b19 := F19.binds (ps := ["divisors", "many"]) fun _ _ _ _ _ _ us hl => match us, hl with | [_, _], _ => rfl
  have F20 := fun_mk (st := t_law_mixed_row) l20 c20 k20
  have b20 := F20.binds (ps := ["_law_rows", "_law_numbers", "_law_under", "_law_is_plain", "_law_many"]) fun _ _ _ _ _ _ us hl => match us, hl with | [_, _, _, _, _], _ => rfl
  have F21 := fun_mk (st := t_law_times) l21 c21 k21
  have b21 := F21.binds (ps := ["_law_row", "_law_other"]) fun _ _ _ _ _ _ us hl => match us, hl with | [_, _], _ => rfl
  have F22 := fun_mk (st := t_law_right) l22 c22 k22
  have b22 := F22.binds (ps := ["_law_pot_here"]) fun _ _ _ _ _ _ us hl => match us, hl with | [_], _ => rfl
  have F23 := fun_mk (st := t_law_pot) l23 c23 k23
  have b23 := F23.binds (ps := ["_law_script", "_law_k"]) fun _ _ _ _ _ _ us hl => match us, hl with | [_, _], _ => rfl
  have F24 := fun_mk (st := t_law) l24 c24 k24
  refine ⟨PySem.W.fnOf "law" "law" (defArgs t_law) (defBody t_law) (defScope t_law) .none kv24 dc24 pm24 an24 cd24 ct24, fun s v => .of_eq rfl, fun base _ _ => ?_⟩
  have g0 : FnG l.prog w K mg base 1 a0 _ ["_law_pot_here", "_law_many"] (spD K mg f_law_draw) := ok_law_draw F0 (PySem.W.mg_none_of X G n_divmod) (PySem.W.mg_none_of X G n_int)
  have g1 : FnG l.prog w K mg base 1 a1 _ ["_law_many", "_law_is_round"] (spD K mg f_law_two) := ok_law_two F1 (PySem.W.mg_none_of X G n_range)
  have g2 : FnG l.prog w K mg base 1 a2 _ ["value"] (spD K mg f_is_word) := ok_is_word F2 (fun Hs => (rp_tup_K t_WORDS rfl rfl (by rw [sizeLine_eq]; show 5 ≤ 16777216; decide) (xs := [.str "third", .str "quarter", .str "two", .str "four", .str "six"]) (.cons ⟨_, rfl⟩ (.cons ⟨_, rfl⟩ (.cons ⟨_, rfl⟩ (.cons ⟨_, rfl⟩ (.cons ⟨_, rfl⟩ (.nil)))))) (⟨_, _, rfl, rfl, ⟨_, _, rfl, rfl, ⟨_, _, rfl, rfl, ⟨_, _, rfl, rfl, ⟨_, _, rfl, rfl, rfl⟩⟩⟩⟩⟩))) (PySem.W.mg_of X G n_WORDS) (PySem.W.mg_none_of X G n_isinstance) (PySem.W.mg_none_of X G n_str)
  have g3 : FnG l.prog w K mg base 1 a3 _ ["value"] (spD K mg f_is_integer) := ok_is_integer F3 (PySem.W.mg_none_of X G n_isinstance) (PySem.W.mg_none_of X G n_int) (PySem.W.mg_none_of X G n_bool)
  have g4 : FnG l.prog w K mg base 2 a4 _ ["value"] (spD K mg f_is_count) := ok_is_count F4 g3 (PySem.W.mg_of X G q3) F3.kp b3
  have g5 : FnG l.prog w K mg base 3 a5 _ ["value"] (spD K mg f_is_divisor_value) := ok_is_divisor_value F5 g2 (PySem.W.mg_of X G q2) F2.kp b2 g4 (PySem.W.mg_of X G q4) F4.kp b4 (PySem.W.mg_of X G n_MOST_STEP) (cd_mk t_LEVELS (.cons (v := .int 3) ⟨_, rfl⟩ (fun _ => rfl) (.cons (v := .int 4) ⟨_, rfl⟩ (fun _ => rfl) (.cons (v := .int 1) ⟨_, rfl⟩ (fun _ => rfl) (.cons (v := .int 1) ⟨_, rfl⟩ (fun _ => rfl) (.cons (v := .int 1) ⟨_, rfl⟩ (fun _ => rfl) .nil))))) z_LEVELS) (PySem.W.mg_of X G n_LEVELS) (PySem.W.mg_of X G n_MOST_LEVEL) (PySem.W.mg_none_of X G n_isinstance) (PySem.W.mg_none_of X G n_tuple) (PySem.W.mg_none_of X G n_len) (PySem.W.mg_none_of X G n_str)
  have g6 : FnG l.prog w K mg base 4 a6 _ ["value"] (spD K mg f_want_divisors) := ok_want_divisors F6 g5 (PySem.W.mg_of X G q5) F5.kp b5
  have g7 : FnG l.prog w K mg base 1 a7 _ ["number"] (spD K mg f_divisors_in) := ok_divisors_in F7
  have g8 : FnG l.prog w K mg base 1 a8 _ ["word", "divisor"] (spD K mg f_share_of) := ok_share_of F8 (cd_mk t_RESTS (.cons (v := .ref i0_RESTS) rfl (fun Hs => (rp_tup_K t0_RESTS rfl rfl (by rw [sizeLine_eq]; show 3 ≤ 16777216; decide) (xs := [.int 0, .int 1, .int (-1)]) (.cons ⟨_, rfl⟩ (.cons ⟨_, rfl⟩ (.cons ⟨_, rfl⟩ (.nil)))) (⟨_, _, rfl, rfl, ⟨_, _, rfl, rfl, ⟨_, _, rfl, rfl, rfl⟩⟩⟩))) (.cons (v := .ref i1_RESTS) rfl (fun Hs => (rp_tup_K t1_RESTS rfl rfl (by rw [sizeLine_eq]; show 4 ≤ 16777216; decide) (xs := [.int 0, .int 1, .int 0, .int (-1)]) (.cons ⟨_, rfl⟩ (.cons ⟨_, rfl⟩ (.cons ⟨_, rfl⟩ (.cons ⟨_, rfl⟩ (.nil))))) (⟨_, _, rfl, rfl, ⟨_, _, rfl, rfl, ⟨_, _, rfl, rfl, ⟨_, _, rfl, rfl, rfl⟩⟩⟩⟩))) .nil)) z_RESTS) (PySem.W.mg_of X G n_RESTS) (cd_mk t_EXPONENTS (.cons (v := .int 1) ⟨_, rfl⟩ (fun _ => rfl) (.cons (v := .int 3) ⟨_, rfl⟩ (fun _ => rfl) (.cons (v := .int 5) ⟨_, rfl⟩ (fun _ => rfl) .nil))) z_EXPONENTS) (PySem.W.mg_of X G n_EXPONENTS) (PySem.W.mg_none_of X G n_len) (PySem.W.mg_none_of X G n_range)
  have g9 : FnG l.prog w K mg base 2 a9 _ ["word", "number"] (spD K mg f_total_of) := ok_total_of F9 g7 (PySem.W.mg_of X G q7) F7.kp b7 g8 (PySem.W.mg_of X G q8) F8.kp b8 (PySem.W.mg_none_of X G n_sum)
  have g10 : FnG l.prog w K mg base 1 a10 _ ["first", "second"] (spD K mg f_greatest_common) := ok_greatest_common F10 (PySem.W.mg_none_of X G n_abs)
  have g11 : FnG l.prog w K mg base 2 a11 _ ["first", "second"] (spD K mg f_made_ratio) := ok_made_ratio F11 g10 (PySem.W.mg_of X G q10) F10.kp b10
  have g12 : FnG l.prog w K mg base 3 a12 _ ["divisors", "here", "at_step"] (spD K mg f_number_by) := ok_number_by F12 g11 (PySem.W.mg_of X G q11) F11.kp b11 (cd_mk t_FACTORS (.cons (v := .int 6) ⟨_, rfl⟩ (fun _ => rfl) (.cons (v := .int 4) ⟨_, rfl⟩ (fun _ => rfl) (.cons (v := .int 24) ⟨_, rfl⟩ (fun _ => rfl) (.cons (v := .int 240) ⟨_, rfl⟩ (fun _ => rfl) (.cons (v := .int (-504)) ⟨_, rfl⟩ (fun _ => rfl) .nil))))) z_FACTORS) (PySem.W.mg_of X G n_FACTORS)
  have g13 : FnG l.prog w K mg base 4 a13 _ ["divisors", "many"] (spD K mg f_plain_numbers) := ok_plain_numbers F13 g9 (PySem.W.mg_of X G q9) F9.kp b9 g12 (PySem.W.mg_of X G q12) F12.kp b12 (fun Hs => (rp_tup_K t_UNIT rfl rfl (by rw [sizeLine_eq]; show 2 ≤ 16777216; decide) (xs := [.int 1, .int 1]) (.cons ⟨_, rfl⟩ (.cons ⟨_, rfl⟩ (.nil))) (⟨_, _, rfl, rfl, ⟨_, _, rfl, rfl, rfl⟩⟩))) (PySem.W.mg_of X G n_UNIT) (PySem.W.mg_none_of X G n_range)
  have g14 : FnG l.prog w K mg base 2 a14 _ ["value", "least", "most"] (spD K mg f_is_between) := ok_is_between F14 g3 (PySem.W.mg_of X G q3) F3.kp b3
  have g15 : FnG l.prog w K mg base 3 a15 _ ["value", "most"] (spD K mg f_want_many) := ok_want_many F15 g14 (PySem.W.mg_of X G q14) F14.kp b14
  have g16 : FnG l.prog w K mg base 5 a16 _ ["divisors", "many"] (spD K mg f_plain_divisor_row) := ok_plain_divisor_row F16 g6 (PySem.W.mg_of X G q6) F6.kp b6 g13 (PySem.W.mg_of X G q13) F13.kp b13 g15 (PySem.W.mg_of X G q15) F15.kp b15 (PySem.W.mg_of X G n_MOST_PLAIN)
  have g17 : FnG l.prog w K mg base 2 a17 _ ["word", "many"] (spD K mg f_totals_to) := ok_totals_to F17 g8 (PySem.W.mg_of X G q8) F8.kp b8 (PySem.W.mg_none_of X G n_range)
  have g18 : FnG l.prog w K mg base 4 a18 _ ["divisors", "many"] (spD K mg f_divisor_numbers) := ok_divisor_numbers F18 g17 (PySem.W.mg_of X G q17) F17.kp b17 g12 (PySem.W.mg_of X G q12) F12.kp b12 (fun Hs => (rp_tup_K t_UNIT rfl rfl (by rw [sizeLine_eq]; show 2 ≤ 16777216; decide) (xs := [.int 1, .int 1]) (.cons ⟨_, rfl⟩ (.cons ⟨_, rfl⟩ (.nil))) (⟨_, _, rfl, rfl, ⟨_, _, rfl, rfl, rfl⟩⟩))) (PySem.W.mg_of X G n_UNIT) (PySem.W.mg_none_of X G n_range)
  have g19 : FnG l.prog w K mg base 5 a19 _ ["divisors", "many"] (spD K mg f_divisor_row) := ok_divisor_row F19 g6 (PySem.W.mg_of X G q6) F6.kp b6 g18 (PySem.W.mg_of X G q18) F18.kp b18 g15 (PySem.W.mg_of X G q15) F15.kp b15 (PySem.W.mg_of X G n_MOST_TOTAL)
  have g20 : FnG l.prog w K mg base 6 a20 _ ["_law_rows", "_law_numbers", "_law_under", "_law_is_plain", "_law_many"] (spD K mg f_law_mixed_row) := ok_law_mixed_row F20 g16 (PySem.W.mg_of X G q16) F16.kp b16 g19 (PySem.W.mg_of X G q19) F19.kp b19 (PySem.W.mg_none_of X G n_range) (PySem.W.mg_none_of X G n_zip)
  have g21 : FnG l.prog w K mg base 1 a21 _ ["_law_row", "_law_other"] (spD K mg f_law_times) := ok_law_times F21 (PySem.W.mg_none_of X G n_range) (PySem.W.mg_none_of X G n_len) (PySem.W.mg_none_of X G n_sum)
  have g22 : FnG l.prog w K mg base 7 a22 _ ["_law_pot_here"] (spD K mg f_law_right) := ok_law_right F22 g0 (PySem.W.mg_of X G q0) F0.kp b0 g1 (PySem.W.mg_of X G q1) F1.kp b1 g20 (PySem.W.mg_of X G q20) F20.kp b20 g21 (PySem.W.mg_of X G q21) F21.kp b21
  have g23 : FnG l.prog w K mg base 1 a23 _ ["_law_script", "_law_k"] (spD K mg f_law_pot) := ok_law_pot F23 (PySem.W.mg_none_of X G n_len) (PySem.W.mg_none_of X G n_abs) (PySem.W.mg_none_of X G n_max) (PySem.W.mg_none_of X G n_int)
  have g24 : FnG l.prog w K mg base 8 a24 _ ["_law_script"] (spD K mg f_law) := ok_law F24 g22 (PySem.W.mg_of X G q22) F22.kp b22 g23 (PySem.W.mg_of X G q23) F23.kp b23
  exact g24
end Pf
namespace Pf
open PySem L2 L2.Py
def g_law_pot (p0_script : (List Int)) (p1_k : Int) : Option (List Int) := (if (decide (p1_k < (p0_script.length : Int))) = true then ((geti p0_script p1_k).bind fun (y4 : Int) => some (Int.natAbs y4 : Int)) else ((mulI 403 p1_k).bind fun (y5 : Int) => some (y5 + 571))).bind fun (s3 : Int) => (powI 10 18).bind fun (y6 : Int) => (mulI (Int.fmod s3 2147483549) 48271).bind fun (y7 : Int) => (mulI 8867 p1_k).bind fun (y8 : Int) => some [(max 0 (s3 - y6)), ((Int.fmod ((y7 + y8) + 611) 2147483579) + 1)]
set_option maxHeartbeats 1000000 in
theorem r_law_pot (p0_script : (List Int)) (p1_k : Int) (v : (List Int)) (hv : g_law_pot p0_script p1_k = some v) : f_law_pot [(eSc p0_script, .sh), (D.int p1_k, .sh)] = .ok ((fun (v : (List Int)) => Tm.ow ((eL D.int) v)) v) ((fun (v : (List Int)) => [none, none]) v) := by
  unfold g_law_pot at hv
  refine def_ok (n := 3) (np := 2) rfl ?_
  show RtF 2 e_law_pot [some (eSc p0_script, .sh), some (D.int p1_k, .sh), none] _ _
  unfold e_law_pot
  exact bndE hv fun s3 hs3 hv => fn_seq (e' := [some (eSc p0_script, .sh), some (D.int p1_k, .sh), some (D.int s3, .sh)]) (ifE hs3 (fun hb hv => set_ift (e3 := [some (eSc p0_script, .sh), some (D.int p1_k, .sh), some (D.int s3, .sh)]) (truC_ok (op2 (v_ok rfl) (op1 (v_ok rfl) rfl len_Sc) rfl rfl rfl)) hb (bndE hv fun y4 hy4 hv => nx_end (P := fun (s3 : Int) => [some (eSc p0_script, .sh), some (D.int p1_k, .sh), some (D.int s3, .sh)]) hv (set_i (i := 2) (op1 (op2 (v_ok rfl) (v_ok rfl) rfl rfl (ix_Sc hy4)) rfl rfl) rfl rfl rfl rfl))) (fun hb hv => set_iff (e3 := [some (eSc p0_script, .sh), some (D.int p1_k, .sh), some (D.int s3, .sh)]) (truC_ok (op2 (v_ok rfl) (op1 (v_ok rfl) rfl len_Sc) rfl rfl rfl)) hb (bndE hv fun y5 hy5 hv => nx_end (P := fun (s3 : Int) => [some (eSc p0_script, .sh), some (D.int p1_k, .sh), some (D.int s3, .sh)]) hv (set_i (i := 2) (op2 (op2 (k_ok _) (v_ok rfl) rfl rfl (mul_I hy5)) (k_ok _) rfl rfl rfl) rfl rfl rfl rfl)))) (bndE hv fun y6 hy6 hv => bndE hv fun y7 hy7 hv => bndE hv fun y8 hy8 hv => fn_end (T := (fun (v : (List Int)) => Tm.ow ((eL D.int) v))) (Fi := (fun (v : (List Int)) => [none, none])) hv (fn_ret (lst_ok (d := (eL D.int) ([(max 0 (s3 - y6)), ((Int.fmod ((y7 + y8) + 611) 2147483579) + 1)] : (List Int))) (e3 := [some (eSc p0_script, .sh), some (D.int p1_k, .sh), some (D.int s3, .sh)]) (cons_ok (op2' (k_ok _) (op2 (v_ok rfl) (op2 (k_ok _) (k_ok _) rfl rfl (pow_I hy6)) rfl rfl rfl) rfl rfl rfl) (cons_ok (op2 (op2 (op1 (op2 (op2 (op2 (op2 (op1 (v_ok rfl) rfl rfl) (k_ok _) rfl rfl (mod_I (modI_s (by decide)))) (k_ok _) rfl rfl (mul_I hy7)) (op2 (k_ok _) (v_ok rfl) rfl rfl (mul_I hy8)) rfl rfl rfl) (k_ok _) rfl rfl rfl) rfl rfl) (k_ok _) rfl rfl (mod_I (modI_s (by decide)))) (k_ok _) rfl rfl rfl) nil_ok)) rfl rfl rfl) (e'' := [some (eSc p0_script, .sh), some (D.int p1_k, .sh), some (D.int s3, .sh)]) rfl rfl))
def g_law_draw (p0_pot_here : (List Int)) (p1_many : Int) : Option (Int × (List Int)) := (geti p0_pot_here 0).bind fun (y1 : Int) => if (decide (y1 > 0)) = true then ((geti p0_pot_here 0).bind fun (y2 : Int) => (dmI y2 p1_many).bind fun (y3 : (Int × Int)) => (seti p0_pot_here 0 y3.1).bind fun (y4 : (List Int)) => some (y3.2, y4)) else ((geti p0_pot_here 1).bind fun (y5 : Int) => (mulI y5 39373).bind fun (y6 : Int) => (seti p0_pot_here 1 (Int.fmod (y6 + 1349) 2147483629)).bind fun (y7 : (List Int)) => (geti y7 1).bind fun (y8 : Int) => (geti y7 1).bind fun (y9 : Int) => (mulI y8 y9).bind fun (y10 : Int) => (modI (Int.fdiv (Int.fmod y10 2147483587) 13) p1_many).bind fun (y11 : Int) => some (y11, y7))
set_option maxHeartbeats 1000000 in
theorem r_law_draw (p0_pot_here : (List Int)) (p1_many : Int) (v : (Int × (List Int))) (hv : g_law_draw p0_pot_here p1_many = some v) : f_law_draw [((eL D.int) p0_pot_here, .lt), (D.int p1_many, .sh)] = .ok ((fun (v : (Int × (List Int))) => Tm.im (D.int v.1)) v) ((fun (v : (Int × (List Int))) => [some ((eL D.int) v.2, .lt), none]) v) := by
  unfold g_law_draw at hv
  refine def_ok (n := 3) (np := 2) rfl ?_
  show RtF 2 e_law_draw [some ((eL D.int) p0_pot_here, .lt), some (D.int p1_many, .sh), none] _ _
  unfold e_law_draw
  exact bndE hv fun y1 hy1 hv => ifE hv (fun hb hv => fn_rets (fn_ift (truC_ok (op2 (op2 (v_ok rfl) (k_ok _) rfl rfl (ix_L hy1)) (k_ok _) rfl rfl rfl)) hb (bndE hv fun y2 hy2 hv => bndE hv fun y3 hy3 hv => bndE hv fun y4 hy4 hv => fn_seq (e' := [some ((eL D.int) y4, .lt), some (D.int p1_many, .sh), some (D.int y3.2, .sh)]) (asg_ok (e'' := [some ((eL D.int) p0_pot_here, .lt), some (D.int p1_many, .sh), none]) (op2' (op2 (v_ok rfl) (k_ok _) rfl rfl (ix_L hy2)) (v_ok rfl) rfl rfl (divmod_I hy3)) rfl (gt_ok rfl (gsc_ok (iput_ok (i := 0) rfl (k_ok _) rfl rfl rfl rfl hy4 rfl) (gsc_ok (gn_ok (i := 2) rfl rfl rfl) gsn_ok)))) (fn_end (T := (fun (v : (Int × (List Int))) => Tm.im (D.int v.1))) (Fi := (fun (v : (Int × (List Int))) => [some ((eL D.int) v.2, .lt), none])) hv (fn_ret (v_ok rfl) (e'' := [some ((eL D.int) y4, .lt), some (D.int p1_many, .sh), some (D.int y3.2, .sh)]) rfl rfl))))) (fun hb hv => fn_ifn (truC_ok (op2 (op2 (v_ok rfl) (k_ok _) rfl rfl (ix_L hy1)) (k_ok _) rfl rfl rfl)) hb skip_ok (bndE hv fun y5 hy5 hv => bndE hv fun y6 hy6 hv => bndE hv fun y7 hy7 hv => fn_seq (e' := [some ((eL D.int) y7, .lt), some (D.int p1_many, .sh), none]) (asg_ok (e'' := [some ((eL D.int) p0_pot_here, .lt), some (D.int p1_many, .sh), none]) (op2 (op1 (op2 (op2 (op2 (v_ok rfl) (k_ok _) rfl rfl (ix_L hy5)) (k_ok _) rfl rfl (mul_I hy6)) (k_ok _) rfl rfl rfl) rfl rfl) (k_ok _) rfl rfl (mod_I (modI_s (by decide)))) rfl (iput_ok (i := 0) rfl (k_ok _) rfl rfl rfl rfl hy7 rfl)) (bndE hv fun y8 hy8 hv => bndE hv fun y9 hy9 hv => bndE hv fun y10 hy10 hv => bndE hv fun y11 hy11 hv => fn_end (T := (fun (v : (Int × (List Int))) => Tm.im (D.int v.1))) (Fi := (fun (v : (Int × (List Int))) => [some ((eL D.int) v.2, .lt), none])) hv (fn_ret (op2 (op1 (op2 (op2 (op1 (op2 (op2 (v_ok rfl) (k_ok _) rfl rfl (ix_L hy8)) (op2 (v_ok rfl) (k_ok _) rfl rfl (ix_L hy9)) rfl rfl (mul_I hy10)) rfl rfl) (k_ok _) rfl rfl (mod_I (modI_s (by decide)))) (k_ok _) rfl rfl (div_I (divI_s (by decide) (by decide)))) rfl rfl) (v_ok rfl) rfl rfl (mod_I hy11)) (e'' := [some ((eL D.int) y7, .lt), some (D.int p1_many, .sh), none]) rfl rfl))))
def g_law_two (p0_many : Int) (p1_is_round : Bool) : Option (List Int) := (repI [0] p0_many).bind fun (y1 : (List Int)) => if (b62 (-p0_many) && b62 (p0_many + 1)) = true then ((gfor (fun (s3 : ((List Int) × (Option Int) × (Option Int) × (Option Int))) (x4 : Int) => if (b62 (-p0_many) && b62 (p0_many + 1)) = true then ((gfor (fun (s6 : ((List Int) × (Option Int) × (Option Int))) (x7 : Int) => (mulI x4 x4).bind fun (y8 : Int) => (mulI x7 x7).bind fun (y9 : Int) => (if p1_is_round = true then ((mulI x4 x7).bind fun (y10 : Int) => some y10) else (some 0)).bind fun (y11 : Int) => if (decide (((y8 + y9) + y11) < p0_many)) = true then ((geti s6.1 ((y8 + y9) + y11)).bind fun (y12 : Int) => (seti s6.1 ((y8 + y9) + y11) (y12 + 1)).bind fun (y13 : (List Int)) => some (y13, (some x7), (some ((y8 + y9) + y11)))) else (some (s6.1, (some x7), (some ((y8 + y9) + y11))))) (rngL (-p0_many) (p0_many + 1)) (s3.1, s3.2.2.1, s3.2.2.2)).bind fun (s6 : ((List Int) × (Option Int) × (Option Int))) => some (s6.1, (some x4), s6.2.1, s6.2.2)) else none) (rngL (-p0_many) (p0_many + 1)) (y1, none, none, none)).bind fun (s3 : ((List Int) × (Option Int) × (Option Int) × (Option Int))) => some s3.1) else none
set_option maxHeartbeats 1000000 in
theorem r_law_two (p0_many : Int) (p1_is_round : Bool) (v : (List Int)) (hv : g_law_two p0_many p1_is_round = some v) : f_law_two [(D.int p0_many, .sh), (D.bl p1_is_round, .sh)] = .ok ((fun (v : (List Int)) => Tm.ow ((eL D.int) v)) v) ((fun (v : (List Int)) => [none, none]) v) := by
  unfold g_law_two at hv
  refine def_ok (n := 6) (np := 2) rfl ?_
  show RtF 2 e_law_two [some (D.int p0_many, .sh), some (D.bl p1_is_round, .sh), none, none, none, none] _ _
  unfold e_law_two
  exact bndE hv fun y1 hy1 hv => fn_seq (e' := [some (D.int p0_many, .sh), some (D.bl p1_is_round, .sh), some ((eL D.int) y1, .mv), none, none, none]) (set_o (i := 2) (op2 (lst_ok (d := (eL D.int) ([0] : (List Int))) (e3 := [some (D.int p0_many, .sh), some (D.bl p1_is_round, .sh), none, none, none, none]) (cons_ok (k_ok _) nil_ok) rfl rfl rfl) (v_ok rfl) rfl rfl (mul_L hy1)) rfl rfl rfl rfl) (gdE hv fun k2 hv => bndE hv fun s3 hs3 hv => fn_seq (e' := [some (D.int p0_many, .sh), some (D.bl p1_is_round, .sh), some ((eL D.int) s3.1, .mv), sO D.int .sh s3.2.1, sO D.int .sh s3.2.2.1, sO D.int .sh s3.2.2.2]) (nx_for (m := D.int) (P := fun (s3 : ((List Int) × (Option Int) × (Option Int) × (Option Int))) => [some (D.int p0_many, .sh), some (D.bl p1_is_round, .sh), some ((eL D.int) s3.1, .mv), sO D.int .sh s3.2.1, sO D.int .sh s3.2.2.1, sO D.int .sh s3.2.2.2]) (s := (y1, none, none, none)) (rng2_ok (op1 (v_ok rfl) rfl rfl) (op2 (v_ok rfl) (k_ok _) rfl rfl rfl) rfl rfl k2) rfl hs3 (fun s3 x4 _ hv => ⟨[some (D.int p0_many, .sh), some (D.bl p1_is_round, .sh), some ((eL D.int) s3.1, .mv), some (D.int x4, .sh), sO D.int .sh s3.2.2.1, sO D.int .sh s3.2.2.2], (gn_ok (i := 3) rfl unp_o rfl), gdE hv fun k5 hv => bndE hv fun s6 hs6 hv => nx_end (P := fun (s3 : ((List Int) × (Option Int) × (Option Int) × (Option Int))) => [some (D.int p0_many, .sh), some (D.bl p1_is_round, .sh), some ((eL D.int) s3.1, .mv), sO D.int .sh s3.2.1, sO D.int .sh s3.2.2.1, sO D.int .sh s3.2.2.2]) hv (nx_for (m := D.int) (P := fun (s6 : ((List Int) × (Option Int) × (Option Int))) => [some (D.int p0_many, .sh), some (D.bl p1_is_round, .sh), some ((eL D.int) s6.1, .mv), some (D.int x4, .sh), sO D.int .sh s6.2.1, sO D.int .sh s6.2.2]) (s := (s3.1, s3.2.2.1, s3.2.2.2)) (rng2_ok (op1 (v_ok rfl) rfl rfl) (op2 (v_ok rfl) (k_ok _) rfl rfl rfl) rfl rfl k5) rfl hs6 (fun s6 x7 _ hv => ⟨[some (D.int p0_many, .sh), some (D.bl p1_is_round, .sh), some ((eL D.int) s6.1, .mv), some (D.int x4, .sh), some (D.int x7, .sh), sO D.int .sh s6.2.2], (gn_ok (i := 4) rfl unp_o rfl), bndE hv fun y8 hy8 hv => bndE hv fun y9 hy9 hv => bndE hv fun y11 hy11 hv => nx_seq (e' := [some (D.int p0_many, .sh), some (D.bl p1_is_round, .sh), some ((eL D.int) s6.1, .mv), some (D.int x4, .sh), some (D.int x7, .sh), some (D.int ((y8 + y9) + y11), .sh)]) (set_i (i := 5) (op2 (op2 (op2 (v_ok rfl) (v_ok rfl) rfl rfl (mul_I hy8)) (op2 (v_ok rfl) (v_ok rfl) rfl rfl (mul_I hy9)) rfl rfl rfl) (ite_g (T := fun v => Tm.im (D.int v)) (tru_ok (v_ok rfl) rfl rfl) hy11 (fun hv => bndE hv fun y10 hy10 hv => val_end (T := fun v => Tm.im (D.int v)) hv (op2 (v_ok rfl) (v_ok rfl) rfl rfl (mul_I hy10))) (fun hv => val_end (T := fun v => Tm.im (D.int v)) hv (k_ok _))) rfl rfl rfl) rfl rfl unp_o rfl) (ifE hv (fun hb hv => nx_ift (truC_ok (op2 (v_ok rfl) (v_ok rfl) rfl rfl rfl)) hb (bndE hv fun y12 hy12 hv => bndE hv fun y13 hy13 hv => nx_end (P := fun (s6 : ((List Int) × (Option Int) × (Option Int))) => [some (D.int p0_many, .sh), some (D.bl p1_is_round, .sh), some ((eL D.int) s6.1, .mv), some (D.int x4, .sh), sO D.int .sh s6.2.1, sO D.int .sh s6.2.2]) hv (asg_ok (e'' := [some (D.int p0_many, .sh), some (D.bl p1_is_round, .sh), some ((eL D.int) s6.1, .mv), some (D.int x4, .sh), some (D.int x7, .sh), some (D.int ((y8 + y9) + y11), .sh)]) (op2 (op2 (v_ok rfl) (v_ok rfl) rfl rfl (ix_L hy12)) (k_ok _) rfl rfl rfl) rfl (iput_ok (i := 2) rfl (v_ok rfl) rfl rfl rfl rfl hy13 rfl)))) (fun hb hv => nx_iff (truC_ok (op2 (v_ok rfl) (v_ok rfl) rfl rfl rfl)) hb (nx_end (P := fun (s6 : ((List Int) × (Option Int) × (Option Int))) => [some (D.int p0_many, .sh), some (D.bl p1_is_round, .sh), some ((eL D.int) s6.1, .mv), some (D.int x4, .sh), sO D.int .sh s6.2.1, sO D.int .sh s6.2.2]) hv skip_ok)))⟩))⟩)) (fn_end (T := (fun (v : (List Int)) => Tm.ow ((eL D.int) v))) (Fi := (fun (v : (List Int)) => [none, none])) hv (fn_ret (v_ok rfl) (e'' := [some (D.int p0_many, .sh), some (D.bl p1_is_round, .sh), none, sO D.int .sh s3.2.1, sO D.int .sh s3.2.2.1, sO D.int .sh s3.2.2.2]) rfl rfl)))
def g_is_word (p0_value : PySem.Str) : Option Bool := (isiO (D.str p0_value) "str").bind fun (y1 : Bool) => (if y1 = true then some (([("third" : PySem.Str), ("quarter" : PySem.Str), ("two" : PySem.Str), ("four" : PySem.Str), ("six" : PySem.Str)] : List PySem.Str).any fun y => y == p0_value) else some false).bind fun (y2 : Bool) => some y2
set_option maxHeartbeats 1000000 in
theorem r_is_word (p0_value : PySem.Str) (v : Bool) (hv : g_is_word p0_value = some v) : f_is_word [(D.str p0_value, .sh)] = .ok ((fun (v : Bool) => Tm.im (D.bl v)) v) ((fun (v : Bool) => [none]) v) := by
  unfold g_is_word at hv
  refine def_ok (n := 1) (np := 1) rfl ?_
  show RtF 1 e_is_word [some (D.str p0_value, .sh)] _ _
  unfold e_is_word
  exact bndE hv fun y1 hy1 hv => bndE hv fun y2 hy2 hv => fn_end (T := (fun (v : Bool) => Tm.im (D.bl v))) (Fi := (fun (v : Bool) => [none])) hv (fn_ret (andV_g (op2' (v_ok rfl) (k_ok _) rfl rfl (isi_G hy1)) rfl (fun hv => val_end (T := fun v => Tm.im (D.bl v)) hv (op2 (v_ok rfl) (cv (k_ok _) (t' := .im ((eV D.str) [("third" : PySem.Str), ("quarter" : PySem.Str), ("two" : PySem.Str), ("four" : PySem.Str), ("six" : PySem.Str)])) rfl) rfl rfl in_VS)) hy2 rfl) (e'' := [some (D.str p0_value, .sh)]) rfl rfl)
def g_is_integer (p0_value : Int) : Option Bool := (isiO (D.int p0_value) "int").bind fun (y1 : Bool) => (if y1 = true then ((isiO (D.int p0_value) "bool").bind fun (y2 : Bool) => some (!y2)) else some false).bind fun (y3 : Bool) => some y3
set_option maxHeartbeats 1000000 in
theorem r_is_integer (p0_value : Int) (v : Bool) (hv : g_is_integer p0_value = some v) : f_is_integer [(D.int p0_value, .sh)] = .ok ((fun (v : Bool) => Tm.im (D.bl v)) v) ((fun (v : Bool) => [none]) v) := by
  unfold g_is_integer at hv
  refine def_ok (n := 1) (np := 1) rfl ?_
  show RtF 1 e_is_integer [some (D.int p0_value, .sh)] _ _
  unfold e_is_integer
  exact bndE hv fun y1 hy1 hv => bndE hv fun y3 hy3 hv => fn_end (T := (fun (v : Bool) => Tm.im (D.bl v))) (Fi := (fun (v : Bool) => [none])) hv (fn_ret (andV_g (op2' (v_ok rfl) (k_ok _) rfl rfl (isi_G hy1)) rfl (fun hv => bndE hv fun y2 hy2 hv => val_end (T := fun v => Tm.im (D.bl v)) hv (notV_ok (op2' (v_ok rfl) (k_ok _) rfl rfl (isi_G hy2)) rfl rfl)) hy3 rfl) (e'' := [some (D.int p0_value, .sh)]) rfl rfl)
def g_is_count (p0_value : Int) : Option Bool := (g_is_integer p0_value).bind fun (y1 : Bool) => (if y1 = true then some (decide (p0_value ≥ 0)) else some false).bind fun (y2 : Bool) => some y2
set_option maxHeartbeats 1000000 in
theorem r_is_count (p0_value : Int) (v : Bool) (hv : g_is_count p0_value = some v) : f_is_count [(D.int p0_value, .sh)] = .ok ((fun (v : Bool) => Tm.im (D.bl v)) v) ((fun (v : Bool) => [none]) v) := by
  unfold g_is_count at hv
  refine def_ok (n := 1) (np := 1) rfl ?_
  show RtF 1 e_is_count [some (D.int p0_value, .sh)] _ _
  unfold e_is_count
  exact bndE hv fun y1 hy1 hv => bndE hv fun y2 hy2 hv => fn_end (T := (fun (v : Bool) => Tm.im (D.bl v))) (Fi := (fun (v : Bool) => [none])) hv (fn_ret (andV_g (call_ok (e3 := [some (D.int p0_value, .sh)]) (as := [(D.int p0_value, .sh)]) (cons_ok (v_ok rfl) nil_ok) rfl rfl (r_is_integer p0_value y1 hy1) (by trivial) rfl) rfl (fun hv => val_end (T := fun v => Tm.im (D.bl v)) hv (op2 (v_ok rfl) (k_ok _) rfl rfl rfl)) hy2 rfl) (e'' := [some (D.int p0_value, .sh)]) rfl rfl)
def g_is_divisor_value (p0_value : (PySem.Str × PySem.Str × Int)) : Option Bool := (isiO ((e3 D.str D.str D.int) p0_value) "tuple").bind fun (y1 : Bool) => (if (!y1) = true then some true else ((if (!decide (3 = 3)) = true then some true else ((isiO (D.str p0_value.1) "str").bind fun (y2 : Bool) => (if (!y2) = true then some true else ((eqO (D.str p0_value.1) (D.str ("divisors" : PySem.Str))).bind fun (y3 : Bool) => some (!y3))).bind fun (y4 : Bool) => some y4)).bind fun (y5 : Bool) => some y5)).bind fun (y6 : Bool) => if y6 = true then (some false) else ((g_is_word p0_value.2.1).bind fun (y7 : Bool) => (if (!y7) = true then some true else ((g_is_count p0_value.2.2).bind fun (y8 : Bool) => some ((!y8) || (!((decide (1 ≤ p0_value.2.2)) && (decide (p0_value.2.2 ≤ 60))))))).bind fun (y9 : Bool) => if y9 = true then (some false) else ((cget ([("third", 3), ("quarter", 4), ("two", 1), ("four", 1), ("six", 1)] : List (PySem.Str × Int)) p0_value.2.1).bind fun (y10 : Int) => (mulI y10 p0_value.2.2).bind fun (y11 : Int) => (if (decide (y11 ≤ 120)) = true then ((eqO (D.str p0_value.2.1) (D.str ("two" : PySem.Str))).bind fun (y12 : Bool) => (if (!y12) = true then some true else some (decide (p0_value.2.2 > 1))).bind fun (y13 : Bool) => some y13) else some false).bind fun (y14 : Bool) => some y14))
set_option maxHeartbeats 1000000 in
theorem r_is_divisor_value (p0_value : (PySem.Str × PySem.Str × Int)) (v : Bool) (hv : g_is_divisor_value p0_value = some v) : f_is_divisor_value [((e3 D.str D.str D.int) p0_value, .sh)] = .ok ((fun (v : Bool) => Tm.im (D.bl v)) v) ((fun (v : Bool) => [none]) v) := by
  unfold g_is_divisor_value at hv
  refine def_ok (n := 1) (np := 1) rfl ?_
  show RtF 1 e_is_divisor_value [some ((e3 D.str D.str D.int) p0_value, .sh)] _ _
  unfold e_is_divisor_value
  exact bndE hv fun y1 hy1 hv => bndE hv fun y6 hy6 hv => ifE hv (fun hb hv => fn_rets (fn_ift (or_g (not_ok (tru_ok (op2' (v_ok rfl) (k_ok _) rfl rfl (isi_G hy1)) rfl rfl)) (fun hv => bndE hv fun y5 hy5 hv => b_end hv (or_g (truC_ok (op2 (op1 (v_ok rfl) rfl rfl) (k_ok _) rfl rfl rfl)) (fun hv => bndE hv fun y2 hy2 hv => bndE hv fun y4 hy4 hv => b_end hv (or_g (not_ok (tru_ok (op2' (op2 (v_ok rfl) (k_ok _) rfl rfl rfl) (k_ok _) rfl rfl (isi_G hy2)) rfl rfl)) (fun hv => bndE hv fun y3 hy3 hv => b_end hv (truC_ok (op2 (op2 (v_ok rfl) (k_ok _) rfl rfl rfl) (k_ok _) rfl rfl (ne_G hy3)))) hy4 rfl)) hy5 rfl)) hy6 rfl) hb (fn_end (T := (fun (v : Bool) => Tm.im (D.bl v))) (Fi := (fun (v : Bool) => [none])) hv (fn_ret (k_ok _) (e'' := [some ((e3 D.str D.str D.int) p0_value, .sh)]) rfl rfl)))) (fun hb hv => fn_ifn (or_g (not_ok (tru_ok (op2' (v_ok rfl) (k_ok _) rfl rfl (isi_G hy1)) rfl rfl)) (fun hv => bndE hv fun y5 hy5 hv => b_end hv (or_g (truC_ok (op2 (op1 (v_ok rfl) rfl rfl) (k_ok _) rfl rfl rfl)) (fun hv => bndE hv fun y2 hy2 hv => bndE hv fun y4 hy4 hv => b_end hv (or_g (not_ok (tru_ok (op2' (op2 (v_ok rfl) (k_ok _) rfl rfl rfl) (k_ok _) rfl rfl (isi_G hy2)) rfl rfl)) (fun hv => bndE hv fun y3 hy3 hv => b_end hv (truC_ok (op2 (op2 (v_ok rfl) (k_ok _) rfl rfl rfl) (k_ok _) rfl rfl (ne_G hy3)))) hy4 rfl)) hy5 rfl)) hy6 rfl) hb skip_ok (bndE hv fun y7 hy7 hv => bndE hv fun y9 hy9 hv => ifE hv (fun hb hv => fn_rets (fn_ift (or_g (not_ok (tru_ok (call_ok (e3 := [some ((e3 D.str D.str D.int) p0_value, .sh)]) (as := [(D.str p0_value.2.1, .sh)]) (cons_ok (op2 (v_ok rfl) (k_ok _) rfl rfl rfl) nil_ok) rfl rfl (r_is_word p0_value.2.1 y7 hy7) (by trivial) rfl) rfl rfl)) (fun hv => bndE hv fun y8 hy8 hv => b_end hv (or_ok (not_ok (tru_ok (call_ok (e3 := [some ((e3 D.str D.str D.int) p0_value, .sh)]) (as := [(D.int p0_value.2.2, .sh)]) (cons_ok (op2 (v_ok rfl) (k_ok _) rfl rfl rfl) nil_ok) rfl rfl (r_is_count p0_value.2.2 y8 hy8) (by trivial) rfl) rfl rfl)) fun _ => (not_ok (truC_ok (chn_ok (k_ok _) (op2 (v_ok rfl) (k_ok _) rfl rfl rfl) rfl rfl (k_ok _) rfl))))) hy9 rfl) hb (fn_end (T := (fun (v : Bool) => Tm.im (D.bl v))) (Fi := (fun (v : Bool) => [none])) hv (fn_ret (k_ok _) (e'' := [some ((e3 D.str D.str D.int) p0_value, .sh)]) rfl rfl)))) (fun hb hv => fn_ifn (or_g (not_ok (tru_ok (call_ok (e3 := [some ((e3 D.str D.str D.int) p0_value, .sh)]) (as := [(D.str p0_value.2.1, .sh)]) (cons_ok (op2 (v_ok rfl) (k_ok _) rfl rfl rfl) nil_ok) rfl rfl (r_is_word p0_value.2.1 y7 hy7) (by trivial) rfl) rfl rfl)) (fun hv => bndE hv fun y8 hy8 hv => b_end hv (or_ok (not_ok (tru_ok (call_ok (e3 := [some ((e3 D.str D.str D.int) p0_value, .sh)]) (as := [(D.int p0_value.2.2, .sh)]) (cons_ok (op2 (v_ok rfl) (k_ok _) rfl rfl rfl) nil_ok) rfl rfl (r_is_count p0_value.2.2 y8 hy8) (by trivial) rfl) rfl rfl)) fun _ => (not_ok (truC_ok (chn_ok (k_ok _) (op2 (v_ok rfl) (k_ok _) rfl rfl rfl) rfl rfl (k_ok _) rfl))))) hy9 rfl) hb skip_ok (bndE hv fun y10 hy10 hv => bndE hv fun y11 hy11 hv => bndE hv fun y14 hy14 hv => fn_end (T := (fun (v : Bool) => Tm.im (D.bl v))) (Fi := (fun (v : Bool) => [none])) hv (fn_ret (andV_g (op2 (op2 (op1 (op2 (v_ok rfl) (k_ok _) rfl rfl rfl) rfl (cg_S (m := D.int) ([("third", 3), ("quarter", 4), ("two", 1), ("four", 1), ("six", 1)] : List (PySem.Str × Int)) rfl hy10)) (op2 (v_ok rfl) (k_ok _) rfl rfl rfl) rfl rfl (mul_I hy11)) (k_ok _) rfl rfl rfl) rfl (fun hv => bndE hv fun y12 hy12 hv => bndE hv fun y13 hy13 hv => val_end (T := fun v => Tm.im (D.bl v)) hv (orV_g (op2 (op2 (v_ok rfl) (k_ok _) rfl rfl rfl) (k_ok _) rfl rfl (ne_G hy12)) rfl (fun hv => val_end (T := fun v => Tm.im (D.bl v)) hv (op2 (op2 (v_ok rfl) (k_ok _) rfl rfl rfl) (k_ok _) rfl rfl rfl)) hy13 rfl)) hy14 rfl) (e'' := [some ((e3 D.str D.str D.int) p0_value, .sh)]) rfl rfl)))))
def g_want_divisors (p0_value : (PySem.Str × PySem.Str × Int)) : Option (PySem.Str × PySem.Str × Int) := (g_is_divisor_value p0_value).bind fun (y1 : Bool) => if y1 = true then (some p0_value) else none
set_option maxHeartbeats 1000000 in
theorem r_want_divisors (p0_value : (PySem.Str × PySem.Str × Int)) (v : (PySem.Str × PySem.Str × Int)) (hv : g_want_divisors p0_value = some v) : f_want_divisors [((e3 D.str D.str D.int) p0_value, .sh)] = .ok ((fun (v : (PySem.Str × PySem.Str × Int)) => Tm.im ((e3 D.str D.str D.int) v)) v) ((fun (v : (PySem.Str × PySem.Str × Int)) => [none]) v) := by
  unfold g_want_divisors at hv
  refine def_ok (n := 1) (np := 1) rfl ?_
  show RtF 1 e_want_divisors [some ((e3 D.str D.str D.int) p0_value, .sh)] _ _
  unfold e_want_divisors
  exact bndE hv fun y1 hy1 hv => gdE hv fun k2 hv => fn_ifn (not_f (tst_t (tru_ok (call_ok (e3 := [some ((e3 D.str D.str D.int) p0_value, .sh)]) (as := [((e3 D.str D.str D.int) p0_value, .sh)]) (cons_ok (v_ok rfl) nil_ok) rfl rfl (r_is_divisor_value p0_value y1 hy1) (by trivial) rfl) rfl rfl) k2)) rfl skip_ok (fn_end (T := (fun (v : (PySem.Str × PySem.Str × Int)) => Tm.im ((e3 D.str D.str D.int) v))) (Fi := (fun (v : (PySem.Str × PySem.Str × Int)) => [none])) hv (fn_ret (v_ok rfl) (e'' := [some ((e3 D.str D.str D.int) p0_value, .sh)]) rfl rfl))
def g_is_between (p0_value : Int) (p1_least : Int) (p2_most : Int) : Option Bool := (g_is_integer p0_value).bind fun (y1 : Bool) => (if y1 = true then some ((decide (p1_least ≤ p0_value)) && (decide (p0_value ≤ p2_most))) else some false).bind fun (y2 : Bool) => some y2
set_option maxHeartbeats 1000000 in
theorem r_is_between (p0_value : Int) (p1_least : Int) (p2_most : Int) (v : Bool) (hv : g_is_between p0_value p1_least p2_most = some v) : f_is_between [(D.int p0_value, .sh), (D.int p1_least, .sh), (D.int p2_most, .sh)] = .ok ((fun (v : Bool) => Tm.im (D.bl v)) v) ((fun (v : Bool) => [none, none, none]) v) := by
  unfold g_is_between at hv
  refine def_ok (n := 3) (np := 3) rfl ?_
  show RtF 3 e_is_between [some (D.int p0_value, .sh), some (D.int p1_least, .sh), some (D.int p2_most, .sh)] _ _
  unfold e_is_between
  exact bndE hv fun y1 hy1 hv => bndE hv fun y2 hy2 hv => fn_end (T := (fun (v : Bool) => Tm.im (D.bl v))) (Fi := (fun (v : Bool) => [none, none, none])) hv (fn_ret (andV_g (call_ok (e3 := [some (D.int p0_value, .sh), some (D.int p1_least, .sh), some (D.int p2_most, .sh)]) (as := [(D.int p0_value, .sh)]) (cons_ok (v_ok rfl) nil_ok) rfl rfl (r_is_integer p0_value y1 hy1) (by trivial) rfl) rfl (fun hv => val_end (T := fun v => Tm.im (D.bl v)) hv (chn_ok (v_ok rfl) (v_ok rfl) rfl rfl (v_ok rfl) rfl)) hy2 rfl) (e'' := [some (D.int p0_value, .sh), some (D.int p1_least, .sh), some (D.int p2_most, .sh)]) rfl rfl)
def g_want_many (p0_value : Int) (p1_most : Int) : Option Int := (g_is_between p0_value 0 p1_most).bind fun (y1 : Bool) => if y1 = true then (some p0_value) else none
set_option maxHeartbeats 1000000 in
theorem r_want_many (p0_value : Int) (p1_most : Int) (v : Int) (hv : g_want_many p0_value p1_most = some v) : f_want_many [(D.int p0_value, .sh), (D.int p1_most, .sh)] = .ok ((fun (v : Int) => Tm.im (D.int v)) v) ((fun (v : Int) => [none, none]) v) := by
  unfold g_want_many at hv
  refine def_ok (n := 2) (np := 2) rfl ?_
  show RtF 2 e_want_many [some (D.int p0_value, .sh), some (D.int p1_most, .sh)] _ _
  unfold e_want_many
  exact bndE hv fun y1 hy1 hv => gdE hv fun k2 hv => fn_ifn (not_f (tst_t (tru_ok (call_ok (e3 := [some (D.int p0_value, .sh), some (D.int p1_most, .sh)]) (as := [(D.int p0_value, .sh), (D.int 0, .sh), (D.int p1_most, .sh)]) (cons_ok (v_ok rfl) (cons_ok (k_ok _) (cons_ok (v_ok rfl) nil_ok))) rfl rfl (r_is_between p0_value 0 p1_most y1 hy1) (by trivial) rfl) rfl rfl) k2)) rfl skip_ok (fn_end (T := (fun (v : Int) => Tm.im (D.int v))) (Fi := (fun (v : Int) => [none, none])) hv (fn_ret (v_ok rfl) (e'' := [some (D.int p0_value, .sh), some (D.int p1_most, .sh)]) rfl rfl))
def g_divisors_in (p0_number : Int) : Option (List Int) := (gwhile (fun (s1 : ((List Int) × (List Int) × Int)) => (mulI s1.2.2 s1.2.2).bind fun (y2 : Int) => some (decide (y2 ≤ p0_number))) (fun (s1 : ((List Int) × (List Int) × Int)) => (modI p0_number s1.2.2).bind fun (y3 : Int) => (if (decide (y3 = 0)) = true then (if s1.1.length < line then ((mulI s1.2.2 s1.2.2).bind fun (y11 : Int) => if (decide (y11 < p0_number)) = true then ((divI p0_number s1.2.2).bind fun (y12 : Int) => if s1.2.1.length < line then (some ((s1.1 ++ [s1.2.2]), (s1.2.1 ++ [y12]))) else none) else (some ((s1.1 ++ [s1.2.2]), s1.2.1))) else none) else (some (s1.1, s1.2.1))).bind fun (s9 : ((List Int) × (List Int))) => some (s9.1, s9.2, (s1.2.2 + 1))) wfuel ([], [], 1)).bind fun (s1 : ((List Int) × (List Int) × Int)) => if s1.1.length + s1.2.1.reverse.length ≤ line then (some (s1.1 ++ s1.2.1.reverse)) else none
set_option maxHeartbeats 1000000 in
theorem r_divisors_in (p0_number : Int) (v : (List Int)) (hv : g_divisors_in p0_number = some v) : f_divisors_in [(D.int p0_number, .sh)] = .ok ((fun (v : (List Int)) => Tm.ow ((eL D.int) v)) v) ((fun (v : (List Int)) => [none]) v) := by
  unfold g_divisors_in at hv
  refine def_ok (n := 4) (np := 1) rfl ?_
  show RtF 1 e_divisors_in [some (D.int p0_number, .sh), none, none, none] _ _
  unfold e_divisors_in
  exact fn_seq (e' := [some (D.int p0_number, .sh), some ((eL D.int) [], .mv), some ((eL D.int) [], .mv), some (D.int 1, .sh)]) (par_ok (e3 := [some (D.int p0_number, .sh), some ((eL D.int) [], .mv), some ((eL D.int) [], .mv), some (D.int 1, .sh)]) (cons_ok (lst_ok (d := (eL D.int) ([] : (List Int))) (e3 := [some (D.int p0_number, .sh), none, none, none]) nil_ok rfl rfl rfl) (cons_ok (lst_ok (d := (eL D.int) ([] : (List Int))) (e3 := [some (D.int p0_number, .sh), none, none, none]) nil_ok rfl rfl rfl) (cons_ok (k_ok _) nil_ok))) rfl (st_conso rfl rfl rfl (st_conso rfl rfl rfl (st_cons rfl rfl rfl st_nil)))) (bndE hv fun s1 hs1 hv => fn_seq (e' := [some (D.int p0_number, .sh), some ((eL D.int) s1.1, .mv), some ((eL D.int) s1.2.1, .mv), some (D.int s1.2.2, .sh)]) (nx_whl (P := fun (s1 : ((List Int) × (List Int) × Int)) => [some (D.int p0_number, .sh), some ((eL D.int) s1.1, .mv), some ((eL D.int) s1.2.1, .mv), some (D.int s1.2.2, .sh)]) (s := ([], [], 1)) rfl hs1 (fun s1 _ hv => bndE hv fun y2 hy2 hv => b_end hv (truC_ok (op2 (op2 (v_ok rfl) (v_ok rfl) rfl rfl (mul_I hy2)) (v_ok rfl) rfl rfl rfl))) (fun s1 _ hv => bndE hv fun y3 hy3 hv => bndE hv fun s9 hs9 hv => nx_seq (e' := [some (D.int p0_number, .sh), some ((eL D.int) s9.1, .mv), some ((eL D.int) s9.2, .mv), some (D.int s1.2.2, .sh)]) (ifE hs9 (fun hb hv => nx_ift (e3 := [some (D.int p0_number, .sh), some ((eL D.int) s9.1, .mv), some ((eL D.int) s9.2, .mv), some (D.int s1.2.2, .sh)]) (truC_ok (op2 (op2 (v_ok rfl) (v_ok rfl) rfl rfl (mod_I hy3)) (k_ok _) rfl rfl rfl)) hb (gdE hv fun k10 hv => nx_seq (e' := [some (D.int p0_number, .sh), some ((eL D.int) (s1.1 ++ [s1.2.2]), .mv), some ((eL D.int) s1.2.1, .mv), some (D.int s1.2.2, .sh)]) (expr_ok (mutL_ok (i := 1) (e'' := [some (D.int p0_number, .sh), some ((eL D.int) s1.1, .mv), some ((eL D.int) s1.2.1, .mv), some (D.int s1.2.2, .sh)]) rfl (cons_ok (v_ok rfl) nil_ok) rfl rfl rfl (app_e (x := s1.2.2) rfl k10) rfl)) (bndE hv fun y11 hy11 hv => ifE hv (fun hb hv => nx_ift (truC_ok (op2 (op2 (v_ok rfl) (v_ok rfl) rfl rfl (mul_I hy11)) (v_ok rfl) rfl rfl rfl)) hb (bndE hv fun y12 hy12 hv => gdE hv fun k13 hv => nx_end (P := fun (s9 : ((List Int) × (List Int))) => [some (D.int p0_number, .sh), some ((eL D.int) s9.1, .mv), some ((eL D.int) s9.2, .mv), some (D.int s1.2.2, .sh)]) hv (expr_ok (mutL_ok (i := 2) (e'' := [some (D.int p0_number, .sh), some ((eL D.int) (s1.1 ++ [s1.2.2]), .mv), some ((eL D.int) s1.2.1, .mv), some (D.int s1.2.2, .sh)]) rfl (cons_ok (op2 (v_ok rfl) (v_ok rfl) rfl rfl (div_I hy12)) nil_ok) rfl rfl rfl (app_e (x := y12) rfl k13) rfl)))) (fun hb hv => nx_iff (truC_ok (op2 (op2 (v_ok rfl) (v_ok rfl) rfl rfl (mul_I hy11)) (v_ok rfl) rfl rfl rfl)) hb (nx_end (P := fun (s9 : ((List Int) × (List Int))) => [some (D.int p0_number, .sh), some ((eL D.int) s9.1, .mv), some ((eL D.int) s9.2, .mv), some (D.int s1.2.2, .sh)]) hv skip_ok))))) (fun hb hv => nx_iff (e3 := [some (D.int p0_number, .sh), some ((eL D.int) s9.1, .mv), some ((eL D.int) s9.2, .mv), some (D.int s1.2.2, .sh)]) (truC_ok (op2 (op2 (v_ok rfl) (v_ok rfl) rfl rfl (mod_I hy3)) (k_ok _) rfl rfl rfl)) hb (nx_end (P := fun (s9 : ((List Int) × (List Int))) => [some (D.int p0_number, .sh), some ((eL D.int) s9.1, .mv), some ((eL D.int) s9.2, .mv), some (D.int s1.2.2, .sh)]) hv skip_ok))) (nx_end (P := fun (s1 : ((List Int) × (List Int) × Int)) => [some (D.int p0_number, .sh), some ((eL D.int) s1.1, .mv), some ((eL D.int) s1.2.1, .mv), some (D.int s1.2.2, .sh)]) hv (set_i (i := 3) (op2 (v_ok rfl) (k_ok _) rfl rfl rfl) rfl rfl rfl rfl)))) (gdE hv fun k14 hv => fn_end (T := (fun (v : (List Int)) => Tm.ow ((eL D.int) v))) (Fi := (fun (v : (List Int)) => [none])) hv (fn_ret (op2 (v_ok rfl) (op1 (v_ok rfl) rfl rev_L) rfl rfl (add_L k14)) (e'' := [some (D.int p0_number, .sh), some ((eL D.int) s1.1, .mv), some ((eL D.int) s1.2.1, .mv), some (D.int s1.2.2, .sh)]) rfl rfl)))
def g_share_of (p0_word : PySem.Str) (p1_divisor : Int) : Option Int := if (cget ([("third", [0, 1, (-1)]), ("quarter", [0, 1, 0, (-1)])] : List (PySem.Str × (List Int))) p0_word).isSome = true then ((cget ([("third", [0, 1, (-1)]), ("quarter", [0, 1, 0, (-1)])] : List (PySem.Str × (List Int))) p0_word).bind fun (y1 : (List Int)) => (cget ([("third", [0, 1, (-1)]), ("quarter", [0, 1, 0, (-1)])] : List (PySem.Str × (List Int))) p0_word).bind fun (y2 : (List Int)) => (modI p1_divisor (y2.length : Int)).bind fun (y3 : Int) => (geti y1 y3).bind fun (y4 : Int) => some y4) else ((cget ([("two", 1), ("four", 3), ("six", 5)] : List (PySem.Str × Int)) p0_word).bind fun (y5 : Int) => if b62 y5 = true then ((gfor (fun (s7 : (Int × (Option Int))) (x8 : Int) => (mulI s7.1 p1_divisor).bind fun (y9 : Int) => some (y9, (some x8))) (rngL 0 y5) (1, none)).bind fun (s7 : (Int × (Option Int))) => some s7.1) else none)
set_option maxHeartbeats 1000000 in
theorem r_share_of (p0_word : PySem.Str) (p1_divisor : Int) (v : Int) (hv : g_share_of p0_word p1_divisor = some v) : f_share_of [(D.str p0_word, .sh), (D.int p1_divisor, .sh)] = .ok ((fun (v : Int) => Tm.im (D.int v)) v) ((fun (v : Int) => [none, none]) v) := by
  unfold g_share_of at hv
  refine def_ok (n := 4) (np := 2) rfl ?_
  show RtF 2 e_share_of [some (D.str p0_word, .sh), some (D.int p1_divisor, .sh), none, none] _ _
  unfold e_share_of
  exact ifE hv (fun hb hv => fn_rets (fn_ift (truC_ok (op1 (v_ok rfl) rfl (ci_S (m := (eV D.int)) ([("third", [0, 1, (-1)]), ("quarter", [0, 1, 0, (-1)])] : List (PySem.Str × (List Int))) rfl))) hb (bndE hv fun y1 hy1 hv => bndE hv fun y2 hy2 hv => bndE hv fun y3 hy3 hv => bndE hv fun y4 hy4 hv => fn_end (T := (fun (v : Int) => Tm.im (D.int v))) (Fi := (fun (v : Int) => [none, none])) hv (fn_ret (op2 (op1 (v_ok rfl) rfl (cg_S (m := (eV D.int)) ([("third", [0, 1, (-1)]), ("quarter", [0, 1, 0, (-1)])] : List (PySem.Str × (List Int))) rfl hy1)) (op2 (v_ok rfl) (op1 (op1 (v_ok rfl) rfl (cg_S (m := (eV D.int)) ([("third", [0, 1, (-1)]), ("quarter", [0, 1, 0, (-1)])] : List (PySem.Str × (List Int))) rfl hy2)) rfl len_V) rfl rfl (mod_I hy3)) rfl rfl (ix_V hy4)) (e'' := [some (D.str p0_word, .sh), some (D.int p1_divisor, .sh), none, none]) rfl rfl)))) (fun hb hv => fn_ifn (truC_ok (op1 (v_ok rfl) rfl (ci_S (m := (eV D.int)) ([("third", [0, 1, (-1)]), ("quarter", [0, 1, 0, (-1)])] : List (PySem.Str × (List Int))) rfl))) hb skip_ok (fn_seq (e' := [some (D.str p0_word, .sh), some (D.int p1_divisor, .sh), some (D.int 1, .sh), none]) (set_i (i := 2) (k_ok _) rfl rfl rfl rfl) (bndE hv fun y5 hy5 hv => gdE hv fun k6 hv => bndE hv fun s7 hs7 hv => fn_seq (e' := [some (D.str p0_word, .sh), some (D.int p1_divisor, .sh), some (D.int s7.1, .sh), sO D.int .sh s7.2]) (nx_for (m := D.int) (P := fun (s7 : (Int × (Option Int))) => [some (D.str p0_word, .sh), some (D.int p1_divisor, .sh), some (D.int s7.1, .sh), sO D.int .sh s7.2]) (s := (1, none)) (rng1_ok (op1 (v_ok rfl) rfl (cg_S (m := D.int) ([("two", 1), ("four", 3), ("six", 5)] : List (PySem.Str × Int)) rfl hy5)) rfl k6) rfl hs7 (fun s7 x8 _ hv => ⟨[some (D.str p0_word, .sh), some (D.int p1_divisor, .sh), some (D.int s7.1, .sh), some (D.int x8, .sh)], (gn_ok (i := 3) rfl unp_o rfl), bndE hv fun y9 hy9 hv => nx_end (P := fun (s7 : (Int × (Option Int))) => [some (D.str p0_word, .sh), some (D.int p1_divisor, .sh), some (D.int s7.1, .sh), sO D.int .sh s7.2]) hv (set_i (i := 2) (op2 (v_ok rfl) (v_ok rfl) rfl rfl (mul_I hy9)) rfl rfl rfl rfl)⟩)) (fn_end (T := (fun (v : Int) => Tm.im (D.int v))) (Fi := (fun (v : Int) => [none, none])) hv (fn_ret (v_ok rfl) (e'' := [some (D.str p0_word, .sh), some (D.int p1_divisor, .sh), some (D.int s7.1, .sh), sO D.int .sh s7.2]) rfl rfl)))))
def g_total_of (p0_word : PySem.Str) (p1_number : Int) : Option Int := (g_divisors_in p1_number).bind fun (y1 : (List Int)) => (mapO (fun (x2 : Int) => (g_share_of p0_word x2).bind fun (y3 : Int) => some y3) y1).bind fun (y4 : (List Int)) => if y1.length ≤ line then (some y4.sum) else none
set_option maxHeartbeats 1000000 in
theorem r_total_of (p0_word : PySem.Str) (p1_number : Int) (v : Int) (hv : g_total_of p0_word p1_number = some v) : f_total_of [(D.str p0_word, .sh), (D.int p1_number, .sh)] = .ok ((fun (v : Int) => Tm.im (D.int v)) v) ((fun (v : Int) => [none, none]) v) := by
  unfold g_total_of at hv
  refine def_ok (n := 3) (np := 2) rfl ?_
  show RtF 2 e_total_of [some (D.str p0_word, .sh), some (D.int p1_number, .sh), none] _ _
  unfold e_total_of
  exact bndE hv fun y1 hy1 hv => bndE hv fun y4 hy4 hv => gdE hv fun k5 hv => fn_end (T := (fun (v : Int) => Tm.im (D.int v))) (Fi := (fun (v : Int) => [none, none])) hv (fn_ret (op1 (lc_m (w := [some (D.str p0_word, .sh), some (D.int p1_number, .sh), none]) (e3 := [some (D.str p0_word, .sh), some (D.int p1_number, .sh), none]) (m := D.int) (m' := D.int) (its_ok (e'' := [some (D.str p0_word, .sh), some (D.int p1_number, .sh), none]) (call_ok (e3 := [some (D.str p0_word, .sh), some (D.int p1_number, .sh), none]) (as := [(D.int p1_number, .sh)]) (cons_ok (v_ok rfl) nil_ok) rfl rfl (r_divisors_in p1_number y1 hy1) (by trivial) rfl) rfl rfl) rfl rfl hy4 k5 (fun x2 _ hv => bndE hv fun y3 hy3 hv => lcm_end (m' := D.int) hv ⟨_, _, _, _, _, (gn_ok (i := 2) rfl rfl rfl), (call_ok (e3 := [some (D.str p0_word, .sh), some (D.int p1_number, .sh), some (D.int x2, .sh)]) (as := [(D.str p0_word, .sh), (D.int x2, .sh)]) (cons_ok (v_ok rfl) (cons_ok (v_ok rfl) nil_ok)) rfl rfl (r_share_of p0_word x2 y3 hy3) (by trivial) rfl), rfl, rfl, rfl⟩) rfl) rfl sumA_L) (e'' := [some (D.str p0_word, .sh), some (D.int p1_number, .sh), none]) rfl rfl)
def g_greatest_common (p0_first : Int) (p1_second : Int) : Option Int := (gwhile (fun (s1 : (Int × Int)) => some (!decide (s1.2 = 0))) (fun (s1 : (Int × Int)) => (modI s1.1 s1.2).bind fun (y2 : Int) => some (s1.2, y2)) wfuel ((Int.natAbs p0_first : Int), (Int.natAbs p1_second : Int))).bind fun (s1 : (Int × Int)) => some s1.1
set_option maxHeartbeats 1000000 in
theorem r_greatest_common (p0_first : Int) (p1_second : Int) (v : Int) (hv : g_greatest_common p0_first p1_second = some v) : f_greatest_common [(D.int p0_first, .sh), (D.int p1_second, .sh)] = .ok ((fun (v : Int) => Tm.im (D.int v)) v) ((fun (v : Int) => [none, none]) v) := by
  unfold g_greatest_common at hv
  refine def_ok (n := 4) (np := 2) rfl ?_
  show RtF 2 e_greatest_common [some (D.int p0_first, .sh), some (D.int p1_second, .sh), none, none] _ _
  unfold e_greatest_common
  exact fn_seq (e' := [some (D.int p0_first, .sh), some (D.int p1_second, .sh), some (D.int (Int.natAbs p0_first : Int), .sh), some (D.int (Int.natAbs p1_second : Int), .sh)]) (par_ok (e3 := [some (D.int p0_first, .sh), some (D.int p1_second, .sh), some (D.int (Int.natAbs p0_first : Int), .sh), some (D.int (Int.natAbs p1_second : Int), .sh)]) (cons_ok (op1 (v_ok rfl) rfl rfl) (cons_ok (op1 (v_ok rfl) rfl rfl) nil_ok)) rfl (st_cons rfl rfl rfl (st_cons rfl rfl rfl st_nil))) (bndE hv fun s1 hs1 hv => fn_seq (e' := [some (D.int p0_first, .sh), some (D.int p1_second, .sh), some (D.int s1.1, .sh), some (D.int s1.2, .sh)]) (nx_whl (P := fun (s1 : (Int × Int)) => [some (D.int p0_first, .sh), some (D.int p1_second, .sh), some (D.int s1.1, .sh), some (D.int s1.2, .sh)]) (s := ((Int.natAbs p0_first : Int), (Int.natAbs p1_second : Int))) rfl hs1 (fun s1 _ hv => b_end hv (truC_ok (op2 (v_ok rfl) (k_ok _) rfl rfl rfl))) (fun s1 _ hv => bndE hv fun y2 hy2 hv => nx_end (P := fun (s1 : (Int × Int)) => [some (D.int p0_first, .sh), some (D.int p1_second, .sh), some (D.int s1.1, .sh), some (D.int s1.2, .sh)]) hv (par_ok (e3 := [some (D.int p0_first, .sh), some (D.int p1_second, .sh), some (D.int s1.2, .sh), some (D.int y2, .sh)]) (cons_ok (v_ok rfl) (cons_ok (op2 (v_ok rfl) (v_ok rfl) rfl rfl (mod_I hy2)) nil_ok)) rfl (st_cons rfl rfl rfl (st_cons rfl rfl rfl st_nil))))) (fn_end (T := (fun (v : Int) => Tm.im (D.int v))) (Fi := (fun (v : Int) => [none, none])) hv (fn_ret (v_ok rfl) (e'' := [some (D.int p0_first, .sh), some (D.int p1_second, .sh), some (D.int s1.1, .sh), some (D.int s1.2, .sh)]) rfl rfl)))
def g_made_ratio (p0_first : Int) (p1_second : Int) : Option (Int × Int) := (g_greatest_common p0_first p1_second).bind fun (y1 : Int) => (if (decide (p1_second > 0)) = true then (some y1) else (some (0 - y1))).bind fun (s2 : Int) => (divI p0_first s2).bind fun (y3 : Int) => (divI p1_second s2).bind fun (y4 : Int) => some (y3, y4)
set_option maxHeartbeats 1000000 in
theorem r_made_ratio (p0_first : Int) (p1_second : Int) (v : (Int × Int)) (hv : g_made_ratio p0_first p1_second = some v) : f_made_ratio [(D.int p0_first, .sh), (D.int p1_second, .sh)] = .ok ((fun (v : (Int × Int)) => Tm.im ((e2 D.int D.int) v)) v) ((fun (v : (Int × Int)) => [none, none]) v) := by
  unfold g_made_ratio at hv
  refine def_ok (n := 3) (np := 2) rfl ?_
  show RtF 2 e_made_ratio [some (D.int p0_first, .sh), some (D.int p1_second, .sh), none] _ _
  unfold e_made_ratio
  exact bndE hv fun y1 hy1 hv => fn_seq (e' := [some (D.int p0_first, .sh), some (D.int p1_second, .sh), some (D.int y1, .sh)]) (set_i (i := 2) (call_ok (e3 := [some (D.int p0_first, .sh), some (D.int p1_second, .sh), none]) (as := [(D.int p0_first, .sh), (D.int p1_second, .sh)]) (cons_ok (v_ok rfl) (cons_ok (v_ok rfl) nil_ok)) rfl rfl (r_greatest_common p0_first p1_second y1 hy1) (by trivial) rfl) rfl rfl rfl rfl) (bndE hv fun s2 hs2 hv => fn_seq (e' := [some (D.int p0_first, .sh), some (D.int p1_second, .sh), some (D.int s2, .sh)]) (ifE hs2 (fun hb hv => set_ift (e3 := [some (D.int p0_first, .sh), some (D.int p1_second, .sh), some (D.int s2, .sh)]) (truC_ok (op2 (v_ok rfl) (k_ok _) rfl rfl rfl)) hb (nx_end (P := fun (s2 : Int) => [some (D.int p0_first, .sh), some (D.int p1_second, .sh), some (D.int s2, .sh)]) hv (set_i (i := 2) (v_ok rfl) rfl rfl rfl rfl))) (fun hb hv => set_iff (e3 := [some (D.int p0_first, .sh), some (D.int p1_second, .sh), some (D.int s2, .sh)]) (truC_ok (op2 (v_ok rfl) (k_ok _) rfl rfl rfl)) hb (nx_end (P := fun (s2 : Int) => [some (D.int p0_first, .sh), some (D.int p1_second, .sh), some (D.int s2, .sh)]) hv (set_i (i := 2) (op2 (k_ok _) (v_ok rfl) rfl rfl rfl) rfl rfl rfl rfl)))) (bndE hv fun y3 hy3 hv => bndE hv fun y4 hy4 hv => fn_end (T := (fun (v : (Int × Int)) => Tm.im ((e2 D.int D.int) v))) (Fi := (fun (v : (Int × Int)) => [none, none])) hv (fn_ret (tup_ok (d := (e2 D.int D.int) (y3, y4)) (e3 := [some (D.int p0_first, .sh), some (D.int p1_second, .sh), some (D.int s2, .sh)]) (cons_ok (op2 (v_ok rfl) (v_ok rfl) rfl rfl (div_I hy3)) (cons_ok (op2 (v_ok rfl) (v_ok rfl) rfl rfl (div_I hy4)) nil_ok)) rfl rfl rfl) (e'' := [some (D.int p0_first, .sh), some (D.int p1_second, .sh), some (D.int s2, .sh)]) rfl rfl)))
def g_number_by (p0_divisors : (PySem.Str × PySem.Str × Int)) (p1_here : Int) (p2_at_step : Int) : Option (Int × Int) := (eqO (D.str p0_divisors.2.1) (D.str ("two" : PySem.Str))).bind fun (y1 : Bool) => if y1 = true then ((cget ([("third", 6), ("quarter", 4), ("two", 24), ("four", 240), ("six", (-504))] : List (PySem.Str × Int)) p0_divisors.2.1).bind fun (y2 : Int) => (mulI p0_divisors.2.2 p2_at_step).bind fun (y3 : Int) => (mulI y2 (p1_here - y3)).bind fun (y4 : Int) => (g_made_ratio y4 (p0_divisors.2.2 - 1)).bind fun (y5 : (Int × Int)) => some y5) else ((cget ([("third", 6), ("quarter", 4), ("two", 24), ("four", 240), ("six", (-504))] : List (PySem.Str × Int)) p0_divisors.2.1).bind fun (y6 : Int) => (mulI y6 p2_at_step).bind fun (y7 : Int) => (g_made_ratio y7 1).bind fun (y8 : (Int × Int)) => some y8)
set_option maxHeartbeats 1000000 in
theorem r_number_by (p0_divisors : (PySem.Str × PySem.Str × Int)) (p1_here : Int) (p2_at_step : Int) (v : (Int × Int)) (hv : g_number_by p0_divisors p1_here p2_at_step = some v) : f_number_by [((e3 D.str D.str D.int) p0_divisors, .sh), (D.int p1_here, .sh), (D.int p2_at_step, .sh)] = .ok ((fun (v : (Int × Int)) => Tm.im ((e2 D.int D.int) v)) v) ((fun (v : (Int × Int)) => [none, none, none]) v) := by
  unfold g_number_by at hv
  refine def_ok (n := 5) (np := 3) rfl ?_
  show RtF 3 e_number_by [some ((e3 D.str D.str D.int) p0_divisors, .sh), some (D.int p1_here, .sh), some (D.int p2_at_step, .sh), none, none] _ _
  unfold e_number_by
  exact fn_seq (e' := [some ((e3 D.str D.str D.int) p0_divisors, .sh), some (D.int p1_here, .sh), some (D.int p2_at_step, .sh), some (D.str p0_divisors.2.1, .sh), some (D.int p0_divisors.2.2, .sh)]) (par_ok (e3 := [some ((e3 D.str D.str D.int) p0_divisors, .sh), some (D.int p1_here, .sh), some (D.int p2_at_step, .sh), some (D.str p0_divisors.2.1, .sh), some (D.int p0_divisors.2.2, .sh)]) (cons_ok (op2 (v_ok rfl) (k_ok _) rfl rfl rfl) (cons_ok (op2 (v_ok rfl) (k_ok _) rfl rfl rfl) nil_ok)) rfl (st_cons rfl rfl rfl (st_cons rfl rfl rfl st_nil))) (bndE hv fun y1 hy1 hv => ifE hv (fun hb hv => fn_rets (fn_ift (truC_ok (op2 (v_ok rfl) (k_ok _) rfl rfl (eq_G hy1))) hb (bndE hv fun y2 hy2 hv => bndE hv fun y3 hy3 hv => bndE hv fun y4 hy4 hv => bndE hv fun y5 hy5 hv => fn_end (T := (fun (v : (Int × Int)) => Tm.im ((e2 D.int D.int) v))) (Fi := (fun (v : (Int × Int)) => [none, none, none])) hv (fn_ret (call_ok (e3 := [some ((e3 D.str D.str D.int) p0_divisors, .sh), some (D.int p1_here, .sh), some (D.int p2_at_step, .sh), some (D.str p0_divisors.2.1, .sh), some (D.int p0_divisors.2.2, .sh)]) (as := [(D.int y4, .sh), (D.int (p0_divisors.2.2 - 1), .sh)]) (cons_ok (op2 (op1 (v_ok rfl) rfl (cg_S (m := D.int) ([("third", 6), ("quarter", 4), ("two", 24), ("four", 240), ("six", (-504))] : List (PySem.Str × Int)) rfl hy2)) (op2 (v_ok rfl) (op2 (v_ok rfl) (v_ok rfl) rfl rfl (mul_I hy3)) rfl rfl rfl) rfl rfl (mul_I hy4)) (cons_ok (op2 (v_ok rfl) (k_ok _) rfl rfl rfl) nil_ok)) rfl rfl (r_made_ratio y4 (p0_divisors.2.2 - 1) y5 hy5) (by trivial) rfl) (e'' := [some ((e3 D.str D.str D.int) p0_divisors, .sh), some (D.int p1_here, .sh), some (D.int p2_at_step, .sh), some (D.str p0_divisors.2.1, .sh), some (D.int p0_divisors.2.2, .sh)]) rfl rfl)))) (fun hb hv => fn_ifn (truC_ok (op2 (v_ok rfl) (k_ok _) rfl rfl (eq_G hy1))) hb skip_ok (bndE hv fun y6 hy6 hv => bndE hv fun y7 hy7 hv => bndE hv fun y8 hy8 hv => fn_end (T := (fun (v : (Int × Int)) => Tm.im ((e2 D.int D.int) v))) (Fi := (fun (v : (Int × Int)) => [none, none, none])) hv (fn_ret (call_ok (e3 := [some ((e3 D.str D.str D.int) p0_divisors, .sh), some (D.int p1_here, .sh), some (D.int p2_at_step, .sh), some (D.str p0_divisors.2.1, .sh), some (D.int p0_divisors.2.2, .sh)]) (as := [(D.int y7, .sh), (D.int 1, .sh)]) (cons_ok (op2 (op1 (v_ok rfl) rfl (cg_S (m := D.int) ([("third", 6), ("quarter", 4), ("two", 24), ("four", 240), ("six", (-504))] : List (PySem.Str × Int)) rfl hy6)) (v_ok rfl) rfl rfl (mul_I hy7)) (cons_ok (k_ok _) nil_ok)) rfl rfl (r_made_ratio y7 1 y8 hy8) (by trivial) rfl) (e'' := [some ((e3 D.str D.str D.int) p0_divisors, .sh), some (D.int p1_here, .sh), some (D.int p2_at_step, .sh), some (D.str p0_divisors.2.1, .sh), some (D.int p0_divisors.2.2, .sh)]) rfl rfl))))
def g_plain_numbers (p0_divisors : (PySem.Str × PySem.Str × Int)) (p1_many : Int) : Option (List (Int × Int)) := if (b62 1 && b62 p1_many) = true then ((gfor (fun (s2 : ((List (Int × Int)) × (Option Int) × (Option Int))) (x3 : Int) => (eqO (D.str p0_divisors.2.1) (D.str ("two" : PySem.Str))).bind fun (y4 : Bool) => (if y4 = true then ((g_total_of p0_divisors.2.1 x3).bind fun (y7 : Int) => some y7) else (some 0)).bind fun (s6 : Int) => (modI x3 p0_divisors.2.2).bind fun (y8 : Int) => (if (decide (y8 = 0)) = true then ((divI x3 p0_divisors.2.2).bind fun (y9 : Int) => (g_total_of p0_divisors.2.1 y9).bind fun (y10 : Int) => some y10) else (some 0)).bind fun (y11 : Int) => (g_number_by p0_divisors s6 y11).bind fun (y12 : (Int × Int)) => if s2.1.length < line then (some ((s2.1 ++ [y12]), (some x3), (some s6))) else none) (rngL 1 p1_many) ((cutL [(1, 1)] none (some p1_many)), none, none)).bind fun (s2 : ((List (Int × Int)) × (Option Int) × (Option Int))) => some s2.1) else none
set_option maxHeartbeats 1000000 in
theorem r_plain_numbers (p0_divisors : (PySem.Str × PySem.Str × Int)) (p1_many : Int) (v : (List (Int × Int))) (hv : g_plain_numbers p0_divisors p1_many = some v) : f_plain_numbers [((e3 D.str D.str D.int) p0_divisors, .sh), (D.int p1_many, .sh)] = .ok ((fun (v : (List (Int × Int))) => Tm.ow ((eL (e2 D.int D.int)) v)) v) ((fun (v : (List (Int × Int))) => [none, none]) v) := by
  unfold g_plain_numbers at hv
  refine def_ok (n := 7) (np := 2) rfl ?_
  show RtF 2 e_plain_numbers [some ((e3 D.str D.str D.int) p0_divisors, .sh), some (D.int p1_many, .sh), none, none, none, none, none] _ _
  unfold e_plain_numbers
  exact fn_seq (e' := [some ((e3 D.str D.str D.int) p0_divisors, .sh), some (D.int p1_many, .sh), some (D.str p0_divisors.2.1, .sh), some (D.int p0_divisors.2.2, .sh), none, none, none]) (par_ok (e3 := [some ((e3 D.str D.str D.int) p0_divisors, .sh), some (D.int p1_many, .sh), some (D.str p0_divisors.2.1, .sh), some (D.int p0_divisors.2.2, .sh), none, none, none]) (cons_ok (op2 (v_ok rfl) (k_ok _) rfl rfl rfl) (cons_ok (op2 (v_ok rfl) (k_ok _) rfl rfl rfl) nil_ok)) rfl (st_cons rfl rfl rfl (st_cons rfl rfl rfl st_nil))) (fn_seq (e' := [some ((e3 D.str D.str D.int) p0_divisors, .sh), some (D.int p1_many, .sh), some (D.str p0_divisors.2.1, .sh), some (D.int p0_divisors.2.2, .sh), some ((eL (e2 D.int D.int)) (cutL [(1, 1)] none (some p1_many)), .mv), none, none]) (set_o (i := 4) (slc_ok (l := none) (h := (some p1_many)) (lst_ok (d := (eL (e2 D.int D.int)) ([(1, 1)] : (List (Int × Int)))) (e3 := [some ((e3 D.str D.str D.int) p0_divisors, .sh), some (D.int p1_many, .sh), some (D.str p0_divisors.2.1, .sh), some (D.int p0_divisors.2.2, .sh), none, none, none]) (cons_ok (cv (k_ok _) (t' := .im ((e2 D.int D.int) (1, 1))) rfl) nil_ok) rfl rfl rfl) rfl (intp_ok (v_ok rfl) rfl) rfl sl_L) rfl rfl rfl rfl) (gdE hv fun k1 hv => bndE hv fun s2 hs2 hv => fn_seq (e' := [some ((e3 D.str D.str D.int) p0_divisors, .sh), some (D.int p1_many, .sh), some (D.str p0_divisors.2.1, .sh), some (D.int p0_divisors.2.2, .sh), some ((eL (e2 D.int D.int)) s2.1, .mv), sO D.int .sh s2.2.1, sO D.int .sh s2.2.2]) (nx_for (m := D.int) (P := fun (s2 : ((List (Int × Int)) × (Option Int) × (Option Int))) => [some ((e3 D.str D.str D.int) p0_divisors, .sh), some (D.int p1_many, .sh), some (D.str p0_divisors.2.1, .sh), some (D.int p0_divisors.2.2, .sh), some ((eL (e2 D.int D.int)) s2.1, .mv), sO D.int .sh s2.2.1, sO D.int .sh s2.2.2]) (s := ((cutL [(1, 1)] none (some p1_many)), none, none)) (rng2_ok (k_ok _) (v_ok rfl) rfl rfl k1) rfl hs2 (fun s2 x3 _ hv => ⟨[some ((e3 D.str D.str D.int) p0_divisors, .sh), some (D.int p1_many, .sh), some (D.str p0_divisors.2.1, .sh), some (D.int p0_divisors.2.2, .sh), some ((eL (e2 D.int D.int)) s2.1, .mv), some (D.int x3, .sh), sO D.int .sh s2.2.2], (gn_ok (i := 5) rfl unp_o rfl), bndE hv fun y4 hy4 hv => bndE hv fun s6 hs6 hv => nx_seq (e' := [some ((e3 D.str D.str D.int) p0_divisors, .sh), some (D.int p1_many, .sh), some (D.str p0_divisors.2.1, .sh), some (D.int p0_divisors.2.2, .sh), some ((eL (e2 D.int D.int)) s2.1, .mv), some (D.int x3, .sh), some (D.int s6, .sh)]) (ifE hs6 (fun hb hv => set_ift (e3 := [some ((e3 D.str D.str D.int) p0_divisors, .sh), some (D.int p1_many, .sh), some (D.str p0_divisors.2.1, .sh), some (D.int p0_divisors.2.2, .sh), some ((eL (e2 D.int D.int)) s2.1, .mv), some (D.int x3, .sh), some (D.int s6, .sh)]) (truC_ok (op2 (v_ok rfl) (k_ok _) rfl rfl (eq_G hy4))) hb (bndE hv fun y7 hy7 hv => nx_end (P := fun (s6 : Int) => [some ((e3 D.str D.str D.int) p0_divisors, .sh), some (D.int p1_many, .sh), some (D.str p0_divisors.2.1, .sh), some (D.int p0_divisors.2.2, .sh), some ((eL (e2 D.int D.int)) s2.1, .mv), some (D.int x3, .sh), some (D.int s6, .sh)]) hv (set_i (i := 6) (call_ok (e3 := [some ((e3 D.str D.str D.int) p0_divisors, .sh), some (D.int p1_many, .sh), some (D.str p0_divisors.2.1, .sh), some (D.int p0_divisors.2.2, .sh), some ((eL (e2 D.int D.int)) s2.1, .mv), some (D.int x3, .sh), sO D.int .sh s2.2.2]) (as := [(D.str p0_divisors.2.1, .sh), (D.int x3, .sh)]) (cons_ok (v_ok rfl) (cons_ok (v_ok rfl) nil_ok)) rfl rfl (r_total_of p0_divisors.2.1 x3 y7 hy7) (by trivial) rfl) rfl rfl unp_o rfl))) (fun hb hv => set_iff (e3 := [some ((e3 D.str D.str D.int) p0_divisors, .sh), some (D.int p1_many, .sh), some (D.str p0_divisors.2.1, .sh), some (D.int p0_divisors.2.2, .sh), some ((eL (e2 D.int D.int)) s2.1, .mv), some (D.int x3, .sh), some (D.int s6, .sh)]) (truC_ok (op2 (v_ok rfl) (k_ok _) rfl rfl (eq_G hy4))) hb (nx_end (P := fun (s6 : Int) => [some ((e3 D.str D.str D.int) p0_divisors, .sh), some (D.int p1_many, .sh), some (D.str p0_divisors.2.1, .sh), some (D.int p0_divisors.2.2, .sh), some ((eL (e2 D.int D.int)) s2.1, .mv), some (D.int x3, .sh), some (D.int s6, .sh)]) hv (set_i (i := 6) (k_ok _) rfl rfl unp_o rfl)))) (bndE hv fun y8 hy8 hv => bndE hv fun y11 hy11 hv => bndE hv fun y12 hy12 hv => gdE hv fun k13 hv => nx_end (P := fun (s2 : ((List (Int × Int)) × (Option Int) × (Option Int))) => [some ((e3 D.str D.str D.int) p0_divisors, .sh), some (D.int p1_many, .sh), some (D.str p0_divisors.2.1, .sh), some (D.int p0_divisors.2.2, .sh), some ((eL (e2 D.int D.int)) s2.1, .mv), sO D.int .sh s2.2.1, sO D.int .sh s2.2.2]) hv (expr_ok (mutL_ok (i := 4) (e'' := [some ((e3 D.str D.str D.int) p0_divisors, .sh), some (D.int p1_many, .sh), some (D.str p0_divisors.2.1, .sh), some (D.int p0_divisors.2.2, .sh), some ((eL (e2 D.int D.int)) s2.1, .mv), some (D.int x3, .sh), some (D.int s6, .sh)]) rfl (cons_ok (call_ok (e3 := [some ((e3 D.str D.str D.int) p0_divisors, .sh), some (D.int p1_many, .sh), some (D.str p0_divisors.2.1, .sh), some (D.int p0_divisors.2.2, .sh), some ((eL (e2 D.int D.int)) s2.1, .mv), some (D.int x3, .sh), some (D.int s6, .sh)]) (as := [((e3 D.str D.str D.int) p0_divisors, .sh), (D.int s6, .sh), (D.int y11, .sh)]) (cons_ok (v_ok rfl) (cons_ok (v_ok rfl) (cons_ok (ite_g (T := fun v => Tm.im (D.int v)) (truC_ok (op2 (op2 (v_ok rfl) (v_ok rfl) rfl rfl (mod_I hy8)) (k_ok _) rfl rfl rfl)) hy11 (fun hv => bndE hv fun y9 hy9 hv => bndE hv fun y10 hy10 hv => val_end (T := fun v => Tm.im (D.int v)) hv (call_ok (e3 := [some ((e3 D.str D.str D.int) p0_divisors, .sh), some (D.int p1_many, .sh), some (D.str p0_divisors.2.1, .sh), some (D.int p0_divisors.2.2, .sh), some ((eL (e2 D.int D.int)) s2.1, .mv), some (D.int x3, .sh), some (D.int s6, .sh)]) (as := [(D.str p0_divisors.2.1, .sh), (D.int y9, .sh)]) (cons_ok (v_ok rfl) (cons_ok (op2 (v_ok rfl) (v_ok rfl) rfl rfl (div_I hy9)) nil_ok)) rfl rfl (r_total_of p0_divisors.2.1 y9 y10 hy10) (by trivial) rfl)) (fun hv => val_end (T := fun v => Tm.im (D.int v)) hv (k_ok _))) nil_ok))) rfl rfl (r_number_by p0_divisors s6 y11 y12 hy12) (by trivial) rfl) nil_ok) rfl rfl rfl (app_e (x := y12) rfl k13) rfl)))⟩)) (fn_end (T := (fun (v : (List (Int × Int))) => Tm.ow ((eL (e2 D.int D.int)) v))) (Fi := (fun (v : (List (Int × Int))) => [none, none])) hv (fn_ret (v_ok rfl) (e'' := [some ((e3 D.str D.str D.int) p0_divisors, .sh), some (D.int p1_many, .sh), some (D.str p0_divisors.2.1, .sh), some (D.int p0_divisors.2.2, .sh), none, sO D.int .sh s2.2.1, sO D.int .sh s2.2.2]) rfl rfl))))
def g_plain_divisor_row (p0_divisors : (PySem.Str × PySem.Str × Int)) (p1_many : Int) : Option (List (Int × Int)) := (g_want_divisors p0_divisors).bind fun (y1 : (PySem.Str × PySem.Str × Int)) => (g_want_many p1_many 300).bind fun (y2 : Int) => (g_plain_numbers p0_divisors y2).bind fun (y3 : (List (Int × Int))) => some y3
set_option maxHeartbeats 1000000 in
theorem r_plain_divisor_row (p0_divisors : (PySem.Str × PySem.Str × Int)) (p1_many : Int) (v : (List (Int × Int))) (hv : g_plain_divisor_row p0_divisors p1_many = some v) : f_plain_divisor_row [((e3 D.str D.str D.int) p0_divisors, .sh), (D.int p1_many, .sh)] = .ok ((fun (v : (List (Int × Int))) => Tm.ow ((eL (e2 D.int D.int)) v)) v) ((fun (v : (List (Int × Int))) => [none, none]) v) := by
  unfold g_plain_divisor_row at hv
  refine def_ok (n := 2) (np := 2) rfl ?_
  show RtF 2 e_plain_divisor_row [some ((e3 D.str D.str D.int) p0_divisors, .sh), some (D.int p1_many, .sh)] _ _
  unfold e_plain_divisor_row
  exact bndE hv fun y1 hy1 hv => fn_seq (e' := [some ((e3 D.str D.str D.int) p0_divisors, .sh), some (D.int p1_many, .sh)]) (expr_ok (call_ok (e3 := [some ((e3 D.str D.str D.int) p0_divisors, .sh), some (D.int p1_many, .sh)]) (as := [((e3 D.str D.str D.int) p0_divisors, .sh)]) (cons_ok (v_ok rfl) nil_ok) rfl rfl (r_want_divisors p0_divisors y1 hy1) (by trivial) rfl)) (bndE hv fun y2 hy2 hv => bndE hv fun y3 hy3 hv => fn_end (T := (fun (v : (List (Int × Int))) => Tm.ow ((eL (e2 D.int D.int)) v))) (Fi := (fun (v : (List (Int × Int))) => [none, none])) hv (fn_ret (call_ok (e3 := [some ((e3 D.str D.str D.int) p0_divisors, .sh), some (D.int p1_many, .sh)]) (as := [((e3 D.str D.str D.int) p0_divisors, .sh), (D.int y2, .sh)]) (cons_ok (v_ok rfl) (cons_ok (call_ok (e3 := [some ((e3 D.str D.str D.int) p0_divisors, .sh), some (D.int p1_many, .sh)]) (as := [(D.int p1_many, .sh), (D.int 300, .sh)]) (cons_ok (v_ok rfl) (cons_ok (k_ok _) nil_ok)) rfl rfl (r_want_many p1_many 300 y2 hy2) (by trivial) rfl) nil_ok)) rfl rfl (r_plain_numbers p0_divisors y2 y3 hy3) (by trivial) rfl) (e'' := [some ((e3 D.str D.str D.int) p0_divisors, .sh), some (D.int p1_many, .sh)]) rfl rfl))
def g_totals_to (p0_word : PySem.Str) (p1_many : Int) : Option (List Int) := (repI [0] p1_many).bind fun (y1 : (List Int)) => if (b62 1 && b62 p1_many) = true then ((gfor (fun (s3 : ((List Int) × (Option Int) × (Option Int) × (Option Int))) (x4 : Int) => (g_share_of p0_word x4).bind fun (y5 : Int) => if okRC x4 p1_many x4 = true then ((gfor (fun (s7 : ((List Int) × (Option Int))) (x8 : Int) => (geti s7.1 x8).bind fun (y9 : Int) => (seti s7.1 x8 (y9 + y5)).bind fun (y10 : (List Int)) => some (y10, (some x8))) (rngC x4 p1_many x4) (s3.1, s3.2.2.2)).bind fun (s7 : ((List Int) × (Option Int))) => some (s7.1, (some x4), (some y5), s7.2)) else none) (rngL 1 p1_many) (y1, none, none, none)).bind fun (s3 : ((List Int) × (Option Int) × (Option Int) × (Option Int))) => some s3.1) else none
set_option maxHeartbeats 1000000 in
theorem r_totals_to (p0_word : PySem.Str) (p1_many : Int) (v : (List Int)) (hv : g_totals_to p0_word p1_many = some v) : f_totals_to [(D.str p0_word, .sh), (D.int p1_many, .sh)] = .ok ((fun (v : (List Int)) => Tm.ow ((eL D.int) v)) v) ((fun (v : (List Int)) => [none, none]) v) := by
  unfold g_totals_to at hv
  refine def_ok (n := 6) (np := 2) rfl ?_
  show RtF 2 e_totals_to [some (D.str p0_word, .sh), some (D.int p1_many, .sh), none, none, none, none] _ _
  unfold e_totals_to
  exact bndE hv fun y1 hy1 hv => fn_seq (e' := [some (D.str p0_word, .sh), some (D.int p1_many, .sh), some ((eL D.int) y1, .mv), none, none, none]) (set_o (i := 2) (op2 (lst_ok (d := (eL D.int) ([0] : (List Int))) (e3 := [some (D.str p0_word, .sh), some (D.int p1_many, .sh), none, none, none, none]) (cons_ok (k_ok _) nil_ok) rfl rfl rfl) (v_ok rfl) rfl rfl (mul_L hy1)) rfl rfl rfl rfl) (gdE hv fun k2 hv => bndE hv fun s3 hs3 hv => fn_seq (e' := [some (D.str p0_word, .sh), some (D.int p1_many, .sh), some ((eL D.int) s3.1, .mv), sO D.int .sh s3.2.1, sO D.int .sh s3.2.2.1, sO D.int .sh s3.2.2.2]) (nx_for (m := D.int) (P := fun (s3 : ((List Int) × (Option Int) × (Option Int) × (Option Int))) => [some (D.str p0_word, .sh), some (D.int p1_many, .sh), some ((eL D.int) s3.1, .mv), sO D.int .sh s3.2.1, sO D.int .sh s3.2.2.1, sO D.int .sh s3.2.2.2]) (s := (y1, none, none, none)) (rng2_ok (k_ok _) (v_ok rfl) rfl rfl k2) rfl hs3 (fun s3 x4 _ hv => ⟨[some (D.str p0_word, .sh), some (D.int p1_many, .sh), some ((eL D.int) s3.1, .mv), some (D.int x4, .sh), sO D.int .sh s3.2.2.1, sO D.int .sh s3.2.2.2], (gn_ok (i := 3) rfl unp_o rfl), bndE hv fun y5 hy5 hv => nx_seq (e' := [some (D.str p0_word, .sh), some (D.int p1_many, .sh), some ((eL D.int) s3.1, .mv), some (D.int x4, .sh), some (D.int y5, .sh), sO D.int .sh s3.2.2.2]) (set_i (i := 4) (call_ok (e3 := [some (D.str p0_word, .sh), some (D.int p1_many, .sh), some ((eL D.int) s3.1, .mv), some (D.int x4, .sh), sO D.int .sh s3.2.2.1, sO D.int .sh s3.2.2.2]) (as := [(D.str p0_word, .sh), (D.int x4, .sh)]) (cons_ok (v_ok rfl) (cons_ok (v_ok rfl) nil_ok)) rfl rfl (r_share_of p0_word x4 y5 hy5) (by trivial) rfl) rfl rfl unp_o rfl) (gdE hv fun k6 hv => bndE hv fun s7 hs7 hv => nx_end (P := fun (s3 : ((List Int) × (Option Int) × (Option Int) × (Option Int))) => [some (D.str p0_word, .sh), some (D.int p1_many, .sh), some ((eL D.int) s3.1, .mv), sO D.int .sh s3.2.1, sO D.int .sh s3.2.2.1, sO D.int .sh s3.2.2.2]) hv (nx_for (m := D.int) (P := fun (s7 : ((List Int) × (Option Int))) => [some (D.str p0_word, .sh), some (D.int p1_many, .sh), some ((eL D.int) s7.1, .mv), some (D.int x4, .sh), some (D.int y5, .sh), sO D.int .sh s7.2]) (s := (s3.1, s3.2.2.2)) (sh_ok (e'' := [some (D.str p0_word, .sh), some (D.int p1_many, .sh), some ((eL D.int) s3.1, .mv), some (D.int x4, .sh), some (D.int y5, .sh), sO D.int .sh s3.2.2.2]) (cons_ok (v_ok rfl) (cons_ok (v_ok rfl) (cons_ok (v_ok rfl) nil_ok))) rfl (rng3_I k6)) rfl hs7 (fun s7 x8 _ hv => ⟨[some (D.str p0_word, .sh), some (D.int p1_many, .sh), some ((eL D.int) s7.1, .mv), some (D.int x4, .sh), some (D.int y5, .sh), some (D.int x8, .sh)], (gn_ok (i := 5) rfl unp_o rfl), bndE hv fun y9 hy9 hv => bndE hv fun y10 hy10 hv => nx_end (P := fun (s7 : ((List Int) × (Option Int))) => [some (D.str p0_word, .sh), some (D.int p1_many, .sh), some ((eL D.int) s7.1, .mv), some (D.int x4, .sh), some (D.int y5, .sh), sO D.int .sh s7.2]) hv (asg_ok (e'' := [some (D.str p0_word, .sh), some (D.int p1_many, .sh), some ((eL D.int) s7.1, .mv), some (D.int x4, .sh), some (D.int y5, .sh), some (D.int x8, .sh)]) (op2 (op2 (v_ok rfl) (v_ok rfl) rfl rfl (ix_L hy9)) (v_ok rfl) rfl rfl rfl) rfl (iput_ok (i := 2) rfl (v_ok rfl) rfl rfl rfl rfl hy10 rfl))⟩)))⟩)) (fn_end (T := (fun (v : (List Int)) => Tm.ow ((eL D.int) v))) (Fi := (fun (v : (List Int)) => [none, none])) hv (fn_ret (v_ok rfl) (e'' := [some (D.str p0_word, .sh), some (D.int p1_many, .sh), none, sO D.int .sh s3.2.1, sO D.int .sh s3.2.2.1, sO D.int .sh s3.2.2.2]) rfl rfl)))
def g_divisor_numbers (p0_divisors : (PySem.Str × PySem.Str × Int)) (p1_many : Int) : Option (List (Int × Int)) := (g_totals_to p0_divisors.2.1 p1_many).bind fun (y1 : (List Int)) => if (b62 1 && b62 p1_many) = true then ((gfor (fun (s3 : ((List (Int × Int)) × (Option Int))) (x4 : Int) => (geti y1 x4).bind fun (y5 : Int) => (modI x4 p0_divisors.2.2).bind fun (y6 : Int) => (if (decide (y6 = 0)) = true then ((divI x4 p0_divisors.2.2).bind fun (y7 : Int) => (geti y1 y7).bind fun (y8 : Int) => some y8) else (some 0)).bind fun (y9 : Int) => (g_number_by p0_divisors y5 y9).bind fun (y10 : (Int × Int)) => if s3.1.length < line then (some ((s3.1 ++ [y10]), (some x4))) else none) (rngL 1 p1_many) ((cutL [(1, 1)] none (some p1_many)), none)).bind fun (s3 : ((List (Int × Int)) × (Option Int))) => some s3.1) else none
set_option maxHeartbeats 1000000 in
theorem r_divisor_numbers (p0_divisors : (PySem.Str × PySem.Str × Int)) (p1_many : Int) (v : (List (Int × Int))) (hv : g_divisor_numbers p0_divisors p1_many = some v) : f_divisor_numbers [((e3 D.str D.str D.int) p0_divisors, .sh), (D.int p1_many, .sh)] = .ok ((fun (v : (List (Int × Int))) => Tm.ow ((eL (e2 D.int D.int)) v)) v) ((fun (v : (List (Int × Int))) => [none, none]) v) := by
  unfold g_divisor_numbers at hv
  refine def_ok (n := 6) (np := 2) rfl ?_
  show RtF 2 e_divisor_numbers [some ((e3 D.str D.str D.int) p0_divisors, .sh), some (D.int p1_many, .sh), none, none, none, none] _ _
  unfold e_divisor_numbers
  exact bndE hv fun y1 hy1 hv => fn_seq (e' := [some ((e3 D.str D.str D.int) p0_divisors, .sh), some (D.int p1_many, .sh), some ((eL D.int) y1, .mv), some (D.int p0_divisors.2.2, .sh), none, none]) (par_ok (e3 := [some ((e3 D.str D.str D.int) p0_divisors, .sh), some (D.int p1_many, .sh), some ((eL D.int) y1, .mv), some (D.int p0_divisors.2.2, .sh), none, none]) (cons_ok (call_ok (e3 := [some ((e3 D.str D.str D.int) p0_divisors, .sh), some (D.int p1_many, .sh), none, none, none, none]) (as := [(D.str p0_divisors.2.1, .sh), (D.int p1_many, .sh)]) (cons_ok (op2 (v_ok rfl) (k_ok _) rfl rfl rfl) (cons_ok (v_ok rfl) nil_ok)) rfl rfl (r_totals_to p0_divisors.2.1 p1_many y1 hy1) (by trivial) rfl) (cons_ok (op2 (v_ok rfl) (k_ok _) rfl rfl rfl) nil_ok)) rfl (st_conso rfl rfl rfl (st_cons rfl rfl rfl st_nil))) (fn_seq (e' := [some ((e3 D.str D.str D.int) p0_divisors, .sh), some (D.int p1_many, .sh), some ((eL D.int) y1, .mv), some (D.int p0_divisors.2.2, .sh), some ((eL (e2 D.int D.int)) (cutL [(1, 1)] none (some p1_many)), .mv), none]) (set_o (i := 4) (slc_ok (l := none) (h := (some p1_many)) (lst_ok (d := (eL (e2 D.int D.int)) ([(1, 1)] : (List (Int × Int)))) (e3 := [some ((e3 D.str D.str D.int) p0_divisors, .sh), some (D.int p1_many, .sh), some ((eL D.int) y1, .mv), some (D.int p0_divisors.2.2, .sh), none, none]) (cons_ok (cv (k_ok _) (t' := .im ((e2 D.int D.int) (1, 1))) rfl) nil_ok) rfl rfl rfl) rfl (intp_ok (v_ok rfl) rfl) rfl sl_L) rfl rfl rfl rfl) (gdE hv fun k2 hv => bndE hv fun s3 hs3 hv => fn_seq (e' := [some ((e3 D.str D.str D.int) p0_divisors, .sh), some (D.int p1_many, .sh), some ((eL D.int) y1, .mv), some (D.int p0_divisors.2.2, .sh), some ((eL (e2 D.int D.int)) s3.1, .mv), sO D.int .sh s3.2]) (nx_for (m := D.int) (P := fun (s3 : ((List (Int × Int)) × (Option Int))) => [some ((e3 D.str D.str D.int) p0_divisors, .sh), some (D.int p1_many, .sh), some ((eL D.int) y1, .mv), some (D.int p0_divisors.2.2, .sh), some ((eL (e2 D.int D.int)) s3.1, .mv), sO D.int .sh s3.2]) (s := ((cutL [(1, 1)] none (some p1_many)), none)) (rng2_ok (k_ok _) (v_ok rfl) rfl rfl k2) rfl hs3 (fun s3 x4 _ hv => ⟨[some ((e3 D.str D.str D.int) p0_divisors, .sh), some (D.int p1_many, .sh), some ((eL D.int) y1, .mv), some (D.int p0_divisors.2.2, .sh), some ((eL (e2 D.int D.int)) s3.1, .mv), some (D.int x4, .sh)], (gn_ok (i := 5) rfl unp_o rfl), bndE hv fun y5 hy5 hv => bndE hv fun y6 hy6 hv => bndE hv fun y9 hy9 hv => bndE hv fun y10 hy10 hv => gdE hv fun k11 hv => nx_end (P := fun (s3 : ((List (Int × Int)) × (Option Int))) => [some ((e3 D.str D.str D.int) p0_divisors, .sh), some (D.int p1_many, .sh), some ((eL D.int) y1, .mv), some (D.int p0_divisors.2.2, .sh), some ((eL (e2 D.int D.int)) s3.1, .mv), sO D.int .sh s3.2]) hv (expr_ok (mutL_ok (i := 4) (e'' := [some ((e3 D.str D.str D.int) p0_divisors, .sh), some (D.int p1_many, .sh), some ((eL D.int) y1, .mv), some (D.int p0_divisors.2.2, .sh), some ((eL (e2 D.int D.int)) s3.1, .mv), some (D.int x4, .sh)]) rfl (cons_ok (call_ok (e3 := [some ((e3 D.str D.str D.int) p0_divisors, .sh), some (D.int p1_many, .sh), some ((eL D.int) y1, .mv), some (D.int p0_divisors.2.2, .sh), some ((eL (e2 D.int D.int)) s3.1, .mv), some (D.int x4, .sh)]) (as := [((e3 D.str D.str D.int) p0_divisors, .sh), (D.int y5, .sh), (D.int y9, .sh)]) (cons_ok (v_ok rfl) (cons_ok (op2 (v_ok rfl) (v_ok rfl) rfl rfl (ix_L hy5)) (cons_ok (ite_g (T := fun v => Tm.im (D.int v)) (truC_ok (op2 (op2 (v_ok rfl) (v_ok rfl) rfl rfl (mod_I hy6)) (k_ok _) rfl rfl rfl)) hy9 (fun hv => bndE hv fun y7 hy7 hv => bndE hv fun y8 hy8 hv => val_end (T := fun v => Tm.im (D.int v)) hv (op2 (v_ok rfl) (op2 (v_ok rfl) (v_ok rfl) rfl rfl (div_I hy7)) rfl rfl (ix_L hy8))) (fun hv => val_end (T := fun v => Tm.im (D.int v)) hv (k_ok _))) nil_ok))) rfl rfl (r_number_by p0_divisors y5 y9 y10 hy10) (by trivial) rfl) nil_ok) rfl rfl rfl (app_e (x := y10) rfl k11) rfl))⟩)) (fn_end (T := (fun (v : (List (Int × Int))) => Tm.ow ((eL (e2 D.int D.int)) v))) (Fi := (fun (v : (List (Int × Int))) => [none, none])) hv (fn_ret (v_ok rfl) (e'' := [some ((e3 D.str D.str D.int) p0_divisors, .sh), some (D.int p1_many, .sh), some ((eL D.int) y1, .mv), some (D.int p0_divisors.2.2, .sh), none, sO D.int .sh s3.2]) rfl rfl))))
def g_divisor_row (p0_divisors : (PySem.Str × PySem.Str × Int)) (p1_many : Int) : Option (List (Int × Int)) := (g_want_divisors p0_divisors).bind fun (y1 : (PySem.Str × PySem.Str × Int)) => (g_want_many p1_many 3000).bind fun (y2 : Int) => (g_divisor_numbers p0_divisors y2).bind fun (y3 : (List (Int × Int))) => some y3
set_option maxHeartbeats 1000000 in
theorem r_divisor_row (p0_divisors : (PySem.Str × PySem.Str × Int)) (p1_many : Int) (v : (List (Int × Int))) (hv : g_divisor_row p0_divisors p1_many = some v) : f_divisor_row [((e3 D.str D.str D.int) p0_divisors, .sh), (D.int p1_many, .sh)] = .ok ((fun (v : (List (Int × Int))) => Tm.ow ((eL (e2 D.int D.int)) v)) v) ((fun (v : (List (Int × Int))) => [none, none]) v) := by
  unfold g_divisor_row at hv
  refine def_ok (n := 2) (np := 2) rfl ?_
  show RtF 2 e_divisor_row [some ((e3 D.str D.str D.int) p0_divisors, .sh), some (D.int p1_many, .sh)] _ _
  unfold e_divisor_row
  exact bndE hv fun y1 hy1 hv => fn_seq (e' := [some ((e3 D.str D.str D.int) p0_divisors, .sh), some (D.int p1_many, .sh)]) (expr_ok (call_ok (e3 := [some ((e3 D.str D.str D.int) p0_divisors, .sh), some (D.int p1_many, .sh)]) (as := [((e3 D.str D.str D.int) p0_divisors, .sh)]) (cons_ok (v_ok rfl) nil_ok) rfl rfl (r_want_divisors p0_divisors y1 hy1) (by trivial) rfl)) (bndE hv fun y2 hy2 hv => bndE hv fun y3 hy3 hv => fn_end (T := (fun (v : (List (Int × Int))) => Tm.ow ((eL (e2 D.int D.int)) v))) (Fi := (fun (v : (List (Int × Int))) => [none, none])) hv (fn_ret (call_ok (e3 := [some ((e3 D.str D.str D.int) p0_divisors, .sh), some (D.int p1_many, .sh)]) (as := [((e3 D.str D.str D.int) p0_divisors, .sh), (D.int y2, .sh)]) (cons_ok (v_ok rfl) (cons_ok (call_ok (e3 := [some ((e3 D.str D.str D.int) p0_divisors, .sh), some (D.int p1_many, .sh)]) (as := [(D.int p1_many, .sh), (D.int 3000, .sh)]) (cons_ok (v_ok rfl) (cons_ok (k_ok _) nil_ok)) rfl rfl (r_want_many p1_many 3000 y2 hy2) (by trivial) rfl) nil_ok)) rfl rfl (r_divisor_numbers p0_divisors y2 y3 hy3) (by trivial) rfl) (e'' := [some ((e3 D.str D.str D.int) p0_divisors, .sh), some (D.int p1_many, .sh)]) rfl rfl))
def g_law_mixed_row (p0_rows : (List (PySem.Str × Int))) (p1_numbers : (List Int)) (p2_under : Int) (p3_is_plain : Bool) (p4_many : Int) : Option (List (Option Int)) := (gfor (fun (s1 : ((List (List (Int × Int))) × (Option PySem.Str) × (Option Int) × (Option (List (Int × Int))))) (x2 : (PySem.Str × Int)) => (if p3_is_plain = true then ((g_plain_divisor_row (("divisors" : PySem.Str), x2.1, x2.2) p4_many).bind fun (y6 : (List (Int × Int))) => some y6) else ((g_divisor_row (("divisors" : PySem.Str), x2.1, x2.2) p4_many).bind fun (y7 : (List (Int × Int))) => some y7)).bind fun (s5 : (List (Int × Int))) => if s1.1.length < line then (some ((s1.1 ++ [s5]), (some x2.1), (some x2.2), (some s5))) else none) p0_rows ([], none, none, none)).bind fun (s1 : ((List (List (Int × Int))) × (Option PySem.Str) × (Option Int) × (Option (List (Int × Int))))) => if b62 p4_many = true then ((gfor (fun (s10 : ((List (Option Int)) × (Option Int) × (Option Int) × (Option Int) × (Option (List (Int × Int))) × (Option Int))) (x11 : Int) => (gfor (fun (s12 : (Int × Int × (Option (List (Int × Int))) × (Option Int))) (x13 : ((List (Int × Int)) × Int)) => (geti x13.1 x11).bind fun (y14 : (Int × Int)) => (mulI s12.1 y14.2).bind fun (y15 : Int) => (geti x13.1 x11).bind fun (y16 : (Int × Int)) => (mulI x13.2 y16.1).bind fun (y17 : Int) => (mulI y17 s12.2.1).bind fun (y18 : Int) => (geti x13.1 x11).bind fun (y19 : (Int × Int)) => (mulI s12.2.1 y19.2).bind fun (y20 : Int) => some ((y15 + y18), y20, (some x13.1), (some x13.2))) (s1.1.zip p1_numbers) ((0, 1).1, (0, 1).2, s10.2.2.2.2.1, s10.2.2.2.2.2)).bind fun (s12 : (Int × Int × (Option (List (Int × Int))) × (Option Int))) => (mulI s12.2.1 p2_under).bind fun (y21 : Int) => (modI s12.1 y21).bind fun (y22 : Int) => (if (decide (y22 = 0)) = true then ((mulI s12.2.1 p2_under).bind fun (y23 : Int) => (divI s12.1 y23).bind fun (y24 : Int) => some (some y24)) else (some none)).bind fun (y25 : (Option Int)) => if s10.1.length < line then (some ((s10.1 ++ [y25]), (some x11), (some s12.1), (some s12.2.1), s12.2.2.1, s12.2.2.2)) else none) (rngL 0 p4_many) ([], none, none, none, none, none)).bind fun (s10 : ((List (Option Int)) × (Option Int) × (Option Int) × (Option Int) × (Option (List (Int × Int))) × (Option Int))) => some s10.1) else none
set_option maxHeartbeats 1000000 in
theorem r_law_mixed_row (p0_rows : (List (PySem.Str × Int))) (p1_numbers : (List Int)) (p2_under : Int) (p3_is_plain : Bool) (p4_many : Int) (v : (List (Option Int))) (hv : g_law_mixed_row p0_rows p1_numbers p2_under p3_is_plain p4_many = some v) : f_law_mixed_row [((eL (e2 D.str D.int)) p0_rows, .mv), ((eL D.int) p1_numbers, .mv), (D.int p2_under, .sh), (D.bl p3_is_plain, .sh), (D.int p4_many, .sh)] = .ok ((fun (v : (List (Option Int))) => Tm.ow ((eL (eO D.int)) v)) v) ((fun (v : (List (Option Int))) => [none, none, none, none, none]) v) := by
  unfold g_law_mixed_row at hv
  refine def_ok (n := 15) (np := 5) rfl ?_
  show RtF 5 e_law_mixed_row [some ((eL (e2 D.str D.int)) p0_rows, .mv), some ((eL D.int) p1_numbers, .mv), some (D.int p2_under, .sh), some (D.bl p3_is_plain, .sh), some (D.int p4_many, .sh), none, none, none, none, none, none, none, none, none, none] _ _
  unfold e_law_mixed_row
  exact fn_seq (e' := [some ((eL (e2 D.str D.int)) p0_rows, .mv), some ((eL D.int) p1_numbers, .mv), some (D.int p2_under, .sh), some (D.bl p3_is_plain, .sh), some (D.int p4_many, .sh), some ((eL (eL (e2 D.int D.int))) [], .mv), none, none, none, none, none, none, none, none, none]) (set_o (i := 5) (lst_ok (d := (eL (eL (e2 D.int D.int))) ([] : (List (List (Int × Int))))) (e3 := [some ((eL (e2 D.str D.int)) p0_rows, .mv), some ((eL D.int) p1_numbers, .mv), some (D.int p2_under, .sh), some (D.bl p3_is_plain, .sh), some (D.int p4_many, .sh), none, none, none, none, none, none, none, none, none, none]) nil_ok rfl rfl rfl) rfl rfl rfl rfl) (bndE hv fun s1 hs1 hv => fn_seq (e' := [some ((eL (e2 D.str D.int)) p0_rows, .mv), some ((eL D.int) p1_numbers, .mv), some (D.int p2_under, .sh), some (D.bl p3_is_plain, .sh), some (D.int p4_many, .sh), some ((eL (eL (e2 D.int D.int))) s1.1, .mv), sO D.str .sh s1.2.1, sO D.int .sh s1.2.2.1, sO (eL (e2 D.int D.int)) .sh s1.2.2.2, none, none, none, none, none, none]) (nx_forK (i := 0) (m := (e2 D.str D.int)) (fl := .mv) (l := p0_rows) (e3 := [some ((eL (e2 D.str D.int)) p0_rows, .mv), some ((eL D.int) p1_numbers, .mv), some (D.int p2_under, .sh), some (D.bl p3_is_plain, .sh), some (D.int p4_many, .sh), some ((eL (eL (e2 D.int D.int))) s1.1, .mv), sO D.str .sh s1.2.1, sO D.int .sh s1.2.2.1, sO (eL (e2 D.int D.int)) .sh s1.2.2.2, none, none, none, none, none, none]) (P := fun (s1 : ((List (List (Int × Int))) × (Option PySem.Str) × (Option Int) × (Option (List (Int × Int))))) => [some (eH (), .ls), some ((eL D.int) p1_numbers, .mv), some (D.int p2_under, .sh), some (D.bl p3_is_plain, .sh), some (D.int p4_many, .sh), some ((eL (eL (e2 D.int D.int))) s1.1, .mv), sO D.str .sh s1.2.1, sO D.int .sh s1.2.2.1, sO (eL (e2 D.int D.int)) .sh s1.2.2.2, none, none, none, none, none, none]) (s := ([], none, none, none)) rfl rfl rfl hs1 (fun s1 x2 _ hv => ⟨[some (eH (), .ls), some ((eL D.int) p1_numbers, .mv), some (D.int p2_under, .sh), some (D.bl p3_is_plain, .sh), some (D.int p4_many, .sh), some ((eL (eL (e2 D.int D.int))) s1.1, .mv), some (D.str x2.1, .sh), some (D.int x2.2, .sh), sO (eL (e2 D.int D.int)) .sh s1.2.2.2, none, none, none, none, none, none], (gt_ok rfl (gsc_ok (gn_ok (i := 6) rfl unp_o rfl) (gsc_ok (gn_ok (i := 7) rfl unp_o rfl) gsn_ok))), bndE hv fun s5 hs5 hv => nx_seq (e' := [some (eH (), .ls), some ((eL D.int) p1_numbers, .mv), some (D.int p2_under, .sh), some (D.bl p3_is_plain, .sh), some (D.int p4_many, .sh), some ((eL (eL (e2 D.int D.int))) s1.1, .mv), some (D.str x2.1, .sh), some (D.int x2.2, .sh), some ((eL (e2 D.int D.int)) s5, .mv), none, none, none, none, none, none]) (ifE hs5 (fun hb hv => set_ift (e3 := [some (eH (), .ls), some ((eL D.int) p1_numbers, .mv), some (D.int p2_under, .sh), some (D.bl p3_is_plain, .sh), some (D.int p4_many, .sh), some ((eL (eL (e2 D.int D.int))) s1.1, .mv), some (D.str x2.1, .sh), some (D.int x2.2, .sh), some ((eL (e2 D.int D.int)) s5, .mv), none, none, none, none, none, none]) (tru_ok (v_ok rfl) rfl rfl) hb (bndE hv fun y6 hy6 hv => nx_end (P := fun (s5 : (List (Int × Int))) => [some (eH (), .ls), some ((eL D.int) p1_numbers, .mv), some (D.int p2_under, .sh), some (D.bl p3_is_plain, .sh), some (D.int p4_many, .sh), some ((eL (eL (e2 D.int D.int))) s1.1, .mv), some (D.str x2.1, .sh), some (D.int x2.2, .sh), some ((eL (e2 D.int D.int)) s5, .mv), none, none, none, none, none, none]) hv (set_o (i := 8) (call_ok (e3 := [some (eH (), .ls), some ((eL D.int) p1_numbers, .mv), some (D.int p2_under, .sh), some (D.bl p3_is_plain, .sh), some (D.int p4_many, .sh), some ((eL (eL (e2 D.int D.int))) s1.1, .mv), some (D.str x2.1, .sh), some (D.int x2.2, .sh), sO (eL (e2 D.int D.int)) .sh s1.2.2.2, none, none, none, none, none, none]) (as := [((e3 D.str D.str D.int) (("divisors" : PySem.Str), x2.1, x2.2), .sh), (D.int p4_many, .sh)]) (cons_ok (tup_ok (d := (e3 D.str D.str D.int) (("divisors" : PySem.Str), x2.1, x2.2)) (e3 := [some (eH (), .ls), some ((eL D.int) p1_numbers, .mv), some (D.int p2_under, .sh), some (D.bl p3_is_plain, .sh), some (D.int p4_many, .sh), some ((eL (eL (e2 D.int D.int))) s1.1, .mv), some (D.str x2.1, .sh), some (D.int x2.2, .sh), sO (eL (e2 D.int D.int)) .sh s1.2.2.2, none, none, none, none, none, none]) (cons_ok (k_ok _) (cons_ok (v_ok rfl) (cons_ok (v_ok rfl) nil_ok))) rfl rfl rfl) (cons_ok (v_ok rfl) nil_ok)) rfl rfl (r_plain_divisor_row (("divisors" : PySem.Str), x2.1, x2.2) p4_many y6 hy6) (by trivial) rfl) rfl rfl unp_o rfl))) (fun hb hv => set_iff (e3 := [some (eH (), .ls), some ((eL D.int) p1_numbers, .mv), some (D.int p2_under, .sh), some (D.bl p3_is_plain, .sh), some (D.int p4_many, .sh), some ((eL (eL (e2 D.int D.int))) s1.1, .mv), some (D.str x2.1, .sh), some (D.int x2.2, .sh), some ((eL (e2 D.int D.int)) s5, .mv), none, none, none, none, none, none]) (tru_ok (v_ok rfl) rfl rfl) hb (bndE hv fun y7 hy7 hv => nx_end (P := fun (s5 : (List (Int × Int))) => [some (eH (), .ls), some ((eL D.int) p1_numbers, .mv), some (D.int p2_under, .sh), some (D.bl p3_is_plain, .sh), some (D.int p4_many, .sh), some ((eL (eL (e2 D.int D.int))) s1.1, .mv), some (D.str x2.1, .sh), some (D.int x2.2, .sh), some ((eL (e2 D.int D.int)) s5, .mv), none, none, none, none, none, none]) hv (set_o (i := 8) (call_ok (e3 := [some (eH (), .ls), some ((eL D.int) p1_numbers, .mv), some (D.int p2_under, .sh), some (D.bl p3_is_plain, .sh), some (D.int p4_many, .sh), some ((eL (eL (e2 D.int D.int))) s1.1, .mv), some (D.str x2.1, .sh), some (D.int x2.2, .sh), sO (eL (e2 D.int D.int)) .sh s1.2.2.2, none, none, none, none, none, none]) (as := [((e3 D.str D.str D.int) (("divisors" : PySem.Str), x2.1, x2.2), .sh), (D.int p4_many, .sh)]) (cons_ok (tup_ok (d := (e3 D.str D.str D.int) (("divisors" : PySem.Str), x2.1, x2.2)) (e3 := [some (eH (), .ls), some ((eL D.int) p1_numbers, .mv), some (D.int p2_under, .sh), some (D.bl p3_is_plain, .sh), some (D.int p4_many, .sh), some ((eL (eL (e2 D.int D.int))) s1.1, .mv), some (D.str x2.1, .sh), some (D.int x2.2, .sh), sO (eL (e2 D.int D.int)) .sh s1.2.2.2, none, none, none, none, none, none]) (cons_ok (k_ok _) (cons_ok (v_ok rfl) (cons_ok (v_ok rfl) nil_ok))) rfl rfl rfl) (cons_ok (v_ok rfl) nil_ok)) rfl rfl (r_divisor_row (("divisors" : PySem.Str), x2.1, x2.2) p4_many y7 hy7) (by trivial) rfl) rfl rfl unp_o rfl)))) (gdE hv fun k8 hv => nx_end (P := fun (s1 : ((List (List (Int × Int))) × (Option PySem.Str) × (Option Int) × (Option (List (Int × Int))))) => [some (eH (), .ls), some ((eL D.int) p1_numbers, .mv), some (D.int p2_under, .sh), some (D.bl p3_is_plain, .sh), some (D.int p4_many, .sh), some ((eL (eL (e2 D.int D.int))) s1.1, .mv), sO D.str .sh s1.2.1, sO D.int .sh s1.2.2.1, sO (eL (e2 D.int D.int)) .sh s1.2.2.2, none, none, none, none, none, none]) hv (expr_ok (mutL_ok (i := 5) (e'' := [some (eH (), .ls), some ((eL D.int) p1_numbers, .mv), some (D.int p2_under, .sh), some (D.bl p3_is_plain, .sh), some (D.int p4_many, .sh), some ((eL (eL (e2 D.int D.int))) s1.1, .mv), some (D.str x2.1, .sh), some (D.int x2.2, .sh), some ((eL (e2 D.int D.int)) s5, .sh), none, none, none, none, none, none]) rfl (cons_ok (v_ok rfl) nil_ok) rfl rfl rfl (app_e (x := s5) rfl k8) rfl)))⟩) (unh_ok (cl_n rfl (cl_n rfl (cl_n rfl (cl_n rfl (cl_n rfl (cl_n rfl (cl_n pinS_o (cl_n pinS_o (cl_n pinS_o (cl_n rfl (cl_n rfl (cl_n rfl (cl_n rfl (cl_n rfl (cl_n rfl cl_nil))))))))))))))))) (fn_seq (e' := [some ((eL (e2 D.str D.int)) p0_rows, .mv), some ((eL D.int) p1_numbers, .mv), some (D.int p2_under, .sh), some (D.bl p3_is_plain, .sh), some (D.int p4_many, .sh), some ((eL (eL (e2 D.int D.int))) s1.1, .mv), sO D.str .sh s1.2.1, sO D.int .sh s1.2.2.1, sO (eL (e2 D.int D.int)) .sh s1.2.2.2, some ((eL (eO D.int)) [], .mv), none, none, none, none, none]) (set_o (i := 9) (lst_ok (d := (eL (eO D.int)) ([] : (List (Option Int)))) (e3 := [some ((eL (e2 D.str D.int)) p0_rows, .mv), some ((eL D.int) p1_numbers, .mv), some (D.int p2_under, .sh), some (D.bl p3_is_plain, .sh), some (D.int p4_many, .sh), some ((eL (eL (e2 D.int D.int))) s1.1, .mv), sO D.str .sh s1.2.1, sO D.int .sh s1.2.2.1, sO (eL (e2 D.int D.int)) .sh s1.2.2.2, none, none, none, none, none, none]) nil_ok rfl rfl rfl) rfl rfl rfl rfl) (gdE hv fun k9 hv => bndE hv fun s10 hs10 hv => fn_seq (e' := [some ((eL (e2 D.str D.int)) p0_rows, .mv), some ((eL D.int) p1_numbers, .sh), some (D.int p2_under, .sh), some (D.bl p3_is_plain, .sh), some (D.int p4_many, .sh), some ((eL (eL (e2 D.int D.int))) s1.1, .sh), sO D.str .sh s1.2.1, sO D.int .sh s1.2.2.1, sO (eL (e2 D.int D.int)) .sh s1.2.2.2, some ((eL (eO D.int)) s10.1, .mv), sO D.int .sh s10.2.1, sO D.int .sh s10.2.2.1, sO D.int .sh s10.2.2.2.1, sO (eL (e2 D.int D.int)) .sh s10.2.2.2.2.1, sO D.int .sh s10.2.2.2.2.2]) (lk_nx (i := 5) (e' := [some ((eL (e2 D.str D.int)) p0_rows, .mv), some ((eL D.int) p1_numbers, .mv), some (D.int p2_under, .sh), some (D.bl p3_is_plain, .sh), some (D.int p4_many, .sh), some ((eL (eL (e2 D.int D.int))) s1.1, .sh), sO D.str .sh s1.2.1, sO D.int .sh s1.2.2.1, sO (eL (e2 D.int D.int)) .sh s1.2.2.2, some ((eL (eO D.int)) [], .mv), none, none, none, none, none]) rfl (lk_nx (i := 1) (e' := [some ((eL (e2 D.str D.int)) p0_rows, .mv), some ((eL D.int) p1_numbers, .sh), some (D.int p2_under, .sh), some (D.bl p3_is_plain, .sh), some (D.int p4_many, .sh), some ((eL (eL (e2 D.int D.int))) s1.1, .sh), sO D.str .sh s1.2.1, sO D.int .sh s1.2.2.1, sO (eL (e2 D.int D.int)) .sh s1.2.2.2, some ((eL (eO D.int)) [], .mv), none, none, none, none, none]) rfl (nx_for (m := D.int) (P := fun (s10 : ((List (Option Int)) × (Option Int) × (Option Int) × (Option Int) × (Option (List (Int × Int))) × (Option Int))) => [some ((eL (e2 D.str D.int)) p0_rows, .mv), some ((eL D.int) p1_numbers, .sh), some (D.int p2_under, .sh), some (D.bl p3_is_plain, .sh), some (D.int p4_many, .sh), some ((eL (eL (e2 D.int D.int))) s1.1, .sh), sO D.str .sh s1.2.1, sO D.int .sh s1.2.2.1, sO (eL (e2 D.int D.int)) .sh s1.2.2.2, some ((eL (eO D.int)) s10.1, .mv), sO D.int .sh s10.2.1, sO D.int .sh s10.2.2.1, sO D.int .sh s10.2.2.2.1, sO (eL (e2 D.int D.int)) .sh s10.2.2.2.2.1, sO D.int .sh s10.2.2.2.2.2]) (s := ([], none, none, none, none, none)) (rng1_ok (v_ok rfl) rfl k9) rfl hs10 (fun s10 x11 _ hv => ⟨[some ((eL (e2 D.str D.int)) p0_rows, .mv), some ((eL D.int) p1_numbers, .sh), some (D.int p2_under, .sh), some (D.bl p3_is_plain, .sh), some (D.int p4_many, .sh), some ((eL (eL (e2 D.int D.int))) s1.1, .sh), sO D.str .sh s1.2.1, sO D.int .sh s1.2.2.1, sO (eL (e2 D.int D.int)) .sh s1.2.2.2, some ((eL (eO D.int)) s10.1, .mv), some (D.int x11, .sh), sO D.int .sh s10.2.2.1, sO D.int .sh s10.2.2.2.1, sO (eL (e2 D.int D.int)) .sh s10.2.2.2.2.1, sO D.int .sh s10.2.2.2.2.2], (gn_ok (i := 10) rfl unp_o rfl), nx_seq (e' := [some ((eL (e2 D.str D.int)) p0_rows, .mv), some ((eL D.int) p1_numbers, .sh), some (D.int p2_under, .sh), some (D.bl p3_is_plain, .sh), some (D.int p4_many, .sh), some ((eL (eL (e2 D.int D.int))) s1.1, .sh), sO D.str .sh s1.2.1, sO D.int .sh s1.2.2.1, sO (eL (e2 D.int D.int)) .sh s1.2.2.2, some ((eL (eO D.int)) s10.1, .mv), some (D.int x11, .sh), some (D.int (0, 1).1, .sh), some (D.int (0, 1).2, .sh), sO (eL (e2 D.int D.int)) .sh s10.2.2.2.2.1, sO D.int .sh s10.2.2.2.2.2]) (asg_ok (e'' := [some ((eL (e2 D.str D.int)) p0_rows, .mv), some ((eL D.int) p1_numbers, .sh), some (D.int p2_under, .sh), some (D.bl p3_is_plain, .sh), some (D.int p4_many, .sh), some ((eL (eL (e2 D.int D.int))) s1.1, .sh), sO D.str .sh s1.2.1, sO D.int .sh s1.2.2.1, sO (eL (e2 D.int D.int)) .sh s1.2.2.2, some ((eL (eO D.int)) s10.1, .mv), some (D.int x11, .sh), sO D.int .sh s10.2.2.1, sO D.int .sh s10.2.2.2.1, sO (eL (e2 D.int D.int)) .sh s10.2.2.2.2.1, sO D.int .sh s10.2.2.2.2.2]) (tup_ok (d := (e2 D.int D.int) (0, 1)) (e3 := [some ((eL (e2 D.str D.int)) p0_rows, .mv), some ((eL D.int) p1_numbers, .sh), some (D.int p2_under, .sh), some (D.bl p3_is_plain, .sh), some (D.int p4_many, .sh), some ((eL (eL (e2 D.int D.int))) s1.1, .sh), sO D.str .sh s1.2.1, sO D.int .sh s1.2.2.1, sO (eL (e2 D.int D.int)) .sh s1.2.2.2, some ((eL (eO D.int)) s10.1, .mv), some (D.int x11, .sh), sO D.int .sh s10.2.2.1, sO D.int .sh s10.2.2.2.1, sO (eL (e2 D.int D.int)) .sh s10.2.2.2.2.1, sO D.int .sh s10.2.2.2.2.2]) (cons_ok (k_ok _) (cons_ok (k_ok _) nil_ok)) rfl rfl rfl) rfl (gt_ok rfl (gsc_ok (gn_ok (i := 11) rfl unp_o rfl) (gsc_ok (gn_ok (i := 12) rfl unp_o rfl) gsn_ok)))) (bndE hv fun s12 hs12 hv => nx_seq (e' := [some ((eL (e2 D.str D.int)) p0_rows, .mv), some ((eL D.int) p1_numbers, .sh), some (D.int p2_under, .sh), some (D.bl p3_is_plain, .sh), some (D.int p4_many, .sh), some ((eL (eL (e2 D.int D.int))) s1.1, .sh), sO D.str .sh s1.2.1, sO D.int .sh s1.2.2.1, sO (eL (e2 D.int D.int)) .sh s1.2.2.2, some ((eL (eO D.int)) s10.1, .mv), some (D.int x11, .sh), some (D.int s12.1, .sh), some (D.int s12.2.1, .sh), sO (eL (e2 D.int D.int)) .sh s12.2.2.1, sO D.int .sh s12.2.2.2]) (nx_for (m := (e2 (eL (e2 D.int D.int)) D.int)) (P := fun (s12 : (Int × Int × (Option (List (Int × Int))) × (Option Int))) => [some ((eL (e2 D.str D.int)) p0_rows, .mv), some ((eL D.int) p1_numbers, .sh), some (D.int p2_under, .sh), some (D.bl p3_is_plain, .sh), some (D.int p4_many, .sh), some ((eL (eL (e2 D.int D.int))) s1.1, .sh), sO D.str .sh s1.2.1, sO D.int .sh s1.2.2.1, sO (eL (e2 D.int D.int)) .sh s1.2.2.2, some ((eL (eO D.int)) s10.1, .mv), some (D.int x11, .sh), some (D.int s12.1, .sh), some (D.int s12.2.1, .sh), sO (eL (e2 D.int D.int)) .sh s12.2.2.1, sO D.int .sh s12.2.2.2]) (s := ((0, 1).1, (0, 1).2, s10.2.2.2.2.1, s10.2.2.2.2.2)) (sh_ok (e'' := [some ((eL (e2 D.str D.int)) p0_rows, .mv), some ((eL D.int) p1_numbers, .sh), some (D.int p2_under, .sh), some (D.bl p3_is_plain, .sh), some (D.int p4_many, .sh), some ((eL (eL (e2 D.int D.int))) s1.1, .sh), sO D.str .sh s1.2.1, sO D.int .sh s1.2.2.1, sO (eL (e2 D.int D.int)) .sh s1.2.2.2, some ((eL (eO D.int)) s10.1, .mv), some (D.int x11, .sh), some (D.int (0, 1).1, .sh), some (D.int (0, 1).2, .sh), sO (eL (e2 D.int D.int)) .sh s10.2.2.2.2.1, sO D.int .sh s10.2.2.2.2.2]) (cons_ok (v_ok rfl) (cons_ok (v_ok rfl) nil_ok)) rfl zipM_LL) rfl hs12 (fun s12 x13 _ hv => ⟨[some ((eL (e2 D.str D.int)) p0_rows, .mv), some ((eL D.int) p1_numbers, .sh), some (D.int p2_under, .sh), some (D.bl p3_is_plain, .sh), some (D.int p4_many, .sh), some ((eL (eL (e2 D.int D.int))) s1.1, .sh), sO D.str .sh s1.2.1, sO D.int .sh s1.2.2.1, sO (eL (e2 D.int D.int)) .sh s1.2.2.2, some ((eL (eO D.int)) s10.1, .mv), some (D.int x11, .sh), some (D.int s12.1, .sh), some (D.int s12.2.1, .sh), some ((eL (e2 D.int D.int)) x13.1, .sh), some (D.int x13.2, .sh)], (gt_ok rfl (gsc_ok (gn_ok (i := 13) rfl unp_o rfl) (gsc_ok (gn_ok (i := 14) rfl unp_o rfl) gsn_ok))), bndE hv fun y14 hy14 hv => bndE hv fun y15 hy15 hv => bndE hv fun y16 hy16 hv => bndE hv fun y17 hy17 hv => bndE hv fun y18 hy18 hv => bndE hv fun y19 hy19 hv => bndE hv fun y20 hy20 hv => nx_end (P := fun (s12 : (Int × Int × (Option (List (Int × Int))) × (Option Int))) => [some ((eL (e2 D.str D.int)) p0_rows, .mv), some ((eL D.int) p1_numbers, .sh), some (D.int p2_under, .sh), some (D.bl p3_is_plain, .sh), some (D.int p4_many, .sh), some ((eL (eL (e2 D.int D.int))) s1.1, .sh), sO D.str .sh s1.2.1, sO D.int .sh s1.2.2.1, sO (eL (e2 D.int D.int)) .sh s1.2.2.2, some ((eL (eO D.int)) s10.1, .mv), some (D.int x11, .sh), some (D.int s12.1, .sh), some (D.int s12.2.1, .sh), sO (eL (e2 D.int D.int)) .sh s12.2.2.1, sO D.int .sh s12.2.2.2]) hv (par_ok (e3 := [some ((eL (e2 D.str D.int)) p0_rows, .mv), some ((eL D.int) p1_numbers, .sh), some (D.int p2_under, .sh), some (D.bl p3_is_plain, .sh), some (D.int p4_many, .sh), some ((eL (eL (e2 D.int D.int))) s1.1, .sh), sO D.str .sh s1.2.1, sO D.int .sh s1.2.2.1, sO (eL (e2 D.int D.int)) .sh s1.2.2.2, some ((eL (eO D.int)) s10.1, .mv), some (D.int x11, .sh), some (D.int (y15 + y18), .sh), some (D.int y20, .sh), some ((eL (e2 D.int D.int)) x13.1, .sh), some (D.int x13.2, .sh)]) (cons_ok (op2 (op2 (v_ok rfl) (op2 (op2 (v_ok rfl) (v_ok rfl) rfl rfl (ix_L hy14)) (k_ok _) rfl rfl rfl) rfl rfl (mul_I hy15)) (op2 (op2 (v_ok rfl) (op2 (op2 (v_ok rfl) (v_ok rfl) rfl rfl (ix_L hy16)) (k_ok _) rfl rfl rfl) rfl rfl (mul_I hy17)) (v_ok rfl) rfl rfl (mul_I hy18)) rfl rfl rfl) (cons_ok (op2 (v_ok rfl) (op2 (op2 (v_ok rfl) (v_ok rfl) rfl rfl (ix_L hy19)) (k_ok _) rfl rfl rfl) rfl rfl (mul_I hy20)) nil_ok)) rfl (st_cons rfl rfl rfl (st_cons rfl rfl rfl st_nil)))⟩)) (bndE hv fun y21 hy21 hv => bndE hv fun y22 hy22 hv => bndE hv fun y25 hy25 hv => gdE hv fun k26 hv => nx_end (P := fun (s10 : ((List (Option Int)) × (Option Int) × (Option Int) × (Option Int) × (Option (List (Int × Int))) × (Option Int))) => [some ((eL (e2 D.str D.int)) p0_rows, .mv), some ((eL D.int) p1_numbers, .sh), some (D.int p2_under, .sh), some (D.bl p3_is_plain, .sh), some (D.int p4_many, .sh), some ((eL (eL (e2 D.int D.int))) s1.1, .sh), sO D.str .sh s1.2.1, sO D.int .sh s1.2.2.1, sO (eL (e2 D.int D.int)) .sh s1.2.2.2, some ((eL (eO D.int)) s10.1, .mv), sO D.int .sh s10.2.1, sO D.int .sh s10.2.2.1, sO D.int .sh s10.2.2.2.1, sO (eL (e2 D.int D.int)) .sh s10.2.2.2.2.1, sO D.int .sh s10.2.2.2.2.2]) hv (expr_ok (mutL_ok (i := 9) (e'' := [some ((eL (e2 D.str D.int)) p0_rows, .mv), some ((eL D.int) p1_numbers, .sh), some (D.int p2_under, .sh), some (D.bl p3_is_plain, .sh), some (D.int p4_many, .sh), some ((eL (eL (e2 D.int D.int))) s1.1, .sh), sO D.str .sh s1.2.1, sO D.int .sh s1.2.2.1, sO (eL (e2 D.int D.int)) .sh s1.2.2.2, some ((eL (eO D.int)) s10.1, .mv), some (D.int x11, .sh), some (D.int s12.1, .sh), some (D.int s12.2.1, .sh), sO (eL (e2 D.int D.int)) .sh s12.2.2.1, sO D.int .sh s12.2.2.2]) rfl (cons_ok (ite_g (T := fun v => Tm.im ((eO D.int) v)) (truC_ok (op2 (op2 (v_ok rfl) (op2 (v_ok rfl) (v_ok rfl) rfl rfl (mul_I hy21)) rfl rfl (mod_I hy22)) (k_ok _) rfl rfl rfl)) hy25 (fun hv => bndE hv fun y23 hy23 hv => bndE hv fun y24 hy24 hv => val_end (T := fun v => Tm.im ((eO D.int) v)) hv (cv (op2 (v_ok rfl) (op2 (v_ok rfl) (v_ok rfl) rfl rfl (mul_I hy23)) rfl rfl (div_I hy24)) (t' := .im ((eO D.int) (some y24))) rfl)) (fun hv => val_end (T := fun v => Tm.im ((eO D.int) v)) hv (cv (k_ok _) (t' := .im ((eO D.int) none)) rfl))) nil_ok) rfl rfl rfl (app_e (x := y25) rfl k26) rfl))))⟩)))) (fn_end (T := (fun (v : (List (Option Int))) => Tm.ow ((eL (eO D.int)) v))) (Fi := (fun (v : (List (Option Int))) => [none, none, none, none, none])) hv (fn_ret (v_ok rfl) (e'' := [some ((eL (e2 D.str D.int)) p0_rows, .mv), some ((eL D.int) p1_numbers, .sh), some (D.int p2_under, .sh), some (D.bl p3_is_plain, .sh), some (D.int p4_many, .sh), some ((eL (eL (e2 D.int D.int))) s1.1, .sh), sO D.str .sh s1.2.1, sO D.int .sh s1.2.2.1, sO (eL (e2 D.int D.int)) .sh s1.2.2.2, none, sO D.int .sh s10.2.1, sO D.int .sh s10.2.2.1, sO D.int .sh s10.2.2.2.1, sO (eL (e2 D.int D.int)) .sh s10.2.2.2.2.1, sO D.int .sh s10.2.2.2.2.2]) rfl rfl)))))
def g_law_times (p0_row : (List Int)) (p1_other : (List Int)) : Option (List Int) := if b62 (p0_row.length : Int) = true then ((mapO (fun (x2 : Int) => if b62 (x2 + 1) = true then ((mapO (fun (x4 : Int) => (geti p0_row x4).bind fun (y5 : Int) => (geti p1_other (x2 - x4)).bind fun (y6 : Int) => (mulI y5 y6).bind fun (y7 : Int) => some y7) (rngL 0 (x2 + 1))).bind fun (y8 : (List Int)) => if (rngL 0 (x2 + 1)).length ≤ line then (some y8.sum) else none) else none) (rngL 0 (p0_row.length : Int))).bind fun (y10 : (List Int)) => if (rngL 0 (p0_row.length : Int)).length ≤ line then (some y10) else none) else none
set_option maxHeartbeats 1000000 in
theorem r_law_times (p0_row : (List Int)) (p1_other : (List Int)) (v : (List Int)) (hv : g_law_times p0_row p1_other = some v) : f_law_times [((eL D.int) p0_row, .sh), ((eL D.int) p1_other, .sh)] = .ok ((fun (v : (List Int)) => Tm.ow ((eL D.int) v)) v) ((fun (v : (List Int)) => [none, none]) v) := by
  unfold g_law_times at hv
  refine def_ok (n := 4) (np := 2) rfl ?_
  show RtF 2 e_law_times [some ((eL D.int) p0_row, .sh), some ((eL D.int) p1_other, .sh), none, none] _ _
  unfold e_law_times
  exact gdE hv fun k1 hv => bndE hv fun y10 hy10 hv => gdE hv fun k11 hv => fn_end (T := (fun (v : (List Int)) => Tm.ow ((eL D.int) v))) (Fi := (fun (v : (List Int)) => [none, none])) hv (fn_ret (lc_m (w := [some ((eL D.int) p0_row, .sh), some ((eL D.int) p1_other, .sh), none, none]) (e3 := [some ((eL D.int) p0_row, .sh), some ((eL D.int) p1_other, .sh), none, none]) (m := D.int) (m' := D.int) (rng1_ok (op1 (v_ok rfl) rfl len_L) rfl k1) rfl rfl hy10 k11 (fun x2 _ hv => gdE hv fun k3 hv => bndE hv fun y8 hy8 hv => gdE hv fun k9 hv => lcm_end (m' := D.int) hv ⟨_, _, _, _, _, (gn_ok (i := 2) rfl rfl rfl), (op1 (lc_m (w := [some ((eL D.int) p0_row, .sh), some ((eL D.int) p1_other, .sh), some (D.int x2, .sh), none]) (e3 := [some ((eL D.int) p0_row, .sh), some ((eL D.int) p1_other, .sh), some (D.int x2, .sh), none]) (m := D.int) (m' := D.int) (rng1_ok (op2 (v_ok rfl) (k_ok _) rfl rfl rfl) rfl k3) rfl rfl hy8 k9 (fun x4 _ hv => bndE hv fun y5 hy5 hv => bndE hv fun y6 hy6 hv => bndE hv fun y7 hy7 hv => lcm_end (m' := D.int) hv ⟨_, _, _, _, _, (gn_ok (i := 3) rfl rfl rfl), (op2 (op2 (v_ok rfl) (v_ok rfl) rfl rfl (ix_L hy5)) (op2 (v_ok rfl) (op2 (v_ok rfl) (v_ok rfl) rfl rfl rfl) rfl rfl (ix_L hy6)) rfl rfl (mul_I hy7)), rfl, rfl, rfl⟩) rfl) rfl sumA_L), rfl, rfl, rfl⟩) rfl) (e'' := [some ((eL D.int) p0_row, .sh), some ((eL D.int) p1_other, .sh), none, none]) rfl rfl)
def g_law_right (p0_pot_here : (List Int)) : Option Bool := (g_law_draw p0_pot_here 5).bind fun (y1 : (Int × (List Int))) => (g_law_draw y1.2 14).bind fun (y2 : (Int × (List Int))) => (g_law_draw y2.2 2).bind fun (y3 : (Int × (List Int))) => (g_law_two (2 + y2.1) (decide (y1.1 > 2))).bind fun (y4 : (List Int)) => if (decide (y1.1 = 0)) = true then ((g_law_mixed_row [(("quarter" : PySem.Str), 1)] [1] 1 (decide (y3.1 = 0)) (2 + y2.1)).bind fun (y5 : (List (Option Int))) => (eqO ((eL (eO D.int)) y5) ((eL D.int) y4)).bind fun (y6 : Bool) => if y6 = true then (some true) else none) else (if (decide (y1.1 = 1)) = true then ((g_law_mixed_row [(("two" : PySem.Str), 4)] [1] 1 (decide (y3.1 = 0)) (2 + y2.1)).bind fun (y8 : (List (Option Int))) => (g_law_times y4 y4).bind fun (y9 : (List Int)) => (eqO ((eL (eO D.int)) y8) ((eL D.int) y9)).bind fun (y10 : Bool) => if y10 = true then (some true) else none) else (if (decide (y1.1 = 2)) = true then ((g_law_times y4 y4).bind fun (y12 : (List Int)) => (g_law_mixed_row [(("four" : PySem.Str), 1), (("four" : PySem.Str), 2), (("four" : PySem.Str), 4)] [1, (-2), 16] 15 (decide (y3.1 = 0)) (2 + y2.1)).bind fun (y13 : (List (Option Int))) => (g_law_times y12 y12).bind fun (y14 : (List Int)) => (eqO ((eL (eO D.int)) y13) ((eL D.int) y14)).bind fun (y15 : Bool) => if y15 = true then (some true) else none) else (if (decide (y1.1 = 3)) = true then ((g_law_mixed_row [(("third" : PySem.Str), 1)] [1] 1 (decide (y3.1 = 0)) (2 + y2.1)).bind fun (y17 : (List (Option Int))) => (eqO ((eL (eO D.int)) y17) ((eL D.int) y4)).bind fun (y18 : Bool) => if y18 = true then (some true) else none) else ((g_law_mixed_row [(("two" : PySem.Str), 3)] [1] 1 (decide (y3.1 = 0)) (2 + y2.1)).bind fun (y20 : (List (Option Int))) => (g_law_times y4 y4).bind fun (y21 : (List Int)) => (eqO ((eL (eO D.int)) y20) ((eL D.int) y21)).bind fun (y22 : Bool) => if y22 = true then (some true) else none))))
set_option maxHeartbeats 1000000 in
theorem r_law_right (p0_pot_here : (List Int)) (v : Bool) (hv : g_law_right p0_pot_here = some v) : f_law_right [((eL D.int) p0_pot_here, .mv)] = .ok ((fun (v : Bool) => Tm.im (D.bl v)) v) ((fun (v : Bool) => [none]) v) := by
  unfold g_law_right at hv
  refine def_ok (n := 7) (np := 1) rfl ?_
  show RtF 1 e_law_right [some ((eL D.int) p0_pot_here, .mv), none, none, none, none, none, none] _ _
  unfold e_law_right
  exact bndE hv fun y1 hy1 hv => bndE hv fun y2 hy2 hv => bndE hv fun y3 hy3 hv => fn_seq (e' := [some ((eL D.int) y3.2, .mv), some (D.int y1.1, .sh), some (D.int (2 + y2.1), .sh), some (D.bl (decide (y3.1 = 0)), .sh), none, none, none]) (par_ok (e3 := [some ((eL D.int) y3.2, .mv), some (D.int y1.1, .sh), some (D.int (2 + y2.1), .sh), some (D.bl (decide (y3.1 = 0)), .sh), none, none, none]) (cons_ok (call_ok (e3 := [some ((eL D.int) y1.2, .mv), none, none, none, none, none, none]) (as := [((eL D.int) p0_pot_here, .lt), (D.int 5, .sh)]) (cons_ok (v_ok rfl) (cons_ok (k_ok _) nil_ok)) rfl rfl (r_law_draw p0_pot_here 5 y1 hy1) (by trivial) rfl) (cons_ok (op2 (k_ok _) (call_ok (e3 := [some ((eL D.int) y2.2, .mv), none, none, none, none, none, none]) (as := [((eL D.int) y1.2, .lt), (D.int 14, .sh)]) (cons_ok (v_ok rfl) (cons_ok (k_ok _) nil_ok)) rfl rfl (r_law_draw y1.2 14 y2 hy2) (by trivial) rfl) rfl rfl rfl) (cons_ok (op2 (call_ok (e3 := [some ((eL D.int) y3.2, .mv), none, none, none, none, none, none]) (as := [((eL D.int) y2.2, .lt), (D.int 2, .sh)]) (cons_ok (v_ok rfl) (cons_ok (k_ok _) nil_ok)) rfl rfl (r_law_draw y2.2 2 y3 hy3) (by trivial) rfl) (k_ok _) rfl rfl rfl) nil_ok))) rfl (st_cons rfl rfl rfl (st_cons rfl rfl rfl (st_cons rfl rfl rfl st_nil)))) (bndE hv fun y4 hy4 hv => fn_seq (e' := [some ((eL D.int) y3.2, .mv), some (D.int y1.1, .sh), some (D.int (2 + y2.1), .sh), some (D.bl (decide (y3.1 = 0)), .sh), some ((eL D.int) y4, .sh), none, none]) (la_nx (i := 4) (e' := [some ((eL D.int) y3.2, .mv), some (D.int y1.1, .sh), some (D.int (2 + y2.1), .sh), some (D.bl (decide (y3.1 = 0)), .sh), some ((eL D.int) y4, .sh), none, none]) (set_o (i := 4) (call_ok (e3 := [some ((eL D.int) y3.2, .mv), some (D.int y1.1, .sh), some (D.int (2 + y2.1), .sh), some (D.bl (decide (y3.1 = 0)), .sh), none, none, none]) (as := [(D.int (2 + y2.1), .sh), (D.bl (decide (y1.1 > 2)), .sh)]) (cons_ok (v_ok rfl) (cons_ok (op2 (v_ok rfl) (k_ok _) rfl rfl rfl) nil_ok)) rfl rfl (r_law_two (2 + y2.1) (decide (y1.1 > 2)) y4 hy4) (by trivial) rfl) rfl rfl rfl rfl) rfl) (ifE hv (fun hb hv => fn_rets (fn_ift (truC_ok (op2 (v_ok rfl) (k_ok _) rfl rfl rfl)) hb (bndE hv fun y5 hy5 hv => bndE hv fun y6 hy6 hv => gdE hv fun k7 hv => fn_end (T := (fun (v : Bool) => Tm.im (D.bl v))) (Fi := (fun (v : Bool) => [none])) hv (fn_ret (bl_t (op2 (ta := .ow ((eL (eO D.int)) y5)) (call_ok (e3 := [some ((eL D.int) y3.2, .mv), some (D.int y1.1, .sh), some (D.int (2 + y2.1), .sh), some (D.bl (decide (y3.1 = 0)), .sh), some ((eL D.int) y4, .sh), none, none]) (as := [((eL (e2 D.str D.int)) [(("quarter" : PySem.Str), 1)], .mv), ((eL D.int) [1], .mv), (D.int 1, .sh), (D.bl (decide (y3.1 = 0)), .sh), (D.int (2 + y2.1), .sh)]) (cons_ok (lst_ok (d := (eL (e2 D.str D.int)) ([(("quarter" : PySem.Str), 1)] : (List (PySem.Str × Int)))) (e3 := [some ((eL D.int) y3.2, .mv), some (D.int y1.1, .sh), some (D.int (2 + y2.1), .sh), some (D.bl (decide (y3.1 = 0)), .sh), some ((eL D.int) y4, .sh), none, none]) (cons_ok (tup_ok (d := (e2 D.str D.int) (("quarter" : PySem.Str), 1)) (e3 := [some ((eL D.int) y3.2, .mv), some (D.int y1.1, .sh), some (D.int (2 + y2.1), .sh), some (D.bl (decide (y3.1 = 0)), .sh), some ((eL D.int) y4, .sh), none, none]) (cons_ok (k_ok _) (cons_ok (k_ok _) nil_ok)) rfl rfl rfl) nil_ok) rfl rfl rfl) (cons_ok (lst_ok (d := (eL D.int) ([1] : (List Int))) (e3 := [some ((eL D.int) y3.2, .mv), some (D.int y1.1, .sh), some (D.int (2 + y2.1), .sh), some (D.bl (decide (y3.1 = 0)), .sh), some ((eL D.int) y4, .sh), none, none]) (cons_ok (k_ok _) nil_ok) rfl rfl rfl) (cons_ok (k_ok _) (cons_ok (v_ok rfl) (cons_ok (v_ok rfl) nil_ok))))) rfl rfl (r_law_mixed_row [(("quarter" : PySem.Str), 1)] [1] 1 (decide (y3.1 = 0)) (2 + y2.1) y5 hy5) (by trivial) rfl) (v_ok rfl) rfl rfl (eq_G hy6)) k7) (e'' := [some ((eL D.int) y3.2, .mv), some (D.int y1.1, .sh), some (D.int (2 + y2.1), .sh), some (D.bl (decide (y3.1 = 0)), .sh), some ((eL D.int) y4, .sh), none, none]) rfl rfl)))) (fun hb hv => fn_ifn (truC_ok (op2 (v_ok rfl) (k_ok _) rfl rfl rfl)) hb skip_ok (ifE hv (fun hb hv => fn_rets (fn_ift (truC_ok (op2 (v_ok rfl) (k_ok _) rfl rfl rfl)) hb (bndE hv fun y8 hy8 hv => bndE hv fun y9 hy9 hv => bndE hv fun y10 hy10 hv => gdE hv fun k11 hv => fn_end (T := (fun (v : Bool) => Tm.im (D.bl v))) (Fi := (fun (v : Bool) => [none])) hv (fn_ret (bl_t (op2 (ta := .ow ((eL (eO D.int)) y8)) (tb := .ow ((eL D.int) y9)) (call_ok (e3 := [some ((eL D.int) y3.2, .mv), some (D.int y1.1, .sh), some (D.int (2 + y2.1), .sh), some (D.bl (decide (y3.1 = 0)), .sh), some ((eL D.int) y4, .sh), none, none]) (as := [((eL (e2 D.str D.int)) [(("two" : PySem.Str), 4)], .mv), ((eL D.int) [1], .mv), (D.int 1, .sh), (D.bl (decide (y3.1 = 0)), .sh), (D.int (2 + y2.1), .sh)]) (cons_ok (lst_ok (d := (eL (e2 D.str D.int)) ([(("two" : PySem.Str), 4)] : (List (PySem.Str × Int)))) (e3 := [some ((eL D.int) y3.2, .mv), some (D.int y1.1, .sh), some (D.int (2 + y2.1), .sh), some (D.bl (decide (y3.1 = 0)), .sh), some ((eL D.int) y4, .sh), none, none]) (cons_ok (tup_ok (d := (e2 D.str D.int) (("two" : PySem.Str), 4)) (e3 := [some ((eL D.int) y3.2, .mv), some (D.int y1.1, .sh), some (D.int (2 + y2.1), .sh), some (D.bl (decide (y3.1 = 0)), .sh), some ((eL D.int) y4, .sh), none, none]) (cons_ok (k_ok _) (cons_ok (k_ok _) nil_ok)) rfl rfl rfl) nil_ok) rfl rfl rfl) (cons_ok (lst_ok (d := (eL D.int) ([1] : (List Int))) (e3 := [some ((eL D.int) y3.2, .mv), some (D.int y1.1, .sh), some (D.int (2 + y2.1), .sh), some (D.bl (decide (y3.1 = 0)), .sh), some ((eL D.int) y4, .sh), none, none]) (cons_ok (k_ok _) nil_ok) rfl rfl rfl) (cons_ok (k_ok _) (cons_ok (v_ok rfl) (cons_ok (v_ok rfl) nil_ok))))) rfl rfl (r_law_mixed_row [(("two" : PySem.Str), 4)] [1] 1 (decide (y3.1 = 0)) (2 + y2.1) y8 hy8) (by trivial) rfl) (call_ok (e3 := [some ((eL D.int) y3.2, .mv), some (D.int y1.1, .sh), some (D.int (2 + y2.1), .sh), some (D.bl (decide (y3.1 = 0)), .sh), some ((eL D.int) y4, .sh), none, none]) (as := [((eL D.int) y4, .sh), ((eL D.int) y4, .sh)]) (cons_ok (v_ok rfl) (cons_ok (v_ok rfl) nil_ok)) rfl rfl (r_law_times y4 y4 y9 hy9) (by trivial) rfl) rfl rfl (eq_G hy10)) k11) (e'' := [some ((eL D.int) y3.2, .mv), some (D.int y1.1, .sh), some (D.int (2 + y2.1), .sh), some (D.bl (decide (y3.1 = 0)), .sh), some ((eL D.int) y4, .sh), none, none]) rfl rfl)))) (fun hb hv => fn_ifn (truC_ok (op2 (v_ok rfl) (k_ok _) rfl rfl rfl)) hb skip_ok (ifE hv (fun hb hv => fn_rets (fn_ift (truC_ok (op2 (v_ok rfl) (k_ok _) rfl rfl rfl)) hb (bndE hv fun y12 hy12 hv => fn_seq (e' := [some ((eL D.int) y3.2, .mv), some (D.int y1.1, .sh), some (D.int (2 + y2.1), .sh), some (D.bl (decide (y3.1 = 0)), .sh), some ((eL D.int) y4, .sh), some ((eL D.int) y12, .sh), none]) (la_nx (i := 5) (e' := [some ((eL D.int) y3.2, .mv), some (D.int y1.1, .sh), some (D.int (2 + y2.1), .sh), some (D.bl (decide (y3.1 = 0)), .sh), some ((eL D.int) y4, .sh), some ((eL D.int) y12, .sh), none]) (set_o (i := 5) (call_ok (e3 := [some ((eL D.int) y3.2, .mv), some (D.int y1.1, .sh), some (D.int (2 + y2.1), .sh), some (D.bl (decide (y3.1 = 0)), .sh), some ((eL D.int) y4, .sh), none, none]) (as := [((eL D.int) y4, .sh), ((eL D.int) y4, .sh)]) (cons_ok (v_ok rfl) (cons_ok (v_ok rfl) nil_ok)) rfl rfl (r_law_times y4 y4 y12 hy12) (by trivial) rfl) rfl rfl rfl rfl) rfl) (bndE hv fun y13 hy13 hv => fn_seq (e' := [some ((eL D.int) y3.2, .mv), some (D.int y1.1, .sh), some (D.int (2 + y2.1), .sh), some (D.bl (decide (y3.1 = 0)), .sh), some ((eL D.int) y4, .sh), some ((eL D.int) y12, .sh), some ((eL (eO D.int)) y13, .mv)]) (set_o (i := 6) (call_ok (e3 := [some ((eL D.int) y3.2, .mv), some (D.int y1.1, .sh), some (D.int (2 + y2.1), .sh), some (D.bl (decide (y3.1 = 0)), .sh), some ((eL D.int) y4, .sh), some ((eL D.int) y12, .sh), none]) (as := [((eL (e2 D.str D.int)) [(("four" : PySem.Str), 1), (("four" : PySem.Str), 2), (("four" : PySem.Str), 4)], .mv), ((eL D.int) [1, (-2), 16], .mv), (D.int 15, .sh), (D.bl (decide (y3.1 = 0)), .sh), (D.int (2 + y2.1), .sh)]) (cons_ok (lst_ok (d := (eL (e2 D.str D.int)) ([(("four" : PySem.Str), 1), (("four" : PySem.Str), 2), (("four" : PySem.Str), 4)] : (List (PySem.Str × Int)))) (e3 := [some ((eL D.int) y3.2, .mv), some (D.int y1.1, .sh), some (D.int (2 + y2.1), .sh), some (D.bl (decide (y3.1 = 0)), .sh), some ((eL D.int) y4, .sh), some ((eL D.int) y12, .sh), none]) (cons_ok (tup_ok (d := (e2 D.str D.int) (("four" : PySem.Str), 1)) (e3 := [some ((eL D.int) y3.2, .mv), some (D.int y1.1, .sh), some (D.int (2 + y2.1), .sh), some (D.bl (decide (y3.1 = 0)), .sh), some ((eL D.int) y4, .sh), some ((eL D.int) y12, .sh), none]) (cons_ok (k_ok _) (cons_ok (k_ok _) nil_ok)) rfl rfl rfl) (cons_ok (tup_ok (d := (e2 D.str D.int) (("four" : PySem.Str), 2)) (e3 := [some ((eL D.int) y3.2, .mv), some (D.int y1.1, .sh), some (D.int (2 + y2.1), .sh), some (D.bl (decide (y3.1 = 0)), .sh), some ((eL D.int) y4, .sh), some ((eL D.int) y12, .sh), none]) (cons_ok (k_ok _) (cons_ok (k_ok _) nil_ok)) rfl rfl rfl) (cons_ok (tup_ok (d := (e2 D.str D.int) (("four" : PySem.Str), 4)) (e3 := [some ((eL D.int) y3.2, .mv), some (D.int y1.1, .sh), some (D.int (2 + y2.1), .sh), some (D.bl (decide (y3.1 = 0)), .sh), some ((eL D.int) y4, .sh), some ((eL D.int) y12, .sh), none]) (cons_ok (k_ok _) (cons_ok (k_ok _) nil_ok)) rfl rfl rfl) nil_ok))) rfl rfl rfl) (cons_ok (lst_ok (d := (eL D.int) ([1, (-2), 16] : (List Int))) (e3 := [some ((eL D.int) y3.2, .mv), some (D.int y1.1, .sh), some (D.int (2 + y2.1), .sh), some (D.bl (decide (y3.1 = 0)), .sh), some ((eL D.int) y4, .sh), some ((eL D.int) y12, .sh), none]) (cons_ok (k_ok _) (cons_ok (op1 (k_ok _) rfl rfl) (cons_ok (k_ok _) nil_ok))) rfl rfl rfl) (cons_ok (k_ok _) (cons_ok (v_ok rfl) (cons_ok (v_ok rfl) nil_ok))))) rfl rfl (r_law_mixed_row [(("four" : PySem.Str), 1), (("four" : PySem.Str), 2), (("four" : PySem.Str), 4)] [1, (-2), 16] 15 (decide (y3.1 = 0)) (2 + y2.1) y13 hy13) (by trivial) rfl) rfl rfl rfl rfl) (bndE hv fun y14 hy14 hv => bndE hv fun y15 hy15 hv => gdE hv fun k16 hv => fn_end (T := (fun (v : Bool) => Tm.im (D.bl v))) (Fi := (fun (v : Bool) => [none])) hv (fn_ret (bl_t (op2 (tb := .ow ((eL D.int) y14)) (v_ok rfl) (call_ok (e3 := [some ((eL D.int) y3.2, .mv), some (D.int y1.1, .sh), some (D.int (2 + y2.1), .sh), some (D.bl (decide (y3.1 = 0)), .sh), some ((eL D.int) y4, .sh), some ((eL D.int) y12, .sh), some ((eL (eO D.int)) y13, .mv)]) (as := [((eL D.int) y12, .sh), ((eL D.int) y12, .sh)]) (cons_ok (v_ok rfl) (cons_ok (v_ok rfl) nil_ok)) rfl rfl (r_law_times y12 y12 y14 hy14) (by trivial) rfl) rfl rfl (eq_G hy15)) k16) (e'' := [some ((eL D.int) y3.2, .mv), some (D.int y1.1, .sh), some (D.int (2 + y2.1), .sh), some (D.bl (decide (y3.1 = 0)), .sh), some ((eL D.int) y4, .sh), some ((eL D.int) y12, .sh), some ((eL (eO D.int)) y13, .mv)]) rfl rfl)))))) (fun hb hv => fn_ifn (truC_ok (op2 (v_ok rfl) (k_ok _) rfl rfl rfl)) hb skip_ok (ifE hv (fun hb hv => fn_rets (fn_ift (truC_ok (op2 (v_ok rfl) (k_ok _) rfl rfl rfl)) hb (bndE hv fun y17 hy17 hv => bndE hv fun y18 hy18 hv => gdE hv fun k19 hv => fn_end (T := (fun (v : Bool) => Tm.im (D.bl v))) (Fi := (fun (v : Bool) => [none])) hv (fn_ret (bl_t (op2 (ta := .ow ((eL (eO D.int)) y17)) (call_ok (e3 := [some ((eL D.int) y3.2, .mv), some (D.int y1.1, .sh), some (D.int (2 + y2.1), .sh), some (D.bl (decide (y3.1 = 0)), .sh), some ((eL D.int) y4, .sh), none, none]) (as := [((eL (e2 D.str D.int)) [(("third" : PySem.Str), 1)], .mv), ((eL D.int) [1], .mv), (D.int 1, .sh), (D.bl (decide (y3.1 = 0)), .sh), (D.int (2 + y2.1), .sh)]) (cons_ok (lst_ok (d := (eL (e2 D.str D.int)) ([(("third" : PySem.Str), 1)] : (List (PySem.Str × Int)))) (e3 := [some ((eL D.int) y3.2, .mv), some (D.int y1.1, .sh), some (D.int (2 + y2.1), .sh), some (D.bl (decide (y3.1 = 0)), .sh), some ((eL D.int) y4, .sh), none, none]) (cons_ok (tup_ok (d := (e2 D.str D.int) (("third" : PySem.Str), 1)) (e3 := [some ((eL D.int) y3.2, .mv), some (D.int y1.1, .sh), some (D.int (2 + y2.1), .sh), some (D.bl (decide (y3.1 = 0)), .sh), some ((eL D.int) y4, .sh), none, none]) (cons_ok (k_ok _) (cons_ok (k_ok _) nil_ok)) rfl rfl rfl) nil_ok) rfl rfl rfl) (cons_ok (lst_ok (d := (eL D.int) ([1] : (List Int))) (e3 := [some ((eL D.int) y3.2, .mv), some (D.int y1.1, .sh), some (D.int (2 + y2.1), .sh), some (D.bl (decide (y3.1 = 0)), .sh), some ((eL D.int) y4, .sh), none, none]) (cons_ok (k_ok _) nil_ok) rfl rfl rfl) (cons_ok (k_ok _) (cons_ok (v_ok rfl) (cons_ok (v_ok rfl) nil_ok))))) rfl rfl (r_law_mixed_row [(("third" : PySem.Str), 1)] [1] 1 (decide (y3.1 = 0)) (2 + y2.1) y17 hy17) (by trivial) rfl) (v_ok rfl) rfl rfl (eq_G hy18)) k19) (e'' := [some ((eL D.int) y3.2, .mv), some (D.int y1.1, .sh), some (D.int (2 + y2.1), .sh), some (D.bl (decide (y3.1 = 0)), .sh), some ((eL D.int) y4, .sh), none, none]) rfl rfl)))) (fun hb hv => fn_ifn (truC_ok (op2 (v_ok rfl) (k_ok _) rfl rfl rfl)) hb skip_ok (bndE hv fun y20 hy20 hv => bndE hv fun y21 hy21 hv => bndE hv fun y22 hy22 hv => gdE hv fun k23 hv => fn_end (T := (fun (v : Bool) => Tm.im (D.bl v))) (Fi := (fun (v : Bool) => [none])) hv (fn_ret (bl_t (op2 (ta := .ow ((eL (eO D.int)) y20)) (tb := .ow ((eL D.int) y21)) (call_ok (e3 := [some ((eL D.int) y3.2, .mv), some (D.int y1.1, .sh), some (D.int (2 + y2.1), .sh), some (D.bl (decide (y3.1 = 0)), .sh), some ((eL D.int) y4, .sh), none, none]) (as := [((eL (e2 D.str D.int)) [(("two" : PySem.Str), 3)], .mv), ((eL D.int) [1], .mv), (D.int 1, .sh), (D.bl (decide (y3.1 = 0)), .sh), (D.int (2 + y2.1), .sh)]) (cons_ok (lst_ok (d := (eL (e2 D.str D.int)) ([(("two" : PySem.Str), 3)] : (List (PySem.Str × Int)))) (e3 := [some ((eL D.int) y3.2, .mv), some (D.int y1.1, .sh), some (D.int (2 + y2.1), .sh), some (D.bl (decide (y3.1 = 0)), .sh), some ((eL D.int) y4, .sh), none, none]) (cons_ok (tup_ok (d := (e2 D.str D.int) (("two" : PySem.Str), 3)) (e3 := [some ((eL D.int) y3.2, .mv), some (D.int y1.1, .sh), some (D.int (2 + y2.1), .sh), some (D.bl (decide (y3.1 = 0)), .sh), some ((eL D.int) y4, .sh), none, none]) (cons_ok (k_ok _) (cons_ok (k_ok _) nil_ok)) rfl rfl rfl) nil_ok) rfl rfl rfl) (cons_ok (lst_ok (d := (eL D.int) ([1] : (List Int))) (e3 := [some ((eL D.int) y3.2, .mv), some (D.int y1.1, .sh), some (D.int (2 + y2.1), .sh), some (D.bl (decide (y3.1 = 0)), .sh), some ((eL D.int) y4, .sh), none, none]) (cons_ok (k_ok _) nil_ok) rfl rfl rfl) (cons_ok (k_ok _) (cons_ok (v_ok rfl) (cons_ok (v_ok rfl) nil_ok))))) rfl rfl (r_law_mixed_row [(("two" : PySem.Str), 3)] [1] 1 (decide (y3.1 = 0)) (2 + y2.1) y20 hy20) (by trivial) rfl) (call_ok (e3 := [some ((eL D.int) y3.2, .mv), some (D.int y1.1, .sh), some (D.int (2 + y2.1), .sh), some (D.bl (decide (y3.1 = 0)), .sh), some ((eL D.int) y4, .sh), none, none]) (as := [((eL D.int) y4, .sh), ((eL D.int) y4, .sh)]) (cons_ok (v_ok rfl) (cons_ok (v_ok rfl) nil_ok)) rfl rfl (r_law_times y4 y4 y21 hy21) (by trivial) rfl) rfl rfl (eq_G hy22)) k23) (e'' := [some ((eL D.int) y3.2, .mv), some (D.int y1.1, .sh), some (D.int (2 + y2.1), .sh), some (D.bl (decide (y3.1 = 0)), .sh), some ((eL D.int) y4, .sh), none, none]) rfl rfl)))))))))))
def g_law (p0_script : (List Int)) : Option Bool := (g_law_pot p0_script 0).bind fun (y1 : (List Int)) => (g_law_right y1).bind fun (y2 : Bool) => if y2 = true then (some true) else none
set_option maxHeartbeats 1000000 in
theorem r_law (p0_script : (List Int)) (v : Bool) (hv : g_law p0_script = some v) : f_law [(eSc p0_script, .sh)] = .ok ((fun (v : Bool) => Tm.im (D.bl v)) v) ((fun (v : Bool) => [none]) v) := by
  unfold g_law at hv
  refine def_ok (n := 1) (np := 1) rfl ?_
  show RtF 1 e_law [some (eSc p0_script, .sh)] _ _
  unfold e_law
  exact bndE hv fun y1 hy1 hv => bndE hv fun y2 hy2 hv => gdE hv fun k3 hv => fn_end (T := (fun (v : Bool) => Tm.im (D.bl v))) (Fi := (fun (v : Bool) => [none])) hv (fn_ret (bl_t (call_ok (e3 := [some (eSc p0_script, .sh)]) (as := [((eL D.int) y1, .mv)]) (cons_ok (call_ok (e3 := [some (eSc p0_script, .sh)]) (as := [(eSc p0_script, .sh), (D.int 0, .sh)]) (cons_ok (v_ok rfl) (cons_ok (k_ok _) nil_ok)) rfl rfl (r_law_pot p0_script 0 y1 hy1) (by trivial) rfl) nil_ok) rfl rfl (r_law_right y1 y2 hy2) (by trivial) rfl) k3) (e'' := [some (eSc p0_script, .sh)]) rfl rfl)
end Pf
set_option maxRecDepth 100000
namespace Pf
open PySem L2 L2.Py
def tl (a b c : Int) : Option Bool := (g_law_two (2 + b) (decide (a > 2))).bind fun (y4 : (List Int)) => if (decide (a = 0)) = true then ((g_law_mixed_row [(("quarter" : PySem.Str), 1)] [1] 1 (decide (c = 0)) (2 + b)).bind fun (y5 : (List (Option Int))) => (eqO ((eL (eO D.int)) y5) ((eL D.int) y4)).bind fun (y6 : Bool) => if y6 = true then (some true) else none) else (if (decide (a = 1)) = true then ((g_law_mixed_row [(("two" : PySem.Str), 4)] [1] 1 (decide (c = 0)) (2 + b)).bind fun (y8 : (List (Option Int))) => (g_law_times y4 y4).bind fun (y9 : (List Int)) => (eqO ((eL (eO D.int)) y8) ((eL D.int) y9)).bind fun (y10 : Bool) => if y10 = true then (some true) else none) else (if (decide (a = 2)) = true then ((g_law_times y4 y4).bind fun (y12 : (List Int)) => (g_law_mixed_row [(("four" : PySem.Str), 1), (("four" : PySem.Str), 2), (("four" : PySem.Str), 4)] [1, (-2), 16] 15 (decide (c = 0)) (2 + b)).bind fun (y13 : (List (Option Int))) => (g_law_times y12 y12).bind fun (y14 : (List Int)) => (eqO ((eL (eO D.int)) y13) ((eL D.int) y14)).bind fun (y15 : Bool) => if y15 = true then (some true) else none) else (if (decide (a = 3)) = true then ((g_law_mixed_row [(("third" : PySem.Str), 1)] [1] 1 (decide (c = 0)) (2 + b)).bind fun (y17 : (List (Option Int))) => (eqO ((eL (eO D.int)) y17) ((eL D.int) y4)).bind fun (y18 : Bool) => if y18 = true then (some true) else none) else ((g_law_mixed_row [(("two" : PySem.Str), 3)] [1] 1 (decide (c = 0)) (2 + b)).bind fun (y20 : (List (Option Int))) => (g_law_times y4 y4).bind fun (y21 : (List Int)) => (eqO ((eL (eO D.int)) y20) ((eL D.int) y21)).bind fun (y22 : Bool) => if y22 = true then (some true) else none))))
def row (a : Int) : Bool := (rngL 0 14).all fun b => (rngL 0 2).all fun c => decide (tl a b c = some true)
theorem row0 : row 0 = true := by decide +kernel
theorem row1 : row 1 = true := by decide +kernel
theorem row2 : row 2 = true := by decide +kernel
theorem row3 : row 3 = true := by decide +kernel
theorem row4 : row 4 = true := by decide +kernel
theorem tl_ok {a b c : Int} (ha : 0 ≤ a ∧ a < 5) (hb : 0 ≤ b ∧ b < 14) (hc : 0 ≤ c ∧ c < 2) : tl a b c = some true := by
  have h : row a = true := by
    have : a = 0 ∨ a = 1 ∨ a = 2 ∨ a = 3 ∨ a = 4 := by omega
    rcases this with rfl | rfl | rfl | rfl | rfl
    · exact row0
    · exact row1
    · exact row2
    · exact row3
    · exact row4
  exact of_decide_eq_true (List.all_eq_true.mp (List.all_eq_true.mp h b (mem_rng.mpr hb)) c (mem_rng.mpr hc))
theorem draw_ok {p : List Int} {m : Int} (hp : PotOk p) (hm : 0 < m) (hm2 : m < 1073741824) : ∃ r p', g_law_draw p m = some (r, p') ∧ 0 ≤ r ∧ r < m ∧ PotOk p' :=
  drawG_ok (A := 39373) (C := 1349) (M1 := 2147483629) (M2 := 2147483587) (DV := 13) (by decide) (by decide) hp hm hm2
theorem pot_ok (l : List Int) : ∃ p, g_law_pot l 0 = some p ∧ PotOk p :=
  potJ_ok (A := 403) (B := 571) (M := 2147483549) (F := 48271) (G := 8867) (H := 611) (M3 := 2147483579) (by decide) (by decide) (by decide) (by decide) (by decide) l
theorem right_ok {p : List Int} (hp : PotOk p) : g_law_right p = some true := by
  obtain ⟨a, p1, a1, a2, a3, a4⟩ := draw_ok hp (m := 5) (by decide) (by decide)
  obtain ⟨b, p2, b1, b2, b3, b4⟩ := draw_ok a4 (m := 14) (by decide) (by decide)
  obtain ⟨c, p3, c1, c2, c3, c4⟩ := draw_ok b4 (m := 2) (by decide) (by decide)
  unfold g_law_right
  rw [a1, bnd_some]
  dsimp only
  rw [b1, bnd_some]
  dsimp only
  rw [c1, bnd_some]
  exact tl_ok ⟨a2, a3⟩ ⟨b2, b3⟩ ⟨c2, c3⟩
theorem law_true (ns : List Int) (h1 : ns.length ≤ 63) (h2 : ∀ z ∈ ns, PySem.Builtin.Int.intBits z ≤ 1048576) : ∃ fin, f_law [(.scr (ns.map D.int), .sh)] = .ok (.im (.bl true)) fin := by
  obtain ⟨p, h3, h4⟩ := pot_ok ns
  have h5 : g_law ns = some true := by
    unfold g_law
    rw [h3, bnd_some, right_ok h4]
    rfl
  exact ⟨_, r_law ns true h5⟩
end Pf
set_option maxRecDepth 100000
open PySem PySem.W PyProof.Rows
set_option maxHeartbeats 0 in
theorem PySem.Challenge.cw_etaparts_k59_whole_divisor_sums_as_ways_holds : PySem.Challenge.rw_etaparts_k59_whole_divisor_sums_as_ways.Holds := by
  w_on; o_law; k_head; (case hw => w_witness2)
  k_fill
  refine L2.Py.law_end (l := PySem.Challenge.rw_etaparts_k59_whole_divisor_sums_as_ways) (n := 63) (k := 8) (x := "_law_script") Pf.f_law rfl (by decide) rfl ⟨rfl, by decide, by decide⟩ (fun w h Y => PySem.W.kIn_of Y) (fun ns h1 h2 => Pf.law_true ns h1 h2) ?F
  case F =>
    intro w mg fa h KX G hmg
    refine' Pf.all_mk KX G hmg ?h0 ?h1 ?h2 ?h3 ?h4 ?h5 ?h6 ?h7 ?h8 ?h9 ?h10 ?h11 ?h12 ?h13 ?h14 ?h15 ?h16 ?h17 ?h18 ?h19 ?h20 ?h21 ?h22 ?h23 ?h24 ?h25 ?h26 ?h27 ?h28 ?h29 ?h30 ?h31 ?h32 ?h33 ?h34 ?h35 ?h36 ?h37 ?h38 ?h39 ?h40 ?h41 ?h42 ?h43 ?h44 ?h45 ?h46 ?h47 ?h48 ?h49 ?h50 ?h51 ?h52 ?h53 ?h54 ?h55 ?h56 ?h57 ?h58 ?h59 ?h60 ?h61 ?h62 ?h63 ?h64 ?h65 ?h66 ?h67 ?h68 ?h69 ?h70 ?h71 ?h72 ?h73 ?h74 ?h75 ?h76 ?h77 ?h78 ?h79 ?h80 ?h81 ?h82 ?h83 ?h84 ?h85 ?h86 ?h87 ?h88 ?h89 ?h90 ?h91 ?h92 ?h93 ?h94 ?h95 ?h96 ?h97 ?h98 ?h99 ?h100 ?h101 ?h102 ?h103 ?h104 ?h105 ?h106 ?h107 ?h108 ?h109 ?h110 ?h111 ?h112 ?h113 ?h114 ?h115 ?h116 ?h117 ?h118 ?h119 ?h120 ?h121 ?h122 ?h123 ?h124 ?h125 ?h126 ?h127 ?h128 ?h129 ?h130 ?h131 ?h132 ?h133
    (case h0 => k_is)
    (case h1 => k_is)
    (case h2 => k_is)
    (case h3 => k_is)
    (case h4 => k_is)
    (case h5 => k_is)
    (case h6 => k_is)
    (case h7 => k_is)
    (case h8 => k_is)
    (case h9 => k_is)
    (case h10 => k_is)
    (case h11 => k_is)
    (case h12 => k_is)
    (case h13 => k_is)
    (case h14 => k_is)
    (case h15 => k_is)
    (case h16 => k_is)
    (case h17 => k_is)
    (case h18 => k_is)
    (case h19 => k_is)
    (case h20 => k_is)
    (case h21 => k_is)
    (case h22 => k_is)
    (case h23 => k_is)
    (case h24 => k_is)
    (case h25 => k_is)
    (case h26 => k_is)
    (case h27 => k_is)
    (case h28 => k_is)
    (case h29 => k_is)
    (case h30 => k_is)
    (case h31 => k_is)
    (case h32 => k_is)
    (case h33 => k_is)
    (case h34 => k_is)
    (case h35 => k_is)
    (case h36 => k_is)
    (case h37 => k_is)
    (case h38 => k_is)
    (case h39 => k_is)
    (case h40 => k_is)
    (case h41 => k_is)
    (case h42 => k_is)
    (case h43 => k_is)
    (case h44 => k_is)
    (case h45 => k_is)
    (case h46 => k_is)
    (case h47 => k_is)
    (case h48 => k_is)
    (case h49 => k_is)
    (case h50 => k_is)
    (case h51 => k_is)
    (case h52 => k_is)
    (case h53 => k_is)
    (case h54 => k_is)
    (case h55 => k_is)
    (case h56 => k_is)
    (case h57 => k_is)
    (case h58 => k_is)
    (case h59 => k_is)
    (case h60 => k_is)
    (case h61 => k_is)
    (case h62 => k_is)
    (case h63 => k_is)
    (case h64 => k_is)
    (case h65 => k_is)
    (case h66 => k_is)
    (case h67 => k_is)
    (case h68 => k_is)
    (case h69 => k_is)
    (case h70 => k_is)
    (case h71 => k_is)
    (case h72 => k_is)
    (case h73 => k_is)
    (case h74 => k_is)
    (case h75 => k_is)
    (case h76 => k_is)
    (case h77 => k_is)
    (case h78 => k_is)
    (case h79 => k_is)
    (case h80 => k_is)
    (case h81 => k_is)
    (case h82 => k_is)
    (case h83 => k_is)
    (case h84 => k_is)
    (case h85 => k_is)
    (case h86 => k_is)
    (case h87 => k_is)
    (case h88 => k_is)
    (case h89 => k_is)
    (case h90 => k_is)
    (case h91 => k_is)
    (case h92 => k_is)
    (case h93 => k_is)
    (case h94 => k_is)
    (case h95 => k_is)
    (case h96 => k_is)
    (case h97 => k_is)
    (case h98 => k_is)
    (case h99 => k_is)
    (case h100 => k_is)
    (case h101 => k_is)
    (case h102 => k_is)
    (case h103 => k_is)
    (case h104 => k_is)
    (case h105 => rfl)
    (case h106 => k_is)
    (case h107 => k_is)
    (case h108 => k_is)
    (case h109 => rfl)
    (case h110 => k_is)
    (case h111 => k_is)
    (case h112 => k_is)
    (case h113 => k_is)
    (case h114 => rfl)
    (case h115 => k_is)
    (case h116 => k_is)
    (case h117 => rfl)
    (case h118 => k_is)
    (case h119 => k_is)
    (case h120 => k_is)
    (case h121 => k_is)
    (case h122 => k_is)
    (case h123 => k_is)
    (case h124 => k_is)
    (case h125 => k_is)
    (case h126 => k_is)
    (case h127 => k_is)
    (case h128 => k_is)
    (case h129 => k_is)
    (case h130 => k_is)
    (case h131 => k_is)
    (case h132 => k_is)
    (case h133 => k_is)
