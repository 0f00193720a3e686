import PyProof.Rows.All
import Wide.All
import OpenK.AllK
import Wide.FinOn
import HandS.ForMost
import HandS.Exc
import HandS.TryOnly
import HandS.ExcOwn
import HandS.WordsExc
import HandS.IsInst
import HandS.Wide
import HandS.Deep
import HandS.Defaults
import HandS.SortInts
import HandS.RaiseMore
import HandS.EndBits
import HandS.Conv
import HandS.Style
import HandS.TupLe
import HandS.TupAny
import HandS.TupMul
import HandS.Zip
import HandS.Rev
import HandS.SetFor
import HandS.More
import HandS.DictTup
import HandS.Small
import HandS.FStr
import HandS.Strs
import HandS.TryMany
import HandS.ExcIs
import PyProof.StrLawsRepr
import KE.DataFind
import PySem.Challenge.RW_plainmarks_k24_how_many_went_over
set_option Elab.async false
set_option linter.all false
set_option maxRecDepth 100000
namespace DL
open PySem L2
/-! ### data -/
inductive Nd where
  | lst | fzl | tup | dct (ks : List Key) | dtt (ks : List (List Key)) | obj (C : Str) (ns : List Str) | exn (C : Str) (fs : List (Str × Option Int))
  deriving DecidableEq
inductive D where
  | non | bl (b : Bool) | int (i : Int) | str (x : Str)
  | nd (k : Nd) (o : Bool) (xs : List D)
abbrev D.lst (o : Bool) (xs : List D) : D := .nd .lst o xs
abbrev D.tup (xs : List D) : D := .nd .tup false xs
mutual
def frz : D → D
  | .non => .non
  | .bl b => .bl b
  | .int i => .int i
  | .str x => .str x
  | .nd k _ xs => .nd k false (frzs xs)
def frzs : List D → List D
  | [] => []
  | d :: ds => frz d :: frzs ds
end
mutual
def noOwn : D → Bool
  | .nd _ o xs => !o && noOwns xs
  | _ => true
def noOwns : List D → Bool
  | [] => true
  | d :: ds => noOwn d && noOwns ds
end
mutual
/-- no instance within -/
def noObj : D → Bool
  | .nd (.obj _ _) _ _ => false
  | .nd _ _ xs => noObjs xs
  | _ => true
def noObjs : List D → Bool
  | [] => true
  | d :: ds => noObj d && noObjs ds
end
/-! ### footprints -/
abbrev Fp := Addr → Nat
def zf : Fp := fun _ => 0
def one (p : Addr) : Fp := fun a => if a = p then 1 else 0
def ad (f g : Fp) : Fp := fun a => f a + g a
def Eqf (f g : Fp) : Prop := ∀ a, f a = g a
/-! ### what a value stands for -/
structure HE where
  K : PySem.W.Frag
  cm : Str → Option Addr
  F : Hp
  H : Hp
def At (E : HE) (k : Nd) (p : Addr) (ws : List V) : Prop := match k with
  | .lst => E.H p = some (.lst ws)
  | .fzl => False
  | .tup => False
  | .dct ks => ks.length = ws.length ∧ E.H p = some (.dK (ks.zip ws))
  | .dtt ks => ks.length = ws.length ∧ E.H p = some (.dT (ks.zip ws))
  | .obj C ns => ns.length = ws.length ∧ ∃ c dx, E.cm C = some c ∧ E.H p = some (.ins c dx (ns.zip ws)) ∧ E.H dx = some (.own p)
  | .exn _ _ => False
/-- an exception that was caught: its object as it stands -/
def xo (a : Addr) (oe : Obj) : HO := .ext fun h => h.get? a = some oe
def xV : Option Int → V
  | some i => .int i
  | none => .non
/-- the class C of the names' table, its fields -/
def ExAt (E : HE) (C : Str) (fs : List (Str × Option Int)) (p : Addr) : Prop :=
  ∃ c oe, E.cm C = some c ∧ oe.cls = .ref c ∧ (∃ vs, oe.data = .fields vs) ∧ E.F p = some (xo p oe) ∧ ((fs = [] ∧ oe.dict = none) ∨ (fs ≠ [] ∧ ∃ q, oe.dict = some q ∧ E.F q = some (.xd (fs.map fun z => (z.1, xV z.2)))))
def AtF (E : HE) (k : Nd) (p : Addr) (ws : List V) : Prop := match k with
  | .lst => E.F p = some (.lst ws)
  | .fzl => SqL E.K E.F p ws
  | .tup => False
  | .dct ks => ks.length = ws.length ∧ E.F p = some (.dK (ks.zip ws))
  | .dtt ks => ks.length = ws.length ∧ E.F p = some (.dT (ks.zip ws))
  | .obj _ _ => False
  | .exn C fs => ws = [] ∧ ExAt E C fs p
def NdAt (E : HE) (k : Nd) (o : Bool) (p : Addr) (ws : List V) (g f : Fp) : Prop :=
  (k = .tup ∧ o = false ∧ E.F p = some (.tup ws) ∧ Eqf f g) ∨ (o = true ∧ At E k p ws ∧ Eqf f (ad (one p) g)) ∨ (o = false ∧ AtF E k p ws ∧ Eqf g zf ∧ Eqf f zf)
mutual
def Ow (E : HE) : D → V → Fp → Prop
  | .non, v, f => v = .non ∧ Eqf f zf
  | .bl b, v, f => v = .bl b ∧ Eqf f zf
  | .int i, v, f => v = .int i ∧ Eqf f zf
  | .str x, v, f => v = .str x ∧ Eqf f zf
  | .nd k o xs, v, f => ∃ p ws g, v = .ref p ∧ Ows E xs ws g ∧ NdAt E k o p ws g f
def Ows (E : HE) : List D → List V → Fp → Prop
  | [], ws, f => ws = [] ∧ Eqf f zf
  | d :: ds, ws, f => ∃ w r g h, ws = w :: r ∧ Ow E d w g ∧ Ows E ds r h ∧ Eqf f (ad g h)
end
end DL
namespace DL
open PySem L2
example (E : HE) (v : V) (f : Fp) : Ow E (.int 3) v f = (v = .int 3 ∧ Eqf f zf) := rfl
theorem Eqf.rfl' {f : Fp} : Eqf f f := fun _ => rfl
theorem Eqf.symm {f g : Fp} (h : Eqf f g) : Eqf g f := fun a => (h a).symm
theorem Eqf.trans {f g h : Fp} (x : Eqf f g) (y : Eqf g h) : Eqf f h := fun a => (x a).trans (y a)
theorem ad_ap (f g : Fp) (a : Addr) : ad f g a = f a + g a := rfl
theorem zf_ap (a : Addr) : zf a = 0 := rfl
theorem one_self (p : Addr) : one p p = 1 := if_pos rfl
theorem one_ne {p a : Addr} (h : a ≠ p) : one p a = 0 := if_neg h
theorem one_le (p a : Addr) : one p a ≤ 1 := by unfold one; split <;> omega
theorem one_eq {p a : Addr} (h : one p a ≠ 0) : a = p := by
  unfold one at h
  split at h
  · assumption
  · exact absurd rfl h
/-- H' holds what H holds off T -/
def Keep (H : Hp) (T : Fp) (H' : Hp) : Prop := ∀ a o, H a = some o → T a = 0 → H' a = some o
def Sub (F F' : Hp) : Prop := ∀ a o, F a = some o → F' a = some o
theorem Sub.refl (F : Hp) : Sub F F := fun _ _ h => h
theorem Sub.trans {F G H : Hp} (a : Sub F G) (b : Sub G H) : Sub F H := fun x o h => b x o (a x o h)
theorem Sub.rd {F F' : Hp} {a : Addr} {u : HO} (e : Sub F F') (h : Rd F a u) : Rd F' a u := h.elim (fun h => .inl (e _ _ h)) fun ⟨o, h⟩ => .inr ⟨o, e _ _ h⟩
theorem Sub.sqL {K : PySem.W.Frag} {F F' : Hp} {a : Addr} {xs : List V} (e : Sub F F') (h : SqL K F a xs) : SqL K F' a xs := h.elim (fun h => .inl (e.rd h)) .inr
theorem Sub.sqT {K : PySem.W.Frag} {F F' : Hp} {a : Addr} {xs : List V} (e : Sub F F') (h : SqT K F a xs) : SqT K F' a xs := h.elim (fun h => .inl (e.rd h)) .inr
/-- what may change is off the footprint -/
structure Off (H : Hp) (T : Fp) (f : Fp) : Prop where
  dis : ∀ a, f a ≠ 0 → T a = 0
  mu : ∀ a, T a ≠ 0 → Mut (H a)
theorem At.mono {K : PySem.W.Frag} {cm : Str → Option Addr} {F F' H H' : Hp} {T : Fp} {k : Nd} {p : Addr} {ws : List V} (hk : Keep H T H') (h0 : T p = 0) (mu : ∀ a, T a ≠ 0 → Mut (H a)) (h : At ⟨K, cm, F, H⟩ k p ws) : At ⟨K, cm, F', H'⟩ k p ws := by
  cases k with
  | lst => exact hk _ _ h h0
  | fzl => exact h
  | tup => exact h
  | dct ks => exact ⟨h.1, hk _ _ h.2 h0⟩
  | dtt ks => exact ⟨h.1, hk _ _ h.2 h0⟩
  | obj C ns =>
    obtain ⟨hl, c, dx, h1, h2, h3⟩ := h
    refine ⟨hl, c, dx, h1, hk _ _ h2 h0, hk _ _ h3 ?_⟩
    by_cases z : T dx = 0
    · exact z
    · have m := mu dx z
      have h3' : H dx = some (.own p) := h3
      rw [h3'] at m
      exact m.elim
  | exn C fs => exact h.elim
theorem AtF.mono {K : PySem.W.Frag} {cm : Str → Option Addr} {F F' H H' : Hp} {k : Nd} {p : Addr} {ws : List V} (hf : Sub F F') (h : AtF ⟨K, cm, F, H⟩ k p ws) : AtF ⟨K, cm, F', H'⟩ k p ws := by
  cases k with
  | lst => exact hf _ _ h
  | fzl => exact hf.sqL h
  | tup => exact h
  | dct ks => exact ⟨h.1, hf _ _ h.2⟩
  | dtt ks => exact ⟨h.1, hf _ _ h.2⟩
  | obj C ns => exact h
  | exn C fs =>
    obtain ⟨e, c, oe, h1, h2, h3, h4, h5⟩ := h
    exact ⟨e, c, oe, h1, h2, h3, hf _ _ h4, h5.imp id fun ⟨h8, q, h6, h7⟩ => ⟨h8, q, h6, hf _ _ h7⟩⟩
section
variable {K : PySem.W.Frag} {cm : Str → Option Addr} {F F' H H' : Hp} {T : Fp}
mutual
theorem Ow.mono (hf : Sub F F') (hk : Keep H T H') (mu : ∀ a, T a ≠ 0 → Mut (H a)) : ∀ (d : D) (v : V) (f : Fp), (∀ a, f a ≠ 0 → T a = 0) → Ow ⟨K, cm, F, H⟩ d v f → Ow ⟨K, cm, F', H'⟩ d v f
  | .non, _, _, _, h => h
  | .bl _, _, _, _, h => h
  | .int _, _, _, _, h => h
  | .str _, _, _, _, h => h
  | .nd k o xs, v, f, hd, h => by
    obtain ⟨p, ws, g, rfl, hs, hn⟩ := h
    rcases hn with ⟨hk', ho, ht, e⟩ | ⟨ho, ha, e⟩ | ⟨ho, ha, eg, e⟩
    · exact ⟨p, ws, g, rfl, Ows.mono hf hk mu xs ws g (fun a ha => hd a (by rw [e a]; exact ha)) hs, .inl ⟨hk', ho, hf _ _ ht, e⟩⟩
    · refine ⟨p, ws, g, rfl, Ows.mono hf hk mu xs ws g (fun a ha => hd a (by rw [e a, ad_ap]; omega)) hs, .inr (.inl ⟨ho, At.mono hk (hd p ?_) mu ha, e⟩)⟩
      rw [e p, ad_ap, one_self]; omega
    · exact ⟨p, ws, g, rfl, Ows.mono hf hk mu xs ws g (fun a ha => absurd (eg a) ha) hs, .inr (.inr ⟨ho, AtF.mono hf ha, eg, e⟩)⟩
theorem Ows.mono (hf : Sub F F') (hk : Keep H T H') (mu : ∀ a, T a ≠ 0 → Mut (H a)) : ∀ (ds : List D) (vs : List V) (f : Fp), (∀ a, f a ≠ 0 → T a = 0) → Ows ⟨K, cm, F, H⟩ ds vs f → Ows ⟨K, cm, F', H'⟩ ds vs f
  | [], _, _, _, h => h
  | d :: ds, vs, f, hd, h => by
    obtain ⟨w, r, g, x, rfl, h1, h2, e⟩ := h
    exact ⟨w, r, g, x, rfl, Ow.mono hf hk mu d w g (fun a ha => hd a (by rw [e a, ad_ap]; omega)) h1, Ows.mono hf hk mu ds r x (fun a ha => hd a (by rw [e a, ad_ap]; omega)) h2, e⟩
end
/-- the footprint by its places alone -/
theorem Ow.eqf {E : HE} : ∀ {d : D} {v : V} {f g : Fp}, Ow E d v f → Eqf g f → Ow E d v g
  | .non, _, _, _, h, e => ⟨h.1, e.trans h.2⟩
  | .bl _, _, _, _, h, e => ⟨h.1, e.trans h.2⟩
  | .int _, _, _, _, h, e => ⟨h.1, e.trans h.2⟩
  | .str _, _, _, _, h, e => ⟨h.1, e.trans h.2⟩
  | .nd k o xs, v, f, g, h, e => by
    obtain ⟨p, ws, x, rfl, hs, hn⟩ := h
    refine ⟨p, ws, x, rfl, hs, ?_⟩
    rcases hn with ⟨h1, h2, h3, h4⟩ | ⟨h1, h2, h4⟩ | ⟨h1, h2, h3, h4⟩
    · exact .inl ⟨h1, h2, h3, e.trans h4⟩
    · exact .inr (.inl ⟨h1, h2, e.trans h4⟩)
    · exact .inr (.inr ⟨h1, h2, h3, e.trans h4⟩)
theorem Ows.eqf {E : HE} : ∀ {ds : List D} {vs : List V} {f g : Fp}, Ows E ds vs f → Eqf g f → Ows E ds vs g
  | [], _, _, _, h, e => ⟨h.1, e.trans h.2⟩
  | d :: ds, _, _, _, h, e => by
    obtain ⟨w, r, g, x, rfl, h1, h2, h3⟩ := h
    exact ⟨w, r, g, x, rfl, h1, h2, e.trans h3⟩
mutual
theorem Ow.no {E : HE} : ∀ {d : D} {v : V} {f : Fp}, noOwn d = true → Ow E d v f → Eqf f zf
  | .non, _, _, _, h => h.2
  | .bl _, _, _, _, h => h.2
  | .int _, _, _, _, h => h.2
  | .str _, _, _, _, h => h.2
  | .nd k o xs, v, f, n, h => by
    obtain ⟨p, ws, g, rfl, hs, hn⟩ := h
    have n' : (!o && noOwns xs) = true := n
    rw [Bool.and_eq_true] at n'
    obtain ⟨n1, n2⟩ := n'
    have eg := Ows.no n2 hs
    rcases hn with ⟨h1, h2, h3, h4⟩ | ⟨h1, h2, h4⟩ | ⟨h1, h2, h3, h4⟩
    · exact h4.trans eg
    · rw [h1] at n1; cases n1
    · exact h4
theorem Ows.no {E : HE} : ∀ {ds : List D} {vs : List V} {f : Fp}, noOwns ds = true → Ows E ds vs f → Eqf f zf
  | [], _, _, _, h => h.2
  | d :: ds, _, _, n, h => by
    obtain ⟨w, r, g, x, rfl, h1, h2, h3⟩ := h
    have n' : (noOwn d && noOwns ds) = true := n
    rw [Bool.and_eq_true] at n'
    intro a
    rw [h3 a, ad_ap, Ow.no n'.1 h1 a, Ows.no n'.2 h2 a]
    rfl
end
theorem At.toF {k : Nd} {p : Addr} {ws : List V} (ho : ∀ C ns, k ≠ .obj C ns) (hp : F' p = H p) (h : At ⟨K, cm, F, H⟩ k p ws) : AtF ⟨K, cm, F', H'⟩ k p ws := by
  cases k with
  | lst => exact hp.trans h
  | fzl => exact h.elim
  | tup => exact h
  | dct ks => exact ⟨h.1, hp.trans h.2⟩
  | dtt ks => exact ⟨h.1, hp.trans h.2⟩
  | obj C ns => exact (ho C ns rfl).elim
  | exn C fs => exact h.elim
mutual
/-- frozen into F', which holds what is owned -/
theorem Ow.frz (hf : Sub F F') : ∀ (d : D) (v : V) (f : Fp), noObj d = true → (∀ a, f a ≠ 0 → F' a = H a) → Ow ⟨K, cm, F, H⟩ d v f → Ow ⟨K, cm, F', H'⟩ (frz d) v zf
  | .non, _, _, _, _, h => ⟨h.1, .rfl'⟩
  | .bl _, _, _, _, _, h => ⟨h.1, .rfl'⟩
  | .int _, _, _, _, _, h => ⟨h.1, .rfl'⟩
  | .str _, _, _, _, _, h => ⟨h.1, .rfl'⟩
  | .nd k o xs, v, f, n, hd, h => by
    obtain ⟨p, ws, g, rfl, hs, hn⟩ := h
    have n2 : noObjs xs = true := by
      cases k <;> first | exact n | cases n
    have no : ∀ C ns, k ≠ .obj C ns := fun C ns e => by
      subst e
      cases n
    rcases hn with ⟨hk', ho, ht, e⟩ | ⟨ho, ha, e⟩ | ⟨ho, ha, eg, e⟩
    · exact ⟨p, ws, zf, rfl, Ows.frz hf xs ws g n2 (fun a ha => hd a (by rw [e a]; exact ha)) hs, .inl ⟨hk', rfl, hf _ _ ht, .rfl'⟩⟩
    · refine ⟨p, ws, zf, rfl, Ows.frz hf xs ws g n2 (fun a ha => hd a (by rw [e a, ad_ap]; omega)) hs, .inr (.inr ⟨rfl, At.toF no (hd p ?_) ha, .rfl', .rfl'⟩)⟩
      rw [e p, ad_ap, one_self]; omega
    · exact ⟨p, ws, zf, rfl, Ows.frz hf xs ws g n2 (fun a ha => absurd (eg a) ha) hs, .inr (.inr ⟨rfl, AtF.mono hf ha, .rfl', .rfl'⟩)⟩
theorem Ows.frz (hf : Sub F F') : ∀ (ds : List D) (vs : List V) (f : Fp), noObjs ds = true → (∀ a, f a ≠ 0 → F' a = H a) → Ows ⟨K, cm, F, H⟩ ds vs f → Ows ⟨K, cm, F', H'⟩ (frzs ds) vs zf
  | [], _, _, _, _, h => ⟨h.1, .rfl'⟩
  | d :: ds, vs, f, n, hd, h => by
    obtain ⟨w, r, g, x, rfl, h1, h2, e⟩ := h
    have n' : (noObj d && noObjs ds) = true := n
    rw [Bool.and_eq_true] at n'
    exact ⟨w, r, zf, zf, rfl, Ow.frz hf d w g n'.1 (fun a ha => hd a (by rw [e a, ad_ap]; omega)) h1, Ows.frz hf ds r x n'.2 (fun a ha => hd a (by rw [e a, ad_ap]; omega)) h2, .rfl'⟩
end
mutual
theorem frz_no : ∀ d, noOwn (DL.frz d) = true
  | .non => rfl
  | .bl _ => rfl
  | .int _ => rfl
  | .str _ => rfl
  | .nd k o xs => by
    show (!false && noOwns (frzs xs)) = true
    rw [frzs_no xs]; rfl
theorem frzs_no : ∀ ds, noOwns (frzs ds) = true
  | [] => rfl
  | d :: ds => by
    show (noOwn (DL.frz d) && noOwns (frzs ds)) = true
    rw [frz_no d, frzs_no ds]; rfl
end
mutual
theorem frz_id : ∀ d, noOwn d = true → DL.frz d = d
  | .non, _ => rfl
  | .bl _, _ => rfl
  | .int _, _ => rfl
  | .str _, _ => rfl
  | .nd k o xs, n => by
    have n' : (!o && noOwns xs) = true := n
    rw [Bool.and_eq_true] at n'
    show D.nd k false (frzs xs) = _
    rw [frzs_id xs n'.2]
    cases o
    · rfl
    · cases n'.1
theorem frzs_id : ∀ ds, noOwns ds = true → frzs ds = ds
  | [], _ => rfl
  | d :: ds, n => by
    have n' : (noOwn d && noOwns ds) = true := n
    rw [Bool.and_eq_true] at n'
    show DL.frz d :: frzs ds = _
    rw [frz_id d n'.1, frzs_id ds n'.2]
end
theorem Ows.len {E : HE} : ∀ {ds : List D} {vs : List V} {f : Fp}, Ows E ds vs f → ds.length = vs.length
  | [], _, _, h => by rw [h.1]; rfl
  | d :: ds, _, _, h => by
    obtain ⟨w, r, g, x, rfl, h1, h2, h3⟩ := h
    show ds.length + 1 = r.length + 1
    rw [Ows.len h2]
end
/-! ### the world -/
structure Wd (F H : Hp) (T : Fp) : Prop where
  sub : Sub F H
  one : ∀ a, T a ≤ 1
  off : ∀ a, T a ≠ 0 → F a = none
  mu : ∀ a, T a ≠ 0 → Mut (H a)
structure Stp (F H : Hp) (T : Fp) (F' H' : Hp) (T' : Fp) : Prop where
  keep : Keep H T H'
  mono : Sub F F'
  back : ∀ a, Mut (H a) → T a = 0 → F a = none → T' a = 0 ∧ F' a = none
theorem Wd.eqf {F H : Hp} {T T' : Fp} (w : Wd F H T) (e : Eqf T' T) : Wd F H T' := ⟨w.sub, fun a => by rw [e a]; exact w.one a, fun a h => w.off a (by rw [← e a]; exact h), fun a h => w.mu a (by rw [← e a]; exact h)⟩
theorem Stp.eqf {F H F' H' : Hp} {T T' S : Fp} (s : Stp F H T F' H' T') (e : Eqf S T') : Stp F H T F' H' S := ⟨s.keep, s.mono, fun a h1 h2 h3 => ⟨(e a).trans (s.back a h1 h2 h3).1, (s.back a h1 h2 h3).2⟩⟩
theorem Stp.eqfL {F H F' H' : Hp} {T T' S : Fp} (s : Stp F H T F' H' T') (e : Eqf S T) : Stp F H S F' H' T' := ⟨fun a o h z => s.keep a o h (by rw [← e a]; exact z), s.mono, fun a h1 h2 h3 => s.back a h1 (by rw [← e a]; exact h2) h3⟩
theorem Stp.refl {F H : Hp} {T : Fp} : Stp F H T F H T := ⟨fun _ _ h _ => h, Sub.refl _, fun _ _ h1 h2 => ⟨h1, h2⟩⟩
theorem Stp.trans {F H F1 H1 F2 H2 : Hp} {T T1 T2 : Fp} (a : Stp F H T F1 H1 T1) (w : Wd F1 H1 T1) (b : Stp F1 H1 T1 F2 H2 T2) : Stp F H T F2 H2 T2 := by
  have t0 : ∀ x o, H x = some o → T x = 0 → T1 x = 0 := fun x o h z => by
    by_cases e : T1 x = 0
    · exact e
    · have m := w.mu x e
      rw [a.keep x o h z] at m
      cases q : F x with
      | none => exact (a.back x (by rw [h]; exact m) z q).1
      | some u =>
        have := a.mono x u q
        rw [w.off x e] at this; cases this
  refine ⟨fun x o h z => b.keep x o (a.keep x o h z) (t0 x o h z), a.mono.trans b.mono, fun x h1 h2 h3 => ?_⟩
  obtain ⟨z1, z2⟩ := a.back x h1 h2 h3
  cases q : H x with
  | none => rw [q] at h1; exact h1.elim
  | some o => exact b.back x (by rw [a.keep x o q h2, ← q]; exact h1) z1 z2
/-- what others own stays -/
theorem Wd.frame {F H F' H' : Hp} {T B T' : Fp} (w : Wd F H (ad T B)) (s : Stp F H T F' H' T') (w' : Wd F' H' T') : Wd F' H' (ad T' B) ∧ Stp F H (ad T B) F' H' (ad T' B) := by
  have key : ∀ a, B a ≠ 0 → T a = 0 ∧ T' a = 0 ∧ F' a = none ∧ H' a = H a := fun a hb => by
    have h1 := w.one a
    rw [ad_ap] at h1
    have z : T a = 0 := by omega
    have hn : ad T B a ≠ 0 := by rw [ad_ap]; omega
    have hm := w.mu a hn
    cases q : H a with
    | none => rw [q] at hm; exact hm.elim
    | some o =>
      obtain ⟨x, y⟩ := s.back a hm z (w.off a hn)
      exact ⟨z, x, y, s.keep a o q z⟩
  refine ⟨⟨w'.sub, fun a => ?_, fun a h => ?_, fun a h => ?_⟩, ⟨fun a o h z => s.keep a o h (by rw [ad_ap] at z; omega), s.mono, fun a h1 h2 h3 => ?_⟩⟩
  · rw [ad_ap]
    by_cases hb : B a = 0
    · have := w'.one a; omega
    · have h1 := w.one a
      rw [ad_ap] at h1
      have := key a hb
      omega
  · by_cases hb : B a = 0
    · exact w'.off a (by rw [ad_ap] at h; omega)
    · exact (key a hb).2.2.1
  · by_cases hb : B a = 0
    · exact w'.mu a (by rw [ad_ap] at h; omega)
    · rw [(key a hb).2.2.2]
      exact w.mu a (by rw [ad_ap]; omega)
  · rw [ad_ap] at h2
    obtain ⟨x, y⟩ := s.back a h1 (by omega) h3
    exact ⟨by rw [ad_ap]; omega, y⟩
theorem Wd.part {F H : Hp} {T B : Fp} (w : Wd F H (ad T B)) : Wd F H T := ⟨w.sub, fun a => by have := w.one a; rw [ad_ap] at this; omega, fun a h => w.off a (by rw [ad_ap]; omega), fun a h => w.mu a (by rw [ad_ap]; omega)⟩
theorem Wd.le {F H : Hp} {T B : Fp} (w : Wd F H T) (h : ∀ a, B a ≤ T a) : Wd F H B := ⟨w.sub, fun a => by have := w.one a; have := h a; omega, fun a z => w.off a (by have := h a; omega), fun a z => w.mu a (by have := h a; omega)⟩
theorem Wd.keepOw {K : PySem.W.Frag} {cm : Str → Option Addr} {F H F' H' : Hp} {T B T' : Fp} {d : D} {v : V} (w : Wd F H (ad T B)) (s : Stp F H T F' H' T') (h : Ow ⟨K, cm, F, H⟩ d v B) : Ow ⟨K, cm, F', H'⟩ d v B :=
  Ow.mono s.mono s.keep (fun a z => w.mu a (by rw [ad_ap]; omega)) d v B (fun a hb => by have h1 := w.one a; rw [ad_ap] at h1; omega) h
theorem Wd.keepOws {K : PySem.W.Frag} {cm : Str → Option Addr} {F H F' H' : Hp} {T B T' : Fp} {d : List D} {v : List V} (w : Wd F H (ad T B)) (s : Stp F H T F' H' T') (h : Ows ⟨K, cm, F, H⟩ d v B) : Ows ⟨K, cm, F', H'⟩ d v B :=
  Ows.mono s.mono s.keep (fun a z => w.mu a (by rw [ad_ap]; omega)) d v B (fun a hb => by have h1 := w.one a; rw [ad_ap] at h1; omega) h
/-! ### slots -/
abbrev Env := List (Option D)
def Sls (E : HE) : Env → L2.St → Fp → Prop
  | [], σ, f => σ = [] ∧ Eqf f zf
  | none :: ρ, σ, f => ∃ w r, σ = w :: r ∧ Sls E ρ r f
  | some d :: ρ, σ, f => ∃ w r g h, σ = some w :: r ∧ Ow E d w g ∧ Sls E ρ r h ∧ Eqf f (ad g h)
theorem Sls.eqf {E : HE} : ∀ {ρ : Env} {σ : L2.St} {f g : Fp}, Sls E ρ σ f → Eqf g f → Sls E ρ σ g
  | [], _, _, _, h, e => ⟨h.1, e.trans h.2⟩
  | none :: ρ, _, _, _, h, e => by
    obtain ⟨w, r, rfl, h⟩ := h
    exact ⟨w, r, rfl, Sls.eqf h e⟩
  | some d :: ρ, _, _, _, h, e => by
    obtain ⟨w, r, g, x, rfl, h1, h2, h3⟩ := h
    exact ⟨w, r, g, x, rfl, h1, h2, e.trans h3⟩
theorem Sls.len {E : HE} : ∀ {ρ : Env} {σ : L2.St} {f : Fp}, Sls E ρ σ f → ρ.length = σ.length
  | [], _, _, h => by rw [h.1]; rfl
  | none :: ρ, _, _, h => by
    obtain ⟨w, r, rfl, h⟩ := h
    show ρ.length + 1 = r.length + 1
    rw [Sls.len h]
  | some d :: ρ, _, _, h => by
    obtain ⟨w, r, g, x, rfl, h1, h2, h3⟩ := h
    show ρ.length + 1 = r.length + 1
    rw [Sls.len h2]
theorem Sls.mono {K : PySem.W.Frag} {cm : Str → Option Addr} {F F' H H' : Hp} {T : Fp} (hf : Sub F F') (hk : Keep H T H') (mu : ∀ a, T a ≠ 0 → Mut (H a)) : ∀ (ρ : Env) (σ : L2.St) (f : Fp), (∀ a, f a ≠ 0 → T a = 0) → Sls ⟨K, cm, F, H⟩ ρ σ f → Sls ⟨K, cm, F', H'⟩ ρ σ f
  | [], _, _, _, h => h
  | none :: ρ, _, f, hd, h => by
    obtain ⟨w, r, rfl, h⟩ := h
    exact ⟨w, r, rfl, Sls.mono hf hk mu ρ r f hd h⟩
  | some d :: ρ, _, f, hd, h => by
    obtain ⟨w, r, g, x, rfl, h1, h2, e⟩ := h
    exact ⟨w, r, g, x, rfl, Ow.mono hf hk mu d w g (fun a ha => hd a (by rw [e a, ad_ap]; omega)) h1, Sls.mono hf hk mu ρ r x (fun a ha => hd a (by rw [e a, ad_ap]; omega)) h2, e⟩
theorem Wd.keepSls {K : PySem.W.Frag} {cm : Str → Option Addr} {F H F' H' : Hp} {T B T' : Fp} {ρ : Env} {σ : L2.St} (w : Wd F H (ad T B)) (s : Stp F H T F' H' T') (h : Sls ⟨K, cm, F, H⟩ ρ σ B) : Sls ⟨K, cm, F', H'⟩ ρ σ B :=
  Sls.mono s.mono s.keep (fun a z => w.mu a (by rw [ad_ap]; omega)) ρ σ B (fun a hb => by have h1 := w.one a; rw [ad_ap] at h1; omega) h
/-- a slot's value taken out -/
theorem Sls.get {E : HE} : ∀ {ρ : Env} {σ : L2.St} {f : Fp} {i : Nat} {d : D}, Sls E ρ σ f → ρ[i]? = some (some d) → ∃ w g h, σ[i]? = some (some w) ∧ Ow E d w g ∧ Sls E (ρ.set i none) σ h ∧ Eqf f (ad g h)
  | [], _, _, _, _, _, e => by simp at e
  | none :: ρ, _, _, 0, _, h, e => by simp at e
  | none :: ρ, _, f, i + 1, d, h, e => by
    obtain ⟨w, r, rfl, h⟩ := h
    obtain ⟨w2, g, x, h1, h2, h3, h4⟩ := Sls.get (i := i) h (by simpa using e)
    exact ⟨w2, g, x, by simpa using h1, h2, ⟨w, r, rfl, h3⟩, h4⟩
  | some d0 :: ρ, _, f, 0, d, h, e => by
    obtain ⟨w, r, g, x, rfl, h1, h2, h3⟩ := h
    simp at e
    subst e
    exact ⟨w, g, x, rfl, h1, ⟨_, r, rfl, h2⟩, h3⟩
  | some d0 :: ρ, _, f, i + 1, d, h, e => by
    obtain ⟨w, r, g, x, rfl, h1, h2, h3⟩ := h
    obtain ⟨w2, g2, x2, k1, k2, k3, k4⟩ := Sls.get (i := i) h2 (by simpa using e)
    refine ⟨w2, g2, ad g x2, by simpa using k1, k2, ⟨w, r, g, x2, rfl, h1, k3, .rfl'⟩, fun a => ?_⟩
    rw [h3 a]; simp only [ad_ap]; rw [k4 a]; simp only [ad_ap]; omega
/-- a slot forgotten -/
theorem Sls.forget {E : HE} : ∀ {ρ : Env} {σ : L2.St} {f : Fp} (i : Nat), Sls E ρ σ f → ∃ h, Sls E (ρ.set i none) σ h ∧ ∀ a, h a ≤ f a
  | [], _, f, _, h => ⟨f, h, fun _ => Nat.le_refl _⟩
  | none :: ρ, _, f, 0, h => ⟨f, h, fun _ => Nat.le_refl _⟩
  | none :: ρ, _, f, i + 1, h => by
    obtain ⟨w, r, rfl, h⟩ := h
    obtain ⟨x, h1, h2⟩ := Sls.forget i h
    exact ⟨x, ⟨w, r, rfl, h1⟩, h2⟩
  | some d :: ρ, _, f, 0, h => by
    obtain ⟨w, r, g, x, rfl, h1, h2, h3⟩ := h
    exact ⟨x, ⟨_, r, rfl, h2⟩, fun a => by rw [h3 a, ad_ap]; omega⟩
  | some d :: ρ, _, f, i + 1, h => by
    obtain ⟨w, r, g, x, rfl, h1, h2, h3⟩ := h
    obtain ⟨y, k1, k2⟩ := Sls.forget i h2
    exact ⟨ad g y, ⟨w, r, g, y, rfl, h1, k1, .rfl'⟩, fun a => by rw [h3 a, ad_ap, ad_ap]; have := k2 a; omega⟩
/-- a slot put in, the frame's slot as it is -/
theorem Sls.put {E : HE} : ∀ {ρ : Env} {σ : L2.St} {f g : Fp} {i : Nat} {d : D} {w : V}, Sls E (ρ.set i none) σ f → i < ρ.length → σ[i]? = some (some w) → Ow E d w g → Sls E (ρ.set i (some d)) σ (ad g f)
  | [], _, _, _, _, _, _, _, hi, _, _ => absurd hi (Nat.not_lt_zero _)
  | o :: ρ, _, f, g, 0, d, w, h, hi, hw, ho => by
    obtain ⟨w', r, rfl, h⟩ := h
    simp at hw
    subst hw
    exact ⟨w, r, g, f, rfl, ho, h, .rfl'⟩
  | none :: ρ, _, f, g, i + 1, d, w, h, hi, hw, ho => by
    obtain ⟨w', r, rfl, h⟩ := h
    exact ⟨w', r, rfl, Sls.put h (by simpa using hi) (by simpa using hw) ho⟩
  | some d0 :: ρ, _, f, g, i + 1, d, w, h, hi, hw, ho => by
    obtain ⟨w', r, x, y, rfl, h1, h2, h3⟩ := h
    refine ⟨w', r, x, ad g y, rfl, h1, Sls.put h2 (by simpa using hi) (by simpa using hw) ho, fun a => ?_⟩
    simp only [ad_ap]; rw [h3 a]; simp only [ad_ap]; omega
/-- a slot stored -/
theorem Sls.store {E : HE} : ∀ {ρ : Env} {σ : L2.St} {f g : Fp} {i : Nat} {d : D} {w : V}, Sls E (ρ.set i none) σ f → i < ρ.length → Ow E d w g → Sls E (ρ.set i (some d)) (σ.set i (some w)) (ad g f)
  | [], _, _, _, _, _, _, _, hi, _ => absurd hi (Nat.not_lt_zero _)
  | o :: ρ, _, f, g, 0, d, w, h, hi, ho => by
    obtain ⟨w', r, rfl, h⟩ := h
    exact ⟨w, r, g, f, rfl, ho, h, .rfl'⟩
  | none :: ρ, _, f, g, i + 1, d, w, h, hi, ho => by
    obtain ⟨w', r, rfl, h⟩ := h
    exact ⟨w', _, rfl, Sls.store h (by simpa using hi) ho⟩
  | some d0 :: ρ, _, f, g, i + 1, d, w, h, hi, ho => by
    obtain ⟨w', r, x, y, rfl, h1, h2, h3⟩ := h
    refine ⟨w', _, x, ad g y, rfl, h1, Sls.store h2 (by simpa using hi) ho, fun a => ?_⟩
    simp only [ad_ap]; rw [h3 a]; simp only [ad_ap]; omega
theorem Sls.storeN {E : HE} : ∀ {ρ : Env} {σ : L2.St} {f : Fp} {i : Nat} {w : Option V}, Sls E (ρ.set i none) σ f → Sls E (ρ.set i none) (σ.set i w) f
  | [], _, _, _, _, h => by
    rw [h.1]; exact ⟨rfl, h.2⟩
  | o :: ρ, _, f, 0, w, h => by
    obtain ⟨w', r, rfl, h⟩ := h
    exact ⟨w, r, rfl, h⟩
  | none :: ρ, _, f, i + 1, w, h => by
    obtain ⟨w', r, rfl, h⟩ := h
    exact ⟨w', _, rfl, Sls.storeN h⟩
  | some d0 :: ρ, _, f, i + 1, w, h => by
    obtain ⟨w', r, x, y, rfl, h1, h2, h3⟩ := h
    exact ⟨w', _, x, y, rfl, h1, Sls.storeN h2, h3⟩
end DL
namespace DL
open PySem L2
/-! ### answers -/
structure Xn where
  c : Str
  fs : List (Str × D)
inductive Re where
  | ok (d : D) (ρ : Env) | ex (e : Xn) (ρ : Env) | no
inductive Ou where
  | nx (ρ : Env) | rt (d : D) (ρ : Env) | bk (ρ : Env) | ct (ρ : Env) | ex (e : Xn) (ρ : Env) | no
abbrev ME := Env → Re
abbrev MV := Env → Option D
abbrev MS := Env → Ou
/-- the name table and the written part -/
structure Sc where
  K : PySem.W.Frag
  cm : Str → Option Addr
abbrev Sc.at (S : Sc) (F H : Hp) : HE := ⟨S.K, S.cm, F, H⟩
def FsOk (E : HE) (fs : List (Str × D)) : Option Addr → Prop
  | none => fs = []
  | some q => fs ≠ [] ∧ ∃ ws, Ows E (fs.map (·.2)) ws zf ∧ E.H q = some (.xd ((fs.map (·.1)).zip ws))
def EndE (S : Sc) (W : WX) (σ : L2.St) (F H : Hp) (T : Fp) : Re → VK → Prop
  | .ok d ρ, Q => ∀ v F' H' T' C, Wd F' H' (ad T' C) → Stp F H T F' H' (ad T' C) → Sls (S.at F' H') ρ σ T' → Ow (S.at F' H') d v C → Q v H'
  | .ex e ρ, _ => ∀ c dd F' H' T', S.cm e.c = some c → FsOk (S.at F' H') e.fs dd → Wd F' H' T' → Stp F H T F' H' T' → Sls (S.at F' H') ρ σ T' → W (.ref c) dd σ H'
  | .no, _ => False
/-- the slots that are not written -/
def NW (wr : Nat → Bool) (σ σ' : L2.St) : Prop := ∀ i, wr i = false → σ'[i]? = σ[i]?
def SpE (S : Sc) (W : WX) (te : TE) (f : ME) : Prop := ∀ σ F H T ρ Q, Wd F H T → Sls (S.at F H) ρ σ T → EndE S W σ F H T (f ρ) Q → te σ H Q
def SpV (S : Sc) (te : TE) (g : MV) : Prop := ∀ σ F H T ρ d (Q : VK), Wd F H T → Sls (S.at F H) ρ σ T → g ρ = some d → (∀ v f, Ow (S.at F H) d v f → (∀ a, f a ≤ T a) → Q v H) → te σ H Q
def EndT (S : Sc) (W : WX) (σ : L2.St) (F H : Hp) (T : Fp) : Re → (Bool → Hp → Prop) → Prop
  | .ok d ρ, Q => ∃ b, d = .bl b ∧ ∀ F' H' T', Wd F' H' T' → Stp F H T F' H' T' → Sls (S.at F' H') ρ σ T' → Q b H'
  | .ex e ρ, _ => ∀ c dd F' H' T', S.cm e.c = some c → FsOk (S.at F' H') e.fs dd → Wd F' H' T' → Stp F H T F' H' T' → Sls (S.at F' H') ρ σ T' → W (.ref c) dd σ H'
  | .no, _ => False
def SpT (S : Sc) (W : WX) (tt : TT) (f : ME) : Prop := ∀ σ F H T ρ Q, Wd F H T → Sls (S.at F H) ρ σ T → EndT S W σ F H T (f ρ) Q → tt σ H Q
def EndS (S : Sc) (W : WX) (wr : Nat → Bool) (σ : L2.St) (F H : Hp) (T : Fp) : Ou → Ends → Prop
  | .nx ρ, D => ∀ σ' F' H' T', NW wr σ σ' → Wd F' H' T' → Stp F H T F' H' T' → Sls (S.at F' H') ρ σ' T' → D.nx σ' H'
  | .rt d ρ, D => ∀ v σ' F' H' T' C, NW wr σ σ' → Wd F' H' (ad T' C) → Stp F H T F' H' (ad T' C) → Sls (S.at F' H') ρ σ' T' → Ow (S.at F' H') d v C → D.rt v H'
  | .bk ρ, D => ∀ σ' F' H' T', NW wr σ σ' → Wd F' H' T' → Stp F H T F' H' T' → Sls (S.at F' H') ρ σ' T' → D.bk σ' H'
  | .ct ρ, D => ∀ σ' F' H' T', NW wr σ σ' → Wd F' H' T' → Stp F H T F' H' T' → Sls (S.at F' H') ρ σ' T' → D.ct σ' H'
  | .ex e ρ, _ => ∀ c dd σ' F' H' T', NW wr σ σ' → S.cm e.c = some c → FsOk (S.at F' H') e.fs dd → Wd F' H' T' → Stp F H T F' H' T' → Sls (S.at F' H') ρ σ' T' → W (.ref c) dd σ' H'
  | .no, _ => False
def SpS (S : Sc) (W : WX) (wr : Nat → Bool) (ts : TS) (g : MS) : Prop := ∀ σ F H T ρ D, Wd F H T → Sls (S.at F H) ρ σ T → EndS S W wr σ F H T (g ρ) D → ts D σ H
/-! ### going on from a later state -/
section
variable {S : Sc} {W : WX} {σ : L2.St} {F H F1 H1 : Hp} {T T1 : Fp}
theorem EndE.step {r : Re} {Q : VK} (s : Stp F H T F1 H1 T1) (w : Wd F1 H1 T1) (h : EndE S W σ F H T r Q) : EndE S W σ F1 H1 T1 r Q := by
  cases r with
  | ok d ρ => exact fun v F' H' T' C w' s' a b => h v F' H' T' C w' (s.trans w s') a b
  | ex e ρ => exact fun c dd F' H' T' x y w' s' a => h c dd F' H' T' x y w' (s.trans w s') a
  | no => exact h
theorem EndT.step {r : Re} {Q : Bool → Hp → Prop} (s : Stp F H T F1 H1 T1) (w : Wd F1 H1 T1) (h : EndT S W σ F H T r Q) : EndT S W σ F1 H1 T1 r Q := by
  cases r with
  | ok d ρ =>
    obtain ⟨b, e, h⟩ := h
    exact ⟨b, e, fun F' H' T' w' s' a => h F' H' T' w' (s.trans w s') a⟩
  | ex e ρ => exact fun c dd F' H' T' x y w' s' a => h c dd F' H' T' x y w' (s.trans w s') a
  | no => exact h
theorem EndS.step {wr : Nat → Bool} {σ1 : L2.St} {r : Ou} {D : Ends} (hw : NW wr σ σ1) (s : Stp F H T F1 H1 T1) (w : Wd F1 H1 T1) (h : EndS S W wr σ F H T r D) : EndS S W wr σ1 F1 H1 T1 r D := by
  cases r with
  | nx ρ => exact fun σ' F' H' T' x w' s' a => h σ' F' H' T' (fun i z => (x i z).trans (hw i z)) w' (s.trans w s') a
  | bk ρ => exact fun σ' F' H' T' x w' s' a => h σ' F' H' T' (fun i z => (x i z).trans (hw i z)) w' (s.trans w s') a
  | ct ρ => exact fun σ' F' H' T' x w' s' a => h σ' F' H' T' (fun i z => (x i z).trans (hw i z)) w' (s.trans w s') a
  | rt d ρ => exact fun v σ' F' H' T' C x w' s' a b => h v σ' F' H' T' C (fun i z => (x i z).trans (hw i z)) w' (s.trans w s') a b
  | ex e ρ => exact fun c dd σ' F' H' T' x y z w' s' a => h c dd σ' F' H' T' (fun i q => (x i q).trans (hw i q)) y z w' (s.trans w s') a
  | no => exact h
end
/-! ### judgements -/
def GE (X : Cx) (cm : Str → Option Addr) (W : WX) (e : Expr) (f : ME) : Prop := ∃ t, PE X e t ∧ SpE ⟨X.K, cm⟩ W t f
def GV (X : Cx) (cm : Str → Option Addr) (e : Expr) (g : MV) : Prop := ∃ t, PE X e t ∧ SpV ⟨X.K, cm⟩ t g
def GT (X : Cx) (cm : Str → Option Addr) (W : WX) (e : Expr) (f : ME) : Prop := ∃ t, PT X e t ∧ SpT ⟨X.K, cm⟩ W t f
def GW (X : Cx) (cm : Str → Option Addr) (W : WX) (e : Expr) (f : ME) : Prop := ∃ t, PW X e t ∧ SpT ⟨X.K, cm⟩ W t f
def GS (X : Cx) (cm : Str → Option Addr) (W : WX) (wr : Nat → Bool) (s : Stmt) (g : MS) : Prop := ∃ t, PS X s t ∧ SpS ⟨X.K, cm⟩ W wr t g
def GB (X : Cx) (cm : Str → Option Addr) (W : WX) (wr : Nat → Bool) (s : List Stmt) (g : MS) : Prop := ∃ t, PSs X s t ∧ SpS ⟨X.K, cm⟩ W wr t g
/-! ### meanings: expressions -/
def gt : Env → Nat → Option D
  | [], _ => none
  | o :: _, 0 => o
  | _ :: ρ, i + 1 => gt ρ i
theorem gt_some : ∀ {ρ : Env} {i : Nat} {d : D}, gt ρ i = some d → ρ[i]? = some (some d)
  | [], _, _, h => by cases h
  | o :: _, 0, _, h => congrArg some h
  | _ :: ρ, i + 1, _, h => gt_some (ρ := ρ) (i := i) h
def vVar (i : Nat) : MV := fun ρ => gt ρ i
def vC (d : D) : MV := fun _ => some d
def rV (g : MV) : ME := fun ρ => match g ρ with
  | some d => if noOwn d = true then .ok d ρ else .no
  | none => .no
/-- a name's value, frozen from then on -/
def rFz (i : Nat) : ME := fun ρ => match gt ρ i with
  | some d => if noObj d = true then .ok (frz d) (ρ.set i (some (frz d))) else .no
  | none => .no
/-- a name's value, which the name gives away -/
def rMv (i : Nat) : ME := fun ρ => match gt ρ i with
  | some d => .ok d (ρ.set i none)
  | none => .no
def Re.bind (r : Re) (k : D → Env → Re) : Re := match r with
  | .ok d ρ => k d ρ
  | .ex e ρ => .ex e ρ
  | .no => .no
def Re.of (o : Option D) (ρ : Env) : Re := match o with
  | some d => .ok d ρ
  | none => .no
def rOp (op : D → D → Option D) (f g : ME) : ME := fun ρ => (f ρ).bind fun a ρ1 => (g ρ1).bind fun b ρ2 => .of (op a b) ρ2
def rUn (op : D → Option D) (f : ME) : ME := fun ρ => (f ρ).bind fun a ρ1 => .of (op a) ρ1
def vOp (op : D → D → Option D) (f g : MV) : MV := fun ρ => (f ρ).bind fun a => (g ρ).bind fun b => op a b
def vUn (op : D → Option D) (f : MV) : MV := fun ρ => (f ρ).bind op
def rIf (c f g : ME) : ME := fun ρ => (c ρ).bind fun b ρ1 => match b with
  | .bl true => f ρ1
  | .bl false => g ρ1
  | _ => .no
def rAnd (f g : ME) : ME := fun ρ => (f ρ).bind fun b ρ1 => match b with
  | .bl true => g ρ1
  | .bl false => .ok (.bl false) ρ1
  | _ => .no
def rOr (f g : ME) : ME := fun ρ => (f ρ).bind fun b ρ1 => match b with
  | .bl true => .ok (.bl true) ρ1
  | .bl false => g ρ1
  | _ => .no
def rNot (f : ME) : ME := fun ρ => (f ρ).bind fun b ρ1 => match b with
  | .bl b => .ok (.bl (!b)) ρ1
  | _ => .no
/-- an operation on values that leaves the heap, by data -/
def OpOk (K : PySem.W.Frag) (r : R2) (op : D → D → Option D) : Prop := ∀ cm F H (x y : V) a b d f g (Q : VK), Sub F H → (∀ a, f a ≠ 0 → Mut (H a)) → (∀ a, g a ≠ 0 → Mut (H a)) → op a b = some d → Ow ⟨K, cm, F, H⟩ a x f → Ow ⟨K, cm, F, H⟩ b y g → (∀ z, Ow ⟨K, cm, F, H⟩ d z zf → Q z H) → r x y H Q
def UnOk (K : PySem.W.Frag) (r : V → Hp → VK → Prop) (op : D → Option D) : Prop := ∀ cm F H (x : V) a d f (Q : VK), Sub F H → (∀ a, f a ≠ 0 → Mut (H a)) → op a = some d → Ow ⟨K, cm, F, H⟩ a x f → (∀ z, Ow ⟨K, cm, F, H⟩ d z zf → Q z H) → r x H Q
section
variable {X : Cx} {cm : Str → Option Addr} {W : WX}
theorem Vw.var {i : Nat} {x : Str} {pos : Pos} (hN : X.N[i]? = some x) (hv : Vis X.env.scope x) (hd : (x == ("__debug__" : Str)) = false := by decide) (hcd : (x == ("__classdict__" : Str)) = false := by decide) : GV X cm (.Name x pos) (vVar i) := by
  refine ⟨_, pe_var hN hv hd hcd, fun σ F H T ρ d Q w s h k => ?_⟩
  obtain ⟨v, g, x, h1, h2, _, h4⟩ := s.get (gt_some h)
  exact ⟨v, h1, k v g h2 fun a => by rw [h4 a, ad_ap]; omega⟩
theorem Vw.int {i j pos} : GV X cm (.Constant (.int i) j pos) (vC (.int i)) := ⟨_, pe_int, fun σ F H T ρ d Q w s h k => by cases h; exact k _ zf ⟨rfl, .rfl'⟩ fun _ => Nat.zero_le _⟩
theorem Vw.bl {i j pos} : GV X cm (.Constant (.bool i) j pos) (vC (.bl i)) := ⟨_, pe_bl, fun σ F H T ρ d Q w s h k => by cases h; exact k _ zf ⟨rfl, .rfl'⟩ fun _ => Nat.zero_le _⟩
theorem Vw.non {j pos} : GV X cm (.Constant .none j pos) (vC .non) := ⟨_, pe_non, fun σ F H T ρ d Q w s h k => by cases h; exact k _ zf ⟨rfl, .rfl'⟩ fun _ => Nat.zero_le _⟩
theorem Vw.str {i j pos} : GV X cm (.Constant (.str i) j pos) (vC (.str i)) := ⟨_, pe_str, fun σ F H T ρ d Q w s h k => by cases h; exact k _ zf ⟨rfl, .rfl'⟩ fun _ => Nat.zero_le _⟩
theorem Vw.globI {x : Str} {i : Int} {u : Value} {pos : Pos} (hg : Gl X x) (hm : X.mg x = some u) (r : RelV (.int i) u) (hd : (x == ("__debug__" : Str)) = false := by decide) : GV X cm (.Name x pos) (vC (.int i)) :=
  ⟨_, pe_glob hg hm r hd, fun σ F H T ρ d Q w s h k => by cases h; exact k _ zf ⟨rfl, .rfl'⟩ fun _ => Nat.zero_le _⟩
theorem Vw.globS {x : Str} {i : Str} {u : Value} {pos : Pos} (hg : Gl X x) (hm : X.mg x = some u) (r : RelV (.str i) u) (hd : (x == ("__debug__" : Str)) = false := by decide) : GV X cm (.Name x pos) (vC (.str i)) :=
  ⟨_, pe_glob hg hm r hd, fun σ F H T ρ d Q w s h k => by cases h; exact k _ zf ⟨rfl, .rfl'⟩ fun _ => Nat.zero_le _⟩
theorem adz (T : Fp) : Eqf (ad T zf) T := fun _ => rfl
theorem Wd.z {F H : Hp} {T : Fp} (w : Wd F H T) : Wd F H (ad T zf) := w.eqf (adz T)
theorem Wd.zz {F H : Hp} {T C : Fp} (w : Wd F H T) (e : Eqf C zf) : Wd F H (ad T C) := w.eqf fun a => by rw [ad_ap, e a]; rfl
theorem Stp.zz {F H F' H' : Hp} {T T' C : Fp} (w : Stp F H T F' H' T') (e : Eqf C zf) : Stp F H T F' H' (ad T' C) := w.eqf fun a => by rw [ad_ap, e a]; rfl
theorem rV_sp {S : Sc} {t : TE} {g : MV} (q : SpV S t g) : SpE S W t (rV g) := by
  intro σ F H T ρ Q w s k
  unfold rV at k
  cases hg : g ρ with
  | none => rw [hg] at k; exact k.elim
  | some d =>
    rw [hg] at k
    by_cases n : noOwn d = true
    · simp only [n, if_true] at k
      refine q σ F H T ρ d Q w s hg fun v f o _ => ?_
      have ez := Ow.no n o
      exact k v F H T f (w.zz ez) (Stp.refl.zz ez) s o
    · simp only [n, if_false] at k
      exact k.elim
theorem E.ofV {e : Expr} {g : MV} (h : GV X cm e g) : GE X cm W e (rV g) := by
  obtain ⟨t, p, q⟩ := h
  exact ⟨t, p, rV_sp q⟩
theorem muOf {F H : Hp} {T f : Fp} (w : Wd F H T) (h : ∀ a, f a ≤ T a) : ∀ a, f a ≠ 0 → Mut (H a) := fun a z => w.mu a (by have := h a; omega)
theorem E.frz {i : Nat} {x : Str} {pos : Pos} (hN : X.N[i]? = some x) (hv : Vis X.env.scope x) (hd : (x == ("__debug__" : Str)) = false := by decide) (hcd : (x == ("__classdict__" : Str)) = false := by decide) : GE X cm W (.Name x pos) (rFz i) := by
  refine ⟨_, pe_var hN hv hd hcd, fun σ F H T ρ Q w s k => ?_⟩
  unfold rFz at k
  cases hg : gt ρ i with
  | none => rw [hg] at k; exact k.elim
  | some d =>
    rw [hg] at k
    by_cases n : noObj d = true
    · simp only [n, if_true] at k
      have hi := gt_some hg
      obtain ⟨v, g, x, h1, h2, h3, h4⟩ := s.get hi
      refine ⟨v, h1, ?_⟩
      -- the frozen part takes what is owned
      let F' : Hp := fun a => if g a = 0 then F a else H a
      have fs : Sub F F' := fun a o h => by
        show (if g a = 0 then F a else H a) = some o
        by_cases z : g a = 0
        · rw [if_pos z]; exact h
        · have := w.off a (by rw [h4 a, ad_ap]; omega)
          rw [h] at this; cases this
      have gm : ∀ a, g a ≠ 0 → F' a = H a := fun a z => if_neg z
      have w' : Wd F' H x := ⟨fun a o h => by
          by_cases z : g a = 0
          · exact w.sub a o (by rw [← h]; exact (if_pos z).symm)
          · rw [← h]; exact (if_neg z).symm, fun a => by have := w.one a; rw [h4 a, ad_ap] at this; omega, fun a z => by
            have h5 := w.one a
            rw [h4 a, ad_ap] at h5
            have : g a = 0 := by omega
            show (if g a = 0 then F a else H a) = none
            rw [if_pos this]
            exact w.off a (by rw [h4 a, ad_ap]; omega), fun a z => w.mu a (by rw [h4 a, ad_ap]; omega)⟩
      have st : Stp F H T F' H x := ⟨fun _ _ h _ => h, fs, fun a h1 h2 h3 => by
        rw [h4 a, ad_ap] at h2
        refine ⟨by omega, ?_⟩
        show (if g a = 0 then F a else H a) = none
        rw [if_pos (by omega)]; exact h3⟩
      have o' : Ow ⟨X.K, cm, F', H⟩ (DL.frz d) v zf := Ow.frz fs d v g n gm h2
      have s' : Sls ⟨X.K, cm, F', H⟩ (ρ.set i none) σ x := Sls.mono (T := zf) fs (fun _ _ h _ => h) (fun a z => absurd rfl z) _ _ _ (fun _ _ => rfl) h3
      have hl : i < ρ.length := by
        rcases Nat.lt_or_ge i ρ.length with z | z
        · exact z
        · rw [List.getElem?_eq_none_iff.mpr z] at hi; cases hi
      have s2 := s'.put hl h1 o'
      have e0 : Eqf (ad zf x) x := fun a => Nat.zero_add _
      exact k v F' H (ad zf x) zf ((w'.eqf e0).z) ((st.eqf e0).zz .rfl') s2 o'
    · simp only [n, if_false] at k
      exact k.elim
theorem E.mv {i : Nat} {x : Str} {pos : Pos} (hN : X.N[i]? = some x) (hv : Vis X.env.scope x) (hd : (x == ("__debug__" : Str)) = false := by decide) (hcd : (x == ("__classdict__" : Str)) = false := by decide) : GE X cm W (.Name x pos) (rMv i) := by
  refine ⟨_, pe_var hN hv hd hcd, fun σ F H T ρ Q w s k => ?_⟩
  unfold rMv at k
  cases hg : gt ρ i with
  | none => rw [hg] at k; exact k.elim
  | some d =>
    rw [hg] at k
    obtain ⟨v, g, x, h1, h2, h3, h4⟩ := s.get (gt_some hg)
    have e : Eqf (ad x g) T := fun a => by rw [h4 a, ad_ap, ad_ap]; omega
    exact ⟨v, h1, k v F H x g (w.eqf e) (Stp.refl.eqf e) h3 h2⟩
/-- two expressions in a row, what the first one gave stays -/
theorem two {S : Sc} {ta tb : TE} {f g : ME} (ha : SpE S W ta f) (hb : SpE S W tb g) {σ : L2.St} {F H : Hp} {T : Fp} {ρ : Env} (w : Wd F H T) (s : Sls (S.at F H) ρ σ T) {R : V → V → Hp → Prop} {k : D → D → Env → Re} {Q : VK}
    (h : EndE S W σ F H T ((f ρ).bind fun a ρ1 => (g ρ1).bind fun b ρ2 => k a b ρ2) Q)
    (hk : ∀ a b ρ2 x y F' H' T' C1 C2, Wd F' H' (ad (ad T' C2) C1) → Stp F H T F' H' (ad (ad T' C2) C1) → Sls (S.at F' H') ρ2 σ T' → Ow (S.at F' H') a x C1 → Ow (S.at F' H') b y C2 → EndE S W σ F' H' (ad (ad T' C2) C1) (k a b ρ2) Q → R x y H') :
    ta σ H fun x H1 => tb σ H1 fun y H2 => R x y H2 := by
  refine ha σ F H T ρ _ w s ?_
  cases e : f ρ with
  | no => rw [e] at h; exact h
  | ex z ρ1 => rw [e] at h; exact h
  | ok a ρ1 =>
    rw [e] at h
    intro x F1 H1 T1 C1 w1 s1 l1 o1
    have h' : EndE S W σ F1 H1 (ad T1 C1) ((g ρ1).bind fun b ρ2 => k a b ρ2) Q := EndE.step s1 w1 h
    refine hb σ F1 H1 T1 ρ1 _ w1.part l1 ?_
    cases e2 : g ρ1 with
    | no => rw [e2] at h'; exact h'
    | ex z ρ2 =>
      rw [e2] at h'
      intro c dd F2 H2 T2 k1 k2 w2 s2 l2
      obtain ⟨w3, s3⟩ := w1.frame s2 w2
      have h2 := h' c dd F2 H2 T2 k1 k2 w2
      refine h2 ?_ l2
      exact ⟨s3.keep, s3.mono, fun a q1 q2 q3 => ⟨by have := (s3.back a q1 q2 q3).1; rw [ad_ap] at this; omega, (s3.back a q1 q2 q3).2⟩⟩
    | ok b ρ2 =>
      rw [e2] at h'
      intro y F2 H2 T2 C2 w2 s2 l2 o2
      obtain ⟨w3, s3⟩ := w1.frame s2 w2
      exact hk a b ρ2 x y F2 H2 T2 C1 C2 w3 (s1.trans w1 s3) l2 (w1.keepOw s2 o1) o2 (EndE.step s3 w3 h')
theorem drop2 {F H F' H' : Hp} {T T' C1 C2 : Fp} (w : Wd F' H' (ad (ad T' C2) C1)) (s : Stp F H T F' H' (ad (ad T' C2) C1)) : Wd F' H' T' ∧ Stp F H T F' H' T' :=
  ⟨w.part.part, s.keep, s.mono, fun a q1 q2 q3 => ⟨by have := (s.back a q1 q2 q3).1; rw [ad_ap, ad_ap] at this; omega, (s.back a q1 q2 q3).2⟩⟩
theorem rOp_sp {r : R2} {op : D → D → Option D} {S : Sc} {ta tb : TE} {f g : ME} (o : OpOk S.K r op) (ha : SpE S W ta f) (hb : SpE S W tb g) : SpE S W (tOp r ta tb) (rOp op f g) := by
  intro σ F H T ρ Q w s h
  refine two ha hb w s (R := fun x y H' => r x y H' Q) h fun a b ρ2 x y F' H' T' C1 C2 w' s' l o1 o2 h' => ?_
  cases e : op a b with
  | none => rw [e] at h'; exact h'.elim
  | some d =>
    rw [e] at h'
    refine o _ F' H' x y a b d C1 C2 Q w'.sub (fun a z => w'.mu a (by rw [ad_ap]; omega)) (fun a z => w'.mu a (by rw [ad_ap, ad_ap]; omega)) e o1 o2 fun z oz => ?_
    obtain ⟨w2, s2⟩ := drop2 w' (Stp.refl (F := F') (H := H') (T := ad (ad T' C2) C1))
    exact h' z F' H' T' zf w2.z (s2.zz .rfl') l oz
theorem vOp_sp {r : R2} {op : D → D → Option D} {S : Sc} {ta tb : TE} {f g : MV} (o : OpOk S.K r op) (ha : SpV S ta f) (hb : SpV S tb g) : SpV S (tOp r ta tb) (vOp op f g) := by
  intro σ F H T ρ d Q w s h k
  unfold vOp at h
  cases e1 : f ρ with
  | none => rw [e1] at h; cases h
  | some a =>
    cases e2 : g ρ with
    | none => rw [e1, e2] at h; cases h
    | some b =>
      rw [e1, e2] at h
      have h : op a b = some d := h
      refine ha σ F H T ρ a _ w s e1 fun x f1 o1 l1 => hb σ F H T ρ b _ w s e2 fun y f2 o2 l2 => ?_
      exact o _ F H x y a b d f1 f2 Q w.sub (muOf w l1) (muOf w l2) h o1 o2 fun z oz => k z zf oz fun _ => Nat.zero_le _
theorem E.op {p : Operator} {r : R2} {op : D → D → Option D} {a b : Expr} {pos : Pos} {f g : ME} (hr : OpR X (binaryOp p) r) (o : OpOk X.K r op) (ha : GE X cm W a f) (hb : GE X cm W b g) : GE X cm W (.BinOp a p b pos) (rOp op f g) := by
  obtain ⟨ta, p1, q1⟩ := ha
  obtain ⟨tb, p2, q2⟩ := hb
  exact ⟨_, pe_op hr p1 p2, rOp_sp o q1 q2⟩
theorem Vw.op {p : Operator} {r : R2} {op : D → D → Option D} {a b : Expr} {pos : Pos} {f g : MV} (hr : OpR X (binaryOp p) r) (o : OpOk X.K r op) (ha : GV X cm a f) (hb : GV X cm b g) : GV X cm (.BinOp a p b pos) (vOp op f g) := by
  obtain ⟨ta, p1, q1⟩ := ha
  obtain ⟨tb, p2, q2⟩ := hb
  exact ⟨_, pe_op hr p1 p2, vOp_sp o q1 q2⟩
theorem E.cmp {p : CmpOp} {r : R2} {op : D → D → Option D} {a b : Expr} {pos : Pos} {f g : ME} (hr : OpR X (compareOp p) r) (o : OpOk X.K r op) (hm : behindInMarks p b = false) (ha : GE X cm W a f) (hb : GE X cm W b g) : GE X cm W (.Compare a [p] [b] pos) (rOp op f g) := by
  obtain ⟨ta, p1, q1⟩ := ha
  obtain ⟨tb, p2, q2⟩ := hb
  exact ⟨_, pe_cmpR hr p1 p2 hm, rOp_sp o q1 q2⟩
theorem Vw.cmp {p : CmpOp} {r : R2} {op : D → D → Option D} {a b : Expr} {pos : Pos} {f g : MV} (hr : OpR X (compareOp p) r) (o : OpOk X.K r op) (hm : behindInMarks p b = false) (ha : GV X cm a f) (hb : GV X cm b g) : GV X cm (.Compare a [p] [b] pos) (vOp op f g) := by
  obtain ⟨ta, p1, q1⟩ := ha
  obtain ⟨tb, p2, q2⟩ := hb
  exact ⟨_, pe_cmpR hr p1 p2 hm, vOp_sp o q1 q2⟩
end
end DL
namespace DL
open PySem L2
section
variable {X : Cx} {cm : Str → Option Addr} {W : WX} {S : Sc} {pos : Pos}
/-! ### tests -/
theorem spT_of {t : TE} {f : ME} (h : SpE S W t f) : SpT S W (fun σ H Q => t σ H fun x H1 => ∃ c, x = .bl c ∧ Q c H1) f := by
  intro σ F H T ρ Q w s k
  refine h σ F H T ρ _ w s ?_
  cases e : f ρ with
  | no => rw [e] at k; exact k
  | ex z ρ1 => rw [e] at k; exact k
  | ok d ρ1 =>
    rw [e] at k
    obtain ⟨b, rfl, k⟩ := k
    intro v F1 H1 T1 C w1 s1 l1 o
    obtain ⟨rfl, ec⟩ := (show v = .bl b ∧ Eqf C zf from o)
    exact ⟨b, rfl, k F1 H1 T1 w1.part (s1.eqf fun a => by rw [ad_ap, ec a]; rfl) l1⟩
theorem T.val {e : Expr} {f : ME} (h : GE X cm W e f) (he : ∀ whole, isTrue e X.env whole = (do let v ← whole; standAt e.pos; holding [v] (truthy v)) := by intro _; rfl) : GT X cm W e f := by
  obtain ⟨t, p, q⟩ := h
  exact ⟨_, pt_val p he, spT_of q⟩
theorem T.cmp {p : CmpOp} {r : R2} {op : D → D → Option D} {a b : Expr} {f g : ME} (hr : OpR X (compareOp p) r) (o : OpOk X.K r op) (hm : behindInMarks p b = false) (ha : GE X cm W a f) (hb : GE X cm W b g) : GT X cm W (.Compare a [p] [b] pos) (rOp op f g) := by
  obtain ⟨ta, p1, q1⟩ := ha
  obtain ⟨tb, p2, q2⟩ := hb
  exact ⟨_, pt_cmpR hr p1 p2 hm, spT_of (rOp_sp o q1 q2)⟩
theorem T.cmpV {p : CmpOp} {r : R2} {op : D → D → Option D} {a b : Expr} {f g : MV} (hr : OpR X (compareOp p) r) (o : OpOk X.K r op) (hm : behindInMarks p b = false) (ha : GV X cm a f) (hb : GV X cm b g) : GT X cm W (.Compare a [p] [b] pos) (rV (vOp op f g)) := by
  obtain ⟨ta, p1, q1⟩ := ha
  obtain ⟨tb, p2, q2⟩ := hb
  exact ⟨_, pt_cmpR hr p1 p2 hm, spT_of (rV_sp (vOp_sp o q1 q2))⟩
def vChain (op op' : D → D → Option D) (f g h : MV) : MV := fun ρ => (f ρ).bind fun a => (g ρ).bind fun b => (op a b).bind fun c => match c with
  | .bl true => (h ρ).bind fun d => op' b d
  | .bl false => some (.bl false)
  | _ => none
theorem chain_sp {r r' : R2} {op op' : D → D → Option D} {ta tb tc : TE} {f g h : MV} (o : OpOk S.K r op) (o' : OpOk S.K r' op') (q1 : SpV S ta f) (q2 : SpV S tb g) (q3 : SpV S tc h) : SpV S (tChain r r' ta tb tc) (vChain op op' f g h) := by
  intro σ F H T ρ d Q w s e k
  unfold vChain at e
  obtain ⟨a, e1, e⟩ := Option.bind_eq_some_iff.mp e
  obtain ⟨b, e2, e⟩ := Option.bind_eq_some_iff.mp e
  obtain ⟨c, e3, e⟩ := Option.bind_eq_some_iff.mp e
  refine q1 σ F H T ρ a _ w s e1 fun x f1 o1 l1 => q2 σ F H T ρ b _ w s e2 fun y f2 o2 l2 => ?_
  refine o S.cm F H x y a b c f1 f2 _ w.sub (muOf w l1) (muOf w l2) e3 o1 o2 fun z oz => ?_
  cases c with
  | bl c =>
    obtain ⟨rfl, _⟩ := (show z = .bl c ∧ Eqf zf zf from oz)
    refine ⟨c, rfl, ?_⟩
    cases c with
    | true =>
      obtain ⟨d', e4, e5⟩ := Option.bind_eq_some_iff.mp e
      rw [if_pos rfl]
      exact q3 σ F H T ρ d' _ w s e4 fun u f3 o3 l3 => o' S.cm F H y u b d' d f2 f3 _ w.sub (muOf w l2) (muOf w l3) e5 o2 o3 fun z oz => k z zf oz fun _ => Nat.zero_le _
    | false =>
      cases e
      rw [if_neg Bool.false_ne_true]
      exact k _ zf ⟨rfl, .rfl'⟩ fun _ => Nat.zero_le _
  | _ => cases e
theorem Vw.chain {p p' : CmpOp} {r r' : R2} {op op' : D → D → Option D} {a b c : Expr} {f g h : MV} (hr : OpR X (compareOp p) r) (o : OpOk X.K r op) (hr' : OpR X (compareOp p') r') (o' : OpOk X.K r' op') (ha : GV X cm a f) (hb : GV X cm b g) (hc : GV X cm c h)
    (hm : lastMarks [p, p'] [b, c] = false := by with_unfolding_all rfl) : GV X cm (.Compare a [p, p'] [b, c] pos) (vChain op op' f g h) := by
  obtain ⟨ta, p1, q1⟩ := ha
  obtain ⟨tb, p2, q2⟩ := hb
  obtain ⟨tc, p3, q3⟩ := hc
  exact ⟨_, pe_chain hr hr' p1 p2 p3 hm, chain_sp o o' q1 q2 q3⟩
theorem T.chain {p p' : CmpOp} {r r' : R2} {op op' : D → D → Option D} {a b c : Expr} {f g h : MV} (hr : OpR X (compareOp p) r) (o : OpOk X.K r op) (hr' : OpR X (compareOp p') r') (o' : OpOk X.K r' op') (ha : GV X cm a f) (hb : GV X cm b g) (hc : GV X cm c h)
    (hm : lastMarks [p, p'] [b, c] = false := by with_unfolding_all rfl) : GT X cm W (.Compare a [p, p'] [b, c] pos) (rV (vChain op op' f g h)) := by
  obtain ⟨ta, p1, q1⟩ := ha
  obtain ⟨tb, p2, q2⟩ := hb
  obtain ⟨tc, p3, q3⟩ := hc
  exact ⟨_, pt_chain hr hr' p1 p2 p3 hm, spT_of (rV_sp (chain_sp o o' q1 q2 q3))⟩
theorem spT_not {t : TT} {f : ME} (h : SpT S W t f) : SpT S W (tNot t) (rNot f) := by
  intro σ F H T ρ Q w s k
  refine h σ F H T ρ _ w s ?_
  unfold rNot at k
  cases e : f ρ with
  | no => rw [e] at k; exact k
  | ex z ρ1 => rw [e] at k; exact k
  | ok d ρ1 =>
    rw [e] at k
    cases d with
    | bl b =>
      obtain ⟨c, ec, k⟩ := k
      refine ⟨b, rfl, fun F1 H1 T1 w1 s1 l1 => ?_⟩
      injection ec with ec
      subst ec
      exact k F1 H1 T1 w1 s1 l1
    | _ => exact k.elim
theorem spT_and {t u : TT} {f g : ME} (h1 : SpT S W t f) (h2 : SpT S W u g) : SpT S W (tAnd t u) (rAnd f g) := by
  intro σ F H T ρ Q w s k
  refine h1 σ F H T ρ _ w s ?_
  unfold rAnd at k
  cases e : f ρ with
  | no => rw [e] at k; exact k
  | ex z ρ1 => rw [e] at k; exact k
  | ok d ρ1 =>
    rw [e] at k
    cases d with
    | bl b =>
      refine ⟨b, rfl, fun F1 H1 T1 w1 s1 l1 => ?_⟩
      cases b with
      | true => exact h2 σ F1 H1 T1 ρ1 Q w1 l1 (EndT.step s1 w1 k)
      | false =>
        obtain ⟨c, ec, k⟩ := k
        injection ec with ec
        subst ec
        exact k F1 H1 T1 w1 s1 l1
    | _ => exact k.elim
theorem spT_or {t u : TT} {f g : ME} (h1 : SpT S W t f) (h2 : SpT S W u g) : SpT S W (tOr t u) (rOr f g) := by
  intro σ F H T ρ Q w s k
  refine h1 σ F H T ρ _ w s ?_
  unfold rOr at k
  cases e : f ρ with
  | no => rw [e] at k; exact k
  | ex z ρ1 => rw [e] at k; exact k
  | ok d ρ1 =>
    rw [e] at k
    cases d with
    | bl b =>
      refine ⟨b, rfl, fun F1 H1 T1 w1 s1 l1 => ?_⟩
      cases b with
      | false => exact h2 σ F1 H1 T1 ρ1 Q w1 l1 (EndT.step s1 w1 k)
      | true =>
        obtain ⟨c, ec, k⟩ := k
        injection ec with ec
        subst ec
        exact k F1 H1 T1 w1 s1 l1
    | _ => exact k.elim
theorem T.not {a : Expr} {f : ME} (h : GT X cm W a f) : GT X cm W (.UnaryOp .Not a pos) (rNot f) := by
  obtain ⟨t, p, q⟩ := h
  exact ⟨_, pt_not p, spT_not q⟩
theorem W.and1 {a : Expr} {f : ME} (h : GT X cm W a f) : GW X cm W (.BoolOp .And [a] pos) f := by
  obtain ⟨t, p, q⟩ := h
  exact ⟨_, pw_and1 p, q⟩
theorem W.or1 {a : Expr} {f : ME} (h : GT X cm W a f) : GW X cm W (.BoolOp .Or [a] pos) f := by
  obtain ⟨t, p, q⟩ := h
  exact ⟨_, pw_or1 p, q⟩
theorem W.and {a b : Expr} {r : List Expr} {f g : ME} (h : GT X cm W a f) (h2 : GW X cm W (.BoolOp .And (b :: r) pos) g) : GW X cm W (.BoolOp .And (a :: b :: r) pos) (rAnd f g) := by
  obtain ⟨t, p, q⟩ := h
  obtain ⟨t2, p2, q2⟩ := h2
  exact ⟨_, pw_and p p2, spT_and q q2⟩
theorem W.or {a b : Expr} {r : List Expr} {f g : ME} (h : GT X cm W a f) (h2 : GW X cm W (.BoolOp .Or (b :: r) pos) g) : GW X cm W (.BoolOp .Or (a :: b :: r) pos) (rOr f g) := by
  obtain ⟨t, p, q⟩ := h
  obtain ⟨t2, p2, q2⟩ := h2
  exact ⟨_, pw_or p p2, spT_or q q2⟩
theorem T.w {e : Expr} {f : ME} (h : GW X cm W e f) : GT X cm W e f := by
  obtain ⟨t, p, q⟩ := h
  exact ⟨_, p.pt, q⟩
/-! ### and, or, not, if as values -/
theorem spE_not {t : TE} {f : ME} (h : SpE S W t f) : SpE S W (tNotV t) (rNot f) := by
  intro σ F H T ρ Q w s k
  refine h σ F H T ρ _ w s ?_
  unfold rNot at k
  cases e : f ρ with
  | no => rw [e] at k; exact k
  | ex z ρ1 => rw [e] at k; exact k
  | ok d ρ1 =>
    rw [e] at k
    cases d with
    | bl b =>
      intro v F1 H1 T1 C w1 s1 l1 o
      obtain ⟨rfl, ec⟩ := (show v = .bl b ∧ Eqf C zf from o)
      exact ⟨b, rfl, k _ F1 H1 T1 C w1 s1 l1 ⟨rfl, ec⟩⟩
    | _ => exact k.elim
theorem dropC {F H F' H' : Hp} {T T' C : Fp} (w : Wd F' H' (ad T' C)) (s : Stp F H T F' H' (ad T' C)) (e : Eqf C zf) : Wd F' H' T' ∧ Stp F H T F' H' T' :=
  ⟨w.part, s.eqf fun a => by rw [ad_ap, e a]; rfl⟩
theorem spE_and {ta tb : TE} {f g : ME} (h1 : SpE S W ta f) (h2 : SpE S W tb g) : SpE S W (tAndV ta tb) (rAnd f g) := by
  intro σ F H T ρ Q w s k
  refine h1 σ F H T ρ _ w s ?_
  unfold rAnd at k
  cases e : f ρ with
  | no => rw [e] at k; exact k
  | ex z ρ1 => rw [e] at k; exact k
  | ok d ρ1 =>
    rw [e] at k
    cases d with
    | bl b =>
      intro v F1 H1 T1 C w1 s1 l1 o
      obtain ⟨rfl, ec⟩ := (show v = .bl b ∧ Eqf C zf from o)
      refine ⟨b, rfl, ?_⟩
      obtain ⟨w2, s2⟩ := dropC w1 s1 ec
      cases b with
      | true =>
        rw [if_pos rfl]
        exact h2 σ F1 H1 T1 ρ1 Q w2 l1 (EndE.step s2 w2 k)
      | false =>
        rw [if_neg Bool.false_ne_true]
        exact k _ F1 H1 T1 zf w2.z (s2.zz .rfl') l1 ⟨rfl, .rfl'⟩
    | _ => exact k.elim
theorem spE_or {ta tb : TE} {f g : ME} (h1 : SpE S W ta f) (h2 : SpE S W tb g) : SpE S W (tOrV ta tb) (rOr f g) := by
  intro σ F H T ρ Q w s k
  refine h1 σ F H T ρ _ w s ?_
  unfold rOr at k
  cases e : f ρ with
  | no => rw [e] at k; exact k
  | ex z ρ1 => rw [e] at k; exact k
  | ok d ρ1 =>
    rw [e] at k
    cases d with
    | bl b =>
      intro v F1 H1 T1 C w1 s1 l1 o
      obtain ⟨rfl, ec⟩ := (show v = .bl b ∧ Eqf C zf from o)
      refine ⟨b, rfl, ?_⟩
      obtain ⟨w2, s2⟩ := dropC w1 s1 ec
      cases b with
      | false =>
        rw [if_neg Bool.false_ne_true]
        exact h2 σ F1 H1 T1 ρ1 Q w2 l1 (EndE.step s2 w2 k)
      | true =>
        rw [if_pos rfl]
        exact k _ F1 H1 T1 zf w2.z (s2.zz .rfl') l1 ⟨rfl, .rfl'⟩
    | _ => exact k.elim
theorem E.not {a : Expr} {f : ME} (h : GE X cm W a f) : GE X cm W (.UnaryOp .Not a pos) (rNot f) := by
  obtain ⟨t, p, q⟩ := h
  exact ⟨_, pe_not p, spE_not q⟩
theorem E.bo1 {p : BoolOp} {a : Expr} {f : ME} (h : GE X cm W a f) : GE X cm W (.BoolOp p [a] pos) f := by
  obtain ⟨t, p, q⟩ := h
  exact ⟨_, pe_one p, q⟩
theorem E.and {a b : Expr} {r : List Expr} {f g : ME} (h : GE X cm W a f) (h2 : GE X cm W (.BoolOp .And (b :: r) pos) g) : GE X cm W (.BoolOp .And (a :: b :: r) pos) (rAnd f g) := by
  obtain ⟨t, p, q⟩ := h
  obtain ⟨t2, p2, q2⟩ := h2
  exact ⟨_, pe_and p p2, spE_and q q2⟩
theorem E.or {a b : Expr} {r : List Expr} {f g : ME} (h : GE X cm W a f) (h2 : GE X cm W (.BoolOp .Or (b :: r) pos) g) : GE X cm W (.BoolOp .Or (a :: b :: r) pos) (rOr f g) := by
  obtain ⟨t, p, q⟩ := h
  obtain ⟨t2, p2, q2⟩ := h2
  exact ⟨_, pe_or p p2, spE_or q q2⟩
theorem E.ite {c a b : Expr} {h f g : ME} (hc : GT X cm W c h) (ha : GE X cm W a f) (hb : GE X cm W b g) : GE X cm W (.IfExp c a b pos) (rIf h f g) := by
  obtain ⟨t0, p0, q0⟩ := hc
  obtain ⟨t, p, q⟩ := ha
  obtain ⟨t2, p2, q2⟩ := hb
  refine ⟨_, pe_ifExp p0 p p2, fun σ F H T ρ Q w s k => ?_⟩
  refine q0 σ F H T ρ _ w s ?_
  unfold rIf at k
  cases e : h ρ with
  | no => rw [e] at k; exact k
  | ex z ρ1 => rw [e] at k; exact k
  | ok d ρ1 =>
    rw [e] at k
    cases d with
    | bl b =>
      refine ⟨b, rfl, fun F1 H1 T1 w1 s1 l1 => ?_⟩
      cases b with
      | true =>
        rw [if_pos rfl]
        exact q σ F1 H1 T1 ρ1 Q w1 l1 (EndE.step s1 w1 k)
      | false =>
        rw [if_neg Bool.false_ne_true]
        exact q2 σ F1 H1 T1 ρ1 Q w1 l1 (EndE.step s1 w1 k)
    | _ => exact k.elim
theorem un_sp {r : V → Hp → VK → Prop} {op : D → Option D} {ta : TE} {f : MV} (o : UnOk S.K r op) (ha : SpV S ta f) : SpV S (tUn r ta) (vUn op f) := by
  intro σ F H T ρ d Q w s e k
  unfold vUn at e
  obtain ⟨a, e1, e⟩ := Option.bind_eq_some_iff.mp e
  exact ha σ F H T ρ a _ w s e1 fun x f1 o1 l1 => o S.cm F H x a d f1 Q w.sub (muOf w l1) e o1 fun z oz => k z zf oz fun _ => Nat.zero_le _
theorem Vw.un {p : UnaryOp} {r : V → Hp → VK → Prop} {op : D → Option D} {a : Expr} {f : MV} (hr : UnR X (unaryOp p) r) (o : UnOk X.K r op) (h : GV X cm a f) : GV X cm (.UnaryOp p a pos) (vUn op f) := by
  obtain ⟨t, p, q⟩ := h
  exact ⟨_, pe_un hr p, un_sp o q⟩
theorem E.un {p : UnaryOp} {r : V → Hp → VK → Prop} {op : D → Option D} {a : Expr} {f : ME} (hr : UnR X (unaryOp p) r) (o : UnOk X.K r op) (h : GE X cm W a f) : GE X cm W (.UnaryOp p a pos) (rUn op f) := by
  obtain ⟨t, p, q⟩ := h
  refine ⟨_, pe_un hr p, fun σ F H T ρ Q w s k => ?_⟩
  refine q σ F H T ρ _ w s ?_
  unfold rUn at k
  cases e : f ρ with
  | no => rw [e] at k; exact k
  | ex z ρ1 => rw [e] at k; exact k
  | ok d ρ1 =>
    rw [e] at k
    intro v F1 H1 T1 C w1 s1 l1 o1
    cases e2 : op d with
    | none =>
      have k : EndE _ W σ F H T (Re.of (op d) ρ1) Q := k
      rw [e2] at k; exact k.elim
    | some z =>
      have k : EndE _ W σ F H T (Re.of (op d) ρ1) Q := k
      rw [e2] at k
      refine o cm F1 H1 v d z C Q w1.sub (fun a h => w1.mu a (by rw [ad_ap]; omega)) e2 o1 fun y oy => ?_
      have s2 : Stp F H T F1 H1 T1 := ⟨s1.keep, s1.mono, fun a q1 q2 q3 => ⟨by have := (s1.back a q1 q2 q3).1; rw [ad_ap] at this; omega, (s1.back a q1 q2 q3).2⟩⟩
      exact k y F1 H1 T1 zf w1.part.z (s2.zz .rfl') l1 oy
end
end DL
namespace DL
open PySem L2
/-! ### targets -/
abbrev MG := D → Env → Option Env
abbrev MGs := List D → Env → Option Env
def gN (i : Nat) : MG := fun d ρ => some (ρ.set i (some d))
def gsNil : MGs := fun ds ρ => match ds with
  | [] => some ρ
  | _ => none
def gsCons (m : MG) (ms : MGs) : MGs := fun ds ρ => match ds with
  | d :: r => (m d ρ).bind fun ρ1 => ms r ρ1
  | [] => none
def gT (n : Nat) (ms : MGs) : MG := fun d ρ => match d with
  | .nd .tup _ xs => if xs.length = n then ms xs ρ else none
  | _ => none
def SpG (S : Sc) (wr : Nat → Bool) (g : TG) (m : MG) : Prop := ∀ v σ F H T C ρ d ρ' (Q : L2.St → Hp → Prop), Wd F H (ad T C) → Sls (S.at F H) ρ σ T → Ow (S.at F H) d v C → m d ρ = some ρ' →
  (∀ σ' F' H' T', NW wr σ σ' → Wd F' H' T' → Stp F H (ad T C) F' H' T' → Sls (S.at F' H') ρ' σ' T' → Q σ' H') → g v σ H Q
def SpGs (S : Sc) (wr : Nat → Bool) (g : TGs) (m : MGs) : Prop := ∀ vs σ F H T C ρ ds ρ' (Q : L2.St → Hp → Prop), Wd F H (ad T C) → Sls (S.at F H) ρ σ T → Ows (S.at F H) ds vs C → m ds ρ = some ρ' →
  (∀ σ' F' H' T', NW wr σ σ' → Wd F' H' T' → Stp F H (ad T C) F' H' T' → Sls (S.at F' H') ρ' σ' T' → Q σ' H') → g vs σ H Q
def GG (X : Cx) (cm : Str → Option Addr) (wr : Nat → Bool) (tg : Expr) (m : MG) : Prop := ∃ g, PG X tg g ∧ SpG ⟨X.K, cm⟩ wr g m
def GGs (X : Cx) (cm : Str → Option Addr) (wr : Nat → Bool) (tg : List Expr) (m : MGs) : Prop := ∃ g, PGs X tg g ∧ SpGs ⟨X.K, cm⟩ wr g m
def w1 (i : Nat) : Nat → Bool := fun j => j == i
def w0 : Nat → Bool := fun _ => false
def wo (a b : Nat → Bool) : Nat → Bool := fun j => a j || b j
theorem NW.wl {a b : Nat → Bool} {σ σ' : L2.St} (h : NW a σ σ') : NW (wo a b) σ σ' := fun i z => h i (by unfold wo at z; cases e : a i; rfl; rw [e] at z; cases z)
theorem NW.wr {a b : Nat → Bool} {σ σ' : L2.St} (h : NW b σ σ') : NW (wo a b) σ σ' := fun i z => h i (by unfold wo at z; cases e : a i; rw [e] at z; exact z; rw [e] at z; cases z)
theorem NW.trans {a : Nat → Bool} {σ σ1 σ2 : L2.St} (h : NW a σ σ1) (h2 : NW a σ1 σ2) : NW a σ σ2 := fun i z => (h2 i z).trans (h i z)
theorem NW.refl {a : Nat → Bool} {σ : L2.St} : NW a σ σ := fun _ _ => rfl
theorem NW.set {i : Nat} {σ : L2.St} {v : Option V} : NW (w1 i) σ (σ.set i v) := fun j z => by
  have h : i ≠ j := fun e => by
    subst e
    unfold w1 at z
    rw [beq_self_eq_true] at z; cases z
  exact List.getElem?_set_ne h
theorem Sls.setSome {E : HE} {ρ : Env} {σ : L2.St} {f g : Fp} {i : Nat} {d : D} {w : V} (s : Sls E ρ σ f) (o : Ow E d w g) : ∃ T', Sls E (ρ.set i (some d)) (σ.set i (some w)) T' ∧ ∀ a, T' a ≤ f a + g a := by
  obtain ⟨h, s1, l⟩ := s.forget i
  by_cases hi : i < ρ.length
  · exact ⟨ad g h, s1.store hi o, fun a => by rw [ad_ap]; have := l a; omega⟩
  · have e1 : ρ.set i (some d) = ρ := List.set_eq_of_length_le (by omega)
    have e2 : σ.set i (some w) = σ := List.set_eq_of_length_le (by rw [← s.len]; omega)
    rw [e1, e2]
    exact ⟨f, s, fun a => by omega⟩
theorem Stp.le {F H : Hp} {T T' : Fp} (h : ∀ a, T' a ≤ T a) : Stp F H T F H T' := ⟨fun _ _ h _ => h, Sub.refl _, fun a _ z f => ⟨by have := h a; omega, f⟩⟩
section
variable {X : Cx} {cm : Str → Option Addr} {W : WX} {S : Sc} {pos : Pos} {wr wr' : Nat → Bool}
theorem gName_sp {i : Nat} : SpG S (w1 i) (gName i) (gN i) := by
  intro v σ F H T C ρ d ρ' Q w s o e k
  cases e
  obtain ⟨T', s', l⟩ := s.setSome (i := i) o
  exact k _ F H T' .set (w.le l) (Stp.le l) s'
theorem G.name {i : Nat} {x : Str} (hN : X.N.Nodup) (hi : X.N[i]? = some x) (hx : Loc X.env.scope x) (hf : X.fn x = true ∨ X.env.scope.names.lookup x = some .local := by first | exact .inl rfl | exact .inr rfl | assumption) : GG X cm (w1 i) (.Name x pos) (gN i) :=
  ⟨_, pg_name hN hi hx hf, gName_sp⟩
theorem Gs.nil : GGs X cm w0 [] gsNil := by
  refine ⟨_, pgs_nil, fun vs σ F H T C ρ ds ρ' Q w s o e k => ?_⟩
  cases ds with
  | nil =>
    cases e
    obtain ⟨rfl, ec⟩ := (show vs = [] ∧ Eqf C zf from o)
    exact ⟨rfl, k σ F H T .refl w.part (Stp.le fun a => by rw [ad_ap]; omega) s⟩
  | cons d r => cases e
theorem Gs.cons {e : Expr} {es : List Expr} {m : MG} {ms : MGs} (h : GG X cm wr e m) (h2 : GGs X cm wr' es ms) (hs : (assignEach (e :: es) X.env).map (·.2) = assign e X.env :: (assignEach es X.env).map (·.2) := by rfl) : GGs X cm (wo wr wr') (e :: es) (gsCons m ms) := by
  obtain ⟨g, p, q⟩ := h
  obtain ⟨g2, p2, q2⟩ := h2
  refine ⟨_, pgs_cons p p2 hs, fun vs σ F H T C ρ ds ρ' Q w s o e k => ?_⟩
  cases ds with
  | nil => cases e
  | cons d r =>
    obtain ⟨ρ1, e1, e2⟩ := Option.bind_eq_some_iff.mp e
    obtain ⟨v, vr, f, x, rfl, o1, o2, ec⟩ := o
    refine ⟨v, vr, rfl, ?_⟩
    have w3 : Wd F H (ad (ad T f) x) := w.eqf fun a => by simp only [ad_ap]; rw [ec a, ad_ap]; omega
    refine q v σ F H T f ρ d ρ1 _ w3.part s o1 e1 fun σ1 F1 H1 T1 n1 w1 s1 l1 => ?_
    obtain ⟨w4, s4⟩ := w3.frame s1 w1
    have o2' := w3.keepOws s1 o2
    refine q2 vr σ1 F1 H1 T1 x ρ1 r ρ' _ w4 l1 o2' e2 fun σ2 F2 H2 T2 n2 w2 s2 l2 => ?_
    exact k σ2 F2 H2 T2 (n1.wl.trans n2.wr) w2 ((s4.trans w4 s2).eqfL fun a => by simp only [ad_ap]; rw [ec a, ad_ap]; omega) l2
theorem G.tup {es : List Expr} {k : Nat} {ms : MGs} {n : Nat} (hc : X.calm = true) (h : GGs X cm wr es ms) (hn : (assignEach es X.env).length = n := by rfl) (hst : (assignEach es X.env).findIdx? (·.1) = none := by rfl) : GG X cm wr (.Tuple es k pos) (gT n ms) := by
  obtain ⟨g, p, q⟩ := h
  refine ⟨_, pg_tup hc p hn hst, fun v σ F H T C ρ d ρ' Q w s o e k => ?_⟩
  cases d with
  | nd kk oo xs =>
    cases kk with
    | tup =>
      have e : (if xs.length = n then ms xs ρ else none) = some ρ' := e
      by_cases hl : xs.length = n
      · rw [if_pos hl] at e
        obtain ⟨a, ws, f, rfl, hs, hnd⟩ := o
        rcases hnd with ⟨_, _, ht, ec⟩ | ⟨_, ha, _⟩ | ⟨_, ha, _⟩
        · refine ⟨a, ws, rfl, SqT.of (w.sub _ _ ht), by rw [← hs.len]; exact hl, ?_⟩
          have e2 : Eqf (ad T f) (ad T C) := fun a => by simp only [ad_ap]; rw [ec a]
          exact q ws σ F H T f ρ xs ρ' Q (w.eqf e2) s hs e fun σ1 F1 H1 T1 n1 w1 s1 l1 => k σ1 F1 H1 T1 n1 w1 (s1.eqfL e2.symm) l1
        · exact ha.elim
        · exact ha.elim
      · rw [if_neg hl] at e; cases e
    | _ => cases e
  | _ => cases e
/-! ### statements -/
def mSeq (g h : MS) : MS := fun ρ => match g ρ with
  | .nx ρ1 => h ρ1
  | r => r
def mNx : MS := fun ρ => .nx ρ
def mAsg (f : ME) (m : MG) : MS := fun ρ => match f ρ with
  | .ok d ρ1 => match m d ρ1 with
    | some ρ2 => .nx ρ2
    | none => .no
  | .ex e ρ1 => .ex e ρ1
  | .no => .no
def mRet (f : ME) : MS := fun ρ => match f ρ with
  | .ok d ρ1 => .rt d ρ1
  | .ex e ρ1 => .ex e ρ1
  | .no => .no
def mRetN : MS := fun ρ => .rt .non ρ
def mDo (f : ME) : MS := fun ρ => match f ρ with
  | .ok _ ρ1 => .nx ρ1
  | .ex e ρ1 => .ex e ρ1
  | .no => .no
def mIf (c : ME) (g h : MS) : MS := fun ρ => match c ρ with
  | .ok (.bl true) ρ1 => g ρ1
  | .ok (.bl false) ρ1 => h ρ1
  | .ok _ _ => .no
  | .ex e ρ1 => .ex e ρ1
  | .no => .no
def mBk : MS := fun ρ => .bk ρ
def mCt : MS := fun ρ => .ct ρ
/-- a statement that is never reached -/
def mNo : MS := fun _ => .no
theorem wof {a b : Nat → Bool} {i : Nat} (h : wo a b i = false) : a i = false ∧ b i = false := by
  unfold wo at h
  rw [Bool.or_eq_false_iff] at h
  exact h
theorem EndS.wl {a b : Nat → Bool} {σ : L2.St} {F H : Hp} {T : Fp} {r : Ou} {D : Ends} (h : EndS S W (wo a b) σ F H T r D) : EndS S W a σ F H T r D := by
  cases r with
  | nx ρ => exact fun σ' F' H' T' x => h σ' F' H' T' (NW.wl x)
  | bk ρ => exact fun σ' F' H' T' x => h σ' F' H' T' (NW.wl x)
  | ct ρ => exact fun σ' F' H' T' x => h σ' F' H' T' (NW.wl x)
  | rt d ρ => exact fun v σ' F' H' T' C x => h v σ' F' H' T' C (NW.wl x)
  | ex e ρ => exact fun c dd σ' F' H' T' x => h c dd σ' F' H' T' (NW.wl x)
  | no => exact h
theorem EndS.wR {a b : Nat → Bool} {σ : L2.St} {F H : Hp} {T : Fp} {r : Ou} {D : Ends} (h : EndS S W (wo a b) σ F H T r D) : EndS S W b σ F H T r D := by
  cases r with
  | nx ρ => exact fun σ' F' H' T' x => h σ' F' H' T' (NW.wr x)
  | bk ρ => exact fun σ' F' H' T' x => h σ' F' H' T' (NW.wr x)
  | ct ρ => exact fun σ' F' H' T' x => h σ' F' H' T' (NW.wr x)
  | rt d ρ => exact fun v σ' F' H' T' C x => h v σ' F' H' T' C (NW.wr x)
  | ex e ρ => exact fun c dd σ' F' H' T' x => h c dd σ' F' H' T' (NW.wr x)
  | no => exact h
theorem seq_sp {t u : TS} {g h : MS} (q1 : SpS S W wr t g) (q2 : SpS S W wr' u h) : SpS S W (wo wr wr') (tSeq t u) (mSeq g h) := by
  intro σ F H T ρ D w s k
  refine q1 σ F H T ρ _ w s ?_
  unfold mSeq at k
  cases e : g ρ with
  | nx ρ1 =>
    rw [e] at k
    exact fun σ1 F1 H1 T1 n1 w1 s1 l1 => q2 σ1 F1 H1 T1 ρ1 D w1 l1 (EndS.wR (EndS.step (NW.wl n1) s1 w1 k))
  | rt d ρ1 => rw [e] at k; exact EndS.wl k
  | bk ρ1 => rw [e] at k; exact EndS.wl k
  | ct ρ1 => rw [e] at k; exact EndS.wl k
  | ex d ρ1 => rw [e] at k; exact EndS.wl k
  | no => rw [e] at k; exact k
theorem B.nil : GB X cm W w0 [] mNx := ⟨_, pss_nil, fun σ F H T ρ D w s k => k σ F H T .refl w .refl s⟩
theorem B.one {st : Stmt} {g : MS} (h : GS X cm W wr st g) : GB X cm W wr [st] g := by
  obtain ⟨t, p, q⟩ := h
  exact ⟨_, pss_one p, q⟩
theorem B.cons {st : Stmt} {r : List Stmt} {g h : MS} (h1 : GS X cm W wr st g) (h2 : GB X cm W wr' r h) : GB X cm W (wo wr wr') (st :: r) (mSeq g h) := by
  obtain ⟨t, p, q⟩ := h1
  obtain ⟨t2, p2, q2⟩ := h2
  exact ⟨_, pss_cons p p2, seq_sp q q2⟩
theorem B.no {r : List Stmt} : GB X cm W w0 r mNo := ⟨_, pss_never, fun _ _ _ _ _ _ _ _ k => k.elim⟩
theorem S.no {st : Stmt} : GS X cm W w0 st mNo := ⟨_, ps_never, fun _ _ _ _ _ _ _ _ k => k.elim⟩
theorem asg_sp {te : TE} {g : TG} {f : ME} {m : MG} (q : SpE S W te f) (q2 : SpG S wr g m) : SpS S W wr (tAsg te g) (mAsg f m) := by
  intro σ F H T ρ D w s k
  refine q σ F H T ρ _ w s ?_
  unfold mAsg at k
  cases e : f ρ with
  | no => rw [e] at k; exact k
  | ex z ρ1 =>
    rw [e] at k
    exact fun c dd F1 H1 T1 x y w1 s1 l1 => k c dd σ F1 H1 T1 .refl x y w1 s1 l1
  | ok d ρ1 =>
    rw [e] at k
    intro v F1 H1 T1 C w1 s1 l1 o
    cases e2 : m d ρ1 with
    | none =>
      have k : EndS S W wr σ F H T (match m d ρ1 with | some ρ2 => Ou.nx ρ2 | none => .no) D := k
      rw [e2] at k; exact k.elim
    | some ρ2 =>
      have k : EndS S W wr σ F H T (match m d ρ1 with | some ρ2 => Ou.nx ρ2 | none => .no) D := k
      rw [e2] at k
      exact q2 v σ F1 H1 T1 C ρ1 d ρ2 _ w1 l1 o e2 fun σ2 F2 H2 T2 n2 w2 s2 l2 => k σ2 F2 H2 T2 n2 w2 (s1.trans w1 s2) l2
theorem S.asg {tg e : Expr} {f : ME} {m : MG} (h : GE X cm W e f) (hg : GG X cm wr tg m) (hs : swapsWithSole [tg] e pos.line X.env = pure false := by rfl) (hw : swappedStores [tg] e X.env = pure none := by rfl)
    (h1 : (assignEach [tg] X.env).map (·.2) = [assign tg X.env] := by rfl) : GS X cm W wr (.Assign [tg] e pos) (mAsg f m) := by
  obtain ⟨t, p, q⟩ := h
  obtain ⟨g, p2, q2⟩ := hg
  exact ⟨_, ps_asg p p2 hs hw h1, asg_sp q q2⟩
theorem S.set {i : Nat} {x : Str} {e : Expr} {f : ME} {pos' : Pos} (hN : X.N.Nodup) (hi : X.N[i]? = some x) (hx : Loc X.env.scope x) (h : GE X cm W e f) (hs : swapsWith e (some (.Name x pos')) pos.line X.env = pure false := by rfl)
    (hf : X.fn x = true ∨ X.env.scope.names.lookup x = some .local := by first | exact .inl rfl | exact .inr rfl | assumption) : GS X cm W (w1 i) (.Assign [.Name x pos'] e pos) (mAsg f (gN i)) := by
  obtain ⟨t, p, q⟩ := h
  exact ⟨_, ps_set hN hi hx p hs hf, asg_sp q gName_sp⟩
theorem S.ret {e : Expr} {f : ME} (h : GE X cm W e f) : GS X cm W w0 (.Return (some e) pos) (mRet f) := by
  obtain ⟨t, p, q⟩ := h
  refine ⟨_, ps_ret p, fun σ F H T ρ D w s k => ?_⟩
  refine q σ F H T ρ _ w s ?_
  unfold mRet at k
  cases e : f ρ with
  | no => rw [e] at k; exact k
  | ex z ρ1 =>
    rw [e] at k
    exact fun c dd F1 H1 T1 x y w1 s1 l1 => k c dd σ F1 H1 T1 .refl x y w1 s1 l1
  | ok d ρ1 =>
    rw [e] at k
    exact fun v F1 H1 T1 C w1 s1 l1 o => k v σ F1 H1 T1 C .refl w1 s1 l1 o
theorem S.retN : GS X cm W w0 (.Return none pos) mRetN :=
  ⟨_, ps_retN, fun σ F H T ρ D w s k => k _ σ F H T zf .refl w.z (Stp.refl.zz .rfl') s ⟨rfl, .rfl'⟩⟩
theorem S.do {e : Expr} {f : ME} (h : GE X cm W e f) (hs : swapsWith e none pos.line X.env = pure false := by rfl) : GS X cm W w0 (.Expr e pos) (mDo f) := by
  obtain ⟨t, p, q⟩ := h
  refine ⟨_, ps_expr p hs, fun σ F H T ρ D w s k => ?_⟩
  refine q σ F H T ρ _ w s ?_
  unfold mDo at k
  cases e : f ρ with
  | no => rw [e] at k; exact k
  | ex z ρ1 =>
    rw [e] at k
    exact fun c dd F1 H1 T1 x y w1 s1 l1 => k c dd σ F1 H1 T1 .refl x y w1 s1 l1
  | ok d ρ1 =>
    rw [e] at k
    intro v F1 H1 T1 C w1 s1 l1 o
    have le : ∀ a, T1 a ≤ ad T1 C a := fun a => by rw [ad_ap]; omega
    exact k σ F1 H1 T1 .refl w1.part (s1.trans w1 (Stp.le le)) l1
theorem S.pass : GS X cm W w0 (.Pass pos) mNx := ⟨_, ps_pass, fun σ F H T ρ D w s k => k σ F H T .refl w .refl s⟩
theorem S.brk : GS X cm W w0 (.Break pos) mBk := ⟨_, ps_break, fun σ F H T ρ D w s k => k σ F H T .refl w .refl s⟩
theorem S.cnt : GS X cm W w0 (.Continue pos) mCt := ⟨_, ps_continue, fun σ F H T ρ D w s k => k σ F H T .refl w .refl s⟩
theorem S.if {c : Expr} {a b : List Stmt} {f : ME} {g h : MS} (hc : GT X cm W c f) (ha : GB X cm W wr a g) (hb : GB X cm W wr' b h) : GS X cm W (wo wr wr') (.If c a b pos) (mIf f g h) := by
  obtain ⟨t0, p0, q0⟩ := hc
  obtain ⟨t, p, q⟩ := ha
  obtain ⟨t2, p2, q2⟩ := hb
  refine ⟨_, ps_if p0 p p2, fun σ F H T ρ D w s k => ?_⟩
  refine q0 σ F H T ρ _ w s ?_
  unfold mIf at k
  cases e : f ρ with
  | no => rw [e] at k; exact k
  | ex z ρ1 =>
    rw [e] at k
    exact fun c dd F1 H1 T1 x y w1 s1 l1 => k c dd σ F1 H1 T1 .refl x y w1 s1 l1
  | ok d ρ1 =>
    rw [e] at k
    cases d with
    | bl b =>
      refine ⟨b, rfl, fun F1 H1 T1 w1 s1 l1 => ?_⟩
      cases b with
      | true =>
        rw [if_pos rfl]
        exact q σ F1 H1 T1 ρ1 D w1 l1 (EndS.wl (EndS.step .refl s1 w1 k))
      | false =>
        rw [if_neg Bool.false_ne_true]
        exact q2 σ F1 H1 T1 ρ1 D w1 l1 (EndS.wR (EndS.step .refl s1 w1 k))
    | _ => exact k.elim
/-! ### loops -/
def mWhile (c : ME) (b : MS) : Nat → MS
  | 0 => fun _ => .no
  | n + 1 => fun ρ => match c ρ with
    | .ok (.bl true) ρ1 => match b ρ1 with
      | .nx ρ2 => mWhile c b n ρ2
      | .ct ρ2 => mWhile c b n ρ2
      | .bk ρ2 => .nx ρ2
      | .rt d ρ2 => .rt d ρ2
      | .ex e ρ2 => .ex e ρ2
      | .no => .no
    | .ok (.bl false) ρ1 => .nx ρ1
    | .ok _ _ => .no
    | .ex e ρ1 => .ex e ρ1
    | .no => .no
theorem while_sp {tc : TT} {tb : TS} {c : ME} {b : MS} (n : Nat) (q1 : SpT S W tc c) (q2 : SpS S W wr tb b) : SpS S W wr (tWhile tc tb) (mWhile c b n) := by
  intro σ F H T ρ D w s k
  refine ⟨fun m σ H => ∃ F T ρ, Wd F H T ∧ Sls (S.at F H) ρ σ T ∧ EndS S W wr σ F H T (mWhile c b m ρ) D, ⟨n, F, T, ρ, w, s, k⟩, ?_⟩
  rintro m σ H ⟨F, T, ρ, w, s, k⟩
  cases m with
  | zero => exact k.elim
  | succ m =>
    refine q1 σ F H T ρ _ w s ?_
    unfold mWhile at k
    cases e : c ρ with
    | no => rw [e] at k; exact k
    | ex z ρ1 =>
      rw [e] at k
      exact fun c dd F1 H1 T1 x y w1 s1 l1 => k c dd σ F1 H1 T1 .refl x y w1 s1 l1
    | ok d ρ1 =>
      rw [e] at k
      cases d with
      | bl t =>
        refine ⟨t, rfl, fun F1 H1 T1 w1 s1 l1 => ?_⟩
        cases t with
        | false =>
          rw [if_neg Bool.false_ne_true]
          exact k σ F1 H1 T1 .refl w1 s1 l1
        | true =>
          rw [if_pos rfl]
          refine ⟨fun σ' H' => ∃ F T ρ, Wd F H' T ∧ Sls (S.at F H') ρ σ' T ∧ EndS S W wr σ' F H' T (mWhile c b m ρ) D, fun σ' H' z => ⟨m, Nat.lt_succ_self _, z⟩, ?_⟩
          refine q2 σ F1 H1 T1 ρ1 _ w1 l1 ?_
          have k : EndS S W wr σ F H T (match b ρ1 with
            | .nx ρ2 => mWhile c b m ρ2
            | .ct ρ2 => mWhile c b m ρ2
            | .bk ρ2 => .nx ρ2
            | .rt d ρ2 => .rt d ρ2
            | .ex e ρ2 => .ex e ρ2
            | .no => .no) D := k
          have k := EndS.step .refl s1 w1 k
          cases e2 : b ρ1 with
          | no => rw [e2] at k; exact k
          | ex z ρ2 => rw [e2] at k; exact k
          | rt z ρ2 => rw [e2] at k; exact k
          | bk ρ2 => rw [e2] at k; exact k
          | nx ρ2 =>
            rw [e2] at k
            exact fun σ2 F2 H2 T2 n2 w2 s2 l2 => ⟨F2, T2, ρ2, w2, l2, EndS.step n2 s2 w2 k⟩
          | ct ρ2 =>
            rw [e2] at k
            exact fun σ2 F2 H2 T2 n2 w2 s2 l2 => ⟨F2, T2, ρ2, w2, l2, EndS.step n2 s2 w2 k⟩
      | _ => exact k.elim
theorem S.while (n : Nat) {c : Expr} {body : List Stmt} {f : ME} {g : MS} (hp : PassesOwn (model X.prog X.w) X.A X.env X.xe) (hc : GT X cm W c f) (hb : GB X cm W wr body g) : GS X cm W wr (.While c body [] pos) (mWhile f g n) := by
  obtain ⟨t, p, q⟩ := hc
  obtain ⟨t2, p2, q2⟩ := hb
  exact ⟨_, ps_while hp p p2, while_sp n q q2⟩
abbrev MI := Env → Option (List D × Env)
/-- what an iterator gives, turn by turn -/
def Itok (S : Sc) (J : It) (F : Hp) (ds : List D) : Prop := ∀ i F' H', Sub F F' → Sub F' H' →
  (∀ d, ds[i]? = some d → J.go i H' ∧ ∀ x H'', J.yld i H' x H'' → ∃ F'', Sub F' F'' ∧ Sub F'' H'' ∧ Sub H' H'' ∧ (∀ a, H' a ≠ none → F'' a = F' a) ∧ Ow (S.at F'' H'') d x zf) ∧ (ds.length ≤ i → J.stop i H')
def SpI (S : Sc) (wi : TI) (f : MI) : Prop := ∀ σ F H T ρ R ds ρ1, Wd F H T → Sls (S.at F H) ρ σ T → f ρ = some (ds, ρ1) →
  (∀ J F1 H1 T1, Wd F1 H1 T1 → Stp F H T F1 H1 T1 → Sls (S.at F1 H1) ρ1 σ T1 → Itok S J F1 ds → R J H1) → wi σ H R
def GI (X : Cx) (cm : Str → Option Addr) (tg iter : Expr) (f : MI) : Prop := ∃ wi, PI X tg iter wi ∧ SpI ⟨X.K, cm⟩ wi f
def mLoop (m : MG) (b : MS) : List D → MS
  | [] => fun ρ => .nx ρ
  | d :: ds => fun ρ => match m d ρ with
    | none => .no
    | some ρ1 => match b ρ1 with
      | .nx ρ2 => mLoop m b ds ρ2
      | .ct ρ2 => mLoop m b ds ρ2
      | .bk ρ2 => .nx ρ2
      | .rt d ρ2 => .rt d ρ2
      | .ex e ρ2 => .ex e ρ2
      | .no => .no
def mFor (f : MI) (m : MG) (b : MS) : MS := fun ρ => match f ρ with
  | some (ds, ρ1) => mLoop m b ds ρ1
  | none => .no
theorem grown {F H F' H' : Hp} {T : Fp} (w : Wd F H T) (a : Sub F F') (b : Sub F' H') (c : Sub H H') (d : ∀ x, H x ≠ none → F' x = F x) : Wd F' H' T ∧ Stp F H T F' H' T := by
  have hm : ∀ x, T x ≠ 0 → H x ≠ none := fun x z e => by
    have := w.mu x z
    rw [e] at this; exact this
  refine ⟨⟨b, w.one, fun x z => (d x (hm x z)).trans (w.off x z), fun x z => ?_⟩, ⟨fun x o h _ => c x o h, a, fun x h1 h2 h3 => ⟨h2, (d x (fun e => by rw [e] at h1; exact h1)).trans h3⟩⟩⟩
  have := w.mu x z
  cases e : H x with
  | none => exact absurd e (hm x z)
  | some o => rw [c x o e, ← e]; exact this
theorem for_sp {wi : TI} {g : TG} {tb : TS} {f : MI} {m : MG} {b : MS} (q1 : SpI S wi f) (q2 : SpG S wr g m) (q3 : SpS S W wr' tb b) : SpS S W (wo wr wr') (tFor wi g tb) (mFor f m b) := by
  intro σ F H T ρ D w s k
  unfold mFor at k
  cases e : f ρ with
  | none => rw [e] at k; exact k.elim
  | some p =>
    obtain ⟨ds, ρ1⟩ := p
    rw [e] at k
    refine q1 σ F H T ρ _ ds ρ1 w s e fun J F1 H1 T1 w1 s1 l1 it => ?_
    have k : EndS S W (wo wr wr') σ F H T (mLoop m b ds ρ1) D := k
    refine ⟨fun i n σ H => n = ds.length - i ∧ i ≤ ds.length ∧ ∃ F T ρ, Wd F H T ∧ Sub F1 F ∧ Sls (S.at F H) ρ σ T ∧ EndS S W (wo wr wr') σ F H T (mLoop m b (ds.drop i) ρ) D,
      ⟨ds.length, rfl, Nat.zero_le _, F1, T1, ρ1, w1, Sub.refl _, l1, EndS.step .refl s1 w1 k⟩, ?_⟩
    rintro i n σ2 H2 ⟨rfl, hi, F2, T2, ρ2, w2, f2, l2, k2⟩
    obtain ⟨go, stop⟩ := it i F2 H2 f2 w2.sub
    by_cases hlt : i < ds.length
    · refine .inr ?_
      have hd : ds.drop i = ds[i] :: ds.drop (i + 1) := List.drop_eq_getElem_cons hlt
      rw [hd] at k2
      obtain ⟨go1, go2⟩ := go _ (List.getElem?_eq_getElem hlt)
      refine ⟨go1, fun σ' H' => ∃ F T ρ, Wd F H' T ∧ Sub F1 F ∧ Sls (S.at F H') ρ σ' T ∧ EndS S W (wo wr wr') σ' F H' T (mLoop m b (ds.drop (i + 1)) ρ) D, fun σ' H' z => ⟨ds.length - (i + 1), by omega, rfl, by omega, z⟩, fun x H3 y => ?_⟩
      obtain ⟨F3, a1, a2, a3, a4, o⟩ := go2 x H3 y
      obtain ⟨w3, s3⟩ := grown w2 a1 a2 a3 a4
      have k3 := EndS.step .refl s3 w3 k2
      have l3 : Sls (S.at F3 H3) ρ2 σ2 T2 := Sls.mono (T := zf) a1 (fun a o h _ => a3 a o h) (fun a z => absurd rfl z) _ _ _ (fun _ _ => rfl) l2
      unfold mLoop at k3
      cases e3 : m ds[i] ρ2 with
      | none =>
        rw [e3] at k3
        exact k3.elim
      | some ρ3 =>
        rw [e3] at k3
        refine q2 x σ2 F3 H3 T2 zf ρ2 _ ρ3 _ w3.z l3 o e3 fun σ4 F4 H4 T4 n4 w4 s4 l4 => ?_
        have s4' : Stp F3 H3 T2 F4 H4 T4 := s4.eqfL (adz T2).symm
        refine q3 σ4 F4 H4 T4 ρ3 _ w4 l4 ?_
        have k3 : EndS S W (wo wr wr') σ2 F3 H3 T2 (match b ρ3 with
          | .nx ρ2 => mLoop m b (ds.drop (i + 1)) ρ2
          | .ct ρ2 => mLoop m b (ds.drop (i + 1)) ρ2
          | .bk ρ2 => .nx ρ2
          | .rt d ρ2 => .rt d ρ2
          | .ex e ρ2 => .ex e ρ2
          | .no => .no) D := k3
        have k4 := EndS.step n4.wl s4' w4 k3
        have f4 : Sub F1 F4 := (f2.trans a1).trans s4.mono
        cases e4 : b ρ3 with
        | no => rw [e4] at k4; exact k4
        | ex z ρ4 => rw [e4] at k4; exact EndS.wR k4
        | rt z ρ4 => rw [e4] at k4; exact EndS.wR k4
        | bk ρ4 => rw [e4] at k4; exact EndS.wR (r := .nx ρ4) k4
        | nx ρ4 =>
          rw [e4] at k4
          exact fun σ5 F5 H5 T5 n5 w5 s5 l5 => ⟨F5, T5, ρ4, w5, f4.trans s5.mono, l5, EndS.step n5.wr s5 w5 k4⟩
        | ct ρ4 =>
          rw [e4] at k4
          exact fun σ5 F5 H5 T5 n5 w5 s5 l5 => ⟨F5, T5, ρ4, w5, f4.trans s5.mono, l5, EndS.step n5.wr s5 w5 k4⟩
    · have ei : i = ds.length := by omega
      subst ei
      refine .inl ⟨stop (Nat.le_refl _), ?_⟩
      rw [List.drop_length] at k2
      exact k2 σ2 F2 H2 T2 .refl w2 .refl l2
theorem S.for {tg iter : Expr} {body : List Stmt} {f : MI} {m : MG} {b : MS} (hp : PassesOwn (model X.prog X.w) X.A X.env X.xe) (hc : X.calm = true) (hi : GI X cm tg iter f) (hg : GG X cm wr tg m) (hb : GB X cm W wr' body b)
    (hs : ∀ x, foldedSetIterable iter X.env x = pure x := by intro _; rfl) : GS X cm W (wo wr wr') (.For tg iter body [] pos) (mFor f m b) := by
  obtain ⟨wi, p, q⟩ := hi
  obtain ⟨g, p2, q2⟩ := hg
  obtain ⟨t, p3, q3⟩ := hb
  exact ⟨_, ps_for hp hc p p2 p3 hs, for_sp q q2 q3⟩
end
end DL
namespace DL
open PySem L2 PyProof.Rows
/-! ### defs, where no repr is under way -/
structure FnG (P : Program) (w : World) (K : PySem.W.Frag) (mg : Str → Option Value) (base : Heap) (k : Nat) (f : Addr) (fd : FuncData) (ps : List Str) (sp : Sp) : Prop where
  len : ∀ vs H Q E, sp vs H Q E → vs.length = ps.length
  run : ∀ (A : Around) (outer : List PySem.Env) (s : Shared) (H : Hp) (args : Args) (us : List Value) (vs : List V) (Q : VK) (E : XK), A.guards = some [] → Room k A → Env0 P w K mg base A outer s H →
    BindsTo s fd args (ps.zip us) → Vals vs us → sp vs H Q E → codeAny (model P w) A (.call (.ref f) args) (CR (L2.CX P w) outer P w H s Q E) s
section
variable {P : Program} {w : World} {K : PySem.W.Frag} {mg : Str → Option Value} {base : Heap} {x qual : Str} {st : Stmt} {dvs : List V} {f : Addr} {fd : FuncData}
theorem FnG.mono {j k : Nat} {ps : List Str} {sp : Sp} (F : FnG P w K mg base j f fd ps sp) (h : j ≤ k) : FnG P w K mg base k f fd ps sp :=
  ⟨F.len, fun A o s H a us vs Q E g r => F.run A o s H a us vs Q E g (r.mono h)⟩
theorem FnG.of {N ps : List Str} {k : Nat} {sp : Sp} (Fd : FunD K x qual (defArgs st) (defBody st) (defScope st) dvs [] f fd) (Sc : FnScope N ps (defScope st)) (len : ∀ vs H Q E, sp vs H Q E → vs.length = ps.length)
    (body : ∀ (cdv : Value) (A : Around) (outer : List PySem.Env) (s : Shared) (H : Hp) (vs : List V) (Q : VK) (E : XK), A.guards = some [] → Room k (A.deeper (envOfC qual (defScope st) s.heap.objs.size f cdv)) → sp vs H Q E →
      ∃ t, PSs (cxOf (L2.CX P w) P w K mg base N qual (defScope st) f cdv A outer s H E) (defBody st) t ∧ t { nx := fun _ H1 => Q .non H1, rt := Q } (start N vs) H) : FnG P w K mg base (k + 1) f fd ps sp := by
  obtain ⟨o1, o2, d1, d2, d3, d4, a1, c1, c2, sl, rfl, look, code, _, _⟩ := Fd.ex
  refine ⟨len, fun A outer s H args us vs Q E guards room e0 bnd rel want => ?_⟩
  have hlen := len _ _ _ _ want
  have inK : K.In s.heap := e0.mod.kin.keeps fun b o e => (e0.bs b o e).1
  have unlim : s.heap.NoLimit := e0.mod.nolimit.keeps fun b o e => (e0.bs b o e).1
  refine codeAny_call_function room.depth (inK _ _ look) rfl Sc.co Sc.gen rfl (PySem.W.codeRec_of inK code) (bnd _ _ _ _ ?_)
  refine wpAny_newFunctionEnv_cells Sc.kind (fun y hy => ?_) fun env he s1 inside => ?_
  · obtain ⟨nm, vl⟩ := y
    exact (Sc.par nm (List.of_mem_zip hy).1).elim .inl fun q => .inr ⟨q, PySem.W.cellsFrom_some _ _ _ (.inl q)⟩
  subst he
  obtain ⟨t, der, rd⟩ := body c1 A outer s H vs Q E guards (room.deeper _) want
  have I0 : Inv (cxOf (L2.CX P w) P w K mg base N qual (defScope st) f c1 A outer s H E) [] (start N vs) H s1 := inv_start Sc room.hd e0 hlen rel inside
  refine ⟨unlim.keeps inside.toInCall.keep, codeAny_func (wpAny_mono (der.run [] s1 (start N vs) H _ I0 rd) (fun fl s2 done => ?_) fun e s2 done => done)⟩
  cases fl with
  | ret u =>
    obtain ⟨v, σ2, H2, J, rv, q⟩ := done
    exact ⟨v, H2, J.os, J.bare, J.base, J.hok, rv, q⟩
  | next =>
    obtain ⟨σ2, H2, J, q⟩ := done
    exact ⟨.non, H2, J.os, J.bare, J.base, J.hok, rfl, q⟩
  | brk =>
    obtain ⟨_, _, _, q⟩ := done
    exact q.elim
  | cont =>
    obtain ⟨_, _, _, q⟩ := done
    exact q.elim
end
section
variable {X : Cx} {k : Nat} {f : Addr} {fd : FuncData} {ps : List Str} {sp : Sp} {W : WX}
/-- behind a callee -/
theorem back_of {pins : List (Addr × Obj)} {σ : L2.St} {H : Hp} {s : Shared} {Q : VK} (tk : Takes X W) (I : Inv X pins σ H s) {r : Result} {s' : Shared}
    (h : CR (L2.CX X.prog X.w) X.stack X.prog X.w H s Q (fun c d H1 => W c d σ H1) r s') : (match r with | .ok (.ret u) => EP X pins σ Q u s' | .ok _ => False | .error e => X.xe e s') := by
  cases r with
  | error e => exact passAt tk σ pins H s e s' I h
  | ok fl =>
    cases fl with
    | ret u => exact I.after h
    | _ => exact h
theorem runG {pins : List (Addr × Obj)} {σ : L2.St} {H : Hp} {s : Shared} {Q : VK} {us : List Value} {kw : List (Str × Value)} {full : List Value} {vs : List V} (F : FnG X.prog X.w X.K X.mg X.base k f fd ps sp) (hg : X.A.guards = some []) (hr : Room k X.A)
    (hb : BindsTo s fd ⟨us, kw⟩ (ps.zip full)) (tk : Takes X W) (I : Inv X pins σ H s) (r : Vals vs full) (h : sp vs H Q fun c d H1 => W c d σ H1) : wpAny (model X.prog X.w) X.A (call (.ref f) us kw) (EP X pins σ Q) X.xe s := by
  refine wpAny_call (codeAny_mono (F.run X.A X.stack s H ⟨us, kw⟩ full vs Q _ hg hr I.env0 hb r h) fun r s' z => ?_)
  have := back_of tk I z
  cases r with
  | error e => exact this
  | ok fl =>
    cases fl with
    | ret u => exact this
    | next => exact False.elim this
    | brk => exact False.elim this
    | cont => exact False.elim this
def tG (sp : Sp) (W : WX) (dvs : List V) (t : TA) : TE := fun σ H Q => t σ H fun vs H1 => sp (vs ++ dvs) H1 Q fun c d H2 => W c d σ H2
variable {x : Str} {p pos : Pos} {e : Expr} {es : List Expr} {t : TA} {ds : List Value} {dvs : List V}
theorem peG (F : FnG X.prog X.w X.K X.mg X.base k f fd ps sp) (hg : X.A.guards = some []) (hr : Room k X.A) (tk : Takes X W) (hgl : Gl X x) (hm : X.mg x = some (.ref f)) (hk : PySem.W.keepIn X.K (.ref f) = true) (hb : Binds X.K fd ps ds) (hd : Vals dvs ds)
    (ha : PA X (e :: es) t) (hdb : (x == ("__debug__" : Str)) = false := by decide) (he : starEach (e :: es) X.env = (false, eval e X.env) :: starEach es X.env := by rfl) (hpl : (backTo pos (starEach es X.env)).any (·.1) = false := by rfl) :
    PE X (.Call (.Name x p) (e :: es) [] pos) (tG sp W dvs t) := by
  refine ⟨fun pins s σ H Q I h => wpAny_Call_Name_kw (ld_glob I hgl hm ?_ hdb)⟩
  refine PySem.W.callWith_K (h₀ := X.base) I.ok.mod.kin hk (thn (ha.run pos pins s σ H _ I h) ?_) he hpl
  rintro us s1 ⟨vs, H1, I1, r, q⟩
  have r2 := r.append hd
  exact ⟨I1.kIn, runG F hg hr (hb s1 us I1.kIn (by rw [← r2.length]; exact F.len _ _ _ _ q)) tk I1 r2 q⟩
theorem peG0 (F : FnG X.prog X.w X.K X.mg X.base k f fd ps sp) (hg : X.A.guards = some []) (hr : Room k X.A) (tk : Takes X W) (hgl : Gl X x) (hm : X.mg x = some (.ref f)) (hk : PySem.W.keepIn X.K (.ref f) = true) (hb : Binds X.K fd ps ds) (hd : Vals dvs ds)
    (hdb : (x == ("__debug__" : Str)) = false := by decide) : PE X (.Call (.Name x p) [] [] pos) (tG sp W dvs tNil) := by
  refine ⟨fun pins s σ H Q I h => wpAny_Call_Name_kw (ld_glob I hgl hm ?_ hdb)⟩
  have r2 : Vals ([] ++ dvs) ([] ++ ds) := Vals.append .nil hd
  exact PySem.W.callWith_K0 I.kIn hk (runG (us := []) F hg hr (hb s [] I.kIn (by rw [← r2.length]; exact F.len _ _ _ _ h)) tk I r2 h)
/-- f(k = v, ..): keywords alone, put in the parameters' order by g -/
def tGK (m : Nat) (sp : Sp) (W : WX) (gV : List V → List V → List V) (t : TA) : TE := fun σ H Q => t σ H fun zs H1 => zs.length = m ∧ sp (gV [] zs) H1 Q fun c d H2 => W c d σ H2
theorem peGK {kws : List Keyword} {ks : List Str} {g : List Value → List Value → List Value} {gV : List V → List V → List V} (F : FnG X.prog X.w X.K X.mg X.base k f fd ps sp) (hg : X.A.guards = some []) (hr : Room k X.A) (tk : Takes X W) (hgl : Gl X x) (hm : X.mg x = some (.ref f))
    (hk : PySem.W.keepIn X.K (.ref f) = true) (hb : KBn X.K fd ps 0 ks g gV) (hkw : PK X kws t) (hall : (backToKw pos (keywordEach kws X.env)).all (·.1.isSome) = true := by rfl) (hks : (backToKw pos (keywordEach kws X.env)).filterMap (·.1) = ks := by rfl)
    (hdb : (x == ("__debug__" : Str)) = false := by decide) (hpl : ((backTo pos (starEach [] X.env)).any (·.1) || (backToKw pos (keywordEach kws X.env)).any (·.1.isNone)) = false := by rfl) :
    PE X (.Call (.Name x p) [] kws pos) (tGK ks.length sp W gV t) := by
  refine ⟨fun pins s σ H Q I h => wpAny_Call_Name_kw (ld_glob I hgl hm ?_ hdb)⟩
  refine PySem.W.callWith_KW0 (h₀ := X.base) I.ok.mod.kin hk hall (thn (hkw.run pos pins s σ H _ I h) ?_) hpl
  rintro ws s2 ⟨zs, H2, I2, rz, l2, q2⟩
  rw [hks]
  have r2 : Vals (gV [] zs) (g [] ws) := hb.rel .nil rz
  exact ⟨I2.kIn, runG (us := []) F hg hr (hb.to s2 [] ws I2.kIn rfl (rz.length.symm.trans l2)) tk I2 r2 q2⟩
end
/-! ### a def's meaning -/
abbrev Fn := List D → Re
def wD : (L2.St → XK) → WX := fun E c d σ H => E σ c d H
def SpD (S : Sc) (n : Nat) (fn : Fn) : Sp := fun vs H Q E => vs.length = n ∧ ∃ F T ds, Wd F H T ∧ Ows (S.at F H) ds vs T ∧ EndE S (fun c d _ H1 => E c d H1) (vs.map some) F H T (fn ds) Q
/-- the slots that are told back -/
def msk : List Bool → Env → Env
  | [], _ => []
  | _ :: m, [] => none :: msk m []
  | b :: m, o :: ρ => (if b = true then o else none) :: msk m ρ
def defFn (n : Nat) (io : List Bool) (g : MS) : Fn := fun ds => match g (ds.map some ++ List.replicate (n - ds.length) none) with
  | .rt d ρ => .ok d (msk io ρ)
  | .nx ρ => .ok .non (msk io ρ)
  | .ex e ρ => .ex e (msk io ρ)
  | _ => .no
theorem Sls.empty {E : HE} : ∀ (n : Nat) (σ : L2.St), σ.length = n → Sls E (List.replicate n none) σ zf
  | 0, σ, h => ⟨List.eq_nil_of_length_eq_zero h, .rfl'⟩
  | n + 1, [], h => by cases h
  | n + 1, w :: r, h => ⟨w, r, rfl, Sls.empty n r (Nat.succ.inj h)⟩
theorem Sls.start {E : HE} : ∀ {ds : List D} {vs : List V} {T : Fp} (ρ : Env) (σ : L2.St), Ows E ds vs T → Sls E ρ σ zf → Sls E (ds.map some ++ ρ) (vs.map some ++ σ) T
  | [], vs, T, ρ, σ, o, s => by
    obtain ⟨rfl, e⟩ := (show vs = [] ∧ Eqf T zf from o)
    exact s.eqf e
  | d :: ds, vs, T, ρ, σ, o, s => by
    obtain ⟨w, r, g, h, rfl, o1, o2, e⟩ := o
    exact ⟨w, _, g, h, rfl, o1, Sls.start ρ σ o2 s, e⟩
theorem Sls.msk {E : HE} : ∀ (m : List Bool) {ρ : Env} {σ : L2.St} {T : Fp} (vs : List V), Sls E ρ σ T → vs.length = m.length → (∀ i : Nat, m[i]? = some true → σ[i]? = (vs.map some)[i]?) → ∃ T', Sls E (DL.msk m ρ) (vs.map some) T' ∧ ∀ a, T' a ≤ T a
  | [], ρ, σ, T, vs, s, h, _ => by
    have : vs = [] := List.eq_nil_of_length_eq_zero h
    subst this
    exact ⟨zf, ⟨rfl, .rfl'⟩, fun a => Nat.zero_le _⟩
  | b :: m, [], σ, T, [], s, h, _ => by cases h
  | b :: m, [], σ, T, v :: vs, s, h, hi => by
    obtain ⟨rfl, e⟩ := s
    obtain ⟨T', s', l⟩ := Sls.msk (ρ := []) (σ := []) (T := T) m vs ⟨rfl, e⟩ (Nat.succ.inj h) fun i e => by
      have := hi (i + 1) e
      simpa using this
    exact ⟨T', ⟨_, _, rfl, s'⟩, l⟩
  | b :: m, o :: ρ, σ, T, [], s, h, _ => by cases h
  | b :: m, none :: ρ, σ, T, v :: vs, s, h, hi => by
    obtain ⟨w, r, rfl, s⟩ := s
    obtain ⟨T', s', l⟩ := Sls.msk m vs s (Nat.succ.inj h) fun i e => hi (i + 1) e
    refine ⟨T', ?_, l⟩
    show Sls E ((if b = true then none else none) :: DL.msk m ρ) (some v :: vs.map some) T'
    rw [ite_self]
    exact ⟨_, _, rfl, s'⟩
  | b :: m, some d :: ρ, σ, T, v :: vs, s, h, hi => by
    obtain ⟨w, r, g, x, rfl, o, s, e⟩ := s
    obtain ⟨T', s', l⟩ := Sls.msk m vs s (Nat.succ.inj h) fun i e => hi (i + 1) e
    cases b with
    | false => exact ⟨T', ⟨_, _, rfl, s'⟩, fun a => by rw [e a, ad_ap]; have := l a; omega⟩
    | true =>
      have e0 : some (some w) = some (some v) := hi 0 rfl
      injection e0 with e0
      injection e0 with e0
      subst e0
      exact ⟨ad g T', ⟨w, _, g, T', rfl, o, s', .rfl'⟩, fun a => by rw [e a, ad_ap, ad_ap]; have := l a; omega⟩
theorem Sls.lenS {E : HE} {ρ : Env} {σ : L2.St} {T : Fp} (s : Sls E ρ σ T) : ρ.length = σ.length := s.len
theorem mskEnd {S : Sc} {io : List Bool} {vs : List V} {N : List Str} {wr : Nat → Bool} {F' H' : Hp} {T' : Fp} {ρ : Env} {σ' : L2.St} (hn : vs.length = io.length) (hio : ∀ i : Nat, io[i]? = some true → wr i = false) (n : NW wr (L2.start N vs) σ')
    (l : Sls (S.at F' H') ρ σ' T') : ∃ T2, (∀ a, T2 a ≤ T' a) ∧ Sls (S.at F' H') (DL.msk io ρ) (vs.map some) T2 := by
  obtain ⟨T2, s2, le⟩ := Sls.msk io vs l hn fun i hi => by
    rw [n i (hio i hi)]
    unfold L2.start
    have h1 : i < vs.length := by
      rw [hn]
      exact (List.getElem?_eq_some_iff.mp hi).1
    rw [List.getElem?_append_left (by rw [List.length_map]; exact h1)]
  exact ⟨T2, le, s2⟩
theorem Stp.leR {F H F' H' : Hp} {T T' T2 : Fp} (s : Stp F H T F' H' T') (le : ∀ a, T2 a ≤ T' a) : Stp F H T F' H' T2 :=
  ⟨s.keep, s.mono, fun a h1 h2 h3 => ⟨by have := (s.back a h1 h2 h3).1; have := le a; omega, (s.back a h1 h2 h3).2⟩⟩
section
variable {P : Program} {w : World} {K : PySem.W.Frag} {mg : Str → Option Value} {base : Heap} {x qual : Str} {st : Stmt} {dvs : List V} {f : Addr} {fd : FuncData} {cm : Str → Option Addr}
/-- where a body stands -/
structure BX (X : Cx) (W : WX) (k : Nat) : Prop where
  hg : X.A.guards = some []
  hr : Room k X.A
  tk : Takes X W
  calm : X.calm = true
  po : PassesOwn (model X.prog X.w) X.A X.env X.xe
  sys : ∃ mm, X.base.Ns sysModules mm
theorem FnG.data {N ps : List Str} {k : Nat} {wr : Nat → Bool} {g : MS} (hsy : ∃ mm, base.Ns sysModules mm) (io : List Bool) (Fd : FunD K x qual (defArgs st) (defBody st) (defScope st) dvs [] f fd) (Sc : FnScope N ps (defScope st)) (hl : io.length = ps.length) (hio : ∀ i : Nat, io[i]? = some true → wr i = false)
    (body : ∀ (cdv : Value) (A : Around) (outer : List PySem.Env) (s : Shared) (H : Hp) (E : XK), BX (cxOf (L2.CX P w) P w K mg base N qual (defScope st) f cdv A outer s H E) (fun c d _ H1 => E c d H1) k →
      GB (cxOf (L2.CX P w) P w K mg base N qual (defScope st) f cdv A outer s H E) cm (fun c d _ H1 => E c d H1) wr (defBody st) g) :
    FnG P w K mg base (k + 1) f fd ps (SpD ⟨K, cm⟩ ps.length (defFn N.length io g)) := by
  refine FnG.of Fd Sc (fun vs H Q E h => h.1) fun cdv A outer s H vs Q E hg hr h => ?_
  obtain ⟨hn, F, T, ds, wd, o, kk⟩ := h
  have hx : (cxOf (L2.CX P w) P w K mg base N qual (defScope st) f cdv A outer s H E).xe = fun e s' => wpAny (model P w) (A.deeper (envOfC qual (defScope st) s.heap.objs.size f cdv)) (leaving (envOfC qual (defScope st) s.heap.objs.size f cdv) e) (fun _ s'' => L2.CX P w outer H s E e s'') (fun e' s'' => L2.CX P w outer H s E e' s'') s' := rfl
  obtain ⟨t, p, q⟩ := body cdv A outer s H E ⟨hg, hr, takes_of rfl rfl rfl hx, rfl, passes_of hx, hsy⟩
  refine ⟨t, p, q (L2.start N vs) F H T (ds.map some ++ List.replicate (N.length - ds.length) none) _ wd ?_ ?_⟩
  · unfold L2.start
    rw [o.len]
    exact Sls.start _ _ o (Sls.empty _ _ (List.length_replicate ..))
  · have e : defFn N.length io g ds = (match g (ds.map some ++ List.replicate (N.length - ds.length) none) with
      | .rt d ρ => .ok d (DL.msk io ρ)
      | .nx ρ => .ok .non (DL.msk io ρ)
      | .ex e ρ => .ex e (DL.msk io ρ)
      | _ => .no) := rfl
    rw [e] at kk
    have hn' : vs.length = io.length := hn.trans hl.symm
    cases hgx : g (ds.map some ++ List.replicate (N.length - ds.length) none) with
    | no => rw [hgx] at kk; exact kk
    | bk ρ => rw [hgx] at kk; exact kk.elim
    | ct ρ => rw [hgx] at kk; exact kk.elim
    | rt d ρ =>
      rw [hgx] at kk
      intro v σ' F' H' T' C n w1 s1 l1 o1
      obtain ⟨T2, le, s2⟩ := mskEnd hn' hio n l1
      have le2 : ∀ a, ad T2 C a ≤ ad T' C a := fun a => by simp only [ad_ap]; have := le a; omega
      exact kk v F' H' T2 C (w1.le le2) (s1.leR le2) s2 o1
    | nx ρ =>
      rw [hgx] at kk
      intro σ' F' H' T' n w1 s1 l1
      obtain ⟨T2, le, s2⟩ := mskEnd hn' hio n l1
      exact kk _ F' H' T2 zf (w1.le le).z ((s1.leR le).zz .rfl') s2 ⟨rfl, .rfl'⟩
    | ex e ρ =>
      rw [hgx] at kk
      intro c dd σ' F' H' T' n x1 x2 w1 s1 l1
      obtain ⟨T2, le, s2⟩ := mskEnd hn' hio n l1
      exact kk c dd F' H' T2 x1 x2 (w1.le le) (s1.leR le) s2
end
end DL
namespace DL
open PySem L2 PyProof.Rows
/-! ### what is frozen by the way -/
def rT (f : ME) : ME := fun ρ => match f ρ with
  | .ok d ρ1 => if noObj d = true then .ok (frz d) ρ1 else .no
  | .ex e ρ1 => .ex e ρ1
  | .no => .no
/-- an owned thing becomes frozen -/
theorem tame {K : PySem.W.Frag} {cm : Str → Option Addr} {F H : Hp} {T C : Fp} {d : D} {v : V} (w : Wd F H (ad T C)) (o : Ow ⟨K, cm, F, H⟩ d v C) (n : noObj d = true) :
    ∃ F', Wd F' H T ∧ Stp F H (ad T C) F' H T ∧ Sub F F' ∧ Ow ⟨K, cm, F', H⟩ (frz d) v zf := by
  let F' : Hp := fun a => if C a = 0 then F a else H a
  have hz : ∀ a, C a = 0 → F' a = F a := fun a z => if_pos z
  have hn : ∀ a, C a ≠ 0 → F' a = H a := fun a z => if_neg z
  have fs : Sub F F' := fun a o h => by
    by_cases z : C a = 0
    · rw [hz a z]; exact h
    · have := w.off a (by rw [ad_ap]; omega)
      rw [h] at this; cases this
  refine ⟨F', ⟨fun a o h => ?_, fun a => ?_, fun a z => ?_, fun a z => w.mu a (by rw [ad_ap]; omega)⟩, ⟨fun _ _ h _ => h, fs, fun a h1 h2 h3 => ?_⟩, fs, Ow.frz fs d v C n hn o⟩
  · by_cases z : C a = 0
    · rw [hz a z] at h; exact w.sub a o h
    · rw [hn a z] at h; exact h
  · have := w.one a
    rw [ad_ap] at this; omega
  · have h5 := w.one a
    rw [ad_ap] at h5
    rw [hz a (by omega)]
    exact w.off a (by rw [ad_ap]; omega)
  · rw [ad_ap] at h2
    exact ⟨by omega, by rw [hz a (by omega)]; exact h3⟩
theorem sls_sub {K : PySem.W.Frag} {cm : Str → Option Addr} {F F' H : Hp} {ρ : Env} {σ : L2.St} {T : Fp} (f : Sub F F') (s : Sls ⟨K, cm, F, H⟩ ρ σ T) : Sls ⟨K, cm, F', H⟩ ρ σ T := Sls.mono (T := zf) f (fun _ _ h _ => h) (fun a z => absurd rfl z) _ _ _ (fun _ _ => rfl) s
theorem ow_sub {K : PySem.W.Frag} {cm : Str → Option Addr} {F F' H : Hp} {d : D} {v : V} {T : Fp} (f : Sub F F') (s : Ow ⟨K, cm, F, H⟩ d v T) : Ow ⟨K, cm, F', H⟩ d v T := Ow.mono (T := zf) f (fun _ _ h _ => h) (fun a z => absurd rfl z) _ _ _ (fun _ _ => rfl) s
theorem ows_sub {K : PySem.W.Frag} {cm : Str → Option Addr} {F F' H : Hp} {d : List D} {v : List V} {T : Fp} (f : Sub F F') (s : Ows ⟨K, cm, F, H⟩ d v T) : Ows ⟨K, cm, F', H⟩ d v T := Ows.mono (T := zf) f (fun _ _ h _ => h) (fun a z => absurd rfl z) _ _ _ (fun _ _ => rfl) s
section
variable {X : Cx} {cm : Str → Option Addr} {W : WX} {S : Sc} {pos : Pos}
theorem tame_sp {te : TE} {f : ME} (q : SpE S W te f) : SpE S W te (rT f) := by
  intro σ F H T ρ Q w s k
  refine q σ F H T ρ _ w s ?_
  unfold rT at k
  cases e : f ρ with
  | no => rw [e] at k; exact k
  | ex z ρ1 => rw [e] at k; exact k
  | ok d ρ1 =>
    rw [e] at k
    intro v F1 H1 T1 C w1 s1 l1 o
    have k : EndE S W σ F H T (if noObj d = true then .ok (frz d) ρ1 else .no) Q := k
    by_cases n : noObj d = true
    · rw [if_pos n] at k
      obtain ⟨F2, w2, s2, fs, o2⟩ := tame w1 o n
      exact k v F2 H1 T1 zf w2.z ((s1.trans w1 s2).zz .rfl') (sls_sub fs l1) o2
    · rw [if_neg n] at k
      exact k.elim
theorem E.t {e : Expr} {f : ME} (h : GE X cm W e f) : GE X cm W e (rT f) := by
  obtain ⟨t, p, q⟩ := h
  exact ⟨t, p, tame_sp q⟩
/-! ### argument lists -/
inductive Ag where
  | val (d : D) | io (i : Nat) | bw (i : Nat)
inductive Ra where
  | ok (as : List Ag) (ρ : Env) | ex (e : Xn) (ρ : Env) | no
abbrev MA := Env → Ra
def AgOk (E : HE) (σ : L2.St) : List Ag → List V → Fp → Prop
  | [], vs, f => vs = [] ∧ Eqf f zf
  | .val d :: as, vs, f => ∃ v r g h, vs = v :: r ∧ Ow E d v g ∧ AgOk E σ as r h ∧ Eqf f (ad g h)
  | .io i :: as, vs, f => ∃ v r, vs = v :: r ∧ σ[i]? = some (some v) ∧ AgOk E σ as r f
  | .bw i :: as, vs, f => ∃ v r, vs = v :: r ∧ σ[i]? = some (some v) ∧ AgOk E σ as r f
def IoOk (σ : L2.St) : List Ag → List V → Prop
  | [], vs => vs = []
  | .val _ :: as, vs => ∃ v r, vs = v :: r ∧ IoOk σ as r
  | .io i :: as, vs => ∃ v r, vs = v :: r ∧ σ[i]? = some (some v) ∧ IoOk σ as r
  | .bw i :: as, vs => ∃ v r, vs = v :: r ∧ σ[i]? = some (some v) ∧ IoOk σ as r
def EndA (S : Sc) (W : WX) (σ : L2.St) (F H : Hp) (T : Fp) : Ra → (List V → Hp → Prop) → Prop
  | .ok as ρ, Q => ∀ vs F' H' T' C, Wd F' H' (ad T' C) → Stp F H T F' H' (ad T' C) → Sls (S.at F' H') ρ σ T' → AgOk (S.at F' H') σ as vs C → Q vs H'
  | .ex e ρ, _ => ∀ c dd F' H' T', S.cm e.c = some c → FsOk (S.at F' H') e.fs dd → Wd F' H' T' → Stp F H T F' H' T' → Sls (S.at F' H') ρ σ T' → W (.ref c) dd σ H'
  | .no, _ => False
def SpA (S : Sc) (W : WX) (ta : TA) (m : MA) : Prop := ∀ σ F H T ρ Q, Wd F H T → Sls (S.at F H) ρ σ T → EndA S W σ F H T (m ρ) Q → ta σ H Q
def Ln (m : MA) (n : Nat) : Prop := ∀ ρ as ρ', m ρ = .ok as ρ' → as.length = n
def GA (X : Cx) (cm : Str → Option Addr) (W : WX) (es : List Expr) (m : MA) : Prop := ∃ t, PA X es t ∧ SpA ⟨X.K, cm⟩ W t m ∧ Ln m es.length
def GK (X : Cx) (cm : Str → Option Addr) (W : WX) (ks : List Keyword) (m : MA) : Prop := ∃ t, PK X ks t ∧ SpA ⟨X.K, cm⟩ W t m ∧ Ln m ks.length
def aNil : MA := fun ρ => .ok [] ρ
def aE (f : ME) (m : MA) : MA := fun ρ => match f ρ with
  | .ok d ρ1 => match m ρ1 with
    | .ok as ρ2 => .ok (.val d :: as) ρ2
    | .ex e ρ2 => .ex e ρ2
    | .no => .no
  | .ex e ρ1 => .ex e ρ1
  | .no => .no
def aIo (i : Nat) (m : MA) : MA := fun ρ => match gt ρ i with
  | some _ => match m ρ with
    | .ok as ρ2 => .ok (.io i :: as) ρ2
    | .ex e ρ2 => .ex e ρ2
    | .no => .no
  | none => .no
def aBw (i : Nat) (m : MA) : MA := fun ρ => match gt ρ i with
  | some _ => match m ρ with
    | .ok as ρ2 => .ok (.bw i :: as) ρ2
    | .ex e ρ2 => .ex e ρ2
    | .no => .no
  | none => .no
theorem AgOk.keep {K : PySem.W.Frag} {F H F' H' : Hp} {T B T' : Fp} (w : Wd F H (ad T B)) (s : Stp F H T F' H' T') {σ : L2.St} : ∀ {as : List Ag} {vs : List V} {f : Fp}, (∀ a, f a ≤ B a) → AgOk ⟨K, cm, F, H⟩ σ as vs f → AgOk ⟨K, cm, F', H'⟩ σ as vs f
  | [], _, _, _, h => h
  | .val d :: as, vs, f, le, h => by
    obtain ⟨v, r, g, x, rfl, h1, h2, e⟩ := h
    refine ⟨v, r, g, x, rfl, Ow.mono s.mono s.keep (fun a z => w.mu a (by rw [ad_ap]; omega)) d v g (fun a hb => ?_) h1, AgOk.keep w s (fun a => by have := le a; rw [e a, ad_ap] at this; omega) h2, e⟩
    have h1 := w.one a
    have := le a
    rw [e a, ad_ap] at this
    rw [ad_ap] at h1; omega
  | .io i :: as, vs, f, le, h => by
    obtain ⟨v, r, rfl, h1, h2⟩ := h
    exact ⟨v, r, rfl, h1, AgOk.keep w s le h2⟩
  | .bw i :: as, vs, f, le, h => by
    obtain ⟨v, r, rfl, h1, h2⟩ := h
    exact ⟨v, r, rfl, h1, AgOk.keep w s le h2⟩
theorem AgOk.io {E : HE} {σ : L2.St} : ∀ {as : List Ag} {vs : List V} {f : Fp}, AgOk E σ as vs f → IoOk σ as vs
  | [], _, _, h => h.1
  | .val d :: as, vs, f, h => by
    obtain ⟨v, r, g, x, rfl, h1, h2, e⟩ := h
    exact ⟨v, r, rfl, AgOk.io h2⟩
  | .io i :: as, vs, f, h => by
    obtain ⟨v, r, rfl, h1, h2⟩ := h
    exact ⟨v, r, rfl, h1, AgOk.io h2⟩
  | .bw i :: as, vs, f, h => by
    obtain ⟨v, r, rfl, h1, h2⟩ := h
    exact ⟨v, r, rfl, h1, AgOk.io h2⟩
theorem aE_sp {te : TE} {ta : TA} {f : ME} {m : MA} (q1 : SpE S W te f) (q2 : SpA S W ta m) : SpA S W (tCons te ta) (aE f m) := by
  intro σ F H T ρ Q w s k
  refine q1 σ F H T ρ _ w s ?_
  unfold aE at k
  cases e : f ρ with
  | no => rw [e] at k; exact k
  | ex z ρ1 => rw [e] at k; exact k
  | ok d ρ1 =>
    rw [e] at k
    intro v F1 H1 T1 C w1 s1 l1 o
    refine q2 σ F1 H1 T1 ρ1 _ w1.part l1 ?_
    have k : EndA S W σ F H T (match m ρ1 with
      | .ok as ρ2 => .ok (.val d :: as) ρ2
      | .ex e ρ2 => .ex e ρ2
      | .no => .no) Q := k
    cases e2 : m ρ1 with
    | no => rw [e2] at k; exact k
    | ex z ρ2 =>
      rw [e2] at k
      intro c dd F2 H2 T2 x y w2 s2 l2
      obtain ⟨w3, s3⟩ := w1.frame s2 w2
      exact k c dd F2 H2 T2 x y w2 ((s1.trans w1 s3).leR fun a => by rw [ad_ap]; omega) l2
    | ok as ρ2 =>
      rw [e2] at k
      intro vs F2 H2 T2 C2 w2 s2 l2 o2
      obtain ⟨w3, s3⟩ := w1.frame s2 w2
      have e3 : Eqf (ad T2 (ad C C2)) (ad (ad T2 C2) C) := fun a => by simp only [ad_ap]; omega
      exact k (v :: vs) F2 H2 T2 (ad C C2) (w3.eqf e3) ((s1.trans w1 s3).eqf e3) l2 ⟨v, vs, C, C2, rfl, w1.keepOw s2 o, o2, .rfl'⟩
theorem aIo_sp {i : Nat} {ta : TA} {m : MA} (q2 : SpA S W ta m) : SpA S W (tCons (tVar i) ta) (aIo i m) := by
  intro σ F H T ρ Q w s k
  unfold aIo at k
  cases e : gt ρ i with
  | none => rw [e] at k; exact k.elim
  | some d =>
    rw [e] at k
    obtain ⟨v, g, x, h1, h2, h3, h4⟩ := s.get (gt_some e)
    refine ⟨v, h1, q2 σ F H T ρ _ w s ?_⟩
    have k : EndA S W σ F H T (match m ρ with
      | .ok as ρ2 => .ok (.io i :: as) ρ2
      | .ex e ρ2 => .ex e ρ2
      | .no => .no) Q := k
    cases e2 : m ρ with
    | no => rw [e2] at k; exact k
    | ex z ρ2 => rw [e2] at k; exact k
    | ok as ρ2 =>
      rw [e2] at k
      exact fun vs F2 H2 T2 C2 w2 s2 l2 o2 => k (v :: vs) F2 H2 T2 C2 w2 s2 l2 ⟨v, vs, rfl, h1, o2⟩
theorem aBw_sp {i : Nat} {ta : TA} {m : MA} (q2 : SpA S W ta m) : SpA S W (tCons (tVar i) ta) (aBw i m) := by
  intro σ F H T ρ Q w s k
  unfold aBw at k
  cases e : gt ρ i with
  | none => rw [e] at k; exact k.elim
  | some d =>
    rw [e] at k
    obtain ⟨v, g, x, h1, h2, h3, h4⟩ := s.get (gt_some e)
    refine ⟨v, h1, q2 σ F H T ρ _ w s ?_⟩
    have k : EndA S W σ F H T (match m ρ with
      | .ok as ρ2 => .ok (.bw i :: as) ρ2
      | .ex e ρ2 => .ex e ρ2
      | .no => .no) Q := k
    cases e2 : m ρ with
    | no => rw [e2] at k; exact k
    | ex z ρ2 => rw [e2] at k; exact k
    | ok as ρ2 =>
      rw [e2] at k
      exact fun vs F2 H2 T2 C2 w2 s2 l2 o2 => k (v :: vs) F2 H2 T2 C2 w2 s2 l2 ⟨v, vs, rfl, h1, o2⟩
theorem aNil_ln : Ln aNil 0 := fun ρ as ρ' e => by cases e; rfl
theorem aE_ln {f : ME} {m : MA} {n : Nat} (h : Ln m n) : Ln (aE f m) (n + 1) := fun ρ as ρ' e => by
  unfold aE at e
  split at e
  · split at e
    · cases e
      exact congrArg (· + 1) (h _ _ _ ‹_›)
    · cases e
    · cases e
  · cases e
  · cases e
theorem aIo_ln {i : Nat} {m : MA} {n : Nat} (h : Ln m n) : Ln (aIo i m) (n + 1) := fun ρ as ρ' e => by
  unfold aIo at e
  split at e
  · split at e
    · cases e
      exact congrArg (· + 1) (h _ _ _ ‹_›)
    · cases e
    · cases e
  · cases e
theorem aBw_ln {i : Nat} {m : MA} {n : Nat} (h : Ln m n) : Ln (aBw i m) (n + 1) := fun ρ as ρ' e => by
  unfold aBw at e
  split at e
  · split at e
    · cases e
      exact congrArg (· + 1) (h _ _ _ ‹_›)
    · cases e
    · cases e
  · cases e
theorem A.nil : GA X cm W [] aNil := ⟨_, pa_nil, fun σ F H T ρ Q w s k => k [] F H T zf w.z (Stp.refl.zz .rfl') s ⟨rfl, .rfl'⟩, aNil_ln⟩
theorem A.e {e : Expr} {es : List Expr} {f : ME} {m : MA} (h : GE X cm W e f) (h2 : GA X cm W es m) (hs : starEach (e :: es) X.env = (false, eval e X.env) :: starEach es X.env := by rfl) : GA X cm W (e :: es) (aE f m) := by
  obtain ⟨t, p, q⟩ := h
  obtain ⟨t2, p2, q2, l2⟩ := h2
  exact ⟨_, pa_cons p p2 hs, aE_sp q q2, aE_ln l2⟩
theorem A.io {i : Nat} {x : Str} {p : Pos} {es : List Expr} {m : MA} (hN : X.N[i]? = some x) (hv : Vis X.env.scope x) (h2 : GA X cm W es m) (hd : (x == ("__debug__" : Str)) = false := by decide) (hcd : (x == ("__classdict__" : Str)) = false := by decide)
    (hs : starEach (.Name x p :: es) X.env = (false, eval (.Name x p) X.env) :: starEach es X.env := by rfl) : GA X cm W (.Name x p :: es) (aIo i m) := by
  obtain ⟨t2, p2, q2, l2⟩ := h2
  exact ⟨_, pa_cons (pe_var hN hv hd hcd) p2 hs, aIo_sp q2, aIo_ln l2⟩
theorem A.bw {i : Nat} {x : Str} {p : Pos} {es : List Expr} {m : MA} (hN : X.N[i]? = some x) (hv : Vis X.env.scope x) (h2 : GA X cm W es m) (hd : (x == ("__debug__" : Str)) = false := by decide) (hcd : (x == ("__classdict__" : Str)) = false := by decide)
    (hs : starEach (.Name x p :: es) X.env = (false, eval (.Name x p) X.env) :: starEach es X.env := by rfl) : GA X cm W (.Name x p :: es) (aBw i m) := by
  obtain ⟨t2, p2, q2, l2⟩ := h2
  exact ⟨_, pa_cons (pe_var hN hv hd hcd) p2 hs, aBw_sp q2, aBw_ln l2⟩
theorem K.nil : GK X cm W [] aNil := ⟨_, pk_nil, fun σ F H T ρ Q w s k => k [] F H T zf w.z (Stp.refl.zz .rfl') s ⟨rfl, .rfl'⟩, aNil_ln⟩
theorem K.e {e : Expr} {nm : Option Str} {kp : Pos} {ks : List Keyword} {f : ME} {m : MA} (h : GE X cm W e f) (h2 : GK X cm W ks m) : GK X cm W (⟨nm, e, kp⟩ :: ks) (aE f m) := by
  obtain ⟨t, p, q⟩ := h
  obtain ⟨t2, p2, q2, l2⟩ := h2
  exact ⟨_, pk_cons p p2, aE_sp q q2, aE_ln l2⟩
/-! ### calls -/
def fill : List Ag → Env → Option (List D × Env)
  | [], ρ => some ([], ρ)
  | .val d :: r, ρ => (fill r ρ).map fun p => (d :: p.1, p.2)
  | .io i :: r, ρ => (gt ρ i).bind fun d => (fill r (ρ.set i none)).map fun p => (d :: p.1, p.2)
  | .bw _ :: _, _ => none
def bk : List Ag → Env → Env → Env
  | .io i :: r, o :: os, ρ => bk r os (ρ.set i o)
  | .val _ :: r, _ :: os, ρ => bk r os ρ
  | .bw _ :: r, _ :: os, ρ => bk r os ρ
  | _, _, ρ => ρ
def rCall (fn : Fn) (dv : List D) (m : MA) : ME := fun ρ => match m ρ with
  | .ok as ρ1 => match fill as ρ1 with
    | some p => match fn (p.1 ++ dv) with
      | .ok d os => .ok d (bk as os p.2)
      | .ex e os => .ex e (bk as os p.2)
      | .no => .no
    | none => .no
  | .ex e ρ1 => .ex e ρ1
  | .no => .no
theorem fill_ok {E : HE} {σ : L2.St} : ∀ {as : List Ag} {vs : List V} {C T : Fp} {ρ : Env} {p : List D × Env}, AgOk E σ as vs C → Sls E ρ σ T → fill as ρ = some p → ∃ G T2, Ows E p.1 vs G ∧ Sls E p.2 σ T2 ∧ Eqf (ad T C) (ad G T2)
  | [], vs, C, T, ρ, p, h, s, e => by
    cases e
    obtain ⟨rfl, ec⟩ := h
    exact ⟨zf, T, ⟨rfl, .rfl'⟩, s, fun a => by simp only [ad_ap]; rw [ec a]; simp only [zf_ap]; omega⟩
  | .val d :: r, vs, C, T, ρ, p, h, s, e => by
    obtain ⟨v, r', g, x, rfl, h1, h2, ec⟩ := h
    obtain ⟨q, e1, e2⟩ := Option.map_eq_some_iff.mp e
    subst e2
    obtain ⟨G, T2, o, s2, eq⟩ := fill_ok h2 s e1
    refine ⟨ad g G, T2, ⟨v, r', g, G, rfl, h1, o, .rfl'⟩, s2, fun a => ?_⟩
    have := eq a
    simp only [ad_ap] at this ⊢
    rw [ec a, ad_ap]; omega
  | .io i :: r, vs, C, T, ρ, p, h, s, e => by
    obtain ⟨v, r', rfl, h1, h2⟩ := h
    obtain ⟨d, e0, e⟩ := Option.bind_eq_some_iff.mp e
    obtain ⟨q, e1, e2⟩ := Option.map_eq_some_iff.mp e
    subst e2
    obtain ⟨w, g, x, k1, k2, k3, k4⟩ := s.get (gt_some e0)
    rw [h1] at k1
    injection k1 with k1
    injection k1 with k1
    subst k1
    obtain ⟨G, T2, o, s2, eq⟩ := fill_ok h2 k3 e1
    refine ⟨ad g G, T2, ⟨v, r', g, G, rfl, k2, o, .rfl'⟩, s2, fun a => ?_⟩
    have := eq a
    simp only [ad_ap] at this ⊢
    rw [k4 a, ad_ap]; omega
  | .bw i :: r, vs, C, T, ρ, p, h, s, e => by cases e
theorem fill_len : ∀ {as : List Ag} {ρ : Env} {p : List D × Env}, fill as ρ = some p → p.1.length = as.length
  | [], ρ, p, e => by cases e; rfl
  | .val d :: r, ρ, p, e => by
    obtain ⟨q, e1, e2⟩ := Option.map_eq_some_iff.mp e
    subst e2
    exact congrArg (· + 1) (fill_len e1)
  | .io i :: r, ρ, p, e => by
    obtain ⟨d, e0, e⟩ := Option.bind_eq_some_iff.mp e
    obtain ⟨q, e1, e2⟩ := Option.map_eq_some_iff.mp e
    subst e2
    exact congrArg (· + 1) (fill_len e1)
  | .bw i :: r, ρ, p, e => by cases e
theorem bk_ok {E : HE} {σ : L2.St} : ∀ {as : List Ag} {vs xs : List V} {T T2 : Fp} {os ρ : Env}, IoOk σ as vs → Sls E os ((vs ++ xs).map some) T → Sls E ρ σ T2 → ∃ T3, Sls E (bk as os ρ) σ T3 ∧ ∀ a, T3 a ≤ T a + T2 a
  | [], vs, xs, T, T2, os, ρ, h, s, l => ⟨T2, l, fun a => by omega⟩
  | .val d :: r, vs, xs, T, T2, [], ρ, h, s, l => ⟨T2, l, fun a => by omega⟩
  | .io i :: r, vs, xs, T, T2, [], ρ, h, s, l => ⟨T2, l, fun a => by omega⟩
  | .bw i :: r, vs, xs, T, T2, [], ρ, h, s, l => ⟨T2, l, fun a => by omega⟩
  | .val d :: r, vs, xs, T, T2, none :: os, ρ, h, s, l => by
    obtain ⟨v, r', rfl, h⟩ := h
    obtain ⟨w, r2, e, s⟩ := s
    cases e
    show ∃ T3, Sls E (bk r os ρ) σ T3 ∧ _
    exact bk_ok h s l
  | .val d :: r, vs, xs, T, T2, some z :: os, ρ, h, s, l => by
    obtain ⟨v, r', rfl, h⟩ := h
    obtain ⟨w, r2, g, y, e, o, s, eq⟩ := s
    cases e
    obtain ⟨T3, a, b⟩ := bk_ok h s l
    exact ⟨T3, a, fun a => by have := b a; rw [eq a, ad_ap]; omega⟩
  | .bw i :: r, vs, xs, T, T2, none :: os, ρ, h, s, l => by
    obtain ⟨v, r', rfl, _, h⟩ := h
    obtain ⟨w, r2, e, s⟩ := s
    cases e
    show ∃ T3, Sls E (bk r os ρ) σ T3 ∧ _
    exact bk_ok h s l
  | .bw i :: r, vs, xs, T, T2, some z :: os, ρ, h, s, l => by
    obtain ⟨v, r', rfl, _, h⟩ := h
    obtain ⟨w, r2, g, y, e, o, s, eq⟩ := s
    cases e
    obtain ⟨T3, a, b⟩ := bk_ok h s l
    exact ⟨T3, a, fun a => by have := b a; rw [eq a, ad_ap]; omega⟩
  | .io i :: r, vs, xs, T, T2, none :: os, ρ, h, s, l => by
    obtain ⟨v, r', rfl, h1, h⟩ := h
    obtain ⟨w, r2, e, s⟩ := s
    cases e
    obtain ⟨x, l2, le⟩ := l.forget i
    obtain ⟨T3, a, b⟩ := bk_ok h s l2
    exact ⟨T3, a, fun a => by have := b a; have := le a; omega⟩
  | .io i :: r, vs, xs, T, T2, some z :: os, ρ, h, s, l => by
    obtain ⟨v, r', rfl, h1, h⟩ := h
    obtain ⟨w, r2, g, y, e, o, s, eq⟩ := s
    cases e
    obtain ⟨x, l2, le⟩ := l.setSome (i := i) o
    have hs : σ.set i (some v) = σ := by
      apply List.ext_getElem?
      intro j
      by_cases e : i = j
      · subst e
        rw [h1]
        exact List.getElem?_set_self (List.getElem?_eq_some_iff.mp h1).1
      · exact List.getElem?_set_ne e
    rw [hs] at l2
    obtain ⟨T3, a, b⟩ := bk_ok h s l2
    exact ⟨T3, a, fun a => by have := b a; have := le a; rw [eq a, ad_ap]; omega⟩
theorem Ows.app {E : HE} : ∀ {ds es : List D} {vs ws : List V} {f g : Fp}, Ows E ds vs f → Ows E es ws g → Ows E (ds ++ es) (vs ++ ws) (ad f g)
  | [], es, vs, ws, f, g, h, h2 => by
    obtain ⟨rfl, e⟩ := h
    exact h2.eqf fun a => by rw [ad_ap, e a]; exact Nat.zero_add _
  | d :: ds, es, vs, ws, f, g, h, h2 => by
    obtain ⟨w, r, x, y, rfl, o1, o2, e⟩ := h
    exact ⟨w, _, x, ad y g, rfl, o1, Ows.app o2 h2, fun a => by simp only [ad_ap]; rw [e a, ad_ap]; omega⟩
/-- what stands for itself in every heap -/
def Flat (S : Sc) (dvs : List V) (dv : List D) : Prop := ∀ F H, Ows (S.at F H) dv dvs zf
theorem Flat.nil : Flat S [] [] := fun _ _ => ⟨rfl, .rfl'⟩
theorem Flat.non : Flat S [.non] [.non] := fun _ _ => ⟨_, _, zf, zf, rfl, ⟨rfl, .rfl'⟩, ⟨rfl, .rfl'⟩, .rfl'⟩
theorem call_sp {n : Nat} {fn : Fn} {dvs : List V} {dv : List D} {t : TA} {m : MA} (fl : Flat S dvs dv) {l : Nat} (hl : Ln m l) (hn : l + dv.length = n) (q : SpA S W t m) : SpE S W (tG (SpD S n fn) W dvs t) (rCall fn dv m) := by
  intro σ F H T ρ Q w s k
  refine q σ F H T ρ _ w s ?_
  unfold rCall at k
  cases e : m ρ with
  | no => rw [e] at k; exact k
  | ex z ρ1 => rw [e] at k; exact k
  | ok as ρ1 =>
    rw [e] at k
    intro vs F1 H1 T1 C1 w1 s1 l1 o1
    have k : EndE S W σ F H T (match fill as ρ1 with
    | some p => match fn (p.1 ++ dv) with
      | .ok d os => .ok d (bk as os p.2)
      | .ex e os => .ex e (bk as os p.2)
      | .no => .no
    | none => .no) Q := k
    cases e2 : fill as ρ1 with
    | none => rw [e2] at k; exact k.elim
    | some p =>
      rw [e2] at k
      obtain ⟨G, T2, o2, l2, eq⟩ := fill_ok o1 l1 e2
      have w2 : Wd F1 H1 (ad G T2) := w1.eqf eq.symm
      have s2 : Stp F H T F1 H1 (ad G T2) := s1.eqf eq.symm
      have o3 := (o2.app (fl F1 H1)).eqf (g := G) fun a => rfl
      have hlen : (vs ++ dvs).length = n := by
        rw [List.length_append, ← o2.len, ← (fl F1 H1).len]
        rw [fill_len e2, hl _ _ _ e]
        exact hn
      refine ⟨hlen, F1, G, p.1 ++ dv, w2.part, o3, ?_⟩
      have k : EndE S W σ F H T (match fn (p.1 ++ dv) with
      | .ok d os => .ok d (bk as os p.2)
      | .ex e os => .ex e (bk as os p.2)
      | .no => .no) Q := k
      cases e3 : fn (p.1 ++ dv) with
      | no => rw [e3] at k; exact k
      | ok d os =>
        rw [e3] at k
        intro v F3 H3 T3 C3 w3 s3 l3 o4
        obtain ⟨w4, s4⟩ := w2.frame s3 w3
        have l4 := w2.keepSls s3 l2
        obtain ⟨T5, l5, le⟩ := bk_ok o1.io l3 l4
        have le5 : ∀ a, ad T5 C3 a ≤ ad (ad T3 C3) T2 a := fun a => by simp only [ad_ap]; have := le a; omega
        exact k v F3 H3 T5 C3 (w4.le le5) ((s2.trans w2 s4).leR le5) l5 o4
      | ex z os =>
        rw [e3] at k
        intro c dd F3 H3 T3 x y w3 s3 l3
        obtain ⟨w4, s4⟩ := w2.frame s3 w3
        have l4 := w2.keepSls s3 l2
        obtain ⟨T5, l5, le⟩ := bk_ok o1.io l3 l4
        have le5 : ∀ a, T5 a ≤ ad T3 T2 a := fun a => by simp only [ad_ap]; have := le a; omega
        exact k c dd F3 H3 T5 x y (w4.le le5) ((s2.trans w2 s4).leR le5) l5
/-- a def as it is called: the name x stands for the def at f, whose meaning is fn -/
structure FB (X : Cx) (cm : Str → Option Addr) (k : Nat) (x : Str) (dvs : List V) (n : Nat) (fn : Fn) : Prop where
  ex : ∃ (f : Addr) (fd : FuncData) (ps : List Str) (ds : List Value), FnG X.prog X.w X.K X.mg X.base k f fd ps (SpD ⟨X.K, cm⟩ n fn) ∧ X.mg x = some (.ref f) ∧ PySem.W.keepIn X.K (.ref f) = true ∧ Binds X.K fd ps ds ∧ Vals dvs ds
theorem E.call {k n : Nat} {x : Str} {p : Pos} {e : Expr} {es : List Expr} {dvs : List V} {dv : List D} {fn : Fn} {m : MA} (F : FB X cm k x dvs n fn) (hg : X.A.guards = some []) (hr : Room k X.A) (tk : Takes X W) (hgl : Gl X x) (fl : Flat ⟨X.K, cm⟩ dvs dv) (hn : (e :: es).length + dv.length = n) (ha : GA X cm W (e :: es) m)
    (hdb : (x == ("__debug__" : Str)) = false := by decide) (he : starEach (e :: es) X.env = (false, eval e X.env) :: starEach es X.env := by rfl) (hpl : (backTo pos (starEach es X.env)).any (·.1) = false := by rfl) :
    GE X cm W (.Call (.Name x p) (e :: es) [] pos) (rCall fn dv m) := by
  obtain ⟨f, fd, ps, ds, hF, hm, hk, hb, hd⟩ := F.ex
  obtain ⟨t, pa, q, l⟩ := ha
  exact ⟨_, peG hF hg hr tk hgl hm hk hb hd pa hdb he hpl, call_sp fl l hn q⟩
theorem E.call0 {k n : Nat} {x : Str} {p : Pos} {dvs : List V} {dv : List D} {fn : Fn} (F : FB X cm k x dvs n fn) (hg : X.A.guards = some []) (hr : Room k X.A) (tk : Takes X W) (hgl : Gl X x) (fl : Flat ⟨X.K, cm⟩ dvs dv) (hn : 0 + dv.length = n)
    (hdb : (x == ("__debug__" : Str)) = false := by decide) : GE X cm W (.Call (.Name x p) [] [] pos) (rCall fn dv aNil) := by
  obtain ⟨f, fd, ps, ds, hF, hm, hk, hb, hd⟩ := F.ex
  obtain ⟨t, pa, q, l⟩ := (A.nil : GA X cm W [] aNil)
  exact ⟨_, peG0 hF hg hr tk hgl hm hk hb hd hdb, call_sp (t := tNil) fl aNil_ln hn fun σ F H T ρ Q w s k => k [] F H T zf w.z (Stp.refl.zz .rfl') s ⟨rfl, .rfl'⟩⟩
/-! ### keywords alone -/
def prm {α : Type} (π : List Nat) (xs : List α) : List α := π.filterMap fun i => xs[i]?
def vals : List Ag → Option (List D)
  | [] => some []
  | .val d :: r => (vals r).map (d :: ·)
  | .io _ :: _ => none
  | .bw _ :: _ => none
def rCallK (fn : Fn) (π : List Nat) (m : MA) : ME := fun ρ => match m ρ with
  | .ok as ρ1 => match vals as with
    | some ds => if noOwns ds = true then match fn (prm π ds) with
        | .ok d _ => .ok d ρ1
        | .ex e _ => .ex e ρ1
        | .no => .no
      else .no
    | none => .no
  | .ex e ρ1 => .ex e ρ1
  | .no => .no
theorem vals_ok {E : HE} {σ : L2.St} : ∀ {as : List Ag} {vs : List V} {f : Fp} {ds : List D}, AgOk E σ as vs f → vals as = some ds → Ows E ds vs f
  | [], vs, f, ds, h, e => by
    cases e
    exact h
  | .val d :: r, vs, f, ds, h, e => by
    obtain ⟨v, r', g, x, rfl, h1, h2, ec⟩ := h
    obtain ⟨q, e1, e2⟩ := Option.map_eq_some_iff.mp e
    subst e2
    exact ⟨v, r', g, x, rfl, h1, vals_ok h2 e1, ec⟩
  | .io i :: r, vs, f, ds, h, e => by cases e
  | .bw i :: r, vs, f, ds, h, e => by cases e
theorem Ows.at {E : HE} : ∀ {ds : List D} {vs : List V} {i : Nat}, Ows E ds vs zf → noOwns ds = true → (ds[i]? = none ∧ vs[i]? = none) ∨ ∃ d v, ds[i]? = some d ∧ vs[i]? = some v ∧ Ow E d v zf
  | [], vs, i, h, n => .inl ⟨rfl, by rw [h.1]; rfl⟩
  | d :: ds, vs, 0, h, n => by
    obtain ⟨w, r, g, x, rfl, o1, o2, e⟩ := h
    exact .inr ⟨d, w, rfl, rfl, o1.eqf fun a => by have := e a; rw [ad_ap] at this; simp only [zf_ap] at this ⊢; omega⟩
  | d :: ds, vs, i + 1, h, n => by
    obtain ⟨w, r, g, x, rfl, o1, o2, e⟩ := h
    have n' : (noOwn d && noOwns ds) = true := n
    rw [Bool.and_eq_true] at n'
    exact Ows.at (i := i) (o2.eqf fun a => by have := e a; rw [ad_ap] at this; simp only [zf_ap] at this ⊢; omega) n'.2
theorem prm_ok {E : HE} {ds : List D} {vs : List V} (h : Ows E ds vs zf) (n : noOwns ds = true) : ∀ π : List Nat, Ows E (prm π ds) (prm π vs) zf
  | [] => ⟨rfl, .rfl'⟩
  | i :: π => by
    have ih := prm_ok h n π
    unfold prm at ih ⊢
    rcases h.at (i := i) n with ⟨e1, e2⟩ | ⟨d, v, e1, e2, o⟩
    · rw [List.filterMap_cons, List.filterMap_cons, e1, e2]
      exact ih
    · rw [List.filterMap_cons, List.filterMap_cons, e1, e2]
      exact ⟨v, _, zf, zf, rfl, o, ih, .rfl'⟩
theorem callK_sp {n mm : Nat} {fn : Fn} {π : List Nat} {t : TA} {m : MA} {l : Nat} (hl : Ln m l) (hm : l = mm) (hn : ∀ xs : List D, xs.length = l → (prm π xs).length = n) (q : SpA S W t m) : SpE S W (tGK mm (SpD S n fn) W (fun _ zs => prm π zs) t) (rCallK fn π m) := by
  intro σ F H T ρ Q w s k
  refine q σ F H T ρ _ w s ?_
  unfold rCallK at k
  cases e : m ρ with
  | no => rw [e] at k; exact k
  | ex z ρ1 => rw [e] at k; exact k
  | ok as ρ1 =>
    rw [e] at k
    intro vs F1 H1 T1 C1 w1 s1 l1 o1
    have k : EndE S W σ F H T (match vals as with
    | some ds => if noOwns ds = true then match fn (prm π ds) with
        | .ok d _ => .ok d ρ1
        | .ex e _ => .ex e ρ1
        | .no => .no
      else .no
    | none => .no) Q := k
    cases e2 : vals as with
    | none => rw [e2] at k; exact k.elim
    | some ds =>
      rw [e2] at k
      have k : EndE S W σ F H T (if noOwns ds = true then match fn (prm π ds) with
        | .ok d _ => .ok d ρ1
        | .ex e _ => .ex e ρ1
        | .no => .no
      else .no) Q := k
      by_cases nn : noOwns ds = true
      · rw [if_pos nn] at k
        have o2 := vals_ok o1 e2
        have ec := Ows.no nn o2
        have o3 := o2.eqf ec.symm
        have o4 := prm_ok o3 nn π
        have e5 : as.length = vs.length := by
          have : ∀ {as : List Ag} {ds : List D}, vals as = some ds → ds.length = as.length := by
            intro as
            induction as with
            | nil => intro ds e; cases e; rfl
            | cons a r ih =>
              intro ds e
              cases a with
              | val d =>
                obtain ⟨q, e1, e2⟩ := Option.map_eq_some_iff.mp e
                subst e2
                exact congrArg (· + 1) (ih e1)
              | io i => cases e
              | bw i => cases e
          rw [← this e2, o2.len]
        have e6 := hl _ _ _ e
        have w2 : Wd F1 H1 (ad zf T1) := w1.part.eqf fun a => Nat.zero_add _
        have s2 : Stp F H T F1 H1 T1 := s1.leR fun a => by rw [ad_ap]; omega
        refine ⟨by rw [← e5, e6, hm], ?_, F1, zf, prm π ds, w2.part, o4, ?_⟩
        · rw [← o4.len]
          exact hn ds (by rw [o2.len, ← e5, e6])
        cases e3 : fn (prm π ds) with
        | no => rw [e3] at k; exact k
        | ok d os =>
          rw [e3] at k
          intro v F3 H3 T3 C3 w3 s3 l3 o5
          obtain ⟨w4, s4⟩ := w2.frame s3 w3
          have le5 : ∀ a, ad T1 C3 a ≤ ad (ad T3 C3) T1 a := fun a => by simp only [ad_ap]; omega
          exact k v F3 H3 T1 C3 (w4.le le5) ((s2.trans w1.part ((s4.eqfL fun a => (Nat.zero_add _).symm).leR le5))) (w2.keepSls s3 l1) o5
        | ex z os =>
          rw [e3] at k
          intro c dd F3 H3 T3 x y w3 s3 l3
          obtain ⟨w4, s4⟩ := w2.frame s3 w3
          have le5 : ∀ a, T1 a ≤ ad T3 T1 a := fun a => by simp only [ad_ap]; omega
          exact k c dd F3 H3 T1 x y (w4.le le5) ((s2.trans w1.part ((s4.eqfL fun a => (Nat.zero_add _).symm).leR le5))) (w2.keepSls s3 l1)
      · rw [if_neg nn] at k; exact k.elim
structure FK (X : Cx) (cm : Str → Option Addr) (k : Nat) (x : Str) (ks : List Str) (π : List Nat) (n : Nat) (fn : Fn) : Prop where
  ex : ∃ (f : Addr) (fd : FuncData) (ps : List Str) (g : List Value → List Value → List Value), FnG X.prog X.w X.K X.mg X.base k f fd ps (SpD ⟨X.K, cm⟩ n fn) ∧ X.mg x = some (.ref f) ∧ PySem.W.keepIn X.K (.ref f) = true ∧ KBn X.K fd ps 0 ks g fun _ zs => prm π zs
theorem E.callK {k n : Nat} {x : Str} {p : Pos} {kws : List Keyword} {ks : List Str} {π : List Nat} {fn : Fn} {m : MA} (F : FK X cm k x ks π n fn) (hg : X.A.guards = some []) (hr : Room k X.A) (tk : Takes X W) (hgl : Gl X x) (hn : ∀ xs : List D, xs.length = kws.length → (prm π xs).length = n) (ha : GK X cm W kws m) (hkl : kws.length = ks.length)
    (hall : (backToKw pos (keywordEach kws X.env)).all (·.1.isSome) = true := by rfl) (hks : (backToKw pos (keywordEach kws X.env)).filterMap (·.1) = ks := by rfl)
    (hdb : (x == ("__debug__" : Str)) = false := by decide) (hpl : ((backTo pos (starEach [] X.env)).any (·.1) || (backToKw pos (keywordEach kws X.env)).any (·.1.isNone)) = false := by rfl) :
    GE X cm W (.Call (.Name x p) [] kws pos) (rCallK fn π m) := by
  obtain ⟨f, fd, ps, g, hF, hm, hk, hb⟩ := F.ex
  obtain ⟨t, pa, q, l⟩ := ha
  exact ⟨_, peGK hF hg hr tk hgl hm hk hb pa hall hks hdb hpl, callK_sp l hkl hn q⟩
end
end DL
namespace DL
open PySem L2 PyProof.Rows
section
variable {X : Cx} {cm : Str → Option Addr} {W : WX} {S : Sc} {pos : Pos} {K : PySem.W.Frag}
/-! ### whole numbers -/
def dI2 (c : Int → Int → Bool) (g : Int → Int → D) : D → D → Option D
  | .int i, .int j => if c i j = true then some (g i j) else none
  | _, _ => none
theorem dI2_some {c : Int → Int → Bool} {g : Int → Int → D} {a b d : D} (h : dI2 c g a b = some d) : ∃ i j, a = .int i ∧ b = .int j ∧ c i j = true ∧ d = g i j := by
  cases a with
  | int i =>
    cases b with
    | int j =>
      have h : (if c i j = true then some (g i j) else none) = some d := h
      by_cases z : c i j = true
      · rw [if_pos z] at h
        exact ⟨i, j, rfl, rfl, z, (Option.some.inj h).symm⟩
      · rw [if_neg z] at h; cases h
    | _ => cases h
  | _ => cases h
theorem okI {C : Int → Int → Prop} {g : Int → Int → V} {c : Int → Int → Bool} {g' : Int → Int → D} (hc : ∀ i j, c i j = true → C i j) (hg : ∀ E i j, Ow E (g' i j) (g i j) zf) : OpOk K (rI C g) (dI2 c g') := by
  intro cm F H x y a b d f h Q _ _ _ e o1 o2 q
  obtain ⟨i, j, rfl, rfl, z, rfl⟩ := dI2_some e
  exact ⟨i, j, o1.1, o2.1, hc i j z, q _ (hg _ i j)⟩
theorem okI0 {g : Int → Int → V} {g' : Int → Int → D} (hg : ∀ E i j, Ow E (g' i j) (g i j) zf) : OpOk K (rI0 g) (dI2 (fun _ _ => true) g') := by
  intro cm F H x y a b d f h Q _ _ _ e o1 o2 q
  obtain ⟨i, j, rfl, rfl, z, rfl⟩ := dI2_some e
  exact ⟨i, j, o1.1, o2.1, q _ (hg _ i j)⟩
def dSub := dI2 (fun _ _ => true) fun i j => .int (i - j)
def dMul := dI2 (fun i j => decide (i.natAbs.log2 + j.natAbs.log2 < 100000000)) fun i j => .int (i * j)
def dDiv := dI2 (fun _ j => decide (0 < j) && decide (j.natAbs.log2 < 9000)) fun i j => .int (i / j)
def dMod := dI2 (fun _ j => decide (0 < j)) fun i j => .int (i % j)
def dPow := dI2 (fun i j => decide (0 ≤ j) && decide ((Builtin.Int.intBits i : Int) * j ≤ 134217728)) fun i j => .int (i ^ j.toNat)
def dLt := dI2 (fun _ _ => true) fun i j => .bl (decide (i < j))
def dLe := dI2 (fun _ _ => true) fun i j => .bl (decide (i ≤ j))
def dGt := dI2 (fun _ _ => true) fun i j => .bl (decide (j < i))
def dGe := dI2 (fun _ _ => true) fun i j => .bl (decide (j ≤ i))
theorem o_sub : OpOk K (rI0 fun i j => .int (i - j)) dSub := okI0 fun _ _ _ => ⟨rfl, .rfl'⟩
def CMulX (i j : Int) : Prop := i.natAbs.log2 + j.natAbs.log2 < 100000000
theorem CMulX.ok {i j : Int} (h : CMulX i j) : IntMulOk i j := by
  have b : ∀ x : Int, Builtin.Int.intBits x ≤ x.natAbs.log2 + 1 := fun x => by
    unfold Builtin.Int.intBits
    split <;> omega
  have h1 := b i
  have h2 := b j
  have h3 : i.natAbs.log2 + j.natAbs.log2 < 100000000 := h
  have e : bitsLine = 134217728 := by decide
  unfold IntMulOk
  intro z
  rw [Bool.and_eq_true] at z
  have z2 := z.2
  unfold Builtin.Int.intTooBig at z2
  have z3 := of_decide_eq_true z2
  rw [e] at z3
  omega
theorem op_mulX {X : Cx} : OpR X (binaryOp .Mult) (rI CMulX fun i j => .int (i * j)) := opI fun _ _ _ _ _ _ _ hc q => mul_int q hc.ok
theorem o_mul : OpOk K (rI CMulX fun i j => .int (i * j)) dMul := okI (fun i j h => show i.natAbs.log2 + j.natAbs.log2 < 100000000 from of_decide_eq_true h) fun _ _ _ => ⟨rfl, .rfl'⟩
theorem o_div : OpOk K (rI CDivW fun i j => .int (i / j)) dDiv := okI (fun i j h => by
  rw [Bool.and_eq_true] at h
  exact ⟨of_decide_eq_true h.1, of_decide_eq_true h.2⟩) fun _ _ _ => ⟨rfl, .rfl'⟩
theorem o_mod : OpOk K (rI (fun _ j => 0 < j) fun i j => .int (i % j)) dMod := okI (fun i j h => of_decide_eq_true h) fun _ _ _ => ⟨rfl, .rfl'⟩
def CPowW (i j : Int) : Prop := 0 ≤ j ∧ (Builtin.Int.intBits i : Int) * j ≤ 134217728
theorem op_powW : OpR X (binaryOp .Pow) (rI CPowW fun i j => .int (i ^ j.toNat)) := opI fun _ _ _ _ _ _ _ hc q => pow_int hc.1 hc.2 q
theorem o_pow : OpOk K (rI CPowW fun i j => .int (i ^ j.toNat)) dPow := okI (fun i j h => by
  rw [Bool.and_eq_true] at h
  exact ⟨of_decide_eq_true h.1, of_decide_eq_true h.2⟩) fun _ _ _ => ⟨rfl, .rfl'⟩
theorem o_lt : OpOk K (rI0 fun i j => .bl (decide (i < j))) dLt := okI0 fun _ _ _ => ⟨rfl, .rfl'⟩
theorem o_le : OpOk K (rI0 fun i j => .bl (decide (i ≤ j))) dLe := okI0 fun _ _ _ => ⟨rfl, .rfl'⟩
theorem o_gt : OpOk K (rI0 fun i j => .bl (decide (j < i))) dGt := okI0 fun _ _ _ => ⟨rfl, .rfl'⟩
theorem o_ge : OpOk K (rI0 fun i j => .bl (decide (j ≤ i))) dGe := okI0 fun _ _ _ => ⟨rfl, .rfl'⟩
def dNeg : D → Option D
  | .int i => some (.int (-i))
  | _ => none
theorem o_neg : UnOk K (rU fun i => .int (-i)) dNeg := by
  intro cm F H x a d f Q _ _ e o q
  cases a with
  | int i =>
    cases e
    exact ⟨i, o.1, q _ ⟨rfl, .rfl'⟩⟩
  | _ => cases e
/-- + of numbers, of texts -/
def dAdd : D → D → Option D
  | .int i, .int j => some (.int (i + j))
  | .str x, .str y => if decide (x.length + y.length ≤ sizeLine) = true then some (.str (x ++ y)) else none
  | _, _ => none
def rAddP : R2 := fun x y H Q => rI0 (fun i j => V.int (i + j)) x y H Q ∨ ∃ i j, x = .str i ∧ y = .str j ∧ i.length + j.length ≤ sizeLine ∧ Q (.str (i ++ j)) H
theorem op_addP : OpR X (binaryOp .Add) rAddP := OpR.or op_add op_add_str
theorem iop_addP : OpR X (inplaceOp .Add) rAddP := OpR.or iop_add iop_add_str
theorem o_add : OpOk K rAddP dAdd := by
  intro cm F H x y a b d f h Q _ _ _ e o1 o2 q
  cases a with
  | int i =>
    cases b with
    | int j =>
      cases e
      exact .inl ⟨i, j, o1.1, o2.1, q _ ⟨rfl, .rfl'⟩⟩
    | _ => cases e
  | str i =>
    cases b with
    | str j =>
      have e : (if decide (i.length + j.length ≤ sizeLine) = true then some (D.str (i ++ j)) else none) = some d := e
      by_cases z : decide (i.length + j.length ≤ sizeLine) = true
      · rw [if_pos z] at e
        cases e
        exact .inr ⟨i, j, o1.1, o2.1, of_decide_eq_true z, q _ ⟨rfl, .rfl'⟩⟩
      · rw [if_neg z] at e; cases e
    | _ => cases e
  | _ => cases e
/-! ### is None, is True -/
def dIsN : D → D → Option D
  | .non, .non => some (.bl true)
  | _, .non => some (.bl false)
  | _, _ => none
def dNotN : D → D → Option D
  | .non, .non => some (.bl false)
  | _, .non => some (.bl true)
  | _, _ => none
theorem Ow.notNon {E : HE} {d : D} {v : V} {f : Fp} (h : Ow E d v f) (n : d ≠ .non) : v ≠ .non := by
  cases d with
  | non => exact absurd rfl n
  | bl b => rw [h.1]; intro z; cases z
  | int i => rw [h.1]; intro z; cases z
  | str x => rw [h.1]; intro z; cases z
  | nd k o xs =>
    obtain ⟨p, ws, g, rfl, _⟩ := h
    intro z; cases z
theorem o_isN : OpOk K (fun x y H Q => y = .non ∧ Q (.bl (decide (x = .non))) H) dIsN := by
  intro cm F H x y a b d f h Q _ _ _ e o1 o2 q
  cases b with
  | non =>
    refine ⟨o2.1, ?_⟩
    by_cases z : a = .non
    · subst z
      cases e
      have := o1.1
      subst this
      exact q _ ⟨rfl, .rfl'⟩
    · have e : d = .bl false := by cases a <;> first | exact absurd rfl z | (cases e; rfl)
      subst e
      rw [decide_eq_false (Ow.notNon o1 z)]
      exact q _ ⟨rfl, .rfl'⟩
  | _ => cases a <;> cases e
theorem o_notN : OpOk K (fun x y H Q => y = .non ∧ Q (.bl (!decide (x = .non))) H) dNotN := by
  intro cm F H x y a b d f h Q _ _ _ e o1 o2 q
  cases b with
  | non =>
    refine ⟨o2.1, ?_⟩
    by_cases z : a = .non
    · subst z
      cases e
      have := o1.1
      subst this
      exact q _ ⟨rfl, .rfl'⟩
    · have e : d = .bl true := by cases a <;> first | exact absurd rfl z | (cases e; rfl)
      subst e
      rw [decide_eq_false (Ow.notNon o1 z)]
      exact q _ ⟨rfl, .rfl'⟩
  | _ => cases a <;> cases e
def dIsB : D → D → Option D
  | .bl a, .bl b => some (.bl (decide (a = b)))
  | _, _ => none
def dNotB : D → D → Option D
  | .bl a, .bl b => some (.bl (!decide (a = b)))
  | _, _ => none
theorem op_isB : OpR X (compareOp .Is) rIsB := op_isBl
/-! ### == by data -/
mutual
def toPy : D → Option PyData
  | .non => some .none
  | .bl b => some (.bool b)
  | .int i => some (.int i)
  | .str x => some (.str x)
  | .nd .lst _ xs => (toPys xs).map .list
  | .nd .tup _ xs => (toPys xs).map .tuple
  | .nd _ _ _ => none
def toPys : List D → Option (List PyData)
  | [] => some []
  | d :: ds => (toPy d).bind fun p => (toPys ds).map fun ps => p :: ps
end
mutual
/-- data as it is written: the empty dict, too -/
def toPyE : D → Option PyData
  | .non => some .none
  | .bl b => some (.bool b)
  | .int i => some (.int i)
  | .str x => some (.str x)
  | .nd .lst _ xs => (toPysE xs).map .list
  | .nd .tup _ xs => (toPysE xs).map .tuple
  | .nd (.dct []) _ [] => some (.dict [])
  | .nd _ _ _ => none
def toPysE : List D → Option (List PyData)
  | [] => some []
  | d :: ds => (toPyE d).bind fun p => (toPysE ds).map fun ps => p :: ps
end
mutual
theorem toPyE_of : ∀ {d : D} {p : PyData}, toPy d = some p → toPyE d = some p
  | .non, _, e => e
  | .bl _, _, e => e
  | .int _, _, e => e
  | .str _, _, e => e
  | .nd .lst _ xs, p, e => by
    obtain ⟨ps, e1, e2⟩ := Option.map_eq_some_iff.mp (show (toPys xs).map PyData.list = some p from e)
    show (toPysE xs).map PyData.list = some p
    rw [toPysE_of e1, ← e2]; rfl
  | .nd .tup _ xs, p, e => by
    obtain ⟨ps, e1, e2⟩ := Option.map_eq_some_iff.mp (show (toPys xs).map PyData.tuple = some p from e)
    show (toPysE xs).map PyData.tuple = some p
    rw [toPysE_of e1, ← e2]; rfl
  | .nd .fzl _ _, _, e => by cases e
  | .nd (.dct _) _ _, _, e => by cases e
  | .nd (.dtt _) _ _, _, e => by cases e
  | .nd (.obj _ _) _ _, _, e => by cases e
  | .nd (.exn _ _) _ _, _, e => by cases e
theorem toPysE_of : ∀ {ds : List D} {ps : List PyData}, toPys ds = some ps → toPysE ds = some ps
  | [], _, e => e
  | d :: ds, ps, e => by
    obtain ⟨p, e1, e2⟩ := Option.bind_eq_some_iff.mp (show ((toPy d).bind fun p => (toPys ds).map fun ps => p :: ps) = some ps from e)
    obtain ⟨qs, e3, e4⟩ := Option.map_eq_some_iff.mp e2
    show ((toPyE d).bind fun p => (toPysE ds).map fun ps => p :: ps) = some ps
    rw [toPyE_of e1, Option.bind_some, toPysE_of e3, ← e4]; rfl
end
mutual
inductive DpE (K : PySem.W.Frag) (H : Hp) : V → PyData → Prop
  | non : DpE K H .non .none
  | bl (b : Bool) : DpE K H (.bl b) (.bool b)
  | int (i : Int) : DpE K H (.int i) (.int i)
  | str (x : Str) : DpE K H (.str x) (.str x)
  | lst {a : Addr} {xs : List V} {ds : List PyData} : SqL K H a xs → DpEs K H xs ds → DpE K H (.ref a) (.list ds)
  | tup {a : Addr} {xs : List V} {ds : List PyData} : SqT K H a xs → DpEs K H xs ds → DpE K H (.ref a) (.tuple ds)
  | dct {a : Addr} : H a = some (.dK []) → DpE K H (.ref a) (.dict [])
inductive DpEs (K : PySem.W.Frag) (H : Hp) : List V → List PyData → Prop
  | nil : DpEs K H [] []
  | cons {v : V} {vs : List V} {d : PyData} {ds : List PyData} : DpE K H v d → DpEs K H vs ds → DpEs K H (v :: vs) (d :: ds)
end
section
variable {X : Cx} {pins : List (Addr × Obj)} {σ : L2.St} {H : Hp} {s : Shared}
theorem sys_ne (I : Inv X pins σ H s) (hs : ∃ mm, X.base.Ns sysModules mm) {a : Addr} {o : Obj} {vs : Array Value} {n : Nat} (ho : s.heap.get? a = some o) (hd : o.data = .seq vs n) : sysModules ≠ a := fun z => by
  obtain ⟨mm, o', es, ep, e1, e2, _⟩ := hs
  have h1 := I.bk _ _ e1
  rw [z, ho] at h1
  cases h1
  rw [hd] at e2; cases e2
mutual
theorem DpE.reads (I : Inv X pins σ H s) (hs : ∃ mm, X.base.Ns sysModules mm) : ∀ (d : PyData) (v : V) (u : Value), DpE X.K H v d → RelV v u → ∃ as, Reads s.heap u d as ∧ sysModules ∉ as
  | .none, _, _, h, r => by
    cases h
    cases r
    exact ⟨_, Reads.none, List.not_mem_nil⟩
  | .bool b, _, _, h, r => by
    cases h
    cases r
    exact ⟨_, Reads.bool b, List.not_mem_nil⟩
  | .int i, _, _, h, r => by
    cases h
    obtain ⟨t, rfl⟩ := r
    exact ⟨_, Reads.int i t, List.not_mem_nil⟩
  | .str x, _, _, h, r => by
    cases h
    obtain ⟨t, rfl⟩ := r
    exact ⟨_, Reads.str x t, List.not_mem_nil⟩
  | .list ds, _, _, h, r => by
    cases h with
    | lst hq ha =>
      cases r
      obtain ⟨its, rv, ⟨o, n, ho, hc, _, hd⟩, _⟩ := I.list hq
      obtain ⟨as, hr, hn⟩ := DpE.readsAll I hs ds _ its ha rv
      exact ⟨_, Reads.list ho hc hd hr, fun z => by
        rcases List.mem_cons.mp z with z | z
        · exact sys_ne I hs ho hd z
        · exact hn z⟩
  | .tuple ds, _, _, h, r => by
    cases h with
    | tup hq ha =>
      cases r
      obtain ⟨its, rv, ⟨o, ho, hc, n, hd⟩, _⟩ := I.tuple hq
      obtain ⟨as, hr, hn⟩ := DpE.readsAll I hs ds _ its ha rv
      exact ⟨_, Reads.tuple ho hc hd hr, hn⟩
  | .dict ds, _, _, h, r => by
    cases h with
    | @dct a ha =>
      cases r
      obtain ⟨_, hno, vs, kv, o, es, ep, ho, hex, hd, _, hp, _⟩ := (show ObjOk X.prog X.w H s.heap a (.dK []) from I.hok a _ ha)
      cases kv
      have he : es.toList = [] := by
        cases q : es.toList with
        | nil => rfl
        | cons x r => rw [q] at hp; cases hp
      refine ⟨a :: [] ++ [], Reads.dict ho hex.1 hd (by rw [he]; exact .nil) (by rw [he]; exact .nil), fun z => ?_⟩
      rcases List.mem_cons.mp z with e | z
      · rw [← e] at hno
        simp at hno
      · cases z
theorem DpE.readsAll (I : Inv X pins σ H s) (hs : ∃ mm, X.base.Ns sysModules mm) : ∀ (ds : List PyData) (vs : List V) (us : List Value), DpEs X.K H vs ds → Vals vs us → ∃ as, ReadsAll s.heap us ds as ∧ sysModules ∉ as
  | [], _, _, h, r => by
    cases h
    cases r
    exact ⟨_, ReadsAll.nil, List.not_mem_nil⟩
  | d :: ds, _, _, h, r => by
    cases h with
    | cons h1 h2 =>
      cases r with
      | cons r1 r2 =>
        obtain ⟨as, q1, n1⟩ := DpE.reads I hs d _ _ h1 r1
        obtain ⟨bs, q2, n2⟩ := DpE.readsAll I hs ds _ _ h2 r2
        exact ⟨_, ReadsAll.cons q1 q2, fun z => (List.mem_append.mp z).elim n1 n2⟩
end
end
section
variable {K : PySem.W.Frag} {cm : Str → Option Addr} {F H : Hp}
mutual
theorem Ow.dpE (hs : Sub F H) : ∀ {d : D} {v : V} {f : Fp} {p : PyData}, toPyE d = some p → Ow ⟨K, cm, F, H⟩ d v f → DpE K H v p
  | .non, v, f, p, e, o => by cases e; rw [o.1]; exact .non
  | .bl b, v, f, p, e, o => by cases e; rw [o.1]; exact .bl b
  | .int i, v, f, p, e, o => by cases e; rw [o.1]; exact .int i
  | .str x, v, f, p, e, o => by cases e; rw [o.1]; exact .str x
  | .nd k oo xs, v, f, p, e, o => by
    obtain ⟨a, ws, g, rfl, h1, h2⟩ := o
    cases k with
    | lst =>
      obtain ⟨ps, e1, e2⟩ := Option.map_eq_some_iff.mp (show (toPysE xs).map PyData.list = some p from e)
      subst e2
      refine .lst ?_ (Ows.dpE hs e1 h1)
      rcases h2 with ⟨z, _⟩ | ⟨_, h, _⟩ | ⟨_, h, _⟩
      · cases z
      · exact .inl (.inl h)
      · exact .inl (.inl (hs _ _ h))
    | tup =>
      obtain ⟨ps, e1, e2⟩ := Option.map_eq_some_iff.mp (show (toPysE xs).map PyData.tuple = some p from e)
      subst e2
      refine .tup ?_ (Ows.dpE hs e1 h1)
      rcases h2 with ⟨_, _, h, _⟩ | ⟨_, h, _⟩ | ⟨_, h, _⟩
      · exact SqT.of (hs _ _ h)
      · exact h.elim
      · exact h.elim
    | dct ks =>
      cases ks with
      | cons _ _ => cases e
      | nil =>
        cases xs with
        | cons _ _ => cases e
        | nil =>
          cases e
          have hw := h1.1
          subst hw
          rcases h2 with ⟨z, _⟩ | ⟨_, h, _⟩ | ⟨_, h, _⟩
          · cases z
          · exact .dct h.2
          · exact .dct (hs _ _ h.2)
    | _ => cases e
theorem Ows.dpE (hs : Sub F H) : ∀ {ds : List D} {vs : List V} {f : Fp} {ps : List PyData}, toPysE ds = some ps → Ows ⟨K, cm, F, H⟩ ds vs f → DpEs K H vs ps
  | [], _, _, _, e, o => by cases e; rw [o.1]; exact .nil
  | d :: ds, vs, f, ps, e, o => by
    obtain ⟨p, e1, e2⟩ := Option.bind_eq_some_iff.mp (show ((toPyE d).bind fun p => (toPysE ds).map fun ps => p :: ps) = some ps from e)
    obtain ⟨qs, e3, rfl⟩ := Option.map_eq_some_iff.mp e2
    obtain ⟨w, r, g, x, rfl, h1, h2, _⟩ := o
    exact .cons (Ow.dpE hs e1 h1) (Ows.dpE hs e3 h2)
end
end
section
variable {F H : Hp}
mutual
theorem Ow.dp (hs : Sub F H) : ∀ {d : D} {v : V} {f : Fp} {p : PyData}, toPy d = some p → Ow ⟨K, cm, F, H⟩ d v f → Dp K H v p
  | .non, v, f, p, e, o => by cases e; rw [o.1]; exact .non
  | .bl b, v, f, p, e, o => by cases e; rw [o.1]; exact .bl b
  | .int i, v, f, p, e, o => by cases e; rw [o.1]; exact .int i
  | .str x, v, f, p, e, o => by cases e; rw [o.1]; exact .str x
  | .nd k oo xs, v, f, p, e, o => by
    obtain ⟨a, ws, g, rfl, h1, h2⟩ := o
    cases k with
    | lst =>
      obtain ⟨ps, e1, e2⟩ := Option.map_eq_some_iff.mp (show (toPys xs).map PyData.list = some p from e)
      subst e2
      refine .lst ?_ (Ows.dp hs e1 h1)
      rcases h2 with ⟨z, _⟩ | ⟨_, h, _⟩ | ⟨_, h, _⟩
      · cases z
      · exact .inl (.inl h)
      · exact .inl (.inl (hs _ _ h))
    | tup =>
      obtain ⟨ps, e1, e2⟩ := Option.map_eq_some_iff.mp (show (toPys xs).map PyData.tuple = some p from e)
      subst e2
      refine .tup ?_ (Ows.dp hs e1 h1)
      rcases h2 with ⟨_, _, h, _⟩ | ⟨_, h, _⟩ | ⟨_, h, _⟩
      · exact SqT.of (hs _ _ h)
      · exact h.elim
      · exact h.elim
    | _ => cases e
theorem Ows.dp (hs : Sub F H) : ∀ {ds : List D} {vs : List V} {f : Fp} {ps : List PyData}, toPys ds = some ps → Ows ⟨K, cm, F, H⟩ ds vs f → DpAll K H vs ps
  | [], vs, f, ps, e, o => by cases e; rw [o.1]; exact .nil
  | d :: ds, vs, f, ps, e, o => by
    obtain ⟨w, r, g, x, rfl, o1, o2, _⟩ := o
    obtain ⟨p, e1, e2⟩ := Option.bind_eq_some_iff.mp (show ((toPy d).bind fun p => (toPys ds).map fun ps => p :: ps) = some ps from e)
    obtain ⟨qs, e3, e4⟩ := Option.map_eq_some_iff.mp e2
    subst e4
    exact .cons (Ow.dp hs e1 o1) (Ows.dp hs e3 o2)
end
end
def dEqB (a b : D) : Option Bool := (toPy a).bind fun p => (toPy b).bind fun q => if (SeqAt.shaped p && SeqAt.shaped q) = true then some (PyData.eqv p q) else none
def dEq (a b : D) : Option D := (dEqB a b).map .bl
def dNe (a b : D) : Option D := (dEqB a b).map fun c => .bl (!c)
theorem dEqB_some {a b : D} {c : Bool} (h : dEqB a b = some c) : ∃ p q, toPy a = some p ∧ toPy b = some q ∧ SeqAt.shaped p = true ∧ SeqAt.shaped q = true ∧ c = PyData.eqv p q := by
  unfold dEqB at h
  obtain ⟨p, e1, h⟩ := Option.bind_eq_some_iff.mp h
  obtain ⟨q, e2, h⟩ := Option.bind_eq_some_iff.mp h
  by_cases z : (SeqAt.shaped p && SeqAt.shaped q) = true
  · rw [if_pos z] at h
    rw [Bool.and_eq_true] at z
    exact ⟨p, q, e1, e2, z.1, z.2, (Option.some.inj h).symm⟩
  · rw [if_neg z] at h; cases h
theorem o_eq : OpOk K (rEqD K) dEq := by
  intro cm F H x y a b d f h Q hs _ _ e o1 o2 q
  obtain ⟨c, e1, rfl⟩ := Option.map_eq_some_iff.mp e
  obtain ⟨p, r, p1, p2, s1, s2, rfl⟩ := dEqB_some e1
  exact ⟨p, r, Ow.dp hs p1 o1, Ow.dp hs p2 o2, s1, s2, q _ ⟨rfl, .rfl'⟩⟩
theorem o_ne : OpOk K (rNeD K) dNe := by
  intro cm F H x y a b d f h Q hs _ _ e o1 o2 q
  obtain ⟨c, e1, rfl⟩ := Option.map_eq_some_iff.mp e
  obtain ⟨p, r, p1, p2, s1, s2, rfl⟩ := dEqB_some e1
  exact ⟨p, r, Ow.dp hs p1 o1, Ow.dp hs p2 o2, s1, s2, q _ ⟨rfl, .rfl'⟩⟩
/-! ### items -/
def dIx : D → D → Option D
  | .nd .lst _ xs, .int i => atI xs i
  | .nd .fzl _ xs, .int i => atI xs i
  | .nd .tup _ xs, .int i => atI xs i
  | .str z, .int i => if decide (z.length ≤ sizeLine) = true then (atI z.cps.toList i).map fun c => .str ⟨#[c]⟩ else none
  | _, _ => none
def rIx (K : PySem.W.Frag) : R2 := fun x y H Q => (rIxL K x y H Q ∨ rIxT K x y H Q) ∨ rIxS x y H Q
theorem ix_all : IxR X (rIx X.K) := IxR.or (IxR.or ix_list ix_tup) ix_str
theorem Ows.get {E : HE} : ∀ {ds : List D} {vs : List V} {f : Fp} {j : Nat} {d : D}, Ows E ds vs f → ds[j]? = some d → ∃ v g, vs[j]? = some v ∧ Ow E d v g ∧ ∀ a, g a ≤ f a
  | [], _, _, _, _, _, e => by simp at e
  | d0 :: ds, vs, f, 0, d, h, e => by
    obtain ⟨w, r, g, x, rfl, o1, o2, eq⟩ := h
    simp at e
    subst e
    exact ⟨w, g, rfl, o1, fun a => by rw [eq a, ad_ap]; omega⟩
  | d0 :: ds, vs, f, j + 1, d, h, e => by
    obtain ⟨w, r, g, x, rfl, o1, o2, eq⟩ := h
    obtain ⟨v, y, h1, h2, h3⟩ := Ows.get (j := j) o2 (by simpa using e)
    exact ⟨v, y, by simpa using h1, h2, fun a => by rw [eq a, ad_ap]; have := h3 a; omega⟩
theorem atI_get {α : Type} {xs : List α} {i : Int} {x : α} (h : atI xs i = some x) : ∃ j, ixN xs.length i = some j ∧ xs[j]? = some x := Option.bind_eq_some_iff.mp h
theorem Ows.atI {E : HE} {ds : List D} {vs : List V} {f : Fp} {i : Int} {d : D} (h : Ows E ds vs f) (e : L2.atI ds i = some d) : ∃ v g, L2.atI vs i = some v ∧ Ow E d v g ∧ ∀ a, g a ≤ f a := by
  obtain ⟨j, e1, e2⟩ := atI_get e
  obtain ⟨v, g, h1, h2, h3⟩ := h.get e2
  exact ⟨v, g, Option.bind_eq_some_iff.mpr ⟨j, by rw [← h.len]; exact e1, h1⟩, h2, h3⟩
theorem NdAt.le {E : HE} {k : Nd} {o : Bool} {p : Addr} {ws : List V} {g f : Fp} (h : NdAt E k o p ws g f) : ∀ a, g a ≤ f a := fun a => by
  rcases h with ⟨_, _, _, e⟩ | ⟨_, _, e⟩ | ⟨_, _, e, e2⟩
  · rw [e a]; omega
  · rw [e a, ad_ap]; omega
  · rw [e a, zf_ap]; omega
theorem NdAt.lstH {F H : Hp} {o : Bool} {p : Addr} {ws : List V} {g f : Fp} (hs : Sub F H) (h : NdAt ⟨K, cm, F, H⟩ .lst o p ws g f) : H p = some (.lst ws) := by
  rcases h with ⟨z, _⟩ | ⟨_, h, _⟩ | ⟨_, h, _⟩
  · cases z
  · exact h
  · exact hs _ _ h
theorem NdAt.lst {F H : Hp} {o : Bool} {p : Addr} {ws : List V} {g f : Fp} (hs : Sub F H) (h : NdAt ⟨K, cm, F, H⟩ .lst o p ws g f) : SqL K H p ws := .of (h.lstH hs)
theorem NdAt.fzl {F H : Hp} {o : Bool} {p : Addr} {ws : List V} {g f : Fp} (hs : Sub F H) (h : NdAt ⟨K, cm, F, H⟩ .fzl o p ws g f) : SqL K H p ws := by
  rcases h with ⟨z, _⟩ | ⟨_, h, _⟩ | ⟨_, h, _⟩
  · cases z
  · exact h.elim
  · exact hs.sqL h
theorem NdAt.tupH {F H : Hp} {o : Bool} {p : Addr} {ws : List V} {g f : Fp} (hs : Sub F H) (h : NdAt ⟨K, cm, F, H⟩ .tup o p ws g f) : H p = some (.tup ws) := by
  rcases h with ⟨_, _, h, _⟩ | ⟨_, h, _⟩ | ⟨_, h, _⟩
  · exact hs _ _ h
  · exact h.elim
  · exact h.elim
theorem NdAt.tup {F H : Hp} {o : Bool} {p : Addr} {ws : List V} {g f : Fp} (hs : Sub F H) (h : NdAt ⟨K, cm, F, H⟩ .tup o p ws g f) : SqT K H p ws := .of (h.tupH hs)
theorem ix_core {F H : Hp} {a b d : D} {x y : V} {f h : Fp} {Q : VK} (hs : Sub F H) (e : dIx a b = some d) (o1 : Ow ⟨K, cm, F, H⟩ a x f) (o2 : Ow ⟨K, cm, F, H⟩ b y h) (q : ∀ v g, Ow ⟨K, cm, F, H⟩ d v g → (∀ a, g a ≤ f a) → Q v H) : rIx K x y H Q := by
  cases a with
  | nd k o xs =>
    obtain ⟨p, ws, g, rfl, hw, hn⟩ := o1
    cases b with
    | int i =>
      cases k with
      | lst =>
        obtain ⟨v, g2, h1, h2, h3⟩ := hw.atI (show atI xs i = some d from e)
        exact .inl (.inl ⟨p, ws, i, v, rfl, o2.1, hn.lst hs, h1, q v g2 h2 fun a => Nat.le_trans (h3 a) (hn.le a)⟩)
      | fzl =>
        obtain ⟨v, g2, h1, h2, h3⟩ := hw.atI (show atI xs i = some d from e)
        exact .inl (.inl ⟨p, ws, i, v, rfl, o2.1, hn.fzl hs, h1, q v g2 h2 fun a => Nat.le_trans (h3 a) (hn.le a)⟩)
      | tup =>
        obtain ⟨v, g2, h1, h2, h3⟩ := hw.atI (show atI xs i = some d from e)
        exact .inl (.inr ⟨p, ws, i, v, rfl, o2.1, hn.tup hs, h1, q v g2 h2 fun a => Nat.le_trans (h3 a) (hn.le a)⟩)
      | _ => cases e
    | _ => cases k <;> cases e
  | str z =>
    cases b with
    | int i =>
      have e : (if decide (z.length ≤ sizeLine) = true then (atI z.cps.toList i).map fun c => D.str ⟨#[c]⟩ else none) = some d := e
      by_cases zz : decide (z.length ≤ sizeLine) = true
      · rw [if_pos zz] at e
        obtain ⟨c, e1, rfl⟩ := Option.map_eq_some_iff.mp e
        exact .inr ⟨z, i, c, o1.1, o2.1, of_decide_eq_true zz, e1, q _ zf ⟨rfl, .rfl'⟩ fun _ => Nat.zero_le _⟩
      · rw [if_neg zz] at e; cases e
    | _ => cases e
  | _ => cases b <;> cases e
theorem Vw.ix {a b : Expr} {f g : MV} (ha : GV X cm a f) (hb : GV X cm b g) (hs : PlainIx b := by exact fun _ _ => rfl) : GV X cm (.Subscript a b pos) (vOp dIx f g) := by
  obtain ⟨ta, p1, q1⟩ := ha
  obtain ⟨tb, p2, q2⟩ := hb
  refine ⟨_, pe_ix ix_all p1 p2 hs, fun σ F H T ρ d Q w s h k => ?_⟩
  unfold vOp at h
  obtain ⟨a, e1, h⟩ := Option.bind_eq_some_iff.mp h
  obtain ⟨b, e2, h⟩ := Option.bind_eq_some_iff.mp h
  refine q1 σ F H T ρ a _ w s e1 fun x f1 o1 l1 => q2 σ F H T ρ b _ w s e2 fun y f2 o2 l2 => ?_
  exact ix_core w.sub h o1 o2 fun v g o l => k v g o fun a => Nat.le_trans (l a) (l1 a)
theorem E.ix {a b : Expr} {f g : ME} (ha : GE X cm W a f) (hb : GE X cm W b g) (hs : PlainIx b := by exact fun _ _ => rfl) : GE X cm W (.Subscript a b pos) (rOp dIx f g) := by
  obtain ⟨ta, p1, q1⟩ := ha
  obtain ⟨tb, p2, q2⟩ := hb
  refine ⟨_, pe_ix ix_all p1 p2 hs, fun σ F H T ρ Q w s h => ?_⟩
  refine two q1 q2 w s (R := fun x y H' => rIx X.K x y H' Q) h fun a b ρ2 x y F' H' T' C1 C2 w' s' l o1 o2 h' => ?_
  cases e : dIx a b with
  | none => rw [e] at h'; exact h'.elim
  | some d =>
    rw [e] at h'
    refine ix_core w'.sub e o1 o2 fun v g o le => ?_
    have l2 : ∀ a, ad T' g a ≤ ad (ad T' C2) C1 a := fun a => by simp only [ad_ap]; have := le a; omega
    exact h' v F' H' T' g (w'.le l2) (Stp.le l2) l o
/-- a name's item, the index reckoned with effects -/
def rIxN (i : Nat) (g : ME) : ME := fun ρ => match gt ρ i with
  | some _ => (g ρ).bind fun k ρ1 => match gt ρ1 i with
    | some a => match dIx a k with
      | some d => if noOwn d = true then .ok d ρ1 else .no
      | none => .no
    | none => .no
  | none => .no
theorem E.ixN {i : Nat} {x : Str} {p : Pos} {b : Expr} {g : ME} (hN : X.N[i]? = some x) (hv : Vis X.env.scope x) (hb : GE X cm W b g) (hd : (x == ("__debug__" : Str)) = false := by decide) (hcd : (x == ("__classdict__" : Str)) = false := by decide) (hs : PlainIx b := by exact fun _ _ => rfl) :
    GE X cm W (.Subscript (.Name x p) b pos) (rIxN i g) := by
  obtain ⟨tb, p2, q2⟩ := hb
  refine ⟨_, pe_ix ix_all (pe_var hN hv hd hcd) p2 hs, fun σ F H T ρ Q w s h => ?_⟩
  unfold rIxN at h
  cases e0 : gt ρ i with
  | none => rw [e0] at h; exact h.elim
  | some a0 =>
    rw [e0] at h
    obtain ⟨v, _, _, hv, _⟩ := s.get (gt_some e0)
    refine ⟨v, hv, q2 σ F H T ρ _ w s ?_⟩
    have h : EndE _ W σ F H T ((g ρ).bind fun k ρ1 => match gt ρ1 i with
      | some a => match dIx a k with
        | some d => if noOwn d = true then .ok d ρ1 else .no
        | none => .no
      | none => .no) Q := h
    cases e : g ρ with
    | no => rw [e] at h; exact h
    | ex z ρ1 => rw [e] at h; exact h
    | ok k ρ1 =>
      rw [e] at h
      intro y F1 H1 T1 C w1 s1 l1 o1
      have h : EndE _ W σ F H T (match gt ρ1 i with
        | some a => match dIx a k with
          | some d => if noOwn d = true then .ok d ρ1 else .no
          | none => .no
        | none => .no) Q := h
      cases e1 : gt ρ1 i with
      | none => rw [e1] at h; exact h.elim
      | some a =>
        rw [e1] at h
        have h : EndE _ W σ F H T (match dIx a k with
          | some d => if noOwn d = true then .ok d ρ1 else .no
          | none => .no) Q := h
        cases e2 : dIx a k with
        | none => rw [e2] at h; exact h.elim
        | some d =>
          rw [e2] at h
          have h : EndE _ W σ F H T (if noOwn d = true then .ok d ρ1 else .no) Q := h
          by_cases n : noOwn d = true
          · rw [if_pos n] at h
            obtain ⟨v', g', x', k1, k2, _, _⟩ := l1.get (gt_some e1)
            rw [hv] at k1
            cases k1
            refine ix_core w1.sub e2 k2 o1 fun z gz oz lz => ?_
            have ez := Ow.no n oz
            exact h z F1 H1 T1 gz (w1.part.zz ez) ((s1.leR fun a => by rw [ad_ap]; omega : Stp F H T F1 H1 T1).zz ez) l1 oz
          · rw [if_neg n] at h; exact h.elim
end
end DL
namespace DL
open PySem L2 PyProof.Rows
section
variable {X : Cx} {cm : Str → Option Addr} {W : WX} {S : Sc} {pos : Pos} {K : PySem.W.Frag}
/-! ### arguments that are looked at -/
abbrev MVs := Env → Option (List D)
def VwOk (E : HE) (T : Fp) : List D → List V → Prop
  | [], vs => vs = []
  | d :: ds, vs => ∃ v r f, vs = v :: r ∧ Ow E d v f ∧ (∀ a, f a ≤ T a) ∧ VwOk E T ds r
def SpVA (S : Sc) (ta : TA) (m : MVs) : Prop := ∀ σ F H T ρ ds (Q : List V → Hp → Prop), Wd F H T → Sls (S.at F H) ρ σ T → m ρ = some ds → (∀ vs, VwOk (S.at F H) T ds vs → Q vs H) → ta σ H Q
def GVA (X : Cx) (cm : Str → Option Addr) (es : List Expr) (m : MVs) : Prop := ∃ t, PA X es t ∧ SpVA ⟨X.K, cm⟩ t m
def vNil : MVs := fun _ => some []
def vCons (f : MV) (m : MVs) : MVs := fun ρ => (f ρ).bind fun d => (m ρ).map fun ds => d :: ds
theorem VA.nil : GVA X cm [] vNil := ⟨_, pa_nil, fun σ F H T ρ ds Q w s e k => by cases e; exact k [] rfl⟩
theorem VA.cons {e : Expr} {es : List Expr} {f : MV} {m : MVs} (h : GV X cm e f) (h2 : GVA X cm es m) (hs : starEach (e :: es) X.env = (false, eval e X.env) :: starEach es X.env := by rfl) : GVA X cm (e :: es) (vCons f m) := by
  obtain ⟨t, p, q⟩ := h
  obtain ⟨t2, p2, q2⟩ := h2
  refine ⟨_, pa_cons p p2 hs, fun σ F H T ρ ds Q w s e k => ?_⟩
  obtain ⟨d, e1, e2⟩ := Option.bind_eq_some_iff.mp e
  obtain ⟨ds', e3, e4⟩ := Option.map_eq_some_iff.mp e2
  subst e4
  exact q σ F H T ρ d _ w s e1 fun v f o l => q2 σ F H T ρ ds' _ w s e3 fun vs ok => k (v :: vs) ⟨v, vs, f, rfl, o, l, ok⟩
theorem VwOk.of {E : HE} {T : Fp} : ∀ {ds : List D} {vs : List V} {f : Fp}, Ows E ds vs f → (∀ a, f a ≤ T a) → VwOk E T ds vs
  | [], vs, f, h, _ => h.1
  | d :: ds, vs, f, h, l => by
    obtain ⟨w, r, g, x, rfl, o1, o2, e⟩ := h
    exact ⟨w, r, g, rfl, o1, fun a => by have := l a; rw [e a, ad_ap] at this; omega, VwOk.of o2 fun a => by have := l a; rw [e a, ad_ap] at this; omega⟩
/-- a call that tells a thing without a heap of its own -/
def CaOk (K : PySem.W.Frag) (r : List V → Hp → VK → Prop) (op : List D → Option D) : Prop := ∀ cm F H T vs ds d (Q : VK), Sub F H → (∀ a, T a ≠ 0 → Mut (H a)) → op ds = some d → VwOk ⟨K, cm, F, H⟩ T ds vs → (∀ z, Ow ⟨K, cm, F, H⟩ d z zf → Q z H) → r vs H Q
/-- .. a new thing -/
def NewOk (K : PySem.W.Frag) (r : List V → Hp → VK → Prop) (op : List D → Option D) : Prop := ∀ cm F H T vs ds d (Q : VK), Sub F H → (∀ a, T a ≠ 0 → Mut (H a)) → op ds = some d → VwOk ⟨K, cm, F, H⟩ T ds vs →
  (∀ p o, H p = none → Mut (some o) → Ow ⟨K, cm, F, upd H p o⟩ d (.ref p) (one p) → Q (.ref p) (upd H p o)) → r vs H Q
def vB (op : List D → Option D) (m : MVs) : MV := fun ρ => (m ρ).bind op
def rB (op : List D → Option D) (m : MA) : ME := fun ρ => match m ρ with
  | .ok as ρ1 => match vals as with
    | some ds => .of (op ds) ρ1
    | none => .no
  | .ex e ρ1 => .ex e ρ1
  | .no => .no
/-- a new thing of things looked at -/
def rNV (op : List D → Option D) (m : MVs) : ME := fun ρ => match m ρ with
  | some ds => .of (op ds) ρ
  | none => .no
theorem fresh_ne {F H : Hp} {T : Fp} {p : Addr} (w : Wd F H T) (hp : H p = none) : F p = none ∧ T p = 0 := by
  refine ⟨?_, ?_⟩
  · cases e : F p with
    | none => rfl
    | some o => rw [w.sub p o e] at hp; cases hp
  · by_cases z : T p = 0
    · exact z
    · have := w.mu p z
      rw [hp] at this; exact this.elim
theorem up_keep {H : Hp} {p : Addr} {o : HO} (hp : H p = none) {T : Fp} : Keep H T (upd H p o) := fun a u h _ => by
  rw [upd_ne (ne_of_none h hp)]; exact h
theorem ow_up {F H : Hp} {p : Addr} {o : HO} {d : D} {v : V} {f : Fp} (hp : H p = none) (h : Ow ⟨K, cm, F, H⟩ d v f) : Ow ⟨K, cm, F, upd H p o⟩ d v f := Ow.mono (T := zf) (Sub.refl _) (up_keep hp) (fun a z => absurd rfl z) _ _ _ (fun _ _ => rfl) h
theorem ows_up {F H : Hp} {p : Addr} {o : HO} {d : List D} {v : List V} {f : Fp} (hp : H p = none) (h : Ows ⟨K, cm, F, H⟩ d v f) : Ows ⟨K, cm, F, upd H p o⟩ d v f := Ows.mono (T := zf) (Sub.refl _) (up_keep hp) (fun a z => absurd rfl z) _ _ _ (fun _ _ => rfl) h
theorem sls_up {F H : Hp} {p : Addr} {o : HO} {ρ : Env} {σ : L2.St} {f : Fp} (hp : H p = none) (h : Sls ⟨K, cm, F, H⟩ ρ σ f) : Sls ⟨K, cm, F, upd H p o⟩ ρ σ f := Sls.mono (T := zf) (Sub.refl _) (up_keep hp) (fun a z => absurd rfl z) _ _ _ (fun _ _ => rfl) h
/-- a new owned thing -/
theorem alloc {F H : Hp} {T : Fp} {p : Addr} {o : HO} (w : Wd F H T) (hp : H p = none) (m : Mut (some o)) : Wd F (upd H p o) (ad T (one p)) ∧ Stp F H T F (upd H p o) (ad T (one p)) := by
  obtain ⟨f0, t0⟩ := fresh_ne w hp
  refine ⟨⟨fun a u h => up_keep hp a u (w.sub a u h) (T := zf) rfl, fun a => ?_, fun a z => ?_, fun a z => ?_⟩, ⟨up_keep hp, Sub.refl _, fun a h1 h2 h3 => ⟨?_, h3⟩⟩⟩
  · rw [ad_ap]
    by_cases e : a = p
    · subst e; rw [t0, one_self]; omega
    · rw [one_ne e]; have := w.one a; omega
  · rw [ad_ap] at z
    by_cases e : a = p
    · subst e; exact f0
    · rw [one_ne e] at z; exact w.off a (by omega)
  · rw [ad_ap] at z
    by_cases e : a = p
    · subst e; rw [upd_same]; exact m
    · rw [one_ne e] at z; rw [upd_ne e]; exact w.mu a (by omega)
  · have : a ≠ p := fun e => by subst e; rw [hp] at h1; exact h1
    rw [ad_ap, one_ne this, h2]
/-- a new frozen thing -/
theorem allocF {F H : Hp} {T : Fp} {p : Addr} {o : HO} (w : Wd F H T) (hp : H p = none) : Wd (upd F p o) (upd H p o) T ∧ Stp F H T (upd F p o) (upd H p o) T ∧ Sub F (upd F p o) := by
  obtain ⟨f0, t0⟩ := fresh_ne w hp
  have fs : Sub F (upd F p o) := fun a u h => by rw [upd_ne (ne_of_none h f0)]; exact h
  refine ⟨⟨fun a u h => ?_, w.one, fun a z => ?_, fun a z => ?_⟩, ⟨up_keep hp, fs, fun a h1 h2 h3 => ⟨h2, ?_⟩⟩, fs⟩
  · by_cases e : a = p
    · subst e; rw [upd_same] at h ⊢; exact h
    · rw [upd_ne e] at h ⊢; exact w.sub a u h
  · have : a ≠ p := fun e => by subst e; exact z t0
    rw [upd_ne this]; exact w.off a z
  · have : a ≠ p := fun e => by subst e; exact z t0
    rw [upd_ne this]; exact w.mu a z
  · have : a ≠ p := fun e => by subst e; rw [hp] at h1; exact h1
    rw [upd_ne this]; exact h3
theorem vB_sp {r : List V → Hp → VK → Prop} {op : List D → Option D} {ta : TA} {m : MVs} (o : CaOk S.K r op) (q : SpVA S ta m) : SpV S (tCB r ta) (vB op m) := by
  intro σ F H T ρ d Q w s e k
  obtain ⟨ds, e1, e2⟩ := Option.bind_eq_some_iff.mp e
  exact q σ F H T ρ ds _ w s e1 fun vs ok => o S.cm F H T vs ds d Q w.sub w.mu e2 ok fun z oz => k z zf oz fun _ => Nat.zero_le _
theorem rB_sp {r : List V → Hp → VK → Prop} {op : List D → Option D} {ta : TA} {m : MA} (o : CaOk S.K r op) (q : SpA S W ta m) : SpE S W (tCB r ta) (rB op m) := by
  intro σ F H T ρ Q w s k
  refine q σ F H T ρ _ w s ?_
  unfold rB at k
  cases e : m ρ with
  | no => rw [e] at k; exact k
  | ex z ρ1 => rw [e] at k; exact k
  | ok as ρ1 =>
    rw [e] at k
    intro vs F1 H1 T1 C1 w1 s1 l1 o1
    have k : EndE S W σ F H T (match vals as with
      | some ds => .of (op ds) ρ1
      | none => .no) Q := k
    cases e2 : vals as with
    | none => rw [e2] at k; exact k.elim
    | some ds =>
      rw [e2] at k
      have k : EndE S W σ F H T (.of (op ds) ρ1) Q := k
      cases e3 : op ds with
      | none => rw [e3] at k; exact k.elim
      | some d =>
        rw [e3] at k
        have ok : VwOk (S.at F1 H1) (ad T1 C1) ds vs := VwOk.of (vals_ok o1 e2) fun a => by rw [ad_ap]; omega
        exact o S.cm F1 H1 _ vs ds d Q w1.sub w1.mu e3 ok fun z oz => k z F1 H1 T1 zf w1.part.z ((s1.leR fun a => by rw [ad_ap]; omega : Stp F H T F1 H1 T1).zz .rfl') l1 oz
theorem rNew_sp {r : List V → Hp → VK → Prop} {op : List D → Option D} {ta : TA} {m : MA} (o : NewOk S.K r op) (q : SpA S W ta m) : SpE S W (tCB r ta) (rB op m) := by
  intro σ F H T ρ Q w s k
  refine q σ F H T ρ _ w s ?_
  unfold rB at k
  cases e : m ρ with
  | no => rw [e] at k; exact k
  | ex z ρ1 => rw [e] at k; exact k
  | ok as ρ1 =>
    rw [e] at k
    intro vs F1 H1 T1 C1 w1 s1 l1 o1
    have k : EndE S W σ F H T (match vals as with
      | some ds => .of (op ds) ρ1
      | none => .no) Q := k
    cases e2 : vals as with
    | none => rw [e2] at k; exact k.elim
    | some ds =>
      rw [e2] at k
      have k : EndE S W σ F H T (.of (op ds) ρ1) Q := k
      cases e3 : op ds with
      | none => rw [e3] at k; exact k.elim
      | some d =>
        rw [e3] at k
        have ok : VwOk (S.at F1 H1) (ad T1 C1) ds vs := VwOk.of (vals_ok o1 e2) fun a => by rw [ad_ap]; omega
        refine o S.cm F1 H1 _ vs ds d Q w1.sub w1.mu e3 ok fun p ob hp mm od => ?_
        have w2 := w1.part
        have s2 : Stp F H T F1 H1 T1 := s1.leR fun a => by rw [ad_ap]; omega
        obtain ⟨w3, s3⟩ := alloc w2 hp mm
        exact k _ F1 _ T1 (one p) w3 (s2.trans w2 s3) (sls_up hp l1) od
theorem rNV_sp {r : List V → Hp → VK → Prop} {op : List D → Option D} {ta : TA} {m : MVs} (o : NewOk S.K r op) (q : SpVA S ta m) : SpE S W (tCB r ta) (rNV op m) := by
  intro σ F H T ρ Q w s k
  unfold rNV at k
  cases e : m ρ with
  | none => rw [e] at k; exact k.elim
  | some ds =>
    rw [e] at k
    refine q σ F H T ρ ds _ w s e fun vs ok => ?_
    have k : EndE S W σ F H T (.of (op ds) ρ) Q := k
    cases e3 : op ds with
    | none => rw [e3] at k; exact k.elim
    | some d =>
      rw [e3] at k
      refine o S.cm F H _ vs ds d Q w.sub w.mu e3 ok fun p ob hp mm od => ?_
      obtain ⟨w3, s3⟩ := alloc w hp mm
      exact k _ F _ T (one p) w3 s3 (sls_up hp s) od
section
variable {x : Str} {p : Pos} {e : Expr} {es : List Expr} {id T : String} {r : List V → Hp → VK → Prop} {op : List D → Option D}
theorem Vw.bi {m : MVs} (o : CaOk X.K r op) (hc : CallR X (.builtin id) r) (hg : Gl X x) (hm : X.mg x = none) (hv : bootBuiltins x = some (.builtin id)) (ha : GVA X cm (e :: es) m) (hn : x ≠ "__name__" := by decide) (hdb : (x == ("__debug__" : Str)) = false := by decide)
    (he : starEach (e :: es) X.env = (false, eval e X.env) :: starEach es X.env := by rfl) (hpl : (backTo pos (starEach es X.env)).any (·.1) = false := by rfl) : GV X cm (.Call (.Name x p) (e :: es) [] pos) (vB op m) := by
  obtain ⟨t, pa, q⟩ := ha
  exact ⟨_, pe_callB hc hg hm hv pa hn hdb he hpl, vB_sp o q⟩
theorem E.bi {m : MA} (o : CaOk X.K r op) (hc : CallR X (.builtin id) r) (hg : Gl X x) (hm : X.mg x = none) (hv : bootBuiltins x = some (.builtin id)) (ha : GA X cm W (e :: es) m) (hn : x ≠ "__name__" := by decide) (hdb : (x == ("__debug__" : Str)) = false := by decide)
    (he : starEach (e :: es) X.env = (false, eval e X.env) :: starEach es X.env := by rfl) (hpl : (backTo pos (starEach es X.env)).any (·.1) = false := by rfl) : GE X cm W (.Call (.Name x p) (e :: es) [] pos) (rB op m) := by
  obtain ⟨t, pa, q, _⟩ := ha
  exact ⟨_, pe_callB hc hg hm hv pa hn hdb he hpl, rB_sp o q⟩
theorem E.biN {m : MA} (o : NewOk X.K r op) (hc : CallR X (.builtin id) r) (hg : Gl X x) (hm : X.mg x = none) (hv : bootBuiltins x = some (.builtin id)) (ha : GA X cm W (e :: es) m) (hn : x ≠ "__name__" := by decide) (hdb : (x == ("__debug__" : Str)) = false := by decide)
    (he : starEach (e :: es) X.env = (false, eval e X.env) :: starEach es X.env := by rfl) (hpl : (backTo pos (starEach es X.env)).any (·.1) = false := by rfl) : GE X cm W (.Call (.Name x p) (e :: es) [] pos) (rB op m) := by
  obtain ⟨t, pa, q, _⟩ := ha
  exact ⟨_, pe_callB hc hg hm hv pa hn hdb he hpl, rNew_sp o q⟩
theorem E.biNV {m : MVs} (o : NewOk X.K r op) (hc : CallR X (.builtin id) r) (hg : Gl X x) (hm : X.mg x = none) (hv : bootBuiltins x = some (.builtin id)) (ha : GVA X cm (e :: es) m) (hn : x ≠ "__name__" := by decide) (hdb : (x == ("__debug__" : Str)) = false := by decide)
    (he : starEach (e :: es) X.env = (false, eval e X.env) :: starEach es X.env := by rfl) (hpl : (backTo pos (starEach es X.env)).any (·.1) = false := by rfl) : GE X cm W (.Call (.Name x p) (e :: es) [] pos) (rNV op m) := by
  obtain ⟨t, pa, q⟩ := ha
  exact ⟨_, pe_callB hc hg hm hv pa hn hdb he hpl, rNV_sp o q⟩
theorem Vw.ty {m : MVs} (o : CaOk X.K r op) (hc : CallR X (.type T) r) (hg : Gl X x) (hm : X.mg x = none) (hv : bootBuiltins x = some (.type T)) (ha : GVA X cm (e :: es) m) (hn : x ≠ "__name__" := by decide) (hdb : (x == ("__debug__" : Str)) = false := by decide)
    (he : starEach (e :: es) X.env = (false, eval e X.env) :: starEach es X.env := by rfl) (hpl : (backTo pos (starEach es X.env)).any (·.1) = false := by rfl) : GV X cm (.Call (.Name x p) (e :: es) [] pos) (vB op m) := by
  obtain ⟨t, pa, q⟩ := ha
  exact ⟨_, pe_callTy hc hg hm hv pa hn hdb he hpl, vB_sp o q⟩
theorem E.ty {m : MA} (o : CaOk X.K r op) (hc : CallR X (.type T) r) (hg : Gl X x) (hm : X.mg x = none) (hv : bootBuiltins x = some (.type T)) (ha : GA X cm W (e :: es) m) (hn : x ≠ "__name__" := by decide) (hdb : (x == ("__debug__" : Str)) = false := by decide)
    (he : starEach (e :: es) X.env = (false, eval e X.env) :: starEach es X.env := by rfl) (hpl : (backTo pos (starEach es X.env)).any (·.1) = false := by rfl) : GE X cm W (.Call (.Name x p) (e :: es) [] pos) (rB op m) := by
  obtain ⟨t, pa, q, _⟩ := ha
  exact ⟨_, pe_callTy hc hg hm hv pa hn hdb he hpl, rB_sp o q⟩
theorem E.tyN {m : MA} (o : NewOk X.K r op) (hc : CallR X (.type T) r) (hg : Gl X x) (hm : X.mg x = none) (hv : bootBuiltins x = some (.type T)) (ha : GA X cm W (e :: es) m) (hn : x ≠ "__name__" := by decide) (hdb : (x == ("__debug__" : Str)) = false := by decide)
    (he : starEach (e :: es) X.env = (false, eval e X.env) :: starEach es X.env := by rfl) (hpl : (backTo pos (starEach es X.env)).any (·.1) = false := by rfl) : GE X cm W (.Call (.Name x p) (e :: es) [] pos) (rB op m) := by
  obtain ⟨t, pa, q, _⟩ := ha
  exact ⟨_, pe_callTy hc hg hm hv pa hn hdb he hpl, rNew_sp o q⟩
theorem E.tyNV {m : MVs} (o : NewOk X.K r op) (hc : CallR X (.type T) r) (hg : Gl X x) (hm : X.mg x = none) (hv : bootBuiltins x = some (.type T)) (ha : GVA X cm (e :: es) m) (hn : x ≠ "__name__" := by decide) (hdb : (x == ("__debug__" : Str)) = false := by decide)
    (he : starEach (e :: es) X.env = (false, eval e X.env) :: starEach es X.env := by rfl) (hpl : (backTo pos (starEach es X.env)).any (·.1) = false := by rfl) : GE X cm W (.Call (.Name x p) (e :: es) [] pos) (rNV op m) := by
  obtain ⟨t, pa, q⟩ := ha
  exact ⟨_, pe_callTy hc hg hm hv pa hn hdb he hpl, rNV_sp o q⟩
end
/-! ### len, abs, max, min -/
def dLen : List D → Option D
  | [.nd .lst _ xs] => some (.int xs.length)
  | [.nd .fzl _ xs] => some (.int xs.length)
  | [.nd .tup _ xs] => some (.int xs.length)
  | [.str x] => if decide (x.length ≤ sizeLine) = true then some (.int x.length) else none
  | _ => none
theorem c_len : CaOk K (fun xs H Q => ∃ x n, xs = [x] ∧ LenV K x H n ∧ Q (.int n) H) dLen := by
  intro cm F H T vs ds d Q hs _ e ok q
  unfold dLen at e
  split at e
  · cases e
    obtain ⟨v, r, f, rfl, o1, l, rfl⟩ := ok
    obtain ⟨p, ws, g, rfl, hw, hn⟩ := o1
    exact ⟨_, ws.length, rfl, .inl ⟨ws, hn.lst hs, rfl⟩, by rw [← hw.len]; exact q _ ⟨rfl, .rfl'⟩⟩
  · cases e
    obtain ⟨v, r, f, rfl, o1, l, rfl⟩ := ok
    obtain ⟨p, ws, g, rfl, hw, hn⟩ := o1
    exact ⟨_, ws.length, rfl, .inl ⟨ws, hn.fzl hs, rfl⟩, by rw [← hw.len]; exact q _ ⟨rfl, .rfl'⟩⟩
  · cases e
    obtain ⟨v, r, f, rfl, o1, l, rfl⟩ := ok
    obtain ⟨p, ws, g, rfl, hw, hn⟩ := o1
    exact ⟨_, ws.length, rfl, .inr ⟨ws, hn.tup hs, rfl⟩, by rw [← hw.len]; exact q _ ⟨rfl, .rfl'⟩⟩
  · rename_i x
    obtain ⟨v, r, f, rfl, o1, l, rfl⟩ := ok
    by_cases z : decide (x.length ≤ sizeLine) = true
    · rw [if_pos z] at e
      cases e
      have := o1.1
      subst this
      exact ⟨_, x.length, rfl, ⟨of_decide_eq_true z, rfl⟩, q _ ⟨rfl, .rfl'⟩⟩
    · rw [if_neg z] at e; cases e
  · cases e
def dAbs : List D → Option D
  | [.int i] => some (.int (if i < 0 then -i else i))
  | _ => none
theorem c_abs : CaOk K (fun xs H Q => ∃ i, xs = [.int i] ∧ Q (.int (if i < 0 then -i else i)) H) dAbs := by
  intro cm F H T vs ds d Q hs _ e ok q
  unfold dAbs at e
  split at e
  · cases e
    obtain ⟨v, r, f, rfl, o1, l, rfl⟩ := ok
    have := o1.1
    subst this
    exact ⟨_, rfl, q _ ⟨rfl, .rfl'⟩⟩
  · cases e
def dMax2 : List D → Option D
  | [.int i, .int j] => some (.int (if j > i then j else i))
  | _ => none
def dMin2 : List D → Option D
  | [.int i, .int j] => some (.int (if j < i then j else i))
  | _ => none
theorem c_max2 : CaOk K (fun xs H Q => ∃ i j, xs = [.int i, .int j] ∧ Q (.int (if j > i then j else i)) H) dMax2 := by
  intro cm F H T vs ds d Q hs _ e ok q
  unfold dMax2 at e
  split at e
  · cases e
    obtain ⟨v, r, f, rfl, o1, l, v2, r2, f2, rfl, o2, l2, rfl⟩ := ok
    have := o1.1
    subst this
    have := o2.1
    subst this
    exact ⟨_, _, rfl, q _ ⟨rfl, .rfl'⟩⟩
  · cases e
theorem c_min2 : CaOk K (fun xs H Q => ∃ i j, xs = [.int i, .int j] ∧ Q (.int (if j < i then j else i)) H) dMin2 := by
  intro cm F H T vs ds d Q hs _ e ok q
  unfold dMin2 at e
  split at e
  · cases e
    obtain ⟨v, r, f, rfl, o1, l, v2, r2, f2, rfl, o2, l2, rfl⟩ := ok
    have := o1.1
    subst this
    have := o2.1
    subst this
    exact ⟨_, _, rfl, q _ ⟨rfl, .rfl'⟩⟩
  · cases e
/-! ### lists of whole numbers, of truths -/
def intsD : List D → Option (List Int)
  | [] => some []
  | .int i :: r => (intsD r).map (i :: ·)
  | _ :: _ => none
theorem ints_map : ∀ {ds : List D} {ns : List Int}, intsD ds = some ns → ds = ns.map .int
  | [], ns, e => by cases e; rfl
  | .int i :: r, ns, e => by
    obtain ⟨q, e1, rfl⟩ := Option.map_eq_some_iff.mp (show (intsD r).map (i :: ·) = some ns from e)
    rw [ints_map e1]; rfl
  | .non :: _, _, e => by cases e
  | .bl _ :: _, _, e => by cases e
  | .str _ :: _, _, e => by cases e
  | .nd _ _ _ :: _, _, e => by cases e
theorem ints_of : ∀ ns : List Int, intsD (ns.map .int) = some ns
  | [] => rfl
  | n :: r => by
    show (intsD (r.map .int)).map (n :: ·) = _
    rw [ints_of r]; rfl
theorem ows_ints {E : HE} : ∀ {ns : List Int} {vs : List V} {f : Fp}, Ows E (ns.map .int) vs f → vs = ns.map V.int
  | [], vs, f, h => h.1
  | n :: r, vs, f, h => by
    obtain ⟨w, t, g, x, rfl, o1, o2, _⟩ := h
    rw [o1.1, ows_ints o2]; rfl
theorem ows_ofInts {E : HE} : ∀ (ns : List Int), Ows E (ns.map .int) (ns.map V.int) zf
  | [] => ⟨rfl, .rfl'⟩
  | n :: r => ⟨_, _, zf, zf, rfl, ⟨rfl, .rfl'⟩, ows_ofInts r, .rfl'⟩
def blsD : List D → Option (List Bool)
  | [] => some []
  | .bl i :: r => (blsD r).map (i :: ·)
  | _ :: _ => none
theorem bls_map : ∀ {ds : List D} {ns : List Bool}, blsD ds = some ns → ds = ns.map .bl
  | [], ns, e => by cases e; rfl
  | .bl i :: r, ns, e => by
    obtain ⟨q, e1, rfl⟩ := Option.map_eq_some_iff.mp (show (blsD r).map (i :: ·) = some ns from e)
    rw [bls_map e1]; rfl
  | .non :: _, _, e => by cases e
  | .int _ :: _, _, e => by cases e
  | .str _ :: _, _, e => by cases e
  | .nd _ _ _ :: _, _, e => by cases e
theorem bls_of : ∀ ns : List Bool, blsD (ns.map .bl) = some ns
  | [] => rfl
  | n :: r => by
    show (blsD (r.map .bl)).map (n :: ·) = _
    rw [bls_of r]; rfl
theorem ows_bls {E : HE} : ∀ {ns : List Bool} {vs : List V} {f : Fp}, Ows E (ns.map .bl) vs f → vs = ns.map V.bl
  | [], vs, f, h => h.1
  | n :: r, vs, f, h => by
    obtain ⟨w, t, g, x, rfl, o1, o2, _⟩ := h
    rw [o1.1, ows_bls o2]; rfl
/-- the one list of numbers handed in -/
def onL : List D → Option (List Int)
  | [.nd .lst _ xs] => intsD xs
  | _ => none
theorem onL_ok {cm : Str → Option Addr} {F H : Hp} {T : Fp} {ds : List D} {vs : List V} {ns : List Int} (hs : Sub F H) (e : onL ds = some ns) (ok : VwOk ⟨K, cm, F, H⟩ T ds vs) : ∃ p, vs = [.ref p] ∧ SqL K H p (ns.map V.int) := by
  unfold onL at e
  split at e
  · obtain ⟨v, r, f, rfl, o1, l, rfl⟩ := ok
    obtain ⟨p, ws, g, rfl, hw, hn⟩ := o1
    rw [ints_map e] at hw
    rw [ows_ints hw] at hn
    exact ⟨p, rfl, hn.lst hs⟩
  · cases e
def dSum (ds : List D) : Option D := (onL ds).map fun ns => .int ns.sum
theorem c_sum : CaOk K (rSum K) dSum := by
  intro cm F H T vs ds d Q hs _ e ok q
  obtain ⟨ns, e1, rfl⟩ := Option.map_eq_some_iff.mp e
  obtain ⟨p, rfl, h⟩ := onL_ok hs e1 ok
  exact ⟨p, ns, rfl, h, q _ ⟨rfl, .rfl'⟩⟩
def lmax : Int → List Int → Int
  | m, [] => m
  | m, x :: r => lmax (if x > m then x else m) r
def lmin : Int → List Int → Int
  | m, [] => m
  | m, x :: r => lmin (if x < m then x else m) r
theorem lmax_ge : ∀ (r : List Int) (m : Int), m ≤ lmax m r ∧ ∀ y ∈ r, y ≤ lmax m r
  | [], m => ⟨Int.le_refl _, fun y h => by cases h⟩
  | x :: r, m => by
    obtain ⟨h1, h2⟩ := lmax_ge r (if x > m then x else m)
    have hx : x ≤ (if x > m then x else m) ∧ m ≤ (if x > m then x else m) := by split <;> omega
    refine ⟨Int.le_trans hx.2 h1, fun y h => ?_⟩
    rcases List.mem_cons.mp h with rfl | h
    · exact Int.le_trans hx.1 h1
    · exact h2 y h
theorem lmin_le : ∀ (r : List Int) (m : Int), lmin m r ≤ m ∧ ∀ y ∈ r, lmin m r ≤ y
  | [], m => ⟨Int.le_refl _, fun y h => by cases h⟩
  | x :: r, m => by
    obtain ⟨h1, h2⟩ := lmin_le r (if x < m then x else m)
    have hx : (if x < m then x else m) ≤ x ∧ (if x < m then x else m) ≤ m := by split <;> omega
    refine ⟨Int.le_trans h1 hx.2, fun y h => ?_⟩
    rcases List.mem_cons.mp h with rfl | h
    · exact Int.le_trans h1 hx.1
    · exact h2 y h
theorem lmax_mem : ∀ (r : List Int) (m : Int), lmax m r = m ∨ lmax m r ∈ r
  | [], m => .inl rfl
  | x :: r, m => by
    show lmax (if x > m then x else m) r = m ∨ lmax (if x > m then x else m) r ∈ x :: r
    rcases lmax_mem r (if x > m then x else m) with h | h
    · by_cases z : x > m
      · rw [if_pos z] at h ⊢; exact .inr (by rw [h]; exact List.mem_cons_self ..)
      · rw [if_neg z] at h ⊢; exact .inl h
    · exact .inr (List.mem_cons_of_mem _ h)
theorem lmin_mem : ∀ (r : List Int) (m : Int), lmin m r = m ∨ lmin m r ∈ r
  | [], m => .inl rfl
  | x :: r, m => by
    show lmin (if x < m then x else m) r = m ∨ lmin (if x < m then x else m) r ∈ x :: r
    rcases lmin_mem r (if x < m then x else m) with h | h
    · by_cases z : x < m
      · rw [if_pos z] at h ⊢; exact .inr (by rw [h]; exact List.mem_cons_self ..)
      · rw [if_neg z] at h ⊢; exact .inl h
    · exact .inr (List.mem_cons_of_mem _ h)
def dMaxL (ds : List D) : Option D := (onL ds).bind fun ns => match ns with
  | [] => none
  | x :: r => some (.int (lmax x r))
def dMinL (ds : List D) : Option D := (onL ds).bind fun ns => match ns with
  | [] => none
  | x :: r => some (.int (lmin x r))
theorem c_maxL : CaOk K (rMax K) dMaxL := by
  intro cm F H T vs ds d Q hs _ e ok q
  obtain ⟨ns, e1, e2⟩ := Option.bind_eq_some_iff.mp e
  obtain ⟨p, rfl, h⟩ := onL_ok hs e1 ok
  cases ns with
  | nil => cases e2
  | cons x r =>
    cases e2
    refine ⟨p, x :: r, rfl, h, Nat.succ_pos _, fun m hm hge => ?_⟩
    have e : m = lmax x r := by
      refine Int.le_antisymm ?_ (hge _ ?_)
      · rcases List.mem_cons.mp hm with rfl | hm
        · exact (lmax_ge r m).1
        · exact (lmax_ge r x).2 m hm
      · rcases lmax_mem r x with h | h
        · rw [h]; exact List.mem_cons_self ..
        · exact List.mem_cons_of_mem _ h
    subst e
    exact q _ ⟨rfl, .rfl'⟩
theorem c_minL : CaOk K (rMin K) dMinL := by
  intro cm F H T vs ds d Q hs _ e ok q
  obtain ⟨ns, e1, e2⟩ := Option.bind_eq_some_iff.mp e
  obtain ⟨p, rfl, h⟩ := onL_ok hs e1 ok
  cases ns with
  | nil => cases e2
  | cons x r =>
    cases e2
    refine ⟨p, x :: r, rfl, h, Nat.succ_pos _, fun m hm hge => ?_⟩
    have e : m = lmin x r := by
      refine Int.le_antisymm (hge _ ?_) ?_
      · rcases lmin_mem r x with h | h
        · rw [h]; exact List.mem_cons_self ..
        · exact List.mem_cons_of_mem _ h
      · rcases List.mem_cons.mp hm with rfl | hm
        · exact (lmin_le r m).1
        · exact (lmin_le r x).2 m hm
    subst e
    exact q _ ⟨rfl, .rfl'⟩
def dAll : List D → Option D
  | [.nd .lst _ xs] => (blsD xs).map fun bs => .bl (bs.all id)
  | _ => none
theorem c_all : CaOk K (rAll K) dAll := by
  intro cm F H T vs ds d Q hs _ e ok q
  unfold dAll at e
  split at e
  · obtain ⟨bs, e1, rfl⟩ := Option.map_eq_some_iff.mp e
    obtain ⟨v, r, f, rfl, o1, l, rfl⟩ := ok
    obtain ⟨p, ws, g, rfl, hw, hn⟩ := o1
    rw [bls_map e1] at hw
    rw [ows_bls hw] at hn
    exact ⟨p, bs, rfl, hn.lst hs, q _ ⟨rfl, .rfl'⟩⟩
  · cases e
/-! ### new lists -/
theorem newL {cm : Str → Option Addr} {F H : Hp} {xs : List D} {ws : List V} {p : Addr} (hp : H p = none) (h : Ows ⟨K, cm, F, H⟩ xs ws zf) : Ow ⟨K, cm, F, upd H p (.lst ws)⟩ (.nd .lst true xs) (.ref p) (one p) :=
  ⟨p, ws, zf, rfl, ows_up hp h, .inr (.inl ⟨rfl, upd_same, fun a => by rw [ad_ap]; rfl⟩)⟩
def dList : List D → Option D
  | [.nd .lst _ xs] => if noOwns xs = true then some (.nd .lst true xs) else none
  | [.nd .tup _ xs] => if noOwns xs = true then some (.nd .lst true xs) else none
  | _ => none
theorem n_list : NewOk K (fun xs H Q => ∃ p ys, xs = [.ref p] ∧ (SqL K H p ys ∨ SqT K H p ys) ∧ ∀ l, H l = none → Q (.ref l) (upd H l (.lst ys))) dList := by
  intro cm F H T vs ds d Q hs _ e ok q
  unfold dList at e
  split at e
  · rename_i o xs
    by_cases n : noOwns xs = true
    · rw [if_pos n] at e
      cases e
      obtain ⟨v, r, f, rfl, o1, l, rfl⟩ := ok
      obtain ⟨p, ws, g, rfl, hw, hn⟩ := o1
      exact ⟨p, ws, rfl, .inl (hn.lst hs), fun a ha => q a _ ha trivial (newL ha (hw.eqf (Ows.no n hw).symm))⟩
    · rw [if_neg n] at e; cases e
  · rename_i o xs
    by_cases n : noOwns xs = true
    · rw [if_pos n] at e
      cases e
      obtain ⟨v, r, f, rfl, o1, l, rfl⟩ := ok
      obtain ⟨p, ws, g, rfl, hw, hn⟩ := o1
      exact ⟨p, ws, rfl, .inr (hn.tup hs), fun a ha => q a _ ha trivial (newL ha (hw.eqf (Ows.no n hw).symm))⟩
    · rw [if_neg n] at e; cases e
  · cases e
def ins (x : Int) : List Int → List Int
  | [] => [x]
  | y :: r => if x ≤ y then x :: y :: r else y :: ins x r
def isort : List Int → List Int
  | [] => []
  | x :: r => ins x (isort r)
theorem ins_perm (x : Int) : ∀ l, (ins x l).Perm (x :: l)
  | [] => .refl _
  | y :: r => by
    unfold ins
    by_cases z : x ≤ y
    · rw [if_pos z]
    · rw [if_neg z]
      exact ((ins_perm x r).cons y).trans (.swap x y r)
theorem isort_perm : ∀ l, (isort l).Perm l
  | [] => .refl _
  | x :: r => (ins_perm x _).trans ((isort_perm r).cons x)
theorem ins_sorted (x : Int) : ∀ l : List Int, l.Pairwise (· ≤ ·) → (ins x l).Pairwise (· ≤ ·)
  | [], _ => List.pairwise_singleton _ _
  | y :: r, h => by
    unfold ins
    rw [List.pairwise_cons] at h
    by_cases z : x ≤ y
    · rw [if_pos z]
      exact List.pairwise_cons.mpr ⟨fun a ha => by
        rcases List.mem_cons.mp ha with rfl | ha
        · exact z
        · exact Int.le_trans z (h.1 a ha), List.pairwise_cons.mpr h⟩
    · rw [if_neg z]
      refine List.pairwise_cons.mpr ⟨fun a ha => ?_, ins_sorted x r h.2⟩
      rcases List.mem_cons.mp ((ins_perm x r).mem_iff.mp ha) with rfl | ha
      · omega
      · exact h.1 a ha
theorem isort_sorted : ∀ l, (isort l).Pairwise (· ≤ ·)
  | [] => List.Pairwise.nil
  | x :: r => ins_sorted x _ (isort_sorted r)
theorem sorted_eq {a l : List Int} (h : a.Perm l) (s : a.Pairwise (· ≤ ·)) : a = isort l :=
  List.Perm.eq_of_pairwise (fun x y _ _ h1 h2 => Int.le_antisymm h1 h2) s (isort_sorted l) (h.trans (isort_perm l).symm)
def dSorted (ds : List D) : Option D := (onL ds).map fun ns => .nd .lst true ((isort ns).map .int)
theorem n_sorted : NewOk K (rSortedI K) dSorted := by
  intro cm F H T vs ds d Q hs _ e ok q
  obtain ⟨ns, e1, rfl⟩ := Option.map_eq_some_iff.mp e
  obtain ⟨p, rfl, h⟩ := onL_ok hs e1 ok
  refine ⟨p, ns, rfl, h, fun ns' a hp hw ha => ?_⟩
  rw [sorted_eq hp hw]
  exact q a _ ha trivial (newL ha (ows_ofInts _))
/-! ### range as a list -/
def rgD (a b : Int) : List D := (List.range (b - a).toNat).map fun i => .int (a + (i : Nat))
theorem rgV_eq (a b : Int) : rgV a b = ((List.range (b - a).toNat).map fun i => a + ((i : Nat) : Int)).map V.int := by
  unfold rgV; rw [List.map_map]; rfl
theorem rgD_eq (a b : Int) : rgD a b = ((List.range (b - a).toNat).map fun i => a + ((i : Nat) : Int)).map D.int := by
  unfold rgD; rw [List.map_map]; rfl
def rgOk (a b : Int) : Bool := decide (-(2 ^ 62) ≤ a) && decide (a < 2 ^ 62) && decide (-(2 ^ 62) ≤ b) && decide (b < 2 ^ 62) && decide ((b - a).toNat ≤ 2 ^ 24)
theorem rgOk_ok {a b : Int} (h : rgOk a b = true) : RgOk a b := by
  unfold rgOk at h
  simp only [Bool.and_eq_true, decide_eq_true_eq] at h
  exact ⟨h.1.1.1.1, h.1.1.1.2, h.1.1.2, h.1.2, h.2⟩
def dRange : D → D → Option D
  | .int a, .int b => if rgOk a b = true then some (.nd .lst true (rgD a b)) else none
  | _, _ => none
def rRg1 (f : MV) : ME := fun ρ => match f ρ with
  | some b => .of (dRange (.int 0) b) ρ
  | none => .no
def rRg2 (f g : MV) : ME := fun ρ => match f ρ with
  | some a => match g ρ with
    | some b => .of (dRange a b) ρ
    | none => .no
  | none => .no
theorem dRange_some {a b d : D} (h : dRange a b = some d) : ∃ i j, a = .int i ∧ b = .int j ∧ rgOk i j = true ∧ d = .nd .lst true (rgD i j) := by
  cases a with
  | int i =>
    cases b with
    | int j =>
      have h : (if rgOk i j = true then some (D.nd .lst true (rgD i j)) else none) = some d := h
      by_cases z : rgOk i j = true
      · rw [if_pos z] at h
        exact ⟨i, j, rfl, rfl, z, (Option.some.inj h).symm⟩
      · rw [if_neg z] at h; cases h
    | _ => cases h
  | _ => cases h
theorem newRg {cm : Str → Option Addr} {F H : Hp} {i j : Int} {p : Addr} (hp : H p = none) : Ow ⟨K, cm, F, upd H p (.lst (rgV i j))⟩ (.nd .lst true (rgD i j)) (.ref p) (one p) := by
  rw [rgV_eq, rgD_eq]
  exact newL hp (ows_ofInts _)
theorem E.listRg1 {a : Expr} {f : MV} {p p2 pos2 : Pos} (hc : X.calm = true) (hg : Gl X "list") (hm : X.mg "list" = none) (hg2 : Gl X "range") (hm2 : X.mg "range" = none) (h : GV X cm a f)
    (na : starEach [.Call (.Name "range" p2) [a] [] pos2] X.env = (false, eval (.Call (.Name "range" p2) [a] [] pos2) X.env) :: starEach [] X.env := by rfl) (na2 : starEach [a] X.env = (false, eval a X.env) :: starEach [] X.env := by rfl) :
    GE X cm W (.Call (.Name "list" p) [.Call (.Name "range" p2) [a] [] pos2] [] pos) (rRg1 f) := by
  obtain ⟨t, pa, q⟩ := h
  refine ⟨_, pe_listRg hc hg hm (prg_1 hg2 hm2 pa na2) na, fun σ F H T ρ Q w s k => ?_⟩
  unfold rRg1 at k
  cases e : f ρ with
  | none => rw [e] at k; exact k.elim
  | some b =>
    rw [e] at k
    refine q σ F H T ρ b _ w s e fun v f o l => ?_
    have k : EndE _ W σ F H T (.of (dRange (.int 0) b) ρ) Q := k
    cases e2 : dRange (.int 0) b with
    | none => rw [e2] at k; exact k.elim
    | some d =>
      rw [e2] at k
      obtain ⟨i, j, e3, rfl, ok, rfl⟩ := dRange_some e2
      cases e3
      refine ⟨j, o.1, rgOk_ok ok, fun a ha => ?_⟩
      obtain ⟨w3, s3⟩ := alloc (o := .lst (rgV 0 j)) w ha trivial
      exact k _ F _ T (one a) w3 s3 (sls_up ha s) (newRg ha)
theorem E.listRg2 {a b : Expr} {f g : MV} {p p2 pos2 : Pos} (hc : X.calm = true) (hg : Gl X "list") (hm : X.mg "list" = none) (hg2 : Gl X "range") (hm2 : X.mg "range" = none) (h : GV X cm a f) (h2 : GV X cm b g)
    (na : starEach [.Call (.Name "range" p2) [a, b] [] pos2] X.env = (false, eval (.Call (.Name "range" p2) [a, b] [] pos2) X.env) :: starEach [] X.env := by rfl)
    (na2 : starEach [a, b] X.env = (false, eval a X.env) :: starEach [b] X.env := by rfl) (nb : starEach [b] X.env = (false, eval b X.env) :: starEach [] X.env := by rfl) (hp : (backTo pos2 (starEach [b] X.env)).any (·.1) = false := by rfl) :
    GE X cm W (.Call (.Name "list" p) [.Call (.Name "range" p2) [a, b] [] pos2] [] pos) (rRg2 f g) := by
  obtain ⟨t, pa, q⟩ := h
  obtain ⟨t2, pa2, q2⟩ := h2
  refine ⟨_, pe_listRg hc hg hm (prg_2 hg2 hm2 pa pa2 na2 nb hp) na, fun σ F H T ρ Q w s k => ?_⟩
  unfold rRg2 at k
  cases e : f ρ with
  | none => rw [e] at k; exact k.elim
  | some a =>
    rw [e] at k
    have k : EndE _ W σ F H T (match g ρ with
      | some b => .of (dRange a b) ρ
      | none => .no) Q := k
    cases e1 : g ρ with
    | none => rw [e1] at k; exact k.elim
    | some b =>
      rw [e1] at k
      refine q σ F H T ρ a _ w s e fun v f o l => q2 σ F H T ρ b _ w s e1 fun v2 f2 o2 l2 => ?_
      have k : EndE _ W σ F H T (.of (dRange a b) ρ) Q := k
      cases e2 : dRange a b with
      | none => rw [e2] at k; exact k.elim
      | some d =>
        rw [e2] at k
        obtain ⟨i, j, rfl, rfl, ok, rfl⟩ := dRange_some e2
        refine ⟨i, j, o.1, o2.1, rgOk_ok ok, fun a ha => ?_⟩
        obtain ⟨w3, s3⟩ := alloc (o := .lst (rgV i j)) w ha trivial
        exact k _ F _ T (one a) w3 s3 (sls_up ha s) (newRg ha)
end
end DL
namespace DL
open PySem L2 PyProof.Rows
section
variable {X : Cx} {cm : Str → Option Addr} {W : WX} {S : Sc} {pos : Pos} {K : PySem.W.Frag}
/-! ### isinstance -/
inductive Ty6 where
  | int | bool | str | list | tuple | dict
  deriving DecidableEq
def Ty6.nm : Ty6 → String
  | .int => "int" | .bool => "bool" | .str => "str" | .list => "list" | .tuple => "tuple" | .dict => "dict"
def tyD : D → Option String
  | .non => some "NoneType"
  | .bl _ => some "bool"
  | .int _ => some "int"
  | .str _ => some "str"
  | .nd .lst _ _ => some "list"
  | .nd .tup _ _ => some "tuple"
  | .nd (.dct _) _ _ => some "dict"
  | .nd (.dtt _) _ _ => some "dict"
  | _ => none
/-- isinstance by data -/
def isD : Ty6 → D → Option Bool
  | t, .non => some false
  | t, .bl _ => some (t == .int || t == .bool)
  | t, .int _ => some (t == .int)
  | t, .str _ => some (t == .str)
  | t, .nd .lst _ _ => some (t == .list)
  | t, .nd .tup _ _ => some (t == .tuple)
  | t, .nd (.dct _) _ _ => some (t == .dict)
  | t, .nd (.dtt _) _ _ => some (t == .dict)
  | _, _ => none
theorem isD_kit : ∀ {t : Ty6} {d : D} {b : Bool}, isD t d = some b → ∃ T, tyD d = some T ∧ kitB T t.nm = some b
  | t, .non, b, e => ⟨_, rfl, by cases e; cases t <;> decide +kernel⟩
  | t, .bl _, b, e => ⟨_, rfl, by cases e; cases t <;> decide +kernel⟩
  | t, .int _, b, e => ⟨_, rfl, by cases e; cases t <;> decide +kernel⟩
  | t, .str _, b, e => ⟨_, rfl, by cases e; cases t <;> decide +kernel⟩
  | t, .nd .lst _ _, b, e => ⟨_, rfl, by cases e; cases t <;> decide +kernel⟩
  | t, .nd .tup _ _, b, e => ⟨_, rfl, by cases e; cases t <;> decide +kernel⟩
  | t, .nd (.dct _) _ _, b, e => ⟨_, rfl, by cases e; cases t <;> decide +kernel⟩
  | t, .nd (.dtt _) _ _, b, e => ⟨_, rfl, by cases e; cases t <;> decide +kernel⟩
  | t, .nd .fzl _ _, b, e => by cases t <;> cases e
  | t, .nd (.obj _ _) _ _, b, e => by cases t <;> cases e
  | t, .nd (.exn _ _) _ _, b, e => by cases t <;> cases e
theorem Ow.tyX {F H : Hp} {d : D} {v : V} {f : Fp} {T : String} (hs : Sub F H) (e : tyD d = some T) (o : Ow ⟨K, cm, F, H⟩ d v f) : TyX K H v (.type T) := by
  cases d with
  | non => cases e; rw [o.1]; exact .base .non
  | bl b => cases e; rw [o.1]; exact .base (.bl b)
  | int i => cases e; rw [o.1]; exact .base (.int i)
  | str x => cases e; rw [o.1]; exact .base (.str x)
  | nd k oo xs =>
    obtain ⟨p, ws, g, rfl, hw, hn⟩ := o
    cases k with
    | lst => cases e; exact .base (.lst (hn.lstH hs))
    | tup => cases e; exact .base (.tup (hn.tupH hs))
    | dct ks =>
      cases e
      rcases hn with ⟨z, _⟩ | ⟨_, h, _⟩ | ⟨_, h, _⟩
      · cases z
      · exact .base (.dK h.2)
      · exact .base (.dK (hs _ _ h.2))
    | dtt ks =>
      cases e
      rcases hn with ⟨z, _⟩ | ⟨_, h, _⟩ | ⟨_, h, _⟩
      · cases z
      · exact .base (.dT h.2)
      · exact .base (.dT (hs _ _ h.2))
    | fzl => cases e
    | obj _ _ => cases e
    | exn _ _ => cases e
def vIsi (t : Ty6) (f : MV) : MV := fun ρ => (f ρ).bind fun d => (isD t d).map .bl
theorem Vw.isi {e : Expr} {f : MV} {p p2 : Pos} (t : Ty6) {n : Str} (hg : Gl X "isinstance") (hm : X.mg "isinstance" = none) (hg2 : Gl X n) (hm2 : X.mg n = none) (hv2 : bootBuiltins n = some (.type t.nm)) (h : GV X cm e f) (hn2 : n ≠ "__name__" := by decide) (hd2 : (n == ("__debug__" : Str)) = false := by decide)
    (he : starEach [e, .Name n p2] X.env = (false, eval e X.env) :: starEach [.Name n p2] X.env := by rfl) (he2 : starEach [.Name n p2] X.env = (false, eval (.Name n p2) X.env) :: starEach [] X.env := by rfl) (hpl : (backTo pos (starEach [.Name n p2] X.env)).any (·.1) = false := by rfl) :
    GV X cm (.Call (.Name "isinstance" p) [e, .Name n p2] [] pos) (vIsi t f) := by
  obtain ⟨te, pe, q⟩ := h
  refine ⟨_, pe_callB call_isi hg hm boot_isinstance (pa_cons pe (pa_cons (pe_bltn (v := .ty t.nm) hg2 hm2 hv2 rfl hn2 hd2) pa_nil he2) he) (by decide) (by decide) he hpl, fun σ F H T ρ d Q w s e k => ?_⟩
  obtain ⟨a, e1, e2⟩ := Option.bind_eq_some_iff.mp e
  obtain ⟨b, e3, rfl⟩ := Option.map_eq_some_iff.mp e2
  refine q σ F H T ρ a _ w s e1 fun v f o l => ?_
  obtain ⟨T0, e4, e5⟩ := isD_kit e3
  exact ⟨v, .ty t.nm, .type T0, .type t.nm, b, rfl, .ty _, o.tyX w.sub e4, kit_ty e5, k _ zf ⟨rfl, .rfl'⟩ fun _ => Nat.zero_le _⟩
/-- isinstance(x, (T, U)) -/
def rIsi2 (t u : Ty6) (f : MV) : ME := fun ρ => match f ρ with
  | some d => match isD t d, isD u d with
    | some a, some b => .ok (.bl (a || b)) ρ
    | _, _ => .no
  | none => .no
theorem E.isi2 {e : Expr} {f : MV} {p p2 p3 tp : Pos} {kk : Nat} (t u : Ty6) {n m : Str} (hg : Gl X "isinstance") (hm : X.mg "isinstance" = none) (hg2 : Gl X n) (hm2 : X.mg n = none) (hv2 : bootBuiltins n = some (.type t.nm)) (hg3 : Gl X m) (hm3 : X.mg m = none) (hv3 : bootBuiltins m = some (.type u.nm)) (h : GV X cm e f)
    (hn2 : n ≠ "__name__" := by decide) (hd2 : (n == ("__debug__" : Str)) = false := by decide) (hn3 : m ≠ "__name__" := by decide) (hd3 : (m == ("__debug__" : Str)) = false := by decide)
    (he : starEach [e, .Tuple [.Name n p2, .Name m p3] kk tp] X.env = (false, eval e X.env) :: starEach [.Tuple [.Name n p2, .Name m p3] kk tp] X.env := by rfl)
    (he2 : starEach [.Tuple [.Name n p2, .Name m p3] kk tp] X.env = (false, eval (.Tuple [.Name n p2, .Name m p3] kk tp) X.env) :: starEach [] X.env := by rfl)
    (he3 : starEach [.Name n p2, .Name m p3] X.env = (false, eval (.Name n p2) X.env) :: starEach [.Name m p3] X.env := by rfl) (he4 : starEach [.Name m p3] X.env = (false, eval (.Name m p3) X.env) :: starEach [] X.env := by rfl)
    (hpl : (backTo pos (starEach [.Tuple [.Name n p2, .Name m p3] kk tp] X.env)).any (·.1) = false := by rfl) :
    GE X cm W (.Call (.Name "isinstance" p) [e, .Tuple [.Name n p2, .Name m p3] kk tp] [] pos) (rIsi2 t u f) := by
  obtain ⟨te, pe, q⟩ := h
  refine ⟨_, pe_callB call_isiT hg hm boot_isinstance (pa_cons pe (pa_cons (pe_tup (pa_cons (pe_bltn (v := .ty t.nm) hg2 hm2 hv2 rfl hn2 hd2) (pa_cons (pe_bltn (v := .ty u.nm) hg3 hm3 hv3 rfl hn3 hd3) pa_nil he4) he3)) pa_nil he2) he) (by decide) (by decide) he hpl, fun σ F H T ρ Q w s k => ?_⟩
  unfold rIsi2 at k
  cases e1 : f ρ with
  | none => rw [e1] at k; exact k.elim
  | some d =>
    rw [e1] at k
    cases e2 : isD t d with
    | none => simp only [e2] at k; exact k.elim
    | some a =>
      cases e3 : isD u d with
      | none => simp only [e2, e3] at k; exact k.elim
      | some b =>
        simp only [e2, e3] at k
        refine q σ F H T ρ d _ w s e1 fun v f o l => ?_
        refine ⟨by show 2 ≤ sizeLine; decide, fun tpl htp => ?_⟩
        obtain ⟨w1, s1, fs⟩ := allocF (o := .tup [.ty t.nm, .ty u.nm]) w htp
        obtain ⟨T0, e4, e5⟩ := isD_kit e2
        obtain ⟨T1, e6, e7⟩ := isD_kit e3
        rw [e4] at e6
        cases e6
        have o2 := ow_up (o := .tup [.ty t.nm, .ty u.nm]) htp o
        have ty : TyX X.K (upd H tpl (.tup [.ty t.nm, .ty u.nm])) v (.type T0) := Ow.tyX (F := F) (fun a u h => up_keep htp a u (w.sub a u h) (T := zf) rfl) e4 o2
        refine ⟨v, tpl, _, .type T0, [.type t.nm, .type u.nm], a || b, rfl, upd_same, .cons (.ty _) (.cons (.ty _) .nil), ty, kitAny_cons (kit_ty e5) (fun z => ?_) (fun z => by rw [z]; rfl), k _ _ _ T zf w1.z (s1.zz .rfl') (sls_sub fs (sls_up htp s)) ⟨rfl, .rfl'⟩⟩
        subst z
        refine kitAny_cons (kit_ty e7) (fun z => ?_) fun z => by rw [z]; rfl
        subst z
        exact kitAny_nil
/-! ### str, int, repr -/
def dStr : List D → Option D
  | [.int i] => if decide (i.natAbs.log2 < 1920) = true then some (.str (toString i)) else none
  | [.str x] => some (.str x)
  | _ => none
def rStr : List V → Hp → VK → Prop := fun xs H Q => (∃ i, xs = [.int i] ∧ i.natAbs.log2 < 1920 ∧ Q (.str (toString i)) H) ∨ ∃ a, xs = [.str a] ∧ Q (.str a) H
theorem cr_str : CallR X (.type "str") rStr := CallR.or call_str_int SkE.call_str_str
theorem c_str : CaOk K rStr dStr := by
  intro cm F H T vs ds d Q hs _ e ok q
  unfold dStr at e
  split at e
  · rename_i i
    obtain ⟨v, r, f, rfl, o1, l, rfl⟩ := ok
    by_cases z : decide (i.natAbs.log2 < 1920) = true
    · rw [if_pos z] at e
      cases e
      have := o1.1
      subst this
      exact .inl ⟨i, rfl, of_decide_eq_true z, q _ ⟨rfl, .rfl'⟩⟩
    · rw [if_neg z] at e; cases e
  · cases e
    obtain ⟨v, r, f, rfl, o1, l, rfl⟩ := ok
    have := o1.1
    subst this
    exact .inr ⟨_, rfl, q _ ⟨rfl, .rfl'⟩⟩
  · cases e
def dInt : List D → Option D
  | [.int i] => some (.int i)
  | [.bl k] => some (.int (if k then 1 else 0))
  | [.str x] => if decide (x.length ≤ 640) = true then (PySem.intText? x).map .int else none
  | _ => none
def rInt : List V → Hp → VK → Prop := fun xs H Q => ((∃ i, xs = [.int i] ∧ Q (.int i) H) ∨ ∃ k, xs = [.bl k] ∧ Q (.int (if k then 1 else 0)) H) ∨ ∃ a n, xs = [.str a] ∧ PySem.intText? a = some n ∧ a.length ≤ 640 ∧ Q (.int n) H
theorem cr_int : CallR X (.type "int") rInt := CallR.or call_int1 call_int_str
theorem c_int : CaOk K rInt dInt := by
  intro cm F H T vs ds d Q hs _ e ok q
  unfold dInt at e
  split at e
  · cases e
    obtain ⟨v, r, f, rfl, o1, l, rfl⟩ := ok
    have := o1.1
    subst this
    exact .inl (.inl ⟨_, rfl, q _ ⟨rfl, .rfl'⟩⟩)
  · cases e
    obtain ⟨v, r, f, rfl, o1, l, rfl⟩ := ok
    have := o1.1
    subst this
    exact .inl (.inr ⟨_, rfl, q _ ⟨rfl, .rfl'⟩⟩)
  · rename_i x
    obtain ⟨v, r, f, rfl, o1, l, rfl⟩ := ok
    by_cases z : decide (x.length ≤ 640) = true
    · rw [if_pos z] at e
      obtain ⟨n, e1, rfl⟩ := Option.map_eq_some_iff.mp e
      have := o1.1
      subst this
      exact .inr ⟨x, n, rfl, e1, of_decide_eq_true z, q _ ⟨rfl, .rfl'⟩⟩
    · rw [if_neg z] at e; cases e
  · cases e
def rRepr (K : PySem.W.Frag) : List V → Hp → VK → Prop := fun xs H Q => ∃ v p, xs = [v] ∧ DpE K H v p ∧ p.showable = true ∧ p.depth ≤ 100 ∧ p.shown.length ≤ sizeLine ∧ Q (.str p.shown) H
theorem cr_repr {k : Nat} (hg : X.A.guards = some []) (hr : Room k X.A) (hsy : ∃ mm, X.base.Ns sysModules mm) : CallR X (.builtin "repr") (rRepr X.K) := by
  intro pins s σ H xs us Q I r h
  have hu : X.A.units + 200 < cLine := by have := hr.un; omega
  obtain ⟨v, p, rfl, dp, h1, h3, h4, q⟩ := h
  obtain ⟨u, rfl, ru⟩ := vals1 r
  obtain ⟨as, rd, hn⟩ := DpE.reads I hsy p v u dp ru
  have fin : ∀ (h' : Heap) (u' : Tok) (tk : Nat), (∀ b o, s.heap.get? b = some o → h'.get? b = some o) → EP X pins σ Q (.str p.shown u') { s with heap := h', toks := tk } := fun h' u' tk hk => ⟨.str p.shown, H, I.kept hk, ⟨_, rfl⟩, q⟩
  cases dp with
  | non =>
    cases ru
    exact PySem.P.repr_of_none (fin s.heap _ _ fun _ _ z => z)
  | bl b =>
    cases ru
    exact PySem.P.repr_of_bool (fin s.heap _ _ fun _ _ z => z)
  | int i =>
    obtain ⟨t, rfl⟩ := ru
    exact PySem.P.repr_of_int (of_decide_eq_true h1) (fin s.heap _ _ fun _ _ z => z)
  | str x =>
    obtain ⟨t, rfl⟩ := ru
    exact PySem.P.repr_of_str (fin s.heap _ _ fun _ _ z => z) h4
  | lst ha hb =>
    cases ru
    exact repr_of_reads' rd h1 (fun _ => hn) hg (by omega) (fun _ _ z => z) fin h4
  | tup ha hb =>
    cases ru
    exact repr_of_reads' rd h1 (fun _ => hn) hg (by omega) (fun _ _ z => z) fin h4
  | dct ha =>
    cases ru
    exact repr_of_reads' rd h1 (fun _ => hn) hg (by omega) (fun _ _ z => z) fin h4
def dRepr : List D → Option D
  | [d] => (toPyE d).bind fun p => if (p.showable && decide (p.depth ≤ 100) && decide (p.shown.length ≤ sizeLine)) = true then some (.str p.shown) else none
  | _ => none
theorem c_repr : CaOk K (rRepr K) dRepr := by
  intro cm F H T vs ds d Q hs _ e ok q
  unfold dRepr at e
  split at e
  · rename_i d0
    obtain ⟨p, e1, e2⟩ := Option.bind_eq_some_iff.mp e
    obtain ⟨v, r, f, rfl, o1, l, rfl⟩ := ok
    by_cases z : (p.showable && decide (p.depth ≤ 100) && decide (p.shown.length ≤ sizeLine)) = true
    · rw [if_pos z] at e2
      cases e2
      simp only [Bool.and_eq_true, decide_eq_true_eq] at z
      exact ⟨v, p, rfl, Ow.dpE hs e1 o1, z.1.1, z.1.2, z.2, q _ ⟨rfl, .rfl'⟩⟩
    · rw [if_neg z] at e2; cases e2
  · cases e
end
end DL
namespace DL
open PySem L2 PyProof.Rows
/-! ### lent for a call: frozen while it runs -/
mutual
def okB : D → Bool
  | .nd .tup _ xs => okBs xs
  | .nd _ o xs => o && okBs xs
  | _ => true
def okBs : List D → Bool
  | [] => true
  | d :: ds => okB d && okBs ds
end
def okEnv : Env → Bool
  | [] => true
  | none :: ρ => okEnv ρ
  | some d :: ρ => okB d && okEnv ρ
theorem okB_nd {k : Nd} {o : Bool} {xs : List D} (h : okB (.nd k o xs) = true) : (k = .tup ∨ o = true) ∧ okBs xs = true := by
  cases k with
  | tup => exact ⟨.inl rfl, h⟩
  | _ =>
    have h : (o && okBs xs) = true := h
    rw [Bool.and_eq_true] at h
    exact ⟨.inr h.1, h.2⟩
section
variable {K : PySem.W.Frag} {cm : Str → Option Addr} {F F4 H : Hp}
mutual
theorem Ow.okB (ht : ∀ a ws, F a = some (.tup ws) → F4 a = some (.tup ws)) : ∀ (d : D) {v : V} {f : Fp}, DL.okB d = true → Ow ⟨K, cm, F, H⟩ d v f → Ow ⟨K, cm, F4, H⟩ d v f
  | .non, _, _, _, h => h
  | .bl _, _, _, _, h => h
  | .int _, _, _, _, h => h
  | .str _, _, _, _, h => h
  | .nd k o xs, v, f, n, h => by
    obtain ⟨n1, n2⟩ := okB_nd n
    obtain ⟨p, ws, g, rfl, hs, hn⟩ := h
    refine ⟨p, ws, g, rfl, Ows.okB ht xs n2 hs, ?_⟩
    rcases hn with ⟨h1, h2, h3, h4⟩ | ⟨h1, h2, h4⟩ | ⟨h1, h2, h3, h4⟩
    · exact .inl ⟨h1, h2, ht _ _ h3, h4⟩
    · refine .inr (.inl ⟨h1, ?_, h4⟩)
      cases k <;> exact h2
    · rcases n1 with rfl | rfl
      · exact h2.elim
      · cases h1
theorem Ows.okB (ht : ∀ a ws, F a = some (.tup ws) → F4 a = some (.tup ws)) : ∀ (ds : List D) {vs : List V} {f : Fp}, DL.okBs ds = true → Ows ⟨K, cm, F, H⟩ ds vs f → Ows ⟨K, cm, F4, H⟩ ds vs f
  | [], _, _, _, h => h
  | d :: ds, _, _, n, h => by
    have n : (DL.okB d && DL.okBs ds) = true := n
    rw [Bool.and_eq_true] at n
    obtain ⟨w, r, g, x, rfl, h1, h2, e⟩ := h
    exact ⟨w, r, g, x, rfl, Ow.okB ht d n.1 h1, Ows.okB ht ds n.2 h2, e⟩
end
theorem Sls.okB (ht : ∀ a ws, F a = some (.tup ws) → F4 a = some (.tup ws)) : ∀ (ρ : Env) {σ : L2.St} {f : Fp}, okEnv ρ = true → Sls ⟨K, cm, F, H⟩ ρ σ f → Sls ⟨K, cm, F4, H⟩ ρ σ f
  | [], _, _, _, h => h
  | none :: ρ, _, _, n, h => by
    obtain ⟨w, r, rfl, h⟩ := h
    exact ⟨w, r, rfl, Sls.okB ht ρ n h⟩
  | some d :: ρ, _, _, n, h => by
    have n : (DL.okB d && okEnv ρ) = true := n
    rw [Bool.and_eq_true] at n
    obtain ⟨w, r, g, x, rfl, h1, h2, e⟩ := h
    exact ⟨w, r, g, x, rfl, Ow.okB ht d n.1 h1, Sls.okB ht ρ n.2 h2, e⟩
end
def fillB : List Ag → Env → Option (List D × Env)
  | [], ρ => some ([], ρ)
  | .val d :: r, ρ => (fillB r ρ).map fun p => (d :: p.1, p.2)
  | .io i :: r, ρ => (gt ρ i).bind fun d => (fillB r (ρ.set i none)).map fun p => (d :: p.1, p.2)
  | .bw i :: r, ρ => (fillB r ρ).bind fun p => (gt p.2 i).bind fun d => if noObj d = true then some (frz d :: p.1, p.2) else none
theorem fillB_len : ∀ {as : List Ag} {ρ : Env} {p : List D × Env}, fillB as ρ = some p → p.1.length = as.length
  | [], ρ, p, e => by cases e; rfl
  | .val d :: r, ρ, p, e => by
    obtain ⟨q, e1, e2⟩ := Option.map_eq_some_iff.mp e
    subst e2
    exact congrArg (· + 1) (fillB_len e1)
  | .io i :: r, ρ, p, e => by
    obtain ⟨d, e0, e⟩ := Option.bind_eq_some_iff.mp e
    obtain ⟨q, e1, e2⟩ := Option.map_eq_some_iff.mp e
    subst e2
    exact congrArg (· + 1) (fillB_len e1)
  | .bw i :: r, ρ, p, e => by
    obtain ⟨q, e1, e⟩ := Option.bind_eq_some_iff.mp e
    obtain ⟨d, e0, e⟩ := Option.bind_eq_some_iff.mp e
    by_cases n : noObj d = true
    · rw [if_pos n] at e
      cases e
      exact congrArg (· + 1) (fillB_len e1)
    · rw [if_neg n] at e; cases e
theorem fillB_ok {K : PySem.W.Frag} {cm : Str → Option Addr} {F H : Hp} {σ : L2.St} : ∀ {as : List Ag} {vs : List V} {C T : Fp} {ρ : Env} {p : List D × Env}, AgOk ⟨K, cm, F, H⟩ σ as vs C → Sls ⟨K, cm, F, H⟩ ρ σ T → fillB as ρ = some p →
    ∃ G T2, Sls ⟨K, cm, F, H⟩ p.2 σ T2 ∧ Eqf (ad T C) (ad G T2) ∧ ∀ F', Sub F F' → (∀ a, T2 a ≠ 0 → F' a = H a) → Ows ⟨K, cm, F', H⟩ p.1 vs G
  | [], vs, C, T, ρ, p, h, s, e => by
    cases e
    obtain ⟨rfl, ec⟩ := h
    exact ⟨zf, T, s, fun a => by simp only [ad_ap]; rw [ec a]; simp only [zf_ap]; omega, fun F' _ _ => ⟨rfl, .rfl'⟩⟩
  | .val d :: r, vs, C, T, ρ, p, h, s, e => by
    obtain ⟨v, r', g, x, rfl, h1, h2, ec⟩ := h
    obtain ⟨q, e1, e2⟩ := Option.map_eq_some_iff.mp e
    subst e2
    obtain ⟨G, T2, s2, eq, o⟩ := fillB_ok h2 s e1
    refine ⟨ad g G, T2, s2, fun a => ?_, fun F' fs hh => ⟨v, r', g, G, rfl, ow_sub fs h1, o F' fs hh, .rfl'⟩⟩
    have := eq a
    simp only [ad_ap] at this ⊢
    rw [ec a, ad_ap]; omega
  | .io i :: r, vs, C, T, ρ, p, h, s, e => by
    obtain ⟨v, r', rfl, h1, h2⟩ := h
    obtain ⟨d, e0, e⟩ := Option.bind_eq_some_iff.mp e
    obtain ⟨q, e1, e2⟩ := Option.map_eq_some_iff.mp e
    subst e2
    obtain ⟨w, g, x, k1, k2, k3, k4⟩ := s.get (gt_some e0)
    rw [h1] at k1
    injection k1 with k1
    injection k1 with k1
    subst k1
    obtain ⟨G, T2, s2, eq, o⟩ := fillB_ok h2 k3 e1
    refine ⟨ad g G, T2, s2, fun a => ?_, fun F' fs hh => ⟨v, r', g, G, rfl, ow_sub fs k2, o F' fs hh, .rfl'⟩⟩
    have := eq a
    simp only [ad_ap] at this ⊢
    rw [k4 a, ad_ap]; omega
  | .bw i :: r, vs, C, T, ρ, p, h, s, e => by
    obtain ⟨v, r', rfl, h1, h2⟩ := h
    obtain ⟨q, e1, e⟩ := Option.bind_eq_some_iff.mp e
    obtain ⟨d, e0, e⟩ := Option.bind_eq_some_iff.mp e
    by_cases n : noObj d = true
    · rw [if_pos n] at e
      cases e
      obtain ⟨G, T2, s2, eq, o⟩ := fillB_ok h2 s e1
      obtain ⟨w, g, x, k1, k2, k3, k4⟩ := s2.get (gt_some e0)
      rw [h1] at k1
      injection k1 with k1
      injection k1 with k1
      subst k1
      exact ⟨G, T2, s2, eq, fun F' fs hh => ⟨v, r', zf, G, rfl, Ow.frz fs d v g n (fun a z => hh a (by rw [k4 a, ad_ap]; omega)) k2, o F' fs hh, fun a => by rw [ad_ap, zf_ap]; omega⟩⟩
    · rw [if_neg n] at e; cases e
/-- the rest frozen for a while, and back -/
theorem lend {F H : Hp} {G T2 : Fp} (w : Wd F H (ad G T2)) : ∃ F', Sub F F' ∧ (∀ a, T2 a ≠ 0 → F' a = H a) ∧ Wd F' H G ∧ ∀ F3 H3 T3, Wd F3 H3 T3 → Stp F' H G F3 H3 T3 →
    ∃ F4, Wd F4 H3 (ad T3 T2) ∧ Stp F H (ad G T2) F4 H3 (ad T3 T2) ∧ (∀ a ws, F3 a = some (.tup ws) → F4 a = some (.tup ws)) := by
  let F' : Hp := fun a => if T2 a = 0 then F a else H a
  have hz : ∀ a, T2 a = 0 → F' a = F a := fun a z => if_pos z
  have hn : ∀ a, T2 a ≠ 0 → F' a = H a := fun a z => if_neg z
  have dis : ∀ a, T2 a ≠ 0 → G a = 0 := fun a z => by have := w.one a; rw [ad_ap] at this; omega
  have off : ∀ a, T2 a ≠ 0 → F a = none := fun a z => w.off a (by rw [ad_ap]; omega)
  have mu : ∀ a, T2 a ≠ 0 → Mut (H a) := fun a z => w.mu a (by rw [ad_ap]; omega)
  have fs : Sub F F' := fun a o h => by
    by_cases z : T2 a = 0
    · rw [hz a z]; exact h
    · rw [off a z] at h; cases h
  refine ⟨F', fs, hn, ⟨fun a o h => ?_, fun a => ?_, fun a z => ?_, fun a z => w.mu a (by rw [ad_ap]; omega)⟩, fun F3 H3 T3 w3 s3 => ?_⟩
  · by_cases z : T2 a = 0
    · rw [hz a z] at h; exact w.sub a o h
    · rw [hn a z] at h; exact h
  · have := w.one a; rw [ad_ap] at this; omega
  · have h5 := w.one a
    rw [ad_ap] at h5
    rw [hz a (by omega)]
    exact w.off a (by rw [ad_ap]; omega)
  let F4 : Hp := fun a => if T2 a = 0 then F3 a else none
  have kz : ∀ a, T2 a = 0 → F4 a = F3 a := fun a z => if_pos z
  have kn : ∀ a, T2 a ≠ 0 → F4 a = none := fun a z => if_neg z
  have key : ∀ a, T2 a ≠ 0 → ∃ u, H a = some u ∧ F3 a = some u ∧ H3 a = some u ∧ T3 a = 0 ∧ Mut (some u) := fun a z => by
    have m := mu a z
    cases q : H a with
    | none => rw [q] at m; exact m.elim
    | some u =>
      have f3 : F3 a = some u := s3.mono a u ((hn a z).trans q)
      refine ⟨u, rfl, f3, w3.sub a u f3, ?_, by rw [q] at m; exact m⟩
      by_cases t : T3 a = 0
      · exact t
      · rw [w3.off a t] at f3; cases f3
  refine ⟨F4, ⟨fun a o h => ?_, fun a => ?_, fun a z => ?_, fun a z => ?_⟩, ⟨fun a o h z => s3.keep a o h (by rw [ad_ap] at z; omega), fun a o h => ?_, fun a h1 h2 h3 => ?_⟩, fun a ws h => ?_⟩
  · by_cases z : T2 a = 0
    · rw [kz a z] at h; exact w3.sub a o h
    · rw [kn a z] at h; cases h
  · rw [ad_ap]
    by_cases z : T2 a = 0
    · have := w3.one a; omega
    · obtain ⟨u, _, _, _, t, _⟩ := key a z
      have := w.one a
      rw [ad_ap] at this; omega
  · by_cases t : T2 a = 0
    · rw [kz a t]; exact w3.off a (by rw [ad_ap] at z; omega)
    · exact kn a t
  · by_cases t : T2 a = 0
    · exact w3.mu a (by rw [ad_ap] at z; omega)
    · obtain ⟨u, _, _, h, _, m⟩ := key a t
      rw [h]; exact m
  · by_cases t : T2 a = 0
    · rw [kz a t]; exact s3.mono a o (fs a o h)
    · rw [off a t] at h; cases h
  · rw [ad_ap] at h2
    have t : T2 a = 0 := by omega
    obtain ⟨x, y⟩ := s3.back a h1 (by omega) ((hz a t).trans h3)
    exact ⟨by rw [ad_ap]; omega, (kz a t).trans y⟩
  · by_cases t : T2 a = 0
    · rw [kz a t]; exact h
    · obtain ⟨u, _, f3, _, _, m⟩ := key a t
      rw [f3] at h
      cases h
      exact m.elim
theorem lendSls {K : PySem.W.Frag} {cm : Str → Option Addr} {F H F4 H3 : Hp} {G T2 T3 : Fp} {ρ : Env} {σ : L2.St} (w : Wd F H (ad G T2)) (s : Stp F H (ad G T2) F4 H3 (ad T3 T2)) (k : Keep H G H3) (l : Sls ⟨K, cm, F, H⟩ ρ σ T2) : Sls ⟨K, cm, F4, H3⟩ ρ σ T2 :=
  Sls.mono (T := G) s.mono k (fun a z => w.mu a (by rw [ad_ap]; omega)) ρ σ T2 (fun a z => by have := w.one a; rw [ad_ap] at this; omega) l
def rCallB (fn : Fn) (dv : List D) (m : MA) : ME := fun ρ => match m ρ with
  | .ok as ρ1 => match fillB as ρ1 with
    | some p => match fn (p.1 ++ dv) with
      | .ok d os => if (okB d && okEnv os) = true then .ok d (bk as os p.2) else .no
      | .ex e os => if (okBs (e.fs.map (·.2)) && okEnv os) = true then .ex e (bk as os p.2) else .no
      | .no => .no
    | none => .no
  | .ex e ρ1 => .ex e ρ1
  | .no => .no
theorem FsOk.okB {K : PySem.W.Frag} {cm : Str → Option Addr} {F F4 H : Hp} (ht : ∀ a ws, F a = some (.tup ws) → F4 a = some (.tup ws)) {fs : List (Str × D)} {q : Option Addr} (n : okBs (fs.map (·.2)) = true) (h : FsOk ⟨K, cm, F, H⟩ fs q) : FsOk ⟨K, cm, F4, H⟩ fs q := by
  cases q with
  | none => exact h
  | some q =>
    obtain ⟨h0, ws, h1, h2⟩ := h
    exact ⟨h0, ws, Ows.okB ht _ n h1, h2⟩
section
variable {X : Cx} {cm : Str → Option Addr} {W : WX} {S : Sc} {pos : Pos}
theorem callB_sp {n : Nat} {fn : Fn} {dvs : List V} {dv : List D} {t : TA} {m : MA} (fl : Flat S dvs dv) {l : Nat} (hl : Ln m l) (hn : l + dv.length = n) (q : SpA S W t m) : SpE S W (tG (SpD S n fn) W dvs t) (rCallB fn dv m) := by
  intro σ F H T ρ Q w s k
  refine q σ F H T ρ _ w s ?_
  unfold rCallB at k
  cases e : m ρ with
  | no => rw [e] at k; exact k
  | ex z ρ1 => rw [e] at k; exact k
  | ok as ρ1 =>
    rw [e] at k
    intro vs F1 H1 T1 C1 w1 s1 l1 o1
    have k : EndE S W σ F H T (match fillB as ρ1 with
    | some p => match fn (p.1 ++ dv) with
      | .ok d os => if (okB d && okEnv os) = true then .ok d (bk as os p.2) else .no
      | .ex e os => if (okBs (e.fs.map (·.2)) && okEnv os) = true then .ex e (bk as os p.2) else .no
      | .no => .no
    | none => .no) Q := k
    cases e2 : fillB as ρ1 with
    | none => rw [e2] at k; exact k.elim
    | some p =>
      rw [e2] at k
      obtain ⟨G, T2, l2, eq, o2⟩ := fillB_ok o1 l1 e2
      have w2 : Wd F1 H1 (ad G T2) := w1.eqf eq.symm
      have s2 : Stp F H T F1 H1 (ad G T2) := s1.eqf eq.symm
      obtain ⟨F', fs, hF, wG, bak⟩ := lend w2
      have o2 := o2 F' fs hF
      have o3 := (o2.app (fl F' H1)).eqf (g := G) fun a => rfl
      have hlen : (vs ++ dvs).length = n := by
        rw [List.length_append, ← o2.len, ← (fl F1 H1).len]
        rw [fillB_len e2, hl _ _ _ e]
        exact hn
      refine ⟨hlen, F', G, p.1 ++ dv, wG, o3, ?_⟩
      have k : EndE S W σ F H T (match fn (p.1 ++ dv) with
      | .ok d os => if (okB d && okEnv os) = true then .ok d (bk as os p.2) else .no
      | .ex e os => if (okBs (e.fs.map (·.2)) && okEnv os) = true then .ex e (bk as os p.2) else .no
      | .no => .no) Q := k
      cases e3 : fn (p.1 ++ dv) with
      | no => rw [e3] at k; exact k
      | ok d os =>
        rw [e3] at k
        have k : EndE S W σ F H T (if (okB d && okEnv os) = true then .ok d (bk as os p.2) else .no) Q := k
        by_cases z : (okB d && okEnv os) = true
        · rw [if_pos z] at k
          rw [Bool.and_eq_true] at z
          intro v F3 H3 T3 C3 w3 s3 l3 o4
          obtain ⟨F4, w4, s4, ht⟩ := bak F3 H3 _ w3 s3
          have l4 := lendSls w2 s4 s3.keep l2
          have l3' := Sls.okB ht os z.2 l3
          have o4' := Ow.okB ht d z.1 o4
          obtain ⟨T5, l5, le⟩ := bk_ok o1.io l3' l4
          have le5 : ∀ a, ad T5 C3 a ≤ ad (ad T3 C3) T2 a := fun a => by simp only [ad_ap]; have := le a; omega
          exact k v F4 H3 T5 C3 (w4.le le5) ((s2.trans w2 s4).leR le5) l5 o4'
        · rw [if_neg z] at k; exact k.elim
      | ex y os =>
        rw [e3] at k
        have k : EndE S W σ F H T (if (okBs (y.fs.map (·.2)) && okEnv os) = true then .ex y (bk as os p.2) else .no) Q := k
        by_cases z : (okBs (y.fs.map (·.2)) && okEnv os) = true
        · rw [if_pos z] at k
          rw [Bool.and_eq_true] at z
          intro c dd F3 H3 T3 x1 x2 w3 s3 l3
          obtain ⟨F4, w4, s4, ht⟩ := bak F3 H3 _ w3 s3
          have l4 := lendSls w2 s4 s3.keep l2
          have l3' := Sls.okB ht os z.2 l3
          obtain ⟨T5, l5, le⟩ := bk_ok o1.io l3' l4
          have le5 : ∀ a, T5 a ≤ ad T3 T2 a := fun a => by simp only [ad_ap]; have := le a; omega
          exact k c dd F4 H3 T5 x1 (FsOk.okB ht z.1 x2) (w4.le le5) ((s2.trans w2 s4).leR le5) l5
        · rw [if_neg z] at k; exact k.elim
theorem E.callB {k n : Nat} {x : Str} {p : Pos} {e : Expr} {es : List Expr} {dvs : List V} {dv : List D} {fn : Fn} {m : MA} (F : FB X cm k x dvs n fn) (hg : X.A.guards = some []) (hr : Room k X.A) (tk : Takes X W) (hgl : Gl X x) (fl : Flat ⟨X.K, cm⟩ dvs dv) (hn : (e :: es).length + dv.length = n) (ha : GA X cm W (e :: es) m)
    (hdb : (x == ("__debug__" : Str)) = false := by decide) (he : starEach (e :: es) X.env = (false, eval e X.env) :: starEach es X.env := by rfl) (hpl : (backTo pos (starEach es X.env)).any (·.1) = false := by rfl) :
    GE X cm W (.Call (.Name x p) (e :: es) [] pos) (rCallB fn dv m) := by
  obtain ⟨f, fd, ps, ds, hF, hm, hk, hb, hd⟩ := F.ex
  obtain ⟨t, pa, q, l⟩ := ha
  exact ⟨_, peG hF hg hr tk hgl hm hk hb hd pa hdb he hpl, callB_sp fl l hn q⟩
/-! keywords alone, lent -/
theorem K.bw {i : Nat} {x : Str} {p : Pos} {nm : Option Str} {kp : Pos} {ks : List Keyword} {m : MA} (hN : X.N[i]? = some x) (hv : Vis X.env.scope x) (h2 : GK X cm W ks m) (hd : (x == ("__debug__" : Str)) = false := by decide) (hcd : (x == ("__classdict__" : Str)) = false := by decide) :
    GK X cm W (⟨nm, .Name x p, kp⟩ :: ks) (aBw i m) := by
  obtain ⟨t2, p2, q2, l2⟩ := h2
  exact ⟨_, pk_cons (pe_var hN hv hd hcd) p2, aBw_sp q2, aBw_ln l2⟩
def rCallKB (fn : Fn) (π : List Nat) (m : MA) : ME := fun ρ => match m ρ with
  | .ok as ρ1 => match fillB as ρ1 with
    | some p => if noOwns p.1 = true then match fn (prm π p.1) with
        | .ok d _ => if okB d = true then .ok d p.2 else .no
        | .ex e _ => if okBs (e.fs.map (·.2)) = true then .ex e p.2 else .no
        | .no => .no
      else .no
    | none => .no
  | .ex e ρ1 => .ex e ρ1
  | .no => .no
theorem callKB_sp {n mm : Nat} {fn : Fn} {π : List Nat} {t : TA} {m : MA} {l : Nat} (hl : Ln m l) (hm : l = mm) (hn : ∀ xs : List D, xs.length = l → (prm π xs).length = n) (q : SpA S W t m) : SpE S W (tGK mm (SpD S n fn) W (fun _ zs => prm π zs) t) (rCallKB fn π m) := by
  intro σ F H T ρ Q w s k
  refine q σ F H T ρ _ w s ?_
  unfold rCallKB at k
  cases e : m ρ with
  | no => rw [e] at k; exact k
  | ex z ρ1 => rw [e] at k; exact k
  | ok as ρ1 =>
    rw [e] at k
    intro vs F1 H1 T1 C1 w1 s1 l1 o1
    have k : EndE S W σ F H T (match fillB as ρ1 with
    | some p => if noOwns p.1 = true then match fn (prm π p.1) with
        | .ok d _ => if okB d = true then .ok d p.2 else .no
        | .ex e _ => if okBs (e.fs.map (·.2)) = true then .ex e p.2 else .no
        | .no => .no
      else .no
    | none => .no) Q := k
    cases e2 : fillB as ρ1 with
    | none => rw [e2] at k; exact k.elim
    | some p =>
      rw [e2] at k
      have k : EndE S W σ F H T (if noOwns p.1 = true then match fn (prm π p.1) with
        | .ok d _ => if okB d = true then .ok d p.2 else .no
        | .ex e _ => if okBs (e.fs.map (·.2)) = true then .ex e p.2 else .no
        | .no => .no
      else .no) Q := k
      by_cases nn : noOwns p.1 = true
      · rw [if_pos nn] at k
        obtain ⟨G, T2, l2, eq, o2⟩ := fillB_ok o1 l1 e2
        have w2 : Wd F1 H1 (ad G T2) := w1.eqf eq.symm
        have s2 : Stp F H T F1 H1 (ad G T2) := s1.eqf eq.symm
        obtain ⟨F', fs, hF, wG, bak⟩ := lend w2
        have o2 := o2 F' fs hF
        have eG := Ows.no nn o2
        have o4 := prm_ok (o2.eqf eG.symm) nn π
        have e6 := fillB_len e2
        have e7 := hl _ _ _ e
        refine ⟨by rw [← o2.len, e6, e7, hm], ?_, F', zf, prm π p.1, wG.eqf eG.symm, o4, ?_⟩
        · rw [← o4.len]
          exact hn _ (by rw [e6, e7])
        cases e3 : fn (prm π p.1) with
        | no => rw [e3] at k; exact k
        | ok d os =>
          rw [e3] at k
          have k : EndE S W σ F H T (if okB d = true then .ok d p.2 else .no) Q := k
          by_cases z : okB d = true
          · rw [if_pos z] at k
            intro v F3 H3 T3 C3 w3 s3 l3 o5
            have s3' : Stp F' H1 G F3 H3 (ad T3 C3) := s3.eqfL eG
            obtain ⟨F4, w4, s4, ht⟩ := bak F3 H3 _ w3 s3'
            have l4 := lendSls w2 s4 s3'.keep l2
            have le5 : ∀ a, ad T2 C3 a ≤ ad (ad T3 C3) T2 a := fun a => by simp only [ad_ap]; omega
            exact k v F4 H3 T2 C3 (w4.le le5) ((s2.trans w2 s4).leR le5) l4 (Ow.okB ht d z o5)
          · rw [if_neg z] at k; exact k.elim
        | ex y os =>
          rw [e3] at k
          have k : EndE S W σ F H T (if okBs (y.fs.map (·.2)) = true then .ex y p.2 else .no) Q := k
          by_cases z : okBs (y.fs.map (·.2)) = true
          · rw [if_pos z] at k
            intro c dd F3 H3 T3 x1 x2 w3 s3 l3
            have s3' : Stp F' H1 G F3 H3 T3 := s3.eqfL eG
            obtain ⟨F4, w4, s4, ht⟩ := bak F3 H3 _ w3 s3'
            have l4 := lendSls w2 s4 s3'.keep l2
            have le5 : ∀ a, T2 a ≤ ad T3 T2 a := fun a => by simp only [ad_ap]; omega
            exact k c dd F4 H3 T2 x1 (FsOk.okB ht z x2) (w4.le le5) ((s2.trans w2 s4).leR le5) l4
          · rw [if_neg z] at k; exact k.elim
      · rw [if_neg nn] at k; exact k.elim
theorem E.callKB {k n : Nat} {x : Str} {p : Pos} {kws : List Keyword} {ks : List Str} {π : List Nat} {fn : Fn} {m : MA} (F : FK X cm k x ks π n fn) (hg : X.A.guards = some []) (hr : Room k X.A) (tk : Takes X W) (hgl : Gl X x) (hn : ∀ xs : List D, xs.length = kws.length → (prm π xs).length = n) (ha : GK X cm W kws m) (hkl : kws.length = ks.length)
    (hall : (backToKw pos (keywordEach kws X.env)).all (·.1.isSome) = true := by rfl) (hks : (backToKw pos (keywordEach kws X.env)).filterMap (·.1) = ks := by rfl)
    (hdb : (x == ("__debug__" : Str)) = false := by decide) (hpl : ((backTo pos (starEach [] X.env)).any (·.1) || (backToKw pos (keywordEach kws X.env)).any (·.1.isNone)) = false := by rfl) :
    GE X cm W (.Call (.Name x p) [] kws pos) (rCallKB fn π m) := by
  obtain ⟨f, fd, ps, g, hF, hm, hk, hb⟩ := F.ex
  obtain ⟨t, pa, q, l⟩ := ha
  exact ⟨_, peGK hF hg hr tk hgl hm hk hb pa hall hks hdb hpl, callKB_sp l hkl hn q⟩
end
end DL
namespace DL
open PySem L2 PyProof.Rows
theorem newG {F H : Hp} {p : Addr} {o : HO} (hs : Sub F H) (hp : H p = none) (m : Mut (some o)) : Wd F (upd H p o) (one p) ∧ Stp F H zf F (upd H p o) (one p) := by
  have w : Wd F H zf := ⟨hs, fun _ => Nat.zero_le _, fun a z => absurd rfl z, fun a z => absurd rfl z⟩
  obtain ⟨a, b⟩ := alloc w hp m
  exact ⟨a.eqf fun a => (Nat.zero_add _).symm, b.eqf fun a => (Nat.zero_add _).symm⟩
theorem wz {F H : Hp} (hs : Sub F H) : Wd F H zf := ⟨hs, fun _ => Nat.zero_le _, fun a z => absurd rfl z, fun a z => absurd rfl z⟩
section
variable {X : Cx} {cm : Str → Option Addr} {W : WX} {S : Sc} {pos : Pos} {K : PySem.W.Frag}
/-! ### displays -/
def rLst (m : MA) : ME := fun ρ => match m ρ with
  | .ok as ρ1 => match vals as with
    | some ds => .ok (.nd .lst true ds) ρ1
    | none => .no
  | .ex e ρ1 => .ex e ρ1
  | .no => .no
def rTup (m : MA) : ME := fun ρ => match m ρ with
  | .ok as ρ1 => match vals as with
    | some ds => .ok (.nd .tup false ds) ρ1
    | none => .no
  | .ex e ρ1 => .ex e ρ1
  | .no => .no
theorem vals_len : ∀ {as : List Ag} {ds : List D}, vals as = some ds → ds.length = as.length
  | [], ds, e => by cases e; rfl
  | .val d :: r, ds, e => by
    obtain ⟨q, e1, e2⟩ := Option.map_eq_some_iff.mp e
    subst e2
    exact congrArg (· + 1) (vals_len e1)
  | .io i :: r, ds, e => by cases e
  | .bw i :: r, ds, e => by cases e
theorem E.lst {es : List Expr} {m : MA} (h : GA X cm W es m) (hl : es.length ≤ sizeLine := by decide) : GE X cm W (.List es pos) (rLst m) := by
  obtain ⟨t, pa, q, l⟩ := h
  refine ⟨_, pe_lst pa, fun σ F H T ρ Q w s k => ?_⟩
  refine q σ F H T ρ _ w s ?_
  unfold rLst at k
  cases e : m ρ with
  | no => rw [e] at k; exact k
  | ex z ρ1 => rw [e] at k; exact k
  | ok as ρ1 =>
    rw [e] at k
    intro vs F1 H1 T1 C1 w1 s1 l1 o1
    have k : EndE _ W σ F H T (match vals as with
    | some ds => .ok (.nd .lst true ds) ρ1
    | none => .no) Q := k
    cases e2 : vals as with
    | none => rw [e2] at k; exact k.elim
    | some ds =>
      rw [e2] at k
      have o2 := vals_ok o1 e2
      refine ⟨by rw [← o2.len, vals_len e2, l _ _ _ e]; exact hl, fun p hp => ?_⟩
      obtain ⟨w3, s3⟩ := alloc (o := .lst vs) w1 hp trivial
      have eq : Eqf (ad T1 (ad (one p) C1)) (ad (ad T1 C1) (one p)) := fun a => by simp only [ad_ap]; omega
      exact k _ F1 _ T1 (ad (one p) C1) (w3.eqf eq) ((s1.trans w1 s3).eqf eq) (sls_up hp l1) ⟨p, vs, C1, rfl, ows_up hp o2, .inr (.inl ⟨rfl, upd_same, .rfl'⟩)⟩
theorem E.tup {es : List Expr} {kk : Nat} {m : MA} (h : GA X cm W es m) (hl : es.length ≤ sizeLine := by decide) : GE X cm W (.Tuple es kk pos) (rTup m) := by
  obtain ⟨t, pa, q, l⟩ := h
  refine ⟨_, pe_tup pa, fun σ F H T ρ Q w s k => ?_⟩
  refine q σ F H T ρ _ w s ?_
  unfold rTup at k
  cases e : m ρ with
  | no => rw [e] at k; exact k
  | ex z ρ1 => rw [e] at k; exact k
  | ok as ρ1 =>
    rw [e] at k
    intro vs F1 H1 T1 C1 w1 s1 l1 o1
    have k : EndE _ W σ F H T (match vals as with
    | some ds => .ok (.nd .tup false ds) ρ1
    | none => .no) Q := k
    cases e2 : vals as with
    | none => rw [e2] at k; exact k.elim
    | some ds =>
      rw [e2] at k
      have o2 := vals_ok o1 e2
      refine ⟨by rw [← o2.len, vals_len e2, l _ _ _ e]; exact hl, fun p hp => ?_⟩
      obtain ⟨w3, s3, fs⟩ := allocF (o := .tup vs) w1 hp
      exact k _ _ _ T1 C1 w3 (s1.trans w1 s3) (sls_sub fs (sls_up hp l1)) ⟨p, vs, C1, rfl, ows_sub fs (ows_up hp o2), .inl ⟨rfl, rfl, upd_same, .rfl'⟩⟩
/-! ### operations that may make a thing -/
def OpG (K : PySem.W.Frag) (r : R2) (op : D → D → Option D) : Prop := ∀ cm F H (x y : V) a b d f g (Q : VK), Sub F H → (∀ a, f a ≠ 0 → Mut (H a)) → (∀ a, g a ≠ 0 → Mut (H a)) → op a b = some d → Ow ⟨K, cm, F, H⟩ a x f → Ow ⟨K, cm, F, H⟩ b y g →
  (∀ v F' H' C, Wd F' H' C → Stp F H zf F' H' C → Ow ⟨K, cm, F', H'⟩ d v C → Q v H') → r x y H Q
theorem OpOk.g {r : R2} {op : D → D → Option D} (h : OpOk K r op) : OpG K r op := fun cm F H x y a b d f g Q hs m1 m2 e o1 o2 k =>
  h cm F H x y a b d f g Q hs m1 m2 e o1 o2 fun z oz => k z F H zf (wz hs) .refl oz
/-- what stands by, behind something new -/
theorem beside {K : PySem.W.Frag} {cm : Str → Option Addr} {F H F' H' : Hp} {T C : Fp} {ρ : Env} {σ : L2.St} (w : Wd F H T) (l : Sls ⟨K, cm, F, H⟩ ρ σ T) (w' : Wd F' H' C) (s' : Stp F H zf F' H' C) :
    Wd F' H' (ad T C) ∧ Stp F H T F' H' (ad T C) ∧ Sls ⟨K, cm, F', H'⟩ ρ σ T := by
  have w0 : Wd F H (ad zf T) := w.eqf fun a => Nat.zero_add _
  obtain ⟨w4, s4⟩ := w0.frame s' w'
  have e : Eqf (ad T C) (ad C T) := fun a => by simp only [ad_ap]; omega
  exact ⟨w4.eqf e, (s4.eqf e).eqfL fun a => (Nat.zero_add _).symm, w0.keepSls s' l⟩
theorem opG_sp {r : R2} {op : D → D → Option D} {ta tb : TE} {f g : ME} (o : OpG S.K r op) (q1 : SpE S W ta f) (q2 : SpE S W tb g) : SpE S W (tOp r ta tb) (rOp op f g) := by
  intro σ F H T ρ Q w s h
  refine two q1 q2 w s (R := fun x y H' => r x y H' Q) h fun a b ρ2 x y F' H' T' C1 C2 w' s' l o1 o2 h' => ?_
  cases e : op a b with
  | none => rw [e] at h'; exact h'.elim
  | some d =>
    rw [e] at h'
    refine o S.cm F' H' x y a b d C1 C2 Q w'.sub (fun a z => w'.mu a (by simp only [ad_ap]; omega)) (fun a z => w'.mu a (by simp only [ad_ap]; omega)) e o1 o2 fun v F3 H3 C3 w3 s3 o3 => ?_
    have le : ∀ a, T' a ≤ ad (ad T' C2) C1 a := fun a => by simp only [ad_ap]; omega
    obtain ⟨w4, s4, l4⟩ := beside (w'.le le) l w3 s3
    exact h' v F3 H3 T' C3 w4 ((Stp.le le).trans (w'.le le) s4) l4 o3
def rOpV (op : D → D → Option D) (f g : MV) : ME := fun ρ => match f ρ with
  | some a => match g ρ with
    | some b => .of (op a b) ρ
    | none => .no
  | none => .no
def rOpEV (op : D → D → Option D) (f : ME) (g : MV) : ME := fun ρ => match f ρ with
  | .ok a ρ1 => match g ρ1 with
    | some b => .of (op a b) ρ1
    | none => .no
  | .ex e ρ1 => .ex e ρ1
  | .no => .no
def rOpNE (op : D → D → Option D) (i : Nat) (g : ME) : ME := fun ρ => match gt ρ i with
  | some _ => match g ρ with
    | .ok b ρ1 => match gt ρ1 i with
      | some a => .of (op a b) ρ1
      | none => .no
    | .ex e ρ1 => .ex e ρ1
    | .no => .no
  | none => .no
theorem opGV_sp {r : R2} {op : D → D → Option D} {ta tb : TE} {f g : MV} (o : OpG S.K r op) (q1 : SpV S ta f) (q2 : SpV S tb g) : SpE S W (tOp r ta tb) (rOpV op f g) := by
  intro σ F H T ρ Q w s k
  unfold rOpV at k
  cases e1 : f ρ with
  | none => rw [e1] at k; exact k.elim
  | some a =>
    cases e2 : g ρ with
    | none => simp only [e1, e2] at k; exact k.elim
    | some b =>
      simp only [e1, e2] at k
      refine q1 σ F H T ρ a _ w s e1 fun x f1 o1 l1 => q2 σ F H T ρ b _ w s e2 fun y f2 o2 l2 => ?_
      cases e : op a b with
      | none => rw [e] at k; exact k.elim
      | some d =>
        rw [e] at k
        refine o S.cm F H x y a b d f1 f2 Q w.sub (muOf w l1) (muOf w l2) e o1 o2 fun v F3 H3 C3 w3 s3 o3 => ?_
        obtain ⟨w4, s4, l4⟩ := beside w s w3 s3
        exact k v F3 H3 T C3 w4 s4 l4 o3
theorem opGEV_sp {r : R2} {op : D → D → Option D} {ta tb : TE} {f : ME} {g : MV} (o : OpG S.K r op) (q1 : SpE S W ta f) (q2 : SpV S tb g) : SpE S W (tOp r ta tb) (rOpEV op f g) := by
  intro σ F H T ρ Q w s k
  refine q1 σ F H T ρ _ w s ?_
  unfold rOpEV at k
  cases e1 : f ρ with
  | no => rw [e1] at k; exact k
  | ex z ρ1 => rw [e1] at k; exact k
  | ok a ρ1 =>
    rw [e1] at k
    intro x F1 H1 T1 C1 w1 s1 l1 o1
    have k : EndE S W σ F H T (match g ρ1 with
    | some b => .of (op a b) ρ1
    | none => .no) Q := k
    cases e2 : g ρ1 with
    | none => rw [e2] at k; exact k.elim
    | some b =>
      rw [e2] at k
      have k : EndE S W σ F H T (.of (op a b) ρ1) Q := k
      refine q2 σ F1 H1 T1 ρ1 b _ w1.part l1 e2 fun y f2 o2 l2 => ?_
      cases e : op a b with
      | none => rw [e] at k; exact k.elim
      | some d =>
        rw [e] at k
        have le : ∀ a, T1 a ≤ ad T1 C1 a := fun a => by rw [ad_ap]; omega
        refine o S.cm F1 H1 x y a b d C1 f2 Q w1.sub (fun a z => w1.mu a (by rw [ad_ap]; omega)) (fun a z => w1.mu a (by have := l2 a; rw [ad_ap]; omega)) e o1 o2 fun v F3 H3 C3 w3 s3 o3 => ?_
        obtain ⟨w4, s4, l4⟩ := beside (w1.le le) l1 w3 s3
        exact k v F3 H3 T1 C3 w4 ((s1.leR le).trans (w1.le le) s4) l4 o3
theorem opGNE_sp {r : R2} {op : D → D → Option D} {i : Nat} {tb : TE} {g : ME} (o : OpG S.K r op) (q2 : SpE S W tb g) : SpE S W (tOp r (tVar i) tb) (rOpNE op i g) := by
  intro σ F H T ρ Q w s k
  unfold rOpNE at k
  cases e1 : gt ρ i with
  | none => rw [e1] at k; exact k.elim
  | some a0 =>
    rw [e1] at k
    obtain ⟨v0, _, _, hv, _⟩ := s.get (gt_some e1)
    refine ⟨v0, hv, q2 σ F H T ρ _ w s ?_⟩
    have k : EndE S W σ F H T (match g ρ with
    | .ok b ρ1 => match gt ρ1 i with
      | some a => .of (op a b) ρ1
      | none => .no
    | .ex e ρ1 => .ex e ρ1
    | .no => .no) Q := k
    cases e2 : g ρ with
    | no => rw [e2] at k; exact k
    | ex z ρ1 => rw [e2] at k; exact k
    | ok b ρ1 =>
      rw [e2] at k
      intro y F1 H1 T1 C1 w1 s1 l1 o1
      have k : EndE S W σ F H T (match gt ρ1 i with
      | some a => .of (op a b) ρ1
      | none => .no) Q := k
      cases e3 : gt ρ1 i with
      | none => rw [e3] at k; exact k.elim
      | some a =>
        rw [e3] at k
        have k : EndE S W σ F H T (.of (op a b) ρ1) Q := k
        obtain ⟨x, f2, f3, h1, o2, _, h4⟩ := l1.get (gt_some e3)
        rw [hv] at h1
        cases h1
        cases e : op a b with
        | none => rw [e] at k; exact k.elim
        | some d =>
          rw [e] at k
          have le : ∀ a, T1 a ≤ ad T1 C1 a := fun a => by rw [ad_ap]; omega
          refine o S.cm F1 H1 v0 y a b d f2 C1 Q w1.sub (fun a z => w1.mu a (by rw [ad_ap, h4 a, ad_ap]; omega)) (fun a z => w1.mu a (by rw [ad_ap]; omega)) e o2 o1 fun v F3 H3 C3 w3 s3 o3 => ?_
          obtain ⟨w4, s4, l4⟩ := beside (w1.le le) l1 w3 s3
          exact k v F3 H3 T1 C3 w4 ((s1.leR le).trans (w1.le le) s4) l4 o3
section
variable {p : Operator} {cp : CmpOp} {r : R2} {op : D → D → Option D} {a b : Expr} {i : Nat} {x : Str} {px : Pos}
theorem E.opG {f g : ME} (hr : OpR X (binaryOp p) r) (o : OpG X.K r op) (ha : GE X cm W a f) (hb : GE X cm W b g) : GE X cm W (.BinOp a p b pos) (rOp op f g) := by
  obtain ⟨ta, p1, q1⟩ := ha
  obtain ⟨tb, p2, q2⟩ := hb
  exact ⟨_, pe_op hr p1 p2, opG_sp o q1 q2⟩
theorem E.opV {f g : MV} (hr : OpR X (binaryOp p) r) (o : OpG X.K r op) (ha : GV X cm a f) (hb : GV X cm b g) : GE X cm W (.BinOp a p b pos) (rOpV op f g) := by
  obtain ⟨ta, p1, q1⟩ := ha
  obtain ⟨tb, p2, q2⟩ := hb
  exact ⟨_, pe_op hr p1 p2, opGV_sp o q1 q2⟩
theorem E.opEV {f : ME} {g : MV} (hr : OpR X (binaryOp p) r) (o : OpG X.K r op) (ha : GE X cm W a f) (hb : GV X cm b g) : GE X cm W (.BinOp a p b pos) (rOpEV op f g) := by
  obtain ⟨ta, p1, q1⟩ := ha
  obtain ⟨tb, p2, q2⟩ := hb
  exact ⟨_, pe_op hr p1 p2, opGEV_sp o q1 q2⟩
theorem E.opNE {g : ME} (hN : X.N[i]? = some x) (hv : Vis X.env.scope x) (hr : OpR X (binaryOp p) r) (o : OpG X.K r op) (hb : GE X cm W b g) (hd : (x == ("__debug__" : Str)) = false := by decide) (hcd : (x == ("__classdict__" : Str)) = false := by decide) : GE X cm W (.BinOp (.Name x px) p b pos) (rOpNE op i g) := by
  obtain ⟨tb, p2, q2⟩ := hb
  exact ⟨_, pe_op hr (pe_var hN hv hd hcd) p2, opGNE_sp o q2⟩
theorem E.cmpEV {f : ME} {g : MV} (hr : OpR X (compareOp cp) r) (o : OpG X.K r op) (hm : behindInMarks cp b = false) (ha : GE X cm W a f) (hb : GV X cm b g) : GE X cm W (.Compare a [cp] [b] pos) (rOpEV op f g) := by
  obtain ⟨ta, p1, q1⟩ := ha
  obtain ⟨tb, p2, q2⟩ := hb
  exact ⟨_, pe_cmpR hr p1 p2 hm, opGEV_sp o q1 q2⟩
theorem E.cmpNE {g : ME} (hN : X.N[i]? = some x) (hv : Vis X.env.scope x) (hr : OpR X (compareOp cp) r) (o : OpG X.K r op) (hm : behindInMarks cp b = false) (hb : GE X cm W b g) (hd : (x == ("__debug__" : Str)) = false := by decide) (hcd : (x == ("__classdict__" : Str)) = false := by decide) : GE X cm W (.Compare (.Name x px) [cp] [b] pos) (rOpNE op i g) := by
  obtain ⟨tb, p2, q2⟩ := hb
  exact ⟨_, pe_cmpR hr (pe_var hN hv hd hcd) p2 hm, opGNE_sp o q2⟩
theorem T.cmpEV {f : ME} {g : MV} (hr : OpR X (compareOp cp) r) (o : OpG X.K r op) (hm : behindInMarks cp b = false) (ha : GE X cm W a f) (hb : GV X cm b g) : GT X cm W (.Compare a [cp] [b] pos) (rOpEV op f g) := by
  obtain ⟨ta, p1, q1⟩ := ha
  obtain ⟨tb, p2, q2⟩ := hb
  exact ⟨_, pt_cmpR hr p1 p2 hm, spT_of (opGEV_sp o q1 q2)⟩
theorem T.cmpNE {g : ME} (hN : X.N[i]? = some x) (hv : Vis X.env.scope x) (hr : OpR X (compareOp cp) r) (o : OpG X.K r op) (hm : behindInMarks cp b = false) (hb : GE X cm W b g) (hd : (x == ("__debug__" : Str)) = false := by decide) (hcd : (x == ("__classdict__" : Str)) = false := by decide) : GT X cm W (.Compare (.Name x px) [cp] [b] pos) (rOpNE op i g) := by
  obtain ⟨tb, p2, q2⟩ := hb
  exact ⟨_, pt_cmpR hr (pe_var hN hv hd hcd) p2 hm, spT_of (opGNE_sp o q2)⟩
end
/-! ### + of all kinds, lists times numbers -/
def dCat (k : Nd) (xs ys : List D) : Option D := if (noOwns xs && noOwns ys && decide (xs.length + ys.length ≤ sizeLine)) = true then some (.nd k (decide (k = .lst)) (xs ++ ys)) else none
def dPl : D → D → Option D
  | .nd .lst _ xs, .nd .lst _ ys => dCat .lst xs ys
  | .nd .tup _ xs, .nd .tup _ ys => dCat .tup xs ys
  | a, b => dAdd a b
def rPl (K : PySem.W.Frag) : R2 := fun x y H Q => rAddP x y H Q ∨ (rCat x y H Q ∨ rCatA K x y H Q)
theorem op_pl : OpR X (binaryOp .Add) (rPl X.K) := OpR.or op_addP (OpR.or op_cat op_catA)
theorem dPl_cases {a b d : D} (h : dPl a b = some d) : dAdd a b = some d ∨ (∃ k o o' xs ys, (k = .lst ∨ k = .tup) ∧ a = .nd k o xs ∧ b = .nd k o' ys ∧ dCat k xs ys = some d) := by
  unfold dPl at h
  split at h
  · exact .inr ⟨.lst, _, _, _, _, .inl rfl, rfl, rfl, h⟩
  · exact .inr ⟨.tup, _, _, _, _, .inr rfl, rfl, rfl, h⟩
  · exact .inl h
theorem noOwns_app : ∀ {xs ys : List D}, noOwns xs = true → noOwns ys = true → noOwns (xs ++ ys) = true
  | [], ys, _, h => h
  | d :: xs, ys, h, h2 => by
    have h : (noOwn d && noOwns xs) = true := h
    rw [Bool.and_eq_true] at h
    show (noOwn d && noOwns (xs ++ ys)) = true
    rw [h.1, noOwns_app h.2 h2]; rfl
theorem o_pl : OpG K (rPl K) dPl := by
  intro cm F H x y a b d f g Q hs m1 m2 e o1 o2 k
  rcases dPl_cases e with e | ⟨kk, oa, ob, xs, ys, hk, rfl, rfl, e0⟩
  · exact .inl ((o_add (K := K)).g cm F H x y a b d f g Q hs m1 m2 e o1 o2 k)
  · clear e
    have e := e0
    unfold dCat at e
    by_cases z : (noOwns xs && noOwns ys && decide (xs.length + ys.length ≤ sizeLine)) = true
    · rw [if_pos z] at e
      cases e
      simp only [Bool.and_eq_true, decide_eq_true_eq] at z
      obtain ⟨⟨z1, z2⟩, z3⟩ := z
      obtain ⟨p, ws, g1, rfl, hw, hn⟩ := o1
      obtain ⟨p2, ws2, g2, rfl, hw2, hn2⟩ := o2
      have l1 := hw.len
      have l2 := hw2.len
      have h0 := (hw.eqf (Ows.no z1 hw).symm).app (hw2.eqf (Ows.no z2 hw2).symm)
      rcases hk with rfl | rfl
      · refine .inr (.inl ⟨p, p2, ws, ws2, rfl, rfl, hn.lstH hs, hn2.lstH hs, by omega, fun q hq => ?_⟩)
        obtain ⟨w3, s3⟩ := newG (o := .lst (ws ++ ws2)) hs hq trivial
        exact k _ F _ (one q) w3 s3 (newL hq h0)
      · refine .inr (.inr ⟨p, p2, ws, ws2, rfl, rfl, hn.tup hs, hn2.tup hs, by omega, fun e => ?_, fun e1 e2 => ?_, fun e1 e2 q hq => ?_⟩)
        · subst e
          have : xs = [] := List.eq_nil_of_length_eq_zero l1
          subst this
          refine k _ F H zf (wz hs) .refl ⟨p2, ws2, zf, rfl, h0, ?_⟩
          rcases hn2 with ⟨h1, h2, h3, h4⟩ | ⟨_, h, _⟩ | ⟨_, h, _⟩
          · exact .inl ⟨rfl, rfl, h3, .rfl'⟩
          · exact h.elim
          · exact h.elim
        · subst e2
          have : ys = [] := List.eq_nil_of_length_eq_zero l2
          subst this
          simp only [List.append_nil] at h0 k
          refine k _ F H zf (wz hs) .refl ⟨p, ws, zf, rfl, h0, ?_⟩
          rcases hn with ⟨h1, h2, h3, h4⟩ | ⟨_, h, _⟩ | ⟨_, h, _⟩
          · exact .inl ⟨rfl, rfl, h3, .rfl'⟩
          · exact h.elim
          · exact h.elim
        · obtain ⟨w3, s3, fs⟩ := allocF (o := .tup (ws ++ ws2)) (wz hs) hq
          exact k _ _ _ zf w3 s3 ⟨q, ws ++ ws2, zf, rfl, ows_sub fs (ows_up hq h0), .inl ⟨rfl, rfl, upd_same, .rfl'⟩⟩
    · rw [if_neg z] at e; cases e
def dTm : D → D → Option D
  | .nd .lst _ xs, .int k => if (noOwns xs && decide (-(2 ^ 63) ≤ k) && decide (k < 2 ^ 63) && decide (xs.length * k.toNat ≤ sizeLine)) = true then some (.nd .lst true (List.replicate k.toNat xs).flatten) else none
  | a, b => dMul a b
def rTm : R2 := fun x y H Q => rI CMulX (fun i j => .int (i * j)) x y H Q ∨ rRep x y H Q
theorem op_tm : OpR X (binaryOp .Mult) rTm := OpR.or op_mulX op_rep
theorem Ows.reps {E : HE} {xs : List D} {ws : List V} (h : Ows E xs ws zf) : ∀ n : Nat, Ows E (List.replicate n xs).flatten (List.replicate n ws).flatten zf
  | 0 => ⟨rfl, .rfl'⟩
  | n + 1 => by
    rw [List.replicate_succ, List.replicate_succ, List.flatten_cons, List.flatten_cons]
    exact (h.app (Ows.reps h n)).eqf fun a => rfl
theorem o_tm : OpG K rTm dTm := by
  intro cm F H x y a b d f g Q hs m1 m2 e o1 o2 k
  unfold dTm at e
  split at e
  · rename_i o xs kk
    by_cases z : (noOwns xs && decide (-(2 ^ 63) ≤ kk) && decide (kk < 2 ^ 63) && decide (xs.length * kk.toNat ≤ sizeLine)) = true
    · rw [if_pos z] at e
      cases e
      simp only [Bool.and_eq_true, decide_eq_true_eq] at z
      obtain ⟨p, ws, g1, rfl, hw, hn⟩ := o1
      have h0 := (hw.eqf (Ows.no z.1.1.1 hw).symm).reps kk.toNat
      refine .inr ⟨p, kk, ws, rfl, o2.1, hn.lstH hs, z.1.1.2, z.1.2, by rw [← hw.len]; exact z.2, fun q hq => ?_⟩
      obtain ⟨w3, s3⟩ := newG (o := .lst (List.replicate kk.toNat ws).flatten) hs hq trivial
      exact k _ F _ (one q) w3 s3 (newL hq h0)
    · rw [if_neg z] at e; cases e
  · exact .inl ((o_mul (K := K)).g cm F H x y _ _ d f g Q hs m1 m2 e o1 o2 k)
end
end DL
namespace DL
open PySem L2 PyProof.Rows
/-! ### one of several taken out, put in -/
theorem Ows.out {E : HE} : ∀ {xs : List D} {ws : List V} {h : Fp} {j : Nat} {x : D}, Ows E xs ws h → xs[j]? = some x → ∃ w g r, ws[j]? = some w ∧ Ow E x w g ∧ Ows E (xs.eraseIdx j) (ws.eraseIdx j) r ∧ Eqf h (ad g r)
  | [], _, _, _, _, _, e => by simp at e
  | d :: xs, ws, h, 0, x, o, e => by
    obtain ⟨w, t, g, r, rfl, o1, o2, eq⟩ := o
    simp at e
    subst e
    exact ⟨w, g, r, rfl, o1, o2, eq⟩
  | d :: xs, ws, h, j + 1, x, o, e => by
    obtain ⟨w, t, g, r, rfl, o1, o2, eq⟩ := o
    obtain ⟨w2, g2, r2, h1, h2, h3, h4⟩ := Ows.out (j := j) o2 (by simpa using e)
    refine ⟨w2, g2, ad g r2, by simpa using h1, h2, ⟨w, _, g, r2, rfl, o1, h3, .rfl'⟩, fun a => ?_⟩
    rw [eq a]; simp only [ad_ap]; rw [h4 a, ad_ap]; omega
theorem Ows.inn {E : HE} : ∀ {xs : List D} {ws : List V} {r g : Fp} {j : Nat} {x : D} {w : V}, j < xs.length → xs.length = ws.length → Ows E (xs.eraseIdx j) (ws.eraseIdx j) r → Ow E x w g → Ows E (xs.set j x) (ws.set j w) (ad g r)
  | [], _, _, _, _, _, _, h, _, _, _ => absurd h (Nat.not_lt_zero _)
  | d :: xs, [], _, _, _, _, _, _, h, _, _ => by cases h
  | d :: xs, u :: ws, r, g, 0, x, w, h, _, o, o1 => ⟨w, ws, g, r, rfl, o1, o, .rfl'⟩
  | d :: xs, u :: ws, r, g, j + 1, x, w, h, hl, o, o1 => by
    obtain ⟨v, t, g2, r2, e, o2, o3, eq⟩ := (show ∃ v t g2 r2, u :: ws.eraseIdx j = v :: t ∧ Ow E d v g2 ∧ Ows E (xs.eraseIdx j) t r2 ∧ Eqf r (ad g2 r2) from o)
    cases e
    refine ⟨u, _, g2, ad g r2, rfl, o2, Ows.inn (Nat.lt_of_succ_lt_succ h) (Nat.succ.inj hl) o3 o1, fun a => ?_⟩
    simp only [ad_ap]; rw [eq a, ad_ap]; omega
theorem set_same {α : Type} {ws : List α} {j : Nat} {w : α} (h : ws[j]? = some w) : ws.set j w = ws := by
  apply List.ext_getElem?
  intro i
  by_cases e : j = i
  · subst e
    rw [h]
    exact List.getElem?_set_self (List.getElem?_eq_some_iff.mp h).1
  · exact List.getElem?_set_ne e
/-! ### places within a thing -/
def getP : D → List Nat → Option D
  | d, [] => some d
  | .nd _ _ xs, j :: js => (xs[j]?).bind fun x => getP x js
  | _, _ :: _ => none
def setP : D → List Nat → D → Option D
  | _, [], c => some c
  | .nd k o xs, j :: js, c => if (o || decide (k = .tup)) = true then (xs[j]?).bind fun x => (setP x js c).map fun y => .nd k o (xs.set j y) else none
  | _, _ :: _, _ => none
def vAt (H : Hp) (p : Addr) (j : Nat) : Option V := match H p with
  | some (.lst ws) => ws[j]?
  | some (.tup ws) => ws[j]?
  | some (.dK kvs) => (kvs[j]?).map (·.2)
  | some (.dT kvs) => (kvs[j]?).map (·.2)
  | some (.ins _ _ fs) => (fs[j]?).map (·.2)
  | _ => none
def vPath (H : Hp) : V → List Nat → Option V
  | v, [] => some v
  | .ref p, j :: js => (vAt H p j).bind fun w => vPath H w js
  | _, _ :: _ => none
theorem zipAt {α : Type} {ks : List α} {ws : List V} {j : Nat} (h : ks.length = ws.length) : ((ks.zip ws)[j]?).map (·.2) = ws[j]? := by
  rw [← List.getElem?_map]
  rw [List.map_snd_zip (by omega)]
theorem NdAt.vAt {K : PySem.W.Frag} {cm : Str → Option Addr} {F H : Hp} {k : Nd} {o : Bool} {p : Addr} {ws : List V} {g f : Fp} {j : Nat} (hs : Sub F H) (hk : k ≠ .fzl) (h : NdAt ⟨K, cm, F, H⟩ k o p ws g f) : DL.vAt H p j = ws[j]? := by
  unfold DL.vAt
  rcases h with ⟨rfl, _, h, _⟩ | ⟨_, h, _⟩ | ⟨_, h, _⟩
  · rw [hs _ _ h]
  · cases k with
    | lst => rw [show H p = _ from h]
    | fzl => exact absurd rfl hk
    | tup => exact h.elim
    | dct ks => rw [show H p = _ from h.2]; exact zipAt h.1
    | dtt ks => rw [show H p = _ from h.2]; exact zipAt h.1
    | obj C ns =>
      obtain ⟨hl, c, dx, h1, h2, h3⟩ := h
      rw [show H p = _ from h2]; exact zipAt hl
    | exn C fs => exact h.elim
  · cases k with
    | lst => rw [hs _ _ h]
    | fzl => exact absurd rfl hk
    | tup => exact h.elim
    | dct ks => rw [hs _ _ h.2]; exact zipAt h.1
    | dtt ks => rw [hs _ _ h.2]; exact zipAt h.1
    | obj C ns => exact h.elim
    | exn C fs =>
      obtain ⟨rfl, c, oe, _, _, _, h4, _⟩ := h
      rw [hs _ _ h4]; rfl
/-- no locked list on the way -/
def noFz : D → List Nat → Bool
  | _, [] => true
  | .nd k _ xs, j :: js => !decide (k = .fzl) && match xs[j]? with
    | some x => noFz x js
    | none => true
  | _, _ :: _ => true
section
variable {K : PySem.W.Frag} {cm : Str → Option Addr} {F H : Hp}
theorem Ow.path (hs : Sub F H) : ∀ (js : List Nat) {d c : D} {v : V} {f : Fp}, Ow ⟨K, cm, F, H⟩ d v f → noFz d js = true → getP d js = some c → ∃ w g, vPath H v js = some w ∧ Ow ⟨K, cm, F, H⟩ c w g ∧ ∀ a, g a ≤ f a
  | [], d, c, v, f, o, _, e => by cases e; exact ⟨v, f, rfl, o, fun _ => Nat.le_refl _⟩
  | j :: js, d, c, v, f, o, n, e => by
    cases d with
    | nd k oo xs =>
      obtain ⟨p, ws, g, rfl, hw, hn⟩ := o
      obtain ⟨x, e1, e2⟩ := Option.bind_eq_some_iff.mp (show (xs[j]?).bind (fun x => getP x js) = some c from e)
      have n : (!decide (k = .fzl) && match xs[j]? with
        | some x => noFz x js
        | none => true) = true := n
      rw [e1, Bool.and_eq_true] at n
      obtain ⟨w, g1, h1, h2, h3⟩ := hw.get e1
      obtain ⟨w2, g2, k1, k2, k3⟩ := Ow.path hs js h2 n.2 e2
      have hk : k ≠ .fzl := by
        have := n.1
        simpa using this
      refine ⟨w2, g2, ?_, k2, fun a => Nat.le_trans (k3 a) (Nat.le_trans (h3 a) (hn.le a))⟩
      show (vAt H p j).bind _ = _
      rw [hn.vAt hs hk, h1]; exact k1
    | _ => cases e
theorem up1 {p : Addr} {ob : HO} : Keep H (one p) (upd H p ob) := fun a o h z => by
  have : a ≠ p := fun e => by subst e; rw [one_self] at z; cases z
  rw [upd_ne this]; exact h
theorem mu1 {p : Addr} (m : Mut (H p)) : ∀ a, one p a ≠ 0 → Mut (H a) := fun a z => by rw [one_eq z]; exact m
theorem ow_up1 {p : Addr} {ob : HO} {d : D} {v : V} {f : Fp} (m : Mut (H p)) (n : f p = 0) (h : Ow ⟨K, cm, F, H⟩ d v f) : Ow ⟨K, cm, F, upd H p ob⟩ d v f :=
  Ow.mono (T := one p) (Sub.refl _) up1 (mu1 m) _ _ _ (fun a z => one_ne fun e => z (by rw [e]; exact n)) h
theorem ows_up1 {p : Addr} {ob : HO} {d : List D} {v : List V} {f : Fp} (m : Mut (H p)) (n : f p = 0) (h : Ows ⟨K, cm, F, H⟩ d v f) : Ows ⟨K, cm, F, upd H p ob⟩ d v f :=
  Ows.mono (T := one p) (Sub.refl _) up1 (mu1 m) _ _ _ (fun a z => one_ne fun e => z (by rw [e]; exact n)) h
theorem sls_up1 {p : Addr} {ob : HO} {d : Env} {v : L2.St} {f : Fp} (m : Mut (H p)) (n : f p = 0) (h : Sls ⟨K, cm, F, H⟩ d v f) : Sls ⟨K, cm, F, upd H p ob⟩ d v f :=
  Sls.mono (T := one p) (Sub.refl _) up1 (mu1 m) _ _ _ (fun a z => one_ne fun e => z (by rw [e]; exact n)) h
theorem At.up1 {k : Nd} {p q : Addr} {ob : HO} {ws : List V} (m : Mut (H p)) (n : q ≠ p) (h : At ⟨K, cm, F, H⟩ k q ws) : At ⟨K, cm, F, upd H p ob⟩ k q ws :=
  At.mono (T := one p) DL.up1 (one_ne n) (mu1 m) h
/-- a part is exchanged: what is owned at w changes -/
theorem Ow.put (hs : Sub F H) : ∀ (js : List Nat) {d c c' d' : D} {v : V} {f : Fp}, Ow ⟨K, cm, F, H⟩ d v f → getP d js = some c → setP d js c' = some d' → ∃ w g r, vPath H v js = some w ∧ Ow ⟨K, cm, F, H⟩ c w g ∧ Eqf f (ad g r) ∧
    ∀ p ob g', w = .ref p → Mut (H p) → g p ≠ 0 → (∀ a, f a ≤ 1) → Ow ⟨K, cm, F, upd H p ob⟩ c' w g' → Ow ⟨K, cm, F, upd H p ob⟩ d' v (ad g' r)
  | [], d, c, c', d', v, f, o, e, e2 => by
    cases e
    cases e2
    exact ⟨v, f, zf, rfl, o, fun a => rfl, fun p ob g' _ _ _ _ o' => o'.eqf fun a => rfl⟩
  | j :: js, d, c, c', d', v, f, o, e, e2 => by
    cases d with
    | nd k oo xs =>
      obtain ⟨q, ws, h, rfl, hw, hn⟩ := o
      obtain ⟨x, e3, e4⟩ := Option.bind_eq_some_iff.mp (show (xs[j]?).bind (fun x => getP x js) = some c from e)
      have e2 : (if (oo || decide (k = .tup)) = true then (xs[j]?).bind fun x => (setP x js c').map fun y => D.nd k oo (xs.set j y) else none) = some d' := e2
      by_cases z : (oo || decide (k = .tup)) = true
      · rw [if_pos z, e3] at e2
        obtain ⟨y, e5, e6⟩ := Option.map_eq_some_iff.mp (show (setP x js c').map (fun y => D.nd k oo (xs.set j y)) = some d' from e2)
        subst e6
        obtain ⟨u, g1, r1, h1, h2, h3, h4⟩ := hw.out e3
        obtain ⟨w, g, r, k0, k1, k2, k3⟩ := Ow.put hs js h2 e4 e5
        have hj : j < xs.length := (List.getElem?_eq_some_iff.mp e3).1
        have vp : ∀ {hk : k ≠ .fzl}, vPath H (.ref q) (j :: js) = some w := fun {hk} => by
          show (vAt H q j).bind _ = _
          rw [hn.vAt hs hk, h1]; exact k0
        have fin : ∀ p ob g', w = .ref p → Mut (H p) → g p ≠ 0 → (∀ a, h a ≤ 1) → Ow ⟨K, cm, F, upd H p ob⟩ c' w g' → Ows ⟨K, cm, F, upd H p ob⟩ (xs.set j y) ws (ad (ad g' r) r1) := fun p ob g' ew m gp l1 o' => by
          have a1 := k3 p ob g' ew m gp (fun a => by have := l1 a; rw [h4 a, ad_ap] at this; omega) o'
          have hp := l1 p
          rw [h4 p, ad_ap, k2 p, ad_ap] at hp
          have a2 := ows_up1 (ob := ob) m (by omega) h3
          have := Ows.inn hj hw.len a2 a1
          rw [set_same h1] at this
          exact this
        rcases hn with ⟨hk, ho, ht, ef⟩ | ⟨ho, ha, ef⟩ | ⟨ho, ha, eg, ef⟩
        · refine ⟨w, g, ad r r1, vp (hk := by rw [hk]; intro z; cases z), k1, fun a => ?_, fun p ob g' ew m gp l1 o' => ⟨q, ws, ad (ad g' r) r1, rfl, fin p ob g' ew m gp (fun a => by rw [← ef a]; exact l1 a) o', .inl ⟨hk, ho, ht, fun a => ?_⟩⟩⟩
          · rw [ef a, h4 a, ad_ap, k2 a]; simp only [ad_ap]; omega
          · simp only [ad_ap]; omega
        · refine ⟨w, g, ad (one q) (ad r r1), vp (hk := fun z => by subst z; exact ha.elim), k1, fun a => ?_, fun p ob g' ew m gp l1 o' => ?_⟩
          · rw [ef a, ad_ap, h4 a, ad_ap, k2 a]; simp only [ad_ap]; omega
          · have hne : q ≠ p := fun e => by
              subst e
              have := l1 q
              rw [ef q, ad_ap, one_self, h4 q, ad_ap, k2 q, ad_ap] at this
              omega
            refine ⟨q, ws, ad (ad g' r) r1, rfl, fin p ob g' ew m gp (fun a => by have := l1 a; rw [ef a, ad_ap] at this; omega) o', .inr (.inl ⟨ho, At.up1 m hne ha, fun a => ?_⟩)⟩
            simp only [ad_ap]; omega
        · subst ho
          have hk : k = .tup := by simpa using z
          subst hk
          exact ha.elim
      · rw [if_neg z] at e2; cases e2
    | _ => cases e
end
def getS (ρ : Env) (i : Nat) (js : List Nat) : Option D := (gt ρ i).bind fun d => if noFz d js = true then getP d js else none
def setS (ρ : Env) (i : Nat) (js : List Nat) (c : D) : Option Env := (gt ρ i).bind fun d => (setP d js c).map fun e => ρ.set i (some e)
abbrev MP := Env → Option (List Nat)
/-- an expression that names a place: slot i, the way js -/
def SpP (S : Sc) (i : Nat) (te : TE) (π : MP) : Prop := ∀ σ F H T ρ js c (Q : VK), Wd F H T → Sls (S.at F H) ρ σ T → π ρ = some js → getS ρ i js = some c → (∀ v w, σ[i]? = some (some v) → vPath H v js = some w → Q w H) → te σ H Q
def GP (X : Cx) (cm : Str → Option Addr) (e : Expr) (i : Nat) (π : MP) : Prop := ∃ t, PE X e t ∧ SpP ⟨X.K, cm⟩ i t π
def vP (i : Nat) (π : MP) : MV := fun ρ => (π ρ).bind fun js => getS ρ i js
def pN : MP := fun _ => some []
def pIx (i : Nat) (π : MP) (g : MV) : MP := fun ρ => (π ρ).bind fun js => match getS ρ i js, g ρ with
  | some (.nd .lst _ xs), some (.int k) => (ixN xs.length k).map fun j => js ++ [j]
  | some (.nd .tup _ xs), some (.int k) => (ixN xs.length k).map fun j => js ++ [j]
  | _, _ => none
section
variable {X : Cx} {cm : Str → Option Addr} {W : WX} {S : Sc} {pos : Pos} {K : PySem.W.Frag}
theorem P.name {i : Nat} {x : Str} (hN : X.N[i]? = some x) (hv : Vis X.env.scope x) (hd : (x == ("__debug__" : Str)) = false := by decide) (hcd : (x == ("__classdict__" : Str)) = false := by decide) : GP X cm (.Name x pos) i pN := by
  refine ⟨_, pe_var hN hv hd hcd, fun σ F H T ρ js c Q w s e e2 k => ?_⟩
  cases e
  obtain ⟨d, e3, e4⟩ := Option.bind_eq_some_iff.mp e2
  obtain ⟨v, g, x, h1, h2, _, h4⟩ := s.get (gt_some e3)
  exact ⟨v, h1, k v v h1 rfl⟩
theorem vPath_snoc {H : Hp} : ∀ {js : List Nat} {v w : V} {j : Nat} {p : Addr} {u : V}, vPath H v js = some w → w = .ref p → vAt H p j = some u → vPath H v (js ++ [j]) = some u
  | [], v, w, j, p, u, h, hw, h2 => by
    cases h
    subst hw
    show (vAt H p j).bind (fun w => vPath H w []) = some u
    rw [h2]; rfl
  | i :: js, v, w, j, p, u, h, hw, h2 => by
    cases v with
    | ref q =>
      obtain ⟨x, e1, e2⟩ := Option.bind_eq_some_iff.mp (show (vAt H q i).bind (fun w => vPath H w js) = some w from h)
      show (vAt H q i).bind (fun w => vPath H w (js ++ [j])) = some u
      rw [e1]
      exact vPath_snoc (js := js) e2 hw h2
    | _ => cases h
theorem P.vw {e : Expr} {i : Nat} {π : MP} (h : GP X cm e i π) : GV X cm e (vP i π) := by
  obtain ⟨t, p, q⟩ := h
  refine ⟨t, p, fun σ F H T ρ d Q w s e k => ?_⟩
  obtain ⟨js, e1, e2⟩ := Option.bind_eq_some_iff.mp e
  refine q σ F H T ρ js d Q w s e1 e2 fun v u hv hu => ?_
  obtain ⟨d0, e3, e4⟩ := Option.bind_eq_some_iff.mp e2
  by_cases z : noFz d0 js = true
  · rw [if_pos z] at e4
    obtain ⟨v0, g, x, h1, h2, _, h4⟩ := s.get (gt_some e3)
    rw [hv] at h1
    cases h1
    obtain ⟨w2, g2, k1, k2, k3⟩ := h2.path w.sub js z e4
    rw [hu] at k1
    cases k1
    exact k u g2 k2 fun a => by have := k3 a; rw [h4 a, ad_ap]; omega
  · rw [if_neg z] at e4; cases e4
theorem getS_snoc {js : List Nat} {d : D} {k : Nd} {o : Bool} {xs : List D} {j : Nat} {x : D} : ∀ {js : List Nat} {d : D}, noFz d js = true → getP d js = some (.nd k o xs) → k ≠ .fzl → noFz d (js ++ [j]) = true
  | [], d, _, e, hk => by
    cases e
    show (!decide (k = .fzl) && _) = true
    rw [decide_eq_false hk]
    cases xs[j]? <;> rfl
  | i :: js, d, n, e, hk => by
    cases d with
    | nd k0 o0 ys =>
      have n : (!decide (k0 = .fzl) && match ys[i]? with
        | some x => noFz x js
        | none => true) = true := n
      obtain ⟨y, e1, e2⟩ := Option.bind_eq_some_iff.mp (show (ys[i]?).bind (fun x => getP x js) = some _ from e)
      show (!decide (k0 = .fzl) && match ys[i]? with
        | some x => noFz x (js ++ [j])
        | none => true) = true
      rw [e1] at n ⊢
      rw [Bool.and_eq_true] at n ⊢
      exact ⟨n.1, getS_snoc (x := x) (js := js) (d := d) n.2 e2 hk⟩
    | _ => cases e
theorem P.ix {a b : Expr} {i : Nat} {π : MP} {g : MV} (ha : GP X cm a i π) (hb : GV X cm b g) (hs : PlainIx b := by exact fun _ _ => rfl) : GP X cm (.Subscript a b pos) i (pIx i π g) := by
  have hV := P.vw ha
  obtain ⟨ta, p1, q1⟩ := ha
  obtain ⟨tb, p2, q2⟩ := hb
  refine ⟨_, pe_ix ix_all p1 p2 hs, fun σ F H T ρ js c Q w s e e2 k => ?_⟩
  unfold pIx at e
  obtain ⟨js0, e1, e⟩ := Option.bind_eq_some_iff.mp e
  cases eg : getS ρ i js0 with
  | none => rw [eg] at e; cases e
  | some c0 =>
    cases ei : g ρ with
    | none => rw [eg, ei] at e; cases c0 <;> first | cases e | (rename_i kk _ _; cases kk <;> cases e)
    | some b0 =>
      rw [eg, ei] at e
      have main : ∀ (kk : Nd) (o : Bool) (xs : List D) (n : Int), (kk = .lst ∨ kk = .tup) → c0 = .nd kk o xs → b0 = .int n → (ixN xs.length n).map (fun j => js0 ++ [j]) = some js → tOp (rIx X.K) ta tb σ H Q := by
        intro kk o xs n hk hc hb em
        clear e
        subst hc
        subst hb
        obtain ⟨j, e3, e4⟩ := Option.map_eq_some_iff.mp em
        subst e4
        refine q1 σ F H T ρ js0 _ _ w s e1 eg fun v u hv hu => ?_
        refine q2 σ F H T ρ _ _ w s ei fun y f2 o2 l2 => ?_
        obtain ⟨d0, e5, e6⟩ := Option.bind_eq_some_iff.mp eg
        by_cases z : noFz d0 js0 = true
        · rw [if_pos z] at e6
          obtain ⟨v0, g0, x0, h1, h2, _, h4⟩ := s.get (gt_some e5)
          rw [hv] at h1
          cases h1
          obtain ⟨w2, g2, k1, k2, k3⟩ := h2.path w.sub js0 z e6
          rw [hu] at k1
          cases k1
          obtain ⟨p, ws, gg, rfl, hw, hn⟩ := k2
          have hx : ∃ x, xs[j]? = some x := by
            obtain ⟨d1, e7, e8⟩ := Option.bind_eq_some_iff.mp e2
            rw [e5] at e7
            cases e7
            by_cases z2 : noFz d0 (js0 ++ [j]) = true
            · rw [if_pos z2] at e8
              have : ∀ {js : List Nat} {d : D}, getP d js = some (.nd kk o xs) → getP d (js ++ [j]) = (xs[j]?).bind fun x => some x := by
                intro js
                induction js with
                | nil => intro d e; cases e; rfl
                | cons i js ih =>
                  intro d e
                  cases d with
                  | nd k0 o0 ys =>
                    obtain ⟨y, e1, e2⟩ := Option.bind_eq_some_iff.mp (show (ys[i]?).bind (fun x => getP x js) = some _ from e)
                    show (ys[i]?).bind (fun x => getP x (js ++ [j])) = _
                    rw [e1]
                    exact ih e2
                  | _ => cases e
              rw [this e6] at e8
              obtain ⟨x, e9, _⟩ := Option.bind_eq_some_iff.mp e8
              exact ⟨x, e9⟩
            · rw [if_neg z2] at e8; cases e8
          obtain ⟨x, hx⟩ := hx
          obtain ⟨wj, gj, h5, h6, h7⟩ := hw.get hx
          have hat : L2.atI ws n = some wj := Option.bind_eq_some_iff.mpr ⟨j, by rw [← hw.len]; exact e3, h5⟩
          have hva : vAt H p j = some wj := by
            rw [hn.vAt w.sub (by rcases hk with rfl | rfl <;> intro z <;> cases z)]; exact h5
          have fin := k v wj hv (vPath_snoc hu rfl hva)
          rcases hk with rfl | rfl
          · exact .inl (.inl ⟨p, ws, n, wj, rfl, o2.1, hn.lst w.sub, hat, fin⟩)
          · exact .inl (.inr ⟨p, ws, n, wj, rfl, o2.1, hn.tup w.sub, hat, fin⟩)
        · rw [if_neg z] at e6; cases e6
      split at e
      · rename_i o xs n h1 h2
        cases h1
        cases h2
        exact main .lst o xs n (.inl rfl) rfl rfl e
      · rename_i o xs n h1 h2
        cases h1
        cases h2
        exact main .tup o xs n (.inr rfl) rfl rfl e
      · cases e
end
end DL
namespace DL
open PySem L2 PyProof.Rows
section
variable {X : Cx} {cm : Str → Option Addr} {W : WX} {S : Sc} {pos : Pos} {K : PySem.W.Frag}
/-! ### methods that change an own list -/
def isL : D → Bool
  | .nd .lst true _ => true
  | _ => false
theorem isL_ok {c : D} (h : isL c = true) : ∃ xs, c = .nd .lst true xs := by
  unfold isL at h
  split at h
  · exact ⟨_, rfl⟩
  · cases h
theorem Ow.lstAt {F H : Hp} {xs : List D} {v : V} {f : Fp} (h : Ow ⟨K, cm, F, H⟩ (.nd .lst true xs) v f) : ∃ p ws g, v = .ref p ∧ H p = some (.lst ws) ∧ Ows ⟨K, cm, F, H⟩ xs ws g ∧ Eqf f (ad (one p) g) := by
  obtain ⟨p, ws, g, rfl, hw, hn⟩ := h
  rcases hn with ⟨z, _⟩ | ⟨_, h, e⟩ | ⟨z, _⟩
  · cases z
  · exact ⟨p, ws, g, rfl, h, hw, e⟩
  · cases z
/-- by the contents before and behind -/
def MuOk (K : PySem.W.Frag) (r : V → List V → Hp → VK → Prop) (op : List D → List D → Option (D × List D)) : Prop := ∀ cm F H p xs ws ds vs g h d xs' (Q : VK), Sub F H → op xs ds = some (d, xs') → H p = some (.lst ws) → Ows ⟨K, cm, F, H⟩ xs ws g → Ows ⟨K, cm, F, H⟩ ds vs h →
  (∀ v ws' C g', Ow ⟨K, cm, F, H⟩ d v C → Ows ⟨K, cm, F, H⟩ xs' ws' g' → (∀ a, C a + g' a ≤ g a + h a) → Q v (upd H p (.lst ws'))) → r (.ref p) vs H Q
def muD (op : List D → List D → Option (D × List D)) (c : D) (ds : List D) : Option (D × D) := match c with
  | .nd .lst true xs => (op xs ds).map fun z => (z.1, .nd .lst true z.2)
  | _ => none
/-- the change by the whole thing -/
theorem MuOk.at {r : V → List V → Hp → VK → Prop} {op : List D → List D → Option (D × List D)} (o : MuOk K r op) {F H : Hp} {c c' d : D} {v : V} {ds : List D} {vs : List V} {g h : Fp} {Q : VK} (hs : Sub F H) (hf : ∀ a, g a ≠ 0 → F a = none) (h1 : ∀ a, g a + h a ≤ 1)
    (e : muD op c ds = some (d, c')) (o1 : Ow ⟨K, cm, F, H⟩ c v g) (o2 : Ows ⟨K, cm, F, H⟩ ds vs h)
    (k : ∀ p u ws' C g', v = .ref p → g p ≠ 0 → Mut (H p) → Ow ⟨K, cm, F, upd H p (.lst ws')⟩ d u C → Ow ⟨K, cm, F, upd H p (.lst ws')⟩ c' v g' → (∀ a, C a + g' a ≤ g a + h a) → Q u (upd H p (.lst ws'))) : r v vs H Q := by
  unfold muD at e
  split at e
  · rename_i xs
    obtain ⟨⟨d0, xs'⟩, e1, e2⟩ := Option.map_eq_some_iff.mp e
    cases e2
    obtain ⟨p, ws, g0, rfl, hp, hw, eg⟩ := o1.lstAt
    have gp : g p ≠ 0 := by rw [eg p, ad_ap, one_self]; omega
    have m : Mut (H p) := by rw [hp]; trivial
    refine o _ F H p xs ws ds vs g0 h _ xs' Q hs e1 hp hw o2 fun u ws' C g' q1 q2 le => ?_
    have z : C p = 0 ∧ g' p = 0 := by
      have := h1 p
      have h2 := le p
      rw [eg p, ad_ap, one_self] at this
      omega
    refine k p u ws' C (ad (one p) g') rfl gp m (ow_up1 m z.1 q1) ⟨p, ws', g', rfl, ows_up1 m z.2 q2, .inr (.inl ⟨rfl, upd_same, .rfl'⟩)⟩ fun a => ?_
    have := le a
    rw [eg a]; simp only [ad_ap]; omega
  · cases e
/-- a Name's method, the arguments reckoned behind it -/
def rMtN (op : List D → List D → Option (D × List D)) (i : Nat) (m : MA) : ME := fun ρ => match gt ρ i with
  | some c0 => if isL c0 = true then match m ρ with
      | .ok as ρ1 => match vals as with
        | some ds => match gt ρ1 i with
          | some c => match muD op c ds with
            | some z => .ok z.1 (ρ1.set i (some z.2))
            | none => .no
          | none => .no
        | none => .no
      | .ex e ρ1 => .ex e ρ1
      | .no => .no
    else .no
  | none => .no
/-- a changed place's world -/
theorem changed {F H : Hp} {T R G C G' : Fp} {p : Addr} {ob : HO} (w : Wd F H T) (e : ∀ a, R a + G a ≤ T a) (gp : G p ≠ 0) (m : Mut (some ob)) (le : ∀ a, C a + G' a ≤ G a) : Wd F (upd H p ob) (ad (ad G' R) C) ∧ Stp F H T F (upd H p ob) (ad (ad G' R) C) := by
  have hp : T p ≠ 0 := by have := e p; omega
  have fp := w.off p hp
  refine ⟨⟨fun a o h => ?_, fun a => ?_, fun a z => ?_, fun a z => ?_⟩, ⟨fun a o h z => ?_, Sub.refl _, fun a h1 h2 h3 => ⟨?_, h3⟩⟩⟩
  · have : a ≠ p := fun q => by subst q; rw [fp] at h; cases h
    rw [upd_ne this]; exact w.sub a o h
  · have := e a; have := le a; have := w.one a; simp only [ad_ap]; omega
  · refine w.off a fun q => z ?_
    have := e a; have := le a; simp only [ad_ap]; omega
  · by_cases q : a = p
    · subst q; rw [upd_same]; exact m
    · rw [upd_ne q]
      refine w.mu a fun q => z ?_
      have := e a; have := le a; simp only [ad_ap]; omega
  · have : a ≠ p := fun q => by subst q; exact hp z
    rw [upd_ne this]; exact h
  · have := e a; have := le a; simp only [ad_ap]; omega
theorem mtN_sp {r : V → List V → Hp → VK → Prop} {op : List D → List D → Option (D × List D)} {i : Nat} {ta : TA} {m : MA} (o : MuOk S.K r op) (q : SpA S W ta m) : SpE S W (tBM S.K "list" r (tVar i) ta) (rMtN op i m) := by
  intro σ F H T ρ Q w s k
  unfold rMtN at k
  cases e0 : gt ρ i with
  | none => rw [e0] at k; exact k.elim
  | some c0 =>
    rw [e0] at k
    have k : EndE S W σ F H T (if isL c0 = true then match m ρ with
      | .ok as ρ1 => match vals as with
        | some ds => match gt ρ1 i with
          | some c => match muD op c ds with
            | some z => .ok z.1 (ρ1.set i (some z.2))
            | none => .no
          | none => .no
        | none => .no
      | .ex e ρ1 => .ex e ρ1
      | .no => .no
    else .no) Q := k
    by_cases z0 : isL c0 = true
    · rw [if_pos z0] at k
      obtain ⟨xs0, rfl⟩ := isL_ok z0
      obtain ⟨v0, g0, x0, hv, o0, _, _⟩ := s.get (gt_some e0)
      obtain ⟨p, ws, g, rfl, hp, _, _⟩ := o0.lstAt
      refine ⟨_, hv, .inl ⟨rfl, ws, .of hp⟩, q σ F H T ρ _ w s ?_⟩
      cases e1 : m ρ with
      | no => rw [e1] at k; exact k
      | ex z ρ1 => rw [e1] at k; exact k
      | ok as ρ1 =>
        rw [e1] at k
        intro vs F1 H1 T1 C1 w1 s1 l1 o1
        have k : EndE S W σ F H T (match vals as with
        | some ds => match gt ρ1 i with
          | some c => match muD op c ds with
            | some z => .ok z.1 (ρ1.set i (some z.2))
            | none => .no
          | none => .no
        | none => .no) Q := k
        cases e2 : vals as with
        | none => rw [e2] at k; exact k.elim
        | some ds =>
          rw [e2] at k
          have k : EndE S W σ F H T (match gt ρ1 i with
          | some c => match muD op c ds with
            | some z => .ok z.1 (ρ1.set i (some z.2))
            | none => .no
          | none => .no) Q := k
          cases e3 : gt ρ1 i with
          | none => rw [e3] at k; exact k.elim
          | some c =>
            rw [e3] at k
            have k : EndE S W σ F H T (match muD op c ds with
            | some z => .ok z.1 (ρ1.set i (some z.2))
            | none => .no) Q := k
            cases e4 : muD op c ds with
            | none => rw [e4] at k; exact k.elim
            | some z =>
              obtain ⟨d, c'⟩ := z
              rw [e4] at k
              obtain ⟨v1, g1, x1, hv1, oc, lr, et⟩ := l1.get (gt_some e3)
              rw [hv] at hv1
              cases hv1
              have od := vals_ok o1 e2
              have hi : i < ρ1.length := (List.getElem?_eq_some_iff.mp (gt_some e3)).1
              refine o.at w1.sub (fun a h => w1.off a (by rw [ad_ap, et a, ad_ap]; omega)) (fun a => by have := w1.one a; rw [ad_ap, et a, ad_ap] at this; omega) e4 oc od fun p' u ws' C g' ep gp mm q1 q2 le => ?_
              cases ep
              obtain ⟨w3, s3⟩ := changed (R := x1) (G := ad g1 C1) (C := C) (G' := g') (p := p) (ob := .lst ws') w1 (fun a => by rw [ad_ap, ad_ap, et a, ad_ap]; omega) (by rw [ad_ap]; omega) trivial (fun a => by rw [ad_ap]; exact le a)
              have xp : x1 p = 0 := by
                have := w1.one p; rw [ad_ap, et p, ad_ap] at this; omega
              have l2 := (sls_up1 (ob := .lst ws') mm xp lr).put hi hv q2
              exact k u F1 _ (ad g' x1) C w3 (s1.trans w1 s3) l2 q1
    · rw [if_neg z0] at k; exact k.elim
/-- a place's method, the arguments looked at -/
def rMtV (op : List D → List D → Option (D × List D)) (i : Nat) (π : MP) (m : MVs) : ME := fun ρ => match π ρ with
  | some js => match getS ρ i js with
    | some c => match m ρ with
      | some ds => if noOwns ds = true then match muD op c ds with
          | some z => match setS ρ i js z.2 with
            | some ρ1 => .ok z.1 ρ1
            | none => .no
          | none => .no
        else .no
      | none => .no
    | none => .no
  | none => .no
theorem VwOk.ows {E : HE} {T : Fp} : ∀ {ds : List D} {vs : List V}, noOwns ds = true → VwOk E T ds vs → Ows E ds vs zf
  | [], vs, n, h => ⟨h, .rfl'⟩
  | d :: ds, vs, n, h => by
    have n : (noOwn d && noOwns ds) = true := n
    rw [Bool.and_eq_true] at n
    obtain ⟨v, r, f, rfl, o, l, h⟩ := h
    exact ⟨v, r, zf, zf, rfl, o.eqf (Ow.no n.1 o).symm, VwOk.ows n.2 h, .rfl'⟩
theorem muD_isL {op : List D → List D → Option (D × List D)} {c : D} {ds : List D} {z : D × D} (h : muD op c ds = some z) : isL c = true := by
  unfold muD at h
  split at h
  · rfl
  · cases h
theorem mtV_sp {r : V → List V → Hp → VK → Prop} {op : List D → List D → Option (D × List D)} {i : Nat} {π : MP} {to : TE} {ta : TA} {m : MVs} (o : MuOk S.K r op) (qo : SpP S i to π) (q : SpVA S ta m) : SpE S W (tBM S.K "list" r to ta) (rMtV op i π m) := by
  intro σ F H T ρ Q w s k
  unfold rMtV at k
  cases e0 : π ρ with
  | none => rw [e0] at k; exact k.elim
  | some js =>
    rw [e0] at k
    cases e1 : getS ρ i js with
    | none => simp only [e1] at k; exact k.elim
    | some c =>
      cases e2 : m ρ with
      | none => simp only [e1, e2] at k; exact k.elim
      | some ds =>
        simp only [e1, e2] at k
        by_cases n : noOwns ds = true
        · rw [if_pos n] at k
          cases e3 : muD op c ds with
          | none => rw [e3] at k; exact k.elim
          | some z =>
            obtain ⟨d, c'⟩ := z
            rw [e3] at k
            have k : EndE S W σ F H T (match setS ρ i js c' with
            | some ρ1 => .ok d ρ1
            | none => .no) Q := k
            cases e4 : setS ρ i js c' with
            | none => rw [e4] at k; exact k.elim
            | some ρ1 =>
              rw [e4] at k
              obtain ⟨d0, f1, f2⟩ := Option.bind_eq_some_iff.mp e1
              obtain ⟨d1, f3, f4⟩ := Option.bind_eq_some_iff.mp e4
              rw [f1] at f3
              cases f3
              obtain ⟨d', f5, f6⟩ := Option.map_eq_some_iff.mp f4
              subst f6
              refine qo σ F H T ρ js c _ w s e0 e1 fun v u hv hu => ?_
              by_cases zf0 : noFz d0 js = true
              · rw [if_pos zf0] at f2
                obtain ⟨v0, g0, x0, h1, h2, lr, et⟩ := s.get (gt_some f1)
                rw [hv] at h1
                cases h1
                obtain ⟨u3, g3, r3, hu3, oc, eq, putk⟩ := Ow.put w.sub js h2 f2 f5
                rw [hu] at hu3
                cases hu3
                obtain ⟨xs0, rfl⟩ := isL_ok (muD_isL e3)
                obtain ⟨p, ws, g, rfl, hp, _, _⟩ := oc.lstAt
                refine ⟨.inl ⟨rfl, ws, .of hp⟩, q σ F H T ρ ds _ w s e2 fun vs ok => ?_⟩
                have hi : i < ρ.length := (List.getElem?_eq_some_iff.mp (gt_some f1)).1
                refine o.at w.sub (fun a h => w.off a (by rw [et a, ad_ap, eq a, ad_ap]; omega)) (fun a => by have := w.one a; rw [et a, ad_ap, eq a, ad_ap] at this; rw [zf_ap]; omega) e3 oc (ok.ows n) fun p' u ws' C g' ep gp mm q1 q2 le => ?_
                cases ep
                have le' : ∀ a, C a + g' a ≤ g3 a := fun a => le a
                obtain ⟨w3, s3⟩ := changed (R := ad r3 x0) (G := g3) (C := C) (G' := g') (p := p) (ob := .lst ws') w (fun a => by rw [ad_ap, et a, ad_ap, eq a, ad_ap]; omega) gp trivial le'
                have o1 := w.one p
                rw [et p, ad_ap, eq p, ad_ap] at o1
                have q3 := putk p (.lst ws') g' rfl mm gp (fun a => by have := w.one a; rw [et a, ad_ap] at this; omega) q2
                have l2 := (sls_up1 (ob := .lst ws') mm (by omega) lr).put hi hv q3
                have ee : Eqf (ad (ad (ad g' r3) x0) C) (ad (ad g' (ad r3 x0)) C) := fun a => by simp only [ad_ap]; omega
                exact k u F _ (ad (ad g' r3) x0) C (w3.eqf ee) (s3.eqf ee) l2 q1
              · rw [if_neg zf0] at f2; cases f2
        · rw [if_neg n] at k; exact k.elim
/-- no arguments -/
theorem mt0V_sp {r : V → List V → Hp → VK → Prop} {op : List D → List D → Option (D × List D)} {i : Nat} {π : MP} {to : TE} (o : MuOk S.K r op) (qo : SpP S i to π) : SpE S W (tBM0 S.K "list" r to) (rMtV op i π vNil) := by
  have h := mtV_sp (W := W) (ta := tNil) o qo (m := vNil) fun σ F H T ρ ds Q w s e k => by cases e; exact k [] rfl
  exact h
section
variable {id : String} {nm : Str} {r : V → List V → Hp → VK → Prop} {op : List D → List D → Option (D × List D)} {i : Nat} {π : MP} {oe e : Expr} {es : List Expr} {apos cpos : Pos} {x : Str} {px : Pos}
theorem E.mtN {m : MA} (slot : Slot "list" nm id) (hty : typeOf (.builtin id) = pure (.type "method_descriptor")) (hm : MtR X id r) (o : MuOk X.K r op) (hN : X.N[i]? = some x) (hv : Vis X.env.scope x) (ha : GA X cm W (e :: es) m) (hd : (x == ("__debug__" : Str)) = false := by decide) (hcd : (x == ("__classdict__" : Str)) = false := by decide)
    (hbase : attributeBase (.Name x px) nm X.env (eval (.Name x px) X.env) = eval (.Name x px) X.env := by rfl)
    (hfew : ((backTo cpos (starEach (e :: es) X.env)).all (fun x => !x.1) && (backToKw cpos (keywordEach [] X.env)).all (fun x => x.1.isSome)
      && decide ((e :: es).length + ([] : List Keyword).length + (if ([] : List Keyword).isEmpty then 0 else 1) < 30)) = true := by rfl)
    (hline : (apos.endLine == cpos.line) = true := by rfl) (hs : starEach (e :: es) X.env = (false, eval e X.env) :: starEach es X.env := by rfl) (hplain : (backTo cpos (starEach es X.env)).any (·.1) = false := by rfl) :
    GE X cm W (.Call (.Attribute (.Name x px) nm apos) (e :: es) [] cpos) (rMtN op i m) := by
  obtain ⟨t, pa, q, _⟩ := ha
  exact ⟨_, pe_bm PySem.F.plainAttrs_list slot hty hm (pe_var hN hv hd hcd) pa hbase hfew hline hs hplain, mtN_sp o q⟩
theorem E.mtV {m : MVs} (slot : Slot "list" nm id) (hty : typeOf (.builtin id) = pure (.type "method_descriptor")) (hm : MtR X id r) (o : MuOk X.K r op) (ho : GP X cm oe i π) (ha : GVA X cm (e :: es) m)
    (hbase : attributeBase oe nm X.env (eval oe X.env) = eval oe X.env := by rfl)
    (hfew : ((backTo cpos (starEach (e :: es) X.env)).all (fun x => !x.1) && (backToKw cpos (keywordEach [] X.env)).all (fun x => x.1.isSome)
      && decide ((e :: es).length + ([] : List Keyword).length + (if ([] : List Keyword).isEmpty then 0 else 1) < 30)) = true := by rfl)
    (hline : (apos.endLine == cpos.line) = true := by rfl) (hs : starEach (e :: es) X.env = (false, eval e X.env) :: starEach es X.env := by rfl) (hplain : (backTo cpos (starEach es X.env)).any (·.1) = false := by rfl) :
    GE X cm W (.Call (.Attribute oe nm apos) (e :: es) [] cpos) (rMtV op i π m) := by
  obtain ⟨t, pa, q⟩ := ha
  obtain ⟨to, po, qo⟩ := ho
  exact ⟨_, pe_bm PySem.F.plainAttrs_list slot hty hm po pa hbase hfew hline hs hplain, mtV_sp o qo q⟩
theorem E.mt0 (slot : Slot "list" nm id) (hty : typeOf (.builtin id) = pure (.type "method_descriptor")) (hm : MtR X id r) (o : MuOk X.K r op) (ho : GP X cm oe i π)
    (hbase : attributeBase oe nm X.env (eval oe X.env) = eval oe X.env := by rfl) (hline : (apos.endLine == cpos.line) = true := by rfl) :
    GE X cm W (.Call (.Attribute oe nm apos) [] [] cpos) (rMtV op i π vNil) := by
  obtain ⟨to, po, qo⟩ := ho
  exact ⟨_, pe_bm0 PySem.F.plainAttrs_list slot hty hm po hbase hline, mt0V_sp o qo⟩
end
/-! the changes -/
def uApp (xs ds : List D) : Option (D × List D) := match ds with
  | [d] => if decide (xs.length < sizeLine) = true then some (.non, xs ++ [d]) else none
  | _ => none
theorem Ows.one {E : HE} {d : D} {vs : List V} {h : Fp} (o : Ows E [d] vs h) : ∃ v, vs = [v] ∧ Ow E d v h := by
  obtain ⟨v, r, g, x, rfl, o1, ⟨rfl, ex⟩, eq⟩ := o
  exact ⟨v, rfl, o1.eqf fun a => by rw [eq a, ad_ap, ex a]; rfl⟩
theorem Ows.mk1 {E : HE} {d : D} {v : V} {h : Fp} (o : Ow E d v h) : Ows E [d] [v] h := ⟨v, [], h, zf, rfl, o, ⟨rfl, .rfl'⟩, fun a => rfl⟩
theorem u_app : MuOk K rAppend uApp := by
  intro cm F H p xs ws ds vs g h d xs' Q hs e hp hw hd k
  unfold uApp at e
  split at e
  · by_cases z : decide (xs.length < sizeLine) = true
    · rw [if_pos z] at e
      cases e
      obtain ⟨v, rfl, o⟩ := hd.one
      exact ⟨p, ws, v, rfl, rfl, hp, by rw [← hw.len]; exact of_decide_eq_true z, k .non (ws ++ [v]) zf (ad g h) ⟨rfl, .rfl'⟩ (hw.app (.mk1 o)) fun a => by rw [zf_ap, ad_ap]; omega⟩
    · rw [if_neg z] at e; cases e
  · cases e
def uPop (xs ds : List D) : Option (D × List D) := match ds with
  | [] => (xs[xs.length - 1]?).map fun y => (y, xs.dropLast)
  | _ => none
theorem u_pop : MuOk K rPop uPop := by
  intro cm F H p xs ws ds vs g h d xs' Q hs e hp hw hd k
  unfold uPop at e
  split at e
  · obtain ⟨y, e1, e2⟩ := Option.map_eq_some_iff.mp e
    cases e2
    obtain ⟨rfl, _⟩ := hd
    obtain ⟨w, g1, r1, h1, h2, h3, h4⟩ := hw.out e1
    have dl : ∀ {α : Type} (l : List α), l.eraseIdx (l.length - 1) = l.dropLast := fun l => List.eraseIdx_length_sub_one
    rw [dl, hw.len, dl] at h3
    exact ⟨p, ws, w, rfl, rfl, hp, by rw [← hw.len]; exact h1, k w ws.dropLast g1 r1 h2 h3 fun a => by rw [h4 a, ad_ap]; omega⟩
  · cases e
def uPopAt (xs ds : List D) : Option (D × List D) := match ds with
  | [.int i] => if (decide (-(2 ^ 63) ≤ i) && decide (i < 2 ^ 63)) = true then (seqIndex? i xs.length).bind fun j => (xs[j]?).map fun y => (y, xs.eraseIdx j) else none
  | _ => none
theorem u_popAt : MuOk K rPopAt uPopAt := by
  intro cm F H p xs ws ds vs g h d xs' Q hs e hp hw hd k
  unfold uPopAt at e
  split at e
  · rename_i i
    by_cases z : (decide (-(2 ^ 63) ≤ i) && decide (i < 2 ^ 63)) = true
    · rw [if_pos z] at e
      simp only [Bool.and_eq_true, decide_eq_true_eq] at z
      obtain ⟨j, e1, e2⟩ := Option.bind_eq_some_iff.mp e
      obtain ⟨y, e3, e4⟩ := Option.map_eq_some_iff.mp e2
      cases e4
      obtain ⟨v, rfl, o⟩ := hd.one
      have := o.1
      subst this
      obtain ⟨w, g1, r1, h1, h2, h3, h4⟩ := hw.out e3
      exact ⟨p, ws, i, j, w, rfl, rfl, hp, z.1, z.2, by rw [← hw.len]; exact e1, h1, k w (ws.eraseIdx j) g1 r1 h2 h3 fun a => by rw [h4 a, ad_ap]; omega⟩
    · rw [if_neg z] at e; cases e
  · cases e
def uClr (xs ds : List D) : Option (D × List D) := match ds with
  | [] => some (.non, [])
  | _ => none
theorem u_clr : MuOk K rClear uClr := by
  intro cm F H p xs ws ds vs g h d xs' Q hs e hp hw hd k
  unfold uClr at e
  split at e
  · cases e
    obtain ⟨rfl, _⟩ := hd
    exact ⟨p, ws, rfl, rfl, hp, k .non [] zf zf ⟨rfl, .rfl'⟩ ⟨rfl, .rfl'⟩ fun a => Nat.zero_le _⟩
  · cases e
theorem Ows.rev {E : HE} : ∀ {ds : List D} {vs : List V} {f : Fp}, Ows E ds vs f → Ows E ds.reverse vs.reverse f
  | [], vs, f, h => by
    obtain ⟨rfl, e⟩ := h
    exact ⟨rfl, e⟩
  | d :: ds, vs, f, h => by
    obtain ⟨w, r, g, x, rfl, o1, o2, e⟩ := h
    rw [List.reverse_cons, List.reverse_cons]
    exact ((Ows.rev o2).app (.mk1 o1)).eqf fun a => by rw [e a]; simp only [ad_ap]; omega
def uRev (xs ds : List D) : Option (D × List D) := match ds with
  | [] => some (.non, xs.reverse)
  | _ => none
theorem u_rev : MuOk K rReverse uRev := by
  intro cm F H p xs ws ds vs g h d xs' Q hs e hp hw hd k
  unfold uRev at e
  split at e
  · cases e
    obtain ⟨rfl, _⟩ := hd
    exact ⟨p, ws, rfl, rfl, hp, k .non ws.reverse zf g ⟨rfl, .rfl'⟩ hw.rev fun a => by rw [zf_ap]; omega⟩
  · cases e
def uExt (xs ds : List D) : Option (D × List D) := match ds with
  | [.nd .lst _ ys] => if decide (xs.length + ys.length ≤ sizeLine) = true then some (.non, xs ++ ys) else none
  | _ => none
theorem u_ext : MuOk K rExtend uExt := by
  intro cm F H p xs ws ds vs g h d xs' Q hs e hp hw hd k
  unfold uExt at e
  split at e
  · rename_i o ys
    by_cases z : decide (xs.length + ys.length ≤ sizeLine) = true
    · rw [if_pos z] at e
      cases e
      obtain ⟨v, rfl, o⟩ := hd.one
      obtain ⟨q, us, gg, rfl, hu, hn⟩ := o
      have le := hn.le
      exact ⟨p, q, ws, us, rfl, rfl, hp, hn.lstH hs, by rw [← hw.len, ← hu.len]; exact of_decide_eq_true z, k .non (ws ++ us) zf (ad g gg) ⟨rfl, .rfl'⟩ (hw.app hu) fun a => by have := le a; rw [zf_ap, ad_ap]; omega⟩
    · rw [if_neg z] at e; cases e
  · cases e
def uIns (xs ds : List D) : Option (D × List D) := match ds with
  | [.int i, d] => if (decide (0 ≤ i) && decide (i < 2 ^ 63) && decide (xs.length < sizeLine)) = true then some (.non, xs.take i.toNat ++ [d] ++ xs.drop i.toNat) else none
  | _ => none
theorem Ows.cut {E : HE} : ∀ {ds : List D} {vs : List V} {f : Fp} (n : Nat), Ows E ds vs f → ∃ g h, Ows E (ds.take n) (vs.take n) g ∧ Ows E (ds.drop n) (vs.drop n) h ∧ Eqf f (ad g h)
  | ds, vs, f, 0, o => ⟨zf, f, ⟨rfl, .rfl'⟩, o, fun a => (Nat.zero_add _).symm⟩
  | [], vs, f, n + 1, o => by
    obtain ⟨rfl, e⟩ := o
    exact ⟨zf, zf, ⟨rfl, .rfl'⟩, ⟨rfl, .rfl'⟩, fun a => by rw [e a]; rfl⟩
  | d :: ds, vs, f, n + 1, o => by
    obtain ⟨w, r, g, x, rfl, o1, o2, e⟩ := o
    obtain ⟨g2, h2, k1, k2, k3⟩ := Ows.cut n o2
    exact ⟨ad g g2, h2, ⟨w, _, g, g2, rfl, o1, k1, .rfl'⟩, k2, fun a => by rw [e a]; simp only [ad_ap]; rw [k3 a, ad_ap]; omega⟩
theorem u_ins : MuOk K (fun x vs H Q => ∃ (l : Addr) (xs : List V) (i : Int) (y : V), x = .ref l ∧ vs = [.int i, y] ∧ H l = some (.lst xs) ∧ xs.length < sizeLine ∧ 0 ≤ i ∧ i < 2 ^ 63 ∧
    Q .non (upd H l (.lst (xs.take i.toNat ++ [y] ++ xs.drop i.toNat)))) uIns := by
  intro cm F H p xs ws ds vs g h d xs' Q hs e hp hw hd k
  unfold uIns at e
  split at e
  · rename_i i dd
    by_cases z : (decide (0 ≤ i) && decide (i < 2 ^ 63) && decide (xs.length < sizeLine)) = true
    · rw [if_pos z] at e
      cases e
      simp only [Bool.and_eq_true, decide_eq_true_eq] at z
      obtain ⟨v, r, f1, f2, rfl, o1, o2, eq⟩ := hd
      obtain ⟨y, rfl, oy⟩ := o2.one
      have := o1.1
      subst this
      obtain ⟨g2, h2, k1, k2, k3⟩ := hw.cut i.toNat
      exact ⟨p, ws, i, y, rfl, rfl, hp, by rw [← hw.len]; exact z.2, z.1.1, z.1.2, k .non _ zf (ad (ad g2 f2) h2) ⟨rfl, .rfl'⟩ ((k1.app (.mk1 oy)).app k2) fun a => by
        rw [eq a, k3 a]; simp only [ad_ap, zf_ap]; omega⟩
    · rw [if_neg z] at e; cases e
  · cases e
end
end DL
namespace DL
open PySem L2 PyProof.Rows
section
variable {X : Cx} {cm : Str → Option Addr} {W : WX} {S : Sc} {pos : Pos} {K : PySem.W.Frag} {wr : Nat → Bool}
/-- an own list within slot i gets other contents -/
theorem chg {F H : Hp} {T C : Fp} {ρ ρ1 : Env} {σ : L2.St} {i : Nat} {js : List Nat} {xs xs' : List D} {v u : V} (w : Wd F H (ad T C)) (s : Sls ⟨K, cm, F, H⟩ ρ σ T) (e1 : getS ρ i js = some (.nd .lst true xs)) (e2 : setS ρ i js (.nd .lst true xs') = some ρ1) (hv : σ[i]? = some (some v)) (hu : vPath H v js = some u) :
    ∃ p ws g, u = .ref p ∧ H p = some (.lst ws) ∧ Ows ⟨K, cm, F, H⟩ xs ws g ∧ ∀ ws' g' C', Ows ⟨K, cm, F, H⟩ xs' ws' g' → (∀ a, C' a + g' a ≤ g a + C a) → ∃ T', Wd F (upd H p (.lst ws')) (ad T' C') ∧ Stp F H (ad T C) F (upd H p (.lst ws')) (ad T' C') ∧ Sls ⟨K, cm, F, upd H p (.lst ws')⟩ ρ1 σ T' ∧
      ∀ d v, Ow ⟨K, cm, F, H⟩ d v C' → Ow ⟨K, cm, F, upd H p (.lst ws')⟩ d v C' := by
  obtain ⟨d0, f1, f2⟩ := Option.bind_eq_some_iff.mp e1
  obtain ⟨d1, f3, f4⟩ := Option.bind_eq_some_iff.mp e2
  rw [f1] at f3
  cases f3
  obtain ⟨d', f5, f6⟩ := Option.map_eq_some_iff.mp f4
  subst f6
  by_cases zz : noFz d0 js = true
  · rw [if_pos zz] at f2
    obtain ⟨v0, g0, x0, h1, h2, lr, et⟩ := s.get (gt_some f1)
    rw [hv] at h1
    cases h1
    have sb : Sub F H := w.sub
    obtain ⟨u3, g3, r3, hu3, oc, eq, putk⟩ := Ow.put sb js h2 f2 f5
    rw [hu] at hu3
    cases hu3
    obtain ⟨p, ws, g, rfl, hp, hw, eg⟩ := oc.lstAt
    have hi : i < ρ.length := (List.getElem?_eq_some_iff.mp (gt_some f1)).1
    refine ⟨p, ws, g, rfl, hp, hw, fun ws' g' C' o' le => ?_⟩
    have tot : ∀ a, one p a + g a + r3 a + x0 a + C a ≤ 1 := fun a => by
      have := w.one a
      rw [ad_ap, et a, ad_ap, eq a, ad_ap, eg a, ad_ap] at this; omega
    have gp : g3 p ≠ 0 := by rw [eg p, ad_ap, one_self]; omega
    have mm : Mut (H p) := by rw [hp]; trivial
    have tp := tot p
    rw [one_self] at tp
    have lp := le p
    have q2 : Ow ⟨K, cm, F, upd H p (.lst ws')⟩ (.nd .lst true xs') (.ref p) (ad (one p) g') := ⟨p, ws', g', rfl, ows_up1 mm (by omega) o', .inr (.inl ⟨rfl, upd_same, .rfl'⟩)⟩
    have q3 := putk p (.lst ws') (ad (one p) g') rfl mm gp (fun a => by rw [eq a, ad_ap, eg a, ad_ap]; have := tot a; omega) q2
    have l2 := (sls_up1 (ob := .lst ws') mm (by omega) lr).put hi hv q3
    obtain ⟨w3, s3⟩ := changed (R := ad r3 x0) (G := ad g3 C) (C := C') (G' := ad (one p) g') (p := p) (ob := .lst ws') w (fun a => by simp only [ad_ap]; rw [et a, ad_ap, eq a, ad_ap]; omega) (by rw [ad_ap]; omega) trivial
      (fun a => by have := le a; simp only [ad_ap]; rw [eg a, ad_ap]; omega)
    have ee : Eqf (ad (ad (ad (ad (one p) g') r3) x0) C') (ad (ad (ad (one p) g') (ad r3 x0)) C') := fun a => by simp only [ad_ap]; omega
    exact ⟨_, w3.eqf ee, s3.eqf ee, l2, fun d v o => ow_up1 mm (by omega) o⟩
  · rw [if_neg zz] at f2; cases f2
def mSet (i : Nat) (π : MP) (g : MV) : MG := fun d ρ => match π ρ with
  | some js => match getS ρ i js with
    | some (.nd .lst true xs) => match g ρ with
      | some (.int n) => (ixN xs.length n).bind fun j => setS ρ i js (.nd .lst true (xs.set j d))
      | _ => none
    | _ => none
  | none => none
theorem mSet_some {i : Nat} {π : MP} {g : MV} {d : D} {ρ ρ' : Env} (h : mSet i π g d ρ = some ρ') : ∃ js xs n j, π ρ = some js ∧ getS ρ i js = some (.nd .lst true xs) ∧ g ρ = some (.int n) ∧ ixN xs.length n = some j ∧ setS ρ i js (.nd .lst true (xs.set j d)) = some ρ' := by
  unfold mSet at h
  split at h
  · split at h
    · split at h
      · obtain ⟨j, e1, e2⟩ := Option.bind_eq_some_iff.mp h
        exact ⟨_, _, _, j, ‹_›, ‹_›, ‹_›, e1, e2⟩
      · cases h
    · cases h
  · cases h
theorem ixN_lt {n j : Nat} {i : Int} (h : ixN n i = some j) : j < n := by
  have := ixN_seq h
  omega
theorem setL_sp {i : Nat} {π : MP} {g : MV} {to ti : TE} (qo : SpP S i to π) (qi : SpV S ti g) : SpG S w0 (gSub to ti rSetL) (mSet i π g) := by
  intro v σ F H T C ρ d ρ' Q w s o e k
  obtain ⟨js, xs, n, j, e1, e2, e3, e4, e5⟩ := mSet_some e
  refine qo σ F H T ρ js _ _ w.part s e1 e2 fun v0 u hv hu => ?_
  refine qi σ F H T ρ _ _ w.part s e3 fun y f2 o2 l2 => ?_
  obtain ⟨p, ws, gg, rfl, hp, hw, fin⟩ := chg w s e2 e5 hv hu
  have hj := ixN_lt e4
  obtain ⟨wj, g1, r1, h1, h2, h3, h4⟩ := hw.out (List.getElem?_eq_getElem hj)
  obtain ⟨T', w3, s3, l3, _⟩ := fin (ws.set j v) (ad C r1) zf (Ows.inn hj hw.len h3 o) (fun a => by rw [h4 a]; simp only [ad_ap, zf_ap]; omega)
  have ez : Eqf T' (ad T' zf) := fun a => rfl
  exact ⟨p, ws, n, j, rfl, o2.1, hp, by rw [← hw.len]; exact e4, k σ F _ T' .refl (w3.eqf ez) (s3.eqf ez) l3⟩
theorem G.set {o ix : Expr} {i : Nat} {π : MP} {g : MV} (ho : GP X cm o i π) (hi : GV X cm ix g)
    (ha : ∀ v, assign (.Subscript o ix pos) X.env v = (do let ov ← holding [v] (eval o X.env); let iv ← holding [v, ov] (eval ix X.env); standAt pos; holding [v, ov, iv] (setItem ov iv v); release [v, ov, iv] []) := by intros; rfl) : GG X cm w0 (.Subscript o ix pos) (mSet i π g) := by
  obtain ⟨to, p1, q1⟩ := ho
  obtain ⟨ti, p2, q2⟩ := hi
  exact ⟨_, pg_sub p1 p2 set_list ha, setL_sp q1 q2⟩
/-! ### op= -/
theorem get_list : PGet X (rIxL X.K) := by
  intro pins s σ H x y v u Q I rx ry h
  obtain ⟨p, xs, i, z, rfl, rfl, hq, he, q⟩ := h
  cases rx
  obtain ⟨t, rfl⟩ := ry
  obtain ⟨its, r, pl, hz⟩ := I.list hq
  obtain ⟨j, h1, h2, h3, h4, h5⟩ := L2.atI_get he
  obtain ⟨w, ew, rw'⟩ := r.get h2
  have hl := r.length
  have hn := line63
  have fin : EP X pins σ Q w s := ⟨z, H, I, rw', q⟩
  by_cases h0 : 0 ≤ i
  · have hj : i.toNat = j := by
      rw [seqIndex_of h0 h5] at h1
      exact Option.some.inj h1
    exact wpAny_getItem_list pl.isList h0 (by omega) (by rw [hj]; simpa using ew) fin
  · have hj : (i + (its.toArray.size : Int)).toNat = j := by
      rw [seqIndex_neg (by omega) h4] at h1
      rw [List.size_toArray, ← hl]
      exact Option.some.inj h1
    exact wpAny_getItem_list_neg pl.isList (by omega) (by rw [List.size_toArray] <;> omega) (by omega) (by rw [hj]; simpa using ew) fin
def mAugS (op : D → D → Option D) (i : Nat) (π : MP) (g f : MV) : MS := fun ρ => match vOp dIx (vP i π) g ρ with
  | some x => match f ρ with
    | some y => if noOwn x = true then match op x y with
        | some z => match mSet i π g z ρ with
          | some ρ1 => .nx ρ1
          | none => .no
        | none => .no
      else .no
    | none => .no
  | none => .no
theorem S.augS {oe ix e : Expr} {op : Operator} {r : TIp} {dop : D → D → Option D} {i : Nat} {π : MP} {g f : MV} {tpos : Pos} (hp : PIp X op r) (o : OpOk X.K r dop) (ho : GP X cm oe i π) (hi : GV X cm ix g) (he : GV X cm e f)
    (ha : ∀ ov iv new, augStore ix ov iv new = (do holding [new, ov, iv] (setItem ov iv new); release [new, ov, iv] []; pure .next) := by intros; rfl) : GS X cm W w0 (.AugAssign (.Subscript oe ix tpos) op e pos) (mAugS dop i π g f) := by
  have hV := P.vw ho
  obtain ⟨to, p1, q1⟩ := ho
  obtain ⟨ti, p2, q2⟩ := hi
  obtain ⟨te, p3, q3⟩ := he
  refine ⟨_, ps_augS p1 p2 get_list p3 hp set_list ha, fun σ F H T ρ D w s k => ?_⟩
  unfold mAugS at k
  cases e1 : vOp dIx (vP i π) g ρ with
  | none => rw [e1] at k; exact k.elim
  | some x =>
    cases e2 : f ρ with
    | none => simp only [e1, e2] at k; exact k.elim
    | some y =>
      simp only [e1, e2] at k
      by_cases n : noOwn x = true
      · rw [if_pos n] at k
        cases e3 : dop x y with
        | none => rw [e3] at k; exact k.elim
        | some z =>
          rw [e3] at k
          have k : EndS _ W w0 σ F H T (match mSet i π g z ρ with
          | some ρ1 => .nx ρ1
          | none => .no) D := k
          cases e4 : mSet i π g z ρ with
          | none => rw [e4] at k; exact k.elim
          | some ρ1 =>
            rw [e4] at k
            obtain ⟨js, xs, m, j, f1, f2, f3, f4, f5⟩ := mSet_some e4
            refine q1 σ F H T ρ js _ _ w s f1 f2 fun v0 u hv hu => ?_
            refine q2 σ F H T ρ _ _ w s f3 fun iv g2 o2 l2 => ?_
            obtain ⟨p, ws, gg, rfl, hp', hw, fin⟩ := chg w.z s f2 f5 hv hu
            have hj := ixN_lt f4
            obtain ⟨wj, g1, r1, h1, h2, h3, h4⟩ := hw.out (List.getElem?_eq_getElem hj)
            have ex : x = xs[j] := by
              unfold vOp vP at e1
              obtain ⟨c, a1, a2⟩ := Option.bind_eq_some_iff.mp e1
              obtain ⟨js2, a3, a4⟩ := Option.bind_eq_some_iff.mp a1
              rw [f1] at a3
              cases a3
              rw [f2] at a4
              cases a4
              rw [f3] at a2
              have a2 : L2.atI xs m = some x := a2
              obtain ⟨j', b1, b2⟩ := atI_get a2
              rw [f4] at b1
              cases b1
              rw [List.getElem?_eq_getElem hj] at b2
              exact (Option.some.inj b2).symm
            subst ex
            refine ⟨p, ws, m, wj, rfl, o2.1, .of hp', Option.bind_eq_some_iff.mpr ⟨j, by rw [← hw.len]; exact f4, h1⟩, ?_⟩
            refine q3 σ F H T ρ y _ w s e2 fun yv g3 o3 l3 => ?_
            refine o cm F H wj yv _ y z zf g3 _ w.sub (fun a q => absurd rfl q) (muOf w l3) e3 (h2.eqf (Ow.no n h2).symm) o3 fun zv oz => ?_
            have oz' : Ow ⟨X.K, cm, F, H⟩ z zv zf := oz
            obtain ⟨T', w3, s3, l3, _⟩ := fin (ws.set j zv) (ad zf r1) zf (Ows.inn hj hw.len h3 oz') (fun a => by rw [h4 a]; simp only [ad_ap, zf_ap]; omega)
            have ez : Eqf T' (ad T' zf) := fun a => rfl
            exact ⟨p, ws, m, j, rfl, o2.1, hp', by rw [← hw.len]; exact f4, k σ F _ T' .refl (w3.eqf ez) ((s3.eqf ez).eqfL fun a => rfl) l3⟩
      · rw [if_neg n] at k; exact k.elim
theorem S.aug {i : Nat} {x : Str} {e : Expr} {op : Operator} {r : TIp} {dop : D → D → Option D} {f : ME} {px : Pos} (hN : X.N.Nodup) (hi : X.N[i]? = some x) (hx : Loc X.env.scope x) (hp : PIp X op r) (o : OpG X.K r dop) (he : GE X cm W e f)
    (hf : X.fn x = true ∨ X.env.scope.names.lookup x = some .local := by first | exact .inl rfl | exact .inr rfl | assumption) : GS X cm W (w1 i) (.AugAssign (.Name x px) op e pos) (mAsg (rOpNE dop i f) (gN i)) := by
  obtain ⟨t, p, q⟩ := he
  exact ⟨_, ps_aug hN hi hx p hp hf, asg_sp (opGNE_sp o q) gName_sp⟩
/-! ### a, b = x, y -/
def mPar (is : List Nat) (m : MA) : MS := fun ρ => match m ρ with
  | .ok as ρ1 => match vals as with
    | some ds => .nx ((is.zip ds).foldl (fun r z => r.set z.1 (some z.2)) ρ1)
    | none => .no
  | .ex e ρ1 => .ex e ρ1
  | .no => .no
theorem S.par {i j : Nat} {x y : Str} {a b : Expr} {m : MA} {px py pt : Pos} {kt k2 pt2} (hc : X.calm = true) (hN : X.N.Nodup) (hi : X.N[i]? = some x) (hj : X.N[j]? = some y) (hij : i ≠ j)
    (hx : X.env.scope.names.lookup x = some .local) (hy : X.env.scope.names.lookup y = some .local) (ha : GA X cm W [a, b] m)
    (hw : swappedStores [.Tuple [.Name x px, .Name y py] kt pt] (.Tuple [a, b] k2 pt2) X.env = pure (some [x, y]))
    (hs : swapsWithSole [.Tuple [.Name x px, .Name y py] kt pt] (.Tuple [a, b] k2 pt2) pos.line X.env = pure false := by rfl) :
    GS X cm W (wo (w1 i) (w1 j)) (.Assign [.Tuple [.Name x px, .Name y py] kt pt] (.Tuple [a, b] k2 pt2) pos) (mPar [i, j] m) := by
  obtain ⟨t, pa, q, l⟩ := ha
  refine ⟨_, ps_par hc hN hi hj hij hx hy pa hw hs, fun σ F H T ρ D w s k => ?_⟩
  refine q σ F H T ρ _ w s ?_
  unfold mPar at k
  cases e : m ρ with
  | no => rw [e] at k; exact k
  | ex z ρ1 =>
    rw [e] at k
    exact fun c dd F1 H1 T1 x y w1 s1 l1 => k c dd σ F1 H1 T1 .refl x y w1 s1 l1
  | ok as ρ1 =>
    rw [e] at k
    intro vs F1 H1 T1 C1 w1' s1 l1 o1
    have k : EndS _ W _ σ F H T (match vals as with
    | some ds => .nx (([i, j].zip ds).foldl (fun r z => r.set z.1 (some z.2)) ρ1)
    | none => .no) D := k
    cases e2 : vals as with
    | none => rw [e2] at k; exact k.elim
    | some ds =>
      rw [e2] at k
      have od := vals_ok o1 e2
      have hl : ds.length = 2 := (vals_len e2).trans (l _ _ _ e)
      match ds, hl with
      | [d1, d2], _ =>
        obtain ⟨v, r, g1, g2, rfl, q1, q2, eq⟩ := od
        obtain ⟨u, rfl, q5⟩ := q2.one
        refine ⟨v, u, rfl, ?_⟩
        obtain ⟨T2, l2, le2⟩ := l1.setSome (i := i) q1
        obtain ⟨T3, l3, le3⟩ := l2.setSome (i := j) q5
        have le : ∀ a, T3 a ≤ ad T1 C1 a := fun a => by have := le2 a; have := le3 a; rw [ad_ap, eq a, ad_ap]; omega
        exact k _ F1 H1 T3 (NW.trans (NW.wl NW.set) (NW.wr NW.set)) (w1'.le le) (s1.leR le) l3
theorem S.par3 {i j n : Nat} {x y z : Str} {a b c : Expr} {m : MA} {px py pz pt : Pos} {kt k2 pt2} (hc : X.calm = true) (hN : X.N.Nodup) (hi : X.N[i]? = some x) (hj : X.N[j]? = some y) (hn : X.N[n]? = some z) (hij : i ≠ j) (hin : i ≠ n) (hjn : j ≠ n)
    (hx : X.env.scope.names.lookup x = some .local) (hy : X.env.scope.names.lookup y = some .local) (hz : X.env.scope.names.lookup z = some .local) (ha : GA X cm W [a, b, c] m)
    (hw : swappedStores [.Tuple [.Name x px, .Name y py, .Name z pz] kt pt] (.Tuple [a, b, c] k2 pt2) X.env = pure (some [x, y, z]))
    (hs : swapsWithSole [.Tuple [.Name x px, .Name y py, .Name z pz] kt pt] (.Tuple [a, b, c] k2 pt2) pos.line X.env = pure false := by rfl) :
    GS X cm W (wo (w1 i) (wo (w1 j) (w1 n))) (.Assign [.Tuple [.Name x px, .Name y py, .Name z pz] kt pt] (.Tuple [a, b, c] k2 pt2) pos) (mPar [i, j, n] m) := by
  obtain ⟨t, pa, q, l⟩ := ha
  refine ⟨_, ps_par3 hc hN hi hj hn hij hin hjn hx hy hz pa hw hs, fun σ F H T ρ D w s k => ?_⟩
  refine q σ F H T ρ _ w s ?_
  unfold mPar at k
  cases e : m ρ with
  | no => rw [e] at k; exact k
  | ex z ρ1 =>
    rw [e] at k
    exact fun c dd F1 H1 T1 x y w1 s1 l1 => k c dd σ F1 H1 T1 .refl x y w1 s1 l1
  | ok as ρ1 =>
    rw [e] at k
    intro vs F1 H1 T1 C1 w1' s1 l1 o1
    have k : EndS _ W _ σ F H T (match vals as with
    | some ds => .nx (([i, j, n].zip ds).foldl (fun r z => r.set z.1 (some z.2)) ρ1)
    | none => .no) D := k
    cases e2 : vals as with
    | none => rw [e2] at k; exact k.elim
    | some ds =>
      rw [e2] at k
      have od := vals_ok o1 e2
      have hl : ds.length = 3 := (vals_len e2).trans (l _ _ _ e)
      match ds, hl with
      | [d1, d2, d3], _ =>
        obtain ⟨v, r, g1, g2, rfl, q1, q2, eq⟩ := od
        obtain ⟨v2, r2, g3, g4, rfl, q3, q4, eq2⟩ := q2
        obtain ⟨u, rfl, q5⟩ := q4.one
        refine ⟨v, v2, u, rfl, ?_⟩
        obtain ⟨T2, l2, le2⟩ := l1.setSome (i := i) q1
        obtain ⟨T3, l3, le3⟩ := l2.setSome (i := j) q3
        obtain ⟨T4, l4, le4⟩ := l3.setSome (i := n) q5
        have le : ∀ a, T4 a ≤ ad T1 C1 a := fun a => by have := le2 a; have := le3 a; have := le4 a; rw [ad_ap, eq a, ad_ap, eq2 a, ad_ap]; omega
        exact k _ F1 H1 T4 (NW.trans (NW.wl NW.set) (NW.wr (NW.trans (NW.wl NW.set) (NW.wr NW.set)))) (w1'.le le) (s1.leR le) l4
end
end DL
namespace DL
open PySem L2 PyProof.Rows RZ
/-! ### what is frozen needs no heap -/
section
variable {K : PySem.W.Frag} {cm : Str → Option Addr} {F F' H H' : Hp}
mutual
theorem Ow.fz (hf : Sub F F') : ∀ (d : D) {v : V} {f : Fp}, noOwn d = true → Ow ⟨K, cm, F, H⟩ d v f → Ow ⟨K, cm, F', H'⟩ d v zf
  | .non, _, _, _, h => ⟨h.1, .rfl'⟩
  | .bl _, _, _, _, h => ⟨h.1, .rfl'⟩
  | .int _, _, _, _, h => ⟨h.1, .rfl'⟩
  | .str _, _, _, _, h => ⟨h.1, .rfl'⟩
  | .nd k o xs, v, f, n, h => by
    obtain ⟨p, ws, g, rfl, hs, hn⟩ := h
    have n' : (!o && noOwns xs) = true := n
    rw [Bool.and_eq_true] at n'
    refine ⟨p, ws, zf, rfl, Ows.fz hf xs n'.2 hs, ?_⟩
    rcases hn with ⟨h1, h2, h3, h4⟩ | ⟨h1, h2, h4⟩ | ⟨h1, h2, h3, h4⟩
    · exact .inl ⟨h1, h2, hf _ _ h3, .rfl'⟩
    · rw [h1] at n'; cases n'.1
    · exact .inr (.inr ⟨h1, AtF.mono hf h2, .rfl', .rfl'⟩)
theorem Ows.fz (hf : Sub F F') : ∀ (ds : List D) {vs : List V} {f : Fp}, noOwns ds = true → Ows ⟨K, cm, F, H⟩ ds vs f → Ows ⟨K, cm, F', H'⟩ ds vs zf
  | [], _, _, _, h => ⟨h.1, .rfl'⟩
  | d :: ds, _, _, n, h => by
    have n' : (noOwn d && noOwns ds) = true := n
    rw [Bool.and_eq_true] at n'
    obtain ⟨w, r, g, x, rfl, h1, h2, e⟩ := h
    exact ⟨w, r, zf, zf, rfl, Ow.fz hf d n'.1 h1, Ows.fz hf ds n'.2 h2, .rfl'⟩
end
end
/-- lists and tuples that are walked -/
def sqK : Nd → Bool
  | .lst => true
  | .fzl => true
  | .tup => true
  | _ => false
def SqA (K : PySem.W.Frag) (H : Hp) (k : Nd) (a : Addr) (ws : List V) : Prop := match k with
  | .tup => SqT K H a ws
  | _ => SqL K H a ws
theorem Sub.sqA {K : PySem.W.Frag} {F F' : Hp} {k : Nd} {a : Addr} {ws : List V} (e : Sub F F') (h : SqA K F k a ws) : SqA K F' k a ws := by
  cases k <;> first | exact e.sqT h | exact e.sqL h
/-- a passing thing stands from now on -/
theorem still {K : PySem.W.Frag} {cm : Str → Option Addr} {F H : Hp} {T C : Fp} {k : Nd} {o : Bool} {xs : List D} {v : V} (w : Wd F H (ad T C)) (h : Ow ⟨K, cm, F, H⟩ (.nd k o xs) v C) (hk : sqK k = true) (n : noOwns xs = true) :
    ∃ F' a ws, Wd F' H T ∧ Stp F H (ad T C) F' H T ∧ Sub F F' ∧ v = .ref a ∧ SqA K F' k a ws ∧ Ows ⟨K, cm, F', H⟩ xs ws zf := by
  obtain ⟨p, ws, g, rfl, hw, hn⟩ := h
  have ez := Ows.no n hw
  rcases hn with ⟨rfl, h2, h3, h4⟩ | ⟨rfl, h2, h4⟩ | ⟨h1, h2, h3, h4⟩
  · have e : Eqf C zf := h4.trans ez
    exact ⟨F, p, ws, w.part, Stp.le fun a => by rw [ad_ap]; omega, Sub.refl _, rfl, SqT.of h3, hw.eqf ez.symm⟩
  · have e : Eqf C (one p) := fun a => by rw [h4 a, ad_ap, ez a]; rfl
    cases k with
    | lst =>
      have hp : H p = some (.lst ws) := h2
      have t1 : T p = 0 := by
        have := w.one p; rw [ad_ap, e p, one_self] at this; omega
      have f0 : F p = none := w.off p (by rw [ad_ap, e p, one_self]; omega)
      have fs : Sub F (upd F p (.lst ws)) := fun a u h => by
        have : a ≠ p := fun q => by subst q; rw [f0] at h; cases h
        rw [upd_ne this]; exact h
      refine ⟨upd F p (.lst ws), p, ws, ⟨fun a u h => ?_, fun a => ?_, fun a z => ?_, fun a z => w.mu a (by rw [ad_ap]; omega)⟩, ⟨fun _ _ h _ => h, fs, fun a h1 h2 h3 => ?_⟩, fs, rfl, SqL.of upd_same, ows_sub fs (hw.eqf ez.symm)⟩
      · by_cases q : a = p
        · subst q; rw [upd_same] at h; rw [hp]; exact h
        · rw [upd_ne q] at h; exact w.sub a u h
      · have := w.one a; rw [ad_ap] at this; omega
      · have : a ≠ p := fun q => by subst q; exact z t1
        rw [upd_ne this]; exact w.off a (by rw [ad_ap]; omega)
      · rw [ad_ap, e a] at h2
        have : a ≠ p := fun q => by subst q; rw [one_self] at h2; omega
        rw [upd_ne this]
        exact ⟨by omega, h3⟩
    | fzl => exact h2.elim
    | tup => exact h2.elim
    | _ => cases hk
  · refine ⟨F, p, ws, w.part, Stp.le fun a => by rw [ad_ap]; omega, Sub.refl _, rfl, ?_, hw.eqf h3.symm⟩
    cases k with
    | lst => exact SqL.of h2
    | fzl => exact h2
    | tup => exact h2.elim
    | _ => cases hk
section
variable {X : Cx} {cm : Str → Option Addr} {W : WX} {S : Sc} {pos : Pos} {wr : Nat → Bool} {tg : Expr}
def ItA (K : PySem.W.Frag) (k : Nd) (a : Addr) : It := match k with
  | .tup => Itt K a
  | _ => Itl K a
theorem itA {F H : Hp} {k : Nd} {a : Addr} {ws : List V} {ds : List D} (h : SqA S.K F k a ws) (n : noOwns ds = true) (o : Ows (S.at F H) ds ws zf) : Itok S (ItA S.K k a) F ds := by
  intro i F' H' h1 h2
  have sq : SqA S.K H' k a ws := (h1.trans h2).sqA h
  have ow : Ows (S.at F' H') ds ws zf := Ows.fz h1 ds n o
  refine ⟨fun d e => ?_, fun le => ?_⟩
  · obtain ⟨v, g, e2, o2, lz⟩ := ow.get e
    have oz : Ow (S.at F' H') d v zf := o2.eqf fun x => by have := lz x; rw [zf_ap] at this ⊢; omega
    cases k with
    | tup => exact ⟨⟨ws, v, sq, e2⟩, fun x H'' y => by
        obtain ⟨rfl, y⟩ := y
        have := y ws sq
        rw [e2] at this
        cases this
        exact ⟨F', Sub.refl _, h2, Sub.refl _, fun _ _ => rfl, oz⟩⟩
    | _ => exact ⟨⟨ws, v, sq, e2⟩, fun x H'' y => by
        obtain ⟨rfl, y⟩ := y
        have := y ws sq
        rw [e2] at this
        cases this
        exact ⟨F', Sub.refl _, h2, Sub.refl _, fun _ _ => rfl, oz⟩⟩
  · have l := o.len
    cases k with
    | tup => exact ⟨ws, sq, by omega⟩
    | _ => exact ⟨ws, sq, by omega⟩
def iE (f : ME) : MI := fun ρ => match f ρ with
  | .ok (.nd k _ xs) ρ1 => if (sqK k && noOwns xs) = true then some (xs, ρ1) else none
  | _ => none
def iSq (K : PySem.W.Frag) (tl : TE) : TI := fun σ H R => tl σ H fun x H1 => ∃ a k, x = V.ref a ∧ sqK k = true ∧ (∃ us, SqA K H1 k a us) ∧ R (ItA K k a) H1
theorem pi_sq {l : Expr} {tl : TE} (h0 : PE X l tl) : PI X tg l (iSq X.K tl) := by
  constructor
  intro pins s σ H R J w0
  refine thn (h0.run pins s σ H _ J w0) ?_
  rintro v s1 ⟨x, H1, J1, r1, a, k, rfl, hk, ⟨us, hq⟩, q⟩
  cases r1
  have news : ∀ (ob : Obj), Inv X pins σ H1 { s1 with heap := s1.heap.push ob } := fun ob => J1.kept (t' := s1.toks) fun b o e => Heap.get?_push_of_some _ e
  have fp0 : ∀ b, b ∈ [s1.heap.objs.size] → FpOk X pins H1 b := by
    intro b hb
    obtain rfl : b = s1.heap.objs.size := by simpa using hb
    exact J1.fpOk (Nat.le_refl _) (J1.hok.fresh (Nat.le_refl _))
  have viaL : ∀ us, SqL X.K H1 a us → R (Itl X.K a) H1 → wpAny (model X.prog X.w) X.A (pyIter (.ref a)) (PIE X pins σ tg R) X.xe s1 := by
    intro us hq q
    obtain ⟨its, rv, p, _⟩ := J1.list hq
    exact wpAny_pyIter_list p.isList ⟨_, [s1.heap.objs.size], _, _, H1, rfl, news _, turn_list a _, ⟨_, Heap.get?_push_size _ rfl, rfl, rfl⟩, fp0, q⟩
  have viaT : ∀ us, SqT X.K H1 a us → R (Itt X.K a) H1 → wpAny (model X.prog X.w) X.A (pyIter (.ref a)) (PIE X pins σ tg R) X.xe s1 := by
    intro us hq q
    obtain ⟨its, rv, p, _⟩ := J1.tuple hq
    exact wpAny_pyIter_tuple (show s1.heap.IsTuple a its.toArray from p) ⟨_, [s1.heap.objs.size], _, _, H1, rfl, news _, turn_tuple a _, ⟨_, Heap.get?_push_size _ rfl, rfl, rfl⟩, fp0, q⟩
  cases k with
  | tup => exact viaT us hq q
  | lst => exact viaL us hq q
  | fzl => exact viaL us hq q
  | _ => cases hk
theorem sq_sp {tl : TE} {f : ME} (q : SpE S (fun _ _ _ _ => False) tl f) : SpI S (iSq S.K tl) (iE f) := by
  intro σ F H T ρ R ds ρ1 w s e k
  refine q σ F H T ρ _ w s ?_
  unfold iE at e
  cases e1 : f ρ with
  | no => rw [e1] at e; cases e
  | ex z ρ2 => rw [e1] at e; cases e
  | ok d ρ2 =>
    rw [e1] at e
    cases d with
    | nd kk oo xs =>
      have e : (if (sqK kk && noOwns xs) = true then some (xs, ρ2) else none) = some (ds, ρ1) := e
      by_cases z : (sqK kk && noOwns xs) = true
      · rw [if_pos z] at e
        cases e
        rw [Bool.and_eq_true] at z
        intro v F1 H1 T1 C w1 s1 l1 o
        obtain ⟨F2, a, ws, w2, s2, fs, rfl, sq, ow⟩ := still w1 o z.1 z.2
        exact ⟨a, kk, rfl, z.1, ⟨ws, w2.sub.sqA sq⟩, k _ F2 H1 T1 w2 (s1.trans w1 s2) (sls_sub fs l1) (itA sq z.2 ow)⟩
      · rw [if_neg z] at e; cases e
    | _ => cases e
theorem SpE.w0 {te : TE} {f : ME} (h : ∀ W, SpE S W te f) : SpE S (fun _ _ _ _ => False) te f := h _
/-- a walk over what an expression gives; nothing is raised there -/
theorem I.e {e : Expr} {f : ME} (h : GE X cm (fun _ _ _ _ => False) e f) : GI X cm tg e (iE f) := by
  obtain ⟨t, p, q⟩ := h
  exact ⟨_, pi_sq p, sq_sp q⟩
def iR1 (m : MA) : MI := fun ρ => match m ρ with
  | .ok as ρ1 => match vals as with
    | some [.int j] => if (decide (-(2 ^ 62) ≤ j) && decide (j < 2 ^ 62)) = true then some (rgD 0 j, ρ1) else none
    | _ => none
  | _ => none
def iR2 (m : MA) : MI := fun ρ => match m ρ with
  | .ok as ρ1 => match vals as with
    | some [.int i, .int j] => if (decide (-(2 ^ 62) ≤ i) && decide (i < 2 ^ 62) && (decide (-(2 ^ 62) ≤ j) && decide (j < 2 ^ 62))) = true then some (rgD i j, ρ1) else none
    | _ => none
  | _ => none
theorem itR {F : Hp} {i j : Int} : Itok S (Itr i (j - i).toNat) F (rgD i j) := by
  intro n F' H' h1 h2
  have len : (rgD i j).length = (j - i).toNat := by unfold rgD; rw [List.length_map, List.length_range]
  refine ⟨fun d e => ?_, fun le => by rw [len] at le; exact le⟩
  have hn : n < (j - i).toNat := by
    have := (List.getElem?_eq_some_iff.mp e).1
    rw [len] at this; exact this
  refine ⟨hn, fun x H'' y => ?_⟩
  obtain ⟨rfl, rfl⟩ := y
  have : d = .int (i + (n : Nat)) := by
    unfold rgD at e
    rw [List.getElem?_map, List.getElem?_range hn] at e
    exact (Option.some.inj e).symm
  subst this
  exact ⟨F', Sub.refl _, h2, Sub.refl _, fun _ _ => rfl, rfl, .rfl'⟩
theorem R1_sp {ta : TA} {m : MA} (q : SpA S (fun _ _ _ _ => False) ta m) : SpI S (iRng1 ta) (iR1 m) := by
  intro σ F H T ρ R ds ρ1 w s e k
  refine q σ F H T ρ _ w s ?_
  unfold iR1 at e
  cases e1 : m ρ with
  | no => rw [e1] at e; cases e
  | ex z ρ2 => rw [e1] at e; cases e
  | ok as ρ2 =>
    rw [e1] at e
    intro vs F1 H1 T1 C w1 s1 l1 o
    have e : (match vals as with
      | some [.int j] => if (decide (-(2 ^ 62) ≤ j) && decide (j < 2 ^ 62)) = true then some (rgD 0 j, ρ2) else none
      | _ => none) = some (ds, ρ1) := e
    split at e
    · rename_i j e2
      by_cases z : (decide (-(2 ^ 62) ≤ j) && decide (j < 2 ^ 62)) = true
      · rw [if_pos z] at e
        cases e
        simp only [Bool.and_eq_true, decide_eq_true_eq] at z
        obtain ⟨v, rfl, ov⟩ := (vals_ok o e2).one
        have hv := ov.1
        subst hv
        refine ⟨j, rfl, z.1, z.2, ?_⟩
        have := itR (S := S) (F := F1) (i := 0) (j := j)
        rw [Int.sub_zero] at this
        exact k _ F1 H1 T1 w1.part (s1.leR fun a => by rw [ad_ap]; omega) l1 this
      · rw [if_neg z] at e; cases e
    · cases e
theorem R2_sp {ta : TA} {m : MA} (q : SpA S (fun _ _ _ _ => False) ta m) : SpI S (iRng2 ta) (iR2 m) := by
  intro σ F H T ρ R ds ρ1 w s e k
  refine q σ F H T ρ _ w s ?_
  unfold iR2 at e
  cases e1 : m ρ with
  | no => rw [e1] at e; cases e
  | ex z ρ2 => rw [e1] at e; cases e
  | ok as ρ2 =>
    rw [e1] at e
    intro vs F1 H1 T1 C w1 s1 l1 o
    have e : (match vals as with
      | some [.int i, .int j] => if (decide (-(2 ^ 62) ≤ i) && decide (i < 2 ^ 62) && (decide (-(2 ^ 62) ≤ j) && decide (j < 2 ^ 62))) = true then some (rgD i j, ρ2) else none
      | _ => none) = some (ds, ρ1) := e
    split at e
    · rename_i i j e2
      by_cases z : (decide (-(2 ^ 62) ≤ i) && decide (i < 2 ^ 62) && (decide (-(2 ^ 62) ≤ j) && decide (j < 2 ^ 62))) = true
      · rw [if_pos z] at e
        cases e
        simp only [Bool.and_eq_true, decide_eq_true_eq] at z
        obtain ⟨v, r, g1, g2, rfl, o1, o2, _⟩ := vals_ok o e2
        obtain ⟨v2, rfl, ov⟩ := o2.one
        have hv := o1.1
        subst hv
        have hv := ov.1
        subst hv
        exact ⟨i, j, rfl, ⟨z.1.1, z.1.2, z.2.1, z.2.2⟩, k _ F1 H1 T1 w1.part (s1.leR fun a => by rw [ad_ap]; omega) l1 itR⟩
      · rw [if_neg z] at e; cases e
    · cases e
theorem I.range1 {a : Expr} {m : MA} {p : Pos} (hg : Gl X "range") (hm : X.mg "range" = none) (ha : GA X cm (fun _ _ _ _ => False) [a] m) (hs : starEach [a] X.env = [(false, eval a X.env)] := by rfl) : GI X cm tg (.Call (.Name "range" p) [a] [] pos) (iR1 m) := by
  obtain ⟨t, pa, q, _⟩ := ha
  exact ⟨_, pi_range1 hg hm pa hs, R1_sp q⟩
theorem I.range2 {a b : Expr} {m : MA} {p : Pos} (hg : Gl X "range") (hm : X.mg "range" = none) (ha : GA X cm (fun _ _ _ _ => False) [a, b] m) (hs : starEach [a, b] X.env = [(false, eval a X.env), (false, eval b X.env)] := by rfl) (hs2 : starEach [b] X.env = [(false, eval b X.env)] := by rfl) :
    GI X cm tg (.Call (.Name "range" p) [a, b] [] pos) (iR2 m) := by
  obtain ⟨t, pa, q, _⟩ := ha
  exact ⟨_, pi_range2 hg hm pa hs hs2, R2_sp q⟩
/-! zip of two frozen lists, of two frozen tuples -/
def iZ (m : MA) : MI := fun ρ => match m ρ with
  | .ok as ρ1 => match vals as with
    | some [.nd k false xs, .nd k' false ys] => if (sqK k && sqK k' && (decide (k = .tup) == decide (k' = .tup)) && noOwns xs && noOwns ys) = true then some (List.zipWith (fun x y => .nd .tup false [x, y]) xs ys, ρ1) else none
    | _ => none
  | _ => none
theorem frozenAt {K : PySem.W.Frag} {F H : Hp} {k : Nd} {xs : List D} {v : V} {f : Fp} (hk : sqK k = true) (n : noOwns xs = true) (h : Ow ⟨K, cm, F, H⟩ (.nd k false xs) v f) : ∃ a ws, v = .ref a ∧ SqA K F k a ws ∧ Ows ⟨K, cm, F, H⟩ xs ws zf := by
  obtain ⟨p, ws, g, rfl, hw, hn⟩ := h
  refine ⟨p, ws, rfl, ?_, hw.eqf (Ows.no n hw).symm⟩
  rcases hn with ⟨rfl, h2, h3, h4⟩ | ⟨h1, h2, h4⟩ | ⟨h1, h2, h3, h4⟩
  · exact SqT.of h3
  · cases h1
  · cases k with
    | lst => exact SqL.of h2
    | fzl => exact h2
    | tup => exact h2.elim
    | _ => cases hk
theorem itZ {F H : Hp} {J : It} {xs ys : List D} {ws us : List V} (nx : noOwns xs = true) (ny : noOwns ys = true) (ox : Ows (S.at F H) xs ws zf) (oy : Ows (S.at F H) ys us zf)
    (go : ∀ i F' H', Sub F F' → Sub F' H' → ∀ x y, ws[i]? = some x → us[i]? = some y → J.go i H' ∧ ∀ v H'', J.yld i H' v H'' → ∃ T, v = .ref T ∧ H' T = none ∧ H'' = upd H' T (.tup [x, y]))
    (stop : ∀ i F' H', Sub F F' → Sub F' H' → ws.length ≤ i ∨ us.length ≤ i → J.stop i H') : Itok S J F (List.zipWith (fun x y => .nd .tup false [x, y]) xs ys) := by
  intro i F' H' h1 h2
  have l1 := ox.len
  have l2 := oy.len
  refine ⟨fun d e => ?_, fun le => stop i F' H' h1 h2 ?_⟩
  · rw [List.getElem?_zipWith] at e
    cases e1 : xs[i]? with
    | none => rw [e1] at e; cases e
    | some x =>
      cases e2 : ys[i]? with
      | none => rw [e1, e2] at e; cases e
      | some y =>
        rw [e1, e2] at e
        cases e
        obtain ⟨v, g, k1, k2, k3⟩ := (Ows.fz (H' := H') h1 xs nx ox).get e1
        obtain ⟨u, g', m1, m2, m3⟩ := (Ows.fz (H' := H') h1 ys ny oy).get e2
        obtain ⟨g1, g2⟩ := go i F' H' h1 h2 v u k1 m1
        refine ⟨g1, fun z H'' yy => ?_⟩
        obtain ⟨t, rfl, ht, rfl⟩ := g2 z H'' yy
        have f0 : F' t = none := by
          cases q : F' t with
          | none => rfl
          | some o => rw [h2 t o q] at ht; cases ht
        have fs : Sub F' (upd F' t (.tup [v, u])) := fun a o h => by rw [upd_ne (ne_of_none h f0)]; exact h
        have ze : ∀ {g : Fp}, (∀ a, g a ≤ zf a) → Eqf zf g := fun l a => by have := l a; rw [zf_ap] at this ⊢; omega
        have ov : Ow (S.at F' H') x v zf := k2.eqf (ze k3)
        have ou : Ow (S.at F' H') y u zf := m2.eqf (ze m3)
        refine ⟨upd F' t (.tup [v, u]), fs, fun a o h => ?_, fun a o h => by rw [upd_ne (ne_of_none h ht)]; exact h, fun a h => ?_, t, [v, u], zf, rfl, ?_, .inl ⟨rfl, rfl, upd_same, .rfl'⟩⟩
        · by_cases q : a = t
          · subst q; rw [upd_same] at h ⊢; exact h
          · rw [upd_ne q] at h ⊢; exact h2 a o h
        · have : a ≠ t := fun q => by subst q; exact h ht
          rw [upd_ne this]
        · exact ⟨v, [u], zf, zf, rfl, ow_sub fs (ow_up ht ov), .mk1 (ow_sub fs (ow_up ht ou)), .rfl'⟩
  · rw [List.length_zipWith] at le
    omega
theorem Z_sp {ta : TA} {m : MA} (q : SpA S (fun _ _ _ _ => False) ta m) : SpI S (iZipA S.K ta) (iZ m) := by
  intro σ F H T ρ R ds ρ1 w s e k
  refine q σ F H T ρ _ w s ?_
  unfold iZ at e
  cases e1 : m ρ with
  | no => rw [e1] at e; cases e
  | ex z ρ2 => rw [e1] at e; cases e
  | ok as ρ2 =>
    rw [e1] at e
    intro vs F1 H1 T1 C w1 s1 l1 o
    have e : (match vals as with
      | some [.nd k false xs, .nd k' false ys] => if (sqK k && sqK k' && (decide (k = .tup) == decide (k' = .tup)) && noOwns xs && noOwns ys) = true then some (List.zipWith (fun x y => .nd .tup false [x, y]) xs ys, ρ2) else none
      | _ => none) = some (ds, ρ1) := e
    split at e
    · rename_i k1 xs k2 ys e2
      by_cases z : (sqK k1 && sqK k2 && (decide (k1 = .tup) == decide (k2 = .tup)) && noOwns xs && noOwns ys) = true
      · rw [if_pos z] at e
        cases e
        simp only [Bool.and_eq_true] at z
        obtain ⟨⟨⟨⟨z1, z2⟩, z3⟩, z4⟩, z5⟩ := z
        obtain ⟨v, r, g1, g2, rfl, o1, o2, _⟩ := vals_ok o e2
        obtain ⟨v2, rfl, ov⟩ := o2.one
        obtain ⟨a, ws, rfl, sa, oa⟩ := frozenAt z1 z4 o1
        obtain ⟨b, us, rfl, sb, ob⟩ := frozenAt z2 z5 ov
        have w2 := w1.part
        have s2 : Stp F H T F1 H1 T1 := s1.leR fun a => by rw [ad_ap]; omega
        refine ⟨a, b, ws, us, rfl, ?_⟩
        by_cases h : k1 = .tup
        · have h' : k2 = .tup := by
            rw [decide_eq_true h] at z3
            simpa using z3
          subst h
          subst h'
          refine .inr ⟨w2.sub.sqA (k := .tup) sa, w2.sub.sqA (k := .tup) sb, k _ F1 H1 T1 w2 s2 l1 (itZ z4 z5 oa ob (fun i F' H' h1 h2 x y ex ey => ?_) fun i F' H' h1 h2 le => ?_)⟩
          · have qa : SqT S.K H' a ws := (h1.trans h2).sqA (k := .tup) sa
            have qb : SqT S.K H' b us := (h1.trans h2).sqA (k := .tup) sb
            refine ⟨⟨ws, us, x, y, qa, qb, ex, ey⟩, ?_⟩
            rintro v H'' ⟨t, x', y', rfl, ht, rfl, hx, hy⟩
            have := hx ws qa
            rw [ex] at this
            cases this
            have := hy us qb
            rw [ey] at this
            cases this
            exact ⟨t, rfl, ht, rfl⟩
          · exact ⟨ws, us, (h1.trans h2).sqA (k := .tup) sa, (h1.trans h2).sqA (k := .tup) sb, le⟩
        · have h' : ¬ k2 = .tup := by
            rw [decide_eq_false h] at z3
            simpa using z3
          have la : ∀ {k : Nd} {H : Hp} {a : Addr} {ws : List V}, ¬ k = .tup → SqA S.K H k a ws → SqL S.K H a ws := fun {k} _ _ _ n q => by
            cases k <;> first | exact q | exact absurd rfl n
          have sa := la h sa
          have sb := la h' sb
          refine .inl ⟨w2.sub.sqL sa, w2.sub.sqL sb, k _ F1 H1 T1 w2 s2 l1 (itZ z4 z5 oa ob (fun i F' H' h1 h2 x y ex ey => ?_) fun i F' H' h1 h2 le => ?_)⟩
          · have qa : SqL S.K H' a ws := (h1.trans h2).sqL sa
            have qb : SqL S.K H' b us := (h1.trans h2).sqL sb
            refine ⟨⟨ws, us, x, y, qa, qb, ex, ey⟩, ?_⟩
            rintro v H'' ⟨t, x', y', rfl, ht, rfl, hx, hy⟩
            have := hx ws qa
            rw [ex] at this
            cases this
            have := hy us qb
            rw [ey] at this
            cases this
            exact ⟨t, rfl, ht, rfl⟩
          · exact ⟨ws, us, (h1.trans h2).sqL sa, (h1.trans h2).sqL sb, le⟩
      · rw [if_neg z] at e; cases e
    · cases e
theorem I.zip {a b : Expr} {m : MA} {p tpos : Pos} {elts : List Expr} {kk : Nat} (hg : Gl X "zip") (hm : X.mg "zip" = none) (ha : GA X cm (fun _ _ _ _ => False) [a, b] m)
    (hs : starEach [a, b] X.env = (false, eval a X.env) :: starEach [b] X.env := by rfl) (hpl : (backTo pos (starEach [b] X.env)).any (·.1) = false := by rfl) :
    GI X cm (.Tuple elts kk tpos) (.Call (.Name "zip" p) [a, b] [] pos) (iZ m) := by
  obtain ⟨t, pa, q, _⟩ := ha
  exact ⟨_, pi_zipA hg hm pa hs hpl, Z_sp q⟩
end
end DL
namespace DL
open PySem L2 PyProof.Rows RZ
/-! ### comprehensions -/
def W0 : WX := fun _ _ _ _ => False
section
variable {X : Cx} {cm : Str → Option Addr} {W : WX} {S : Sc} {pos : Pos} {wr : Nat → Bool}
/-- the widest reading by a meaning -/
def tSt (S : Sc) (f : ME) : TE := fun σ H Q => ∃ F T ρ, Wd F H T ∧ Sls (S.at F H) ρ σ T ∧ EndE S W0 σ F H T (f ρ) Q
def tStT (S : Sc) (f : ME) : TT := fun σ H Q => ∃ F T ρ, Wd F H T ∧ Sls (S.at F H) ρ σ T ∧ EndT S W0 σ F H T (f ρ) Q
def tStG (S : Sc) (wr : Nat → Bool) (m : MG) : TG := fun v σ H Q => ∃ F T C ρ d ρ', Wd F H (ad T C) ∧ Sls (S.at F H) ρ σ T ∧ Ow (S.at F H) d v C ∧ m d ρ = some ρ' ∧
  (∀ σ' F' H' T', NW wr σ σ' → Wd F' H' T' → Stp F H (ad T C) F' H' T' → Sls (S.at F' H') ρ' σ' T' → Q σ' H')
def tStI (S : Sc) (f : MI) : TI := fun σ H R => ∃ F T ρ ds ρ1, Wd F H T ∧ Sls (S.at F H) ρ σ T ∧ f ρ = some (ds, ρ1) ∧
  (∀ J F1 H1 T1, Wd F1 H1 T1 → Stp F H T F1 H1 T1 → Sls (S.at F1 H1) ρ1 σ T1 → Itok S J F1 ds → R J H1)
theorem GE.st {e : Expr} {f : ME} (h : GE X cm W0 e f) : PE X e (tSt ⟨X.K, cm⟩ f) := by
  obtain ⟨t, p, q⟩ := h
  exact ⟨fun pins s σ H Q I ⟨F, T, ρ, w, l, k⟩ => p.run pins s σ H Q I (q σ F H T ρ Q w l k)⟩
theorem GG.st {e : Expr} {m : MG} (h : GG X cm wr e m) : PG X e (tStG ⟨X.K, cm⟩ wr m) := by
  obtain ⟨t, p, q⟩ := h
  exact ⟨fun pins s σ H v u Q I r ⟨F, T, C, ρ, d, ρ', w, l, o, e, k⟩ => p.run pins s σ H v u Q I r (q v σ F H T C ρ d ρ' Q w l o e k)⟩
def GTs (X : Cx) (cm : Str → Option Addr) (W : WX) (es : List Expr) (f : ME) : Prop := ∃ t, PTs X es t ∧ SpT ⟨X.K, cm⟩ W t f
def rYes : ME := fun ρ => .ok (.bl true) ρ
theorem Ts.nil : GTs X cm W [] rYes := ⟨_, pts_nil, fun σ F H T ρ Q w s ⟨b, e, k⟩ => by
  cases e
  exact k F H T w .refl s⟩
theorem Ts.one {c : Expr} {f : ME} (h : GT X cm W c f) : GTs X cm W [c] f := by
  obtain ⟨t, p, q⟩ := h
  exact ⟨_, pts_one p, q⟩
theorem GTs.st {es : List Expr} {f : ME} (h : GTs X cm W0 es f) : PTs X es (tStT ⟨X.K, cm⟩ f) := by
  obtain ⟨t, p, q⟩ := h
  exact ⟨fun pins s σ H Q I ⟨F, T, ρ, w, l, k⟩ => p.run pins s σ H Q I (q σ F H T ρ Q w l k)⟩
/-! targets keep the number of slots -/
def LnG (m : MG) : Prop := ∀ d ρ ρ', m d ρ = some ρ' → ρ'.length = ρ.length
def LnGs (m : MGs) : Prop := ∀ d ρ ρ', m d ρ = some ρ' → ρ'.length = ρ.length
theorem LnG.name {i : Nat} : LnG (gN i) := fun d ρ ρ' e => by cases e; exact List.length_set ..
theorem LnGs.nil : LnGs gsNil := fun d ρ ρ' e => by
  cases d with
  | nil => cases e; rfl
  | cons _ _ => cases e
theorem LnGs.cons {m : MG} {ms : MGs} (h : LnG m) (h2 : LnGs ms) : LnGs (gsCons m ms) := fun d ρ ρ' e => by
  cases d with
  | nil => cases e
  | cons x r =>
    obtain ⟨ρ1, e1, e2⟩ := Option.bind_eq_some_iff.mp e
    exact (h2 _ _ _ e2).trans (h _ _ _ e1)
theorem LnG.tup {n : Nat} {ms : MGs} (h : LnGs ms) : LnG (gT n ms) := fun d ρ ρ' e => by
  unfold gT at e
  split at e
  · split at e
    · exact h _ _ _ e
    · cases e
  · cases e
/-! own slots -/
def wipE (ρ : Env) : List Nat → Env
  | [] => ρ
  | i :: is => (wipE ρ is).set i none
def resE (ρ ρ0 : Env) : List Nat → Env
  | [] => ρ
  | i :: is => (resE ρ ρ0 is).set i (gt (wipE ρ0 is) i)
def Sv (E : HE) (ρ : Env) (σ : L2.St) : List Nat → Fp → Prop
  | [], B => Eqf B zf
  | i :: is, B => ∃ g h, Eqf B (ad g h) ∧ Sv E ρ σ is h ∧ match gt (wipE ρ is) i with
    | some d => ∃ w, σ[i]? = some (some w) ∧ Ow E d w g
    | none => Eqf g zf
theorem gt_none : ∀ {ρ : Env} {i : Nat}, gt ρ i = none → ρ.set i none = ρ
  | [], _, _ => rfl
  | o :: ρ, 0, h => by
    have h : o = none := h
    subst h; rfl
  | o :: ρ, i + 1, h => congrArg (o :: ·) (gt_none (ρ := ρ) (i := i) h)
theorem Sls.wip {E : HE} {ρ : Env} {σ : L2.St} {T : Fp} (s : Sls E ρ σ T) : ∀ is : List Nat, ∃ Tw B, Sls E (wipE ρ is) σ Tw ∧ Eqf T (ad Tw B) ∧ Sv E ρ σ is B
  | [] => ⟨T, zf, s, fun a => rfl, .rfl'⟩
  | i :: is => by
    obtain ⟨Tw, B, h1, h2, h3⟩ := Sls.wip s is
    cases e : gt (wipE ρ is) i with
    | none =>
      refine ⟨Tw, B, ?_, h2, zf, B, fun a => (Nat.zero_add _).symm, h3, ?_⟩
      · show Sls E ((wipE ρ is).set i none) σ Tw
        rw [gt_none e]; exact h1
      · rw [e]; exact .rfl'
    | some d =>
      obtain ⟨w, g, x, k1, k2, k3, k4⟩ := h1.get (gt_some e)
      refine ⟨x, ad g B, k3, fun a => ?_, g, B, .rfl', h3, ?_⟩
      · rw [h2 a, ad_ap, k4 a]; simp only [ad_ap]; omega
      · rw [e]; exact ⟨w, k1, k2⟩
theorem Sv.mono {K : PySem.W.Frag} {F F' H H' : Hp} {T : Fp} {ρ : Env} {σ : L2.St} (hf : Sub F F') (hk : Keep H T H') (mu : ∀ a, T a ≠ 0 → Mut (H a)) : ∀ (is : List Nat) {B : Fp}, (∀ a, B a ≠ 0 → T a = 0) → Sv ⟨K, cm, F, H⟩ ρ σ is B → Sv ⟨K, cm, F', H'⟩ ρ σ is B
  | [], _, _, h => h
  | i :: is, B, d, h => by
    obtain ⟨g, x, e, h1, h2⟩ := h
    refine ⟨g, x, e, Sv.mono hf hk mu is (fun a z => d a (by rw [e a, ad_ap]; omega)) h1, ?_⟩
    cases q : gt (wipE ρ is) i with
    | none => rw [q] at h2; exact h2
    | some d0 =>
      rw [q] at h2
      obtain ⟨w, k1, k2⟩ := h2
      exact ⟨w, k1, Ow.mono hf hk mu _ _ _ (fun a z => d a (by rw [e a, ad_ap]; omega)) k2⟩
theorem Sls.res {E : HE} {ρ ρ0 : Env} {σ : L2.St} {T : Fp} (s : Sls E ρ σ T) : ∀ (is : List Nat) {B : Fp}, Sv E ρ0 σ is B → ∃ T', Sls E (resE ρ ρ0 is) σ T' ∧ ∀ a, T' a ≤ ad T B a
  | [], B, h => ⟨T, s, fun a => by rw [ad_ap]; omega⟩
  | i :: is, B, h => by
    obtain ⟨g, x, e, h1, h2⟩ := h
    obtain ⟨T1, k1, k2⟩ := Sls.res s is h1
    have k2' : ∀ a, T1 a ≤ T a + x a := k2
    cases q : gt (wipE ρ0 is) i with
    | none =>
      rw [q] at h2
      obtain ⟨T2, l1, l2⟩ := k1.forget i
      refine ⟨T2, ?_, fun a => ?_⟩
      · show Sls E ((resE ρ ρ0 is).set i (gt (wipE ρ0 is) i)) σ T2
        rw [q]; exact l1
      · have := l2 a; have := k2' a; rw [ad_ap, e a, ad_ap]; omega
    | some d =>
      rw [q] at h2
      obtain ⟨w, m1, m2⟩ := h2
      obtain ⟨T2, l1, l2⟩ := k1.setSome (i := i) m2
      have hs : σ.set i (some w) = σ := set_same m1
      rw [hs] at l1
      refine ⟨T2, ?_, fun a => ?_⟩
      · show Sls E ((resE ρ ρ0 is).set i (gt (wipE ρ0 is) i)) σ T2
        rw [q]; exact l1
      · have := l2 a; have := k2' a; rw [ad_ap, e a, ad_ap]; omega
theorem wipE_none : ∀ {is : List Nat} {ρ : Env} {i : Nat}, i ∈ is → (wipE ρ is).set i none = wipE ρ is
  | [], _, _, h => by cases h
  | j :: is, ρ, i, h => by
    show ((wipE ρ is).set j none).set i none = (wipE ρ is).set j none
    rcases List.mem_cons.mp h with rfl | h
    · exact List.set_set ..
    · by_cases e : j = i
      · subst e; exact List.set_set ..
      · rw [List.set_comm _ _ e, wipE_none h]
theorem Sls.wipeS {E : HE} {ρ : Env} {T : Fp} : ∀ (is : List Nat) {σ : L2.St}, (∀ i ∈ is, ρ.set i none = ρ) → Sls E ρ σ T → Sls E ρ (wipe σ is) T
  | [], σ, _, s => s
  | i :: is, σ, h, s => by
    have s1 := Sls.wipeS is (fun j hj => h j (List.mem_cons_of_mem _ hj)) s
    have e := h i List.mem_cons_self
    show Sls E ρ ((wipe σ is).set i none) T
    rw [← e] at s1 ⊢
    exact s1.storeN
theorem wipE_len : ∀ (is : List Nat) (ρ : Env), (wipE ρ is).length = ρ.length
  | [], _ => rfl
  | i :: is, ρ => by
    show ((wipE ρ is).set i none).length = _
    rw [List.length_set, wipE_len is ρ]
theorem wipe_at : ∀ {is : List Nat} {σ : L2.St} {i : Nat}, (wipe σ is)[i]? = if i ∈ is then (if i < σ.length then some none else none) else σ[i]?
  | [], σ, i => by rw [if_neg (by simp)]; rfl
  | j :: is, σ, i => by
    show ((wipe σ is).set j none)[i]? = _
    by_cases e : j = i
    · subst e
      rw [if_pos List.mem_cons_self]
      by_cases hl : j < σ.length
      · rw [if_pos hl]
        exact List.getElem?_set_self (by rw [wipe_length]; exact hl)
      · rw [if_neg hl]
        exact List.getElem?_eq_none (by rw [List.length_set, wipe_length]; omega)
    · rw [List.getElem?_set_ne e, wipe_at]
      by_cases m : i ∈ is
      · rw [if_pos m, if_pos (List.mem_cons_of_mem _ m)]
      · rw [if_neg m, if_neg fun h => by
          rcases List.mem_cons.mp h with h | h
          · exact e h.symm
          · exact m h]
theorem wipe_eq {is : List Nat} {σ σ2 : L2.St} (hl : σ2.length = σ.length) (n : ∀ i, i ∉ is → σ2[i]? = (wipe σ is)[i]?) : wipe σ2 is = wipe σ is := by
  apply List.ext_getElem?
  intro i
  rw [wipe_at, wipe_at]
  by_cases m : i ∈ is
  · rw [if_pos m, if_pos m, hl]
  · rw [if_neg m, if_neg m, n i m, wipe_at, if_neg m]
/-- turn by turn -/
def lcGo (own : List Nat) (m : MG) (tt te : ME) : List D → List D → Env → Re
  | [], acc, ρ => .ok (.nd .lst true acc) ρ
  | d :: ds, acc, ρ => match m d ρ with
    | some ρ1 => match tt ρ1 with
      | .ok (.bl true) ρ2 => match te ρ2 with
        | .ok v ρ3 => lcGo own m tt te ds (acc ++ [v]) (wipE ρ3 own)
        | _ => .no
      | .ok (.bl false) ρ2 => lcGo own m tt te ds acc (wipE ρ2 own)
      | _ => .no
    | none => .no
def rLc (own : List Nat) (f : MI) (m : MG) (tt te : ME) : ME := fun ρ => match f ρ with
  | some (ds, ρ1) => if decide (ds.length ≤ sizeLine) = true then match lcGo own m tt te ds [] (wipE ρ1 own) with
      | .ok d ρ2 => .ok d (resE ρ2 ρ1 own)
      | _ => .no
    else .no
  | none => .no
theorem lc_sp {wi : TI} {f : MI} {m : MG} {tt te : ME} (own : List Nat) (qi : SpI S wi f) (lg : LnG m) (hw : ∀ i, i ∉ own → wr i = false) : SpE S W (tLc wi (tStG S wr m) (tStT S tt) (tSt S te) own) (rLc own f m tt te) := by
  intro σ F H T ρ Q w s k
  unfold rLc at k
  cases e : f ρ with
  | none => rw [e] at k; exact k.elim
  | some p =>
    obtain ⟨ds, ρ1⟩ := p
    rw [e] at k
    have k : EndE S W σ F H T (if decide (ds.length ≤ sizeLine) = true then match lcGo own m tt te ds [] (wipE ρ1 own) with
      | .ok d ρ2 => .ok d (resE ρ2 ρ1 own)
      | _ => .no
    else .no) Q := k
    by_cases hz : decide (ds.length ≤ sizeLine) = true
    · rw [if_pos hz] at k
      have hz := of_decide_eq_true hz
      refine qi σ F H T ρ _ ds ρ1 w s e fun J F1 H1 T1 w1 s1 l1 it D hD => ?_
      obtain ⟨Tw, B, lw, eT, sv⟩ := l1.wip own
      obtain ⟨w2, s2⟩ := alloc (o := .lst []) w1 hD trivial
      have sig : Sls (S.at F1 (upd H1 D (.lst []))) (wipE ρ1 own) (wipe σ own) Tw := (sls_up hD lw).wipeS own fun i hi => wipE_none hi
      have sv2 : Sv (S.at F1 (upd H1 D (.lst []))) ρ1 σ own B := Sv.mono (T := zf) (Sub.refl _) (up_keep hD) (fun a z => absurd rfl z) own (fun _ _ => rfl) sv
      -- one turn's world
      let Inv1 : Nat → Hp → Prop := fun i H' => ∃ F' T' ρ' acc ws g d ρ2, Sub F1 F' ∧ Wd F' H' (ad T' (ad (ad (one D) g) B)) ∧ Stp F H T F' H' (ad T' (ad (ad (one D) g) B)) ∧ Sls (S.at F' H') ρ' (wipe σ own) T' ∧ (∀ i ∈ own, ρ'.set i none = ρ') ∧ H' D = some (.lst ws) ∧ Ows (S.at F' H') acc ws g ∧ acc.length ≤ i ∧
        Sv (S.at F' H') ρ1 σ own B ∧ lcGo own m tt te (ds.drop i) acc ρ' = .ok d ρ2 ∧ EndE S W σ F H T (.ok d (resE ρ2 ρ1 own)) Q
      cases eg : lcGo own m tt te ds [] (wipE ρ1 own) with
      | no => rw [eg] at k; exact k.elim
      | ex z ρ2 => rw [eg] at k; exact k.elim
      | ok d ρ2 =>
        rw [eg] at k
        have eB : Eqf (ad Tw (ad (ad (one D) zf) B)) (ad T1 (one D)) := fun a => by simp only [ad_ap]; rw [eT a, ad_ap, zf_ap]; omega
        refine ⟨fun i n H' => n = ds.length - i ∧ i ≤ ds.length ∧ Inv1 i H', ⟨ds.length, rfl, Nat.zero_le _, F1, Tw, _, [], [], zf, d, ρ2, Sub.refl _, w2.eqf eB, (s1.trans w1 s2).eqf eB, sig, fun i hi => wipE_none hi, upd_same, ⟨rfl, .rfl'⟩, Nat.le_refl _, sv2, eg, k⟩, ?_⟩
        clear sig sv2 eB w2 s2 lw eT sv k eg
        rintro i n H2 ⟨rfl, hi, F2, T2, ρ', acc, ws, g, d2, ρ3, f2, w2, s2, l2, hn, hD2, oa, la, sv, eg, k⟩
        obtain ⟨go, stop⟩ := it i F2 H2 f2 w2.sub
        by_cases hlt : i < ds.length
        · refine .inr ?_
          have hd : ds.drop i = ds[i] :: ds.drop (i + 1) := List.drop_eq_getElem_cons hlt
          rw [hd] at eg
          obtain ⟨go1, go2⟩ := go _ (List.getElem?_eq_getElem hlt)
          refine ⟨go1, fun H' => Inv1 (i + 1) H', fun H' z => ⟨ds.length - (i + 1), by omega, rfl, by omega, z⟩, fun x H3 y => ?_⟩
          obtain ⟨F3, a1, a2, a3, a4, o⟩ := go2 x H3 y
          obtain ⟨w3, s3⟩ := grown w2 a1 a2 a3 a4
          have kk : Keep H2 zf H3 := fun a o h _ => a3 a o h
          have l3 : Sls (S.at F3 H3) ρ' (wipe σ own) T2 := Sls.mono (T := zf) a1 kk (fun a z => absurd rfl z) _ _ _ (fun _ _ => rfl) l2
          have oa3 : Ows (S.at F3 H3) acc ws g := Ows.mono (T := zf) a1 kk (fun a z => absurd rfl z) _ _ _ (fun _ _ => rfl) oa
          have sv3 : Sv (S.at F3 H3) ρ1 σ own B := Sv.mono (T := zf) a1 kk (fun a z => absurd rfl z) own (fun _ _ => rfl) sv
          have hD3 : H3 D = some (.lst ws) := a3 _ _ hD2
          have s3' := s2.trans w2 s3
          unfold lcGo at eg
          cases e3 : m ds[i] ρ' with
          | none => rw [e3] at eg; cases eg
          | some ρ4 =>
            rw [e3] at eg
            refine ⟨F3, T2, zf, ρ', ds[i], ρ4, w3.part.z, l3, o, e3, fun σ4 F4 H4 T4 n4 w4 s4 l4 => ?_⟩
            have s4' : Stp F3 H3 T2 F4 H4 T4 := s4.eqfL (adz T2).symm
            have hlen : σ4.length = σ.length := by
              rw [← l4.len, lg _ _ _ e3, l3.len, wipe_length]
            refine ⟨wipe_eq hlen fun i hi => n4 i (hw i hi), ?_⟩
            obtain ⟨w4', s4''⟩ := w3.frame s4' w4
            have off4 : ∀ a, ad (ad (one D) g) B a ≠ 0 → T2 a = 0 := fun a z => by
              have := w3.one a
              rw [ad_ap] at this; omega
            have oa4 : Ows (S.at F4 H4) acc ws g := Ows.mono s4'.mono s4'.keep (fun a z => w3.mu a (by rw [ad_ap]; omega)) _ _ _ (fun a z => off4 a (by simp only [ad_ap]; omega)) oa3
            have sv4 : Sv (S.at F4 H4) ρ1 σ own B := Sv.mono s4'.mono s4'.keep (fun a z => w3.mu a (by rw [ad_ap]; omega)) own (fun a z => off4 a (by simp only [ad_ap]; omega)) sv3
            have hD4 : H4 D = some (.lst ws) := s4'.keep _ _ hD3 (off4 D (by simp only [ad_ap]; rw [one_self]; omega))
            have s5 := s3'.trans w3 s4''
            refine ⟨F4, T4, ρ4, w4, l4, ?_⟩
            have eg : (match tt ρ4 with
              | .ok (.bl true) ρ2 => match te ρ2 with
                | .ok v ρ3 => lcGo own m tt te (ds.drop (i + 1)) (acc ++ [v]) (wipE ρ3 own)
                | _ => .no
              | .ok (.bl false) ρ2 => lcGo own m tt te (ds.drop (i + 1)) acc (wipE ρ2 own)
              | _ => .no) = Re.ok d2 ρ3 := eg
            have f4 : Sub F1 F4 := (f2.trans a1).trans s4'.mono
            have back : ∀ {F' H' : Hp} {T' G : Fp} {ρ' : Env} {σ' : L2.St}, wipe σ' own = wipe σ own → Wd F' H' (ad T' G) → Sls (S.at F' H') ρ' σ' T' → ∃ Tn, Sls (S.at F' H') (wipE ρ' own) (wipe σ own) Tn ∧ ∀ a, Tn a ≤ T' a := fun {F' H' T' G ρ' σ'} hw' wd l => by
              obtain ⟨Tn, Bn, q1, q2, _⟩ := l.wip own
              have := q1.wipeS own fun i hi => wipE_none hi
              rw [hw'] at this
              exact ⟨Tn, this, fun a => by rw [q2 a, ad_ap]; omega⟩
            have hw4 : wipe σ4 own = wipe σ own := wipe_eq hlen fun i hi => n4 i (hw i hi)
            cases e4 : tt ρ4 with
            | no => rw [e4] at eg; cases eg
            | ex z ρ5 => rw [e4] at eg; cases eg
            | ok b ρ5 =>
              rw [e4] at eg
              cases b with
              | bl b =>
                refine ⟨b, rfl, fun F5 H5 T5 w5 s5' l5 => ?_⟩
                obtain ⟨w5', s5''⟩ := w4'.frame s5' w5
                have off5 : ∀ a, ad (ad (one D) g) B a ≠ 0 → T4 a = 0 := fun a z => by
                  have := w4'.one a
                  rw [ad_ap] at this; omega
                have oa5 : Ows (S.at F5 H5) acc ws g := Ows.mono s5'.mono s5'.keep (fun a z => w4'.mu a (by rw [ad_ap]; omega)) _ _ _ (fun a z => off5 a (by simp only [ad_ap]; omega)) oa4
                have sv5 : Sv (S.at F5 H5) ρ1 σ own B := Sv.mono s5'.mono s5'.keep (fun a z => w4'.mu a (by rw [ad_ap]; omega)) own (fun a z => off5 a (by simp only [ad_ap]; omega)) sv4
                have hD5 : H5 D = some (.lst ws) := s5'.keep _ _ hD4 (off5 D (by simp only [ad_ap]; rw [one_self]; omega))
                have s6 := s5.trans w4' s5''
                have f5 : Sub F1 F5 := f4.trans s5'.mono
                cases b with
                | false =>
                  rw [if_neg Bool.false_ne_true]
                  obtain ⟨Tn, ln, le⟩ := back hw4 w5' l5
                  have le2 : ∀ a, ad Tn (ad (ad (one D) g) B) a ≤ ad T5 (ad (ad (one D) g) B) a := fun a => by have := le a; simp only [ad_ap]; omega
                  exact ⟨F5, Tn, _, acc, ws, g, d2, ρ3, f5, w5'.le le2, s6.leR le2, ln, fun i hi => wipE_none hi, hD5, oa5, by omega, sv5, eg, k⟩
                | true =>
                  rw [if_pos rfl]
                  refine ⟨F5, T5, ρ5, w5, l5, ?_⟩
                  have eg : (match te ρ5 with
                    | .ok v ρ3 => lcGo own m tt te (ds.drop (i + 1)) (acc ++ [v]) (wipE ρ3 own)
                    | _ => .no) = Re.ok d2 ρ3 := eg
                  cases e6 : te ρ5 with
                  | no => rw [e6] at eg; cases eg
                  | ex z ρ6 => rw [e6] at eg; cases eg
                  | ok v ρ6 =>
                    rw [e6] at eg
                    intro u F6 H6 T6 C w6 s6' l6 ou
                    obtain ⟨w6', s6''⟩ := w5'.frame s6' w6
                    have off6 : ∀ a, ad (ad (one D) g) B a ≠ 0 → T5 a = 0 := fun a z => by
                      have := w5'.one a
                      rw [ad_ap] at this; omega
                    have oa6 : Ows (S.at F6 H6) acc ws g := Ows.mono s6'.mono s6'.keep (fun a z => w5'.mu a (by rw [ad_ap]; omega)) _ _ _ (fun a z => off6 a (by simp only [ad_ap]; omega)) oa5
                    have sv6 : Sv (S.at F6 H6) ρ1 σ own B := Sv.mono s6'.mono s6'.keep (fun a z => w5'.mu a (by rw [ad_ap]; omega)) own (fun a z => off6 a (by simp only [ad_ap]; omega)) sv5
                    have hD6 : H6 D = some (.lst ws) := s6'.keep _ _ hD5 (off6 D (by simp only [ad_ap]; rw [one_self]; omega))
                    have s7 := s6.trans w5' s6''
                    refine ⟨ws, hD6, by rw [← oa.len]; omega, ?_⟩
                    -- the list grows
                    have tot : ∀ a, T6 a + C a + (one D a + g a + B a) ≤ 1 := fun a => by have := w6'.one a; simp only [ad_ap] at this; omega
                    have tD := tot D
                    rw [one_self] at tD
                    have mm : Mut (H6 D) := by rw [hD6]; trivial
                    obtain ⟨Tn, ln, le⟩ := back (G := C) hw4 w6 l6
                    obtain ⟨w8, s8⟩ := changed (R := ad Tn B) (G := ad (ad (one D) g) C) (C := zf) (G' := ad (one D) (ad g C)) (p := D) (ob := .lst (ws ++ [u])) w6' (fun a => by have := le a; simp only [ad_ap]; omega) (by simp only [ad_ap]; rw [one_self]; omega) trivial (fun a => by simp only [ad_ap, zf_ap]; omega)
                    have e8 : Eqf (ad Tn (ad (ad (one D) (ad g C)) B)) (ad (ad (ad (one D) (ad g C)) (ad Tn B)) zf) := fun a => by simp only [ad_ap, zf_ap]; omega
                    have lD := le D
                    refine ⟨F6, Tn, _, acc ++ [v], ws ++ [u], ad g C, d2, ρ3, f5.trans s6'.mono, w8.eqf e8, (s7.trans w6' s8).eqf e8, sls_up1 mm (by omega) ln, fun i hi => wipE_none hi, upd_same, ows_up1 mm (by rw [ad_ap]; omega) (oa6.app (.mk1 ou)), by rw [List.length_append]; simp; omega, ?_, eg, k⟩
                    exact Sv.mono (T := one D) (Sub.refl _) up1 (mu1 mm) own (fun a z => one_ne fun e => by subst e; omega) sv6
              | _ => cases eg
        · have ei : i = ds.length := by omega
          subst ei
          refine .inl ⟨stop (Nat.le_refl _), ?_⟩
          rw [List.drop_length] at eg
          cases eg
          -- back to the outer slots
          have l0 : Sls (S.at F2 H2) ρ' σ T2 := by
            have key : ∀ (is : List Nat) (σ : L2.St), (∀ i ∈ is, ρ'.set i none = ρ') → Sls (S.at F2 H2) ρ' (wipe σ is) T2 → Sls (S.at F2 H2) ρ' σ T2 := by
              intro is
              induction is with
              | nil => intro σ _ h; exact h
              | cons j is ih =>
                intro σ hn h
                have h : Sls (S.at F2 H2) ρ' ((wipe σ is).set j none) T2 := h
                refine ih σ (fun i hi => hn i (List.mem_cons_of_mem _ hi)) ?_
                have e := hn j List.mem_cons_self
                by_cases hj : j < (wipe σ is).length
                · have h2 := h
                  rw [← e] at h2
                  have h3 := h2.storeN (w := (wipe σ is)[j])
                  rw [e, List.set_set] at h3
                  have : (wipe σ is).set j (wipe σ is)[j] = wipe σ is := set_same (List.getElem?_eq_getElem hj)
                  rw [this] at h3
                  exact h3
                · have : (wipe σ is).set j none = wipe σ is := List.set_eq_of_length_le (by omega)
                  rw [this] at h
                  exact h
            exact key own σ hn l2
          obtain ⟨T', lr, le⟩ := l0.res own sv
          have le2 : ∀ a, ad T' (ad (one D) g) a ≤ ad T2 (ad (ad (one D) g) B) a := fun a => by have := le a; rw [ad_ap] at this; simp only [ad_ap]; omega
          exact k _ F2 H2 T' (ad (one D) g) (w2.le le2) (s2.leR le2) lr ⟨D, ws, g, rfl, oa, .inr (.inl ⟨rfl, hD2, .rfl'⟩)⟩
    · rw [if_neg hz] at k; exact k.elim
section
variable {elt tg iter : Expr} {ifs : List Expr} {scope : Scope} {own : List (Str × Nat)} {f : MI} {m : MG} {tt te : ME}
theorem E.lc (hc : X.calm = true) (hN : X.N.Nodup) (hi : GI X cm tg iter f) (ok : BlkOk X.N X.env.scope scope own)
    (hg : ∀ (s : Shared) (H : Hp) (C : Addr) (cl : List (Str × Addr)) (fp : List Addr), GG (X.blk s H scope (compEnvC scope cl C X.env) fp) cm wr tg m)
    (ht : ∀ (s : Shared) (H : Hp) (C : Addr) (cl : List (Str × Addr)) (fp : List Addr), GTs (X.blk s H scope (compEnvC scope cl C X.env) fp) cm W0 ifs tt)
    (he : ∀ (s : Shared) (H : Hp) (C : Addr) (cl : List (Str × Addr)) (fp : List Addr), GE (X.blk s H scope (compEnvC scope cl C X.env) fp) cm W0 elt te)
    (lg : LnG m) (hw : ∀ i, i ∉ own.map (·.2) → wr i = false) (hs : ∀ x, foldedSetIterable iter X.env x = pure x := by intro _; rfl) : GE X cm W (.ListComp elt [⟨tg, iter, ifs, 0⟩] scope pos) (rLc (own.map (·.2)) f m tt te) := by
  obtain ⟨wi, p, q⟩ := hi
  exact ⟨_, pe_lc hc hN p ok (fun s H C cl fp => (hg s H C cl fp).st) (fun s H C cl fp => (ht s H C cl fp).st) (fun s H C cl fp => (he s H C cl fp).st) hs, lc_sp (S := ⟨X.K, cm⟩) _ q lg hw⟩
theorem S.setLc {i : Nat} {y : Str} {py spos : Pos} (hc : X.calm = true) (hN : X.N.Nodup) (hy : X.N[i]? = some y) (hyl : X.env.scope.names.lookup y = some .local)
    (hsw : swapsWith (.ListComp elt [⟨tg, iter, ifs, 0⟩] scope pos) (some (.Name y py)) spos.line X.env = pure true) (hi : GI X cm tg iter f) (ok : BlkOk X.N X.env.scope scope own)
    (hg : ∀ (s : Shared) (H : Hp) (C : Addr) (cl : List (Str × Addr)) (fp : List Addr), GG (X.blk s H scope (compEnvC scope cl C X.env) fp) cm wr tg m)
    (ht : ∀ (s : Shared) (H : Hp) (C : Addr) (cl : List (Str × Addr)) (fp : List Addr), GTs (X.blk s H scope (compEnvC scope cl C X.env) fp) cm W0 ifs tt)
    (he : ∀ (s : Shared) (H : Hp) (C : Addr) (cl : List (Str × Addr)) (fp : List Addr), GE (X.blk s H scope (compEnvC scope cl C X.env) fp) cm W0 elt te)
    (lg : LnG m) (hw : ∀ i, i ∉ own.map (·.2) → wr i = false) (hs : ∀ x, foldedSetIterable iter X.env x = pure x := by intro _; rfl) : GS X cm W (w1 i) (.Assign [.Name y py] (.ListComp elt [⟨tg, iter, ifs, 0⟩] scope pos) spos) (mAsg (rLc (own.map (·.2)) f m tt te) (gN i)) := by
  obtain ⟨wi, p, q⟩ := hi
  exact ⟨_, ps_setLc hc hN hy hyl hsw p ok (fun s H C cl fp => (hg s H C cl fp).st) (fun s H C cl fp => (ht s H C cl fp).st) (fun s H C cl fp => (he s H C cl fp).st) hs, asg_sp (lc_sp (S := ⟨X.K, cm⟩) _ q lg hw) gName_sp⟩
end
end
end DL
namespace DL
open PySem L2 PyProof.Rows
/-! ### defs as they stand behind the top -/
section
variable {P : Program} {w : World} {K : PySem.W.Frag} {mg : Str → Option Value} {base h : Heap} {cm : Str → Option Addr}
/-- the def x, its text st, its defaults dvs -/
def Fx (K : PySem.W.Frag) (mg : Str → Option Value) (x : Str) (st : Stmt) (dvs : List V) : Prop := ∃ (f : Addr) (fd : FuncData), FunD K x x (defArgs st) (defBody st) (defScope st) dvs [] f fd ∧ mg x = some (.ref f)
theorem Fx.mk {x : Str} {st : Stmt} {f : Addr} {oc : Value} {od an : Option Addr} {osl : Array (Option Value)} {kV doc pm cdv ct : Value} (X : K.In h) (G : h.Ns mainGlobals mg) (a : PySem.W.nsIn K mainGlobals x = some (some (.ref f)))
    (l : K.lookup f = some ⟨oc, od, .func (PySem.W.fnOf x x (defArgs st) (defBody st) (defScope st) .none kV doc pm an cdv ct), osl⟩) (c : PySem.W.codeIn K cdv x = true) (k : PySem.W.keepIn K (.ref f) = true) : Fx K mg x st [] :=
  ⟨f, _, ⟨⟨oc, od, .none, kV, doc, pm, an, cdv, ct, osl, rfl, l, c, .inl ⟨rfl, rfl⟩, .inl rfl⟩, k⟩, PySem.W.mg_of X G a⟩
/-- one default, None -/
theorem Fx.mkN {x : Str} {st : Stmt} {f T : Addr} {oc : Value} {od an : Option Addr} {osl osl2 : Array (Option Value)} {kV doc pm cdv ct oc2 : Value} {od2 : Option Addr} {n : Nat} (X : K.In h) (G : h.Ns mainGlobals mg) (a : PySem.W.nsIn K mainGlobals x = some (some (.ref f)))
    (l : K.lookup f = some ⟨oc, od, .func (PySem.W.fnOf x x (defArgs st) (defBody st) (defScope st) (.ref T) kV doc pm an cdv ct), osl⟩) (c : PySem.W.codeIn K cdv x = true) (k : PySem.W.keepIn K (.ref f) = true)
    (t : K.lookup T = some ⟨oc2, od2, .seq #[.none] n, osl2⟩) : Fx K mg x st [.non] :=
  ⟨f, _, ⟨⟨oc, od, .ref T, kV, doc, pm, an, cdv, ct, osl, rfl, l, c, .inr ⟨by simp, T, _, [.none], n, rfl, t, rfl, .cons rfl .nil⟩, .inl rfl⟩, k⟩, PySem.W.mg_of X G a⟩
/-- the meaning of the name x: n parameters, the last ones dvs where fewer are handed in -/
def FBo (P : Program) (w : World) (K : PySem.W.Frag) (mg : Str → Option Value) (base : Heap) (cm : Str → Option Addr) (k : Nat) (x : Str) (dvs : List V) (n : Nat) (fn : Fn) : Prop :=
  ∃ (f : Addr) (fd : FuncData) (ps : List Str) (ds : List Value), FnG P w K mg base k f fd ps (SpD ⟨K, cm⟩ n fn) ∧ mg x = some (.ref f) ∧ PySem.W.keepIn K (.ref f) = true ∧ Binds K fd ps ds ∧ Vals dvs ds
def FKo (P : Program) (w : World) (K : PySem.W.Frag) (mg : Str → Option Value) (base : Heap) (cm : Str → Option Addr) (k : Nat) (x : Str) (ks : List Str) (π : List Nat) (n : Nat) (fn : Fn) : Prop :=
  ∃ (f : Addr) (fd : FuncData) (ps : List Str) (g : List Value → List Value → List Value), FnG P w K mg base k f fd ps (SpD ⟨K, cm⟩ n fn) ∧ mg x = some (.ref f) ∧ PySem.W.keepIn K (.ref f) = true ∧ KBn K fd ps 0 ks g fun _ zs => prm π zs
theorem FBo.mono {j k n : Nat} {x : Str} {dvs : List V} {fn : Fn} (F : FBo P w K mg base cm j x dvs n fn) (h : j ≤ k) : FBo P w K mg base cm k x dvs n fn := by
  obtain ⟨f, fd, ps, ds, F, r⟩ := F
  exact ⟨f, fd, ps, ds, F.mono h, r⟩
theorem FKo.mono {j k n : Nat} {x : Str} {ks : List Str} {π : List Nat} {fn : Fn} (F : FKo P w K mg base cm j x ks π n fn) (h : j ≤ k) : FKo P w K mg base cm k x ks π n fn := by
  obtain ⟨f, fd, ps, ds, F, r⟩ := F
  exact ⟨f, fd, ps, ds, F.mono h, r⟩
theorem FB.of {X : Cx} {k n : Nat} {x : Str} {dvs : List V} {fn : Fn} (F : FBo X.prog X.w X.K X.mg X.base cm k x dvs n fn) : FB X cm k x dvs n fn := ⟨F⟩
theorem FK.of {X : Cx} {k n : Nat} {x : Str} {ks : List Str} {π : List Nat} {fn : Fn} (F : FKo X.prog X.w X.K X.mg X.base cm k x ks π n fn) : FK X cm k x ks π n fn := ⟨F⟩
theorem prm_vals {π : List Nat} {vs : List V} {us : List Value} (h : Vals vs us) : Vals (prm π vs) (prm π us) := by
  unfold prm
  induction π with
  | nil => exact .nil
  | cons i π ih =>
    rw [List.filterMap_cons, List.filterMap_cons]
    have l := h.length
    cases e : vs[i]? with
    | none =>
      have : us[i]? = none := by rw [List.getElem?_eq_none_iff] at e ⊢; omega
      rw [this]; exact ih
    | some v =>
      obtain ⟨u, e2, r⟩ := h.get e
      rw [e2]; exact .cons r ih
/-- the whole def: all parameters handed in; its keywords; its defaults. The body is proved once -/
structure Df (P : Program) (w : World) (K : PySem.W.Frag) (mg : Str → Option Value) (base : Heap) (cm : Str → Option Addr) (k : Nat) (x : Str) (st : Stmt) (dvs : List V) (ps : List Str) (fn : Fn) : Prop where
  ex : ∃ (f : Addr) (fd : FuncData), FunD K x x (defArgs st) (defBody st) (defScope st) dvs [] f fd ∧ mg x = some (.ref f) ∧ FnG P w K mg base k f fd ps (SpD ⟨K, cm⟩ ps.length fn)
theorem Df.mk' {N ps : List Str} {k : Nat} {wr : Nat → Bool} {g : MS} {x : Str} {st : Stmt} {dvs : List V} (hsy : ∃ mm, base.Ns sysModules mm) (io : List Bool) (F : Fx K mg x st dvs) (S : FnScope N ps (defScope st)) (hl : io.length = ps.length) (hio : ∀ i : Nat, io[i]? = some true → wr i = false)
    (body : ∀ (f : Addr) (cdv : Value) (A : Around) (outer : List PySem.Env) (s : Shared) (H : Hp) (E : XK), BX (cxOf (L2.CX P w) P w K mg base N x (defScope st) f cdv A outer s H E) (fun c d _ H1 => E c d H1) k →
      GB (cxOf (L2.CX P w) P w K mg base N x (defScope st) f cdv A outer s H E) cm (fun c d _ H1 => E c d H1) wr (defBody st) g) : Df P w K mg base cm (k + 1) x st dvs ps (defFn N.length io g) := by
  obtain ⟨f, fd, F, hm⟩ := F
  exact ⟨f, fd, F, hm, FnG.data hsy io F S hl hio (body f)⟩
/-- what nothing is asked of -/
theorem Df.no {k : Nat} {x : Str} {st : Stmt} {dvs : List V} {ps : List Str} (F : Fx K mg x st dvs) : Df P w K mg base cm k x st dvs ps (fun _ => .no) := by
  obtain ⟨f, fd, F, hm⟩ := F
  exact ⟨f, fd, F, hm, ⟨fun vs H Q E h => h.1, fun A o s H a us vs Q E g r e b rv h => by
    obtain ⟨_, F, T, ds, _, _, z⟩ := h
    exact z.elim⟩⟩
theorem Df.all {k : Nat} {x : Str} {st : Stmt} {ps : List Str} {fn : Fn} (D : Df P w K mg base cm k x st [] ps fn)
    (h : ∀ (kV doc pm : Value) (an : Option Addr) (cdv ct : Value) (us : List Value), us.length = ps.length → bindArgs (PySem.W.fnOf x x (defArgs st) (defBody st) (defScope st) .none kV doc pm an cdv ct) ⟨us, []⟩ = pure (ps.zip us)) : FBo P w K mg base cm k x [] ps.length fn := by
  obtain ⟨f, fd, F, hm, G⟩ := D.ex
  exact ⟨f, fd, ps, [], G, hm, F.kp, F.bindsN h, .nil⟩
/-- the first m handed in, of the defaults those behind j -/
theorem Df.part {k m j : Nat} {x : Str} {st : Stmt} {dvs : List V} {ps : List Str} {fn : Fn} (D : Df P w K mg base cm k x st dvs ps fn) (hd : dvs ≠ []) (hn : m + (dvs.length - j) = ps.length)
    (h : ∀ (T : Addr) (kV doc pm : Value) (an : Option Addr) (cdv ct : Value) (us its : List Value), us.length = m → its.length = dvs.length →
      ∃ q, bindArgs (PySem.W.fnOf x x (defArgs st) (defBody st) (defScope st) (.ref T) kV doc pm an cdv ct) ⟨us, []⟩ = seqItems? (.ref T) >>= q ∧ q (some its.toArray) = pure (ps.zip (us ++ its.drop j))) : FBo P w K mg base cm k x (dvs.drop j) ps.length fn := by
  obtain ⟨f, fd, F, hm, G⟩ := D.ex
  obtain ⟨ds, r, b⟩ := F.binds1 m j hd hn h
  exact ⟨f, fd, ps, ds, G, hm, F.kp, b, r⟩
/-- by keywords alone, all of them -/
theorem Df.keys {k : Nat} {x : Str} {st : Stmt} {ps ks : List Str} {fn : Fn} (π : List Nat) (D : Df P w K mg base cm k x st [] ps fn)
    (h : ∀ (kV doc pm : Value) (an : Option Addr) (cdv ct : Value) (us : List Value), us.length = ks.length → bindArgs (PySem.W.fnOf x x (defArgs st) (defBody st) (defScope st) .none kV doc pm an cdv ct) ⟨[], ks.zip us⟩ = pure (ps.zip (prm π us))) : FKo P w K mg base cm k x ks π ps.length fn := by
  obtain ⟨f, fd, F, hm, G⟩ := D.ex
  have kp := F.kp
  obtain ⟨oc, od, dV, kV, doc, pm, an, cdv, ct, osl, rfl, lk, hcd, hD, hK⟩ := F.ex
  rcases hD with ⟨_, rfl⟩ | ⟨e, _⟩
  · exact ⟨f, _, ps, fun _ us => prm π us, G, hm, kp, ⟨fun s us ws _ hl hw => by
      cases List.eq_nil_of_length_eq_zero hl
      exact .of_eq (h kV doc pm an cdv ct ws hw), fun _ r => prm_vals r⟩⟩
  · exact absurd rfl e
end
/-! ### the law's own end -/
theorem only_sub {H : Hp} : Sub H H := Sub.refl H
/-- the def that tells True of the locked script -/
theorem law_run {P : Program} {w : World} {K : PySem.W.Frag} {mg mb : Str → Option Value} {k : Nat} {fa a : Addr} {s₁ : Shared} {vs : List Value} {ns : List Int} {cm : Str → Option Addr} {x : Str} {fd : FuncData} {fn : Fn}
    (inK : K.In s₁.heap) (g1 : s₁.heap.Ns mainGlobals mg) (g2 : s₁.heap.Ns builtinsNs mb) (g3 : ∀ y : Str, y ≠ "__name__" → mb y = bootBuiltins y) (g4 : s₁.heap.NoLimit) (g5 : s₁.gens = #[])
    (at_ : s₁.heap.get? a = some { cls := .type "list", data := .seq vs.toArray }) (are : IntsAre vs ns) (few : ns.length ≤ sizeLine) (room : Room k callerA)
    (gs : ∃ mm, s₁.heap.Ns sysModules mm) (F : ∀ base : Heap, K.In base → base.Ns mainGlobals mg → (∃ mm, base.Ns sysModules mm) → FnG P w K mg base k fa fd [x] (SpD ⟨K, cm⟩ 1 fn)) (bnd : ∀ (s : Shared) (u : Value), BindsTo s fd ⟨[u], []⟩ [(x, u)])
    (yes : ∃ ρ, fn [.nd .fzl false (ns.map .int)] = .ok (.bl true) ρ) :
    codeAny (model P w) callerA (.call (.ref fa) ⟨[.ref a], []⟩) (fun r s' => r = .ok (.ret (.bool true)) ∧ OldK s₁.heap s'.heap ∧ s'.os = s₁.os ∧ AllBare s'.gens) s₁ := by
  obtain ⟨ρ, yes⟩ := yes
  have want : ∀ H : Hp, SqL K H a (ns.map V.int) → SpD ⟨K, cm⟩ 1 fn [.ref a] H (fun v _ => v = .bl true) fun _ _ _ => False := by
    intro H sq
    refine ⟨rfl, H, zf, [.nd .fzl false (ns.map .int)], wz (Sub.refl H), ?_, ?_⟩
    · exact .mk1 ⟨a, ns.map V.int, zf, rfl, ows_ofInts ns, .inr (.inr ⟨rfl, sq, .rfl', .rfl'⟩)⟩
    · rw [yes]
      exact fun v _ _ _ _ _ _ _ o => o.1
  have rv := vals_ints are
  have len := are.length
  suffices main : ∀ H : Hp, Only H → SqL K H a (ns.map V.int) → HOk P w H s₁.heap → (∀ b, H b ≠ none → b = a) → (H a ≠ none → K.lookup a = none) →
      codeAny (model P w) callerA (.call (.ref fa) ⟨[.ref a], []⟩) (fun r s' => r = .ok (.ret (.bool true)) ∧ OldK s₁.heap s'.heap ∧ s'.os = s₁.os ∧ AllBare s'.gens) s₁ by
    cases own : K.lookup a with
    | some o =>
      have same := inK a o own
      rw [at_] at same
      cases same
      exact main (fun _ => none) (fun _ => .inl rfl) (.inr ⟨_, vs.toArray, _, own, rfl, rfl, rfl, by rw [List.size_toArray, len]; exact few, by simpa using rv⟩) (fun b u z => nomatch (show (none : Option HO) = some u from z)) (fun b z => absurd rfl z) fun z => absurd rfl z
    | none =>
      let lock : HO := .frz { cls := .type "list", data := .seq vs.toArray } (.lst (ns.map V.int))
      have one : ∀ b u, (if b = a then some lock else none) = some u → b = a ∧ u = lock := fun b u z => by
        by_cases q : b = a
        · rw [if_pos q] at z; exact ⟨q, (Option.some.inj z).symm⟩
        · rw [if_neg q] at z; cases z
      refine main (fun b => if b = a then some lock else none) (fun b => ?_) (.inl (.inr ⟨_, if_pos rfl⟩)) (fun b u z => ?_) (fun b z => ?_) fun _ => own
      · by_cases q : b = a
        · exact .inr ⟨_, _, if_pos q⟩
        · exact .inl (if_neg q)
      · obtain ⟨rfl, rfl⟩ := one b u z
        exact ⟨at_, by rw [List.length_map]; exact few, vs, _, rv, at_⟩
      · by_cases q : b = a
        · exact q
        · exact absurd (if_neg q) z
  intro H only sq hok alone notK
  have isA : ∀ {b u}, H b = some u → b = a := fun {b u} q => alone b (by rw [q]; simp)
  have get : ∀ {b o}, s₁.heap.get? b = some o → H b = none → (hidT s₁.heap H).get? b = some o := fun e n => hidT_get e n
  have freeD : ∀ {b o es ep}, s₁.heap.get? b = some o → o.data = .dict es ep → H b = none := fun {b o es ep} e d => by
    cases q : H b with
    | none => rfl
    | some u =>
      have := isA q
      subst this
      rw [at_] at e
      cases e
      cases d
  have names : ∀ {b m}, s₁.heap.Ns b m → (hidT s₁.heap H).Ns b m := fun {b m} n => by
    obtain ⟨o, es, ep, e, d, r⟩ := n
    exact ⟨o, es, ep, get e (freeD e d), d, r⟩
  have inB : K.In (hidT s₁.heap H) := fun b o e => get (inK b o e) (by
    cases q : H b with
    | none => rfl
    | some u =>
      have := isA q
      subst this
      rw [notK (by rw [q]; simp)] at e
      cases e)
  have modB : Mod K mg (hidT s₁.heap H) := by
    obtain ⟨mc, h1, h2⟩ := g4
    exact ⟨inB, names g1, ⟨mb, names g2, g3⟩, ⟨mc, names h1, h2⟩⟩
  have start : Env0 P w K mg (hidT s₁.heap H) callerA [] s₁ H := ⟨rfl, modB, fun b o e => of_hidT e, Nat.le_of_eq (hidT_size _ _), trivial, (fun b hb => by cases hb), hok, .of_eq g5⟩
  have ran := (F _ inB (names g1) (let ⟨mm, h⟩ := gs; ⟨mm, names h⟩)).run callerA [] s₁ H ⟨[.ref a], []⟩ [.ref a] [.ref a] _ _ rfl room start (bnd s₁ (.ref a)) (.cons rfl .nil) (want H sq)
  refine codeAny_mono ran fun r s' done => ?_
  rcases r with e | fl
  · obtain ⟨_, _, _, _, _, _, _, _, _, _, _, _, z⟩ := (show L2.CX P w [] H s₁ (fun _ _ _ => False) e s' from done)
    exact z.elim
  · cases fl with
    | ret u =>
      obtain ⟨v, H', os, bare, un, hok', r', q⟩ := done
      have q : v = .bl true := q
      subst q
      obtain rfl : u = Value.bool true := r'
      refine ⟨rfl, OldK.of_keep fun b o e => ?_, os, bare⟩
      rcases only b with z | ⟨ob, xs, z⟩
      · exact un.keep b o e z (by simp [frs]) (by simp)
      · obtain ⟨e1, _⟩ := hok b _ z
        obtain ⟨e2, _⟩ := hok' b _ (un.frzs b ob _ z)
        rw [e] at e1
        cases e1
        exact e2
    | next => exact False.elim done
    | brk => exact False.elim done
    | cont => exact False.elim done
/-- the law's def at its address -/
theorem Df.law {P : Program} {w : World} {K : PySem.W.Frag} {mg : Str → Option Value} {cm : Str → Option Addr} {k : Nat} {x p : Str} {st : Stmt} {fn : Fn} {fa : Addr} (F : Fx K mg x st []) (hm : mg x = some (.ref fa))
    (D : ∀ base, K.In base → base.Ns mainGlobals mg → (∃ mm, base.Ns sysModules mm) → Df P w K mg base cm k x st [] [p] fn)
    (b : ∀ (kV doc pm : Value) (an : Option Addr) (cdv ct : Value) (us : List Value), us.length = 1 → bindArgs (PySem.W.fnOf x x (defArgs st) (defBody st) (defScope st) .none kV doc pm an cdv ct) ⟨us, []⟩ = pure ([p].zip us)) :
    ∃ fd : FuncData, (∀ (s : Shared) (u : Value), BindsTo s fd ⟨[u], []⟩ [(p, u)]) ∧ ∀ base : Heap, K.In base → base.Ns mainGlobals mg → (∃ mm, base.Ns sysModules mm) → FnG P w K mg base k fa fd [p] (SpD ⟨K, cm⟩ 1 fn) := by
  obtain ⟨f, fd, F, hm2⟩ := F
  rw [hm] at hm2
  cases hm2
  refine ⟨fd, fun s u => F.bindsA (ps := [p]) b s [u] rfl, fun base h1 h2 h3 => ?_⟩
  obtain ⟨f2, fd2, F2, hm3, G⟩ := (D base h1 h2 h3).ex
  rw [hm] at hm3
  cases hm3
  obtain ⟨_, _, _, _, _, _, _, _, _, _, e1, l1, _⟩ := F.ex
  obtain ⟨_, _, _, _, _, _, _, _, _, _, e2, l2, _⟩ := F2.ex
  rw [l1] at l2
  cases l2
  exact G
end DL
namespace DL
open PySem L2 PyProof.Rows
/-! ### short words -/
section
variable {X : Cx} {cm : Str → Option Addr} {W : WX} {pos : Pos} {x : Str}
theorem vN (i : Nat) (hN : X.N[i]? = some x := by rfl) (hv : Vis X.env.scope x := by first | exact .inl rfl | exact .inr (.inl rfl) | exact .inr (.inr rfl)) (hd : (x == ("__debug__" : Str)) = false := by decide) (hcd : (x == ("__classdict__" : Str)) = false := by decide) : GV X cm (.Name x pos) (vVar i) := Vw.var hN hv hd hcd
theorem eF (i : Nat) (hN : X.N[i]? = some x := by rfl) (hv : Vis X.env.scope x := by first | exact .inl rfl | exact .inr (.inl rfl) | exact .inr (.inr rfl)) (hd : (x == ("__debug__" : Str)) = false := by decide) (hcd : (x == ("__classdict__" : Str)) = false := by decide) : GE X cm W (.Name x pos) (rFz i) := E.frz hN hv hd hcd
theorem eM (i : Nat) (hN : X.N[i]? = some x := by rfl) (hv : Vis X.env.scope x := by first | exact .inl rfl | exact .inr (.inl rfl) | exact .inr (.inr rfl)) (hd : (x == ("__debug__" : Str)) = false := by decide) (hcd : (x == ("__classdict__" : Str)) = false := by decide) : GE X cm W (.Name x pos) (rMv i) := E.mv hN hv hd hcd
theorem pNm (i : Nat) (hN : X.N[i]? = some x := by rfl) (hv : Vis X.env.scope x := by first | exact .inl rfl | exact .inr (.inl rfl) | exact .inr (.inr rfl)) (hd : (x == ("__debug__" : Str)) = false := by decide) (hcd : (x == ("__classdict__" : Str)) = false := by decide) : GP X cm (.Name x pos) i pN := P.name hN hv hd hcd
theorem aI (i : Nat) {p : Pos} {es : List Expr} {m : MA} (h2 : GA X cm W es m) (hN : X.N[i]? = some x := by rfl) (hv : Vis X.env.scope x := by first | exact .inl rfl | exact .inr (.inl rfl) | exact .inr (.inr rfl)) (hd : (x == ("__debug__" : Str)) = false := by decide) (hcd : (x == ("__classdict__" : Str)) = false := by decide)
    (hs : starEach (.Name x p :: es) X.env = (false, eval (.Name x p) X.env) :: starEach es X.env := by rfl) : GA X cm W (.Name x p :: es) (aIo i m) := A.io hN hv h2 hd hcd hs
theorem aB (i : Nat) {p : Pos} {es : List Expr} {m : MA} (h2 : GA X cm W es m) (hN : X.N[i]? = some x := by rfl) (hv : Vis X.env.scope x := by first | exact .inl rfl | exact .inr (.inl rfl) | exact .inr (.inr rfl)) (hd : (x == ("__debug__" : Str)) = false := by decide) (hcd : (x == ("__classdict__" : Str)) = false := by decide)
    (hs : starEach (.Name x p :: es) X.env = (false, eval (.Name x p) X.env) :: starEach es X.env := by rfl) : GA X cm W (.Name x p :: es) (aBw i m) := A.bw hN hv h2 hd hcd hs
theorem kB (i : Nat) {p : Pos} {nm : Option Str} {kp : Pos} {ks : List Keyword} {m : MA} (h2 : GK X cm W ks m) (hN : X.N[i]? = some x := by rfl) (hv : Vis X.env.scope x := by first | exact .inl rfl | exact .inr (.inl rfl) | exact .inr (.inr rfl)) (hd : (x == ("__debug__" : Str)) = false := by decide) (hcd : (x == ("__classdict__" : Str)) = false := by decide) :
    GK X cm W (⟨nm, .Name x p, kp⟩ :: ks) (aBw i m) := K.bw hN hv h2 hd hcd
theorem eIxN (i : Nat) {p : Pos} {b : Expr} {g : ME} (hb : GE X cm W b g) (hN : X.N[i]? = some x := by rfl) (hv : Vis X.env.scope x := by first | exact .inl rfl | exact .inr (.inl rfl) | exact .inr (.inr rfl)) (hd : (x == ("__debug__" : Str)) = false := by decide) (hcd : (x == ("__classdict__" : Str)) = false := by decide) (hs : PlainIx b := by exact fun _ _ => rfl) :
    GE X cm W (.Subscript (.Name x p) b pos) (rIxN i g) := E.ixN hN hv hb hd hcd hs
section
variable {p : Operator} {cp : CmpOp} {r : R2} {op : D → D → Option D} {b : Expr} {px : Pos} {g : ME}
theorem eOpN (i : Nat) (hr : OpR X (binaryOp p) r) (o : OpG X.K r op) (hb : GE X cm W b g) (hN : X.N[i]? = some x := by rfl) (hv : Vis X.env.scope x := by first | exact .inl rfl | exact .inr (.inl rfl) | exact .inr (.inr rfl)) (hd : (x == ("__debug__" : Str)) = false := by decide) (hcd : (x == ("__classdict__" : Str)) = false := by decide) :
    GE X cm W (.BinOp (.Name x px) p b pos) (rOpNE op i g) := E.opNE hN hv hr o hb hd hcd
theorem eCmpN (i : Nat) (hr : OpR X (compareOp cp) r) (o : OpG X.K r op) (hm : behindInMarks cp b = false) (hb : GE X cm W b g) (hN : X.N[i]? = some x := by rfl) (hv : Vis X.env.scope x := by first | exact .inl rfl | exact .inr (.inl rfl) | exact .inr (.inr rfl)) (hd : (x == ("__debug__" : Str)) = false := by decide) (hcd : (x == ("__classdict__" : Str)) = false := by decide) :
    GE X cm W (.Compare (.Name x px) [cp] [b] pos) (rOpNE op i g) := E.cmpNE hN hv hr o hm hb hd hcd
theorem tCmpN (i : Nat) (hr : OpR X (compareOp cp) r) (o : OpG X.K r op) (hm : behindInMarks cp b = false) (hb : GE X cm W b g) (hN : X.N[i]? = some x := by rfl) (hv : Vis X.env.scope x := by first | exact .inl rfl | exact .inr (.inl rfl) | exact .inr (.inr rfl)) (hd : (x == ("__debug__" : Str)) = false := by decide) (hcd : (x == ("__classdict__" : Str)) = false := by decide) :
    GT X cm W (.Compare (.Name x px) [cp] [b] pos) (rOpNE op i g) := T.cmpNE hN hv hr o hm hb hd hcd
end
theorem gNm (i : Nat) (nd : X.N.Nodup) (hi : X.N[i]? = some x := by rfl) (hx : Loc X.env.scope x := by first | exact .inl rfl | exact .inr rfl) (hf : X.fn x = true ∨ X.env.scope.names.lookup x = some .local := by first | exact .inr rfl | exact .inl rfl) : GG X cm (w1 i) (.Name x pos) (gN i) := G.name nd hi hx hf
theorem sSet (i : Nat) {e : Expr} {f : ME} {pos' : Pos} (nd : X.N.Nodup) (h : GE X cm W e f) (hi : X.N[i]? = some x := by rfl) (hx : Loc X.env.scope x := by first | exact .inl rfl | exact .inr rfl) (hs : swapsWith e (some (.Name x pos')) pos.line X.env = pure false := by rfl)
    (hf : X.fn x = true ∨ X.env.scope.names.lookup x = some .local := by first | exact .inr rfl | exact .inl rfl) : GS X cm W (w1 i) (.Assign [.Name x pos'] e pos) (mAsg f (gN i)) := S.set nd hi hx h hs hf
theorem sAug (i : Nat) {e : Expr} {op : Operator} {r : TIp} {dop : D → D → Option D} {f : ME} {px : Pos} (nd : X.N.Nodup) (hp : PIp X op r) (o : OpG X.K r dop) (he : GE X cm W e f) (hi : X.N[i]? = some x := by rfl) (hx : Loc X.env.scope x := by first | exact .inl rfl | exact .inr rfl)
    (hf : X.fn x = true ∨ X.env.scope.names.lookup x = some .local := by first | exact .inr rfl | exact .inl rfl) : GS X cm W (w1 i) (.AugAssign (.Name x px) op e pos) (mAsg (rOpNE dop i f) (gN i)) := S.aug nd hi hx hp o he hf
section
variable {id : String} {nm : Str} {r : V → List V → Hp → VK → Prop} {op : List D → List D → Option (D × List D)} {e : Expr} {es : List Expr} {apos cpos px : Pos}
theorem eMtN (i : Nat) {m : MA} (slot : Slot "list" nm id) (hty : typeOf (.builtin id) = pure (.type "method_descriptor")) (hm : MtR X id r) (o : MuOk X.K r op) (ha : GA X cm W (e :: es) m) (hN : X.N[i]? = some x := by rfl) (hv : Vis X.env.scope x := by first | exact .inl rfl | exact .inr (.inl rfl) | exact .inr (.inr rfl)) (hd : (x == ("__debug__" : Str)) = false := by decide) (hcd : (x == ("__classdict__" : Str)) = false := by decide)
    (hbase : attributeBase (.Name x px) nm X.env (eval (.Name x px) X.env) = eval (.Name x px) X.env := by rfl)
    (hfew : ((backTo cpos (starEach (e :: es) X.env)).all (fun x => !x.1) && (backToKw cpos (keywordEach [] X.env)).all (fun x => x.1.isSome)
      && decide ((e :: es).length + ([] : List Keyword).length + (if ([] : List Keyword).isEmpty then 0 else 1) < 30)) = true := by rfl)
    (hline : (apos.endLine == cpos.line) = true := by rfl) (hs : starEach (e :: es) X.env = (false, eval e X.env) :: starEach es X.env := by rfl) (hplain : (backTo cpos (starEach es X.env)).any (·.1) = false := by rfl) :
    GE X cm W (.Call (.Attribute (.Name x px) nm apos) (e :: es) [] cpos) (rMtN op i m) := E.mtN slot hty hm o hN hv ha hd hcd hbase hfew hline hs hplain
end
theorem io_ok {io : List Bool} {wr : Nat → Bool} (h : ((List.range io.length).all fun i => !(io[i]? == some true) || !wr i) = true) : ∀ i : Nat, io[i]? = some true → wr i = false := fun i e => by
  have hl := (List.getElem?_eq_some_iff.mp e).1
  have := List.all_eq_true.mp h i (List.mem_range.mpr hl)
  rw [e] at this
  simpa using this
theorem own_ok {own : List Nat} {wr : Nat → Bool} {n : Nat} (h : ∀ i, n ≤ i → wr i = false) (h2 : ((List.range n).all fun i => own.contains i || !wr i) = true) : ∀ i, i ∉ own → wr i = false := fun i hi => by
  by_cases l : i < n
  · have := List.all_eq_true.mp h2 i (List.mem_range.mpr l)
    simpa [hi] using this
  · exact h i (by omega)
theorem wq1 {i : Nat} : ∀ j, i + 1 ≤ j → w1 i j = false := fun j h => by
  unfold w1
  exact beq_eq_false_iff_ne.mpr (by omega)
theorem own1 {i : Nat} : ∀ j, j ∉ [i] → w1 i j = false := fun j h => by
  unfold w1
  exact beq_eq_false_iff_ne.mpr fun e => h (by rw [e]; exact List.mem_cons_self)
theorem own0 {own : List Nat} : ∀ j, j ∉ own → w0 j = false := fun _ _ => rfl
theorem ownC {a b : Nat → Bool} {own : List Nat} (h : ∀ j, j ∉ own → a j = false) (h2 : ∀ j, j ∉ own → b j = false) : ∀ j, j ∉ own → wo a b j = false := fun j n => by
  unfold wo
  rw [h j n, h2 j n]; rfl
theorem ownN {i : Nat} {own : List Nat} (h : i ∈ own) : ∀ j, j ∉ own → w1 i j = false := fun j n => by
  unfold w1
  exact beq_eq_false_iff_ne.mpr fun e => n (by rw [e]; exact h)
theorem IPof {op : Operator} {r : TIp} (h : OpR X (inplaceOp op) r) : PIp X op r := fun pins s σ H x y v u Q I r1 r2 hh => h pins s σ H x y v u Q I r1 r2 hh
end
end DL
namespace DL
open PySem L2 PyProof.Rows
/-! ### reckoning meanings: each word by what its parts told -/
section
variable {ρ ρ1 : Env} {d a b : D} {ds : List D} {i j : Nat} {e : Xn}
def seqK (r : Ou) (h : MS) : Ou := match r with
  | .nx ρ1 => h ρ1
  | r => r
@[simp] theorem seq_ap {g h : MS} : mSeq g h ρ = seqK (g ρ) h := rfl
@[simp] theorem seq_nx {h : MS} : seqK (.nx ρ) h = h ρ := rfl
@[simp] theorem seq_rt {h : MS} : seqK (.rt d ρ) h = .rt d ρ := rfl
@[simp] theorem seq_bk {h : MS} : seqK (.bk ρ) h = .bk ρ := rfl
@[simp] theorem seq_ct {h : MS} : seqK (.ct ρ) h = .ct ρ := rfl
@[simp] theorem seq_ex {h : MS} : seqK (.ex e ρ) h = .ex e ρ := rfl
@[simp] theorem nx_ap : mNx ρ = .nx ρ := rfl
@[simp] theorem bk_ap : mBk ρ = .bk ρ := rfl
@[simp] theorem ct_ap : mCt ρ = .ct ρ := rfl
@[simp] theorem no_ap : mNo ρ = .no := rfl
@[simp] theorem retN_ap : mRetN ρ = .rt .non ρ := rfl
def nxO : Option Env → Ou
  | some ρ => .nx ρ
  | none => .no
@[simp] theorem nxO_s : nxO (some ρ) = .nx ρ := rfl
def asgK (r : Re) (m : MG) : Ou := match r with
  | .ok d ρ1 => nxO (m d ρ1)
  | .ex e ρ1 => .ex e ρ1
  | .no => .no
@[simp] theorem asg_ap {f : ME} {m : MG} : mAsg f m ρ = asgK (f ρ) m := by
  unfold mAsg asgK
  cases f ρ with
  | ok d ρ1 => show (match m d ρ1 with | some ρ2 => Ou.nx ρ2 | none => .no) = nxO (m d ρ1); cases m d ρ1 <;> rfl
  | _ => rfl
@[simp] theorem asg_ok {m : MG} : asgK (.ok d ρ) m = nxO (m d ρ) := rfl
@[simp] theorem asg_ex {m : MG} : asgK (.ex e ρ) m = .ex e ρ := rfl
@[simp] theorem gN_ap : gN i d ρ = some (ρ.set i (some d)) := rfl
def retK : Re → Ou
  | .ok d ρ1 => .rt d ρ1
  | .ex e ρ1 => .ex e ρ1
  | .no => .no
@[simp] theorem ret_ap {f : ME} : mRet f ρ = retK (f ρ) := rfl
@[simp] theorem ret_ok : retK (.ok d ρ) = .rt d ρ := rfl
@[simp] theorem ret_ex : retK (.ex e ρ) = .ex e ρ := rfl
def doK : Re → Ou
  | .ok _ ρ1 => .nx ρ1
  | .ex e ρ1 => .ex e ρ1
  | .no => .no
@[simp] theorem do_ap {f : ME} : mDo f ρ = doK (f ρ) := rfl
@[simp] theorem do_ok : doK (.ok d ρ) = .nx ρ := rfl
@[simp] theorem do_ex : doK (.ex e ρ) = .ex e ρ := rfl
def ifK (c : Re) (g h : MS) : Ou := match c with
  | .ok (.bl true) ρ1 => g ρ1
  | .ok (.bl false) ρ1 => h ρ1
  | .ok _ _ => .no
  | .ex e ρ1 => .ex e ρ1
  | .no => .no
@[simp] theorem if_ap {c : ME} {g h : MS} : mIf c g h ρ = ifK (c ρ) g h := rfl
@[simp] theorem if_b {c : Bool} {g h : MS} : ifK (.ok (.bl c) ρ) g h = if c = true then g ρ else h ρ := by cases c <;> rfl
@[simp] theorem if_ex {g h : MS} : ifK (.ex e ρ) g h = .ex e ρ := rfl
def forK (r : Option (List D × Env)) (m : MG) (b : MS) : Ou := match r with
  | some p => mLoop m b p.1 p.2
  | none => .no
@[simp] theorem for_ap {f : MI} {m : MG} {b : MS} : mFor f m b ρ = forK (f ρ) m b := by
  unfold mFor forK
  cases f ρ with
  | none => rfl
  | some p => rfl
@[simp] theorem for_s {m : MG} {b : MS} : forK (some (ds, ρ)) m b = mLoop m b ds ρ := rfl
def parV (is : List Nat) (ρ : Env) : Option (List D) → Ou
  | some ds => .nx ((is.zip ds).foldl (fun r z => r.set z.1 (some z.2)) ρ)
  | none => .no
def parK (is : List Nat) : Ra → Ou
  | .ok as ρ1 => parV is ρ1 (vals as)
  | .ex e ρ1 => .ex e ρ1
  | .no => .no
@[simp] theorem par_ap {is : List Nat} {m : MA} : mPar is m ρ = parK is (m ρ) := by
  unfold mPar parK
  cases m ρ with
  | ok as ρ1 => show (match vals as with | some ds => Ou.nx ((is.zip ds).foldl (fun r z => r.set z.1 (some z.2)) ρ1) | none => .no) = parV is ρ1 (vals as); cases vals as <;> rfl
  | _ => rfl
@[simp] theorem par_ok {is : List Nat} {as : List Ag} : parK is (.ok as ρ) = parV is ρ (vals as) := rfl
@[simp] theorem par_v {is : List Nat} : parV is ρ (some ds) = .nx ((is.zip ds).foldl (fun r z => r.set z.1 (some z.2)) ρ) := rfl
/-! expressions -/
@[simp] theorem gt_0 {o : Option D} : gt (o :: ρ) 0 = o := rfl
@[simp] theorem gt_s {o : Option D} : gt (o :: ρ) (i + 1) = gt ρ i := rfl
@[simp] theorem vVar_ap : vVar i ρ = gt ρ i := rfl
@[simp] theorem vC_ap : vC d ρ = some d := rfl
def rVK (o : Option D) (ρ : Env) : Re := match o with
  | some d => if noOwn d = true then .ok d ρ else .no
  | none => .no
@[simp] theorem rV_ap {g : MV} : rV g ρ = rVK (g ρ) ρ := rfl
@[simp] theorem rVK_non : rVK (some .non) ρ = .ok .non ρ := rfl
@[simp] theorem rVK_bl {c : Bool} : rVK (some (.bl c)) ρ = .ok (.bl c) ρ := rfl
@[simp] theorem rVK_int {c : Int} : rVK (some (.int c)) ρ = .ok (.int c) ρ := rfl
@[simp] theorem rVK_str {c : Str} : rVK (some (.str c)) ρ = .ok (.str c) ρ := rfl
@[simp] theorem rVK_nd {k : Nd} {o : Bool} {xs : List D} : rVK (some (.nd k o xs)) ρ = if noOwn (.nd k o xs) = true then .ok (.nd k o xs) ρ else .no := rfl
@[simp] theorem noOwn_nd {k : Nd} {o : Bool} {xs : List D} : noOwn (.nd k o xs) = (!o && noOwns xs) := rfl
@[simp] theorem noOwn_int {c : Int} : noOwn (.int c) = true := rfl
@[simp] theorem noOwn_bl {c : Bool} : noOwn (.bl c) = true := rfl
@[simp] theorem noOwn_str {c : Str} : noOwn (.str c) = true := rfl
@[simp] theorem noOwn_non : noOwn .non = true := rfl
@[simp] theorem noOwns_nil : noOwns [] = true := rfl
@[simp] theorem noOwns_cons : noOwns (d :: ds) = (noOwn d && noOwns ds) := rfl
@[simp] theorem noObj_int {c : Int} : noObj (.int c) = true := rfl
@[simp] theorem noObj_bl {c : Bool} : noObj (.bl c) = true := rfl
@[simp] theorem noObj_str {c : Str} : noObj (.str c) = true := rfl
@[simp] theorem noObj_non : noObj .non = true := rfl
@[simp] theorem noObj_lst {o : Bool} {xs : List D} : noObj (.nd .lst o xs) = noObjs xs := rfl
@[simp] theorem noObj_tup {o : Bool} {xs : List D} : noObj (.nd .tup o xs) = noObjs xs := rfl
@[simp] theorem noObj_fzl {o : Bool} {xs : List D} : noObj (.nd .fzl o xs) = noObjs xs := rfl
@[simp] theorem noObjs_nil : noObjs [] = true := rfl
@[simp] theorem noObjs_cons : noObjs (d :: ds) = (noObj d && noObjs ds) := rfl
@[simp] theorem frz_int {c : Int} : frz (.int c) = .int c := rfl
@[simp] theorem frz_bl {c : Bool} : frz (.bl c) = .bl c := rfl
@[simp] theorem frz_str {c : Str} : frz (.str c) = .str c := rfl
@[simp] theorem frz_non : frz .non = .non := rfl
@[simp] theorem frz_nd {k : Nd} {o : Bool} {xs : List D} : frz (.nd k o xs) = .nd k false (frzs xs) := rfl
@[simp] theorem frzs_nil : frzs [] = [] := rfl
@[simp] theorem frzs_cons : frzs (d :: ds) = frz d :: frzs ds := rfl
@[simp] theorem noOwns_ints : ∀ ns : List Int, noOwns (ns.map .int) = true
  | [] => rfl
  | n :: r => noOwns_ints r
@[simp] theorem noObjs_ints : ∀ ns : List Int, noObjs (ns.map .int) = true
  | [] => rfl
  | n :: r => noObjs_ints r
@[simp] theorem frzs_ints : ∀ ns : List Int, frzs (ns.map .int) = ns.map .int
  | [] => rfl
  | n :: r => congrArg (D.int n :: ·) (frzs_ints r)
@[simp] theorem okBs_nil : okBs [] = true := rfl
@[simp] theorem okBs_cons : okBs (d :: ds) = (okB d && okBs ds) := rfl
@[simp] theorem okB_int {c : Int} : okB (.int c) = true := rfl
@[simp] theorem okB_bl {c : Bool} : okB (.bl c) = true := rfl
@[simp] theorem okB_str {c : Str} : okB (.str c) = true := rfl
@[simp] theorem okB_non : okB .non = true := rfl
@[simp] theorem okB_lst {o : Bool} {xs : List D} : okB (.nd .lst o xs) = (o && okBs xs) := rfl
@[simp] theorem okB_tup {o : Bool} {xs : List D} : okB (.nd .tup o xs) = okBs xs := rfl
@[simp] theorem okBs_ints : ∀ ns : List Int, okBs (ns.map .int) = true
  | [] => rfl
  | n :: r => okBs_ints r
@[simp] theorem okEnv_nil : okEnv [] = true := rfl
@[simp] theorem okEnv_n : okEnv (none :: ρ) = okEnv ρ := rfl
@[simp] theorem okEnv_s : okEnv (some d :: ρ) = (okB d && okEnv ρ) := rfl
def fzK (o : Option D) (i : Nat) (ρ : Env) : Re := match o with
  | some d => if noObj d = true then .ok (frz d) (ρ.set i (some (frz d))) else .no
  | none => .no
@[simp] theorem rFz_ap : rFz i ρ = fzK (gt ρ i) i ρ := rfl
@[simp] theorem fzK_s : fzK (some d) i ρ = if noObj d = true then .ok (frz d) (ρ.set i (some (frz d))) else .no := rfl
def mvK (o : Option D) (i : Nat) (ρ : Env) : Re := match o with
  | some d => .ok d (ρ.set i none)
  | none => .no
@[simp] theorem rMv_ap : rMv i ρ = mvK (gt ρ i) i ρ := rfl
@[simp] theorem mvK_s : mvK (some d) i ρ = .ok d (ρ.set i none) := rfl
@[simp] theorem of_s : Re.of (some d) ρ = .ok d ρ := rfl
def opK2 (op : D → D → Option D) (a : D) : Re → Re
  | .ok b ρ2 => .of (op a b) ρ2
  | .ex e ρ => .ex e ρ
  | .no => .no
def opK1 (op : D → D → Option D) (r : Re) (g : ME) : Re := match r with
  | .ok a ρ1 => opK2 op a (g ρ1)
  | .ex e ρ => .ex e ρ
  | .no => .no
@[simp] theorem rOp_ap {op : D → D → Option D} {f g : ME} : rOp op f g ρ = opK1 op (f ρ) g := by
  unfold rOp opK1
  cases f ρ with
  | ok a ρ1 => show ((g ρ1).bind fun b ρ2 => Re.of (op a b) ρ2) = opK2 op a (g ρ1); cases g ρ1 <;> rfl
  | _ => rfl
@[simp] theorem opK1_ok {op : D → D → Option D} {g : ME} : opK1 op (.ok a ρ) g = opK2 op a (g ρ) := rfl
@[simp] theorem opK1_ex {op : D → D → Option D} {g : ME} : opK1 op (.ex e ρ) g = .ex e ρ := rfl
@[simp] theorem opK2_ok {op : D → D → Option D} : opK2 op a (.ok b ρ) = .of (op a b) ρ := rfl
@[simp] theorem opK2_ex {op : D → D → Option D} : opK2 op a (.ex e ρ) = .ex e ρ := rfl
def op2 (op : D → D → Option D) : Option D → Option D → Option D
  | some a, some b => op a b
  | _, _ => none
@[simp] theorem vOp_ap {op : D → D → Option D} {f g : MV} : vOp op f g ρ = op2 op (f ρ) (g ρ) := by
  unfold vOp op2
  cases f ρ <;> cases g ρ <;> rfl
@[simp] theorem op2_s {op : D → D → Option D} : op2 op (some a) (some b) = op a b := rfl
def opVK (op : D → D → Option D) (ρ : Env) : Option D → Option D → Re
  | some a, some b => .of (op a b) ρ
  | _, _ => .no
@[simp] theorem rOpV_ap {op : D → D → Option D} {f g : MV} : rOpV op f g ρ = opVK op ρ (f ρ) (g ρ) := by
  unfold rOpV opVK
  cases f ρ <;> cases g ρ <;> rfl
@[simp] theorem opVK_s {op : D → D → Option D} : opVK op ρ (some a) (some b) = .of (op a b) ρ := rfl
def evK2 (op : D → D → Option D) (a : D) (ρ : Env) : Option D → Re
  | some b => .of (op a b) ρ
  | none => .no
def evK1 (op : D → D → Option D) (r : Re) (g : MV) : Re := match r with
  | .ok a ρ1 => evK2 op a ρ1 (g ρ1)
  | .ex e ρ1 => .ex e ρ1
  | .no => .no
@[simp] theorem rOpEV_ap {op : D → D → Option D} {f : ME} {g : MV} : rOpEV op f g ρ = evK1 op (f ρ) g := by
  unfold rOpEV evK1
  cases f ρ with
  | ok a ρ1 => show (match g ρ1 with | some b => Re.of (op a b) ρ1 | none => .no) = evK2 op a ρ1 (g ρ1); cases g ρ1 <;> rfl
  | _ => rfl
@[simp] theorem evK1_ok {op : D → D → Option D} {g : MV} : evK1 op (.ok a ρ) g = evK2 op a ρ (g ρ) := rfl
@[simp] theorem evK1_ex {op : D → D → Option D} {g : MV} : evK1 op (.ex e ρ) g = .ex e ρ := rfl
@[simp] theorem evK2_s {op : D → D → Option D} : evK2 op a ρ (some b) = .of (op a b) ρ := rfl
def neK2 (op : D → D → Option D) (b : D) (ρ : Env) : Option D → Re
  | some a => .of (op a b) ρ
  | none => .no
def neK1 (op : D → D → Option D) (i : Nat) (o : Option D) (r : Re) : Re := match o with
  | some _ => match r with
    | .ok b ρ1 => neK2 op b ρ1 (gt ρ1 i)
    | .ex e ρ1 => .ex e ρ1
    | .no => .no
  | none => .no
@[simp] theorem rOpNE_ap {op : D → D → Option D} {g : ME} : rOpNE op i g ρ = neK1 op i (gt ρ i) (g ρ) := by
  unfold rOpNE neK1
  cases gt ρ i with
  | none => rfl
  | some _ =>
    cases g ρ with
    | ok b ρ1 => show (match gt ρ1 i with | some a => Re.of (op a b) ρ1 | none => .no) = neK2 op b ρ1 (gt ρ1 i); cases gt ρ1 i <;> rfl
    | _ => rfl
@[simp] theorem neK1_ok {op : D → D → Option D} : neK1 op i (some a) (.ok b ρ) = neK2 op b ρ (gt ρ i) := rfl
@[simp] theorem neK1_ex {op : D → D → Option D} : neK1 op i (some a) (.ex e ρ) = .ex e ρ := rfl
@[simp] theorem neK2_s {op : D → D → Option D} : neK2 op b ρ (some a) = .of (op a b) ρ := rfl
@[simp] theorem vUn_ap {op : D → Option D} {f : MV} : vUn op f ρ = (f ρ).bind op := rfl
def rIfK (c : Re) (f g : ME) : Re := match c with
  | .ok (.bl true) ρ1 => f ρ1
  | .ok (.bl false) ρ1 => g ρ1
  | .ok _ _ => .no
  | .ex e ρ1 => .ex e ρ1
  | .no => .no
@[simp] theorem rIf_ap {c f g : ME} : rIf c f g ρ = rIfK (c ρ) f g := by
  unfold rIf rIfK
  cases c ρ with
  | ok d ρ1 => cases d with
    | bl k => cases k <;> rfl
    | _ => rfl
  | _ => rfl
@[simp] theorem rIfK_b {c : Bool} {f g : ME} : rIfK (.ok (.bl c) ρ) f g = if c = true then f ρ else g ρ := by cases c <;> rfl
def rAndK (c : Re) (g : ME) : Re := match c with
  | .ok (.bl true) ρ1 => g ρ1
  | .ok (.bl false) ρ1 => .ok (.bl false) ρ1
  | .ok _ _ => .no
  | .ex e ρ1 => .ex e ρ1
  | .no => .no
@[simp] theorem rAnd_ap {f g : ME} : rAnd f g ρ = rAndK (f ρ) g := by
  unfold rAnd rAndK
  cases f ρ with
  | ok d ρ1 => cases d with
    | bl k => cases k <;> rfl
    | _ => rfl
  | _ => rfl
@[simp] theorem rAndK_b {c : Bool} {g : ME} : rAndK (.ok (.bl c) ρ) g = if c = true then g ρ else .ok (.bl false) ρ := by cases c <;> rfl
def rOrK (c : Re) (g : ME) : Re := match c with
  | .ok (.bl true) ρ1 => .ok (.bl true) ρ1
  | .ok (.bl false) ρ1 => g ρ1
  | .ok _ _ => .no
  | .ex e ρ1 => .ex e ρ1
  | .no => .no
@[simp] theorem rOr_ap {f g : ME} : rOr f g ρ = rOrK (f ρ) g := by
  unfold rOr rOrK
  cases f ρ with
  | ok d ρ1 => cases d with
    | bl k => cases k <;> rfl
    | _ => rfl
  | _ => rfl
@[simp] theorem rOrK_b {c : Bool} {g : ME} : rOrK (.ok (.bl c) ρ) g = if c = true then .ok (.bl true) ρ else g ρ := by cases c <;> rfl
def rNotK : Re → Re
  | .ok (.bl b) ρ1 => .ok (.bl (!b)) ρ1
  | .ok _ _ => .no
  | .ex e ρ1 => .ex e ρ1
  | .no => .no
@[simp] theorem rNot_ap {f : ME} : rNot f ρ = rNotK (f ρ) := by
  unfold rNot rNotK
  cases f ρ with
  | ok d ρ1 => cases d <;> rfl
  | _ => rfl
@[simp] theorem rNotK_b {c : Bool} : rNotK (.ok (.bl c) ρ) = .ok (.bl (!c)) ρ := rfl
@[simp] theorem vB_ap {op : List D → Option D} {m : MVs} : vB op m ρ = (m ρ).bind op := rfl
@[simp] theorem vNil_ap : vNil ρ = some [] := rfl
def consK : Option D → Option (List D) → Option (List D)
  | some d, some ds => some (d :: ds)
  | _, _ => none
@[simp] theorem vCons_ap {f : MV} {m : MVs} : vCons f m ρ = consK (f ρ) (m ρ) := by
  unfold vCons consK
  cases f ρ <;> cases m ρ <;> rfl
@[simp] theorem consK_s : consK (some d) (some ds) = some (d :: ds) := rfl
def ch3 (op' : D → D → Option D) (b : D) : Option D → Option D
  | some d => op' b d
  | none => none
def ch2 (op' : D → D → Option D) (b : D) (c h : Option D) : Option D := match c with
  | some (.bl true) => ch3 op' b h
  | some (.bl false) => some (.bl false)
  | _ => none
def ch1 (op op' : D → D → Option D) (f g h : Option D) : Option D := match f, g with
  | some a, some b => ch2 op' b (op a b) h
  | _, _ => none
@[simp] theorem vChain_ap {op op' : D → D → Option D} {f g h : MV} : vChain op op' f g h ρ = ch1 op op' (f ρ) (g ρ) (h ρ) := by
  unfold vChain ch1
  cases f ρ with
  | none => rfl
  | some a =>
    cases g ρ with
    | none => rfl
    | some b =>
      show ((op a b).bind fun c => match c with | .bl true => (h ρ).bind fun d => op' b d | .bl false => some (.bl false) | _ => none) = ch2 op' b (op a b) (h ρ)
      cases op a b with
      | none => rfl
      | some c => cases c with
        | bl k => cases k with
          | true => cases h ρ <;> rfl
          | false => rfl
        | _ => rfl
@[simp] theorem ch1_s {op op' : D → D → Option D} {h : Option D} : ch1 op op' (some a) (some b) h = ch2 op' b (op a b) h := rfl
@[simp] theorem ch2_b {op' : D → D → Option D} {c : Bool} {h : Option D} : ch2 op' b (some (.bl c)) h = if c = true then ch3 op' b h else some (.bl false) := by cases c <;> rfl
@[simp] theorem ch3_s {op' : D → D → Option D} : ch3 op' b (some d) = op' b d := rfl
/-! arguments, calls -/
@[simp] theorem aNil_ap : aNil ρ = .ok [] ρ := rfl
def aEK2 (d : D) : Ra → Ra
  | .ok as ρ2 => .ok (.val d :: as) ρ2
  | .ex e ρ2 => .ex e ρ2
  | .no => .no
def aEK (r : Re) (m : MA) : Ra := match r with
  | .ok d ρ1 => aEK2 d (m ρ1)
  | .ex e ρ1 => .ex e ρ1
  | .no => .no
@[simp] theorem aE_ap {f : ME} {m : MA} : aE f m ρ = aEK (f ρ) m := by
  unfold aE aEK
  cases f ρ with
  | ok d ρ1 => show (match m ρ1 with | .ok as ρ2 => Ra.ok (.val d :: as) ρ2 | .ex e ρ2 => .ex e ρ2 | .no => .no) = aEK2 d (m ρ1); cases m ρ1 <;> rfl
  | _ => rfl
@[simp] theorem aEK_ok {m : MA} : aEK (.ok d ρ) m = aEK2 d (m ρ) := rfl
@[simp] theorem aEK_ex {m : MA} : aEK (.ex e ρ) m = .ex e ρ := rfl
@[simp] theorem aEK2_ok {as : List Ag} : aEK2 d (.ok as ρ) = .ok (.val d :: as) ρ := rfl
@[simp] theorem aEK2_ex : aEK2 d (.ex e ρ) = .ex e ρ := rfl
def aIoK (i : Nat) (o : Option D) (r : Ra) : Ra := match o with
  | some _ => match r with
    | .ok as ρ2 => .ok (.io i :: as) ρ2
    | .ex e ρ2 => .ex e ρ2
    | .no => .no
  | none => .no
def aBwK (i : Nat) (o : Option D) (r : Ra) : Ra := match o with
  | some _ => match r with
    | .ok as ρ2 => .ok (.bw i :: as) ρ2
    | .ex e ρ2 => .ex e ρ2
    | .no => .no
  | none => .no
@[simp] theorem aIo_ap {m : MA} : aIo i m ρ = aIoK i (gt ρ i) (m ρ) := by
  unfold aIo aIoK
  cases gt ρ i with
  | none => rfl
  | some _ => cases m ρ <;> rfl
@[simp] theorem aBw_ap {m : MA} : aBw i m ρ = aBwK i (gt ρ i) (m ρ) := by
  unfold aBw aBwK
  cases gt ρ i with
  | none => rfl
  | some _ => cases m ρ <;> rfl
@[simp] theorem aIoK_ok {as : List Ag} : aIoK i (some d) (.ok as ρ) = .ok (.io i :: as) ρ := rfl
@[simp] theorem aBwK_ok {as : List Ag} : aBwK i (some d) (.ok as ρ) = .ok (.bw i :: as) ρ := rfl
@[simp] theorem vals_nil : vals [] = some [] := rfl
@[simp] theorem vals_cons {as : List Ag} : vals (.val d :: as) = (vals as).map (d :: ·) := rfl
@[simp] theorem fill_nil : fill [] ρ = some ([], ρ) := rfl
@[simp] theorem fill_val {as : List Ag} : fill (.val d :: as) ρ = (fill as ρ).map fun p => (d :: p.1, p.2) := rfl
@[simp] theorem fill_io {as : List Ag} : fill (.io i :: as) ρ = (gt ρ i).bind fun d => (fill as (ρ.set i none)).map fun p => (d :: p.1, p.2) := rfl
@[simp] theorem fillB_nil : fillB [] ρ = some ([], ρ) := rfl
@[simp] theorem fillB_val {as : List Ag} : fillB (.val d :: as) ρ = (fillB as ρ).map fun p => (d :: p.1, p.2) := rfl
@[simp] theorem fillB_io {as : List Ag} : fillB (.io i :: as) ρ = (gt ρ i).bind fun d => (fillB as (ρ.set i none)).map fun p => (d :: p.1, p.2) := rfl
def bwK (q : List D × Env) : Option D → Option (List D × Env)
  | some d => if noObj d = true then some (frz d :: q.1, q.2) else none
  | none => none
def bwK0 (i : Nat) : Option (List D × Env) → Option (List D × Env)
  | some q => bwK q (gt q.2 i)
  | none => none
@[simp] theorem fillB_bw {as : List Ag} : fillB (.bw i :: as) ρ = bwK0 i (fillB as ρ) := by
  show ((fillB as ρ).bind fun p => (gt p.2 i).bind fun d => if noObj d = true then some (frz d :: p.1, p.2) else none) = _
  cases fillB as ρ with
  | none => rfl
  | some q => show ((gt q.2 i).bind fun d => if noObj d = true then some (frz d :: q.1, q.2) else none) = bwK q (gt q.2 i); cases gt q.2 i <;> rfl
@[simp] theorem bwK0_s : bwK0 i (some (ds, ρ)) = bwK (ds, ρ) (gt ρ i) := rfl
@[simp] theorem bwK_s : bwK (ds, ρ) (some d) = if noObj d = true then some (frz d :: ds, ρ) else none := rfl
@[simp] theorem bk_nil {os : Env} : bk [] os ρ = ρ := rfl
@[simp] theorem bk_io {as : List Ag} {o : Option D} {os : Env} : bk (.io i :: as) (o :: os) ρ = bk as os (ρ.set i o) := rfl
@[simp] theorem bk_val {as : List Ag} {o : Option D} {os : Env} : bk (.val d :: as) (o :: os) ρ = bk as os ρ := rfl
@[simp] theorem bk_bw {as : List Ag} {o : Option D} {os : Env} : bk (.bw i :: as) (o :: os) ρ = bk as os ρ := rfl
def callR (as : List Ag) (ρ : Env) : Re → Re
  | .ok d os => .ok d (bk as os ρ)
  | .ex e os => .ex e (bk as os ρ)
  | .no => .no
def callF (fn : Fn) (dv : List D) (as : List Ag) : Option (List D × Env) → Re
  | some p => callR as p.2 (fn (p.1 ++ dv))
  | none => .no
def callK (fn : Fn) (dv : List D) : Ra → Re
  | .ok as ρ1 => callF fn dv as (fill as ρ1)
  | .ex e ρ1 => .ex e ρ1
  | .no => .no
@[simp] theorem call_ap {fn : Fn} {dv : List D} {m : MA} : rCall fn dv m ρ = callK fn dv (m ρ) := by
  unfold rCall callK
  cases m ρ with
  | ok as ρ1 =>
    show (match fill as ρ1 with | some p => (match fn (p.1 ++ dv) with | .ok d os => Re.ok d (bk as os p.2) | .ex e os => .ex e (bk as os p.2) | .no => .no) | none => .no) = callF fn dv as (fill as ρ1)
    cases fill as ρ1 with
    | none => rfl
    | some p => show (match fn (p.1 ++ dv) with | .ok d os => Re.ok d (bk as os p.2) | .ex e os => .ex e (bk as os p.2) | .no => .no) = callR as p.2 (fn (p.1 ++ dv)); cases fn (p.1 ++ dv) <;> rfl
  | _ => rfl
@[simp] theorem callK_ok {fn : Fn} {dv : List D} {as : List Ag} : callK fn dv (.ok as ρ) = callF fn dv as (fill as ρ) := rfl
@[simp] theorem callF_s {fn : Fn} {dv : List D} {as : List Ag} : callF fn dv as (some (ds, ρ)) = callR as ρ (fn (ds ++ dv)) := rfl
@[simp] theorem callR_ok {as : List Ag} {os : Env} : callR as ρ (.ok d os) = .ok d (bk as os ρ) := rfl
@[simp] theorem callR_ex {as : List Ag} {os : Env} : callR as ρ (.ex e os) = .ex e (bk as os ρ) := rfl
def callRB (as : List Ag) (ρ : Env) : Re → Re
  | .ok d os => if (okB d && okEnv os) = true then .ok d (bk as os ρ) else .no
  | .ex e os => if (okBs (e.fs.map (·.2)) && okEnv os) = true then .ex e (bk as os ρ) else .no
  | .no => .no
def callFB (fn : Fn) (dv : List D) (as : List Ag) : Option (List D × Env) → Re
  | some p => callRB as p.2 (fn (p.1 ++ dv))
  | none => .no
def callKB (fn : Fn) (dv : List D) : Ra → Re
  | .ok as ρ1 => callFB fn dv as (fillB as ρ1)
  | .ex e ρ1 => .ex e ρ1
  | .no => .no
@[simp] theorem callB_ap {fn : Fn} {dv : List D} {m : MA} : rCallB fn dv m ρ = callKB fn dv (m ρ) := by
  unfold rCallB callKB
  cases m ρ with
  | ok as ρ1 =>
    show (match fillB as ρ1 with | some p => (match fn (p.1 ++ dv) with | .ok d os => if (okB d && okEnv os) = true then Re.ok d (bk as os p.2) else .no | .ex e os => if (okBs (e.fs.map (·.2)) && okEnv os) = true then .ex e (bk as os p.2) else .no | .no => .no) | none => .no) = callFB fn dv as (fillB as ρ1)
    cases fillB as ρ1 with
    | none => rfl
    | some p => show (match fn (p.1 ++ dv) with | .ok d os => if (okB d && okEnv os) = true then Re.ok d (bk as os p.2) else .no | .ex e os => if (okBs (e.fs.map (·.2)) && okEnv os) = true then .ex e (bk as os p.2) else .no | .no => .no) = callRB as p.2 (fn (p.1 ++ dv)); cases fn (p.1 ++ dv) <;> rfl
  | _ => rfl
@[simp] theorem callKB_ok {fn : Fn} {dv : List D} {as : List Ag} : callKB fn dv (.ok as ρ) = callFB fn dv as (fillB as ρ) := rfl
@[simp] theorem callFB_s {fn : Fn} {dv : List D} {as : List Ag} : callFB fn dv as (some (ds, ρ)) = callRB as ρ (fn (ds ++ dv)) := rfl
@[simp] theorem callRB_ok {as : List Ag} {os : Env} : callRB as ρ (.ok d os) = if (okB d && okEnv os) = true then .ok d (bk as os ρ) else .no := rfl
def callRK (ρ : Env) : Re → Re
  | .ok d _ => if okB d = true then .ok d ρ else .no
  | .ex e _ => if okBs (e.fs.map (·.2)) = true then .ex e ρ else .no
  | .no => .no
def callFK (fn : Fn) (π : List Nat) : Option (List D × Env) → Re
  | some p => if noOwns p.1 = true then callRK p.2 (fn (prm π p.1)) else .no
  | none => .no
def callKK (fn : Fn) (π : List Nat) : Ra → Re
  | .ok as ρ1 => callFK fn π (fillB as ρ1)
  | .ex e ρ1 => .ex e ρ1
  | .no => .no
@[simp] theorem callKB_ap {fn : Fn} {π : List Nat} {m : MA} : rCallKB fn π m ρ = callKK fn π (m ρ) := by
  unfold rCallKB callKK
  cases m ρ with
  | ok as ρ1 =>
    show (match fillB as ρ1 with | some p => if noOwns p.1 = true then match fn (prm π p.1) with | .ok d _ => if okB d = true then Re.ok d p.2 else .no | .ex e _ => if okBs (e.fs.map (·.2)) = true then .ex e p.2 else .no | .no => .no else .no | none => .no) = callFK fn π (fillB as ρ1)
    cases fillB as ρ1 with
    | none => rfl
    | some p =>
      show (if noOwns p.1 = true then match fn (prm π p.1) with | .ok d _ => if okB d = true then Re.ok d p.2 else .no | .ex e _ => if okBs (e.fs.map (·.2)) = true then .ex e p.2 else .no | .no => .no else .no) = (if noOwns p.1 = true then callRK p.2 (fn (prm π p.1)) else .no)
      cases fn (prm π p.1) <;> rfl
  | _ => rfl
@[simp] theorem callKK_ok {fn : Fn} {π : List Nat} {as : List Ag} : callKK fn π (.ok as ρ) = callFK fn π (fillB as ρ) := rfl
@[simp] theorem callFK_s {fn : Fn} {π : List Nat} : callFK fn π (some (ds, ρ)) = if noOwns ds = true then callRK ρ (fn (prm π ds)) else .no := rfl
@[simp] theorem callRK_ok {os : Env} : callRK ρ (.ok d os) = if okB d = true then .ok d ρ else .no := rfl
@[simp] theorem prm_nil {α : Type} {xs : List α} : prm [] xs = [] := rfl
@[simp] theorem prm_cons {α : Type} {xs : List α} {π : List Nat} : prm (i :: π) xs = (match xs[i]? with | some x => x :: prm π xs | none => prm π xs) := by
  unfold prm
  rw [List.filterMap_cons]
  cases xs[i]? <;> rfl
/-! builtins, displays -/
def rBV (op : List D → Option D) (ρ : Env) : Option (List D) → Re
  | some ds => .of (op ds) ρ
  | none => .no
def rBK (op : List D → Option D) : Ra → Re
  | .ok as ρ1 => rBV op ρ1 (vals as)
  | .ex e ρ1 => .ex e ρ1
  | .no => .no
@[simp] theorem rB_ap {op : List D → Option D} {m : MA} : rB op m ρ = rBK op (m ρ) := by
  unfold rB rBK
  cases m ρ with
  | ok as ρ1 => show (match vals as with | some ds => Re.of (op ds) ρ1 | none => .no) = rBV op ρ1 (vals as); cases vals as <;> rfl
  | _ => rfl
@[simp] theorem rBK_ok {op : List D → Option D} {as : List Ag} : rBK op (.ok as ρ) = rBV op ρ (vals as) := rfl
@[simp] theorem rBK_ex {op : List D → Option D} : rBK op (.ex e ρ) = .ex e ρ := rfl
@[simp] theorem rBV_s {op : List D → Option D} : rBV op ρ (some ds) = .of (op ds) ρ := rfl
@[simp] theorem rNV_ap {op : List D → Option D} {m : MVs} : rNV op m ρ = rBV op ρ (m ρ) := by
  unfold rNV rBV
  cases m ρ <;> rfl
def lstV (k : Nd) (o : Bool) (ρ : Env) : Option (List D) → Re
  | some ds => .ok (.nd k o ds) ρ
  | none => .no
def lstK (k : Nd) (o : Bool) : Ra → Re
  | .ok as ρ1 => lstV k o ρ1 (vals as)
  | .ex e ρ1 => .ex e ρ1
  | .no => .no
@[simp] theorem rLst_ap {m : MA} : rLst m ρ = lstK .lst true (m ρ) := by
  unfold rLst lstK
  cases m ρ with
  | ok as ρ1 => show (match vals as with | some ds => Re.ok (.nd .lst true ds) ρ1 | none => .no) = lstV .lst true ρ1 (vals as); cases vals as <;> rfl
  | _ => rfl
@[simp] theorem rTup_ap {m : MA} : rTup m ρ = lstK .tup false (m ρ) := by
  unfold rTup lstK
  cases m ρ with
  | ok as ρ1 => show (match vals as with | some ds => Re.ok (.nd .tup false ds) ρ1 | none => .no) = lstV .tup false ρ1 (vals as); cases vals as <;> rfl
  | _ => rfl
@[simp] theorem lstK_ok {k : Nd} {o : Bool} {as : List Ag} : lstK k o (.ok as ρ) = lstV k o ρ (vals as) := rfl
@[simp] theorem lstK_ex {k : Nd} {o : Bool} : lstK k o (.ex e ρ) = .ex e ρ := rfl
@[simp] theorem lstV_s {k : Nd} {o : Bool} : lstV k o ρ (some ds) = .ok (.nd k o ds) ρ := rfl
def rTK : Re → Re
  | .ok d ρ1 => if noObj d = true then .ok (frz d) ρ1 else .no
  | .ex e ρ1 => .ex e ρ1
  | .no => .no
@[simp] theorem rT_ap {f : ME} : rT f ρ = rTK (f ρ) := by
  unfold rT rTK
  cases f ρ <;> rfl
@[simp] theorem rTK_ok : rTK (.ok d ρ) = if noObj d = true then .ok (frz d) ρ else .no := rfl
def ixK2 (k : D) (ρ : Env) : Option D → Re
  | some a => match dIx a k with
    | some d => if noOwn d = true then .ok d ρ else .no
    | none => .no
  | none => .no
def ixK1 (i : Nat) (o : Option D) (r : Re) : Re := match o with
  | some _ => match r with
    | .ok k ρ1 => ixK2 k ρ1 (gt ρ1 i)
    | .ex e ρ => .ex e ρ
    | .no => .no
  | none => .no
@[simp] theorem rIxN_ap {g : ME} : rIxN i g ρ = ixK1 i (gt ρ i) (g ρ) := by
  unfold rIxN ixK1
  cases gt ρ i with
  | none => rfl
  | some _ =>
    cases g ρ with
    | ok k ρ1 => show (match gt ρ1 i with | some a => (match dIx a k with | some d => if noOwn d = true then Re.ok d ρ1 else .no | none => .no) | none => .no) = ixK2 k ρ1 (gt ρ1 i); cases gt ρ1 i <;> rfl
    | _ => rfl
@[simp] theorem ixK1_ok : ixK1 i (some a) (.ok b ρ) = ixK2 b ρ (gt ρ i) := rfl
@[simp] theorem ixK2_s : ixK2 b ρ (some a) = rVK (dIx a b) ρ := by
  show (match dIx a b with | some d => if noOwn d = true then Re.ok d ρ else .no | none => .no) = _
  unfold rVK
  cases dIx a b <;> rfl
/-! methods, places -/
def mtK4 (i : Nat) (ρ : Env) : Option (D × D) → Re
  | some z => .ok z.1 (ρ.set i (some z.2))
  | none => .no
def mtK3 (op : List D → List D → Option (D × List D)) (i : Nat) (ρ : Env) : Option D → Option (List D) → Re
  | some c, some ds => mtK4 i ρ (muD op c ds)
  | _, _ => .no
def mtK2 (op : List D → List D → Option (D × List D)) (i : Nat) : Ra → Re
  | .ok as ρ1 => mtK3 op i ρ1 (gt ρ1 i) (vals as)
  | .ex e ρ1 => .ex e ρ1
  | .no => .no
def mtK1 (op : List D → List D → Option (D × List D)) (i : Nat) (o : Option D) (r : Ra) : Re := match o with
  | some c0 => if isL c0 = true then mtK2 op i r else .no
  | none => .no
@[simp] theorem rMtN_ap {op : List D → List D → Option (D × List D)} {m : MA} : rMtN op i m ρ = mtK1 op i (gt ρ i) (m ρ) := by
  unfold rMtN mtK1
  cases gt ρ i with
  | none => rfl
  | some c0 =>
    show (if isL c0 = true then match m ρ with | .ok as ρ1 => (match vals as with | some ds => (match gt ρ1 i with | some c => (match muD op c ds with | some z => Re.ok z.1 (ρ1.set i (some z.2)) | none => .no) | none => .no) | none => .no) | .ex e ρ1 => .ex e ρ1 | .no => .no else .no) = if isL c0 = true then mtK2 op i (m ρ) else .no
    congr 1
    cases m ρ with
    | ok as ρ1 =>
      show (match vals as with | some ds => (match gt ρ1 i with | some c => (match muD op c ds with | some z => Re.ok z.1 (ρ1.set i (some z.2)) | none => .no) | none => .no) | none => .no) = mtK3 op i ρ1 (gt ρ1 i) (vals as)
      cases vals as with
      | none => cases gt ρ1 i <;> rfl
      | some ds =>
        cases gt ρ1 i with
        | none => rfl
        | some c => show (match muD op c ds with | some z => Re.ok z.1 (ρ1.set i (some z.2)) | none => .no) = mtK4 i ρ1 (muD op c ds); cases muD op c ds <;> rfl
    | _ => rfl
@[simp] theorem isL_t {xs : List D} : isL (.nd .lst true xs) = true := rfl
@[simp] theorem mtK1_s {op : List D → List D → Option (D × List D)} {xs : List D} {r : Ra} : mtK1 op i (some (.nd .lst true xs)) r = mtK2 op i r := rfl
@[simp] theorem mtK2_ok {op : List D → List D → Option (D × List D)} {as : List Ag} : mtK2 op i (.ok as ρ) = mtK3 op i ρ (gt ρ i) (vals as) := rfl
def mtK5 (i : Nat) (ρ : Env) : Option (D × List D) → Re
  | some z => .ok z.1 (ρ.set i (some (.nd .lst true z.2)))
  | none => .no
@[simp] theorem mtK3_s {op : List D → List D → Option (D × List D)} {xs : List D} : mtK3 op i ρ (some (.nd .lst true xs)) (some ds) = mtK5 i ρ (op xs ds) := by
  show mtK4 i ρ ((op xs ds).map fun z => (z.1, .nd .lst true z.2)) = _
  cases op xs ds <;> rfl
@[simp] theorem mtK5_s {xs : List D} : mtK5 i ρ (some (d, xs)) = .ok d (ρ.set i (some (.nd .lst true xs))) := rfl
@[simp] theorem pN_ap : pN ρ = some [] := rfl
@[simp] theorem getS_nil : getS ρ i [] = gt ρ i := by
  unfold getS
  cases gt ρ i with
  | none => rfl
  | some d => cases d <;> rfl
def setN (i : Nat) (c : D) (ρ : Env) : Option D → Option Env
  | some _ => some (ρ.set i (some c))
  | none => none
@[simp] theorem setS_nil {c : D} : setS ρ i [] c = setN i c ρ (gt ρ i) := by
  unfold setS setN
  cases gt ρ i with
  | none => rfl
  | some d => cases d <;> rfl
@[simp] theorem setN_s {c : D} : setN i c ρ (some d) = some (ρ.set i (some c)) := rfl
@[simp] theorem vP_ap {π : MP} : vP i π ρ = (π ρ).bind fun js => getS ρ i js := rfl
def setK3 (i : Nat) (js : List Nat) (xs : List D) (d : D) (ρ : Env) : Option Nat → Option Env
  | some j => setS ρ i js (.nd .lst true (xs.set j d))
  | none => none
def setK2 (i : Nat) (js : List Nat) (d : D) (ρ : Env) : Option D → Option D → Option Env
  | some (.nd .lst true xs), some (.int n) => setK3 i js xs d ρ (ixN xs.length n)
  | _, _ => none
def setK1 (i : Nat) (g : MV) (d : D) (ρ : Env) : Option (List Nat) → Option Env
  | some js => setK2 i js d ρ (getS ρ i js) (g ρ)
  | none => none
@[simp] theorem mSet_ap {π : MP} {g : MV} : mSet i π g d ρ = setK1 i g d ρ (π ρ) := by
  unfold mSet setK1
  cases π ρ with
  | none => rfl
  | some js =>
    show (match getS ρ i js with | some (.nd .lst true xs) => (match g ρ with | some (.int n) => (ixN xs.length n).bind fun j => setS ρ i js (.nd .lst true (xs.set j d)) | _ => none) | _ => none) = setK2 i js d ρ (getS ρ i js) (g ρ)
    generalize getS ρ i js = o
    generalize g ρ = q
    rcases o with _ | o
    · rfl
    · cases o with
      | nd k oo xs =>
        cases k <;> cases oo <;> rcases q with _ | q <;> first | rfl | (cases q <;> first | rfl | (rename_i n; show ((ixN xs.length n).bind fun j => setS ρ i js (.nd .lst true (xs.set j d))) = setK3 i js xs d ρ (ixN xs.length n); cases ixN xs.length n <;> rfl))
      | _ => rfl
@[simp] theorem setK1_s {g : MV} {js : List Nat} : setK1 i g d ρ (some js) = setK2 i js d ρ (getS ρ i js) (g ρ) := rfl
@[simp] theorem setK2_s {js : List Nat} {xs : List D} {n : Int} : setK2 i js d ρ (some (.nd .lst true xs)) (some (.int n)) = setK3 i js xs d ρ (ixN xs.length n) := rfl
@[simp] theorem setK3_s {js : List Nat} {xs : List D} : setK3 i js xs d ρ (some j) = setS ρ i js (.nd .lst true (xs.set j d)) := rfl
def auK2 (i : Nat) (π : MP) (g : MV) (ρ : Env) : Option D → Ou
  | some z => nxO (mSet i π g z ρ)
  | none => .no
def auK1 (op : D → D → Option D) (i : Nat) (π : MP) (g : MV) (ρ : Env) : Option D → Option D → Ou
  | some x, some y => if noOwn x = true then auK2 i π g ρ (op x y) else .no
  | _, _ => .no
@[simp] theorem mAugS_ap {op : D → D → Option D} {π : MP} {g f : MV} : mAugS op i π g f ρ = auK1 op i π g ρ (vOp dIx (vP i π) g ρ) (f ρ) := by
  unfold mAugS auK1
  cases vOp dIx (vP i π) g ρ with
  | none => cases f ρ <;> rfl
  | some x =>
    cases f ρ with
    | none => rfl
    | some y =>
      show (if noOwn x = true then match op x y with | some z => (match mSet i π g z ρ with | some ρ1 => Ou.nx ρ1 | none => .no) | none => .no else .no) = if noOwn x = true then auK2 i π g ρ (op x y) else .no
      rfl
@[simp] theorem auK1_s {op : D → D → Option D} {π : MP} {g : MV} : auK1 op i π g ρ (some a) (some b) = if noOwn a = true then auK2 i π g ρ (op a b) else .no := rfl
@[simp] theorem auK2_s {π : MP} {g : MV} : auK2 i π g ρ (some d) = nxO (mSet i π g d ρ) := rfl
/-! iterables, comprehensions, defs -/
def iEK : Re → Option (List D × Env)
  | .ok (.nd k _ xs) ρ1 => if (sqK k && noOwns xs) = true then some (xs, ρ1) else none
  | _ => none
@[simp] theorem iE_ap {f : ME} : iE f ρ = iEK (f ρ) := rfl
@[simp] theorem iEK_s {k : Nd} {o : Bool} {xs : List D} : iEK (.ok (.nd k o xs) ρ) = if (sqK k && noOwns xs) = true then some (xs, ρ) else none := rfl
@[simp] theorem sq_lst : sqK .lst = true := rfl
@[simp] theorem sq_fzl : sqK .fzl = true := rfl
@[simp] theorem sq_tup : sqK .tup = true := rfl
def iR1V (ρ1 : Env) : Option (List D) → Option (List D × Env)
  | some [.int j] => if (decide (-(2 ^ 62) ≤ j) && decide (j < 2 ^ 62)) = true then some (rgD 0 j, ρ1) else none
  | _ => none
def iR1K : Ra → Option (List D × Env)
  | .ok as ρ1 => iR1V ρ1 (vals as)
  | _ => none
@[simp] theorem iR1_ap {m : MA} : iR1 m ρ = iR1K (m ρ) := rfl
@[simp] theorem iR1K_ok {as : List Ag} : iR1K (.ok as ρ) = iR1V ρ (vals as) := rfl
theorem iR1V_s {j : Int} (h : -(2 ^ 62) ≤ j) (h2 : j < 2 ^ 62) : iR1V ρ (some [.int j]) = some (rgD 0 j, ρ) := by
  show (if _ then _ else _) = _
  rw [decide_eq_true h, decide_eq_true h2]; rfl
def iZV (ρ1 : Env) : Option (List D) → Option (List D × Env)
  | some [.nd k false xs, .nd k' false ys] => if (sqK k && sqK k' && (decide (k = .tup) == decide (k' = .tup)) && noOwns xs && noOwns ys) = true then some (List.zipWith (fun x y => .nd .tup false [x, y]) xs ys, ρ1) else none
  | _ => none
def iZK : Ra → Option (List D × Env)
  | .ok as ρ1 => iZV ρ1 (vals as)
  | _ => none
@[simp] theorem iZ_ap {m : MA} : iZ m ρ = iZK (m ρ) := rfl
@[simp] theorem iZK_ok {as : List Ag} : iZK (.ok as ρ) = iZV ρ (vals as) := rfl
@[simp] theorem iZV_l {xs ys : List D} : iZV ρ (some [.nd .lst false xs, .nd .lst false ys]) = if (noOwns xs && noOwns ys) = true then some (List.zipWith (fun x y => .nd .tup false [x, y]) xs ys, ρ) else none := by
  show (if (true && noOwns xs && noOwns ys) = true then _ else _) = _
  rw [Bool.true_and]
@[simp] theorem rYes_ap : rYes ρ = .ok (.bl true) ρ := rfl
def lcR (own : List Nat) (ρ1 : Env) : Re → Re
  | .ok d ρ2 => .ok d (resE ρ2 ρ1 own)
  | _ => .no
def lcK (own : List Nat) (m : MG) (tt te : ME) : Option (List D × Env) → Re
  | some p => if decide (p.1.length ≤ sizeLine) = true then lcR own p.2 (lcGo own m tt te p.1 [] (wipE p.2 own)) else .no
  | none => .no
@[simp] theorem rLc_ap {own : List Nat} {f : MI} {m : MG} {tt te : ME} : rLc own f m tt te ρ = lcK own m tt te (f ρ) := by
  unfold rLc lcK
  cases f ρ with
  | none => rfl
  | some p =>
    show (if decide (p.1.length ≤ sizeLine) = true then match lcGo own m tt te p.1 [] (wipE p.2 own) with | .ok d ρ2 => Re.ok d (resE ρ2 p.2 own) | _ => .no else .no) = if decide (p.1.length ≤ sizeLine) = true then lcR own p.2 (lcGo own m tt te p.1 [] (wipE p.2 own)) else .no
    rfl
@[simp] theorem lcR_ok {own : List Nat} {ρ2 : Env} : lcR own ρ1 (.ok d ρ2) = .ok d (resE ρ2 ρ1 own) := rfl
theorem lcK_s {own : List Nat} {m : MG} {tt te : ME} (h : ds.length ≤ sizeLine) : lcK own m tt te (some (ds, ρ)) = lcR own ρ (lcGo own m tt te ds [] (wipE ρ own)) := by
  show (if decide (ds.length ≤ sizeLine) = true then _ else _) = _
  rw [decide_eq_true h]; rfl
@[simp] theorem wipE_nil : wipE ρ [] = ρ := rfl
@[simp] theorem wipE_cons {is : List Nat} : wipE ρ (i :: is) = (wipE ρ is).set i none := rfl
@[simp] theorem resE_nil {ρ0 : Env} : resE ρ ρ0 [] = ρ := rfl
@[simp] theorem resE_cons {ρ0 : Env} {is : List Nat} : resE ρ ρ0 (i :: is) = (resE ρ ρ0 is).set i (gt (wipE ρ0 is) i) := rfl
def endK (io : List Bool) : Ou → Re
  | .rt d ρ => .ok d (msk io ρ)
  | .nx ρ => .ok .non (msk io ρ)
  | .ex e ρ => .ex e (msk io ρ)
  | _ => .no
theorem defFn_ap {n : Nat} {io : List Bool} {g : MS} : defFn n io g ds = endK io (g (ds.map some ++ List.replicate (n - ds.length) none)) := rfl
@[simp] theorem endK_rt {io : List Bool} : endK io (.rt d ρ) = .ok d (msk io ρ) := rfl
@[simp] theorem endK_nx {io : List Bool} : endK io (.nx ρ) = .ok .non (msk io ρ) := rfl
@[simp] theorem endK_ex {io : List Bool} : endK io (.ex e ρ) = .ex e (msk io ρ) := rfl
@[simp] theorem msk_nil : msk [] ρ = [] := rfl
@[simp] theorem msk_t {m : List Bool} {o : Option D} : msk (true :: m) (o :: ρ) = o :: msk m ρ := rfl
@[simp] theorem msk_f {m : List Bool} {o : Option D} : msk (false :: m) (o :: ρ) = none :: msk m ρ := rfl
@[simp] theorem gT_ap {n : Nat} {ms : MGs} {o : Bool} {xs : List D} : gT n ms (.nd .tup o xs) ρ = if xs.length = n then ms xs ρ else none := rfl
@[simp] theorem gsNil_ap : gsNil [] ρ = some ρ := rfl
@[simp] theorem gsCons_ap {m : MG} {ms : MGs} : gsCons m ms (d :: ds) ρ = (m d ρ).bind fun ρ1 => ms ds ρ1 := rfl
/-! numbers -/
section
variable {x y : Int}
@[simp] theorem dSub_i : dSub (.int x) (.int y) = some (.int (x - y)) := rfl
@[simp] theorem dAdd_i : dAdd (.int x) (.int y) = some (.int (x + y)) := rfl
@[simp] theorem dPl_i : dPl (.int x) (.int y) = some (.int (x + y)) := rfl
@[simp] theorem dLt_i : dLt (.int x) (.int y) = some (.bl (decide (x < y))) := rfl
@[simp] theorem dLe_i : dLe (.int x) (.int y) = some (.bl (decide (x ≤ y))) := rfl
@[simp] theorem dGt_i : dGt (.int x) (.int y) = some (.bl (decide (y < x))) := rfl
@[simp] theorem dGe_i : dGe (.int x) (.int y) = some (.bl (decide (y ≤ x))) := rfl
@[simp] theorem dNeg_i : dNeg (.int x) = some (.int (-x)) := rfl
theorem dMod_i (h : 0 < y) : dMod (.int x) (.int y) = some (.int (x % y)) := by
  show (if decide (0 < y) = true then _ else _) = _
  rw [decide_eq_true h]; rfl
theorem dDiv_i (h : 0 < y) (h2 : y.natAbs.log2 < 9000) : dDiv (.int x) (.int y) = some (.int (x / y)) := by
  show (if (decide (0 < y) && decide (y.natAbs.log2 < 9000)) = true then _ else _) = _
  rw [decide_eq_true h, decide_eq_true h2]; rfl
theorem dMul_i (h : x.natAbs.log2 + y.natAbs.log2 < 100000000) : dMul (.int x) (.int y) = some (.int (x * y)) := by
  show (if decide _ = true then _ else _) = _
  rw [decide_eq_true h]; rfl
theorem dPow_i (h : 0 ≤ y) (h2 : (Builtin.Int.intBits x : Int) * y ≤ 134217728) : dPow (.int x) (.int y) = some (.int (x ^ y.toNat)) := by
  show (if (decide _ && decide _) = true then _ else _) = _
  rw [decide_eq_true h, decide_eq_true h2]; rfl
@[simp] theorem dIsN_n : dIsN .non .non = some (.bl true) := rfl
@[simp] theorem dIsN_i : dIsN (.int x) .non = some (.bl false) := rfl
@[simp] theorem dIsN_nd {k : Nd} {o : Bool} {xs : List D} : dIsN (.nd k o xs) .non = some (.bl false) := rfl
@[simp] theorem dNotN_n : dNotN .non .non = some (.bl false) := rfl
@[simp] theorem dNotN_i : dNotN (.int x) .non = some (.bl true) := rfl
@[simp] theorem dNotN_nd {k : Nd} {o : Bool} {xs : List D} : dNotN (.nd k o xs) .non = some (.bl true) := rfl
@[simp] theorem dEq_i : dEq (.int x) (.int y) = some (.bl (x == y)) := rfl
@[simp] theorem dNe_i : dNe (.int x) (.int y) = some (.bl (!(x == y))) := rfl
@[simp] theorem dEq_b {p q : Bool} : dEq (.bl p) (.bl q) = some (.bl (p == q)) := rfl
@[simp] theorem dNe_b {p q : Bool} : dNe (.bl p) (.bl q) = some (.bl (!(p == q))) := rfl
@[simp] theorem dMax2_i : dMax2 [.int x, .int y] = some (.int (if y > x then y else x)) := rfl
@[simp] theorem dMin2_i : dMin2 [.int x, .int y] = some (.int (if y < x then y else x)) := rfl
@[simp] theorem dLen_l {o : Bool} {xs : List D} : dLen [.nd .lst o xs] = some (.int xs.length) := rfl
@[simp] theorem dLen_f {o : Bool} {xs : List D} : dLen [.nd .fzl o xs] = some (.int xs.length) := rfl
@[simp] theorem dLen_t {o : Bool} {xs : List D} : dLen [.nd .tup o xs] = some (.int xs.length) := rfl
@[simp] theorem dIx_l {o : Bool} {xs : List D} : dIx (.nd .lst o xs) (.int x) = atI xs x := rfl
@[simp] theorem dIx_f {o : Bool} {xs : List D} : dIx (.nd .fzl o xs) (.int x) = atI xs x := rfl
@[simp] theorem dIx_t {o : Bool} {xs : List D} : dIx (.nd .tup o xs) (.int x) = atI xs x := rfl
theorem ixN_nat {n j : Nat} (h : j < n) : ixN n (j : Int) = some j := by
  unfold ixN
  have h1 : 0 ≤ (j : Int) := by omega
  simp [h1, h]
theorem atI_nat' {α : Type} {xs : List α} {j : Nat} (h : j < xs.length) : L2.atI xs (j : Int) = some xs[j] := by
  unfold L2.atI
  rw [ixN_nat h]
  exact List.getElem?_eq_getElem h
@[simp] theorem atI_0 {α : Type} {u : α} {r : List α} : L2.atI (u :: r) 0 = some u := atI_nat' (j := 0) (xs := u :: r) (Nat.succ_pos _)
@[simp] theorem atI_1 {α : Type} {u v : α} {r : List α} : L2.atI (u :: v :: r) 1 = some v := atI_nat' (j := 1) (xs := u :: v :: r) (by simp)
@[simp] theorem atI_2 {α : Type} {u v w : α} {r : List α} : L2.atI (u :: v :: w :: r) 2 = some w := atI_nat' (j := 2) (xs := u :: v :: w :: r) (by simp)
end
@[simp] theorem isiK_ap {t : Ty6} {f : MV} : vIsi t f ρ = (f ρ).bind fun d => (isD t d).map .bl := rfl
end
/-! loops -/
/-- turn by turn, none leaves -/
theorem loop_nx {m : MG} {b : MS} (I : Nat → Env → Prop) : ∀ (ds : List D) (i0 : Nat) (ρ : Env), I i0 ρ → (∀ i d ρ, ds[i]? = some d → I (i0 + i) ρ → ∃ ρ1 ρ2, m d ρ = some ρ1 ∧ b ρ1 = .nx ρ2 ∧ I (i0 + i + 1) ρ2) → ∃ ρ', mLoop m b ds ρ = .nx ρ' ∧ I (i0 + ds.length) ρ'
  | [], i0, ρ, h, _ => ⟨ρ, rfl, h⟩
  | d :: ds, i0, ρ, h, st => by
    obtain ⟨ρ1, ρ2, e1, e2, h2⟩ := st 0 d ρ rfl h
    obtain ⟨ρ', e3, h3⟩ := loop_nx I ds (i0 + 1) ρ2 h2 fun i d ρ e hi => by
      have := st (i + 1) d ρ (by simpa using e) (by rw [show i0 + (i + 1) = i0 + 1 + i by omega]; exact hi)
      rw [show i0 + (i + 1) + 1 = i0 + 1 + i + 1 by omega] at this
      exact this
    refine ⟨ρ', ?_, by rw [show i0 + (d :: ds).length = i0 + 1 + ds.length by simp; omega]; exact h3⟩
    show (match m d ρ with | none => Ou.no | some ρ1 => (match b ρ1 with | .nx ρ2 => mLoop m b ds ρ2 | .ct ρ2 => mLoop m b ds ρ2 | .bk ρ2 => .nx ρ2 | .rt d ρ2 => .rt d ρ2 | .ex e ρ2 => .ex e ρ2 | .no => .no)) = _
    rw [e1]
    dsimp only
    rw [e2]
    exact e3
theorem rgD_at {a b : Int} {i : Nat} {d : D} (h : (rgD a b)[i]? = some d) : d = .int (a + i) ∧ a + (i : Int) < b := by
  unfold rgD at h
  rw [List.getElem?_map] at h
  obtain ⟨j, e1, e2⟩ := Option.map_eq_some_iff.mp h
  have hl := (List.getElem?_eq_some_iff.mp e1).1
  rw [List.length_range] at hl
  rw [List.getElem?_range hl] at e1
  cases e1
  exact ⟨e2.symm, by omega⟩
theorem rgD_len {a b : Int} : (rgD a b).length = (b - a).toNat := by unfold rgD; rw [List.length_map, List.length_range]
end DL
namespace DL
open PySem L2 PyProof.Rows
/-! ### comprehensions that filter and map -/
theorem lc_fm {own : List Nat} {m : MG} {tt te : ME} {ρ : Env} (p : D → Bool) (g : D → D) : ∀ (ds acc : List D), (∀ d ∈ ds, ∃ ρ1 ρ2, m d ρ = some ρ1 ∧ tt ρ1 = .ok (.bl (p d)) ρ2 ∧ wipE ρ2 own = ρ ∧ (p d = true → ∃ ρ3, te ρ2 = .ok (g d) ρ3 ∧ wipE ρ3 own = ρ)) →
    lcGo own m tt te ds acc ρ = .ok (.nd .lst true (acc ++ (ds.filter p).map g)) ρ
  | [], acc, _ => by simp [lcGo]
  | d :: ds, acc, h => by
    obtain ⟨ρ1, ρ2, e1, e2, e3, e4⟩ := h d List.mem_cons_self
    have ih := fun acc => lc_fm (own := own) (m := m) (tt := tt) (te := te) (ρ := ρ) p g ds acc fun x hx => h x (List.mem_cons_of_mem _ hx)
    cases q : p d with
    | true =>
      obtain ⟨ρ3, e5, e6⟩ := e4 q
      rw [q] at e2
      unfold lcGo
      rw [e1]; dsimp only
      rw [e2]; dsimp only
      rw [e5]; dsimp only
      rw [e6, ih, List.filter_cons, if_pos q]
      simp
    | false =>
      rw [q] at e2
      unfold lcGo
      rw [e1]; dsimp only
      rw [e2]; dsimp only
      rw [e3, ih, List.filter_cons, if_neg (by rw [q]; simp)]
theorem lc_m {own : List Nat} {m : MG} {te : ME} {ρ : Env} (g : D → D) (ds acc : List D) (h : ∀ d ∈ ds, ∃ ρ1 ρ3, m d ρ = some ρ1 ∧ wipE ρ1 own = ρ ∧ te ρ1 = .ok (g d) ρ3 ∧ wipE ρ3 own = ρ) :
    lcGo own m rYes te ds acc ρ = .ok (.nd .lst true (acc ++ ds.map g)) ρ := by
  have := lc_fm (own := own) (m := m) (tt := rYes) (te := te) (ρ := ρ) (fun _ => true) g ds acc fun d hd => by
    obtain ⟨ρ1, ρ3, e1, e2, e3, e4⟩ := h d hd
    exact ⟨ρ1, ρ1, e1, rfl, e2, fun _ => ⟨ρ3, e3, e4⟩⟩
  rw [this, List.filter_eq_self.mpr fun _ _ => rfl]
/-! ### lists of numbers as data -/
theorem toPys_ints : ∀ ns : List Int, toPys (ns.map .int) = some (ns.map PyData.int)
  | [] => rfl
  | n :: r => by
    show ((some (PyData.int n)).bind fun p => (toPys (r.map .int)).map fun ps => p :: ps) = _
    rw [toPys_ints r]; rfl
theorem toPy_ints (o : Bool) (ns : List Int) : toPy (.nd .lst o (ns.map .int)) = some (.list (ns.map PyData.int)) := by
  show (toPys (ns.map .int)).map PyData.list = _
  rw [toPys_ints]; rfl
theorem canLay_ints : ∀ ns : List Int, PyData.canLayAll0 (ns.map PyData.int) = true
  | [] => by simp [PyData.canLayAll0]
  | n :: r => by simp [PyData.canLayAll0, PyData.canLay0, canLay_ints r]
theorem depth_ints : ∀ ns : List Int, PyData.depthAll (ns.map PyData.int) ≤ 1
  | [] => by simp [PyData.depthAll]
  | n :: r => by
    have := depth_ints r
    simp only [List.map_cons, PyData.depthAll, PyData.depth]
    omega
theorem shaped_ints (ns : List Int) : SeqAt.shaped (.list (ns.map PyData.int)) = true := by
  unfold SeqAt.shaped
  have h1 := canLay_ints ns
  have h2 := depth_ints ns
  have h3 : PyData.depth (.list (ns.map PyData.int)) ≤ 64 := by simp only [PyData.depth]; omega
  simp [PyData.canLay0, h1, h3]
theorem eqv_ints : ∀ a b : List Int, PyData.eqvAll (a.map PyData.int) (b.map PyData.int) = decide (a = b)
  | [], [] => rfl
  | [], _ :: _ => rfl
  | _ :: _, [] => rfl
  | x :: a, y :: b => by
    show (PyData.eqv (.int x) (.int y) && PyData.eqvAll (a.map PyData.int) (b.map PyData.int)) = _
    rw [eqv_ints a b]
    by_cases h : x = y <;> by_cases h2 : a = b <;> simp [PyData.eqv, h, h2]
theorem dEq_ints (o o' : Bool) (a b : List Int) : dEq (.nd .lst o (a.map .int)) (.nd .lst o' (b.map .int)) = some (.bl (decide (a = b))) := by
  unfold dEq dEqB
  rw [toPy_ints, toPy_ints]
  show ((if (SeqAt.shaped _ && SeqAt.shaped _) = true then some _ else none) : Option Bool).map _ = _
  rw [shaped_ints, shaped_ints]
  show some (D.bl (PyData.eqvAll (a.map PyData.int) (b.map PyData.int))) = _
  rw [eqv_ints]
theorem dNe_ints (o o' : Bool) (a b : List Int) : dNe (.nd .lst o (a.map .int)) (.nd .lst o' (b.map .int)) = some (.bl (!decide (a = b))) := by
  unfold dNe dEqB
  rw [toPy_ints, toPy_ints]
  show ((if (SeqAt.shaped _ && SeqAt.shaped _) = true then some _ else none) : Option Bool).map _ = _
  rw [shaped_ints, shaped_ints]
  show some (D.bl (!PyData.eqvAll (a.map PyData.int) (b.map PyData.int))) = _
  rw [eqv_ints]
theorem weight_ints : ∀ (ns : List Int), (∀ n ∈ ns, n.natAbs < 10 ^ 12) → PyData.weightAll (ns.map PyData.int) ≤ 41 * ns.length
  | [], _ => by simp [PyData.weightAll]
  | n :: r, h => by
    have h1 := weight_ints r fun x hx => h x (List.mem_cons_of_mem _ hx)
    have h2 := h n List.mem_cons_self
    have h3 : Builtin.Int.intBits n ≤ 40 := intBits_le_iff.mpr (by omega)
    unfold Builtin.Int.intBits at h3
    simp only [List.map_cons, PyData.weightAll, PyData.weight, List.length_cons]
    omega
theorem dRepr_ints (o : Bool) (ns : List Int) (h : ∀ n ∈ ns, n.natAbs < 10 ^ 12) (hl : ns.length ≤ 20000) : dRepr [.nd .lst o (ns.map .int)] = some (.str (PyData.shown (.list (ns.map PyData.int)))) := by
  have e : dRepr [.nd .lst o (ns.map .int)] = (toPyE (.nd .lst o (ns.map .int))).bind fun p => if (p.showable && decide (p.depth ≤ 100) && decide (p.shown.length ≤ sizeLine)) = true then some (.str p.shown) else none := rfl
  rw [e, toPyE_of (toPy_ints o ns)]
  have c1 : PyData.canLay0 (.list (ns.map PyData.int)) = true := canLay_ints ns
  have c2 : PyData.depth (.list (ns.map PyData.int)) ≤ 64 := by
    have := depth_ints ns
    simp only [PyData.depth]; omega
  have c3 : PyData.layable0 (.list (ns.map PyData.int)) = true := by
    have h1 := weight_ints ns h
    have h2 : PyData.weight (.list (ns.map PyData.int)) ≤ 2 ^ 20 := by simp only [PyData.weight]; omega
    unfold PyData.layable0
    rw [c1, decide_eq_true c2, decide_eq_true h2]; rfl
  have c4 : PyData.intsShort 13 (.list (ns.map PyData.int)) = true := by
    simp only [PyData.intsShort]
    exact PyData.intsShortAll_ints ns h
  have c5 := PyData.shown_fits_of_layable0 (B := 13) (by omega) (by omega) c3 c4
  have c6 : PyData.showable (.list (ns.map PyData.int)) = true := by
    simp only [PyData.showable]
    clear c1 c2 c3 c4 c5 hl e
    induction ns with
    | nil => simp [PyData.showableAll]
    | cons n r ih =>
      have h2 := h n List.mem_cons_self
      have h3 : n.natAbs.log2 < 1920 := by
        by_cases z : n.natAbs = 0
        · rw [z]; decide
        · rw [Nat.log2_lt z]
          exact Nat.lt_of_lt_of_le h2 (by decide)
      simp only [List.map_cons, PyData.showableAll, PyData.showable, decide_eq_true h3, Bool.true_and]
      exact ih fun x hx => h x (List.mem_cons_of_mem _ hx)
  have c7 := PyData.hasDict_of_canLay _ c1
  show (if _ then _ else _) = _
  rw [c6, decide_eq_true (show PyData.depth (.list (ns.map PyData.int)) ≤ 100 by omega), decide_eq_true c5]
  rfl
/-! ### == and != of texts, too -/
def dEqX : D → D → Option D
  | .str x, .str y => some (.bl (decide (x = y)))
  | a, b => dEq a b
def dNeX : D → D → Option D
  | .str x, .str y => some (.bl (!decide (x = y)))
  | a, b => dNe a b
def rEqX (K : PySem.W.Frag) : R2 := fun x y H Q => rEqD K x y H Q ∨ rEq x y H Q
def rNeX (K : PySem.W.Frag) : R2 := fun x y H Q => rNeD K x y H Q ∨ rNe x y H Q
theorem op_eqX {X : Cx} (hu : X.A.units + 64 < cLine) : OpR X (compareOp .Eq) (rEqX X.K) := OpR.or (op_eqD hu) op_eq
theorem op_neX {X : Cx} (hu : X.A.units + 64 < cLine) : OpR X (compareOp .NotEq) (rNeX X.K) := OpR.or (op_neD hu) op_ne
theorem eqX_cases {a b d : D} (h : dEqX a b = some d) : dEq a b = some d ∨ ∃ x y, a = .str x ∧ b = .str y ∧ d = .bl (decide (x = y)) := by
  unfold dEqX at h
  split at h
  · exact .inr ⟨_, _, rfl, rfl, (Option.some.inj h).symm⟩
  · exact .inl h
theorem neX_cases {a b d : D} (h : dNeX a b = some d) : dNe a b = some d ∨ ∃ x y, a = .str x ∧ b = .str y ∧ d = .bl (!decide (x = y)) := by
  unfold dNeX at h
  split at h
  · exact .inr ⟨_, _, rfl, rfl, (Option.some.inj h).symm⟩
  · exact .inl h
theorem o_eqX {K : PySem.W.Frag} : OpOk K (rEqX K) dEqX := by
  intro cm F H x y a b d f h Q hs m1 m2 e o1 o2 q
  rcases eqX_cases e with e1 | ⟨u, v, rfl, rfl, rfl⟩
  · exact .inl (o_eq (K := K) cm F H x y a b d f h Q hs m1 m2 e1 o1 o2 q)
  · have h1 := o1.1
    have h2 := o2.1
    subst h1
    subst h2
    have e2 : decide (V.str u = V.str v) = decide (u = v) := decide_eq_decide.mpr ⟨fun z => V.str.inj z, fun z => congrArg V.str z⟩
    exact .inr ⟨rfl, by rw [e2]; exact q _ ⟨rfl, .rfl'⟩⟩
theorem o_neX {K : PySem.W.Frag} : OpOk K (rNeX K) dNeX := by
  intro cm F H x y a b d f h Q hs m1 m2 e o1 o2 q
  rcases neX_cases e with e1 | ⟨u, v, rfl, rfl, rfl⟩
  · exact .inl (o_ne (K := K) cm F H x y a b d f h Q hs m1 m2 e1 o1 o2 q)
  · have h1 := o1.1
    have h2 := o2.1
    subst h1
    subst h2
    have e2 : decide (V.str u = V.str v) = decide (u = v) := decide_eq_decide.mpr ⟨fun z => V.str.inj z, fun z => congrArg V.str z⟩
    exact .inr ⟨rfl, by rw [e2]; exact q _ ⟨rfl, .rfl'⟩⟩
@[simp] theorem dEqX_i {x y : Int} : dEqX (.int x) (.int y) = some (.bl (x == y)) := rfl
@[simp] theorem dNeX_i {x y : Int} : dNeX (.int x) (.int y) = some (.bl (!(x == y))) := rfl
@[simp] theorem dEqX_b {x y : Bool} : dEqX (.bl x) (.bl y) = some (.bl (x == y)) := rfl
@[simp] theorem dNeX_b {x y : Bool} : dNeX (.bl x) (.bl y) = some (.bl (!(x == y))) := rfl
@[simp] theorem dEqX_s {x y : Str} : dEqX (.str x) (.str y) = some (.bl (decide (x = y))) := rfl
@[simp] theorem dNeX_s {x y : Str} : dNeX (.str x) (.str y) = some (.bl (!decide (x = y))) := rfl
@[simp] theorem dEqX_nd {k : Nd} {o : Bool} {xs : List D} {b : D} : dEqX (.nd k o xs) b = dEq (.nd k o xs) b := rfl
@[simp] theorem dNeX_nd {k : Nd} {o : Bool} {xs : List D} {b : D} : dNeX (.nd k o xs) b = dNe (.nd k o xs) b := rfl
/-! ### isinstance, two kinds -/
def isi2K (t u : Ty6) (ρ : Env) : Option D → Re
  | some d => match isD t d, isD u d with
    | some a, some b => .ok (.bl (a || b)) ρ
    | _, _ => .no
  | none => .no
@[simp] theorem rIsi2_ap {t u : Ty6} {f : MV} {ρ : Env} : rIsi2 t u f ρ = isi2K t u ρ (f ρ) := by
  unfold rIsi2 isi2K
  cases f ρ <;> rfl
@[simp] theorem isi2K_lt_i {ρ : Env} {x : Int} : isi2K .list .tuple ρ (some (.int x)) = .ok (.bl false) ρ := rfl
@[simp] theorem isi2K_lt_l {ρ : Env} {o : Bool} {xs : List D} : isi2K .list .tuple ρ (some (.nd .lst o xs)) = .ok (.bl true) ρ := rfl
@[simp] theorem isi2K_lt_t {ρ : Env} {o : Bool} {xs : List D} : isi2K .list .tuple ρ (some (.nd .tup o xs)) = .ok (.bl true) ρ := rfl
/-! ### a place's method -/
def vtK3 (d : D) : Option Env → Re
  | some ρ1 => .ok d ρ1
  | none => .no
def vtK2 (i : Nat) (js : List Nat) (ρ : Env) : Option (D × D) → Re
  | some z => vtK3 z.1 (setS ρ i js z.2)
  | none => .no
def vtK (op : List D → List D → Option (D × List D)) (i : Nat) (js : List Nat) (ρ : Env) : Option D → Option (List D) → Re
  | some c, some ds => if noOwns ds = true then vtK2 i js ρ (muD op c ds) else .no
  | _, _ => .no
def vtK0 (op : List D → List D → Option (D × List D)) (i : Nat) (ρ : Env) (ds : Option (List D)) : Option (List Nat) → Re
  | some js => vtK op i js ρ (getS ρ i js) ds
  | none => .no
@[simp] theorem rMtV_ap {op : List D → List D → Option (D × List D)} {i : Nat} {π : MP} {m : MVs} {ρ : Env} : rMtV op i π m ρ = vtK0 op i ρ (m ρ) (π ρ) := by
  unfold rMtV vtK0
  cases π ρ with
  | none => rfl
  | some js =>
    show (match getS ρ i js with | some c => (match m ρ with | some ds => if noOwns ds = true then (match muD op c ds with | some z => (match setS ρ i js z.2 with | some ρ1 => Re.ok z.1 ρ1 | none => .no) | none => .no) else .no | none => .no) | none => .no) = vtK op i js ρ (getS ρ i js) (m ρ)
    cases getS ρ i js with
    | none => rfl
    | some c =>
      cases m ρ with
      | none => rfl
      | some ds =>
        show (if noOwns ds = true then (match muD op c ds with | some z => (match setS ρ i js z.2 with | some ρ1 => Re.ok z.1 ρ1 | none => .no) | none => .no) else .no) = if noOwns ds = true then vtK2 i js ρ (muD op c ds) else .no
        cases muD op c ds with
        | none => rfl
        | some z => show (if noOwns ds = true then (match setS ρ i js z.2 with | some ρ1 => Re.ok z.1 ρ1 | none => .no) else .no) = if noOwns ds = true then vtK3 z.1 (setS ρ i js z.2) else .no; cases setS ρ i js z.2 <;> rfl
def muM : Option (D × List D) → Option (D × D)
  | some z => some (z.1, .nd .lst true z.2)
  | none => none
@[simp] theorem muD_l {op : List D → List D → Option (D × List D)} {xs ds : List D} : muD op (.nd .lst true xs) ds = muM (op xs ds) := by
  show (op xs ds).map _ = _
  cases op xs ds <;> rfl
@[simp] theorem muM_s {d : D} {xs : List D} : muM (some (d, xs)) = some (d, .nd .lst true xs) := rfl
@[simp] theorem vtK0_s {op : List D → List D → Option (D × List D)} {i : Nat} {ρ : Env} {q : Option (List D)} {js : List Nat} : vtK0 op i ρ q (some js) = vtK op i js ρ (getS ρ i js) q := rfl
@[simp] theorem vtK_s {op : List D → List D → Option (D × List D)} {i : Nat} {ρ : Env} {js : List Nat} {c : D} {ds : List D} : vtK op i js ρ (some c) (some ds) = if noOwns ds = true then vtK2 i js ρ (muD op c ds) else .no := rfl
@[simp] theorem vtK2_s {i : Nat} {ρ : Env} {js : List Nat} {d c : D} : vtK2 i js ρ (some (d, c)) = vtK3 d (setS ρ i js c) := rfl
@[simp] theorem vtK3_s {ρ : Env} {d : D} : vtK3 d (some ρ) = .ok d ρ := rfl
end DL
namespace DL
open PySem L2 PyProof.Rows
section
variable {X : Cx} {cm : Str → Option Addr} {W : WX} {S : Sc} {pos : Pos} {K : PySem.W.Frag}
/-! ### slices -/
abbrev MO := Env → Option (Option Int)
def oNo : MO := fun _ => some none
def oV (g : MV) : MO := fun ρ => match g ρ with
  | some (.int i) => some (some i)
  | _ => none
def SpO (S : Sc) (t : TO) (m : MO) : Prop := ∀ σ F H T ρ o (Q : Option Int → Hp → Prop), Wd F H T → Sls (S.at F H) ρ σ T → m ρ = some o → Q o H → t σ H Q
def GO (X : Cx) (cm : Str → Option Addr) (e : Option Expr) (m : MO) : Prop := ∃ t, PO X e t ∧ SpO ⟨X.K, cm⟩ t m
theorem O.no : GO X cm none oNo := ⟨_, po_none, fun σ F H T ρ o Q w s e k => by cases e; exact k⟩
theorem O.v {e : Expr} {g : MV} (h : GV X cm e g) : GO X cm (some e) (oV g) := by
  obtain ⟨t, p, q⟩ := h
  refine ⟨_, po_some p, fun σ F H T ρ o Q w s e k => ?_⟩
  unfold oV at e
  cases e1 : g ρ with
  | none => rw [e1] at e; cases e
  | some d =>
    rw [e1] at e
    cases d with
    | int i =>
      cases e
      exact q σ F H T ρ _ _ w s e1 fun v f ov l => ⟨i, ov.1, k⟩
    | _ => cases e
def cutD (xs : List D) (lo hi : Option Int) : List D := (xs.drop (HT.sIx xs.length 0 lo)).take (HT.sIx xs.length xs.length hi - HT.sIx xs.length 0 lo)
def dSl : D → Option Int → Option Int → Option D
  | .nd .lst _ xs, l, h => if noOwns xs = true then some (.nd .lst true (cutD xs l h)) else none
  | .nd .tup _ xs, l, h => if noOwns xs = true then some (.nd .tup false (cutD xs l h)) else none
  | .str z, l, h => if decide (z.length ≤ sizeLine) = true then some (.str (cutS z l h)) else none
  | _, _, _ => none
def rSl (K : PySem.W.Frag) : V → Option Int → Option Int → Hp → VK → Prop := fun x l h H Q => (rSlL K x l h H Q ∨ rSlA K x l h H Q) ∨ rSlS x l h H Q
theorem sl_all : SlR X (rSl X.K) := SlR.or (SlR.or sl_list sl_tupA) sl_str
theorem Ows.takeN {E : HE} {ds : List D} {vs : List V} (h : Ows E ds vs zf) (n : Nat) : Ows E (ds.take n) (vs.take n) zf := by
  obtain ⟨g, x, h1, _, e⟩ := h.cut n
  exact h1.eqf fun a => by have := e a; rw [ad_ap] at this; simp only [zf_ap] at this ⊢; omega
theorem Ows.dropN {E : HE} {ds : List D} {vs : List V} (h : Ows E ds vs zf) (n : Nat) : Ows E (ds.drop n) (vs.drop n) zf := by
  obtain ⟨g, x, _, h1, e⟩ := h.cut n
  exact h1.eqf fun a => by have := e a; rw [ad_ap] at this; simp only [zf_ap] at this ⊢; omega
theorem sl_core {F H : Hp} {a d : D} {x : V} {f : Fp} {l h : Option Int} {Q : VK} (hs : Sub F H) (e : dSl a l h = some d) (o : Ow ⟨K, cm, F, H⟩ a x f) (k : ∀ v F' H' C, Wd F' H' C → Stp F H zf F' H' C → Ow ⟨K, cm, F', H'⟩ d v C → Q v H') : rSl K x l h H Q := by
  cases a with
  | nd kk oo xs =>
    obtain ⟨p, ws, g, rfl, hw, hn⟩ := o
    cases kk with
    | lst =>
      have e : (if noOwns xs = true then some (D.nd .lst true (cutD xs l h)) else none) = some d := e
      by_cases n : noOwns xs = true
      · rw [if_pos n] at e
        cases e
        have h0 := hw.eqf (Ows.no n hw).symm
        refine .inl (.inl ⟨p, ws, rfl, hn.lst hs, fun q hq => ?_⟩)
        obtain ⟨w3, s3⟩ := newG (o := .lst (cutV ws l h)) hs hq trivial
        refine k _ F _ (one q) w3 s3 (newL hq ?_)
        unfold cutD cutV
        rw [hw.len]
        exact (h0.dropN _).takeN _
      · rw [if_neg n] at e; cases e
    | tup =>
      have e : (if noOwns xs = true then some (D.nd .tup false (cutD xs l h)) else none) = some d := e
      by_cases n : noOwns xs = true
      · rw [if_pos n] at e
        cases e
        have h0 := hw.eqf (Ows.no n hw).symm
        refine .inl (.inr ⟨p, ws, rfl, hn.tup hs, fun z => ?_, fun z q hq => ?_⟩)
        · refine k _ F H zf (wz hs) .refl ⟨p, ws, zf, rfl, ?_, ?_⟩
          · unfold cutD
            rw [hw.len, z.1, z.2, List.drop_zero, Nat.sub_zero, ← hw.len, List.take_length]
            exact h0
          · rcases hn with ⟨h1, h2, h3, h4⟩ | ⟨_, h, _⟩ | ⟨_, h, _⟩
            · exact .inl ⟨rfl, rfl, h3, .rfl'⟩
            · exact h.elim
            · exact h.elim
        · obtain ⟨w3, s3, fs⟩ := allocF (o := .tup (cutV ws l h)) (wz hs) hq
          refine k _ _ _ zf w3 s3 ⟨q, cutV ws l h, zf, rfl, ows_sub fs (ows_up hq ?_), .inl ⟨rfl, rfl, upd_same, .rfl'⟩⟩
          unfold cutD cutV
          rw [hw.len]
          exact (h0.dropN _).takeN _
      · rw [if_neg n] at e; cases e
    | _ => cases e
  | str z =>
    have e : (if decide (z.length ≤ sizeLine) = true then some (D.str (cutS z l h)) else none) = some d := e
    by_cases zz : decide (z.length ≤ sizeLine) = true
    · rw [if_pos zz] at e
      cases e
      exact .inr ⟨z, o.1, of_decide_eq_true zz, k _ F H zf (wz hs) .refl ⟨rfl, .rfl'⟩⟩
    · rw [if_neg zz] at e; cases e
  | _ => cases e
def rSlV (f : MV) (lo hi : MO) : ME := fun ρ => match f ρ with
  | some a => match lo ρ with
    | some l => match hi ρ with
      | some h => .of (dSl a l h) ρ
      | none => .no
    | none => .no
  | none => .no
def rSlE (f : ME) (lo hi : MO) : ME := fun ρ => match f ρ with
  | .ok a ρ1 => match lo ρ1 with
    | some l => match hi ρ1 with
      | some h => .of (dSl a l h) ρ1
      | none => .no
    | none => .no
  | .ex e ρ1 => .ex e ρ1
  | .no => .no
theorem E.slV {e : Expr} {lo hi : Option Expr} {p2 : Pos} {f : MV} {ml mh : MO} (he : GV X cm e f) (hl : GO X cm lo ml) (hh : GO X cm hi mh) : GE X cm W (.Subscript e (.Slice lo hi none p2) pos) (rSlV f ml mh) := by
  obtain ⟨t, p, q⟩ := he
  obtain ⟨tl, pl, ql⟩ := hl
  obtain ⟨th, ph, qh⟩ := hh
  refine ⟨_, pe_slice sl_all p pl ph, fun σ F H T ρ Q w s k => ?_⟩
  unfold rSlV at k
  cases e1 : f ρ with
  | none => rw [e1] at k; exact k.elim
  | some a =>
    cases e2 : ml ρ with
    | none => simp only [e1, e2] at k; exact k.elim
    | some l =>
      cases e3 : mh ρ with
      | none => simp only [e1, e2, e3] at k; exact k.elim
      | some h =>
        simp only [e1, e2, e3] at k
        refine q σ F H T ρ a _ w s e1 fun x f1 o1 l1 => ql σ F H T ρ _ _ w s e2 (qh σ F H T ρ _ _ w s e3 ?_)
        cases e4 : dSl a l h with
        | none => rw [e4] at k; exact k.elim
        | some d =>
          rw [e4] at k
          refine sl_core w.sub e4 o1 fun v F3 H3 C3 w3 s3 o3 => ?_
          obtain ⟨w4, s4, l4⟩ := beside w s w3 s3
          exact k v F3 H3 T C3 w4 s4 l4 o3
theorem E.slE {e : Expr} {lo hi : Option Expr} {p2 : Pos} {f : ME} {ml mh : MO} (he : GE X cm W e f) (hl : GO X cm lo ml) (hh : GO X cm hi mh) : GE X cm W (.Subscript e (.Slice lo hi none p2) pos) (rSlE f ml mh) := by
  obtain ⟨t, p, q⟩ := he
  obtain ⟨tl, pl, ql⟩ := hl
  obtain ⟨th, ph, qh⟩ := hh
  refine ⟨_, pe_slice sl_all p pl ph, fun σ F H T ρ Q w s k => ?_⟩
  refine q σ F H T ρ _ w s ?_
  unfold rSlE at k
  cases e1 : f ρ with
  | no => rw [e1] at k; exact k
  | ex z ρ1 => rw [e1] at k; exact k
  | ok a ρ1 =>
    rw [e1] at k
    intro x F1 H1 T1 C1 w1 s1 l1 o1
    have le : ∀ a, T1 a ≤ ad T1 C1 a := fun a => by rw [ad_ap]; omega
    have k : EndE _ W σ F H T (match ml ρ1 with
      | some l => match mh ρ1 with
        | some h => .of (dSl a l h) ρ1
        | none => .no
      | none => .no) Q := k
    cases e2 : ml ρ1 with
    | none => rw [e2] at k; exact k.elim
    | some l =>
      rw [e2] at k
      have k : EndE _ W σ F H T (match mh ρ1 with
        | some h => .of (dSl a l h) ρ1
        | none => .no) Q := k
      cases e3 : mh ρ1 with
      | none => rw [e3] at k; exact k.elim
      | some h =>
        rw [e3] at k
        refine ql σ F1 H1 T1 ρ1 _ _ w1.part l1 e2 (qh σ F1 H1 T1 ρ1 _ _ w1.part l1 e3 ?_)
        have k : EndE _ W σ F H T (.of (dSl a l h) ρ1) Q := k
        cases e4 : dSl a l h with
        | none => rw [e4] at k; exact k.elim
        | some d =>
          rw [e4] at k
          refine sl_core w1.sub e4 o1 fun v F3 H3 C3 w3 s3 o3 => ?_
          obtain ⟨w4, s4, l4⟩ := beside (w1.le le) l1 w3 s3
          exact k v F3 H3 T1 C3 w4 ((s1.leR le).trans (w1.le le) s4) l4 o3
end
end DL
namespace DL
open PySem L2 PyProof.Rows
section
variable {X : Cx} {cm : Str → Option Addr} {W : WX} {S : Sc} {pos : Pos} {K : PySem.W.Frag} {tg : Expr}
/-! ### a thing made of one thing -/
def MkOk (K : PySem.W.Frag) (r : V → Hp → VK → Prop) (op : D → Option D) : Prop := ∀ cm F H (x : V) a d f (Q : VK), Sub F H → op a = some d → Ow ⟨K, cm, F, H⟩ a x f → (∀ v F' H' C, Wd F' H' C → Stp F H zf F' H' C → Ow ⟨K, cm, F', H'⟩ d v C → Q v H') → r x H Q
def rMkV (op : D → Option D) (f : MV) : ME := fun ρ => match f ρ with
  | some a => .of (op a) ρ
  | none => .no
def rMkE (op : D → Option D) (f : ME) : ME := fun ρ => match f ρ with
  | .ok a ρ1 => .of (op a) ρ1
  | .ex e ρ1 => .ex e ρ1
  | .no => .no
theorem mkV_sp {r : V → Hp → VK → Prop} {op : D → Option D} {te t : TE} {f : MV} (o : MkOk S.K r op) (q : SpV S te f) (ht : ∀ σ H Q, (te σ H fun x H1 => r x H1 Q) → t σ H Q) : SpE S W t (rMkV op f) := by
  intro σ F H T ρ Q w s k
  unfold rMkV at k
  cases e1 : f ρ with
  | none => rw [e1] at k; exact k.elim
  | some a =>
    rw [e1] at k
    have k : EndE S W σ F H T (.of (op a) ρ) Q := k
    refine ht σ H Q (q σ F H T ρ a _ w s e1 fun x f1 o1 l1 => ?_)
    cases e2 : op a with
    | none => rw [e2] at k; exact k.elim
    | some d =>
      rw [e2] at k
      refine o S.cm F H x a d f1 Q w.sub e2 o1 fun v F3 H3 C3 w3 s3 o3 => ?_
      obtain ⟨w4, s4, l4⟩ := beside w s w3 s3
      exact k v F3 H3 T C3 w4 s4 l4 o3
theorem mkE_sp {r : V → Hp → VK → Prop} {op : D → Option D} {te t : TE} {f : ME} (o : MkOk S.K r op) (q : SpE S W te f) (ht : ∀ σ H Q, (te σ H fun x H1 => r x H1 Q) → t σ H Q) : SpE S W t (rMkE op f) := by
  intro σ F H T ρ Q w s k
  refine ht σ H Q (q σ F H T ρ _ w s ?_)
  unfold rMkE at k
  cases e1 : f ρ with
  | no => rw [e1] at k; exact k
  | ex z ρ1 => rw [e1] at k; exact k
  | ok a ρ1 =>
    rw [e1] at k
    intro x F1 H1 T1 C1 w1 s1 l1 o1
    have le : ∀ a, T1 a ≤ ad T1 C1 a := fun a => by rw [ad_ap]; omega
    have k : EndE S W σ F H T (.of (op a) ρ1) Q := k
    cases e2 : op a with
    | none => rw [e2] at k; exact k.elim
    | some d =>
      rw [e2] at k
      refine o S.cm F1 H1 x a d C1 Q w1.sub e2 o1 fun v F3 H3 C3 w3 s3 o3 => ?_
      obtain ⟨w4, s4, l4⟩ := beside (w1.le le) l1 w3 s3
      exact k v F3 H3 T1 C3 w4 ((s1.leR le).trans (w1.le le) s4) l4 o3
/-! [::-1] of a list -/
def dRev : D → Option D
  | .nd .lst _ xs => if noOwns xs = true then some (.nd .lst true xs.reverse) else none
  | _ => none
def rRevL (K : PySem.W.Frag) : V → Hp → VK → Prop := fun x H Q => ∃ a xs, x = .ref a ∧ SqL K H a xs ∧ ∀ p, H p = none → Q (.ref p) (upd H p (.lst xs.reverse))
theorem m_rev : MkOk K (rRevL K) dRev := by
  intro cm F H x a d f Q hs e o k
  unfold dRev at e
  split at e
  · rename_i oo xs
    obtain ⟨p, ws, g, rfl, hw, hn⟩ := o
    by_cases n : noOwns xs = true
    · rw [if_pos n] at e
      cases e
      refine ⟨p, ws, rfl, hn.lst hs, fun q hq => ?_⟩
      obtain ⟨w3, s3⟩ := newG (o := .lst ws.reverse) hs hq trivial
      exact k _ F _ (one q) w3 s3 (newL hq (hw.eqf (Ows.no n hw).symm).rev)
    · rw [if_neg n] at e; cases e
  · cases e
theorem E.revV {e : Expr} {k : Nat} {p1 p2 p3 : Pos} {f : MV} (he : GV X cm e f) : GE X cm W (.Subscript e (.Slice none none (some (.UnaryOp .USub (.Constant (.int 1) k p1) p2)) p3) pos) (rMkV dRev f) := by
  obtain ⟨t, p, q⟩ := he
  exact ⟨_, pe_revL p, mkV_sp (S := ⟨X.K, cm⟩) m_rev q fun σ H Q h => h⟩
theorem E.revE {e : Expr} {k : Nat} {p1 p2 p3 : Pos} {f : ME} (he : GE X cm W e f) : GE X cm W (.Subscript e (.Slice none none (some (.UnaryOp .USub (.Constant (.int 1) k p1) p2)) p3) pos) (rMkE dRev f) := by
  obtain ⟨t, p, q⟩ := he
  exact ⟨_, pe_revL p, mkE_sp (S := ⟨X.K, cm⟩) m_rev q fun σ H Q h => h⟩
/-! tuple(x) -/
def dTup : D → Option D
  | .nd .lst _ xs => if noOwns xs = true then some (.nd .tup false xs) else none
  | .nd .tup _ xs => if noOwns xs = true then some (.nd .tup false xs) else none
  | _ => none
def rTupOf (K : PySem.W.Frag) : List V → Hp → VK → Prop := fun xs H Q => ∃ p ys, xs = [.ref p] ∧ ((SqL K H p ys ∧ ∀ l, H l = none → Q (.ref l) (upd H l (.tup ys))) ∨ (SqT K H p ys ∧ Q (.ref p) H))
theorem m_tup : MkOk K (fun x H Q => rTupOf K [x] H Q) dTup := by
  intro cm F H x a d f Q hs e o k
  unfold dTup at e
  split at e
  · rename_i oo xs
    obtain ⟨p, ws, g, rfl, hw, hn⟩ := o
    by_cases n : noOwns xs = true
    · rw [if_pos n] at e
      cases e
      have h0 := hw.eqf (Ows.no n hw).symm
      refine ⟨p, ws, rfl, .inl ⟨hn.lst hs, fun q hq => ?_⟩⟩
      obtain ⟨w3, s3, fs⟩ := allocF (o := .tup ws) (wz hs) hq
      exact k _ _ _ zf w3 s3 ⟨q, ws, zf, rfl, ows_sub fs (ows_up hq h0), .inl ⟨rfl, rfl, upd_same, .rfl'⟩⟩
    · rw [if_neg n] at e; cases e
  · rename_i oo xs
    obtain ⟨p, ws, g, rfl, hw, hn⟩ := o
    by_cases n : noOwns xs = true
    · rw [if_pos n] at e
      cases e
      have h0 := hw.eqf (Ows.no n hw).symm
      refine ⟨p, ws, rfl, .inr ⟨hn.tup hs, k _ F H zf (wz hs) .refl ⟨p, ws, zf, rfl, h0, ?_⟩⟩⟩
      rcases hn with ⟨h1, h2, h3, h4⟩ | ⟨_, h, _⟩ | ⟨_, h, _⟩
      · exact .inl ⟨rfl, rfl, h3, .rfl'⟩
      · exact h.elim
      · exact h.elim
    · rw [if_neg n] at e; cases e
  · cases e
theorem E.tupV {e : Expr} {f : MV} {p : Pos} (hg : Gl X "tuple") (hm : X.mg "tuple" = none) (he : GV X cm e f) (hs : starEach [e] X.env = (false, eval e X.env) :: starEach [] X.env := by rfl) : GE X cm W (.Call (.Name "tuple" p) [e] [] pos) (rMkV dTup f) := by
  obtain ⟨t, pe, q⟩ := he
  exact ⟨_, pe_callTy call_tuple_of hg hm (by decide +kernel) (pa_cons pe pa_nil hs) (by decide) (by decide) hs rfl, mkV_sp (S := ⟨X.K, cm⟩) m_tup q fun σ H Q h => h⟩
theorem E.tupE {e : Expr} {f : ME} {p : Pos} (hg : Gl X "tuple") (hm : X.mg "tuple" = none) (he : GE X cm W e f) (hs : starEach [e] X.env = (false, eval e X.env) :: starEach [] X.env := by rfl) : GE X cm W (.Call (.Name "tuple" p) [e] [] pos) (rMkE dTup f) := by
  obtain ⟨t, pe, q⟩ := he
  exact ⟨_, pe_callTy call_tuple_of hg hm (by decide +kernel) (pa_cons pe pa_nil hs) (by decide) (by decide) hs rfl, mkE_sp (S := ⟨X.K, cm⟩) m_tup q fun σ H Q h => h⟩
/-! ### enumerate -/
def enu : Nat → List D → List D
  | _, [] => []
  | i, d :: ds => .nd .tup false [.int i, d] :: enu (i + 1) ds
def iEn (m : MA) : MI := fun ρ => match m ρ with
  | .ok as ρ1 => match vals as with
    | some [.nd .lst false xs] => if noOwns xs = true then some (enu 0 xs, ρ1) else none
    | _ => none
  | _ => none
theorem enu_at : ∀ {xs : List D} {i j : Nat}, (enu j xs)[i]? = (xs[i]?).map fun d => .nd .tup false [.int ((j + i : Nat) : Int), d]
  | [], i, j => by simp [enu]
  | x :: xs, 0, j => by simp [enu]
  | x :: xs, i + 1, j => by
    have := enu_at (xs := xs) (i := i) (j := j + 1)
    simp only [enu, List.getElem?_cons_succ]
    rw [this, show j + 1 + i = j + (i + 1) by omega]
theorem enu_len : ∀ {xs : List D} {j : Nat}, (enu j xs).length = xs.length
  | [], _ => rfl
  | x :: xs, j => congrArg (· + 1) (enu_len (xs := xs) (j := j + 1))
theorem En_sp {ta : TA} {m : MA} (q : SpA S (fun _ _ _ _ => False) ta m) : SpI S (iEnum S.K ta) (iEn m) := by
  intro σ F H T ρ R ds ρ1 w s e k
  refine q σ F H T ρ _ w s ?_
  unfold iEn at e
  cases e1 : m ρ with
  | no => rw [e1] at e; cases e
  | ex z ρ2 => rw [e1] at e; cases e
  | ok as ρ2 =>
    rw [e1] at e
    intro vs F1 H1 T1 C w1 s1 l1 o
    have e : (match vals as with
      | some [.nd .lst false xs] => if noOwns xs = true then some (enu 0 xs, ρ2) else none
      | _ => none) = some (ds, ρ1) := e
    split at e
    · rename_i xs e2
      by_cases z : noOwns xs = true
      · rw [if_pos z] at e
        cases e
        obtain ⟨v, rfl, ov⟩ := (vals_ok o e2).one
        obtain ⟨a, ws, rfl, sa, oa⟩ := frozenAt rfl z ov
        have w2 := w1.part
        have s2 : Stp F H T F1 H1 T1 := s1.leR fun a => by rw [ad_ap]; omega
        have len := oa.len
        refine ⟨a, ws, rfl, w2.sub.sqL sa, k _ F1 H1 T1 w2 s2 l1 ?_⟩
        intro i F' H' h1 h2
        have sq : SqL S.K H' a ws := (h1.trans h2).sqL sa
        refine ⟨fun d e => ?_, fun le => ⟨ws, sq, by rw [enu_len] at le; omega⟩⟩
        rw [enu_at] at e
        obtain ⟨x, ex, rfl⟩ := Option.map_eq_some_iff.mp e
        obtain ⟨v, g, k1, k2, k3⟩ := (Ows.fz (H' := H') h1 xs z oa).get ex
        refine ⟨⟨ws, v, sq, k1⟩, ?_⟩
        rintro y H'' ⟨t, x', rfl, ht, rfl, hx⟩
        have := hx ws sq
        rw [k1] at this
        cases this
        have f0 : F' t = none := by
          cases q : F' t with
          | none => rfl
          | some o => rw [h2 t o q] at ht; cases ht
        have fs : Sub F' (upd F' t (.tup [.int (i : Nat), v])) := fun a o h => by rw [upd_ne (ne_of_none h f0)]; exact h
        have ov : Ow (S.at F' H') x v zf := k2.eqf fun a => by have := k3 a; rw [zf_ap] at this ⊢; omega
        refine ⟨upd F' t (.tup [.int (i : Nat), v]), fs, fun a o h => ?_, fun a o h => by rw [upd_ne (ne_of_none h ht)]; exact h, fun a h => ?_, t, [.int (i : Nat), v], zf, rfl, ?_, .inl ⟨rfl, rfl, upd_same, .rfl'⟩⟩
        · by_cases q : a = t
          · subst q; rw [upd_same] at h ⊢; exact h
          · rw [upd_ne q] at h ⊢; exact h2 a o h
        · have : a ≠ t := fun q => by subst q; exact h ht
          rw [upd_ne this]
        · exact ⟨_, [v], zf, zf, rfl, ⟨by rw [Nat.zero_add], .rfl'⟩, .mk1 (ow_sub fs (ow_up ht ov)), .rfl'⟩
      · rw [if_neg z] at e; cases e
    · cases e
theorem I.enum {a : Expr} {m : MA} {p tpos : Pos} {elts : List Expr} {kk : Nat} (hg : Gl X "enumerate") (hm : X.mg "enumerate" = none) (ha : GA X cm (fun _ _ _ _ => False) [a] m) (hs : starEach [a] X.env = [(false, eval a X.env)] := by rfl) :
    GI X cm (.Tuple elts kk tpos) (.Call (.Name "enumerate" p) [a] [] pos) (iEn m) := by
  obtain ⟨t, pa, q, _⟩ := ha
  exact ⟨_, pi_enum hg hm pa hs, En_sp q⟩
/-! ### in, not in -/
def inB (a b : D) : Option Bool := match b with
  | .nd .lst o xs => (toPy a).bind fun p => (toPys xs).bind fun ps => if (SeqAt.shaped p && SeqAt.shaped (.list ps)) = true then some (ps.any fun z => PyData.eqv z p) else none
  | .str s => match a with
    | .str x => some (!(Builtin.Str.occurrences s x 0 s.length 1).isEmpty)
    | _ => none
  | _ => none
def dIn (a b : D) : Option D := (inB a b).map .bl
def dNin (a b : D) : Option D := (inB a b).map fun c => .bl (!c)
def rInX (K : PySem.W.Frag) : R2 := fun x y H Q => rInD K x y H Q ∨ ∃ i j, x = .str i ∧ y = .str j ∧ Q (.bl (!(Builtin.Str.occurrences j i 0 j.length 1).isEmpty)) H
def rNinX (K : PySem.W.Frag) : R2 := fun x y H Q => rNotInD K x y H Q ∨ ∃ i j, x = .str i ∧ y = .str j ∧ Q (.bl (!(!(Builtin.Str.occurrences j i 0 j.length 1).isEmpty))) H
theorem op_inX (hu : X.A.units + 65 < cLine) : OpR X (compareOp .In) (rInX X.K) := OpR.or (op_inD hu) op_in_str
theorem op_ninX (hu : X.A.units + 65 < cLine) : OpR X (compareOp .NotIn) (rNinX X.K) := OpR.or (op_notInD hu) op_notin_str
theorem inB_some {a b : D} {c : Bool} (h : inB a b = some c) : (∃ o xs p ps, b = .nd .lst o xs ∧ toPy a = some p ∧ toPys xs = some ps ∧ SeqAt.shaped p = true ∧ SeqAt.shaped (.list ps) = true ∧ c = ps.any fun z => PyData.eqv z p) ∨ ∃ s x, b = .str s ∧ a = .str x ∧ c = !(Builtin.Str.occurrences s x 0 s.length 1).isEmpty := by
  unfold inB at h
  split at h
  · obtain ⟨p, e1, h⟩ := Option.bind_eq_some_iff.mp h
    obtain ⟨ps, e2, h⟩ := Option.bind_eq_some_iff.mp h
    by_cases z : (SeqAt.shaped p && SeqAt.shaped (.list ps)) = true
    · rw [if_pos z] at h
      rw [Bool.and_eq_true] at z
      exact .inl ⟨_, _, p, ps, rfl, e1, e2, z.1, z.2, (Option.some.inj h).symm⟩
    · rw [if_neg z] at h; cases h
  · split at h
    · exact .inr ⟨_, _, rfl, rfl, (Option.some.inj h).symm⟩
    · cases h
  · cases h
theorem o_in : OpOk K (rInX K) dIn := by
  intro cm F H x y a b d f h Q hs _ _ e o1 o2 q
  obtain ⟨c, e1, rfl⟩ := Option.map_eq_some_iff.mp e
  rcases inB_some e1 with ⟨o, xs, p, ps, rfl, h1, h2, h3, h4, rfl⟩ | ⟨s, z, rfl, rfl, rfl⟩
  · exact .inl ⟨p, ps, Ow.dp hs h1 o1, Ow.dp hs (p := .list ps) (d := .nd .lst o xs) (by show (toPys xs).map PyData.list = _; rw [h2]; rfl) o2, h3, h4, q _ ⟨rfl, .rfl'⟩⟩
  · exact .inr ⟨z, s, o1.1, o2.1, q _ ⟨rfl, .rfl'⟩⟩
theorem o_nin : OpOk K (rNinX K) dNin := by
  intro cm F H x y a b d f h Q hs _ _ e o1 o2 q
  obtain ⟨c, e1, rfl⟩ := Option.map_eq_some_iff.mp e
  rcases inB_some e1 with ⟨o, xs, p, ps, rfl, h1, h2, h3, h4, rfl⟩ | ⟨s, z, rfl, rfl, rfl⟩
  · exact .inl ⟨p, ps, Ow.dp hs h1 o1, Ow.dp hs (p := .list ps) (d := .nd .lst o xs) (by show (toPys xs).map PyData.list = _; rw [h2]; rfl) o2, h3, h4, q _ ⟨rfl, .rfl'⟩⟩
  · exact .inr ⟨z, s, o1.1, o2.1, q _ ⟨rfl, .rfl'⟩⟩
theorem hu65 {A : Around} {k : Nat} (h : Room k A) : A.units + 65 < cLine := by have := h.un; omega
end
end DL
namespace DL
open PySem L2 PyProof.Rows
section
variable {X : Cx} {cm : Str → Option Addr} {W : WX} {S : Sc} {pos : Pos} {K : PySem.W.Frag}
/-! ### {} -/
def rDict0 : ME := fun ρ => .ok (.nd (.dct []) true []) ρ
theorem E.dict0 : GE X cm W (.Dict [] [] pos) rDict0 := by
  refine ⟨_, pe_dnewK, fun σ F H T ρ Q w s k p hp => ?_⟩
  obtain ⟨w3, s3⟩ := alloc (o := .dK []) w hp trivial
  exact k _ F _ T (one p) w3 s3 (sls_up hp s) ⟨p, [], zf, rfl, ⟨rfl, .rfl'⟩, .inr (.inl ⟨rfl, ⟨rfl, upd_same⟩, fun a => rfl⟩)⟩
/-! ### methods that look: index, count -/
def MvOk (K : PySem.W.Frag) (r : V → List V → Hp → VK → Prop) (op : D → List D → Option D) : Prop := ∀ cm F H T (x : V) vs c ds d f (Q : VK), Sub F H → op c ds = some d → Ow ⟨K, cm, F, H⟩ c x f → VwOk ⟨K, cm, F, H⟩ T ds vs → (∀ z, Ow ⟨K, cm, F, H⟩ d z zf → Q z H) → r x vs H Q
def lstK' : D → Bool
  | .nd .lst _ _ => true
  | _ => false
def vMt (op : D → List D → Option D) (f : MV) (m : MVs) : MV := fun ρ => (f ρ).bind fun c => if lstK' c = true then (m ρ).bind fun ds => op c ds else none
theorem mv_sp {r : V → List V → Hp → VK → Prop} {op : D → List D → Option D} {to : TE} {ta : TA} {f : MV} {m : MVs} (o : MvOk S.K r op) (q1 : SpV S to f) (q2 : SpVA S ta m) : SpV S (tBM S.K "list" r to ta) (vMt op f m) := by
  intro σ F H T ρ d Q w s e k
  obtain ⟨c, e1, e2⟩ := Option.bind_eq_some_iff.mp e
  by_cases z : lstK' c = true
  · rw [if_pos z] at e2
    obtain ⟨ds, e3, e4⟩ := Option.bind_eq_some_iff.mp e2
    refine q1 σ F H T ρ c _ w s e1 fun x f1 o1 l1 => ?_
    have ty : tyV S.K "list" x H := by
      unfold lstK' at z
      split at z
      · obtain ⟨p, ws, g, rfl, hw, hn⟩ := o1
        exact .inl ⟨rfl, ws, hn.lst w.sub⟩
      · cases z
    exact ⟨ty, q2 σ F H T ρ ds _ w s e3 fun vs ok => o S.cm F H T x vs c ds d f1 Q w.sub e4 o1 ok fun zz oz => k zz zf oz fun _ => Nat.zero_le _⟩
  · rw [if_neg z] at e2; cases e2
theorem Vw.mt {id : String} {nm : Str} {r : V → List V → Hp → VK → Prop} {op : D → List D → Option D} {oe e : Expr} {es : List Expr} {apos cpos : Pos} {f : MV} {m : MVs} (slot : Slot "list" nm id) (hty : typeOf (.builtin id) = pure (.type "method_descriptor")) (hm : MtR X id r) (o : MvOk X.K r op) (ho : GV X cm oe f) (ha : GVA X cm (e :: es) m)
    (hbase : attributeBase oe nm X.env (eval oe X.env) = eval oe X.env := by rfl)
    (hfew : ((backTo cpos (starEach (e :: es) X.env)).all (fun x => !x.1) && (backToKw cpos (keywordEach [] X.env)).all (fun x => x.1.isSome)
      && decide ((e :: es).length + ([] : List Keyword).length + (if ([] : List Keyword).isEmpty then 0 else 1) < 30)) = true := by rfl)
    (hline : (apos.endLine == cpos.line) = true := by rfl) (hs : starEach (e :: es) X.env = (false, eval e X.env) :: starEach es X.env := by rfl) (hplain : (backTo cpos (starEach es X.env)).any (·.1) = false := by rfl) :
    GV X cm (.Call (.Attribute oe nm apos) (e :: es) [] cpos) (vMt op f m) := by
  obtain ⟨to, po, qo⟩ := ho
  obtain ⟨t, pa, q⟩ := ha
  exact ⟨_, pe_bm PySem.F.plainAttrs_list slot hty hm po pa hbase hfew hline hs hplain, mv_sp (S := ⟨X.K, cm⟩) o qo q⟩
/-- the first place of an equal one -/
def firstAt (d : PyData) : Nat → List PyData → Option Nat
  | _, [] => none
  | i, z :: r => if PyData.eqv z d = true then some i else firstAt d (i + 1) r
theorem firstAt_ok {d : PyData} : ∀ {r : List PyData} {i j : Nat}, firstAt d i r = some j → ∃ n z, j = i + n ∧ r[n]? = some z ∧ PyData.eqv z d = true ∧ ∀ (m : Nat) (z' : PyData), m < n → r[m]? = some z' → PyData.eqv z' d = false
  | [], i, j, h => by cases h
  | z :: r, i, j, h => by
    have h : (if PyData.eqv z d = true then some i else firstAt d (i + 1) r) = some j := h
    by_cases q : PyData.eqv z d = true
    · rw [if_pos q] at h
      cases h
      exact ⟨0, z, rfl, rfl, q, fun m _ hm => absurd hm (Nat.not_lt_zero _)⟩
    · rw [if_neg q] at h
      obtain ⟨n, z2, rfl, h2, h3, h4⟩ := firstAt_ok h
      refine ⟨n + 1, z2, by omega, by simpa using h2, h3, fun m z' hm hz => ?_⟩
      cases m with
      | zero =>
        simp at hz
        subst hz
        simpa using q
      | succ m => exact h4 m z' (by omega) (by simpa using hz)
def dIndex (c : D) (ds : List D) : Option D := match ds with
  | [a] => (toPy c).bind fun p => (toPy a).bind fun q => match p with
    | .list ps => if (SeqAt.shaped (.list ps) && SeqAt.shaped q) = true then (firstAt q 0 ps).map fun j => .int (j : Nat) else none
    | _ => none
  | _ => none
theorem v_index : MvOk K (rIndexD K) dIndex := by
  intro cm F H T x vs c ds d f Q hs e o ok q
  unfold dIndex at e
  split at e
  · rename_i a
    obtain ⟨p, e1, e⟩ := Option.bind_eq_some_iff.mp e
    obtain ⟨qq, e2, e⟩ := Option.bind_eq_some_iff.mp e
    cases p with
    | list ps =>
      have e : (if (SeqAt.shaped (.list ps) && SeqAt.shaped qq) = true then (firstAt qq 0 ps).map fun j => D.int (j : Nat) else none) = some d := e
      by_cases z : (SeqAt.shaped (.list ps) && SeqAt.shaped qq) = true
      · rw [if_pos z] at e
        rw [Bool.and_eq_true] at z
        obtain ⟨j, e3, rfl⟩ := Option.map_eq_some_iff.mp e
        obtain ⟨n, zz, rfl, h2, h3, h4⟩ := firstAt_ok e3
        obtain ⟨v, r, f1, rfl, oa, la, rfl⟩ := ok
        have dp := Ow.dp hs e1 o
        have dq := Ow.dp hs e2 oa
        cases c with
        | nd k oo xs =>
          obtain ⟨pp, ws, g, rfl, hw, hn⟩ := o
          refine ⟨pp, v, qq, ps, n, zz, rfl, rfl, dp, dq, z.1, z.2, h2, h3, h4, ?_⟩
          rw [Nat.zero_add] at *
          exact q _ ⟨rfl, .rfl'⟩
        | _ => cases e1
      · rw [if_neg z] at e; cases e
    | _ => cases e
  · cases e
/-- count of a number -/
def dCount (c : D) (ds : List D) : Option D := match c, ds with
  | .nd .lst _ xs, [.int k] => (intsD xs).map fun ns => .int (ns.count k : Nat)
  | _, _ => none
theorem v_count : MvOk K (rCntI K) dCount := by
  intro cm F H T x vs c ds d f Q hs e o ok q
  unfold dCount at e
  split at e
  · obtain ⟨ns, e1, rfl⟩ := Option.map_eq_some_iff.mp e
    obtain ⟨v, r, f1, rfl, oa, la, rfl⟩ := ok
    have := oa.1
    subst this
    obtain ⟨pp, ws, g, rfl, hw, hn⟩ := o
    rw [ints_map e1] at hw
    rw [ows_ints hw] at hn
    exact ⟨pp, ns, _, rfl, rfl, hn.lst hs, q _ ⟨rfl, .rfl'⟩⟩
  · cases e
end
end DL
namespace DL
open PySem L2 PyProof.Rows
section
variable {X : Cx} {cm : Str → Option Addr} {W : WX} {S : Sc} {pos : Pos} {K : PySem.W.Frag}
theorem iop_mulX : OpR X (inplaceOp .Mult) (rI CMulX fun i j => .int (i * j)) := opI fun _ _ _ _ _ _ _ hc q => imul_int q hc.ok
/-! ### a place's method, the arguments reckoned while the slot is locked -/
theorem vPath_keep {F H H1 : Hp} (hs : Sub F H) : ∀ (js : List Nat) {d c : D} {v : V} {f : Fp}, Ow ⟨K, cm, F, H⟩ d v f → noFz d js = true → getP d js = some c → (∀ a o, H a = some o → (f a ≠ 0 ∨ F a = some o) → H1 a = some o) → vPath H1 v js = vPath H v js
  | [], d, c, v, f, o, _, e, _ => rfl
  | j :: js, d, c, v, f, o, n, e, hk => by
    cases d with
    | nd k oo xs =>
      obtain ⟨p, ws, g, rfl, hw, hn⟩ := o
      obtain ⟨x, e1, e2⟩ := Option.bind_eq_some_iff.mp (show (xs[j]?).bind (fun x => getP x js) = some c from e)
      have n : (!decide (k = .fzl) && match xs[j]? with
        | some x => noFz x js
        | none => true) = true := n
      rw [e1, Bool.and_eq_true] at n
      have hkf : k ≠ .fzl := by
        have := n.1
        simpa using this
      obtain ⟨w, g1, h1, h2, h3⟩ := hw.get e1
      have va : vAt H p j = some w := by rw [hn.vAt hs hkf]; exact h1
      have le := hn.le
      have hp : H1 p = H p := by
        have key : ∀ o, H p = some o → (f p ≠ 0 ∨ F p = some o) → H1 p = H p := fun o a b => (hk p o a b).trans a.symm
        rcases hn with ⟨rfl, _, h, _⟩ | ⟨_, h, ef⟩ | ⟨_, h, _⟩
        · exact key _ (hs _ _ h) (.inr h)
        · have fp : f p ≠ 0 := by rw [ef p, ad_ap, one_self]; omega
          cases q : H p with
          | none => unfold vAt at va; rw [q] at va; cases va
          | some o => rw [← q]; exact key o q (.inl fp)
        · cases k with
          | lst => exact key _ (hs _ _ h) (.inr h)
          | fzl => exact absurd rfl hkf
          | tup => exact h.elim
          | dct ks => exact key _ (hs _ _ h.2) (.inr h.2)
          | dtt ks => exact key _ (hs _ _ h.2) (.inr h.2)
          | obj C ns => exact h.elim
          | exn C fs =>
            obtain ⟨_, _, _, _, _, _, h4, _⟩ := h
            exact key _ (hs _ _ h4) (.inr h4)
      have va1 : vAt H1 p j = some w := by
        rw [← va]
        unfold vAt
        rw [hp]
      show (vAt H1 p j).bind (fun w => vPath H1 w js) = (vAt H p j).bind fun w => vPath H w js
      rw [va, va1]
      exact vPath_keep hs js h2 n.2 e2 fun a o h z => hk a o h (z.imp (fun z => by have := h3 a; have := le a; omega) id)
    | _ => cases e
def rMtL (op : List D → List D → Option (D × List D)) (i : Nat) (π : MP) (m : MA) : ME := fun ρ => match π ρ with
  | some js => match gt ρ i with
    | some d0 => match getS ρ i js with
      | some (.nd .lst true xs) => match m (ρ.set i none) with
        | .ok as ρ1 => match vals as with
          | some ds => match op xs ds with
            | some z => match setS (ρ1.set i (some d0)) i js (.nd .lst true z.2) with
              | some ρ3 => .ok z.1 ρ3
              | none => .no
            | none => .no
          | none => .no
        | _ => .no
      | _ => .no
    | none => .no
  | none => .no
theorem rMtL_ok {op : List D → List D → Option (D × List D)} {i : Nat} {π : MP} {m : MA} {ρ : Env} {r : Re} (h : rMtL op i π m ρ = r) (hr : r ≠ .no) : ∃ js d0 xs as ρ1 ds d xs' ρ3, π ρ = some js ∧ gt ρ i = some d0 ∧ getS ρ i js = some (.nd .lst true xs) ∧ m (ρ.set i none) = .ok as ρ1 ∧ vals as = some ds ∧ op xs ds = some (d, xs') ∧ setS (ρ1.set i (some d0)) i js (.nd .lst true xs') = some ρ3 ∧ r = .ok d ρ3 := by
  unfold rMtL at h
  split at h
  · split at h
    · split at h
      · split at h
        · split at h
          · split at h
            · split at h
              · rename_i z _ _ _ _
                exact ⟨_, _, _, _, _, _, z.1, z.2, _, ‹_›, ‹_›, ‹_›, ‹_›, ‹_›, ‹_›, ‹_›, h.symm⟩
              · exact absurd h.symm hr
            · exact absurd h.symm hr
          · exact absurd h.symm hr
        · exact absurd h.symm hr
      · exact absurd h.symm hr
    · exact absurd h.symm hr
  · exact absurd h.symm hr
theorem mtL_sp {r : V → List V → Hp → VK → Prop} {op : List D → List D → Option (D × List D)} {i : Nat} {π : MP} {to : TE} {ta : TA} {m : MA} (o : MuOk S.K r op) (qo : SpP S i to π) (q : SpA S W ta m) : SpE S W (tBM S.K "list" r to ta) (rMtL op i π m) := by
  intro σ F H T ρ Q w s k
  by_cases hr : rMtL op i π m ρ = .no
  · rw [hr] at k; exact k.elim
  obtain ⟨js, d0, xs, as, ρ1, ds, d, xs', ρ3, e1, e2, e3, e4, e5, e6, e7, e8⟩ := rMtL_ok rfl hr
  rw [e8] at k
  refine qo σ F H T ρ js _ _ w s e1 e3 fun v u hv hu => ?_
  obtain ⟨v0, B, T0, h1, o0, l0, eT⟩ := s.get (gt_some e2)
  rw [hv] at h1
  cases h1
  obtain ⟨d1, f1, f2⟩ := Option.bind_eq_some_iff.mp e3
  rw [e2] at f1
  cases f1
  by_cases zf0 : noFz d0 js = true
  · rw [if_pos zf0] at f2
    have w0 : Wd F H (ad T0 B) := w.eqf fun a => by rw [eT a, ad_ap, ad_ap]; omega
    have s0 : Stp F H T F H (ad T0 B) := Stp.refl.eqf fun a => by rw [eT a, ad_ap, ad_ap]; omega
    obtain ⟨u2, g2, k1, k2, _⟩ := o0.path w.sub js zf0 f2
    rw [hu] at k1
    cases k1
    obtain ⟨p, ws, g, rfl, hp, _, _⟩ := k2.lstAt
    refine ⟨.inl ⟨rfl, ws, .of hp⟩, q σ F H T0 _ _ w0.part l0 ?_⟩
    rw [e4]
    intro vs F1 H1 T1 C1 w1 s1 l1 o1
    obtain ⟨w2, s2⟩ := w0.frame s1 w1
    have o2 := w0.keepOw s1 o0
    obtain ⟨T1', l2, le⟩ := l1.forget i
    have hi : i < ρ1.length := by
      rw [l1.len]
      exact (List.getElem?_eq_some_iff.mp hv).1
    have l3 := l2.put hi hv o2
    have le3 : ∀ a, ad (ad B T1') C1 a ≤ ad (ad T1 C1) B a := fun a => by have := le a; simp only [ad_ap]; omega
    have w3 := w2.le le3
    have hu1 : vPath H1 v js = some (.ref p) := by
      rw [vPath_keep w0.sub js o0 zf0 f2 fun a ob hh z => s1.keep a ob hh ?_]
      · exact hu
      · rcases z with z | z
        · have := w0.one a; rw [ad_ap] at this; omega
        · by_cases t : T0 a = 0
          · exact t
          · rw [w0.off a (by rw [ad_ap]; omega)] at z; cases z
    have g3 : getS (ρ1.set i (some d0)) i js = some (.nd .lst true xs) := by
      unfold getS
      have : gt (ρ1.set i (some d0)) i = some d0 := by
        have key : ∀ (ρ : Env) (i : Nat), i < ρ.length → gt (ρ.set i (some d0)) i = some d0 := by
          intro ρ
          induction ρ with
          | nil => intro i h; exact absurd h (Nat.not_lt_zero _)
          | cons x r ih =>
            intro i h
            cases i with
            | zero => rfl
            | succ i => exact ih i (Nat.lt_of_succ_lt_succ h)
        exact key ρ1 i hi
      rw [this]
      show (if noFz d0 js = true then getP d0 js else none) = _
      rw [if_pos zf0, f2]
    obtain ⟨p', ws', gg, ep, hp', hw', fin⟩ := chg w3 l3 g3 e7 hv hu1
    cases ep
    have od := vals_ok o1 e5
    refine o S.cm F1 H1 p xs ws' ds vs gg C1 d xs' Q w1.sub e6 hp' hw' od fun x ws2 C2 g4 q1 q2 le4 => ?_
    obtain ⟨T', w5, s5, l5, mo⟩ := fin ws2 g4 C2 q2 le4
    have s6 : Stp F H T F1 H1 (ad (ad B T1') C1) := (s0.trans w0 s2).leR le3
    exact k x F1 _ T' C2 w5 (s6.trans w3 s5) l5 (mo _ _ q1)
  · rw [if_neg zf0] at f2; cases f2
theorem E.mtL {id : String} {nm : Str} {r : V → List V → Hp → VK → Prop} {op : List D → List D → Option (D × List D)} {i : Nat} {π : MP} {oe e : Expr} {es : List Expr} {apos cpos : Pos} {m : MA} (slot : Slot "list" nm id) (hty : typeOf (.builtin id) = pure (.type "method_descriptor")) (hm : MtR X id r) (o : MuOk X.K r op) (ho : GP X cm oe i π) (ha : GA X cm W (e :: es) m)
    (hbase : attributeBase oe nm X.env (eval oe X.env) = eval oe X.env := by rfl)
    (hfew : ((backTo cpos (starEach (e :: es) X.env)).all (fun x => !x.1) && (backToKw cpos (keywordEach [] X.env)).all (fun x => x.1.isSome)
      && decide ((e :: es).length + ([] : List Keyword).length + (if ([] : List Keyword).isEmpty then 0 else 1) < 30)) = true := by rfl)
    (hline : (apos.endLine == cpos.line) = true := by rfl) (hs : starEach (e :: es) X.env = (false, eval e X.env) :: starEach es X.env := by rfl) (hplain : (backTo cpos (starEach es X.env)).any (·.1) = false := by rfl) :
    GE X cm W (.Call (.Attribute oe nm apos) (e :: es) [] cpos) (rMtL op i π m) := by
  obtain ⟨t, pa, q, _⟩ := ha
  obtain ⟨to, po, qo⟩ := ho
  exact ⟨_, pe_bm PySem.F.plainAttrs_list slot hty hm po pa hbase hfew hline hs hplain, mtL_sp o qo q⟩
end
end DL
namespace DL
open PySem L2 PyProof.Rows
/-! ### reckoning the later words -/
section
variable {ρ ρ1 : Env} {d a b : D} {ds : List D} {i j : Nat} {e : Xn}
@[simp] theorem oNo_ap : oNo ρ = some none := rfl
def oVK : Option D → Option (Option Int)
  | some (.int i) => some (some i)
  | _ => none
@[simp] theorem oV_ap {g : MV} : oV g ρ = oVK (g ρ) := rfl
@[simp] theorem oVK_i {x : Int} : oVK (some (.int x)) = some (some x) := rfl
def slK (ρ : Env) : Option D → Option (Option Int) → Option (Option Int) → Re
  | some a, some l, some h => .of (dSl a l h) ρ
  | _, _, _ => .no
@[simp] theorem rSlV_ap {f : MV} {lo hi : MO} : rSlV f lo hi ρ = slK ρ (f ρ) (lo ρ) (hi ρ) := by
  unfold rSlV slK
  cases f ρ with
  | none => rfl
  | some a => cases lo ρ with
    | none => rfl
    | some l => cases hi ρ <;> rfl
@[simp] theorem slK_s {l h : Option Int} : slK ρ (some a) (some l) (some h) = .of (dSl a l h) ρ := rfl
def slE (lo hi : MO) : Re → Re
  | .ok a ρ1 => slK ρ1 (some a) (lo ρ1) (hi ρ1)
  | .ex e ρ1 => .ex e ρ1
  | .no => .no
@[simp] theorem rSlE_ap {f : ME} {lo hi : MO} : rSlE f lo hi ρ = slE lo hi (f ρ) := by
  unfold rSlE slE
  cases f ρ with
  | ok a ρ1 =>
    show (match lo ρ1 with | some l => (match hi ρ1 with | some h => Re.of (dSl a l h) ρ1 | none => .no) | none => .no) = slK ρ1 (some a) (lo ρ1) (hi ρ1)
    cases lo ρ1 with
    | none => rfl
    | some l => cases hi ρ1 <;> rfl
  | _ => rfl
@[simp] theorem slE_ok {lo hi : MO} : slE lo hi (.ok a ρ) = slK ρ (some a) (lo ρ) (hi ρ) := rfl
@[simp] theorem slE_ex {lo hi : MO} : slE lo hi (.ex e ρ) = .ex e ρ := rfl
@[simp] theorem dSl_l {o : Bool} {xs : List D} {l h : Option Int} : dSl (.nd .lst o xs) l h = if noOwns xs = true then some (.nd .lst true (cutD xs l h)) else none := rfl
@[simp] theorem dSl_t {o : Bool} {xs : List D} {l h : Option Int} : dSl (.nd .tup o xs) l h = if noOwns xs = true then some (.nd .tup false (cutD xs l h)) else none := rfl
def cutI (xs : List Int) (lo hi : Option Int) : List Int := (xs.drop (HT.sIx xs.length 0 lo)).take (HT.sIx xs.length xs.length hi - HT.sIx xs.length 0 lo)
@[simp] theorem cutD_ints {xs : List Int} {l h : Option Int} : cutD (xs.map .int) l h = (cutI xs l h).map .int := by
  unfold cutD cutI
  rw [List.length_map, ← List.map_drop, ← List.map_take]
@[simp] theorem rMkV_ap {op : D → Option D} {f : MV} : rMkV op f ρ = .of ((f ρ).bind op) ρ := by
  unfold rMkV
  cases f ρ <;> rfl
def mkK (op : D → Option D) : Re → Re
  | .ok a ρ1 => .of (op a) ρ1
  | .ex e ρ1 => .ex e ρ1
  | .no => .no
@[simp] theorem rMkE_ap {op : D → Option D} {f : ME} : rMkE op f ρ = mkK op (f ρ) := by
  unfold rMkE mkK
  cases f ρ <;> rfl
@[simp] theorem mkK_ok {op : D → Option D} : mkK op (.ok a ρ) = .of (op a) ρ := rfl
@[simp] theorem mkK_ex {op : D → Option D} : mkK op (.ex e ρ) = .ex e ρ := rfl
@[simp] theorem dRev_l {o : Bool} {xs : List D} : dRev (.nd .lst o xs) = if noOwns xs = true then some (.nd .lst true xs.reverse) else none := rfl
@[simp] theorem dTup_l {o : Bool} {xs : List D} : dTup (.nd .lst o xs) = if noOwns xs = true then some (.nd .tup false xs) else none := rfl
@[simp] theorem dTup_t {o : Bool} {xs : List D} : dTup (.nd .tup o xs) = if noOwns xs = true then some (.nd .tup false xs) else none := rfl
def iEnV (ρ1 : Env) : Option (List D) → Option (List D × Env)
  | some [.nd .lst false xs] => if noOwns xs = true then some (enu 0 xs, ρ1) else none
  | _ => none
def iEnK : Ra → Option (List D × Env)
  | .ok as ρ1 => iEnV ρ1 (vals as)
  | _ => none
@[simp] theorem iEn_ap {m : MA} : iEn m ρ = iEnK (m ρ) := rfl
@[simp] theorem iEnK_ok {as : List Ag} : iEnK (.ok as ρ) = iEnV ρ (vals as) := rfl
@[simp] theorem iEnV_s {xs : List D} : iEnV ρ (some [.nd .lst false xs]) = if noOwns xs = true then some (enu 0 xs, ρ) else none := rfl
@[simp] theorem rDict0_ap : rDict0 ρ = .ok (.nd (.dct []) true []) ρ := rfl
def mtV2 (op : D → List D → Option D) : Option D → Option (List D) → Option D
  | some (.nd .lst o xs), some ds => op (.nd .lst o xs) ds
  | _, _ => none
@[simp] theorem vMt_ap {op : D → List D → Option D} {f : MV} {m : MVs} : vMt op f m ρ = mtV2 op (f ρ) (m ρ) := by
  unfold vMt mtV2
  cases f ρ with
  | none => rfl
  | some c =>
    cases c with
    | nd k o xs => cases k <;> cases m ρ <;> rfl
    | _ => cases m ρ <;> rfl
@[simp] theorem mtV2_s {op : D → List D → Option D} {o : Bool} {xs : List D} : mtV2 op (some (.nd .lst o xs)) (some ds) = op (.nd .lst o xs) ds := rfl
theorem inB_ints (o : Bool) (xs : List Int) (x : Int) : inB (.int x) (.nd .lst o (xs.map .int)) = some (decide (x ∈ xs)) := by
  unfold inB
  show ((some (PyData.int x)).bind fun p => (toPys (xs.map .int)).bind fun ps => if (SeqAt.shaped p && SeqAt.shaped (.list ps)) = true then some (ps.any fun z => PyData.eqv z p) else none) = _
  rw [toPys_ints]
  show (if (SeqAt.shaped (.int x) && SeqAt.shaped (.list (xs.map PyData.int))) = true then some ((xs.map PyData.int).any fun z => PyData.eqv z (.int x)) else none) = _
  rw [shaped_ints]
  have h1 : SeqAt.shaped (.int x) = true := by simp [SeqAt.shaped, PyData.canLay0, PyData.depth]
  rw [h1]
  have h2 : ((xs.map PyData.int).any fun z => PyData.eqv z (.int x)) = decide (x ∈ xs) := by
    induction xs with
    | nil => rfl
    | cons y r ih =>
      rw [List.map_cons, List.any_cons, ih]
      by_cases h : y = x
      · subst h
        simp [PyData.eqv]
      · have h' : ¬ x = y := fun z => h z.symm
        simp [PyData.eqv, h, h']
  rw [h2]
  rfl
@[simp] theorem dIn_ints {o : Bool} {xs : List Int} {x : Int} : dIn (.int x) (.nd .lst o (xs.map .int)) = some (.bl (decide (x ∈ xs))) := by
  unfold dIn
  rw [inB_ints]; rfl
@[simp] theorem dNin_ints {o : Bool} {xs : List Int} {x : Int} : dNin (.int x) (.nd .lst o (xs.map .int)) = some (.bl (!decide (x ∈ xs))) := by
  unfold dNin
  rw [inB_ints]; rfl
end
end DL
namespace DL
open PySem L2 PyProof.Rows
section
variable {X : Cx} {cm : Str → Option Addr} {W : WX} {S : Sc} {pos : Pos} {K : PySem.W.Frag} {tg : Expr}
/-! ### range downwards -/
def rgN (a b : Int) : List D := (List.range (a - b).toNat).map fun i => .int (a + (i : Nat) * (-1))
theorem rgN_len {a b : Int} : (rgN a b).length = (a - b).toNat := by unfold rgN; rw [List.length_map, List.length_range]
theorem itN {F : Hp} {a b : Int} : Itok S (Itc a (-1) (a - b).toNat) F (rgN a b) := by
  intro n F' H' h1 h2
  refine ⟨fun d e => ?_, fun le => by rw [rgN_len] at le; exact le⟩
  have hn : n < (a - b).toNat := by
    have := (List.getElem?_eq_some_iff.mp e).1
    rw [rgN_len] at this; exact this
  refine ⟨hn, fun x H'' y => ?_⟩
  obtain ⟨rfl, rfl⟩ := y
  have : d = .int (a + (n : Nat) * (-1)) := by
    unfold rgN at e
    rw [List.getElem?_map, List.getElem?_range hn] at e
    exact (Option.some.inj e).symm
  subst this
  exact ⟨F', Sub.refl _, h2, Sub.refl _, fun _ _ => rfl, rfl, .rfl'⟩
def iRd (m : MA) : MI := fun ρ => match m ρ with
  | .ok as ρ1 => match vals as with
    | some [.int i, .int j, .int (-1)] => if (decide (-(2 ^ 62) ≤ i) && decide (i < 2 ^ 62) && (decide (-(2 ^ 62) ≤ j) && decide (j < 2 ^ 62))) = true then some (rgN i j, ρ1) else none
    | _ => none
  | _ => none
theorem Rd_sp {ta : TA} {m : MA} (q : SpA S (fun _ _ _ _ => False) ta m) : SpI S (iRng3 ta) (iRd m) := by
  intro σ F H T ρ R ds ρ1 w s e k
  refine q σ F H T ρ _ w s ?_
  unfold iRd at e
  cases e1 : m ρ with
  | no => rw [e1] at e; cases e
  | ex z ρ2 => rw [e1] at e; cases e
  | ok as ρ2 =>
    rw [e1] at e
    intro vs F1 H1 T1 C w1 s1 l1 o
    have e : (match vals as with
      | some [.int i, .int j, .int (-1)] => if (decide (-(2 ^ 62) ≤ i) && decide (i < 2 ^ 62) && (decide (-(2 ^ 62) ≤ j) && decide (j < 2 ^ 62))) = true then some (rgN i j, ρ2) else none
      | _ => none) = some (ds, ρ1) := e
    split at e
    · rename_i i j e2
      by_cases z : (decide (-(2 ^ 62) ≤ i) && decide (i < 2 ^ 62) && (decide (-(2 ^ 62) ≤ j) && decide (j < 2 ^ 62))) = true
      · rw [if_pos z] at e
        cases e
        simp only [Bool.and_eq_true, decide_eq_true_eq] at z
        obtain ⟨v, r, g1, g2, rfl, o1, o2, _⟩ := vals_ok o e2
        obtain ⟨v2, r2, g3, g4, rfl, o3, o4, _⟩ := o2
        obtain ⟨v3, rfl, ov⟩ := o4.one
        have hv := o1.1
        subst hv
        have hv := o3.1
        subst hv
        have hv := ov.1
        subst hv
        exact ⟨i, j, -1, (i - j).toNat, rfl, RgC.neg z.1.1 z.1.2 z.2.1 z.2.2, k _ F1 H1 T1 w1.part (s1.leR fun a => by rw [ad_ap]; omega) l1 itN⟩
      · rw [if_neg z] at e; cases e
    · cases e
theorem I.rangeD {a b c : Expr} {m : MA} {p : Pos} (hg : Gl X "range") (hm : X.mg "range" = none) (ha : GA X cm (fun _ _ _ _ => False) [a, b, c] m)
    (hs : starEach [a, b, c] X.env = (false, eval a X.env) :: starEach [b, c] X.env := by rfl) (hpl : (backTo pos (starEach [b, c] X.env)).any (·.1) = false := by rfl) : GI X cm tg (.Call (.Name "range" p) [a, b, c] [] pos) (iRd m) := by
  obtain ⟨t, pa, q, _⟩ := ha
  exact ⟨_, pi_range3 hg hm pa hs hpl, Rd_sp q⟩
end
end DL
namespace DL
open PySem L2
/-! ### an expression for which all names but some are lent -/
def lendO : Option D → Option D
  | some d => if noObj d = true then some (frz d) else none
  | none => none
def keepE (ch : List Nat) : Nat → Env → Env
  | _, [] => []
  | i, o :: ρ => (if ch.contains i = true then o else none) :: keepE ch (i + 1) ρ
def dropE (ch : List Nat) : Nat → Env → Env
  | _, [] => []
  | i, o :: ρ => (if ch.contains i = true then none else o) :: dropE ch (i + 1) ρ
def lendE (ch : List Nat) : Nat → Env → Env
  | _, [] => []
  | i, o :: ρ => (if ch.contains i = true then o else lendO o) :: lendE ch (i + 1) ρ
def mixE (ch : List Nat) : Nat → Env → Env → Env
  | i, o :: ρ, o2 :: ρ2 => (if ch.contains i = true then o2 else o) :: mixE ch (i + 1) ρ ρ2
  | _, _, _ => []
section
variable {K : PySem.W.Frag} {cm : Str → Option Addr} {F H : Hp}
theorem split_ok (ch : List Nat) : ∀ (ρ : Env) (i : Nat) (σ : L2.St) (T : Fp), Sls ⟨K, cm, F, H⟩ ρ σ T → ∃ G T2, Eqf T (ad G T2) ∧ Sls ⟨K, cm, F, H⟩ (dropE ch i ρ) σ T2 ∧ ∀ F', Sub F F' → (∀ a, T2 a ≠ 0 → F' a = H a) → Sls ⟨K, cm, F', H⟩ (lendE ch i ρ) σ G
  | [], i, σ, T, h => ⟨zf, zf, fun a => h.2 a, ⟨h.1, .rfl'⟩, fun _ _ _ => ⟨h.1, .rfl'⟩⟩
  | none :: ρ, i, σ, T, h => by
    obtain ⟨w, r, rfl, h⟩ := h
    obtain ⟨G, T2, e, h1, h2⟩ := split_ok ch ρ (i + 1) r T h
    refine ⟨G, T2, e, ?_, fun F' fs hh => ?_⟩
    · show Sls _ ((if ch.contains i = true then none else none) :: dropE ch (i + 1) ρ) _ _
      rw [show (if ch.contains i = true then (none : Option D) else none) = none by split <;> rfl]
      exact ⟨w, r, rfl, h1⟩
    · show Sls _ ((if ch.contains i = true then none else lendO none) :: lendE ch (i + 1) ρ) _ _
      rw [show (if ch.contains i = true then (none : Option D) else lendO none) = none by split <;> rfl]
      exact ⟨w, r, rfl, h2 F' fs hh⟩
  | some d :: ρ, i, σ, T, h => by
    obtain ⟨w, r, g, x, rfl, ho, h, eT⟩ := h
    obtain ⟨G, T2, e, h1, h2⟩ := split_ok ch ρ (i + 1) r x h
    by_cases c : ch.contains i = true
    · refine ⟨ad g G, T2, fun a => ?_, ?_, fun F' fs hh => ?_⟩
      · have := e a
        rw [eT a]
        simp only [ad_ap] at this ⊢
        omega
      · show Sls _ ((if ch.contains i = true then none else some d) :: dropE ch (i + 1) ρ) _ _
        rw [if_pos c]
        exact ⟨some w, r, rfl, h1⟩
      · show Sls _ ((if ch.contains i = true then some d else lendO (some d)) :: lendE ch (i + 1) ρ) _ _
        rw [if_pos c]
        exact ⟨w, r, g, G, rfl, ow_sub fs ho, h2 F' fs hh, .rfl'⟩
    · refine ⟨G, ad g T2, fun a => ?_, ?_, fun F' fs hh => ?_⟩
      · have := e a
        rw [eT a]
        simp only [ad_ap] at this ⊢
        omega
      · show Sls _ ((if ch.contains i = true then none else some d) :: dropE ch (i + 1) ρ) _ _
        rw [if_neg c]
        exact ⟨w, r, g, T2, rfl, ho, h1, .rfl'⟩
      · show Sls _ ((if ch.contains i = true then some d else lendO (some d)) :: lendE ch (i + 1) ρ) _ _
        rw [if_neg c]
        have hr := h2 F' fs fun a z => hh a (by rw [ad_ap]; omega)
        show Sls _ ((if noObj d = true then some (frz d) else none) :: lendE ch (i + 1) ρ) _ _
        by_cases n : noObj d = true
        · rw [if_pos n]
          exact ⟨w, r, zf, G, rfl, Ow.frz fs d w g n (fun a z => hh a (by rw [ad_ap]; omega)) ho, hr, fun a => by rw [ad_ap, zf_ap]; omega⟩
        · rw [if_neg n]
          exact ⟨some w, r, rfl, hr⟩
theorem keep_ok {E : HE} (ch : List Nat) : ∀ (ρ : Env) (i : Nat) {σ : L2.St} {T : Fp}, Sls E ρ σ T → ∃ A, Sls E (keepE ch i ρ) σ A ∧ ∀ a, A a ≤ T a
  | [], i, σ, T, h => ⟨T, h, fun _ => Nat.le_refl _⟩
  | none :: ρ, i, σ, T, h => by
    obtain ⟨w, r, rfl, h⟩ := h
    obtain ⟨A, h1, h2⟩ := keep_ok ch ρ (i + 1) h
    refine ⟨A, ?_, h2⟩
    show Sls _ ((if ch.contains i = true then none else none) :: keepE ch (i + 1) ρ) _ _
    rw [show (if ch.contains i = true then (none : Option D) else none) = none by split <;> rfl]
    exact ⟨w, r, rfl, h1⟩
  | some d :: ρ, i, σ, T, h => by
    obtain ⟨w, r, g, x, rfl, ho, h, eT⟩ := h
    obtain ⟨A, h1, h2⟩ := keep_ok ch ρ (i + 1) h
    by_cases c : ch.contains i = true
    · refine ⟨ad g A, ?_, fun a => by rw [eT a]; simp only [ad_ap]; have := h2 a; omega⟩
      show Sls _ ((if ch.contains i = true then some d else none) :: keepE ch (i + 1) ρ) _ _
      rw [if_pos c]
      exact ⟨w, r, g, A, rfl, ho, h1, .rfl'⟩
    · refine ⟨A, ?_, fun a => by rw [eT a]; simp only [ad_ap]; have := h2 a; omega⟩
      show Sls _ ((if ch.contains i = true then some d else none) :: keepE ch (i + 1) ρ) _ _
      rw [if_neg c]
      exact ⟨some w, r, rfl, h1⟩
theorem mix_ok {E : HE} (ch : List Nat) : ∀ (ρ ρ2 : Env) (i : Nat) {σ : L2.St} {A B : Fp}, Sls E (keepE ch i ρ2) σ A → Sls E (dropE ch i ρ) σ B → Sls E (mixE ch i ρ ρ2) σ (ad A B)
  | [], [], i, σ, A, B, h1, h2 => ⟨h1.1, fun a => by rw [ad_ap, h1.2 a, h2.2 a]; rfl⟩
  | [], o :: ρ2, i, σ, A, B, h1, h2 => by
    have e := h1.len
    have e2 := h2.len
    rw [← e2] at e
    simp [keepE, dropE] at e
  | o :: ρ, [], i, σ, A, B, h1, h2 => by
    have e := h1.len
    have e2 := h2.len
    rw [← e2] at e
    simp [keepE, dropE] at e
  | o :: ρ, o2 :: ρ2, i, σ, A, B, h1, h2 => by
    have j1 : Sls E ((if ch.contains i = true then o2 else none) :: keepE ch (i + 1) ρ2) σ A := h1
    have j2 : Sls E ((if ch.contains i = true then none else o) :: dropE ch (i + 1) ρ) σ B := h2
    clear h1 h2
    show Sls E ((if ch.contains i = true then o2 else o) :: mixE ch (i + 1) ρ ρ2) σ (ad A B)
    by_cases c : ch.contains i = true
    · rw [if_pos c] at j1 j2 ⊢
      obtain ⟨w, r, rfl, k2⟩ := j2
      cases o2 with
      | none =>
        obtain ⟨w2, r2, e, k1⟩ := j1
        cases e
        exact ⟨_, _, rfl, mix_ok ch ρ ρ2 (i + 1) k1 k2⟩
      | some d =>
        obtain ⟨w2, r2, g, x, e, ho, k1, eA⟩ := j1
        cases e
        exact ⟨w2, _, g, ad x B, rfl, ho, mix_ok ch ρ ρ2 (i + 1) k1 k2, fun a => by simp only [ad_ap, eA a]; omega⟩
    · rw [if_neg c] at j1 j2 ⊢
      obtain ⟨w, r, rfl, k1⟩ := j1
      cases o with
      | none =>
        obtain ⟨w2, r2, e, k2⟩ := j2
        cases e
        exact ⟨_, _, rfl, mix_ok ch ρ ρ2 (i + 1) k1 k2⟩
      | some d =>
        obtain ⟨w2, r2, g, x, e, ho, k2, eB⟩ := j2
        cases e
        exact ⟨w2, _, g, ad A x, rfl, ho, mix_ok ch ρ ρ2 (i + 1) k1 k2, fun a => by simp only [ad_ap, eB a]; omega⟩
end
def rLend (ch : List Nat) (f : ME) : ME := fun ρ => match f (lendE ch 0 ρ) with
  | .ok d ρ2 => if (okB d && okEnv (keepE ch 0 ρ2)) = true then .ok d (mixE ch 0 ρ ρ2) else .no
  | .ex e ρ2 => if (okBs (e.fs.map (·.2)) && okEnv (keepE ch 0 ρ2)) = true then .ex e (mixE ch 0 ρ ρ2) else .no
  | .no => .no
section
variable {X : Cx} {cm : Str → Option Addr} {W : WX} {S : Sc} {pos : Pos}
theorem lend_sp (ch : List Nat) {t : TE} {f : ME} (q : SpE S W t f) : SpE S W t (rLend ch f) := by
  intro σ F H T ρ Q w s k
  obtain ⟨G, T2, e, l2, hl⟩ := split_ok ch ρ 0 σ T s
  have w2 : Wd F H (ad G T2) := w.eqf e.symm
  obtain ⟨F', fs, hF, wG, bak⟩ := lend w2
  refine q σ F' H G (lendE ch 0 ρ) Q wG (hl F' fs hF) ?_
  unfold rLend at k
  cases e3 : f (lendE ch 0 ρ) with
  | no => rw [e3] at k; exact k
  | ok d ρ2 =>
    rw [e3] at k
    have k : EndE S W σ F H T (if (okB d && okEnv (keepE ch 0 ρ2)) = true then .ok d (mixE ch 0 ρ ρ2) else .no) Q := k
    by_cases z : (okB d && okEnv (keepE ch 0 ρ2)) = true
    · rw [if_pos z] at k
      rw [Bool.and_eq_true] at z
      intro v F3 H3 T3 C3 w3 s3 l3 o4
      obtain ⟨F4, w4, s4, ht⟩ := bak F3 H3 _ w3 s3
      have l4 := lendSls w2 s4 s3.keep l2
      obtain ⟨A, l5, lA⟩ := keep_ok ch ρ2 0 l3
      have l6 := Sls.okB ht _ z.2 l5
      have o4' := Ow.okB ht d z.1 o4
      have l7 := mix_ok ch ρ ρ2 0 l6 l4
      have le5 : ∀ a, ad (ad A T2) C3 a ≤ ad (ad T3 C3) T2 a := fun a => by simp only [ad_ap]; have := lA a; omega
      have s5 : Stp F H T F4 H3 (ad (ad T3 C3) T2) := s4.eqfL e
      exact k v F4 H3 (ad A T2) C3 (w4.le le5) (s5.leR le5) l7 o4'
    · rw [if_neg z] at k; exact k.elim
  | ex y ρ2 =>
    rw [e3] at k
    have k : EndE S W σ F H T (if (okBs (y.fs.map (·.2)) && okEnv (keepE ch 0 ρ2)) = true then .ex y (mixE ch 0 ρ ρ2) else .no) Q := k
    by_cases z : (okBs (y.fs.map (·.2)) && okEnv (keepE ch 0 ρ2)) = true
    · rw [if_pos z] at k
      rw [Bool.and_eq_true] at z
      intro c dd F3 H3 T3 x1 x2 w3 s3 l3
      obtain ⟨F4, w4, s4, ht⟩ := bak F3 H3 _ w3 s3
      have l4 := lendSls w2 s4 s3.keep l2
      obtain ⟨A, l5, lA⟩ := keep_ok ch ρ2 0 l3
      have l6 := Sls.okB ht _ z.2 l5
      have l7 := mix_ok ch ρ ρ2 0 l6 l4
      have le5 : ∀ a, ad A T2 a ≤ ad T3 T2 a := fun a => by simp only [ad_ap]; have := lA a; omega
      have s5 : Stp F H T F4 H3 (ad T3 T2) := s4.eqfL e
      exact k c dd F4 H3 (ad A T2) x1 (FsOk.okB ht z.1 x2) (w4.le le5) (s5.leR le5) l7
    · rw [if_neg z] at k; exact k.elim
theorem E.lend (ch : List Nat) {e : Expr} {f : ME} (h : GE X cm W e f) : GE X cm W e (rLend ch f) := by
  obtain ⟨t, p, q⟩ := h
  exact ⟨t, p, lend_sp ch q⟩
theorem spT_lend (ch : List Nat) {t : TT} {f : ME} (q : SpT S W t f) : SpT S W t (rLend ch f) := by
  intro σ F H T ρ Q w s k
  obtain ⟨G, T2, e, l2, hl⟩ := split_ok ch ρ 0 σ T s
  have w2 : Wd F H (ad G T2) := w.eqf e.symm
  obtain ⟨F', fs, hF, wG, bak⟩ := lend w2
  refine q σ F' H G (lendE ch 0 ρ) Q wG (hl F' fs hF) ?_
  unfold rLend at k
  cases e3 : f (lendE ch 0 ρ) with
  | no => rw [e3] at k; exact k
  | ok d ρ2 =>
    rw [e3] at k
    have k : EndT S W σ F H T (if (okB d && okEnv (keepE ch 0 ρ2)) = true then .ok d (mixE ch 0 ρ ρ2) else .no) Q := k
    by_cases z : (okB d && okEnv (keepE ch 0 ρ2)) = true
    · rw [if_pos z] at k
      rw [Bool.and_eq_true] at z
      obtain ⟨b, eb, kk⟩ := k
      refine ⟨b, eb, fun F3 H3 T3 w3 s3 l3 => ?_⟩
      obtain ⟨F4, w4, s4, ht⟩ := bak F3 H3 _ w3 s3
      have l4 := lendSls w2 s4 s3.keep l2
      obtain ⟨A, l5, lA⟩ := keep_ok ch ρ2 0 l3
      have l6 := Sls.okB ht _ z.2 l5
      have l7 := mix_ok ch ρ ρ2 0 l6 l4
      have le5 : ∀ a, ad A T2 a ≤ ad T3 T2 a := fun a => by simp only [ad_ap]; have := lA a; omega
      have s5 : Stp F H T F4 H3 (ad T3 T2) := s4.eqfL e
      exact kk F4 H3 (ad A T2) (w4.le le5) (s5.leR le5) l7
    · rw [if_neg z] at k; exact k.elim
  | ex y ρ2 =>
    rw [e3] at k
    have k : EndT S W σ F H T (if (okBs (y.fs.map (·.2)) && okEnv (keepE ch 0 ρ2)) = true then .ex y (mixE ch 0 ρ ρ2) else .no) Q := k
    by_cases z : (okBs (y.fs.map (·.2)) && okEnv (keepE ch 0 ρ2)) = true
    · rw [if_pos z] at k
      rw [Bool.and_eq_true] at z
      intro c dd F3 H3 T3 x1 x2 w3 s3 l3
      obtain ⟨F4, w4, s4, ht⟩ := bak F3 H3 _ w3 s3
      have l4 := lendSls w2 s4 s3.keep l2
      obtain ⟨A, l5, lA⟩ := keep_ok ch ρ2 0 l3
      have l6 := Sls.okB ht _ z.2 l5
      have l7 := mix_ok ch ρ ρ2 0 l6 l4
      have le5 : ∀ a, ad A T2 a ≤ ad T3 T2 a := fun a => by simp only [ad_ap]; have := lA a; omega
      have s5 : Stp F H T F4 H3 (ad T3 T2) := s4.eqfL e
      exact k c dd F4 H3 (ad A T2) x1 (FsOk.okB ht z.1 x2) (w4.le le5) (s5.leR le5) l7
    · rw [if_neg z] at k; exact k.elim
theorem T.lend (ch : List Nat) {e : Expr} {f : ME} (h : GT X cm W e f) : GT X cm W e (rLend ch f) := by
  obtain ⟨t, p, q⟩ := h
  exact ⟨t, p, spT_lend ch q⟩
/-! ### a name given away once all behind it is reckoned -/
def aMv (i : Nat) (m : MA) : MA := fun ρ => match gt ρ i with
  | some _ => match m ρ with
    | .ok as ρ2 => match gt ρ2 i with
      | some d => .ok (.val d :: as) (ρ2.set i none)
      | none => .no
    | .ex e ρ2 => .ex e ρ2
    | .no => .no
  | none => .no
theorem aMv_ln {i : Nat} {m : MA} {n : Nat} (h : Ln m n) : Ln (aMv i m) (n + 1) := fun ρ as ρ' e => by
  unfold aMv at e
  cases e1 : gt ρ i with
  | none => rw [e1] at e; cases e
  | some d =>
    rw [e1] at e
    dsimp only at e
    cases e2 : m ρ with
    | no => rw [e2] at e; cases e
    | ex z ρ2 => rw [e2] at e; cases e
    | ok as2 ρ2 =>
      rw [e2] at e
      dsimp only at e
      cases e3 : gt ρ2 i with
      | none => rw [e3] at e; cases e
      | some d2 =>
        rw [e3] at e
        cases e
        exact congrArg (· + 1) (h _ _ _ e2)
theorem aMv_sp {i : Nat} {ta : TA} {m : MA} (q2 : SpA S W ta m) : SpA S W (tCons (tVar i) ta) (aMv i m) := by
  intro σ F H T ρ Q w s k
  unfold aMv at k
  cases e : gt ρ i with
  | none => rw [e] at k; exact k.elim
  | some d =>
    rw [e] at k
    obtain ⟨v, g, x, h1, h2, h3, h4⟩ := s.get (gt_some e)
    refine ⟨v, h1, q2 σ F H T ρ _ w s ?_⟩
    have k : EndA S W σ F H T (match m ρ with
      | .ok as ρ2 => (match gt ρ2 i with
        | some d => .ok (.val d :: as) (ρ2.set i none)
        | none => .no)
      | .ex e ρ2 => .ex e ρ2
      | .no => .no) Q := k
    cases e2 : m ρ with
    | no => rw [e2] at k; exact k
    | ex z ρ2 => rw [e2] at k; exact k
    | ok as ρ2 =>
      rw [e2] at k
      have k : EndA S W σ F H T (match gt ρ2 i with
        | some d => .ok (.val d :: as) (ρ2.set i none)
        | none => .no) Q := k
      intro vs F2 H2 T2 C2 w2 s2 l2 o2
      cases e3 : gt ρ2 i with
      | none => rw [e3] at k; exact k.elim
      | some d2 =>
        rw [e3] at k
        obtain ⟨v2, g2, x2, k1, k2, k3, k4⟩ := l2.get (gt_some e3)
        rw [h1] at k1
        injection k1 with k1
        injection k1 with k1
        subst k1
        have e4 : Eqf (ad x2 (ad g2 C2)) (ad T2 C2) := fun a => by simp only [ad_ap, k4 a]; omega
        exact k (v :: vs) F2 H2 x2 (ad g2 C2) (w2.eqf e4) (s2.eqf e4) k3 ⟨v, vs, g2, C2, rfl, k2, o2, .rfl'⟩
theorem aL (i : Nat) {x : Str} {p : Pos} {es : List Expr} {m : MA} (h2 : GA X cm W es m) (hN : X.N[i]? = some x := by rfl) (hv : Vis X.env.scope x := by first | exact .inl rfl | exact .inr (.inl rfl) | exact .inr (.inr rfl)) (hd : (x == ("__debug__" : Str)) = false := by decide) (hcd : (x == ("__classdict__" : Str)) = false := by decide)
    (hs : starEach (.Name x p :: es) X.env = (false, eval (.Name x p) X.env) :: starEach es X.env := by rfl) : GA X cm W (.Name x p :: es) (aMv i m) := by
  obtain ⟨t2, p2, q2, l2⟩ := h2
  exact ⟨_, pa_cons (pe_var hN hv hd hcd) p2 hs, aMv_sp q2, aMv_ln l2⟩
end
section
open PySem L2 PyProof.Rows
variable {X : Cx} {cm : Str → Option Addr} {W : WX} {wr : Nat → Bool} {pos : Pos}
variable {elt tg iter : Expr} {ifs : List Expr} {scope : Scope} {own : List (Str × Nat)} {f : MI} {m : MG} {tt te : ME}
theorem S.setLcL (ch : List Nat) {i : Nat} {y : Str} {py spos : Pos} (hc : X.calm = true) (hN : X.N.Nodup) (hy : X.N[i]? = some y) (hyl : X.env.scope.names.lookup y = some .local)
    (hsw : swapsWith (.ListComp elt [⟨tg, iter, ifs, 0⟩] scope pos) (some (.Name y py)) spos.line X.env = pure true) (hi : GI X cm tg iter f) (ok : BlkOk X.N X.env.scope scope own)
    (hg : ∀ (s : Shared) (H : Hp) (C : Addr) (cl : List (Str × Addr)) (fp : List Addr), GG (X.blk s H scope (compEnvC scope cl C X.env) fp) cm wr tg m)
    (ht : ∀ (s : Shared) (H : Hp) (C : Addr) (cl : List (Str × Addr)) (fp : List Addr), GTs (X.blk s H scope (compEnvC scope cl C X.env) fp) cm W0 ifs tt)
    (he : ∀ (s : Shared) (H : Hp) (C : Addr) (cl : List (Str × Addr)) (fp : List Addr), GE (X.blk s H scope (compEnvC scope cl C X.env) fp) cm W0 elt te)
    (lg : LnG m) (hw : ∀ i, i ∉ own.map (·.2) → wr i = false) (hs : ∀ x, foldedSetIterable iter X.env x = pure x := by intro _; rfl) : GS X cm W (w1 i) (.Assign [.Name y py] (.ListComp elt [⟨tg, iter, ifs, 0⟩] scope pos) spos) (mAsg (rLend ch (rLc (own.map (·.2)) f m tt te)) (gN i)) := by
  obtain ⟨wi, p, q⟩ := hi
  exact ⟨_, ps_setLc hc hN hy hyl hsw p ok (fun s H C cl fp => (hg s H C cl fp).st) (fun s H C cl fp => (ht s H C cl fp).st) (fun s H C cl fp => (he s H C cl fp).st) hs, asg_sp (lend_sp ch (lc_sp (S := ⟨X.K, cm⟩) _ q lg hw)) gName_sp⟩
end
/-! ### reckoning -/
section
variable {ρ ρ1 ρ2 : Env} {d : D} {i : Nat} {e : Xn} {o o2 : Option D} {ch : List Nat} {as : List Ag}
def aMvK2 (i : Nat) (as : List Ag) (ρ : Env) : Option D → Ra
  | some d => .ok (.val d :: as) (ρ.set i none)
  | none => .no
def aMvK (i : Nat) (o : Option D) (r : Ra) : Ra := match o with
  | some _ => match r with
    | .ok as ρ2 => aMvK2 i as ρ2 (gt ρ2 i)
    | .ex e ρ2 => .ex e ρ2
    | .no => .no
  | none => .no
@[simp] theorem aMv_ap {m : MA} : aMv i m ρ = aMvK i (gt ρ i) (m ρ) := by
  unfold aMv aMvK
  cases gt ρ i with
  | none => rfl
  | some _ =>
    cases m ρ with
    | ok as ρ2 => dsimp only; unfold aMvK2; cases gt ρ2 i <;> rfl
    | _ => rfl
@[simp] theorem aMvK_ok : aMvK i (some d) (.ok as ρ) = aMvK2 i as ρ (gt ρ i) := rfl
@[simp] theorem aMvK2_s : aMvK2 i as ρ (some d) = .ok (.val d :: as) (ρ.set i none) := rfl
@[simp] theorem lendO_n : lendO none = none := rfl
@[simp] theorem lendO_s : lendO (some d) = if noObj d = true then some (frz d) else none := rfl
@[simp] theorem lendE_nil : lendE ch i [] = [] := rfl
@[simp] theorem lendE_cons : lendE ch i (o :: ρ) = (if ch.contains i = true then o else lendO o) :: lendE ch (i + 1) ρ := rfl
@[simp] theorem keepE_nil : keepE ch i [] = [] := rfl
@[simp] theorem keepE_cons : keepE ch i (o :: ρ) = (if ch.contains i = true then o else none) :: keepE ch (i + 1) ρ := rfl
@[simp] theorem mixE_nil : mixE ch i [] [] = [] := rfl
@[simp] theorem mixE_cons : mixE ch i (o :: ρ) (o2 :: ρ2) = (if ch.contains i = true then o2 else o) :: mixE ch (i + 1) ρ ρ2 := rfl
def lendK (ch : List Nat) (ρ : Env) : Re → Re
  | .ok d ρ2 => if (okB d && okEnv (keepE ch 0 ρ2)) = true then .ok d (mixE ch 0 ρ ρ2) else .no
  | .ex e ρ2 => if (okBs (e.fs.map (·.2)) && okEnv (keepE ch 0 ρ2)) = true then .ex e (mixE ch 0 ρ ρ2) else .no
  | .no => .no
@[simp] theorem rLend_ap {f : ME} : rLend ch f ρ = lendK ch ρ (f (lendE ch 0 ρ)) := by
  unfold rLend lendK
  cases f (lendE ch 0 ρ) <;> rfl
@[simp] theorem lendK_ok : lendK ch ρ (.ok d ρ2) = if (okB d && okEnv (keepE ch 0 ρ2)) = true then .ok d (mixE ch 0 ρ ρ2) else .no := rfl
@[simp] theorem lendK_ex : lendK ch ρ (.ex e ρ2) = if (okBs (e.fs.map (·.2)) && okEnv (keepE ch 0 ρ2)) = true then .ex e (mixE ch 0 ρ ρ2) else .no := rfl
end
end DL
namespace DL
open PySem L2 PyProof.Rows
section
variable {K : PySem.W.Frag} {mg : Str → Option Value} {h : Heap}
theorem constI {x : Str} {i : Int} {t : Tok} (X : K.In h) (G : h.Ns mainGlobals mg) (a : PySem.W.nsIn K mainGlobals x = some (some (.int i t))) : ∃ u, mg x = some u ∧ RelV (.int i) u := ⟨_, PySem.W.mg_of X G a, t, rfl⟩
theorem constS {x : Str} {i : Str} {t : Tok} (X : K.In h) (G : h.Ns mainGlobals mg) (a : PySem.W.nsIn K mainGlobals x = some (some (.str i t))) : ∃ u, mg x = some u ∧ RelV (.str i) u := ⟨_, PySem.W.mg_of X G a, t, rfl⟩
end
section
variable {ρ : Env} {d c : D} {i j : Nat} {js : List Nat} {k : Nd} {o : Bool} {xs : List D} {x : Int}
def pxK3 (js : List Nat) : Option Nat → Option (List Nat)
  | some j => some (js ++ [j])
  | none => none
def pxK2 (js : List Nat) : Option D → Option D → Option (List Nat)
  | some (.nd .lst _ xs), some (.int k) => pxK3 js (ixN xs.length k)
  | some (.nd .tup _ xs), some (.int k) => pxK3 js (ixN xs.length k)
  | _, _ => none
def pxK (i : Nat) (g : MV) (ρ : Env) : Option (List Nat) → Option (List Nat)
  | some js => pxK2 js (getS ρ i js) (g ρ)
  | none => none
@[simp] theorem pIx_ap {π : MP} {g : MV} : pIx i π g ρ = pxK i g ρ (π ρ) := by
  unfold pIx pxK
  cases π ρ with
  | none => rfl
  | some js =>
    show (match getS ρ i js, g ρ with
      | some (.nd .lst _ xs), some (.int k) => (ixN xs.length k).map fun j => js ++ [j]
      | some (.nd .tup _ xs), some (.int k) => (ixN xs.length k).map fun j => js ++ [j]
      | _, _ => none) = pxK2 js (getS ρ i js) (g ρ)
    unfold pxK2
    split
    · cases ixN _ _ <;> rfl
    · cases ixN _ _ <;> rfl
    · rfl
@[simp] theorem pxK_s {g : MV} : pxK i g ρ (some js) = pxK2 js (getS ρ i js) (g ρ) := rfl
@[simp] theorem pxK2_l : pxK2 js (some (.nd .lst o xs)) (some (.int x)) = pxK3 js (ixN xs.length x) := rfl
@[simp] theorem pxK2_t : pxK2 js (some (.nd .tup o xs)) (some (.int x)) = pxK3 js (ixN xs.length x) := rfl
@[simp] theorem pxK3_s : pxK3 js (some j) = some (js ++ [j]) := rfl
def gsK (js : List Nat) : Option D → Option D
  | some d => if noFz d js = true then getP d js else none
  | none => none
@[simp] theorem getS_cons : getS ρ i (j :: js) = gsK (j :: js) (gt ρ i) := by
  unfold getS gsK
  cases gt ρ i <;> rfl
@[simp] theorem gsK_s : gsK js (some d) = if noFz d js = true then getP d js else none := rfl
def ssK (i : Nat) (js : List Nat) (c : D) (ρ : Env) : Option D → Option Env
  | some d => (setP d js c).map fun e => ρ.set i (some e)
  | none => none
@[simp] theorem setS_cons : setS ρ i (j :: js) c = ssK i (j :: js) c ρ (gt ρ i) := by
  unfold setS ssK
  cases gt ρ i <;> rfl
@[simp] theorem ssK_s : ssK i js c ρ (some d) = (setP d js c).map fun e => ρ.set i (some e) := rfl
@[simp] theorem getP_nil : getP d [] = some d := by cases d <;> rfl
@[simp] theorem getP_nd : getP (.nd k o xs) (j :: js) = (xs[j]?).bind fun x => getP x js := rfl
@[simp] theorem setP_nil : setP d [] c = some c := by cases d <;> rfl
@[simp] theorem setP_nd : setP (.nd k o xs) (j :: js) c = if (o || decide (k = .tup)) = true then (xs[j]?).bind fun x => (setP x js c).map fun y => .nd k o (xs.set j y) else none := rfl
@[simp] theorem ixN_0 {n : Nat} : ixN (n + 1) 0 = some 0 := ixN_nat (j := 0) (Nat.succ_pos _)
@[simp] theorem ixN_1 {n : Nat} : ixN (n + 1 + 1) 1 = some 1 := ixN_nat (j := 1) (by omega)
@[simp] theorem ixN_2_0 : ixN 2 0 = some 0 := ixN_nat (j := 0) (by omega)
@[simp] theorem ixN_2_1 : ixN 2 1 = some 1 := ixN_nat (j := 1) (by omega)
@[simp] theorem ixN_3_0 : ixN 3 0 = some 0 := ixN_nat (j := 0) (by omega)
@[simp] theorem ixN_3_1 : ixN 3 1 = some 1 := ixN_nat (j := 1) (by omega)
@[simp] theorem ixN_3_2 : ixN 3 2 = some 2 := ixN_nat (j := 2) (by omega)
def nzK (js : List Nat) : Option D → Bool
  | some x => noFz x js
  | none => true
@[simp] theorem nzK_s : nzK js (some d) = noFz d js := rfl
@[simp] theorem noFz_cons : noFz (.nd k o xs) (j :: js) = (!decide (k = .fzl) && nzK js xs[j]?) := by
  show (!decide (k = .fzl) && match xs[j]? with
    | some x => noFz x js
    | none => true) = _
  cases xs[j]? <;> rfl
@[simp] theorem noFz_nil : noFz d [] = true := by cases d <;> rfl
def iR2V (ρ1 : Env) : Option (List D) → Option (List D × Env)
  | some [.int i, .int j] => if (decide (-(2 ^ 62) ≤ i) && decide (i < 2 ^ 62) && (decide (-(2 ^ 62) ≤ j) && decide (j < 2 ^ 62))) = true then some (rgD i j, ρ1) else none
  | _ => none
def iR2K : Ra → Option (List D × Env)
  | .ok as ρ1 => iR2V ρ1 (vals as)
  | _ => none
@[simp] theorem iR2_ap {m : MA} : iR2 m ρ = iR2K (m ρ) := by
  unfold iR2 iR2K
  cases m ρ with
  | ok as ρ1 => dsimp only; unfold iR2V; rfl
  | _ => rfl
@[simp] theorem iR2K_ok {as : List Ag} : iR2K (.ok as ρ) = iR2V ρ (vals as) := rfl
theorem iR2V_s {a b : Int} (h : -(2 ^ 62) ≤ a) (h2 : a < 2 ^ 62) (h3 : -(2 ^ 62) ≤ b) (h4 : b < 2 ^ 62) : iR2V ρ (some [.int a, .int b]) = some (rgD a b, ρ) := by
  show (if _ then _ else _) = _
  rw [if_pos]
  simp only [Bool.and_eq_true, decide_eq_true_eq]
  omega
/-! a place's method, its arguments reckoned -/
def mlK4 (d : D) : Option Env → Re
  | some ρ3 => .ok d ρ3
  | none => .no
def mlK3 (i : Nat) (js : List Nat) (d0 : D) (ρ1 : Env) : Option (D × List D) → Re
  | some z => mlK4 z.1 (setS (ρ1.set i (some d0)) i js (.nd .lst true z.2))
  | none => .no
def mlK2 (op : List D → List D → Option (D × List D)) (i : Nat) (js : List Nat) (d0 : D) (xs : List D) (ρ1 : Env) : Option (List D) → Re
  | some ds => mlK3 i js d0 ρ1 (op xs ds)
  | none => .no
def mlK1 (op : List D → List D → Option (D × List D)) (i : Nat) (js : List Nat) (d0 : D) (xs : List D) : Ra → Re
  | .ok as ρ1 => mlK2 op i js d0 xs ρ1 (vals as)
  | _ => .no
def mlK0 (op : List D → List D → Option (D × List D)) (i : Nat) (js : List Nat) (d0 : D) (m : MA) (ρ : Env) : Option D → Re
  | some (.nd .lst true xs) => mlK1 op i js d0 xs (m (ρ.set i none))
  | _ => .no
def mlKK (op : List D → List D → Option (D × List D)) (i : Nat) (js : List Nat) (m : MA) (ρ : Env) : Option D → Re
  | some d0 => mlK0 op i js d0 m ρ (getS ρ i js)
  | none => .no
def mlKP (op : List D → List D → Option (D × List D)) (i : Nat) (m : MA) (ρ : Env) : Option (List Nat) → Re
  | some js => mlKK op i js m ρ (gt ρ i)
  | none => .no
@[simp] theorem rMtL_ap {op : List D → List D → Option (D × List D)} {π : MP} {m : MA} : rMtL op i π m ρ = mlKP op i m ρ (π ρ) := by
  unfold rMtL mlKP
  cases π ρ with
  | none => rfl
  | some js =>
    dsimp only
    unfold mlKK
    cases gt ρ i with
    | none => rfl
    | some d0 =>
      dsimp only
      unfold mlK0
      cases getS ρ i js with
      | none => rfl
      | some c => cases c with
        | nd k b xs => cases k with
          | lst => cases b with
            | false => rfl
            | true =>
              dsimp only
              unfold mlK1
              cases m (ρ.set i none) with
              | ok as ρ1 =>
                dsimp only
                unfold mlK2
                cases vals as with
                | none => rfl
                | some ds =>
                  dsimp only
                  unfold mlK3
                  cases op xs ds with
                  | none => rfl
                  | some z =>
                    dsimp only
                    unfold mlK4
                    cases setS (ρ1.set i (some d0)) i js (.nd .lst true z.2) <;> rfl
              | _ => rfl
          | _ => rfl
        | _ => rfl
@[simp] theorem mlKP_s {op : List D → List D → Option (D × List D)} {m : MA} : mlKP op i m ρ (some js) = mlKK op i js m ρ (gt ρ i) := rfl
@[simp] theorem mlKK_s {op : List D → List D → Option (D × List D)} {m : MA} : mlKK op i js m ρ (some d) = mlK0 op i js d m ρ (getS ρ i js) := rfl
@[simp] theorem mlK0_s {op : List D → List D → Option (D × List D)} {m : MA} : mlK0 op i js d m ρ (some (.nd .lst true xs)) = mlK1 op i js d xs (m (ρ.set i none)) := rfl
@[simp] theorem mlK1_s {op : List D → List D → Option (D × List D)} {as : List Ag} : mlK1 op i js d xs (.ok as ρ) = mlK2 op i js d xs ρ (vals as) := rfl
@[simp] theorem mlK2_s {op : List D → List D → Option (D × List D)} {ds : List D} : mlK2 op i js d xs ρ (some ds) = mlK3 i js d ρ (op xs ds) := rfl
@[simp] theorem mlK3_s {e : D} {ys : List D} : mlK3 i js d ρ (some (e, ys)) = mlK4 e (setS (ρ.set i (some d)) i js (.nd .lst true ys)) := rfl
@[simp] theorem mlK4_s : mlK4 d (some ρ) = .ok d ρ := rfl
end
end DL
namespace PM
open PySem L2 PyProof.Rows DL
/-! ### bits -/
theorem log2_lt {i : Int} {k : Nat} (h1 : 0 ≤ i) (h2 : i < (2 : Int) ^ k) (hk : 0 < k) : i.natAbs.log2 < k := by
  by_cases z : i.natAbs = 0
  · rw [z]; simpa using hk
  · rw [Nat.log2_lt z]
    have h3 : (i.natAbs : Int) < (2 : Int) ^ k := by
      rcases Int.natAbs_eq i with e | e <;> omega
    exact_mod_cast h3
theorem bits_le {i : Int} {k : Nat} (h1 : 0 ≤ i) (h2 : i < (2 : Int) ^ k) (hk : 0 < k) : Builtin.Int.intBits i ≤ k := by
  unfold Builtin.Int.intBits
  split
  · omega
  · have := log2_lt h1 h2 hk
    omega
theorem mul_s {i j : Int} (k l : Nat) (h1 : 0 ≤ i) (h2 : i < (2 : Int) ^ k) (h3 : 0 ≤ j) (h4 : j < (2 : Int) ^ l) (hk : 0 < k) (hl : 0 < l) (h : k + l ≤ 1000000) : dMul (.int i) (.int j) = some (.int (i * j)) :=
  dMul_i (by have := log2_lt h1 h2 hk; have := log2_lt h3 h4 hl; omega)
theorem pow_s {i : Int} (k e : Nat) (h1 : 0 ≤ i) (h2 : i < (2 : Int) ^ k) (hk : 0 < k) (h : k * e ≤ 134217728) : dPow (.int i) (.int (e : Nat)) = some (.int (i ^ e)) := by
  have hb := bits_le h1 h2 hk
  rw [dPow_i (by omega)]
  · rfl
  · have h3 : Builtin.Int.intBits i * e ≤ k * e := Nat.mul_le_mul_right e hb
    have h4 := Nat.le_trans h3 h
    rw [← Int.natCast_mul]
    omega
theorem p10_6 : dPow (.int 10) (.int 6) = some (.int 1000000) := pow_s 4 6 (by omega) (by omega) (by omega) (by omega)
theorem p10_18 : dPow (.int 10) (.int 18) = some (.int 1000000000000000000) := pow_s 4 18 (by omega) (by omega) (by omega) (by omega)
theorem p10_28 : dPow (.int 10) (.int 28) = some (.int 10000000000000000000000000000) := pow_s 4 28 (by omega) (by omega) (by omega) (by omega)
theorem p10_29 : dPow (.int 10) (.int 29) = some (.int 100000000000000000000000000000) := pow_s 4 29 (by omega) (by omega) (by omega) (by omega)
theorem p10_30 : dPow (.int 10) (.int 30) = some (.int 1000000000000000000000000000000) := pow_s 4 30 (by omega) (by omega) (by omega) (by omega)
theorem p10_31 : dPow (.int 10) (.int 31) = some (.int 10000000000000000000000000000000) := pow_s 4 31 (by omega) (by omega) (by omega) (by omega)
theorem p10_36 : dPow (.int 10) (.int 36) = some (.int 1000000000000000000000000000000000000) := pow_s 4 36 (by omega) (by omega) (by omega) (by omega)
theorem p10_38 : dPow (.int 10) (.int 38) = some (.int 100000000000000000000000000000000000000) := pow_s 4 38 (by omega) (by omega) (by omega) (by omega)
theorem p10_40 : dPow (.int 10) (.int 40) = some (.int 10000000000000000000000000000000000000000) := pow_s 4 40 (by omega) (by omega) (by omega) (by omega)
theorem p10_41 : dPow (.int 10) (.int 41) = some (.int 100000000000000000000000000000000000000000) := pow_s 4 41 (by omega) (by omega) (by omega) (by omega)
theorem p10_43 : dPow (.int 10) (.int 43) = some (.int 10000000000000000000000000000000000000000000) := pow_s 4 43 (by omega) (by omega) (by omega) (by omega)
/-! ### lists of whole numbers -/
/-- a list of whole numbers, owned or not -/
abbrev il (o : Bool) (x : List Int) : D := .nd .lst o (x.map .int)
/-- natural numbers as whole ones -/
def nI (ps : List Nat) : List Int := ps.map (fun p : Nat => (p : Int))
@[simp] theorem nI_nil : nI [] = [] := rfl
@[simp] theorem nI_len (ps : List Nat) : (nI ps).length = ps.length := by simp [nI]
@[simp] theorem nI_app (ps qs : List Nat) : nI (ps ++ qs) = nI ps ++ nI qs := by simp [nI]
@[simp] theorem nI_cons (p : Nat) (ps : List Nat) : nI (p :: ps) = (p : Int) :: nI ps := rfl
theorem nI_mem {ps : List Nat} {i : Int} (h : i ∈ nI ps) : ∃ p : Nat, i = p ∧ p ∈ ps := by
  obtain ⟨p, hp, rfl⟩ := List.mem_map.mp h
  exact ⟨p, rfl, hp⟩
theorem nI_get {ps : List Nat} {p : Nat} (h : p < ps.length) : (nI ps)[p]'(by simpa using h) = ((ps[p] : Nat) : Int) := by simp [nI]
theorem nI_inj {ps qs : List Nat} (h : nI ps = nI qs) : ps = qs := by
  induction ps generalizing qs with
  | nil => cases qs with
    | nil => rfl
    | cons a r => cases h
  | cons a r ih =>
    cases qs with
    | nil => cases h
    | cons b s =>
      injection h with h1 h2
      rw [ih h2, Int.ofNat_inj.mp h1]
theorem atG {x : List Int} {p : Nat} (h : p < x.length) : L2.atI (x.map D.int) (p : Int) = some (.int x[p]) := by
  rw [atI_nat' (by simpa using h)]; simp
theorem atN {ps : List Nat} {p : Nat} (h : p < ps.length) : L2.atI ((nI ps).map D.int) (p : Int) = some (.int (ps[p] : Nat)) := by
  rw [atG (by simpa using h), nI_get h]
theorem atL {x : List D} {p : Nat} (h : p < x.length) : L2.atI x (p : Int) = some x[p] := atI_nat' h
theorem at_last {x : List Int} (h : x ≠ []) : L2.atI (x.map D.int) (-1) = some (.int (x.getLast h)) := by
  have e := List.dropLast_concat_getLast h
  conv => lhs; rw [← e]
  rw [List.map_append]
  exact atI_last _ _
theorem atD_last {x : List D} (h : x ≠ []) : L2.atI x (-1) = some (x.getLast h) := by
  have e := List.dropLast_concat_getLast h
  conv => lhs; rw [← e]
  exact atI_last _ _
theorem szl : sizeLine = 16777216 := by decide
theorem app_s {xs : List D} {d : D} (h : xs.length < 16777216) : uApp xs [d] = some (.non, xs ++ [d]) := by
  show (if decide (xs.length < sizeLine) = true then some (D.non, xs ++ [d]) else none) = _
  rw [decide_eq_true (by rw [szl]; exact h)]; rfl
@[simp] theorem noOwns_app (a b : List D) : noOwns (a ++ b) = (noOwns a && noOwns b) := by
  induction a with
  | nil => simp
  | cons x r ih => simp [ih, Bool.and_assoc]
@[simp] theorem noObjs_app (a b : List D) : noObjs (a ++ b) = (noObjs a && noObjs b) := by
  induction a with
  | nil => simp
  | cons x r ih => simp [ih, Bool.and_assoc]
@[simp] theorem okBs_app (a b : List D) : okBs (a ++ b) = (okBs a && okBs b) := by
  induction a with
  | nil => simp
  | cons x r ih => simp [ih, Bool.and_assoc]
@[simp] theorem frzs_app (a b : List D) : frzs (a ++ b) = frzs a ++ frzs b := by
  induction a with
  | nil => simp
  | cons x r ih => simp [ih]
@[simp] theorem okBs_mapI {α : Type} (f : α → Int) (l : List α) : okBs (l.map (D.int ∘ f)) = true := by
  rw [← List.map_map]; simp [-List.map_map]
@[simp] theorem noOwns_mapI {α : Type} (f : α → Int) (l : List α) : noOwns (l.map (D.int ∘ f)) = true := by
  rw [← List.map_map]; simp [-List.map_map]
@[simp] theorem noObjs_mapI {α : Type} (f : α → Int) (l : List α) : noObjs (l.map (D.int ∘ f)) = true := by
  rw [← List.map_map]; simp [-List.map_map]
@[simp] theorem frzs_mapI {α : Type} (f : α → Int) (l : List α) : frzs (l.map (D.int ∘ f)) = l.map (D.int ∘ f) := by
  rw [← List.map_map]; simp [-List.map_map]
theorem noOwns_all {ds : List D} (h : ∀ d ∈ ds, noOwn d = true) : noOwns ds = true := by
  induction ds with
  | nil => rfl
  | cons x r ih => simp [h x List.mem_cons_self, ih fun d hd => h d (List.mem_cons_of_mem _ hd)]
theorem noObjs_all {ds : List D} (h : ∀ d ∈ ds, noObj d = true) : noObjs ds = true := by
  induction ds with
  | nil => rfl
  | cons x r ih => simp [h x List.mem_cons_self, ih fun d hd => h d (List.mem_cons_of_mem _ hd)]
theorem okBs_all {ds : List D} (h : ∀ d ∈ ds, okB d = true) : okBs ds = true := by
  induction ds with
  | nil => rfl
  | cons x r ih => simp [h x List.mem_cons_self, ih fun d hd => h d (List.mem_cons_of_mem _ hd)]
theorem frzs_map (ds : List D) : frzs ds = ds.map frz := by
  induction ds with
  | nil => rfl
  | cons x r ih => simp [ih]
theorem range_map {α : Type} (n : Nat) (f : Int → α) : (rgD 0 (n : Int)).map (fun d => match d with | .int i => f i | _ => f 0) = (List.range n).map fun i : Nat => f (i : Int) := by
  unfold rgD
  rw [List.map_map, Int.sub_zero, Int.toNat_natCast]
  apply List.map_congr_left
  intro i _
  simp
theorem rgD_nI (n : Nat) : rgD 0 (n : Int) = (nI (List.range n)).map D.int := by
  unfold rgD nI
  rw [List.map_map, Int.sub_zero, Int.toNat_natCast]
  apply List.map_congr_left
  intro i _
  simp
theorem rRg1_s {f : MV} {ρ : DL.Env} {n : Nat} (h : f ρ = some (.int n)) (hn : n < 1000000) : rRg1 f ρ = .ok (il true (nI (List.range n))) ρ := by
  unfold rRg1
  rw [h]
  show Re.of (dRange (.int 0) (.int (n : Int))) ρ = _
  have e : dRange (.int 0) (.int (n : Int)) = some (.nd .lst true (rgD 0 n)) := by
    show (if rgOk 0 (n : Int) = true then some (D.nd .lst true (rgD 0 n)) else none) = _
    rw [if_pos]
    unfold rgOk
    simp only [Bool.and_eq_true, decide_eq_true_eq]
    omega
  rw [e, rgD_nI]; rfl
/-! ### the writing of data -/
structure Rp (d : D) (n dep : Nat) : Prop where
  ex : ∃ p, toPy d = some p ∧ p.showable = true ∧ p.hasDict = false ∧ p.depth ≤ dep ∧ p.shown.length ≤ n
def rp (d : D) : Str := match toPy d with
  | some p => p.shown
  | none => ""
theorem Rp.le {d : D} {n m dep e : Nat} (h : Rp d n dep) (h1 : n ≤ m) (h2 : dep ≤ e) : Rp d m e := by
  obtain ⟨p, a, b, c, x, y⟩ := h.ex
  exact ⟨p, a, b, c, by omega, by omega⟩
theorem Rp.int {i : Int} (h : i.natAbs < 10 ^ 72) : Rp (.int i) 73 0 := by
  refine ⟨.int i, rfl, ?_, rfl, Nat.zero_le _, ?_⟩
  · simp only [PyData.showable]
    refine decide_eq_true ?_
    by_cases z : i.natAbs = 0
    · rw [z]; decide
    · rw [Nat.log2_lt z]
      exact Nat.lt_of_lt_of_le h (Nat.le_trans (m := 2 ^ 240) (by decide) (Nat.pow_le_pow_right (by omega) (by omega)))
  · have e := PySem.int_text_length_le10 (k := 72) (by decide) h
    show (Str.ofString (toString i)).length ≤ 73
    rw [PySem.ofString_length]; exact e
theorem Rp.non : Rp .non 73 0 := ⟨.none, rfl, rfl, rfl, Nat.zero_le _, by decide⟩
theorem Rp.bl {b : Bool} : Rp (.bl b) 73 0 := ⟨.bool b, rfl, rfl, rfl, Nat.zero_le _, by cases b <;> decide⟩
theorem Rp.all {n dep : Nat} : ∀ {xs : List D}, (∀ d ∈ xs, Rp d n dep) → ∃ ps, toPys xs = some ps ∧ PyData.showableAll ps = true ∧ PyData.hasDictAll ps = false ∧ PyData.depthAll ps ≤ dep ∧ ((PyData.shownAll ps).map (·.length)).sum ≤ xs.length * n ∧ (PyData.shownAll ps).length = xs.length
  | [], _ => ⟨[], rfl, rfl, rfl, Nat.zero_le _, Nat.zero_le _, rfl⟩
  | d :: xs, h => by
    obtain ⟨ps, h1, h2, h3, h4, h5, h6⟩ := Rp.all fun x hx => h x (List.mem_cons_of_mem _ hx)
    obtain ⟨p, a, b, c, x, y⟩ := (h d List.mem_cons_self).ex
    refine ⟨p :: ps, by simp [toPys, a, h1], by simp [PyData.showableAll, b, h2], by simp [PyData.hasDictAll, c, h3], by simp [PyData.depthAll]; omega, ?_, by simp [PyData.shownAll, h6]⟩
    simp only [PyData.shownAll, List.map_cons, List.sum_cons, List.length_cons, Nat.add_mul]
    omega
theorem Rp.lst {o : Bool} {xs : List D} {n dep : Nat} (h : ∀ d ∈ xs, Rp d n dep) : Rp (.nd .lst o xs) (xs.length * (n + 2) + 3) (dep + 1) := by
  obtain ⟨ps, h1, h2, h3, h4, h5, h6⟩ := Rp.all h
  refine ⟨.list ps, by simp [toPy, h1], h2, h3, by simp only [PyData.depth]; omega, ?_⟩
  have := listText_len_le (PyData.shownAll ps)
  show (listText (PyData.shownAll ps)).length ≤ _
  rw [Nat.mul_add]
  omega
theorem Rp.tup {o : Bool} {xs : List D} {n dep : Nat} (h : ∀ d ∈ xs, Rp d n dep) : Rp (.nd .tup o xs) (xs.length * (n + 2) + 3) (dep + 1) := by
  obtain ⟨ps, h1, h2, h3, h4, h5, h6⟩ := Rp.all h
  refine ⟨.tuple ps, by simp [toPy, h1], h2, h3, by simp only [PyData.depth]; omega, ?_⟩
  have := tupleText_len_le (PyData.shownAll ps)
  show (tupleText (PyData.shownAll ps)).length ≤ _
  rw [Nat.mul_add]
  omega
theorem Rp.ints {o : Bool} {x : List Int} (h : ∀ i ∈ x, i.natAbs < 10 ^ 72) : Rp (il o x) (x.length * 75 + 3) 1 := by
  have := Rp.lst (o := o) (xs := x.map .int) (n := 73) (dep := 0) fun d hd => by
    obtain ⟨i, hi, rfl⟩ := List.mem_map.mp hd
    exact Rp.int (h i hi)
  simpa using this
theorem Rp.s {d : D} {n dep : Nat} (h : Rp d n dep) (hn : n ≤ 16777216) (hd : dep ≤ 100) : dRepr [d] = some (.str (rp d)) := by
  obtain ⟨p, a, b, c, x, y⟩ := h.ex
  have e : dRepr [d] = (toPyE d).bind fun p => if (p.showable && decide (p.depth ≤ 100) && decide (p.shown.length ≤ sizeLine)) = true then some (.str p.shown) else none := rfl
  unfold rp
  rw [e, a, toPyE_of a]
  show (if _ then _ else _) = _
  rw [if_pos]
  rw [b, decide_eq_true (show p.depth ≤ 100 by omega), decide_eq_true (show p.shown.length ≤ sizeLine by rw [szl]; omega)]; rfl
/-! ownership does not show -/
mutual
theorem toPy_frz : ∀ d : D, toPy (frz d) = toPy d
  | .non => rfl
  | .bl _ => rfl
  | .int _ => rfl
  | .str _ => rfl
  | .nd .lst _ xs => by show (toPys (frzs xs)).map _ = (toPys xs).map _; rw [toPys_frz xs]
  | .nd .tup _ xs => by show (toPys (frzs xs)).map _ = (toPys xs).map _; rw [toPys_frz xs]
  | .nd .fzl _ xs => rfl
  | .nd (.dct _) _ xs => rfl
  | .nd (.dtt _) _ xs => rfl
  | .nd (.obj _ _) _ xs => rfl
  | .nd (.exn _ _) _ xs => rfl
theorem toPys_frz : ∀ ds : List D, toPys (frzs ds) = toPys ds
  | [] => rfl
  | d :: ds => by show (toPy (frz d)).bind _ = (toPy d).bind _; rw [toPy_frz d, toPys_frz ds]
end
@[simp] theorem rp_frz (d : D) : rp (frz d) = rp d := by unfold rp; rw [toPy_frz]
theorem Rp.frz {d : D} {n dep : Nat} (h : Rp d n dep) : Rp (DL.frz d) n dep := by
  obtain ⟨p, a, b⟩ := h.ex
  exact ⟨p, by rw [toPy_frz]; exact a, b⟩
theorem rp_congr {d e : D} (h : toPy d = toPy e) : rp d = rp e := by unfold rp; rw [h]
@[simp] theorem toPy_lst (o : Bool) (xs : List D) : toPy (.nd .lst o xs) = (toPys xs).map .list := rfl
@[simp] theorem toPy_tup (o : Bool) (xs : List D) : toPy (.nd .tup o xs) = (toPys xs).map .tuple := rfl
@[simp] theorem toPy_int (i : Int) : toPy (.int i) = some (.int i) := rfl
@[simp] theorem toPy_bl (i : Bool) : toPy (.bl i) = some (.bool i) := rfl
@[simp] theorem toPy_str (i : Str) : toPy (.str i) = some (.str i) := rfl
@[simp] theorem toPy_non : toPy .non = some .none := rfl
@[simp] theorem toPys_nil : toPys [] = some [] := rfl
@[simp] theorem toPys_cons (d : D) (ds : List D) : toPys (d :: ds) = (toPy d).bind fun p => (toPys ds).map fun ps => p :: ps := rfl
@[simp] theorem toPys_il (x : List Int) : toPys (x.map D.int) = some (x.map PyData.int) := toPys_ints x
/-! ### words on lists of whole numbers -/
theorem pl_s (o o' : Bool) (xs ys : List D) (h : noOwns xs = true) (h2 : noOwns ys = true) (hl : xs.length + ys.length ≤ 16777216) : dPl (.nd .lst o xs) (.nd .lst o' ys) = some (.nd .lst true (xs ++ ys)) := by
  show dCat .lst xs ys = _
  unfold dCat
  rw [h, h2, decide_eq_true (by rw [szl]; omega)]; rfl
theorem pl_il (o o' : Bool) (xs ys : List Int) (hl : xs.length + ys.length ≤ 16777216) : dPl (il o xs) (il o' ys) = some (il true (xs ++ ys)) := by
  rw [pl_s o o' _ _ (by simp) (by simp) (by simpa using hl)]
  simp
theorem sorted_il (o : Bool) (xs : List Int) : dSorted [il o xs] = some (il true (isort xs)) := by
  show (intsD (xs.map .int)).map _ = _
  rw [DL.ints_of]; rfl
end PM
namespace DL
open PySem L2 PyProof.Rows PySem.Spec
/-! ### sorted(set(xs)) of whole numbers -/
section
variable {P : Program} {w : World} {A : Around} {E : Value → Shared → Prop} {s : Shared}
/-- the empty set as it is laid first -/
abbrev setObj0 (w : World) : Obj := { cls := .type "set", dict := none, data := .set #[] 0 (.fresh 0 0 (!w.params.followText "set-order")) }
set_option maxHeartbeats 3200000 in
/-- what filling it from a list of whole numbers leaves -/
theorem fill_list {l : Addr} {items : Array Value} (ns : List Int) (hh : A.handled = none) (hl : s.heap.IsList l items) (hit : IntsAre items.toList ns) (hb : ns.length + 1 < scanBound) :
    codeAny (model P w) A (.call (.builtin "set.__init__") ⟨[.ref s.heap.objs.size, .ref l], []⟩)
      (wants (fun r s2 => r = .none ∧ ∃ h' tk c, s2 = { s with heap := h', toks := tk } ∧ SetR w h' s.heap.objs.size (fun j => decide (j ∈ ns)) c ∧ c ≤ ns.length ∧ ∀ b o, s.heap.get? b = some o → h'.get? b = some o) E)
      { s with heap := s.heap.push (setObj0 w) } := by
  have hn : items.size = ns.length := by
    have := IntsAre.length hit
    rwa [Array.length_toList] at this
  have at0 : (s.heap.push (setObj0 w)).get? s.heap.objs.size = some (setObj0 w) := Heap.get?_push_size _ rfl
  have ty : Shared.TypeIs { s with heap := s.heap.push (setObj0 w) } (.ref s.heap.objs.size) "set" := ⟨_, at0, rfl⟩
  refine codeAny_call_builtin F.called_set.init.plain F.entry_set_init (check_set_init_1 ty ?_)
  obtain ⟨⟨ocls, odict, odata, oslots⟩, hol, hcl, nl, hdl⟩ := hl
  dsimp only at hcl hdl
  subst hcl; subst hdl
  have hol1 : (s.heap.push (setObj0 w)).get? l = some { cls := .type "list", dict := odict, data := .seq items nl, slots := oslots } := Heap.get?_push_of_some _ hol
  have il1 : (s.heap.push (setObj0 w)).IsList l items := ⟨_, hol1, rfl, nl, rfl⟩
  have sub1 := PySem.F.sub_list_set
  have sub2 := PySem.F.sub_list_frozenset
  have nd : (Value.type "list" == Value.type "dict") = false := by decide
  have ls : l < s.heap.objs.size := Heap.lt_size hol
  have hh3 : A.in1.in1.handled = none := by simp [hh]
  have hz : (s.heap.push (setObj0 w)).objs.size = s.heap.objs.size + 1 := Heap.size_push ..
  have li : l ≠ (s.heap.push (setObj0 w)).objs.size := by
    rw [Heap.size_push]
    exact Nat.ne_of_lt (Nat.lt_succ_of_lt ls)
  have vals : ∀ (i : Nat) (v : Value), items[i]? = some v → ∃ k t, ns[i]? = some k ∧ v = .int k t := fun i v hv => by
    have hi : i < ns.length := by rw [← hn]; exact (Array.getElem?_eq_some_iff.mp hv).1
    obtain ⟨t, e⟩ := PyProof.Rows.IntsAre.int_at hit i v (by rw [Array.getElem?_toList]; exact hv)
    refine ⟨ns[i], t, List.getElem?_eq_getElem hi, ?_⟩
    rw [e, List.getD_eq_getElem?_getD, List.getElem?_eq_getElem hi]; rfl
  unfold Builtin.«set.__init__» noKeywords Builtin.Frozenset.updateFrom
  generalize hPI : pyIter = PI
  wp_walk
  subst hPI
  refine wpAny_pyIter_list il1 (wpAny_bind (wpAny_runValue ?_))
  refine set_update_ints ((Walks.list hh3 _ l li items).toS) s.heap.objs.size (by
      rw [Heap.size_push]
      simp only [List.mem_cons, List.not_mem_nil, or_false, not_or]
      exact ⟨Nat.ne_of_lt (Nat.lt_succ_self _), Nat.ne_of_gt ls⟩) ns hn hb vals (items.size - 0) 0 _ (by omega) (Nat.zero_le _)
    ?hst ?h0 ?h1
  case hst => exact ⟨⟨_, Heap.get?_push_size _ rfl, rfl, rfl⟩, il1.push _⟩
  case h0 => exact ⟨0, Nat.le_refl 0, setR_new_at (w := w) (ns := ns) (h := (s.heap.push (setObj0 w)).push { cls := .type "list_iterator", data := .fields #[.ref l, .int 0 0] }) (Heap.get?_push_of_some _ at0)⟩
  intro s' c' hm hc' hS'
  obtain ⟨h', g', d', tk', os'⟩ := s'
  obtain rfl : g' = s.gens := hm.gens
  obtain rfl : d' = s.drawn := hm.drawn
  obtain rfl : os' = s.os := hm.os
  show wpAny _ _ _ _ _ _
  refine wpAny_pure ?_
  show wpAny _ _ (ret Value.none) _ _ _
  refine wpAny_pure ⟨rfl, h', tk', c', rfl, hS', by omega, fun b o e => ?_⟩
  have b0 : b < s.heap.objs.size := Heap.lt_size e
  refine hm.heap b o ?_ (Heap.get?_push_of_some _ (Heap.get?_push_of_some _ e))
  rw [Heap.size_push]
  simp only [List.mem_cons, List.not_mem_nil, or_false, not_or]
  exact ⟨Nat.ne_of_lt b0, Nat.ne_of_lt (Nat.lt_succ_of_lt b0)⟩
set_option maxHeartbeats 3200000 in
/-- the set of a list of whole numbers, that can be walked -/
theorem call_set_listW {l : Addr} {items : Array Value} (ns : List Int) {Q : Value → Shared → Prop} (hh : A.handled = none) (hl : s.heap.IsList l items) (hit : IntsAre items.toList ns) (hb : ns.length + 1 < scanBound)
    (h : ∀ (h' : Heap) (tk c : Nat), SetR w h' s.heap.objs.size (fun j => decide (j ∈ ns)) c → c ≤ ns.length → (∀ b o, s.heap.get? b = some o → h'.get? b = some o) → Q (.ref s.heap.objs.size) { s with heap := h', toks := tk }) :
    wpAny (model P w) A (call (.type "set") [.ref l]) Q E s := by
  obtain ⟨c, tl, hmro⟩ := F.called_set.mro
  have made := F.called_set.made
  have sub := F.called_set.sub
  have k1 := F.called_set.notType
  have k2 := F.called_set.canCreate
  have k3 := F.typeCall_set_1 (.ref l)
  have at0 : (s.heap.push (setObj0 w)).get? s.heap.objs.size = some (setObj0 w) := Heap.get?_push_size _ rfl
  have ty : Shared.TypeIs { s with heap := s.heap.push (setObj0 w) } (.ref s.heap.objs.size) "set" := ⟨_, at0, rfl⟩
  have i1 := F.called_set.init.lookup
  have i2 := F.called_set.init.bind (.ref s.heap.objs.size)
  refine wpAny_call (codeAny_of_tree ?_)
  show wpAny _ _ (callAny (.type "set") _) _ _ _
  refine wpAny_pure ⟨Code.quiet_builtin _ (by decide +kernel), codeAny_builtin F.entry_type_call ?_⟩
  rw [Around.under_plain (weight_type_call_type "set" [.ref l] []) rfl]
  repeat (any_goals (first | assumption | wp_step))
  refine codeAny_mono (code_set_led1 (.ref l) (E := E) (Q₁ := fun o s1 => o = .ref s.heap.objs.size ∧ s1 = { s with heap := s.heap.push (setObj0 w) }) ⟨rfl, rfl⟩) fun r s1 hr => ?_
  match r, hr with
  | .error e, hr => exact hr
  | .ok (.ret obj), hr =>
    obtain ⟨rfl, rfl⟩ := hr
    repeat (any_goals (first | assumption | wp_step))
    refine codeAny_mono (fill_list (P := P) (w := w) (E := E) ns (A := _) (by simpa using hh) hl hit hb) fun r2 s2 hr2 => ?_
    match r2, hr2 with
    | .error e, hr2 => exact hr2
    | .ok (.ret v), hr2 =>
      obtain ⟨rfl, h', tk, c', rfl, hS', hc', hk⟩ := hr2
      repeat (any_goals (first | assumption | wp_step))
      exact h _ _ _ hS' hc' hk
end
end DL
namespace DL
open PySem L2 PyProof.Rows
section
variable {X : Cx} {cm : Str → Option Addr} {W : WX} {S : Sc} {pos : Pos} {K : PySem.W.Frag}
/-- set(xs) of a list of whole numbers -/
def rSetL (K : PySem.W.Frag) (w : World) : List V → Hp → VK → Prop := fun xs H Q => ∃ (p : Addr) (ns : List Int), xs = [.ref p] ∧ SqL K H p (ns.map V.int) ∧ ns.length < 4000 ∧
  ∀ q c, c ≤ ns.length → H q = none → Q (.ref q) (upd H q (SetO w q (fun j => decide (j ∈ ns)) c))
theorem call_set_of (hc : X.calm = true) : CallR X (.type "set") (rSetL X.K X.w) := by
  intro pins s σ H xs us Q I r h
  obtain ⟨p, ns, rfl, hl, hz, q⟩ := h
  obtain ⟨u, rfl, rx⟩ := vals1 r
  cases rx
  obtain ⟨its, r', pl, hz'⟩ := I.list hl
  refine call_set_listW ns (I.ok.hd hc) pl.isList (by simpa using ints_of_vals r') (by unfold scanBound; omega) fun h' tk c R hc k => ?_
  have hn := I.hok.fresh (Nat.le_refl s.heap.objs.size)
  exact ⟨.ref s.heap.objs.size, _, I.laid (t' := tk) k (Nat.le_refl _) (setO_new R), rfl, q _ c hc hn⟩
/-- each number once -/
def ddup : List Int → List Int
  | [] => []
  | x :: r => if x ∈ r then ddup r else x :: ddup r
theorem mem_ddup {k : Int} : ∀ {l : List Int}, k ∈ ddup l ↔ k ∈ l
  | [] => .rfl
  | x :: r => by
    unfold ddup
    split
    · rename_i h
      rw [mem_ddup, List.mem_cons]
      constructor
      · exact .inr
      · rintro (rfl | h2)
        · exact h
        · exact h2
    · rw [List.mem_cons, List.mem_cons, mem_ddup]
theorem nodup_ddup : ∀ l : List Int, (ddup l).Nodup
  | [] => List.nodup_nil
  | x :: r => by
    unfold ddup
    split
    · exact nodup_ddup r
    · rename_i h
      exact List.nodup_cons.mpr ⟨fun z => h (mem_ddup.mp z), nodup_ddup r⟩
def srt (ns : List Int) : List Int := isort (ddup ns)
theorem srt_uniq {ns ms : List Int} (h : ms.Pairwise (· < ·)) (m : ∀ k, k ∈ ms ↔ k ∈ ns) : ms = srt ns := by
  have nd : ms.Nodup := h.imp fun h => by omega
  have p : ms.Perm (ddup ns) := (List.perm_ext_iff_of_nodup nd (nodup_ddup ns)).mpr fun k => (m k).trans mem_ddup.symm
  exact sorted_eq p (h.imp fun h => by omega)
def dSSet : D → Option D
  | .nd .lst _ xs => (intsD xs).bind fun ns => if ns.length < 64 then some (.nd .lst true ((srt ns).map .int)) else none
  | _ => none
def rSS (K : PySem.W.Frag) (w : World) : V → Hp → VK → Prop := fun x H Q => rSetL K w [x] H fun y H1 => rSortedSet w [y] H1 Q
theorem m_sset {w : World} : MkOk K (rSS K w) dSSet := by
  intro cm F H x a d f Q hs e o k
  unfold dSSet at e
  split at e
  · rename_i oo xs
    obtain ⟨ns, e1, e2⟩ := Option.bind_eq_some_iff.mp e
    by_cases hz : ns.length < 64
    · rw [if_pos hz] at e2
      cases e2
      obtain ⟨p, ws, g, rfl, hw, hn⟩ := o
      rw [ints_map e1] at hw
      rw [ows_ints hw] at hn
      refine ⟨p, ns, rfl, hn.lst hs, by omega, fun q c hc hq => ⟨q, _, c, rfl, upd_same, by omega, fun ms p2 h1 h2 h3 hp2 => ?_⟩⟩
      rw [srt_uniq h1 fun k => (h2 k).trans decide_eq_true_iff]
      obtain ⟨w1, s1, fs⟩ := allocF (o := SetO w q (fun j => decide (j ∈ ns)) c) (wz hs) hq
      obtain ⟨w2, s2⟩ := newG (o := .lst ((srt ns).map V.int)) w1.sub hp2 trivial
      exact k _ _ _ _ w2 ((s1.trans w1 s2)) (newL hp2 (ows_ofInts _))
    · rw [if_neg hz] at e2; cases e2
  · cases e
theorem E.sset {e : Expr} {f : ME} {p p2 pos2 : Pos} (hc : X.calm = true) (hg : Gl X "sorted") (hm : X.mg "sorted" = none) (hg2 : Gl X "set") (hm2 : X.mg "set" = none) (he : GE X cm W e f) (hs : starEach [e] X.env = (false, eval e X.env) :: starEach [] X.env := by rfl)
    (hs2 : starEach [Expr.Call (.Name "set" p2) [e] [] pos2] X.env = (false, eval (Expr.Call (.Name "set" p2) [e] [] pos2) X.env) :: starEach [] X.env := by rfl) :
    GE X cm W (.Call (.Name "sorted" p) [.Call (.Name "set" p2) [e] [] pos2] [] pos) (rMkE dSSet f) := by
  obtain ⟨t, pe, q⟩ := he
  exact ⟨_, pe_callB (cr_sortedSet hc) hg hm (by decide +kernel) (pa_cons (pe_callTy (call_set_of hc) hg2 hm2 (by decide +kernel) (pa_cons pe pa_nil hs) (by decide) (by decide) hs rfl) pa_nil hs2) (by decide) (by decide) hs2 rfl,
    mkE_sp (S := ⟨X.K, cm⟩) m_sset q fun σ H Q h => h⟩
theorem E.ssetV {e : Expr} {f : MV} {p p2 pos2 : Pos} (hc : X.calm = true) (hg : Gl X "sorted") (hm : X.mg "sorted" = none) (hg2 : Gl X "set") (hm2 : X.mg "set" = none) (he : GV X cm e f) (hs : starEach [e] X.env = (false, eval e X.env) :: starEach [] X.env := by rfl)
    (hs2 : starEach [Expr.Call (.Name "set" p2) [e] [] pos2] X.env = (false, eval (Expr.Call (.Name "set" p2) [e] [] pos2) X.env) :: starEach [] X.env := by rfl) :
    GE X cm W (.Call (.Name "sorted" p) [.Call (.Name "set" p2) [e] [] pos2] [] pos) (rMkV dSSet f) := by
  obtain ⟨t, pe, q⟩ := he
  exact ⟨_, pe_callB (cr_sortedSet hc) hg hm (by decide +kernel) (pa_cons (pe_callTy (call_set_of hc) hg2 hm2 (by decide +kernel) (pa_cons pe pa_nil hs) (by decide) (by decide) hs rfl) pa_nil hs2) (by decide) (by decide) hs2 rfl,
    mkV_sp (S := ⟨X.K, cm⟩) m_sset q fun σ H Q h => h⟩
@[simp] theorem dSSet_l {o : Bool} {ns : List Int} : dSSet (.nd .lst o (ns.map .int)) = if ns.length < 64 then some (.nd .lst true ((srt ns).map .int)) else none := by
  show (intsD (ns.map .int)).bind _ = _
  rw [ints_of]; rfl
end
end DL
set_option maxHeartbeats 2000000
namespace DL
open PySem PySem.Spec PyProof.Rows L2
/-! ### an exception that was caught stands from then on -/
abbrev suiteC (X : Cx) (a : Addr) : Cx := { X with A := X.A.mark (some (.ref a)), calm := false, xe := fun _ _ => False }
theorem xo_ok {P : Program} {w : World} {H : Hp} {h : Heap} {a : Addr} {oe : Obj} (ha : h.get? a = some oe) : ObjOk P w H h a (xo a oe) := ⟨ha, ⟨oe, ha⟩, fun _ _ e k => k _ e⟩
theorem HOk.note {P : Program} {w : World} {H : Hp} {h : Heap} {a : Addr} {oe : Obj} (ok : HOk P w H h) (ha : h.get? a = some oe) (na : H a = none) : HOk P w (upd H a (xo a oe)) h := fun b u e => by
  by_cases hb : b = a
  · subst hb; rw [upd_same] at e; cases e; exact xo_ok ha
  · rw [upd_ne hb] at e
    exact (ok b u e).stay (fun c v _ q => q) (fun c q => by rw [upd_ne (ne_of_none q na)]; exact q) fun c xs q => by rw [upd_ne (ne_of_none q na)]; exact q
theorem okC {X : Cx} (ok : X.Ok) (a : Addr) : (suiteC X a).Ok :=
  ⟨ok.mod, ok.kind, ok.glob, ok.blt, ok.above, ok.inj, ok.has, ok.cab, (fun z => absurd (show false = true from z) Bool.false_ne_true), ok.frames, ok.stk, ok.exf, ok.bs, ok.bsz, ok.noex, ok.exfs, ok.funs, ok.frf⟩
section
variable {X : Cx} {pins : List (Addr × Obj)} {σ : L2.St} {H : Hp} {s : Shared} {a : Addr} {oe : Obj}
theorem noteC (I : Inv X pins σ H s) (ha : s.heap.get? a = some oe) (na : H a = none) (n0 : X.s_0.heap.get? a = none) (nL : a ≠ X.env.locals) (np : ∀ p ∈ X.pn ++ pins, p.1 ≠ a) (nc : ∀ x c, X.env.cells.lookup x = some c → c ≠ a) :
    Inv (suiteC X a) pins σ (upd H a (xo a oe)) s where
  ok := okC I.ok a
  os := I.os
  bare := I.bare
  base := ⟨I.base.keep, I.base.slot, fun b o e n hx => by
      have hb : b ≠ a := fun z => by rw [z, n0] at e; cases e
      rw [upd_ne hb]
      exact I.base.free b o e n hx, I.base.there, fun b xs e => by rw [upd_ne (ne_of_none (I.base.tups b xs e) na)]; exact I.base.tups b xs e, fun b o u e => by rw [upd_ne (ne_of_none (I.base.frzs b o u e) na)]; exact I.base.frzs b o u e, fun b ps e => by
      obtain ⟨m, q⟩ := I.base.tbls b ps e
      exact ⟨m, by rw [upd_ne (ne_of_none q na)]; exact q⟩⟩
  loc := I.loc
  cell := I.cell
  free := by
    show upd H a (xo a oe) X.env.locals = none
    rw [upd_ne (Ne.symm nL)]; exact I.free
  freeC := fun x c e => by rw [upd_ne (nc x c e)]; exact I.freeC x c e
  pin := fun p hp => by
    obtain ⟨h1, h2, h3⟩ := I.pin p hp
    exact ⟨h1, by rw [upd_ne (np p hp)]; exact h2, h3⟩
  hok := HOk.note I.hok ha na
  len := I.len
theorem unC (I : Inv (suiteC X a) pins σ H s) (ok : X.Ok) : Inv X pins σ H s := ⟨ok, I.os, I.bare, I.base, I.loc, I.cell, I.free, I.freeC, I.pin, I.hok, I.len⟩
end
/-! ### try: body / except x as n: suite / .. -/
def outE (D : Ends) : Option Nat → Ends
  | some i => { nx := fun σ' H' => D.nx (σ'.set i none) H', rt := D.rt, bk := fun σ' H' => D.bk (σ'.set i none) H', ct := fun σ' H' => D.ct (σ'.set i none) H' }
  | none => D
def inS (σ : L2.St) (a : Addr) : Option Nat → L2.St
  | some i => σ.set i (some (.ref a))
  | none => σ
def wH (K : PySem.W.Frag) (Wout : WX) (D : Ends) : List (Value × Option Nat × (Addr → TS)) → WX
  | [] => Wout
  | (c, oi, ts) :: r => fun cls d σ H => ∃ b, PySem.W.exmOne K cls c = some b ∧ (b = true → ∀ a oe, H a = none → Zc cls d oe → (∃ vs, oe.data = .fields vs) → ts a (outE D oi) (inS σ a oi) (upd H a (xo a oe))) ∧ (b = false → wH K Wout D r cls d σ H)
inductive HdK (X : Cx) : List ExceptHandler → List (Value × Option Nat × (Addr → TS)) → Prop
  | nil : HdK X [] []
  | only {x : Str} {c : Value} {ts : Addr → TS} {b₀ : Stmt} {suite : List Stmt} {np pos' : Pos} {hds : List ExceptHandler} {l : List (Value × Option Nat × (Addr → TS))} (hc : Names X x c) (hsu : ∀ a, PSs (suiteC X a) (b₀ :: suite) (ts a)) (r : HdK X hds l) :
      HdK X (.ExceptHandler (some (.Name x np)) none (b₀ :: suite) pos' :: hds) ((c, none, ts) :: l)
  | as {x n : Str} {i : Nat} {c : Value} {ts : Addr → TS} {b₀ : Stmt} {suite : List Stmt} {np pos' : Pos} {hds : List ExceptHandler} {l : List (Value × Option Nat × (Addr → TS))} (hc : Names X x c) (hN : X.N.Nodup) (hi : X.N[i]? = some n) (hln : X.env.kindOf n = some .local)
      (hsu : ∀ a, PSs (suiteC X a) (b₀ :: suite) (ts a)) (r : HdK X hds l) :
      HdK X (.ExceptHandler (some (.Name x np)) (some n) (b₀ :: suite) pos' :: hds) ((c, some i, ts) :: l)
section
variable {X : Cx} {body : List Stmt} {h₀ : ExceptHandler} {hds : List ExceptHandler} {l : List (Value × Option Nat × (Addr → TS))} {pos : Pos} {Wout : WX} {tb : (W : WX) → (pn : List (Addr × Obj)) → (xe : Value → Shared → Prop) → Takes (X.tr pn xe) W → PassesOwn (model X.prog X.w) X.A X.env xe → TS}
theorem ps_tryD (hs : X.stack = X.env :: X.outer) (hf : X.env.frame = some X.env.locals) (hex : X.ex = []) (tk : Takes X Wout)
    (hb : ∀ (W : WX) (pn : List (Addr × Obj)) (xe : Value → Shared → Prop) (tk : Takes (X.tr pn xe) W) (po : PassesOwn (model X.prog X.w) X.A X.env xe), PSs (X.tr pn xe) body (tb W pn xe tk po))
    (hh : HdK X (h₀ :: hds) l) : PS X (.Try body (h₀ :: hds) [] [] pos) (fun D σ H => ∀ pn xe tk po, tb (wH X.K Wout D l) pn xe tk po D σ H) := by
  refine ⟨fun pins s σ H D I h => ?_⟩
  have ok := I.ok
  have hfr : X.A.frames = some (X.env :: X.outer) := by rw [ok.frames, hs]
  refine wpAny_Try_except ?_
  obtain ⟨xe0, hx0⟩ : ∃ xe0 : Value → Shared → Prop, xe0 = fun e s₁ => wpAny (model X.prog X.w) X.A (noteFrame e X.env) (fun _ s₂ => wpAny (model X.prog X.w) X.A (setFlight e none) (fun _ s₃ =>
    wpAny (model X.prog X.w) X.A (handleBy e X.env (h₀ :: hds)) (SP X pins D) X.xe s₃) X.xe s₂) X.xe s₁ := ⟨_, rfl⟩
  have po : PassesOwn (model X.prog X.w) X.A X.env xe0 := by rw [hx0]; exact PassesOwn.looking
  have catch_ : Takes (X.tr (X.pn ++ pins) xe0) (wH X.K Wout D l) := by
    intro u s' xx
    show xe0 u s'
    rw [hx0]
    obtain ⟨a, B, sI, pins', σ', H', cls, d, rfl, J', nb, up, sky, na, os, ag, w⟩ := xx
    have J : Inv X pins σ' H' sI := J'.ofTry ok
    have sky' : Sky B (X.env :: X.outer) a (Zc cls d) X.env.locals s'.heap := by rw [← hs]; exact sky
    show wpAny (model X.prog X.w) X.A (noteFrame (.ref a) X.env) _ _ _
    refine Sky.land Zc.steady hfr hf sky' fun h3 fl3 up3 => ?_
    have J3 : Inv X pins σ' H' { s' with heap := h3 } := J.landed nb fl3.1 (up.trans up3) os ag
    obtain ⟨oe3, vs3, he3, hz3, hd3⟩ := fl3.there
    have nfr : a ∉ frs (X.env :: X.outer) := fun hm => by
      obtain ⟨_, o', e', hnf⟩ := fl3.2.2.1.mem hm
      rw [he3] at e'; cases e'
      exact hnf _ hd3
    have nL : a ≠ X.env.locals := fun z => nfr (List.mem_filterMap.mpr ⟨X.env, List.mem_cons_self, by rw [hf, z]⟩)
    have nF : a ∉ X.fs := fun hm => by
      obtain ⟨e, he, q⟩ := List.mem_filterMap.mp hm
      exact nfr (List.mem_filterMap.mpr ⟨e, List.mem_cons_of_mem _ he, q⟩)
    have nI : sI.heap.get? a = none := by
      cases q : sI.heap.get? a with
      | none => rfl
      | some o =>
        have z := nb a o q (by rw [hs]; exact nfr)
        rw [fl3.2.1] at z; cases z
    have n0 : X.s_0.heap.get? a = none := by
      cases q : X.s_0.heap.get? a with
      | none => rfl
      | some o =>
        obtain ⟨o', z⟩ := J.base.there a o q (by rw [hex]; exact List.not_mem_nil)
        rw [nI] at z; cases z
    have np : ∀ p ∈ X.pn ++ pins, p.1 ≠ a := fun p hp z => by
      have q := (J.pin p hp).1
      rw [z, nI] at q; cases q
    have nc : ∀ x c, X.env.cells.lookup x = some c → c ≠ a := fun x c e z => by
      obtain ⟨v, o, q, _⟩ := J.cell x c e
      rw [z, nI] at q; cases q
    have S3 := J3.suite he3 hd3 na nL nF
    have go : ∀ {hds' : List ExceptHandler} {l' : List (Value × Option Nat × (Addr → TS))}, HdK X hds' l' → wH X.K Wout D l' cls d σ' H' →
        wpAny (model X.prog X.w) X.A (handleBy (.ref a) X.env hds') (SP X pins D) X.xe { s' with heap := h3 } := by
      intro hds' l' hk
      have test : ∀ {x : Str} {c : Value} {np : Pos} {Q : Value → Shared → Prop} {E : Value → Shared → Prop}, Names X x c → Q c { s' with heap := h3 } → wpAny (model X.prog X.w) (X.A.mark (some (.ref a))) (eval (.Name x np) X.env) Q E { s' with heap := h3 } := fun {x c np Q E} hc q => by
        obtain ⟨hg, hdbg, hm | ⟨hm, hv, hnn⟩⟩ := hc
        · exact ld_glob (X := X.suite a ((a, oe3) :: (X.pn ++ pins))) S3 hg hm q hdbg
        · exact ld_blt (X := X.suite a ((a, oe3) :: (X.pn ++ pins))) S3 hg hm hv q hnn hdbg
      have LT : PySem.W.Looks (model X.prog X.w) h3 (typeOf (.ref a)) cls := fun A Q E s k q => wpAny_typeOf_ref (k _ _ he3) (by rw [hz3.1]; exact q)
      induction hk with
      | nil =>
        intro w
        refine wpAny_handleBy_nil ?_
        obtain ⟨k1, k2, k3, oe, vs, T, oT, ts', he, hz, hd, h1, hr⟩ := id fl3
        unfold PySem.passOn
        refine wpAny_bind (wpAny_field he hd h1 ?_)
        rw [if_neg (show ¬ ((Value.ref T == Value.none) = true) from by simp)]
        have fin : wpAny (model X.prog X.w) X.A (setFlight (.ref a) X.env.frame) (fun _ s4 => wpAny (model X.prog X.w) X.A (throw (.ref a) : Sem Flow) (SP X pins D) X.xe s4) X.xe { s' with heap := h3 } := by
          rw [hf]
          refine HandSPX.setFlight_upZ fl3 fun h4 hh4 up4 => wpAny_throw (tk _ _ ?_)
          exact ⟨a, B, sI, pins, σ', H', cls, d, rfl, J, nb, (up.trans up3).trans up4, .inr (.inr (by rw [hs]; exact hh4)), na, os, ag, w⟩
        first
          | exact wpAny_bind (wpAny_pure (wpAny_bind fin))
          | exact wpAny_bind fin
      | @only x c ts b₀ suite np2 pos' hds2 l2 hc hsu r ih =>
        intro w
        obtain ⟨b, hb1, hyes, hno⟩ := w
        refine wpAny_handleBy_cons (codeAny_handlers_test ?_) (by intro q; cases q)
        have LM := PySem.W.exm_one (M := model X.prog X.w) (J3.kIn) LT hb1
        refine test hc (LM.here ?_)
        cases b with
        | true =>
          refine codeAny_handlers_suite ?_
          refine HandSPX.lands_againZ fl3 fun h4 fl4 up4 => ?_
          have J4 : Inv X pins σ' H' { s' with heap := h4 } := J.landed nb fl4.1 ((up.trans up3).trans up4) os ag
          obtain ⟨oe4, vs4, he4, hz4, hd4⟩ := fl4.there
          have S4 := noteC J4 he4 na n0 nL np nc
          refine wpAny_mono ((hsu a).run pins _ _ _ _ S4 (hyes rfl a oe4 na hz4 ⟨_, hd4⟩)) (fun f s6 hsp => ?_) (fun _ _ z => False.elim z)
          cases f with
          | next =>
            obtain ⟨σ6, H6, S6, q6⟩ := hsp
            exact ⟨_, _, unC S6 ok, q6⟩
          | brk =>
            obtain ⟨σ6, H6, S6, q6⟩ := hsp
            exact ⟨_, _, unC S6 ok, q6⟩
          | cont =>
            obtain ⟨σ6, H6, S6, q6⟩ := hsp
            exact ⟨_, _, unC S6 ok, q6⟩
          | ret u =>
            obtain ⟨v6, σ6, H6, S6, r6, q6⟩ := hsp
            exact ⟨_, _, _, unC S6 ok, r6, q6⟩
        | false =>
          show wpAny _ X.A (handleBy (.ref a) X.env hds2) _ _ _
          exact ih (hno rfl)
      | @as x n i c ts b₀ suite np2 pos' hds2 l2 hc hN hi hln hsu r ih =>
        intro w
        obtain ⟨b, hb1, hyes, hno⟩ := w
        refine wpAny_handleBy_cons (codeAny_handlers_test ?_) (by intro q; cases q)
        have LM := PySem.W.exm_one (M := model X.prog X.w) (J3.kIn) LT hb1
        refine test hc (LM.here ?_)
        cases b with
        | true =>
          refine codeAny_handlers_suite_as ?_
          refine HandSPX.lands_againZ fl3 fun h4 fl4 up4 => ?_
          have J4 : Inv X pins σ' H' { s' with heap := h4 } := J.landed nb fl4.1 ((up.trans up3).trans up4) os ag
          obtain ⟨oe4, vs4, he4, hz4, hd4⟩ := fl4.there
          have S4 := noteC J4 he4 na n0 nL np nc
          refine store_ok (X := suiteC X a) (v := .ref a) S4 hN hi (.inl hln) rfl (fun s5 S5 => ?_) (.inr hln)
          refine wpAny_mono ((hsu a).run pins s5 _ _ _ S5 (hyes rfl a oe4 na hz4 ⟨_, hd4⟩)) (fun f s6 hsp => ?_) (fun _ _ z => False.elim z)
          have end_ : ∀ {σ6 : L2.St} {H6 : Hp} {Q : Shared → Prop}, Inv (suiteC X a) pins σ6 H6 s6 → (∀ s7, Inv X pins (σ6.set i none) H6 s7 → Q s7) →
              wpAny (model X.prog X.w) X.A (do bindName X.env n .none; unbindBehindTheSuite X.env n pos') (fun _ s7 => Q s7) X.xe s6 := fun {σ6 H6 Q} S6 hq => gone_ok (unC S6 ok) hN hi hln hq
          cases f with
          | next =>
            obtain ⟨σ6, H6, S6, q6⟩ := hsp
            exact end_ S6 fun s7 J7 => ⟨_, _, J7, q6⟩
          | brk =>
            obtain ⟨σ6, H6, S6, q6⟩ := hsp
            exact end_ S6 fun s7 J7 => ⟨_, _, J7, q6⟩
          | cont =>
            obtain ⟨σ6, H6, S6, q6⟩ := hsp
            exact end_ S6 fun s7 J7 => ⟨_, _, J7, q6⟩
          | ret u =>
            obtain ⟨v6, σ6, H6, S6, r6, q6⟩ := hsp
            exact end_ S6 fun s7 J7 => ⟨_, _, _, J7, r6, q6⟩
        | false =>
          show wpAny _ X.A (handleBy (.ref a) X.env hds2) _ _ _
          exact ih (hno rfl)
    exact go hh w
  have run := (hb (wH X.K Wout D l) (X.pn ++ pins) xe0 catch_ po).run [] s σ H D (I.toTry _) (h _ _ catch_ po)
  rw [hx0] at run
  refine wpAny_mono run (fun f s1 hsp => ?_) (fun e s1 he => he)
  · cases f with
    | next =>
      obtain ⟨σ', H', J', q⟩ := hsp
      exact wpAny_execs_nil ⟨σ', H', J'.ofTry ok, q⟩
    | brk =>
      obtain ⟨σ', H', J', q⟩ := hsp
      exact ⟨σ', H', J'.ofTry ok, q⟩
    | cont =>
      obtain ⟨σ', H', J', q⟩ := hsp
      exact ⟨σ', H', J'.ofTry ok, q⟩
    | ret u =>
      obtain ⟨v, σ', H', J', r, q⟩ := hsp
      exact ⟨v, σ', H', J'.ofTry ok, r, q⟩
end
theorem takes_no {X : Cx} : Takes X (fun _ _ _ _ => False) := fun _ _ ⟨_, _, _, _, _, _, _, _, _, _, _, _, _, _, _, _, w⟩ => w.elim
/-! ### isinstance of what was caught -/
structure ExC (K : PySem.W.Frag) (D : Addr) : Prop where
  hg : PySem.W.findIn K (.ref D) "__getattribute__" = some (some (.builtin "BaseException.__getattribute__"))
  hk : PySem.W.findIn K (.ref D) "__getattr__" = some none
  hs : PySem.W.subIn K (.ref D) (.type "BaseException") = some true
  hd : PySem.W.hasDictIn K D = true
  ha : PySem.W.findIn K (.ref D) "__class__" = some (some (.builtin "object.__class__"))
  hn : PySem.W.specialIn K (.builtin "object.__class__") "__get__" = some (some (.builtin "getset_descriptor.__get__"))
  ht : PySem.W.takesIn K (.builtin "object.__class__") = some true
  hm : PySem.W.mroIn K D (.type "object") = some true
inductive TyE (K : PySem.W.Frag) (H : Hp) : V → Value → Prop where
  | x {v : V} {t : Value} (h : TyX K H v t) : TyE K H v t
  | exn {a C : Addr} {oe : Obj} (h : H a = some (xo a oe)) (hc : oe.cls = .ref C) (hn : oe.dict = none) (hf : ∃ vs, oe.data = .fields vs) (E : ExC K C) : TyE K H (.ref a) (.ref C)
theorem xo_at {P : Program} {w : World} {H : Hp} {h : Heap} {a : Addr} {oe : Obj} (ok : HOk P w H h) (e : H a = some (xo a oe)) : h.get? a = some oe := (ok a _ e).1
theorem kit_ofE {X : Cx} {pins : List (Addr × Obj)} {σ : L2.St} {H : Hp} {s : Shared} {x : V} {u t : Value} (I : Inv X pins σ H s) (rx : RelV x u) (ty : TyE X.K H x t) : ∃ P : Heap → Prop, PySem.W.KitX X.K u t P ∧ P s.heap ∧ u ≠ .builtin "__main__.__loader__#opaque" := by
  cases ty with
  | x h => exact kit_of I rx h
  | @exn a C oe h hc hn hf E =>
    cases (show u = Value.ref a from rx)
    have hget := xo_at I.hok h
    obtain ⟨vs, hv⟩ := hf
    have J : PySem.W.InstAt s.heap a oe C none := by
      obtain ⟨oc, od, oda, osl⟩ := oe
      dsimp only at hc hn hv
      subst hc hn hv
      exact ⟨hget, rfl, rfl, trivial⟩
    exact ⟨_, PySem.W.handS_kitx_exc E.hg E.hk E.hs E.hd E.ha E.hn E.ht E.hm, J, fun z => nomatch z⟩
def rIsE1 (K : PySem.W.Frag) : List V → Hp → VK → Prop := fun xs H Q => ∃ (x c : V) (t u : Value) (b : Bool), xs = [x, c] ∧ ClsV c u ∧ TyE K H x t ∧ PySem.W.kitOne K t u = some b ∧ Q (.bl b) H
def rIsET (K : PySem.W.Frag) : List V → Hp → VK → Prop := fun xs H Q => ∃ (x : V) (tp : Addr) (cs : List V) (t : Value) (us : List Value) (b : Bool), xs = [x, .ref tp] ∧ H tp = some (.tup cs) ∧ Paired ClsV cs us ∧ TyE K H x t ∧ PySem.W.kitAny K t us = some b ∧ Q (.bl b) H
theorem call_isE1 {X : Cx} : CallR X (.builtin "isinstance") (rIsE1 X.K) := by
  intro pins s σ H xs us Q I r h
  obtain ⟨x, c, t, u, b, rfl, k, ty, e, q⟩ := h
  obtain ⟨u1, u2, rfl, r1, r2⟩ := vals2 r
  have e2 := k.eq r2
  subst e2
  obtain ⟨P, Z, p, hx⟩ := kit_ofE I r1 ty
  exact PySem.W.kia_one Z I.kIn p e hx fun tk => ⟨.bl b, H, I.tok tk, rfl, q⟩
theorem call_isET {X : Cx} : CallR X (.builtin "isinstance") (rIsET X.K) := by
  intro pins s σ H xs us Q I r h
  obtain ⟨x, tp, cs, t, ws, b, rfl, hT, k, ty, e, q⟩ := h
  obtain ⟨u1, u2, rfl, r1, r2⟩ := vals2 r
  cases (show u2 = Value.ref tp from r2)
  obtain ⟨P, Z, p, hx⟩ := kit_ofE I r1 ty
  obtain ⟨_, its, rv, o, h1, h2, n, h3⟩ := (show ObjOk X.prog X.w H s.heap tp (.tup cs) from I.hok tp _ hT)
  have e3 := ClsV.all k rv
  subst e3
  obtain ⟨oc, od, dt, sl⟩ := o
  simp only at h2 h3
  subst h2 h3
  exact PySem.W.kia_tup Z I.kIn p h1 e hx fun tk => ⟨.bl b, H, I.tok tk, rfl, q⟩
end DL
set_option maxHeartbeats 2000000
namespace DL
open PySem PySem.Spec PyProof.Rows L2
/-! ### the own exception classes -/
def isaX (c d : Str) : Bool := decide (c = d) || decide (d = "MarkError") || decide (d = "ValueError")
def adr (K : PySem.W.Frag) (c : Str) : Option Addr := match PySem.W.nsIn K mainGlobals c with
  | some (some (.ref C)) => some C
  | _ => none
theorem adr_ns {K : PySem.W.Frag} {c : Str} {C : Addr} (h : adr K c = some C) : PySem.W.nsIn K mainGlobals c = some (some (.ref C)) := by
  unfold adr at h
  split at h
  · rename_i C' e
    cases h; exact e
  · cases h
structure ClsOk (K : PySem.W.Frag) (cs : List Str) (c : Str) (C : Addr) : Prop where
  kp : PySem.W.keepIn K (.ref C) = true
  sb : PySem.W.subIn K (.ref C) (.type "BaseException") = some true
  ty : PySem.W.typeIn K (.ref C) = some (.type "type")
  ex : ExC K C
  ve : PySem.W.kitOne K (.ref C) (.type "ValueError") = some true
  nn : PySem.W.kitOne K (.type "NoneType") (.ref C) = some false
  nw : c ≠ "NoHistory" → PySem.W.excIn K C [.type "ValueError", .type "Exception", .type "BaseException", .type "object"] "ValueError.__new__" = true
  to : ∀ d ∈ cs, ∀ E, adr K d = some E → PySem.W.kitOne K (.ref C) (.ref E) = some (isaX c d) ∧ PySem.W.exmOne K (.ref C) (.ref E) = some (isaX c d)
structure XF (K : PySem.W.Frag) (mg : Str → Option Value) (cm : Str → Option Addr) (cs : List Str) : Prop where
  cmq : ∀ c, cm c = adr K c
  at_ : ∀ c ∈ cs, ∃ C, adr K c = some C ∧ mg c = some (.ref C) ∧ ClsOk K cs c C
def exB (K : PySem.W.Frag) (D : Addr) : Bool :=
  (PySem.W.findIn K (.ref D) "__getattribute__" == some (some (.builtin "BaseException.__getattribute__"))) && (PySem.W.findIn K (.ref D) "__getattr__" == some none) && (PySem.W.subIn K (.ref D) (.type "BaseException") == some true) && PySem.W.hasDictIn K D &&
    (PySem.W.findIn K (.ref D) "__class__" == some (some (.builtin "object.__class__"))) && (PySem.W.specialIn K (.builtin "object.__class__") "__get__" == some (some (.builtin "getset_descriptor.__get__"))) && (PySem.W.takesIn K (.builtin "object.__class__") == some true) && (PySem.W.mroIn K D (.type "object") == some true)
theorem exB_ok {K : PySem.W.Frag} {D : Addr} (h : exB K D = true) : ExC K D := by
  unfold exB at h
  simp only [Bool.and_eq_true, beq_iff_eq] at h
  obtain ⟨⟨⟨⟨⟨⟨⟨a, b⟩, c⟩, d⟩, e⟩, f⟩, g⟩, i⟩ := h
  exact ⟨a, b, c, d, e, f, g, i⟩
def toB (K : PySem.W.Frag) (c : Str) (C : Addr) (d : Str) : Bool := match adr K d with
  | some E => (PySem.W.kitOne K (.ref C) (.ref E) == some (isaX c d)) && (PySem.W.exmOne K (.ref C) (.ref E) == some (isaX c d))
  | none => true
def clsB (K : PySem.W.Frag) (cs : List Str) (c : Str) (C : Addr) : Bool :=
  PySem.W.keepIn K (.ref C) && (PySem.W.subIn K (.ref C) (.type "BaseException") == some true) && (PySem.W.typeIn K (.ref C) == some (.type "type")) && exB K C && (PySem.W.kitOne K (.ref C) (.type "ValueError") == some true) &&
    (PySem.W.kitOne K (.type "NoneType") (.ref C) == some false) && (decide (c = "NoHistory") || PySem.W.excIn K C [.type "ValueError", .type "Exception", .type "BaseException", .type "object"] "ValueError.__new__") && cs.all (toB K c C)
def xfB1 (K : PySem.W.Frag) (cs : List Str) (c : Str) : Bool := match adr K c with
  | some C => clsB K cs c C
  | none => false
def xfB (K : PySem.W.Frag) (cs : List Str) : Bool := cs.all (xfB1 K cs)
theorem clsB_ok {K : PySem.W.Frag} {cs : List Str} {c : Str} {C : Addr} (h : clsB K cs c C = true) : ClsOk K cs c C := by
  unfold clsB at h
  simp only [Bool.and_eq_true, beq_iff_eq, Bool.or_eq_true, decide_eq_true_eq] at h
  obtain ⟨⟨⟨⟨⟨⟨⟨a, b⟩, d⟩, e⟩, f⟩, g⟩, i⟩, j⟩ := h
  refine ⟨a, b, d, exB_ok e, f, g, fun z => i.resolve_left z, fun x hx E hE => ?_⟩
  have t := List.all_eq_true.mp j x hx
  unfold toB at t
  rw [hE] at t
  simpa [Bool.and_eq_true, beq_iff_eq] using t
theorem XF.of {K : PySem.W.Frag} {mg : Str → Option Value} {cs : List Str} {h : Heap} (X : K.In h) (G : h.Ns mainGlobals mg) (b : xfB K cs = true) : XF K mg (adr K) cs :=
  ⟨fun _ => rfl, fun c hc => by
    have t := List.all_eq_true.mp b c hc
    unfold xfB1 at t
    cases e : adr K c with
    | none => rw [e] at t; cases t
    | some C =>
      rw [e] at t
      exact ⟨C, rfl, PySem.W.mg_of X G (adr_ns e), clsB_ok t⟩⟩
/-! ### raise C('..') -/
def mRaise (c : Str) : MS := fun ρ => .ex ⟨c, []⟩ ρ
section
variable {X : Cx} {cm : Str → Option Addr} {W : WX} {wr wr1 wr2 wrb : Nat → Bool} {cs : List Str}
theorem S.raise {x m : Str} {j : Nat} {p p2 p3 pos : Pos} (V : XF X.K X.mg cm cs) (hc : x ∈ cs) (hn : x ≠ "NoHistory") (calm : X.calm = true) (tk : Takes X W) (hg : Gl X x) (hdb : (x == ("__debug__" : Str)) = false := by decide) :
    GS X cm W w0 (.Raise (some (.Call (.Name x p) [.Constant (.str m) j p2] [] p3)) none pos) (mRaise x) := by
  obtain ⟨C, h1, h2, h3⟩ := V.at_ x hc
  exact ⟨_, ps_raise calm tk (pmk_own PySem.F.excBase_ValueError (h3.nw hn) h2 h3.kp (raises_own h3.sb h3.ty) hg hdb), fun σ F H T ρ D w s k =>
    k C none σ F H T .refl ((V.cmq x).trans h1) rfl w .refl s⟩
/-! ### try -/
def fsI : List (Str × D) → Option (List (Str × Option Int))
  | [] => some []
  | (f, .int i) :: r => (fsI r).map ((f, some i) :: ·)
  | (f, .non) :: r => (fsI r).map ((f, none) :: ·)
  | _ => none
def xcD (e : Xn) : Option D := (fsI e.fs).map fun fs => .nd (.exn e.c fs) false []
def inE (ρ : Env) (d : D) : Option Nat → Env
  | some i => ρ.set i (some d)
  | none => ρ
def wpN (ρ : Env) : Option Nat → Env
  | some i => ρ.set i none
  | none => ρ
def outO (oi : Option Nat) : Ou → Ou
  | .nx ρ => .nx (wpN ρ oi)
  | .bk ρ => .bk (wpN ρ oi)
  | .ct ρ => .ct (wpN ρ oi)
  | .rt d ρ => .rt d ρ
  | .ex _ _ => .no
  | .no => .no
def suiO (oi : Option Nat) (g : MS) (ρ : Env) : Option D → Ou
  | some d => outO oi (g (inE ρ d oi))
  | none => .no
def mHds : List (Str × Option Nat × MS) → Xn → Env → Ou
  | [], e, ρ => .ex e ρ
  | (c, oi, g) :: r, e, ρ => if isaX e.c c = true then suiO oi g ρ (xcD e) else mHds r e ρ
def tryK (cs : List Str) (l : List (Str × Option Nat × MS)) : Ou → Ou
  | .ex e ρ1 => if e.c ∈ cs then mHds l e ρ1 else .no
  | r => r
def mTry (cs : List Str) (g : MS) (l : List (Str × Option Nat × MS)) : MS := fun ρ => tryK cs l (g ρ)
abbrev wNo : WX := fun _ _ _ _ => False
structure BZ (X : Cx) (W : WX) : Prop where
  hg : X.A.guards = some []
  tk : Takes X W
  po : PassesOwn (model X.prog X.w) X.A X.env X.xe
inductive HdD (X : Cx) (cm : Str → Option Addr) (cs : List Str) : List ExceptHandler → List (Str × Option Nat × MS) → (Nat → Bool) → Prop
  | nil : HdD X cm cs [] [] w0
  | only {x : Str} {b₀ : Stmt} {suite : List Stmt} {np pos' : Pos} {hds : List ExceptHandler} {l : List (Str × Option Nat × MS)} {g : MS} {wr1 wr2 : Nat → Bool} (hx : x ∈ cs) (hg : Gl X x) (hdb : (x == ("__debug__" : Str)) = false)
      (hsu : ∀ a, BZ (suiteC X a) wNo → GB (suiteC X a) cm wNo wr1 (b₀ :: suite) g) (r : HdD X cm cs hds l wr2) :
      HdD X cm cs (.ExceptHandler (some (.Name x np)) none (b₀ :: suite) pos' :: hds) ((x, none, g) :: l) (wo wr1 wr2)
  | as {x n : Str} {i : Nat} {b₀ : Stmt} {suite : List Stmt} {np pos' : Pos} {hds : List ExceptHandler} {l : List (Str × Option Nat × MS)} {g : MS} {wr1 wr2 : Nat → Bool} (hx : x ∈ cs) (hg : Gl X x) (hdb : (x == ("__debug__" : Str)) = false)
      (hN : X.N.Nodup) (hi : X.N[i]? = some n) (hln : X.env.kindOf n = some .local) (hsu : ∀ a, BZ (suiteC X a) wNo → GB (suiteC X a) cm wNo wr1 (b₀ :: suite) g) (r : HdD X cm cs hds l wr2) :
      HdD X cm cs (.ExceptHandler (some (.Name x np)) (some n) (b₀ :: suite) pos' :: hds) ((x, some i, g) :: l) (wo (wo (w1 i) wr1) wr2)
theorem Sls.setN {E : HE} : ∀ {ρ : Env} {σ : L2.St} {f : Fp} (i : Nat) (w : Option V), Sls E ρ σ f → ∃ h, Sls E (ρ.set i none) (σ.set i w) h ∧ ∀ a, h a ≤ f a := by
  intro ρ σ f i w s
  obtain ⟨h, s1, l⟩ := s.forget i
  refine ⟨h, ?_, l⟩
  clear l s
  induction ρ generalizing σ h i with
  | nil =>
    obtain ⟨rfl, e⟩ := (show σ = [] ∧ Eqf h zf from s1)
    exact ⟨rfl, e⟩
  | cons o ρ ih =>
    cases i with
    | zero =>
      obtain ⟨u, r, rfl, s2⟩ := (show ∃ u r, σ = u :: r ∧ Sls E ρ r h from s1)
      exact ⟨_, _, rfl, s2⟩
    | succ i =>
      cases o with
      | none =>
        obtain ⟨u, r, rfl, s2⟩ := (show ∃ u r, σ = u :: r ∧ Sls E (ρ.set i none) r h from s1)
        exact ⟨_, _, rfl, ih i h s2⟩
      | some d =>
        obtain ⟨u, r, g, x, rfl, o1, s2, e⟩ := (show ∃ u r g x, σ = some u :: r ∧ Ow E d u g ∧ Sls E (ρ.set i none) r x ∧ Eqf h (ad g x) from s1)
        exact ⟨_, _, g, x, rfl, o1, ih i x s2, e⟩
theorem fsI_zip {E : HE} : ∀ {fs : List (Str × D)} {fi : List (Str × Option Int)} {ws : List V}, fsI fs = some fi → Ows E (fs.map (·.2)) ws zf → (fs.map (·.1)).zip ws = fi.map fun z => (z.1, xV z.2) := by
  intro fs
  induction fs with
  | nil =>
    intro fi ws h o
    cases h; rfl
  | cons p r ih =>
    intro fi ws h o
    obtain ⟨f, d⟩ := p
    obtain ⟨w, q, g, x, rfl, o1, o2, e⟩ := (show ∃ w q g x, ws = w :: q ∧ Ow E d w g ∧ Ows E (r.map (·.2)) q x ∧ Eqf zf (ad g x) from o)
    have o2' : Ows E (r.map (·.2)) q zf := o2.eqf fun a => by
      have := e a
      rw [ad_ap] at this
      show 0 = x a
      have h0 : zf a = 0 := rfl
      omega
    cases d with
    | int i =>
      obtain ⟨fi', h', rfl⟩ := Option.map_eq_some_iff.mp (show (fsI r).map ((f, some i) :: ·) = some fi from h)
      have e1 : w = .int i := o1.1
      subst e1
      show (f, V.int i) :: (r.map (·.1)).zip q = _
      rw [ih h' o2']; rfl
    | non =>
      obtain ⟨fi', h', rfl⟩ := Option.map_eq_some_iff.mp (show (fsI r).map ((f, none) :: ·) = some fi from h)
      have e1 : w = .non := o1.1
      subst e1
      show (f, V.non) :: (r.map (·.1)).zip q = _
      rw [ih h' o2']; rfl
    | bl b => cases h
    | str b => cases h
    | nd k o xs => cases h
/-- what was caught stands among what stays -/
theorem noteE {K : PySem.W.Frag} {F H : Hp} {T : Fp} {a c : Addr} {oe : Obj} {dd : Option Addr} {e : Xn} {d : D} (w : Wd F H T) (na : H a = none) (hz : Zc (.ref c) dd oe) (hv : ∃ vs, oe.data = .fields vs) (hc : cm e.c = some c) (hf : FsOk ⟨K, cm, F, H⟩ e.fs dd) (hd : xcD e = some d) :
    ∃ F', Wd F' (upd H a (xo a oe)) T ∧ Stp F H T F' (upd H a (xo a oe)) T ∧ Sub F F' ∧ Keep H zf (upd H a (xo a oe)) ∧ Ow ⟨K, cm, F', upd H a (xo a oe)⟩ d (.ref a) zf := by
  obtain ⟨fi, hi, rfl⟩ := Option.map_eq_some_iff.mp hd
  have fa : F a = none := by
    cases q : F a with
    | none => rfl
    | some u => rw [w.sub a u q] at na; cases na
  have ta : ∀ b, Mut (H b) → b ≠ a := fun b m z => by rw [z, na] at m; exact m
  cases dd with
  | none =>
    have h0 : e.fs = [] := hf
    rw [h0] at hi
    cases hi
    obtain ⟨w1, s1, f1⟩ := allocF (o := xo a oe) w na
    refine ⟨upd F a (xo a oe), w1, s1, f1, up_keep na, a, [], zf, rfl, ⟨rfl, .rfl'⟩, .inr (.inr ⟨rfl, ⟨rfl, c, oe, hc, hz.1, hv, upd_same, .inl ⟨rfl, hz.2⟩⟩, .rfl', .rfl'⟩)⟩
  | some q =>
    obtain ⟨hne, ws, ow, hq⟩ := hf
    have hz2 := fsI_zip hi ow
    have hq : H q = some (.xd ((e.fs.map (·.1)).zip ws)) := hq
    rw [hz2] at hq
    have qa : q ≠ a := ne_of_none hq na
    have nq : ∀ b, Mut (H b) → b ≠ q := fun b m z => by rw [z, hq] at m; exact m
    have fne : fi ≠ [] := fun z => by
      subst z
      cases hfs : e.fs with
      | nil => exact hne hfs
      | cons p r =>
        rw [hfs] at hi
        obtain ⟨f, d⟩ := p
        cases d with
        | int i => obtain ⟨_, _, z⟩ := Option.map_eq_some_iff.mp (show (fsI r).map ((f, some i) :: ·) = some [] from hi); cases z
        | non => obtain ⟨_, _, z⟩ := Option.map_eq_some_iff.mp (show (fsI r).map ((f, none) :: ·) = some [] from hi); cases z
        | bl b => cases hi
        | str b => cases hi
        | nd k o xs => cases hi
    obtain ⟨F', hF'⟩ : ∃ F' : Hp, F' = upd (upd F q (.xd (fi.map fun z => (z.1, xV z.2)))) a (xo a oe) := ⟨_, rfl⟩
    have Fa : F' a = some (xo a oe) := by rw [hF']; exact upd_same
    have Fq : F' q = some (.xd (fi.map fun z => (z.1, xV z.2))) := by rw [hF', upd_ne qa]; exact upd_same
    have Fo : ∀ b, b ≠ a → b ≠ q → F' b = F b := fun b h1 h2 => by rw [hF', upd_ne h1, upd_ne h2]
    have sub : Sub F F' := fun b u h => by
      have h1 : b ≠ a := fun z => by rw [z, fa] at h; cases h
      by_cases h2 : b = q
      · subst h2
        have := w.sub _ _ h
        rw [hq] at this
        cases this
        exact Fq
      · rw [Fo b h1 h2]; exact h
    refine ⟨F', ⟨fun b u h => ?_, w.one, fun b z => ?_, fun b z => ?_⟩, ⟨up_keep na, sub, fun b m z f => ⟨z, ?_⟩⟩, sub, up_keep na, a, [], zf, rfl, ⟨rfl, .rfl'⟩, .inr (.inr ⟨rfl, ⟨rfl, c, oe, hc, hz.1, hv, Fa, .inr ⟨fne, q, hz.2, Fq⟩⟩, .rfl', .rfl'⟩)⟩
    · by_cases h1 : b = a
      · subst h1; rw [Fa] at h; cases h; exact upd_same
      · rw [upd_ne h1]
        by_cases h2 : b = q
        · subst h2; rw [Fq] at h; cases h; exact hq
        · rw [Fo b h1 h2] at h; exact w.sub b u h
    · rw [Fo b (ta b (w.mu b z)) (nq b (w.mu b z))]; exact w.off b z
    · rw [upd_ne (ta b (w.mu b z))]; exact w.mu b z
    · rw [Fo b (ta b m) (nq b m)]; exact f
theorem slsN {K : PySem.W.Frag} {F F' H H' : Hp} {ρ : Env} {σ : L2.St} {T : Fp} (f : Sub F F') (h : Keep H zf H') (s : Sls ⟨K, cm, F, H⟩ ρ σ T) : Sls ⟨K, cm, F', H'⟩ ρ σ T := Sls.mono (T := zf) f h (fun a z => absurd rfl z) _ _ _ (fun _ _ => rfl) s
theorem HdD.sound {hds : List ExceptHandler} {l : List (Str × Option Nat × MS)} (V : XF X.K X.mg cm cs) (hgd : X.A.guards = some []) (h : HdD X cm cs hds l wr) :
    ∃ lk, HdK X hds lk ∧ ∀ (Wout : WX) (e : Xn) (σ : L2.St) (F H : Hp) (T : Fp) (ρ : Env) (D : Ends) (c : Addr) (dd : Option Addr), e.c ∈ cs → Wd F H T → Sls ⟨X.K, cm, F, H⟩ ρ σ T → cm e.c = some c → FsOk ⟨X.K, cm, F, H⟩ e.fs dd →
      EndS ⟨X.K, cm⟩ Wout wr σ F H T (mHds l e ρ) D → wH X.K Wout D lk (.ref c) dd σ H := by
  induction h with
  | nil => exact ⟨[], .nil, fun Wout e σ F H T ρ D c dd he w s hc hf k => k c dd σ F H T .refl hc hf w .refl s⟩
  | @only x b₀ suite np pos' hds l g wr1 wr2 hx hg hdb hsu r ih =>
    obtain ⟨lk, hk, snd⟩ := ih
    obtain ⟨C, a1, a2, a3⟩ := V.at_ x hx
    have bz : ∀ a, BZ (suiteC X a) wNo := fun a => ⟨hgd, takes_no, PassesOwn.never⟩
    refine ⟨(.ref C, none, fun a => Classical.choose (hsu a (bz a))) :: lk, .only ⟨hg, hdb, .inl a2⟩ (fun a => (Classical.choose_spec (hsu a (bz a))).1) hk, fun Wout e σ F H T ρ D c dd he w s hc hf k => ?_⟩
    obtain ⟨C0, b1, b2, b3⟩ := V.at_ e.c he
    obtain rfl : C0 = c := by rw [V.cmq, b1] at hc; exact Option.some.inj hc
    refine ⟨isaX e.c x, (b3.to x hx C a1).2, fun hb a oe na hz hv => ?_, fun hb => ?_⟩
    · have k : EndS ⟨X.K, cm⟩ Wout (wo wr1 wr2) σ F H T (if isaX e.c x = true then suiO none g ρ (xcD e) else mHds l e ρ) D := k
      rw [if_pos hb] at k
      cases ed : xcD e with
      | none => rw [ed] at k; exact k.elim
      | some d =>
        rw [ed] at k
        have k : EndS ⟨X.K, cm⟩ Wout (wo wr1 wr2) σ F H T (outO none (g ρ)) D := k
        obtain ⟨F', w1, s1, f1, k1, o1⟩ := noteE w na hz hv hc hf ed
        refine (Classical.choose_spec (hsu a (bz a))).2 σ F' _ T ρ D w1 (slsN f1 k1 s) ?_
        cases eg : g ρ with
        | nx ρ2 => rw [eg] at k; exact fun σ' F2 H2 T2 n w2 s2 l2 => k σ' F2 H2 T2 (NW.wl n) w2 (s1.trans w1 s2) l2
        | bk ρ2 => rw [eg] at k; exact fun σ' F2 H2 T2 n w2 s2 l2 => k σ' F2 H2 T2 (NW.wl n) w2 (s1.trans w1 s2) l2
        | ct ρ2 => rw [eg] at k; exact fun σ' F2 H2 T2 n w2 s2 l2 => k σ' F2 H2 T2 (NW.wl n) w2 (s1.trans w1 s2) l2
        | rt d2 ρ2 => rw [eg] at k; exact fun v σ' F2 H2 T2 C2 n w2 s2 l2 o2 => k v σ' F2 H2 T2 C2 (NW.wl n) w2 (s1.trans w1 s2) l2 o2
        | ex e2 ρ2 => rw [eg] at k; exact k.elim
        | no => rw [eg] at k; exact k.elim
    · have k : EndS ⟨X.K, cm⟩ Wout (wo wr1 wr2) σ F H T (if isaX e.c x = true then suiO none g ρ (xcD e) else mHds l e ρ) D := k
      rw [if_neg (by rw [hb]; exact Bool.false_ne_true)] at k
      exact snd Wout e σ F H T ρ D C0 dd he w s hc hf (EndS.wR k)
  | @as x n i b₀ suite np pos' hds l g wr1 wr2 hx hg hdb hN hi hln hsu r ih =>
    obtain ⟨lk, hk, snd⟩ := ih
    obtain ⟨C, a1, a2, a3⟩ := V.at_ x hx
    have bz : ∀ a, BZ (suiteC X a) wNo := fun a => ⟨hgd, takes_no, PassesOwn.never⟩
    refine ⟨(.ref C, some i, fun a => Classical.choose (hsu a (bz a))) :: lk, .as ⟨hg, hdb, .inl a2⟩ hN hi hln (fun a => (Classical.choose_spec (hsu a (bz a))).1) hk, fun Wout e σ F H T ρ D c dd he w s hc hf k => ?_⟩
    obtain ⟨C0, b1, b2, b3⟩ := V.at_ e.c he
    obtain rfl : C0 = c := by rw [V.cmq, b1] at hc; exact Option.some.inj hc
    refine ⟨isaX e.c x, (b3.to x hx C a1).2, fun hb a oe na hz hv => ?_, fun hb => ?_⟩
    · have k : EndS ⟨X.K, cm⟩ Wout (wo (wo (w1 i) wr1) wr2) σ F H T (if isaX e.c x = true then suiO (some i) g ρ (xcD e) else mHds l e ρ) D := k
      rw [if_pos hb] at k
      cases ed : xcD e with
      | none => rw [ed] at k; exact k.elim
      | some d =>
        rw [ed] at k
        have k : EndS ⟨X.K, cm⟩ Wout (wo (wo (w1 i) wr1) wr2) σ F H T (outO (some i) (g (ρ.set i (some d)))) D := k
        obtain ⟨F', w1, s1, f1, k1, o1⟩ := noteE w na hz hv hc hf ed
        obtain ⟨T', l1, le1⟩ := (slsN f1 k1 s).setSome (i := i) o1
        have le2 : ∀ b, T' b ≤ T b := fun b => le1 b
        have w1' := w1.le le2
        have s1' := s1.leR le2
        refine (Classical.choose_spec (hsu a (bz a))).2 _ F' _ T' (ρ.set i (some d)) _ w1' l1 ?_
        have nw : ∀ {σ' : L2.St} {u : Option L2.V}, NW wr1 (σ.set i (some (.ref a))) σ' → NW (wo (wo (DL.w1 i) wr1) wr2) σ (σ'.set i u) := fun {σ' u} n =>
          (NW.wl (NW.wl (NW.set))).trans ((NW.wl (NW.wr n)).trans (NW.wl (NW.wl NW.set)))
        have nw2 : ∀ {σ' : L2.St}, NW wr1 (σ.set i (some (.ref a))) σ' → NW (wo (wo (DL.w1 i) wr1) wr2) σ σ' := fun {σ'} n =>
          (NW.wl (NW.wl (NW.set))).trans (NW.wl (NW.wr n))
        cases eg : g (ρ.set i (some d)) with
        | nx ρ2 =>
          rw [eg] at k
          intro σ' F2 H2 T2 n w2 s2 l2
          obtain ⟨T3, l3, le3⟩ := l2.setN i none
          exact k (σ'.set i none) F2 H2 T3 (nw n) (w2.le le3) ((s1'.trans w1' s2).leR le3) l3
        | bk ρ2 =>
          rw [eg] at k
          intro σ' F2 H2 T2 n w2 s2 l2
          obtain ⟨T3, l3, le3⟩ := l2.setN i none
          exact k (σ'.set i none) F2 H2 T3 (nw n) (w2.le le3) ((s1'.trans w1' s2).leR le3) l3
        | ct ρ2 =>
          rw [eg] at k
          intro σ' F2 H2 T2 n w2 s2 l2
          obtain ⟨T3, l3, le3⟩ := l2.setN i none
          exact k (σ'.set i none) F2 H2 T3 (nw n) (w2.le le3) ((s1'.trans w1' s2).leR le3) l3
        | rt d2 ρ2 => rw [eg] at k; exact fun v σ' F2 H2 T2 C2 n w2 s2 l2 o2 => k v σ' F2 H2 T2 C2 (nw2 n) w2 (s1'.trans w1' s2) l2 o2
        | ex e2 ρ2 => rw [eg] at k; exact k.elim
        | no => rw [eg] at k; exact k.elim
    · have k : EndS ⟨X.K, cm⟩ Wout (wo (wo (w1 i) wr1) wr2) σ F H T (if isaX e.c x = true then suiO (some i) g ρ (xcD e) else mHds l e ρ) D := k
      rw [if_neg (by rw [hb]; exact Bool.false_ne_true)] at k
      exact snd Wout e σ F H T ρ D C0 dd he w s hc hf (EndS.wR k)
theorem S.try {k : Nat} {body : List Stmt} {h₀ : ExceptHandler} {hds : List ExceptHandler} {l : List (Str × Option Nat × MS)} {pos : Pos} {g : MS} (V : XF X.K X.mg cm cs) (b : BX X W k) (hs : X.stack = X.env :: X.outer) (hf : X.env.frame = some X.env.locals) (hex : X.ex = [])
    (hb : ∀ (pn : List (Addr × Obj)) (xe : Value → Shared → Prop) (W' : WX), BX (X.tr pn xe) W' k → GB (X.tr pn xe) cm W' wrb body g) (hh : HdD X cm cs (h₀ :: hds) l wr) :
    GS X cm W (wo wrb wr) (.Try body (h₀ :: hds) [] [] pos) (mTry cs g l) := by
  obtain ⟨lk, hk, snd⟩ := hh.sound V b.hg
  have bx : ∀ (W' : WX) (pn : List (Addr × Obj)) (xe : Value → Shared → Prop), Takes (X.tr pn xe) W' → PassesOwn (model X.prog X.w) X.A X.env xe → BX (X.tr pn xe) W' k := fun W' pn xe tk po => ⟨b.hg, b.hr, tk, b.calm, po, b.sys⟩
  refine ⟨_, ps_tryD hs hf hex b.tk (tb := fun W' pn xe tk po => Classical.choose (hb pn xe W' (bx W' pn xe tk po))) (fun W' pn xe tk po => (Classical.choose_spec (hb pn xe W' (bx W' pn xe tk po))).1) hk, fun σ F H T ρ D w s k => ?_⟩
  intro pn xe tk po
  refine (Classical.choose_spec (hb pn xe _ (bx _ pn xe tk po))).2 σ F H T ρ D w s ?_
  have k : EndS ⟨X.K, cm⟩ W (wo wrb wr) σ F H T (tryK cs l (g ρ)) D := k
  cases eg : g ρ with
  | nx ρ2 => rw [eg] at k; exact EndS.wl k
  | bk ρ2 => rw [eg] at k; exact EndS.wl k
  | ct ρ2 => rw [eg] at k; exact EndS.wl k
  | rt d2 ρ2 => rw [eg] at k; exact EndS.wl k
  | no => rw [eg] at k; exact k
  | ex e ρ2 =>
    rw [eg] at k
    intro c dd σ' F2 H2 T2 n hc hf2 w2 s2 l2
    have k : EndS ⟨X.K, cm⟩ W (wo wrb wr) σ F H T (if e.c ∈ cs then mHds l e ρ2 else .no) D := k
    by_cases he : e.c ∈ cs
    · rw [if_pos he] at k
      exact snd W e σ' F2 H2 T2 ρ2 D c dd he w2 l2 hc hf2 (EndS.wR (EndS.step (NW.wl n) s2 w2 k))
    · rw [if_neg he] at k; exact k.elim
/-! ### isinstance -/
def isXD (cs : List Str) (x : Str) : D → Option D
  | .non => some (.bl false)
  | .nd (.exn c []) _ _ => if c ∈ cs then some (.bl (isaX c x)) else none
  | _ => none
def vIsX (cs : List Str) (x : Str) (f : MV) : MV := fun ρ => (f ρ).bind (isXD cs x)
theorem Ow.tyE {F H : Hp} {c : Str} {o : Bool} {xs : List D} {v : V} {f : Fp} (V : XF X.K X.mg cm cs) (hs : Sub F H) (hc : c ∈ cs) (ow : Ow ⟨X.K, cm, F, H⟩ (.nd (.exn c []) o xs) v f) : ∃ C, adr X.K c = some C ∧ ClsOk X.K cs c C ∧ TyE X.K H v (.ref C) := by
  obtain ⟨C, a1, a2, a3⟩ := V.at_ c hc
  obtain ⟨p, ws, g, rfl, hw, hn⟩ := ow
  rcases hn with ⟨z, _⟩ | ⟨_, h, _⟩ | ⟨_, h, _⟩
  · cases z
  · exact h.elim
  · obtain ⟨_, c0, oe, h1, h2, h3, h4, h5⟩ := h
    rcases h5 with ⟨_, h6⟩ | ⟨z, _⟩
    · have h1 : cm c = some c0 := h1
      rw [V.cmq, a1] at h1
      cases h1
      exact ⟨C, a1, a3, .exn (hs _ _ h4) h2 h6 h3 a3.ex⟩
    · exact absurd rfl z
theorem Vw.isX {e : Expr} {f : MV} {p p2 pos : Pos} {n : Str} (V : XF X.K X.mg cm cs) (hn : n ∈ cs) (hg : Gl X "isinstance") (hm : X.mg "isinstance" = none) (hg2 : Gl X n) (h : GV X cm e f) (hd2 : (n == ("__debug__" : Str)) = false := by decide)
    (he : starEach [e, .Name n p2] X.env = (false, eval e X.env) :: starEach [.Name n p2] X.env := by rfl) (he2 : starEach [.Name n p2] X.env = (false, eval (.Name n p2) X.env) :: starEach [] X.env := by rfl) (hpl : (backTo pos (starEach [.Name n p2] X.env)).any (·.1) = false := by rfl) :
    GV X cm (.Call (.Name "isinstance" p) [e, .Name n p2] [] pos) (vIsX cs n f) := by
  obtain ⟨te, pe, q⟩ := h
  obtain ⟨E, a1, a2, a3⟩ := V.at_ n hn
  refine ⟨_, pe_callB call_isE1 hg hm boot_isinstance (pa_cons pe (pa_cons (pe_glob (v := .ref E) hg2 a2 rfl hd2) pa_nil he2) he) (by decide) (by decide) he hpl, fun σ F H T ρ d Q w s e k => ?_⟩
  obtain ⟨a, e1, e2⟩ := Option.bind_eq_some_iff.mp e
  refine q σ F H T ρ a _ w s e1 fun v f o l => ?_
  unfold isXD at e2
  split at e2
  · cases e2
    have o1 := o.1
    subst o1
    exact ⟨.non, .ref E, .type "NoneType", .ref E, false, rfl, .own _, .x (.base .non), a3.nn, k _ zf ⟨rfl, .rfl'⟩ fun _ => Nat.zero_le _⟩
  · rename_i c o' xs'
    by_cases hc : c ∈ cs
    · rw [if_pos hc] at e2
      cases e2
      obtain ⟨C, c1, c2, c3⟩ := Ow.tyE V w.sub hc o
      exact ⟨v, .ref E, .ref C, .ref E, _, rfl, .own _, c3, (c2.to n hn E a1).1, k _ zf ⟨rfl, .rfl'⟩ fun _ => Nat.zero_le _⟩
    · rw [if_neg hc] at e2; cases e2
  · cases e2
/-- isinstance(e, ValueError) -/
theorem Vw.isVE {e : Expr} {f : MV} {p p2 pos : Pos} (V : XF X.K X.mg cm cs) (hg : Gl X "isinstance") (hm : X.mg "isinstance" = none) (hg2 : Gl X "ValueError") (hm2 : X.mg "ValueError" = none) (h : GV X cm e f)
    (he : starEach [e, .Name "ValueError" p2] X.env = (false, eval e X.env) :: starEach [.Name "ValueError" p2] X.env := by rfl) (he2 : starEach [.Name "ValueError" p2] X.env = (false, eval (.Name "ValueError" p2) X.env) :: starEach [] X.env := by rfl) (hpl : (backTo pos (starEach [.Name "ValueError" p2] X.env)).any (·.1) = false := by rfl) :
    GV X cm (.Call (.Name "isinstance" p) [e, .Name "ValueError" p2] [] pos) (vIsX cs "ValueError" f) := by
  obtain ⟨te, pe, q⟩ := h
  refine ⟨_, pe_callB call_isE1 hg hm boot_isinstance (pa_cons pe (pa_cons (pe_bltn (v := .ty "ValueError") hg2 hm2 PyProof.Rows.Boot.«ValueError» rfl (by decide) (by decide)) pa_nil he2) he) (by decide) (by decide) he hpl, fun σ F H T ρ d Q w s e k => ?_⟩
  obtain ⟨a, e1, e2⟩ := Option.bind_eq_some_iff.mp e
  refine q σ F H T ρ a _ w s e1 fun v f o l => ?_
  unfold isXD at e2
  split at e2
  · cases e2
    have o1 := o.1
    subst o1
    exact ⟨.non, .ty "ValueError", .type "NoneType", .type "ValueError", false, rfl, .ty _, .x (.base .non), kit_ty (by decide +kernel), k _ zf ⟨rfl, .rfl'⟩ fun _ => Nat.zero_le _⟩
  · rename_i c o' xs'
    by_cases hc : c ∈ cs
    · rw [if_pos hc] at e2
      cases e2
      obtain ⟨C, c1, c2, c3⟩ := Ow.tyE V w.sub hc o
      refine ⟨v, .ty "ValueError", .ref C, .type "ValueError", _, rfl, .ty _, c3, c2.ve, ?_⟩
      have : isaX c "ValueError" = true := by unfold isaX; simp
      rw [← this]
      exact k _ zf ⟨rfl, .rfl'⟩ fun _ => Nat.zero_le _
    · rw [if_neg hc] at e2; cases e2
  · cases e2
/-- a tuple of names of own classes -/
def PN (X : Cx) (cs : List Str) (es : List Expr) (ns : List Str) : Prop := (∀ n ∈ ns, n ∈ cs) ∧ ∃ (As : List Addr) (t : TA), ns.map (adr X.K) = As.map some ∧ PA X es t ∧ ∀ σ H Q, Q (As.map V.ref) H → t σ H Q
theorem PN.nil : PN X cs [] [] := ⟨fun _ h => (by cases h), [], _, rfl, pa_nil, fun _ _ _ h => h⟩
theorem PN.cons {n : Str} {p : Pos} {es : List Expr} {ns : List Str} (V : XF X.K X.mg cm cs) (hn : n ∈ cs) (hg : Gl X n) (r : PN X cs es ns) (hd : (n == ("__debug__" : Str)) = false := by decide)
    (he : starEach (.Name n p :: es) X.env = (false, eval (.Name n p) X.env) :: starEach es X.env := by rfl) : PN X cs (.Name n p :: es) (n :: ns) := by
  obtain ⟨E, a1, a2, a3⟩ := V.at_ n hn
  obtain ⟨hm, As, t, h1, h2, h3⟩ := r
  refine ⟨fun m hm' => ?_, E :: As, _, ?_, pa_cons (pe_glob (v := .ref E) hg a2 rfl hd) h2 he, fun σ H Q q => ?_⟩
  · rcases List.mem_cons.mp hm' with rfl | h
    · exact hn
    · exact hm m h
  · rw [List.map_cons, List.map_cons, a1, h1]
  · exact h3 σ H _ q
def isXA (cs ns : List Str) : D → Option Bool
  | .non => some false
  | .nd (.exn c []) _ _ => if c ∈ cs then some (ns.any (isaX c)) else none
  | _ => none
def rIsXT (cs ns : List Str) (f : MV) : ME := fun ρ => match f ρ with
  | some d => match isXA cs ns d with
    | some b => .ok (.bl b) ρ
    | none => .no
  | none => .no
theorem kitAnys {c : Str} {C : Addr} (h : ClsOk X.K cs c C) : ∀ {ns : List Str} {As : List Addr}, (∀ n ∈ ns, n ∈ cs) → ns.map (adr X.K) = As.map some → PySem.W.kitAny X.K (.ref C) (As.map Value.ref) = some (ns.any (isaX c))
  | [], As, _, e => by
    cases As with
    | nil => rfl
    | cons a r => cases e
  | n :: ns, As, hm, e => by
    cases As with
    | nil => cases e
    | cons a r =>
      rw [List.map_cons, List.map_cons] at e
      injection e with e1 e2
      have ih := kitAnys h (ns := ns) (As := r) (fun m hm' => hm m (List.mem_cons_of_mem _ hm')) e2
      refine kitAny_cons (h.to n (hm n List.mem_cons_self) a e1).1 (fun z => ?_) fun z => ?_
      · rw [ih, List.any_cons, z, Bool.false_or]
      · rw [List.any_cons, z, Bool.true_or]
theorem kitNons (V : XF X.K X.mg cm cs) : ∀ {ns : List Str} {As : List Addr}, (∀ n ∈ ns, n ∈ cs) → ns.map (adr X.K) = As.map some → PySem.W.kitAny X.K (.type "NoneType") (As.map Value.ref) = some false
  | [], As, _, e => by
    cases As with
    | nil => rfl
    | cons a r => cases e
  | n :: ns, As, hm, e => by
    cases As with
    | nil => cases e
    | cons a r =>
      rw [List.map_cons, List.map_cons] at e
      injection e with e1 e2
      obtain ⟨E, a1, a2, a3⟩ := V.at_ n (hm n List.mem_cons_self)
      rw [e1] at a1
      cases a1
      exact kitAny_cons a3.nn (fun _ => kitNons V (ns := ns) (As := r) (fun m hm' => hm m (List.mem_cons_of_mem _ hm')) e2) fun z => by cases z
theorem clsVs : ∀ As : List Addr, Paired ClsV (As.map V.ref) (As.map Value.ref)
  | [] => .nil
  | a :: r => .cons (.own a) (clsVs r)
theorem E.isXT {e e1 : Expr} {es : List Expr} {f : MV} {p tp pos : Pos} {kk : Nat} {ns : List Str} (V : XF X.K X.mg cm cs) (hg : Gl X "isinstance") (hm : X.mg "isinstance" = none) (h : GV X cm e f) (hp : PN X cs (e1 :: es) ns) (hl : ns.length ≤ 100 := by decide)
    (he : starEach [e, .Tuple (e1 :: es) kk tp] X.env = (false, eval e X.env) :: starEach [.Tuple (e1 :: es) kk tp] X.env := by rfl)
    (he2 : starEach [.Tuple (e1 :: es) kk tp] X.env = (false, eval (.Tuple (e1 :: es) kk tp) X.env) :: starEach [] X.env := by rfl)
    (hpl : (backTo pos (starEach [.Tuple (e1 :: es) kk tp] X.env)).any (·.1) = false := by rfl) :
    GE X cm W (.Call (.Name "isinstance" p) [e, .Tuple (e1 :: es) kk tp] [] pos) (rIsXT cs ns f) := by
  obtain ⟨te, pe, q⟩ := h
  obtain ⟨hmem, As, t, h1, h2, h3⟩ := hp
  refine ⟨_, pe_callB call_isET hg hm boot_isinstance (pa_cons pe (pa_cons (pe_tup h2) pa_nil he2) he) (by decide) (by decide) he hpl, fun σ F H T ρ Q w s k => ?_⟩
  unfold rIsXT at k
  cases e1 : f ρ with
  | none => rw [e1] at k; exact k.elim
  | some d =>
    rw [e1] at k
    have k : EndE ⟨X.K, cm⟩ W σ F H T (match isXA cs ns d with | some b => .ok (.bl b) ρ | none => .no) Q := k
    cases e2 : isXA cs ns d with
    | none => rw [e2] at k; exact k.elim
    | some b =>
      rw [e2] at k
      have hlA : As.length ≤ 100 := by have := congrArg List.length h1; simp only [List.length_map] at this; omega
      refine q σ F H T ρ d _ w s e1 fun v f o l => h3 _ _ _ ⟨by rw [List.length_map]; exact Nat.le_trans hlA (by decide), fun tpl htp => ?_⟩
      obtain ⟨w1, s1, fs⟩ := allocF (o := .tup (As.map L2.V.ref)) w htp
      have o2 := ow_up (o := .tup (As.map L2.V.ref)) htp o
      have o3 : Ow ⟨X.K, cm, F, upd H tpl (.tup (As.map L2.V.ref))⟩ d v f := o2
      have sub2 : Sub F (upd H tpl (.tup (As.map L2.V.ref))) := fun a u h => up_keep htp a u (w.sub a u h) (T := zf) rfl
      have fin : Q (.bl b) (upd H tpl (.tup (As.map L2.V.ref))) := k _ _ _ T zf w1.z (s1.zz .rfl') (sls_sub fs (sls_up htp s)) ⟨rfl, .rfl'⟩
      unfold isXA at e2
      split at e2
      · cases e2
        have o1 := o3.1
        subst o1
        exact ⟨.non, tpl, _, .type "NoneType", As.map Value.ref, false, rfl, upd_same, clsVs As, .x (.base .non), kitNons V hmem h1, fin⟩
      · rename_i c o' xs'
        by_cases hc : c ∈ cs
        · rw [if_pos hc] at e2
          cases e2
          obtain ⟨C, c1, c2, c3⟩ := Ow.tyE V sub2 hc o3
          exact ⟨v, tpl, _, .ref C, As.map Value.ref, _, rfl, upd_same, clsVs As, c3, kitAnys c2 hmem h1, fin⟩
        · rw [if_neg hc] at e2; cases e2
      · cases e2
end
/-! ### reckoning -/
section
variable {ρ : Env} {d : D} {e : Xn} {cs ns : List Str} {l : List (Str × Option Nat × MS)} {x : Str}
@[simp] theorem raise_ap {c : Str} : mRaise c ρ = .ex ⟨c, []⟩ ρ := rfl
@[simp] theorem try_ap {g : MS} : mTry cs g l ρ = tryK cs l (g ρ) := rfl
@[simp] theorem tryK_nx : tryK cs l (.nx ρ) = .nx ρ := rfl
@[simp] theorem tryK_rt : tryK cs l (.rt d ρ) = .rt d ρ := rfl
@[simp] theorem tryK_ex : tryK cs l (.ex e ρ) = if e.c ∈ cs then mHds l e ρ else .no := rfl
@[simp] theorem mHds_nil : mHds [] e ρ = .ex e ρ := rfl
@[simp] theorem mHds_cons {c : Str} {oi : Option Nat} {g : MS} : mHds ((c, oi, g) :: l) e ρ = if isaX e.c c = true then suiO oi g ρ (xcD e) else mHds l e ρ := rfl
@[simp] theorem xcD_0 {c : Str} : xcD ⟨c, []⟩ = some (.nd (.exn c []) false []) := rfl
@[simp] theorem suiO_s {oi : Option Nat} {g : MS} : suiO oi g ρ (some d) = outO oi (g (inE ρ d oi)) := rfl
@[simp] theorem inE_s {i : Nat} : inE ρ d (some i) = ρ.set i (some d) := rfl
@[simp] theorem inE_n : inE ρ d none = ρ := rfl
@[simp] theorem outO_nx {oi : Option Nat} : outO oi (.nx ρ) = .nx (wpN ρ oi) := rfl
@[simp] theorem outO_rt {oi : Option Nat} : outO oi (.rt d ρ) = .rt d ρ := rfl
@[simp] theorem wpN_s {i : Nat} : wpN ρ (some i) = ρ.set i none := rfl
@[simp] theorem wpN_n : wpN ρ none = ρ := rfl
@[simp] theorem vIsX_ap {f : MV} : vIsX cs x f ρ = (f ρ).bind (isXD cs x) := rfl
@[simp] theorem isXD_non : isXD cs x .non = some (.bl false) := rfl
@[simp] theorem isXD_x {c : Str} {o : Bool} {xs : List D} : isXD cs x (.nd (.exn c []) o xs) = if c ∈ cs then some (.bl (isaX c x)) else none := rfl
def isXK (cs ns : List Str) (ρ : Env) : Option D → Re
  | some d => match isXA cs ns d with
    | some b => .ok (.bl b) ρ
    | none => .no
  | none => .no
@[simp] theorem rIsXT_ap {f : MV} : rIsXT cs ns f ρ = isXK cs ns ρ (f ρ) := by
  unfold rIsXT isXK
  cases f ρ <;> rfl
@[simp] theorem isXK_non : isXK cs ns ρ (some .non) = .ok (.bl false) ρ := rfl
@[simp] theorem isXK_x {c : Str} {o : Bool} {xs : List D} : isXK cs ns ρ (some (.nd (.exn c []) o xs)) = if c ∈ cs then .ok (.bl (ns.any (isaX c))) ρ else .no := by
  show (match (if c ∈ cs then some (ns.any (isaX c)) else none) with | some b => Re.ok (.bl b) ρ | none => .no) = _
  by_cases h : c ∈ cs
  · rw [if_pos h, if_pos h]
  · rw [if_neg h, if_neg h]
end
/-- the walk's end, the classes' table by the world -/
theorem walk_dataX {l : PySem.W.OpenLaw} {n k : Nat} {q : Program} {loose : List Str} {XP : (Str → Option Value) → Heap → Prop} {YP : World → Heap → Prop} {d : DefRec} {K : Params → PySem.W.Frag} {x : Str} {fn : Fn}
    (hn : l.most = some n) (hn2 : n ≤ sizeLine) (hdf : d.params.defaults = []) (hr : Room k callerA) (hi : importsNone q = true) (hY : ∀ (w : World) (h : Heap), YP w h → (K w.params).In h)
    (F : ∀ (w : World) (mg : Str → Option Value) (fa : Addr) (h : Heap), (K w.params).In h → h.Ns mainGlobals mg → mg d.name = some (.ref fa) →
      ∃ fd : FuncData, (∀ (s : Shared) (u : Value), BindsTo s fd ⟨[u], []⟩ [(x, u)]) ∧ ∀ base : Heap, (K w.params).In base → base.Ns mainGlobals mg → (∃ mm, base.Ns sysModules mm) → FnG l.prog w (K w.params) mg base k fa fd [x] (SpD ⟨K w.params, adr (K w.params)⟩ 1 fn))
    (yes : ∀ ns : List Int, ns.length ≤ n → (∀ z ∈ ns, Builtin.Int.intBits z ≤ 1048576) → ∃ ρ, fn [.nd .fzl false (ns.map .int)] = .ok (.bl true) ρ) :
    PySem.W.WalkO q loose XP YP l.row.toRowW d [] (fun f vs => PySem.call f vs) := by
  refine Att.attach_callB hn hdf fun w s₀ s₁ mg mb fa o pm cd doc a vs ns G Y ho hd hcd hmg hobj hints hlen hbits hg => ?_
  obtain ⟨fd, hb, hF⟩ := F w mg fa _ (hY w _ Y) G.T.g hmg
  exact law_run (hY w _ Y) G.T.g G.T.b G.T.builtins G.T.nolimit hg hobj hints (Nat.le_trans hlen hn2) hr (let ⟨mm, h, _⟩ := (G.T.seer hi).mods; ⟨mm, h⟩) hF hb (yes ns hlen hbits)
end DL
namespace DL
open PySem L2 PyProof.Rows
/-- all own exception classes -/
def XCS : List Str := ["MarkError", "NoStand", "NoMarks", "NoReading", "NoLater", "NoPage", "NoCounts", "NoNumber", "NoStory", "TooMany", "NoLot", "NoDiaries", "NoRow", "NoName", "Taken", "NoReader", "Nothing", "NoText", "NoHistory"]
@[simp] theorem isaX_me (c : Str) : isaX c "MarkError" = true := by unfold isaX; simp
@[simp] theorem isaX_ve (c : Str) : isaX c "ValueError" = true := by unfold isaX; simp
end DL
namespace DL
open PySem L2 PyProof.Rows
/-! ### what lies in an owned list frozen, the list itself owned on -/
def fcK (f : ME) (ρ : Env) (i : Nat) : Option D → Re
  | some (.nd .lst true xs) => if noObjs xs = true then f (ρ.set i (some (.nd .lst true (frzs xs)))) else .no
  | _ => .no
def rFc (i : Nat) (f : ME) : ME := fun ρ => fcK f ρ i (gt ρ i)
section
variable {X : Cx} {cm : Str → Option Addr} {W : WX} {S : Sc}
theorem fc_sp {t : TE} {f : ME} {i : Nat} (q : SpE S W t f) : SpE S W t (rFc i f) := by
  intro σ F H T ρ Q w s k
  obtain ⟨K, cm⟩ := S
  have k : EndE ⟨K, cm⟩ W σ F H T (fcK f ρ i (gt ρ i)) Q := k
  cases hg : gt ρ i with
  | none => rw [hg] at k; exact k.elim
  | some d =>
    rw [hg] at k
    cases d with
    | nd kd o xs =>
      cases kd with
      | lst =>
        cases o with
        | true =>
          have k : EndE ⟨K, cm⟩ W σ F H T (if noObjs xs = true then f (ρ.set i (some (.nd .lst true (frzs xs)))) else .no) Q := k
          by_cases n : noObjs xs = true
          · rw [if_pos n] at k
            have hi := gt_some hg
            obtain ⟨v, g, x, h1, h2, h3, h4⟩ := s.get hi
            obtain ⟨p, ws, g0, rfl, hs, hn⟩ := h2
            rcases hn with ⟨z, _⟩ | ⟨_, ha, eg⟩ | ⟨z, _⟩
            · cases z
            · have hT : ∀ a, T a = one p a + g0 a + x a := fun a => by rw [h4 a, ad_ap, eg a, ad_ap]
              obtain ⟨F', hF⟩ : ∃ F' : Hp, F' = fun a => if g0 a = 0 then F a else H a := ⟨_, rfl⟩
              have F0 : ∀ a, g0 a = 0 → F' a = F a := fun a z => by rw [hF]; exact if_pos z
              have F1 : ∀ a, g0 a ≠ 0 → F' a = H a := fun a z => by rw [hF]; exact if_neg z
              have fs : Sub F F' := fun a o h => by
                by_cases z : g0 a = 0
                · rw [F0 a z]; exact h
                · have := w.off a (by rw [hT a]; omega)
                  rw [h] at this; cases this
              have w' : Wd F' H (ad (one p) x) := ⟨fun a o h => by
                  by_cases z : g0 a = 0
                  · rw [F0 a z] at h; exact w.sub a o h
                  · rw [F1 a z] at h; exact h, fun a => by have := w.one a; rw [hT a] at this; rw [ad_ap]; omega, fun a z => by
                    have h5 := w.one a
                    rw [hT a] at h5
                    rw [ad_ap] at z
                    rw [F0 a (by omega)]
                    exact w.off a (by rw [hT a]; omega), fun a z => w.mu a (by rw [ad_ap] at z; rw [hT a]; omega)⟩
              have st : Stp F H T F' H (ad (one p) x) := ⟨fun _ _ h _ => h, fs, fun a h1 h2 h3 => by
                rw [hT a] at h2
                refine ⟨by rw [ad_ap]; omega, ?_⟩
                rw [F0 a (by omega)]; exact h3⟩
              have os : Ows ⟨K, cm, F', H⟩ (frzs xs) ws zf := Ows.frz fs xs ws g0 n F1 hs
              have s' : Sls ⟨K, cm, F', H⟩ (ρ.set i none) σ x := Sls.mono (T := zf) fs (fun _ _ h _ => h) (fun a z => absurd rfl z) _ _ _ (fun _ _ => rfl) h3
              have hl : i < ρ.length := by
                rcases Nat.lt_or_ge i ρ.length with z | z
                · exact z
                · rw [List.getElem?_eq_none_iff.mpr z] at hi; cases hi
              have o' : Ow ⟨K, cm, F', H⟩ (.nd .lst true (frzs xs)) (.ref p) (one p) := ⟨p, ws, zf, rfl, os, .inr (.inl ⟨rfl, ha, fun a => rfl⟩)⟩
              exact q σ F' H _ _ Q w' (s'.put hl h1 o') (EndE.step st w' k)
            · cases z
          · rw [if_neg n] at k; exact k.elim
        | false => exact k.elim
      | _ => exact k.elim
    | _ => exact k.elim
theorem E.fc {e : Expr} {f : ME} (i : Nat) (h : GE X cm W e f) : GE X cm W e (rFc i f) := by
  obtain ⟨t, p, q⟩ := h
  exact ⟨t, p, fc_sp q⟩
end
@[simp] theorem rFc_ap {i : Nat} {f : ME} {ρ : Env} : rFc i f ρ = fcK f ρ i (gt ρ i) := rfl
@[simp] theorem fcK_l {i : Nat} {f : ME} {ρ : Env} {xs : List D} : fcK f ρ i (some (.nd .lst true xs)) = if noObjs xs = true then f (ρ.set i (some (.nd .lst true (frzs xs)))) else .no := rfl
end DL
namespace PM
open PySem L2 PyProof.Rows DL
def m_law_due_1 : MS := (mSeq (mAsg (rV (vOp dSub (vOp dIx (vVar 2) (vVar 3)) (vC (.int 1)))) (mSet 2 pN (vVar 3))) (mAsg (rV (vOp dAdd (vOp dIx (vVar 2) (vOp dAdd (vVar 3) (vC (.int 1)))) (vC (.int 1)))) (mSet 2 pN (vOp dAdd (vVar 3) (vC (.int 1))))))
def m_law_due_2 : MS := mFor (iE (rFz 1)) (gN 3) m_law_due_1
def m_law_due : MS := (mSeq (mAsg (rOpEV dTm (rLst (aE (rV (vC (.int 1))) aNil)) (vVar 0)) (gN 2)) (mSeq m_law_due_2 (mRet (rMv 2))))
def f_law_due : Fn := defFn 4 [false, false] m_law_due
def m_law_ribbon : MS := (mSeq (mAsg (rV (vC (.int 0))) (gN 2)) (mSeq (mIf (rV (vOp dLt (vVar 1) (vB dLen (vCons (vVar 0) vNil)))) (mAsg (rV (vOp dIx (vVar 0) (vVar 1))) (gN 2)) mNx) (mRet (rLst (aE (rV (vB dMax2 (vCons (vC (.int 0)) (vCons (vOp dSub (vVar 2) (vOp dPow (vC (.int 10)) (vC (.int 18)))) vNil)))) (aE (rV (vOp dAdd (vOp dAdd (vOp dMul (vOp dMod (vVar 2) (vOp dAdd (vOp dPow (vC (.int 10)) (vC (.int 36))) (vC (.int 67)))) (vC (.int 16))) (vVar 1)) (vC (.int 9)))) (aE (rV (vC (.int 0))) aNil)))))))
def f_law_ribbon : Fn := defFn 3 [false, false] m_law_ribbon
def m_law_same_1 (self : Fn) : ME := rLc [2, 3] (iZ (aE (rFz 0) (aE (rFz 1) aNil))) (gT 2 (gsCons (gN 2) (gsCons (gN 3) gsNil))) rYes (rCallB (self) [] (aBw 2 (aBw 3 aNil)))
def m_law_same (self : Fn) : MS := (mSeq (mIf (rIsi2 .list .tuple (vVar 1)) (mSeq (mIf (rOr (rV (vOp dNeX (vIsi .list (vVar 0)) (vIsi .list (vVar 1)))) (rV (vOp dNeX (vIsi .tuple (vVar 0)) (vIsi .tuple (vVar 1))))) (mRet (rV (vC (.bl false)))) mNx) (mSeq (mIf (rV (vOp dNeX (vB dLen (vCons (vVar 0) vNil)) (vB dLen (vCons (vVar 1) vNil)))) (mRet (rV (vC (.bl false)))) mNx) (mRet (rB dAll (aE (m_law_same_1 self) aNil))))) mNx) (mRet (rAnd (rV (vOp dEqX (vIsi .bool (vVar 0)) (vIsi .bool (vVar 1)))) (rV (vOp dEqX (vVar 0) (vVar 1))))))
def f_law_same : Nat → Fn
  | 0 => fun _ => .no
  | n + 1 => defFn 4 [false, false] (m_law_same (f_law_same n))
def m_law_snip : MS := (mSeq (mIf (rV (vOp dGt (vOp dIx (vVar 0) (vC (.int 0))) (vC (.int 0)))) (mSeq (mAsg (rV (vOp dMod (vOp dIx (vVar 0) (vC (.int 0))) (vVar 1))) (gN 2)) (mSeq (mAsg (rV (vOp dDiv (vOp dIx (vVar 0) (vC (.int 0))) (vVar 1))) (mSet 0 pN (vC (.int 0)))) (mRet (rMv 2)))) mNx) (mSeq (mAsg (rV (vOp dAdd (vOp dIx (vVar 0) (vC (.int 2))) (vC (.int 1)))) (mSet 0 pN (vC (.int 2)))) (mSeq (mAsg (rV (vOp dMod (vOp dPow (vOp dAdd (vOp dMul (vOp dIx (vVar 0) (vC (.int 1))) (vC (.int 65537))) (vOp dMul (vC (.int 104729)) (vOp dIx (vVar 0) (vC (.int 2))))) (vC (.int 3))) (vOp dAdd (vOp dPow (vC (.int 10)) (vC (.int 38))) (vC (.int 133))))) (gN 3)) (mSeq (mAsg (rV (vOp dMod (vOp dPow (vOp dAdd (vVar 3) (vOp dMul (vC (.int 7919)) (vOp dPow (vOp dIx (vVar 0) (vC (.int 2))) (vC (.int 2))))) (vC (.int 3))) (vOp dAdd (vOp dPow (vC (.int 10)) (vC (.int 40))) (vC (.int 121))))) (gN 3)) (mRet (rV (vOp dMod (vOp dDiv (vVar 3) (vC (.int 1299709))) (vVar 1))))))))
def f_law_snip : Fn := defFn 4 [true, false] m_law_snip
def m_law_may : MS := (mSeq (mAsg (rIf (rV (vOp dGt (vVar 1) (vC (.int 0)))) (rV (vOp dIx (vVar 0) (vOp dSub (vVar 1) (vC (.int 1))))) (rV (vC (.int 0)))) (gN 2)) (mRet (rV (vOp dGt (vOp dSub (vOp dAdd (vC (.int 1)) (vVar 2)) (vOp dIx (vVar 0) (vVar 1))) (vC (.int 0))))))
def f_law_may : Fn := defFn 3 [false, false] m_law_may
def m_law_story_1 : ME := rLc [7] (iR1 (aE (rV (vOp dSub (vVar 1) (vC (.int 1)))) aNil)) (gN 7) (rCallB (f_law_may) [] (aBw 3 (aBw 7 aNil))) (rFz 7)
def m_law_story_2 : MS := (mSeq (mAsg m_law_story_1 (gN 6)) (mIf (rOpNE dNeX 6 (rLst aNil)) (mSeq (mDo (rMtN uApp 4 (aE (rIxN 6 (rCall (f_law_snip) [] (aIo 0 (aE (rV (vB dLen (vCons (vVar 6) vNil))) aNil)))) aNil))) (mAsg (rV (vOp dAdd (vOp dIx (vVar 3) (vOp dIx (vVar 4) (vUn dNeg (vC (.int 1))))) (vC (.int 1)))) (mSet 3 pN (vOp dIx (vVar 4) (vUn dNeg (vC (.int 1))))))) mNx))
def m_law_story_3 : MS := mFor (iR1 (aE (rCall (f_law_snip) [] (aIo 0 (aE (rV (vOp dAdd (vVar 2) (vC (.int 1)))) aNil))) aNil)) (gN 5) m_law_story_2
def m_law_story : MS := (mSeq (mAsg (rTup (aE (rOpEV dTm (rLst (aE (rV (vC (.int 0))) aNil)) (vVar 1)) (aE (rLst aNil) aNil))) (gT 2 (gsCons (gN 3) (gsCons (gN 4) gsNil)))) (mSeq m_law_story_3 (mRet (rMv 4))))
def f_law_story : Fn := defFn 8 [true, false, false] m_law_story
def m_is_whole : MS := (mSeq (mIf (rOr (rNot (rV (vIsi .int (vVar 0)))) (rOr (rV (vIsi .bool (vVar 0))) (rV (vOp dLt (vVar 0) (vVar 1))))) (mRet (rV (vC (.bl false)))) mNx) (mRet (rOr (rV (vOp dIsN (vVar 2) (vC .non))) (rV (vOp dLe (vVar 0) (vVar 2))))))
def f_is_whole : Fn := defFn 3 [false, false, false] m_is_whole
def m_need_readers : MS := (mIf (rNot (rCallB (f_is_whole) [] (aBw 0 (aE (rV (vC (.int 1))) (aE (rV (vC (.int 12))) aNil))))) (mRaise "NoNumber") mNx)
def f_need_readers : Fn := defFn 1 [false] m_need_readers
def m_may_stand : MS := (mRet (rOp dLe (rV (vOp dIx (vVar 0) (vVar 1))) (rIf (rV (vOp dGt (vVar 1) (vC (.int 0)))) (rV (vOp dIx (vVar 0) (vOp dSub (vVar 1) (vC (.int 1))))) (rV (vC (.int 0))))))
def f_may_stand : Fn := defFn 2 [false, false] m_may_stand
def m_lot_of_1 : MS := (mSeq (mIf (rOr (rNot (rCallB (f_is_whole) [] (aBw 3 (aE (rV (vC (.int 0))) (aE (rV (vOp dSub (vVar 0) (vC (.int 2)))) aNil))))) (rNot (rCallB (f_may_stand) [] (aBw 2 (aBw 3 aNil))))) (mRet (rV (vC .non))) mNx) (mAugS dAdd 2 pN (vVar 3) (vC (.int 1))))
def m_lot_of_2 : MS := mFor (iE (rFz 1)) (gN 3) m_lot_of_1
def m_lot_of : MS := (mSeq (mAsg (rOpEV dTm (rLst (aE (rV (vC (.int 0))) aNil)) (vOp dSub (vVar 0) (vC (.int 1)))) (gN 2)) (mSeq m_lot_of_2 (mRet (rMv 2))))
def f_lot_of : Fn := defFn 4 [false, false] m_lot_of
def m_need_story : MS := (mSeq (mIf (rNot (rV (vIsi .list (vVar 1)))) (mRaise "NoStory") mNx) (mSeq (mAsg (rCallB (f_lot_of) [] (aBw 0 (aBw 1 aNil))) (gN 2)) (mSeq (mIf (rV (vOp dIsN (vVar 2) (vC .non))) (mRaise "NoStory") mNx) (mRet (rMv 2)))))
def f_need_story : Fn := defFn 3 [false, false] m_need_story
def m_counts_behind_1 : ME := rLc [3, 4] (iZ (aE (rT (rOpEV dPl (rLst (aE (rV (vC (.int 0))) aNil)) (vVar 2))) (aE (rT (rOpNE dPl 2 (rLst (aE (rV (vC (.int 0))) aNil)))) aNil))) (gT 2 (gsCons (gN 3) (gsCons (gN 4) gsNil))) rYes (rV (vOp dSub (vOp dAdd (vC (.int 1)) (vVar 3)) (vVar 4)))
def m_counts_behind : MS := (mSeq (mDo (rCallB (f_need_readers) [] (aBw 0 aNil))) (mSeq (mAsg (rCallB (f_need_story) [] (aBw 0 (aBw 1 aNil))) (gN 2)) (mRet m_counts_behind_1)))
def f_counts_behind : Fn := defFn 5 [false, false] m_counts_behind
def m_LAW_k29_1 : MS := (mSeq (mAsg (rCallB (f_law_story) [] (aIo 2 (aBw 3 (aE (rOp dIx (rLst (aE (rV (vC (.int 10))) (aE (rV (vC (.int 66))) aNil))) (rCall (f_law_snip) [] (aIo 2 (aE (rV (vC (.int 2))) aNil)))) aNil)))) (gN 5)) (mSeq (mPar [6, 7] (aE (rCallB (f_law_due) [] (aBw 3 (aBw 5 aNil))) (aE (rV (vB dRepr (vCons (vVar 5) vNil))) aNil))) (mSeq (mAsg (rCallB (f_counts_behind) [] (aBw 3 (aBw 5 aNil))) (gN 8)) (mSeq (mIf (rOr (rNot (rCallB (f_law_same 4) [] (aBw 8 (aBw 6 aNil)))) (rV (vOp dNeX (vB dRepr (vCons (vVar 5) vNil)) (vVar 7)))) (mRet (rV (vC (.bl false)))) mNx) (mSeq (mDo (rMtV uApp 8 pN (vCons (vC (.int 0)) vNil))) (mIf (rNot (rCallB (f_law_same 4) [] (aE (rCallKB (f_counts_behind) [1, 0] (aBw 5 (aBw 3 aNil))) (aBw 6 aNil)))) (mRet (rV (vC (.bl false)))) mNx))))))
def m_LAW_k29_2 : MS := mFor (iR1 (aE (rV (vC (.int 2))) aNil)) (gN 4) m_LAW_k29_1
def m_LAW_k29_3 : MS := (mSeq (mAsg (rCallB (f_law_ribbon) [] (aBw 0 (aBw 1 aNil))) (gN 2)) (mSeq (mAsg (rOp dPl (rV (vC (.int 1))) (rCall (f_law_snip) [] (aIo 2 (aE (rV (vC (.int 12))) aNil)))) (gN 3)) m_LAW_k29_2))
def m_LAW_k29_4 : MS := mFor (iR1 (aE (rV (vB dMax2 (vCons (vC (.int 1)) (vCons (vB dMin2 (vCons (vB dLen (vCons (vVar 0) vNil)) (vCons (vC (.int 10)) vNil))) vNil)))) aNil)) (gN 1) m_LAW_k29_3
def m_LAW_k29 : MS := (mSeq m_LAW_k29_4 (mRet (rV (vC (.bl true)))))
def f_LAW_k29 : Fn := defFn 9 [false] m_LAW_k29
end PM
namespace PM
open PySem L2 PyProof.Rows DL
def m_law_leaf : MS := (mSeq (mIf (rV (vOp dGt (vOp dIx (vVar 0) (vC (.int 0))) (vC (.int 0)))) (mSeq (mAsg (rV (vOp dMod (vOp dIx (vVar 0) (vC (.int 0))) (vVar 1))) (gN 2)) (mSeq (mAsg (rV (vOp dDiv (vOp dIx (vVar 0) (vC (.int 0))) (vVar 1))) (mSet 0 pN (vC (.int 0)))) (mRet (rMv 2)))) mNx) (mSeq (mAsg (rV (vOp dAdd (vOp dIx (vVar 0) (vC (.int 2))) (vC (.int 1)))) (mSet 0 pN (vC (.int 2)))) (mSeq (mAsg (rV (vOp dMod (vOp dPow (vOp dAdd (vOp dIx (vVar 0) (vC (.int 1))) (vOp dMul (vC (.int 53982847)) (vOp dIx (vVar 0) (vC (.int 2))))) (vC (.int 2))) (vOp dAdd (vOp dPow (vC (.int 10)) (vC (.int 41))) (vC (.int 37))))) (gN 3)) (mSeq (mAsg (rV (vOp dMod (vOp dPow (vOp dAdd (vOp dMul (vVar 3) (vC (.int 31))) (vOp dMul (vC (.int 7)) (vOp dIx (vVar 0) (vC (.int 2))))) (vC (.int 3))) (vOp dAdd (vOp dPow (vC (.int 10)) (vC (.int 43))) (vC (.int 103))))) (gN 3)) (mRet (rV (vOp dMod (vOp dDiv (vVar 3) (vOp dPow (vC (.int 10)) (vC (.int 6)))) (vVar 1))))))))
def f_law_leaf : Fn := defFn 4 [true, false] m_law_leaf
def m_law_slips_1 : MS := (mSeq (mDo (rMtV uApp 5 pN (vCons (vVar 4) vNil))) (mAsg (rOpNE dPl 4 (rOp dIx (rLst (aE (rV (vC (.int 1))) (aE (rOp dPl (rV (vC (.int 1))) (rCall (f_law_leaf) [] (aIo 0 (aE (rV (vC (.int 3))) aNil)))) (aE (rOp dPl (rV (vC (.int 1))) (rCall (f_law_leaf) [] (aIo 0 (aE (rV (vC (.int 50))) aNil)))) (aE (rOp dPl (rV (vC (.int 1))) (rCall (f_law_leaf) [] (aIo 0 (aE (rV (vOp dPow (vC (.int 10)) (vC (.int 28)))) aNil)))) aNil))))) (rFz 2))) (gN 4)))
def m_law_slips_2 : MS := mFor (iR1 (aE (rFz 3) aNil)) (gN 6) m_law_slips_1
def m_law_slips : MS := (mSeq (mAsg (rCall (f_law_leaf) [] (aIo 0 (aE (rV (vC (.int 4))) aNil))) (gN 2)) (mSeq (mAsg (rOp dPl (rV (vC (.int 1))) (rCallB (f_law_leaf) [] (aIo 0 (aBw 1 aNil)))) (gN 3)) (mSeq (mAsg (rOp dIx (rLst (aE (rV (vC (.int 0))) (aE (rCall (f_law_leaf) [] (aIo 0 (aE (rV (vC (.int 6))) aNil))) (aE (rCall (f_law_leaf) [] (aIo 0 (aE (rV (vOp dPow (vC (.int 10)) (vC (.int 28)))) aNil))) aNil)))) (rCall (f_law_leaf) [] (aIo 0 (aE (rV (vC (.int 3))) aNil)))) (gN 4)) (mSeq (mIf (rOpEV dEqX (rCall (f_law_leaf) [] (aIo 0 (aE (rV (vC (.int 8))) aNil))) (vC (.int 0))) (mPar [4, 2] (aE (rV (vOp dSub (vOp dPow (vC (.int 10)) (vC (.int 30))) (vC (.int 36)))) (aE (rV (vB dMin2 (vCons (vVar 2) (vCons (vC (.int 1)) vNil)))) aNil))) mNx) (mSeq (mAsg (rLst aNil) (gN 5)) (mSeq m_law_slips_2 (mRet (rMv 5))))))))
def f_law_slips : Fn := defFn 7 [true, false] m_law_slips
def m_law_lay_1 : ME := rLc [3] (iR1 (aE (rOp dPl (rV (vC (.int 1))) (rCall (f_law_leaf) [] (aIo 0 (aE (rV (vC (.int 12))) aNil)))) aNil)) (gN 3) rYes (rCall (f_law_leaf) [] (aIo 0 (aE (rV (vB dLen (vCons (vVar 2) vNil))) aNil)))
def m_law_lay : MS := (mSeq (mAsg (rCallB (f_law_slips) [] (aIo 0 (aBw 1 aNil))) (gN 2)) (mSeq (mIf (rOpEV dEqX (rCall (f_law_leaf) [] (aIo 0 (aE (rV (vC (.int 2))) aNil))) (vC (.int 0))) (mRet (rTup (aMv 2 (aE (rRg1 (vB dLen (vCons (vVar 2) vNil))) aNil)))) mNx) (mRet (rTup (aMv 2 (aE m_law_lay_1 aNil))))))
def f_law_lay : Fn := defFn 4 [true, false] m_law_lay
def m_law_ream : MS := (mSeq (mAsg (rIf (rV (vOp dLt (vVar 1) (vB dLen (vCons (vVar 0) vNil)))) (rV (vOp dIx (vVar 0) (vVar 1))) (rV (vC (.int 0)))) (gN 2)) (mRet (rLst (aE (rV (vB dMax2 (vCons (vC (.int 0)) (vCons (vOp dSub (vB dAbs (vCons (vVar 2) vNil)) (vOp dPow (vC (.int 10)) (vC (.int 18)))) vNil)))) (aE (rV (vOp dMod (vOp dAdd (vOp dAdd (vOp dMul (vVar 2) (vC (.int 128))) (vOp dMul (vC (.int 61)) (vVar 1))) (vC (.int 5))) (vOp dAdd (vOp dPow (vC (.int 10)) (vC (.int 38))) (vC (.int 133))))) (aE (rV (vC (.int 0))) aNil))))))
def f_law_ream : Fn := defFn 3 [false, false] m_law_ream
def m_law_same_v2_1 (self : Fn) : ME := rLc [2] (iR1 (aE (rV (vB dLen (vCons (vVar 1) vNil))) aNil)) (gN 2) rYes (rCall (self) [] (aE (rOp dIx (rFz 0) (rFz 2)) (aE (rOp dIx (rFz 1) (rFz 2)) aNil)))
def m_law_same_v2 (self : Fn) : MS := (mSeq (mIf (rOr (rV (vIsi .list (vVar 1))) (rV (vIsi .tuple (vVar 1)))) (mSeq (mIf (rOr (rV (vOp dNeX (vIsi .list (vVar 0)) (vIsi .list (vVar 1)))) (rV (vOp dNeX (vIsi .tuple (vVar 0)) (vIsi .tuple (vVar 1))))) (mRet (rV (vC (.bl false)))) mNx) (mRet (rAnd (rV (vOp dEqX (vB dLen (vCons (vVar 0) vNil)) (vB dLen (vCons (vVar 1) vNil)))) (rB dAll (aE (m_law_same_v2_1 self) aNil))))) mNx) (mSeq (mIf (rOr (rV (vOp dIsN (vVar 1) (vC .non))) (rV (vOp dIsN (vVar 0) (vC .non)))) (mRet (rAnd (rV (vOp dIsN (vVar 1) (vC .non))) (rV (vOp dIsN (vVar 0) (vC .non))))) mNx) (mSeq (mIf (rOr (rV (vOp dNeX (vIsi .bool (vVar 1)) (vIsi .bool (vVar 0)))) (rV (vOp dNeX (vIsi .str (vVar 1)) (vIsi .str (vVar 0))))) (mRet (rV (vC (.bl false)))) mNx) (mRet (rV (vOp dEqX (vVar 0) (vVar 1)))))))
def f_law_same_v2 : Nat → Fn
  | 0 => fun _ => .no
  | n + 1 => defFn 3 [false, false] (m_law_same_v2 (f_law_same_v2 n))
def m_fresh_of : MS := (mRet (rTup (aE (rNV dList (vCons (vVar 0) vNil)) (aE (rRg1 (vB dLen (vCons (vVar 0) vNil))) aNil))))
def f_fresh_of : Fn := defFn 1 [false] m_fresh_of
def m_is_page : MS := (mRet (rCallB (f_is_whole) [.non] (aBw 0 (aE (rV (vC (.int 0))) aNil))))
def f_is_page : Fn := defFn 1 [false] m_is_page
def m_is_marks_1 : ME := rLc [1] (iE (rFz 0)) (gN 1) rYes (rCallB (f_is_page) [] (aBw 1 aNil))
def m_is_marks_2 : ME := rLc [1, 2] (iZ (aE (rFz 0) (aE (rT (rSlV (vVar 0) (oV (vC (.int 1))) oNo)) aNil))) (gT 2 (gsCons (gN 1) (gsCons (gN 2) gsNil))) rYes (rV (vOp dLt (vVar 1) (vVar 2)))
def m_is_marks : MS := (mSeq (mIf (rOr (rNot (rV (vIsi .list (vVar 0)))) (rOr (rNot (rV (vChain dLe dLe (vC (.int 1)) (vB dLen (vCons (vVar 0) vNil)) (vC (.int 12))))) (rNot (rB dAll (aE (rLend [] m_is_marks_1) aNil))))) (mRet (rV (vC (.bl false)))) mNx) (mRet (rB dAll (aE m_is_marks_2 aNil))))
def f_is_marks : Fn := defFn 3 [false] m_is_marks
def m_need_marks : MS := (mIf (rNot (rCallB (f_is_marks) [] (aBw 0 aNil))) (mRaise "NoMarks") mNx)
def f_need_marks : Fn := defFn 1 [false] m_need_marks
def m_fresh : MS := (mSeq (mDo (rCallB (f_need_marks) [] (aBw 0 aNil))) (mRet (rCallB (f_fresh_of) [] (aBw 0 aNil))))
def f_fresh : Fn := defFn 1 [false] m_fresh
def m_is_stand_1 : ME := rLc [3] (iE (rFz 2)) (gN 3) rYes (rCallB (f_is_whole) [] (aBw 3 (aE (rV (vC (.int 0))) (aE (rV (vOp dSub (vB dLen (vCons (vVar 1) vNil)) (vC (.int 1)))) aNil))))
def m_is_stand : MS := (mSeq (mIf (rOr (rNot (rV (vIsi .tuple (vVar 0)))) (rOr (rV (vOp dNeX (vB dLen (vCons (vVar 0) vNil)) (vC (.int 2)))) (rOr (rNot (rCall (f_is_marks) [] (aE (rOp dIx (rFz 0) (rV (vC (.int 0)))) aNil))) (rNot (rV (vIsi .list (vOp dIx (vVar 0) (vC (.int 1))))))))) (mRet (rV (vC (.bl false)))) mNx) (mSeq (mAsg (rMv 0) (gT 2 (gsCons (gN 1) (gsCons (gN 2) gsNil)))) (mRet (rAnd (rV (vChain dLe dLe (vC (.int 1)) (vB dLen (vCons (vVar 2) vNil)) (vC (.int 12)))) (rB dAll (aE m_is_stand_1 aNil))))))
def f_is_stand : Fn := defFn 4 [false] m_is_stand
def m_need_stand : MS := (mIf (rNot (rCallB (f_is_stand) [] (aBw 0 aNil))) (mRaise "NoStand") mNx)
def f_need_stand : Fn := defFn 1 [false] m_need_stand
def m_opens_1 : ME := rLc [3] (iE (rFz 2)) (gN 3) rYes (rV (vOp dIx (vVar 1) (vVar 3)))
def m_opens : MS := (mSeq (mDo (rCallB (f_need_stand) [] (aBw 0 aNil))) (mSeq (mAsg (rMv 0) (gT 2 (gsCons (gN 1) (gsCons (gN 2) gsNil)))) (mRet m_opens_1)))
def f_opens : Fn := defFn 4 [false] m_opens
def m_LAW_k02_1 : ME := rLc [6] (iR1 (aE (rV (vB dLen (vCons (vVar 4) vNil))) aNil)) (gN 6) rYes (rFz 6)
def m_LAW_k02_2 : ME := rLc [11] (iE (rOp dIx (rFz 8) (rV (vC (.int 1))))) (gN 11) rYes (rV (vOp dIx (vOp dIx (vVar 8) (vC (.int 0))) (vVar 11)))
def m_LAW_k02_3 : MS := (mSeq (mAsg (rCall (f_law_slips) [] (aIo 2 (aE (rV (vC (.int 12))) aNil))) (gN 4)) (mSeq (mAsg (rTup (aE (rNV dList (vCons (vVar 4) vNil)) (aE m_LAW_k02_1 aNil))) (gN 5)) (mSeq (mAsg (rCallB (f_fresh) [] (aBw 4 aNil)) (gN 7)) (mSeq (mIf (rOr (rNot (rLend [] (rCall (f_law_same_v2 4) [] (aE (rLst (aE (rFz 7) (aE (rCallKB (f_fresh) [0] (aBw 4 aNil)) aNil))) (aE (rLst (aE (rFz 5) (aE (rFz 5) aNil))) aNil))))) (rV (vOp dNeX (vVar 4) (vOp dIx (vVar 5) (vC (.int 0)))))) (mRet (rV (vC (.bl false)))) mNx) (mSeq (mDo (rMtV uApp 7 (pIx 7 pN (vC (.int 0))) (vCons (vC (.int 0)) vNil))) (mSeq (mDo (rMtV uRev 7 (pIx 7 pN (vC (.int 1))) vNil)) (mSeq (mIf (rOr (rV (vOp dNeX (vVar 4) (vOp dIx (vVar 5) (vC (.int 0))))) (rNot (rCallB (f_law_same_v2 4) [] (aE (rCallB (f_fresh) [] (aBw 4 aNil)) (aBw 5 aNil))))) (mRet (rV (vC (.bl false)))) mNx) (mSeq (mAsg (rCallB (f_fresh) [] (aBw 4 aNil)) (gN 7)) (mSeq (mDo (rMtV uApp 4 pN (vCons (vOp dAdd (vOp dIx (vVar 4) (vUn dNeg (vC (.int 1)))) (vC (.int 1))) vNil))) (mSeq (mIf (rNot (rCallB (f_law_same_v2 4) [] (aBw 7 (aBw 5 aNil)))) (mRet (rV (vC (.bl false)))) mNx) (mSeq (mDo (rMtV uPop 4 pN vNil)) (mSeq (mAsg (rV (vOp dAdd (vOp dIx (vVar 4) (vUn dNeg (vC (.int 1)))) (vC (.int 1)))) (mSet 4 pN (vUn dNeg (vC (.int 1))))) (mSeq (mIf (rNot (rCall (f_law_same_v2 4) [] (aE (rCallB (f_fresh) [] (aBw 4 aNil)) (aE (rTup (aE (rNV dList (vCons (vVar 4) vNil)) (aE (rOp dIx (rFz 5) (rV (vC (.int 1)))) aNil))) aNil)))) (mRet (rV (vC (.bl false)))) mNx) (mSeq (mAsg (rCall (f_law_lay) [] (aIo 2 (aE (rV (vC (.int 12))) aNil))) (gN 8)) (mSeq (mAsg (rV (vB dRepr (vCons (vVar 8) vNil))) (gN 9)) (mSeq (mAsg (rLend [] m_LAW_k02_2) (gN 10)) (mSeq (mAsg (rCallB (f_opens) [] (aBw 8 aNil)) (gN 7)) (mSeq (mIf (rOr (rNot (rLend [] (rCall (f_law_same_v2 4) [] (aE (rLst (aE (rFz 7) (aE (rCallKB (f_opens) [0] (aBw 8 aNil)) aNil))) (aE (rLst (aE (rFz 10) (aE (rFz 10) aNil))) aNil))))) (rV (vOp dNeX (vB dRepr (vCons (vVar 8) vNil)) (vVar 9)))) (mRet (rV (vC (.bl false)))) mNx) (mSeq (mDo (rMtV uClr 7 pN vNil)) (mSeq (mIf (rOr (rNot (rCallB (f_law_same_v2 4) [] (aE (rCallB (f_opens) [] (aBw 8 aNil)) (aBw 10 aNil)))) (rV (vOp dNeX (vB dRepr (vCons (vVar 8) vNil)) (vVar 9)))) (mRet (rV (vC (.bl false)))) mNx) (mSeq (mDo (rMtV uRev 8 (pIx 8 pN (vC (.int 1))) vNil)) (mIf (rNot (rCall (f_law_same_v2 4) [] (aE (rCallB (f_opens) [] (aBw 8 aNil)) (aE (rMkV dRev (vVar 10)) aNil)))) (mRet (rV (vC (.bl false)))) mNx))))))))))))))))))))))
def m_LAW_k02_4 : MS := mFor (iR1 (aE (rV (vC (.int 4))) aNil)) (gN 3) m_LAW_k02_3
def m_LAW_k02_5 : MS := (mSeq (mAsg (rCallB (f_law_ream) [] (aBw 0 (aBw 1 aNil))) (gN 2)) m_LAW_k02_4)
def m_LAW_k02_6 : MS := mFor (iR1 (aE (rV (vB dMax2 (vCons (vC (.int 1)) (vCons (vB dMin2 (vCons (vC (.int 10)) (vCons (vB dLen (vCons (vVar 0) vNil)) vNil))) vNil)))) aNil)) (gN 1) m_LAW_k02_5
def m_LAW_k02 : MS := (mSeq m_LAW_k02_6 (mRet (rV (vC (.bl true)))))
def f_LAW_k02 : Fn := defFn 12 [false] m_LAW_k02
end PM
namespace PM
open PySem L2 PyProof.Rows DL
/-! ### the draws of k01 .. k20 -/
/-- a ream that has been leafed n times at most -/
def Ok (n : Nat) (d : D) : Prop := ∃ a b c : Int, d = .nd .lst true [.int a, .int b, .int c] ∧ 0 ≤ a ∧ 0 ≤ b ∧ b < 2 ^ 140 ∧ 0 ≤ c ∧ c ≤ n
theorem Ok.le {n m : Nat} {d : D} (h : Ok n d) (l : n ≤ m) : Ok m d := by
  obtain ⟨a, b, c, rfl, h1, h2, h3, h4, h5⟩ := h
  exact ⟨a, b, c, rfl, h1, h2, h3, h4, by omega⟩
theorem Ok.okB {n : Nat} {d : D} (h : Ok n d) : okB d = true := by
  obtain ⟨a, b, c, rfl, _⟩ := h
  rfl
theorem Ok.noObj {n : Nat} {d : D} (h : Ok n d) : noObj d = true := by
  obtain ⟨a, b, c, rfl, _⟩ := h
  rfl
theorem leaf_pos (a b c m : Int) (ha : 0 < a) (hm : 0 < m) (hm2 : m < 2 ^ 200) : f_law_leaf [.nd .lst true [.int a, .int b, .int c], .int m] = .ok (.int (a % m)) [some (.nd .lst true [.int (a / m), .int b, .int c]), none] := by
  unfold f_law_leaf
  rw [defFn_ap]
  have hl : m.natAbs.log2 < 9000 := Nat.lt_of_lt_of_le (log2_lt (k := 200) (by omega) hm2 (by omega)) (by omega)
  simp [m_law_leaf, ha, dMod_i hm, dDiv_i hm hl, ixN]
theorem leaf_neg (a b c m : Int) (ha : ¬ 0 < a) (hb0 : 0 ≤ b) (hb : b < 2 ^ 140) (hc0 : 0 ≤ c) (hc : c < 2 ^ 50) (hm : 0 < m) : ∃ r : Int, f_law_leaf [.nd .lst true [.int a, .int b, .int c], .int m] = .ok (.int r) [some (.nd .lst true [.int a, .int b, .int (c + 1)]), none] ∧ 0 ≤ r ∧ r < m := by
  have e1 := mul_s (i := 53982847) (j := c + 1) 27 51 (by omega) (by omega) (by omega) (by omega) (by omega) (by omega) (by omega)
  have e2 : dPow (.int (b + 53982847 * (c + 1))) (.int 2) = some (.int ((b + 53982847 * (c + 1)) ^ 2)) := pow_s 142 2 (by omega) (by omega) (by omega) (by omega)
  have d1 : (0 : Int) < 100000000000000000000000000000000000000037 := by omega
  have d2 : (0 : Int) < 10000000000000000000000000000000000000000103 := by omega
  generalize ek : (b + 53982847 * (c + 1)) ^ 2 = kk at *
  have q0 := Int.emod_nonneg kk (show (100000000000000000000000000000000000000037 : Int) ≠ 0 by omega)
  have q1 := Int.emod_lt_of_pos kk d1
  have er := dMod_i (x := kk) d1
  generalize kk % 100000000000000000000000000000000000000037 = k1 at *
  have e3 := mul_s (i := k1) (j := 31) 140 5 q0 (by omega) (by omega) (by omega) (by omega) (by omega) (by omega)
  have e4 := mul_s (i := 7) (j := c + 1) 3 51 (by omega) (by omega) (by omega) (by omega) (by omega) (by omega) (by omega)
  have e5 : dPow (.int (k1 * 31 + 7 * (c + 1))) (.int 3) = some (.int ((k1 * 31 + 7 * (c + 1)) ^ 3)) := pow_s 150 3 (by omega) (by omega) (by omega) (by omega)
  generalize ek2 : (k1 * 31 + 7 * (c + 1)) ^ 3 = k2 at *
  have e9 := dDiv_i (x := k2 % 10000000000000000000000000000000000000000103) (y := 1000000) (by omega) (by decide)
  refine ⟨k2 % 10000000000000000000000000000000000000000103 / 1000000 % m, ?_, Int.emod_nonneg _ (by omega), Int.emod_lt_of_pos _ hm⟩
  unfold f_law_leaf
  rw [defFn_ap]
  simp [m_law_leaf, ha, dMod_i hm, ixN, e1, e2, e3, e4, e5, er, dMod_i d2, e9, p10_41, p10_43, p10_6]
/-- one draw -/
theorem leaf {n : Nat} {d : D} (m : Int) (h : Ok n d) (hn : n < 2 ^ 40) (hm : 0 < m) (hm2 : m < 2 ^ 200) : ∃ (r : Int) (d' : D), f_law_leaf [d, .int m] = .ok (.int r) [some d', none] ∧ 0 ≤ r ∧ r < m ∧ Ok (n + 1) d' := by
  obtain ⟨a, b, c, rfl, h1, h2, h3, h4, h5⟩ := h
  by_cases z : 0 < a
  · exact ⟨_, _, leaf_pos a b c m z hm hm2, Int.emod_nonneg _ (by omega), Int.emod_lt_of_pos _ hm, _, _, _, rfl, Int.ediv_nonneg h1 (by omega), h2, h3, h4, by omega⟩
  · obtain ⟨r, e, r0, r1⟩ := leaf_neg a b c m z h2 h3 h4 (by omega) hm
    exact ⟨_, _, e, r0, r1, _, _, _, rfl, h1, h2, h3, by omega, by omega⟩
/-- a draw, as a natural number -/
theorem leafN {n : Nat} {d : D} (m : Int) (h : Ok n d) (hn : n < 2 ^ 40) (hm : 0 < m) (hm2 : m < 2 ^ 200) : ∃ (r : Nat) (d' : D), f_law_leaf [d, .int m] = .ok (.int r) [some d', none] ∧ (r : Int) < m ∧ Ok (n + 1) d' := by
  obtain ⟨r, d', e, r0, r1, o⟩ := leaf (m : Int) h hn (by omega) (by omega)
  exact ⟨r.toNat, d', by rw [Int.toNat_of_nonneg r0]; exact e, by omega, o⟩
theorem log2_of_bits {c : Int} (h : Builtin.Int.intBits c ≤ 1048576) : c.natAbs.log2 < 1048577 := by
  unfold Builtin.Int.intBits at h
  split at h
  · rename_i z
    have : c = 0 := by simpa using z
    subst this; decide
  · omega
theorem ream (ns : List Int) (hb : ∀ z ∈ ns, Builtin.Int.intBits z ≤ 1048576) (k : Nat) (hk : k < 100) : ∃ d, f_law_ream [.nd .fzl false (ns.map .int), .int k] = .ok d [none, none] ∧ Ok 0 d := by
  have d1 : (0 : Int) < 100000000000000000000000000000000000133 := by omega
  have l128 : (128 : Int).natAbs.log2 = 7 := by decide
  have e61 := mul_s (i := 61) (j := k) 6 7 (by omega) (by omega) (by omega) (by omega) (by omega) (by omega) (by omega)
  have main : ∀ c : Int, Builtin.Int.intBits c ≤ 1048576 → ∃ a b : Int, dMul (.int c) (.int 128) = some (.int (c * 128)) ∧ b = (c * 128 + 61 * k + 5) % 100000000000000000000000000000000000133 ∧ a = (if (if c < 0 then -c else c) - 1000000000000000000 > 0 then (if c < 0 then -c else c) - 1000000000000000000 else 0) ∧ 0 ≤ a ∧ 0 ≤ b ∧ b < 2 ^ 140 := by
    intro c hc
    have q0 := Int.emod_nonneg (c * 128 + 61 * k + 5) (show (100000000000000000000000000000000000133 : Int) ≠ 0 by omega)
    have q1 := Int.emod_lt_of_pos (c * 128 + 61 * k + 5) d1
    refine ⟨_, _, dMul_i (by have := log2_of_bits hc; omega), rfl, rfl, ?_, q0, by omega⟩
    split <;> omega
  by_cases h : k < ns.length
  · obtain ⟨a, b, e1, eb, ea, h1, h2, h3⟩ := main ns[k] (hb _ (List.getElem_mem h))
    have hat := atG h
    have hlt : (k : Int) < (ns.length : Int) := by omega
    refine ⟨_, ?_, a, b, 0, rfl, h1, h2, h3, by omega, by omega⟩
    unfold f_law_ream
    rw [defFn_ap]
    have := dMod_i (x := ns[k] * 128 + 61 * k + 5) d1
    rw [← eb] at this
    simp [m_law_ream, p10_18, p10_38, hat, hlt, e1, e61, h, dAbs, this, ea]
  · obtain ⟨a, b, e1, eb, ea, h1, h2, h3⟩ := main 0 (by decide)
    have hlt : ¬ (k : Int) < (ns.length : Int) := by omega
    refine ⟨_, ?_, a, b, 0, rfl, h1, h2, h3, by omega, by omega⟩
    unfold f_law_ream
    rw [defFn_ap]
    have := dMod_i (x := 0 * 128 + 61 * (k : Int) + 5) d1
    rw [← eb] at this
    simp at e1 ea this
    simp [m_law_ream, p10_18, p10_38, hlt, e1, e61, h, dAbs, this, ea]
end PM
namespace PM
open PySem L2 PyProof.Rows DL
/-! ### the draws of k21 .. k46 -/
theorem snip_pos (a b c m : Int) (ha : 0 < a) (hm : 0 < m) (hm2 : m < 2 ^ 200) : f_law_snip [.nd .lst true [.int a, .int b, .int c], .int m] = .ok (.int (a % m)) [some (.nd .lst true [.int (a / m), .int b, .int c]), none] := by
  unfold f_law_snip
  rw [defFn_ap]
  have hl : m.natAbs.log2 < 9000 := Nat.lt_of_lt_of_le (log2_lt (k := 200) (by omega) hm2 (by omega)) (by omega)
  simp [m_law_snip, ha, dMod_i hm, dDiv_i hm hl, ixN]
theorem snip_neg (a b c m : Int) (ha : ¬ 0 < a) (hb0 : 0 ≤ b) (hb : b < 2 ^ 140) (hc0 : 0 ≤ c) (hc : c < 2 ^ 50) (hm : 0 < m) : ∃ r : Int, f_law_snip [.nd .lst true [.int a, .int b, .int c], .int m] = .ok (.int r) [some (.nd .lst true [.int a, .int b, .int (c + 1)]), none] ∧ 0 ≤ r ∧ r < m := by
  have e1 := mul_s (i := b) (j := 65537) 140 17 hb0 hb (by omega) (by omega) (by omega) (by omega) (by omega)
  have e2 := mul_s (i := 104729) (j := c + 1) 17 51 (by omega) (by omega) (by omega) (by omega) (by omega) (by omega) (by omega)
  have e3 : dPow (.int (b * 65537 + 104729 * (c + 1))) (.int 3) = some (.int ((b * 65537 + 104729 * (c + 1)) ^ 3)) := pow_s 158 3 (by omega) (by omega) (by omega) (by omega)
  have e6 : dPow (.int (c + 1)) (.int 2) = some (.int ((c + 1) ^ 2)) := pow_s 51 2 (by omega) (by omega) (by omega) (by omega)
  have p1 : (c + 1) ^ 2 < 2 ^ 102 := by
    have h1 : (c + 1) * (c + 1) ≤ 2 ^ 50 * 2 ^ 50 := Int.mul_le_mul (by omega) (by omega) (by omega) (by omega)
    rw [Int.pow_succ, Int.pow_succ, Int.pow_zero, Int.one_mul]; omega
  have p0 : 0 ≤ (c + 1) ^ 2 := by
    have h1 : 0 ≤ (c + 1) * (c + 1) := Int.mul_nonneg (by omega) (by omega)
    rw [Int.pow_succ, Int.pow_succ, Int.pow_zero, Int.one_mul]; exact h1
  have e7 := mul_s (i := 7919) (j := (c + 1) ^ 2) 13 102 (by omega) (by omega) p0 p1 (by omega) (by omega) (by omega)
  generalize (c + 1) ^ 2 = cc at *
  have d1 : (0 : Int) < 100000000000000000000000000000000000133 := by omega
  have d2 : (0 : Int) < 10000000000000000000000000000000000000121 := by omega
  generalize ek : (b * 65537 + 104729 * (c + 1)) ^ 3 = kk at *
  have q0 := Int.emod_nonneg kk (show (100000000000000000000000000000000000133 : Int) ≠ 0 by omega)
  have q1 := Int.emod_lt_of_pos kk d1
  have er := dMod_i (x := kk) d1
  generalize kk % 100000000000000000000000000000000000133 = k1 at *
  have e8 : dPow (.int (k1 + 7919 * cc)) (.int 3) = some (.int ((k1 + 7919 * cc) ^ 3)) := pow_s 130 3 (by omega) (by omega) (by omega) (by omega)
  generalize ek2 : (k1 + 7919 * cc) ^ 3 = k2 at *
  have e9 := dDiv_i (x := k2 % 10000000000000000000000000000000000000121) (y := 1299709) (by omega) (by decide)
  refine ⟨k2 % 10000000000000000000000000000000000000121 / 1299709 % m, ?_, Int.emod_nonneg _ (by omega), Int.emod_lt_of_pos _ hm⟩
  unfold f_law_snip
  rw [defFn_ap]
  simp [m_law_snip, ha, dMod_i hm, ixN, e1, e2, e3, p10_38, p10_40, e6, e7, er, dMod_i d2, e8, e9]
/-- one draw -/
theorem snip {n : Nat} {d : D} (m : Int) (h : Ok n d) (hn : n < 2 ^ 40) (hm : 0 < m) (hm2 : m < 2 ^ 200) : ∃ (r : Int) (d' : D), f_law_snip [d, .int m] = .ok (.int r) [some d', none] ∧ 0 ≤ r ∧ r < m ∧ Ok (n + 1) d' := by
  obtain ⟨a, b, c, rfl, h1, h2, h3, h4, h5⟩ := h
  by_cases z : 0 < a
  · exact ⟨_, _, snip_pos a b c m z hm hm2, Int.emod_nonneg _ (by omega), Int.emod_lt_of_pos _ hm, _, _, _, rfl, Int.ediv_nonneg h1 (by omega), h2, h3, h4, by omega⟩
  · obtain ⟨r, e, r0, r1⟩ := snip_neg a b c m z h2 h3 h4 (by omega) hm
    exact ⟨_, _, e, r0, r1, _, _, _, rfl, h1, h2, h3, by omega, by omega⟩
/-- a draw, as a natural number -/
theorem snipN {n : Nat} {d : D} (m : Int) (h : Ok n d) (hn : n < 2 ^ 40) (hm : 0 < m) (hm2 : m < 2 ^ 200) : ∃ (r : Nat) (d' : D), f_law_snip [d, .int m] = .ok (.int r) [some d', none] ∧ (r : Int) < m ∧ Ok (n + 1) d' := by
  obtain ⟨r, d', e, r0, r1, o⟩ := snip (m : Int) h hn (by omega) (by omega)
  exact ⟨r.toNat, d', by rw [Int.toNat_of_nonneg r0]; exact e, by omega, o⟩
theorem ribbon (ns : List Int) (k : Nat) (hk : k < 100) : ∃ d, f_law_ribbon [.nd .fzl false (ns.map .int), .int k] = .ok d [none, none] ∧ Ok 0 d := by
  have d1 : (0 : Int) < 1000000000000000000000000000000000067 := by omega
  have main : ∀ c : Int, ∃ a b : Int, dMul (.int (c % 1000000000000000000000000000000000067)) (.int 16) = some (.int (c % 1000000000000000000000000000000000067 * 16)) ∧ b = c % 1000000000000000000000000000000000067 * 16 + k + 9 ∧ a = (if c - 1000000000000000000 > 0 then c - 1000000000000000000 else 0) ∧ 0 ≤ a ∧ 0 ≤ b ∧ b < 2 ^ 140 := by
    intro c
    have q0 := Int.emod_nonneg c (show (1000000000000000000000000000000000067 : Int) ≠ 0 by omega)
    have q1 := Int.emod_lt_of_pos c d1
    refine ⟨_, _, mul_s 120 5 q0 (by omega) (by omega) (by omega) (by omega) (by omega) (by omega), rfl, rfl, ?_, by omega, by omega⟩
    split <;> omega
  by_cases h : k < ns.length
  · obtain ⟨a, b, e1, rfl, rfl, h1, h2, h3⟩ := main ns[k]
    refine ⟨_, ?_, _, _, 0, rfl, h1, h2, h3, by omega, by omega⟩
    have hat := atG h
    have hlt : (k : Int) < (ns.length : Int) := by omega
    unfold f_law_ribbon
    rw [defFn_ap]
    simp [m_law_ribbon, p10_18, p10_36, dMod_i d1, hat, hlt, e1, h]
  · obtain ⟨a, b, e1, rfl, rfl, h1, h2, h3⟩ := main 0
    refine ⟨_, ?_, _, _, 0, rfl, h1, h2, h3, by omega, by omega⟩
    have hlt : ¬ (k : Int) < (ns.length : Int) := by omega
    unfold f_law_ribbon
    rw [defFn_ap]
    simp at e1
    simp [m_law_ribbon, p10_18, p10_36, dMod_i d1, hlt, e1, h]
end PM
namespace PM
open PySem L2 PyProof.Rows DL
/-- pages of marks -/
structure Up (ms : List Int) : Prop where
  ne : 0 < ms.length
  le : ms.length ≤ 12
  nn : ∀ i ∈ ms, 0 ≤ i
  up : ms.Pairwise (· < ·)
def Bd (B : Int) (ms : List Int) : Prop := ∀ i ∈ ms, i ≤ B
/-- a stand -/
structure St (ms : List Int) (cs : List Nat) : Prop where
  m : Up ms
  ne : 0 < cs.length
  le : cs.length ≤ 12
  lt : ∀ c ∈ cs, c < ms.length
abbrev sd (o : Bool) (ms : List Int) (cs : List Nat) : D := .nd .tup false [il o ms, il o (nI cs)]
theorem pick4 {r : Int} (h0 : 0 ≤ r) (h1 : r < 4) (a b c d : D) : ∃ x, L2.atI [a, b, c, d] r = some x ∧ (x = a ∨ x = b ∨ x = c ∨ x = d) := by
  have : r = 0 ∨ r = 1 ∨ r = 2 ∨ r = 3 := by omega
  rcases this with rfl | rfl | rfl | rfl
  · exact ⟨a, rfl, by simp⟩
  · exact ⟨b, rfl, by simp⟩
  · exact ⟨c, rfl, by simp⟩
  · exact ⟨d, rfl, by simp⟩
theorem pick3 {r : Int} (h0 : 0 ≤ r) (h1 : r < 3) (a b c : D) : ∃ x, L2.atI [a, b, c] r = some x ∧ (x = a ∨ x = b ∨ x = c) := by
  have : r = 0 ∨ r = 1 ∨ r = 2 := by omega
  rcases this with rfl | rfl | rfl
  · exact ⟨a, rfl, by simp⟩
  · exact ⟨b, rfl, by simp⟩
  · exact ⟨c, rfl, by simp⟩
theorem slips_turn {n : Nat} {d : D} (h : Ok n d) (hn : n < 2 ^ 30) (lean : Int) (l0 : 0 ≤ lean) (l1 : lean < 4) (v1 v3 v6 : Option D) (page : Int) (ms : List Int) (hl : ms.length < 1000) :
    ∃ d' page', m_law_slips_1 [some d, v1, some (.int lean), v3, some (.int page), some (il true ms), v6] = .nx [some d', v1, some (.int lean), v3, some (.int page'), some (il true (ms ++ [page])), v6] ∧ Ok (n + 3) d' ∧ page < page' ∧ page' ≤ page + 10000000000000000000000000000 := by
  obtain ⟨r1, d1, e1, a1, b1, o1⟩ := leaf 3 h (by omega) (by omega) (by omega)
  obtain ⟨r2, d2, e2, a2, b2, o2⟩ := leaf 50 o1 (by omega) (by omega) (by omega)
  obtain ⟨r3, d3, e3, a3, b3, o3⟩ := leaf 10000000000000000000000000000 o2 (by omega) (by omega) (by omega)
  obtain ⟨x, ex, hx⟩ := pick4 l0 l1 (.int 1) (.int (1 + r1)) (.int (1 + r2)) (.int (1 + r3))
  have e4 : uApp (ms.map D.int) [.int page] = some (.non, (ms ++ [page]).map .int) := by
    rw [app_s (by simp; omega)]; simp
  have fin : ∀ y : Int, x = .int y → m_law_slips_1 [some d, v1, some (.int lean), v3, some (.int page), some (il true ms), v6] = .nx [some d3, v1, some (.int lean), v3, some (.int (page + y)), some (il true (ms ++ [page])), v6] := by
    intro y hy
    subst hy
    simp -implicitDefEqProofs [m_law_slips_1, e1, e2, e3, e4, ex, p10_28, -List.map_append]
  refine ⟨d3, ?_⟩
  rcases hx with rfl | rfl | rfl | rfl <;> exact ⟨_, fin _ rfl, o3, by omega, by omega⟩
/-- drawn marks -/
theorem slips {n : Nat} {d : D} (h : Ok n d) (hn : n < 2 ^ 29) (most : Nat) (m0 : 0 < most) (m1 : most ≤ 12) :
    ∃ d' ms, f_law_slips [d, .int most] = .ok (il true ms) [some d', none] ∧ Ok (n + 50) d' ∧ Up ms ∧ ms.length ≤ most ∧ Bd 2000000000000000000000000000000 ms := by
  obtain ⟨lean, d1, e1, a1, b1, o1⟩ := leaf 4 h (by omega) (by omega) (by omega)
  obtain ⟨many, d2, e2, b2, o2⟩ := leafN (most : Int) o1 (by omega) (by omega) (by omega)
  obtain ⟨r3, d3, e3, a3, b3, o3⟩ := leaf 6 o2 (by omega) (by omega) (by omega)
  obtain ⟨r4, d4, e4, a4, b4, o4⟩ := leaf 10000000000000000000000000000 o3 (by omega) (by omega) (by omega)
  obtain ⟨r5, d5, e5, a5, b5, o5⟩ := leaf 3 o4 (by omega) (by omega) (by omega)
  obtain ⟨r6, d6, e6, a6, b6, o6⟩ := leaf 8 o5 (by omega) (by omega) (by omega)
  obtain ⟨x, ex, hx⟩ := pick3 a5 b5 (.int 0) (.int r3) (.int r4)
  obtain ⟨p0, rfl, q0, q1⟩ : ∃ p0 : Int, x = .int p0 ∧ 0 ≤ p0 ∧ p0 < 10000000000000000000000000000 := by
    rcases hx with rfl | rfl | rfl
    · exact ⟨_, rfl, by omega, by omega⟩
    · exact ⟨_, rfl, by omega, by omega⟩
    · exact ⟨_, rfl, by omega, by omega⟩
  -- the loop, from any page and lean
  have loop : ∀ (lean page : Int), 0 ≤ lean → lean < 4 → 0 ≤ page → page ≤ 1000000000000000000000000000000 → ∃ d' ms v4 v6, mLoop (gN 6) m_law_slips_1 (rgD 0 (1 + (many : Int))) [some d6, some (.int most), some (.int lean), some (.int (1 + (many : Int))), some (.int page), some (.nd .lst true []), none] = .nx [some d', some (.int most), some (.int lean), some (.int (1 + (many : Int))), v4, some (il true ms), v6] ∧ Ok (n + 6 + 3 * (1 + many)) d' ∧ Up ms ∧ ms.length = 1 + many ∧ Bd 2000000000000000000000000000000 ms := by
    intro lean page l0 l1 g0 g1
    obtain ⟨ρ', el, ⟨d', page', ms, v6, rfl, k1, k2, k3, k4, k5, k6⟩⟩ := loop_nx (m := gN 6) (b := m_law_slips_1) (fun i ρ => ∃ d' page' ms v6, ρ = [some d', some (.int most), some (.int lean), some (.int (1 + (many : Int))), some (.int page'), some (il true ms), v6] ∧ Ok (n + 6 + 3 * i) d' ∧ ms.length = i ∧ (∀ z ∈ ms, 0 ≤ z ∧ z < page') ∧ ms.Pairwise (· < ·) ∧ 0 ≤ page' ∧ page' ≤ 1000000000000000000000000000000 + i * 10000000000000000000000000000)
      (rgD 0 (1 + (many : Int))) 0 [some d6, some (.int most), some (.int lean), some (.int (1 + (many : Int))), some (.int page), some (.nd .lst true []), none] ⟨d6, page, [], none, rfl, o6, rfl, by simp, .nil, g0, by omega⟩ (by
        rintro i dd ρ hd ⟨d', page', ms, v6, rfl, k1, k2, k3, k4, k5, k6⟩
        have hi := rgD_at hd
        obtain ⟨d'', page'', e, o, lt, le⟩ := slips_turn k1 (by omega) lean l0 l1 (some (.int most)) (some (.int (1 + (many : Int)))) (some dd) page' ms (by omega)
        refine ⟨_, _, rfl, e, d'', page'', ms ++ [page'], some dd, rfl, o.le (by omega), by simp; omega, ?_, ?_, by omega, by push_cast; omega⟩
        · intro z hz
          rcases List.mem_append.mp hz with hz | hz
          · have := k3 z hz; omega
          · rw [List.mem_singleton.mp hz]; omega
        · rw [List.pairwise_append]
          refine ⟨k4, List.pairwise_singleton .., fun a ha b hb => ?_⟩
          rw [List.mem_singleton.mp hb]; exact (k3 a ha).2)
    rw [rgD_len] at k1 k2 k6
    have hl : (0 + (1 + (many : Int) - 0).toNat) = 1 + many := by omega
    rw [hl] at k1 k2 k6
    refine ⟨d', ms, _, v6, el, k1, ⟨by omega, by omega, fun z hz => (k3 z hz).1, k4⟩, k2, fun z hz => ?_⟩
    have := (k3 z hz).2
    omega
  have e7 : ∀ ρ, iR1V ρ (some [.int (1 + (many : Int))]) = some (rgD 0 (1 + (many : Int)), ρ) := fun ρ => iR1V_s (by omega) (by omega)
  by_cases z : r6 = 0
  · subst z
    have pm : dMin2 [.int lean, .int 1] = some (.int (if (1 : Int) < lean then 1 else lean)) := rfl
    obtain ⟨d', ms, v4, v6, el, k1, k2, k3, k4⟩ := loop (if (1 : Int) < lean then 1 else lean) (1000000000000000000000000000000 - 36) (by split <;> omega) (by split <;> omega) (by omega) (by omega)
    refine ⟨d', ms, ?_, k1.le (by omega), k2, by omega, k4⟩
    unfold f_law_slips
    rw [defFn_ap]
    generalize (if (1 : Int) < lean then 1 else lean) = ll at *
    simp at el
    simp -implicitDefEqProofs [m_law_slips, m_law_slips_2, o2.okB, e1, e2, e3, e4, e5, e6, p10_28, p10_30, ex, e7, el, -dMin2_i, pm]
  · obtain ⟨d', ms, v4, v6, el, k1, k2, k3, k4⟩ := loop lean p0 a1 b1 q0 (by omega)
    refine ⟨d', ms, ?_, k1.le (by omega), k2, by omega, k4⟩
    unfold f_law_slips
    rw [defFn_ap]
    simp -implicitDefEqProofs [m_law_slips, m_law_slips_2, o2.okB, e1, e2, e3, e4, e5, e6, p10_28, p10_30, ex, e7, el, z]
end PM
namespace PM
open PySem L2 PyProof.Rows DL
/-! ### ends of statements and expressions -/
def Nx (r : Ou) (P : DL.Env → Prop) : Prop := match r with
  | .nx ρ => P ρ
  | _ => False
@[simp] theorem Nx_nx (ρ : DL.Env) (P : DL.Env → Prop) : Nx (.nx ρ) P = P ρ := rfl
theorem Nx.get {r : Ou} {P : DL.Env → Prop} (h : Nx r P) : ∃ ρ, r = .nx ρ ∧ P ρ := by
  cases r with
  | nx ρ => exact ⟨ρ, rfl, h⟩
  | _ => exact h.elim
/-- an expression that gives v and leaves ρ0, its own slots aside -/
def Ev (r : Re) (v : D) (own : List Nat) (ρ0 : DL.Env) : Prop := match r with
  | .ok w ρ => w = v ∧ wipE ρ own = ρ0
  | _ => False
@[simp] theorem Ev_ok (w v : D) (own : List Nat) (ρ ρ0 : DL.Env) : Ev (.ok w ρ) v own ρ0 = (w = v ∧ wipE ρ own = ρ0) := rfl
theorem Ev.get {r : Re} {v : D} {own : List Nat} {ρ0 : DL.Env} (h : Ev r v own ρ0) : ∃ ρ, r = .ok v ρ ∧ wipE ρ own = ρ0 := by
  cases r with
  | ok w ρ => obtain ⟨rfl, h⟩ := h; exact ⟨ρ, rfl, h⟩
  | _ => exact h.elim
/-- an expression that gives what P asks -/
def Os (r : Re) (P : D → DL.Env → Prop) : Prop := match r with
  | .ok w ρ => P w ρ
  | _ => False
@[simp] theorem Os_ok (w : D) (ρ : DL.Env) (P : D → DL.Env → Prop) : Os (.ok w ρ) P = P w ρ := rfl
theorem Os.get {r : Re} {P : D → DL.Env → Prop} (h : Os r P) : ∃ w ρ, r = .ok w ρ ∧ P w ρ := by
  cases r with
  | ok w ρ => exact ⟨w, ρ, rfl, h⟩
  | _ => exact h.elim
/-! ### loops -/
theorem loop_I {m : MG} {b : MS} (I : Nat → DL.Env → Prop) (ds : List D) (ρ : DL.Env) (h : I 0 ρ) (st : ∀ i d ρ, ds[i]? = some d → I i ρ → ∃ ρ1, m d ρ = some ρ1 ∧ Nx (b ρ1) (I (i + 1))) : ∃ ρ', mLoop m b ds ρ = .nx ρ' ∧ I ds.length ρ' := by
  obtain ⟨ρ', e, h'⟩ := loop_nx (m := m) (b := b) I ds 0 ρ h fun i d ρ hd hi => by
    rw [Nat.zero_add] at hi
    obtain ⟨ρ1, e1, e2⟩ := st i d ρ hd hi
    obtain ⟨ρ2, e3, e4⟩ := e2.get
    rw [Nat.zero_add]
    exact ⟨ρ1, ρ2, e1, e3, e4⟩
  rw [Nat.zero_add] at h'
  exact ⟨ρ', e, h'⟩
/-- a loop that may end with a word told -/
theorem loop_rt {m : MG} {b : MS} (I : Nat → DL.Env → Prop) (R : D → Prop) : ∀ (ds : List D) (i0 : Nat) (ρ : DL.Env), I i0 ρ → (∀ i d ρ, ds[i]? = some d → I (i0 + i) ρ → ∃ ρ1, m d ρ = some ρ1 ∧ ((∃ ρ2, (b ρ1 = .nx ρ2 ∨ b ρ1 = .ct ρ2) ∧ I (i0 + i + 1) ρ2) ∨ ∃ w ρ2, b ρ1 = .rt w ρ2 ∧ R w)) →
    (∃ ρ', mLoop m b ds ρ = .nx ρ' ∧ I (i0 + ds.length) ρ') ∨ ∃ w ρ', mLoop m b ds ρ = .rt w ρ' ∧ R w
  | [], i0, ρ, h, _ => .inl ⟨ρ, rfl, h⟩
  | d :: ds, i0, ρ, h, st => by
    obtain ⟨ρ1, e1, h2⟩ := st 0 d ρ rfl h
    have eq : mLoop m b (d :: ds) ρ = (match b ρ1 with | .nx ρ2 => mLoop m b ds ρ2 | .ct ρ2 => mLoop m b ds ρ2 | .bk ρ2 => .nx ρ2 | .rt d ρ2 => .rt d ρ2 | .ex e ρ2 => .ex e ρ2 | .no => .no) := by
      show (match m d ρ with | none => Ou.no | some ρ1 => (match b ρ1 with | .nx ρ2 => mLoop m b ds ρ2 | .ct ρ2 => mLoop m b ds ρ2 | .bk ρ2 => .nx ρ2 | .rt d ρ2 => .rt d ρ2 | .ex e ρ2 => .ex e ρ2 | .no => .no)) = _
      rw [e1]
    rcases h2 with ⟨ρ2, e2, h2⟩ | ⟨w, ρ2, e2, h2⟩
    · have rc := loop_rt I R ds (i0 + 1) ρ2 h2 fun i d ρ e hi => by
        have := st (i + 1) d ρ (by simpa using e) (by rw [show i0 + (i + 1) = i0 + 1 + i by omega]; exact hi)
        rw [show i0 + (i + 1) + 1 = i0 + 1 + i + 1 by omega] at this
        exact this
      have e3 : mLoop m b (d :: ds) ρ = mLoop m b ds ρ2 := by
        rw [eq]
        rcases e2 with e2 | e2 <;> rw [e2]
      rw [e3, show i0 + (d :: ds).length = i0 + 1 + ds.length by simp; omega]
      exact rc
    · exact .inr ⟨w, ρ2, by rw [eq, e2], h2⟩
theorem while_go {c : ME} {b : MS} {n : Nat} {ρ ρ1 ρ2 : DL.Env} (hc : c ρ = .ok (.bl true) ρ1) (hb : b ρ1 = .nx ρ2) : mWhile c b (n + 1) ρ = mWhile c b n ρ2 := by
  show (match c ρ with | .ok (.bl true) ρ1 => (match b ρ1 with | .nx ρ2 => mWhile c b n ρ2 | .ct ρ2 => mWhile c b n ρ2 | .bk ρ2 => .nx ρ2 | .rt d ρ2 => .rt d ρ2 | .ex e ρ2 => .ex e ρ2 | .no => .no) | .ok (.bl false) ρ1 => .nx ρ1 | .ok _ _ => .no | .ex e ρ1 => .ex e ρ1 | .no => Ou.no) = _
  rw [hc]
  dsimp only
  rw [hb]
theorem while_stop {c : ME} {b : MS} {n : Nat} {ρ ρ1 : DL.Env} (hc : c ρ = .ok (.bl false) ρ1) : mWhile c b (n + 1) ρ = .nx ρ1 := by
  show (match c ρ with | .ok (.bl true) ρ1 => (match b ρ1 with | .nx ρ2 => mWhile c b n ρ2 | .ct ρ2 => mWhile c b n ρ2 | .bk ρ2 => .nx ρ2 | .rt d ρ2 => .rt d ρ2 | .ex e ρ2 => .ex e ρ2 | .no => .no) | .ok (.bl false) ρ1 => .nx ρ1 | .ok _ _ => .no | .ex e ρ1 => .ex e ρ1 | .no => Ou.no) = _
  rw [hc]
/-! ### comprehensions -/
theorem rLc_eq {own : List Nat} {f : MI} {m : MG} {tt te : ME} {ρ ρ1 ρ2 : DL.Env} {ds : List D} {v : D} (hf : f ρ = some (ds, ρ1)) (hl : ds.length ≤ 16777216) (h : lcGo own m tt te ds [] (wipE ρ1 own) = .ok v ρ2) : rLc own f m tt te ρ = .ok v (resE ρ2 ρ1 own) := by
  rw [rLc_ap, hf, lcK_s (by rw [szl]; exact hl), h]; rfl
/-- each thing mapped -/
theorem rLc_map {own : List Nat} {f : MI} {m : MG} {te : ME} {ρ ρ1 : DL.Env} {ds : List D} (g : D → D) (hf : f ρ = some (ds, ρ1)) (hl : ds.length ≤ 16777216) (h : ∀ d ∈ ds, ∃ ρa, m d (wipE ρ1 own) = some ρa ∧ wipE ρa own = wipE ρ1 own ∧ Ev (te ρa) (g d) own (wipE ρ1 own)) :
    rLc own f m rYes te ρ = .ok (.nd .lst true (ds.map g)) (resE (wipE ρ1 own) ρ1 own) := by
  refine rLc_eq hf hl ?_
  have := lc_m (own := own) (m := m) (te := te) (ρ := wipE ρ1 own) g ds [] fun d hd => by
    obtain ⟨ρa, e1, e2, e3⟩ := h d hd
    obtain ⟨ρb, e4, e5⟩ := e3.get
    exact ⟨ρa, ρb, e1, e2, e4, e5⟩
  simpa using this
/-- some things mapped -/
theorem rLc_fm {own : List Nat} {f : MI} {m : MG} {tt te : ME} {ρ ρ1 : DL.Env} {ds : List D} (p : D → Bool) (g : D → D) (hf : f ρ = some (ds, ρ1)) (hl : ds.length ≤ 16777216) (h : ∀ d ∈ ds, ∃ ρa, m d (wipE ρ1 own) = some ρa ∧ ∃ ρb, tt ρa = .ok (.bl (p d)) ρb ∧ wipE ρb own = wipE ρ1 own ∧ (p d = true → Ev (te ρb) (g d) own (wipE ρ1 own))) :
    rLc own f m tt te ρ = .ok (.nd .lst true ((ds.filter p).map g)) (resE (wipE ρ1 own) ρ1 own) := by
  refine rLc_eq hf hl ?_
  have := lc_fm (own := own) (m := m) (tt := tt) (te := te) (ρ := wipE ρ1 own) p g ds [] fun d hd => by
    obtain ⟨ρa, e1, ρb, e2, e3, e4⟩ := h d hd
    refine ⟨ρa, ρb, e1, e2, e3, fun hp => ?_⟩
    obtain ⟨ρc, e5, e6⟩ := (e4 hp).get
    exact ⟨ρc, e5, e6⟩
  simpa using this
/-- a comprehension that changes names on its way -/
theorem lc_I {own : List Nat} {m : MG} {te : ME} (I : Nat → List D → DL.Env → Prop) : ∀ (ds : List D) (i0 : Nat) (acc : List D) (ρ : DL.Env), I i0 acc ρ → (∀ i d acc ρ, ds[i]? = some d → I (i0 + i) acc ρ → ∃ ρa, m d ρ = some ρa ∧ Os (te ρa) fun v ρ2 => I (i0 + i + 1) (acc ++ [v]) (wipE ρ2 own)) →
    ∃ acc' ρ', lcGo own m rYes te ds acc ρ = .ok (.nd .lst true acc') ρ' ∧ I (i0 + ds.length) acc' ρ'
  | [], i0, acc, ρ, h, _ => ⟨acc, ρ, rfl, h⟩
  | d :: ds, i0, acc, ρ, h, st => by
    obtain ⟨ρa, e1, h2⟩ := st 0 d acc ρ rfl h
    obtain ⟨v, ρ2, e2, h3⟩ := h2.get
    obtain ⟨acc', ρ', e3, h4⟩ := lc_I I ds (i0 + 1) (acc ++ [v]) (wipE ρ2 own) h3 fun i d acc ρ e hi => by
      have := st (i + 1) d acc ρ (by simpa using e) (by rw [show i0 + (i + 1) = i0 + 1 + i by omega]; exact hi)
      rw [show i0 + (i + 1) + 1 = i0 + 1 + i + 1 by omega] at this
      exact this
    refine ⟨acc', ρ', ?_, by rw [show i0 + (d :: ds).length = i0 + 1 + ds.length by simp; omega]; exact h4⟩
    rw [← e3]
    show (match m d ρ with | some ρ1 => (match rYes ρ1 with | .ok (.bl true) ρ2 => (match te ρ2 with | .ok v ρ3 => lcGo own m rYes te ds (acc ++ [v]) (wipE ρ3 own) | _ => .no) | .ok (.bl false) ρ2 => lcGo own m rYes te ds acc (wipE ρ2 own) | _ => .no) | none => Re.no) = _
    rw [e1]
    show (match te ρa with | .ok v ρ3 => lcGo own m rYes te ds (acc ++ [v]) (wipE ρ3 own) | _ => Re.no) = _
    rw [e2]
theorem rLc_I {own : List Nat} {f : MI} {m : MG} {te : ME} {ρ ρ1 : DL.Env} {ds : List D} (I : Nat → List D → DL.Env → Prop) (hf : f ρ = some (ds, ρ1)) (hl : ds.length ≤ 16777216) (h0 : I 0 [] (wipE ρ1 own)) (st : ∀ i d acc ρ, ds[i]? = some d → I i acc ρ → ∃ ρa, m d ρ = some ρa ∧ Os (te ρa) fun v ρ2 => I (i + 1) (acc ++ [v]) (wipE ρ2 own)) :
    ∃ xs ρ', rLc own f m rYes te ρ = .ok (.nd .lst true xs) (resE ρ' ρ1 own) ∧ I ds.length xs ρ' := by
  obtain ⟨xs, ρ', e, h⟩ := lc_I I ds 0 [] (wipE ρ1 own) h0 fun i d acc ρ hd hi => by
    rw [Nat.zero_add] at hi
    rw [Nat.zero_add]
    exact st i d acc ρ hd hi
  rw [Nat.zero_add] at h
  exact ⟨xs, ρ', rLc_eq hf hl e, h⟩
theorem dAll_map {α : Type} (o : Bool) (xs : List α) (p : α → Bool) : dAll [.nd .lst o (xs.map fun x => .bl (p x))] = some (.bl (xs.all p)) := by
  show (blsD _).map _ = _
  have : xs.map (fun x => D.bl (p x)) = (xs.map p).map D.bl := by rw [List.map_map]; rfl
  rw [this, bls_of]
  simp
end PM
namespace PM
open PySem L2 PyProof.Rows DL
/-! ### plain things, whatever they are -/
mutual
def Pl : D → Bool
  | .nd .lst _ xs => Pls xs
  | .nd .tup _ xs => Pls xs
  | .nd (.dct _) _ xs => Pls xs
  | .nd (.dtt _) _ xs => Pls xs
  | .nd .fzl _ _ => false
  | .nd (.obj _ _) _ _ => false
  | .nd (.exn _ _) _ _ => false
  | _ => true
def Pls : List D → Bool
  | [] => true
  | d :: ds => Pl d && Pls ds
end
mutual
theorem Pl.noObj : ∀ d : D, Pl d = true → DL.noObj d = true
  | .non, _ => rfl
  | .bl _, _ => rfl
  | .int _, _ => rfl
  | .str _, _ => rfl
  | .nd .lst _ xs, h => Pls.noObjs xs h
  | .nd .tup _ xs, h => Pls.noObjs xs h
  | .nd (.dct _) _ xs, h => Pls.noObjs xs h
  | .nd (.dtt _) _ xs, h => Pls.noObjs xs h
  | .nd .fzl _ _, h => by cases h
  | .nd (.obj _ _) _ _, h => by cases h
  | .nd (.exn _ _) _ _, h => by cases h
theorem Pls.noObjs : ∀ ds : List D, Pls ds = true → DL.noObjs ds = true
  | [], _ => rfl
  | d :: ds, h => by
    have h : (Pl d && Pls ds) = true := h
    rw [Bool.and_eq_true] at h
    show (DL.noObj d && DL.noObjs ds) = true
    rw [Pl.noObj d h.1, Pls.noObjs ds h.2]; rfl
end
mutual
theorem Pl.frz : ∀ d : D, Pl (DL.frz d) = Pl d
  | .non => rfl
  | .bl _ => rfl
  | .int _ => rfl
  | .str _ => rfl
  | .nd .lst _ xs => Pls.frzs xs
  | .nd .tup _ xs => Pls.frzs xs
  | .nd (.dct _) _ xs => Pls.frzs xs
  | .nd (.dtt _) _ xs => Pls.frzs xs
  | .nd .fzl _ _ => rfl
  | .nd (.obj _ _) _ _ => rfl
  | .nd (.exn _ _) _ _ => rfl
theorem Pls.frzs : ∀ ds : List D, Pls (DL.frzs ds) = Pls ds
  | [] => rfl
  | d :: ds => by
    show (Pl (DL.frz d) && Pls (DL.frzs ds)) = (Pl d && Pls ds)
    rw [Pl.frz d, Pls.frzs ds]
end
theorem Pls.mem {ds : List D} (h : Pls ds = true) : ∀ d ∈ ds, Pl d = true := by
  induction ds with
  | nil => intro d hd; cases hd
  | cons x r ih =>
    have h : (Pl x && Pls r) = true := h
    rw [Bool.and_eq_true] at h
    intro d hd
    rcases List.mem_cons.mp hd with rfl | hd
    · exact h.1
    · exact ih h.2 d hd
theorem Pls.ints (x : List Int) : Pls (x.map D.int) = true := by
  induction x with
  | nil => rfl
  | cons a r ih => show (Pl (.int a) && Pls (r.map D.int)) = true; rw [ih]; rfl
/-- a whole number from l on, to m where it is told -/
def wh (d : D) (l : Int) (m : D) : Bool := match d with
  | .int i => decide (l ≤ i) && (match m with | .int m => decide (i ≤ m) | _ => true)
  | _ => false
theorem wh_frz (d : D) (l : Int) (m : D) : wh (frz d) l m = wh d l m := by
  cases d <;> rfl
theorem whole (d : D) (h : Pl d = true) (l : Int) (m : D) (hm : m = .non ∨ ∃ j : Int, m = .int j) : f_is_whole [d, .int l, m] = .ok (.bl (wh d l m)) [none, none, none] := by
  unfold f_is_whole
  rw [defFn_ap]
  cases d with
  | non => simp -implicitDefEqProofs [m_is_whole, isD, wh]
  | bl b => simp -implicitDefEqProofs [m_is_whole, isD, wh]
  | str x => simp -implicitDefEqProofs [m_is_whole, isD, wh]
  | nd k o xs => cases k <;> first | (cases h; done) | simp -implicitDefEqProofs [m_is_whole, isD, wh]
  | int i =>
    by_cases z : l ≤ i
    · have z1 : ¬ i < l := by omega
      rcases hm with rfl | ⟨j, rfl⟩ <;> simp -implicitDefEqProofs [m_is_whole, isD, wh, z, z1]
    · have z1 : i < l := by omega
      rcases hm with rfl | ⟨j, rfl⟩ <;> simp -implicitDefEqProofs [m_is_whole, isD, wh, z, z1]
theorem page (d : D) (h : Pl d = true) : f_is_page [d] = .ok (.bl (wh d 0 .non)) [none] := by
  unfold f_is_page
  rw [defFn_ap]
  have e := whole (frz d) (by rw [Pl.frz]; exact h) 0 .non (.inl rfl)
  rw [wh_frz] at e
  simp -implicitDefEqProofs [m_is_page, e, Pl.noObj d h]
/-- each thing less than the next one -/
def adj : List D → Bool
  | .int a :: .int b :: r => decide (a < b) && adj (.int b :: r)
  | [_] => true
  | [] => true
  | _ => false
def isMarks : D → Bool
  | .nd .lst _ xs => decide (1 ≤ xs.length) && decide (xs.length ≤ 12) && xs.all (fun d => wh d 0 .non) && adj xs
  | _ => false
theorem wh_ints {xs : List D} (h : xs.all (fun d => wh d 0 .non) = true) : ∃ ms : List Int, xs = ms.map .int ∧ ∀ i ∈ ms, 0 ≤ i := by
  induction xs with
  | nil => exact ⟨[], rfl, by simp⟩
  | cons x r ih =>
    simp only [List.all_cons, Bool.and_eq_true] at h
    obtain ⟨ms, rfl, h2⟩ := ih h.2
    cases x with
    | int i =>
      have : 0 ≤ i := by simpa [wh] using h.1
      exact ⟨i :: ms, rfl, fun j hj => by
        rcases List.mem_cons.mp hj with rfl | hj
        · exact this
        · exact h2 j hj⟩
    | _ => simp [wh] at h
theorem adj_ints : ∀ ms : List Int, adj (ms.map .int) = (List.zipWith (fun a b => decide (a < b)) ms ms.tail).all id
  | [] => rfl
  | [_] => rfl
  | a :: b :: r => by
    show (decide (a < b) && adj ((b :: r).map .int)) = _
    rw [adj_ints (b :: r)]
    simp
theorem adj_up : ∀ ms : List Int, adj (ms.map .int) = true ↔ ms.Pairwise (· < ·)
  | [] => by simp [adj]
  | [_] => by simp [adj]
  | a :: b :: r => by
    have ih := adj_up (b :: r)
    show (decide (a < b) && adj ((b :: r).map .int)) = true ↔ _
    rw [Bool.and_eq_true, List.pairwise_cons, ih, decide_eq_true_eq]
    constructor
    · rintro ⟨h1, h2⟩
      refine ⟨fun c hc => ?_, h2⟩
      rcases List.mem_cons.mp hc with rfl | hc
      · exact h1
      · have := (List.pairwise_cons.mp h2).1 c hc
        omega
    · rintro ⟨h1, h2⟩
      exact ⟨h1 b List.mem_cons_self, h2⟩
theorem isMarks_up {d : D} : isMarks d = true ↔ ∃ o ms, d = il o ms ∧ Up ms := by
  constructor
  · intro h
    cases d with
    | nd k o xs =>
      cases k with
      | lst =>
        simp only [isMarks, Bool.and_eq_true, decide_eq_true_eq] at h
        obtain ⟨ms, rfl, h2⟩ := wh_ints h.1.2
        rw [List.length_map] at h
        exact ⟨o, ms, rfl, h.1.1.1, h.1.1.2, h2, (adj_up ms).mp h.2⟩
      | _ => cases h
    | _ => cases h
  · rintro ⟨o, ms, rfl, h⟩
    simp only [isMarks, Bool.and_eq_true, decide_eq_true_eq, List.length_map]
    refine ⟨⟨⟨h.ne, h.le⟩, ?_⟩, (adj_up ms).mpr h.up⟩
    simp only [List.all_map, List.all_eq_true]
    intro i hi
    have := h.nn i hi
    simp [wh, this]
theorem pages_c (o : Bool) (xs : List D) (h : Pls xs = true) (v1 v2 : Option D) (hl : xs.length ≤ 1000) : m_is_marks_1 [some (.nd .lst false (frzs xs)), none, none] = .ok (.nd .lst true (xs.map fun d => .bl (wh d 0 .non))) [some (.nd .lst false (frzs xs)), none, none] := by
  have hf : noOwns (frzs xs) = true := frzs_no xs
  have hn : noObjs (frzs xs) = true := Pls.noObjs _ (by rw [Pls.frzs]; exact h)
  have := rLc_map (own := [1]) (f := iE (rFz 0)) (m := gN 1) (te := rCallB (f_is_page) [] (aBw 1 aNil)) (ρ := [some (.nd .lst false (frzs xs)), none, none]) (ρ1 := [some (.nd .lst false (frzs xs)), none, none]) (ds := frzs xs) (fun d => .bl (wh d 0 .non))
    (by simp -implicitDefEqProofs [hn, hf, frzs_id _ hf]) (by rw [frzs_map]; simp; omega) (fun d hd => by
      have pd : Pl d = true := Pls.mem (by rw [Pls.frzs]; exact h) d hd
      have e := page (frz d) (by rw [Pl.frz]; exact pd)
      rw [wh_frz] at e
      refine ⟨_, rfl, rfl, ?_⟩
      simp -implicitDefEqProofs [Pl.noObj d pd, e])
  unfold m_is_marks_1
  rw [this]
  have e2 : (frzs xs).map (fun d => D.bl (wh d 0 .non)) = xs.map fun d => .bl (wh d 0 .non) := by
    rw [frzs_map, List.map_map]
    exact List.map_congr_left fun d _ => by simp [wh_frz]
  rw [e2]
  simp
theorem marks_c (o : Bool) (ms : List Int) (hl : ms.length ≤ 1000) : m_is_marks_2 [some (il o ms), none, none] = .ok (.nd .lst true ((List.zipWith (fun a b => decide (a < b)) ms ms.tail).map .bl)) [some (il false ms), none, none] := by
  have hz : iZ (aE (rFz 0) (aE (rT (rSlV (vVar 0) (oV (vC (.int 1))) oNo)) aNil)) [some (il o ms), none, none] = some (List.zipWith (fun x y => D.nd .tup false [x, y]) (ms.map .int) (ms.tail.map .int), [some (il false ms), none, none]) := by
    have e1 : cutI ms (some 1) none = ms.tail := by
      cases ms with
      | nil => rfl
      | cons a r => simp [cutI, HT.sIx]
    simp -implicitDefEqProofs [e1, -iZV_l, -List.map_tail]
    rw [iZV_l, if_pos (by simp [-List.map_tail])]
    simp [-List.map_tail]
  have := rLc_map (own := [1, 2]) (f := iZ (aE (rFz 0) (aE (rT (rSlV (vVar 0) (oV (vC (.int 1))) oNo)) aNil))) (m := gT 2 (gsCons (gN 1) (gsCons (gN 2) gsNil))) (te := rV (vOp dLt (vVar 1) (vVar 2))) (fun d => match d with | .nd _ _ [.int a, .int b] => .bl (decide (a < b)) | _ => .non) hz (by simp; omega) (fun d hd => by
      obtain ⟨i, hi⟩ := List.getElem?_of_mem hd
      rw [List.getElem?_zipWith, List.getElem?_map, List.getElem?_map] at hi
      cases q1 : ms[i]? with
      | none => rw [q1] at hi; cases hi
      | some u =>
        cases q2 : ms.tail[i]? with
        | none => rw [q1, q2] at hi; cases hi
        | some v =>
          rw [q1, q2] at hi
          cases hi
          refine ⟨_, rfl, rfl, ?_⟩
          simp -implicitDefEqProofs [])
  unfold m_is_marks_2
  rw [this]
  have e2 : ∀ a b : List Int, (List.zipWith (fun x y => D.nd .tup false [x, y]) (a.map D.int) (b.map D.int)).map (fun d => match d with | .nd _ _ [.int a, .int b] => D.bl (decide (a < b)) | _ => .non) = (List.zipWith (fun a b => decide (a < b)) a b).map .bl := by
    intro a
    induction a with
    | nil => intro b; rfl
    | cons x r ih =>
      intro b
      cases b with
      | nil => rfl
      | cons y s =>
        simp only [List.map_cons, List.zipWith_cons_cons, ih s]
  rw [e2]
  simp
theorem marks (d : D) (h : Pl d = true) : f_is_marks [d] = .ok (.bl (isMarks d)) [none] := by
  unfold f_is_marks
  rw [defFn_ap]
  cases d with
  | non => simp -implicitDefEqProofs [m_is_marks, isD, isMarks]
  | bl b => simp -implicitDefEqProofs [m_is_marks, isD, isMarks]
  | int i => simp -implicitDefEqProofs [m_is_marks, isD, isMarks]
  | str x => simp -implicitDefEqProofs [m_is_marks, isD, isMarks]
  | nd k o xs =>
    cases k with
    | fzl => cases h
    | obj C ns => cases h
    | exn C ns => cases h
    | tup => simp -implicitDefEqProofs [m_is_marks, isD, isMarks]
    | dct ks => simp -implicitDefEqProofs [m_is_marks, isD, isMarks]
    | dtt ks => simp -implicitDefEqProofs [m_is_marks, isD, isMarks]
    | lst =>
      have hn : noObjs xs = true := Pls.noObjs _ h
      by_cases l1 : 1 ≤ xs.length
      · by_cases l2 : xs.length ≤ 12
        · have e1 := pages_c o xs h none none (by omega)
          have c1 : (1 : Int) ≤ (xs.length : Int) := by omega
          have c2 : (xs.length : Int) ≤ 12 := by omega
          have ha := dAll_map true xs fun d => wh d 0 .non
          have hb : okBs (xs.map fun d => .bl (wh d 0 .non)) = true := okBs_all fun d hd => by
            obtain ⟨_, _, rfl⟩ := List.mem_map.mp hd
            rfl
          by_cases z : xs.all (fun d => wh d 0 .non) = true
          · obtain ⟨ms, rfl, h2⟩ := wh_ints z
            rw [List.length_map] at l1 l2 c1 c2
            have e2 := marks_c o ms (by omega)
            have ha2 : dAll [.nd .lst true ((List.zipWith (fun a b => decide (a < b)) ms ms.tail).map .bl)] = some (.bl (adj (ms.map .int))) := by
              show (blsD _).map _ = _
              rw [bls_of, adj_ints]; rfl
            have fm : isMarks (.nd .lst o (ms.map .int)) = adj (ms.map .int) := by
              simp only [isMarks]
              rw [z]; simp; omega
            rw [fm]
            rw [z] at ha
            generalize (ms.map D.int).map (fun d => D.bl (wh d 0 .non)) = R1 at *
            generalize (List.zipWith (fun a b => decide (a < b)) ms ms.tail).map D.bl = R2 at *
            rw [frzs_ints] at e1
            simp -implicitDefEqProofs [m_is_marks, isD, c1, c2, e1, ha, e2, ha2, hb]
          · have fm : isMarks (.nd .lst o xs) = false := by
              simp only [isMarks]
              rw [Bool.not_eq_true] at z
              rw [z]; simp
            rw [fm]
            rw [Bool.not_eq_true] at z
            rw [z] at ha
            generalize xs.map (fun d => D.bl (wh d 0 .non)) = R1 at *
            simp -implicitDefEqProofs [m_is_marks, isD, c1, c2, e1, ha, hn, hb]
        · have c1 : (1 : Int) ≤ (xs.length : Int) := by omega
          have c2 : ¬ (xs.length : Int) ≤ 12 := by omega
          simp -implicitDefEqProofs [m_is_marks, isD, c1, c2, isMarks, l1, l2]
      · have c1 : ¬ (1 : Int) ≤ (xs.length : Int) := by omega
        simp -implicitDefEqProofs [m_is_marks, isD, c1, isMarks, l1]
end PM
namespace PM
open PySem L2 PyProof.Rows DL
@[simp] theorem Pl_il (o : Bool) (x : List Int) : Pl (.nd .lst o (x.map D.int)) = true := Pls.ints x
theorem Up.isMarks {ms : List Int} (h : Up ms) (o : Bool) : PM.isMarks (il o ms) = true := isMarks_up.mpr ⟨o, ms, rfl, h⟩
theorem needMarks {ms : List Int} (h : Up ms) (o : Bool) : f_need_marks [il o ms] = .ok .non [none] := by
  unfold f_need_marks
  rw [defFn_ap]
  have e := marks (il false ms) (Pl_il ..)
  rw [h.isMarks] at e
  simp -implicitDefEqProofs [m_need_marks, e]
theorem freshOf {ms : List Int} (o : Bool) (h : ms.length ≤ 1000) : f_fresh_of [il o ms] = .ok (sd true ms (List.range ms.length)) [none] := by
  unfold f_fresh_of
  rw [defFn_ap]
  have hrg := rRg1_s (f := vB dLen (vCons (vVar 0) vNil)) (ρ := [some (il o ms)]) (n := ms.length) (by simp) (by omega)
  have e : dList [il o ms] = some (il true ms) := by simp [dList]
  simp -implicitDefEqProofs [m_fresh_of, hrg, e]
theorem fresh {ms : List Int} (h : Up ms) (o : Bool) : f_fresh [il o ms] = .ok (sd true ms (List.range ms.length)) [none] := by
  unfold f_fresh
  rw [defFn_ap]
  have e1 := needMarks h false
  have e2 := freshOf (ms := ms) false (by have := h.le; omega)
  simp -implicitDefEqProofs [m_fresh, e1, e2]
def isStand : D → Bool
  | .nd .tup _ [a, .nd .lst _ cs] => isMarks a && (decide (1 ≤ cs.length) && decide (cs.length ≤ 12) && cs.all fun c => wh c 0 (.int (match a with | .nd _ _ xs => (xs.length : Int) - 1 | _ => 0)))
  | _ => false
theorem counts_c (o : Bool) (ms : List Int) (cs : List D) (h : Pls cs = true) (v : Option D) (hl : cs.length ≤ 1000) : m_is_stand_1 [none, some (il o ms), some (.nd .lst false (frzs cs)), none] = .ok (.nd .lst true (cs.map fun d => .bl (wh d 0 (.int ((ms.length : Int) - 1))))) [none, some (il o ms), some (.nd .lst false (frzs cs)), none] := by
  have hf : noOwns (frzs cs) = true := frzs_no cs
  have hn : noObjs (frzs cs) = true := Pls.noObjs _ (by rw [Pls.frzs]; exact h)
  have := rLc_map (own := [3]) (f := iE (rFz 2)) (m := gN 3) (te := rCallB (f_is_whole) [] (aBw 3 (aE (rV (vC (.int 0))) (aE (rV (vOp dSub (vB dLen (vCons (vVar 1) vNil)) (vC (.int 1)))) aNil)))) (ρ := [none, some (il o ms), some (.nd .lst false (frzs cs)), none]) (ρ1 := [none, some (il o ms), some (.nd .lst false (frzs cs)), none]) (ds := frzs cs) (fun d => .bl (wh d 0 (.int ((ms.length : Int) - 1))))
    (by simp -implicitDefEqProofs [hn, hf, frzs_id _ hf]) (by rw [frzs_map]; simp; omega) (fun d hd => by
      have pd : Pl d = true := Pls.mem (by rw [Pls.frzs]; exact h) d hd
      have e := whole (frz d) (by rw [Pl.frz]; exact pd) 0 (.int ((ms.length : Int) - 1)) (.inr ⟨_, rfl⟩)
      rw [wh_frz] at e
      refine ⟨_, rfl, rfl, ?_⟩
      simp -implicitDefEqProofs [Pl.noObj d pd, e])
  unfold m_is_stand_1
  rw [this]
  have e2 : (frzs cs).map (fun d => D.bl (wh d 0 (.int ((ms.length : Int) - 1)))) = cs.map fun d => .bl (wh d 0 (.int ((ms.length : Int) - 1))) := by
    rw [frzs_map, List.map_map]
    exact List.map_congr_left fun d _ => by simp [wh_frz]
  rw [e2]
  simp
theorem isMarks_frz (d : D) : isMarks (frz d) = isMarks d := by
  apply Bool.eq_iff_iff.mpr
  rw [isMarks_up, isMarks_up]
  constructor
  · rintro ⟨o, ms, e, h⟩
    cases d with
    | nd k o2 xs =>
      cases k with
      | lst =>
        have e2 : frzs xs = ms.map .int := by
          have : D.nd .lst false (frzs xs) = .nd .lst o (ms.map .int) := e
          injection this
        refine ⟨o2, ms, ?_, h⟩
        have : xs = ms.map .int := by
          clear e h
          induction xs generalizing ms with
          | nil => cases ms with
            | nil => rfl
            | cons a r => cases e2
          | cons x r ih =>
            cases ms with
            | nil => cases e2
            | cons a s =>
              have e3 : frz x :: frzs r = .int a :: s.map .int := e2
              injection e3 with e4 e5
              rw [ih s e5]
              cases x <;> simp at e4
              subst e4; rfl
        rw [this]
      | _ => cases e
    | _ => cases e
  · rintro ⟨o, ms, rfl, h⟩
    exact ⟨false, ms, by simp, h⟩
theorem stand (d : D) (h : Pl d = true) (hs : noOwn d = true) : f_is_stand [d] = .ok (.bl (isStand d)) [none] := by
  unfold f_is_stand
  rw [defFn_ap]
  have hfz := frz_id d hs
  have hno := Pl.noObj d h
  cases d with
  | non => simp -implicitDefEqProofs [m_is_stand, isD, isStand]
  | bl b => simp -implicitDefEqProofs [m_is_stand, isD, isStand]
  | int i => simp -implicitDefEqProofs [m_is_stand, isD, isStand]
  | str x => simp -implicitDefEqProofs [m_is_stand, isD, isStand]
  | nd k o xs =>
    cases k with
    | fzl => cases h
    | obj C ns => cases h
    | exn C ns => cases h
    | lst => simp -implicitDefEqProofs [m_is_stand, isD, isStand]
    | dct ks => simp -implicitDefEqProofs [m_is_stand, isD, isStand]
    | dtt ks => simp -implicitDefEqProofs [m_is_stand, isD, isStand]
    | tup =>
      have ho : o = false ∧ noOwns xs = true := by simpa using hs
      obtain ⟨rfl, ho⟩ := ho
      by_cases l : xs.length = 2
      · obtain ⟨a, b, rfl⟩ : ∃ a b, xs = [a, b] := by
          match xs, l with
          | [a, b], _ => exact ⟨a, b, rfl⟩
        have hp : Pl a = true ∧ Pl b = true := by
          have : (Pl a && (Pl b && true)) = true := h
          simpa using this
        have ha : noOwn a = true ∧ noOwn b = true := by simpa using ho
        have ea := marks a hp.1
        have fa := frz_id a ha.1
        have fb := frz_id b ha.2
        have na := Pl.noObj a hp.1
        have nb := Pl.noObj b hp.2
        by_cases z : isMarks a = true
        · rw [z] at ea
          obtain ⟨o1, ms, rfl, up⟩ := isMarks_up.mp z
          have ho1 : o1 = false := by simpa using ha.1
          subst ho1
          cases b with
          | nd k o xs =>
            cases k with
            | lst =>
              have hb : o = false ∧ noOwns xs = true := by simpa using ha.2
              obtain ⟨rfl, hb⟩ := hb
              have fx := frzs_id xs hb
              have e1 := counts_c false ms xs hp.2 none
              rw [fx] at e1
              have hn : noObjs xs = true := Pls.noObjs _ hp.2
              by_cases l1 : 1 ≤ xs.length
              · by_cases l2 : xs.length ≤ 12
                · have c1 : (1 : Int) ≤ (xs.length : Int) := by omega
                  have c2 : (xs.length : Int) ≤ 12 := by omega
                  have e1 := e1 (by omega)
                  have hd := dAll_map true xs fun d => wh d 0 (.int ((ms.length : Int) - 1))
                  have fm : isStand (.nd .tup false [il false ms, .nd .lst false xs]) = xs.all fun d => wh d 0 (.int ((ms.length : Int) - 1)) := by
                    simp only [isStand, z]
                    simp [l1, l2]
                  rw [fm]
                  generalize xs.map (fun d => D.bl (wh d 0 (.int ((ms.length : Int) - 1)))) = R1 at *
                  simp -implicitDefEqProofs [m_is_stand, isD, ea, c1, c2, e1, hd, fx, hn]
                · have c1 : (1 : Int) ≤ (xs.length : Int) := by omega
                  have c2 : ¬ (xs.length : Int) ≤ 12 := by omega
                  simp -implicitDefEqProofs [m_is_stand, isD, ea, c1, c2, fx, hn, isStand, l1, l2]
              · have c1 : ¬ (1 : Int) ≤ (xs.length : Int) := by omega
                simp -implicitDefEqProofs [m_is_stand, isD, ea, c1, fx, hn, isStand, l1]
            | fzl => cases hp.2
            | obj C ns => cases hp.2
            | exn C ns => cases hp.2
            | _ => simp -implicitDefEqProofs [m_is_stand, isD, ea, fb, nb, isStand]
          | _ => simp -implicitDefEqProofs [m_is_stand, isD, ea, isStand]
        · have fm : isStand (.nd .tup false [a, b]) = false := by
            unfold isStand
            split
            · rename_i h2
              cases h2
              simp [z]
            · rfl
          rw [fm]
          rw [Bool.not_eq_true] at z
          rw [z] at ea
          simp -implicitDefEqProofs [m_is_stand, isD, ea, fa, fb, na, nb]
      · have l' : ¬ (xs.length : Int) = 2 := by omega
        have fm : isStand (.nd .tup false xs) = false := by
          unfold isStand
          split
          · rename_i h2
            cases h2
            simp at l
          · rfl
        rw [fm]
        simp -implicitDefEqProofs [m_is_stand, isD, l']
end PM
namespace PM
open PySem L2 PyProof.Rows DL
theorem St.isStand {ms : List Int} {cs : List Nat} (h : St ms cs) (o : Bool) : PM.isStand (sd o ms cs) = true := by
  have h1 := h.m.isMarks o
  have h2 := h.ne
  have h3 := h.le
  simp only [PM.isStand, h1, List.length_map, nI_len, Bool.true_and, Bool.and_eq_true, decide_eq_true_eq]
  refine ⟨⟨h2, h3⟩, ?_⟩
  simp only [List.all_map, List.all_eq_true]
  intro i hi
  obtain ⟨c, rfl, hc⟩ := nI_mem hi
  have := h.lt c hc
  simp [wh]
  omega
@[simp] theorem Pl_sd (o : Bool) (ms : List Int) (cs : List Nat) : Pl (sd o ms cs) = true := by
  show (Pl (il o ms) && (Pl (il o (nI cs)) && true)) = true
  rw [Pl_il, Pl_il]; rfl
theorem needStand {ms : List Int} {cs : List Nat} (h : St ms cs) (o : Bool) : f_need_stand [sd o ms cs] = .ok .non [none] := by
  unfold f_need_stand
  rw [defFn_ap]
  have e := stand (sd false ms cs) (Pl_sd ..) (by simp)
  rw [h.isStand] at e
  simp -implicitDefEqProofs [m_need_stand, e]
/-- where each reader opens -/
def opn (ms : List Int) (cs : List Nat) : List Int := cs.map fun c => ms.getD c 0
theorem opens_c (o : Bool) (ms : List Int) (cs : List Nat) (h : ∀ c ∈ cs, c < ms.length) (hl : cs.length ≤ 1000) : m_opens_1 [none, some (il o ms), some (il o (nI cs)), none] = .ok (il true (opn ms cs)) [none, some (il o ms), some (il false (nI cs)), none] := by
  have := rLc_map (own := [3]) (f := iE (rFz 2)) (m := gN 3) (te := rV (vOp dIx (vVar 1) (vVar 3))) (ρ := [none, some (il o ms), some (il o (nI cs)), none]) (ρ1 := [none, some (il o ms), some (il false (nI cs)), none]) (ds := (nI cs).map D.int) (fun d => match d with | .int i => .int (ms.getD i.toNat 0) | _ => .non)
    (by simp -implicitDefEqProofs []) (by simp; omega) (fun d hd => by
      obtain ⟨_, hc, rfl⟩ := List.mem_map.mp hd
      obtain ⟨c, rfl, hc2⟩ := nI_mem hc
      refine ⟨_, rfl, rfl, ?_⟩
      have e := atG (h c hc2)
      have hh := h c hc2
      simp -implicitDefEqProofs [e, List.getD, hh])
  unfold m_opens_1
  rw [this]
  have e2 : ((nI cs).map D.int).map (fun d => match d with | .int i => D.int (ms.getD i.toNat 0) | _ => .non) = (opn ms cs).map .int := by
    simp [opn, nI]
  rw [e2]
  simp
theorem opens {ms : List Int} {cs : List Nat} (h : St ms cs) (o : Bool) : f_opens [sd o ms cs] = .ok (il true (opn ms cs)) [none] := by
  unfold f_opens
  rw [defFn_ap]
  have e1 := needStand h false
  have e2 := opens_c o ms cs h.lt (by have := h.le; omega)
  simp -implicitDefEqProofs [m_opens, e1, e2]
end PM
namespace PM
open PySem L2 PyProof.Rows DL
/-! ### what a reading goes, in plain terms -/
/-- all marks but one -/
def oth (ms : List Int) (c : Nat) : List Int := ms.take c ++ ms.drop (c + 1)
/-- the first free page from e on -/
def land : Nat → List Int → Int → Int
  | 0, _, e => e
  | k + 1, xs, e => if e ∈ xs then land k xs (e + 1) else e
def pos (xs : List Int) (e : Int) : Nat := (xs.filter fun x => decide (x < e)).length
def put (xs : List Int) (e : Int) : List Int := xs.take (pos xs e) ++ e :: xs.drop (pos xs e)
theorem land_ge : ∀ (k : Nat) (xs : List Int) (e : Int), e ≤ land k xs e
  | 0, _, e => Int.le_refl e
  | k + 1, xs, e => by
    unfold land
    split
    · have := land_ge k xs (e + 1); omega
    · omega
theorem land_le : ∀ (k : Nat) (xs : List Int) (e : Int), land k xs e ≤ e + k
  | 0, _, e => by simp [land]
  | k + 1, xs, e => by
    unfold land
    split
    · have := land_le k xs (e + 1); omega
    · omega
theorem land_all : ∀ (k : Nat) (xs : List Int) (e z : Int), e ≤ z → z < land k xs e → z ∈ xs
  | 0, _, e, z, h, h2 => by simp [land] at h2; omega
  | k + 1, xs, e, z, h, h2 => by
    unfold land at h2
    split at h2
    · rename_i m
      by_cases q : z = e
      · rw [q]; exact m
      · exact land_all k xs (e + 1) z (by omega) h2
    · omega
theorem filter_lt {xs : List Int} {e : Int} (h : e ∈ xs) : (xs.filter fun x => decide (e + 1 ≤ x)).length < (xs.filter fun x => decide (e ≤ x)).length := by
  have e1 : (xs.filter fun x => decide (e + 1 ≤ x)) = (xs.filter fun x => decide (e ≤ x)).filter fun x => decide (e + 1 ≤ x) := by
    rw [List.filter_filter]
    apply List.filter_congr
    intro x _
    rw [Bool.eq_iff_iff]
    simp
    omega
  rw [e1]
  exact List.length_filter_lt_length_iff_exists.mpr ⟨e, List.mem_filter.mpr ⟨h, by simp⟩, by simp; omega⟩
theorem land_out : ∀ (k : Nat) (xs : List Int) (e : Int), (xs.filter fun x => decide (e ≤ x)).length < k → land k xs e ∉ xs
  | 0, _, _, h => absurd h (by omega)
  | k + 1, xs, e, h => by
    unfold land
    split
    · rename_i m
      exact land_out k xs (e + 1) (by have := filter_lt m; omega)
    · assumption
theorem land_free {k : Nat} {xs : List Int} (e : Int) (h : xs.length < k) : land k xs e ∉ xs := land_out k xs e (Nat.lt_of_le_of_lt (List.length_filter_le ..) h)
theorem pos_cut : ∀ {xs : List Int} (e : Int), xs.Pairwise (· < ·) → xs.take (pos xs e) = xs.filter (fun x => decide (x < e)) ∧ xs.drop (pos xs e) = xs.filter (fun x => decide (e ≤ x))
  | [], e, _ => by simp [pos]
  | a :: r, e, h => by
    obtain ⟨h1, h2⟩ := List.pairwise_cons.mp h
    obtain ⟨i1, i2⟩ := pos_cut e h2
    by_cases z : a < e
    · have z2 : ¬ e ≤ a := by omega
      have hp : pos (a :: r) e = pos r e + 1 := by simp [pos, z]
      rw [hp]
      simp [z, z2, i1, i2]
    · have z2 : e ≤ a := by omega
      have f1 : r.filter (fun x => decide (x < e)) = [] := List.filter_eq_nil_iff.mpr fun x hx => by
        have := h1 x hx
        simp; omega
      have f2 : r.filter (fun x => decide (e ≤ x)) = r := List.filter_eq_self.mpr fun x hx => by
        have := h1 x hx
        simp; omega
      have hp : pos (a :: r) e = 0 := by simp [pos, z, f1]
      rw [hp]
      simp [z, z2, f1, f2]
theorem pos_le (xs : List Int) (e : Int) : pos xs e ≤ xs.length := List.length_filter_le ..
theorem put_perm (xs : List Int) (e : Int) : (put xs e).Perm (xs ++ [e]) := by
  unfold put
  have h1 : (xs.take (pos xs e) ++ e :: xs.drop (pos xs e)).Perm (e :: (xs.take (pos xs e) ++ xs.drop (pos xs e))) := List.perm_middle
  rw [List.take_append_drop] at h1
  exact h1.trans (List.perm_append_singleton e xs).symm
theorem put_up {xs : List Int} {e : Int} (h : xs.Pairwise (· < ·)) (n : e ∉ xs) : (put xs e).Pairwise (· < ·) := by
  obtain ⟨h1, h2⟩ := pos_cut e h
  unfold put
  rw [h1, h2, List.pairwise_append, List.pairwise_cons]
  refine ⟨h.filter _, ⟨fun x hx => ?_, h.filter _⟩, fun a ha b hb => ?_⟩
  · have := List.mem_filter.mp hx
    have h3 : e ≤ x := by simpa using this.2
    have : x ≠ e := fun z => n (z ▸ this.1)
    omega
  · have ha2 : a < e := by simpa using (List.mem_filter.mp ha).2
    rcases List.mem_cons.mp hb with rfl | hb
    · exact ha2
    · have : e ≤ b := by simpa using (List.mem_filter.mp hb).2
      omega
theorem put_isort {xs : List Int} {e : Int} (h : xs.Pairwise (· < ·)) (n : e ∉ xs) : isort (xs ++ [e]) = put xs e :=
  (sorted_eq (put_perm xs e) ((put_up h n).imp fun h => by omega)).symm
theorem put_len (xs : List Int) (e : Int) : (put xs e).length = xs.length + 1 := by
  have := (put_perm xs e).length_eq
  simpa using this
theorem put_mem {xs : List Int} {e x : Int} : x ∈ put xs e ↔ x ∈ xs ∨ x = e := by
  rw [(put_perm xs e).mem_iff]; simp
theorem put_at? (xs : List Int) (e : Int) : (put xs e)[pos xs e]? = some e := by
  have hl := pos_le xs e
  unfold put
  rw [List.getElem?_append_right (by simp; omega)]
  simp [Nat.min_eq_left hl]
theorem pos_put_lt (xs : List Int) (e : Int) : pos xs e < (put xs e).length := by
  have := pos_le xs e
  rw [put_len]; omega
theorem oth_sub (ms : List Int) (c : Nat) : (oth ms c).Sublist ms := by
  unfold oth
  rw [← List.eraseIdx_eq_take_drop_succ]
  exact List.eraseIdx_sublist ..
theorem oth_up {ms : List Int} (c : Nat) (h : ms.Pairwise (· < ·)) : (oth ms c).Pairwise (· < ·) := h.sublist (oth_sub ms c)
theorem oth_len {ms : List Int} {c : Nat} (h : c < ms.length) : (oth ms c).length + 1 = ms.length := by
  unfold oth; simp; omega
/-- where a reading ends, the marks behind it, the count behind it -/
def opg (ms : List Int) (cs : List Nat) (r : Nat) : Int := ms.getD (cs.getD r 0) 0
def toP (ms : List Int) (cs : List Nat) (r : Nat) (p : Int) : Int := land 13 (oth ms (cs.getD r 0)) (opg ms cs r + p)
def lat (ms : List Int) (cs : List Nat) (r : Nat) (p : Int) : List Int := put (oth ms (cs.getD r 0)) (toP ms cs r p)
def cnt (ms : List Int) (cs : List Nat) (r : Nat) (p : Int) : Nat := pos (oth ms (cs.getD r 0)) (toP ms cs r p)
def cts (ms : List Int) (cs : List Nat) (r : Nat) (p : Int) : List Nat := cs.set r (cnt ms cs r p)
theorem toP_le (ms : List Int) (cs : List Nat) (r : Nat) (p : Int) : toP ms cs r p ≤ opg ms cs r + p + 13 := land_le ..
theorem toP_ge (ms : List Int) (cs : List Nat) (r : Nat) (p : Int) : opg ms cs r + p ≤ toP ms cs r p := land_ge ..
section
variable {ms : List Int} {cs : List Nat} {r : Nat} {p : Int}
theorem St.at (h : St ms cs) (hr : r < cs.length) : cs.getD r 0 < ms.length := by
  rw [List.getD_eq_getElem?_getD, List.getElem?_eq_getElem hr]
  exact h.lt _ (List.getElem_mem hr)
theorem St.out (h : St ms cs) (hr : r < cs.length) : toP ms cs r p ∉ oth ms (cs.getD r 0) := by
  apply land_free
  have := oth_len (h.at hr)
  have := h.m.le
  omega
theorem St.latUp (h : St ms cs) (hr : r < cs.length) : (lat ms cs r p).Pairwise (· < ·) := put_up (oth_up _ h.m.up) (h.out hr)
theorem St.latLen (h : St ms cs) (hr : r < cs.length) : (lat ms cs r p).length = ms.length := by
  unfold lat
  rw [put_len, oth_len (h.at hr)]
theorem St.opg_mem (h : St ms cs) (hr : r < cs.length) : opg ms cs r ∈ ms := by
  unfold opg
  rw [List.getD_eq_getElem?_getD, List.getElem?_eq_getElem (h.at hr)]
  exact List.getElem_mem _
theorem St.lat (h : St ms cs) (hr : r < cs.length) (hp : 0 ≤ p) : St (lat ms cs r p) (cts ms cs r p) := by
  have hl := h.latLen (p := p) hr
  refine ⟨⟨by rw [hl]; exact h.m.ne, by rw [hl]; exact h.m.le, fun i hi => ?_, h.latUp hr⟩, by simpa [cts] using h.ne, by simpa [cts] using h.le, fun c hc => ?_⟩
  · rcases put_mem.mp hi with hi | rfl
    · exact h.m.nn i ((oth_sub _ _).subset hi)
    · have := toP_ge ms cs r p
      have := h.m.nn _ (h.opg_mem hr)
      omega
  · rw [hl]
    unfold cts at hc
    rcases List.mem_or_eq_of_mem_set hc with hc | rfl
    · exact h.lt c hc
    · have := pos_le (oth ms (cs.getD r 0)) (toP ms cs r p)
      have := oth_len (h.at hr)
      unfold cnt; omega
theorem Bd.lat {B : Int} (h : St ms cs) (b : Bd B ms) (hr : r < cs.length) {q : Int} (hq : p ≤ q) (h0 : 0 ≤ q) : Bd (B + q + 13) (lat ms cs r p) := fun i hi => by
  rcases put_mem.mp hi with hi | rfl
  · have := b i ((oth_sub _ _).subset hi); omega
  · have := toP_le ms cs r p
    have := b _ (h.opg_mem hr)
    omega
end
end PM
namespace PM
open PySem L2 PyProof.Rows DL
def m_gone_1 : MS := (mAsg (rOpNE dAdd 8 (rV (vC (.int 1)))) (gN 8))
def m_gone : MS := (mSeq (mAsg (rMv 0) (gT 2 (gsCons (gN 2) (gsCons (gN 3) gsNil)))) (mSeq (mAsg (rFz 1) (gT 2 (gsCons (gN 4) (gsCons (gN 5) gsNil)))) (mSeq (mAsg (rV (vOp dIx (vVar 3) (vVar 4))) (gN 6)) (mSeq (mAsg (rOp dPl (rSlV (vVar 2) oNo (oV (vVar 6))) (rSlV (vVar 2) (oV (vOp dAdd (vVar 6) (vC (.int 1)))) oNo)) (gN 7)) (mSeq (mAsg (rV (vOp dAdd (vOp dIx (vVar 2) (vVar 6)) (vVar 5))) (gN 8)) (mSeq (mWhile (rV (vOp dIn (vVar 8) (vVar 7))) m_gone_1 100) (mSeq (mAsg (rB dSorted (aE (rOpNE dPl 7 (rLst (aE (rFz 8) aNil))) aNil)) (gN 9)) (mRet (rTup (aE (rTup (aE (rV (vOp dIx (vVar 2) (vVar 6))) (aE (rFz 8) aNil))) (aE (rTup (aMv 9 (aE (rOp dPl (rOp dPl (rSlV (vVar 3) oNo (oV (vVar 4))) (rLst (aE (rV (vMt dIndex (vVar 9) (vCons (vVar 8) vNil))) aNil))) (rSlV (vVar 3) (oV (vOp dAdd (vVar 4) (vC (.int 1)))) oNo)) aNil))) aNil)))))))))))
def f_gone : Fn := defFn 10 [false, false] m_gone
def m_is_reading_of : MS := (mSeq (mIf (rOr (rNot (rV (vIsi .tuple (vVar 1)))) (rV (vOp dNeX (vB dLen (vCons (vVar 1) vNil)) (vC (.int 2))))) (mRet (rV (vC (.bl false)))) mNx) (mRet (rAnd (rCall (f_is_whole) [] (aE (rV (vOp dIx (vVar 1) (vC (.int 0)))) (aE (rV (vC (.int 0))) (aE (rV (vOp dSub (vVar 0) (vC (.int 1)))) aNil)))) (rCall (f_is_whole) [] (aE (rV (vOp dIx (vVar 1) (vC (.int 1)))) (aE (rV (vC (.int 1))) (aE (rV (vC (.int 10000000000000000000000000000000))) aNil)))))))
def f_is_reading_of : Fn := defFn 2 [false, false] m_is_reading_of
def m_is_reading : MS := (mRet (rCallB (f_is_reading_of) [] (aE (rV (vB dLen (vCons (vOp dIx (vVar 0) (vC (.int 1))) vNil))) (aBw 1 aNil))))
def f_is_reading : Fn := defFn 2 [false, false] m_is_reading
def m_need_reading : MS := (mIf (rNot (rCallB (f_is_reading) [] (aBw 0 (aBw 1 aNil)))) (mRaise "NoReading") mNx)
def f_need_reading : Fn := defFn 2 [false, false] m_need_reading
def m_behind : MS := (mSeq (mDo (rCallB (f_need_stand) [] (aBw 0 aNil))) (mSeq (mDo (rCallB (f_need_reading) [] (aBw 0 (aBw 1 aNil)))) (mRet (rOp dIx (rCallB (f_gone) [] (aBw 0 (aBw 1 aNil))) (rV (vC (.int 1)))))))
def f_behind : Fn := defFn 2 [false, false] m_behind
def m_goes : MS := (mSeq (mDo (rCallB (f_need_stand) [] (aBw 0 aNil))) (mSeq (mDo (rCallB (f_need_reading) [] (aBw 0 (aBw 1 aNil)))) (mRet (rOp dIx (rCallB (f_gone) [] (aBw 0 (aBw 1 aNil))) (rV (vC (.int 0)))))))
def f_goes : Fn := defFn 2 [false, false] m_goes
def m_law_apart_right : MS := (mSeq (mPar [3, 4] (aE (rCallB (f_goes) [] (aBw 0 (aBw 1 aNil))) (aE (rCallB (f_goes) [] (aBw 0 (aBw 2 aNil))) aNil))) (mSeq (mIf (rOr (rV (vOp dEqX (vOp dIx (vVar 1) (vC (.int 0))) (vOp dIx (vVar 2) (vC (.int 0))))) (rV (vOp dEqX (vOp dIx (vVar 3) (vC (.int 0))) (vOp dIx (vVar 4) (vC (.int 0)))))) (mRet (rV (vC (.bl true)))) mNx) (mSeq (mIf (rNot (rOr (rV (vOp dLt (vOp dIx (vVar 3) (vC (.int 1))) (vOp dIx (vVar 4) (vC (.int 0))))) (rV (vOp dLt (vOp dIx (vVar 4) (vC (.int 1))) (vOp dIx (vVar 3) (vC (.int 0))))))) (mRet (rV (vC (.bl true)))) mNx) (mSeq (mIf (rOr (rOpEV dNeX (rCallB (f_goes) [] (aE (rCallB (f_behind) [] (aBw 0 (aBw 1 aNil))) (aBw 2 aNil))) (vVar 4)) (rOpEV dNeX (rCallB (f_goes) [] (aE (rCallB (f_behind) [] (aBw 0 (aBw 2 aNil))) (aBw 1 aNil))) (vVar 3))) (mRet (rV (vC (.bl false)))) mNx) (mRet (rOp dEqX (rCallB (f_behind) [] (aE (rCallB (f_behind) [] (aBw 0 (aBw 1 aNil))) (aBw 2 aNil))) (rCallB (f_behind) [] (aE (rCallB (f_behind) [] (aBw 0 (aBw 2 aNil))) (aBw 1 aNil)))))))))
def f_law_apart_right : Fn := defFn 5 [false, false, false] m_law_apart_right
def m_law_going : MS := (mSeq (mAsg (rMv 1) (gT 2 (gsCons (gN 2) (gsCons (gN 3) gsNil)))) (mSeq (mAsg (rCall (f_law_leaf) [] (aIo 0 (aE (rV (vB dLen (vCons (vVar 3) vNil))) aNil))) (gN 4)) (mSeq (mAsg (rOpEV dSub (rIxN 2 (rCall (f_law_leaf) [] (aIo 0 (aE (rV (vB dLen (vCons (vVar 2) vNil))) aNil)))) (vOp dIx (vVar 2) (vOp dIx (vVar 3) (vVar 4)))) (gN 5)) (mSeq (mAsg (rLst (aE (rV (vC (.int 1))) (aE (rOp dPl (rV (vC (.int 1))) (rCall (f_law_leaf) [] (aIo 0 (aE (rV (vC (.int 4))) aNil)))) (aE (rOp dPl (rV (vC (.int 1))) (rCall (f_law_leaf) [] (aIo 0 (aE (rV (vC (.int 60))) aNil)))) (aE (rOp dPl (rV (vC (.int 1))) (rCall (f_law_leaf) [] (aIo 0 (aE (rV (vOp dPow (vC (.int 10)) (vC (.int 29)))) aNil)))) (aE (rV (vOp dPow (vC (.int 10)) (vC (.int 31)))) aNil)))))) (gN 6)) (mRet (rTup (aE (rFz 4) (aE (rOp dIx (rOpNE dPl 6 (rLst (aE (rV (vB dMin2 (vCons (vOp dPow (vC (.int 10)) (vC (.int 31))) (vCons (vB dMax2 (vCons (vC (.int 1)) (vCons (vVar 5) vNil))) vNil)))) aNil))) (rCall (f_law_leaf) [] (aIo 0 (aE (rV (vC (.int 6))) aNil)))) aNil))))))))
def f_law_going : Fn := defFn 7 [true, false] m_law_going
def m_law_moved_right_1 : ME := rLc [5] (iE (rOp dIx (rFz 1) (rV (vC (.int 0))))) (gN 5) rYes (rV (vOp dAdd (vVar 5) (vVar 3)))
def m_law_moved_right_2 : ME := rLc [8] (iE (rOp dIx (rFz 1) (rV (vC (.int 1))))) (gN 8) rYes (rV (vOp dAdd (vVar 8) (vC (.int 1))))
def m_law_moved_right_3 : ME := rLc [5] (iE (rOp dIx (rFz 1) (rV (vC (.int 0))))) (gN 5) rYes (rV (vOp dAdd (vOp dAdd (vVar 5) (vVar 3)) (vC (.int 1))))
def m_law_moved_right_4 : ME := rLc [8] (iE (rOp dIx (rFz 6) (rV (vC (.int 1))))) (gN 8) rYes (rV (vOp dAdd (vVar 8) (vC (.int 1))))
def m_law_moved_right_5 : ME := rLc [5] (iE (rOp dIx (rFz 6) (rV (vC (.int 0))))) (gN 5) rYes (rV (vOp dAdd (vOp dAdd (vVar 5) (vVar 3)) (vC (.int 1))))
def m_law_moved_right : MS := (mSeq (mAsg (rOp dIx (rLst (aE (rV (vC (.int 1))) (aE (rCall (f_law_leaf) [] (aIo 0 (aE (rV (vC (.int 100))) aNil))) (aE (rCall (f_law_leaf) [] (aIo 0 (aE (rV (vOp dPow (vC (.int 10)) (vC (.int 29)))) aNil))) aNil)))) (rCall (f_law_leaf) [] (aIo 0 (aE (rV (vC (.int 3))) aNil)))) (gN 3)) (mSeq (mAsg (rCallB (f_goes) [] (aBw 1 (aBw 2 aNil))) (gN 4)) (mSeq (mIf (rOp dNeX (rCallB (f_goes) [] (aE (rTup (aE m_law_moved_right_1 (aE (rOp dIx (rFz 1) (rV (vC (.int 1)))) aNil))) (aBw 2 aNil))) (rTup (aE (rV (vOp dAdd (vOp dIx (vVar 4) (vC (.int 0))) (vVar 3))) (aE (rV (vOp dAdd (vOp dIx (vVar 4) (vC (.int 1))) (vVar 3))) aNil)))) (mRet (rV (vC (.bl false)))) mNx) (mSeq (mAsg (rCallB (f_behind) [] (aBw 1 (aBw 2 aNil))) (gN 6)) (mSeq (mIf (rV (vOp dLt (vB dLen (vCons (vOp dIx (vVar 1) (vC (.int 0))) vNil)) (vC (.int 12)))) (mSeq (mAsg (rTup (aE (rOp dPl (rLst (aE (rFz 3) aNil)) m_law_moved_right_3) (aE m_law_moved_right_2 aNil))) (gN 7)) (mSeq (mAsg (rTup (aE (rOp dPl (rLst (aE (rFz 3) aNil)) m_law_moved_right_5) (aE m_law_moved_right_4 aNil))) (gN 9)) (mSeq (mIf (rOpEV dNeX (rCallB (f_behind) [] (aBw 7 (aBw 2 aNil))) (vVar 9)) (mRet (rV (vC (.bl false)))) mNx) (mSeq (mAsg (rV (vOp dAdd (vOp dAdd (vB dMax2 (vCons (vOp dIx (vOp dIx (vVar 1) (vC (.int 0))) (vUn dNeg (vC (.int 1)))) (vCons (vOp dIx (vVar 4) (vC (.int 1))) vNil))) (vC (.int 1))) (vVar 3))) (gN 10)) (mIf (rOp dNeX (rCallB (f_behind) [] (aE (rTup (aE (rOp dPl (rOp dIx (rFz 1) (rV (vC (.int 0)))) (rLst (aE (rFz 10) aNil))) (aE (rNV dList (vCons (vOp dIx (vVar 1) (vC (.int 1))) vNil)) aNil))) (aBw 2 aNil))) (rTup (aE (rOp dPl (rOp dIx (rFz 6) (rV (vC (.int 0)))) (rLst (aE (rFz 10) aNil))) (aE (rOp dIx (rFz 6) (rV (vC (.int 1)))) aNil)))) (mRet (rV (vC (.bl false)))) mNx))))) mNx) (mSeq (mIf (rV (vOp dLt (vB dLen (vCons (vOp dIx (vVar 1) (vC (.int 1))) vNil)) (vC (.int 12)))) (mSeq (mAsg (rCall (f_law_leaf) [] (aIo 0 (aE (rV (vB dLen (vCons (vOp dIx (vVar 1) (vC (.int 0))) vNil))) aNil))) (gN 8)) (mSeq (mAsg (rTup (aE (rNV dList (vCons (vOp dIx (vVar 1) (vC (.int 0))) vNil)) (aE (rOp dPl (rOp dIx (rFz 1) (rV (vC (.int 1)))) (rLst (aE (rFz 8) aNil))) aNil))) (gN 7)) (mIf (rOr (rOp dNeX (rCallB (f_behind) [] (aBw 7 (aBw 2 aNil))) (rTup (aE (rOp dIx (rFz 6) (rV (vC (.int 0)))) (aE (rOp dPl (rOp dIx (rFz 6) (rV (vC (.int 1)))) (rLst (aE (rFz 8) aNil))) aNil)))) (rOp dNeX (rCallB (f_opens) [] (aBw 7 aNil)) (rOp dPl (rCallB (f_opens) [] (aBw 1 aNil)) (rLst (aE (rV (vOp dIx (vOp dIx (vVar 1) (vC (.int 0))) (vVar 8))) aNil))))) (mRet (rV (vC (.bl false)))) mNx))) mNx) (mRet (rV (vC (.bl true))))))))))
def f_law_moved_right : Fn := defFn 11 [true, false, false] m_law_moved_right
def m_LAW_k06_1 : MS := (mIf (rNot (rCallB (f_law_apart_right) [] (aBw 4 (aE (rCallB (f_law_going) [] (aIo 2 (aBw 4 aNil))) (aE (rCallB (f_law_going) [] (aIo 2 (aBw 4 aNil))) aNil))))) (mRet (rV (vC (.bl false)))) mNx)
def m_LAW_k06_2 : MS := mFor (iR1 (aE (rV (vC (.int 4))) aNil)) (gN 5) m_LAW_k06_1
def m_LAW_k06_3 : ME := rLc [6] (iE (rOp dIx (rFz 4) (rV (vC (.int 0))))) (gN 6) rYes (rV (vOp dMul (vVar 6) (vC (.int 40))))
def m_LAW_k06_4 : MS := (mSeq (mAsg (rCall (f_law_leaf) [] (aIo 2 (aE (rV (vB dLen (vCons (vOp dIx (vVar 4) (vC (.int 0))) vNil))) aNil))) (gN 8)) (mIf (rNot (rCallB (f_law_apart_right) [] (aBw 4 (aE (rTup (aE (rFz 7) (aE (rOp dPl (rV (vC (.int 1))) (rCall (f_law_leaf) [] (aIo 2 (aE (rV (vC (.int 39))) aNil)))) aNil))) (aE (rTup (aE (rFz 8) (aE (rOp dPl (rV (vC (.int 1))) (rCall (f_law_leaf) [] (aIo 2 (aE (rV (vC (.int 39))) aNil)))) aNil))) aNil))))) (mRet (rV (vC (.bl false)))) mNx))
def m_LAW_k06_5 : MS := mFor (iR1 (aE (rV (vB dLen (vCons (vOp dIx (vVar 4) (vC (.int 0))) vNil))) aNil)) (gN 7) m_LAW_k06_4
def m_LAW_k06_6 : MS := (mSeq (mAsg (rCall (f_law_lay) [] (aIo 2 (aE (rV (vC (.int 12))) aNil))) (gN 4)) (mSeq m_LAW_k06_2 (mSeq (mIf (rNot (rCallB (f_law_moved_right) [] (aIo 2 (aBw 4 (aE (rCallB (f_law_going) [] (aIo 2 (aBw 4 aNil))) aNil))))) (mRet (rV (vC (.bl false)))) mNx) (mSeq (mAsg (rCall (f_fresh) [] (aE m_LAW_k06_3 aNil)) (gN 4)) m_LAW_k06_5))))
def m_LAW_k06_7 : MS := mFor (iR1 (aE (rV (vC (.int 5))) aNil)) (gN 3) m_LAW_k06_6
def m_LAW_k06_8 : MS := (mSeq (mAsg (rCallB (f_law_ream) [] (aBw 0 (aBw 1 aNil))) (gN 2)) m_LAW_k06_7)
def m_LAW_k06_9 : MS := mFor (iR1 (aE (rV (vB dMax2 (vCons (vC (.int 1)) (vCons (vB dMin2 (vCons (vC (.int 8)) (vCons (vB dLen (vCons (vVar 0) vNil)) vNil))) vNil)))) aNil)) (gN 1) m_LAW_k06_8
def m_LAW_k06 : MS := (mSeq m_LAW_k06_9 (mRet (rV (vC (.bl true)))))
def f_LAW_k06 : Fn := defFn 9 [false] m_LAW_k06
end PM
namespace PM
open PySem L2 PyProof.Rows DL
theorem firstAt_ints (e : Int) : ∀ (xs : List Int) (i k : Nat), xs[k]? = some e → (∀ j, j < k → xs[j]? ≠ some e) → firstAt (.int e) i (xs.map PyData.int) = some (i + k)
  | [], i, k, h, _ => by simp at h
  | a :: r, i, k, h, h2 => by
    show (if PyData.eqv (.int a) (.int e) = true then some i else firstAt (.int e) (i + 1) (r.map PyData.int)) = _
    have q : PyData.eqv (.int a) (.int e) = decide (a = e) := by
      have := eqv_ints [a] [e]
      simpa [PyData.eqvAll] using this
    rw [q]
    cases k with
    | zero =>
      have : a = e := by simpa using h
      rw [decide_eq_true this]; rfl
    | succ k =>
      have n : a ≠ e := fun z => h2 0 (Nat.succ_pos _) (by simp [z])
      rw [decide_eq_false n]
      have := firstAt_ints e r (i + 1) k (by simpa using h) (fun j hj => by
        have := h2 (j + 1) (by omega)
        simpa using this)
      rw [if_neg (by simp), this]
      congr 1; omega
theorem dIndex_ints (o : Bool) {xs : List Int} {e : Int} {k : Nat} (h : xs[k]? = some e) (h2 : ∀ j, j < k → xs[j]? ≠ some e) : dIndex (il o xs) [.int e] = some (.int k) := by
  unfold dIndex
  rw [toPy_ints]
  show (if (SeqAt.shaped (.list (xs.map PyData.int)) && SeqAt.shaped (.int e)) = true then (firstAt (.int e) 0 (xs.map PyData.int)).map fun j => D.int (j : Nat) else none) = _
  rw [shaped_ints, firstAt_ints e xs 0 k h h2]
  simp [SeqAt.shaped, PyData.canLay0, PyData.depth]
theorem put_idx (o : Bool) {xs : List Int} {e : Int} (h : xs.Pairwise (· < ·)) : dIndex (il o (put xs e)) [.int e] = some (.int (pos xs e)) := by
  refine dIndex_ints o (put_at? xs e) fun j hj hq => ?_
  have h1 := (pos_cut e h).1
  unfold put at hq
  rw [List.getElem?_append_left (by have := pos_le xs e; simp; omega), h1] at hq
  have := List.mem_filter.mp (List.mem_of_getElem? hq)
  simp at this
/-- a reading -/
abbrev rdg (r : Nat) (p : Int) : D := .nd .tup false [.int r, .int p]
theorem gone_while (v0 v1 v2 v3 v4 v5 v6 v9 : Option D) (o : Bool) (xs : List Int) : ∀ (k : Nat) (e : Int) (n : Nat), k < n → (xs.filter fun x => decide (e ≤ x)).length < k → mWhile (rV (vOp dIn (vVar 8) (vVar 7))) m_gone_1 n [v0, v1, v2, v3, v4, v5, v6, some (il o xs), some (.int e), v9] = .nx [v0, v1, v2, v3, v4, v5, v6, some (il o xs), some (.int (land k xs e)), v9]
  | 0, e, n, _, h => absurd h (by omega)
  | k + 1, e, n + 1, hn, h => by
    unfold land
    by_cases m : e ∈ xs
    · rw [if_pos m, while_go (ρ1 := [v0, v1, v2, v3, v4, v5, v6, some (il o xs), some (.int e), v9]) (ρ2 := [v0, v1, v2, v3, v4, v5, v6, some (il o xs), some (.int (e + 1)), v9]) (by simp -implicitDefEqProofs [m]) (by simp -implicitDefEqProofs [m_gone_1])]
      exact gone_while v0 v1 v2 v3 v4 v5 v6 v9 o xs k (e + 1) n (by omega) (by have := filter_lt m; omega)
    · rw [if_neg m, while_stop (ρ1 := [v0, v1, v2, v3, v4, v5, v6, some (il o xs), some (.int e), v9]) (by simp -implicitDefEqProofs [m])]
  | k + 1, e, 0, hn, h => absurd hn (by omega)
theorem sIx_nat (n d k : Nat) : HT.sIx n d (some (k : Int)) = min k n := by
  show (if (k : Int) < 0 then ((k : Int) + n).toNat else min (k : Int).toNat n) = _
  rw [if_neg (by omega), Int.toNat_natCast]
theorem sIx_none (n d : Nat) : HT.sIx n d none = d := rfl
theorem cut_to (xs : List Int) (k : Nat) : cutI xs none (some (k : Int)) = xs.take k := by
  unfold cutI
  rw [sIx_nat, sIx_none]; simp
theorem cut_from (xs : List Int) (k : Nat) : cutI xs (some (k : Int)) none = xs.drop k := by
  unfold cutI
  rw [sIx_nat, sIx_none]
  by_cases h : k ≤ xs.length
  · rw [Nat.min_eq_left h, List.take_of_length_le (by simp)]
  · rw [Nat.min_eq_right (by omega)]; simp; omega
theorem gone {ms : List Int} {cs : List Nat} (h : St ms cs) (o : Bool) {r : Nat} (hr : r < cs.length) (p : Int) : f_gone [sd o ms cs, rdg r p] = .ok (.nd .tup false [.nd .tup false [.int (opg ms cs r), .int (toP ms cs r p)], sd true (lat ms cs r p) (cts ms cs r p)]) [none, none] := by
  have hc := h.at hr
  obtain ⟨c, ec⟩ : ∃ c, c = cs.getD r 0 := ⟨_, rfl⟩
  rw [← ec] at hc
  have ec' : cs[r] = c := by rw [ec, List.getD_eq_getElem?_getD, List.getElem?_eq_getElem hr]; rfl
  have a1 := atN hr
  rw [ec'] at a1
  have a2 := atG hc
  have ep : ms[c] = opg ms cs r := by
    unfold opg
    rw [← ec, List.getD_eq_getElem?_getD, List.getElem?_eq_getElem hc]; rfl
  rw [ep] at a2
  have s1 := cut_to ms c
  have s2 : cutI ms (some ((c : Int) + 1)) none = ms.drop (c + 1) := cut_from ms (c + 1)
  have s3 := cut_to (nI cs) r
  have s4 : cutI (nI cs) (some ((r : Int) + 1)) none = (nI cs).drop (r + 1) := cut_from (nI cs) (r + 1)
  have hl := h.m.le
  have hl2 := h.le
  have ol := oth_len hc
  have ou := oth_up c h.m.up
  have on : toP ms cs r p ∉ oth ms c := by rw [ec]; exact h.out hr
  have w := gone_while none (some (rdg r p)) (some (il o ms)) (some (il o (nI cs))) (some (.int r)) (some (.int p)) (some (.int c)) none true (oth ms c) 13 (opg ms cs r + p) 100 (by omega) (Nat.lt_of_le_of_lt (List.length_filter_le ..) (by omega))
  have ew : land 13 (oth ms c) (opg ms cs r + p) = toP ms cs r p := by unfold toP; rw [ec]
  rw [ew] at w
  have q1 : dPl (il true (ms.take c)) (il true (ms.drop (c + 1))) = some (il true (oth ms c)) := pl_il _ _ _ _ (by simp; omega)
  have q0 : dPl (il true (oth ms c)) (.nd .lst true [.int (toP ms cs r p)]) = some (il true (oth ms c ++ [toP ms cs r p])) := pl_il true true _ [toP ms cs r p] (by simp; omega)
  have q2 : dSorted [il true (oth ms c ++ [toP ms cs r p])] = some (il true (lat ms cs r p)) := by
    rw [sorted_il, put_isort ou on]
    unfold lat; rw [← ec]
  have q3 : dIndex (il true (lat ms cs r p)) [.int (toP ms cs r p)] = some (.int (cnt ms cs r p)) := by
    unfold lat cnt
    rw [← ec]
    exact put_idx true ou
  have ce : cts ms cs r p = cs.take r ++ cnt ms cs r p :: cs.drop (r + 1) := by
    unfold cts; rw [List.set_eq_take_append_cons_drop, if_pos hr]
  have q4 : dPl (il true ((nI cs).take r)) (.nd .lst true [.int (cnt ms cs r p : Int)]) = some (il true ((nI cs).take r ++ [(cnt ms cs r p : Int)])) := pl_il true true _ [(cnt ms cs r p : Int)] (by simp; omega)
  have q5 : dPl (il true ((nI cs).take r ++ [(cnt ms cs r p : Int)])) (il true ((nI cs).drop (r + 1))) = some (il true (nI (cts ms cs r p))) := by
    rw [pl_il _ _ _ _ (by simp; omega), ce]
    simp [nI]
  unfold f_gone
  rw [defFn_ap]
  generalize cts ms cs r p = ct at *
  generalize oth ms c ++ [toP ms cs r p] = ap at *
  generalize (nI cs).take r ++ [(cnt ms cs r p : Int)] = aq at *
  generalize lat ms cs r p = la at *
  generalize toP ms cs r p = to at *
  generalize opg ms cs r = op at *
  generalize cnt ms cs r p = cn at *
  generalize ms.take c = x1 at *
  generalize ms.drop (c + 1) = x2 at *
  generalize (nI cs).take r = x3 at *
  generalize (nI cs).drop (r + 1) = x4 at *
  simp -implicitDefEqProofs [m_gone, a1, a2, s1, s2, s3, s4, q1, q0, w, q2, q3, q4, q5]
end PM
namespace PM
open PySem L2 PyProof.Rows DL
theorem St.fresh {ms : List Int} (h : Up ms) : St ms (List.range ms.length) := ⟨h, by simpa using h.ne, by simpa using h.le, fun c hc => List.mem_range.mp hc⟩
/-- a drawn stand -/
theorem lay {n : Nat} {d : D} (h : Ok n d) (hn : n < 2 ^ 28) (most : Nat) (m0 : 0 < most) (m1 : most ≤ 12) :
    ∃ d' ms cs, f_law_lay [d, .int most] = .ok (sd true ms cs) [some d', none] ∧ Ok (n + 100) d' ∧ St ms cs ∧ ms.length ≤ most ∧ Bd 2000000000000000000000000000000 ms := by
  obtain ⟨d1, ms, e1, o1, up, hl, bd⟩ := slips h (by omega) most m0 m1
  obtain ⟨r, d2, e2, a2, b2, o2⟩ := leaf 2 o1 (by omega) (by omega) (by omega)
  have hlen := up.le
  have hrg := rRg1_s (f := vB dLen (vCons (vVar 2) vNil)) (ρ := [some d2, some (.int most), some (il true ms), none]) (n := ms.length) (by simp) (by omega)
  by_cases z : r = 0
  · subst z
    refine ⟨d2, ms, List.range ms.length, ?_, o2.le (by omega), St.fresh up, hl, bd⟩
    unfold f_law_lay
    rw [defFn_ap]
    simp -implicitDefEqProofs [m_law_lay, e1, e2, hrg, o1.okB]
  · obtain ⟨k, d3, e3, b3, o3⟩ := leafN 12 o2 (by omega) (by omega) (by omega)
    have e4 : ∀ ρ, iR1V ρ (some [.int (1 + (k : Int))]) = some (rgD 0 (1 + (k : Int)), ρ) := fun ρ => iR1V_s (by omega) (by omega)
    obtain ⟨I, hI⟩ : ∃ I : Nat → List D → DL.Env → Prop, I = fun i acc ρ => ∃ d' cs, ρ = [some d', some (.int most), some (il true ms), none] ∧ acc = (nI cs).map .int ∧ cs.length = i ∧ (∀ c ∈ cs, c < ms.length) ∧ Ok (n + 60 + i) d' := ⟨_, rfl⟩
    obtain ⟨xs, ρ', e5, hL⟩ := rLc_I (own := [3]) (f := iR1 (aE (rOp dPl (rV (vC (.int 1))) (rCall (f_law_leaf) [] (aIo 0 (aE (rV (vC (.int 12))) aNil)))) aNil)) (m := gN 3) (te := rCall (f_law_leaf) [] (aIo 0 (aE (rV (vB dLen (vCons (vVar 2) vNil))) aNil)))
      (ρ := [some d2, some (.int most), some (il true ms), none]) (ρ1 := [some d3, some (.int most), some (il true ms), none]) (ds := rgD 0 (1 + (k : Int)))
      I
      (by simp -implicitDefEqProofs [e3, e4]) (by rw [rgD_len]; omega) (by rw [hI]; exact ⟨d3, [], rfl, rfl, rfl, by simp, o3.le (by omega)⟩) (by
        intro i dd acc ρ hd hi'
        rw [hI] at hi'
        obtain ⟨d', cs, rfl, rfl, c1, c2, o⟩ := hi'
        obtain ⟨rfl, hi⟩ := rgD_at hd
        obtain ⟨q, d'', e, lt, o'⟩ := leafN (ms.length : Int) o (by omega) (by have := up.ne; omega) (by omega)
        refine ⟨_, rfl, ?_⟩
        simp -implicitDefEqProofs [e]
        rw [hI]
        exact ⟨d'', cs ++ [q], rfl, by simp, by simp; omega, by
          intro c hc
          rcases List.mem_append.mp hc with hc | hc
          · exact c2 c hc
          · rw [List.mem_singleton.mp hc]; omega, o'.le (by omega)⟩)
    rw [hI] at hL
    obtain ⟨d4, cs, rfl, rfl, c1, c2, o4⟩ := hL
    rw [rgD_len] at c1 o4
    refine ⟨d4, ms, cs, ?_, o4.le (by omega), ⟨up, by omega, by omega, c2⟩, hl, bd⟩
    unfold f_law_lay
    rw [defFn_ap]
    have e6 : m_law_lay_1 [some d2, some (.int most), some (il true ms), none] = _ := e5
    simp -implicitDefEqProofs [m_law_lay, e1, e2, z, o1.okB, e6]
end PM
namespace PM
open PySem L2 PyProof.Rows DL
def big : Int := 10000000000000000000000000000000
def isRd (n : Int) : D → Bool
  | .nd .tup _ [a, b] => wh a 0 (.int (n - 1)) && wh b 1 (.int 10000000000000000000000000000000)
  | _ => false
theorem readingOf (n : Int) (d : D) (h : Pl d = true) (hs : noOwn d = true) : f_is_reading_of [.int n, d] = .ok (.bl (isRd n d)) [none, none] := by
  unfold f_is_reading_of
  rw [defFn_ap]
  cases d with
  | non => simp -implicitDefEqProofs [m_is_reading_of, isD, isRd]
  | bl b => simp -implicitDefEqProofs [m_is_reading_of, isD, isRd]
  | int i => simp -implicitDefEqProofs [m_is_reading_of, isD, isRd]
  | str x => simp -implicitDefEqProofs [m_is_reading_of, isD, isRd]
  | nd k o xs =>
    cases k with
    | fzl => cases h
    | obj C ns => cases h
    | exn C ns => cases h
    | lst => simp -implicitDefEqProofs [m_is_reading_of, isD, isRd]
    | dct ks => simp -implicitDefEqProofs [m_is_reading_of, isD, isRd]
    | dtt ks => simp -implicitDefEqProofs [m_is_reading_of, isD, isRd]
    | tup =>
      by_cases l : xs.length = 2
      · obtain ⟨a, b, rfl⟩ : ∃ a b, xs = [a, b] := by
          match xs, l with
          | [a, b], _ => exact ⟨a, b, rfl⟩
        have hp : Pl a = true ∧ Pl b = true := by
          have : (Pl a && (Pl b && true)) = true := h
          simpa using this
        have ho : o = false ∧ noOwn a = true ∧ noOwn b = true := by simpa using hs
        have e1 := whole a hp.1 0 (.int (n - 1)) (.inr ⟨_, rfl⟩)
        have e2 := whole b hp.2 1 (.int 10000000000000000000000000000000) (.inr ⟨_, rfl⟩)
        have rk : ∀ (x : D) (ρ : DL.Env), noOwn x = true → rVK (some x) ρ = .ok x ρ := fun x ρ hx => by
          show (if noOwn x = true then _ else _) = _
          rw [if_pos hx]
        have fm : isRd n (.nd .tup o [a, b]) = (wh a 0 (.int (n - 1)) && wh b 1 (.int 10000000000000000000000000000000)) := rfl
        rw [fm]
        by_cases z : wh a 0 (.int (n - 1)) = true
        · rw [z] at e1 ⊢
          simp -implicitDefEqProofs [m_is_reading_of, isD, e1, e2, rk _ _ ho.2.1, rk _ _ ho.2.2]
        · rw [Bool.not_eq_true] at z
          rw [z] at e1 ⊢
          simp -implicitDefEqProofs [m_is_reading_of, isD, e1, rk _ _ ho.2.1]
      · have l' : ¬ (xs.length : Int) = 2 := by omega
        have fm : isRd n (.nd .tup o xs) = false := by
          unfold isRd
          split
          · rename_i h2
            cases h2
            simp at l
          · rfl
        rw [fm]
        simp -implicitDefEqProofs [m_is_reading_of, isD, l']
theorem isRd_rdg {n r : Nat} {p : Int} (hr : r < n) (h1 : 1 ≤ p) (h2 : p ≤ big) : isRd n (rdg r p) = true := by
  unfold big at h2
  simp [isRd, wh]
  omega
theorem needReading {ms : List Int} {cs : List Nat} (o : Bool) {r : Nat} (hr : r < cs.length) {p : Int} (h1 : 1 ≤ p) (h2 : p ≤ big) : f_need_reading [sd o ms cs, rdg r p] = .ok .non [none, none] := by
  have e1 := readingOf (cs.length : Int) (rdg r p) rfl rfl
  rw [isRd_rdg hr h1 h2] at e1
  have e2 : f_is_reading [sd false ms cs, rdg r p] = .ok (.bl true) [none, none] := by
    unfold f_is_reading
    rw [defFn_ap]
    simp -implicitDefEqProofs [m_is_reading, e1]
  unfold f_need_reading
  rw [defFn_ap]
  simp -implicitDefEqProofs [m_need_reading, e2]
section
variable {ms : List Int} {cs : List Nat} (h : St ms cs) {r : Nat} (hr : r < cs.length) {p : Int} (h1 : 1 ≤ p) (h2 : p ≤ big)
include h hr h1 h2
theorem behindX {x : D} (hx : frz x = sd false ms cs) (hn : noObj x = true) : f_behind [x, rdg r p] = .ok (sd true (lat ms cs r p) (cts ms cs r p)) [none, none] := by
  have e1 := needStand h false
  have e2 := needReading (ms := ms) false hr h1 h2
  have e3 := gone h false hr p
  unfold f_behind
  rw [defFn_ap]
  generalize lat ms cs r p = la at *
  generalize cts ms cs r p = ct at *
  generalize toP ms cs r p = to at *
  generalize opg ms cs r = op at *
  simp -implicitDefEqProofs [m_behind, hx, hn, e1, e2, e3]
theorem goesX {x : D} (hx : frz x = sd false ms cs) (hn : noObj x = true) : f_goes [x, rdg r p] = .ok (.nd .tup false [.int (opg ms cs r), .int (toP ms cs r p)]) [none, none] := by
  have e1 := needStand h false
  have e2 := needReading (ms := ms) false hr h1 h2
  have e3 := gone h false hr p
  unfold f_goes
  rw [defFn_ap]
  generalize lat ms cs r p = la at *
  generalize cts ms cs r p = ct at *
  generalize toP ms cs r p = to at *
  generalize opg ms cs r = op at *
  simp -implicitDefEqProofs [m_goes, hx, hn, e1, e2, e3]
theorem behind (o : Bool) : f_behind [sd o ms cs, rdg r p] = .ok (sd true (lat ms cs r p) (cts ms cs r p)) [none, none] := behindX h hr h1 h2 (by simp) (by simp)
theorem goes (o : Bool) : f_goes [sd o ms cs, rdg r p] = .ok (.nd .tup false [.int (opg ms cs r), .int (toP ms cs r p)]) [none, none] := goesX h hr h1 h2 (by simp) (by simp)
end
end PM
namespace PM
open PySem L2 PyProof.Rows DL
theorem pickN {xs : List D} {r : Nat} (h : r < xs.length) : ∃ x, L2.atI xs (r : Int) = some x ∧ x ∈ xs := ⟨_, atL h, List.getElem_mem h⟩
/-- a drawn reading -/
theorem going {n : Nat} {R : D} (h : Ok n R) (hn : n < 2 ^ 30) {ms : List Int} {cs : List Nat} (st : St ms cs) :
    ∃ R' r p, f_law_going [R, sd false ms cs] = .ok (rdg r p) [some R', none] ∧ Ok (n + 10) R' ∧ r < cs.length ∧ 1 ≤ p ∧ p ≤ big := by
  have l1 := st.ne
  have l2 := st.m.ne
  have l3 := st.le
  have l4 := st.m.le
  obtain ⟨r, R1, e1, b1, o1⟩ := leafN (cs.length : Int) h (by omega) (by omega) (by omega)
  obtain ⟨k, R2, e2, b2, o2⟩ := leafN (ms.length : Int) o1 (by omega) (by omega) (by omega)
  obtain ⟨q1, R3, e3, a3, b3, o3⟩ := leaf 4 o2 (by omega) (by omega) (by omega)
  obtain ⟨q2, R4, e4, a4, b4, o4⟩ := leaf 60 o3 (by omega) (by omega) (by omega)
  obtain ⟨q3, R5, e5, a5, b5, o5⟩ := leaf 100000000000000000000000000000 o4 (by omega) (by omega) (by omega)
  obtain ⟨j, R6, e6, b6, o6⟩ := leafN 6 o5 (by omega) (by omega) (by omega)
  have hr : r < cs.length := by omega
  have hk : k < ms.length := by omega
  have a1 := atN hr
  have hc := st.lt _ (List.getElem_mem hr)
  have a2 := atG hc
  have a3' := atG hk
  generalize cs[r] = c at a1 hc a2
  generalize ms[c] = x at a2
  generalize ms[k] = y at a3'
  obtain ⟨v, hv, v1, v2⟩ : ∃ v, v = (if (if y - x > 1 then y - x else 1) < 10000000000000000000000000000000 then (if y - x > 1 then y - x else 1) else 10000000000000000000000000000000) ∧ 1 ≤ v ∧ v ≤ big := ⟨_, rfl, by split <;> split <;> omega, by unfold big; split <;> split <;> omega⟩
  obtain ⟨d, ed, hd⟩ := pickN (xs := [.int 1, .int (1 + q1), .int (1 + q2), .int (1 + q3), .int 10000000000000000000000000000000, .int v]) (r := j) (by simp; omega)
  obtain ⟨p, rfl, p1, p2⟩ : ∃ p : Int, d = .int p ∧ 1 ≤ p ∧ p ≤ big := by
    simp only [List.mem_cons, List.not_mem_nil, or_false] at hd
    unfold big at v2 ⊢
    rcases hd with rfl | rfl | rfl | rfl | rfl | rfl <;> exact ⟨_, rfl, by omega, by omega⟩
  refine ⟨R6, r, p, ?_, o6.le (by omega), hr, p1, p2⟩
  have pl := pl_s true true [.int 1, .int (1 + q1), .int (1 + q2), .int (1 + q3), .int 10000000000000000000000000000000] [.int v] (by simp) (by simp) (by simp)
  unfold f_law_going
  rw [defFn_ap]
  simp -implicitDefEqProofs [m_law_going, e1, e2, e3, e4, e5, e6, a1, a2, a3', p10_29, p10_31, ← hv, pl, ed]
end PM
namespace PM
open PySem L2 PyProof.Rows DL
def m_law_apart_1 : MS := (mDo (rMtN uApp 3 (aE (rTup (aE (rFz 2) (aE (rV (vC (.int 99))) aNil))) aNil)))
def m_law_apart_2 : MS := mFor (iEn (aE (rFz 0) aNil)) (gT 2 (gsCons (gN 2) (gsCons (gN 3) gsNil))) m_law_apart_1
def m_law_apart_3 : ME := rLc [2, 3] (iEn (aE (rFz 1) aNil)) (gT 2 (gsCons (gN 2) (gsCons (gN 3) gsNil))) rYes (rOpNE dPl 3 (rLst (aE (rTup (aE (rFz 2) (aE (rV (vC (.int 99))) aNil))) aNil)))
def m_law_apart : MS := (mSeq m_law_apart_2 (mRet (rOpNE dEqX 0 m_law_apart_3)))
def f_law_apart : Fn := defFn 4 [false, false] m_law_apart
def m_law_diaries_1 : ME := rLc [4] (iR1 (aE (rFz 0) aNil)) (gN 4) rYes (rLst aNil)
def m_law_diaries_2 : MS := (mDo (rMtV uApp 3 (pIx 3 pN (vVar 4)) (vCons (vVar 6) vNil)))
def m_law_diaries_3 : MS := mFor (iZ (aE (rFz 1) (aE (rFz 2) aNil))) (gT 2 (gsCons (gT 2 (gsCons (gN 4) (gsCons (gN 5) gsNil))) (gsCons (gN 6) gsNil))) m_law_diaries_2
def m_law_diaries : MS := (mSeq (mAsg m_law_diaries_1 (gN 3)) (mSeq m_law_diaries_3 (mRet (rMv 3))))
def f_law_diaries : Fn := defFn 7 [false, false, false] m_law_diaries
def m_law_history_1 : MS := (mSeq (mAsg (rLst (aE (rIxN 3 (rCall (f_law_snip) [] (aIo 0 (aE (rV (vB dLen (vCons (vVar 3) vNil))) aNil)))) (aE (rIxN 3 (rCall (f_law_snip) [] (aIo 0 (aE (rV (vB dLen (vCons (vVar 3) vNil))) aNil)))) aNil))) (gN 7)) (mSeq (mAsg (rLst (aE (rOp dPl (rV (vC (.int 1))) (rCall (f_law_snip) [] (aIo 0 (aE (rV (vC (.int 4))) aNil)))) (aE (rB dMax2 (aE (rV (vC (.int 1))) (aE (rOpEV dSub (rOp dPl (rV (vB dAbs (vCons (vOp dSub (vOp dIx (vVar 7) (vC (.int 0))) (vOp dIx (vVar 7) (vC (.int 1)))) vNil))) (rCall (f_law_snip) [] (aIo 0 (aE (rV (vC (.int 3))) aNil)))) (vC (.int 1))) aNil))) aNil))) (gN 8)) (mSeq (mDo (rMtN uApp 8 (aE (rOp dPl (rV (vC (.int 1))) (rCall (f_law_snip) [] (aIo 0 (aE (rOp dIx (rLst (aE (rV (vC (.int 40))) (aE (rV (vOp dPow (vC (.int 10)) (vC (.int 31)))) aNil))) (rCall (f_law_snip) [] (aIo 0 (aE (rV (vC (.int 2))) aNil)))) aNil)))) aNil))) (mDo (rMtN uApp 5 (aE (rTup (aE (rCall (f_law_snip) [] (aIo 0 (aE (rV (vB dLen (vCons (vVar 4) vNil))) aNil))) (aE (rIxN 8 (rCall (f_law_snip) [] (aIo 0 (aE (rV (vC (.int 3))) aNil)))) aNil))) aNil))))))
def m_law_history_2 : MS := mFor (iR1 (aE (rCall (f_law_snip) [] (aIo 0 (aE (rV (vOp dAdd (vVar 2) (vC (.int 1)))) aNil))) aNil)) (gN 6) m_law_history_1
def m_law_history : MS := (mSeq (mAsg (rMv 1) (gT 2 (gsCons (gN 3) (gsCons (gN 4) gsNil)))) (mSeq (mAsg (rLst aNil) (gN 5)) (mSeq m_law_history_2 (mRet (rMv 5)))))
def f_law_history : Fn := defFn 9 [true, false, false] m_law_history
def m_law_marks_1 : MS := (mSeq (mDo (rMtV uApp 4 pN (vCons (vVar 3) vNil))) (mAsg (rOp dPl (rV (vOp dAdd (vVar 3) (vC (.int 1)))) (rCallB (f_law_snip) [] (aIo 0 (aBw 2 aNil)))) (gN 3)))
def m_law_marks_2 : MS := mFor (iR1 (aE (rOp dPl (rV (vC (.int 1))) (rCallB (f_law_snip) [] (aIo 0 (aBw 1 aNil)))) aNil)) (gN 5) m_law_marks_1
def m_law_marks : MS := (mSeq (mAsg (rOp dIx (rLst (aE (rV (vC (.int 1))) (aE (rV (vC (.int 4))) (aE (rV (vC (.int 60))) (aE (rV (vOp dPow (vC (.int 10)) (vC (.int 29)))) aNil))))) (rCall (f_law_snip) [] (aIo 0 (aE (rV (vC (.int 4))) aNil)))) (gN 2)) (mSeq (mAsg (rCall (f_law_snip) [] (aIo 0 (aE (rV (vC (.int 4))) aNil))) (gN 3)) (mSeq (mAsg (rLst aNil) (gN 4)) (mSeq m_law_marks_2 (mRet (rMv 4))))))
def f_law_marks : Fn := defFn 6 [true, false] m_law_marks
def m_law_stand_1 : ME := rLc [4] (iR1 (aE (rFz 3) aNil)) (gN 4) rYes (rCall (f_law_snip) [] (aIo 0 (aE (rV (vB dLen (vCons (vVar 2) vNil))) aNil)))
def m_law_stand : MS := (mSeq (mAsg (rCallB (f_law_marks) [] (aIo 0 (aBw 1 aNil))) (gN 2)) (mSeq (mIf (rOpEV dEqX (rCall (f_law_snip) [] (aIo 0 (aE (rV (vC (.int 2))) aNil))) (vC (.int 0))) (mRet (rTup (aMv 2 (aE (rRg1 (vB dLen (vCons (vVar 2) vNil))) aNil)))) mNx) (mSeq (mAsg (rOp dPl (rV (vC (.int 1))) (rCallB (f_law_snip) [] (aIo 0 (aBw 1 aNil)))) (gN 3)) (mRet (rTup (aMv 2 (aE m_law_stand_1 aNil)))))))
def f_law_stand : Fn := defFn 5 [true, false] m_law_stand
def m_law_read_1 : MS := (mAsg (rV (vOp dAdd (vVar 6) (vC (.int 1)))) (gN 6))
def m_law_read_2 : ME := rLc [7] (iE (rFz 3)) (gN 7) (rV (vOp dLt (vVar 7) (vVar 6))) (rFz 7)
def m_law_read : MS := (mSeq (mPar [3, 4] (aE (rNV dList (vCons (vOp dIx (vVar 0) (vC (.int 0))) vNil)) (aE (rNV dList (vCons (vOp dIx (vVar 0) (vC (.int 1))) vNil)) aNil))) (mSeq (mAsg (rMtV uPopAt 3 pN (vCons (vOp dIx (vVar 4) (vVar 1)) vNil)) (gN 5)) (mSeq (mAsg (rV (vOp dAdd (vVar 5) (vVar 2))) (gN 6)) (mSeq (mWhile (rV (vOp dIn (vVar 6) (vVar 3))) m_law_read_1 100) (mSeq (mAsg (rB dLen (aE (rLend [] m_law_read_2) aNil)) (mSet 4 pN (vVar 1))) (mSeq (mDo (rMtV uIns 3 pN (vCons (vOp dIx (vVar 4) (vVar 1)) (vCons (vVar 6) vNil)))) (mRet (rTup (aE (rTup (aE (rFz 5) (aE (rFz 6) aNil))) (aE (rTup (aMv 3 (aMv 4 aNil))) aNil))))))))))
def f_law_read : Fn := defFn 8 [false, false, false] m_law_read
def m_law_through_1 : MS := (mSeq (mAsg (rLend [] (rCallB (f_law_read) [] (aE (rOp dIx (rFz 3) (rV (vUn dNeg (vC (.int 1))))) (aBw 4 (aBw 5 aNil))))) (gT 2 (gsCons (gN 6) (gsCons (gN 7) gsNil)))) (mSeq (mDo (rMtV uApp 2 pN (vCons (vVar 6) vNil))) (mDo (rMtN uApp 3 (aMv 7 aNil)))))
def m_law_through_2 : MS := mFor (iE (rFz 1)) (gT 2 (gsCons (gN 4) (gsCons (gN 5) gsNil))) m_law_through_1
def m_law_through : MS := (mSeq (mPar [2, 3] (aE (rLst aNil) (aE (rLst (aMv 0 aNil)) aNil))) (mSeq m_law_through_2 (mRet (rTup (aMv 2 (aMv 3 aNil))))))
def f_law_through : Fn := defFn 8 [false, false] m_law_through
def m_need_history_1 : MS := (mIf (rNot (rCallB (f_is_reading) [] (aBw 0 (aBw 3 aNil)))) mNo mNx)
def m_need_history_2 : MS := mFor (iEn (aE (rFz 1) aNil)) (gT 2 (gsCons (gN 2) (gsCons (gN 3) gsNil))) m_need_history_1
def m_need_history : MS := (mSeq (mDo (rCallB (f_need_stand) [] (aBw 0 aNil))) (mSeq (mIf (rNot (rV (vIsi .list (vVar 1)))) mNo mNx) m_need_history_2))
def f_need_history : Fn := defFn 4 [false, false] m_need_history
def m_walked_1 : MS := (mSeq (mAsg (rLend [] (rCallB (f_gone) [] (aE (rOp dIx (rFz 2) (rV (vUn dNeg (vC (.int 1))))) (aBw 4 aNil)))) (gT 2 (gsCons (gN 5) (gsCons (gN 6) gsNil)))) (mSeq (mDo (rMtV uApp 3 pN (vCons (vVar 5) vNil))) (mDo (rMtN uApp 2 (aMv 6 aNil)))))
def m_walked_2 : MS := mFor (iE (rFz 1)) (gN 4) m_walked_1
def m_walked : MS := (mSeq (mAsg (rLst (aE (rTup (aE (rNV dList (vCons (vOp dIx (vVar 0) (vC (.int 0))) vNil)) (aE (rNV dList (vCons (vOp dIx (vVar 0) (vC (.int 1))) vNil)) aNil))) aNil)) (gN 2)) (mSeq (mAsg (rLst aNil) (gN 3)) (mSeq m_walked_2 (mRet (rTup (aMv 2 (aMv 3 aNil)))))))
def f_walked : Fn := defFn 7 [false, false] m_walked
def m_behind_all : MS := (mSeq (mDo (rCallB (f_need_history) [] (aBw 0 (aBw 1 aNil)))) (mRet (rOp dIx (rOp dIx (rCallB (f_walked) [] (aBw 0 (aBw 1 aNil))) (rV (vC (.int 0)))) (rV (vUn dNeg (vC (.int 1)))))))
def f_behind_all : Fn := defFn 2 [false, false] m_behind_all
def m_diaries_of_1 : ME := rLc [3] (iE (rOp dIx (rFz 0) (rV (vC (.int 1))))) (gN 3) rYes (rLst aNil)
def m_diaries_of_2 : MS := (mDo (rMtV uApp 2 (pIx 2 pN (vVar 4)) (vCons (vVar 6) vNil)))
def m_diaries_of_3 : MS := mFor (iZ (aE (rFz 1) (aE (rT (rOp dIx (rCallB (f_walked) [] (aBw 0 (aBw 1 aNil))) (rV (vC (.int 1))))) aNil))) (gT 2 (gsCons (gT 2 (gsCons (gN 4) (gsCons (gN 5) gsNil))) (gsCons (gN 6) gsNil))) m_diaries_of_2
def m_diaries_of : MS := (mSeq (mDo (rCallB (f_need_history) [] (aBw 0 (aBw 1 aNil)))) (mSeq (mAsg m_diaries_of_1 (gN 2)) (mSeq m_diaries_of_3 (mRet (rMv 2)))))
def f_diaries_of : Fn := defFn 7 [false, false] m_diaries_of
def m_LAW_k21_1 : MS := (mSeq (mAsg (rLst (aE (rCallB (f_behind_all) [] (aBw 4 (aBw 5 aNil))) (aE (rCallKB (f_diaries_of) [1, 0] (aBw 5 (aBw 4 aNil))) aNil))) (gN 11)) (mSeq (mIf (rOr (rNot (rCallB (f_law_same 4) [] (aBw 11 (aBw 8 aNil)))) (rOpEV dNeX (rB dRepr (aE (rLst (aE (rFz 4) (aE (rFz 5) aNil))) aNil)) (vVar 9))) (mRet (rV (vC (.bl false)))) mNx) (mSeq (mDo (rMtV uApp 11 (pIx 11 (pIx 11 pN (vC (.int 0))) (vC (.int 0))) (vCons (vC (.int 7)) vNil))) (mSeq (mDo (rMtV uClr 11 (pIx 11 (pIx 11 pN (vC (.int 0))) (vC (.int 1))) vNil)) (mIf (rNot (rCall (f_law_apart) [] (aE (rOp dIx (rFz 11) (rV (vC (.int 1)))) (aE (rOp dIx (rFz 8) (rV (vC (.int 1)))) aNil)))) (mRet (rV (vC (.bl false)))) mNx)))))
def m_LAW_k21_2 : MS := mFor (iR1 (aE (rV (vC (.int 2))) aNil)) (gN 10) m_LAW_k21_1
def m_LAW_k21_3 : MS := (mSeq (mAsg (rCall (f_law_stand) [] (aIo 2 (aE (rV (vC (.int 12))) aNil))) (gN 4)) (mSeq (mAsg (rCallB (f_law_history) [] (aIo 2 (aBw 4 (aE (rV (vC (.int 20))) aNil)))) (gN 5)) (mSeq (mAsg (rCall (f_law_through) [] (aE (rFz 4) (aE (rFz 5) aNil))) (gT 2 (gsCons (gN 6) (gsCons (gN 7) gsNil)))) (mSeq (mAsg (rLst (aE (rOp dIx (rFz 7) (rV (vUn dNeg (vC (.int 1))))) (aE (rCallB (f_law_diaries) [] (aE (rV (vB dLen (vCons (vOp dIx (vVar 4) (vC (.int 1))) vNil))) (aBw 5 (aBw 6 aNil)))) aNil))) (gN 8)) (mSeq (mAsg (rB dRepr (aE (rLst (aE (rFz 4) (aE (rFz 5) aNil))) aNil)) (gN 9)) (mSeq m_LAW_k21_2 (mIf (rNot (rCall (f_law_same 4) [] (aE (rCallKB (f_behind_all) [1, 0] (aBw 5 (aBw 4 aNil))) (aE (rOp dIx (rFz 8) (rV (vC (.int 0)))) aNil)))) (mRet (rV (vC (.bl false)))) mNx)))))))
def m_LAW_k21_4 : MS := mFor (iR1 (aE (rV (vC (.int 2))) aNil)) (gN 3) m_LAW_k21_3
def m_LAW_k21_5 : MS := (mSeq (mAsg (rCallB (f_law_ribbon) [] (aBw 0 (aBw 1 aNil))) (gN 2)) m_LAW_k21_4)
def m_LAW_k21_6 : MS := mFor (iR1 (aE (rV (vB dMax2 (vCons (vC (.int 1)) (vCons (vB dMin2 (vCons (vB dLen (vCons (vVar 0) vNil)) (vCons (vC (.int 8)) vNil))) vNil)))) aNil)) (gN 1) m_LAW_k21_5
def m_LAW_k21 : MS := (mSeq m_LAW_k21_6 (mRet (rV (vC (.bl true)))))
def f_LAW_k21 : Fn := defFn 12 [false] m_LAW_k21
end PM
namespace PM
open PySem L2 PyProof.Rows DL
theorem marks_turn {n : Nat} {d : D} (h : Ok n d) (hn : n < 2 ^ 30) (wide : Int) (w0 : 0 < wide) (w1 : wide ≤ 100000000000000000000000000000) (v1 v5 : Option D) (page : Int) (ms : List Int) (hl : ms.length < 1000) :
    ∃ d' page', m_law_marks_1 [some d, v1, some (.int wide), some (.int page), some (il true ms), v5] = .nx [some d', v1, some (.int wide), some (.int page'), some (il true (ms ++ [page])), v5] ∧ Ok (n + 1) d' ∧ page < page' ∧ page' ≤ page + 100000000000000000000000000001 := by
  obtain ⟨r1, d1, e1, a1, b1, o1⟩ := snip wide h (by omega) w0 (by omega)
  have e4 : uApp (ms.map D.int) [.int page] = some (.non, (ms ++ [page]).map .int) := by
    rw [app_s (by simp; omega)]; simp
  refine ⟨d1, page + 1 + r1, ?_, o1, by omega, by omega⟩
  simp -implicitDefEqProofs [m_law_marks_1, e1, e4, o1.okB, -List.map_append]
/-- drawn marks -/
theorem dmarks {n : Nat} {d : D} (h : Ok n d) (hn : n < 2 ^ 29) (most : Nat) (m0 : 0 < most) (m1 : most ≤ 12) :
    ∃ d' ms, f_law_marks [d, .int most] = .ok (il true ms) [some d', none] ∧ Ok (n + 50) d' ∧ Up ms ∧ ms.length ≤ most ∧ Bd 2000000000000000000000000000000 ms := by
  obtain ⟨wi, d1, e1, b1, o1⟩ := snipN 4 h (by omega) (by omega) (by omega)
  obtain ⟨at0, d2, e2, a2, b2, o2⟩ := snip 4 o1 (by omega) (by omega) (by omega)
  obtain ⟨many, d3, e3, b3, o3⟩ := snipN (most : Int) o2 (by omega) (by omega) (by omega)
  obtain ⟨w, ew, hw⟩ := pickN (xs := [.int 1, .int 4, .int 60, .int 100000000000000000000000000000]) (r := wi) (by simp; omega)
  obtain ⟨wide, rfl, w0, w1⟩ : ∃ wide : Int, w = .int wide ∧ 0 < wide ∧ wide ≤ 100000000000000000000000000000 := by
    simp only [List.mem_cons, List.not_mem_nil, or_false] at hw
    rcases hw with rfl | rfl | rfl | rfl <;> exact ⟨_, rfl, by omega, by omega⟩
  obtain ⟨I, hI⟩ : ∃ I : Nat → DL.Env → Prop, I = fun i ρ => ∃ d' page' ms v5, ρ = [some d', some (.int most), some (.int wide), some (.int page'), some (il true ms), v5] ∧ Ok (n + 3 + i) d' ∧ ms.length = i ∧ (∀ z ∈ ms, 0 ≤ z ∧ z < page') ∧ ms.Pairwise (· < ·) ∧ 0 ≤ page' ∧ page' ≤ 4 + i * 100000000000000000000000000001 := ⟨_, rfl⟩
  obtain ⟨ρ', el, hL⟩ := loop_I (m := gN 5) (b := m_law_marks_1) I (rgD 0 (1 + (many : Int))) [some d3, some (.int most), some (.int wide), some (.int at0), some (.nd .lst true []), none] (by rw [hI]; exact ⟨d3, at0, [], none, rfl, o3, rfl, by simp, .nil, a2, by omega⟩) (by
    intro i dd ρ hd hi'
    rw [hI] at hi'
    obtain ⟨d', page', ms, v5, rfl, k1, k2, k3, k4, k5, k6⟩ := hi'
    have hi := rgD_at hd
    obtain ⟨d'', page'', e, o, lt, le⟩ := marks_turn k1 (by omega) wide w0 w1 (some (.int most)) (some dd) page' ms (by omega)
    refine ⟨_, rfl, ?_⟩
    show Nx (m_law_marks_1 [some d', some (.int most), some (.int wide), some (.int page'), some (il true ms), some dd]) _
    rw [e, hI]
    refine ⟨d'', page'', ms ++ [page'], some dd, rfl, o.le (by omega), by simp; omega, ?_, ?_, by omega, by push_cast; omega⟩
    · intro z hz
      rcases List.mem_append.mp hz with hz | hz
      · have := k3 z hz; omega
      · rw [List.mem_singleton.mp hz]; omega
    · rw [List.pairwise_append]
      refine ⟨k4, List.pairwise_singleton .., fun a ha b hb => ?_⟩
      rw [List.mem_singleton.mp hb]; exact (k3 a ha).2)
  rw [hI, rgD_len] at hL
  obtain ⟨d', page', ms, v5, rfl, k1, k2, k3, k4, k5, k6⟩ := hL
  have hl : (1 + (many : Int) - 0).toNat = 1 + many := by omega
  rw [hl] at k1 k2 k6
  refine ⟨d', ms, ?_, k1.le (by omega), ⟨by omega, by omega, fun z hz => (k3 z hz).1, k4⟩, by omega, fun z hz => ?_⟩
  · have e7 : ∀ ρ, iR1V ρ (some [.int (1 + (many : Int))]) = some (rgD 0 (1 + (many : Int)), ρ) := fun ρ => iR1V_s (by omega) (by omega)
    unfold f_law_marks
    rw [defFn_ap]
    simp -implicitDefEqProofs [m_law_marks, m_law_marks_2, e1, e2, e3, p10_29, ew, e7, el, o3.okB]
  · have := (k3 z hz).2
    omega
/-- a drawn stand -/
theorem dstand {n : Nat} {d : D} (h : Ok n d) (hn : n < 2 ^ 28) (most : Nat) (m0 : 0 < most) (m1 : most ≤ 12) :
    ∃ d' ms cs, f_law_stand [d, .int most] = .ok (sd true ms cs) [some d', none] ∧ Ok (n + 100) d' ∧ St ms cs ∧ ms.length ≤ most ∧ Bd 2000000000000000000000000000000 ms := by
  obtain ⟨d1, ms, e1, o1, up, hl, bd⟩ := dmarks h (by omega) most m0 m1
  obtain ⟨r, d2, e2, a2, b2, o2⟩ := snip 2 o1 (by omega) (by omega) (by omega)
  have hlen := up.le
  have hrg := rRg1_s (f := vB dLen (vCons (vVar 2) vNil)) (ρ := [some d2, some (.int most), some (il true ms), none, none]) (n := ms.length) (by simp) (by omega)
  by_cases z : r = 0
  · subst z
    refine ⟨d2, ms, List.range ms.length, ?_, o2.le (by omega), St.fresh up, hl, bd⟩
    unfold f_law_stand
    rw [defFn_ap]
    simp -implicitDefEqProofs [m_law_stand, e1, e2, hrg, o1.okB]
  · obtain ⟨k, d3, e3, b3, o3⟩ := snipN (most : Int) o2 (by omega) (by omega) (by omega)
    have e4 : ∀ ρ, iR1V ρ (some [.int (1 + (k : Int))]) = some (rgD 0 (1 + (k : Int)), ρ) := fun ρ => iR1V_s (by omega) (by omega)
    obtain ⟨I, hI⟩ : ∃ I : Nat → List D → DL.Env → Prop, I = fun i acc ρ => ∃ d' cs, ρ = [some d', some (.int most), some (il true ms), some (.int (1 + (k : Int))), none] ∧ acc = (nI cs).map .int ∧ cs.length = i ∧ (∀ c ∈ cs, c < ms.length) ∧ Ok (n + 60 + i) d' := ⟨_, rfl⟩
    obtain ⟨xs, ρ', e5, hL⟩ := rLc_I (own := [4]) (f := iR1 (aE (rFz 3) aNil)) (m := gN 4) (te := rCall (f_law_snip) [] (aIo 0 (aE (rV (vB dLen (vCons (vVar 2) vNil))) aNil)))
      (ρ := [some d3, some (.int most), some (il true ms), some (.int (1 + (k : Int))), none]) (ρ1 := [some d3, some (.int most), some (il true ms), some (.int (1 + (k : Int))), none]) (ds := rgD 0 (1 + (k : Int))) I
      (by simp -implicitDefEqProofs [e4]) (by rw [rgD_len]; omega) (by rw [hI]; exact ⟨d3, [], rfl, rfl, rfl, by simp, o3.le (by omega)⟩) (by
        intro i dd acc ρ hd hi'
        rw [hI] at hi'
        obtain ⟨d', cs, rfl, rfl, c1, c2, o⟩ := hi'
        obtain ⟨rfl, hi⟩ := rgD_at hd
        obtain ⟨q, d'', e, lt, o'⟩ := snipN (ms.length : Int) o (by omega) (by have := up.ne; omega) (by omega)
        refine ⟨_, rfl, ?_⟩
        simp -implicitDefEqProofs [e]
        rw [hI]
        exact ⟨d'', cs ++ [q], rfl, by simp, by simp; omega, by
          intro c hc
          rcases List.mem_append.mp hc with hc | hc
          · exact c2 c hc
          · rw [List.mem_singleton.mp hc]; omega, o'.le (by omega)⟩)
    rw [hI] at hL
    obtain ⟨d4, cs, rfl, rfl, c1, c2, o4⟩ := hL
    rw [rgD_len] at c1 o4
    refine ⟨d4, ms, cs, ?_, o4.le (by omega), ⟨up, by omega, by omega, c2⟩, hl, bd⟩
    unfold f_law_stand
    rw [defFn_ap]
    have e6 : m_law_stand_1 [some d3, some (.int most), some (il true ms), some (.int (1 + (k : Int))), none] = _ := e5
    simp -implicitDefEqProofs [m_law_stand, e1, e2, e3, z, o1.okB, o3.okB, e6]
/-! ### histories -/
abbrev rd (x : Nat × Int) : D := rdg x.1 x.2
/-- a history of so many readers -/
def Hi (n : Nat) (hs : List (Nat × Int)) : Prop := ∀ x ∈ hs, x.1 < n ∧ 1 ≤ x.2 ∧ x.2 ≤ big
theorem dhist_turn {n : Nat} {d : D} (h : Ok n d) (hn : n < 2 ^ 30) {ms : List Int} {cs : List Nat} (st : St ms cs) (bd : Bd 2000000000000000000000000000000 ms) (v1 v2 v6 v7 v8 : Option D) (hs : List (Nat × Int)) (hh : Hi cs.length hs) (hl : hs.length < 1000) :
    ∃ d' w7 w8 x, m_law_history_1 [some d, v1, v2, some (il false ms), some (il false (nI cs)), some (.nd .lst true (hs.map rd)), v6, v7, v8] = .nx [some d', v1, v2, some (il false ms), some (il false (nI cs)), some (.nd .lst true ((hs ++ [x]).map rd)), v6, w7, w8] ∧ Ok (n + 10) d' ∧ Hi cs.length (hs ++ [x]) := by
  have l1 := st.ne
  have l2 := st.m.ne
  have l3 := st.le
  have l4 := st.m.le
  obtain ⟨j1, d1, e1, b1, o1⟩ := snipN (ms.length : Int) h (by omega) (by omega) (by omega)
  obtain ⟨j2, d2, e2, b2, o2⟩ := snipN (ms.length : Int) o1 (by omega) (by omega) (by omega)
  have k1 : j1 < ms.length := by omega
  have k2 : j2 < ms.length := by omega
  have a1 := atG k1
  have a2 := atG k2
  have y1 := bd _ (List.getElem_mem k1)
  have y2 := bd _ (List.getElem_mem k2)
  have z1 := st.m.nn _ (List.getElem_mem k1)
  have z2 := st.m.nn _ (List.getElem_mem k2)
  generalize ms[j1] = x1 at a1 y1 z1
  generalize ms[j2] = x2 at a2 y2 z2
  obtain ⟨q3, d3, e3, a3, b3, o3⟩ := snip 4 o2 (by omega) (by omega) (by omega)
  obtain ⟨q4, d4, e4, a4, b4, o4⟩ := snip 3 o3 (by omega) (by omega) (by omega)
  obtain ⟨j5, d5, e5, b5, o5⟩ := snipN 2 o4 (by omega) (by omega) (by omega)
  obtain ⟨w, ew, hw⟩ := pickN (xs := [.int 40, .int 10000000000000000000000000000000]) (r := j5) (by simp; omega)
  obtain ⟨wide, rfl, w0, w1⟩ : ∃ wide : Int, w = .int wide ∧ 0 < wide ∧ wide ≤ 10000000000000000000000000000000 := by
    simp only [List.mem_cons, List.not_mem_nil, or_false] at hw
    rcases hw with rfl | rfl <;> exact ⟨_, rfl, by omega, by omega⟩
  obtain ⟨q6, d6, e6, a6, b6, o6⟩ := snip wide o5 (by omega) (by omega) (by omega)
  obtain ⟨r, d7, e7, b7, o7⟩ := snipN (cs.length : Int) o6 (by omega) (by omega) (by omega)
  obtain ⟨j8, d8, e8, b8, o8⟩ := snipN 3 o7 (by omega) (by omega) (by omega)
  obtain ⟨m, hm, m1, m2⟩ : ∃ m : Int, m = (if (if x1 - x2 < 0 then -(x1 - x2) else x1 - x2) + q4 - 1 > 1 then (if x1 - x2 < 0 then -(x1 - x2) else x1 - x2) + q4 - 1 else 1) ∧ 1 ≤ m ∧ m ≤ big := ⟨_, rfl, by split <;> omega, by unfold big; split <;> split <;> omega⟩
  have dm : dMax2 [.int 1, .int ((if x1 - x2 < 0 then -(x1 - x2) else x1 - x2) + q4 - 1)] = some (.int m) := by rw [hm]; rfl
  have da : dAbs [.int (x1 - x2)] = some (.int (if x1 - x2 < 0 then -(x1 - x2) else x1 - x2)) := rfl
  generalize (if x1 - x2 < 0 then -(x1 - x2) else x1 - x2) = ab at *
  have u1 : uApp [.int (1 + q3), .int m] [.int (1 + q6)] = some (.non, [.int (1 + q3), .int m, .int (1 + q6)]) := app_s (by simp)
  obtain ⟨p, ep, hp⟩ := pickN (xs := [.int (1 + q3), .int m, .int (1 + q6)]) (r := j8) (by simp; omega)
  obtain ⟨pp, rfl, p1, p2⟩ : ∃ pp : Int, p = .int pp ∧ 1 ≤ pp ∧ pp ≤ big := by
    simp only [List.mem_cons, List.not_mem_nil, or_false] at hp
    unfold big at m2 ⊢
    rcases hp with rfl | rfl | rfl <;> exact ⟨_, rfl, by omega, by omega⟩
  have u2 : uApp (hs.map rd) [rdg r pp] = some (.non, (hs ++ [(r, pp)]).map rd) := by
    rw [app_s (by simp; omega)]; simp
  refine ⟨d8, some (.nd .lst true [.int x1, .int x2]), some (.nd .lst true [.int (1 + q3), .int m, .int (1 + q6)]), (r, pp), ?_, o8.le (by omega), fun x hx => ?_⟩
  · generalize (hs ++ [(r, pp)]).map rd = H2 at u2 ⊢
    simp -implicitDefEqProofs [m_law_history_1, e1, e2, a1, a2, e3, e4, e5, da, dm, -dMax2_i, p10_31, ew, e6, u1, e7, e8, ep, u2]
  · rcases List.mem_append.mp hx with hx | hx
    · exact hh x hx
    · rw [List.mem_singleton.mp hx]; exact ⟨by omega, p1, p2⟩
/-- a drawn history -/
theorem dhist {n : Nat} {d : D} (h : Ok n d) (hn : n < 2 ^ 29) {ms : List Int} {cs : List Nat} (st : St ms cs) (bd : Bd 2000000000000000000000000000000 ms) (most : Nat) (hm : most ≤ 300) :
    ∃ d' hs, f_law_history [d, sd false ms cs, .int most] = .ok (.nd .lst true (hs.map rd)) [some d', none, none] ∧ Ok (n + 4000) d' ∧ Hi cs.length hs ∧ hs.length ≤ most := by
  obtain ⟨k, d1, e1, b1, o1⟩ := snipN ((most : Int) + 1) h (by omega) (by omega) (by omega)
  obtain ⟨I, hI⟩ : ∃ I : Nat → DL.Env → Prop, I = fun i ρ => ∃ d' hs w6 w7 w8, ρ = [some d', none, some (.int most), some (il false ms), some (il false (nI cs)), some (.nd .lst true (hs.map rd)), w6, w7, w8] ∧ Ok (n + 1 + 10 * i) d' ∧ Hi cs.length hs ∧ hs.length = i := ⟨_, rfl⟩
  obtain ⟨ρ', el, hL⟩ := loop_I (m := gN 6) (b := m_law_history_1) I (rgD 0 (k : Int)) [some d1, none, some (.int most), some (il false ms), some (il false (nI cs)), some (.nd .lst true []), none, none, none] (by rw [hI]; exact ⟨d1, [], none, none, none, rfl, o1, fun x hx => (by cases hx), rfl⟩) (by
    intro i dd ρ hd hi'
    rw [hI] at hi'
    obtain ⟨d', hs, w6, w7, w8, rfl, o, hh, hl⟩ := hi'
    have hi := (rgD_at hd).2
    obtain ⟨d'', x7, x8, x, e, o', hh'⟩ := dhist_turn o (by omega) st bd none (some (.int most)) (some dd) w7 w8 hs hh (by omega)
    refine ⟨_, rfl, ?_⟩
    show Nx (m_law_history_1 [some d', none, some (.int most), some (il false ms), some (il false (nI cs)), some (.nd .lst true (hs.map rd)), some dd, w7, w8]) _
    rw [e, hI]
    exact ⟨d'', hs ++ [x], _, _, _, rfl, o'.le (by omega), hh', by simp; omega⟩)
  rw [hI, rgD_len] at hL
  obtain ⟨d', hs, w6, w7, w8, rfl, o, hh, hl⟩ := hL
  refine ⟨d', hs, ?_, o.le (by omega), hh, by omega⟩
  have e7 : ∀ ρ, iR1V ρ (some [.int (k : Int)]) = some (rgD 0 (k : Int), ρ) := fun ρ => iR1V_s (by omega) (by omega)
  unfold f_law_history
  rw [defFn_ap]
  simp -implicitDefEqProofs [m_law_history, m_law_history_2, e1, e7, el]
end PM
namespace PM
open PySem L2 PyProof.Rows DL
/-! ### two readings that do not meet; marks further on; marks more -/
theorem up_ext {xs ys : List Int} (h : xs.Pairwise (· < ·)) (h2 : ys.Pairwise (· < ·)) (p : xs.Perm ys) : xs = ys :=
  List.Perm.eq_of_pairwise (fun a b _ _ x y => by omega) h h2 p
theorem pos_perm {xs ys : List Int} (p : xs.Perm ys) (e : Int) : pos xs e = pos ys e := (p.filter _).length_eq
theorem pos_cons (a : Int) (xs : List Int) (e : Int) : pos (a :: xs) e = (if a < e then 1 else 0) + pos xs e := by
  unfold pos
  by_cases z : a < e
  · simp [z]; omega
  · simp [z]
theorem pos_at {xs : List Int} (h : xs.Pairwise (· < ·)) {c : Nat} (hc : c < xs.length) : pos xs xs[c] = c := by
  obtain ⟨v, hv⟩ : ∃ v, v = xs[c] := ⟨_, rfl⟩
  have hd : xs.drop c = v :: xs.drop (c + 1) := by rw [hv]; exact List.drop_eq_getElem_cons hc
  rw [← hv]
  have h2 : xs.filter (fun x => decide (x < v)) = xs.take c := by
    have e : xs.take c ++ xs.drop c = xs := List.take_append_drop c xs
    have hp := h
    rw [← e, List.pairwise_append] at hp
    have f1 : (xs.take c).filter (fun x => decide (x < v)) = xs.take c := List.filter_eq_self.mpr fun x hx => by
      have := hp.2.2 x hx v (by rw [hd]; exact List.mem_cons_self)
      simpa using this
    have f2 : (xs.drop c).filter (fun x => decide (x < v)) = [] := List.filter_eq_nil_iff.mpr fun x hx => by
      have h3 := hp.2.1
      rw [hd] at h3 hx
      rcases List.mem_cons.mp hx with rfl | hx
      · simp
      · have := (List.pairwise_cons.mp h3).1 x hx
        simp; omega
    have : (xs.take c ++ xs.drop c).filter (fun x => decide (x < v)) = xs.take c := by
      rw [List.filter_append, f1, f2, List.append_nil]
    rwa [e] at this
  unfold pos
  rw [h2]; simp; omega
theorem at_pos {xs : List Int} (h : xs.Pairwise (· < ·)) {v : Int} (hv : v ∈ xs) : xs[pos xs v]? = some v := by
  obtain ⟨c, hc, rfl⟩ := List.getElem_of_mem hv
  rw [pos_at h hc, List.getElem?_eq_getElem hc]
theorem oth_perm {ms : List Int} {c : Nat} (h : c < ms.length) : ms.Perm (ms[c] :: oth ms c) := by
  have e : ms = ms.take c ++ ms[c] :: ms.drop (c + 1) := by
    rw [← List.drop_eq_getElem_cons h, List.take_append_drop]
  unfold oth
  conv => lhs; rw [e]
  exact List.perm_middle
theorem land_same {k : Nat} {xs ys : List Int} : ∀ {e : Int}, (∀ z, e ≤ z → z ≤ land k xs e → (z ∈ xs ↔ z ∈ ys)) → land k ys e = land k xs e := by
  induction k with
  | zero => intro e _; rfl
  | succ k ih =>
    intro e h
    unfold land
    have h0 := h e (Int.le_refl e) (land_ge ..)
    by_cases m : e ∈ xs
    · rw [if_pos m, if_pos (h0.mp m)]
      refine ih fun z h1 h2 => h z (by omega) ?_
      unfold land
      rw [if_pos m]; exact h2
    · rw [if_neg m, if_neg fun z => m (h0.mpr z)]
theorem opg_eq {ms : List Int} {cs : List Nat} {r : Nat} (h : cs.getD r 0 < ms.length) : opg ms cs r = ms[cs.getD r 0] := by
  unfold opg
  rw [List.getD_eq_getElem?_getD (l := ms), List.getElem?_eq_getElem h]; rfl
section
variable {ms : List Int} {cs : List Nat} {r q : Nat} {p s : Int}
theorem cts_r (hr : r < cs.length) : (cts ms cs r p).getD r 0 = cnt ms cs r p := by
  unfold cts
  rw [List.getD_eq_getElem?_getD, List.getElem?_set_self (by simpa using hr)]; rfl
theorem cts_q (h : r ≠ q) : (cts ms cs r p).getD q 0 = cs.getD q 0 := by
  unfold cts
  rw [List.getD_eq_getElem?_getD, List.getElem?_set_ne h, ← List.getD_eq_getElem?_getD]
/-- the one ahead of the other -/
theorem commute (h : St ms cs) (hr : r < cs.length) (hq : q < cs.length) (hp : 0 ≤ p) (hs : 0 ≤ s) (ne : r ≠ q) (ht : toP ms cs r p < opg ms cs q) :
    opg (lat ms cs r p) (cts ms cs r p) q = opg ms cs q ∧ toP (lat ms cs r p) (cts ms cs r p) q s = toP ms cs q s ∧
    opg (lat ms cs q s) (cts ms cs q s) r = opg ms cs r ∧ toP (lat ms cs q s) (cts ms cs q s) r p = toP ms cs r p ∧
    lat (lat ms cs r p) (cts ms cs r p) q s = lat (lat ms cs q s) (cts ms cs q s) r p ∧ cts (lat ms cs r p) (cts ms cs r p) q s = cts (lat ms cs q s) (cts ms cs q s) r p := by
  have k1 := h.at hr
  have k2 := h.at hq
  have g1 := toP_ge ms cs r p
  have g2 := toP_ge ms cs q s
  have ea := opg_eq k1
  have eb := opg_eq k2
  have p1 := oth_perm k1
  have p2 := oth_perm k2
  rw [← ea] at p1
  rw [← eb] at p2
  have o1 := h.out (p := p) hr
  have o2 := h.out (p := s) hq
  have u1 := h.lat hr hp
  have u2 := h.lat hq hs
  obtain ⟨a, ha⟩ : ∃ a, a = opg ms cs r := ⟨_, rfl⟩
  obtain ⟨b, hb⟩ : ∃ b, b = opg ms cs q := ⟨_, rfl⟩
  obtain ⟨e1, he1⟩ : ∃ e, e = toP ms cs r p := ⟨_, rfl⟩
  obtain ⟨e2, he2⟩ : ∃ e, e = toP ms cs q s := ⟨_, rfl⟩
  rw [← ha] at p1 g1
  rw [← hb] at p2 g2 ht
  rw [← he1] at o1 g1 ht
  rw [← he2] at o2 g2
  obtain ⟨M1, hM1⟩ : ∃ M, M = oth ms (cs.getD r 0) := ⟨_, rfl⟩
  obtain ⟨M2, hM2⟩ : ∃ M, M = oth ms (cs.getD q 0) := ⟨_, rfl⟩
  rw [← hM1] at p1 o1
  rw [← hM2] at p2 o2
  have bm : b ∈ M1 := by
    have : b ∈ ms := by rw [hb]; exact h.opg_mem hq
    rcases List.mem_cons.mp (p1.mem_iff.mp this) with z | z
    · omega
    · exact z
  obtain ⟨M, hM⟩ : ∃ M, M = M1.erase b := ⟨_, rfl⟩
  have q1 : M1.Perm (b :: M) := by rw [hM]; exact List.perm_cons_erase bm
  have q2 : M2.Perm (a :: M) := by
    have : (b :: M2).Perm (b :: a :: M) := p2.symm.trans (p1.trans ((q1.cons a).trans (.swap ..)))
    exact List.Perm.cons_inv this
  have l1 : (lat ms cs r p).Perm (e1 :: b :: M) := by
    unfold lat
    rw [← hM1, ← he1]
    exact (put_perm _ _).trans ((List.perm_append_singleton _ _).trans (q1.cons _))
  have l2 : (lat ms cs q s).Perm (e2 :: a :: M) := by
    unfold lat
    rw [← hM2, ← he2]
    exact (put_perm _ _).trans ((List.perm_append_singleton _ _).trans (q2.cons _))
  have c2 : pos M b + 1 = cs.getD q 0 := by
    have := pos_at h.m.up k2
    rw [← eb, ← hb, pos_perm p1, pos_perm (q1.cons a), pos_cons, pos_cons, if_pos (by omega), if_neg (by omega)] at this
    omega
  have c1 : pos M a = cs.getD r 0 := by
    have := pos_at h.m.up k1
    rw [← ea, ← ha, pos_perm p1, pos_perm (q1.cons a), pos_cons, pos_cons, if_neg (by omega), if_neg (by omega)] at this
    omega
  have x1 : opg (lat ms cs r p) (cts ms cs r p) q = b := by
    unfold opg
    rw [cts_q ne, ← c2]
    have := at_pos u1.m.up (v := b) (l1.mem_iff.mpr (by simp))
    rw [pos_perm l1, pos_cons, pos_cons, if_pos (by omega), if_neg (by omega)] at this
    rw [List.getD_eq_getElem?_getD, show pos M b + 1 = 1 + (0 + pos M b) by omega, this]; rfl
  have x2 : opg (lat ms cs q s) (cts ms cs q s) r = a := by
    unfold opg
    rw [cts_q ne.symm, ← c1]
    have := at_pos u2.m.up (v := a) (l2.mem_iff.mpr (by simp))
    rw [pos_perm l2, pos_cons, pos_cons, if_neg (by omega), if_neg (by omega)] at this
    rw [List.getD_eq_getElem?_getD, show pos M a = 0 + (0 + pos M a) by omega, this]; rfl
  have kq : (cts ms cs r p).getD q 0 < (lat ms cs r p).length := u1.at (by simpa [cts] using hq)
  have kr : (cts ms cs q s).getD r 0 < (lat ms cs q s).length := u2.at (by simpa [cts] using hr)
  have w1 : (oth (lat ms cs r p) ((cts ms cs r p).getD q 0)).Perm (e1 :: M) := by
    have := oth_perm kq
    rw [← opg_eq kq, x1] at this
    exact List.Perm.cons_inv (this.symm.trans (l1.trans (.swap ..)))
  have w2 : (oth (lat ms cs q s) ((cts ms cs q s).getD r 0)).Perm (e2 :: M) := by
    have := oth_perm kr
    rw [← opg_eq kr, x2] at this
    exact List.Perm.cons_inv (this.symm.trans (l2.trans (.swap ..)))
  have t1 : toP (lat ms cs r p) (cts ms cs r p) q s = e2 := by
    rw [he2]
    unfold toP
    rw [x1, ← hb, ← hM2]
    refine land_same fun z z1 z2 => ?_
    rw [q2.mem_iff, w1.mem_iff]
    simp only [List.mem_cons]
    constructor
    · rintro (z3 | z3)
      · omega
      · exact .inr z3
    · rintro (z3 | z3)
      · omega
      · exact .inr z3
  have t2 : toP (lat ms cs q s) (cts ms cs q s) r p = e1 := by
    have hl : land 13 M1 (a + p) = e1 := by rw [he1]; unfold toP; rw [← ha, ← hM1]
    rw [he1]
    unfold toP
    rw [x2, ← ha, ← hM1]
    refine land_same fun z z1 z2 => ?_
    rw [hl] at z2
    rw [q1.mem_iff, w2.mem_iff]
    simp only [List.mem_cons]
    constructor
    · rintro (z3 | z3)
      · omega
      · exact .inr z3
    · rintro (z3 | z3)
      · omega
      · exact .inr z3
  have v1 := u1.lat (r := q) (p := s) (by simpa [cts] using hq) hs
  have v2 := u2.lat (r := r) (p := p) (by simpa [cts] using hr) hp
  refine ⟨x1.trans hb, t1.trans he2, x2.trans ha, t2.trans he1, up_ext v1.m.up v2.m.up ?_, ?_⟩
  · have f1 : (lat (lat ms cs r p) (cts ms cs r p) q s).Perm (e2 :: e1 :: M) := by
      rw [lat, t1]
      exact (put_perm _ _).trans ((List.perm_append_singleton _ _).trans (w1.cons _))
    have f2 : (lat (lat ms cs q s) (cts ms cs q s) r p).Perm (e1 :: e2 :: M) := by
      rw [lat, t2]
      exact (put_perm _ _).trans ((List.perm_append_singleton _ _).trans (w2.cons _))
    exact f1.trans ((List.Perm.swap ..).trans f2.symm)
  · have n1 : cnt (lat ms cs r p) (cts ms cs r p) q s = cnt ms cs q s := by
      unfold cnt
      rw [t1, ← he2, ← hM2, pos_perm w1, pos_perm q2, pos_cons, pos_cons, if_pos (by omega), if_pos (by omega)]
    have n2 : cnt (lat ms cs q s) (cts ms cs q s) r p = cnt ms cs r p := by
      unfold cnt
      rw [t2, ← he1, ← hM1, pos_perm w2, pos_perm q1, pos_cons, pos_cons, if_neg (by omega), if_neg (by omega)]
    show (cts ms cs r p).set q (cnt (lat ms cs r p) (cts ms cs r p) q s) = (cts ms cs q s).set r (cnt (lat ms cs q s) (cts ms cs q s) r p)
    rw [n1, n2]
    exact List.set_comm _ _ ne
end
end PM
namespace PM
open PySem L2 PyProof.Rows DL
/-! ### histories gone through -/
abbrev Sd := List Int × List Nat
def stp (s : Sd) (x : Nat × Int) : Sd := (lat s.1 s.2 x.1 x.2, cts s.1 s.2 x.1 x.2)
def xat (hs : List (Nat × Int)) (i : Nat) : Nat × Int := hs.getD i (0, 1)
def sta (s : Sd) (hs : List (Nat × Int)) : Nat → Sd
  | 0 => s
  | i + 1 => stp (sta s hs i) (xat hs i)
def goi (s : Sd) (hs : List (Nat × Int)) (i : Nat) : Int × Int := (opg (sta s hs i).1 (sta s hs i).2 (xat hs i).1, toP (sta s hs i).1 (sta s hs i).2 (xat hs i).1 (xat hs i).2)
abbrev sdd (o : Bool) (s : Sd) : D := sd o s.1 s.2
abbrev prr (x : Int × Int) : D := .nd .tup false [.int x.1, .int x.2]
theorem xat_eq {hs : List (Nat × Int)} {i : Nat} (h : i < hs.length) : xat hs i = hs[i] := by simp [xat, h]
theorem Hi.at {n : Nat} {hs : List (Nat × Int)} (h : Hi n hs) {i : Nat} (hi : i < hs.length) : (xat hs i).1 < n ∧ 1 ≤ (xat hs i).2 ∧ (xat hs i).2 ≤ big := by
  rw [xat_eq hi]; exact h _ (List.getElem_mem hi)
theorem sta_ok {s : Sd} {hs : List (Nat × Int)} (h : St s.1 s.2) (hh : Hi s.2.length hs) : ∀ i, i ≤ hs.length → St (sta s hs i).1 (sta s hs i).2 ∧ (sta s hs i).1.length = s.1.length ∧ (sta s hs i).2.length = s.2.length
  | 0, _ => ⟨h, rfl, rfl⟩
  | i + 1, hi => by
    obtain ⟨h1, h2, h3⟩ := sta_ok h hh i (by omega)
    obtain ⟨r1, r2, r3⟩ := hh.at (i := i) (by omega)
    have hr : (xat hs i).1 < (sta s hs i).2.length := by rw [h3]; exact r1
    refine ⟨h1.lat hr (by omega), ?_, ?_⟩
    · show (lat _ _ _ _).length = _
      rw [h1.latLen hr, h2]
    · show (cts _ _ _ _).length = _
      simp [cts, h3]
theorem sta_bd {s : Sd} {hs : List (Nat × Int)} {B : Int} (h : St s.1 s.2) (hh : Hi s.2.length hs) (b : Bd B s.1) (hB : 0 ≤ B) : ∀ i, i ≤ hs.length → Bd (B + i * 10000000000000000000000000000013) (sta s hs i).1
  | 0, _ => fun x hx => by have := b x hx; omega
  | i + 1, hi => by
    obtain ⟨h1, h2, h3⟩ := sta_ok h hh i (by omega)
    obtain ⟨r1, r2, r3⟩ := hh.at (i := i) (by omega)
    have hr : (xat hs i).1 < (sta s hs i).2.length := by rw [h3]; exact r1
    have ih := sta_bd h hh b hB i (by omega)
    unfold big at r3
    intro x hx
    have := Bd.lat h1 ih hr r3 (by omega) x hx
    push_cast
    omega
theorem sta_pre {s : Sd} {hs : List (Nat × Int)} {x : Nat × Int} : ∀ i, i ≤ hs.length → sta s (hs ++ [x]) i = sta s hs i
  | 0, _ => rfl
  | i + 1, h => by
    show stp (sta s (hs ++ [x]) i) (xat (hs ++ [x]) i) = stp (sta s hs i) (xat hs i)
    rw [sta_pre i (by omega), xat_eq (by simp; omega), xat_eq (by omega), List.getElem_append_left]
/-- all stands, what each reading goes -/
def stands (s : Sd) (hs : List (Nat × Int)) (n : Nat) : List Sd := (List.range n).map (sta s hs)
def goings (s : Sd) (hs : List (Nat × Int)) (n : Nat) : List (Int × Int) := (List.range n).map (goi s hs)
theorem stands_succ (s : Sd) (hs : List (Nat × Int)) (n : Nat) : stands s hs (n + 1) = stands s hs n ++ [sta s hs n] := by simp [stands, List.range_succ]
theorem goings_succ (s : Sd) (hs : List (Nat × Int)) (n : Nat) : goings s hs (n + 1) = goings s hs n ++ [goi s hs n] := by simp [goings, List.range_succ]
theorem stands_len (s : Sd) (hs : List (Nat × Int)) (n : Nat) : (stands s hs n).length = n := by simp [stands]
theorem goings_len (s : Sd) (hs : List (Nat × Int)) (n : Nat) : (goings s hs n).length = n := by simp [goings]
def sdL (o : Bool) (xs : List Sd) : List D := xs.map (sdd o)
def prL (xs : List (Int × Int)) : List D := xs.map prr
def rdL (hs : List (Nat × Int)) : List D := hs.map rd
@[simp] theorem noObjs_sdL (o : Bool) (xs : List Sd) : noObjs (sdL o xs) = true := noObjs_all fun d hd => by
  obtain ⟨x, _, rfl⟩ := List.mem_map.mp hd; simp
@[simp] theorem noObjs_prL (xs : List (Int × Int)) : noObjs (prL xs) = true := noObjs_all fun d hd => by
  obtain ⟨x, _, rfl⟩ := List.mem_map.mp hd; simp
@[simp] theorem noObjs_rdL (xs : List (Nat × Int)) : noObjs (rdL xs) = true := noObjs_all fun d hd => by
  obtain ⟨x, _, rfl⟩ := List.mem_map.mp hd; simp
@[simp] theorem noOwns_prL (xs : List (Int × Int)) : noOwns (prL xs) = true := noOwns_all fun d hd => by
  obtain ⟨x, _, rfl⟩ := List.mem_map.mp hd; simp
@[simp] theorem noOwns_rdL (xs : List (Nat × Int)) : noOwns (rdL xs) = true := noOwns_all fun d hd => by
  obtain ⟨x, _, rfl⟩ := List.mem_map.mp hd; simp
@[simp] theorem noOwns_sdF (xs : List Sd) : noOwns (sdL false xs) = true := noOwns_all fun d hd => by
  obtain ⟨x, _, rfl⟩ := List.mem_map.mp hd; simp
@[simp] theorem okBs_sdT (xs : List Sd) : okBs (sdL true xs) = true := okBs_all fun d hd => by
  obtain ⟨x, _, rfl⟩ := List.mem_map.mp hd; simp
@[simp] theorem okBs_prL (xs : List (Int × Int)) : okBs (prL xs) = true := okBs_all fun d hd => by
  obtain ⟨x, _, rfl⟩ := List.mem_map.mp hd; simp
@[simp] theorem okBs_rdL (xs : List (Nat × Int)) : okBs (rdL xs) = true := okBs_all fun d hd => by
  obtain ⟨x, _, rfl⟩ := List.mem_map.mp hd; simp
@[simp] theorem frzs_sdL (o : Bool) (xs : List Sd) : frzs (sdL o xs) = sdL false xs := by
  rw [frzs_map]; unfold sdL; rw [List.map_map]; apply List.map_congr_left; intro x _; simp
@[simp] theorem frzs_prL (xs : List (Int × Int)) : frzs (prL xs) = prL xs := frzs_id _ (noOwns_prL xs)
@[simp] theorem frzs_rdL (xs : List (Nat × Int)) : frzs (rdL xs) = rdL xs := frzs_id _ (noOwns_rdL xs)
@[simp] theorem sdL_len (o : Bool) (xs : List Sd) : (sdL o xs).length = xs.length := by simp [sdL]
@[simp] theorem prL_len (xs : List (Int × Int)) : (prL xs).length = xs.length := by simp [prL]
@[simp] theorem rdL_len (xs : List (Nat × Int)) : (rdL xs).length = xs.length := by simp [rdL]
theorem rdL_at {hs : List (Nat × Int)} {i : Nat} {d : D} (h : (rdL hs)[i]? = some d) : i < hs.length ∧ d = rd (xat hs i) := by
  unfold rdL at h
  rw [List.getElem?_map] at h
  obtain ⟨x, h1, rfl⟩ := Option.map_eq_some_iff.mp h
  obtain ⟨hi, h2⟩ := List.getElem?_eq_some_iff.mp h1
  exact ⟨hi, by rw [xat_eq hi, h2]⟩
theorem sdL_snoc (o : Bool) (xs : List Sd) (x : Sd) : sdL o xs ++ [sdd o x] = sdL o (xs ++ [x]) := by simp [sdL]
theorem prL_snoc (xs : List (Int × Int)) (x : Int × Int) : prL xs ++ [prr x] = prL (xs ++ [x]) := by simp [prL]
/-- one turn of the program's own going through -/
theorem walked_turn {s : Sd} {hs : List (Nat × Int)} (h : St s.1 s.2) (hh : Hi s.2.length hs) (hl : hs.length ≤ 2000) {i : Nat} (hi : i < hs.length) (v0 v1 v5 v6 : Option D) :
    ∃ w5 w6, m_walked_1 [v0, v1, some (.nd .lst true (sdL true (stands s hs (i + 1)))), some (.nd .lst true (prL (goings s hs i))), some (rd (xat hs i)), v5, v6] = .nx [v0, v1, some (.nd .lst true (sdL true (stands s hs (i + 2)))), some (.nd .lst true (prL (goings s hs (i + 1)))), some (rd (xat hs i)), w5, w6] := by
  obtain ⟨h1, h2, h3⟩ := sta_ok h hh i (by omega)
  obtain ⟨r1, r2, r3⟩ := hh.at hi
  have g := gone h1 false (r := (xat hs i).1) (by rw [h3]; exact r1) (xat hs i).2
  have la : L2.atI (sdL false (stands s hs (i + 1))) (-1) = some (sdd false (sta s hs i)) := by
    rw [stands_succ, ← sdL_snoc]; exact atI_last _ _
  have u1 : uApp (prL (goings s hs i)) [prr (goi s hs i)] = some (.non, prL (goings s hs (i + 1))) := by
    rw [app_s (by simp [goings_len]; omega), goings_succ, prL_snoc]
  have u2 : uApp (sdL true (stands s hs (i + 1))) [sdd true (sta s hs (i + 1))] = some (.non, sdL true (stands s hs (i + 2))) := by
    rw [app_s (by simp [stands_len]; omega), stands_succ s hs (i + 1), sdL_snoc]
  have e1 : sd true (lat (sta s hs i).1 (sta s hs i).2 (xat hs i).1 (xat hs i).2) (cts (sta s hs i).1 (sta s hs i).2 (xat hs i).1 (xat hs i).2) = sdd true (sta s hs (i + 1)) := rfl
  have e2 : D.nd .tup false [.int (opg (sta s hs i).1 (sta s hs i).2 (xat hs i).1), .int (toP (sta s hs i).1 (sta s hs i).2 (xat hs i).1 (xat hs i).2)] = prr (goi s hs i) := rfl
  rw [e1, e2] at g
  refine ⟨some (prr (goi s hs i)), none, ?_⟩
  generalize stands s hs (i + 1) = S1 at *
  generalize stands s hs (i + 2) = S2 at *
  generalize goings s hs i = G1 at *
  generalize goings s hs (i + 1) = G2 at *
  generalize sta s hs (i + 1) = t2 at *
  generalize sta s hs i = t1 at *
  generalize goi s hs i = g1 at *
  generalize xat hs i = x at *
  simp -implicitDefEqProofs [m_walked_1, la, g, u1, u2]
theorem walked {s : Sd} {hs : List (Nat × Int)} (h : St s.1 s.2) (hh : Hi s.2.length hs) (hl : hs.length ≤ 2000) :
    f_walked [sdd false s, .nd .lst false (rdL hs)] = .ok (.nd .tup false [.nd .lst true (sdL true (stands s hs (hs.length + 1))), .nd .lst true (prL (goings s hs hs.length))]) [none, none] := by
  obtain ⟨I, hI⟩ : ∃ I : Nat → DL.Env → Prop, I = fun i ρ => ∃ v4 w5 w6, ρ = [some (sdd false s), some (.nd .lst false (rdL hs)), some (.nd .lst true (sdL true (stands s hs (i + 1)))), some (.nd .lst true (prL (goings s hs i))), v4, w5, w6] := ⟨_, rfl⟩
  obtain ⟨ρ', e, hL⟩ := loop_I (m := gN 4) (b := m_walked_1) I (rdL hs) [some (sdd false s), some (.nd .lst false (rdL hs)), some (.nd .lst true [sdd true s]), some (.nd .lst true []), none, none, none] (by rw [hI]; exact ⟨none, none, none, rfl⟩) (by
    intro i d ρ hd hi
    rw [hI] at hi
    obtain ⟨v4, w5, w6, rfl⟩ := hi
    obtain ⟨hi, rfl⟩ := rdL_at hd
    obtain ⟨x5, x6, e⟩ := walked_turn h hh hl hi (some (sdd false s)) (some (.nd .lst false (rdL hs))) w5 w6
    refine ⟨_, rfl, ?_⟩
    show Nx (m_walked_1 [some (sdd false s), some (.nd .lst false (rdL hs)), some (.nd .lst true (sdL true (stands s hs (i + 1)))), some (.nd .lst true (prL (goings s hs i))), some (rd (xat hs i)), w5, w6]) _
    rw [e, hI]
    exact ⟨_, _, _, rfl⟩)
  rw [hI, rdL_len] at hL
  obtain ⟨v4, w5, w6, rfl⟩ := hL
  have d1 : dList [il false s.1] = some (il true s.1) := by simp [dList]
  have d2 : dList [il false (nI s.2)] = some (il true (nI s.2)) := by simp [dList]
  unfold f_walked
  rw [defFn_ap]
  simp -implicitDefEqProofs [m_walked, m_walked_2, d1, d2, e]
end PM
namespace PM
open PySem L2 PyProof.Rows DL
theorem enu_eq : ∀ (xs : List D) (k : Nat), enu k xs = (List.range xs.length).map fun i => D.nd .tup false [.int ((k + i : Nat) : Int), xs.getD i .non]
  | [], _ => rfl
  | x :: xs, k => by
    have := enu_eq xs (k + 1)
    rw [List.length_cons, List.range_succ_eq_map, List.map_cons, List.map_map]
    show D.nd .tup false [.int (k : Int), x] :: enu (k + 1) xs = _
    rw [this]
    congr 1
    apply List.map_congr_left
    intro i _
    simp
    omega
theorem enu_nI (cs : List Nat) : enu 0 ((nI cs).map D.int) = (List.range cs.length).map fun i : Nat => D.nd .tup false [.int (i : Int), .int ((cs.getD i 0 : Nat) : Int)] := by
  rw [enu_eq, List.length_map, nI_len]
  apply List.map_congr_left
  intro i hi
  have hi := List.mem_range.mp hi
  simp [nI, List.getD_eq_getElem?_getD, hi]
/-- some things mapped, the test leaving all as it is -/
theorem rLc_fm2 {own : List Nat} {f : MI} {m : MG} {tt te : ME} {ρ ρ1 : DL.Env} {ds : List D} (p : D → Bool) (g : D → D) (hf : f ρ = some (ds, ρ1)) (hl : ds.length ≤ 16777216) (h : ∀ d ∈ ds, ∃ ρa, m d (wipE ρ1 own) = some ρa ∧ Ev (tt ρa) (.bl (p d)) [] ρa ∧ wipE ρa own = wipE ρ1 own ∧ Ev (te ρa) (g d) own (wipE ρ1 own)) :
    rLc own f m tt te ρ = .ok (.nd .lst true ((ds.filter p).map g)) (resE (wipE ρ1 own) ρ1 own) :=
  rLc_fm p g hf hl fun d hd => by
    obtain ⟨ρa, h1, h2, h3, h4⟩ := h d hd
    obtain ⟨ρb, e1, e2⟩ := h2.get
    have e2 : ρb = ρa := e2
    subst e2
    exact ⟨ρb, h1, ρb, e1, h3, fun _ => h4⟩
end PM
namespace PM
open PySem L2 PyProof.Rows DL
def m_law_exchanged_1 : ME := rLc [5, 6] (iEn (aE (rOp dIx (rFz 0) (rV (vC (.int 0)))) aNil)) (gT 2 (gsCons (gN 5) (gsCons (gN 6) gsNil))) rYes (rTup (aE (rFz 6) (aE (rFz 5) aNil)))
def m_law_exchanged_2 : MS := (mSeq (mDo (rMtN uApp 7 (aE (rTup (aE (rFz 8) (aE (rFz 11) aNil))) aNil))) (mSeq (mAsg (rOp dPl (rOp dPl (rSlV (vVar 4) oNo (oV (vVar 11))) (rLst (aE (rV (vOp dIx (vVar 4) (vOp dAdd (vVar 11) (vC (.int 1))))) (aE (rV (vOp dIx (vVar 4) (vVar 11))) aNil)))) (rSlV (vVar 4) (oV (vOp dAdd (vVar 11) (vC (.int 2)))) oNo)) (gN 4)) (mAsg (rV (vOp dAdd (vVar 11) (vC (.int 1)))) (gN 11))))
def m_law_exchanged_3 : MS := (mSeq (mAsg (rV (vOp dIx (vOp dIx (vOp dIx (vVar 3) (vVar 8)) (vC (.int 1))) (vVar 9))) (gN 11)) (mSeq (mAsg (rTup (aE (rV (vOp dIx (vOp dIx (vVar 2) (vVar 8)) (vC (.int 1)))) (aE (rV (vOp dIx (vOp dIx (vVar 4) (vVar 11)) (vC (.int 1)))) aNil))) (mSet 4 pN (vVar 11))) (mWhile (rAnd (rV (vOp dLt (vOp dAdd (vVar 11) (vC (.int 1))) (vB dLen (vCons (vVar 4) vNil)))) (rV (vOp dLt (vOp dIx (vOp dIx (vVar 4) (vOp dAdd (vVar 11) (vC (.int 1)))) (vC (.int 0))) (vOp dIx (vOp dIx (vVar 4) (vVar 11)) (vC (.int 0)))))) m_law_exchanged_2 100)))
def m_law_exchanged_4 : MS := mFor (iEn (aE (rFz 1) aNil)) (gT 2 (gsCons (gN 8) (gsCons (gT 2 (gsCons (gN 9) (gsCons (gN 10) gsNil))) gsNil))) m_law_exchanged_3
def m_law_exchanged_5 : ME := rLc [5, 6] (iE (rFz 4)) (gT 2 (gsCons (gN 6) (gsCons (gN 5) gsNil))) rYes (rFz 5)
def m_law_exchanged : MS := (mSeq (mAsg (rCall (f_law_through) [] (aE (rFz 0) (aE (rFz 1) aNil))) (gT 2 (gsCons (gN 2) (gsCons (gN 3) gsNil)))) (mSeq (mAsg m_law_exchanged_1 (gN 4)) (mSeq (mAsg (rLst aNil) (gN 7)) (mSeq m_law_exchanged_4 (mRet (rTup (aMv 7 (aE m_law_exchanged_5 aNil))))))))
def f_law_exchanged : Fn := defFn 12 [false, false] m_law_exchanged
def m_order_behind_1 : MS := (mSeq (mAsg (rMtV uPopAt 3 pN (vCons (vOp dIx (vOp dIx (vOp dIx (vVar 2) (vVar 4)) (vC (.int 1))) (vVar 5)) vNil)) (gN 7)) (mDo (rMtV uIns 3 pN (vCons (vOp dIx (vOp dIx (vOp dIx (vVar 2) (vOp dAdd (vVar 4) (vC (.int 1)))) (vC (.int 1))) (vVar 5)) (vCons (vVar 7) vNil)))))
def m_order_behind_2 : MS := mFor (iEn (aE (rFz 1) aNil)) (gT 2 (gsCons (gN 4) (gsCons (gT 2 (gsCons (gN 5) (gsCons (gN 6) gsNil))) gsNil))) m_order_behind_1
def m_order_behind : MS := (mSeq (mDo (rCallB (f_need_history) [] (aBw 0 (aBw 1 aNil)))) (mSeq (mAsg (rOp dIx (rCallB (f_walked) [] (aBw 0 (aBw 1 aNil))) (rV (vC (.int 0)))) (gN 2)) (mSeq (mAsg (rRg1 (vB dLen (vCons (vOp dIx (vVar 0) (vC (.int 0))) vNil))) (gN 3)) (mSeq m_order_behind_2 (mRet (rMv 3))))))
def f_order_behind : Fn := defFn 8 [false, false] m_order_behind
def m_passings_1 : ME := rLc [8] (iR2 (aE (rV (vOp dIx (vVar 7) (vC (.int 0)))) (aE (rV (vOp dIx (vVar 7) (vC (.int 1)))) aNil))) (gN 8) rYes (rTup (aE (rFz 4) (aE (rFz 8) aNil)))
def m_passings_2 : MS := (mSeq (mAsg (rLst (aE (rV (vOp dIx (vOp dIx (vOp dIx (vVar 2) (vVar 4)) (vC (.int 1))) (vVar 5))) (aE (rV (vOp dIx (vOp dIx (vOp dIx (vVar 2) (vOp dAdd (vVar 4) (vC (.int 1)))) (vC (.int 1))) (vVar 5))) aNil))) (gN 7)) (mDo (rMtN uExt 3 (aE m_passings_1 aNil))))
def m_passings_3 : MS := mFor (iEn (aE (rFz 1) aNil)) (gT 2 (gsCons (gN 4) (gsCons (gT 2 (gsCons (gN 5) (gsCons (gN 6) gsNil))) gsNil))) m_passings_2
def m_passings : MS := (mSeq (mDo (rCallB (f_need_history) [] (aBw 0 (aBw 1 aNil)))) (mSeq (mAsg (rOp dIx (rCallB (f_walked) [] (aBw 0 (aBw 1 aNil))) (rV (vC (.int 0)))) (gN 2)) (mSeq (mAsg (rLst aNil) (gN 3)) (mSeq m_passings_3 (mRet (rMv 3))))))
def f_passings : Fn := defFn 9 [false, false] m_passings
def m_LAW_k23_1 : MS := (mSeq (mAsg (rLst (aE (rCallB (f_passings) [] (aBw 4 (aBw 5 aNil))) (aE (rCallB (f_order_behind) [] (aBw 4 (aBw 5 aNil))) aNil))) (gN 10)) (mSeq (mIf (rOr (rNot (rCallB (f_law_same 4) [] (aBw 10 (aE (rLst (aE (rFz 6) (aE (rFz 7) aNil))) aNil)))) (rOpEV dNeX (rB dRepr (aE (rLst (aE (rFz 4) (aE (rFz 5) aNil))) aNil)) (vVar 8))) (mRet (rV (vC (.bl false)))) mNx) (mSeq (mDo (rMtL uApp 10 (pIx 10 pN (vC (.int 0))) (aE (rTup (aE (rV (vC (.int 0))) (aE (rV (vC (.int 0))) aNil))) aNil))) (mDo (rMtV uRev 10 (pIx 10 pN (vC (.int 1))) vNil)))))
def m_LAW_k23_2 : MS := mFor (iR1 (aE (rV (vC (.int 2))) aNil)) (gN 9) m_LAW_k23_1
def m_LAW_k23_3 : MS := (mSeq (mAsg (rCall (f_law_stand) [] (aIo 2 (aE (rV (vC (.int 12))) aNil))) (gN 4)) (mSeq (mAsg (rCallB (f_law_history) [] (aIo 2 (aBw 4 (aE (rV (vC (.int 30))) aNil)))) (gN 5)) (mSeq (mAsg (rCallB (f_law_exchanged) [] (aBw 4 (aBw 5 aNil))) (gT 2 (gsCons (gN 6) (gsCons (gN 7) gsNil)))) (mSeq (mAsg (rB dRepr (aE (rLst (aE (rFz 4) (aE (rFz 5) aNil))) aNil)) (gN 8)) (mSeq m_LAW_k23_2 (mSeq (mAsg (rLst (aE (rCallKB (f_passings) [1, 0] (aBw 5 (aBw 4 aNil))) (aE (rCallKB (f_order_behind) [1, 0] (aBw 5 (aBw 4 aNil))) aNil))) (gN 10)) (mIf (rNot (rCallB (f_law_same 4) [] (aBw 10 (aE (rLst (aMv 6 (aMv 7 aNil))) aNil)))) (mRet (rV (vC (.bl false)))) mNx)))))))
def m_LAW_k23_4 : MS := mFor (iR1 (aE (rV (vC (.int 2))) aNil)) (gN 3) m_LAW_k23_3
def m_LAW_k23_5 : MS := (mSeq (mAsg (rCallB (f_law_ribbon) [] (aBw 0 (aBw 1 aNil))) (gN 2)) m_LAW_k23_4)
def m_LAW_k23_6 : MS := mFor (iR1 (aE (rV (vB dMax2 (vCons (vC (.int 1)) (vCons (vB dMin2 (vCons (vB dLen (vCons (vVar 0) vNil)) (vCons (vC (.int 8)) vNil))) vNil)))) aNil)) (gN 1) m_LAW_k23_5
def m_LAW_k23 : MS := (mSeq m_LAW_k23_6 (mRet (rV (vC (.bl true)))))
def f_LAW_k23 : Fn := defFn 11 [false] m_LAW_k23
end PM
namespace PM
open PySem L2 PyProof.Rows DL
theorem isReading {s : Sd} {x : Nat × Int} (hr : x.1 < s.2.length) (h1 : 1 ≤ x.2) (h2 : x.2 ≤ big) (o : Bool) : f_is_reading [sdd o s, rd x] = .ok (.bl true) [none, none] := by
  have e1 := readingOf (s.2.length : Int) (rdg x.1 x.2) rfl rfl
  rw [isRd_rdg hr h1 h2] at e1
  unfold f_is_reading
  rw [defFn_ap]
  simp -implicitDefEqProofs [m_is_reading, e1]
theorem enu_rd (hs : List (Nat × Int)) : enu 0 (rdL hs) = (List.range hs.length).map fun i : Nat => D.nd .tup false [.int (i : Int), rd (xat hs i)] := by
  rw [enu_eq, rdL_len]
  apply List.map_congr_left
  intro i hi
  have hi := List.mem_range.mp hi
  simp [rdL, xat, List.getD_eq_getElem?_getD, hi]
theorem enu_rd_at {hs : List (Nat × Int)} {i : Nat} {d : D} (h : (enu 0 (rdL hs))[i]? = some d) : i < hs.length ∧ d = D.nd .tup false [.int (i : Int), rd (xat hs i)] := by
  rw [enu_rd, List.getElem?_map] at h
  obtain ⟨j, h1, rfl⟩ := Option.map_eq_some_iff.mp h
  obtain ⟨hi, h2⟩ := List.getElem?_eq_some_iff.mp h1
  rw [List.getElem_range] at h2
  rw [List.length_range] at hi
  subst h2
  exact ⟨hi, rfl⟩
theorem needHistory {s : Sd} {hs : List (Nat × Int)} (h : St s.1 s.2) (hh : Hi s.2.length hs) : f_need_history [sdd false s, .nd .lst false (rdL hs)] = .ok .non [none, none] := by
  have e1 := needStand h false
  obtain ⟨I, hI⟩ : ∃ I : Nat → DL.Env → Prop, I = fun i ρ => ∃ v2 v3, ρ = [some (sdd false s), some (.nd .lst false (rdL hs)), v2, v3] := ⟨_, rfl⟩
  obtain ⟨ρ', e, hL⟩ := loop_I (m := gT 2 (gsCons (gN 2) (gsCons (gN 3) gsNil))) (b := m_need_history_1) I (enu 0 (rdL hs)) [some (sdd false s), some (.nd .lst false (rdL hs)), none, none] (by rw [hI]; exact ⟨none, none, rfl⟩) (by
    intro i d ρ hd hi
    rw [hI] at hi
    obtain ⟨v2, v3, rfl⟩ := hi
    obtain ⟨hi, rfl⟩ := enu_rd_at hd
    obtain ⟨r1, r2, r3⟩ := hh.at hi
    have e2 := isReading (s := s) r1 r2 r3 false
    refine ⟨_, rfl, ?_⟩
    generalize xat hs i = x at *
    simp -implicitDefEqProofs [m_need_history_1, e2]
    rw [hI]
    exact ⟨_, _, rfl⟩)
  rw [hI] at hL
  obtain ⟨v2, v3, rfl⟩ := hL
  unfold f_need_history
  rw [defFn_ap]
  simp -implicitDefEqProofs [m_need_history, m_need_history_2, e1, isD, e]
/-- the count of who reads next, ahead of and behind the reading -/
def ca (s : Sd) (hs : List (Nat × Int)) (i : Nat) : Nat := (sta s hs i).2.getD (xat hs i).1 0
def cb (s : Sd) (hs : List (Nat × Int)) (i : Nat) : Nat := cnt (sta s hs i).1 (sta s hs i).2 (xat hs i).1 (xat hs i).2
theorem sdL_at {o : Bool} {xs : List Sd} {i : Nat} (h : i < xs.length) : L2.atI (sdL o xs) (i : Int) = some (sdd o xs[i]) := by
  rw [atL (by simpa using h)]; simp [sdL]
theorem stands_at {o : Bool} {s : Sd} {hs : List (Nat × Int)} {n i : Nat} (h : i < n) : L2.atI (sdL o (stands s hs n)) (i : Int) = some (sdd o (sta s hs i)) := by
  rw [sdL_at (by rw [stands_len]; exact h)]; simp [stands]
theorem goings_at {s : Sd} {hs : List (Nat × Int)} {n i : Nat} (h : i < n) : L2.atI (prL (goings s hs n)) (i : Int) = some (prr (goi s hs i)) := by
  rw [atL (by rw [prL_len, goings_len]; exact h)]; simp [prL, goings]
theorem ca_at {s : Sd} {hs : List (Nat × Int)} (h : St s.1 s.2) (hh : Hi s.2.length hs) {i : Nat} (hi : i < hs.length) : L2.atI ((nI (sta s hs i).2).map D.int) ((xat hs i).1 : Int) = some (.int (ca s hs i)) := by
  obtain ⟨h1, h2, h3⟩ := sta_ok h hh i (by omega)
  have hr := (hh.at hi).1
  rw [atN (by rw [h3]; exact hr)]
  unfold ca
  rw [List.getD_eq_getElem?_getD, List.getElem?_eq_getElem (by rw [h3]; exact hr)]; rfl
theorem cb_at {s : Sd} {hs : List (Nat × Int)} (h : St s.1 s.2) (hh : Hi s.2.length hs) {i : Nat} (hi : i < hs.length) : L2.atI ((nI (sta s hs (i + 1)).2).map D.int) ((xat hs i).1 : Int) = some (.int (cb s hs i)) := by
  obtain ⟨h1, h2, h3⟩ := sta_ok h hh (i + 1) (by omega)
  obtain ⟨k1, k2, k3⟩ := sta_ok h hh i (by omega)
  have hr := (hh.at hi).1
  rw [atN (by rw [h3]; exact hr)]
  have := cts_r (ms := (sta s hs i).1) (cs := (sta s hs i).2) (r := (xat hs i).1) (p := (xat hs i).2) (by rw [k3]; exact hr)
  have e : (sta s hs (i + 1)).2.getD (xat hs i).1 0 = cb s hs i := this
  rw [List.getD_eq_getElem?_getD, List.getElem?_eq_getElem (by rw [h3]; exact hr)] at e
  rw [← e]; rfl
/-- the passings of one reading, and of the first ones -/
def pas (s : Sd) (hs : List (Nat × Int)) (i : Nat) : List (Int × Int) := (List.range (cb s hs i - ca s hs i)).map fun j : Nat => ((i : Int), (ca s hs i : Int) + (j : Int))
def pass (s : Sd) (hs : List (Nat × Int)) (n : Nat) : List (Int × Int) := (List.range n).flatMap (pas s hs)
theorem pass_succ (s : Sd) (hs : List (Nat × Int)) (n : Nat) : pass s hs (n + 1) = pass s hs n ++ pas s hs n := by simp [pass, List.range_succ]
theorem c_lt {s : Sd} {hs : List (Nat × Int)} (h : St s.1 s.2) (hh : Hi s.2.length hs) {i : Nat} (hi : i < hs.length) : ca s hs i < 12 ∧ cb s hs i < 12 ∧ ca s hs i < s.1.length ∧ cb s hs i < s.1.length := by
  obtain ⟨h1, h2, h3⟩ := sta_ok h hh i (by omega)
  have hr := (hh.at hi).1
  have a := h1.at (r := (xat hs i).1) (by rw [h3]; exact hr)
  have b : cb s hs i < (sta s hs i).1.length := by
    have := pos_le (oth (sta s hs i).1 ((sta s hs i).2.getD (xat hs i).1 0)) (toP (sta s hs i).1 (sta s hs i).2 (xat hs i).1 (xat hs i).2)
    have := oth_len a
    unfold cb cnt; omega
  have := h.m.le
  rw [h2] at a b
  exact ⟨by show _ < _; unfold ca; omega, by omega, a, b⟩
theorem pas_len {s : Sd} {hs : List (Nat × Int)} (h : St s.1 s.2) (hh : Hi s.2.length hs) {i : Nat} (hi : i < hs.length) : (pas s hs i).length ≤ 12 := by
  have := c_lt h hh hi
  unfold pas; simp; omega
theorem pass_len {s : Sd} {hs : List (Nat × Int)} (h : St s.1 s.2) (hh : Hi s.2.length hs) : ∀ n, n ≤ hs.length → (pass s hs n).length ≤ 12 * n
  | 0, _ => by simp [pass]
  | n + 1, hn => by
    have := pass_len h hh n (by omega)
    have := pas_len h hh (i := n) (by omega)
    rw [pass_succ, List.length_append]; omega
theorem rgD_range (a b : Nat) : rgD (a : Int) (b : Int) = (List.range (b - a)).map fun j : Nat => D.int ((a : Int) + j) := by
  unfold rgD
  rw [show ((b : Int) - a).toNat = b - a by omega]
theorem passings_turn {s : Sd} {hs : List (Nat × Int)} (h : St s.1 s.2) (hh : Hi s.2.length hs) (hl : hs.length ≤ 2000) {i : Nat} (hi : i < hs.length) (v0 v1 v7 v8 : Option D) :
    ∃ w7 w8, m_passings_2 [v0, v1, some (.nd .lst true (sdL true (stands s hs (hs.length + 1)))), some (.nd .lst true (prL (pass s hs i))), some (.int (i : Int)), some (.int ((xat hs i).1 : Int)), some (.int (xat hs i).2), v7, v8] = .nx [v0, v1, some (.nd .lst true (sdL true (stands s hs (hs.length + 1)))), some (.nd .lst true (prL (pass s hs (i + 1)))), some (.int (i : Int)), some (.int ((xat hs i).1 : Int)), some (.int (xat hs i).2), w7, w8] := by
  have a1 := stands_at (o := true) (s := s) (hs := hs) (n := hs.length + 1) (i := i) (by omega)
  have a2 : L2.atI (sdL true (stands s hs (hs.length + 1))) ((i : Int) + 1) = some (sdd true (sta s hs (i + 1))) := stands_at (i := i + 1) (by omega)
  have b1 := ca_at h hh hi
  have b2 := cb_at h hh hi
  obtain ⟨l1, l2, _, _⟩ := c_lt h hh hi
  have r2 : ∀ ρ, iR2V ρ (some [.int (ca s hs i : Int), .int (cb s hs i : Int)]) = some (rgD (ca s hs i) (cb s hs i), ρ) := fun ρ => iR2V_s (by omega) (by omega) (by omega) (by omega)
  have c : ∀ v0 v1 v2 v3 v5 v6 v8 : Option D, m_passings_1 [v0, v1, v2, v3, some (.int (i : Int)), v5, v6, some (.nd .lst true [.int (ca s hs i : Int), .int (cb s hs i : Int)]), v8] = .ok (.nd .lst true (prL (pas s hs i))) [v0, v1, v2, v3, some (.int (i : Int)), v5, v6, some (.nd .lst true [.int (ca s hs i : Int), .int (cb s hs i : Int)]), v8] := by
    intro v0 v1 v2 v3 v5 v6 v8
    unfold m_passings_1
    rw [rLc_map (ρ1 := [v0, v1, v2, v3, some (.int (i : Int)), v5, v6, some (.nd .lst true [.int (ca s hs i : Int), .int (cb s hs i : Int)]), v8]) (ds := rgD (ca s hs i) (cb s hs i)) (fun d => match d with | .int j => prr ((i : Int), j) | _ => .non) (by simp -implicitDefEqProofs [r2]) (by rw [rgD_len]; omega) (fun d hd => by
      rw [rgD_range] at hd
      obtain ⟨j, _, rfl⟩ := List.mem_map.mp hd
      exact ⟨_, rfl, rfl, by simp -implicitDefEqProofs []⟩)]
    rw [rgD_range, List.map_map]
    have e : ((List.range (cb s hs i - ca s hs i)).map ((fun d => match d with | .int j => prr ((i : Int), j) | _ => .non) ∘ fun j : Nat => D.int ((ca s hs i : Int) + j))) = prL (pas s hs i) := by
      unfold prL pas
      rw [List.map_map]
      rfl
    rw [e]
    rfl
  have x1 : uExt (prL (pass s hs i)) [.nd .lst true (prL (pas s hs i))] = some (.non, prL (pass s hs (i + 1))) := by
    have := pass_len h hh i (by omega)
    have := pas_len h hh hi
    show (if decide ((prL (pass s hs i)).length + (prL (pas s hs i)).length ≤ sizeLine) = true then some (D.non, prL (pass s hs i) ++ prL (pas s hs i)) else none) = _
    rw [decide_eq_true (by rw [szl, prL_len, prL_len]; omega), pass_succ]
    simp [prL]
  refine ⟨some (.nd .lst true [.int (ca s hs i : Int), .int (cb s hs i : Int)]), v8, ?_⟩
  generalize stands s hs (hs.length + 1) = S1 at *
  generalize pass s hs i = P1 at *
  generalize pass s hs (i + 1) = P2 at *
  generalize pas s hs i = P3 at *
  generalize sta s hs (i + 1) = t2 at *
  generalize sta s hs i = t1 at *
  generalize ca s hs i = c1 at *
  generalize cb s hs i = c2 at *
  generalize xat hs i = x at *
  simp -implicitDefEqProofs [m_passings_2, a1, a2, b1, b2, c, x1]
theorem passings {s : Sd} {hs : List (Nat × Int)} (h : St s.1 s.2) (hh : Hi s.2.length hs) (hl : hs.length ≤ 2000) : f_passings [sdd false s, .nd .lst false (rdL hs)] = .ok (.nd .lst true (prL (pass s hs hs.length))) [none, none] := by
  have e1 := needHistory h hh
  have e2 := walked h hh hl
  obtain ⟨I, hI⟩ : ∃ I : Nat → DL.Env → Prop, I = fun i ρ => ∃ v4 v5 v6 v7 v8, ρ = [some (sdd false s), some (.nd .lst false (rdL hs)), some (.nd .lst true (sdL true (stands s hs (hs.length + 1)))), some (.nd .lst true (prL (pass s hs i))), v4, v5, v6, v7, v8] := ⟨_, rfl⟩
  obtain ⟨ρ', e, hL⟩ := loop_I (m := gT 2 (gsCons (gN 4) (gsCons (gT 2 (gsCons (gN 5) (gsCons (gN 6) gsNil))) gsNil))) (b := m_passings_2) I (enu 0 (rdL hs)) [some (sdd false s), some (.nd .lst false (rdL hs)), some (.nd .lst true (sdL true (stands s hs (hs.length + 1)))), some (.nd .lst true []), none, none, none, none, none] (by rw [hI]; exact ⟨_, _, _, _, _, rfl⟩) (by
    intro i d ρ hd hi
    rw [hI] at hi
    obtain ⟨v4, v5, v6, v7, v8, rfl⟩ := hi
    obtain ⟨hi, rfl⟩ := enu_rd_at hd
    obtain ⟨w7, w8, e⟩ := passings_turn h hh hl hi (some (sdd false s)) (some (.nd .lst false (rdL hs))) v7 v8
    refine ⟨_, rfl, ?_⟩
    show Nx (m_passings_2 [some (sdd false s), some (.nd .lst false (rdL hs)), some (.nd .lst true (sdL true (stands s hs (hs.length + 1)))), some (.nd .lst true (prL (pass s hs i))), some (.int (i : Int)), some (.int ((xat hs i).1 : Int)), some (.int (xat hs i).2), v7, v8]) _
    rw [e, hI]
    exact ⟨_, _, _, _, _, rfl⟩)
  rw [hI, enu_len, rdL_len] at hL
  obtain ⟨v4, v5, v6, v7, v8, rfl⟩ := hL
  unfold f_passings
  rw [defFn_ap]
  generalize stands s hs (hs.length + 1) = S1 at *
  generalize goings s hs hs.length = G1 at *
  generalize pass s hs hs.length = P1 at *
  simp -implicitDefEqProofs [m_passings, m_passings_3, e1, e2, e]
end PM
namespace PM
open PySem L2 PyProof.Rows DL
theorem seqIx {c n : Nat} (h : c < n) : seqIndex? (c : Int) n = some c := by
  have e : (if (c : Int) < 0 then (c : Int) + n else c) = c := if_neg (by omega)
  simp only [seqIndex?, e]
  rw [if_pos (by simp; omega), Int.toNat_natCast]
theorem popAt_s {xs : List D} {c : Nat} (h : c < xs.length) (hc : c < 2 ^ 60) : uPopAt xs [.int (c : Int)] = some (xs[c], xs.eraseIdx c) := by
  unfold uPopAt
  dsimp only
  rw [if_pos (by simp only [Bool.and_eq_true, decide_eq_true_eq]; omega), seqIx h, Option.bind_some, List.getElem?_eq_getElem h]; rfl
theorem ins_s {xs : List D} {c : Nat} {d : D} (hc : c < 2 ^ 60) (hl : xs.length < 16777216) : uIns xs [.int (c : Int), d] = some (.non, xs.take c ++ d :: xs.drop c) := by
  unfold uIns
  dsimp only
  rw [if_pos (by rw [szl]; simp only [Bool.and_eq_true, decide_eq_true_eq]; omega), Int.toNat_natCast]
  simp
theorem erase_map {α β : Type} (f : α → β) (l : List α) (i : Nat) : (l.map f).eraseIdx i = (l.eraseIdx i).map f := by
  rw [List.eraseIdx_eq_take_drop_succ, List.eraseIdx_eq_take_drop_succ]; simp
/-- taken out at c, put in at k -/
def mv {α : Type} (d : α) (o : List α) (c k : Nat) : List α := (o.eraseIdx c).take k ++ o.getD c d :: (o.eraseIdx c).drop k
theorem mv_len {α : Type} (d : α) (o : List α) (c k : Nat) (h : c < o.length) : (mv d o c k).length = o.length := by
  unfold mv
  rw [List.length_append, List.length_cons, List.length_take, List.length_drop, List.length_eraseIdx_of_lt h]
  omega
def orS (s : Sd) (hs : List (Nat × Int)) : Nat → List Nat
  | 0 => List.range s.1.length
  | i + 1 => mv 0 (orS s hs i) (ca s hs i) (cb s hs i)
theorem orS_len {s : Sd} {hs : List (Nat × Int)} (h : St s.1 s.2) (hh : Hi s.2.length hs) : ∀ i, i ≤ hs.length → (orS s hs i).length = s.1.length
  | 0, _ => by simp [orS]
  | i + 1, hi => by
    have ih := orS_len h hh i (by omega)
    obtain ⟨_, _, l1, l2⟩ := c_lt h hh (i := i) (by omega)
    show (mv 0 _ _ _).length = _
    rw [mv_len _ _ _ _ (by omega), ih]
theorem order_turn {s : Sd} {hs : List (Nat × Int)} (h : St s.1 s.2) (hh : Hi s.2.length hs) (hl : hs.length ≤ 2000) {i : Nat} (hi : i < hs.length) (v0 v1 v7 : Option D) :
    ∃ w7, m_order_behind_1 [v0, v1, some (.nd .lst true (sdL true (stands s hs (hs.length + 1)))), some (il true (nI (orS s hs i))), some (.int (i : Int)), some (.int ((xat hs i).1 : Int)), some (.int (xat hs i).2), v7] = .nx [v0, v1, some (.nd .lst true (sdL true (stands s hs (hs.length + 1)))), some (il true (nI (orS s hs (i + 1)))), some (.int (i : Int)), some (.int ((xat hs i).1 : Int)), some (.int (xat hs i).2), w7] := by
  have a1 := stands_at (o := true) (s := s) (hs := hs) (n := hs.length + 1) (i := i) (by omega)
  have a2 : L2.atI (sdL true (stands s hs (hs.length + 1))) ((i : Int) + 1) = some (sdd true (sta s hs (i + 1))) := stands_at (i := i + 1) (by omega)
  have b1 := ca_at h hh hi
  have b2 := cb_at h hh hi
  obtain ⟨l1, l2, l3, l4⟩ := c_lt h hh hi
  have ol := orS_len h hh i (by omega)
  have ml := h.m.le
  have hc : ca s hs i < (orS s hs i).length := by omega
  have u1 : uPopAt ((nI (orS s hs i)).map D.int) [.int (ca s hs i : Int)] = some (.int ((orS s hs i).getD (ca s hs i) 0 : Nat), (nI ((orS s hs i).eraseIdx (ca s hs i))).map D.int) := by
    rw [popAt_s (by simpa using hc) (by omega)]
    have e1 : ((nI (orS s hs i)).map D.int)[ca s hs i]'(by simpa using hc) = .int ((orS s hs i).getD (ca s hs i) 0 : Nat) := by
      simp [nI, hc]
    have e2 : ((nI (orS s hs i)).map D.int).eraseIdx (ca s hs i) = (nI ((orS s hs i).eraseIdx (ca s hs i))).map D.int := by
      unfold nI; rw [erase_map, erase_map]
    rw [e1, e2]
  have u2 : uIns ((nI ((orS s hs i).eraseIdx (ca s hs i))).map D.int) [.int (cb s hs i : Int), .int ((orS s hs i).getD (ca s hs i) 0 : Nat)] = some (.non, (nI (orS s hs (i + 1))).map D.int) := by
    rw [ins_s (by omega) (by simp [List.length_eraseIdx_of_lt hc]; omega)]
    have : orS s hs (i + 1) = mv 0 (orS s hs i) (ca s hs i) (cb s hs i) := rfl
    rw [this]
    unfold mv
    simp [nI]
  refine ⟨some (.int ((orS s hs i).getD (ca s hs i) 0 : Nat)), ?_⟩
  generalize stands s hs (hs.length + 1) = S1 at *
  generalize orS s hs (i + 1) = o2 at *
  generalize (orS s hs i).getD (ca s hs i) 0 = g at *
  generalize (orS s hs i).eraseIdx (ca s hs i) = oe at *
  generalize orS s hs i = o1 at *
  generalize sta s hs (i + 1) = t2 at *
  generalize sta s hs i = t1 at *
  generalize ca s hs i = c1 at *
  generalize cb s hs i = c2 at *
  generalize xat hs i = x at *
  simp -implicitDefEqProofs [m_order_behind_1, a1, a2, b1, b2, u1, u2]
theorem orderBehind {s : Sd} {hs : List (Nat × Int)} (h : St s.1 s.2) (hh : Hi s.2.length hs) (hl : hs.length ≤ 2000) : f_order_behind [sdd false s, .nd .lst false (rdL hs)] = .ok (il true (nI (orS s hs hs.length))) [none, none] := by
  have e1 := needHistory h hh
  have e2 := walked h hh hl
  have ml := h.m.le
  obtain ⟨I, hI⟩ : ∃ I : Nat → DL.Env → Prop, I = fun i ρ => ∃ v4 v5 v6 v7, ρ = [some (sdd false s), some (.nd .lst false (rdL hs)), some (.nd .lst true (sdL true (stands s hs (hs.length + 1)))), some (il true (nI (orS s hs i))), v4, v5, v6, v7] := ⟨_, rfl⟩
  obtain ⟨ρ', e, hL⟩ := loop_I (m := gT 2 (gsCons (gN 4) (gsCons (gT 2 (gsCons (gN 5) (gsCons (gN 6) gsNil))) gsNil))) (b := m_order_behind_1) I (enu 0 (rdL hs)) [some (sdd false s), some (.nd .lst false (rdL hs)), some (.nd .lst true (sdL true (stands s hs (hs.length + 1)))), some (il true (nI (List.range s.1.length))), none, none, none, none] (by rw [hI]; exact ⟨_, _, _, _, rfl⟩) (by
    intro i d ρ hd hi
    rw [hI] at hi
    obtain ⟨v4, v5, v6, v7, rfl⟩ := hi
    obtain ⟨hi, rfl⟩ := enu_rd_at hd
    obtain ⟨w7, e⟩ := order_turn h hh hl hi (some (sdd false s)) (some (.nd .lst false (rdL hs))) v7
    refine ⟨_, rfl, ?_⟩
    show Nx (m_order_behind_1 [some (sdd false s), some (.nd .lst false (rdL hs)), some (.nd .lst true (sdL true (stands s hs (hs.length + 1)))), some (il true (nI (orS s hs i))), some (.int (i : Int)), some (.int ((xat hs i).1 : Int)), some (.int (xat hs i).2), v7]) _
    rw [e, hI]
    exact ⟨_, _, _, _, rfl⟩)
  rw [hI, enu_len, rdL_len] at hL
  obtain ⟨v4, v5, v6, v7, rfl⟩ := hL
  have hrg := rRg1_s (f := vB dLen (vCons (vOp dIx (vVar 0) (vC (.int 0))) vNil)) (ρ := [some (sdd false s), some (.nd .lst false (rdL hs)), some (.nd .lst true (sdL true (stands s hs (hs.length + 1)))), none, none, none, none, none]) (n := s.1.length) (by simp) (by omega)
  unfold f_order_behind
  rw [defFn_ap]
  generalize stands s hs (hs.length + 1) = S1 at *
  generalize goings s hs hs.length = G1 at *
  generalize orS s hs hs.length = P1 at *
  generalize List.range s.1.length = rg at *
  simp -implicitDefEqProofs [m_order_behind, m_order_behind_2, e1, e2, hrg, e]
/-! ### the law's own reading -/
theorem read_while (v0 v1 v2 v4 v5 v7 : Option D) (o : Bool) (xs : List Int) : ∀ (k : Nat) (e : Int) (n : Nat), k < n → (xs.filter fun x => decide (e ≤ x)).length < k → mWhile (rV (vOp dIn (vVar 6) (vVar 3))) m_law_read_1 n [v0, v1, v2, some (il o xs), v4, v5, some (.int e), v7] = .nx [v0, v1, v2, some (il o xs), v4, v5, some (.int (land k xs e)), v7]
  | 0, e, n, _, h => absurd h (by omega)
  | k + 1, e, n + 1, hn, h => by
    unfold land
    by_cases m : e ∈ xs
    · rw [if_pos m, while_go (ρ1 := [v0, v1, v2, some (il o xs), v4, v5, some (.int e), v7]) (ρ2 := [v0, v1, v2, some (il o xs), v4, v5, some (.int (e + 1)), v7]) (by simp -implicitDefEqProofs [m]) (by simp -implicitDefEqProofs [m_law_read_1])]
      exact read_while v0 v1 v2 v4 v5 v7 o xs k (e + 1) n (by omega) (by have := filter_lt m; omega)
    · rw [if_neg m, while_stop (ρ1 := [v0, v1, v2, some (il o xs), v4, v5, some (.int e), v7]) (by simp -implicitDefEqProofs [m])]
  | k + 1, e, 0, hn, h => absurd hn (by omega)
theorem comp_filter' {own : List Nat} {f : MI} {j : Nat} {tt te : ME} {ρ ρ1 : DL.Env} {xs : List Int} (p : Int → Bool) (hf : f ρ = some (xs.map D.int, ρ1)) (hl : xs.length ≤ 16777216)
    (h : ∀ i ∈ xs, Ev (tt ((wipE ρ1 own).set j (some (.int i)))) (.bl (p i)) [] ((wipE ρ1 own).set j (some (.int i))) ∧ wipE ((wipE ρ1 own).set j (some (.int i))) own = wipE ρ1 own ∧ Ev (te ((wipE ρ1 own).set j (some (.int i)))) (.int i) own (wipE ρ1 own)) :
    rLc own f (gN j) tt te ρ = .ok (il true (xs.filter p)) (resE (wipE ρ1 own) ρ1 own) := by
  have := rLc_fm2 (own := own) (f := f) (m := gN j) (tt := tt) (te := te) (ρ := ρ) (ρ1 := ρ1) (ds := xs.map D.int) (fun d => match d with | .int i => p i | _ => false) (fun d => d) hf (by simpa using hl) (fun d hd => by
    obtain ⟨i, hi, rfl⟩ := List.mem_map.mp hd
    obtain ⟨h0, h1, h2⟩ := h i hi
    exact ⟨_, rfl, h0, h1, h2⟩)
  rw [this, List.map_id', List.filter_map]
  rfl
theorem oth_erase (ms : List Int) (c : Nat) : ms.eraseIdx c = oth ms c := List.eraseIdx_eq_take_drop_succ ..
theorem lread {ms : List Int} {cs : List Nat} (h : St ms cs) {r : Nat} (hr : r < cs.length) (p : Int) : f_law_read [sd false ms cs, .int (r : Int), .int p] = .ok (.nd .tup false [prr (opg ms cs r, toP ms cs r p), sd true (lat ms cs r p) (cts ms cs r p)]) [none, none, none] := by
  have hc := h.at hr
  obtain ⟨c, ec⟩ : ∃ c, c = cs.getD r 0 := ⟨_, rfl⟩
  rw [← ec] at hc
  have ec' : cs[r] = c := by rw [ec, List.getD_eq_getElem?_getD, List.getElem?_eq_getElem hr]; rfl
  have a1 := atN hr
  rw [ec'] at a1
  have ep : ms[c] = opg ms cs r := by
    unfold opg
    rw [← ec, List.getD_eq_getElem?_getD, List.getElem?_eq_getElem hc]; rfl
  have hl := h.m.le
  have hl2 := h.le
  have ol := oth_len hc
  have d1 : dList [il false ms] = some (il true ms) := by simp [dList]
  have d2 : dList [il false (nI cs)] = some (il true (nI cs)) := by simp [dList]
  have u1 : uPopAt (ms.map D.int) [.int (c : Int)] = some (.int (opg ms cs r), (oth ms c).map D.int) := by
    rw [popAt_s (by simpa using hc) (by omega), erase_map, oth_erase]
    simp [ep]
  have w := read_while (some (sd false ms cs)) (some (.int (r : Int))) (some (.int p)) (some (il true (nI cs))) (some (.int (opg ms cs r))) none true (oth ms c) 13 (opg ms cs r + p) 100 (by omega) (Nat.lt_of_le_of_lt (List.length_filter_le ..) (by omega))
  have ew : land 13 (oth ms c) (opg ms cs r + p) = toP ms cs r p := by unfold toP; rw [ec]
  rw [ew] at w
  have cm : m_law_read_2 [some (sd false ms cs), some (.int (r : Int)), some (.int p), some (il false (oth ms c)), some (il false (nI cs)), some (.int (opg ms cs r)), some (.int (toP ms cs r p)), none] = .ok (il true ((oth ms c).filter fun x => decide (x < toP ms cs r p))) [some (sd false ms cs), some (.int (r : Int)), some (.int p), some (il false (oth ms c)), some (il false (nI cs)), some (.int (opg ms cs r)), some (.int (toP ms cs r p)), none] := by
    unfold m_law_read_2
    rw [comp_filter' (ρ1 := [some (sd false ms cs), some (.int (r : Int)), some (.int p), some (il false (oth ms c)), some (il false (nI cs)), some (.int (opg ms cs r)), some (.int (toP ms cs r p)), none]) (xs := oth ms c) (fun x => decide (x < toP ms cs r p)) (by simp -implicitDefEqProofs []) (by omega) (fun i _ => ⟨by simp -implicitDefEqProofs [], rfl, by simp -implicitDefEqProofs []⟩)]
    rfl
  have fl : (((oth ms c).filter fun x => decide (x < toP ms cs r p)).length : Int) = (cnt ms cs r p : Nat) := by unfold cnt pos; rw [← ec]
  have ix := ixN_nat (n := cs.length) hr
  have s1 : ((nI cs).map D.int).set r (.int (cnt ms cs r p : Nat)) = (nI (cts ms cs r p)).map D.int := by
    unfold cts nI
    rw [← List.map_set, ← List.map_set]
  have a2 : L2.atI ((nI (cts ms cs r p)).map D.int) (r : Int) = some (.int (cnt ms cs r p : Nat)) := by
    rw [atN (by simpa [cts] using hr)]
    simp [cts]
  have u2 : uIns ((oth ms c).map D.int) [.int (cnt ms cs r p : Int), .int (toP ms cs r p)] = some (.non, (lat ms cs r p).map D.int) := by
    have := pos_le (oth ms c) (toP ms cs r p)
    rw [ins_s (by unfold cnt; rw [← ec]; omega) (by simp; omega)]
    unfold lat put cnt
    rw [← ec]
    simp
  unfold f_law_read
  rw [defFn_ap]
  generalize (oth ms c).filter (fun x => decide (x < toP ms cs r p)) = fz at *
  generalize cts ms cs r p = ct at *
  generalize lat ms cs r p = la at *
  generalize toP ms cs r p = to at *
  generalize opg ms cs r = op at *
  generalize cnt ms cs r p = cn at *
  generalize oth ms c = ot at *
  simp -implicitDefEqProofs [m_law_read, d1, d2, a1, u1, w, cm, fl, ix, s1, a2, u2]
end PM
namespace PM
open PySem L2 PyProof.Rows DL
/-! ### the law's own going through -/
/-- its stands: the first one is the asker's -/
def sdM (s : Sd) (hs : List (Nat × Int)) (n : Nat) : List D := sdd false s :: sdL true ((List.range n).map fun i => sta s hs (i + 1))
theorem sdM_succ (s : Sd) (hs : List (Nat × Int)) (n : Nat) : sdM s hs (n + 1) = sdM s hs n ++ [sdd true (sta s hs (n + 1))] := by
  simp [sdM, List.range_succ, sdL]
theorem sdM_len (s : Sd) (hs : List (Nat × Int)) (n : Nat) : (sdM s hs n).length = n + 1 := by simp [sdM, sdL]
theorem sdM_frz (s : Sd) (hs : List (Nat × Int)) (n : Nat) : frzs (sdM s hs n) = sdL false (stands s hs (n + 1)) := by
  unfold sdM stands
  rw [List.range_succ_eq_map, List.map_cons, List.map_map]
  show frz (sdd false s) :: frzs (sdL true _) = sdd false s :: sdL false _
  rw [frzs_sdL]
  congr 1
  simp
theorem sdM_noObj (s : Sd) (hs : List (Nat × Int)) (n : Nat) : noObjs (sdM s hs n) = true := by
  show (noObj (sdd false s) && noObjs (sdL true _)) = true
  simp
theorem sdM_at {s : Sd} {hs : List (Nat × Int)} {n i : Nat} (h : i ≤ n) : ∃ o, L2.atI (sdM s hs n) (i : Int) = some (sdd o (sta s hs i)) := by
  have hl : i < (sdM s hs n).length := by rw [sdM_len]; omega
  rw [atL hl]
  cases i with
  | zero => exact ⟨false, rfl⟩
  | succ i => exact ⟨true, by simp [sdM, sdL]⟩
theorem through_turn {s : Sd} {hs : List (Nat × Int)} (h : St s.1 s.2) (hh : Hi s.2.length hs) (hl : hs.length ≤ 2000) {i : Nat} (hi : i < hs.length) (v0 v1 v6 v7 : Option D) :
    ∃ w6 w7, m_law_through_1 [v0, v1, some (.nd .lst true (prL (goings s hs i))), some (.nd .lst true (sdM s hs i)), some (.int ((xat hs i).1 : Int)), some (.int (xat hs i).2), v6, v7] = .nx [v0, v1, some (.nd .lst true (prL (goings s hs (i + 1)))), some (.nd .lst true (sdM s hs (i + 1))), some (.int ((xat hs i).1 : Int)), some (.int (xat hs i).2), w6, w7] := by
  obtain ⟨h1, h2, h3⟩ := sta_ok h hh i (by omega)
  obtain ⟨r1, r2, r3⟩ := hh.at hi
  have g := lread h1 (r := (xat hs i).1) (by rw [h3]; exact r1) (xat hs i).2
  have la : L2.atI (sdL false (stands s hs (i + 1))) (-1) = some (sdd false (sta s hs i)) := by
    rw [stands_succ, ← sdL_snoc]; exact atI_last _ _
  have no := sdM_noObj s hs i
  have fz := sdM_frz s hs i
  have u1 : uApp (prL (goings s hs i)) [prr (goi s hs i)] = some (.non, prL (goings s hs (i + 1))) := by
    rw [app_s (by simp [goings_len]; omega), goings_succ, prL_snoc]
  have u2 : uApp (sdM s hs i) [sdd true (sta s hs (i + 1))] = some (.non, sdM s hs (i + 1)) := by
    rw [app_s (by rw [sdM_len]; omega), sdM_succ]
  have e1 : sd true (lat (sta s hs i).1 (sta s hs i).2 (xat hs i).1 (xat hs i).2) (cts (sta s hs i).1 (sta s hs i).2 (xat hs i).1 (xat hs i).2) = sdd true (sta s hs (i + 1)) := rfl
  have e2 : prr (opg (sta s hs i).1 (sta s hs i).2 (xat hs i).1, toP (sta s hs i).1 (sta s hs i).2 (xat hs i).1 (xat hs i).2) = prr (goi s hs i) := rfl
  rw [e1, e2] at g
  refine ⟨some (prr (goi s hs i)), none, ?_⟩
  have ns : noOwns (sdL false (stands s hs (i + 1))) = true := noOwns_sdF _
  generalize stands s hs (i + 1) = S1 at *
  generalize sdM s hs (i + 1) = M2 at *
  generalize sdM s hs i = M1 at *
  generalize goings s hs i = G1 at *
  generalize goings s hs (i + 1) = G2 at *
  generalize sta s hs (i + 1) = t2 at *
  generalize sta s hs i = t1 at *
  generalize goi s hs i = g1 at *
  generalize xat hs i = x at *
  simp -implicitDefEqProofs [m_law_through_1, la, g, u1, u2, no, fz]
theorem through {s : Sd} {hs : List (Nat × Int)} (h : St s.1 s.2) (hh : Hi s.2.length hs) (hl : hs.length ≤ 2000) :
    f_law_through [sdd false s, .nd .lst false (rdL hs)] = .ok (.nd .tup false [.nd .lst true (prL (goings s hs hs.length)), .nd .lst true (sdM s hs hs.length)]) [none, none] := by
  obtain ⟨I, hI⟩ : ∃ I : Nat → DL.Env → Prop, I = fun i ρ => ∃ v4 v5 w6 w7, ρ = [none, some (.nd .lst false (rdL hs)), some (.nd .lst true (prL (goings s hs i))), some (.nd .lst true (sdM s hs i)), v4, v5, w6, w7] := ⟨_, rfl⟩
  obtain ⟨ρ', e, hL⟩ := loop_I (m := gT 2 (gsCons (gN 4) (gsCons (gN 5) gsNil))) (b := m_law_through_1) I (rdL hs) [none, some (.nd .lst false (rdL hs)), some (.nd .lst true []), some (.nd .lst true [sdd false s]), none, none, none, none] (by rw [hI]; exact ⟨none, none, none, none, rfl⟩) (by
    intro i d ρ hd hi
    rw [hI] at hi
    obtain ⟨v4, v5, w6, w7, rfl⟩ := hi
    obtain ⟨hi, rfl⟩ := rdL_at hd
    obtain ⟨x6, x7, e⟩ := through_turn h hh hl hi none (some (.nd .lst false (rdL hs))) w6 w7
    refine ⟨_, rfl, ?_⟩
    show Nx (m_law_through_1 [none, some (.nd .lst false (rdL hs)), some (.nd .lst true (prL (goings s hs i))), some (.nd .lst true (sdM s hs i)), some (.int ((xat hs i).1 : Int)), some (.int (xat hs i).2), w6, w7]) _
    rw [e, hI]
    exact ⟨_, _, _, _, rfl⟩)
  rw [hI, rdL_len] at hL
  obtain ⟨v4, v5, w6, w7, rfl⟩ := hL
  unfold f_law_through
  rw [defFn_ap]
  simp -implicitDefEqProofs [m_law_through, m_law_through_2, e]
/-! ### marks of colours, exchanged -/
abbrev cl (x : Int × Nat) : D := .nd .tup false [.int x.1, .int (x.2 : Int)]
def clL (xs : List (Int × Nat)) : List D := xs.map cl
@[simp] theorem noObjs_clL (xs : List (Int × Nat)) : noObjs (clL xs) = true := noObjs_all fun d hd => by
  obtain ⟨x, _, rfl⟩ := List.mem_map.mp hd; simp
@[simp] theorem noOwns_clL (xs : List (Int × Nat)) : noOwns (clL xs) = true := noOwns_all fun d hd => by
  obtain ⟨x, _, rfl⟩ := List.mem_map.mp hd; simp
@[simp] theorem frzs_clL (xs : List (Int × Nat)) : frzs (clL xs) = clL xs := frzs_id _ (noOwns_clL xs)
@[simp] theorem clL_len (xs : List (Int × Nat)) : (clL xs).length = xs.length := by simp [clL]
def row (s : Sd) (hs : List (Nat × Int)) (i : Nat) : List (Int × Nat) := (sta s hs i).1.zip (orS s hs i)
def bub (rest : List (Int × Nat)) (x : Int × Nat) (j : Nat) : List (Int × Nat) := rest.take j ++ x :: rest.drop j
theorem bub_len (rest : List (Int × Nat)) (x : Int × Nat) (j : Nat) (h : j ≤ rest.length) : (bub rest x j).length = rest.length + 1 := by
  simp [bub]; omega
theorem bub_at (rest : List (Int × Nat)) (x : Int × Nat) {j : Nat} (h : j ≤ rest.length) : L2.atI (clL (bub rest x j)) (j : Int) = some (cl x) := by
  rw [atL (by rw [clL_len, bub_len _ _ _ h]; omega)]
  simp [clL, bub, List.getElem_append_right, Nat.min_eq_left h]
theorem bub_at1 (rest : List (Int × Nat)) (x : Int × Nat) {j : Nat} (h : j < rest.length) : L2.atI (clL (bub rest x j)) ((j : Int) + 1) = some (cl rest[j]) := by
  have : L2.atI (clL (bub rest x j)) ((j + 1 : Nat) : Int) = some (cl rest[j]) := by
    rw [atL (by rw [clL_len, bub_len _ _ _ (by omega)]; omega)]
    have e : (clL (bub rest x j))[j + 1]? = some (cl rest[j]) := by
      unfold clL bub
      rw [List.getElem?_map, List.getElem?_append_right (by simp; omega)]
      simp [Nat.min_eq_left (Nat.le_of_lt h), h]
    have := List.getElem?_eq_some_iff.mp e
    rw [this.2]
  exact this
theorem bub_next (rest : List (Int × Nat)) (x : Int × Nat) {j : Nat} (h : j < rest.length) : bub rest x (j + 1) = rest.take j ++ rest[j] :: x :: rest.drop (j + 1) := by
  unfold bub
  rw [List.take_succ_eq_append_getElem h, List.append_assoc]
  rfl
theorem bub_take (rest : List (Int × Nat)) (x : Int × Nat) {j : Nat} (h : j ≤ rest.length) : (bub rest x j).take j = rest.take j := by
  unfold bub
  rw [List.take_append_of_le_length (by simp; omega), List.take_take, Nat.min_self]
theorem bub_drop (rest : List (Int × Nat)) (x : Int × Nat) {j : Nat} (h : j < rest.length) : (bub rest x j).drop (j + 2) = rest.drop (j + 1) := by
  unfold bub
  rw [List.drop_append, List.drop_of_length_le (by simp; omega), List.nil_append, List.length_take, Nat.min_eq_left (Nat.le_of_lt h), show j + 2 - j = 2 by omega]
  simp
theorem cutD_to (xs : List D) (k : Nat) : DL.cutD xs none (some (k : Int)) = xs.take k := by
  unfold DL.cutD
  rw [sIx_nat, sIx_none]; simp
theorem cutD_from (xs : List D) (k : Nat) : DL.cutD xs (some (k : Int)) none = xs.drop k := by
  unfold DL.cutD
  rw [sIx_nat, sIx_none]
  by_cases h : k ≤ xs.length
  · rw [Nat.min_eq_left h, List.take_of_length_le (by simp)]
  · rw [Nat.min_eq_right (by omega)]; simp; omega
theorem zip_erase {α β : Type} : ∀ (a : List α) (b : List β) (c : Nat), (a.zip b).eraseIdx c = (a.eraseIdx c).zip (b.eraseIdx c)
  | [], b, c => by simp
  | x :: a, [], c => by cases c <;> simp
  | x :: a, y :: b, 0 => rfl
  | x :: a, y :: b, c + 1 => by simp [zip_erase a b c]
theorem zip_put {α β : Type} : ∀ (a : List α) (b : List β) (x : α) (y : β) (k : Nat), a.length = b.length → k ≤ a.length → (a.take k ++ x :: a.drop k).zip (b.take k ++ y :: b.drop k) = (a.zip b).take k ++ (x, y) :: (a.zip b).drop k
  | a, b, x, y, 0, _, _ => by simp
  | [], b, x, y, k + 1, _, h => by simp at h
  | p :: a, [], x, y, k + 1, h, _ => by simp at h
  | p :: a, q :: b, x, y, k + 1, h, h2 => by
    have := zip_put a b x y k (by simpa using h) (by simpa using h2)
    simp [this]
theorem pos_iff {xs : List Int} (h : xs.Pairwise (· < ·)) {e : Int} {j : Nat} (hj : j < xs.length) : xs[j] < e ↔ j < pos xs e := by
  have h1 := (pos_cut e h).1
  have h2 := (pos_cut e h).2
  constructor
  · intro lt
    by_cases z : j < pos xs e
    · exact z
    · have hm : xs[j] ∈ xs.drop (pos xs e) := by
        rw [List.mem_drop_iff_getElem]
        exact ⟨j - pos xs e, by omega, by congr 1; omega⟩
      rw [h2] at hm
      have := (List.mem_filter.mp hm).2
      simp at this
      omega
  · intro lt
    have hm : xs[j] ∈ xs.take (pos xs e) := List.mem_take_iff_getElem.mpr ⟨j, by omega, rfl⟩
    rw [h1] at hm
    simpa using (List.mem_filter.mp hm).2
/-- one reading's exchanges -/
theorem ex_while (v0 v1 v2 v3 v5 v6 v9 v10 : Option D) (i : Nat) (rest : List (Int × Nat)) (x : Int × Nat) (cn : Nat) (hcn : cn ≤ rest.length) (hl : rest.length ≤ 1000) (hp : ∀ j (h : j < rest.length), (rest[j].1 < x.1 ↔ j < cn)) (P : List (Int × Int)) (hP : P.length ≤ 1000000) :
    ∀ (k j : Nat) (n : Nat), j + k = cn → k < n → ∀ c, c ≤ j → mWhile (rAnd (rV (vOp dLt (vOp dAdd (vVar 11) (vC (.int 1))) (vB dLen (vCons (vVar 4) vNil)))) (rV (vOp dLt (vOp dIx (vOp dIx (vVar 4) (vOp dAdd (vVar 11) (vC (.int 1)))) (vC (.int 0))) (vOp dIx (vOp dIx (vVar 4) (vVar 11)) (vC (.int 0)))))) m_law_exchanged_2 n
      [v0, v1, v2, v3, some (.nd .lst true (clL (bub rest x j))), v5, v6, some (.nd .lst true (prL (P ++ (List.range (j - c)).map fun y : Nat => ((i : Int), (c : Int) + (y : Int))))), some (.int (i : Int)), v9, v10, some (.int (j : Int))] =
      .nx [v0, v1, v2, v3, some (.nd .lst true (clL (bub rest x cn))), v5, v6, some (.nd .lst true (prL (P ++ (List.range (cn - c)).map fun y : Nat => ((i : Int), (c : Int) + (y : Int))))), some (.int (i : Int)), v9, v10, some (.int (cn : Int))] := by
  intro k
  induction k with
  | zero =>
    intro j n e hn c hc
    have e : j = cn := by omega
    subst e
    obtain ⟨m, rfl⟩ : ∃ m, n = m + 1 := ⟨n - 1, by omega⟩
    have bl := bub_len rest x j hcn
    refine while_stop ?_
    by_cases z : j < rest.length
    · have a1 := bub_at1 rest x z
      have a2 := bub_at rest x hcn
      have nlt : ¬ rest[j].1 < x.1 := fun q => by have := (hp j z).mp q; omega
      generalize rest[j] = q at *
      generalize bub rest x j = b at *
      have c1 : (j : Int) + 1 < (b.length : Int) := by omega
      simp -implicitDefEqProofs [c1, a1, a2, nlt]
    · generalize bub rest x j = b at *
      have c1 : ¬ (j : Int) + 1 < (b.length : Int) := by omega
      simp -implicitDefEqProofs [c1]
  | succ k ih =>
    intro j n e hn c hc
    obtain ⟨m, rfl⟩ : ∃ m, n = m + 1 := ⟨n - 1, by omega⟩
    have z : j < rest.length := by omega
    have bl := bub_len rest x j (by omega)
    have a1 := bub_at1 rest x z
    have a2 := bub_at rest x (j := j) (by omega)
    have lt : rest[j].1 < x.1 := (hp j z).mpr (by omega)
    have t1 := cutD_to (clL (bub rest x j)) j
    have t2 : DL.cutD (clL (bub rest x j)) (some ((j : Int) + 2)) none = (clL (bub rest x j)).drop (j + 2) := cutD_from (clL (bub rest x j)) (j + 2)
    have t3 : (clL (bub rest x j)).take j = clL (rest.take j) := by unfold clL; rw [← List.map_take, bub_take rest x (by omega)]
    have t4 : (clL (bub rest x j)).drop (j + 2) = clL (rest.drop (j + 1)) := by unfold clL; rw [← List.map_drop, bub_drop rest x z]
    rw [t3] at t1
    rw [t4] at t2
    have p1 : dPl (.nd .lst true (clL (rest.take j))) (.nd .lst true [cl rest[j], cl x]) = some (.nd .lst true (clL (rest.take j) ++ [cl rest[j], cl x])) := pl_s true true _ _ (by simp) (by simp) (by simp; omega)
    have p2 : dPl (.nd .lst true (clL (rest.take j) ++ [cl rest[j], cl x])) (.nd .lst true (clL (rest.drop (j + 1)))) = some (.nd .lst true (clL (bub rest x (j + 1)))) := by
      rw [pl_s true true _ _ (by simp) (by simp) (by simp; omega), bub_next rest x z]
      simp [clL]
    have u1 : uApp (prL (P ++ (List.range (j - c)).map fun y : Nat => ((i : Int), (c : Int) + (y : Int)))) [prr ((i : Int), (j : Int))] = some (.non, prL (P ++ (List.range (j + 1 - c)).map fun y : Nat => ((i : Int), (c : Int) + (y : Int)))) := by
      rw [app_s (by simp; omega), prL_snoc, show j + 1 - c = (j - c) + 1 by omega, List.range_succ]
      have : (c : Int) + ((j - c : Nat) : Int) = j := by omega
      simp [this]
    rw [while_go (ρ1 := [v0, v1, v2, v3, some (.nd .lst true (clL (bub rest x j))), v5, v6, some (.nd .lst true (prL (P ++ (List.range (j - c)).map fun y : Nat => ((i : Int), (c : Int) + (y : Int))))), some (.int (i : Int)), v9, v10, some (.int (j : Int))])
      (ρ2 := [v0, v1, v2, v3, some (.nd .lst true (clL (bub rest x (j + 1)))), v5, v6, some (.nd .lst true (prL (P ++ (List.range (j + 1 - c)).map fun y : Nat => ((i : Int), (c : Int) + (y : Int))))), some (.int (i : Int)), v9, v10, some (.int ((j + 1 : Nat) : Int))]) ?_ ?_]
    · exact ih (j + 1) m (by omega) (by omega) c (by omega)
    · generalize rest[j] = q at *
      generalize P ++ (List.range (j - c)).map (fun y : Nat => ((i : Int), (c : Int) + (y : Int))) = P1 at *
      generalize bub rest x j = b at *
      have c1 : (j : Int) + 1 < (b.length : Int) := by omega
      simp -implicitDefEqProofs [c1, a1, a2, lt]
    · generalize rest[j] = q at *
      generalize P ++ (List.range (j - c)).map (fun y : Nat => ((i : Int), (c : Int) + (y : Int))) = P1 at *
      generalize P ++ (List.range (j + 1 - c)).map (fun y : Nat => ((i : Int), (c : Int) + (y : Int))) = P2 at *
      generalize bub rest x (j + 1) = b2 at *
      generalize bub rest x j = b at *
      generalize rest.take j = r1 at *
      generalize rest.drop (j + 1) = r2 at *
      simp -implicitDefEqProofs [m_law_exchanged_2, a1, a2, t1, t2, p1, p2, u1]
end PM
namespace PM
open PySem L2 PyProof.Rows DL
/-- plain data without dicts, so deep at most -/
def Sm : Nat → D → Prop
  | k + 1, .nd .lst _ xs => xs.length ≤ 100000 ∧ ∀ d ∈ xs, Sm k d
  | k + 1, .nd .tup _ xs => xs.length ≤ 100000 ∧ ∀ d ∈ xs, Sm k d
  | _, .nd _ _ _ => False
  | _, _ => True
theorem Sm.int {k : Nat} {i : Int} : Sm k (.int i) := by cases k <;> trivial
theorem Sm.bl {k : Nat} {i : Bool} : Sm k (.bl i) := by cases k <;> trivial
theorem Sm.str {k : Nat} {i : Str} : Sm k (.str i) := by cases k <;> trivial
theorem Sm.non {k : Nat} : Sm k .non := by cases k <;> trivial
theorem Sm.noObj : ∀ {k : Nat} {d : D}, Sm k d → DL.noObj d = true
  | _, .non, _ => rfl
  | _, .bl _, _ => rfl
  | _, .int _, _ => rfl
  | _, .str _, _ => rfl
  | k + 1, .nd .lst _ xs, h => noObjs_all fun d hd => Sm.noObj (h.2 d hd)
  | k + 1, .nd .tup _ xs, h => noObjs_all fun d hd => Sm.noObj (h.2 d hd)
  | 0, .nd k _ _, h => by cases k <;> exact h.elim
  | k + 1, .nd .fzl _ _, h => h.elim
  | k + 1, .nd (.dct _) _ _, h => h.elim
  | k + 1, .nd (.dtt _) _ _, h => h.elim
  | k + 1, .nd (.obj _ _) _ _, h => h.elim
  | k + 1, .nd (.exn _ _) _ _, h => h.elim
theorem Sm.up : ∀ {k : Nat} {d : D}, Sm k d → Sm (k + 1) d
  | _, .non, _ => Sm.non
  | _, .bl _, _ => Sm.bl
  | _, .int _, _ => Sm.int
  | _, .str _, _ => Sm.str
  | k + 1, .nd .lst _ xs, h => ⟨h.1, fun d hd => (h.2 d hd).up⟩
  | k + 1, .nd .tup _ xs, h => ⟨h.1, fun d hd => (h.2 d hd).up⟩
  | 0, .nd k _ _, h => by cases k <;> exact h.elim
  | k + 1, .nd .fzl _ _, h => h.elim
  | k + 1, .nd (.dct _) _ _, h => h.elim
  | k + 1, .nd (.dtt _) _ _, h => h.elim
  | k + 1, .nd (.obj _ _) _ _, h => h.elim
  | k + 1, .nd (.exn _ _) _ _, h => h.elim
theorem Sm.le {k m : Nat} {d : D} (h : Sm k d) (l : k ≤ m) : Sm m d := by
  obtain ⟨j, rfl⟩ := Nat.le.dest l
  clear l
  induction j with
  | zero => exact h
  | succ j ih => exact ih.up
theorem Sm.ints {o : Bool} {x : List Int} (h : x.length ≤ 100000) : Sm 1 (il o x) := ⟨by simpa using h, fun d hd => by
  obtain ⟨i, _, rfl⟩ := List.mem_map.mp hd
  exact Sm.int⟩
theorem frz_frz (d : D) : frz (frz d) = frz d := frz_id _ (frz_no d)
theorem frzs_frzs (d : List D) : frzs (frzs d) = frzs d := frzs_id _ (frzs_no d)
theorem Sm.frz : ∀ {k : Nat} {d : D}, Sm k (DL.frz d) ↔ Sm k d
  | k, .non => Iff.rfl
  | k, .bl _ => Iff.rfl
  | k, .int _ => Iff.rfl
  | k, .str _ => Iff.rfl
  | 0, .nd k _ _ => by cases k <;> exact Iff.rfl
  | k + 1, .nd .lst o xs => by
    show ((frzs xs).length ≤ 100000 ∧ ∀ d ∈ frzs xs, Sm k d) ↔ (xs.length ≤ 100000 ∧ ∀ d ∈ xs, Sm k d)
    rw [frzs_map, List.length_map]
    refine and_congr_right fun _ => ⟨fun h d hd => (Sm.frz).mp (h _ (List.mem_map_of_mem hd)), fun h d hd => ?_⟩
    obtain ⟨e, he, rfl⟩ := List.mem_map.mp hd
    exact Sm.frz.mpr (h e he)
  | k + 1, .nd .tup o xs => by
    show ((frzs xs).length ≤ 100000 ∧ ∀ d ∈ frzs xs, Sm k d) ↔ (xs.length ≤ 100000 ∧ ∀ d ∈ xs, Sm k d)
    rw [frzs_map, List.length_map]
    refine and_congr_right fun _ => ⟨fun h d hd => (Sm.frz).mp (h _ (List.mem_map_of_mem hd)), fun h d hd => ?_⟩
    obtain ⟨e, he, rfl⟩ := List.mem_map.mp hd
    exact Sm.frz.mpr (h e he)
  | k + 1, .nd .fzl _ _ => Iff.rfl
  | k + 1, .nd (.dct _) _ _ => Iff.rfl
  | k + 1, .nd (.dtt _) _ _ => Iff.rfl
  | k + 1, .nd (.obj _ _) _ _ => Iff.rfl
  | k + 1, .nd (.exn _ _) _ _ => Iff.rfl
mutual
theorem noObj_frz : ∀ d : D, DL.noObj (frz d) = DL.noObj d
  | .non => rfl
  | .bl _ => rfl
  | .int _ => rfl
  | .str _ => rfl
  | .nd .lst _ xs => noObjs_frzs xs
  | .nd .fzl _ xs => noObjs_frzs xs
  | .nd .tup _ xs => noObjs_frzs xs
  | .nd (.dct _) _ xs => noObjs_frzs xs
  | .nd (.dtt _) _ xs => noObjs_frzs xs
  | .nd (.obj _ _) _ xs => rfl
  | .nd (.exn _ _) _ xs => noObjs_frzs xs
theorem noObjs_frzs : ∀ ds : List D, DL.noObjs (frzs ds) = DL.noObjs ds
  | [] => rfl
  | d :: ds => by
    show (DL.noObj (frz d) && DL.noObjs (frzs ds)) = (DL.noObj d && DL.noObjs ds)
    rw [noObj_frz d, noObjs_frzs ds]
end
theorem same_comp (k : Nat) (kd : Nd) (hk : kd = .lst ∨ kd = .tup) (xs ys : List D) (o o' : Bool) (h : frzs xs = frzs ys) (hl : xs.length ≤ 100000) (hx : noObjs xs = true)
    (ih : ∀ d ∈ frzs xs, f_law_same_v2 k [d, d] = .ok (.bl true) [none, none]) :
    ∃ x y z, m_law_same_v2_1 (f_law_same_v2 k) [some (.nd kd o xs), some (.nd kd o' ys), none] = .ok (.nd .lst true (List.replicate xs.length (.bl true))) [x, y, z] := by
  have ly : ys.length = xs.length := by
    have := congrArg List.length h
    rw [frzs_map, frzs_map, List.length_map, List.length_map] at this
    omega
  have hxf : noObjs (frzs xs) = true := by rw [noObjs_frzs]; exact hx
  have hlf : (frzs xs).length = xs.length := by rw [frzs_map, List.length_map]
  have hr : ∀ ρ, iR1V ρ (some [.int (ys.length : Int)]) = some (rgD 0 (xs.length : Int), ρ) := fun ρ => by rw [ly]; exact iR1V_s (by omega) (by omega)
  obtain ⟨I, hI⟩ : ∃ I : Nat → List D → DL.Env → Prop, I = fun i acc ρ => ∃ oa xa ob xb, ρ = [some (.nd kd oa xa), some (.nd kd ob xb), none] ∧ frzs xa = frzs xs ∧ frzs xb = frzs xs ∧ noObjs xa = true ∧ noObjs xb = true ∧ acc = List.replicate i (.bl true) := ⟨_, rfl⟩
  have hy : noObjs ys = true := by rw [← noObjs_frzs, ← h, noObjs_frzs]; exact hx
  obtain ⟨rs, ρ', e, hL⟩ := rLc_I (own := [2]) (f := iR1 (aE (rV (vB dLen (vCons (vVar 1) vNil))) aNil)) (m := gN 2) (te := rCall (f_law_same_v2 k) [] (aE (rOp dIx (rFz 0) (rFz 2)) (aE (rOp dIx (rFz 1) (rFz 2)) aNil))) (ρ := [some (.nd kd o xs), some (.nd kd o' ys), none]) (ρ1 := [some (.nd kd o xs), some (.nd kd o' ys), none]) (ds := rgD 0 (xs.length : Int)) I
    (by rcases hk with rfl | rfl <;> simp -implicitDefEqProofs [hr]) (by rw [rgD_len]; omega) (by rw [hI]; exact ⟨o, xs, o', ys, rfl, rfl, h.symm, hx, hy, rfl⟩) (by
      intro i dd acc ρ hd hi
      rw [hI] at hi
      obtain ⟨oa, xa, ob, xb, rfl, h1, h2, h3, h4, rfl⟩ := hi
      obtain ⟨rfl, lt⟩ := rgD_at hd
      have hi : i < (frzs xs).length := by omega
      have ha := atL hi
      have es := ih _ (List.getElem_mem hi)
      refine ⟨_, rfl, ?_⟩
      generalize (frzs xs)[i] = u at ha es
      generalize frzs xs = z at *
      rcases hk with rfl | rfl <;> simp -implicitDefEqProofs [h1, h2, h3, h4, ha, es] <;> rw [hI] <;> exact ⟨false, z, false, z, rfl, by rw [← h1, frzs_frzs], by rw [← h1, frzs_frzs], hxf, hxf, by rw [List.replicate_succ']⟩)
  rw [hI] at hL
  obtain ⟨oa, xa, ob, xb, rfl, h1, h2, h3, h4, rfl⟩ := hL
  rw [rgD_len, show ((xs.length : Int) - 0).toNat = xs.length by omega] at e
  exact ⟨_, _, _, e⟩
theorem dAll_rep (o : Bool) (n : Nat) : dAll [.nd .lst o (List.replicate n (.bl true))] = some (.bl true) := by
  show (blsD _).map _ = _
  have : List.replicate n (D.bl true) = (List.replicate n true).map D.bl := by simp
  rw [this, bls_of]
  simp
@[simp] theorem dIsN_s' (x : Str) : dIsN (.str x) .non = some (.bl false) := rfl
@[simp] theorem dIsN_b' (x : Bool) : dIsN (.bl x) .non = some (.bl false) := rfl
theorem frz_nd_inv {k : Nd} {xs : List D} {b : D} (h : D.nd k false xs = frz b) : ∃ o ys, b = .nd k o ys ∧ xs = frzs ys := by
  cases b with
  | nd k2 o ys =>
    injection h with h1 _ h3
    exact ⟨o, ys, by rw [h1], h3⟩
  | _ => cases h
theorem same_ok : ∀ (k : Nat) (a b : D), Sm k a → frz a = frz b → f_law_same_v2 (k + 1) [a, b] = .ok (.bl true) [none, none]
  | k, .non, b, _, h => by
    cases b <;> simp at h
    show defFn 3 [false, false] (m_law_same_v2 (f_law_same_v2 k)) _ = _
    rw [defFn_ap]
    simp -implicitDefEqProofs [m_law_same_v2, isD]
  | k, .bl x, b, _, h => by
    cases b <;> simp at h
    subst h
    show defFn 3 [false, false] (m_law_same_v2 (f_law_same_v2 k)) _ = _
    rw [defFn_ap]
    simp -implicitDefEqProofs [m_law_same_v2, isD]
  | k, .int x, b, _, h => by
    cases b <;> simp at h
    subst h
    show defFn 3 [false, false] (m_law_same_v2 (f_law_same_v2 k)) _ = _
    rw [defFn_ap]
    simp -implicitDefEqProofs [m_law_same_v2, isD]
  | k, .str x, b, _, h => by
    cases b <;> simp at h
    subst h
    show defFn 3 [false, false] (m_law_same_v2 (f_law_same_v2 k)) _ = _
    rw [defFn_ap]
    simp -implicitDefEqProofs [m_law_same_v2, isD]
  | k + 1, .nd .lst o xs, b, hs, h => by
    obtain ⟨o', ys, rfl, h2⟩ := frz_nd_inv (show D.nd .lst false (frzs xs) = frz b from h)
    have ly : ys.length = xs.length := by
      have := congrArg List.length h2
      rw [frzs_map, frzs_map, List.length_map, List.length_map] at this
      omega
    obtain ⟨_, _, _, e⟩ := same_comp (k + 1) .lst (.inl rfl) xs ys o o' h2 hs.1 (noObjs_all fun d hd => Sm.noObj (hs.2 d hd)) (fun d hd => by
      rw [frzs_map] at hd
      obtain ⟨c, hc, rfl⟩ := List.mem_map.mp hd
      exact same_ok k _ _ (Sm.frz.mpr (hs.2 c hc)) rfl)
    have ha := dAll_rep true xs.length
    show defFn 3 [false, false] (m_law_same_v2 (f_law_same_v2 (k + 1))) _ = _
    rw [defFn_ap]
    simp -implicitDefEqProofs [m_law_same_v2, isD, ly, e, ha]
  | k + 1, .nd .tup o xs, b, hs, h => by
    obtain ⟨o', ys, rfl, h2⟩ := frz_nd_inv (show D.nd .tup false (frzs xs) = frz b from h)
    have ly : ys.length = xs.length := by
      have := congrArg List.length h2
      rw [frzs_map, frzs_map, List.length_map, List.length_map] at this
      omega
    obtain ⟨_, _, _, e⟩ := same_comp (k + 1) .tup (.inr rfl) xs ys o o' h2 hs.1 (noObjs_all fun d hd => Sm.noObj (hs.2 d hd)) (fun d hd => by
      rw [frzs_map] at hd
      obtain ⟨c, hc, rfl⟩ := List.mem_map.mp hd
      exact same_ok k _ _ (Sm.frz.mpr (hs.2 c hc)) rfl)
    have ha := dAll_rep true xs.length
    show defFn 3 [false, false] (m_law_same_v2 (f_law_same_v2 (k + 1))) _ = _
    rw [defFn_ap]
    simp -implicitDefEqProofs [m_law_same_v2, isD, ly, e, ha]
  | 0, .nd k _ _, _, h, _ => by cases k <;> exact h.elim
  | k + 1, .nd .fzl _ _, _, h, _ => h.elim
  | k + 1, .nd (.dct _) _ _, _, h, _ => h.elim
  | k + 1, .nd (.dtt _) _ _, _, h, _ => h.elim
  | k + 1, .nd (.obj _ _) _ _, _, h, _ => h.elim
  | k + 1, .nd (.exn _ _) _ _, _, h, _ => h.elim
/-- four deep -/
theorem same4 {a b : D} (h : Sm 3 a) (e : frz a = frz b) : f_law_same_v2 4 [a, b] = .ok (.bl true) [none, none] := same_ok 3 a b h e
end PM
namespace PM
open PySem L2 PyProof.Rows DL
/-! ### plain things that stand still, so wide at each depth -/
def Gd : List Nat → D → Prop
  | n :: L, .nd .lst o xs => o = false ∧ xs.length ≤ n ∧ ∀ d ∈ xs, Gd L d
  | n :: L, .nd .tup o xs => o = false ∧ xs.length ≤ n ∧ ∀ d ∈ xs, Gd L d
  | _, .nd _ _ _ => False
  | _, .int i => i.natAbs < 10 ^ 72
  | _, .str s => PyData.strOk s = true ∧ s.length ≤ 100
  | _, _ => True
def szG : List Nat → Nat
  | [] => 1010
  | n :: L => n * (szG L + 2) + 1010
theorem Gd.int {L : List Nat} {i : Int} (h : i.natAbs < 10 ^ 72) : Gd L (.int i) := by cases L <;> exact h
theorem Gd.bl {L : List Nat} {b : Bool} : Gd L (.bl b) := by cases L <;> trivial
theorem Gd.non {L : List Nat} : Gd L .non := by cases L <;> trivial
theorem Gd.str {L : List Nat} {s : Str} (h : PyData.strOk s = true) (h2 : s.length ≤ 100) : Gd L (.str s) := by cases L <;> exact ⟨h, h2⟩
theorem Gd.lst {n : Nat} {L : List Nat} {xs : List D} (h : xs.length ≤ n) (h2 : ∀ d ∈ xs, Gd L d) : Gd (n :: L) (.nd .lst false xs) := ⟨rfl, h, h2⟩
theorem Gd.tup {n : Nat} {L : List Nat} {xs : List D} (h : xs.length ≤ n) (h2 : ∀ d ∈ xs, Gd L d) : Gd (n :: L) (.nd .tup false xs) := ⟨rfl, h, h2⟩
theorem Gd.ints {n : Nat} {L : List Nat} {x : List Int} (h : x.length ≤ n) (h2 : ∀ i ∈ x, i.natAbs < 10 ^ 72) : Gd (n :: L) (il false x) := Gd.lst (by simpa using h) fun d hd => by
  obtain ⟨i, hi, rfl⟩ := List.mem_map.mp hd
  exact Gd.int (h2 i hi)
theorem Gd.pl : ∀ {L : List Nat} {d : D}, Gd L d → Pl d = true
  | _, .non, _ => rfl
  | _, .bl _, _ => rfl
  | _, .int _, _ => rfl
  | _, .str _, _ => rfl
  | n :: L, .nd .lst _ xs, h => by
    obtain ⟨_, hl, h⟩ := h
    clear hl
    show Pls xs = true
    induction xs with
    | nil => rfl
    | cons x r ih => show (Pl x && Pls r) = true; rw [Gd.pl (h x List.mem_cons_self), ih fun d hd => h d (List.mem_cons_of_mem _ hd)]; rfl
  | n :: L, .nd .tup _ xs, h => by
    obtain ⟨_, hl, h⟩ := h
    clear hl
    show Pls xs = true
    induction xs with
    | nil => rfl
    | cons x r ih => show (Pl x && Pls r) = true; rw [Gd.pl (h x List.mem_cons_self), ih fun d hd => h d (List.mem_cons_of_mem _ hd)]; rfl
  | [], .nd k _ _, h => by cases k <;> exact h.elim
  | n :: L, .nd .fzl _ _, h => h.elim
  | n :: L, .nd (.dct _) _ _, h => h.elim
  | n :: L, .nd (.dtt _) _ _, h => h.elim
  | n :: L, .nd (.obj _ _) _ _, h => h.elim
  | n :: L, .nd (.exn _ _) _ _, h => h.elim
theorem Gd.no : ∀ {L : List Nat} {d : D}, Gd L d → noOwn d = true
  | _, .non, _ => rfl
  | _, .bl _, _ => rfl
  | _, .int _, _ => rfl
  | _, .str _, _ => rfl
  | n :: L, .nd .lst o xs, h => by
    obtain ⟨rfl, _, h⟩ := h
    show (true && noOwns xs) = true
    rw [noOwns_all fun d hd => Gd.no (h d hd)]; rfl
  | n :: L, .nd .tup o xs, h => by
    obtain ⟨rfl, _, h⟩ := h
    show (true && noOwns xs) = true
    rw [noOwns_all fun d hd => Gd.no (h d hd)]; rfl
  | [], .nd k _ _, h => by cases k <;> exact h.elim
  | n :: L, .nd .fzl _ _, h => h.elim
  | n :: L, .nd (.dct _) _ _, h => h.elim
  | n :: L, .nd (.dtt _) _ _, h => h.elim
  | n :: L, .nd (.obj _ _) _ _, h => h.elim
  | n :: L, .nd (.exn _ _) _ _, h => h.elim
/-- as data -/
structure Py (d : D) (n dep : Nat) : Prop where
  ex : ∃ p, toPy d = some p ∧ p.showable = true ∧ p.hasDict = false ∧ p.depth ≤ dep ∧ p.shown.length ≤ n ∧ p.canLay0 = true
theorem Py.rp {d : D} {n dep : Nat} (h : Py d n dep) : Rp d n dep := by
  obtain ⟨p, a, b, c, x, y, z⟩ := h.ex
  exact ⟨p, a, b, c, x, y⟩
theorem Py.all {n dep : Nat} : ∀ {xs : List D}, (∀ d ∈ xs, Py d n dep) → ∃ ps, toPys xs = some ps ∧ PyData.showableAll ps = true ∧ PyData.hasDictAll ps = false ∧ PyData.depthAll ps ≤ dep ∧ ((PyData.shownAll ps).map (·.length)).sum ≤ xs.length * n ∧ (PyData.shownAll ps).length = xs.length ∧ PyData.canLayAll0 ps = true
  | [], _ => ⟨[], rfl, rfl, rfl, Nat.zero_le _, Nat.zero_le _, rfl, by simp [PyData.canLayAll0]⟩
  | d :: xs, h => by
    obtain ⟨ps, h1, h2, h3, h4, h5, h6, h7⟩ := Py.all fun x hx => h x (List.mem_cons_of_mem _ hx)
    obtain ⟨p, a, b, c, x, y, z⟩ := (h d List.mem_cons_self).ex
    refine ⟨p :: ps, by simp [toPys, a, h1], by simp [PyData.showableAll, b, h2], by simp [PyData.hasDictAll, c, h3], by simp [PyData.depthAll]; omega, ?_, by simp [PyData.shownAll, h6], by simp [PyData.canLayAll0, z, h7]⟩
    simp only [PyData.shownAll, List.map_cons, List.sum_cons, List.length_cons, Nat.add_mul]
    omega
theorem Py.lst {o : Bool} {xs : List D} {n dep : Nat} (h : ∀ d ∈ xs, Py d n dep) : Py (.nd .lst o xs) (xs.length * (n + 2) + 3) (dep + 1) := by
  obtain ⟨ps, h1, h2, h3, h4, h5, h6, h7⟩ := Py.all h
  refine ⟨.list ps, by simp [toPy, h1], h2, h3, by simp only [PyData.depth]; omega, ?_, h7⟩
  have := listText_len_le (PyData.shownAll ps)
  show (listText (PyData.shownAll ps)).length ≤ _
  rw [Nat.mul_add]
  omega
theorem Py.tup {o : Bool} {xs : List D} {n dep : Nat} (h : ∀ d ∈ xs, Py d n dep) : Py (.nd .tup o xs) (xs.length * (n + 2) + 3) (dep + 1) := by
  obtain ⟨ps, h1, h2, h3, h4, h5, h6, h7⟩ := Py.all h
  refine ⟨.tuple ps, by simp [toPy, h1], h2, h3, by simp only [PyData.depth]; omega, ?_, h7⟩
  have := tupleText_len_le (PyData.shownAll ps)
  show (tupleText (PyData.shownAll ps)).length ≤ _
  rw [Nat.mul_add]
  omega
theorem Py.le {d : D} {n m dep e : Nat} (h : Py d n dep) (h1 : n ≤ m) (h2 : dep ≤ e) : Py d m e := by
  obtain ⟨p, a, b, c, x, y, z⟩ := h.ex
  exact ⟨p, a, b, c, by omega, by omega, z⟩
theorem Py.int {i : Int} (h : i.natAbs < 10 ^ 72) : Py (.int i) 73 0 := by
  obtain ⟨p, a, b, c, x, y⟩ := (Rp.int h).ex
  cases a
  exact ⟨_, rfl, b, c, x, y, rfl⟩
theorem Py.str {s : Str} (h : PyData.strOk s = true) (h2 : s.length ≤ 100) : Py (.str s) 1002 0 := by
  refine ⟨.str s, rfl, rfl, rfl, Nat.zero_le _, ?_, h⟩
  have hc : ∀ c ∈ s.cps.toList, c < 16 ^ 8 := fun c hc => by
    unfold PyData.strOk at h
    have := Array.all_eq_true.mp h
    obtain ⟨i, hi, e⟩ := List.getElem_of_mem hc
    have h3 := this i (by simpa using hi)
    rw [Array.getElem_toList] at e
    rw [e] at h3
    have := of_decide_eq_true h3
    exact Nat.lt_of_lt_of_le this (by decide)
  have := PySem.StrLaws.reprText_len s hc
  show (PyData.str s).shown.length ≤ _
  rw [PyData.shown_str]
  omega
theorem Gd.py : ∀ {L : List Nat} {d : D}, Gd L d → Py d (szG L) L.length
  | L, .non, _ => ⟨.none, rfl, rfl, rfl, Nat.zero_le _, Nat.le_trans (show (PyData.none.shown).length ≤ 1010 by decide) (by cases L <;> simp [szG]), rfl⟩
  | L, .bl b, _ => ⟨.bool b, rfl, rfl, rfl, Nat.zero_le _, Nat.le_trans (show ((PyData.bool b).shown).length ≤ 1010 by cases b <;> decide) (by cases L <;> simp [szG]), rfl⟩
  | L, .int i, h => by
    have h : i.natAbs < 10 ^ 72 := by cases L <;> exact h
    exact (Py.int h).le (by cases L <;> simp [szG] <;> omega) (Nat.zero_le _)
  | L, .str s, h => by
    have h : PyData.strOk s = true ∧ s.length ≤ 100 := by cases L <;> exact h
    exact (Py.str h.1 h.2).le (by cases L <;> simp [szG] <;> omega) (Nat.zero_le _)
  | n :: L, .nd .lst o xs, h => by
    obtain ⟨rfl, hl, h⟩ := h
    refine (Py.lst fun d hd => Gd.py (h d hd)).le ?_ (Nat.le_refl _)
    have := Nat.mul_le_mul_right (szG L + 2) hl
    show _ ≤ n * (szG L + 2) + 1010
    omega
  | n :: L, .nd .tup o xs, h => by
    obtain ⟨rfl, hl, h⟩ := h
    refine (Py.tup fun d hd => Gd.py (h d hd)).le ?_ (Nat.le_refl _)
    have := Nat.mul_le_mul_right (szG L + 2) hl
    show _ ≤ n * (szG L + 2) + 1010
    omega
  | [], .nd k _ _, h => by cases k <;> exact h.elim
  | n :: L, .nd .fzl _ _, h => h.elim
  | n :: L, .nd (.dct _) _ _, h => h.elim
  | n :: L, .nd (.dtt _) _ _, h => h.elim
  | n :: L, .nd (.obj _ _) _ _, h => h.elim
  | n :: L, .nd (.exn _ _) _ _, h => h.elim
theorem Gd.s {L : List Nat} {d : D} (h : Gd L d) (h1 : szG L ≤ 16777216) (h2 : L.length ≤ 100) : dRepr [d] = some (.str (rp d)) := h.py.rp.s h1 h2
theorem Gd.frz {L : List Nat} {d : D} (h : Gd L d) : DL.frz d = d := frz_id d h.no
theorem Gd.noObj {L : List Nat} {d : D} (h : Gd L d) : DL.noObj d = true := Pl.noObj d h.pl
theorem strOk_int (i : Int) : PyData.strOk (Str.ofString (toString i)) = true := by
  unfold PyData.strOk
  refine Array.all_eq_true.mpr fun j hj => decide_eq_true ?_
  have hm : (Str.ofString (toString i)).cps[j] ∈ (Str.ofString (toString i)).cps.toList := by
    rw [← Array.getElem_toList]
    exact List.getElem_mem _
  rcases Nat.lt_or_ge (Str.ofString (toString i)).cps[j] 58 with h | h
  · exact Nat.lt_of_lt_of_le h (by decide)
  · exact absurd hm (PyProof.Rows.int_text_free' _ ⟨by omega, .inr (by omega)⟩ i)
theorem Gd.strI {L : List Nat} {i : Int} (h : i.natAbs < 10 ^ 72) : Gd L (.str (Str.ofString (toString i))) := by
  refine Gd.str (strOk_int i) ?_
  have e := PySem.int_text_length_le10 (k := 72) (by decide) h
  rw [PySem.ofString_length]
  omega
/-! ### compared with the empty list -/
theorem shaped_lst {o : Bool} {xs : List D} {n dep : Nat} (h : ∀ d ∈ xs, Py d n dep) (hd : dep ≤ 60) : ∃ ps, toPy (.nd .lst o xs) = some (.list ps) ∧ SeqAt.shaped (.list ps) = true ∧ ps.length = xs.length := by
  obtain ⟨ps, h1, h2, h3, h4, h5, h6, h7⟩ := Py.all h
  refine ⟨ps, by simp [toPy, h1], ?_, ?_⟩
  · unfold SeqAt.shaped
    have : PyData.depth (.list ps) ≤ 64 := by simp only [PyData.depth]; omega
    rw [decide_eq_true this]
    show (PyData.canLayAll0 ps && true) = true
    rw [h7]; rfl
  · have : ∀ ps : List PyData, (PyData.shownAll ps).length = ps.length := fun ps => by
      induction ps with
      | nil => rfl
      | cons a r ih => simp [PyData.shownAll, ih]
    rw [← h6, this]
theorem dNe_nil {o o' : Bool} {xs : List D} {n dep : Nat} (h : ∀ d ∈ xs, Py d n dep) (hd : dep ≤ 60) : dNe (.nd .lst o xs) (.nd .lst o' []) = some (.bl (!xs.isEmpty)) := by
  obtain ⟨ps, h1, h2, h3⟩ := shaped_lst (o := o) h hd
  unfold dNe dEqB
  rw [h1, show toPy (.nd .lst o' []) = some (.list []) from rfl]
  show ((if (SeqAt.shaped _ && SeqAt.shaped (.list [])) = true then some _ else none) : Option Bool).map _ = _
  rw [h2]
  show some (D.bl (!PyData.eqvAll ps [])) = _
  cases xs with
  | nil =>
    cases ps with
    | nil => rfl
    | cons a r => cases h3
  | cons a r =>
    cases ps with
    | nil => cases h3
    | cons b s => rfl
theorem dEq_nil {o o' : Bool} {xs : List D} {n dep : Nat} (h : ∀ d ∈ xs, Py d n dep) (hd : dep ≤ 60) : dEq (.nd .lst o xs) (.nd .lst o' []) = some (.bl xs.isEmpty) := by
  obtain ⟨ps, h1, h2, h3⟩ := shaped_lst (o := o) h hd
  unfold dEq dEqB
  rw [h1, show toPy (.nd .lst o' []) = some (.list []) from rfl]
  show ((if (SeqAt.shaped _ && SeqAt.shaped (.list [])) = true then some _ else none) : Option Bool).map _ = _
  rw [h2]
  show some (D.bl (PyData.eqvAll ps [])) = _
  cases xs with
  | nil =>
    cases ps with
    | nil => rfl
    | cons a r => cases h3
  | cons a r =>
    cases ps with
    | nil => cases h3
    | cons b s => rfl
/-! ### looked at by reckoning -/
mutual
def gdB : D → List Nat → Bool
  | .nd .lst o xs, n :: L => !o && decide (xs.length ≤ n) && gdBs xs L
  | .nd .tup o xs, n :: L => !o && decide (xs.length ≤ n) && gdBs xs L
  | .nd _ _ _, _ => false
  | .int i, _ => decide (i.natAbs < 10 ^ 72)
  | .str s, _ => PyData.strOk s && decide (s.length ≤ 100)
  | .non, _ => true
  | .bl _, _ => true
def gdBs : List D → List Nat → Bool
  | [], _ => true
  | d :: ds, L => gdB d L && gdBs ds L
end
mutual
theorem gdB_ok : ∀ (d : D) (L : List Nat), gdB d L = true → Gd L d
  | .non, L, _ => Gd.non
  | .bl _, L, _ => Gd.bl
  | .int i, L, h => Gd.int (of_decide_eq_true h)
  | .str s, L, h => by
    have h : (PyData.strOk s && decide (s.length ≤ 100)) = true := h
    rw [Bool.and_eq_true, decide_eq_true_eq] at h
    exact Gd.str h.1 h.2
  | .nd .lst o xs, n :: L, h => by
    have h : (!o && decide (xs.length ≤ n) && gdBs xs L) = true := h
    simp only [Bool.and_eq_true, decide_eq_true_eq, Bool.not_eq_true'] at h
    exact ⟨h.1.1, h.1.2, gdBs_ok xs L h.2⟩
  | .nd .tup o xs, n :: L, h => by
    have h : (!o && decide (xs.length ≤ n) && gdBs xs L) = true := h
    simp only [Bool.and_eq_true, decide_eq_true_eq, Bool.not_eq_true'] at h
    exact ⟨h.1.1, h.1.2, gdBs_ok xs L h.2⟩
  | .nd .lst o xs, [], h => by cases h
  | .nd .tup o xs, [], h => by cases h
  | .nd .fzl _ _, _, h => by cases h
  | .nd (.dct _) _ _, _, h => by cases h
  | .nd (.dtt _) _ _, _, h => by cases h
  | .nd (.obj _ _) _ _, _, h => by cases h
  | .nd (.exn _ _) _ _, _, h => by cases h
theorem gdBs_ok : ∀ (ds : List D) (L : List Nat), gdBs ds L = true → ∀ d ∈ ds, Gd L d
  | [], _, _ => fun d hd => by cases hd
  | x :: ds, L, h => by
    have h : (gdB x L && gdBs ds L) = true := h
    rw [Bool.and_eq_true] at h
    have h1 := gdB_ok x L h.1
    have h2 := gdBs_ok ds L h.2
    intro d hd
    rcases List.mem_cons.mp hd with e | hd
    · rw [e]; exact h1
    · exact h2 d hd
end
end PM
namespace DL
open PySem L2 PyProof.Rows
/-! ### reckoning where something is raised -/
section
variable {ρ : Env} {d a b : D} {i j : Nat} {e : Xn} {c : Str}
@[simp] theorem callRB_x {as : List Ag} {os : Env} : callRB as ρ (.ex ⟨c, []⟩ os) = if okEnv os = true then .ex ⟨c, []⟩ (bk as os ρ) else .no := rfl
@[simp] theorem callRK_x {os : Env} : callRK ρ (.ex ⟨c, []⟩ os) = .ex ⟨c, []⟩ ρ := rfl
@[simp] theorem callK_ex {fn : Fn} {dv : List D} : callK fn dv (.ex e ρ) = .ex e ρ := rfl
@[simp] theorem callKB_ex {fn : Fn} {dv : List D} : callKB fn dv (.ex e ρ) = .ex e ρ := rfl
@[simp] theorem callKK_ex {fn : Fn} {π : List Nat} : callKK fn π (.ex e ρ) = .ex e ρ := rfl
@[simp] theorem callRB_xi {as : List Ag} {os : Env} {f : Str} {i : Int} : callRB as ρ (.ex ⟨c, [(f, .int i)]⟩ os) = if okEnv os = true then .ex ⟨c, [(f, .int i)]⟩ (bk as os ρ) else .no := rfl
@[simp] theorem callRB_xn {as : List Ag} {os : Env} {f : Str} : callRB as ρ (.ex ⟨c, [(f, .non)]⟩ os) = if okEnv os = true then .ex ⟨c, [(f, .non)]⟩ (bk as os ρ) else .no := rfl
@[simp] theorem callRK_xi {os : Env} {f : Str} {i : Int} : callRK ρ (.ex ⟨c, [(f, .int i)]⟩ os) = .ex ⟨c, [(f, .int i)]⟩ ρ := rfl
@[simp] theorem callRK_xn {os : Env} {f : Str} : callRK ρ (.ex ⟨c, [(f, .non)]⟩ os) = .ex ⟨c, [(f, .non)]⟩ ρ := rfl
@[simp] theorem noObj_dct {ks : List Key} {o : Bool} {xs : List D} : noObj (.nd (.dct ks) o xs) = noObjs xs := rfl
@[simp] theorem noObj_dtt {ks : List (List Key)} {o : Bool} {xs : List D} : noObj (.nd (.dtt ks) o xs) = noObjs xs := rfl
@[simp] theorem noObj_exn {c : Str} {fs : List (Str × Option Int)} {o : Bool} {xs : List D} : noObj (.nd (.exn c fs) o xs) = noObjs xs := rfl
end
end DL
namespace DL
open PySem L2 PySem.Spec PyProof.Rows
section
variable {X : Cx}
/-- l.count(x) of any data -/
def rCountD (K : PySem.W.Frag) : V → List V → Hp → VK → Prop := fun x xs H Q => ∃ (a : Addr) (y : V) (d : PyData) (ds : List PyData), x = V.ref a ∧ xs = [y] ∧ Dp K H (V.ref a) (.list ds) ∧ Dp K H y d ∧
  SeqAt.shaped (.list ds) = true ∧ SeqAt.shaped d = true ∧ Q (.int ((ds.countP fun z => PyData.eqv z d : Nat) : Int)) H
theorem mt_lcountD (hu : X.A.units + 65 < cLine) : MtR X "list.count" (rCountD X.K) := by
  intro pins s σ H x xs v us Q I rx rxs h
  obtain ⟨a, y, d, ds, rfl, rfl, hl, hy, sl, sd, q⟩ := h
  cases rx
  cases rxs with
  | cons ry rt =>
    rename_i uy ut
    cases rt
    obtain ⟨bs, r1⟩ := Dp.reads I d y uy hy ry
    have hxs : PyData.canLayAll0 ds = true := SeqAt.canLay_of_shaped sl
    have hroom : X.A.units + 1 + min (PyData.depthAll ds) d.depth < cLine := room_in_shaped sd hu
    cases hl with
    | lst hs ha =>
      obtain ⟨its, rv, ⟨⟨cls, dd, data, sls⟩, n, ho, hc, hdn, hdt⟩, hlen⟩ := I.list hs
      simp only at hc hdt
      subst hc hdt
      obtain ⟨as, h4⟩ := Dp.readsAll I ds _ its ha rv
      have hmap : its.map (SeqAt.readOf s.heap) = ds := SeqAt.readsAll_map ds its as hxs h4
      have ec : its.toArray.toList.countP (fun u => PyData.eqv (SeqAt.readOf s.heap u) d) = ds.countP fun z => PyData.eqv z d := by
        rw [← hmap, List.countP_map]
        rfl
      refine call_meets PySem.F.slot_list_count ⟨_, ho, rfl⟩ PySem.F.entry_list_count (PySem.F.args_list_count_2 _ _)
        (SeqAt.list_countAt a its.toArray n dd sls uy (fun u => PyData.eqv (SeqAt.readOf s.heap u) d)) ⟨ho, SeqAt.items_eqAt (vs := its.toArray) (show ReadsAll s.heap its.toArray.toList ds as from h4) r1 hxs (SeqAt.canLay_of_shaped sd) hroom, ?_⟩
      rw [ec]
      exact ⟨.int ((ds.countP fun z => PyData.eqv z d : Nat) : Int), H, I.tok _, ⟨_, rfl⟩, q⟩
/-- count of any data -/
def dCountD (c : D) (ds : List D) : Option D := match ds with
  | [a] => (toPy c).bind fun p => (toPy a).bind fun q => match p with
    | .list ps => if (SeqAt.shaped (.list ps) && SeqAt.shaped q) = true then some (.int ((ps.countP fun z => PyData.eqv z q : Nat) : Int)) else none
    | _ => none
  | _ => none
variable {K : PySem.W.Frag}
theorem v_countD : MvOk K (rCountD K) dCountD := by
  intro cm F H T x vs c ds d f Q hs e o ok q
  unfold dCountD at e
  split at e
  · rename_i a
    obtain ⟨p, e1, e⟩ := Option.bind_eq_some_iff.mp e
    obtain ⟨qq, e2, e⟩ := Option.bind_eq_some_iff.mp e
    cases p with
    | list ps =>
      have e : (if (SeqAt.shaped (.list ps) && SeqAt.shaped qq) = true then some (D.int ((ps.countP fun z => PyData.eqv z qq : Nat) : Int)) else none) = some d := e
      by_cases z : (SeqAt.shaped (.list ps) && SeqAt.shaped qq) = true
      · rw [if_pos z] at e
        rw [Bool.and_eq_true] at z
        cases e
        obtain ⟨v, r, f1, rfl, oa, la, rfl⟩ := ok
        have dp := Ow.dp hs e1 o
        have dq := Ow.dp hs e2 oa
        cases c with
        | nd k oo xs =>
          obtain ⟨pp, ws, g, rfl, hw, hn⟩ := o
          exact ⟨pp, v, qq, ps, rfl, rfl, dp, dq, z.1, z.2, q _ ⟨rfl, .rfl'⟩⟩
        | _ => cases e1
      · rw [if_neg z] at e; cases e
    | _ => cases e
  · cases e
end
end DL
namespace PM
open PySem L2 PyProof.Rows DL
def m_law_odd : MS := (mSeq (mAsg (rLst (aE (rV (vOp dAdd (vVar 1) (vC (.int 1)))) (aE (rV (vOp dSub (vVar 1) (vC (.int 1)))) (aE (rV (vC (.int 0))) (aE (rV (vUn dNeg (vC (.int 1)))) (aMv 1 (aE (rV (vC .non)) (aE (rV (vC (.bl true))) (aE (rV (vC (.bl false))) (aE (rV (vB dStr (vCons (vVar 1) vNil))) (aE (rLst (aE (rFz 1) aNil)) (aE (rTup (aE (rFz 1) aNil)) (aE (rV (vOp dPow (vC (.int 10)) (vC (.int 31)))) (aE (rV (vC (.int 12))) (aE (rV (vC (.int 11))) aNil))))))))))))))) (gN 2)) (mRet (rOp dIx (rFz 2) (rCall (f_law_leaf) [] (aIo 0 (aE (rV (vC (.int 14))) aNil))))))
def f_law_odd : Fn := defFn 3 [true, false] m_law_odd
def m_law_bent : MS := (mSeq (mAsg (rLst (aE (rT (rNV dList (vCons (vOp dIx (vVar 1) (vC (.int 0))) vNil))) (aE (rT (rNV dList (vCons (vOp dIx (vVar 1) (vC (.int 1))) vNil))) aNil))) (gN 2)) (mSeq (mAsg (rCall (f_law_leaf) [] (aIo 0 (aE (rV (vC (.int 2))) aNil))) (gN 3)) (mSeq (mAsg (rFc 2 (rV (vOp dIx (vVar 2) (vVar 3)))) (gN 4)) (mSeq (mAsg (rCall (f_law_leaf) [] (aIo 0 (aE (rV (vB dLen (vCons (vVar 4) vNil))) aNil))) (gN 5)) (mSeq (mAsg (rCall (f_law_odd) [] (aIo 0 (aE (rOp dIx (rFz 4) (rFz 5)) aNil))) (gN 6)) (mSeq (mAsg (rLst (aE (rT (rOp dPl (rOp dPl (rSlV (vVar 4) oNo (oV (vVar 5))) (rLst (aE (rFz 6) aNil))) (rSlV (vVar 4) (oV (vOp dAdd (vVar 5) (vC (.int 1)))) oNo))) (aE (rT (rOp dPl (rSlV (vVar 4) oNo (oV (vVar 5))) (rSlV (vVar 4) (oV (vOp dAdd (vVar 5) (vC (.int 1)))) oNo))) (aE (rT (rOp dPl (rSlV (vVar 4) oNo (oV (vOp dAdd (vVar 5) (vC (.int 1))))) (rSlV (vVar 4) (oV (vVar 5)) oNo))) (aE (rT (rMkV dRev (vVar 4))) (aE (rT (rMkV dTup (vVar 4))) aNil)))))) (gN 7)) (mSeq (mAsg (rOpNE dPl 7 (rLst (aE (rT (rOp dPl (rOp dPl (rSlV (vVar 4) oNo (oV (vVar 5))) (rLst (aMv 6 aNil))) (rSlV (vVar 4) (oV (vVar 5)) oNo))) (aE (rT (rSlE (rOpV dTm (vVar 4) (vC (.int 12))) oNo (oV (vC (.int 12))))) (aE (rT (rSlE (rOpV dTm (vVar 4) (vC (.int 13))) oNo (oV (vC (.int 13))))) (aE (rV (vC .non)) (aE (rOp dIx (rFz 4) (rV (vC (.int 0)))) aNil))))))) (gN 7)) (mSeq (mAsg (rOp dIx (rFz 7) (rCall (f_law_leaf) [] (aIo 0 (aE (rV (vC (.int 10))) aNil)))) (mSet 2 pN (vVar 3))) (mSeq (mAsg (rLst (aE (rT (rMkV dTup (vVar 2))) (aE (rT (rMkV dTup (vVar 2))) (aE (rT (rMkV dTup (vVar 2))) (aMv 2 (aE (rT (rMkE dTup (rSlV (vVar 2) oNo (oV (vC (.int 1)))))) (aE (rT (rMkE dTup (rOpNE dPl 2 (rLst (aE (rT (rLst aNil)) aNil))))) (aE (rT (rMkE dTup (rMkV dRev (vVar 2)))) aNil)))))))) (gN 8)) (mRet (rOp dIx (rFz 8) (rCall (f_law_leaf) [] (aIo 0 (aE (rV (vC (.int 7))) aNil))))))))))))))
def f_law_bent : Fn := defFn 9 [true, false] m_law_bent
def m_law_whole : MS := (mRet (rAnd (rV (vIsi .int (vVar 0))) (rAnd (rNot (rV (vIsi .bool (vVar 0)))) (rV (vOp dGe (vVar 0) (vVar 1))))))
def f_law_whole : Fn := defFn 2 [false, false] m_law_whole
def m_law_are_slips_1 : ME := rLc [1] (iE (rFz 0)) (gN 1) (rNot (rCallB (f_law_whole) [] (aBw 1 (aE (rV (vC (.int 0))) aNil)))) (rFz 1)
def m_law_are_slips : MS := (mSeq (mIf (rOr (rNot (rV (vIsi .list (vVar 0)))) (rOr (rV (vOp dLt (vB dLen (vCons (vVar 0) vNil)) (vC (.int 1)))) (rV (vOp dGt (vB dLen (vCons (vVar 0) vNil)) (vC (.int 12)))))) (mRet (rV (vC (.bl false)))) mNx) (mSeq (mIf (rLend [] (rOp dNeX m_law_are_slips_1 (rLst aNil))) (mRet (rV (vC (.bl false)))) mNx) (mRet (rOpNE dEqX 0 (rMkV dSSet (vVar 0))))))
def f_law_are_slips : Fn := defFn 2 [false] m_law_are_slips
def m_law_is_lay_1 : ME := rLc [1] (iE (rOp dIx (rFz 0) (rV (vC (.int 1))))) (gN 1) (rOr (rNot (rCallB (f_law_whole) [] (aBw 1 (aE (rV (vC (.int 0))) aNil)))) (rV (vOp dGe (vVar 1) (vB dLen (vCons (vOp dIx (vVar 0) (vC (.int 0))) vNil))))) (rFz 1)
def m_law_is_lay : MS := (mSeq (mIf (rOr (rNot (rV (vIsi .tuple (vVar 0)))) (rOr (rV (vOp dNeX (vB dLen (vCons (vVar 0) vNil)) (vC (.int 2)))) (rNot (rLend [] (rCall (f_law_are_slips) [] (aE (rOp dIx (rFz 0) (rV (vC (.int 0)))) aNil)))))) (mRet (rV (vC (.bl false)))) mNx) (mSeq (mIf (rOr (rNot (rV (vIsi .list (vOp dIx (vVar 0) (vC (.int 1)))))) (rOr (rV (vOp dLt (vB dLen (vCons (vOp dIx (vVar 0) (vC (.int 1))) vNil)) (vC (.int 1)))) (rV (vOp dGt (vB dLen (vCons (vOp dIx (vVar 0) (vC (.int 1))) vNil)) (vC (.int 12)))))) (mRet (rV (vC (.bl false)))) mNx) (mRet (rOp dEqX m_law_is_lay_1 (rLst aNil)))))
def f_law_is_lay : Fn := defFn 2 [false] m_law_is_lay
def m_LAW_k01_1 : MS := (mIf (rOp dNeX (rB dRepr (aE (rLst (aE (rT (rCallB (f_is_stand) [] (aBw 2 aNil))) (aE (rT (rCallKB (f_is_stand) [0] (aBw 2 aNil))) aNil))) aNil)) (rB dRepr (aE (rOpEV dTm (rLst (aE (rT (rCallB (f_law_is_lay) [] (aBw 2 aNil))) aNil)) (vC (.int 2))) aNil))) (mRet (rV (vC (.bl false)))) mNx)
def m_LAW_k01_2 : MS := mFor (iE (rFz 1)) (gN 2) m_LAW_k01_1
def m_LAW_k01_3 : ME := rLc [8] (iR1 (aE (rV (vC (.int 5))) aNil)) (gN 8) rYes (rCall (f_law_bent) [] (aIo 4 (aE (rFz 6) aNil)))
def m_LAW_k01_4 : MS := (mSeq (mAsg (rV (vB dRepr (vCons (vVar 2) vNil))) (gN 9)) (mSeq (mAsg (rCallB (f_law_is_lay) [] (aBw 2 aNil)) (gN 10)) (mIf (rOr (rOp dNeX (rB dRepr (aE (rLst (aE (rT (rCallB (f_is_stand) [] (aBw 2 aNil))) (aE (rT (rCallKB (f_is_stand) [0] (aBw 2 aNil))) aNil))) aNil)) (rB dRepr (aE (rLst (aE (rFz 10) (aE (rFz 10) aNil))) aNil))) (rV (vOp dNeX (vB dRepr (vCons (vVar 2) vNil)) (vVar 9)))) (mRet (rV (vC (.bl false)))) mNx)))
def m_LAW_k01_5 : MS := mFor (iE (rOpEV dPl (rLst (aMv 6 (aE (rT (rNV dList (vCons (vVar 6) vNil))) (aE (rT (rOpNE dPl 6 (rTup (aE (rT (rLst aNil)) aNil)))) aNil)))) (vVar 7))) (gN 2) m_LAW_k01_4
def m_LAW_k01_6 : MS := (mSeq (mAsg (rCall (f_law_lay) [] (aIo 4 (aE (rV (vC (.int 12))) aNil))) (gN 6)) (mSeq (mAsg m_LAW_k01_3 (gN 7)) m_LAW_k01_5))
def m_LAW_k01_7 : MS := mFor (iR1 (aE (rV (vC (.int 4))) aNil)) (gN 5) m_LAW_k01_6
def m_LAW_k01_8 : MS := (mSeq (mAsg (rCallB (f_law_ream) [] (aBw 0 (aBw 3 aNil))) (gN 4)) m_LAW_k01_7)
def m_LAW_k01_9 : MS := mFor (iR1 (aE (rV (vB dMax2 (vCons (vC (.int 1)) (vCons (vB dMin2 (vCons (vC (.int 10)) (vCons (vB dLen (vCons (vVar 0) vNil)) vNil))) vNil)))) aNil)) (gN 3) m_LAW_k01_8
def m_LAW_k01 : MS := (mSeq (mAsg (rLst (aE (rV (vC .non)) (aE (rV (vC (.bl true))) (aE (rV (vC (.int 0))) (aE (rV (vC (.str ""))) (aE (rT (rTup aNil)) (aE (rT (rLst aNil)) (aE (rT rDict0) (aE (rT (rTup (aE (rT (rLst aNil)) (aE (rT (rLst aNil)) aNil)))) (aE (rT (rTup (aE (rT (rLst (aE (rV (vC (.int 0))) aNil))) (aE (rT (rLst aNil)) aNil)))) (aE (rT (rTup (aE (rT (rLst aNil)) (aE (rT (rLst (aE (rV (vC (.int 0))) aNil))) aNil)))) (aE (rT (rTup (aE (rT (rLst (aE (rV (vC (.int 0))) aNil))) (aE (rT (rLst (aE (rV (vC (.int 0))) aNil))) aNil)))) (aE (rT (rTup (aE (rT (rLst (aE (rV (vC (.int 0))) aNil))) (aE (rT (rOpEV dTm (rLst (aE (rV (vC (.int 0))) aNil)) (vC (.int 12)))) aNil)))) (aE (rT (rTup (aE (rT (rLst (aE (rV (vC (.int 0))) aNil))) (aE (rT (rOpEV dTm (rLst (aE (rV (vC (.int 0))) aNil)) (vC (.int 13)))) aNil)))) aNil)))))))))))))) (gN 1)) (mSeq (mAsg (rOpNE dPl 1 (rLst (aE (rT (rTup (aE (rT (rLst (aE (rV (vC (.int 0))) aNil))) (aE (rT (rLst (aE (rV (vC (.int 1))) aNil))) aNil)))) (aE (rT (rTup (aE (rT (rLst (aE (rV (vC (.int 0))) (aE (rV (vC (.int 0))) aNil)))) (aE (rT (rLst (aE (rV (vC (.int 0))) aNil))) aNil)))) (aE (rT (rTup (aE (rT (rLst (aE (rV (vC (.int 1))) (aE (rV (vC (.int 0))) aNil)))) (aE (rT (rLst (aE (rV (vC (.int 0))) aNil))) aNil)))) (aE (rT (rTup (aE (rT (rLst (aE (rV (vC (.int 0))) (aE (rV (vC (.int 1))) aNil)))) (aE (rT (rLst (aE (rV (vC (.int 1))) (aE (rV (vC (.int 1))) (aE (rV (vC (.int 1))) aNil))))) aNil)))) (aE (rT (rTup (aE (rT (rTup (aE (rV (vC (.int 0))) aNil))) (aE (rT (rLst (aE (rV (vC (.int 0))) aNil))) aNil)))) (aE (rT (rTup (aE (rT (rLst (aE (rV (vC (.int 0))) aNil))) (aE (rT (rTup (aE (rV (vC (.int 0))) aNil))) aNil)))) (aE (rT (rLst (aE (rT (rLst (aE (rV (vC (.int 0))) aNil))) (aE (rT (rLst (aE (rV (vC (.int 0))) aNil))) aNil)))) aNil))))))))) (gN 1)) (mSeq (mAsg (rOpNE dPl 1 (rLst (aE (rT (rTup (aE (rT (rRg1 (vC (.int 12)))) (aE (rT (rLst (aE (rV (vC (.int 11))) aNil))) aNil)))) (aE (rT (rTup (aE (rT (rRg1 (vC (.int 13)))) (aE (rT (rLst (aE (rV (vC (.int 12))) aNil))) aNil)))) (aE (rT (rTup (aE (rT (rLst (aE (rV (vC (.bl true))) aNil))) (aE (rT (rLst (aE (rV (vC (.int 0))) aNil))) aNil)))) (aE (rT (rTup (aE (rT (rLst (aE (rV (vC (.int 0))) (aE (rV (vC (.int 1))) aNil)))) (aE (rT (rLst (aE (rV (vC (.bl true))) aNil))) aNil)))) (aE (rT (rTup (aE (rT (rLst (aE (rV (vUn dNeg (vC (.int 1)))) aNil))) (aE (rT (rLst (aE (rV (vC (.int 0))) aNil))) aNil)))) aNil))))))) (gN 1)) (mSeq m_LAW_k01_2 (mSeq m_LAW_k01_9 (mRet (rV (vC (.bl true)))))))))
def f_LAW_k01 : Fn := defFn 11 [false] m_LAW_k01
end PM
namespace PM
open PySem L2 PyProof.Rows DL
/-! ### the law's own look -/
theorem lwhole (d : D) (h : Pl d = true) (l : Int) : f_law_whole [d, .int l] = .ok (.bl (wh d l .non)) [none, none] := by
  unfold f_law_whole
  rw [defFn_ap]
  cases d with
  | non => simp -implicitDefEqProofs [m_law_whole, isD, wh]
  | bl b => simp -implicitDefEqProofs [m_law_whole, isD, wh]
  | str x => simp -implicitDefEqProofs [m_law_whole, isD, wh]
  | nd k o xs => cases k <;> first | (cases h; done) | simp -implicitDefEqProofs [m_law_whole, isD, wh]
  | int i => simp -implicitDefEqProofs [m_law_whole, isD, wh]
theorem noOwns_mem {xs : List D} (h : noOwns xs = true) : ∀ d ∈ xs, noOwn d = true := by
  induction xs with
  | nil => intro d hd; cases hd
  | cons x r ih =>
    have h : (noOwn x && noOwns r) = true := h
    rw [Bool.and_eq_true] at h
    intro d hd
    rcases List.mem_cons.mp hd with rfl | hd
    · exact h.1
    · exact ih h.2 d hd
/-- what a thing handed in must bear: a list's things are data, not too many -/
def Lk : D → Prop
  | .nd .lst _ xs => xs.length ≤ 1000 ∧ ∀ d ∈ xs, Py d 100000 50
  | _ => True
theorem slips_1 (xs : List D) (h : Pls xs = true) (hn : noOwns xs = true) (hl : xs.length ≤ 1000) : m_law_are_slips_1 [some (.nd .lst false xs), none] = .ok (.nd .lst true (xs.filter fun d => !wh d 0 .non)) [some (.nd .lst false xs), none] := by
  have hno : noObjs xs = true := Pls.noObjs _ h
  have fx := frzs_id xs hn
  have := rLc_fm (own := [1]) (f := iE (rFz 0)) (m := gN 1) (tt := rNot (rCallB (f_law_whole) [] (aBw 1 (aE (rV (vC (.int 0))) aNil)))) (te := rFz 1) (ρ := [some (.nd .lst false xs), none]) (ρ1 := [some (.nd .lst false xs), none]) (ds := xs) (fun d => !wh d 0 .non) (fun d => d)
    (by simp -implicitDefEqProofs [hno, hn, fx]) (by omega) (fun d hd => by
      have pd : Pl d = true := Pls.mem h d hd
      have nd : noOwn d = true := by
        exact noOwns_mem hn d hd
      have fd := frz_id d nd
      have od := Pl.noObj d pd
      have e := lwhole d pd 0
      refine ⟨_, rfl, [some (.nd .lst false xs), some d], ?_, rfl, fun _ => ?_⟩
      · simp -implicitDefEqProofs [od, fd, e]
      · simp -implicitDefEqProofs [od, fd])
  unfold m_law_are_slips_1
  rw [this]
  simp
theorem srt_self (ns : List Int) : ns = srt ns ↔ ns.Pairwise (· < ·) := by
  constructor
  · intro h
    have nd : (srt ns).Nodup := (List.Perm.nodup_iff (isort_perm _)).mpr (nodup_ddup ns)
    have so : (srt ns).Pairwise (· ≤ ·) := isort_sorted _
    rw [← h] at nd so
    exact (so.and nd).imp fun ⟨a, b⟩ => by omega
  · intro h
    exact srt_uniq h fun k => Iff.rfl
theorem are_slips (d : D) (h : Pl d = true) (hn : noOwn d = true) (hk : Lk d) : f_law_are_slips [d] = .ok (.bl (isMarks d)) [none] := by
  unfold f_law_are_slips
  rw [defFn_ap]
  cases d with
  | non => simp -implicitDefEqProofs [m_law_are_slips, isD, isMarks]
  | bl b => simp -implicitDefEqProofs [m_law_are_slips, isD, isMarks]
  | int i => simp -implicitDefEqProofs [m_law_are_slips, isD, isMarks]
  | str x => simp -implicitDefEqProofs [m_law_are_slips, isD, isMarks]
  | nd k o xs =>
    cases k with
    | fzl => cases h
    | obj C ns => cases h
    | exn C ns => cases h
    | tup => simp -implicitDefEqProofs [m_law_are_slips, isD, isMarks]
    | dct ks => simp -implicitDefEqProofs [m_law_are_slips, isD, isMarks]
    | dtt ks => simp -implicitDefEqProofs [m_law_are_slips, isD, isMarks]
    | lst =>
      have ho : o = false ∧ noOwns xs = true := by simpa using hn
      obtain ⟨rfl, ho⟩ := ho
      obtain ⟨hl, hp⟩ := (show xs.length ≤ 1000 ∧ ∀ d ∈ xs, Py d 100000 50 from hk)
      have e1 := slips_1 xs h ho hl
      have e2 := dNe_nil (o := true) (o' := true) (xs := xs.filter fun d => !wh d 0 .non) (fun d hd => hp d (List.mem_filter.mp hd).1) (by omega)
      by_cases l1 : xs.length < 1
      · have c1 : (xs.length : Int) < 1 := by omega
        have : isMarks (.nd .lst false xs) = false := by simp [isMarks]; omega
        rw [this]
        simp -implicitDefEqProofs [m_law_are_slips, isD, c1]
      · have c1 : ¬ (xs.length : Int) < 1 := by omega
        by_cases l2 : 12 < xs.length
        · have c2 : (12 : Int) < (xs.length : Int) := by omega
          have : isMarks (.nd .lst false xs) = false := by simp [isMarks]; omega
          rw [this]
          simp -implicitDefEqProofs [m_law_are_slips, isD, c1, c2]
        · have c2 : ¬ (12 : Int) < (xs.length : Int) := by omega
          by_cases z : xs.all (fun d => wh d 0 .non) = true
          · obtain ⟨ms, rfl, nn⟩ := wh_ints z
            have e3 : (ms.map D.int).filter (fun d => !wh d 0 .non) = [] := by
              rw [List.filter_eq_nil_iff]
              intro d hd
              have := List.all_eq_true.mp z d hd
              simp [this]
            rw [e3] at e1 e2
            have hl2 : ms.length < 64 := by rw [List.length_map] at l2; omega
            have e4 := dEq_ints false true ms (srt ms)
            have c3 : isMarks (il false ms) = decide (ms = srt ms) := by
              have q1 : (1 : Nat) ≤ ms.length := by rw [List.length_map] at l1; omega
              have q2 : ms.length ≤ 12 := by rw [List.length_map] at l2; omega
              simp only [isMarks, z, List.length_map, decide_eq_true q1, decide_eq_true q2, Bool.true_and]
              rw [Bool.eq_iff_iff, adj_up, decide_eq_true_eq, srt_self]
            rw [c3]
            rw [List.length_map] at c1 c2
            simp -implicitDefEqProofs [m_law_are_slips, isD, c1, c2, e1, e2, hl2, e4]
          · have e3 : (xs.filter fun d => !wh d 0 .non).isEmpty = false := by
              rw [Bool.not_eq_true, List.all_eq_false] at z
              obtain ⟨d, hd, hw⟩ := z
              rw [List.isEmpty_eq_false_iff]
              exact List.ne_nil_of_mem (List.mem_filter.mpr ⟨hd, by simpa using hw⟩)
            rw [e3] at e2
            have : isMarks (.nd .lst false xs) = false := by simp [isMarks, z]
            rw [this]
            generalize xs.filter (fun d => !wh d 0 .non) = ys at *
            have hno : noObjs xs = true := Pls.noObjs _ h
            have fx := frzs_id xs ho
            simp -implicitDefEqProofs [m_law_are_slips, isD, c1, c2, e1, e2, hno, fx]
/-- no count of so many marks -/
def offc (n : Int) (d : D) : Bool := !wh d 0 .non || (match d with | .int i => decide (n ≤ i) | _ => false)
theorem offc_wh (n : Int) (d : D) : (!offc n d) = wh d 0 (.int (n - 1)) := by
  cases d with
  | int i =>
    by_cases h0 : 0 ≤ i
    · by_cases h1 : n ≤ i
      · have : ¬ i ≤ n - 1 := by omega
        simp [offc, wh, h0, h1, this]
      · have : i ≤ n - 1 := by omega
        simp [offc, wh, h0, h1, this]
    · simp [offc, wh, h0]
  | _ => rfl
theorem lay_1 (a : D) (xs : List D) (ao : Bool) (as : List D) (ha : a = .nd .lst ao as) (pa : Pl a = true) (na : noOwn a = true) (h : Pls xs = true) (hn : noOwns xs = true) (hl : xs.length ≤ 1000) :
    m_law_is_lay_1 [some (.nd .tup false [a, .nd .lst false xs]), none] = .ok (.nd .lst true (xs.filter (offc as.length))) [some (.nd .tup false [a, .nd .lst false xs]), none] := by
  have hno : noObjs xs = true := Pls.noObjs _ h
  have fx := frzs_id xs hn
  have fa := frz_id a na
  have oa := Pl.noObj a pa
  have la : dLen [a] = some (.int as.length) := by rw [ha]; rfl
  have := rLc_fm (own := [1]) (f := iE (rOp dIx (rFz 0) (rV (vC (.int 1))))) (m := gN 1) (tt := rOr (rNot (rCallB (f_law_whole) [] (aBw 1 (aE (rV (vC (.int 0))) aNil)))) (rV (vOp dGe (vVar 1) (vB dLen (vCons (vOp dIx (vVar 0) (vC (.int 0))) vNil))))) (te := rFz 1)
    (ρ := [some (.nd .tup false [a, .nd .lst false xs]), none]) (ρ1 := [some (.nd .tup false [a, .nd .lst false xs]), none]) (ds := xs) (offc as.length) (fun d => d)
    (by simp -implicitDefEqProofs [hno, hn, fx, fa, oa]) (by omega) (fun d hd => by
      have pd : Pl d = true := Pls.mem h d hd
      have nd : noOwn d = true := noOwns_mem hn d hd
      have fd := frz_id d nd
      have od := Pl.noObj d pd
      have e := lwhole d pd 0
      refine ⟨_, rfl, [some (.nd .tup false [a, .nd .lst false xs]), some d], ?_, rfl, fun _ => ?_⟩
      · cases d with
        | int i =>
          by_cases z : wh (.int i) 0 .non = true
          · rw [z] at e
            simp -implicitDefEqProofs [od, fd, e, la, offc, z]
          · rw [Bool.not_eq_true] at z
            rw [z] at e
            simp -implicitDefEqProofs [od, fd, e, la, offc, z]
        | _ => simp -implicitDefEqProofs [od, fd, e, la, offc, wh]
      · simp -implicitDefEqProofs [od, fd])
  unfold m_law_is_lay_1
  rw [this]
  simp
/-- what a stand's look asks -/
def Lks : D → Prop
  | .nd .tup _ [a, b] => Lk a ∧ Lk b
  | _ => True
theorem is_lay (d : D) (h : Pl d = true) (hn : noOwn d = true) (hk : Lks d) : f_law_is_lay [d] = .ok (.bl (isStand d)) [none] := by
  unfold f_law_is_lay
  rw [defFn_ap]
  cases d with
  | non => simp -implicitDefEqProofs [m_law_is_lay, isD, isStand]
  | bl b => simp -implicitDefEqProofs [m_law_is_lay, isD, isStand]
  | int i => simp -implicitDefEqProofs [m_law_is_lay, isD, isStand]
  | str x => simp -implicitDefEqProofs [m_law_is_lay, isD, isStand]
  | nd k o xs =>
    cases k with
    | fzl => cases h
    | obj C ns => cases h
    | exn C ns => cases h
    | lst => simp -implicitDefEqProofs [m_law_is_lay, isD, isStand]
    | dct ks => simp -implicitDefEqProofs [m_law_is_lay, isD, isStand]
    | dtt ks => simp -implicitDefEqProofs [m_law_is_lay, isD, isStand]
    | tup =>
      have ho : o = false ∧ noOwns xs = true := by simpa using hn
      obtain ⟨rfl, ho⟩ := ho
      by_cases l : xs.length = 2
      · obtain ⟨a, b, rfl⟩ : ∃ a b, xs = [a, b] := by
          match xs, l with
          | [a, b], _ => exact ⟨a, b, rfl⟩
        have hp : Pl a = true ∧ Pl b = true := by
          have : (Pl a && (Pl b && true)) = true := h
          simpa using this
        have ha : noOwn a = true ∧ noOwn b = true := by simpa using ho
        obtain ⟨ka, kb⟩ := (show Lk a ∧ Lk b from hk)
        have ea := are_slips a hp.1 ha.1 ka
        have fa := frz_id a ha.1
        have fb := frz_id b ha.2
        have na := Pl.noObj a hp.1
        have nb := Pl.noObj b hp.2
        by_cases z : isMarks a = true
        · rw [z] at ea
          obtain ⟨o1, ms, rfl, up⟩ := isMarks_up.mp z
          have ho1 : o1 = false := by simpa using ha.1
          subst ho1
          cases b with
          | nd k o xs =>
            cases k with
            | lst =>
              have hb : o = false ∧ noOwns xs = true := by simpa using ha.2
              obtain ⟨rfl, hb⟩ := hb
              have fx := frzs_id xs hb
              obtain ⟨hl, hy⟩ := (show xs.length ≤ 1000 ∧ ∀ d ∈ xs, Py d 100000 50 from kb)
              have e1 := lay_1 (il false ms) xs false (ms.map .int) rfl hp.1 ha.1 hp.2 hb hl
              have e2 := dEq_nil (o := true) (o' := true) (xs := xs.filter (offc (ms.map D.int).length)) (fun d hd => hy d (List.mem_filter.mp hd).1) (by omega)
              have hno : noObjs xs = true := Pls.noObjs _ hp.2
              by_cases l1 : xs.length < 1
              · have c1 : (xs.length : Int) < 1 := by omega
                have : isStand (.nd .tup false [il false ms, .nd .lst false xs]) = false := by simp [isStand]; omega
                rw [this]
                simp -implicitDefEqProofs [m_law_is_lay, isD, ea, c1, fx, hno]
              · have c1 : ¬ (xs.length : Int) < 1 := by omega
                by_cases l2 : 12 < xs.length
                · have c2 : (12 : Int) < (xs.length : Int) := by omega
                  have : isStand (.nd .tup false [il false ms, .nd .lst false xs]) = false := by simp [isStand]; omega
                  rw [this]
                  simp -implicitDefEqProofs [m_law_is_lay, isD, ea, c1, c2, fx, hno]
                · have c2 : ¬ (12 : Int) < (xs.length : Int) := by omega
                  have q1 : 1 ≤ xs.length := by omega
                  have q2 : xs.length ≤ 12 := by omega
                  have : isStand (.nd .tup false [il false ms, .nd .lst false xs]) = (xs.filter (offc (ms.map D.int).length)).isEmpty := by
                    simp only [isStand, z, List.length_map, decide_eq_true q1, decide_eq_true q2, Bool.true_and]
                    rw [Bool.eq_iff_iff, List.all_eq_true, List.isEmpty_iff, List.filter_eq_nil_iff]
                    constructor
                    · intro q d hd
                      have := q d hd
                      rw [← offc_wh] at this
                      simpa using this
                    · intro q d hd
                      rw [← offc_wh]
                      simpa using q d hd
                  rw [this]
                  generalize (xs.filter (offc (ms.map D.int).length)) = ys at *
                  simp -implicitDefEqProofs [m_law_is_lay, isD, ea, c1, c2, fx, hno, e1, e2]
            | fzl => cases hp.2
            | obj C ns => cases hp.2
            | exn C ns => cases hp.2
            | _ => simp -implicitDefEqProofs [m_law_is_lay, isD, ea, fb, nb, isStand]
          | _ => simp -implicitDefEqProofs [m_law_is_lay, isD, ea, isStand]
        · have fm : isStand (.nd .tup false [a, b]) = false := by
            unfold isStand
            split
            · rename_i h2
              cases h2
              simp [z]
            · rfl
          rw [fm]
          rw [Bool.not_eq_true] at z
          rw [z] at ea
          simp -implicitDefEqProofs [m_law_is_lay, isD, ea, fa, fb, na, nb, ha.1, ha.2]
      · have l' : ¬ (xs.length : Int) = 2 := by omega
        have fm : isStand (.nd .tup false xs) = false := by
          unfold isStand
          split
          · rename_i h2
            cases h2
            simp at l
          · rfl
        rw [fm]
        simp -implicitDefEqProofs [m_law_is_lay, isD, l']
end PM
namespace PM
open PySem L2 PyProof.Rows DL
theorem dStr_i {i : Int} (h : i.natAbs < 10 ^ 72) : dStr [.int i] = some (.str (Str.ofString (toString i))) := by
  have : i.natAbs.log2 < 1920 := by
    by_cases z : i.natAbs = 0
    · rw [z]; decide
    · rw [Nat.log2_lt z]
      exact Nat.lt_of_lt_of_le h (Nat.le_trans (m := 2 ^ 240) (by decide) (Nat.pow_le_pow_right (by omega) (by omega)))
  show (if decide _ = true then _ else _) = _
  rw [if_pos (decide_eq_true this)]
theorem pickG {L : List Nat} {xs : List D} {r : Nat} (h : r < xs.length) (g : ∀ d ∈ xs, Gd L d) : ∃ x, L2.atI xs (r : Int) = some x ∧ Gd L x := ⟨_, atL h, g _ (List.getElem_mem h)⟩
theorem Gd.all {L : List Nat} {xs : List D} (h : ∀ d ∈ xs, Gd L d) : noOwns xs = true ∧ noObjs xs = true ∧ frzs xs = xs := by
  have h1 : noOwns xs = true := noOwns_all fun d hd => (h d hd).no
  exact ⟨h1, noObjs_all fun d hd => (h d hd).noObj, frzs_id xs h1⟩
theorem odd {n : Nat} {R : D} (h : Ok n R) (hn : n < 2 ^ 30) (i : Int) (hi : i.natAbs < 10 ^ 71) : ∃ d R', f_law_odd [R, .int i] = .ok d [some R', none] ∧ Ok (n + 1) R' ∧ Gd [1] d := by
  obtain ⟨j, R1, e1, b1, o1⟩ := leafN 14 h (by omega) (by omega) (by omega)
  have i2 : i.natAbs < 10 ^ 72 := Nat.lt_trans hi (by decide)
  have g : ∀ k : Int, k.natAbs < 10 ^ 72 → ∀ {L}, Gd L (.int k) := fun k hk {L} => Gd.int hk
  obtain ⟨d, e2, hd⟩ := pickG (L := [1]) (xs := [.int (i + 1), .int (i - 1), .int 0, .int (-1), .int i, .non, .bl true, .bl false, .str (Str.ofString (toString i)), .nd .lst false [.int i], .nd .tup false [.int i], .int 10000000000000000000000000000000, .int 12, .int 11]) (r := j) (by simp; omega) (by
    intro d hd
    simp only [List.mem_cons, List.not_mem_nil, or_false] at hd
    rcases hd with rfl | rfl | rfl | rfl | rfl | rfl | rfl | rfl | rfl | rfl | rfl | rfl | rfl | rfl
    · exact g _ (by omega)
    · exact g _ (by omega)
    · exact g _ (by omega)
    · exact g _ (by omega)
    · exact g _ i2
    · exact Gd.non
    · exact Gd.bl
    · exact Gd.bl
    · exact Gd.strI i2
    · exact Gd.lst (by simp) fun d hd => by rw [List.mem_singleton.mp hd]; exact g _ i2
    · exact Gd.tup (by simp) fun d hd => by rw [List.mem_singleton.mp hd]; exact g _ i2
    · exact g _ (by omega)
    · exact g _ (by omega)
    · exact g _ (by omega))
  refine ⟨d, R1, ?_, o1, hd⟩
  unfold f_law_odd
  rw [defFn_ap]
  have ds := dStr_i i2
  generalize Str.ofString (toString i) = S at *
  simp -implicitDefEqProofs [m_law_odd, e1, ds, p10_31, e2]
theorem dTm_il (o : Bool) (x : List Int) (k : Nat) (h : x.length * k ≤ 16777216) (hk : k < 1000) : dTm (il o x) (.int k) = some (il true (List.replicate k x).flatten) := by
  unfold dTm
  dsimp only
  rw [if_pos, Int.toNat_natCast]
  · congr 2
    rw [List.map_flatten, List.map_replicate]
  · rw [Int.toNat_natCast, decide_eq_true (show -(2 ^ 63) ≤ (k : Int) by omega), decide_eq_true (show (k : Int) < 2 ^ 63 by omega), decide_eq_true (show (x.map D.int).length * k ≤ sizeLine by rw [szl, List.length_map]; exact h)]
    simp
/-- a row of whole numbers with something otherwise -/
structure Row (x : List Int) : Prop where
  ne : 0 < x.length
  le : x.length ≤ 12
  fit : ∀ i ∈ x, i.natAbs < 10 ^ 71
theorem rowsG {x : List Int} (h : Row x) (at_ : Nat) (ha : at_ < x.length) {o : D} (ho : Gd [1] o) :
    ∃ A1 A2 A3 A4 A5 A6 A7 A8 : List Int, A1 = x.take at_ ∧ A2 = x.drop (at_ + 1) ∧ A3 = x.take (at_ + 1) ∧ A4 = x.drop at_ ∧ A5 = x.reverse ∧ A6 = (List.replicate 12 x).flatten.take 12 ∧ A7 = (List.replicate 13 x).flatten.take 13 ∧ A8 = x ∧
    ∀ d ∈ [D.nd .lst false (A1.map .int ++ [o] ++ A2.map .int), il false (A1 ++ A2), il false (A3 ++ A4), il false A5, D.nd .tup false (x.map .int), D.nd .lst false (A1.map .int ++ [o] ++ A4.map .int), il false A6, il false A7, D.non, .int (x[0]'h.ne)], Gd [30, 1] d := by
  have le := h.le
  have m1 : ∀ i ∈ x, i.natAbs < 10 ^ 72 := fun i hi => Nat.lt_trans (h.fit i hi) (by decide)
  have g : ∀ (y : List Int), (∀ i ∈ y, i ∈ x) → ∀ d ∈ y.map D.int, Gd [1] d := fun y hy d hd => by
    obtain ⟨i, hi, rfl⟩ := List.mem_map.mp hd
    exact Gd.int (m1 i (hy i hi))
  have mt : ∀ k, ∀ i ∈ x.take k, i ∈ x := fun k i hi => List.mem_of_mem_take hi
  have md : ∀ k, ∀ i ∈ x.drop k, i ∈ x := fun k i hi => List.mem_of_mem_drop hi
  have mf : ∀ k j, ∀ i ∈ (List.replicate k x).flatten.take j, i ∈ x := fun k j i hi => by
    obtain ⟨l, hl, hi⟩ := List.mem_flatten.mp (List.mem_of_mem_take hi)
    rw [(List.mem_replicate.mp hl).2] at hi
    exact hi
  have lt : ∀ k, (x.take k).length ≤ 12 := fun k => by rw [List.length_take]; omega
  have ld : ∀ k, (x.drop k).length ≤ 12 := fun k => by rw [List.length_drop]; omega
  have ap : ∀ {a b : List D}, (∀ d ∈ a, Gd [1] d) → (∀ d ∈ b, Gd [1] d) → ∀ d ∈ a ++ b, Gd [1] d := fun ha hb d hd => (List.mem_append.mp hd).elim (ha d) (hb d)
  have one : ∀ d ∈ [o], Gd [1] d := fun d hd => by rw [List.mem_singleton.mp hd]; exact ho
  refine ⟨_, _, _, _, _, _, _, _, rfl, rfl, rfl, rfl, rfl, rfl, rfl, rfl, fun d hd => ?_⟩
  simp only [List.mem_cons, List.not_mem_nil, or_false] at hd
  rcases hd with rfl | rfl | rfl | rfl | rfl | rfl | rfl | rfl | rfl | rfl
  · exact Gd.lst (by have := lt at_; have := ld (at_ + 1); simp only [List.length_append, List.length_map, List.length_singleton]; omega) (ap (ap (g _ (mt _)) one) (g _ (md _)))
  · exact Gd.lst (by have := lt at_; have := ld (at_ + 1); simp only [List.length_append, List.length_map]; omega) (by rw [List.map_append]; exact ap (g _ (mt _)) (g _ (md _)))
  · exact Gd.lst (by have := lt (at_ + 1); have := ld at_; simp only [List.length_append, List.length_map]; omega) (by rw [List.map_append]; exact ap (g _ (mt _)) (g _ (md _)))
  · exact Gd.lst (by rw [List.length_map, List.length_reverse]; omega) (g _ fun i hi => List.mem_reverse.mp hi)
  · exact Gd.tup (by rw [List.length_map]; omega) (g _ fun i hi => hi)
  · exact Gd.lst (by have := lt at_; have := ld at_; simp only [List.length_append, List.length_map, List.length_singleton]; omega) (ap (ap (g _ (mt _)) one) (g _ (md _)))
  · exact Gd.lst (by rw [List.length_map, List.length_take]; omega) (g _ (mf _ _))
  · exact Gd.lst (by rw [List.length_map, List.length_take]; omega) (g _ (mf _ _))
  · exact Gd.non
  · exact Gd.int (m1 _ (List.getElem_mem h.ne))
/-- a stand with something otherwise -/
theorem bent {n : Nat} {R : D} (h : Ok n R) (hn : n < 2 ^ 28) {ms : List Int} {cs : List Nat} (hm : Row ms) (hc : Row (nI cs)) :
    ∃ d R', f_law_bent [R, sd false ms cs] = .ok d [some R', none] ∧ Ok (n + 5) R' ∧ Gd [4, 30, 1] d := by
  obtain ⟨w, R1, e1, b1, o1⟩ := leafN 2 h (by omega) (by omega) (by omega)
  obtain ⟨x, hx, y, hy, hxy⟩ : ∃ x, Row x ∧ ∃ y, Row y ∧ ((w = 0 ∧ x = ms ∧ y = nI cs) ∨ (w = 1 ∧ x = nI cs ∧ y = ms)) := by
    have : w = 0 ∨ w = 1 := by omega
    rcases this with rfl | rfl
    · exact ⟨ms, hm, nI cs, hc, .inl ⟨rfl, rfl, rfl⟩⟩
    · exact ⟨nI cs, hc, ms, hm, .inr ⟨rfl, rfl, rfl⟩⟩
  have lx := hx.le
  have nx := hx.ne
  obtain ⟨a, R2, e2, b2, o2⟩ := leafN (x.length : Int) o1 (by omega) (by omega) (by omega)
  have ha : a < x.length := by omega
  obtain ⟨o, R3, e3, o3, go⟩ := odd o2 (by omega) (x[a]) (hx.fit _ (List.getElem_mem ha))
  obtain ⟨r, R4, e4, b4, o4⟩ := leafN 10 o3 (by omega) (by omega) (by omega)
  obtain ⟨q, R5, e5, b5, o5⟩ := leafN 7 o4 (by omega) (by omega) (by omega)
  obtain ⟨A1, A2, A3, A4, A5, A6, A7, A8, f1, f2, f3, f4, f5, f6, f7, f8, gs⟩ := rowsG hx a ha go
  obtain ⟨z, ez, gz⟩ := pickG (L := [30, 1]) (r := r) (by simp; omega) gs
  have gy : Gd [30, 1] (il false y) := Gd.ints (by have := hy.le; omega) fun i hi => Nat.lt_trans (hy.fit i hi) (by decide)
  have axa := atG ha
  have ax0 := atG nx
  have c1 : cutI x none (some (a : Int)) = A1 := by rw [cut_to, f1]
  have c2 : cutI x (some ((a : Int) + 1)) none = A2 := by rw [show ((a : Int) + 1) = ((a + 1 : Nat) : Int) from rfl, cut_from, f2]
  have c3 : cutI x none (some ((a : Int) + 1)) = A3 := by rw [show ((a : Int) + 1) = ((a + 1 : Nat) : Int) from rfl, cut_to, f3]
  have c4 : cutI x (some (a : Int)) none = A4 := by rw [cut_from, f4]
  have t1 := dTm_il false x 12 (by omega) (by omega)
  have t2 := dTm_il false x 13 (by omega) (by omega)
  have c6 : cutI (List.replicate 12 x).flatten none (some ((12 : Nat) : Int)) = A6 := by rw [cut_to, f6]
  have c7 : cutI (List.replicate 13 x).flatten none (some ((13 : Nat) : Int)) = A7 := by rw [cut_to, f7]
  obtain ⟨P, hP⟩ : ∃ P : List D → List D, P = fun qs => [.nd .tup false qs, .nd .tup false qs, .nd .tup false qs, .nd .lst false qs, .nd .tup false (qs.take 1), .nd .tup false (qs ++ [.nd .lst false []]), .nd .tup false qs.reverse] := ⟨_, rfl⟩
  have fin : ∀ u v : D, Gd [30, 1] u → Gd [30, 1] v → ∃ d, L2.atI (P [u, v]) (q : Int) = some d ∧ Gd [4, 30, 1] d := fun u v gu gv => by
    rw [hP]
    refine pickG (by simp; omega) fun d hd => ?_
    have e0 : Gd [30, 1] (.nd .lst false []) := Gd.lst (by simp) fun d hd => by cases hd
    simp only [List.mem_cons, List.not_mem_nil, or_false] at hd
    have m2 : ∀ l : List D, (∀ d ∈ l, d = u ∨ d = v ∨ d = .nd .lst false []) → ∀ d ∈ l, Gd [30, 1] d := fun l hl d hd => by
      rcases hl d hd with rfl | rfl | rfl
      · exact gu
      · exact gv
      · exact e0
    rcases hd with rfl | rfl | rfl | rfl | rfl | rfl | rfl
    · exact Gd.tup (by simp) (m2 _ (by simp))
    · exact Gd.tup (by simp) (m2 _ (by simp))
    · exact Gd.tup (by simp) (m2 _ (by simp))
    · exact Gd.lst (by simp) (m2 _ (by simp))
    · exact Gd.tup (by simp) (m2 _ (by simp))
    · exact Gd.tup (by simp) (m2 _ (by simp))
    · exact Gd.tup (by simp) (m2 _ (by simp))
  have oz := gz.no
  have bz := gz.noObj
  have fz := gz.frz
  have oo := go.no
  have bo := go.noObj
  have fo := go.frz
  have i0 : L2.ixN 2 0 = some 0 := rfl
  have cd : ∀ u v : D, DL.cutD [u, v] none (some 1) = [u] := fun _ _ => rfl
  have i1 : L2.ixN 2 1 = some 1 := rfl
  simp only [il, List.map_append, List.append_assoc, List.cons_append, List.nil_append] at ez
  have xe := hx.le
  have ye := hy.le
  have l1 : A1.length ≤ 100 := by rw [f1, List.length_take]; omega
  have l2 : A2.length ≤ 100 := by rw [f2, List.length_drop]; omega
  have l3 : A3.length ≤ 100 := by rw [f3, List.length_take]; omega
  have l4 : A4.length ≤ 100 := by rw [f4, List.length_drop]; omega
  have p1 := pl_s true true (A1.map .int) [o] (by simp) (by simp [oo]) (by simp; omega)
  have p2 := pl_s true true (A1.map .int ++ [o]) (A2.map .int) (by simp [oo]) (by simp) (by simp; omega)
  have p3 := pl_s true true (A1.map .int) (A2.map .int) (by simp) (by simp) (by simp; omega)
  have p4 := pl_s true true (A3.map .int) (A4.map .int) (by simp) (by simp) (by simp; omega)
  have p5 := pl_s true true (A1.map .int ++ [o]) (A4.map .int) (by simp [oo]) (by simp) (by simp; omega)
  have p6 := pl_s true true [D.nd .lst false (A1.map .int ++ o :: A2.map .int), .nd .lst false (A1.map .int ++ A2.map .int), .nd .lst false (A3.map .int ++ A4.map .int), il false A5, D.nd .tup false (x.map .int)] [D.nd .lst false (A1.map .int ++ o :: A4.map .int), il false A6, il false A7, D.non, .int x[0]] (by simp [oo]) (by simp [oo]) (by simp)
  simp only [List.map_append, List.append_assoc, List.cons_append, List.nil_append] at p2 p5 p6
  have t1 : dTm (il false x) (.int 12) = _ := t1
  have t2 : dTm (il false x) (.int 13) = _ := t2
  have c6 : cutI (List.replicate 12 x).flatten none (some 12) = A6 := c6
  have c7 : cutI (List.replicate 13 x).flatten none (some 13) = A7 := c7
  have c5 : dRev (il false x) = some (il true A5) := by rw [dRev_l, if_pos (noOwns_ints x), ← List.map_reverse, ← f5]
  have ax0 : L2.atI (x.map D.int) 0 = some (.int x[0]) := ax0
  generalize (List.replicate 12 x).flatten = F6 at *
  generalize (List.replicate 13 x).flatten = F7 at *
  have dl : ∀ v : List Int, dList [il false v] = some (il true v) := fun v => by
    show (if noOwns (v.map D.int) = true then _ else _) = _
    rw [if_pos (noOwns_ints v)]
  clear gs f1 f2 f3 f4 f5 f6 f7 f8
  rcases hxy with ⟨rfl, rfl, rfl⟩ | ⟨rfl, hx2, rfl⟩
  · obtain ⟨d, ed, gd⟩ := fin z (il false (nI cs)) gz gy
    refine ⟨d, R5, ?_, o5, gd⟩
    simp only [hP, List.take_succ_cons, List.take_zero, List.cons_append, List.nil_append, List.reverse_cons, List.reverse_nil] at ed
    have e1 : f_law_leaf [R, .int 2] = .ok (.int 0) [some R1, none] := e1
    have p7 := pl_s true true [z, il false (nI cs)] [.nd .lst false []] (by simp [oz]) (by simp) (by simp)
    simp only [List.cons_append, List.nil_append] at p7
    unfold f_law_bent
    rw [defFn_ap]
    simp -implicitDefEqProofs [m_law_bent, e1, e2, e3, e4, e5, axa, c1, c2, c3, c4, c5, c6, c7, t1, t2, i0, i1, ax0, oo, bo, fo, oz, bz, fz, ez, ed, p1, p2, p3, p4, p5, p6, p7, dl, cd]
  · obtain ⟨d, ed, gd⟩ := fin (il false y) z gy gz
    refine ⟨d, R5, ?_, o5, gd⟩
    simp only [hP, List.take_succ_cons, List.take_zero, List.cons_append, List.nil_append, List.reverse_cons, List.reverse_nil] at ed
    have e1 : f_law_leaf [R, .int 2] = .ok (.int 1) [some R1, none] := e1
    have p7 := pl_s true true [il false y, z] [.nd .lst false []] (by simp [oz]) (by simp) (by simp)
    have hsd : sd false y cs = .nd .tup false [il false y, il false x] := by rw [hx2]
    rw [hsd]
    clear hx2 hsd hc
    simp only [List.cons_append, List.nil_append] at p7
    unfold f_law_bent
    rw [defFn_ap]
    simp -implicitDefEqProofs [m_law_bent, e1, e2, e3, e4, e5, axa, c1, c2, c3, c4, c5, c6, c7, t1, t2, i0, i1, ax0, oo, bo, fo, oz, bz, fz, ez, ed, p1, p2, p3, p4, p5, p6, p7, dl, cd]
end PM
namespace PM
open PySem L2 PyProof.Rows DL
/-- what is handed in -/
structure P1 (d : D) : Prop where
  pl : Pl d = true
  no : noOwn d = true
  lk : Lks d
  rp : ∃ S, dRepr [d] = some (.str S)
theorem Gd.lk {n : Nat} {L : List Nat} {d : D} (h : Gd (n :: L) d) (hn : n ≤ 1000) (hL : szG L ≤ 100000) (hl : L.length ≤ 50) : Lk d := by
  cases d with
  | nd k o xs =>
    cases k with
    | lst => exact ⟨by have := h.2.1; omega, fun d hd => (h.2.2 d hd).py.le hL hl⟩
    | _ => trivial
  | _ => trivial
theorem Gd.p1 {d : D} (h : Gd [4, 30, 1] d) : P1 d where
  pl := h.pl
  no := h.no
  lk := by
    unfold Lks
    split
    · rename_i o a b
      have g := h.2.2
      exact ⟨(g a (by simp)).lk (by omega) (by decide) (by decide), (g b (by simp)).lk (by omega) (by decide) (by decide)⟩
    · trivial
  rp := ⟨_, h.s (by decide) (by decide)⟩
theorem P1.dict : P1 (.nd (.dct []) false []) := ⟨rfl, rfl, trivial, ⟨_, rfl⟩⟩
theorem rep2 (b : Bool) : ∃ S, dRepr [.nd .lst true [.bl b, .bl b]] = some (.str S) := ⟨_, (Rp.lst (o := true) (xs := [.bl b, .bl b]) (n := 73) (dep := 0) fun d hd => by
  simp at hd; subst hd; exact Rp.bl).s (by simp) (by decide)⟩
theorem k01_1 {d : D} (h : P1 d) (v0 v1 : Option D) (r : DL.Env) : m_LAW_k01_1 (v0 :: v1 :: some d :: r) = .nx (v0 :: v1 :: some d :: r) := by
  have e1 := stand d h.pl h.no
  have e2 := is_lay d h.pl h.no h.lk
  have fd := frz_id d h.no
  have nd := Pl.noObj d h.pl
  obtain ⟨S, hS⟩ := rep2 (isStand d)
  have t : dTm (.nd .lst true [.bl (isStand d)]) (.int 2) = some (.nd .lst true [.bl (isStand d), .bl (isStand d)]) := rfl
  have no := h.no
  simp -implicitDefEqProofs [m_LAW_k01_1, e1, e2, fd, nd, hS, t, no]
theorem k01_4 {d : D} (h : P1 d) (v0 v1 v3 v4 v5 v6 v7 v8 v9 v10 : Option D) : ∃ w9 w10, m_LAW_k01_4 [v0, v1, some d, v3, v4, v5, v6, v7, v8, v9, v10] = .nx [v0, v1, some d, v3, v4, v5, v6, v7, v8, w9, w10] := by
  have e1 := stand d h.pl h.no
  have e2 := is_lay d h.pl h.no h.lk
  have fd := frz_id d h.no
  have nd := Pl.noObj d h.pl
  obtain ⟨S, hS⟩ := rep2 (isStand d)
  obtain ⟨S2, hS2⟩ := h.rp
  have no := h.no
  refine ⟨some (.str S2), some (.bl (isStand d)), ?_⟩
  simp -implicitDefEqProofs [m_LAW_k01_4, e1, e2, fd, nd, hS, hS2, no]
theorem row_of {ms : List Int} (h : Up ms) (b : Bd 2000000000000000000000000000000 ms) : Row ms := ⟨h.ne, h.le, fun i hi => by
  have := b i hi
  have := h.nn i hi
  exact Nat.lt_of_lt_of_le (m := 2000000000000000000000000000001) (by omega) (by decide)⟩
theorem row_cs {ms : List Int} {cs : List Nat} (h : St ms cs) : Row (nI cs) := ⟨by simpa using h.ne, by simpa using h.le, fun i hi => by
  obtain ⟨c, rfl, hc⟩ := nI_mem hi
  have := h.lt c hc
  have := h.m.le
  exact Nat.lt_of_lt_of_le (m := 13) (by omega) (by decide)⟩
theorem k01_3 {n : Nat} {R : D} (hR : Ok n R) (hn : n < 2 ^ 26) {ms : List Int} {cs : List Nat} (hm : Row ms) (hc : Row (nI cs)) (v0 v1 v2 v3 v5 v7 v8 v9 v10 : Option D) :
    ∃ R' xs, m_LAW_k01_3 [v0, v1, v2, v3, some R, v5, some (sd true ms cs), v7, v8, v9, v10] = .ok (.nd .lst true xs) [v0, v1, v2, v3, some R', v5, some (sd false ms cs), v7, v8, v9, v10] ∧ Ok (n + 25) R' ∧ xs.length = 5 ∧ ∀ d ∈ xs, Gd [4, 30, 1] d := by
  obtain ⟨I, hI⟩ : ∃ I : Nat → List D → DL.Env → Prop, I = fun i acc ρ => ∃ R' o, ρ = [v0, v1, v2, v3, some R', v5, some (sd o ms cs), v7, none, v9, v10] ∧ acc.length = i ∧ (0 < i → o = false) ∧ Ok (n + 5 * i) R' ∧ ∀ d ∈ acc, Gd [4, 30, 1] d := ⟨_, rfl⟩
  obtain ⟨xs, ρ', e, hJ⟩ := rLc_I (own := [8]) (f := iR1 (aE (rV (vC (.int 5))) aNil)) (m := gN 8) (te := rCall (f_law_bent) [] (aIo 4 (aE (rFz 6) aNil)))
    (ρ := [v0, v1, v2, v3, some R, v5, some (sd true ms cs), v7, v8, v9, v10]) (ρ1 := [v0, v1, v2, v3, some R, v5, some (sd true ms cs), v7, v8, v9, v10]) (ds := rgD 0 5) I
    (by
      have : ∀ ρ, iR1V ρ (some [.int 5]) = some (rgD 0 5, ρ) := fun ρ => iR1V_s (by omega) (by omega)
      simp -implicitDefEqProofs [this]) (by rw [rgD_len]; decide) (by rw [hI]; exact ⟨R, true, rfl, rfl, fun h => absurd h (by omega), hR, by simp⟩) (by
      intro i d acc ρ hd hi
      rw [hI] at hi
      obtain ⟨R', o, rfl, hl, ho, hok, hg⟩ := hi
      obtain ⟨rfl, hi⟩ := rgD_at hd
      obtain ⟨b, R2, e1, o2, g⟩ := bent hok (by omega) hm hc
      refine ⟨_, rfl, ?_⟩
      simp -implicitDefEqProofs [e1]
      rw [hI]
      exact ⟨R2, false, rfl, by simp [hl], fun _ => rfl, o2.le (by omega), fun d hd => by
        rcases List.mem_append.mp hd with hd | hd
        · exact hg d hd
        · rw [List.mem_singleton.mp hd]; exact g⟩)
  rw [hI] at hJ
  obtain ⟨R', o, rfl, hl, ho, hok, hg⟩ := hJ
  rw [rgD_len] at hl ho hok
  have ho := ho (by decide)
  subst ho
  refine ⟨R', xs, ?_, hok.le (by omega), hl, hg⟩
  unfold m_LAW_k01_3
  rw [e]
  simp
theorem sdG {ms : List Int} {cs : List Nat} (hm : Row ms) (hc : Row (nI cs)) : Gd [30, 1] (il false ms) ∧ Gd [30, 1] (il false (nI cs)) :=
  ⟨Gd.ints (by have := hm.le; omega) fun i hi => Nat.lt_trans (hm.fit i hi) (by decide), Gd.ints (by have := hc.le; omega) fun i hi => Nat.lt_trans (hc.fit i hi) (by decide)⟩
theorem k01_5 {ms : List Int} {cs : List Nat} (hm : Row ms) (hc : Row (nI cs)) {xs : List D} (hx : xs.length = 5) (hg : ∀ d ∈ xs, Gd [4, 30, 1] d) (v0 v1 v2 v3 v4 v5 v8 v9 v10 : Option D) :
    ∃ w2 w9 w10, m_LAW_k01_5 [v0, v1, v2, v3, v4, v5, some (sd false ms cs), some (.nd .lst true xs), v8, v9, v10] = .nx [v0, v1, w2, v3, v4, v5, none, some (.nd .lst true xs), v8, w9, w10] := by
  obtain ⟨gm, gc⟩ := sdG hm hc
  have g0 : Gd [30, 1] (.nd .lst false []) := Gd.lst (by simp) fun d hd => by cases hd
  obtain ⟨ox, bx, fx⟩ := Gd.all hg
  obtain ⟨ys, hys⟩ : ∃ ys : List D, ys = [sd false ms cs, .nd .lst false [il false ms, il false (nI cs)], .nd .tup false [il false ms, il false (nI cs), .nd .lst false []]] ++ xs := ⟨_, rfl⟩
  have gy : ∀ d ∈ ys, Gd [4, 30, 1] d := fun d hd => by
    rw [hys] at hd
    rcases List.mem_append.mp hd with hd | hd
    · simp only [List.mem_cons, List.not_mem_nil, or_false] at hd
      rcases hd with rfl | rfl | rfl
      · exact Gd.tup (by simp) (by simp only [List.mem_cons, List.not_mem_nil, or_false]; rintro d (rfl | rfl); exact gm; exact gc)
      · exact Gd.lst (by simp) (by simp only [List.mem_cons, List.not_mem_nil, or_false]; rintro d (rfl | rfl); exact gm; exact gc)
      · exact Gd.tup (by simp) (by simp only [List.mem_cons, List.not_mem_nil, or_false]; rintro d (rfl | rfl | rfl); exact gm; exact gc; exact g0)
    · exact hg d hd
  obtain ⟨oy, by_, fy⟩ := Gd.all gy
  have p1 := pl_s true true [sd false ms cs, .nd .lst false [il false ms, il false (nI cs)], .nd .tup false [il false ms, il false (nI cs), .nd .lst false []]] xs (by simp) ox (by simp; omega)
  rw [← hys] at p1
  obtain ⟨ρ', e, w2, w9, w10, rfl⟩ := loop_I (m := gN 2) (b := m_LAW_k01_4) (fun i ρ => ∃ w2 w9 w10, ρ = [v0, v1, w2, v3, v4, v5, none, some (.nd .lst true xs), v8, w9, w10]) ys [v0, v1, v2, v3, v4, v5, none, some (.nd .lst true xs), v8, v9, v10] ⟨_, _, _, rfl⟩ (by
    rintro i d ρ hd ⟨w2, w9, w10, rfl⟩
    have hmem : d ∈ ys := List.mem_of_getElem? hd
    obtain ⟨u9, u10, e⟩ := k01_4 (gy d hmem).p1 v0 v1 v3 v4 v5 none (some (.nd .lst true xs)) v8 w9 w10
    refine ⟨_, rfl, ?_⟩
    show Nx (m_LAW_k01_4 [v0, v1, some d, v3, v4, v5, none, some (.nd .lst true xs), v8, w9, w10]) _
    rw [e]
    exact ⟨_, _, _, rfl⟩)
  refine ⟨w2, w9, w10, ?_⟩
  have dl : dList [sd false ms cs] = some (.nd .lst true [il false ms, il false (nI cs)]) := by simp [dList]
  have dp : dPl (sd false ms cs) (.nd .tup false [.nd .lst false []]) = some (.nd .tup false [il false ms, il false (nI cs), .nd .lst false []]) := by
    show dCat .tup _ _ = _
    unfold dCat
    simp [szl]
  unfold m_LAW_k01_5
  simp -implicitDefEqProofs [dl, dp, p1, oy, e]
theorem k01_6 {n : Nat} {R : D} (hR : Ok n R) (hn : n < 2 ^ 25) (v0 v1 v2 v3 v5 v6 v7 v8 v9 v10 : Option D) :
    ∃ R' w2 w7 w9 w10, m_LAW_k01_6 [v0, v1, v2, v3, some R, v5, v6, v7, v8, v9, v10] = .nx [v0, v1, w2, v3, some R', v5, none, w7, v8, w9, w10] ∧ Ok (n + 200) R' := by
  obtain ⟨R1, ms, cs, e1, o1, h, _, bd⟩ := lay hR (by omega) 12 (by omega) (by omega)
  have e1 : f_law_lay [R, .int 12] = _ := e1
  have hm := row_of h.m bd
  have hc := row_cs h
  obtain ⟨R2, xs, e2, o2, hx, hg⟩ := k01_3 o1 (by omega) hm hc v0 v1 v2 v3 v5 v7 v8 v9 v10
  obtain ⟨w2, w9, w10, e3⟩ := k01_5 hm hc hx hg v0 v1 v2 v3 (some R2) v5 v8 v9 v10
  refine ⟨R2, w2, some (.nd .lst true xs), w9, w10, ?_, o2.le (by omega)⟩
  · unfold m_LAW_k01_6
    simp -implicitDefEqProofs [e1, e2, e3, o1.okB]
theorem k01_7 {n : Nat} {R : D} (hR : Ok n R) (hn : n < 2 ^ 24) (v0 v1 v2 v3 v5 v6 v7 v8 v9 v10 : Option D) :
    ∃ w2 w4 w5 w6 w7 w9 w10, m_LAW_k01_7 [v0, v1, v2, v3, some R, v5, v6, v7, v8, v9, v10] = .nx [v0, v1, w2, v3, w4, w5, w6, w7, v8, w9, w10] := by
  obtain ⟨I, hI⟩ : ∃ I : Nat → DL.Env → Prop, I = fun i ρ => ∃ R' w2 w5 w6 w7 w9 w10, ρ = [v0, v1, w2, v3, some R', w5, w6, w7, v8, w9, w10] ∧ Ok (n + 200 * i) R' := ⟨_, rfl⟩
  obtain ⟨ρ', e, hJ⟩ := loop_I (m := gN 5) (b := m_LAW_k01_6) I (rgD 0 4) [v0, v1, v2, v3, some R, v5, v6, v7, v8, v9, v10] (by rw [hI]; exact ⟨R, _, _, _, _, _, _, rfl, hR⟩) (by
    intro i d ρ hd hi
    rw [hI] at hi
    obtain ⟨R', w2, w5, w6, w7, w9, w10, rfl, o⟩ := hi
    obtain ⟨rfl, hi⟩ := rgD_at hd
    obtain ⟨R2, u2, u7, u9, u10, e2, o2⟩ := k01_6 o (by omega) v0 v1 w2 v3 (some (.int (0 + (i : Int)))) w6 w7 v8 w9 w10
    refine ⟨_, rfl, ?_⟩
    show Nx (m_LAW_k01_6 [v0, v1, w2, v3, some R', some (.int (0 + (i : Int))), w6, w7, v8, w9, w10]) _
    rw [e2, hI]
    exact ⟨R2, _, _, _, _, _, _, rfl, o2.le (by omega)⟩)
  rw [hI] at hJ
  obtain ⟨R', w2, w5, w6, w7, w9, w10, rfl, _⟩ := hJ
  refine ⟨w2, some R', w5, w6, w7, w9, w10, ?_⟩
  have e7 : ∀ ρ, iR1V ρ (some [.int 4]) = some (rgD 0 4, ρ) := fun ρ => iR1V_s (by omega) (by omega)
  simp -implicitDefEqProofs [m_LAW_k01_7, e7, e]
def k01C : List D :=
  let z : D := .nd .lst false [.int 0]
  let n : D := .nd .lst false []
  [.non, .bl true, .int 0, .str "", .nd .tup false [], n, .nd (.dct []) false [], .nd .tup false [n, n], .nd .tup false [z, n], .nd .tup false [n, z], .nd .tup false [z, z],
   .nd .tup false [z, .nd .lst false (List.replicate 12 (.int 0))], .nd .tup false [z, .nd .lst false (List.replicate 13 (.int 0))],
   .nd .tup false [z, .nd .lst false [.int 1]], .nd .tup false [.nd .lst false [.int 0, .int 0], z], .nd .tup false [.nd .lst false [.int 1, .int 0], z], .nd .tup false [.nd .lst false [.int 0, .int 1], .nd .lst false [.int 1, .int 1, .int 1]],
   .nd .tup false [.nd .tup false [.int 0], z], .nd .tup false [z, .nd .tup false [.int 0]], .nd .lst false [z, z],
   .nd .tup false [.nd .lst false ((List.range 12).map fun i : Nat => .int i), .nd .lst false [.int 11]], .nd .tup false [.nd .lst false ((List.range 13).map fun i : Nat => .int i), .nd .lst false [.int 12]],
   .nd .tup false [.nd .lst false [.bl true], z], .nd .tup false [.nd .lst false [.int 0, .int 1], .nd .lst false [.bl true]], .nd .tup false [.nd .lst false [.int (-1)], z]]
theorem k01C_p1 : ∀ d ∈ k01C, P1 d := by
  have h : ∀ d ∈ k01C, gdB d [4, 30, 1] = true ∨ d = .nd (.dct []) false [] := by
    intro d hd
    simp only [k01C, List.mem_cons, List.not_mem_nil, or_false] at hd
    rcases hd with rfl | rfl | rfl | rfl | rfl | rfl | rfl | rfl | rfl | rfl | rfl | rfl | rfl | rfl | rfl | rfl | rfl | rfl | rfl | rfl | rfl | rfl | rfl | rfl | rfl <;> first | (left; rfl) | (left; decide +kernel) | (right; rfl)
  intro d hd
  rcases h d hd with h | rfl
  · exact (gdB_ok _ _ h).p1
  · exact P1.dict
theorem k01_2 (v0 v2 : Option D) (r : DL.Env) : ∃ w2, m_LAW_k01_2 (v0 :: some (.nd .lst true k01C) :: v2 :: r) = .nx (v0 :: some (.nd .lst false k01C) :: w2 :: r) := by
  have hf : frzs k01C = k01C := rfl
  have hb : noObjs k01C = true := rfl
  have ho : noOwns k01C = true := rfl
  obtain ⟨ρ', e, w2, rfl⟩ := loop_I (m := gN 2) (b := m_LAW_k01_1) (fun i ρ => ∃ w2, ρ = v0 :: some (.nd .lst false k01C) :: w2 :: r) k01C (v0 :: some (.nd .lst false k01C) :: v2 :: r) ⟨_, rfl⟩ (by
    rintro i d ρ hd ⟨w2, rfl⟩
    refine ⟨_, rfl, ?_⟩
    show Nx (m_LAW_k01_1 (v0 :: some (.nd .lst false k01C) :: some d :: r)) _
    rw [k01_1 (k01C_p1 d (List.mem_of_getElem? hd))]
    exact ⟨_, rfl⟩)
  refine ⟨w2, ?_⟩
  generalize k01C = C at *
  simp -implicitDefEqProofs [m_LAW_k01_2, hf, hb, ho, e]
theorem law_true_k01 (ns : List Int) (hl : ns.length ≤ 63) (hb : ∀ z ∈ ns, Builtin.Int.intBits z ≤ 1048576) : ∃ ρ, f_LAW_k01 [.nd .fzl false (ns.map .int)] = .ok (.bl true) ρ := by
  obtain ⟨j, hj, hj2, hj3⟩ : ∃ j : Int, dMax2 [.int 1, .int (if (ns.length : Int) < 10 then (ns.length : Int) else 10)] = some (.int j) ∧ 0 ≤ j ∧ j ≤ 63 := ⟨_, rfl, by split <;> split <;> omega, by split <;> split <;> omega⟩
  obtain ⟨s0, hs⟩ : ∃ s0 : D, s0 = .nd .fzl false (ns.map .int) := ⟨_, rfl⟩
  obtain ⟨w2, e2⟩ := k01_2 (some s0) none [none, none, none, none, none, none, none, none]
  obtain ⟨ρ', e3, u2, u3, u4, u5, u6, u7, u8, u9, u10, rfl⟩ := loop_I (m := gN 3) (b := m_LAW_k01_8) (fun i ρ => ∃ u2 u3 u4 u5 u6 u7 u8 u9 u10, ρ = [some s0, some (.nd .lst false k01C), u2, u3, u4, u5, u6, u7, u8, u9, u10])
    (rgD 0 j) [some s0, some (.nd .lst false k01C), w2, none, none, none, none, none, none, none, none] ⟨_, _, _, _, _, _, _, _, _, rfl⟩ (by
      rintro i d ρ hd ⟨u2, u3, u4, u5, u6, u7, u8, u9, u10, rfl⟩
      obtain ⟨rfl, h4⟩ := rgD_at hd
      obtain ⟨R, e1, o⟩ := ream ns hb i (by omega)
      obtain ⟨w2, w4, w5, w6, w7, w9, w10, e4⟩ := k01_7 o (by omega) (some s0) (some (.nd .lst false k01C)) u2 (some (.int (0 + (i : Int)))) u5 u6 u7 u8 u9 u10
      refine ⟨_, rfl, ?_⟩
      obtain ⟨P, hP⟩ : ∃ P : DL.Env → Prop, P = fun ρ => ∃ u2 u3 u4 u5 u6 u7 u8 u9 u10, ρ = [some s0, some (.nd .lst false k01C), u2, u3, u4, u5, u6, u7, u8, u9, u10] := ⟨_, rfl⟩
      rw [← hP]
      rw [Int.zero_add] at e4 ⊢
      subst hs
      generalize k01C = C at *
      simp -implicitDefEqProofs [m_LAW_k01_8, e1, e4, o.okB]
      rw [hP]
      exact ⟨_, _, _, _, _, _, _, _, _, rfl⟩)
  refine ⟨[none], ?_⟩
  have e1 : ∀ ρ, iR1V ρ (some [.int j]) = some (rgD 0 j, ρ) := fun ρ => iR1V_s (by omega) (by omega)
  have e9 : m_LAW_k01_9 [some s0, some (.nd .lst false k01C), w2, none, none, none, none, none, none, none, none] = .nx [some s0, some (.nd .lst false k01C), u2, u3, u4, u5, u6, u7, u8, u9, u10] := by
    subst hs
    generalize k01C = C at *
    simp -implicitDefEqProofs [m_LAW_k01_9, -dMax2_i, hj, e1, e3]
  have first : f_LAW_k01 [s0] = endK [false] ((mSeq m_LAW_k01_2 (mSeq m_LAW_k01_9 (mRet (rV (vC (.bl true)))))) [some s0, some (.nd .lst true k01C), none, none, none, none, none, none, none, none, none]) := by kernel_rfl
  rw [← hs, first]
  generalize k01C = C at *
  simp -implicitDefEqProofs [e2, e9]
end PM
namespace PM
open PySem L2 PyProof.Rows DL
def m_law_no_going : MS := (mSeq (mAsg (rV (vB dLen (vCons (vOp dIx (vVar 1) (vC (.int 1))) vNil))) (gN 2)) (mSeq (mAsg (rLst (aE (rV (vC .non)) (aE (rV (vC (.int 0))) (aE (rT (rTup (aE (rV (vC (.int 0))) aNil))) (aE (rT (rTup (aE (rV (vC (.int 0))) (aE (rV (vC (.int 1))) (aE (rV (vC (.int 1))) aNil))))) (aE (rT (rLst (aE (rV (vC (.int 0))) (aE (rV (vC (.int 1))) aNil)))) (aE (rT (rTup (aE (rFz 2) (aE (rV (vC (.int 1))) aNil)))) (aE (rT (rTup (aE (rV (vUn dNeg (vC (.int 1)))) (aE (rV (vC (.int 1))) aNil)))) (aE (rT (rTup (aE (rV (vC (.int 0))) (aE (rV (vC (.int 0))) aNil)))) (aE (rT (rTup (aE (rV (vC (.int 0))) (aE (rV (vUn dNeg (vC (.int 1)))) aNil)))) (aE (rT (rTup (aE (rV (vC (.int 0))) (aE (rV (vOp dAdd (vOp dPow (vC (.int 10)) (vC (.int 31))) (vC (.int 1)))) aNil)))) (aE (rT (rTup (aE (rV (vC (.str "a"))) (aE (rV (vC (.int 1))) aNil)))) aNil)))))))))))) (gN 3)) (mSeq (mAsg (rOpNE dPl 3 (rLst (aE (rT (rTup (aE (rV (vC (.int 0))) (aE (rV (vC (.str "1"))) aNil)))) (aE (rT (rTup (aE (rV (vC (.bl true))) (aE (rV (vC (.int 1))) aNil)))) (aE (rT (rTup (aE (rV (vC (.int 0))) (aE (rV (vC (.bl true))) aNil)))) (aE (rT (rTup (aE (rV (vC .non)) (aE (rV (vC (.int 1))) aNil)))) (aE (rT (rTup (aE (rV (vC (.int 0))) (aE (rV (vC .non)) aNil)))) (aE (rT rDict0) (aE (rV (vC (.str "a1"))) (aE (rT (rTup (aE (rV (vOp dAdd (vVar 2) (vC (.int 5)))) (aE (rV (vC (.int 3))) aNil)))) (aE (rT (rTup (aE (rT (rTup (aE (rV (vC (.int 0))) (aE (rV (vC (.int 1))) aNil)))) aNil))) aNil))))))))))) (gN 3)) (mRet (rOp dIx (rFz 3) (rCall (f_law_leaf) [] (aIo 0 (aE (rV (vC (.int 20))) aNil))))))))
def f_law_no_going : Fn := defFn 4 [true, false] m_law_no_going
def m_law_word_1 : ME := rLc [4, 5] (iE (rFz 1)) (gT 2 (gsCons (gN 4) (gsCons (gN 5) gsNil))) (rV (vVar 5)) (rFz 4)
def m_law_word : MS := (mSeq (mAsg (rLst (aE (rTup (aE (rV (vC (.str "stand"))) (aE (rV (vIsX XCS "NoStand" (vVar 0))) aNil))) (aE (rTup (aE (rV (vC (.str "marks"))) (aE (rV (vIsX XCS "NoMarks" (vVar 0))) aNil))) aNil))) (gN 1)) (mSeq (mAsg (rOpNE dPl 1 (rLst (aE (rTup (aE (rV (vC (.str "reading"))) (aE (rV (vIsX XCS "NoReading" (vVar 0))) aNil))) (aE (rTup (aE (rV (vC (.str "counts"))) (aE (rV (vIsX XCS "NoCounts" (vVar 0))) aNil))) aNil)))) (gN 1)) (mSeq (mAsg (rOpNE dPl 1 (rLst (aE (rTup (aE (rV (vC (.str "history"))) (aE (rV (vIsX XCS "NoHistory" (vVar 0))) aNil))) (aE (rTup (aE (rV (vC (.str "diaries"))) (aE (rV (vIsX XCS "NoDiaries" (vVar 0))) aNil))) aNil)))) (gN 1)) (mSeq (mDo (rMtN uApp 1 (aE (rTup (aE (rV (vC (.str "text"))) (aE (rV (vIsX XCS "NoText" (vVar 0))) aNil))) aNil))) (mSeq (mAsg (rIsXT XCS ["NoLater", "NoLot", "NoName", "NoNumber", "NoPage", "NoReader", "NoRow", "NoStory"] (vVar 0)) (gN 2)) (mSeq (mAsg (rOr (rFz 2) (rIsXT XCS ["Nothing", "Taken", "TooMany"] (vVar 0))) (gN 2)) (mSeq (mAsg m_law_word_1 (gN 3)) (mRet (rIf (rOr (rV (vVar 2)) (rOr (rV (vOp dNeX (vB dLen (vCons (vVar 3) vNil)) (vC (.int 1)))) (rNot (rV (vIsX XCS "ValueError" (vVar 0)))))) (rV (vC (.str "odd"))) (rV (vOp dIx (vVar 3) (vC (.int 0)))))))))))))
def f_law_word : Fn := defFn 6 [false] m_law_word
def m_law_refused_1 : MS := (mIf (rV (vOp dEqX (vVar 0) (vC (.int 0)))) (mDo (rCallB (f_opens) [] (aBw 1 aNil))) (mIf (rV (vOp dEqX (vVar 0) (vC (.int 1)))) (mDo (rCallB (f_goes) [] (aBw 1 (aBw 2 aNil)))) (mIf (rV (vOp dEqX (vVar 0) (vC (.int 2)))) (mDo (rCallB (f_behind) [] (aBw 1 (aBw 2 aNil)))) (mDo (rCallB (f_fresh) [] (aBw 1 aNil))))))
def m_law_refused_2 : MS := (mAsg (rFz 4) (gN 3))
def m_law_refused : MS := (mSeq (mAsg (rV (vC .non)) (gN 3)) (mSeq (mTry XCS m_law_refused_1 [("MarkError", some 4, m_law_refused_2)]) (mRet (rIf (rV (vOp dIsN (vVar 3) (vC .non))) (rV (vC (.str "none"))) (rCallB (f_law_word) [] (aBw 3 aNil))))))
def f_law_refused : Fn := defFn 5 [false, false, false] m_law_refused
def m_LAW_k04_1 : ME := rLc [13] (iR1 (aE (rV (vC (.int 3))) aNil)) (gN 13) rYes (rCallB (f_law_refused) [] (aBw 13 (aBw 5 (aBw 9 aNil))))
def m_LAW_k04_2 : MS := (mSeq (mAsg (rCall (f_law_lay) [] (aIo 2 (aE (rV (vC (.int 12))) aNil))) (gN 4)) (mSeq (mAsg (rOp dIx (rLst (aE (rFz 4) (aE (rCall (f_law_bent) [] (aIo 2 (aE (rFz 4) aNil))) aNil))) (rCall (f_law_leaf) [] (aIo 2 (aE (rV (vC (.int 2))) aNil)))) (gN 5)) (mSeq (mAsg (rCallB (f_law_is_lay) [] (aBw 5 aNil)) (gN 6)) (mSeq (mAsg (rIf (rV (vVar 6)) (rFz 5) (rFz 4)) (gN 7)) (mSeq (mAsg (rOpEV dEqX (rCall (f_law_leaf) [] (aIo 2 (aE (rV (vC (.int 2))) aNil))) (vC (.int 0))) (gN 8)) (mSeq (mAsg (rIf (rV (vVar 8)) (rCall (f_law_no_going) [] (aIo 2 (aE (rFz 7) aNil))) (rCallB (f_law_going) [] (aIo 2 (aBw 7 aNil)))) (gN 9)) (mSeq (mAsg (rB dRepr (aE (rLst (aE (rFz 5) (aE (rFz 9) aNil))) aNil)) (gN 10)) (mSeq (mAsg (rIf (rNot (rV (vVar 6))) (rV (vC (.str "stand"))) (rIf (rV (vVar 8)) (rV (vC (.str "reading"))) (rV (vC (.str "none"))))) (gN 11)) (mSeq (mAsg m_LAW_k04_1 (gN 12)) (mSeq (mIf (rOr (rOpNE dNeX 12 (rLst (aE (rIf (rV (vVar 6)) (rV (vC (.str "none"))) (rV (vC (.str "stand")))) (aE (rFz 11) (aE (rFz 11) aNil))))) (rOpEV dNeX (rB dRepr (aE (rLst (aMv 5 (aMv 9 aNil))) aNil)) (vVar 10))) (mRet (rV (vC (.bl false)))) mNx) (mSeq (mAsg (rLst (aE (rOp dIx (rFz 4) (rV (vC (.int 0)))) (aMv 4 (aE (rV (vC .non)) (aE (rV (vC (.int 0))) (aE (rMkV dTup (vOp dIx (vVar 4) (vC (.int 0)))) (aE (rOp dPl (rMkV dRev (vOp dIx (vVar 4) (vC (.int 0)))) (rLst (aE (rV (vC (.int 0))) aNil))) (aE (rOpV dTm (vOp dIx (vVar 4) (vC (.int 0))) (vC (.int 13))) (aE (rLst aNil) (aE rDict0 aNil)))))))))) (gN 14)) (mSeq (mAsg (rOp dIx (rFz 14) (rCall (f_law_leaf) [] (aIo 2 (aE (rV (vC (.int 9))) aNil)))) (gN 15)) (mIf (rOp dNeX (rCallB (f_law_refused) [] (aE (rV (vC (.int 3))) (aBw 15 (aE (rV (vC .non)) aNil)))) (rIf (rCallB (f_law_are_slips) [] (aBw 15 aNil)) (rV (vC (.str "none"))) (rV (vC (.str "marks"))))) (mRet (rV (vC (.bl false)))) mNx)))))))))))))
def m_LAW_k04_3 : MS := mFor (iR1 (aE (rV (vC (.int 8))) aNil)) (gN 3) m_LAW_k04_2
def m_LAW_k04_4 : MS := (mSeq (mAsg (rCallB (f_law_ream) [] (aBw 0 (aBw 1 aNil))) (gN 2)) m_LAW_k04_3)
def m_LAW_k04_5 : MS := mFor (iR1 (aE (rV (vB dMax2 (vCons (vC (.int 1)) (vCons (vB dMin2 (vCons (vC (.int 8)) (vCons (vB dLen (vCons (vVar 0) vNil)) vNil))) vNil)))) aNil)) (gN 1) m_LAW_k04_4
def m_LAW_k04 : MS := (mSeq m_LAW_k04_5 (mRet (rV (vC (.bl true)))))
def f_LAW_k04 : Fn := defFn 16 [false] m_LAW_k04
end PM
namespace PM
open PySem L2 PyProof.Rows DL
/-! ### refusals of the program -/
abbrev xn (c : Str) : Xn := ⟨c, []⟩
abbrev xd (c : Str) : D := .nd (.exn c []) false []
/-- what is handed in: plain, frozen -/
structure Q (d : D) : Prop where
  pl : Pl d = true
  no : noOwn d = true
theorem Q.frz {d : D} (h : Q d) : DL.frz d = d := frz_id d h.no
theorem Q.noObj {d : D} (h : Q d) : DL.noObj d = true := Pl.noObj d h.pl
theorem Gd.q {L : List Nat} {d : D} (h : Gd L d) : Q d := ⟨h.pl, h.no⟩
theorem P1.q {d : D} (h : P1 d) : Q d := ⟨h.pl, h.no⟩
theorem isStand_up {d : D} (h : noOwn d = true) (z : isStand d = true) : ∃ ms cs, d = sd false ms cs ∧ St ms cs := by
  unfold isStand at z
  split at z
  · rename_i o0 a o cs
    simp only [Bool.and_eq_true, decide_eq_true_eq] at z
    obtain ⟨z1, ⟨z2, z3⟩, z4⟩ := z
    obtain ⟨o1, ms, rfl, up⟩ := isMarks_up.mp z1
    simp only [List.length_map] at z4
    have z5 : cs.all (fun d => wh d 0 .non) = true := by
      rw [List.all_eq_true] at z4 ⊢
      intro d hd
      have := z4 d hd
      cases d <;> simp [wh] at this ⊢
      exact this.1
    obtain ⟨ks, rfl, nn⟩ := wh_ints z5
    obtain ⟨ns, rfl⟩ : ∃ ns : List Nat, ks = nI ns := ⟨ks.map Int.toNat, by
      unfold nI
      rw [List.map_map]
      conv => lhs; rw [← List.map_id ks]
      apply List.map_congr_left
      intro i hi
      have := nn i hi
      simp
      omega⟩
    have ho : o0 = false ∧ o1 = false ∧ o = false := by simpa using h
    obtain ⟨rfl, rfl, rfl⟩ := ho
    refine ⟨ms, ns, rfl, up, by simp at z2; omega, by simpa using z3, fun c hc => ?_⟩
    rw [List.all_eq_true] at z4
    have := z4 (.int c) (List.mem_map.mpr ⟨(c : Int), List.mem_map.mpr ⟨c, hc, rfl⟩, rfl⟩)
    simp [wh] at this
    omega
  · cases z
theorem needStandX {d : D} (h : Q d) (z : isStand d = false) : f_need_stand [d] = .ex (xn "NoStand") [none] := by
  unfold f_need_stand
  rw [defFn_ap]
  have e := stand d h.pl h.no
  rw [z] at e
  simp -implicitDefEqProofs [m_need_stand, e, h.frz, h.noObj]
theorem needMarksX {d : D} (h : Q d) (z : isMarks d = false) : f_need_marks [d] = .ex (xn "NoMarks") [none] := by
  unfold f_need_marks
  rw [defFn_ap]
  have e := marks d h.pl
  rw [z] at e
  simp -implicitDefEqProofs [m_need_marks, e, h.frz, h.noObj]
theorem needReadingX {ms : List Int} {cs : List Nat} {d : D} (h : Q d) (z : isRd cs.length d = false) : f_need_reading [sd false ms cs, d] = .ex (xn "NoReading") [none, none] := by
  have e1 := readingOf (cs.length : Int) d h.pl h.no
  rw [z] at e1
  have e2 : f_is_reading [sd false ms cs, d] = .ok (.bl false) [none, none] := by
    unfold f_is_reading
    rw [defFn_ap]
    simp -implicitDefEqProofs [m_is_reading, e1, h.frz, h.noObj]
  unfold f_need_reading
  rw [defFn_ap]
  simp -implicitDefEqProofs [m_need_reading, e2, h.frz, h.noObj]
theorem opensX {d : D} (h : Q d) (z : isStand d = false) : f_opens [d] = .ex (xn "NoStand") [none] := by
  have e := needStandX h z
  unfold f_opens
  rw [defFn_ap]
  simp -implicitDefEqProofs [m_opens, e, h.frz, h.noObj]
theorem freshX {d : D} (h : Q d) (z : isMarks d = false) : f_fresh [d] = .ex (xn "NoMarks") [none] := by
  have e := needMarksX h z
  unfold f_fresh
  rw [defFn_ap]
  simp -implicitDefEqProofs [m_fresh, e, h.frz, h.noObj]
theorem goesS {d r : D} (h : Q d) (hr : Q r) (z : isStand d = false) : f_goes [d, r] = .ex (xn "NoStand") [none, none] := by
  have e := needStandX h z
  unfold f_goes
  rw [defFn_ap]
  simp -implicitDefEqProofs [m_goes, e, h.frz, h.noObj, hr.frz, hr.noObj]
theorem behindS {d r : D} (h : Q d) (hr : Q r) (z : isStand d = false) : f_behind [d, r] = .ex (xn "NoStand") [none, none] := by
  have e := needStandX h z
  unfold f_behind
  rw [defFn_ap]
  simp -implicitDefEqProofs [m_behind, e, h.frz, h.noObj, hr.frz, hr.noObj]
theorem goesR {ms : List Int} {cs : List Nat} {r : D} (h : St ms cs) (hr : Q r) (z : isRd cs.length r = false) : f_goes [sd false ms cs, r] = .ex (xn "NoReading") [none, none] := by
  have e1 := needStand h false
  have e2 := needReadingX (ms := ms) hr z
  unfold f_goes
  rw [defFn_ap]
  simp -implicitDefEqProofs [m_goes, e1, e2, hr.frz, hr.noObj]
theorem behindR {ms : List Int} {cs : List Nat} {r : D} (h : St ms cs) (hr : Q r) (z : isRd cs.length r = false) : f_behind [sd false ms cs, r] = .ex (xn "NoReading") [none, none] := by
  have e1 := needStand h false
  have e2 := needReadingX (ms := ms) hr z
  unfold f_behind
  rw [defFn_ap]
  simp -implicitDefEqProofs [m_behind, e1, e2, hr.frz, hr.noObj]
theorem isRd_inv {n : Int} {d : D} (h : noOwn d = true) (z : isRd n d = true) : ∃ (r : Nat) (p : Int), d = rdg r p ∧ (r : Int) < n ∧ 1 ≤ p ∧ p ≤ big := by
  unfold isRd at z
  split at z
  · rename_i o a b
    simp only [Bool.and_eq_true] at z
    obtain ⟨z1, z2⟩ := z
    cases a <;> simp [wh] at z1
    cases b <;> simp [wh] at z2
    rename_i i j
    have ho : o = false := by simpa using h
    subst ho
    refine ⟨i.toNat, j, ?_, by omega, z2.1, z2.2⟩
    show D.nd .tup false [.int i, .int j] = .nd .tup false [.int (i.toNat : Int), .int j]
    rw [Int.toNat_of_nonneg z1.1]
  · cases z
/-! ### the law's word of a refusal -/
theorem word_stand : f_law_word [xd "NoStand"] = .ok (.str "stand") [none] := by kernel_rfl
theorem word_marks : f_law_word [xd "NoMarks"] = .ok (.str "marks") [none] := by kernel_rfl
theorem word_reading : f_law_word [xd "NoReading"] = .ok (.str "reading") [none] := by kernel_rfl
end PM
namespace PM
open PySem L2 PyProof.Rows DL
def m_law_lost_1 : ME := rLc [5] (iE (rOp dIx (rFz 0) (rV (vC (.int 1))))) (gN 5) rYes (rV (vOp dIx (vOp dIx (vVar 0) (vC (.int 0))) (vVar 5)))
def m_law_lost_2 : ME := rLc [5] (iE (rOp dIx (rFz 0) (rV (vC (.int 1))))) (gN 5) rYes (rLst aNil)
def m_law_lost_3 : MS := (mSeq (mIf (rV (vOp dNeX (vVar 9) (vOp dIx (vVar 4) (vVar 7)))) (mDo (rMtL uApp 6 (pIx 6 pN (vVar 7)) (aE (rTup (aE (rV (vOp dIx (vVar 4) (vVar 7))) (aE (rFz 9) aNil))) aNil))) mNx) (mAsg (rFz 10) (mSet 4 pN (vVar 7))))
def m_law_lost_4 : MS := mFor (iZ (aE (rFz 1) (aE (rFz 2) aNil))) (gT 2 (gsCons (gT 2 (gsCons (gN 7) (gsCons (gN 8) gsNil))) (gsCons (gT 2 (gsCons (gN 9) (gsCons (gN 10) gsNil))) gsNil))) m_law_lost_3
def m_law_lost : MS := (mSeq (mAsg (rCall (f_law_through) [] (aE (rFz 0) (aE (rFz 1) aNil))) (gT 2 (gsCons (gN 2) (gsCons (gN 3) gsNil)))) (mSeq (mAsg m_law_lost_1 (gN 4)) (mSeq (mAsg m_law_lost_2 (gN 6)) (mSeq m_law_lost_4 (mRet (rMv 6))))))
def f_law_lost : Fn := defFn 11 [false, false] m_law_lost
def m_skipped_1 : MS := (mSeq (mIf (rV (vOp dLt (vVar 6) (vVar 8))) (mDo (rMtN uApp 7 (aE (rTup (aE (rFz 6) (aE (rFz 8) aNil))) aNil))) mNx) (mAsg (rFz 9) (gN 6)))
def m_skipped_2 : MS := mFor (iE (rFz 5)) (gT 2 (gsCons (gN 8) (gsCons (gN 9) gsNil))) m_skipped_1
def m_skipped_3 : MS := (mSeq (mAsg (rV (vOp dIx (vOp dIx (vVar 0) (vC (.int 0))) (vVar 4))) (gN 6)) (mSeq (mAsg (rLst aNil) (gN 7)) (mSeq m_skipped_2 (mDo (rMtN uApp 3 (aMv 7 aNil))))))
def m_skipped_4 : MS := mFor (iZ (aE (rOp dIx (rFz 0) (rV (vC (.int 1)))) (aE (rFz 2) aNil))) (gT 2 (gsCons (gN 4) (gsCons (gN 5) gsNil))) m_skipped_3
def m_skipped : MS := (mSeq (mAsg (rCallB (f_diaries_of) [] (aBw 0 (aBw 1 aNil))) (gN 2)) (mSeq (mAsg (rLst aNil) (gN 3)) (mSeq m_skipped_4 (mRet (rMv 3)))))
def f_skipped : Fn := defFn 10 [false, false] m_skipped
def m_LAW_k22_1 : MS := (mSeq (mAsg (rCall (f_law_stand) [] (aIo 2 (aE (rV (vC (.int 12))) aNil))) (gN 4)) (mSeq (mAsg (rCallB (f_law_history) [] (aIo 2 (aBw 4 (aE (rV (vC (.int 30))) aNil)))) (gN 5)) (mSeq (mAsg (rCallB (f_law_lost) [] (aBw 4 (aBw 5 aNil))) (gN 6)) (mSeq (mAsg (rB dRepr (aE (rLst (aE (rFz 4) (aE (rFz 5) aNil))) aNil)) (gN 7)) (mSeq (mAsg (rCallB (f_skipped) [] (aBw 4 (aBw 5 aNil))) (gN 8)) (mSeq (mIf (rOr (rNot (rCallB (f_law_same 4) [] (aBw 8 (aBw 6 aNil)))) (rOpEV dNeX (rB dRepr (aE (rLst (aE (rFz 4) (aE (rFz 5) aNil))) aNil)) (vVar 7))) (mRet (rV (vC (.bl false)))) mNx) (mSeq (mIf (rNot (rCallB (f_law_apart) [] (aBw 8 (aBw 6 aNil)))) (mRet (rV (vC (.bl false)))) mNx) (mSeq (mDo (rMtN uApp 8 (aE (rLst aNil) aNil))) (mIf (rNot (rCallB (f_law_same 4) [] (aE (rCallKB (f_skipped) [1, 0] (aBw 5 (aBw 4 aNil))) (aBw 6 aNil)))) (mRet (rV (vC (.bl false)))) mNx)))))))))
def m_LAW_k22_2 : MS := mFor (iR1 (aE (rV (vC (.int 2))) aNil)) (gN 3) m_LAW_k22_1
def m_LAW_k22_3 : MS := (mSeq (mAsg (rCallB (f_law_ribbon) [] (aBw 0 (aBw 1 aNil))) (gN 2)) m_LAW_k22_2)
def m_LAW_k22_4 : MS := mFor (iR1 (aE (rV (vB dMax2 (vCons (vC (.int 1)) (vCons (vB dMin2 (vCons (vB dLen (vCons (vVar 0) vNil)) (vCons (vC (.int 8)) vNil))) vNil)))) aNil)) (gN 1) m_LAW_k22_3
def m_LAW_k22 : MS := (mSeq m_LAW_k22_4 (mRet (rV (vC (.bl true)))))
def f_LAW_k22 : Fn := defFn 9 [false] m_LAW_k22
end PM
namespace PM
open PySem L2 PyProof.Rows DL
def m_law_on_1 : ME := rLc [5] (iE (rOp dIx (rFz 1) (rV (vC (.int 0))))) (gN 5) (rV (vOp dGt (vVar 5) (vVar 3))) (rFz 5)
def m_law_on : MS := (mSeq (mAsg (rOp dIx (rCallB (f_opens) [] (aBw 1 aNil)) (rFz 2)) (gN 3)) (mSeq (mAsg m_law_on_1 (gN 4)) (mSeq (mAsg (rOp dPl (rV (vOp dAdd (vOp dSub (vOp dIx (vOp dIx (vVar 1) (vC (.int 0))) (vUn dNeg (vC (.int 1)))) (vVar 3)) (vC (.int 1)))) (rCall (f_law_leaf) [] (aIo 0 (aE (rV (vC (.int 5))) aNil)))) (gN 6)) (mRet (rTup (aE (rFz 2) (aE (rIf (rOr (rOpNE dEqX 4 (rLst aNil)) (rOpEV dEqX (rCall (f_law_leaf) [] (aIo 0 (aE (rV (vC (.int 2))) aNil))) (vC (.int 0)))) (rFz 6) (rV (vOp dSub (vOp dIx (vVar 4) (vC (.int 0))) (vVar 3)))) aNil)))))))
def f_law_on : Fn := defFn 7 [true, false, false] m_law_on
def m_law_passed_1 : ME := rLc [3] (iE (rOp dIx (rFz 0) (rV (vC (.int 0))))) (gN 3) (rV (vChain dLt dLt (vOp dIx (vVar 2) (vC (.int 0))) (vVar 3) (vOp dIx (vVar 2) (vC (.int 1))))) (rFz 3)
def m_law_passed : MS := (mSeq (mAsg (rCallB (f_goes) [] (aBw 0 (aBw 1 aNil))) (gN 2)) (mRet (rB dLen (aE m_law_passed_1 aNil))))
def f_law_passed : Fn := defFn 4 [false, false] m_law_passed
def m_most_passings_1 : ME := rLc [3] (iE (rFz 2)) (gN 3) rYes (rV (vOp dSub (vOp dSub (vB dLen (vCons (vVar 1) vNil)) (vC (.int 1))) (vVar 3)))
def m_most_passings : MS := (mSeq (mDo (rCallB (f_need_stand) [] (aBw 0 aNil))) (mSeq (mAsg (rMv 0) (gT 2 (gsCons (gN 1) (gsCons (gN 2) gsNil)))) (mRet (rB dSum (aE m_most_passings_1 aNil)))))
def f_most_passings : Fn := defFn 4 [false] m_most_passings
def m_LAW_k11_1 : MS := (mSeq (mAsg (rCallB (f_law_going) [] (aIo 2 (aBw 4 aNil))) (gN 7)) (mSeq (mAsg (rTup (aE (rV (vOp dIx (vVar 7) (vC (.int 0)))) (aE (rV (vB dMin2 (vCons (vOp dIx (vVar 7) (vC (.int 1))) (vCons (vOp dPow (vC (.int 10)) (vC (.int 29))) vNil)))) aNil))) (gN 7)) (mSeq (mAsg (rCallB (f_law_passed) [] (aBw 4 (aBw 7 aNil))) (gN 8)) (mSeq (mAsg (rCallB (f_most_passings) [] (aBw 4 aNil)) (gN 9)) (mSeq (mAsg (rCallB (f_behind) [] (aBw 4 (aBw 7 aNil))) (gN 4)) (mIf (rOr (rOpEV dNeX (rCallB (f_most_passings) [] (aBw 4 aNil)) (vOp dSub (vVar 9) (vVar 8))) (rV (vOp dLt (vOp dSub (vVar 9) (vVar 8)) (vC (.int 0))))) (mRet (rV (vC (.bl false)))) mNx))))))
def m_LAW_k11_2 : MS := mFor (iR1 (aE (rCall (f_law_leaf) [] (aIo 2 (aE (rV (vC (.int 17))) aNil))) aNil)) (gN 6) m_LAW_k11_1
def m_LAW_k11_3 : ME := rLc [13, 14] (iEn (aE (rOp dIx (rFz 4) (rV (vC (.int 1)))) aNil)) (gT 2 (gsCons (gN 13) (gsCons (gN 14) gsNil))) (rV (vOp dLt (vVar 14) (vOp dSub (vVar 5) (vC (.int 1))))) (rFz 13)
def m_LAW_k11_4 : MS := (mSeq (mAsg (rCall (f_law_leaf) [] (aIo 2 (aE (rV (vB dLen (vCons (vOp dIx (vVar 4) (vC (.int 1))) vNil))) aNil))) (gN 11)) (mSeq (mAsg m_LAW_k11_3 (gN 12)) (mIf (rOpNE dNeX 12 (rLst aNil)) (mSeq (mAsg (rCallB (f_law_on) [] (aIo 2 (aBw 4 (aE (rV (vOp dIx (vVar 12) (vOp dMod (vVar 11) (vB dLen (vCons (vVar 12) vNil))))) aNil)))) (gN 7)) (mSeq (mAsg (rOpNE dPl 10 (rCallB (f_law_passed) [] (aBw 4 (aBw 7 aNil)))) (gN 10)) (mAsg (rCallB (f_behind) [] (aBw 4 (aBw 7 aNil))) (gN 4)))) mNx)))
def m_LAW_k11_5 : MS := mFor (iR1 (aE (rV (vC (.int 160))) aNil)) (gN 6) m_LAW_k11_4
def m_LAW_k11_6 : MS := (mSeq (mAsg (rCall (f_law_lay) [] (aIo 2 (aE (rV (vC (.int 12))) aNil))) (gN 4)) (mSeq (mAsg (rV (vB dLen (vCons (vOp dIx (vVar 4) (vC (.int 0))) vNil))) (gN 5)) (mSeq (mIf (rOpEV dNeX (rCall (f_most_passings) [] (aE (rCall (f_fresh) [] (aE (rOp dIx (rFz 4) (rV (vC (.int 0)))) aNil)) aNil)) (vOp dDiv (vOp dMul (vVar 5) (vOp dSub (vVar 5) (vC (.int 1)))) (vC (.int 2)))) (mRet (rV (vC (.bl false)))) mNx) (mSeq m_LAW_k11_2 (mSeq (mAsg (rCallB (f_most_passings) [] (aBw 4 aNil)) (gN 9)) (mSeq (mAsg (rV (vC (.int 0))) (gN 10)) (mSeq m_LAW_k11_5 (mIf (rOr (rV (vOp dNeX (vVar 10) (vVar 9))) (rOr (rOpEV dNeX (rCallB (f_most_passings) [] (aBw 4 aNil)) (vC (.int 0))) (rOpEV dNeX (rCallB (f_law_passed) [] (aBw 4 (aE (rTup (aE (rV (vC (.int 0))) (aE (rV (vOp dPow (vC (.int 10)) (vC (.int 30)))) aNil))) aNil))) (vC (.int 0))))) (mRet (rV (vC (.bl false)))) mNx))))))))
def m_LAW_k11_7 : MS := mFor (iR1 (aE (rV (vC (.int 3))) aNil)) (gN 3) m_LAW_k11_6
def m_LAW_k11_8 : MS := (mSeq (mAsg (rCallB (f_law_ream) [] (aBw 0 (aBw 1 aNil))) (gN 2)) m_LAW_k11_7)
def m_LAW_k11_9 : MS := mFor (iR1 (aE (rV (vB dMax2 (vCons (vC (.int 1)) (vCons (vB dMin2 (vCons (vC (.int 8)) (vCons (vB dLen (vCons (vVar 0) vNil)) vNil))) vNil)))) aNil)) (gN 1) m_LAW_k11_8
def m_LAW_k11 : MS := (mSeq m_LAW_k11_9 (mRet (rV (vC (.bl true)))))
def f_LAW_k11 : Fn := defFn 15 [false] m_LAW_k11
end PM
namespace PM
open PySem L2 PyProof.Rows DL
def m_law_history_v2_1 : MS := (mSeq (mAsg (rLst (aE (rIxN 3 (rCall (f_law_snip) [] (aIo 0 (aE (rV (vB dLen (vCons (vVar 3) vNil))) aNil)))) (aE (rIxN 3 (rCall (f_law_snip) [] (aIo 0 (aE (rV (vB dLen (vCons (vVar 3) vNil))) aNil)))) aNil))) (gN 7)) (mSeq (mAsg (rB dMax2 (aE (rV (vC (.int 1))) (aE (rOpEV dSub (rOp dPl (rV (vB dAbs (vCons (vOp dSub (vOp dIx (vVar 7) (vC (.int 0))) (vOp dIx (vVar 7) (vC (.int 1)))) vNil))) (rCall (f_law_snip) [] (aIo 0 (aE (rV (vC (.int 3))) aNil)))) (vC (.int 1))) aNil))) (gN 8)) (mSeq (mAsg (rLst (aE (rOp dPl (rV (vC (.int 1))) (rCall (f_law_snip) [] (aIo 0 (aE (rV (vC (.int 4))) aNil)))) (aE (rV (vB dMin2 (vCons (vOp dPow (vC (.int 10)) (vC (.int 31))) (vCons (vVar 8) vNil)))) aNil))) (gN 9)) (mSeq (mDo (rMtN uApp 9 (aE (rOp dPl (rV (vC (.int 1))) (rCall (f_law_snip) [] (aIo 0 (aE (rOp dIx (rLst (aE (rV (vC (.int 40))) (aE (rV (vOp dPow (vC (.int 10)) (vC (.int 31)))) aNil))) (rCall (f_law_snip) [] (aIo 0 (aE (rV (vC (.int 2))) aNil)))) aNil)))) aNil))) (mDo (rMtN uApp 5 (aE (rTup (aE (rCall (f_law_snip) [] (aIo 0 (aE (rV (vB dLen (vCons (vVar 4) vNil))) aNil))) (aE (rIxN 9 (rCall (f_law_snip) [] (aIo 0 (aE (rV (vC (.int 3))) aNil)))) aNil))) aNil)))))))
def m_law_history_v2_2 : MS := mFor (iR1 (aE (rCall (f_law_snip) [] (aIo 0 (aE (rV (vOp dAdd (vVar 2) (vC (.int 1)))) aNil))) aNil)) (gN 6) m_law_history_v2_1
def m_law_history_v2 : MS := (mSeq (mAsg (rMv 1) (gT 2 (gsCons (gN 3) (gsCons (gN 4) gsNil)))) (mSeq (mAsg (rLst aNil) (gN 5)) (mSeq m_law_history_v2_2 (mRet (rMv 5)))))
def f_law_history_v2 : Fn := defFn 10 [true, false, false] m_law_history_v2
def m_law_far_right_1 : MS := (mSeq (mAsg (rV (vOp dAdd (vOp dDiv (vOp dSub (vOp dIx (vOp dIx (vVar 2) (vC (.int 0))) (vUn dNeg (vC (.int 1)))) (vOp dIx (vOp dIx (vVar 2) (vC (.int 0))) (vOp dIx (vOp dIx (vVar 2) (vC (.int 1))) (vVar 4)))) (vOp dPow (vC (.int 10)) (vC (.int 31)))) (vC (.int 1)))) (gN 5)) (mSeq (mAsg (rOpEV dTm (rLst (aE (rTup (aE (rFz 4) (aE (rV (vOp dPow (vC (.int 10)) (vC (.int 31)))) aNil))) aNil)) (vVar 5)) (gN 6)) (mSeq (mAsg (rOpNE dPl 3 (rB dLen (aE (rCallB (f_passings) [] (aBw 2 (aBw 6 aNil))) aNil))) (gN 3)) (mAsg (rCallB (f_behind_all) [] (aBw 2 (aBw 6 aNil))) (gN 2)))))
def m_law_far_right_2 : MS := mFor (iR1 (aE (rV (vB dLen (vCons (vOp dIx (vVar 1) (vC (.int 1))) vNil))) aNil)) (gN 4) m_law_far_right_1
def m_law_far_right : MS := (mSeq (mPar [2, 3] (aE (rFz 1) (aE (rV (vC (.int 0))) aNil))) (mSeq m_law_far_right_2 (mSeq (mIf (rOr (rOpNE dNeX 3 (rCallB (f_most_passings) [] (aBw 1 aNil))) (rOpEV dNeX (rCallB (f_most_passings) [] (aBw 2 aNil)) (vC (.int 0)))) (mRet (rV (vC (.bl false)))) mNx) (mRet (rOp dEqX (rCallB (f_passings) [] (aBw 2 (aE (rCallB (f_law_history_v2) [] (aIo 0 (aBw 2 (aE (rV (vC (.int 30))) aNil)))) aNil))) (rLst aNil))))))
def f_law_far_right : Fn := defFn 7 [true, false] m_law_far_right
def m_law_grown_1 : ME := rLc [2, 3] (iZ (aE (rOp dIx (rFz 0) (rV (vC (.int 1)))) (aE (rOp dIx (rFz 1) (rV (vC (.int 1)))) aNil))) (gT 2 (gsCons (gN 2) (gsCons (gN 3) gsNil))) (rV (vOp dGt (vVar 2) (vVar 3))) (rV (vC (.int 1)))
def m_law_grown : MS := (mSeq (mIf (rOp dNeX (rLend [] m_law_grown_1) (rLst aNil)) (mRet (rV (vC .non))) mNx) (mRet (rV (vOp dSub (vB dSum (vCons (vOp dIx (vVar 1) (vC (.int 1))) vNil)) (vB dSum (vCons (vOp dIx (vVar 0) (vC (.int 1))) vNil))))))
def f_law_grown : Fn := defFn 4 [false, false] m_law_grown
def m_law_is_even_1 : ME := rLc [4] (iE (rSlV (vVar 0) (oV (vOp dAdd (vVar 2) (vC (.int 1)))) oNo)) (gN 4) (rV (vOp dLt (vVar 4) (vVar 3))) (rFz 4)
def m_law_is_even_2 : MS := (mAsg (rOpNE dPl 1 (rB dLen (aE m_law_is_even_1 aNil))) (gN 1))
def m_law_is_even_3 : MS := mFor (iEn (aE (rFz 0) aNil)) (gT 2 (gsCons (gN 2) (gsCons (gN 3) gsNil))) m_law_is_even_2
def m_law_is_even : MS := (mSeq (mAsg (rV (vC (.int 0))) (gN 1)) (mSeq m_law_is_even_3 (mRet (rV (vOp dEqX (vOp dMod (vVar 1) (vC (.int 2))) (vC (.int 0)))))))
def f_law_is_even : Fn := defFn 5 [false] m_law_is_even
def m_law_part_right : MS := (mSeq (mPar [2, 3] (aE (rCallB (f_behind_all) [] (aBw 0 (aBw 1 aNil))) (aE (rCallB (f_passings) [] (aBw 0 (aBw 1 aNil))) aNil))) (mSeq (mIf (rOr (rOpEV dNeX (rCallB (f_law_grown) [] (aBw 0 (aBw 2 aNil))) (vB dLen (vCons (vVar 3) vNil))) (rOp dGt (rV (vB dLen (vCons (vVar 3) vNil))) (rCallB (f_most_passings) [] (aBw 0 aNil)))) (mRet (rV (vC (.bl false)))) mNx) (mSeq (mIf (rOp dNeX (rCallB (f_most_passings) [] (aBw 2 aNil)) (rOpEV dSub (rCallB (f_most_passings) [] (aBw 0 aNil)) (vB dLen (vCons (vVar 3) vNil)))) (mRet (rV (vC (.bl false)))) mNx) (mRet (rOpEV dEqX (rCall (f_law_is_even) [] (aE (rCallB (f_order_behind) [] (aBw 0 (aBw 1 aNil))) aNil)) (vOp dEqX (vOp dMod (vB dLen (vCons (vVar 3) vNil)) (vC (.int 2))) (vC (.int 0))))))))
def f_law_part_right : Fn := defFn 4 [false, false] m_law_part_right
def m_LAW_k27_1 : ME := rLc [8, 9] (iE (rCallB (f_passings) [] (aBw 5 (aBw 6 aNil)))) (gT 2 (gsCons (gN 8) (gsCons (gN 9) gsNil))) rYes (rTup (aE (rV (vOp dAdd (vVar 8) (vB dLen (vCons (vVar 4) vNil)))) (aE (rFz 9) aNil)))
def m_LAW_k27_2 : MS := (mSeq (mAsg (rCallB (f_law_ribbon) [] (aBw 0 (aBw 1 aNil))) (gN 2)) (mSeq (mAsg (rCall (f_law_stand) [] (aIo 2 (aE (rV (vC (.int 12))) aNil))) (gN 3)) (mSeq (mAsg (rCallB (f_law_history_v2) [] (aIo 2 (aBw 3 (aE (rV (vC (.int 60))) aNil)))) (gN 4)) (mSeq (mAsg (rCallB (f_behind_all) [] (aBw 3 (aBw 4 aNil))) (gN 5)) (mSeq (mAsg (rCallB (f_law_history_v2) [] (aIo 2 (aBw 5 (aE (rV (vC (.int 20))) aNil)))) (gN 6)) (mSeq (mIf (rOr (rNot (rCallB (f_law_part_right) [] (aBw 3 (aBw 4 aNil)))) (rNot (rCallB (f_law_part_right) [] (aBw 5 (aBw 6 aNil))))) (mRet (rV (vC (.bl false)))) mNx) (mSeq (mAsg m_LAW_k27_1 (gN 7)) (mSeq (mIf (rOp dNeX (rCallB (f_passings) [] (aBw 3 (aE (rOpV dPl (vVar 4) (vVar 6)) aNil))) (rOpEV dPl (rCallB (f_passings) [] (aBw 3 (aBw 4 aNil))) (vVar 7))) (mRet (rV (vC (.bl false)))) mNx) (mIf (rNot (rCallB (f_law_far_right) [] (aIo 2 (aBw 5 aNil)))) (mRet (rV (vC (.bl false)))) mNx)))))))))
def m_LAW_k27_3 : MS := mFor (iR1 (aE (rV (vB dMax2 (vCons (vC (.int 1)) (vCons (vB dMin2 (vCons (vB dLen (vCons (vVar 0) vNil)) (vCons (vC (.int 6)) vNil))) vNil)))) aNil)) (gN 1) m_LAW_k27_2
def m_LAW_k27 : MS := (mSeq m_LAW_k27_3 (mRet (rV (vC (.bl true)))))
def f_LAW_k27 : Fn := defFn 10 [false] m_LAW_k27
end PM
namespace PM
open PySem L2 PyProof.Rows DL
def m_law_gaps_1 : MS := (mSeq (mIf (rOr (rV (vOp dLt (vVar 4) (vVar 3))) (rV (vOp dLe (vVar 5) (vVar 4)))) (mRet (rV (vC .non))) mNx) (mSeq (mIf (rV (vOp dGt (vVar 4) (vVar 3))) (mDo (rMtN uApp 2 (aE (rTup (aE (rFz 3) (aE (rFz 4) aNil))) aNil))) mNx) (mAsg (rFz 5) (gN 3))))
def m_law_gaps_2 : MS := mFor (iE (rFz 1)) (gT 2 (gsCons (gN 4) (gsCons (gN 5) gsNil))) m_law_gaps_1
def m_law_gaps : MS := (mSeq (mAsg (rLst aNil) (gN 2)) (mSeq (mAsg (rFz 0) (gN 3)) (mSeq m_law_gaps_2 (mRet (rMv 2)))))
def f_law_gaps : Fn := defFn 6 [false, false] m_law_gaps
def m_went_over_1 : ME := rLc [3, 4] (iZ (aE (rFz 0) (aE (rFz 1) aNil))) (gT 2 (gsCons (gN 3) (gsCons (gN 4) gsNil))) rYes (rV (vOp dLe (vVar 3) (vVar 4)))
def m_went_over_2 : ME := rLc [5] (iE (rFz 0)) (gN 5) (rV (vOp dLe (vVar 5) (vVar 2))) (rFz 5)
def m_went_over_3 : ME := rLc [5] (iE (rFz 1)) (gN 5) (rV (vOp dLe (vVar 5) (vVar 2))) (rFz 5)
def m_went_over : MS := (mSeq (mDo (rCallB (f_need_marks) [] (aBw 0 aNil))) (mSeq (mDo (rCallB (f_need_marks) [] (aBw 1 aNil))) (mSeq (mIf (rOr (rV (vOp dNeX (vB dLen (vCons (vVar 0) vNil)) (vB dLen (vCons (vVar 1) vNil)))) (rNot (rB dAll (aE (rLend [] m_went_over_1) aNil)))) (mRaise "NoLater") mNx) (mSeq (mIf (rNot (rCallB (f_is_page) [] (aBw 2 aNil))) (mRaise "NoPage") mNx) (mRet (rOp dSub (rB dLen (aE m_went_over_2 aNil)) (rB dLen (aE m_went_over_3 aNil))))))))
def f_went_over : Fn := defFn 6 [false, false, false] m_went_over
def m_law_over_right_1 : ME := rLc [5, 6] (iE (rFz 3)) (gT 2 (gsCons (gN 5) (gsCons (gN 6) gsNil))) rYes (rFz 5)
def m_law_over_right_2 : ME := rLc [5, 6] (iE (rFz 3)) (gT 2 (gsCons (gN 5) (gsCons (gN 6) gsNil))) rYes (rFz 6)
def m_law_over_right_3 : ME := rLc [5, 6] (iE (rFz 9)) (gT 2 (gsCons (gN 5) (gsCons (gN 6) gsNil))) (rV (vChain dLe dLt (vVar 5) (vVar 7) (vVar 6))) (rV (vC (.int 1)))
def m_law_over_right_4 : ME := rLc [9] (iE (rFz 2)) (gN 9) rYes (rB dLen (aE m_law_over_right_3 aNil))
def m_law_over_right_5 : MS := (mSeq (mAsg m_law_over_right_4 (gN 8)) (mIf (rOr (rV (vOp dGt (vB dMaxL (vCons (vVar 8) vNil)) (vC (.int 1)))) (rOp dNeX (rV (vB dSum (vCons (vVar 8) vNil))) (rCallB (f_went_over) [] (aE (rOp dIx (rFz 0) (rV (vC (.int 0)))) (aE (rOp dIx (rFz 1) (rV (vC (.int 0)))) (aBw 7 aNil)))))) (mRet (rV (vC (.bl false)))) mNx))
def m_law_over_right_6 : MS := mFor (iE (rSlV (vVar 4) oNo (oV (vC (.int 40))))) (gN 7) m_law_over_right_5
def m_law_over_right : MS := (mSeq (mAsg (rB dSum (aE (rFz 2) (aE (rLst aNil) aNil))) (gN 3)) (mSeq (mAsg (rMkE dSSet (rOp dPl m_law_over_right_1 m_law_over_right_2)) (gN 4)) (mSeq m_law_over_right_6 (mRet (rV (vC (.bl true)))))))
def f_law_over_right : Fn := defFn 10 [false, false, false] m_law_over_right
def m_law_right_1 : ME := rLc [4, 5] (iZ (aE (rT (rCallB (f_opens) [] (aBw 0 aNil))) (aE (rFz 2) aNil))) (gT 2 (gsCons (gN 4) (gsCons (gN 5) gsNil))) rYes (rCallB (f_law_gaps) [] (aBw 4 (aBw 5 aNil)))
def m_law_right_2 : ME := rLc [7, 8] (iE (rFz 5)) (gT 2 (gsCons (gN 7) (gsCons (gN 8) gsNil))) rYes (rV (vOp dSub (vVar 8) (vVar 7)))
def m_law_right_3 : ME := rLc [5] (iE (rFz 2)) (gN 5) rYes (rB dSum (aE m_law_right_2 aNil))
def m_law_right : MS := (mSeq (mAsg (rCallB (f_behind_all) [] (aBw 0 (aBw 1 aNil))) (gN 3)) (mSeq (mIf (rOp dNeX (rCallB (f_skipped) [] (aBw 0 (aBw 1 aNil))) (rLend [] m_law_right_1)) (mRet (rV (vC (.bl false)))) mNx) (mSeq (mAsg (rB dSum (aE (rLend [] m_law_right_3) aNil)) (gN 6)) (mRet (rAnd (rV (vOp dEqX (vVar 6) (vOp dSub (vB dSum (vCons (vOp dIx (vVar 3) (vC (.int 0))) vNil)) (vB dSum (vCons (vOp dIx (vVar 0) (vC (.int 0))) vNil))))) (rCallB (f_law_over_right) [] (aBw 0 (aBw 3 (aBw 2 aNil)))))))))
def f_law_right : Fn := defFn 9 [false, false, false] m_law_right
def m_LAW_k26_1 : ME := rLc [9, 10] (iZ (aE (rFz 5) (aE (rFz 8) aNil))) (gT 2 (gsCons (gN 9) (gsCons (gN 10) gsNil))) rYes (rOpV dPl (vVar 9) (vVar 10))
def m_LAW_k26_2 : MS := (mSeq (mAsg (rCallB (f_law_ribbon) [] (aBw 0 (aBw 1 aNil))) (gN 2)) (mSeq (mAsg (rCall (f_law_stand) [] (aIo 2 (aE (rV (vC (.int 12))) aNil))) (gN 3)) (mSeq (mAsg (rCallB (f_law_history_v2) [] (aIo 2 (aBw 3 (aE (rV (vC (.int 60))) aNil)))) (gN 4)) (mSeq (mAsg (rCallB (f_diaries_of) [] (aBw 3 (aBw 4 aNil))) (gN 5)) (mSeq (mIf (rNot (rCallB (f_law_right) [] (aBw 3 (aBw 4 (aBw 5 aNil))))) (mRet (rV (vC (.bl false)))) mNx) (mSeq (mAsg (rCallB (f_behind_all) [] (aBw 3 (aBw 4 aNil))) (gN 6)) (mSeq (mAsg (rCallB (f_law_history_v2) [] (aIo 2 (aBw 6 (aE (rV (vC (.int 20))) aNil)))) (gN 7)) (mSeq (mAsg (rCallB (f_diaries_of) [] (aBw 6 (aBw 7 aNil))) (gN 8)) (mSeq (mIf (rOp dNeX (rCallB (f_diaries_of) [] (aBw 3 (aE (rOpV dPl (vVar 4) (vVar 7)) aNil))) m_LAW_k26_1) (mRet (rV (vC (.bl false)))) mNx) (mIf (rOr (rOp dNeX (rCallB (f_behind_all) [] (aBw 3 (aE (rOpV dPl (vVar 4) (vVar 7)) aNil))) (rCallB (f_behind_all) [] (aBw 6 (aBw 7 aNil)))) (rNot (rCallB (f_law_right) [] (aBw 6 (aBw 7 (aBw 8 aNil)))))) (mRet (rV (vC (.bl false)))) mNx))))))))))
def m_LAW_k26_3 : MS := mFor (iR1 (aE (rV (vB dMax2 (vCons (vC (.int 1)) (vCons (vB dMin2 (vCons (vB dLen (vCons (vVar 0) vNil)) (vCons (vC (.int 6)) vNil))) vNil)))) aNil)) (gN 1) m_LAW_k26_2
def m_LAW_k26 : MS := (mSeq m_LAW_k26_3 (mRet (rV (vC (.bl true)))))
def f_LAW_k26 : Fn := defFn 11 [false] m_LAW_k26
end PM
namespace PM
open PySem L2 PyProof.Rows DL
/-! ### how many lie ahead of a page -/
theorem pos_app (a b : List Int) (e : Int) : pos (a ++ b) e = pos a e + pos b e := by simp [pos]
theorem pos_one (t e : Int) : pos [t] e = if t < e then 1 else 0 := by
  unfold pos
  by_cases h : t < e <;> simp [h]
theorem pos_put (X : List Int) (t e : Int) : pos (put X t) e = pos X e + (if t < e then 1 else 0) := by
  rw [pos_perm (put_perm X t), pos_app, pos_one]
theorem pos_oth {ms : List Int} {c : Nat} (h : c < ms.length) (e : Int) : pos ms e = pos (oth ms c) e + (if ms.getD c 0 < e then 1 else 0) := by
  have : ms = ms.take c ++ ms[c] :: ms.drop (c + 1) := by rw [List.getElem_cons_drop, List.take_append_drop]
  have g : ms.getD c 0 = ms[c] := by simp [List.getD, h]
  rw [g]
  conv => lhs; rw [this]
  unfold oth
  rw [pos_app, pos_app, show ms[c] :: ms.drop (c + 1) = [ms[c]] ++ ms.drop (c + 1) from rfl, pos_app, pos_one]
  omega
/-- the goings over a page -/
def ovr (s : Sd) (hs : List (Nat × Int)) (n : Nat) (x : Int) : List (Int × Int) := (goings s hs n).filter fun g => decide (g.1 ≤ x) && decide (x < g.2)
section
variable {s : Sd} {hs : List (Nat × Int)} (h : St s.1 s.2) (hh : Hi s.2.length hs)
include h hh
theorem ovr_pos (x : Int) : ∀ i, i ≤ hs.length → pos s.1 (x + 1) = pos (sta s hs i).1 (x + 1) + (ovr s hs i x).length
  | 0, _ => rfl
  | i + 1, hi => by
    have ih := ovr_pos x i (by omega)
    obtain ⟨h1, h2, h3⟩ := sta_ok h hh i (by omega)
    obtain ⟨r1, r2, r3⟩ := hh.at (i := i) (by omega)
    have hc := h1.at (r := (xat hs i).1) (by rw [h3]; exact r1)
    have e1 := pos_oth hc (x + 1)
    have e2 := pos_put (oth (sta s hs i).1 ((sta s hs i).2.getD (xat hs i).1 0)) (toP (sta s hs i).1 (sta s hs i).2 (xat hs i).1 (xat hs i).2) (x + 1)
    have e3 : (sta s hs (i + 1)).1 = put (oth (sta s hs i).1 ((sta s hs i).2.getD (xat hs i).1 0)) (toP (sta s hs i).1 (sta s hs i).2 (xat hs i).1 (xat hs i).2) := rfl
    have ge := toP_ge (sta s hs i).1 (sta s hs i).2 (xat hs i).1 (xat hs i).2
    have e4 : (ovr s hs (i + 1) x).length = (ovr s hs i x).length + (if (goi s hs i).1 ≤ x ∧ x < (goi s hs i).2 then 1 else 0) := by
      unfold ovr
      rw [goings_succ, List.filter_append, List.length_append]
      congr 1
      by_cases z : (goi s hs i).1 ≤ x ∧ x < (goi s hs i).2
      · rw [if_pos z]; simp [z.1, z.2]
      · rw [if_neg z]
        have z2 : (decide ((goi s hs i).1 ≤ x) && decide (x < (goi s hs i).2)) = false := by
          rw [← Bool.not_eq_true, Bool.and_eq_true, decide_eq_true_eq, decide_eq_true_eq]
          exact z
        simp [z2]
    rw [e3, e2, e4, ih, e1]
    have g1 : (goi s hs i).1 = opg (sta s hs i).1 (sta s hs i).2 (xat hs i).1 := rfl
    have g2 : (goi s hs i).2 = toP (sta s hs i).1 (sta s hs i).2 (xat hs i).1 (xat hs i).2 := rfl
    rw [g1, g2]
    show _ + (if opg (sta s hs i).1 (sta s hs i).2 (xat hs i).1 < x + 1 then 1 else 0) + _ = _
    generalize opg (sta s hs i).1 (sta s hs i).2 (xat hs i).1 = o at *
    generalize toP (sta s hs i).1 (sta s hs i).2 (xat hs i).1 (xat hs i).2 = t at *
    by_cases a : o < x + 1
    · by_cases b : t < x + 1
      · rw [if_pos a, if_pos b, if_neg (by omega)]
        omega
      · rw [if_pos a, if_neg b, if_pos (by omega)]
        omega
    · rw [if_neg a, if_neg (show ¬ t < x + 1 by omega), if_neg (by omega)]
      omega
omit h hh in
theorem pos_dom {a b : List Int} (ha : a.Pairwise (· < ·)) (hb : b.Pairwise (· < ·)) (hl : a.length = b.length) (hp : ∀ e, pos b e ≤ pos a e) (j : Nat) (hj : j < a.length) : a[j] ≤ b[j]'(by omega) := by
  have h1 := (pos_iff hb (e := b[j]'(by omega) + 1) (j := j) (by omega)).mp (by omega)
  have h2 := hp (b[j]'(by omega) + 1)
  have h3 := (pos_iff ha (e := b[j]'(by omega) + 1) (j := j) hj).mpr (by omega)
  omega
theorem sta_dom {i : Nat} (hi : i ≤ hs.length) (j : Nat) (hj : j < s.1.length) : s.1[j] ≤ (sta s hs i).1[j]'(by rw [(sta_ok h hh i hi).2.1]; exact hj) := by
  obtain ⟨h1, h2, h3⟩ := sta_ok h hh i hi
  refine pos_dom h.m.up h1.m.up h2.symm (fun e => ?_) j hj
  have := ovr_pos h hh (e - 1) i hi
  rw [Int.sub_add_cancel] at this
  omega
end
theorem up_lst {ms : List Int} (h : ms.Pairwise (· < ·)) (ne : ms ≠ []) : ∀ x ∈ ms, x ≤ ms.getLast ne := by
  intro x hx
  obtain ⟨j, hj, rfl⟩ := List.mem_iff_getElem.mp hx
  rw [List.getLast_eq_getElem]
  rcases Nat.lt_or_ge j (ms.length - 1) with h1 | h1
  · exact Int.le_of_lt (List.pairwise_iff_getElem.mp h j (ms.length - 1) hj (by omega) h1)
  · have : j = ms.length - 1 := by omega
    subst this
    exact Int.le_refl _
/-! ### the program's own telling -/
theorem fl_le (ms : List Int) (x : Int) : (ms.filter fun i => decide (i ≤ x)).length = pos ms (x + 1) := by
  unfold pos
  congr 1
  apply List.filter_congr
  intro i _
  by_cases z : i ≤ x
  · have : i < x + 1 := by omega
    simp [z, this]
  · have : ¬ i < x + 1 := by omega
    simp [z, this]
theorem wo_1 (a b : List Int) (hl : a.length ≤ 1000) (v2 v3 v4 v5 : Option D) : m_went_over_1 [some (il false a), some (il false b), v2, none, none, v5] = .ok (.nd .lst true ((List.zipWith (fun x y => decide (x ≤ y)) a b).map .bl)) [some (il false a), some (il false b), v2, none, none, v5] := by
  have hz : iZ (aE (rFz 0) (aE (rFz 1) aNil)) [some (il false a), some (il false b), v2, none, none, v5] = some (List.zipWith (fun x y => D.nd .tup false [x, y]) (a.map .int) (b.map .int), [some (il false a), some (il false b), v2, none, none, v5]) := by
    simp -implicitDefEqProofs [-iZV_l]
    rw [iZV_l, if_pos (by simp)]
    simp
  have := rLc_map (own := [3, 4]) (f := iZ (aE (rFz 0) (aE (rFz 1) aNil))) (m := gT 2 (gsCons (gN 3) (gsCons (gN 4) gsNil))) (te := rV (vOp dLe (vVar 3) (vVar 4))) (fun d => match d with | .nd _ _ [.int a, .int b] => .bl (decide (a ≤ b)) | _ => .non) hz (by simp; omega) (fun d hd => by
      obtain ⟨i, hi⟩ := List.getElem?_of_mem hd
      rw [List.getElem?_zipWith, List.getElem?_map, List.getElem?_map] at hi
      cases q1 : a[i]? with
      | none => rw [q1] at hi; cases hi
      | some u =>
        cases q2 : b[i]? with
        | none => rw [q1, q2] at hi; cases hi
        | some v =>
          rw [q1, q2] at hi
          cases hi
          refine ⟨_, rfl, rfl, ?_⟩
          simp -implicitDefEqProofs [])
  unfold m_went_over_1
  rw [this]
  have e2 : ∀ a b : List Int, (List.zipWith (fun x y => D.nd .tup false [x, y]) (a.map D.int) (b.map D.int)).map (fun d => match d with | .nd _ _ [.int a, .int b] => D.bl (decide (a ≤ b)) | _ => .non) = (List.zipWith (fun a b => decide (a ≤ b)) a b).map .bl := by
    intro a
    induction a with
    | nil => intro b; rfl
    | cons x r ih =>
      intro b
      cases b with
      | nil => rfl
      | cons y s =>
        simp only [List.map_cons, List.zipWith_cons_cons, ih s]
  rw [e2]
  simp
theorem wo_2 (a : List Int) (hl : a.length ≤ 1000) (p : Int) (v1 v3 v4 v5 : Option D) : m_went_over_2 [some (il false a), v1, some (.int p), v3, v4, v5] = .ok (il true (a.filter fun i => decide (i ≤ p))) [some (il false a), v1, some (.int p), v3, v4, v5] := by
  have := comp_filter' (own := [5]) (f := iE (rFz 0)) (j := 5) (tt := rV (vOp dLe (vVar 5) (vVar 2))) (te := rFz 5) (ρ := [some (il false a), v1, some (.int p), v3, v4, v5]) (ρ1 := [some (il false a), v1, some (.int p), v3, v4, v5]) (xs := a) (fun i => decide (i ≤ p))
    (by simp -implicitDefEqProofs []) (by omega) (fun i hi => by
      refine ⟨?_, rfl, ?_⟩
      · simp -implicitDefEqProofs []
      · simp -implicitDefEqProofs [])
  unfold m_went_over_2
  rw [this]
  simp
theorem wo_3 (a : List Int) (hl : a.length ≤ 1000) (p : Int) (v0 v3 v4 v5 : Option D) : m_went_over_3 [v0, some (il false a), some (.int p), v3, v4, v5] = .ok (il true (a.filter fun i => decide (i ≤ p))) [v0, some (il false a), some (.int p), v3, v4, v5] := by
  have := comp_filter' (own := [5]) (f := iE (rFz 1)) (j := 5) (tt := rV (vOp dLe (vVar 5) (vVar 2))) (te := rFz 5) (ρ := [v0, some (il false a), some (.int p), v3, v4, v5]) (ρ1 := [v0, some (il false a), some (.int p), v3, v4, v5]) (xs := a) (fun i => decide (i ≤ p))
    (by simp -implicitDefEqProofs []) (by omega) (fun i hi => by
      refine ⟨?_, rfl, ?_⟩
      · simp -implicitDefEqProofs []
      · simp -implicitDefEqProofs [])
  unfold m_went_over_3
  rw [this]
  simp
/-- none behind its like -/
def dom (a b : List Int) : Bool := (List.zipWith (fun x y => decide (x ≤ y)) a b).all id
theorem wentOver {a b : List Int} (ha : Up a) (hb : Up b) {p : D} (hp : Q p) : f_went_over [il false a, il false b, p] =
    if a.length = b.length ∧ dom a b = true then (match p with | .int i => if 0 ≤ i then .ok (.int ((pos a (i + 1) : Int) - (pos b (i + 1) : Int))) [none, none, none] else .ex (xn "NoPage") [none, none, none] | _ => .ex (xn "NoPage") [none, none, none]) else .ex (xn "NoLater") [none, none, none] := by
  have e1 := needMarks ha false
  have e2 := needMarks hb false
  have la := ha.le
  have lb := hb.le
  have e3 := wo_1 a b (by omega) (some p) none none none
  have e4 : dAll [.nd .lst true ((List.zipWith (fun x y => decide (x ≤ y)) a b).map .bl)] = some (.bl (dom a b)) := by
    show (blsD _).map _ = _
    rw [bls_of]; rfl
  have e5 := page p hp.pl
  have hf := hp.frz
  have hn := hp.noObj
  have ho := hp.no
  have ob : okBs ((List.zipWith (fun x y => decide (x ≤ y)) a b).map D.bl) = true := okBs_all fun d hd => by
    obtain ⟨_, _, rfl⟩ := List.mem_map.mp hd
    rfl
  unfold f_went_over
  rw [defFn_ap]
  by_cases z1 : a.length = b.length
  · have c1 : (a.length : Int) = (b.length : Int) := by omega
    by_cases z2 : dom a b = true
    · rw [if_pos ⟨z1, z2⟩]
      rw [z2] at e4
      generalize (List.zipWith (fun x y => decide (x ≤ y)) a b).map D.bl = Z at *
      cases p with
      | int i =>
        have f1 := wo_2 a (by omega) i (some (il false b)) none none none
        have f2 := wo_3 b (by omega) i (some (il false a)) none none none
        have l1 := fl_le a i
        have l2 := fl_le b i
        generalize a.filter (fun i' => decide (i' ≤ i)) = FA at *
        generalize b.filter (fun i' => decide (i' ≤ i)) = FB at *
        by_cases z3 : 0 ≤ i
        · have : wh (.int i) 0 .non = true := by simp [wh, z3]
          rw [this] at e5
          simp -implicitDefEqProofs [m_went_over, e1, e2, e3, e4, e5, f1, f2, l1, l2, c1, z3, ob]
        · have : wh (.int i) 0 .non = false := by simp [wh, z3]
          rw [this] at e5
          simp -implicitDefEqProofs [m_went_over, e1, e2, e3, e4, e5, c1, z3, ob]
      | _ =>
        have e5 : f_is_page [_] = .ok (.bl false) [none] := e5
        simp -implicitDefEqProofs [m_went_over, e1, e2, e3, e4, e5, c1, hf, hn, ho, ob]
    · rw [if_neg (fun h => z2 h.2)]
      rw [Bool.not_eq_true] at z2
      rw [z2] at e4
      generalize (List.zipWith (fun x y => decide (x ≤ y)) a b).map D.bl = Z at *
      simp -implicitDefEqProofs [m_went_over, e1, e2, e3, e4, c1, hf, hn, ho, ob]
  · rw [if_neg (fun h => z1 h.1)]
    have c1 : ¬ (a.length : Int) = (b.length : Int) := by omega
    simp -implicitDefEqProofs [m_went_over, e1, e2, c1, hf, hn, ho]
theorem wentOverA {a b p : D} (ha : Q a) (hb : Q b) (hp : Q p) (z : isMarks a = false) : f_went_over [a, b, p] = .ex (xn "NoMarks") [none, none, none] := by
  have e1 := needMarksX ha z
  unfold f_went_over
  rw [defFn_ap]
  simp -implicitDefEqProofs [m_went_over, e1, ha.frz, ha.noObj, hb.frz, hb.noObj, hp.frz, hp.noObj]
theorem wentOverB {a : List Int} {b p : D} (ha : Up a) (hb : Q b) (hp : Q p) (z : isMarks b = false) : f_went_over [il false a, b, p] = .ex (xn "NoMarks") [none, none, none] := by
  have e1 := needMarks ha false
  have e2 := needMarksX hb z
  unfold f_went_over
  rw [defFn_ap]
  simp -implicitDefEqProofs [m_went_over, e1, e2, hb.frz, hb.noObj, hp.frz, hp.noObj]
theorem dom_iff {a b : List Int} (hl : a.length = b.length) : dom a b = true ↔ ∀ j (h : j < a.length), a[j] ≤ b[j]'(by omega) := by
  unfold dom
  rw [List.all_eq_true]
  constructor
  · intro h j hj
    have := h (decide (a[j] ≤ b[j]'(by omega))) (List.mem_iff_getElem.mpr ⟨j, by simp; omega, by simp⟩)
    simpa using this
  · intro h x hx
    obtain ⟨j, hj, rfl⟩ := List.mem_iff_getElem.mp hx
    simp at hj
    simpa using h j (by omega)
end PM
namespace PM
open PySem L2 PyProof.Rows DL
theorem bub_set : ∀ (xs : List (Int × Nat)) (x : Int × Nat) (c : Nat), c < xs.length → xs.set c x = bub (xs.eraseIdx c) x c
  | [], _, _, h => by simp at h
  | a :: xs, x, 0, _ => by simp [bub]
  | a :: xs, x, c + 1, h => by
    have := bub_set xs x c (by simpa using h)
    unfold bub at this ⊢
    simp [this]
theorem row_len {s : Sd} {hs : List (Nat × Int)} (h : St s.1 s.2) (hh : Hi s.2.length hs) {i : Nat} (hi : i ≤ hs.length) : (row s hs i).length = s.1.length := by
  obtain ⟨h1, h2, h3⟩ := sta_ok h hh i hi
  unfold row
  rw [List.length_zip, h2, orS_len h hh i hi, Nat.min_self]
theorem row_next {s : Sd} {hs : List (Nat × Int)} (h : St s.1 s.2) (hh : Hi s.2.length hs) {i : Nat} (hi : i < hs.length) :
    row s hs (i + 1) = bub ((row s hs i).eraseIdx (ca s hs i)) ((goi s hs i).2, (orS s hs i).getD (ca s hs i) 0) (cb s hs i) := by
  obtain ⟨h1, h2, h3⟩ := sta_ok h hh i (by omega)
  obtain ⟨_, _, l3, l4⟩ := c_lt h hh hi
  have ol := orS_len h hh i (by omega)
  unfold row bub
  rw [zip_erase, ← zip_put _ _ _ _ _ (by rw [List.length_eraseIdx_of_lt (by omega), List.length_eraseIdx_of_lt (by omega)]; omega) (by rw [List.length_eraseIdx_of_lt (by omega)]; omega), oth_erase]
  rfl
theorem ex_turn {s : Sd} {hs : List (Nat × Int)} (h : St s.1 s.2) (hh : Hi s.2.length hs) (hl : hs.length ≤ 2000) {i : Nat} (hi : i < hs.length) (v0 v1 v5 v6 v11 : Option D) :
    ∃ w11, m_law_exchanged_3 [v0, v1, some (.nd .lst true (prL (goings s hs hs.length))), some (.nd .lst true (sdM s hs hs.length)), some (.nd .lst true (clL (row s hs i))), v5, v6, some (.nd .lst true (prL (pass s hs i))), some (.int (i : Int)), some (.int ((xat hs i).1 : Int)), some (.int (xat hs i).2), v11] =
      .nx [v0, v1, some (.nd .lst true (prL (goings s hs hs.length))), some (.nd .lst true (sdM s hs hs.length)), some (.nd .lst true (clL (row s hs (i + 1)))), v5, v6, some (.nd .lst true (prL (pass s hs (i + 1)))), some (.int (i : Int)), some (.int ((xat hs i).1 : Int)), some (.int (xat hs i).2), w11] := by
  obtain ⟨h1, h2, h3⟩ := sta_ok h hh i (by omega)
  obtain ⟨r1, r2, r3⟩ := hh.at hi
  have hr : (xat hs i).1 < (sta s hs i).2.length := by rw [h3]; exact r1
  obtain ⟨o, a1⟩ := sdM_at (s := s) (hs := hs) (n := hs.length) (i := i) (by omega)
  have a2 := goings_at (s := s) (hs := hs) (n := hs.length) (i := i) hi
  have b1 := ca_at h hh hi
  obtain ⟨_, _, l3, l4⟩ := c_lt h hh hi
  have rl := row_len h hh (i := i) (by omega)
  have ml := h.m.le
  have ol := orS_len h hh i (by omega)
  have hc : ca s hs i < (row s hs i).length := by omega
  have c1 : L2.atI (clL (row s hs i)) (ca s hs i : Int) = some (cl (row s hs i)[ca s hs i]) := by
    rw [atL (by simpa using hc)]; simp [clL]
  have col : (row s hs i)[ca s hs i].2 = (orS s hs i).getD (ca s hs i) 0 := by
    simp [row, show ca s hs i < (orS s hs i).length by omega]
  have ix : ixN (clL (row s hs i)).length (ca s hs i : Int) = some (ca s hs i) := ixN_nat (by simpa using hc)
  rw [clL_len] at ix
  have st : (clL (row s hs i)).set (ca s hs i) (.nd .tup false [.int (goi s hs i).2, .int ((row s hs i)[ca s hs i].2 : Int)]) = clL (bub ((row s hs i).eraseIdx (ca s hs i)) ((goi s hs i).2, (orS s hs i).getD (ca s hs i) 0) (ca s hs i)) := by
    rw [col]
    have e : (row s hs i).set (ca s hs i) ((goi s hs i).2, (orS s hs i).getD (ca s hs i) 0) = bub ((row s hs i).eraseIdx (ca s hs i)) ((goi s hs i).2, (orS s hs i).getD (ca s hs i) 0) (ca s hs i) := by
      exact bub_set _ _ _ hc
    rw [← e]
    unfold clL
    rw [List.map_set]
  have pg : ∀ j (hj : j < ((row s hs i).eraseIdx (ca s hs i)).length), (((row s hs i).eraseIdx (ca s hs i))[j].1 < (goi s hs i).2 ↔ j < cb s hs i) := by
    intro j hj
    have e : ((row s hs i).eraseIdx (ca s hs i)).map (·.1) = oth (sta s hs i).1 (ca s hs i) := by
      unfold row
      rw [zip_erase, oth_erase, List.map_fst_zip]
      have := oth_len (ms := (sta s hs i).1) (c := ca s hs i) (by omega)
      rw [List.length_eraseIdx_of_lt (by omega)]; omega
    have hj2 : j < (oth (sta s hs i).1 (ca s hs i)).length := by rw [← e]; simpa using hj
    have := pos_iff (oth_up (ca s hs i) h1.m.up) (e := (goi s hs i).2) hj2
    have e2 : (oth (sta s hs i).1 (ca s hs i))[j] = ((row s hs i).eraseIdx (ca s hs i))[j].1 := by
      have : (oth (sta s hs i).1 (ca s hs i))[j]? = some (((row s hs i).eraseIdx (ca s hs i))[j].1) := by
        rw [← e, List.getElem?_map, List.getElem?_eq_getElem hj]; rfl
      exact (List.getElem?_eq_some_iff.mp this).2
    rw [e2] at this
    exact this
  have cge : ca s hs i ≤ cb s hs i := by
    have k := h1.at hr
    have pm := oth_perm k
    rw [← opg_eq k] at pm
    have g := toP_ge (sta s hs i).1 (sta s hs i).2 (xat hs i).1 (xat hs i).2
    have hp := pos_at h1.m.up k
    rw [← opg_eq k, pos_perm pm, pos_cons, if_neg (by omega), Nat.zero_add] at hp
    have mono : ∀ (xs : List Int) (e f : Int), e ≤ f → pos xs e ≤ pos xs f := by
      intro xs e f
      induction xs with
      | nil => intro _; exact Nat.le_refl _
      | cons y ys ih =>
        intro hef
        have := ih hef
        rw [pos_cons, pos_cons]
        split <;> split <;> omega
    have := mono (oth (sta s hs i).1 ((sta s hs i).2.getD (xat hs i).1 0)) (opg (sta s hs i).1 (sta s hs i).2 (xat hs i).1) (toP (sta s hs i).1 (sta s hs i).2 (xat hs i).1 (xat hs i).2) (by omega)
    rw [hp] at this
    exact this
  have el : ((row s hs i).eraseIdx (ca s hs i)).length + 1 = s.1.length := by rw [List.length_eraseIdx_of_lt hc]; omega
  have pl := pass_len h hh i (by omega)
  have w := fun v0 v1 v2 v3 v5 v6 v9 v10 => ex_while v0 v1 v2 v3 v5 v6 v9 v10 i ((row s hs i).eraseIdx (ca s hs i)) ((goi s hs i).2, (orS s hs i).getD (ca s hs i) 0) (cb s hs i) (by omega) (by omega) pg (pass s hs i) (by omega) (cb s hs i - ca s hs i) (ca s hs i) 100 (by omega) (by omega) (ca s hs i) (Nat.le_refl _)
  rw [← row_next h hh hi, Nat.sub_self, List.range_zero, List.map_nil, List.append_nil] at w
  have ps : pass s hs i ++ (List.range (cb s hs i - ca s hs i)).map (fun y : Nat => ((i : Int), (ca s hs i : Int) + (y : Int))) = pass s hs (i + 1) := (pass_succ s hs i).symm
  rw [ps] at w
  refine ⟨some (.int (cb s hs i : Int)), ?_⟩
  generalize bub ((row s hs i).eraseIdx (ca s hs i)) ((goi s hs i).2, (orS s hs i).getD (ca s hs i) 0) (ca s hs i) = b0 at *
  generalize row s hs (i + 1) = r2 at *
  generalize (row s hs i)[ca s hs i] = q at *
  generalize row s hs i = r1 at *
  generalize pass s hs i = p1 at *
  generalize pass s hs (i + 1) = p2 at *
  generalize sdM s hs hs.length = M at *
  generalize goings s hs hs.length = G at *
  generalize sta s hs i = t1 at *
  generalize goi s hs i = g at *
  generalize ca s hs i = c at *
  generalize cb s hs i = d at *
  generalize xat hs i = x at *
  simp -implicitDefEqProofs [m_law_exchanged_3, a1, a2, b1, c1, ix, st, w]
theorem zip_snd {s : Sd} {hs : List (Nat × Int)} (h : St s.1 s.2) (hh : Hi s.2.length hs) {i : Nat} (hi : i ≤ hs.length) : (row s hs i).map (·.2) = orS s hs i := by
  obtain ⟨h1, h2, h3⟩ := sta_ok h hh i hi
  unfold row
  rw [List.map_snd_zip]
  rw [h2, orS_len h hh i hi]; exact Nat.le_refl _
theorem enu_il (xs : List Int) : enu 0 (xs.map D.int) = (List.range xs.length).map fun i : Nat => D.nd .tup false [.int (i : Int), .int (xs.getD i 0)] := by
  rw [enu_eq, List.length_map]
  apply List.map_congr_left
  intro i hi
  have hi := List.mem_range.mp hi
  simp [List.getD_eq_getElem?_getD, hi]
theorem exchanged {s : Sd} {hs : List (Nat × Int)} (h : St s.1 s.2) (hh : Hi s.2.length hs) (hl : hs.length ≤ 2000) :
    f_law_exchanged [sdd false s, .nd .lst false (rdL hs)] = .ok (.nd .tup false [.nd .lst true (prL (pass s hs hs.length)), il true (nI (orS s hs hs.length))]) [none, none] := by
  have e1 := through h hh hl
  have ml := h.m.le
  have r0 : row s hs 0 = (List.range s.1.length).map fun i : Nat => (s.1.getD i 0, i) := by
    apply List.ext_getElem
    · simp [row, orS, sta]
    · intro i h1 h2
      have : i < s.1.length := by simpa using h2
      simp [row, orS, sta, this]
  have c1 : ∀ v2 v3 v4 v5 v6 v7 v8 v9 v10 v11 : Option D, m_law_exchanged_1 [some (sdd false s), some (.nd .lst false (rdL hs)), v2, v3, v4, v5, v6, v7, v8, v9, v10, v11] = .ok (.nd .lst true (clL (row s hs 0))) [some (sdd false s), some (.nd .lst false (rdL hs)), v2, v3, v4, v5, v6, v7, v8, v9, v10, v11] := by
    intro v2 v3 v4 v5 v6 v7 v8 v9 v10 v11
    unfold m_law_exchanged_1
    rw [rLc_map (ρ1 := [some (sdd false s), some (.nd .lst false (rdL hs)), v2, v3, v4, v5, v6, v7, v8, v9, v10, v11]) (ds := enu 0 (s.1.map D.int)) (fun d => match d with | .nd _ _ [a, b] => .nd .tup false [b, a] | _ => .non) (by simp -implicitDefEqProofs []) (by rw [enu_len]; simp; omega) (fun d hd => by
      rw [enu_il] at hd
      obtain ⟨j, _, rfl⟩ := List.mem_map.mp hd
      exact ⟨_, rfl, rfl, by simp -implicitDefEqProofs []⟩)]
    rw [enu_il, List.map_map, r0]
    have e : ((List.range s.1.length).map ((fun d => match d with | .nd _ _ [a, b] => D.nd .tup false [b, a] | _ => .non) ∘ fun i : Nat => D.nd .tup false [.int (i : Int), .int (s.1.getD i 0)])) = clL ((List.range s.1.length).map fun i : Nat => (s.1.getD i 0, i)) := by
      unfold clL
      rw [List.map_map]
      rfl
    rw [e]
    rfl
  have c2 : ∀ v0 v1 v2 v3 v5 v6 v7 v8 v9 v10 v11 : Option D, m_law_exchanged_5 [v0, v1, v2, v3, some (.nd .lst true (clL (row s hs hs.length))), v5, v6, v7, v8, v9, v10, v11] = .ok (il true (nI (orS s hs hs.length))) [v0, v1, v2, v3, some (.nd .lst false (clL (row s hs hs.length))), v5, v6, v7, v8, v9, v10, v11] := by
    intro v0 v1 v2 v3 v5 v6 v7 v8 v9 v10 v11
    have rl := row_len h hh (Nat.le_refl hs.length)
    unfold m_law_exchanged_5
    rw [rLc_map (ρ1 := [v0, v1, v2, v3, some (.nd .lst false (clL (row s hs hs.length))), v5, v6, v7, v8, v9, v10, v11]) (ds := clL (row s hs hs.length)) (fun d => match d with | .nd _ _ [a, b] => b | _ => .non) (by simp -implicitDefEqProofs []) (by rw [clL_len]; omega) (fun d hd => by
      obtain ⟨j, _, rfl⟩ := List.mem_map.mp hd
      exact ⟨_, rfl, rfl, by simp -implicitDefEqProofs []⟩)]
    have e : (clL (row s hs hs.length)).map (fun d => match d with | .nd _ _ [a, b] => b | _ => .non) = (nI (orS s hs hs.length)).map D.int := by
      rw [← zip_snd h hh (Nat.le_refl hs.length)]
      unfold clL nI
      rw [List.map_map, List.map_map, List.map_map]
      rfl
    rw [e]
    rfl
  obtain ⟨I, hI⟩ : ∃ I : Nat → DL.Env → Prop, I = fun i ρ => ∃ v5 v6 v8 v9 v10 v11, ρ = [some (sdd false s), some (.nd .lst false (rdL hs)), some (.nd .lst true (prL (goings s hs hs.length))), some (.nd .lst true (sdM s hs hs.length)), some (.nd .lst true (clL (row s hs i))), v5, v6, some (.nd .lst true (prL (pass s hs i))), v8, v9, v10, v11] := ⟨_, rfl⟩
  obtain ⟨ρ', e, hL⟩ := loop_I (m := gT 2 (gsCons (gN 8) (gsCons (gT 2 (gsCons (gN 9) (gsCons (gN 10) gsNil))) gsNil))) (b := m_law_exchanged_3) I (enu 0 (rdL hs)) [some (sdd false s), some (.nd .lst false (rdL hs)), some (.nd .lst true (prL (goings s hs hs.length))), some (.nd .lst true (sdM s hs hs.length)), some (.nd .lst true (clL (row s hs 0))), none, none, some (.nd .lst true []), none, none, none, none] (by rw [hI]; exact ⟨_, _, _, _, _, _, rfl⟩) (by
    intro i d ρ hd hi
    rw [hI] at hi
    obtain ⟨v5, v6, v8, v9, v10, v11, rfl⟩ := hi
    obtain ⟨hi, rfl⟩ := enu_rd_at hd
    obtain ⟨w11, e⟩ := ex_turn h hh hl hi (some (sdd false s)) (some (.nd .lst false (rdL hs))) v5 v6 v11
    refine ⟨_, rfl, ?_⟩
    show Nx (m_law_exchanged_3 [some (sdd false s), some (.nd .lst false (rdL hs)), some (.nd .lst true (prL (goings s hs hs.length))), some (.nd .lst true (sdM s hs hs.length)), some (.nd .lst true (clL (row s hs i))), v5, v6, some (.nd .lst true (prL (pass s hs i))), some (.int (i : Int)), some (.int ((xat hs i).1 : Int)), some (.int (xat hs i).2), v11]) _
    rw [e, hI]
    exact ⟨_, _, _, _, _, _, rfl⟩)
  rw [hI, enu_len, rdL_len] at hL
  obtain ⟨v5, v6, v8, v9, v10, v11, rfl⟩ := hL
  unfold f_law_exchanged
  rw [defFn_ap]
  generalize row s hs 0 = r0 at *
  generalize row s hs hs.length = r1 at *
  generalize pass s hs hs.length = P1 at *
  generalize sdM s hs hs.length = M at *
  generalize goings s hs hs.length = G at *
  generalize orS s hs hs.length = O at *
  simp -implicitDefEqProofs [m_law_exchanged, m_law_exchanged_4, e1, c1, e, c2]
end PM
namespace PM
open PySem L2 PyProof.Rows DL
@[simp] theorem isi2_lt_b {ρ : DL.Env} {x : Bool} : isi2K .list .tuple ρ (some (.bl x)) = .ok (.bl false) ρ := rfl
@[simp] theorem isi2_lt_s {ρ : DL.Env} {x : Str} : isi2K .list .tuple ρ (some (.str x)) = .ok (.bl false) ρ := rfl
@[simp] theorem isi2_lt_n {ρ : DL.Env} : isi2K .list .tuple ρ (some .non) = .ok (.bl false) ρ := rfl
@[simp] theorem dEqX_n : dEqX .non .non = some (.bl true) := rfl
theorem iZV_t {ρ : DL.Env} {xs ys : List D} : iZV ρ (some [.nd .tup false xs, .nd .tup false ys]) = if (noOwns xs && noOwns ys) = true then some (List.zipWith (fun x y => .nd .tup false [x, y]) xs ys, ρ) else none := by
  show (if (sqK .tup && sqK .tup && (decide (Nd.tup = .tup) == decide (Nd.tup = .tup)) && noOwns xs && noOwns ys) = true then _ else _) = _
  rw [show (sqK .tup && sqK .tup && (decide (Nd.tup = .tup) == decide (Nd.tup = .tup)) && noOwns xs && noOwns ys) = (noOwns xs && noOwns ys) by simp]
theorem zip_self (xs : List D) : List.zipWith (fun x y => D.nd .tup false [x, y]) xs xs = xs.map fun x => D.nd .tup false [x, x] := by
  induction xs with
  | nil => rfl
  | cons x r ih => simp [ih]
theorem sqK_lt {kd : Nd} (hk : kd = .lst ∨ kd = .tup) : sqK kd = true := by rcases hk with rfl | rfl <;> rfl
theorem same1_comp (k : Nat) (kd kd' : Nd) (hk : kd = .lst ∨ kd = .tup) (xs ys : List D) (o o' : Bool) (h : frzs xs = frzs ys) (hl : xs.length ≤ 100000) (hx : noObjs xs = true)
    (ih : ∀ d ∈ frzs xs, f_law_same k [d, d] = .ok (.bl true) [none, none]) :
    ∃ x y z u, m_law_same_1 (f_law_same k) [some (.nd kd o xs), some (.nd kd o' ys), none, none] = .ok (.nd .lst true (List.replicate xs.length (.bl true))) [x, y, z, u] := by
  have hxf : noObjs (frzs xs) = true := by rw [noObjs_frzs]; exact hx
  have hy : noObjs ys = true := by rw [← noObjs_frzs, ← h, noObjs_frzs]; exact hx
  have hlf : (frzs xs).length = xs.length := by rw [frzs_map, List.length_map]
  have hno : noOwns (frzs xs) = true := frzs_no xs
  have hz : iZ (aE (rFz 0) (aE (rFz 1) aNil)) [some (.nd kd o xs), some (.nd kd o' ys), none, none] = some ((frzs xs).map fun x => D.nd .tup false [x, x], [some (.nd kd false (frzs xs)), some (.nd kd false (frzs xs)), none, none]) := by
    rcases hk with rfl | rfl
    · simp -implicitDefEqProofs [hx, hy, ← h, -iZV_l]
      rw [iZV_l, hno, zip_self]; rfl
    · simp -implicitDefEqProofs [hx, hy, ← h]
      rw [iZV_t, hno, zip_self]; rfl
  have := rLc_map (own := [2, 3]) (m := gT 2 (gsCons (gN 2) (gsCons (gN 3) gsNil))) (te := rCallB (f_law_same k) [] (aBw 2 (aBw 3 aNil))) (fun _ => .bl true) hz (by simp; omega) (fun d hd => by
    obtain ⟨x, hx2, rfl⟩ := List.mem_map.mp hd
    have e := ih x hx2
    have fx : frz x = x := by
      rw [frzs_map] at hx2
      obtain ⟨y, _, rfl⟩ := List.mem_map.mp hx2
      exact frz_frz y
    have nx : noObj x = true := by
      have : ∀ (l : List D), noObjs l = true → ∀ d ∈ l, noObj d = true := by
        intro l
        induction l with
        | nil => intro _ d hd; cases hd
        | cons a r ih2 =>
          intro hl d hd
          have hl : (noObj a && noObjs r) = true := hl
          rw [Bool.and_eq_true] at hl
          rcases List.mem_cons.mp hd with rfl | hd
          · exact hl.1
          · exact ih2 hl.2 d hd
      exact this _ hxf x hx2
    refine ⟨_, rfl, rfl, ?_⟩
    simp -implicitDefEqProofs [fx, nx, e])
  unfold m_law_same_1
  rw [this]
  have e : ((frzs xs).map fun x => D.nd .tup false [x, x]).map (fun _ => D.bl true) = List.replicate xs.length (.bl true) := by
    rw [List.map_map, ← hlf]
    exact List.map_const' ..
  rw [e]
  exact ⟨_, _, _, _, rfl⟩
theorem same1_ok : ∀ (k : Nat) (a b : D), Sm k a → frz a = frz b → f_law_same (k + 1) [a, b] = .ok (.bl true) [none, none]
  | k, .non, b, _, h => by
    cases b <;> simp at h
    show defFn 4 [false, false] (m_law_same (f_law_same k)) _ = _
    rw [defFn_ap]
    simp -implicitDefEqProofs [m_law_same, isD]
  | k, .bl x, b, _, h => by
    cases b <;> simp at h
    subst h
    show defFn 4 [false, false] (m_law_same (f_law_same k)) _ = _
    rw [defFn_ap]
    simp -implicitDefEqProofs [m_law_same, isD]
  | k, .int x, b, _, h => by
    cases b <;> simp at h
    subst h
    show defFn 4 [false, false] (m_law_same (f_law_same k)) _ = _
    rw [defFn_ap]
    simp -implicitDefEqProofs [m_law_same, isD]
  | k, .str x, b, _, h => by
    cases b <;> simp at h
    subst h
    show defFn 4 [false, false] (m_law_same (f_law_same k)) _ = _
    rw [defFn_ap]
    simp -implicitDefEqProofs [m_law_same, isD]
  | k + 1, .nd .lst o xs, b, hs, h => by
    obtain ⟨o', ys, rfl, h2⟩ := frz_nd_inv (show D.nd .lst false (frzs xs) = frz b from h)
    have ly : ys.length = xs.length := by
      have := congrArg List.length h2
      rw [frzs_map, frzs_map, List.length_map, List.length_map] at this
      omega
    obtain ⟨_, _, _, _, e⟩ := same1_comp (k + 1) .lst .lst (.inl rfl) xs ys o o' h2 hs.1 (noObjs_all fun d hd => Sm.noObj (hs.2 d hd)) (fun d hd => by
      rw [frzs_map] at hd
      obtain ⟨c, hc, rfl⟩ := List.mem_map.mp hd
      exact same1_ok k _ _ (Sm.frz.mpr (hs.2 c hc)) rfl)
    have ha := dAll_rep true xs.length
    show defFn 4 [false, false] (m_law_same (f_law_same (k + 1))) _ = _
    rw [defFn_ap]
    simp -implicitDefEqProofs [m_law_same, isD, ly, e, ha]
  | k + 1, .nd .tup o xs, b, hs, h => by
    obtain ⟨o', ys, rfl, h2⟩ := frz_nd_inv (show D.nd .tup false (frzs xs) = frz b from h)
    have ly : ys.length = xs.length := by
      have := congrArg List.length h2
      rw [frzs_map, frzs_map, List.length_map, List.length_map] at this
      omega
    obtain ⟨_, _, _, _, e⟩ := same1_comp (k + 1) .tup .tup (.inr rfl) xs ys o o' h2 hs.1 (noObjs_all fun d hd => Sm.noObj (hs.2 d hd)) (fun d hd => by
      rw [frzs_map] at hd
      obtain ⟨c, hc, rfl⟩ := List.mem_map.mp hd
      exact same1_ok k _ _ (Sm.frz.mpr (hs.2 c hc)) rfl)
    have ha := dAll_rep true xs.length
    show defFn 4 [false, false] (m_law_same (f_law_same (k + 1))) _ = _
    rw [defFn_ap]
    simp -implicitDefEqProofs [m_law_same, isD, ly, e, ha]
  | 0, .nd k _ _, _, h, _ => by cases k <;> exact h.elim
  | k + 1, .nd .fzl _ _, _, h, _ => h.elim
  | k + 1, .nd (.dct _) _ _, _, h, _ => h.elim
  | k + 1, .nd (.dtt _) _ _, _, h, _ => h.elim
  | k + 1, .nd (.obj _ _) _ _, _, h, _ => h.elim
  | k + 1, .nd (.exn _ _) _ _, _, h, _ => h.elim
theorem same14 {a b : D} (h : Sm 3 a) (e : frz a = frz b) : f_law_same 4 [a, b] = .ok (.bl true) [none, none] := same1_ok 3 a b h e
end PM
namespace PM
open PySem L2 PyProof.Rows DL
theorem Bd.abs' {B : Int} {ms : List Int} (h : Bd B ms) (u : Up ms) (hB : B < 10 ^ 70) : ∀ i ∈ ms, i.natAbs < 10 ^ 72 := fun i hi => by
  have := h i hi
  have := u.nn i hi
  omega
theorem nI_abs' {cs : List Nat} {n : Nat} (h : ∀ c ∈ cs, c < n) (hn : n < 10 ^ 70) : ∀ i ∈ nI cs, i.natAbs < 10 ^ 72 := fun i hi => by
  obtain ⟨c, rfl, hc⟩ := nI_mem hi
  have := h c hc
  omega
theorem Rp.sd' {o : Bool} {ms : List Int} {cs : List Nat} {B : Int} (h : St ms cs) (b : Bd B ms) (hB : B < 10 ^ 70) : Rp (sd o ms cs) 2000 2 := by
  have h1 := Rp.ints (o := o) (b.abs' h.m hB)
  have h2 := Rp.ints (o := o) (nI_abs' h.lt (by have := h.m.le; omega))
  have l1 := h.m.le
  have l2 := h.le
  rw [nI_len] at h2
  have := Rp.tup (o := false) (xs := [il o ms, il o (nI cs)]) (n := 903) (dep := 1) (by
    intro d hd
    rcases List.mem_cons.mp hd with rfl | hd
    · exact h1.le (by omega) (Nat.le_refl _)
    · rcases List.mem_cons.mp hd with rfl | hd
      · exact h2.le (by omega) (Nat.le_refl _)
      · cases hd)
  exact this.le (by simp) (Nat.le_refl _)
theorem Rp.rdL {n : Nat} {hs : List (Nat × Int)} (h : Hi n hs) (hn : n ≤ 100) (o : Bool) : Rp (.nd .lst o (PM.rdL hs)) (hs.length * 155 + 3) 2 := by
  have := Rp.lst (o := o) (xs := PM.rdL hs) (n := 153) (dep := 1) (fun d hd => by
    obtain ⟨x, hx, rfl⟩ := List.mem_map.mp hd
    obtain ⟨h1, h2, h3⟩ := h x hx
    have := Rp.tup (o := false) (xs := [.int (x.1 : Int), .int x.2]) (n := 73) (dep := 0) (by
      intro d hd
      unfold big at h3
      rcases List.mem_cons.mp hd with rfl | hd
      · exact Rp.int (by omega)
      · rcases List.mem_cons.mp hd with rfl | hd
        · exact Rp.int (by omega)
        · cases hd)
    exact this.le (by simp) (Nat.le_refl _))
  rw [rdL_len] at this
  exact this
/-- what is handed in, written -/
theorem Rp.both {s : Sd} {hs : List (Nat × Int)} {B : Int} (h : St s.1 s.2) (hh : Hi s.2.length hs) (b : Bd B s.1) (hB : B < 10 ^ 70) (hl : hs.length ≤ 1000) : Rp (.nd .lst true [sdd false s, .nd .lst false (PM.rdL hs)]) 400000 3 := by
  have h1 := Rp.sd' (o := false) h b hB
  have h2 := Rp.rdL hh (by have := h.le; omega) false
  have := Rp.lst (o := true) (xs := [sdd false s, .nd .lst false (PM.rdL hs)]) (n := 155003) (dep := 2) (by
    intro d hd
    rcases List.mem_cons.mp hd with rfl | hd
    · exact h1.le (by omega) (Nat.le_refl _)
    · rcases List.mem_cons.mp hd with rfl | hd
      · exact h2.le (by omega) (Nat.le_refl _)
      · cases hd)
  exact this.le (by simp) (Nat.le_refl _)
theorem Sm.prL {xs : List (Int × Int)} (h : xs.length ≤ 100000) (o : Bool) : Sm 2 (.nd .lst o (PM.prL xs)) := ⟨by simpa using h, fun d hd => by
  obtain ⟨x, _, rfl⟩ := List.mem_map.mp hd
  refine ⟨by simp, fun d hd => ?_⟩
  rcases List.mem_cons.mp hd with rfl | hd
  · exact Sm.int
  · rcases List.mem_cons.mp hd with rfl | hd
    · exact Sm.int
    · cases hd⟩
theorem Sm.two {k : Nat} {a b : D} (h1 : Sm k a) (h2 : Sm k b) (o : Bool) : Sm (k + 1) (.nd .lst o [a, b]) := ⟨by simp, fun d hd => by
  rcases List.mem_cons.mp hd with rfl | hd
  · exact h1
  · rcases List.mem_cons.mp hd with rfl | hd
    · exact h2
    · cases hd⟩
section
variable {s : Sd} {hs : List (Nat × Int)} (h : St s.1 s.2) (hh : Hi s.2.length hs) (hl : hs.length ≤ 300)
include h hh hl
theorem k23_same (o1 o2 o3 : Bool) : f_law_same 4 [.nd .lst o3 [.nd .lst o1 (prL (pass s hs hs.length)), il o1 (nI (orS s hs hs.length))], .nd .lst true [.nd .lst o2 (prL (pass s hs hs.length)), il o2 (nI (orS s hs hs.length))]] = .ok (.bl true) [none, none] := by
  have l1 := pass_len h hh hs.length (Nat.le_refl _)
  have l2 := orS_len h hh hs.length (Nat.le_refl _)
  have ml := h.m.le
  exact same14 (Sm.two (Sm.prL (by omega) _) (Sm.le (k := 1) (Sm.ints (by simp; omega)) (by omega)) _) (by simp)
theorem k23_1 (v0 v1 v2 v3 v9 v10 : Option D) (o : Bool) (S : Str) (hS : dRepr [.nd .lst true [sdd false s, .nd .lst false (rdL hs)]] = some (.str S)) :
    ∃ w10, m_LAW_k23_1 [v0, v1, v2, v3, some (sdd false s), some (.nd .lst false (rdL hs)), some (.nd .lst o (prL (pass s hs hs.length))), some (il o (nI (orS s hs hs.length))), some (.str S), v9, v10] =
      .nx [v0, v1, v2, v3, some (sdd false s), some (.nd .lst false (rdL hs)), some (.nd .lst false (prL (pass s hs hs.length))), some (il false (nI (orS s hs hs.length))), some (.str S), v9, w10] := by
  have e1 := passings h hh (by omega)
  have e2 := orderBehind h hh (by omega)
  have e3 := k23_same h hh hl false false false
  have l1 := pass_len h hh hs.length (Nat.le_refl _)
  have u1 : uApp (prL (pass s hs hs.length)) [.nd .tup false [.int 0, .int 0]] = some (.non, prL (pass s hs hs.length) ++ [.nd .tup false [.int 0, .int 0]]) := app_s (by simp; omega)
  have u2 : uRev ((nI (orS s hs hs.length)).map D.int) [] = some (.non, ((nI (orS s hs hs.length)).map D.int).reverse) := rfl
  refine ⟨some (.nd .lst true [.nd .lst true (prL (pass s hs hs.length) ++ [.nd .tup false [.int 0, .int 0]]), .nd .lst true ((nI (orS s hs hs.length)).map D.int).reverse]), ?_⟩
  generalize prL (pass s hs hs.length) ++ [D.nd .tup false [.int 0, .int 0]] = X1 at *
  generalize ((nI (orS s hs hs.length)).map D.int).reverse = X2 at *
  generalize pass s hs hs.length = P at *
  generalize orS s hs hs.length = O at *
  simp -implicitDefEqProofs [m_LAW_k23_1, e1, e2, e3, hS, u1, u2]
theorem k23_2 (v0 v1 v2 v3 v9 v10 : Option D) (o : Bool) (S : Str) (hS : dRepr [.nd .lst true [sdd false s, .nd .lst false (rdL hs)]] = some (.str S)) :
    ∃ w9 w10, m_LAW_k23_2 [v0, v1, v2, v3, some (sdd false s), some (.nd .lst false (rdL hs)), some (.nd .lst o (prL (pass s hs hs.length))), some (il o (nI (orS s hs hs.length))), some (.str S), v9, v10] =
      .nx [v0, v1, v2, v3, some (sdd false s), some (.nd .lst false (rdL hs)), some (.nd .lst false (prL (pass s hs hs.length))), some (il false (nI (orS s hs hs.length))), some (.str S), w9, w10] := by
  obtain ⟨w1, e1⟩ := k23_1 h hh hl v0 v1 v2 v3 (some (.int 0)) v10 o S hS
  obtain ⟨w2, e2⟩ := k23_1 h hh hl v0 v1 v2 v3 (some (.int 1)) w1 false S hS
  have e4 : ∀ ρ, iR1V ρ (some [.int 2]) = some (rgD 0 2, ρ) := fun ρ => iR1V_s (by omega) (by omega)
  have rg : rgD 0 2 = [.int 0, .int 1] := rfl
  have ml : ∀ (ρ : DL.Env) (d : D) (ds : List D) (ρ2 : DL.Env), m_LAW_k23_1 (ρ.set 9 (some d)) = .nx ρ2 → mLoop (gN 9) m_LAW_k23_1 (d :: ds) ρ = mLoop (gN 9) m_LAW_k23_1 ds ρ2 := by
    intro ρ d ds ρ2 q
    show (match m_LAW_k23_1 (ρ.set 9 (some d)) with | .nx ρ2 => mLoop (gN 9) m_LAW_k23_1 ds ρ2 | .ct ρ2 => mLoop (gN 9) m_LAW_k23_1 ds ρ2 | .bk ρ2 => .nx ρ2 | .rt d ρ2 => .rt d ρ2 | .ex e ρ2 => .ex e ρ2 | .no => .no) = _
    rw [q]
  refine ⟨some (.int 1), w2, ?_⟩
  generalize pass s hs hs.length = P at *
  generalize orS s hs hs.length = O at *
  simp -implicitDefEqProofs [m_LAW_k23_2, e4]
  have q1 := ml [v0, v1, v2, v3, some (sdd false s), some (.nd .lst false (rdL hs)), some (.nd .lst o (prL P)), some (il o (nI O)), some (.str S), v9, v10] (.int 0) [.int 1] _ e1
  have q2 := ml [v0, v1, v2, v3, some (sdd false s), some (.nd .lst false (rdL hs)), some (.nd .lst false (prL P)), some (il false (nI O)), some (.str S), some (.int 0), w1] (.int 1) [] _ e2
  first | exact q1.trans q2 | (rw [q1, q2]; rfl)
end
theorem k23_3 {n : Nat} {R : D} (hR : Ok n R) (hn : n < 2 ^ 26) (v0 v1 v3 v4 v5 v6 v7 v8 v9 v10 : Option D) :
    ∃ R' w4 w5 w6 w7 w8 w9 w10, m_LAW_k23_3 [v0, v1, some R, v3, v4, v5, v6, v7, v8, v9, v10] = .nx [v0, v1, some R', v3, w4, w5, w6, w7, w8, w9, w10] ∧ Ok (n + 5000) R' := by
  obtain ⟨R1, ms, cs, e1, o1, h, hl, bd⟩ := dstand hR (by omega) 12 (by omega) (by omega)
  have e1 : f_law_stand [R, .int 12] = _ := e1
  obtain ⟨R2, hs, e2, o2, hh, hl2⟩ := dhist o1 (by omega) h bd 30 (by omega)
  have e2 : f_law_history [R1, sd false ms cs, .int 30] = .ok (.nd .lst true (rdL hs)) _ := e2
  obtain ⟨s, hs'⟩ : ∃ s : Sd, s = (ms, cs) := ⟨_, rfl⟩
  have h' : St s.1 s.2 := by rw [hs']; exact h
  have hh' : Hi s.2.length hs := by rw [hs']; exact hh
  have bd' : Bd 2000000000000000000000000000000 s.1 := by rw [hs']; exact bd
  have eq : ∀ o, sd o ms cs = sdd o s := fun o => by rw [hs']
  rw [eq] at e1 e2
  have e3 := exchanged h' hh' (by omega)
  have r1 := (Rp.both h' hh' bd' (by omega) (by omega)).s (by omega) (by omega)
  generalize rp (.nd .lst true [sdd false s, .nd .lst false (rdL hs)]) = S at r1
  obtain ⟨w9, w10, e4⟩ := k23_2 h' hh' (by omega) v0 v1 (some R2) v3 v9 v10 true S r1
  have e5 := passings h' hh' (by omega)
  have e6 := orderBehind h' hh' (by omega)
  have e7 := k23_same h' hh' (by omega) false false false
  refine ⟨R2, some (sdd false s), some (.nd .lst false (rdL hs)), none, none, some (.str S), w9, some (.nd .lst true [.nd .lst true (prL (pass s hs hs.length)), il true (nI (orS s hs hs.length))]), ?_, o2.le (by omega)⟩
  generalize pass s hs hs.length = P at *
  generalize orS s hs hs.length = O at *
  simp -implicitDefEqProofs [m_LAW_k23_3, e1, e2, e3, r1, e4, e5, e6, e7, o2.okB]
theorem k23_4 {n : Nat} {R : D} (hR : Ok n R) (hn : n < 2 ^ 20) (v0 v1 v3 v4 v5 v6 v7 v8 v9 v10 : Option D) : ∃ w2 w3 w4 w5 w6 w7 w8 w9 w10, m_LAW_k23_4 [v0, v1, some R, v3, v4, v5, v6, v7, v8, v9, v10] = .nx [v0, v1, w2, w3, w4, w5, w6, w7, w8, w9, w10] := by
  obtain ⟨ρ', e, R', w3, w4, w5, w6, w7, w8, w9, w10, rfl, o⟩ := loop_I (m := gN 3) (b := m_LAW_k23_3) (fun i ρ => ∃ R' w3 w4 w5 w6 w7 w8 w9 w10, ρ = [v0, v1, some R', w3, w4, w5, w6, w7, w8, w9, w10] ∧ Ok (n + 5000 * i) R') (rgD 0 2) [v0, v1, some R, v3, v4, v5, v6, v7, v8, v9, v10] ⟨R, _, _, _, _, _, _, _, _, rfl, hR⟩ (by
    rintro i d ρ hd ⟨R', w3, w4, w5, w6, w7, w8, w9, w10, rfl, o⟩
    have hi := (rgD_at hd).2
    obtain ⟨R2, x4, x5, x6, x7, x8, x9, x10, e, o2⟩ := k23_3 o (by omega) v0 v1 (some d) w4 w5 w6 w7 w8 w9 w10
    refine ⟨_, rfl, ?_⟩
    show Nx (m_LAW_k23_3 [v0, v1, some R', some d, w4, w5, w6, w7, w8, w9, w10]) _
    rw [e]
    exact ⟨R2, _, _, _, _, _, _, _, _, rfl, o2.le (by omega)⟩)
  refine ⟨some R', w3, w4, w5, w6, w7, w8, w9, w10, ?_⟩
  have e4 : ∀ ρ, iR1V ρ (some [.int 2]) = some (rgD 0 2, ρ) := fun ρ => iR1V_s (by omega) (by omega)
  simp -implicitDefEqProofs [m_LAW_k23_4, e4, e]
theorem law_true_k23 (ns : List Int) (hl : ns.length ≤ 63) (hb : ∀ z ∈ ns, Builtin.Int.intBits z ≤ 1048576) : ∃ ρ, f_LAW_k23 [.nd .fzl false (ns.map .int)] = .ok (.bl true) ρ := by
  obtain ⟨j, hj, hj2, hj3⟩ : ∃ j : Int, dMax2 [.int 1, .int (if 8 < (ns.length : Int) then 8 else (ns.length : Int))] = some (.int j) ∧ 0 ≤ j ∧ j ≤ 63 := ⟨_, rfl, by split <;> split <;> omega, by split <;> split <;> omega⟩
  obtain ⟨s0, hs⟩ : ∃ s0 : D, s0 = .nd .fzl false (ns.map .int) := ⟨_, rfl⟩
  obtain ⟨ρ', e3, v1, v2, v3, v4, v5, v6, v7, v8, v9, v10, rfl⟩ := loop_I (m := gN 1) (b := m_LAW_k23_5) (fun i ρ => ∃ v1 v2 v3 v4 v5 v6 v7 v8 v9 v10, ρ = [some s0, v1, v2, v3, v4, v5, v6, v7, v8, v9, v10])
    (rgD 0 j) [some s0, none, none, none, none, none, none, none, none, none, none] ⟨_, _, _, _, _, _, _, _, _, _, rfl⟩ (by
      rintro i d ρ hd ⟨v1, v2, v3, v4, v5, v6, v7, v8, v9, v10, rfl⟩
      obtain ⟨rfl, h4⟩ := rgD_at hd
      obtain ⟨R, e1, o⟩ := ribbon ns i (by omega)
      obtain ⟨w2, w3, w4, w5, w6, w7, w8, w9, w10, e4⟩ := k23_4 o (by omega) (some s0) (some (.int (0 + (i : Int)))) v3 v4 v5 v6 v7 v8 v9 v10
      refine ⟨_, rfl, ?_⟩
      obtain ⟨P, hP⟩ : ∃ P : DL.Env → Prop, P = fun ρ => ∃ v1 v2 v3 v4 v5 v6 v7 v8 v9 v10, ρ = [some s0, v1, v2, v3, v4, v5, v6, v7, v8, v9, v10] := ⟨_, rfl⟩
      rw [← hP]
      rw [Int.zero_add] at e4 ⊢
      subst hs
      simp -implicitDefEqProofs [m_LAW_k23_5, e1, e4, o.okB]
      rw [hP]
      exact ⟨_, _, _, _, _, _, _, _, _, _, rfl⟩)
  refine ⟨[none], ?_⟩
  unfold f_LAW_k23
  rw [defFn_ap]
  have e1 : ∀ ρ, iR1V ρ (some [.int j]) = some (rgD 0 j, ρ) := fun ρ => iR1V_s (by omega) (by omega)
  subst hs
  simp -implicitDefEqProofs [m_LAW_k23, m_LAW_k23_6, -dMax2_i, hj, e1, e3]
end PM
namespace DL
open PySem L2 PyProof.Rows
section
variable {X : Cx} {cm : Str → Option Addr} {W : WX} {S : Sc} {pos : Pos} {K : PySem.W.Frag} {wr : Nat → Bool}
/-! ### for n, x in enumerate(P): the parts of an own list, lent one by one -/
def elK1 (i jx : Nat) (k : Nat) (xs : List D) (ρ2 : Env) (go : MS) : Option D → Option D → Ou
  | none, some x' => go ((ρ2.set jx none).set i (some (.nd .lst true (xs.set k x'))))
  | _, _ => .no
def elK (i jx : Nat) (k : Nat) (xs : List D) (go : MS) : Ou → Ou
  | .nx ρ2 => elK1 i jx k xs ρ2 go (gt ρ2 i) (gt ρ2 jx)
  | .ct ρ2 => elK1 i jx k xs ρ2 go (gt ρ2 i) (gt ρ2 jx)
  | _ => .no
def elX (i jn jx : Nat) (b : MS) (go : MS) (k : Nat) (xs : List D) (ρ : Env) : Option D → Ou
  | some x => elK i jx k xs go (b (((ρ.set i none).set jn (some (.int (k : Nat)))).set jx (some x)))
  | none => .no
def elO (i jn jx : Nat) (b : MS) (go : MS) (k : Nat) (ρ : Env) : Option D → Ou
  | some (.nd .lst true xs) => elX i jn jx b go k xs ρ xs[k]?
  | _ => .no
def elGo (i jn jx : Nat) (b : MS) : Nat → Nat → MS
  | 0, _ => fun ρ => .nx ρ
  | n + 1, k => fun ρ => elO i jn jx b (elGo i jn jx b n (k + 1)) k ρ (gt ρ i)
def forElK (i jn jx : Nat) (b : MS) (ρ : Env) : Option D → Ou
  | some (.nd .lst true xs) => elGo i jn jx b xs.length 0 ρ
  | _ => .no
def mForEl (i jn jx : Nat) (b : MS) : MS := fun ρ => forElK i jn jx b ρ (gt ρ i)
theorem gt_eq : ∀ {ρ : Env} {i : Nat}, gt ρ i = (ρ[i]?).getD none
  | [], _ => rfl
  | o :: _, 0 => rfl
  | _ :: ρ, i + 1 => gt_eq (ρ := ρ) (i := i)
theorem set_none_id {ρ : Env} {i : Nat} (h : gt ρ i = none) : ρ.set i none = ρ := by
  apply List.ext_getElem?
  intro j
  by_cases e : i = j
  · subst e
    rw [gt_eq] at h
    rw [List.getElem?_set_self']
    cases q : ρ[i]? with
    | none => rfl
    | some o =>
      rw [q] at h
      have h : o = none := h
      subst h; rfl
  · exact List.getElem?_set_ne e
theorem gt_set_ne {ρ : Env} {i j : Nat} {o : Option D} (h : i ≠ j) : gt (ρ.set i o) j = gt ρ j := by
  rw [gt_eq, gt_eq, List.getElem?_set_ne h]
theorem el_sp {i jn jx : Nat} {tb : TS} {b : MS} (q3 : SpS S W wr tb b) (hi1 : i ≠ jn) (hi2 : i ≠ jx) (hw1 : wr i = false) (hw2 : wr jx = false) :
    SpS S W (wo (wo (w1 jn) (w1 jx)) wr) (tFor (iEnum S.K (tCons (tVar i) tNil)) (gTup S.K 2 (gCons (gName jn) (gCons (gName jx) gNil))) tb) (mForEl i jn jx b) := by
  intro σ F H T ρ D w s k
  unfold mForEl at k
  cases e0 : gt ρ i with
  | none => rw [e0] at k; exact k.elim
  | some d0 =>
  rw [e0] at k
  obtain ⟨xs0, rfl⟩ : ∃ xs0, d0 = .nd .lst true xs0 := by
    cases d0 with
    | nd kk o xs0 =>
      cases kk <;> first | (cases o <;> first | exact ⟨_, rfl⟩ | exact k.elim) | exact k.elim
    | _ => exact k.elim
  have k : EndS S W (wo (wo (w1 jn) (w1 jx)) wr) σ F H T (elGo i jn jx b xs0.length 0 ρ) D := k
  obtain ⟨v0, g0, r0, hv0, o0, l0, et0⟩ := s.get (gt_some e0)
  obtain ⟨a, ws0, gg, rfl, ha0, ow0, eg0⟩ := o0.lstAt
  refine ⟨_, hv0, a, ws0, rfl, SqL.of ha0, ?_⟩
  refine ⟨fun m n σ H => n = xs0.length - m ∧ m ≤ xs0.length ∧ σ[i]? = some (some (.ref a)) ∧ ∃ F T ρ xs, Wd F H T ∧ Sls (S.at F H) ρ σ T ∧ gt ρ i = some (.nd .lst true xs) ∧ xs.length = xs0.length ∧ EndS S W (wo (wo (w1 jn) (w1 jx)) wr) σ F H T (elGo i jn jx b (xs0.length - m) m ρ) D,
    ⟨xs0.length, rfl, Nat.zero_le _, hv0, F, T, ρ, xs0, w, s, e0, rfl, k⟩, ?_⟩
  rintro m n σ2 H2 ⟨rfl, hm, hv, F2, T2, ρ2, xs, w2, l2, eg, hlen, k2⟩
  obtain ⟨v, g, r, hv', o2, lr, et⟩ := l2.get (gt_some eg)
  rw [hv] at hv'
  cases hv'
  obtain ⟨a', ws, gx, ea, hp, ow, egx⟩ := o2.lstAt
  cases ea
  have hi : i < ρ2.length := (List.getElem?_eq_some_iff.mp (gt_some eg)).1
  by_cases hlt : m < xs0.length
  · refine .inr ?_
    rw [show xs0.length - m = (xs0.length - (m + 1)) + 1 by omega] at k2
    unfold elGo at k2
    rw [eg] at k2
    have k2 : EndS S W (wo (wo (w1 jn) (w1 jx)) wr) σ2 F2 H2 T2 (elX i jn jx b (elGo i jn jx b (xs0.length - (m + 1)) (m + 1)) m xs ρ2 xs[m]?) D := k2
    have hx : xs[m]? = some (xs[m]'(by omega)) := List.getElem?_eq_getElem (by omega)
    generalize xs[m]'(by omega) = x at hx
    rw [hx] at k2
    obtain ⟨wv, gk, gr, hwv, ox, oer, er⟩ := ow.out hx
    have sq : SqL S.K H2 a ws := SqL.of hp
    refine ⟨⟨ws, wv, sq, hwv⟩, fun σ' H' => σ'[i]? = some (some (.ref a)) ∧ ∃ F T ρ xs, Wd F H' T ∧ Sls (S.at F H') ρ σ' T ∧ gt ρ i = some (.nd .lst true xs) ∧ xs.length = xs0.length ∧ EndS S W (wo (wo (w1 jn) (w1 jx)) wr) σ' F H' T (elGo i jn jx b (xs0.length - (m + 1)) (m + 1) ρ) D, fun σ' H' z => ⟨xs0.length - (m + 1), by omega, rfl, by omega, z⟩, ?_⟩
    rintro y H3 ⟨t, x', rfl, ht, rfl, hxx⟩
    have := hxx ws sq
    rw [hwv] at this
    cases this
    have f0 : F2 t = none := by
      cases q : F2 t with
      | none => rfl
      | some o => rw [w2.sub t o q] at ht; cases ht
    have fs : Sub F2 (upd F2 t (.tup [.int (m : Nat), wv])) := fun a o h => by rw [upd_ne (ne_of_none h f0)]; exact h
    obtain ⟨w3, s3⟩ := grown (F' := upd F2 t (.tup [.int (m : Nat), wv])) (H' := upd H2 t (.tup [.int (m : Nat), wv])) w2 fs (fun a o h => by
      by_cases q : a = t
      · subst q; rw [upd_same] at h ⊢; exact h
      · rw [upd_ne q] at h ⊢; exact w2.sub a o h) (fun a o h => by rw [upd_ne (ne_of_none h ht)]; exact h) (fun a h => by
      have : a ≠ t := fun q => by subst q; exact h ht
      rw [upd_ne this])
    have kp : Keep H2 zf (upd H2 t (.tup [.int (m : Nat), wv])) := fun a o h _ => by rw [upd_ne (ne_of_none h ht)]; exact h
    refine ⟨t, [.int (m : Nat), wv], rfl, SqT.of upd_same, rfl, _, _, rfl, _, _, rfl, rfl, ?_⟩
    -- the frame's slots
    generalize upd F2 t (.tup [.int (m : Nat), wv]) = F3 at *
    have hp3 : upd H2 t (.tup [.int (m : Nat), wv]) a = some (.lst ws) := kp a _ hp rfl
    generalize upd H2 t (.tup [.int (m : Nat), wv]) = H3 at *
    have lr3 : Sls (S.at F3 H3) (ρ2.set i none) σ2 r := Sls.mono (T := zf) fs kp (fun a z => absurd rfl z) _ _ _ (fun _ _ => rfl) lr
    have ox3 : Ow (S.at F3 H3) x wv gk := Ow.mono (T := zf) fs kp (fun a z => absurd rfl z) _ _ _ (fun _ _ => rfl) ox
    have oer3 : Ows (S.at F3 H3) (xs.eraseIdx m) (ws.eraseIdx m) gr := Ows.mono (T := zf) fs kp (fun a z => absurd rfl z) _ _ _ (fun _ _ => rfl) oer
    obtain ⟨T4, l4, le4⟩ := lr3.setSome (i := jn) (d := .int (m : Nat)) (w := .int (m : Nat)) (g := zf) ⟨rfl, .rfl'⟩
    obtain ⟨T5, l5, le5⟩ := l4.setSome (i := jx) ox3
    have tot : ∀ z, T2 z = one a z + gk z + gr z + r z := fun z => by rw [et z, ad_ap, egx z, ad_ap, er z, ad_ap]; omega
    have leB : ∀ z, ad T5 (ad (one a) gr) z ≤ T2 z := fun z => by
      have h1 := le5 z
      have h2 := le4 z
      rw [zf_ap] at h2
      simp only [ad_ap]
      rw [tot z]; omega
    have wB : Wd F3 H3 (ad T5 (ad (one a) gr)) := w3.le leB
    have w5 : Wd F3 H3 T5 := wB.part
    refine q3 _ F3 H3 T5 _ _ w5 l5 ?_
    have k2 : EndS S W (wo (wo (w1 jn) (w1 jx)) wr) σ2 F2 H2 T2 (elK i jx m xs (elGo i jn jx b (xs0.length - (m + 1)) (m + 1)) (b (((ρ2.set i none).set jn (some (.int (m : Nat)))).set jx (some x)))) D := k2
    have fin : ∀ ρb σ6 F6 H6 T6, NW wr ((σ2.set jn (some (.int (m : Nat)))).set jx (some wv)) σ6 → Wd F6 H6 T6 → Stp F3 H3 T5 F6 H6 T6 → Sls (S.at F6 H6) ρb σ6 T6 →
        EndS S W (wo (wo (w1 jn) (w1 jx)) wr) σ2 F2 H2 T2 (elK1 i jx m xs ρb (elGo i jn jx b (xs0.length - (m + 1)) (m + 1)) (gt ρb i) (gt ρb jx)) D →
        σ6[i]? = some (some (.ref a)) ∧ ∃ F T ρ xs, Wd F H6 T ∧ Sls (S.at F H6) ρ σ6 T ∧ gt ρ i = some (.nd .lst true xs) ∧ xs.length = xs0.length ∧ EndS S W (wo (wo (w1 jn) (w1 jx)) wr) σ6 F H6 T (elGo i jn jx b (xs0.length - (m + 1)) (m + 1) ρ) D := by
      intro ρb σ6 F6 H6 T6 nw6 w6 s6 l6 kk
      cases ei : gt ρb i with
      | some z => rw [ei] at kk; exact kk.elim
      | none =>
      cases ex : gt ρb jx with
      | none => rw [ei, ex] at kk; exact kk.elim
      | some x' =>
      rw [ei, ex] at kk
      have kk : EndS S W (wo (wo (w1 jn) (w1 jx)) wr) σ2 F2 H2 T2 (elGo i jn jx b (xs0.length - (m + 1)) (m + 1) ((ρb.set jx none).set i (some (.nd .lst true (xs.set m x'))))) D := kk
      have hs6 : σ6[i]? = some (some (.ref a)) := by
        rw [nw6 i hw1, List.getElem?_set_ne (fun q => hi2 q.symm), List.getElem?_set_ne (fun q => hi1 q.symm)]; exact hv
      obtain ⟨wB6, sB6⟩ := wB.frame s6 w6
      obtain ⟨u, gu, ru, hu, ou, lu, eu⟩ := l6.get (gt_some ex)
      have huw : u = wv := by
        have h1 := nw6 jx hw2
        rw [hu, List.getElem?_set_self'] at h1
        cases q : (σ2.set jn (some (.int (m : Nat))))[jx]? with
        | none => rw [q] at h1; cases h1
        | some z => rw [q] at h1; cases h1; rfl
      subst huw
      have dis : ∀ z, (ad (one a) gr) z ≠ 0 → T5 z = 0 := fun z hz => by
        have := wB.one z
        rw [ad_ap] at this; omega
      have hp6 : H6 a = some (.lst ws) := s6.keep a _ hp3 (dis a (by rw [ad_ap, one_self]; omega))
      have oer6 : Ows (S.at F6 H6) (xs.eraseIdx m) (ws.eraseIdx m) gr := Ows.mono s6.mono s6.keep (fun z hz => w5.mu z hz) _ _ _ (fun z hz => dis z (by rw [ad_ap]; omega)) oer3
      have onew := Ows.inn (j := m) (by omega) ow.len oer6 ou
      rw [set_same hwv] at onew
      have olst : Ow (S.at F6 H6) (.nd .lst true (xs.set m x')) (.ref a) (ad (one a) (ad gu gr)) := ⟨a, ws, _, rfl, onew, .inr (.inl ⟨rfl, hp6, .rfl'⟩)⟩
      have idn : (ρb.set jx none).set i none = ρb.set jx none := set_none_id (by rw [gt_set_ne (fun q => hi2 q.symm)]; exact ei)
      have lput := Sls.put (ρ := ρb.set jx none) (i := i) (by rw [idn]; exact lu) (by
        rw [lu.len]
        exact (List.getElem?_eq_some_iff.mp hs6).1) hs6 olst
      have ee : Eqf (ad (ad (one a) (ad gu gr)) ru) (ad T6 (ad (one a) gr)) := fun z => by simp only [ad_ap]; rw [eu z, ad_ap]; omega
      refine ⟨hs6, F6, _, _, xs.set m x', wB6.eqf ee, lput, ?_, by rw [List.length_set]; exact hlen, EndS.step ?_ (Stp.eqf ?_ ee) (wB6.eqf ee) kk⟩
      · rw [gt_eq, List.getElem?_set_self (by rw [lu.len]; exact (List.getElem?_eq_some_iff.mp hs6).1)]; rfl
      · have n1 : NW (wo (wo (w1 jn) (w1 jx)) wr) σ2 ((σ2.set jn (some (.int (m : Nat)))).set jx (some u)) := NW.wl ((NW.wl NW.set).trans (NW.wr NW.set))
        exact n1.trans nw6.wr
      · have s23 : Stp F2 H2 T2 F3 H3 (ad T5 (ad (one a) gr)) := by
          refine ⟨s3.keep, s3.mono, fun z h1 h2 h3 => ?_⟩
          obtain ⟨x1, x2⟩ := s3.back z h1 h2 h3
          exact ⟨by have := leB z; omega, x2⟩
        exact s23.trans wB sB6
    cases e4 : b (((ρ2.set i none).set jn (some (.int (m : Nat)))).set jx (some x)) with
    | no => rw [e4] at k2; exact k2.elim
    | ex z ρ4 => rw [e4] at k2; exact k2.elim
    | rt z ρ4 => rw [e4] at k2; exact k2.elim
    | bk ρ4 => rw [e4] at k2; exact k2.elim
    | nx ρ4 =>
      rw [e4] at k2
      exact fun σ6 F6 H6 T6 n6 w6 s6 l6 => fin ρ4 σ6 F6 H6 T6 n6 w6 s6 l6 k2
    | ct ρ4 =>
      rw [e4] at k2
      exact fun σ6 F6 H6 T6 n6 w6 s6 l6 => fin ρ4 σ6 F6 H6 T6 n6 w6 s6 l6 k2
  · have em : m = xs0.length := by omega
    subst em
    refine .inl ⟨⟨ws, SqL.of hp, by rw [← ow.len]; omega⟩, ?_⟩
    rw [Nat.sub_self] at k2
    have k2 : EndS S W (wo (wo (w1 jn) (w1 jx)) wr) σ2 F2 H2 T2 (.nx ρ2) D := k2
    exact k2 σ2 F2 H2 T2 .refl w2 .refl l2
theorem S.forEl {i jn jx : Nat} {n x P : Str} {p p1 p2 p3 p4 tp : Pos} {kk : Nat} {body : List Stmt} {b : MS} (hp : PassesOwn (model X.prog X.w) X.A X.env X.xe) (hc : X.calm = true) (hN : X.N.Nodup) (hg : Gl X "enumerate") (hm : X.mg "enumerate" = none)
    (hP : X.N[i]? = some P) (hvP : Vis X.env.scope P) (hn : X.N[jn]? = some n) (hln : Loc X.env.scope n) (hx : X.N[jx]? = some x) (hlx : Loc X.env.scope x) (h1 : i ≠ jn) (h2 : i ≠ jx) (h3 : wr i = false) (h4 : wr jx = false)
    (hfn : X.fn n = true ∨ X.env.scope.names.lookup n = some .local) (hfx : X.fn x = true ∨ X.env.scope.names.lookup x = some .local)
    (hb : GB X cm W wr body b) (hd : (P == ("__debug__" : Str)) = false := by decide) (hcd : (P == ("__classdict__" : Str)) = false := by decide)
    (hs : ∀ x, foldedSetIterable (.Call (.Name "enumerate" p) [.Name P p1] [] p2) X.env x = pure x := by intro _; rfl)
    (hst : starEach [Expr.Name P p1] X.env = [(false, eval (.Name P p1) X.env)] := by rfl)
    (ha1 : (assignEach [Expr.Name n p3, .Name x p4] X.env).map (·.2) = assign (.Name n p3) X.env :: (assignEach [Expr.Name x p4] X.env).map (·.2) := by rfl)
    (ha2 : (assignEach [Expr.Name x p4] X.env).map (·.2) = assign (.Name x p4) X.env :: (assignEach [] X.env).map (·.2) := by rfl)
    (hl : (assignEach [Expr.Name n p3, .Name x p4] X.env).length = 2 := by rfl) (hfi : (assignEach [Expr.Name n p3, .Name x p4] X.env).findIdx? (·.1) = none := by rfl) :
    GS X cm W (wo (wo (w1 jn) (w1 jx)) wr) (.For (.Tuple [.Name n p3, .Name x p4] kk tp) (.Call (.Name "enumerate" p) [.Name P p1] [] p2) body [] pos) (mForEl i jn jx b) := by
  obtain ⟨t, p5, q5⟩ := hb
  exact ⟨_, ps_for hp hc (pi_enum hg hm (pa_cons (pe_var hP hvP hd hcd) pa_nil hst) hst) (pg_tup hc (pgs_cons (pg_name hN hn hln hfn) (pgs_cons (pg_name hN hx hlx hfx) pgs_nil ha2) ha1) hl hfi) p5 hs, el_sp (S := ⟨X.K, cm⟩) q5 h1 h2 h3 h4⟩
end
/-! ### a part that a dead name gives away -/
def mvpK (i : Nat) (ρ : Env) : Option D → Re
  | some d => .ok d (ρ.set i none)
  | none => .no
def mvpJ (i : Nat) (ρ : Env) : Option (List Nat) → Re
  | some js => mvpK i ρ (getS ρ i js)
  | none => .no
def rMvP (i : Nat) (π : MP) : ME := fun ρ => mvpJ i ρ (π ρ)
section
variable {X : Cx} {cm : Str → Option Addr} {W : WX}
theorem E.mvP {e : Expr} {i : Nat} {π : MP} (h : GP X cm e i π) : GE X cm W e (rMvP i π) := by
  obtain ⟨t, p, q⟩ := h
  refine ⟨t, p, fun σ F H T ρ Q w s k => ?_⟩
  unfold rMvP at k
  cases e1 : π ρ with
  | none => rw [e1] at k; exact k.elim
  | some js =>
  rw [e1] at k
  cases e2 : getS ρ i js with
  | none =>
    have k : EndE ⟨X.K, cm⟩ W σ F H T (mvpK i ρ (getS ρ i js)) Q := k
    rw [e2] at k; exact k.elim
  | some d =>
  have k : EndE ⟨X.K, cm⟩ W σ F H T (mvpK i ρ (getS ρ i js)) Q := k
  rw [e2] at k
  refine q σ F H T ρ js d Q w s e1 e2 fun v u hv hu => ?_
  obtain ⟨d0, e3, e4⟩ := Option.bind_eq_some_iff.mp e2
  by_cases z : noFz d0 js = true
  · rw [if_pos z] at e4
    obtain ⟨v0, g, x, h1, h2, h3, h4⟩ := s.get (gt_some e3)
    rw [hv] at h1
    cases h1
    obtain ⟨w2, g2, k1, k2, k3⟩ := h2.path w.sub js z e4
    rw [hu] at k1
    cases k1
    have le : ∀ a, ad x g2 a ≤ T a := fun a => by have := k3 a; rw [h4 a, ad_ap, ad_ap]; omega
    exact k u F H x g2 (w.le le) (Stp.le le) h3 k2
  · rw [if_neg z] at e4; cases e4
end
section
variable {ρ ρ2 : Env} {i jn jx k n : Nat} {xs : List D} {d x : D} {b go : MS}
@[simp] theorem forEl_ap : mForEl i jn jx b ρ = forElK i jn jx b ρ (gt ρ i) := rfl
@[simp] theorem mvP_ap {π : MP} : rMvP i π ρ = mvpJ i ρ (π ρ) := rfl
@[simp] theorem mvpJ_s {js : List Nat} : mvpJ i ρ (some js) = mvpK i ρ (getS ρ i js) := rfl
@[simp] theorem mvpK_s : mvpK i ρ (some d) = .ok d (ρ.set i none) := rfl
@[simp] theorem forElK_s : forElK i jn jx b ρ (some (.nd .lst true xs)) = elGo i jn jx b xs.length 0 ρ := rfl
end
end DL
namespace PM
open PySem L2 PyProof.Rows DL
def m_law_word_v2_1 : MS := (mDo (rCallB (f_went_over) [] (aBw 0 (aBw 1 (aBw 2 aNil)))))
def m_law_word_v2_2 : MS := (mAsg (rFz 5) (gN 3))
def m_law_word_v2 : MS := (mSeq (mAsg (rV (vC .non)) (gN 3)) (mSeq (mTry ["MarkError", "NoMarks", "NoLater", "NoPage"] m_law_word_v2_1 [("MarkError", some 5, m_law_word_v2_2)]) (mSeq (mAsg (rLst (aE (rV (vIsX ["MarkError", "NoMarks", "NoLater", "NoPage"] "NoMarks" (vVar 3))) (aE (rV (vIsX ["MarkError", "NoMarks", "NoLater", "NoPage"] "NoLater" (vVar 3))) (aE (rV (vIsX ["MarkError", "NoMarks", "NoLater", "NoPage"] "NoPage" (vVar 3))) aNil)))) (gN 4)) (mSeq (mIf (rV (vOp dIsN (vVar 3) (vC .non))) (mRet (rV (vC (.str "told")))) mNx) (mRet (rIf (rV (vOp dEqX (vMt dCountD (vVar 4) (vCons (vC (.bl true)) vNil)) (vC (.int 1)))) (rOp dIx (rLst (aE (rV (vC (.str "early"))) (aE (rV (vC (.str "late"))) (aE (rV (vC (.str "leaf"))) aNil)))) (rV (vMt dIndex (vVar 4) (vCons (vC (.bl true)) vNil)))) (rV (vC (.str "odd")))))))))
def f_law_word_v2 : Fn := defFn 6 [false, false, false] m_law_word_v2
def m_law_refused_right_1 : ME := rLc [8] (iR1 (aE (rV (vOp dSub (vOp dSub (vB dLen (vCons (vVar 1) vNil)) (vVar 6)) (vC (.int 1)))) aNil)) (gN 8) rYes (rOpEV dPl (rOpV dPl (vVar 8) (vOp dIx (vVar 2) (vUn dNeg (vC (.int 1))))) (vC (.int 2)))
def m_law_refused_right_2 : ME := rLc [8, 10, 11, 12] (iE (rFz 9)) (gT 4 (gsCons (gN 10) (gsCons (gN 11) (gsCons (gN 8) (gsCons (gN 12) gsNil))))) (rOpEV dNeX (rCallB (f_law_word_v2) [] (aBw 10 (aBw 11 (aBw 8 aNil)))) (vVar 12)) (rV (vC (.int 1)))
def m_law_refused_right : MS := (mSeq (mAsg (rLst (aE (rV (vC .non)) (aE (rT (rLst aNil)) (aE (rT (rLst (aE (rV (vC (.int 3))) (aE (rV (vC (.int 3))) aNil)))) (aE (rT (rLst (aE (rV (vC (.int 4))) (aE (rV (vC (.int 2))) aNil)))) (aE (rT (rLst (aE (rV (vUn dNeg (vC (.int 1)))) aNil))) (aE (rT (rLst (aE (rV (vC (.bl true))) aNil))) (aE (rT (rLst (aE (rV (vC (.str "1"))) aNil))) (aE (rT (rMkV dTup (vVar 1))) (aE (rT (rRg1 (vC (.int 13)))) (aE (rT (rLst (aE (rV (vC (.int 0))) (aE (rV (vC .non)) aNil)))) aNil))))))))))) (gN 3)) (mSeq (mAsg (rOp dIx (rFz 3) (rCall (f_law_snip) [] (aIo 0 (aE (rV (vC (.int 10))) aNil)))) (gN 4)) (mSeq (mAsg (rOp dIx (rLst (aE (rV (vUn dNeg (vC (.int 1)))) (aE (rV (vC .non)) (aE (rV (vC (.bl true))) (aE (rV (vC (.str "1"))) (aE (rT (rLst (aE (rV (vC (.int 0))) aNil))) (aE (rT (rTup (aE (rV (vC (.int 1))) aNil))) aNil))))))) (rCall (f_law_snip) [] (aIo 0 (aE (rV (vC (.int 6))) aNil)))) (gN 5)) (mSeq (mAsg (rCall (f_law_snip) [] (aIo 0 (aE (rV (vB dLen (vCons (vVar 1) vNil))) aNil))) (gN 6)) (mSeq (mAsg (rOp dPl (rOp dPl (rSlV (vVar 1) oNo (oV (vVar 6))) (rLst (aE (rV (vOp dAdd (vOp dIx (vVar 2) (vVar 6)) (vC (.int 1)))) aNil))) m_law_refused_right_1) (gN 7)) (mSeq (mAsg (rLst (aE (rT (rTup (aE (rFz 1) (aE (rFz 2) (aE (rV (vC (.int 0))) (aE (rV (vC (.str "told"))) aNil)))))) (aE (rT (rTup (aE (rFz 4) (aE (rFz 2) (aE (rFz 5) (aE (rV (vC (.str "early"))) aNil)))))) (aE (rT (rTup (aE (rFz 1) (aE (rFz 4) (aE (rV (vC (.int 0))) (aE (rV (vC (.str "early"))) aNil)))))) (aE (rT (rTup (aE (rFz 1) (aE (rFz 2) (aE (rFz 5) (aE (rV (vC (.str "leaf"))) aNil)))))) aNil))))) (gN 9)) (mSeq (mAsg (rOpNE dPl 9 (rLst (aE (rT (rTup (aMv 7 (aE (rFz 2) (aMv 5 (aE (rV (vC (.str "late"))) aNil)))))) (aE (rT (rTup (aE (rFz 1) (aE (rT (rOpNE dPl 2 (rLst (aE (rV (vOp dAdd (vOp dIx (vVar 2) (vUn dNeg (vC (.int 1)))) (vC (.int 1)))) aNil)))) (aE (rV (vC (.int 0))) (aE (rV (vC (.str "late"))) aNil)))))) aNil)))) (gN 9)) (mSeq (mIf (rV (vOp dEqX (vB dLen (vCons (vVar 1) vNil)) (vC (.int 12)))) (mAsg (rSlV (vVar 9) oNo (oV (vUn dNeg (vC (.int 1))))) (gN 9)) mNx) (mRet (rOp dEqX m_law_refused_right_2 (rLst aNil)))))))))))
def f_law_refused_right : Fn := defFn 13 [true, false, false] m_law_refused_right
def m_LAW_k24_1 : ME := rLc [13, 14] (iE (rFz 5)) (gT 2 (gsCons (gN 13) (gsCons (gN 14) gsNil))) (rV (vChain dLe dLt (vVar 13) (vVar 11) (vVar 14))) (rFz 13)
def m_LAW_k24_2 : MS := (mSeq (mAsg (rB dMax2 (aE (rV (vC (.int 0))) (aE (rOpEV dSub (rOpNE dPl 10 (rCall (f_law_snip) [] (aIo 2 (aE (rV (vC (.int 3))) aNil)))) (vC (.int 1))) aNil))) (gN 11)) (mSeq (mAsg (rB dLen (aE m_LAW_k24_1 aNil)) (gN 12)) (mSeq (mAsg (rLst (aE (rCallB (f_went_over) [] (aBw 7 (aBw 8 (aBw 11 aNil)))) (aE (rCallKB (f_went_over) [2, 1, 0] (aBw 11 (aBw 8 (aBw 7 aNil)))) aNil))) (gN 15)) (mIf (rOr (rOp dNeX (rV (vB dRepr (vCons (vVar 15) vNil))) (rB dRepr (aE (rLst (aE (rFz 12) (aE (rFz 12) aNil))) aNil))) (rOpEV dNeX (rB dRepr (aE (rLst (aE (rFz 7) (aE (rFz 8) aNil))) aNil)) (vVar 9))) (mRet (rV (vC (.bl false)))) mNx))))
def m_LAW_k24_3 : MS := mFor (iE (rOp dPl (rOpV dPl (vVar 7) (vVar 8)) (rLst (aE (rV (vC (.int 0))) (aE (rV (vOp dIx (vVar 7) (vC (.int 0)))) (aE (rV (vOp dAdd (vOp dIx (vVar 8) (vUn dNeg (vC (.int 1)))) (vC (.int 5)))) aNil)))))) (gN 10) m_LAW_k24_2
def m_LAW_k24_4 : MS := (mSeq (mAsg (rCall (f_law_stand) [] (aIo 2 (aE (rV (vC (.int 12))) aNil))) (gN 4)) (mSeq (mAsg (rCall (f_law_through) [] (aE (rFz 4) (aE (rCallB (f_law_history) [] (aIo 2 (aBw 4 (aE (rV (vC (.int 20))) aNil)))) aNil))) (gT 2 (gsCons (gN 5) (gsCons (gN 6) gsNil)))) (mSeq (mPar [7, 8] (aE (rOp dIx (rFz 4) (rV (vC (.int 0)))) (aE (rOp dIx (rOp dIx (rFz 6) (rV (vUn dNeg (vC (.int 1))))) (rV (vC (.int 0)))) aNil))) (mSeq (mAsg (rB dRepr (aE (rLst (aE (rFz 7) (aE (rFz 8) aNil))) aNil)) (gN 9)) (mSeq m_LAW_k24_3 (mIf (rNot (rCallB (f_law_refused_right) [] (aIo 2 (aBw 7 (aBw 8 aNil))))) (mRet (rV (vC (.bl false)))) mNx))))))
def m_LAW_k24_5 : MS := mFor (iR1 (aE (rV (vC (.int 2))) aNil)) (gN 3) m_LAW_k24_4
def m_LAW_k24_6 : MS := (mSeq (mAsg (rCallB (f_law_ribbon) [] (aBw 0 (aBw 1 aNil))) (gN 2)) m_LAW_k24_5)
def m_LAW_k24_7 : MS := mFor (iR1 (aE (rV (vB dMax2 (vCons (vC (.int 1)) (vCons (vB dMin2 (vCons (vB dLen (vCons (vVar 0) vNil)) (vCons (vC (.int 8)) vNil))) vNil)))) aNil)) (gN 1) m_LAW_k24_6
def m_LAW_k24 : MS := (mSeq m_LAW_k24_7 (mRet (rV (vC (.bl true)))))
def f_LAW_k24 : Fn := defFn 16 [false] m_LAW_k24
end PM
namespace PM
open PySem L2 PyProof.Rows DL
theorem c24_1 : dCountD (.nd .lst true [.bl true, .bl false, .bl false]) [.bl true] = some (.int 1) := by kernel_rfl
theorem c24_2 : dCountD (.nd .lst true [.bl false, .bl true, .bl false]) [.bl true] = some (.int 1) := by kernel_rfl
theorem c24_3 : dCountD (.nd .lst true [.bl false, .bl false, .bl true]) [.bl true] = some (.int 1) := by kernel_rfl
theorem i24_1 : dIndex (.nd .lst true [.bl true, .bl false, .bl false]) [.bl true] = some (.int 0) := by kernel_rfl
theorem i24_2 : dIndex (.nd .lst true [.bl false, .bl true, .bl false]) [.bl true] = some (.int 1) := by kernel_rfl
theorem i24_3 : dIndex (.nd .lst true [.bl false, .bl false, .bl true]) [.bl true] = some (.int 2) := by kernel_rfl
theorem isa24_00 : isaX "NoMarks" "NoMarks" = true := by kernel_rfl
theorem isa24_01 : isaX "NoMarks" "NoLater" = false := by kernel_rfl
theorem isa24_02 : isaX "NoMarks" "NoPage" = false := by kernel_rfl
theorem isa24_10 : isaX "NoLater" "NoMarks" = false := by kernel_rfl
theorem isa24_11 : isaX "NoLater" "NoLater" = true := by kernel_rfl
theorem isa24_12 : isaX "NoLater" "NoPage" = false := by kernel_rfl
theorem isa24_20 : isaX "NoPage" "NoMarks" = false := by kernel_rfl
theorem isa24_21 : isaX "NoPage" "NoLater" = false := by kernel_rfl
theorem isa24_22 : isaX "NoPage" "NoPage" = true := by kernel_rfl
theorem isa24_0m : isaX "NoMarks" "MarkError" = true := by kernel_rfl
theorem isa24_1m : isaX "NoLater" "MarkError" = true := by kernel_rfl
theorem isa24_2m : isaX "NoPage" "MarkError" = true := by kernel_rfl
section
variable {a b p : D} (ha : Q a) (hb : Q b) (hp : Q p)
include ha hb hp
theorem word24_ok {i : Int} (h : f_went_over [a, b, p] = .ok (.int i) [none, none, none]) : f_law_word_v2 [a, b, p] = .ok (.str "told") [none, none, none] := by
  unfold f_law_word_v2
  rw [defFn_ap]
  simp -implicitDefEqProofs [m_law_word_v2, m_law_word_v2_1, h, ha.frz, ha.noObj, hb.frz, hb.noObj, hp.frz, hp.noObj]
theorem word24_1 (h : f_went_over [a, b, p] = .ex (xn "NoMarks") [none, none, none]) : f_law_word_v2 [a, b, p] = .ok (.str "early") [none, none, none] := by
  unfold f_law_word_v2
  rw [defFn_ap]
  simp -implicitDefEqProofs [m_law_word_v2, m_law_word_v2_1, m_law_word_v2_2, h, ha.frz, ha.noObj, hb.frz, hb.noObj, hp.frz, hp.noObj, isa24_00, isa24_01, isa24_02, isa24_10, isa24_11, isa24_12, isa24_20, isa24_21, isa24_22, isa24_0m, isa24_1m, isa24_2m, c24_1, i24_1]
theorem word24_2 (h : f_went_over [a, b, p] = .ex (xn "NoLater") [none, none, none]) : f_law_word_v2 [a, b, p] = .ok (.str "late") [none, none, none] := by
  unfold f_law_word_v2
  rw [defFn_ap]
  simp -implicitDefEqProofs [m_law_word_v2, m_law_word_v2_1, m_law_word_v2_2, h, ha.frz, ha.noObj, hb.frz, hb.noObj, hp.frz, hp.noObj, isa24_00, isa24_01, isa24_02, isa24_10, isa24_11, isa24_12, isa24_20, isa24_21, isa24_22, isa24_0m, isa24_1m, isa24_2m, c24_2, i24_2]
theorem word24_3 (h : f_went_over [a, b, p] = .ex (xn "NoPage") [none, none, none]) : f_law_word_v2 [a, b, p] = .ok (.str "leaf") [none, none, none] := by
  unfold f_law_word_v2
  rw [defFn_ap]
  simp -implicitDefEqProofs [m_law_word_v2, m_law_word_v2_1, m_law_word_v2_2, h, ha.frz, ha.noObj, hb.frz, hb.noObj, hp.frz, hp.noObj, isa24_00, isa24_01, isa24_02, isa24_10, isa24_11, isa24_12, isa24_20, isa24_21, isa24_22, isa24_0m, isa24_1m, isa24_2m, c24_3, i24_3]
end
/-- a row that is right -/
def Rw (d : D) : Prop := ∃ a b p w, d = .nd .tup false [a, b, p, .str w] ∧ Q a ∧ Q b ∧ Q p ∧ f_law_word_v2 [a, b, p] = .ok (.str w) [none, none, none]
theorem Rw.no {d : D} (h : Rw d) : noOwn d = true := by
  obtain ⟨a, b, p, w, rfl, ha, hb, hp, _⟩ := h
  simp [ha.no, hb.no, hp.no]
theorem Rw.noObj {d : D} (h : Rw d) : DL.noObj d = true := by
  obtain ⟨a, b, p, w, rfl, ha, hb, hp, _⟩ := h
  simp [ha.noObj, hb.noObj, hp.noObj]
theorem rows24 (rows : List D) (hr : ∀ d ∈ rows, Rw d) (hl : rows.length ≤ 100) (v0 v1 v2 v3 v4 v5 v6 v7 v8 v10 v11 v12 : Option D) : m_law_refused_right_2 [v0, v1, v2, v3, v4, v5, v6, v7, v8, some (.nd .lst true rows), v10, v11, v12] = .ok (.nd .lst true []) [v0, v1, v2, v3, v4, v5, v6, v7, v8, some (.nd .lst false rows), v10, v11, v12] := by
  have no : noOwns rows = true := noOwns_all fun d hd => (hr d hd).no
  have nb : noObjs rows = true := noObjs_all fun d hd => (hr d hd).noObj
  have fz := frzs_id rows no
  have := rLc_fm (own := [8, 10, 11, 12]) (f := iE (rFz 9)) (m := gT 4 (gsCons (gN 10) (gsCons (gN 11) (gsCons (gN 8) (gsCons (gN 12) gsNil))))) (tt := rOpEV dNeX (rCallB (f_law_word_v2) [] (aBw 10 (aBw 11 (aBw 8 aNil)))) (vVar 12)) (te := rV (vC (.int 1)))
    (ρ := [v0, v1, v2, v3, v4, v5, v6, v7, v8, some (.nd .lst true rows), v10, v11, v12]) (ρ1 := [v0, v1, v2, v3, v4, v5, v6, v7, v8, some (.nd .lst false rows), v10, v11, v12]) (ds := rows) (fun _ => false) (fun d => d)
    (by simp -implicitDefEqProofs [nb, no, fz]) (by omega) (fun d hd => by
      obtain ⟨a, b, p, w, rfl, ha, hb, hp, e⟩ := hr d hd
      refine ⟨_, rfl, [v0, v1, v2, v3, v4, v5, v6, v7, some p, some (.nd .lst false rows), some a, some b, some (.str w)], ?_, rfl, fun h => by cases h⟩
      simp -implicitDefEqProofs [e, ha.frz, ha.noObj, hb.frz, hb.noObj, hp.frz, hp.noObj])
  unfold m_law_refused_right_2
  rw [this]
  simp
/-- pages laid too far ahead -/
def farL (L : Int) (n : Nat) : List Int := (List.range n).map fun j : Nat => (j : Int) + L + 2
theorem ref24_1 (f l : List Int) (hl : l ≠ []) (at_ : Nat) (ha : at_ < f.length) (hf : f.length ≤ 12) (v0 v3 v4 v5 v7 v8 v9 v10 v11 v12 : Option D) : m_law_refused_right_1 [v0, some (il false f), some (il false l), v3, v4, v5, some (.int at_), v7, v8, v9, v10, v11, v12] = .ok (il true (farL (l.getLast hl) (f.length - at_ - 1))) [v0, some (il false f), some (il false l), v3, v4, v5, some (.int at_), v7, v8, v9, v10, v11, v12] := by
  have e1 : ∀ ρ, iR1V ρ (some [.int ((f.length : Int) - at_ - 1)]) = some (rgD 0 ((f.length : Int) - at_ - 1), ρ) := fun ρ => iR1V_s (by omega) (by omega)
  have e2 := at_last hl
  have := rLc_map (own := [8]) (f := iR1 (aE (rV (vOp dSub (vOp dSub (vB dLen (vCons (vVar 1) vNil)) (vVar 6)) (vC (.int 1)))) aNil)) (m := gN 8) (te := rOpEV dPl (rOpV dPl (vVar 8) (vOp dIx (vVar 2) (vUn dNeg (vC (.int 1))))) (vC (.int 2)))
    (ρ := [v0, some (il false f), some (il false l), v3, v4, v5, some (.int at_), v7, v8, v9, v10, v11, v12]) (ρ1 := [v0, some (il false f), some (il false l), v3, v4, v5, some (.int at_), v7, v8, v9, v10, v11, v12]) (ds := rgD 0 ((f.length : Int) - at_ - 1)) (fun d => match d with | .int i => .int (i + l.getLast hl + 2) | _ => .non)
    (by simp -implicitDefEqProofs [e1]) (by rw [rgD_len]; omega) (fun d hd => by
      obtain ⟨i, hi⟩ := List.getElem?_of_mem hd
      obtain ⟨rfl, hi⟩ := rgD_at hi
      refine ⟨_, rfl, rfl, ?_⟩
      generalize l.getLast hl = L at *
      simp -implicitDefEqProofs [e2])
  unfold m_law_refused_right_1
  rw [this]
  have e3 : (rgD 0 ((f.length : Int) - at_ - 1)).map (fun d => match d with | .int i => D.int (i + l.getLast hl + 2) | _ => .non) = (farL (l.getLast hl) (f.length - at_ - 1)).map .int := by
    unfold rgD farL
    rw [List.map_map, List.map_map, show ((f.length : Int) - at_ - 1 - 0).toNat = f.length - at_ - 1 by omega]
    apply List.map_congr_left
    intro i _
    simp
  rw [e3]
  simp
theorem farL_len (L : Int) (n : Nat) : (farL L n).length = n := by simp [farL]
theorem farL_ge (L : Int) (n : Nat) : ∀ i ∈ farL L n, L + 2 ≤ i := fun i hi => by
  obtain ⟨j, _, rfl⟩ := List.mem_map.mp hi
  omega
theorem farL_up (L : Int) (n : Nat) : (farL L n).Pairwise (· < ·) := by
  unfold farL
  rw [List.pairwise_map]
  exact List.pairwise_lt_range.imp fun h => by omega
theorem ahead_up {f l : List Int} (hf : Up f) (hl : Up l) (he : f.length = l.length) (hd : dom f l = true) {at_ : Nat} (ha : at_ < f.length) (ne : l ≠ []) :
    Up (f.take at_ ++ [l[at_]'(by omega) + 1] ++ farL (l.getLast ne) (f.length - at_ - 1)) ∧ (f.take at_ ++ [l[at_]'(by omega) + 1] ++ farL (l.getLast ne) (f.length - at_ - 1)).length = f.length ∧ dom (f.take at_ ++ [l[at_]'(by omega) + 1] ++ farL (l.getLast ne) (f.length - at_ - 1)) l = false := by
  have hlen : (f.take at_ ++ [l[at_]'(by omega) + 1] ++ farL (l.getLast ne) (f.length - at_ - 1)).length = f.length := by simp [farL_len]; omega
  have dj := (dom_iff he).mp hd
  have lastge : ∀ j (h : j < l.length), l[j] ≤ l.getLast ne := fun j h => up_lst hl.up ne _ (List.getElem_mem h)
  refine ⟨⟨by rw [hlen]; exact hf.ne, by rw [hlen]; exact hf.le, ?_, ?_⟩, hlen, ?_⟩
  · intro z hz
    rcases List.mem_append.mp hz with hz | hz
    · rcases List.mem_append.mp hz with hz | hz
      · exact hf.nn z (List.mem_of_mem_take hz)
      · have := hl.nn _ (List.getElem_mem (l := l) (n := at_) (by omega))
        rw [List.mem_singleton.mp hz]; omega
    · have h1 := farL_ge _ _ z hz
      have h2 := hl.nn _ (List.getLast_mem ne)
      omega
  · rw [List.pairwise_append, List.pairwise_append]
    refine ⟨⟨hf.up.sublist (List.take_sublist ..), List.pairwise_singleton .., fun x hx y hy => ?_⟩, farL_up .., fun x hx y hy => ?_⟩
    · rw [List.mem_singleton.mp hy]
      obtain ⟨j, hj, rfl⟩ := List.mem_iff_getElem.mp hx
      rw [List.length_take] at hj
      rw [List.getElem_take]
      have h1 := List.pairwise_iff_getElem.mp hf.up j at_ (by omega) ha (by omega)
      have h2 := dj at_ ha
      omega
    · have h1 := farL_ge _ _ y hy
      rcases List.mem_append.mp hx with hx | hx
      · obtain ⟨j, hj, rfl⟩ := List.mem_iff_getElem.mp hx
        rw [List.length_take] at hj
        rw [List.getElem_take]
        have h2 := dj j (by omega)
        have h3 := lastge j (by omega)
        omega
      · rw [List.mem_singleton.mp hx]
        have h3 := lastge at_ (by omega)
        omega
  · rw [← Bool.not_eq_true, dom_iff (by rw [hlen, he])]
    intro h
    have := h at_ (by rw [hlen]; exact ha)
    rw [List.getElem_append_left (by simp; omega), List.getElem_append_right (by rw [List.length_take]; omega)] at this
    simp at this
    omega
def badL (f : List Int) : List D := [.non, .nd .lst false [], .nd .lst false [.int 3, .int 3], .nd .lst false [.int 4, .int 2], .nd .lst false [.int (-1)], .nd .lst false [.bl true], .nd .lst false [.str "1"], .nd .tup false (f.map .int), il false (nI (List.range 13)), .nd .lst false [.int 0, .non]]
theorem badL_ok (f : List Int) : ∀ d ∈ badL f, Q d ∧ isMarks d = false := by
  intro d hd
  simp only [badL, List.mem_cons, List.not_mem_nil, or_false] at hd
  rcases hd with rfl | rfl | rfl | rfl | rfl | rfl | rfl | rfl | rfl | rfl
  case inr.inr.inr.inr.inr.inr.inr.inl => exact ⟨⟨Pls.ints f, by simp⟩, rfl⟩
  all_goals exact ⟨⟨by rfl, by rfl⟩, by first | rfl | decide +kernel⟩
def oddL : List D := [.int (-1), .non, .bl true, .str "1", .nd .lst false [.int 0], .nd .tup false [.int 1]]
theorem oddL_ok : ∀ d ∈ oddL, Q d ∧ (match d with | .int i => ¬ 0 ≤ i | _ => True) := by
  intro d hd
  simp only [oddL, List.mem_cons, List.not_mem_nil, or_false] at hd
  rcases hd with rfl | rfl | rfl | rfl | rfl | rfl <;> exact ⟨⟨rfl, rfl⟩, by first | trivial | decide⟩
theorem Up.q {f : List Int} (_ : Up f) : Q (il false f) := ⟨Pl_il .., by simp⟩
theorem ref24 {n : Nat} {R : D} (hR : Ok n R) (hn : n < 2 ^ 26) {f l : List Int} (hf : Up f) (hl : Up l) (he : f.length = l.length) (hd : dom f l = true) :
    ∃ R', f_law_refused_right [R, il false f, il false l] = .ok (.bl true) [some R', none, none] ∧ Ok (n + 3) R' := by
  have f12 := hf.le
  have f0 := hf.ne
  have ne : l ≠ [] := by
    intro z
    have : f.length = 0 := by rw [he, z]; rfl
    omega
  obtain ⟨j1, R1, e1, b1, o1⟩ := snipN 10 hR (by omega) (by omega) (by omega)
  obtain ⟨j2, R2, e2, b2, o2⟩ := snipN 6 o1 (by omega) (by omega) (by omega)
  obtain ⟨at_, R3, e3, b3, o3⟩ := snipN (f.length : Int) o2 (by omega) (by omega) (by omega)
  have ha : at_ < f.length := by omega
  have hal : at_ < l.length := he ▸ ha
  obtain ⟨bad, e4, hbad⟩ := pickN (xs := badL f) (r := j1) (by simp [badL]; omega)
  obtain ⟨odd, e5, hodd⟩ := pickN (xs := oddL) (r := j2) (by simp [oddL]; omega)
  obtain ⟨qb, zb⟩ := badL_ok f bad hbad
  obtain ⟨qo, zo⟩ := oddL_ok odd hodd
  obtain ⟨ua, la, da⟩ := ahead_up hf hl he hd ha ne
  have g1 := ref24_1 f l ne at_ ha f12
  have lt : L2.atI (l.map D.int) (at_ : Int) = some (.int (l[at_]'hal)) := atG (by omega)
  have ll := at_last ne
  have c1 := cut_to f at_
  have w0 := wentOver hf hl (p := .int 0) ⟨rfl, rfl⟩
  rw [if_pos ⟨he, hd⟩] at w0
  have w0 : f_went_over [il false f, il false l, .int 0] = .ok (.int ((pos f 1 : Int) - (pos l 1 : Int))) [none, none, none] := w0
  have r1 : Rw (.nd .tup false [il false f, il false l, .int 0, .str "told"]) := ⟨_, _, _, _, rfl, hf.q, hl.q, ⟨rfl, rfl⟩, word24_ok hf.q hl.q ⟨rfl, rfl⟩ w0⟩
  have r2 : Rw (.nd .tup false [bad, il false l, odd, .str "early"]) := ⟨_, _, _, _, rfl, qb, hl.q, qo, word24_1 qb hl.q qo (wentOverA qb hl.q qo zb)⟩
  have r3 : Rw (.nd .tup false [il false f, bad, .int 0, .str "early"]) := ⟨_, _, _, _, rfl, hf.q, qb, ⟨rfl, rfl⟩, word24_1 hf.q qb ⟨rfl, rfl⟩ (wentOverB hf qb ⟨rfl, rfl⟩ zb)⟩
  have r4 : Rw (.nd .tup false [il false f, il false l, odd, .str "leaf"]) := by
    refine ⟨_, _, _, _, rfl, hf.q, hl.q, qo, word24_3 hf.q hl.q qo ?_⟩
    rw [wentOver hf hl qo, if_pos ⟨he, hd⟩]
    cases odd with
    | int i => exact if_neg zo
    | _ => rfl
  have r5 : Rw (.nd .tup false [il false (f.take at_ ++ [l[at_]'hal + 1] ++ farL (l.getLast ne) (f.length - at_ - 1)), il false l, odd, .str "late"]) := by
    refine ⟨_, _, _, _, rfl, ua.q, hl.q, qo, word24_2 ua.q hl.q qo ?_⟩
    rw [wentOver ua hl qo, if_neg (fun h => by rw [da] at h; cases h.2)]
  have r6 : f.length < 12 → Rw (.nd .tup false [il false f, il false (l ++ [l.getLast ne + 1]), .int 0, .str "late"]) := fun h12 => by
    have ul : Up (l ++ [l.getLast ne + 1]) := ⟨by simp, by simp; omega, fun i hi => by
      rcases List.mem_append.mp hi with hi | hi
      · exact hl.nn i hi
      · have := hl.nn _ (List.getLast_mem ne)
        rw [List.mem_singleton.mp hi]; omega, by
      rw [List.pairwise_append]
      refine ⟨hl.up, List.pairwise_singleton .., fun a ha b hb => ?_⟩
      rw [List.mem_singleton.mp hb]
      have := up_lst hl.up ne a ha
      omega⟩
    refine ⟨_, _, _, _, rfl, hf.q, ul.q, ⟨rfl, rfl⟩, word24_2 hf.q ul.q ⟨rfl, rfl⟩ ?_⟩
    rw [wentOver hf ul ⟨rfl, rfl⟩, if_neg (fun h => by simp at h; omega)]
  have p1 := pl_il true true (f.take at_) [l[at_]'hal + 1] (by simp; omega)
  have p1 : dPl (il true (f.take at_)) (.nd .lst true [.int (l[at_]'hal + 1)]) = _ := p1
  have p2 := pl_il true true (f.take at_ ++ [l[at_]'hal + 1]) (farL (l.getLast ne) (f.length - at_ - 1)) (by simp [farL_len]; omega)
  have p3 := pl_il false true l [l.getLast ne + 1] (by simp; omega)
  have p3 : dPl (il false l) (.nd .lst true [.int (l.getLast ne + 1)]) = _ := p3
  have hcut : ∀ a b c d e g : D, DL.cutD [a, b, c, d, e, g] none (some (-1)) = [a, b, c, d, e] := fun _ _ _ _ _ _ => rfl
  have tp : dTup (il false f) = some (.nd .tup false (f.map .int)) := by simp [dTup]
  have hr13 : ∀ ρ, rRg1 (vC (.int 13)) ρ = .ok (il true (nI (List.range 13))) ρ := fun ρ => rRg1_s (n := 13) rfl (by omega)
  refine ⟨R3, ?_, o3.le (by omega)⟩
  simp only [badL] at e4
  simp only [oddL] at e5
  have bf := qb.frz
  have bn := qb.noObj
  have bo := qb.no
  have of := qo.frz
  have on := qo.noObj
  have oo := qo.no
  clear w0 zb zo hbad hodd da ua
  clear la
  generalize f.take at_ ++ [l[at_]'hal + 1] ++ farL (l.getLast ne) (f.length - at_ - 1) = A at *
  generalize f.take at_ ++ [l[at_]'hal + 1] = T1 at *
  generalize f.take at_ = T0 at *
  generalize farL (l.getLast ne) (f.length - at_ - 1) = FL at *
  generalize l ++ [l.getLast ne + 1] = B at *
  generalize l.getLast ne = L at *
  generalize l[at_]'hal = la_ at *
  have p7 := pl_s true true [D.nd .tup false [il false f, il false l, .int 0, .str "told"], .nd .tup false [bad, il false l, odd, .str "early"], .nd .tup false [il false f, bad, .int 0, .str "early"], .nd .tup false [il false f, il false l, odd, .str "leaf"]] [D.nd .tup false [il false A, il false l, odd, .str "late"], .nd .tup false [il false f, il false B, .int 0, .str "late"]] (by simp [bo, oo]) (by simp [oo]) (by simp)
  simp only [List.cons_append, List.nil_append] at p7
  have enil : dEq (.nd .lst true []) (.nd .lst true []) = some (.bl true) := rfl
  by_cases h12 : f.length = 12
  · have c12 : (f.length : Int) = 12 := by omega
    rw [c12] at e3
    have E := rows24 [D.nd .tup false [il false f, il false l, .int 0, .str "told"], .nd .tup false [bad, il false l, odd, .str "early"], .nd .tup false [il false f, bad, .int 0, .str "early"], .nd .tup false [il false f, il false l, odd, .str "leaf"], .nd .tup false [il false A, il false l, odd, .str "late"]] (by
        intro d hd
        simp only [List.mem_cons, List.not_mem_nil, or_false] at hd
        rcases hd with rfl | rfl | rfl | rfl | rfl <;> assumption) (by simp)
    clear r1 r2 r3 r4 r5 r6
    unfold f_law_refused_right
    rw [defFn_ap]
    simp -implicitDefEqProofs [m_law_refused_right, e1, e2, e3, e4, e5, lt, ll, c1, g1, p1, p2, p3, p7, hcut, tp, hr13, bf, bn, bo, of, on, oo, c12, E, o1.okB, o2.okB, o3.okB, enil]
  · have c12 : ¬ (f.length : Int) = 12 := by omega
    have r6 := r6 (by omega)
    have E := rows24 [D.nd .tup false [il false f, il false l, .int 0, .str "told"], .nd .tup false [bad, il false l, odd, .str "early"], .nd .tup false [il false f, bad, .int 0, .str "early"], .nd .tup false [il false f, il false l, odd, .str "leaf"], .nd .tup false [il false A, il false l, odd, .str "late"], .nd .tup false [il false f, il false B, .int 0, .str "late"]] (by
        intro d hd
        simp only [List.mem_cons, List.not_mem_nil, or_false] at hd
        rcases hd with rfl | rfl | rfl | rfl | rfl | rfl <;> assumption) (by simp)
    clear r1 r2 r3 r4 r5 r6
    unfold f_law_refused_right
    rw [defFn_ap]
    simp -implicitDefEqProofs [m_law_refused_right, e1, e2, e3, e4, e5, lt, ll, c1, g1, p1, p2, p3, p7, hcut, tp, hr13, bf, bn, bo, of, on, oo, c12, E, o1.okB, o2.okB, o3.okB, enil]
/-! ### each page looked at -/
def ov1 (G : List (Int × Int)) (x : Int) : List (Int × Int) := G.filter fun g => decide (g.1 ≤ x) && decide (x < g.2)
theorem k24_1 (G : List (Int × Int)) (hl : G.length ≤ 1000) (x : Int) (o : Bool) (v0 v1 v2 v3 v4 v6 v7 v8 v9 v10 v12 v13 v14 v15 : Option D) : m_LAW_k24_1 [v0, v1, v2, v3, v4, some (.nd .lst o (prL G)), v6, v7, v8, v9, v10, some (.int x), v12, v13, v14, v15] = .ok (il true ((ov1 G x).map (·.1))) [v0, v1, v2, v3, v4, some (.nd .lst false (prL G)), v6, v7, v8, v9, v10, some (.int x), v12, v13, v14, v15] := by
  have := rLc_fm (own := [13, 14]) (f := iE (rFz 5)) (m := gT 2 (gsCons (gN 13) (gsCons (gN 14) gsNil))) (tt := rV (vChain dLe dLt (vVar 13) (vVar 11) (vVar 14))) (te := rFz 13)
    (ρ := [v0, v1, v2, v3, v4, some (.nd .lst o (prL G)), v6, v7, v8, v9, v10, some (.int x), v12, v13, v14, v15]) (ρ1 := [v0, v1, v2, v3, v4, some (.nd .lst false (prL G)), v6, v7, v8, v9, v10, some (.int x), v12, v13, v14, v15]) (ds := prL G)
    (fun d => match d with | .nd _ _ [.int a, .int b] => decide (a ≤ x) && decide (x < b) | _ => false) (fun d => match d with | .nd _ _ [a, _] => a | _ => .non)
    (by simp -implicitDefEqProofs []) (by simp; omega) (fun d hd => by
      obtain ⟨g, hg, rfl⟩ := List.mem_map.mp hd
      refine ⟨_, rfl, [v0, v1, v2, v3, v4, some (.nd .lst false (prL G)), v6, v7, v8, v9, v10, some (.int x), v12, some (.int g.1), some (.int g.2), v15], ?_, rfl, fun _ => ?_⟩
      · by_cases a : g.1 ≤ x
        · simp -implicitDefEqProofs [a]
        · simp -implicitDefEqProofs [a]
      · simp -implicitDefEqProofs [])
  unfold m_LAW_k24_1
  rw [this]
  have e : ((prL G).filter (fun d => match d with | .nd _ _ [.int a, .int b] => decide (a ≤ x) && decide (x < b) | _ => false)).map (fun d => match d with | .nd _ _ [a, _] => a | _ => .non) = ((ov1 G x).map (·.1)).map .int := by
    unfold prL ov1
    rw [List.filter_map, List.map_map, List.map_map]
    rfl
  rw [e]
  simp
theorem ints2 (v : Int) (h : v.natAbs < 10 ^ 72) : ∃ S, dRepr [.nd .lst true [.int v, .int v]] = some (.str S) := ⟨_, (Rp.lst (o := true) (xs := [.int v, .int v]) (n := 73) (dep := 0) fun d hd => by
  simp at hd; subst hd; exact Rp.int h).s (by simp) (by decide)⟩
section
variable {s : Sd} {hs : List (Nat × Int)} (h : St s.1 s.2) (hh : Hi s.2.length hs) (hl : hs.length ≤ 1000)
include h hh hl
theorem k24_2 {n : Nat} {R : D} (hR : Ok n R) (hn : n < 2 ^ 26) (S : Str) (hS : dRepr [.nd .lst true [il false s.1, il false (sta s hs hs.length).1]] = some (.str S)) (y : Int) (o : Bool) (v0 v1 v3 v4 v6 v11 v12 v13 v14 v15 : Option D) :
    ∃ R' w11 w12 w15, m_LAW_k24_2 [v0, v1, some R, v3, v4, some (.nd .lst o (prL (goings s hs hs.length))), v6, some (il false s.1), some (il false (sta s hs hs.length).1), some (.str S), some (.int y), v11, v12, v13, v14, v15] =
      .nx [v0, v1, some R', v3, v4, some (.nd .lst false (prL (goings s hs hs.length))), v6, some (il false s.1), some (il false (sta s hs hs.length).1), some (.str S), some (.int y), w11, w12, v13, v14, w15] ∧ Ok (n + 1) R' := by
  obtain ⟨q, R1, e1, b1, o1⟩ := snipN 3 hR (by omega) (by omega) (by omega)
  obtain ⟨h1, h2, h3⟩ := sta_ok h hh hs.length (Nat.le_refl _)
  obtain ⟨x, hx, x0⟩ : ∃ x : Int, dMax2 [.int 0, .int (y + q - 1)] = some (.int x) ∧ 0 ≤ x := ⟨_, rfl, by split <;> omega⟩
  have dm : dom s.1 (sta s hs hs.length).1 = true := (dom_iff h2.symm).mpr fun j hj => sta_dom h hh (Nat.le_refl _) j hj
  have w := wentOver h.m h1.m (p := .int x) ⟨rfl, rfl⟩
  rw [if_pos ⟨h2.symm, dm⟩] at w
  have w : f_went_over [il false s.1, il false (sta s hs hs.length).1, .int x] = (if 0 ≤ x then .ok (.int ((pos s.1 (x + 1) : Int) - (pos (sta s hs hs.length).1 (x + 1) : Int))) [none, none, none] else .ex (xn "NoPage") [none, none, none]) := w
  rw [if_pos x0] at w
  have eq := ovr_pos h hh x hs.length (Nat.le_refl _)
  have eq2 : ((pos s.1 (x + 1) : Int) - (pos (sta s hs hs.length).1 (x + 1) : Int)) = ((ov1 (goings s hs hs.length) x).length : Int) := by
    show _ = ((ovr s hs hs.length x).length : Int)
    omega
  rw [eq2] at w
  have lo : (ov1 (goings s hs hs.length) x).length ≤ 1000 := Nat.le_trans (List.length_filter_le ..) (by rw [goings_len]; exact hl)
  obtain ⟨S2, r2⟩ := ints2 ((ov1 (goings s hs hs.length) x).length : Int) (by omega)
  have c := k24_1 (goings s hs hs.length) (by rw [goings_len]; exact hl) x o v0 v1 (some R1) v3 v4 v6 (some (il false s.1)) (some (il false (sta s hs hs.length).1)) (some (.str S)) (some (.int y)) v12 v13 v14 v15
  refine ⟨R1, some (.int x), some (.int ((ov1 (goings s hs hs.length) x).length : Int)), some (.nd .lst true [.int ((ov1 (goings s hs hs.length) x).length : Int), .int ((ov1 (goings s hs hs.length) x).length : Int)]), ?_, o1⟩
  generalize (sta s hs hs.length).1 = L at *
  have ln : ((ov1 (goings s hs hs.length) x).map (·.1)).length = (ov1 (goings s hs hs.length) x).length := by simp
  generalize (ov1 (goings s hs hs.length) x).map (·.1) = F at *
  generalize (ov1 (goings s hs hs.length) x).length = K at *
  generalize goings s hs hs.length = G at *
  clear eq eq2 dm
  simp -implicitDefEqProofs [m_LAW_k24_2, e1, hx, -dMax2_i, w, c, ln, r2, hS]
theorem k24_3 {n : Nat} {R : D} (hR : Ok n R) (hn : n < 2 ^ 25) (S : Str) (hS : dRepr [.nd .lst true [il false s.1, il false (sta s hs hs.length).1]] = some (.str S)) (v0 v1 v3 v4 v6 v10 v11 v12 v13 v14 v15 : Option D) :
    ∃ R' w10 w11 w12 w13 w14 w15 o, m_LAW_k24_3 [v0, v1, some R, v3, v4, some (.nd .lst true (prL (goings s hs hs.length))), v6, some (il false s.1), some (il false (sta s hs hs.length).1), some (.str S), v10, v11, v12, v13, v14, v15] =
      .nx [v0, v1, some R', v3, v4, some (.nd .lst o (prL (goings s hs hs.length))), v6, some (il false s.1), some (il false (sta s hs hs.length).1), some (.str S), w10, w11, w12, w13, w14, w15] ∧ Ok (n + 100) R' := by
  obtain ⟨h1, h2, h3⟩ := sta_ok h hh hs.length (Nat.le_refl _)
  have n1 := h.m.ne
  have l1 := h.m.le
  have ne : (sta s hs hs.length).1 ≠ [] := by
    intro z
    have : (sta s hs hs.length).1.length = 0 := by rw [z]; rfl
    omega
  have a0 := atG n1
  have a0 : L2.atI (s.1.map D.int) 0 = some (.int (s.1[0]'n1)) := a0
  have aL := at_last ne
  obtain ⟨Y, hY⟩ : ∃ Y : List Int, Y = s.1 ++ (sta s hs hs.length).1 ++ [(0 : Int), s.1[0]'n1, (sta s hs hs.length).1.getLast ne + 5] := ⟨_, rfl⟩
  have lY : Y.length ≤ 30 := by rw [hY]; simp; omega
  obtain ⟨I, hI⟩ : ∃ I : Nat → DL.Env → Prop, I = fun i ρ => ∃ R' w10 w11 w12 w13 w14 w15 o, ρ = [v0, v1, some R', v3, v4, some (.nd .lst o (prL (goings s hs hs.length))), v6, some (il false s.1), some (il false (sta s hs hs.length).1), some (.str S), w10, w11, w12, w13, w14, w15] ∧ Ok (n + i) R' := ⟨_, rfl⟩
  obtain ⟨ρ', e, hJ⟩ := loop_I (m := gN 10) (b := m_LAW_k24_2) I (Y.map .int) [v0, v1, some R, v3, v4, some (.nd .lst true (prL (goings s hs hs.length))), v6, some (il false s.1), some (il false (sta s hs hs.length).1), some (.str S), v10, v11, v12, v13, v14, v15] (by rw [hI]; exact ⟨R, _, _, _, _, _, _, true, rfl, hR⟩) (by
    intro i d ρ hd hi
    rw [hI] at hi
    obtain ⟨R', w10, w11, w12, w13, w14, w15, o, rfl, ok⟩ := hi
    have hi : i < (Y.map D.int).length := (List.getElem?_eq_some_iff.mp hd).1
    rw [List.length_map] at hi
    obtain ⟨y, _, rfl⟩ := List.mem_map.mp (List.mem_of_getElem? hd)
    obtain ⟨R2, u11, u12, u15, e2, o2⟩ := k24_2 h hh hl ok (by omega) S hS y o v0 v1 v3 v4 v6 w11 w12 w13 w14 w15
    refine ⟨_, rfl, ?_⟩
    show Nx (m_LAW_k24_2 [v0, v1, some R', v3, v4, some (.nd .lst o (prL (goings s hs hs.length))), v6, some (il false s.1), some (il false (sta s hs hs.length).1), some (.str S), some (.int y), w11, w12, w13, w14, w15]) _
    rw [e2, hI]
    exact ⟨R2, _, _, _, _, _, _, false, rfl, o2⟩)
  rw [hI] at hJ
  obtain ⟨R', w10, w11, w12, w13, w14, w15, o, rfl, ok⟩ := hJ
  rw [List.length_map] at ok
  refine ⟨R', w10, w11, w12, w13, w14, w15, o, ?_, ok.le (by omega)⟩
  have p1 := pl_il false false s.1 (sta s hs hs.length).1 (by omega)
  have p2 := pl_il true true (s.1 ++ (sta s hs hs.length).1) [(0 : Int), s.1[0]'n1, (sta s hs hs.length).1.getLast ne + 5] (by simp; omega)
  have p2 : dPl (il true (s.1 ++ (sta s hs hs.length).1)) (.nd .lst true [.int 0, .int (s.1[0]'n1), .int ((sta s hs hs.length).1.getLast ne + 5)]) = _ := p2
  rw [← hY] at p2
  clear hY
  generalize s.1 ++ (sta s hs hs.length).1 = Z at *
  generalize (sta s hs hs.length).1.getLast ne = gl at *
  generalize (sta s hs hs.length).1 = L at *
  generalize goings s hs hs.length = G at *
  simp -implicitDefEqProofs [m_LAW_k24_3, a0, aL, p1, p2, e]
end
theorem through_o (x : D) (hs : List (Nat × Int)) : f_law_through [x, .nd .lst true (rdL hs)] = f_law_through [x, .nd .lst false (rdL hs)] := by
  unfold f_law_through
  rw [defFn_ap, defFn_ap]
  simp -implicitDefEqProofs [m_law_through, m_law_through_2]
theorem k24_body {n : Nat} {R : D} (hR : Ok n R) (hn : n < 2 ^ 24) (v0 v1 v3 v4 v5 v6 v7 v8 v9 v10 v11 v12 v13 v14 v15 : Option D) :
    ∃ R' w3 w4 w5 w6 w7 w8 w9 w10 w11 w12 w13 w14 w15, m_LAW_k24_4 [v0, v1, some R, v3, v4, v5, v6, v7, v8, v9, v10, v11, v12, v13, v14, v15] = .nx [v0, v1, some R', w3, w4, w5, w6, w7, w8, w9, w10, w11, w12, w13, w14, w15] ∧ Ok (n + 5000) R' := by
  obtain ⟨R1, ms, cs, e1, o1, st, _, bd⟩ := dstand hR (by omega) 12 (by omega) (by omega)
  have e1 : f_law_stand [R, .int 12] = _ := e1
  obtain ⟨R2, hs, e2, o2, hh, hl⟩ := dhist o1 (by omega) st bd 20 (by omega)
  have e2 : f_law_history [R1, sd false ms cs, .int 20] = .ok (.nd .lst true (rdL hs)) _ := e2
  obtain ⟨s, hs'⟩ : ∃ s : Sd, s = (ms, cs) := ⟨_, rfl⟩
  have h' : St s.1 s.2 := by rw [hs']; exact st
  have hh' : Hi s.2.length hs := by rw [hs']; exact hh
  have bd' : Bd 2000000000000000000000000000000 s.1 := by rw [hs']; exact bd
  have eq : ∀ o, sd o ms cs = sdd o s := fun o => by rw [hs']
  rw [eq] at e1 e2
  have e3 := (through_o _ _).trans (through h' hh' (by omega))
  obtain ⟨h1, h2, h3⟩ := sta_ok h' hh' hs.length (Nat.le_refl _)
  have bl := sta_bd h' hh' bd' (by omega) hs.length (Nat.le_refl _)
  have dm : dom s.1 (sta s hs hs.length).1 = true := (dom_iff h2.symm).mpr fun j hj => sta_dom h' hh' (Nat.le_refl _) j hj
  obtain ⟨S, hS⟩ : ∃ S, dRepr [.nd .lst true [il false s.1, il false (sta s hs hs.length).1]] = some (.str S) := by
    have r1 := Rp.ints (o := false) (x := s.1) (bd'.abs' h'.m (by omega))
    have r2 := Rp.ints (o := false) (x := (sta s hs hs.length).1) (bl.abs' h1.m (by omega))
    have l1 := h'.m.le
    have l2 := h1.m.le
    exact ⟨_, (Rp.lst (o := true) (xs := [il false s.1, il false (sta s hs hs.length).1]) (n := 2000) (dep := 1) fun d hd => by
      simp only [List.mem_cons, List.not_mem_nil, or_false] at hd
      rcases hd with rfl | rfl
      · exact r1.le (by omega) (by omega)
      · exact r2.le (by omega) (by omega)).s (by simp) (by omega)⟩
  obtain ⟨R3, w10, w11, w12, w13, w14, w15, o, e4, o4⟩ := k24_3 h' hh' (by omega) o2 (by omega) S hS v0 v1 v3 (some (sdd false s)) (some (.nd .lst false (sdL false (stands s hs (hs.length + 1))))) v10 v11 v12 v13 v14 v15
  obtain ⟨R4, e5, o5⟩ := ref24 o4 (by omega) h'.m h1.m h2.symm dm
  have fz := sdM_frz s hs hs.length
  have nob := sdM_noObj s hs hs.length
  have la : L2.atI (sdL false (stands s hs (hs.length + 1))) (-1) = some (sdd false (sta s hs hs.length)) := by
    rw [stands_succ, ← sdL_snoc]; exact atI_last _ _
  have no : noOwns (sdL false (stands s hs (hs.length + 1))) = true := noOwns_sdF _
  refine ⟨R4, v3, some (sdd false s), some (.nd .lst o (prL (goings s hs hs.length))), some (.nd .lst false (sdL false (stands s hs (hs.length + 1)))), some (il false s.1), some (il false (sta s hs hs.length).1), some (.str S), w10, w11, w12, w13, w14, w15, ?_, o5.le (by omega)⟩
  generalize stands s hs (hs.length + 1) = ST at *
  generalize sdM s hs hs.length = SM at *
  generalize goings s hs hs.length = G at *
  generalize sta s hs hs.length = t at *
  clear dm
  simp -implicitDefEqProofs [m_LAW_k24_4, e1, e2, e3, hS, e4, e5, fz, nob, la, no, o2.okB, o4.okB, o5.okB]
theorem k24_turns {n : Nat} {R : D} (hR : Ok n R) (hn : n < 2 ^ 20) (v0 v1 v3 v4 v5 v6 v7 v8 v9 v10 v11 v12 v13 v14 v15 : Option D) : ∃ w2 w3 w4 w5 w6 w7 w8 w9 w10 w11 w12 w13 w14 w15, m_LAW_k24_5 [v0, v1, some R, v3, v4, v5, v6, v7, v8, v9, v10, v11, v12, v13, v14, v15] = .nx [v0, v1, w2, w3, w4, w5, w6, w7, w8, w9, w10, w11, w12, w13, w14, w15] := by
  obtain ⟨I, hI⟩ : ∃ I : Nat → DL.Env → Prop, I = fun i ρ => ∃ R' w3 w4 w5 w6 w7 w8 w9 w10 w11 w12 w13 w14 w15, ρ = [v0, v1, some R', w3, w4, w5, w6, w7, w8, w9, w10, w11, w12, w13, w14, w15] ∧ Ok (n + 5000 * i) R' := ⟨_, rfl⟩
  obtain ⟨ρ', e, hJ⟩ := loop_I (m := gN 3) (b := m_LAW_k24_4) I (rgD 0 2) [v0, v1, some R, v3, v4, v5, v6, v7, v8, v9, v10, v11, v12, v13, v14, v15] (by rw [hI]; exact ⟨R, _, _, _, _, _, _, _, _, _, _, _, _, _, rfl, hR⟩) (by
    intro i d ρ hd hi
    rw [hI] at hi
    obtain ⟨R', w3, w4, w5, w6, w7, w8, w9, w10, w11, w12, w13, w14, w15, rfl, o⟩ := hi
    obtain ⟨rfl, hi⟩ := rgD_at hd
    obtain ⟨R2, u3, u4, u5, u6, u7, u8, u9, u10, u11, u12, u13, u14, u15, e2, o2⟩ := k24_body o (by omega) v0 v1 (some (.int (0 + (i : Int)))) w4 w5 w6 w7 w8 w9 w10 w11 w12 w13 w14 w15
    refine ⟨_, rfl, ?_⟩
    show Nx (m_LAW_k24_4 [v0, v1, some R', some (.int (0 + (i : Int))), w4, w5, w6, w7, w8, w9, w10, w11, w12, w13, w14, w15]) _
    rw [e2, hI]
    exact ⟨R2, _, _, _, _, _, _, _, _, _, _, _, _, _, rfl, o2.le (by omega)⟩)
  rw [hI] at hJ
  obtain ⟨R', w3, w4, w5, w6, w7, w8, w9, w10, w11, w12, w13, w14, w15, rfl, _⟩ := hJ
  refine ⟨some R', w3, w4, w5, w6, w7, w8, w9, w10, w11, w12, w13, w14, w15, ?_⟩
  have e7 : ∀ ρ, iR1V ρ (some [.int 2]) = some (rgD 0 2, ρ) := fun ρ => iR1V_s (by omega) (by omega)
  simp -implicitDefEqProofs [m_LAW_k24_5, e7, e]
theorem law_true_k24 (ns : List Int) (hl : ns.length ≤ 63) (hb : ∀ z ∈ ns, Builtin.Int.intBits z ≤ 1048576) : ∃ ρ, f_LAW_k24 [.nd .fzl false (ns.map .int)] = .ok (.bl true) ρ := by
  obtain ⟨j, hj, hj2, hj3⟩ : ∃ j : Int, dMax2 [.int 1, .int (if 8 < (ns.length : Int) then 8 else (ns.length : Int))] = some (.int j) ∧ 0 ≤ j ∧ j ≤ 63 := ⟨_, rfl, by split <;> split <;> omega, by split <;> split <;> omega⟩
  obtain ⟨s0, hs⟩ : ∃ s0 : D, s0 = .nd .fzl false (ns.map .int) := ⟨_, rfl⟩
  obtain ⟨P, hP⟩ : ∃ P : DL.Env → Prop, P = fun ρ => ∃ u1 u2 u3 u4 u5 u6 u7 u8 u9 u10 u11 u12 u13 u14 u15, ρ = [some s0, u1, u2, u3, u4, u5, u6, u7, u8, u9, u10, u11, u12, u13, u14, u15] := ⟨_, rfl⟩
  obtain ⟨ρ', e3, hJ⟩ := loop_I (m := gN 1) (b := m_LAW_k24_6) (fun _ => P) (rgD 0 j) [some s0, none, none, none, none, none, none, none, none, none, none, none, none, none, none, none] (by rw [hP]; exact ⟨_, _, _, _, _, _, _, _, _, _, _, _, _, _, _, rfl⟩) (by
      intro i d ρ hd hi
      rw [hP] at hi
      obtain ⟨u1, u2, u3, u4, u5, u6, u7, u8, u9, u10, u11, u12, u13, u14, u15, rfl⟩ := hi
      obtain ⟨rfl, h4⟩ := rgD_at hd
      obtain ⟨R, e1, o⟩ := ribbon ns i (by omega)
      obtain ⟨w2, w3, w4, w5, w6, w7, w8, w9, w10, w11, w12, w13, w14, w15, e4⟩ := k24_turns o (by omega) (some s0) (some (.int (0 + (i : Int)))) u3 u4 u5 u6 u7 u8 u9 u10 u11 u12 u13 u14 u15
      refine ⟨_, rfl, ?_⟩
      rw [Int.zero_add] at e4 ⊢
      subst hs
      simp -implicitDefEqProofs [m_LAW_k24_6, e1, e4, o.okB]
      rw [hP]
      exact ⟨_, _, _, _, _, _, _, _, _, _, _, _, _, _, _, rfl⟩)
  rw [hP] at hJ
  obtain ⟨u1, u2, u3, u4, u5, u6, u7, u8, u9, u10, u11, u12, u13, u14, u15, rfl⟩ := hJ
  refine ⟨[none], ?_⟩
  have e1 : ∀ ρ, iR1V ρ (some [.int j]) = some (rgD 0 j, ρ) := fun ρ => iR1V_s (by omega) (by omega)
  subst hs
  unfold f_LAW_k24
  rw [defFn_ap]
  simp -implicitDefEqProofs [m_LAW_k24, m_LAW_k24_7, -dMax2_i, hj, e1, e3]
end PM
namespace L_k24
open PySem L2 PyProof.Rows DL PM
def topS (i : Nat) : Stmt := PySem.Challenge.pw_plainmarks_k24_how_many_went_over.main.body.getD i (.Pass ⟨0, 0, 0, 0⟩)
abbrev s_law_snip : Stmt := topS 15
abbrev N_law_snip : List Str := ["_law_ribbon_here", "_law_many", "_law_found", "_law_kneaded"]
theorem sc_law_snip : FnScope N_law_snip ["_law_ribbon_here", "_law_many"] (defScope s_law_snip) := ⟨rfl, rfl, rfl, by decide +kernel, rfl, by decide +kernel, by decide +kernel⟩
abbrev s_law_history : Stmt := topS 18
abbrev N_law_history : List Str := ["_law_ribbon_here", "_law_stand_here", "_law_most", "_law_pages", "_law_counts", "_law_found", "_law_turn", "_law_ends", "_law_some"]
theorem sc_law_history : FnScope N_law_history ["_law_ribbon_here", "_law_stand_here", "_law_most"] (defScope s_law_history) := ⟨rfl, rfl, rfl, by decide +kernel, rfl, by decide +kernel, by decide +kernel⟩
abbrev s_is_whole : Stmt := topS 7
abbrev N_is_whole : List Str := ["thing", "least", "most"]
theorem sc_is_whole : FnScope N_is_whole ["thing", "least", "most"] (defScope s_is_whole) := ⟨rfl, rfl, rfl, by decide +kernel, rfl, by decide +kernel, by decide +kernel⟩
abbrev s_is_page : Stmt := topS 8
abbrev N_is_page : List Str := ["thing"]
theorem sc_is_page : FnScope N_is_page ["thing"] (defScope s_is_page) := ⟨rfl, rfl, rfl, by decide +kernel, rfl, by decide +kernel, by decide +kernel⟩
abbrev s_is_marks : Stmt := topS 9
abbrev N_is_marks : List Str := ["thing", "one", "other"]
theorem sc_is_marks : FnScope N_is_marks ["thing"] (defScope s_is_marks) := ⟨rfl, rfl, rfl, by decide +kernel, rfl, by decide +kernel, by decide +kernel⟩
abbrev s_need_marks : Stmt := topS 10
abbrev N_need_marks : List Str := ["marks"]
theorem sc_need_marks : FnScope N_need_marks ["marks"] (defScope s_need_marks) := ⟨rfl, rfl, rfl, by decide +kernel, rfl, by decide +kernel, by decide +kernel⟩
abbrev s_went_over : Stmt := topS 12
abbrev N_went_over : List Str := ["marks", "later", "page", "one", "other", "mark"]
theorem sc_went_over : FnScope N_went_over ["marks", "later", "page"] (defScope s_went_over) := ⟨rfl, rfl, rfl, by decide +kernel, rfl, by decide +kernel, by decide +kernel⟩
abbrev s_law_word : Stmt := topS 21
abbrev N_law_word : List Str := ["_law_early", "_law_late", "_law_leaf", "_law_caught", "_law_kinds", "e"]
theorem sc_law_word : FnScope N_law_word ["_law_early", "_law_late", "_law_leaf"] (defScope s_law_word) := ⟨rfl, rfl, rfl, by decide +kernel, rfl, by decide +kernel, by decide +kernel⟩
abbrev s_law_refused_right : Stmt := topS 22
abbrev N_law_refused_right : List Str := ["_law_ribbon_here", "_law_first", "_law_last", "_law_some", "_law_bad", "_law_odd", "_law_at", "_law_ahead", "_law_leaf", "_law_rows", "_law_one", "_law_other", "_law_due"]
theorem sc_law_refused_right : FnScope N_law_refused_right ["_law_ribbon_here", "_law_first", "_law_last"] (defScope s_law_refused_right) := ⟨rfl, rfl, rfl, by decide +kernel, rfl, by decide +kernel, by decide +kernel⟩
abbrev s_law_ribbon : Stmt := topS 14
abbrev N_law_ribbon : List Str := ["_law_script", "_law_k", "_law_cell"]
theorem sc_law_ribbon : FnScope N_law_ribbon ["_law_script", "_law_k"] (defScope s_law_ribbon) := ⟨rfl, rfl, rfl, by decide +kernel, rfl, by decide +kernel, by decide +kernel⟩
abbrev s_law_marks : Stmt := topS 16
abbrev N_law_marks : List Str := ["_law_ribbon_here", "_law_most", "_law_wide", "_law_at", "_law_found", "_law_turn"]
theorem sc_law_marks : FnScope N_law_marks ["_law_ribbon_here", "_law_most"] (defScope s_law_marks) := ⟨rfl, rfl, rfl, by decide +kernel, rfl, by decide +kernel, by decide +kernel⟩
abbrev s_law_stand : Stmt := topS 17
abbrev N_law_stand : List Str := ["_law_ribbon_here", "_law_most", "_law_pages", "_law_many", "_law_turn"]
theorem sc_law_stand : FnScope N_law_stand ["_law_ribbon_here", "_law_most"] (defScope s_law_stand) := ⟨rfl, rfl, rfl, by decide +kernel, rfl, by decide +kernel, by decide +kernel⟩
abbrev s_law_read : Stmt := topS 19
abbrev N_law_read : List Str := ["_law_stand_here", "_law_reader", "_law_many", "_law_pages", "_law_counts", "_law_here", "_law_to", "_law_one"]
theorem sc_law_read : FnScope N_law_read ["_law_stand_here", "_law_reader", "_law_many"] (defScope s_law_read) := ⟨rfl, rfl, rfl, by decide +kernel, rfl, by decide +kernel, by decide +kernel⟩
abbrev s_law_through : Stmt := topS 20
abbrev N_law_through : List Str := ["_law_stand_here", "_law_history_here", "_law_goings", "_law_stands", "_law_reader", "_law_many", "_law_went", "_law_late"]
theorem sc_law_through : FnScope N_law_through ["_law_stand_here", "_law_history_here"] (defScope s_law_through) := ⟨rfl, rfl, rfl, by decide +kernel, rfl, by decide +kernel, by decide +kernel⟩
abbrev s_law : Stmt := topS 23
abbrev N_law : List Str := ["_law_script", "_law_k", "_law_ribbon_here", "_law_turn", "_law_stand_here", "_law_goings", "_law_stands", "_law_first", "_law_last", "_law_stays", "_law_one", "_law_spot", "_law_due", "_law_here", "_law_to", "_law_told"]
theorem sc_law : FnScope N_law ["_law_script"] (defScope s_law) := ⟨rfl, rfl, rfl, by decide +kernel, rfl, by decide +kernel, by decide +kernel⟩
/-! ### what the top has left -/
structure Facts (K : PySem.W.Frag) (mg : Str → Option Value) (cm : Str → Option Addr) : Prop where
  XF : XF K mg cm ["MarkError", "NoMarks", "NoLater", "NoPage"]
  z_abs : mg "abs" = none
  z_all : mg "all" = none
  z_bool : mg "bool" = none
  z_int : mg "int" = none
  z_isinstance : mg "isinstance" = none
  z_len : mg "len" = none
  z_list : mg "list" = none
  z_max : mg "max" = none
  z_min : mg "min" = none
  z_range : mg "range" = none
  z_repr : mg "repr" = none
  z_tuple : mg "tuple" = none
  z_zip : mg "zip" = none
  c_MOST_MARKS : ∃ u, mg "MOST_MARKS" = some u ∧ RelV (.int 12) u
  F_law_snip : Fx K mg "_law_snip" s_law_snip []
  F_law_history : Fx K mg "_law_history" s_law_history []
  F_is_whole : Fx K mg "is_whole" s_is_whole [.non]
  F_is_page : Fx K mg "is_page" s_is_page []
  F_is_marks : Fx K mg "is_marks" s_is_marks []
  F_need_marks : Fx K mg "need_marks" s_need_marks []
  F_went_over : Fx K mg "went_over" s_went_over []
  F_law_word : Fx K mg "_law_word" s_law_word []
  F_law_refused_right : Fx K mg "_law_refused_right" s_law_refused_right []
  F_law_ribbon : Fx K mg "_law_ribbon" s_law_ribbon []
  F_law_marks : Fx K mg "_law_marks" s_law_marks []
  F_law_stand : Fx K mg "_law_stand" s_law_stand []
  F_law_read : Fx K mg "_law_read" s_law_read []
  F_law_through : Fx K mg "_law_through" s_law_through []
  F_law : Fx K mg "law" s_law []
section
variable {P : Program} {w : World} {K : PySem.W.Frag} {mg : Str → Option Value} {base : Heap} {cm : Str → Option Addr}
theorem gI {X : Cx} {x : Str} {i : Int} {pos : Pos} (hg : Gl X x) (h : ∃ u, X.mg x = some u ∧ RelV (.int i) u) (hd : (x == ("__debug__" : Str)) = false := by decide) : GV X cm (.Name x pos) (vC (.int i)) := by
  obtain ⟨u, h1, h2⟩ := h
  exact Vw.globI hg h1 h2 hd
theorem gS {X : Cx} {x : Str} {i : Str} {pos : Pos} (hg : Gl X x) (h : ∃ u, X.mg x = some u ∧ RelV (.str i) u) (hd : (x == ("__debug__" : Str)) = false := by decide) : GV X cm (.Name x pos) (vC (.str i)) := by
  obtain ⟨u, h1, h2⟩ := h
  exact Vw.globS hg h1 h2 hd
theorem fb_law_snip_2 {k : Nat} {fn : Fn} (D : Df P w K mg base cm k "_law_snip" s_law_snip [] ["_law_ribbon_here", "_law_many"] fn) : FBo P w K mg base cm k "_law_snip" [] 2 fn := D.all fun _ _ _ _ _ _ us hl => match us, hl with | [_, _], _ => rfl
theorem df_law_snip (V : Facts K mg cm) (hB : ∃ mm, base.Ns sysModules mm) : Df P w K mg base cm 1 "_law_snip" s_law_snip [] ["_law_ribbon_here", "_law_many"] f_law_snip :=
  Df.mk' (k := 0) (N := N_law_snip) hB [true, false] V.F_law_snip sc_law_snip (by rfl) (io_ok (by rfl)) fun _ _ _ _ _ _ _ b =>
    have nd := sc_law_snip.nd
    ((B.cons (S.if (T.cmpV op_gt o_gt (by rfl) (Vw.ix (vN 0) Vw.int) Vw.int) (B.cons (sSet 2 nd (E.ofV (Vw.op op_mod o_mod (Vw.ix (vN 0) Vw.int) (vN 1))))
      (B.cons (S.asg (E.ofV (Vw.op op_fdivW o_div (Vw.ix (vN 0) Vw.int) (vN 1))) (G.set (pNm 0) Vw.int))
      (B.one (S.ret (eM 2))))) B.nil)
      (B.cons (S.asg (E.ofV (Vw.op op_addP o_add (Vw.ix (vN 0) Vw.int) Vw.int)) (G.set (pNm 0) Vw.int))
      (B.cons (sSet 3 nd (E.ofV (Vw.op op_mod o_mod (Vw.op op_powW o_pow (Vw.op op_addP o_add (Vw.op op_mulX o_mul (Vw.ix (vN 0) Vw.int) Vw.int) (Vw.op op_mulX o_mul Vw.int (Vw.ix (vN 0) Vw.int))) Vw.int) (Vw.op op_addP o_add (Vw.op op_powW o_pow Vw.int Vw.int) Vw.int))))
      (B.cons (sSet 3 nd (E.ofV (Vw.op op_mod o_mod (Vw.op op_powW o_pow (Vw.op op_addP o_add (vN 3) (Vw.op op_mulX o_mul Vw.int (Vw.op op_powW o_pow (Vw.ix (vN 0) Vw.int) Vw.int))) Vw.int) (Vw.op op_addP o_add (Vw.op op_powW o_pow Vw.int Vw.int) Vw.int))))
      (B.one (S.ret (E.ofV (Vw.op op_mod o_mod (Vw.op op_fdivW o_div (vN 3) Vw.int) (vN 1))))))))))
theorem fb_law_history_3 {k : Nat} {fn : Fn} (D : Df P w K mg base cm k "_law_history" s_law_history [] ["_law_ribbon_here", "_law_stand_here", "_law_most"] fn) : FBo P w K mg base cm k "_law_history" [] 3 fn := D.all fun _ _ _ _ _ _ us hl => match us, hl with | [_, _, _], _ => rfl
theorem df_law_history (V : Facts K mg cm) (hB : ∃ mm, base.Ns sysModules mm) : Df P w K mg base cm 2 "_law_history" s_law_history [] ["_law_ribbon_here", "_law_stand_here", "_law_most"] f_law_history :=
  Df.mk' (k := 1) (N := N_law_history) hB [true, false, false] V.F_law_history sc_law_history (by rfl) (io_ok (by rfl)) fun _ _ _ _ _ _ _ b =>
    have nd := sc_law_history.nd
    ((B.cons (S.asg (eM 1) (G.tup b.calm (Gs.cons (gNm 3 nd) (Gs.cons (gNm 4 nd) Gs.nil))))
      (B.cons (sSet 5 nd (E.lst A.nil))
      (B.cons (S.for b.po b.calm (I.range1 (by rfl) V.z_range (A.e (E.call (FB.of ((fb_law_snip_2 (df_law_snip V hB)).mono (k := 1) (by decide))) b.hg b.hr takes0 (by rfl) Flat.nil (by rfl) (aI 0 (A.e (E.ofV (Vw.op op_addP o_add (vN 2) Vw.int)) A.nil))) A.nil)) (gNm 6 nd) (B.cons (sSet 7 nd (E.lst (A.e (eIxN 3 (E.call (FB.of ((fb_law_snip_2 (df_law_snip V hB)).mono (k := 1) (by decide))) b.hg b.hr b.tk (by rfl) Flat.nil (by rfl) (aI 0 (A.e (E.ofV (Vw.bi c_len call_len (by rfl) V.z_len PySem.boot_len (VA.cons (vN 3) VA.nil))) A.nil)))) (A.e (eIxN 3 (E.call (FB.of ((fb_law_snip_2 (df_law_snip V hB)).mono (k := 1) (by decide))) b.hg b.hr b.tk (by rfl) Flat.nil (by rfl) (aI 0 (A.e (E.ofV (Vw.bi c_len call_len (by rfl) V.z_len PySem.boot_len (VA.cons (vN 3) VA.nil))) A.nil)))) A.nil))))
      (B.cons (sSet 8 nd (E.lst (A.e (E.opG op_pl o_pl (E.ofV Vw.int) (E.call (FB.of ((fb_law_snip_2 (df_law_snip V hB)).mono (k := 1) (by decide))) b.hg b.hr b.tk (by rfl) Flat.nil (by rfl) (aI 0 (A.e (E.ofV Vw.int) A.nil)))) (A.e (E.bi c_max2 (call_max2 b.calm) (by rfl) V.z_max (by decide +kernel) (A.e (E.ofV Vw.int) (A.e (E.opEV op_sub o_sub.g (E.opG op_pl o_pl (E.ofV (Vw.bi c_abs call_abs (by rfl) V.z_abs (by decide +kernel) (VA.cons (Vw.op op_sub o_sub (Vw.ix (vN 7) Vw.int) (Vw.ix (vN 7) Vw.int)) VA.nil))) (E.call (FB.of ((fb_law_snip_2 (df_law_snip V hB)).mono (k := 1) (by decide))) b.hg b.hr b.tk (by rfl) Flat.nil (by rfl) (aI 0 (A.e (E.ofV Vw.int) A.nil)))) Vw.int) A.nil))) A.nil))))
      (B.cons (S.do (eMtN 8 PySem.F.slot_list_append PySem.F.type_list_append mt_append u_app (A.e (E.opG op_pl o_pl (E.ofV Vw.int) (E.call (FB.of ((fb_law_snip_2 (df_law_snip V hB)).mono (k := 1) (by decide))) b.hg b.hr b.tk (by rfl) Flat.nil (by rfl) (aI 0 (A.e (E.ix (E.lst (A.e (E.ofV Vw.int) (A.e (E.ofV (Vw.op op_powW o_pow Vw.int Vw.int)) A.nil))) (E.call (FB.of ((fb_law_snip_2 (df_law_snip V hB)).mono (k := 1) (by decide))) b.hg b.hr b.tk (by rfl) Flat.nil (by rfl) (aI 0 (A.e (E.ofV Vw.int) A.nil)))) A.nil)))) A.nil)))
      (B.one (S.do (eMtN 5 PySem.F.slot_list_append PySem.F.type_list_append mt_append u_app (A.e (E.tup (A.e (E.call (FB.of ((fb_law_snip_2 (df_law_snip V hB)).mono (k := 1) (by decide))) b.hg b.hr b.tk (by rfl) Flat.nil (by rfl) (aI 0 (A.e (E.ofV (Vw.bi c_len call_len (by rfl) V.z_len PySem.boot_len (VA.cons (vN 4) VA.nil))) A.nil))) (A.e (eIxN 8 (E.call (FB.of ((fb_law_snip_2 (df_law_snip V hB)).mono (k := 1) (by decide))) b.hg b.hr b.tk (by rfl) Flat.nil (by rfl) (aI 0 (A.e (E.ofV Vw.int) A.nil)))) A.nil))) A.nil))))))))
      (B.one (S.ret (eM 5)))))))
theorem fb_is_whole_2 {k : Nat} {fn : Fn} (D : Df P w K mg base cm k "is_whole" s_is_whole [.non] ["thing", "least", "most"] fn) : FBo P w K mg base cm k "is_whole" ([V.non].drop 0) 3 fn := D.part (m := 2) (j := 0) (by simp) (by rfl) fun _ _ _ _ _ _ _ us its hl h2 => match us, hl, its, h2 with | [_, _], _, [_], _ => ⟨_, rfl, rfl⟩
theorem df_is_whole (V : Facts K mg cm) (hB : ∃ mm, base.Ns sysModules mm) : Df P w K mg base cm 1 "is_whole" s_is_whole [.non] ["thing", "least", "most"] f_is_whole :=
  Df.mk' (k := 0) (N := N_is_whole) hB [false, false, false] V.F_is_whole sc_is_whole (by rfl) (io_ok (by rfl)) fun _ _ _ _ _ _ _ b =>
    have nd := sc_is_whole.nd
    ((B.cons (S.if (T.w (W.or (T.not (T.val (E.ofV (Vw.isi .int (by rfl) V.z_isinstance (by rfl) V.z_int (by decide +kernel) (vN 0))))) (W.or (T.val (E.ofV (Vw.isi .bool (by rfl) V.z_isinstance (by rfl) V.z_bool (by decide +kernel) (vN 0)))) (W.or1 (T.cmpV op_lt o_lt (by rfl) (vN 0) (vN 1)))))) (B.one (S.ret (E.ofV Vw.bl))) B.nil)
      (B.one (S.ret (E.or (E.ofV (Vw.cmp op_isN o_isN (by rfl) (vN 2) Vw.non)) (E.bo1 (E.ofV (Vw.cmp op_le o_le (by rfl) (vN 0) (vN 2)))))))))
theorem fb_is_page_1 {k : Nat} {fn : Fn} (D : Df P w K mg base cm k "is_page" s_is_page [] ["thing"] fn) : FBo P w K mg base cm k "is_page" [] 1 fn := D.all fun _ _ _ _ _ _ us hl => match us, hl with | [_], _ => rfl
theorem df_is_page (V : Facts K mg cm) (hB : ∃ mm, base.Ns sysModules mm) : Df P w K mg base cm 2 "is_page" s_is_page [] ["thing"] f_is_page :=
  Df.mk' (k := 1) (N := N_is_page) hB [false] V.F_is_page sc_is_page (by rfl) (io_ok (by rfl)) fun _ _ _ _ _ _ _ b =>
    have nd := sc_is_page.nd
    ((B.one (S.ret (E.callB (FB.of ((fb_is_whole_2 (df_is_whole V hB)).mono (k := 1) (by decide))) b.hg b.hr b.tk (by rfl) Flat.non (by rfl) (aB 0 (A.e (E.ofV Vw.int) A.nil))))))
theorem fb_is_marks_1 {k : Nat} {fn : Fn} (D : Df P w K mg base cm k "is_marks" s_is_marks [] ["thing"] fn) : FBo P w K mg base cm k "is_marks" [] 1 fn := D.all fun _ _ _ _ _ _ us hl => match us, hl with | [_], _ => rfl
theorem df_is_marks (V : Facts K mg cm) (hB : ∃ mm, base.Ns sysModules mm) : Df P w K mg base cm 3 "is_marks" s_is_marks [] ["thing"] f_is_marks :=
  Df.mk' (k := 2) (N := N_is_marks) hB [false] V.F_is_marks sc_is_marks (by rfl) (io_ok (by rfl)) fun _ _ _ _ _ _ _ b =>
    have nd := sc_is_marks.nd
    ((B.cons (S.if (T.w (W.or (T.not (T.val (E.ofV (Vw.isi .list (by rfl) V.z_isinstance (by rfl) V.z_list (by decide +kernel) (vN 0))))) (W.or (T.not (T.chain op_le o_le op_le o_le Vw.int (Vw.bi c_len call_len (by rfl) V.z_len PySem.boot_len (VA.cons (vN 0) VA.nil)) (gI (by rfl) V.c_MOST_MARKS))) (W.or1 (T.not (T.val (E.bi c_all (cr_all b.calm) (by rfl) V.z_all (by decide +kernel) (A.e (E.lend [] (E.lc (own := [("one", 1)]) b.calm nd (I.e (eF 0)) (blkOk_by (N := N_is_marks) (sc := defScope s_is_marks) (by decide +kernel)) (fun _ _ _ _ _ => (gNm 1 nd)) (fun _ _ _ _ _ => Ts.nil) (fun _ _ _ _ _ => (E.callB (FB.of ((fb_is_page_1 (df_is_page V hB)).mono (k := 2) (by decide))) b.hg b.hr takes0 (by rfl) Flat.nil (by rfl) (aB 1 A.nil))) LnG.name (ownN (by decide)))) A.nil)))))))) (B.one (S.ret (E.ofV Vw.bl))) B.nil)
      (B.one (S.ret (E.bi c_all (cr_all b.calm) (by rfl) V.z_all (by decide +kernel) (A.e (E.lc (own := [("one", 1), ("other", 2)]) b.calm nd (I.zip (by rfl) V.z_zip (A.e (eF 0) (A.e (E.t (E.slV (vN 0) (O.v Vw.int) O.no)) A.nil))) (blkOk_by (N := N_is_marks) (sc := defScope s_is_marks) (by decide +kernel)) (fun _ _ _ _ _ => (G.tup b.calm (Gs.cons (gNm 1 nd) (Gs.cons (gNm 2 nd) Gs.nil)))) (fun _ _ _ _ _ => Ts.nil) (fun _ _ _ _ _ => (E.ofV (Vw.cmp op_lt o_lt (by rfl) (vN 1) (vN 2)))) (LnG.tup (LnGs.cons LnG.name (LnGs.cons LnG.name LnGs.nil))) (ownC (ownN (by decide)) (ownC (ownN (by decide)) own0))) A.nil))))))
theorem fb_need_marks_1 {k : Nat} {fn : Fn} (D : Df P w K mg base cm k "need_marks" s_need_marks [] ["marks"] fn) : FBo P w K mg base cm k "need_marks" [] 1 fn := D.all fun _ _ _ _ _ _ us hl => match us, hl with | [_], _ => rfl
theorem df_need_marks (V : Facts K mg cm) (hB : ∃ mm, base.Ns sysModules mm) : Df P w K mg base cm 4 "need_marks" s_need_marks [] ["marks"] f_need_marks :=
  Df.mk' (k := 3) (N := N_need_marks) hB [false] V.F_need_marks sc_need_marks (by rfl) (io_ok (by rfl)) fun _ _ _ _ _ _ _ b =>
    have nd := sc_need_marks.nd
    ((B.one (S.if (T.not (T.val (E.callB (FB.of ((fb_is_marks_1 (df_is_marks V hB)).mono (k := 3) (by decide))) b.hg b.hr b.tk (by rfl) Flat.nil (by rfl) (aB 0 A.nil)))) (B.one (S.raise (cs := ["MarkError", "NoMarks", "NoLater", "NoPage"]) V.XF (by decide) (by decide) b.calm b.tk (by rfl))) B.nil)))
theorem fk_went_over_210 {k : Nat} {fn : Fn} (D : Df P w K mg base cm k "went_over" s_went_over [] ["marks", "later", "page"] fn) : FKo P w K mg base cm k "went_over" ["page", "later", "marks"] [2, 1, 0] 3 fn := D.keys [2, 1, 0] fun _ _ _ _ _ _ us hl => match us, hl with | [_, _, _], _ => rfl
theorem fb_went_over_3 {k : Nat} {fn : Fn} (D : Df P w K mg base cm k "went_over" s_went_over [] ["marks", "later", "page"] fn) : FBo P w K mg base cm k "went_over" [] 3 fn := D.all fun _ _ _ _ _ _ us hl => match us, hl with | [_, _, _], _ => rfl
theorem df_went_over (V : Facts K mg cm) (hB : ∃ mm, base.Ns sysModules mm) : Df P w K mg base cm 5 "went_over" s_went_over [] ["marks", "later", "page"] f_went_over :=
  Df.mk' (k := 4) (N := N_went_over) hB [false, false, false] V.F_went_over sc_went_over (by rfl) (io_ok (by rfl)) fun _ _ _ _ _ _ _ b =>
    have nd := sc_went_over.nd
    ((B.cons (S.do (E.callB (FB.of ((fb_need_marks_1 (df_need_marks V hB)).mono (k := 4) (by decide))) b.hg b.hr b.tk (by rfl) Flat.nil (by rfl) (aB 0 A.nil)))
      (B.cons (S.do (E.callB (FB.of ((fb_need_marks_1 (df_need_marks V hB)).mono (k := 4) (by decide))) b.hg b.hr b.tk (by rfl) Flat.nil (by rfl) (aB 1 A.nil)))
      (B.cons (S.if (T.w (W.or (T.cmpV (op_neX b.hr.units) o_neX (by rfl) (Vw.bi c_len call_len (by rfl) V.z_len PySem.boot_len (VA.cons (vN 0) VA.nil)) (Vw.bi c_len call_len (by rfl) V.z_len PySem.boot_len (VA.cons (vN 1) VA.nil))) (W.or1 (T.not (T.val (E.bi c_all (cr_all b.calm) (by rfl) V.z_all (by decide +kernel) (A.e (E.lend [] (E.lc (own := [("one", 3), ("other", 4)]) b.calm nd (I.zip (by rfl) V.z_zip (A.e (eF 0) (A.e (eF 1) A.nil))) (blkOk_by (N := N_went_over) (sc := defScope s_went_over) (by decide +kernel)) (fun _ _ _ _ _ => (G.tup b.calm (Gs.cons (gNm 3 nd) (Gs.cons (gNm 4 nd) Gs.nil)))) (fun _ _ _ _ _ => Ts.nil) (fun _ _ _ _ _ => (E.ofV (Vw.cmp op_le o_le (by rfl) (vN 3) (vN 4)))) (LnG.tup (LnGs.cons LnG.name (LnGs.cons LnG.name LnGs.nil))) (ownC (ownN (by decide)) (ownC (ownN (by decide)) own0)))) A.nil))))))) (B.one (S.raise (cs := ["MarkError", "NoMarks", "NoLater", "NoPage"]) V.XF (by decide) (by decide) b.calm b.tk (by rfl))) B.nil)
      (B.cons (S.if (T.not (T.val (E.callB (FB.of ((fb_is_page_1 (df_is_page V hB)).mono (k := 4) (by decide))) b.hg b.hr b.tk (by rfl) Flat.nil (by rfl) (aB 2 A.nil)))) (B.one (S.raise (cs := ["MarkError", "NoMarks", "NoLater", "NoPage"]) V.XF (by decide) (by decide) b.calm b.tk (by rfl))) B.nil)
      (B.one (S.ret (E.opG op_sub o_sub.g (E.bi c_len call_len (by rfl) V.z_len PySem.boot_len (A.e (E.lc (own := [("mark", 5)]) b.calm nd (I.e (eF 0)) (blkOk_by (N := N_went_over) (sc := defScope s_went_over) (by decide +kernel)) (fun _ _ _ _ _ => (gNm 5 nd)) (fun _ _ _ _ _ => (Ts.one (T.cmpV op_le o_le (by rfl) (vN 5) (vN 2)))) (fun _ _ _ _ _ => (eF 5)) LnG.name (ownN (by decide))) A.nil)) (E.bi c_len call_len (by rfl) V.z_len PySem.boot_len (A.e (E.lc (own := [("mark", 5)]) b.calm nd (I.e (eF 1)) (blkOk_by (N := N_went_over) (sc := defScope s_went_over) (by decide +kernel)) (fun _ _ _ _ _ => (gNm 5 nd)) (fun _ _ _ _ _ => (Ts.one (T.cmpV op_le o_le (by rfl) (vN 5) (vN 2)))) (fun _ _ _ _ _ => (eF 5)) LnG.name (ownN (by decide))) A.nil))))))))))
theorem fb_law_word_3 {k : Nat} {fn : Fn} (D : Df P w K mg base cm k "_law_word" s_law_word [] ["_law_early", "_law_late", "_law_leaf"] fn) : FBo P w K mg base cm k "_law_word" [] 3 fn := D.all fun _ _ _ _ _ _ us hl => match us, hl with | [_, _, _], _ => rfl
theorem df_law_word (V : Facts K mg cm) (hB : ∃ mm, base.Ns sysModules mm) : Df P w K mg base cm 6 "_law_word" s_law_word [] ["_law_early", "_law_late", "_law_leaf"] f_law_word_v2 :=
  Df.mk' (k := 5) (N := N_law_word) hB [false, false, false] V.F_law_word sc_law_word (by rfl) (io_ok (by rfl)) fun _ _ _ _ _ _ _ b =>
    have nd := sc_law_word.nd
    ((B.cons (sSet 3 nd (E.ofV Vw.non))
      (B.cons (S.try (cs := ["MarkError", "NoMarks", "NoLater", "NoPage"]) V.XF b rfl rfl rfl (fun _ _ _ b => (B.one (S.do (E.callB (FB.of ((fb_went_over_3 (df_went_over V hB)).mono (k := 5) (by decide))) b.hg b.hr b.tk (by rfl) Flat.nil (by rfl) (aB 0 (aB 1 (aB 2 A.nil))))))) (HdD.as (i := 5) (by decide) (by rfl) (by decide) nd (by rfl) (by rfl) (fun _ b => (B.one (sSet 3 nd (eF 5)))) HdD.nil))
      (B.cons (sSet 4 nd (E.lst (A.e (E.ofV (Vw.isX (cs := ["MarkError", "NoMarks", "NoLater", "NoPage"]) V.XF (by decide) (by rfl) V.z_isinstance (by rfl) (vN 3))) (A.e (E.ofV (Vw.isX (cs := ["MarkError", "NoMarks", "NoLater", "NoPage"]) V.XF (by decide) (by rfl) V.z_isinstance (by rfl) (vN 3))) (A.e (E.ofV (Vw.isX (cs := ["MarkError", "NoMarks", "NoLater", "NoPage"]) V.XF (by decide) (by rfl) V.z_isinstance (by rfl) (vN 3))) A.nil)))))
      (B.cons (S.if (T.cmpV op_isN o_isN (by rfl) (vN 3) Vw.non) (B.one (S.ret (E.ofV Vw.str))) B.nil)
      (B.one (S.ret (E.ite (T.cmpV (op_eqX b.hr.units) o_eqX (by rfl) (Vw.mt PySem.F.slot_list_count PySem.F.type_list_count (mt_lcountD (hu65 b.hr)) v_countD (vN 4) (VA.cons Vw.bl VA.nil)) Vw.int) (E.ix (E.lst (A.e (E.ofV Vw.str) (A.e (E.ofV Vw.str) (A.e (E.ofV Vw.str) A.nil)))) (E.ofV (Vw.mt PySem.F.slot_list_index PySem.F.type_list_index (mt_indexD (hu65 b.hr)) v_index (vN 4) (VA.cons Vw.bl VA.nil)))) (E.ofV Vw.str)))))))))
theorem fb_law_refused_right_3 {k : Nat} {fn : Fn} (D : Df P w K mg base cm k "_law_refused_right" s_law_refused_right [] ["_law_ribbon_here", "_law_first", "_law_last"] fn) : FBo P w K mg base cm k "_law_refused_right" [] 3 fn := D.all fun _ _ _ _ _ _ us hl => match us, hl with | [_, _, _], _ => rfl
theorem df_law_refused_right (V : Facts K mg cm) (hB : ∃ mm, base.Ns sysModules mm) : Df P w K mg base cm 7 "_law_refused_right" s_law_refused_right [] ["_law_ribbon_here", "_law_first", "_law_last"] f_law_refused_right :=
  Df.mk' (k := 6) (N := N_law_refused_right) hB [true, false, false] V.F_law_refused_right sc_law_refused_right (by rfl) (io_ok (by rfl)) fun _ _ _ _ _ _ _ b =>
    have nd := sc_law_refused_right.nd
    ((B.cons (sSet 3 nd (E.lst (A.e (E.ofV Vw.non) (A.e (E.t (E.lst A.nil)) (A.e (E.t (E.lst (A.e (E.ofV Vw.int) (A.e (E.ofV Vw.int) A.nil)))) (A.e (E.t (E.lst (A.e (E.ofV Vw.int) (A.e (E.ofV Vw.int) A.nil)))) (A.e (E.t (E.lst (A.e (E.ofV (Vw.un un_neg o_neg Vw.int)) A.nil))) (A.e (E.t (E.lst (A.e (E.ofV Vw.bl) A.nil))) (A.e (E.t (E.lst (A.e (E.ofV Vw.str) A.nil))) (A.e (E.t (E.tupV (by rfl) V.z_tuple (vN 1))) (A.e (E.t (E.listRg1 b.calm (by rfl) V.z_list (by rfl) V.z_range Vw.int)) (A.e (E.t (E.lst (A.e (E.ofV Vw.int) (A.e (E.ofV Vw.non) A.nil)))) A.nil))))))))))))
      (B.cons (sSet 4 nd (E.ix (eF 3) (E.call (FB.of ((fb_law_snip_2 (df_law_snip V hB)).mono (k := 6) (by decide))) b.hg b.hr b.tk (by rfl) Flat.nil (by rfl) (aI 0 (A.e (E.ofV Vw.int) A.nil)))))
      (B.cons (sSet 5 nd (E.ix (E.lst (A.e (E.ofV (Vw.un un_neg o_neg Vw.int)) (A.e (E.ofV Vw.non) (A.e (E.ofV Vw.bl) (A.e (E.ofV Vw.str) (A.e (E.t (E.lst (A.e (E.ofV Vw.int) A.nil))) (A.e (E.t (E.tup (A.e (E.ofV Vw.int) A.nil))) A.nil))))))) (E.call (FB.of ((fb_law_snip_2 (df_law_snip V hB)).mono (k := 6) (by decide))) b.hg b.hr b.tk (by rfl) Flat.nil (by rfl) (aI 0 (A.e (E.ofV Vw.int) A.nil)))))
      (B.cons (sSet 6 nd (E.call (FB.of ((fb_law_snip_2 (df_law_snip V hB)).mono (k := 6) (by decide))) b.hg b.hr b.tk (by rfl) Flat.nil (by rfl) (aI 0 (A.e (E.ofV (Vw.bi c_len call_len (by rfl) V.z_len PySem.boot_len (VA.cons (vN 1) VA.nil))) A.nil))))
      (B.cons (sSet 7 nd (E.opG op_pl o_pl (E.opG op_pl o_pl (E.slV (vN 1) O.no (O.v (vN 6))) (E.lst (A.e (E.ofV (Vw.op op_addP o_add (Vw.ix (vN 2) (vN 6)) Vw.int)) A.nil))) (E.lc (own := [("_law_leaf", 8)]) b.calm nd (I.range1 (by rfl) V.z_range (A.e (E.ofV (Vw.op op_sub o_sub (Vw.op op_sub o_sub (Vw.bi c_len call_len (by rfl) V.z_len PySem.boot_len (VA.cons (vN 1) VA.nil)) (vN 6)) Vw.int)) A.nil)) (blkOk_by (N := N_law_refused_right) (sc := defScope s_law_refused_right) (by decide +kernel)) (fun _ _ _ _ _ => (gNm 8 nd)) (fun _ _ _ _ _ => Ts.nil) (fun _ _ _ _ _ => (E.opEV op_pl o_pl (E.opV op_pl o_pl (vN 8) (Vw.ix (vN 2) (Vw.un un_neg o_neg Vw.int))) Vw.int)) LnG.name (ownN (by decide)))))
      (B.cons (sSet 9 nd (E.lst (A.e (E.t (E.tup (A.e (eF 1) (A.e (eF 2) (A.e (E.ofV Vw.int) (A.e (E.ofV Vw.str) A.nil)))))) (A.e (E.t (E.tup (A.e (eF 4) (A.e (eF 2) (A.e (eF 5) (A.e (E.ofV Vw.str) A.nil)))))) (A.e (E.t (E.tup (A.e (eF 1) (A.e (eF 4) (A.e (E.ofV Vw.int) (A.e (E.ofV Vw.str) A.nil)))))) (A.e (E.t (E.tup (A.e (eF 1) (A.e (eF 2) (A.e (eF 5) (A.e (E.ofV Vw.str) A.nil)))))) A.nil))))))
      (B.cons (sSet 9 nd (eOpN 9 op_pl o_pl (E.lst (A.e (E.t (E.tup (aL 7 (A.e (eF 2) (aL 5 (A.e (E.ofV Vw.str) A.nil)))))) (A.e (E.t (E.tup (A.e (eF 1) (A.e (E.t (eOpN 2 op_pl o_pl (E.lst (A.e (E.ofV (Vw.op op_addP o_add (Vw.ix (vN 2) (Vw.un un_neg o_neg Vw.int)) Vw.int)) A.nil)))) (A.e (E.ofV Vw.int) (A.e (E.ofV Vw.str) A.nil)))))) A.nil)))))
      (B.cons (S.if (T.cmpV (op_eqX b.hr.units) o_eqX (by rfl) (Vw.bi c_len call_len (by rfl) V.z_len PySem.boot_len (VA.cons (vN 1) VA.nil)) Vw.int) (B.one (sSet 9 nd (E.slV (vN 9) O.no (O.v (Vw.un un_neg o_neg Vw.int))))) B.nil)
      (B.one (S.ret (E.cmp (op_eqX b.hr.units) o_eqX (by rfl) (E.lc (own := [("_law_leaf", 8), ("_law_one", 10), ("_law_other", 11), ("_law_due", 12)]) b.calm nd (I.e (eF 9)) (blkOk_by (N := N_law_refused_right) (sc := defScope s_law_refused_right) (by decide +kernel)) (fun _ _ _ _ _ => (G.tup b.calm (Gs.cons (gNm 10 nd) (Gs.cons (gNm 11 nd) (Gs.cons (gNm 8 nd) (Gs.cons (gNm 12 nd) Gs.nil)))))) (fun _ _ _ _ _ => (Ts.one (T.cmpEV (op_neX b.hr.units) o_neX.g (by rfl) (E.callB (FB.of ((fb_law_word_3 (df_law_word V hB)).mono (k := 6) (by decide))) b.hg b.hr takes0 (by rfl) Flat.nil (by rfl) (aB 10 (aB 11 (aB 8 A.nil)))) (vN 12)))) (fun _ _ _ _ _ => (E.ofV Vw.int)) (LnG.tup (LnGs.cons LnG.name (LnGs.cons LnG.name (LnGs.cons LnG.name (LnGs.cons LnG.name LnGs.nil))))) (ownC (ownN (by decide)) (ownC (ownN (by decide)) (ownC (ownN (by decide)) (ownC (ownN (by decide)) own0))))) (E.lst A.nil)))))))))))))
theorem fb_law_ribbon_2 {k : Nat} {fn : Fn} (D : Df P w K mg base cm k "_law_ribbon" s_law_ribbon [] ["_law_script", "_law_k"] fn) : FBo P w K mg base cm k "_law_ribbon" [] 2 fn := D.all fun _ _ _ _ _ _ us hl => match us, hl with | [_, _], _ => rfl
theorem df_law_ribbon (V : Facts K mg cm) (hB : ∃ mm, base.Ns sysModules mm) : Df P w K mg base cm 1 "_law_ribbon" s_law_ribbon [] ["_law_script", "_law_k"] f_law_ribbon :=
  Df.mk' (k := 0) (N := N_law_ribbon) hB [false, false] V.F_law_ribbon sc_law_ribbon (by rfl) (io_ok (by rfl)) fun _ _ _ _ _ _ _ b =>
    have nd := sc_law_ribbon.nd
    ((B.cons (sSet 2 nd (E.ofV Vw.int))
      (B.cons (S.if (T.cmpV op_lt o_lt (by rfl) (vN 1) (Vw.bi c_len call_len (by rfl) V.z_len PySem.boot_len (VA.cons (vN 0) VA.nil))) (B.one (sSet 2 nd (E.ofV (Vw.ix (vN 0) (vN 1))))) B.nil)
      (B.one (S.ret (E.lst (A.e (E.ofV (Vw.bi c_max2 (call_max2 b.calm) (by rfl) V.z_max (by decide +kernel) (VA.cons Vw.int (VA.cons (Vw.op op_sub o_sub (vN 2) (Vw.op op_powW o_pow Vw.int Vw.int)) VA.nil)))) (A.e (E.ofV (Vw.op op_addP o_add (Vw.op op_addP o_add (Vw.op op_mulX o_mul (Vw.op op_mod o_mod (vN 2) (Vw.op op_addP o_add (Vw.op op_powW o_pow Vw.int Vw.int) Vw.int)) Vw.int) (vN 1)) Vw.int)) (A.e (E.ofV Vw.int) A.nil)))))))))
theorem fb_law_marks_2 {k : Nat} {fn : Fn} (D : Df P w K mg base cm k "_law_marks" s_law_marks [] ["_law_ribbon_here", "_law_most"] fn) : FBo P w K mg base cm k "_law_marks" [] 2 fn := D.all fun _ _ _ _ _ _ us hl => match us, hl with | [_, _], _ => rfl
theorem df_law_marks (V : Facts K mg cm) (hB : ∃ mm, base.Ns sysModules mm) : Df P w K mg base cm 2 "_law_marks" s_law_marks [] ["_law_ribbon_here", "_law_most"] f_law_marks :=
  Df.mk' (k := 1) (N := N_law_marks) hB [true, false] V.F_law_marks sc_law_marks (by rfl) (io_ok (by rfl)) fun _ _ _ _ _ _ _ b =>
    have nd := sc_law_marks.nd
    ((B.cons (sSet 2 nd (E.ix (E.lst (A.e (E.ofV Vw.int) (A.e (E.ofV Vw.int) (A.e (E.ofV Vw.int) (A.e (E.ofV (Vw.op op_powW o_pow Vw.int Vw.int)) A.nil))))) (E.call (FB.of ((fb_law_snip_2 (df_law_snip V hB)).mono (k := 1) (by decide))) b.hg b.hr b.tk (by rfl) Flat.nil (by rfl) (aI 0 (A.e (E.ofV Vw.int) A.nil)))))
      (B.cons (sSet 3 nd (E.call (FB.of ((fb_law_snip_2 (df_law_snip V hB)).mono (k := 1) (by decide))) b.hg b.hr b.tk (by rfl) Flat.nil (by rfl) (aI 0 (A.e (E.ofV Vw.int) A.nil))))
      (B.cons (sSet 4 nd (E.lst A.nil))
      (B.cons (S.for b.po b.calm (I.range1 (by rfl) V.z_range (A.e (E.opG op_pl o_pl (E.ofV Vw.int) (E.callB (FB.of ((fb_law_snip_2 (df_law_snip V hB)).mono (k := 1) (by decide))) b.hg b.hr takes0 (by rfl) Flat.nil (by rfl) (aI 0 (aB 1 A.nil)))) A.nil)) (gNm 5 nd) (B.cons (S.do (E.mtV PySem.F.slot_list_append PySem.F.type_list_append mt_append u_app (pNm 4) (VA.cons (vN 3) VA.nil)))
      (B.one (sSet 3 nd (E.opG op_pl o_pl (E.ofV (Vw.op op_addP o_add (vN 3) Vw.int)) (E.callB (FB.of ((fb_law_snip_2 (df_law_snip V hB)).mono (k := 1) (by decide))) b.hg b.hr b.tk (by rfl) Flat.nil (by rfl) (aI 0 (aB 2 A.nil))))))))
      (B.one (S.ret (eM 4))))))))
theorem fb_law_stand_2 {k : Nat} {fn : Fn} (D : Df P w K mg base cm k "_law_stand" s_law_stand [] ["_law_ribbon_here", "_law_most"] fn) : FBo P w K mg base cm k "_law_stand" [] 2 fn := D.all fun _ _ _ _ _ _ us hl => match us, hl with | [_, _], _ => rfl
theorem df_law_stand (V : Facts K mg cm) (hB : ∃ mm, base.Ns sysModules mm) : Df P w K mg base cm 3 "_law_stand" s_law_stand [] ["_law_ribbon_here", "_law_most"] f_law_stand :=
  Df.mk' (k := 2) (N := N_law_stand) hB [true, false] V.F_law_stand sc_law_stand (by rfl) (io_ok (by rfl)) fun _ _ _ _ _ _ _ b =>
    have nd := sc_law_stand.nd
    ((B.cons (sSet 2 nd (E.callB (FB.of ((fb_law_marks_2 (df_law_marks V hB)).mono (k := 2) (by decide))) b.hg b.hr b.tk (by rfl) Flat.nil (by rfl) (aI 0 (aB 1 A.nil))))
      (B.cons (S.if (T.cmpEV (op_eqX b.hr.units) o_eqX.g (by rfl) (E.call (FB.of ((fb_law_snip_2 (df_law_snip V hB)).mono (k := 2) (by decide))) b.hg b.hr b.tk (by rfl) Flat.nil (by rfl) (aI 0 (A.e (E.ofV Vw.int) A.nil))) Vw.int) (B.one (S.ret (E.tup (aL 2 (A.e (E.listRg1 b.calm (by rfl) V.z_list (by rfl) V.z_range (Vw.bi c_len call_len (by rfl) V.z_len PySem.boot_len (VA.cons (vN 2) VA.nil))) A.nil))))) B.nil)
      (B.cons (sSet 3 nd (E.opG op_pl o_pl (E.ofV Vw.int) (E.callB (FB.of ((fb_law_snip_2 (df_law_snip V hB)).mono (k := 2) (by decide))) b.hg b.hr b.tk (by rfl) Flat.nil (by rfl) (aI 0 (aB 1 A.nil)))))
      (B.one (S.ret (E.tup (aL 2 (A.e (E.lc (own := [("_law_turn", 4)]) b.calm nd (I.range1 (by rfl) V.z_range (A.e (eF 3) A.nil)) (blkOk_by (N := N_law_stand) (sc := defScope s_law_stand) (by decide +kernel)) (fun _ _ _ _ _ => (gNm 4 nd)) (fun _ _ _ _ _ => Ts.nil) (fun _ _ _ _ _ => (E.call (FB.of ((fb_law_snip_2 (df_law_snip V hB)).mono (k := 2) (by decide))) b.hg b.hr takes0 (by rfl) Flat.nil (by rfl) (aI 0 (A.e (E.ofV (Vw.bi c_len call_len (by rfl) V.z_len PySem.boot_len (VA.cons (vN 2) VA.nil))) A.nil)))) LnG.name (ownN (by decide))) A.nil)))))))))
theorem fb_law_read_3 {k : Nat} {fn : Fn} (D : Df P w K mg base cm k "_law_read" s_law_read [] ["_law_stand_here", "_law_reader", "_law_many"] fn) : FBo P w K mg base cm k "_law_read" [] 3 fn := D.all fun _ _ _ _ _ _ us hl => match us, hl with | [_, _, _], _ => rfl
theorem df_law_read (V : Facts K mg cm) (hB : ∃ mm, base.Ns sysModules mm) : Df P w K mg base cm 1 "_law_read" s_law_read [] ["_law_stand_here", "_law_reader", "_law_many"] f_law_read :=
  Df.mk' (k := 0) (N := N_law_read) hB [false, false, false] V.F_law_read sc_law_read (by rfl) (io_ok (by rfl)) fun _ _ _ _ _ _ _ b =>
    have nd := sc_law_read.nd
    ((B.cons (S.par (i := 3) (j := 4) b.calm nd rfl rfl (by decide) (by rfl) (by rfl) (A.e (E.tyNV n_list call_list_of (by rfl) V.z_list (by decide +kernel) (VA.cons (Vw.ix (vN 0) Vw.int) VA.nil)) (A.e (E.tyNV n_list call_list_of (by rfl) V.z_list (by decide +kernel) (VA.cons (Vw.ix (vN 0) Vw.int) VA.nil)) A.nil)) (by rfl))
      (B.cons (sSet 5 nd (E.mtV PySem.F.slot_list_pop PySem.F.type_list_pop mt_popAt u_popAt (pNm 3) (VA.cons (Vw.ix (vN 4) (vN 1)) VA.nil)))
      (B.cons (sSet 6 nd (E.ofV (Vw.op op_addP o_add (vN 5) (vN 2))))
      (B.cons (S.while 100 b.po (T.cmpV (op_inX (hu65 b.hr)) o_in (by rfl) (vN 6) (vN 3)) (B.one (sSet 6 nd (E.ofV (Vw.op op_addP o_add (vN 6) Vw.int)))))
      (B.cons (S.asg (E.bi c_len call_len (by rfl) V.z_len PySem.boot_len (A.e (E.lend [] (E.lc (own := [("_law_one", 7)]) b.calm nd (I.e (eF 3)) (blkOk_by (N := N_law_read) (sc := defScope s_law_read) (by decide +kernel)) (fun _ _ _ _ _ => (gNm 7 nd)) (fun _ _ _ _ _ => (Ts.one (T.cmpV op_lt o_lt (by rfl) (vN 7) (vN 6)))) (fun _ _ _ _ _ => (eF 7)) LnG.name (ownN (by decide)))) A.nil)) (G.set (pNm 4) (vN 1)))
      (B.cons (S.do (E.mtV PySem.F.slot_list_insert PySem.F.type_list_insert mt_insert u_ins (pNm 3) (VA.cons (Vw.ix (vN 4) (vN 1)) (VA.cons (vN 6) VA.nil))))
      (B.one (S.ret (E.tup (A.e (E.tup (A.e (eF 5) (A.e (eF 6) A.nil))) (A.e (E.tup (aL 3 (aL 4 A.nil))) A.nil))))))))))))
theorem fb_law_through_2 {k : Nat} {fn : Fn} (D : Df P w K mg base cm k "_law_through" s_law_through [] ["_law_stand_here", "_law_history_here"] fn) : FBo P w K mg base cm k "_law_through" [] 2 fn := D.all fun _ _ _ _ _ _ us hl => match us, hl with | [_, _], _ => rfl
theorem df_law_through (V : Facts K mg cm) (hB : ∃ mm, base.Ns sysModules mm) : Df P w K mg base cm 2 "_law_through" s_law_through [] ["_law_stand_here", "_law_history_here"] f_law_through :=
  Df.mk' (k := 1) (N := N_law_through) hB [false, false] V.F_law_through sc_law_through (by rfl) (io_ok (by rfl)) fun _ _ _ _ _ _ _ b =>
    have nd := sc_law_through.nd
    ((B.cons (S.par (i := 2) (j := 3) b.calm nd rfl rfl (by decide) (by rfl) (by rfl) (A.e (E.lst A.nil) (A.e (E.lst (aL 0 A.nil)) A.nil)) (by rfl))
      (B.cons (S.for b.po b.calm (I.e (eF 1)) (G.tup b.calm (Gs.cons (gNm 4 nd) (Gs.cons (gNm 5 nd) Gs.nil))) (B.cons (S.asg (E.lend [] (E.callB (FB.of ((fb_law_read_3 (df_law_read V hB)).mono (k := 1) (by decide))) b.hg b.hr b.tk (by rfl) Flat.nil (by rfl) (A.e (E.ix (eF 3) (E.ofV (Vw.un un_neg o_neg Vw.int))) (aB 4 (aB 5 A.nil))))) (G.tup b.calm (Gs.cons (gNm 6 nd) (Gs.cons (gNm 7 nd) Gs.nil))))
      (B.cons (S.do (E.mtV PySem.F.slot_list_append PySem.F.type_list_append mt_append u_app (pNm 2) (VA.cons (vN 6) VA.nil)))
      (B.one (S.do (eMtN 3 PySem.F.slot_list_append PySem.F.type_list_append mt_append u_app (aL 7 A.nil)))))))
      (B.one (S.ret (E.tup (aL 2 (aL 3 A.nil))))))))
theorem df_law (V : Facts K mg cm) (hB : ∃ mm, base.Ns sysModules mm) : Df P w K mg base cm 8 "law" s_law [] ["_law_script"] f_LAW_k24 :=
  Df.mk' (k := 7) (N := N_law) hB [false] V.F_law sc_law (by rfl) (io_ok (by rfl)) fun _ _ _ _ _ _ _ b =>
    have nd := sc_law.nd
    ((B.cons (S.for b.po b.calm (I.range1 (by rfl) V.z_range (A.e (E.ofV (Vw.bi c_max2 (call_max2 b.calm) (by rfl) V.z_max (by decide +kernel) (VA.cons Vw.int (VA.cons (Vw.bi c_min2 (call_min2 b.calm) (by rfl) V.z_min (by decide +kernel) (VA.cons (Vw.bi c_len call_len (by rfl) V.z_len PySem.boot_len (VA.cons (vN 0) VA.nil)) (VA.cons Vw.int VA.nil))) VA.nil)))) A.nil)) (gNm 1 nd) (B.cons (sSet 2 nd (E.callB (FB.of ((fb_law_ribbon_2 (df_law_ribbon V hB)).mono (k := 7) (by decide))) b.hg b.hr b.tk (by rfl) Flat.nil (by rfl) (aB 0 (aB 1 A.nil))))
      (B.one (S.for b.po b.calm (I.range1 (by rfl) V.z_range (A.e (E.ofV Vw.int) A.nil)) (gNm 3 nd) (B.cons (sSet 4 nd (E.call (FB.of ((fb_law_stand_2 (df_law_stand V hB)).mono (k := 7) (by decide))) b.hg b.hr b.tk (by rfl) Flat.nil (by rfl) (aI 2 (A.e (E.ofV Vw.int) A.nil))))
      (B.cons (S.asg (E.call (FB.of ((fb_law_through_2 (df_law_through V hB)).mono (k := 7) (by decide))) b.hg b.hr b.tk (by rfl) Flat.nil (by rfl) (A.e (eF 4) (A.e (E.callB (FB.of ((fb_law_history_3 (df_law_history V hB)).mono (k := 7) (by decide))) b.hg b.hr b.tk (by rfl) Flat.nil (by rfl) (aI 2 (aB 4 (A.e (E.ofV Vw.int) A.nil)))) A.nil))) (G.tup b.calm (Gs.cons (gNm 5 nd) (Gs.cons (gNm 6 nd) Gs.nil))))
      (B.cons (S.par (i := 7) (j := 8) b.calm nd rfl rfl (by decide) (by rfl) (by rfl) (A.e (E.ix (eF 4) (E.ofV Vw.int)) (A.e (E.ix (E.ix (eF 6) (E.ofV (Vw.un un_neg o_neg Vw.int))) (E.ofV Vw.int)) A.nil)) (by rfl))
      (B.cons (sSet 9 nd (E.bi c_repr (cr_repr b.hg b.hr b.sys) (by rfl) V.z_repr (by decide +kernel) (A.e (E.lst (A.e (eF 7) (A.e (eF 8) A.nil))) A.nil)))
      (B.cons (S.for b.po b.calm (I.e (E.opG op_pl o_pl (E.opV op_pl o_pl (vN 7) (vN 8)) (E.lst (A.e (E.ofV Vw.int) (A.e (E.ofV (Vw.ix (vN 7) Vw.int)) (A.e (E.ofV (Vw.op op_addP o_add (Vw.ix (vN 8) (Vw.un un_neg o_neg Vw.int)) Vw.int)) A.nil)))))) (gNm 10 nd) (B.cons (sSet 11 nd (E.bi c_max2 (call_max2 b.calm) (by rfl) V.z_max (by decide +kernel) (A.e (E.ofV Vw.int) (A.e (E.opEV op_sub o_sub.g (eOpN 10 op_pl o_pl (E.call (FB.of ((fb_law_snip_2 (df_law_snip V hB)).mono (k := 7) (by decide))) b.hg b.hr b.tk (by rfl) Flat.nil (by rfl) (aI 2 (A.e (E.ofV Vw.int) A.nil)))) Vw.int) A.nil))))
      (B.cons (sSet 12 nd (E.bi c_len call_len (by rfl) V.z_len PySem.boot_len (A.e (E.lc (own := [("_law_here", 13), ("_law_to", 14)]) b.calm nd (I.e (eF 5)) (blkOk_by (N := N_law) (sc := defScope s_law) (by decide +kernel)) (fun _ _ _ _ _ => (G.tup b.calm (Gs.cons (gNm 13 nd) (Gs.cons (gNm 14 nd) Gs.nil)))) (fun _ _ _ _ _ => (Ts.one (T.chain op_le o_le op_lt o_lt (vN 13) (vN 11) (vN 14)))) (fun _ _ _ _ _ => (eF 13)) (LnG.tup (LnGs.cons LnG.name (LnGs.cons LnG.name LnGs.nil))) (ownC (ownN (by decide)) (ownC (ownN (by decide)) own0))) A.nil)))
      (B.cons (sSet 15 nd (E.lst (A.e (E.callB (FB.of ((fb_went_over_3 (df_went_over V hB)).mono (k := 7) (by decide))) b.hg b.hr b.tk (by rfl) Flat.nil (by rfl) (aB 7 (aB 8 (aB 11 A.nil)))) (A.e (E.callKB (FK.of ((fk_went_over_210 (df_went_over V hB)).mono (k := 7) (by decide))) b.hg b.hr b.tk (by rfl) (fun xs hl => match xs, hl with | [_, _, _], _ => rfl) (kB 11 (kB 8 (kB 7 DL.K.nil))) (by rfl)) A.nil))))
      (B.one (S.if (T.w (W.or (T.cmp (op_neX b.hr.units) o_neX (by rfl) (E.ofV (Vw.bi c_repr (cr_repr b.hg b.hr b.sys) (by rfl) V.z_repr (by decide +kernel) (VA.cons (vN 15) VA.nil))) (E.bi c_repr (cr_repr b.hg b.hr b.sys) (by rfl) V.z_repr (by decide +kernel) (A.e (E.lst (A.e (eF 12) (A.e (eF 12) A.nil))) A.nil))) (W.or1 (T.cmpEV (op_neX b.hr.units) o_neX.g (by rfl) (E.bi c_repr (cr_repr b.hg b.hr b.sys) (by rfl) V.z_repr (by decide +kernel) (A.e (E.lst (A.e (eF 7) (A.e (eF 8) A.nil))) A.nil)) (vN 9))))) (B.one (S.ret (E.ofV Vw.bl))) B.nil))))))
      (B.one (S.if (T.not (T.val (E.callB (FB.of ((fb_law_refused_right_3 (df_law_refused_right V hB)).mono (k := 7) (by decide))) b.hg b.hr b.tk (by rfl) Flat.nil (by rfl) (aI 2 (aB 7 (aB 8 A.nil)))))) (B.one (S.ret (E.ofV Vw.bl))) B.nil)))))))))))
      (B.one (S.ret (E.ofV Vw.bl)))))
end
end L_k24
open PySem PySem.W PyProof.Rows
set_option maxHeartbeats 0 in
theorem PySem.Challenge.cw_plainmarks_k24_how_many_went_over_holds : PySem.Challenge.rw_plainmarks_k24_how_many_went_over.Holds := by
  w_on; o_law; k_head; (case hw => w_witness2)
  k_fill
  refine DL.walk_dataX (l := PySem.Challenge.rw_plainmarks_k24_how_many_went_over) (n := 63) (k := 8) (x := "_law_script") (fn := PM.f_LAW_k24) rfl (by decide) rfl ⟨rfl, by decide, by decide⟩ (by decide +kernel) (fun w h Y => PySem.W.kIn_of Y) ?F (fun ns hl hb => PM.law_true_k24 ns hl hb)
  case F =>
    intro w mg fa h KX G hmg
    refine' (fun V => DL.Df.law V.F_law hmg (fun base _ _ hB => L_k24.df_law V hB) fun _ _ _ _ _ _ us hl => match us, hl with | [_], _ => rfl) (⟨DL.XF.of KX G ?xf, PySem.W.mg_none_of KX G ?zabs, PySem.W.mg_none_of KX G ?zall, PySem.W.mg_none_of KX G ?zbool, PySem.W.mg_none_of KX G ?zint, PySem.W.mg_none_of KX G ?zisinstance, PySem.W.mg_none_of KX G ?zlen, PySem.W.mg_none_of KX G ?zlist, PySem.W.mg_none_of KX G ?zmax, PySem.W.mg_none_of KX G ?zmin, PySem.W.mg_none_of KX G ?zrange, PySem.W.mg_none_of KX G ?zrepr, PySem.W.mg_none_of KX G ?ztuple, PySem.W.mg_none_of KX G ?zzip, DL.constI KX G ?cMOST_MARKS, DL.Fx.mk KX G ?a0 ?l0 ?d0 ?k0, DL.Fx.mk KX G ?a1 ?l1 ?d1 ?k1, DL.Fx.mkN KX G ?a2 ?l2 ?d2 ?k2 ?t2, DL.Fx.mk KX G ?a3 ?l3 ?d3 ?k3, DL.Fx.mk KX G ?a4 ?l4 ?d4 ?k4, DL.Fx.mk KX G ?a5 ?l5 ?d5 ?k5, DL.Fx.mk KX G ?a6 ?l6 ?d6 ?k6, DL.Fx.mk KX G ?a7 ?l7 ?d7 ?k7, DL.Fx.mk KX G ?a8 ?l8 ?d8 ?k8, DL.Fx.mk KX G ?a9 ?l9 ?d9 ?k9, DL.Fx.mk KX G ?a10 ?l10 ?d10 ?k10, DL.Fx.mk KX G ?a11 ?l11 ?d11 ?k11, DL.Fx.mk KX G ?a12 ?l12 ?d12 ?k12, DL.Fx.mk KX G ?a13 ?l13 ?d13 ?k13, DL.Fx.mk KX G ?a14 ?l14 ?d14 ?k14⟩ : L_k24.Facts _ mg _)
    (case xf => kernel_rfl); (case zabs => k_is); (case zall => k_is); (case zbool => k_is); (case zint => k_is); (case zisinstance => k_is); (case zlen => k_is); (case zlist => k_is); (case zmax => k_is); (case zmin => k_is); (case zrange => k_is); (case zrepr => k_is); (case ztuple => k_is); (case zzip => k_is); (case cMOST_MARKS => k_is); (case a0 => k_is); (case l0 => k_is); (case d0 => k_is); (case k0 => k_is); (case a1 => k_is); (case l1 => k_is); (case d1 => k_is); (case k1 => k_is); (case a2 => k_is); (case l2 => k_is); (case d2 => k_is); (case k2 => k_is); (case t2 => k_is); (case a3 => k_is); (case l3 => k_is); (case d3 => k_is); (case k3 => k_is); (case a4 => k_is); (case l4 => k_is); (case d4 => k_is); (case k4 => k_is); (case a5 => k_is); (case l5 => k_is); (case d5 => k_is); (case k5 => k_is); (case a6 => k_is); (case l6 => k_is); (case d6 => k_is); (case k6 => k_is); (case a7 => k_is); (case l7 => k_is); (case d7 => k_is); (case k7 => k_is); (case a8 => k_is); (case l8 => k_is); (case d8 => k_is); (case k8 => k_is); (case a9 => k_is); (case l9 => k_is); (case d9 => k_is); (case k9 => k_is); (case a10 => k_is); (case l10 => k_is); (case d10 => k_is); (case k10 => k_is); (case a11 => k_is); (case l11 => k_is); (case d11 => k_is); (case k11 => k_is); (case a12 => k_is); (case l12 => k_is); (case d12 => k_is); (case k12 => k_is); (case a13 => k_is); (case l13 => k_is); (case d13 => k_is); (case k13 => k_is); (case a14 => k_is); (case l14 => k_is); (case d14 => k_is); (case k14 => k_is)
