import PyProof.Rows.All
import HandS.ForMost
import HandS.Flow
import HandS.TupAny
import HandS.TupLe
import HandS.Deep
import HandS.Wide
import HandS.IsInst
import KE.SortData
import HandS.Star
import KE.DataCmp
import KE.DataMinMax
import KE.DataIsa
import KE.DataEq
import KE.Datum
import Wide.All
import OpenK.AllK
import Wide.FinOn
import PySem.Challenge.RW_whencehold_k05_positive_or_fall
set_option Elab.async false
set_option linter.all false
set_option autoImplicit false
set_option maxRecDepth 100000
/-! Tx, part A: values are data or refs into a store; worlds; what stays -/
namespace Tx
open PySem L2

inductive D where
  | p (d : PyData)
  | r (n : Nat)
/-- a mutable object; frz: a list that is read alone (the script) -/
inductive MO where
  | lst (xs : List D)
  | frz (xs : List D)
  | dic (kvs : List (PyData × D))
abbrev Sto := Nat → Option MO
def upS (S : Sto) (n : Nat) (o : MO) : Sto := fun m => if m = n then some o else S m
def rmS (S : Sto) (n : Nat) : Sto := fun m => if m = n then none else S m
theorem upS_same {S : Sto} {n : Nat} {o : MO} : upS S n o n = some o := by simp [upS]
theorem upS_ne {S : Sto} {n m : Nat} {o : MO} (h : m ≠ n) : upS S n o m = S m := by simp [upS, h]
theorem upS_upS {S : Sto} {n : Nat} {o u : MO} : upS (upS S n o) n u = upS S n u := by funext m; unfold upS; split <;> rfl
theorem rm_upS {S : Sto} {n : Nat} {o : MO} (h : S n = none) : rmS (upS S n o) n = S := by
  funext m; unfold rmS upS; split
  · rename_i e; rw [e, h]
  · rfl
theorem upS_self {S : Sto} {n : Nat} {o : MO} (h : S n = some o) : upS S n o = S := by
  funext m; unfold upS; split
  · rename_i e; rw [e, h]
  · rfl

/-- a world: the addresses of the store's places, what is frozen, the abstract heap -/
structure Wd where
  ρ : List Addr
  Z : Addr → Prop
  H : Hp
structure Ext (w w' : Wd) : Prop where
  rho : ∃ t, w'.ρ = w.ρ ++ t
  z : ∀ a, w.Z a → w'.Z a
  h : ∀ a u, w.Z a → w.H a = some u → w'.H a = some u
theorem Ext.refl {w : Wd} : Ext w w := ⟨⟨[], by simp⟩, fun _ h => h, fun _ _ _ h => h⟩
theorem Ext.trans {w w1 w2 : Wd} (a : Ext w w1) (b : Ext w1 w2) : Ext w w2 := by
  obtain ⟨t, e⟩ := a.rho
  obtain ⟨t', e'⟩ := b.rho
  exact ⟨⟨t ++ t', by rw [e', e, List.append_assoc]⟩, fun x h => b.z x (a.z x h), fun x u h q => b.h x u (a.z x h) (a.h x u h q)⟩
theorem Ext.get {w w' : Wd} (e : Ext w w') {n : Nat} {a : Addr} (h : w.ρ[n]? = some a) : w'.ρ[n]? = some a := by
  obtain ⟨t, q⟩ := e.rho
  rw [q, List.getElem?_append_left (List.getElem?_eq_some_iff.mp h).1]
  exact h

def FL (w : Wd) (a : Addr) (xs : List V) : Prop := w.Z a ∧ w.H a = some (.lst xs)
def FT (K : PySem.W.Frag) (w : Wd) (a : Addr) (xs : List V) : Prop := (w.Z a ∧ w.H a = some (.tup xs)) ∨ SqT K (fun _ => none) a xs
theorem sqT_of0 {K : PySem.W.Frag} {H : Hp} {a : Addr} {xs : List V} (h : SqT K (fun _ => none) a xs) : SqT K H a xs := by
  rcases h with (h | ⟨o, h⟩) | h
  · cases h
  · cases h
  · exact .inr h
theorem FT.sq {K : PySem.W.Frag} {w : Wd} {a : Addr} {xs : List V} (h : FT K w a xs) : SqT K w.H a xs := by
  rcases h with ⟨_, h⟩ | h
  · exact SqT.of h
  · exact sqT_of0 h
theorem FL.sq {K : PySem.W.Frag} {w : Wd} {a : Addr} {xs : List V} (h : FL w a xs) : SqL K w.H a xs := SqL.of h.2
theorem FL.ext {w w' : Wd} {a : Addr} {xs : List V} (h : FL w a xs) (e : Ext w w') : FL w' a xs := ⟨e.z _ h.1, e.h _ _ h.1 h.2⟩
theorem FT.ext {K : PySem.W.Frag} {w w' : Wd} {a : Addr} {xs : List V} (h : FT K w a xs) (e : Ext w w') : FT K w' a xs := by
  rcases h with ⟨z, h⟩ | h
  · exact .inl ⟨e.z _ z, e.h _ _ z h⟩
  · exact .inr h

/-! ### frozen data -/
mutual
inductive PD (K : PySem.W.Frag) (w : Wd) : V → PyData → Prop
  | non : PD K w .non .none
  | bl (b : Bool) : PD K w (.bl b) (.bool b)
  | int (i : Int) : PD K w (.int i) (.int i)
  | str (x : Str) (h : PyData.strOk x = true) : PD K w (.str x) (.str x)
  | lst {a : Addr} {xs : List V} {ds : List PyData} : FL w a xs → PDs K w xs ds → PD K w (.ref a) (.list ds)
  | tup {a : Addr} {xs : List V} {ds : List PyData} : FT K w a xs → PDs K w xs ds → PD K w (.ref a) (.tuple ds)
inductive PDs (K : PySem.W.Frag) (w : Wd) : List V → List PyData → Prop
  | nil : PDs K w [] []
  | cons {v : V} {vs : List V} {d : PyData} {ds : List PyData} : PD K w v d → PDs K w vs ds → PDs K w (v :: vs) (d :: ds)
end
section
variable {K : PySem.W.Frag} {w w' : Wd}
mutual
theorem PD.ext (e : Ext w w') : ∀ {d : PyData} {v : V}, PD K w v d → PD K w' v d
  | _, _, .non => .non
  | _, _, .bl b => .bl b
  | _, _, .int i => .int i
  | _, _, .str x h => .str x h
  | _, _, .lst f h => .lst (f.ext e) (PDs.ext e h)
  | _, _, .tup f h => .tup (f.ext e) (PDs.ext e h)
theorem PDs.ext (e : Ext w w') : ∀ {ds : List PyData} {vs : List V}, PDs K w vs ds → PDs K w' vs ds
  | _, _, .nil => .nil
  | _, _, .cons h t => .cons (PD.ext e h) (PDs.ext e t)
end
mutual
theorem PD.dp : ∀ {d : PyData} {v : V}, PD K w v d → Dp K w.H v d
  | _, _, .non => .non
  | _, _, .bl b => .bl b
  | _, _, .int i => .int i
  | _, _, .str x _ => .str x
  | _, _, .lst f h => .lst f.sq (PDs.dp h)
  | _, _, .tup f h => .tup f.sq (PDs.dp h)
theorem PDs.dp : ∀ {ds : List PyData} {vs : List V}, PDs K w vs ds → DpAll K w.H vs ds
  | _, _, .nil => .nil
  | _, _, .cons h t => .cons (PD.dp h) (PDs.dp t)
end
mutual
theorem PD.lay : ∀ {d : PyData} {v : V}, PD K w v d → d.canLay0 = true
  | _, _, .non => by simp [PyData.canLay0]
  | _, _, .bl b => by simp [PyData.canLay0]
  | _, _, .int i => by simp [PyData.canLay0]
  | _, _, .str x h => by simpa [PyData.canLay0] using h
  | _, _, .lst f h => by simpa [PyData.canLay0] using PDs.lay h
  | _, _, .tup f h => by simpa [PyData.canLay0] using PDs.lay h
theorem PDs.lay : ∀ {ds : List PyData} {vs : List V}, PDs K w vs ds → PyData.canLayAll0 ds = true
  | _, _, .nil => by simp [PyData.canLayAll0]
  | _, _, .cons h t => by simp [PyData.canLayAll0, PD.lay h, PDs.lay t]
end
theorem PDs.get : ∀ {ds : List PyData} {vs : List V} {i : Nat} {v : V}, PDs K w vs ds → vs[i]? = some v → ∃ d, ds[i]? = some d ∧ PD K w v d
  | _, _, _, _, .nil, e => by simp at e
  | _, _, 0, _, .cons h t, e => by simp at e; subst e; exact ⟨_, rfl, h⟩
  | _, _, i + 1, _, .cons h t, e => by
    obtain ⟨d, h1, h2⟩ := PDs.get (i := i) t (by simpa using e)
    exact ⟨d, by simpa using h1, h2⟩
theorem PDs.getD : ∀ {ds : List PyData} {vs : List V} {i : Nat} {d : PyData}, PDs K w vs ds → ds[i]? = some d → ∃ v, vs[i]? = some v ∧ PD K w v d
  | _, _, _, _, .nil, e => by simp at e
  | _, _, 0, _, .cons h t, e => by simp at e; subst e; exact ⟨_, rfl, h⟩
  | _, _, i + 1, _, .cons h t, e => by
    obtain ⟨d, h1, h2⟩ := PDs.getD (i := i) t (by simpa using e)
    exact ⟨d, by simpa using h1, h2⟩
theorem PDs.length : ∀ {ds : List PyData} {vs : List V}, PDs K w vs ds → vs.length = ds.length
  | _, _, .nil => rfl
  | _, _, .cons h t => by simp [PDs.length t]
theorem PDs.append : ∀ {ds es : List PyData} {vs us : List V}, PDs K w vs ds → PDs K w us es → PDs K w (vs ++ us) (ds ++ es)
  | _, _, _, _, .nil, h => h
  | _, _, _, _, .cons h t, q => .cons h (PDs.append t q)
theorem PDs.take : ∀ {ds : List PyData} {vs : List V} (n : Nat), PDs K w vs ds → PDs K w (vs.take n) (ds.take n)
  | _, _, 0, _ => .nil
  | _, _, n + 1, .nil => .nil
  | _, _, n + 1, .cons h t => .cons h (PDs.take n t)
theorem PDs.drop : ∀ {ds : List PyData} {vs : List V} (n : Nat), PDs K w vs ds → PDs K w (vs.drop n) (ds.drop n)
  | _, _, 0, h => h
  | _, _, n + 1, .nil => .nil
  | _, _, n + 1, .cons h t => PDs.drop n t
end

/-! ### values, objects, the store held in the world -/
def Rv (K : PySem.W.Frag) (w : Wd) : D → V → Prop
  | .p d, v => PD K w v d
  | .r n, v => ∃ a, w.ρ[n]? = some a ∧ v = .ref a
abbrev Rvs (K : PySem.W.Frag) (w : Wd) : List D → List V → Prop := Paired (Rv K w)
def RO (K : PySem.W.Frag) (w : Wd) (a : Addr) : MO → Prop
  | .lst xs => ∃ vs, w.H a = some (.lst vs) ∧ Rvs K w xs vs
  | .frz xs => ∃ vs, ((∃ o, w.H a = some (.frz o (.lst vs))) ∨ SqL K (fun _ => none) a vs) ∧ Rvs K w xs vs
  | .dic _ => False
def isM : MO → Bool
  | .frz _ => false
  | _ => true
structure Sim (K : PySem.W.Frag) (w : Wd) (S : Sto) : Prop where
  lv : ∀ n o, S n = some o → ∃ a, w.ρ[n]? = some a ∧ (isM o = true → ¬ w.Z a) ∧ RO K w a o
  inj : ∀ n m a o u, S n = some o → S m = some u → isM o = true → isM u = true → w.ρ[n]? = some a → w.ρ[m]? = some a → n = m
  zh : ∀ a, w.Z a → w.H a ≠ none
section
variable {K : PySem.W.Frag} {w w' : Wd} {S S' : Sto}
theorem Rv.ext {d : D} {v : V} (h : Rv K w d v) (e : Ext w w') : Rv K w' d v := by
  cases d with
  | p d => exact PD.ext e h
  | r n => obtain ⟨a, q, rfl⟩ := h; exact ⟨a, e.get q, rfl⟩
theorem Rvs.ext : ∀ {ds : List D} {vs : List V}, Rvs K w ds vs → Ext w w' → Rvs K w' ds vs
  | _, _, .nil, _ => .nil
  | _, _, .cons h t, e => .cons (h.ext e) (Rvs.ext t e)
theorem Rvs.get {ds : List D} {vs : List V} (h : Rvs K w ds vs) {i : Nat} {d : D} (e : ds[i]? = some d) : ∃ v, vs[i]? = some v ∧ Rv K w d v := by
  induction h generalizing i with
  | nil => simp at e
  | cons h t ih =>
    cases i with
    | zero => simp at e; subst e; exact ⟨_, rfl, h⟩
    | succ i => exact ih (i := i) (by simpa using e)
theorem Rvs.len {ds : List D} {vs : List V} (h : Rvs K w ds vs) : ds.length = vs.length := Paired.length h
theorem Rvs.append {ds es : List D} {vs us : List V} (h : Rvs K w ds vs) (q : Rvs K w es us) : Rvs K w (ds ++ es) (vs ++ us) := by
  induction h with
  | nil => exact q
  | cons a t ih => exact .cons a ih
theorem Rvs.set {ds : List D} {vs : List V} (h : Rvs K w ds vs) {d : D} {v : V} (r : Rv K w d v) (i : Nat) : Rvs K w (ds.set i d) (vs.set i v) := by
  induction h generalizing i with
  | nil => exact .nil
  | cons a t ih =>
    cases i with
    | zero => exact .cons r t
    | succ i => exact .cons a (ih i)
theorem PDs.rvs : ∀ {ds : List PyData} {vs : List V}, PDs K w vs ds → Rvs K w (ds.map D.p) vs
  | _, _, .nil => .nil
  | _, _, .cons h t => .cons h (PDs.rvs t)
theorem Rvs.pds : ∀ {ds : List PyData} {vs : List V}, Rvs K w (ds.map D.p) vs → PDs K w vs ds
  | [], _, .nil => .nil
  | _ :: _, _, .cons h t => .cons h (Rvs.pds t)

theorem sqL_of0 {K : PySem.W.Frag} {H : Hp} {a : Addr} {xs : List V} (h : SqL K (fun _ => none) a xs) : SqL K H a xs := by
  rcases h with (h | ⟨o, h⟩) | h
  · cases h
  · cases h
  · exact .inr h
theorem RO.sq {a : Addr} {xs : List D} (h : RO K w a (.frz xs)) : ∃ vs, SqL K w.H a vs ∧ Rvs K w xs vs := by
  obtain ⟨vs, h | h, r⟩ := h
  · exact ⟨vs, .inl (.inr h), r⟩
  · exact ⟨vs, sqL_of0 h, r⟩
/-- an object stays while its place stays -/
theorem RO.keep {a : Addr} {o : MO} (h : RO K w a o) (e : Ext w w') (k : ∀ u, w.H a = some u → w'.H a = some u) : RO K w' a o := by
  cases o with
  | lst xs => obtain ⟨vs, q, r⟩ := h; exact ⟨vs, k _ q, r.ext e⟩
  | frz xs =>
    obtain ⟨vs, q, r⟩ := h
    exact ⟨vs, q.elim (fun ⟨o, q⟩ => .inl ⟨o, k _ q⟩) .inr, r.ext e⟩
  | dic _ => exact h.elim
theorem RO.there {a : Addr} {o : MO} (h : RO K w a o) (m : isM o = true) : w.H a ≠ none := by
  cases o with
  | lst xs => obtain ⟨vs, q, r⟩ := h; rw [q]; exact fun z => nomatch z
  | frz xs => cases m
  | dic _ => exact h.elim
/-- a pure object is laid -/
theorem Sim.pure (s : Sim K w S) {p : Addr} {o : HO} (hp : w.H p = none) :
    Ext w ⟨w.ρ, fun a => w.Z a ∨ a = p, upd w.H p o⟩ ∧ Sim K ⟨w.ρ, fun a => w.Z a ∨ a = p, upd w.H p o⟩ S := by
  have ne : ∀ a u, w.H a = some u → a ≠ p := fun a u h e => by rw [e, hp] at h; cases h
  have ex : Ext w ⟨w.ρ, fun a => w.Z a ∨ a = p, upd w.H p o⟩ := ⟨⟨[], by simp⟩, fun _ h => .inl h, fun a u _ h => by show upd w.H p o a = _; rw [upd_ne (ne a u h)]; exact h⟩
  refine ⟨ex, ⟨fun n o' h => ?_, s.inj, fun a h => ?_⟩⟩
  · obtain ⟨a, h1, h2, h3⟩ := s.lv n o' h
    refine ⟨a, h1, fun m z => z.elim (h2 m) fun e => ?_, h3.keep ex fun u hu => ?_⟩
    · exact h3.there m (by rw [e]; exact hp)
    · show upd w.H p o a = _
      rw [upd_ne (ne a u hu)]; exact hu
  · show upd w.H p o a ≠ none
    by_cases e : a = p
    · subst e; rw [upd_same]; exact fun z => nomatch z
    · rw [upd_ne e]; exact h.elim (s.zh a) (fun z => absurd z e)
/-- a list is laid as a new place of the store -/
theorem Sim.new (s : Sim K w S) {p : Addr} {xs : List D} {vs : List V} (hp : w.H p = none) (r : Rvs K w xs vs) :
    Ext w ⟨w.ρ ++ [p], w.Z, upd w.H p (.lst vs)⟩ ∧ S w.ρ.length = none ∧ Sim K ⟨w.ρ ++ [p], w.Z, upd w.H p (.lst vs)⟩ (upS S w.ρ.length (.lst xs)) ∧ Rv K ⟨w.ρ ++ [p], w.Z, upd w.H p (.lst vs)⟩ (.r w.ρ.length) (.ref p) := by
  have ne : ∀ a u, w.H a = some u → a ≠ p := fun a u h e => by rw [e, hp] at h; cases h
  have ex : Ext w ⟨w.ρ ++ [p], w.Z, upd w.H p (.lst vs)⟩ := ⟨⟨[p], rfl⟩, fun _ h => h, fun a u _ h => by show upd w.H p _ a = _; rw [upd_ne (ne a u h)]; exact h⟩
  have hS : S w.ρ.length = none := by
    cases q : S w.ρ.length with
    | none => rfl
    | some o =>
      obtain ⟨a, h, _⟩ := s.lv _ _ q
      have := (List.getElem?_eq_some_iff.mp h).1
      omega
  have hlive : ∀ n o a, S n = some o → isM o = true → w.ρ[n]? = some a → a ≠ p := fun n o a h m ha e => by
    obtain ⟨a', h1, h2, h3⟩ := s.lv n o h
    rw [ha] at h1; cases h1
    exact h3.there m (by rw [e]; exact hp)
  have hlt : ∀ n o, S n = some o → n < w.ρ.length := fun n o h => by
    obtain ⟨a, h1, _⟩ := s.lv n o h
    exact (List.getElem?_eq_some_iff.mp h1).1
  refine ⟨ex, hS, ⟨fun n o h => ?_, fun n m a o u hn hm on um h1 h2 => ?_, fun a h => ?_⟩, ⟨p, by simp, rfl⟩⟩
  · by_cases e : n = w.ρ.length
    · subst e
      rw [upS_same] at h; cases h
      refine ⟨p, by simp, fun _ z => s.zh p z hp, vs, upd_same, r.ext ex⟩
    · rw [upS_ne e] at h
      obtain ⟨a, h1, h2, h3⟩ := s.lv n o h
      refine ⟨a, ex.get h1, h2, h3.keep ex fun u hu => ?_⟩
      show upd w.H p _ a = _
      rw [upd_ne (ne a u hu)]; exact hu
  · have one : ∀ n o, upS S w.ρ.length (.lst xs) n = some o → (w.ρ ++ [p])[n]? = some a → (n = w.ρ.length ∧ a = p) ∨ (n < w.ρ.length ∧ S n = some o ∧ w.ρ[n]? = some a) := fun n o hn h => by
      by_cases e : n = w.ρ.length
      · subst e; simp at h; exact .inl ⟨rfl, h.symm⟩
      · rw [upS_ne e] at hn
        have hl := hlt n o hn
        rw [List.getElem?_append_left hl] at h
        exact .inr ⟨hl, hn, h⟩
    rcases one n o hn h1 with ⟨e1, a1⟩ | ⟨l1, s1, g1⟩
    · rcases one m u hm h2 with ⟨e2, a2⟩ | ⟨l2, s2, g2⟩
      · rw [e1, e2]
      · exact absurd a1 (hlive m u a s2 um g2)
    · rcases one m u hm h2 with ⟨e2, a2⟩ | ⟨l2, s2, g2⟩
      · exact absurd a2 (hlive n o a s1 on g1)
      · exact s.inj n m a o u s1 s2 on um g1 g2
  · show upd w.H p _ a ≠ none
    by_cases e : a = p
    · subst e; rw [upd_same]; exact fun z => nomatch z
    · rw [upd_ne e]; exact s.zh a h
/-- a list of the store is changed -/
theorem Sim.write (s : Sim K w S) {n : Nat} {a : Addr} {xs xs' : List D} {vs' : List V} (hn : S n = some (.lst xs)) (ha : w.ρ[n]? = some a) (r : Rvs K w xs' vs') :
    Ext w ⟨w.ρ, w.Z, upd w.H a (.lst vs')⟩ ∧ Sim K ⟨w.ρ, w.Z, upd w.H a (.lst vs')⟩ (upS S n (.lst xs')) := by
  obtain ⟨a', h1, hz, h3⟩ := s.lv n _ hn
  rw [ha] at h1; cases h1
  have hz := hz rfl
  have ex : Ext w ⟨w.ρ, w.Z, upd w.H a (.lst vs')⟩ := ⟨⟨[], by simp⟩, fun _ h => h, fun b u zb h => by
    show upd w.H a _ b = _
    rw [upd_ne (fun e => hz (by rw [← e]; exact zb))]; exact h⟩
  refine ⟨ex, ⟨fun m o h => ?_, fun m k b o u hm hk om uk h1 h2 => ?_, fun b h => ?_⟩⟩
  · by_cases e : m = n
    · subst e
      rw [upS_same] at h; cases h
      exact ⟨a, ha, fun _ => hz, vs', upd_same, r.ext ex⟩
    · rw [upS_ne e] at h
      obtain ⟨b, h1, h2, h4⟩ := s.lv m o h
      refine ⟨b, h1, h2, ?_⟩
      cases o with
      | lst ys =>
        have hb : b ≠ a := fun z => e (s.inj m n a _ _ h hn rfl rfl (by rw [← z]; exact h1) ha)
        exact h4.keep ex fun u hu => by show upd w.H a _ b = _; rw [upd_ne hb]; exact hu
      | frz ys =>
        obtain ⟨us, q, r⟩ := h4
        refine ⟨us, q.elim (fun ⟨o, q⟩ => .inl ⟨o, ?_⟩) .inr, r.ext ex⟩
        obtain ⟨vs, hq, _⟩ := h3
        have hb : b ≠ a := fun z => by rw [z, hq] at q; cases q
        show upd w.H a _ b = _
        rw [upd_ne hb]; exact q
      | dic _ => exact h4.elim
  · have one : ∀ m o, upS S n (.lst xs') m = some o → isM o = true → ∃ o', S m = some o' ∧ isM o' = true := fun m o hm im => by
      by_cases e : m = n
      · subst e; exact ⟨_, hn, rfl⟩
      · rw [upS_ne e] at hm; exact ⟨o, hm, im⟩
    obtain ⟨o', x1, x2⟩ := one m o hm om
    obtain ⟨u', y1, y2⟩ := one k u hk uk
    exact s.inj m k b o' u' x1 y1 x2 y2 h1 h2
  · show upd w.H a _ b ≠ none
    by_cases e : b = a
    · subst e; rw [upd_same]; exact fun z => nomatch z
    · rw [upd_ne e]; exact s.zh b h
/-- less of the store is known -/
theorem Sim.less (s : Sim K w S) (h : ∀ n o, S' n = some o → S n = some o) : Sim K w S' :=
  ⟨fun n o e => s.lv n o (h n o e), fun n m a o u hn hm => s.inj n m a o u (h n o hn) (h m u hm), s.zh⟩
/-- a list of the store is frozen: it is data from here on -/
theorem Sim.freeze (s : Sim K w S) {n : Nat} {ds : List PyData} (hn : S n = some (.lst (ds.map D.p))) {v : V} (hv : Rv K w (.r n) v) :
    ∃ w', w'.H = w.H ∧ w'.ρ = w.ρ ∧ Ext w w' ∧ Sim K w' (rmS S n) ∧ PD K w' v (.list ds) := by
  obtain ⟨a, ha, rfl⟩ := hv
  obtain ⟨a', h1, hz, vs, hq, r⟩ := s.lv n _ hn
  rw [ha] at h1; cases h1
  have ex : Ext w ⟨w.ρ, fun b => w.Z b ∨ b = a, w.H⟩ := ⟨⟨[], by simp⟩, fun _ h => .inl h, fun _ _ _ h => h⟩
  refine ⟨⟨w.ρ, fun b => w.Z b ∨ b = a, w.H⟩, rfl, rfl, ex, ⟨fun m o h => ?_, fun m k b o u hm hk om uk h1 h2 => ?_, fun b h => ?_⟩, ?_⟩
  · unfold rmS at h
    split at h
    · cases h
    · rename_i e
      obtain ⟨b, h1, h2, h3⟩ := s.lv m o h
      refine ⟨b, h1, fun im z => z.elim (h2 im) fun z => e (s.inj m n a o _ h hn im rfl (by rw [← z]; exact h1) ha), h3.keep ex fun _ q => q⟩
  · have one : ∀ m o, rmS S n m = some o → S m = some o := fun m o hm => by
      unfold rmS at hm
      split at hm
      · cases hm
      · exact hm
    exact s.inj m k b o u (one m o hm) (one k u hk) om uk h1 h2
  · exact h.elim (s.zh b) (fun e => by show w.H b ≠ none; rw [e, hq]; exact fun z => nomatch z)
  · exact .lst ⟨.inr rfl, hq⟩ ((Rvs.ext r ex).pds)
end

/-! ### what a value is by the store -/
def seqL (S : Sto) : D → Option (List D)
  | .p (.list ds) => some (ds.map D.p)
  | .r n => match S n with
    | some (.lst xs) => some xs
    | some (.frz xs) => some xs
    | _ => none
  | _ => none
def pureD : D → Option PyData
  | .p d => some d
  | .r _ => none
theorem mapM_pure : ∀ ds : List PyData, (ds.map D.p).mapM pureD = some ds
  | [] => rfl
  | d :: ds => by rw [List.map_cons, List.mapM_cons, mapM_pure ds]; rfl
theorem mapM_pure_inv : ∀ {xs : List D} {ds : List PyData}, xs.mapM pureD = some ds → xs = ds.map D.p
  | [], ds, h => by
    rw [List.mapM_nil] at h
    cases h
    rfl
  | x :: xs, ds, h => by
    rw [List.mapM_cons] at h
    cases x with
    | r n => exact nomatch h
    | p d =>
      cases q : xs.mapM pureD with
      | none => rw [q] at h; exact nomatch h
      | some es =>
        rw [q] at h
        cases h
        rw [mapM_pure_inv q]
        rfl
def datL (S : Sto) : D → Option (List PyData)
  | .p (.list ds) => some ds
  | .r n => match S n with
    | some (.lst xs) => xs.mapM pureD
    | some (.frz xs) => xs.mapM pureD
    | _ => none
  | _ => none
def dat (S : Sto) : D → Option PyData
  | .p d => some d
  | .r n => (datL S (.r n)).map .list
section
variable {K : PySem.W.Frag} {w w' : Wd} {S S' : Sto}
theorem Sim.seq (s : Sim K w S) {d : D} {v : V} {xs : List D} (r : Rv K w d v) (h : seqL S d = some xs) : ∃ a vs, v = .ref a ∧ SqL K w.H a vs ∧ Rvs K w xs vs := by
  cases d with
  | p d =>
    cases d with
    | list ds =>
      simp only [seqL, Option.some.injEq] at h
      subst h
      cases r with
      | lst f q => exact ⟨_, _, rfl, f.sq, q.rvs⟩
    | _ => simp [seqL] at h
  | r n =>
    obtain ⟨a, ha, rfl⟩ := r
    cases hn : S n with
    | none => simp [seqL, hn] at h
    | some o =>
      cases o with
      | lst ys =>
        simp only [seqL, hn, Option.some.injEq] at h
        subst h
        obtain ⟨a', h1, _, vs, q, r⟩ := s.lv _ _ hn
        rw [ha] at h1; cases h1
        exact ⟨a, vs, rfl, SqL.of q, r⟩
      | frz ys =>
        simp only [seqL, hn, Option.some.injEq] at h
        subst h
        obtain ⟨a', h1, _, h3⟩ := s.lv _ _ hn
        rw [ha] at h1; cases h1
        obtain ⟨vs, q, r⟩ := h3.sq
        exact ⟨a, vs, rfl, q, r⟩
      | dic _ => simp [seqL, hn] at h
theorem Sim.datL (s : Sim K w S) {d : D} {v : V} {xs : List PyData} (r : Rv K w d v) (h : datL S d = some xs) : ∃ a vs, v = .ref a ∧ SqL K w.H a vs ∧ PDs K w vs xs := by
  have q : seqL S d = some (xs.map D.p) := by
    cases d with
    | p d =>
      cases d with
      | list ds =>
        simp only [Tx.datL, Option.some.injEq] at h
        subst h
        rfl
      | _ => simp [Tx.datL] at h
    | r n =>
      cases e : S n with
      | none => simp [Tx.datL, e] at h
      | some o =>
        cases o with
        | lst ys => simp only [Tx.datL, e] at h; simp only [seqL, e]; rw [mapM_pure_inv h]
        | frz ys => simp only [Tx.datL, e] at h; simp only [seqL, e]; rw [mapM_pure_inv h]
        | dic _ => simp [Tx.datL, e] at h
  obtain ⟨a, vs, h1, h2, h3⟩ := s.seq r q
  exact ⟨a, vs, h1, h2, h3.pds⟩
theorem Sim.dat (s : Sim K w S) {d : D} {v : V} {x : PyData} (r : Rv K w d v) (h : dat S d = some x) : Dp K w.H v x ∧ x.canLay0 = true := by
  cases d with
  | p d =>
    cases h
    exact ⟨PD.dp r, PD.lay r⟩
  | r n =>
    unfold Tx.dat at h
    cases q : Tx.datL S (.r n) with
    | none => simp only [q] at h; cases h
    | some ds =>
      simp only [q] at h
      cases h
      obtain ⟨a, vs, rfl, h2, h3⟩ := s.datL r q
      exact ⟨.lst h2 h3.dp, by simpa [PyData.canLay0] using h3.lay⟩
end

/-! ### environments -/
abbrev En := List (Option D)
structure EnvR (K : PySem.W.Frag) (w : Wd) (env : En) (σ : L2.St) : Prop where
  len : env.length = σ.length
  at_ : ∀ (i : Nat) (d : D), env[i]? = some (some d) → ∃ v : V, σ[i]? = some (some v) ∧ Rv K w d v
section
variable {K : PySem.W.Frag} {w w' : Wd} {env : En} {σ : L2.St}
theorem EnvR.ext (h : EnvR K w env σ) (e : Ext w w') : EnvR K w' env σ := ⟨h.len, fun i d q => by
  obtain ⟨v, h1, h2⟩ := h.at_ i d q
  exact ⟨v, h1, h2.ext e⟩⟩
theorem EnvR.set (h : EnvR K w env σ) {d : D} {v : V} (r : Rv K w d v) (i : Nat) : EnvR K w (env.set i (some d)) (σ.set i (some v)) := by
  refine ⟨by rw [List.length_set, List.length_set, h.len], fun j d' q => ?_⟩
  by_cases e : i = j
  · subst e
    by_cases hl : i < env.length
    · rw [List.getElem?_set_self hl] at q
      cases q
      exact ⟨v, List.getElem?_set_self (by rw [← h.len]; exact hl), r⟩
    · rw [List.getElem?_eq_none (by rw [List.length_set]; omega)] at q
      cases q
  · rw [List.getElem?_set_ne e] at q
    obtain ⟨u, h1, h2⟩ := h.at_ j d' q
    exact ⟨u, by rw [List.getElem?_set_ne e]; exact h1, h2⟩
def wipeD (env : En) : List Nat → En
  | [] => env
  | v :: vs => (wipeD env vs).set v none
theorem EnvR.wiped (h : EnvR K w env σ) : ∀ vs : List Nat, EnvR K w (wipeD env vs) (L2.wipe σ vs)
  | [] => h
  | v :: vs => by
    have q := EnvR.wiped h vs
    refine ⟨?_, fun j d e => ?_⟩
    · show ((wipeD env vs).set v none).length = ((L2.wipe σ vs).set v none).length
      rw [List.length_set, List.length_set, q.len]
    · have e' : ((wipeD env vs).set v none)[j]? = some (some d) := e
      show ∃ v', ((L2.wipe σ vs).set v none)[j]? = some (some v') ∧ _
      by_cases hj : v = j
      · subst hj
        by_cases hl : v < (wipeD env vs).length
        · rw [List.getElem?_set_self hl] at e'; cases e'
        · rw [List.getElem?_eq_none (by rw [List.length_set]; omega)] at e'; cases e'
      · rw [List.getElem?_set_ne hj] at e'
        obtain ⟨u, h1, h2⟩ := q.at_ j d e'
        exact ⟨u, by rw [List.getElem?_set_ne hj]; exact h1, h2⟩
end
end Tx

set_option Elab.async false
set_option linter.all false
set_option autoImplicit false
set_option maxRecDepth 100000
/-! Tx, part B: readings over the store, expressions -/
namespace Tx
open PySem L2

abbrev DQ := D → Sto → Prop
abbrev DT := En → Sto → DQ → Prop
abbrev DTt := En → Sto → (Bool → Sto → Prop) → Prop
abbrev DA := En → Sto → (List D → Sto → Prop) → Prop
def Post (K : PySem.W.Frag) (w : Wd) (Qd : DQ) (Q : VK) : Prop := ∀ d S' w' v, Qd d S' → Ext w w' → Sim K w' S' → Rv K w' d v → Q v w'.H
def PostT (K : PySem.W.Frag) (w : Wd) (Qd : Bool → Sto → Prop) (Q : Bool → Hp → Prop) : Prop := ∀ b S' w', Qd b S' → Ext w w' → Sim K w' S' → Q b w'.H
def PostA (K : PySem.W.Frag) (w : Wd) (Qd : List D → Sto → Prop) (Q : List V → Hp → Prop) : Prop := ∀ ds S' w' vs, Qd ds S' → Ext w w' → Sim K w' S' → Rvs K w' ds vs → Q vs w'.H
theorem Post.ext {K : PySem.W.Frag} {w w' : Wd} {Qd : DQ} {Q : VK} (h : Post K w Qd Q) (e : Ext w w') : Post K w' Qd Q := fun d S v' v a b c r => h d S v' v a (e.trans b) c r
theorem PostT.ext {K : PySem.W.Frag} {w w' : Wd} {Qd : Bool → Sto → Prop} {Q : Bool → Hp → Prop} (h : PostT K w Qd Q) (e : Ext w w') : PostT K w' Qd Q := fun d S v' a b c => h d S v' a (e.trans b) c
theorem PostA.ext {K : PySem.W.Frag} {w w' : Wd} {Qd : List D → Sto → Prop} {Q : List V → Hp → Prop} (h : PostA K w Qd Q) (e : Ext w w') : PostA K w' Qd Q := fun d S v' v a b c r => h d S v' v a (e.trans b) c r
def LE (K : PySem.W.Frag) (t : DT) : TE := fun σ H Q => ∃ w S env Qd, w.H = H ∧ Sim K w S ∧ EnvR K w env σ ∧ t env S Qd ∧ Post K w Qd Q
def LT (K : PySem.W.Frag) (t : DTt) : TT := fun σ H Q => ∃ w S env Qd, w.H = H ∧ Sim K w S ∧ EnvR K w env σ ∧ t env S Qd ∧ PostT K w Qd Q
def LA (K : PySem.W.Frag) (t : DA) : TA := fun σ H Q => ∃ w S env Qd, w.H = H ∧ Sim K w S ∧ EnvR K w env σ ∧ t env S Qd ∧ PostA K w Qd Q
abbrev DE (X : Cx) (e : Expr) (t : DT) : Prop := PE X e (LE X.K t)
abbrev DTs (X : Cx) (e : Expr) (t : DTt) : Prop := PT X e (LT X.K t)
abbrev DWs (X : Cx) (e : Expr) (t : DTt) : Prop := PW X e (LT X.K t)
abbrev DAs (X : Cx) (es : List Expr) (t : DA) : Prop := PA X es (LA X.K t)

section
variable {X : Cx}
theorem _root_.L2.PE.weak {e : Expr} {t t' : TE} (h : PE X e t) (i : ∀ σ H Q, t' σ H Q → t σ H Q) : PE X e t' := ⟨fun pins s σ H Q I q => h.run pins s σ H Q I (i σ H Q q)⟩
theorem _root_.L2.PT.weak {e : Expr} {t t' : TT} (h : PT X e t) (i : ∀ σ H Q, t' σ H Q → t σ H Q) : PT X e t' := ⟨fun pins s σ H Q I q => h.run pins s σ H Q I (i σ H Q q)⟩
theorem _root_.L2.PW.weak {e : Expr} {t t' : TT} (h : PW X e t) (i : ∀ σ H Q, t' σ H Q → t σ H Q) : PW X e t' := ⟨fun wh pins s σ H Q I q => h.run wh pins s σ H Q I (i σ H Q q)⟩
theorem _root_.L2.PA.weak {e : List Expr} {t t' : TA} (h : PA X e t) (i : ∀ σ H Q, t' σ H Q → t σ H Q) : PA X e t' := ⟨fun pos pins s σ H Q I q => h.run pos pins s σ H Q I (i σ H Q q)⟩

/-! ### names, constants -/
def dVar (i : Nat) : DT := fun env S Q => match env[i]? with
  | some (some d) => Q d S
  | _ => False
def dC (d : PyData) : DT := fun _ S Q => Q (.p d) S
theorem de_var {i : Nat} {x : Str} {pos : Pos} (h : PE X (.Name x pos) (tVar i)) : DE X (.Name x pos) (dVar i) :=
  h.weak fun σ H Q ⟨w, S, env, Qd, e, sim, er, h, post⟩ => by
    unfold dVar at h
    split at h
    · rename_i d hd
      obtain ⟨v, h1, h2⟩ := er.at_ i d hd
      subst e
      exact ⟨v, h1, post d S w v h .refl sim h2⟩
    · exact h.elim
theorem dv (i : Nat) {x : Str} {pos : Pos} (hN : X.N[i]? = some x := by rfl) (hv : Vis X.env.scope x := by first | exact Or.inl rfl | exact Or.inr (Or.inl rfl) | exact Or.inr (Or.inr rfl)) (hd : (x == ("__debug__" : Str)) = false := by decide)
    (hcd : (x == ("__classdict__" : Str)) = false := by decide) : DE X (.Name x pos) (dVar i) := de_var (pe_var hN hv hd hcd)
theorem de_const {e : Expr} {v : V} {d : PyData} (h : PE X e (tC v)) (r : ∀ w, PD X.K w v d) : DE X e (dC d) :=
  h.weak fun σ H Q ⟨w, S, env, Qd, e, sim, er, h, post⟩ => by
    subst e
    exact post (.p d) S w v h .refl sim (r w)
theorem de_int {i j pos} : DE X (.Constant (.int i) j pos) (dC (.int i)) := de_const pe_int fun _ => .int i
theorem de_bl {b j pos} : DE X (.Constant (.bool b) j pos) (dC (.bool b)) := de_const pe_bl fun _ => .bl b
theorem de_non {j pos} : DE X (.Constant .none j pos) (dC .none) := de_const pe_non fun _ => .non
theorem de_str {x j pos} (h : PyData.strOk x = true := by decide +kernel) : DE X (.Constant (.str x) j pos) (dC (.str x)) := de_const pe_str fun _ => .str x h

/-! ### operators -/
abbrev D2 := D → D → Sto → DQ → Prop
def L2r (K : PySem.W.Frag) (r : D2) : R2 := fun x y H Q => ∃ w S dx dy Qd, w.H = H ∧ Sim K w S ∧ Rv K w dx x ∧ Rv K w dy y ∧ r dx dy S Qd ∧ Post K w Qd Q
def DOp (X : Cx) (f : Value → Value → Sem Value) (r : D2) : Prop := OpR X f (L2r X.K r)
def dOp (r : D2) (ta tb : DT) : DT := fun env S Q => ta env S fun x S1 => tb env S1 fun y S2 => r x y S2 Q
theorem LE.op {K : PySem.W.Frag} {r : D2} {ta tb : DT} {σ : L2.St} {H : Hp} {Q : VK} (h : LE K (dOp r ta tb) σ H Q) : tOp (L2r K r) (LE K ta) (LE K tb) σ H Q := by
  obtain ⟨w, S, env, Qd, rfl, sim, er, h, post⟩ := h
  refine ⟨w, S, env, _, rfl, sim, er, h, fun dx S1 w1 vx h1 e1 sim1 rx => ⟨w1, S1, env, _, rfl, sim1, er.ext e1, h1, fun dy S2 w2 vy h2 e2 sim2 ry => ?_⟩⟩
  exact ⟨w2, S2, dx, dy, Qd, rfl, sim2, rx.ext e2, ry, h2, post.ext (e1.trans e2)⟩
variable {a b c : Expr} {ta tb tc : DT} {pos : Pos}
theorem de_op {op : Operator} {r : D2} (ho : DOp X (binaryOp op) r) (ha : DE X a ta) (hb : DE X b tb) : DE X (.BinOp a op b pos) (dOp r ta tb) :=
  (pe_op ho ha hb).weak fun _ _ _ h => h.op
theorem de_cmp {op : CmpOp} {r : D2} (ho : DOp X (compareOp op) r) (ha : DE X a ta) (hb : DE X b tb) (hm : behindInMarks op b = false := by first | exact nomark _ | rfl) : DE X (.Compare a [op] [b] pos) (dOp r ta tb) :=
  (pe_cmpR ho ha hb hm).weak fun _ _ _ h => h.op
def dTB (t : DT) : DTt := fun env S Q => t env S fun x S1 => match x with
  | .p (.bool k) => Q k S1
  | _ => False
theorem LE.asTest {K : PySem.W.Frag} {t : DT} {u : TE} {σ : L2.St} {H : Hp} {Q : Bool → Hp → Prop} (h : LT K (dTB t) σ H Q) (i : ∀ σ H Q, LE K t σ H Q → u σ H Q) : tTest u σ H Q := by
  obtain ⟨w, S, env, Qd, rfl, sim, er, h, post⟩ := h
  refine i _ _ _ ⟨w, S, env, _, rfl, sim, er, h, fun d S' w' v h1 e1 s1 r1 => ?_⟩
  cases d with
  | r n => exact h1.elim
  | p d =>
    cases d with
    | bool k =>
      cases r1
      exact ⟨k, rfl, post k S' w' h1 e1 s1⟩
    | _ => exact h1.elim
theorem dt_cmp {op : CmpOp} {r : D2} (ho : DOp X (compareOp op) r) (ha : DE X a ta) (hb : DE X b tb) (hm : behindInMarks op b = false := by first | exact nomark _ | rfl) : DTs X (.Compare a [op] [b] pos) (dTB (dOp r ta tb)) :=
  (pt_cmpR ho ha hb hm).weak fun _ _ _ h => LE.asTest h fun _ _ _ q => q.op
/-- a < b < c -/
def dChain (r r' : D2) (ta tb tc : DT) : DT := fun env S Q => ta env S fun x S1 => tb env S1 fun y S2 => r x y S2 fun z S3 => match z with
  | .p (.bool true) => tc env S3 fun u S4 => r' y u S4 Q
  | .p (.bool false) => Q (.p (.bool false)) S3
  | _ => False

/-! ### truth -/
def truD (S : Sto) : D → Option Bool
  | .p .none => some false
  | .p (.bool b) => some b
  | .p (.int i) => some (i != 0)
  | .p (.str x) => if x.length ≤ sizeLine then some ((x.length : Int) != 0) else none
  | .p (.list xs) => some (!xs.isEmpty)
  | .p (.tuple xs) => some (!xs.isEmpty)
  | .p (.dict _) => none
  | .r n => match S n with
    | some (.lst xs) => some (!xs.isEmpty)
    | some (.frz xs) => some (!xs.isEmpty)
    | _ => none
theorem isEmpty_len {α β : Type} : ∀ {xs : List α} {ys : List β}, xs.length = ys.length → xs.isEmpty = ys.isEmpty
  | [], [], _ => rfl
  | _ :: _, _ :: _, _ => rfl
theorem truD_ok {K : PySem.W.Frag} {w : Wd} {S : Sto} (s : Sim K w S) {d : D} {v : V} {k : Bool} (r : Rv K w d v) (h : truD S d = some k) : TruV K v w.H k := by
  cases d with
  | p d =>
    cases d with
    | none => cases r; simp only [truD, Option.some.injEq] at h; exact h.symm
    | bool b => cases r; simp only [truD, Option.some.injEq] at h; exact h.symm
    | int i => cases r; simp only [truD, Option.some.injEq] at h; exact h.symm
    | str x =>
      cases r
      simp only [truD] at h
      split at h
      · rename_i hl
        simp only [Option.some.injEq] at h
        exact ⟨hl, h.symm⟩
      · cases h
    | list xs =>
      cases r with
      | lst f q =>
        simp only [truD, Option.some.injEq] at h
        exact .inl ⟨_, f.sq, by rw [← h, isEmpty_len q.length]⟩
    | tuple xs =>
      cases r with
      | tup f q =>
        simp only [truD, Option.some.injEq] at h
        exact .inr (.inl ⟨_, f.sq, by rw [← h, isEmpty_len q.length]⟩)
    | dict _ => simp [truD] at h
  | r n =>
    have q : ∃ xs, seqL S (.r n) = some xs ∧ k = !xs.isEmpty := by
      cases e : S n with
      | none => simp [truD, e] at h
      | some o =>
        cases o with
        | lst xs => simp only [truD, e, Option.some.injEq] at h; exact ⟨xs, by simp [seqL, e], h.symm⟩
        | frz xs => simp only [truD, e, Option.some.injEq] at h; exact ⟨xs, by simp [seqL, e], h.symm⟩
        | dic _ => simp [truD, e] at h
    obtain ⟨xs, h1, h2⟩ := q
    obtain ⟨a, vs, rfl, h3, h4⟩ := s.seq r h1
    exact .inl ⟨vs, h3, by rw [h2, isEmpty_len h4.len]⟩
def dTru (t : DT) : DTt := fun env S Q => t env S fun x S1 => match truD S1 x with
  | some k => Q k S1
  | none => False
theorem dt_truth (ha : DE X a ta) (he : ∀ whole, isTrue a X.env whole = (do let v ← whole; standAt a.pos; holding [v] (truthy v)) := by intro _; rfl) : DTs X a (dTru ta) :=
  (pt_truth ha he).weak fun σ H Q ⟨w, S, env, Qd, e, sim, er, h, post⟩ => ⟨w, S, env, _, e, sim, er, h, fun d S' w' v h1 e1 s1 r1 => by
    split at h1
    · rename_i k hk
      exact ⟨k, truD_ok s1 r1 hk, post k S' w' h1 e1 s1⟩
    · exact h1.elim⟩
def dtAnd (t u : DTt) : DTt := fun env S Q => t env S fun c S1 => if c = true then u env S1 Q else Q false S1
def dtOr (t u : DTt) : DTt := fun env S Q => t env S fun c S1 => if c = true then Q true S1 else u env S1 Q
def dtNot (t : DTt) : DTt := fun env S Q => t env S fun c S1 => Q (!c) S1
variable {tA tB' : DTt} {rest : List Expr}
theorem dw_and1 (ha : DTs X a tA) : DWs X (.BoolOp .And [a] pos) tA := pw_and1 ha
theorem dw_or1 (ha : DTs X a tA) : DWs X (.BoolOp .Or [a] pos) tA := pw_or1 ha
theorem dw_and (ha : DTs X a tA) (hb : DWs X (.BoolOp .And (b :: rest) pos) tB') : DWs X (.BoolOp .And (a :: b :: rest) pos) (dtAnd tA tB') :=
  (pw_and ha hb).weak fun σ H Q ⟨w, S, env, Qd, e, sim, er, h, post⟩ => ⟨w, S, env, _, e, sim, er, h, fun c S1 w1 h1 e1 s1 => by
    cases c with
    | true => exact ⟨w1, S1, env, Qd, rfl, s1, er.ext e1, h1, post.ext e1⟩
    | false => exact post false S1 w1 h1 e1 s1⟩
theorem dw_or (ha : DTs X a tA) (hb : DWs X (.BoolOp .Or (b :: rest) pos) tB') : DWs X (.BoolOp .Or (a :: b :: rest) pos) (dtOr tA tB') :=
  (pw_or ha hb).weak fun σ H Q ⟨w, S, env, Qd, e, sim, er, h, post⟩ => ⟨w, S, env, _, e, sim, er, h, fun c S1 w1 h1 e1 s1 => by
    cases c with
    | false => exact ⟨w1, S1, env, Qd, rfl, s1, er.ext e1, h1, post.ext e1⟩
    | true => exact post true S1 w1 h1 e1 s1⟩
theorem dt_not (ha : DTs X a tA) : DTs X (.UnaryOp .Not a pos) (dtNot tA) :=
  (pt_not ha).weak fun σ H Q ⟨w, S, env, Qd, e, sim, er, h, post⟩ => ⟨w, S, env, _, e, sim, er, h, fun c S1 w1 h1 e1 s1 => post (!c) S1 w1 h1 e1 s1⟩
/-- and, or, not as values -/
def dAnd (ta tb : DT) : DT := fun env S Q => ta env S fun x S1 => match truD S1 x with
  | some true => tb env S1 Q
  | some false => Q x S1
  | none => False
def dOr (ta tb : DT) : DT := fun env S Q => ta env S fun x S1 => match truD S1 x with
  | some true => Q x S1
  | some false => tb env S1 Q
  | none => False
def dNot (ta : DT) : DT := fun env S Q => ta env S fun x S1 => match truD S1 x with
  | some k => Q (.p (.bool (!k))) S1
  | none => False
theorem de_one {op} (h : DE X a ta) : DE X (.BoolOp op [a] pos) ta := pe_one h
theorem de_and (ha : DE X a ta) (hb : DE X (.BoolOp .And (b :: rest) pos) tb) : DE X (.BoolOp .And (a :: b :: rest) pos) (dAnd ta tb) :=
  (pe_andT ha hb).weak fun σ H Q ⟨w, S, env, Qd, e, sim, er, h, post⟩ => ⟨w, S, env, _, e, sim, er, h, fun d S1 w1 v h1 e1 s1 r1 => by
    split at h1
    · rename_i hk
      exact ⟨true, truD_ok s1 r1 hk, by rw [if_pos rfl]; exact ⟨w1, S1, env, Qd, rfl, s1, er.ext e1, h1, post.ext e1⟩⟩
    · rename_i hk
      exact ⟨false, truD_ok s1 r1 hk, by rw [if_neg Bool.false_ne_true]; exact post d S1 w1 v h1 e1 s1 r1⟩
    · exact h1.elim⟩
theorem de_or (ha : DE X a ta) (hb : DE X (.BoolOp .Or (b :: rest) pos) tb) : DE X (.BoolOp .Or (a :: b :: rest) pos) (dOr ta tb) :=
  (pe_orT ha hb).weak fun σ H Q ⟨w, S, env, Qd, e, sim, er, h, post⟩ => ⟨w, S, env, _, e, sim, er, h, fun d S1 w1 v h1 e1 s1 r1 => by
    split at h1
    · rename_i hk
      exact ⟨true, truD_ok s1 r1 hk, by rw [if_pos rfl]; exact post d S1 w1 v h1 e1 s1 r1⟩
    · rename_i hk
      exact ⟨false, truD_ok s1 r1 hk, by rw [if_neg Bool.false_ne_true]; exact ⟨w1, S1, env, Qd, rfl, s1, er.ext e1, h1, post.ext e1⟩⟩
    · exact h1.elim⟩
theorem de_not (ha : DE X a ta) : DE X (.UnaryOp .Not a pos) (dNot ta) :=
  (pe_notT ha).weak fun σ H Q ⟨w, S, env, Qd, e, sim, er, h, post⟩ => ⟨w, S, env, _, e, sim, er, h, fun d S1 w1 v h1 e1 s1 r1 => by
    split at h1
    · rename_i k hk
      exact ⟨k, truD_ok s1 r1 hk, post (.p (.bool (!k))) S1 w1 _ h1 e1 s1 (.bl (!k))⟩
    · exact h1.elim⟩
def dIf (t : DTt) (ta tb : DT) : DT := fun env S Q => t env S fun c S1 => if c = true then ta env S1 Q else tb env S1 Q
theorem de_if (hc : DTs X c tA) (ha : DE X a ta) (hb : DE X b tb) : DE X (.IfExp c a b pos) (dIf tA ta tb) :=
  (pe_ifExp hc ha hb).weak fun σ H Q ⟨w, S, env, Qd, e, sim, er, h, post⟩ => ⟨w, S, env, _, e, sim, er, h, fun k S1 w1 h1 e1 s1 => by
    cases k with
    | true => exact ⟨w1, S1, env, Qd, rfl, s1, er.ext e1, h1, post.ext e1⟩
    | false => exact ⟨w1, S1, env, Qd, rfl, s1, er.ext e1, h1, post.ext e1⟩⟩

/-! ### argument lists, displays -/
def dNil : DA := fun _ S Q => Q [] S
def dCons (ta : DT) (tr : DA) : DA := fun env S Q => ta env S fun x S1 => tr env S1 fun xs S2 => Q (x :: xs) S2
def dStar (ta : DT) (tr : DA) : DA := fun env S Q => ta env S fun x S1 => match x with
  | .p (.tuple ds) => tr env S1 fun xs S2 => Q (ds.map D.p ++ xs) S2
  | x => match seqL S1 x with
    | some ys => tr env S1 fun xs S2 => Q (ys ++ xs) S2
    | none => False
variable {e : Expr} {es : List Expr} {te : DT} {t : DA}
theorem da_nil : DAs X [] dNil := pa_nil.weak fun σ H Q ⟨w, S, env, Qd, e, sim, er, h, post⟩ => by
  subst e
  exact post [] S w [] h .refl sim .nil
theorem da_cons (ha : DE X e te) (hr : DAs X es t) (hs : starEach (e :: es) X.env = (false, eval e X.env) :: starEach es X.env := by rfl) : DAs X (e :: es) (dCons te t) :=
  (pa_cons ha hr hs).weak fun σ H Q ⟨w, S, env, Qd, e, sim, er, h, post⟩ => ⟨w, S, env, _, e, sim, er, h, fun d S1 w1 v h1 e1 s1 r1 =>
    ⟨w1, S1, env, _, rfl, s1, er.ext e1, h1, fun ds S2 w2 vs h2 e2 s2 r2 => post (d :: ds) S2 w2 (v :: vs) h2 (e1.trans e2) s2 (.cons (r1.ext e2) r2)⟩⟩
theorem da_star {p : Pos} (ha : DE X e te) (hr : DAs X es t) (hs : starEach (.Starred e p :: es) X.env = (true, eval e X.env) :: starEach es X.env := by rfl) : DAs X (.Starred e p :: es) (dStar te t) :=
  (StX.pa_star ha hr hs).weak fun σ H Q ⟨w, S, env, Qd, e, sim, er, h, post⟩ => ⟨w, S, env, _, e, sim, er, h, fun d S1 w1 v h1 e1 s1 r1 => by
    have fin : ∀ (ys : List D) (us : List V), Rvs X.K w1 ys us → t env S1 (fun xs S2 => Qd (ys ++ xs) S2) → LA X.K t σ w1.H fun vs H2 => Q (us ++ vs) H2 := fun ys us ry q =>
      ⟨w1, S1, env, _, rfl, s1, er.ext e1, q, fun ds S2 w2 vs h2 e2 s2 r2 => post (ys ++ ds) S2 w2 (us ++ vs) h2 (e1.trans e2) s2 (Rvs.append (Rvs.ext ry e2) r2)⟩
    split at h1
    · rename_i ds
      cases r1 with
      | tup f q => exact ⟨_, _, rfl, .inl f.sq, fin _ _ (PDs.rvs q) h1⟩
    · split at h1
      · rename_i ys hy
        obtain ⟨a, vs, rfl, h3, h4⟩ := s1.seq r1 hy
        exact ⟨a, vs, rfl, .inr h3, fin _ _ h4 h1⟩
      · exact h1.elim⟩
/-- what is captured in a tuple (or a list that is data) is frozen -/
def frzAll : List D → Sto → Option (List PyData × Sto)
  | [], S => some ([], S)
  | .p d :: xs, S => match frzAll xs S with
    | some (ds, S') => some (d :: ds, S')
    | none => none
  | .r n :: xs, S => match S n with
    | some (.lst ys) => match ys.mapM pureD with
      | some es => match frzAll xs (rmS S n) with
        | some (ds, S') => some (.list es :: ds, S')
        | none => none
      | none => none
    | _ => none
theorem frzAll_ok {K : PySem.W.Frag} : ∀ {xs : List D} {S S' : Sto} {ds : List PyData} {w : Wd} {vs : List V}, Sim K w S → Rvs K w xs vs → frzAll xs S = some (ds, S') →
    ∃ w', w'.H = w.H ∧ Ext w w' ∧ Sim K w' S' ∧ PDs K w' vs ds
  | [], S, S', ds, w, _, s, .nil, h => by
    simp only [frzAll, Option.some.injEq, Prod.mk.injEq] at h
    obtain ⟨rfl, rfl⟩ := h
    exact ⟨w, rfl, .refl, s, .nil⟩
  | .p d :: xs, S, S', ds, w, _, s, .cons r t, h => by
    simp only [frzAll] at h
    split at h
    · rename_i es S1 q
      simp only [Option.some.injEq, Prod.mk.injEq] at h
      obtain ⟨rfl, rfl⟩ := h
      obtain ⟨w', h1, h2, h3, h4⟩ := frzAll_ok s t q
      exact ⟨w', h1, h2, h3, .cons (PD.ext h2 r) h4⟩
    · cases h
  | .r n :: xs, S, S', ds, w, _, s, .cons r t, h => by
    simp only [frzAll] at h
    split at h
    · rename_i ys hn
      split at h
      · rename_i es hm
        split at h
        · rename_i es' S1 q
          simp only [Option.some.injEq, Prod.mk.injEq] at h
          obtain ⟨rfl, rfl⟩ := h
          rw [mapM_pure_inv hm] at hn
          obtain ⟨w1, g1, g2, g3, g4, g5⟩ := s.freeze hn r
          obtain ⟨w', h1, h2, h3, h4⟩ := frzAll_ok g4 (Rvs.ext t g3) q
          exact ⟨w', h1.trans g1, g3.trans h2, h3, .cons (PD.ext h2 g5) h4⟩
        · cases h
      · cases h
    · cases h
def dTup (t : DA) : DT := fun env S Q => t env S fun xs S1 => match frzAll xs S1 with
  | some (ds, S2) => ds.length ≤ sizeLine ∧ Q (.p (.tuple ds)) S2
  | none => False
/-- a list that stays as it is made -/
def dLst (t : DA) : DT := fun env S Q => t env S fun xs S1 => match frzAll xs S1 with
  | some (ds, S2) => ds.length ≤ sizeLine ∧ Q (.p (.list ds)) S2
  | none => False
/-- a list that will be changed -/
def dLstM (t : DA) : DT := fun env S Q => t env S fun xs S1 => xs.length ≤ sizeLine ∧ ∀ n, S1 n = none → Q (.r n) (upS S1 n (.lst xs))
theorem Sim.newTup {K : PySem.W.Frag} {w : Wd} {S : Sto} (s : Sim K w S) {ds : List PyData} {vs : List V} (r : PDs K w vs ds) {Qd : DQ} {Q : VK} (post : Post K w Qd Q) (h : Qd (.p (.tuple ds)) S) :
    ∀ p, w.H p = none → Q (.ref p) (upd w.H p (.tup vs)) := fun p hp => by
  obtain ⟨ex, s'⟩ := s.pure (o := .tup vs) hp
  exact post (.p (.tuple ds)) S ⟨w.ρ, fun a => w.Z a ∨ a = p, upd w.H p (.tup vs)⟩ (.ref p) h ex s' (.tup (.inl ⟨.inr rfl, upd_same⟩) (PDs.ext ex r))
theorem Sim.newLst {K : PySem.W.Frag} {w : Wd} {S : Sto} (s : Sim K w S) {ds : List PyData} {vs : List V} (r : PDs K w vs ds) {Qd : DQ} {Q : VK} (post : Post K w Qd Q) (h : Qd (.p (.list ds)) S) :
    ∀ p, w.H p = none → Q (.ref p) (upd w.H p (.lst vs)) := fun p hp => by
  obtain ⟨ex, s'⟩ := s.pure (o := .lst vs) hp
  exact post (.p (.list ds)) S ⟨w.ρ, fun a => w.Z a ∨ a = p, upd w.H p (.lst vs)⟩ (.ref p) h ex s' (.lst ⟨.inr rfl, upd_same⟩ (PDs.ext ex r))
theorem Sim.newM {K : PySem.W.Frag} {w : Wd} {S : Sto} (s : Sim K w S) {xs : List D} {vs : List V} (r : Rvs K w xs vs) {Qd : DQ} {Q : VK} (post : Post K w Qd Q) (h : ∀ n, S n = none → Qd (.r n) (upS S n (.lst xs))) :
    ∀ p, w.H p = none → Q (.ref p) (upd w.H p (.lst vs)) := fun p hp => by
  obtain ⟨ex, hn, s', r'⟩ := s.new hp r
  exact post (.r w.ρ.length) _ ⟨w.ρ ++ [p], w.Z, upd w.H p (.lst vs)⟩ (.ref p) (h _ hn) ex s' r'
theorem de_tup {x1} (h : DAs X es t) : DE X (.Tuple es x1 pos) (dTup t) :=
  (pe_tup h).weak fun σ H Q ⟨w, S, env, Qd, e, sim, er, h, post⟩ => ⟨w, S, env, _, e, sim, er, h, fun xs S1 w1 vs h1 e1 s1 r1 => by
    split at h1
    · rename_i ds S2 q
      obtain ⟨w2, g1, g2, g3, g4⟩ := frzAll_ok s1 r1 q
      rw [← g1]
      exact ⟨by rw [g4.length]; exact h1.1, g3.newTup g4 (post.ext (e1.trans g2)) h1.2⟩
    · exact h1.elim⟩
theorem de_lst (h : DAs X es t) : DE X (.List es pos) (dLst t) :=
  (pe_lst h).weak fun σ H Q ⟨w, S, env, Qd, e, sim, er, h, post⟩ => ⟨w, S, env, _, e, sim, er, h, fun xs S1 w1 vs h1 e1 s1 r1 => by
    split at h1
    · rename_i ds S2 q
      obtain ⟨w2, g1, g2, g3, g4⟩ := frzAll_ok s1 r1 q
      rw [← g1]
      exact ⟨by rw [g4.length]; exact h1.1, g3.newLst g4 (post.ext (e1.trans g2)) h1.2⟩
    · exact h1.elim⟩
theorem de_lstM (h : DAs X es t) : DE X (.List es pos) (dLstM t) :=
  (pe_lst h).weak fun σ H Q ⟨w, S, env, Qd, e, sim, er, h, post⟩ => ⟨w, S, env, _, e, sim, er, h, fun xs S1 w1 vs h1 e1 s1 r1 =>
    ⟨by rw [← r1.len]; exact h1.1, s1.newM r1 (post.ext e1) h1.2⟩⟩
end
end Tx

set_option Elab.async false
set_option linter.all false
set_option autoImplicit false
set_option maxRecDepth 100000
/-! Tx, part C: statements, targets, loops, comprehensions, defs -/
namespace Tx
open PySem L2

structure DEnds where
  nx : En → Sto → Prop
  rt : DQ
  bk : En → Sto → Prop := fun _ _ => False
  ct : En → Sto → Prop := fun _ _ => False
abbrev DS := DEnds → En → Sto → Prop
def PostN (K : PySem.W.Frag) (w : Wd) (Qd : En → Sto → Prop) (Q : L2.St → Hp → Prop) : Prop := ∀ env S' w' σ, Qd env S' → Ext w w' → Sim K w' S' → EnvR K w' env σ → Q σ w'.H
theorem PostN.ext {K : PySem.W.Frag} {w w' : Wd} {Qd : En → Sto → Prop} {Q : L2.St → Hp → Prop} (h : PostN K w Qd Q) (e : Ext w w') : PostN K w' Qd Q := fun d S v' v a b c r => h d S v' v a (e.trans b) c r
structure PostS (K : PySem.W.Frag) (w : Wd) (De : DEnds) (Dn : Ends) : Prop where
  nx : PostN K w De.nx Dn.nx
  rt : Post K w De.rt Dn.rt
  bk : PostN K w De.bk Dn.bk
  ct : PostN K w De.ct Dn.ct
theorem PostS.ext {K : PySem.W.Frag} {w w' : Wd} {De : DEnds} {Dn : Ends} (h : PostS K w De Dn) (e : Ext w w') : PostS K w' De Dn := ⟨h.nx.ext e, h.rt.ext e, h.bk.ext e, h.ct.ext e⟩
def LS (K : PySem.W.Frag) (t : DS) : TS := fun Dn σ H => ∃ w S env De, w.H = H ∧ Sim K w S ∧ EnvR K w env σ ∧ t De env S ∧ PostS K w De Dn
abbrev DSt (X : Cx) (st : Stmt) (t : DS) : Prop := PS X st (LS X.K t)
abbrev DSs (X : Cx) (st : List Stmt) (t : DS) : Prop := PSs X st (LS X.K t)

section
variable {X : Cx} {st : Stmt} {rest : List Stmt} {pos : Pos}
theorem _root_.L2.PS.weak {t t' : TS} (h : PS X st t) (i : ∀ D σ H, t' D σ H → t D σ H) : PS X st t' := ⟨fun pins s σ H D I q => h.run pins s σ H D I (i D σ H q)⟩
theorem _root_.L2.PSs.weak {t t' : TS} (h : PSs X rest t) (i : ∀ D σ H, t' D σ H → t D σ H) : PSs X rest t' := ⟨fun pins s σ H D I q => h.run pins s σ H D I (i D σ H q)⟩
def dNext : DS := fun De env S => De.nx env S
def dSeq (t u : DS) : DS := fun De env S => t { De with nx := fun e s => u De e s } env S
def dBreak : DS := fun De env S => De.bk env S
def dCont : DS := fun De env S => De.ct env S
variable {t u : DS}
theorem dss_nil : DSs X [] dNext := pss_nil.weak fun Dn σ H ⟨w, S, env, De, e, sim, er, h, post⟩ => by
  subst e
  exact post.nx env S w σ h .refl sim er
theorem LS.seq {K : PySem.W.Frag} {Dn : Ends} {σ : L2.St} {H : Hp} (h : LS K (dSeq t u) Dn σ H) : tSeq (LS K t) (LS K u) Dn σ H := by
  obtain ⟨w, S, env, De, e, sim, er, h, post⟩ := h
  exact ⟨w, S, env, _, e, sim, er, h, ⟨fun env' S' w' σ' h1 e1 s1 r1 => ⟨w', S', env', De, rfl, s1, r1, h1, post.ext e1⟩, post.rt, post.bk, post.ct⟩⟩
theorem dss_cons (h1 : DSt X st t) (h2 : DSs X rest u) : DSs X (st :: rest) (dSeq t u) := (pss_cons h1 h2).weak fun _ _ _ h => h.seq
theorem dss_one (h1 : DSt X st t) : DSs X [st] t := pss_one h1
theorem ds_pass : DSt X (.Pass pos) dNext := ps_pass.weak fun Dn σ H ⟨w, S, env, De, e, sim, er, h, post⟩ => by
  subst e
  exact post.nx env S w σ h .refl sim er
theorem ds_break : DSt X (.Break pos) dBreak := ps_break.weak fun Dn σ H ⟨w, S, env, De, e, sim, er, h, post⟩ => by
  subst e
  exact post.bk env S w σ h .refl sim er
theorem ds_cont : DSt X (.Continue pos) dCont := ps_continue.weak fun Dn σ H ⟨w, S, env, De, e, sim, er, h, post⟩ => by
  subst e
  exact post.ct env S w σ h .refl sim er
variable {e : Expr} {te : DT}
def dDrop (te : DT) : DS := fun De env S => te env S fun _ S1 => De.nx env S1
theorem ds_expr (he : DE X e te) (hs : swapsWith e none pos.line X.env = pure false := by rfl) : DSt X (.Expr e pos) (dDrop te) :=
  (ps_expr he hs).weak fun Dn σ H ⟨w, S, env, De, e, sim, er, h, post⟩ => ⟨w, S, env, _, e, sim, er, h, fun d S1 w1 v h1 e1 s1 r1 => post.nx env S1 w1 σ h1 e1 s1 (er.ext e1)⟩
def dRet (te : DT) : DS := fun De env S => te env S De.rt
theorem ds_ret (he : DE X e te) : DSt X (.Return (some e) pos) (dRet te) :=
  (ps_ret he).weak fun Dn σ H ⟨w, S, env, De, e, sim, er, h, post⟩ => ⟨w, S, env, _, e, sim, er, h, post.rt⟩
def dRetN : DS := fun De env S => De.rt (.p .none) S
theorem ds_retN : DSt X (.Return none pos) dRetN :=
  ps_retN.weak fun Dn σ H ⟨w, S, env, De, e, sim, er, h, post⟩ => by
    subst e
    exact post.rt (.p .none) S w .non h .refl sim .non
def dIfS (c : DTt) (t u : DS) : DS := fun De env S => c env S fun b S1 => if b = true then t De env S1 else u De env S1
theorem ds_if {c : Expr} {a b : List Stmt} {tc : DTt} (hc : DTs X c tc) (ha : DSs X a t) (hb : DSs X b u) : DSt X (.If c a b pos) (dIfS tc t u) :=
  (ps_if hc ha hb).weak fun Dn σ H ⟨w, S, env, De, e, sim, er, h, post⟩ => ⟨w, S, env, _, e, sim, er, h, fun k S1 w1 h1 e1 s1 => by
    cases k with
    | true => exact ⟨w1, S1, env, De, rfl, s1, er.ext e1, h1, post.ext e1⟩
    | false => exact ⟨w1, S1, env, De, rfl, s1, er.ext e1, h1, post.ext e1⟩⟩

/-! ### targets -/
abbrev DGt := D → En → Sto → (En → Sto → Prop) → Prop
abbrev DGts := List D → En → Sto → (En → Sto → Prop) → Prop
def PostG (K : PySem.W.Frag) (is : List Nat) (w : Wd) (σ0 : L2.St) (Qd : En → Sto → Prop) (Q : L2.St → Hp → Prop) : Prop := ∀ env S' w' σ, Qd env S' → Ext w w' → Sim K w' S' → EnvR K w' env σ → σ.length = σ0.length → (∀ i, i ∉ is → σ[i]? = σ0[i]?) → Q σ w'.H
theorem PostN.g {K : PySem.W.Frag} {is : List Nat} {w : Wd} {σ0 : L2.St} {Qd : En → Sto → Prop} {Q : L2.St → Hp → Prop} (h : PostN K w Qd Q) : PostG K is w σ0 Qd Q := fun env S' w' σ a b c d _ _ => h env S' w' σ a b c d
/-- is: the slots that may be changed -/
def LG (K : PySem.W.Frag) (is : List Nat) (g : DGt) : TG := fun v σ H Q => ∃ w S env d Qd, w.H = H ∧ Sim K w S ∧ EnvR K w env σ ∧ Rv K w d v ∧ g d env S Qd ∧ PostG K is w σ Qd Q
def LGs (K : PySem.W.Frag) (is : List Nat) (g : DGts) : TGs := fun vs σ H Q => ∃ w S env ds Qd, w.H = H ∧ Sim K w S ∧ EnvR K w env σ ∧ Rvs K w ds vs ∧ g ds env S Qd ∧ PostG K is w σ Qd Q
abbrev DG (X : Cx) (tg : Expr) (is : List Nat) (g : DGt) : Prop := PG X tg (LG X.K is g)
abbrev DGs (X : Cx) (tg : List Expr) (is : List Nat) (g : DGts) : Prop := PGs X tg (LGs X.K is g)
theorem _root_.L2.PG.weak {tg : Expr} {t t' : TG} (h : PG X tg t) (i : ∀ v σ H Q, t' v σ H Q → t v σ H Q) : PG X tg t' := ⟨fun pins s σ H x v Q I r q => h.run pins s σ H x v Q I r (i _ _ _ _ q)⟩
theorem _root_.L2.PGs.weak {tg : List Expr} {t t' : TGs} (h : PGs X tg t) (i : ∀ v σ H Q, t' v σ H Q → t v σ H Q) : PGs X tg t' := ⟨fun pins s σ H x v Q I r q => h.run pins s σ H x v Q I r (i _ _ _ _ q)⟩
def gdName (i : Nat) : DGt := fun d env S Q => Q (env.set i (some d)) S
theorem dg_name {i : Nat} {x : Str} (hN : X.N.Nodup) (hi : X.N[i]? = some x) (hx : Loc X.env.scope x) (hf : X.fn x = true ∨ X.env.scope.names.lookup x = some .local := by first | exact .inl rfl | exact .inr rfl | assumption) : DG X (.Name x pos) [i] (gdName i) :=
  (pg_name hN hi hx hf).weak fun v σ H Q ⟨w, S, env, d, Qd, e, sim, er, r, h, post⟩ => by
    subst e
    exact post _ S w _ h .refl sim (er.set r i) (by rw [List.length_set]) fun j hj => List.getElem?_set_ne (fun e => hj (by rw [e]; simp))
def gdNil : DGts := fun ds env S Q => ds = [] ∧ Q env S
def gdCons (g : DGt) (gs : DGts) : DGts := fun ds env S Q => match ds with
  | d :: ds => g d env S fun env' S' => gs ds env' S' Q
  | [] => False
theorem dgs_nil : DGs X [] [] gdNil := pgs_nil.weak fun v σ H Q ⟨w, S, env, d, Qd, e, sim, er, r, h, post⟩ => by
  subst e
  obtain ⟨rfl, h⟩ := h
  cases r
  exact ⟨rfl, post _ S w _ h .refl sim er rfl fun _ _ => rfl⟩
variable {tg : Expr} {tgs : List Expr} {g : DGt} {gs : DGts} {is js : List Nat}
theorem dgs_cons (h1 : DG X tg is g) (h2 : DGs X tgs js gs) (hs : (assignEach (tg :: tgs) X.env).map (·.2) = assign tg X.env :: (assignEach tgs X.env).map (·.2) := by rfl) : DGs X (tg :: tgs) (is ++ js) (gdCons g gs) :=
  (pgs_cons h1 h2 hs).weak fun v σ H Q ⟨w, S, env, ds, Qd, e, sim, er, r, h, post⟩ => by
    cases r with
    | nil => exact h.elim
    | cons r rs =>
      exact ⟨_, _, rfl, w, S, env, _, _, e, sim, er, r, h, fun env1 S1 w1 σ1 h1 e1 s1 r1 l1 k1 => ⟨w1, S1, env1, _, Qd, rfl, s1, r1, Rvs.ext rs e1, h1, fun env2 S2 w2 σ2 h2 e2 s2 r2 l2 k2 =>
        post env2 S2 w2 σ2 h2 (e1.trans e2) s2 r2 (l2.trans l1) fun i hi => (k2 i (fun z => hi (List.mem_append_right _ z))).trans (k1 i (fun z => hi (List.mem_append_left _ z)))⟩⟩
def gdTup (n : Nat) (gs : DGts) : DGt := fun d env S Q => match d with
  | .p (.tuple ds) => ds.length = n ∧ gs (ds.map D.p) env S Q
  | _ => False
theorem LG.tup {K : PySem.W.Frag} {n : Nat} {v : V} {σ : L2.St} {H : Hp} {Q : L2.St → Hp → Prop} (h : LG K is (gdTup n gs) v σ H Q) : gTup K n (LGs K is gs) v σ H Q := by
  obtain ⟨w, S, env, d, Qd, e, sim, er, r, h, post⟩ := h
  subst e
  cases d with
  | r n => exact h.elim
  | p d =>
    cases d with
    | tuple ds =>
      cases r with
      | tup f q => exact ⟨_, _, rfl, f.sq, by rw [q.length]; exact h.1, w, S, env, _, Qd, rfl, sim, er, q.rvs, h.2, post⟩
    | _ => exact h.elim
abbrev DSet := D → D → D → Sto → (Sto → Prop) → Prop
/-- o[i] = v by values -/
def LSet (K : PySem.W.Frag) (t : DSet) : TSet := fun o i v H Q => ∃ w S dO dI dV Qd, w.H = H ∧ Sim K w S ∧ Rv K w dO o ∧ Rv K w dI i ∧ Rv K w dV v ∧ t dO dI dV S Qd ∧ ∀ S' w', Qd S' → Ext w w' → Sim K w' S' → Q w'.H
def gdSub (to ti : DT) (t : DSet) : DGt := fun d env S Q => to env S fun o S1 => ti env S1 fun i S2 => t o i d S2 fun S3 => Q env S3
theorem LG.sub {K : PySem.W.Frag} {to ti : DT} {t : DSet} {v : V} {σ : L2.St} {H : Hp} {Q : L2.St → Hp → Prop} (h : LG K [] (gdSub to ti t) v σ H Q) : gSub (LE K to) (LE K ti) (LSet K t) v σ H Q := by
  obtain ⟨w, S, env, d, Qd, e, sim, er, r, h, post⟩ := h
  refine ⟨w, S, env, _, e, sim, er, h, fun o S1 w1 vo h1 e1 s1 r1 => ⟨w1, S1, env, _, rfl, s1, er.ext e1, h1, fun i S2 w2 vi h2 e2 s2 r2 => ?_⟩⟩
  refine ⟨w2, S2, o, i, d, _, rfl, s2, r1.ext e2, r2, r.ext (e1.trans e2), h2, fun S3 w3 h3 e3 s3 => post env S3 w3 σ h3 ((e1.trans e2).trans e3) s3 (er.ext ((e1.trans e2).trans e3)) rfl fun _ _ => rfl⟩
def dAsg (te : DT) (g : DGt) : DS := fun De env S => te env S fun d S1 => g d env S1 De.nx
theorem LS.asg {K : PySem.W.Frag} {Dn : Ends} {σ : L2.St} {H : Hp} (h : LS K (dAsg te g) Dn σ H) : tAsg (LE K te) (LG K is g) Dn σ H := by
  obtain ⟨w, S, env, De, e, sim, er, h, post⟩ := h
  exact ⟨w, S, env, _, e, sim, er, h, fun d S1 w1 v h1 e1 s1 r1 => ⟨w1, S1, env, d, _, rfl, s1, er.ext e1, r1, h1, (post.nx.ext e1).g⟩⟩
theorem ds_asg (he : DE X e te) (hg : DG X tg is g) (hs : swapsWithSole [tg] e pos.line X.env = pure false := by rfl) (hw : swappedStores [tg] e X.env = pure none := by rfl) (ha : (assignEach [tg] X.env).map (·.2) = [assign tg X.env] := by rfl) : DSt X (.Assign [tg] e pos) (dAsg te g) :=
  (ps_asg he hg hs hw ha).weak fun _ _ _ h => h.asg
def dSet (i : Nat) (te : DT) : DS := fun De env S => te env S fun d S1 => De.nx (env.set i (some d)) S1
theorem ds_set {i : Nat} {x : Str} {pos' : Pos} (hN : X.N.Nodup) (hi : X.N[i]? = some x) (hx : Loc X.env.scope x) (he : DE X e te) (hs : swapsWith e (some (.Name x pos')) pos.line X.env = pure false := by rfl)
    (hf : X.fn x = true ∨ X.env.scope.names.lookup x = some .local := by first | exact .inl rfl | exact .inr rfl | assumption) : DSt X (.Assign [.Name x pos'] e pos) (dSet i te) :=
  (ps_set hN hi hx he hs hf).weak fun Dn σ H ⟨w, S, env, De, e, sim, er, h, post⟩ => ⟨w, S, env, _, e, sim, er, h, fun d S1 w1 v h1 e1 s1 r1 => post.nx _ S1 w1 _ h1 e1 s1 ((er.ext e1).set r1 i)⟩

/-! ### what is walked -/
structure DIt where
  items : List D
  chk : Sto → Prop
abbrev DTI := En → Sto → (DIt → Sto → Prop) → Prop
structure RIt (K : PySem.W.Frag) (w : Wd) (J : DIt) (I : It) : Prop where
  go : ∀ i x, J.items[i]? = some x → ∀ w' S', Ext w w' → Sim K w' S' → J.chk S' → I.go i w'.H ∧ ∀ v H'', I.yld i w'.H v H'' → ∃ w'', w''.H = H'' ∧ Ext w' w'' ∧ Sim K w'' S' ∧ Rv K w'' x v
  stop : ∀ w' S', Ext w w' → Sim K w' S' → J.chk S' → I.stop J.items.length w'.H
def LI (K : PySem.W.Frag) (it : DTI) : TI := fun σ H R => ∃ w S env Qd, w.H = H ∧ Sim K w S ∧ EnvR K w env σ ∧ it env S Qd ∧ ∀ J S' w' I, Qd J S' → Ext w w' → Sim K w' S' → RIt K w' J I → R I w'.H
abbrev DI (X : Cx) (tg iter : Expr) (it : DTI) : Prop := PI X tg iter (LI X.K it)
theorem _root_.L2.PI.weak {tg iter : Expr} {t t' : TI} (h : PI X tg iter t) (i : ∀ σ H R, t' σ H R → t σ H R) : PI X tg iter t' := ⟨fun pins s σ H R I q => h.run pins s σ H R I (i _ _ _ q)⟩
/-- a list, by what it is now (it must stay so) -/
def diL (te : DT) : DTI := fun env S Q => te env S fun d S1 => match seqL S1 d with
  | some xs => Q ⟨xs, fun S' => seqL S' d = some xs⟩ S1
  | none => False
def diT (te : DT) : DTI := fun env S Q => te env S fun d S1 => match d with
  | .p (.tuple ds) => Q ⟨ds.map D.p, fun _ => True⟩ S1
  | _ => False
variable {iter : Expr}
theorem di_list (h : DE X e te) : DI X tg e (diL te) :=
  (pi_list h).weak fun σ H R ⟨w, S, env, Qd, e, sim, er, h, post⟩ => ⟨w, S, env, _, e, sim, er, h, fun d S1 w1 v h1 e1 s1 r1 => by
    split at h1
    · rename_i xs hx
      obtain ⟨a, vs, rfl, h3, h4⟩ := s1.seq r1 hx
      refine ⟨a, rfl, ⟨vs, h3⟩, post _ S1 w1 _ h1 e1 s1 ⟨fun i x hi w' S' e' s' c => ?_, fun w' S' e' s' c => ?_⟩⟩
      · obtain ⟨a', vs', ea, h5, h6⟩ := s'.seq (r1.ext e') c
        cases ea
        obtain ⟨v, h7, h8⟩ := h6.get hi
        refine ⟨⟨vs', v, h5, h7⟩, fun u H'' y => ?_⟩
        obtain ⟨rfl, y⟩ := y
        refine ⟨w', rfl, .refl, s', ?_⟩
        have q := y vs' h5
        rw [h7] at q
        cases q
        exact h8
      · obtain ⟨a', vs', ea, h5, h6⟩ := s'.seq (r1.ext e') c
        cases ea
        exact ⟨vs', h5, Nat.le_of_eq h6.len.symm⟩
    · exact h1.elim⟩
theorem di_tup (h : DE X e te) : DI X tg e (diT te) :=
  (pi_tup h).weak fun σ H R ⟨w, S, env, Qd, e, sim, er, h, post⟩ => ⟨w, S, env, _, e, sim, er, h, fun d S1 w1 v h1 e1 s1 r1 => by
    split at h1
    · rename_i ds
      cases r1 with
      | tup f q =>
        refine ⟨_, rfl, ⟨_, f.sq⟩, post _ S1 w1 _ h1 e1 s1 ⟨fun i x hi w' S' e' s' c => ?_, fun w' S' e' s' c => ?_⟩⟩
        · obtain ⟨v, h7, h8⟩ := (PDs.rvs (PDs.ext e' q)).get hi
          refine ⟨⟨_, v, (f.ext e').sq, h7⟩, fun u H'' y => ?_⟩
          obtain ⟨rfl, y⟩ := y
          refine ⟨w', rfl, .refl, s', ?_⟩
          have z := y _ (f.ext e').sq
          rw [h7] at z
          cases z
          exact h8
        · exact ⟨_, (f.ext e').sq, by rw [List.length_map, q.length]; exact Nat.le_refl _⟩
    · exact h1.elim⟩
/-- the intsD lo, lo + 1, .. -/
def intsD (lo : Int) (n : Nat) : List D := (List.range n).map fun (i : Nat) => D.p (.int (lo + i))
theorem intsD_get {lo : Int} {n i : Nat} {x : D} (h : (intsD lo n)[i]? = some x) : i < n ∧ x = .p (.int (lo + i)) := by
  unfold intsD at h
  rw [List.getElem?_map] at h
  cases q : (List.range n)[i]? with
  | none => rw [q] at h; cases h
  | some j =>
    rw [q] at h
    obtain ⟨h1, h2⟩ := List.getElem?_eq_some_iff.mp q
    rw [List.getElem_range] at h2
    rw [List.length_range] at h1
    subst h2
    cases h
    exact ⟨h1, rfl⟩
theorem intsD_len {lo : Int} {n : Nat} : (intsD lo n).length = n := by unfold intsD; rw [List.length_map, List.length_range]
theorem rit_range {K : PySem.W.Frag} {w : Wd} {lo : Int} {n : Nat} : RIt K w ⟨intsD lo n, fun _ => True⟩ (Itr lo n) := by
  refine ⟨fun i x hi w' S' e' s' c => ?_, fun w' S' e' s' c => ?_⟩
  · obtain ⟨h1, rfl⟩ := intsD_get hi
    refine ⟨h1, fun v H'' y => ?_⟩
    obtain ⟨rfl, rfl⟩ := y
    exact ⟨w', rfl, .refl, s', .int _⟩
  · show n ≤ (intsD lo n).length
    rw [intsD_len]
    exact Nat.le_refl _
def diR1 (ta : DA) : DTI := fun env S Q => ta env S fun ds S1 => match ds with
  | [.p (.int j)] => (-(2 ^ 62) ≤ j ∧ j < 2 ^ 62) ∧ Q ⟨intsD 0 j.toNat, fun _ => True⟩ S1
  | _ => False
def diR2 (ta : DA) : DTI := fun env S Q => ta env S fun ds S1 => match ds with
  | [.p (.int i), .p (.int j)] => (-(2 ^ 62) ≤ i ∧ i < 2 ^ 62 ∧ -(2 ^ 62) ≤ j ∧ j < 2 ^ 62) ∧ Q ⟨intsD i (j - i).toNat, fun _ => True⟩ S1
  | _ => False
theorem di_range1 {a : Expr} {ta : DA} {p pos : Pos} (hg : Gl X "range") (hm : X.mg "range" = none) (ha : DAs X [a] ta) (hs : starEach [a] X.env = [(false, eval a X.env)] := by rfl) : DI X tg (.Call (.Name "range" p) [a] [] pos) (diR1 ta) :=
  (pi_range1 hg hm ha hs).weak fun σ H R ⟨w, S, env, Qd, e, sim, er, h, post⟩ => ⟨w, S, env, _, e, sim, er, h, fun ds S1 w1 vs h1 e1 s1 r1 => by
    split at h1
    · rename_i j
      cases r1 with
      | cons r rs =>
        cases rs
        cases r
        exact ⟨j, rfl, h1.1.1, h1.1.2, post _ S1 w1 _ h1.2 e1 s1 rit_range⟩
    · exact h1.elim⟩
theorem di_range2 {a b : Expr} {ta : DA} {p pos : Pos} (hg : Gl X "range") (hm : X.mg "range" = none) (ha : DAs X [a, b] ta) (hs : starEach [a, b] X.env = [(false, eval a X.env), (false, eval b X.env)] := by rfl) (hs2 : starEach [b] X.env = [(false, eval b X.env)] := by rfl) : DI X tg (.Call (.Name "range" p) [a, b] [] pos) (diR2 ta) :=
  (pi_range2 hg hm ha hs hs2).weak fun σ H R ⟨w, S, env, Qd, e, sim, er, h, post⟩ => ⟨w, S, env, _, e, sim, er, h, fun ds S1 w1 vs h1 e1 s1 r1 => by
    split at h1
    · rename_i i j
      cases r1 with
      | cons r rs =>
        cases rs with
        | cons r2 rs =>
          cases rs
          cases r
          cases r2
          exact ⟨i, j, rfl, h1.1, post _ S1 w1 _ h1.2 e1 s1 rit_range⟩
    · exact h1.elim⟩

/-! ### for, while -/
/-- a loop by an invariant over the turns done -/
def loopI (J : DIt) (g : DGt) (tb : DS) (De : DEnds) (env : En) (S : Sto) : Prop := ∃ W : Nat → En → Sto → Prop, W 0 env S ∧
  (∀ k x env S, J.items[k]? = some x → W k env S → g x env S fun env1 S1 => tb { nx := fun e s => J.chk s ∧ W (k + 1) e s, rt := De.rt, bk := De.nx, ct := fun e s => J.chk s ∧ W (k + 1) e s } env1 S1) ∧
  ∀ env S, W J.items.length env S → De.nx env S
def dFor (it : DTI) (g : DGt) (tb : DS) : DS := fun De env S => it env S fun J S1 => J.chk S1 ∧ loopI J g tb De env S1
theorem ds_for {body : List Stmt} {it : DTI} {tb : DS} (hp : PassesOwn (model X.prog X.w) X.A X.env X.xe) (hc : X.calm = true) (hi : DI X tg iter it) (hg : DG X tg is g) (hb : DSs X body tb)
    (hs : ∀ x, foldedSetIterable iter X.env x = pure x := by intro _; rfl) : DSt X (.For tg iter body [] pos) (dFor it g tb) :=
  (ps_for hp hc hi hg hb hs).weak fun Dn σ H ⟨w, S, env, De, e, sim, er, h, post⟩ => ⟨w, S, env, _, e, sim, er, h, fun J S1 w1 I h1 e1 s1 ri => by
    obtain ⟨c1, W, h1, h2, h3⟩ := h1
    refine ⟨fun i m σ H => m = J.items.length - i ∧ i ≤ J.items.length ∧ ∃ w2 S2 env2, w2.H = H ∧ Ext w1 w2 ∧ Sim X.K w2 S2 ∧ EnvR X.K w2 env2 σ ∧ J.chk S2 ∧ W i env2 S2, ⟨J.items.length, by simp, Nat.zero_le _, w1, S1, env, rfl, .refl, s1, er.ext e1, c1, h1⟩, ?_⟩
    rintro i m σ2 H2 ⟨rfl, hi, w2, S2, env2, rfl, e2, s2, er2, c2, l2⟩
    by_cases hlt : i < J.items.length
    · have hx : J.items[i]? = some J.items[i] := List.getElem?_eq_getElem hlt
      have l2 := h2 i _ env2 S2 hx l2
      obtain ⟨hgo, hy⟩ := ri.go i _ hx w2 S2 e2 s2 c2
      refine .inr ⟨hgo, _, fun σ' H' q => ⟨J.items.length - (i + 1), by omega, q⟩, fun v H'' y => ?_⟩
      obtain ⟨w3, rfl, e3, s3, r3⟩ := hy v H'' y
      refine ⟨w3, S2, env2, _, _, rfl, s3, er2.ext e3, r3, l2, fun env4 S4 w4 σ4 h4 e4 s4 r4 _ _ => ⟨w4, S4, env4, _, rfl, s4, r4, h4, ?_⟩⟩
      have ee : Ext w1 w4 := (e2.trans e3).trans e4
      refine ⟨fun env5 S5 w5 σ5 h5 e5 s5 r5 => ⟨rfl, hlt, w5, S5, env5, rfl, ee.trans e5, s5, r5, h5.1, h5.2⟩, (post.ext (e1.trans ee)).rt, (post.ext (e1.trans ee)).nx, fun env5 S5 w5 σ5 h5 e5 s5 r5 => ⟨rfl, hlt, w5, S5, env5, rfl, ee.trans e5, s5, r5, h5.1, h5.2⟩⟩
    · have ei : i = J.items.length := by omega
      subst ei
      exact .inl ⟨ri.stop w2 S2 e2 s2 c2, post.nx env2 S2 w2 σ2 (h3 env2 S2 l2) (e1.trans e2) s2 er2⟩⟩
theorem loop_list {J : DIt} {g : DGt} {tb : DS} {De : DEnds} {env : En} {S : Sto} (W : Nat → En → Sto → Prop) (h0 : W 0 env S)
    (hs : ∀ k x env S, J.items[k]? = some x → W k env S → g x env S fun env1 S1 => tb { nx := fun e s => J.chk s ∧ W (k + 1) e s, rt := De.rt, bk := De.nx, ct := fun e s => J.chk s ∧ W (k + 1) e s } env1 S1)
    (hf : ∀ env S, W J.items.length env S → De.nx env S) : loopI J g tb De env S := ⟨W, h0, hs, hf⟩
theorem loop_range {lo : Int} {n : Nat} {chk : Sto → Prop} {g : DGt} {tb : DS} {De : DEnds} {env : En} {S : Sto} (W : Nat → En → Sto → Prop) (h0 : W 0 env S)
    (hs : ∀ k env S, k < n → W k env S → g (.p (.int (lo + k))) env S fun env1 S1 => tb { nx := fun e s => chk s ∧ W (k + 1) e s, rt := De.rt, bk := De.nx, ct := fun e s => chk s ∧ W (k + 1) e s } env1 S1)
    (hf : ∀ env S, W n env S → De.nx env S) : loopI ⟨intsD lo n, chk⟩ g tb De env S := ⟨W, h0, fun k x env S hx hw => by
      obtain ⟨h1, rfl⟩ := intsD_get hx
      exact hs k env S h1 hw, by rw [intsD_len]; exact hf⟩
/-- the invariant by a measure -/
def dWhile (c : DTt) (tb : DS) : DS := fun De env S => ∃ W : Nat → En → Sto → Prop, (∃ m, W m env S) ∧ ∀ m env S, W m env S →
  c env S fun b S1 => if b = true then tb { nx := fun e s => ∃ m', m' < m ∧ W m' e s, rt := De.rt, bk := De.nx, ct := fun e s => ∃ m', m' < m ∧ W m' e s } env S1 else De.nx env S1
theorem ds_while {c : Expr} {body : List Stmt} {tc : DTt} {tb : DS} (hp : PassesOwn (model X.prog X.w) X.A X.env X.xe) (hc : DTs X c tc) (hb : DSs X body tb) : DSt X (.While c body [] pos) (dWhile tc tb) :=
  (ps_while hp hc hb).weak fun Dn σ H ⟨w, S, env, De, e, sim, er, h, post⟩ => by
    obtain ⟨W, ⟨m0, w0⟩, turn⟩ := h
    refine ⟨fun m σ H => ∃ w1 S1 env1, w1.H = H ∧ Ext w w1 ∧ Sim X.K w1 S1 ∧ EnvR X.K w1 env1 σ ∧ W m env1 S1, ⟨m0, w, S, env, e, .refl, sim, er, w0⟩, ?_⟩
    rintro m σ1 H1 ⟨w1, S1, env1, rfl, e1, s1, er1, q1⟩
    refine ⟨w1, S1, env1, _, rfl, s1, er1, turn m env1 S1 q1, fun b S2 w2 h2 e2 s2 => ?_⟩
    cases b with
    | true =>
      rw [if_pos rfl] at h2 ⊢
      refine ⟨fun σ' H' => ∃ m', m' < m ∧ ∃ w1 S1 env1, w1.H = H' ∧ Ext w w1 ∧ Sim X.K w1 S1 ∧ EnvR X.K w1 env1 σ' ∧ W m' env1 S1, fun _ _ q => q, w2, S2, env1, _, rfl, s2, er1.ext e2, h2, ?_⟩
      have ee := e1.trans e2
      exact ⟨fun env5 S5 w5 σ5 ⟨m', hm, q⟩ e5 s5 r5 => ⟨m', hm, w5, S5, env5, rfl, ee.trans e5, s5, r5, q⟩, (post.ext ee).rt, (post.ext ee).nx, fun env5 S5 w5 σ5 ⟨m', hm, q⟩ e5 s5 r5 => ⟨m', hm, w5, S5, env5, rfl, ee.trans e5, s5, r5, q⟩⟩
    | false =>
      rw [if_neg Bool.false_ne_true] at h2 ⊢
      exact post.nx env1 S2 w2 σ1 h2 (e1.trans e2) s2 (er1.ext e2)

/-! ### list comprehensions -/
/-- n: the new list's place; W: turns done, what it holds -/
def lcI (J : DIt) (g : DGt) (tt : DTt) (te : DT) (vs : List Nat) (env : En) (n : Nat) (Q : List D → Sto → Prop) (S : Sto) : Prop := ∃ W : Nat → List D → Sto → Prop, W 0 [] S ∧
  (∀ k x acc S, J.items[k]? = some x → W k acc S → g x (wipeD env vs) S fun env2 S2 => tt env2 S2 fun b S3 =>
    if b = true then te env2 S3 fun y S4 => S4 n = some (.lst acc) ∧ acc.length < sizeLine ∧ J.chk (upS S4 n (.lst (acc ++ [y]))) ∧ W (k + 1) (acc ++ [y]) (upS S4 n (.lst (acc ++ [y])))
    else S3 n = some (.lst acc) ∧ J.chk S3 ∧ W (k + 1) acc S3) ∧
  ∀ acc S, W J.items.length acc S → Q acc S
/-- the new list may be changed later -/
def dLcM (it : DTI) (g : DGt) (tt : DTt) (te : DT) (vs : List Nat) : DT := fun env S Q => it env S fun J S1 => ∀ n, S1 n = none → J.chk (upS S1 n (.lst [])) ∧ lcI J g tt te vs env n (fun _ S2 => Q (.r n) S2) (upS S1 n (.lst []))
/-- the new list is data -/
def lcEnd (n : Nat) (Q : DQ) (acc : List D) (S2 : Sto) : Prop := match acc.mapM pureD with
  | some ds => S2 n = some (.lst acc) ∧ Q (.p (.list ds)) (rmS S2 n)
  | none => False
def dLc (it : DTI) (g : DGt) (tt : DTt) (te : DT) (vs : List Nat) : DT := fun env S Q => it env S fun J S1 => ∀ n, S1 n = none → J.chk (upS S1 n (.lst [])) ∧ lcI J g tt te vs env n (lcEnd n Q) (upS S1 n (.lst []))
theorem wipe_wipe {σ τ : L2.St} : ∀ {vs : List Nat}, σ.length = τ.length → (∀ (i : Nat), i ∉ vs → σ[i]? = τ[i]?) → wipe σ vs = wipe τ vs := fun {vs} hl h => by
  apply List.ext_getElem?
  intro i
  by_cases hi : i ∈ vs
  · have z : ∀ ρ : L2.St, ∀ vs : List Nat, i ∈ vs → (wipe ρ vs)[i]? = (if i < ρ.length then some none else none) := by
      intro ρ vs
      induction vs with
      | nil => intro h; cases h
      | cons v vs ih =>
        intro h
        show ((wipe ρ vs).set v none)[i]? = _
        by_cases e : v = i
        · subst e
          by_cases hv : v < ρ.length
          · rw [List.getElem?_set_self (by rw [wipe_length]; exact hv), if_pos hv]
          · rw [List.getElem?_eq_none (by rw [List.length_set, wipe_length]; omega), if_neg hv]
        · rw [List.getElem?_set_ne e]
          exact ih ((List.mem_cons.mp h).resolve_left (fun z => e z.symm))
    rw [z σ vs hi, z τ vs hi, hl]
  · rw [wipe_out hi, wipe_out hi]
    exact h i hi
theorem dg_tup {es : List Expr} {k : Nat} {n : Nat} (hc : X.calm = true) (h : DGs X es is gs) (hn : (assignEach es X.env).length = n := by rfl) (hst : (assignEach es X.env).findIdx? (·.1) = none := by rfl) : DG X (.Tuple es k pos) is (gdTup n gs) :=
  (pg_tup hc h hn hst).weak fun _ _ _ _ q => q.tup

/-! ### the comprehension's rule -/
theorem of_iteF {A B : Prop} (h : if false = true then A else B) : B := by rwa [if_neg Bool.false_ne_true] at h
theorem of_iteT {A B : Prop} (h : if true = true then A else B) : A := by rwa [if_pos rfl] at h
theorem _root_.L2.PTs.weak {ifs : List Expr} {t t' : TT} (h : PTs X ifs t) (i : ∀ σ H Q, t' σ H Q → t σ H Q) : PTs X ifs t' := ⟨fun pins s σ H Q I q => h.run pins s σ H Q I (i _ _ _ q)⟩
def dtYes : DTt := fun _ S Q => Q true S
theorem dpts_nil : PTs X [] (LT X.K dtYes) := pts_nil.weak fun σ H Q ⟨w, S, env, Qd, e, sim, er, h, post⟩ => by
  subst e
  exact post true S w h .refl sim
theorem dpts_one {c : Expr} {t : DTt} (h : DTs X c t) : PTs X [c] (LT X.K t) := pts_one h
theorem wiped_twice {σ : L2.St} {vs : List Nat} : wipe (wipe σ vs) vs = wipe σ vs := wipe_wipe (wipe_length σ vs) fun i hi => wipe_out hi
theorem LE.lc {K : PySem.W.Frag} {it : DTI} {tt : DTt} {te : DT} {vs : List Nat} {σ : L2.St} {H : Hp} {Q : VK} {w : Wd} {S : Sto} {env : En} {Qf : Nat → List D → Sto → Prop} (his : ∀ i ∈ is, i ∈ vs)
    (e : w.H = H) (sim : Sim K w S) (er : EnvR K w env σ) (h : it env S fun J S1 => ∀ n, S1 n = none → J.chk (upS S1 n (.lst [])) ∧ lcI J g tt te vs env n (Qf n) (upS S1 n (.lst [])))
    (fin : ∀ n acc S' w' v, Qf n acc S' → Ext w w' → Sim K w' S' → Rv K w' (.r n) v → Q v w'.H) : tLc (LI K it) (LG K is g) (LT K tt) (LE K te) vs σ H Q := by
  refine ⟨w, S, env, _, e, sim, er, h, fun J S1 w1 I h1 e1 s1 ri Dd hD => ?_⟩
  obtain ⟨ex, hn, s', r'⟩ := s1.new (xs := []) (vs := []) hD .nil
  obtain ⟨c0, W, l0, hstep, hend⟩ := h1 _ hn
  generalize w1.ρ.length = n at *
  generalize hwn : (⟨w1.ρ ++ [Dd], w1.Z, upd w1.H Dd (.lst [])⟩ : Wd) = wn at *
  have hwH : wn.H = upd w1.H Dd (.lst []) := by rw [← hwn]
  rw [← hwH]
  refine ⟨fun i m H => m = J.items.length - i ∧ i ≤ J.items.length ∧ ∃ w2 S2 acc, w2.H = H ∧ Ext wn w2 ∧ Sim K w2 S2 ∧ J.chk S2 ∧ W i acc S2, ⟨J.items.length, by simp, Nat.zero_le _, wn, _, [], rfl, .refl, s', c0, l0⟩, ?_⟩
  rintro i m H2 ⟨rfl, hi, w2, S2, acc, rfl, e2, s2, c2, l2⟩
  have e12 : Ext w1 w2 := ex.trans e2
  by_cases hlt : i < J.items.length
  · have hx : J.items[i]? = some J.items[i] := List.getElem?_eq_getElem hlt
    have l2 := hstep i _ acc S2 hx l2
    obtain ⟨hgo, hy⟩ := ri.go i _ hx w2 S2 e12 s2 c2
    refine .inr ⟨hgo, _, fun H' q => ⟨J.items.length - (i + 1), by omega, q⟩, fun v H'' y => ?_⟩
    obtain ⟨w3, rfl, e3, s3, r3⟩ := hy v H'' y
    have er3 : EnvR K w3 (wipeD env vs) (wipe σ vs) := ((er.ext (e1.trans e12)).ext e3).wiped vs
    refine ⟨w3, S2, wipeD env vs, _, _, rfl, s3, er3, r3, l2, fun env4 S4 w4 σ4 h4 e4 s4 r4 ll4 k4 => ?_⟩
    have e24 : Ext w2 w4 := e3.trans e4
    refine ⟨?_, w4, S4, env4, _, rfl, s4, r4, h4, fun b S5 w5 h5 e5 s5 => ?_⟩
    · rw [← wiped_twice (σ := σ)]
      exact wipe_wipe ll4 fun j hj => k4 j fun z => hj (his j z)
    · have e25 : Ext w2 w5 := e24.trans e5
      cases b with
      | false =>
        have h5' := of_iteF h5
        exact iteF ⟨rfl, hlt, w5, S5, acc, rfl, e2.trans e25, s5, h5'.2.1, h5'.2.2⟩
      | true =>
        have h5' := of_iteT h5
        refine iteT ⟨w5, S5, env4, _, rfl, s5, r4.ext e5, h5', fun y S6 w6 vy h6 e6 s6 r6 => ?_⟩
        obtain ⟨a6, b6, c6, d6⟩ := h6
        have e26 : Ext w2 w6 := e25.trans e6
        obtain ⟨a, ha, hz, vacc, hacc, racc⟩ := s6.lv n _ a6
        have hDd : a = Dd := by
          obtain ⟨a', q1, q2⟩ := r'.ext (e2.trans e26)
          rw [ha] at q1
          cases q1
          cases q2
          rfl
        subst hDd
        obtain ⟨e7, s7⟩ := s6.write a6 ha (Rvs.append racc (.cons r6 .nil))
        exact ⟨vacc, hacc, by rw [← racc.len]; exact b6, rfl, hlt, ⟨w6.ρ, w6.Z, upd w6.H a (.lst (vacc ++ [vy]))⟩, _, _, rfl, (e2.trans e26).trans e7, s7, c6, d6⟩
  · have ei : i = J.items.length := by omega
    subst ei
    exact .inl ⟨ri.stop w2 S2 e12 s2 c2, fin n acc S2 w2 _ (hend acc S2 l2) (e1.trans e12) s2 (r'.ext e2)⟩
theorem LE.lcM {K : PySem.W.Frag} {it : DTI} {tt : DTt} {te : DT} {vs : List Nat} {σ : L2.St} {H : Hp} {Q : VK} (his : ∀ i ∈ is, i ∈ vs) (h : LE K (dLcM it g tt te vs) σ H Q) : tLc (LI K it) (LG K is g) (LT K tt) (LE K te) vs σ H Q := by
  obtain ⟨w, S, env, Qd, e, sim, er, h, post⟩ := h
  exact LE.lc (Qf := fun n _ S2 => Qd (.r n) S2) his e sim er h fun n acc S' w' v q e' s' r => post (.r n) S' w' v q e' s' r
theorem LE.lcP {K : PySem.W.Frag} {it : DTI} {tt : DTt} {te : DT} {vs : List Nat} {σ : L2.St} {H : Hp} {Q : VK} (his : ∀ i ∈ is, i ∈ vs) (h : LE K (dLc it g tt te vs) σ H Q) : tLc (LI K it) (LG K is g) (LT K tt) (LE K te) vs σ H Q := by
  obtain ⟨w, S, env, Qd, e, sim, er, h, post⟩ := h
  refine LE.lc his e sim er h fun n acc S' w' v q e' s' r => ?_
  unfold lcEnd at q
  split at q
  · rename_i ds hd
    obtain ⟨q1, q2⟩ := q
    rw [mapM_pure_inv hd] at q1
    obtain ⟨w2, g1, g2, g3, g4, g5⟩ := s'.freeze q1 r
    rw [← g1]
    exact post _ _ w2 v q2 (e'.trans g3) g4 g5
  · exact q.elim
section
variable {elt : Expr} {ifs : List Expr} {scope : Scope} {own : List (Str × Nat)} {it : DTI} {tt : DTt} {tel : DT}
theorem de_lc (hc : X.calm = true) (hN : X.N.Nodup) (hi : DI X tg iter it) (ok : BlkOk X.N X.env.scope scope own) (his : ∀ i ∈ is, i ∈ own.map (·.2))
    (hg : ∀ (s : Shared) (H : Hp) (C : Addr) (cl : List (Str × Addr)) (fp : List Addr), DG (X.blk s H scope (compEnvC scope cl C X.env) fp) tg is g) (ht : ∀ (s : Shared) (H : Hp) (C : Addr) (cl : List (Str × Addr)) (fp : List Addr), PTs (X.blk s H scope (compEnvC scope cl C X.env) fp) ifs (LT X.K tt))
    (he : ∀ (s : Shared) (H : Hp) (C : Addr) (cl : List (Str × Addr)) (fp : List Addr), DE (X.blk s H scope (compEnvC scope cl C X.env) fp) elt tel) (hs : ∀ x, foldedSetIterable iter X.env x = pure x := by intro _; rfl) :
    DE X (.ListComp elt [⟨tg, iter, ifs, 0⟩] scope pos) (dLc it g tt tel (own.map (·.2))) :=
  (pe_lc hc hN hi ok hg ht he hs).weak fun _ _ _ h => LE.lcP his h
theorem de_lcM (hc : X.calm = true) (hN : X.N.Nodup) (hi : DI X tg iter it) (ok : BlkOk X.N X.env.scope scope own) (his : ∀ i ∈ is, i ∈ own.map (·.2))
    (hg : ∀ (s : Shared) (H : Hp) (C : Addr) (cl : List (Str × Addr)) (fp : List Addr), DG (X.blk s H scope (compEnvC scope cl C X.env) fp) tg is g) (ht : ∀ (s : Shared) (H : Hp) (C : Addr) (cl : List (Str × Addr)) (fp : List Addr), PTs (X.blk s H scope (compEnvC scope cl C X.env) fp) ifs (LT X.K tt))
    (he : ∀ (s : Shared) (H : Hp) (C : Addr) (cl : List (Str × Addr)) (fp : List Addr), DE (X.blk s H scope (compEnvC scope cl C X.env) fp) elt tel) (hs : ∀ x, foldedSetIterable iter X.env x = pure x := by intro _; rfl) :
    DE X (.ListComp elt [⟨tg, iter, ifs, 0⟩] scope pos) (dLcM it g tt tel (own.map (·.2))) :=
  (pe_lc hc hN hi ok hg ht he hs).weak fun _ _ _ h => LE.lcM his h
theorem LS.set {K : PySem.W.Frag} {i : Nat} {t : DT} {Dn : Ends} {σ : L2.St} {H : Hp} (h : LS K (dSet i t) Dn σ H) : LE K t σ H fun x H1 => Dn.nx (σ.set i (some x)) H1 := by
  obtain ⟨w, S, env, De, e, sim, er, h, post⟩ := h
  exact ⟨w, S, env, _, e, sim, er, h, fun d S1 w1 v h1 e1 s1 r1 => post.nx _ S1 w1 _ h1 e1 s1 ((er.ext e1).set r1 i)⟩
theorem ds_setLc {i : Nat} {y : Str} {py spos : Pos} (hc : X.calm = true) (hN : X.N.Nodup) (hy : X.N[i]? = some y) (hyl : X.env.scope.names.lookup y = some .local)
    (hsw : swapsWith (.ListComp elt [⟨tg, iter, ifs, 0⟩] scope pos) (some (.Name y py)) spos.line X.env = pure true) (hi : DI X tg iter it) (ok : BlkOk X.N X.env.scope scope own) (his : ∀ i ∈ is, i ∈ own.map (·.2))
    (hg : ∀ (s : Shared) (H : Hp) (C : Addr) (cl : List (Str × Addr)) (fp : List Addr), DG (X.blk s H scope (compEnvC scope cl C X.env) fp) tg is g) (ht : ∀ (s : Shared) (H : Hp) (C : Addr) (cl : List (Str × Addr)) (fp : List Addr), PTs (X.blk s H scope (compEnvC scope cl C X.env) fp) ifs (LT X.K tt))
    (he : ∀ (s : Shared) (H : Hp) (C : Addr) (cl : List (Str × Addr)) (fp : List Addr), DE (X.blk s H scope (compEnvC scope cl C X.env) fp) elt tel) (hs : ∀ x, foldedSetIterable iter X.env x = pure x := by intro _; rfl) :
    DSt X (.Assign [.Name y py] (.ListComp elt [⟨tg, iter, ifs, 0⟩] scope pos) spos) (dSet i (dLc it g tt tel (own.map (·.2)))) :=
  (ps_setLc hc hN hy hyl hsw hi ok hg ht he hs).weak fun _ _ _ h => LE.lcP his h.set
theorem ds_setLcM {i : Nat} {y : Str} {py spos : Pos} (hc : X.calm = true) (hN : X.N.Nodup) (hy : X.N[i]? = some y) (hyl : X.env.scope.names.lookup y = some .local)
    (hsw : swapsWith (.ListComp elt [⟨tg, iter, ifs, 0⟩] scope pos) (some (.Name y py)) spos.line X.env = pure true) (hi : DI X tg iter it) (ok : BlkOk X.N X.env.scope scope own) (his : ∀ i ∈ is, i ∈ own.map (·.2))
    (hg : ∀ (s : Shared) (H : Hp) (C : Addr) (cl : List (Str × Addr)) (fp : List Addr), DG (X.blk s H scope (compEnvC scope cl C X.env) fp) tg is g) (ht : ∀ (s : Shared) (H : Hp) (C : Addr) (cl : List (Str × Addr)) (fp : List Addr), PTs (X.blk s H scope (compEnvC scope cl C X.env) fp) ifs (LT X.K tt))
    (he : ∀ (s : Shared) (H : Hp) (C : Addr) (cl : List (Str × Addr)) (fp : List Addr), DE (X.blk s H scope (compEnvC scope cl C X.env) fp) elt tel) (hs : ∀ x, foldedSetIterable iter X.env x = pure x := by intro _; rfl) :
    DSt X (.Assign [.Name y py] (.ListComp elt [⟨tg, iter, ifs, 0⟩] scope pos) spos) (dSet i (dLcM it g tt tel (own.map (·.2)))) :=
  (ps_setLc hc hN hy hyl hsw hi ok hg ht he hs).weak fun _ _ _ h => LE.lcM his h.set
end
end

end Tx

set_option Elab.async false
set_option linter.all false
set_option autoImplicit false
set_option maxRecDepth 100000
namespace Tx
open PySem PySem.Spec PyProof.Rows L2
/-! ### defs -/
/-- a def's promise: from the arguments and the store, what it hands back and leaves -/
abbrev DSp := List D → Sto → DQ → Prop
def LSp (K : PySem.W.Frag) (n : Nat) (sp : DSp) : Sp := fun vs H Q _ => ∃ w S ds Qd, w.H = H ∧ Sim K w S ∧ Rvs K w ds vs ∧ ds.length = n ∧ sp ds S Qd ∧ Post K w Qd Q
abbrev DFn (P : Program) (w : World) (K : PySem.W.Frag) (mg : Str → Option Value) (base : Heap) (k : Nat) (f : Addr) (fd : FuncData) (ps : List Str) (sp : DSp) : Prop := FnOk P w K mg base CX0 k f fd ps (LSp K ps.length sp)
/-- the end of a def: a list of its own is handed back as data; what it made is forgotten -/
def Fin (Q : DQ) : DQ := fun d S => ∃ d' S', Q d' S' ∧ (∀ n o, S' n = some o → S n = some o) ∧ (d' = d ∨ ∃ n ds, d = .r n ∧ S n = some (.lst (ds.map D.p)) ∧ S' n = none ∧ d' = .p (.list ds))
theorem Post.fin {K : PySem.W.Frag} {w : Wd} {Qd : DQ} {Q : VK} (h : Post K w Qd Q) : Post K w (Fin Qd) Q := fun d S' w' v ⟨d', S2, q, le, c⟩ e s r => by
  rcases c with rfl | ⟨n, ds, rfl, hn, h0, rfl⟩
  · exact h _ S2 w' v q e (s.less le) r
  · obtain ⟨w2, g1, g2, g3, g4, g5⟩ := s.freeze hn r
    rw [← g1]
    refine h _ S2 w2 v q (e.trans g3) (g4.less fun m o z => ?_) g5
    unfold rmS
    split
    · rename_i em
      rw [em, h0] at z
      cases z
    · exact le m o z
theorem Fin.same {Q : DQ} {d : D} {S : Sto} (h : Q d S) : Fin Q d S := ⟨d, S, h, fun _ _ q => q, .inl rfl⟩
theorem Fin.less {Q : DQ} {d : D} {S S' : Sto} (h : Q d S') (le : ∀ n o, S' n = some o → S n = some o) : Fin Q d S := ⟨d, S', h, le, .inl rfl⟩
theorem Fin.lst {Q : DQ} {n : Nat} {S S' : Sto} {ds : List PyData} (hn : S n = some (.lst (ds.map D.p))) (h : Q (.p (.list ds)) S') (h0 : S' n = none) (le : ∀ n o, S' n = some o → S n = some o) : Fin Q (.r n) S := ⟨_, S', h, le, .inr ⟨n, ds, rfl, hn, h0, rfl⟩⟩
def dstart (n : Nat) (ds : List D) : En := ds.map some ++ List.replicate (n - ds.length) none
section
variable {P : Program} {w : World} {K : PySem.W.Frag} {mg : Str → Option Value} {base : Heap}
theorem start_env {wd : Wd} {N : List Str} {ds : List D} {vs : List V} (r : Rvs K wd ds vs) : EnvR K wd (dstart N.length ds) (L2.start N vs) := by
  have hl := r.len
  refine ⟨by simp [dstart, L2.start, hl], fun i d h => ?_⟩
  unfold dstart at h
  by_cases hi : i < ds.length
  · rw [List.getElem?_append_left (by simpa using hi), List.getElem?_map] at h
    cases q : ds[i]? with
    | none => rw [q] at h; cases h
    | some d' =>
      rw [q] at h
      cases h
      obtain ⟨v, h1, h2⟩ := r.get q
      exact ⟨v, by unfold L2.start; rw [List.getElem?_append_left (by rw [List.length_map]; omega), List.getElem?_map, h1]; rfl, h2⟩
  · rw [List.getElem?_append_right (by simpa using hi), List.getElem?_replicate] at h
    split at h <;> cases h
/-- THE RULE for a def -/
theorem dfn_of {x qual : Str} {st : Stmt} {f : Addr} {fd : FuncData} {N ps : List Str} {k : Nat} {sp : DSp} (F : Fun K x qual st f fd) (S : FnScope N ps (defScope st)) {t : DS}
    (hb : ∀ (cdv : Value) (A : Around) (outer : List Env) (s : Shared) (H : Hp) (E : XK), Room k (A.deeper (envOfC qual (defScope st) s.heap.objs.size f cdv)) → DSs (cxOf CX0 P w K mg base N qual (defScope st) f cdv A outer s H E).nox (defBody st) t)
    (hs : ∀ ds S Q, ds.length = ps.length → sp ds S Q → t { nx := fun _ S' => Fin Q (.p .none) S', rt := Fin Q } (dstart N.length ds) S) : DFn P w K mg base (k + 1) f fd ps sp := by
  refine F.ok S (fun vs H Q E ⟨wd, S, ds, Qd, e, sim, r, hl, h, post⟩ => by rw [← r.len, hl]) fun cdv A outer s H vs Q E hr ⟨wd, S0, ds, Qd, e, sim, r, hl, h, post⟩ => ?_
  refine ⟨_, hb cdv A outer s H E hr, wd, S0, dstart N.length ds, _, e, sim, start_env r, hs ds S0 Qd hl h, ?_⟩
  exact ⟨fun env S' w' σ q e' s' r' => post.fin (.p .none) S' w' .non q e' s' .non, post.fin, fun _ _ _ _ z => z.elim, fun _ _ _ _ z => z.elim⟩
theorem DFn.imp {k : Nat} {f : Addr} {fd : FuncData} {ps : List Str} {sp sp' : DSp} (F : DFn P w K mg base k f fd ps sp) (h : ∀ ds S Q, sp' ds S Q → sp ds S Q) : DFn P w K mg base k f fd ps sp' :=
  FnOk.imp F fun vs H Q E ⟨wd, S, ds, Qd, e, sim, r, hl, q, post⟩ => ⟨wd, S, ds, Qd, e, sim, r, hl, h _ _ _ q, post⟩
end
section
variable {X : Cx} {k : Nat} {f : Addr} {fd : FuncData} {ps : List Str} {sp : DSp} {x : Str} {p pos : Pos} {e : Expr} {es : List Expr} {t : DA}
def dCall (n : Nat) (sp : DSp) (t : DA) : DT := fun env S Q => t env S fun ds S1 => ds.length = n ∧ sp ds S1 Q
theorem LE.call {K : PySem.W.Frag} {n : Nat} {σ : L2.St} {H : Hp} {Q : VK} (h : LE K (dCall n sp t) σ H Q) : tCall (LSp K n sp) [] E0 (LA K t) σ H Q := by
  obtain ⟨w, S, env, Qd, e, sim, er, h, post⟩ := h
  refine ⟨w, S, env, _, e, sim, er, h, fun ds S1 w1 vs h1 e1 s1 r1 => ⟨w1, S1, ds, Qd, rfl, s1, by rw [List.append_nil]; exact r1, h1.1, h1.2, post.ext e1⟩⟩
theorem de_call (F : DFn X.prog X.w X.K X.mg X.base k f fd ps sp) (hr : Room k X.A) (hg : Gl X x) (hm : X.mg x = some (.ref f)) (hk : PySem.W.keepIn X.K (.ref f) = true) (hb : Binds X.K fd ps [])
    (ha : DAs X (e :: es) t) (hdb : (x == ("__debug__" : Str)) = false := by decide) (he : starEach (e :: es) X.env = (false, eval e X.env) :: starEach es X.env := by rfl) (hpl : (backTo pos (starEach es X.env)).any (·.1) = false := by rfl) :
    DE X (.Call (.Name x p) (e :: es) [] pos) (dCall ps.length sp t) :=
  (pe_call F hr hg hm hk hb .nil pass0 ha hdb he hpl).weak fun _ _ _ h => h.call
theorem de_call0 (F : DFn X.prog X.w X.K X.mg X.base k f fd ps sp) (hr : Room k X.A) (hg : Gl X x) (hm : X.mg x = some (.ref f)) (hk : PySem.W.keepIn X.K (.ref f) = true) (hb : Binds X.K fd ps [])
    (hdb : (x == ("__debug__" : Str)) = false := by decide) : DE X (.Call (.Name x p) [] [] pos) (dCall ps.length sp dNil) :=
  (pe_call0 F hr hg hm hk hb .nil pass0 hdb).weak fun _ _ _ ⟨w, S, env, Qd, e, sim, er, h, post⟩ => by
    subst e
    exact ⟨w, S, [], Qd, rfl, sim, .nil, h.1, h.2, post⟩
/-- a built-in function (or type) by the values of its arguments -/
abbrev DC := List D → Sto → DQ → Prop
def LC (K : PySem.W.Frag) (r : DC) : List V → Hp → VK → Prop := fun vs H Q => ∃ w S ds Qd, w.H = H ∧ Sim K w S ∧ Rvs K w ds vs ∧ r ds S Qd ∧ Post K w Qd Q
def DCall (X : Cx) (f : Value) (r : DC) : Prop := CallR X f (LC X.K r)
def dCB (r : DC) (t : DA) : DT := fun env S Q => t env S fun ds S1 => r ds S1 Q
theorem LE.cb {K : PySem.W.Frag} {r : DC} {σ : L2.St} {H : Hp} {Q : VK} (h : LE K (dCB r t) σ H Q) : tCB (LC K r) (LA K t) σ H Q := by
  obtain ⟨w, S, env, Qd, e, sim, er, h, post⟩ := h
  exact ⟨w, S, env, _, e, sim, er, h, fun ds S1 w1 vs h1 e1 s1 r1 => ⟨w1, S1, ds, Qd, rfl, s1, r1, h1, post.ext e1⟩⟩
theorem de_callB {id : String} {r : DC} (hc : DCall X (.builtin id) r) (hg : Gl X x) (hm : X.mg x = none) (hv : bootBuiltins x = some (.builtin id)) (ha : DAs X (e :: es) t) (hn : x ≠ "__name__" := by decide) (hdb : (x == ("__debug__" : Str)) = false := by decide)
    (he : starEach (e :: es) X.env = (false, eval e X.env) :: starEach es X.env := by rfl) (hpl : (backTo pos (starEach es X.env)).any (·.1) = false := by rfl) : DE X (.Call (.Name x p) (e :: es) [] pos) (dCB r t) :=
  (pe_callB hc hg hm hv ha hn hdb he hpl).weak fun _ _ _ h => h.cb
theorem de_callTy {T : String} {r : DC} (hc : DCall X (.type T) r) (hg : Gl X x) (hm : X.mg x = none) (hv : bootBuiltins x = some (.type T)) (ha : DAs X (e :: es) t) (hn : x ≠ "__name__" := by decide) (hdb : (x == ("__debug__" : Str)) = false := by decide)
    (he : starEach (e :: es) X.env = (false, eval e X.env) :: starEach es X.env := by rfl) (hpl : (backTo pos (starEach es X.env)).any (·.1) = false := by rfl) : DE X (.Call (.Name x p) (e :: es) [] pos) (dCB r t) :=
  (pe_callTy hc hg hm hv ha hn hdb he hpl).weak fun _ _ _ h => h.cb
end
end Tx

set_option Elab.async false
set_option linter.all false
set_option autoImplicit false
set_option maxRecDepth 100000
/-! Tx, part E: operators, places, slices, built-ins -/
namespace Tx
open PySem PySem.Spec PyProof.Rows L2

section
variable {X : Cx} {pins : List (Addr × Obj)} {s : Shared} {σ : L2.St} {w : Wd} {S : Sto}
theorem rd (I : Inv X pins σ w.H s) (sim : Sim X.K w S) {d : D} {v : V} {u : Value} {x : PyData} (r : Rv X.K w d v) (ru : RelV v u) (h : dat S d = some x) : (∃ as, Reads s.heap u x as) ∧ x.plain = true := by
  obtain ⟨h1, h2⟩ := sim.dat r h
  exact ⟨Dp.reads I x v u h1 ru, PySem.PyData.plain_of_canLay0 x h2⟩
theorem depth_room {A : Around} {a b : Nat} (hu : A.units + 64 < cLine) (h : min a b ≤ 60) : A.units + min a b < cLine := by omega
theorem depth_room1 {A : Around} {a b : Nat} (hu : A.units + 64 < cLine) (h : min a b ≤ 60) : A.units + 1 + min a b < cLine := by omega

/-! ### comparisons -/
def rEq : D2 := fun x y S Q => match dat S x, dat S y with
  | some d, some e => min d.depth e.depth ≤ 60 ∧ Q (.p (.bool (PyData.eqv d e))) S
  | _, _ => False
def rNe : D2 := fun x y S Q => match dat S x, dat S y with
  | some d, some e => min d.depth e.depth ≤ 60 ∧ Q (.p (.bool (!PyData.eqv d e))) S
  | _, _ => False
theorem op2 {f : Value → Value → Sem Value} {r : D2} (h : ∀ (pins : List (Addr × Obj)) (s : Shared) (σ : L2.St) (w : Wd) (S : Sto) (dx dy : D) (x y : V) (v u : Value) (Qd : DQ) (Q : VK), Inv X pins σ w.H s → Sim X.K w S → Rv X.K w dx x → Rv X.K w dy y → RelV x v → RelV y u → r dx dy S Qd → Post X.K w Qd Q →
    wpAny (model X.prog X.w) X.A (f v u) (EP X pins σ Q) X.xe s) : DOp X f r := by
  intro pins s σ H x y v u Q I rx ry q
  obtain ⟨w, S, dx, dy, Qd, rfl, sim, hx, hy, hr, post⟩ := q
  exact h pins s σ w S dx dy x y v u Qd Q I sim hx hy rx ry hr post
theorem fin_p {Qd : DQ} {Q : VK} {d : PyData} {v : V} (I : Inv X pins σ w.H s) (sim : Sim X.K w S) (post : Post X.K w Qd Q) (h : Qd (.p d) S) (r : PD X.K w v d) {u : Value} (ru : RelV v u) : EP X pins σ Q u s :=
  ⟨v, w.H, I, ru, post (.p d) S w v h .refl sim r⟩
theorem dop_eq (hu : X.A.units + 64 < cLine) : DOp X (compareOp .Eq) rEq := op2 fun pins s σ w S dx dy x y v u Qd Q I sim hx hy rx ry h post => by
  unfold rEq at h
  split at h
  · rename_i d e h1 h2
    obtain ⟨⟨as, r1⟩, p1⟩ := rd I sim hx rx h1
    obtain ⟨⟨bs, r2⟩, p2⟩ := rd I sim hy ry h2
    exact PySem.SeqAt.eq_plain r1 r2 p1 p2 (depth_room hu h.1) (fin_p I sim post h.2 (.bl _) rfl)
  · exact h.elim
theorem dop_ne (hu : X.A.units + 64 < cLine) : DOp X (compareOp .NotEq) rNe := op2 fun pins s σ w S dx dy x y v u Qd Q I sim hx hy rx ry h post => by
  unfold rNe at h
  split at h
  · rename_i d e h1 h2
    obtain ⟨⟨as, r1⟩, p1⟩ := rd I sim hx rx h1
    obtain ⟨⟨bs, r2⟩, p2⟩ := rd I sim hy ry h2
    exact PySem.SeqAt.ne_plain r1 r2 p1 p2 (depth_room hu h.1) (fin_p I sim post h.2 (.bl _) rfl)
  · exact h.elim
/-- order of data: ints, texts, tuples and lists of alike data -/
def rOrd (f : PyData → PyData → Bool) : D2 := fun x y S Q => match dat S x, dat S y with
  | some d, some e => (PySem.W.alike d e = true ∧ d ≠ .none ∧ min d.depth e.depth ≤ 60) ∧ Q (.p (.bool (f d e))) S
  | _, _ => False
def rLt : D2 := rOrd fun d e => PySem.W.dataLt d e
def rGt : D2 := rOrd fun d e => PySem.W.dataLt e d
def rLe : D2 := rOrd fun d e => !PySem.W.dataLt e d
def rGe : D2 := rOrd fun d e => !PySem.W.dataLt d e
theorem dop_lt (hu : X.A.units + 64 < cLine) : DOp X (compareOp .Lt) rLt := op2 fun pins s σ w S dx dy x y v u Qd Q I sim hx hy rx ry h post => by
  unfold rLt rOrd at h
  split at h
  · rename_i d e h1 h2
    obtain ⟨⟨as, r1⟩, p1⟩ := rd I sim hx rx h1
    obtain ⟨⟨bs, r2⟩, p2⟩ := rd I sim hy ry h2
    exact PySem.W.lt_data r1 r2 h.1.1 h.1.2.1 (depth_room hu h.1.2.2) (fin_p I sim post h.2 (.bl _) rfl)
  · exact h.elim
theorem dop_gt (hu : X.A.units + 64 < cLine) : DOp X (compareOp .Gt) rGt := op2 fun pins s σ w S dx dy x y v u Qd Q I sim hx hy rx ry h post => by
  unfold rGt rOrd at h
  split at h
  · rename_i d e h1 h2
    obtain ⟨⟨as, r1⟩, p1⟩ := rd I sim hx rx h1
    obtain ⟨⟨bs, r2⟩, p2⟩ := rd I sim hy ry h2
    exact PySem.W.gt_data r1 r2 h.1.1 h.1.2.1 (depth_room hu h.1.2.2) (fin_p I sim post h.2 (.bl _) rfl)
  · exact h.elim
theorem dop_le (hu : X.A.units + 64 < cLine) : DOp X (compareOp .LtE) rLe := op2 fun pins s σ w S dx dy x y v u Qd Q I sim hx hy rx ry h post => by
  unfold rLe rOrd at h
  split at h
  · rename_i d e h1 h2
    obtain ⟨⟨as, r1⟩, p1⟩ := rd I sim hx rx h1
    obtain ⟨⟨bs, r2⟩, p2⟩ := rd I sim hy ry h2
    exact PySem.W.le_data r1 r2 h.1.1 h.1.2.1 (depth_room hu h.1.2.2) (fin_p I sim post h.2 (.bl _) rfl)
  · exact h.elim
theorem dop_ge (hu : X.A.units + 64 < cLine) : DOp X (compareOp .GtE) rGe := op2 fun pins s σ w S dx dy x y v u Qd Q I sim hx hy rx ry h post => by
  unfold rGe rOrd at h
  split at h
  · rename_i d e h1 h2
    obtain ⟨⟨as, r1⟩, p1⟩ := rd I sim hx rx h1
    obtain ⟨⟨bs, r2⟩, p2⟩ := rd I sim hy ry h2
    exact PySem.W.ge_data r1 r2 h.1.1 h.1.2.1 (depth_room hu h.1.2.2) (fin_p I sim post h.2 (.bl _) rfl)
  · exact h.elim
/-- x in y: a list, a tuple, or a text in a text -/
def rIn (neg : Bool) : D2 := fun x y S Q => match y with
  | .p (.str b) => match x with
    | .p (.str a) => Q (.p (.bool (xor neg (!(Builtin.Str.occurrences b a 0 b.length 1).isEmpty)))) S
    | _ => False
  | .p (.tuple ds) => match dat S x with
    | some d => min (PyData.depthAll ds) d.depth ≤ 60 ∧ Q (.p (.bool (xor neg (ds.any fun e => PyData.eqv e d)))) S
    | none => False
  | y => match datL S y, dat S x with
    | some ds, some d => min (PyData.depthAll ds) d.depth ≤ 60 ∧ Q (.p (.bool (xor neg (ds.any fun e => PyData.eqv e d)))) S
    | _, _ => False
theorem datL_dat {S : Sto} {d : D} {ds : List PyData} (h : datL S d = some ds) : dat S d = some (.list ds) := by
  cases d with
  | p d =>
    cases d with
    | list xs => simp only [datL, Option.some.injEq] at h; subst h; rfl
    | _ => simp [datL] at h
  | r n => simp only [dat, h, Option.map]
theorem dop_in (hu : X.A.units + 64 < cLine) : DOp X (compareOp .In) (rIn false) := op2 fun pins s σ w S dx dy x y v u Qd Q I sim hx hy rx ry h post => by
  unfold rIn at h
  split at h
  · rename_i b
    split at h
    · rename_i a
      cases hx; cases hy
      exact op_in_str pins s σ _ _ _ _ _ Q I rx ry ⟨_, _, rfl, rfl, by rw [Bool.false_xor] at h; exact post _ S w _ h .refl sim (.bl _)⟩
    · exact h.elim
  · rename_i ds
    split at h
    · rename_i d h1
      obtain ⟨⟨as, r1⟩, p1⟩ := rd I sim hx rx h1
      obtain ⟨⟨bs, r2⟩, p2⟩ := rd I sim hy ry (rfl : dat S (.p (.tuple ds)) = some (.tuple ds))
      exact PySem.SeqAt.in_tuple_data r2 r1 p2 p1 (depth_room1 hu h.1) (fin_p I sim post (by rw [← Bool.false_xor (ds.any _)]; exact h.2) (.bl _) rfl)
    · exact h.elim
  · split at h
    · rename_i ds d h1 h2
      obtain ⟨⟨as, r1⟩, p1⟩ := rd I sim hx rx h2
      obtain ⟨⟨bs, r2⟩, p2⟩ := rd I sim hy ry (datL_dat h1)
      exact PySem.SeqAt.in_list_data r2 r1 p2 p1 (depth_room1 hu h.1) (fin_p I sim post (by rw [← Bool.false_xor (ds.any _)]; exact h.2) (.bl _) rfl)
    · exact h.elim
theorem dop_notin (hu : X.A.units + 64 < cLine) : DOp X (compareOp .NotIn) (rIn true) := op2 fun pins s σ w S dx dy x y v u Qd Q I sim hx hy rx ry h post => by
  unfold rIn at h
  split at h
  · rename_i b
    split at h
    · rename_i a
      cases hx; cases hy
      exact L2.op_notIn_str pins s σ _ _ _ _ _ Q I rx ry ⟨_, _, rfl, rfl, by rw [Bool.true_xor] at h; exact post _ S w _ h .refl sim (.bl _)⟩
    · exact h.elim
  · rename_i ds
    split at h
    · rename_i d h1
      obtain ⟨⟨as, r1⟩, p1⟩ := rd I sim hx rx h1
      obtain ⟨⟨bs, r2⟩, p2⟩ := rd I sim hy ry (rfl : dat S (.p (.tuple ds)) = some (.tuple ds))
      exact PySem.SeqAt.notIn_tuple_data r2 r1 p2 p1 (depth_room1 hu h.1) (fin_p I sim post (by rw [← Bool.true_xor (ds.any _)]; exact h.2) (.bl _) rfl)
    · exact h.elim
  · split at h
    · rename_i ds d h1 h2
      obtain ⟨⟨as, r1⟩, p1⟩ := rd I sim hx rx h2
      obtain ⟨⟨bs, r2⟩, p2⟩ := rd I sim hy ry (datL_dat h1)
      exact PySem.SeqAt.notIn_list_data r2 r1 p2 p1 (depth_room1 hu h.1) (fin_p I sim post (by rw [← Bool.true_xor (ds.any _)]; exact h.2) (.bl _) rfl)
    · exact h.elim
/-- x is None, x is True .. -/
def isNone : D → Bool
  | .p .none => true
  | _ => false
def rIs (neg : Bool) : D2 := fun x y S Q => match y with
  | .p .none => Q (.p (.bool (xor neg (isNone x)))) S
  | .p (.bool b) => match x with
    | .p (.bool a) => Q (.p (.bool (xor neg (decide (a = b))))) S
    | _ => False
  | _ => False
theorem Rv.none_iff {K : PySem.W.Frag} {w : Wd} {d : D} {v : V} (r : Rv K w d v) : decide (v = .non) = isNone d := by
  cases d with
  | r n => obtain ⟨a, _, rfl⟩ := r; rfl
  | p d => cases r <;> rfl
theorem dop_is : DOp X (compareOp .Is) (rIs false) := op2 fun pins s σ w S dx dy x y v u Qd Q I sim hx hy rx ry h post => by
  unfold rIs at h
  split at h
  · cases hy
    refine op_isN pins s σ _ _ _ _ _ Q I rx ry ⟨rfl, ?_⟩
    rw [Bool.false_xor] at h
    rw [hx.none_iff]
    exact post _ S w _ h .refl sim (.bl _)
  · split at h
    · cases hx; cases hy
      refine op_is_bl pins s σ _ _ _ _ _ Q I rx ry ⟨_, _, rfl, rfl, ?_⟩
      rw [Bool.false_xor] at h
      exact post _ S w _ h .refl sim (.bl _)
    · exact h.elim
  · exact h.elim
theorem dop_isnot : DOp X (compareOp .IsNot) (rIs true) := op2 fun pins s σ w S dx dy x y v u Qd Q I sim hx hy rx ry h post => by
  unfold rIs at h
  split at h
  · cases hy
    refine op_notN pins s σ _ _ _ _ _ Q I rx ry ⟨rfl, ?_⟩
    rw [Bool.true_xor] at h
    rw [hx.none_iff]
    exact post _ S w _ h .refl sim (.bl _)
  · split at h
    · cases hx; cases hy
      refine op_isnot_bl pins s σ _ _ _ _ _ Q I rx ry ⟨_, _, rfl, rfl, ?_⟩
      rw [Bool.true_xor] at h
      exact post _ S w _ h .refl sim (.bl _)
    · exact h.elim
  · exact h.elim

/-! ### arithmetic -/
/-- ints: where C holds, g -/
def rInt (C : Int → Int → Prop) (g : Int → Int → Int) : D2 := fun x y S Q => match x, y with
  | .p (.int i), .p (.int j) => C i j ∧ Q (.p (.int (g i j))) S
  | _, _ => False
theorem dop_int {f : Value → Value → Sem Value} {C : Int → Int → Prop} {g : Int → Int → Int} (h : OpR X f (rI C fun i j => .int (g i j))) : DOp X f (rInt C g) := op2 fun pins s σ w S dx dy x y v u Qd Q I sim hx hy rx ry hr post => by
  unfold rInt at hr
  split at hr
  · cases hx; cases hy
    exact h pins s σ _ _ _ _ _ Q I rx ry ⟨_, _, rfl, rfl, hr.1, post _ S w _ hr.2 .refl sim (.int _)⟩
  · exact hr.elim
theorem dop_int0 {f : Value → Value → Sem Value} {g : Int → Int → Int} (h : OpR X f (rI0 fun i j => .int (g i j))) : DOp X f (rInt (fun _ _ => True) g) := op2 fun pins s σ w S dx dy x y v u Qd Q I sim hx hy rx ry hr post => by
  unfold rInt at hr
  split at hr
  · cases hx; cases hy
    exact h pins s σ _ _ _ _ _ Q I rx ry ⟨_, _, rfl, rfl, post _ S w _ hr.2 .refl sim (.int _)⟩
  · exact hr.elim
theorem dop_sub : DOp X (binaryOp .Sub) (rInt (fun _ _ => True) fun i j => i - j) := dop_int0 op_sub
theorem dop_fdiv : DOp X (binaryOp .FloorDiv) (rInt CDivW fun i j => i / j) := dop_int op_fdivW
theorem dop_mod : DOp X (binaryOp .Mod) (rInt (fun _ j => 0 < j) fun i j => i % j) := dop_int op_mod
theorem dop_pow : DOp X (binaryOp .Pow) (rInt CPow fun i j => i ^ j.toNat) := dop_int op_pow
theorem dop_shl : DOp X (binaryOp .LShift) (rInt CPow fun i j => i * 2 ^ j.toNat) := dop_int op_shl
theorem dop_shr : DOp X (binaryOp .RShift) (rInt (fun _ j => 0 ≤ j) fun i j => i / 2 ^ j.toNat) := dop_int op_shr
theorem dop_and : DOp X (binaryOp .BitAnd) (rInt (fun _ _ => True) fun i j => Builtin.bitAnd i j) := dop_int0 op_and
theorem dop_or : DOp X (binaryOp .BitOr) (rInt (fun _ _ => True) fun i j => Builtin.bitOr i j) := dop_int0 op_or
theorem dop_mul : DOp X (binaryOp .Mult) (rInt CMul fun i j => i * j) := dop_int op_mul
/-- + -/
def rAdd : D2 := fun x y S Q => match x, y with
  | .p (.int i), .p (.int j) => Q (.p (.int (i + j))) S
  | .p (.str a), .p (.str b) => a.length + b.length ≤ sizeLine ∧ Q (.p (.str (a ++ b))) S
  | .p (.tuple a), .p (.tuple b) => a.length + b.length ≤ sizeLine ∧ Q (.p (.tuple (a ++ b))) S
  | x, y => match datL S x, datL S y with
    | some a, some b => a.length + b.length ≤ sizeLine ∧ Q (.p (.list (a ++ b))) S
    | _, _ => False
theorem strOk_app {a b : Str} (h : PyData.strOk a = true) (k : PyData.strOk b = true) : PyData.strOk (a ++ b) = true := by
  unfold PyData.strOk at h k ⊢
  show (a.cps ++ b.cps).all _ = true
  rw [Array.all_append, h, k]
  rfl
theorem cat_lists {l b : Addr} {xs ys : List V} {Q : VK} {H : Hp} (I : Inv X pins σ H s) (h1 : SqL X.K H l xs) (h2 : SqL X.K H b ys) (hz : xs.length + ys.length ≤ sizeLine) (q : ∀ p, H p = none → Q (.ref p) (upd H p (.lst (xs ++ ys)))) :
    wpAny (model X.prog X.w) X.A (binaryOp .Add (.ref l) (.ref b)) (EP X pins σ Q) X.xe s := by
  obtain ⟨vs, r1, p1, _⟩ := I.list h1
  obtain ⟨ws, r2, p2, _⟩ := I.list h2
  obtain ⟨⟨cls, dd, data, sl⟩, ho, hc, n, hd⟩ := id p1.isList
  obtain ⟨⟨cls2, dd2, data2, sl2⟩, ho2, hc2, n2, hd2⟩ := id p2.isList
  simp only at hc hd hc2 hd2
  subst hc hd hc2 hd2
  have hsz : vs.length + ws.length ≤ sizeLine := by rw [← r1.length, ← r2.length]; exact hz
  have e : vs.toArray ++ ws.toArray = (vs ++ ws).toArray := by simp
  refine concat_meets ⟨_, ho, rfl⟩ ⟨_, ho2, rfl⟩ noFill_list_add seq_list_add PySem.F.slot_list_add PySem.F.entry_list_add (PySem.F.args_list_add_2 _ _) (list_addW l b vs.toArray ws.toArray n n2 dd dd2 sl sl2 (by simpa using hsz)) ⟨ho, ho2, ?_⟩
  rw [e]
  exact ⟨.ref _, _, I.lnew (t' := s.toks) (r1.append r2) (by rw [List.length_append]; exact hz), rfl, q _ I.fresh⟩
theorem dop_add : DOp X (binaryOp .Add) rAdd := op2 fun pins s σ w S dx dy x y v u Qd Q I sim hx hy rx ry hr post => by
  unfold rAdd at hr
  split at hr
  · cases hx; cases hy
    exact op_add pins s σ _ _ _ _ _ Q I rx ry ⟨_, _, rfl, rfl, post _ S w _ hr .refl sim (.int _)⟩
  · cases hx with
    | str _ h1 =>
      cases hy with
      | str _ h2 => exact op_add_str pins s σ _ _ _ _ _ Q I rx ry ⟨_, _, rfl, rfl, hr.1, post _ S w _ hr.2 .refl sim (.str _ (strOk_app h1 h2))⟩
  · rename_i a b
    cases hx with
    | @tup aa xs _ f1 q1 =>
      cases hy with
      | @tup bb ys _ f2 q2 =>
        refine op_catA pins s σ _ _ _ _ _ Q I rx ry ⟨_, _, _, _, rfl, rfl, f1.sq, f2.sq, by rw [q1.length, q2.length]; exact hr.1, fun e => ?_, fun _ e => ?_, fun _ _ => ?_⟩
        · subst e
          cases q1
          exact post _ S w _ hr.2 .refl sim (.tup f2 q2)
        · subst e
          cases q2
          rw [List.append_nil] at hr
          exact post _ S w _ hr.2 .refl sim (.tup f1 q1)
        · exact sim.newTup (q1.append q2) post hr.2
  · split at hr
    · rename_i a b h1 h2
      obtain ⟨l, vs, rfl, q1, r1⟩ := sim.datL hx h1
      obtain ⟨l2, ws, rfl, q2, r2⟩ := sim.datL hy h2
      cases rx
      cases ry
      exact cat_lists I q1 q2 (by rw [r1.length, r2.length]; exact hr.1) (sim.newLst (r1.append r2) post hr.2)
    · exact hr.elim

/-! ### places and slices -/
def atD {α : Type} (xs : List α) (i : Int) : Option α := if 0 ≤ i then xs[i.toNat]? else if -(xs.length : Int) ≤ i then xs[(i + xs.length).toNat]? else none
theorem atD_atI {α : Type} {xs : List α} {i : Int} {v : α} (h : atD xs i = some v) : atI xs i = some v := by
  unfold atD at h
  unfold atI ixN
  split at h
  · rename_i h0
    have hl := (List.getElem?_eq_some_iff.mp h).1
    rw [if_pos h0, if_pos (by omega)]
    exact h
  · rename_i h0
    split at h
    · rename_i h1
      rw [if_neg h0, if_pos h1]
      exact h
    · cases h
theorem atD_get {α : Type} {xs : List α} {i : Int} {v : α} (h : atD xs i = some v) : ∃ j : Nat, xs[j]? = some v ∧ ∀ {β : Type} {ys : List β} {u : β}, ys.length = xs.length → ys[j]? = some u → atI ys i = some u := by
  unfold atD at h
  split at h
  · rename_i h0
    refine ⟨_, h, fun {β ys u} hl hu => atD_atI ?_⟩
    unfold atD
    rw [if_pos h0]
    exact hu
  · rename_i h0
    split at h
    · rename_i h1
      refine ⟨_, h, fun {β ys u} hl hu => atD_atI ?_⟩
      unfold atD
      rw [if_neg h0, hl, if_pos h1]
      exact hu
    · cases h
def rIx : D2 := fun x y S Q => match y with
  | .p (.int i) => match x with
    | .p (.tuple ds) => match atD ds i with
      | some d => Q (.p d) S
      | none => False
    | .p (.str z) => z.length ≤ sizeLine ∧ match atD z.cps.toList i with
      | some c => Q (.p (.str ⟨#[c]⟩)) S
      | none => False
    | x => match seqL S x with
      | some xs => match atD xs i with
        | some d => Q d S
        | none => False
      | none => False
  | _ => False
theorem dix : IxR X (L2r X.K rIx) := by
  intro value slice pins s σ H x y v u Q I rx ry q hs
  obtain ⟨w, S, dx, dy, Qd, rfl, sim, hx, hy, h, post⟩ := q
  unfold rIx at h
  split at h
  · rename_i i
    cases hy
    split at h
    · rename_i ds
      split at h
      · rename_i d hd
        cases hx with
        | tup f q =>
          obtain ⟨j, h1, h2⟩ := atD_get hd
          obtain ⟨z, h3, h4⟩ := q.getD h1
          exact ix_tup value slice pins s σ _ _ _ _ _ Q I rx ry ⟨_, _, _, z, rfl, rfl, f.sq, h2 q.length h3, post _ S w z h .refl sim h4⟩ hs
      · exact h.elim
    · rename_i z
      obtain ⟨hz, h⟩ := h
      split at h
      · rename_i c hc
        cases hx with
        | str _ ok =>
          refine ix_str value slice pins s σ _ _ _ _ _ Q I rx ry ⟨_, _, c, rfl, rfl, hz, atD_atI hc, post _ S w _ h .refl sim (.str _ ?_)⟩ hs
          obtain ⟨j, h1, _⟩ := atD_get hc
          unfold PyData.strOk at ok ⊢
          have hm : c ∈ z.cps := by rw [← Array.mem_toList_iff]; exact List.mem_of_getElem? h1
          rw [Array.all_eq_true'] at ok
          simpa using ok c hm
      · exact h.elim
    · split at h
      · rename_i xs hxs
        split at h
        · rename_i d hd
          obtain ⟨a, vs, rfl, h3, h4⟩ := sim.seq hx hxs
          obtain ⟨j, h1, h2⟩ := atD_get hd
          obtain ⟨z, h5, h6⟩ := h4.get h1
          exact ix_list value slice pins s σ _ _ _ _ _ Q I rx ry ⟨_, _, _, z, rfl, rfl, h3, h2 h4.len.symm h5, post _ S w z h .refl sim h6⟩ hs
        · exact h.elim
      · exact h.elim
  · exact h.elim
variable {a b : Expr} {ta tb : DT} {pos : Pos}
theorem de_ix (ha : DE X a ta) (hb : DE X b tb) (hs : PlainIx b := by exact fun _ _ => rfl) : DE X (.Subscript a b pos) (dOp rIx ta tb) :=
  (pe_ix dix ha hb hs).weak fun _ _ _ h => h.op
/-- the parts of a slice -/
abbrev DO := En → Sto → (Option Int → Sto → Prop) → Prop
def LO (K : PySem.W.Frag) (t : DO) : TO := fun σ H Q => ∃ w S env Qd, w.H = H ∧ Sim K w S ∧ EnvR K w env σ ∧ t env S Qd ∧ ∀ o S' w', Qd o S' → Ext w w' → Sim K w' S' → Q o w'.H
def doNone : DO := fun _ S Q => Q none S
def doSome (t : DT) : DO := fun env S Q => t env S fun d S1 => match d with
  | .p (.int i) => Q (some i) S1
  | _ => False
theorem _root_.L2.PO.weak {o : Option Expr} {t t' : TO} (h : PO X o t) (i : ∀ σ H Q, t' σ H Q → t σ H Q) : PO X o t' := ⟨fun pins s σ H Q I q => h.run pins s σ H Q I (i σ H Q q)⟩
theorem do_none : PO X none (LO X.K doNone) := po_none.weak fun σ H Q ⟨w, S, env, Qd, e, sim, er, h, post⟩ => by
  subst e
  exact post none S w h .refl sim
theorem do_some (h : DE X a ta) : PO X (some a) (LO X.K (doSome ta)) := (po_some h).weak fun σ H Q ⟨w, S, env, Qd, e, sim, er, h, post⟩ => ⟨w, S, env, _, e, sim, er, h, fun d S1 w1 v h1 e1 s1 r1 => by
  split at h1
  · rename_i i
    cases r1
    exact ⟨i, rfl, post _ S1 w1 h1 e1 s1⟩
  · exact h1.elim⟩
abbrev DSl := D → Option Int → Option Int → Sto → DQ → Prop
def cutD {α : Type} (xs : List α) (lo hi : Option Int) : List α := (xs.drop (HT.sIx xs.length 0 lo)).take (HT.sIx xs.length xs.length hi - HT.sIx xs.length 0 lo)
theorem PDs.cut {K : PySem.W.Frag} {w : Wd} {ds : List PyData} {vs : List V} (h : PDs K w vs ds) (lo hi : Option Int) : PDs K w (cutV vs lo hi) (cutD ds lo hi) := by
  unfold cutV cutD
  rw [h.length]
  exact (h.drop _).take _
def rSl : DSl := fun x lo hi S Q => match x with
  | .p (.tuple ds) => Q (.p (.tuple (cutD ds lo hi))) S
  | x => match datL S x with
    | some ds => Q (.p (.list (cutD ds lo hi))) S
    | none => False
def L2sl (K : PySem.W.Frag) (r : DSl) : V → Option Int → Option Int → Hp → VK → Prop := fun x lo hi H Q => ∃ w S dx Qd, w.H = H ∧ Sim K w S ∧ Rv K w dx x ∧ r dx lo hi S Qd ∧ Post K w Qd Q
theorem cut_whole {α : Type} {xs : List α} {lo hi : Option Int} (h : HT.sIx xs.length 0 lo = 0 ∧ HT.sIx xs.length xs.length hi = xs.length) : cutD xs lo hi = xs := by
  unfold cutD
  rw [h.1, h.2, List.drop_zero, Nat.sub_zero, List.take_length]
theorem dsl : SlR X (L2sl X.K rSl) := by
  intro pins s σ H x v vl vu lo hi sl Q I rx hs pl pu q
  obtain ⟨w, S, dx, Qd, rfl, sim, hx, h, post⟩ := q
  unfold rSl at h
  split at h
  · rename_i ds
    cases hx with
    | tup f q =>
      refine sl_tupA pins s σ _ _ v vl vu lo hi sl Q I rx hs pl pu ⟨_, _, rfl, f.sq, fun hw => ?_, fun _ => ?_⟩
      · rw [q.length] at hw
        rw [cut_whole hw] at h
        exact post _ S w _ h .refl sim (.tup f q)
      · exact sim.newTup (q.cut lo hi) post h
  · split at h
    · rename_i ds hd
      obtain ⟨l, vs, rfl, q1, r1⟩ := sim.datL hx hd
      exact sl_list pins s σ _ _ v vl vu lo hi sl Q I rx hs pl pu ⟨_, _, rfl, q1, sim.newLst (r1.cut lo hi) post h⟩
    · exact h.elim
def dSl (r : DSl) (te : DT) (tl th : DO) : DT := fun env S Q => te env S fun x S1 => tl env S1 fun l S2 => th env S2 fun u S3 => r x l u S3 Q
theorem de_slice {lo hi : Option Expr} {tl th : DO} {p2 : Pos} (he : DE X a ta) (hl : PO X lo (LO X.K tl)) (hu : PO X hi (LO X.K th)) : DE X (.Subscript a (.Slice lo hi none p2) pos) (dSl rSl ta tl th) :=
  (pe_slice dsl he hl hu).weak fun σ H Q ⟨w, S, env, Qd, e, sim, er, h, post⟩ => ⟨w, S, env, _, e, sim, er, h, fun d S1 w1 v h1 e1 s1 r1 =>
    ⟨w1, S1, env, _, rfl, s1, er.ext e1, h1, fun l S2 w2 h2 e2 s2 => ⟨w2, S2, env, _, rfl, s2, er.ext (e1.trans e2), h2, fun u S3 w3 h3 e3 s3 =>
      ⟨w3, S3, d, Qd, rfl, s3, r1.ext (e2.trans e3), h3, post.ext ((e1.trans e2).trans e3)⟩⟩⟩⟩
/-- xs[i] = v -/
def rSetL : DSet := fun o i v S Q => match o, i with
  | .r n, .p (.int k) => match S n with
    | some (.lst xs) => match ixN xs.length k with
      | some j => Q (upS S n (.lst (xs.set j v)))
      | none => False
    | _ => False
  | _, _ => False
theorem dset_list : PSet X (LSet X.K rSetL) := by
  intro pins s σ H o i v ov iv u Q I ro ri rv q
  obtain ⟨w, S, dO, dI, dV, Qd, rfl, sim, hO, hI, hV, h, post⟩ := q
  unfold Tx.rSetL at h
  split at h
  · rename_i n k
    split at h
    · rename_i xs hn
      split at h
      · rename_i j hj
        obtain ⟨a, ha, rfl⟩ := hO
        cases hI
        obtain ⟨a', h1, hz, vs, hq, r⟩ := sim.lv n _ hn
        rw [ha] at h1; cases h1
        obtain ⟨e, s'⟩ := sim.write hn ha (r.set hV j)
        exact set_list pins s σ _ _ _ _ _ _ _ Q I ro ri rv ⟨a, vs, k, j, rfl, rfl, hq, by rw [← r.len]; exact hj, post _ ⟨w.ρ, w.Z, upd w.H a (.lst (vs.set j v))⟩ h e s'⟩
      · exact h.elim
    · exact h.elim
  · exact h.elim
theorem dg_sub {o i : Expr} {to ti : DT} (ho : DE X o to) (hi : DE X i ti) (ha : ∀ v, assign (.Subscript o i pos) X.env v = (do
      let ov ← holding [v] (eval o X.env)
      let iv ← holding [v, ov] (eval i X.env)
      standAt pos
      holding [v, ov, iv] (setItem ov iv v)
      release [v, ov, iv] []) := by intro _; rfl) : DG X (.Subscript o i pos) [] (gdSub to ti rSetL) :=
  (pg_sub ho hi dset_list ha).weak fun _ _ _ _ h => h.sub

/-! ### built-ins -/
theorem dcall {f : Value} {r : DC} (h : ∀ (pins : List (Addr × Obj)) (s : Shared) (σ : L2.St) (w : Wd) (S : Sto) (ds : List D) (vs : List V) (us : List Value) (Qd : DQ) (Q : VK), Inv X pins σ w.H s → Sim X.K w S → Rvs X.K w ds vs → Vals vs us → r ds S Qd → Post X.K w Qd Q →
    wpAny (model X.prog X.w) X.A (call f us) (EP X pins σ Q) X.xe s) : DCall X f r := by
  intro pins s σ H vs us Q I rs q
  obtain ⟨w, S, ds, Qd, rfl, sim, hr, h1, post⟩ := q
  exact h pins s σ w S ds vs us Qd Q I sim hr rs h1 post
def cLen : DC := fun ds S Q => match ds with
  | [.p (.tuple xs)] => Q (.p (.int xs.length)) S
  | [.p (.str z)] => z.length ≤ sizeLine ∧ Q (.p (.int z.length)) S
  | [x] => match seqL S x with
    | some xs => Q (.p (.int xs.length)) S
    | none => False
  | _ => False
theorem dc_len : DCall X (.builtin "len") cLen := dcall fun pins s σ w S ds vs us Qd Q I sim hr rs h post => by
  unfold cLen at h
  split at h
  · cases hr with
    | cons r t =>
      cases t
      cases r with
      | tup f q => exact call_len_seq pins s σ _ _ us Q I rs ⟨_, _, rfl, .inr f.sq, by rw [q.length]; exact post _ S w _ h .refl sim (.int _)⟩
  · cases hr with
    | cons r t =>
      cases t
      cases r
      exact call_len_str pins s σ _ _ us Q I rs ⟨_, rfl, h.1, post _ S w _ h.2 .refl sim (.int _)⟩
  · split at h
    · rename_i xs hx
      cases hr with
      | cons r t =>
        cases t
        obtain ⟨a, vs, rfl, h3, h4⟩ := sim.seq r hx
        exact call_len_seq pins s σ _ _ us Q I rs ⟨_, _, rfl, .inl h3, by rw [← h4.len]; exact post _ S w _ h .refl sim (.int _)⟩
    · exact h.elim
  · exact h.elim
def cInt : DC := fun ds S Q => match ds with
  | [.p (.int i)] => Q (.p (.int i)) S
  | [.p (.bool b)] => Q (.p (.int (if b then 1 else 0))) S
  | _ => False
theorem dc_int : DCall X (.type "int") cInt := dcall fun pins s σ w S ds vs us Qd Q I sim hr rs h post => by
  unfold cInt at h
  split at h
  · cases hr with
    | cons r t =>
      cases t
      cases r
      exact call_int1 pins s σ _ _ us Q I rs (.inl ⟨_, rfl, post _ S w _ h .refl sim (.int _)⟩)
  · cases hr with
    | cons r t =>
      cases t
      cases r
      exact call_int1 pins s σ _ _ us Q I rs (.inr ⟨_, rfl, post _ S w _ h .refl sim (.int _)⟩)
  · exact h.elim
/-- tuple(xs) -/
def cTuple : DC := fun ds S Q => match ds with
  | [.p (.tuple xs)] => Q (.p (.tuple xs)) S
  | [x] => match datL S x with
    | some xs => Q (.p (.tuple xs)) S
    | none => False
  | _ => False
theorem dc_tuple : DCall X (.type "tuple") cTuple := dcall fun pins s σ w S ds vs us Qd Q I sim hr rs h post => by
  unfold cTuple at h
  split at h
  · cases hr with
    | cons r t =>
      cases t
      cases r with
      | tup f q => exact call_tuple_of pins s σ _ _ us Q I rs ⟨_, _, rfl, .inr ⟨f.sq, post _ S w _ h .refl sim (.tup f q)⟩⟩
  · split at h
    · rename_i xs hx
      cases hr with
      | cons r t =>
        cases t
        obtain ⟨a, vs, rfl, h3, h4⟩ := sim.datL r hx
        exact call_tuple_of pins s σ _ _ us Q I rs ⟨_, _, rfl, .inl ⟨h3, sim.newTup h4 post h⟩⟩
    · exact h.elim
  · exact h.elim
/-- sorted(xs) -/
def cSorted : DC := fun ds S Q => match ds with
  | [x] => match datL S x with
    | some xs => (PySem.W.AllAlike xs ∧ PySem.W.Sortable xs ∧ xs.length ≤ sizeLine ∧ ∀ d ∈ xs, d.depth ≤ 50) ∧ Q (.p (.list (xs.mergeSort (PySem.W.dataLe false id)))) S
    | none => False
  | _ => False
theorem dc_sorted (hu : X.A.units + 64 < cLine) : DCall X (.builtin "sorted") cSorted := dcall fun pins s σ w S ds vs us Qd Q I sim hr rs h post => by
  unfold cSorted at h
  split at h
  · split at h
    · rename_i xs hx
      obtain ⟨⟨h1, h2, h3, h4⟩, h⟩ := h
      cases hr with
      | cons r t =>
        cases t
        obtain ⟨a, vs, rfl, h5, h6⟩ := sim.datL r hx
        rw [Vals.ref1 rs]
        obtain ⟨its, rv, hl, hz⟩ := I.list h5
        have each : ∀ {vs : List V} {its : List Value} {xs : List PyData}, Vals vs its → PDs X.K w vs xs → PySem.W.EachIs (fun u d => ∃ v, RelV v u ∧ PD X.K w v d) its xs := by
          intro vs its xs r p
          induction r generalizing xs with
          | nil => cases p; exact .nil
          | cons r t ih => cases p with | cons p q => exact .cons ⟨_, r, p⟩ (ih q)
        have back : ∀ {its : List Value} {xs : List PyData}, PySem.W.EachIs (fun u d => ∃ v, RelV v u ∧ PD X.K w v d) its xs → ∃ vs, Vals vs its ∧ PDs X.K w vs xs := by
          intro its xs e
          induction e with
          | nil => exact ⟨[], .nil, .nil⟩
          | cons r t ih =>
            obtain ⟨v, r, p⟩ := r
            obtain ⟨vs, a, b⟩ := ih
            exact ⟨v :: vs, .cons r a, .cons p b⟩
        have e0 := each rv h6
        refine PySem.W.sorted_data (enc := id) (bs := xs) (R := fun u d => ∃ v, RelV v u ∧ PD X.K w v d) hl.isList e0 ?_ (by rw [List.map_id]; exact h1) (by rw [List.map_id]; exact h2) h3 (fun b hb => by have := h4 b hb; show _ + 2 + b.depth < _; omega) fun out ho eo => ?_
        · exact e0.mono fun u d ⟨v, r, p⟩ => Dp.reads I d v u p.dp r
        · obtain ⟨us', r1, r2⟩ := back eo
          obtain ⟨ep, he'⟩ := PyProof.Rows.sortedAll_at s.heap its out.toArray
          have hlen : us'.length ≤ sizeLine := by rw [r1.length, ho]; exact h3
          exact ⟨.ref _, upd w.H (s.heap.objs.size + 1) (.lst us'), I.laid (t' := s.toks) (fun _ _ => PyProof.Rows.sortedAll_old) (Nat.le_succ _) ⟨hlen, out, ep, r1, he'⟩, rfl, sim.newLst r2 post h _ (I.hok.fresh (Nat.le_succ _))⟩
    · exact h.elim
  · exact h.elim
end
end Tx

set_option Elab.async false
set_option linter.all false
set_option autoImplicit false
set_option maxRecDepth 100000
/-! Tx, part F: append, isinstance, min, max; the law's end -/
namespace Tx
open PySem PySem.Spec PyProof.Rows L2

section
variable {X : Cx}
variable {a b c : Expr} {ta tb tc : DT} {pos : Pos}
/-! ### xs.append(e) -/
def dApp (to te : DT) : DT := fun env S Q => to env S fun x S1 => match x with
  | .r n => (∃ xs, S1 n = some (.lst xs)) ∧ te env S1 fun y S2 => match S2 n with
    | some (.lst xs) => xs.length < sizeLine ∧ Q (.p .none) (upS S2 n (.lst (xs ++ [y])))
    | _ => False
  | _ => False
def LApp (K : PySem.W.Frag) : V → List V → Hp → VK → Prop := fun x vs H Q => ∃ w S n xs y v Qd, w.H = H ∧ Sim K w S ∧ Rv K w (.r n) x ∧ vs = [v] ∧ Rv K w y v ∧ S n = some (.lst xs) ∧ xs.length < sizeLine ∧ Qd (.p .none) (upS S n (.lst (xs ++ [y]))) ∧ Post K w Qd Q
theorem mt_app : MtR X "list.append" (LApp X.K) := by
  intro pins s σ H x vs v us Q I rx rv h
  obtain ⟨w, S, n, xs, y, z, Qd, rfl, sim, ⟨a, ha, rfl⟩, rfl, ry, hn, hz, q, post⟩ := h
  obtain ⟨a', h1, hZ, vs, hq, r⟩ := sim.lv n _ hn
  rw [ha] at h1; cases h1
  obtain ⟨e, s'⟩ := sim.write hn ha (Rvs.append r (.cons ry .nil))
  exact mt_append pins s σ _ _ _ _ _ Q I rx rv ⟨a, vs, z, rfl, rfl, hq, by rw [← r.len]; exact hz, post (.p .none) _ ⟨w.ρ, w.Z, upd w.H a (.lst (vs ++ [z]))⟩ .non q e s' .non⟩
theorem de_append {o : Expr} {to te : DT} {e : Expr} {apos cpos : Pos} (ho : DE X o to) (he : DE X e te)
    (hbase : attributeBase o "append" X.env (eval o X.env) = eval o X.env := by rfl)
    (hfew : ((backTo cpos (starEach [e] X.env)).all (fun x => !x.1) && (backToKw cpos (keywordEach [] X.env)).all (fun x => x.1.isSome)
      && decide (([e] : List Expr).length + ([] : List Keyword).length + (if ([] : List Keyword).isEmpty then 0 else 1) < 30)) = true := by rfl)
    (hline : (apos.endLine == cpos.line) = true := by rfl) (hs : starEach [e] X.env = (false, eval e X.env) :: starEach [] X.env := by rfl) (hplain : (backTo cpos (starEach [] X.env)).any (·.1) = false := by rfl) :
    DE X (.Call (.Attribute o "append" apos) [e] [] cpos) (dApp to te) :=
  (pe_bm PySem.F.plainAttrs_list PySem.F.slot_list_append PySem.F.type_list_append mt_app ho (pa_cons he pa_nil hs) hbase hfew hline hs hplain).weak fun σ H Q ⟨w, S, env, Qd, e, sim, er, h, post⟩ => ⟨w, S, env, _, e, sim, er, h, fun d S1 w1 v h1 e1 s1 r1 => by
    split at h1
    · rename_i n
      obtain ⟨⟨xs, hn⟩, h1⟩ := h1
      obtain ⟨a, ha, rfl⟩ := r1
      obtain ⟨a', h2, hZ, vs, hq, r⟩ := s1.lv n _ hn
      rw [ha] at h2; cases h2
      refine ⟨.inl ⟨rfl, vs, SqL.of hq⟩, w1, S1, env, _, rfl, s1, er.ext e1, h1, fun y S2 w2 vy h3 e2 s2 r2 => ?_⟩
      split at h3
      · rename_i xs' hn'
        exact ⟨w2, S2, n, xs', y, vy, Qd, rfl, s2, ⟨a, e2.get ha, rfl⟩, rfl, r2, hn', h3.1, h3.2, post.ext (e1.trans e2)⟩
      · exact h3.elim
    · exact h1.elim⟩

/-! ### isinstance(x, T) -/
def dIsa (f : PyData → Bool) (te : DT) : DT := fun env S Q => te env S fun x S1 => match dat S1 x with
  | some d => Q (.p (.bool (f d))) S1
  | none => False
def LIsa (K : PySem.W.Frag) (T : String) (f : PyData → Bool) : List V → Hp → VK → Prop := fun vs H Q => ∃ w S x d v Qd, w.H = H ∧ Sim K w S ∧ Rv K w x v ∧ vs = [v, .ty T] ∧ dat S x = some d ∧ Qd (.p (.bool (f d))) S ∧ Post K w Qd Q
/-- what the library says of isinstance(data, T) -/
def IsaFact (T : String) (f : PyData → Bool) : Prop := ∀ {prog : Program} {w : World} {A : Around} {E : Value → Shared → Prop} {s : Shared} {v : Value} {d : PyData} {as : List Addr} {Q : Value → Shared → Prop},
  Reads s.heap v d as → (∀ tk, s.toks ≤ tk → Q (.bool (f d)) { s with toks := tk }) → wpAny (model prog w) A (call (.builtin "isinstance") [v, .type T]) Q E s
theorem isa_tuple : IsaFact "tuple" PyData.isTuple := fun r h => PySem.W.isinstance_tuple_data r h
theorem isa_list : IsaFact "list" PyData.isList := fun r h => PySem.W.isinstance_list_data r h
theorem isa_int : IsaFact "int" PyData.isInt := fun r h => PySem.W.isinstance_int_data r h
theorem isa_str : IsaFact "str" PyData.isStr := fun r h => PySem.W.isinstance_str_data r h
theorem isa_bool : IsaFact "bool" PyData.isBool := fun r h => PySem.W.isinstance_bool_data r h
theorem isa_dict : IsaFact "dict" PyData.isDict := fun r h => PySem.W.isinstance_dict_data r h
theorem isa_set : IsaFact "set" PyData.isSet := fun r h => PySem.W.isinstance_set_data r h
theorem cr_isa {T : String} {f : PyData → Bool} (F : IsaFact T f) : CallR X (.builtin "isinstance") (LIsa X.K T f) := by
  intro pins s σ H vs us Q I rs h
  obtain ⟨w, S, x, d, v, Qd, rfl, sim, rx, rfl, hd, q, post⟩ := h
  obtain ⟨u, u2, rfl, r1, r2⟩ := vals2 rs
  cases r2
  obtain ⟨⟨as, r⟩, _⟩ := rd I sim rx r1 hd
  exact F r fun tk _ => ⟨.bl _, w.H, I.tok tk, rfl, post _ S w _ q .refl sim (.bl _)⟩
theorem de_isa {T : String} {x : Str} {f : PyData → Bool} (F : IsaFact T f) {p p2 : Pos} (hg : Gl X "isinstance") (hm : X.mg "isinstance" = none) (hgT : Gl X x) (hmT : X.mg x = none) (hv : bootBuiltins x = some (.type T)) (ha : DE X a ta)
    (hn : x ≠ "__name__" := by decide) (hd : (x == ("__debug__" : Str)) = false := by decide)
    (he : starEach [a, .Name x p2] X.env = (false, eval a X.env) :: starEach [.Name x p2] X.env := by rfl) (hpl : (backTo pos (starEach [.Name x p2] X.env)).any (·.1) = false := by rfl)
    (he2 : starEach [.Name x p2] X.env = (false, eval (.Name x p2) X.env) :: starEach [] X.env := by rfl) : DE X (.Call (.Name "isinstance" p) [a, .Name x p2] [] pos) (dIsa f ta) :=
  (pe_callB (cr_isa F) hg hm (by decide +kernel) (pa_cons ha (pa_cons (pe_bltn (v := .ty T) hgT hmT hv rfl hn hd) pa_nil he2) he) (by decide) (by decide) he hpl).weak fun σ H Q ⟨w, S, env, Qd, e, sim, er, h, post⟩ => ⟨w, S, env, _, e, sim, er, h, fun d S1 w1 v h1 e1 s1 r1 => by
    split at h1
    · rename_i x hx
      exact ⟨w1, S1, d, x, v, Qd, rfl, s1, r1, rfl, hx, h1, post.ext e1⟩
    · exact h1.elim⟩

/-! ### max(x, y) of data -/
theorem _root_.Tx.call_max_twoH {prog : Program} {w : World} {A : Around} {E : Value → Shared → Prop} {s : Shared} {a b : Value} {Q : Value → Shared → Prop} {da db : PyData} {as bs : List Addr} (hh : A.handled = none)
    (ra : Reads s.heap a da as) (rb : Reads s.heap b db bs) (hal : PySem.W.alike da db = true) (hal2 : PySem.W.alike db da = true) (ha1 : PySem.W.alike da da = true) (hb1 : PySem.W.alike db db = true) (hn : da ≠ .none) (hn2 : db ≠ .none) (hu : A.units + 1 + max da.depth db.depth < cLine)
    (h : ∀ h' tk, (∀ c o, s.heap.get? c = some o → h'.get? c = some o) → Q (if PySem.W.dataLt da db = true then b else a) { s with heap := h', toks := tk }) :
    wpAny (model prog w) A (call (.builtin "max") [a, b]) Q E s := by
  have hname : (toString "max" ++ toString ".loop" : String) = "max.loop" := by decide
  refine call_function_tree F.kind_max F.plain_max F.entry_max (F.args_max2 _ _) ?_
  show wpAny _ A.in1 (Builtin.Builtins.bindParams "max" ["key", "default"] 0 ⟨[], []⟩ >>= _) _ _ s
  refine wpAny_bind (wpAny_of_eq (show Builtin.Builtins.bindParams "max" ["key", "default"] 0 ⟨[], []⟩ = pure [none, none] from rfl) ?_)
  show wpAny _ A.in1 (newTuple [a, b] >>= _) _ _ s
  refine wpAny_bind (wpAny_newObj_type ?_)
  have hT : (s.heap.push { cls := .type "tuple", data := .seq #[a, b] }).IsTuple s.heap.objs.size #[a, b] := ⟨_, Heap.get?_push_size _ rfl, rfl, 0, rfl⟩
  have keep : ∀ c o, s.heap.get? c = some o → (s.heap.push { cls := .type "tuple", data := .seq #[a, b] }).get? c = some o := fun c o e => Heap.get?_push_of_some _ e
  refine wpAny_bind (PySem.W.iter_tupleW (A := A.in1) hh (s := { s with heap := s.heap.push { cls := .type "tuple", data := .seq #[a, b] } }) hT fun s₂ e W st hfp hw hk => ?_)
  refine wpAny_bind (wpAny_newObj_type ?_)
  rw [hname]
  have hSf := fun hm => Nat.lt_irrefl _ (hfp _ hm)
  have hr : ReadsAll (s.heap.push { cls := .type "tuple", data := .seq #[a, b] }) (#[a, b] : Array Value).toList [da, db] (as ++ (bs ++ [])) := .cons (Reads.keeps keep ra) (.cons (Reads.keeps keep rb) .nil)
  have hAl : PySem.W.AlikeAll [da, db] := by
    refine ⟨fun x hx y hy => ?_, fun x hx => ?_⟩
    · rcases List.mem_cons.mp hx with rfl | hx
      · rcases List.mem_cons.mp hy with rfl | hy
        · exact ha1
        · rw [List.mem_singleton.mp hy]; exact hal
      · rw [List.mem_singleton.mp hx]
        rcases List.mem_cons.mp hy with rfl | hy
        · exact hal2
        · rw [List.mem_singleton.mp hy]; exact hb1
    · rcases List.mem_cons.mp hx with rfl | hx
      · exact hn
      · rw [List.mem_singleton.mp hx]; exact hn2
  have hu2 : A.in1.units + PyData.depthAll [da, db] < cLine := by
    show A.units + 1 + PyData.depthAll [da, db] < cLine
    simp only [PyData.depthAll]
    omega
  refine wpAny_pure ⟨plainId_quiet F.plain_max_loop _, PySem.codeAny_max_loop_firstH W _ hw _ (PySem.W.cmpIn_gt (A := A.in1) (s := { s with heap := s.heap.push { cls := .type "tuple", data := .seq #[a, b] } }) hr hAl hu2) _ hSf (PySem.fresh_in hk) _ (by show 0 < 2; decide) (fun b o e => Heap.get?_push_of_some _ (hk b o e)) (W.frame 0 s₂ _ s₂.toks st (Nat.le_refl _) fun b _ o e => Heap.get?_push_of_some _ e) (Heap.get?_push_size _ rfl) fun v s' hP hm => ?_⟩
  obtain ⟨h', tk, rfl, hk'⟩ := PySem.W.moved_old (s := { s with heap := s.heap.push { cls := .type "tuple", data := .seq #[a, b] } }) e rfl (Moved.drop_new (tk := s₂.toks) hm (Nat.le_refl _))
  have hv : v = if PySem.W.dataLt da db = true then b else a := by
    have hP' : (#[a, b] : Array Value)[argBest (fun i j => PySem.W.dataLt ([da, db].getD j .none) ([da, db].getD i .none)) 1]? = some v := hP
    cases hc : PySem.W.dataLt da db <;> simp [argBest, hc] at hP' <;> simp [hP']
  rw [hv]
  exact h h' tk fun c o q => hk' c o (keep c o q)
def cMax2 : DC := fun ds S Q => match ds with
  | [x, y] => match dat S x, dat S y with
    | some d, some e => (PySem.W.alike d e = true ∧ PySem.W.alike e d = true ∧ PySem.W.alike d d = true ∧ PySem.W.alike e e = true ∧ d ≠ .none ∧ e ≠ .none ∧ max d.depth e.depth ≤ 50) ∧ Q (if PySem.W.dataLt d e = true then y else x) S
    | _, _ => False
  | _ => False
theorem dc_max2 (hc : X.calm = true) (hu : X.A.units + 64 < cLine) : DCall X (.builtin "max") cMax2 := dcall fun pins s σ w S ds vs us Qd Q I sim hr rs h post => by
  unfold cMax2 at h
  split at h
  · rename_i x y
    split at h
    · rename_i d e h1 h2
      obtain ⟨⟨a1, a2, a3, a4, a5, a6, a7⟩, h⟩ := h
      cases hr with
      | cons r t =>
        cases t with
        | cons r2 t =>
          cases t
          obtain ⟨u, u2, rfl, q1, q2⟩ := vals2 rs
          obtain ⟨⟨as, g1⟩, _⟩ := rd I sim r q1 h1
          obtain ⟨⟨bs, g2⟩, _⟩ := rd I sim r2 q2 h2
          refine call_max_twoH (I.ok.hd hc) g1 g2 a1 a2 a3 a4 a5 a6 (by omega) fun h' tk kp => ?_
          by_cases hl : PySem.W.dataLt d e = true
          · rw [if_pos hl] at h ⊢
            exact ⟨_, w.H, I.kept (t' := tk) kp, q2, post _ S w _ h .refl sim r2⟩
          · rw [if_neg hl] at h ⊢
            exact ⟨_, w.H, I.kept (t' := tk) kp, q1, post _ S w _ h .refl sim r⟩
    · exact h.elim
  · exact h.elim

/-! ### -x; a < b < c -/
def dNeg (ta : DT) : DT := fun env S Q => ta env S fun x S1 => match x with
  | .p (.int i) => Q (.p (.int (-i))) S1
  | _ => False
theorem de_neg (ha : DE X a ta) : DE X (.UnaryOp .USub a pos) (dNeg ta) :=
  (pe_un un_neg ha).weak fun σ H Q ⟨w, S, env, Qd, e, sim, er, h, post⟩ => ⟨w, S, env, _, e, sim, er, h, fun d S1 w1 v h1 e1 s1 r1 => by
    split at h1
    · rename_i i
      cases r1
      exact ⟨i, rfl, post _ S1 w1 _ h1 e1 s1 (.int _)⟩
    · exact h1.elim⟩
theorem LE.chain {K : PySem.W.Frag} {r r' : D2} {σ : L2.St} {H : Hp} {Q : VK} (h : LE K (dChain r r' ta tb tc) σ H Q) : tChain (L2r K r) (L2r K r') (LE K ta) (LE K tb) (LE K tc) σ H Q := by
  obtain ⟨w, S, env, Qd, rfl, sim, er, h, post⟩ := h
  refine ⟨w, S, env, _, rfl, sim, er, h, fun dx S1 w1 vx h1 e1 sim1 rx => ⟨w1, S1, env, _, rfl, sim1, er.ext e1, h1, fun dy S2 w2 vy h2 e2 sim2 ry => ?_⟩⟩
  refine ⟨w2, S2, dx, dy, _, rfl, sim2, rx.ext e2, ry, h2, fun dz S3 w3 vz h3 e3 s3 rz => ?_⟩
  have ee := (e1.trans e2).trans e3
  split at h3
  · cases rz
    exact ⟨true, rfl, iteT ⟨w3, S3, env, _, rfl, s3, er.ext ee, h3, fun du S4 w4 vu h4 e4 s4 ru => ⟨w4, S4, dy, du, Qd, rfl, s4, ry.ext (e3.trans e4), ru, h4, post.ext (ee.trans e4)⟩⟩⟩
  · cases rz
    exact ⟨false, rfl, iteF (post _ S3 w3 _ h3 ee s3 (.bl _))⟩
  · exact h3.elim
end

/-! ### the law's end -/
/-- the law's promise: any script of at most 63 ints, and it hands back True -/
def spLaw : DSp := fun ds S Q => ∃ (n : Nat) (ns : List Int), ds = [.r n] ∧ S n = some (.frz (ns.map fun i => D.p (.int i))) ∧ ns.length ≤ 63 ∧ ∀ S', Q (.p (.bool true)) S'
theorem rvs_ints {K : PySem.W.Frag} {w : Wd} : ∀ ns : List Int, Rvs K w (ns.map fun i => D.p (.int i)) (ns.map V.int)
  | [] => .nil
  | n :: ns => .cons (.int n) (rvs_ints ns)
theorem law_in {K : PySem.W.Frag} {H : Hp} {a : Addr} {ns : List Int} (hl : ns.length ≤ 63) (hO : Only H) (hS : SqL K H a (ns.map V.int)) : LSp K 1 spLaw [.ref a] H (fun v _ => v = .bl true) fun _ _ _ => False := by
  refine ⟨⟨[a], fun _ => False, H⟩, fun n => if n = 0 then some (.frz (ns.map fun i => D.p (.int i))) else none, [.r 0], fun d _ => d = .p (.bool true), rfl, ⟨fun n o h => ?_, fun n m b o u hn hm on um => ?_, fun b z => z.elim⟩, .cons ⟨a, rfl, rfl⟩ .nil, rfl, ⟨0, ns, rfl, rfl, hl, fun _ => rfl⟩, fun d S' w' v q _ _ r => ?_⟩
  · split at h
    · rename_i e
      subst e
      cases h
      refine ⟨a, rfl, (fun _ z => z), ns.map V.int, ?_, rvs_ints ns⟩
      rcases hS with (h | ⟨o, h⟩) | h
      · rcases hO a with z | ⟨o, xs, z⟩
        · rw [z] at h; cases h
        · rw [z] at h; cases h
      · exact .inl ⟨o, h⟩
      · exact .inr (.inr h)
    · cases h
  · split at hn
    · cases hn; cases on
    · cases hn
  · subst q
    cases r
    rfl
theorem walk {l : PySem.W.OpenLaw} {q : Program} {loose : List Str} {XP : (Str → Option Value) → Heap → Prop} {YP : World → Heap → Prop} {d : DefRec} {K : Params → PySem.W.Frag} {k : Nat} (hn : l.most = some 63) (hdf : d.params.defaults = []) (hr : Room k callerA)
    (hY : ∀ (w : World) (h : Heap), YP w h → (K w.params).In h)
    (F : ∀ (w : World) (mg : Str → Option Value) (fa : Addr) (h : Heap), (K w.params).In h → h.Ns mainGlobals mg → mg d.name = some (.ref fa) →
      ∃ fd : FuncData, (∀ (s : Shared) (u : Value), BindsTo s fd ⟨[u], []⟩ [("script", u)]) ∧ ∀ base : Heap, (K w.params).In base → base.Ns mainGlobals mg → DFn l.prog w (K w.params) mg base k fa fd ["script"] spLaw) :
    PySem.W.WalkO q loose XP YP l.row.toRowW d [] (fun f vs => PySem.call f vs) :=
  L2.walk_of (n := 63) (k := k) (x := "script") (CX := fun _ => CX0) (sp := fun w => LSp (K w.params) 1 spLaw) hn (by decide) hdf hr hY F (fun _ _ a ns hl hO hS => law_in hl hO hS) fun _ _ _ _ _ z => z
end Tx

set_option Elab.async false
set_option linter.all false
set_option autoImplicit false
set_option maxRecDepth 100000
/-! Tx, part G: walks over any sequence, chains, named ops, calls by name -/
namespace Tx
open PySem PySem.Spec PyProof.Rows L2

section
variable {X : Cx} {tg : Expr}
/-! ### walks -/
def iAny (K : PySem.W.Frag) (tl : TE) : TI := fun σ H R => tl σ H fun x H1 => ∃ a, x = .ref a ∧ ((∃ xs, SqL K H1 a xs) ∧ R (Itl K a) H1 ∨ (∃ xs, SqT K H1 a xs) ∧ R (Itt K a) H1)
theorem pi_any {l : Expr} {tl : TE} (hl : PE X l tl) : PI X tg l (iAny X.K tl) := by
  refine ⟨fun pins s σ H R I h => ?_⟩
  refine thn (hl.run pins s σ H _ I h) fun v s1 ⟨x, H1, I1, r1, q1⟩ => ?_
  obtain ⟨a, e, q1⟩ := q1
  subst e
  cases r1
  rcases q1 with ⟨⟨xs, hq⟩, q⟩ | ⟨⟨xs, hq⟩, q⟩
  · obtain ⟨its, rv, p, hz⟩ := I1.list hq
    refine wpAny_pyIter_list p.isList ?_
    refine ⟨s1.heap.objs.size, [s1.heap.objs.size], _, _, H1, rfl, I1.kept (t' := s1.toks) fun b o e => Heap.get?_push_of_some _ e, turn_list a _, ⟨_, Heap.get?_push_size _ rfl, rfl, rfl⟩, fun b hb => ?_, q⟩
    have e : b = s1.heap.objs.size := by simpa using hb
    subst e
    exact I1.fpOk (Nat.le_refl _) (I1.hok.fresh (Nat.le_refl _))
  · obtain ⟨its, rv, p, hz⟩ := I1.tuple hq
    refine wpAny_pyIter_tuple (show s1.heap.IsTuple a its.toArray from p) ?_
    refine ⟨s1.heap.objs.size, [s1.heap.objs.size], _, _, H1, rfl, I1.kept (t' := s1.toks) fun b o e => Heap.get?_push_of_some _ e, turn_tuple a _, ⟨_, Heap.get?_push_size _ rfl, rfl, rfl⟩, fun b hb => ?_, q⟩
    have e : b = s1.heap.objs.size := by simpa using hb
    subst e
    exact I1.fpOk (Nat.le_refl _) (I1.hok.fresh (Nat.le_refl _))
def diA (te : DT) : DTI := fun env S Q => te env S fun d S1 => match d with
  | .p (.tuple ds) => Q ⟨ds.map D.p, fun _ => True⟩ S1
  | d => match seqL S1 d with
    | some xs => Q ⟨xs, fun S' => seqL S' d = some xs⟩ S1
    | none => False
theorem rit_list {K : PySem.W.Frag} {w1 : Wd} {d : D} {xs : List D} {a : Addr} (r1 : Rv K w1 d (.ref a)) : RIt K w1 ⟨xs, fun S' => seqL S' d = some xs⟩ (Itl K a) := by
  refine ⟨fun i x hi w' S' e' s' c => ?_, fun w' S' e' s' c => ?_⟩
  · obtain ⟨a', vs', ea, h5, h6⟩ := s'.seq (r1.ext e') c
    cases ea
    obtain ⟨v, h7, h8⟩ := h6.get hi
    refine ⟨⟨vs', v, h5, h7⟩, fun u H'' y => ?_⟩
    obtain ⟨rfl, y⟩ := y
    refine ⟨w', rfl, .refl, s', ?_⟩
    have q := y vs' h5
    rw [h7] at q
    cases q
    exact h8
  · obtain ⟨a', vs', ea, h5, h6⟩ := s'.seq (r1.ext e') c
    cases ea
    exact ⟨vs', h5, Nat.le_of_eq h6.len.symm⟩
theorem rit_tup {K : PySem.W.Frag} {w1 : Wd} {ds : List PyData} {vs : List V} {a : Addr} (f : FT K w1 a vs) (q : PDs K w1 vs ds) : RIt K w1 ⟨ds.map D.p, fun _ => True⟩ (Itt K a) := by
  refine ⟨fun i x hi w' S' e' s' c => ?_, fun w' S' e' s' c => ?_⟩
  · obtain ⟨v, h7, h8⟩ := (PDs.rvs (PDs.ext e' q)).get hi
    refine ⟨⟨_, v, (f.ext e').sq, h7⟩, fun u H'' y => ?_⟩
    obtain ⟨rfl, y⟩ := y
    refine ⟨w', rfl, .refl, s', ?_⟩
    have z := y _ (f.ext e').sq
    rw [h7] at z
    cases z
    exact h8
  · exact ⟨_, (f.ext e').sq, by rw [List.length_map, q.length]; exact Nat.le_refl _⟩
theorem di_any {e : Expr} {te : DT} (h : DE X e te) : DI X tg e (diA te) :=
  (pi_any h).weak fun σ H R ⟨w, S, env, Qd, e, sim, er, h, post⟩ => ⟨w, S, env, _, e, sim, er, h, fun d S1 w1 v h1 e1 s1 r1 => by
    split at h1
    · rename_i ds
      cases r1 with
      | tup f q => exact ⟨_, rfl, .inr ⟨⟨_, f.sq⟩, post _ S1 w1 _ h1 e1 s1 (rit_tup f q)⟩⟩
    · split at h1
      · rename_i xs hx
        obtain ⟨a, vs, rfl, h3, h4⟩ := s1.seq r1 hx
        exact ⟨a, rfl, .inl ⟨⟨vs, h3⟩, post _ S1 w1 _ h1 e1 s1 (rit_list r1)⟩⟩
      · exact h1.elim⟩

/-! ### chains -/
variable {a b c : Expr} {ta tb tc : DT} {pos : Pos} {op op' : CmpOp} {r r' : D2}
theorem de_chain (ho : DOp X (compareOp op) r) (ho' : DOp X (compareOp op') r') (ha : DE X a ta) (hb : DE X b tb) (hc : DE X c tc) (hm : lastMarks [op, op'] [b, c] = false := by with_unfolding_all rfl) : DE X (.Compare a [op, op'] [b, c] pos) (dChain r r' ta tb tc) :=
  (pe_chain ho ho' ha hb hc hm).weak fun _ _ _ h => h.chain
theorem dt_chain (ho : DOp X (compareOp op) r) (ho' : DOp X (compareOp op') r') (ha : DE X a ta) (hb : DE X b tb) (hc : DE X c tc) (hm : lastMarks [op, op'] [b, c] = false := by with_unfolding_all rfl) : DTs X (.Compare a [op, op'] [b, c] pos) (dTB (dChain r r' ta tb tc)) :=
  (pt_chain ho ho' ha hb hc hm).weak fun _ _ _ h => LE.asTest h fun _ _ _ q => q.chain

/-! ### named operators -/
def rSub : D2 := rInt (fun _ _ => True) fun i j => i - j
def rFdiv : D2 := rInt CDivW fun i j => i / j
def rMod : D2 := rInt (fun _ j => 0 < j) fun i j => i % j
def rPow : D2 := rInt CPow fun i j => i ^ j.toNat
def rShl : D2 := rInt CPow fun i j => i * 2 ^ j.toNat
def rShr : D2 := rInt (fun _ j => 0 ≤ j) fun i j => i / 2 ^ j.toNat
def rBand : D2 := rInt (fun _ _ => True) fun i j => Builtin.bitAnd i j
def rBor : D2 := rInt (fun _ _ => True) fun i j => Builtin.bitOr i j
def rMul : D2 := rInt CMul fun i j => i * j
theorem o_sub : DOp X (binaryOp .Sub) rSub := dop_sub
theorem o_fdiv : DOp X (binaryOp .FloorDiv) rFdiv := dop_fdiv
theorem o_mod : DOp X (binaryOp .Mod) rMod := dop_mod
theorem o_pow : DOp X (binaryOp .Pow) rPow := dop_pow
theorem o_shl : DOp X (binaryOp .LShift) rShl := dop_shl
theorem o_shr : DOp X (binaryOp .RShift) rShr := dop_shr
theorem o_band : DOp X (binaryOp .BitAnd) rBand := dop_and
theorem o_bor : DOp X (binaryOp .BitOr) rBor := dop_or
theorem o_mul : DOp X (binaryOp .Mult) rMul := dop_mul
end

/-! ### calls by name -/
/-- x names a def that keeps sp -/
structure Cal (P : Program) (w : World) (K : PySem.W.Frag) (mg : Str → Option Value) (base : Heap) (k : Nat) (x : Str) (ps : List Str) (sp : DSp) : Prop where
  ex : ∃ f fd, DFn P w K mg base k f fd ps sp ∧ mg x = some (.ref f) ∧ PySem.W.keepIn K (.ref f) = true ∧ Binds K fd ps []
/-- x names a def: what the start facts say -/
structure Fn (K : PySem.W.Frag) (mg : Str → Option Value) (x qual : Str) (st : Stmt) (ps : List Str) : Prop where
  ex : ∃ f fd, Fun K x qual st f fd ∧ mg x = some (.ref f) ∧ Binds K fd ps []
section
variable {P : Program} {w : World} {K : PySem.W.Frag} {mg : Str → Option Value} {base : Heap} {k j : Nat} {x qual : Str} {ps N : List Str} {sp sp' : DSp} {st : Stmt} {t : DS}
theorem Cal.mono (c : Cal P w K mg base j x ps sp) (h : j ≤ k) : Cal P w K mg base k x ps sp := by
  obtain ⟨f, fd, a, b, c, d⟩ := c.ex
  exact ⟨f, fd, FnOk.mono a h, b, c, d⟩
theorem Cal.imp (c : Cal P w K mg base k x ps sp) (h : ∀ ds S Q, sp' ds S Q → sp ds S Q) : Cal P w K mg base k x ps sp' := by
  obtain ⟨f, fd, a, b, c, d⟩ := c.ex
  exact ⟨f, fd, a.imp h, b, c, d⟩
theorem Fn.ok (F : Fn K mg x qual st ps) (S : FnScope N ps (defScope st))
    (hb : ∀ (f : Addr) (cdv : Value) (A : Around) (outer : List Env) (s : Shared) (H : Hp) (E : XK), Room k (A.deeper (envOfC qual (defScope st) s.heap.objs.size f cdv)) → DSs (cxOf CX0 P w K mg base N qual (defScope st) f cdv A outer s H E).nox (defBody st) t)
    (hs : ∀ ds S Q, ds.length = ps.length → sp ds S Q → t { nx := fun _ S' => Fin Q (.p .none) S', rt := Fin Q } (dstart N.length ds) S) : Cal P w K mg base (k + 1) x ps sp := by
  obtain ⟨f, fd, a, b, c⟩ := F.ex
  exact ⟨f, fd, dfn_of a S (hb f) hs, b, a.kp, c⟩
theorem fn_mk {f : Addr} {oc : Value} {od an : Option Addr} {osl : Array (Option Value)} {kV doc pm cdv ct : Value} (hm : mg x = some (.ref f)) (l : K.lookup f = some ⟨oc, od, .func (PySem.W.fnOf x qual (defArgs st) (defBody st) (defScope st) .none kV doc pm an cdv ct), osl⟩)
    (c : PySem.W.codeIn K cdv qual = true) (kp : PySem.W.keepIn K (.ref f) = true)
    (h : ∀ (kV doc pm : Value) (an : Option Addr) (cdv ct : Value) (us : List Value), us.length = ps.length → bindArgs (PySem.W.fnOf x qual (defArgs st) (defBody st) (defScope st) .none kV doc pm an cdv ct) ⟨us, []⟩ = pure (ps.zip us)) : Fn K mg x qual st ps :=
  ⟨f, _, fun_mk l c kp, hm, (fun_mk l c kp).binds h⟩
end
section
variable {X : Cx} {k : Nat} {ps : List Str} {sp : DSp} {x : Str} {p pos : Pos} {e : Expr} {es : List Expr} {t : DA}
theorem de_fn {n : Nat} (C : Cal X.prog X.w X.K X.mg X.base k x ps sp) (hr : Room k X.A) (ha : DAs X (e :: es) t) (hn : ps.length = n := by rfl) (hg : Gl X x := by rfl) (hdb : (x == ("__debug__" : Str)) = false := by decide)
    (he : starEach (e :: es) X.env = (false, eval e X.env) :: starEach es X.env := by rfl) (hpl : (backTo pos (starEach es X.env)).any (·.1) = false := by rfl) : DE X (.Call (.Name x p) (e :: es) [] pos) (dCall n sp t) := by
  subst hn
  obtain ⟨f, fd, a, b, c, d⟩ := C.ex
  exact de_call a hr hg b c d ha hdb he hpl
theorem de_fn0 {n : Nat} (C : Cal X.prog X.w X.K X.mg X.base k x ps sp) (hr : Room k X.A) (hn : ps.length = n := by rfl) (hg : Gl X x := by rfl) (hdb : (x == ("__debug__" : Str)) = false := by decide) : DE X (.Call (.Name x p) [] [] pos) (dCall n sp dNil) := by
  subst hn
  obtain ⟨f, fd, a, b, c, d⟩ := C.ex
  exact de_call0 a hr hg b c d hdb
end
end Tx

set_option Elab.async false
set_option linter.all false
set_option autoImplicit false
set_option maxRecDepth 100000
/-! Tx, part H: for the readings' proofs -/
namespace Tx
open PySem

theorem seqL_lst {S : Sto} {n : Nat} {xs : List D} (h : S n = some (.lst xs)) : seqL S (.r n) = some xs := by simp [seqL, h]
theorem seqL_frz {S : Sto} {n : Nat} {xs : List D} (h : S n = some (.frz xs)) : seqL S (.r n) = some xs := by simp [seqL, h]
theorem datL_lst {S : Sto} {n : Nat} {xs : List PyData} (h : S n = some (.lst (xs.map D.p))) : datL S (.r n) = some xs := by simp only [datL, h]; exact mapM_pure xs
theorem datL_frz {S : Sto} {n : Nat} {xs : List PyData} (h : S n = some (.frz (xs.map D.p))) : datL S (.r n) = some xs := by simp only [datL, h]; exact mapM_pure xs
theorem dat_lst {S : Sto} {n : Nat} {xs : List PyData} (h : S n = some (.lst (xs.map D.p))) : dat S (.r n) = some (.list xs) := by simp only [dat, datL_lst h, Option.map]
theorem atD_nat {α : Type} {xs : List α} {i : Nat} {v : α} (h : xs[i]? = some v) : atD xs (i : Int) = some v := by
  unfold atD
  rw [if_pos (Int.natCast_nonneg i), Int.toNat_natCast]
  exact h
theorem atD_int {α : Type} {xs : List α} {i : Int} {v : α} (h0 : 0 ≤ i) (h : xs[i.toNat]? = some v) : atD xs i = some v := by
  unfold atD
  rw [if_pos h0]
  exact h
theorem ixN_nat {n i : Nat} (h : i < n) : L2.ixN n (i : Int) = some i := by
  unfold L2.ixN
  rw [if_pos (Int.natCast_nonneg i), if_pos (by omega), Int.toNat_natCast]
theorem ixN_int {n : Nat} {i : Int} (h0 : 0 ≤ i) (h : i < n) : L2.ixN n i = some i.toNat := by
  unfold L2.ixN
  rw [if_pos h0, if_pos h]
theorem map_get {α β : Type} {f : α → β} {xs : List α} {i : Nat} {x : α} (h : xs[i]? = some x) : (xs.map f)[i]? = some (f x) := by rw [List.getElem?_map, h]; rfl
theorem upS_less {S : Sto} {n : Nat} {o : MO} (h : S n = none) : ∀ m u, S m = some u → upS S n o m = some u := fun m u q => by
  rw [upS_ne (fun e => by rw [e, h] at q; cases q)]; exact q
theorem upS_comm {S : Sto} {n m : Nat} {o u : MO} (h : n ≠ m) : upS (upS S n o) m u = upS (upS S m u) n o := by
  funext k
  unfold upS
  by_cases h1 : k = m
  · subst h1; simp [Ne.symm h]
  · by_cases h2 : k = n <;> simp [h1, h2, h]
theorem ne_of_none {S : Sto} {n m : Nat} {o : MO} (h : S n = none) (k : S m = some o) : m ≠ n := fun e => by rw [e, h] at k; cases k
theorem Fin.drop {Q : DQ} {d : D} {S : Sto} {n : Nat} {o : MO} (hn : S n = none) (h : Q d S) : Fin Q d (upS S n o) := Fin.less h (upS_less hn)
/-- a list of its own is handed back -/
theorem Fin.own {Q : DQ} {n : Nat} {S : Sto} {ds : List PyData} (hn : S n = none) (h : Q (.p (.list ds)) S) : Fin Q (.r n) (upS S n (.lst (ds.map D.p))) := Fin.lst upS_same h hn (upS_less hn)
/-- a list comprehension of pure items -/
theorem lc_pure {J : DIt} {g : DGt} {tt : DTt} {te : DT} {vs : List Nat} {env : En} {n : Nat} {Q : DQ} {S1 : Sto} (keep : D → Bool) (f : D → PyData) (hn : S1 n = none) (hz : J.items.length < sizeLine) (hc : ∀ acc, J.chk (upS S1 n (.lst acc)))
    (h : ∀ x, x ∈ J.items → ∀ (acc : List D) (R : D → Sto → Prop) (R' : Sto → Prop), (if keep x = true then R (.p (f x)) (upS S1 n (.lst acc)) else R' (upS S1 n (.lst acc))) → g x (wipeD env vs) (upS S1 n (.lst acc)) fun env2 S2 => tt env2 S2 fun b S3 => if b = true then te env2 S3 R else R' S3)
    (q : Q (.p (.list ((J.items.filter keep).map f))) S1) : J.chk (upS S1 n (.lst [])) ∧ lcI J g tt te vs env n (lcEnd n Q) (upS S1 n (.lst [])) := by
  refine ⟨hc [], fun k acc S => S = upS S1 n (.lst acc) ∧ acc = (((J.items.take k).filter keep).map f).map D.p, ⟨rfl, by simp⟩, ?_, ?_⟩
  · rintro k x acc S hx ⟨rfl, ha⟩
    have hm : x ∈ J.items := List.mem_of_getElem? hx
    have ht : J.items.take (k + 1) = J.items.take k ++ [x] := by rw [List.take_add_one, hx]; rfl
    refine h x hm acc _ _ ?_
    have hl : acc.length < sizeLine := by
      rw [ha, List.length_map, List.length_map]
      refine Nat.lt_of_le_of_lt (Nat.le_trans (List.length_filter_le _ _) ?_) hz
      rw [List.length_take]
      exact Nat.min_le_right _ _
    by_cases e : keep x = true
    · rw [if_pos e]
      refine ⟨upS_same, hl, ?_, ?_, ?_⟩
      · rw [upS_upS]; exact hc _
      · rw [upS_upS]
      · rw [ht, List.filter_append, List.map_append, List.map_append, ← ha]
        simp [e]
    · rw [if_neg e]
      refine ⟨upS_same, hc _, rfl, ?_⟩
      rw [ht, List.filter_append, List.map_append, List.map_append, ← ha]
      simp [e]
  · rintro acc S ⟨rfl, ha⟩
    rw [List.take_length] at ha
    unfold lcEnd
    rw [ha, mapM_pure]
    exact ⟨upS_same, by rw [rm_upS hn]; exact q⟩
end Tx
namespace Tx
open PySem
theorem eqv_int (a b : Int) : PyData.eqv (.int a) (.int b) = decide (a = b) := by simp only [PyData.eqv]; exact PySem.W.beq_decide a b
theorem eqv_str (a b : Str) : PyData.eqv (.str a) (.str b) = decide (a = b) := by simp only [PyData.eqv]; exact PySem.W.beq_decide a b
theorem eqv_bool (a b : Bool) : PyData.eqv (.bool a) (.bool b) = decide (a = b) := by simp only [PyData.eqv]; exact PySem.W.beq_decide a b
theorem dp_int (a : Int) : (PyData.int a).depth = 0 := by simp [PyData.depth]
theorem dp_str (a : Str) : (PyData.str a).depth = 0 := by simp [PyData.depth]
theorem dp_bool (a : Bool) : (PyData.bool a).depth = 0 := by simp [PyData.depth]
theorem dp_none : (PyData.none).depth = 0 := by simp [PyData.depth]
theorem al_int (a b : Int) : PySem.W.alike (.int a) (.int b) = true := by simp [PySem.W.alike]
theorem al_str (a b : Str) : PySem.W.alike (.str a) (.str b) = true := by simp [PySem.W.alike]
theorem min00 : (min 0 0 ≤ 60) = True := by simp
theorem ne_int (a : Int) : (PyData.int a ≠ .none) = True := by simp
theorem ne_str (a : Str) : (PyData.str a ≠ .none) = True := by simp
theorem mapM_p (ds : List PyData) : (ds.map D.p).mapM pureD = some ds := mapM_pure ds
theorem atD_zero {α : Type} {xs : List α} : atD xs 0 = xs[0]? := rfl
theorem atD_one {α : Type} {xs : List α} : atD xs 1 = xs[1]? := rfl
theorem atD_two {α : Type} {xs : List α} : atD xs 2 = xs[2]? := rfl
theorem atD_three {α : Type} {xs : List α} : atD xs 3 = xs[3]? := rfl
theorem get_ex {α : Type} {xs : List α} {i : Nat} (h : i < xs.length) : ∃ x, xs[i]? = some x := ⟨_, List.getElem?_eq_getElem h⟩
theorem map_getD {α β : Type} {f : α → β} {xs : List α} {i : Nat} {y : β} (h : (xs.map f)[i]? = some y) : ∃ x, xs[i]? = some x ∧ y = f x := by
  rw [List.getElem?_map] at h
  cases e : xs[i]? with
  | none => rw [e] at h; cases h
  | some x => rw [e] at h; cases h; exact ⟨x, rfl, rfl⟩
theorem take_succ {α : Type} {xs : List α} {i : Nat} {x : α} (h : xs[i]? = some x) : xs.take (i + 1) = xs.take i ++ [x] := by rw [List.take_add_one, h]; rfl
theorem small {n : Nat} (h : n ≤ 100000) : n ≤ sizeLine := Nat.le_trans h (by decide)
theorem smallL {n : Nat} (h : n ≤ 100000) : n < sizeLine := Nat.lt_of_le_of_lt h (by decide)
/-- what was known stays known -/
def Keeps (S S' : Sto) : Prop := ∀ m u, S m = some u → S' m = some u
theorem Keeps.refl {S : Sto} : Keeps S S := fun _ _ h => h
theorem Keeps.trans {S T U : Sto} (h : Keeps S T) (k : Keeps T U) : Keeps S U := fun m u q => k m u (h m u q)
theorem Keeps.new {S T : Sto} {n : Nat} {o : MO} (h : Keeps S T) (hn : T n = none) : Keeps S (upS T n o) := fun m u q => upS_less hn m u (h m u q)
theorem Keeps.upd {S T : Sto} {n : Nat} {o : MO} (h : Keeps S T) (hn : S n = none) : Keeps S (upS T n o) := fun m u q => by
  rw [upS_ne (fun e => by rw [e, hn] at q; cases q)]; exact h m u q
theorem Keeps.none {S T : Sto} {n : Nat} (h : Keeps S T) (hn : T n = none) : S n = none := by
  cases e : S n with
  | none => rfl
  | some o => rw [h n o e] at hn; cases hn
theorem Fin.keeps {Q : DQ} {d : D} {S S' : Sto} (h : Q d S) (k : Keeps S S') : Fin Q d S' := Fin.less h k
theorem datL_p (ds : List PyData) {S : Sto} : datL S (.p (.list ds)) = some ds := rfl
theorem datL_keeps {S T : Sto} (k : Keeps S T) {d : D} {ds : List PyData} (h : datL S d = some ds) : datL T d = some ds := by
  cases d with
  | p d => rw [← h]; cases d <;> rfl
  | r n =>
    cases e : S n with
    | none => simp [datL, e] at h
    | some o => rw [← h]; simp only [datL, e, k n o e]
theorem seqL_of_datL {S : Sto} {d : D} {ds : List PyData} (h : datL S d = some ds) : seqL S d = some (ds.map D.p) := by
  cases d with
  | p d =>
    cases d with
    | list xs => simp only [datL, Option.some.injEq] at h; subst h; rfl
    | _ => simp [datL] at h
  | r n =>
    cases e : S n with
    | none => simp [datL, e] at h
    | some o =>
      cases o with
      | lst xs => simp only [datL, e] at h; simp only [seqL, e]; rw [mapM_pure_inv h]
      | frz xs => simp only [datL, e] at h; simp only [seqL, e]; rw [mapM_pure_inv h]
      | dic _ => simp [datL, e] at h
theorem str_len (a b : Str) : (a ++ b).length = a.length + b.length := by
  show (a.cps ++ b.cps).size = _
  rw [Array.size_append]; rfl
theorem min_le60 {a b : Nat} (h : a ≤ 60) : min a b ≤ 60 := Nat.le_trans (Nat.min_le_left _ _) h
theorem min_le60' {a b : Nat} (h : b ≤ 60) : min a b ≤ 60 := Nat.le_trans (Nat.min_le_right _ _) h
theorem intsD_length {lo : Int} {n : Nat} : (intsD lo n).length = n := intsD_len
end Tx
namespace Tx
theorem lp_list {J : DIt} {g : DGt} {tb : DS} {De : DEnds} {env : En} {S : Sto} (W : Nat → En → Sto → Prop) (h0 : W 0 env S)
    (hs : ∀ k x env S De', J.items[k]? = some x → W k env S → (∀ e s, J.chk s → W (k + 1) e s → DEnds.nx De' e s) → (∀ e s, J.chk s → W (k + 1) e s → DEnds.ct De' e s) → DEnds.rt De' = De.rt → DEnds.bk De' = De.nx → g x env S fun env1 S1 => tb De' env1 S1)
    (hf : ∀ env S, W J.items.length env S → De.nx env S) : loopI J g tb De env S := ⟨W, h0, fun k x env S hx hw => hs k x env S _ hx hw (fun _ _ a b => ⟨a, b⟩) (fun _ _ a b => ⟨a, b⟩) rfl rfl, hf⟩
theorem lp_range {lo : Int} {n : Nat} {chk : Sto → Prop} {g : DGt} {tb : DS} {De : DEnds} {env : En} {S : Sto} (W : Nat → En → Sto → Prop) (h0 : W 0 env S)
    (hs : ∀ k env S De', k < n → W k env S → (∀ e s, chk s → W (k + 1) e s → DEnds.nx De' e s) → (∀ e s, chk s → W (k + 1) e s → DEnds.ct De' e s) → DEnds.rt De' = De.rt → DEnds.bk De' = De.nx → g (.p (.int (lo + k))) env S fun env1 S1 => tb De' env1 S1)
    (hf : ∀ env S, W n env S → De.nx env S) : loopI ⟨intsD lo n, chk⟩ g tb De env S := ⟨W, h0, fun k x env S hx hw => by
      obtain ⟨h1, rfl⟩ := intsD_get hx
      exact hs k env S _ h1 hw (fun _ _ a b => ⟨a, b⟩) (fun _ _ a b => ⟨a, b⟩) rfl rfl, by rw [intsD_len]; exact hf⟩
end Tx
namespace Tx
open PySem
theorem rIx_tup {ds : List PyData} {i : Int} {S : Sto} {Q : DQ} : rIx (.p (.tuple ds)) (.p (.int i)) S Q = (match atD ds i with | some d => Q (.p d) S | none => False) := rfl
theorem rIx_str {z : Str} {i : Int} {S : Sto} {Q : DQ} : rIx (.p (.str z)) (.p (.int i)) S Q = (z.length ≤ sizeLine ∧ match atD z.cps.toList i with | some c => Q (.p (.str ⟨#[c]⟩)) S | none => False) := rfl
theorem rIx_lst {ds : List PyData} {i : Int} {S : Sto} {Q : DQ} : rIx (.p (.list ds)) (.p (.int i)) S Q = (match atD (ds.map D.p) i with | some d => Q d S | none => False) := rfl
theorem rIx_ref {n : Nat} {i : Int} {S : Sto} {Q : DQ} : rIx (.r n) (.p (.int i)) S Q = (match seqL S (.r n) with | some xs => (match atD xs i with | some d => Q d S | none => False) | none => False) := rfl
theorem rIx_of {x : D} {xs : List D} {i : Int} {S : Sto} {Q : DQ} (h : seqL S x = some xs) : rIx x (.p (.int i)) S Q = (match atD xs i with | some d => Q d S | none => False) := by
  cases x with
  | r n => rw [rIx_ref, h]
  | p d =>
    cases d with
    | list ds => rw [rIx_lst]; simp only [seqL, Option.some.injEq] at h; rw [h]
    | _ => simp [seqL] at h
theorem cLen_of {x : D} {xs : List D} {S : Sto} {Q : DQ} (h : seqL S x = some xs) : cLen [x] S Q = Q (.p (.int xs.length)) S := by
  cases x with
  | r n => simp only [cLen, h]
  | p d =>
    cases d with
    | list ds => simp only [cLen, h]
    | _ => simp [seqL] at h
theorem seqL_keeps {S T : Sto} (k : Keeps S T) {d : D} {ds : List D} (h : seqL S d = some ds) : seqL T d = some ds := by
  cases d with
  | p d => rw [← h]; cases d <;> rfl
  | r n =>
    cases e : S n with
    | none => simp [seqL, e] at h
    | some o => rw [← h]; simp only [seqL, e, k n o e]
/-- a list comprehension, pure items, no test -/
theorem lc_map {J : DIt} {g : DGt} {tt : DTt} {te : DT} {vs : List Nat} {env : En} {n : Nat} {Q : DQ} {S1 : Sto} (f : D → PyData) (hn : S1 n = none) (hz : J.items.length < sizeLine) (hc : ∀ acc, J.chk (upS S1 n (.lst acc)))
    (h : ∀ x, x ∈ J.items → ∀ (acc : List D) (R : D → Sto → Prop) (R' : Sto → Prop), R (.p (f x)) (upS S1 n (.lst acc)) → g x (wipeD env vs) (upS S1 n (.lst acc)) fun env2 S2 => tt env2 S2 fun b S3 => if b = true then te env2 S3 R else R' S3)
    (q : Q (.p (.list (J.items.map f))) S1) : lcI J g tt te vs env n (lcEnd n Q) (upS S1 n (.lst [])) :=
  (lc_pure (fun _ => true) f hn hz hc (fun x hx acc R R' hq => h x hx acc R R' hq) (by rw [List.filter_eq_self.mpr fun _ _ => rfl]; exact q)).2
end Tx
namespace Tx
open PySem
theorem cLen_tup {xs : List PyData} {S : Sto} {Q : DQ} : cLen [.p (.tuple xs)] S Q = Q (.p (.int xs.length)) S := rfl
theorem cLen_str {z : Str} {S : Sto} {Q : DQ} : cLen [.p (.str z)] S Q = (z.length ≤ sizeLine ∧ Q (.p (.int z.length)) S) := rfl
theorem cLen_lst {xs : List PyData} {S : Sto} {Q : DQ} : cLen [.p (.list xs)] S Q = Q (.p (.int (xs.map D.p).length)) S := rfl
theorem cLen_ref {n : Nat} {S : Sto} {Q : DQ} : cLen [.r n] S Q = (match seqL S (.r n) with | some xs => Q (.p (.int xs.length)) S | none => False) := rfl
end Tx
namespace Tx
open PySem
theorem Fn.no {P : Program} {w : World} {K : PySem.W.Frag} {mg : Str → Option Value} {base : Heap} {k : Nat} {x qual : Str} {ps : List Str} {st : Stmt} (F : Fn K mg x qual st ps) : Cal P w K mg base k x ps (fun _ _ _ => False) := by
  obtain ⟨f, fd, a, b, c⟩ := F.ex
  exact ⟨f, fd, ⟨fun vs H Q E ⟨_, _, _, _, _, _, _, _, h, _⟩ => h.elim, fun A outer s H args us vs Q E hr he hb hv ⟨_, _, _, _, _, _, _, _, h, _⟩ => h.elim⟩, b, a.kp, c⟩
end Tx
namespace Tx
open PySem
theorem frzAll_p {S : Sto} : ∀ ds : List PyData, frzAll (ds.map D.p) S = some (ds, S)
  | [] => rfl
  | d :: ds => by rw [List.map_cons, frzAll, frzAll_p ds]
theorem frzAll_snoc {S : Sto} (ds : List PyData) (d : PyData) : frzAll (ds.map D.p ++ [D.p d]) S = some (ds ++ [d], S) := by
  rw [show ds.map D.p ++ [D.p d] = (ds ++ [d]).map D.p from by simp, frzAll_p]
end Tx

set_option Elab.async false
set_option linter.all false
set_option autoImplicit false
set_option maxRecDepth 100000
/-! Mx, part A: names and papers in plain Lean -/
namespace Mx
open PySem

structure Nm where
  h : Str
  n : Int
  o : Str
  deriving DecidableEq
def Nm.enc (a : Nm) : PyData := .tuple [.str a.h, .int a.n, .str a.o]
theorem eqv_nm (a b : Nm) : PyData.eqv a.enc b.enc = decide (a = b) := by
  cases a; cases b
  simp [Nm.enc, PyData.eqv, PyData.eqvAll, PySem.W.beq_decide]
theorem alike_nm (a b : Nm) : PySem.W.alike a.enc b.enc = true := by
  simp [Nm.enc, PySem.W.alike, PySem.W.alikeAll]
theorem depth_nm (a : Nm) : a.enc.depth = 1 := by
  simp [Nm.enc, PyData.depth, PyData.depthAll]
theorem toks_nm {a b : Nm} (h : PySem.W.keyToks a.enc = PySem.W.keyToks b.enc) : a = b := by
  cases a; cases b
  simp [Nm.enc, PySem.W.keyToks, PySem.W.keyToksAll] at h
  obtain ⟨h1, h2, h3⟩ := h
  rename_i x1 _ x3 y1 _ y3
  cases x1; cases x3; cases y1; cases y3
  simp_all
def nlt (a b : Nm) : Bool := PySem.W.dataLt a.enc b.enc
theorem nlt_irr (a : Nm) : nlt a a = false := PyProof.Rows.lex_irrefl _
theorem nlt_trans {a b c : Nm} (h : nlt a b = true) (k : nlt b c = true) : nlt a c = true := PyProof.Rows.lex_trans _ _ _ h k
theorem nlt_tot {a b : Nm} (h : nlt a b = false) (k : nlt b a = false) : a = b := toks_nm (PyProof.Rows.lex_total _ _ h k)
theorem nlt_asym {a b : Nm} (h : nlt a b = true) : nlt b a = false := by
  cases e : nlt b a with
  | false => rfl
  | true => have := nlt_trans h e; rw [nlt_irr] at this; cases this
theorem nlt_ne {a b : Nm} (h : nlt a b = true) : a ≠ b := fun e => by rw [e, nlt_irr] at h; cases h
/-- strictly ascending -/
abbrev Asc (l : List Nm) : Prop := l.Pairwise fun a b => nlt a b = true

abbrev encV : Option Int → PyData
  | none => .none
  | some i => .int i
inductive Pap where
  | is (v : Option Int)
  | br (n : Nm) (s g : Pap)
  deriving DecidableEq
namespace Pap
def enc : Pap → PyData
  | is v => .tuple [.str "is", encV v]
  | br n s g => .tuple [.str "if", n.enc, s.enc, g.enc]
def ht : Pap → Nat
  | is _ => 0
  | br _ s g => max s.ht g.ht + 1
def names : Pap → List Nm
  | is _ => []
  | br n s g => n :: (s.names ++ g.names)
def vals : Pap → List (Option Int)
  | is v => [v]
  | br _ s g => s.vals ++ g.vals
def read (c : List Nm) : Pap → Option Int
  | is v => v
  | br n s g => if n ∈ c then g.read c else s.read c
def Ordd : Pap → Prop
  | is _ => True
  | br n s g => s.Ordd ∧ g.Ordd ∧ (∀ m ∈ s.names, nlt m n = true) ∧ ∀ m ∈ g.names, nlt m n = true
def Bin (p : Pap) : Prop := ∀ v ∈ p.vals, v = some 0 ∨ v = some 1
end Pap
theorem eqv_encV (a b : Option Int) : PyData.eqv (encV a) (encV b) = decide (a = b) := by
  cases a <;> cases b <;> simp [encV, PyData.eqv, PySem.W.beq_decide]
theorem eqv_pap : ∀ p q : Pap, PyData.eqv p.enc q.enc = decide (p = q)
  | .is v, .is u => by
    simp only [Pap.enc, PyData.eqv, PyData.eqvAll, eqv_encV]
    simp
  | .is v, .br n s g => by simp [Pap.enc, PyData.eqv, PyData.eqvAll]
  | .br n s g, .is v => by simp [Pap.enc, PyData.eqv, PyData.eqvAll]
  | .br n s g, .br m t k => by
    simp only [Pap.enc, PyData.eqv, PyData.eqvAll, eqv_nm, eqv_pap s t, eqv_pap g k]
    simp
theorem depth_encV (a : Option Int) : (encV a).depth = 0 := by cases a <;> simp [encV, PyData.depth]
theorem depth_pap : ∀ p : Pap, p.enc.depth ≤ p.ht + 2
  | .is v => by simp only [Pap.enc, PyData.depth, PyData.depthAll, depth_encV, Pap.ht]; omega
  | .br n s g => by
    have h1 := depth_pap s
    have h2 := depth_pap g
    simp only [Pap.enc, PyData.depth, PyData.depthAll, depth_nm, Pap.ht]
    omega
namespace Pap
theorem read_congr {c d : List Nm} : ∀ {p : Pap}, (∀ m ∈ p.names, m ∈ c ↔ m ∈ d) → p.read c = p.read d
  | is _, _ => rfl
  | br n s g, h => by
    have h0 := h n (by simp [names])
    have h1 := read_congr (p := s) fun m hm => h m (by simp [names, hm])
    have h2 := read_congr (p := g) fun m hm => h m (by simp [names, hm])
    simp only [read, h1, h2, h0]
theorem read_vals {c : List Nm} : ∀ {p : Pap}, p.read c ∈ p.vals
  | is _ => by simp [read, vals]
  | br n s g => by
    simp only [read, vals]
    split
    · exact List.mem_append_right _ read_vals
    · exact List.mem_append_left _ read_vals
theorem Bin.read {p : Pap} (h : p.Bin) (c : List Nm) : p.read c = some 0 ∨ p.read c = some 1 := h _ read_vals
def stands (n : Nm) : Pap → Pap
  | is v => is v
  | br m s g => if m = n then s else br m s g
def gone (n : Nm) : Pap → Pap
  | is v => is v
  | br m s g => if m = n then g else br m s g
theorem stands_ht {n : Nm} {p : Pap} : (p.stands n).ht ≤ p.ht := by
  cases p with
  | is v => exact Nat.le_refl _
  | br m s g => simp only [stands]; split <;> simp only [ht] <;> omega
theorem gone_ht {n : Nm} {p : Pap} : (p.gone n).ht ≤ p.ht := by
  cases p with
  | is v => exact Nat.le_refl _
  | br m s g => simp only [gone]; split <;> simp only [ht] <;> omega
def top : Pap → Option Nm
  | is _ => none
  | br n _ _ => some n
theorem stands_lt {n : Nm} {p : Pap} (h : p.top = some n) : (p.stands n).ht < p.ht := by
  cases p with
  | is v => cases h
  | br m s g => cases h; simp only [stands, if_pos, ht]; omega
theorem gone_lt {n : Nm} {p : Pap} (h : p.top = some n) : (p.gone n).ht < p.ht := by
  cases p with
  | is v => cases h
  | br m s g => cases h; simp only [gone, if_pos, ht]; omega
/-- all names of p are at most n -/
def LeN (p : Pap) (n : Nm) : Prop := ∀ m ∈ p.names, m = n ∨ nlt m n = true
def LtN (p : Pap) (n : Nm) : Prop := ∀ m ∈ p.names, nlt m n = true
theorem Ordd.top_le {p : Pap} (h : p.Ordd) {n m : Nm} (ht : p.top = some m) (hl : m = n ∨ nlt m n = true) : p.LeN n := by
  cases p with
  | is v => cases ht
  | br a s g =>
    cases ht
    obtain ⟨_, _, h3, h4⟩ := h
    intro x hx
    simp only [names, List.mem_cons, List.mem_append] at hx
    rcases hx with rfl | hx | hx
    · exact hl
    · exact .inr (hl.elim (fun e => e ▸ h3 x hx) (nlt_trans (h3 x hx)))
    · exact .inr (hl.elim (fun e => e ▸ h4 x hx) (nlt_trans (h4 x hx)))
theorem stands_ok {p : Pap} (h : p.Ordd) {n : Nm} (hl : p.LeN n) : (p.stands n).Ordd ∧ (p.stands n).LtN n ∧ (∀ c, n ∉ c → (p.stands n).read c = p.read c) ∧ (∀ m ∈ (p.stands n).names, m ∈ p.names) ∧ ∀ v ∈ (p.stands n).vals, v ∈ p.vals := by
  cases p with
  | is v => exact ⟨trivial, fun m hm => by simp [stands, names] at hm, fun c _ => rfl, fun m hm => hm, fun v hv => hv⟩
  | br m s g =>
    obtain ⟨h1, h2, h3, h4⟩ := h
    by_cases e : m = n
    · subst e
      simp only [stands, if_true]
      refine ⟨h1, h3, fun c hc => by simp [read, hc], fun x hx => by simp [names, hx], fun v hv => by simp [vals, hv]⟩
    · simp only [stands, if_neg e]
      refine ⟨⟨h1, h2, h3, h4⟩, fun x hx => ?_, fun _ _ => trivial, fun x hx => hx, fun v hv => hv⟩
      rcases hl x hx with rfl | q
      · exfalso
        simp only [names, List.mem_cons, List.mem_append] at hx
        have hm := (hl m (by simp [names])).resolve_left e
        rcases hx with rfl | hx | hx
        · exact e rfl
        · exact absurd (nlt_asym (h3 x hx)) (by rw [hm]; exact fun z => nomatch z)
        · exact absurd (nlt_asym (h4 x hx)) (by rw [hm]; exact fun z => nomatch z)
      · exact q
theorem gone_ok {p : Pap} (h : p.Ordd) {n : Nm} (hl : p.LeN n) : (p.gone n).Ordd ∧ (p.gone n).LtN n ∧ (∀ c, n ∈ c → (p.gone n).read c = p.read c) ∧ (∀ m ∈ (p.gone n).names, m ∈ p.names) ∧ ∀ v ∈ (p.gone n).vals, v ∈ p.vals := by
  cases p with
  | is v => exact ⟨trivial, fun m hm => by simp [gone, names] at hm, fun c _ => rfl, fun m hm => hm, fun v hv => hv⟩
  | br m s g =>
    obtain ⟨h1, h2, h3, h4⟩ := h
    by_cases e : m = n
    · subst e
      simp only [gone, if_true]
      refine ⟨h2, h4, fun c hc => by simp [read, hc], fun x hx => by simp [names, hx], fun v hv => by simp [vals, hv]⟩
    · simp only [gone, if_neg e]
      refine ⟨⟨h1, h2, h3, h4⟩, fun x hx => ?_, fun _ _ => trivial, fun x hx => hx, fun v hv => hv⟩
      rcases hl x hx with rfl | q
      · exfalso
        simp only [names, List.mem_cons, List.mem_append] at hx
        have hm := (hl m (by simp [names])).resolve_left e
        rcases hx with rfl | hx | hx
        · exact e rfl
        · exact absurd (nlt_asym (h3 x hx)) (by rw [hm]; exact fun z => nomatch z)
        · exact absurd (nlt_asym (h4 x hx)) (by rw [hm]; exact fun z => nomatch z)
      · exact q
theorem read_drop {p : Pap} {n : Nm} (h : p.LtN n) (c : List Nm) : p.read (c ++ [n]) = p.read c := read_congr fun m hm => by
  have := nlt_ne (h m hm)
  simp [this]
theorem read_cons {p : Pap} {n : Nm} (h : p.LtN n) (c : List Nm) : p.read (n :: c) = p.read c := read_congr fun m hm => by
  have := nlt_ne (h m hm)
  simp [this]
end Pap

/-! ### crossing, fall -/
def CrossOk (l u : Pap) : Option (List Nm) → Prop
  | none => ∀ c, l.read c = some 0 → u.read c = some 1 → False
  | some c => Asc c ∧ (∀ m ∈ c, m ∈ l.names ∨ m ∈ u.names) ∧ l.read c = some 0 ∧ u.read c = some 1
theorem asc_snoc {c : List Nm} {n : Nm} (h : Asc c) (k : ∀ m ∈ c, nlt m n = true) : Asc (c ++ [n]) := by
  refine List.pairwise_append.mpr ⟨h, List.pairwise_singleton _ _, fun a ha b hb => ?_⟩
  rw [List.mem_singleton.mp hb]
  exact k a ha
theorem cross_trivial {l u : Pap} (h : l = u ∨ l = .is (some 1) ∨ u = .is (some 0)) : CrossOk l u none := by
  intro c h1 h2
  rcases h with rfl | rfl | rfl
  · rw [h1] at h2; cases h2
  · cases h1
  · cases h2
theorem cross_ends {l u : Pap} (hl : l.Bin) (hu : u.Bin) (tl : l.top = none) (tu : u.top = none) (h1 : l ≠ u) (h2 : l ≠ .is (some 1)) (h3 : u ≠ .is (some 0)) : CrossOk l u (some []) := by
  cases l with
  | br => cases tl
  | is v =>
    cases u with
    | br => cases tu
    | is w =>
      refine ⟨List.Pairwise.nil, fun m hm => by simp at hm, ?_, ?_⟩
      · rcases hl v (by simp [Pap.vals]) with rfl | rfl
        · rfl
        · exact absurd rfl h2
      · rcases hu w (by simp [Pap.vals]) with rfl | rfl
        · exact absurd rfl h3
        · rfl
theorem cross_stands {l u : Pap} {n : Nm} (ol : l.Ordd) (ou : u.Ordd) (ll : l.LeN n) (lu : u.LeN n) {c : List Nm} (h : CrossOk (l.stands n) (u.stands n) (some c)) : CrossOk l u (some c) := by
  obtain ⟨a1, a2, a3, a4, _⟩ := Pap.stands_ok ol ll
  obtain ⟨b1, b2, b3, b4, _⟩ := Pap.stands_ok ou lu
  obtain ⟨h1, h2, h3, h4⟩ := h
  have hn : n ∉ c := fun hc => by
    rcases h2 n hc with q | q
    · exact nlt_ne (a2 n q) rfl
    · exact nlt_ne (b2 n q) rfl
  exact ⟨h1, fun m hm => (h2 m hm).elim (fun q => .inl (a4 m q)) (fun q => .inr (b4 m q)), by rw [← a3 c hn]; exact h3, by rw [← b3 c hn]; exact h4⟩
theorem cross_gone {l u : Pap} {n : Nm} (ol : l.Ordd) (ou : u.Ordd) (ll : l.LeN n) (lu : u.LeN n) (hn : n ∈ l.names ∨ n ∈ u.names) {c : List Nm} (h : CrossOk (l.gone n) (u.gone n) (some c)) : CrossOk l u (some (c ++ [n])) := by
  obtain ⟨a1, a2, a3, a4, _⟩ := Pap.gone_ok ol ll
  obtain ⟨b1, b2, b3, b4, _⟩ := Pap.gone_ok ou lu
  obtain ⟨h1, h2, h3, h4⟩ := h
  refine ⟨asc_snoc h1 fun m hm => (h2 m hm).elim (a2 m) (b2 m), fun m hm => ?_, ?_, ?_⟩
  · rcases List.mem_append.mp hm with hm | hm
    · exact (h2 m hm).elim (fun q => .inl (a4 m q)) (fun q => .inr (b4 m q))
    · rw [List.mem_singleton.mp hm]; exact hn
  · rw [← a3 _ (by simp), Pap.read_drop a2]; exact h3
  · rw [← b3 _ (by simp), Pap.read_drop b2]; exact h4
theorem cross_none {l u : Pap} {n : Nm} (ol : l.Ordd) (ou : u.Ordd) (ll : l.LeN n) (lu : u.LeN n) (h : CrossOk (l.stands n) (u.stands n) none) (k : CrossOk (l.gone n) (u.gone n) none) : CrossOk l u none := by
  obtain ⟨_, _, a3, _⟩ := Pap.stands_ok ol ll
  obtain ⟨_, _, b3, _⟩ := Pap.stands_ok ou lu
  obtain ⟨_, _, a5, _⟩ := Pap.gone_ok ol ll
  obtain ⟨_, _, b5, _⟩ := Pap.gone_ok ou lu
  intro c h1 h2
  by_cases hc : n ∈ c
  · exact k c (by rw [a5 c hc]; exact h1) (by rw [b5 c hc]; exact h2)
  · exact h c (by rw [a3 c hc]; exact h1) (by rw [b3 c hc]; exact h2)
/-- no added name turns 0 into 1 -/
def Rising (p : Pap) : Prop := ∀ c n, n ∉ c → p.read c = some 0 → p.read (c ++ [n]) = some 1 → False
def FallOk (p : Pap) : Option (List Nm × Nm) → Prop
  | none => Rising p
  | some (c, n) => Asc c ∧ (∀ m ∈ c, m ∈ p.names) ∧ n ∈ p.names ∧ n ∉ c ∧ p.read c = some 0 ∧ p.read (c ++ [n]) = some 1
theorem fall_end {v : Option Int} : FallOk (.is v) none := fun c n _ h1 h2 => by
  simp only [Pap.read] at h1 h2
  rw [h1] at h2; cases h2
theorem fall_cross {n : Nm} {s g : Pap} (h : (Pap.br n s g).Ordd) {c : List Nm} (k : CrossOk s g (some c)) : FallOk (.br n s g) (some (c, n)) := by
  obtain ⟨h1, h2, h3, h4⟩ := h
  obtain ⟨k1, k2, k3, k4⟩ := k
  have hn : n ∉ c := fun hc => (k2 n hc).elim (fun q => nlt_ne (h3 n q) rfl) (fun q => nlt_ne (h4 n q) rfl)
  refine ⟨k1, fun m hm => ?_, by simp [Pap.names], hn, ?_, ?_⟩
  · rcases k2 m hm with q | q <;> simp [Pap.names, q]
  · simp only [Pap.read, if_neg hn]; exact k3
  · simp only [Pap.read]
    rw [if_pos (by simp), Pap.read_drop h4]; exact k4
theorem fall_stands {n : Nm} {s g : Pap} (h : (Pap.br n s g).Ordd) {c : List Nm} {m : Nm} (k : FallOk s (some (c, m))) : FallOk (.br n s g) (some (c, m)) := by
  obtain ⟨h1, h2, h3, h4⟩ := h
  obtain ⟨k1, k2, k3, k4, k5, k6⟩ := k
  have hn : n ∉ c := fun hc => nlt_ne (h3 n (k2 n hc)) rfl
  have hm : n ∉ c ++ [m] := fun hc => by
    rcases List.mem_append.mp hc with q | q
    · exact hn q
    · rw [List.mem_singleton.mp q] at h3
      exact nlt_ne (h3 m k3) rfl
  refine ⟨k1, fun x hx => by simp [Pap.names, k2 x hx], by simp [Pap.names, k3], k4, ?_, ?_⟩
  · simp only [Pap.read, if_neg hn]; exact k5
  · simp only [Pap.read, if_neg hm]; exact k6
theorem fall_gone {n : Nm} {s g : Pap} (h : (Pap.br n s g).Ordd) {c : List Nm} {m : Nm} (k : FallOk g (some (c, m))) : FallOk (.br n s g) (some (c ++ [n], m)) := by
  obtain ⟨h1, h2, h3, h4⟩ := h
  obtain ⟨k1, k2, k3, k4, k5, k6⟩ := k
  have hmn : m ≠ n := nlt_ne (h4 m k3)
  refine ⟨asc_snoc k1 fun x hx => h4 x (k2 x hx), fun x hx => ?_, by simp [Pap.names, k3], ?_, ?_, ?_⟩
  · rcases List.mem_append.mp hx with q | q
    · simp [Pap.names, k2 x q]
    · simp [Pap.names, List.mem_singleton.mp q]
  · simp [k4, hmn]
  · simp only [Pap.read]
    rw [if_pos (by simp), Pap.read_drop h4]; exact k5
  · simp only [Pap.read]
    rw [if_pos (by simp), ← k6]
    exact Pap.read_congr fun x hx => by
      have := nlt_ne (h4 x hx)
      simp [this]
theorem fall_none {n : Nm} {s g : Pap} (h : (Pap.br n s g).Ordd) (k : CrossOk s g none) (ks : FallOk s none) (kg : FallOk g none) : FallOk (.br n s g) none := by
  obtain ⟨h1, h2, h3, h4⟩ := h
  intro c m hm r1 r2
  simp only [Pap.read] at r1 r2
  by_cases e : m = n
  · subst e
    rw [if_neg hm] at r1
    rw [if_pos (by simp), Pap.read_drop h4] at r2
    exact k c r1 r2
  · by_cases hc : n ∈ c
    · rw [if_pos hc] at r1
      rw [if_pos (by simp [hc])] at r2
      exact kg c m hm r1 r2
    · rw [if_neg hc] at r1
      rw [if_neg (by simp [hc, Ne.symm e])] at r2
      exact ks c m hm r1 r2
end Mx

set_option Elab.async false
set_option linter.all false
set_option autoImplicit false
set_option maxRecDepth 100000
/-! Mx, part B: folding papers from readings; rising bits -/
namespace Mx
open PySem

def halve (n : Nm) : List Pap → List Pap
  | a :: b :: r => (if a = b then a else .br n a b) :: halve n r
  | _ => []
theorem halve_len (n : Nm) : ∀ (m : Nat) (r : List Pap), r.length = 2 * m → (halve n r).length = m
  | 0, [], _ => rfl
  | m + 1, a :: b :: r, h => by
    have := halve_len n m r (by simp at h; omega)
    simp [halve, this]
  | 0, _ :: _, h => by simp at h
  | m + 1, [], h => by simp at h
  | m + 1, [_], h => by simp at h; omega
theorem halve_get (n : Nm) : ∀ (k : Nat) (r : List Pap) (a b : Pap), r[2 * k]? = some a → r[2 * k + 1]? = some b → (halve n r)[k]? = some (if a = b then a else .br n a b)
  | 0, a :: b :: r, _, _, h1, h2 => by
    simp at h1 h2
    subst h1 h2
    simp [halve]
  | k + 1, _ :: _ :: r, a, b, h1, h2 => by
    have := halve_get n k r a b (by simpa [Nat.mul_add] using h1) (by simpa [Nat.mul_add] using h2)
    simpa [halve] using this
  | 0, [], _, _, h1, _ => by simp at h1
  | 0, [_], _, _, _, h2 => by simp at h2
  | k + 1, [], _, _, h1, _ => by simp at h1
  | k + 1, [_], _, _, h1, _ => by simp [Nat.mul_add] at h1
def idx : List Nm → List Nm → Nat
  | [], _ => 0
  | n :: ns, c => (if n ∈ c then 1 else 0) + 2 * idx ns c
theorem idx_lt (c : List Nm) : ∀ ns : List Nm, idx ns c < 2 ^ ns.length
  | [] => by simp [idx]
  | n :: ns => by
    have := idx_lt c ns
    simp only [idx, List.length_cons, Nat.pow_succ]
    split <;> omega
def foldP (ns : List Nm) (r : List Pap) : List Pap := ns.foldl (fun r n => halve n r) r
theorem foldP_cons (n : Nm) (ns : List Nm) (r : List Pap) : foldP (n :: ns) r = foldP ns (halve n r) := rfl
theorem read_join (n : Nm) (a b : Pap) (c : List Nm) : (if a = b then a else Pap.br n a b).read c = (if n ∈ c then b else a).read c := by
  by_cases e : a = b
  · subst e; simp
  · rw [if_neg e]
    simp only [Pap.read]
    split <;> rfl
theorem foldP_read (c : List Nm) : ∀ (ns : List Nm) (r : List Pap), r.length = 2 ^ ns.length → ∃ p q, foldP ns r = [p] ∧ r[idx ns c]? = some q ∧ p.read c = q.read c
  | [], r, h => by
    match r, h with
    | [p], _ => exact ⟨p, p, rfl, rfl, rfl⟩
  | n :: ns, r, h => by
    have hl : (halve n r).length = 2 ^ ns.length := halve_len n _ r (by rw [h, List.length_cons, Nat.pow_succ]; omega)
    obtain ⟨p, q, h1, h2, h3⟩ := foldP_read c ns (halve n r) hl
    have hi := idx_lt c ns
    have hr : r.length = 2 * 2 ^ ns.length := by rw [h, List.length_cons, Nat.pow_succ]; omega
    have ga : r[2 * idx ns c]? = some r[2 * idx ns c] := List.getElem?_eq_getElem (by omega)
    have gb : r[2 * idx ns c + 1]? = some r[2 * idx ns c + 1] := List.getElem?_eq_getElem (by omega)
    generalize r[2 * idx ns c] = a at ga
    generalize r[2 * idx ns c + 1] = b at gb
    have := halve_get n _ r a b ga gb
    rw [h2] at this
    cases this
    refine ⟨p, if n ∈ c then b else a, h1, ?_, by rw [h3, read_join]⟩
    simp only [idx]
    by_cases hc : n ∈ c
    · simp only [hc, if_true]; rw [Nat.add_comm]; exact gb
    · simp only [hc, if_false]; rw [Nat.zero_add]; exact ga
/-- what a row is made of -/
structure RowOk (seen : List Nm) (vs : List (Option Int)) (h : Nat) (r : List Pap) : Prop where
  ordd : ∀ p ∈ r, p.Ordd
  names : ∀ p ∈ r, ∀ m ∈ p.names, m ∈ seen
  vals : ∀ p ∈ r, ∀ v ∈ p.vals, v ∈ vs
  ht : ∀ p ∈ r, p.ht ≤ h
theorem RowOk.tail {seen : List Nm} {vs : List (Option Int)} {h : Nat} {a : Pap} {r : List Pap} (k : RowOk seen vs h (a :: r)) : RowOk seen vs h r :=
  ⟨fun p hp => k.ordd p (.tail _ hp), fun p hp => k.names p (.tail _ hp), fun p hp => k.vals p (.tail _ hp), fun p hp => k.ht p (.tail _ hp)⟩
theorem RowOk.cons {seen : List Nm} {vs : List (Option Int)} {h : Nat} {a : Pap} {r : List Pap} (k : RowOk seen vs h r) (h1 : a.Ordd) (h2 : ∀ m ∈ a.names, m ∈ seen) (h3 : ∀ v ∈ a.vals, v ∈ vs) (h4 : a.ht ≤ h) : RowOk seen vs h (a :: r) :=
  ⟨fun p hp => (List.mem_cons.mp hp).elim (fun e => e ▸ h1) (k.ordd p), fun p hp => (List.mem_cons.mp hp).elim (fun e => e ▸ h2) (k.names p), fun p hp => (List.mem_cons.mp hp).elim (fun e => e ▸ h3) (k.vals p), fun p hp => (List.mem_cons.mp hp).elim (fun e => e ▸ h4) (k.ht p)⟩
theorem RowOk.halve {seen : List Nm} {vs : List (Option Int)} {h : Nat} {n : Nm} (hn : ∀ m ∈ seen, nlt m n = true) : ∀ {r : List Pap}, RowOk seen vs h r → RowOk (seen ++ [n]) vs (h + 1) (halve n r)
  | [], _ => ⟨fun p hp => by simp [Mx.halve] at hp, fun p hp => by simp [Mx.halve] at hp, fun p hp => by simp [Mx.halve] at hp, fun p hp => by simp [Mx.halve] at hp⟩
  | [_], _ => ⟨fun p hp => by simp [Mx.halve] at hp, fun p hp => by simp [Mx.halve] at hp, fun p hp => by simp [Mx.halve] at hp, fun p hp => by simp [Mx.halve] at hp⟩
  | a :: b :: r, k => by
    have ih := RowOk.halve hn (r := r) k.tail.tail
    have ha : a ∈ a :: b :: r := by simp
    have hb : b ∈ a :: b :: r := by simp
    have ha4 := k.ht a ha
    have hb4 := k.ht b hb
    simp only [Mx.halve]
    by_cases e : a = b
    · rw [if_pos e]
      exact ih.cons (k.ordd a ha) (fun m hm => List.mem_append_left _ (k.names a ha m hm)) (k.vals a ha) (by omega)
    · rw [if_neg e]
      refine ih.cons ⟨k.ordd a ha, k.ordd b hb, fun m hm => hn m (k.names a ha m hm), fun m hm => hn m (k.names b hb m hm)⟩ (fun m hm => ?_) (fun v hv => ?_) (by simp only [Pap.ht]; omega)
      · simp only [Pap.names, List.mem_cons, List.mem_append] at hm
        rcases hm with rfl | hm | hm
        · simp
        · exact List.mem_append_left _ (k.names a ha m hm)
        · exact List.mem_append_left _ (k.names b hb m hm)
      · simp only [Pap.vals, List.mem_append] at hv
        exact hv.elim (k.vals a ha v) (k.vals b hb v)
theorem foldP_ok {vs : List (Option Int)} : ∀ (ns : List Nm) (seen : List Nm) (h : Nat) (r : List Pap), Asc (seen ++ ns) → RowOk seen vs h r → RowOk (seen ++ ns) vs (h + ns.length) (foldP ns r)
  | [], seen, h, r, _, k => by rw [List.append_nil]; exact k
  | n :: ns, seen, h, r, ha, k => by
    have hn : ∀ m ∈ seen, nlt m n = true := fun m hm => (List.pairwise_append.mp ha).2.2 m hm n (by simp)
    have ha' : Asc (seen ++ [n] ++ ns) := by rw [List.append_assoc]; exact ha
    have := foldP_ok ns (seen ++ [n]) (h + 1) (Mx.halve n r) ha' (k.halve hn)
    rw [List.append_assoc] at this
    rw [foldP_cons, List.length_cons, show h + (ns.length + 1) = h + 1 + ns.length from by omega]
    exact this
def isRow (vs : List (Option Int)) : List Pap := vs.map .is
theorem isRow_ok (vs : List (Option Int)) : RowOk [] vs 0 (isRow vs) := by
  refine ⟨fun p hp => ?_, fun p hp => ?_, fun p hp => ?_, fun p hp => ?_⟩ <;>
  · obtain ⟨v, hv, rfl⟩ := List.mem_map.mp hp
    simp [Pap.Ordd, Pap.names, Pap.vals, Pap.ht, hv]
/-- p is the paper of these readings -/
structure PapOf (ns : List Nm) (vs : List (Option Int)) (p : Pap) : Prop where
  ordd : p.Ordd
  names : ∀ m ∈ p.names, m ∈ ns
  vals : ∀ v ∈ p.vals, v ∈ vs
  ht : p.ht ≤ ns.length
  read : ∀ c, vs[idx ns c]? = some (p.read c)
theorem papOf_fold {ns : List Nm} {vs : List (Option Int)} (ha : Asc ns) (hl : vs.length = 2 ^ ns.length) : ∃ p, foldP ns (isRow vs) = [p] ∧ PapOf ns vs p := by
  obtain ⟨p, _, hp, _⟩ := foldP_read [] ns (isRow vs) (by rw [isRow, List.length_map, hl])
  have k := foldP_ok ns [] 0 (isRow vs) ha (isRow_ok vs)
  rw [hp, List.nil_append, Nat.zero_add] at k
  refine ⟨p, hp, ⟨k.ordd p (by simp), k.names p (by simp), k.vals p (by simp), k.ht p (by simp), fun c => ?_⟩⟩
  obtain ⟨p', q, h1, h2, h3⟩ := foldP_read c ns (isRow vs) (by rw [isRow, List.length_map, hl])
  rw [hp] at h1
  cases h1
  unfold isRow at h2
  rw [List.getElem?_map] at h2
  cases e : vs[idx ns c]? with
  | none => rw [e] at h2; cases h2
  | some v =>
    rw [e] at h2
    cases h2
    rw [h3]
    rfl

/-! ### bits of a choice -/
theorem idx_bit : ∀ (ns c : List Nm) (k : Nat) (n : Nm), ns[k]? = some n → (idx ns c).testBit k = decide (n ∈ c)
  | m :: ns, c, 0, n, h => by
    simp at h; subst h
    simp only [idx, Nat.testBit_zero]
    by_cases hc : m ∈ c <;> simp [hc] <;> omega
  | m :: ns, c, k + 1, n, h => by
    have ih := idx_bit ns c k n (by simpa using h)
    simp only [idx, Nat.testBit_succ]
    rw [← ih]
    congr 1
    split <;> omega
  | [], _, _, _, h => by simp at h
theorem idx_high (ns c : List Nm) (k : Nat) (h : ns.length ≤ k) : (idx ns c).testBit k = false :=
  Nat.testBit_lt_two_pow (Nat.lt_of_lt_of_le (idx_lt c ns) (Nat.pow_le_pow_right (by omega) h))
/-- the names left out at a number -/
def pick (ns : List Nm) (x : Nat) : List Nm := match ns with
  | [] => []
  | n :: ns => if x % 2 = 1 then n :: pick ns (x / 2) else pick ns (x / 2)
theorem pick_sub : ∀ (ns : List Nm) (x : Nat) (m : Nm), m ∈ pick ns x → m ∈ ns
  | [], _, _, h => by simp [pick] at h
  | n :: ns, x, m, h => by
    simp only [pick] at h
    split at h
    · rcases List.mem_cons.mp h with rfl | h
      · simp
      · exact .tail _ (pick_sub ns _ m h)
    · exact .tail _ (pick_sub ns _ m h)
theorem mem_pick : ∀ (ns : List Nm) (x k : Nat) (n : Nm), ns.Nodup → ns[k]? = some n → (n ∈ pick ns x ↔ x.testBit k = true)
  | m :: ns, x, 0, n, hd, h => by
    simp at h; subst h
    have hm : m ∉ ns := (List.nodup_cons.mp hd).1
    have hm' : m ∉ pick ns (x / 2) := fun z => hm (pick_sub ns _ m z)
    simp only [pick, Nat.testBit_zero]
    split <;> simp [*]
  | m :: ns, x, k + 1, n, hd, h => by
    have hm : m ∉ ns := (List.nodup_cons.mp hd).1
    have hk : ns[k]? = some n := by simpa using h
    have hn : n ≠ m := fun e => hm (by rw [← e]; exact List.mem_of_getElem? hk)
    have ih := mem_pick ns (x / 2) k n (List.nodup_cons.mp hd).2 hk
    simp only [pick, Nat.testBit_succ]
    split <;> simp [ih, hn]
  | [], _, _, _, _, h => by simp at h
theorem idx_ext {ns : List Nm} {c : List Nm} {x : Nat} (hx : x < 2 ^ ns.length) (h : ∀ k n, ns[k]? = some n → (n ∈ c ↔ x.testBit k = true)) : idx ns c = x := by
  apply Nat.eq_of_testBit_eq
  intro k
  by_cases hk : k < ns.length
  · have e : ns[k]? = some ns[k] := List.getElem?_eq_getElem hk
    rw [idx_bit ns c k _ e]
    have := h k _ e
    cases q : x.testBit k <;> simp [this, q]
  · rw [idx_high ns c k (by omega), Nat.testBit_lt_two_pow (Nat.lt_of_lt_of_le hx (Nat.pow_le_pow_right (by omega) (by omega)))]
theorem asc_nodup {l : List Nm} (h : Asc l) : l.Nodup := List.Pairwise.imp (fun h => nlt_ne h) h
theorem idx_pick {ns : List Nm} {x : Nat} (hd : ns.Nodup) (hx : x < 2 ^ ns.length) : idx ns (pick ns x) = x := idx_ext hx fun k n h => mem_pick ns x k n hd h
theorem nodup_get {ns : List Nm} (hd : ns.Nodup) {i j : Nat} {n : Nm} (hi : ns[i]? = some n) (hj : ns[j]? = some n) : i = j := by
  obtain ⟨h1, e1⟩ := List.getElem?_eq_some_iff.mp hi
  obtain ⟨h2, e2⟩ := List.getElem?_eq_some_iff.mp hj
  exact (List.getElem_inj hd (h₀ := h1) (h₁ := h2)).mp (e1.trans e2.symm)
theorem idx_add {ns : List Nm} (hd : ns.Nodup) {c : List Nm} {k : Nat} {n : Nm} (h : ns[k]? = some n) : idx ns (c ++ [n]) = idx ns c ||| 1 <<< k := by
  have hk := (List.getElem?_eq_some_iff.mp h).1
  refine idx_ext ?_ fun j m hj => ?_
  · refine Nat.or_lt_two_pow (idx_lt c ns) ?_
    rw [Nat.one_shiftLeft]
    exact Nat.pow_lt_pow_right (by omega) hk
  · rw [Nat.testBit_or, Nat.one_shiftLeft, Nat.testBit_two_pow, idx_bit ns c j m hj]
    simp only [List.mem_append, List.mem_singleton, Bool.or_eq_true, decide_eq_true_eq]
    constructor
    · rintro (h1 | rfl)
      · exact .inl h1
      · exact .inr (nodup_get hd h hj)
    · rintro (h1 | rfl)
      · exact .inl h1
      · rw [h] at hj; cases hj; exact .inr rfl
/-- the readings rise -/
def RisingV (m : Nat) (vs : List (Option Int)) : Prop := ∀ x k : Nat, x < vs.length → k < m → x.testBit k = false → vs[x]? = some (some 0) → vs[x ||| 1 <<< k]? = some (some 1) → False
theorem rising_iff {ns : List Nm} {vs : List (Option Int)} {p : Pap} (ha : Asc ns) (hl : vs.length = 2 ^ ns.length) (h : PapOf ns vs p) : Rising p ↔ RisingV ns.length vs := by
  have hd := asc_nodup ha
  constructor
  · intro r x k hx hk hb h0 h1
    have e : ns[k]? = some ns[k] := List.getElem?_eq_getElem hk
    have ip := idx_pick hd (x := x) (by rw [← hl]; exact hx)
    refine r (pick ns x) ns[k] ?_ ?_ ?_
    · rw [mem_pick ns x k _ hd e, hb]; exact fun z => nomatch z
    · have := h.read (pick ns x)
      rw [ip, h0] at this
      exact (Option.some.inj this).symm
    · have := h.read (pick ns x ++ [ns[k]])
      rw [idx_add hd e, ip, h1] at this
      exact (Option.some.inj this).symm
  · intro r c n hn h0 h1
    by_cases hm : n ∈ ns
    · obtain ⟨k, hk, e⟩ := List.getElem_of_mem hm
      have e' : ns[k]? = some n := by rw [List.getElem?_eq_getElem hk, e]
      refine r (idx ns c) k (by rw [hl]; exact idx_lt c ns) hk ?_ ?_ ?_
      · rw [idx_bit ns c k n e']; simpa using hn
      · rw [h.read c, h0]
      · rw [← idx_add hd e', h.read, h1]
    · have : p.read (c ++ [n]) = p.read c := Pap.read_congr fun m hp => by
        have : m ≠ n := fun z => hm (z ▸ h.names m hp)
        simp [this]
      rw [this, h0] at h1
      cases h1
theorem PapOf.bin {ns : List Nm} {vs : List (Option Int)} {p : Pap} (h : PapOf ns vs p) (hb : ∀ v ∈ vs, v = some 0 ∨ v = some 1) : p.Bin := fun v hv => hb v (h.vals v hv)
end Mx

set_option Elab.async false
set_option linter.all false
set_option autoImplicit false
set_option maxRecDepth 100000
/-! Mx, part C: chains -/
namespace Mx
open PySem
/-- what folding names over a start keeps -/
structure GrowOk (lo : List Nm) (vs : List (Option Int)) (h : Nat) (p : Pap) : Prop where
  ordd : p.Ordd
  names : ∀ m ∈ p.names, m ∈ lo
  vals : ∀ v ∈ p.vals, v ∈ vs
  ht : p.ht ≤ h
theorem GrowOk.is {vs : List (Option Int)} {v : Option Int} (h : v ∈ vs) : GrowOk [] vs 0 (.is v) := ⟨trivial, fun m hm => by simp [Pap.names] at hm, fun u hu => by simp [Pap.vals] at hu; rw [hu]; exact h, Nat.le_refl _⟩
theorem GrowOk.brL {lo : List Nm} {vs : List (Option Int)} {h : Nat} {p : Pap} (g : GrowOk lo vs h p) {n : Nm} (hn : ∀ m ∈ lo, nlt m n = true) {v : Option Int} (hv : v ∈ vs) : GrowOk (lo ++ [n]) vs (h + 1) (.br n p (.is v)) := by
  have := g.ht
  refine ⟨⟨g.ordd, trivial, fun m hm => hn m (g.names m hm), fun m hm => by simp [Pap.names] at hm⟩, fun m hm => ?_, fun u hu => ?_, by simp only [Pap.ht]; omega⟩
  · simp only [Pap.names, List.append_nil, List.mem_cons] at hm
    rcases hm with rfl | hm
    · simp
    · exact List.mem_append_left _ (g.names m hm)
  · simp only [Pap.vals, List.mem_append, List.mem_singleton] at hu
    rcases hu with hu | rfl
    · exact g.vals u hu
    · exact hv
theorem GrowOk.brR {lo : List Nm} {vs : List (Option Int)} {h : Nat} {p : Pap} (g : GrowOk lo vs h p) {n : Nm} (hn : ∀ m ∈ lo, nlt m n = true) {v : Option Int} (hv : v ∈ vs) : GrowOk (lo ++ [n]) vs (h + 1) (.br n (.is v) p) := by
  have := g.ht
  refine ⟨⟨trivial, g.ordd, fun m hm => by simp [Pap.names] at hm, fun m hm => hn m (g.names m hm)⟩, fun m hm => ?_, fun u hu => ?_, by simp only [Pap.ht]; omega⟩
  · simp only [Pap.names, List.nil_append, List.mem_cons] at hm
    rcases hm with rfl | hm
    · simp
    · exact List.mem_append_left _ (g.names m hm)
  · simp only [Pap.vals, List.mem_append, List.mem_singleton] at hu
    rcases hu with rfl | hu
    · exact hv
    · exact g.vals u hu
theorem grow {vs : List (Option Int)} {f : Pap → Nm → Pap} (hf : ∀ lo h p n, GrowOk lo vs h p → (∀ m ∈ lo, nlt m n = true) → GrowOk (lo ++ [n]) vs (h + 1) (f p n)) : ∀ (ns lo : List Nm) (h : Nat) (p : Pap), Asc (lo ++ ns) → GrowOk lo vs h p → GrowOk (lo ++ ns) vs (h + ns.length) (ns.foldl f p)
  | [], lo, h, p, _, g => by rw [List.append_nil]; exact g
  | n :: ns, lo, h, p, ha, g => by
    have hn : ∀ m ∈ lo, nlt m n = true := fun m hm => (List.pairwise_append.mp ha).2.2 m hm n (by simp)
    have := grow hf ns (lo ++ [n]) (h + 1) (f p n) (by rw [List.append_assoc]; exact ha) (hf lo h p n g hn)
    rw [List.append_assoc] at this
    rw [List.foldl_cons, List.length_cons, show h + (ns.length + 1) = h + 1 + ns.length from by omega]
    exact this
def chainP (ns : List Nm) (h l : Option Int) : Pap := ns.foldl (fun p n => .br n p (.is l)) (.is h)
def branchP (ns : List Nm) (h l : Option Int) : Pap := ns.foldl (fun p n => .br n (.is h) p) (.is l)
theorem chain_ok {ns : List Nm} (ha : Asc ns) (h l : Option Int) : GrowOk ns [h, l] ns.length (chainP ns h l) := by
  have := grow (vs := [h, l]) (f := fun p n => .br n p (.is l)) (fun lo h p n g hn => g.brL hn (by simp)) ns [] 0 (.is h) ha (.is (by simp))
  rwa [List.nil_append, Nat.zero_add] at this
theorem branch_ok {ns : List Nm} (ha : Asc ns) (h l : Option Int) : GrowOk ns [h, l] ns.length (branchP ns h l) := by
  have := grow (vs := [h, l]) (f := fun p n => .br n (.is h) p) (fun lo _ p n g hn => g.brR hn (by simp)) ns [] 0 (.is l) ha (.is (by simp))
  rwa [List.nil_append, Nat.zero_add] at this
theorem chain_fold_read (l : Option Int) (c : List Nm) : ∀ (ns : List Nm) (p : Pap), (ns.foldl (fun p n => Pap.br n p (.is l)) p).read c = if ∃ n ∈ ns, n ∈ c then l else p.read c
  | [], p => by simp
  | a :: ns, p => by
    rw [List.foldl_cons, chain_fold_read l c ns]
    simp only [Pap.read]
    by_cases h1 : ∃ n ∈ ns, n ∈ c
    · rw [if_pos h1, if_pos (by obtain ⟨n, h, k⟩ := h1; exact ⟨n, .tail _ h, k⟩)]
    · rw [if_neg h1]
      by_cases h2 : a ∈ c
      · rw [if_pos h2, if_pos ⟨a, by simp, h2⟩]
      · rw [if_neg h2, if_neg]
        rintro ⟨n, h, k⟩
        rcases List.mem_cons.mp h with rfl | h
        · exact h2 k
        · exact h1 ⟨n, h, k⟩
theorem branch_fold_read (h : Option Int) (c : List Nm) : ∀ (ns : List Nm) (p : Pap), (ns.foldl (fun p n => Pap.br n (.is h) p) p).read c = if ∃ n ∈ ns, n ∉ c then h else p.read c
  | [], p => by simp
  | a :: ns, p => by
    rw [List.foldl_cons, branch_fold_read h c ns]
    simp only [Pap.read]
    by_cases h1 : ∃ n ∈ ns, n ∉ c
    · rw [if_pos h1, if_pos (by obtain ⟨n, h, k⟩ := h1; exact ⟨n, .tail _ h, k⟩)]
    · rw [if_neg h1]
      by_cases h2 : a ∈ c
      · rw [if_pos h2, if_neg]
        rintro ⟨n, h, k⟩
        rcases List.mem_cons.mp h with rfl | h
        · exact k h2
        · exact h1 ⟨n, h, k⟩
      · rw [if_neg h2, if_pos ⟨a, by simp, h2⟩]
theorem chain_read (ns : List Nm) (h l : Option Int) (c : List Nm) : (chainP ns h l).read c = if ∃ n ∈ ns, n ∈ c then l else h := chain_fold_read l c ns _
theorem branch_read (ns : List Nm) (h l : Option Int) (c : List Nm) : (branchP ns h l).read c = if ∃ n ∈ ns, n ∉ c then h else l := branch_fold_read h c ns _
theorem chain_rises (ns : List Nm) : Rising (chainP ns (some 1) (some 0)) := by
  intro c n hn h1 h2
  rw [chain_read] at h1 h2
  split at h1
  · rename_i q
    rw [if_pos (by obtain ⟨m, a, b⟩ := q; exact ⟨m, a, by simp [b]⟩)] at h2
    cases h2
  · cases h1
theorem branch_rises (ns : List Nm) : Rising (branchP ns (some 1) (some 0)) := by
  intro c n hn h1 h2
  rw [branch_read] at h1 h2
  split at h1
  · cases h1
  · rename_i q
    rw [if_neg (by rintro ⟨m, a, b⟩; exact q ⟨m, a, fun z => b (by simp [z])⟩)] at h2
    cases h2
theorem chain_falls (a : Nm) (ns : List Nm) : ¬ Rising (chainP (a :: ns) (some 0) (some 1)) := by
  intro r
  refine r [] a (by simp) ?_ ?_
  · rw [chain_read]; simp
  · rw [chain_read]; simp
theorem branch_falls {a : Nm} {ns : List Nm} (hd : (a :: ns).Nodup) : ¬ Rising (branchP (a :: ns) (some 0) (some 1)) := by
  intro r
  have ha := (List.nodup_cons.mp hd).1
  refine r ns a ha ?_ ?_
  · rw [branch_read, if_pos ⟨a, by simp, ha⟩]
  · rw [branch_read, if_neg]
    rintro ⟨n, h, k⟩
    rcases List.mem_cons.mp h with rfl | h
    · exact k (by simp)
    · exact k (by simp [h])
open Classical in
/-- the steep paper behind k turns -/
structure SteepOk (ns : List Nm) (at_ k : Nat) (p : Pap) : Prop where
  ok : GrowOk (ns.take k) [some 0, some 1] k p
  read : ∀ c, p.read c = if (∀ j n, j < k → ns[j]? = some n → (n ∈ c ↔ j = at_)) then some 1 else some 0
open Classical in
/-- the wide paper behind k turns -/
structure WideOk (ns : List Nm) (at_ k : Nat) (p : Pap) : Prop where
  ok : GrowOk (ns.take k) [some 0, some 1] k p
  read : ∀ c, p.read c = if (∀ j n, j < k → ns[j]? = some n → (n ∈ c ↔ j ≠ at_)) then some 0 else some 1
theorem take_lt {ns : List Nm} (ha : Asc ns) {k : Nat} {a : Nm} (h : ns[k]? = some a) : ∀ m ∈ ns.take k, nlt m a = true := fun m hm => by
  obtain ⟨j, hj, e⟩ := List.getElem_of_mem hm
  have hk := List.getElem?_eq_some_iff.mp h
  rw [List.getElem_take] at e
  rw [List.length_take] at hj
  rw [← e, ← hk.2]
  exact List.pairwise_iff_getElem.mp ha j k (by omega) hk.1 (by omega)
theorem take_snoc {ns : List Nm} {k : Nat} {a : Nm} (h : ns[k]? = some a) : ns.take (k + 1) = ns.take k ++ [a] := by rw [List.take_add_one, h]; rfl
theorem all_succ {P : Nat → Nm → Prop} {ns : List Nm} {k : Nat} {a : Nm} (h : ns[k]? = some a) : (∀ j n, j < k + 1 → ns[j]? = some n → P j n) ↔ (∀ j n, j < k → ns[j]? = some n → P j n) ∧ P k a := by
  constructor
  · exact fun q => ⟨fun j n hj => q j n (by omega), q k a (by omega) h⟩
  · rintro ⟨q1, q2⟩ j n hj hn
    by_cases e : j = k
    · subst e; rw [h] at hn; cases hn; exact q2
    · exact q1 j n (by omega) hn
theorem steep0 (ns : List Nm) (at_ : Nat) : SteepOk ns at_ 0 (.is (some 1)) := ⟨.is (by simp), fun c => by rw [if_pos (fun j n h => by omega)]; rfl⟩
theorem wide0 (ns : List Nm) (at_ : Nat) : WideOk ns at_ 0 (.is (some 0)) := ⟨.is (by simp), fun c => by rw [if_pos (fun j n h => by omega)]; rfl⟩
theorem SteepOk.next {ns : List Nm} {at_ k : Nat} {p : Pap} {a : Nm} (ha : Asc ns) (s : SteepOk ns at_ k p) (h : ns[k]? = some a) : SteepOk ns at_ (k + 1) (if k = at_ then .br a (.is (some 0)) p else .br a p (.is (some 0))) := by
  refine ⟨?_, fun c => ?_⟩
  · rw [take_snoc h]
    split
    · exact s.ok.brR (take_lt ha h) (by simp)
    · exact s.ok.brL (take_lt ha h) (by simp)
  · have hs := s.read c
    by_cases e : k = at_
    · rw [if_pos e]
      simp only [Pap.read]
      by_cases hc : a ∈ c
      · rw [if_pos hc, hs]
        by_cases q : ∀ j n, j < k → ns[j]? = some n → (n ∈ c ↔ j = at_)
        · rw [if_pos q, if_pos ((all_succ h).mpr ⟨q, by simp [hc, e]⟩)]
        · rw [if_neg q, if_neg (fun z => q ((all_succ h).mp z).1)]
      · rw [if_neg hc, if_neg (fun z => hc (((all_succ h).mp z).2.mpr e))]
    · rw [if_neg e]
      simp only [Pap.read]
      by_cases hc : a ∈ c
      · rw [if_pos hc, if_neg (fun z => e (((all_succ h).mp z).2.mp hc))]
      · rw [if_neg hc, hs]
        by_cases q : ∀ j n, j < k → ns[j]? = some n → (n ∈ c ↔ j = at_)
        · rw [if_pos q, if_pos ((all_succ h).mpr ⟨q, by simp [hc, e]⟩)]
        · rw [if_neg q, if_neg (fun z => q ((all_succ h).mp z).1)]
theorem WideOk.next {ns : List Nm} {at_ k : Nat} {p : Pap} {a : Nm} (ha : Asc ns) (s : WideOk ns at_ k p) (h : ns[k]? = some a) : WideOk ns at_ (k + 1) (if k = at_ then .br a p (.is (some 1)) else .br a (.is (some 1)) p) := by
  refine ⟨?_, fun c => ?_⟩
  · rw [take_snoc h]
    split
    · exact s.ok.brL (take_lt ha h) (by simp)
    · exact s.ok.brR (take_lt ha h) (by simp)
  · have hs := s.read c
    by_cases e : k = at_
    · rw [if_pos e]
      simp only [Pap.read]
      by_cases hc : a ∈ c
      · rw [if_pos hc, if_neg (fun z => ((all_succ h).mp z).2.mp hc e)]
      · rw [if_neg hc, hs]
        by_cases q : ∀ j n, j < k → ns[j]? = some n → (n ∈ c ↔ j ≠ at_)
        · rw [if_pos q, if_pos ((all_succ h).mpr ⟨q, by simp [hc, e]⟩)]
        · rw [if_neg q, if_neg (fun z => q ((all_succ h).mp z).1)]
    · rw [if_neg e]
      simp only [Pap.read]
      by_cases hc : a ∈ c
      · rw [if_pos hc, hs]
        by_cases q : ∀ j n, j < k → ns[j]? = some n → (n ∈ c ↔ j ≠ at_)
        · rw [if_pos q, if_pos ((all_succ h).mpr ⟨q, by simp [hc, e]⟩)]
        · rw [if_neg q, if_neg (fun z => q ((all_succ h).mp z).1)]
      · rw [if_neg hc, if_neg (fun z => hc (((all_succ h).mp z).2.mpr e))]
theorem SteepOk.falls {ns : List Nm} {at_ : Nat} {p : Pap} (ha : Asc ns) (hat : at_ < ns.length) (s : SteepOk ns at_ ns.length p) : ¬ Rising p := by
  intro r
  have e : ns[at_]? = some ns[at_] := List.getElem?_eq_getElem hat
  have hd := asc_nodup ha
  refine r [] ns[at_] (by simp) ?_ ?_
  · rw [s.read, if_neg]
    intro z
    have := (z at_ _ hat e).mpr rfl
    simp at this
  · rw [s.read, if_pos]
    intro j n hj hn
    rw [List.nil_append, List.mem_singleton]
    constructor
    · intro q; subst q; exact nodup_get hd hn e
    · intro q; subst q; rw [e] at hn; cases hn; rfl
theorem WideOk.falls {ns : List Nm} {at_ : Nat} {p : Pap} (ha : Asc ns) (hat : at_ < ns.length) (s : WideOk ns at_ ns.length p) : ¬ Rising p := by
  intro r
  have e : ns[at_]? = some ns[at_] := List.getElem?_eq_getElem hat
  have hd := asc_nodup ha
  generalize ns[at_] = a at e
  refine r (ns.filter fun n => n ≠ a) a (by simp) ?_ ?_
  · rw [s.read, if_pos]
    intro j n hj hn
    have hm : n ∈ ns := List.mem_of_getElem? hn
    simp only [ne_eq, decide_not, List.mem_filter, hm, Bool.not_eq_true', decide_eq_false_iff_not, true_and]
    constructor
    · intro q z; subst z; rw [e] at hn; cases hn; exact q rfl
    · intro q z; subst z; exact q (nodup_get hd hn e)
  · rw [s.read, if_neg]
    intro z
    have := (z at_ a hat e).mp (by simp)
    exact this rfl
end Mx

set_option Elab.async false
set_option linter.all false
set_option autoImplicit false
set_option maxRecDepth 100000
set_option maxHeartbeats 4000000
namespace Sh
open PySem Tx
section
/-! ## end -/
def t_end : DS :=
      (dRet (dTup (dCons (dC (.str "is")) (dCons (dVar 0) dNil))))
/-! ## _top_name -/
def t__top_name : DS :=
      (dRet (dIf (dTB (dOp rEq (dOp rIx (dVar 0) (dC (.int 0))) (dC (.str "is")))) (dTup dNil) (dOp rIx (dVar 0) (dC (.int 1)))))
/-! ## _branches -/
def t__branches_1 : DS := (dRet (dTup (dCons (dVar 0) (dCons (dVar 0) dNil))))
def t__branches_2 : DS := (dRet (dTup (dCons (dOp rIx (dVar 0) (dC (.int 2))) (dCons (dOp rIx (dVar 0) (dC (.int 3))) dNil))))
def t__branches (sp__top_name : DSp) : DS :=
      (dSeq (dIfS (dTB (dOp rNe (dCall 1 sp__top_name (dCons (dVar 0) dNil)) (dVar 1)))
        t__branches_1
        dNext) t__branches_2)
/-! ## _crossing -/
def t__crossing_1 : DS := (dRet (dC .none))
def t__crossing_2 : DS := (dRet (dTup dNil))
def t__crossing_3 : DS := (dRet (dVar 7))
def t__crossing_4 : DS := (dRet (dTup (dStar (dVar 7) (dCons (dVar 2) dNil))))
def t__crossing_5 : DS := (dRet (dC .none))
def t__crossing_6 : DS := (dSeq (dIfS (dTB (dOp (rIs true) (dVar 7) (dC .none)))
        t__crossing_4
        dNext) t__crossing_5)
def t__crossing_7 (sp__crossing : DSp) : DS := (dSeq (dSet 7 (dCall 2 sp__crossing (dCons (dVar 4) (dCons (dVar 6) dNil)))) t__crossing_6)
def t__crossing_8 (sp__crossing : DSp) : DS := (dSeq (dIfS (dTB (dOp (rIs true) (dVar 7) (dC .none)))
        t__crossing_3
        dNext) (t__crossing_7 sp__crossing))
def t__crossing_9 (sp__crossing : DSp) : DS := (dSeq (dSet 7 (dCall 2 sp__crossing (dCons (dVar 3) (dCons (dVar 5) dNil)))) (t__crossing_8 sp__crossing))
def t__crossing_10 (sp__branches sp__crossing : DSp) : DS := (dSeq (dAsg (dCall 2 sp__branches (dCons (dVar 1) (dCons (dVar 2) dNil))) (gdTup 2 (gdCons (gdName 5) (gdCons (gdName 6) gdNil)))) (t__crossing_9 sp__crossing))
def t__crossing_11 (sp__branches sp__crossing : DSp) : DS := (dSeq (dAsg (dCall 2 sp__branches (dCons (dVar 0) (dCons (dVar 2) dNil))) (gdTup 2 (gdCons (gdName 3) (gdCons (gdName 4) gdNil)))) (t__crossing_10 sp__branches sp__crossing))
def t__crossing_12 (sp__branches sp__crossing : DSp) : DS := (dSeq (dIfS (dtNot (dTru (dVar 2)))
        t__crossing_2
        dNext) (t__crossing_11 sp__branches sp__crossing))
def t__crossing_13 (sp__top_name sp__branches sp__crossing : DSp) : DS := (dSeq (dSet 2 (dCB cMax2 (dCons (dCall 1 sp__top_name (dCons (dVar 0) dNil)) (dCons (dCall 1 sp__top_name (dCons (dVar 1) dNil)) dNil)))) (t__crossing_12 sp__branches sp__crossing))
def t__crossing (sp_end sp__top_name sp__branches sp__crossing : DSp) : DS :=
      (dSeq (dIfS (dtOr (dTB (dOp rEq (dVar 0) (dVar 1))) (dtOr (dTB (dOp rEq (dVar 0) (dCall 1 sp_end (dCons (dC (.int 1)) dNil)))) (dTB (dOp rEq (dVar 1) (dCall 1 sp_end (dCons (dC (.int 0)) dNil))))))
        t__crossing_1
        dNext) (t__crossing_13 sp__top_name sp__branches sp__crossing))
/-! ## fall -/
def t_fall_1 : DS := (dRet (dC .none))
def t_fall_2 : DS := (dRet (dTup (dCons (dVar 5) (dCons (dVar 2) dNil))))
def t_fall_3 : DS := (dRet (dVar 6))
def t_fall_4 : DS := (dRet (dTup (dCons (dTup (dStar (dOp rIx (dVar 6) (dC (.int 0))) (dCons (dVar 2) dNil))) (dCons (dOp rIx (dVar 6) (dC (.int 1))) dNil))))
def t_fall_5 : DS := (dRet (dC .none))
def t_fall_6 : DS := (dSeq (dIfS (dTB (dOp (rIs true) (dVar 6) (dC .none)))
        t_fall_4
        dNext) t_fall_5)
def t_fall_7 (sp_fall : DSp) : DS := (dSeq (dSet 6 (dCall 1 sp_fall (dCons (dVar 4) dNil))) t_fall_6)
def t_fall_8 (sp_fall : DSp) : DS := (dSeq (dIfS (dTB (dOp (rIs true) (dVar 6) (dC .none)))
        t_fall_3
        dNext) (t_fall_7 sp_fall))
def t_fall_9 (sp_fall : DSp) : DS := (dSeq (dSet 6 (dCall 1 sp_fall (dCons (dVar 3) dNil))) (t_fall_8 sp_fall))
def t_fall_10 (sp_fall : DSp) : DS := (dSeq (dIfS (dTB (dOp (rIs true) (dVar 5) (dC .none)))
        t_fall_2
        dNext) (t_fall_9 sp_fall))
def t_fall_11 (sp__crossing sp_fall : DSp) : DS := (dSeq (dSet 5 (dCall 2 sp__crossing (dCons (dVar 3) (dCons (dVar 4) dNil)))) (t_fall_10 sp_fall))
def t_fall_12 (sp__crossing sp_fall : DSp) : DS := (dSeq (dAsg (dVar 0) (gdTup 4 (gdCons (gdName 1) (gdCons (gdName 2) (gdCons (gdName 3) (gdCons (gdName 4) gdNil)))))) (t_fall_11 sp__crossing sp_fall))
def t_fall (sp__crossing sp_fall : DSp) : DS :=
      (dSeq (dIfS (dTB (dOp rEq (dOp rIx (dVar 0) (dC (.int 0))) (dC (.str "is"))))
        t_fall_1
        dNext) (t_fall_12 sp__crossing sp_fall))
/-! ## is_positive -/
def t_is_positive (sp_fall : DSp) : DS :=
      (dRet (dOp (rIs false) (dCall 1 sp_fall (dCons (dVar 0) dNil)) (dC .none)))
/-! ## _law_new_pool -/
def t__law_new_pool_1 : DS := (dDrop (dApp (dVar 1) (dCB cInt (dCons (dVar 2) dNil))))
def t__law_new_pool_2 : DS := (dDrop (dApp (dVar 1) (dC (.int 0))))
def t__law_new_pool_3 : DS := (dRet (dVar 1))
def t__law_new_pool_4 : DS := (dSeq (dIfS (dTB (dOp rEq (dCB cLen (dCons (dVar 1) dNil)) (dC (.int 1))))
        t__law_new_pool_2
        dNext) t__law_new_pool_3)
def t__law_new_pool_5 : DS := (dSeq (dFor (diA (dSl rSl (dVar 0) doNone (doSome (dC (.int 63))))) (gdName 2)
        t__law_new_pool_1) t__law_new_pool_4)
def t__law_new_pool : DS :=
      (dSeq (dSet 1 (dLstM (dCons (dC (.int 0)) dNil))) t__law_new_pool_5)
/-! ## _law_take -/
def t__law_take_1 : DS := (dRet (dVar 3))
def t__law_take_2 : DS := (dSeq (dAsg (dOp rFdiv (dCB cInt (dCons (dOp rIx (dVar 0) (dVar 2)) dNil)) (dVar 1)) (gdSub (dVar 0) (dVar 2) rSetL)) t__law_take_1)
def t__law_take_3 : DS := (dSeq (dSet 3 (dOp rMod (dCB cInt (dCons (dOp rIx (dVar 0) (dVar 2)) dNil)) (dVar 1))) t__law_take_2)
def t__law_take_4 : DS := (dSeq (dAsg (dOp rAdd (dOp rIx (dVar 0) (dC (.int 0))) (dC (.int 1))) (gdSub (dVar 0) (dC (.int 0)) rSetL)) t__law_take_3)
def t__law_take : DS :=
      (dSeq (dSet 2 (dOp rAdd (dC (.int 1)) (dOp rMod (dCB cInt (dCons (dOp rIx (dVar 0) (dC (.int 0))) dNil)) (dOp rSub (dCB cLen (dCons (dVar 0) dNil)) (dC (.int 1)))))) t__law_take_4)
/-! ## _law_new_word -/
def t__law_new_word_1 (sp__law_take : DSp) : DS := (dSet 1 (dOp rAdd (dVar 1) (dOp rIx (dC (.str "abcdefghijklmnopqrstuvwxyz")) (dCall 2 sp__law_take (dCons (dVar 0) (dCons (dC (.int 26)) dNil))))))
def t__law_new_word_2 : DS := (dRet (dVar 1))
def t__law_new_word_3 (sp__law_take : DSp) : DS := (dSeq (dFor (diR1 (dCons (dOp rAdd (dC (.int 2)) (dCall 2 sp__law_take (dCons (dVar 0) (dCons (dC (.int 5)) dNil)))) dNil)) (gdName 2)
        (t__law_new_word_1 sp__law_take)) t__law_new_word_2)
def t__law_new_word (sp__law_take : DSp) : DS :=
      (dSeq (dSet 1 (dC (.str ""))) (t__law_new_word_3 sp__law_take))
/-! ## _law_name_list -/
def t__law_name_list_1 : DS := (dSet 9 (dC (.int 99)))
def t__law_name_list_2 : DS := (dSet 11 (dTup (dCons (dC (.str "A")) (dCons (dVar 4) (dCons (dVar 8) dNil)))))
def t__law_name_list_3 : DS := (dSet 11 (dTup (dCons (dC (.str "A")) (dCons (dVar 9) (dCons (dC (.str "bob")) dNil)))))
def t__law_name_list_4 : DS := (dSet 11 (dTup (dCons (dVar 10) (dCons (dVar 4) (dCons (dC (.str "eve")) dNil)))))
def t__law_name_list_5 : DS := (dIfS (dTB (dOp rEq (dVar 3) (dC (.int 3))))
              t__law_name_list_4
              dNext)
def t__law_name_list_6 : DS := (dIfS (dTB (dOp rEq (dVar 3) (dC (.int 2))))
            t__law_name_list_3
            t__law_name_list_5)
def t__law_name_list_7 : DS := (dDrop (dApp (dVar 5) (dVar 11)))
def t__law_name_list_8 : DS := (dIfS (dTB (dOp (rIn true) (dVar 11) (dVar 5)))
          t__law_name_list_7
          dNext)
def t__law_name_list_9 : DS := (dSeq (dIfS (dTB (dOp rEq (dVar 3) (dC (.int 1))))
          t__law_name_list_2
          t__law_name_list_6) t__law_name_list_8)
def t__law_name_list_10 : DS := (dSeq (dSet 11 (dTup (dCons (dVar 10) (dCons (dVar 9) (dCons (dVar 8) dNil))))) t__law_name_list_9)
def t__law_name_list_11 (sp__law_take : DSp) : DS := (dSeq (dSet 10 (dOp rIx (dC (.str "ABCDEFGH")) (dOp rMod (dCB cInt (dCons (dOp rAdd (dCall 2 sp__law_take (dCons (dVar 0) (dCons (dC (.int 8)) dNil))) (dOp rFdiv (dVar 6) (dC (.int 3)))) dNil)) (dC (.int 8))))) t__law_name_list_10)
def t__law_name_list_12 (sp__law_take : DSp) : DS := (dSeq (dIfS (dtAnd (dTB (dOp rNe (dVar 8) (dC (.str "")))) (dTB (dOp rEq (dCall 2 sp__law_take (dCons (dVar 0) (dCons (dC (.int 8)) dNil))) (dC (.int 7)))))
          t__law_name_list_1
          dNext) (t__law_name_list_11 sp__law_take))
def t__law_name_list_13 (sp__law_take : DSp) : DS := (dSeq (dSet 9 (dOp rMod (dCB cInt (dCons (dOp rAdd (dCall 2 sp__law_take (dCons (dVar 0) (dCons (dC (.int 60)) dNil))) (dOp rMul (dC (.int 7)) (dVar 6))) dNil)) (dC (.int 60)))) (t__law_name_list_12 sp__law_take))
def t__law_name_list_14 (sp__law_take sp__law_new_word : DSp) : DS := (dSeq (dSet 8 (dIf (dTB (dOp rEq (dVar 7) (dC (.int 7)))) (dCall 1 sp__law_new_word (dCons (dVar 0) dNil)) (dOp rIx (dVar 2) (dVar 7)))) (t__law_name_list_13 sp__law_take))
def t__law_name_list_15 (sp__law_take sp__law_new_word : DSp) : DS := (dSeq (dSet 7 (dOp rMod (dCB cInt (dCons (dOp rAdd (dCall 2 sp__law_take (dCons (dVar 0) (dCons (dC (.int 8)) dNil))) (dVar 6)) dNil)) (dC (.int 8)))) (t__law_name_list_14 sp__law_take sp__law_new_word))
def t__law_name_list_16 : DS := (dRet (dCB cSorted (dCons (dVar 5) dNil)))
def t__law_name_list_17 (sp__law_take sp__law_new_word : DSp) : DS := (dSeq (dFor (diR1 (dCons (dVar 1) dNil)) (gdName 6)
        (t__law_name_list_15 sp__law_take sp__law_new_word)) t__law_name_list_16)
def t__law_name_list_18 (sp__law_take sp__law_new_word : DSp) : DS := (dSeq (dSet 5 (dLstM dNil)) (t__law_name_list_17 sp__law_take sp__law_new_word))
def t__law_name_list_19 (sp__law_take sp__law_new_word : DSp) : DS := (dSeq (dSet 4 (dCall 2 sp__law_take (dCons (dVar 0) (dCons (dC (.int 60)) dNil)))) (t__law_name_list_18 sp__law_take sp__law_new_word))
def t__law_name_list_20 (sp__law_take sp__law_new_word : DSp) : DS := (dSeq (dSet 3 (dCall 2 sp__law_take (dCons (dVar 0) (dCons (dC (.int 4)) dNil)))) (t__law_name_list_19 sp__law_take sp__law_new_word))
def t__law_name_list (sp__law_take sp__law_new_word : DSp) : DS :=
      (dSeq (dSet 2 (dLst (dCons (dC (.str "")) (dCons (dC (.str "bob")) (dCons (dC (.str "eve")) (dCons (dC (.str "ab")) (dCons (dC (.str "abcdef")) (dCons (dC (.str "zz")) (dCons (dC (.str "bobby")) dNil))))))))) (t__law_name_list_20 sp__law_take sp__law_new_word))
/-! ## _law_many_names -/
def t__law_many_names_1 : DS := (dDrop (dApp (dVar 4) (dTup (dCons (dVar 6) (dCons (dOp rMod (dCB cInt (dCons (dOp rAdd (dVar 3) (dOp rMul (dC (.int 7)) (dVar 5))) dNil)) (dC (.int 60))) (dCons (dVar 7) dNil))))))
def t__law_many_names_2 (sp__law_take : DSp) : DS := (dSeq (dSet 7 (dOp rIx (dVar 2) (dOp rMod (dCB cInt (dCons (dOp rAdd (dCall 2 sp__law_take (dCons (dVar 0) (dCons (dC (.int 6)) dNil))) (dVar 5)) dNil)) (dC (.int 6))))) t__law_many_names_1)
def t__law_many_names_3 (sp__law_take : DSp) : DS := (dSeq (dSet 6 (dOp rIx (dC (.str "ABCDEFGH")) (dOp rMod (dCB cInt (dCons (dOp rAdd (dCall 2 sp__law_take (dCons (dVar 0) (dCons (dC (.int 8)) dNil))) (dOp rFdiv (dVar 5) (dC (.int 4)))) dNil)) (dC (.int 8))))) (t__law_many_names_2 sp__law_take))
def t__law_many_names_4 : DS := (dRet (dCB cSorted (dCons (dVar 4) dNil)))
def t__law_many_names_5 (sp__law_take : DSp) : DS := (dSeq (dFor (diR1 (dCons (dVar 1) dNil)) (gdName 5)
        (t__law_many_names_3 sp__law_take)) t__law_many_names_4)
def t__law_many_names_6 (sp__law_take : DSp) : DS := (dSeq (dSet 4 (dLstM dNil)) (t__law_many_names_5 sp__law_take))
def t__law_many_names_7 (sp__law_take : DSp) : DS := (dSeq (dSet 3 (dCall 2 sp__law_take (dCons (dVar 0) (dCons (dC (.int 60)) dNil)))) (t__law_many_names_6 sp__law_take))
def t__law_many_names (sp__law_take : DSp) : DS :=
      (dSeq (dSet 2 (dLst (dCons (dC (.str "")) (dCons (dC (.str "bob")) (dCons (dC (.str "eve")) (dCons (dC (.str "ab")) (dCons (dC (.str "abcdef")) (dCons (dC (.str "zz")) dNil)))))))) (t__law_many_names_7 sp__law_take))
/-! ## _law_folded -/
def t__law_folded_1 : DS := (dDrop (dApp (dVar 5) (dOp rIx (dVar 2) (dOp rMul (dC (.int 2)) (dVar 6)))))
def t__law_folded_2 : DS := (dDrop (dApp (dVar 5) (dTup (dCons (dC (.str "if")) (dCons (dVar 4) (dCons (dOp rIx (dVar 2) (dOp rMul (dC (.int 2)) (dVar 6))) (dCons (dOp rIx (dVar 2) (dOp rAdd (dOp rMul (dC (.int 2)) (dVar 6)) (dC (.int 1)))) dNil)))))))
def t__law_folded_3 : DS := (dIfS (dTB (dOp rEq (dOp rIx (dVar 2) (dOp rMul (dC (.int 2)) (dVar 6))) (dOp rIx (dVar 2) (dOp rAdd (dOp rMul (dC (.int 2)) (dVar 6)) (dC (.int 1))))))
            t__law_folded_1
            t__law_folded_2)
def t__law_folded_4 : DS := (dSet 2 (dVar 5))
def t__law_folded_5 : DS := (dSeq (dFor (diR1 (dCons (dOp rFdiv (dCB cLen (dCons (dVar 2) dNil)) (dC (.int 2))) dNil)) (gdName 6)
          t__law_folded_3) t__law_folded_4)
def t__law_folded_6 : DS := (dSeq (dSet 5 (dLstM dNil)) t__law_folded_5)
def t__law_folded_7 : DS := (dRet (dOp rIx (dVar 2) (dC (.int 0))))
def t__law_folded_8 : DS := (dSeq (dFor (diA (dVar 0)) (gdName 4)
        t__law_folded_6) t__law_folded_7)
def t__law_folded : DS :=
      (dSeq (dSet 2 (dLc (diA (dVar 1)) (gdName 3) dtYes (dTup (dCons (dC (.str "is")) (dCons (dVar 3) dNil))) [3])) t__law_folded_8)
/-! ## _law_digit -/
def t__law_digit : DS :=
      (dRet (dOp rMod (dCB cInt (dCons (dOp rShr (dVar 0) (dVar 1)) dNil)) (dC (.int 2))))
/-! ## _law_chain -/
def t__law_chain_1 : DS := (dSet 3 (dTup (dCons (dC (.str "if")) (dCons (dVar 4) (dCons (dVar 3) (dCons (dTup (dCons (dC (.str "is")) (dCons (dVar 2) dNil))) dNil))))))
def t__law_chain_2 : DS := (dRet (dVar 3))
def t__law_chain_3 : DS := (dSeq (dFor (diA (dVar 0)) (gdName 4)
        t__law_chain_1) t__law_chain_2)
def t__law_chain : DS :=
      (dSeq (dSet 3 (dTup (dCons (dC (.str "is")) (dCons (dVar 1) dNil)))) t__law_chain_3)
/-! ## _law_branch -/
def t__law_branch_1 : DS := (dSet 3 (dTup (dCons (dC (.str "if")) (dCons (dVar 4) (dCons (dTup (dCons (dC (.str "is")) (dCons (dVar 1) dNil))) (dCons (dVar 3) dNil))))))
def t__law_branch_2 : DS := (dRet (dVar 3))
def t__law_branch_3 : DS := (dSeq (dFor (diA (dVar 0)) (gdName 4)
        t__law_branch_1) t__law_branch_2)
def t__law_branch : DS :=
      (dSeq (dSet 3 (dTup (dCons (dC (.str "is")) (dCons (dVar 2) dNil)))) t__law_branch_3)
/-! ## _law_own_read -/
def t__law_own_read_1 : DS := (dRet (dOp rIx (dVar 0) (dC (.int 1))))
def t__law_own_read_2 : DS := (dSet 0 (dOp rIx (dVar 0) (dC (.int 3))))
def t__law_own_read_3 : DS := (dSet 0 (dOp rIx (dVar 0) (dC (.int 2))))
def t__law_own_read_4 : DS := (dIfS (dTB (dOp (rIn false) (dOp rIx (dVar 0) (dC (.int 1))) (dVar 1)))
          t__law_own_read_2
          t__law_own_read_3)
def t__law_own_read_5 : DS := (dSeq (dIfS (dTB (dOp rEq (dOp rIx (dVar 0) (dC (.int 0))) (dC (.str "is"))))
          t__law_own_read_1
          dNext) t__law_own_read_4)
def t__law_own_read_6 : DS := (dRet (dC .none))
def t__law_own_read : DS :=
      (dSeq (dFor (diR1 (dCons (dC (.int 12)) dNil)) (gdName 2)
        t__law_own_read_5) t__law_own_read_6)
/-! ## _law_is_told_name -/
def t__law_is_told_name_1 : DS := (dRet (dC (.bool false)))
def t__law_is_told_name_2 : DS := (dRet (dAnd (dIsa PyData.isStr (dOp rIx (dVar 0) (dC (.int 0)))) (dAnd (dIsa PyData.isStr (dOp rIx (dVar 0) (dC (.int 2)))) (dNot (dIsa PyData.isBool (dOp rIx (dVar 0) (dC (.int 1))))))))
def t__law_is_told_name : DS :=
      (dSeq (dIfS (dtOr (dtNot (dTru (dIsa PyData.isTuple (dVar 0)))) (dtOr (dTB (dOp rNe (dCB cLen (dCons (dVar 0) dNil)) (dC (.int 3)))) (dtNot (dTru (dIsa PyData.isInt (dOp rIx (dVar 0) (dC (.int 1))))))))
        t__law_is_told_name_1
        dNext) t__law_is_told_name_2)
/-! ## _law_is_told_choice -/
def t__law_is_told_choice_1 : DS := (dRet (dC (.bool false)))
def t__law_is_told_choice_2 : DS := (dRet (dC (.bool false)))
def t__law_is_told_choice_3 (sp__law_is_told_name : DSp) : DS := (dIfS (dtNot (dTru (dCall 1 sp__law_is_told_name (dCons (dVar 1) dNil))))
          t__law_is_told_choice_2
          dNext)
def t__law_is_told_choice_4 : DS := (dRet (dC (.bool false)))
def t__law_is_told_choice_5 : DS := (dIfS (dTB (dOp rGe (dOp rIx (dVar 0) (dVar 2)) (dOp rIx (dVar 0) (dOp rAdd (dVar 2) (dC (.int 1))))))
          t__law_is_told_choice_4
          dNext)
def t__law_is_told_choice_6 : DS := (dRet (dC (.bool true)))
def t__law_is_told_choice_7 : DS := (dSeq (dFor (diR1 (dCons (dOp rSub (dCB cLen (dCons (dVar 0) dNil)) (dC (.int 1))) dNil)) (gdName 2)
        t__law_is_told_choice_5) t__law_is_told_choice_6)
def t__law_is_told_choice_8 (sp__law_is_told_name : DSp) : DS := (dSeq (dFor (diA (dVar 0)) (gdName 1)
        (t__law_is_told_choice_3 sp__law_is_told_name)) t__law_is_told_choice_7)
def t__law_is_told_choice (sp__law_is_told_name : DSp) : DS :=
      (dSeq (dIfS (dtNot (dTru (dIsa PyData.isTuple (dVar 0))))
        t__law_is_told_choice_1
        dNext) (t__law_is_told_choice_8 sp__law_is_told_name))
/-! ## _law_falls -/
def t__law_falls_1 : DS := (dRet (dC (.bool false)))
def t__law_falls_2 (sp__law_own_read : DSp) : DS := (dRet (dAnd (dOp rEq (dCall 2 sp__law_own_read (dCons (dVar 2) (dCons (dVar 0) dNil))) (dC (.int 0))) (dOp rEq (dCall 2 sp__law_own_read (dCons (dVar 2) (dCons (dOp rAdd (dVar 0) (dTup (dCons (dVar 1) dNil))) dNil))) (dC (.int 1)))))
def t__law_falls (sp__law_is_told_choice sp__law_is_told_name sp__law_own_read : DSp) : DS :=
      (dSeq (dIfS (dtOr (dtNot (dTru (dCall 1 sp__law_is_told_choice (dCons (dVar 0) dNil)))) (dtOr (dtNot (dTru (dCall 1 sp__law_is_told_name (dCons (dVar 1) dNil)))) (dTB (dOp (rIn false) (dVar 1) (dVar 0)))))
        t__law_falls_1
        dNext) (t__law_falls_2 sp__law_own_read))
/-! ## _law_is_rising -/
def t__law_is_rising_1 : DS := (dRet (dC (.bool false)))
def t__law_is_rising_2 (sp__law_digit : DSp) : DS := (dIfS (dtAnd (dTB (dOp rEq (dCall 2 sp__law_digit (dCons (dVar 2) (dCons (dVar 3) dNil))) (dC (.int 0)))) (dTB (dOp rLt (dOp rIx (dVar 1) (dVar 2)) (dOp rIx (dVar 1) (dOp rBor (dVar 2) (dOp rShl (dC (.int 1)) (dVar 3)))))))
            t__law_is_rising_1
            dNext)
def t__law_is_rising_3 (sp__law_digit : DSp) : DS := (dFor (diR1 (dCons (dCB cLen (dCons (dVar 0) dNil)) dNil)) (gdName 3)
          (t__law_is_rising_2 sp__law_digit))
def t__law_is_rising_4 : DS := (dRet (dC (.bool true)))
def t__law_is_rising (sp__law_digit : DSp) : DS :=
      (dSeq (dFor (diR1 (dCons (dCB cLen (dCons (dVar 1) dNil)) dNil)) (gdName 2)
        (t__law_is_rising_3 sp__law_digit)) t__law_is_rising_4)
/-! ## _law_lot_bits -/
def t__law_lot_bits_1 (sp__law_take : DSp) : DS := (dDrop (dApp (dVar 2) (dOp rMod (dCB cInt (dCons (dOp rAdd (dOp rAdd (dCall 2 sp__law_take (dCons (dVar 0) (dCons (dVar 1) dNil))) (dOp rMul (dC (.int 5)) (dVar 3))) (dC (.int 3))) dNil)) (dVar 1))))
def t__law_lot_bits_2 : DS := (dDrop (dApp (dVar 4) (dCB cInt (dCons (dOp rNe (dLc (diA (dVar 2)) (gdName 6) (dTB (dOp rEq (dOp rBand (dVar 6) (dVar 5)) (dC (.int 0)))) (dVar 6) [6]) (dLst dNil)) dNil))))
def t__law_lot_bits_3 : DS := (dRet (dVar 4))
def t__law_lot_bits_4 : DS := (dSeq (dFor (diR1 (dCons (dVar 1) dNil)) (gdName 5)
        t__law_lot_bits_2) t__law_lot_bits_3)
def t__law_lot_bits_5 : DS := (dSeq (dSet 4 (dLstM dNil)) t__law_lot_bits_4)
def t__law_lot_bits_6 (sp__law_take : DSp) : DS := (dSeq (dFor (diR1 (dCons (dOp rAdd (dC (.int 1)) (dOp rMod (dCB cInt (dCons (dOp rAdd (dCall 2 sp__law_take (dCons (dVar 0) (dCons (dC (.int 4)) dNil))) (dC (.int 2))) dNil)) (dC (.int 4)))) dNil)) (gdName 3)
        (t__law_lot_bits_1 sp__law_take)) t__law_lot_bits_5)
def t__law_lot_bits (sp__law_take : DSp) : DS :=
      (dSeq (dSet 2 (dLstM dNil)) (t__law_lot_bits_6 sp__law_take))
/-! ## _law_judged -/
def t__law_judged_1 : DS := (dRet (dC (.bool false)))
def t__law_judged_2 : DS := (dRet (dC (.bool false)))
def t__law_judged_3 : DS := (dRet (dC (.bool false)))
def t__law_judged_4 (sp__law_falls : DSp) : DS := (dIfS (dtNot (dTru (dCall 3 sp__law_falls (dCons (dOp rIx (dVar 4) (dC (.int 0))) (dCons (dOp rIx (dVar 4) (dC (.int 1))) (dCons (dVar 0) dNil))))))
            t__law_judged_3
            dNext)
def t__law_judged_5 (sp__law_falls : DSp) : DS := (dSeq (dIfS (dtOr (dTB (dOp (rIs true) (dVar 3) (dC (.bool false)))) (dtOr (dtNot (dTru (dIsa PyData.isTuple (dVar 4)))) (dTB (dOp rNe (dCB cLen (dCons (dVar 4) dNil)) (dC (.int 2))))))
            t__law_judged_2
            dNext) (t__law_judged_4 sp__law_falls))
def t__law_judged_6 (sp_fall sp__law_falls : DSp) : DS := (dSeq (dSet 4 (dCall 1 sp_fall (dCons (dVar 0) dNil))) (t__law_judged_5 sp__law_falls))
def t__law_judged_7 (sp_fall sp__law_falls : DSp) : DS := (dIfS (dtNot (dTru (dVar 1)))
          (t__law_judged_6 sp_fall sp__law_falls)
          dNext)
def t__law_judged_8 (sp_fall sp__law_falls : DSp) : DS := (dSeq (dIfS (dtAnd (dTru (dVar 1)) (dtOr (dTB (dOp (rIs true) (dVar 3) (dC (.bool true)))) (dTB (dOp (rIs true) (dCall 1 sp_fall (dCons (dVar 0) dNil)) (dC .none)))))
          t__law_judged_1
          dNext) (t__law_judged_7 sp_fall sp__law_falls))
def t__law_judged_9 (sp_is_positive sp_fall sp__law_falls : DSp) : DS := (dSeq (dSet 3 (dCall 1 sp_is_positive (dCons (dVar 0) dNil))) (t__law_judged_8 sp_fall sp__law_falls))
def t__law_judged_10 : DS := (dRet (dC (.bool true)))
def t__law_judged (sp_is_positive sp_fall sp__law_falls : DSp) : DS :=
      (dSeq (dFor (diR1 (dCons (dC (.int 2)) dNil)) (gdName 2)
        (t__law_judged_9 sp_is_positive sp_fall sp__law_falls)) t__law_judged_10)
/-! ## _law_any_bits -/
def t__law_any_bits_1 (sp__law_digit : DSp) : DS := (dRet (dLc (diR1 (dCons (dVar 1) dNil)) (gdName 4) dtYes (dCall 2 sp__law_digit (dCons (dVar 3) (dCons (dVar 4) dNil))) [4]))
def t__law_any_bits_2 (sp__law_take sp__law_digit : DSp) : DS := (dSeq (dSet 3 (dOp rMod (dCB cInt (dCons (dOp rAdd (dCall 2 sp__law_take (dCons (dVar 0) (dCons (dVar 2) dNil))) (dOp rMul (dC (.int 41)) (dOp rAdd (dOp rFdiv (dVar 2) (dC (.int 60))) (dC (.int 1))))) dNil)) (dVar 2))) (t__law_any_bits_1 sp__law_digit))
def t__law_any_bits (sp__law_take sp__law_digit : DSp) : DS :=
      (dSeq (dSet 2 (dOp rShl (dC (.int 1)) (dVar 1))) (t__law_any_bits_2 sp__law_take sp__law_digit))
/-! ## _law_tens -/
def t__law_tens_1 : DS := (dSet 3 (dTup (dCons (dC (.str "if")) (dCons (dOp rIx (dVar 0) (dVar 4)) (dCons (dVar 3) (dCons (dTup (dCons (dC (.str "is")) (dCons (dC (.int 1)) dNil))) dNil))))))
def t__law_tens_2 : DS := (dSeq (dSet 2 (dTup (dCons (dC (.str "if")) (dCons (dOp rIx (dVar 0) (dVar 4)) (dCons (dTup (dCons (dC (.str "is")) (dCons (dC (.int 0)) dNil))) (dCons (dVar 2) dNil)))))) t__law_tens_1)
def t__law_tens_3 : DS := (dSet 3 (dTup (dCons (dC (.str "if")) (dCons (dOp rIx (dVar 0) (dVar 4)) (dCons (dTup (dCons (dC (.str "is")) (dCons (dC (.int 1)) dNil))) (dCons (dVar 3) dNil))))))
def t__law_tens_4 : DS := (dSeq (dSet 2 (dTup (dCons (dC (.str "if")) (dCons (dOp rIx (dVar 0) (dVar 4)) (dCons (dVar 2) (dCons (dTup (dCons (dC (.str "is")) (dCons (dC (.int 0)) dNil))) dNil)))))) t__law_tens_3)
def t__law_tens_5 : DS := (dIfS (dTB (dOp rEq (dVar 4) (dVar 1)))
          t__law_tens_2
          t__law_tens_4)
def t__law_tens_6 : DS := (dRet (dC (.bool false)))
def t__law_tens_7 : DS := (dRet (dC (.bool false)))
def t__law_tens_8 (sp__law_judged : DSp) : DS := (dRet (dAnd (dCall 2 sp__law_judged (dCons (dVar 2) (dCons (dC (.bool false)) dNil))) (dCall 2 sp__law_judged (dCons (dVar 3) (dCons (dC (.bool false)) dNil)))))
def t__law_tens_9 (sp__law_judged sp__law_chain sp__law_branch : DSp) : DS := (dSeq (dIfS (dtOr (dtNot (dTru (dCall 2 sp__law_judged (dCons (dCall 3 sp__law_chain (dCons (dVar 0) (dCons (dC (.int 0)) (dCons (dC (.int 1)) dNil)))) (dCons (dC (.bool false)) dNil))))) (dtNot (dTru (dCall 2 sp__law_judged (dCons (dCall 3 sp__law_branch (dCons (dVar 0) (dCons (dC (.int 0)) (dCons (dC (.int 1)) dNil)))) (dCons (dC (.bool false)) dNil))))))
        t__law_tens_7
        dNext) (t__law_tens_8 sp__law_judged))
def t__law_tens_10 (sp__law_judged sp__law_chain sp__law_branch : DSp) : DS := (dSeq (dIfS (dtOr (dtNot (dTru (dCall 2 sp__law_judged (dCons (dCall 3 sp__law_chain (dCons (dVar 0) (dCons (dC (.int 1)) (dCons (dC (.int 0)) dNil)))) (dCons (dC (.bool true)) dNil))))) (dtNot (dTru (dCall 2 sp__law_judged (dCons (dCall 3 sp__law_branch (dCons (dVar 0) (dCons (dC (.int 1)) (dCons (dC (.int 0)) dNil)))) (dCons (dC (.bool true)) dNil))))))
        t__law_tens_6
        dNext) (t__law_tens_9 sp__law_judged sp__law_chain sp__law_branch))
def t__law_tens_11 (sp__law_judged sp__law_chain sp__law_branch : DSp) : DS := (dSeq (dFor (diR1 (dCons (dCB cLen (dCons (dVar 0) dNil)) dNil)) (gdName 4)
        t__law_tens_5) (t__law_tens_10 sp__law_judged sp__law_chain sp__law_branch))
def t__law_tens_12 (sp__law_judged sp__law_chain sp__law_branch : DSp) : DS := (dSeq (dSet 3 (dTup (dCons (dC (.str "is")) (dCons (dC (.int 0)) dNil)))) (t__law_tens_11 sp__law_judged sp__law_chain sp__law_branch))
def t__law_tens (sp__law_judged sp__law_chain sp__law_branch : DSp) : DS :=
      (dSeq (dSet 2 (dTup (dCons (dC (.str "is")) (dCons (dC (.int 1)) dNil)))) (t__law_tens_12 sp__law_judged sp__law_chain sp__law_branch))
/-! ## law -/
def t_law_1 : DS := (dRet (dC (.bool false)))
def t_law_2 (sp__law_judged sp__law_is_rising sp__law_folded : DSp) : DS := (dIfS (dtNot (dTru (dCall 2 sp__law_judged (dCons (dCall 2 sp__law_folded (dCons (dVar 3) (dCons (dVar 8) dNil))) (dCons (dCall 2 sp__law_is_rising (dCons (dVar 3) (dCons (dVar 8) dNil))) dNil)))))
          t_law_1
          dNext)
def t_law_3 : DS := (dRet (dC (.bool false)))
def t_law_4 (sp__law_take sp__law_tens : DSp) : DS := (dRet (dCall 2 sp__law_tens (dCons (dVar 9) (dCons (dOp rMod (dCB cInt (dCons (dOp rAdd (dCall 2 sp__law_take (dCons (dVar 1) (dCons (dC (.int 10)) dNil))) (dC (.int 4))) dNil)) (dC (.int 10))) dNil))))
def t_law_5 (sp__law_take sp__law_many_names sp__law_tens : DSp) : DS := (dSeq (dSet 9 (dCall 2 sp__law_many_names (dCons (dVar 1) (dCons (dC (.int 10)) dNil)))) (t_law_4 sp__law_take sp__law_tens))
def t_law_6 (sp__law_take sp__law_judged sp__law_many_names sp__law_tens : DSp) : DS := (dSeq (dIfS (dtOr (dtNot (dTru (dCall 2 sp__law_judged (dCons (dTup (dCons (dC (.str "is")) (dCons (dC (.int 0)) dNil))) (dCons (dC (.bool true)) dNil))))) (dtNot (dTru (dCall 2 sp__law_judged (dCons (dTup (dCons (dC (.str "is")) (dCons (dC (.int 1)) dNil))) (dCons (dC (.bool true)) dNil))))))
        t_law_3
        dNext) (t_law_5 sp__law_take sp__law_many_names sp__law_tens))
def t_law_7 (sp__law_take sp__law_judged sp__law_is_rising sp__law_folded sp__law_many_names sp__law_tens : DSp) : DS := (dSeq (dFor (diA (dVar 5)) (gdName 8)
        (t_law_2 sp__law_judged sp__law_is_rising sp__law_folded)) (t_law_6 sp__law_take sp__law_judged sp__law_many_names sp__law_tens))
def t_law_8 (sp__law_take sp__law_judged sp__law_is_rising sp__law_folded sp__law_many_names sp__law_tens : DSp) : DS := (dSeq (dDrop (dApp (dVar 5) (dLc (diA (dOp rIx (dVar 5) (dC (.int 1)))) (gdName 7) dtYes (dOp rSub (dC (.int 1)) (dVar 7)) [7]))) (t_law_7 sp__law_take sp__law_judged sp__law_is_rising sp__law_folded sp__law_many_names sp__law_tens))
def t_law_9 (sp__law_take sp__law_judged sp__law_is_rising sp__law_folded sp__law_many_names sp__law_tens : DSp) : DS := (dSeq (dDrop (dApp (dVar 5) (dOp rAdd (dOp rAdd (dSl rSl (dOp rIx (dVar 5) (dC (.int 1))) doNone (doSome (dVar 6))) (dLst (dCons (dOp rSub (dC (.int 1)) (dOp rIx (dOp rIx (dVar 5) (dC (.int 1))) (dVar 6))) dNil))) (dSl rSl (dOp rIx (dVar 5) (dC (.int 1))) (doSome (dOp rAdd (dVar 6) (dC (.int 1)))) doNone)))) (t_law_8 sp__law_take sp__law_judged sp__law_is_rising sp__law_folded sp__law_many_names sp__law_tens))
def t_law_10 (sp__law_take sp__law_judged sp__law_is_rising sp__law_folded sp__law_many_names sp__law_tens : DSp) : DS := (dSeq (dSet 6 (dOp rMod (dCB cInt (dCons (dOp rAdd (dCall 2 sp__law_take (dCons (dVar 1) (dCons (dVar 4) dNil))) (dC (.int 6))) dNil)) (dVar 4))) (t_law_9 sp__law_take sp__law_judged sp__law_is_rising sp__law_folded sp__law_many_names sp__law_tens))
def t_law_11 (sp__law_take sp__law_lot_bits sp__law_any_bits sp__law_judged sp__law_is_rising sp__law_folded sp__law_many_names sp__law_tens : DSp) : DS := (dSeq (dSet 5 (dLstM (dCons (dCall 2 sp__law_any_bits (dCons (dVar 1) (dCons (dVar 4) dNil))) (dCons (dCall 2 sp__law_lot_bits (dCons (dVar 1) (dCons (dVar 4) dNil))) dNil)))) (t_law_10 sp__law_take sp__law_judged sp__law_is_rising sp__law_folded sp__law_many_names sp__law_tens))
def t_law_12 (sp__law_take sp__law_lot_bits sp__law_any_bits sp__law_judged sp__law_is_rising sp__law_folded sp__law_many_names sp__law_tens : DSp) : DS := (dSeq (dSet 4 (dOp rShl (dC (.int 1)) (dCB cLen (dCons (dVar 3) dNil)))) (t_law_11 sp__law_take sp__law_lot_bits sp__law_any_bits sp__law_judged sp__law_is_rising sp__law_folded sp__law_many_names sp__law_tens))
def t_law_13 (sp__law_take sp__law_name_list sp__law_lot_bits sp__law_any_bits sp__law_judged sp__law_is_rising sp__law_folded sp__law_many_names sp__law_tens : DSp) : DS := (dSeq (dSet 3 (dCall 2 sp__law_name_list (dCons (dVar 1) (dCons (dIf (dTru (dVar 2)) (dC (.int 7)) (dOp rMod (dCB cInt (dCons (dOp rAdd (dCall 2 sp__law_take (dCons (dVar 1) (dCons (dC (.int 5)) dNil))) (dC (.int 4))) dNil)) (dC (.int 5)))) dNil)))) (t_law_12 sp__law_take sp__law_lot_bits sp__law_any_bits sp__law_judged sp__law_is_rising sp__law_folded sp__law_many_names sp__law_tens))
def t_law_14 (sp__law_take sp__law_name_list sp__law_lot_bits sp__law_any_bits sp__law_judged sp__law_is_rising sp__law_folded sp__law_many_names sp__law_tens : DSp) : DS := (dSeq (dSet 2 (dOp rEq (dCall 2 sp__law_take (dCons (dVar 1) (dCons (dC (.int 8)) dNil))) (dC (.int 7)))) (t_law_13 sp__law_take sp__law_name_list sp__law_lot_bits sp__law_any_bits sp__law_judged sp__law_is_rising sp__law_folded sp__law_many_names sp__law_tens))
def t_law (sp__law_new_pool sp__law_take sp__law_name_list sp__law_lot_bits sp__law_any_bits sp__law_judged sp__law_is_rising sp__law_folded sp__law_many_names sp__law_tens : DSp) : DS :=
      (dSeq (dSet 1 (dCall 1 sp__law_new_pool (dCons (dVar 0) dNil))) (t_law_14 sp__law_take sp__law_name_list sp__law_lot_bits sp__law_any_bits sp__law_judged sp__law_is_rising sp__law_folded sp__law_many_names sp__law_tens))
end
end Sh

set_option Elab.async false
set_option linter.all false
set_option autoImplicit false
set_option maxRecDepth 100000
set_option maxHeartbeats 2000000
/-! Sx, part A: what the law's own helpers promise -/
namespace Sh
open PySem Tx

def zs (xs : List Int) : List D := (xs.map PyData.int).map D.p
/-- a pool of digits -/
def PoolO (o : MO) : Prop := ∃ xs : List Int, o = .lst (zs xs) ∧ 2 ≤ xs.length ∧ xs.length ≤ 64
theorem zs_get {xs : List Int} {i : Nat} {x : Int} (h : xs[i]? = some x) : (zs xs)[i]? = some (D.p (.int x)) := map_get (map_get h)
theorem zs_getD {xs : List Int} {i : Nat} {d : D} (h : (zs xs)[i]? = some d) : ∃ x, xs[i]? = some x ∧ d = D.p (.int x) := by
  obtain ⟨u, h1, rfl⟩ := map_getD h
  obtain ⟨x, h2, rfl⟩ := map_getD h1
  exact ⟨x, h2, rfl⟩
theorem zs_set {xs : List Int} {i : Nat} {x : Int} : (zs xs).set i (D.p (.int x)) = zs (xs.set i x) := by
  unfold zs; rw [List.map_set, List.map_set]
theorem zs_len {xs : List Int} : (zs xs).length = xs.length := by unfold zs; rw [List.length_map, List.length_map]
theorem zs_snoc {xs : List Int} {x : Int} : zs xs ++ [D.p (.int x)] = zs (xs ++ [x]) := by unfold zs; simp

/-! ### take -/
def sp_take : DSp := fun ds S Q => ∃ p b o, ds = [.r p, D.p (.int b)] ∧ 0 < b ∧ b.natAbs.log2 < 9000 ∧ S p = some o ∧ PoolO o ∧ ∀ d o', 0 ≤ d → d < b → PoolO o' → Q (D.p (.int d)) (upS S p o')
theorem hs_take (ds : List D) (S : Sto) (Q : DQ) (hl : ds.length = 2) (h : sp_take ds S Q) : t__law_take { nx := fun _ S' => Fin Q (.p .none) S', rt := Fin Q } (dstart 4 ds) S := by
  obtain ⟨p, b, o, rfl, hb, hb2, hS, ⟨xs, rfl, h2, h64⟩, hQ⟩ := h
  show t__law_take _ [some (.r p), some (D.p (.int b)), none, none] S
  obtain ⟨x0, hx0⟩ := get_ex (xs := xs) (i := 0) (by omega)
  simp only [↓dSeq, ↓dNext, ↓dSet, ↓dDrop, ↓dRet, ↓dRetN, ↓dIfS, ↓dAsg, ↓dBreak, ↓dCont, ↓dVar, ↓dC, ↓dOp, ↓dTB, ↓dtAnd, ↓dtOr, ↓dtNot, ↓dTru, ↓dAnd, ↓dOr, ↓dNot, ↓dIf, ↓dChain, ↓dCall, ↓dCB, ↓dCons, ↓dNil, ↓dStar, ↓dTup, ↓dLst, ↓dLstM, ↓dIsa, ↓dApp, ↓dNeg, ↓gdName, ↓gdTup, ↓gdCons, ↓gdNil, ↓gdSub, ↓rIx_tup, ↓rIx_str, ↓rIx_lst, ↓rIx_ref, ↓rSetL, ↓rSl, ↓dSl, ↓doNone, ↓doSome, ↓rAdd, ↓rSub, ↓rMul, ↓rMod, ↓rFdiv, ↓rPow, ↓rShl, ↓rShr, ↓rBand, ↓rBor, ↓rInt, ↓cInt, ↓cLen_tup, ↓cLen_str, ↓cLen_lst, ↓cLen_ref, ↓cTuple, ↓cSorted, ↓cMax2, ↓rEq, ↓rNe, ↓rLt, ↓rGt, ↓rLe, ↓rGe, ↓rOrd, ↓rIn, ↓rIs, ↓isNone, ↓truD, ↓frzAll, ↓diA, ↓diR1, ↓diR2, ↓dFor, ↓dLc, ↓dLcM, ↓dtYes, ↓wipeD, dat, datL, seqL, L2.CPow, List.getElem?_cons_zero, List.getElem?_cons_succ, List.set_cons_zero, List.set_cons_succ, List.length_cons, List.length_nil, List.map_cons, List.map_nil, upS_same, if_true, if_false, Bool.false_eq_true, true_and, and_true, Bool.not_true, Bool.not_false, Bool.true_xor, Bool.false_xor, eqv_int, eqv_str, eqv_bool, dp_int, dp_str, dp_bool, dp_none, al_int, al_str, min00, ne_int, ne_str, mapM_p, atD_zero, atD_one, atD_two, atD_three, PyData.isTuple, PyData.isInt, PyData.isStr, PyData.isBool, PyData.isList, PyData.isDict, Nat.reduceAdd, Int.cast_ofNat_Int, Int.reduceEq, Int.reduceAdd, Int.reduceSub, decide_true, decide_false, decide_eq_true_eq, ↓reduceIte, reduceCtorEq, ↓t__law_take, hS, zs_len, zs_get hx0]
  have hm := Int.emod_nonneg x0 (show ((xs.length : Int) - 1) ≠ 0 by omega)
  have hm2 := Int.emod_lt_of_pos x0 (show 0 < ((xs.length : Int) - 1) by omega)
  generalize hsp : 1 + x0 % ((xs.length : Int) - 1) = sp
  have e0 : L2.ixN xs.length 0 = some 0 := ixN_nat (i := 0) (by omega)
  refine ⟨by omega, ?_⟩
  simp only [↓dSeq, ↓dNext, ↓dSet, ↓dDrop, ↓dRet, ↓dRetN, ↓dIfS, ↓dAsg, ↓dBreak, ↓dCont, ↓dVar, ↓dC, ↓dOp, ↓dTB, ↓dtAnd, ↓dtOr, ↓dtNot, ↓dTru, ↓dAnd, ↓dOr, ↓dNot, ↓dIf, ↓dChain, ↓dCall, ↓dCB, ↓dCons, ↓dNil, ↓dStar, ↓dTup, ↓dLst, ↓dLstM, ↓dIsa, ↓dApp, ↓dNeg, ↓gdName, ↓gdTup, ↓gdCons, ↓gdNil, ↓gdSub, ↓rIx_tup, ↓rIx_str, ↓rIx_lst, ↓rIx_ref, ↓rSetL, ↓rSl, ↓dSl, ↓doNone, ↓doSome, ↓rAdd, ↓rSub, ↓rMul, ↓rMod, ↓rFdiv, ↓rPow, ↓rShl, ↓rShr, ↓rBand, ↓rBor, ↓rInt, ↓cInt, ↓cLen_tup, ↓cLen_str, ↓cLen_lst, ↓cLen_ref, ↓cTuple, ↓cSorted, ↓cMax2, ↓rEq, ↓rNe, ↓rLt, ↓rGt, ↓rLe, ↓rGe, ↓rOrd, ↓rIn, ↓rIs, ↓isNone, ↓truD, ↓frzAll, ↓diA, ↓diR1, ↓diR2, ↓dFor, ↓dLc, ↓dLcM, ↓dtYes, ↓wipeD, dat, datL, seqL, L2.CPow, List.getElem?_cons_zero, List.getElem?_cons_succ, List.set_cons_zero, List.set_cons_succ, List.length_cons, List.length_nil, List.map_cons, List.map_nil, upS_same, if_true, if_false, Bool.false_eq_true, true_and, and_true, Bool.not_true, Bool.not_false, Bool.true_xor, Bool.false_xor, eqv_int, eqv_str, eqv_bool, dp_int, dp_str, dp_bool, dp_none, al_int, al_str, min00, ne_int, ne_str, mapM_p, atD_zero, atD_one, atD_two, atD_three, PyData.isTuple, PyData.isInt, PyData.isStr, PyData.isBool, PyData.isList, PyData.isDict, Nat.reduceAdd, Int.cast_ofNat_Int, Int.reduceEq, Int.reduceAdd, Int.reduceSub, decide_true, decide_false, decide_eq_true_eq, ↓reduceIte, reduceCtorEq, ↓t__law_take_4, hS, zs_len, zs_get hx0, e0]
  rw [show D.p (PyData.int (x0 + 1)) = D.p (.int (x0 + 1)) from rfl, zs_set]
  generalize hys : xs.set 0 (x0 + 1) = ys
  have hyl : ys.length = xs.length := by rw [← hys, List.length_set]
  obtain ⟨x1, hx1⟩ := get_ex (xs := ys) (i := sp.toNat) (by omega)
  have a1 : atD (zs ys) sp = some (D.p (.int x1)) := atD_int (by omega) (zs_get hx1)
  simp only [↓dSeq, ↓dNext, ↓dSet, ↓dDrop, ↓dRet, ↓dRetN, ↓dIfS, ↓dAsg, ↓dBreak, ↓dCont, ↓dVar, ↓dC, ↓dOp, ↓dTB, ↓dtAnd, ↓dtOr, ↓dtNot, ↓dTru, ↓dAnd, ↓dOr, ↓dNot, ↓dIf, ↓dChain, ↓dCall, ↓dCB, ↓dCons, ↓dNil, ↓dStar, ↓dTup, ↓dLst, ↓dLstM, ↓dIsa, ↓dApp, ↓dNeg, ↓gdName, ↓gdTup, ↓gdCons, ↓gdNil, ↓gdSub, ↓rIx_tup, ↓rIx_str, ↓rIx_lst, ↓rIx_ref, ↓rSetL, ↓rSl, ↓dSl, ↓doNone, ↓doSome, ↓rAdd, ↓rSub, ↓rMul, ↓rMod, ↓rFdiv, ↓rPow, ↓rShl, ↓rShr, ↓rBand, ↓rBor, ↓rInt, ↓cInt, ↓cLen_tup, ↓cLen_str, ↓cLen_lst, ↓cLen_ref, ↓cTuple, ↓cSorted, ↓cMax2, ↓rEq, ↓rNe, ↓rLt, ↓rGt, ↓rLe, ↓rGe, ↓rOrd, ↓rIn, ↓rIs, ↓isNone, ↓truD, ↓frzAll, ↓diA, ↓diR1, ↓diR2, ↓dFor, ↓dLc, ↓dLcM, ↓dtYes, ↓wipeD, dat, datL, seqL, L2.CPow, List.getElem?_cons_zero, List.getElem?_cons_succ, List.set_cons_zero, List.set_cons_succ, List.length_cons, List.length_nil, List.map_cons, List.map_nil, upS_same, if_true, if_false, Bool.false_eq_true, true_and, and_true, Bool.not_true, Bool.not_false, Bool.true_xor, Bool.false_xor, eqv_int, eqv_str, eqv_bool, dp_int, dp_str, dp_bool, dp_none, al_int, al_str, min00, ne_int, ne_str, mapM_p, atD_zero, atD_one, atD_two, atD_three, PyData.isTuple, PyData.isInt, PyData.isStr, PyData.isBool, PyData.isList, PyData.isDict, Nat.reduceAdd, Int.cast_ofNat_Int, Int.reduceEq, Int.reduceAdd, Int.reduceSub, decide_true, decide_false, decide_eq_true_eq, ↓reduceIte, reduceCtorEq, ↓t__law_take_3, a1]
  refine ⟨hb, ?_⟩
  simp only [↓dSeq, ↓dNext, ↓dSet, ↓dDrop, ↓dRet, ↓dRetN, ↓dIfS, ↓dAsg, ↓dBreak, ↓dCont, ↓dVar, ↓dC, ↓dOp, ↓dTB, ↓dtAnd, ↓dtOr, ↓dtNot, ↓dTru, ↓dAnd, ↓dOr, ↓dNot, ↓dIf, ↓dChain, ↓dCall, ↓dCB, ↓dCons, ↓dNil, ↓dStar, ↓dTup, ↓dLst, ↓dLstM, ↓dIsa, ↓dApp, ↓dNeg, ↓gdName, ↓gdTup, ↓gdCons, ↓gdNil, ↓gdSub, ↓rIx_tup, ↓rIx_str, ↓rIx_lst, ↓rIx_ref, ↓rSetL, ↓rSl, ↓dSl, ↓doNone, ↓doSome, ↓rAdd, ↓rSub, ↓rMul, ↓rMod, ↓rFdiv, ↓rPow, ↓rShl, ↓rShr, ↓rBand, ↓rBor, ↓rInt, ↓cInt, ↓cLen_tup, ↓cLen_str, ↓cLen_lst, ↓cLen_ref, ↓cTuple, ↓cSorted, ↓cMax2, ↓rEq, ↓rNe, ↓rLt, ↓rGt, ↓rLe, ↓rGe, ↓rOrd, ↓rIn, ↓rIs, ↓isNone, ↓truD, ↓frzAll, ↓diA, ↓diR1, ↓diR2, ↓dFor, ↓dLc, ↓dLcM, ↓dtYes, ↓wipeD, dat, datL, seqL, L2.CPow, List.getElem?_cons_zero, List.getElem?_cons_succ, List.set_cons_zero, List.set_cons_succ, List.length_cons, List.length_nil, List.map_cons, List.map_nil, upS_same, if_true, if_false, Bool.false_eq_true, true_and, and_true, Bool.not_true, Bool.not_false, Bool.true_xor, Bool.false_xor, eqv_int, eqv_str, eqv_bool, dp_int, dp_str, dp_bool, dp_none, al_int, al_str, min00, ne_int, ne_str, mapM_p, atD_zero, atD_one, atD_two, atD_three, PyData.isTuple, PyData.isInt, PyData.isStr, PyData.isBool, PyData.isList, PyData.isDict, Nat.reduceAdd, Int.cast_ofNat_Int, Int.reduceEq, Int.reduceAdd, Int.reduceSub, decide_true, decide_false, decide_eq_true_eq, ↓reduceIte, reduceCtorEq, ↓t__law_take_2, a1, zs_len, hyl, ixN_int (show 0 ≤ sp by omega) (show sp < xs.length by omega)]
  refine ⟨⟨hb, hb2⟩, ?_⟩
  simp only [↓dSeq, ↓dNext, ↓dSet, ↓dDrop, ↓dRet, ↓dRetN, ↓dIfS, ↓dAsg, ↓dBreak, ↓dCont, ↓dVar, ↓dC, ↓dOp, ↓dTB, ↓dtAnd, ↓dtOr, ↓dtNot, ↓dTru, ↓dAnd, ↓dOr, ↓dNot, ↓dIf, ↓dChain, ↓dCall, ↓dCB, ↓dCons, ↓dNil, ↓dStar, ↓dTup, ↓dLst, ↓dLstM, ↓dIsa, ↓dApp, ↓dNeg, ↓gdName, ↓gdTup, ↓gdCons, ↓gdNil, ↓gdSub, ↓rIx_tup, ↓rIx_str, ↓rIx_lst, ↓rIx_ref, ↓rSetL, ↓rSl, ↓dSl, ↓doNone, ↓doSome, ↓rAdd, ↓rSub, ↓rMul, ↓rMod, ↓rFdiv, ↓rPow, ↓rShl, ↓rShr, ↓rBand, ↓rBor, ↓rInt, ↓cInt, ↓cLen_tup, ↓cLen_str, ↓cLen_lst, ↓cLen_ref, ↓cTuple, ↓cSorted, ↓cMax2, ↓rEq, ↓rNe, ↓rLt, ↓rGt, ↓rLe, ↓rGe, ↓rOrd, ↓rIn, ↓rIs, ↓isNone, ↓truD, ↓frzAll, ↓diA, ↓diR1, ↓diR2, ↓dFor, ↓dLc, ↓dLcM, ↓dtYes, ↓wipeD, dat, datL, seqL, L2.CPow, List.getElem?_cons_zero, List.getElem?_cons_succ, List.set_cons_zero, List.set_cons_succ, List.length_cons, List.length_nil, List.map_cons, List.map_nil, upS_same, if_true, if_false, Bool.false_eq_true, true_and, and_true, Bool.not_true, Bool.not_false, Bool.true_xor, Bool.false_xor, eqv_int, eqv_str, eqv_bool, dp_int, dp_str, dp_bool, dp_none, al_int, al_str, min00, ne_int, ne_str, mapM_p, atD_zero, atD_one, atD_two, atD_three, PyData.isTuple, PyData.isInt, PyData.isStr, PyData.isBool, PyData.isList, PyData.isDict, Nat.reduceAdd, Int.cast_ofNat_Int, Int.reduceEq, Int.reduceAdd, Int.reduceSub, decide_true, decide_false, decide_eq_true_eq, ↓reduceIte, reduceCtorEq, ↓t__law_take_1]
  rw [show D.p (PyData.int (x1 / b)) = D.p (.int (x1 / b)) from rfl, zs_set, upS_upS]
  exact Fin.same (hQ _ _ (Int.emod_nonneg _ (by omega)) (Int.emod_lt_of_pos _ hb) ⟨_, rfl, by rw [List.length_set]; omega, by rw [List.length_set]; omega⟩)
theorem c_take {p : Nat} {b : Int} {o : MO} {S : Sto} {Q : DQ} (hS : S p = some o) (ho : PoolO o) (h : ∀ d o', 0 ≤ d → d < b → PoolO o' → Q (D.p (.int d)) (upS S p o')) (hb : 0 < b := by decide) (hb2 : b.natAbs.log2 < 9000 := by decide) : sp_take [.r p, D.p (.int b)] S Q :=
  ⟨p, b, o, rfl, hb, hb2, hS, ho, h⟩

/-! ### new_pool -/
def sp_new_pool : DSp := fun ds S Q => ∃ n ns, ds = [.r n] ∧ S n = some (.frz (zs ns)) ∧ ns.length ≤ 63 ∧ ∀ p o, S p = none → PoolO o → Q (.r p) (upS S p o)
theorem cut_all {α : Type} {xs : List α} (h : xs.length ≤ 63) : cutD xs none (some 63) = xs := cut_whole ⟨rfl, by
  rw [show (some 63 : Option Int) = some ((63 : Nat) : Int) from rfl, HT.sIx_nat]
  exact Nat.min_eq_right h⟩
theorem hs_new_pool (ds : List D) (S : Sto) (Q : DQ) (hl : ds.length = 1) (h : sp_new_pool ds S Q) : t__law_new_pool { nx := fun _ S' => Fin Q (.p .none) S', rt := Fin Q } (dstart 3 ds) S := by
  obtain ⟨n, ns, rfl, hS, hn, hQ⟩ := h
  show t__law_new_pool _ [some (.r n), none, none] S
  simp only [↓dSeq, ↓dNext, ↓dSet, ↓dDrop, ↓dRet, ↓dRetN, ↓dIfS, ↓dAsg, ↓dBreak, ↓dCont, ↓dVar, ↓dC, ↓dOp, ↓dTB, ↓dtAnd, ↓dtOr, ↓dtNot, ↓dTru, ↓dAnd, ↓dOr, ↓dNot, ↓dIf, ↓dChain, ↓dCall, ↓dCB, ↓dCons, ↓dNil, ↓dStar, ↓dTup, ↓dLst, ↓dLstM, ↓dIsa, ↓dApp, ↓dNeg, ↓gdName, ↓gdTup, ↓gdCons, ↓gdNil, ↓gdSub, ↓rIx_tup, ↓rIx_str, ↓rIx_lst, ↓rIx_ref, ↓rSetL, ↓rSl, ↓dSl, ↓doNone, ↓doSome, ↓rAdd, ↓rSub, ↓rMul, ↓rMod, ↓rFdiv, ↓rPow, ↓rShl, ↓rShr, ↓rBand, ↓rBor, ↓rInt, ↓cInt, ↓cLen_tup, ↓cLen_str, ↓cLen_lst, ↓cLen_ref, ↓cTuple, ↓cSorted, ↓cMax2, ↓rEq, ↓rNe, ↓rLt, ↓rGt, ↓rLe, ↓rGe, ↓rOrd, ↓rIn, ↓rIs, ↓isNone, ↓truD, ↓frzAll, ↓diA, ↓diR1, ↓diR2, ↓dFor, ↓dLc, ↓dLcM, ↓dtYes, ↓wipeD, dat, datL, seqL, L2.CPow, List.getElem?_cons_zero, List.getElem?_cons_succ, List.set_cons_zero, List.set_cons_succ, List.length_cons, List.length_nil, List.map_cons, List.map_nil, upS_same, if_true, if_false, Bool.false_eq_true, true_and, and_true, Bool.not_true, Bool.not_false, Bool.true_xor, Bool.false_xor, eqv_int, eqv_str, eqv_bool, dp_int, dp_str, dp_bool, dp_none, al_int, al_str, min00, ne_int, ne_str, mapM_p, atD_zero, atD_one, atD_two, atD_three, PyData.isTuple, PyData.isInt, PyData.isStr, PyData.isBool, PyData.isList, PyData.isDict, Nat.reduceAdd, Int.cast_ofNat_Int, Int.reduceEq, Int.reduceAdd, Int.reduceSub, decide_true, decide_false, decide_eq_true_eq, ↓reduceIte, reduceCtorEq, ↓t__law_new_pool]
  refine ⟨by decide, fun p hp => ?_⟩
  have hnp : n ≠ p := ne_of_none hp hS
  have hd : (zs ns).mapM pureD = some (ns.map .int) := mapM_pure _
  have hS' : upS S p (.lst [D.p (.int 0)]) n = some (.frz (zs ns)) := by rw [upS_ne hnp]; exact hS
  simp only [↓dSeq, ↓dNext, ↓dSet, ↓dDrop, ↓dRet, ↓dRetN, ↓dIfS, ↓dAsg, ↓dBreak, ↓dCont, ↓dVar, ↓dC, ↓dOp, ↓dTB, ↓dtAnd, ↓dtOr, ↓dtNot, ↓dTru, ↓dAnd, ↓dOr, ↓dNot, ↓dIf, ↓dChain, ↓dCall, ↓dCB, ↓dCons, ↓dNil, ↓dStar, ↓dTup, ↓dLst, ↓dLstM, ↓dIsa, ↓dApp, ↓dNeg, ↓gdName, ↓gdTup, ↓gdCons, ↓gdNil, ↓gdSub, ↓rIx_tup, ↓rIx_str, ↓rIx_lst, ↓rIx_ref, ↓rSetL, ↓rSl, ↓dSl, ↓doNone, ↓doSome, ↓rAdd, ↓rSub, ↓rMul, ↓rMod, ↓rFdiv, ↓rPow, ↓rShl, ↓rShr, ↓rBand, ↓rBor, ↓rInt, ↓cInt, ↓cLen_tup, ↓cLen_str, ↓cLen_lst, ↓cLen_ref, ↓cTuple, ↓cSorted, ↓cMax2, ↓rEq, ↓rNe, ↓rLt, ↓rGt, ↓rLe, ↓rGe, ↓rOrd, ↓rIn, ↓rIs, ↓isNone, ↓truD, ↓frzAll, ↓diA, ↓diR1, ↓diR2, ↓dFor, ↓dLc, ↓dLcM, ↓dtYes, ↓wipeD, dat, datL, seqL, L2.CPow, List.getElem?_cons_zero, List.getElem?_cons_succ, List.set_cons_zero, List.set_cons_succ, List.length_cons, List.length_nil, List.map_cons, List.map_nil, upS_same, if_true, if_false, Bool.false_eq_true, true_and, and_true, Bool.not_true, Bool.not_false, Bool.true_xor, Bool.false_xor, eqv_int, eqv_str, eqv_bool, dp_int, dp_str, dp_bool, dp_none, al_int, al_str, min00, ne_int, ne_str, mapM_p, atD_zero, atD_one, atD_two, atD_three, PyData.isTuple, PyData.isInt, PyData.isStr, PyData.isBool, PyData.isList, PyData.isDict, Nat.reduceAdd, Int.cast_ofNat_Int, Int.reduceEq, Int.reduceAdd, Int.reduceSub, decide_true, decide_false, decide_eq_true_eq, ↓reduceIte, reduceCtorEq, ↓t__law_new_pool_5, hS', hd]
  rw [cut_all (by rw [List.length_map]; exact hn)]
  refine loop_list (fun k env S' => ∃ e2, env = [some (.r n), some (.r p), e2] ∧ S' = upS S p (.lst (zs (0 :: ns.take k)))) ⟨none, rfl, rfl⟩ ?_ ?_
  · rintro k x env S' hx ⟨e2, rfl, rfl⟩
    obtain ⟨v, hv, rfl⟩ := zs_getD (xs := ns) hx
    simp only [↓dSeq, ↓dNext, ↓dSet, ↓dDrop, ↓dRet, ↓dRetN, ↓dIfS, ↓dAsg, ↓dBreak, ↓dCont, ↓dVar, ↓dC, ↓dOp, ↓dTB, ↓dtAnd, ↓dtOr, ↓dtNot, ↓dTru, ↓dAnd, ↓dOr, ↓dNot, ↓dIf, ↓dChain, ↓dCall, ↓dCB, ↓dCons, ↓dNil, ↓dStar, ↓dTup, ↓dLst, ↓dLstM, ↓dIsa, ↓dApp, ↓dNeg, ↓gdName, ↓gdTup, ↓gdCons, ↓gdNil, ↓gdSub, ↓rIx_tup, ↓rIx_str, ↓rIx_lst, ↓rIx_ref, ↓rSetL, ↓rSl, ↓dSl, ↓doNone, ↓doSome, ↓rAdd, ↓rSub, ↓rMul, ↓rMod, ↓rFdiv, ↓rPow, ↓rShl, ↓rShr, ↓rBand, ↓rBor, ↓rInt, ↓cInt, ↓cLen_tup, ↓cLen_str, ↓cLen_lst, ↓cLen_ref, ↓cTuple, ↓cSorted, ↓cMax2, ↓rEq, ↓rNe, ↓rLt, ↓rGt, ↓rLe, ↓rGe, ↓rOrd, ↓rIn, ↓rIs, ↓isNone, ↓truD, ↓frzAll, ↓diA, ↓diR1, ↓diR2, ↓dFor, ↓dLc, ↓dLcM, ↓dtYes, ↓wipeD, dat, datL, seqL, L2.CPow, List.getElem?_cons_zero, List.getElem?_cons_succ, List.set_cons_zero, List.set_cons_succ, List.length_cons, List.length_nil, List.map_cons, List.map_nil, upS_same, if_true, if_false, Bool.false_eq_true, true_and, and_true, Bool.not_true, Bool.not_false, Bool.true_xor, Bool.false_xor, eqv_int, eqv_str, eqv_bool, dp_int, dp_str, dp_bool, dp_none, al_int, al_str, min00, ne_int, ne_str, mapM_p, atD_zero, atD_one, atD_two, atD_three, PyData.isTuple, PyData.isInt, PyData.isStr, PyData.isBool, PyData.isList, PyData.isDict, Nat.reduceAdd, Int.cast_ofNat_Int, Int.reduceEq, Int.reduceAdd, Int.reduceSub, decide_true, decide_false, decide_eq_true_eq, ↓reduceIte, reduceCtorEq, ↓t__law_new_pool_1, zs_len, List.length_take]
    refine ⟨⟨_, rfl⟩, smallL (by omega), _, rfl, ?_⟩
    rw [upS_upS, zs_snoc, take_succ hv]
    rfl
  · rintro env S' ⟨e2, rfl, rfl⟩
    simp only [↓dSeq, ↓dNext, ↓dSet, ↓dDrop, ↓dRet, ↓dRetN, ↓dIfS, ↓dAsg, ↓dBreak, ↓dCont, ↓dVar, ↓dC, ↓dOp, ↓dTB, ↓dtAnd, ↓dtOr, ↓dtNot, ↓dTru, ↓dAnd, ↓dOr, ↓dNot, ↓dIf, ↓dChain, ↓dCall, ↓dCB, ↓dCons, ↓dNil, ↓dStar, ↓dTup, ↓dLst, ↓dLstM, ↓dIsa, ↓dApp, ↓dNeg, ↓gdName, ↓gdTup, ↓gdCons, ↓gdNil, ↓gdSub, ↓rIx_tup, ↓rIx_str, ↓rIx_lst, ↓rIx_ref, ↓rSetL, ↓rSl, ↓dSl, ↓doNone, ↓doSome, ↓rAdd, ↓rSub, ↓rMul, ↓rMod, ↓rFdiv, ↓rPow, ↓rShl, ↓rShr, ↓rBand, ↓rBor, ↓rInt, ↓cInt, ↓cLen_tup, ↓cLen_str, ↓cLen_lst, ↓cLen_ref, ↓cTuple, ↓cSorted, ↓cMax2, ↓rEq, ↓rNe, ↓rLt, ↓rGt, ↓rLe, ↓rGe, ↓rOrd, ↓rIn, ↓rIs, ↓isNone, ↓truD, ↓frzAll, ↓diA, ↓diR1, ↓diR2, ↓dFor, ↓dLc, ↓dLcM, ↓dtYes, ↓wipeD, dat, datL, seqL, L2.CPow, List.getElem?_cons_zero, List.getElem?_cons_succ, List.set_cons_zero, List.set_cons_succ, List.length_cons, List.length_nil, List.map_cons, List.map_nil, upS_same, if_true, if_false, Bool.false_eq_true, true_and, and_true, Bool.not_true, Bool.not_false, Bool.true_xor, Bool.false_xor, eqv_int, eqv_str, eqv_bool, dp_int, dp_str, dp_bool, dp_none, al_int, al_str, min00, ne_int, ne_str, mapM_p, atD_zero, atD_one, atD_two, atD_three, PyData.isTuple, PyData.isInt, PyData.isStr, PyData.isBool, PyData.isList, PyData.isDict, Nat.reduceAdd, Int.cast_ofNat_Int, Int.reduceEq, Int.reduceAdd, Int.reduceSub, decide_true, decide_false, decide_eq_true_eq, ↓reduceIte, reduceCtorEq, ↓t__law_new_pool_4, zs_len, List.length_map, List.take_length]
    by_cases h0 : ((ns.length + 1 : Nat) : Int) = 1
    · have : ns = [] := by cases ns with | nil => rfl | cons => simp at h0; omega
      subst this
      simp only [↓dSeq, ↓dNext, ↓dSet, ↓dDrop, ↓dRet, ↓dRetN, ↓dIfS, ↓dAsg, ↓dBreak, ↓dCont, ↓dVar, ↓dC, ↓dOp, ↓dTB, ↓dtAnd, ↓dtOr, ↓dtNot, ↓dTru, ↓dAnd, ↓dOr, ↓dNot, ↓dIf, ↓dChain, ↓dCall, ↓dCB, ↓dCons, ↓dNil, ↓dStar, ↓dTup, ↓dLst, ↓dLstM, ↓dIsa, ↓dApp, ↓dNeg, ↓gdName, ↓gdTup, ↓gdCons, ↓gdNil, ↓gdSub, ↓rIx_tup, ↓rIx_str, ↓rIx_lst, ↓rIx_ref, ↓rSetL, ↓rSl, ↓dSl, ↓doNone, ↓doSome, ↓rAdd, ↓rSub, ↓rMul, ↓rMod, ↓rFdiv, ↓rPow, ↓rShl, ↓rShr, ↓rBand, ↓rBor, ↓rInt, ↓cInt, ↓cLen_tup, ↓cLen_str, ↓cLen_lst, ↓cLen_ref, ↓cTuple, ↓cSorted, ↓cMax2, ↓rEq, ↓rNe, ↓rLt, ↓rGt, ↓rLe, ↓rGe, ↓rOrd, ↓rIn, ↓rIs, ↓isNone, ↓truD, ↓frzAll, ↓diA, ↓diR1, ↓diR2, ↓dFor, ↓dLc, ↓dLcM, ↓dtYes, ↓wipeD, dat, datL, seqL, L2.CPow, List.getElem?_cons_zero, List.getElem?_cons_succ, List.set_cons_zero, List.set_cons_succ, List.length_cons, List.length_nil, List.map_cons, List.map_nil, upS_same, if_true, if_false, Bool.false_eq_true, true_and, and_true, Bool.not_true, Bool.not_false, Bool.true_xor, Bool.false_xor, eqv_int, eqv_str, eqv_bool, dp_int, dp_str, dp_bool, dp_none, al_int, al_str, min00, ne_int, ne_str, mapM_p, atD_zero, atD_one, atD_two, atD_three, PyData.isTuple, PyData.isInt, PyData.isStr, PyData.isBool, PyData.isList, PyData.isDict, Nat.reduceAdd, Int.cast_ofNat_Int, Int.reduceEq, Int.reduceAdd, Int.reduceSub, decide_true, decide_false, decide_eq_true_eq, ↓reduceIte, reduceCtorEq, ↓t__law_new_pool_2, ↓t__law_new_pool_3, h0, zs_len, List.length_nil]
      refine ⟨⟨_, rfl⟩, by decide, ?_⟩
      rw [upS_upS, zs_snoc]
      exact Fin.same (hQ p _ hp ⟨_, rfl, by decide, by decide⟩)
    · simp only [↓dSeq, ↓dNext, ↓dSet, ↓dDrop, ↓dRet, ↓dRetN, ↓dIfS, ↓dAsg, ↓dBreak, ↓dCont, ↓dVar, ↓dC, ↓dOp, ↓dTB, ↓dtAnd, ↓dtOr, ↓dtNot, ↓dTru, ↓dAnd, ↓dOr, ↓dNot, ↓dIf, ↓dChain, ↓dCall, ↓dCB, ↓dCons, ↓dNil, ↓dStar, ↓dTup, ↓dLst, ↓dLstM, ↓dIsa, ↓dApp, ↓dNeg, ↓gdName, ↓gdTup, ↓gdCons, ↓gdNil, ↓gdSub, ↓rIx_tup, ↓rIx_str, ↓rIx_lst, ↓rIx_ref, ↓rSetL, ↓rSl, ↓dSl, ↓doNone, ↓doSome, ↓rAdd, ↓rSub, ↓rMul, ↓rMod, ↓rFdiv, ↓rPow, ↓rShl, ↓rShr, ↓rBand, ↓rBor, ↓rInt, ↓cInt, ↓cLen_tup, ↓cLen_str, ↓cLen_lst, ↓cLen_ref, ↓cTuple, ↓cSorted, ↓cMax2, ↓rEq, ↓rNe, ↓rLt, ↓rGt, ↓rLe, ↓rGe, ↓rOrd, ↓rIn, ↓rIs, ↓isNone, ↓truD, ↓frzAll, ↓diA, ↓diR1, ↓diR2, ↓dFor, ↓dLc, ↓dLcM, ↓dtYes, ↓wipeD, dat, datL, seqL, L2.CPow, List.getElem?_cons_zero, List.getElem?_cons_succ, List.set_cons_zero, List.set_cons_succ, List.length_cons, List.length_nil, List.map_cons, List.map_nil, upS_same, if_true, if_false, Bool.false_eq_true, true_and, and_true, Bool.not_true, Bool.not_false, Bool.true_xor, Bool.false_xor, eqv_int, eqv_str, eqv_bool, dp_int, dp_str, dp_bool, dp_none, al_int, al_str, min00, ne_int, ne_str, mapM_p, atD_zero, atD_one, atD_two, atD_three, PyData.isTuple, PyData.isInt, PyData.isStr, PyData.isBool, PyData.isList, PyData.isDict, Nat.reduceAdd, Int.cast_ofNat_Int, Int.reduceEq, Int.reduceAdd, Int.reduceSub, decide_true, decide_false, decide_eq_true_eq, ↓reduceIte, reduceCtorEq, h0, ↓t__law_new_pool_3]
      exact Fin.same (hQ p _ hp ⟨_, rfl, by simp only [List.length_cons]; omega, by simp only [List.length_cons]; omega⟩)

/-! ### new_word -/
def sp_new_word : DSp := fun ds S Q => ∃ p o, ds = [.r p] ∧ S p = some o ∧ PoolO o ∧ ∀ x o', x.length ≤ 100 → PoolO o' → Q (.p (.str x)) (upS S p o')
theorem hs_new_word (ds : List D) (S : Sto) (Q : DQ) (hl : ds.length = 1) (h : sp_new_word ds S Q) : t__law_new_word sp_take { nx := fun _ S' => Fin Q (.p .none) S', rt := Fin Q } (dstart 3 ds) S := by
  obtain ⟨p, o, rfl, hS, ho, hQ⟩ := h
  show t__law_new_word _ _ [some (.r p), none, none] S
  simp only [↓dSeq, ↓dNext, ↓dSet, ↓dDrop, ↓dRet, ↓dRetN, ↓dIfS, ↓dAsg, ↓dBreak, ↓dCont, ↓dVar, ↓dC, ↓dOp, ↓dTB, ↓dtAnd, ↓dtOr, ↓dtNot, ↓dTru, ↓dAnd, ↓dOr, ↓dNot, ↓dIf, ↓dChain, ↓dCall, ↓dCB, ↓dCons, ↓dNil, ↓dStar, ↓dTup, ↓dLst, ↓dLstM, ↓dIsa, ↓dApp, ↓dNeg, ↓gdName, ↓gdTup, ↓gdCons, ↓gdNil, ↓gdSub, ↓rIx_tup, ↓rIx_str, ↓rIx_lst, ↓rIx_ref, ↓rSetL, ↓rSl, ↓dSl, ↓doNone, ↓doSome, ↓rAdd, ↓rSub, ↓rMul, ↓rMod, ↓rFdiv, ↓rPow, ↓rShl, ↓rShr, ↓rBand, ↓rBor, ↓rInt, ↓cInt, ↓cLen_tup, ↓cLen_str, ↓cLen_lst, ↓cLen_ref, ↓cTuple, ↓cSorted, ↓cMax2, ↓rEq, ↓rNe, ↓rLt, ↓rGt, ↓rLe, ↓rGe, ↓rOrd, ↓rIn, ↓rIs, ↓isNone, ↓truD, ↓frzAll, ↓diA, ↓diR1, ↓diR2, ↓dFor, ↓dLc, ↓dLcM, ↓dtYes, ↓wipeD, dat, datL, seqL, L2.CPow, List.getElem?_cons_zero, List.getElem?_cons_succ, List.set_cons_zero, List.set_cons_succ, List.length_cons, List.length_nil, List.map_cons, List.map_nil, upS_same, if_true, if_false, Bool.false_eq_true, true_and, and_true, Bool.not_true, Bool.not_false, Bool.true_xor, Bool.false_xor, eqv_int, eqv_str, eqv_bool, dp_int, dp_str, dp_bool, dp_none, al_int, al_str, min00, ne_int, ne_str, mapM_p, atD_zero, atD_one, atD_two, atD_three, PyData.isTuple, PyData.isInt, PyData.isStr, PyData.isBool, PyData.isList, PyData.isDict, Nat.reduceAdd, Int.cast_ofNat_Int, Int.reduceEq, Int.reduceAdd, Int.reduceSub, decide_true, decide_false, decide_eq_true_eq, ↓reduceIte, reduceCtorEq, ↓t__law_new_word, ↓t__law_new_word_3]
  refine c_take hS ho fun d o1 h0 h1 ho1 => ?_
  simp only [↓dSeq, ↓dNext, ↓dSet, ↓dDrop, ↓dRet, ↓dRetN, ↓dIfS, ↓dAsg, ↓dBreak, ↓dCont, ↓dVar, ↓dC, ↓dOp, ↓dTB, ↓dtAnd, ↓dtOr, ↓dtNot, ↓dTru, ↓dAnd, ↓dOr, ↓dNot, ↓dIf, ↓dChain, ↓dCall, ↓dCB, ↓dCons, ↓dNil, ↓dStar, ↓dTup, ↓dLst, ↓dLstM, ↓dIsa, ↓dApp, ↓dNeg, ↓gdName, ↓gdTup, ↓gdCons, ↓gdNil, ↓gdSub, ↓rIx_tup, ↓rIx_str, ↓rIx_lst, ↓rIx_ref, ↓rSetL, ↓rSl, ↓dSl, ↓doNone, ↓doSome, ↓rAdd, ↓rSub, ↓rMul, ↓rMod, ↓rFdiv, ↓rPow, ↓rShl, ↓rShr, ↓rBand, ↓rBor, ↓rInt, ↓cInt, ↓cLen_tup, ↓cLen_str, ↓cLen_lst, ↓cLen_ref, ↓cTuple, ↓cSorted, ↓cMax2, ↓rEq, ↓rNe, ↓rLt, ↓rGt, ↓rLe, ↓rGe, ↓rOrd, ↓rIn, ↓rIs, ↓isNone, ↓truD, ↓frzAll, ↓diA, ↓diR1, ↓diR2, ↓dFor, ↓dLc, ↓dLcM, ↓dtYes, ↓wipeD, dat, datL, seqL, L2.CPow, List.getElem?_cons_zero, List.getElem?_cons_succ, List.set_cons_zero, List.set_cons_succ, List.length_cons, List.length_nil, List.map_cons, List.map_nil, upS_same, if_true, if_false, Bool.false_eq_true, true_and, and_true, Bool.not_true, Bool.not_false, Bool.true_xor, Bool.false_xor, eqv_int, eqv_str, eqv_bool, dp_int, dp_str, dp_bool, dp_none, al_int, al_str, min00, ne_int, ne_str, mapM_p, atD_zero, atD_one, atD_two, atD_three, PyData.isTuple, PyData.isInt, PyData.isStr, PyData.isBool, PyData.isList, PyData.isDict, Nat.reduceAdd, Int.cast_ofNat_Int, Int.reduceEq, Int.reduceAdd, Int.reduceSub, decide_true, decide_false, decide_eq_true_eq, ↓reduceIte, reduceCtorEq]
  refine ⟨by omega, ?_⟩
  refine loop_range (fun k env S' => ∃ x e2 o', env = [some (.r p), some (.p (.str x)), e2] ∧ S' = upS S p o' ∧ PoolO o' ∧ x.length ≤ k) ⟨_, _, _, rfl, rfl, ho1, by decide⟩ ?_ ?_
  · rintro k env S' hk ⟨x, e2, o', rfl, rfl, ho', hx⟩
    simp only [↓dSeq, ↓dNext, ↓dSet, ↓dDrop, ↓dRet, ↓dRetN, ↓dIfS, ↓dAsg, ↓dBreak, ↓dCont, ↓dVar, ↓dC, ↓dOp, ↓dTB, ↓dtAnd, ↓dtOr, ↓dtNot, ↓dTru, ↓dAnd, ↓dOr, ↓dNot, ↓dIf, ↓dChain, ↓dCall, ↓dCB, ↓dCons, ↓dNil, ↓dStar, ↓dTup, ↓dLst, ↓dLstM, ↓dIsa, ↓dApp, ↓dNeg, ↓gdName, ↓gdTup, ↓gdCons, ↓gdNil, ↓gdSub, ↓rIx_tup, ↓rIx_str, ↓rIx_lst, ↓rIx_ref, ↓rSetL, ↓rSl, ↓dSl, ↓doNone, ↓doSome, ↓rAdd, ↓rSub, ↓rMul, ↓rMod, ↓rFdiv, ↓rPow, ↓rShl, ↓rShr, ↓rBand, ↓rBor, ↓rInt, ↓cInt, ↓cLen_tup, ↓cLen_str, ↓cLen_lst, ↓cLen_ref, ↓cTuple, ↓cSorted, ↓cMax2, ↓rEq, ↓rNe, ↓rLt, ↓rGt, ↓rLe, ↓rGe, ↓rOrd, ↓rIn, ↓rIs, ↓isNone, ↓truD, ↓frzAll, ↓diA, ↓diR1, ↓diR2, ↓dFor, ↓dLc, ↓dLcM, ↓dtYes, ↓wipeD, dat, datL, seqL, L2.CPow, List.getElem?_cons_zero, List.getElem?_cons_succ, List.set_cons_zero, List.set_cons_succ, List.length_cons, List.length_nil, List.map_cons, List.map_nil, upS_same, if_true, if_false, Bool.false_eq_true, true_and, and_true, Bool.not_true, Bool.not_false, Bool.true_xor, Bool.false_xor, eqv_int, eqv_str, eqv_bool, dp_int, dp_str, dp_bool, dp_none, al_int, al_str, min00, ne_int, ne_str, mapM_p, atD_zero, atD_one, atD_two, atD_three, PyData.isTuple, PyData.isInt, PyData.isStr, PyData.isBool, PyData.isList, PyData.isDict, Nat.reduceAdd, Int.cast_ofNat_Int, Int.reduceEq, Int.reduceAdd, Int.reduceSub, decide_true, decide_false, decide_eq_true_eq, ↓reduceIte, reduceCtorEq, ↓t__law_new_word_1]
    refine c_take upS_same ho' fun d2 o2 h0 h1 ho2 => ?_
    obtain ⟨c, hc⟩ := get_ex (xs := ("abcdefghijklmnopqrstuvwxyz" : Str).cps.toList) (i := d2.toNat) (Nat.lt_of_lt_of_le (show d2.toNat < 26 by omega) (by decide))
    simp only [↓dSeq, ↓dNext, ↓dSet, ↓dDrop, ↓dRet, ↓dRetN, ↓dIfS, ↓dAsg, ↓dBreak, ↓dCont, ↓dVar, ↓dC, ↓dOp, ↓dTB, ↓dtAnd, ↓dtOr, ↓dtNot, ↓dTru, ↓dAnd, ↓dOr, ↓dNot, ↓dIf, ↓dChain, ↓dCall, ↓dCB, ↓dCons, ↓dNil, ↓dStar, ↓dTup, ↓dLst, ↓dLstM, ↓dIsa, ↓dApp, ↓dNeg, ↓gdName, ↓gdTup, ↓gdCons, ↓gdNil, ↓gdSub, ↓rIx_tup, ↓rIx_str, ↓rIx_lst, ↓rIx_ref, ↓rSetL, ↓rSl, ↓dSl, ↓doNone, ↓doSome, ↓rAdd, ↓rSub, ↓rMul, ↓rMod, ↓rFdiv, ↓rPow, ↓rShl, ↓rShr, ↓rBand, ↓rBor, ↓rInt, ↓cInt, ↓cLen_tup, ↓cLen_str, ↓cLen_lst, ↓cLen_ref, ↓cTuple, ↓cSorted, ↓cMax2, ↓rEq, ↓rNe, ↓rLt, ↓rGt, ↓rLe, ↓rGe, ↓rOrd, ↓rIn, ↓rIs, ↓isNone, ↓truD, ↓frzAll, ↓diA, ↓diR1, ↓diR2, ↓dFor, ↓dLc, ↓dLcM, ↓dtYes, ↓wipeD, dat, datL, seqL, L2.CPow, List.getElem?_cons_zero, List.getElem?_cons_succ, List.set_cons_zero, List.set_cons_succ, List.length_cons, List.length_nil, List.map_cons, List.map_nil, upS_same, if_true, if_false, Bool.false_eq_true, true_and, and_true, Bool.not_true, Bool.not_false, Bool.true_xor, Bool.false_xor, eqv_int, eqv_str, eqv_bool, dp_int, dp_str, dp_bool, dp_none, al_int, al_str, min00, ne_int, ne_str, mapM_p, atD_zero, atD_one, atD_two, atD_three, PyData.isTuple, PyData.isInt, PyData.isStr, PyData.isBool, PyData.isList, PyData.isDict, Nat.reduceAdd, Int.cast_ofNat_Int, Int.reduceEq, Int.reduceAdd, Int.reduceSub, decide_true, decide_false, decide_eq_true_eq, ↓reduceIte, reduceCtorEq, atD_int h0 hc]
    refine ⟨by decide, ?_, _, _, _, rfl, by rw [upS_upS], ho2, ?_⟩
    · exact small (by show x.length + 1 ≤ _; omega)
    · rw [str_len]; show x.length + 1 ≤ _; omega
  · rintro env S' ⟨x, e2, o', rfl, rfl, ho', hx⟩
    simp only [↓dSeq, ↓dNext, ↓dSet, ↓dDrop, ↓dRet, ↓dRetN, ↓dIfS, ↓dAsg, ↓dBreak, ↓dCont, ↓dVar, ↓dC, ↓dOp, ↓dTB, ↓dtAnd, ↓dtOr, ↓dtNot, ↓dTru, ↓dAnd, ↓dOr, ↓dNot, ↓dIf, ↓dChain, ↓dCall, ↓dCB, ↓dCons, ↓dNil, ↓dStar, ↓dTup, ↓dLst, ↓dLstM, ↓dIsa, ↓dApp, ↓dNeg, ↓gdName, ↓gdTup, ↓gdCons, ↓gdNil, ↓gdSub, ↓rIx_tup, ↓rIx_str, ↓rIx_lst, ↓rIx_ref, ↓rSetL, ↓rSl, ↓dSl, ↓doNone, ↓doSome, ↓rAdd, ↓rSub, ↓rMul, ↓rMod, ↓rFdiv, ↓rPow, ↓rShl, ↓rShr, ↓rBand, ↓rBor, ↓rInt, ↓cInt, ↓cLen_tup, ↓cLen_str, ↓cLen_lst, ↓cLen_ref, ↓cTuple, ↓cSorted, ↓cMax2, ↓rEq, ↓rNe, ↓rLt, ↓rGt, ↓rLe, ↓rGe, ↓rOrd, ↓rIn, ↓rIs, ↓isNone, ↓truD, ↓frzAll, ↓diA, ↓diR1, ↓diR2, ↓dFor, ↓dLc, ↓dLcM, ↓dtYes, ↓wipeD, dat, datL, seqL, L2.CPow, List.getElem?_cons_zero, List.getElem?_cons_succ, List.set_cons_zero, List.set_cons_succ, List.length_cons, List.length_nil, List.map_cons, List.map_nil, upS_same, if_true, if_false, Bool.false_eq_true, true_and, and_true, Bool.not_true, Bool.not_false, Bool.true_xor, Bool.false_xor, eqv_int, eqv_str, eqv_bool, dp_int, dp_str, dp_bool, dp_none, al_int, al_str, min00, ne_int, ne_str, mapM_p, atD_zero, atD_one, atD_two, atD_three, PyData.isTuple, PyData.isInt, PyData.isStr, PyData.isBool, PyData.isList, PyData.isDict, Nat.reduceAdd, Int.cast_ofNat_Int, Int.reduceEq, Int.reduceAdd, Int.reduceSub, decide_true, decide_false, decide_eq_true_eq, ↓reduceIte, reduceCtorEq, ↓t__law_new_word_2]
    exact Fin.same (hQ x o' (by omega) ho')
theorem c_new_word {p : Nat} {o : MO} {S : Sto} {Q : DQ} (hS : S p = some o) (ho : PoolO o) (h : ∀ x o', x.length ≤ 100 → PoolO o' → Q (.p (.str x)) (upS S p o')) : sp_new_word [.r p] S Q := ⟨p, o, rfl, hS, ho, h⟩
end Sh

set_option Elab.async false
set_option linter.all false
set_option autoImplicit false
set_option maxRecDepth 100000
set_option maxHeartbeats 2000000
/-! Sx, part B: names -/
namespace Sh
open PySem Tx Mx

theorem up2 {S : Sto} {p m : Nat} {a b L : MO} (h : p ≠ m) : upS (upS (upS S p a) m L) p b = upS (upS S p b) m L := by
  rw [upS_comm (Ne.symm h), upS_upS]
theorem at2 {S : Sto} {p m : Nat} {a L : MO} (h : p ≠ m) : upS (upS S p a) m L p = some a := by rw [upS_ne h, upS_same]
theorem fresh2 {S : Sto} {p m : Nat} {a : MO} (h : upS S p a m = none) : p ≠ m ∧ S m = none := by
  have e : p ≠ m := fun e => by rw [← e, upS_same] at h; cases h
  exact ⟨e, by rw [upS_ne (Ne.symm e)] at h; exact h⟩
theorem any_nm (ns : List Nm) (a : Nm) : ((ns.map Nm.enc).any fun e => PyData.eqv e a.enc) = decide (a ∈ ns) := by
  induction ns with
  | nil => simp
  | cons b ns ih =>
    rw [List.map_cons, List.any_cons, ih, eqv_nm]
    simp [eq_comm]
theorem depthAll_nm (ns : List Nm) : PyData.depthAll (ns.map Nm.enc) ≤ 1 := by
  induction ns with
  | nil => simp [PyData.depthAll]
  | cons b ns ih => rw [List.map_cons, PyData.depthAll, depth_nm]; omega
theorem alikeAll_nm (ns : List Nm) : PySem.W.AllAlike (ns.map Nm.enc) := PySem.W.AllAlike.of alike_nm
theorem sortable_nm (ns : List Nm) : PySem.W.Sortable (ns.map Nm.enc) := PySem.W.Sortable.tuples fun b => ⟨_, _, rfl⟩
theorem sort_nm {ns : List Nm} (hd : ns.Nodup) : ∃ ms : List Nm, (ns.map Nm.enc).mergeSort (PySem.W.dataLe false id) = ms.map Nm.enc ∧ Asc ms ∧ ms.length = ns.length ∧ ∀ m, m ∈ ms ↔ m ∈ ns := by
  refine ⟨ns.mergeSort (fun a b => !nlt b a), ?_, ?_, List.length_mergeSort _, fun m => List.mem_mergeSort⟩
  · rw [List.map_mergeSort (s := PySem.W.dataLe false id)]
    intro a _ b _
    rfl
  · have h1 : (ns.mergeSort (fun a b => !nlt b a)).Pairwise fun a b => (!nlt b a) = true := by
      refine List.pairwise_mergeSort (fun a b c h k => ?_) (fun a b => ?_) ns
      · rw [Bool.not_eq_true'] at h k ⊢
        cases e : nlt c a with
        | false => rfl
        | true =>
          exfalso
          by_cases ab : a = b
          · subst ab; rw [e] at k; cases k
          · cases e2 : nlt a b with
            | false => exact ab (nlt_tot e2 h)
            | true => rw [nlt_trans e e2] at k; cases k
      · cases e : nlt b a with
        | false => simp
        | true => rw [nlt_asym e]; simp
    have h2 : (ns.mergeSort (fun a b => !nlt b a)).Nodup := (List.mergeSort_perm ns _).nodup_iff.mpr hd
    refine (h1.and h2).imp fun {a b} h => ?_
    obtain ⟨h, k⟩ := h
    cases e : nlt a b with
    | true => rfl
    | false => rw [Bool.not_eq_true'] at h; exact absurd (nlt_tot e h) k
theorem encs_len {ns : List Nm} : (ns.map Nm.enc).length = ns.length := List.length_map _
theorem encs_depth {ns : List Nm} : ∀ d ∈ ns.map Nm.enc, d.depth ≤ 50 := fun d hd => by
  obtain ⟨a, _, rfl⟩ := List.mem_map.mp hd
  rw [depth_nm]; decide

/-! ### name_list -/
def sp_name_list : DSp := fun ds S Q => ∃ p o c, ds = [.r p, D.p (.int c)] ∧ 0 ≤ c ∧ c ≤ 50 ∧ S p = some o ∧ PoolO o ∧ ∀ ns o', Asc ns → (ns.length : Int) ≤ c → PoolO o' → Q (D.p (.list (ns.map Nm.enc))) (upS S p o')
theorem c_name_list {p : Nat} {c : Int} {o : MO} {S : Sto} {Q : DQ} (hS : S p = some o) (ho : PoolO o) (h0 : 0 ≤ c) (h1 : c ≤ 50) (h : ∀ ns o', Asc ns → (ns.length : Int) ≤ c → PoolO o' → Q (D.p (.list (ns.map Nm.enc))) (upS S p o')) : sp_name_list [.r p, D.p (.int c)] S Q :=
  ⟨p, o, c, rfl, h0, h1, hS, ho, h⟩
theorem owner_ex {i : Nat} (h : i < 7) : ∃ x : Str, ([D.p (.str ""), D.p (.str "bob"), D.p (.str "eve"), D.p (.str "ab"), D.p (.str "abcdef"), D.p (.str "zz"), D.p (.str "bobby")] : List D)[i]? = some (D.p (.str x)) := by
  have : i = 0 ∨ i = 1 ∨ i = 2 ∨ i = 3 ∨ i = 4 ∨ i = 5 ∨ i = 6 := by omega
  rcases this with rfl | rfl | rfl | rfl | rfl | rfl | rfl <;> exact ⟨_, rfl⟩
theorem house_ex {i : Nat} (h : i < 8) : ∃ c, ("ABCDEFGH" : Str).cps.toList[i]? = some c := get_ex (Nat.lt_of_lt_of_le h (by decide))
theorem hs_name_list (ds : List D) (S : Sto) (Q : DQ) (hl : ds.length = 2) (h : sp_name_list ds S Q) : t__law_name_list sp_take sp_new_word { nx := fun _ S' => Fin Q (.p .none) S', rt := Fin Q } (dstart 12 ds) S := by
  obtain ⟨p, o, c, rfl, hc0, hc1, hS, ho, hQ⟩ := h
  show t__law_name_list _ _ _ [some (.r p), some (D.p (.int c)), none, none, none, none, none, none, none, none, none, none] S
  simp only [↓dSeq, ↓dNext, ↓dSet, ↓dDrop, ↓dRet, ↓dRetN, ↓dIfS, ↓dAsg, ↓dBreak, ↓dCont, ↓dVar, ↓dC, ↓dOp, ↓dTB, ↓dtAnd, ↓dtOr, ↓dtNot, ↓dTru, ↓dAnd, ↓dOr, ↓dNot, ↓dIf, ↓dChain, ↓dCall, ↓dCB, ↓dCons, ↓dNil, ↓dStar, ↓dTup, ↓dLst, ↓dLstM, ↓dIsa, ↓dApp, ↓dNeg, ↓gdName, ↓gdTup, ↓gdCons, ↓gdNil, ↓gdSub, ↓rIx_tup, ↓rIx_str, ↓rIx_lst, ↓rIx_ref, ↓rSetL, ↓rSl, ↓dSl, ↓doNone, ↓doSome, ↓rAdd, ↓rSub, ↓rMul, ↓rMod, ↓rFdiv, ↓rPow, ↓rShl, ↓rShr, ↓rBand, ↓rBor, ↓rInt, ↓cInt, ↓cLen_tup, ↓cLen_str, ↓cLen_lst, ↓cLen_ref, ↓cTuple, ↓cSorted, ↓cMax2, ↓rEq, ↓rNe, ↓rLt, ↓rGt, ↓rLe, ↓rGe, ↓rOrd, ↓rIn, ↓rIs, ↓isNone, ↓truD, ↓frzAll, ↓diA, ↓diR1, ↓diR2, ↓dFor, ↓dLc, ↓dLcM, ↓dtYes, ↓wipeD, dat, datL, seqL, L2.CPow, List.getElem?_cons_zero, List.getElem?_cons_succ, List.set_cons_zero, List.set_cons_succ, List.length_cons, List.length_nil, List.map_cons, List.map_nil, upS_same, if_true, if_false, Bool.false_eq_true, true_and, and_true, Bool.not_true, Bool.not_false, Bool.true_xor, Bool.false_xor, eqv_int, eqv_str, eqv_bool, dp_int, dp_str, dp_bool, dp_none, al_int, al_str, min00, ne_int, ne_str, mapM_p, atD_zero, atD_one, atD_two, atD_three, PyData.isTuple, PyData.isInt, PyData.isStr, PyData.isBool, PyData.isList, PyData.isDict, Nat.reduceAdd, Int.cast_ofNat_Int, Int.reduceEq, Int.reduceAdd, Int.reduceSub, decide_true, decide_false, decide_eq_true_eq, ↓reduceIte, reduceCtorEq, ↓t__law_name_list]
  refine ⟨by decide, ?_⟩
  simp only [↓dSeq, ↓dNext, ↓dSet, ↓dDrop, ↓dRet, ↓dRetN, ↓dIfS, ↓dAsg, ↓dBreak, ↓dCont, ↓dVar, ↓dC, ↓dOp, ↓dTB, ↓dtAnd, ↓dtOr, ↓dtNot, ↓dTru, ↓dAnd, ↓dOr, ↓dNot, ↓dIf, ↓dChain, ↓dCall, ↓dCB, ↓dCons, ↓dNil, ↓dStar, ↓dTup, ↓dLst, ↓dLstM, ↓dIsa, ↓dApp, ↓dNeg, ↓gdName, ↓gdTup, ↓gdCons, ↓gdNil, ↓gdSub, ↓rIx_tup, ↓rIx_str, ↓rIx_lst, ↓rIx_ref, ↓rSetL, ↓rSl, ↓dSl, ↓doNone, ↓doSome, ↓rAdd, ↓rSub, ↓rMul, ↓rMod, ↓rFdiv, ↓rPow, ↓rShl, ↓rShr, ↓rBand, ↓rBor, ↓rInt, ↓cInt, ↓cLen_tup, ↓cLen_str, ↓cLen_lst, ↓cLen_ref, ↓cTuple, ↓cSorted, ↓cMax2, ↓rEq, ↓rNe, ↓rLt, ↓rGt, ↓rLe, ↓rGe, ↓rOrd, ↓rIn, ↓rIs, ↓isNone, ↓truD, ↓frzAll, ↓diA, ↓diR1, ↓diR2, ↓dFor, ↓dLc, ↓dLcM, ↓dtYes, ↓wipeD, dat, datL, seqL, L2.CPow, List.getElem?_cons_zero, List.getElem?_cons_succ, List.set_cons_zero, List.set_cons_succ, List.length_cons, List.length_nil, List.map_cons, List.map_nil, upS_same, if_true, if_false, Bool.false_eq_true, true_and, and_true, Bool.not_true, Bool.not_false, Bool.true_xor, Bool.false_xor, eqv_int, eqv_str, eqv_bool, dp_int, dp_str, dp_bool, dp_none, al_int, al_str, min00, ne_int, ne_str, mapM_p, atD_zero, atD_one, atD_two, atD_three, PyData.isTuple, PyData.isInt, PyData.isStr, PyData.isBool, PyData.isList, PyData.isDict, Nat.reduceAdd, Int.cast_ofNat_Int, Int.reduceEq, Int.reduceAdd, Int.reduceSub, decide_true, decide_false, decide_eq_true_eq, ↓reduceIte, reduceCtorEq, ↓t__law_name_list_20]
  refine c_take hS ho fun mode o1 _ _ ho1 => ?_
  simp only [↓dSeq, ↓dNext, ↓dSet, ↓dDrop, ↓dRet, ↓dRetN, ↓dIfS, ↓dAsg, ↓dBreak, ↓dCont, ↓dVar, ↓dC, ↓dOp, ↓dTB, ↓dtAnd, ↓dtOr, ↓dtNot, ↓dTru, ↓dAnd, ↓dOr, ↓dNot, ↓dIf, ↓dChain, ↓dCall, ↓dCB, ↓dCons, ↓dNil, ↓dStar, ↓dTup, ↓dLst, ↓dLstM, ↓dIsa, ↓dApp, ↓dNeg, ↓gdName, ↓gdTup, ↓gdCons, ↓gdNil, ↓gdSub, ↓rIx_tup, ↓rIx_str, ↓rIx_lst, ↓rIx_ref, ↓rSetL, ↓rSl, ↓dSl, ↓doNone, ↓doSome, ↓rAdd, ↓rSub, ↓rMul, ↓rMod, ↓rFdiv, ↓rPow, ↓rShl, ↓rShr, ↓rBand, ↓rBor, ↓rInt, ↓cInt, ↓cLen_tup, ↓cLen_str, ↓cLen_lst, ↓cLen_ref, ↓cTuple, ↓cSorted, ↓cMax2, ↓rEq, ↓rNe, ↓rLt, ↓rGt, ↓rLe, ↓rGe, ↓rOrd, ↓rIn, ↓rIs, ↓isNone, ↓truD, ↓frzAll, ↓diA, ↓diR1, ↓diR2, ↓dFor, ↓dLc, ↓dLcM, ↓dtYes, ↓wipeD, dat, datL, seqL, L2.CPow, List.getElem?_cons_zero, List.getElem?_cons_succ, List.set_cons_zero, List.set_cons_succ, List.length_cons, List.length_nil, List.map_cons, List.map_nil, upS_same, if_true, if_false, Bool.false_eq_true, true_and, and_true, Bool.not_true, Bool.not_false, Bool.true_xor, Bool.false_xor, eqv_int, eqv_str, eqv_bool, dp_int, dp_str, dp_bool, dp_none, al_int, al_str, min00, ne_int, ne_str, mapM_p, atD_zero, atD_one, atD_two, atD_three, PyData.isTuple, PyData.isInt, PyData.isStr, PyData.isBool, PyData.isList, PyData.isDict, Nat.reduceAdd, Int.cast_ofNat_Int, Int.reduceEq, Int.reduceAdd, Int.reduceSub, decide_true, decide_false, decide_eq_true_eq, ↓reduceIte, reduceCtorEq, ↓t__law_name_list_19]
  refine c_take upS_same ho1 fun start o2 _ _ ho2 => ?_
  rw [upS_upS]
  simp only [↓dSeq, ↓dNext, ↓dSet, ↓dDrop, ↓dRet, ↓dRetN, ↓dIfS, ↓dAsg, ↓dBreak, ↓dCont, ↓dVar, ↓dC, ↓dOp, ↓dTB, ↓dtAnd, ↓dtOr, ↓dtNot, ↓dTru, ↓dAnd, ↓dOr, ↓dNot, ↓dIf, ↓dChain, ↓dCall, ↓dCB, ↓dCons, ↓dNil, ↓dStar, ↓dTup, ↓dLst, ↓dLstM, ↓dIsa, ↓dApp, ↓dNeg, ↓gdName, ↓gdTup, ↓gdCons, ↓gdNil, ↓gdSub, ↓rIx_tup, ↓rIx_str, ↓rIx_lst, ↓rIx_ref, ↓rSetL, ↓rSl, ↓dSl, ↓doNone, ↓doSome, ↓rAdd, ↓rSub, ↓rMul, ↓rMod, ↓rFdiv, ↓rPow, ↓rShl, ↓rShr, ↓rBand, ↓rBor, ↓rInt, ↓cInt, ↓cLen_tup, ↓cLen_str, ↓cLen_lst, ↓cLen_ref, ↓cTuple, ↓cSorted, ↓cMax2, ↓rEq, ↓rNe, ↓rLt, ↓rGt, ↓rLe, ↓rGe, ↓rOrd, ↓rIn, ↓rIs, ↓isNone, ↓truD, ↓frzAll, ↓diA, ↓diR1, ↓diR2, ↓dFor, ↓dLc, ↓dLcM, ↓dtYes, ↓wipeD, dat, datL, seqL, L2.CPow, List.getElem?_cons_zero, List.getElem?_cons_succ, List.set_cons_zero, List.set_cons_succ, List.length_cons, List.length_nil, List.map_cons, List.map_nil, upS_same, if_true, if_false, Bool.false_eq_true, true_and, and_true, Bool.not_true, Bool.not_false, Bool.true_xor, Bool.false_xor, eqv_int, eqv_str, eqv_bool, dp_int, dp_str, dp_bool, dp_none, al_int, al_str, min00, ne_int, ne_str, mapM_p, atD_zero, atD_one, atD_two, atD_three, PyData.isTuple, PyData.isInt, PyData.isStr, PyData.isBool, PyData.isList, PyData.isDict, Nat.reduceAdd, Int.cast_ofNat_Int, Int.reduceEq, Int.reduceAdd, Int.reduceSub, decide_true, decide_false, decide_eq_true_eq, ↓reduceIte, reduceCtorEq, ↓t__law_name_list_18]
  refine ⟨by decide, fun m hm => ?_⟩
  obtain ⟨hpm, hm0⟩ := fresh2 hm
  simp only [↓dSeq, ↓dNext, ↓dSet, ↓dDrop, ↓dRet, ↓dRetN, ↓dIfS, ↓dAsg, ↓dBreak, ↓dCont, ↓dVar, ↓dC, ↓dOp, ↓dTB, ↓dtAnd, ↓dtOr, ↓dtNot, ↓dTru, ↓dAnd, ↓dOr, ↓dNot, ↓dIf, ↓dChain, ↓dCall, ↓dCB, ↓dCons, ↓dNil, ↓dStar, ↓dTup, ↓dLst, ↓dLstM, ↓dIsa, ↓dApp, ↓dNeg, ↓gdName, ↓gdTup, ↓gdCons, ↓gdNil, ↓gdSub, ↓rIx_tup, ↓rIx_str, ↓rIx_lst, ↓rIx_ref, ↓rSetL, ↓rSl, ↓dSl, ↓doNone, ↓doSome, ↓rAdd, ↓rSub, ↓rMul, ↓rMod, ↓rFdiv, ↓rPow, ↓rShl, ↓rShr, ↓rBand, ↓rBor, ↓rInt, ↓cInt, ↓cLen_tup, ↓cLen_str, ↓cLen_lst, ↓cLen_ref, ↓cTuple, ↓cSorted, ↓cMax2, ↓rEq, ↓rNe, ↓rLt, ↓rGt, ↓rLe, ↓rGe, ↓rOrd, ↓rIn, ↓rIs, ↓isNone, ↓truD, ↓frzAll, ↓diA, ↓diR1, ↓diR2, ↓dFor, ↓dLc, ↓dLcM, ↓dtYes, ↓wipeD, dat, datL, seqL, L2.CPow, List.getElem?_cons_zero, List.getElem?_cons_succ, List.set_cons_zero, List.set_cons_succ, List.length_cons, List.length_nil, List.map_cons, List.map_nil, upS_same, if_true, if_false, Bool.false_eq_true, true_and, and_true, Bool.not_true, Bool.not_false, Bool.true_xor, Bool.false_xor, eqv_int, eqv_str, eqv_bool, dp_int, dp_str, dp_bool, dp_none, al_int, al_str, min00, ne_int, ne_str, mapM_p, atD_zero, atD_one, atD_two, atD_three, PyData.isTuple, PyData.isInt, PyData.isStr, PyData.isBool, PyData.isList, PyData.isDict, Nat.reduceAdd, Int.cast_ofNat_Int, Int.reduceEq, Int.reduceAdd, Int.reduceSub, decide_true, decide_false, decide_eq_true_eq, ↓reduceIte, reduceCtorEq, ↓t__law_name_list_17]
  refine ⟨by omega, ?_⟩
  generalize hown : D.p (PyData.list [PyData.str "", PyData.str "bob", PyData.str "eve", PyData.str "ab", PyData.str "abcdef", PyData.str "zz", PyData.str "bobby"]) = own
  refine lp_range (fun k env S' => ∃ o' ns e6 e7 e8 e9 e10 e11, env = [some (.r p), some (D.p (.int c)), some own, some (D.p (.int mode)), some (D.p (.int start)), some (.r m), e6, e7, e8, e9, e10, e11] ∧ S' = upS (upS S p o') m (.lst ((List.map Nm.enc ns).map D.p)) ∧ PoolO o' ∧ ns.Nodup ∧ ns.length ≤ k) ⟨o2, [], none, none, none, none, none, none, rfl, rfl, ho2, List.nodup_nil, by simp⟩ ?_ ?_
  · rintro k env S' De' hk ⟨o', ns, e6, e7, e8, e9, e10, e11, rfl, rfl, ho', hnd, hlen⟩ hnx - - -
    have hkc : (k : Int) < c := by omega
    -- the name is known
    have k2 : ∀ (a : Nm) o4 e6 e7 e8 e9 e10, PoolO o4 → t__law_name_list_8 De' [some (.r p), some (D.p (.int c)), some own, some (D.p (.int mode)), some (D.p (.int start)), some (.r m), e6, e7, e8, e9, e10, some (D.p a.enc)] (upS (upS S p o4) m (.lst ((List.map Nm.enc ns).map D.p))) := by
      intro a o4 e6 e7 e8 e9 e10 ho4
      simp only [↓dSeq, ↓dNext, ↓dSet, ↓dDrop, ↓dRet, ↓dRetN, ↓dIfS, ↓dAsg, ↓dBreak, ↓dCont, ↓dVar, ↓dC, ↓dOp, ↓dTB, ↓dtAnd, ↓dtOr, ↓dtNot, ↓dTru, ↓dAnd, ↓dOr, ↓dNot, ↓dIf, ↓dChain, ↓dCall, ↓dCB, ↓dCons, ↓dNil, ↓dStar, ↓dTup, ↓dLst, ↓dLstM, ↓dIsa, ↓dApp, ↓dNeg, ↓gdName, ↓gdTup, ↓gdCons, ↓gdNil, ↓gdSub, ↓rIx_tup, ↓rIx_str, ↓rIx_lst, ↓rIx_ref, ↓rSetL, ↓rSl, ↓dSl, ↓doNone, ↓doSome, ↓rAdd, ↓rSub, ↓rMul, ↓rMod, ↓rFdiv, ↓rPow, ↓rShl, ↓rShr, ↓rBand, ↓rBor, ↓rInt, ↓cInt, ↓cLen_tup, ↓cLen_str, ↓cLen_lst, ↓cLen_ref, ↓cTuple, ↓cSorted, ↓cMax2, ↓rEq, ↓rNe, ↓rLt, ↓rGt, ↓rLe, ↓rGe, ↓rOrd, ↓rIn, ↓rIs, ↓isNone, ↓truD, ↓frzAll, ↓diA, ↓diR1, ↓diR2, ↓dFor, ↓dLc, ↓dLcM, ↓dtYes, ↓wipeD, dat, datL, seqL, L2.CPow, List.getElem?_cons_zero, List.getElem?_cons_succ, List.set_cons_zero, List.set_cons_succ, List.length_cons, List.length_nil, List.map_cons, List.map_nil, upS_same, if_true, if_false, Bool.false_eq_true, true_and, and_true, Bool.not_true, Bool.not_false, Bool.true_xor, Bool.false_xor, eqv_int, eqv_str, eqv_bool, dp_int, dp_str, dp_bool, dp_none, al_int, al_str, min00, ne_int, ne_str, mapM_p, atD_zero, atD_one, atD_two, atD_three, PyData.isTuple, PyData.isInt, PyData.isStr, PyData.isBool, PyData.isList, PyData.isDict, Nat.reduceAdd, Int.cast_ofNat_Int, Int.reduceEq, Int.reduceAdd, Int.reduceSub, decide_true, decide_false, decide_eq_true_eq, ↓reduceIte, reduceCtorEq, ↓t__law_name_list_8]
      refine ⟨min_le60' (by rw [depth_nm]; decide), ?_⟩
      rw [any_nm]
      by_cases ha : a ∈ ns
      · simp only [↓dSeq, ↓dNext, ↓dSet, ↓dDrop, ↓dRet, ↓dRetN, ↓dIfS, ↓dAsg, ↓dBreak, ↓dCont, ↓dVar, ↓dC, ↓dOp, ↓dTB, ↓dtAnd, ↓dtOr, ↓dtNot, ↓dTru, ↓dAnd, ↓dOr, ↓dNot, ↓dIf, ↓dChain, ↓dCall, ↓dCB, ↓dCons, ↓dNil, ↓dStar, ↓dTup, ↓dLst, ↓dLstM, ↓dIsa, ↓dApp, ↓dNeg, ↓gdName, ↓gdTup, ↓gdCons, ↓gdNil, ↓gdSub, ↓rIx_tup, ↓rIx_str, ↓rIx_lst, ↓rIx_ref, ↓rSetL, ↓rSl, ↓dSl, ↓doNone, ↓doSome, ↓rAdd, ↓rSub, ↓rMul, ↓rMod, ↓rFdiv, ↓rPow, ↓rShl, ↓rShr, ↓rBand, ↓rBor, ↓rInt, ↓cInt, ↓cLen_tup, ↓cLen_str, ↓cLen_lst, ↓cLen_ref, ↓cTuple, ↓cSorted, ↓cMax2, ↓rEq, ↓rNe, ↓rLt, ↓rGt, ↓rLe, ↓rGe, ↓rOrd, ↓rIn, ↓rIs, ↓isNone, ↓truD, ↓frzAll, ↓diA, ↓diR1, ↓diR2, ↓dFor, ↓dLc, ↓dLcM, ↓dtYes, ↓wipeD, dat, datL, seqL, L2.CPow, List.getElem?_cons_zero, List.getElem?_cons_succ, List.set_cons_zero, List.set_cons_succ, List.length_cons, List.length_nil, List.map_cons, List.map_nil, upS_same, if_true, if_false, Bool.false_eq_true, true_and, and_true, Bool.not_true, Bool.not_false, Bool.true_xor, Bool.false_xor, eqv_int, eqv_str, eqv_bool, dp_int, dp_str, dp_bool, dp_none, al_int, al_str, min00, ne_int, ne_str, mapM_p, atD_zero, atD_one, atD_two, atD_three, PyData.isTuple, PyData.isInt, PyData.isStr, PyData.isBool, PyData.isList, PyData.isDict, Nat.reduceAdd, Int.cast_ofNat_Int, Int.reduceEq, Int.reduceAdd, Int.reduceSub, decide_true, decide_false, decide_eq_true_eq, ↓reduceIte, reduceCtorEq, decide_eq_true ha, Bool.xor_self]
        exact hnx _ _ trivial ⟨o4, ns, _, _, _, _, _, _, rfl, rfl, ho4, hnd, by omega⟩
      · simp only [↓dSeq, ↓dNext, ↓dSet, ↓dDrop, ↓dRet, ↓dRetN, ↓dIfS, ↓dAsg, ↓dBreak, ↓dCont, ↓dVar, ↓dC, ↓dOp, ↓dTB, ↓dtAnd, ↓dtOr, ↓dtNot, ↓dTru, ↓dAnd, ↓dOr, ↓dNot, ↓dIf, ↓dChain, ↓dCall, ↓dCB, ↓dCons, ↓dNil, ↓dStar, ↓dTup, ↓dLst, ↓dLstM, ↓dIsa, ↓dApp, ↓dNeg, ↓gdName, ↓gdTup, ↓gdCons, ↓gdNil, ↓gdSub, ↓rIx_tup, ↓rIx_str, ↓rIx_lst, ↓rIx_ref, ↓rSetL, ↓rSl, ↓dSl, ↓doNone, ↓doSome, ↓rAdd, ↓rSub, ↓rMul, ↓rMod, ↓rFdiv, ↓rPow, ↓rShl, ↓rShr, ↓rBand, ↓rBor, ↓rInt, ↓cInt, ↓cLen_tup, ↓cLen_str, ↓cLen_lst, ↓cLen_ref, ↓cTuple, ↓cSorted, ↓cMax2, ↓rEq, ↓rNe, ↓rLt, ↓rGt, ↓rLe, ↓rGe, ↓rOrd, ↓rIn, ↓rIs, ↓isNone, ↓truD, ↓frzAll, ↓diA, ↓diR1, ↓diR2, ↓dFor, ↓dLc, ↓dLcM, ↓dtYes, ↓wipeD, dat, datL, seqL, L2.CPow, List.getElem?_cons_zero, List.getElem?_cons_succ, List.set_cons_zero, List.set_cons_succ, List.length_cons, List.length_nil, List.map_cons, List.map_nil, upS_same, if_true, if_false, Bool.false_eq_true, true_and, and_true, Bool.not_true, Bool.not_false, Bool.true_xor, Bool.false_xor, eqv_int, eqv_str, eqv_bool, dp_int, dp_str, dp_bool, dp_none, al_int, al_str, min00, ne_int, ne_str, mapM_p, atD_zero, atD_one, atD_two, atD_three, PyData.isTuple, PyData.isInt, PyData.isStr, PyData.isBool, PyData.isList, PyData.isDict, Nat.reduceAdd, Int.cast_ofNat_Int, Int.reduceEq, Int.reduceAdd, Int.reduceSub, decide_true, decide_false, decide_eq_true_eq, ↓reduceIte, reduceCtorEq, decide_eq_false ha, Bool.xor_false, ↓t__law_name_list_7, List.length_map]
        refine ⟨⟨_, rfl⟩, smallL (by omega), ?_⟩
        refine hnx _ _ trivial ⟨o4, ns ++ [a], _, _, _, _, _, _, rfl, ?_, ho4, ?_, by simp; omega⟩
        · rw [upS_upS]; simp
        · exact List.nodup_append.mpr ⟨hnd, by simp, fun x hx y hy => by
            rw [List.mem_singleton.mp hy]; exact fun e => ha (e ▸ hx)⟩
    -- the owner and the number are known
    have k1 : ∀ x num o4 e6 e7 e10 e11, PoolO o4 → t__law_name_list_11 sp_take De' [some (.r p), some (D.p (.int c)), some own, some (D.p (.int mode)), some (D.p (.int start)), some (.r m), some (D.p (.int e6)), e7, some (D.p (.str x)), some (D.p (.int num)), e10, e11] (upS (upS S p o4) m (.lst ((List.map Nm.enc ns).map D.p))) := by
      intro x num o4 e6 e7 e10 e11 ho4
      simp only [↓dSeq, ↓dNext, ↓dSet, ↓dDrop, ↓dRet, ↓dRetN, ↓dIfS, ↓dAsg, ↓dBreak, ↓dCont, ↓dVar, ↓dC, ↓dOp, ↓dTB, ↓dtAnd, ↓dtOr, ↓dtNot, ↓dTru, ↓dAnd, ↓dOr, ↓dNot, ↓dIf, ↓dChain, ↓dCall, ↓dCB, ↓dCons, ↓dNil, ↓dStar, ↓dTup, ↓dLst, ↓dLstM, ↓dIsa, ↓dApp, ↓dNeg, ↓gdName, ↓gdTup, ↓gdCons, ↓gdNil, ↓gdSub, ↓rIx_tup, ↓rIx_str, ↓rIx_lst, ↓rIx_ref, ↓rSetL, ↓rSl, ↓dSl, ↓doNone, ↓doSome, ↓rAdd, ↓rSub, ↓rMul, ↓rMod, ↓rFdiv, ↓rPow, ↓rShl, ↓rShr, ↓rBand, ↓rBor, ↓rInt, ↓cInt, ↓cLen_tup, ↓cLen_str, ↓cLen_lst, ↓cLen_ref, ↓cTuple, ↓cSorted, ↓cMax2, ↓rEq, ↓rNe, ↓rLt, ↓rGt, ↓rLe, ↓rGe, ↓rOrd, ↓rIn, ↓rIs, ↓isNone, ↓truD, ↓frzAll, ↓diA, ↓diR1, ↓diR2, ↓dFor, ↓dLc, ↓dLcM, ↓dtYes, ↓wipeD, dat, datL, seqL, L2.CPow, List.getElem?_cons_zero, List.getElem?_cons_succ, List.set_cons_zero, List.set_cons_succ, List.length_cons, List.length_nil, List.map_cons, List.map_nil, upS_same, if_true, if_false, Bool.false_eq_true, true_and, and_true, Bool.not_true, Bool.not_false, Bool.true_xor, Bool.false_xor, eqv_int, eqv_str, eqv_bool, dp_int, dp_str, dp_bool, dp_none, al_int, al_str, min00, ne_int, ne_str, mapM_p, atD_zero, atD_one, atD_two, atD_three, PyData.isTuple, PyData.isInt, PyData.isStr, PyData.isBool, PyData.isList, PyData.isDict, Nat.reduceAdd, Int.cast_ofNat_Int, Int.reduceEq, Int.reduceAdd, Int.reduceSub, decide_true, decide_false, decide_eq_true_eq, ↓reduceIte, reduceCtorEq, ↓t__law_name_list_11]
      refine c_take (at2 hpm) ho4 fun d o5 _ _ ho5 => ?_
      rw [up2 hpm]
      simp only [↓dSeq, ↓dNext, ↓dSet, ↓dDrop, ↓dRet, ↓dRetN, ↓dIfS, ↓dAsg, ↓dBreak, ↓dCont, ↓dVar, ↓dC, ↓dOp, ↓dTB, ↓dtAnd, ↓dtOr, ↓dtNot, ↓dTru, ↓dAnd, ↓dOr, ↓dNot, ↓dIf, ↓dChain, ↓dCall, ↓dCB, ↓dCons, ↓dNil, ↓dStar, ↓dTup, ↓dLst, ↓dLstM, ↓dIsa, ↓dApp, ↓dNeg, ↓gdName, ↓gdTup, ↓gdCons, ↓gdNil, ↓gdSub, ↓rIx_tup, ↓rIx_str, ↓rIx_lst, ↓rIx_ref, ↓rSetL, ↓rSl, ↓dSl, ↓doNone, ↓doSome, ↓rAdd, ↓rSub, ↓rMul, ↓rMod, ↓rFdiv, ↓rPow, ↓rShl, ↓rShr, ↓rBand, ↓rBor, ↓rInt, ↓cInt, ↓cLen_tup, ↓cLen_str, ↓cLen_lst, ↓cLen_ref, ↓cTuple, ↓cSorted, ↓cMax2, ↓rEq, ↓rNe, ↓rLt, ↓rGt, ↓rLe, ↓rGe, ↓rOrd, ↓rIn, ↓rIs, ↓isNone, ↓truD, ↓frzAll, ↓diA, ↓diR1, ↓diR2, ↓dFor, ↓dLc, ↓dLcM, ↓dtYes, ↓wipeD, dat, datL, seqL, L2.CPow, List.getElem?_cons_zero, List.getElem?_cons_succ, List.set_cons_zero, List.set_cons_succ, List.length_cons, List.length_nil, List.map_cons, List.map_nil, upS_same, if_true, if_false, Bool.false_eq_true, true_and, and_true, Bool.not_true, Bool.not_false, Bool.true_xor, Bool.false_xor, eqv_int, eqv_str, eqv_bool, dp_int, dp_str, dp_bool, dp_none, al_int, al_str, min00, ne_int, ne_str, mapM_p, atD_zero, atD_one, atD_two, atD_three, PyData.isTuple, PyData.isInt, PyData.isStr, PyData.isBool, PyData.isList, PyData.isDict, Nat.reduceAdd, Int.cast_ofNat_Int, Int.reduceEq, Int.reduceAdd, Int.reduceSub, decide_true, decide_false, decide_eq_true_eq, ↓reduceIte, reduceCtorEq]
      obtain ⟨ch, hch⟩ := house_ex (i := ((d + e6 / 3) % 8).toNat) (by have := Int.emod_lt_of_pos (d + e6 / 3) (show (0 : Int) < 8 by omega); omega)
      refine ⟨⟨by decide, by decide⟩, by decide, by decide, ?_⟩
      simp only [↓dSeq, ↓dNext, ↓dSet, ↓dDrop, ↓dRet, ↓dRetN, ↓dIfS, ↓dAsg, ↓dBreak, ↓dCont, ↓dVar, ↓dC, ↓dOp, ↓dTB, ↓dtAnd, ↓dtOr, ↓dtNot, ↓dTru, ↓dAnd, ↓dOr, ↓dNot, ↓dIf, ↓dChain, ↓dCall, ↓dCB, ↓dCons, ↓dNil, ↓dStar, ↓dTup, ↓dLst, ↓dLstM, ↓dIsa, ↓dApp, ↓dNeg, ↓gdName, ↓gdTup, ↓gdCons, ↓gdNil, ↓gdSub, ↓rIx_tup, ↓rIx_str, ↓rIx_lst, ↓rIx_ref, ↓rSetL, ↓rSl, ↓dSl, ↓doNone, ↓doSome, ↓rAdd, ↓rSub, ↓rMul, ↓rMod, ↓rFdiv, ↓rPow, ↓rShl, ↓rShr, ↓rBand, ↓rBor, ↓rInt, ↓cInt, ↓cLen_tup, ↓cLen_str, ↓cLen_lst, ↓cLen_ref, ↓cTuple, ↓cSorted, ↓cMax2, ↓rEq, ↓rNe, ↓rLt, ↓rGt, ↓rLe, ↓rGe, ↓rOrd, ↓rIn, ↓rIs, ↓isNone, ↓truD, ↓frzAll, ↓diA, ↓diR1, ↓diR2, ↓dFor, ↓dLc, ↓dLcM, ↓dtYes, ↓wipeD, dat, datL, seqL, L2.CPow, List.getElem?_cons_zero, List.getElem?_cons_succ, List.set_cons_zero, List.set_cons_succ, List.length_cons, List.length_nil, List.map_cons, List.map_nil, upS_same, if_true, if_false, Bool.false_eq_true, true_and, and_true, Bool.not_true, Bool.not_false, Bool.true_xor, Bool.false_xor, eqv_int, eqv_str, eqv_bool, dp_int, dp_str, dp_bool, dp_none, al_int, al_str, min00, ne_int, ne_str, mapM_p, atD_zero, atD_one, atD_two, atD_three, PyData.isTuple, PyData.isInt, PyData.isStr, PyData.isBool, PyData.isList, PyData.isDict, Nat.reduceAdd, Int.cast_ofNat_Int, Int.reduceEq, Int.reduceAdd, Int.reduceSub, decide_true, decide_false, decide_eq_true_eq, ↓reduceIte, reduceCtorEq, atD_int (Int.emod_nonneg _ (by omega)) hch, ↓t__law_name_list_10]
      refine ⟨by decide, ?_⟩
      simp only [↓dSeq, ↓dNext, ↓dSet, ↓dDrop, ↓dRet, ↓dRetN, ↓dIfS, ↓dAsg, ↓dBreak, ↓dCont, ↓dVar, ↓dC, ↓dOp, ↓dTB, ↓dtAnd, ↓dtOr, ↓dtNot, ↓dTru, ↓dAnd, ↓dOr, ↓dNot, ↓dIf, ↓dChain, ↓dCall, ↓dCB, ↓dCons, ↓dNil, ↓dStar, ↓dTup, ↓dLst, ↓dLstM, ↓dIsa, ↓dApp, ↓dNeg, ↓gdName, ↓gdTup, ↓gdCons, ↓gdNil, ↓gdSub, ↓rIx_tup, ↓rIx_str, ↓rIx_lst, ↓rIx_ref, ↓rSetL, ↓rSl, ↓dSl, ↓doNone, ↓doSome, ↓rAdd, ↓rSub, ↓rMul, ↓rMod, ↓rFdiv, ↓rPow, ↓rShl, ↓rShr, ↓rBand, ↓rBor, ↓rInt, ↓cInt, ↓cLen_tup, ↓cLen_str, ↓cLen_lst, ↓cLen_ref, ↓cTuple, ↓cSorted, ↓cMax2, ↓rEq, ↓rNe, ↓rLt, ↓rGt, ↓rLe, ↓rGe, ↓rOrd, ↓rIn, ↓rIs, ↓isNone, ↓truD, ↓frzAll, ↓diA, ↓diR1, ↓diR2, ↓dFor, ↓dLc, ↓dLcM, ↓dtYes, ↓wipeD, dat, datL, seqL, L2.CPow, List.getElem?_cons_zero, List.getElem?_cons_succ, List.set_cons_zero, List.set_cons_succ, List.length_cons, List.length_nil, List.map_cons, List.map_nil, upS_same, if_true, if_false, Bool.false_eq_true, true_and, and_true, Bool.not_true, Bool.not_false, Bool.true_xor, Bool.false_xor, eqv_int, eqv_str, eqv_bool, dp_int, dp_str, dp_bool, dp_none, al_int, al_str, min00, ne_int, ne_str, mapM_p, atD_zero, atD_one, atD_two, atD_three, PyData.isTuple, PyData.isInt, PyData.isStr, PyData.isBool, PyData.isList, PyData.isDict, Nat.reduceAdd, Int.cast_ofNat_Int, Int.reduceEq, Int.reduceAdd, Int.reduceSub, decide_true, decide_false, decide_eq_true_eq, ↓reduceIte, reduceCtorEq, ↓t__law_name_list_9]
      by_cases m1 : mode = 1
      · rw [if_pos m1]
        simp only [↓dSeq, ↓dNext, ↓dSet, ↓dDrop, ↓dRet, ↓dRetN, ↓dIfS, ↓dAsg, ↓dBreak, ↓dCont, ↓dVar, ↓dC, ↓dOp, ↓dTB, ↓dtAnd, ↓dtOr, ↓dtNot, ↓dTru, ↓dAnd, ↓dOr, ↓dNot, ↓dIf, ↓dChain, ↓dCall, ↓dCB, ↓dCons, ↓dNil, ↓dStar, ↓dTup, ↓dLst, ↓dLstM, ↓dIsa, ↓dApp, ↓dNeg, ↓gdName, ↓gdTup, ↓gdCons, ↓gdNil, ↓gdSub, ↓rIx_tup, ↓rIx_str, ↓rIx_lst, ↓rIx_ref, ↓rSetL, ↓rSl, ↓dSl, ↓doNone, ↓doSome, ↓rAdd, ↓rSub, ↓rMul, ↓rMod, ↓rFdiv, ↓rPow, ↓rShl, ↓rShr, ↓rBand, ↓rBor, ↓rInt, ↓cInt, ↓cLen_tup, ↓cLen_str, ↓cLen_lst, ↓cLen_ref, ↓cTuple, ↓cSorted, ↓cMax2, ↓rEq, ↓rNe, ↓rLt, ↓rGt, ↓rLe, ↓rGe, ↓rOrd, ↓rIn, ↓rIs, ↓isNone, ↓truD, ↓frzAll, ↓diA, ↓diR1, ↓diR2, ↓dFor, ↓dLc, ↓dLcM, ↓dtYes, ↓wipeD, dat, datL, seqL, L2.CPow, List.getElem?_cons_zero, List.getElem?_cons_succ, List.set_cons_zero, List.set_cons_succ, List.length_cons, List.length_nil, List.map_cons, List.map_nil, upS_same, if_true, if_false, Bool.false_eq_true, true_and, and_true, Bool.not_true, Bool.not_false, Bool.true_xor, Bool.false_xor, eqv_int, eqv_str, eqv_bool, dp_int, dp_str, dp_bool, dp_none, al_int, al_str, min00, ne_int, ne_str, mapM_p, atD_zero, atD_one, atD_two, atD_three, PyData.isTuple, PyData.isInt, PyData.isStr, PyData.isBool, PyData.isList, PyData.isDict, Nat.reduceAdd, Int.cast_ofNat_Int, Int.reduceEq, Int.reduceAdd, Int.reduceSub, decide_true, decide_false, decide_eq_true_eq, ↓reduceIte, reduceCtorEq, ↓t__law_name_list_2]
        exact ⟨by decide, k2 ⟨_, _, _⟩ _ _ _ _ _ _ ho5⟩
      · simp only [↓dSeq, ↓dNext, ↓dSet, ↓dDrop, ↓dRet, ↓dRetN, ↓dIfS, ↓dAsg, ↓dBreak, ↓dCont, ↓dVar, ↓dC, ↓dOp, ↓dTB, ↓dtAnd, ↓dtOr, ↓dtNot, ↓dTru, ↓dAnd, ↓dOr, ↓dNot, ↓dIf, ↓dChain, ↓dCall, ↓dCB, ↓dCons, ↓dNil, ↓dStar, ↓dTup, ↓dLst, ↓dLstM, ↓dIsa, ↓dApp, ↓dNeg, ↓gdName, ↓gdTup, ↓gdCons, ↓gdNil, ↓gdSub, ↓rIx_tup, ↓rIx_str, ↓rIx_lst, ↓rIx_ref, ↓rSetL, ↓rSl, ↓dSl, ↓doNone, ↓doSome, ↓rAdd, ↓rSub, ↓rMul, ↓rMod, ↓rFdiv, ↓rPow, ↓rShl, ↓rShr, ↓rBand, ↓rBor, ↓rInt, ↓cInt, ↓cLen_tup, ↓cLen_str, ↓cLen_lst, ↓cLen_ref, ↓cTuple, ↓cSorted, ↓cMax2, ↓rEq, ↓rNe, ↓rLt, ↓rGt, ↓rLe, ↓rGe, ↓rOrd, ↓rIn, ↓rIs, ↓isNone, ↓truD, ↓frzAll, ↓diA, ↓diR1, ↓diR2, ↓dFor, ↓dLc, ↓dLcM, ↓dtYes, ↓wipeD, dat, datL, seqL, L2.CPow, List.getElem?_cons_zero, List.getElem?_cons_succ, List.set_cons_zero, List.set_cons_succ, List.length_cons, List.length_nil, List.map_cons, List.map_nil, upS_same, if_true, if_false, Bool.false_eq_true, true_and, and_true, Bool.not_true, Bool.not_false, Bool.true_xor, Bool.false_xor, eqv_int, eqv_str, eqv_bool, dp_int, dp_str, dp_bool, dp_none, al_int, al_str, min00, ne_int, ne_str, mapM_p, atD_zero, atD_one, atD_two, atD_three, PyData.isTuple, PyData.isInt, PyData.isStr, PyData.isBool, PyData.isList, PyData.isDict, Nat.reduceAdd, Int.cast_ofNat_Int, Int.reduceEq, Int.reduceAdd, Int.reduceSub, decide_true, decide_false, decide_eq_true_eq, ↓reduceIte, reduceCtorEq, m1, ↓t__law_name_list_6]
        by_cases m2 : mode = 2
        · rw [if_pos m2]
          simp only [↓dSeq, ↓dNext, ↓dSet, ↓dDrop, ↓dRet, ↓dRetN, ↓dIfS, ↓dAsg, ↓dBreak, ↓dCont, ↓dVar, ↓dC, ↓dOp, ↓dTB, ↓dtAnd, ↓dtOr, ↓dtNot, ↓dTru, ↓dAnd, ↓dOr, ↓dNot, ↓dIf, ↓dChain, ↓dCall, ↓dCB, ↓dCons, ↓dNil, ↓dStar, ↓dTup, ↓dLst, ↓dLstM, ↓dIsa, ↓dApp, ↓dNeg, ↓gdName, ↓gdTup, ↓gdCons, ↓gdNil, ↓gdSub, ↓rIx_tup, ↓rIx_str, ↓rIx_lst, ↓rIx_ref, ↓rSetL, ↓rSl, ↓dSl, ↓doNone, ↓doSome, ↓rAdd, ↓rSub, ↓rMul, ↓rMod, ↓rFdiv, ↓rPow, ↓rShl, ↓rShr, ↓rBand, ↓rBor, ↓rInt, ↓cInt, ↓cLen_tup, ↓cLen_str, ↓cLen_lst, ↓cLen_ref, ↓cTuple, ↓cSorted, ↓cMax2, ↓rEq, ↓rNe, ↓rLt, ↓rGt, ↓rLe, ↓rGe, ↓rOrd, ↓rIn, ↓rIs, ↓isNone, ↓truD, ↓frzAll, ↓diA, ↓diR1, ↓diR2, ↓dFor, ↓dLc, ↓dLcM, ↓dtYes, ↓wipeD, dat, datL, seqL, L2.CPow, List.getElem?_cons_zero, List.getElem?_cons_succ, List.set_cons_zero, List.set_cons_succ, List.length_cons, List.length_nil, List.map_cons, List.map_nil, upS_same, if_true, if_false, Bool.false_eq_true, true_and, and_true, Bool.not_true, Bool.not_false, Bool.true_xor, Bool.false_xor, eqv_int, eqv_str, eqv_bool, dp_int, dp_str, dp_bool, dp_none, al_int, al_str, min00, ne_int, ne_str, mapM_p, atD_zero, atD_one, atD_two, atD_three, PyData.isTuple, PyData.isInt, PyData.isStr, PyData.isBool, PyData.isList, PyData.isDict, Nat.reduceAdd, Int.cast_ofNat_Int, Int.reduceEq, Int.reduceAdd, Int.reduceSub, decide_true, decide_false, decide_eq_true_eq, ↓reduceIte, reduceCtorEq, ↓t__law_name_list_3]
          exact ⟨by decide, k2 ⟨_, _, _⟩ _ _ _ _ _ _ ho5⟩
        · simp only [↓dSeq, ↓dNext, ↓dSet, ↓dDrop, ↓dRet, ↓dRetN, ↓dIfS, ↓dAsg, ↓dBreak, ↓dCont, ↓dVar, ↓dC, ↓dOp, ↓dTB, ↓dtAnd, ↓dtOr, ↓dtNot, ↓dTru, ↓dAnd, ↓dOr, ↓dNot, ↓dIf, ↓dChain, ↓dCall, ↓dCB, ↓dCons, ↓dNil, ↓dStar, ↓dTup, ↓dLst, ↓dLstM, ↓dIsa, ↓dApp, ↓dNeg, ↓gdName, ↓gdTup, ↓gdCons, ↓gdNil, ↓gdSub, ↓rIx_tup, ↓rIx_str, ↓rIx_lst, ↓rIx_ref, ↓rSetL, ↓rSl, ↓dSl, ↓doNone, ↓doSome, ↓rAdd, ↓rSub, ↓rMul, ↓rMod, ↓rFdiv, ↓rPow, ↓rShl, ↓rShr, ↓rBand, ↓rBor, ↓rInt, ↓cInt, ↓cLen_tup, ↓cLen_str, ↓cLen_lst, ↓cLen_ref, ↓cTuple, ↓cSorted, ↓cMax2, ↓rEq, ↓rNe, ↓rLt, ↓rGt, ↓rLe, ↓rGe, ↓rOrd, ↓rIn, ↓rIs, ↓isNone, ↓truD, ↓frzAll, ↓diA, ↓diR1, ↓diR2, ↓dFor, ↓dLc, ↓dLcM, ↓dtYes, ↓wipeD, dat, datL, seqL, L2.CPow, List.getElem?_cons_zero, List.getElem?_cons_succ, List.set_cons_zero, List.set_cons_succ, List.length_cons, List.length_nil, List.map_cons, List.map_nil, upS_same, if_true, if_false, Bool.false_eq_true, true_and, and_true, Bool.not_true, Bool.not_false, Bool.true_xor, Bool.false_xor, eqv_int, eqv_str, eqv_bool, dp_int, dp_str, dp_bool, dp_none, al_int, al_str, min00, ne_int, ne_str, mapM_p, atD_zero, atD_one, atD_two, atD_three, PyData.isTuple, PyData.isInt, PyData.isStr, PyData.isBool, PyData.isList, PyData.isDict, Nat.reduceAdd, Int.cast_ofNat_Int, Int.reduceEq, Int.reduceAdd, Int.reduceSub, decide_true, decide_false, decide_eq_true_eq, ↓reduceIte, reduceCtorEq, m2, ↓t__law_name_list_5]
          by_cases m3 : mode = 3
          · rw [if_pos m3]
            simp only [↓dSeq, ↓dNext, ↓dSet, ↓dDrop, ↓dRet, ↓dRetN, ↓dIfS, ↓dAsg, ↓dBreak, ↓dCont, ↓dVar, ↓dC, ↓dOp, ↓dTB, ↓dtAnd, ↓dtOr, ↓dtNot, ↓dTru, ↓dAnd, ↓dOr, ↓dNot, ↓dIf, ↓dChain, ↓dCall, ↓dCB, ↓dCons, ↓dNil, ↓dStar, ↓dTup, ↓dLst, ↓dLstM, ↓dIsa, ↓dApp, ↓dNeg, ↓gdName, ↓gdTup, ↓gdCons, ↓gdNil, ↓gdSub, ↓rIx_tup, ↓rIx_str, ↓rIx_lst, ↓rIx_ref, ↓rSetL, ↓rSl, ↓dSl, ↓doNone, ↓doSome, ↓rAdd, ↓rSub, ↓rMul, ↓rMod, ↓rFdiv, ↓rPow, ↓rShl, ↓rShr, ↓rBand, ↓rBor, ↓rInt, ↓cInt, ↓cLen_tup, ↓cLen_str, ↓cLen_lst, ↓cLen_ref, ↓cTuple, ↓cSorted, ↓cMax2, ↓rEq, ↓rNe, ↓rLt, ↓rGt, ↓rLe, ↓rGe, ↓rOrd, ↓rIn, ↓rIs, ↓isNone, ↓truD, ↓frzAll, ↓diA, ↓diR1, ↓diR2, ↓dFor, ↓dLc, ↓dLcM, ↓dtYes, ↓wipeD, dat, datL, seqL, L2.CPow, List.getElem?_cons_zero, List.getElem?_cons_succ, List.set_cons_zero, List.set_cons_succ, List.length_cons, List.length_nil, List.map_cons, List.map_nil, upS_same, if_true, if_false, Bool.false_eq_true, true_and, and_true, Bool.not_true, Bool.not_false, Bool.true_xor, Bool.false_xor, eqv_int, eqv_str, eqv_bool, dp_int, dp_str, dp_bool, dp_none, al_int, al_str, min00, ne_int, ne_str, mapM_p, atD_zero, atD_one, atD_two, atD_three, PyData.isTuple, PyData.isInt, PyData.isStr, PyData.isBool, PyData.isList, PyData.isDict, Nat.reduceAdd, Int.cast_ofNat_Int, Int.reduceEq, Int.reduceAdd, Int.reduceSub, decide_true, decide_false, decide_eq_true_eq, ↓reduceIte, reduceCtorEq, ↓t__law_name_list_4]
            exact ⟨by decide, k2 ⟨_, _, _⟩ _ _ _ _ _ _ ho5⟩
          · simp only [↓dSeq, ↓dNext, ↓dSet, ↓dDrop, ↓dRet, ↓dRetN, ↓dIfS, ↓dAsg, ↓dBreak, ↓dCont, ↓dVar, ↓dC, ↓dOp, ↓dTB, ↓dtAnd, ↓dtOr, ↓dtNot, ↓dTru, ↓dAnd, ↓dOr, ↓dNot, ↓dIf, ↓dChain, ↓dCall, ↓dCB, ↓dCons, ↓dNil, ↓dStar, ↓dTup, ↓dLst, ↓dLstM, ↓dIsa, ↓dApp, ↓dNeg, ↓gdName, ↓gdTup, ↓gdCons, ↓gdNil, ↓gdSub, ↓rIx_tup, ↓rIx_str, ↓rIx_lst, ↓rIx_ref, ↓rSetL, ↓rSl, ↓dSl, ↓doNone, ↓doSome, ↓rAdd, ↓rSub, ↓rMul, ↓rMod, ↓rFdiv, ↓rPow, ↓rShl, ↓rShr, ↓rBand, ↓rBor, ↓rInt, ↓cInt, ↓cLen_tup, ↓cLen_str, ↓cLen_lst, ↓cLen_ref, ↓cTuple, ↓cSorted, ↓cMax2, ↓rEq, ↓rNe, ↓rLt, ↓rGt, ↓rLe, ↓rGe, ↓rOrd, ↓rIn, ↓rIs, ↓isNone, ↓truD, ↓frzAll, ↓diA, ↓diR1, ↓diR2, ↓dFor, ↓dLc, ↓dLcM, ↓dtYes, ↓wipeD, dat, datL, seqL, L2.CPow, List.getElem?_cons_zero, List.getElem?_cons_succ, List.set_cons_zero, List.set_cons_succ, List.length_cons, List.length_nil, List.map_cons, List.map_nil, upS_same, if_true, if_false, Bool.false_eq_true, true_and, and_true, Bool.not_true, Bool.not_false, Bool.true_xor, Bool.false_xor, eqv_int, eqv_str, eqv_bool, dp_int, dp_str, dp_bool, dp_none, al_int, al_str, min00, ne_int, ne_str, mapM_p, atD_zero, atD_one, atD_two, atD_three, PyData.isTuple, PyData.isInt, PyData.isStr, PyData.isBool, PyData.isList, PyData.isDict, Nat.reduceAdd, Int.cast_ofNat_Int, Int.reduceEq, Int.reduceAdd, Int.reduceSub, decide_true, decide_false, decide_eq_true_eq, ↓reduceIte, reduceCtorEq, m3]
            exact k2 ⟨_, _, _⟩ _ _ _ _ _ _ ho5
    -- the owner is known
    have k0 : ∀ x o4 e6 e7 e9 e10 e11, PoolO o4 → t__law_name_list_13 sp_take De' [some (.r p), some (D.p (.int c)), some own, some (D.p (.int mode)), some (D.p (.int start)), some (.r m), some (D.p (.int e6)), e7, some (D.p (.str x)), e9, e10, e11] (upS (upS S p o4) m (.lst ((List.map Nm.enc ns).map D.p))) := by
      intro x o4 e6 e7 e9 e10 e11 ho4
      simp only [↓dSeq, ↓dNext, ↓dSet, ↓dDrop, ↓dRet, ↓dRetN, ↓dIfS, ↓dAsg, ↓dBreak, ↓dCont, ↓dVar, ↓dC, ↓dOp, ↓dTB, ↓dtAnd, ↓dtOr, ↓dtNot, ↓dTru, ↓dAnd, ↓dOr, ↓dNot, ↓dIf, ↓dChain, ↓dCall, ↓dCB, ↓dCons, ↓dNil, ↓dStar, ↓dTup, ↓dLst, ↓dLstM, ↓dIsa, ↓dApp, ↓dNeg, ↓gdName, ↓gdTup, ↓gdCons, ↓gdNil, ↓gdSub, ↓rIx_tup, ↓rIx_str, ↓rIx_lst, ↓rIx_ref, ↓rSetL, ↓rSl, ↓dSl, ↓doNone, ↓doSome, ↓rAdd, ↓rSub, ↓rMul, ↓rMod, ↓rFdiv, ↓rPow, ↓rShl, ↓rShr, ↓rBand, ↓rBor, ↓rInt, ↓cInt, ↓cLen_tup, ↓cLen_str, ↓cLen_lst, ↓cLen_ref, ↓cTuple, ↓cSorted, ↓cMax2, ↓rEq, ↓rNe, ↓rLt, ↓rGt, ↓rLe, ↓rGe, ↓rOrd, ↓rIn, ↓rIs, ↓isNone, ↓truD, ↓frzAll, ↓diA, ↓diR1, ↓diR2, ↓dFor, ↓dLc, ↓dLcM, ↓dtYes, ↓wipeD, dat, datL, seqL, L2.CPow, List.getElem?_cons_zero, List.getElem?_cons_succ, List.set_cons_zero, List.set_cons_succ, List.length_cons, List.length_nil, List.map_cons, List.map_nil, upS_same, if_true, if_false, Bool.false_eq_true, true_and, and_true, Bool.not_true, Bool.not_false, Bool.true_xor, Bool.false_xor, eqv_int, eqv_str, eqv_bool, dp_int, dp_str, dp_bool, dp_none, al_int, al_str, min00, ne_int, ne_str, mapM_p, atD_zero, atD_one, atD_two, atD_three, PyData.isTuple, PyData.isInt, PyData.isStr, PyData.isBool, PyData.isList, PyData.isDict, Nat.reduceAdd, Int.cast_ofNat_Int, Int.reduceEq, Int.reduceAdd, Int.reduceSub, decide_true, decide_false, decide_eq_true_eq, ↓reduceIte, reduceCtorEq, ↓t__law_name_list_13]
      refine c_take (at2 hpm) ho4 fun d o5 _ _ ho5 => ?_
      rw [up2 hpm]
      simp only [↓dSeq, ↓dNext, ↓dSet, ↓dDrop, ↓dRet, ↓dRetN, ↓dIfS, ↓dAsg, ↓dBreak, ↓dCont, ↓dVar, ↓dC, ↓dOp, ↓dTB, ↓dtAnd, ↓dtOr, ↓dtNot, ↓dTru, ↓dAnd, ↓dOr, ↓dNot, ↓dIf, ↓dChain, ↓dCall, ↓dCB, ↓dCons, ↓dNil, ↓dStar, ↓dTup, ↓dLst, ↓dLstM, ↓dIsa, ↓dApp, ↓dNeg, ↓gdName, ↓gdTup, ↓gdCons, ↓gdNil, ↓gdSub, ↓rIx_tup, ↓rIx_str, ↓rIx_lst, ↓rIx_ref, ↓rSetL, ↓rSl, ↓dSl, ↓doNone, ↓doSome, ↓rAdd, ↓rSub, ↓rMul, ↓rMod, ↓rFdiv, ↓rPow, ↓rShl, ↓rShr, ↓rBand, ↓rBor, ↓rInt, ↓cInt, ↓cLen_tup, ↓cLen_str, ↓cLen_lst, ↓cLen_ref, ↓cTuple, ↓cSorted, ↓cMax2, ↓rEq, ↓rNe, ↓rLt, ↓rGt, ↓rLe, ↓rGe, ↓rOrd, ↓rIn, ↓rIs, ↓isNone, ↓truD, ↓frzAll, ↓diA, ↓diR1, ↓diR2, ↓dFor, ↓dLc, ↓dLcM, ↓dtYes, ↓wipeD, dat, datL, seqL, L2.CPow, List.getElem?_cons_zero, List.getElem?_cons_succ, List.set_cons_zero, List.set_cons_succ, List.length_cons, List.length_nil, List.map_cons, List.map_nil, upS_same, if_true, if_false, Bool.false_eq_true, true_and, and_true, Bool.not_true, Bool.not_false, Bool.true_xor, Bool.false_xor, eqv_int, eqv_str, eqv_bool, dp_int, dp_str, dp_bool, dp_none, al_int, al_str, min00, ne_int, ne_str, mapM_p, atD_zero, atD_one, atD_two, atD_three, PyData.isTuple, PyData.isInt, PyData.isStr, PyData.isBool, PyData.isList, PyData.isDict, Nat.reduceAdd, Int.cast_ofNat_Int, Int.reduceEq, Int.reduceAdd, Int.reduceSub, decide_true, decide_false, decide_eq_true_eq, ↓reduceIte, reduceCtorEq]
      refine ⟨.inl ⟨by decide, by decide⟩, by decide, ?_⟩
      simp only [↓dSeq, ↓dNext, ↓dSet, ↓dDrop, ↓dRet, ↓dRetN, ↓dIfS, ↓dAsg, ↓dBreak, ↓dCont, ↓dVar, ↓dC, ↓dOp, ↓dTB, ↓dtAnd, ↓dtOr, ↓dtNot, ↓dTru, ↓dAnd, ↓dOr, ↓dNot, ↓dIf, ↓dChain, ↓dCall, ↓dCB, ↓dCons, ↓dNil, ↓dStar, ↓dTup, ↓dLst, ↓dLstM, ↓dIsa, ↓dApp, ↓dNeg, ↓gdName, ↓gdTup, ↓gdCons, ↓gdNil, ↓gdSub, ↓rIx_tup, ↓rIx_str, ↓rIx_lst, ↓rIx_ref, ↓rSetL, ↓rSl, ↓dSl, ↓doNone, ↓doSome, ↓rAdd, ↓rSub, ↓rMul, ↓rMod, ↓rFdiv, ↓rPow, ↓rShl, ↓rShr, ↓rBand, ↓rBor, ↓rInt, ↓cInt, ↓cLen_tup, ↓cLen_str, ↓cLen_lst, ↓cLen_ref, ↓cTuple, ↓cSorted, ↓cMax2, ↓rEq, ↓rNe, ↓rLt, ↓rGt, ↓rLe, ↓rGe, ↓rOrd, ↓rIn, ↓rIs, ↓isNone, ↓truD, ↓frzAll, ↓diA, ↓diR1, ↓diR2, ↓dFor, ↓dLc, ↓dLcM, ↓dtYes, ↓wipeD, dat, datL, seqL, L2.CPow, List.getElem?_cons_zero, List.getElem?_cons_succ, List.set_cons_zero, List.set_cons_succ, List.length_cons, List.length_nil, List.map_cons, List.map_nil, upS_same, if_true, if_false, Bool.false_eq_true, true_and, and_true, Bool.not_true, Bool.not_false, Bool.true_xor, Bool.false_xor, eqv_int, eqv_str, eqv_bool, dp_int, dp_str, dp_bool, dp_none, al_int, al_str, min00, ne_int, ne_str, mapM_p, atD_zero, atD_one, atD_two, atD_three, PyData.isTuple, PyData.isInt, PyData.isStr, PyData.isBool, PyData.isList, PyData.isDict, Nat.reduceAdd, Int.cast_ofNat_Int, Int.reduceEq, Int.reduceAdd, Int.reduceSub, decide_true, decide_false, decide_eq_true_eq, ↓reduceIte, reduceCtorEq, ↓t__law_name_list_12]
      by_cases hx : x = ""
      · simp only [↓dSeq, ↓dNext, ↓dSet, ↓dDrop, ↓dRet, ↓dRetN, ↓dIfS, ↓dAsg, ↓dBreak, ↓dCont, ↓dVar, ↓dC, ↓dOp, ↓dTB, ↓dtAnd, ↓dtOr, ↓dtNot, ↓dTru, ↓dAnd, ↓dOr, ↓dNot, ↓dIf, ↓dChain, ↓dCall, ↓dCB, ↓dCons, ↓dNil, ↓dStar, ↓dTup, ↓dLst, ↓dLstM, ↓dIsa, ↓dApp, ↓dNeg, ↓gdName, ↓gdTup, ↓gdCons, ↓gdNil, ↓gdSub, ↓rIx_tup, ↓rIx_str, ↓rIx_lst, ↓rIx_ref, ↓rSetL, ↓rSl, ↓dSl, ↓doNone, ↓doSome, ↓rAdd, ↓rSub, ↓rMul, ↓rMod, ↓rFdiv, ↓rPow, ↓rShl, ↓rShr, ↓rBand, ↓rBor, ↓rInt, ↓cInt, ↓cLen_tup, ↓cLen_str, ↓cLen_lst, ↓cLen_ref, ↓cTuple, ↓cSorted, ↓cMax2, ↓rEq, ↓rNe, ↓rLt, ↓rGt, ↓rLe, ↓rGe, ↓rOrd, ↓rIn, ↓rIs, ↓isNone, ↓truD, ↓frzAll, ↓diA, ↓diR1, ↓diR2, ↓dFor, ↓dLc, ↓dLcM, ↓dtYes, ↓wipeD, dat, datL, seqL, L2.CPow, List.getElem?_cons_zero, List.getElem?_cons_succ, List.set_cons_zero, List.set_cons_succ, List.length_cons, List.length_nil, List.map_cons, List.map_nil, upS_same, if_true, if_false, Bool.false_eq_true, true_and, and_true, Bool.not_true, Bool.not_false, Bool.true_xor, Bool.false_xor, eqv_int, eqv_str, eqv_bool, dp_int, dp_str, dp_bool, dp_none, al_int, al_str, min00, ne_int, ne_str, mapM_p, atD_zero, atD_one, atD_two, atD_three, PyData.isTuple, PyData.isInt, PyData.isStr, PyData.isBool, PyData.isList, PyData.isDict, Nat.reduceAdd, Int.cast_ofNat_Int, Int.reduceEq, Int.reduceAdd, Int.reduceSub, decide_true, decide_false, decide_eq_true_eq, ↓reduceIte, reduceCtorEq, decide_eq_true hx]
        exact k1 _ _ _ _ _ _ _ ho5
      · simp only [↓dSeq, ↓dNext, ↓dSet, ↓dDrop, ↓dRet, ↓dRetN, ↓dIfS, ↓dAsg, ↓dBreak, ↓dCont, ↓dVar, ↓dC, ↓dOp, ↓dTB, ↓dtAnd, ↓dtOr, ↓dtNot, ↓dTru, ↓dAnd, ↓dOr, ↓dNot, ↓dIf, ↓dChain, ↓dCall, ↓dCB, ↓dCons, ↓dNil, ↓dStar, ↓dTup, ↓dLst, ↓dLstM, ↓dIsa, ↓dApp, ↓dNeg, ↓gdName, ↓gdTup, ↓gdCons, ↓gdNil, ↓gdSub, ↓rIx_tup, ↓rIx_str, ↓rIx_lst, ↓rIx_ref, ↓rSetL, ↓rSl, ↓dSl, ↓doNone, ↓doSome, ↓rAdd, ↓rSub, ↓rMul, ↓rMod, ↓rFdiv, ↓rPow, ↓rShl, ↓rShr, ↓rBand, ↓rBor, ↓rInt, ↓cInt, ↓cLen_tup, ↓cLen_str, ↓cLen_lst, ↓cLen_ref, ↓cTuple, ↓cSorted, ↓cMax2, ↓rEq, ↓rNe, ↓rLt, ↓rGt, ↓rLe, ↓rGe, ↓rOrd, ↓rIn, ↓rIs, ↓isNone, ↓truD, ↓frzAll, ↓diA, ↓diR1, ↓diR2, ↓dFor, ↓dLc, ↓dLcM, ↓dtYes, ↓wipeD, dat, datL, seqL, L2.CPow, List.getElem?_cons_zero, List.getElem?_cons_succ, List.set_cons_zero, List.set_cons_succ, List.length_cons, List.length_nil, List.map_cons, List.map_nil, upS_same, if_true, if_false, Bool.false_eq_true, true_and, and_true, Bool.not_true, Bool.not_false, Bool.true_xor, Bool.false_xor, eqv_int, eqv_str, eqv_bool, dp_int, dp_str, dp_bool, dp_none, al_int, al_str, min00, ne_int, ne_str, mapM_p, atD_zero, atD_one, atD_two, atD_three, PyData.isTuple, PyData.isInt, PyData.isStr, PyData.isBool, PyData.isList, PyData.isDict, Nat.reduceAdd, Int.cast_ofNat_Int, Int.reduceEq, Int.reduceAdd, Int.reduceSub, decide_true, decide_false, decide_eq_true_eq, ↓reduceIte, reduceCtorEq, decide_eq_false hx]
        refine c_take (at2 hpm) ho5 fun d2 o6 _ _ ho6 => ?_
        rw [up2 hpm]
        simp only [↓dSeq, ↓dNext, ↓dSet, ↓dDrop, ↓dRet, ↓dRetN, ↓dIfS, ↓dAsg, ↓dBreak, ↓dCont, ↓dVar, ↓dC, ↓dOp, ↓dTB, ↓dtAnd, ↓dtOr, ↓dtNot, ↓dTru, ↓dAnd, ↓dOr, ↓dNot, ↓dIf, ↓dChain, ↓dCall, ↓dCB, ↓dCons, ↓dNil, ↓dStar, ↓dTup, ↓dLst, ↓dLstM, ↓dIsa, ↓dApp, ↓dNeg, ↓gdName, ↓gdTup, ↓gdCons, ↓gdNil, ↓gdSub, ↓rIx_tup, ↓rIx_str, ↓rIx_lst, ↓rIx_ref, ↓rSetL, ↓rSl, ↓dSl, ↓doNone, ↓doSome, ↓rAdd, ↓rSub, ↓rMul, ↓rMod, ↓rFdiv, ↓rPow, ↓rShl, ↓rShr, ↓rBand, ↓rBor, ↓rInt, ↓cInt, ↓cLen_tup, ↓cLen_str, ↓cLen_lst, ↓cLen_ref, ↓cTuple, ↓cSorted, ↓cMax2, ↓rEq, ↓rNe, ↓rLt, ↓rGt, ↓rLe, ↓rGe, ↓rOrd, ↓rIn, ↓rIs, ↓isNone, ↓truD, ↓frzAll, ↓diA, ↓diR1, ↓diR2, ↓dFor, ↓dLc, ↓dLcM, ↓dtYes, ↓wipeD, dat, datL, seqL, L2.CPow, List.getElem?_cons_zero, List.getElem?_cons_succ, List.set_cons_zero, List.set_cons_succ, List.length_cons, List.length_nil, List.map_cons, List.map_nil, upS_same, if_true, if_false, Bool.false_eq_true, true_and, and_true, Bool.not_true, Bool.not_false, Bool.true_xor, Bool.false_xor, eqv_int, eqv_str, eqv_bool, dp_int, dp_str, dp_bool, dp_none, al_int, al_str, min00, ne_int, ne_str, mapM_p, atD_zero, atD_one, atD_two, atD_three, PyData.isTuple, PyData.isInt, PyData.isStr, PyData.isBool, PyData.isList, PyData.isDict, Nat.reduceAdd, Int.cast_ofNat_Int, Int.reduceEq, Int.reduceAdd, Int.reduceSub, decide_true, decide_false, decide_eq_true_eq, ↓reduceIte, reduceCtorEq]
        by_cases h7 : d2 = 7
        · simp only [↓dSeq, ↓dNext, ↓dSet, ↓dDrop, ↓dRet, ↓dRetN, ↓dIfS, ↓dAsg, ↓dBreak, ↓dCont, ↓dVar, ↓dC, ↓dOp, ↓dTB, ↓dtAnd, ↓dtOr, ↓dtNot, ↓dTru, ↓dAnd, ↓dOr, ↓dNot, ↓dIf, ↓dChain, ↓dCall, ↓dCB, ↓dCons, ↓dNil, ↓dStar, ↓dTup, ↓dLst, ↓dLstM, ↓dIsa, ↓dApp, ↓dNeg, ↓gdName, ↓gdTup, ↓gdCons, ↓gdNil, ↓gdSub, ↓rIx_tup, ↓rIx_str, ↓rIx_lst, ↓rIx_ref, ↓rSetL, ↓rSl, ↓dSl, ↓doNone, ↓doSome, ↓rAdd, ↓rSub, ↓rMul, ↓rMod, ↓rFdiv, ↓rPow, ↓rShl, ↓rShr, ↓rBand, ↓rBor, ↓rInt, ↓cInt, ↓cLen_tup, ↓cLen_str, ↓cLen_lst, ↓cLen_ref, ↓cTuple, ↓cSorted, ↓cMax2, ↓rEq, ↓rNe, ↓rLt, ↓rGt, ↓rLe, ↓rGe, ↓rOrd, ↓rIn, ↓rIs, ↓isNone, ↓truD, ↓frzAll, ↓diA, ↓diR1, ↓diR2, ↓dFor, ↓dLc, ↓dLcM, ↓dtYes, ↓wipeD, dat, datL, seqL, L2.CPow, List.getElem?_cons_zero, List.getElem?_cons_succ, List.set_cons_zero, List.set_cons_succ, List.length_cons, List.length_nil, List.map_cons, List.map_nil, upS_same, if_true, if_false, Bool.false_eq_true, true_and, and_true, Bool.not_true, Bool.not_false, Bool.true_xor, Bool.false_xor, eqv_int, eqv_str, eqv_bool, dp_int, dp_str, dp_bool, dp_none, al_int, al_str, min00, ne_int, ne_str, mapM_p, atD_zero, atD_one, atD_two, atD_three, PyData.isTuple, PyData.isInt, PyData.isStr, PyData.isBool, PyData.isList, PyData.isDict, Nat.reduceAdd, Int.cast_ofNat_Int, Int.reduceEq, Int.reduceAdd, Int.reduceSub, decide_true, decide_false, decide_eq_true_eq, ↓reduceIte, reduceCtorEq, h7, ↓t__law_name_list_1]
          exact k1 _ _ _ _ _ _ _ ho6
        · simp only [↓dSeq, ↓dNext, ↓dSet, ↓dDrop, ↓dRet, ↓dRetN, ↓dIfS, ↓dAsg, ↓dBreak, ↓dCont, ↓dVar, ↓dC, ↓dOp, ↓dTB, ↓dtAnd, ↓dtOr, ↓dtNot, ↓dTru, ↓dAnd, ↓dOr, ↓dNot, ↓dIf, ↓dChain, ↓dCall, ↓dCB, ↓dCons, ↓dNil, ↓dStar, ↓dTup, ↓dLst, ↓dLstM, ↓dIsa, ↓dApp, ↓dNeg, ↓gdName, ↓gdTup, ↓gdCons, ↓gdNil, ↓gdSub, ↓rIx_tup, ↓rIx_str, ↓rIx_lst, ↓rIx_ref, ↓rSetL, ↓rSl, ↓dSl, ↓doNone, ↓doSome, ↓rAdd, ↓rSub, ↓rMul, ↓rMod, ↓rFdiv, ↓rPow, ↓rShl, ↓rShr, ↓rBand, ↓rBor, ↓rInt, ↓cInt, ↓cLen_tup, ↓cLen_str, ↓cLen_lst, ↓cLen_ref, ↓cTuple, ↓cSorted, ↓cMax2, ↓rEq, ↓rNe, ↓rLt, ↓rGt, ↓rLe, ↓rGe, ↓rOrd, ↓rIn, ↓rIs, ↓isNone, ↓truD, ↓frzAll, ↓diA, ↓diR1, ↓diR2, ↓dFor, ↓dLc, ↓dLcM, ↓dtYes, ↓wipeD, dat, datL, seqL, L2.CPow, List.getElem?_cons_zero, List.getElem?_cons_succ, List.set_cons_zero, List.set_cons_succ, List.length_cons, List.length_nil, List.map_cons, List.map_nil, upS_same, if_true, if_false, Bool.false_eq_true, true_and, and_true, Bool.not_true, Bool.not_false, Bool.true_xor, Bool.false_xor, eqv_int, eqv_str, eqv_bool, dp_int, dp_str, dp_bool, dp_none, al_int, al_str, min00, ne_int, ne_str, mapM_p, atD_zero, atD_one, atD_two, atD_three, PyData.isTuple, PyData.isInt, PyData.isStr, PyData.isBool, PyData.isList, PyData.isDict, Nat.reduceAdd, Int.cast_ofNat_Int, Int.reduceEq, Int.reduceAdd, Int.reduceSub, decide_true, decide_false, decide_eq_true_eq, ↓reduceIte, reduceCtorEq, h7]
          exact k1 _ _ _ _ _ _ _ ho6
    simp only [↓dSeq, ↓dNext, ↓dSet, ↓dDrop, ↓dRet, ↓dRetN, ↓dIfS, ↓dAsg, ↓dBreak, ↓dCont, ↓dVar, ↓dC, ↓dOp, ↓dTB, ↓dtAnd, ↓dtOr, ↓dtNot, ↓dTru, ↓dAnd, ↓dOr, ↓dNot, ↓dIf, ↓dChain, ↓dCall, ↓dCB, ↓dCons, ↓dNil, ↓dStar, ↓dTup, ↓dLst, ↓dLstM, ↓dIsa, ↓dApp, ↓dNeg, ↓gdName, ↓gdTup, ↓gdCons, ↓gdNil, ↓gdSub, ↓rIx_tup, ↓rIx_str, ↓rIx_lst, ↓rIx_ref, ↓rSetL, ↓rSl, ↓dSl, ↓doNone, ↓doSome, ↓rAdd, ↓rSub, ↓rMul, ↓rMod, ↓rFdiv, ↓rPow, ↓rShl, ↓rShr, ↓rBand, ↓rBor, ↓rInt, ↓cInt, ↓cLen_tup, ↓cLen_str, ↓cLen_lst, ↓cLen_ref, ↓cTuple, ↓cSorted, ↓cMax2, ↓rEq, ↓rNe, ↓rLt, ↓rGt, ↓rLe, ↓rGe, ↓rOrd, ↓rIn, ↓rIs, ↓isNone, ↓truD, ↓frzAll, ↓diA, ↓diR1, ↓diR2, ↓dFor, ↓dLc, ↓dLcM, ↓dtYes, ↓wipeD, dat, datL, seqL, L2.CPow, List.getElem?_cons_zero, List.getElem?_cons_succ, List.set_cons_zero, List.set_cons_succ, List.length_cons, List.length_nil, List.map_cons, List.map_nil, upS_same, if_true, if_false, Bool.false_eq_true, true_and, and_true, Bool.not_true, Bool.not_false, Bool.true_xor, Bool.false_xor, eqv_int, eqv_str, eqv_bool, dp_int, dp_str, dp_bool, dp_none, al_int, al_str, min00, ne_int, ne_str, mapM_p, atD_zero, atD_one, atD_two, atD_three, PyData.isTuple, PyData.isInt, PyData.isStr, PyData.isBool, PyData.isList, PyData.isDict, Nat.reduceAdd, Int.cast_ofNat_Int, Int.reduceEq, Int.reduceAdd, Int.reduceSub, decide_true, decide_false, decide_eq_true_eq, ↓reduceIte, reduceCtorEq, ↓t__law_name_list_15]
    refine c_take (at2 hpm) ho' fun d o3 _ _ ho3 => ?_
    rw [up2 hpm]
    simp only [↓dSeq, ↓dNext, ↓dSet, ↓dDrop, ↓dRet, ↓dRetN, ↓dIfS, ↓dAsg, ↓dBreak, ↓dCont, ↓dVar, ↓dC, ↓dOp, ↓dTB, ↓dtAnd, ↓dtOr, ↓dtNot, ↓dTru, ↓dAnd, ↓dOr, ↓dNot, ↓dIf, ↓dChain, ↓dCall, ↓dCB, ↓dCons, ↓dNil, ↓dStar, ↓dTup, ↓dLst, ↓dLstM, ↓dIsa, ↓dApp, ↓dNeg, ↓gdName, ↓gdTup, ↓gdCons, ↓gdNil, ↓gdSub, ↓rIx_tup, ↓rIx_str, ↓rIx_lst, ↓rIx_ref, ↓rSetL, ↓rSl, ↓dSl, ↓doNone, ↓doSome, ↓rAdd, ↓rSub, ↓rMul, ↓rMod, ↓rFdiv, ↓rPow, ↓rShl, ↓rShr, ↓rBand, ↓rBor, ↓rInt, ↓cInt, ↓cLen_tup, ↓cLen_str, ↓cLen_lst, ↓cLen_ref, ↓cTuple, ↓cSorted, ↓cMax2, ↓rEq, ↓rNe, ↓rLt, ↓rGt, ↓rLe, ↓rGe, ↓rOrd, ↓rIn, ↓rIs, ↓isNone, ↓truD, ↓frzAll, ↓diA, ↓diR1, ↓diR2, ↓dFor, ↓dLc, ↓dLcM, ↓dtYes, ↓wipeD, dat, datL, seqL, L2.CPow, List.getElem?_cons_zero, List.getElem?_cons_succ, List.set_cons_zero, List.set_cons_succ, List.length_cons, List.length_nil, List.map_cons, List.map_nil, upS_same, if_true, if_false, Bool.false_eq_true, true_and, and_true, Bool.not_true, Bool.not_false, Bool.true_xor, Bool.false_xor, eqv_int, eqv_str, eqv_bool, dp_int, dp_str, dp_bool, dp_none, al_int, al_str, min00, ne_int, ne_str, mapM_p, atD_zero, atD_one, atD_two, atD_three, PyData.isTuple, PyData.isInt, PyData.isStr, PyData.isBool, PyData.isList, PyData.isDict, Nat.reduceAdd, Int.cast_ofNat_Int, Int.reduceEq, Int.reduceAdd, Int.reduceSub, decide_true, decide_false, decide_eq_true_eq, ↓reduceIte, reduceCtorEq, ↓t__law_name_list_14]
    have a0 := Int.emod_nonneg (d + (0 + (k : Int))) (show (8 : Int) ≠ 0 by omega)
    have a1 := Int.emod_lt_of_pos (d + (0 + (k : Int))) (show (0 : Int) < 8 by omega)
    generalize (d + (0 + (k : Int))) % 8 = pick at a0 a1
    refine ⟨by decide, ?_⟩
    by_cases h7 : pick = 7
    · simp only [↓dSeq, ↓dNext, ↓dSet, ↓dDrop, ↓dRet, ↓dRetN, ↓dIfS, ↓dAsg, ↓dBreak, ↓dCont, ↓dVar, ↓dC, ↓dOp, ↓dTB, ↓dtAnd, ↓dtOr, ↓dtNot, ↓dTru, ↓dAnd, ↓dOr, ↓dNot, ↓dIf, ↓dChain, ↓dCall, ↓dCB, ↓dCons, ↓dNil, ↓dStar, ↓dTup, ↓dLst, ↓dLstM, ↓dIsa, ↓dApp, ↓dNeg, ↓gdName, ↓gdTup, ↓gdCons, ↓gdNil, ↓gdSub, ↓rIx_tup, ↓rIx_str, ↓rIx_lst, ↓rIx_ref, ↓rSetL, ↓rSl, ↓dSl, ↓doNone, ↓doSome, ↓rAdd, ↓rSub, ↓rMul, ↓rMod, ↓rFdiv, ↓rPow, ↓rShl, ↓rShr, ↓rBand, ↓rBor, ↓rInt, ↓cInt, ↓cLen_tup, ↓cLen_str, ↓cLen_lst, ↓cLen_ref, ↓cTuple, ↓cSorted, ↓cMax2, ↓rEq, ↓rNe, ↓rLt, ↓rGt, ↓rLe, ↓rGe, ↓rOrd, ↓rIn, ↓rIs, ↓isNone, ↓truD, ↓frzAll, ↓diA, ↓diR1, ↓diR2, ↓dFor, ↓dLc, ↓dLcM, ↓dtYes, ↓wipeD, dat, datL, seqL, L2.CPow, List.getElem?_cons_zero, List.getElem?_cons_succ, List.set_cons_zero, List.set_cons_succ, List.length_cons, List.length_nil, List.map_cons, List.map_nil, upS_same, if_true, if_false, Bool.false_eq_true, true_and, and_true, Bool.not_true, Bool.not_false, Bool.true_xor, Bool.false_xor, eqv_int, eqv_str, eqv_bool, dp_int, dp_str, dp_bool, dp_none, al_int, al_str, min00, ne_int, ne_str, mapM_p, atD_zero, atD_one, atD_two, atD_three, PyData.isTuple, PyData.isInt, PyData.isStr, PyData.isBool, PyData.isList, PyData.isDict, Nat.reduceAdd, Int.cast_ofNat_Int, Int.reduceEq, Int.reduceAdd, Int.reduceSub, decide_true, decide_false, decide_eq_true_eq, ↓reduceIte, reduceCtorEq, h7]
      refine ⟨_, _, rfl, at2 hpm, ho3, fun x o4 _ ho4 => ?_⟩
      rw [up2 hpm]
      exact k0 _ _ _ _ _ _ _ ho4
    · subst own
      obtain ⟨x, hx⟩ := owner_ex (i := pick.toNat) (by omega)
      simp only [↓dSeq, ↓dNext, ↓dSet, ↓dDrop, ↓dRet, ↓dRetN, ↓dIfS, ↓dAsg, ↓dBreak, ↓dCont, ↓dVar, ↓dC, ↓dOp, ↓dTB, ↓dtAnd, ↓dtOr, ↓dtNot, ↓dTru, ↓dAnd, ↓dOr, ↓dNot, ↓dIf, ↓dChain, ↓dCall, ↓dCB, ↓dCons, ↓dNil, ↓dStar, ↓dTup, ↓dLst, ↓dLstM, ↓dIsa, ↓dApp, ↓dNeg, ↓gdName, ↓gdTup, ↓gdCons, ↓gdNil, ↓gdSub, ↓rIx_tup, ↓rIx_str, ↓rIx_lst, ↓rIx_ref, ↓rSetL, ↓rSl, ↓dSl, ↓doNone, ↓doSome, ↓rAdd, ↓rSub, ↓rMul, ↓rMod, ↓rFdiv, ↓rPow, ↓rShl, ↓rShr, ↓rBand, ↓rBor, ↓rInt, ↓cInt, ↓cLen_tup, ↓cLen_str, ↓cLen_lst, ↓cLen_ref, ↓cTuple, ↓cSorted, ↓cMax2, ↓rEq, ↓rNe, ↓rLt, ↓rGt, ↓rLe, ↓rGe, ↓rOrd, ↓rIn, ↓rIs, ↓isNone, ↓truD, ↓frzAll, ↓diA, ↓diR1, ↓diR2, ↓dFor, ↓dLc, ↓dLcM, ↓dtYes, ↓wipeD, dat, datL, seqL, L2.CPow, List.getElem?_cons_zero, List.getElem?_cons_succ, List.set_cons_zero, List.set_cons_succ, List.length_cons, List.length_nil, List.map_cons, List.map_nil, upS_same, if_true, if_false, Bool.false_eq_true, true_and, and_true, Bool.not_true, Bool.not_false, Bool.true_xor, Bool.false_xor, eqv_int, eqv_str, eqv_bool, dp_int, dp_str, dp_bool, dp_none, al_int, al_str, min00, ne_int, ne_str, mapM_p, atD_zero, atD_one, atD_two, atD_three, PyData.isTuple, PyData.isInt, PyData.isStr, PyData.isBool, PyData.isList, PyData.isDict, Nat.reduceAdd, Int.cast_ofNat_Int, Int.reduceEq, Int.reduceAdd, Int.reduceSub, decide_true, decide_false, decide_eq_true_eq, ↓reduceIte, reduceCtorEq, h7, atD_int a0 hx]
      exact k0 _ _ _ _ _ _ _ ho3
  · rintro env S' ⟨o', ns, e6, e7, e8, e9, e10, e11, rfl, rfl, ho', hnd, hlen⟩
    simp only [↓dSeq, ↓dNext, ↓dSet, ↓dDrop, ↓dRet, ↓dRetN, ↓dIfS, ↓dAsg, ↓dBreak, ↓dCont, ↓dVar, ↓dC, ↓dOp, ↓dTB, ↓dtAnd, ↓dtOr, ↓dtNot, ↓dTru, ↓dAnd, ↓dOr, ↓dNot, ↓dIf, ↓dChain, ↓dCall, ↓dCB, ↓dCons, ↓dNil, ↓dStar, ↓dTup, ↓dLst, ↓dLstM, ↓dIsa, ↓dApp, ↓dNeg, ↓gdName, ↓gdTup, ↓gdCons, ↓gdNil, ↓gdSub, ↓rIx_tup, ↓rIx_str, ↓rIx_lst, ↓rIx_ref, ↓rSetL, ↓rSl, ↓dSl, ↓doNone, ↓doSome, ↓rAdd, ↓rSub, ↓rMul, ↓rMod, ↓rFdiv, ↓rPow, ↓rShl, ↓rShr, ↓rBand, ↓rBor, ↓rInt, ↓cInt, ↓cLen_tup, ↓cLen_str, ↓cLen_lst, ↓cLen_ref, ↓cTuple, ↓cSorted, ↓cMax2, ↓rEq, ↓rNe, ↓rLt, ↓rGt, ↓rLe, ↓rGe, ↓rOrd, ↓rIn, ↓rIs, ↓isNone, ↓truD, ↓frzAll, ↓diA, ↓diR1, ↓diR2, ↓dFor, ↓dLc, ↓dLcM, ↓dtYes, ↓wipeD, dat, datL, seqL, L2.CPow, List.getElem?_cons_zero, List.getElem?_cons_succ, List.set_cons_zero, List.set_cons_succ, List.length_cons, List.length_nil, List.map_cons, List.map_nil, upS_same, if_true, if_false, Bool.false_eq_true, true_and, and_true, Bool.not_true, Bool.not_false, Bool.true_xor, Bool.false_xor, eqv_int, eqv_str, eqv_bool, dp_int, dp_str, dp_bool, dp_none, al_int, al_str, min00, ne_int, ne_str, mapM_p, atD_zero, atD_one, atD_two, atD_three, PyData.isTuple, PyData.isInt, PyData.isStr, PyData.isBool, PyData.isList, PyData.isDict, Nat.reduceAdd, Int.cast_ofNat_Int, Int.reduceEq, Int.reduceAdd, Int.reduceSub, decide_true, decide_false, decide_eq_true_eq, ↓reduceIte, reduceCtorEq, ↓t__law_name_list_16]
    obtain ⟨ms, h1, h2, h3, h4⟩ := sort_nm hnd
    refine ⟨⟨alikeAll_nm ns, sortable_nm ns, by rw [encs_len]; exact small (by omega), encs_depth⟩, ?_⟩
    rw [h1]
    exact Fin.drop (by rw [upS_ne (Ne.symm hpm)]; exact hm0) (hQ ms o' h2 (by omega) ho')
end Sh

set_option Elab.async false
set_option linter.all false
set_option autoImplicit false
set_option maxRecDepth 100000
set_option maxHeartbeats 2000000
/-! Sx, part C: papers -/
namespace Sh
open PySem Tx Mx

abbrev nms (ns : List Nm) : List D := (List.map Nm.enc ns).map D.p
theorem small_pow {n : Nat} (h : n ≤ 10) : 2 ^ n ≤ 1024 := Nat.le_trans (Nat.pow_le_pow_right (by omega) h) (by decide)

/-! ### folded -/
def sp_folded : DSp := fun ds S Q => ∃ ns vs, ds = [D.p (.list (ns.map Nm.enc)), D.p (.list (vs.map encV))] ∧ Asc ns ∧ ns.length ≤ 10 ∧ vs.length = 2 ^ ns.length ∧ ∀ p, PapOf ns vs p → Q (D.p p.enc) S
theorem depth_row {p : Pap} {h : Nat} (k : p.ht ≤ h) (hh : h ≤ 50) : p.enc.depth ≤ 60 := by
  have := depth_pap p
  omega
theorem halve_take {n : Nm} {r : List Pap} {j : Nat} {a b : Pap} (h1 : r[2 * j]? = some a) (h2 : r[2 * j + 1]? = some b) : (halve n r).take (j + 1) = (halve n r).take j ++ [if a = b then a else .br n a b] :=
  take_succ (halve_get n j r a b h1 h2)
theorem foldP_take {ns : List Nm} {k : Nat} {a : Nm} {r : List Pap} (h : ns[k]? = some a) : foldP (ns.take (k + 1)) r = halve a (foldP (ns.take k) r) := by
  rw [take_succ h]; unfold foldP; rw [List.foldl_append]; rfl
theorem foldP_len : ∀ (k : Nat) (ns : List Nm) (r : List Pap), k ≤ ns.length → r.length = 2 ^ ns.length → (foldP (ns.take k) r).length = 2 ^ (ns.length - k)
  | 0, ns, r, _, h => by simpa [foldP] using h
  | k + 1, ns, r, hk, h => by
    have e : ns[k]? = some ns[k] := List.getElem?_eq_getElem hk
    have ih := foldP_len k ns r (by omega) h
    rw [foldP_take e]
    refine halve_len _ _ _ ?_
    rw [ih, show ns.length - k = (ns.length - (k + 1)) + 1 from by omega, Nat.pow_succ]
    omega
theorem hs_folded (ds : List D) (S : Sto) (Q : DQ) (hl : ds.length = 2) (h : sp_folded ds S Q) : t__law_folded { nx := fun _ S' => Fin Q (.p .none) S', rt := Fin Q } (dstart 7 ds) S := by
  obtain ⟨ns, vs, rfl, hasc, hns, hvs, hQ⟩ := h
  show t__law_folded _ [some (D.p (.list (ns.map Nm.enc))), some (D.p (.list (vs.map encV))), none, none, none, none, none] S
  simp only [↓dSeq, ↓dNext, ↓dSet, ↓dDrop, ↓dRet, ↓dRetN, ↓dIfS, ↓dAsg, ↓dBreak, ↓dCont, ↓dVar, ↓dC, ↓dOp, ↓dTB, ↓dtAnd, ↓dtOr, ↓dtNot, ↓dTru, ↓dAnd, ↓dOr, ↓dNot, ↓dIf, ↓dChain, ↓dCall, ↓dCB, ↓dCons, ↓dNil, ↓dStar, ↓dTup, ↓dLst, ↓dLstM, ↓dIsa, ↓dApp, ↓dNeg, ↓gdName, ↓gdTup, ↓gdCons, ↓gdNil, ↓gdSub, ↓rIx_tup, ↓rIx_str, ↓rIx_lst, ↓rIx_ref, ↓rSetL, ↓rSl, ↓dSl, ↓doNone, ↓doSome, ↓rAdd, ↓rSub, ↓rMul, ↓rMod, ↓rFdiv, ↓rPow, ↓rShl, ↓rShr, ↓rBand, ↓rBor, ↓rInt, ↓cInt, ↓cLen_tup, ↓cLen_str, ↓cLen_lst, ↓cLen_ref, ↓cTuple, ↓cSorted, ↓cMax2, ↓rEq, ↓rNe, ↓rLt, ↓rGt, ↓rLe, ↓rGe, ↓rOrd, ↓rIn, ↓rIs, ↓isNone, ↓truD, ↓frzAll, ↓diA, ↓diR1, ↓diR2, ↓dFor, ↓dLc, ↓dLcM, ↓dtYes, ↓wipeD, dat, datL, seqL, L2.CPow, List.getElem?_cons_zero, List.getElem?_cons_succ, List.set_cons_zero, List.set_cons_succ, List.length_cons, List.length_nil, List.map_cons, List.map_nil, upS_same, if_true, if_false, Bool.false_eq_true, true_and, and_true, Bool.not_true, Bool.not_false, Bool.true_xor, Bool.false_xor, eqv_int, eqv_str, eqv_bool, dp_int, dp_str, dp_bool, dp_none, al_int, al_str, min00, ne_int, ne_str, mapM_p, atD_zero, atD_one, atD_two, atD_three, PyData.isTuple, PyData.isInt, PyData.isStr, PyData.isBool, PyData.isList, PyData.isDict, Nat.reduceAdd, Int.cast_ofNat_Int, Int.reduceEq, Int.reduceAdd, Int.reduceSub, decide_true, decide_false, decide_eq_true_eq, ↓reduceIte, reduceCtorEq, ↓t__law_folded]
  have hz : (vs.map encV).length ≤ 1024 := by rw [List.length_map, hvs]; exact small_pow hns
  refine fun n hn => lc_map (fun d => match d with | .p d => .tuple [.str "is", d] | .r _ => .none) hn (by rw [List.length_map]; exact smallL (by omega)) (fun _ => trivial) ?_ ?_
  · intro x hx acc R R' hq
    obtain ⟨v, hv, rfl⟩ := List.mem_map.mp hx
    simp only [↓dSeq, ↓dNext, ↓dSet, ↓dDrop, ↓dRet, ↓dRetN, ↓dIfS, ↓dAsg, ↓dBreak, ↓dCont, ↓dVar, ↓dC, ↓dOp, ↓dTB, ↓dtAnd, ↓dtOr, ↓dtNot, ↓dTru, ↓dAnd, ↓dOr, ↓dNot, ↓dIf, ↓dChain, ↓dCall, ↓dCB, ↓dCons, ↓dNil, ↓dStar, ↓dTup, ↓dLst, ↓dLstM, ↓dIsa, ↓dApp, ↓dNeg, ↓gdName, ↓gdTup, ↓gdCons, ↓gdNil, ↓gdSub, ↓rIx_tup, ↓rIx_str, ↓rIx_lst, ↓rIx_ref, ↓rSetL, ↓rSl, ↓dSl, ↓doNone, ↓doSome, ↓rAdd, ↓rSub, ↓rMul, ↓rMod, ↓rFdiv, ↓rPow, ↓rShl, ↓rShr, ↓rBand, ↓rBor, ↓rInt, ↓cInt, ↓cLen_tup, ↓cLen_str, ↓cLen_lst, ↓cLen_ref, ↓cTuple, ↓cSorted, ↓cMax2, ↓rEq, ↓rNe, ↓rLt, ↓rGt, ↓rLe, ↓rGe, ↓rOrd, ↓rIn, ↓rIs, ↓isNone, ↓truD, ↓frzAll, ↓diA, ↓diR1, ↓diR2, ↓dFor, ↓dLc, ↓dLcM, ↓dtYes, ↓wipeD, dat, datL, seqL, L2.CPow, List.getElem?_cons_zero, List.getElem?_cons_succ, List.set_cons_zero, List.set_cons_succ, List.length_cons, List.length_nil, List.map_cons, List.map_nil, upS_same, if_true, if_false, Bool.false_eq_true, true_and, and_true, Bool.not_true, Bool.not_false, Bool.true_xor, Bool.false_xor, eqv_int, eqv_str, eqv_bool, dp_int, dp_str, dp_bool, dp_none, al_int, al_str, min00, ne_int, ne_str, mapM_p, atD_zero, atD_one, atD_two, atD_three, PyData.isTuple, PyData.isInt, PyData.isStr, PyData.isBool, PyData.isList, PyData.isDict, Nat.reduceAdd, Int.cast_ofNat_Int, Int.reduceEq, Int.reduceAdd, Int.reduceSub, decide_true, decide_false, decide_eq_true_eq, ↓reduceIte, reduceCtorEq]
    exact ⟨by decide, hq⟩
  simp only [↓dSeq, ↓dNext, ↓dSet, ↓dDrop, ↓dRet, ↓dRetN, ↓dIfS, ↓dAsg, ↓dBreak, ↓dCont, ↓dVar, ↓dC, ↓dOp, ↓dTB, ↓dtAnd, ↓dtOr, ↓dtNot, ↓dTru, ↓dAnd, ↓dOr, ↓dNot, ↓dIf, ↓dChain, ↓dCall, ↓dCB, ↓dCons, ↓dNil, ↓dStar, ↓dTup, ↓dLst, ↓dLstM, ↓dIsa, ↓dApp, ↓dNeg, ↓gdName, ↓gdTup, ↓gdCons, ↓gdNil, ↓gdSub, ↓rIx_tup, ↓rIx_str, ↓rIx_lst, ↓rIx_ref, ↓rSetL, ↓rSl, ↓dSl, ↓doNone, ↓doSome, ↓rAdd, ↓rSub, ↓rMul, ↓rMod, ↓rFdiv, ↓rPow, ↓rShl, ↓rShr, ↓rBand, ↓rBor, ↓rInt, ↓cInt, ↓cLen_tup, ↓cLen_str, ↓cLen_lst, ↓cLen_ref, ↓cTuple, ↓cSorted, ↓cMax2, ↓rEq, ↓rNe, ↓rLt, ↓rGt, ↓rLe, ↓rGe, ↓rOrd, ↓rIn, ↓rIs, ↓isNone, ↓truD, ↓frzAll, ↓diA, ↓diR1, ↓diR2, ↓dFor, ↓dLc, ↓dLcM, ↓dtYes, ↓wipeD, dat, datL, seqL, L2.CPow, List.getElem?_cons_zero, List.getElem?_cons_succ, List.set_cons_zero, List.set_cons_succ, List.length_cons, List.length_nil, List.map_cons, List.map_nil, upS_same, if_true, if_false, Bool.false_eq_true, true_and, and_true, Bool.not_true, Bool.not_false, Bool.true_xor, Bool.false_xor, eqv_int, eqv_str, eqv_bool, dp_int, dp_str, dp_bool, dp_none, al_int, al_str, min00, ne_int, ne_str, mapM_p, atD_zero, atD_one, atD_two, atD_three, PyData.isTuple, PyData.isInt, PyData.isStr, PyData.isBool, PyData.isList, PyData.isDict, Nat.reduceAdd, Int.cast_ofNat_Int, Int.reduceEq, Int.reduceAdd, Int.reduceSub, decide_true, decide_false, decide_eq_true_eq, ↓reduceIte, reduceCtorEq, ↓t__law_folded_8]
  generalize hrow : D.p (PyData.list (List.map (fun d => match d with | .p d => PyData.tuple [.str "is", d] | .r _ => .none) ((vs.map encV).map D.p))) = row0
  have hrow0 : seqL S row0 = some (((isRow vs).map Pap.enc).map D.p) := by
    rw [← hrow]
    simp only [seqL, isRow, List.map_map]
    rfl
  refine lp_list (fun k env S' => ∃ row e3 e4 e5 e6, env = [some (D.p (.list (ns.map Nm.enc))), some (D.p (.list (vs.map encV))), some row, e3, e4, e5, e6] ∧ Keeps S S' ∧ seqL S' row = some (((foldP (ns.take k) (isRow vs)).map Pap.enc).map D.p)) ⟨row0, _, _, _, _, rfl, .refl, hrow0⟩ ?_ ?_
  · rintro k x env S' De' hx ⟨row, e3, e4, e5, e6, rfl, hk, hrow⟩ hnx - - -
    obtain ⟨a', ha', rfl⟩ := map_getD hx
    obtain ⟨a, ha, rfl⟩ := map_getD ha'
    have hkl : k < ns.length := (List.getElem?_eq_some_iff.mp ha).1
    have hlen := foldP_len k ns (isRow vs) (by omega) (by rw [isRow, List.length_map, hvs])
    rw [show ns.length - k = (ns.length - (k + 1)) + 1 from by omega, Nat.pow_succ] at hlen
    have hpow := small_pow (show ns.length - (k + 1) ≤ 10 by omega)
    have hok := foldP_ok (ns.take k) [] 0 (isRow vs) (List.Pairwise.sublist (List.take_sublist _ _) hasc) (isRow_ok vs)
    have hht : ∀ p ∈ foldP (ns.take k) (isRow vs), p.ht ≤ 50 := fun p hp => Nat.le_trans (hok.ht p hp) (by rw [List.length_take]; omega)
    generalize hL : 2 ^ (ns.length - (k + 1)) = L at hlen hpow
    have hhl := halve_len a L (foldP (ns.take k) (isRow vs)) (by omega)
    simp only [↓dSeq, ↓dNext, ↓dSet, ↓dDrop, ↓dRet, ↓dRetN, ↓dIfS, ↓dAsg, ↓dBreak, ↓dCont, ↓dVar, ↓dC, ↓dOp, ↓dTB, ↓dtAnd, ↓dtOr, ↓dtNot, ↓dTru, ↓dAnd, ↓dOr, ↓dNot, ↓dIf, ↓dChain, ↓dCall, ↓dCB, ↓dCons, ↓dNil, ↓dStar, ↓dTup, ↓dLst, ↓dLstM, ↓dIsa, ↓dApp, ↓dNeg, ↓gdName, ↓gdTup, ↓gdCons, ↓gdNil, ↓gdSub, ↓rIx_tup, ↓rIx_str, ↓rIx_lst, ↓rIx_ref, ↓rSetL, ↓rSl, ↓dSl, ↓doNone, ↓doSome, ↓rAdd, ↓rSub, ↓rMul, ↓rMod, ↓rFdiv, ↓rPow, ↓rShl, ↓rShr, ↓rBand, ↓rBor, ↓rInt, ↓cInt, ↓cLen_tup, ↓cLen_str, ↓cLen_lst, ↓cLen_ref, ↓cTuple, ↓cSorted, ↓cMax2, ↓rEq, ↓rNe, ↓rLt, ↓rGt, ↓rLe, ↓rGe, ↓rOrd, ↓rIn, ↓rIs, ↓isNone, ↓truD, ↓frzAll, ↓diA, ↓diR1, ↓diR2, ↓dFor, ↓dLc, ↓dLcM, ↓dtYes, ↓wipeD, dat, datL, seqL, L2.CPow, List.getElem?_cons_zero, List.getElem?_cons_succ, List.set_cons_zero, List.set_cons_succ, List.length_cons, List.length_nil, List.map_cons, List.map_nil, upS_same, if_true, if_false, Bool.false_eq_true, true_and, and_true, Bool.not_true, Bool.not_false, Bool.true_xor, Bool.false_xor, eqv_int, eqv_str, eqv_bool, dp_int, dp_str, dp_bool, dp_none, al_int, al_str, min00, ne_int, ne_str, mapM_p, atD_zero, atD_one, atD_two, atD_three, PyData.isTuple, PyData.isInt, PyData.isStr, PyData.isBool, PyData.isList, PyData.isDict, Nat.reduceAdd, Int.cast_ofNat_Int, Int.reduceEq, Int.reduceAdd, Int.reduceSub, decide_true, decide_false, decide_eq_true_eq, ↓reduceIte, reduceCtorEq, ↓t__law_folded_6]
    refine ⟨by decide, fun m hm => ?_⟩
    have hrow' : ∀ o, seqL (upS S' m o) row = some (((foldP (ns.take k) (isRow vs)).map Pap.enc).map D.p) := fun o => seqL_keeps (upS_less hm) hrow
    simp only [↓dSeq, ↓dNext, ↓dSet, ↓dDrop, ↓dRet, ↓dRetN, ↓dIfS, ↓dAsg, ↓dBreak, ↓dCont, ↓dVar, ↓dC, ↓dOp, ↓dTB, ↓dtAnd, ↓dtOr, ↓dtNot, ↓dTru, ↓dAnd, ↓dOr, ↓dNot, ↓dIf, ↓dChain, ↓dCall, ↓dCB, ↓dCons, ↓dNil, ↓dStar, ↓dTup, ↓dLst, ↓dLstM, ↓dIsa, ↓dApp, ↓dNeg, ↓gdName, ↓gdTup, ↓gdCons, ↓gdNil, ↓gdSub, ↓rIx_tup, ↓rIx_str, ↓rIx_lst, ↓rIx_ref, ↓rSetL, ↓rSl, ↓dSl, ↓doNone, ↓doSome, ↓rAdd, ↓rSub, ↓rMul, ↓rMod, ↓rFdiv, ↓rPow, ↓rShl, ↓rShr, ↓rBand, ↓rBor, ↓rInt, ↓cInt, ↓cLen_tup, ↓cLen_str, ↓cLen_lst, ↓cLen_ref, ↓cTuple, ↓cSorted, ↓cMax2, ↓rEq, ↓rNe, ↓rLt, ↓rGt, ↓rLe, ↓rGe, ↓rOrd, ↓rIn, ↓rIs, ↓isNone, ↓truD, ↓frzAll, ↓diA, ↓diR1, ↓diR2, ↓dFor, ↓dLc, ↓dLcM, ↓dtYes, ↓wipeD, dat, datL, seqL, L2.CPow, List.getElem?_cons_zero, List.getElem?_cons_succ, List.set_cons_zero, List.set_cons_succ, List.length_cons, List.length_nil, List.map_cons, List.map_nil, upS_same, if_true, if_false, Bool.false_eq_true, true_and, and_true, Bool.not_true, Bool.not_false, Bool.true_xor, Bool.false_xor, eqv_int, eqv_str, eqv_bool, dp_int, dp_str, dp_bool, dp_none, al_int, al_str, min00, ne_int, ne_str, mapM_p, atD_zero, atD_one, atD_two, atD_three, PyData.isTuple, PyData.isInt, PyData.isStr, PyData.isBool, PyData.isList, PyData.isDict, Nat.reduceAdd, Int.cast_ofNat_Int, Int.reduceEq, Int.reduceAdd, Int.reduceSub, decide_true, decide_false, decide_eq_true_eq, ↓reduceIte, reduceCtorEq, ↓t__law_folded_5, ↓cLen_of (hrow' _), List.length_map]
    refine ⟨⟨by decide, by decide⟩, by omega, ?_⟩
    rw [show ((foldP (ns.take k) (isRow vs)).length : Int) / 2 = (L : Int) from by omega, show ((L : Int)).toNat = L from rfl]
    refine lp_range (fun j env S'' => ∃ e6, env = [some (D.p (.list (ns.map Nm.enc))), some (D.p (.list (vs.map encV))), some row, e3, some (D.p a.enc), some (.r m), e6] ∧ S'' = upS S' m (.lst ((((halve a (foldP (ns.take k) (isRow vs))).take j).map Pap.enc).map D.p))) ⟨_, rfl, rfl⟩ ?_ ?_
    · rintro j env S'' De2 hj ⟨e6, rfl, rfl⟩ hnx2 - - -
      have gl : 2 * j + 1 < (foldP (ns.take k) (isRow vs)).length := by omega
      have g1 : (foldP (ns.take k) (isRow vs))[2 * j]? = some ((foldP (ns.take k) (isRow vs))[2 * j]) := List.getElem?_eq_getElem (by omega)
      have g2 : (foldP (ns.take k) (isRow vs))[2 * j + 1]? = some ((foldP (ns.take k) (isRow vs))[2 * j + 1]) := List.getElem?_eq_getElem gl
      have m1 := hht _ (List.mem_of_getElem? g1)
      generalize (foldP (ns.take k) (isRow vs))[2 * j] = p1 at g1 m1
      generalize (foldP (ns.take k) (isRow vs))[2 * j + 1] = p2 at g2
      have i1 : atD (((foldP (ns.take k) (isRow vs)).map Pap.enc).map D.p) (2 * (0 + (j : Int))) = some (D.p p1.enc) := by
        rw [show 2 * (0 + (j : Int)) = ((2 * j : Nat) : Int) from by omega]; exact atD_nat (map_get (map_get g1))
      have i2 : atD (((foldP (ns.take k) (isRow vs)).map Pap.enc).map D.p) (2 * (0 + (j : Int)) + 1) = some (D.p p2.enc) := by
        rw [show 2 * (0 + (j : Int)) + 1 = ((2 * j + 1 : Nat) : Int) from by omega]; exact atD_nat (map_get (map_get g2))
      have hjl : (List.map D.p (List.map Pap.enc (List.take j (halve a (foldP (ns.take k) (isRow vs)))))).length = j := by rw [List.length_map, List.length_map, List.length_take]; omega
      simp only [↓dSeq, ↓dNext, ↓dSet, ↓dDrop, ↓dRet, ↓dRetN, ↓dIfS, ↓dAsg, ↓dBreak, ↓dCont, ↓dVar, ↓dC, ↓dOp, ↓dTB, ↓dtAnd, ↓dtOr, ↓dtNot, ↓dTru, ↓dAnd, ↓dOr, ↓dNot, ↓dIf, ↓dChain, ↓dCall, ↓dCB, ↓dCons, ↓dNil, ↓dStar, ↓dTup, ↓dLst, ↓dLstM, ↓dIsa, ↓dApp, ↓dNeg, ↓gdName, ↓gdTup, ↓gdCons, ↓gdNil, ↓gdSub, ↓rIx_tup, ↓rIx_str, ↓rIx_lst, ↓rIx_ref, ↓rSetL, ↓rSl, ↓dSl, ↓doNone, ↓doSome, ↓rAdd, ↓rSub, ↓rMul, ↓rMod, ↓rFdiv, ↓rPow, ↓rShl, ↓rShr, ↓rBand, ↓rBor, ↓rInt, ↓cInt, ↓cLen_tup, ↓cLen_str, ↓cLen_lst, ↓cLen_ref, ↓cTuple, ↓cSorted, ↓cMax2, ↓rEq, ↓rNe, ↓rLt, ↓rGt, ↓rLe, ↓rGe, ↓rOrd, ↓rIn, ↓rIs, ↓isNone, ↓truD, ↓frzAll, ↓diA, ↓diR1, ↓diR2, ↓dFor, ↓dLc, ↓dLcM, ↓dtYes, ↓wipeD, dat, datL, seqL, L2.CPow, List.getElem?_cons_zero, List.getElem?_cons_succ, List.set_cons_zero, List.set_cons_succ, List.length_cons, List.length_nil, List.map_cons, List.map_nil, upS_same, if_true, if_false, Bool.false_eq_true, true_and, and_true, Bool.not_true, Bool.not_false, Bool.true_xor, Bool.false_xor, eqv_int, eqv_str, eqv_bool, dp_int, dp_str, dp_bool, dp_none, al_int, al_str, min00, ne_int, ne_str, mapM_p, atD_zero, atD_one, atD_two, atD_three, PyData.isTuple, PyData.isInt, PyData.isStr, PyData.isBool, PyData.isList, PyData.isDict, Nat.reduceAdd, Int.cast_ofNat_Int, Int.reduceEq, Int.reduceAdd, Int.reduceSub, decide_true, decide_false, decide_eq_true_eq, ↓reduceIte, reduceCtorEq, ↓t__law_folded_3]
      refine ⟨.inl ⟨by decide, by decide⟩, ?_⟩
      simp only [↓dSeq, ↓dNext, ↓dSet, ↓dDrop, ↓dRet, ↓dRetN, ↓dIfS, ↓dAsg, ↓dBreak, ↓dCont, ↓dVar, ↓dC, ↓dOp, ↓dTB, ↓dtAnd, ↓dtOr, ↓dtNot, ↓dTru, ↓dAnd, ↓dOr, ↓dNot, ↓dIf, ↓dChain, ↓dCall, ↓dCB, ↓dCons, ↓dNil, ↓dStar, ↓dTup, ↓dLst, ↓dLstM, ↓dIsa, ↓dApp, ↓dNeg, ↓gdName, ↓gdTup, ↓gdCons, ↓gdNil, ↓gdSub, ↓rIx_tup, ↓rIx_str, ↓rIx_lst, ↓rIx_ref, ↓rSetL, ↓rSl, ↓dSl, ↓doNone, ↓doSome, ↓rAdd, ↓rSub, ↓rMul, ↓rMod, ↓rFdiv, ↓rPow, ↓rShl, ↓rShr, ↓rBand, ↓rBor, ↓rInt, ↓cInt, ↓cLen_tup, ↓cLen_str, ↓cLen_lst, ↓cLen_ref, ↓cTuple, ↓cSorted, ↓cMax2, ↓rEq, ↓rNe, ↓rLt, ↓rGt, ↓rLe, ↓rGe, ↓rOrd, ↓rIn, ↓rIs, ↓isNone, ↓truD, ↓frzAll, ↓diA, ↓diR1, ↓diR2, ↓dFor, ↓dLc, ↓dLcM, ↓dtYes, ↓wipeD, dat, datL, seqL, L2.CPow, List.getElem?_cons_zero, List.getElem?_cons_succ, List.set_cons_zero, List.set_cons_succ, List.length_cons, List.length_nil, List.map_cons, List.map_nil, upS_same, if_true, if_false, Bool.false_eq_true, true_and, and_true, Bool.not_true, Bool.not_false, Bool.true_xor, Bool.false_xor, eqv_int, eqv_str, eqv_bool, dp_int, dp_str, dp_bool, dp_none, al_int, al_str, min00, ne_int, ne_str, mapM_p, atD_zero, atD_one, atD_two, atD_three, PyData.isTuple, PyData.isInt, PyData.isStr, PyData.isBool, PyData.isList, PyData.isDict, Nat.reduceAdd, Int.cast_ofNat_Int, Int.reduceEq, Int.reduceAdd, Int.reduceSub, decide_true, decide_false, decide_eq_true_eq, ↓reduceIte, reduceCtorEq, ↓rIx_of (hrow' _), i1]
      refine ⟨.inl ⟨by decide, by decide⟩, ?_⟩
      simp only [↓dSeq, ↓dNext, ↓dSet, ↓dDrop, ↓dRet, ↓dRetN, ↓dIfS, ↓dAsg, ↓dBreak, ↓dCont, ↓dVar, ↓dC, ↓dOp, ↓dTB, ↓dtAnd, ↓dtOr, ↓dtNot, ↓dTru, ↓dAnd, ↓dOr, ↓dNot, ↓dIf, ↓dChain, ↓dCall, ↓dCB, ↓dCons, ↓dNil, ↓dStar, ↓dTup, ↓dLst, ↓dLstM, ↓dIsa, ↓dApp, ↓dNeg, ↓gdName, ↓gdTup, ↓gdCons, ↓gdNil, ↓gdSub, ↓rIx_tup, ↓rIx_str, ↓rIx_lst, ↓rIx_ref, ↓rSetL, ↓rSl, ↓dSl, ↓doNone, ↓doSome, ↓rAdd, ↓rSub, ↓rMul, ↓rMod, ↓rFdiv, ↓rPow, ↓rShl, ↓rShr, ↓rBand, ↓rBor, ↓rInt, ↓cInt, ↓cLen_tup, ↓cLen_str, ↓cLen_lst, ↓cLen_ref, ↓cTuple, ↓cSorted, ↓cMax2, ↓rEq, ↓rNe, ↓rLt, ↓rGt, ↓rLe, ↓rGe, ↓rOrd, ↓rIn, ↓rIs, ↓isNone, ↓truD, ↓frzAll, ↓diA, ↓diR1, ↓diR2, ↓dFor, ↓dLc, ↓dLcM, ↓dtYes, ↓wipeD, dat, datL, seqL, L2.CPow, List.getElem?_cons_zero, List.getElem?_cons_succ, List.set_cons_zero, List.set_cons_succ, List.length_cons, List.length_nil, List.map_cons, List.map_nil, upS_same, if_true, if_false, Bool.false_eq_true, true_and, and_true, Bool.not_true, Bool.not_false, Bool.true_xor, Bool.false_xor, eqv_int, eqv_str, eqv_bool, dp_int, dp_str, dp_bool, dp_none, al_int, al_str, min00, ne_int, ne_str, mapM_p, atD_zero, atD_one, atD_two, atD_three, PyData.isTuple, PyData.isInt, PyData.isStr, PyData.isBool, PyData.isList, PyData.isDict, Nat.reduceAdd, Int.cast_ofNat_Int, Int.reduceEq, Int.reduceAdd, Int.reduceSub, decide_true, decide_false, decide_eq_true_eq, ↓reduceIte, reduceCtorEq, ↓rIx_of (hrow' _), i2, eqv_pap]
      refine ⟨min_le60 (depth_row m1 (by omega)), ?_⟩
      have ht := halve_take (n := a) g1 g2
      by_cases e : p1 = p2
      · rw [if_pos e]
        simp only [↓dSeq, ↓dNext, ↓dSet, ↓dDrop, ↓dRet, ↓dRetN, ↓dIfS, ↓dAsg, ↓dBreak, ↓dCont, ↓dVar, ↓dC, ↓dOp, ↓dTB, ↓dtAnd, ↓dtOr, ↓dtNot, ↓dTru, ↓dAnd, ↓dOr, ↓dNot, ↓dIf, ↓dChain, ↓dCall, ↓dCB, ↓dCons, ↓dNil, ↓dStar, ↓dTup, ↓dLst, ↓dLstM, ↓dIsa, ↓dApp, ↓dNeg, ↓gdName, ↓gdTup, ↓gdCons, ↓gdNil, ↓gdSub, ↓rIx_tup, ↓rIx_str, ↓rIx_lst, ↓rIx_ref, ↓rSetL, ↓rSl, ↓dSl, ↓doNone, ↓doSome, ↓rAdd, ↓rSub, ↓rMul, ↓rMod, ↓rFdiv, ↓rPow, ↓rShl, ↓rShr, ↓rBand, ↓rBor, ↓rInt, ↓cInt, ↓cLen_tup, ↓cLen_str, ↓cLen_lst, ↓cLen_ref, ↓cTuple, ↓cSorted, ↓cMax2, ↓rEq, ↓rNe, ↓rLt, ↓rGt, ↓rLe, ↓rGe, ↓rOrd, ↓rIn, ↓rIs, ↓isNone, ↓truD, ↓frzAll, ↓diA, ↓diR1, ↓diR2, ↓dFor, ↓dLc, ↓dLcM, ↓dtYes, ↓wipeD, dat, datL, seqL, L2.CPow, List.getElem?_cons_zero, List.getElem?_cons_succ, List.set_cons_zero, List.set_cons_succ, List.length_cons, List.length_nil, List.map_cons, List.map_nil, upS_same, if_true, if_false, Bool.false_eq_true, true_and, and_true, Bool.not_true, Bool.not_false, Bool.true_xor, Bool.false_xor, eqv_int, eqv_str, eqv_bool, dp_int, dp_str, dp_bool, dp_none, al_int, al_str, min00, ne_int, ne_str, mapM_p, atD_zero, atD_one, atD_two, atD_three, PyData.isTuple, PyData.isInt, PyData.isStr, PyData.isBool, PyData.isList, PyData.isDict, Nat.reduceAdd, Int.cast_ofNat_Int, Int.reduceEq, Int.reduceAdd, Int.reduceSub, decide_true, decide_false, decide_eq_true_eq, ↓reduceIte, reduceCtorEq, ↓t__law_folded_1]
        refine ⟨⟨_, rfl⟩, .inl ⟨by decide, by decide⟩, ?_⟩
        simp only [↓dSeq, ↓dNext, ↓dSet, ↓dDrop, ↓dRet, ↓dRetN, ↓dIfS, ↓dAsg, ↓dBreak, ↓dCont, ↓dVar, ↓dC, ↓dOp, ↓dTB, ↓dtAnd, ↓dtOr, ↓dtNot, ↓dTru, ↓dAnd, ↓dOr, ↓dNot, ↓dIf, ↓dChain, ↓dCall, ↓dCB, ↓dCons, ↓dNil, ↓dStar, ↓dTup, ↓dLst, ↓dLstM, ↓dIsa, ↓dApp, ↓dNeg, ↓gdName, ↓gdTup, ↓gdCons, ↓gdNil, ↓gdSub, ↓rIx_tup, ↓rIx_str, ↓rIx_lst, ↓rIx_ref, ↓rSetL, ↓rSl, ↓dSl, ↓doNone, ↓doSome, ↓rAdd, ↓rSub, ↓rMul, ↓rMod, ↓rFdiv, ↓rPow, ↓rShl, ↓rShr, ↓rBand, ↓rBor, ↓rInt, ↓cInt, ↓cLen_tup, ↓cLen_str, ↓cLen_lst, ↓cLen_ref, ↓cTuple, ↓cSorted, ↓cMax2, ↓rEq, ↓rNe, ↓rLt, ↓rGt, ↓rLe, ↓rGe, ↓rOrd, ↓rIn, ↓rIs, ↓isNone, ↓truD, ↓frzAll, ↓diA, ↓diR1, ↓diR2, ↓dFor, ↓dLc, ↓dLcM, ↓dtYes, ↓wipeD, dat, datL, seqL, L2.CPow, List.getElem?_cons_zero, List.getElem?_cons_succ, List.set_cons_zero, List.set_cons_succ, List.length_cons, List.length_nil, List.map_cons, List.map_nil, upS_same, if_true, if_false, Bool.false_eq_true, true_and, and_true, Bool.not_true, Bool.not_false, Bool.true_xor, Bool.false_xor, eqv_int, eqv_str, eqv_bool, dp_int, dp_str, dp_bool, dp_none, al_int, al_str, min00, ne_int, ne_str, mapM_p, atD_zero, atD_one, atD_two, atD_three, PyData.isTuple, PyData.isInt, PyData.isStr, PyData.isBool, PyData.isList, PyData.isDict, Nat.reduceAdd, Int.cast_ofNat_Int, Int.reduceEq, Int.reduceAdd, Int.reduceSub, decide_true, decide_false, decide_eq_true_eq, ↓reduceIte, reduceCtorEq, ↓rIx_of (hrow' _), i1, hjl]
        refine ⟨smallL (by omega), hnx2 _ _ trivial ⟨_, rfl, ?_⟩⟩
        rw [upS_upS, ht, if_pos e]; simp
      · rw [if_neg e]
        simp only [↓dSeq, ↓dNext, ↓dSet, ↓dDrop, ↓dRet, ↓dRetN, ↓dIfS, ↓dAsg, ↓dBreak, ↓dCont, ↓dVar, ↓dC, ↓dOp, ↓dTB, ↓dtAnd, ↓dtOr, ↓dtNot, ↓dTru, ↓dAnd, ↓dOr, ↓dNot, ↓dIf, ↓dChain, ↓dCall, ↓dCB, ↓dCons, ↓dNil, ↓dStar, ↓dTup, ↓dLst, ↓dLstM, ↓dIsa, ↓dApp, ↓dNeg, ↓gdName, ↓gdTup, ↓gdCons, ↓gdNil, ↓gdSub, ↓rIx_tup, ↓rIx_str, ↓rIx_lst, ↓rIx_ref, ↓rSetL, ↓rSl, ↓dSl, ↓doNone, ↓doSome, ↓rAdd, ↓rSub, ↓rMul, ↓rMod, ↓rFdiv, ↓rPow, ↓rShl, ↓rShr, ↓rBand, ↓rBor, ↓rInt, ↓cInt, ↓cLen_tup, ↓cLen_str, ↓cLen_lst, ↓cLen_ref, ↓cTuple, ↓cSorted, ↓cMax2, ↓rEq, ↓rNe, ↓rLt, ↓rGt, ↓rLe, ↓rGe, ↓rOrd, ↓rIn, ↓rIs, ↓isNone, ↓truD, ↓frzAll, ↓diA, ↓diR1, ↓diR2, ↓dFor, ↓dLc, ↓dLcM, ↓dtYes, ↓wipeD, dat, datL, seqL, L2.CPow, List.getElem?_cons_zero, List.getElem?_cons_succ, List.set_cons_zero, List.set_cons_succ, List.length_cons, List.length_nil, List.map_cons, List.map_nil, upS_same, if_true, if_false, Bool.false_eq_true, true_and, and_true, Bool.not_true, Bool.not_false, Bool.true_xor, Bool.false_xor, eqv_int, eqv_str, eqv_bool, dp_int, dp_str, dp_bool, dp_none, al_int, al_str, min00, ne_int, ne_str, mapM_p, atD_zero, atD_one, atD_two, atD_three, PyData.isTuple, PyData.isInt, PyData.isStr, PyData.isBool, PyData.isList, PyData.isDict, Nat.reduceAdd, Int.cast_ofNat_Int, Int.reduceEq, Int.reduceAdd, Int.reduceSub, decide_true, decide_false, decide_eq_true_eq, ↓reduceIte, reduceCtorEq, ↓t__law_folded_2]
        refine ⟨⟨_, rfl⟩, .inl ⟨by decide, by decide⟩, ?_⟩
        simp only [↓dSeq, ↓dNext, ↓dSet, ↓dDrop, ↓dRet, ↓dRetN, ↓dIfS, ↓dAsg, ↓dBreak, ↓dCont, ↓dVar, ↓dC, ↓dOp, ↓dTB, ↓dtAnd, ↓dtOr, ↓dtNot, ↓dTru, ↓dAnd, ↓dOr, ↓dNot, ↓dIf, ↓dChain, ↓dCall, ↓dCB, ↓dCons, ↓dNil, ↓dStar, ↓dTup, ↓dLst, ↓dLstM, ↓dIsa, ↓dApp, ↓dNeg, ↓gdName, ↓gdTup, ↓gdCons, ↓gdNil, ↓gdSub, ↓rIx_tup, ↓rIx_str, ↓rIx_lst, ↓rIx_ref, ↓rSetL, ↓rSl, ↓dSl, ↓doNone, ↓doSome, ↓rAdd, ↓rSub, ↓rMul, ↓rMod, ↓rFdiv, ↓rPow, ↓rShl, ↓rShr, ↓rBand, ↓rBor, ↓rInt, ↓cInt, ↓cLen_tup, ↓cLen_str, ↓cLen_lst, ↓cLen_ref, ↓cTuple, ↓cSorted, ↓cMax2, ↓rEq, ↓rNe, ↓rLt, ↓rGt, ↓rLe, ↓rGe, ↓rOrd, ↓rIn, ↓rIs, ↓isNone, ↓truD, ↓frzAll, ↓diA, ↓diR1, ↓diR2, ↓dFor, ↓dLc, ↓dLcM, ↓dtYes, ↓wipeD, dat, datL, seqL, L2.CPow, List.getElem?_cons_zero, List.getElem?_cons_succ, List.set_cons_zero, List.set_cons_succ, List.length_cons, List.length_nil, List.map_cons, List.map_nil, upS_same, if_true, if_false, Bool.false_eq_true, true_and, and_true, Bool.not_true, Bool.not_false, Bool.true_xor, Bool.false_xor, eqv_int, eqv_str, eqv_bool, dp_int, dp_str, dp_bool, dp_none, al_int, al_str, min00, ne_int, ne_str, mapM_p, atD_zero, atD_one, atD_two, atD_three, PyData.isTuple, PyData.isInt, PyData.isStr, PyData.isBool, PyData.isList, PyData.isDict, Nat.reduceAdd, Int.cast_ofNat_Int, Int.reduceEq, Int.reduceAdd, Int.reduceSub, decide_true, decide_false, decide_eq_true_eq, ↓reduceIte, reduceCtorEq, ↓rIx_of (hrow' _), i1]
        refine ⟨.inl ⟨by decide, by decide⟩, ?_⟩
        simp only [↓dSeq, ↓dNext, ↓dSet, ↓dDrop, ↓dRet, ↓dRetN, ↓dIfS, ↓dAsg, ↓dBreak, ↓dCont, ↓dVar, ↓dC, ↓dOp, ↓dTB, ↓dtAnd, ↓dtOr, ↓dtNot, ↓dTru, ↓dAnd, ↓dOr, ↓dNot, ↓dIf, ↓dChain, ↓dCall, ↓dCB, ↓dCons, ↓dNil, ↓dStar, ↓dTup, ↓dLst, ↓dLstM, ↓dIsa, ↓dApp, ↓dNeg, ↓gdName, ↓gdTup, ↓gdCons, ↓gdNil, ↓gdSub, ↓rIx_tup, ↓rIx_str, ↓rIx_lst, ↓rIx_ref, ↓rSetL, ↓rSl, ↓dSl, ↓doNone, ↓doSome, ↓rAdd, ↓rSub, ↓rMul, ↓rMod, ↓rFdiv, ↓rPow, ↓rShl, ↓rShr, ↓rBand, ↓rBor, ↓rInt, ↓cInt, ↓cLen_tup, ↓cLen_str, ↓cLen_lst, ↓cLen_ref, ↓cTuple, ↓cSorted, ↓cMax2, ↓rEq, ↓rNe, ↓rLt, ↓rGt, ↓rLe, ↓rGe, ↓rOrd, ↓rIn, ↓rIs, ↓isNone, ↓truD, ↓frzAll, ↓diA, ↓diR1, ↓diR2, ↓dFor, ↓dLc, ↓dLcM, ↓dtYes, ↓wipeD, dat, datL, seqL, L2.CPow, List.getElem?_cons_zero, List.getElem?_cons_succ, List.set_cons_zero, List.set_cons_succ, List.length_cons, List.length_nil, List.map_cons, List.map_nil, upS_same, if_true, if_false, Bool.false_eq_true, true_and, and_true, Bool.not_true, Bool.not_false, Bool.true_xor, Bool.false_xor, eqv_int, eqv_str, eqv_bool, dp_int, dp_str, dp_bool, dp_none, al_int, al_str, min00, ne_int, ne_str, mapM_p, atD_zero, atD_one, atD_two, atD_three, PyData.isTuple, PyData.isInt, PyData.isStr, PyData.isBool, PyData.isList, PyData.isDict, Nat.reduceAdd, Int.cast_ofNat_Int, Int.reduceEq, Int.reduceAdd, Int.reduceSub, decide_true, decide_false, decide_eq_true_eq, ↓reduceIte, reduceCtorEq, ↓rIx_of (hrow' _), i2, hjl]
        refine ⟨by decide, smallL (by omega), hnx2 _ _ trivial ⟨_, rfl, ?_⟩⟩
        rw [upS_upS, ht, if_neg e]; simp [Pap.enc]
    · rintro env S'' ⟨e6, rfl, rfl⟩
      simp only [↓dSeq, ↓dNext, ↓dSet, ↓dDrop, ↓dRet, ↓dRetN, ↓dIfS, ↓dAsg, ↓dBreak, ↓dCont, ↓dVar, ↓dC, ↓dOp, ↓dTB, ↓dtAnd, ↓dtOr, ↓dtNot, ↓dTru, ↓dAnd, ↓dOr, ↓dNot, ↓dIf, ↓dChain, ↓dCall, ↓dCB, ↓dCons, ↓dNil, ↓dStar, ↓dTup, ↓dLst, ↓dLstM, ↓dIsa, ↓dApp, ↓dNeg, ↓gdName, ↓gdTup, ↓gdCons, ↓gdNil, ↓gdSub, ↓rIx_tup, ↓rIx_str, ↓rIx_lst, ↓rIx_ref, ↓rSetL, ↓rSl, ↓dSl, ↓doNone, ↓doSome, ↓rAdd, ↓rSub, ↓rMul, ↓rMod, ↓rFdiv, ↓rPow, ↓rShl, ↓rShr, ↓rBand, ↓rBor, ↓rInt, ↓cInt, ↓cLen_tup, ↓cLen_str, ↓cLen_lst, ↓cLen_ref, ↓cTuple, ↓cSorted, ↓cMax2, ↓rEq, ↓rNe, ↓rLt, ↓rGt, ↓rLe, ↓rGe, ↓rOrd, ↓rIn, ↓rIs, ↓isNone, ↓truD, ↓frzAll, ↓diA, ↓diR1, ↓diR2, ↓dFor, ↓dLc, ↓dLcM, ↓dtYes, ↓wipeD, dat, datL, seqL, L2.CPow, List.getElem?_cons_zero, List.getElem?_cons_succ, List.set_cons_zero, List.set_cons_succ, List.length_cons, List.length_nil, List.map_cons, List.map_nil, upS_same, if_true, if_false, Bool.false_eq_true, true_and, and_true, Bool.not_true, Bool.not_false, Bool.true_xor, Bool.false_xor, eqv_int, eqv_str, eqv_bool, dp_int, dp_str, dp_bool, dp_none, al_int, al_str, min00, ne_int, ne_str, mapM_p, atD_zero, atD_one, atD_two, atD_three, PyData.isTuple, PyData.isInt, PyData.isStr, PyData.isBool, PyData.isList, PyData.isDict, Nat.reduceAdd, Int.cast_ofNat_Int, Int.reduceEq, Int.reduceAdd, Int.reduceSub, decide_true, decide_false, decide_eq_true_eq, ↓reduceIte, reduceCtorEq, ↓t__law_folded_4]
      refine hnx _ _ trivial ⟨_, _, _, _, _, rfl, hk.new hm, ?_⟩
      rw [foldP_take ha, ← hhl, List.take_length]
      simp only [↓dSeq, ↓dNext, ↓dSet, ↓dDrop, ↓dRet, ↓dRetN, ↓dIfS, ↓dAsg, ↓dBreak, ↓dCont, ↓dVar, ↓dC, ↓dOp, ↓dTB, ↓dtAnd, ↓dtOr, ↓dtNot, ↓dTru, ↓dAnd, ↓dOr, ↓dNot, ↓dIf, ↓dChain, ↓dCall, ↓dCB, ↓dCons, ↓dNil, ↓dStar, ↓dTup, ↓dLst, ↓dLstM, ↓dIsa, ↓dApp, ↓dNeg, ↓gdName, ↓gdTup, ↓gdCons, ↓gdNil, ↓gdSub, ↓rIx_tup, ↓rIx_str, ↓rIx_lst, ↓rIx_ref, ↓rSetL, ↓rSl, ↓dSl, ↓doNone, ↓doSome, ↓rAdd, ↓rSub, ↓rMul, ↓rMod, ↓rFdiv, ↓rPow, ↓rShl, ↓rShr, ↓rBand, ↓rBor, ↓rInt, ↓cInt, ↓cLen_tup, ↓cLen_str, ↓cLen_lst, ↓cLen_ref, ↓cTuple, ↓cSorted, ↓cMax2, ↓rEq, ↓rNe, ↓rLt, ↓rGt, ↓rLe, ↓rGe, ↓rOrd, ↓rIn, ↓rIs, ↓isNone, ↓truD, ↓frzAll, ↓diA, ↓diR1, ↓diR2, ↓dFor, ↓dLc, ↓dLcM, ↓dtYes, ↓wipeD, dat, datL, seqL, L2.CPow, List.getElem?_cons_zero, List.getElem?_cons_succ, List.set_cons_zero, List.set_cons_succ, List.length_cons, List.length_nil, List.map_cons, List.map_nil, upS_same, if_true, if_false, Bool.false_eq_true, true_and, and_true, Bool.not_true, Bool.not_false, Bool.true_xor, Bool.false_xor, eqv_int, eqv_str, eqv_bool, dp_int, dp_str, dp_bool, dp_none, al_int, al_str, min00, ne_int, ne_str, mapM_p, atD_zero, atD_one, atD_two, atD_three, PyData.isTuple, PyData.isInt, PyData.isStr, PyData.isBool, PyData.isList, PyData.isDict, Nat.reduceAdd, Int.cast_ofNat_Int, Int.reduceEq, Int.reduceAdd, Int.reduceSub, decide_true, decide_false, decide_eq_true_eq, ↓reduceIte, reduceCtorEq]
  · rintro env S' ⟨row, e3, e4, e5, e6, rfl, hk, hrow⟩
    obtain ⟨p, hp, hpo⟩ := papOf_fold hasc hvs
    simp only [List.length_map, List.take_length, hp] at hrow
    simp only [↓dSeq, ↓dNext, ↓dSet, ↓dDrop, ↓dRet, ↓dRetN, ↓dIfS, ↓dAsg, ↓dBreak, ↓dCont, ↓dVar, ↓dC, ↓dOp, ↓dTB, ↓dtAnd, ↓dtOr, ↓dtNot, ↓dTru, ↓dAnd, ↓dOr, ↓dNot, ↓dIf, ↓dChain, ↓dCall, ↓dCB, ↓dCons, ↓dNil, ↓dStar, ↓dTup, ↓dLst, ↓dLstM, ↓dIsa, ↓dApp, ↓dNeg, ↓gdName, ↓gdTup, ↓gdCons, ↓gdNil, ↓gdSub, ↓rIx_tup, ↓rIx_str, ↓rIx_lst, ↓rIx_ref, ↓rSetL, ↓rSl, ↓dSl, ↓doNone, ↓doSome, ↓rAdd, ↓rSub, ↓rMul, ↓rMod, ↓rFdiv, ↓rPow, ↓rShl, ↓rShr, ↓rBand, ↓rBor, ↓rInt, ↓cInt, ↓cLen_tup, ↓cLen_str, ↓cLen_lst, ↓cLen_ref, ↓cTuple, ↓cSorted, ↓cMax2, ↓rEq, ↓rNe, ↓rLt, ↓rGt, ↓rLe, ↓rGe, ↓rOrd, ↓rIn, ↓rIs, ↓isNone, ↓truD, ↓frzAll, ↓diA, ↓diR1, ↓diR2, ↓dFor, ↓dLc, ↓dLcM, ↓dtYes, ↓wipeD, dat, datL, seqL, L2.CPow, List.getElem?_cons_zero, List.getElem?_cons_succ, List.set_cons_zero, List.set_cons_succ, List.length_cons, List.length_nil, List.map_cons, List.map_nil, upS_same, if_true, if_false, Bool.false_eq_true, true_and, and_true, Bool.not_true, Bool.not_false, Bool.true_xor, Bool.false_xor, eqv_int, eqv_str, eqv_bool, dp_int, dp_str, dp_bool, dp_none, al_int, al_str, min00, ne_int, ne_str, mapM_p, atD_zero, atD_one, atD_two, atD_three, PyData.isTuple, PyData.isInt, PyData.isStr, PyData.isBool, PyData.isList, PyData.isDict, Nat.reduceAdd, Int.cast_ofNat_Int, Int.reduceEq, Int.reduceAdd, Int.reduceSub, decide_true, decide_false, decide_eq_true_eq, ↓reduceIte, reduceCtorEq, ↓t__law_folded_7, ↓rIx_of hrow]
    exact Fin.keeps (hQ p hpo) hk
theorem c_folded {ns : List Nm} {vs : List (Option Int)} {S : Sto} {Q : DQ} (h1 : Asc ns) (h2 : ns.length ≤ 10) (h3 : vs.length = 2 ^ ns.length) (h : ∀ p, PapOf ns vs p → Q (D.p p.enc) S) : sp_folded [D.p (.list (ns.map Nm.enc)), D.p (.list (vs.map encV))] S Q :=
  ⟨ns, vs, rfl, h1, h2, h3, h⟩

/-! ### digit -/
def sp_digit : DSp := fun ds S Q => ∃ (a k : Nat), ds = [D.p (.int a), D.p (.int k)] ∧ Q (D.p (.int (if a.testBit k = true then 1 else 0))) S
theorem digit_eq (a k : Nat) : (a : Int) / 2 ^ ((k : Int)).toNat % 2 = if a.testBit k = true then 1 else 0 := by
  rw [Int.toNat_natCast, show ((2 : Int) ^ k) = ((2 ^ k : Nat) : Int) from by simp, ← Int.natCast_ediv, show (2 : Int) = ((2 : Nat) : Int) from rfl, ← Int.natCast_emod]
  rw [Nat.testBit_eq_decide_div_mod_eq]
  have := Nat.mod_lt (a / 2 ^ k) (show 0 < 2 by omega)
  by_cases h : a / 2 ^ k % 2 = 1
  · simp [h]
  · have h0 : a / 2 ^ k % 2 = 0 := by omega
    simp [h0]
theorem hs_digit (ds : List D) (S : Sto) (Q : DQ) (hl : ds.length = 2) (h : sp_digit ds S Q) : t__law_digit { nx := fun _ S' => Fin Q (.p .none) S', rt := Fin Q } (dstart 2 ds) S := by
  obtain ⟨a, k, rfl, hQ⟩ := h
  show t__law_digit _ [some (D.p (.int a)), some (D.p (.int k))] S
  simp only [↓dSeq, ↓dNext, ↓dSet, ↓dDrop, ↓dRet, ↓dRetN, ↓dIfS, ↓dAsg, ↓dBreak, ↓dCont, ↓dVar, ↓dC, ↓dOp, ↓dTB, ↓dtAnd, ↓dtOr, ↓dtNot, ↓dTru, ↓dAnd, ↓dOr, ↓dNot, ↓dIf, ↓dChain, ↓dCall, ↓dCB, ↓dCons, ↓dNil, ↓dStar, ↓dTup, ↓dLst, ↓dLstM, ↓dIsa, ↓dApp, ↓dNeg, ↓gdName, ↓gdTup, ↓gdCons, ↓gdNil, ↓gdSub, ↓rIx_tup, ↓rIx_str, ↓rIx_lst, ↓rIx_ref, ↓rSetL, ↓rSl, ↓dSl, ↓doNone, ↓doSome, ↓rAdd, ↓rSub, ↓rMul, ↓rMod, ↓rFdiv, ↓rPow, ↓rShl, ↓rShr, ↓rBand, ↓rBor, ↓rInt, ↓cInt, ↓cLen_tup, ↓cLen_str, ↓cLen_lst, ↓cLen_ref, ↓cTuple, ↓cSorted, ↓cMax2, ↓rEq, ↓rNe, ↓rLt, ↓rGt, ↓rLe, ↓rGe, ↓rOrd, ↓rIn, ↓rIs, ↓isNone, ↓truD, ↓frzAll, ↓diA, ↓diR1, ↓diR2, ↓dFor, ↓dLc, ↓dLcM, ↓dtYes, ↓wipeD, dat, datL, seqL, L2.CPow, List.getElem?_cons_zero, List.getElem?_cons_succ, List.set_cons_zero, List.set_cons_succ, List.length_cons, List.length_nil, List.map_cons, List.map_nil, upS_same, if_true, if_false, Bool.false_eq_true, true_and, and_true, Bool.not_true, Bool.not_false, Bool.true_xor, Bool.false_xor, eqv_int, eqv_str, eqv_bool, dp_int, dp_str, dp_bool, dp_none, al_int, al_str, min00, ne_int, ne_str, mapM_p, atD_zero, atD_one, atD_two, atD_three, PyData.isTuple, PyData.isInt, PyData.isStr, PyData.isBool, PyData.isList, PyData.isDict, Nat.reduceAdd, Int.cast_ofNat_Int, Int.reduceEq, Int.reduceAdd, Int.reduceSub, decide_true, decide_false, decide_eq_true_eq, ↓reduceIte, reduceCtorEq, ↓t__law_digit]
  refine ⟨by omega, by decide, ?_⟩
  rw [digit_eq]
  exact Fin.same hQ

/-! ### chain, branch -/
def sp_chain : DSp := fun ds S Q => ∃ ns h l, ds = [D.p (.list (ns.map Nm.enc)), D.p (encV h), D.p (encV l)] ∧ Q (D.p (chainP ns h l).enc) S
def sp_branch : DSp := fun ds S Q => ∃ ns h l, ds = [D.p (.list (ns.map Nm.enc)), D.p (encV h), D.p (encV l)] ∧ Q (D.p (branchP ns h l).enc) S
theorem foldl_take {α β : Type} {f : β → α → β} {b : β} {xs : List α} {k : Nat} {x : α} (h : xs[k]? = some x) : (xs.take (k + 1)).foldl f b = f ((xs.take k).foldl f b) x := by
  rw [take_succ h, List.foldl_append]; rfl
theorem hs_chain (ds : List D) (S : Sto) (Q : DQ) (hl : ds.length = 3) (h : sp_chain ds S Q) : t__law_chain { nx := fun _ S' => Fin Q (.p .none) S', rt := Fin Q } (dstart 5 ds) S := by
  obtain ⟨ns, h, l, rfl, hQ⟩ := h
  show t__law_chain _ [some (D.p (.list (ns.map Nm.enc))), some (D.p (encV h)), some (D.p (encV l)), none, none] S
  simp only [↓dSeq, ↓dNext, ↓dSet, ↓dDrop, ↓dRet, ↓dRetN, ↓dIfS, ↓dAsg, ↓dBreak, ↓dCont, ↓dVar, ↓dC, ↓dOp, ↓dTB, ↓dtAnd, ↓dtOr, ↓dtNot, ↓dTru, ↓dAnd, ↓dOr, ↓dNot, ↓dIf, ↓dChain, ↓dCall, ↓dCB, ↓dCons, ↓dNil, ↓dStar, ↓dTup, ↓dLst, ↓dLstM, ↓dIsa, ↓dApp, ↓dNeg, ↓gdName, ↓gdTup, ↓gdCons, ↓gdNil, ↓gdSub, ↓rIx_tup, ↓rIx_str, ↓rIx_lst, ↓rIx_ref, ↓rSetL, ↓rSl, ↓dSl, ↓doNone, ↓doSome, ↓rAdd, ↓rSub, ↓rMul, ↓rMod, ↓rFdiv, ↓rPow, ↓rShl, ↓rShr, ↓rBand, ↓rBor, ↓rInt, ↓cInt, ↓cLen_tup, ↓cLen_str, ↓cLen_lst, ↓cLen_ref, ↓cTuple, ↓cSorted, ↓cMax2, ↓rEq, ↓rNe, ↓rLt, ↓rGt, ↓rLe, ↓rGe, ↓rOrd, ↓rIn, ↓rIs, ↓isNone, ↓truD, ↓frzAll, ↓diA, ↓diR1, ↓diR2, ↓dFor, ↓dLc, ↓dLcM, ↓dtYes, ↓wipeD, dat, datL, seqL, L2.CPow, List.getElem?_cons_zero, List.getElem?_cons_succ, List.set_cons_zero, List.set_cons_succ, List.length_cons, List.length_nil, List.map_cons, List.map_nil, upS_same, if_true, if_false, Bool.false_eq_true, true_and, and_true, Bool.not_true, Bool.not_false, Bool.true_xor, Bool.false_xor, eqv_int, eqv_str, eqv_bool, dp_int, dp_str, dp_bool, dp_none, al_int, al_str, min00, ne_int, ne_str, mapM_p, atD_zero, atD_one, atD_two, atD_three, PyData.isTuple, PyData.isInt, PyData.isStr, PyData.isBool, PyData.isList, PyData.isDict, Nat.reduceAdd, Int.cast_ofNat_Int, Int.reduceEq, Int.reduceAdd, Int.reduceSub, decide_true, decide_false, decide_eq_true_eq, ↓reduceIte, reduceCtorEq, ↓t__law_chain]
  refine ⟨by decide, ?_⟩
  simp only [↓dSeq, ↓dNext, ↓dSet, ↓dDrop, ↓dRet, ↓dRetN, ↓dIfS, ↓dAsg, ↓dBreak, ↓dCont, ↓dVar, ↓dC, ↓dOp, ↓dTB, ↓dtAnd, ↓dtOr, ↓dtNot, ↓dTru, ↓dAnd, ↓dOr, ↓dNot, ↓dIf, ↓dChain, ↓dCall, ↓dCB, ↓dCons, ↓dNil, ↓dStar, ↓dTup, ↓dLst, ↓dLstM, ↓dIsa, ↓dApp, ↓dNeg, ↓gdName, ↓gdTup, ↓gdCons, ↓gdNil, ↓gdSub, ↓rIx_tup, ↓rIx_str, ↓rIx_lst, ↓rIx_ref, ↓rSetL, ↓rSl, ↓dSl, ↓doNone, ↓doSome, ↓rAdd, ↓rSub, ↓rMul, ↓rMod, ↓rFdiv, ↓rPow, ↓rShl, ↓rShr, ↓rBand, ↓rBor, ↓rInt, ↓cInt, ↓cLen_tup, ↓cLen_str, ↓cLen_lst, ↓cLen_ref, ↓cTuple, ↓cSorted, ↓cMax2, ↓rEq, ↓rNe, ↓rLt, ↓rGt, ↓rLe, ↓rGe, ↓rOrd, ↓rIn, ↓rIs, ↓isNone, ↓truD, ↓frzAll, ↓diA, ↓diR1, ↓diR2, ↓dFor, ↓dLc, ↓dLcM, ↓dtYes, ↓wipeD, dat, datL, seqL, L2.CPow, List.getElem?_cons_zero, List.getElem?_cons_succ, List.set_cons_zero, List.set_cons_succ, List.length_cons, List.length_nil, List.map_cons, List.map_nil, upS_same, if_true, if_false, Bool.false_eq_true, true_and, and_true, Bool.not_true, Bool.not_false, Bool.true_xor, Bool.false_xor, eqv_int, eqv_str, eqv_bool, dp_int, dp_str, dp_bool, dp_none, al_int, al_str, min00, ne_int, ne_str, mapM_p, atD_zero, atD_one, atD_two, atD_three, PyData.isTuple, PyData.isInt, PyData.isStr, PyData.isBool, PyData.isList, PyData.isDict, Nat.reduceAdd, Int.cast_ofNat_Int, Int.reduceEq, Int.reduceAdd, Int.reduceSub, decide_true, decide_false, decide_eq_true_eq, ↓reduceIte, reduceCtorEq, ↓t__law_chain_3]
  refine lp_list (fun k env S' => ∃ e4, env = [some (D.p (.list (ns.map Nm.enc))), some (D.p (encV h)), some (D.p (encV l)), some (D.p (chainP (ns.take k) h l).enc), e4] ∧ S' = S) ⟨_, rfl, rfl⟩ ?_ ?_
  · rintro k x env S' De' hx ⟨e4, rfl, rfl⟩ hnx - - -
    obtain ⟨a', ha', rfl⟩ := map_getD hx
    obtain ⟨a, ha, rfl⟩ := map_getD ha'
    simp only [↓dSeq, ↓dNext, ↓dSet, ↓dDrop, ↓dRet, ↓dRetN, ↓dIfS, ↓dAsg, ↓dBreak, ↓dCont, ↓dVar, ↓dC, ↓dOp, ↓dTB, ↓dtAnd, ↓dtOr, ↓dtNot, ↓dTru, ↓dAnd, ↓dOr, ↓dNot, ↓dIf, ↓dChain, ↓dCall, ↓dCB, ↓dCons, ↓dNil, ↓dStar, ↓dTup, ↓dLst, ↓dLstM, ↓dIsa, ↓dApp, ↓dNeg, ↓gdName, ↓gdTup, ↓gdCons, ↓gdNil, ↓gdSub, ↓rIx_tup, ↓rIx_str, ↓rIx_lst, ↓rIx_ref, ↓rSetL, ↓rSl, ↓dSl, ↓doNone, ↓doSome, ↓rAdd, ↓rSub, ↓rMul, ↓rMod, ↓rFdiv, ↓rPow, ↓rShl, ↓rShr, ↓rBand, ↓rBor, ↓rInt, ↓cInt, ↓cLen_tup, ↓cLen_str, ↓cLen_lst, ↓cLen_ref, ↓cTuple, ↓cSorted, ↓cMax2, ↓rEq, ↓rNe, ↓rLt, ↓rGt, ↓rLe, ↓rGe, ↓rOrd, ↓rIn, ↓rIs, ↓isNone, ↓truD, ↓frzAll, ↓diA, ↓diR1, ↓diR2, ↓dFor, ↓dLc, ↓dLcM, ↓dtYes, ↓wipeD, dat, datL, seqL, L2.CPow, List.getElem?_cons_zero, List.getElem?_cons_succ, List.set_cons_zero, List.set_cons_succ, List.length_cons, List.length_nil, List.map_cons, List.map_nil, upS_same, if_true, if_false, Bool.false_eq_true, true_and, and_true, Bool.not_true, Bool.not_false, Bool.true_xor, Bool.false_xor, eqv_int, eqv_str, eqv_bool, dp_int, dp_str, dp_bool, dp_none, al_int, al_str, min00, ne_int, ne_str, mapM_p, atD_zero, atD_one, atD_two, atD_three, PyData.isTuple, PyData.isInt, PyData.isStr, PyData.isBool, PyData.isList, PyData.isDict, Nat.reduceAdd, Int.cast_ofNat_Int, Int.reduceEq, Int.reduceAdd, Int.reduceSub, decide_true, decide_false, decide_eq_true_eq, ↓reduceIte, reduceCtorEq, ↓t__law_chain_1]
    refine ⟨by decide, by decide, hnx _ _ trivial ⟨some (D.p a.enc), ?_, rfl⟩⟩
    unfold chainP
    rw [foldl_take ha]
    rfl
  · rintro env S' ⟨e4, rfl, rfl⟩
    simp only [↓dSeq, ↓dNext, ↓dSet, ↓dDrop, ↓dRet, ↓dRetN, ↓dIfS, ↓dAsg, ↓dBreak, ↓dCont, ↓dVar, ↓dC, ↓dOp, ↓dTB, ↓dtAnd, ↓dtOr, ↓dtNot, ↓dTru, ↓dAnd, ↓dOr, ↓dNot, ↓dIf, ↓dChain, ↓dCall, ↓dCB, ↓dCons, ↓dNil, ↓dStar, ↓dTup, ↓dLst, ↓dLstM, ↓dIsa, ↓dApp, ↓dNeg, ↓gdName, ↓gdTup, ↓gdCons, ↓gdNil, ↓gdSub, ↓rIx_tup, ↓rIx_str, ↓rIx_lst, ↓rIx_ref, ↓rSetL, ↓rSl, ↓dSl, ↓doNone, ↓doSome, ↓rAdd, ↓rSub, ↓rMul, ↓rMod, ↓rFdiv, ↓rPow, ↓rShl, ↓rShr, ↓rBand, ↓rBor, ↓rInt, ↓cInt, ↓cLen_tup, ↓cLen_str, ↓cLen_lst, ↓cLen_ref, ↓cTuple, ↓cSorted, ↓cMax2, ↓rEq, ↓rNe, ↓rLt, ↓rGt, ↓rLe, ↓rGe, ↓rOrd, ↓rIn, ↓rIs, ↓isNone, ↓truD, ↓frzAll, ↓diA, ↓diR1, ↓diR2, ↓dFor, ↓dLc, ↓dLcM, ↓dtYes, ↓wipeD, dat, datL, seqL, L2.CPow, List.getElem?_cons_zero, List.getElem?_cons_succ, List.set_cons_zero, List.set_cons_succ, List.length_cons, List.length_nil, List.map_cons, List.map_nil, upS_same, if_true, if_false, Bool.false_eq_true, true_and, and_true, Bool.not_true, Bool.not_false, Bool.true_xor, Bool.false_xor, eqv_int, eqv_str, eqv_bool, dp_int, dp_str, dp_bool, dp_none, al_int, al_str, min00, ne_int, ne_str, mapM_p, atD_zero, atD_one, atD_two, atD_three, PyData.isTuple, PyData.isInt, PyData.isStr, PyData.isBool, PyData.isList, PyData.isDict, Nat.reduceAdd, Int.cast_ofNat_Int, Int.reduceEq, Int.reduceAdd, Int.reduceSub, decide_true, decide_false, decide_eq_true_eq, ↓reduceIte, reduceCtorEq, ↓t__law_chain_2, List.length_map, List.take_length]
    exact Fin.same hQ
theorem hs_branch (ds : List D) (S : Sto) (Q : DQ) (hl : ds.length = 3) (h : sp_branch ds S Q) : t__law_branch { nx := fun _ S' => Fin Q (.p .none) S', rt := Fin Q } (dstart 5 ds) S := by
  obtain ⟨ns, h, l, rfl, hQ⟩ := h
  show t__law_branch _ [some (D.p (.list (ns.map Nm.enc))), some (D.p (encV h)), some (D.p (encV l)), none, none] S
  simp only [↓dSeq, ↓dNext, ↓dSet, ↓dDrop, ↓dRet, ↓dRetN, ↓dIfS, ↓dAsg, ↓dBreak, ↓dCont, ↓dVar, ↓dC, ↓dOp, ↓dTB, ↓dtAnd, ↓dtOr, ↓dtNot, ↓dTru, ↓dAnd, ↓dOr, ↓dNot, ↓dIf, ↓dChain, ↓dCall, ↓dCB, ↓dCons, ↓dNil, ↓dStar, ↓dTup, ↓dLst, ↓dLstM, ↓dIsa, ↓dApp, ↓dNeg, ↓gdName, ↓gdTup, ↓gdCons, ↓gdNil, ↓gdSub, ↓rIx_tup, ↓rIx_str, ↓rIx_lst, ↓rIx_ref, ↓rSetL, ↓rSl, ↓dSl, ↓doNone, ↓doSome, ↓rAdd, ↓rSub, ↓rMul, ↓rMod, ↓rFdiv, ↓rPow, ↓rShl, ↓rShr, ↓rBand, ↓rBor, ↓rInt, ↓cInt, ↓cLen_tup, ↓cLen_str, ↓cLen_lst, ↓cLen_ref, ↓cTuple, ↓cSorted, ↓cMax2, ↓rEq, ↓rNe, ↓rLt, ↓rGt, ↓rLe, ↓rGe, ↓rOrd, ↓rIn, ↓rIs, ↓isNone, ↓truD, ↓frzAll, ↓diA, ↓diR1, ↓diR2, ↓dFor, ↓dLc, ↓dLcM, ↓dtYes, ↓wipeD, dat, datL, seqL, L2.CPow, List.getElem?_cons_zero, List.getElem?_cons_succ, List.set_cons_zero, List.set_cons_succ, List.length_cons, List.length_nil, List.map_cons, List.map_nil, upS_same, if_true, if_false, Bool.false_eq_true, true_and, and_true, Bool.not_true, Bool.not_false, Bool.true_xor, Bool.false_xor, eqv_int, eqv_str, eqv_bool, dp_int, dp_str, dp_bool, dp_none, al_int, al_str, min00, ne_int, ne_str, mapM_p, atD_zero, atD_one, atD_two, atD_three, PyData.isTuple, PyData.isInt, PyData.isStr, PyData.isBool, PyData.isList, PyData.isDict, Nat.reduceAdd, Int.cast_ofNat_Int, Int.reduceEq, Int.reduceAdd, Int.reduceSub, decide_true, decide_false, decide_eq_true_eq, ↓reduceIte, reduceCtorEq, ↓t__law_branch]
  refine ⟨by decide, ?_⟩
  simp only [↓dSeq, ↓dNext, ↓dSet, ↓dDrop, ↓dRet, ↓dRetN, ↓dIfS, ↓dAsg, ↓dBreak, ↓dCont, ↓dVar, ↓dC, ↓dOp, ↓dTB, ↓dtAnd, ↓dtOr, ↓dtNot, ↓dTru, ↓dAnd, ↓dOr, ↓dNot, ↓dIf, ↓dChain, ↓dCall, ↓dCB, ↓dCons, ↓dNil, ↓dStar, ↓dTup, ↓dLst, ↓dLstM, ↓dIsa, ↓dApp, ↓dNeg, ↓gdName, ↓gdTup, ↓gdCons, ↓gdNil, ↓gdSub, ↓rIx_tup, ↓rIx_str, ↓rIx_lst, ↓rIx_ref, ↓rSetL, ↓rSl, ↓dSl, ↓doNone, ↓doSome, ↓rAdd, ↓rSub, ↓rMul, ↓rMod, ↓rFdiv, ↓rPow, ↓rShl, ↓rShr, ↓rBand, ↓rBor, ↓rInt, ↓cInt, ↓cLen_tup, ↓cLen_str, ↓cLen_lst, ↓cLen_ref, ↓cTuple, ↓cSorted, ↓cMax2, ↓rEq, ↓rNe, ↓rLt, ↓rGt, ↓rLe, ↓rGe, ↓rOrd, ↓rIn, ↓rIs, ↓isNone, ↓truD, ↓frzAll, ↓diA, ↓diR1, ↓diR2, ↓dFor, ↓dLc, ↓dLcM, ↓dtYes, ↓wipeD, dat, datL, seqL, L2.CPow, List.getElem?_cons_zero, List.getElem?_cons_succ, List.set_cons_zero, List.set_cons_succ, List.length_cons, List.length_nil, List.map_cons, List.map_nil, upS_same, if_true, if_false, Bool.false_eq_true, true_and, and_true, Bool.not_true, Bool.not_false, Bool.true_xor, Bool.false_xor, eqv_int, eqv_str, eqv_bool, dp_int, dp_str, dp_bool, dp_none, al_int, al_str, min00, ne_int, ne_str, mapM_p, atD_zero, atD_one, atD_two, atD_three, PyData.isTuple, PyData.isInt, PyData.isStr, PyData.isBool, PyData.isList, PyData.isDict, Nat.reduceAdd, Int.cast_ofNat_Int, Int.reduceEq, Int.reduceAdd, Int.reduceSub, decide_true, decide_false, decide_eq_true_eq, ↓reduceIte, reduceCtorEq, ↓t__law_branch_3]
  refine lp_list (fun k env S' => ∃ e4, env = [some (D.p (.list (ns.map Nm.enc))), some (D.p (encV h)), some (D.p (encV l)), some (D.p (branchP (ns.take k) h l).enc), e4] ∧ S' = S) ⟨_, rfl, rfl⟩ ?_ ?_
  · rintro k x env S' De' hx ⟨e4, rfl, rfl⟩ hnx - - -
    obtain ⟨a', ha', rfl⟩ := map_getD hx
    obtain ⟨a, ha, rfl⟩ := map_getD ha'
    simp only [↓dSeq, ↓dNext, ↓dSet, ↓dDrop, ↓dRet, ↓dRetN, ↓dIfS, ↓dAsg, ↓dBreak, ↓dCont, ↓dVar, ↓dC, ↓dOp, ↓dTB, ↓dtAnd, ↓dtOr, ↓dtNot, ↓dTru, ↓dAnd, ↓dOr, ↓dNot, ↓dIf, ↓dChain, ↓dCall, ↓dCB, ↓dCons, ↓dNil, ↓dStar, ↓dTup, ↓dLst, ↓dLstM, ↓dIsa, ↓dApp, ↓dNeg, ↓gdName, ↓gdTup, ↓gdCons, ↓gdNil, ↓gdSub, ↓rIx_tup, ↓rIx_str, ↓rIx_lst, ↓rIx_ref, ↓rSetL, ↓rSl, ↓dSl, ↓doNone, ↓doSome, ↓rAdd, ↓rSub, ↓rMul, ↓rMod, ↓rFdiv, ↓rPow, ↓rShl, ↓rShr, ↓rBand, ↓rBor, ↓rInt, ↓cInt, ↓cLen_tup, ↓cLen_str, ↓cLen_lst, ↓cLen_ref, ↓cTuple, ↓cSorted, ↓cMax2, ↓rEq, ↓rNe, ↓rLt, ↓rGt, ↓rLe, ↓rGe, ↓rOrd, ↓rIn, ↓rIs, ↓isNone, ↓truD, ↓frzAll, ↓diA, ↓diR1, ↓diR2, ↓dFor, ↓dLc, ↓dLcM, ↓dtYes, ↓wipeD, dat, datL, seqL, L2.CPow, List.getElem?_cons_zero, List.getElem?_cons_succ, List.set_cons_zero, List.set_cons_succ, List.length_cons, List.length_nil, List.map_cons, List.map_nil, upS_same, if_true, if_false, Bool.false_eq_true, true_and, and_true, Bool.not_true, Bool.not_false, Bool.true_xor, Bool.false_xor, eqv_int, eqv_str, eqv_bool, dp_int, dp_str, dp_bool, dp_none, al_int, al_str, min00, ne_int, ne_str, mapM_p, atD_zero, atD_one, atD_two, atD_three, PyData.isTuple, PyData.isInt, PyData.isStr, PyData.isBool, PyData.isList, PyData.isDict, Nat.reduceAdd, Int.cast_ofNat_Int, Int.reduceEq, Int.reduceAdd, Int.reduceSub, decide_true, decide_false, decide_eq_true_eq, ↓reduceIte, reduceCtorEq, ↓t__law_branch_1]
    refine ⟨by decide, by decide, hnx _ _ trivial ⟨some (D.p a.enc), ?_, rfl⟩⟩
    unfold branchP
    rw [foldl_take ha]
    rfl
  · rintro env S' ⟨e4, rfl, rfl⟩
    simp only [↓dSeq, ↓dNext, ↓dSet, ↓dDrop, ↓dRet, ↓dRetN, ↓dIfS, ↓dAsg, ↓dBreak, ↓dCont, ↓dVar, ↓dC, ↓dOp, ↓dTB, ↓dtAnd, ↓dtOr, ↓dtNot, ↓dTru, ↓dAnd, ↓dOr, ↓dNot, ↓dIf, ↓dChain, ↓dCall, ↓dCB, ↓dCons, ↓dNil, ↓dStar, ↓dTup, ↓dLst, ↓dLstM, ↓dIsa, ↓dApp, ↓dNeg, ↓gdName, ↓gdTup, ↓gdCons, ↓gdNil, ↓gdSub, ↓rIx_tup, ↓rIx_str, ↓rIx_lst, ↓rIx_ref, ↓rSetL, ↓rSl, ↓dSl, ↓doNone, ↓doSome, ↓rAdd, ↓rSub, ↓rMul, ↓rMod, ↓rFdiv, ↓rPow, ↓rShl, ↓rShr, ↓rBand, ↓rBor, ↓rInt, ↓cInt, ↓cLen_tup, ↓cLen_str, ↓cLen_lst, ↓cLen_ref, ↓cTuple, ↓cSorted, ↓cMax2, ↓rEq, ↓rNe, ↓rLt, ↓rGt, ↓rLe, ↓rGe, ↓rOrd, ↓rIn, ↓rIs, ↓isNone, ↓truD, ↓frzAll, ↓diA, ↓diR1, ↓diR2, ↓dFor, ↓dLc, ↓dLcM, ↓dtYes, ↓wipeD, dat, datL, seqL, L2.CPow, List.getElem?_cons_zero, List.getElem?_cons_succ, List.set_cons_zero, List.set_cons_succ, List.length_cons, List.length_nil, List.map_cons, List.map_nil, upS_same, if_true, if_false, Bool.false_eq_true, true_and, and_true, Bool.not_true, Bool.not_false, Bool.true_xor, Bool.false_xor, eqv_int, eqv_str, eqv_bool, dp_int, dp_str, dp_bool, dp_none, al_int, al_str, min00, ne_int, ne_str, mapM_p, atD_zero, atD_one, atD_two, atD_three, PyData.isTuple, PyData.isInt, PyData.isStr, PyData.isBool, PyData.isList, PyData.isDict, Nat.reduceAdd, Int.cast_ofNat_Int, Int.reduceEq, Int.reduceAdd, Int.reduceSub, decide_true, decide_false, decide_eq_true_eq, ↓reduceIte, reduceCtorEq, ↓t__law_branch_2, List.length_map, List.take_length]
    exact Fin.same hQ

/-! ### own_read -/
def sp_own_read : DSp := fun ds S Q => ∃ (p : Pap) (c : List Nm), ds = [D.p p.enc, D.p (.tuple (c.map Nm.enc))] ∧ p.ht ≤ 11 ∧ Q (D.p (encV (p.read c))) S
theorem hs_own_read (ds : List D) (S : Sto) (Q : DQ) (hl : ds.length = 2) (h : sp_own_read ds S Q) : t__law_own_read { nx := fun _ S' => Fin Q (.p .none) S', rt := Fin Q } (dstart 3 ds) S := by
  obtain ⟨p, c, rfl, hp, hQ⟩ := h
  show t__law_own_read _ [some (D.p p.enc), some (D.p (.tuple (c.map Nm.enc))), none] S
  simp only [↓dSeq, ↓dNext, ↓dSet, ↓dDrop, ↓dRet, ↓dRetN, ↓dIfS, ↓dAsg, ↓dBreak, ↓dCont, ↓dVar, ↓dC, ↓dOp, ↓dTB, ↓dtAnd, ↓dtOr, ↓dtNot, ↓dTru, ↓dAnd, ↓dOr, ↓dNot, ↓dIf, ↓dChain, ↓dCall, ↓dCB, ↓dCons, ↓dNil, ↓dStar, ↓dTup, ↓dLst, ↓dLstM, ↓dIsa, ↓dApp, ↓dNeg, ↓gdName, ↓gdTup, ↓gdCons, ↓gdNil, ↓gdSub, ↓rIx_tup, ↓rIx_str, ↓rIx_lst, ↓rIx_ref, ↓rSetL, ↓rSl, ↓dSl, ↓doNone, ↓doSome, ↓rAdd, ↓rSub, ↓rMul, ↓rMod, ↓rFdiv, ↓rPow, ↓rShl, ↓rShr, ↓rBand, ↓rBor, ↓rInt, ↓cInt, ↓cLen_tup, ↓cLen_str, ↓cLen_lst, ↓cLen_ref, ↓cTuple, ↓cSorted, ↓cMax2, ↓rEq, ↓rNe, ↓rLt, ↓rGt, ↓rLe, ↓rGe, ↓rOrd, ↓rIn, ↓rIs, ↓isNone, ↓truD, ↓frzAll, ↓diA, ↓diR1, ↓diR2, ↓dFor, ↓dLc, ↓dLcM, ↓dtYes, ↓wipeD, dat, datL, seqL, L2.CPow, List.getElem?_cons_zero, List.getElem?_cons_succ, List.set_cons_zero, List.set_cons_succ, List.length_cons, List.length_nil, List.map_cons, List.map_nil, upS_same, if_true, if_false, Bool.false_eq_true, true_and, and_true, Bool.not_true, Bool.not_false, Bool.true_xor, Bool.false_xor, eqv_int, eqv_str, eqv_bool, dp_int, dp_str, dp_bool, dp_none, al_int, al_str, min00, ne_int, ne_str, mapM_p, atD_zero, atD_one, atD_two, atD_three, PyData.isTuple, PyData.isInt, PyData.isStr, PyData.isBool, PyData.isList, PyData.isDict, Nat.reduceAdd, Int.cast_ofNat_Int, Int.reduceEq, Int.reduceAdd, Int.reduceSub, decide_true, decide_false, decide_eq_true_eq, ↓reduceIte, reduceCtorEq, ↓t__law_own_read]
  refine ⟨by decide, ?_⟩
  rw [show (12 : Int).toNat = 12 from rfl]
  refine lp_range (fun k env S' => ∃ (q : Pap) (e2 : Option D), env = [some (D.p q.enc), some (D.p (.tuple (c.map Nm.enc))), e2] ∧ S' = S ∧ q.read c = p.read c ∧ q.ht + k ≤ 11) ⟨p, none, rfl, rfl, rfl, by omega⟩ ?_ ?_
  · rintro k env S' De' hk ⟨q, e2, rfl, rfl, hq, hh⟩ hnx - hrt -
    simp only [↓dSeq, ↓dNext, ↓dSet, ↓dDrop, ↓dRet, ↓dRetN, ↓dIfS, ↓dAsg, ↓dBreak, ↓dCont, ↓dVar, ↓dC, ↓dOp, ↓dTB, ↓dtAnd, ↓dtOr, ↓dtNot, ↓dTru, ↓dAnd, ↓dOr, ↓dNot, ↓dIf, ↓dChain, ↓dCall, ↓dCB, ↓dCons, ↓dNil, ↓dStar, ↓dTup, ↓dLst, ↓dLstM, ↓dIsa, ↓dApp, ↓dNeg, ↓gdName, ↓gdTup, ↓gdCons, ↓gdNil, ↓gdSub, ↓rIx_tup, ↓rIx_str, ↓rIx_lst, ↓rIx_ref, ↓rSetL, ↓rSl, ↓dSl, ↓doNone, ↓doSome, ↓rAdd, ↓rSub, ↓rMul, ↓rMod, ↓rFdiv, ↓rPow, ↓rShl, ↓rShr, ↓rBand, ↓rBor, ↓rInt, ↓cInt, ↓cLen_tup, ↓cLen_str, ↓cLen_lst, ↓cLen_ref, ↓cTuple, ↓cSorted, ↓cMax2, ↓rEq, ↓rNe, ↓rLt, ↓rGt, ↓rLe, ↓rGe, ↓rOrd, ↓rIn, ↓rIs, ↓isNone, ↓truD, ↓frzAll, ↓diA, ↓diR1, ↓diR2, ↓dFor, ↓dLc, ↓dLcM, ↓dtYes, ↓wipeD, dat, datL, seqL, L2.CPow, List.getElem?_cons_zero, List.getElem?_cons_succ, List.set_cons_zero, List.set_cons_succ, List.length_cons, List.length_nil, List.map_cons, List.map_nil, upS_same, if_true, if_false, Bool.false_eq_true, true_and, and_true, Bool.not_true, Bool.not_false, Bool.true_xor, Bool.false_xor, eqv_int, eqv_str, eqv_bool, dp_int, dp_str, dp_bool, dp_none, al_int, al_str, min00, ne_int, ne_str, mapM_p, atD_zero, atD_one, atD_two, atD_three, PyData.isTuple, PyData.isInt, PyData.isStr, PyData.isBool, PyData.isList, PyData.isDict, Nat.reduceAdd, Int.cast_ofNat_Int, Int.reduceEq, Int.reduceAdd, Int.reduceSub, decide_true, decide_false, decide_eq_true_eq, ↓reduceIte, reduceCtorEq, ↓t__law_own_read_5]
    cases q with
    | is v =>
      simp only [Pap.enc]
      simp only [↓dSeq, ↓dNext, ↓dSet, ↓dDrop, ↓dRet, ↓dRetN, ↓dIfS, ↓dAsg, ↓dBreak, ↓dCont, ↓dVar, ↓dC, ↓dOp, ↓dTB, ↓dtAnd, ↓dtOr, ↓dtNot, ↓dTru, ↓dAnd, ↓dOr, ↓dNot, ↓dIf, ↓dChain, ↓dCall, ↓dCB, ↓dCons, ↓dNil, ↓dStar, ↓dTup, ↓dLst, ↓dLstM, ↓dIsa, ↓dApp, ↓dNeg, ↓gdName, ↓gdTup, ↓gdCons, ↓gdNil, ↓gdSub, ↓rIx_tup, ↓rIx_str, ↓rIx_lst, ↓rIx_ref, ↓rSetL, ↓rSl, ↓dSl, ↓doNone, ↓doSome, ↓rAdd, ↓rSub, ↓rMul, ↓rMod, ↓rFdiv, ↓rPow, ↓rShl, ↓rShr, ↓rBand, ↓rBor, ↓rInt, ↓cInt, ↓cLen_tup, ↓cLen_str, ↓cLen_lst, ↓cLen_ref, ↓cTuple, ↓cSorted, ↓cMax2, ↓rEq, ↓rNe, ↓rLt, ↓rGt, ↓rLe, ↓rGe, ↓rOrd, ↓rIn, ↓rIs, ↓isNone, ↓truD, ↓frzAll, ↓diA, ↓diR1, ↓diR2, ↓dFor, ↓dLc, ↓dLcM, ↓dtYes, ↓wipeD, dat, datL, seqL, L2.CPow, List.getElem?_cons_zero, List.getElem?_cons_succ, List.set_cons_zero, List.set_cons_succ, List.length_cons, List.length_nil, List.map_cons, List.map_nil, upS_same, if_true, if_false, Bool.false_eq_true, true_and, and_true, Bool.not_true, Bool.not_false, Bool.true_xor, Bool.false_xor, eqv_int, eqv_str, eqv_bool, dp_int, dp_str, dp_bool, dp_none, al_int, al_str, min00, ne_int, ne_str, mapM_p, atD_zero, atD_one, atD_two, atD_three, PyData.isTuple, PyData.isInt, PyData.isStr, PyData.isBool, PyData.isList, PyData.isDict, Nat.reduceAdd, Int.cast_ofNat_Int, Int.reduceEq, Int.reduceAdd, Int.reduceSub, decide_true, decide_false, decide_eq_true_eq, ↓reduceIte, reduceCtorEq, ↓t__law_own_read_1, hrt]
      rw [show v = p.read c from hq]
      exact Fin.same hQ
    | br n s g =>
      simp only [Pap.enc]
      simp only [↓dSeq, ↓dNext, ↓dSet, ↓dDrop, ↓dRet, ↓dRetN, ↓dIfS, ↓dAsg, ↓dBreak, ↓dCont, ↓dVar, ↓dC, ↓dOp, ↓dTB, ↓dtAnd, ↓dtOr, ↓dtNot, ↓dTru, ↓dAnd, ↓dOr, ↓dNot, ↓dIf, ↓dChain, ↓dCall, ↓dCB, ↓dCons, ↓dNil, ↓dStar, ↓dTup, ↓dLst, ↓dLstM, ↓dIsa, ↓dApp, ↓dNeg, ↓gdName, ↓gdTup, ↓gdCons, ↓gdNil, ↓gdSub, ↓rIx_tup, ↓rIx_str, ↓rIx_lst, ↓rIx_ref, ↓rSetL, ↓rSl, ↓dSl, ↓doNone, ↓doSome, ↓rAdd, ↓rSub, ↓rMul, ↓rMod, ↓rFdiv, ↓rPow, ↓rShl, ↓rShr, ↓rBand, ↓rBor, ↓rInt, ↓cInt, ↓cLen_tup, ↓cLen_str, ↓cLen_lst, ↓cLen_ref, ↓cTuple, ↓cSorted, ↓cMax2, ↓rEq, ↓rNe, ↓rLt, ↓rGt, ↓rLe, ↓rGe, ↓rOrd, ↓rIn, ↓rIs, ↓isNone, ↓truD, ↓frzAll, ↓diA, ↓diR1, ↓diR2, ↓dFor, ↓dLc, ↓dLcM, ↓dtYes, ↓wipeD, dat, datL, seqL, L2.CPow, List.getElem?_cons_zero, List.getElem?_cons_succ, List.set_cons_zero, List.set_cons_succ, List.length_cons, List.length_nil, List.map_cons, List.map_nil, upS_same, if_true, if_false, Bool.false_eq_true, true_and, and_true, Bool.not_true, Bool.not_false, Bool.true_xor, Bool.false_xor, eqv_int, eqv_str, eqv_bool, dp_int, dp_str, dp_bool, dp_none, al_int, al_str, min00, ne_int, ne_str, mapM_p, atD_zero, atD_one, atD_two, atD_three, PyData.isTuple, PyData.isInt, PyData.isStr, PyData.isBool, PyData.isList, PyData.isDict, Nat.reduceAdd, Int.cast_ofNat_Int, Int.reduceEq, Int.reduceAdd, Int.reduceSub, decide_true, decide_false, decide_eq_true_eq, ↓reduceIte, reduceCtorEq, (show (Str.ofString "if" = Str.ofString "is") = False from by decide), decide_false, ↓t__law_own_read_4]
      refine ⟨min_le60' (by rw [depth_nm]; decide), ?_⟩
      rw [any_nm]
      simp only [Pap.ht] at hh
      simp only [Pap.read] at hq
      by_cases hn : n ∈ c
      · simp only [↓dSeq, ↓dNext, ↓dSet, ↓dDrop, ↓dRet, ↓dRetN, ↓dIfS, ↓dAsg, ↓dBreak, ↓dCont, ↓dVar, ↓dC, ↓dOp, ↓dTB, ↓dtAnd, ↓dtOr, ↓dtNot, ↓dTru, ↓dAnd, ↓dOr, ↓dNot, ↓dIf, ↓dChain, ↓dCall, ↓dCB, ↓dCons, ↓dNil, ↓dStar, ↓dTup, ↓dLst, ↓dLstM, ↓dIsa, ↓dApp, ↓dNeg, ↓gdName, ↓gdTup, ↓gdCons, ↓gdNil, ↓gdSub, ↓rIx_tup, ↓rIx_str, ↓rIx_lst, ↓rIx_ref, ↓rSetL, ↓rSl, ↓dSl, ↓doNone, ↓doSome, ↓rAdd, ↓rSub, ↓rMul, ↓rMod, ↓rFdiv, ↓rPow, ↓rShl, ↓rShr, ↓rBand, ↓rBor, ↓rInt, ↓cInt, ↓cLen_tup, ↓cLen_str, ↓cLen_lst, ↓cLen_ref, ↓cTuple, ↓cSorted, ↓cMax2, ↓rEq, ↓rNe, ↓rLt, ↓rGt, ↓rLe, ↓rGe, ↓rOrd, ↓rIn, ↓rIs, ↓isNone, ↓truD, ↓frzAll, ↓diA, ↓diR1, ↓diR2, ↓dFor, ↓dLc, ↓dLcM, ↓dtYes, ↓wipeD, dat, datL, seqL, L2.CPow, List.getElem?_cons_zero, List.getElem?_cons_succ, List.set_cons_zero, List.set_cons_succ, List.length_cons, List.length_nil, List.map_cons, List.map_nil, upS_same, if_true, if_false, Bool.false_eq_true, true_and, and_true, Bool.not_true, Bool.not_false, Bool.true_xor, Bool.false_xor, eqv_int, eqv_str, eqv_bool, dp_int, dp_str, dp_bool, dp_none, al_int, al_str, min00, ne_int, ne_str, mapM_p, atD_zero, atD_one, atD_two, atD_three, PyData.isTuple, PyData.isInt, PyData.isStr, PyData.isBool, PyData.isList, PyData.isDict, Nat.reduceAdd, Int.cast_ofNat_Int, Int.reduceEq, Int.reduceAdd, Int.reduceSub, decide_true, decide_false, decide_eq_true_eq, ↓reduceIte, reduceCtorEq, decide_eq_true hn, ↓t__law_own_read_2]
        rw [if_pos hn] at hq
        exact hnx _ _ trivial ⟨g, _, rfl, rfl, hq, by omega⟩
      · simp only [↓dSeq, ↓dNext, ↓dSet, ↓dDrop, ↓dRet, ↓dRetN, ↓dIfS, ↓dAsg, ↓dBreak, ↓dCont, ↓dVar, ↓dC, ↓dOp, ↓dTB, ↓dtAnd, ↓dtOr, ↓dtNot, ↓dTru, ↓dAnd, ↓dOr, ↓dNot, ↓dIf, ↓dChain, ↓dCall, ↓dCB, ↓dCons, ↓dNil, ↓dStar, ↓dTup, ↓dLst, ↓dLstM, ↓dIsa, ↓dApp, ↓dNeg, ↓gdName, ↓gdTup, ↓gdCons, ↓gdNil, ↓gdSub, ↓rIx_tup, ↓rIx_str, ↓rIx_lst, ↓rIx_ref, ↓rSetL, ↓rSl, ↓dSl, ↓doNone, ↓doSome, ↓rAdd, ↓rSub, ↓rMul, ↓rMod, ↓rFdiv, ↓rPow, ↓rShl, ↓rShr, ↓rBand, ↓rBor, ↓rInt, ↓cInt, ↓cLen_tup, ↓cLen_str, ↓cLen_lst, ↓cLen_ref, ↓cTuple, ↓cSorted, ↓cMax2, ↓rEq, ↓rNe, ↓rLt, ↓rGt, ↓rLe, ↓rGe, ↓rOrd, ↓rIn, ↓rIs, ↓isNone, ↓truD, ↓frzAll, ↓diA, ↓diR1, ↓diR2, ↓dFor, ↓dLc, ↓dLcM, ↓dtYes, ↓wipeD, dat, datL, seqL, L2.CPow, List.getElem?_cons_zero, List.getElem?_cons_succ, List.set_cons_zero, List.set_cons_succ, List.length_cons, List.length_nil, List.map_cons, List.map_nil, upS_same, if_true, if_false, Bool.false_eq_true, true_and, and_true, Bool.not_true, Bool.not_false, Bool.true_xor, Bool.false_xor, eqv_int, eqv_str, eqv_bool, dp_int, dp_str, dp_bool, dp_none, al_int, al_str, min00, ne_int, ne_str, mapM_p, atD_zero, atD_one, atD_two, atD_three, PyData.isTuple, PyData.isInt, PyData.isStr, PyData.isBool, PyData.isList, PyData.isDict, Nat.reduceAdd, Int.cast_ofNat_Int, Int.reduceEq, Int.reduceAdd, Int.reduceSub, decide_true, decide_false, decide_eq_true_eq, ↓reduceIte, reduceCtorEq, decide_eq_false hn, ↓t__law_own_read_3]
        rw [if_neg hn] at hq
        exact hnx _ _ trivial ⟨s, _, rfl, rfl, hq, by omega⟩
  · rintro env S' ⟨q, e2, rfl, rfl, hq, hh⟩
    omega

/-! ### told names and choices -/
def sp_is_told_name : DSp := fun ds S Q => ∃ a : Nm, ds = [D.p a.enc] ∧ Q (D.p (.bool true)) S
theorem hs_is_told_name (ds : List D) (S : Sto) (Q : DQ) (hl : ds.length = 1) (h : sp_is_told_name ds S Q) : t__law_is_told_name { nx := fun _ S' => Fin Q (.p .none) S', rt := Fin Q } (dstart 1 ds) S := by
  obtain ⟨a, rfl, hQ⟩ := h
  show t__law_is_told_name _ [some (D.p a.enc)] S
  simp only [Nm.enc]
  simp only [↓dSeq, ↓dNext, ↓dSet, ↓dDrop, ↓dRet, ↓dRetN, ↓dIfS, ↓dAsg, ↓dBreak, ↓dCont, ↓dVar, ↓dC, ↓dOp, ↓dTB, ↓dtAnd, ↓dtOr, ↓dtNot, ↓dTru, ↓dAnd, ↓dOr, ↓dNot, ↓dIf, ↓dChain, ↓dCall, ↓dCB, ↓dCons, ↓dNil, ↓dStar, ↓dTup, ↓dLst, ↓dLstM, ↓dIsa, ↓dApp, ↓dNeg, ↓gdName, ↓gdTup, ↓gdCons, ↓gdNil, ↓gdSub, ↓rIx_tup, ↓rIx_str, ↓rIx_lst, ↓rIx_ref, ↓rSetL, ↓rSl, ↓dSl, ↓doNone, ↓doSome, ↓rAdd, ↓rSub, ↓rMul, ↓rMod, ↓rFdiv, ↓rPow, ↓rShl, ↓rShr, ↓rBand, ↓rBor, ↓rInt, ↓cInt, ↓cLen_tup, ↓cLen_str, ↓cLen_lst, ↓cLen_ref, ↓cTuple, ↓cSorted, ↓cMax2, ↓rEq, ↓rNe, ↓rLt, ↓rGt, ↓rLe, ↓rGe, ↓rOrd, ↓rIn, ↓rIs, ↓isNone, ↓truD, ↓frzAll, ↓diA, ↓diR1, ↓diR2, ↓dFor, ↓dLc, ↓dLcM, ↓dtYes, ↓wipeD, dat, datL, seqL, L2.CPow, List.getElem?_cons_zero, List.getElem?_cons_succ, List.set_cons_zero, List.set_cons_succ, List.length_cons, List.length_nil, List.map_cons, List.map_nil, upS_same, if_true, if_false, Bool.false_eq_true, true_and, and_true, Bool.not_true, Bool.not_false, Bool.true_xor, Bool.false_xor, eqv_int, eqv_str, eqv_bool, dp_int, dp_str, dp_bool, dp_none, al_int, al_str, min00, ne_int, ne_str, mapM_p, atD_zero, atD_one, atD_two, atD_three, PyData.isTuple, PyData.isInt, PyData.isStr, PyData.isBool, PyData.isList, PyData.isDict, Nat.reduceAdd, Int.cast_ofNat_Int, Int.reduceEq, Int.reduceAdd, Int.reduceSub, decide_true, decide_false, decide_eq_true_eq, ↓reduceIte, reduceCtorEq, ↓t__law_is_told_name]
  simp only [↓dSeq, ↓dNext, ↓dSet, ↓dDrop, ↓dRet, ↓dRetN, ↓dIfS, ↓dAsg, ↓dBreak, ↓dCont, ↓dVar, ↓dC, ↓dOp, ↓dTB, ↓dtAnd, ↓dtOr, ↓dtNot, ↓dTru, ↓dAnd, ↓dOr, ↓dNot, ↓dIf, ↓dChain, ↓dCall, ↓dCB, ↓dCons, ↓dNil, ↓dStar, ↓dTup, ↓dLst, ↓dLstM, ↓dIsa, ↓dApp, ↓dNeg, ↓gdName, ↓gdTup, ↓gdCons, ↓gdNil, ↓gdSub, ↓rIx_tup, ↓rIx_str, ↓rIx_lst, ↓rIx_ref, ↓rSetL, ↓rSl, ↓dSl, ↓doNone, ↓doSome, ↓rAdd, ↓rSub, ↓rMul, ↓rMod, ↓rFdiv, ↓rPow, ↓rShl, ↓rShr, ↓rBand, ↓rBor, ↓rInt, ↓cInt, ↓cLen_tup, ↓cLen_str, ↓cLen_lst, ↓cLen_ref, ↓cTuple, ↓cSorted, ↓cMax2, ↓rEq, ↓rNe, ↓rLt, ↓rGt, ↓rLe, ↓rGe, ↓rOrd, ↓rIn, ↓rIs, ↓isNone, ↓truD, ↓frzAll, ↓diA, ↓diR1, ↓diR2, ↓dFor, ↓dLc, ↓dLcM, ↓dtYes, ↓wipeD, dat, datL, seqL, L2.CPow, List.getElem?_cons_zero, List.getElem?_cons_succ, List.set_cons_zero, List.set_cons_succ, List.length_cons, List.length_nil, List.map_cons, List.map_nil, upS_same, if_true, if_false, Bool.false_eq_true, true_and, and_true, Bool.not_true, Bool.not_false, Bool.true_xor, Bool.false_xor, eqv_int, eqv_str, eqv_bool, dp_int, dp_str, dp_bool, dp_none, al_int, al_str, min00, ne_int, ne_str, mapM_p, atD_zero, atD_one, atD_two, atD_three, PyData.isTuple, PyData.isInt, PyData.isStr, PyData.isBool, PyData.isList, PyData.isDict, Nat.reduceAdd, Int.cast_ofNat_Int, Int.reduceEq, Int.reduceAdd, Int.reduceSub, decide_true, decide_false, decide_eq_true_eq, ↓reduceIte, reduceCtorEq, ↓t__law_is_told_name_2]
  exact Fin.same hQ
def sp_is_told_choice : DSp := fun ds S Q => ∃ c : List Nm, ds = [D.p (.tuple (c.map Nm.enc))] ∧ Asc c ∧ c.length ≤ 1000 ∧ Q (D.p (.bool true)) S
theorem hs_is_told_choice (ds : List D) (S : Sto) (Q : DQ) (hl : ds.length = 1) (h : sp_is_told_choice ds S Q) : t__law_is_told_choice sp_is_told_name { nx := fun _ S' => Fin Q (.p .none) S', rt := Fin Q } (dstart 3 ds) S := by
  obtain ⟨c, rfl, hc, hcl, hQ⟩ := h
  show t__law_is_told_choice _ _ [some (D.p (.tuple (c.map Nm.enc))), none, none] S
  simp only [↓dSeq, ↓dNext, ↓dSet, ↓dDrop, ↓dRet, ↓dRetN, ↓dIfS, ↓dAsg, ↓dBreak, ↓dCont, ↓dVar, ↓dC, ↓dOp, ↓dTB, ↓dtAnd, ↓dtOr, ↓dtNot, ↓dTru, ↓dAnd, ↓dOr, ↓dNot, ↓dIf, ↓dChain, ↓dCall, ↓dCB, ↓dCons, ↓dNil, ↓dStar, ↓dTup, ↓dLst, ↓dLstM, ↓dIsa, ↓dApp, ↓dNeg, ↓gdName, ↓gdTup, ↓gdCons, ↓gdNil, ↓gdSub, ↓rIx_tup, ↓rIx_str, ↓rIx_lst, ↓rIx_ref, ↓rSetL, ↓rSl, ↓dSl, ↓doNone, ↓doSome, ↓rAdd, ↓rSub, ↓rMul, ↓rMod, ↓rFdiv, ↓rPow, ↓rShl, ↓rShr, ↓rBand, ↓rBor, ↓rInt, ↓cInt, ↓cLen_tup, ↓cLen_str, ↓cLen_lst, ↓cLen_ref, ↓cTuple, ↓cSorted, ↓cMax2, ↓rEq, ↓rNe, ↓rLt, ↓rGt, ↓rLe, ↓rGe, ↓rOrd, ↓rIn, ↓rIs, ↓isNone, ↓truD, ↓frzAll, ↓diA, ↓diR1, ↓diR2, ↓dFor, ↓dLc, ↓dLcM, ↓dtYes, ↓wipeD, dat, datL, seqL, L2.CPow, List.getElem?_cons_zero, List.getElem?_cons_succ, List.set_cons_zero, List.set_cons_succ, List.length_cons, List.length_nil, List.map_cons, List.map_nil, upS_same, if_true, if_false, Bool.false_eq_true, true_and, and_true, Bool.not_true, Bool.not_false, Bool.true_xor, Bool.false_xor, eqv_int, eqv_str, eqv_bool, dp_int, dp_str, dp_bool, dp_none, al_int, al_str, min00, ne_int, ne_str, mapM_p, atD_zero, atD_one, atD_two, atD_three, PyData.isTuple, PyData.isInt, PyData.isStr, PyData.isBool, PyData.isList, PyData.isDict, Nat.reduceAdd, Int.cast_ofNat_Int, Int.reduceEq, Int.reduceAdd, Int.reduceSub, decide_true, decide_false, decide_eq_true_eq, ↓reduceIte, reduceCtorEq, ↓t__law_is_told_choice, ↓t__law_is_told_choice_8]
  refine lp_list (fun k env S' => ∃ (e1 : Option D), env = [some (D.p (.tuple (c.map Nm.enc))), e1, none] ∧ S' = S) ⟨_, rfl, rfl⟩ ?_ ?_
  · rintro k x env S' De' hx ⟨e1, rfl, rfl⟩ hnx - - -
    obtain ⟨a', ha', rfl⟩ := map_getD hx
    obtain ⟨a, ha, rfl⟩ := map_getD ha'
    simp only [↓dSeq, ↓dNext, ↓dSet, ↓dDrop, ↓dRet, ↓dRetN, ↓dIfS, ↓dAsg, ↓dBreak, ↓dCont, ↓dVar, ↓dC, ↓dOp, ↓dTB, ↓dtAnd, ↓dtOr, ↓dtNot, ↓dTru, ↓dAnd, ↓dOr, ↓dNot, ↓dIf, ↓dChain, ↓dCall, ↓dCB, ↓dCons, ↓dNil, ↓dStar, ↓dTup, ↓dLst, ↓dLstM, ↓dIsa, ↓dApp, ↓dNeg, ↓gdName, ↓gdTup, ↓gdCons, ↓gdNil, ↓gdSub, ↓rIx_tup, ↓rIx_str, ↓rIx_lst, ↓rIx_ref, ↓rSetL, ↓rSl, ↓dSl, ↓doNone, ↓doSome, ↓rAdd, ↓rSub, ↓rMul, ↓rMod, ↓rFdiv, ↓rPow, ↓rShl, ↓rShr, ↓rBand, ↓rBor, ↓rInt, ↓cInt, ↓cLen_tup, ↓cLen_str, ↓cLen_lst, ↓cLen_ref, ↓cTuple, ↓cSorted, ↓cMax2, ↓rEq, ↓rNe, ↓rLt, ↓rGt, ↓rLe, ↓rGe, ↓rOrd, ↓rIn, ↓rIs, ↓isNone, ↓truD, ↓frzAll, ↓diA, ↓diR1, ↓diR2, ↓dFor, ↓dLc, ↓dLcM, ↓dtYes, ↓wipeD, dat, datL, seqL, L2.CPow, List.getElem?_cons_zero, List.getElem?_cons_succ, List.set_cons_zero, List.set_cons_succ, List.length_cons, List.length_nil, List.map_cons, List.map_nil, upS_same, if_true, if_false, Bool.false_eq_true, true_and, and_true, Bool.not_true, Bool.not_false, Bool.true_xor, Bool.false_xor, eqv_int, eqv_str, eqv_bool, dp_int, dp_str, dp_bool, dp_none, al_int, al_str, min00, ne_int, ne_str, mapM_p, atD_zero, atD_one, atD_two, atD_three, PyData.isTuple, PyData.isInt, PyData.isStr, PyData.isBool, PyData.isList, PyData.isDict, Nat.reduceAdd, Int.cast_ofNat_Int, Int.reduceEq, Int.reduceAdd, Int.reduceSub, decide_true, decide_false, decide_eq_true_eq, ↓reduceIte, reduceCtorEq, ↓t__law_is_told_choice_3]
    refine ⟨a, rfl, ?_⟩
    simp only [↓dSeq, ↓dNext, ↓dSet, ↓dDrop, ↓dRet, ↓dRetN, ↓dIfS, ↓dAsg, ↓dBreak, ↓dCont, ↓dVar, ↓dC, ↓dOp, ↓dTB, ↓dtAnd, ↓dtOr, ↓dtNot, ↓dTru, ↓dAnd, ↓dOr, ↓dNot, ↓dIf, ↓dChain, ↓dCall, ↓dCB, ↓dCons, ↓dNil, ↓dStar, ↓dTup, ↓dLst, ↓dLstM, ↓dIsa, ↓dApp, ↓dNeg, ↓gdName, ↓gdTup, ↓gdCons, ↓gdNil, ↓gdSub, ↓rIx_tup, ↓rIx_str, ↓rIx_lst, ↓rIx_ref, ↓rSetL, ↓rSl, ↓dSl, ↓doNone, ↓doSome, ↓rAdd, ↓rSub, ↓rMul, ↓rMod, ↓rFdiv, ↓rPow, ↓rShl, ↓rShr, ↓rBand, ↓rBor, ↓rInt, ↓cInt, ↓cLen_tup, ↓cLen_str, ↓cLen_lst, ↓cLen_ref, ↓cTuple, ↓cSorted, ↓cMax2, ↓rEq, ↓rNe, ↓rLt, ↓rGt, ↓rLe, ↓rGe, ↓rOrd, ↓rIn, ↓rIs, ↓isNone, ↓truD, ↓frzAll, ↓diA, ↓diR1, ↓diR2, ↓dFor, ↓dLc, ↓dLcM, ↓dtYes, ↓wipeD, dat, datL, seqL, L2.CPow, List.getElem?_cons_zero, List.getElem?_cons_succ, List.set_cons_zero, List.set_cons_succ, List.length_cons, List.length_nil, List.map_cons, List.map_nil, upS_same, if_true, if_false, Bool.false_eq_true, true_and, and_true, Bool.not_true, Bool.not_false, Bool.true_xor, Bool.false_xor, eqv_int, eqv_str, eqv_bool, dp_int, dp_str, dp_bool, dp_none, al_int, al_str, min00, ne_int, ne_str, mapM_p, atD_zero, atD_one, atD_two, atD_three, PyData.isTuple, PyData.isInt, PyData.isStr, PyData.isBool, PyData.isList, PyData.isDict, Nat.reduceAdd, Int.cast_ofNat_Int, Int.reduceEq, Int.reduceAdd, Int.reduceSub, decide_true, decide_false, decide_eq_true_eq, ↓reduceIte, reduceCtorEq]
    exact hnx _ _ trivial ⟨_, rfl, rfl⟩
  · rintro env S' ⟨e1, rfl, rfl⟩
    simp only [↓dSeq, ↓dNext, ↓dSet, ↓dDrop, ↓dRet, ↓dRetN, ↓dIfS, ↓dAsg, ↓dBreak, ↓dCont, ↓dVar, ↓dC, ↓dOp, ↓dTB, ↓dtAnd, ↓dtOr, ↓dtNot, ↓dTru, ↓dAnd, ↓dOr, ↓dNot, ↓dIf, ↓dChain, ↓dCall, ↓dCB, ↓dCons, ↓dNil, ↓dStar, ↓dTup, ↓dLst, ↓dLstM, ↓dIsa, ↓dApp, ↓dNeg, ↓gdName, ↓gdTup, ↓gdCons, ↓gdNil, ↓gdSub, ↓rIx_tup, ↓rIx_str, ↓rIx_lst, ↓rIx_ref, ↓rSetL, ↓rSl, ↓dSl, ↓doNone, ↓doSome, ↓rAdd, ↓rSub, ↓rMul, ↓rMod, ↓rFdiv, ↓rPow, ↓rShl, ↓rShr, ↓rBand, ↓rBor, ↓rInt, ↓cInt, ↓cLen_tup, ↓cLen_str, ↓cLen_lst, ↓cLen_ref, ↓cTuple, ↓cSorted, ↓cMax2, ↓rEq, ↓rNe, ↓rLt, ↓rGt, ↓rLe, ↓rGe, ↓rOrd, ↓rIn, ↓rIs, ↓isNone, ↓truD, ↓frzAll, ↓diA, ↓diR1, ↓diR2, ↓dFor, ↓dLc, ↓dLcM, ↓dtYes, ↓wipeD, dat, datL, seqL, L2.CPow, List.getElem?_cons_zero, List.getElem?_cons_succ, List.set_cons_zero, List.set_cons_succ, List.length_cons, List.length_nil, List.map_cons, List.map_nil, upS_same, if_true, if_false, Bool.false_eq_true, true_and, and_true, Bool.not_true, Bool.not_false, Bool.true_xor, Bool.false_xor, eqv_int, eqv_str, eqv_bool, dp_int, dp_str, dp_bool, dp_none, al_int, al_str, min00, ne_int, ne_str, mapM_p, atD_zero, atD_one, atD_two, atD_three, PyData.isTuple, PyData.isInt, PyData.isStr, PyData.isBool, PyData.isList, PyData.isDict, Nat.reduceAdd, Int.cast_ofNat_Int, Int.reduceEq, Int.reduceAdd, Int.reduceSub, decide_true, decide_false, decide_eq_true_eq, ↓reduceIte, reduceCtorEq, ↓t__law_is_told_choice_7, List.length_map]
    refine ⟨by omega, ?_⟩
    refine lp_range (fun k env S'' => ∃ (e2 : Option D), env = [some (D.p (.tuple (c.map Nm.enc))), e1, e2] ∧ S'' = S') ⟨_, rfl, rfl⟩ ?_ ?_
    · rintro k env S'' De' hk ⟨e2, rfl, rfl⟩ hnx - - -
      have hk1 : k + 1 < c.length := by omega
      have g1 : c[k]? = some c[k] := List.getElem?_eq_getElem (by omega)
      have g2 : c[k + 1]? = some c[k + 1] := List.getElem?_eq_getElem hk1
      have hlt : nlt c[k] c[k + 1] = true := List.pairwise_iff_getElem.mp hc k (k + 1) (by omega) hk1 (by omega)
      generalize c[k] = a at g1 hlt
      generalize c[k + 1] = b at g2 hlt
      have i1 : atD (c.map Nm.enc) (0 + (k : Int)) = some a.enc := by rw [show 0 + (k : Int) = ((k : Nat) : Int) from by omega]; exact atD_nat (map_get g1)
      have i2 : atD (c.map Nm.enc) (0 + (k : Int) + 1) = some b.enc := by rw [show 0 + (k : Int) + 1 = ((k + 1 : Nat) : Int) from by omega]; exact atD_nat (map_get g2)
      simp only [↓dSeq, ↓dNext, ↓dSet, ↓dDrop, ↓dRet, ↓dRetN, ↓dIfS, ↓dAsg, ↓dBreak, ↓dCont, ↓dVar, ↓dC, ↓dOp, ↓dTB, ↓dtAnd, ↓dtOr, ↓dtNot, ↓dTru, ↓dAnd, ↓dOr, ↓dNot, ↓dIf, ↓dChain, ↓dCall, ↓dCB, ↓dCons, ↓dNil, ↓dStar, ↓dTup, ↓dLst, ↓dLstM, ↓dIsa, ↓dApp, ↓dNeg, ↓gdName, ↓gdTup, ↓gdCons, ↓gdNil, ↓gdSub, ↓rIx_tup, ↓rIx_str, ↓rIx_lst, ↓rIx_ref, ↓rSetL, ↓rSl, ↓dSl, ↓doNone, ↓doSome, ↓rAdd, ↓rSub, ↓rMul, ↓rMod, ↓rFdiv, ↓rPow, ↓rShl, ↓rShr, ↓rBand, ↓rBor, ↓rInt, ↓cInt, ↓cLen_tup, ↓cLen_str, ↓cLen_lst, ↓cLen_ref, ↓cTuple, ↓cSorted, ↓cMax2, ↓rEq, ↓rNe, ↓rLt, ↓rGt, ↓rLe, ↓rGe, ↓rOrd, ↓rIn, ↓rIs, ↓isNone, ↓truD, ↓frzAll, ↓diA, ↓diR1, ↓diR2, ↓dFor, ↓dLc, ↓dLcM, ↓dtYes, ↓wipeD, dat, datL, seqL, L2.CPow, List.getElem?_cons_zero, List.getElem?_cons_succ, List.set_cons_zero, List.set_cons_succ, List.length_cons, List.length_nil, List.map_cons, List.map_nil, upS_same, if_true, if_false, Bool.false_eq_true, true_and, and_true, Bool.not_true, Bool.not_false, Bool.true_xor, Bool.false_xor, eqv_int, eqv_str, eqv_bool, dp_int, dp_str, dp_bool, dp_none, al_int, al_str, min00, ne_int, ne_str, mapM_p, atD_zero, atD_one, atD_two, atD_three, PyData.isTuple, PyData.isInt, PyData.isStr, PyData.isBool, PyData.isList, PyData.isDict, Nat.reduceAdd, Int.cast_ofNat_Int, Int.reduceEq, Int.reduceAdd, Int.reduceSub, decide_true, decide_false, decide_eq_true_eq, ↓reduceIte, reduceCtorEq, ↓t__law_is_told_choice_5, i1, i2]
      refine ⟨⟨alike_nm a b, by simp [Nm.enc], min_le60 (by rw [depth_nm]; decide)⟩, ?_⟩
      simp only [↓dSeq, ↓dNext, ↓dSet, ↓dDrop, ↓dRet, ↓dRetN, ↓dIfS, ↓dAsg, ↓dBreak, ↓dCont, ↓dVar, ↓dC, ↓dOp, ↓dTB, ↓dtAnd, ↓dtOr, ↓dtNot, ↓dTru, ↓dAnd, ↓dOr, ↓dNot, ↓dIf, ↓dChain, ↓dCall, ↓dCB, ↓dCons, ↓dNil, ↓dStar, ↓dTup, ↓dLst, ↓dLstM, ↓dIsa, ↓dApp, ↓dNeg, ↓gdName, ↓gdTup, ↓gdCons, ↓gdNil, ↓gdSub, ↓rIx_tup, ↓rIx_str, ↓rIx_lst, ↓rIx_ref, ↓rSetL, ↓rSl, ↓dSl, ↓doNone, ↓doSome, ↓rAdd, ↓rSub, ↓rMul, ↓rMod, ↓rFdiv, ↓rPow, ↓rShl, ↓rShr, ↓rBand, ↓rBor, ↓rInt, ↓cInt, ↓cLen_tup, ↓cLen_str, ↓cLen_lst, ↓cLen_ref, ↓cTuple, ↓cSorted, ↓cMax2, ↓rEq, ↓rNe, ↓rLt, ↓rGt, ↓rLe, ↓rGe, ↓rOrd, ↓rIn, ↓rIs, ↓isNone, ↓truD, ↓frzAll, ↓diA, ↓diR1, ↓diR2, ↓dFor, ↓dLc, ↓dLcM, ↓dtYes, ↓wipeD, dat, datL, seqL, L2.CPow, List.getElem?_cons_zero, List.getElem?_cons_succ, List.set_cons_zero, List.set_cons_succ, List.length_cons, List.length_nil, List.map_cons, List.map_nil, upS_same, if_true, if_false, Bool.false_eq_true, true_and, and_true, Bool.not_true, Bool.not_false, Bool.true_xor, Bool.false_xor, eqv_int, eqv_str, eqv_bool, dp_int, dp_str, dp_bool, dp_none, al_int, al_str, min00, ne_int, ne_str, mapM_p, atD_zero, atD_one, atD_two, atD_three, PyData.isTuple, PyData.isInt, PyData.isStr, PyData.isBool, PyData.isList, PyData.isDict, Nat.reduceAdd, Int.cast_ofNat_Int, Int.reduceEq, Int.reduceAdd, Int.reduceSub, decide_true, decide_false, decide_eq_true_eq, ↓reduceIte, reduceCtorEq, (show PySem.W.dataLt a.enc b.enc = true from hlt)]
      exact hnx _ _ trivial ⟨_, rfl, rfl⟩
    · rintro env S'' ⟨e2, rfl, rfl⟩
      simp only [↓dSeq, ↓dNext, ↓dSet, ↓dDrop, ↓dRet, ↓dRetN, ↓dIfS, ↓dAsg, ↓dBreak, ↓dCont, ↓dVar, ↓dC, ↓dOp, ↓dTB, ↓dtAnd, ↓dtOr, ↓dtNot, ↓dTru, ↓dAnd, ↓dOr, ↓dNot, ↓dIf, ↓dChain, ↓dCall, ↓dCB, ↓dCons, ↓dNil, ↓dStar, ↓dTup, ↓dLst, ↓dLstM, ↓dIsa, ↓dApp, ↓dNeg, ↓gdName, ↓gdTup, ↓gdCons, ↓gdNil, ↓gdSub, ↓rIx_tup, ↓rIx_str, ↓rIx_lst, ↓rIx_ref, ↓rSetL, ↓rSl, ↓dSl, ↓doNone, ↓doSome, ↓rAdd, ↓rSub, ↓rMul, ↓rMod, ↓rFdiv, ↓rPow, ↓rShl, ↓rShr, ↓rBand, ↓rBor, ↓rInt, ↓cInt, ↓cLen_tup, ↓cLen_str, ↓cLen_lst, ↓cLen_ref, ↓cTuple, ↓cSorted, ↓cMax2, ↓rEq, ↓rNe, ↓rLt, ↓rGt, ↓rLe, ↓rGe, ↓rOrd, ↓rIn, ↓rIs, ↓isNone, ↓truD, ↓frzAll, ↓diA, ↓diR1, ↓diR2, ↓dFor, ↓dLc, ↓dLcM, ↓dtYes, ↓wipeD, dat, datL, seqL, L2.CPow, List.getElem?_cons_zero, List.getElem?_cons_succ, List.set_cons_zero, List.set_cons_succ, List.length_cons, List.length_nil, List.map_cons, List.map_nil, upS_same, if_true, if_false, Bool.false_eq_true, true_and, and_true, Bool.not_true, Bool.not_false, Bool.true_xor, Bool.false_xor, eqv_int, eqv_str, eqv_bool, dp_int, dp_str, dp_bool, dp_none, al_int, al_str, min00, ne_int, ne_str, mapM_p, atD_zero, atD_one, atD_two, atD_three, PyData.isTuple, PyData.isInt, PyData.isStr, PyData.isBool, PyData.isList, PyData.isDict, Nat.reduceAdd, Int.cast_ofNat_Int, Int.reduceEq, Int.reduceAdd, Int.reduceSub, decide_true, decide_false, decide_eq_true_eq, ↓reduceIte, reduceCtorEq, ↓t__law_is_told_choice_6]
      exact Fin.same hQ

/-! ### falls -/
def sp_falls : DSp := fun ds S Q => ∃ (p : Pap) (c : List Nm) (n : Nm), ds = [D.p (.tuple (c.map Nm.enc)), D.p n.enc, D.p p.enc] ∧ FallOk p (some (c, n)) ∧ p.ht ≤ 11 ∧ c.length ≤ 1000 ∧ Q (D.p (.bool true)) S
theorem hs_falls (ds : List D) (S : Sto) (Q : DQ) (hl : ds.length = 3) (h : sp_falls ds S Q) : t__law_falls sp_is_told_choice sp_is_told_name sp_own_read { nx := fun _ S' => Fin Q (.p .none) S', rt := Fin Q } (dstart 3 ds) S := by
  obtain ⟨p, c, n, rfl, ⟨h1, h2, h3, h4, h5, h6⟩, hp, hcl, hQ⟩ := h
  show t__law_falls _ _ _ _ [some (D.p (.tuple (c.map Nm.enc))), some (D.p n.enc), some (D.p p.enc)] S
  simp only [↓dSeq, ↓dNext, ↓dSet, ↓dDrop, ↓dRet, ↓dRetN, ↓dIfS, ↓dAsg, ↓dBreak, ↓dCont, ↓dVar, ↓dC, ↓dOp, ↓dTB, ↓dtAnd, ↓dtOr, ↓dtNot, ↓dTru, ↓dAnd, ↓dOr, ↓dNot, ↓dIf, ↓dChain, ↓dCall, ↓dCB, ↓dCons, ↓dNil, ↓dStar, ↓dTup, ↓dLst, ↓dLstM, ↓dIsa, ↓dApp, ↓dNeg, ↓gdName, ↓gdTup, ↓gdCons, ↓gdNil, ↓gdSub, ↓rIx_tup, ↓rIx_str, ↓rIx_lst, ↓rIx_ref, ↓rSetL, ↓rSl, ↓dSl, ↓doNone, ↓doSome, ↓rAdd, ↓rSub, ↓rMul, ↓rMod, ↓rFdiv, ↓rPow, ↓rShl, ↓rShr, ↓rBand, ↓rBor, ↓rInt, ↓cInt, ↓cLen_tup, ↓cLen_str, ↓cLen_lst, ↓cLen_ref, ↓cTuple, ↓cSorted, ↓cMax2, ↓rEq, ↓rNe, ↓rLt, ↓rGt, ↓rLe, ↓rGe, ↓rOrd, ↓rIn, ↓rIs, ↓isNone, ↓truD, ↓frzAll, ↓diA, ↓diR1, ↓diR2, ↓dFor, ↓dLc, ↓dLcM, ↓dtYes, ↓wipeD, dat, datL, seqL, L2.CPow, List.getElem?_cons_zero, List.getElem?_cons_succ, List.set_cons_zero, List.set_cons_succ, List.length_cons, List.length_nil, List.map_cons, List.map_nil, upS_same, if_true, if_false, Bool.false_eq_true, true_and, and_true, Bool.not_true, Bool.not_false, Bool.true_xor, Bool.false_xor, eqv_int, eqv_str, eqv_bool, dp_int, dp_str, dp_bool, dp_none, al_int, al_str, min00, ne_int, ne_str, mapM_p, atD_zero, atD_one, atD_two, atD_three, PyData.isTuple, PyData.isInt, PyData.isStr, PyData.isBool, PyData.isList, PyData.isDict, Nat.reduceAdd, Int.cast_ofNat_Int, Int.reduceEq, Int.reduceAdd, Int.reduceSub, decide_true, decide_false, decide_eq_true_eq, ↓reduceIte, reduceCtorEq, ↓t__law_falls]
  refine ⟨c, rfl, h1, hcl, ?_⟩
  simp only [↓dSeq, ↓dNext, ↓dSet, ↓dDrop, ↓dRet, ↓dRetN, ↓dIfS, ↓dAsg, ↓dBreak, ↓dCont, ↓dVar, ↓dC, ↓dOp, ↓dTB, ↓dtAnd, ↓dtOr, ↓dtNot, ↓dTru, ↓dAnd, ↓dOr, ↓dNot, ↓dIf, ↓dChain, ↓dCall, ↓dCB, ↓dCons, ↓dNil, ↓dStar, ↓dTup, ↓dLst, ↓dLstM, ↓dIsa, ↓dApp, ↓dNeg, ↓gdName, ↓gdTup, ↓gdCons, ↓gdNil, ↓gdSub, ↓rIx_tup, ↓rIx_str, ↓rIx_lst, ↓rIx_ref, ↓rSetL, ↓rSl, ↓dSl, ↓doNone, ↓doSome, ↓rAdd, ↓rSub, ↓rMul, ↓rMod, ↓rFdiv, ↓rPow, ↓rShl, ↓rShr, ↓rBand, ↓rBor, ↓rInt, ↓cInt, ↓cLen_tup, ↓cLen_str, ↓cLen_lst, ↓cLen_ref, ↓cTuple, ↓cSorted, ↓cMax2, ↓rEq, ↓rNe, ↓rLt, ↓rGt, ↓rLe, ↓rGe, ↓rOrd, ↓rIn, ↓rIs, ↓isNone, ↓truD, ↓frzAll, ↓diA, ↓diR1, ↓diR2, ↓dFor, ↓dLc, ↓dLcM, ↓dtYes, ↓wipeD, dat, datL, seqL, L2.CPow, List.getElem?_cons_zero, List.getElem?_cons_succ, List.set_cons_zero, List.set_cons_succ, List.length_cons, List.length_nil, List.map_cons, List.map_nil, upS_same, if_true, if_false, Bool.false_eq_true, true_and, and_true, Bool.not_true, Bool.not_false, Bool.true_xor, Bool.false_xor, eqv_int, eqv_str, eqv_bool, dp_int, dp_str, dp_bool, dp_none, al_int, al_str, min00, ne_int, ne_str, mapM_p, atD_zero, atD_one, atD_two, atD_three, PyData.isTuple, PyData.isInt, PyData.isStr, PyData.isBool, PyData.isList, PyData.isDict, Nat.reduceAdd, Int.cast_ofNat_Int, Int.reduceEq, Int.reduceAdd, Int.reduceSub, decide_true, decide_false, decide_eq_true_eq, ↓reduceIte, reduceCtorEq]
  refine ⟨n, rfl, ?_⟩
  simp only [↓dSeq, ↓dNext, ↓dSet, ↓dDrop, ↓dRet, ↓dRetN, ↓dIfS, ↓dAsg, ↓dBreak, ↓dCont, ↓dVar, ↓dC, ↓dOp, ↓dTB, ↓dtAnd, ↓dtOr, ↓dtNot, ↓dTru, ↓dAnd, ↓dOr, ↓dNot, ↓dIf, ↓dChain, ↓dCall, ↓dCB, ↓dCons, ↓dNil, ↓dStar, ↓dTup, ↓dLst, ↓dLstM, ↓dIsa, ↓dApp, ↓dNeg, ↓gdName, ↓gdTup, ↓gdCons, ↓gdNil, ↓gdSub, ↓rIx_tup, ↓rIx_str, ↓rIx_lst, ↓rIx_ref, ↓rSetL, ↓rSl, ↓dSl, ↓doNone, ↓doSome, ↓rAdd, ↓rSub, ↓rMul, ↓rMod, ↓rFdiv, ↓rPow, ↓rShl, ↓rShr, ↓rBand, ↓rBor, ↓rInt, ↓cInt, ↓cLen_tup, ↓cLen_str, ↓cLen_lst, ↓cLen_ref, ↓cTuple, ↓cSorted, ↓cMax2, ↓rEq, ↓rNe, ↓rLt, ↓rGt, ↓rLe, ↓rGe, ↓rOrd, ↓rIn, ↓rIs, ↓isNone, ↓truD, ↓frzAll, ↓diA, ↓diR1, ↓diR2, ↓dFor, ↓dLc, ↓dLcM, ↓dtYes, ↓wipeD, dat, datL, seqL, L2.CPow, List.getElem?_cons_zero, List.getElem?_cons_succ, List.set_cons_zero, List.set_cons_succ, List.length_cons, List.length_nil, List.map_cons, List.map_nil, upS_same, if_true, if_false, Bool.false_eq_true, true_and, and_true, Bool.not_true, Bool.not_false, Bool.true_xor, Bool.false_xor, eqv_int, eqv_str, eqv_bool, dp_int, dp_str, dp_bool, dp_none, al_int, al_str, min00, ne_int, ne_str, mapM_p, atD_zero, atD_one, atD_two, atD_three, PyData.isTuple, PyData.isInt, PyData.isStr, PyData.isBool, PyData.isList, PyData.isDict, Nat.reduceAdd, Int.cast_ofNat_Int, Int.reduceEq, Int.reduceAdd, Int.reduceSub, decide_true, decide_false, decide_eq_true_eq, ↓reduceIte, reduceCtorEq]
  refine ⟨min_le60' (by rw [depth_nm]; decide), ?_⟩
  rw [any_nm, decide_eq_false h4]
  simp only [↓dSeq, ↓dNext, ↓dSet, ↓dDrop, ↓dRet, ↓dRetN, ↓dIfS, ↓dAsg, ↓dBreak, ↓dCont, ↓dVar, ↓dC, ↓dOp, ↓dTB, ↓dtAnd, ↓dtOr, ↓dtNot, ↓dTru, ↓dAnd, ↓dOr, ↓dNot, ↓dIf, ↓dChain, ↓dCall, ↓dCB, ↓dCons, ↓dNil, ↓dStar, ↓dTup, ↓dLst, ↓dLstM, ↓dIsa, ↓dApp, ↓dNeg, ↓gdName, ↓gdTup, ↓gdCons, ↓gdNil, ↓gdSub, ↓rIx_tup, ↓rIx_str, ↓rIx_lst, ↓rIx_ref, ↓rSetL, ↓rSl, ↓dSl, ↓doNone, ↓doSome, ↓rAdd, ↓rSub, ↓rMul, ↓rMod, ↓rFdiv, ↓rPow, ↓rShl, ↓rShr, ↓rBand, ↓rBor, ↓rInt, ↓cInt, ↓cLen_tup, ↓cLen_str, ↓cLen_lst, ↓cLen_ref, ↓cTuple, ↓cSorted, ↓cMax2, ↓rEq, ↓rNe, ↓rLt, ↓rGt, ↓rLe, ↓rGe, ↓rOrd, ↓rIn, ↓rIs, ↓isNone, ↓truD, ↓frzAll, ↓diA, ↓diR1, ↓diR2, ↓dFor, ↓dLc, ↓dLcM, ↓dtYes, ↓wipeD, dat, datL, seqL, L2.CPow, List.getElem?_cons_zero, List.getElem?_cons_succ, List.set_cons_zero, List.set_cons_succ, List.length_cons, List.length_nil, List.map_cons, List.map_nil, upS_same, if_true, if_false, Bool.false_eq_true, true_and, and_true, Bool.not_true, Bool.not_false, Bool.true_xor, Bool.false_xor, eqv_int, eqv_str, eqv_bool, dp_int, dp_str, dp_bool, dp_none, al_int, al_str, min00, ne_int, ne_str, mapM_p, atD_zero, atD_one, atD_two, atD_three, PyData.isTuple, PyData.isInt, PyData.isStr, PyData.isBool, PyData.isList, PyData.isDict, Nat.reduceAdd, Int.cast_ofNat_Int, Int.reduceEq, Int.reduceAdd, Int.reduceSub, decide_true, decide_false, decide_eq_true_eq, ↓reduceIte, reduceCtorEq, ↓t__law_falls_2]
  refine ⟨p, c, rfl, hp, ?_⟩
  rw [h5]
  simp only [↓dSeq, ↓dNext, ↓dSet, ↓dDrop, ↓dRet, ↓dRetN, ↓dIfS, ↓dAsg, ↓dBreak, ↓dCont, ↓dVar, ↓dC, ↓dOp, ↓dTB, ↓dtAnd, ↓dtOr, ↓dtNot, ↓dTru, ↓dAnd, ↓dOr, ↓dNot, ↓dIf, ↓dChain, ↓dCall, ↓dCB, ↓dCons, ↓dNil, ↓dStar, ↓dTup, ↓dLst, ↓dLstM, ↓dIsa, ↓dApp, ↓dNeg, ↓gdName, ↓gdTup, ↓gdCons, ↓gdNil, ↓gdSub, ↓rIx_tup, ↓rIx_str, ↓rIx_lst, ↓rIx_ref, ↓rSetL, ↓rSl, ↓dSl, ↓doNone, ↓doSome, ↓rAdd, ↓rSub, ↓rMul, ↓rMod, ↓rFdiv, ↓rPow, ↓rShl, ↓rShr, ↓rBand, ↓rBor, ↓rInt, ↓cInt, ↓cLen_tup, ↓cLen_str, ↓cLen_lst, ↓cLen_ref, ↓cTuple, ↓cSorted, ↓cMax2, ↓rEq, ↓rNe, ↓rLt, ↓rGt, ↓rLe, ↓rGe, ↓rOrd, ↓rIn, ↓rIs, ↓isNone, ↓truD, ↓frzAll, ↓diA, ↓diR1, ↓diR2, ↓dFor, ↓dLc, ↓dLcM, ↓dtYes, ↓wipeD, dat, datL, seqL, L2.CPow, List.getElem?_cons_zero, List.getElem?_cons_succ, List.set_cons_zero, List.set_cons_succ, List.length_cons, List.length_nil, List.map_cons, List.map_nil, upS_same, if_true, if_false, Bool.false_eq_true, true_and, and_true, Bool.not_true, Bool.not_false, Bool.true_xor, Bool.false_xor, eqv_int, eqv_str, eqv_bool, dp_int, dp_str, dp_bool, dp_none, al_int, al_str, min00, ne_int, ne_str, mapM_p, atD_zero, atD_one, atD_two, atD_three, PyData.isTuple, PyData.isInt, PyData.isStr, PyData.isBool, PyData.isList, PyData.isDict, Nat.reduceAdd, Int.cast_ofNat_Int, Int.reduceEq, Int.reduceAdd, Int.reduceSub, decide_true, decide_false, decide_eq_true_eq, ↓reduceIte, reduceCtorEq, encV]
  refine ⟨by decide, by rw [List.length_map]; exact small (by omega), p, c ++ [n], by simp, hp, ?_⟩
  rw [h6]
  simp only [↓dSeq, ↓dNext, ↓dSet, ↓dDrop, ↓dRet, ↓dRetN, ↓dIfS, ↓dAsg, ↓dBreak, ↓dCont, ↓dVar, ↓dC, ↓dOp, ↓dTB, ↓dtAnd, ↓dtOr, ↓dtNot, ↓dTru, ↓dAnd, ↓dOr, ↓dNot, ↓dIf, ↓dChain, ↓dCall, ↓dCB, ↓dCons, ↓dNil, ↓dStar, ↓dTup, ↓dLst, ↓dLstM, ↓dIsa, ↓dApp, ↓dNeg, ↓gdName, ↓gdTup, ↓gdCons, ↓gdNil, ↓gdSub, ↓rIx_tup, ↓rIx_str, ↓rIx_lst, ↓rIx_ref, ↓rSetL, ↓rSl, ↓dSl, ↓doNone, ↓doSome, ↓rAdd, ↓rSub, ↓rMul, ↓rMod, ↓rFdiv, ↓rPow, ↓rShl, ↓rShr, ↓rBand, ↓rBor, ↓rInt, ↓cInt, ↓cLen_tup, ↓cLen_str, ↓cLen_lst, ↓cLen_ref, ↓cTuple, ↓cSorted, ↓cMax2, ↓rEq, ↓rNe, ↓rLt, ↓rGt, ↓rLe, ↓rGe, ↓rOrd, ↓rIn, ↓rIs, ↓isNone, ↓truD, ↓frzAll, ↓diA, ↓diR1, ↓diR2, ↓dFor, ↓dLc, ↓dLcM, ↓dtYes, ↓wipeD, dat, datL, seqL, L2.CPow, List.getElem?_cons_zero, List.getElem?_cons_succ, List.set_cons_zero, List.set_cons_succ, List.length_cons, List.length_nil, List.map_cons, List.map_nil, upS_same, if_true, if_false, Bool.false_eq_true, true_and, and_true, Bool.not_true, Bool.not_false, Bool.true_xor, Bool.false_xor, eqv_int, eqv_str, eqv_bool, dp_int, dp_str, dp_bool, dp_none, al_int, al_str, min00, ne_int, ne_str, mapM_p, atD_zero, atD_one, atD_two, atD_three, PyData.isTuple, PyData.isInt, PyData.isStr, PyData.isBool, PyData.isList, PyData.isDict, Nat.reduceAdd, Int.cast_ofNat_Int, Int.reduceEq, Int.reduceAdd, Int.reduceSub, decide_true, decide_false, decide_eq_true_eq, ↓reduceIte, reduceCtorEq, encV]
  exact Fin.same hQ

/-! ### is_rising -/
def bitsV (bs : List Int) : List (Option Int) := bs.map some
theorem encV_bits (bs : List Int) : (bitsV bs).map encV = bs.map .int := by unfold bitsV; rw [List.map_map]; rfl
def Bits (bs : List Int) : Prop := ∀ b ∈ bs, b = 0 ∨ b = 1
def sp_is_rising : DSp := fun ds S Q => ∃ (ns : List Nm) (bs : List Int), ds = [D.p (.list (ns.map Nm.enc)), D.p (.list (bs.map .int))] ∧ ns.length ≤ 10 ∧ bs.length = 2 ^ ns.length ∧ Bits bs ∧ ∀ b : Bool, (b = true ↔ RisingV ns.length (bitsV bs)) → Q (D.p (.bool b)) S
theorem bitNot_bitNot (a : Int) : Builtin.bitNot (Builtin.bitNot a) = a := by unfold Builtin.bitNot; omega
theorem bitOr_nat (a b : Nat) : Builtin.bitOr (a : Int) (b : Int) = ((a ||| b : Nat) : Int) := by
  unfold Builtin.bitOr Builtin.bitAnd
  rw [decide_eq_false (show ¬ (0 : Int) ≤ Builtin.bitNot (a : Int) by unfold Builtin.bitNot; omega), decide_eq_false (show ¬ (0 : Int) ≤ Builtin.bitNot (b : Int) by unfold Builtin.bitNot; omega)]
  simp only [bitNot_bitNot, Int.toNat_natCast]
theorem bitsV_get {bs : List Int} {i : Nat} {b : Int} (h : bs[i]? = some b) : (bitsV bs)[i]? = some (some b) := map_get h
theorem or_lt {x k m : Nat} (hx : x < 2 ^ m) (hk : k < m) : x ||| 1 <<< k < 2 ^ m := by
  refine Nat.or_lt_two_pow hx ?_
  rw [Nat.one_shiftLeft]
  exact Nat.pow_lt_pow_right (by omega) hk
theorem hs_is_rising (ds : List D) (S : Sto) (Q : DQ) (hl : ds.length = 2) (h : sp_is_rising ds S Q) : t__law_is_rising sp_digit { nx := fun _ S' => Fin Q (.p .none) S', rt := Fin Q } (dstart 4 ds) S := by
  obtain ⟨ns, bs, rfl, hns, hbl, hb, hQ⟩ := h
  show t__law_is_rising _ _ [some (D.p (.list (ns.map Nm.enc))), some (D.p (.list (bs.map .int))), none, none] S
  have hp := small_pow hns
  simp only [↓dSeq, ↓dNext, ↓dSet, ↓dDrop, ↓dRet, ↓dRetN, ↓dIfS, ↓dAsg, ↓dBreak, ↓dCont, ↓dVar, ↓dC, ↓dOp, ↓dTB, ↓dtAnd, ↓dtOr, ↓dtNot, ↓dTru, ↓dAnd, ↓dOr, ↓dNot, ↓dIf, ↓dChain, ↓dCall, ↓dCB, ↓dCons, ↓dNil, ↓dStar, ↓dTup, ↓dLst, ↓dLstM, ↓dIsa, ↓dApp, ↓dNeg, ↓gdName, ↓gdTup, ↓gdCons, ↓gdNil, ↓gdSub, ↓rIx_tup, ↓rIx_str, ↓rIx_lst, ↓rIx_ref, ↓rSetL, ↓rSl, ↓dSl, ↓doNone, ↓doSome, ↓rAdd, ↓rSub, ↓rMul, ↓rMod, ↓rFdiv, ↓rPow, ↓rShl, ↓rShr, ↓rBand, ↓rBor, ↓rInt, ↓cInt, ↓cLen_tup, ↓cLen_str, ↓cLen_lst, ↓cLen_ref, ↓cTuple, ↓cSorted, ↓cMax2, ↓rEq, ↓rNe, ↓rLt, ↓rGt, ↓rLe, ↓rGe, ↓rOrd, ↓rIn, ↓rIs, ↓isNone, ↓truD, ↓frzAll, ↓diA, ↓diR1, ↓diR2, ↓dFor, ↓dLc, ↓dLcM, ↓dtYes, ↓wipeD, dat, datL, seqL, L2.CPow, List.getElem?_cons_zero, List.getElem?_cons_succ, List.set_cons_zero, List.set_cons_succ, List.length_cons, List.length_nil, List.map_cons, List.map_nil, upS_same, if_true, if_false, Bool.false_eq_true, true_and, and_true, Bool.not_true, Bool.not_false, Bool.true_xor, Bool.false_xor, eqv_int, eqv_str, eqv_bool, dp_int, dp_str, dp_bool, dp_none, al_int, al_str, min00, ne_int, ne_str, mapM_p, atD_zero, atD_one, atD_two, atD_three, PyData.isTuple, PyData.isInt, PyData.isStr, PyData.isBool, PyData.isList, PyData.isDict, Nat.reduceAdd, Int.cast_ofNat_Int, Int.reduceEq, Int.reduceAdd, Int.reduceSub, decide_true, decide_false, decide_eq_true_eq, ↓reduceIte, reduceCtorEq, ↓t__law_is_rising, List.length_map]
  refine ⟨by omega, ?_⟩
  rw [Int.toNat_natCast]
  refine lp_range (fun x env S' => ∃ (e2 e3 : Option D), env = [some (D.p (.list (ns.map Nm.enc))), some (D.p (.list (bs.map .int))), e2, e3] ∧ S' = S ∧
    ∀ y k : Nat, y < x → k < ns.length → y.testBit k = false → (bitsV bs)[y]? = some (some 0) → (bitsV bs)[y ||| 1 <<< k]? = some (some 1) → False) ⟨_, _, rfl, rfl, fun y k h => by omega⟩ ?_ ?_
  · rintro x env S' De' hx ⟨e2, e3, rfl, rfl, hx0⟩ hnx - hrt -
    simp only [↓dSeq, ↓dNext, ↓dSet, ↓dDrop, ↓dRet, ↓dRetN, ↓dIfS, ↓dAsg, ↓dBreak, ↓dCont, ↓dVar, ↓dC, ↓dOp, ↓dTB, ↓dtAnd, ↓dtOr, ↓dtNot, ↓dTru, ↓dAnd, ↓dOr, ↓dNot, ↓dIf, ↓dChain, ↓dCall, ↓dCB, ↓dCons, ↓dNil, ↓dStar, ↓dTup, ↓dLst, ↓dLstM, ↓dIsa, ↓dApp, ↓dNeg, ↓gdName, ↓gdTup, ↓gdCons, ↓gdNil, ↓gdSub, ↓rIx_tup, ↓rIx_str, ↓rIx_lst, ↓rIx_ref, ↓rSetL, ↓rSl, ↓dSl, ↓doNone, ↓doSome, ↓rAdd, ↓rSub, ↓rMul, ↓rMod, ↓rFdiv, ↓rPow, ↓rShl, ↓rShr, ↓rBand, ↓rBor, ↓rInt, ↓cInt, ↓cLen_tup, ↓cLen_str, ↓cLen_lst, ↓cLen_ref, ↓cTuple, ↓cSorted, ↓cMax2, ↓rEq, ↓rNe, ↓rLt, ↓rGt, ↓rLe, ↓rGe, ↓rOrd, ↓rIn, ↓rIs, ↓isNone, ↓truD, ↓frzAll, ↓diA, ↓diR1, ↓diR2, ↓dFor, ↓dLc, ↓dLcM, ↓dtYes, ↓wipeD, dat, datL, seqL, L2.CPow, List.getElem?_cons_zero, List.getElem?_cons_succ, List.set_cons_zero, List.set_cons_succ, List.length_cons, List.length_nil, List.map_cons, List.map_nil, upS_same, if_true, if_false, Bool.false_eq_true, true_and, and_true, Bool.not_true, Bool.not_false, Bool.true_xor, Bool.false_xor, eqv_int, eqv_str, eqv_bool, dp_int, dp_str, dp_bool, dp_none, al_int, al_str, min00, ne_int, ne_str, mapM_p, atD_zero, atD_one, atD_two, atD_three, PyData.isTuple, PyData.isInt, PyData.isStr, PyData.isBool, PyData.isList, PyData.isDict, Nat.reduceAdd, Int.cast_ofNat_Int, Int.reduceEq, Int.reduceAdd, Int.reduceSub, decide_true, decide_false, decide_eq_true_eq, ↓reduceIte, reduceCtorEq, ↓t__law_is_rising_3, List.length_map]
    refine ⟨by omega, ?_⟩
    rw [Int.toNat_natCast]
    refine lp_range (fun k env S'' => ∃ (e3 : Option D), env = [some (D.p (.list (ns.map Nm.enc))), some (D.p (.list (bs.map .int))), some (D.p (.int (0 + (x : Int)))), e3] ∧ S'' = S' ∧
      ∀ j : Nat, j < k → x.testBit j = false → (bitsV bs)[x]? = some (some 0) → (bitsV bs)[x ||| 1 <<< j]? = some (some 1) → False) ⟨_, rfl, rfl, fun j h => by omega⟩ ?_ ?_
    · rintro k env S'' De2 hk ⟨e3, rfl, rfl, hk0⟩ hnx2 - hrt2 -
      simp only [↓dSeq, ↓dNext, ↓dSet, ↓dDrop, ↓dRet, ↓dRetN, ↓dIfS, ↓dAsg, ↓dBreak, ↓dCont, ↓dVar, ↓dC, ↓dOp, ↓dTB, ↓dtAnd, ↓dtOr, ↓dtNot, ↓dTru, ↓dAnd, ↓dOr, ↓dNot, ↓dIf, ↓dChain, ↓dCall, ↓dCB, ↓dCons, ↓dNil, ↓dStar, ↓dTup, ↓dLst, ↓dLstM, ↓dIsa, ↓dApp, ↓dNeg, ↓gdName, ↓gdTup, ↓gdCons, ↓gdNil, ↓gdSub, ↓rIx_tup, ↓rIx_str, ↓rIx_lst, ↓rIx_ref, ↓rSetL, ↓rSl, ↓dSl, ↓doNone, ↓doSome, ↓rAdd, ↓rSub, ↓rMul, ↓rMod, ↓rFdiv, ↓rPow, ↓rShl, ↓rShr, ↓rBand, ↓rBor, ↓rInt, ↓cInt, ↓cLen_tup, ↓cLen_str, ↓cLen_lst, ↓cLen_ref, ↓cTuple, ↓cSorted, ↓cMax2, ↓rEq, ↓rNe, ↓rLt, ↓rGt, ↓rLe, ↓rGe, ↓rOrd, ↓rIn, ↓rIs, ↓isNone, ↓truD, ↓frzAll, ↓diA, ↓diR1, ↓diR2, ↓dFor, ↓dLc, ↓dLcM, ↓dtYes, ↓wipeD, dat, datL, seqL, L2.CPow, List.getElem?_cons_zero, List.getElem?_cons_succ, List.set_cons_zero, List.set_cons_succ, List.length_cons, List.length_nil, List.map_cons, List.map_nil, upS_same, if_true, if_false, Bool.false_eq_true, true_and, and_true, Bool.not_true, Bool.not_false, Bool.true_xor, Bool.false_xor, eqv_int, eqv_str, eqv_bool, dp_int, dp_str, dp_bool, dp_none, al_int, al_str, min00, ne_int, ne_str, mapM_p, atD_zero, atD_one, atD_two, atD_three, PyData.isTuple, PyData.isInt, PyData.isStr, PyData.isBool, PyData.isList, PyData.isDict, Nat.reduceAdd, Int.cast_ofNat_Int, Int.reduceEq, Int.reduceAdd, Int.reduceSub, decide_true, decide_false, decide_eq_true_eq, ↓reduceIte, reduceCtorEq, ↓t__law_is_rising_2]
      refine ⟨x, k, by rw [Int.zero_add, Int.zero_add], ?_⟩
      cases hbit : x.testBit k with
      | true =>
        simp only [↓dSeq, ↓dNext, ↓dSet, ↓dDrop, ↓dRet, ↓dRetN, ↓dIfS, ↓dAsg, ↓dBreak, ↓dCont, ↓dVar, ↓dC, ↓dOp, ↓dTB, ↓dtAnd, ↓dtOr, ↓dtNot, ↓dTru, ↓dAnd, ↓dOr, ↓dNot, ↓dIf, ↓dChain, ↓dCall, ↓dCB, ↓dCons, ↓dNil, ↓dStar, ↓dTup, ↓dLst, ↓dLstM, ↓dIsa, ↓dApp, ↓dNeg, ↓gdName, ↓gdTup, ↓gdCons, ↓gdNil, ↓gdSub, ↓rIx_tup, ↓rIx_str, ↓rIx_lst, ↓rIx_ref, ↓rSetL, ↓rSl, ↓dSl, ↓doNone, ↓doSome, ↓rAdd, ↓rSub, ↓rMul, ↓rMod, ↓rFdiv, ↓rPow, ↓rShl, ↓rShr, ↓rBand, ↓rBor, ↓rInt, ↓cInt, ↓cLen_tup, ↓cLen_str, ↓cLen_lst, ↓cLen_ref, ↓cTuple, ↓cSorted, ↓cMax2, ↓rEq, ↓rNe, ↓rLt, ↓rGt, ↓rLe, ↓rGe, ↓rOrd, ↓rIn, ↓rIs, ↓isNone, ↓truD, ↓frzAll, ↓diA, ↓diR1, ↓diR2, ↓dFor, ↓dLc, ↓dLcM, ↓dtYes, ↓wipeD, dat, datL, seqL, L2.CPow, List.getElem?_cons_zero, List.getElem?_cons_succ, List.set_cons_zero, List.set_cons_succ, List.length_cons, List.length_nil, List.map_cons, List.map_nil, upS_same, if_true, if_false, Bool.false_eq_true, true_and, and_true, Bool.not_true, Bool.not_false, Bool.true_xor, Bool.false_xor, eqv_int, eqv_str, eqv_bool, dp_int, dp_str, dp_bool, dp_none, al_int, al_str, min00, ne_int, ne_str, mapM_p, atD_zero, atD_one, atD_two, atD_three, PyData.isTuple, PyData.isInt, PyData.isStr, PyData.isBool, PyData.isList, PyData.isDict, Nat.reduceAdd, Int.cast_ofNat_Int, Int.reduceEq, Int.reduceAdd, Int.reduceSub, decide_true, decide_false, decide_eq_true_eq, ↓reduceIte, reduceCtorEq]
        refine hnx2 _ _ trivial ⟨_, rfl, rfl, fun j hj h1 h2 h3 => ?_⟩
        by_cases e : j = k
        · rw [e, hbit] at h1; cases h1
        · exact hk0 j (by omega) h1 h2 h3
      | false =>
        have hor := or_lt (x := x) (k := k) (m := ns.length) (by omega) hk
        obtain ⟨b1, g1⟩ := get_ex (xs := bs) (i := x) hx
        obtain ⟨b2, g2⟩ := get_ex (xs := bs) (i := x ||| 1 <<< k) (by omega)
        have i1 : atD ((bs.map PyData.int).map D.p) (0 + (x : Int)) = some (D.p (.int b1)) := by rw [Int.zero_add]; exact atD_nat (zs_get g1)
        have i2 : atD ((bs.map PyData.int).map D.p) (((x ||| 1 <<< k : Nat)) : Int) = some (D.p (.int b2)) := atD_nat (zs_get g2)
        have e1 : Builtin.bitOr (0 + (x : Int)) (1 * 2 ^ (0 + (k : Int)).toNat) = ((x ||| 1 <<< k : Nat) : Int) := by
          rw [Int.zero_add, Int.zero_add, Int.toNat_natCast, Int.one_mul, Nat.one_shiftLeft, ← bitOr_nat]
          simp
        simp only [↓dSeq, ↓dNext, ↓dSet, ↓dDrop, ↓dRet, ↓dRetN, ↓dIfS, ↓dAsg, ↓dBreak, ↓dCont, ↓dVar, ↓dC, ↓dOp, ↓dTB, ↓dtAnd, ↓dtOr, ↓dtNot, ↓dTru, ↓dAnd, ↓dOr, ↓dNot, ↓dIf, ↓dChain, ↓dCall, ↓dCB, ↓dCons, ↓dNil, ↓dStar, ↓dTup, ↓dLst, ↓dLstM, ↓dIsa, ↓dApp, ↓dNeg, ↓gdName, ↓gdTup, ↓gdCons, ↓gdNil, ↓gdSub, ↓rIx_tup, ↓rIx_str, ↓rIx_lst, ↓rIx_ref, ↓rSetL, ↓rSl, ↓dSl, ↓doNone, ↓doSome, ↓rAdd, ↓rSub, ↓rMul, ↓rMod, ↓rFdiv, ↓rPow, ↓rShl, ↓rShr, ↓rBand, ↓rBor, ↓rInt, ↓cInt, ↓cLen_tup, ↓cLen_str, ↓cLen_lst, ↓cLen_ref, ↓cTuple, ↓cSorted, ↓cMax2, ↓rEq, ↓rNe, ↓rLt, ↓rGt, ↓rLe, ↓rGe, ↓rOrd, ↓rIn, ↓rIs, ↓isNone, ↓truD, ↓frzAll, ↓diA, ↓diR1, ↓diR2, ↓dFor, ↓dLc, ↓dLcM, ↓dtYes, ↓wipeD, dat, datL, seqL, L2.CPow, List.getElem?_cons_zero, List.getElem?_cons_succ, List.set_cons_zero, List.set_cons_succ, List.length_cons, List.length_nil, List.map_cons, List.map_nil, upS_same, if_true, if_false, Bool.false_eq_true, true_and, and_true, Bool.not_true, Bool.not_false, Bool.true_xor, Bool.false_xor, eqv_int, eqv_str, eqv_bool, dp_int, dp_str, dp_bool, dp_none, al_int, al_str, min00, ne_int, ne_str, mapM_p, atD_zero, atD_one, atD_two, atD_three, PyData.isTuple, PyData.isInt, PyData.isStr, PyData.isBool, PyData.isList, PyData.isDict, Nat.reduceAdd, Int.cast_ofNat_Int, Int.reduceEq, Int.reduceAdd, Int.reduceSub, decide_true, decide_false, decide_eq_true_eq, ↓reduceIte, reduceCtorEq, i1]
        refine ⟨⟨by omega, by omega, by decide⟩, ?_⟩
        rw [e1]
        simp only [↓dSeq, ↓dNext, ↓dSet, ↓dDrop, ↓dRet, ↓dRetN, ↓dIfS, ↓dAsg, ↓dBreak, ↓dCont, ↓dVar, ↓dC, ↓dOp, ↓dTB, ↓dtAnd, ↓dtOr, ↓dtNot, ↓dTru, ↓dAnd, ↓dOr, ↓dNot, ↓dIf, ↓dChain, ↓dCall, ↓dCB, ↓dCons, ↓dNil, ↓dStar, ↓dTup, ↓dLst, ↓dLstM, ↓dIsa, ↓dApp, ↓dNeg, ↓gdName, ↓gdTup, ↓gdCons, ↓gdNil, ↓gdSub, ↓rIx_tup, ↓rIx_str, ↓rIx_lst, ↓rIx_ref, ↓rSetL, ↓rSl, ↓dSl, ↓doNone, ↓doSome, ↓rAdd, ↓rSub, ↓rMul, ↓rMod, ↓rFdiv, ↓rPow, ↓rShl, ↓rShr, ↓rBand, ↓rBor, ↓rInt, ↓cInt, ↓cLen_tup, ↓cLen_str, ↓cLen_lst, ↓cLen_ref, ↓cTuple, ↓cSorted, ↓cMax2, ↓rEq, ↓rNe, ↓rLt, ↓rGt, ↓rLe, ↓rGe, ↓rOrd, ↓rIn, ↓rIs, ↓isNone, ↓truD, ↓frzAll, ↓diA, ↓diR1, ↓diR2, ↓dFor, ↓dLc, ↓dLcM, ↓dtYes, ↓wipeD, dat, datL, seqL, L2.CPow, List.getElem?_cons_zero, List.getElem?_cons_succ, List.set_cons_zero, List.set_cons_succ, List.length_cons, List.length_nil, List.map_cons, List.map_nil, upS_same, if_true, if_false, Bool.false_eq_true, true_and, and_true, Bool.not_true, Bool.not_false, Bool.true_xor, Bool.false_xor, eqv_int, eqv_str, eqv_bool, dp_int, dp_str, dp_bool, dp_none, al_int, al_str, min00, ne_int, ne_str, mapM_p, atD_zero, atD_one, atD_two, atD_three, PyData.isTuple, PyData.isInt, PyData.isStr, PyData.isBool, PyData.isList, PyData.isDict, Nat.reduceAdd, Int.cast_ofNat_Int, Int.reduceEq, Int.reduceAdd, Int.reduceSub, decide_true, decide_false, decide_eq_true_eq, ↓reduceIte, reduceCtorEq, i2, PySem.W.dataLt_int]
        by_cases hlt : b1 < b2
        · rw [if_pos hlt]
          have hb1 := hb b1 (List.mem_of_getElem? g1)
          have hb2 := hb b2 (List.mem_of_getElem? g2)
          simp only [↓dSeq, ↓dNext, ↓dSet, ↓dDrop, ↓dRet, ↓dRetN, ↓dIfS, ↓dAsg, ↓dBreak, ↓dCont, ↓dVar, ↓dC, ↓dOp, ↓dTB, ↓dtAnd, ↓dtOr, ↓dtNot, ↓dTru, ↓dAnd, ↓dOr, ↓dNot, ↓dIf, ↓dChain, ↓dCall, ↓dCB, ↓dCons, ↓dNil, ↓dStar, ↓dTup, ↓dLst, ↓dLstM, ↓dIsa, ↓dApp, ↓dNeg, ↓gdName, ↓gdTup, ↓gdCons, ↓gdNil, ↓gdSub, ↓rIx_tup, ↓rIx_str, ↓rIx_lst, ↓rIx_ref, ↓rSetL, ↓rSl, ↓dSl, ↓doNone, ↓doSome, ↓rAdd, ↓rSub, ↓rMul, ↓rMod, ↓rFdiv, ↓rPow, ↓rShl, ↓rShr, ↓rBand, ↓rBor, ↓rInt, ↓cInt, ↓cLen_tup, ↓cLen_str, ↓cLen_lst, ↓cLen_ref, ↓cTuple, ↓cSorted, ↓cMax2, ↓rEq, ↓rNe, ↓rLt, ↓rGt, ↓rLe, ↓rGe, ↓rOrd, ↓rIn, ↓rIs, ↓isNone, ↓truD, ↓frzAll, ↓diA, ↓diR1, ↓diR2, ↓dFor, ↓dLc, ↓dLcM, ↓dtYes, ↓wipeD, dat, datL, seqL, L2.CPow, List.getElem?_cons_zero, List.getElem?_cons_succ, List.set_cons_zero, List.set_cons_succ, List.length_cons, List.length_nil, List.map_cons, List.map_nil, upS_same, if_true, if_false, Bool.false_eq_true, true_and, and_true, Bool.not_true, Bool.not_false, Bool.true_xor, Bool.false_xor, eqv_int, eqv_str, eqv_bool, dp_int, dp_str, dp_bool, dp_none, al_int, al_str, min00, ne_int, ne_str, mapM_p, atD_zero, atD_one, atD_two, atD_three, PyData.isTuple, PyData.isInt, PyData.isStr, PyData.isBool, PyData.isList, PyData.isDict, Nat.reduceAdd, Int.cast_ofNat_Int, Int.reduceEq, Int.reduceAdd, Int.reduceSub, decide_true, decide_false, decide_eq_true_eq, ↓reduceIte, reduceCtorEq, ↓t__law_is_rising_1]
          rw [hrt2, hrt]
          refine Fin.same (hQ false ⟨fun h => (Bool.false_ne_true h).elim, fun h => (h x k (by rw [bitsV, List.length_map]; exact hx) hk hbit ?_ ?_).elim⟩)
          · rw [bitsV_get g1, show b1 = 0 by omega]
          · rw [bitsV_get g2, show b2 = 1 by omega]
        · rw [if_neg hlt]
          refine hnx2 _ _ trivial ⟨_, rfl, rfl, fun j hj h1 h2 h3 => ?_⟩
          by_cases e : j = k
          · subst e
            rw [bitsV_get g1] at h2
            rw [bitsV_get g2] at h3
            cases h2; cases h3
            exact hlt (by decide)
          · exact hk0 j (by omega) h1 h2 h3
    · rintro env S'' ⟨e3, rfl, rfl, hk0⟩
      refine hnx _ _ trivial ⟨_, _, rfl, rfl, fun y k hy hk h1 h2 h3 => ?_⟩
      by_cases e : y = x
      · subst e; exact hk0 k hk h1 h2 h3
      · exact hx0 y k (by omega) hk h1 h2 h3
  · rintro env S' ⟨e2, e3, rfl, rfl, hx0⟩
    simp only [↓dSeq, ↓dNext, ↓dSet, ↓dDrop, ↓dRet, ↓dRetN, ↓dIfS, ↓dAsg, ↓dBreak, ↓dCont, ↓dVar, ↓dC, ↓dOp, ↓dTB, ↓dtAnd, ↓dtOr, ↓dtNot, ↓dTru, ↓dAnd, ↓dOr, ↓dNot, ↓dIf, ↓dChain, ↓dCall, ↓dCB, ↓dCons, ↓dNil, ↓dStar, ↓dTup, ↓dLst, ↓dLstM, ↓dIsa, ↓dApp, ↓dNeg, ↓gdName, ↓gdTup, ↓gdCons, ↓gdNil, ↓gdSub, ↓rIx_tup, ↓rIx_str, ↓rIx_lst, ↓rIx_ref, ↓rSetL, ↓rSl, ↓dSl, ↓doNone, ↓doSome, ↓rAdd, ↓rSub, ↓rMul, ↓rMod, ↓rFdiv, ↓rPow, ↓rShl, ↓rShr, ↓rBand, ↓rBor, ↓rInt, ↓cInt, ↓cLen_tup, ↓cLen_str, ↓cLen_lst, ↓cLen_ref, ↓cTuple, ↓cSorted, ↓cMax2, ↓rEq, ↓rNe, ↓rLt, ↓rGt, ↓rLe, ↓rGe, ↓rOrd, ↓rIn, ↓rIs, ↓isNone, ↓truD, ↓frzAll, ↓diA, ↓diR1, ↓diR2, ↓dFor, ↓dLc, ↓dLcM, ↓dtYes, ↓wipeD, dat, datL, seqL, L2.CPow, List.getElem?_cons_zero, List.getElem?_cons_succ, List.set_cons_zero, List.set_cons_succ, List.length_cons, List.length_nil, List.map_cons, List.map_nil, upS_same, if_true, if_false, Bool.false_eq_true, true_and, and_true, Bool.not_true, Bool.not_false, Bool.true_xor, Bool.false_xor, eqv_int, eqv_str, eqv_bool, dp_int, dp_str, dp_bool, dp_none, al_int, al_str, min00, ne_int, ne_str, mapM_p, atD_zero, atD_one, atD_two, atD_three, PyData.isTuple, PyData.isInt, PyData.isStr, PyData.isBool, PyData.isList, PyData.isDict, Nat.reduceAdd, Int.cast_ofNat_Int, Int.reduceEq, Int.reduceAdd, Int.reduceSub, decide_true, decide_false, decide_eq_true_eq, ↓reduceIte, reduceCtorEq, ↓t__law_is_rising_4]
    refine Fin.same (hQ true ⟨fun _ x k hx hk h1 h2 h3 => hx0 x k ?_ hk h1 h2 h3, fun _ => rfl⟩)
    rw [bitsV, List.length_map] at hx
    exact hx

/-! ### lot_bits, any_bits -/
def sp_bits : DSp := fun ds S Q => ∃ p o m, ds = [.r p, D.p (.int ((2 ^ m : Nat) : Int))] ∧ m ≤ 10 ∧ S p = some o ∧ PoolO o ∧ ∀ bs o', bs.length = 2 ^ m → Bits bs → PoolO o' → Q (D.p (.list (bs.map .int))) (upS S p o')
theorem log_pow {m : Nat} : (((2 ^ m : Nat) : Int)).natAbs.log2 = m := by
  rw [Int.natAbs_natCast]
  exact Nat.log2_two_pow
theorem pow_pos' {m : Nat} : 0 < (((2 ^ m : Nat) : Int)) := by have := Nat.two_pow_pos m; omega
theorem hs_any_bits (ds : List D) (S : Sto) (Q : DQ) (hl : ds.length = 2) (h : sp_bits ds S Q) : t__law_any_bits sp_take sp_digit { nx := fun _ S' => Fin Q (.p .none) S', rt := Fin Q } (dstart 5 ds) S := by
  obtain ⟨p, o, m, rfl, hm, hS, ho, hQ⟩ := h
  have hp := small_pow hm
  have hp0 := Nat.two_pow_pos m
  show t__law_any_bits _ _ _ [some (.r p), some (D.p (.int ((2 ^ m : Nat) : Int))), none, none, none] S
  generalize hz : 2 ^ m = z at hp hp0 hQ
  simp only [↓dSeq, ↓dNext, ↓dSet, ↓dDrop, ↓dRet, ↓dRetN, ↓dIfS, ↓dAsg, ↓dBreak, ↓dCont, ↓dVar, ↓dC, ↓dOp, ↓dTB, ↓dtAnd, ↓dtOr, ↓dtNot, ↓dTru, ↓dAnd, ↓dOr, ↓dNot, ↓dIf, ↓dChain, ↓dCall, ↓dCB, ↓dCons, ↓dNil, ↓dStar, ↓dTup, ↓dLst, ↓dLstM, ↓dIsa, ↓dApp, ↓dNeg, ↓gdName, ↓gdTup, ↓gdCons, ↓gdNil, ↓gdSub, ↓rIx_tup, ↓rIx_str, ↓rIx_lst, ↓rIx_ref, ↓rSetL, ↓rSl, ↓dSl, ↓doNone, ↓doSome, ↓rAdd, ↓rSub, ↓rMul, ↓rMod, ↓rFdiv, ↓rPow, ↓rShl, ↓rShr, ↓rBand, ↓rBor, ↓rInt, ↓cInt, ↓cLen_tup, ↓cLen_str, ↓cLen_lst, ↓cLen_ref, ↓cTuple, ↓cSorted, ↓cMax2, ↓rEq, ↓rNe, ↓rLt, ↓rGt, ↓rLe, ↓rGe, ↓rOrd, ↓rIn, ↓rIs, ↓isNone, ↓truD, ↓frzAll, ↓diA, ↓diR1, ↓diR2, ↓dFor, ↓dLc, ↓dLcM, ↓dtYes, ↓wipeD, dat, datL, seqL, L2.CPow, List.getElem?_cons_zero, List.getElem?_cons_succ, List.set_cons_zero, List.set_cons_succ, List.length_cons, List.length_nil, List.map_cons, List.map_nil, upS_same, if_true, if_false, Bool.false_eq_true, true_and, and_true, Bool.not_true, Bool.not_false, Bool.true_xor, Bool.false_xor, eqv_int, eqv_str, eqv_bool, dp_int, dp_str, dp_bool, dp_none, al_int, al_str, min00, ne_int, ne_str, mapM_p, atD_zero, atD_one, atD_two, atD_three, PyData.isTuple, PyData.isInt, PyData.isStr, PyData.isBool, PyData.isList, PyData.isDict, Nat.reduceAdd, Int.cast_ofNat_Int, Int.reduceEq, Int.reduceAdd, Int.reduceSub, decide_true, decide_false, decide_eq_true_eq, ↓reduceIte, reduceCtorEq, ↓t__law_any_bits]
  refine ⟨⟨by omega, by omega, by decide⟩, ?_⟩
  rw [Int.toNat_natCast, Int.one_mul, show ((2 : Int) ^ z) = ((2 ^ z : Nat) : Int) from by simp]
  have hpz : 0 < (2 : Nat) ^ z := Nat.two_pow_pos z
  have hlog : ((((2 : Nat) ^ z : Nat) : Int)).natAbs.log2 = z := log_pow
  generalize (2 : Nat) ^ z = E at hpz hlog
  simp only [↓dSeq, ↓dNext, ↓dSet, ↓dDrop, ↓dRet, ↓dRetN, ↓dIfS, ↓dAsg, ↓dBreak, ↓dCont, ↓dVar, ↓dC, ↓dOp, ↓dTB, ↓dtAnd, ↓dtOr, ↓dtNot, ↓dTru, ↓dAnd, ↓dOr, ↓dNot, ↓dIf, ↓dChain, ↓dCall, ↓dCB, ↓dCons, ↓dNil, ↓dStar, ↓dTup, ↓dLst, ↓dLstM, ↓dIsa, ↓dApp, ↓dNeg, ↓gdName, ↓gdTup, ↓gdCons, ↓gdNil, ↓gdSub, ↓rIx_tup, ↓rIx_str, ↓rIx_lst, ↓rIx_ref, ↓rSetL, ↓rSl, ↓dSl, ↓doNone, ↓doSome, ↓rAdd, ↓rSub, ↓rMul, ↓rMod, ↓rFdiv, ↓rPow, ↓rShl, ↓rShr, ↓rBand, ↓rBor, ↓rInt, ↓cInt, ↓cLen_tup, ↓cLen_str, ↓cLen_lst, ↓cLen_ref, ↓cTuple, ↓cSorted, ↓cMax2, ↓rEq, ↓rNe, ↓rLt, ↓rGt, ↓rLe, ↓rGe, ↓rOrd, ↓rIn, ↓rIs, ↓isNone, ↓truD, ↓frzAll, ↓diA, ↓diR1, ↓diR2, ↓dFor, ↓dLc, ↓dLcM, ↓dtYes, ↓wipeD, dat, datL, seqL, L2.CPow, List.getElem?_cons_zero, List.getElem?_cons_succ, List.set_cons_zero, List.set_cons_succ, List.length_cons, List.length_nil, List.map_cons, List.map_nil, upS_same, if_true, if_false, Bool.false_eq_true, true_and, and_true, Bool.not_true, Bool.not_false, Bool.true_xor, Bool.false_xor, eqv_int, eqv_str, eqv_bool, dp_int, dp_str, dp_bool, dp_none, al_int, al_str, min00, ne_int, ne_str, mapM_p, atD_zero, atD_one, atD_two, atD_three, PyData.isTuple, PyData.isInt, PyData.isStr, PyData.isBool, PyData.isList, PyData.isDict, Nat.reduceAdd, Int.cast_ofNat_Int, Int.reduceEq, Int.reduceAdd, Int.reduceSub, decide_true, decide_false, decide_eq_true_eq, ↓reduceIte, reduceCtorEq, ↓t__law_any_bits_2]
  refine c_take hS ho (fun d o1 h0 h1 ho1 => ?_) (by omega) (by omega)
  simp only [↓dSeq, ↓dNext, ↓dSet, ↓dDrop, ↓dRet, ↓dRetN, ↓dIfS, ↓dAsg, ↓dBreak, ↓dCont, ↓dVar, ↓dC, ↓dOp, ↓dTB, ↓dtAnd, ↓dtOr, ↓dtNot, ↓dTru, ↓dAnd, ↓dOr, ↓dNot, ↓dIf, ↓dChain, ↓dCall, ↓dCB, ↓dCons, ↓dNil, ↓dStar, ↓dTup, ↓dLst, ↓dLstM, ↓dIsa, ↓dApp, ↓dNeg, ↓gdName, ↓gdTup, ↓gdCons, ↓gdNil, ↓gdSub, ↓rIx_tup, ↓rIx_str, ↓rIx_lst, ↓rIx_ref, ↓rSetL, ↓rSl, ↓dSl, ↓doNone, ↓doSome, ↓rAdd, ↓rSub, ↓rMul, ↓rMod, ↓rFdiv, ↓rPow, ↓rShl, ↓rShr, ↓rBand, ↓rBor, ↓rInt, ↓cInt, ↓cLen_tup, ↓cLen_str, ↓cLen_lst, ↓cLen_ref, ↓cTuple, ↓cSorted, ↓cMax2, ↓rEq, ↓rNe, ↓rLt, ↓rGt, ↓rLe, ↓rGe, ↓rOrd, ↓rIn, ↓rIs, ↓isNone, ↓truD, ↓frzAll, ↓diA, ↓diR1, ↓diR2, ↓dFor, ↓dLc, ↓dLcM, ↓dtYes, ↓wipeD, dat, datL, seqL, L2.CPow, List.getElem?_cons_zero, List.getElem?_cons_succ, List.set_cons_zero, List.set_cons_succ, List.length_cons, List.length_nil, List.map_cons, List.map_nil, upS_same, if_true, if_false, Bool.false_eq_true, true_and, and_true, Bool.not_true, Bool.not_false, Bool.true_xor, Bool.false_xor, eqv_int, eqv_str, eqv_bool, dp_int, dp_str, dp_bool, dp_none, al_int, al_str, min00, ne_int, ne_str, mapM_p, atD_zero, atD_one, atD_two, atD_three, PyData.isTuple, PyData.isInt, PyData.isStr, PyData.isBool, PyData.isList, PyData.isDict, Nat.reduceAdd, Int.cast_ofNat_Int, Int.reduceEq, Int.reduceAdd, Int.reduceSub, decide_true, decide_false, decide_eq_true_eq, ↓reduceIte, reduceCtorEq]
  refine ⟨⟨by decide, by decide⟩, .inl ⟨by decide, by decide⟩, by omega, ?_⟩
  have hn := Int.emod_nonneg (d + 41 * ((E : Int) / 60 + 1)) (show (E : Int) ≠ 0 by omega)
  generalize (d + 41 * ((E : Int) / 60 + 1)) % (E : Int) = num at hn
  obtain ⟨a, rfl⟩ : ∃ a : Nat, num = a := ⟨num.toNat, by omega⟩
  simp only [↓dSeq, ↓dNext, ↓dSet, ↓dDrop, ↓dRet, ↓dRetN, ↓dIfS, ↓dAsg, ↓dBreak, ↓dCont, ↓dVar, ↓dC, ↓dOp, ↓dTB, ↓dtAnd, ↓dtOr, ↓dtNot, ↓dTru, ↓dAnd, ↓dOr, ↓dNot, ↓dIf, ↓dChain, ↓dCall, ↓dCB, ↓dCons, ↓dNil, ↓dStar, ↓dTup, ↓dLst, ↓dLstM, ↓dIsa, ↓dApp, ↓dNeg, ↓gdName, ↓gdTup, ↓gdCons, ↓gdNil, ↓gdSub, ↓rIx_tup, ↓rIx_str, ↓rIx_lst, ↓rIx_ref, ↓rSetL, ↓rSl, ↓dSl, ↓doNone, ↓doSome, ↓rAdd, ↓rSub, ↓rMul, ↓rMod, ↓rFdiv, ↓rPow, ↓rShl, ↓rShr, ↓rBand, ↓rBor, ↓rInt, ↓cInt, ↓cLen_tup, ↓cLen_str, ↓cLen_lst, ↓cLen_ref, ↓cTuple, ↓cSorted, ↓cMax2, ↓rEq, ↓rNe, ↓rLt, ↓rGt, ↓rLe, ↓rGe, ↓rOrd, ↓rIn, ↓rIs, ↓isNone, ↓truD, ↓frzAll, ↓diA, ↓diR1, ↓diR2, ↓dFor, ↓dLc, ↓dLcM, ↓dtYes, ↓wipeD, dat, datL, seqL, L2.CPow, List.getElem?_cons_zero, List.getElem?_cons_succ, List.set_cons_zero, List.set_cons_succ, List.length_cons, List.length_nil, List.map_cons, List.map_nil, upS_same, if_true, if_false, Bool.false_eq_true, true_and, and_true, Bool.not_true, Bool.not_false, Bool.true_xor, Bool.false_xor, eqv_int, eqv_str, eqv_bool, dp_int, dp_str, dp_bool, dp_none, al_int, al_str, min00, ne_int, ne_str, mapM_p, atD_zero, atD_one, atD_two, atD_three, PyData.isTuple, PyData.isInt, PyData.isStr, PyData.isBool, PyData.isList, PyData.isDict, Nat.reduceAdd, Int.cast_ofNat_Int, Int.reduceEq, Int.reduceAdd, Int.reduceSub, decide_true, decide_false, decide_eq_true_eq, ↓reduceIte, reduceCtorEq, ↓t__law_any_bits_1]
  refine ⟨by omega, fun n hn => ?_⟩
  rw [Int.toNat_natCast]
  refine lc_map (fun d => match d with | .p (.int k) => .int (if a.testBit k.toNat = true then 1 else 0) | _ => .none) hn (by rw [intsD_len]; exact smallL (by omega)) (fun _ => trivial) ?_ ?_
  · intro x hx acc R R' hq
    obtain ⟨i, hi⟩ := List.getElem?_of_mem hx
    obtain ⟨hi1, rfl⟩ := intsD_get hi
    simp only [↓dSeq, ↓dNext, ↓dSet, ↓dDrop, ↓dRet, ↓dRetN, ↓dIfS, ↓dAsg, ↓dBreak, ↓dCont, ↓dVar, ↓dC, ↓dOp, ↓dTB, ↓dtAnd, ↓dtOr, ↓dtNot, ↓dTru, ↓dAnd, ↓dOr, ↓dNot, ↓dIf, ↓dChain, ↓dCall, ↓dCB, ↓dCons, ↓dNil, ↓dStar, ↓dTup, ↓dLst, ↓dLstM, ↓dIsa, ↓dApp, ↓dNeg, ↓gdName, ↓gdTup, ↓gdCons, ↓gdNil, ↓gdSub, ↓rIx_tup, ↓rIx_str, ↓rIx_lst, ↓rIx_ref, ↓rSetL, ↓rSl, ↓dSl, ↓doNone, ↓doSome, ↓rAdd, ↓rSub, ↓rMul, ↓rMod, ↓rFdiv, ↓rPow, ↓rShl, ↓rShr, ↓rBand, ↓rBor, ↓rInt, ↓cInt, ↓cLen_tup, ↓cLen_str, ↓cLen_lst, ↓cLen_ref, ↓cTuple, ↓cSorted, ↓cMax2, ↓rEq, ↓rNe, ↓rLt, ↓rGt, ↓rLe, ↓rGe, ↓rOrd, ↓rIn, ↓rIs, ↓isNone, ↓truD, ↓frzAll, ↓diA, ↓diR1, ↓diR2, ↓dFor, ↓dLc, ↓dLcM, ↓dtYes, ↓wipeD, dat, datL, seqL, L2.CPow, List.getElem?_cons_zero, List.getElem?_cons_succ, List.set_cons_zero, List.set_cons_succ, List.length_cons, List.length_nil, List.map_cons, List.map_nil, upS_same, if_true, if_false, Bool.false_eq_true, true_and, and_true, Bool.not_true, Bool.not_false, Bool.true_xor, Bool.false_xor, eqv_int, eqv_str, eqv_bool, dp_int, dp_str, dp_bool, dp_none, al_int, al_str, min00, ne_int, ne_str, mapM_p, atD_zero, atD_one, atD_two, atD_three, PyData.isTuple, PyData.isInt, PyData.isStr, PyData.isBool, PyData.isList, PyData.isDict, Nat.reduceAdd, Int.cast_ofNat_Int, Int.reduceEq, Int.reduceAdd, Int.reduceSub, decide_true, decide_false, decide_eq_true_eq, ↓reduceIte, reduceCtorEq]
    refine ⟨a, i, by rw [Int.zero_add], ?_⟩
    simpa using hq
  · refine Fin.same ?_
    have e : (intsD 0 z).map (fun d => match d with | .p (.int k) => PyData.int (if a.testBit k.toNat = true then 1 else 0) | _ => .none) = ((List.range z).map fun k => if a.testBit k = true then (1 : Int) else 0).map .int := by
      unfold intsD
      rw [List.map_map, List.map_map]
      apply List.map_congr_left
      intro k _
      simp
    rw [e]
    refine hQ _ _ (by simp) (fun b hb => ?_) ho1
    obtain ⟨k, _, rfl⟩ := List.mem_map.mp hb
    split
    · exact .inr rfl
    · exact .inl rfl
theorem hs_lot_bits (ds : List D) (S : Sto) (Q : DQ) (hl : ds.length = 2) (h : sp_bits ds S Q) : t__law_lot_bits sp_take { nx := fun _ S' => Fin Q (.p .none) S', rt := Fin Q } (dstart 7 ds) S := by
  obtain ⟨p, o, m, rfl, hm, hS, ho, hQ⟩ := h
  have hp := small_pow hm
  have hp0 := Nat.two_pow_pos m
  show t__law_lot_bits _ _ [some (.r p), some (D.p (.int ((2 ^ m : Nat) : Int))), none, none, none, none, none] S
  have hlog : (((2 ^ m : Nat) : Int)).natAbs.log2 = m := log_pow
  generalize hz : 2 ^ m = z at hp hp0 hQ hlog
  simp only [↓dSeq, ↓dNext, ↓dSet, ↓dDrop, ↓dRet, ↓dRetN, ↓dIfS, ↓dAsg, ↓dBreak, ↓dCont, ↓dVar, ↓dC, ↓dOp, ↓dTB, ↓dtAnd, ↓dtOr, ↓dtNot, ↓dTru, ↓dAnd, ↓dOr, ↓dNot, ↓dIf, ↓dChain, ↓dCall, ↓dCB, ↓dCons, ↓dNil, ↓dStar, ↓dTup, ↓dLst, ↓dLstM, ↓dIsa, ↓dApp, ↓dNeg, ↓gdName, ↓gdTup, ↓gdCons, ↓gdNil, ↓gdSub, ↓rIx_tup, ↓rIx_str, ↓rIx_lst, ↓rIx_ref, ↓rSetL, ↓rSl, ↓dSl, ↓doNone, ↓doSome, ↓rAdd, ↓rSub, ↓rMul, ↓rMod, ↓rFdiv, ↓rPow, ↓rShl, ↓rShr, ↓rBand, ↓rBor, ↓rInt, ↓cInt, ↓cLen_tup, ↓cLen_str, ↓cLen_lst, ↓cLen_ref, ↓cTuple, ↓cSorted, ↓cMax2, ↓rEq, ↓rNe, ↓rLt, ↓rGt, ↓rLe, ↓rGe, ↓rOrd, ↓rIn, ↓rIs, ↓isNone, ↓truD, ↓frzAll, ↓diA, ↓diR1, ↓diR2, ↓dFor, ↓dLc, ↓dLcM, ↓dtYes, ↓wipeD, dat, datL, seqL, L2.CPow, List.getElem?_cons_zero, List.getElem?_cons_succ, List.set_cons_zero, List.set_cons_succ, List.length_cons, List.length_nil, List.map_cons, List.map_nil, upS_same, if_true, if_false, Bool.false_eq_true, true_and, and_true, Bool.not_true, Bool.not_false, Bool.true_xor, Bool.false_xor, eqv_int, eqv_str, eqv_bool, dp_int, dp_str, dp_bool, dp_none, al_int, al_str, min00, ne_int, ne_str, mapM_p, atD_zero, atD_one, atD_two, atD_three, PyData.isTuple, PyData.isInt, PyData.isStr, PyData.isBool, PyData.isList, PyData.isDict, Nat.reduceAdd, Int.cast_ofNat_Int, Int.reduceEq, Int.reduceAdd, Int.reduceSub, decide_true, decide_false, decide_eq_true_eq, ↓reduceIte, reduceCtorEq, ↓t__law_lot_bits]
  refine ⟨by decide, fun a ha => ?_⟩
  have hap : p ≠ a := ne_of_none ha hS
  have haS : upS S a (.lst []) p = some o := by rw [upS_ne hap]; exact hS
  simp only [↓dSeq, ↓dNext, ↓dSet, ↓dDrop, ↓dRet, ↓dRetN, ↓dIfS, ↓dAsg, ↓dBreak, ↓dCont, ↓dVar, ↓dC, ↓dOp, ↓dTB, ↓dtAnd, ↓dtOr, ↓dtNot, ↓dTru, ↓dAnd, ↓dOr, ↓dNot, ↓dIf, ↓dChain, ↓dCall, ↓dCB, ↓dCons, ↓dNil, ↓dStar, ↓dTup, ↓dLst, ↓dLstM, ↓dIsa, ↓dApp, ↓dNeg, ↓gdName, ↓gdTup, ↓gdCons, ↓gdNil, ↓gdSub, ↓rIx_tup, ↓rIx_str, ↓rIx_lst, ↓rIx_ref, ↓rSetL, ↓rSl, ↓dSl, ↓doNone, ↓doSome, ↓rAdd, ↓rSub, ↓rMul, ↓rMod, ↓rFdiv, ↓rPow, ↓rShl, ↓rShr, ↓rBand, ↓rBor, ↓rInt, ↓cInt, ↓cLen_tup, ↓cLen_str, ↓cLen_lst, ↓cLen_ref, ↓cTuple, ↓cSorted, ↓cMax2, ↓rEq, ↓rNe, ↓rLt, ↓rGt, ↓rLe, ↓rGe, ↓rOrd, ↓rIn, ↓rIs, ↓isNone, ↓truD, ↓frzAll, ↓diA, ↓diR1, ↓diR2, ↓dFor, ↓dLc, ↓dLcM, ↓dtYes, ↓wipeD, dat, datL, seqL, L2.CPow, List.getElem?_cons_zero, List.getElem?_cons_succ, List.set_cons_zero, List.set_cons_succ, List.length_cons, List.length_nil, List.map_cons, List.map_nil, upS_same, if_true, if_false, Bool.false_eq_true, true_and, and_true, Bool.not_true, Bool.not_false, Bool.true_xor, Bool.false_xor, eqv_int, eqv_str, eqv_bool, dp_int, dp_str, dp_bool, dp_none, al_int, al_str, min00, ne_int, ne_str, mapM_p, atD_zero, atD_one, atD_two, atD_three, PyData.isTuple, PyData.isInt, PyData.isStr, PyData.isBool, PyData.isList, PyData.isDict, Nat.reduceAdd, Int.cast_ofNat_Int, Int.reduceEq, Int.reduceAdd, Int.reduceSub, decide_true, decide_false, decide_eq_true_eq, ↓reduceIte, reduceCtorEq, ↓t__law_lot_bits_6]
  refine c_take haS ho fun d o1 _ _ ho1 => ?_
  simp only [↓dSeq, ↓dNext, ↓dSet, ↓dDrop, ↓dRet, ↓dRetN, ↓dIfS, ↓dAsg, ↓dBreak, ↓dCont, ↓dVar, ↓dC, ↓dOp, ↓dTB, ↓dtAnd, ↓dtOr, ↓dtNot, ↓dTru, ↓dAnd, ↓dOr, ↓dNot, ↓dIf, ↓dChain, ↓dCall, ↓dCB, ↓dCons, ↓dNil, ↓dStar, ↓dTup, ↓dLst, ↓dLstM, ↓dIsa, ↓dApp, ↓dNeg, ↓gdName, ↓gdTup, ↓gdCons, ↓gdNil, ↓gdSub, ↓rIx_tup, ↓rIx_str, ↓rIx_lst, ↓rIx_ref, ↓rSetL, ↓rSl, ↓dSl, ↓doNone, ↓doSome, ↓rAdd, ↓rSub, ↓rMul, ↓rMod, ↓rFdiv, ↓rPow, ↓rShl, ↓rShr, ↓rBand, ↓rBor, ↓rInt, ↓cInt, ↓cLen_tup, ↓cLen_str, ↓cLen_lst, ↓cLen_ref, ↓cTuple, ↓cSorted, ↓cMax2, ↓rEq, ↓rNe, ↓rLt, ↓rGt, ↓rLe, ↓rGe, ↓rOrd, ↓rIn, ↓rIs, ↓isNone, ↓truD, ↓frzAll, ↓diA, ↓diR1, ↓diR2, ↓dFor, ↓dLc, ↓dLcM, ↓dtYes, ↓wipeD, dat, datL, seqL, L2.CPow, List.getElem?_cons_zero, List.getElem?_cons_succ, List.set_cons_zero, List.set_cons_succ, List.length_cons, List.length_nil, List.map_cons, List.map_nil, upS_same, if_true, if_false, Bool.false_eq_true, true_and, and_true, Bool.not_true, Bool.not_false, Bool.true_xor, Bool.false_xor, eqv_int, eqv_str, eqv_bool, dp_int, dp_str, dp_bool, dp_none, al_int, al_str, min00, ne_int, ne_str, mapM_p, atD_zero, atD_one, atD_two, atD_three, PyData.isTuple, PyData.isInt, PyData.isStr, PyData.isBool, PyData.isList, PyData.isDict, Nat.reduceAdd, Int.cast_ofNat_Int, Int.reduceEq, Int.reduceAdd, Int.reduceSub, decide_true, decide_false, decide_eq_true_eq, ↓reduceIte, reduceCtorEq]
  have a0 := Int.emod_nonneg (d + 2) (show (4 : Int) ≠ 0 by omega)
  have a1 := Int.emod_lt_of_pos (d + 2) (show (0 : Int) < 4 by omega)
  refine ⟨by decide, by omega, ?_⟩
  refine lp_range (fun k env S' => ∃ (o' : MO) (ls : List Int) (e3 : Option D), env = [some (.r p), some (D.p (.int z)), some (.r a), e3, none, none, none] ∧ S' = upS (upS S p o') a (.lst (zs ls)) ∧ PoolO o' ∧ ls.length ≤ k) ⟨o1, [], _, rfl, by rw [upS_comm (Ne.symm hap)]; rfl, ho1, by simp⟩ ?_ ?_
  · rintro k env S' De' hk ⟨o', ls, e3, rfl, rfl, ho', hlen⟩ hnx - - -
    simp only [↓dSeq, ↓dNext, ↓dSet, ↓dDrop, ↓dRet, ↓dRetN, ↓dIfS, ↓dAsg, ↓dBreak, ↓dCont, ↓dVar, ↓dC, ↓dOp, ↓dTB, ↓dtAnd, ↓dtOr, ↓dtNot, ↓dTru, ↓dAnd, ↓dOr, ↓dNot, ↓dIf, ↓dChain, ↓dCall, ↓dCB, ↓dCons, ↓dNil, ↓dStar, ↓dTup, ↓dLst, ↓dLstM, ↓dIsa, ↓dApp, ↓dNeg, ↓gdName, ↓gdTup, ↓gdCons, ↓gdNil, ↓gdSub, ↓rIx_tup, ↓rIx_str, ↓rIx_lst, ↓rIx_ref, ↓rSetL, ↓rSl, ↓dSl, ↓doNone, ↓doSome, ↓rAdd, ↓rSub, ↓rMul, ↓rMod, ↓rFdiv, ↓rPow, ↓rShl, ↓rShr, ↓rBand, ↓rBor, ↓rInt, ↓cInt, ↓cLen_tup, ↓cLen_str, ↓cLen_lst, ↓cLen_ref, ↓cTuple, ↓cSorted, ↓cMax2, ↓rEq, ↓rNe, ↓rLt, ↓rGt, ↓rLe, ↓rGe, ↓rOrd, ↓rIn, ↓rIs, ↓isNone, ↓truD, ↓frzAll, ↓diA, ↓diR1, ↓diR2, ↓dFor, ↓dLc, ↓dLcM, ↓dtYes, ↓wipeD, dat, datL, seqL, L2.CPow, List.getElem?_cons_zero, List.getElem?_cons_succ, List.set_cons_zero, List.set_cons_succ, List.length_cons, List.length_nil, List.map_cons, List.map_nil, upS_same, if_true, if_false, Bool.false_eq_true, true_and, and_true, Bool.not_true, Bool.not_false, Bool.true_xor, Bool.false_xor, eqv_int, eqv_str, eqv_bool, dp_int, dp_str, dp_bool, dp_none, al_int, al_str, min00, ne_int, ne_str, mapM_p, atD_zero, atD_one, atD_two, atD_three, PyData.isTuple, PyData.isInt, PyData.isStr, PyData.isBool, PyData.isList, PyData.isDict, Nat.reduceAdd, Int.cast_ofNat_Int, Int.reduceEq, Int.reduceAdd, Int.reduceSub, decide_true, decide_false, decide_eq_true_eq, ↓reduceIte, reduceCtorEq, ↓t__law_lot_bits_1]
    refine ⟨⟨_, rfl⟩, c_take (at2 hap) ho' (fun d2 o2 _ _ ho2 => ?_) (by omega) (by omega)⟩
    rw [up2 hap]
    simp only [↓dSeq, ↓dNext, ↓dSet, ↓dDrop, ↓dRet, ↓dRetN, ↓dIfS, ↓dAsg, ↓dBreak, ↓dCont, ↓dVar, ↓dC, ↓dOp, ↓dTB, ↓dtAnd, ↓dtOr, ↓dtNot, ↓dTru, ↓dAnd, ↓dOr, ↓dNot, ↓dIf, ↓dChain, ↓dCall, ↓dCB, ↓dCons, ↓dNil, ↓dStar, ↓dTup, ↓dLst, ↓dLstM, ↓dIsa, ↓dApp, ↓dNeg, ↓gdName, ↓gdTup, ↓gdCons, ↓gdNil, ↓gdSub, ↓rIx_tup, ↓rIx_str, ↓rIx_lst, ↓rIx_ref, ↓rSetL, ↓rSl, ↓dSl, ↓doNone, ↓doSome, ↓rAdd, ↓rSub, ↓rMul, ↓rMod, ↓rFdiv, ↓rPow, ↓rShl, ↓rShr, ↓rBand, ↓rBor, ↓rInt, ↓cInt, ↓cLen_tup, ↓cLen_str, ↓cLen_lst, ↓cLen_ref, ↓cTuple, ↓cSorted, ↓cMax2, ↓rEq, ↓rNe, ↓rLt, ↓rGt, ↓rLe, ↓rGe, ↓rOrd, ↓rIn, ↓rIs, ↓isNone, ↓truD, ↓frzAll, ↓diA, ↓diR1, ↓diR2, ↓dFor, ↓dLc, ↓dLcM, ↓dtYes, ↓wipeD, dat, datL, seqL, L2.CPow, List.getElem?_cons_zero, List.getElem?_cons_succ, List.set_cons_zero, List.set_cons_succ, List.length_cons, List.length_nil, List.map_cons, List.map_nil, upS_same, if_true, if_false, Bool.false_eq_true, true_and, and_true, Bool.not_true, Bool.not_false, Bool.true_xor, Bool.false_xor, eqv_int, eqv_str, eqv_bool, dp_int, dp_str, dp_bool, dp_none, al_int, al_str, min00, ne_int, ne_str, mapM_p, atD_zero, atD_one, atD_two, atD_three, PyData.isTuple, PyData.isInt, PyData.isStr, PyData.isBool, PyData.isList, PyData.isDict, Nat.reduceAdd, Int.cast_ofNat_Int, Int.reduceEq, Int.reduceAdd, Int.reduceSub, decide_true, decide_false, decide_eq_true_eq, ↓reduceIte, reduceCtorEq, zs_len]
    refine ⟨.inl ⟨by decide, by decide⟩, by omega, smallL (by omega), ?_⟩
    refine hnx _ _ trivial ⟨o2, ls ++ [(d2 + 5 * (0 + (k : Int)) + 3) % (z : Int)], _, rfl, ?_, ho2, by simp; omega⟩
    rw [upS_upS, zs_snoc]
  · rintro env S' ⟨o', ls, e3, rfl, rfl, ho', hlen⟩
    simp only [↓dSeq, ↓dNext, ↓dSet, ↓dDrop, ↓dRet, ↓dRetN, ↓dIfS, ↓dAsg, ↓dBreak, ↓dCont, ↓dVar, ↓dC, ↓dOp, ↓dTB, ↓dtAnd, ↓dtOr, ↓dtNot, ↓dTru, ↓dAnd, ↓dOr, ↓dNot, ↓dIf, ↓dChain, ↓dCall, ↓dCB, ↓dCons, ↓dNil, ↓dStar, ↓dTup, ↓dLst, ↓dLstM, ↓dIsa, ↓dApp, ↓dNeg, ↓gdName, ↓gdTup, ↓gdCons, ↓gdNil, ↓gdSub, ↓rIx_tup, ↓rIx_str, ↓rIx_lst, ↓rIx_ref, ↓rSetL, ↓rSl, ↓dSl, ↓doNone, ↓doSome, ↓rAdd, ↓rSub, ↓rMul, ↓rMod, ↓rFdiv, ↓rPow, ↓rShl, ↓rShr, ↓rBand, ↓rBor, ↓rInt, ↓cInt, ↓cLen_tup, ↓cLen_str, ↓cLen_lst, ↓cLen_ref, ↓cTuple, ↓cSorted, ↓cMax2, ↓rEq, ↓rNe, ↓rLt, ↓rGt, ↓rLe, ↓rGe, ↓rOrd, ↓rIn, ↓rIs, ↓isNone, ↓truD, ↓frzAll, ↓diA, ↓diR1, ↓diR2, ↓dFor, ↓dLc, ↓dLcM, ↓dtYes, ↓wipeD, dat, datL, seqL, L2.CPow, List.getElem?_cons_zero, List.getElem?_cons_succ, List.set_cons_zero, List.set_cons_succ, List.length_cons, List.length_nil, List.map_cons, List.map_nil, upS_same, if_true, if_false, Bool.false_eq_true, true_and, and_true, Bool.not_true, Bool.not_false, Bool.true_xor, Bool.false_xor, eqv_int, eqv_str, eqv_bool, dp_int, dp_str, dp_bool, dp_none, al_int, al_str, min00, ne_int, ne_str, mapM_p, atD_zero, atD_one, atD_two, atD_three, PyData.isTuple, PyData.isInt, PyData.isStr, PyData.isBool, PyData.isList, PyData.isDict, Nat.reduceAdd, Int.cast_ofNat_Int, Int.reduceEq, Int.reduceAdd, Int.reduceSub, decide_true, decide_false, decide_eq_true_eq, ↓reduceIte, reduceCtorEq, ↓t__law_lot_bits_5]
    refine ⟨by decide, fun b hb => ?_⟩
    have hab : b ≠ a := fun e => by rw [e, upS_same] at hb; cases hb
    have hb1 : upS S p o' b = none := by rw [upS_ne hab] at hb; exact hb
    obtain ⟨hbp, hb0⟩ := fresh2 hb1
    simp only [↓dSeq, ↓dNext, ↓dSet, ↓dDrop, ↓dRet, ↓dRetN, ↓dIfS, ↓dAsg, ↓dBreak, ↓dCont, ↓dVar, ↓dC, ↓dOp, ↓dTB, ↓dtAnd, ↓dtOr, ↓dtNot, ↓dTru, ↓dAnd, ↓dOr, ↓dNot, ↓dIf, ↓dChain, ↓dCall, ↓dCB, ↓dCons, ↓dNil, ↓dStar, ↓dTup, ↓dLst, ↓dLstM, ↓dIsa, ↓dApp, ↓dNeg, ↓gdName, ↓gdTup, ↓gdCons, ↓gdNil, ↓gdSub, ↓rIx_tup, ↓rIx_str, ↓rIx_lst, ↓rIx_ref, ↓rSetL, ↓rSl, ↓dSl, ↓doNone, ↓doSome, ↓rAdd, ↓rSub, ↓rMul, ↓rMod, ↓rFdiv, ↓rPow, ↓rShl, ↓rShr, ↓rBand, ↓rBor, ↓rInt, ↓cInt, ↓cLen_tup, ↓cLen_str, ↓cLen_lst, ↓cLen_ref, ↓cTuple, ↓cSorted, ↓cMax2, ↓rEq, ↓rNe, ↓rLt, ↓rGt, ↓rLe, ↓rGe, ↓rOrd, ↓rIn, ↓rIs, ↓isNone, ↓truD, ↓frzAll, ↓diA, ↓diR1, ↓diR2, ↓dFor, ↓dLc, ↓dLcM, ↓dtYes, ↓wipeD, dat, datL, seqL, L2.CPow, List.getElem?_cons_zero, List.getElem?_cons_succ, List.set_cons_zero, List.set_cons_succ, List.length_cons, List.length_nil, List.map_cons, List.map_nil, upS_same, if_true, if_false, Bool.false_eq_true, true_and, and_true, Bool.not_true, Bool.not_false, Bool.true_xor, Bool.false_xor, eqv_int, eqv_str, eqv_bool, dp_int, dp_str, dp_bool, dp_none, al_int, al_str, min00, ne_int, ne_str, mapM_p, atD_zero, atD_one, atD_two, atD_three, PyData.isTuple, PyData.isInt, PyData.isStr, PyData.isBool, PyData.isList, PyData.isDict, Nat.reduceAdd, Int.cast_ofNat_Int, Int.reduceEq, Int.reduceAdd, Int.reduceSub, decide_true, decide_false, decide_eq_true_eq, ↓reduceIte, reduceCtorEq, ↓t__law_lot_bits_4]
    refine ⟨by omega, ?_⟩
    rw [Int.toNat_natCast]
    refine lp_range (fun k env S' => ∃ (bs : List Int) (e5 : Option D), env = [some (.r p), some (D.p (.int z)), some (.r a), e3, some (.r b), e5, none] ∧ S' = upS (upS (upS S p o') a (.lst (zs ls))) b (.lst (zs bs)) ∧ bs.length = k ∧ Bits bs) ⟨[], _, rfl, rfl, rfl, fun x hx => by simp at hx⟩ ?_ ?_
    · rintro k env S' De' hk ⟨bs, e5, rfl, rfl, hlen2, hbs⟩ hnx - - -
      have hsa : ∀ L, upS (upS (upS S p o') a (.lst (zs ls))) b L a = some (.lst (zs ls)) := fun L => by rw [upS_ne (Ne.symm hab), upS_same]
      simp only [↓dSeq, ↓dNext, ↓dSet, ↓dDrop, ↓dRet, ↓dRetN, ↓dIfS, ↓dAsg, ↓dBreak, ↓dCont, ↓dVar, ↓dC, ↓dOp, ↓dTB, ↓dtAnd, ↓dtOr, ↓dtNot, ↓dTru, ↓dAnd, ↓dOr, ↓dNot, ↓dIf, ↓dChain, ↓dCall, ↓dCB, ↓dCons, ↓dNil, ↓dStar, ↓dTup, ↓dLst, ↓dLstM, ↓dIsa, ↓dApp, ↓dNeg, ↓gdName, ↓gdTup, ↓gdCons, ↓gdNil, ↓gdSub, ↓rIx_tup, ↓rIx_str, ↓rIx_lst, ↓rIx_ref, ↓rSetL, ↓rSl, ↓dSl, ↓doNone, ↓doSome, ↓rAdd, ↓rSub, ↓rMul, ↓rMod, ↓rFdiv, ↓rPow, ↓rShl, ↓rShr, ↓rBand, ↓rBor, ↓rInt, ↓cInt, ↓cLen_tup, ↓cLen_str, ↓cLen_lst, ↓cLen_ref, ↓cTuple, ↓cSorted, ↓cMax2, ↓rEq, ↓rNe, ↓rLt, ↓rGt, ↓rLe, ↓rGe, ↓rOrd, ↓rIn, ↓rIs, ↓isNone, ↓truD, ↓frzAll, ↓diA, ↓diR1, ↓diR2, ↓dFor, ↓dLc, ↓dLcM, ↓dtYes, ↓wipeD, dat, datL, seqL, L2.CPow, List.getElem?_cons_zero, List.getElem?_cons_succ, List.set_cons_zero, List.set_cons_succ, List.length_cons, List.length_nil, List.map_cons, List.map_nil, upS_same, if_true, if_false, Bool.false_eq_true, true_and, and_true, Bool.not_true, Bool.not_false, Bool.true_xor, Bool.false_xor, eqv_int, eqv_str, eqv_bool, dp_int, dp_str, dp_bool, dp_none, al_int, al_str, min00, ne_int, ne_str, mapM_p, atD_zero, atD_one, atD_two, atD_three, PyData.isTuple, PyData.isInt, PyData.isStr, PyData.isBool, PyData.isList, PyData.isDict, Nat.reduceAdd, Int.cast_ofNat_Int, Int.reduceEq, Int.reduceAdd, Int.reduceSub, decide_true, decide_false, decide_eq_true_eq, ↓reduceIte, reduceCtorEq, ↓t__law_lot_bits_2, hsa]
      refine ⟨⟨_, rfl⟩, fun n hn => ?_⟩
      have hna : a ≠ n := fun e => by rw [← e, hsa] at hn; cases hn
      have hsa2 : ∀ L, upS (upS (upS (upS S p o') a (.lst (zs ls))) b (.lst (zs bs))) n L a = some (.lst (zs ls)) := fun L => by rw [upS_ne hna, hsa]
      simp only [↓dSeq, ↓dNext, ↓dSet, ↓dDrop, ↓dRet, ↓dRetN, ↓dIfS, ↓dAsg, ↓dBreak, ↓dCont, ↓dVar, ↓dC, ↓dOp, ↓dTB, ↓dtAnd, ↓dtOr, ↓dtNot, ↓dTru, ↓dAnd, ↓dOr, ↓dNot, ↓dIf, ↓dChain, ↓dCall, ↓dCB, ↓dCons, ↓dNil, ↓dStar, ↓dTup, ↓dLst, ↓dLstM, ↓dIsa, ↓dApp, ↓dNeg, ↓gdName, ↓gdTup, ↓gdCons, ↓gdNil, ↓gdSub, ↓rIx_tup, ↓rIx_str, ↓rIx_lst, ↓rIx_ref, ↓rSetL, ↓rSl, ↓dSl, ↓doNone, ↓doSome, ↓rAdd, ↓rSub, ↓rMul, ↓rMod, ↓rFdiv, ↓rPow, ↓rShl, ↓rShr, ↓rBand, ↓rBor, ↓rInt, ↓cInt, ↓cLen_tup, ↓cLen_str, ↓cLen_lst, ↓cLen_ref, ↓cTuple, ↓cSorted, ↓cMax2, ↓rEq, ↓rNe, ↓rLt, ↓rGt, ↓rLe, ↓rGe, ↓rOrd, ↓rIn, ↓rIs, ↓isNone, ↓truD, ↓frzAll, ↓diA, ↓diR1, ↓diR2, ↓dFor, ↓dLc, ↓dLcM, ↓dtYes, ↓wipeD, dat, datL, seqL, L2.CPow, List.getElem?_cons_zero, List.getElem?_cons_succ, List.set_cons_zero, List.set_cons_succ, List.length_cons, List.length_nil, List.map_cons, List.map_nil, upS_same, if_true, if_false, Bool.false_eq_true, true_and, and_true, Bool.not_true, Bool.not_false, Bool.true_xor, Bool.false_xor, eqv_int, eqv_str, eqv_bool, dp_int, dp_str, dp_bool, dp_none, al_int, al_str, min00, ne_int, ne_str, mapM_p, atD_zero, atD_one, atD_two, atD_three, PyData.isTuple, PyData.isInt, PyData.isStr, PyData.isBool, PyData.isList, PyData.isDict, Nat.reduceAdd, Int.cast_ofNat_Int, Int.reduceEq, Int.reduceAdd, Int.reduceSub, decide_true, decide_false, decide_eq_true_eq, ↓reduceIte, reduceCtorEq, hsa2]
      refine (lc_pure (fun d => match d with | .p (.int l) => decide (Builtin.bitAnd l (0 + (k : Int)) = 0) | _ => false) (fun d => match d with | .p d => d | .r _ => .none) hn (by rw [zs_len]; exact smallL (by omega)) (fun acc => by show _ = _; simp only [hsa2]) ?_ ?_).2
      · intro x hx acc R R' hq
        obtain ⟨i, hi⟩ := List.getElem?_of_mem hx
        obtain ⟨v, _, rfl⟩ := zs_getD hi
        simp only [↓dSeq, ↓dNext, ↓dSet, ↓dDrop, ↓dRet, ↓dRetN, ↓dIfS, ↓dAsg, ↓dBreak, ↓dCont, ↓dVar, ↓dC, ↓dOp, ↓dTB, ↓dtAnd, ↓dtOr, ↓dtNot, ↓dTru, ↓dAnd, ↓dOr, ↓dNot, ↓dIf, ↓dChain, ↓dCall, ↓dCB, ↓dCons, ↓dNil, ↓dStar, ↓dTup, ↓dLst, ↓dLstM, ↓dIsa, ↓dApp, ↓dNeg, ↓gdName, ↓gdTup, ↓gdCons, ↓gdNil, ↓gdSub, ↓rIx_tup, ↓rIx_str, ↓rIx_lst, ↓rIx_ref, ↓rSetL, ↓rSl, ↓dSl, ↓doNone, ↓doSome, ↓rAdd, ↓rSub, ↓rMul, ↓rMod, ↓rFdiv, ↓rPow, ↓rShl, ↓rShr, ↓rBand, ↓rBor, ↓rInt, ↓cInt, ↓cLen_tup, ↓cLen_str, ↓cLen_lst, ↓cLen_ref, ↓cTuple, ↓cSorted, ↓cMax2, ↓rEq, ↓rNe, ↓rLt, ↓rGt, ↓rLe, ↓rGe, ↓rOrd, ↓rIn, ↓rIs, ↓isNone, ↓truD, ↓frzAll, ↓diA, ↓diR1, ↓diR2, ↓dFor, ↓dLc, ↓dLcM, ↓dtYes, ↓wipeD, dat, datL, seqL, L2.CPow, List.getElem?_cons_zero, List.getElem?_cons_succ, List.set_cons_zero, List.set_cons_succ, List.length_cons, List.length_nil, List.map_cons, List.map_nil, upS_same, if_true, if_false, Bool.false_eq_true, true_and, and_true, Bool.not_true, Bool.not_false, Bool.true_xor, Bool.false_xor, eqv_int, eqv_str, eqv_bool, dp_int, dp_str, dp_bool, dp_none, al_int, al_str, min00, ne_int, ne_str, mapM_p, atD_zero, atD_one, atD_two, atD_three, PyData.isTuple, PyData.isInt, PyData.isStr, PyData.isBool, PyData.isList, PyData.isDict, Nat.reduceAdd, Int.cast_ofNat_Int, Int.reduceEq, Int.reduceAdd, Int.reduceSub, decide_true, decide_false, decide_eq_true_eq, ↓reduceIte, reduceCtorEq]
        simpa using hq
      · simp only [↓dSeq, ↓dNext, ↓dSet, ↓dDrop, ↓dRet, ↓dRetN, ↓dIfS, ↓dAsg, ↓dBreak, ↓dCont, ↓dVar, ↓dC, ↓dOp, ↓dTB, ↓dtAnd, ↓dtOr, ↓dtNot, ↓dTru, ↓dAnd, ↓dOr, ↓dNot, ↓dIf, ↓dChain, ↓dCall, ↓dCB, ↓dCons, ↓dNil, ↓dStar, ↓dTup, ↓dLst, ↓dLstM, ↓dIsa, ↓dApp, ↓dNeg, ↓gdName, ↓gdTup, ↓gdCons, ↓gdNil, ↓gdSub, ↓rIx_tup, ↓rIx_str, ↓rIx_lst, ↓rIx_ref, ↓rSetL, ↓rSl, ↓dSl, ↓doNone, ↓doSome, ↓rAdd, ↓rSub, ↓rMul, ↓rMod, ↓rFdiv, ↓rPow, ↓rShl, ↓rShr, ↓rBand, ↓rBor, ↓rInt, ↓cInt, ↓cLen_tup, ↓cLen_str, ↓cLen_lst, ↓cLen_ref, ↓cTuple, ↓cSorted, ↓cMax2, ↓rEq, ↓rNe, ↓rLt, ↓rGt, ↓rLe, ↓rGe, ↓rOrd, ↓rIn, ↓rIs, ↓isNone, ↓truD, ↓frzAll, ↓diA, ↓diR1, ↓diR2, ↓dFor, ↓dLc, ↓dLcM, ↓dtYes, ↓wipeD, dat, datL, seqL, L2.CPow, List.getElem?_cons_zero, List.getElem?_cons_succ, List.set_cons_zero, List.set_cons_succ, List.length_cons, List.length_nil, List.map_cons, List.map_nil, upS_same, if_true, if_false, Bool.false_eq_true, true_and, and_true, Bool.not_true, Bool.not_false, Bool.true_xor, Bool.false_xor, eqv_int, eqv_str, eqv_bool, dp_int, dp_str, dp_bool, dp_none, al_int, al_str, min00, ne_int, ne_str, mapM_p, atD_zero, atD_one, atD_two, atD_three, PyData.isTuple, PyData.isInt, PyData.isStr, PyData.isBool, PyData.isList, PyData.isDict, Nat.reduceAdd, Int.cast_ofNat_Int, Int.reduceEq, Int.reduceAdd, Int.reduceSub, decide_true, decide_false, decide_eq_true_eq, ↓reduceIte, reduceCtorEq, PyData.depth]
        refine ⟨by decide, min_le60' (by decide), ?_⟩
        generalize hg : (!PyData.eqv _ (PyData.list [])) = g
        have fin : ∀ v : Int, v = 0 ∨ v = 1 → De'.nx [some (.r p), some (D.p (.int z)), some (.r a), e3, some (.r b), some (D.p (.int (0 + (k : Int)))), none] (upS (upS (upS (upS S p o') a (.lst (zs ls))) b (.lst (zs bs))) b (.lst (zs bs ++ [D.p (.int v)]))) := fun v hv => by
          refine hnx _ _ trivial ⟨bs ++ [v], _, rfl, by rw [upS_upS, zs_snoc], by simp [hlen2], fun x hx => ?_⟩
          rcases List.mem_append.mp hx with hx | hx
          · exact hbs x hx
          · rw [List.mem_singleton.mp hx]; exact hv
        cases g
        · simp only [↓dSeq, ↓dNext, ↓dSet, ↓dDrop, ↓dRet, ↓dRetN, ↓dIfS, ↓dAsg, ↓dBreak, ↓dCont, ↓dVar, ↓dC, ↓dOp, ↓dTB, ↓dtAnd, ↓dtOr, ↓dtNot, ↓dTru, ↓dAnd, ↓dOr, ↓dNot, ↓dIf, ↓dChain, ↓dCall, ↓dCB, ↓dCons, ↓dNil, ↓dStar, ↓dTup, ↓dLst, ↓dLstM, ↓dIsa, ↓dApp, ↓dNeg, ↓gdName, ↓gdTup, ↓gdCons, ↓gdNil, ↓gdSub, ↓rIx_tup, ↓rIx_str, ↓rIx_lst, ↓rIx_ref, ↓rSetL, ↓rSl, ↓dSl, ↓doNone, ↓doSome, ↓rAdd, ↓rSub, ↓rMul, ↓rMod, ↓rFdiv, ↓rPow, ↓rShl, ↓rShr, ↓rBand, ↓rBor, ↓rInt, ↓cInt, ↓cLen_tup, ↓cLen_str, ↓cLen_lst, ↓cLen_ref, ↓cTuple, ↓cSorted, ↓cMax2, ↓rEq, ↓rNe, ↓rLt, ↓rGt, ↓rLe, ↓rGe, ↓rOrd, ↓rIn, ↓rIs, ↓isNone, ↓truD, ↓frzAll, ↓diA, ↓diR1, ↓diR2, ↓dFor, ↓dLc, ↓dLcM, ↓dtYes, ↓wipeD, dat, datL, seqL, L2.CPow, List.getElem?_cons_zero, List.getElem?_cons_succ, List.set_cons_zero, List.set_cons_succ, List.length_cons, List.length_nil, List.map_cons, List.map_nil, upS_same, if_true, if_false, Bool.false_eq_true, true_and, and_true, Bool.not_true, Bool.not_false, Bool.true_xor, Bool.false_xor, eqv_int, eqv_str, eqv_bool, dp_int, dp_str, dp_bool, dp_none, al_int, al_str, min00, ne_int, ne_str, mapM_p, atD_zero, atD_one, atD_two, atD_three, PyData.isTuple, PyData.isInt, PyData.isStr, PyData.isBool, PyData.isList, PyData.isDict, Nat.reduceAdd, Int.cast_ofNat_Int, Int.reduceEq, Int.reduceAdd, Int.reduceSub, decide_true, decide_false, decide_eq_true_eq, ↓reduceIte, reduceCtorEq, zs_len]
          exact ⟨smallL (by omega), fin 0 (.inl rfl)⟩
        · simp only [↓dSeq, ↓dNext, ↓dSet, ↓dDrop, ↓dRet, ↓dRetN, ↓dIfS, ↓dAsg, ↓dBreak, ↓dCont, ↓dVar, ↓dC, ↓dOp, ↓dTB, ↓dtAnd, ↓dtOr, ↓dtNot, ↓dTru, ↓dAnd, ↓dOr, ↓dNot, ↓dIf, ↓dChain, ↓dCall, ↓dCB, ↓dCons, ↓dNil, ↓dStar, ↓dTup, ↓dLst, ↓dLstM, ↓dIsa, ↓dApp, ↓dNeg, ↓gdName, ↓gdTup, ↓gdCons, ↓gdNil, ↓gdSub, ↓rIx_tup, ↓rIx_str, ↓rIx_lst, ↓rIx_ref, ↓rSetL, ↓rSl, ↓dSl, ↓doNone, ↓doSome, ↓rAdd, ↓rSub, ↓rMul, ↓rMod, ↓rFdiv, ↓rPow, ↓rShl, ↓rShr, ↓rBand, ↓rBor, ↓rInt, ↓cInt, ↓cLen_tup, ↓cLen_str, ↓cLen_lst, ↓cLen_ref, ↓cTuple, ↓cSorted, ↓cMax2, ↓rEq, ↓rNe, ↓rLt, ↓rGt, ↓rLe, ↓rGe, ↓rOrd, ↓rIn, ↓rIs, ↓isNone, ↓truD, ↓frzAll, ↓diA, ↓diR1, ↓diR2, ↓dFor, ↓dLc, ↓dLcM, ↓dtYes, ↓wipeD, dat, datL, seqL, L2.CPow, List.getElem?_cons_zero, List.getElem?_cons_succ, List.set_cons_zero, List.set_cons_succ, List.length_cons, List.length_nil, List.map_cons, List.map_nil, upS_same, if_true, if_false, Bool.false_eq_true, true_and, and_true, Bool.not_true, Bool.not_false, Bool.true_xor, Bool.false_xor, eqv_int, eqv_str, eqv_bool, dp_int, dp_str, dp_bool, dp_none, al_int, al_str, min00, ne_int, ne_str, mapM_p, atD_zero, atD_one, atD_two, atD_three, PyData.isTuple, PyData.isInt, PyData.isStr, PyData.isBool, PyData.isList, PyData.isDict, Nat.reduceAdd, Int.cast_ofNat_Int, Int.reduceEq, Int.reduceAdd, Int.reduceSub, decide_true, decide_false, decide_eq_true_eq, ↓reduceIte, reduceCtorEq, zs_len]
          exact ⟨smallL (by omega), fin 1 (.inr rfl)⟩
    · rintro env S' ⟨bs, e5, rfl, rfl, hlen2, hbs⟩
      simp only [↓dSeq, ↓dNext, ↓dSet, ↓dDrop, ↓dRet, ↓dRetN, ↓dIfS, ↓dAsg, ↓dBreak, ↓dCont, ↓dVar, ↓dC, ↓dOp, ↓dTB, ↓dtAnd, ↓dtOr, ↓dtNot, ↓dTru, ↓dAnd, ↓dOr, ↓dNot, ↓dIf, ↓dChain, ↓dCall, ↓dCB, ↓dCons, ↓dNil, ↓dStar, ↓dTup, ↓dLst, ↓dLstM, ↓dIsa, ↓dApp, ↓dNeg, ↓gdName, ↓gdTup, ↓gdCons, ↓gdNil, ↓gdSub, ↓rIx_tup, ↓rIx_str, ↓rIx_lst, ↓rIx_ref, ↓rSetL, ↓rSl, ↓dSl, ↓doNone, ↓doSome, ↓rAdd, ↓rSub, ↓rMul, ↓rMod, ↓rFdiv, ↓rPow, ↓rShl, ↓rShr, ↓rBand, ↓rBor, ↓rInt, ↓cInt, ↓cLen_tup, ↓cLen_str, ↓cLen_lst, ↓cLen_ref, ↓cTuple, ↓cSorted, ↓cMax2, ↓rEq, ↓rNe, ↓rLt, ↓rGt, ↓rLe, ↓rGe, ↓rOrd, ↓rIn, ↓rIs, ↓isNone, ↓truD, ↓frzAll, ↓diA, ↓diR1, ↓diR2, ↓dFor, ↓dLc, ↓dLcM, ↓dtYes, ↓wipeD, dat, datL, seqL, L2.CPow, List.getElem?_cons_zero, List.getElem?_cons_succ, List.set_cons_zero, List.set_cons_succ, List.length_cons, List.length_nil, List.map_cons, List.map_nil, upS_same, if_true, if_false, Bool.false_eq_true, true_and, and_true, Bool.not_true, Bool.not_false, Bool.true_xor, Bool.false_xor, eqv_int, eqv_str, eqv_bool, dp_int, dp_str, dp_bool, dp_none, al_int, al_str, min00, ne_int, ne_str, mapM_p, atD_zero, atD_one, atD_two, atD_three, PyData.isTuple, PyData.isInt, PyData.isStr, PyData.isBool, PyData.isList, PyData.isDict, Nat.reduceAdd, Int.cast_ofNat_Int, Int.reduceEq, Int.reduceAdd, Int.reduceSub, decide_true, decide_false, decide_eq_true_eq, ↓reduceIte, reduceCtorEq, ↓t__law_lot_bits_3]
      refine Fin.lst upS_same (hQ bs o' hlen2 hbs ho') hb1 fun n o h => ?_
      have h1 : n ≠ b := fun e => by rw [e, hb1] at h; cases h
      have h2 : n ≠ a := fun e => by rw [e, upS_ne (Ne.symm hap), ha] at h; cases h
      rw [upS_ne h1, upS_ne h2]
      exact h
theorem c_bits {p m : Nat} {o : MO} {S : Sto} {Q : DQ} (hm : m ≤ 10) (hS : S p = some o) (ho : PoolO o) (h : ∀ bs o', bs.length = 2 ^ m → Bits bs → PoolO o' → Q (D.p (.list (bs.map .int))) (upS S p o')) : sp_bits [.r p, D.p (.int ((2 ^ m : Nat) : Int))] S Q := ⟨p, o, m, rfl, hm, hS, ho, h⟩
end Sh

set_option Elab.async false
set_option linter.all false
set_option autoImplicit false
set_option maxRecDepth 100000
set_option maxHeartbeats 2000000
/-! Sx, part D: ten names; positive papers -/
namespace Sh
open PySem Tx Mx

/-! ### many_names -/
def sp_many_names : DSp := fun ds S Q => ∃ p o c, ds = [.r p, D.p (.int c)] ∧ 0 ≤ c ∧ c ≤ 50 ∧ S p = some o ∧ PoolO o ∧ ∀ ns o', Asc ns → (ns.length : Int) = c → PoolO o' → Q (D.p (.list (ns.map Nm.enc))) (upS S p o')
theorem c_many_names {p : Nat} {c : Int} {o : MO} {S : Sto} {Q : DQ} (hS : S p = some o) (ho : PoolO o) (h0 : 0 ≤ c) (h1 : c ≤ 50) (h : ∀ ns o', Asc ns → (ns.length : Int) = c → PoolO o' → Q (D.p (.list (ns.map Nm.enc))) (upS S p o')) : sp_many_names [.r p, D.p (.int c)] S Q :=
  ⟨p, o, c, rfl, h0, h1, hS, ho, h⟩
theorem owner6_ex {i : Nat} (h : i < 6) : ∃ x : Str, ([D.p (.str ""), D.p (.str "bob"), D.p (.str "eve"), D.p (.str "ab"), D.p (.str "abcdef"), D.p (.str "zz")] : List D)[i]? = some (D.p (.str x)) := by
  have : i = 0 ∨ i = 1 ∨ i = 2 ∨ i = 3 ∨ i = 4 ∨ i = 5 := by omega
  rcases this with rfl | rfl | rfl | rfl | rfl | rfl <;> exact ⟨_, rfl⟩
theorem hs_many_names (ds : List D) (S : Sto) (Q : DQ) (hl : ds.length = 2) (h : sp_many_names ds S Q) : t__law_many_names sp_take { nx := fun _ S' => Fin Q (.p .none) S', rt := Fin Q } (dstart 8 ds) S := by
  obtain ⟨p, o, c, rfl, hc0, hc1, hS, ho, hQ⟩ := h
  show t__law_many_names _ _ [some (.r p), some (D.p (.int c)), none, none, none, none, none, none] S
  simp only [↓dSeq, ↓dNext, ↓dSet, ↓dDrop, ↓dRet, ↓dRetN, ↓dIfS, ↓dAsg, ↓dBreak, ↓dCont, ↓dVar, ↓dC, ↓dOp, ↓dTB, ↓dtAnd, ↓dtOr, ↓dtNot, ↓dTru, ↓dAnd, ↓dOr, ↓dNot, ↓dIf, ↓dChain, ↓dCall, ↓dCB, ↓dCons, ↓dNil, ↓dStar, ↓dTup, ↓dLst, ↓dLstM, ↓dIsa, ↓dApp, ↓dNeg, ↓gdName, ↓gdTup, ↓gdCons, ↓gdNil, ↓gdSub, ↓rIx_tup, ↓rIx_str, ↓rIx_lst, ↓rIx_ref, ↓rSetL, ↓rSl, ↓dSl, ↓doNone, ↓doSome, ↓rAdd, ↓rSub, ↓rMul, ↓rMod, ↓rFdiv, ↓rPow, ↓rShl, ↓rShr, ↓rBand, ↓rBor, ↓rInt, ↓cInt, ↓cLen_tup, ↓cLen_str, ↓cLen_lst, ↓cLen_ref, ↓cTuple, ↓cSorted, ↓cMax2, ↓rEq, ↓rNe, ↓rLt, ↓rGt, ↓rLe, ↓rGe, ↓rOrd, ↓rIn, ↓rIs, ↓isNone, ↓truD, ↓frzAll, ↓diA, ↓diR1, ↓diR2, ↓dFor, ↓dLc, ↓dLcM, ↓dtYes, ↓wipeD, dat, datL, seqL, L2.CPow, List.getElem?_cons_zero, List.getElem?_cons_succ, List.set_cons_zero, List.set_cons_succ, List.length_cons, List.length_nil, List.map_cons, List.map_nil, upS_same, if_true, if_false, Bool.false_eq_true, true_and, and_true, Bool.not_true, Bool.not_false, Bool.true_xor, Bool.false_xor, eqv_int, eqv_str, eqv_bool, dp_int, dp_str, dp_bool, dp_none, al_int, al_str, min00, ne_int, ne_str, mapM_p, atD_zero, atD_one, atD_two, atD_three, PyData.isTuple, PyData.isInt, PyData.isStr, PyData.isBool, PyData.isList, PyData.isDict, Nat.reduceAdd, Int.cast_ofNat_Int, Int.reduceEq, Int.reduceAdd, Int.reduceSub, decide_true, decide_false, decide_eq_true_eq, ↓reduceIte, reduceCtorEq, ↓t__law_many_names]
  refine ⟨by decide, ?_⟩
  simp only [↓dSeq, ↓dNext, ↓dSet, ↓dDrop, ↓dRet, ↓dRetN, ↓dIfS, ↓dAsg, ↓dBreak, ↓dCont, ↓dVar, ↓dC, ↓dOp, ↓dTB, ↓dtAnd, ↓dtOr, ↓dtNot, ↓dTru, ↓dAnd, ↓dOr, ↓dNot, ↓dIf, ↓dChain, ↓dCall, ↓dCB, ↓dCons, ↓dNil, ↓dStar, ↓dTup, ↓dLst, ↓dLstM, ↓dIsa, ↓dApp, ↓dNeg, ↓gdName, ↓gdTup, ↓gdCons, ↓gdNil, ↓gdSub, ↓rIx_tup, ↓rIx_str, ↓rIx_lst, ↓rIx_ref, ↓rSetL, ↓rSl, ↓dSl, ↓doNone, ↓doSome, ↓rAdd, ↓rSub, ↓rMul, ↓rMod, ↓rFdiv, ↓rPow, ↓rShl, ↓rShr, ↓rBand, ↓rBor, ↓rInt, ↓cInt, ↓cLen_tup, ↓cLen_str, ↓cLen_lst, ↓cLen_ref, ↓cTuple, ↓cSorted, ↓cMax2, ↓rEq, ↓rNe, ↓rLt, ↓rGt, ↓rLe, ↓rGe, ↓rOrd, ↓rIn, ↓rIs, ↓isNone, ↓truD, ↓frzAll, ↓diA, ↓diR1, ↓diR2, ↓dFor, ↓dLc, ↓dLcM, ↓dtYes, ↓wipeD, dat, datL, seqL, L2.CPow, List.getElem?_cons_zero, List.getElem?_cons_succ, List.set_cons_zero, List.set_cons_succ, List.length_cons, List.length_nil, List.map_cons, List.map_nil, upS_same, if_true, if_false, Bool.false_eq_true, true_and, and_true, Bool.not_true, Bool.not_false, Bool.true_xor, Bool.false_xor, eqv_int, eqv_str, eqv_bool, dp_int, dp_str, dp_bool, dp_none, al_int, al_str, min00, ne_int, ne_str, mapM_p, atD_zero, atD_one, atD_two, atD_three, PyData.isTuple, PyData.isInt, PyData.isStr, PyData.isBool, PyData.isList, PyData.isDict, Nat.reduceAdd, Int.cast_ofNat_Int, Int.reduceEq, Int.reduceAdd, Int.reduceSub, decide_true, decide_false, decide_eq_true_eq, ↓reduceIte, reduceCtorEq, ↓t__law_many_names_7]
  refine c_take hS ho fun start o2 _ _ ho2 => ?_
  simp only [↓dSeq, ↓dNext, ↓dSet, ↓dDrop, ↓dRet, ↓dRetN, ↓dIfS, ↓dAsg, ↓dBreak, ↓dCont, ↓dVar, ↓dC, ↓dOp, ↓dTB, ↓dtAnd, ↓dtOr, ↓dtNot, ↓dTru, ↓dAnd, ↓dOr, ↓dNot, ↓dIf, ↓dChain, ↓dCall, ↓dCB, ↓dCons, ↓dNil, ↓dStar, ↓dTup, ↓dLst, ↓dLstM, ↓dIsa, ↓dApp, ↓dNeg, ↓gdName, ↓gdTup, ↓gdCons, ↓gdNil, ↓gdSub, ↓rIx_tup, ↓rIx_str, ↓rIx_lst, ↓rIx_ref, ↓rSetL, ↓rSl, ↓dSl, ↓doNone, ↓doSome, ↓rAdd, ↓rSub, ↓rMul, ↓rMod, ↓rFdiv, ↓rPow, ↓rShl, ↓rShr, ↓rBand, ↓rBor, ↓rInt, ↓cInt, ↓cLen_tup, ↓cLen_str, ↓cLen_lst, ↓cLen_ref, ↓cTuple, ↓cSorted, ↓cMax2, ↓rEq, ↓rNe, ↓rLt, ↓rGt, ↓rLe, ↓rGe, ↓rOrd, ↓rIn, ↓rIs, ↓isNone, ↓truD, ↓frzAll, ↓diA, ↓diR1, ↓diR2, ↓dFor, ↓dLc, ↓dLcM, ↓dtYes, ↓wipeD, dat, datL, seqL, L2.CPow, List.getElem?_cons_zero, List.getElem?_cons_succ, List.set_cons_zero, List.set_cons_succ, List.length_cons, List.length_nil, List.map_cons, List.map_nil, upS_same, if_true, if_false, Bool.false_eq_true, true_and, and_true, Bool.not_true, Bool.not_false, Bool.true_xor, Bool.false_xor, eqv_int, eqv_str, eqv_bool, dp_int, dp_str, dp_bool, dp_none, al_int, al_str, min00, ne_int, ne_str, mapM_p, atD_zero, atD_one, atD_two, atD_three, PyData.isTuple, PyData.isInt, PyData.isStr, PyData.isBool, PyData.isList, PyData.isDict, Nat.reduceAdd, Int.cast_ofNat_Int, Int.reduceEq, Int.reduceAdd, Int.reduceSub, decide_true, decide_false, decide_eq_true_eq, ↓reduceIte, reduceCtorEq, ↓t__law_many_names_6]
  refine ⟨by decide, fun m hm => ?_⟩
  obtain ⟨hpm, hm0⟩ := fresh2 hm
  simp only [↓dSeq, ↓dNext, ↓dSet, ↓dDrop, ↓dRet, ↓dRetN, ↓dIfS, ↓dAsg, ↓dBreak, ↓dCont, ↓dVar, ↓dC, ↓dOp, ↓dTB, ↓dtAnd, ↓dtOr, ↓dtNot, ↓dTru, ↓dAnd, ↓dOr, ↓dNot, ↓dIf, ↓dChain, ↓dCall, ↓dCB, ↓dCons, ↓dNil, ↓dStar, ↓dTup, ↓dLst, ↓dLstM, ↓dIsa, ↓dApp, ↓dNeg, ↓gdName, ↓gdTup, ↓gdCons, ↓gdNil, ↓gdSub, ↓rIx_tup, ↓rIx_str, ↓rIx_lst, ↓rIx_ref, ↓rSetL, ↓rSl, ↓dSl, ↓doNone, ↓doSome, ↓rAdd, ↓rSub, ↓rMul, ↓rMod, ↓rFdiv, ↓rPow, ↓rShl, ↓rShr, ↓rBand, ↓rBor, ↓rInt, ↓cInt, ↓cLen_tup, ↓cLen_str, ↓cLen_lst, ↓cLen_ref, ↓cTuple, ↓cSorted, ↓cMax2, ↓rEq, ↓rNe, ↓rLt, ↓rGt, ↓rLe, ↓rGe, ↓rOrd, ↓rIn, ↓rIs, ↓isNone, ↓truD, ↓frzAll, ↓diA, ↓diR1, ↓diR2, ↓dFor, ↓dLc, ↓dLcM, ↓dtYes, ↓wipeD, dat, datL, seqL, L2.CPow, List.getElem?_cons_zero, List.getElem?_cons_succ, List.set_cons_zero, List.set_cons_succ, List.length_cons, List.length_nil, List.map_cons, List.map_nil, upS_same, if_true, if_false, Bool.false_eq_true, true_and, and_true, Bool.not_true, Bool.not_false, Bool.true_xor, Bool.false_xor, eqv_int, eqv_str, eqv_bool, dp_int, dp_str, dp_bool, dp_none, al_int, al_str, min00, ne_int, ne_str, mapM_p, atD_zero, atD_one, atD_two, atD_three, PyData.isTuple, PyData.isInt, PyData.isStr, PyData.isBool, PyData.isList, PyData.isDict, Nat.reduceAdd, Int.cast_ofNat_Int, Int.reduceEq, Int.reduceAdd, Int.reduceSub, decide_true, decide_false, decide_eq_true_eq, ↓reduceIte, reduceCtorEq, ↓t__law_many_names_5]
  refine ⟨by omega, ?_⟩
  generalize hown : D.p (PyData.list [PyData.str "", PyData.str "bob", PyData.str "eve", PyData.str "ab", PyData.str "abcdef", PyData.str "zz"]) = own
  refine lp_range (fun k env S' => ∃ o' ns e5 e6 e7, env = [some (.r p), some (D.p (.int c)), some own, some (D.p (.int start)), some (.r m), e5, e6, e7] ∧ S' = upS (upS S p o') m (.lst ((List.map Nm.enc ns).map D.p)) ∧ PoolO o' ∧ ns.Nodup ∧ ns.length = k ∧ ∀ a ∈ ns, ∃ j : Nat, j < k ∧ a.n = (start + 7 * (0 + (j : Int))) % 60) ⟨o2, [], none, none, none, rfl, rfl, ho2, List.nodup_nil, by simp, fun a ha => by simp at ha⟩ ?_ ?_
  · rintro k env S' De' hk ⟨o', ns, e5, e6, e7, rfl, rfl, ho', hnd, hlen, hnum⟩ hnx - - -
    have hkc : (k : Int) < c := by omega
    simp only [↓dSeq, ↓dNext, ↓dSet, ↓dDrop, ↓dRet, ↓dRetN, ↓dIfS, ↓dAsg, ↓dBreak, ↓dCont, ↓dVar, ↓dC, ↓dOp, ↓dTB, ↓dtAnd, ↓dtOr, ↓dtNot, ↓dTru, ↓dAnd, ↓dOr, ↓dNot, ↓dIf, ↓dChain, ↓dCall, ↓dCB, ↓dCons, ↓dNil, ↓dStar, ↓dTup, ↓dLst, ↓dLstM, ↓dIsa, ↓dApp, ↓dNeg, ↓gdName, ↓gdTup, ↓gdCons, ↓gdNil, ↓gdSub, ↓rIx_tup, ↓rIx_str, ↓rIx_lst, ↓rIx_ref, ↓rSetL, ↓rSl, ↓dSl, ↓doNone, ↓doSome, ↓rAdd, ↓rSub, ↓rMul, ↓rMod, ↓rFdiv, ↓rPow, ↓rShl, ↓rShr, ↓rBand, ↓rBor, ↓rInt, ↓cInt, ↓cLen_tup, ↓cLen_str, ↓cLen_lst, ↓cLen_ref, ↓cTuple, ↓cSorted, ↓cMax2, ↓rEq, ↓rNe, ↓rLt, ↓rGt, ↓rLe, ↓rGe, ↓rOrd, ↓rIn, ↓rIs, ↓isNone, ↓truD, ↓frzAll, ↓diA, ↓diR1, ↓diR2, ↓dFor, ↓dLc, ↓dLcM, ↓dtYes, ↓wipeD, dat, datL, seqL, L2.CPow, List.getElem?_cons_zero, List.getElem?_cons_succ, List.set_cons_zero, List.set_cons_succ, List.length_cons, List.length_nil, List.map_cons, List.map_nil, upS_same, if_true, if_false, Bool.false_eq_true, true_and, and_true, Bool.not_true, Bool.not_false, Bool.true_xor, Bool.false_xor, eqv_int, eqv_str, eqv_bool, dp_int, dp_str, dp_bool, dp_none, al_int, al_str, min00, ne_int, ne_str, mapM_p, atD_zero, atD_one, atD_two, atD_three, PyData.isTuple, PyData.isInt, PyData.isStr, PyData.isBool, PyData.isList, PyData.isDict, Nat.reduceAdd, Int.cast_ofNat_Int, Int.reduceEq, Int.reduceAdd, Int.reduceSub, decide_true, decide_false, decide_eq_true_eq, ↓reduceIte, reduceCtorEq, ↓t__law_many_names_3]
    refine c_take (at2 hpm) ho' fun d o5 _ _ ho5 => ?_
    rw [up2 hpm]
    simp only [↓dSeq, ↓dNext, ↓dSet, ↓dDrop, ↓dRet, ↓dRetN, ↓dIfS, ↓dAsg, ↓dBreak, ↓dCont, ↓dVar, ↓dC, ↓dOp, ↓dTB, ↓dtAnd, ↓dtOr, ↓dtNot, ↓dTru, ↓dAnd, ↓dOr, ↓dNot, ↓dIf, ↓dChain, ↓dCall, ↓dCB, ↓dCons, ↓dNil, ↓dStar, ↓dTup, ↓dLst, ↓dLstM, ↓dIsa, ↓dApp, ↓dNeg, ↓gdName, ↓gdTup, ↓gdCons, ↓gdNil, ↓gdSub, ↓rIx_tup, ↓rIx_str, ↓rIx_lst, ↓rIx_ref, ↓rSetL, ↓rSl, ↓dSl, ↓doNone, ↓doSome, ↓rAdd, ↓rSub, ↓rMul, ↓rMod, ↓rFdiv, ↓rPow, ↓rShl, ↓rShr, ↓rBand, ↓rBor, ↓rInt, ↓cInt, ↓cLen_tup, ↓cLen_str, ↓cLen_lst, ↓cLen_ref, ↓cTuple, ↓cSorted, ↓cMax2, ↓rEq, ↓rNe, ↓rLt, ↓rGt, ↓rLe, ↓rGe, ↓rOrd, ↓rIn, ↓rIs, ↓isNone, ↓truD, ↓frzAll, ↓diA, ↓diR1, ↓diR2, ↓dFor, ↓dLc, ↓dLcM, ↓dtYes, ↓wipeD, dat, datL, seqL, L2.CPow, List.getElem?_cons_zero, List.getElem?_cons_succ, List.set_cons_zero, List.set_cons_succ, List.length_cons, List.length_nil, List.map_cons, List.map_nil, upS_same, if_true, if_false, Bool.false_eq_true, true_and, and_true, Bool.not_true, Bool.not_false, Bool.true_xor, Bool.false_xor, eqv_int, eqv_str, eqv_bool, dp_int, dp_str, dp_bool, dp_none, al_int, al_str, min00, ne_int, ne_str, mapM_p, atD_zero, atD_one, atD_two, atD_three, PyData.isTuple, PyData.isInt, PyData.isStr, PyData.isBool, PyData.isList, PyData.isDict, Nat.reduceAdd, Int.cast_ofNat_Int, Int.reduceEq, Int.reduceAdd, Int.reduceSub, decide_true, decide_false, decide_eq_true_eq, ↓reduceIte, reduceCtorEq]
    obtain ⟨ch, hch⟩ := house_ex (i := ((d + (0 + (k : Int)) / 4) % 8).toNat) (by have := Int.emod_lt_of_pos (d + (0 + (k : Int)) / 4) (show (0 : Int) < 8 by omega); omega)
    refine ⟨⟨by decide, by decide⟩, by decide, by decide, ?_⟩
    simp only [↓dSeq, ↓dNext, ↓dSet, ↓dDrop, ↓dRet, ↓dRetN, ↓dIfS, ↓dAsg, ↓dBreak, ↓dCont, ↓dVar, ↓dC, ↓dOp, ↓dTB, ↓dtAnd, ↓dtOr, ↓dtNot, ↓dTru, ↓dAnd, ↓dOr, ↓dNot, ↓dIf, ↓dChain, ↓dCall, ↓dCB, ↓dCons, ↓dNil, ↓dStar, ↓dTup, ↓dLst, ↓dLstM, ↓dIsa, ↓dApp, ↓dNeg, ↓gdName, ↓gdTup, ↓gdCons, ↓gdNil, ↓gdSub, ↓rIx_tup, ↓rIx_str, ↓rIx_lst, ↓rIx_ref, ↓rSetL, ↓rSl, ↓dSl, ↓doNone, ↓doSome, ↓rAdd, ↓rSub, ↓rMul, ↓rMod, ↓rFdiv, ↓rPow, ↓rShl, ↓rShr, ↓rBand, ↓rBor, ↓rInt, ↓cInt, ↓cLen_tup, ↓cLen_str, ↓cLen_lst, ↓cLen_ref, ↓cTuple, ↓cSorted, ↓cMax2, ↓rEq, ↓rNe, ↓rLt, ↓rGt, ↓rLe, ↓rGe, ↓rOrd, ↓rIn, ↓rIs, ↓isNone, ↓truD, ↓frzAll, ↓diA, ↓diR1, ↓diR2, ↓dFor, ↓dLc, ↓dLcM, ↓dtYes, ↓wipeD, dat, datL, seqL, L2.CPow, List.getElem?_cons_zero, List.getElem?_cons_succ, List.set_cons_zero, List.set_cons_succ, List.length_cons, List.length_nil, List.map_cons, List.map_nil, upS_same, if_true, if_false, Bool.false_eq_true, true_and, and_true, Bool.not_true, Bool.not_false, Bool.true_xor, Bool.false_xor, eqv_int, eqv_str, eqv_bool, dp_int, dp_str, dp_bool, dp_none, al_int, al_str, min00, ne_int, ne_str, mapM_p, atD_zero, atD_one, atD_two, atD_three, PyData.isTuple, PyData.isInt, PyData.isStr, PyData.isBool, PyData.isList, PyData.isDict, Nat.reduceAdd, Int.cast_ofNat_Int, Int.reduceEq, Int.reduceAdd, Int.reduceSub, decide_true, decide_false, decide_eq_true_eq, ↓reduceIte, reduceCtorEq, atD_int (Int.emod_nonneg _ (by omega)) hch, ↓t__law_many_names_2]
    refine c_take (at2 hpm) ho5 fun d2 o6 _ _ ho6 => ?_
    rw [up2 hpm]
    simp only [↓dSeq, ↓dNext, ↓dSet, ↓dDrop, ↓dRet, ↓dRetN, ↓dIfS, ↓dAsg, ↓dBreak, ↓dCont, ↓dVar, ↓dC, ↓dOp, ↓dTB, ↓dtAnd, ↓dtOr, ↓dtNot, ↓dTru, ↓dAnd, ↓dOr, ↓dNot, ↓dIf, ↓dChain, ↓dCall, ↓dCB, ↓dCons, ↓dNil, ↓dStar, ↓dTup, ↓dLst, ↓dLstM, ↓dIsa, ↓dApp, ↓dNeg, ↓gdName, ↓gdTup, ↓gdCons, ↓gdNil, ↓gdSub, ↓rIx_tup, ↓rIx_str, ↓rIx_lst, ↓rIx_ref, ↓rSetL, ↓rSl, ↓dSl, ↓doNone, ↓doSome, ↓rAdd, ↓rSub, ↓rMul, ↓rMod, ↓rFdiv, ↓rPow, ↓rShl, ↓rShr, ↓rBand, ↓rBor, ↓rInt, ↓cInt, ↓cLen_tup, ↓cLen_str, ↓cLen_lst, ↓cLen_ref, ↓cTuple, ↓cSorted, ↓cMax2, ↓rEq, ↓rNe, ↓rLt, ↓rGt, ↓rLe, ↓rGe, ↓rOrd, ↓rIn, ↓rIs, ↓isNone, ↓truD, ↓frzAll, ↓diA, ↓diR1, ↓diR2, ↓dFor, ↓dLc, ↓dLcM, ↓dtYes, ↓wipeD, dat, datL, seqL, L2.CPow, List.getElem?_cons_zero, List.getElem?_cons_succ, List.set_cons_zero, List.set_cons_succ, List.length_cons, List.length_nil, List.map_cons, List.map_nil, upS_same, if_true, if_false, Bool.false_eq_true, true_and, and_true, Bool.not_true, Bool.not_false, Bool.true_xor, Bool.false_xor, eqv_int, eqv_str, eqv_bool, dp_int, dp_str, dp_bool, dp_none, al_int, al_str, min00, ne_int, ne_str, mapM_p, atD_zero, atD_one, atD_two, atD_three, PyData.isTuple, PyData.isInt, PyData.isStr, PyData.isBool, PyData.isList, PyData.isDict, Nat.reduceAdd, Int.cast_ofNat_Int, Int.reduceEq, Int.reduceAdd, Int.reduceSub, decide_true, decide_false, decide_eq_true_eq, ↓reduceIte, reduceCtorEq]
    refine ⟨by decide, ?_⟩
    subst own
    obtain ⟨x, hx⟩ := owner6_ex (i := ((d2 + (0 + (k : Int))) % 6).toNat) (by have := Int.emod_lt_of_pos (d2 + (0 + (k : Int))) (show (0 : Int) < 6 by omega); omega)
    simp only [↓dSeq, ↓dNext, ↓dSet, ↓dDrop, ↓dRet, ↓dRetN, ↓dIfS, ↓dAsg, ↓dBreak, ↓dCont, ↓dVar, ↓dC, ↓dOp, ↓dTB, ↓dtAnd, ↓dtOr, ↓dtNot, ↓dTru, ↓dAnd, ↓dOr, ↓dNot, ↓dIf, ↓dChain, ↓dCall, ↓dCB, ↓dCons, ↓dNil, ↓dStar, ↓dTup, ↓dLst, ↓dLstM, ↓dIsa, ↓dApp, ↓dNeg, ↓gdName, ↓gdTup, ↓gdCons, ↓gdNil, ↓gdSub, ↓rIx_tup, ↓rIx_str, ↓rIx_lst, ↓rIx_ref, ↓rSetL, ↓rSl, ↓dSl, ↓doNone, ↓doSome, ↓rAdd, ↓rSub, ↓rMul, ↓rMod, ↓rFdiv, ↓rPow, ↓rShl, ↓rShr, ↓rBand, ↓rBor, ↓rInt, ↓cInt, ↓cLen_tup, ↓cLen_str, ↓cLen_lst, ↓cLen_ref, ↓cTuple, ↓cSorted, ↓cMax2, ↓rEq, ↓rNe, ↓rLt, ↓rGt, ↓rLe, ↓rGe, ↓rOrd, ↓rIn, ↓rIs, ↓isNone, ↓truD, ↓frzAll, ↓diA, ↓diR1, ↓diR2, ↓dFor, ↓dLc, ↓dLcM, ↓dtYes, ↓wipeD, dat, datL, seqL, L2.CPow, List.getElem?_cons_zero, List.getElem?_cons_succ, List.set_cons_zero, List.set_cons_succ, List.length_cons, List.length_nil, List.map_cons, List.map_nil, upS_same, if_true, if_false, Bool.false_eq_true, true_and, and_true, Bool.not_true, Bool.not_false, Bool.true_xor, Bool.false_xor, eqv_int, eqv_str, eqv_bool, dp_int, dp_str, dp_bool, dp_none, al_int, al_str, min00, ne_int, ne_str, mapM_p, atD_zero, atD_one, atD_two, atD_three, PyData.isTuple, PyData.isInt, PyData.isStr, PyData.isBool, PyData.isList, PyData.isDict, Nat.reduceAdd, Int.cast_ofNat_Int, Int.reduceEq, Int.reduceAdd, Int.reduceSub, decide_true, decide_false, decide_eq_true_eq, ↓reduceIte, reduceCtorEq, atD_int (Int.emod_nonneg _ (by omega)) hx, ↓t__law_many_names_1]
    refine ⟨⟨_, rfl⟩, .inl ⟨by decide, by decide⟩, by decide, by decide, ?_⟩
    simp only [↓dSeq, ↓dNext, ↓dSet, ↓dDrop, ↓dRet, ↓dRetN, ↓dIfS, ↓dAsg, ↓dBreak, ↓dCont, ↓dVar, ↓dC, ↓dOp, ↓dTB, ↓dtAnd, ↓dtOr, ↓dtNot, ↓dTru, ↓dAnd, ↓dOr, ↓dNot, ↓dIf, ↓dChain, ↓dCall, ↓dCB, ↓dCons, ↓dNil, ↓dStar, ↓dTup, ↓dLst, ↓dLstM, ↓dIsa, ↓dApp, ↓dNeg, ↓gdName, ↓gdTup, ↓gdCons, ↓gdNil, ↓gdSub, ↓rIx_tup, ↓rIx_str, ↓rIx_lst, ↓rIx_ref, ↓rSetL, ↓rSl, ↓dSl, ↓doNone, ↓doSome, ↓rAdd, ↓rSub, ↓rMul, ↓rMod, ↓rFdiv, ↓rPow, ↓rShl, ↓rShr, ↓rBand, ↓rBor, ↓rInt, ↓cInt, ↓cLen_tup, ↓cLen_str, ↓cLen_lst, ↓cLen_ref, ↓cTuple, ↓cSorted, ↓cMax2, ↓rEq, ↓rNe, ↓rLt, ↓rGt, ↓rLe, ↓rGe, ↓rOrd, ↓rIn, ↓rIs, ↓isNone, ↓truD, ↓frzAll, ↓diA, ↓diR1, ↓diR2, ↓dFor, ↓dLc, ↓dLcM, ↓dtYes, ↓wipeD, dat, datL, seqL, L2.CPow, List.getElem?_cons_zero, List.getElem?_cons_succ, List.set_cons_zero, List.set_cons_succ, List.length_cons, List.length_nil, List.map_cons, List.map_nil, upS_same, if_true, if_false, Bool.false_eq_true, true_and, and_true, Bool.not_true, Bool.not_false, Bool.true_xor, Bool.false_xor, eqv_int, eqv_str, eqv_bool, dp_int, dp_str, dp_bool, dp_none, al_int, al_str, min00, ne_int, ne_str, mapM_p, atD_zero, atD_one, atD_two, atD_three, PyData.isTuple, PyData.isInt, PyData.isStr, PyData.isBool, PyData.isList, PyData.isDict, Nat.reduceAdd, Int.cast_ofNat_Int, Int.reduceEq, Int.reduceAdd, Int.reduceSub, decide_true, decide_false, decide_eq_true_eq, ↓reduceIte, reduceCtorEq, List.length_map]
    refine ⟨smallL (by omega), hnx _ _ trivial ⟨o6, ns ++ [⟨⟨#[ch]⟩, (start + 7 * (0 + (k : Int))) % 60, x⟩], some (D.p (.int (0 + (k : Int)))), _, _, rfl, ?_, ho6, ?_, by simp; omega, fun a ha => ?_⟩⟩
    · rw [upS_upS]; simp [Nm.enc]
    · refine List.nodup_append.mpr ⟨hnd, by simp, fun a ha b hb => ?_⟩
      rw [List.mem_singleton.mp hb]
      obtain ⟨j, hj, e⟩ := hnum a ha
      intro e2
      rw [e2] at e
      simp only at e
      omega
    · rcases List.mem_append.mp ha with ha | ha
      · obtain ⟨j, hj, e⟩ := hnum a ha
        exact ⟨j, by omega, e⟩
      · rw [List.mem_singleton.mp ha]
        exact ⟨k, by omega, rfl⟩
  · rintro env S' ⟨o', ns, e5, e6, e7, rfl, rfl, ho', hnd, hlen, hnum⟩
    simp only [↓dSeq, ↓dNext, ↓dSet, ↓dDrop, ↓dRet, ↓dRetN, ↓dIfS, ↓dAsg, ↓dBreak, ↓dCont, ↓dVar, ↓dC, ↓dOp, ↓dTB, ↓dtAnd, ↓dtOr, ↓dtNot, ↓dTru, ↓dAnd, ↓dOr, ↓dNot, ↓dIf, ↓dChain, ↓dCall, ↓dCB, ↓dCons, ↓dNil, ↓dStar, ↓dTup, ↓dLst, ↓dLstM, ↓dIsa, ↓dApp, ↓dNeg, ↓gdName, ↓gdTup, ↓gdCons, ↓gdNil, ↓gdSub, ↓rIx_tup, ↓rIx_str, ↓rIx_lst, ↓rIx_ref, ↓rSetL, ↓rSl, ↓dSl, ↓doNone, ↓doSome, ↓rAdd, ↓rSub, ↓rMul, ↓rMod, ↓rFdiv, ↓rPow, ↓rShl, ↓rShr, ↓rBand, ↓rBor, ↓rInt, ↓cInt, ↓cLen_tup, ↓cLen_str, ↓cLen_lst, ↓cLen_ref, ↓cTuple, ↓cSorted, ↓cMax2, ↓rEq, ↓rNe, ↓rLt, ↓rGt, ↓rLe, ↓rGe, ↓rOrd, ↓rIn, ↓rIs, ↓isNone, ↓truD, ↓frzAll, ↓diA, ↓diR1, ↓diR2, ↓dFor, ↓dLc, ↓dLcM, ↓dtYes, ↓wipeD, dat, datL, seqL, L2.CPow, List.getElem?_cons_zero, List.getElem?_cons_succ, List.set_cons_zero, List.set_cons_succ, List.length_cons, List.length_nil, List.map_cons, List.map_nil, upS_same, if_true, if_false, Bool.false_eq_true, true_and, and_true, Bool.not_true, Bool.not_false, Bool.true_xor, Bool.false_xor, eqv_int, eqv_str, eqv_bool, dp_int, dp_str, dp_bool, dp_none, al_int, al_str, min00, ne_int, ne_str, mapM_p, atD_zero, atD_one, atD_two, atD_three, PyData.isTuple, PyData.isInt, PyData.isStr, PyData.isBool, PyData.isList, PyData.isDict, Nat.reduceAdd, Int.cast_ofNat_Int, Int.reduceEq, Int.reduceAdd, Int.reduceSub, decide_true, decide_false, decide_eq_true_eq, ↓reduceIte, reduceCtorEq, ↓t__law_many_names_4]
    obtain ⟨ms, h1, h2, h3, h4⟩ := sort_nm hnd
    refine ⟨⟨alikeAll_nm ns, sortable_nm ns, by rw [encs_len]; exact small (by omega), encs_depth⟩, ?_⟩
    rw [h1]
    exact Fin.drop (by rw [upS_ne (Ne.symm hpm)]; exact hm0) (hQ ms o' h2 (by omega) ho')

/-! ### end, top name, branches -/
def sp_end' : DSp := fun ds S Q => ∃ v, ds = [D.p v] ∧ Q (D.p (.tuple [.str "is", v])) S
theorem hs_end (ds : List D) (S : Sto) (Q : DQ) (hl : ds.length = 1) (h : sp_end' ds S Q) : t_end { nx := fun _ S' => Fin Q (.p .none) S', rt := Fin Q } (dstart 1 ds) S := by
  obtain ⟨v, rfl, hQ⟩ := h
  show t_end _ [some (D.p v)] S
  simp only [↓dSeq, ↓dNext, ↓dSet, ↓dDrop, ↓dRet, ↓dRetN, ↓dIfS, ↓dAsg, ↓dBreak, ↓dCont, ↓dVar, ↓dC, ↓dOp, ↓dTB, ↓dtAnd, ↓dtOr, ↓dtNot, ↓dTru, ↓dAnd, ↓dOr, ↓dNot, ↓dIf, ↓dChain, ↓dCall, ↓dCB, ↓dCons, ↓dNil, ↓dStar, ↓dTup, ↓dLst, ↓dLstM, ↓dIsa, ↓dApp, ↓dNeg, ↓gdName, ↓gdTup, ↓gdCons, ↓gdNil, ↓gdSub, ↓rIx_tup, ↓rIx_str, ↓rIx_lst, ↓rIx_ref, ↓rSetL, ↓rSl, ↓dSl, ↓doNone, ↓doSome, ↓rAdd, ↓rSub, ↓rMul, ↓rMod, ↓rFdiv, ↓rPow, ↓rShl, ↓rShr, ↓rBand, ↓rBor, ↓rInt, ↓cInt, ↓cLen_tup, ↓cLen_str, ↓cLen_lst, ↓cLen_ref, ↓cTuple, ↓cSorted, ↓cMax2, ↓rEq, ↓rNe, ↓rLt, ↓rGt, ↓rLe, ↓rGe, ↓rOrd, ↓rIn, ↓rIs, ↓isNone, ↓truD, ↓frzAll, ↓diA, ↓diR1, ↓diR2, ↓dFor, ↓dLc, ↓dLcM, ↓dtYes, ↓wipeD, dat, datL, seqL, L2.CPow, List.getElem?_cons_zero, List.getElem?_cons_succ, List.set_cons_zero, List.set_cons_succ, List.length_cons, List.length_nil, List.map_cons, List.map_nil, upS_same, if_true, if_false, Bool.false_eq_true, true_and, and_true, Bool.not_true, Bool.not_false, Bool.true_xor, Bool.false_xor, eqv_int, eqv_str, eqv_bool, dp_int, dp_str, dp_bool, dp_none, al_int, al_str, min00, ne_int, ne_str, mapM_p, atD_zero, atD_one, atD_two, atD_three, PyData.isTuple, PyData.isInt, PyData.isStr, PyData.isBool, PyData.isList, PyData.isDict, Nat.reduceAdd, Int.cast_ofNat_Int, Int.reduceEq, Int.reduceAdd, Int.reduceSub, decide_true, decide_false, decide_eq_true_eq, ↓reduceIte, reduceCtorEq, ↓t_end]
  exact ⟨by decide, Fin.same hQ⟩
def topE : Pap → PyData
  | .is _ => .tuple []
  | .br n _ _ => n.enc
def sp_top_name : DSp := fun ds S Q => ∃ p : Pap, ds = [D.p p.enc] ∧ Q (D.p (topE p)) S
theorem is_ne_if : (Str.ofString "if" = Str.ofString "is") = False := by decide
theorem hs_top_name (ds : List D) (S : Sto) (Q : DQ) (hl : ds.length = 1) (h : sp_top_name ds S Q) : t__top_name { nx := fun _ S' => Fin Q (.p .none) S', rt := Fin Q } (dstart 1 ds) S := by
  obtain ⟨p, rfl, hQ⟩ := h
  show t__top_name _ [some (D.p p.enc)] S
  cases p with
  | is v =>
    simp only [Pap.enc]
    simp only [↓dSeq, ↓dNext, ↓dSet, ↓dDrop, ↓dRet, ↓dRetN, ↓dIfS, ↓dAsg, ↓dBreak, ↓dCont, ↓dVar, ↓dC, ↓dOp, ↓dTB, ↓dtAnd, ↓dtOr, ↓dtNot, ↓dTru, ↓dAnd, ↓dOr, ↓dNot, ↓dIf, ↓dChain, ↓dCall, ↓dCB, ↓dCons, ↓dNil, ↓dStar, ↓dTup, ↓dLst, ↓dLstM, ↓dIsa, ↓dApp, ↓dNeg, ↓gdName, ↓gdTup, ↓gdCons, ↓gdNil, ↓gdSub, ↓rIx_tup, ↓rIx_str, ↓rIx_lst, ↓rIx_ref, ↓rSetL, ↓rSl, ↓dSl, ↓doNone, ↓doSome, ↓rAdd, ↓rSub, ↓rMul, ↓rMod, ↓rFdiv, ↓rPow, ↓rShl, ↓rShr, ↓rBand, ↓rBor, ↓rInt, ↓cInt, ↓cLen_tup, ↓cLen_str, ↓cLen_lst, ↓cLen_ref, ↓cTuple, ↓cSorted, ↓cMax2, ↓rEq, ↓rNe, ↓rLt, ↓rGt, ↓rLe, ↓rGe, ↓rOrd, ↓rIn, ↓rIs, ↓isNone, ↓truD, ↓frzAll, ↓diA, ↓diR1, ↓diR2, ↓dFor, ↓dLc, ↓dLcM, ↓dtYes, ↓wipeD, dat, datL, seqL, L2.CPow, List.getElem?_cons_zero, List.getElem?_cons_succ, List.set_cons_zero, List.set_cons_succ, List.length_cons, List.length_nil, List.map_cons, List.map_nil, upS_same, if_true, if_false, Bool.false_eq_true, true_and, and_true, Bool.not_true, Bool.not_false, Bool.true_xor, Bool.false_xor, eqv_int, eqv_str, eqv_bool, dp_int, dp_str, dp_bool, dp_none, al_int, al_str, min00, ne_int, ne_str, mapM_p, atD_zero, atD_one, atD_two, atD_three, PyData.isTuple, PyData.isInt, PyData.isStr, PyData.isBool, PyData.isList, PyData.isDict, Nat.reduceAdd, Int.cast_ofNat_Int, Int.reduceEq, Int.reduceAdd, Int.reduceSub, decide_true, decide_false, decide_eq_true_eq, ↓reduceIte, reduceCtorEq, ↓t__top_name]
    exact ⟨by decide, Fin.same hQ⟩
  | br n s g =>
    simp only [Pap.enc]
    simp only [↓dSeq, ↓dNext, ↓dSet, ↓dDrop, ↓dRet, ↓dRetN, ↓dIfS, ↓dAsg, ↓dBreak, ↓dCont, ↓dVar, ↓dC, ↓dOp, ↓dTB, ↓dtAnd, ↓dtOr, ↓dtNot, ↓dTru, ↓dAnd, ↓dOr, ↓dNot, ↓dIf, ↓dChain, ↓dCall, ↓dCB, ↓dCons, ↓dNil, ↓dStar, ↓dTup, ↓dLst, ↓dLstM, ↓dIsa, ↓dApp, ↓dNeg, ↓gdName, ↓gdTup, ↓gdCons, ↓gdNil, ↓gdSub, ↓rIx_tup, ↓rIx_str, ↓rIx_lst, ↓rIx_ref, ↓rSetL, ↓rSl, ↓dSl, ↓doNone, ↓doSome, ↓rAdd, ↓rSub, ↓rMul, ↓rMod, ↓rFdiv, ↓rPow, ↓rShl, ↓rShr, ↓rBand, ↓rBor, ↓rInt, ↓cInt, ↓cLen_tup, ↓cLen_str, ↓cLen_lst, ↓cLen_ref, ↓cTuple, ↓cSorted, ↓cMax2, ↓rEq, ↓rNe, ↓rLt, ↓rGt, ↓rLe, ↓rGe, ↓rOrd, ↓rIn, ↓rIs, ↓isNone, ↓truD, ↓frzAll, ↓diA, ↓diR1, ↓diR2, ↓dFor, ↓dLc, ↓dLcM, ↓dtYes, ↓wipeD, dat, datL, seqL, L2.CPow, List.getElem?_cons_zero, List.getElem?_cons_succ, List.set_cons_zero, List.set_cons_succ, List.length_cons, List.length_nil, List.map_cons, List.map_nil, upS_same, if_true, if_false, Bool.false_eq_true, true_and, and_true, Bool.not_true, Bool.not_false, Bool.true_xor, Bool.false_xor, eqv_int, eqv_str, eqv_bool, dp_int, dp_str, dp_bool, dp_none, al_int, al_str, min00, ne_int, ne_str, mapM_p, atD_zero, atD_one, atD_two, atD_three, PyData.isTuple, PyData.isInt, PyData.isStr, PyData.isBool, PyData.isList, PyData.isDict, Nat.reduceAdd, Int.cast_ofNat_Int, Int.reduceEq, Int.reduceAdd, Int.reduceSub, decide_true, decide_false, decide_eq_true_eq, ↓reduceIte, reduceCtorEq, ↓t__top_name, is_ne_if]
    exact Fin.same hQ
def sp_branches : DSp := fun ds S Q => ∃ (p : Pap) (n : Nm), ds = [D.p p.enc, D.p n.enc] ∧ Q (D.p (.tuple [(p.stands n).enc, (p.gone n).enc])) S
theorem hs_branches (ds : List D) (S : Sto) (Q : DQ) (hl : ds.length = 2) (h : sp_branches ds S Q) : t__branches sp_top_name { nx := fun _ S' => Fin Q (.p .none) S', rt := Fin Q } (dstart 2 ds) S := by
  obtain ⟨p, n, rfl, hQ⟩ := h
  show t__branches _ _ [some (D.p p.enc), some (D.p n.enc)] S
  simp only [↓dSeq, ↓dNext, ↓dSet, ↓dDrop, ↓dRet, ↓dRetN, ↓dIfS, ↓dAsg, ↓dBreak, ↓dCont, ↓dVar, ↓dC, ↓dOp, ↓dTB, ↓dtAnd, ↓dtOr, ↓dtNot, ↓dTru, ↓dAnd, ↓dOr, ↓dNot, ↓dIf, ↓dChain, ↓dCall, ↓dCB, ↓dCons, ↓dNil, ↓dStar, ↓dTup, ↓dLst, ↓dLstM, ↓dIsa, ↓dApp, ↓dNeg, ↓gdName, ↓gdTup, ↓gdCons, ↓gdNil, ↓gdSub, ↓rIx_tup, ↓rIx_str, ↓rIx_lst, ↓rIx_ref, ↓rSetL, ↓rSl, ↓dSl, ↓doNone, ↓doSome, ↓rAdd, ↓rSub, ↓rMul, ↓rMod, ↓rFdiv, ↓rPow, ↓rShl, ↓rShr, ↓rBand, ↓rBor, ↓rInt, ↓cInt, ↓cLen_tup, ↓cLen_str, ↓cLen_lst, ↓cLen_ref, ↓cTuple, ↓cSorted, ↓cMax2, ↓rEq, ↓rNe, ↓rLt, ↓rGt, ↓rLe, ↓rGe, ↓rOrd, ↓rIn, ↓rIs, ↓isNone, ↓truD, ↓frzAll, ↓diA, ↓diR1, ↓diR2, ↓dFor, ↓dLc, ↓dLcM, ↓dtYes, ↓wipeD, dat, datL, seqL, L2.CPow, List.getElem?_cons_zero, List.getElem?_cons_succ, List.set_cons_zero, List.set_cons_succ, List.length_cons, List.length_nil, List.map_cons, List.map_nil, upS_same, if_true, if_false, Bool.false_eq_true, true_and, and_true, Bool.not_true, Bool.not_false, Bool.true_xor, Bool.false_xor, eqv_int, eqv_str, eqv_bool, dp_int, dp_str, dp_bool, dp_none, al_int, al_str, min00, ne_int, ne_str, mapM_p, atD_zero, atD_one, atD_two, atD_three, PyData.isTuple, PyData.isInt, PyData.isStr, PyData.isBool, PyData.isList, PyData.isDict, Nat.reduceAdd, Int.cast_ofNat_Int, Int.reduceEq, Int.reduceAdd, Int.reduceSub, decide_true, decide_false, decide_eq_true_eq, ↓reduceIte, reduceCtorEq, ↓t__branches]
  refine ⟨p, rfl, ?_⟩
  simp only [↓dSeq, ↓dNext, ↓dSet, ↓dDrop, ↓dRet, ↓dRetN, ↓dIfS, ↓dAsg, ↓dBreak, ↓dCont, ↓dVar, ↓dC, ↓dOp, ↓dTB, ↓dtAnd, ↓dtOr, ↓dtNot, ↓dTru, ↓dAnd, ↓dOr, ↓dNot, ↓dIf, ↓dChain, ↓dCall, ↓dCB, ↓dCons, ↓dNil, ↓dStar, ↓dTup, ↓dLst, ↓dLstM, ↓dIsa, ↓dApp, ↓dNeg, ↓gdName, ↓gdTup, ↓gdCons, ↓gdNil, ↓gdSub, ↓rIx_tup, ↓rIx_str, ↓rIx_lst, ↓rIx_ref, ↓rSetL, ↓rSl, ↓dSl, ↓doNone, ↓doSome, ↓rAdd, ↓rSub, ↓rMul, ↓rMod, ↓rFdiv, ↓rPow, ↓rShl, ↓rShr, ↓rBand, ↓rBor, ↓rInt, ↓cInt, ↓cLen_tup, ↓cLen_str, ↓cLen_lst, ↓cLen_ref, ↓cTuple, ↓cSorted, ↓cMax2, ↓rEq, ↓rNe, ↓rLt, ↓rGt, ↓rLe, ↓rGe, ↓rOrd, ↓rIn, ↓rIs, ↓isNone, ↓truD, ↓frzAll, ↓diA, ↓diR1, ↓diR2, ↓dFor, ↓dLc, ↓dLcM, ↓dtYes, ↓wipeD, dat, datL, seqL, L2.CPow, List.getElem?_cons_zero, List.getElem?_cons_succ, List.set_cons_zero, List.set_cons_succ, List.length_cons, List.length_nil, List.map_cons, List.map_nil, upS_same, if_true, if_false, Bool.false_eq_true, true_and, and_true, Bool.not_true, Bool.not_false, Bool.true_xor, Bool.false_xor, eqv_int, eqv_str, eqv_bool, dp_int, dp_str, dp_bool, dp_none, al_int, al_str, min00, ne_int, ne_str, mapM_p, atD_zero, atD_one, atD_two, atD_three, PyData.isTuple, PyData.isInt, PyData.isStr, PyData.isBool, PyData.isList, PyData.isDict, Nat.reduceAdd, Int.cast_ofNat_Int, Int.reduceEq, Int.reduceAdd, Int.reduceSub, decide_true, decide_false, decide_eq_true_eq, ↓reduceIte, reduceCtorEq]
  refine ⟨min_le60' (by rw [depth_nm]; decide), ?_⟩
  cases p with
  | is v =>
    simp only [↓dSeq, ↓dNext, ↓dSet, ↓dDrop, ↓dRet, ↓dRetN, ↓dIfS, ↓dAsg, ↓dBreak, ↓dCont, ↓dVar, ↓dC, ↓dOp, ↓dTB, ↓dtAnd, ↓dtOr, ↓dtNot, ↓dTru, ↓dAnd, ↓dOr, ↓dNot, ↓dIf, ↓dChain, ↓dCall, ↓dCB, ↓dCons, ↓dNil, ↓dStar, ↓dTup, ↓dLst, ↓dLstM, ↓dIsa, ↓dApp, ↓dNeg, ↓gdName, ↓gdTup, ↓gdCons, ↓gdNil, ↓gdSub, ↓rIx_tup, ↓rIx_str, ↓rIx_lst, ↓rIx_ref, ↓rSetL, ↓rSl, ↓dSl, ↓doNone, ↓doSome, ↓rAdd, ↓rSub, ↓rMul, ↓rMod, ↓rFdiv, ↓rPow, ↓rShl, ↓rShr, ↓rBand, ↓rBor, ↓rInt, ↓cInt, ↓cLen_tup, ↓cLen_str, ↓cLen_lst, ↓cLen_ref, ↓cTuple, ↓cSorted, ↓cMax2, ↓rEq, ↓rNe, ↓rLt, ↓rGt, ↓rLe, ↓rGe, ↓rOrd, ↓rIn, ↓rIs, ↓isNone, ↓truD, ↓frzAll, ↓diA, ↓diR1, ↓diR2, ↓dFor, ↓dLc, ↓dLcM, ↓dtYes, ↓wipeD, dat, datL, seqL, L2.CPow, List.getElem?_cons_zero, List.getElem?_cons_succ, List.set_cons_zero, List.set_cons_succ, List.length_cons, List.length_nil, List.map_cons, List.map_nil, upS_same, if_true, if_false, Bool.false_eq_true, true_and, and_true, Bool.not_true, Bool.not_false, Bool.true_xor, Bool.false_xor, eqv_int, eqv_str, eqv_bool, dp_int, dp_str, dp_bool, dp_none, al_int, al_str, min00, ne_int, ne_str, mapM_p, atD_zero, atD_one, atD_two, atD_three, PyData.isTuple, PyData.isInt, PyData.isStr, PyData.isBool, PyData.isList, PyData.isDict, Nat.reduceAdd, Int.cast_ofNat_Int, Int.reduceEq, Int.reduceAdd, Int.reduceSub, decide_true, decide_false, decide_eq_true_eq, ↓reduceIte, reduceCtorEq, (show PyData.eqv (topE (.is v)) n.enc = false by simp [topE, Nm.enc, PyData.eqv, PyData.eqvAll]), ↓t__branches_1]
    exact ⟨by decide, Fin.same hQ⟩
  | br m s g =>
    by_cases e : m = n
    · subst e
      simp only [↓dSeq, ↓dNext, ↓dSet, ↓dDrop, ↓dRet, ↓dRetN, ↓dIfS, ↓dAsg, ↓dBreak, ↓dCont, ↓dVar, ↓dC, ↓dOp, ↓dTB, ↓dtAnd, ↓dtOr, ↓dtNot, ↓dTru, ↓dAnd, ↓dOr, ↓dNot, ↓dIf, ↓dChain, ↓dCall, ↓dCB, ↓dCons, ↓dNil, ↓dStar, ↓dTup, ↓dLst, ↓dLstM, ↓dIsa, ↓dApp, ↓dNeg, ↓gdName, ↓gdTup, ↓gdCons, ↓gdNil, ↓gdSub, ↓rIx_tup, ↓rIx_str, ↓rIx_lst, ↓rIx_ref, ↓rSetL, ↓rSl, ↓dSl, ↓doNone, ↓doSome, ↓rAdd, ↓rSub, ↓rMul, ↓rMod, ↓rFdiv, ↓rPow, ↓rShl, ↓rShr, ↓rBand, ↓rBor, ↓rInt, ↓cInt, ↓cLen_tup, ↓cLen_str, ↓cLen_lst, ↓cLen_ref, ↓cTuple, ↓cSorted, ↓cMax2, ↓rEq, ↓rNe, ↓rLt, ↓rGt, ↓rLe, ↓rGe, ↓rOrd, ↓rIn, ↓rIs, ↓isNone, ↓truD, ↓frzAll, ↓diA, ↓diR1, ↓diR2, ↓dFor, ↓dLc, ↓dLcM, ↓dtYes, ↓wipeD, dat, datL, seqL, L2.CPow, List.getElem?_cons_zero, List.getElem?_cons_succ, List.set_cons_zero, List.set_cons_succ, List.length_cons, List.length_nil, List.map_cons, List.map_nil, upS_same, if_true, if_false, Bool.false_eq_true, true_and, and_true, Bool.not_true, Bool.not_false, Bool.true_xor, Bool.false_xor, eqv_int, eqv_str, eqv_bool, dp_int, dp_str, dp_bool, dp_none, al_int, al_str, min00, ne_int, ne_str, mapM_p, atD_zero, atD_one, atD_two, atD_three, PyData.isTuple, PyData.isInt, PyData.isStr, PyData.isBool, PyData.isList, PyData.isDict, Nat.reduceAdd, Int.cast_ofNat_Int, Int.reduceEq, Int.reduceAdd, Int.reduceSub, decide_true, decide_false, decide_eq_true_eq, ↓reduceIte, reduceCtorEq, (show PyData.eqv (topE (.br m s g)) m.enc = true by simp [topE, eqv_nm]), ↓t__branches_2]
      simp only [Pap.enc]
      simp only [↓dSeq, ↓dNext, ↓dSet, ↓dDrop, ↓dRet, ↓dRetN, ↓dIfS, ↓dAsg, ↓dBreak, ↓dCont, ↓dVar, ↓dC, ↓dOp, ↓dTB, ↓dtAnd, ↓dtOr, ↓dtNot, ↓dTru, ↓dAnd, ↓dOr, ↓dNot, ↓dIf, ↓dChain, ↓dCall, ↓dCB, ↓dCons, ↓dNil, ↓dStar, ↓dTup, ↓dLst, ↓dLstM, ↓dIsa, ↓dApp, ↓dNeg, ↓gdName, ↓gdTup, ↓gdCons, ↓gdNil, ↓gdSub, ↓rIx_tup, ↓rIx_str, ↓rIx_lst, ↓rIx_ref, ↓rSetL, ↓rSl, ↓dSl, ↓doNone, ↓doSome, ↓rAdd, ↓rSub, ↓rMul, ↓rMod, ↓rFdiv, ↓rPow, ↓rShl, ↓rShr, ↓rBand, ↓rBor, ↓rInt, ↓cInt, ↓cLen_tup, ↓cLen_str, ↓cLen_lst, ↓cLen_ref, ↓cTuple, ↓cSorted, ↓cMax2, ↓rEq, ↓rNe, ↓rLt, ↓rGt, ↓rLe, ↓rGe, ↓rOrd, ↓rIn, ↓rIs, ↓isNone, ↓truD, ↓frzAll, ↓diA, ↓diR1, ↓diR2, ↓dFor, ↓dLc, ↓dLcM, ↓dtYes, ↓wipeD, dat, datL, seqL, L2.CPow, List.getElem?_cons_zero, List.getElem?_cons_succ, List.set_cons_zero, List.set_cons_succ, List.length_cons, List.length_nil, List.map_cons, List.map_nil, upS_same, if_true, if_false, Bool.false_eq_true, true_and, and_true, Bool.not_true, Bool.not_false, Bool.true_xor, Bool.false_xor, eqv_int, eqv_str, eqv_bool, dp_int, dp_str, dp_bool, dp_none, al_int, al_str, min00, ne_int, ne_str, mapM_p, atD_zero, atD_one, atD_two, atD_three, PyData.isTuple, PyData.isInt, PyData.isStr, PyData.isBool, PyData.isList, PyData.isDict, Nat.reduceAdd, Int.cast_ofNat_Int, Int.reduceEq, Int.reduceAdd, Int.reduceSub, decide_true, decide_false, decide_eq_true_eq, ↓reduceIte, reduceCtorEq]
      simp only [Pap.stands, Pap.gone, if_true] at hQ
      exact ⟨by decide, Fin.same hQ⟩
    · simp only [↓dSeq, ↓dNext, ↓dSet, ↓dDrop, ↓dRet, ↓dRetN, ↓dIfS, ↓dAsg, ↓dBreak, ↓dCont, ↓dVar, ↓dC, ↓dOp, ↓dTB, ↓dtAnd, ↓dtOr, ↓dtNot, ↓dTru, ↓dAnd, ↓dOr, ↓dNot, ↓dIf, ↓dChain, ↓dCall, ↓dCB, ↓dCons, ↓dNil, ↓dStar, ↓dTup, ↓dLst, ↓dLstM, ↓dIsa, ↓dApp, ↓dNeg, ↓gdName, ↓gdTup, ↓gdCons, ↓gdNil, ↓gdSub, ↓rIx_tup, ↓rIx_str, ↓rIx_lst, ↓rIx_ref, ↓rSetL, ↓rSl, ↓dSl, ↓doNone, ↓doSome, ↓rAdd, ↓rSub, ↓rMul, ↓rMod, ↓rFdiv, ↓rPow, ↓rShl, ↓rShr, ↓rBand, ↓rBor, ↓rInt, ↓cInt, ↓cLen_tup, ↓cLen_str, ↓cLen_lst, ↓cLen_ref, ↓cTuple, ↓cSorted, ↓cMax2, ↓rEq, ↓rNe, ↓rLt, ↓rGt, ↓rLe, ↓rGe, ↓rOrd, ↓rIn, ↓rIs, ↓isNone, ↓truD, ↓frzAll, ↓diA, ↓diR1, ↓diR2, ↓dFor, ↓dLc, ↓dLcM, ↓dtYes, ↓wipeD, dat, datL, seqL, L2.CPow, List.getElem?_cons_zero, List.getElem?_cons_succ, List.set_cons_zero, List.set_cons_succ, List.length_cons, List.length_nil, List.map_cons, List.map_nil, upS_same, if_true, if_false, Bool.false_eq_true, true_and, and_true, Bool.not_true, Bool.not_false, Bool.true_xor, Bool.false_xor, eqv_int, eqv_str, eqv_bool, dp_int, dp_str, dp_bool, dp_none, al_int, al_str, min00, ne_int, ne_str, mapM_p, atD_zero, atD_one, atD_two, atD_three, PyData.isTuple, PyData.isInt, PyData.isStr, PyData.isBool, PyData.isList, PyData.isDict, Nat.reduceAdd, Int.cast_ofNat_Int, Int.reduceEq, Int.reduceAdd, Int.reduceSub, decide_true, decide_false, decide_eq_true_eq, ↓reduceIte, reduceCtorEq, (show PyData.eqv (topE (.br m s g)) n.enc = false by simp [topE, eqv_nm, e]), ↓t__branches_1]
      simp only [Pap.stands, Pap.gone, if_neg e] at hQ
      exact ⟨by decide, Fin.same hQ⟩

/-! ### crossing -/
def encC : Option (List Nm) → PyData
  | none => .none
  | some c => .tuple (c.map Nm.enc)
def sp_cross (k : Nat) : DSp := fun ds S Q => ∃ l u : Pap, ds = [D.p l.enc, D.p u.enc] ∧ l.Ordd ∧ u.Ordd ∧ l.Bin ∧ u.Bin ∧ l.ht + u.ht < k ∧ k ≤ 50 ∧ ∀ r, CrossOk l u r → (∀ c, r = some c → c.length ≤ k) → Q (D.p (encC r)) S
theorem top_alike (l u : Pap) : PySem.W.alike (topE l) (topE u) = true := by
  cases l <;> cases u <;> simp [topE, Nm.enc, PySem.W.alike, PySem.W.alikeAll]
theorem top_ne (l : Pap) : topE l ≠ .none := by cases l <;> simp [topE, Nm.enc]
theorem top_depth (l : Pap) : (topE l).depth ≤ 1 := by cases l <;> simp [topE, depth_nm, PyData.depth, PyData.depthAll]
theorem lt_empty (n : Nm) : PySem.W.dataLt (.tuple []) n.enc = true := by
  simp [PySem.W.dataLt, Nm.enc, PySem.W.keyToks, PySem.W.keyToksAll, PyProof.Rows.lexLt, PyProof.Rows.itemOrd, PyProof.Rows.itemLt]
theorem not_lt_empty (n : Nm) : PySem.W.dataLt n.enc (.tuple []) = false := by
  simp [PySem.W.dataLt, Nm.enc, PySem.W.keyToks, PySem.W.keyToksAll, PyProof.Rows.lexLt, PyProof.Rows.itemOrd, PyProof.Rows.itemLt]
theorem top_max {l u : Pap} (hl : l.Ordd) (hu : u.Ordd) : ∃ r, (if PySem.W.dataLt (topE l) (topE u) = true then D.p (topE u) else D.p (topE l)) = D.p r ∧
    ((l.top = none ∧ u.top = none ∧ r = .tuple []) ∨ ∃ n : Nm, r = n.enc ∧ (l.top = some n ∨ u.top = some n) ∧ l.LeN n ∧ u.LeN n) := by
  cases l with
  | is v =>
    cases u with
    | is v' => exact ⟨.tuple [], by split <;> rfl, .inl ⟨rfl, rfl, rfl⟩⟩
    | br m s' g' => exact ⟨m.enc, by simp [topE, lt_empty], .inr ⟨m, rfl, .inr rfl, fun x hx => by simp [Pap.names] at hx, hu.top_le rfl (.inl rfl)⟩⟩
  | br n s g =>
    cases u with
    | is v' => exact ⟨n.enc, by simp [topE, not_lt_empty], .inr ⟨n, rfl, .inl rfl, hl.top_le rfl (.inl rfl), fun x hx => by simp [Pap.names] at hx⟩⟩
    | br m s' g' =>
      cases h : nlt n m with
      | true =>
        refine ⟨m.enc, ?_, .inr ⟨m, rfl, .inr rfl, hl.top_le rfl (.inr h), hu.top_le rfl (.inl rfl)⟩⟩
        split
        · rfl
        · rename_i q; exact absurd h q
      | false =>
        have : m = n ∨ nlt m n = true := by
          cases h2 : nlt m n with
          | true => exact .inr rfl
          | false => exact .inl (nlt_tot h2 h)
        refine ⟨n.enc, ?_, .inr ⟨n, rfl, .inl rfl, hl.top_le rfl (.inl rfl), hu.top_le rfl this⟩⟩
        split
        · rename_i q
          rw [show nlt n m = true from q] at h
          cases h
        · rfl
theorem bin_stands {p : Pap} (h : p.Bin) (n : Nm) : (p.stands n).Bin := by
  cases p with
  | is v => exact h
  | br m s g =>
    simp only [Pap.stands]
    split
    · exact fun v hv => h v (by simp [Pap.vals, hv])
    · exact h
theorem bin_gone {p : Pap} (h : p.Bin) (n : Nm) : (p.gone n).Bin := by
  cases p with
  | is v => exact h
  | br m s g =>
    simp only [Pap.gone]
    split
    · exact fun v hv => h v (by simp [Pap.vals, hv])
    · exact h
theorem hs_crossing (k : Nat) (ds : List D) (S : Sto) (Q : DQ) (hl : ds.length = 2) (h : sp_cross (k + 1) ds S Q) : t__crossing sp_end' sp_top_name sp_branches (sp_cross k) { nx := fun _ S' => Fin Q (.p .none) S', rt := Fin Q } (dstart 8 ds) S := by
  obtain ⟨l, u, rfl, ol, ou, bl, bu, hk, hk50, hQ⟩ := h
  show t__crossing _ _ _ _ _ [some (D.p l.enc), some (D.p u.enc), none, none, none, none, none, none] S
  have dl := depth_row (p := l) (h := k) (by omega) (by omega)
  have du := depth_row (p := u) (h := k) (by omega) (by omega)
  simp only [↓dSeq, ↓dNext, ↓dSet, ↓dDrop, ↓dRet, ↓dRetN, ↓dIfS, ↓dAsg, ↓dBreak, ↓dCont, ↓dVar, ↓dC, ↓dOp, ↓dTB, ↓dtAnd, ↓dtOr, ↓dtNot, ↓dTru, ↓dAnd, ↓dOr, ↓dNot, ↓dIf, ↓dChain, ↓dCall, ↓dCB, ↓dCons, ↓dNil, ↓dStar, ↓dTup, ↓dLst, ↓dLstM, ↓dIsa, ↓dApp, ↓dNeg, ↓gdName, ↓gdTup, ↓gdCons, ↓gdNil, ↓gdSub, ↓rIx_tup, ↓rIx_str, ↓rIx_lst, ↓rIx_ref, ↓rSetL, ↓rSl, ↓dSl, ↓doNone, ↓doSome, ↓rAdd, ↓rSub, ↓rMul, ↓rMod, ↓rFdiv, ↓rPow, ↓rShl, ↓rShr, ↓rBand, ↓rBor, ↓rInt, ↓cInt, ↓cLen_tup, ↓cLen_str, ↓cLen_lst, ↓cLen_ref, ↓cTuple, ↓cSorted, ↓cMax2, ↓rEq, ↓rNe, ↓rLt, ↓rGt, ↓rLe, ↓rGe, ↓rOrd, ↓rIn, ↓rIs, ↓isNone, ↓truD, ↓frzAll, ↓diA, ↓diR1, ↓diR2, ↓dFor, ↓dLc, ↓dLcM, ↓dtYes, ↓wipeD, dat, datL, seqL, L2.CPow, List.getElem?_cons_zero, List.getElem?_cons_succ, List.set_cons_zero, List.set_cons_succ, List.length_cons, List.length_nil, List.map_cons, List.map_nil, upS_same, if_true, if_false, Bool.false_eq_true, true_and, and_true, Bool.not_true, Bool.not_false, Bool.true_xor, Bool.false_xor, eqv_int, eqv_str, eqv_bool, dp_int, dp_str, dp_bool, dp_none, al_int, al_str, min00, ne_int, ne_str, mapM_p, atD_zero, atD_one, atD_two, atD_three, PyData.isTuple, PyData.isInt, PyData.isStr, PyData.isBool, PyData.isList, PyData.isDict, Nat.reduceAdd, Int.cast_ofNat_Int, Int.reduceEq, Int.reduceAdd, Int.reduceSub, decide_true, decide_false, decide_eq_true_eq, ↓reduceIte, reduceCtorEq, ↓t__crossing]
  refine ⟨min_le60 dl, ?_⟩
  have done : (l = u ∨ l = .is (some 1) ∨ u = .is (some 0)) → Fin Q (D.p .none) S := fun h => Fin.same (hQ none (cross_trivial h) fun c z => nomatch z)
  by_cases e1 : l = u
  · simp only [↓dSeq, ↓dNext, ↓dSet, ↓dDrop, ↓dRet, ↓dRetN, ↓dIfS, ↓dAsg, ↓dBreak, ↓dCont, ↓dVar, ↓dC, ↓dOp, ↓dTB, ↓dtAnd, ↓dtOr, ↓dtNot, ↓dTru, ↓dAnd, ↓dOr, ↓dNot, ↓dIf, ↓dChain, ↓dCall, ↓dCB, ↓dCons, ↓dNil, ↓dStar, ↓dTup, ↓dLst, ↓dLstM, ↓dIsa, ↓dApp, ↓dNeg, ↓gdName, ↓gdTup, ↓gdCons, ↓gdNil, ↓gdSub, ↓rIx_tup, ↓rIx_str, ↓rIx_lst, ↓rIx_ref, ↓rSetL, ↓rSl, ↓dSl, ↓doNone, ↓doSome, ↓rAdd, ↓rSub, ↓rMul, ↓rMod, ↓rFdiv, ↓rPow, ↓rShl, ↓rShr, ↓rBand, ↓rBor, ↓rInt, ↓cInt, ↓cLen_tup, ↓cLen_str, ↓cLen_lst, ↓cLen_ref, ↓cTuple, ↓cSorted, ↓cMax2, ↓rEq, ↓rNe, ↓rLt, ↓rGt, ↓rLe, ↓rGe, ↓rOrd, ↓rIn, ↓rIs, ↓isNone, ↓truD, ↓frzAll, ↓diA, ↓diR1, ↓diR2, ↓dFor, ↓dLc, ↓dLcM, ↓dtYes, ↓wipeD, dat, datL, seqL, L2.CPow, List.getElem?_cons_zero, List.getElem?_cons_succ, List.set_cons_zero, List.set_cons_succ, List.length_cons, List.length_nil, List.map_cons, List.map_nil, upS_same, if_true, if_false, Bool.false_eq_true, true_and, and_true, Bool.not_true, Bool.not_false, Bool.true_xor, Bool.false_xor, eqv_int, eqv_str, eqv_bool, dp_int, dp_str, dp_bool, dp_none, al_int, al_str, min00, ne_int, ne_str, mapM_p, atD_zero, atD_one, atD_two, atD_three, PyData.isTuple, PyData.isInt, PyData.isStr, PyData.isBool, PyData.isList, PyData.isDict, Nat.reduceAdd, Int.cast_ofNat_Int, Int.reduceEq, Int.reduceAdd, Int.reduceSub, decide_true, decide_false, decide_eq_true_eq, ↓reduceIte, reduceCtorEq, (show PyData.eqv l.enc u.enc = true by rw [eqv_pap]; simpa using e1), ↓t__crossing_1]
    exact done (.inl e1)
  simp only [↓dSeq, ↓dNext, ↓dSet, ↓dDrop, ↓dRet, ↓dRetN, ↓dIfS, ↓dAsg, ↓dBreak, ↓dCont, ↓dVar, ↓dC, ↓dOp, ↓dTB, ↓dtAnd, ↓dtOr, ↓dtNot, ↓dTru, ↓dAnd, ↓dOr, ↓dNot, ↓dIf, ↓dChain, ↓dCall, ↓dCB, ↓dCons, ↓dNil, ↓dStar, ↓dTup, ↓dLst, ↓dLstM, ↓dIsa, ↓dApp, ↓dNeg, ↓gdName, ↓gdTup, ↓gdCons, ↓gdNil, ↓gdSub, ↓rIx_tup, ↓rIx_str, ↓rIx_lst, ↓rIx_ref, ↓rSetL, ↓rSl, ↓dSl, ↓doNone, ↓doSome, ↓rAdd, ↓rSub, ↓rMul, ↓rMod, ↓rFdiv, ↓rPow, ↓rShl, ↓rShr, ↓rBand, ↓rBor, ↓rInt, ↓cInt, ↓cLen_tup, ↓cLen_str, ↓cLen_lst, ↓cLen_ref, ↓cTuple, ↓cSorted, ↓cMax2, ↓rEq, ↓rNe, ↓rLt, ↓rGt, ↓rLe, ↓rGe, ↓rOrd, ↓rIn, ↓rIs, ↓isNone, ↓truD, ↓frzAll, ↓diA, ↓diR1, ↓diR2, ↓dFor, ↓dLc, ↓dLcM, ↓dtYes, ↓wipeD, dat, datL, seqL, L2.CPow, List.getElem?_cons_zero, List.getElem?_cons_succ, List.set_cons_zero, List.set_cons_succ, List.length_cons, List.length_nil, List.map_cons, List.map_nil, upS_same, if_true, if_false, Bool.false_eq_true, true_and, and_true, Bool.not_true, Bool.not_false, Bool.true_xor, Bool.false_xor, eqv_int, eqv_str, eqv_bool, dp_int, dp_str, dp_bool, dp_none, al_int, al_str, min00, ne_int, ne_str, mapM_p, atD_zero, atD_one, atD_two, atD_three, PyData.isTuple, PyData.isInt, PyData.isStr, PyData.isBool, PyData.isList, PyData.isDict, Nat.reduceAdd, Int.cast_ofNat_Int, Int.reduceEq, Int.reduceAdd, Int.reduceSub, decide_true, decide_false, decide_eq_true_eq, ↓reduceIte, reduceCtorEq, (show PyData.eqv l.enc u.enc = false by rw [eqv_pap]; simpa using e1)]
  refine ⟨_, rfl, ?_⟩
  simp only [↓dSeq, ↓dNext, ↓dSet, ↓dDrop, ↓dRet, ↓dRetN, ↓dIfS, ↓dAsg, ↓dBreak, ↓dCont, ↓dVar, ↓dC, ↓dOp, ↓dTB, ↓dtAnd, ↓dtOr, ↓dtNot, ↓dTru, ↓dAnd, ↓dOr, ↓dNot, ↓dIf, ↓dChain, ↓dCall, ↓dCB, ↓dCons, ↓dNil, ↓dStar, ↓dTup, ↓dLst, ↓dLstM, ↓dIsa, ↓dApp, ↓dNeg, ↓gdName, ↓gdTup, ↓gdCons, ↓gdNil, ↓gdSub, ↓rIx_tup, ↓rIx_str, ↓rIx_lst, ↓rIx_ref, ↓rSetL, ↓rSl, ↓dSl, ↓doNone, ↓doSome, ↓rAdd, ↓rSub, ↓rMul, ↓rMod, ↓rFdiv, ↓rPow, ↓rShl, ↓rShr, ↓rBand, ↓rBor, ↓rInt, ↓cInt, ↓cLen_tup, ↓cLen_str, ↓cLen_lst, ↓cLen_ref, ↓cTuple, ↓cSorted, ↓cMax2, ↓rEq, ↓rNe, ↓rLt, ↓rGt, ↓rLe, ↓rGe, ↓rOrd, ↓rIn, ↓rIs, ↓isNone, ↓truD, ↓frzAll, ↓diA, ↓diR1, ↓diR2, ↓dFor, ↓dLc, ↓dLcM, ↓dtYes, ↓wipeD, dat, datL, seqL, L2.CPow, List.getElem?_cons_zero, List.getElem?_cons_succ, List.set_cons_zero, List.set_cons_succ, List.length_cons, List.length_nil, List.map_cons, List.map_nil, upS_same, if_true, if_false, Bool.false_eq_true, true_and, and_true, Bool.not_true, Bool.not_false, Bool.true_xor, Bool.false_xor, eqv_int, eqv_str, eqv_bool, dp_int, dp_str, dp_bool, dp_none, al_int, al_str, min00, ne_int, ne_str, mapM_p, atD_zero, atD_one, atD_two, atD_three, PyData.isTuple, PyData.isInt, PyData.isStr, PyData.isBool, PyData.isList, PyData.isDict, Nat.reduceAdd, Int.cast_ofNat_Int, Int.reduceEq, Int.reduceAdd, Int.reduceSub, decide_true, decide_false, decide_eq_true_eq, ↓reduceIte, reduceCtorEq]
  refine ⟨min_le60 dl, ?_⟩
  by_cases e2 : l = .is (some 1)
  · simp only [↓dSeq, ↓dNext, ↓dSet, ↓dDrop, ↓dRet, ↓dRetN, ↓dIfS, ↓dAsg, ↓dBreak, ↓dCont, ↓dVar, ↓dC, ↓dOp, ↓dTB, ↓dtAnd, ↓dtOr, ↓dtNot, ↓dTru, ↓dAnd, ↓dOr, ↓dNot, ↓dIf, ↓dChain, ↓dCall, ↓dCB, ↓dCons, ↓dNil, ↓dStar, ↓dTup, ↓dLst, ↓dLstM, ↓dIsa, ↓dApp, ↓dNeg, ↓gdName, ↓gdTup, ↓gdCons, ↓gdNil, ↓gdSub, ↓rIx_tup, ↓rIx_str, ↓rIx_lst, ↓rIx_ref, ↓rSetL, ↓rSl, ↓dSl, ↓doNone, ↓doSome, ↓rAdd, ↓rSub, ↓rMul, ↓rMod, ↓rFdiv, ↓rPow, ↓rShl, ↓rShr, ↓rBand, ↓rBor, ↓rInt, ↓cInt, ↓cLen_tup, ↓cLen_str, ↓cLen_lst, ↓cLen_ref, ↓cTuple, ↓cSorted, ↓cMax2, ↓rEq, ↓rNe, ↓rLt, ↓rGt, ↓rLe, ↓rGe, ↓rOrd, ↓rIn, ↓rIs, ↓isNone, ↓truD, ↓frzAll, ↓diA, ↓diR1, ↓diR2, ↓dFor, ↓dLc, ↓dLcM, ↓dtYes, ↓wipeD, dat, datL, seqL, L2.CPow, List.getElem?_cons_zero, List.getElem?_cons_succ, List.set_cons_zero, List.set_cons_succ, List.length_cons, List.length_nil, List.map_cons, List.map_nil, upS_same, if_true, if_false, Bool.false_eq_true, true_and, and_true, Bool.not_true, Bool.not_false, Bool.true_xor, Bool.false_xor, eqv_int, eqv_str, eqv_bool, dp_int, dp_str, dp_bool, dp_none, al_int, al_str, min00, ne_int, ne_str, mapM_p, atD_zero, atD_one, atD_two, atD_three, PyData.isTuple, PyData.isInt, PyData.isStr, PyData.isBool, PyData.isList, PyData.isDict, Nat.reduceAdd, Int.cast_ofNat_Int, Int.reduceEq, Int.reduceAdd, Int.reduceSub, decide_true, decide_false, decide_eq_true_eq, ↓reduceIte, reduceCtorEq, (show PyData.eqv l.enc (.tuple [.str "is", .int 1]) = true by rw [show PyData.tuple [.str "is", .int 1] = (Pap.is (some 1)).enc from rfl, eqv_pap]; simpa using e2), ↓t__crossing_1]
    exact done (.inr (.inl e2))
  simp only [↓dSeq, ↓dNext, ↓dSet, ↓dDrop, ↓dRet, ↓dRetN, ↓dIfS, ↓dAsg, ↓dBreak, ↓dCont, ↓dVar, ↓dC, ↓dOp, ↓dTB, ↓dtAnd, ↓dtOr, ↓dtNot, ↓dTru, ↓dAnd, ↓dOr, ↓dNot, ↓dIf, ↓dChain, ↓dCall, ↓dCB, ↓dCons, ↓dNil, ↓dStar, ↓dTup, ↓dLst, ↓dLstM, ↓dIsa, ↓dApp, ↓dNeg, ↓gdName, ↓gdTup, ↓gdCons, ↓gdNil, ↓gdSub, ↓rIx_tup, ↓rIx_str, ↓rIx_lst, ↓rIx_ref, ↓rSetL, ↓rSl, ↓dSl, ↓doNone, ↓doSome, ↓rAdd, ↓rSub, ↓rMul, ↓rMod, ↓rFdiv, ↓rPow, ↓rShl, ↓rShr, ↓rBand, ↓rBor, ↓rInt, ↓cInt, ↓cLen_tup, ↓cLen_str, ↓cLen_lst, ↓cLen_ref, ↓cTuple, ↓cSorted, ↓cMax2, ↓rEq, ↓rNe, ↓rLt, ↓rGt, ↓rLe, ↓rGe, ↓rOrd, ↓rIn, ↓rIs, ↓isNone, ↓truD, ↓frzAll, ↓diA, ↓diR1, ↓diR2, ↓dFor, ↓dLc, ↓dLcM, ↓dtYes, ↓wipeD, dat, datL, seqL, L2.CPow, List.getElem?_cons_zero, List.getElem?_cons_succ, List.set_cons_zero, List.set_cons_succ, List.length_cons, List.length_nil, List.map_cons, List.map_nil, upS_same, if_true, if_false, Bool.false_eq_true, true_and, and_true, Bool.not_true, Bool.not_false, Bool.true_xor, Bool.false_xor, eqv_int, eqv_str, eqv_bool, dp_int, dp_str, dp_bool, dp_none, al_int, al_str, min00, ne_int, ne_str, mapM_p, atD_zero, atD_one, atD_two, atD_three, PyData.isTuple, PyData.isInt, PyData.isStr, PyData.isBool, PyData.isList, PyData.isDict, Nat.reduceAdd, Int.cast_ofNat_Int, Int.reduceEq, Int.reduceAdd, Int.reduceSub, decide_true, decide_false, decide_eq_true_eq, ↓reduceIte, reduceCtorEq, (show PyData.eqv l.enc (.tuple [.str "is", .int 1]) = false by rw [show PyData.tuple [.str "is", .int 1] = (Pap.is (some 1)).enc from rfl, eqv_pap]; simpa using e2)]
  refine ⟨_, rfl, ?_⟩
  simp only [↓dSeq, ↓dNext, ↓dSet, ↓dDrop, ↓dRet, ↓dRetN, ↓dIfS, ↓dAsg, ↓dBreak, ↓dCont, ↓dVar, ↓dC, ↓dOp, ↓dTB, ↓dtAnd, ↓dtOr, ↓dtNot, ↓dTru, ↓dAnd, ↓dOr, ↓dNot, ↓dIf, ↓dChain, ↓dCall, ↓dCB, ↓dCons, ↓dNil, ↓dStar, ↓dTup, ↓dLst, ↓dLstM, ↓dIsa, ↓dApp, ↓dNeg, ↓gdName, ↓gdTup, ↓gdCons, ↓gdNil, ↓gdSub, ↓rIx_tup, ↓rIx_str, ↓rIx_lst, ↓rIx_ref, ↓rSetL, ↓rSl, ↓dSl, ↓doNone, ↓doSome, ↓rAdd, ↓rSub, ↓rMul, ↓rMod, ↓rFdiv, ↓rPow, ↓rShl, ↓rShr, ↓rBand, ↓rBor, ↓rInt, ↓cInt, ↓cLen_tup, ↓cLen_str, ↓cLen_lst, ↓cLen_ref, ↓cTuple, ↓cSorted, ↓cMax2, ↓rEq, ↓rNe, ↓rLt, ↓rGt, ↓rLe, ↓rGe, ↓rOrd, ↓rIn, ↓rIs, ↓isNone, ↓truD, ↓frzAll, ↓diA, ↓diR1, ↓diR2, ↓dFor, ↓dLc, ↓dLcM, ↓dtYes, ↓wipeD, dat, datL, seqL, L2.CPow, List.getElem?_cons_zero, List.getElem?_cons_succ, List.set_cons_zero, List.set_cons_succ, List.length_cons, List.length_nil, List.map_cons, List.map_nil, upS_same, if_true, if_false, Bool.false_eq_true, true_and, and_true, Bool.not_true, Bool.not_false, Bool.true_xor, Bool.false_xor, eqv_int, eqv_str, eqv_bool, dp_int, dp_str, dp_bool, dp_none, al_int, al_str, min00, ne_int, ne_str, mapM_p, atD_zero, atD_one, atD_two, atD_three, PyData.isTuple, PyData.isInt, PyData.isStr, PyData.isBool, PyData.isList, PyData.isDict, Nat.reduceAdd, Int.cast_ofNat_Int, Int.reduceEq, Int.reduceAdd, Int.reduceSub, decide_true, decide_false, decide_eq_true_eq, ↓reduceIte, reduceCtorEq]
  refine ⟨min_le60 du, ?_⟩
  by_cases e3 : u = .is (some 0)
  · simp only [↓dSeq, ↓dNext, ↓dSet, ↓dDrop, ↓dRet, ↓dRetN, ↓dIfS, ↓dAsg, ↓dBreak, ↓dCont, ↓dVar, ↓dC, ↓dOp, ↓dTB, ↓dtAnd, ↓dtOr, ↓dtNot, ↓dTru, ↓dAnd, ↓dOr, ↓dNot, ↓dIf, ↓dChain, ↓dCall, ↓dCB, ↓dCons, ↓dNil, ↓dStar, ↓dTup, ↓dLst, ↓dLstM, ↓dIsa, ↓dApp, ↓dNeg, ↓gdName, ↓gdTup, ↓gdCons, ↓gdNil, ↓gdSub, ↓rIx_tup, ↓rIx_str, ↓rIx_lst, ↓rIx_ref, ↓rSetL, ↓rSl, ↓dSl, ↓doNone, ↓doSome, ↓rAdd, ↓rSub, ↓rMul, ↓rMod, ↓rFdiv, ↓rPow, ↓rShl, ↓rShr, ↓rBand, ↓rBor, ↓rInt, ↓cInt, ↓cLen_tup, ↓cLen_str, ↓cLen_lst, ↓cLen_ref, ↓cTuple, ↓cSorted, ↓cMax2, ↓rEq, ↓rNe, ↓rLt, ↓rGt, ↓rLe, ↓rGe, ↓rOrd, ↓rIn, ↓rIs, ↓isNone, ↓truD, ↓frzAll, ↓diA, ↓diR1, ↓diR2, ↓dFor, ↓dLc, ↓dLcM, ↓dtYes, ↓wipeD, dat, datL, seqL, L2.CPow, List.getElem?_cons_zero, List.getElem?_cons_succ, List.set_cons_zero, List.set_cons_succ, List.length_cons, List.length_nil, List.map_cons, List.map_nil, upS_same, if_true, if_false, Bool.false_eq_true, true_and, and_true, Bool.not_true, Bool.not_false, Bool.true_xor, Bool.false_xor, eqv_int, eqv_str, eqv_bool, dp_int, dp_str, dp_bool, dp_none, al_int, al_str, min00, ne_int, ne_str, mapM_p, atD_zero, atD_one, atD_two, atD_three, PyData.isTuple, PyData.isInt, PyData.isStr, PyData.isBool, PyData.isList, PyData.isDict, Nat.reduceAdd, Int.cast_ofNat_Int, Int.reduceEq, Int.reduceAdd, Int.reduceSub, decide_true, decide_false, decide_eq_true_eq, ↓reduceIte, reduceCtorEq, (show PyData.eqv u.enc (.tuple [.str "is", .int 0]) = true by rw [show PyData.tuple [.str "is", .int 0] = (Pap.is (some 0)).enc from rfl, eqv_pap]; simpa using e3), ↓t__crossing_1]
    exact done (.inr (.inr e3))
  simp only [↓dSeq, ↓dNext, ↓dSet, ↓dDrop, ↓dRet, ↓dRetN, ↓dIfS, ↓dAsg, ↓dBreak, ↓dCont, ↓dVar, ↓dC, ↓dOp, ↓dTB, ↓dtAnd, ↓dtOr, ↓dtNot, ↓dTru, ↓dAnd, ↓dOr, ↓dNot, ↓dIf, ↓dChain, ↓dCall, ↓dCB, ↓dCons, ↓dNil, ↓dStar, ↓dTup, ↓dLst, ↓dLstM, ↓dIsa, ↓dApp, ↓dNeg, ↓gdName, ↓gdTup, ↓gdCons, ↓gdNil, ↓gdSub, ↓rIx_tup, ↓rIx_str, ↓rIx_lst, ↓rIx_ref, ↓rSetL, ↓rSl, ↓dSl, ↓doNone, ↓doSome, ↓rAdd, ↓rSub, ↓rMul, ↓rMod, ↓rFdiv, ↓rPow, ↓rShl, ↓rShr, ↓rBand, ↓rBor, ↓rInt, ↓cInt, ↓cLen_tup, ↓cLen_str, ↓cLen_lst, ↓cLen_ref, ↓cTuple, ↓cSorted, ↓cMax2, ↓rEq, ↓rNe, ↓rLt, ↓rGt, ↓rLe, ↓rGe, ↓rOrd, ↓rIn, ↓rIs, ↓isNone, ↓truD, ↓frzAll, ↓diA, ↓diR1, ↓diR2, ↓dFor, ↓dLc, ↓dLcM, ↓dtYes, ↓wipeD, dat, datL, seqL, L2.CPow, List.getElem?_cons_zero, List.getElem?_cons_succ, List.set_cons_zero, List.set_cons_succ, List.length_cons, List.length_nil, List.map_cons, List.map_nil, upS_same, if_true, if_false, Bool.false_eq_true, true_and, and_true, Bool.not_true, Bool.not_false, Bool.true_xor, Bool.false_xor, eqv_int, eqv_str, eqv_bool, dp_int, dp_str, dp_bool, dp_none, al_int, al_str, min00, ne_int, ne_str, mapM_p, atD_zero, atD_one, atD_two, atD_three, PyData.isTuple, PyData.isInt, PyData.isStr, PyData.isBool, PyData.isList, PyData.isDict, Nat.reduceAdd, Int.cast_ofNat_Int, Int.reduceEq, Int.reduceAdd, Int.reduceSub, decide_true, decide_false, decide_eq_true_eq, ↓reduceIte, reduceCtorEq, (show PyData.eqv u.enc (.tuple [.str "is", .int 0]) = false by rw [show PyData.tuple [.str "is", .int 0] = (Pap.is (some 0)).enc from rfl, eqv_pap]; simpa using e3), ↓t__crossing_13]
  refine ⟨l, rfl, ?_⟩
  simp only [↓dSeq, ↓dNext, ↓dSet, ↓dDrop, ↓dRet, ↓dRetN, ↓dIfS, ↓dAsg, ↓dBreak, ↓dCont, ↓dVar, ↓dC, ↓dOp, ↓dTB, ↓dtAnd, ↓dtOr, ↓dtNot, ↓dTru, ↓dAnd, ↓dOr, ↓dNot, ↓dIf, ↓dChain, ↓dCall, ↓dCB, ↓dCons, ↓dNil, ↓dStar, ↓dTup, ↓dLst, ↓dLstM, ↓dIsa, ↓dApp, ↓dNeg, ↓gdName, ↓gdTup, ↓gdCons, ↓gdNil, ↓gdSub, ↓rIx_tup, ↓rIx_str, ↓rIx_lst, ↓rIx_ref, ↓rSetL, ↓rSl, ↓dSl, ↓doNone, ↓doSome, ↓rAdd, ↓rSub, ↓rMul, ↓rMod, ↓rFdiv, ↓rPow, ↓rShl, ↓rShr, ↓rBand, ↓rBor, ↓rInt, ↓cInt, ↓cLen_tup, ↓cLen_str, ↓cLen_lst, ↓cLen_ref, ↓cTuple, ↓cSorted, ↓cMax2, ↓rEq, ↓rNe, ↓rLt, ↓rGt, ↓rLe, ↓rGe, ↓rOrd, ↓rIn, ↓rIs, ↓isNone, ↓truD, ↓frzAll, ↓diA, ↓diR1, ↓diR2, ↓dFor, ↓dLc, ↓dLcM, ↓dtYes, ↓wipeD, dat, datL, seqL, L2.CPow, List.getElem?_cons_zero, List.getElem?_cons_succ, List.set_cons_zero, List.set_cons_succ, List.length_cons, List.length_nil, List.map_cons, List.map_nil, upS_same, if_true, if_false, Bool.false_eq_true, true_and, and_true, Bool.not_true, Bool.not_false, Bool.true_xor, Bool.false_xor, eqv_int, eqv_str, eqv_bool, dp_int, dp_str, dp_bool, dp_none, al_int, al_str, min00, ne_int, ne_str, mapM_p, atD_zero, atD_one, atD_two, atD_three, PyData.isTuple, PyData.isInt, PyData.isStr, PyData.isBool, PyData.isList, PyData.isDict, Nat.reduceAdd, Int.cast_ofNat_Int, Int.reduceEq, Int.reduceAdd, Int.reduceSub, decide_true, decide_false, decide_eq_true_eq, ↓reduceIte, reduceCtorEq]
  refine ⟨u, rfl, ?_⟩
  simp only [↓dSeq, ↓dNext, ↓dSet, ↓dDrop, ↓dRet, ↓dRetN, ↓dIfS, ↓dAsg, ↓dBreak, ↓dCont, ↓dVar, ↓dC, ↓dOp, ↓dTB, ↓dtAnd, ↓dtOr, ↓dtNot, ↓dTru, ↓dAnd, ↓dOr, ↓dNot, ↓dIf, ↓dChain, ↓dCall, ↓dCB, ↓dCons, ↓dNil, ↓dStar, ↓dTup, ↓dLst, ↓dLstM, ↓dIsa, ↓dApp, ↓dNeg, ↓gdName, ↓gdTup, ↓gdCons, ↓gdNil, ↓gdSub, ↓rIx_tup, ↓rIx_str, ↓rIx_lst, ↓rIx_ref, ↓rSetL, ↓rSl, ↓dSl, ↓doNone, ↓doSome, ↓rAdd, ↓rSub, ↓rMul, ↓rMod, ↓rFdiv, ↓rPow, ↓rShl, ↓rShr, ↓rBand, ↓rBor, ↓rInt, ↓cInt, ↓cLen_tup, ↓cLen_str, ↓cLen_lst, ↓cLen_ref, ↓cTuple, ↓cSorted, ↓cMax2, ↓rEq, ↓rNe, ↓rLt, ↓rGt, ↓rLe, ↓rGe, ↓rOrd, ↓rIn, ↓rIs, ↓isNone, ↓truD, ↓frzAll, ↓diA, ↓diR1, ↓diR2, ↓dFor, ↓dLc, ↓dLcM, ↓dtYes, ↓wipeD, dat, datL, seqL, L2.CPow, List.getElem?_cons_zero, List.getElem?_cons_succ, List.set_cons_zero, List.set_cons_succ, List.length_cons, List.length_nil, List.map_cons, List.map_nil, upS_same, if_true, if_false, Bool.false_eq_true, true_and, and_true, Bool.not_true, Bool.not_false, Bool.true_xor, Bool.false_xor, eqv_int, eqv_str, eqv_bool, dp_int, dp_str, dp_bool, dp_none, al_int, al_str, min00, ne_int, ne_str, mapM_p, atD_zero, atD_one, atD_two, atD_three, PyData.isTuple, PyData.isInt, PyData.isStr, PyData.isBool, PyData.isList, PyData.isDict, Nat.reduceAdd, Int.cast_ofNat_Int, Int.reduceEq, Int.reduceAdd, Int.reduceSub, decide_true, decide_false, decide_eq_true_eq, ↓reduceIte, reduceCtorEq]
  have t1 := top_depth l
  have t2 := top_depth u
  refine ⟨⟨top_alike l u, top_alike u l, top_alike l l, top_alike u u, top_ne l, top_ne u, by omega⟩, ?_⟩
  obtain ⟨r, hr, hcase⟩ := top_max ol ou
  rw [hr]
  rcases hcase with ⟨tl, tu, rfl⟩ | ⟨n, rfl, htop, ll, lu⟩
  · simp only [↓dSeq, ↓dNext, ↓dSet, ↓dDrop, ↓dRet, ↓dRetN, ↓dIfS, ↓dAsg, ↓dBreak, ↓dCont, ↓dVar, ↓dC, ↓dOp, ↓dTB, ↓dtAnd, ↓dtOr, ↓dtNot, ↓dTru, ↓dAnd, ↓dOr, ↓dNot, ↓dIf, ↓dChain, ↓dCall, ↓dCB, ↓dCons, ↓dNil, ↓dStar, ↓dTup, ↓dLst, ↓dLstM, ↓dIsa, ↓dApp, ↓dNeg, ↓gdName, ↓gdTup, ↓gdCons, ↓gdNil, ↓gdSub, ↓rIx_tup, ↓rIx_str, ↓rIx_lst, ↓rIx_ref, ↓rSetL, ↓rSl, ↓dSl, ↓doNone, ↓doSome, ↓rAdd, ↓rSub, ↓rMul, ↓rMod, ↓rFdiv, ↓rPow, ↓rShl, ↓rShr, ↓rBand, ↓rBor, ↓rInt, ↓cInt, ↓cLen_tup, ↓cLen_str, ↓cLen_lst, ↓cLen_ref, ↓cTuple, ↓cSorted, ↓cMax2, ↓rEq, ↓rNe, ↓rLt, ↓rGt, ↓rLe, ↓rGe, ↓rOrd, ↓rIn, ↓rIs, ↓isNone, ↓truD, ↓frzAll, ↓diA, ↓diR1, ↓diR2, ↓dFor, ↓dLc, ↓dLcM, ↓dtYes, ↓wipeD, dat, datL, seqL, L2.CPow, List.getElem?_cons_zero, List.getElem?_cons_succ, List.set_cons_zero, List.set_cons_succ, List.length_cons, List.length_nil, List.map_cons, List.map_nil, upS_same, if_true, if_false, Bool.false_eq_true, true_and, and_true, Bool.not_true, Bool.not_false, Bool.true_xor, Bool.false_xor, eqv_int, eqv_str, eqv_bool, dp_int, dp_str, dp_bool, dp_none, al_int, al_str, min00, ne_int, ne_str, mapM_p, atD_zero, atD_one, atD_two, atD_three, PyData.isTuple, PyData.isInt, PyData.isStr, PyData.isBool, PyData.isList, PyData.isDict, Nat.reduceAdd, Int.cast_ofNat_Int, Int.reduceEq, Int.reduceAdd, Int.reduceSub, decide_true, decide_false, decide_eq_true_eq, ↓reduceIte, reduceCtorEq, ↓t__crossing_12, List.isEmpty_nil, ↓t__crossing_2]
    exact ⟨by decide, Fin.same (hQ (some []) (cross_ends bl bu tl tu e1 e2 e3) fun c z => by cases z; simp)⟩
  have ls := Pap.stands_ht (n := n) (p := l)
  have us := Pap.stands_ht (n := n) (p := u)
  have lg := Pap.gone_ht (n := n) (p := l)
  have ug := Pap.gone_ht (n := n) (p := u)
  have hs1 : (l.stands n).ht + (u.stands n).ht < k := by
    rcases htop with h | h
    · have := Pap.stands_lt h; omega
    · have := Pap.stands_lt h; omega
  have hs2 : (l.gone n).ht + (u.gone n).ht < k := by
    rcases htop with h | h
    · have := Pap.gone_lt h; omega
    · have := Pap.gone_lt h; omega
  have hmem : n ∈ l.names ∨ n ∈ u.names := by
    rcases htop with h | h
    · left; cases l with
      | is v => cases h
      | br m s g => cases h; simp [Pap.names]
    · right; cases u with
      | is v => cases h
      | br m s g => cases h; simp [Pap.names]
  have ol1 := Pap.stands_ok ol ll
  have ou1 := Pap.stands_ok ou lu
  have ol2 := Pap.gone_ok ol ll
  have ou2 := Pap.gone_ok ou lu
  have hne : truD S (D.p n.enc) = some true := rfl
  simp only [↓dSeq, ↓dNext, ↓dSet, ↓dDrop, ↓dRet, ↓dRetN, ↓dIfS, ↓dAsg, ↓dBreak, ↓dCont, ↓dVar, ↓dC, ↓dOp, ↓dTB, ↓dtAnd, ↓dtOr, ↓dtNot, ↓dTru, ↓dAnd, ↓dOr, ↓dNot, ↓dIf, ↓dChain, ↓dCall, ↓dCB, ↓dCons, ↓dNil, ↓dStar, ↓dTup, ↓dLst, ↓dLstM, ↓dIsa, ↓dApp, ↓dNeg, ↓gdName, ↓gdTup, ↓gdCons, ↓gdNil, ↓gdSub, ↓rIx_tup, ↓rIx_str, ↓rIx_lst, ↓rIx_ref, ↓rSetL, ↓rSl, ↓dSl, ↓doNone, ↓doSome, ↓rAdd, ↓rSub, ↓rMul, ↓rMod, ↓rFdiv, ↓rPow, ↓rShl, ↓rShr, ↓rBand, ↓rBor, ↓rInt, ↓cInt, ↓cLen_tup, ↓cLen_str, ↓cLen_lst, ↓cLen_ref, ↓cTuple, ↓cSorted, ↓cMax2, ↓rEq, ↓rNe, ↓rLt, ↓rGt, ↓rLe, ↓rGe, ↓rOrd, ↓rIn, ↓rIs, ↓isNone, ↓truD, ↓frzAll, ↓diA, ↓diR1, ↓diR2, ↓dFor, ↓dLc, ↓dLcM, ↓dtYes, ↓wipeD, dat, datL, seqL, L2.CPow, List.getElem?_cons_zero, List.getElem?_cons_succ, List.set_cons_zero, List.set_cons_succ, List.length_cons, List.length_nil, List.map_cons, List.map_nil, upS_same, if_true, if_false, Bool.false_eq_true, true_and, and_true, Bool.not_true, Bool.not_false, Bool.true_xor, Bool.false_xor, eqv_int, eqv_str, eqv_bool, dp_int, dp_str, dp_bool, dp_none, al_int, al_str, min00, ne_int, ne_str, mapM_p, atD_zero, atD_one, atD_two, atD_three, PyData.isTuple, PyData.isInt, PyData.isStr, PyData.isBool, PyData.isList, PyData.isDict, Nat.reduceAdd, Int.cast_ofNat_Int, Int.reduceEq, Int.reduceAdd, Int.reduceSub, decide_true, decide_false, decide_eq_true_eq, ↓reduceIte, reduceCtorEq, ↓t__crossing_12, ↓hne, ↓t__crossing_11]
  refine ⟨l, n, rfl, ?_⟩
  simp only [↓dSeq, ↓dNext, ↓dSet, ↓dDrop, ↓dRet, ↓dRetN, ↓dIfS, ↓dAsg, ↓dBreak, ↓dCont, ↓dVar, ↓dC, ↓dOp, ↓dTB, ↓dtAnd, ↓dtOr, ↓dtNot, ↓dTru, ↓dAnd, ↓dOr, ↓dNot, ↓dIf, ↓dChain, ↓dCall, ↓dCB, ↓dCons, ↓dNil, ↓dStar, ↓dTup, ↓dLst, ↓dLstM, ↓dIsa, ↓dApp, ↓dNeg, ↓gdName, ↓gdTup, ↓gdCons, ↓gdNil, ↓gdSub, ↓rIx_tup, ↓rIx_str, ↓rIx_lst, ↓rIx_ref, ↓rSetL, ↓rSl, ↓dSl, ↓doNone, ↓doSome, ↓rAdd, ↓rSub, ↓rMul, ↓rMod, ↓rFdiv, ↓rPow, ↓rShl, ↓rShr, ↓rBand, ↓rBor, ↓rInt, ↓cInt, ↓cLen_tup, ↓cLen_str, ↓cLen_lst, ↓cLen_ref, ↓cTuple, ↓cSorted, ↓cMax2, ↓rEq, ↓rNe, ↓rLt, ↓rGt, ↓rLe, ↓rGe, ↓rOrd, ↓rIn, ↓rIs, ↓isNone, ↓truD, ↓frzAll, ↓diA, ↓diR1, ↓diR2, ↓dFor, ↓dLc, ↓dLcM, ↓dtYes, ↓wipeD, dat, datL, seqL, L2.CPow, List.getElem?_cons_zero, List.getElem?_cons_succ, List.set_cons_zero, List.set_cons_succ, List.length_cons, List.length_nil, List.map_cons, List.map_nil, upS_same, if_true, if_false, Bool.false_eq_true, true_and, and_true, Bool.not_true, Bool.not_false, Bool.true_xor, Bool.false_xor, eqv_int, eqv_str, eqv_bool, dp_int, dp_str, dp_bool, dp_none, al_int, al_str, min00, ne_int, ne_str, mapM_p, atD_zero, atD_one, atD_two, atD_three, PyData.isTuple, PyData.isInt, PyData.isStr, PyData.isBool, PyData.isList, PyData.isDict, Nat.reduceAdd, Int.cast_ofNat_Int, Int.reduceEq, Int.reduceAdd, Int.reduceSub, decide_true, decide_false, decide_eq_true_eq, ↓reduceIte, reduceCtorEq, ↓t__crossing_10]
  refine ⟨u, n, rfl, ?_⟩
  simp only [↓dSeq, ↓dNext, ↓dSet, ↓dDrop, ↓dRet, ↓dRetN, ↓dIfS, ↓dAsg, ↓dBreak, ↓dCont, ↓dVar, ↓dC, ↓dOp, ↓dTB, ↓dtAnd, ↓dtOr, ↓dtNot, ↓dTru, ↓dAnd, ↓dOr, ↓dNot, ↓dIf, ↓dChain, ↓dCall, ↓dCB, ↓dCons, ↓dNil, ↓dStar, ↓dTup, ↓dLst, ↓dLstM, ↓dIsa, ↓dApp, ↓dNeg, ↓gdName, ↓gdTup, ↓gdCons, ↓gdNil, ↓gdSub, ↓rIx_tup, ↓rIx_str, ↓rIx_lst, ↓rIx_ref, ↓rSetL, ↓rSl, ↓dSl, ↓doNone, ↓doSome, ↓rAdd, ↓rSub, ↓rMul, ↓rMod, ↓rFdiv, ↓rPow, ↓rShl, ↓rShr, ↓rBand, ↓rBor, ↓rInt, ↓cInt, ↓cLen_tup, ↓cLen_str, ↓cLen_lst, ↓cLen_ref, ↓cTuple, ↓cSorted, ↓cMax2, ↓rEq, ↓rNe, ↓rLt, ↓rGt, ↓rLe, ↓rGe, ↓rOrd, ↓rIn, ↓rIs, ↓isNone, ↓truD, ↓frzAll, ↓diA, ↓diR1, ↓diR2, ↓dFor, ↓dLc, ↓dLcM, ↓dtYes, ↓wipeD, dat, datL, seqL, L2.CPow, List.getElem?_cons_zero, List.getElem?_cons_succ, List.set_cons_zero, List.set_cons_succ, List.length_cons, List.length_nil, List.map_cons, List.map_nil, upS_same, if_true, if_false, Bool.false_eq_true, true_and, and_true, Bool.not_true, Bool.not_false, Bool.true_xor, Bool.false_xor, eqv_int, eqv_str, eqv_bool, dp_int, dp_str, dp_bool, dp_none, al_int, al_str, min00, ne_int, ne_str, mapM_p, atD_zero, atD_one, atD_two, atD_three, PyData.isTuple, PyData.isInt, PyData.isStr, PyData.isBool, PyData.isList, PyData.isDict, Nat.reduceAdd, Int.cast_ofNat_Int, Int.reduceEq, Int.reduceAdd, Int.reduceSub, decide_true, decide_false, decide_eq_true_eq, ↓reduceIte, reduceCtorEq, ↓t__crossing_9]
  refine ⟨_, _, rfl, ol1.1, ou1.1, bin_stands bl n, bin_stands bu n, hs1, by omega, fun r1 hr1 hlen1 => ?_⟩
  cases r1 with
  | some c =>
    simp only [↓dSeq, ↓dNext, ↓dSet, ↓dDrop, ↓dRet, ↓dRetN, ↓dIfS, ↓dAsg, ↓dBreak, ↓dCont, ↓dVar, ↓dC, ↓dOp, ↓dTB, ↓dtAnd, ↓dtOr, ↓dtNot, ↓dTru, ↓dAnd, ↓dOr, ↓dNot, ↓dIf, ↓dChain, ↓dCall, ↓dCB, ↓dCons, ↓dNil, ↓dStar, ↓dTup, ↓dLst, ↓dLstM, ↓dIsa, ↓dApp, ↓dNeg, ↓gdName, ↓gdTup, ↓gdCons, ↓gdNil, ↓gdSub, ↓rIx_tup, ↓rIx_str, ↓rIx_lst, ↓rIx_ref, ↓rSetL, ↓rSl, ↓dSl, ↓doNone, ↓doSome, ↓rAdd, ↓rSub, ↓rMul, ↓rMod, ↓rFdiv, ↓rPow, ↓rShl, ↓rShr, ↓rBand, ↓rBor, ↓rInt, ↓cInt, ↓cLen_tup, ↓cLen_str, ↓cLen_lst, ↓cLen_ref, ↓cTuple, ↓cSorted, ↓cMax2, ↓rEq, ↓rNe, ↓rLt, ↓rGt, ↓rLe, ↓rGe, ↓rOrd, ↓rIn, ↓rIs, ↓isNone, ↓truD, ↓frzAll, ↓diA, ↓diR1, ↓diR2, ↓dFor, ↓dLc, ↓dLcM, ↓dtYes, ↓wipeD, dat, datL, seqL, L2.CPow, List.getElem?_cons_zero, List.getElem?_cons_succ, List.set_cons_zero, List.set_cons_succ, List.length_cons, List.length_nil, List.map_cons, List.map_nil, upS_same, if_true, if_false, Bool.false_eq_true, true_and, and_true, Bool.not_true, Bool.not_false, Bool.true_xor, Bool.false_xor, eqv_int, eqv_str, eqv_bool, dp_int, dp_str, dp_bool, dp_none, al_int, al_str, min00, ne_int, ne_str, mapM_p, atD_zero, atD_one, atD_two, atD_three, PyData.isTuple, PyData.isInt, PyData.isStr, PyData.isBool, PyData.isList, PyData.isDict, Nat.reduceAdd, Int.cast_ofNat_Int, Int.reduceEq, Int.reduceAdd, Int.reduceSub, decide_true, decide_false, decide_eq_true_eq, ↓reduceIte, reduceCtorEq, ↓t__crossing_8, encC, ↓t__crossing_3]
    exact Fin.same (hQ (some c) (cross_stands ol ou ll lu hr1) fun c' z => by cases z; have := hlen1 c rfl; omega)
  | none =>
    simp only [↓dSeq, ↓dNext, ↓dSet, ↓dDrop, ↓dRet, ↓dRetN, ↓dIfS, ↓dAsg, ↓dBreak, ↓dCont, ↓dVar, ↓dC, ↓dOp, ↓dTB, ↓dtAnd, ↓dtOr, ↓dtNot, ↓dTru, ↓dAnd, ↓dOr, ↓dNot, ↓dIf, ↓dChain, ↓dCall, ↓dCB, ↓dCons, ↓dNil, ↓dStar, ↓dTup, ↓dLst, ↓dLstM, ↓dIsa, ↓dApp, ↓dNeg, ↓gdName, ↓gdTup, ↓gdCons, ↓gdNil, ↓gdSub, ↓rIx_tup, ↓rIx_str, ↓rIx_lst, ↓rIx_ref, ↓rSetL, ↓rSl, ↓dSl, ↓doNone, ↓doSome, ↓rAdd, ↓rSub, ↓rMul, ↓rMod, ↓rFdiv, ↓rPow, ↓rShl, ↓rShr, ↓rBand, ↓rBor, ↓rInt, ↓cInt, ↓cLen_tup, ↓cLen_str, ↓cLen_lst, ↓cLen_ref, ↓cTuple, ↓cSorted, ↓cMax2, ↓rEq, ↓rNe, ↓rLt, ↓rGt, ↓rLe, ↓rGe, ↓rOrd, ↓rIn, ↓rIs, ↓isNone, ↓truD, ↓frzAll, ↓diA, ↓diR1, ↓diR2, ↓dFor, ↓dLc, ↓dLcM, ↓dtYes, ↓wipeD, dat, datL, seqL, L2.CPow, List.getElem?_cons_zero, List.getElem?_cons_succ, List.set_cons_zero, List.set_cons_succ, List.length_cons, List.length_nil, List.map_cons, List.map_nil, upS_same, if_true, if_false, Bool.false_eq_true, true_and, and_true, Bool.not_true, Bool.not_false, Bool.true_xor, Bool.false_xor, eqv_int, eqv_str, eqv_bool, dp_int, dp_str, dp_bool, dp_none, al_int, al_str, min00, ne_int, ne_str, mapM_p, atD_zero, atD_one, atD_two, atD_three, PyData.isTuple, PyData.isInt, PyData.isStr, PyData.isBool, PyData.isList, PyData.isDict, Nat.reduceAdd, Int.cast_ofNat_Int, Int.reduceEq, Int.reduceAdd, Int.reduceSub, decide_true, decide_false, decide_eq_true_eq, ↓reduceIte, reduceCtorEq, ↓t__crossing_8, encC, ↓t__crossing_7]
    refine ⟨_, _, rfl, ol2.1, ou2.1, bin_gone bl n, bin_gone bu n, hs2, by omega, fun r2 hr2 hlen2 => ?_⟩
    cases r2 with
    | some c =>
      have hc := cross_gone ol ou ll lu hmem hr2
      have hcl := hlen2 c rfl
      simp only [↓dSeq, ↓dNext, ↓dSet, ↓dDrop, ↓dRet, ↓dRetN, ↓dIfS, ↓dAsg, ↓dBreak, ↓dCont, ↓dVar, ↓dC, ↓dOp, ↓dTB, ↓dtAnd, ↓dtOr, ↓dtNot, ↓dTru, ↓dAnd, ↓dOr, ↓dNot, ↓dIf, ↓dChain, ↓dCall, ↓dCB, ↓dCons, ↓dNil, ↓dStar, ↓dTup, ↓dLst, ↓dLstM, ↓dIsa, ↓dApp, ↓dNeg, ↓gdName, ↓gdTup, ↓gdCons, ↓gdNil, ↓gdSub, ↓rIx_tup, ↓rIx_str, ↓rIx_lst, ↓rIx_ref, ↓rSetL, ↓rSl, ↓dSl, ↓doNone, ↓doSome, ↓rAdd, ↓rSub, ↓rMul, ↓rMod, ↓rFdiv, ↓rPow, ↓rShl, ↓rShr, ↓rBand, ↓rBor, ↓rInt, ↓cInt, ↓cLen_tup, ↓cLen_str, ↓cLen_lst, ↓cLen_ref, ↓cTuple, ↓cSorted, ↓cMax2, ↓rEq, ↓rNe, ↓rLt, ↓rGt, ↓rLe, ↓rGe, ↓rOrd, ↓rIn, ↓rIs, ↓isNone, ↓truD, ↓frzAll, ↓diA, ↓diR1, ↓diR2, ↓dFor, ↓dLc, ↓dLcM, ↓dtYes, ↓wipeD, dat, datL, seqL, L2.CPow, List.getElem?_cons_zero, List.getElem?_cons_succ, List.set_cons_zero, List.set_cons_succ, List.length_cons, List.length_nil, List.map_cons, List.map_nil, upS_same, if_true, if_false, Bool.false_eq_true, true_and, and_true, Bool.not_true, Bool.not_false, Bool.true_xor, Bool.false_xor, eqv_int, eqv_str, eqv_bool, dp_int, dp_str, dp_bool, dp_none, al_int, al_str, min00, ne_int, ne_str, mapM_p, atD_zero, atD_one, atD_two, atD_three, PyData.isTuple, PyData.isInt, PyData.isStr, PyData.isBool, PyData.isList, PyData.isDict, Nat.reduceAdd, Int.cast_ofNat_Int, Int.reduceEq, Int.reduceAdd, Int.reduceSub, decide_true, decide_false, decide_eq_true_eq, ↓reduceIte, reduceCtorEq, ↓t__crossing_6, encC, ↓t__crossing_4, frzAll_snoc]
      refine ⟨small (by simp; omega), Fin.same ?_⟩
      have := hQ (some (c ++ [n])) hc fun c' z => by cases z; simp; omega
      simpa [encC] using this
    | none =>
      simp only [↓dSeq, ↓dNext, ↓dSet, ↓dDrop, ↓dRet, ↓dRetN, ↓dIfS, ↓dAsg, ↓dBreak, ↓dCont, ↓dVar, ↓dC, ↓dOp, ↓dTB, ↓dtAnd, ↓dtOr, ↓dtNot, ↓dTru, ↓dAnd, ↓dOr, ↓dNot, ↓dIf, ↓dChain, ↓dCall, ↓dCB, ↓dCons, ↓dNil, ↓dStar, ↓dTup, ↓dLst, ↓dLstM, ↓dIsa, ↓dApp, ↓dNeg, ↓gdName, ↓gdTup, ↓gdCons, ↓gdNil, ↓gdSub, ↓rIx_tup, ↓rIx_str, ↓rIx_lst, ↓rIx_ref, ↓rSetL, ↓rSl, ↓dSl, ↓doNone, ↓doSome, ↓rAdd, ↓rSub, ↓rMul, ↓rMod, ↓rFdiv, ↓rPow, ↓rShl, ↓rShr, ↓rBand, ↓rBor, ↓rInt, ↓cInt, ↓cLen_tup, ↓cLen_str, ↓cLen_lst, ↓cLen_ref, ↓cTuple, ↓cSorted, ↓cMax2, ↓rEq, ↓rNe, ↓rLt, ↓rGt, ↓rLe, ↓rGe, ↓rOrd, ↓rIn, ↓rIs, ↓isNone, ↓truD, ↓frzAll, ↓diA, ↓diR1, ↓diR2, ↓dFor, ↓dLc, ↓dLcM, ↓dtYes, ↓wipeD, dat, datL, seqL, L2.CPow, List.getElem?_cons_zero, List.getElem?_cons_succ, List.set_cons_zero, List.set_cons_succ, List.length_cons, List.length_nil, List.map_cons, List.map_nil, upS_same, if_true, if_false, Bool.false_eq_true, true_and, and_true, Bool.not_true, Bool.not_false, Bool.true_xor, Bool.false_xor, eqv_int, eqv_str, eqv_bool, dp_int, dp_str, dp_bool, dp_none, al_int, al_str, min00, ne_int, ne_str, mapM_p, atD_zero, atD_one, atD_two, atD_three, PyData.isTuple, PyData.isInt, PyData.isStr, PyData.isBool, PyData.isList, PyData.isDict, Nat.reduceAdd, Int.cast_ofNat_Int, Int.reduceEq, Int.reduceAdd, Int.reduceSub, decide_true, decide_false, decide_eq_true_eq, ↓reduceIte, reduceCtorEq, ↓t__crossing_6, encC, ↓t__crossing_5]
      exact Fin.same (hQ none (cross_none ol ou ll lu hr1 hr2) fun c' z => nomatch z)
theorem depth_encC (c : List Nm) : (encC (some c)).depth ≤ 2 := by
  simp only [encC, PyData.depth]
  have := depthAll_nm c
  omega

end Sh

set_option Elab.async false
set_option linter.all false
set_option autoImplicit false
set_option maxRecDepth 100000
set_option maxHeartbeats 2000000
/-! Sx, part D2: falls -/
namespace Sh
open PySem Tx Mx

/-! ### fall -/
def encF : Option (List Nm × Nm) → PyData
  | none => .none
  | some (c, n) => .tuple [.tuple (c.map Nm.enc), n.enc]
structure PapG (p : Pap) (k : Nat) : Prop where
  ordd : p.Ordd
  bin : p.Bin
  ht : p.ht ≤ k
def FallR (p : Pap) (k : Nat) (r : Option (List Nm × Nm)) : Prop := FallOk p r ∧ ∀ c n, r = some (c, n) → c.length ≤ 30 + k
def sp_fall (k : Nat) : DSp := fun ds S Q => ∃ p : Pap, ds = [D.p p.enc] ∧ PapG p 10 ∧ p.ht < k ∧ k ≤ 20 ∧ ∀ r, FallR p k r → Q (D.p (encF r)) S
theorem hs_fall (k : Nat) (ds : List D) (S : Sto) (Q : DQ) (hl : ds.length = 1) (h : sp_fall (k + 1) ds S Q) : t_fall (sp_cross 30) (sp_fall k) { nx := fun _ S' => Fin Q (.p .none) S', rt := Fin Q } (dstart 7 ds) S := by
  obtain ⟨p, rfl, hG, hk, hk20, hQ⟩ := h
  show t_fall _ _ _ [some (D.p p.enc), none, none, none, none, none, none] S
  cases p with
  | is v =>
    simp only [Pap.enc]
    simp only [↓dSeq, ↓dNext, ↓dSet, ↓dDrop, ↓dRet, ↓dRetN, ↓dIfS, ↓dAsg, ↓dBreak, ↓dCont, ↓dVar, ↓dC, ↓dOp, ↓dTB, ↓dtAnd, ↓dtOr, ↓dtNot, ↓dTru, ↓dAnd, ↓dOr, ↓dNot, ↓dIf, ↓dChain, ↓dCall, ↓dCB, ↓dCons, ↓dNil, ↓dStar, ↓dTup, ↓dLst, ↓dLstM, ↓dIsa, ↓dApp, ↓dNeg, ↓gdName, ↓gdTup, ↓gdCons, ↓gdNil, ↓gdSub, ↓rIx_tup, ↓rIx_str, ↓rIx_lst, ↓rIx_ref, ↓rSetL, ↓rSl, ↓dSl, ↓doNone, ↓doSome, ↓rAdd, ↓rSub, ↓rMul, ↓rMod, ↓rFdiv, ↓rPow, ↓rShl, ↓rShr, ↓rBand, ↓rBor, ↓rInt, ↓cInt, ↓cLen_tup, ↓cLen_str, ↓cLen_lst, ↓cLen_ref, ↓cTuple, ↓cSorted, ↓cMax2, ↓rEq, ↓rNe, ↓rLt, ↓rGt, ↓rLe, ↓rGe, ↓rOrd, ↓rIn, ↓rIs, ↓isNone, ↓truD, ↓frzAll, ↓diA, ↓diR1, ↓diR2, ↓dFor, ↓dLc, ↓dLcM, ↓dtYes, ↓wipeD, dat, datL, seqL, L2.CPow, List.getElem?_cons_zero, List.getElem?_cons_succ, List.set_cons_zero, List.set_cons_succ, List.length_cons, List.length_nil, List.map_cons, List.map_nil, upS_same, if_true, if_false, Bool.false_eq_true, true_and, and_true, Bool.not_true, Bool.not_false, Bool.true_xor, Bool.false_xor, eqv_int, eqv_str, eqv_bool, dp_int, dp_str, dp_bool, dp_none, al_int, al_str, min00, ne_int, ne_str, mapM_p, atD_zero, atD_one, atD_two, atD_three, PyData.isTuple, PyData.isInt, PyData.isStr, PyData.isBool, PyData.isList, PyData.isDict, Nat.reduceAdd, Int.cast_ofNat_Int, Int.reduceEq, Int.reduceAdd, Int.reduceSub, decide_true, decide_false, decide_eq_true_eq, ↓reduceIte, reduceCtorEq, ↓t_fall, ↓t_fall_1]
    exact Fin.same (hQ none ⟨fall_end, fun _ _ z => nomatch z⟩)
  | br n s g =>
    have hbs : s.Bin := fun v hv => hG.bin v (by simp [Pap.vals, hv])
    have hbg : g.Bin := fun v hv => hG.bin v (by simp [Pap.vals, hv])
    have hh := hG.ht
    simp only [Pap.ht] at hh hk
    simp only [Pap.enc]
    simp only [↓dSeq, ↓dNext, ↓dSet, ↓dDrop, ↓dRet, ↓dRetN, ↓dIfS, ↓dAsg, ↓dBreak, ↓dCont, ↓dVar, ↓dC, ↓dOp, ↓dTB, ↓dtAnd, ↓dtOr, ↓dtNot, ↓dTru, ↓dAnd, ↓dOr, ↓dNot, ↓dIf, ↓dChain, ↓dCall, ↓dCB, ↓dCons, ↓dNil, ↓dStar, ↓dTup, ↓dLst, ↓dLstM, ↓dIsa, ↓dApp, ↓dNeg, ↓gdName, ↓gdTup, ↓gdCons, ↓gdNil, ↓gdSub, ↓rIx_tup, ↓rIx_str, ↓rIx_lst, ↓rIx_ref, ↓rSetL, ↓rSl, ↓dSl, ↓doNone, ↓doSome, ↓rAdd, ↓rSub, ↓rMul, ↓rMod, ↓rFdiv, ↓rPow, ↓rShl, ↓rShr, ↓rBand, ↓rBor, ↓rInt, ↓cInt, ↓cLen_tup, ↓cLen_str, ↓cLen_lst, ↓cLen_ref, ↓cTuple, ↓cSorted, ↓cMax2, ↓rEq, ↓rNe, ↓rLt, ↓rGt, ↓rLe, ↓rGe, ↓rOrd, ↓rIn, ↓rIs, ↓isNone, ↓truD, ↓frzAll, ↓diA, ↓diR1, ↓diR2, ↓dFor, ↓dLc, ↓dLcM, ↓dtYes, ↓wipeD, dat, datL, seqL, L2.CPow, List.getElem?_cons_zero, List.getElem?_cons_succ, List.set_cons_zero, List.set_cons_succ, List.length_cons, List.length_nil, List.map_cons, List.map_nil, upS_same, if_true, if_false, Bool.false_eq_true, true_and, and_true, Bool.not_true, Bool.not_false, Bool.true_xor, Bool.false_xor, eqv_int, eqv_str, eqv_bool, dp_int, dp_str, dp_bool, dp_none, al_int, al_str, min00, ne_int, ne_str, mapM_p, atD_zero, atD_one, atD_two, atD_three, PyData.isTuple, PyData.isInt, PyData.isStr, PyData.isBool, PyData.isList, PyData.isDict, Nat.reduceAdd, Int.cast_ofNat_Int, Int.reduceEq, Int.reduceAdd, Int.reduceSub, decide_true, decide_false, decide_eq_true_eq, ↓reduceIte, reduceCtorEq, ↓t_fall, is_ne_if]
    simp only [↓dSeq, ↓dNext, ↓dSet, ↓dDrop, ↓dRet, ↓dRetN, ↓dIfS, ↓dAsg, ↓dBreak, ↓dCont, ↓dVar, ↓dC, ↓dOp, ↓dTB, ↓dtAnd, ↓dtOr, ↓dtNot, ↓dTru, ↓dAnd, ↓dOr, ↓dNot, ↓dIf, ↓dChain, ↓dCall, ↓dCB, ↓dCons, ↓dNil, ↓dStar, ↓dTup, ↓dLst, ↓dLstM, ↓dIsa, ↓dApp, ↓dNeg, ↓rIx_tup, ↓rIx_str, ↓rIx_lst, ↓rIx_ref, ↓rSetL, ↓rSl, ↓dSl, ↓doNone, ↓doSome, ↓rAdd, ↓rSub, ↓rMul, ↓rMod, ↓rFdiv, ↓rPow, ↓rShl, ↓rShr, ↓rBand, ↓rBor, ↓rInt, ↓cInt, ↓cLen_tup, ↓cLen_str, ↓cLen_lst, ↓cLen_ref, ↓cTuple, ↓cSorted, ↓cMax2, ↓rEq, ↓rNe, ↓rLt, ↓rGt, ↓rLe, ↓rGe, ↓rOrd, ↓rIn, ↓rIs, ↓isNone, ↓truD, ↓frzAll, ↓diA, ↓diR1, ↓diR2, ↓dFor, ↓dLc, ↓dLcM, ↓dtYes, ↓wipeD, dat, datL, seqL, L2.CPow, List.getElem?_cons_zero, List.getElem?_cons_succ, List.set_cons_zero, List.set_cons_succ, List.length_cons, List.length_nil, List.map_cons, List.map_nil, upS_same, if_true, if_false, Bool.false_eq_true, true_and, and_true, Bool.not_true, Bool.not_false, Bool.true_xor, Bool.false_xor, eqv_int, eqv_str, eqv_bool, dp_int, dp_str, dp_bool, dp_none, al_int, al_str, min00, ne_int, ne_str, mapM_p, atD_zero, atD_one, atD_two, atD_three, PyData.isTuple, PyData.isInt, PyData.isStr, PyData.isBool, PyData.isList, PyData.isDict, Nat.reduceAdd, Int.cast_ofNat_Int, Int.reduceEq, Int.reduceAdd, Int.reduceSub, decide_true, decide_false, decide_eq_true_eq, ↓reduceIte, reduceCtorEq, ↓t_fall_12]
    simp only [↓gdTup, List.length_cons, List.length_nil, Nat.reduceAdd, true_and, List.map_cons, List.map_nil]
    simp only [↓gdCons, ↓gdName, ↓gdNil, true_and]
    simp only [List.set_cons_zero, List.set_cons_succ]
    simp only [↓dSeq, ↓dNext, ↓dSet, ↓dDrop, ↓dRet, ↓dRetN, ↓dIfS, ↓dAsg, ↓dBreak, ↓dCont, ↓dVar, ↓dC, ↓dOp, ↓dTB, ↓dtAnd, ↓dtOr, ↓dtNot, ↓dTru, ↓dAnd, ↓dOr, ↓dNot, ↓dIf, ↓dChain, ↓dCall, ↓dCB, ↓dCons, ↓dNil, ↓dStar, ↓dTup, ↓dLst, ↓dLstM, ↓dIsa, ↓dApp, ↓dNeg, ↓gdName, ↓gdTup, ↓gdCons, ↓gdNil, ↓gdSub, ↓rIx_tup, ↓rIx_str, ↓rIx_lst, ↓rIx_ref, ↓rSetL, ↓rSl, ↓dSl, ↓doNone, ↓doSome, ↓rAdd, ↓rSub, ↓rMul, ↓rMod, ↓rFdiv, ↓rPow, ↓rShl, ↓rShr, ↓rBand, ↓rBor, ↓rInt, ↓cInt, ↓cLen_tup, ↓cLen_str, ↓cLen_lst, ↓cLen_ref, ↓cTuple, ↓cSorted, ↓cMax2, ↓rEq, ↓rNe, ↓rLt, ↓rGt, ↓rLe, ↓rGe, ↓rOrd, ↓rIn, ↓rIs, ↓isNone, ↓truD, ↓frzAll, ↓diA, ↓diR1, ↓diR2, ↓dFor, ↓dLc, ↓dLcM, ↓dtYes, ↓wipeD, dat, datL, seqL, L2.CPow, List.getElem?_cons_zero, List.getElem?_cons_succ, List.set_cons_zero, List.set_cons_succ, List.length_cons, List.length_nil, List.map_cons, List.map_nil, upS_same, if_true, if_false, Bool.false_eq_true, true_and, and_true, Bool.not_true, Bool.not_false, Bool.true_xor, Bool.false_xor, eqv_int, eqv_str, eqv_bool, dp_int, dp_str, dp_bool, dp_none, al_int, al_str, min00, ne_int, ne_str, mapM_p, atD_zero, atD_one, atD_two, atD_three, PyData.isTuple, PyData.isInt, PyData.isStr, PyData.isBool, PyData.isList, PyData.isDict, Nat.reduceAdd, Int.cast_ofNat_Int, Int.reduceEq, Int.reduceAdd, Int.reduceSub, decide_true, decide_false, decide_eq_true_eq, ↓reduceIte, reduceCtorEq, ↓t_fall_11]
    refine ⟨s, g, rfl, hG.ordd.1, hG.ordd.2.1, hbs, hbg, by omega, by omega, fun r1 hr1 hlen1 => ?_⟩
    cases r1 with
    | some c =>
      have := hlen1 c rfl
      simp only [↓dSeq, ↓dNext, ↓dSet, ↓dDrop, ↓dRet, ↓dRetN, ↓dIfS, ↓dAsg, ↓dBreak, ↓dCont, ↓dVar, ↓dC, ↓dOp, ↓dTB, ↓dtAnd, ↓dtOr, ↓dtNot, ↓dTru, ↓dAnd, ↓dOr, ↓dNot, ↓dIf, ↓dChain, ↓dCall, ↓dCB, ↓dCons, ↓dNil, ↓dStar, ↓dTup, ↓dLst, ↓dLstM, ↓dIsa, ↓dApp, ↓dNeg, ↓gdName, ↓gdTup, ↓gdCons, ↓gdNil, ↓gdSub, ↓rIx_tup, ↓rIx_str, ↓rIx_lst, ↓rIx_ref, ↓rSetL, ↓rSl, ↓dSl, ↓doNone, ↓doSome, ↓rAdd, ↓rSub, ↓rMul, ↓rMod, ↓rFdiv, ↓rPow, ↓rShl, ↓rShr, ↓rBand, ↓rBor, ↓rInt, ↓cInt, ↓cLen_tup, ↓cLen_str, ↓cLen_lst, ↓cLen_ref, ↓cTuple, ↓cSorted, ↓cMax2, ↓rEq, ↓rNe, ↓rLt, ↓rGt, ↓rLe, ↓rGe, ↓rOrd, ↓rIn, ↓rIs, ↓isNone, ↓truD, ↓frzAll, ↓diA, ↓diR1, ↓diR2, ↓dFor, ↓dLc, ↓dLcM, ↓dtYes, ↓wipeD, dat, datL, seqL, L2.CPow, List.getElem?_cons_zero, List.getElem?_cons_succ, List.set_cons_zero, List.set_cons_succ, List.length_cons, List.length_nil, List.map_cons, List.map_nil, upS_same, if_true, if_false, Bool.false_eq_true, true_and, and_true, Bool.not_true, Bool.not_false, Bool.true_xor, Bool.false_xor, eqv_int, eqv_str, eqv_bool, dp_int, dp_str, dp_bool, dp_none, al_int, al_str, min00, ne_int, ne_str, mapM_p, atD_zero, atD_one, atD_two, atD_three, PyData.isTuple, PyData.isInt, PyData.isStr, PyData.isBool, PyData.isList, PyData.isDict, Nat.reduceAdd, Int.cast_ofNat_Int, Int.reduceEq, Int.reduceAdd, Int.reduceSub, decide_true, decide_false, decide_eq_true_eq, ↓reduceIte, reduceCtorEq, ↓t_fall_10, encC, ↓t_fall_2]
      exact ⟨by decide, Fin.same (hQ (some (c, n)) ⟨fall_cross hG.ordd hr1, fun c' n' z => by cases z; omega⟩)⟩
    | none =>
      simp only [↓dSeq, ↓dNext, ↓dSet, ↓dDrop, ↓dRet, ↓dRetN, ↓dIfS, ↓dAsg, ↓dBreak, ↓dCont, ↓dVar, ↓dC, ↓dOp, ↓dTB, ↓dtAnd, ↓dtOr, ↓dtNot, ↓dTru, ↓dAnd, ↓dOr, ↓dNot, ↓dIf, ↓dChain, ↓dCall, ↓dCB, ↓dCons, ↓dNil, ↓dStar, ↓dTup, ↓dLst, ↓dLstM, ↓dIsa, ↓dApp, ↓dNeg, ↓gdName, ↓gdTup, ↓gdCons, ↓gdNil, ↓gdSub, ↓rIx_tup, ↓rIx_str, ↓rIx_lst, ↓rIx_ref, ↓rSetL, ↓rSl, ↓dSl, ↓doNone, ↓doSome, ↓rAdd, ↓rSub, ↓rMul, ↓rMod, ↓rFdiv, ↓rPow, ↓rShl, ↓rShr, ↓rBand, ↓rBor, ↓rInt, ↓cInt, ↓cLen_tup, ↓cLen_str, ↓cLen_lst, ↓cLen_ref, ↓cTuple, ↓cSorted, ↓cMax2, ↓rEq, ↓rNe, ↓rLt, ↓rGt, ↓rLe, ↓rGe, ↓rOrd, ↓rIn, ↓rIs, ↓isNone, ↓truD, ↓frzAll, ↓diA, ↓diR1, ↓diR2, ↓dFor, ↓dLc, ↓dLcM, ↓dtYes, ↓wipeD, dat, datL, seqL, L2.CPow, List.getElem?_cons_zero, List.getElem?_cons_succ, List.set_cons_zero, List.set_cons_succ, List.length_cons, List.length_nil, List.map_cons, List.map_nil, upS_same, if_true, if_false, Bool.false_eq_true, true_and, and_true, Bool.not_true, Bool.not_false, Bool.true_xor, Bool.false_xor, eqv_int, eqv_str, eqv_bool, dp_int, dp_str, dp_bool, dp_none, al_int, al_str, min00, ne_int, ne_str, mapM_p, atD_zero, atD_one, atD_two, atD_three, PyData.isTuple, PyData.isInt, PyData.isStr, PyData.isBool, PyData.isList, PyData.isDict, Nat.reduceAdd, Int.cast_ofNat_Int, Int.reduceEq, Int.reduceAdd, Int.reduceSub, decide_true, decide_false, decide_eq_true_eq, ↓reduceIte, reduceCtorEq, ↓t_fall_10, encC, ↓t_fall_9]
      refine ⟨s, rfl, ⟨hG.ordd.1, hbs, by omega⟩, by omega, by omega, fun r2 hr2 => ?_⟩
      cases r2 with
      | some x =>
        obtain ⟨c, m⟩ := x
        have := hr2.2 c m rfl
        simp only [↓dSeq, ↓dNext, ↓dSet, ↓dDrop, ↓dRet, ↓dRetN, ↓dIfS, ↓dAsg, ↓dBreak, ↓dCont, ↓dVar, ↓dC, ↓dOp, ↓dTB, ↓dtAnd, ↓dtOr, ↓dtNot, ↓dTru, ↓dAnd, ↓dOr, ↓dNot, ↓dIf, ↓dChain, ↓dCall, ↓dCB, ↓dCons, ↓dNil, ↓dStar, ↓dTup, ↓dLst, ↓dLstM, ↓dIsa, ↓dApp, ↓dNeg, ↓gdName, ↓gdTup, ↓gdCons, ↓gdNil, ↓gdSub, ↓rIx_tup, ↓rIx_str, ↓rIx_lst, ↓rIx_ref, ↓rSetL, ↓rSl, ↓dSl, ↓doNone, ↓doSome, ↓rAdd, ↓rSub, ↓rMul, ↓rMod, ↓rFdiv, ↓rPow, ↓rShl, ↓rShr, ↓rBand, ↓rBor, ↓rInt, ↓cInt, ↓cLen_tup, ↓cLen_str, ↓cLen_lst, ↓cLen_ref, ↓cTuple, ↓cSorted, ↓cMax2, ↓rEq, ↓rNe, ↓rLt, ↓rGt, ↓rLe, ↓rGe, ↓rOrd, ↓rIn, ↓rIs, ↓isNone, ↓truD, ↓frzAll, ↓diA, ↓diR1, ↓diR2, ↓dFor, ↓dLc, ↓dLcM, ↓dtYes, ↓wipeD, dat, datL, seqL, L2.CPow, List.getElem?_cons_zero, List.getElem?_cons_succ, List.set_cons_zero, List.set_cons_succ, List.length_cons, List.length_nil, List.map_cons, List.map_nil, upS_same, if_true, if_false, Bool.false_eq_true, true_and, and_true, Bool.not_true, Bool.not_false, Bool.true_xor, Bool.false_xor, eqv_int, eqv_str, eqv_bool, dp_int, dp_str, dp_bool, dp_none, al_int, al_str, min00, ne_int, ne_str, mapM_p, atD_zero, atD_one, atD_two, atD_three, PyData.isTuple, PyData.isInt, PyData.isStr, PyData.isBool, PyData.isList, PyData.isDict, Nat.reduceAdd, Int.cast_ofNat_Int, Int.reduceEq, Int.reduceAdd, Int.reduceSub, decide_true, decide_false, decide_eq_true_eq, ↓reduceIte, reduceCtorEq, ↓t_fall_8, encF, ↓t_fall_3]
        exact Fin.same (hQ (some (c, m)) ⟨fall_stands hG.ordd hr2.1, fun c' n' z => by cases z; omega⟩)
      | none =>
        simp only [↓dSeq, ↓dNext, ↓dSet, ↓dDrop, ↓dRet, ↓dRetN, ↓dIfS, ↓dAsg, ↓dBreak, ↓dCont, ↓dVar, ↓dC, ↓dOp, ↓dTB, ↓dtAnd, ↓dtOr, ↓dtNot, ↓dTru, ↓dAnd, ↓dOr, ↓dNot, ↓dIf, ↓dChain, ↓dCall, ↓dCB, ↓dCons, ↓dNil, ↓dStar, ↓dTup, ↓dLst, ↓dLstM, ↓dIsa, ↓dApp, ↓dNeg, ↓gdName, ↓gdTup, ↓gdCons, ↓gdNil, ↓gdSub, ↓rIx_tup, ↓rIx_str, ↓rIx_lst, ↓rIx_ref, ↓rSetL, ↓rSl, ↓dSl, ↓doNone, ↓doSome, ↓rAdd, ↓rSub, ↓rMul, ↓rMod, ↓rFdiv, ↓rPow, ↓rShl, ↓rShr, ↓rBand, ↓rBor, ↓rInt, ↓cInt, ↓cLen_tup, ↓cLen_str, ↓cLen_lst, ↓cLen_ref, ↓cTuple, ↓cSorted, ↓cMax2, ↓rEq, ↓rNe, ↓rLt, ↓rGt, ↓rLe, ↓rGe, ↓rOrd, ↓rIn, ↓rIs, ↓isNone, ↓truD, ↓frzAll, ↓diA, ↓diR1, ↓diR2, ↓dFor, ↓dLc, ↓dLcM, ↓dtYes, ↓wipeD, dat, datL, seqL, L2.CPow, List.getElem?_cons_zero, List.getElem?_cons_succ, List.set_cons_zero, List.set_cons_succ, List.length_cons, List.length_nil, List.map_cons, List.map_nil, upS_same, if_true, if_false, Bool.false_eq_true, true_and, and_true, Bool.not_true, Bool.not_false, Bool.true_xor, Bool.false_xor, eqv_int, eqv_str, eqv_bool, dp_int, dp_str, dp_bool, dp_none, al_int, al_str, min00, ne_int, ne_str, mapM_p, atD_zero, atD_one, atD_two, atD_three, PyData.isTuple, PyData.isInt, PyData.isStr, PyData.isBool, PyData.isList, PyData.isDict, Nat.reduceAdd, Int.cast_ofNat_Int, Int.reduceEq, Int.reduceAdd, Int.reduceSub, decide_true, decide_false, decide_eq_true_eq, ↓reduceIte, reduceCtorEq, ↓t_fall_8, encF, ↓t_fall_7]
        refine ⟨g, rfl, ⟨hG.ordd.2.1, hbg, by omega⟩, by omega, by omega, fun r3 hr3 => ?_⟩
        cases r3 with
        | some x =>
          obtain ⟨c, m⟩ := x
          have := hr3.2 c m rfl
          simp only [↓dSeq, ↓dNext, ↓dSet, ↓dDrop, ↓dRet, ↓dRetN, ↓dIfS, ↓dAsg, ↓dBreak, ↓dCont, ↓dVar, ↓dC, ↓dOp, ↓dTB, ↓dtAnd, ↓dtOr, ↓dtNot, ↓dTru, ↓dAnd, ↓dOr, ↓dNot, ↓dIf, ↓dChain, ↓dCall, ↓dCB, ↓dCons, ↓dNil, ↓dStar, ↓dTup, ↓dLst, ↓dLstM, ↓dIsa, ↓dApp, ↓dNeg, ↓gdName, ↓gdTup, ↓gdCons, ↓gdNil, ↓gdSub, ↓rIx_tup, ↓rIx_str, ↓rIx_lst, ↓rIx_ref, ↓rSetL, ↓rSl, ↓dSl, ↓doNone, ↓doSome, ↓rAdd, ↓rSub, ↓rMul, ↓rMod, ↓rFdiv, ↓rPow, ↓rShl, ↓rShr, ↓rBand, ↓rBor, ↓rInt, ↓cInt, ↓cLen_tup, ↓cLen_str, ↓cLen_lst, ↓cLen_ref, ↓cTuple, ↓cSorted, ↓cMax2, ↓rEq, ↓rNe, ↓rLt, ↓rGt, ↓rLe, ↓rGe, ↓rOrd, ↓rIn, ↓rIs, ↓isNone, ↓truD, ↓frzAll, ↓diA, ↓diR1, ↓diR2, ↓dFor, ↓dLc, ↓dLcM, ↓dtYes, ↓wipeD, dat, datL, seqL, L2.CPow, List.getElem?_cons_zero, List.getElem?_cons_succ, List.set_cons_zero, List.set_cons_succ, List.length_cons, List.length_nil, List.map_cons, List.map_nil, upS_same, if_true, if_false, Bool.false_eq_true, true_and, and_true, Bool.not_true, Bool.not_false, Bool.true_xor, Bool.false_xor, eqv_int, eqv_str, eqv_bool, dp_int, dp_str, dp_bool, dp_none, al_int, al_str, min00, ne_int, ne_str, mapM_p, atD_zero, atD_one, atD_two, atD_three, PyData.isTuple, PyData.isInt, PyData.isStr, PyData.isBool, PyData.isList, PyData.isDict, Nat.reduceAdd, Int.cast_ofNat_Int, Int.reduceEq, Int.reduceAdd, Int.reduceSub, decide_true, decide_false, decide_eq_true_eq, ↓reduceIte, reduceCtorEq, ↓t_fall_6, encF, ↓t_fall_4, frzAll_snoc]
          refine ⟨small (by simp; omega), by decide, Fin.same ?_⟩
          have := hQ (some (c ++ [n], m)) ⟨fall_gone hG.ordd hr3.1, fun c' n' z => by cases z; simp; omega⟩
          simpa [encF] using this
        | none =>
          simp only [↓dSeq, ↓dNext, ↓dSet, ↓dDrop, ↓dRet, ↓dRetN, ↓dIfS, ↓dAsg, ↓dBreak, ↓dCont, ↓dVar, ↓dC, ↓dOp, ↓dTB, ↓dtAnd, ↓dtOr, ↓dtNot, ↓dTru, ↓dAnd, ↓dOr, ↓dNot, ↓dIf, ↓dChain, ↓dCall, ↓dCB, ↓dCons, ↓dNil, ↓dStar, ↓dTup, ↓dLst, ↓dLstM, ↓dIsa, ↓dApp, ↓dNeg, ↓gdName, ↓gdTup, ↓gdCons, ↓gdNil, ↓gdSub, ↓rIx_tup, ↓rIx_str, ↓rIx_lst, ↓rIx_ref, ↓rSetL, ↓rSl, ↓dSl, ↓doNone, ↓doSome, ↓rAdd, ↓rSub, ↓rMul, ↓rMod, ↓rFdiv, ↓rPow, ↓rShl, ↓rShr, ↓rBand, ↓rBor, ↓rInt, ↓cInt, ↓cLen_tup, ↓cLen_str, ↓cLen_lst, ↓cLen_ref, ↓cTuple, ↓cSorted, ↓cMax2, ↓rEq, ↓rNe, ↓rLt, ↓rGt, ↓rLe, ↓rGe, ↓rOrd, ↓rIn, ↓rIs, ↓isNone, ↓truD, ↓frzAll, ↓diA, ↓diR1, ↓diR2, ↓dFor, ↓dLc, ↓dLcM, ↓dtYes, ↓wipeD, dat, datL, seqL, L2.CPow, List.getElem?_cons_zero, List.getElem?_cons_succ, List.set_cons_zero, List.set_cons_succ, List.length_cons, List.length_nil, List.map_cons, List.map_nil, upS_same, if_true, if_false, Bool.false_eq_true, true_and, and_true, Bool.not_true, Bool.not_false, Bool.true_xor, Bool.false_xor, eqv_int, eqv_str, eqv_bool, dp_int, dp_str, dp_bool, dp_none, al_int, al_str, min00, ne_int, ne_str, mapM_p, atD_zero, atD_one, atD_two, atD_three, PyData.isTuple, PyData.isInt, PyData.isStr, PyData.isBool, PyData.isList, PyData.isDict, Nat.reduceAdd, Int.cast_ofNat_Int, Int.reduceEq, Int.reduceAdd, Int.reduceSub, decide_true, decide_false, decide_eq_true_eq, ↓reduceIte, reduceCtorEq, ↓t_fall_6, encF, ↓t_fall_5]
          exact Fin.same (hQ none ⟨fall_none hG.ordd hr1 hr2.1 hr3.1, fun _ _ z => nomatch z⟩)

/-! ### is_positive, judged -/
theorem rising_of {p : Pap} {k : Nat} {r : Option (List Nm × Nm)} (h : FallR p k r) : r = none ↔ Rising p := by
  cases r with
  | none => exact ⟨fun _ => h.1, fun _ => rfl⟩
  | some x =>
    obtain ⟨c, n⟩ := x
    obtain ⟨⟨_, _, _, h4, h5, h6⟩, _⟩ := h
    exact Iff.intro (fun z => by cases z) (fun hr => (hr c n h4 h5 h6).elim)
def sp_is_positive : DSp := fun ds S Q => ∃ p : Pap, ds = [D.p p.enc] ∧ PapG p 10 ∧ ∀ b : Bool, (b = true ↔ Rising p) → Q (D.p (.bool b)) S
theorem hs_is_positive (ds : List D) (S : Sto) (Q : DQ) (hl : ds.length = 1) (h : sp_is_positive ds S Q) : t_is_positive (sp_fall 11) { nx := fun _ S' => Fin Q (.p .none) S', rt := Fin Q } (dstart 1 ds) S := by
  obtain ⟨p, rfl, hG, hQ⟩ := h
  have := hG.ht
  show t_is_positive _ _ [some (D.p p.enc)] S
  simp only [↓dSeq, ↓dNext, ↓dSet, ↓dDrop, ↓dRet, ↓dRetN, ↓dIfS, ↓dAsg, ↓dBreak, ↓dCont, ↓dVar, ↓dC, ↓dOp, ↓dTB, ↓dtAnd, ↓dtOr, ↓dtNot, ↓dTru, ↓dAnd, ↓dOr, ↓dNot, ↓dIf, ↓dChain, ↓dCall, ↓dCB, ↓dCons, ↓dNil, ↓dStar, ↓dTup, ↓dLst, ↓dLstM, ↓dIsa, ↓dApp, ↓dNeg, ↓gdName, ↓gdTup, ↓gdCons, ↓gdNil, ↓gdSub, ↓rIx_tup, ↓rIx_str, ↓rIx_lst, ↓rIx_ref, ↓rSetL, ↓rSl, ↓dSl, ↓doNone, ↓doSome, ↓rAdd, ↓rSub, ↓rMul, ↓rMod, ↓rFdiv, ↓rPow, ↓rShl, ↓rShr, ↓rBand, ↓rBor, ↓rInt, ↓cInt, ↓cLen_tup, ↓cLen_str, ↓cLen_lst, ↓cLen_ref, ↓cTuple, ↓cSorted, ↓cMax2, ↓rEq, ↓rNe, ↓rLt, ↓rGt, ↓rLe, ↓rGe, ↓rOrd, ↓rIn, ↓rIs, ↓isNone, ↓truD, ↓frzAll, ↓diA, ↓diR1, ↓diR2, ↓dFor, ↓dLc, ↓dLcM, ↓dtYes, ↓wipeD, dat, datL, seqL, L2.CPow, List.getElem?_cons_zero, List.getElem?_cons_succ, List.set_cons_zero, List.set_cons_succ, List.length_cons, List.length_nil, List.map_cons, List.map_nil, upS_same, if_true, if_false, Bool.false_eq_true, true_and, and_true, Bool.not_true, Bool.not_false, Bool.true_xor, Bool.false_xor, eqv_int, eqv_str, eqv_bool, dp_int, dp_str, dp_bool, dp_none, al_int, al_str, min00, ne_int, ne_str, mapM_p, atD_zero, atD_one, atD_two, atD_three, PyData.isTuple, PyData.isInt, PyData.isStr, PyData.isBool, PyData.isList, PyData.isDict, Nat.reduceAdd, Int.cast_ofNat_Int, Int.reduceEq, Int.reduceAdd, Int.reduceSub, decide_true, decide_false, decide_eq_true_eq, ↓reduceIte, reduceCtorEq, ↓t_is_positive]
  refine ⟨p, rfl, hG, by omega, by omega, fun r hr => ?_⟩
  have hrr := rising_of hr
  cases r with
  | none =>
    simp only [↓dSeq, ↓dNext, ↓dSet, ↓dDrop, ↓dRet, ↓dRetN, ↓dIfS, ↓dAsg, ↓dBreak, ↓dCont, ↓dVar, ↓dC, ↓dOp, ↓dTB, ↓dtAnd, ↓dtOr, ↓dtNot, ↓dTru, ↓dAnd, ↓dOr, ↓dNot, ↓dIf, ↓dChain, ↓dCall, ↓dCB, ↓dCons, ↓dNil, ↓dStar, ↓dTup, ↓dLst, ↓dLstM, ↓dIsa, ↓dApp, ↓dNeg, ↓gdName, ↓gdTup, ↓gdCons, ↓gdNil, ↓gdSub, ↓rIx_tup, ↓rIx_str, ↓rIx_lst, ↓rIx_ref, ↓rSetL, ↓rSl, ↓dSl, ↓doNone, ↓doSome, ↓rAdd, ↓rSub, ↓rMul, ↓rMod, ↓rFdiv, ↓rPow, ↓rShl, ↓rShr, ↓rBand, ↓rBor, ↓rInt, ↓cInt, ↓cLen_tup, ↓cLen_str, ↓cLen_lst, ↓cLen_ref, ↓cTuple, ↓cSorted, ↓cMax2, ↓rEq, ↓rNe, ↓rLt, ↓rGt, ↓rLe, ↓rGe, ↓rOrd, ↓rIn, ↓rIs, ↓isNone, ↓truD, ↓frzAll, ↓diA, ↓diR1, ↓diR2, ↓dFor, ↓dLc, ↓dLcM, ↓dtYes, ↓wipeD, dat, datL, seqL, L2.CPow, List.getElem?_cons_zero, List.getElem?_cons_succ, List.set_cons_zero, List.set_cons_succ, List.length_cons, List.length_nil, List.map_cons, List.map_nil, upS_same, if_true, if_false, Bool.false_eq_true, true_and, and_true, Bool.not_true, Bool.not_false, Bool.true_xor, Bool.false_xor, eqv_int, eqv_str, eqv_bool, dp_int, dp_str, dp_bool, dp_none, al_int, al_str, min00, ne_int, ne_str, mapM_p, atD_zero, atD_one, atD_two, atD_three, PyData.isTuple, PyData.isInt, PyData.isStr, PyData.isBool, PyData.isList, PyData.isDict, Nat.reduceAdd, Int.cast_ofNat_Int, Int.reduceEq, Int.reduceAdd, Int.reduceSub, decide_true, decide_false, decide_eq_true_eq, ↓reduceIte, reduceCtorEq, encF]
    exact Fin.same (hQ true ⟨fun _ => hrr.mp rfl, fun _ => rfl⟩)
  | some x =>
    obtain ⟨c, n⟩ := x
    simp only [↓dSeq, ↓dNext, ↓dSet, ↓dDrop, ↓dRet, ↓dRetN, ↓dIfS, ↓dAsg, ↓dBreak, ↓dCont, ↓dVar, ↓dC, ↓dOp, ↓dTB, ↓dtAnd, ↓dtOr, ↓dtNot, ↓dTru, ↓dAnd, ↓dOr, ↓dNot, ↓dIf, ↓dChain, ↓dCall, ↓dCB, ↓dCons, ↓dNil, ↓dStar, ↓dTup, ↓dLst, ↓dLstM, ↓dIsa, ↓dApp, ↓dNeg, ↓gdName, ↓gdTup, ↓gdCons, ↓gdNil, ↓gdSub, ↓rIx_tup, ↓rIx_str, ↓rIx_lst, ↓rIx_ref, ↓rSetL, ↓rSl, ↓dSl, ↓doNone, ↓doSome, ↓rAdd, ↓rSub, ↓rMul, ↓rMod, ↓rFdiv, ↓rPow, ↓rShl, ↓rShr, ↓rBand, ↓rBor, ↓rInt, ↓cInt, ↓cLen_tup, ↓cLen_str, ↓cLen_lst, ↓cLen_ref, ↓cTuple, ↓cSorted, ↓cMax2, ↓rEq, ↓rNe, ↓rLt, ↓rGt, ↓rLe, ↓rGe, ↓rOrd, ↓rIn, ↓rIs, ↓isNone, ↓truD, ↓frzAll, ↓diA, ↓diR1, ↓diR2, ↓dFor, ↓dLc, ↓dLcM, ↓dtYes, ↓wipeD, dat, datL, seqL, L2.CPow, List.getElem?_cons_zero, List.getElem?_cons_succ, List.set_cons_zero, List.set_cons_succ, List.length_cons, List.length_nil, List.map_cons, List.map_nil, upS_same, if_true, if_false, Bool.false_eq_true, true_and, and_true, Bool.not_true, Bool.not_false, Bool.true_xor, Bool.false_xor, eqv_int, eqv_str, eqv_bool, dp_int, dp_str, dp_bool, dp_none, al_int, al_str, min00, ne_int, ne_str, mapM_p, atD_zero, atD_one, atD_two, atD_three, PyData.isTuple, PyData.isInt, PyData.isStr, PyData.isBool, PyData.isList, PyData.isDict, Nat.reduceAdd, Int.cast_ofNat_Int, Int.reduceEq, Int.reduceAdd, Int.reduceSub, decide_true, decide_false, decide_eq_true_eq, ↓reduceIte, reduceCtorEq, encF]
    exact Fin.same (hQ false ⟨fun z => (Bool.false_ne_true z).elim, fun h => nomatch hrr.mpr h⟩)
def sp_judged : DSp := fun ds S Q => ∃ (p : Pap) (b : Bool), ds = [D.p p.enc, D.p (.bool b)] ∧ PapG p 10 ∧ (b = true ↔ Rising p) ∧ Q (D.p (.bool true)) S
theorem hs_judged (ds : List D) (S : Sto) (Q : DQ) (hl : ds.length = 2) (h : sp_judged ds S Q) : t__law_judged sp_is_positive (sp_fall 11) sp_falls { nx := fun _ S' => Fin Q (.p .none) S', rt := Fin Q } (dstart 5 ds) S := by
  obtain ⟨p, b, rfl, hG, hb, hQ⟩ := h
  have hht := hG.ht
  show t__law_judged _ _ _ _ [some (D.p p.enc), some (D.p (.bool b)), none, none, none] S
  simp only [↓dSeq, ↓dNext, ↓dSet, ↓dDrop, ↓dRet, ↓dRetN, ↓dIfS, ↓dAsg, ↓dBreak, ↓dCont, ↓dVar, ↓dC, ↓dOp, ↓dTB, ↓dtAnd, ↓dtOr, ↓dtNot, ↓dTru, ↓dAnd, ↓dOr, ↓dNot, ↓dIf, ↓dChain, ↓dCall, ↓dCB, ↓dCons, ↓dNil, ↓dStar, ↓dTup, ↓dLst, ↓dLstM, ↓dIsa, ↓dApp, ↓dNeg, ↓gdName, ↓gdTup, ↓gdCons, ↓gdNil, ↓gdSub, ↓rIx_tup, ↓rIx_str, ↓rIx_lst, ↓rIx_ref, ↓rSetL, ↓rSl, ↓dSl, ↓doNone, ↓doSome, ↓rAdd, ↓rSub, ↓rMul, ↓rMod, ↓rFdiv, ↓rPow, ↓rShl, ↓rShr, ↓rBand, ↓rBor, ↓rInt, ↓cInt, ↓cLen_tup, ↓cLen_str, ↓cLen_lst, ↓cLen_ref, ↓cTuple, ↓cSorted, ↓cMax2, ↓rEq, ↓rNe, ↓rLt, ↓rGt, ↓rLe, ↓rGe, ↓rOrd, ↓rIn, ↓rIs, ↓isNone, ↓truD, ↓frzAll, ↓diA, ↓diR1, ↓diR2, ↓dFor, ↓dLc, ↓dLcM, ↓dtYes, ↓wipeD, dat, datL, seqL, L2.CPow, List.getElem?_cons_zero, List.getElem?_cons_succ, List.set_cons_zero, List.set_cons_succ, List.length_cons, List.length_nil, List.map_cons, List.map_nil, upS_same, if_true, if_false, Bool.false_eq_true, true_and, and_true, Bool.not_true, Bool.not_false, Bool.true_xor, Bool.false_xor, eqv_int, eqv_str, eqv_bool, dp_int, dp_str, dp_bool, dp_none, al_int, al_str, min00, ne_int, ne_str, mapM_p, atD_zero, atD_one, atD_two, atD_three, PyData.isTuple, PyData.isInt, PyData.isStr, PyData.isBool, PyData.isList, PyData.isDict, Nat.reduceAdd, Int.cast_ofNat_Int, Int.reduceEq, Int.reduceAdd, Int.reduceSub, decide_true, decide_false, decide_eq_true_eq, ↓reduceIte, reduceCtorEq, ↓t__law_judged]
  refine ⟨by decide, ?_⟩
  refine lp_range (fun k env S' => ∃ (e2 e3 e4 : Option D), env = [some (D.p p.enc), some (D.p (.bool b)), e2, e3, e4] ∧ S' = S) ⟨_, _, _, rfl, rfl⟩ ?_ ?_
  · rintro k env S' De' hk ⟨e2, e3, e4, rfl, rfl⟩ hnx - - -
    simp only [↓dSeq, ↓dNext, ↓dSet, ↓dDrop, ↓dRet, ↓dRetN, ↓dIfS, ↓dAsg, ↓dBreak, ↓dCont, ↓dVar, ↓dC, ↓dOp, ↓dTB, ↓dtAnd, ↓dtOr, ↓dtNot, ↓dTru, ↓dAnd, ↓dOr, ↓dNot, ↓dIf, ↓dChain, ↓dCall, ↓dCB, ↓dCons, ↓dNil, ↓dStar, ↓dTup, ↓dLst, ↓dLstM, ↓dIsa, ↓dApp, ↓dNeg, ↓gdName, ↓gdTup, ↓gdCons, ↓gdNil, ↓gdSub, ↓rIx_tup, ↓rIx_str, ↓rIx_lst, ↓rIx_ref, ↓rSetL, ↓rSl, ↓dSl, ↓doNone, ↓doSome, ↓rAdd, ↓rSub, ↓rMul, ↓rMod, ↓rFdiv, ↓rPow, ↓rShl, ↓rShr, ↓rBand, ↓rBor, ↓rInt, ↓cInt, ↓cLen_tup, ↓cLen_str, ↓cLen_lst, ↓cLen_ref, ↓cTuple, ↓cSorted, ↓cMax2, ↓rEq, ↓rNe, ↓rLt, ↓rGt, ↓rLe, ↓rGe, ↓rOrd, ↓rIn, ↓rIs, ↓isNone, ↓truD, ↓frzAll, ↓diA, ↓diR1, ↓diR2, ↓dFor, ↓dLc, ↓dLcM, ↓dtYes, ↓wipeD, dat, datL, seqL, L2.CPow, List.getElem?_cons_zero, List.getElem?_cons_succ, List.set_cons_zero, List.set_cons_succ, List.length_cons, List.length_nil, List.map_cons, List.map_nil, upS_same, if_true, if_false, Bool.false_eq_true, true_and, and_true, Bool.not_true, Bool.not_false, Bool.true_xor, Bool.false_xor, eqv_int, eqv_str, eqv_bool, dp_int, dp_str, dp_bool, dp_none, al_int, al_str, min00, ne_int, ne_str, mapM_p, atD_zero, atD_one, atD_two, atD_three, PyData.isTuple, PyData.isInt, PyData.isStr, PyData.isBool, PyData.isList, PyData.isDict, Nat.reduceAdd, Int.cast_ofNat_Int, Int.reduceEq, Int.reduceAdd, Int.reduceSub, decide_true, decide_false, decide_eq_true_eq, ↓reduceIte, reduceCtorEq, ↓t__law_judged_9]
    refine ⟨p, rfl, hG, fun told htold => ?_⟩
    cases b with
    | true =>
      have ht : told = true := htold.mpr (hb.mp rfl)
      subst ht
      simp only [↓dSeq, ↓dNext, ↓dSet, ↓dDrop, ↓dRet, ↓dRetN, ↓dIfS, ↓dAsg, ↓dBreak, ↓dCont, ↓dVar, ↓dC, ↓dOp, ↓dTB, ↓dtAnd, ↓dtOr, ↓dtNot, ↓dTru, ↓dAnd, ↓dOr, ↓dNot, ↓dIf, ↓dChain, ↓dCall, ↓dCB, ↓dCons, ↓dNil, ↓dStar, ↓dTup, ↓dLst, ↓dLstM, ↓dIsa, ↓dApp, ↓dNeg, ↓gdName, ↓gdTup, ↓gdCons, ↓gdNil, ↓gdSub, ↓rIx_tup, ↓rIx_str, ↓rIx_lst, ↓rIx_ref, ↓rSetL, ↓rSl, ↓dSl, ↓doNone, ↓doSome, ↓rAdd, ↓rSub, ↓rMul, ↓rMod, ↓rFdiv, ↓rPow, ↓rShl, ↓rShr, ↓rBand, ↓rBor, ↓rInt, ↓cInt, ↓cLen_tup, ↓cLen_str, ↓cLen_lst, ↓cLen_ref, ↓cTuple, ↓cSorted, ↓cMax2, ↓rEq, ↓rNe, ↓rLt, ↓rGt, ↓rLe, ↓rGe, ↓rOrd, ↓rIn, ↓rIs, ↓isNone, ↓truD, ↓frzAll, ↓diA, ↓diR1, ↓diR2, ↓dFor, ↓dLc, ↓dLcM, ↓dtYes, ↓wipeD, dat, datL, seqL, L2.CPow, List.getElem?_cons_zero, List.getElem?_cons_succ, List.set_cons_zero, List.set_cons_succ, List.length_cons, List.length_nil, List.map_cons, List.map_nil, upS_same, if_true, if_false, Bool.false_eq_true, true_and, and_true, Bool.not_true, Bool.not_false, Bool.true_xor, Bool.false_xor, eqv_int, eqv_str, eqv_bool, dp_int, dp_str, dp_bool, dp_none, al_int, al_str, min00, ne_int, ne_str, mapM_p, atD_zero, atD_one, atD_two, atD_three, PyData.isTuple, PyData.isInt, PyData.isStr, PyData.isBool, PyData.isList, PyData.isDict, Nat.reduceAdd, Int.cast_ofNat_Int, Int.reduceEq, Int.reduceAdd, Int.reduceSub, decide_true, decide_false, decide_eq_true_eq, ↓reduceIte, reduceCtorEq, ↓t__law_judged_8]
      refine ⟨p, rfl, hG, by omega, by omega, fun r hr => ?_⟩
      have hrn := (rising_of hr).mpr (hb.mp rfl)
      subst hrn
      simp only [↓dSeq, ↓dNext, ↓dSet, ↓dDrop, ↓dRet, ↓dRetN, ↓dIfS, ↓dAsg, ↓dBreak, ↓dCont, ↓dVar, ↓dC, ↓dOp, ↓dTB, ↓dtAnd, ↓dtOr, ↓dtNot, ↓dTru, ↓dAnd, ↓dOr, ↓dNot, ↓dIf, ↓dChain, ↓dCall, ↓dCB, ↓dCons, ↓dNil, ↓dStar, ↓dTup, ↓dLst, ↓dLstM, ↓dIsa, ↓dApp, ↓dNeg, ↓gdName, ↓gdTup, ↓gdCons, ↓gdNil, ↓gdSub, ↓rIx_tup, ↓rIx_str, ↓rIx_lst, ↓rIx_ref, ↓rSetL, ↓rSl, ↓dSl, ↓doNone, ↓doSome, ↓rAdd, ↓rSub, ↓rMul, ↓rMod, ↓rFdiv, ↓rPow, ↓rShl, ↓rShr, ↓rBand, ↓rBor, ↓rInt, ↓cInt, ↓cLen_tup, ↓cLen_str, ↓cLen_lst, ↓cLen_ref, ↓cTuple, ↓cSorted, ↓cMax2, ↓rEq, ↓rNe, ↓rLt, ↓rGt, ↓rLe, ↓rGe, ↓rOrd, ↓rIn, ↓rIs, ↓isNone, ↓truD, ↓frzAll, ↓diA, ↓diR1, ↓diR2, ↓dFor, ↓dLc, ↓dLcM, ↓dtYes, ↓wipeD, dat, datL, seqL, L2.CPow, List.getElem?_cons_zero, List.getElem?_cons_succ, List.set_cons_zero, List.set_cons_succ, List.length_cons, List.length_nil, List.map_cons, List.map_nil, upS_same, if_true, if_false, Bool.false_eq_true, true_and, and_true, Bool.not_true, Bool.not_false, Bool.true_xor, Bool.false_xor, eqv_int, eqv_str, eqv_bool, dp_int, dp_str, dp_bool, dp_none, al_int, al_str, min00, ne_int, ne_str, mapM_p, atD_zero, atD_one, atD_two, atD_three, PyData.isTuple, PyData.isInt, PyData.isStr, PyData.isBool, PyData.isList, PyData.isDict, Nat.reduceAdd, Int.cast_ofNat_Int, Int.reduceEq, Int.reduceAdd, Int.reduceSub, decide_true, decide_false, decide_eq_true_eq, ↓reduceIte, reduceCtorEq, encF, ↓t__law_judged_7]
      exact hnx _ _ trivial ⟨_, _, _, rfl, rfl⟩
    | false =>
      have ht : told = false := by
        cases told with
        | false => rfl
        | true => exact nomatch hb.mpr (htold.mp rfl)
      subst ht
      simp only [↓dSeq, ↓dNext, ↓dSet, ↓dDrop, ↓dRet, ↓dRetN, ↓dIfS, ↓dAsg, ↓dBreak, ↓dCont, ↓dVar, ↓dC, ↓dOp, ↓dTB, ↓dtAnd, ↓dtOr, ↓dtNot, ↓dTru, ↓dAnd, ↓dOr, ↓dNot, ↓dIf, ↓dChain, ↓dCall, ↓dCB, ↓dCons, ↓dNil, ↓dStar, ↓dTup, ↓dLst, ↓dLstM, ↓dIsa, ↓dApp, ↓dNeg, ↓gdName, ↓gdTup, ↓gdCons, ↓gdNil, ↓gdSub, ↓rIx_tup, ↓rIx_str, ↓rIx_lst, ↓rIx_ref, ↓rSetL, ↓rSl, ↓dSl, ↓doNone, ↓doSome, ↓rAdd, ↓rSub, ↓rMul, ↓rMod, ↓rFdiv, ↓rPow, ↓rShl, ↓rShr, ↓rBand, ↓rBor, ↓rInt, ↓cInt, ↓cLen_tup, ↓cLen_str, ↓cLen_lst, ↓cLen_ref, ↓cTuple, ↓cSorted, ↓cMax2, ↓rEq, ↓rNe, ↓rLt, ↓rGt, ↓rLe, ↓rGe, ↓rOrd, ↓rIn, ↓rIs, ↓isNone, ↓truD, ↓frzAll, ↓diA, ↓diR1, ↓diR2, ↓dFor, ↓dLc, ↓dLcM, ↓dtYes, ↓wipeD, dat, datL, seqL, L2.CPow, List.getElem?_cons_zero, List.getElem?_cons_succ, List.set_cons_zero, List.set_cons_succ, List.length_cons, List.length_nil, List.map_cons, List.map_nil, upS_same, if_true, if_false, Bool.false_eq_true, true_and, and_true, Bool.not_true, Bool.not_false, Bool.true_xor, Bool.false_xor, eqv_int, eqv_str, eqv_bool, dp_int, dp_str, dp_bool, dp_none, al_int, al_str, min00, ne_int, ne_str, mapM_p, atD_zero, atD_one, atD_two, atD_three, PyData.isTuple, PyData.isInt, PyData.isStr, PyData.isBool, PyData.isList, PyData.isDict, Nat.reduceAdd, Int.cast_ofNat_Int, Int.reduceEq, Int.reduceAdd, Int.reduceSub, decide_true, decide_false, decide_eq_true_eq, ↓reduceIte, reduceCtorEq, ↓t__law_judged_8, ↓t__law_judged_7, ↓t__law_judged_6]
      refine ⟨p, rfl, hG, by omega, by omega, fun r hr => ?_⟩
      cases r with
      | none => exact nomatch hb.mpr ((rising_of hr).mp rfl)
      | some x =>
        obtain ⟨c, n⟩ := x
        have := hr.2 c n rfl
        simp only [↓dSeq, ↓dNext, ↓dSet, ↓dDrop, ↓dRet, ↓dRetN, ↓dIfS, ↓dAsg, ↓dBreak, ↓dCont, ↓dVar, ↓dC, ↓dOp, ↓dTB, ↓dtAnd, ↓dtOr, ↓dtNot, ↓dTru, ↓dAnd, ↓dOr, ↓dNot, ↓dIf, ↓dChain, ↓dCall, ↓dCB, ↓dCons, ↓dNil, ↓dStar, ↓dTup, ↓dLst, ↓dLstM, ↓dIsa, ↓dApp, ↓dNeg, ↓gdName, ↓gdTup, ↓gdCons, ↓gdNil, ↓gdSub, ↓rIx_tup, ↓rIx_str, ↓rIx_lst, ↓rIx_ref, ↓rSetL, ↓rSl, ↓dSl, ↓doNone, ↓doSome, ↓rAdd, ↓rSub, ↓rMul, ↓rMod, ↓rFdiv, ↓rPow, ↓rShl, ↓rShr, ↓rBand, ↓rBor, ↓rInt, ↓cInt, ↓cLen_tup, ↓cLen_str, ↓cLen_lst, ↓cLen_ref, ↓cTuple, ↓cSorted, ↓cMax2, ↓rEq, ↓rNe, ↓rLt, ↓rGt, ↓rLe, ↓rGe, ↓rOrd, ↓rIn, ↓rIs, ↓isNone, ↓truD, ↓frzAll, ↓diA, ↓diR1, ↓diR2, ↓dFor, ↓dLc, ↓dLcM, ↓dtYes, ↓wipeD, dat, datL, seqL, L2.CPow, List.getElem?_cons_zero, List.getElem?_cons_succ, List.set_cons_zero, List.set_cons_succ, List.length_cons, List.length_nil, List.map_cons, List.map_nil, upS_same, if_true, if_false, Bool.false_eq_true, true_and, and_true, Bool.not_true, Bool.not_false, Bool.true_xor, Bool.false_xor, eqv_int, eqv_str, eqv_bool, dp_int, dp_str, dp_bool, dp_none, al_int, al_str, min00, ne_int, ne_str, mapM_p, atD_zero, atD_one, atD_two, atD_three, PyData.isTuple, PyData.isInt, PyData.isStr, PyData.isBool, PyData.isList, PyData.isDict, Nat.reduceAdd, Int.cast_ofNat_Int, Int.reduceEq, Int.reduceAdd, Int.reduceSub, decide_true, decide_false, decide_eq_true_eq, ↓reduceIte, reduceCtorEq, encF, ↓t__law_judged_5, ↓t__law_judged_4]
        refine ⟨p, c, n, rfl, hr.1, by omega, by omega, ?_⟩
        simp only [↓dSeq, ↓dNext, ↓dSet, ↓dDrop, ↓dRet, ↓dRetN, ↓dIfS, ↓dAsg, ↓dBreak, ↓dCont, ↓dVar, ↓dC, ↓dOp, ↓dTB, ↓dtAnd, ↓dtOr, ↓dtNot, ↓dTru, ↓dAnd, ↓dOr, ↓dNot, ↓dIf, ↓dChain, ↓dCall, ↓dCB, ↓dCons, ↓dNil, ↓dStar, ↓dTup, ↓dLst, ↓dLstM, ↓dIsa, ↓dApp, ↓dNeg, ↓gdName, ↓gdTup, ↓gdCons, ↓gdNil, ↓gdSub, ↓rIx_tup, ↓rIx_str, ↓rIx_lst, ↓rIx_ref, ↓rSetL, ↓rSl, ↓dSl, ↓doNone, ↓doSome, ↓rAdd, ↓rSub, ↓rMul, ↓rMod, ↓rFdiv, ↓rPow, ↓rShl, ↓rShr, ↓rBand, ↓rBor, ↓rInt, ↓cInt, ↓cLen_tup, ↓cLen_str, ↓cLen_lst, ↓cLen_ref, ↓cTuple, ↓cSorted, ↓cMax2, ↓rEq, ↓rNe, ↓rLt, ↓rGt, ↓rLe, ↓rGe, ↓rOrd, ↓rIn, ↓rIs, ↓isNone, ↓truD, ↓frzAll, ↓diA, ↓diR1, ↓diR2, ↓dFor, ↓dLc, ↓dLcM, ↓dtYes, ↓wipeD, dat, datL, seqL, L2.CPow, List.getElem?_cons_zero, List.getElem?_cons_succ, List.set_cons_zero, List.set_cons_succ, List.length_cons, List.length_nil, List.map_cons, List.map_nil, upS_same, if_true, if_false, Bool.false_eq_true, true_and, and_true, Bool.not_true, Bool.not_false, Bool.true_xor, Bool.false_xor, eqv_int, eqv_str, eqv_bool, dp_int, dp_str, dp_bool, dp_none, al_int, al_str, min00, ne_int, ne_str, mapM_p, atD_zero, atD_one, atD_two, atD_three, PyData.isTuple, PyData.isInt, PyData.isStr, PyData.isBool, PyData.isList, PyData.isDict, Nat.reduceAdd, Int.cast_ofNat_Int, Int.reduceEq, Int.reduceAdd, Int.reduceSub, decide_true, decide_false, decide_eq_true_eq, ↓reduceIte, reduceCtorEq]
        exact hnx _ _ trivial ⟨_, _, _, rfl, rfl⟩
  · rintro env S' ⟨e2, e3, e4, rfl, rfl⟩
    simp only [↓dSeq, ↓dNext, ↓dSet, ↓dDrop, ↓dRet, ↓dRetN, ↓dIfS, ↓dAsg, ↓dBreak, ↓dCont, ↓dVar, ↓dC, ↓dOp, ↓dTB, ↓dtAnd, ↓dtOr, ↓dtNot, ↓dTru, ↓dAnd, ↓dOr, ↓dNot, ↓dIf, ↓dChain, ↓dCall, ↓dCB, ↓dCons, ↓dNil, ↓dStar, ↓dTup, ↓dLst, ↓dLstM, ↓dIsa, ↓dApp, ↓dNeg, ↓gdName, ↓gdTup, ↓gdCons, ↓gdNil, ↓gdSub, ↓rIx_tup, ↓rIx_str, ↓rIx_lst, ↓rIx_ref, ↓rSetL, ↓rSl, ↓dSl, ↓doNone, ↓doSome, ↓rAdd, ↓rSub, ↓rMul, ↓rMod, ↓rFdiv, ↓rPow, ↓rShl, ↓rShr, ↓rBand, ↓rBor, ↓rInt, ↓cInt, ↓cLen_tup, ↓cLen_str, ↓cLen_lst, ↓cLen_ref, ↓cTuple, ↓cSorted, ↓cMax2, ↓rEq, ↓rNe, ↓rLt, ↓rGt, ↓rLe, ↓rGe, ↓rOrd, ↓rIn, ↓rIs, ↓isNone, ↓truD, ↓frzAll, ↓diA, ↓diR1, ↓diR2, ↓dFor, ↓dLc, ↓dLcM, ↓dtYes, ↓wipeD, dat, datL, seqL, L2.CPow, List.getElem?_cons_zero, List.getElem?_cons_succ, List.set_cons_zero, List.set_cons_succ, List.length_cons, List.length_nil, List.map_cons, List.map_nil, upS_same, if_true, if_false, Bool.false_eq_true, true_and, and_true, Bool.not_true, Bool.not_false, Bool.true_xor, Bool.false_xor, eqv_int, eqv_str, eqv_bool, dp_int, dp_str, dp_bool, dp_none, al_int, al_str, min00, ne_int, ne_str, mapM_p, atD_zero, atD_one, atD_two, atD_three, PyData.isTuple, PyData.isInt, PyData.isStr, PyData.isBool, PyData.isList, PyData.isDict, Nat.reduceAdd, Int.cast_ofNat_Int, Int.reduceEq, Int.reduceAdd, Int.reduceSub, decide_true, decide_false, decide_eq_true_eq, ↓reduceIte, reduceCtorEq, ↓t__law_judged_10]
    exact Fin.same hQ
end Sh

set_option Elab.async false
set_option linter.all false
set_option autoImplicit false
set_option maxRecDepth 100000
set_option maxHeartbeats 2000000
/-! Sx, part E: the law k05 -/
namespace Sh
open PySem Tx Mx

theorem bin01 {p : Pap} {vs : List (Option Int)} (h : ∀ v ∈ p.vals, v ∈ vs) (k : ∀ v ∈ vs, v = some 0 ∨ v = some 1) : p.Bin := fun v hv => k v (h v hv)
theorem papG_grow {p : Pap} {ns : List Nm} {k : Nat} {vs : List (Option Int)} (g : GrowOk ns vs k p) (hk : k ≤ 10) (h : ∀ v ∈ vs, v = some 0 ∨ v = some 1) : PapG p 10 := ⟨g.ordd, bin01 g.vals h, Nat.le_trans g.ht hk⟩
theorem v01 : ∀ v ∈ ([some 0, some 1] : List (Option Int)), v = some 0 ∨ v = some 1 := by simp
theorem v10 : ∀ v ∈ ([some 1, some 0] : List (Option Int)), v = some 0 ∨ v = some 1 := by simp
def sp_tens : DSp := fun ds S Q => ∃ (ns : List Nm) (a : Nat), ds = [D.p (.list (ns.map Nm.enc)), D.p (.int a)] ∧ Asc ns ∧ ns.length = 10 ∧ a < 10 ∧ Q (D.p (.bool true)) S
theorem hs_tens (ds : List D) (S : Sto) (Q : DQ) (hl : ds.length = 2) (h : sp_tens ds S Q) : t__law_tens sp_judged sp_chain sp_branch { nx := fun _ S' => Fin Q (.p .none) S', rt := Fin Q } (dstart 5 ds) S := by
  obtain ⟨ns, a, rfl, ha, hlen, ha10, hQ⟩ := h
  show t__law_tens _ _ _ _ [some (D.p (.list (ns.map Nm.enc))), some (D.p (.int a)), none, none, none] S
  simp only [↓dSeq, ↓dNext, ↓dSet, ↓dDrop, ↓dRet, ↓dRetN, ↓dIfS, ↓dAsg, ↓dBreak, ↓dCont, ↓dVar, ↓dC, ↓dOp, ↓dTB, ↓dtAnd, ↓dtOr, ↓dtNot, ↓dTru, ↓dAnd, ↓dOr, ↓dNot, ↓dIf, ↓dChain, ↓dCall, ↓dCB, ↓dCons, ↓dNil, ↓dStar, ↓dTup, ↓dLst, ↓dLstM, ↓dIsa, ↓dApp, ↓dNeg, ↓gdName, ↓gdTup, ↓gdCons, ↓gdNil, ↓gdSub, ↓rIx_tup, ↓rIx_str, ↓rIx_lst, ↓rIx_ref, ↓rSetL, ↓rSl, ↓dSl, ↓doNone, ↓doSome, ↓rAdd, ↓rSub, ↓rMul, ↓rMod, ↓rFdiv, ↓rPow, ↓rShl, ↓rShr, ↓rBand, ↓rBor, ↓rInt, ↓cInt, ↓cLen_tup, ↓cLen_str, ↓cLen_lst, ↓cLen_ref, ↓cTuple, ↓cSorted, ↓cMax2, ↓rEq, ↓rNe, ↓rLt, ↓rGt, ↓rLe, ↓rGe, ↓rOrd, ↓rIn, ↓rIs, ↓isNone, ↓truD, ↓frzAll, ↓diA, ↓diR1, ↓diR2, ↓dFor, ↓dLc, ↓dLcM, ↓dtYes, ↓wipeD, dat, datL, seqL, L2.CPow, List.getElem?_cons_zero, List.getElem?_cons_succ, List.set_cons_zero, List.set_cons_succ, List.length_cons, List.length_nil, List.map_cons, List.map_nil, upS_same, if_true, if_false, Bool.false_eq_true, true_and, and_true, Bool.not_true, Bool.not_false, Bool.true_xor, Bool.false_xor, eqv_int, eqv_str, eqv_bool, dp_int, dp_str, dp_bool, dp_none, al_int, al_str, min00, ne_int, ne_str, mapM_p, atD_zero, atD_one, atD_two, atD_three, PyData.isTuple, PyData.isInt, PyData.isStr, PyData.isBool, PyData.isList, PyData.isDict, Nat.reduceAdd, Int.cast_ofNat_Int, Int.reduceEq, Int.reduceAdd, Int.reduceSub, decide_true, decide_false, decide_eq_true_eq, ↓reduceIte, reduceCtorEq, ↓t__law_tens]
  refine ⟨by decide, ?_⟩
  simp only [↓dSeq, ↓dNext, ↓dSet, ↓dDrop, ↓dRet, ↓dRetN, ↓dIfS, ↓dAsg, ↓dBreak, ↓dCont, ↓dVar, ↓dC, ↓dOp, ↓dTB, ↓dtAnd, ↓dtOr, ↓dtNot, ↓dTru, ↓dAnd, ↓dOr, ↓dNot, ↓dIf, ↓dChain, ↓dCall, ↓dCB, ↓dCons, ↓dNil, ↓dStar, ↓dTup, ↓dLst, ↓dLstM, ↓dIsa, ↓dApp, ↓dNeg, ↓gdName, ↓gdTup, ↓gdCons, ↓gdNil, ↓gdSub, ↓rIx_tup, ↓rIx_str, ↓rIx_lst, ↓rIx_ref, ↓rSetL, ↓rSl, ↓dSl, ↓doNone, ↓doSome, ↓rAdd, ↓rSub, ↓rMul, ↓rMod, ↓rFdiv, ↓rPow, ↓rShl, ↓rShr, ↓rBand, ↓rBor, ↓rInt, ↓cInt, ↓cLen_tup, ↓cLen_str, ↓cLen_lst, ↓cLen_ref, ↓cTuple, ↓cSorted, ↓cMax2, ↓rEq, ↓rNe, ↓rLt, ↓rGt, ↓rLe, ↓rGe, ↓rOrd, ↓rIn, ↓rIs, ↓isNone, ↓truD, ↓frzAll, ↓diA, ↓diR1, ↓diR2, ↓dFor, ↓dLc, ↓dLcM, ↓dtYes, ↓wipeD, dat, datL, seqL, L2.CPow, List.getElem?_cons_zero, List.getElem?_cons_succ, List.set_cons_zero, List.set_cons_succ, List.length_cons, List.length_nil, List.map_cons, List.map_nil, upS_same, if_true, if_false, Bool.false_eq_true, true_and, and_true, Bool.not_true, Bool.not_false, Bool.true_xor, Bool.false_xor, eqv_int, eqv_str, eqv_bool, dp_int, dp_str, dp_bool, dp_none, al_int, al_str, min00, ne_int, ne_str, mapM_p, atD_zero, atD_one, atD_two, atD_three, PyData.isTuple, PyData.isInt, PyData.isStr, PyData.isBool, PyData.isList, PyData.isDict, Nat.reduceAdd, Int.cast_ofNat_Int, Int.reduceEq, Int.reduceAdd, Int.reduceSub, decide_true, decide_false, decide_eq_true_eq, ↓reduceIte, reduceCtorEq, ↓t__law_tens_12]
  refine ⟨by decide, ?_⟩
  simp only [↓dSeq, ↓dNext, ↓dSet, ↓dDrop, ↓dRet, ↓dRetN, ↓dIfS, ↓dAsg, ↓dBreak, ↓dCont, ↓dVar, ↓dC, ↓dOp, ↓dTB, ↓dtAnd, ↓dtOr, ↓dtNot, ↓dTru, ↓dAnd, ↓dOr, ↓dNot, ↓dIf, ↓dChain, ↓dCall, ↓dCB, ↓dCons, ↓dNil, ↓dStar, ↓dTup, ↓dLst, ↓dLstM, ↓dIsa, ↓dApp, ↓dNeg, ↓gdName, ↓gdTup, ↓gdCons, ↓gdNil, ↓gdSub, ↓rIx_tup, ↓rIx_str, ↓rIx_lst, ↓rIx_ref, ↓rSetL, ↓rSl, ↓dSl, ↓doNone, ↓doSome, ↓rAdd, ↓rSub, ↓rMul, ↓rMod, ↓rFdiv, ↓rPow, ↓rShl, ↓rShr, ↓rBand, ↓rBor, ↓rInt, ↓cInt, ↓cLen_tup, ↓cLen_str, ↓cLen_lst, ↓cLen_ref, ↓cTuple, ↓cSorted, ↓cMax2, ↓rEq, ↓rNe, ↓rLt, ↓rGt, ↓rLe, ↓rGe, ↓rOrd, ↓rIn, ↓rIs, ↓isNone, ↓truD, ↓frzAll, ↓diA, ↓diR1, ↓diR2, ↓dFor, ↓dLc, ↓dLcM, ↓dtYes, ↓wipeD, dat, datL, seqL, L2.CPow, List.getElem?_cons_zero, List.getElem?_cons_succ, List.set_cons_zero, List.set_cons_succ, List.length_cons, List.length_nil, List.map_cons, List.map_nil, upS_same, if_true, if_false, Bool.false_eq_true, true_and, and_true, Bool.not_true, Bool.not_false, Bool.true_xor, Bool.false_xor, eqv_int, eqv_str, eqv_bool, dp_int, dp_str, dp_bool, dp_none, al_int, al_str, min00, ne_int, ne_str, mapM_p, atD_zero, atD_one, atD_two, atD_three, PyData.isTuple, PyData.isInt, PyData.isStr, PyData.isBool, PyData.isList, PyData.isDict, Nat.reduceAdd, Int.cast_ofNat_Int, Int.reduceEq, Int.reduceAdd, Int.reduceSub, decide_true, decide_false, decide_eq_true_eq, ↓reduceIte, reduceCtorEq, ↓t__law_tens_11, List.length_map]
  refine ⟨by omega, ?_⟩
  rw [Int.toNat_natCast]
  refine lp_range (fun k env S' => ∃ (p q : Pap) (e4 : Option D), env = [some (D.p (.list (ns.map Nm.enc))), some (D.p (.int a)), some (D.p p.enc), some (D.p q.enc), e4] ∧ S' = S ∧ SteepOk ns a k p ∧ WideOk ns a k q) ⟨_, _, _, rfl, rfl, steep0 ns a, wide0 ns a⟩ ?_ ?_
  · rintro k env S' De' hk ⟨p, q, e4, rfl, rfl, hp, hq⟩ hnx - - -
    obtain ⟨n, hn⟩ := get_ex hk
    have hi : atD ((ns.map Nm.enc).map D.p) (0 + (k : Int)) = some (D.p n.enc) := by rw [Int.zero_add]; exact atD_nat (map_get (map_get hn))
    have hp' := hp.next ha hn
    have hq' := hq.next ha hn
    simp only [↓dSeq, ↓dNext, ↓dSet, ↓dDrop, ↓dRet, ↓dRetN, ↓dIfS, ↓dAsg, ↓dBreak, ↓dCont, ↓dVar, ↓dC, ↓dOp, ↓dTB, ↓dtAnd, ↓dtOr, ↓dtNot, ↓dTru, ↓dAnd, ↓dOr, ↓dNot, ↓dIf, ↓dChain, ↓dCall, ↓dCB, ↓dCons, ↓dNil, ↓dStar, ↓dTup, ↓dLst, ↓dLstM, ↓dIsa, ↓dApp, ↓dNeg, ↓gdName, ↓gdTup, ↓gdCons, ↓gdNil, ↓gdSub, ↓rIx_tup, ↓rIx_str, ↓rIx_lst, ↓rIx_ref, ↓rSetL, ↓rSl, ↓dSl, ↓doNone, ↓doSome, ↓rAdd, ↓rSub, ↓rMul, ↓rMod, ↓rFdiv, ↓rPow, ↓rShl, ↓rShr, ↓rBand, ↓rBor, ↓rInt, ↓cInt, ↓cLen_tup, ↓cLen_str, ↓cLen_lst, ↓cLen_ref, ↓cTuple, ↓cSorted, ↓cMax2, ↓rEq, ↓rNe, ↓rLt, ↓rGt, ↓rLe, ↓rGe, ↓rOrd, ↓rIn, ↓rIs, ↓isNone, ↓truD, ↓frzAll, ↓diA, ↓diR1, ↓diR2, ↓dFor, ↓dLc, ↓dLcM, ↓dtYes, ↓wipeD, dat, datL, seqL, L2.CPow, List.getElem?_cons_zero, List.getElem?_cons_succ, List.set_cons_zero, List.set_cons_succ, List.length_cons, List.length_nil, List.map_cons, List.map_nil, upS_same, if_true, if_false, Bool.false_eq_true, true_and, and_true, Bool.not_true, Bool.not_false, Bool.true_xor, Bool.false_xor, eqv_int, eqv_str, eqv_bool, dp_int, dp_str, dp_bool, dp_none, al_int, al_str, min00, ne_int, ne_str, mapM_p, atD_zero, atD_one, atD_two, atD_three, PyData.isTuple, PyData.isInt, PyData.isStr, PyData.isBool, PyData.isList, PyData.isDict, Nat.reduceAdd, Int.cast_ofNat_Int, Int.reduceEq, Int.reduceAdd, Int.reduceSub, decide_true, decide_false, decide_eq_true_eq, ↓reduceIte, reduceCtorEq, ↓t__law_tens_5]
    by_cases e : k = a
    · rw [if_pos (by omega)]
      rw [if_pos e] at hp' hq'
      simp only [↓dSeq, ↓dNext, ↓dSet, ↓dDrop, ↓dRet, ↓dRetN, ↓dIfS, ↓dAsg, ↓dBreak, ↓dCont, ↓dVar, ↓dC, ↓dOp, ↓dTB, ↓dtAnd, ↓dtOr, ↓dtNot, ↓dTru, ↓dAnd, ↓dOr, ↓dNot, ↓dIf, ↓dChain, ↓dCall, ↓dCB, ↓dCons, ↓dNil, ↓dStar, ↓dTup, ↓dLst, ↓dLstM, ↓dIsa, ↓dApp, ↓dNeg, ↓gdName, ↓gdTup, ↓gdCons, ↓gdNil, ↓gdSub, ↓rIx_tup, ↓rIx_str, ↓rIx_lst, ↓rIx_ref, ↓rSetL, ↓rSl, ↓dSl, ↓doNone, ↓doSome, ↓rAdd, ↓rSub, ↓rMul, ↓rMod, ↓rFdiv, ↓rPow, ↓rShl, ↓rShr, ↓rBand, ↓rBor, ↓rInt, ↓cInt, ↓cLen_tup, ↓cLen_str, ↓cLen_lst, ↓cLen_ref, ↓cTuple, ↓cSorted, ↓cMax2, ↓rEq, ↓rNe, ↓rLt, ↓rGt, ↓rLe, ↓rGe, ↓rOrd, ↓rIn, ↓rIs, ↓isNone, ↓truD, ↓frzAll, ↓diA, ↓diR1, ↓diR2, ↓dFor, ↓dLc, ↓dLcM, ↓dtYes, ↓wipeD, dat, datL, seqL, L2.CPow, List.getElem?_cons_zero, List.getElem?_cons_succ, List.set_cons_zero, List.set_cons_succ, List.length_cons, List.length_nil, List.map_cons, List.map_nil, upS_same, if_true, if_false, Bool.false_eq_true, true_and, and_true, Bool.not_true, Bool.not_false, Bool.true_xor, Bool.false_xor, eqv_int, eqv_str, eqv_bool, dp_int, dp_str, dp_bool, dp_none, al_int, al_str, min00, ne_int, ne_str, mapM_p, atD_zero, atD_one, atD_two, atD_three, PyData.isTuple, PyData.isInt, PyData.isStr, PyData.isBool, PyData.isList, PyData.isDict, Nat.reduceAdd, Int.cast_ofNat_Int, Int.reduceEq, Int.reduceAdd, Int.reduceSub, decide_true, decide_false, decide_eq_true_eq, ↓reduceIte, reduceCtorEq, ↓t__law_tens_2, hi]
      refine ⟨by decide, by decide, ?_⟩
      simp only [↓dSeq, ↓dNext, ↓dSet, ↓dDrop, ↓dRet, ↓dRetN, ↓dIfS, ↓dAsg, ↓dBreak, ↓dCont, ↓dVar, ↓dC, ↓dOp, ↓dTB, ↓dtAnd, ↓dtOr, ↓dtNot, ↓dTru, ↓dAnd, ↓dOr, ↓dNot, ↓dIf, ↓dChain, ↓dCall, ↓dCB, ↓dCons, ↓dNil, ↓dStar, ↓dTup, ↓dLst, ↓dLstM, ↓dIsa, ↓dApp, ↓dNeg, ↓gdName, ↓gdTup, ↓gdCons, ↓gdNil, ↓gdSub, ↓rIx_tup, ↓rIx_str, ↓rIx_lst, ↓rIx_ref, ↓rSetL, ↓rSl, ↓dSl, ↓doNone, ↓doSome, ↓rAdd, ↓rSub, ↓rMul, ↓rMod, ↓rFdiv, ↓rPow, ↓rShl, ↓rShr, ↓rBand, ↓rBor, ↓rInt, ↓cInt, ↓cLen_tup, ↓cLen_str, ↓cLen_lst, ↓cLen_ref, ↓cTuple, ↓cSorted, ↓cMax2, ↓rEq, ↓rNe, ↓rLt, ↓rGt, ↓rLe, ↓rGe, ↓rOrd, ↓rIn, ↓rIs, ↓isNone, ↓truD, ↓frzAll, ↓diA, ↓diR1, ↓diR2, ↓dFor, ↓dLc, ↓dLcM, ↓dtYes, ↓wipeD, dat, datL, seqL, L2.CPow, List.getElem?_cons_zero, List.getElem?_cons_succ, List.set_cons_zero, List.set_cons_succ, List.length_cons, List.length_nil, List.map_cons, List.map_nil, upS_same, if_true, if_false, Bool.false_eq_true, true_and, and_true, Bool.not_true, Bool.not_false, Bool.true_xor, Bool.false_xor, eqv_int, eqv_str, eqv_bool, dp_int, dp_str, dp_bool, dp_none, al_int, al_str, min00, ne_int, ne_str, mapM_p, atD_zero, atD_one, atD_two, atD_three, PyData.isTuple, PyData.isInt, PyData.isStr, PyData.isBool, PyData.isList, PyData.isDict, Nat.reduceAdd, Int.cast_ofNat_Int, Int.reduceEq, Int.reduceAdd, Int.reduceSub, decide_true, decide_false, decide_eq_true_eq, ↓reduceIte, reduceCtorEq, ↓t__law_tens_1, hi]
      exact ⟨by decide, by decide, hnx _ _ trivial ⟨_, _, _, rfl, rfl, hp', hq'⟩⟩
    · rw [if_neg (by omega)]
      rw [if_neg e] at hp' hq'
      simp only [↓dSeq, ↓dNext, ↓dSet, ↓dDrop, ↓dRet, ↓dRetN, ↓dIfS, ↓dAsg, ↓dBreak, ↓dCont, ↓dVar, ↓dC, ↓dOp, ↓dTB, ↓dtAnd, ↓dtOr, ↓dtNot, ↓dTru, ↓dAnd, ↓dOr, ↓dNot, ↓dIf, ↓dChain, ↓dCall, ↓dCB, ↓dCons, ↓dNil, ↓dStar, ↓dTup, ↓dLst, ↓dLstM, ↓dIsa, ↓dApp, ↓dNeg, ↓gdName, ↓gdTup, ↓gdCons, ↓gdNil, ↓gdSub, ↓rIx_tup, ↓rIx_str, ↓rIx_lst, ↓rIx_ref, ↓rSetL, ↓rSl, ↓dSl, ↓doNone, ↓doSome, ↓rAdd, ↓rSub, ↓rMul, ↓rMod, ↓rFdiv, ↓rPow, ↓rShl, ↓rShr, ↓rBand, ↓rBor, ↓rInt, ↓cInt, ↓cLen_tup, ↓cLen_str, ↓cLen_lst, ↓cLen_ref, ↓cTuple, ↓cSorted, ↓cMax2, ↓rEq, ↓rNe, ↓rLt, ↓rGt, ↓rLe, ↓rGe, ↓rOrd, ↓rIn, ↓rIs, ↓isNone, ↓truD, ↓frzAll, ↓diA, ↓diR1, ↓diR2, ↓dFor, ↓dLc, ↓dLcM, ↓dtYes, ↓wipeD, dat, datL, seqL, L2.CPow, List.getElem?_cons_zero, List.getElem?_cons_succ, List.set_cons_zero, List.set_cons_succ, List.length_cons, List.length_nil, List.map_cons, List.map_nil, upS_same, if_true, if_false, Bool.false_eq_true, true_and, and_true, Bool.not_true, Bool.not_false, Bool.true_xor, Bool.false_xor, eqv_int, eqv_str, eqv_bool, dp_int, dp_str, dp_bool, dp_none, al_int, al_str, min00, ne_int, ne_str, mapM_p, atD_zero, atD_one, atD_two, atD_three, PyData.isTuple, PyData.isInt, PyData.isStr, PyData.isBool, PyData.isList, PyData.isDict, Nat.reduceAdd, Int.cast_ofNat_Int, Int.reduceEq, Int.reduceAdd, Int.reduceSub, decide_true, decide_false, decide_eq_true_eq, ↓reduceIte, reduceCtorEq, ↓t__law_tens_4, hi]
      refine ⟨by decide, by decide, ?_⟩
      simp only [↓dSeq, ↓dNext, ↓dSet, ↓dDrop, ↓dRet, ↓dRetN, ↓dIfS, ↓dAsg, ↓dBreak, ↓dCont, ↓dVar, ↓dC, ↓dOp, ↓dTB, ↓dtAnd, ↓dtOr, ↓dtNot, ↓dTru, ↓dAnd, ↓dOr, ↓dNot, ↓dIf, ↓dChain, ↓dCall, ↓dCB, ↓dCons, ↓dNil, ↓dStar, ↓dTup, ↓dLst, ↓dLstM, ↓dIsa, ↓dApp, ↓dNeg, ↓gdName, ↓gdTup, ↓gdCons, ↓gdNil, ↓gdSub, ↓rIx_tup, ↓rIx_str, ↓rIx_lst, ↓rIx_ref, ↓rSetL, ↓rSl, ↓dSl, ↓doNone, ↓doSome, ↓rAdd, ↓rSub, ↓rMul, ↓rMod, ↓rFdiv, ↓rPow, ↓rShl, ↓rShr, ↓rBand, ↓rBor, ↓rInt, ↓cInt, ↓cLen_tup, ↓cLen_str, ↓cLen_lst, ↓cLen_ref, ↓cTuple, ↓cSorted, ↓cMax2, ↓rEq, ↓rNe, ↓rLt, ↓rGt, ↓rLe, ↓rGe, ↓rOrd, ↓rIn, ↓rIs, ↓isNone, ↓truD, ↓frzAll, ↓diA, ↓diR1, ↓diR2, ↓dFor, ↓dLc, ↓dLcM, ↓dtYes, ↓wipeD, dat, datL, seqL, L2.CPow, List.getElem?_cons_zero, List.getElem?_cons_succ, List.set_cons_zero, List.set_cons_succ, List.length_cons, List.length_nil, List.map_cons, List.map_nil, upS_same, if_true, if_false, Bool.false_eq_true, true_and, and_true, Bool.not_true, Bool.not_false, Bool.true_xor, Bool.false_xor, eqv_int, eqv_str, eqv_bool, dp_int, dp_str, dp_bool, dp_none, al_int, al_str, min00, ne_int, ne_str, mapM_p, atD_zero, atD_one, atD_two, atD_three, PyData.isTuple, PyData.isInt, PyData.isStr, PyData.isBool, PyData.isList, PyData.isDict, Nat.reduceAdd, Int.cast_ofNat_Int, Int.reduceEq, Int.reduceAdd, Int.reduceSub, decide_true, decide_false, decide_eq_true_eq, ↓reduceIte, reduceCtorEq, ↓t__law_tens_3, hi]
      exact ⟨by decide, by decide, hnx _ _ trivial ⟨_, _, _, rfl, rfl, hp', hq'⟩⟩
  · rintro env S' ⟨p, q, e4, rfl, rfl, hp, hq⟩
    obtain ⟨b, t, rfl⟩ : ∃ b t, ns = b :: t := by
      cases ns with
      | nil => simp at hlen
      | cons b t => exact ⟨b, t, rfl⟩
    have nt : ∀ {P : Prop}, ¬ P → (false = true ↔ P) := fun h => ⟨fun z => (Bool.false_ne_true z).elim, fun z => (h z).elim⟩
    have ty : ∀ {P : Prop}, P → (true = true ↔ P) := fun h => ⟨fun _ => h, fun _ => rfl⟩
    simp only [↓dSeq, ↓dNext, ↓dSet, ↓dDrop, ↓dRet, ↓dRetN, ↓dIfS, ↓dAsg, ↓dBreak, ↓dCont, ↓dVar, ↓dC, ↓dOp, ↓dTB, ↓dtAnd, ↓dtOr, ↓dtNot, ↓dTru, ↓dAnd, ↓dOr, ↓dNot, ↓dIf, ↓dChain, ↓dCall, ↓dCB, ↓dCons, ↓dNil, ↓dStar, ↓dTup, ↓dLst, ↓dLstM, ↓dIsa, ↓dApp, ↓dNeg, ↓gdName, ↓gdTup, ↓gdCons, ↓gdNil, ↓gdSub, ↓rIx_tup, ↓rIx_str, ↓rIx_lst, ↓rIx_ref, ↓rSetL, ↓rSl, ↓dSl, ↓doNone, ↓doSome, ↓rAdd, ↓rSub, ↓rMul, ↓rMod, ↓rFdiv, ↓rPow, ↓rShl, ↓rShr, ↓rBand, ↓rBor, ↓rInt, ↓cInt, ↓cLen_tup, ↓cLen_str, ↓cLen_lst, ↓cLen_ref, ↓cTuple, ↓cSorted, ↓cMax2, ↓rEq, ↓rNe, ↓rLt, ↓rGt, ↓rLe, ↓rGe, ↓rOrd, ↓rIn, ↓rIs, ↓isNone, ↓truD, ↓frzAll, ↓diA, ↓diR1, ↓diR2, ↓dFor, ↓dLc, ↓dLcM, ↓dtYes, ↓wipeD, dat, datL, seqL, L2.CPow, List.getElem?_cons_zero, List.getElem?_cons_succ, List.set_cons_zero, List.set_cons_succ, List.length_cons, List.length_nil, List.map_cons, List.map_nil, upS_same, if_true, if_false, Bool.false_eq_true, true_and, and_true, Bool.not_true, Bool.not_false, Bool.true_xor, Bool.false_xor, eqv_int, eqv_str, eqv_bool, dp_int, dp_str, dp_bool, dp_none, al_int, al_str, min00, ne_int, ne_str, mapM_p, atD_zero, atD_one, atD_two, atD_three, PyData.isTuple, PyData.isInt, PyData.isStr, PyData.isBool, PyData.isList, PyData.isDict, Nat.reduceAdd, Int.cast_ofNat_Int, Int.reduceEq, Int.reduceAdd, Int.reduceSub, decide_true, decide_false, decide_eq_true_eq, ↓reduceIte, reduceCtorEq, ↓t__law_tens_10]
    refine ⟨b :: t, some 1, some 0, rfl, ?_⟩
    try simp only [↓dSeq, ↓dNext, ↓dSet, ↓dDrop, ↓dRet, ↓dRetN, ↓dIfS, ↓dAsg, ↓dBreak, ↓dCont, ↓dVar, ↓dC, ↓dOp, ↓dTB, ↓dtAnd, ↓dtOr, ↓dtNot, ↓dTru, ↓dAnd, ↓dOr, ↓dNot, ↓dIf, ↓dChain, ↓dCall, ↓dCB, ↓dCons, ↓dNil, ↓dStar, ↓dTup, ↓dLst, ↓dLstM, ↓dIsa, ↓dApp, ↓dNeg, ↓gdName, ↓gdTup, ↓gdCons, ↓gdNil, ↓gdSub, ↓rIx_tup, ↓rIx_str, ↓rIx_lst, ↓rIx_ref, ↓rSetL, ↓rSl, ↓dSl, ↓doNone, ↓doSome, ↓rAdd, ↓rSub, ↓rMul, ↓rMod, ↓rFdiv, ↓rPow, ↓rShl, ↓rShr, ↓rBand, ↓rBor, ↓rInt, ↓cInt, ↓cLen_tup, ↓cLen_str, ↓cLen_lst, ↓cLen_ref, ↓cTuple, ↓cSorted, ↓cMax2, ↓rEq, ↓rNe, ↓rLt, ↓rGt, ↓rLe, ↓rGe, ↓rOrd, ↓rIn, ↓rIs, ↓isNone, ↓truD, ↓frzAll, ↓diA, ↓diR1, ↓diR2, ↓dFor, ↓dLc, ↓dLcM, ↓dtYes, ↓wipeD, dat, datL, seqL, L2.CPow, List.getElem?_cons_zero, List.getElem?_cons_succ, List.set_cons_zero, List.set_cons_succ, List.length_cons, List.length_nil, List.map_cons, List.map_nil, upS_same, if_true, if_false, Bool.false_eq_true, true_and, and_true, Bool.not_true, Bool.not_false, Bool.true_xor, Bool.false_xor, eqv_int, eqv_str, eqv_bool, dp_int, dp_str, dp_bool, dp_none, al_int, al_str, min00, ne_int, ne_str, mapM_p, atD_zero, atD_one, atD_two, atD_three, PyData.isTuple, PyData.isInt, PyData.isStr, PyData.isBool, PyData.isList, PyData.isDict, Nat.reduceAdd, Int.cast_ofNat_Int, Int.reduceEq, Int.reduceAdd, Int.reduceSub, decide_true, decide_false, decide_eq_true_eq, ↓reduceIte, reduceCtorEq]
    refine ⟨_, true, rfl, papG_grow (chain_ok ha _ _) (by omega) v10, ty (chain_rises _), ?_⟩
    try simp only [↓dSeq, ↓dNext, ↓dSet, ↓dDrop, ↓dRet, ↓dRetN, ↓dIfS, ↓dAsg, ↓dBreak, ↓dCont, ↓dVar, ↓dC, ↓dOp, ↓dTB, ↓dtAnd, ↓dtOr, ↓dtNot, ↓dTru, ↓dAnd, ↓dOr, ↓dNot, ↓dIf, ↓dChain, ↓dCall, ↓dCB, ↓dCons, ↓dNil, ↓dStar, ↓dTup, ↓dLst, ↓dLstM, ↓dIsa, ↓dApp, ↓dNeg, ↓gdName, ↓gdTup, ↓gdCons, ↓gdNil, ↓gdSub, ↓rIx_tup, ↓rIx_str, ↓rIx_lst, ↓rIx_ref, ↓rSetL, ↓rSl, ↓dSl, ↓doNone, ↓doSome, ↓rAdd, ↓rSub, ↓rMul, ↓rMod, ↓rFdiv, ↓rPow, ↓rShl, ↓rShr, ↓rBand, ↓rBor, ↓rInt, ↓cInt, ↓cLen_tup, ↓cLen_str, ↓cLen_lst, ↓cLen_ref, ↓cTuple, ↓cSorted, ↓cMax2, ↓rEq, ↓rNe, ↓rLt, ↓rGt, ↓rLe, ↓rGe, ↓rOrd, ↓rIn, ↓rIs, ↓isNone, ↓truD, ↓frzAll, ↓diA, ↓diR1, ↓diR2, ↓dFor, ↓dLc, ↓dLcM, ↓dtYes, ↓wipeD, dat, datL, seqL, L2.CPow, List.getElem?_cons_zero, List.getElem?_cons_succ, List.set_cons_zero, List.set_cons_succ, List.length_cons, List.length_nil, List.map_cons, List.map_nil, upS_same, if_true, if_false, Bool.false_eq_true, true_and, and_true, Bool.not_true, Bool.not_false, Bool.true_xor, Bool.false_xor, eqv_int, eqv_str, eqv_bool, dp_int, dp_str, dp_bool, dp_none, al_int, al_str, min00, ne_int, ne_str, mapM_p, atD_zero, atD_one, atD_two, atD_three, PyData.isTuple, PyData.isInt, PyData.isStr, PyData.isBool, PyData.isList, PyData.isDict, Nat.reduceAdd, Int.cast_ofNat_Int, Int.reduceEq, Int.reduceAdd, Int.reduceSub, decide_true, decide_false, decide_eq_true_eq, ↓reduceIte, reduceCtorEq]
    refine ⟨b :: t, some 1, some 0, rfl, ?_⟩
    try simp only [↓dSeq, ↓dNext, ↓dSet, ↓dDrop, ↓dRet, ↓dRetN, ↓dIfS, ↓dAsg, ↓dBreak, ↓dCont, ↓dVar, ↓dC, ↓dOp, ↓dTB, ↓dtAnd, ↓dtOr, ↓dtNot, ↓dTru, ↓dAnd, ↓dOr, ↓dNot, ↓dIf, ↓dChain, ↓dCall, ↓dCB, ↓dCons, ↓dNil, ↓dStar, ↓dTup, ↓dLst, ↓dLstM, ↓dIsa, ↓dApp, ↓dNeg, ↓gdName, ↓gdTup, ↓gdCons, ↓gdNil, ↓gdSub, ↓rIx_tup, ↓rIx_str, ↓rIx_lst, ↓rIx_ref, ↓rSetL, ↓rSl, ↓dSl, ↓doNone, ↓doSome, ↓rAdd, ↓rSub, ↓rMul, ↓rMod, ↓rFdiv, ↓rPow, ↓rShl, ↓rShr, ↓rBand, ↓rBor, ↓rInt, ↓cInt, ↓cLen_tup, ↓cLen_str, ↓cLen_lst, ↓cLen_ref, ↓cTuple, ↓cSorted, ↓cMax2, ↓rEq, ↓rNe, ↓rLt, ↓rGt, ↓rLe, ↓rGe, ↓rOrd, ↓rIn, ↓rIs, ↓isNone, ↓truD, ↓frzAll, ↓diA, ↓diR1, ↓diR2, ↓dFor, ↓dLc, ↓dLcM, ↓dtYes, ↓wipeD, dat, datL, seqL, L2.CPow, List.getElem?_cons_zero, List.getElem?_cons_succ, List.set_cons_zero, List.set_cons_succ, List.length_cons, List.length_nil, List.map_cons, List.map_nil, upS_same, if_true, if_false, Bool.false_eq_true, true_and, and_true, Bool.not_true, Bool.not_false, Bool.true_xor, Bool.false_xor, eqv_int, eqv_str, eqv_bool, dp_int, dp_str, dp_bool, dp_none, al_int, al_str, min00, ne_int, ne_str, mapM_p, atD_zero, atD_one, atD_two, atD_three, PyData.isTuple, PyData.isInt, PyData.isStr, PyData.isBool, PyData.isList, PyData.isDict, Nat.reduceAdd, Int.cast_ofNat_Int, Int.reduceEq, Int.reduceAdd, Int.reduceSub, decide_true, decide_false, decide_eq_true_eq, ↓reduceIte, reduceCtorEq]
    refine ⟨_, true, rfl, papG_grow (branch_ok ha _ _) (by omega) v10, ty (branch_rises _), ?_⟩
    simp only [↓dSeq, ↓dNext, ↓dSet, ↓dDrop, ↓dRet, ↓dRetN, ↓dIfS, ↓dAsg, ↓dBreak, ↓dCont, ↓dVar, ↓dC, ↓dOp, ↓dTB, ↓dtAnd, ↓dtOr, ↓dtNot, ↓dTru, ↓dAnd, ↓dOr, ↓dNot, ↓dIf, ↓dChain, ↓dCall, ↓dCB, ↓dCons, ↓dNil, ↓dStar, ↓dTup, ↓dLst, ↓dLstM, ↓dIsa, ↓dApp, ↓dNeg, ↓gdName, ↓gdTup, ↓gdCons, ↓gdNil, ↓gdSub, ↓rIx_tup, ↓rIx_str, ↓rIx_lst, ↓rIx_ref, ↓rSetL, ↓rSl, ↓dSl, ↓doNone, ↓doSome, ↓rAdd, ↓rSub, ↓rMul, ↓rMod, ↓rFdiv, ↓rPow, ↓rShl, ↓rShr, ↓rBand, ↓rBor, ↓rInt, ↓cInt, ↓cLen_tup, ↓cLen_str, ↓cLen_lst, ↓cLen_ref, ↓cTuple, ↓cSorted, ↓cMax2, ↓rEq, ↓rNe, ↓rLt, ↓rGt, ↓rLe, ↓rGe, ↓rOrd, ↓rIn, ↓rIs, ↓isNone, ↓truD, ↓frzAll, ↓diA, ↓diR1, ↓diR2, ↓dFor, ↓dLc, ↓dLcM, ↓dtYes, ↓wipeD, dat, datL, seqL, L2.CPow, List.getElem?_cons_zero, List.getElem?_cons_succ, List.set_cons_zero, List.set_cons_succ, List.length_cons, List.length_nil, List.map_cons, List.map_nil, upS_same, if_true, if_false, Bool.false_eq_true, true_and, and_true, Bool.not_true, Bool.not_false, Bool.true_xor, Bool.false_xor, eqv_int, eqv_str, eqv_bool, dp_int, dp_str, dp_bool, dp_none, al_int, al_str, min00, ne_int, ne_str, mapM_p, atD_zero, atD_one, atD_two, atD_three, PyData.isTuple, PyData.isInt, PyData.isStr, PyData.isBool, PyData.isList, PyData.isDict, Nat.reduceAdd, Int.cast_ofNat_Int, Int.reduceEq, Int.reduceAdd, Int.reduceSub, decide_true, decide_false, decide_eq_true_eq, ↓reduceIte, reduceCtorEq, ↓t__law_tens_9]
    refine ⟨b :: t, some 0, some 1, rfl, ?_⟩
    try simp only [↓dSeq, ↓dNext, ↓dSet, ↓dDrop, ↓dRet, ↓dRetN, ↓dIfS, ↓dAsg, ↓dBreak, ↓dCont, ↓dVar, ↓dC, ↓dOp, ↓dTB, ↓dtAnd, ↓dtOr, ↓dtNot, ↓dTru, ↓dAnd, ↓dOr, ↓dNot, ↓dIf, ↓dChain, ↓dCall, ↓dCB, ↓dCons, ↓dNil, ↓dStar, ↓dTup, ↓dLst, ↓dLstM, ↓dIsa, ↓dApp, ↓dNeg, ↓gdName, ↓gdTup, ↓gdCons, ↓gdNil, ↓gdSub, ↓rIx_tup, ↓rIx_str, ↓rIx_lst, ↓rIx_ref, ↓rSetL, ↓rSl, ↓dSl, ↓doNone, ↓doSome, ↓rAdd, ↓rSub, ↓rMul, ↓rMod, ↓rFdiv, ↓rPow, ↓rShl, ↓rShr, ↓rBand, ↓rBor, ↓rInt, ↓cInt, ↓cLen_tup, ↓cLen_str, ↓cLen_lst, ↓cLen_ref, ↓cTuple, ↓cSorted, ↓cMax2, ↓rEq, ↓rNe, ↓rLt, ↓rGt, ↓rLe, ↓rGe, ↓rOrd, ↓rIn, ↓rIs, ↓isNone, ↓truD, ↓frzAll, ↓diA, ↓diR1, ↓diR2, ↓dFor, ↓dLc, ↓dLcM, ↓dtYes, ↓wipeD, dat, datL, seqL, L2.CPow, List.getElem?_cons_zero, List.getElem?_cons_succ, List.set_cons_zero, List.set_cons_succ, List.length_cons, List.length_nil, List.map_cons, List.map_nil, upS_same, if_true, if_false, Bool.false_eq_true, true_and, and_true, Bool.not_true, Bool.not_false, Bool.true_xor, Bool.false_xor, eqv_int, eqv_str, eqv_bool, dp_int, dp_str, dp_bool, dp_none, al_int, al_str, min00, ne_int, ne_str, mapM_p, atD_zero, atD_one, atD_two, atD_three, PyData.isTuple, PyData.isInt, PyData.isStr, PyData.isBool, PyData.isList, PyData.isDict, Nat.reduceAdd, Int.cast_ofNat_Int, Int.reduceEq, Int.reduceAdd, Int.reduceSub, decide_true, decide_false, decide_eq_true_eq, ↓reduceIte, reduceCtorEq]
    refine ⟨_, false, rfl, papG_grow (chain_ok ha _ _) (by omega) v01, nt (chain_falls _ _), ?_⟩
    try simp only [↓dSeq, ↓dNext, ↓dSet, ↓dDrop, ↓dRet, ↓dRetN, ↓dIfS, ↓dAsg, ↓dBreak, ↓dCont, ↓dVar, ↓dC, ↓dOp, ↓dTB, ↓dtAnd, ↓dtOr, ↓dtNot, ↓dTru, ↓dAnd, ↓dOr, ↓dNot, ↓dIf, ↓dChain, ↓dCall, ↓dCB, ↓dCons, ↓dNil, ↓dStar, ↓dTup, ↓dLst, ↓dLstM, ↓dIsa, ↓dApp, ↓dNeg, ↓gdName, ↓gdTup, ↓gdCons, ↓gdNil, ↓gdSub, ↓rIx_tup, ↓rIx_str, ↓rIx_lst, ↓rIx_ref, ↓rSetL, ↓rSl, ↓dSl, ↓doNone, ↓doSome, ↓rAdd, ↓rSub, ↓rMul, ↓rMod, ↓rFdiv, ↓rPow, ↓rShl, ↓rShr, ↓rBand, ↓rBor, ↓rInt, ↓cInt, ↓cLen_tup, ↓cLen_str, ↓cLen_lst, ↓cLen_ref, ↓cTuple, ↓cSorted, ↓cMax2, ↓rEq, ↓rNe, ↓rLt, ↓rGt, ↓rLe, ↓rGe, ↓rOrd, ↓rIn, ↓rIs, ↓isNone, ↓truD, ↓frzAll, ↓diA, ↓diR1, ↓diR2, ↓dFor, ↓dLc, ↓dLcM, ↓dtYes, ↓wipeD, dat, datL, seqL, L2.CPow, List.getElem?_cons_zero, List.getElem?_cons_succ, List.set_cons_zero, List.set_cons_succ, List.length_cons, List.length_nil, List.map_cons, List.map_nil, upS_same, if_true, if_false, Bool.false_eq_true, true_and, and_true, Bool.not_true, Bool.not_false, Bool.true_xor, Bool.false_xor, eqv_int, eqv_str, eqv_bool, dp_int, dp_str, dp_bool, dp_none, al_int, al_str, min00, ne_int, ne_str, mapM_p, atD_zero, atD_one, atD_two, atD_three, PyData.isTuple, PyData.isInt, PyData.isStr, PyData.isBool, PyData.isList, PyData.isDict, Nat.reduceAdd, Int.cast_ofNat_Int, Int.reduceEq, Int.reduceAdd, Int.reduceSub, decide_true, decide_false, decide_eq_true_eq, ↓reduceIte, reduceCtorEq]
    refine ⟨b :: t, some 0, some 1, rfl, ?_⟩
    try simp only [↓dSeq, ↓dNext, ↓dSet, ↓dDrop, ↓dRet, ↓dRetN, ↓dIfS, ↓dAsg, ↓dBreak, ↓dCont, ↓dVar, ↓dC, ↓dOp, ↓dTB, ↓dtAnd, ↓dtOr, ↓dtNot, ↓dTru, ↓dAnd, ↓dOr, ↓dNot, ↓dIf, ↓dChain, ↓dCall, ↓dCB, ↓dCons, ↓dNil, ↓dStar, ↓dTup, ↓dLst, ↓dLstM, ↓dIsa, ↓dApp, ↓dNeg, ↓gdName, ↓gdTup, ↓gdCons, ↓gdNil, ↓gdSub, ↓rIx_tup, ↓rIx_str, ↓rIx_lst, ↓rIx_ref, ↓rSetL, ↓rSl, ↓dSl, ↓doNone, ↓doSome, ↓rAdd, ↓rSub, ↓rMul, ↓rMod, ↓rFdiv, ↓rPow, ↓rShl, ↓rShr, ↓rBand, ↓rBor, ↓rInt, ↓cInt, ↓cLen_tup, ↓cLen_str, ↓cLen_lst, ↓cLen_ref, ↓cTuple, ↓cSorted, ↓cMax2, ↓rEq, ↓rNe, ↓rLt, ↓rGt, ↓rLe, ↓rGe, ↓rOrd, ↓rIn, ↓rIs, ↓isNone, ↓truD, ↓frzAll, ↓diA, ↓diR1, ↓diR2, ↓dFor, ↓dLc, ↓dLcM, ↓dtYes, ↓wipeD, dat, datL, seqL, L2.CPow, List.getElem?_cons_zero, List.getElem?_cons_succ, List.set_cons_zero, List.set_cons_succ, List.length_cons, List.length_nil, List.map_cons, List.map_nil, upS_same, if_true, if_false, Bool.false_eq_true, true_and, and_true, Bool.not_true, Bool.not_false, Bool.true_xor, Bool.false_xor, eqv_int, eqv_str, eqv_bool, dp_int, dp_str, dp_bool, dp_none, al_int, al_str, min00, ne_int, ne_str, mapM_p, atD_zero, atD_one, atD_two, atD_three, PyData.isTuple, PyData.isInt, PyData.isStr, PyData.isBool, PyData.isList, PyData.isDict, Nat.reduceAdd, Int.cast_ofNat_Int, Int.reduceEq, Int.reduceAdd, Int.reduceSub, decide_true, decide_false, decide_eq_true_eq, ↓reduceIte, reduceCtorEq]
    refine ⟨_, false, rfl, papG_grow (branch_ok ha _ _) (by omega) v01, nt (branch_falls (asc_nodup ha)), ?_⟩
    simp only [↓dSeq, ↓dNext, ↓dSet, ↓dDrop, ↓dRet, ↓dRetN, ↓dIfS, ↓dAsg, ↓dBreak, ↓dCont, ↓dVar, ↓dC, ↓dOp, ↓dTB, ↓dtAnd, ↓dtOr, ↓dtNot, ↓dTru, ↓dAnd, ↓dOr, ↓dNot, ↓dIf, ↓dChain, ↓dCall, ↓dCB, ↓dCons, ↓dNil, ↓dStar, ↓dTup, ↓dLst, ↓dLstM, ↓dIsa, ↓dApp, ↓dNeg, ↓gdName, ↓gdTup, ↓gdCons, ↓gdNil, ↓gdSub, ↓rIx_tup, ↓rIx_str, ↓rIx_lst, ↓rIx_ref, ↓rSetL, ↓rSl, ↓dSl, ↓doNone, ↓doSome, ↓rAdd, ↓rSub, ↓rMul, ↓rMod, ↓rFdiv, ↓rPow, ↓rShl, ↓rShr, ↓rBand, ↓rBor, ↓rInt, ↓cInt, ↓cLen_tup, ↓cLen_str, ↓cLen_lst, ↓cLen_ref, ↓cTuple, ↓cSorted, ↓cMax2, ↓rEq, ↓rNe, ↓rLt, ↓rGt, ↓rLe, ↓rGe, ↓rOrd, ↓rIn, ↓rIs, ↓isNone, ↓truD, ↓frzAll, ↓diA, ↓diR1, ↓diR2, ↓dFor, ↓dLc, ↓dLcM, ↓dtYes, ↓wipeD, dat, datL, seqL, L2.CPow, List.getElem?_cons_zero, List.getElem?_cons_succ, List.set_cons_zero, List.set_cons_succ, List.length_cons, List.length_nil, List.map_cons, List.map_nil, upS_same, if_true, if_false, Bool.false_eq_true, true_and, and_true, Bool.not_true, Bool.not_false, Bool.true_xor, Bool.false_xor, eqv_int, eqv_str, eqv_bool, dp_int, dp_str, dp_bool, dp_none, al_int, al_str, min00, ne_int, ne_str, mapM_p, atD_zero, atD_one, atD_two, atD_three, PyData.isTuple, PyData.isInt, PyData.isStr, PyData.isBool, PyData.isList, PyData.isDict, Nat.reduceAdd, Int.cast_ofNat_Int, Int.reduceEq, Int.reduceAdd, Int.reduceSub, decide_true, decide_false, decide_eq_true_eq, ↓reduceIte, reduceCtorEq, ↓t__law_tens_8]
    refine ⟨p, false, rfl, papG_grow hp.ok (by omega) v01, nt (hp.falls ha (by omega)), ?_⟩
    try simp only [↓dSeq, ↓dNext, ↓dSet, ↓dDrop, ↓dRet, ↓dRetN, ↓dIfS, ↓dAsg, ↓dBreak, ↓dCont, ↓dVar, ↓dC, ↓dOp, ↓dTB, ↓dtAnd, ↓dtOr, ↓dtNot, ↓dTru, ↓dAnd, ↓dOr, ↓dNot, ↓dIf, ↓dChain, ↓dCall, ↓dCB, ↓dCons, ↓dNil, ↓dStar, ↓dTup, ↓dLst, ↓dLstM, ↓dIsa, ↓dApp, ↓dNeg, ↓gdName, ↓gdTup, ↓gdCons, ↓gdNil, ↓gdSub, ↓rIx_tup, ↓rIx_str, ↓rIx_lst, ↓rIx_ref, ↓rSetL, ↓rSl, ↓dSl, ↓doNone, ↓doSome, ↓rAdd, ↓rSub, ↓rMul, ↓rMod, ↓rFdiv, ↓rPow, ↓rShl, ↓rShr, ↓rBand, ↓rBor, ↓rInt, ↓cInt, ↓cLen_tup, ↓cLen_str, ↓cLen_lst, ↓cLen_ref, ↓cTuple, ↓cSorted, ↓cMax2, ↓rEq, ↓rNe, ↓rLt, ↓rGt, ↓rLe, ↓rGe, ↓rOrd, ↓rIn, ↓rIs, ↓isNone, ↓truD, ↓frzAll, ↓diA, ↓diR1, ↓diR2, ↓dFor, ↓dLc, ↓dLcM, ↓dtYes, ↓wipeD, dat, datL, seqL, L2.CPow, List.getElem?_cons_zero, List.getElem?_cons_succ, List.set_cons_zero, List.set_cons_succ, List.length_cons, List.length_nil, List.map_cons, List.map_nil, upS_same, if_true, if_false, Bool.false_eq_true, true_and, and_true, Bool.not_true, Bool.not_false, Bool.true_xor, Bool.false_xor, eqv_int, eqv_str, eqv_bool, dp_int, dp_str, dp_bool, dp_none, al_int, al_str, min00, ne_int, ne_str, mapM_p, atD_zero, atD_one, atD_two, atD_three, PyData.isTuple, PyData.isInt, PyData.isStr, PyData.isBool, PyData.isList, PyData.isDict, Nat.reduceAdd, Int.cast_ofNat_Int, Int.reduceEq, Int.reduceAdd, Int.reduceSub, decide_true, decide_false, decide_eq_true_eq, ↓reduceIte, reduceCtorEq]
    refine ⟨q, false, rfl, papG_grow hq.ok (by omega) v01, nt (hq.falls ha (by omega)), ?_⟩
    exact Fin.same hQ

/-! ### law -/
theorem bitsV_len (bs : List Int) : (bitsV bs).length = bs.length := List.length_map _
theorem bits01 {bs : List Int} (h : Bits bs) : ∀ v ∈ bitsV bs, v = some 0 ∨ v = some 1 := fun v hv => by
  obtain ⟨b, hb, rfl⟩ := List.mem_map.mp hv
  exact (h b hb).elim (fun e => .inl (by rw [e])) (fun e => .inr (by rw [e]))
theorem cut_take {α : Type} {xs : List α} {i : Nat} (h : i ≤ xs.length) : cutD xs none (some (i : Int)) = xs.take i := by
  unfold cutD
  rw [HT.sIx_nat, HT.sIx_none, Nat.min_eq_left h]
  simp
theorem cut_drop {α : Type} {xs : List α} {i : Nat} (h : i ≤ xs.length) : cutD xs (some (i : Int)) none = xs.drop i := by
  unfold cutD
  rw [HT.sIx_nat, HT.sIx_none, Nat.min_eq_left h]
  rw [List.take_of_length_le (by rw [List.length_drop]; exact Nat.le_refl _)]
def ls (bs : List Int) : D := D.p (.list (bs.map .int))
theorem hs_law (ds : List D) (S : Sto) (Q : DQ) (hl : ds.length = 1) (h : spLaw ds S Q) : t_law sp_new_pool sp_take sp_name_list sp_bits sp_bits sp_judged sp_is_rising sp_folded sp_many_names sp_tens { nx := fun _ S' => Fin Q (.p .none) S', rt := Fin Q } (dstart 10 ds) S := by
  obtain ⟨n, ns0, rfl, hS, hn63, hQ⟩ := h
  show t_law _ _ _ _ _ _ _ _ _ _ _ [some (.r n), none, none, none, none, none, none, none, none, none] S
  simp only [↓dSeq, ↓dNext, ↓dSet, ↓dDrop, ↓dRet, ↓dRetN, ↓dIfS, ↓dAsg, ↓dBreak, ↓dCont, ↓dVar, ↓dC, ↓dOp, ↓dTB, ↓dtAnd, ↓dtOr, ↓dtNot, ↓dTru, ↓dAnd, ↓dOr, ↓dNot, ↓dIf, ↓dChain, ↓dCall, ↓dCB, ↓dCons, ↓dNil, ↓dStar, ↓dTup, ↓dLst, ↓dLstM, ↓dIsa, ↓dApp, ↓dNeg, ↓gdName, ↓gdTup, ↓gdCons, ↓gdNil, ↓gdSub, ↓rIx_tup, ↓rIx_str, ↓rIx_lst, ↓rIx_ref, ↓rSetL, ↓rSl, ↓dSl, ↓doNone, ↓doSome, ↓rAdd, ↓rSub, ↓rMul, ↓rMod, ↓rFdiv, ↓rPow, ↓rShl, ↓rShr, ↓rBand, ↓rBor, ↓rInt, ↓cInt, ↓cLen_tup, ↓cLen_str, ↓cLen_lst, ↓cLen_ref, ↓cTuple, ↓cSorted, ↓cMax2, ↓rEq, ↓rNe, ↓rLt, ↓rGt, ↓rLe, ↓rGe, ↓rOrd, ↓rIn, ↓rIs, ↓isNone, ↓truD, ↓frzAll, ↓diA, ↓diR1, ↓diR2, ↓dFor, ↓dLc, ↓dLcM, ↓dtYes, ↓wipeD, dat, datL, seqL, L2.CPow, List.getElem?_cons_zero, List.getElem?_cons_succ, List.set_cons_zero, List.set_cons_succ, List.length_cons, List.length_nil, List.map_cons, List.map_nil, upS_same, if_true, if_false, Bool.false_eq_true, true_and, and_true, Bool.not_true, Bool.not_false, Bool.true_xor, Bool.false_xor, eqv_int, eqv_str, eqv_bool, dp_int, dp_str, dp_bool, dp_none, al_int, al_str, min00, ne_int, ne_str, mapM_p, atD_zero, atD_one, atD_two, atD_three, PyData.isTuple, PyData.isInt, PyData.isStr, PyData.isBool, PyData.isList, PyData.isDict, Nat.reduceAdd, Int.cast_ofNat_Int, Int.reduceEq, Int.reduceAdd, Int.reduceSub, decide_true, decide_false, decide_eq_true_eq, ↓reduceIte, reduceCtorEq, ↓t_law]
  refine ⟨n, ns0, rfl, by rw [hS]; unfold zs; rw [List.map_map]; rfl, hn63, fun p o hp ho => ?_⟩
  simp only [↓dSeq, ↓dNext, ↓dSet, ↓dDrop, ↓dRet, ↓dRetN, ↓dIfS, ↓dAsg, ↓dBreak, ↓dCont, ↓dVar, ↓dC, ↓dOp, ↓dTB, ↓dtAnd, ↓dtOr, ↓dtNot, ↓dTru, ↓dAnd, ↓dOr, ↓dNot, ↓dIf, ↓dChain, ↓dCall, ↓dCB, ↓dCons, ↓dNil, ↓dStar, ↓dTup, ↓dLst, ↓dLstM, ↓dIsa, ↓dApp, ↓dNeg, ↓gdName, ↓gdTup, ↓gdCons, ↓gdNil, ↓gdSub, ↓rIx_tup, ↓rIx_str, ↓rIx_lst, ↓rIx_ref, ↓rSetL, ↓rSl, ↓dSl, ↓doNone, ↓doSome, ↓rAdd, ↓rSub, ↓rMul, ↓rMod, ↓rFdiv, ↓rPow, ↓rShl, ↓rShr, ↓rBand, ↓rBor, ↓rInt, ↓cInt, ↓cLen_tup, ↓cLen_str, ↓cLen_lst, ↓cLen_ref, ↓cTuple, ↓cSorted, ↓cMax2, ↓rEq, ↓rNe, ↓rLt, ↓rGt, ↓rLe, ↓rGe, ↓rOrd, ↓rIn, ↓rIs, ↓isNone, ↓truD, ↓frzAll, ↓diA, ↓diR1, ↓diR2, ↓dFor, ↓dLc, ↓dLcM, ↓dtYes, ↓wipeD, dat, datL, seqL, L2.CPow, List.getElem?_cons_zero, List.getElem?_cons_succ, List.set_cons_zero, List.set_cons_succ, List.length_cons, List.length_nil, List.map_cons, List.map_nil, upS_same, if_true, if_false, Bool.false_eq_true, true_and, and_true, Bool.not_true, Bool.not_false, Bool.true_xor, Bool.false_xor, eqv_int, eqv_str, eqv_bool, dp_int, dp_str, dp_bool, dp_none, al_int, al_str, min00, ne_int, ne_str, mapM_p, atD_zero, atD_one, atD_two, atD_three, PyData.isTuple, PyData.isInt, PyData.isStr, PyData.isBool, PyData.isList, PyData.isDict, Nat.reduceAdd, Int.cast_ofNat_Int, Int.reduceEq, Int.reduceAdd, Int.reduceSub, decide_true, decide_false, decide_eq_true_eq, ↓reduceIte, reduceCtorEq, ↓t_law_14]
  refine c_take upS_same ho fun d1 o1 _ _ ho1 => ?_
  rw [upS_upS]
  try simp only [↓dSeq, ↓dNext, ↓dSet, ↓dDrop, ↓dRet, ↓dRetN, ↓dIfS, ↓dAsg, ↓dBreak, ↓dCont, ↓dVar, ↓dC, ↓dOp, ↓dTB, ↓dtAnd, ↓dtOr, ↓dtNot, ↓dTru, ↓dAnd, ↓dOr, ↓dNot, ↓dIf, ↓dChain, ↓dCall, ↓dCB, ↓dCons, ↓dNil, ↓dStar, ↓dTup, ↓dLst, ↓dLstM, ↓dIsa, ↓dApp, ↓dNeg, ↓gdName, ↓gdTup, ↓gdCons, ↓gdNil, ↓gdSub, ↓rIx_tup, ↓rIx_str, ↓rIx_lst, ↓rIx_ref, ↓rSetL, ↓rSl, ↓dSl, ↓doNone, ↓doSome, ↓rAdd, ↓rSub, ↓rMul, ↓rMod, ↓rFdiv, ↓rPow, ↓rShl, ↓rShr, ↓rBand, ↓rBor, ↓rInt, ↓cInt, ↓cLen_tup, ↓cLen_str, ↓cLen_lst, ↓cLen_ref, ↓cTuple, ↓cSorted, ↓cMax2, ↓rEq, ↓rNe, ↓rLt, ↓rGt, ↓rLe, ↓rGe, ↓rOrd, ↓rIn, ↓rIs, ↓isNone, ↓truD, ↓frzAll, ↓diA, ↓diR1, ↓diR2, ↓dFor, ↓dLc, ↓dLcM, ↓dtYes, ↓wipeD, dat, datL, seqL, L2.CPow, List.getElem?_cons_zero, List.getElem?_cons_succ, List.set_cons_zero, List.set_cons_succ, List.length_cons, List.length_nil, List.map_cons, List.map_nil, upS_same, if_true, if_false, Bool.false_eq_true, true_and, and_true, Bool.not_true, Bool.not_false, Bool.true_xor, Bool.false_xor, eqv_int, eqv_str, eqv_bool, dp_int, dp_str, dp_bool, dp_none, al_int, al_str, min00, ne_int, ne_str, mapM_p, atD_zero, atD_one, atD_two, atD_three, PyData.isTuple, PyData.isInt, PyData.isStr, PyData.isBool, PyData.isList, PyData.isDict, Nat.reduceAdd, Int.cast_ofNat_Int, Int.reduceEq, Int.reduceAdd, Int.reduceSub, decide_true, decide_false, decide_eq_true_eq, ↓reduceIte, reduceCtorEq]
  have names : ∀ c o2 b, 0 ≤ c → c ≤ 7 → PoolO o2 → sp_name_list [D.r p, D.p (.int c)] (upS S p o2) fun d S1 => t_law_12 sp_take sp_bits sp_bits sp_judged sp_is_rising sp_folded sp_many_names sp_tens { nx := fun _ S' => Fin Q (.p .none) S', rt := Fin Q } [some (.r n), some (.r p), some (D.p (.bool b)), some d, none, none, none, none, none, none] S1 := by
    intro c o2 b hc0 hc7 ho2
    refine c_name_list upS_same ho2 hc0 (by omega) fun ns o3 hasc hlen ho3 => ?_
    rw [upS_upS]
    simp only [↓dSeq, ↓dNext, ↓dSet, ↓dDrop, ↓dRet, ↓dRetN, ↓dIfS, ↓dAsg, ↓dBreak, ↓dCont, ↓dVar, ↓dC, ↓dOp, ↓dTB, ↓dtAnd, ↓dtOr, ↓dtNot, ↓dTru, ↓dAnd, ↓dOr, ↓dNot, ↓dIf, ↓dChain, ↓dCall, ↓dCB, ↓dCons, ↓dNil, ↓dStar, ↓dTup, ↓dLst, ↓dLstM, ↓dIsa, ↓dApp, ↓dNeg, ↓gdName, ↓gdTup, ↓gdCons, ↓gdNil, ↓gdSub, ↓rIx_tup, ↓rIx_str, ↓rIx_lst, ↓rIx_ref, ↓rSetL, ↓rSl, ↓dSl, ↓doNone, ↓doSome, ↓rAdd, ↓rSub, ↓rMul, ↓rMod, ↓rFdiv, ↓rPow, ↓rShl, ↓rShr, ↓rBand, ↓rBor, ↓rInt, ↓cInt, ↓cLen_tup, ↓cLen_str, ↓cLen_lst, ↓cLen_ref, ↓cTuple, ↓cSorted, ↓cMax2, ↓rEq, ↓rNe, ↓rLt, ↓rGt, ↓rLe, ↓rGe, ↓rOrd, ↓rIn, ↓rIs, ↓isNone, ↓truD, ↓frzAll, ↓diA, ↓diR1, ↓diR2, ↓dFor, ↓dLc, ↓dLcM, ↓dtYes, ↓wipeD, dat, datL, seqL, L2.CPow, List.getElem?_cons_zero, List.getElem?_cons_succ, List.set_cons_zero, List.set_cons_succ, List.length_cons, List.length_nil, List.map_cons, List.map_nil, upS_same, if_true, if_false, Bool.false_eq_true, true_and, and_true, Bool.not_true, Bool.not_false, Bool.true_xor, Bool.false_xor, eqv_int, eqv_str, eqv_bool, dp_int, dp_str, dp_bool, dp_none, al_int, al_str, min00, ne_int, ne_str, mapM_p, atD_zero, atD_one, atD_two, atD_three, PyData.isTuple, PyData.isInt, PyData.isStr, PyData.isBool, PyData.isList, PyData.isDict, Nat.reduceAdd, Int.cast_ofNat_Int, Int.reduceEq, Int.reduceAdd, Int.reduceSub, decide_true, decide_false, decide_eq_true_eq, ↓reduceIte, reduceCtorEq, ↓t_law_12, List.length_map]
    refine ⟨⟨by omega, by omega, by decide⟩, ?_⟩
    rw [Int.one_mul, Int.toNat_natCast, show ((2 : Int) ^ ns.length) = ((2 ^ ns.length : Nat) : Int) from by simp]
    simp only [↓dSeq, ↓dNext, ↓dSet, ↓dDrop, ↓dRet, ↓dRetN, ↓dIfS, ↓dAsg, ↓dBreak, ↓dCont, ↓dVar, ↓dC, ↓dOp, ↓dTB, ↓dtAnd, ↓dtOr, ↓dtNot, ↓dTru, ↓dAnd, ↓dOr, ↓dNot, ↓dIf, ↓dChain, ↓dCall, ↓dCB, ↓dCons, ↓dNil, ↓dStar, ↓dTup, ↓dLst, ↓dLstM, ↓dIsa, ↓dApp, ↓dNeg, ↓gdName, ↓gdTup, ↓gdCons, ↓gdNil, ↓gdSub, ↓rIx_tup, ↓rIx_str, ↓rIx_lst, ↓rIx_ref, ↓rSetL, ↓rSl, ↓dSl, ↓doNone, ↓doSome, ↓rAdd, ↓rSub, ↓rMul, ↓rMod, ↓rFdiv, ↓rPow, ↓rShl, ↓rShr, ↓rBand, ↓rBor, ↓rInt, ↓cInt, ↓cLen_tup, ↓cLen_str, ↓cLen_lst, ↓cLen_ref, ↓cTuple, ↓cSorted, ↓cMax2, ↓rEq, ↓rNe, ↓rLt, ↓rGt, ↓rLe, ↓rGe, ↓rOrd, ↓rIn, ↓rIs, ↓isNone, ↓truD, ↓frzAll, ↓diA, ↓diR1, ↓diR2, ↓dFor, ↓dLc, ↓dLcM, ↓dtYes, ↓wipeD, dat, datL, seqL, L2.CPow, List.getElem?_cons_zero, List.getElem?_cons_succ, List.set_cons_zero, List.set_cons_succ, List.length_cons, List.length_nil, List.map_cons, List.map_nil, upS_same, if_true, if_false, Bool.false_eq_true, true_and, and_true, Bool.not_true, Bool.not_false, Bool.true_xor, Bool.false_xor, eqv_int, eqv_str, eqv_bool, dp_int, dp_str, dp_bool, dp_none, al_int, al_str, min00, ne_int, ne_str, mapM_p, atD_zero, atD_one, atD_two, atD_three, PyData.isTuple, PyData.isInt, PyData.isStr, PyData.isBool, PyData.isList, PyData.isDict, Nat.reduceAdd, Int.cast_ofNat_Int, Int.reduceEq, Int.reduceAdd, Int.reduceSub, decide_true, decide_false, decide_eq_true_eq, ↓reduceIte, reduceCtorEq, ↓t_law_11]
    refine c_bits (by omega) upS_same ho3 fun bs1 o4 hl1 hb1 ho4 => ?_
    rw [upS_upS]
    try simp only [↓dSeq, ↓dNext, ↓dSet, ↓dDrop, ↓dRet, ↓dRetN, ↓dIfS, ↓dAsg, ↓dBreak, ↓dCont, ↓dVar, ↓dC, ↓dOp, ↓dTB, ↓dtAnd, ↓dtOr, ↓dtNot, ↓dTru, ↓dAnd, ↓dOr, ↓dNot, ↓dIf, ↓dChain, ↓dCall, ↓dCB, ↓dCons, ↓dNil, ↓dStar, ↓dTup, ↓dLst, ↓dLstM, ↓dIsa, ↓dApp, ↓dNeg, ↓gdName, ↓gdTup, ↓gdCons, ↓gdNil, ↓gdSub, ↓rIx_tup, ↓rIx_str, ↓rIx_lst, ↓rIx_ref, ↓rSetL, ↓rSl, ↓dSl, ↓doNone, ↓doSome, ↓rAdd, ↓rSub, ↓rMul, ↓rMod, ↓rFdiv, ↓rPow, ↓rShl, ↓rShr, ↓rBand, ↓rBor, ↓rInt, ↓cInt, ↓cLen_tup, ↓cLen_str, ↓cLen_lst, ↓cLen_ref, ↓cTuple, ↓cSorted, ↓cMax2, ↓rEq, ↓rNe, ↓rLt, ↓rGt, ↓rLe, ↓rGe, ↓rOrd, ↓rIn, ↓rIs, ↓isNone, ↓truD, ↓frzAll, ↓diA, ↓diR1, ↓diR2, ↓dFor, ↓dLc, ↓dLcM, ↓dtYes, ↓wipeD, dat, datL, seqL, L2.CPow, List.getElem?_cons_zero, List.getElem?_cons_succ, List.set_cons_zero, List.set_cons_succ, List.length_cons, List.length_nil, List.map_cons, List.map_nil, upS_same, if_true, if_false, Bool.false_eq_true, true_and, and_true, Bool.not_true, Bool.not_false, Bool.true_xor, Bool.false_xor, eqv_int, eqv_str, eqv_bool, dp_int, dp_str, dp_bool, dp_none, al_int, al_str, min00, ne_int, ne_str, mapM_p, atD_zero, atD_one, atD_two, atD_three, PyData.isTuple, PyData.isInt, PyData.isStr, PyData.isBool, PyData.isList, PyData.isDict, Nat.reduceAdd, Int.cast_ofNat_Int, Int.reduceEq, Int.reduceAdd, Int.reduceSub, decide_true, decide_false, decide_eq_true_eq, ↓reduceIte, reduceCtorEq]
    refine c_bits (by omega) upS_same ho4 fun bs2 o5 hl2 hb2 ho5 => ?_
    rw [upS_upS]
    try simp only [↓dSeq, ↓dNext, ↓dSet, ↓dDrop, ↓dRet, ↓dRetN, ↓dIfS, ↓dAsg, ↓dBreak, ↓dCont, ↓dVar, ↓dC, ↓dOp, ↓dTB, ↓dtAnd, ↓dtOr, ↓dtNot, ↓dTru, ↓dAnd, ↓dOr, ↓dNot, ↓dIf, ↓dChain, ↓dCall, ↓dCB, ↓dCons, ↓dNil, ↓dStar, ↓dTup, ↓dLst, ↓dLstM, ↓dIsa, ↓dApp, ↓dNeg, ↓gdName, ↓gdTup, ↓gdCons, ↓gdNil, ↓gdSub, ↓rIx_tup, ↓rIx_str, ↓rIx_lst, ↓rIx_ref, ↓rSetL, ↓rSl, ↓dSl, ↓doNone, ↓doSome, ↓rAdd, ↓rSub, ↓rMul, ↓rMod, ↓rFdiv, ↓rPow, ↓rShl, ↓rShr, ↓rBand, ↓rBor, ↓rInt, ↓cInt, ↓cLen_tup, ↓cLen_str, ↓cLen_lst, ↓cLen_ref, ↓cTuple, ↓cSorted, ↓cMax2, ↓rEq, ↓rNe, ↓rLt, ↓rGt, ↓rLe, ↓rGe, ↓rOrd, ↓rIn, ↓rIs, ↓isNone, ↓truD, ↓frzAll, ↓diA, ↓diR1, ↓diR2, ↓dFor, ↓dLc, ↓dLcM, ↓dtYes, ↓wipeD, dat, datL, seqL, L2.CPow, List.getElem?_cons_zero, List.getElem?_cons_succ, List.set_cons_zero, List.set_cons_succ, List.length_cons, List.length_nil, List.map_cons, List.map_nil, upS_same, if_true, if_false, Bool.false_eq_true, true_and, and_true, Bool.not_true, Bool.not_false, Bool.true_xor, Bool.false_xor, eqv_int, eqv_str, eqv_bool, dp_int, dp_str, dp_bool, dp_none, al_int, al_str, min00, ne_int, ne_str, mapM_p, atD_zero, atD_one, atD_two, atD_three, PyData.isTuple, PyData.isInt, PyData.isStr, PyData.isBool, PyData.isList, PyData.isDict, Nat.reduceAdd, Int.cast_ofNat_Int, Int.reduceEq, Int.reduceAdd, Int.reduceSub, decide_true, decide_false, decide_eq_true_eq, ↓reduceIte, reduceCtorEq]
    refine ⟨by decide, fun r hr => ?_⟩
    obtain ⟨hpr, hr0⟩ := fresh2 hr
    have hp0 := Nat.two_pow_pos ns.length
    have hpow := small_pow (n := ns.length) (by omega)
    simp only [↓dSeq, ↓dNext, ↓dSet, ↓dDrop, ↓dRet, ↓dRetN, ↓dIfS, ↓dAsg, ↓dBreak, ↓dCont, ↓dVar, ↓dC, ↓dOp, ↓dTB, ↓dtAnd, ↓dtOr, ↓dtNot, ↓dTru, ↓dAnd, ↓dOr, ↓dNot, ↓dIf, ↓dChain, ↓dCall, ↓dCB, ↓dCons, ↓dNil, ↓dStar, ↓dTup, ↓dLst, ↓dLstM, ↓dIsa, ↓dApp, ↓dNeg, ↓gdName, ↓gdTup, ↓gdCons, ↓gdNil, ↓gdSub, ↓rIx_tup, ↓rIx_str, ↓rIx_lst, ↓rIx_ref, ↓rSetL, ↓rSl, ↓dSl, ↓doNone, ↓doSome, ↓rAdd, ↓rSub, ↓rMul, ↓rMod, ↓rFdiv, ↓rPow, ↓rShl, ↓rShr, ↓rBand, ↓rBor, ↓rInt, ↓cInt, ↓cLen_tup, ↓cLen_str, ↓cLen_lst, ↓cLen_ref, ↓cTuple, ↓cSorted, ↓cMax2, ↓rEq, ↓rNe, ↓rLt, ↓rGt, ↓rLe, ↓rGe, ↓rOrd, ↓rIn, ↓rIs, ↓isNone, ↓truD, ↓frzAll, ↓diA, ↓diR1, ↓diR2, ↓dFor, ↓dLc, ↓dLcM, ↓dtYes, ↓wipeD, dat, datL, seqL, L2.CPow, List.getElem?_cons_zero, List.getElem?_cons_succ, List.set_cons_zero, List.set_cons_succ, List.length_cons, List.length_nil, List.map_cons, List.map_nil, upS_same, if_true, if_false, Bool.false_eq_true, true_and, and_true, Bool.not_true, Bool.not_false, Bool.true_xor, Bool.false_xor, eqv_int, eqv_str, eqv_bool, dp_int, dp_str, dp_bool, dp_none, al_int, al_str, min00, ne_int, ne_str, mapM_p, atD_zero, atD_one, atD_two, atD_three, PyData.isTuple, PyData.isInt, PyData.isStr, PyData.isBool, PyData.isList, PyData.isDict, Nat.reduceAdd, Int.cast_ofNat_Int, Int.reduceEq, Int.reduceAdd, Int.reduceSub, decide_true, decide_false, decide_eq_true_eq, ↓reduceIte, reduceCtorEq, ↓t_law_10]
    refine c_take (at2 hpr) ho5 (fun d2 o6 _ _ ho6 => ?_) (by omega) (by rw [log_pow]; omega)
    rw [up2 hpr]
    try simp only [↓dSeq, ↓dNext, ↓dSet, ↓dDrop, ↓dRet, ↓dRetN, ↓dIfS, ↓dAsg, ↓dBreak, ↓dCont, ↓dVar, ↓dC, ↓dOp, ↓dTB, ↓dtAnd, ↓dtOr, ↓dtNot, ↓dTru, ↓dAnd, ↓dOr, ↓dNot, ↓dIf, ↓dChain, ↓dCall, ↓dCB, ↓dCons, ↓dNil, ↓dStar, ↓dTup, ↓dLst, ↓dLstM, ↓dIsa, ↓dApp, ↓dNeg, ↓gdName, ↓gdTup, ↓gdCons, ↓gdNil, ↓gdSub, ↓rIx_tup, ↓rIx_str, ↓rIx_lst, ↓rIx_ref, ↓rSetL, ↓rSl, ↓dSl, ↓doNone, ↓doSome, ↓rAdd, ↓rSub, ↓rMul, ↓rMod, ↓rFdiv, ↓rPow, ↓rShl, ↓rShr, ↓rBand, ↓rBor, ↓rInt, ↓cInt, ↓cLen_tup, ↓cLen_str, ↓cLen_lst, ↓cLen_ref, ↓cTuple, ↓cSorted, ↓cMax2, ↓rEq, ↓rNe, ↓rLt, ↓rGt, ↓rLe, ↓rGe, ↓rOrd, ↓rIn, ↓rIs, ↓isNone, ↓truD, ↓frzAll, ↓diA, ↓diR1, ↓diR2, ↓dFor, ↓dLc, ↓dLcM, ↓dtYes, ↓wipeD, dat, datL, seqL, L2.CPow, List.getElem?_cons_zero, List.getElem?_cons_succ, List.set_cons_zero, List.set_cons_succ, List.length_cons, List.length_nil, List.map_cons, List.map_nil, upS_same, if_true, if_false, Bool.false_eq_true, true_and, and_true, Bool.not_true, Bool.not_false, Bool.true_xor, Bool.false_xor, eqv_int, eqv_str, eqv_bool, dp_int, dp_str, dp_bool, dp_none, al_int, al_str, min00, ne_int, ne_str, mapM_p, atD_zero, atD_one, atD_two, atD_three, PyData.isTuple, PyData.isInt, PyData.isStr, PyData.isBool, PyData.isList, PyData.isDict, Nat.reduceAdd, Int.cast_ofNat_Int, Int.reduceEq, Int.reduceAdd, Int.reduceSub, decide_true, decide_false, decide_eq_true_eq, ↓reduceIte, reduceCtorEq]
    refine ⟨by omega, ?_⟩
    have q0 := Int.emod_nonneg (d2 + 6) (show ((2 ^ ns.length : Nat) : Int) ≠ 0 by omega)
    have q1 := Int.emod_lt_of_pos (d2 + 6) (show 0 < ((2 ^ ns.length : Nat) : Int) by omega)
    generalize (d2 + 6) % ((2 ^ ns.length : Nat) : Int) = pl at q0 q1
    obtain ⟨i, rfl⟩ : ∃ i : Nat, pl = i := ⟨pl.toNat, by omega⟩
    obtain ⟨x, hx⟩ := get_ex (xs := bs2) (i := i) (by omega)
    have hi : atD ((bs2.map PyData.int).map D.p) (i : Int) = some (D.p (.int x)) := atD_nat (zs_get hx)
    have hlb : (bs2.map PyData.int).length = bs2.length := List.length_map _
    simp only [↓dSeq, ↓dNext, ↓dSet, ↓dDrop, ↓dRet, ↓dRetN, ↓dIfS, ↓dAsg, ↓dBreak, ↓dCont, ↓dVar, ↓dC, ↓dOp, ↓dTB, ↓dtAnd, ↓dtOr, ↓dtNot, ↓dTru, ↓dAnd, ↓dOr, ↓dNot, ↓dIf, ↓dChain, ↓dCall, ↓dCB, ↓dCons, ↓dNil, ↓dStar, ↓dTup, ↓dLst, ↓dLstM, ↓dIsa, ↓dApp, ↓dNeg, ↓gdName, ↓gdTup, ↓gdCons, ↓gdNil, ↓gdSub, ↓rIx_tup, ↓rIx_str, ↓rIx_lst, ↓rIx_ref, ↓rSetL, ↓rSl, ↓dSl, ↓doNone, ↓doSome, ↓rAdd, ↓rSub, ↓rMul, ↓rMod, ↓rFdiv, ↓rPow, ↓rShl, ↓rShr, ↓rBand, ↓rBor, ↓rInt, ↓cInt, ↓cLen_tup, ↓cLen_str, ↓cLen_lst, ↓cLen_ref, ↓cTuple, ↓cSorted, ↓cMax2, ↓rEq, ↓rNe, ↓rLt, ↓rGt, ↓rLe, ↓rGe, ↓rOrd, ↓rIn, ↓rIs, ↓isNone, ↓truD, ↓frzAll, ↓diA, ↓diR1, ↓diR2, ↓dFor, ↓dLc, ↓dLcM, ↓dtYes, ↓wipeD, dat, datL, seqL, L2.CPow, List.getElem?_cons_zero, List.getElem?_cons_succ, List.set_cons_zero, List.set_cons_succ, List.length_cons, List.length_nil, List.map_cons, List.map_nil, upS_same, if_true, if_false, Bool.false_eq_true, true_and, and_true, Bool.not_true, Bool.not_false, Bool.true_xor, Bool.false_xor, eqv_int, eqv_str, eqv_bool, dp_int, dp_str, dp_bool, dp_none, al_int, al_str, min00, ne_int, ne_str, mapM_p, atD_zero, atD_one, atD_two, atD_three, PyData.isTuple, PyData.isInt, PyData.isStr, PyData.isBool, PyData.isList, PyData.isDict, Nat.reduceAdd, Int.cast_ofNat_Int, Int.reduceEq, Int.reduceAdd, Int.reduceSub, decide_true, decide_false, decide_eq_true_eq, ↓reduceIte, reduceCtorEq, ↓t_law_9]
    refine ⟨⟨_, rfl⟩, ?_⟩
    rw [cut_take (by omega), show (i : Int) + 1 = ((i + 1 : Nat) : Int) from by omega, cut_drop (by omega)]
    simp only [↓dSeq, ↓dNext, ↓dSet, ↓dDrop, ↓dRet, ↓dRetN, ↓dIfS, ↓dAsg, ↓dBreak, ↓dCont, ↓dVar, ↓dC, ↓dOp, ↓dTB, ↓dtAnd, ↓dtOr, ↓dtNot, ↓dTru, ↓dAnd, ↓dOr, ↓dNot, ↓dIf, ↓dChain, ↓dCall, ↓dCB, ↓dCons, ↓dNil, ↓dStar, ↓dTup, ↓dLst, ↓dLstM, ↓dIsa, ↓dApp, ↓dNeg, ↓gdName, ↓gdTup, ↓gdCons, ↓gdNil, ↓gdSub, ↓rIx_tup, ↓rIx_str, ↓rIx_lst, ↓rIx_ref, ↓rSetL, ↓rSl, ↓dSl, ↓doNone, ↓doSome, ↓rAdd, ↓rSub, ↓rMul, ↓rMod, ↓rFdiv, ↓rPow, ↓rShl, ↓rShr, ↓rBand, ↓rBor, ↓rInt, ↓cInt, ↓cLen_tup, ↓cLen_str, ↓cLen_lst, ↓cLen_ref, ↓cTuple, ↓cSorted, ↓cMax2, ↓rEq, ↓rNe, ↓rLt, ↓rGt, ↓rLe, ↓rGe, ↓rOrd, ↓rIn, ↓rIs, ↓isNone, ↓truD, ↓frzAll, ↓diA, ↓diR1, ↓diR2, ↓dFor, ↓dLc, ↓dLcM, ↓dtYes, ↓wipeD, dat, datL, seqL, L2.CPow, List.getElem?_cons_zero, List.getElem?_cons_succ, List.set_cons_zero, List.set_cons_succ, List.length_cons, List.length_nil, List.map_cons, List.map_nil, upS_same, if_true, if_false, Bool.false_eq_true, true_and, and_true, Bool.not_true, Bool.not_false, Bool.true_xor, Bool.false_xor, eqv_int, eqv_str, eqv_bool, dp_int, dp_str, dp_bool, dp_none, al_int, al_str, min00, ne_int, ne_str, mapM_p, atD_zero, atD_one, atD_two, atD_three, PyData.isTuple, PyData.isInt, PyData.isStr, PyData.isBool, PyData.isList, PyData.isDict, Nat.reduceAdd, Int.cast_ofNat_Int, Int.reduceEq, Int.reduceAdd, Int.reduceSub, decide_true, decide_false, decide_eq_true_eq, ↓reduceIte, reduceCtorEq, hi, List.length_take, List.length_append, hlb]
    have sz : ∀ {k : Nat}, k ≤ 5000 → k ≤ sizeLine := fun h => small (by omega)
    refine ⟨by decide, sz (by omega), sz (by simp; omega), by decide, ?_⟩
    have e3 : List.take i (List.map PyData.int bs2) ++ [PyData.int (1 - x)] ++ List.drop (i + 1) (List.map PyData.int bs2) = (bs2.take i ++ [1 - x] ++ bs2.drop (i + 1)).map .int := by simp
    rw [e3, upS_upS]
    have hl3 : (bs2.take i ++ [1 - x] ++ bs2.drop (i + 1)).length = 2 ^ ns.length := by simp; omega
    have hx01 := hb2 x (List.mem_of_getElem? hx)
    have hb3 : Bits (bs2.take i ++ [1 - x] ++ bs2.drop (i + 1)) := fun y hy => by
      simp only [List.mem_append, List.mem_singleton] at hy
      rcases hy with (hy | rfl) | hy
      · exact hb2 y (List.mem_of_mem_take hy)
      · omega
      · exact hb2 y (List.mem_of_mem_drop hy)
    generalize bs2.take i ++ [1 - x] ++ bs2.drop (i + 1) = bs3 at hl3 hb3
    simp only [↓dSeq, ↓dNext, ↓dSet, ↓dDrop, ↓dRet, ↓dRetN, ↓dIfS, ↓dAsg, ↓dBreak, ↓dCont, ↓dVar, ↓dC, ↓dOp, ↓dTB, ↓dtAnd, ↓dtOr, ↓dtNot, ↓dTru, ↓dAnd, ↓dOr, ↓dNot, ↓dIf, ↓dChain, ↓dCall, ↓dCB, ↓dCons, ↓dNil, ↓dStar, ↓dTup, ↓dLst, ↓dLstM, ↓dIsa, ↓dApp, ↓dNeg, ↓gdName, ↓gdTup, ↓gdCons, ↓gdNil, ↓gdSub, ↓rIx_tup, ↓rIx_str, ↓rIx_lst, ↓rIx_ref, ↓rSetL, ↓rSl, ↓dSl, ↓doNone, ↓doSome, ↓rAdd, ↓rSub, ↓rMul, ↓rMod, ↓rFdiv, ↓rPow, ↓rShl, ↓rShr, ↓rBand, ↓rBor, ↓rInt, ↓cInt, ↓cLen_tup, ↓cLen_str, ↓cLen_lst, ↓cLen_ref, ↓cTuple, ↓cSorted, ↓cMax2, ↓rEq, ↓rNe, ↓rLt, ↓rGt, ↓rLe, ↓rGe, ↓rOrd, ↓rIn, ↓rIs, ↓isNone, ↓truD, ↓frzAll, ↓diA, ↓diR1, ↓diR2, ↓dFor, ↓dLc, ↓dLcM, ↓dtYes, ↓wipeD, dat, datL, seqL, L2.CPow, List.getElem?_cons_zero, List.getElem?_cons_succ, List.set_cons_zero, List.set_cons_succ, List.length_cons, List.length_nil, List.map_cons, List.map_nil, upS_same, if_true, if_false, Bool.false_eq_true, true_and, and_true, Bool.not_true, Bool.not_false, Bool.true_xor, Bool.false_xor, eqv_int, eqv_str, eqv_bool, dp_int, dp_str, dp_bool, dp_none, al_int, al_str, min00, ne_int, ne_str, mapM_p, atD_zero, atD_one, atD_two, atD_three, PyData.isTuple, PyData.isInt, PyData.isStr, PyData.isBool, PyData.isList, PyData.isDict, Nat.reduceAdd, Int.cast_ofNat_Int, Int.reduceEq, Int.reduceAdd, Int.reduceSub, decide_true, decide_false, decide_eq_true_eq, ↓reduceIte, reduceCtorEq, ↓t_law_8, List.cons_append, List.nil_append]
    refine ⟨⟨_, rfl⟩, fun t ht => ?_⟩
    refine lc_map (fun d => match d with | .p (.int v) => .int (1 - v) | _ => .none) ht (by rw [List.length_map, List.length_map]; exact smallL (by omega)) (fun _ => trivial) ?_ ?_
    · intro y hy acc R R' hq
      obtain ⟨y', hy', rfl⟩ := List.mem_map.mp hy
      obtain ⟨v, hv, rfl⟩ := List.mem_map.mp hy'
      try simp only [↓dSeq, ↓dNext, ↓dSet, ↓dDrop, ↓dRet, ↓dRetN, ↓dIfS, ↓dAsg, ↓dBreak, ↓dCont, ↓dVar, ↓dC, ↓dOp, ↓dTB, ↓dtAnd, ↓dtOr, ↓dtNot, ↓dTru, ↓dAnd, ↓dOr, ↓dNot, ↓dIf, ↓dChain, ↓dCall, ↓dCB, ↓dCons, ↓dNil, ↓dStar, ↓dTup, ↓dLst, ↓dLstM, ↓dIsa, ↓dApp, ↓dNeg, ↓gdName, ↓gdTup, ↓gdCons, ↓gdNil, ↓gdSub, ↓rIx_tup, ↓rIx_str, ↓rIx_lst, ↓rIx_ref, ↓rSetL, ↓rSl, ↓dSl, ↓doNone, ↓doSome, ↓rAdd, ↓rSub, ↓rMul, ↓rMod, ↓rFdiv, ↓rPow, ↓rShl, ↓rShr, ↓rBand, ↓rBor, ↓rInt, ↓cInt, ↓cLen_tup, ↓cLen_str, ↓cLen_lst, ↓cLen_ref, ↓cTuple, ↓cSorted, ↓cMax2, ↓rEq, ↓rNe, ↓rLt, ↓rGt, ↓rLe, ↓rGe, ↓rOrd, ↓rIn, ↓rIs, ↓isNone, ↓truD, ↓frzAll, ↓diA, ↓diR1, ↓diR2, ↓dFor, ↓dLc, ↓dLcM, ↓dtYes, ↓wipeD, dat, datL, seqL, L2.CPow, List.getElem?_cons_zero, List.getElem?_cons_succ, List.set_cons_zero, List.set_cons_succ, List.length_cons, List.length_nil, List.map_cons, List.map_nil, upS_same, if_true, if_false, Bool.false_eq_true, true_and, and_true, Bool.not_true, Bool.not_false, Bool.true_xor, Bool.false_xor, eqv_int, eqv_str, eqv_bool, dp_int, dp_str, dp_bool, dp_none, al_int, al_str, min00, ne_int, ne_str, mapM_p, atD_zero, atD_one, atD_two, atD_three, PyData.isTuple, PyData.isInt, PyData.isStr, PyData.isBool, PyData.isList, PyData.isDict, Nat.reduceAdd, Int.cast_ofNat_Int, Int.reduceEq, Int.reduceAdd, Int.reduceSub, decide_true, decide_false, decide_eq_true_eq, ↓reduceIte, reduceCtorEq]
      exact hq
    have e4 : (List.map D.p (List.map PyData.int bs2)).map (fun d => match d with | .p (.int v) => PyData.int (1 - v) | _ => .none) = (bs2.map fun v => 1 - v).map .int := by
      simp only [List.map_map]; rfl
    rw [e4]
    have hl4 : (bs2.map fun v => 1 - v).length = 2 ^ ns.length := by simp; omega
    have hb4 : Bits (bs2.map fun v => 1 - v) := fun y hy => by
      obtain ⟨v, hv, rfl⟩ := List.mem_map.mp hy
      have := hb2 v hv
      omega
    generalize (bs2.map fun v => 1 - v) = bs4 at hl4 hb4
    try simp only [↓dSeq, ↓dNext, ↓dSet, ↓dDrop, ↓dRet, ↓dRetN, ↓dIfS, ↓dAsg, ↓dBreak, ↓dCont, ↓dVar, ↓dC, ↓dOp, ↓dTB, ↓dtAnd, ↓dtOr, ↓dtNot, ↓dTru, ↓dAnd, ↓dOr, ↓dNot, ↓dIf, ↓dChain, ↓dCall, ↓dCB, ↓dCons, ↓dNil, ↓dStar, ↓dTup, ↓dLst, ↓dLstM, ↓dIsa, ↓dApp, ↓dNeg, ↓gdName, ↓gdTup, ↓gdCons, ↓gdNil, ↓gdSub, ↓rIx_tup, ↓rIx_str, ↓rIx_lst, ↓rIx_ref, ↓rSetL, ↓rSl, ↓dSl, ↓doNone, ↓doSome, ↓rAdd, ↓rSub, ↓rMul, ↓rMod, ↓rFdiv, ↓rPow, ↓rShl, ↓rShr, ↓rBand, ↓rBor, ↓rInt, ↓cInt, ↓cLen_tup, ↓cLen_str, ↓cLen_lst, ↓cLen_ref, ↓cTuple, ↓cSorted, ↓cMax2, ↓rEq, ↓rNe, ↓rLt, ↓rGt, ↓rLe, ↓rGe, ↓rOrd, ↓rIn, ↓rIs, ↓isNone, ↓truD, ↓frzAll, ↓diA, ↓diR1, ↓diR2, ↓dFor, ↓dLc, ↓dLcM, ↓dtYes, ↓wipeD, dat, datL, seqL, L2.CPow, List.getElem?_cons_zero, List.getElem?_cons_succ, List.set_cons_zero, List.set_cons_succ, List.length_cons, List.length_nil, List.map_cons, List.map_nil, upS_same, if_true, if_false, Bool.false_eq_true, true_and, and_true, Bool.not_true, Bool.not_false, Bool.true_xor, Bool.false_xor, eqv_int, eqv_str, eqv_bool, dp_int, dp_str, dp_bool, dp_none, al_int, al_str, min00, ne_int, ne_str, mapM_p, atD_zero, atD_one, atD_two, atD_three, PyData.isTuple, PyData.isInt, PyData.isStr, PyData.isBool, PyData.isList, PyData.isDict, Nat.reduceAdd, Int.cast_ofNat_Int, Int.reduceEq, Int.reduceAdd, Int.reduceSub, decide_true, decide_false, decide_eq_true_eq, ↓reduceIte, reduceCtorEq]
    refine ⟨by decide, ?_⟩
    rw [upS_upS]
    simp only [↓dSeq, ↓dNext, ↓dSet, ↓dDrop, ↓dRet, ↓dRetN, ↓dIfS, ↓dAsg, ↓dBreak, ↓dCont, ↓dVar, ↓dC, ↓dOp, ↓dTB, ↓dtAnd, ↓dtOr, ↓dtNot, ↓dTru, ↓dAnd, ↓dOr, ↓dNot, ↓dIf, ↓dChain, ↓dCall, ↓dCB, ↓dCons, ↓dNil, ↓dStar, ↓dTup, ↓dLst, ↓dLstM, ↓dIsa, ↓dApp, ↓dNeg, ↓gdName, ↓gdTup, ↓gdCons, ↓gdNil, ↓gdSub, ↓rIx_tup, ↓rIx_str, ↓rIx_lst, ↓rIx_ref, ↓rSetL, ↓rSl, ↓dSl, ↓doNone, ↓doSome, ↓rAdd, ↓rSub, ↓rMul, ↓rMod, ↓rFdiv, ↓rPow, ↓rShl, ↓rShr, ↓rBand, ↓rBor, ↓rInt, ↓cInt, ↓cLen_tup, ↓cLen_str, ↓cLen_lst, ↓cLen_ref, ↓cTuple, ↓cSorted, ↓cMax2, ↓rEq, ↓rNe, ↓rLt, ↓rGt, ↓rLe, ↓rGe, ↓rOrd, ↓rIn, ↓rIs, ↓isNone, ↓truD, ↓frzAll, ↓diA, ↓diR1, ↓diR2, ↓dFor, ↓dLc, ↓dLcM, ↓dtYes, ↓wipeD, dat, datL, seqL, L2.CPow, List.getElem?_cons_zero, List.getElem?_cons_succ, List.set_cons_zero, List.set_cons_succ, List.length_cons, List.length_nil, List.map_cons, List.map_nil, upS_same, if_true, if_false, Bool.false_eq_true, true_and, and_true, Bool.not_true, Bool.not_false, Bool.true_xor, Bool.false_xor, eqv_int, eqv_str, eqv_bool, dp_int, dp_str, dp_bool, dp_none, al_int, al_str, min00, ne_int, ne_str, mapM_p, atD_zero, atD_one, atD_two, atD_three, PyData.isTuple, PyData.isInt, PyData.isStr, PyData.isBool, PyData.isList, PyData.isDict, Nat.reduceAdd, Int.cast_ofNat_Int, Int.reduceEq, Int.reduceAdd, Int.reduceSub, decide_true, decide_false, decide_eq_true_eq, ↓reduceIte, reduceCtorEq, ↓t_law_7, List.cons_append, List.nil_append]
    have hall : ∀ bs ∈ [bs1, bs2, bs3, bs4], bs.length = 2 ^ ns.length ∧ Bits bs := by
      intro bs hbs
      simp only [List.mem_cons, List.not_mem_nil, or_false] at hbs
      rcases hbs with rfl | rfl | rfl | rfl
      · exact ⟨hl1, hb1⟩
      · exact ⟨hl2, hb2⟩
      · exact ⟨hl3, hb3⟩
      · exact ⟨hl4, hb4⟩
    have hitems : [D.p (PyData.list (List.map PyData.int bs1)), D.p (PyData.list (List.map PyData.int bs2)), D.p (PyData.list (List.map PyData.int bs3)), D.p (PyData.list (List.map PyData.int bs4))] = [bs1, bs2, bs3, bs4].map ls := rfl
    rw [hitems]
    generalize [bs1, bs2, bs3, bs4] = all at hall
    refine lp_list (fun k env S' => ∃ (e8 : Option D), env = [some (.r n), some (.r p), some (D.p (.bool b)), some (D.p (.list (ns.map Nm.enc))), some (D.p (.int ((2 ^ ns.length : Nat) : Int))), some (.r r), some (D.p (.int (i : Int))), none, e8, none] ∧ S' = upS (upS S p o6) r (.lst (all.map ls))) ⟨_, rfl, rfl⟩ ?_ ?_
    · rintro k y env S' De' hy ⟨e8, rfl, rfl⟩ hnx - - -
      obtain ⟨bs, hbs, rfl⟩ := map_getD hy
      obtain ⟨hbl, hbb⟩ := hall bs (List.mem_of_getElem? hbs)
      unfold ls
      simp only [↓dSeq, ↓dNext, ↓dSet, ↓dDrop, ↓dRet, ↓dRetN, ↓dIfS, ↓dAsg, ↓dBreak, ↓dCont, ↓dVar, ↓dC, ↓dOp, ↓dTB, ↓dtAnd, ↓dtOr, ↓dtNot, ↓dTru, ↓dAnd, ↓dOr, ↓dNot, ↓dIf, ↓dChain, ↓dCall, ↓dCB, ↓dCons, ↓dNil, ↓dStar, ↓dTup, ↓dLst, ↓dLstM, ↓dIsa, ↓dApp, ↓dNeg, ↓gdName, ↓gdTup, ↓gdCons, ↓gdNil, ↓gdSub, ↓rIx_tup, ↓rIx_str, ↓rIx_lst, ↓rIx_ref, ↓rSetL, ↓rSl, ↓dSl, ↓doNone, ↓doSome, ↓rAdd, ↓rSub, ↓rMul, ↓rMod, ↓rFdiv, ↓rPow, ↓rShl, ↓rShr, ↓rBand, ↓rBor, ↓rInt, ↓cInt, ↓cLen_tup, ↓cLen_str, ↓cLen_lst, ↓cLen_ref, ↓cTuple, ↓cSorted, ↓cMax2, ↓rEq, ↓rNe, ↓rLt, ↓rGt, ↓rLe, ↓rGe, ↓rOrd, ↓rIn, ↓rIs, ↓isNone, ↓truD, ↓frzAll, ↓diA, ↓diR1, ↓diR2, ↓dFor, ↓dLc, ↓dLcM, ↓dtYes, ↓wipeD, dat, datL, seqL, L2.CPow, List.getElem?_cons_zero, List.getElem?_cons_succ, List.set_cons_zero, List.set_cons_succ, List.length_cons, List.length_nil, List.map_cons, List.map_nil, upS_same, if_true, if_false, Bool.false_eq_true, true_and, and_true, Bool.not_true, Bool.not_false, Bool.true_xor, Bool.false_xor, eqv_int, eqv_str, eqv_bool, dp_int, dp_str, dp_bool, dp_none, al_int, al_str, min00, ne_int, ne_str, mapM_p, atD_zero, atD_one, atD_two, atD_three, PyData.isTuple, PyData.isInt, PyData.isStr, PyData.isBool, PyData.isList, PyData.isDict, Nat.reduceAdd, Int.cast_ofNat_Int, Int.reduceEq, Int.reduceAdd, Int.reduceSub, decide_true, decide_false, decide_eq_true_eq, ↓reduceIte, reduceCtorEq, ↓t_law_2]
      rw [← encV_bits]
      refine c_folded hasc (by omega) (by rw [bitsV_len, hbl]) fun pp hpp => ?_
      rw [encV_bits]
      try simp only [↓dSeq, ↓dNext, ↓dSet, ↓dDrop, ↓dRet, ↓dRetN, ↓dIfS, ↓dAsg, ↓dBreak, ↓dCont, ↓dVar, ↓dC, ↓dOp, ↓dTB, ↓dtAnd, ↓dtOr, ↓dtNot, ↓dTru, ↓dAnd, ↓dOr, ↓dNot, ↓dIf, ↓dChain, ↓dCall, ↓dCB, ↓dCons, ↓dNil, ↓dStar, ↓dTup, ↓dLst, ↓dLstM, ↓dIsa, ↓dApp, ↓dNeg, ↓gdName, ↓gdTup, ↓gdCons, ↓gdNil, ↓gdSub, ↓rIx_tup, ↓rIx_str, ↓rIx_lst, ↓rIx_ref, ↓rSetL, ↓rSl, ↓dSl, ↓doNone, ↓doSome, ↓rAdd, ↓rSub, ↓rMul, ↓rMod, ↓rFdiv, ↓rPow, ↓rShl, ↓rShr, ↓rBand, ↓rBor, ↓rInt, ↓cInt, ↓cLen_tup, ↓cLen_str, ↓cLen_lst, ↓cLen_ref, ↓cTuple, ↓cSorted, ↓cMax2, ↓rEq, ↓rNe, ↓rLt, ↓rGt, ↓rLe, ↓rGe, ↓rOrd, ↓rIn, ↓rIs, ↓isNone, ↓truD, ↓frzAll, ↓diA, ↓diR1, ↓diR2, ↓dFor, ↓dLc, ↓dLcM, ↓dtYes, ↓wipeD, dat, datL, seqL, L2.CPow, List.getElem?_cons_zero, List.getElem?_cons_succ, List.set_cons_zero, List.set_cons_succ, List.length_cons, List.length_nil, List.map_cons, List.map_nil, upS_same, if_true, if_false, Bool.false_eq_true, true_and, and_true, Bool.not_true, Bool.not_false, Bool.true_xor, Bool.false_xor, eqv_int, eqv_str, eqv_bool, dp_int, dp_str, dp_bool, dp_none, al_int, al_str, min00, ne_int, ne_str, mapM_p, atD_zero, atD_one, atD_two, atD_three, PyData.isTuple, PyData.isInt, PyData.isStr, PyData.isBool, PyData.isList, PyData.isDict, Nat.reduceAdd, Int.cast_ofNat_Int, Int.reduceEq, Int.reduceAdd, Int.reduceSub, decide_true, decide_false, decide_eq_true_eq, ↓reduceIte, reduceCtorEq]
      refine ⟨ns, bs, rfl, by omega, hbl, hbb, fun w hw => ?_⟩
      try simp only [↓dSeq, ↓dNext, ↓dSet, ↓dDrop, ↓dRet, ↓dRetN, ↓dIfS, ↓dAsg, ↓dBreak, ↓dCont, ↓dVar, ↓dC, ↓dOp, ↓dTB, ↓dtAnd, ↓dtOr, ↓dtNot, ↓dTru, ↓dAnd, ↓dOr, ↓dNot, ↓dIf, ↓dChain, ↓dCall, ↓dCB, ↓dCons, ↓dNil, ↓dStar, ↓dTup, ↓dLst, ↓dLstM, ↓dIsa, ↓dApp, ↓dNeg, ↓gdName, ↓gdTup, ↓gdCons, ↓gdNil, ↓gdSub, ↓rIx_tup, ↓rIx_str, ↓rIx_lst, ↓rIx_ref, ↓rSetL, ↓rSl, ↓dSl, ↓doNone, ↓doSome, ↓rAdd, ↓rSub, ↓rMul, ↓rMod, ↓rFdiv, ↓rPow, ↓rShl, ↓rShr, ↓rBand, ↓rBor, ↓rInt, ↓cInt, ↓cLen_tup, ↓cLen_str, ↓cLen_lst, ↓cLen_ref, ↓cTuple, ↓cSorted, ↓cMax2, ↓rEq, ↓rNe, ↓rLt, ↓rGt, ↓rLe, ↓rGe, ↓rOrd, ↓rIn, ↓rIs, ↓isNone, ↓truD, ↓frzAll, ↓diA, ↓diR1, ↓diR2, ↓dFor, ↓dLc, ↓dLcM, ↓dtYes, ↓wipeD, dat, datL, seqL, L2.CPow, List.getElem?_cons_zero, List.getElem?_cons_succ, List.set_cons_zero, List.set_cons_succ, List.length_cons, List.length_nil, List.map_cons, List.map_nil, upS_same, if_true, if_false, Bool.false_eq_true, true_and, and_true, Bool.not_true, Bool.not_false, Bool.true_xor, Bool.false_xor, eqv_int, eqv_str, eqv_bool, dp_int, dp_str, dp_bool, dp_none, al_int, al_str, min00, ne_int, ne_str, mapM_p, atD_zero, atD_one, atD_two, atD_three, PyData.isTuple, PyData.isInt, PyData.isStr, PyData.isBool, PyData.isList, PyData.isDict, Nat.reduceAdd, Int.cast_ofNat_Int, Int.reduceEq, Int.reduceAdd, Int.reduceSub, decide_true, decide_false, decide_eq_true_eq, ↓reduceIte, reduceCtorEq]
      refine ⟨pp, w, rfl, ⟨hpp.ordd, hpp.bin (bits01 hbb), Nat.le_trans hpp.ht (by omega)⟩, ?_, ?_⟩
      · rw [rising_iff hasc (by rw [bitsV_len, hbl]) hpp]; exact hw
      try simp only [↓dSeq, ↓dNext, ↓dSet, ↓dDrop, ↓dRet, ↓dRetN, ↓dIfS, ↓dAsg, ↓dBreak, ↓dCont, ↓dVar, ↓dC, ↓dOp, ↓dTB, ↓dtAnd, ↓dtOr, ↓dtNot, ↓dTru, ↓dAnd, ↓dOr, ↓dNot, ↓dIf, ↓dChain, ↓dCall, ↓dCB, ↓dCons, ↓dNil, ↓dStar, ↓dTup, ↓dLst, ↓dLstM, ↓dIsa, ↓dApp, ↓dNeg, ↓gdName, ↓gdTup, ↓gdCons, ↓gdNil, ↓gdSub, ↓rIx_tup, ↓rIx_str, ↓rIx_lst, ↓rIx_ref, ↓rSetL, ↓rSl, ↓dSl, ↓doNone, ↓doSome, ↓rAdd, ↓rSub, ↓rMul, ↓rMod, ↓rFdiv, ↓rPow, ↓rShl, ↓rShr, ↓rBand, ↓rBor, ↓rInt, ↓cInt, ↓cLen_tup, ↓cLen_str, ↓cLen_lst, ↓cLen_ref, ↓cTuple, ↓cSorted, ↓cMax2, ↓rEq, ↓rNe, ↓rLt, ↓rGt, ↓rLe, ↓rGe, ↓rOrd, ↓rIn, ↓rIs, ↓isNone, ↓truD, ↓frzAll, ↓diA, ↓diR1, ↓diR2, ↓dFor, ↓dLc, ↓dLcM, ↓dtYes, ↓wipeD, dat, datL, seqL, L2.CPow, List.getElem?_cons_zero, List.getElem?_cons_succ, List.set_cons_zero, List.set_cons_succ, List.length_cons, List.length_nil, List.map_cons, List.map_nil, upS_same, if_true, if_false, Bool.false_eq_true, true_and, and_true, Bool.not_true, Bool.not_false, Bool.true_xor, Bool.false_xor, eqv_int, eqv_str, eqv_bool, dp_int, dp_str, dp_bool, dp_none, al_int, al_str, min00, ne_int, ne_str, mapM_p, atD_zero, atD_one, atD_two, atD_three, PyData.isTuple, PyData.isInt, PyData.isStr, PyData.isBool, PyData.isList, PyData.isDict, Nat.reduceAdd, Int.cast_ofNat_Int, Int.reduceEq, Int.reduceAdd, Int.reduceSub, decide_true, decide_false, decide_eq_true_eq, ↓reduceIte, reduceCtorEq]
      exact hnx _ _ (by simp [seqL, upS_same, ls]) ⟨_, rfl, rfl⟩
    · rintro env S' ⟨e8, rfl, rfl⟩
      have hend : ∀ v, v = some 0 ∨ v = some 1 → PapG (.is v) 10 := fun v hv => ⟨trivial, fun u hu => by simp [Pap.vals] at hu; rw [hu]; exact hv, by simp [Pap.ht]⟩
      have hr1 : ∀ v, Rising (.is v) := fun v => fall_end
      simp only [↓dSeq, ↓dNext, ↓dSet, ↓dDrop, ↓dRet, ↓dRetN, ↓dIfS, ↓dAsg, ↓dBreak, ↓dCont, ↓dVar, ↓dC, ↓dOp, ↓dTB, ↓dtAnd, ↓dtOr, ↓dtNot, ↓dTru, ↓dAnd, ↓dOr, ↓dNot, ↓dIf, ↓dChain, ↓dCall, ↓dCB, ↓dCons, ↓dNil, ↓dStar, ↓dTup, ↓dLst, ↓dLstM, ↓dIsa, ↓dApp, ↓dNeg, ↓gdName, ↓gdTup, ↓gdCons, ↓gdNil, ↓gdSub, ↓rIx_tup, ↓rIx_str, ↓rIx_lst, ↓rIx_ref, ↓rSetL, ↓rSl, ↓dSl, ↓doNone, ↓doSome, ↓rAdd, ↓rSub, ↓rMul, ↓rMod, ↓rFdiv, ↓rPow, ↓rShl, ↓rShr, ↓rBand, ↓rBor, ↓rInt, ↓cInt, ↓cLen_tup, ↓cLen_str, ↓cLen_lst, ↓cLen_ref, ↓cTuple, ↓cSorted, ↓cMax2, ↓rEq, ↓rNe, ↓rLt, ↓rGt, ↓rLe, ↓rGe, ↓rOrd, ↓rIn, ↓rIs, ↓isNone, ↓truD, ↓frzAll, ↓diA, ↓diR1, ↓diR2, ↓dFor, ↓dLc, ↓dLcM, ↓dtYes, ↓wipeD, dat, datL, seqL, L2.CPow, List.getElem?_cons_zero, List.getElem?_cons_succ, List.set_cons_zero, List.set_cons_succ, List.length_cons, List.length_nil, List.map_cons, List.map_nil, upS_same, if_true, if_false, Bool.false_eq_true, true_and, and_true, Bool.not_true, Bool.not_false, Bool.true_xor, Bool.false_xor, eqv_int, eqv_str, eqv_bool, dp_int, dp_str, dp_bool, dp_none, al_int, al_str, min00, ne_int, ne_str, mapM_p, atD_zero, atD_one, atD_two, atD_three, PyData.isTuple, PyData.isInt, PyData.isStr, PyData.isBool, PyData.isList, PyData.isDict, Nat.reduceAdd, Int.cast_ofNat_Int, Int.reduceEq, Int.reduceAdd, Int.reduceSub, decide_true, decide_false, decide_eq_true_eq, ↓reduceIte, reduceCtorEq, ↓t_law_6]
      refine ⟨by decide, .is (some 0), true, rfl, hend _ (.inl rfl), ⟨fun _ => hr1 _, fun _ => rfl⟩, ?_⟩
      try simp only [↓dSeq, ↓dNext, ↓dSet, ↓dDrop, ↓dRet, ↓dRetN, ↓dIfS, ↓dAsg, ↓dBreak, ↓dCont, ↓dVar, ↓dC, ↓dOp, ↓dTB, ↓dtAnd, ↓dtOr, ↓dtNot, ↓dTru, ↓dAnd, ↓dOr, ↓dNot, ↓dIf, ↓dChain, ↓dCall, ↓dCB, ↓dCons, ↓dNil, ↓dStar, ↓dTup, ↓dLst, ↓dLstM, ↓dIsa, ↓dApp, ↓dNeg, ↓gdName, ↓gdTup, ↓gdCons, ↓gdNil, ↓gdSub, ↓rIx_tup, ↓rIx_str, ↓rIx_lst, ↓rIx_ref, ↓rSetL, ↓rSl, ↓dSl, ↓doNone, ↓doSome, ↓rAdd, ↓rSub, ↓rMul, ↓rMod, ↓rFdiv, ↓rPow, ↓rShl, ↓rShr, ↓rBand, ↓rBor, ↓rInt, ↓cInt, ↓cLen_tup, ↓cLen_str, ↓cLen_lst, ↓cLen_ref, ↓cTuple, ↓cSorted, ↓cMax2, ↓rEq, ↓rNe, ↓rLt, ↓rGt, ↓rLe, ↓rGe, ↓rOrd, ↓rIn, ↓rIs, ↓isNone, ↓truD, ↓frzAll, ↓diA, ↓diR1, ↓diR2, ↓dFor, ↓dLc, ↓dLcM, ↓dtYes, ↓wipeD, dat, datL, seqL, L2.CPow, List.getElem?_cons_zero, List.getElem?_cons_succ, List.set_cons_zero, List.set_cons_succ, List.length_cons, List.length_nil, List.map_cons, List.map_nil, upS_same, if_true, if_false, Bool.false_eq_true, true_and, and_true, Bool.not_true, Bool.not_false, Bool.true_xor, Bool.false_xor, eqv_int, eqv_str, eqv_bool, dp_int, dp_str, dp_bool, dp_none, al_int, al_str, min00, ne_int, ne_str, mapM_p, atD_zero, atD_one, atD_two, atD_three, PyData.isTuple, PyData.isInt, PyData.isStr, PyData.isBool, PyData.isList, PyData.isDict, Nat.reduceAdd, Int.cast_ofNat_Int, Int.reduceEq, Int.reduceAdd, Int.reduceSub, decide_true, decide_false, decide_eq_true_eq, ↓reduceIte, reduceCtorEq]
      refine ⟨by decide, .is (some 1), true, rfl, hend _ (.inr rfl), ⟨fun _ => hr1 _, fun _ => rfl⟩, ?_⟩
      simp only [↓dSeq, ↓dNext, ↓dSet, ↓dDrop, ↓dRet, ↓dRetN, ↓dIfS, ↓dAsg, ↓dBreak, ↓dCont, ↓dVar, ↓dC, ↓dOp, ↓dTB, ↓dtAnd, ↓dtOr, ↓dtNot, ↓dTru, ↓dAnd, ↓dOr, ↓dNot, ↓dIf, ↓dChain, ↓dCall, ↓dCB, ↓dCons, ↓dNil, ↓dStar, ↓dTup, ↓dLst, ↓dLstM, ↓dIsa, ↓dApp, ↓dNeg, ↓gdName, ↓gdTup, ↓gdCons, ↓gdNil, ↓gdSub, ↓rIx_tup, ↓rIx_str, ↓rIx_lst, ↓rIx_ref, ↓rSetL, ↓rSl, ↓dSl, ↓doNone, ↓doSome, ↓rAdd, ↓rSub, ↓rMul, ↓rMod, ↓rFdiv, ↓rPow, ↓rShl, ↓rShr, ↓rBand, ↓rBor, ↓rInt, ↓cInt, ↓cLen_tup, ↓cLen_str, ↓cLen_lst, ↓cLen_ref, ↓cTuple, ↓cSorted, ↓cMax2, ↓rEq, ↓rNe, ↓rLt, ↓rGt, ↓rLe, ↓rGe, ↓rOrd, ↓rIn, ↓rIs, ↓isNone, ↓truD, ↓frzAll, ↓diA, ↓diR1, ↓diR2, ↓dFor, ↓dLc, ↓dLcM, ↓dtYes, ↓wipeD, dat, datL, seqL, L2.CPow, List.getElem?_cons_zero, List.getElem?_cons_succ, List.set_cons_zero, List.set_cons_succ, List.length_cons, List.length_nil, List.map_cons, List.map_nil, upS_same, if_true, if_false, Bool.false_eq_true, true_and, and_true, Bool.not_true, Bool.not_false, Bool.true_xor, Bool.false_xor, eqv_int, eqv_str, eqv_bool, dp_int, dp_str, dp_bool, dp_none, al_int, al_str, min00, ne_int, ne_str, mapM_p, atD_zero, atD_one, atD_two, atD_three, PyData.isTuple, PyData.isInt, PyData.isStr, PyData.isBool, PyData.isList, PyData.isDict, Nat.reduceAdd, Int.cast_ofNat_Int, Int.reduceEq, Int.reduceAdd, Int.reduceSub, decide_true, decide_false, decide_eq_true_eq, ↓reduceIte, reduceCtorEq, ↓t_law_5]
      refine c_many_names (at2 hpr) ho6 (by decide) (by decide) fun ms o7 hms hml ho7 => ?_
      rw [up2 hpr]
      simp only [↓dSeq, ↓dNext, ↓dSet, ↓dDrop, ↓dRet, ↓dRetN, ↓dIfS, ↓dAsg, ↓dBreak, ↓dCont, ↓dVar, ↓dC, ↓dOp, ↓dTB, ↓dtAnd, ↓dtOr, ↓dtNot, ↓dTru, ↓dAnd, ↓dOr, ↓dNot, ↓dIf, ↓dChain, ↓dCall, ↓dCB, ↓dCons, ↓dNil, ↓dStar, ↓dTup, ↓dLst, ↓dLstM, ↓dIsa, ↓dApp, ↓dNeg, ↓gdName, ↓gdTup, ↓gdCons, ↓gdNil, ↓gdSub, ↓rIx_tup, ↓rIx_str, ↓rIx_lst, ↓rIx_ref, ↓rSetL, ↓rSl, ↓dSl, ↓doNone, ↓doSome, ↓rAdd, ↓rSub, ↓rMul, ↓rMod, ↓rFdiv, ↓rPow, ↓rShl, ↓rShr, ↓rBand, ↓rBor, ↓rInt, ↓cInt, ↓cLen_tup, ↓cLen_str, ↓cLen_lst, ↓cLen_ref, ↓cTuple, ↓cSorted, ↓cMax2, ↓rEq, ↓rNe, ↓rLt, ↓rGt, ↓rLe, ↓rGe, ↓rOrd, ↓rIn, ↓rIs, ↓isNone, ↓truD, ↓frzAll, ↓diA, ↓diR1, ↓diR2, ↓dFor, ↓dLc, ↓dLcM, ↓dtYes, ↓wipeD, dat, datL, seqL, L2.CPow, List.getElem?_cons_zero, List.getElem?_cons_succ, List.set_cons_zero, List.set_cons_succ, List.length_cons, List.length_nil, List.map_cons, List.map_nil, upS_same, if_true, if_false, Bool.false_eq_true, true_and, and_true, Bool.not_true, Bool.not_false, Bool.true_xor, Bool.false_xor, eqv_int, eqv_str, eqv_bool, dp_int, dp_str, dp_bool, dp_none, al_int, al_str, min00, ne_int, ne_str, mapM_p, atD_zero, atD_one, atD_two, atD_three, PyData.isTuple, PyData.isInt, PyData.isStr, PyData.isBool, PyData.isList, PyData.isDict, Nat.reduceAdd, Int.cast_ofNat_Int, Int.reduceEq, Int.reduceAdd, Int.reduceSub, decide_true, decide_false, decide_eq_true_eq, ↓reduceIte, reduceCtorEq, ↓t_law_4]
      refine c_take (at2 hpr) ho7 fun d3 o8 _ _ ho8 => ?_
      rw [up2 hpr]
      try simp only [↓dSeq, ↓dNext, ↓dSet, ↓dDrop, ↓dRet, ↓dRetN, ↓dIfS, ↓dAsg, ↓dBreak, ↓dCont, ↓dVar, ↓dC, ↓dOp, ↓dTB, ↓dtAnd, ↓dtOr, ↓dtNot, ↓dTru, ↓dAnd, ↓dOr, ↓dNot, ↓dIf, ↓dChain, ↓dCall, ↓dCB, ↓dCons, ↓dNil, ↓dStar, ↓dTup, ↓dLst, ↓dLstM, ↓dIsa, ↓dApp, ↓dNeg, ↓gdName, ↓gdTup, ↓gdCons, ↓gdNil, ↓gdSub, ↓rIx_tup, ↓rIx_str, ↓rIx_lst, ↓rIx_ref, ↓rSetL, ↓rSl, ↓dSl, ↓doNone, ↓doSome, ↓rAdd, ↓rSub, ↓rMul, ↓rMod, ↓rFdiv, ↓rPow, ↓rShl, ↓rShr, ↓rBand, ↓rBor, ↓rInt, ↓cInt, ↓cLen_tup, ↓cLen_str, ↓cLen_lst, ↓cLen_ref, ↓cTuple, ↓cSorted, ↓cMax2, ↓rEq, ↓rNe, ↓rLt, ↓rGt, ↓rLe, ↓rGe, ↓rOrd, ↓rIn, ↓rIs, ↓isNone, ↓truD, ↓frzAll, ↓diA, ↓diR1, ↓diR2, ↓dFor, ↓dLc, ↓dLcM, ↓dtYes, ↓wipeD, dat, datL, seqL, L2.CPow, List.getElem?_cons_zero, List.getElem?_cons_succ, List.set_cons_zero, List.set_cons_succ, List.length_cons, List.length_nil, List.map_cons, List.map_nil, upS_same, if_true, if_false, Bool.false_eq_true, true_and, and_true, Bool.not_true, Bool.not_false, Bool.true_xor, Bool.false_xor, eqv_int, eqv_str, eqv_bool, dp_int, dp_str, dp_bool, dp_none, al_int, al_str, min00, ne_int, ne_str, mapM_p, atD_zero, atD_one, atD_two, atD_three, PyData.isTuple, PyData.isInt, PyData.isStr, PyData.isBool, PyData.isList, PyData.isDict, Nat.reduceAdd, Int.cast_ofNat_Int, Int.reduceEq, Int.reduceAdd, Int.reduceSub, decide_true, decide_false, decide_eq_true_eq, ↓reduceIte, reduceCtorEq]
      have m0 := Int.emod_nonneg (d3 + 4) (show (10 : Int) ≠ 0 by omega)
      have m1 := Int.emod_lt_of_pos (d3 + 4) (show (0 : Int) < 10 by omega)
      refine ⟨by decide, ms, ((d3 + 4) % 10).toNat, by rw [Int.toNat_of_nonneg m0], hms, by omega, by omega, ?_⟩
      exact Fin.same (hQ _)
  by_cases h7 : d1 = 7
  · simp only [↓dSeq, ↓dNext, ↓dSet, ↓dDrop, ↓dRet, ↓dRetN, ↓dIfS, ↓dAsg, ↓dBreak, ↓dCont, ↓dVar, ↓dC, ↓dOp, ↓dTB, ↓dtAnd, ↓dtOr, ↓dtNot, ↓dTru, ↓dAnd, ↓dOr, ↓dNot, ↓dIf, ↓dChain, ↓dCall, ↓dCB, ↓dCons, ↓dNil, ↓dStar, ↓dTup, ↓dLst, ↓dLstM, ↓dIsa, ↓dApp, ↓dNeg, ↓gdName, ↓gdTup, ↓gdCons, ↓gdNil, ↓gdSub, ↓rIx_tup, ↓rIx_str, ↓rIx_lst, ↓rIx_ref, ↓rSetL, ↓rSl, ↓dSl, ↓doNone, ↓doSome, ↓rAdd, ↓rSub, ↓rMul, ↓rMod, ↓rFdiv, ↓rPow, ↓rShl, ↓rShr, ↓rBand, ↓rBor, ↓rInt, ↓cInt, ↓cLen_tup, ↓cLen_str, ↓cLen_lst, ↓cLen_ref, ↓cTuple, ↓cSorted, ↓cMax2, ↓rEq, ↓rNe, ↓rLt, ↓rGt, ↓rLe, ↓rGe, ↓rOrd, ↓rIn, ↓rIs, ↓isNone, ↓truD, ↓frzAll, ↓diA, ↓diR1, ↓diR2, ↓dFor, ↓dLc, ↓dLcM, ↓dtYes, ↓wipeD, dat, datL, seqL, L2.CPow, List.getElem?_cons_zero, List.getElem?_cons_succ, List.set_cons_zero, List.set_cons_succ, List.length_cons, List.length_nil, List.map_cons, List.map_nil, upS_same, if_true, if_false, Bool.false_eq_true, true_and, and_true, Bool.not_true, Bool.not_false, Bool.true_xor, Bool.false_xor, eqv_int, eqv_str, eqv_bool, dp_int, dp_str, dp_bool, dp_none, al_int, al_str, min00, ne_int, ne_str, mapM_p, atD_zero, atD_one, atD_two, atD_three, PyData.isTuple, PyData.isInt, PyData.isStr, PyData.isBool, PyData.isList, PyData.isDict, Nat.reduceAdd, Int.cast_ofNat_Int, Int.reduceEq, Int.reduceAdd, Int.reduceSub, decide_true, decide_false, decide_eq_true_eq, ↓reduceIte, reduceCtorEq, h7, ↓t_law_13]
    exact names 7 o1 true (by decide) (by decide) ho1
  · simp only [↓dSeq, ↓dNext, ↓dSet, ↓dDrop, ↓dRet, ↓dRetN, ↓dIfS, ↓dAsg, ↓dBreak, ↓dCont, ↓dVar, ↓dC, ↓dOp, ↓dTB, ↓dtAnd, ↓dtOr, ↓dtNot, ↓dTru, ↓dAnd, ↓dOr, ↓dNot, ↓dIf, ↓dChain, ↓dCall, ↓dCB, ↓dCons, ↓dNil, ↓dStar, ↓dTup, ↓dLst, ↓dLstM, ↓dIsa, ↓dApp, ↓dNeg, ↓gdName, ↓gdTup, ↓gdCons, ↓gdNil, ↓gdSub, ↓rIx_tup, ↓rIx_str, ↓rIx_lst, ↓rIx_ref, ↓rSetL, ↓rSl, ↓dSl, ↓doNone, ↓doSome, ↓rAdd, ↓rSub, ↓rMul, ↓rMod, ↓rFdiv, ↓rPow, ↓rShl, ↓rShr, ↓rBand, ↓rBor, ↓rInt, ↓cInt, ↓cLen_tup, ↓cLen_str, ↓cLen_lst, ↓cLen_ref, ↓cTuple, ↓cSorted, ↓cMax2, ↓rEq, ↓rNe, ↓rLt, ↓rGt, ↓rLe, ↓rGe, ↓rOrd, ↓rIn, ↓rIs, ↓isNone, ↓truD, ↓frzAll, ↓diA, ↓diR1, ↓diR2, ↓dFor, ↓dLc, ↓dLcM, ↓dtYes, ↓wipeD, dat, datL, seqL, L2.CPow, List.getElem?_cons_zero, List.getElem?_cons_succ, List.set_cons_zero, List.set_cons_succ, List.length_cons, List.length_nil, List.map_cons, List.map_nil, upS_same, if_true, if_false, Bool.false_eq_true, true_and, and_true, Bool.not_true, Bool.not_false, Bool.true_xor, Bool.false_xor, eqv_int, eqv_str, eqv_bool, dp_int, dp_str, dp_bool, dp_none, al_int, al_str, min00, ne_int, ne_str, mapM_p, atD_zero, atD_one, atD_two, atD_three, PyData.isTuple, PyData.isInt, PyData.isStr, PyData.isBool, PyData.isList, PyData.isDict, Nat.reduceAdd, Int.cast_ofNat_Int, Int.reduceEq, Int.reduceAdd, Int.reduceSub, decide_true, decide_false, decide_eq_true_eq, ↓reduceIte, reduceCtorEq, decide_eq_false h7, ↓t_law_13]
    refine c_take upS_same ho1 fun d2 o2 _ _ ho2 => ?_
    rw [upS_upS]
    try simp only [↓dSeq, ↓dNext, ↓dSet, ↓dDrop, ↓dRet, ↓dRetN, ↓dIfS, ↓dAsg, ↓dBreak, ↓dCont, ↓dVar, ↓dC, ↓dOp, ↓dTB, ↓dtAnd, ↓dtOr, ↓dtNot, ↓dTru, ↓dAnd, ↓dOr, ↓dNot, ↓dIf, ↓dChain, ↓dCall, ↓dCB, ↓dCons, ↓dNil, ↓dStar, ↓dTup, ↓dLst, ↓dLstM, ↓dIsa, ↓dApp, ↓dNeg, ↓gdName, ↓gdTup, ↓gdCons, ↓gdNil, ↓gdSub, ↓rIx_tup, ↓rIx_str, ↓rIx_lst, ↓rIx_ref, ↓rSetL, ↓rSl, ↓dSl, ↓doNone, ↓doSome, ↓rAdd, ↓rSub, ↓rMul, ↓rMod, ↓rFdiv, ↓rPow, ↓rShl, ↓rShr, ↓rBand, ↓rBor, ↓rInt, ↓cInt, ↓cLen_tup, ↓cLen_str, ↓cLen_lst, ↓cLen_ref, ↓cTuple, ↓cSorted, ↓cMax2, ↓rEq, ↓rNe, ↓rLt, ↓rGt, ↓rLe, ↓rGe, ↓rOrd, ↓rIn, ↓rIs, ↓isNone, ↓truD, ↓frzAll, ↓diA, ↓diR1, ↓diR2, ↓dFor, ↓dLc, ↓dLcM, ↓dtYes, ↓wipeD, dat, datL, seqL, L2.CPow, List.getElem?_cons_zero, List.getElem?_cons_succ, List.set_cons_zero, List.set_cons_succ, List.length_cons, List.length_nil, List.map_cons, List.map_nil, upS_same, if_true, if_false, Bool.false_eq_true, true_and, and_true, Bool.not_true, Bool.not_false, Bool.true_xor, Bool.false_xor, eqv_int, eqv_str, eqv_bool, dp_int, dp_str, dp_bool, dp_none, al_int, al_str, min00, ne_int, ne_str, mapM_p, atD_zero, atD_one, atD_two, atD_three, PyData.isTuple, PyData.isInt, PyData.isStr, PyData.isBool, PyData.isList, PyData.isDict, Nat.reduceAdd, Int.cast_ofNat_Int, Int.reduceEq, Int.reduceAdd, Int.reduceSub, decide_true, decide_false, decide_eq_true_eq, ↓reduceIte, reduceCtorEq]
    have := Int.emod_nonneg (d2 + 4) (show (5 : Int) ≠ 0 by omega)
    have := Int.emod_lt_of_pos (d2 + 4) (show (0 : Int) < 5 by omega)
    exact ⟨by decide, names _ o2 false (by omega) (by omega) ho2⟩
end Sh

set_option Elab.async false
set_option linter.all false
set_option autoImplicit false
set_option maxRecDepth 100000
set_option maxHeartbeats 4000000
namespace K05
open PySem PySem.Spec PyProof.Rows L2 Tx
def top (i : Nat) : Stmt := PySem.Challenge.pw_whencehold_k05_positive_or_fall.main.body.getD i (.Pass ⟨0, 0, 0, 0⟩)
section
variable {P : Program} {w : World} {K : PySem.W.Frag} {mg : Str → Option Value} {base : Heap}
/-! ## end -/
abbrev s_end : Stmt := top 1
theorem sc_end : FnScope ["value"] ["value"] (defScope s_end) := ⟨rfl, rfl, rfl, by decide +kernel, rfl, by decide +kernel, by decide +kernel⟩
def t_end : DS :=
      (dRet (dTup (dCons (dC (.str "is")) (dCons (dVar 0) dNil))))
theorem ok_end {k : Nat} { sp : DSp} (F : Fn K mg "end" "end" s_end ["value"])
    (hs : ∀ ds S Q, ds.length = 1 → sp ds S Q → t_end  { nx := fun _ S' => Fin Q (.p .none) S', rt := Fin Q } (dstart 1 ds) S) : Cal P w K mg base (k + 1) "end" ["value"] sp :=
  F.ok sc_end ( fun f cdv A outer s H E hr => by
    have hu := hr.units
    have nd := sc_end.nd
    exact (dss_one (ds_ret (de_tup (da_cons de_str (da_cons (dv 0) da_nil)))))) hs
/-! ## _top_name -/
abbrev s__top_name : Stmt := top 3
theorem sc__top_name : FnScope ["paper"] ["paper"] (defScope s__top_name) := ⟨rfl, rfl, rfl, by decide +kernel, rfl, by decide +kernel, by decide +kernel⟩
def t__top_name : DS :=
      (dRet (dIf (dTB (dOp rEq (dOp rIx (dVar 0) (dC (.int 0))) (dC (.str "is")))) (dTup dNil) (dOp rIx (dVar 0) (dC (.int 1)))))
theorem ok__top_name {k : Nat} { sp : DSp} (F : Fn K mg "_top_name" "_top_name" s__top_name ["paper"])
    (hs : ∀ ds S Q, ds.length = 1 → sp ds S Q → t__top_name  { nx := fun _ S' => Fin Q (.p .none) S', rt := Fin Q } (dstart 1 ds) S) : Cal P w K mg base (k + 1) "_top_name" ["paper"] sp :=
  F.ok sc__top_name ( fun f cdv A outer s H E hr => by
    have hu := hr.units
    have nd := sc__top_name.nd
    exact (dss_one (ds_ret (de_if (dt_cmp (dop_eq hu) (de_ix (dv 0) de_int) de_str) (de_tup da_nil) (de_ix (dv 0) de_int))))) hs
/-! ## _branches -/
abbrev s__branches : Stmt := top 4
theorem sc__branches : FnScope ["paper", "name"] ["paper", "name"] (defScope s__branches) := ⟨rfl, rfl, rfl, by decide +kernel, rfl, by decide +kernel, by decide +kernel⟩
def t__branches_1 : DS := (dRet (dTup (dCons (dVar 0) (dCons (dVar 0) dNil))))
def t__branches_2 : DS := (dRet (dTup (dCons (dOp rIx (dVar 0) (dC (.int 2))) (dCons (dOp rIx (dVar 0) (dC (.int 3))) dNil))))
def t__branches (sp__top_name : DSp) : DS :=
      (dSeq (dIfS (dTB (dOp rNe (dCall 1 sp__top_name (dCons (dVar 0) dNil)) (dVar 1)))
        t__branches_1
        dNext) t__branches_2)
theorem ok__branches {k : Nat} {sp__top_name sp : DSp} (F : Fn K mg "_branches" "_branches" s__branches ["paper", "name"]) (c__top_name : Cal P w K mg base k "_top_name" ["paper"] sp__top_name)
    (hs : ∀ ds S Q, ds.length = 2 → sp ds S Q → t__branches sp__top_name { nx := fun _ S' => Fin Q (.p .none) S', rt := Fin Q } (dstart 2 ds) S) : Cal P w K mg base (k + 1) "_branches" ["paper", "name"] sp :=
  F.ok sc__branches ( fun f cdv A outer s H E hr => by
    have hu := hr.units
    have nd := sc__branches.nd
    exact (dss_cons (ds_if (dt_cmp (dop_ne hu) (de_fn c__top_name hr (da_cons (dv 0) da_nil)) (dv 1))
        (dss_one (ds_ret (de_tup (da_cons (dv 0) (da_cons (dv 0) da_nil)))))
        dss_nil)
      (dss_one (ds_ret (de_tup (da_cons (de_ix (dv 0) de_int) (da_cons (de_ix (dv 0) de_int) da_nil))))))) hs
/-! ## _crossing -/
abbrev s__crossing : Stmt := top 5
theorem sc__crossing : FnScope ["lower", "upper", "name", "lower_stands", "lower_gone", "upper_stands", "upper_gone", "choice"] ["lower", "upper"] (defScope s__crossing) := ⟨rfl, rfl, rfl, by decide +kernel, rfl, by decide +kernel, by decide +kernel⟩
def t__crossing_1 : DS := (dRet (dC .none))
def t__crossing_2 : DS := (dRet (dTup dNil))
def t__crossing_3 : DS := (dRet (dVar 7))
def t__crossing_4 : DS := (dRet (dTup (dStar (dVar 7) (dCons (dVar 2) dNil))))
def t__crossing_5 : DS := (dRet (dC .none))
def t__crossing_6 : DS := (dSeq (dIfS (dTB (dOp (rIs true) (dVar 7) (dC .none)))
        t__crossing_4
        dNext) t__crossing_5)
def t__crossing_7 (sp__crossing : DSp) : DS := (dSeq (dSet 7 (dCall 2 sp__crossing (dCons (dVar 4) (dCons (dVar 6) dNil)))) t__crossing_6)
def t__crossing_8 (sp__crossing : DSp) : DS := (dSeq (dIfS (dTB (dOp (rIs true) (dVar 7) (dC .none)))
        t__crossing_3
        dNext) (t__crossing_7 sp__crossing))
def t__crossing_9 (sp__crossing : DSp) : DS := (dSeq (dSet 7 (dCall 2 sp__crossing (dCons (dVar 3) (dCons (dVar 5) dNil)))) (t__crossing_8 sp__crossing))
def t__crossing_10 (sp__branches sp__crossing : DSp) : DS := (dSeq (dAsg (dCall 2 sp__branches (dCons (dVar 1) (dCons (dVar 2) dNil))) (gdTup 2 (gdCons (gdName 5) (gdCons (gdName 6) gdNil)))) (t__crossing_9 sp__crossing))
def t__crossing_11 (sp__branches sp__crossing : DSp) : DS := (dSeq (dAsg (dCall 2 sp__branches (dCons (dVar 0) (dCons (dVar 2) dNil))) (gdTup 2 (gdCons (gdName 3) (gdCons (gdName 4) gdNil)))) (t__crossing_10 sp__branches sp__crossing))
def t__crossing_12 (sp__branches sp__crossing : DSp) : DS := (dSeq (dIfS (dtNot (dTru (dVar 2)))
        t__crossing_2
        dNext) (t__crossing_11 sp__branches sp__crossing))
def t__crossing_13 (sp__top_name sp__branches sp__crossing : DSp) : DS := (dSeq (dSet 2 (dCB cMax2 (dCons (dCall 1 sp__top_name (dCons (dVar 0) dNil)) (dCons (dCall 1 sp__top_name (dCons (dVar 1) dNil)) dNil)))) (t__crossing_12 sp__branches sp__crossing))
def t__crossing (sp_end sp__top_name sp__branches sp__crossing : DSp) : DS :=
      (dSeq (dIfS (dtOr (dTB (dOp rEq (dVar 0) (dVar 1))) (dtOr (dTB (dOp rEq (dVar 0) (dCall 1 sp_end (dCons (dC (.int 1)) dNil)))) (dTB (dOp rEq (dVar 1) (dCall 1 sp_end (dCons (dC (.int 0)) dNil))))))
        t__crossing_1
        dNext) (t__crossing_13 sp__top_name sp__branches sp__crossing))
theorem ok__crossing {k : Nat} {sp_end sp__top_name sp__branches sp__crossing sp : DSp} (F : Fn K mg "_crossing" "_crossing" s__crossing ["lower", "upper"]) (c_end : Cal P w K mg base k "end" ["value"] sp_end) (c__top_name : Cal P w K mg base k "_top_name" ["paper"] sp__top_name) (c__branches : Cal P w K mg base k "_branches" ["paper", "name"] sp__branches) (c__crossing : Cal P w K mg base k "_crossing" ["lower", "upper"] sp__crossing) (z_max : mg "max" = none)
    (hs : ∀ ds S Q, ds.length = 2 → sp ds S Q → t__crossing sp_end sp__top_name sp__branches sp__crossing { nx := fun _ S' => Fin Q (.p .none) S', rt := Fin Q } (dstart 8 ds) S) : Cal P w K mg base (k + 1) "_crossing" ["lower", "upper"] sp :=
  F.ok sc__crossing ( fun f cdv A outer s H E hr => by
    have hu := hr.units
    have nd := sc__crossing.nd
    exact (dss_cons (ds_if (PW.pt (dw_or (dt_cmp (dop_eq hu) (dv 0) (dv 1)) (dw_or (dt_cmp (dop_eq hu) (dv 0) (de_fn c_end hr (da_cons de_int da_nil))) (dw_or1 (dt_cmp (dop_eq hu) (dv 1) (de_fn c_end hr (da_cons de_int da_nil)))))))
        (dss_one (ds_ret de_non))
        dss_nil)
      (dss_cons (ds_set (i := 2) nd rfl (by first | exact Or.inl rfl | exact Or.inr rfl) (de_callB (dc_max2 rfl hu) rfl z_max (by decide +kernel) (da_cons (de_fn c__top_name hr (da_cons (dv 0) da_nil)) (da_cons (de_fn c__top_name hr (da_cons (dv 1) da_nil)) da_nil))))
      (dss_cons (ds_if (dt_not (dt_truth (dv 2)))
        (dss_one (ds_ret (de_tup da_nil)))
        dss_nil)
      (dss_cons (ds_asg (de_fn c__branches hr (da_cons (dv 0) (da_cons (dv 2) da_nil))) (dg_tup rfl (dgs_cons (dg_name (i := 3) nd rfl (by first | exact Or.inl rfl | exact Or.inr rfl)) (dgs_cons (dg_name (i := 4) nd rfl (by first | exact Or.inl rfl | exact Or.inr rfl)) dgs_nil))))
      (dss_cons (ds_asg (de_fn c__branches hr (da_cons (dv 1) (da_cons (dv 2) da_nil))) (dg_tup rfl (dgs_cons (dg_name (i := 5) nd rfl (by first | exact Or.inl rfl | exact Or.inr rfl)) (dgs_cons (dg_name (i := 6) nd rfl (by first | exact Or.inl rfl | exact Or.inr rfl)) dgs_nil))))
      (dss_cons (ds_set (i := 7) nd rfl (by first | exact Or.inl rfl | exact Or.inr rfl) (de_fn c__crossing hr (da_cons (dv 3) (da_cons (dv 5) da_nil))))
      (dss_cons (ds_if (dt_cmp dop_isnot (dv 7) de_non)
        (dss_one (ds_ret (dv 7)))
        dss_nil)
      (dss_cons (ds_set (i := 7) nd rfl (by first | exact Or.inl rfl | exact Or.inr rfl) (de_fn c__crossing hr (da_cons (dv 4) (da_cons (dv 6) da_nil))))
      (dss_cons (ds_if (dt_cmp dop_isnot (dv 7) de_non)
        (dss_one (ds_ret (de_tup (da_star (dv 7) (da_cons (dv 2) da_nil)))))
        dss_nil)
      (dss_one (ds_ret de_non)))))))))))) hs
/-! ## fall -/
abbrev s_fall : Stmt := top 6
theorem sc_fall : FnScope ["paper", "_", "name", "stands", "gone", "choice", "lower"] ["paper"] (defScope s_fall) := ⟨rfl, rfl, rfl, by decide +kernel, rfl, by decide +kernel, by decide +kernel⟩
def t_fall_1 : DS := (dRet (dC .none))
def t_fall_2 : DS := (dRet (dTup (dCons (dVar 5) (dCons (dVar 2) dNil))))
def t_fall_3 : DS := (dRet (dVar 6))
def t_fall_4 : DS := (dRet (dTup (dCons (dTup (dStar (dOp rIx (dVar 6) (dC (.int 0))) (dCons (dVar 2) dNil))) (dCons (dOp rIx (dVar 6) (dC (.int 1))) dNil))))
def t_fall_5 : DS := (dRet (dC .none))
def t_fall_6 : DS := (dSeq (dIfS (dTB (dOp (rIs true) (dVar 6) (dC .none)))
        t_fall_4
        dNext) t_fall_5)
def t_fall_7 (sp_fall : DSp) : DS := (dSeq (dSet 6 (dCall 1 sp_fall (dCons (dVar 4) dNil))) t_fall_6)
def t_fall_8 (sp_fall : DSp) : DS := (dSeq (dIfS (dTB (dOp (rIs true) (dVar 6) (dC .none)))
        t_fall_3
        dNext) (t_fall_7 sp_fall))
def t_fall_9 (sp_fall : DSp) : DS := (dSeq (dSet 6 (dCall 1 sp_fall (dCons (dVar 3) dNil))) (t_fall_8 sp_fall))
def t_fall_10 (sp_fall : DSp) : DS := (dSeq (dIfS (dTB (dOp (rIs true) (dVar 5) (dC .none)))
        t_fall_2
        dNext) (t_fall_9 sp_fall))
def t_fall_11 (sp__crossing sp_fall : DSp) : DS := (dSeq (dSet 5 (dCall 2 sp__crossing (dCons (dVar 3) (dCons (dVar 4) dNil)))) (t_fall_10 sp_fall))
def t_fall_12 (sp__crossing sp_fall : DSp) : DS := (dSeq (dAsg (dVar 0) (gdTup 4 (gdCons (gdName 1) (gdCons (gdName 2) (gdCons (gdName 3) (gdCons (gdName 4) gdNil)))))) (t_fall_11 sp__crossing sp_fall))
def t_fall (sp__crossing sp_fall : DSp) : DS :=
      (dSeq (dIfS (dTB (dOp rEq (dOp rIx (dVar 0) (dC (.int 0))) (dC (.str "is"))))
        t_fall_1
        dNext) (t_fall_12 sp__crossing sp_fall))
theorem ok_fall {k : Nat} {sp__crossing sp_fall sp : DSp} (F : Fn K mg "fall" "fall" s_fall ["paper"]) (c__crossing : Cal P w K mg base k "_crossing" ["lower", "upper"] sp__crossing) (c_fall : Cal P w K mg base k "fall" ["paper"] sp_fall)
    (hs : ∀ ds S Q, ds.length = 1 → sp ds S Q → t_fall sp__crossing sp_fall { nx := fun _ S' => Fin Q (.p .none) S', rt := Fin Q } (dstart 7 ds) S) : Cal P w K mg base (k + 1) "fall" ["paper"] sp :=
  F.ok sc_fall ( fun f cdv A outer s H E hr => by
    have hu := hr.units
    have nd := sc_fall.nd
    exact (dss_cons (ds_if (dt_cmp (dop_eq hu) (de_ix (dv 0) de_int) de_str)
        (dss_one (ds_ret de_non))
        dss_nil)
      (dss_cons (ds_asg (dv 0) (dg_tup rfl (dgs_cons (dg_name (i := 1) nd rfl (by first | exact Or.inl rfl | exact Or.inr rfl)) (dgs_cons (dg_name (i := 2) nd rfl (by first | exact Or.inl rfl | exact Or.inr rfl)) (dgs_cons (dg_name (i := 3) nd rfl (by first | exact Or.inl rfl | exact Or.inr rfl)) (dgs_cons (dg_name (i := 4) nd rfl (by first | exact Or.inl rfl | exact Or.inr rfl)) dgs_nil))))))
      (dss_cons (ds_set (i := 5) nd rfl (by first | exact Or.inl rfl | exact Or.inr rfl) (de_fn c__crossing hr (da_cons (dv 3) (da_cons (dv 4) da_nil))))
      (dss_cons (ds_if (dt_cmp dop_isnot (dv 5) de_non)
        (dss_one (ds_ret (de_tup (da_cons (dv 5) (da_cons (dv 2) da_nil)))))
        dss_nil)
      (dss_cons (ds_set (i := 6) nd rfl (by first | exact Or.inl rfl | exact Or.inr rfl) (de_fn c_fall hr (da_cons (dv 3) da_nil)))
      (dss_cons (ds_if (dt_cmp dop_isnot (dv 6) de_non)
        (dss_one (ds_ret (dv 6)))
        dss_nil)
      (dss_cons (ds_set (i := 6) nd rfl (by first | exact Or.inl rfl | exact Or.inr rfl) (de_fn c_fall hr (da_cons (dv 4) da_nil)))
      (dss_cons (ds_if (dt_cmp dop_isnot (dv 6) de_non)
        (dss_one (ds_ret (de_tup (da_cons (de_tup (da_star (de_ix (dv 6) de_int) (da_cons (dv 2) da_nil))) (da_cons (de_ix (dv 6) de_int) da_nil)))))
        dss_nil)
      (dss_one (ds_ret de_non))))))))))) hs
/-! ## is_positive -/
abbrev s_is_positive : Stmt := top 7
theorem sc_is_positive : FnScope ["paper"] ["paper"] (defScope s_is_positive) := ⟨rfl, rfl, rfl, by decide +kernel, rfl, by decide +kernel, by decide +kernel⟩
def t_is_positive (sp_fall : DSp) : DS :=
      (dRet (dOp (rIs false) (dCall 1 sp_fall (dCons (dVar 0) dNil)) (dC .none)))
theorem ok_is_positive {k : Nat} {sp_fall sp : DSp} (F : Fn K mg "is_positive" "is_positive" s_is_positive ["paper"]) (c_fall : Cal P w K mg base k "fall" ["paper"] sp_fall)
    (hs : ∀ ds S Q, ds.length = 1 → sp ds S Q → t_is_positive sp_fall { nx := fun _ S' => Fin Q (.p .none) S', rt := Fin Q } (dstart 1 ds) S) : Cal P w K mg base (k + 1) "is_positive" ["paper"] sp :=
  F.ok sc_is_positive ( fun f cdv A outer s H E hr => by
    have hu := hr.units
    have nd := sc_is_positive.nd
    exact (dss_one (ds_ret (de_cmp dop_is (de_fn c_fall hr (da_cons (dv 0) da_nil)) de_non)))) hs
/-! ## _law_new_pool -/
abbrev s__law_new_pool : Stmt := top 9
theorem sc__law_new_pool : FnScope ["script", "pool", "cell"] ["script"] (defScope s__law_new_pool) := ⟨rfl, rfl, rfl, by decide +kernel, rfl, by decide +kernel, by decide +kernel⟩
def t__law_new_pool_1 : DS := (dDrop (dApp (dVar 1) (dCB cInt (dCons (dVar 2) dNil))))
def t__law_new_pool_2 : DS := (dDrop (dApp (dVar 1) (dC (.int 0))))
def t__law_new_pool_3 : DS := (dRet (dVar 1))
def t__law_new_pool_4 : DS := (dSeq (dIfS (dTB (dOp rEq (dCB cLen (dCons (dVar 1) dNil)) (dC (.int 1))))
        t__law_new_pool_2
        dNext) t__law_new_pool_3)
def t__law_new_pool_5 : DS := (dSeq (dFor (diA (dSl rSl (dVar 0) doNone (doSome (dC (.int 63))))) (gdName 2)
        t__law_new_pool_1) t__law_new_pool_4)
def t__law_new_pool : DS :=
      (dSeq (dSet 1 (dLstM (dCons (dC (.int 0)) dNil))) t__law_new_pool_5)
theorem ok__law_new_pool {k : Nat} { sp : DSp} (F : Fn K mg "_law_new_pool" "_law_new_pool" s__law_new_pool ["script"]) (z_int : mg "int" = none) (z_len : mg "len" = none)
    (hs : ∀ ds S Q, ds.length = 1 → sp ds S Q → t__law_new_pool  { nx := fun _ S' => Fin Q (.p .none) S', rt := Fin Q } (dstart 3 ds) S) : Cal P w K mg base (k + 1) "_law_new_pool" ["script"] sp :=
  F.ok sc__law_new_pool ( fun f cdv A outer s H E hr => by
    have hu := hr.units
    have nd := sc__law_new_pool.nd
    exact (dss_cons (ds_set (i := 1) nd rfl (by first | exact Or.inl rfl | exact Or.inr rfl) (de_lstM (da_cons de_int da_nil)))
      (dss_cons (ds_for PassesOwn.never rfl (di_any (de_slice (dv 0) do_none (do_some de_int))) (dg_name (i := 2) nd rfl (by first | exact Or.inl rfl | exact Or.inr rfl))
        (dss_one (ds_expr (de_append (dv 1) (de_callTy dc_int rfl z_int (by decide +kernel) (da_cons (dv 2) da_nil))))))
      (dss_cons (ds_if (dt_cmp (dop_eq hu) (de_callB dc_len rfl z_len (by decide +kernel) (da_cons (dv 1) da_nil)) de_int)
        (dss_one (ds_expr (de_append (dv 1) de_int)))
        dss_nil)
      (dss_one (ds_ret (dv 1))))))) hs
/-! ## _law_take -/
abbrev s__law_take : Stmt := top 10
theorem sc__law_take : FnScope ["pool", "base", "spot", "digit"] ["pool", "base"] (defScope s__law_take) := ⟨rfl, rfl, rfl, by decide +kernel, rfl, by decide +kernel, by decide +kernel⟩
def t__law_take_1 : DS := (dRet (dVar 3))
def t__law_take_2 : DS := (dSeq (dAsg (dOp rFdiv (dCB cInt (dCons (dOp rIx (dVar 0) (dVar 2)) dNil)) (dVar 1)) (gdSub (dVar 0) (dVar 2) rSetL)) t__law_take_1)
def t__law_take_3 : DS := (dSeq (dSet 3 (dOp rMod (dCB cInt (dCons (dOp rIx (dVar 0) (dVar 2)) dNil)) (dVar 1))) t__law_take_2)
def t__law_take_4 : DS := (dSeq (dAsg (dOp rAdd (dOp rIx (dVar 0) (dC (.int 0))) (dC (.int 1))) (gdSub (dVar 0) (dC (.int 0)) rSetL)) t__law_take_3)
def t__law_take : DS :=
      (dSeq (dSet 2 (dOp rAdd (dC (.int 1)) (dOp rMod (dCB cInt (dCons (dOp rIx (dVar 0) (dC (.int 0))) dNil)) (dOp rSub (dCB cLen (dCons (dVar 0) dNil)) (dC (.int 1)))))) t__law_take_4)
theorem ok__law_take {k : Nat} { sp : DSp} (F : Fn K mg "_law_take" "_law_take" s__law_take ["pool", "base"]) (z_int : mg "int" = none) (z_len : mg "len" = none)
    (hs : ∀ ds S Q, ds.length = 2 → sp ds S Q → t__law_take  { nx := fun _ S' => Fin Q (.p .none) S', rt := Fin Q } (dstart 4 ds) S) : Cal P w K mg base (k + 1) "_law_take" ["pool", "base"] sp :=
  F.ok sc__law_take ( fun f cdv A outer s H E hr => by
    have hu := hr.units
    have nd := sc__law_take.nd
    exact (dss_cons (ds_set (i := 2) nd rfl (by first | exact Or.inl rfl | exact Or.inr rfl) (de_op dop_add de_int (de_op o_mod (de_callTy dc_int rfl z_int (by decide +kernel) (da_cons (de_ix (dv 0) de_int) da_nil)) (de_op o_sub (de_callB dc_len rfl z_len (by decide +kernel) (da_cons (dv 0) da_nil)) de_int))))
      (dss_cons (ds_asg (de_op dop_add (de_ix (dv 0) de_int) de_int) (dg_sub (dv 0) de_int))
      (dss_cons (ds_set (i := 3) nd rfl (by first | exact Or.inl rfl | exact Or.inr rfl) (de_op o_mod (de_callTy dc_int rfl z_int (by decide +kernel) (da_cons (de_ix (dv 0) (dv 2)) da_nil)) (dv 1)))
      (dss_cons (ds_asg (de_op o_fdiv (de_callTy dc_int rfl z_int (by decide +kernel) (da_cons (de_ix (dv 0) (dv 2)) da_nil)) (dv 1)) (dg_sub (dv 0) (dv 2)))
      (dss_one (ds_ret (dv 3)))))))) hs
/-! ## _law_new_word -/
abbrev s__law_new_word : Stmt := top 11
theorem sc__law_new_word : FnScope ["pool", "word", "k"] ["pool"] (defScope s__law_new_word) := ⟨rfl, rfl, rfl, by decide +kernel, rfl, by decide +kernel, by decide +kernel⟩
def t__law_new_word_1 (sp__law_take : DSp) : DS := (dSet 1 (dOp rAdd (dVar 1) (dOp rIx (dC (.str "abcdefghijklmnopqrstuvwxyz")) (dCall 2 sp__law_take (dCons (dVar 0) (dCons (dC (.int 26)) dNil))))))
def t__law_new_word_2 : DS := (dRet (dVar 1))
def t__law_new_word_3 (sp__law_take : DSp) : DS := (dSeq (dFor (diR1 (dCons (dOp rAdd (dC (.int 2)) (dCall 2 sp__law_take (dCons (dVar 0) (dCons (dC (.int 5)) dNil)))) dNil)) (gdName 2)
        (t__law_new_word_1 sp__law_take)) t__law_new_word_2)
def t__law_new_word (sp__law_take : DSp) : DS :=
      (dSeq (dSet 1 (dC (.str ""))) (t__law_new_word_3 sp__law_take))
theorem ok__law_new_word {k : Nat} {sp__law_take sp : DSp} (F : Fn K mg "_law_new_word" "_law_new_word" s__law_new_word ["pool"]) (c__law_take : Cal P w K mg base k "_law_take" ["pool", "base"] sp__law_take) (z_range : mg "range" = none)
    (hs : ∀ ds S Q, ds.length = 1 → sp ds S Q → t__law_new_word sp__law_take { nx := fun _ S' => Fin Q (.p .none) S', rt := Fin Q } (dstart 3 ds) S) : Cal P w K mg base (k + 1) "_law_new_word" ["pool"] sp :=
  F.ok sc__law_new_word ( fun f cdv A outer s H E hr => by
    have hu := hr.units
    have nd := sc__law_new_word.nd
    exact (dss_cons (ds_set (i := 1) nd rfl (by first | exact Or.inl rfl | exact Or.inr rfl) de_str)
      (dss_cons (ds_for PassesOwn.never rfl (di_range1 rfl z_range (da_cons (de_op dop_add de_int (de_fn c__law_take hr (da_cons (dv 0) (da_cons de_int da_nil)))) da_nil)) (dg_name (i := 2) nd rfl (by first | exact Or.inl rfl | exact Or.inr rfl))
        (dss_one (ds_set (i := 1) nd rfl (by first | exact Or.inl rfl | exact Or.inr rfl) (de_op dop_add (dv 1) (de_ix de_str (de_fn c__law_take hr (da_cons (dv 0) (da_cons de_int da_nil))))))))
      (dss_one (ds_ret (dv 1)))))) hs
/-! ## _law_name_list -/
abbrev s__law_name_list : Stmt := top 12
theorem sc__law_name_list : FnScope ["pool", "count", "owners", "mode", "start", "names", "k", "pick", "owner", "number", "house", "name"] ["pool", "count"] (defScope s__law_name_list) := ⟨rfl, rfl, rfl, by decide +kernel, rfl, by decide +kernel, by decide +kernel⟩
def t__law_name_list_1 : DS := (dSet 9 (dC (.int 99)))
def t__law_name_list_2 : DS := (dSet 11 (dTup (dCons (dC (.str "A")) (dCons (dVar 4) (dCons (dVar 8) dNil)))))
def t__law_name_list_3 : DS := (dSet 11 (dTup (dCons (dC (.str "A")) (dCons (dVar 9) (dCons (dC (.str "bob")) dNil)))))
def t__law_name_list_4 : DS := (dSet 11 (dTup (dCons (dVar 10) (dCons (dVar 4) (dCons (dC (.str "eve")) dNil)))))
def t__law_name_list_5 : DS := (dIfS (dTB (dOp rEq (dVar 3) (dC (.int 3))))
              t__law_name_list_4
              dNext)
def t__law_name_list_6 : DS := (dIfS (dTB (dOp rEq (dVar 3) (dC (.int 2))))
            t__law_name_list_3
            t__law_name_list_5)
def t__law_name_list_7 : DS := (dDrop (dApp (dVar 5) (dVar 11)))
def t__law_name_list_8 : DS := (dIfS (dTB (dOp (rIn true) (dVar 11) (dVar 5)))
          t__law_name_list_7
          dNext)
def t__law_name_list_9 : DS := (dSeq (dIfS (dTB (dOp rEq (dVar 3) (dC (.int 1))))
          t__law_name_list_2
          t__law_name_list_6) t__law_name_list_8)
def t__law_name_list_10 : DS := (dSeq (dSet 11 (dTup (dCons (dVar 10) (dCons (dVar 9) (dCons (dVar 8) dNil))))) t__law_name_list_9)
def t__law_name_list_11 (sp__law_take : DSp) : DS := (dSeq (dSet 10 (dOp rIx (dC (.str "ABCDEFGH")) (dOp rMod (dCB cInt (dCons (dOp rAdd (dCall 2 sp__law_take (dCons (dVar 0) (dCons (dC (.int 8)) dNil))) (dOp rFdiv (dVar 6) (dC (.int 3)))) dNil)) (dC (.int 8))))) t__law_name_list_10)
def t__law_name_list_12 (sp__law_take : DSp) : DS := (dSeq (dIfS (dtAnd (dTB (dOp rNe (dVar 8) (dC (.str "")))) (dTB (dOp rEq (dCall 2 sp__law_take (dCons (dVar 0) (dCons (dC (.int 8)) dNil))) (dC (.int 7)))))
          t__law_name_list_1
          dNext) (t__law_name_list_11 sp__law_take))
def t__law_name_list_13 (sp__law_take : DSp) : DS := (dSeq (dSet 9 (dOp rMod (dCB cInt (dCons (dOp rAdd (dCall 2 sp__law_take (dCons (dVar 0) (dCons (dC (.int 60)) dNil))) (dOp rMul (dC (.int 7)) (dVar 6))) dNil)) (dC (.int 60)))) (t__law_name_list_12 sp__law_take))
def t__law_name_list_14 (sp__law_take sp__law_new_word : DSp) : DS := (dSeq (dSet 8 (dIf (dTB (dOp rEq (dVar 7) (dC (.int 7)))) (dCall 1 sp__law_new_word (dCons (dVar 0) dNil)) (dOp rIx (dVar 2) (dVar 7)))) (t__law_name_list_13 sp__law_take))
def t__law_name_list_15 (sp__law_take sp__law_new_word : DSp) : DS := (dSeq (dSet 7 (dOp rMod (dCB cInt (dCons (dOp rAdd (dCall 2 sp__law_take (dCons (dVar 0) (dCons (dC (.int 8)) dNil))) (dVar 6)) dNil)) (dC (.int 8)))) (t__law_name_list_14 sp__law_take sp__law_new_word))
def t__law_name_list_16 : DS := (dRet (dCB cSorted (dCons (dVar 5) dNil)))
def t__law_name_list_17 (sp__law_take sp__law_new_word : DSp) : DS := (dSeq (dFor (diR1 (dCons (dVar 1) dNil)) (gdName 6)
        (t__law_name_list_15 sp__law_take sp__law_new_word)) t__law_name_list_16)
def t__law_name_list_18 (sp__law_take sp__law_new_word : DSp) : DS := (dSeq (dSet 5 (dLstM dNil)) (t__law_name_list_17 sp__law_take sp__law_new_word))
def t__law_name_list_19 (sp__law_take sp__law_new_word : DSp) : DS := (dSeq (dSet 4 (dCall 2 sp__law_take (dCons (dVar 0) (dCons (dC (.int 60)) dNil)))) (t__law_name_list_18 sp__law_take sp__law_new_word))
def t__law_name_list_20 (sp__law_take sp__law_new_word : DSp) : DS := (dSeq (dSet 3 (dCall 2 sp__law_take (dCons (dVar 0) (dCons (dC (.int 4)) dNil)))) (t__law_name_list_19 sp__law_take sp__law_new_word))
def t__law_name_list (sp__law_take sp__law_new_word : DSp) : DS :=
      (dSeq (dSet 2 (dLst (dCons (dC (.str "")) (dCons (dC (.str "bob")) (dCons (dC (.str "eve")) (dCons (dC (.str "ab")) (dCons (dC (.str "abcdef")) (dCons (dC (.str "zz")) (dCons (dC (.str "bobby")) dNil))))))))) (t__law_name_list_20 sp__law_take sp__law_new_word))
theorem ok__law_name_list {k : Nat} {sp__law_take sp__law_new_word sp : DSp} (F : Fn K mg "_law_name_list" "_law_name_list" s__law_name_list ["pool", "count"]) (c__law_take : Cal P w K mg base k "_law_take" ["pool", "base"] sp__law_take) (c__law_new_word : Cal P w K mg base k "_law_new_word" ["pool"] sp__law_new_word) (z_range : mg "range" = none) (z_int : mg "int" = none) (z_sorted : mg "sorted" = none)
    (hs : ∀ ds S Q, ds.length = 2 → sp ds S Q → t__law_name_list sp__law_take sp__law_new_word { nx := fun _ S' => Fin Q (.p .none) S', rt := Fin Q } (dstart 12 ds) S) : Cal P w K mg base (k + 1) "_law_name_list" ["pool", "count"] sp :=
  F.ok sc__law_name_list ( fun f cdv A outer s H E hr => by
    have hu := hr.units
    have nd := sc__law_name_list.nd
    exact (dss_cons (ds_set (i := 2) nd rfl (by first | exact Or.inl rfl | exact Or.inr rfl) (de_lst (da_cons de_str (da_cons de_str (da_cons de_str (da_cons de_str (da_cons de_str (da_cons de_str (da_cons de_str da_nil)))))))))
      (dss_cons (ds_set (i := 3) nd rfl (by first | exact Or.inl rfl | exact Or.inr rfl) (de_fn c__law_take hr (da_cons (dv 0) (da_cons de_int da_nil))))
      (dss_cons (ds_set (i := 4) nd rfl (by first | exact Or.inl rfl | exact Or.inr rfl) (de_fn c__law_take hr (da_cons (dv 0) (da_cons de_int da_nil))))
      (dss_cons (ds_set (i := 5) nd rfl (by first | exact Or.inl rfl | exact Or.inr rfl) (de_lstM da_nil))
      (dss_cons (ds_for PassesOwn.never rfl (di_range1 rfl z_range (da_cons (dv 1) da_nil)) (dg_name (i := 6) nd rfl (by first | exact Or.inl rfl | exact Or.inr rfl))
        (dss_cons (ds_set (i := 7) nd rfl (by first | exact Or.inl rfl | exact Or.inr rfl) (de_op o_mod (de_callTy dc_int rfl z_int (by decide +kernel) (da_cons (de_op dop_add (de_fn c__law_take hr (da_cons (dv 0) (da_cons de_int da_nil))) (dv 6)) da_nil)) de_int))
        (dss_cons (ds_set (i := 8) nd rfl (by first | exact Or.inl rfl | exact Or.inr rfl) (de_if (dt_cmp (dop_eq hu) (dv 7) de_int) (de_fn c__law_new_word hr (da_cons (dv 0) da_nil)) (de_ix (dv 2) (dv 7))))
        (dss_cons (ds_set (i := 9) nd rfl (by first | exact Or.inl rfl | exact Or.inr rfl) (de_op o_mod (de_callTy dc_int rfl z_int (by decide +kernel) (da_cons (de_op dop_add (de_fn c__law_take hr (da_cons (dv 0) (da_cons de_int da_nil))) (de_op o_mul de_int (dv 6))) da_nil)) de_int))
        (dss_cons (ds_if (PW.pt (dw_and (dt_cmp (dop_ne hu) (dv 8) de_str) (dw_and1 (dt_cmp (dop_eq hu) (de_fn c__law_take hr (da_cons (dv 0) (da_cons de_int da_nil))) de_int))))
          (dss_one (ds_set (i := 9) nd rfl (by first | exact Or.inl rfl | exact Or.inr rfl) de_int))
          dss_nil)
        (dss_cons (ds_set (i := 10) nd rfl (by first | exact Or.inl rfl | exact Or.inr rfl) (de_ix de_str (de_op o_mod (de_callTy dc_int rfl z_int (by decide +kernel) (da_cons (de_op dop_add (de_fn c__law_take hr (da_cons (dv 0) (da_cons de_int da_nil))) (de_op o_fdiv (dv 6) de_int)) da_nil)) de_int)))
        (dss_cons (ds_set (i := 11) nd rfl (by first | exact Or.inl rfl | exact Or.inr rfl) (de_tup (da_cons (dv 10) (da_cons (dv 9) (da_cons (dv 8) da_nil)))))
        (dss_cons (ds_if (dt_cmp (dop_eq hu) (dv 3) de_int)
          (dss_one (ds_set (i := 11) nd rfl (by first | exact Or.inl rfl | exact Or.inr rfl) (de_tup (da_cons de_str (da_cons (dv 4) (da_cons (dv 8) da_nil))))))
          (dss_one (ds_if (dt_cmp (dop_eq hu) (dv 3) de_int)
            (dss_one (ds_set (i := 11) nd rfl (by first | exact Or.inl rfl | exact Or.inr rfl) (de_tup (da_cons de_str (da_cons (dv 9) (da_cons de_str da_nil))))))
            (dss_one (ds_if (dt_cmp (dop_eq hu) (dv 3) de_int)
              (dss_one (ds_set (i := 11) nd rfl (by first | exact Or.inl rfl | exact Or.inr rfl) (de_tup (da_cons (dv 10) (da_cons (dv 4) (da_cons de_str da_nil))))))
              dss_nil)))))
        (dss_one (ds_if (dt_cmp (dop_notin hu) (dv 11) (dv 5))
          (dss_one (ds_expr (de_append (dv 5) (dv 11))))
          dss_nil))))))))))
      (dss_one (ds_ret (de_callB (dc_sorted hu) rfl z_sorted (by decide +kernel) (da_cons (dv 5) da_nil)))))))))) hs
/-! ## _law_many_names -/
abbrev s__law_many_names : Stmt := top 13
theorem sc__law_many_names : FnScope ["pool", "count", "owners", "start", "names", "k", "house", "owner"] ["pool", "count"] (defScope s__law_many_names) := ⟨rfl, rfl, rfl, by decide +kernel, rfl, by decide +kernel, by decide +kernel⟩
def t__law_many_names_1 : DS := (dDrop (dApp (dVar 4) (dTup (dCons (dVar 6) (dCons (dOp rMod (dCB cInt (dCons (dOp rAdd (dVar 3) (dOp rMul (dC (.int 7)) (dVar 5))) dNil)) (dC (.int 60))) (dCons (dVar 7) dNil))))))
def t__law_many_names_2 (sp__law_take : DSp) : DS := (dSeq (dSet 7 (dOp rIx (dVar 2) (dOp rMod (dCB cInt (dCons (dOp rAdd (dCall 2 sp__law_take (dCons (dVar 0) (dCons (dC (.int 6)) dNil))) (dVar 5)) dNil)) (dC (.int 6))))) t__law_many_names_1)
def t__law_many_names_3 (sp__law_take : DSp) : DS := (dSeq (dSet 6 (dOp rIx (dC (.str "ABCDEFGH")) (dOp rMod (dCB cInt (dCons (dOp rAdd (dCall 2 sp__law_take (dCons (dVar 0) (dCons (dC (.int 8)) dNil))) (dOp rFdiv (dVar 5) (dC (.int 4)))) dNil)) (dC (.int 8))))) (t__law_many_names_2 sp__law_take))
def t__law_many_names_4 : DS := (dRet (dCB cSorted (dCons (dVar 4) dNil)))
def t__law_many_names_5 (sp__law_take : DSp) : DS := (dSeq (dFor (diR1 (dCons (dVar 1) dNil)) (gdName 5)
        (t__law_many_names_3 sp__law_take)) t__law_many_names_4)
def t__law_many_names_6 (sp__law_take : DSp) : DS := (dSeq (dSet 4 (dLstM dNil)) (t__law_many_names_5 sp__law_take))
def t__law_many_names_7 (sp__law_take : DSp) : DS := (dSeq (dSet 3 (dCall 2 sp__law_take (dCons (dVar 0) (dCons (dC (.int 60)) dNil)))) (t__law_many_names_6 sp__law_take))
def t__law_many_names (sp__law_take : DSp) : DS :=
      (dSeq (dSet 2 (dLst (dCons (dC (.str "")) (dCons (dC (.str "bob")) (dCons (dC (.str "eve")) (dCons (dC (.str "ab")) (dCons (dC (.str "abcdef")) (dCons (dC (.str "zz")) dNil)))))))) (t__law_many_names_7 sp__law_take))
theorem ok__law_many_names {k : Nat} {sp__law_take sp : DSp} (F : Fn K mg "_law_many_names" "_law_many_names" s__law_many_names ["pool", "count"]) (c__law_take : Cal P w K mg base k "_law_take" ["pool", "base"] sp__law_take) (z_range : mg "range" = none) (z_int : mg "int" = none) (z_sorted : mg "sorted" = none)
    (hs : ∀ ds S Q, ds.length = 2 → sp ds S Q → t__law_many_names sp__law_take { nx := fun _ S' => Fin Q (.p .none) S', rt := Fin Q } (dstart 8 ds) S) : Cal P w K mg base (k + 1) "_law_many_names" ["pool", "count"] sp :=
  F.ok sc__law_many_names ( fun f cdv A outer s H E hr => by
    have hu := hr.units
    have nd := sc__law_many_names.nd
    exact (dss_cons (ds_set (i := 2) nd rfl (by first | exact Or.inl rfl | exact Or.inr rfl) (de_lst (da_cons de_str (da_cons de_str (da_cons de_str (da_cons de_str (da_cons de_str (da_cons de_str da_nil))))))))
      (dss_cons (ds_set (i := 3) nd rfl (by first | exact Or.inl rfl | exact Or.inr rfl) (de_fn c__law_take hr (da_cons (dv 0) (da_cons de_int da_nil))))
      (dss_cons (ds_set (i := 4) nd rfl (by first | exact Or.inl rfl | exact Or.inr rfl) (de_lstM da_nil))
      (dss_cons (ds_for PassesOwn.never rfl (di_range1 rfl z_range (da_cons (dv 1) da_nil)) (dg_name (i := 5) nd rfl (by first | exact Or.inl rfl | exact Or.inr rfl))
        (dss_cons (ds_set (i := 6) nd rfl (by first | exact Or.inl rfl | exact Or.inr rfl) (de_ix de_str (de_op o_mod (de_callTy dc_int rfl z_int (by decide +kernel) (da_cons (de_op dop_add (de_fn c__law_take hr (da_cons (dv 0) (da_cons de_int da_nil))) (de_op o_fdiv (dv 5) de_int)) da_nil)) de_int)))
        (dss_cons (ds_set (i := 7) nd rfl (by first | exact Or.inl rfl | exact Or.inr rfl) (de_ix (dv 2) (de_op o_mod (de_callTy dc_int rfl z_int (by decide +kernel) (da_cons (de_op dop_add (de_fn c__law_take hr (da_cons (dv 0) (da_cons de_int da_nil))) (dv 5)) da_nil)) de_int)))
        (dss_one (ds_expr (de_append (dv 4) (de_tup (da_cons (dv 6) (da_cons (de_op o_mod (de_callTy dc_int rfl z_int (by decide +kernel) (da_cons (de_op dop_add (dv 3) (de_op o_mul de_int (dv 5))) da_nil)) de_int) (da_cons (dv 7) da_nil))))))))))
      (dss_one (ds_ret (de_callB (dc_sorted hu) rfl z_sorted (by decide +kernel) (da_cons (dv 4) da_nil))))))))) hs
/-! ## _law_folded -/
abbrev s__law_folded : Stmt := top 14
theorem sc__law_folded : FnScope ["names", "readings", "row", "value", "name", "half", "k"] ["names", "readings"] (defScope s__law_folded) := ⟨rfl, rfl, rfl, by decide +kernel, rfl, by decide +kernel, by decide +kernel⟩
def t__law_folded_1 : DS := (dDrop (dApp (dVar 5) (dOp rIx (dVar 2) (dOp rMul (dC (.int 2)) (dVar 6)))))
def t__law_folded_2 : DS := (dDrop (dApp (dVar 5) (dTup (dCons (dC (.str "if")) (dCons (dVar 4) (dCons (dOp rIx (dVar 2) (dOp rMul (dC (.int 2)) (dVar 6))) (dCons (dOp rIx (dVar 2) (dOp rAdd (dOp rMul (dC (.int 2)) (dVar 6)) (dC (.int 1)))) dNil)))))))
def t__law_folded_3 : DS := (dIfS (dTB (dOp rEq (dOp rIx (dVar 2) (dOp rMul (dC (.int 2)) (dVar 6))) (dOp rIx (dVar 2) (dOp rAdd (dOp rMul (dC (.int 2)) (dVar 6)) (dC (.int 1))))))
            t__law_folded_1
            t__law_folded_2)
def t__law_folded_4 : DS := (dSet 2 (dVar 5))
def t__law_folded_5 : DS := (dSeq (dFor (diR1 (dCons (dOp rFdiv (dCB cLen (dCons (dVar 2) dNil)) (dC (.int 2))) dNil)) (gdName 6)
          t__law_folded_3) t__law_folded_4)
def t__law_folded_6 : DS := (dSeq (dSet 5 (dLstM dNil)) t__law_folded_5)
def t__law_folded_7 : DS := (dRet (dOp rIx (dVar 2) (dC (.int 0))))
def t__law_folded_8 : DS := (dSeq (dFor (diA (dVar 0)) (gdName 4)
        t__law_folded_6) t__law_folded_7)
def t__law_folded : DS :=
      (dSeq (dSet 2 (dLc (diA (dVar 1)) (gdName 3) dtYes (dTup (dCons (dC (.str "is")) (dCons (dVar 3) dNil))) [3])) t__law_folded_8)
theorem ok__law_folded {k : Nat} { sp : DSp} (F : Fn K mg "_law_folded" "_law_folded" s__law_folded ["names", "readings"]) (z_len : mg "len" = none) (z_range : mg "range" = none)
    (hs : ∀ ds S Q, ds.length = 2 → sp ds S Q → t__law_folded  { nx := fun _ S' => Fin Q (.p .none) S', rt := Fin Q } (dstart 7 ds) S) : Cal P w K mg base (k + 1) "_law_folded" ["names", "readings"] sp :=
  F.ok sc__law_folded ( fun f cdv A outer s H E hr => by
    have hu := hr.units
    have nd := sc__law_folded.nd
    exact (dss_cons (ds_setLc (own := [("value", 3)]) (g := (gdName 3)) (tt := dtYes) (tel := (dTup (dCons (dC (.str "is")) (dCons (dVar 3) dNil)))) (i := 2) rfl nd rfl rfl (sw_true rfl rfl rfl (by decide +kernel)) (di_any (dv 1)) (blkOk_by (N := ["names", "readings", "row", "value", "name", "half", "k"]) (sc := defScope s__law_folded) (by decide +kernel)) (by decide) (fun _ _ _ _ _ => (dg_name (i := 3) nd rfl (by first | exact Or.inl rfl | exact Or.inr rfl))) (fun _ _ _ _ _ => dpts_nil) (fun _ _ _ _ _ => (de_tup (da_cons de_str (da_cons (dv 3) da_nil)))))
      (dss_cons (ds_for PassesOwn.never rfl (di_any (dv 0)) (dg_name (i := 4) nd rfl (by first | exact Or.inl rfl | exact Or.inr rfl))
        (dss_cons (ds_set (i := 5) nd rfl (by first | exact Or.inl rfl | exact Or.inr rfl) (de_lstM da_nil))
        (dss_cons (ds_for PassesOwn.never rfl (di_range1 rfl z_range (da_cons (de_op o_fdiv (de_callB dc_len rfl z_len (by decide +kernel) (da_cons (dv 2) da_nil)) de_int) da_nil)) (dg_name (i := 6) nd rfl (by first | exact Or.inl rfl | exact Or.inr rfl))
          (dss_one (ds_if (dt_cmp (dop_eq hu) (de_ix (dv 2) (de_op o_mul de_int (dv 6))) (de_ix (dv 2) (de_op dop_add (de_op o_mul de_int (dv 6)) de_int)))
            (dss_one (ds_expr (de_append (dv 5) (de_ix (dv 2) (de_op o_mul de_int (dv 6))))))
            (dss_one (ds_expr (de_append (dv 5) (de_tup (da_cons de_str (da_cons (dv 4) (da_cons (de_ix (dv 2) (de_op o_mul de_int (dv 6))) (da_cons (de_ix (dv 2) (de_op dop_add (de_op o_mul de_int (dv 6)) de_int)) da_nil)))))))))))
        (dss_one (ds_set (i := 2) nd rfl (by first | exact Or.inl rfl | exact Or.inr rfl) (dv 5))))))
      (dss_one (ds_ret (de_ix (dv 2) de_int)))))) hs
/-! ## _law_digit -/
abbrev s__law_digit : Stmt := top 15
theorem sc__law_digit : FnScope ["number", "k"] ["number", "k"] (defScope s__law_digit) := ⟨rfl, rfl, rfl, by decide +kernel, rfl, by decide +kernel, by decide +kernel⟩
def t__law_digit : DS :=
      (dRet (dOp rMod (dCB cInt (dCons (dOp rShr (dVar 0) (dVar 1)) dNil)) (dC (.int 2))))
theorem ok__law_digit {k : Nat} { sp : DSp} (F : Fn K mg "_law_digit" "_law_digit" s__law_digit ["number", "k"]) (z_int : mg "int" = none)
    (hs : ∀ ds S Q, ds.length = 2 → sp ds S Q → t__law_digit  { nx := fun _ S' => Fin Q (.p .none) S', rt := Fin Q } (dstart 2 ds) S) : Cal P w K mg base (k + 1) "_law_digit" ["number", "k"] sp :=
  F.ok sc__law_digit ( fun f cdv A outer s H E hr => by
    have hu := hr.units
    have nd := sc__law_digit.nd
    exact (dss_one (ds_ret (de_op o_mod (de_callTy dc_int rfl z_int (by decide +kernel) (da_cons (de_op o_shr (dv 0) (dv 1)) da_nil)) de_int)))) hs
/-! ## _law_chain -/
abbrev s__law_chain : Stmt := top 16
theorem sc__law_chain : FnScope ["names", "high", "low", "paper", "name"] ["names", "high", "low"] (defScope s__law_chain) := ⟨rfl, rfl, rfl, by decide +kernel, rfl, by decide +kernel, by decide +kernel⟩
def t__law_chain_1 : DS := (dSet 3 (dTup (dCons (dC (.str "if")) (dCons (dVar 4) (dCons (dVar 3) (dCons (dTup (dCons (dC (.str "is")) (dCons (dVar 2) dNil))) dNil))))))
def t__law_chain_2 : DS := (dRet (dVar 3))
def t__law_chain_3 : DS := (dSeq (dFor (diA (dVar 0)) (gdName 4)
        t__law_chain_1) t__law_chain_2)
def t__law_chain : DS :=
      (dSeq (dSet 3 (dTup (dCons (dC (.str "is")) (dCons (dVar 1) dNil)))) t__law_chain_3)
theorem ok__law_chain {k : Nat} { sp : DSp} (F : Fn K mg "_law_chain" "_law_chain" s__law_chain ["names", "high", "low"])
    (hs : ∀ ds S Q, ds.length = 3 → sp ds S Q → t__law_chain  { nx := fun _ S' => Fin Q (.p .none) S', rt := Fin Q } (dstart 5 ds) S) : Cal P w K mg base (k + 1) "_law_chain" ["names", "high", "low"] sp :=
  F.ok sc__law_chain ( fun f cdv A outer s H E hr => by
    have hu := hr.units
    have nd := sc__law_chain.nd
    exact (dss_cons (ds_set (i := 3) nd rfl (by first | exact Or.inl rfl | exact Or.inr rfl) (de_tup (da_cons de_str (da_cons (dv 1) da_nil))))
      (dss_cons (ds_for PassesOwn.never rfl (di_any (dv 0)) (dg_name (i := 4) nd rfl (by first | exact Or.inl rfl | exact Or.inr rfl))
        (dss_one (ds_set (i := 3) nd rfl (by first | exact Or.inl rfl | exact Or.inr rfl) (de_tup (da_cons de_str (da_cons (dv 4) (da_cons (dv 3) (da_cons (de_tup (da_cons de_str (da_cons (dv 2) da_nil))) da_nil))))))))
      (dss_one (ds_ret (dv 3)))))) hs
/-! ## _law_branch -/
abbrev s__law_branch : Stmt := top 17
theorem sc__law_branch : FnScope ["names", "high", "low", "paper", "name"] ["names", "high", "low"] (defScope s__law_branch) := ⟨rfl, rfl, rfl, by decide +kernel, rfl, by decide +kernel, by decide +kernel⟩
def t__law_branch_1 : DS := (dSet 3 (dTup (dCons (dC (.str "if")) (dCons (dVar 4) (dCons (dTup (dCons (dC (.str "is")) (dCons (dVar 1) dNil))) (dCons (dVar 3) dNil))))))
def t__law_branch_2 : DS := (dRet (dVar 3))
def t__law_branch_3 : DS := (dSeq (dFor (diA (dVar 0)) (gdName 4)
        t__law_branch_1) t__law_branch_2)
def t__law_branch : DS :=
      (dSeq (dSet 3 (dTup (dCons (dC (.str "is")) (dCons (dVar 2) dNil)))) t__law_branch_3)
theorem ok__law_branch {k : Nat} { sp : DSp} (F : Fn K mg "_law_branch" "_law_branch" s__law_branch ["names", "high", "low"])
    (hs : ∀ ds S Q, ds.length = 3 → sp ds S Q → t__law_branch  { nx := fun _ S' => Fin Q (.p .none) S', rt := Fin Q } (dstart 5 ds) S) : Cal P w K mg base (k + 1) "_law_branch" ["names", "high", "low"] sp :=
  F.ok sc__law_branch ( fun f cdv A outer s H E hr => by
    have hu := hr.units
    have nd := sc__law_branch.nd
    exact (dss_cons (ds_set (i := 3) nd rfl (by first | exact Or.inl rfl | exact Or.inr rfl) (de_tup (da_cons de_str (da_cons (dv 2) da_nil))))
      (dss_cons (ds_for PassesOwn.never rfl (di_any (dv 0)) (dg_name (i := 4) nd rfl (by first | exact Or.inl rfl | exact Or.inr rfl))
        (dss_one (ds_set (i := 3) nd rfl (by first | exact Or.inl rfl | exact Or.inr rfl) (de_tup (da_cons de_str (da_cons (dv 4) (da_cons (de_tup (da_cons de_str (da_cons (dv 1) da_nil))) (da_cons (dv 3) da_nil))))))))
      (dss_one (ds_ret (dv 3)))))) hs
/-! ## _law_own_read -/
abbrev s__law_own_read : Stmt := top 18
theorem sc__law_own_read : FnScope ["paper", "choice", "k"] ["paper", "choice"] (defScope s__law_own_read) := ⟨rfl, rfl, rfl, by decide +kernel, rfl, by decide +kernel, by decide +kernel⟩
def t__law_own_read_1 : DS := (dRet (dOp rIx (dVar 0) (dC (.int 1))))
def t__law_own_read_2 : DS := (dSet 0 (dOp rIx (dVar 0) (dC (.int 3))))
def t__law_own_read_3 : DS := (dSet 0 (dOp rIx (dVar 0) (dC (.int 2))))
def t__law_own_read_4 : DS := (dIfS (dTB (dOp (rIn false) (dOp rIx (dVar 0) (dC (.int 1))) (dVar 1)))
          t__law_own_read_2
          t__law_own_read_3)
def t__law_own_read_5 : DS := (dSeq (dIfS (dTB (dOp rEq (dOp rIx (dVar 0) (dC (.int 0))) (dC (.str "is"))))
          t__law_own_read_1
          dNext) t__law_own_read_4)
def t__law_own_read_6 : DS := (dRet (dC .none))
def t__law_own_read : DS :=
      (dSeq (dFor (diR1 (dCons (dC (.int 12)) dNil)) (gdName 2)
        t__law_own_read_5) t__law_own_read_6)
theorem ok__law_own_read {k : Nat} { sp : DSp} (F : Fn K mg "_law_own_read" "_law_own_read" s__law_own_read ["paper", "choice"]) (z_range : mg "range" = none)
    (hs : ∀ ds S Q, ds.length = 2 → sp ds S Q → t__law_own_read  { nx := fun _ S' => Fin Q (.p .none) S', rt := Fin Q } (dstart 3 ds) S) : Cal P w K mg base (k + 1) "_law_own_read" ["paper", "choice"] sp :=
  F.ok sc__law_own_read ( fun f cdv A outer s H E hr => by
    have hu := hr.units
    have nd := sc__law_own_read.nd
    exact (dss_cons (ds_for PassesOwn.never rfl (di_range1 rfl z_range (da_cons de_int da_nil)) (dg_name (i := 2) nd rfl (by first | exact Or.inl rfl | exact Or.inr rfl))
        (dss_cons (ds_if (dt_cmp (dop_eq hu) (de_ix (dv 0) de_int) de_str)
          (dss_one (ds_ret (de_ix (dv 0) de_int)))
          dss_nil)
        (dss_one (ds_if (dt_cmp (dop_in hu) (de_ix (dv 0) de_int) (dv 1))
          (dss_one (ds_set (i := 0) nd rfl (by first | exact Or.inl rfl | exact Or.inr rfl) (de_ix (dv 0) de_int)))
          (dss_one (ds_set (i := 0) nd rfl (by first | exact Or.inl rfl | exact Or.inr rfl) (de_ix (dv 0) de_int)))))))
      (dss_one (ds_ret de_non)))) hs
/-! ## _law_is_told_name -/
abbrev s__law_is_told_name : Stmt := top 19
theorem sc__law_is_told_name : FnScope ["told"] ["told"] (defScope s__law_is_told_name) := ⟨rfl, rfl, rfl, by decide +kernel, rfl, by decide +kernel, by decide +kernel⟩
def t__law_is_told_name_1 : DS := (dRet (dC (.bool false)))
def t__law_is_told_name_2 : DS := (dRet (dAnd (dIsa PyData.isStr (dOp rIx (dVar 0) (dC (.int 0)))) (dAnd (dIsa PyData.isStr (dOp rIx (dVar 0) (dC (.int 2)))) (dNot (dIsa PyData.isBool (dOp rIx (dVar 0) (dC (.int 1))))))))
def t__law_is_told_name : DS :=
      (dSeq (dIfS (dtOr (dtNot (dTru (dIsa PyData.isTuple (dVar 0)))) (dtOr (dTB (dOp rNe (dCB cLen (dCons (dVar 0) dNil)) (dC (.int 3)))) (dtNot (dTru (dIsa PyData.isInt (dOp rIx (dVar 0) (dC (.int 1))))))))
        t__law_is_told_name_1
        dNext) t__law_is_told_name_2)
theorem ok__law_is_told_name {k : Nat} { sp : DSp} (F : Fn K mg "_law_is_told_name" "_law_is_told_name" s__law_is_told_name ["told"]) (z_isinstance : mg "isinstance" = none) (z_tuple : mg "tuple" = none) (z_len : mg "len" = none) (z_int : mg "int" = none) (z_str : mg "str" = none) (z_bool : mg "bool" = none)
    (hs : ∀ ds S Q, ds.length = 1 → sp ds S Q → t__law_is_told_name  { nx := fun _ S' => Fin Q (.p .none) S', rt := Fin Q } (dstart 1 ds) S) : Cal P w K mg base (k + 1) "_law_is_told_name" ["told"] sp :=
  F.ok sc__law_is_told_name ( fun f cdv A outer s H E hr => by
    have hu := hr.units
    have nd := sc__law_is_told_name.nd
    exact (dss_cons (ds_if (PW.pt (dw_or (dt_not (dt_truth (de_isa isa_tuple rfl z_isinstance rfl z_tuple (by decide +kernel) (dv 0)))) (dw_or (dt_cmp (dop_ne hu) (de_callB dc_len rfl z_len (by decide +kernel) (da_cons (dv 0) da_nil)) de_int) (dw_or1 (dt_not (dt_truth (de_isa isa_int rfl z_isinstance rfl z_int (by decide +kernel) (de_ix (dv 0) de_int))))))))
        (dss_one (ds_ret de_bl))
        dss_nil)
      (dss_one (ds_ret (de_and (de_isa isa_str rfl z_isinstance rfl z_str (by decide +kernel) (de_ix (dv 0) de_int)) (de_and (de_isa isa_str rfl z_isinstance rfl z_str (by decide +kernel) (de_ix (dv 0) de_int)) (de_one (de_not (de_isa isa_bool rfl z_isinstance rfl z_bool (by decide +kernel) (de_ix (dv 0) de_int)))))))))) hs
/-! ## _law_is_told_choice -/
abbrev s__law_is_told_choice : Stmt := top 20
theorem sc__law_is_told_choice : FnScope ["told", "name", "k"] ["told"] (defScope s__law_is_told_choice) := ⟨rfl, rfl, rfl, by decide +kernel, rfl, by decide +kernel, by decide +kernel⟩
def t__law_is_told_choice_1 : DS := (dRet (dC (.bool false)))
def t__law_is_told_choice_2 : DS := (dRet (dC (.bool false)))
def t__law_is_told_choice_3 (sp__law_is_told_name : DSp) : DS := (dIfS (dtNot (dTru (dCall 1 sp__law_is_told_name (dCons (dVar 1) dNil))))
          t__law_is_told_choice_2
          dNext)
def t__law_is_told_choice_4 : DS := (dRet (dC (.bool false)))
def t__law_is_told_choice_5 : DS := (dIfS (dTB (dOp rGe (dOp rIx (dVar 0) (dVar 2)) (dOp rIx (dVar 0) (dOp rAdd (dVar 2) (dC (.int 1))))))
          t__law_is_told_choice_4
          dNext)
def t__law_is_told_choice_6 : DS := (dRet (dC (.bool true)))
def t__law_is_told_choice_7 : DS := (dSeq (dFor (diR1 (dCons (dOp rSub (dCB cLen (dCons (dVar 0) dNil)) (dC (.int 1))) dNil)) (gdName 2)
        t__law_is_told_choice_5) t__law_is_told_choice_6)
def t__law_is_told_choice_8 (sp__law_is_told_name : DSp) : DS := (dSeq (dFor (diA (dVar 0)) (gdName 1)
        (t__law_is_told_choice_3 sp__law_is_told_name)) t__law_is_told_choice_7)
def t__law_is_told_choice (sp__law_is_told_name : DSp) : DS :=
      (dSeq (dIfS (dtNot (dTru (dIsa PyData.isTuple (dVar 0))))
        t__law_is_told_choice_1
        dNext) (t__law_is_told_choice_8 sp__law_is_told_name))
theorem ok__law_is_told_choice {k : Nat} {sp__law_is_told_name sp : DSp} (F : Fn K mg "_law_is_told_choice" "_law_is_told_choice" s__law_is_told_choice ["told"]) (c__law_is_told_name : Cal P w K mg base k "_law_is_told_name" ["told"] sp__law_is_told_name) (z_isinstance : mg "isinstance" = none) (z_tuple : mg "tuple" = none) (z_len : mg "len" = none) (z_range : mg "range" = none)
    (hs : ∀ ds S Q, ds.length = 1 → sp ds S Q → t__law_is_told_choice sp__law_is_told_name { nx := fun _ S' => Fin Q (.p .none) S', rt := Fin Q } (dstart 3 ds) S) : Cal P w K mg base (k + 1) "_law_is_told_choice" ["told"] sp :=
  F.ok sc__law_is_told_choice ( fun f cdv A outer s H E hr => by
    have hu := hr.units
    have nd := sc__law_is_told_choice.nd
    exact (dss_cons (ds_if (dt_not (dt_truth (de_isa isa_tuple rfl z_isinstance rfl z_tuple (by decide +kernel) (dv 0))))
        (dss_one (ds_ret de_bl))
        dss_nil)
      (dss_cons (ds_for PassesOwn.never rfl (di_any (dv 0)) (dg_name (i := 1) nd rfl (by first | exact Or.inl rfl | exact Or.inr rfl))
        (dss_one (ds_if (dt_not (dt_truth (de_fn c__law_is_told_name hr (da_cons (dv 1) da_nil))))
          (dss_one (ds_ret de_bl))
          dss_nil)))
      (dss_cons (ds_for PassesOwn.never rfl (di_range1 rfl z_range (da_cons (de_op o_sub (de_callB dc_len rfl z_len (by decide +kernel) (da_cons (dv 0) da_nil)) de_int) da_nil)) (dg_name (i := 2) nd rfl (by first | exact Or.inl rfl | exact Or.inr rfl))
        (dss_one (ds_if (dt_cmp (dop_ge hu) (de_ix (dv 0) (dv 2)) (de_ix (dv 0) (de_op dop_add (dv 2) de_int)))
          (dss_one (ds_ret de_bl))
          dss_nil)))
      (dss_one (ds_ret de_bl)))))) hs
/-! ## _law_falls -/
abbrev s__law_falls : Stmt := top 21
theorem sc__law_falls : FnScope ["choice", "name", "paper"] ["choice", "name", "paper"] (defScope s__law_falls) := ⟨rfl, rfl, rfl, by decide +kernel, rfl, by decide +kernel, by decide +kernel⟩
def t__law_falls_1 : DS := (dRet (dC (.bool false)))
def t__law_falls_2 (sp__law_own_read : DSp) : DS := (dRet (dAnd (dOp rEq (dCall 2 sp__law_own_read (dCons (dVar 2) (dCons (dVar 0) dNil))) (dC (.int 0))) (dOp rEq (dCall 2 sp__law_own_read (dCons (dVar 2) (dCons (dOp rAdd (dVar 0) (dTup (dCons (dVar 1) dNil))) dNil))) (dC (.int 1)))))
def t__law_falls (sp__law_is_told_choice sp__law_is_told_name sp__law_own_read : DSp) : DS :=
      (dSeq (dIfS (dtOr (dtNot (dTru (dCall 1 sp__law_is_told_choice (dCons (dVar 0) dNil)))) (dtOr (dtNot (dTru (dCall 1 sp__law_is_told_name (dCons (dVar 1) dNil)))) (dTB (dOp (rIn false) (dVar 1) (dVar 0)))))
        t__law_falls_1
        dNext) (t__law_falls_2 sp__law_own_read))
theorem ok__law_falls {k : Nat} {sp__law_is_told_choice sp__law_is_told_name sp__law_own_read sp : DSp} (F : Fn K mg "_law_falls" "_law_falls" s__law_falls ["choice", "name", "paper"]) (c__law_is_told_choice : Cal P w K mg base k "_law_is_told_choice" ["told"] sp__law_is_told_choice) (c__law_is_told_name : Cal P w K mg base k "_law_is_told_name" ["told"] sp__law_is_told_name) (c__law_own_read : Cal P w K mg base k "_law_own_read" ["paper", "choice"] sp__law_own_read)
    (hs : ∀ ds S Q, ds.length = 3 → sp ds S Q → t__law_falls sp__law_is_told_choice sp__law_is_told_name sp__law_own_read { nx := fun _ S' => Fin Q (.p .none) S', rt := Fin Q } (dstart 3 ds) S) : Cal P w K mg base (k + 1) "_law_falls" ["choice", "name", "paper"] sp :=
  F.ok sc__law_falls ( fun f cdv A outer s H E hr => by
    have hu := hr.units
    have nd := sc__law_falls.nd
    exact (dss_cons (ds_if (PW.pt (dw_or (dt_not (dt_truth (de_fn c__law_is_told_choice hr (da_cons (dv 0) da_nil)))) (dw_or (dt_not (dt_truth (de_fn c__law_is_told_name hr (da_cons (dv 1) da_nil)))) (dw_or1 (dt_cmp (dop_in hu) (dv 1) (dv 0))))))
        (dss_one (ds_ret de_bl))
        dss_nil)
      (dss_one (ds_ret (de_and (de_cmp (dop_eq hu) (de_fn c__law_own_read hr (da_cons (dv 2) (da_cons (dv 0) da_nil))) de_int) (de_one (de_cmp (dop_eq hu) (de_fn c__law_own_read hr (da_cons (dv 2) (da_cons (de_op dop_add (dv 0) (de_tup (da_cons (dv 1) da_nil))) da_nil))) de_int))))))) hs
/-! ## _law_is_rising -/
abbrev s__law_is_rising : Stmt := top 22
theorem sc__law_is_rising : FnScope ["names", "bits", "number", "k"] ["names", "bits"] (defScope s__law_is_rising) := ⟨rfl, rfl, rfl, by decide +kernel, rfl, by decide +kernel, by decide +kernel⟩
def t__law_is_rising_1 : DS := (dRet (dC (.bool false)))
def t__law_is_rising_2 (sp__law_digit : DSp) : DS := (dIfS (dtAnd (dTB (dOp rEq (dCall 2 sp__law_digit (dCons (dVar 2) (dCons (dVar 3) dNil))) (dC (.int 0)))) (dTB (dOp rLt (dOp rIx (dVar 1) (dVar 2)) (dOp rIx (dVar 1) (dOp rBor (dVar 2) (dOp rShl (dC (.int 1)) (dVar 3)))))))
            t__law_is_rising_1
            dNext)
def t__law_is_rising_3 (sp__law_digit : DSp) : DS := (dFor (diR1 (dCons (dCB cLen (dCons (dVar 0) dNil)) dNil)) (gdName 3)
          (t__law_is_rising_2 sp__law_digit))
def t__law_is_rising_4 : DS := (dRet (dC (.bool true)))
def t__law_is_rising (sp__law_digit : DSp) : DS :=
      (dSeq (dFor (diR1 (dCons (dCB cLen (dCons (dVar 1) dNil)) dNil)) (gdName 2)
        (t__law_is_rising_3 sp__law_digit)) t__law_is_rising_4)
theorem ok__law_is_rising {k : Nat} {sp__law_digit sp : DSp} (F : Fn K mg "_law_is_rising" "_law_is_rising" s__law_is_rising ["names", "bits"]) (c__law_digit : Cal P w K mg base k "_law_digit" ["number", "k"] sp__law_digit) (z_len : mg "len" = none) (z_range : mg "range" = none)
    (hs : ∀ ds S Q, ds.length = 2 → sp ds S Q → t__law_is_rising sp__law_digit { nx := fun _ S' => Fin Q (.p .none) S', rt := Fin Q } (dstart 4 ds) S) : Cal P w K mg base (k + 1) "_law_is_rising" ["names", "bits"] sp :=
  F.ok sc__law_is_rising ( fun f cdv A outer s H E hr => by
    have hu := hr.units
    have nd := sc__law_is_rising.nd
    exact (dss_cons (ds_for PassesOwn.never rfl (di_range1 rfl z_range (da_cons (de_callB dc_len rfl z_len (by decide +kernel) (da_cons (dv 1) da_nil)) da_nil)) (dg_name (i := 2) nd rfl (by first | exact Or.inl rfl | exact Or.inr rfl))
        (dss_one (ds_for PassesOwn.never rfl (di_range1 rfl z_range (da_cons (de_callB dc_len rfl z_len (by decide +kernel) (da_cons (dv 0) da_nil)) da_nil)) (dg_name (i := 3) nd rfl (by first | exact Or.inl rfl | exact Or.inr rfl))
          (dss_one (ds_if (PW.pt (dw_and (dt_cmp (dop_eq hu) (de_fn c__law_digit hr (da_cons (dv 2) (da_cons (dv 3) da_nil))) de_int) (dw_and1 (dt_cmp (dop_lt hu) (de_ix (dv 1) (dv 2)) (de_ix (dv 1) (de_op o_bor (dv 2) (de_op o_shl de_int (dv 3))))))))
            (dss_one (ds_ret de_bl))
            dss_nil)))))
      (dss_one (ds_ret de_bl)))) hs
/-! ## _law_lot_bits -/
abbrev s__law_lot_bits : Stmt := top 23
theorem sc__law_lot_bits : FnScope ["pool", "size", "lots", "k", "bits", "number", "lot"] ["pool", "size"] (defScope s__law_lot_bits) := ⟨rfl, rfl, rfl, by decide +kernel, rfl, by decide +kernel, by decide +kernel⟩
def t__law_lot_bits_1 (sp__law_take : DSp) : DS := (dDrop (dApp (dVar 2) (dOp rMod (dCB cInt (dCons (dOp rAdd (dOp rAdd (dCall 2 sp__law_take (dCons (dVar 0) (dCons (dVar 1) dNil))) (dOp rMul (dC (.int 5)) (dVar 3))) (dC (.int 3))) dNil)) (dVar 1))))
def t__law_lot_bits_2 : DS := (dDrop (dApp (dVar 4) (dCB cInt (dCons (dOp rNe (dLc (diA (dVar 2)) (gdName 6) (dTB (dOp rEq (dOp rBand (dVar 6) (dVar 5)) (dC (.int 0)))) (dVar 6) [6]) (dLst dNil)) dNil))))
def t__law_lot_bits_3 : DS := (dRet (dVar 4))
def t__law_lot_bits_4 : DS := (dSeq (dFor (diR1 (dCons (dVar 1) dNil)) (gdName 5)
        t__law_lot_bits_2) t__law_lot_bits_3)
def t__law_lot_bits_5 : DS := (dSeq (dSet 4 (dLstM dNil)) t__law_lot_bits_4)
def t__law_lot_bits_6 (sp__law_take : DSp) : DS := (dSeq (dFor (diR1 (dCons (dOp rAdd (dC (.int 1)) (dOp rMod (dCB cInt (dCons (dOp rAdd (dCall 2 sp__law_take (dCons (dVar 0) (dCons (dC (.int 4)) dNil))) (dC (.int 2))) dNil)) (dC (.int 4)))) dNil)) (gdName 3)
        (t__law_lot_bits_1 sp__law_take)) t__law_lot_bits_5)
def t__law_lot_bits (sp__law_take : DSp) : DS :=
      (dSeq (dSet 2 (dLstM dNil)) (t__law_lot_bits_6 sp__law_take))
theorem ok__law_lot_bits {k : Nat} {sp__law_take sp : DSp} (F : Fn K mg "_law_lot_bits" "_law_lot_bits" s__law_lot_bits ["pool", "size"]) (c__law_take : Cal P w K mg base k "_law_take" ["pool", "base"] sp__law_take) (z_int : mg "int" = none) (z_range : mg "range" = none)
    (hs : ∀ ds S Q, ds.length = 2 → sp ds S Q → t__law_lot_bits sp__law_take { nx := fun _ S' => Fin Q (.p .none) S', rt := Fin Q } (dstart 7 ds) S) : Cal P w K mg base (k + 1) "_law_lot_bits" ["pool", "size"] sp :=
  F.ok sc__law_lot_bits ( fun f cdv A outer s H E hr => by
    have hu := hr.units
    have nd := sc__law_lot_bits.nd
    exact (dss_cons (ds_set (i := 2) nd rfl (by first | exact Or.inl rfl | exact Or.inr rfl) (de_lstM da_nil))
      (dss_cons (ds_for PassesOwn.never rfl (di_range1 rfl z_range (da_cons (de_op dop_add de_int (de_op o_mod (de_callTy dc_int rfl z_int (by decide +kernel) (da_cons (de_op dop_add (de_fn c__law_take hr (da_cons (dv 0) (da_cons de_int da_nil))) de_int) da_nil)) de_int)) da_nil)) (dg_name (i := 3) nd rfl (by first | exact Or.inl rfl | exact Or.inr rfl))
        (dss_one (ds_expr (de_append (dv 2) (de_op o_mod (de_callTy dc_int rfl z_int (by decide +kernel) (da_cons (de_op dop_add (de_op dop_add (de_fn c__law_take hr (da_cons (dv 0) (da_cons (dv 1) da_nil))) (de_op o_mul de_int (dv 3))) de_int) da_nil)) (dv 1))))))
      (dss_cons (ds_set (i := 4) nd rfl (by first | exact Or.inl rfl | exact Or.inr rfl) (de_lstM da_nil))
      (dss_cons (ds_for PassesOwn.never rfl (di_range1 rfl z_range (da_cons (dv 1) da_nil)) (dg_name (i := 5) nd rfl (by first | exact Or.inl rfl | exact Or.inr rfl))
        (dss_one (ds_expr (de_append (dv 4) (de_callTy dc_int rfl z_int (by decide +kernel) (da_cons (de_cmp (dop_ne hu) (de_lc (own := [("lot", 6)]) (g := (gdName 6)) (tt := (dTB (dOp rEq (dOp rBand (dVar 6) (dVar 5)) (dC (.int 0))))) (tel := (dVar 6)) rfl nd (di_any (dv 2)) (blkOk_by (N := ["pool", "size", "lots", "k", "bits", "number", "lot"]) (sc := defScope s__law_lot_bits) (by decide +kernel)) (by decide) (fun _ _ _ _ _ => (dg_name (i := 6) nd rfl (by first | exact Or.inl rfl | exact Or.inr rfl))) (fun _ _ _ _ _ => (dpts_one (dt_cmp (dop_eq hu) (de_op o_band (dv 6) (dv 5)) de_int))) (fun _ _ _ _ _ => (dv 6))) (de_lst da_nil)) da_nil))))))
      (dss_one (ds_ret (dv 4)))))))) hs
/-! ## _law_judged -/
abbrev s__law_judged : Stmt := top 24
theorem sc__law_judged : FnScope ["paper", "due", "k", "told", "pair"] ["paper", "due"] (defScope s__law_judged) := ⟨rfl, rfl, rfl, by decide +kernel, rfl, by decide +kernel, by decide +kernel⟩
def t__law_judged_1 : DS := (dRet (dC (.bool false)))
def t__law_judged_2 : DS := (dRet (dC (.bool false)))
def t__law_judged_3 : DS := (dRet (dC (.bool false)))
def t__law_judged_4 (sp__law_falls : DSp) : DS := (dIfS (dtNot (dTru (dCall 3 sp__law_falls (dCons (dOp rIx (dVar 4) (dC (.int 0))) (dCons (dOp rIx (dVar 4) (dC (.int 1))) (dCons (dVar 0) dNil))))))
            t__law_judged_3
            dNext)
def t__law_judged_5 (sp__law_falls : DSp) : DS := (dSeq (dIfS (dtOr (dTB (dOp (rIs true) (dVar 3) (dC (.bool false)))) (dtOr (dtNot (dTru (dIsa PyData.isTuple (dVar 4)))) (dTB (dOp rNe (dCB cLen (dCons (dVar 4) dNil)) (dC (.int 2))))))
            t__law_judged_2
            dNext) (t__law_judged_4 sp__law_falls))
def t__law_judged_6 (sp_fall sp__law_falls : DSp) : DS := (dSeq (dSet 4 (dCall 1 sp_fall (dCons (dVar 0) dNil))) (t__law_judged_5 sp__law_falls))
def t__law_judged_7 (sp_fall sp__law_falls : DSp) : DS := (dIfS (dtNot (dTru (dVar 1)))
          (t__law_judged_6 sp_fall sp__law_falls)
          dNext)
def t__law_judged_8 (sp_fall sp__law_falls : DSp) : DS := (dSeq (dIfS (dtAnd (dTru (dVar 1)) (dtOr (dTB (dOp (rIs true) (dVar 3) (dC (.bool true)))) (dTB (dOp (rIs true) (dCall 1 sp_fall (dCons (dVar 0) dNil)) (dC .none)))))
          t__law_judged_1
          dNext) (t__law_judged_7 sp_fall sp__law_falls))
def t__law_judged_9 (sp_is_positive sp_fall sp__law_falls : DSp) : DS := (dSeq (dSet 3 (dCall 1 sp_is_positive (dCons (dVar 0) dNil))) (t__law_judged_8 sp_fall sp__law_falls))
def t__law_judged_10 : DS := (dRet (dC (.bool true)))
def t__law_judged (sp_is_positive sp_fall sp__law_falls : DSp) : DS :=
      (dSeq (dFor (diR1 (dCons (dC (.int 2)) dNil)) (gdName 2)
        (t__law_judged_9 sp_is_positive sp_fall sp__law_falls)) t__law_judged_10)
theorem ok__law_judged {k : Nat} {sp_is_positive sp_fall sp__law_falls sp : DSp} (F : Fn K mg "_law_judged" "_law_judged" s__law_judged ["paper", "due"]) (c_is_positive : Cal P w K mg base k "is_positive" ["paper"] sp_is_positive) (c_fall : Cal P w K mg base k "fall" ["paper"] sp_fall) (c__law_falls : Cal P w K mg base k "_law_falls" ["choice", "name", "paper"] sp__law_falls) (z_range : mg "range" = none) (z_isinstance : mg "isinstance" = none) (z_tuple : mg "tuple" = none) (z_len : mg "len" = none)
    (hs : ∀ ds S Q, ds.length = 2 → sp ds S Q → t__law_judged sp_is_positive sp_fall sp__law_falls { nx := fun _ S' => Fin Q (.p .none) S', rt := Fin Q } (dstart 5 ds) S) : Cal P w K mg base (k + 1) "_law_judged" ["paper", "due"] sp :=
  F.ok sc__law_judged ( fun f cdv A outer s H E hr => by
    have hu := hr.units
    have nd := sc__law_judged.nd
    exact (dss_cons (ds_for PassesOwn.never rfl (di_range1 rfl z_range (da_cons de_int da_nil)) (dg_name (i := 2) nd rfl (by first | exact Or.inl rfl | exact Or.inr rfl))
        (dss_cons (ds_set (i := 3) nd rfl (by first | exact Or.inl rfl | exact Or.inr rfl) (de_fn c_is_positive hr (da_cons (dv 0) da_nil)))
        (dss_cons (ds_if (PW.pt (dw_and (dt_truth (dv 1)) (dw_and1 (PW.pt (dw_or (dt_cmp dop_isnot (dv 3) de_bl) (dw_or1 (dt_cmp dop_isnot (de_fn c_fall hr (da_cons (dv 0) da_nil)) de_non)))))))
          (dss_one (ds_ret de_bl))
          dss_nil)
        (dss_one (ds_if (dt_not (dt_truth (dv 1)))
          (dss_cons (ds_set (i := 4) nd rfl (by first | exact Or.inl rfl | exact Or.inr rfl) (de_fn c_fall hr (da_cons (dv 0) da_nil)))
          (dss_cons (ds_if (PW.pt (dw_or (dt_cmp dop_isnot (dv 3) de_bl) (dw_or (dt_not (dt_truth (de_isa isa_tuple rfl z_isinstance rfl z_tuple (by decide +kernel) (dv 4)))) (dw_or1 (dt_cmp (dop_ne hu) (de_callB dc_len rfl z_len (by decide +kernel) (da_cons (dv 4) da_nil)) de_int)))))
            (dss_one (ds_ret de_bl))
            dss_nil)
          (dss_one (ds_if (dt_not (dt_truth (de_fn c__law_falls hr (da_cons (de_ix (dv 4) de_int) (da_cons (de_ix (dv 4) de_int) (da_cons (dv 0) da_nil))))))
            (dss_one (ds_ret de_bl))
            dss_nil))))
          dss_nil)))))
      (dss_one (ds_ret de_bl)))) hs
/-! ## _law_any_bits -/
abbrev s__law_any_bits : Stmt := top 25
theorem sc__law_any_bits : FnScope ["pool", "size", "every", "number", "k"] ["pool", "size"] (defScope s__law_any_bits) := ⟨rfl, rfl, rfl, by decide +kernel, rfl, by decide +kernel, by decide +kernel⟩
def t__law_any_bits_1 (sp__law_digit : DSp) : DS := (dRet (dLc (diR1 (dCons (dVar 1) dNil)) (gdName 4) dtYes (dCall 2 sp__law_digit (dCons (dVar 3) (dCons (dVar 4) dNil))) [4]))
def t__law_any_bits_2 (sp__law_take sp__law_digit : DSp) : DS := (dSeq (dSet 3 (dOp rMod (dCB cInt (dCons (dOp rAdd (dCall 2 sp__law_take (dCons (dVar 0) (dCons (dVar 2) dNil))) (dOp rMul (dC (.int 41)) (dOp rAdd (dOp rFdiv (dVar 2) (dC (.int 60))) (dC (.int 1))))) dNil)) (dVar 2))) (t__law_any_bits_1 sp__law_digit))
def t__law_any_bits (sp__law_take sp__law_digit : DSp) : DS :=
      (dSeq (dSet 2 (dOp rShl (dC (.int 1)) (dVar 1))) (t__law_any_bits_2 sp__law_take sp__law_digit))
theorem ok__law_any_bits {k : Nat} {sp__law_take sp__law_digit sp : DSp} (F : Fn K mg "_law_any_bits" "_law_any_bits" s__law_any_bits ["pool", "size"]) (c__law_take : Cal P w K mg base k "_law_take" ["pool", "base"] sp__law_take) (c__law_digit : Cal P w K mg base k "_law_digit" ["number", "k"] sp__law_digit) (z_int : mg "int" = none) (z_range : mg "range" = none)
    (hs : ∀ ds S Q, ds.length = 2 → sp ds S Q → t__law_any_bits sp__law_take sp__law_digit { nx := fun _ S' => Fin Q (.p .none) S', rt := Fin Q } (dstart 5 ds) S) : Cal P w K mg base (k + 1) "_law_any_bits" ["pool", "size"] sp :=
  F.ok sc__law_any_bits ( fun f cdv A outer s H E hr => by
    have hu := hr.units
    have nd := sc__law_any_bits.nd
    exact (dss_cons (ds_set (i := 2) nd rfl (by first | exact Or.inl rfl | exact Or.inr rfl) (de_op o_shl de_int (dv 1)))
      (dss_cons (ds_set (i := 3) nd rfl (by first | exact Or.inl rfl | exact Or.inr rfl) (de_op o_mod (de_callTy dc_int rfl z_int (by decide +kernel) (da_cons (de_op dop_add (de_fn c__law_take hr (da_cons (dv 0) (da_cons (dv 2) da_nil))) (de_op o_mul de_int (de_op dop_add (de_op o_fdiv (dv 2) de_int) de_int))) da_nil)) (dv 2)))
      (dss_one (ds_ret (de_lc (own := [("k", 4)]) (g := (gdName 4)) (tt := dtYes) (tel := (dCall 2 sp__law_digit (dCons (dVar 3) (dCons (dVar 4) dNil)))) rfl nd (di_range1 rfl z_range (da_cons (dv 1) da_nil)) (blkOk_by (N := ["pool", "size", "every", "number", "k"]) (sc := defScope s__law_any_bits) (by decide +kernel)) (by decide) (fun _ _ _ _ _ => (dg_name (i := 4) nd rfl (by first | exact Or.inl rfl | exact Or.inr rfl))) (fun _ _ _ _ _ => dpts_nil) (fun _ _ _ _ _ => (de_fn c__law_digit hr (da_cons (dv 3) (da_cons (dv 4) da_nil)))))))))) hs
/-! ## _law_tens -/
abbrev s__law_tens : Stmt := top 26
theorem sc__law_tens : FnScope ["ten", "at", "steep", "wide", "k"] ["ten", "at"] (defScope s__law_tens) := ⟨rfl, rfl, rfl, by decide +kernel, rfl, by decide +kernel, by decide +kernel⟩
def t__law_tens_1 : DS := (dSet 3 (dTup (dCons (dC (.str "if")) (dCons (dOp rIx (dVar 0) (dVar 4)) (dCons (dVar 3) (dCons (dTup (dCons (dC (.str "is")) (dCons (dC (.int 1)) dNil))) dNil))))))
def t__law_tens_2 : DS := (dSeq (dSet 2 (dTup (dCons (dC (.str "if")) (dCons (dOp rIx (dVar 0) (dVar 4)) (dCons (dTup (dCons (dC (.str "is")) (dCons (dC (.int 0)) dNil))) (dCons (dVar 2) dNil)))))) t__law_tens_1)
def t__law_tens_3 : DS := (dSet 3 (dTup (dCons (dC (.str "if")) (dCons (dOp rIx (dVar 0) (dVar 4)) (dCons (dTup (dCons (dC (.str "is")) (dCons (dC (.int 1)) dNil))) (dCons (dVar 3) dNil))))))
def t__law_tens_4 : DS := (dSeq (dSet 2 (dTup (dCons (dC (.str "if")) (dCons (dOp rIx (dVar 0) (dVar 4)) (dCons (dVar 2) (dCons (dTup (dCons (dC (.str "is")) (dCons (dC (.int 0)) dNil))) dNil)))))) t__law_tens_3)
def t__law_tens_5 : DS := (dIfS (dTB (dOp rEq (dVar 4) (dVar 1)))
          t__law_tens_2
          t__law_tens_4)
def t__law_tens_6 : DS := (dRet (dC (.bool false)))
def t__law_tens_7 : DS := (dRet (dC (.bool false)))
def t__law_tens_8 (sp__law_judged : DSp) : DS := (dRet (dAnd (dCall 2 sp__law_judged (dCons (dVar 2) (dCons (dC (.bool false)) dNil))) (dCall 2 sp__law_judged (dCons (dVar 3) (dCons (dC (.bool false)) dNil)))))
def t__law_tens_9 (sp__law_judged sp__law_chain sp__law_branch : DSp) : DS := (dSeq (dIfS (dtOr (dtNot (dTru (dCall 2 sp__law_judged (dCons (dCall 3 sp__law_chain (dCons (dVar 0) (dCons (dC (.int 0)) (dCons (dC (.int 1)) dNil)))) (dCons (dC (.bool false)) dNil))))) (dtNot (dTru (dCall 2 sp__law_judged (dCons (dCall 3 sp__law_branch (dCons (dVar 0) (dCons (dC (.int 0)) (dCons (dC (.int 1)) dNil)))) (dCons (dC (.bool false)) dNil))))))
        t__law_tens_7
        dNext) (t__law_tens_8 sp__law_judged))
def t__law_tens_10 (sp__law_judged sp__law_chain sp__law_branch : DSp) : DS := (dSeq (dIfS (dtOr (dtNot (dTru (dCall 2 sp__law_judged (dCons (dCall 3 sp__law_chain (dCons (dVar 0) (dCons (dC (.int 1)) (dCons (dC (.int 0)) dNil)))) (dCons (dC (.bool true)) dNil))))) (dtNot (dTru (dCall 2 sp__law_judged (dCons (dCall 3 sp__law_branch (dCons (dVar 0) (dCons (dC (.int 1)) (dCons (dC (.int 0)) dNil)))) (dCons (dC (.bool true)) dNil))))))
        t__law_tens_6
        dNext) (t__law_tens_9 sp__law_judged sp__law_chain sp__law_branch))
def t__law_tens_11 (sp__law_judged sp__law_chain sp__law_branch : DSp) : DS := (dSeq (dFor (diR1 (dCons (dCB cLen (dCons (dVar 0) dNil)) dNil)) (gdName 4)
        t__law_tens_5) (t__law_tens_10 sp__law_judged sp__law_chain sp__law_branch))
def t__law_tens_12 (sp__law_judged sp__law_chain sp__law_branch : DSp) : DS := (dSeq (dSet 3 (dTup (dCons (dC (.str "is")) (dCons (dC (.int 0)) dNil)))) (t__law_tens_11 sp__law_judged sp__law_chain sp__law_branch))
def t__law_tens (sp__law_judged sp__law_chain sp__law_branch : DSp) : DS :=
      (dSeq (dSet 2 (dTup (dCons (dC (.str "is")) (dCons (dC (.int 1)) dNil)))) (t__law_tens_12 sp__law_judged sp__law_chain sp__law_branch))
theorem ok__law_tens {k : Nat} {sp__law_judged sp__law_chain sp__law_branch sp : DSp} (F : Fn K mg "_law_tens" "_law_tens" s__law_tens ["ten", "at"]) (c__law_judged : Cal P w K mg base k "_law_judged" ["paper", "due"] sp__law_judged) (c__law_chain : Cal P w K mg base k "_law_chain" ["names", "high", "low"] sp__law_chain) (c__law_branch : Cal P w K mg base k "_law_branch" ["names", "high", "low"] sp__law_branch) (z_len : mg "len" = none) (z_range : mg "range" = none)
    (hs : ∀ ds S Q, ds.length = 2 → sp ds S Q → t__law_tens sp__law_judged sp__law_chain sp__law_branch { nx := fun _ S' => Fin Q (.p .none) S', rt := Fin Q } (dstart 5 ds) S) : Cal P w K mg base (k + 1) "_law_tens" ["ten", "at"] sp :=
  F.ok sc__law_tens ( fun f cdv A outer s H E hr => by
    have hu := hr.units
    have nd := sc__law_tens.nd
    exact (dss_cons (ds_set (i := 2) nd rfl (by first | exact Or.inl rfl | exact Or.inr rfl) (de_tup (da_cons de_str (da_cons de_int da_nil))))
      (dss_cons (ds_set (i := 3) nd rfl (by first | exact Or.inl rfl | exact Or.inr rfl) (de_tup (da_cons de_str (da_cons de_int da_nil))))
      (dss_cons (ds_for PassesOwn.never rfl (di_range1 rfl z_range (da_cons (de_callB dc_len rfl z_len (by decide +kernel) (da_cons (dv 0) da_nil)) da_nil)) (dg_name (i := 4) nd rfl (by first | exact Or.inl rfl | exact Or.inr rfl))
        (dss_one (ds_if (dt_cmp (dop_eq hu) (dv 4) (dv 1))
          (dss_cons (ds_set (i := 2) nd rfl (by first | exact Or.inl rfl | exact Or.inr rfl) (de_tup (da_cons de_str (da_cons (de_ix (dv 0) (dv 4)) (da_cons (de_tup (da_cons de_str (da_cons de_int da_nil))) (da_cons (dv 2) da_nil))))))
          (dss_one (ds_set (i := 3) nd rfl (by first | exact Or.inl rfl | exact Or.inr rfl) (de_tup (da_cons de_str (da_cons (de_ix (dv 0) (dv 4)) (da_cons (dv 3) (da_cons (de_tup (da_cons de_str (da_cons de_int da_nil))) da_nil))))))))
          (dss_cons (ds_set (i := 2) nd rfl (by first | exact Or.inl rfl | exact Or.inr rfl) (de_tup (da_cons de_str (da_cons (de_ix (dv 0) (dv 4)) (da_cons (dv 2) (da_cons (de_tup (da_cons de_str (da_cons de_int da_nil))) da_nil))))))
          (dss_one (ds_set (i := 3) nd rfl (by first | exact Or.inl rfl | exact Or.inr rfl) (de_tup (da_cons de_str (da_cons (de_ix (dv 0) (dv 4)) (da_cons (de_tup (da_cons de_str (da_cons de_int da_nil))) (da_cons (dv 3) da_nil)))))))))))
      (dss_cons (ds_if (PW.pt (dw_or (dt_not (dt_truth (de_fn c__law_judged hr (da_cons (de_fn c__law_chain hr (da_cons (dv 0) (da_cons de_int (da_cons de_int da_nil)))) (da_cons de_bl da_nil))))) (dw_or1 (dt_not (dt_truth (de_fn c__law_judged hr (da_cons (de_fn c__law_branch hr (da_cons (dv 0) (da_cons de_int (da_cons de_int da_nil)))) (da_cons de_bl da_nil))))))))
        (dss_one (ds_ret de_bl))
        dss_nil)
      (dss_cons (ds_if (PW.pt (dw_or (dt_not (dt_truth (de_fn c__law_judged hr (da_cons (de_fn c__law_chain hr (da_cons (dv 0) (da_cons de_int (da_cons de_int da_nil)))) (da_cons de_bl da_nil))))) (dw_or1 (dt_not (dt_truth (de_fn c__law_judged hr (da_cons (de_fn c__law_branch hr (da_cons (dv 0) (da_cons de_int (da_cons de_int da_nil)))) (da_cons de_bl da_nil))))))))
        (dss_one (ds_ret de_bl))
        dss_nil)
      (dss_one (ds_ret (de_and (de_fn c__law_judged hr (da_cons (dv 2) (da_cons de_bl da_nil))) (de_one (de_fn c__law_judged hr (da_cons (dv 3) (da_cons de_bl da_nil))))))))))))) hs
/-! ## law -/
abbrev s_law : Stmt := top 27
theorem sc_law : FnScope ["script", "pool", "large", "names", "size", "rows", "place", "bit", "bits", "many"] ["script"] (defScope s_law) := ⟨rfl, rfl, rfl, by decide +kernel, rfl, by decide +kernel, by decide +kernel⟩
def t_law_1 : DS := (dRet (dC (.bool false)))
def t_law_2 (sp__law_judged sp__law_is_rising sp__law_folded : DSp) : DS := (dIfS (dtNot (dTru (dCall 2 sp__law_judged (dCons (dCall 2 sp__law_folded (dCons (dVar 3) (dCons (dVar 8) dNil))) (dCons (dCall 2 sp__law_is_rising (dCons (dVar 3) (dCons (dVar 8) dNil))) dNil)))))
          t_law_1
          dNext)
def t_law_3 : DS := (dRet (dC (.bool false)))
def t_law_4 (sp__law_take sp__law_tens : DSp) : DS := (dRet (dCall 2 sp__law_tens (dCons (dVar 9) (dCons (dOp rMod (dCB cInt (dCons (dOp rAdd (dCall 2 sp__law_take (dCons (dVar 1) (dCons (dC (.int 10)) dNil))) (dC (.int 4))) dNil)) (dC (.int 10))) dNil))))
def t_law_5 (sp__law_take sp__law_many_names sp__law_tens : DSp) : DS := (dSeq (dSet 9 (dCall 2 sp__law_many_names (dCons (dVar 1) (dCons (dC (.int 10)) dNil)))) (t_law_4 sp__law_take sp__law_tens))
def t_law_6 (sp__law_take sp__law_judged sp__law_many_names sp__law_tens : DSp) : DS := (dSeq (dIfS (dtOr (dtNot (dTru (dCall 2 sp__law_judged (dCons (dTup (dCons (dC (.str "is")) (dCons (dC (.int 0)) dNil))) (dCons (dC (.bool true)) dNil))))) (dtNot (dTru (dCall 2 sp__law_judged (dCons (dTup (dCons (dC (.str "is")) (dCons (dC (.int 1)) dNil))) (dCons (dC (.bool true)) dNil))))))
        t_law_3
        dNext) (t_law_5 sp__law_take sp__law_many_names sp__law_tens))
def t_law_7 (sp__law_take sp__law_judged sp__law_is_rising sp__law_folded sp__law_many_names sp__law_tens : DSp) : DS := (dSeq (dFor (diA (dVar 5)) (gdName 8)
        (t_law_2 sp__law_judged sp__law_is_rising sp__law_folded)) (t_law_6 sp__law_take sp__law_judged sp__law_many_names sp__law_tens))
def t_law_8 (sp__law_take sp__law_judged sp__law_is_rising sp__law_folded sp__law_many_names sp__law_tens : DSp) : DS := (dSeq (dDrop (dApp (dVar 5) (dLc (diA (dOp rIx (dVar 5) (dC (.int 1)))) (gdName 7) dtYes (dOp rSub (dC (.int 1)) (dVar 7)) [7]))) (t_law_7 sp__law_take sp__law_judged sp__law_is_rising sp__law_folded sp__law_many_names sp__law_tens))
def t_law_9 (sp__law_take sp__law_judged sp__law_is_rising sp__law_folded sp__law_many_names sp__law_tens : DSp) : DS := (dSeq (dDrop (dApp (dVar 5) (dOp rAdd (dOp rAdd (dSl rSl (dOp rIx (dVar 5) (dC (.int 1))) doNone (doSome (dVar 6))) (dLst (dCons (dOp rSub (dC (.int 1)) (dOp rIx (dOp rIx (dVar 5) (dC (.int 1))) (dVar 6))) dNil))) (dSl rSl (dOp rIx (dVar 5) (dC (.int 1))) (doSome (dOp rAdd (dVar 6) (dC (.int 1)))) doNone)))) (t_law_8 sp__law_take sp__law_judged sp__law_is_rising sp__law_folded sp__law_many_names sp__law_tens))
def t_law_10 (sp__law_take sp__law_judged sp__law_is_rising sp__law_folded sp__law_many_names sp__law_tens : DSp) : DS := (dSeq (dSet 6 (dOp rMod (dCB cInt (dCons (dOp rAdd (dCall 2 sp__law_take (dCons (dVar 1) (dCons (dVar 4) dNil))) (dC (.int 6))) dNil)) (dVar 4))) (t_law_9 sp__law_take sp__law_judged sp__law_is_rising sp__law_folded sp__law_many_names sp__law_tens))
def t_law_11 (sp__law_take sp__law_lot_bits sp__law_any_bits sp__law_judged sp__law_is_rising sp__law_folded sp__law_many_names sp__law_tens : DSp) : DS := (dSeq (dSet 5 (dLstM (dCons (dCall 2 sp__law_any_bits (dCons (dVar 1) (dCons (dVar 4) dNil))) (dCons (dCall 2 sp__law_lot_bits (dCons (dVar 1) (dCons (dVar 4) dNil))) dNil)))) (t_law_10 sp__law_take sp__law_judged sp__law_is_rising sp__law_folded sp__law_many_names sp__law_tens))
def t_law_12 (sp__law_take sp__law_lot_bits sp__law_any_bits sp__law_judged sp__law_is_rising sp__law_folded sp__law_many_names sp__law_tens : DSp) : DS := (dSeq (dSet 4 (dOp rShl (dC (.int 1)) (dCB cLen (dCons (dVar 3) dNil)))) (t_law_11 sp__law_take sp__law_lot_bits sp__law_any_bits sp__law_judged sp__law_is_rising sp__law_folded sp__law_many_names sp__law_tens))
def t_law_13 (sp__law_take sp__law_name_list sp__law_lot_bits sp__law_any_bits sp__law_judged sp__law_is_rising sp__law_folded sp__law_many_names sp__law_tens : DSp) : DS := (dSeq (dSet 3 (dCall 2 sp__law_name_list (dCons (dVar 1) (dCons (dIf (dTru (dVar 2)) (dC (.int 7)) (dOp rMod (dCB cInt (dCons (dOp rAdd (dCall 2 sp__law_take (dCons (dVar 1) (dCons (dC (.int 5)) dNil))) (dC (.int 4))) dNil)) (dC (.int 5)))) dNil)))) (t_law_12 sp__law_take sp__law_lot_bits sp__law_any_bits sp__law_judged sp__law_is_rising sp__law_folded sp__law_many_names sp__law_tens))
def t_law_14 (sp__law_take sp__law_name_list sp__law_lot_bits sp__law_any_bits sp__law_judged sp__law_is_rising sp__law_folded sp__law_many_names sp__law_tens : DSp) : DS := (dSeq (dSet 2 (dOp rEq (dCall 2 sp__law_take (dCons (dVar 1) (dCons (dC (.int 8)) dNil))) (dC (.int 7)))) (t_law_13 sp__law_take sp__law_name_list sp__law_lot_bits sp__law_any_bits sp__law_judged sp__law_is_rising sp__law_folded sp__law_many_names sp__law_tens))
def t_law (sp__law_new_pool sp__law_take sp__law_name_list sp__law_lot_bits sp__law_any_bits sp__law_judged sp__law_is_rising sp__law_folded sp__law_many_names sp__law_tens : DSp) : DS :=
      (dSeq (dSet 1 (dCall 1 sp__law_new_pool (dCons (dVar 0) dNil))) (t_law_14 sp__law_take sp__law_name_list sp__law_lot_bits sp__law_any_bits sp__law_judged sp__law_is_rising sp__law_folded sp__law_many_names sp__law_tens))
theorem fok_law {k : Nat} {sp__law_new_pool sp__law_take sp__law_name_list sp__law_lot_bits sp__law_any_bits sp__law_judged sp__law_is_rising sp__law_folded sp__law_many_names sp__law_tens sp : DSp} {f : Addr} {fd : FuncData} (F : Fun K "law" "law" s_law f fd) (c__law_new_pool : Cal P w K mg base k "_law_new_pool" ["script"] sp__law_new_pool) (c__law_take : Cal P w K mg base k "_law_take" ["pool", "base"] sp__law_take) (c__law_name_list : Cal P w K mg base k "_law_name_list" ["pool", "count"] sp__law_name_list) (c__law_lot_bits : Cal P w K mg base k "_law_lot_bits" ["pool", "size"] sp__law_lot_bits) (c__law_any_bits : Cal P w K mg base k "_law_any_bits" ["pool", "size"] sp__law_any_bits) (c__law_judged : Cal P w K mg base k "_law_judged" ["paper", "due"] sp__law_judged) (c__law_is_rising : Cal P w K mg base k "_law_is_rising" ["names", "bits"] sp__law_is_rising) (c__law_folded : Cal P w K mg base k "_law_folded" ["names", "readings"] sp__law_folded) (c__law_many_names : Cal P w K mg base k "_law_many_names" ["pool", "count"] sp__law_many_names) (c__law_tens : Cal P w K mg base k "_law_tens" ["ten", "at"] sp__law_tens) (z_int : mg "int" = none) (z_len : mg "len" = none)
    (hs : ∀ ds S Q, ds.length = 1 → sp ds S Q → t_law sp__law_new_pool sp__law_take sp__law_name_list sp__law_lot_bits sp__law_any_bits sp__law_judged sp__law_is_rising sp__law_folded sp__law_many_names sp__law_tens { nx := fun _ S' => Fin Q (.p .none) S', rt := Fin Q } (dstart 10 ds) S) : DFn P w K mg base (k + 1) f fd ["script"] sp :=
  dfn_of F sc_law ( fun cdv A outer s H E hr => by
    have hu := hr.units
    have nd := sc_law.nd
    exact (dss_cons (ds_set (i := 1) nd rfl (by first | exact Or.inl rfl | exact Or.inr rfl) (de_fn c__law_new_pool hr (da_cons (dv 0) da_nil)))
      (dss_cons (ds_set (i := 2) nd rfl (by first | exact Or.inl rfl | exact Or.inr rfl) (de_cmp (dop_eq hu) (de_fn c__law_take hr (da_cons (dv 1) (da_cons de_int da_nil))) de_int))
      (dss_cons (ds_set (i := 3) nd rfl (by first | exact Or.inl rfl | exact Or.inr rfl) (de_fn c__law_name_list hr (da_cons (dv 1) (da_cons (de_if (dt_truth (dv 2)) de_int (de_op o_mod (de_callTy dc_int rfl z_int (by decide +kernel) (da_cons (de_op dop_add (de_fn c__law_take hr (da_cons (dv 1) (da_cons de_int da_nil))) de_int) da_nil)) de_int)) da_nil))))
      (dss_cons (ds_set (i := 4) nd rfl (by first | exact Or.inl rfl | exact Or.inr rfl) (de_op o_shl de_int (de_callB dc_len rfl z_len (by decide +kernel) (da_cons (dv 3) da_nil))))
      (dss_cons (ds_set (i := 5) nd rfl (by first | exact Or.inl rfl | exact Or.inr rfl) (de_lstM (da_cons (de_fn c__law_any_bits hr (da_cons (dv 1) (da_cons (dv 4) da_nil))) (da_cons (de_fn c__law_lot_bits hr (da_cons (dv 1) (da_cons (dv 4) da_nil))) da_nil))))
      (dss_cons (ds_set (i := 6) nd rfl (by first | exact Or.inl rfl | exact Or.inr rfl) (de_op o_mod (de_callTy dc_int rfl z_int (by decide +kernel) (da_cons (de_op dop_add (de_fn c__law_take hr (da_cons (dv 1) (da_cons (dv 4) da_nil))) de_int) da_nil)) (dv 4)))
      (dss_cons (ds_expr (de_append (dv 5) (de_op dop_add (de_op dop_add (de_slice (de_ix (dv 5) de_int) do_none (do_some (dv 6))) (de_lst (da_cons (de_op o_sub de_int (de_ix (de_ix (dv 5) de_int) (dv 6))) da_nil))) (de_slice (de_ix (dv 5) de_int) (do_some (de_op dop_add (dv 6) de_int)) do_none))))
      (dss_cons (ds_expr (de_append (dv 5) (de_lc (own := [("bit", 7)]) (g := (gdName 7)) (tt := dtYes) (tel := (dOp rSub (dC (.int 1)) (dVar 7))) rfl nd (di_any (de_ix (dv 5) de_int)) (blkOk_by (N := ["script", "pool", "large", "names", "size", "rows", "place", "bit", "bits", "many"]) (sc := defScope s_law) (by decide +kernel)) (by decide) (fun _ _ _ _ _ => (dg_name (i := 7) nd rfl (by first | exact Or.inl rfl | exact Or.inr rfl))) (fun _ _ _ _ _ => dpts_nil) (fun _ _ _ _ _ => (de_op o_sub de_int (dv 7))))))
      (dss_cons (ds_for PassesOwn.never rfl (di_any (dv 5)) (dg_name (i := 8) nd rfl (by first | exact Or.inl rfl | exact Or.inr rfl))
        (dss_one (ds_if (dt_not (dt_truth (de_fn c__law_judged hr (da_cons (de_fn c__law_folded hr (da_cons (dv 3) (da_cons (dv 8) da_nil))) (da_cons (de_fn c__law_is_rising hr (da_cons (dv 3) (da_cons (dv 8) da_nil))) da_nil)))))
          (dss_one (ds_ret de_bl))
          dss_nil)))
      (dss_cons (ds_if (PW.pt (dw_or (dt_not (dt_truth (de_fn c__law_judged hr (da_cons (de_tup (da_cons de_str (da_cons de_int da_nil))) (da_cons de_bl da_nil))))) (dw_or1 (dt_not (dt_truth (de_fn c__law_judged hr (da_cons (de_tup (da_cons de_str (da_cons de_int da_nil))) (da_cons de_bl da_nil))))))))
        (dss_one (ds_ret de_bl))
        dss_nil)
      (dss_cons (ds_set (i := 9) nd rfl (by first | exact Or.inl rfl | exact Or.inr rfl) (de_fn c__law_many_names hr (da_cons (dv 1) (da_cons de_int da_nil))))
      (dss_one (ds_ret (de_fn c__law_tens hr (da_cons (dv 9) (da_cons (de_op o_mod (de_callTy dc_int rfl z_int (by decide +kernel) (da_cons (de_op dop_add (de_fn c__law_take hr (da_cons (dv 1) (da_cons de_int da_nil))) de_int) da_nil)) de_int) da_nil))))))))))))))))) hs
end
end K05

set_option Elab.async false
set_option linter.all false
set_option autoImplicit false
set_option maxRecDepth 100000
set_option maxHeartbeats 4000000
namespace K05
open PySem PySem.Spec PyProof.Rows L2 Tx
structure Txt (K : PySem.W.Frag) (mg : Str → Option Value) : Prop where
  f_end : Fn K mg "end" "end" s_end ["value"]
  f__top_name : Fn K mg "_top_name" "_top_name" s__top_name ["paper"]
  f__branches : Fn K mg "_branches" "_branches" s__branches ["paper", "name"]
  f__crossing : Fn K mg "_crossing" "_crossing" s__crossing ["lower", "upper"]
  f_fall : Fn K mg "fall" "fall" s_fall ["paper"]
  f_is_positive : Fn K mg "is_positive" "is_positive" s_is_positive ["paper"]
  f__law_new_pool : Fn K mg "_law_new_pool" "_law_new_pool" s__law_new_pool ["script"]
  f__law_take : Fn K mg "_law_take" "_law_take" s__law_take ["pool", "base"]
  f__law_new_word : Fn K mg "_law_new_word" "_law_new_word" s__law_new_word ["pool"]
  f__law_name_list : Fn K mg "_law_name_list" "_law_name_list" s__law_name_list ["pool", "count"]
  f__law_many_names : Fn K mg "_law_many_names" "_law_many_names" s__law_many_names ["pool", "count"]
  f__law_folded : Fn K mg "_law_folded" "_law_folded" s__law_folded ["names", "readings"]
  f__law_digit : Fn K mg "_law_digit" "_law_digit" s__law_digit ["number", "k"]
  f__law_chain : Fn K mg "_law_chain" "_law_chain" s__law_chain ["names", "high", "low"]
  f__law_branch : Fn K mg "_law_branch" "_law_branch" s__law_branch ["names", "high", "low"]
  f__law_own_read : Fn K mg "_law_own_read" "_law_own_read" s__law_own_read ["paper", "choice"]
  f__law_is_told_name : Fn K mg "_law_is_told_name" "_law_is_told_name" s__law_is_told_name ["told"]
  f__law_is_told_choice : Fn K mg "_law_is_told_choice" "_law_is_told_choice" s__law_is_told_choice ["told"]
  f__law_falls : Fn K mg "_law_falls" "_law_falls" s__law_falls ["choice", "name", "paper"]
  f__law_is_rising : Fn K mg "_law_is_rising" "_law_is_rising" s__law_is_rising ["names", "bits"]
  f__law_lot_bits : Fn K mg "_law_lot_bits" "_law_lot_bits" s__law_lot_bits ["pool", "size"]
  f__law_judged : Fn K mg "_law_judged" "_law_judged" s__law_judged ["paper", "due"]
  f__law_any_bits : Fn K mg "_law_any_bits" "_law_any_bits" s__law_any_bits ["pool", "size"]
  f__law_tens : Fn K mg "_law_tens" "_law_tens" s__law_tens ["ten", "at"]
  f_law : Fn K mg "law" "law" s_law ["script"]
  z_bool : mg "bool" = none
  z_int : mg "int" = none
  z_isinstance : mg "isinstance" = none
  z_len : mg "len" = none
  z_max : mg "max" = none
  z_range : mg "range" = none
  z_sorted : mg "sorted" = none
  z_str : mg "str" = none
  z_tuple : mg "tuple" = none
section
variable {P : Program} {w : World} {K : PySem.W.Frag} {mg : Str → Option Value} {base : Heap}
theorem c_end (T : Txt K mg) : Cal P w K mg base 1 "end" ["value"] Sh.sp_end' := ok_end (k := 0) T.f_end Sh.hs_end
theorem c__top_name (T : Txt K mg) : Cal P w K mg base 1 "_top_name" ["paper"] Sh.sp_top_name := ok__top_name (k := 0) T.f__top_name Sh.hs_top_name
theorem c__branches (T : Txt K mg) : Cal P w K mg base 2 "_branches" ["paper", "name"] Sh.sp_branches := ok__branches (k := 1) T.f__branches ((c__top_name T).mono (by omega)) Sh.hs_branches
theorem r__crossing (T : Txt K mg) : ∀ k : Nat, Cal P w K mg base (2 + k) "_crossing" ["lower", "upper"] (Sh.sp_cross k)
  | 0 => (Fn.no T.f__crossing).imp fun ds S Q h => by
    obtain ⟨l, u, _, _, _, _, _, h, _⟩ := h; omega
  | k + 1 => by
    have ih := r__crossing T k
    exact ok__crossing (k := 2 + k) T.f__crossing ((c_end T).mono (by omega)) ((c__top_name T).mono (by omega)) ((c__branches T).mono (by omega)) ih T.z_max (Sh.hs_crossing k)
theorem c__crossing (T : Txt K mg) : Cal P w K mg base 32 "_crossing" ["lower", "upper"] (Sh.sp_cross 30) := r__crossing T 30
theorem r_fall (T : Txt K mg) : ∀ k : Nat, Cal P w K mg base (32 + k) "fall" ["paper"] (Sh.sp_fall k)
  | 0 => (Fn.no T.f_fall).imp fun ds S Q h => by
    obtain ⟨p, _, _, h, _⟩ := h; omega
  | k + 1 => by
    have ih := r_fall T k
    exact ok_fall (k := 32 + k) T.f_fall ((c__crossing T).mono (by omega)) ih (Sh.hs_fall k)
theorem c_fall (T : Txt K mg) : Cal P w K mg base 43 "fall" ["paper"] (Sh.sp_fall 11) := r_fall T 11
theorem c_is_positive (T : Txt K mg) : Cal P w K mg base 44 "is_positive" ["paper"] Sh.sp_is_positive := ok_is_positive (k := 43) T.f_is_positive ((c_fall T).mono (by omega)) Sh.hs_is_positive
theorem c__law_new_pool (T : Txt K mg) : Cal P w K mg base 1 "_law_new_pool" ["script"] Sh.sp_new_pool := ok__law_new_pool (k := 0) T.f__law_new_pool T.z_int T.z_len Sh.hs_new_pool
theorem c__law_take (T : Txt K mg) : Cal P w K mg base 1 "_law_take" ["pool", "base"] Sh.sp_take := ok__law_take (k := 0) T.f__law_take T.z_int T.z_len Sh.hs_take
theorem c__law_new_word (T : Txt K mg) : Cal P w K mg base 2 "_law_new_word" ["pool"] Sh.sp_new_word := ok__law_new_word (k := 1) T.f__law_new_word ((c__law_take T).mono (by omega)) T.z_range Sh.hs_new_word
theorem c__law_name_list (T : Txt K mg) : Cal P w K mg base 3 "_law_name_list" ["pool", "count"] Sh.sp_name_list := ok__law_name_list (k := 2) T.f__law_name_list ((c__law_take T).mono (by omega)) ((c__law_new_word T).mono (by omega)) T.z_range T.z_int T.z_sorted Sh.hs_name_list
theorem c__law_many_names (T : Txt K mg) : Cal P w K mg base 2 "_law_many_names" ["pool", "count"] Sh.sp_many_names := ok__law_many_names (k := 1) T.f__law_many_names ((c__law_take T).mono (by omega)) T.z_range T.z_int T.z_sorted Sh.hs_many_names
theorem c__law_folded (T : Txt K mg) : Cal P w K mg base 1 "_law_folded" ["names", "readings"] Sh.sp_folded := ok__law_folded (k := 0) T.f__law_folded T.z_len T.z_range Sh.hs_folded
theorem c__law_digit (T : Txt K mg) : Cal P w K mg base 1 "_law_digit" ["number", "k"] Sh.sp_digit := ok__law_digit (k := 0) T.f__law_digit T.z_int Sh.hs_digit
theorem c__law_chain (T : Txt K mg) : Cal P w K mg base 1 "_law_chain" ["names", "high", "low"] Sh.sp_chain := ok__law_chain (k := 0) T.f__law_chain Sh.hs_chain
theorem c__law_branch (T : Txt K mg) : Cal P w K mg base 1 "_law_branch" ["names", "high", "low"] Sh.sp_branch := ok__law_branch (k := 0) T.f__law_branch Sh.hs_branch
theorem c__law_own_read (T : Txt K mg) : Cal P w K mg base 1 "_law_own_read" ["paper", "choice"] Sh.sp_own_read := ok__law_own_read (k := 0) T.f__law_own_read T.z_range Sh.hs_own_read
theorem c__law_is_told_name (T : Txt K mg) : Cal P w K mg base 1 "_law_is_told_name" ["told"] Sh.sp_is_told_name := ok__law_is_told_name (k := 0) T.f__law_is_told_name T.z_isinstance T.z_tuple T.z_len T.z_int T.z_str T.z_bool Sh.hs_is_told_name
theorem c__law_is_told_choice (T : Txt K mg) : Cal P w K mg base 2 "_law_is_told_choice" ["told"] Sh.sp_is_told_choice := ok__law_is_told_choice (k := 1) T.f__law_is_told_choice ((c__law_is_told_name T).mono (by omega)) T.z_isinstance T.z_tuple T.z_len T.z_range Sh.hs_is_told_choice
theorem c__law_falls (T : Txt K mg) : Cal P w K mg base 3 "_law_falls" ["choice", "name", "paper"] Sh.sp_falls := ok__law_falls (k := 2) T.f__law_falls ((c__law_is_told_choice T).mono (by omega)) ((c__law_is_told_name T).mono (by omega)) ((c__law_own_read T).mono (by omega)) Sh.hs_falls
theorem c__law_is_rising (T : Txt K mg) : Cal P w K mg base 2 "_law_is_rising" ["names", "bits"] Sh.sp_is_rising := ok__law_is_rising (k := 1) T.f__law_is_rising ((c__law_digit T).mono (by omega)) T.z_len T.z_range Sh.hs_is_rising
theorem c__law_lot_bits (T : Txt K mg) : Cal P w K mg base 2 "_law_lot_bits" ["pool", "size"] Sh.sp_bits := ok__law_lot_bits (k := 1) T.f__law_lot_bits ((c__law_take T).mono (by omega)) T.z_int T.z_range Sh.hs_lot_bits
theorem c__law_judged (T : Txt K mg) : Cal P w K mg base 45 "_law_judged" ["paper", "due"] Sh.sp_judged := ok__law_judged (k := 44) T.f__law_judged ((c_is_positive T).mono (by omega)) ((c_fall T).mono (by omega)) ((c__law_falls T).mono (by omega)) T.z_range T.z_isinstance T.z_tuple T.z_len Sh.hs_judged
theorem c__law_any_bits (T : Txt K mg) : Cal P w K mg base 2 "_law_any_bits" ["pool", "size"] Sh.sp_bits := ok__law_any_bits (k := 1) T.f__law_any_bits ((c__law_take T).mono (by omega)) ((c__law_digit T).mono (by omega)) T.z_int T.z_range Sh.hs_any_bits
theorem c__law_tens (T : Txt K mg) : Cal P w K mg base 46 "_law_tens" ["ten", "at"] Sh.sp_tens := ok__law_tens (k := 45) T.f__law_tens ((c__law_judged T).mono (by omega)) ((c__law_chain T).mono (by omega)) ((c__law_branch T).mono (by omega)) T.z_len T.z_range Sh.hs_tens
end

theorem dfn_law {P : Program} {w : World} {K : PySem.W.Frag} {mg : Str → Option Value} {base : Heap} (T : Txt K mg) {f : Addr} {oc : Value} {od an : Option Addr} {osl : Array (Option Value)} {kV doc pm cdv ct : Value} (l : K.lookup f = some ⟨oc, od, .func (PySem.W.fnOf "law" "law" (defArgs s_law) (defBody s_law) (defScope s_law) .none kV doc pm an cdv ct), osl⟩)
    (c : PySem.W.codeIn K cdv "law" = true) (kp : PySem.W.keepIn K (.ref f) = true) : DFn P w K mg base 47 f (PySem.W.fnOf "law" "law" (defArgs s_law) (defBody s_law) (defScope s_law) .none kV doc pm an cdv ct) ["script"] spLaw :=
  fok_law (k := 46) (fun_mk l c kp) ((c__law_new_pool T).mono (by omega)) ((c__law_take T).mono (by omega)) ((c__law_name_list T).mono (by omega)) ((c__law_lot_bits T).mono (by omega)) ((c__law_any_bits T).mono (by omega)) ((c__law_judged T).mono (by omega)) ((c__law_is_rising T).mono (by omega)) ((c__law_folded T).mono (by omega)) ((c__law_many_names T).mono (by omega)) ((c__law_tens T).mono (by omega)) T.z_int T.z_len Sh.hs_law
theorem all_mk {l : PySem.W.OpenLaw} {w : World} {K : PySem.W.Frag} {h : Heap} {mg : Str → Option Value} {fa : Addr} (X : K.In h) (G : h.Ns mainGlobals mg) (hfa : mg "law" = some (.ref fa))
    {od0 an0 : Option Addr} {sl0 : Array (Option Value)} {oc0 kV0 dc0 pm0 cd0 ct0 : Value} {f0 : Addr}
    {od1 an1 : Option Addr} {sl1 : Array (Option Value)} {oc1 kV1 dc1 pm1 cd1 ct1 : Value} {f1 : Addr}
    {od2 an2 : Option Addr} {sl2 : Array (Option Value)} {oc2 kV2 dc2 pm2 cd2 ct2 : Value} {f2 : Addr}
    {od3 an3 : Option Addr} {sl3 : Array (Option Value)} {oc3 kV3 dc3 pm3 cd3 ct3 : Value} {f3 : Addr}
    {od4 an4 : Option Addr} {sl4 : Array (Option Value)} {oc4 kV4 dc4 pm4 cd4 ct4 : Value} {f4 : Addr}
    {od5 an5 : Option Addr} {sl5 : Array (Option Value)} {oc5 kV5 dc5 pm5 cd5 ct5 : Value} {f5 : Addr}
    {od6 an6 : Option Addr} {sl6 : Array (Option Value)} {oc6 kV6 dc6 pm6 cd6 ct6 : Value} {f6 : Addr}
    {od7 an7 : Option Addr} {sl7 : Array (Option Value)} {oc7 kV7 dc7 pm7 cd7 ct7 : Value} {f7 : Addr}
    {od8 an8 : Option Addr} {sl8 : Array (Option Value)} {oc8 kV8 dc8 pm8 cd8 ct8 : Value} {f8 : Addr}
    {od9 an9 : Option Addr} {sl9 : Array (Option Value)} {oc9 kV9 dc9 pm9 cd9 ct9 : Value} {f9 : Addr}
    {od10 an10 : Option Addr} {sl10 : Array (Option Value)} {oc10 kV10 dc10 pm10 cd10 ct10 : Value} {f10 : Addr}
    {od11 an11 : Option Addr} {sl11 : Array (Option Value)} {oc11 kV11 dc11 pm11 cd11 ct11 : Value} {f11 : Addr}
    {od12 an12 : Option Addr} {sl12 : Array (Option Value)} {oc12 kV12 dc12 pm12 cd12 ct12 : Value} {f12 : Addr}
    {od13 an13 : Option Addr} {sl13 : Array (Option Value)} {oc13 kV13 dc13 pm13 cd13 ct13 : Value} {f13 : Addr}
    {od14 an14 : Option Addr} {sl14 : Array (Option Value)} {oc14 kV14 dc14 pm14 cd14 ct14 : Value} {f14 : Addr}
    {od15 an15 : Option Addr} {sl15 : Array (Option Value)} {oc15 kV15 dc15 pm15 cd15 ct15 : Value} {f15 : Addr}
    {od16 an16 : Option Addr} {sl16 : Array (Option Value)} {oc16 kV16 dc16 pm16 cd16 ct16 : Value} {f16 : Addr}
    {od17 an17 : Option Addr} {sl17 : Array (Option Value)} {oc17 kV17 dc17 pm17 cd17 ct17 : Value} {f17 : Addr}
    {od18 an18 : Option Addr} {sl18 : Array (Option Value)} {oc18 kV18 dc18 pm18 cd18 ct18 : Value} {f18 : Addr}
    {od19 an19 : Option Addr} {sl19 : Array (Option Value)} {oc19 kV19 dc19 pm19 cd19 ct19 : Value} {f19 : Addr}
    {od20 an20 : Option Addr} {sl20 : Array (Option Value)} {oc20 kV20 dc20 pm20 cd20 ct20 : Value} {f20 : Addr}
    {od21 an21 : Option Addr} {sl21 : Array (Option Value)} {oc21 kV21 dc21 pm21 cd21 ct21 : Value} {f21 : Addr}
    {od22 an22 : Option Addr} {sl22 : Array (Option Value)} {oc22 kV22 dc22 pm22 cd22 ct22 : Value} {f22 : Addr}
    {od23 an23 : Option Addr} {sl23 : Array (Option Value)} {oc23 kV23 dc23 pm23 cd23 ct23 : Value} {f23 : Addr}
    {od24 an24 : Option Addr} {sl24 : Array (Option Value)} {oc24 kV24 dc24 pm24 cd24 ct24 : Value} {f24 : Addr}
    (a0 : PySem.W.nsIn K mainGlobals "end" = some (some (.ref f0))) (l0 : K.lookup f0 = some ⟨oc0, od0, .func (PySem.W.fnOf "end" "end" (defArgs s_end) (defBody s_end) (defScope s_end) .none kV0 dc0 pm0 an0 cd0 ct0), sl0⟩) (c0 : PySem.W.codeIn K cd0 "end" = true) (k0 : PySem.W.keepIn K (.ref f0) = true)
    (a1 : PySem.W.nsIn K mainGlobals "_top_name" = some (some (.ref f1))) (l1 : K.lookup f1 = some ⟨oc1, od1, .func (PySem.W.fnOf "_top_name" "_top_name" (defArgs s__top_name) (defBody s__top_name) (defScope s__top_name) .none kV1 dc1 pm1 an1 cd1 ct1), sl1⟩) (c1 : PySem.W.codeIn K cd1 "_top_name" = true) (k1 : PySem.W.keepIn K (.ref f1) = true)
    (a2 : PySem.W.nsIn K mainGlobals "_branches" = some (some (.ref f2))) (l2 : K.lookup f2 = some ⟨oc2, od2, .func (PySem.W.fnOf "_branches" "_branches" (defArgs s__branches) (defBody s__branches) (defScope s__branches) .none kV2 dc2 pm2 an2 cd2 ct2), sl2⟩) (c2 : PySem.W.codeIn K cd2 "_branches" = true) (k2 : PySem.W.keepIn K (.ref f2) = true)
    (a3 : PySem.W.nsIn K mainGlobals "_crossing" = some (some (.ref f3))) (l3 : K.lookup f3 = some ⟨oc3, od3, .func (PySem.W.fnOf "_crossing" "_crossing" (defArgs s__crossing) (defBody s__crossing) (defScope s__crossing) .none kV3 dc3 pm3 an3 cd3 ct3), sl3⟩) (c3 : PySem.W.codeIn K cd3 "_crossing" = true) (k3 : PySem.W.keepIn K (.ref f3) = true)
    (a4 : PySem.W.nsIn K mainGlobals "fall" = some (some (.ref f4))) (l4 : K.lookup f4 = some ⟨oc4, od4, .func (PySem.W.fnOf "fall" "fall" (defArgs s_fall) (defBody s_fall) (defScope s_fall) .none kV4 dc4 pm4 an4 cd4 ct4), sl4⟩) (c4 : PySem.W.codeIn K cd4 "fall" = true) (k4 : PySem.W.keepIn K (.ref f4) = true)
    (a5 : PySem.W.nsIn K mainGlobals "is_positive" = some (some (.ref f5))) (l5 : K.lookup f5 = some ⟨oc5, od5, .func (PySem.W.fnOf "is_positive" "is_positive" (defArgs s_is_positive) (defBody s_is_positive) (defScope s_is_positive) .none kV5 dc5 pm5 an5 cd5 ct5), sl5⟩) (c5 : PySem.W.codeIn K cd5 "is_positive" = true) (k5 : PySem.W.keepIn K (.ref f5) = true)
    (a6 : PySem.W.nsIn K mainGlobals "_law_new_pool" = some (some (.ref f6))) (l6 : K.lookup f6 = some ⟨oc6, od6, .func (PySem.W.fnOf "_law_new_pool" "_law_new_pool" (defArgs s__law_new_pool) (defBody s__law_new_pool) (defScope s__law_new_pool) .none kV6 dc6 pm6 an6 cd6 ct6), sl6⟩) (c6 : PySem.W.codeIn K cd6 "_law_new_pool" = true) (k6 : PySem.W.keepIn K (.ref f6) = true)
    (a7 : PySem.W.nsIn K mainGlobals "_law_take" = some (some (.ref f7))) (l7 : K.lookup f7 = some ⟨oc7, od7, .func (PySem.W.fnOf "_law_take" "_law_take" (defArgs s__law_take) (defBody s__law_take) (defScope s__law_take) .none kV7 dc7 pm7 an7 cd7 ct7), sl7⟩) (c7 : PySem.W.codeIn K cd7 "_law_take" = true) (k7 : PySem.W.keepIn K (.ref f7) = true)
    (a8 : PySem.W.nsIn K mainGlobals "_law_new_word" = some (some (.ref f8))) (l8 : K.lookup f8 = some ⟨oc8, od8, .func (PySem.W.fnOf "_law_new_word" "_law_new_word" (defArgs s__law_new_word) (defBody s__law_new_word) (defScope s__law_new_word) .none kV8 dc8 pm8 an8 cd8 ct8), sl8⟩) (c8 : PySem.W.codeIn K cd8 "_law_new_word" = true) (k8 : PySem.W.keepIn K (.ref f8) = true)
    (a9 : PySem.W.nsIn K mainGlobals "_law_name_list" = some (some (.ref f9))) (l9 : K.lookup f9 = some ⟨oc9, od9, .func (PySem.W.fnOf "_law_name_list" "_law_name_list" (defArgs s__law_name_list) (defBody s__law_name_list) (defScope s__law_name_list) .none kV9 dc9 pm9 an9 cd9 ct9), sl9⟩) (c9 : PySem.W.codeIn K cd9 "_law_name_list" = true) (k9 : PySem.W.keepIn K (.ref f9) = true)
    (a10 : PySem.W.nsIn K mainGlobals "_law_many_names" = some (some (.ref f10))) (l10 : K.lookup f10 = some ⟨oc10, od10, .func (PySem.W.fnOf "_law_many_names" "_law_many_names" (defArgs s__law_many_names) (defBody s__law_many_names) (defScope s__law_many_names) .none kV10 dc10 pm10 an10 cd10 ct10), sl10⟩) (c10 : PySem.W.codeIn K cd10 "_law_many_names" = true) (k10 : PySem.W.keepIn K (.ref f10) = true)
    (a11 : PySem.W.nsIn K mainGlobals "_law_folded" = some (some (.ref f11))) (l11 : K.lookup f11 = some ⟨oc11, od11, .func (PySem.W.fnOf "_law_folded" "_law_folded" (defArgs s__law_folded) (defBody s__law_folded) (defScope s__law_folded) .none kV11 dc11 pm11 an11 cd11 ct11), sl11⟩) (c11 : PySem.W.codeIn K cd11 "_law_folded" = true) (k11 : PySem.W.keepIn K (.ref f11) = true)
    (a12 : PySem.W.nsIn K mainGlobals "_law_digit" = some (some (.ref f12))) (l12 : K.lookup f12 = some ⟨oc12, od12, .func (PySem.W.fnOf "_law_digit" "_law_digit" (defArgs s__law_digit) (defBody s__law_digit) (defScope s__law_digit) .none kV12 dc12 pm12 an12 cd12 ct12), sl12⟩) (c12 : PySem.W.codeIn K cd12 "_law_digit" = true) (k12 : PySem.W.keepIn K (.ref f12) = true)
    (a13 : PySem.W.nsIn K mainGlobals "_law_chain" = some (some (.ref f13))) (l13 : K.lookup f13 = some ⟨oc13, od13, .func (PySem.W.fnOf "_law_chain" "_law_chain" (defArgs s__law_chain) (defBody s__law_chain) (defScope s__law_chain) .none kV13 dc13 pm13 an13 cd13 ct13), sl13⟩) (c13 : PySem.W.codeIn K cd13 "_law_chain" = true) (k13 : PySem.W.keepIn K (.ref f13) = true)
    (a14 : PySem.W.nsIn K mainGlobals "_law_branch" = some (some (.ref f14))) (l14 : K.lookup f14 = some ⟨oc14, od14, .func (PySem.W.fnOf "_law_branch" "_law_branch" (defArgs s__law_branch) (defBody s__law_branch) (defScope s__law_branch) .none kV14 dc14 pm14 an14 cd14 ct14), sl14⟩) (c14 : PySem.W.codeIn K cd14 "_law_branch" = true) (k14 : PySem.W.keepIn K (.ref f14) = true)
    (a15 : PySem.W.nsIn K mainGlobals "_law_own_read" = some (some (.ref f15))) (l15 : K.lookup f15 = some ⟨oc15, od15, .func (PySem.W.fnOf "_law_own_read" "_law_own_read" (defArgs s__law_own_read) (defBody s__law_own_read) (defScope s__law_own_read) .none kV15 dc15 pm15 an15 cd15 ct15), sl15⟩) (c15 : PySem.W.codeIn K cd15 "_law_own_read" = true) (k15 : PySem.W.keepIn K (.ref f15) = true)
    (a16 : PySem.W.nsIn K mainGlobals "_law_is_told_name" = some (some (.ref f16))) (l16 : K.lookup f16 = some ⟨oc16, od16, .func (PySem.W.fnOf "_law_is_told_name" "_law_is_told_name" (defArgs s__law_is_told_name) (defBody s__law_is_told_name) (defScope s__law_is_told_name) .none kV16 dc16 pm16 an16 cd16 ct16), sl16⟩) (c16 : PySem.W.codeIn K cd16 "_law_is_told_name" = true) (k16 : PySem.W.keepIn K (.ref f16) = true)
    (a17 : PySem.W.nsIn K mainGlobals "_law_is_told_choice" = some (some (.ref f17))) (l17 : K.lookup f17 = some ⟨oc17, od17, .func (PySem.W.fnOf "_law_is_told_choice" "_law_is_told_choice" (defArgs s__law_is_told_choice) (defBody s__law_is_told_choice) (defScope s__law_is_told_choice) .none kV17 dc17 pm17 an17 cd17 ct17), sl17⟩) (c17 : PySem.W.codeIn K cd17 "_law_is_told_choice" = true) (k17 : PySem.W.keepIn K (.ref f17) = true)
    (a18 : PySem.W.nsIn K mainGlobals "_law_falls" = some (some (.ref f18))) (l18 : K.lookup f18 = some ⟨oc18, od18, .func (PySem.W.fnOf "_law_falls" "_law_falls" (defArgs s__law_falls) (defBody s__law_falls) (defScope s__law_falls) .none kV18 dc18 pm18 an18 cd18 ct18), sl18⟩) (c18 : PySem.W.codeIn K cd18 "_law_falls" = true) (k18 : PySem.W.keepIn K (.ref f18) = true)
    (a19 : PySem.W.nsIn K mainGlobals "_law_is_rising" = some (some (.ref f19))) (l19 : K.lookup f19 = some ⟨oc19, od19, .func (PySem.W.fnOf "_law_is_rising" "_law_is_rising" (defArgs s__law_is_rising) (defBody s__law_is_rising) (defScope s__law_is_rising) .none kV19 dc19 pm19 an19 cd19 ct19), sl19⟩) (c19 : PySem.W.codeIn K cd19 "_law_is_rising" = true) (k19 : PySem.W.keepIn K (.ref f19) = true)
    (a20 : PySem.W.nsIn K mainGlobals "_law_lot_bits" = some (some (.ref f20))) (l20 : K.lookup f20 = some ⟨oc20, od20, .func (PySem.W.fnOf "_law_lot_bits" "_law_lot_bits" (defArgs s__law_lot_bits) (defBody s__law_lot_bits) (defScope s__law_lot_bits) .none kV20 dc20 pm20 an20 cd20 ct20), sl20⟩) (c20 : PySem.W.codeIn K cd20 "_law_lot_bits" = true) (k20 : PySem.W.keepIn K (.ref f20) = true)
    (a21 : PySem.W.nsIn K mainGlobals "_law_judged" = some (some (.ref f21))) (l21 : K.lookup f21 = some ⟨oc21, od21, .func (PySem.W.fnOf "_law_judged" "_law_judged" (defArgs s__law_judged) (defBody s__law_judged) (defScope s__law_judged) .none kV21 dc21 pm21 an21 cd21 ct21), sl21⟩) (c21 : PySem.W.codeIn K cd21 "_law_judged" = true) (k21 : PySem.W.keepIn K (.ref f21) = true)
    (a22 : PySem.W.nsIn K mainGlobals "_law_any_bits" = some (some (.ref f22))) (l22 : K.lookup f22 = some ⟨oc22, od22, .func (PySem.W.fnOf "_law_any_bits" "_law_any_bits" (defArgs s__law_any_bits) (defBody s__law_any_bits) (defScope s__law_any_bits) .none kV22 dc22 pm22 an22 cd22 ct22), sl22⟩) (c22 : PySem.W.codeIn K cd22 "_law_any_bits" = true) (k22 : PySem.W.keepIn K (.ref f22) = true)
    (a23 : PySem.W.nsIn K mainGlobals "_law_tens" = some (some (.ref f23))) (l23 : K.lookup f23 = some ⟨oc23, od23, .func (PySem.W.fnOf "_law_tens" "_law_tens" (defArgs s__law_tens) (defBody s__law_tens) (defScope s__law_tens) .none kV23 dc23 pm23 an23 cd23 ct23), sl23⟩) (c23 : PySem.W.codeIn K cd23 "_law_tens" = true) (k23 : PySem.W.keepIn K (.ref f23) = true)
    (a24 : PySem.W.nsIn K mainGlobals "law" = some (some (.ref f24))) (l24 : K.lookup f24 = some ⟨oc24, od24, .func (PySem.W.fnOf "law" "law" (defArgs s_law) (defBody s_law) (defScope s_law) .none kV24 dc24 pm24 an24 cd24 ct24), sl24⟩) (c24 : PySem.W.codeIn K cd24 "law" = true) (k24 : PySem.W.keepIn K (.ref f24) = true)
    (zbool : PySem.W.nsIn K mainGlobals "bool" = some none)
    (zint : PySem.W.nsIn K mainGlobals "int" = some none)
    (zisinstance : PySem.W.nsIn K mainGlobals "isinstance" = some none)
    (zlen : PySem.W.nsIn K mainGlobals "len" = some none)
    (zmax : PySem.W.nsIn K mainGlobals "max" = some none)
    (zrange : PySem.W.nsIn K mainGlobals "range" = some none)
    (zsorted : PySem.W.nsIn K mainGlobals "sorted" = some none)
    (zstr : PySem.W.nsIn K mainGlobals "str" = some none)
    (ztuple : PySem.W.nsIn K mainGlobals "tuple" = some none) :
    ∃ fd : FuncData, (∀ (s : Shared) (v : Value), BindsTo s fd ⟨[v], []⟩ [("script", v)]) ∧ ∀ base : Heap, K.In base → base.Ns mainGlobals mg → DFn l.prog w K mg base 47 fa fd ["script"] spLaw := by
  have T : Txt K mg := ⟨fn_mk (PySem.W.mg_of X G a0) l0 c0 k0 (fun _ _ _ _ _ _ us hl => match us, hl with | [_], _ => rfl),
    fn_mk (PySem.W.mg_of X G a1) l1 c1 k1 (fun _ _ _ _ _ _ us hl => match us, hl with | [_], _ => rfl),
    fn_mk (PySem.W.mg_of X G a2) l2 c2 k2 (fun _ _ _ _ _ _ us hl => match us, hl with | [_, _], _ => rfl),
    fn_mk (PySem.W.mg_of X G a3) l3 c3 k3 (fun _ _ _ _ _ _ us hl => match us, hl with | [_, _], _ => rfl),
    fn_mk (PySem.W.mg_of X G a4) l4 c4 k4 (fun _ _ _ _ _ _ us hl => match us, hl with | [_], _ => rfl),
    fn_mk (PySem.W.mg_of X G a5) l5 c5 k5 (fun _ _ _ _ _ _ us hl => match us, hl with | [_], _ => rfl),
    fn_mk (PySem.W.mg_of X G a6) l6 c6 k6 (fun _ _ _ _ _ _ us hl => match us, hl with | [_], _ => rfl),
    fn_mk (PySem.W.mg_of X G a7) l7 c7 k7 (fun _ _ _ _ _ _ us hl => match us, hl with | [_, _], _ => rfl),
    fn_mk (PySem.W.mg_of X G a8) l8 c8 k8 (fun _ _ _ _ _ _ us hl => match us, hl with | [_], _ => rfl),
    fn_mk (PySem.W.mg_of X G a9) l9 c9 k9 (fun _ _ _ _ _ _ us hl => match us, hl with | [_, _], _ => rfl),
    fn_mk (PySem.W.mg_of X G a10) l10 c10 k10 (fun _ _ _ _ _ _ us hl => match us, hl with | [_, _], _ => rfl),
    fn_mk (PySem.W.mg_of X G a11) l11 c11 k11 (fun _ _ _ _ _ _ us hl => match us, hl with | [_, _], _ => rfl),
    fn_mk (PySem.W.mg_of X G a12) l12 c12 k12 (fun _ _ _ _ _ _ us hl => match us, hl with | [_, _], _ => rfl),
    fn_mk (PySem.W.mg_of X G a13) l13 c13 k13 (fun _ _ _ _ _ _ us hl => match us, hl with | [_, _, _], _ => rfl),
    fn_mk (PySem.W.mg_of X G a14) l14 c14 k14 (fun _ _ _ _ _ _ us hl => match us, hl with | [_, _, _], _ => rfl),
    fn_mk (PySem.W.mg_of X G a15) l15 c15 k15 (fun _ _ _ _ _ _ us hl => match us, hl with | [_, _], _ => rfl),
    fn_mk (PySem.W.mg_of X G a16) l16 c16 k16 (fun _ _ _ _ _ _ us hl => match us, hl with | [_], _ => rfl),
    fn_mk (PySem.W.mg_of X G a17) l17 c17 k17 (fun _ _ _ _ _ _ us hl => match us, hl with | [_], _ => rfl),
    fn_mk (PySem.W.mg_of X G a18) l18 c18 k18 (fun _ _ _ _ _ _ us hl => match us, hl with | [_, _, _], _ => rfl),
    fn_mk (PySem.W.mg_of X G a19) l19 c19 k19 (fun _ _ _ _ _ _ us hl => match us, hl with | [_, _], _ => rfl),
    fn_mk (PySem.W.mg_of X G a20) l20 c20 k20 (fun _ _ _ _ _ _ us hl => match us, hl with | [_, _], _ => rfl),
    fn_mk (PySem.W.mg_of X G a21) l21 c21 k21 (fun _ _ _ _ _ _ us hl => match us, hl with | [_, _], _ => rfl),
    fn_mk (PySem.W.mg_of X G a22) l22 c22 k22 (fun _ _ _ _ _ _ us hl => match us, hl with | [_, _], _ => rfl),
    fn_mk (PySem.W.mg_of X G a23) l23 c23 k23 (fun _ _ _ _ _ _ us hl => match us, hl with | [_, _], _ => rfl),
    fn_mk (PySem.W.mg_of X G a24) l24 c24 k24 (fun _ _ _ _ _ _ us hl => match us, hl with | [_], _ => rfl),
    PySem.W.mg_none_of X G zbool,
    PySem.W.mg_none_of X G zint,
    PySem.W.mg_none_of X G zisinstance,
    PySem.W.mg_none_of X G zlen,
    PySem.W.mg_none_of X G zmax,
    PySem.W.mg_none_of X G zrange,
    PySem.W.mg_none_of X G zsorted,
    PySem.W.mg_none_of X G zstr,
    PySem.W.mg_none_of X G ztuple⟩
  have e := hfa.symm.trans (PySem.W.mg_of X G a24)
  cases e
  exact ⟨PySem.W.fnOf "law" "law" (defArgs s_law) (defBody s_law) (defScope s_law) .none kV24 dc24 pm24 an24 cd24 ct24, fun s v => .of_eq rfl, fun base _ _ => dfn_law T l24 c24 k24⟩
end K05

open PySem PySem.W PyProof.Rows in
set_option maxRecDepth 100000 in
set_option maxHeartbeats 0 in
theorem PySem.Challenge.cw_whencehold_k05_positive_or_fall_holds : PySem.Challenge.rw_whencehold_k05_positive_or_fall.Holds := by
  w_on; o_law; k_head; (case hw => w_witness2)
  k_fill
  refine Tx.walk (l := PySem.Challenge.rw_whencehold_k05_positive_or_fall) (k := 47) rfl rfl ⟨rfl, by decide, by decide⟩ (fun w h Y => PySem.W.kIn_of Y) ?F
  case F =>
    intro w mg fa h KX G hmg
    refine' K05.all_mk KX G hmg ?a0 ?l0 ?c0 ?k0 ?a1 ?l1 ?c1 ?k1 ?a2 ?l2 ?c2 ?k2 ?a3 ?l3 ?c3 ?k3 ?a4 ?l4 ?c4 ?k4 ?a5 ?l5 ?c5 ?k5 ?a6 ?l6 ?c6 ?k6 ?a7 ?l7 ?c7 ?k7 ?a8 ?l8 ?c8 ?k8 ?a9 ?l9 ?c9 ?k9 ?a10 ?l10 ?c10 ?k10 ?a11 ?l11 ?c11 ?k11 ?a12 ?l12 ?c12 ?k12 ?a13 ?l13 ?c13 ?k13 ?a14 ?l14 ?c14 ?k14 ?a15 ?l15 ?c15 ?k15 ?a16 ?l16 ?c16 ?k16 ?a17 ?l17 ?c17 ?k17 ?a18 ?l18 ?c18 ?k18 ?a19 ?l19 ?c19 ?k19 ?a20 ?l20 ?c20 ?k20 ?a21 ?l21 ?c21 ?k21 ?a22 ?l22 ?c22 ?k22 ?a23 ?l23 ?c23 ?k23 ?a24 ?l24 ?c24 ?k24 ?zbool ?zint ?zisinstance ?zlen ?zmax ?zrange ?zsorted ?zstr ?ztuple
    (case a0 => k_is)
    (case l0 => k_is)
    (case c0 => k_is)
    (case k0 => k_is)
    (case a1 => k_is)
    (case l1 => k_is)
    (case c1 => k_is)
    (case k1 => k_is)
    (case a2 => k_is)
    (case l2 => k_is)
    (case c2 => k_is)
    (case k2 => k_is)
    (case a3 => k_is)
    (case l3 => k_is)
    (case c3 => k_is)
    (case k3 => k_is)
    (case a4 => k_is)
    (case l4 => k_is)
    (case c4 => k_is)
    (case k4 => k_is)
    (case a5 => k_is)
    (case l5 => k_is)
    (case c5 => k_is)
    (case k5 => k_is)
    (case a6 => k_is)
    (case l6 => k_is)
    (case c6 => k_is)
    (case k6 => k_is)
    (case a7 => k_is)
    (case l7 => k_is)
    (case c7 => k_is)
    (case k7 => k_is)
    (case a8 => k_is)
    (case l8 => k_is)
    (case c8 => k_is)
    (case k8 => k_is)
    (case a9 => k_is)
    (case l9 => k_is)
    (case c9 => k_is)
    (case k9 => k_is)
    (case a10 => k_is)
    (case l10 => k_is)
    (case c10 => k_is)
    (case k10 => k_is)
    (case a11 => k_is)
    (case l11 => k_is)
    (case c11 => k_is)
    (case k11 => k_is)
    (case a12 => k_is)
    (case l12 => k_is)
    (case c12 => k_is)
    (case k12 => k_is)
    (case a13 => k_is)
    (case l13 => k_is)
    (case c13 => k_is)
    (case k13 => k_is)
    (case a14 => k_is)
    (case l14 => k_is)
    (case c14 => k_is)
    (case k14 => k_is)
    (case a15 => k_is)
    (case l15 => k_is)
    (case c15 => k_is)
    (case k15 => k_is)
    (case a16 => k_is)
    (case l16 => k_is)
    (case c16 => k_is)
    (case k16 => k_is)
    (case a17 => k_is)
    (case l17 => k_is)
    (case c17 => k_is)
    (case k17 => k_is)
    (case a18 => k_is)
    (case l18 => k_is)
    (case c18 => k_is)
    (case k18 => k_is)
    (case a19 => k_is)
    (case l19 => k_is)
    (case c19 => k_is)
    (case k19 => k_is)
    (case a20 => k_is)
    (case l20 => k_is)
    (case c20 => k_is)
    (case k20 => k_is)
    (case a21 => k_is)
    (case l21 => k_is)
    (case c21 => k_is)
    (case k21 => k_is)
    (case a22 => k_is)
    (case l22 => k_is)
    (case c22 => k_is)
    (case k22 => k_is)
    (case a23 => k_is)
    (case l23 => k_is)
    (case c23 => k_is)
    (case k23 => k_is)
    (case a24 => k_is)
    (case l24 => k_is)
    (case c24 => k_is)
    (case k24 => k_is)
    (case zbool => k_is)
    (case zint => k_is)
    (case zisinstance => k_is)
    (case zlen => k_is)
    (case zmax => k_is)
    (case zrange => k_is)
    (case zsorted => k_is)
    (case zstr => k_is)
    (case ztuple => k_is)
