import PyProof.Rows.All
import Wide.All
import OpenK.AllK
import Wide.FinOn
import HandS.ForMost
import HandS.Exc
import HandS.TryOnly
import HandS.ExcOwn
import HandS.ExcInit
import HandS.IsInst
import HandS.Wide
import HandS.WideBits
import HandS.Flow
import HandS.Zip
import HandS.Remove
import HandS.TupAny
import HandS.StrMore
import HandS.Conv
import HandS.Style
import HandS.WordsExc
import HandS.ExcCtx
import HandS.More
import KE.SortData
import HandS.Deep
import HandS.SetFor
import KE.DataMinMax
import HandS.Iter
import KE.DataFind
import HandS.Dict
import HandS.Rev
import KE.GoesEnum
import KE.GoesMore
import HandS.ExcIs
import HandS.Strs
import HandS.Flt
import HandS.Ends
import HandS.Text
import HandS.MapJoin
import HandS.HotCalls
import HandS.Comp
import PyProof.ReprRoads
import PyProof.ReprDict
import PyProof.EqKinds
import PyProof.FactsAll.dict
import PySem.Challenge.RW_pourwright_k59_no_phases
set_option Elab.async false
set_option linter.all false
section
set_option maxRecDepth 100000
/-! DL, part 1: data as trees, what stands for them in the heap, footprints. -/
namespace DL
open PySem L2

/-- a footprint: how often an address is owned -/
abbrev Ft := Addr → Nat
def z0 : Ft := fun _ => 0
def fadd (f g : Ft) : Ft := fun a => f a + g a
def one1 (p : Addr) : Ft := fun a => if a = p then 1 else 0
@[simp] theorem z0_at (a : Addr) : z0 a = 0 := rfl
@[simp] theorem fadd_at (f g : Ft) (a : Addr) : fadd f g a = f a + g a := rfl
theorem one1_self (p : Addr) : one1 p p = 1 := by simp [one1]
theorem one1_ne {p a : Addr} (h : a ≠ p) : one1 p a = 0 := by simp [one1, h]

/-- where the classes stand; the written part -/
structure Gm where
  cls : Nat → Addr
  K : PySem.W.Frag
/-- kinds of nodes; the mark says: owned here alone, may change -/
inductive Kd where
  | tup | lst (m : Bool) | dik (m : Bool) (ks : List Key) | dit (m : Bool) (ks : List (List Key)) | obj (m : Bool) (c : Nat) (ns : List Str)
def Kd.mut : Kd → Bool
  | .tup => false | .lst m => m | .dik m _ => m | .dit m _ => m | .obj m _ _ => m
def Kd.fz : Kd → Kd
  | .tup => .tup | .lst _ => .lst false | .dik _ ks => .dik false ks | .dit _ ks => .dit false ks | .obj _ c ns => .obj false c ns
theorem Kd.fz_mut (k : Kd) : k.fz.mut = false := by cases k <;> rfl
theorem Kd.fz_of {k : Kd} (h : k.mut = false) : k.fz = k := by cases k <;> simp_all [Kd.fz, Kd.mut]
/-- data -/
inductive D where
  | una | lent | sc (v : V) | nd (k : Kd) (ds : List D) | kl (xs : List Int)
/-- what a node's object is -/
def Kd.st (G : Gm) : Kd → List V → HO → Prop
  | .tup, vs, o => o = .tup vs
  | .lst _, vs, o => o = .lst vs
  | .dik _ ks, vs, o => ks.length = vs.length ∧ o = .dK (ks.zip vs)
  | .dit _ ks, vs, o => ks.length = vs.length ∧ o = .dT (ks.zip vs)
  | .obj _ c ns, vs, o => ns.length = vs.length ∧ ∃ dx, o = .ins (G.cls c) dx (ns.zip vs)
theorem Kd.st_fz {G : Gm} {k : Kd} {vs : List V} {o : HO} (h : k.st G vs o) : k.fz.st G vs o := by cases k <;> exact h

mutual
def fz : D → D
  | .una => .una
  | .lent => .lent
  | .sc v => .sc v
  | .nd k ds => .nd k.fz (fzs ds)
  | .kl xs => .kl xs
def fzs : List D → List D
  | [] => []
  | d :: ds => fz d :: fzs ds
end
mutual
/-- nothing in it is owned -/
def Fz : D → Bool
  | .una => false
  | .lent => false
  | .sc _ => true
  | .nd k ds => !k.mut && Fzs ds
  | .kl _ => true
def Fzs : List D → Bool
  | [] => true
  | d :: ds => Fz d && Fzs ds
end
theorem fzs_map (ds : List D) : fzs ds = ds.map fz := by induction ds with | nil => rfl | cons d ds ih => simp [fzs, ih]
theorem Fzs_all (ds : List D) : Fzs ds = ds.all Fz := by induction ds with | nil => rfl | cons d ds ih => simp [Fzs, ih]
mutual
theorem fz_of : ∀ {d : D}, Fz d = true → fz d = d
  | .una, h => rfl
  | .lent, h => rfl
  | .kl _, h => rfl
  | .sc v, h => rfl
  | .nd k ds, h => by
    have h' : (!k.mut && Fzs ds) = true := h
    simp only [Bool.and_eq_true, Bool.not_eq_true'] at h'
    show D.nd k.fz (fzs ds) = _
    rw [Kd.fz_of h'.1, fzs_of h'.2]
theorem fzs_of : ∀ {ds : List D}, Fzs ds = true → fzs ds = ds
  | [], h => rfl
  | d :: ds, h => by
    have h' : (Fz d && Fzs ds) = true := h
    simp only [Bool.and_eq_true] at h'
    show fz d :: fzs ds = _
    rw [fz_of h'.1, fzs_of h'.2]
end

mutual
/-- d stands at v: what is frozen stands in I, what is owned in H and not in I -/
def Rp (G : Gm) (I H : Hp) : D → V → Ft → Prop
  | .una, _, f => ∀ a, f a = 0
  | .lent, _, f => ∀ a, f a = 0
  | .sc x, v, f => v = x ∧ ∀ a, f a = 0
  | .nd k ds, v, f => ∃ p vs g o, v = .ref p ∧ k.st G vs o ∧ Rps G I H ds vs g ∧
      ((k.mut = true ∧ I p = none ∧ H p = some o ∧ ∀ a, f a = g a + one1 p a) ∨ (k.mut = false ∧ I p = some o ∧ ∀ a, f a = g a))
  | .kl xs, v, f => (∃ p, v = .ref p ∧ SqL G.K I p (xs.map V.int)) ∧ ∀ a, f a = 0
def Rps (G : Gm) (I H : Hp) : List D → List V → Ft → Prop
  | [], vs, f => vs = [] ∧ ∀ a, f a = 0
  | d :: ds, vs, f => ∃ v ws g h, vs = v :: ws ∧ Rp G I H d v g ∧ Rps G I H ds ws h ∧ ∀ a, f a = g a + h a
end

section
variable {G : Gm} {I I' H H' : Hp} {d : D} {ds : List D} {v : V} {vs : List V} {f g h : Ft}
theorem Rps.len : ∀ {ds : List D} {vs : List V} {f : Ft}, Rps G I H ds vs f → vs.length = ds.length
  | [], vs, f, x => by obtain ⟨rfl, _⟩ := x; rfl
  | d :: ds, vs, f, x => by
    obtain ⟨v, ws, g, h, rfl, _, y, _⟩ := x
    simp [Rps.len y]
theorem SqL.up {K : PySem.W.Frag} {I I' : Hp} {p : Addr} {ws : List V} (hI : ∀ a o, I a = some o → I' a = some o) (x : SqL K I p ws) : SqL K I' p ws := by
  rcases x with (h | ⟨o, h⟩) | h
  · exact .inl (.inl (hI _ _ h))
  · exact .inl (.inr ⟨o, hI _ _ h⟩)
  · exact .inr h
mutual
theorem Rp.trk : ∀ {d : D} {v : V} {f : Ft}, Rp G I H d v f → ∀ a, f a ≠ 0 → I a = none ∧ ∃ o, H a = some o
  | .una, v, f, x, a, ha => absurd (x a) ha
  | .lent, v, f, x, a, ha => absurd (x a) ha
  | .kl _, v, f, x, a, ha => absurd (x.2 a) ha
  | .sc y, v, f, x, a, ha => absurd (x.2 a) ha
  | .nd k ds, v, f, x, a, ha => by
    obtain ⟨p, vs, g, o, rfl, s, y, q⟩ := x
    rcases q with ⟨_, n, e, q⟩ | ⟨_, e, q⟩
    · by_cases hp : a = p
      · subst hp; exact ⟨n, o, e⟩
      · have := q a; rw [one1_ne hp] at this
        exact Rps.trk y a (by omega)
    · exact Rps.trk y a (by have := q a; omega)
theorem Rps.trk : ∀ {ds : List D} {vs : List V} {f : Ft}, Rps G I H ds vs f → ∀ a, f a ≠ 0 → I a = none ∧ ∃ o, H a = some o
  | [], vs, f, x, a, ha => absurd (x.2 a) ha
  | d :: ds, vs, f, x, a, ha => by
    obtain ⟨v, ws, g, h, rfl, y, z, q⟩ := x
    by_cases hg : g a = 0
    · exact Rps.trk z a (by have := q a; omega)
    · exact Rp.trk y a hg
end
mutual
theorem Rp.move (hI : ∀ a o, I a = some o → I' a = some o) : ∀ {d : D} {v : V} {f : Ft}, Rp G I H d v f → (∀ a, f a ≠ 0 → I' a = none ∧ H' a = H a) → Rp G I' H' d v f
  | .una, v, f, x, _ => x
  | .lent, v, f, x, _ => x
  | .kl xs, v, f, x, _ => ⟨let ⟨p, e, q⟩ := x.1; ⟨p, e, SqL.up hI q⟩, x.2⟩
  | .sc y, v, f, x, _ => x
  | .nd k ds, v, f, x, m => by
    obtain ⟨p, vs, g, o, rfl, s, y, q⟩ := x
    have y' : Rps G I' H' ds vs g := Rps.move hI y fun a ha => m a (by rcases q with ⟨_, _, _, q⟩ | ⟨_, _, q⟩ <;> (have := q a; omega))
    refine ⟨p, vs, g, o, rfl, s, y', ?_⟩
    rcases q with ⟨mu, n, e, q⟩ | ⟨mu, e, q⟩
    · have := m p (by rw [q p, one1_self]; omega)
      exact .inl ⟨mu, this.1, this.2.trans e, q⟩
    · exact .inr ⟨mu, hI _ _ e, q⟩
theorem Rps.move (hI : ∀ a o, I a = some o → I' a = some o) : ∀ {ds : List D} {vs : List V} {f : Ft}, Rps G I H ds vs f → (∀ a, f a ≠ 0 → I' a = none ∧ H' a = H a) → Rps G I' H' ds vs f
  | [], vs, f, x, _ => x
  | d :: ds, vs, f, x, m => by
    obtain ⟨v, ws, g, h, rfl, y, z, q⟩ := x
    exact ⟨v, ws, g, h, rfl, Rp.move hI y fun a ha => m a (by have := q a; omega), Rps.move hI z fun a ha => m a (by have := q a; omega), q⟩
end
mutual
theorem Rp.freeze (hI : ∀ a o, I a = some o → I' a = some o) : ∀ {d : D} {v : V} {f : Ft}, Rp G I H d v f → (∀ a, f a ≠ 0 → I' a = H a) → Rp G I' H' (fz d) v z0
  | .una, v, f, x, _ => fun _ => rfl
  | .lent, v, f, x, _ => fun _ => rfl
  | .kl xs, v, f, x, _ => ⟨let ⟨p, e, q⟩ := x.1; ⟨p, e, SqL.up hI q⟩, fun _ => rfl⟩
  | .sc y, v, f, x, _ => ⟨x.1, fun _ => rfl⟩
  | .nd k ds, v, f, x, m => by
    obtain ⟨p, vs, g, o, rfl, s, y, q⟩ := x
    have y' : Rps G I' H' (fzs ds) vs z0 := Rps.freeze hI y fun a ha => m a (by rcases q with ⟨_, _, _, q⟩ | ⟨_, _, q⟩ <;> (have := q a; omega))
    refine ⟨p, vs, z0, o, rfl, Kd.st_fz s, y', .inr ⟨Kd.fz_mut k, ?_, fun _ => rfl⟩⟩
    rcases q with ⟨mu, n, e, q⟩ | ⟨mu, e, q⟩
    · exact (m p (by rw [q p, one1_self]; omega)).trans e
    · exact hI _ _ e
theorem Rps.freeze (hI : ∀ a o, I a = some o → I' a = some o) : ∀ {ds : List D} {vs : List V} {f : Ft}, Rps G I H ds vs f → (∀ a, f a ≠ 0 → I' a = H a) → Rps G I' H' (fzs ds) vs z0
  | [], vs, f, x, _ => ⟨x.1, fun _ => rfl⟩
  | d :: ds, vs, f, x, m => by
    obtain ⟨v, ws, g, h, rfl, y, z, q⟩ := x
    exact ⟨v, ws, z0, z0, rfl, Rp.freeze hI y fun a ha => m a (by have := q a; omega), Rps.freeze hI z fun a ha => m a (by have := q a; omega), fun _ => rfl⟩
end
theorem Rp.zero_of_fz : ∀ {d : D} {v : V} {f : Ft}, Fz d = true → Rp G I H d v f → ∀ a, f a = 0 := by
  intro d v f hf x a
  have : ∀ {d : D}, Fz d = true → ∀ {v f}, Rp G I H d v f → ∀ a, f a = 0 := by
    intro d
    refine D.rec (motive_1 := fun d => Fz d = true → ∀ {v f}, Rp G I H d v f → ∀ a, f a = 0) (motive_2 := fun ds => Fzs ds = true → ∀ {vs f}, Rps G I H ds vs f → ∀ a, f a = 0) ?_ ?_ ?_ ?_ ?_ ?_ ?_ d
    · intro h; cases h
    · intro h; cases h
    · intro v h v' f x a; exact x.2 a
    · intro k ds ih h v f x a
      have h' : (!k.mut && Fzs ds) = true := h
      simp only [Bool.and_eq_true, Bool.not_eq_true'] at h'
      obtain ⟨p, vs, g, o, rfl, s, y, q⟩ := x
      rcases q with ⟨mu, _⟩ | ⟨_, _, q⟩
      · rw [h'.1] at mu; cases mu
      · rw [q a]; exact ih h'.2 y a
    · intro xs h v f x a; exact x.2 a
    · intro h vs f x a; exact x.2 a
    · intro d ds ih1 ih2 h vs f x a
      have h' : (Fz d && Fzs ds) = true := h
      simp only [Bool.and_eq_true] at h'
      obtain ⟨v, ws, g, h, rfl, y, z, q⟩ := x
      have e1 := ih1 h'.1 y a
      have e2 := ih2 h'.2 z a
      have := q a
      omega
  exact this hf x a
theorem Rp.eqv (x : Rp G I H d v f) (e : ∀ a, f a = g a) : Rp G I H d v g := by
  have : f = g := funext e
  exact this ▸ x
theorem Rps.eqv (x : Rps G I H ds vs f) (e : ∀ a, f a = g a) : Rps G I H ds vs g := by
  have : f = g := funext e
  exact this ▸ x
theorem Rp.fz0 (hf : Fz d = true) (x : Rp G I H d v f) : Rp G I H d v z0 := x.eqv (x.zero_of_fz hf)
/-- one of several -/
theorem Rps.get : ∀ {ds : List D} {vs : List V} {f : Ft} {i : Nat} {d : D}, Rps G I H ds vs f → ds[i]? = some d → ∃ v g h, vs[i]? = some v ∧ Rp G I H d v g ∧ (∀ a, f a = g a + h a) ∧
    ∀ {I' H' : Hp} {d' : D} {v' : V} {g' : Ft}, (∀ a o, I a = some o → I' a = some o) → Rp G I' H' d' v' g' → (∀ a, h a ≠ 0 → I' a = none ∧ H' a = H a) → Rps G I' H' (ds.set i d') (vs.set i v') (fadd g' h)
  | [], _, _, _, _, _, e => by simp at e
  | d :: ds, vs, f, 0, d0, x, e => by
    obtain ⟨v, ws, g, h, rfl, y, z, q⟩ := x
    simp at e; subst e
    exact ⟨v, g, h, rfl, y, q, fun hI y' m => ⟨_, ws, _, h, rfl, y', z.move hI m, fun a => rfl⟩⟩
  | d :: ds, vs, f, i + 1, d0, x, e => by
    obtain ⟨v, ws, g, h, rfl, y, z, q⟩ := x
    obtain ⟨v1, g1, h1, e1, y1, q1, k1⟩ := z.get (i := i) (d := d0) (by simpa using e)
    refine ⟨v1, g1, fadd g h1, by simpa using e1, y1, fun a => by have := q a; have := q1 a; simp; omega, fun hI y' m => ?_⟩
    refine ⟨v, _, g, _, rfl, y.move hI fun a ha => m a (by simp; omega), k1 hI y' fun a ha => m a (by simp; omega), fun a => by simp; omega⟩
theorem Rps.app : ∀ {ds es : List D} {vs ws : List V} {f g : Ft}, Rps G I H ds vs f → Rps G I H es ws g → Rps G I H (ds ++ es) (vs ++ ws) (fadd f g)
  | [], es, vs, ws, f, g, x, y => by
    obtain ⟨rfl, q⟩ := x
    exact y.eqv fun a => by simp [q a]
  | d :: ds, es, vs, ws, f, g, x, y => by
    obtain ⟨v, ws', g1, h, rfl, y1, z, q⟩ := x
    exact ⟨v, ws' ++ ws, g1, fadd h g, rfl, y1, z.app y, fun a => by simp [q a]; omega⟩
theorem Rps.split : ∀ {ds es : List D} {vs : List V} {f : Ft}, Rps G I H (ds ++ es) vs f → ∃ v1 v2 g h, vs = v1 ++ v2 ∧ Rps G I H ds v1 g ∧ Rps G I H es v2 h ∧ ∀ a, f a = g a + h a
  | [], es, vs, f, x => ⟨[], vs, z0, f, rfl, ⟨rfl, fun _ => rfl⟩, x, fun a => by simp⟩
  | d :: ds, es, vs, f, x => by
    obtain ⟨v, ws', g1, h, rfl, y1, z, q⟩ := x
    obtain ⟨w1, w2, g2, h2, rfl, z1, z2, q2⟩ := z.split
    exact ⟨v :: w1, w2, fadd g1 g2, h2, rfl, ⟨v, w1, g1, g2, rfl, y1, z1, fun _ => rfl⟩, z2, fun a => by simp [q a, q2 a]; omega⟩
theorem Rps.one (x : Rp G I H d v f) : Rps G I H [d] [v] f := ⟨v, [], f, z0, rfl, x, ⟨rfl, fun _ => rfl⟩, fun a => by simp⟩
theorem Rps.zero_of_fz : ∀ {ds : List D} {vs : List V} {f : Ft}, ds.all Fz = true → Rps G I H ds vs f → ∀ a, f a = 0
  | [], _, _, _, x, a => x.2 a
  | d :: ds, vs, f, hf, x, a => by
    obtain ⟨v, ws, g, h, rfl, y, z, q⟩ := x
    simp only [List.all_cons, Bool.and_eq_true] at hf
    rw [q a, y.zero_of_fz hf.1 a, z.zero_of_fz hf.2 a]
end
end DL

end
section
set_option maxRecDepth 100000
/-! DL, part 2: the state, frames, places, operands. -/
namespace DL
open PySem L2

/-! ### places in trees -/
def getP : List D → Nat → List Nat → Option D
  | ds, i, [] => ds[i]?
  | ds, i, j :: p => match ds[i]? with
    | some (.nd _ es) => getP es j p
    | _ => none
def setP : List D → Nat → List Nat → D → List D
  | ds, i, [], d => ds.set i d
  | ds, i, j :: p, d => match ds[i]? with
    | some (.nd k es) => ds.set i (.nd k (setP es j p d))
    | _ => ds
def Loc (G : Gm) (I H : Hp) : List D → List V → Nat → List Nat → V → Prop
  | ds, vs, i, [], v => vs[i]? = some v
  | ds, vs, i, j :: p, v => ∃ k es q ws o, ds[i]? = some (.nd k es) ∧ vs[i]? = some (.ref q) ∧ k.st G ws o ∧ ((k.mut = true ∧ H q = some o) ∨ (k.mut = false ∧ I q = some o)) ∧ Loc G I H es ws j p v
theorem zip_inj {α β : Type} : ∀ {ks : List α} {xs ys : List β}, ks.length = xs.length → ks.length = ys.length → ks.zip xs = ks.zip ys → xs = ys
  | [], [], [], _, _, _ => rfl
  | [], _ :: _, _, h, _, _ => by simp at h
  | [], [], _ :: _, _, h, _ => by simp at h
  | _ :: _, [], _, h, _, _ => by simp at h
  | _ :: _, _ :: _, [], _, h, _ => by simp at h
  | k :: ks, x :: xs, y :: ys, h1, h2, e => by
    simp only [List.zip_cons_cons, List.cons.injEq, Prod.mk.injEq, true_and] at e
    rw [e.1, zip_inj (by simpa using h1) (by simpa using h2) e.2]
theorem Kd.st_inj {G : Gm} {k : Kd} {vs ws : List V} {o : HO} (a : k.st G vs o) (b : k.st G ws o) : vs = ws := by
  cases k with
  | tup => have e := a.symm.trans b; cases e; rfl
  | lst m => have e := a.symm.trans b; cases e; rfl
  | dik m ks =>
    have e := a.2.symm.trans b.2
    injection e with e
    exact zip_inj a.1 b.1 e
  | dit m ks =>
    have e := a.2.symm.trans b.2
    injection e with e
    exact zip_inj a.1 b.1 e
  | obj m c ns =>
    obtain ⟨l1, dx, e1⟩ := a
    obtain ⟨l2, dy, e2⟩ := b
    have e := e1.symm.trans e2
    injection e with _ _ e
    exact zip_inj l1 l2 e

section
variable {G : Gm} {I I' H H' : Hp}
theorem Loc.inj : ∀ {p : List Nat} {ds : List D} {vs : List V} {i : Nat} {v w : V}, Loc G I H ds vs i p v → Loc G I H ds vs i p w → v = w
  | [], ds, vs, i, v, w, a, b => Option.some.inj (a.symm.trans b)
  | j :: p, ds, vs, i, v, w, a, b => by
    obtain ⟨k, es, q, ws, o, e1, e2, s, c, l⟩ := a
    obtain ⟨k', es', q', ws', o', e1', e2', s', c', l'⟩ := b
    have e := e1.symm.trans e1'; cases e
    have e := e2.symm.trans e2'; cases e
    have eo : o = o' := by
      rcases c with ⟨m, c⟩ | ⟨m, c⟩ <;> rcases c' with ⟨m', c'⟩ | ⟨m', c'⟩
      · exact Option.some.inj (c.symm.trans c')
      · rw [m] at m'; cases m'
      · rw [m] at m'; cases m'
      · exact Option.some.inj (c.symm.trans c')
    subst eo
    have ew := Kd.st_inj s s'
    subst ew
    exact l.inj l'
theorem Loc.keep (hI : ∀ a o, I a = some o → I' a = some o) (hH : ∀ a o, H a = some o → H' a = some o) : ∀ {p : List Nat} {ds : List D} {vs : List V} {i : Nat} {v : V}, Loc G I H ds vs i p v → Loc G I' H' ds vs i p v
  | [], ds, vs, i, v, a => a
  | j :: p, ds, vs, i, v, a => by
    obtain ⟨k, es, q, ws, o, e1, e2, s, c, l⟩ := a
    exact ⟨k, es, q, ws, o, e1, e2, s, c.imp (fun x => ⟨x.1, hH _ _ x.2⟩) (fun x => ⟨x.1, hI _ _ x.2⟩), l.keep hI hH⟩
theorem Rps.focus : ∀ {p : List Nat} {ds : List D} {vs : List V} {f : Ft} {i : Nat} {d : D}, Rps G I H ds vs f → getP ds i p = some d → ∃ v g h, Loc G I H ds vs i p v ∧ Rp G I H d v g ∧ (∀ a, f a = g a + h a) ∧
    ∀ {I' H' : Hp} {d' : D} {g' : Ft}, (∀ a o, I a = some o → I' a = some o) → Rp G I' H' d' v g' → (∀ a, h a ≠ 0 → I' a = none ∧ H' a = H a) → Rps G I' H' (setP ds i p d') vs (fadd g' h)
  | [], ds, vs, f, i, d, x, e => by
    obtain ⟨v, g, h, e1, y, q, k⟩ := x.get e
    refine ⟨v, g, h, e1, y, q, fun hI y' m => ?_⟩
    have := k hI y' m
    have ev : vs.set i v = vs := by
      obtain ⟨hl, e2⟩ := List.getElem?_eq_some_iff.mp e1
      rw [← e2, List.set_getElem_self]
    rw [ev] at this
    exact this
  | j :: p, ds, vs, f, i, d, x, e => by
    unfold getP at e
    split at e
    · rename_i k es e0
      obtain ⟨v0, g0, h0, e1, y, q, kk⟩ := x.get e0
      obtain ⟨pa, ws, g1, o, rfl, s, z, c⟩ := id y
      obtain ⟨v, g, h, l, y1, q1, k1⟩ := z.focus e
      have ev : ∀ {w : V}, vs[i]? = some w → vs.set i w = vs := fun {w} e1 => by
        obtain ⟨hl, e2⟩ := List.getElem?_eq_some_iff.mp e1
        rw [← e2, List.set_getElem_self]
      rcases c with ⟨mu, n, eH, c⟩ | ⟨mu, eI, c⟩
      · refine ⟨v, g, fadd (fadd h (one1 pa)) h0, ⟨k, es, pa, ws, o, e0, e1, s, .inl ⟨mu, eH⟩, l⟩, y1, fun a => by have := q a; have := q1 a; have := c a; simp; omega, fun {I' H' d' g'} hI y' m => ?_⟩
        have hp := m pa (by simp [one1_self])
        have z' := k1 hI y' fun a ha => m a (by simp; omega)
        have y2 : Rp G I' H' (.nd k (setP es j p d')) (.ref pa) (fadd (fadd g' h) (one1 pa)) := ⟨pa, ws, _, o, rfl, s, z', .inl ⟨mu, hp.1, hp.2.trans eH, fun a => rfl⟩⟩
        have r := kk hI y2 fun a ha => m a (by simp; omega)
        rw [ev e1] at r
        unfold setP
        rw [e0]
        exact r.eqv fun a => by simp; omega
      · refine ⟨v, g, fadd h h0, ⟨k, es, pa, ws, o, e0, e1, s, .inr ⟨mu, eI⟩, l⟩, y1, fun a => by have := q a; have := q1 a; have := c a; simp; omega, fun {I' H' d' g'} hI y' m => ?_⟩
        have z' := k1 hI y' fun a ha => m a (by simp; omega)
        have y2 : Rp G I' H' (.nd k (setP es j p d')) (.ref pa) (fadd g' h) := ⟨pa, ws, _, o, rfl, s, z', .inr ⟨mu, hI _ _ eI, fun a => rfl⟩⟩
        have r := kk hI y2 fun a ha => m a (by simp; omega)
        rw [ev e1] at r
        unfold setP
        rw [e0]
        exact r.eqv fun a => by simp; omega
    · cases e
end

/-! ### results -/
inductive R (α : Type) where
  | ok (a : α)
  | exc (c : Nat) (fs : List (Str × V)) (E : List D)
  | bad
def R.bind {α β : Type} : R α → (α → R β) → R β
  | .ok a, k => k a
  | .exc c fs E, _ => .exc c fs E
  | .bad, _ => .bad

/-! ### the state -/
def Sl (E : List D) (σ : St) (vs : List V) : Prop := σ.length = E.length ∧ ∀ (i : Nat) (d : D) (v : V), E[i]? = some d → d ≠ .una → vs[i]? = some v → σ[i]? = some (some v)
structure Stt (G : Gm) (σ : St) (I H : Hp) (E : List D) (vs : List V) (f : Ft) : Prop where
  sl : Sl E σ vs
  sm : ∀ a o, I a = some o → H a = some o
  rp : Rps G I H E vs f
  nd : ∀ a, f a ≤ 1
structure Fr (pu : Bool) (I H : Hp) (f : Ft) (I' H' : Hp) (f' : Ft) : Prop where
  im : ∀ a o, I a = some o → I' a = some o
  kp : ∀ a o, H a = some o → f a = 0 → H' a = some o
  un : ∀ a o, H a = some o → f a = 0 → I a = none → I' a = none
  nw : ∀ a, f' a ≠ 0 → f a ≠ 0 ∨ H a = none
  pu : pu = true → ∀ a o, H a = some o → H' a = some o ∧ (I a = none → I' a = none)
theorem Fr.refl {pu : Bool} {I H : Hp} {f : Ft} : Fr pu I H f I H f := ⟨fun _ _ e => e, fun _ _ e _ => e, fun _ _ _ _ e => e, fun _ h => .inl h, fun _ _ _ e => ⟨e, fun z => z⟩⟩
theorem Fr.trans {p1 p2 : Bool} {I H I1 H1 I2 H2 : Hp} {f f1 f2 : Ft} (a : Fr p1 I H f I1 H1 f1) (b : Fr p2 I1 H1 f1 I2 H2 f2) : Fr (p1 && p2) I H f I2 H2 f2 where
  im := fun x o e => b.im x o (a.im x o e)
  kp := fun x o e z => b.kp x o (a.kp x o e z) (by
    cases Nat.eq_zero_or_pos (f1 x) with
    | inl q => exact q
    | inr q => rcases a.nw x (by omega) with r | r; exact absurd z r; rw [e] at r; cases r)
  un := fun x o e z n => b.un x o (a.kp x o e z) (by
    cases Nat.eq_zero_or_pos (f1 x) with
    | inl q => exact q
    | inr q => rcases a.nw x (by omega) with r | r; exact absurd z r; rw [e] at r; cases r) (a.un x o e z n)
  nw := fun x h => by
    rcases b.nw x h with r | r
    · exact a.nw x r
    · by_cases q : f x = 0
      · right
        cases e : H x with
        | none => rfl
        | some o => rw [a.kp x o e q] at r; cases r
      · exact .inl q
  pu := fun h x o e => by
    simp only [Bool.and_eq_true] at h
    have r := a.pu h.1 x o e
    have s := b.pu h.2 x o r.1
    exact ⟨s.1, fun n => s.2 (r.2 n)⟩
theorem Fr.imp {p1 p2 : Bool} {I H I1 H1 : Hp} {f f1 : Ft} (a : Fr p1 I H f I1 H1 f1) (h : p2 = true → p1 = true) : Fr p2 I H f I1 H1 f1 := ⟨a.im, a.kp, a.un, a.nw, fun q => a.pu (h q)⟩
theorem Fr.less {p : Bool} {I H I1 H1 : Hp} {f f1 f2 : Ft} (a : Fr p I H f I1 H1 f1) (h : ∀ x, f2 x ≠ 0 → f1 x ≠ 0) : Fr p I H f I1 H1 f2 := ⟨a.im, a.kp, a.un, fun x q => a.nw x (h x q), a.pu⟩
/-- what lies beside is kept -/
theorem Fr.side {p : Bool} {G : Gm} {I H I1 H1 : Hp} {f f1 g : Ft} {ds : List D} {vs : List V} (a : Fr p I H f I1 H1 f1) (x : Rps G I H ds vs g) (d : ∀ x, f x + g x ≤ 1) : Rps G I1 H1 ds vs g :=
  x.move a.im fun x' h => by
    obtain ⟨n, o, e⟩ := x.trk x' h
    have z : f x' = 0 := by have := d x'; omega
    exact ⟨a.un _ _ e z n, (a.kp _ _ e z).trans e.symm⟩
theorem Fr.side1 {p : Bool} {G : Gm} {I H I1 H1 : Hp} {f f1 g : Ft} {d : D} {v : V} (a : Fr p I H f I1 H1 f1) (x : Rp G I H d v g) (nd : ∀ x, f x + g x ≤ 1) : Rp G I1 H1 d v g :=
  x.move a.im fun x' h => by
    obtain ⟨n, o, e⟩ := x.trk x' h
    have z : f x' = 0 := by have := nd x'; omega
    exact ⟨a.un _ _ e z n, (a.kp _ _ e z).trans e.symm⟩
theorem Fr.apart {p : Bool} {I H I1 H1 : Hp} {f f1 g : Ft} (a : Fr p I H f I1 H1 f1) (t : ∀ x, g x ≠ 0 → H x ≠ none) (d : ∀ x, f x + g x ≤ 1) (n1 : ∀ x, f1 x ≤ 1) : ∀ x, f1 x + g x ≤ 1 := fun x => by
  by_cases q : f1 x = 0
  · have := d x; omega
  · by_cases r : g x = 0
    · have := n1 x; omega
    · rcases a.nw x q with s | s
      · have := d x; omega
      · exact absurd s (t x r)
/-- with something beside, as one -/
theorem Fr.with {p : Bool} {I H I1 H1 : Hp} {f f1 g : Ft} (a : Fr p I H f I1 H1 f1) : Fr p I H (fadd f g) I1 H1 (fadd f1 g) :=
  ⟨a.im, fun x o e z => a.kp x o e (by simp at z; omega), fun x o e z => a.un x o e (by simp at z; omega), fun x h => by
    simp at h
    by_cases q : f1 x = 0
    · left; simp; omega
    · rcases a.nw x q with r | r
      · left; simp; omega
      · exact .inr r, a.pu⟩
/-- new objects alone -/
structure Nw (I H I' H' : Hp) : Prop where
  im : ∀ a o, I a = some o → I' a = some o
  kp : ∀ a o, H a = some o → H' a = some o
  un : ∀ a o, H a = some o → I a = none → I' a = none
  sm : ∀ a o, I' a = some o → H' a = some o
theorem Nw.refl {I H : Hp} (s : ∀ a o, I a = some o → H a = some o) : Nw I H I H := ⟨fun _ _ e => e, fun _ _ e => e, fun _ _ _ e => e, s⟩
theorem Nw.mutP {I H : Hp} {p : Addr} {o : HO} (s : ∀ a o, I a = some o → H a = some o) (n : H p = none) : Nw I H I (upd H p o) :=
  ⟨fun _ _ e => e, fun a u e => by rw [upd_ne (ne_of_none e n)]; exact e, fun _ _ _ e => e, fun a u e => by rw [upd_ne (ne_of_none (s _ _ e) n)]; exact s _ _ e⟩
theorem Nw.fixP {I H : Hp} {p : Addr} {o : HO} (s : ∀ a o, I a = some o → H a = some o) (n : H p = none) : Nw I H (upd I p o) (upd H p o) :=
  ⟨fun a u e => by rw [upd_ne (ne_of_none (s _ _ e) n)]; exact e, fun a u e => by rw [upd_ne (ne_of_none e n)]; exact e, fun a u e z => by rw [upd_ne (ne_of_none e n)]; exact z, fun a u e => by
    by_cases q : a = p
    · subst q; rw [upd_same] at e ⊢; exact e
    · rw [upd_ne q] at e ⊢; exact s _ _ e⟩
theorem Nw.fr {I H I' H' : Hp} {f g : Ft} (n : Nw I H I' H') (h : ∀ a, g a ≠ 0 → f a ≠ 0 ∨ H a = none) {pu : Bool} : Fr pu I H f I' H' g :=
  ⟨n.im, fun a o e _ => n.kp a o e, fun a o e _ => n.un a o e, h, fun _ a o e => ⟨n.kp a o e, n.un a o e⟩⟩
theorem Nw.trans {I H I1 H1 I2 H2 : Hp} (a : Nw I H I1 H1) (b : Nw I1 H1 I2 H2) : Nw I H I2 H2 :=
  ⟨fun x o e => b.im x o (a.im x o e), fun x o e => b.kp x o (a.kp x o e), fun x o e n => b.un x o (a.kp x o e) (a.un x o e n), b.sm⟩
theorem Nw.rps {G : Gm} {I H I1 H1 : Hp} {g : Ft} {ds : List D} {vs : List V} (a : Nw I H I1 H1) (x : Rps G I H ds vs g) : Rps G I1 H1 ds vs g :=
  x.move a.im fun x' h => by obtain ⟨n, o, e⟩ := x.trk x' h; exact ⟨a.un _ _ e n, (a.kp _ _ e).trans e.symm⟩
theorem Nw.rp {G : Gm} {I H I1 H1 : Hp} {g : Ft} {d : D} {v : V} (a : Nw I H I1 H1) (x : Rp G I H d v g) : Rp G I1 H1 d v g :=
  x.move a.im fun x' h => by obtain ⟨n, o, e⟩ := x.trk x' h; exact ⟨a.un _ _ e n, (a.kp _ _ e).trans e.symm⟩
theorem Stt.nw {G : Gm} {σ : St} {I H I' H' : Hp} {E : List D} {vs : List V} {f : Ft} (s : Stt G σ I H E vs f) (n : Nw I H I' H') : Stt G σ I' H' E vs f := ⟨s.sl, n.sm, n.rps s.rp, s.nd⟩

/-! ### operands -/
inductive Opd where
  | val (d : D)
  | plc (i : Nat) (p : List Nat)
def OpRel (G : Gm) (I H : Hp) (E : List D) (vs : List V) : Opd → V → Ft → Prop
  | .val d, v, g => Rp G I H d v g
  | .plc i p, v, g => Loc G I H E vs i p v ∧ ∀ a, g a = 0
def OpsRel (G : Gm) (I H : Hp) (E : List D) (vs : List V) : List Opd → List V → Ft → Prop
  | [], ws, g => ws = [] ∧ ∀ a, g a = 0
  | o :: os, ws, g => ∃ v vr g1 g2, ws = v :: vr ∧ OpRel G I H E vs o v g1 ∧ OpsRel G I H E vs os vr g2 ∧ ∀ a, g a = g1 a + g2 a
/-- the content -/
def cont (E : List D) : Opd → Option D
  | .val d => some d
  | .plc i p => getP E i p
def conts (E : List D) : List Opd → Option (List D)
  | [] => some []
  | o :: os => match cont E o, conts E os with
    | some d, some ds => some (d :: ds)
    | _, _ => none
def stab (pu : Bool) : Opd → Bool
  | .val _ => true
  | .plc _ [] => true
  | .plc _ _ => pu
section
variable {G : Gm} {σ : St} {I H I1 H1 : Hp} {E E1 : List D} {vs : List V} {f f1 g : Ft} {o : Opd} {v : V} {pu : Bool}
theorem OpRel.trk (x : OpRel G I H E vs o v g) : ∀ a, g a ≠ 0 → H a ≠ none := fun a h => by
  cases o with
  | val d => obtain ⟨_, u, e⟩ := Rp.trk x a h; rw [e]; simp
  | plc i p => exact absurd (x.2 a) h
theorem OpRel.keep (x : OpRel G I H E vs o v g) (st : stab pu o = true) (a : Fr pu I H f I1 H1 f1) (d : ∀ x, f x + g x ≤ 1) (e : pu = true → E1 = E) : OpRel G I1 H1 E1 vs o v g := by
  cases o with
  | val d0 => exact a.side1 x d
  | plc i p =>
    cases p with
    | nil => exact x
    | cons j p =>
      have hp : pu = true := st
      refine ⟨?_, x.2⟩
      rw [e hp]
      exact x.1.keep a.im fun a' o' e' => (a.pu hp a' o' e').1
/-- the content of an operand stands at its value -/
theorem OpRel.cont (s : Stt G σ I H E vs f) (x : OpRel G I H E vs o v g) (n : ∀ a, g a ≤ 1) {d : D} (e : cont E o = some d) : ∃ g', Rp G I H d v g' ∧ ∀ a, g' a ≤ 1 := by
  cases o with
  | val d0 => cases e; exact ⟨g, x, n⟩
  | plc i p =>
    obtain ⟨w, g1, h, l, y, q, _⟩ := s.rp.focus (show getP E i p = some d from e)
    have ew := l.inj x.1
    subst ew
    exact ⟨g1, y, fun a => by have := q a; have := s.nd a; omega⟩
end
/-- contents, each for itself -/
def Rpi (G : Gm) (I H : Hp) : List D → List V → Prop
  | [], vs => vs = []
  | d :: ds, vs => ∃ v ws g, vs = v :: ws ∧ Rp G I H d v g ∧ (∀ a, g a ≤ 1) ∧ Rpi G I H ds ws
theorem OpsRel.conts {G : Gm} {σ : St} {I H : Hp} {E : List D} {vs : List V} {f : Ft} (s : Stt G σ I H E vs f) : ∀ {os : List Opd} {ws : List V} {g : Ft}, OpsRel G I H E vs os ws g → (∀ a, g a ≤ 1) → ∀ {ds : List D}, conts E os = some ds → Rpi G I H ds ws
  | [], ws, g, x, n, ds, e => by cases e; exact x.1
  | o :: os, ws, g, x, n, ds, e => by
    obtain ⟨v, vr, g1, g2, rfl, y, z, q⟩ := x
    unfold DL.conts at e
    split at e
    · rename_i d ds' e1 e2
      cases e
      obtain ⟨g', r, n'⟩ := OpRel.cont s y (fun a => by have := n a; have := q a; omega) e1
      exact ⟨v, vr, g', rfl, r, n', z.conts s (fun a => by have := n a; have := q a; omega) e2⟩
    · cases e
end DL

end
section
set_option maxRecDepth 100000
/-! DL, part 3: readings of expressions over trees. -/
namespace DL
open PySem L2

def ExcAt (G : Gm) (H : Hp) (cls : Value) (d : Option Addr) (c : Nat) (fs : List (Str × V)) : Prop := cls = .ref (G.cls c) ∧ ((fs = [] ∧ d = none) ∨ (fs ≠ [] ∧ ∃ a, d = some a ∧ H a = some (.xd fs)))
def Ans (G : Gm) (W : WX) (σ : St) (I H : Hp) (f : Ft) (vs : List V) {α : Type} : R α → (α → Prop) → Prop
  | .ok a, k => k a
  | .exc c fs E', _ => ∀ cls d I' H' f', Stt G σ I' H' E' vs f' → ExcAt G H' cls d c fs → Fr false I H f I' H' f' → W cls d σ H'
  | .bad, _ => False
abbrev Den := List D → R (Opd × List D)
abbrev DenA := List D → R (List Opd × List D)
def tO (G : Gm) (W : WX) (pu : Bool) (den : Den) : TE := fun σ H Q => ∃ I E vs f, Stt G σ I H E vs f ∧ Ans G W σ I H f vs (den E) fun r =>
  ∀ v I' H' f' g, Stt G σ I' H' r.2 vs f' → OpRel G I' H' r.2 vs r.1 v g → (∀ a, f' a + g a ≤ 1) → Fr pu I H f I' H' (fadd f' g) → (pu = true → r.2 = E) → Q v H'
def tA (G : Gm) (W : WX) (pu : Bool) (den : DenA) : TA := fun σ H Q => ∃ I E vs f, Stt G σ I H E vs f ∧ Ans G W σ I H f vs (den E) fun r =>
  ∀ ws I' H' f' g, Stt G σ I' H' r.2 vs f' → OpsRel G I' H' r.2 vs r.1 ws g → (∀ a, f' a + g a ≤ 1) → Fr pu I H f I' H' (fadd f' g) → (pu = true → r.2 = E) → Q ws H'
theorem PE_imp {X : Cx} {e : Expr} {t t' : TE} (h : PE X e t) (k : ∀ σ H Q, t' σ H Q → t σ H Q) : PE X e t' := ⟨fun pins s σ H Q I q => h.run pins s σ H Q I (k σ H Q q)⟩
theorem PA_imp {X : Cx} {e : List Expr} {t t' : TA} (h : PA X e t) (k : ∀ σ H Q, t' σ H Q → t σ H Q) : PA X e t' := ⟨fun pos pins s σ H Q I q => h.run pos pins s σ H Q I (k σ H Q q)⟩
theorem PT_imp {X : Cx} {e : Expr} {t t' : TT} (h : PT X e t) (k : ∀ σ H Q, t' σ H Q → t σ H Q) : PT X e t' := ⟨fun pins s σ H Q I q => h.run pins s σ H Q I (k σ H Q q)⟩
theorem PW_imp {X : Cx} {e : Expr} {t t' : TT} (h : PW X e t) (k : ∀ σ H Q, t' σ H Q → t σ H Q) : PW X e t' := ⟨fun wh pins s σ H Q I q => h.run wh pins s σ H Q I (k σ H Q q)⟩
theorem PS_imp {X : Cx} {e : Stmt} {t t' : TS} (h : PS X e t) (k : ∀ D σ H, t' D σ H → t D σ H) : PS X e t' := ⟨fun pins s σ H D I q => h.run pins s σ H D I (k D σ H q)⟩
theorem PSs_imp {X : Cx} {e : List Stmt} {t t' : TS} (h : PSs X e t) (k : ∀ D σ H, t' D σ H → t D σ H) : PSs X e t' := ⟨fun pins s σ H D I q => h.run pins s σ H D I (k D σ H q)⟩

section
variable {G : Gm} {W : WX} {σ : St} {I H : Hp} {f : Ft} {vs : List V} {α β : Type}
theorem Ans.imp {r : R α} {k k' : α → Prop} (h : Ans G W σ I H f vs r k) (i : ∀ a, r = .ok a → k a → k' a) : Ans G W σ I H f vs r k' := by
  cases r with
  | ok a => exact i a rfl h
  | exc c fs E => exact h
  | bad => exact h
/-- two steps, one behind the other: the first as it is wanted alone -/
theorem Ans.fst {r : R α} {c : α → R β} {k : β → Prop} {k1 : α → Prop} (h : Ans G W σ I H f vs (r.bind c) k) (i : ∀ a, r = .ok a → Ans G W σ I H f vs (c a) k → k1 a) : Ans G W σ I H f vs r k1 := by
  cases r with
  | ok a => exact i a rfl h
  | exc _ _ _ => exact h
  | bad => exact h
/-- the frame moved on -/
theorem Ans.fwd {pu : Bool} {I1 H1 : Hp} {f1 : Ft} {r : R α} {k : α → Prop} (h : Ans G W σ I H f vs r k) (a : Fr pu I H f I1 H1 f1) : Ans G W σ I1 H1 f1 vs r k := by
  cases r with
  | ok a => exact h
  | exc c fs E => exact fun cls d I' H' f' s x b => h cls d I' H' f' s x ((a.trans b).imp fun z => by cases z)
  | bad => exact h
end

/-! ### names, constants -/
def rName (i : Nat) : Den := fun E => match E[i]? with
  | some .una => .bad
  | some _ => .ok (.plc i [], E)
  | none => .bad
def rC (v : V) : Den := fun E => .ok (.val (.sc v), E)
section
variable {G : Gm} {W : WX} {pu : Bool}
theorem t_name {i : Nat} : ∀ σ H Q, tO G W true (rName i) σ H Q → tVar i σ H Q := by
  rintro σ H Q ⟨I, E, vs, f, s, h⟩
  unfold rName at h
  split at h
  · exact h.elim
  · rename_i d hd e
    have hl : i < E.length := (List.getElem?_eq_some_iff.mp e).1
    have hv : i < vs.length := by rw [s.rp.len]; exact hl
    have ev : vs[i]? = some vs[i] := List.getElem?_eq_getElem hv
    refine ⟨vs[i], s.sl.2 i _ _ e (by rintro rfl; exact hd rfl) ev, ?_⟩
    exact h vs[i] I H f z0 s ⟨ev, fun _ => rfl⟩ (fun a => by simp; exact s.nd a) (Fr.refl.less fun x q => by simpa using q) fun _ => rfl
  · exact h.elim
theorem t_c {v : V} : ∀ σ H Q, tO G W true (rC v) σ H Q → tC v σ H Q := by
  rintro σ H Q ⟨I, E, vs, f, s, h⟩
  exact h v I H f z0 s ⟨rfl, fun _ => rfl⟩ (fun a => by simp; exact s.nd a) (Fr.refl.less fun x q => by simpa using q) fun _ => rfl
end

/-! ### reading as a value -/
/-- a value, or a copy of what is frozen -/
def dCopy (d : Den) : Den := fun E => (d E).bind fun r => match r.1 with
  | .val c => .ok (.val c, r.2)
  | .plc i p => match getP r.2 i p with
    | some c => if Fz c then .ok (.val c, r.2) else .bad
    | none => .bad
/-- a value, or what stands there, frozen from then on -/
def dFrz (d : Den) : Den := fun E => (d E).bind fun r => match r.1 with
  | .val c => .ok (.val c, r.2)
  | .plc i p => match getP r.2 i p with
    | some c => if Fz c then .ok (.val c, r.2) else .ok (.val (fz c), setP r.2 i p (fz c))
    | none => .bad
/-- out of a name that is not read again -/
def dMove (i : Nat) : Den := fun E => match E[i]? with
  | some .una => .bad
  | some c => .ok (.val c, E.set i .una)
  | none => .bad
/-- all frozen -/
def dCold (d : Den) : Den := fun E => (d E).bind fun r => match r.1 with
  | .val c => .ok (.val (fz c), r.2)
  | .plc i p => .ok (.plc i p, r.2)
section
variable {G : Gm} {W : WX} {pu : Bool} {d : Den}
/-- what stands at a place -/
theorem Stt.at {σ : St} {I H : Hp} {E : List D} {vs : List V} {f : Ft} {i : Nat} {p : List Nat} {v : V} {c : D} (s : Stt G σ I H E vs f) (l : Loc G I H E vs i p v) (e : getP E i p = some c) :
    ∃ g h, Rp G I H c v g ∧ (∀ a, f a = g a + h a) ∧ ∀ {I' H' : Hp} {d' : D} {g' : Ft}, (∀ a o, I a = some o → I' a = some o) → Rp G I' H' d' v g' → (∀ a, h a ≠ 0 → I' a = none ∧ H' a = H a) → Rps G I' H' (setP E i p d') vs (fadd g' h) := by
  obtain ⟨w, g, h, l', y, q, k⟩ := s.rp.focus e
  have ew := l'.inj l
  subst ew
  exact ⟨g, h, y, q, k⟩
theorem t_copy : ∀ σ H Q, tO G W pu (dCopy d) σ H Q → tO G W pu d σ H Q := by
  rintro σ H Q ⟨I, E, vs, f, s, h⟩
  refine ⟨I, E, vs, f, s, h.fst fun r er h => ?_⟩
  intro v I' H' f' g s' o n a e
  obtain ⟨op, E'⟩ := r
  cases op with
  | val c => exact h v I' H' f' g s' o n a e
  | plc i p =>
    dsimp only at h
    split at h
    · rename_i c ec
      split at h
      · rename_i hf
        obtain ⟨g1, h1, y, q, k⟩ := s'.at o.1 ec
        exact h v I' H' f' g s' ((y.fz0 hf).eqv fun a => (o.2 a).symm) n a e
      · exact h.elim
    · exact h.elim
theorem setP_len : ∀ {p : List Nat} {E : List D} {i : Nat} {c : D}, (setP E i p c).length = E.length
  | [], E, i, c => by simp [setP]
  | j :: p, E, i, c => by
    unfold setP
    split <;> simp
theorem getP_root : ∀ {p : List Nat} {E : List D} {i : Nat} {c : D}, getP E i p = some c → c ≠ .una → ∃ d, E[i]? = some d ∧ d ≠ .una
  | [], E, i, c, e, n => ⟨c, e, n⟩
  | j :: p, E, i, c, e, n => by
    unfold getP at e
    split at e
    · rename_i k es e0
      exact ⟨_, e0, by simp⟩
    · cases e
theorem setP_root : ∀ {p : List Nat} {E : List D} {i j : Nat} {c d : D}, (setP E i p c)[j]? = some d → d ≠ .una → (∃ d0, E[j]? = some d0 ∧ d0 ≠ .una) ∨ (j = i ∧ p = [])
  | [], E, i, j, c, d, e, n => by
    unfold setP at e
    by_cases h : i = j
    · subst h; exact .inr ⟨rfl, rfl⟩
    · rw [List.getElem?_set_ne h] at e
      exact .inl ⟨d, e, n⟩
  | k :: p, E, i, j, c, d, e, n => by
    unfold setP at e
    split at e
    · rename_i k es e0
      by_cases h : i = j
      · subst h; exact .inl ⟨_, e0, by simp⟩
      · rw [List.getElem?_set_ne h] at e
        exact .inl ⟨d, e, n⟩
    · exact .inl ⟨d, e, n⟩
theorem Sl.setP {σ : St} {E : List D} {vs : List V} {i : Nat} {p : List Nat} {c c' : D} (s : Sl E σ vs) (e : getP E i p = some c) (n : c' ≠ .una → c ≠ .una) : Sl (setP E i p c') σ vs := by
  refine ⟨s.1.trans setP_len.symm, fun j d v e1 n1 e2 => ?_⟩
  rcases setP_root e1 n1 with ⟨d0, e0, n0⟩ | ⟨rfl, rfl⟩
  · exact s.2 j d0 v e0 n0 e2
  · unfold DL.setP at e1
    have hl : j < E.length := (List.getElem?_eq_some_iff.mp (show E[j]? = some c from e)).1
    rw [List.getElem?_set_self hl] at e1
    cases e1
    exact s.2 j c v e (n n1) e2
theorem fz_una {c : D} (h : fz c ≠ .una) : c ≠ .una := by rintro rfl; exact h rfl
/-- a place frozen -/
theorem Stt.freeze {σ : St} {I H : Hp} {E : List D} {vs : List V} {f : Ft} {i : Nat} {p : List Nat} {v : V} {c : D} (s : Stt G σ I H E vs f) (l : Loc G I H E vs i p v) (e : getP E i p = some c) :
    ∃ I' f', Stt G σ I' H (setP E i p (fz c)) vs f' ∧ Rp G I' H (fz c) v z0 ∧ (∀ a, f' a ≤ f a) ∧ Fr false I H f I' H f' := by
  obtain ⟨g, h, y, q, k⟩ := s.at l e
  have im : ∀ a o, I a = some o → (fun a => if g a ≠ 0 then H a else I a) a = some o := fun a o e => by
    by_cases z : g a ≠ 0
    · obtain ⟨n, _⟩ := y.trk a z
      rw [n] at e; cases e
    · simp only [z, if_false]; exact e
  have fr : Rp G (fun a => if g a ≠ 0 then H a else I a) H (fz c) v z0 := y.freeze im fun a z => by simp [z]
  refine ⟨fun a => if g a ≠ 0 then H a else I a, fadd z0 h, ⟨s.sl.setP e fz_una, fun a o e => ?_, k im fr fun a z => ?_, fun a => ?_⟩, fr, fun a => ?_, ?_⟩
  · by_cases z : g a ≠ 0
    · rw [if_pos z] at e; exact e
    · rw [if_neg z] at e; exact s.sm a o e
  · have : g a = 0 := by have := q a; have := s.nd a; omega
    have t := s.rp.trk a (by have := q a; omega)
    refine ⟨?_, rfl⟩
    simp [this, t.1]
  · have := q a; have := s.nd a; simp; omega
  · have := q a; simp; omega
  · refine ⟨im, fun a o e _ => e, fun a o e z n => ?_, fun a z => .inl ?_, fun z => by cases z⟩
    · have : g a = 0 := by have := q a; omega
      simp [this, n]
    · have := q a; simp at z; omega
theorem t_frz : ∀ σ H Q, tO G W false (dFrz d) σ H Q → tO G W pu d σ H Q := by
  rintro σ H Q ⟨I, E, vs, f, s, h⟩
  refine ⟨I, E, vs, f, s, h.fst fun r er h => ?_⟩
  intro v I' H' f' g s' o n a e
  obtain ⟨op, E'⟩ := r
  cases op with
  | val c => exact h v I' H' f' g s' o n (a.imp fun z => by cases z) (fun z => by cases z)
  | plc i p =>
    dsimp only at h
    split at h
    · rename_i c ec
      split at h
      · rename_i hf
        obtain ⟨g1, h1, y, q, k⟩ := s'.at o.1 ec
        exact h v I' H' f' g s' ((y.fz0 hf).eqv fun a => (o.2 a).symm) n (a.imp fun z => by cases z) (fun z => by cases z)
      · obtain ⟨I2, f2, s2, y2, le, b⟩ := s'.freeze o.1 ec
        refine h v I2 H' f2 z0 s2 y2 (fun a => by simp; exact s2.nd a) ?_ (fun z => by cases z)
        refine ((a.less (f2 := f') fun x z => by simp; omega).trans b).less (fun x z => by simpa using z) |>.imp fun z => by cases z
    · exact h.elim
theorem t_move {i : Nat} : ∀ σ H Q, tO G W false (dMove i) σ H Q → tVar i σ H Q := by
  rintro σ H Q ⟨I, E, vs, f, s, h⟩
  unfold dMove at h
  split at h
  · exact h.elim
  · rename_i d hd e
    obtain ⟨v, g, h1, ev, y, q, k⟩ := s.rp.get e
    refine ⟨v, s.sl.2 i _ _ e (by rintro rfl; exact hd rfl) ev, ?_⟩
    have k' := k (I' := I) (H' := H) (d' := .una) (v' := v) (g' := z0) (fun _ _ e => e) (fun _ => rfl) fun a z => ⟨(s.rp.trk a (by have := q a; omega)).1, rfl⟩
    have evs : vs.set i v = vs := by
      obtain ⟨hl, e2⟩ := List.getElem?_eq_some_iff.mp ev
      rw [← e2, List.set_getElem_self]
    rw [evs] at k'
    refine h v I H (fadd z0 h1) g ⟨⟨by simp [s.sl.1], fun j d' v' e1 n1 e2 => ?_⟩, s.sm, k', fun a => by have := q a; have := s.nd a; simp; omega⟩ y (fun a => by have := q a; have := s.nd a; simp; omega) ?_ (fun z => by cases z)
    · by_cases hj : i = j
      · subst hj
        rw [List.getElem?_set_self (List.getElem?_eq_some_iff.mp e).1] at e1
        cases e1; exact absurd rfl n1
      · rw [List.getElem?_set_ne hj] at e1
        exact s.sl.2 j d' v' e1 n1 e2
    · exact Fr.refl.less fun x z => by have := q x; simp at z; omega
  · exact h.elim
theorem Rp.cool {σ : St} {I H : Hp} {E : List D} {vs : List V} {f g : Ft} {v : V} {c : D} (s : Stt G σ I H E vs f) (y : Rp G I H c v g) (n : ∀ a, f a + g a ≤ 1) :
    ∃ I', Stt G σ I' H E vs f ∧ Rp G I' H (fz c) v z0 ∧ Fr false I H (fadd f g) I' H f := by
  have im : ∀ a o, I a = some o → (fun a => if g a ≠ 0 then H a else I a) a = some o := fun a o e => by
    by_cases z : g a ≠ 0
    · obtain ⟨n, _⟩ := y.trk a z
      rw [n] at e; cases e
    · simp only [z, if_false]; exact e
  refine ⟨fun a => if g a ≠ 0 then H a else I a, ⟨s.sl, fun a o e => ?_, s.rp.move im fun a z => ?_, s.nd⟩, y.freeze im fun a z => by simp [z], ⟨im, fun a o e _ => e, fun a o e z n => ?_, fun a z => .inl ?_, fun z => by cases z⟩⟩
  · by_cases z : g a ≠ 0
    · rw [if_pos z] at e; exact e
    · rw [if_neg z] at e; exact s.sm a o e
  · have : g a = 0 := by have := n a; omega
    exact ⟨by simp [this]; exact (s.rp.trk a z).1, rfl⟩
  · have : g a = 0 := by simp at z; omega
    simp [this, n]
  · simp; omega
theorem t_cold : ∀ σ H Q, tO G W false (dCold d) σ H Q → tO G W pu d σ H Q := by
  rintro σ H Q ⟨I, E, vs, f, s, h⟩
  refine ⟨I, E, vs, f, s, h.fst fun r er h => ?_⟩
  intro v I' H' f' g s' o n a e
  obtain ⟨op, E'⟩ := r
  cases op with
  | val c =>
    obtain ⟨I2, s2, y2, b⟩ := Rp.cool s' o n
    exact h v I2 H' f' z0 s2 y2 (fun a => by simp; exact s2.nd a) ((((a.trans b)).less fun x z => by simpa using z).imp fun z => by cases z) (fun z => by cases z)
  | plc i p => exact h v I' H' f' g s' o n (a.imp fun z => by cases z) (fun z => by cases z)
end

/-! ### operands in a row -/
def aNil : DenA := fun E => .ok ([], E)
def aCons (pu2 : Bool) (d : Den) (ds : DenA) : DenA := fun E => (d E).bind fun r => if stab pu2 r.1 then (ds r.2).bind fun q => .ok (r.1 :: q.1, q.2) else .bad
section
variable {G : Gm} {W : WX} {pu pu1 pu2 : Bool} {d d1 d2 : Den} {ds : DenA}
theorem t_anil : ∀ σ H Q, tA G W true aNil σ H Q → tNil σ H Q := by
  rintro σ H Q ⟨I, E, vs, f, s, h⟩
  exact h [] I H f z0 s ⟨rfl, fun _ => rfl⟩ (fun a => by simp; exact s.nd a) (Fr.refl.less fun x q => by simpa using q) fun _ => rfl
theorem t_acons {te : TE} {ta : TA} (h1 : ∀ σ H Q, tO G W pu1 d σ H Q → te σ H Q) (h2 : ∀ σ H Q, tA G W pu2 ds σ H Q → ta σ H Q) : ∀ σ H Q, tA G W (pu1 && pu2) (aCons pu2 d ds) σ H Q → tCons te ta σ H Q := by
  rintro σ H Q ⟨I, E, vs, f, s, h⟩
  refine h1 _ _ _ ⟨I, E, vs, f, s, h.fst fun r er h => ?_⟩
  intro v I1 H1 f1 g1 s1 o1 n1 a1 e1
  split at h
  · rename_i st
    have a1' : Fr pu1 I H f I1 H1 f1 := a1.less fun x z => by simp; omega
    refine h2 _ _ _ ⟨I1, r.2, vs, f1, s1, (h.fwd a1').fst fun q eq h => ?_⟩
    intro ws I2 H2 f2 g2 s2 o2 n2 a2 e2
    have o1' := o1.keep st (E1 := q.2) a2 n1 e2
    have n3 := a2.apart (g := g1) o1.trk n1 (fun x => by have := n2 x; simpa using this)
    refine h (v :: ws) I2 H2 f2 (fadd g1 g2) s2 ⟨v, ws, g1, g2, rfl, o1', o2, fun a => rfl⟩ (fun a => by have := n3 a; simp at this ⊢; omega) ?_ (fun z => ?_)
    · have := (a1.trans (a2.with (g := g1))).less (f2 := fadd f2 (fadd g1 g2)) (fun x z => by simp at z ⊢; omega)
      exact this
    · simp only [Bool.and_eq_true] at z
      rw [e2 z.2, e1 z.1]
  · exact h.elim
end

/-! ### operations on contents -/
/-- what an operation gives: new data, or frozen data -/
def OpS (G : Gm) (r : List V → Hp → VK → Prop) (F : List D → Option D) : Prop := ∀ (I H : Hp) (ds : List D) (ws : List V) (d : D), (∀ a o, I a = some o → H a = some o) → Rpi G I H ds ws → F ds = some d →
  ∀ Q : VK, (∀ v I' H' g, Nw I H I' H' → Rp G I' H' d v g → (∀ a, g a ≤ 1) → (∀ a, g a ≠ 0 → H a = none) → Q v H') → r ws H Q
def dOp (F : List D → Option D) (das : DenA) : Den := fun E => (das E).bind fun r => match conts r.2 r.1 with
  | some ds => match F ds with
    | some d => .ok (.val d, r.2)
    | none => .bad
  | none => .bad
section
variable {G : Gm} {W : WX} {pu : Bool} {das : DenA} {F : List D → Option D} {r : List V → Hp → VK → Prop}
theorem t_op {ta : TA} (hr : OpS G r F) (ha : ∀ σ H Q, tA G W pu das σ H Q → ta σ H Q) : ∀ σ H Q, tO G W pu (dOp F das) σ H Q → tCB r ta σ H Q := by
  rintro σ H Q ⟨I, E, vs, f, s, h⟩
  refine ha _ _ _ ⟨I, E, vs, f, s, h.fst fun x ex h => ?_⟩
  intro ws I1 H1 f1 g1 s1 o1 n1 a1 e1
  split at h
  · rename_i ds ed
    split at h
    · rename_i d edd
      refine hr I1 H1 ds ws d s1.sm (o1.conts s1 (fun a => by have := n1 a; omega) ed) edd Q fun v I2 H2 g nw y n2 fr => ?_
      refine h v I2 H2 f1 g (s1.nw nw) y (fun a => ?_) ?_ e1
      · by_cases z : g a = 0
        · have := s1.nd a; omega
        · have z1 : f1 a = 0 := by
            by_cases z2 : f1 a = 0
            · exact z2
            · obtain ⟨_, o, e⟩ := s1.rp.trk a z2
              rw [fr a z] at e; cases e
          have := n2 a; omega
      · have b : Fr pu I1 H1 (fadd f1 g1) I2 H2 (fadd f1 g) := nw.fr fun a z => by
          by_cases z2 : g a = 0
          · left; simp at z ⊢; omega
          · right; exact fr a z2
        exact (a1.trans b).imp fun z => by simp [z]
    · exact h.elim
  · exact h.elim
/-- two, one operands -/
def r2l (r : R2) : List V → Hp → VK → Prop := fun ws H Q => match ws with
  | [x, y] => r x y H Q
  | _ => False
def r1l (r : V → Hp → VK → Prop) : List V → Hp → VK → Prop := fun ws H Q => match ws with
  | [x] => r x H Q
  | _ => False
theorem t_op2 {r2 : R2} {ta tb : TE} {pu1 pu2 : Bool} {d1 d2 : Den} (hr : OpS G (r2l r2) F) (h1 : ∀ σ H Q, tO G W pu1 d1 σ H Q → ta σ H Q) (h2 : ∀ σ H Q, tO G W pu2 d2 σ H Q → tb σ H Q) :
    ∀ σ H Q, tO G W (pu1 && (pu2 && true)) (dOp F (aCons (pu2 && true) d1 (aCons true d2 aNil))) σ H Q → tOp r2 ta tb σ H Q := fun σ H Q q =>
  t_op hr (t_acons h1 (t_acons h2 t_anil)) σ H Q q
theorem t_op1 {r1 : V → Hp → VK → Prop} {ta : TE} {pu1 : Bool} {d1 : Den} (hr : OpS G (r1l r1) F) (h1 : ∀ σ H Q, tO G W pu1 d1 σ H Q → ta σ H Q) :
    ∀ σ H Q, tO G W (pu1 && true) (dOp F (aCons true d1 aNil)) σ H Q → tUn r1 ta σ H Q := fun σ H Q q =>
  t_op hr (t_acons h1 t_anil) σ H Q q
end
end DL

end
section
set_option maxRecDepth 100000
/-! DL, part 4: displays, calls of defs, fields and items. -/
namespace DL
open PySem L2

/-! ### displays -/
def opVals : List Opd → Option (List D)
  | [] => some []
  | .val d :: os => match opVals os with
    | some ds => some (d :: ds)
    | none => none
  | .plc _ _ :: _ => none
theorem OpsRel.vals {G : Gm} {I H : Hp} {E : List D} {vs : List V} : ∀ {os : List Opd} {ws : List V} {g : Ft} {ds : List D}, OpsRel G I H E vs os ws g → opVals os = some ds → Rps G I H ds ws g
  | [], ws, g, ds, x, e => by cases e; exact x
  | .val d :: os, ws, g, ds, x, e => by
    unfold opVals at e
    split at e
    · rename_i ds' e'
      cases e
      obtain ⟨v, vr, g1, g2, rfl, y, z, q⟩ := x
      exact ⟨v, vr, g1, g2, rfl, y, z.vals e', q⟩
    · cases e
  | .plc _ _ :: _, _, _, _, _, e => by cases e
def dTup (das : DenA) : Den := fun E => (das E).bind fun r => match opVals r.1 with
  | some ds => if ds.length ≤ 100000 then .ok (.val (.nd .tup ds), r.2) else .bad
  | none => .bad
def dLst (das : DenA) : Den := fun E => (das E).bind fun r => match opVals r.1 with
  | some ds => if ds.length ≤ 100000 then .ok (.val (.nd (.lst true) ds), r.2) else .bad
  | none => .bad
theorem line5 {n : Nat} (h : n ≤ 100000) : n ≤ sizeLine := Nat.le_trans h (by decide)
section
variable {G : Gm} {W : WX} {pu : Bool} {das : DenA}
/-- a new node that never changes -/
theorem new_fix {I H : Hp} {p : Addr} {k : Kd} {ds : List D} {ws : List V} {g : Ft} {o : HO} (sm : ∀ a o, I a = some o → H a = some o) (n : H p = none) (mu : k.mut = false) (s : k.st G ws o) (x : Rps G I H ds ws g) : Rp G (upd I p o) (upd H p o) (.nd k ds) (.ref p) g :=
  ⟨p, ws, g, o, rfl, s, (Nw.fixP sm n).rps x, .inr ⟨mu, upd_same, fun _ => rfl⟩⟩
theorem new_mut {I H : Hp} {p : Addr} {k : Kd} {ds : List D} {ws : List V} {g : Ft} {o : HO} (sm : ∀ a o, I a = some o → H a = some o) (n : H p = none) (mu : k.mut = true) (s : k.st G ws o) (x : Rps G I H ds ws g) : Rp G I (upd H p o) (.nd k ds) (.ref p) (fadd g (one1 p)) := by
  refine ⟨p, ws, g, o, rfl, s, (Nw.mutP sm n).rps x, .inl ⟨mu, ?_, upd_same, fun _ => rfl⟩⟩
  cases e : I p with
  | none => rfl
  | some u => rw [sm _ _ e] at n; cases n
theorem free_of {I H : Hp} {E : List D} {vs : List V} {f : Ft} {p : Addr} (x : Rps G I H E vs f) (n : H p = none) : f p = 0 := by
  by_cases z : f p = 0
  · exact z
  · obtain ⟨_, o, e⟩ := x.trk p z
    rw [n] at e; cases e
theorem t_tup {ta : TA} (ha : ∀ σ H Q, tA G W pu das σ H Q → ta σ H Q) : ∀ σ H Q, tO G W pu (dTup das) σ H Q → tTup ta σ H Q := by
  rintro σ H Q ⟨I, E, vs, f, s, h⟩
  refine ha _ _ _ ⟨I, E, vs, f, s, h.fst fun x ex h => ?_⟩
  intro ws I1 H1 f1 g1 s1 o1 n1 a1 e1
  split at h
  · rename_i ds ed
    split at h
    · rename_i hl
      have x := o1.vals ed
      refine ⟨by rw [x.len]; exact line5 hl, fun p hp => ?_⟩
      have nw := Nw.fixP (o := .tup ws) s1.sm hp
      exact h (.ref p) _ _ f1 g1 (s1.nw nw) (new_fix s1.sm hp rfl rfl x) n1 (((a1.trans (nw.fr (f := fadd f1 g1) (g := fadd f1 g1) (pu := pu) fun a z => .inl z))).imp fun z => by simp [z]) e1
    · exact h.elim
  · exact h.elim
theorem t_lst {ta : TA} (ha : ∀ σ H Q, tA G W pu das σ H Q → ta σ H Q) : ∀ σ H Q, tO G W pu (dLst das) σ H Q → tLst ta σ H Q := by
  rintro σ H Q ⟨I, E, vs, f, s, h⟩
  refine ha _ _ _ ⟨I, E, vs, f, s, h.fst fun x ex h => ?_⟩
  intro ws I1 H1 f1 g1 s1 o1 n1 a1 e1
  split at h
  · rename_i ds ed
    split at h
    · rename_i hl
      have x := o1.vals ed
      refine ⟨by rw [x.len]; exact line5 hl, fun p hp => ?_⟩
      have nw := Nw.mutP (o := .lst ws) s1.sm hp
      have f0 := free_of s1.rp hp
      have g0 := free_of x hp
      refine h (.ref p) _ _ f1 (fadd g1 (one1 p)) (s1.nw nw) (new_mut s1.sm hp rfl rfl x) (fun a => ?_) (((a1.trans (nw.fr (f := fadd f1 g1) (g := fadd f1 (fadd g1 (one1 p))) (pu := pu) fun a z => ?_))).imp fun z => by simp [z]) e1
      · by_cases q : a = p
        · subst q; simp [one1_self, f0, g0]
        · simp [one1_ne q]; exact n1 a
      · by_cases q : a = p
        · subst q; exact .inr hp
        · left; simpa [one1_ne q] using z
    · exact h.elim
  · exact h.elim
end

/-! ### what a def is worth: data in, data out; what was lent as it is behind -/
abbrev Fn := List D → R (D × List D)
def spOf (G : Gm) (F : Fn) : Sp := fun vs H Q E => ∃ I ds f, (∀ a o, I a = some o → H a = some o) ∧ Rps G I H ds vs f ∧ (∀ a, f a ≤ 1) ∧
  match F ds with
  | .ok r => ∀ v I' H' f' g, (∀ a o, I' a = some o → H' a = some o) → Rps G I' H' r.2 vs f' → Rp G I' H' r.1 v g → (∀ a, f' a + g a ≤ 1) → Fr false I H f I' H' (fadd f' g) → Q v H'
  | .exc c fs ds' => ∀ cls dd I' H' f', (∀ a o, I' a = some o → H' a = some o) → Rps G I' H' ds' vs f' → (∀ a, f' a ≤ 1) → ExcAt G H' cls dd c fs → Fr false I H f I' H' f' → E cls dd H'
  | .bad => False
/-- values, and whole names lent -/
def lendOk : List Opd → List Nat → Bool
  | [], _ => true
  | .val _ :: os, acc => lendOk os acc
  | .plc i [] :: os, acc => !acc.contains i && lendOk os (i :: acc)
  | .plc _ (_ :: _) :: _, _ => false
def back : List D → List Opd → List D → List D
  | E, .plc i _ :: os, d :: ds => (back E os ds).set i d
  | E, .val _ :: os, _ :: ds => back E os ds
  | E, _, _ => E
def holes : List D → List Opd → List D
  | E, .plc i _ :: os => (holes E os).set i .una
  | E, .val _ :: os => holes E os
  | E, [] => E
def isUna : D → Bool
  | .una => true
  | _ => false
/-- values, and places lent, each under a name of its own -/
def lendP : List Opd → List Nat → Bool
  | [], _ => true
  | .val _ :: os, acc => lendP os acc
  | .plc i _ :: os, acc => !acc.contains i && lendP os (i :: acc)
def backP : List D → List Opd → List D → List D
  | E, .plc i p :: os, d :: ds => setP (backP E os ds) i p d
  | E, .val _ :: os, _ :: ds => backP E os ds
  | E, _, _ => E
def holesP : List D → List Opd → List D
  | E, .plc i p :: os => setP (holesP E os) i p .una
  | E, .val _ :: os => holesP E os
  | E, [] => E
def callK (F : Fn) (r : List Opd × List D) : R (Opd × List D) := match conts r.2 r.1 with
  | some ds => if lendP r.1 [] && !ds.any isUna then (match F ds with
    | .ok q => .ok (.val q.1, backP (holesP r.2 r.1) r.1 q.2)
    | .exc c fs ds' => .exc c fs (backP (holesP r.2 r.1) r.1 ds')
    | .bad => .bad) else .bad
  | none => .bad
def dCall (F : Fn) (das : DenA) : Den := fun E => (das E).bind (callK F)
theorem back_len : ∀ (E : List D) (os : List Opd) (ds : List D), (back E os ds).length = E.length
  | E, [], ds => by simp [back]
  | E, .plc i p :: os, [] => by simp [back]
  | E, .plc i p :: os, d :: ds => by simp [back, back_len E os ds]
  | E, .val c :: os, [] => by simp [back]
  | E, .val c :: os, d :: ds => by simp [back, back_len E os ds]
theorem holes_len : ∀ (E : List D) (os : List Opd), (holes E os).length = E.length
  | E, [] => rfl
  | E, .plc i p :: os => by simp [holes, holes_len E os]
  | E, .val c :: os => by simp [holes, holes_len E os]
def slotsOf : List Opd → List Nat
  | [] => []
  | .val _ :: os => slotsOf os
  | .plc i _ :: os => i :: slotsOf os
theorem lendOk_nd : ∀ {os : List Opd} {acc : List Nat}, lendOk os acc = true → (slotsOf os).Nodup ∧ (∀ i ∈ slotsOf os, i ∉ acc) ∧ ∀ i p, Opd.plc i p ∈ os → p = []
  | [], acc, _ => ⟨List.nodup_nil, by simp [slotsOf], by simp⟩
  | .val c :: os, acc, h => by
    obtain ⟨a, b, c⟩ := lendOk_nd (os := os) h
    exact ⟨a, b, fun i p hm => c i p (by simpa using hm)⟩
  | .plc i [] :: os, acc, h => by
    have h' : (!acc.contains i && lendOk os (i :: acc)) = true := h
    simp only [Bool.and_eq_true, Bool.not_eq_true'] at h'
    obtain ⟨a, b, c⟩ := lendOk_nd h'.2
    refine ⟨List.nodup_cons.mpr ⟨fun hm => b i hm List.mem_cons_self, a⟩, fun j hj => ?_, fun j p hm => ?_⟩
    · rcases List.mem_cons.mp hj with rfl | hj
      · simpa using h'.1
      · exact fun q => b j hj (List.mem_cons_of_mem _ q)
    · rcases List.mem_cons.mp hm with e | hm
      · cases e; rfl
      · exact c j p hm
  | .plc i (j :: p) :: os, acc, h => by cases h
theorem holes_other : ∀ {os : List Opd} {E : List D} {j : Nat}, j ∉ slotsOf os → (holes E os)[j]? = E[j]?
  | [], E, j, _ => rfl
  | .val c :: os, E, j, h => holes_other (os := os) h
  | .plc i p :: os, E, j, h => by
    simp only [slotsOf, List.mem_cons, not_or] at h
    show ((holes E os).set i .una)[j]? = _
    rw [List.getElem?_set_ne (fun e => h.1 e.symm)]
    exact holes_other h.2
section
variable {G : Gm}
theorem set_self {α : Type} {vs : List α} {i : Nat} {v : α} (e : vs[i]? = some v) : vs.set i v = vs := by
  obtain ⟨hl, e2⟩ := List.getElem?_eq_some_iff.mp e
  rw [← e2, List.set_getElem_self]
theorem take_out {I H : Hp} : ∀ {os : List Opd} {E : List D} {vs ws : List V} {f g : Ft} {ds : List D}, Rps G I H E vs f → OpsRel G I H E vs os ws g → conts E os = some ds → (slotsOf os).Nodup → (∀ i p, Opd.plc i p ∈ os → p = []) →
    ∃ gT h, Rps G I H ds ws gT ∧ Rps G I H (holes E os) vs h ∧ ∀ a, f a + g a = gT a + h a
  | [], E, vs, ws, f, g, ds, x, o, e, nd, pl => by
    cases e
    exact ⟨z0, f, ⟨o.1, fun _ => rfl⟩, x, fun a => by have := o.2 a; simp [this]⟩
  | .val c :: os, E, vs, ws, f, g, ds, x, o, e, nd, pl => by
    obtain ⟨v, vr, g1, g2, rfl, y, z, q⟩ := o
    unfold conts at e
    split at e
    · rename_i d ds' e1 e2
      cases e; cases e1
      obtain ⟨gT, h, t1, t2, t3⟩ := take_out x z e2 nd fun i p hm => pl i p (List.mem_cons_of_mem _ hm)
      exact ⟨fadd g1 gT, h, ⟨v, vr, g1, gT, rfl, y, t1, fun _ => rfl⟩, t2, fun a => by have := q a; have := t3 a; simp; omega⟩
    · cases e
  | .plc i p :: os, E, vs, ws, f, g, ds, x, o, e, nd, pl => by
    obtain ⟨v, vr, g1, g2, rfl, y, z, q⟩ := o
    have hp := pl i p List.mem_cons_self
    subst hp
    unfold conts at e
    split at e
    · rename_i d ds' e1 e2
      cases e
      obtain ⟨n1, n2⟩ := List.nodup_cons.mp nd
      obtain ⟨gT, h, t1, t2, t3⟩ := take_out x z e2 n2 fun i p hm => pl i p (List.mem_cons_of_mem _ hm)
      have e3 : (holes E os)[i]? = some d := (holes_other n1).trans e1
      obtain ⟨w, gd, h2, ew, y2, q2, k⟩ := t2.get e3
      have : w = v := Option.some.inj (ew.symm.trans y.1)
      subst this
      have k' := k (I' := I) (H' := H) (d' := .una) (v' := w) (g' := z0) (fun _ _ e => e) (fun _ => rfl) fun a z => ⟨(t2.trk a (by have := q2 a; omega)).1, rfl⟩
      rw [set_self ew] at k'
      exact ⟨fadd gd gT, fadd z0 h2, ⟨w, vr, gd, gT, rfl, y2, t1, fun _ => rfl⟩, k', fun a => by have := q a; have := t3 a; have := q2 a; have := y.2 a; simp; omega⟩
    · cases e
theorem put_back {I H : Hp} {E0 : List D} {vs : List V} {h : Ft} (x : Rps G I H E0 vs h) : ∀ {os : List Opd} {E : List D} {ws : List V} {g' : Ft} {ds' : List D}, E0 = E → (∀ i p, Opd.plc i p ∈ os → p = [] ∧ E0[i]? = some .una) → (slotsOf os).Nodup →
    (∃ I0 H0 E1 g, OpsRel G I0 H0 E1 vs os ws g) → Rps G I H ds' ws g' → ∃ f', Rps G I H (back E os ds') vs f' ∧ (∀ a, f' a ≤ g' a + h a) ∧ ∀ j, j ∉ slotsOf os → (back E os ds')[j]? = E0[j]?
  | [], E, ws, g', ds', e, pl, nd, o, y => by
    subst e
    exact ⟨h, by simpa [back] using x, fun a => by omega, fun j _ => by simp [back]⟩
  | .val c :: os, E, ws, g', [], e, pl, nd, o, y => by
    subst e
    exact ⟨h, by simpa [back] using x, fun a => by omega, fun j _ => by simp [back]⟩
  | .plc i p :: os, E, ws, g', [], e, pl, nd, o, y => by
    subst e
    exact ⟨h, by simpa [back] using x, fun a => by omega, fun j _ => by simp [back]⟩
  | .val c :: os, E, ws, g', d :: ds, e, pl, nd, o, y => by
    obtain ⟨I0, H0, E1, g, v, vr, g1, g2, rfl, o1, o2, q⟩ := o
    obtain ⟨v', ws', gd, gr, e', y1, y2, q2⟩ := y
    cases e'
    obtain ⟨f', r, le, ot⟩ := put_back x (os := os) (E := E) e (fun i p hm => pl i p (List.mem_cons_of_mem _ hm)) nd ⟨I0, H0, E1, g2, o2⟩ y2
    exact ⟨f', r, fun a => by have := le a; have := q2 a; omega, ot⟩
  | .plc i p :: os, E, ws, g', d :: ds, e, pl, nd, o, y => by
    obtain ⟨I0, H0, E1, g, v, vr, g1, g2, rfl, o1, o2, q⟩ := o
    obtain ⟨v', ws', gd, gr, e', y1, y2, q2⟩ := y
    cases e'
    obtain ⟨n1, n2⟩ := List.nodup_cons.mp nd
    obtain ⟨f', r, le, ot⟩ := put_back x (os := os) (E := E) e (fun i p hm => pl i p (List.mem_cons_of_mem _ hm)) n2 ⟨I0, H0, E1, g2, o2⟩ y2
    obtain ⟨hp, hu⟩ := pl i p List.mem_cons_self
    subst hp
    have e3 : (back E os ds)[i]? = some .una := (ot i n1).trans hu
    obtain ⟨w, g3, h3, ew, y3, q3, k⟩ := r.get e3
    have : w = v := Option.some.inj (ew.symm.trans o1.1)
    subst this
    have k' := k (I' := I) (H' := H) (d' := d) (v' := w) (g' := gd) (fun _ _ e => e) y1 fun a z => ⟨(r.trk a (by have := q3 a; omega)).1, rfl⟩
    rw [set_self ew] at k'
    refine ⟨_, k', fun a => by have := le a; have := q2 a; have := q3 a; simp; omega, fun j hj => ?_⟩
    simp only [slotsOf, List.mem_cons, not_or] at hj
    show ((back E os ds).set i d)[j]? = _
    rw [List.getElem?_set_ne (fun e => hj.1 e.symm)]
    exact ot j hj.2
theorem back_holes {os : List Opd} {E : List D} {ds : List D} (nd : (slotsOf os).Nodup) (hl : ds.length = os.length) : back (holes E os) os ds = back E os ds := by
  have main : ∀ {os : List Opd} {E F : List D} {ds : List D}, ds.length = os.length → E.length = F.length → (∀ j, j ∉ slotsOf os → E[j]? = F[j]?) → back E os ds = back F os ds := by
    intro os
    induction os with
    | nil =>
      intro E F ds hl _ h
      have : E = F := List.ext_getElem? fun j => h j (by simp [slotsOf])
      cases ds <;> simp [back, this]
    | cons o os ih =>
      intro E F ds hl hn h
      cases ds with
      | nil => simp at hl
      | cons d ds =>
        cases o with
        | val c => exact ih (by simpa using hl) hn h
        | plc i p =>
          show (back E os ds).set i d = (back F os ds).set i d
          have hE : (back E os ds).set i d = (back (E.set i .una) os ds).set i d := by
            refine List.ext_getElem? fun j => ?_
            by_cases hj : i = j
            · subst hj
              by_cases hi : i < (back E os ds).length
              · rw [List.getElem?_set_self hi, List.getElem?_set_self (by rw [back_len] at hi ⊢; simpa using hi)]
              · rw [List.getElem?_eq_none (by simpa using hi), List.getElem?_eq_none (by rw [back_len] at hi; simp [back_len]; omega)]
            · rw [List.getElem?_set_ne hj, List.getElem?_set_ne hj]
              exact backAt hj
          have hF : (back F os ds).set i d = (back (F.set i .una) os ds).set i d := by
            refine List.ext_getElem? fun j => ?_
            by_cases hj : i = j
            · subst hj
              by_cases hi : i < (back F os ds).length
              · rw [List.getElem?_set_self hi, List.getElem?_set_self (by rw [back_len] at hi ⊢; simpa using hi)]
              · rw [List.getElem?_eq_none (by simpa using hi), List.getElem?_eq_none (by rw [back_len] at hi; simp [back_len]; omega)]
            · rw [List.getElem?_set_ne hj, List.getElem?_set_ne hj]
              exact backAt hj
          rw [hE, hF]
          rw [ih (E := E.set i .una) (F := F.set i .una) (by simpa using hl) (by simp [hn]) fun j hj => ?_]
          by_cases hji : i = j
          · subst hji
            by_cases hi : i < E.length
            · rw [List.getElem?_set_self hi, List.getElem?_set_self (hn ▸ hi)]
            · rw [List.getElem?_eq_none (by simpa using hi), List.getElem?_eq_none (by simp; omega)]
          · rw [List.getElem?_set_ne hji, List.getElem?_set_ne hji]
            exact h j (by simp [slotsOf, hj, Ne.symm hji])
  exact main hl (holes_len _ _) fun j hj => holes_other hj
where
  backAt {os : List Opd} {E : List D} {ds : List D} {i j : Nat} (hj : ¬ i = j) : (back E os ds)[j]? = (back (E.set i .una) os ds)[j]? := by
    induction os generalizing ds with
    | nil => cases ds <;> simp [back, List.getElem?_set_ne hj]
    | cons o os ih =>
      cases ds with
      | nil => cases o <;> simp [back, List.getElem?_set_ne hj]
      | cons d ds =>
        cases o with
        | val c => exact ih
        | plc k p =>
          show ((back E os ds).set k d)[j]? = ((back (E.set i .una) os ds).set k d)[j]?
          by_cases hk : k = j
          · subst hk
            by_cases hi : k < E.length
            · rw [List.getElem?_set_self (by rw [back_len]; exact hi), List.getElem?_set_self (by rw [back_len]; simpa using hi)]
            · rw [List.getElem?_eq_none (by simp [back_len]; omega), List.getElem?_eq_none (by simp [back_len]; omega)]
          · rw [List.getElem?_set_ne hk, List.getElem?_set_ne hk]
            exact ih
theorem holes_hole : ∀ {os : List Opd} {E : List D} {i : Nat} {p : List Nat}, Opd.plc i p ∈ os → i < E.length → (slotsOf os).Nodup → (holes E os)[i]? = some .una
  | .val c :: os, E, i, p, hm, hl, nd => holes_hole (os := os) (by simpa using hm) hl nd
  | .plc j q :: os, E, i, p, hm, hl, nd => by
    show ((holes E os).set j .una)[i]? = _
    by_cases hj : j = i
    · subst hj; rw [List.getElem?_set_self (by rw [holes_len]; exact hl)]
    · rw [List.getElem?_set_ne hj]
      rcases List.mem_cons.mp hm with e | hm
      · cases e; exact absurd rfl hj
      · exact holes_hole hm hl (List.nodup_cons.mp nd).2
theorem conts_mem : ∀ {os : List Opd} {E : List D} {ds : List D} {i : Nat}, conts E os = some ds → ds.any isUna = false → Opd.plc i [] ∈ os → ∃ d, E[i]? = some d ∧ d ≠ .una
  | o :: os, E, ds, i, e, u, hm => by
    unfold conts at e
    split at e
    · rename_i d ds' e1 e2
      cases e
      simp only [List.any_cons, Bool.or_eq_false_iff] at u
      rcases List.mem_cons.mp hm with q | hm
      · subst q
        exact ⟨d, e1, by rintro rfl; simp [isUna] at u⟩
      · exact conts_mem e2 u.2 hm
    · cases e
theorem conts_len : ∀ {os : List Opd} {E : List D} {ds : List D}, conts E os = some ds → ds.length = os.length
  | [], E, ds, e => by cases e; rfl
  | o :: os, E, ds, e => by
    unfold conts at e
    split at e
    · rename_i d ds' e1 e2
      cases e
      simp [conts_len e2]
    · cases e
theorem back_other : ∀ {os : List Opd} {E ds : List D} {j : Nat}, j ∉ slotsOf os → (back E os ds)[j]? = E[j]?
  | [], E, ds, j, _ => by simp [back]
  | .val c :: os, E, [], j, h => by simp [back]
  | .val c :: os, E, d :: ds, j, h => back_other (os := os) h
  | .plc i p :: os, E, [], j, h => by simp [back]
  | .plc i p :: os, E, d :: ds, j, h => by
    simp only [slotsOf, List.mem_cons, not_or] at h
    show ((back E os ds).set i d)[j]? = _
    rw [List.getElem?_set_ne (fun e => h.1 e.symm)]
    exact back_other h.2
theorem mem_slots : ∀ {os : List Opd} {i : Nat}, i ∈ slotsOf os → ∃ p, Opd.plc i p ∈ os
  | .val c :: os, i, h => by obtain ⟨p, hp⟩ := mem_slots (os := os) h; exact ⟨p, List.mem_cons_of_mem _ hp⟩
  | .plc j q :: os, i, h => by
    rcases List.mem_cons.mp h with rfl | h
    · exact ⟨q, List.mem_cons_self⟩
    · obtain ⟨p, hp⟩ := mem_slots h; exact ⟨p, List.mem_cons_of_mem _ hp⟩
/-- behind a call: what was lent stands again in its place -/
theorem Stt.back {σ : St} {I H I' H' : Hp} {E : List D} {vs ws : List V} {f g h f' : Ft} {os : List Opd} {ds ds' : List D} (s : Stt G σ I H E vs f) (o : OpsRel G I H E vs os ws g) (ec : conts E os = some ds) (lo : lendOk os [] = true) (nu : ds.any isUna = false)
    (sm : ∀ a o, I' a = some o → H' a = some o) (hh' : Rps G I' H' (holes E os) vs h) (y : Rps G I' H' ds' ws f') (t : ∀ a, f' a + h a ≤ 1) :
    ∃ f2, Stt G σ I' H' (DL.back E os ds') vs f2 ∧ (∀ x, f2 x ≤ f' x + h x) := by
  obtain ⟨nd, _, pl⟩ := lendOk_nd lo
  have hl : ds'.length = os.length := by
    have e1 := y.len
    have : ∀ {os : List Opd} {ws : List V} {g : Ft}, OpsRel G I H E vs os ws g → ws.length = os.length := by
      intro os
      induction os with
      | nil => intro ws g o; rw [o.1]; rfl
      | cons p os ih => intro ws g o; obtain ⟨v, vr, g1, g2, rfl, _, z, _⟩ := o; simp [ih z]
    rw [← e1, this o]
  obtain ⟨f2, r, le, ot⟩ := put_back hh' (os := os) (E := holes E os) (ds' := ds') rfl (fun i p hm => ⟨pl i p hm, by
    have hp := pl i p hm
    subst hp
    obtain ⟨d, e, _⟩ := conts_mem ec nu hm
    exact holes_hole hm (List.getElem?_eq_some_iff.mp e).1 nd⟩) nd ⟨I, H, E, g, o⟩ y
  rw [back_holes nd hl] at r
  refine ⟨f2, ⟨⟨s.sl.1.trans (back_len _ _ _).symm, fun i d v e1 n e2 => ?_⟩, sm, r, fun x => ?_⟩, le⟩
  · by_cases hi : i ∈ slotsOf os
    · obtain ⟨p, hm⟩ := mem_slots hi
      have hp := pl i p hm
      subst hp
      obtain ⟨d0, e0, n0⟩ := conts_mem ec nu hm
      exact s.sl.2 i d0 v e0 n0 e2
    · rw [back_other hi] at e1
      exact s.sl.2 i d v e1 n e2
  · have := le x; have := t x; omega
/-! places lent -/
theorem getP_congr {E F : List D} {i : Nat} (h : E[i]? = F[i]?) : ∀ {p : List Nat}, getP E i p = getP F i p
  | [] => h
  | j :: p => by unfold getP; rw [h]
theorem Loc_congr {I H : Hp} {E F : List D} {vs : List V} {i : Nat} {v : V} (h : E[i]? = F[i]?) : ∀ {p : List Nat}, Loc G I H E vs i p v → Loc G I H F vs i p v
  | [], l => l
  | j :: p, l => by
    obtain ⟨k, es, q, ws, o, e1, e2, s, c, l⟩ := l
    exact ⟨k, es, q, ws, o, h ▸ e1, e2, s, c, l⟩
theorem setP_other {E : List D} {i j : Nat} {d : D} (h : ¬ i = j) : ∀ {p : List Nat}, (setP E i p d)[j]? = E[j]?
  | [] => by show (E.set i d)[j]? = _; rw [List.getElem?_set_ne h]
  | m :: p => by
    unfold setP
    split
    · rw [List.getElem?_set_ne h]
    · rfl
theorem getP_setP : ∀ {p : List Nat} {E : List D} {i : Nat} {c d : D}, getP E i p = some c → getP (setP E i p d) i p = some d
  | [], E, i, c, d, e => by
    have hl : i < E.length := (List.getElem?_eq_some_iff.mp (show E[i]? = some c from e)).1
    show (E.set i d)[i]? = _
    rw [List.getElem?_set_self hl]
  | j :: p, E, i, c, d, e => by
    unfold getP at e
    split at e
    · rename_i k es e0
      have hl : i < E.length := (List.getElem?_eq_some_iff.mp e0).1
      have := getP_setP (d := d) e
      unfold setP
      rw [e0]
      show getP (E.set i (.nd k (setP es j p d))) i (j :: p) = _
      unfold getP
      rw [List.getElem?_set_self hl]
      exact this
    · cases e
theorem Loc_setP {I H : Hp} : ∀ {p : List Nat} {E : List D} {vs : List V} {i : Nat} {v : V} {d : D}, Loc G I H E vs i p v → Loc G I H (setP E i p d) vs i p v
  | [], E, vs, i, v, d, l => l
  | j :: p, E, vs, i, v, d, l => by
    obtain ⟨k, es, q, ws, o, e1, e2, s, c, l⟩ := l
    have hl : i < E.length := (List.getElem?_eq_some_iff.mp e1).1
    refine ⟨k, setP es j p d, q, ws, o, ?_, e2, s, c, Loc_setP l⟩
    have e3 : setP E i (j :: p) d = E.set i (.nd k (setP es j p d)) := by
      have : setP E i (j :: p) d = (match E[i]? with
        | some (.nd k es) => E.set i (.nd k (setP es j p d))
        | _ => E) := rfl
      rw [this, e1]
    rw [e3, List.getElem?_set_self hl]
/-- a place is kept as what it lies in is kept -/
theorem Loc.keepF {I H I' H' : Hp} (hI : ∀ a o, I a = some o → I' a = some o) : ∀ {p : List Nat} {ds : List D} {vs : List V} {i : Nat} {v : V} {f : Ft}, Rps G I H ds vs f → (∀ a, f a ≠ 0 → H' a = H a) → Loc G I H ds vs i p v → Loc G I' H' ds vs i p v
  | [], ds, vs, i, v, f, x, k, l => l
  | j :: p, ds, vs, i, v, f, x, kk, l => by
    obtain ⟨k, es, q, ws, o, e1, e2, s, c, l⟩ := l
    obtain ⟨v0, g0, h0, ev, y, qq, _⟩ := x.get e1
    obtain ⟨pa, ws', g1, o', epa, s', z, c'⟩ := y
    have e3 : V.ref q = .ref pa := by rw [ev] at e2; rw [← epa]; exact (Option.some.inj e2).symm
    cases e3
    rcases c with ⟨mu, c⟩ | ⟨mu, c⟩ <;> rcases c' with ⟨mu', n, c', q1⟩ | ⟨mu', c', q1⟩
    · have eo : o' = o := Option.some.inj (c'.symm.trans c)
      subst eo
      have ew := Kd.st_inj s s'
      subst ew
      refine ⟨k, es, q, ws, o', e1, e2, s, .inl ⟨mu, ?_⟩, Loc.keepF hI z (fun a ha => kk a (by have := qq a; have := q1 a; omega)) l⟩
      rw [kk q (by have := qq q; have := q1 q; rw [one1_self] at this; omega)]
      exact c
    · rw [mu] at mu'; cases mu'
    · rw [mu] at mu'; cases mu'
    · have eo : o' = o := Option.some.inj (c'.symm.trans c)
      subst eo
      have ew := Kd.st_inj s s'
      subst ew
      exact ⟨k, es, q, ws, o', e1, e2, s, .inr ⟨mu, hI _ _ c⟩, Loc.keepF hI z (fun a ha => kk a (by have := qq a; have := q1 a; omega)) l⟩
theorem lendP_nd : ∀ {os : List Opd} {acc : List Nat}, lendP os acc = true → (slotsOf os).Nodup ∧ (∀ i ∈ slotsOf os, i ∉ acc)
  | [], acc, _ => ⟨List.nodup_nil, by simp [slotsOf]⟩
  | .val c :: os, acc, h => lendP_nd (os := os) h
  | .plc i p :: os, acc, h => by
    have h' : (!acc.contains i && lendP os (i :: acc)) = true := h
    simp only [Bool.and_eq_true, Bool.not_eq_true'] at h'
    obtain ⟨a, b⟩ := lendP_nd h'.2
    refine ⟨List.nodup_cons.mpr ⟨fun hm => b i hm List.mem_cons_self, a⟩, fun j hj => ?_⟩
    rcases List.mem_cons.mp hj with rfl | hj
    · simpa using h'.1
    · exact fun q => b j hj (List.mem_cons_of_mem _ q)
theorem holesP_other : ∀ {os : List Opd} {E : List D} {j : Nat}, j ∉ slotsOf os → (holesP E os)[j]? = E[j]?
  | [], E, j, _ => rfl
  | .val c :: os, E, j, h => holesP_other (os := os) h
  | .plc i p :: os, E, j, h => by
    simp only [slotsOf, List.mem_cons, not_or] at h
    show (setP (holesP E os) i p .una)[j]? = _
    rw [setP_other (fun e => h.1 e.symm)]
    exact holesP_other h.2
theorem backP_other : ∀ {os : List Opd} {E ds : List D} {j : Nat}, j ∉ slotsOf os → (backP E os ds)[j]? = E[j]?
  | [], E, ds, j, _ => by simp [backP]
  | .val c :: os, E, [], j, h => by simp [backP]
  | .val c :: os, E, d :: ds, j, h => backP_other (os := os) h
  | .plc i p :: os, E, [], j, h => by simp [backP]
  | .plc i p :: os, E, d :: ds, j, h => by
    simp only [slotsOf, List.mem_cons, not_or] at h
    show (setP (backP E os ds) i p d)[j]? = _
    rw [setP_other (fun e => h.1 e.symm)]
    exact backP_other h.2
theorem holesP_len : ∀ (E : List D) (os : List Opd), (holesP E os).length = E.length
  | E, [] => rfl
  | E, .plc i p :: os => by show (setP (holesP E os) i p .una).length = _; rw [setP_len, holesP_len E os]
  | E, .val c :: os => holesP_len E os
theorem backP_len : ∀ (E : List D) (os : List Opd) (ds : List D), (backP E os ds).length = E.length
  | E, [], ds => by simp [backP]
  | E, .plc i p :: os, [] => by simp [backP]
  | E, .plc i p :: os, d :: ds => by show (setP (backP E os ds) i p d).length = _; rw [setP_len, backP_len E os ds]
  | E, .val c :: os, [] => by simp [backP]
  | E, .val c :: os, d :: ds => backP_len E os ds
/-- where the places taken out stand -/
def HA (G : Gm) (I H : Hp) (E : List D) (vs : List V) : List Opd → List V → Prop
  | [], ws => ws = []
  | .val _ :: os, ws => ∃ w wr, ws = w :: wr ∧ HA G I H E vs os wr
  | .plc i p :: os, ws => ∃ w wr, ws = w :: wr ∧ getP E i p = some .una ∧ Loc G I H E vs i p w ∧ HA G I H E vs os wr
theorem HA.congr {I H : Hp} {E F : List D} {vs : List V} : ∀ {os : List Opd} {ws : List V}, (∀ j ∈ slotsOf os, E[j]? = F[j]?) → HA G I H E vs os ws → HA G I H F vs os ws
  | [], ws, h, x => x
  | .val _ :: os, ws, h, x => by
    obtain ⟨w, wr, e, x⟩ := x
    exact ⟨w, wr, e, x.congr h⟩
  | .plc i p :: os, ws, h, x => by
    obtain ⟨w, wr, e, g, l, x⟩ := x
    have hi := h i (by simp [slotsOf])
    exact ⟨w, wr, e, (getP_congr hi).symm.trans g, Loc_congr hi l, x.congr fun j hj => h j (by simp [slotsOf, hj])⟩
theorem HA.keep {I H I' H' : Hp} {E : List D} {vs : List V} {f : Ft} (hI : ∀ a o, I a = some o → I' a = some o) (r : Rps G I H E vs f) (k : ∀ a, f a ≠ 0 → H' a = H a) : ∀ {os : List Opd} {ws : List V}, HA G I H E vs os ws → HA G I' H' E vs os ws
  | [], ws, x => x
  | .val _ :: os, ws, x => by
    obtain ⟨w, wr, e, x⟩ := x
    exact ⟨w, wr, e, x.keep hI r k⟩
  | .plc i p :: os, ws, x => by
    obtain ⟨w, wr, e, g, l, x⟩ := x
    exact ⟨w, wr, e, g, Loc.keepF hI r k l, x.keep hI r k⟩
theorem take_outP {I H : Hp} : ∀ {os : List Opd} {E : List D} {vs ws : List V} {f g : Ft} {ds : List D}, Rps G I H E vs f → OpsRel G I H E vs os ws g → conts E os = some ds → (slotsOf os).Nodup →
    ∃ gT h, Rps G I H ds ws gT ∧ Rps G I H (holesP E os) vs h ∧ (∀ a, f a + g a = gT a + h a) ∧ HA G I H (holesP E os) vs os ws
  | [], E, vs, ws, f, g, ds, x, o, e, nd => by
    cases e
    exact ⟨z0, f, ⟨o.1, fun _ => rfl⟩, x, fun a => by have := o.2 a; simp [this], o.1⟩
  | .val c :: os, E, vs, ws, f, g, ds, x, o, e, nd => by
    obtain ⟨v, vr, g1, g2, rfl, y, z, q⟩ := o
    unfold conts at e
    split at e
    · rename_i d ds' e1 e2
      cases e; cases e1
      obtain ⟨gT, h, t1, t2, t3, t4⟩ := take_outP x z e2 nd
      exact ⟨fadd g1 gT, h, ⟨v, vr, g1, gT, rfl, y, t1, fun _ => rfl⟩, t2, fun a => by have := q a; have := t3 a; simp; omega, ⟨v, vr, rfl, t4⟩⟩
    · cases e
  | .plc i p :: os, E, vs, ws, f, g, ds, x, o, e, nd => by
    obtain ⟨v, vr, g1, g2, rfl, y, z, q⟩ := o
    unfold conts at e
    split at e
    · rename_i d ds' e1 e2
      cases e
      obtain ⟨n1, n2⟩ := List.nodup_cons.mp nd
      obtain ⟨gT, h, t1, t2, t3, t4⟩ := take_outP x z e2 n2
      have ei := (holesP_other (E := E) n1)
      have e3 : getP (holesP E os) i p = some d := (getP_congr ei).trans e1
      obtain ⟨w, gd, h2, ew, y2, q2, k⟩ := t2.focus e3
      have l0 : Loc G I H (holesP E os) vs i p v := Loc_congr ei.symm y.1
      have : w = v := ew.inj l0
      subst this
      have k' := k (I' := I) (H' := H) (d' := .una) (g' := z0) (fun _ _ e => e) (fun _ => rfl) fun a z => ⟨(t2.trk a (by have := q2 a; omega)).1, rfl⟩
      refine ⟨fadd gd gT, fadd z0 h2, ⟨w, vr, gd, gT, rfl, y2, t1, fun _ => rfl⟩, k', fun a => by have := q a; have := t3 a; have := q2 a; have := y.2 a; simp; omega, ⟨w, vr, rfl, getP_setP e3, Loc_setP l0, t4.congr fun j hj => ?_⟩⟩
      show _ = (setP (holesP E os) i p .una)[j]?
      rw [setP_other (fun (e : i = j) => n1 (by rw [e]; exact hj))]
    · cases e
theorem put_backP {I H : Hp} {E0 : List D} {vs : List V} {h : Ft} (x : Rps G I H E0 vs h) : ∀ {os : List Opd} {ws : List V} {g' : Ft} {ds' : List D}, HA G I H E0 vs os ws → (slotsOf os).Nodup → Rps G I H ds' ws g' → ∃ f', Rps G I H (backP E0 os ds') vs f' ∧ ∀ a, f' a ≤ g' a + h a
  | [], ws, g', ds', o, nd, y => ⟨h, by simpa [backP] using x, fun a => by omega⟩
  | .val c :: os, ws, g', [], o, nd, y => ⟨h, by simpa [backP] using x, fun a => by omega⟩
  | .plc i p :: os, ws, g', [], o, nd, y => ⟨h, by simpa [backP] using x, fun a => by omega⟩
  | .val c :: os, ws, g', d :: ds, o, nd, y => by
    obtain ⟨v, vr, rfl, o⟩ := o
    obtain ⟨v', ws', gd, gr, e', y1, y2, q2⟩ := y
    cases e'
    obtain ⟨f', r, le⟩ := put_backP x (os := os) o nd y2
    exact ⟨f', r, fun a => by have := le a; have := q2 a; omega⟩
  | .plc i p :: os, ws, g', d :: ds, o, nd, y => by
    obtain ⟨v, vr, rfl, eg, l, o⟩ := o
    obtain ⟨v', ws', gd, gr, e', y1, y2, q2⟩ := y
    cases e'
    obtain ⟨n1, n2⟩ := List.nodup_cons.mp nd
    obtain ⟨f', r, le⟩ := put_backP x (os := os) o n2 y2
    have ei := backP_other (E := E0) (ds := ds) n1
    have e3 : getP (backP E0 os ds) i p = some .una := (getP_congr ei).trans eg
    obtain ⟨w, g3, h3, ew, y3, q3, k⟩ := r.focus e3
    have : w = v := ew.inj (Loc_congr ei.symm l)
    subst this
    have k' := k (I' := I) (H' := H) (d' := d) (g' := gd) (fun _ _ e => e) y1 fun a z => ⟨(r.trk a (by have := q3 a; omega)).1, rfl⟩
    exact ⟨_, k', fun a => by have := le a; have := q2 a; have := q3 a; simp; omega⟩
theorem conts_memP : ∀ {os : List Opd} {E : List D} {ds : List D} {i : Nat}, conts E os = some ds → ds.any isUna = false → i ∈ slotsOf os → ∃ d, E[i]? = some d ∧ d ≠ .una
  | .val c :: os, E, ds, i, e, u, hm => by
    unfold conts at e
    split at e
    · rename_i d ds' e1 e2
      cases e
      simp only [List.any_cons, Bool.or_eq_false_iff] at u
      exact conts_memP e2 u.2 hm
    · cases e
  | .plc j p :: os, E, ds, i, e, u, hm => by
    unfold conts at e
    split at e
    · rename_i d ds' e1 e2
      cases e
      simp only [List.any_cons, Bool.or_eq_false_iff] at u
      rcases List.mem_cons.mp hm with rfl | hm
      · exact getP_root e1 (by rintro rfl; simp [isUna] at u)
      · exact conts_memP e2 u.2 hm
    · cases e
/-- behind a call: what was lent stands again in its place -/
theorem Stt.backP {σ : St} {I H I' H' : Hp} {E : List D} {vs ws : List V} {f h f' : Ft} {os : List Opd} {ds ds' : List D} (s : Stt G σ I H E vs f) (ec : conts E os = some ds) (lo : lendP os [] = true) (nu : ds.any isUna = false)
    (hI : ∀ a o, I a = some o → I' a = some o) (t2 : Rps G I H (holesP E os) vs h) (kp : ∀ a, h a ≠ 0 → H' a = H a) (ha : HA G I H (holesP E os) vs os ws)
    (sm : ∀ a o, I' a = some o → H' a = some o) (hh' : Rps G I' H' (holesP E os) vs h) (y : Rps G I' H' ds' ws f') (t : ∀ a, f' a + h a ≤ 1) :
    ∃ f2, Stt G σ I' H' (DL.backP (holesP E os) os ds') vs f2 ∧ (∀ x, f2 x ≤ f' x + h x) := by
  obtain ⟨nd, _⟩ := lendP_nd lo
  obtain ⟨f2, r, le⟩ := put_backP hh' (ha.keep hI t2 kp) nd y
  refine ⟨f2, ⟨⟨s.sl.1.trans ((holesP_len _ _).symm.trans (backP_len _ _ _).symm), fun i d v e1 n e2 => ?_⟩, sm, r, fun x => by have := le x; have := t x; omega⟩, le⟩
  by_cases hi : i ∈ slotsOf os
  · obtain ⟨d0, e0, n0⟩ := conts_memP ec nu hi
    exact s.sl.2 i d0 v e0 n0 e2
  · rw [backP_other hi, holesP_other hi] at e1
    exact s.sl.2 i d v e1 n e2
variable {W : WX} {pu : Bool} {das : DenA} {F : Fn}
theorem call_core {σ : St} {I H I1 H1 : Hp} {E : List D} {vs ws : List V} {f f1 g1 : Ft} {os : List Opd} {Q : VK} {Ex : XK} (hE : ∀ cls d H, W cls d σ H → Ex cls d H) (s1 : Stt G σ I1 H1 E vs f1) (o1 : OpsRel G I1 H1 E vs os ws g1) (n1 : ∀ a, f1 a + g1 a ≤ 1)
    (a1 : Fr pu I H f I1 H1 (fadd f1 g1)) (h : Ans G W σ I H f vs (callK F (os, E)) fun r => ∀ v I' H' f' g, Stt G σ I' H' r.2 vs f' → OpRel G I' H' r.2 vs r.1 v g → (∀ a, f' a + g a ≤ 1) → Fr false I H f I' H' (fadd f' g) → Q v H') : spOf G F ws H1 Q Ex := by
  unfold callK at h
  split at h
  · rename_i ds ed
    split at h
    · rename_i hc
      simp only [Bool.and_eq_true, Bool.not_eq_true'] at hc
      obtain ⟨nd, _⟩ := lendP_nd hc.1
      obtain ⟨gT, hf, t1, t2, t3, t4⟩ := take_outP s1.rp o1 ed nd
      have kpt : ∀ {I2 H2 : Hp} {f2 : Ft}, Fr false I1 H1 gT I2 H2 f2 → ∀ a, hf a ≠ 0 → H2 a = H1 a := fun {I2 H2 f2} b a z => by
        obtain ⟨_, o, e⟩ := t2.trk a z
        rw [e]; exact b.kp a o e (by have := t3 a; have := n1 a; omega)
      refine ⟨I1, ds, gT, s1.sm, t1, fun a => by have := t3 a; have := n1 a; omega, ?_⟩
      have mono : ∀ {I2 H2 : Hp} {f2 g2 : Ft}, Fr false I1 H1 gT I2 H2 f2 → (∀ x, g2 x ≤ f2 x + hf x) → Fr false I H f I2 H2 g2 := fun {I2 H2 f2 g2} b le => by
        have b' := (b.with (g := hf))
        have b2 : Fr false I1 H1 (fadd f1 g1) I2 H2 g2 := ⟨b'.im, fun x o e z => b'.kp x o e (by have := t3 x; simp at z ⊢; omega), fun x o e z => b'.un x o e (by have := t3 x; simp at z ⊢; omega), fun x z => by
          rcases b'.nw x (by have := le x; simp; omega) with r | r
          · left; have := t3 x; simp at r ⊢; omega
          · exact .inr r, fun z => by cases z⟩
        exact (a1.trans b2).imp fun z => by cases z
      cases eF : F ds with
      | ok q =>
        rw [eF] at h
        intro v I2 H2 f2 g2 sm2 y2 r2 n2 b
        have sd : ∀ x, gT x + hf x ≤ 1 := fun x => by have := t3 x; have := n1 x; omega
        have t := b.apart (g := hf) (fun x z => by obtain ⟨_, o, e⟩ := t2.trk x z; rw [e]; simp) sd (fun x => by have := n2 x; simpa using this)
        obtain ⟨f3, s3, le⟩ := Stt.backP s1 ed hc.1 hc.2 b.im t2 (kpt b) t4 sm2 (b.side t2 sd) y2 (fun a => by have := t a; simp at this; omega)
        exact h v I2 H2 f3 g2 s3 r2 (fun a => by have := le a; have := t a; simp at this; omega) (mono b fun x => by have := le x; simp; omega)
      | exc c fs ds' =>
        rw [eF] at h
        intro cls dd I2 H2 f2 sm2 y2 n2 xa b
        have sd : ∀ x, gT x + hf x ≤ 1 := fun x => by have := t3 x; have := n1 x; omega
        have t := b.apart (g := hf) (fun x z => by obtain ⟨_, o, e⟩ := t2.trk x z; rw [e]; simp) sd n2
        obtain ⟨f3, s3, le⟩ := Stt.backP s1 ed hc.1 hc.2 b.im t2 (kpt b) t4 sm2 (b.side t2 sd) y2 t
        exact hE _ _ _ (h cls dd I2 H2 f3 s3 xa (mono b le))
      | bad => rw [eF] at h; exact h
    · exact h.elim
  · exact h.elim
theorem t_call {ta : TA} {Ex : XK} (hE : ∀ cls d σ H, W cls d σ H → Ex cls d H) (ha : ∀ σ H Q, tA G W pu das σ H Q → ta σ H Q) : ∀ σ H Q, tO G W false (dCall F das) σ H Q → tCall (spOf G F) [] Ex ta σ H Q := by
  rintro σ H Q ⟨I, E, vs, f, s, h⟩
  refine ha _ _ _ ⟨I, E, vs, f, s, h.fst fun x ex h => ?_⟩
  intro ws I1 H1 f1 g1 s1 o1 n1 a1 e1
  show spOf G F (ws ++ []) H1 Q Ex
  rw [List.append_nil]
  exact call_core (fun cls d H => hE cls d σ H) s1 o1 n1 a1 (h.imp fun r er k v I' H' f' g s o n a => k v I' H' f' g s o n a (fun z => by cases z))

/-! ### methods -/
def isObj (c : Nat) (m : Str) : Option D → Bool
  | some (.nd (.obj _ c' ns) ds) => c' == c && !ns.contains m && ns.length == ds.length
  | _ => false
def dMeth (c : Nat) (m : Str) (F : Fn) (pu2 : Bool) (d0 : Den) (das : DenA) : Den := fun E => (d0 E).bind fun r => if isObj c m (cont r.2 r.1) && stab pu2 r.1 then (das r.2).bind fun q => callK F (r.1 :: q.1, q.2) else .bad
theorem lookup_zip_none {α β : Type} [BEq α] [LawfulBEq α] : ∀ {ns : List α} {vs : List β} {m : α}, ns.contains m = false → (ns.zip vs).lookup m = none
  | [], vs, m, h => by simp
  | n :: ns, [], m, h => by simp
  | n :: ns, v :: vs, m, h => by
    simp only [List.contains_cons, Bool.or_eq_false_iff] at h
    simp only [List.zip_cons_cons, List.lookup_cons, h.1]
    exact lookup_zip_none h.2
/-- an instance's own object -/
theorem obj_at {σ : St} {I H : Hp} {E : List D} {vs : List V} {f g : Ft} {o : Opd} {v : V} {mk : Bool} {c : Nat} {ns : List Str} {ds : List D} (s : Stt G σ I H E vs f) (x : OpRel G I H E vs o v g) (n : ∀ a, g a ≤ 1) (e : cont E o = some (.nd (.obj mk c ns) ds)) :
    ∃ a dx ws, v = .ref a ∧ H a = some (.ins (G.cls c) dx (ns.zip ws)) ∧ ns.length = ws.length := by
  obtain ⟨g', y, _⟩ := x.cont s n e
  obtain ⟨p, ws, g2, ob, rfl, ⟨l, dx, rfl⟩, z, q⟩ := y
  rcases q with ⟨_, _, eH, _⟩ | ⟨_, eI, _⟩
  · exact ⟨p, dx, ws, rfl, eH, l⟩
  · exact ⟨p, dx, ws, rfl, s.sm _ _ eI, l⟩
theorem isObj_iff {c : Nat} {m : Str} {x : Option D} (h : isObj c m x = true) : ∃ mk ns ds, x = some (.nd (.obj mk c ns) ds) ∧ ns.contains m = false ∧ ns.length = ds.length := by
  unfold isObj at h
  split at h
  · rename_i mk c' ns ds
    simp only [Bool.and_eq_true, Bool.not_eq_true', beq_iff_eq] at h
    obtain ⟨⟨rfl, hm⟩, hl⟩ := h
    exact ⟨mk, ns, ds, rfl, hm, hl⟩
  · cases h
theorem t_meth {te : TE} {ta : TA} {Ex : XK} {c : Nat} {m : Str} {pu1 pu2 : Bool} {d0 : Den} (hE : ∀ cls d σ H, W cls d σ H → Ex cls d H) (h0 : ∀ σ H Q, tO G W pu1 d0 σ H Q → te σ H Q) (ha : ∀ σ H Q, tA G W pu2 das σ H Q → ta σ H Q) :
    ∀ σ H Q, tO G W false (dMeth c m F pu2 d0 das) σ H Q → tMeth (G.cls c) m (spOf G F) [] Ex te ta σ H Q := by
  rintro σ H Q ⟨I, E, vs, f, s, hh⟩
  refine h0 _ _ _ ⟨I, E, vs, f, s, hh.fst fun r er h => ?_⟩
  intro v I1 H1 f1 g1 s1 o1 n1 a1 e1
  by_cases hc : (isObj c m (cont r.2 r.1) && stab pu2 r.1) = true
  · rw [if_pos hc] at h
    simp only [Bool.and_eq_true] at hc
    obtain ⟨hob, st⟩ := hc
    obtain ⟨mk, ns, ds, ec, hm, hl⟩ := isObj_iff hob
    obtain ⟨a, dx, ws, rfl, ea, el⟩ := obj_at s1 o1 (fun a => by have := n1 a; omega) ec
    refine ⟨a, dx, ns.zip ws, rfl, ea, lookup_zip_none hm, ?_⟩
    have a1' : Fr pu1 I H f I1 H1 f1 := a1.less fun x z => by simp; omega
    refine ha _ _ _ ⟨I1, r.2, vs, f1, s1, (h.fwd a1').fst fun q eq _ => ?_⟩
    intro ws2 I2 H2 f2 g2 s2 o2 n2 a2 e2
    rw [eq] at h
    have o1' := o1.keep st (E1 := q.2) a2 n1 e2
    have n3 := a2.apart (g := g1) o1.trk n1 (fun x => by have := n2 x; simpa using this)
    show spOf G F (.ref a :: (ws2 ++ [])) H2 Q Ex
    rw [List.append_nil]
    have b := ((a1.trans (a2.with (g := g1))).less (f2 := fadd f2 (fadd g1 g2)) fun x z => by simp at z ⊢; omega)
    exact call_core (fun cls d H => hE cls d σ H) s2 (g1 := fadd g1 g2) (os := r.1 :: q.1) ⟨.ref a, ws2, g1, g2, rfl, o1', o2, fun a => rfl⟩ (fun a => by have := n3 a; simp at this ⊢; omega) b (h.imp fun r er k v I' H' f' g s o n a => k v I' H' f' g s o n a (fun z => by cases z))
  · rw [if_neg hc] at h
    exact h.elim
/-! ### a new instance -/
def makeK (c : Nat) (F : Fn) (r : List Opd × List D) : R (Opd × List D) := match conts r.2 r.1 with
  | some ds => if lendOk r.1 [] && !ds.any isUna then (match F (.nd (.obj true c []) [] :: ds) with
    | .ok (.sc .non, o :: ds') => .ok (.val o, back r.2 r.1 ds')
    | .exc c fs (_ :: ds') => .exc c fs (back r.2 r.1 ds')
    | _ => .bad) else .bad
  | none => .bad
def dMake (c : Nat) (F : Fn) (das : DenA) : Den := fun E => (das E).bind (makeK c F)
theorem t_make {ta : TA} {Ex : XK} {c : Nat} (hE : ∀ cls d σ H, W cls d σ H → Ex cls d H) (ha : ∀ σ H Q, tA G W pu das σ H Q → ta σ H Q) : ∀ σ H Q, tO G W false (dMake c F das) σ H Q → tMake (G.cls c) (spOf G F) [] Ex ta σ H Q := by
  rintro σ H Q ⟨I, E, vs, f, s, hh⟩
  refine ha _ _ _ ⟨I, E, vs, f, s, hh.fst fun x ex h => ?_⟩
  intro ws I1 H1 f1 g1 s1 o1 n1 a1 e1 p dx hp hdx hne
  show spOf G F (.ref p :: (ws ++ [])) (upd (upd H1 dx (.own p)) p (.ins (G.cls c) dx [])) (fun v H2 => v = .non ∧ Q (.ref p) H2) Ex
  rw [List.append_nil]
  unfold makeK at h
  split at h
  · rename_i ds ed
    split at h
    · rename_i hc
      simp only [Bool.and_eq_true, Bool.not_eq_true'] at hc
      obtain ⟨nd, _, pl⟩ := lendOk_nd hc.1
      obtain ⟨gT, hf, t1, t2, t3⟩ := take_out s1.rp o1 ed nd pl
      have nw1 : Nw I1 H1 I1 (upd H1 dx (.own p)) := Nw.mutP s1.sm hdx
      have hp' : upd H1 dx (.own p) p = none := by rw [upd_ne (Ne.symm hne)]; exact hp
      have nw2 : Nw I1 (upd H1 dx (.own p)) I1 (upd (upd H1 dx (.own p)) p (.ins (G.cls c) dx [])) := Nw.mutP nw1.sm hp'
      have nw := nw1.trans nw2
      have f0 := free_of s1.rp hp
      have gT0 : gT p = 0 := free_of t1 hp
      have g0 : g1 p = 0 := by
        by_cases z : g1 p = 0
        · exact z
        · have := t3 p
          have q := free_of t2 hp
          omega
      have Io : I1 p = none := by
        cases e : I1 p with
        | none => rfl
        | some u => rw [s1.sm _ _ e] at hp; cases hp
      have ro : Rp G I1 (upd (upd H1 dx (.own p)) p (.ins (G.cls c) dx [])) (.nd (.obj true c []) []) (.ref p) (one1 p) := ⟨p, [], z0, _, rfl, ⟨rfl, dx, rfl⟩, ⟨rfl, fun _ => rfl⟩, .inl ⟨rfl, Io, upd_same, fun a => by simp⟩⟩
      have rall : Rps G I1 (upd (upd H1 dx (.own p)) p (.ins (G.cls c) dx [])) (.nd (.obj true c []) [] :: ds) (.ref p :: ws) (fadd (one1 p) gT) := ⟨.ref p, ws, one1 p, gT, rfl, ro, nw.rps t1, fun _ => rfl⟩
      refine ⟨I1, _, fadd (one1 p) gT, nw.sm, rall, fun a => ?_, ?_⟩
      · by_cases q : a = p
        · subst q; simp [one1_self, gT0]
        · have := t3 a; have := n1 a; simp [one1_ne q]; omega
      have s1' := s1.nw nw
      have o1' : OpsRel G I1 (upd (upd H1 dx (.own p)) p (.ins (G.cls c) dx [])) x.2 vs x.1 ws g1 := by
        have : ∀ {os : List Opd} {ws : List V} {g : Ft}, OpsRel G I1 H1 x.2 vs os ws g → OpsRel G I1 (upd (upd H1 dx (.own p)) p (.ins (G.cls c) dx [])) x.2 vs os ws g := by
          intro os
          induction os with
          | nil => intro ws g o; exact o
          | cons q os ih =>
            intro ws g o
            obtain ⟨v, vr, g1, g2, rfl, y, z, e⟩ := o
            refine ⟨v, vr, g1, g2, rfl, ?_, ih z, e⟩
            cases q with
            | val d => exact nw.rp y
            | plc i p => exact ⟨y.1.keep nw.im nw.kp, y.2⟩
        exact this o1
      have hf' := nw.rps t2
      have mono : ∀ {I2 H2 : Hp} {f2 g2 : Ft}, Fr false I1 (upd (upd H1 dx (.own p)) p (.ins (G.cls c) dx [])) (fadd (one1 p) gT) I2 H2 f2 → (∀ x, g2 x ≤ f2 x + hf x) → Fr false I H f I2 H2 g2 := fun {I2 H2 f2 g2} b le => by
        have b1 : Fr false I1 H1 (fadd f1 g1) I2 H2 g2 := ⟨b.im, fun x o e z => b.kp x o (nw.kp x o e) (by
            have hx : x ≠ p := fun q => by subst q; rw [hp] at e; cases e
            have := t3 x; simp at z; simp [one1_ne hx]; omega), fun x o e z n => b.un x o (nw.kp x o e) (by
            have hx : x ≠ p := fun q => by subst q; rw [hp] at e; cases e
            have := t3 x; simp at z; simp [one1_ne hx]; omega) n, fun x z => by
          by_cases hx : x = p
          · subst hx; exact .inr hp
          · have q := le x
            by_cases q2 : f2 x = 0
            · left; have := t3 x; simp; omega
            · rcases b.nw x q2 with r | r
              · left; have := t3 x; simp [one1_ne hx] at r ⊢; omega
              · right
                cases e : H1 x with
                | none => rfl
                | some u => rw [nw.kp x u e] at r; exact absurd r (by simp), fun z => by cases z⟩
        exact (a1.trans b1).imp fun z => by cases z
      have side : ∀ x, fadd (one1 p) gT x + hf x ≤ 1 := fun a => by
        by_cases q : a = p
        · subst q; have := free_of t2 hp; simp [one1_self, gT0, this]
        · have := t3 a; have := n1 a; simp [one1_ne q]; omega
      have trkh : ∀ x, hf x ≠ 0 → (upd (upd H1 dx (.own p)) p (.ins (G.cls c) dx [])) x ≠ none := fun x z => by obtain ⟨_, o, e⟩ := hf'.trk x z; rw [e]; simp
      cases eF : F (.nd (.obj true c []) [] :: ds) with
      | ok q =>
        rw [eF] at h
        obtain ⟨d, ds2⟩ := q
        split at h
        · rename_i o' ds' eq
          simp only [R.ok.injEq, Prod.mk.injEq] at eq
          obtain ⟨rfl, rfl⟩ := eq
          intro v I2 H2 f2 g2 sm2 y2 r2 n2 b
          obtain ⟨rfl, gz⟩ := r2
          obtain ⟨v0, ws0, go, gr, e0, yo, yr, qq⟩ := y2
          cases e0
          refine ⟨rfl, ?_⟩
          have t := b.apart (g := hf) trkh side (fun x => by have := n2 x; simpa using this)
          obtain ⟨f3, s3, le⟩ := Stt.back s1' o1' ed hc.1 hc.2 sm2 (b.side hf' side) yr (fun a => by have t1 := t a; have := qq a; simp only [fadd_at] at t1; omega)
          exact h (.ref p) I2 H2 f3 go s3 yo (fun a => by have := le a; have t1 := t a; have := qq a; simp only [fadd_at] at t1; omega) (mono b fun x => by have := le x; have := qq x; simp; omega) (fun z => by cases z)
        · rename_i c' fs o' ds' eq; cases eq
        · exact h.elim
      | exc c' fs ds2 =>
        rw [eF] at h
        split at h
        · rename_i eq; cases eq
        · rename_i c2 fs2 o' ds' eq
          simp only [R.exc.injEq] at eq
          obtain ⟨rfl, rfl, rfl⟩ := eq
          intro cls dd I2 H2 f2 sm2 y2 n2 xa b
          obtain ⟨v0, ws0, go, gr, e0, yo, yr, qq⟩ := y2
          cases e0
          have t := b.apart (g := hf) trkh side n2
          obtain ⟨f3, s3, le⟩ := Stt.back s1' o1' ed hc.1 hc.2 sm2 (b.side hf' side) yr (fun a => by have := t a; have := qq a; omega)
          exact hE _ _ σ _ (h cls dd I2 H2 f3 s3 xa (mono b fun x => by have := le x; have := qq x; omega))
        · exact h.elim
      | bad => rw [eF] at h; exact h
    · exact h.elim
  · exact h.elim
end
end DL

end
section
set_option maxRecDepth 100000
/-! DL, part 5: fields, items, slices, tests. -/
namespace DL
open PySem L2

/-! ### children -/
def child (o : Opd) (j : Nat) (c : D) : R Opd := if Fz c then .ok (.val c) else match o with
  | .plc i p => .ok (.plc i (p ++ [j]))
  | .val _ => .bad
section
variable {G : Gm} {W : WX} {pu : Bool}
theorem Loc.snoc {I H : Hp} : ∀ {p : List Nat} {ds : List D} {vs : List V} {i j : Nat} {q : Addr} {k : Kd} {es : List D} {ws : List V} {o : HO} {w : V}, Loc G I H ds vs i p (.ref q) → getP ds i p = some (.nd k es) → k.st G ws o →
    ((k.mut = true ∧ H q = some o) ∨ (k.mut = false ∧ I q = some o)) → ws[j]? = some w → Loc G I H ds vs i (p ++ [j]) w
  | [], ds, vs, i, j, q, k, es, ws, o, w, l, e, s, c, ew => ⟨k, es, q, ws, o, e, l, s, c, ew⟩
  | m :: p, ds, vs, i, j, q, k, es, ws, o, w, l, e, s, c, ew => by
    obtain ⟨k', es', q', ws', o', e1, e2, s', c', l'⟩ := l
    unfold getP at e
    rw [e1] at e
    exact ⟨k', es', q', ws', o', e1, e2, s', c', l'.snoc e s c ew⟩
theorem getP_snoc : ∀ {p : List Nat} {ds : List D} {i j : Nat} {k : Kd} {es : List D}, getP ds i p = some (.nd k es) → getP ds i (p ++ [j]) = es[j]?
  | [], ds, i, j, k, es, e => by show getP ds i [j] = _; unfold getP; rw [show ds[i]? = some (.nd k es) from e]; rfl
  | m :: p, ds, i, j, k, es, e => by
    unfold getP at e
    show getP ds i (m :: (p ++ [j])) = _
    unfold getP
    split at e
    · rename_i k' es' e0
      first | exact getP_snoc e | (rw [e0]; exact getP_snoc e)
    · cases e
/-- a node's child -/
theorem child_ok {σ : St} {I H : Hp} {E : List D} {vs : List V} {f g : Ft} {o o' : Opd} {v : V} {k : Kd} {ds : List D} {j : Nat} {c : D} (s : Stt G σ I H E vs f) (x : OpRel G I H E vs o v g) (n : ∀ a, g a ≤ 1) (e : cont E o = some (.nd k ds)) (ej : ds[j]? = some c) (ec : child o j c = .ok o') :
    ∃ p ws ob w, v = .ref p ∧ k.st G ws ob ∧ H p = some ob ∧ ws.length = ds.length ∧ ws[j]? = some w ∧ OpRel G I H E vs o' w z0 := by
  obtain ⟨g', y, _⟩ := x.cont s n e
  obtain ⟨p, ws, g2, ob, rfl, st, z, q⟩ := y
  have eH : H p = some ob := by
    rcases q with ⟨_, _, eH, _⟩ | ⟨_, eI, _⟩
    · exact eH
    · exact s.sm _ _ eI
  obtain ⟨w, gw, h2, ew, yw, qw, _⟩ := z.get ej
  refine ⟨p, ws, ob, w, rfl, st, eH, z.len, ew, ?_⟩
  unfold child at ec
  split at ec
  · rename_i hf
    cases ec
    exact yw.fz0 hf
  · cases o with
    | val d => cases ec
    | plc i q' =>
      cases ec
      refine ⟨x.1.snoc e st ?_ ew, fun _ => rfl⟩
      rcases q with ⟨m, _, eH, _⟩ | ⟨m, eI, _⟩
      · exact .inl ⟨m, eH⟩
      · exact .inr ⟨m, eI⟩
/-- the operand itself is dropped for another one that owns nothing -/
theorem Fr.drop {I H I1 H1 : Hp} {f f1 g1 : Ft} (a : Fr pu I H f I1 H1 (fadd f1 g1)) : Fr pu I H f I1 H1 (fadd f1 z0) := a.less fun x z => by simp at z ⊢; omega

/-! ### o.f -/
def ixOf (f : Str) : List Str → Option Nat
  | [] => none
  | n :: ns => if f == n then some 0 else (ixOf f ns).map (· + 1)
def fldK (c : Nat) (f : Str) (r : Opd × List D) : R (Opd × List D) := match cont r.2 r.1 with
  | some (.nd (.obj _ c' ns) ds) => if c' = c then (match ixOf f ns with
    | some j => match ds[j]? with
      | some d => (child r.1 j d).bind fun o => .ok (o, r.2)
      | none => .bad
    | none => .bad) else .bad
  | _ => .bad
def dFld (c : Nat) (f : Str) (d : Den) : Den := fun E => (d E).bind (fldK c f)
theorem lookup_zip {f : Str} : ∀ {ns : List Str} {vs : List V} {j : Nat} {w : V}, ixOf f ns = some j → vs[j]? = some w → (ns.zip vs).lookup f = some w
  | [], vs, j, w, e, _ => by cases e
  | n :: ns, [], j, w, _, e => by simp at e
  | n :: ns, v :: vs, j, w, e, ew => by
    unfold ixOf at e
    by_cases h : (f == n) = true
    · rw [if_pos h] at e; cases e
      simp at ew; subst ew
      simp only [List.zip_cons_cons, List.lookup_cons, h]
    · rw [if_neg h] at e
      have h' : (f == n) = false := by simpa using h
      simp only [List.zip_cons_cons, List.lookup_cons, h']
      cases e2 : ixOf f ns with
      | none => rw [e2] at e; cases e
      | some j' =>
        rw [e2] at e; cases e
        exact lookup_zip e2 (by simpa using ew)
theorem t_fld {K : PySem.W.Frag} {te : TE} {c : Nat} {f : Str} {d : Den} (cl : Cls K (G.cls c)) (na : NoAttr K (G.cls c) f) (h0 : ∀ σ H Q, tO G W pu d σ H Q → te σ H Q) : ∀ σ H Q, tO G W pu (dFld c f d) σ H Q → tFld K te f σ H Q := by
  rintro σ H Q ⟨I, E, vs, f0, s, hh⟩
  refine h0 _ _ _ ⟨I, E, vs, f0, s, hh.fst fun r er h => ?_⟩
  intro v I1 H1 f1 g1 s1 o1 n1 a1 e1
  unfold fldK at h
  split at h
  · rename_i mk c' ns ds ec
    split at h
    · rename_i hc
      subst hc
      split at h
      · rename_i j ej
        split at h
        · rename_i dd ed
          cases eo : child r.1 j dd with
          | ok o' =>
            rw [eo] at h
            obtain ⟨p, ws, ob, w, rfl, ⟨l, dx, rfl⟩, eH, lw, ew, rw'⟩ := child_ok s1 o1 (fun a => by have := n1 a; omega) ec ed eo
            exact ⟨p, G.cls c', dx, _, w, rfl, eH, cl, na, lookup_zip ej ew, h w I1 H1 f1 z0 s1 rw' (fun a => by simp; exact s1.nd a) a1.drop e1⟩
          | exc _ _ _ => rw [eo] at h; unfold child at eo; split at eo; cases eo; split at eo <;> cases eo
          | bad => rw [eo] at h; exact h.elim
        · exact h.elim
      · exact h.elim
    · exact h.elim
  · exact h.elim

/-! ### o[i] -/
def Kd.seq : Kd → Bool
  | .tup => true | .lst _ => true | _ => false
def ixK (r : List Opd × List D) : R (Opd × List D) := match r.1 with
  | [o, q] => match cont r.2 o, cont r.2 q with
    | some (.nd k ds), some (.sc (.int i)) => if k.seq then (match ixN ds.length i with
      | some j => match ds[j]? with
        | some d => (child o j d).bind fun o => .ok (o, r.2)
        | none => .bad
      | none => .bad) else .bad
    | some (.kl xs), some (.sc (.int i)) => match atI xs i with
      | some n => .ok (.val (.sc (.int n)), r.2)
      | none => .bad
    | some (.sc (.str z)), some (.sc (.int i)) => if z.length ≤ 100000 then (match atI z.cps.toList i with
      | some c => .ok (.val (.sc (.str ⟨#[c]⟩)), r.2)
      | none => .bad) else .bad
    | _, _ => .bad
  | _ => .bad
def dIx (pu2 : Bool) (d1 d2 : Den) : Den := fun E => (aCons pu2 d1 (aCons true d2 aNil) E).bind ixK
theorem Kd.seq_at {K : PySem.W.Frag} {k : Kd} {H : Hp} {p : Addr} {ws : List V} {ob : HO} (hs : k.seq = true) (st : k.st G ws ob) (e : H p = some ob) : SqL K H p ws ∨ SqT K H p ws := by
  cases k with
  | tup => cases st; exact .inr (SqT.of e)
  | lst m => cases st; exact .inl (SqL.of e)
  | dik _ _ => cases hs
  | dit _ _ => cases hs
  | obj _ _ _ => cases hs
theorem t_ix {ta tb : TE} {pu1 pu2 : Bool} {d1 d2 : Den} (h1 : ∀ σ H Q, tO G W pu1 d1 σ H Q → ta σ H Q) (h2 : ∀ σ H Q, tO G W pu2 d2 σ H Q → tb σ H Q) : ∀ σ H Q, tO G W (pu1 && (pu2 && true)) (dIx (pu2 && true) d1 d2) σ H Q → tOp (rIx G.K) ta tb σ H Q := by
  rintro σ H Q ⟨I, E, vs, f, s, hh⟩
  refine (t_acons h1 (t_acons h2 t_anil) σ H (fun ws H' => r2l (rIx G.K) ws H' Q) ?_ : _)
  refine ⟨I, E, vs, f, s, hh.fst fun r er h => ?_⟩
  intro ws I1 H1 f1 g1 s1 o1 n1 a1 e1
  unfold ixK at h
  obtain ⟨os, E1⟩ := r
  split at h
  · rename_i o q eos
    have eos' : os = [o, q] := eos
    subst eos'
    obtain ⟨v, vr, ga, gb, rfl, oa, ⟨w, vr2, gc, gd, rfl, ob, ⟨rfl, _⟩, qc⟩, qa⟩ := o1
    have na : ∀ a, ga a ≤ 1 := fun a => by have := n1 a; have := qa a; omega
    have nb : ∀ a, gc a ≤ 1 := fun a => by have := n1 a; have := qa a; have := qc a; omega
    show rIx G.K v w H1 Q
    split at h
    · rename_i k ds i ek ei
      obtain ⟨gi, yi, _⟩ := ob.cont s1 nb ei
      obtain ⟨rfl, _⟩ := yi
      split at h
      · rename_i hs
        split at h
        · rename_i j ej
          split at h
          · rename_i dd ed
            cases eo : child o j dd with
            | ok o' =>
              rw [eo] at h
              obtain ⟨p, ws, hob, w', rfl, st, eH, lw, ew, rw'⟩ := child_ok s1 oa na ek ed eo
              have at_ : atI ws i = some w' := by unfold atI; rw [lw, ej]; exact ew
              have q := h w' I1 H1 f1 z0 s1 rw' (fun a => by simp; exact s1.nd a) a1.drop e1
              rcases Kd.seq_at (K := G.K) hs st eH with z | z
              · exact .inl ⟨p, ws, i, w', rfl, rfl, z, at_, q⟩
              · exact .inr (.inl ⟨p, ws, i, w', rfl, rfl, z, at_, q⟩)
            | exc _ _ _ => unfold child at eo; split at eo; cases eo; split at eo <;> cases eo
            | bad => rw [eo] at h; exact h.elim
          · exact h.elim
        · exact h.elim
      · exact h.elim
    · rename_i xs i ek ei
      obtain ⟨gi, yi, _⟩ := ob.cont s1 nb ei
      obtain ⟨rfl, _⟩ := yi
      obtain ⟨gz, yz, _⟩ := oa.cont s1 na ek
      obtain ⟨⟨p, rfl, sq⟩, _⟩ := yz
      split at h
      · rename_i n en
        refine .inl ⟨p, _, i, .int n, rfl, rfl, SqL.up s1.sm sq, ?_, h _ I1 H1 f1 z0 s1 ⟨rfl, fun _ => rfl⟩ (fun a => by simp; exact s1.nd a) a1.drop e1⟩
        unfold atI at en ⊢
        rw [List.length_map]
        cases ej : ixN xs.length i with
        | none => rw [ej] at en; cases en
        | some j =>
          rw [ej] at en
          have en' : xs[j]? = some n := en
          show (xs.map V.int)[j]? = _
          rw [List.getElem?_map, en']; rfl
      · exact h.elim
    · rename_i z i ek ei
      obtain ⟨gi, yi, _⟩ := ob.cont s1 nb ei
      obtain ⟨rfl, _⟩ := yi
      obtain ⟨gz, yz, _⟩ := oa.cont s1 na ek
      obtain ⟨rfl, _⟩ := yz
      split at h
      · rename_i hl
        split at h
        · rename_i c ec
          exact .inr (.inr ⟨z, i, c, rfl, rfl, line5 hl, ec, h _ I1 H1 f1 z0 s1 ⟨rfl, fun _ => rfl⟩ (fun a => by simp; exact s1.nd a) a1.drop e1⟩)
        · exact h.elim
      · exact h.elim
    · exact h.elim
  · exact h.elim
end

/-! ### tests -/
abbrev DenT := List D → R (Bool × List D)
def tT (G : Gm) (W : WX) (pu : Bool) (den : DenT) : TT := fun σ H Q => ∃ I E vs f, Stt G σ I H E vs f ∧ Ans G W σ I H f vs (den E) fun r =>
  ∀ I' H' f', Stt G σ I' H' r.2 vs f' → Fr pu I H f I' H' f' → (pu = true → r.2 = E) → Q r.1 H'
def dTst (d : Den) : DenT := fun E => (d E).bind fun r => match cont r.2 r.1 with
  | some (.sc (.bl b)) => .ok (b, r.2)
  | _ => .bad
def truD : D → Option Bool
  | .sc .non => some false
  | .sc (.bl b) => some b
  | .sc (.int i) => some (i != 0)
  | .sc (.str z) => if z.length ≤ 100000 then some ((z.length : Int) != 0) else none
  | .nd (.dik _ ks) _ => some (!ks.isEmpty)
  | .nd k ds => if k.seq then some (!ds.isEmpty) else none
  | _ => none
def dTru (d : Den) : DenT := fun E => (d E).bind fun r => match cont r.2 r.1 with
  | some c => match truD c with
    | some b => .ok (b, r.2)
    | none => .bad
  | none => .bad
def dAnd (a b : DenT) : DenT := fun E => (a E).bind fun r => if r.1 then b r.2 else .ok (false, r.2)
def dOr (a b : DenT) : DenT := fun E => (a E).bind fun r => if r.1 then .ok (true, r.2) else b r.2
def dNot (a : DenT) : DenT := fun E => (a E).bind fun r => .ok (!r.1, r.2)
section
variable {G : Gm} {W : WX} {pu pu1 pu2 : Bool} {te : TE} {d : Den}
theorem t_tst (h0 : ∀ σ H Q, tO G W pu d σ H Q → te σ H Q) : ∀ σ H Q, tT G W pu (dTst d) σ H Q → tTest te σ H Q := by
  rintro σ H Q ⟨I, E, vs, f, s, hh⟩
  refine h0 _ _ _ ⟨I, E, vs, f, s, hh.fst fun r er h => ?_⟩
  intro v I1 H1 f1 g1 s1 o1 n1 a1 e1
  split at h
  · rename_i b ec
    obtain ⟨g', y, _⟩ := o1.cont s1 (fun a => by have := n1 a; omega) ec
    obtain ⟨rfl, _⟩ := y
    exact ⟨b, rfl, h I1 H1 f1 s1 (a1.less fun x z => by simp; omega) e1⟩
  · exact h.elim
theorem t_tstB (h0 : ∀ σ H Q, tO G W pu d σ H Q → te σ H Q) : ∀ σ H Q, tT G W pu (dTst d) σ H Q → tB te σ H Q := t_tst h0
theorem zip_empty {α β : Type} : ∀ {ks : List α} {vs : List β}, ks.length = vs.length → (ks.zip vs).isEmpty = ks.isEmpty
  | [], [], _ => rfl
  | _ :: _, _ :: _, _ => rfl
  | [], _ :: _, h => by simp at h
  | _ :: _, [], h => by simp at h
theorem isEmpty_len {α β : Type} : ∀ {xs : List α} {ys : List β}, xs.length = ys.length → xs.isEmpty = ys.isEmpty
  | [], [], _ => rfl
  | _ :: _, _ :: _, _ => rfl
  | [], _ :: _, h => by simp at h
  | _ :: _, [], h => by simp at h
theorem truV_of {K : PySem.W.Frag} {I H : Hp} {c : D} {v : V} {g : Ft} {b : Bool} (sm : ∀ a o, I a = some o → H a = some o) (y : Rp G I H c v g) (e : truD c = some b) : TruV K v H b := by
  cases c with
  | una => cases e
  | lent => cases e
  | kl xs => cases e
  | sc x =>
    obtain ⟨rfl, _⟩ := y
    cases v with
    | str z =>
      have e' : (if z.length ≤ 100000 then some ((z.length : Int) != 0) else none) = some b := e
      by_cases hl : z.length ≤ 100000
      · rw [if_pos hl] at e'; cases e'; exact ⟨line5 hl, rfl⟩
      · rw [if_neg hl] at e'; cases e'
    | non => cases e; rfl
    | bl x => cases e; rfl
    | int x => cases e; rfl
    | byt x => cases e
    | flt x => cases e
    | ref x => cases e
    | ty x => cases e
  | nd k ds =>
    obtain ⟨p, ws, g2, ob, rfl, st, z, q⟩ := y
    have eH : H p = some ob := by
      rcases q with ⟨_, _, eH, _⟩ | ⟨_, eI, _⟩
      · exact eH
      · exact sm _ _ eI
    have hl := z.len
    have seq : ∀ {k : Kd}, k.seq = true → k.st G ws ob → b = !ds.isEmpty → TruV K (.ref p) H b := fun {k} hs st eb => by
      rcases Kd.seq_at (K := K) hs st eH with z | z
      · exact .inl ⟨ws, z, by rw [eb, isEmpty_len hl]⟩
      · exact .inr (.inl ⟨ws, z, by rw [eb, isEmpty_len hl]⟩)
    cases k with
    | dik m ks =>
      have e' : some (!ks.isEmpty) = some b := e
      cases e'
      obtain ⟨l, rfl⟩ := st
      exact .inr (.inr ⟨_, eH, by rw [zip_empty l]⟩)
    | tup => have e' : some (!ds.isEmpty) = some b := e; cases e'; exact seq (k := .tup) rfl st rfl
    | lst m => have e' : some (!ds.isEmpty) = some b := e; cases e'; exact seq (k := .lst m) rfl st rfl
    | dit m ks => cases e
    | obj m c ns => cases e
theorem t_tru {K : PySem.W.Frag} (h0 : ∀ σ H Q, tO G W pu d σ H Q → te σ H Q) : ∀ σ H Q, tT G W pu (dTru d) σ H Q → (fun σ H Q => te σ H fun x H' => ∃ k, TruV K x H' k ∧ Q k H') σ H Q := by
  rintro σ H Q ⟨I, E, vs, f, s, hh⟩
  refine h0 _ _ _ ⟨I, E, vs, f, s, hh.fst fun r er h => ?_⟩
  intro v I1 H1 f1 g1 s1 o1 n1 a1 e1
  split at h
  · rename_i c ec
    split at h
    · rename_i b eb
      obtain ⟨g', y, _⟩ := o1.cont s1 (fun a => by have := n1 a; omega) ec
      exact ⟨b, truV_of s1.sm y eb, h I1 H1 f1 s1 (a1.less fun x z => by simp; omega) e1⟩
    · exact h.elim
  · exact h.elim
variable {t u : TT} {a b : DenT}
theorem t_and (h1 : ∀ σ H Q, tT G W pu1 a σ H Q → t σ H Q) (h2 : ∀ σ H Q, tT G W pu2 b σ H Q → u σ H Q) : ∀ σ H Q, tT G W (pu1 && pu2) (dAnd a b) σ H Q → tAnd t u σ H Q := by
  rintro σ H Q ⟨I, E, vs, f, s, hh⟩
  refine h1 _ _ _ ⟨I, E, vs, f, s, hh.fst fun r er h => ?_⟩
  intro I1 H1 f1 s1 a1 e1
  obtain ⟨c, E1⟩ := r
  cases c with
  | true =>
    show u σ H1 Q
    refine h2 _ _ _ ⟨I1, E1, vs, f1, s1, (Ans.fwd h a1).imp fun q _ k I2 H2 f2 s2 a2 e2 => k I2 H2 f2 s2 (a1.trans a2) fun z => ?_⟩
    simp only [Bool.and_eq_true] at z
    exact (e2 z.2).trans (e1 z.1)
  | false =>
    show Q false H1
    refine h I1 H1 f1 s1 (a1.imp fun z => ?_) fun z => e1 ?_
    · simp only [Bool.and_eq_true] at z; exact z.1
    · simp only [Bool.and_eq_true] at z; exact z.1
theorem t_or (h1 : ∀ σ H Q, tT G W pu1 a σ H Q → t σ H Q) (h2 : ∀ σ H Q, tT G W pu2 b σ H Q → u σ H Q) : ∀ σ H Q, tT G W (pu1 && pu2) (dOr a b) σ H Q → tOr t u σ H Q := by
  rintro σ H Q ⟨I, E, vs, f, s, hh⟩
  refine h1 _ _ _ ⟨I, E, vs, f, s, hh.fst fun r er h => ?_⟩
  intro I1 H1 f1 s1 a1 e1
  obtain ⟨c, E1⟩ := r
  cases c with
  | false =>
    show u σ H1 Q
    refine h2 _ _ _ ⟨I1, E1, vs, f1, s1, (Ans.fwd h a1).imp fun q _ k I2 H2 f2 s2 a2 e2 => k I2 H2 f2 s2 (a1.trans a2) fun z => ?_⟩
    simp only [Bool.and_eq_true] at z
    exact (e2 z.2).trans (e1 z.1)
  | true =>
    show Q true H1
    refine h I1 H1 f1 s1 (a1.imp fun z => ?_) fun z => e1 ?_
    · simp only [Bool.and_eq_true] at z; exact z.1
    · simp only [Bool.and_eq_true] at z; exact z.1
theorem t_not (h1 : ∀ σ H Q, tT G W pu1 a σ H Q → t σ H Q) : ∀ σ H Q, tT G W pu1 (dNot a) σ H Q → tNot t σ H Q := by
  rintro σ H Q ⟨I, E, vs, f, s, hh⟩
  refine h1 _ _ _ ⟨I, E, vs, f, s, hh.fst fun r er h => ?_⟩
  exact fun I1 H1 f1 s1 a1 e1 => h I1 H1 f1 s1 a1 e1

/-! ### .. as values -/
def dAndV (a b : Den) : Den := fun E => (a E).bind fun r => match cont r.2 r.1 with
  | some (.sc (.bl true)) => b r.2
  | some (.sc (.bl false)) => .ok (.val (.sc (.bl false)), r.2)
  | _ => .bad
def dOrV (a b : Den) : Den := fun E => (a E).bind fun r => match cont r.2 r.1 with
  | some (.sc (.bl false)) => b r.2
  | some (.sc (.bl true)) => .ok (.val (.sc (.bl true)), r.2)
  | _ => .bad
def dNotV (a : Den) : Den := fun E => (a E).bind fun r => match cont r.2 r.1 with
  | some (.sc (.bl b)) => .ok (.val (.sc (.bl (!b))), r.2)
  | _ => .bad
def dIf (t : DenT) (a b : Den) : Den := fun E => (t E).bind fun r => if r.1 then a r.2 else b r.2
variable {ta tb : TE} {da db : Den} {pu3 : Bool}
/-- a part behind a part, the frames as one -/
theorem tO_then {σ : St} {I H I1 H1 : Hp} {E E1 : List D} {vs : List V} {f f1 : Ft} {r : R (Opd × List D)} {Q : VK} {p1 p2 p : Bool} (hp : p = true → p1 = true ∧ p2 = true) (a1 : Fr p1 I H f I1 H1 f1) (e1 : p1 = true → E1 = E)
    (h : Ans G W σ I H f vs r fun r => ∀ v I' H' f' g, Stt G σ I' H' r.2 vs f' → OpRel G I' H' r.2 vs r.1 v g → (∀ a, f' a + g a ≤ 1) → Fr p I H f I' H' (fadd f' g) → (p = true → r.2 = E) → Q v H') :
    Ans G W σ I1 H1 f1 vs r fun r => ∀ v I' H' f' g, Stt G σ I' H' r.2 vs f' → OpRel G I' H' r.2 vs r.1 v g → (∀ a, f' a + g a ≤ 1) → Fr p2 I1 H1 f1 I' H' (fadd f' g) → (p2 = true → r.2 = E1) → Q v H' :=
  (h.fwd a1).imp fun q _ k v I2 H2 f2 g2 s2 o2 n2 a2 e2 => k v I2 H2 f2 g2 s2 o2 n2 ((a1.trans a2).imp fun z => by simp [hp z]) fun z => by rw [e2 (hp z).2, e1 (hp z).1]
theorem t_andV (h1 : ∀ σ H Q, tO G W pu1 da σ H Q → ta σ H Q) (h2 : ∀ σ H Q, tO G W pu2 db σ H Q → tb σ H Q) : ∀ σ H Q, tO G W (pu1 && pu2) (dAndV da db) σ H Q → tAndV ta tb σ H Q := by
  rintro σ H Q ⟨I, E, vs, f, s, hh⟩
  refine h1 _ _ _ ⟨I, E, vs, f, s, hh.fst fun r er h => ?_⟩
  intro v I1 H1 f1 g1 s1 o1 n1 a1 e1
  have a1' : Fr pu1 I H f I1 H1 f1 := a1.less fun x z => by simp; omega
  split at h
  · rename_i ec
    obtain ⟨g', y, _⟩ := o1.cont s1 (fun a => by have := n1 a; omega) ec
    obtain ⟨rfl, _⟩ := y
    refine ⟨true, rfl, ?_⟩
    show tb σ H1 Q
    exact h2 _ _ _ ⟨I1, _, vs, f1, s1, tO_then (fun z => by simpa using z) a1' e1 h⟩
  · rename_i ec
    obtain ⟨g', y, _⟩ := o1.cont s1 (fun a => by have := n1 a; omega) ec
    obtain ⟨rfl, _⟩ := y
    refine ⟨false, rfl, ?_⟩
    show Q (.bl false) H1
    exact h (.bl false) I1 H1 f1 z0 s1 ⟨rfl, fun _ => rfl⟩ (fun a => by simp; exact s1.nd a) (a1.drop.imp fun z => by simp at z; exact z.1) fun z => e1 (by simp at z; exact z.1)
  · exact h.elim
theorem t_orV (h1 : ∀ σ H Q, tO G W pu1 da σ H Q → ta σ H Q) (h2 : ∀ σ H Q, tO G W pu2 db σ H Q → tb σ H Q) : ∀ σ H Q, tO G W (pu1 && pu2) (dOrV da db) σ H Q → tOrV ta tb σ H Q := by
  rintro σ H Q ⟨I, E, vs, f, s, hh⟩
  refine h1 _ _ _ ⟨I, E, vs, f, s, hh.fst fun r er h => ?_⟩
  intro v I1 H1 f1 g1 s1 o1 n1 a1 e1
  have a1' : Fr pu1 I H f I1 H1 f1 := a1.less fun x z => by simp; omega
  split at h
  · rename_i ec
    obtain ⟨g', y, _⟩ := o1.cont s1 (fun a => by have := n1 a; omega) ec
    obtain ⟨rfl, _⟩ := y
    refine ⟨false, rfl, ?_⟩
    show tb σ H1 Q
    exact h2 _ _ _ ⟨I1, _, vs, f1, s1, tO_then (fun z => by simpa using z) a1' e1 h⟩
  · rename_i ec
    obtain ⟨g', y, _⟩ := o1.cont s1 (fun a => by have := n1 a; omega) ec
    obtain ⟨rfl, _⟩ := y
    refine ⟨true, rfl, ?_⟩
    show Q (.bl true) H1
    exact h (.bl true) I1 H1 f1 z0 s1 ⟨rfl, fun _ => rfl⟩ (fun a => by simp; exact s1.nd a) (a1.drop.imp fun z => by simp at z; exact z.1) fun z => e1 (by simp at z; exact z.1)
  · exact h.elim
theorem t_notV (h1 : ∀ σ H Q, tO G W pu1 da σ H Q → ta σ H Q) : ∀ σ H Q, tO G W pu1 (dNotV da) σ H Q → tNotV ta σ H Q := by
  rintro σ H Q ⟨I, E, vs, f, s, hh⟩
  refine h1 _ _ _ ⟨I, E, vs, f, s, hh.fst fun r er h => ?_⟩
  intro v I1 H1 f1 g1 s1 o1 n1 a1 e1
  split at h
  · rename_i b ec
    obtain ⟨g', y, _⟩ := o1.cont s1 (fun a => by have := n1 a; omega) ec
    obtain ⟨rfl, _⟩ := y
    exact ⟨b, rfl, h _ I1 H1 f1 z0 s1 ⟨rfl, fun _ => rfl⟩ (fun a => by simp; exact s1.nd a) a1.drop e1⟩
  · exact h.elim
theorem t_if {a : DenT} (h0 : ∀ σ H Q, tT G W pu1 a σ H Q → t σ H Q) (h1 : ∀ σ H Q, tO G W pu2 da σ H Q → ta σ H Q) (h2 : ∀ σ H Q, tO G W pu3 db σ H Q → tb σ H Q) : ∀ σ H Q, tO G W (pu1 && (pu2 && pu3)) (dIf a da db) σ H Q → tIf t ta tb σ H Q := by
  rintro σ H Q ⟨I, E, vs, f, s, hh⟩
  refine h0 _ _ _ ⟨I, E, vs, f, s, hh.fst fun r er h => ?_⟩
  intro I1 H1 f1 s1 a1 e1
  obtain ⟨c, E1⟩ := r
  cases c with
  | true =>
    show ta σ H1 Q
    exact h1 _ _ _ ⟨I1, E1, vs, f1, s1, tO_then (fun z => by simp at z; exact ⟨z.1, z.2.1⟩) a1 e1 h⟩
  | false =>
    show tb σ H1 Q
    exact h2 _ _ _ ⟨I1, E1, vs, f1, s1, tO_then (fun z => by simp at z; exact ⟨z.1, z.2.2⟩) a1 e1 h⟩
end
end DL

end
section
set_option maxRecDepth 100000
/-! DL, part 6: statements. -/
namespace DL
open PySem L2

inductive S where
  | nx (E : List D) | rt (d : D) (E : List D) | bk (E : List D) | ct (E : List D)
  | exc (c : Nat) (fs : List (Str × V)) (E : List D) | bad
abbrev DenS := List D → S
def Agr (A : List Nat) (vs vs' : List V) : Prop := ∀ i, i ∉ A → vs'[i]? = vs[i]?
theorem Agr.refl {A : List Nat} {vs : List V} : Agr A vs vs := fun _ _ => rfl
theorem Agr.trans {A B : List Nat} {a b c : List V} (x : Agr A a b) (y : Agr B b c) : Agr (A ++ B) a c := fun i h => by
  simp only [List.mem_append, not_or] at h
  exact (y i h.2).trans (x i h.1)
theorem Agr.sub {A B : List Nat} {a b : List V} (x : Agr A a b) (h : ∀ i ∈ A, i ∈ B) : Agr B a b := fun i hi => x i fun q => hi (h i q)
def AnsS (G : Gm) (W : WX) (A : List Nat) (I H : Hp) (f : Ft) (vs : List V) (D : Ends) : S → Prop
  | .nx E' => ∀ σ' vs' I' H' f', Stt G σ' I' H' E' vs' f' → Agr A vs vs' → Fr false I H f I' H' f' → D.nx σ' H'
  | .bk E' => ∀ σ' vs' I' H' f', Stt G σ' I' H' E' vs' f' → Agr A vs vs' → Fr false I H f I' H' f' → D.bk σ' H'
  | .ct E' => ∀ σ' vs' I' H' f', Stt G σ' I' H' E' vs' f' → Agr A vs vs' → Fr false I H f I' H' f' → D.ct σ' H'
  | .rt d E' => ∀ v σ' vs' I' H' f' g, Stt G σ' I' H' E' vs' f' → Agr A vs vs' → Rp G I' H' d v g → (∀ a, f' a + g a ≤ 1) → Fr false I H f I' H' (fadd f' g) → D.rt v H'
  | .exc c fs E' => ∀ cls d σ' vs' I' H' f', Stt G σ' I' H' E' vs' f' → Agr A vs vs' → ExcAt G H' cls d c fs → Fr false I H f I' H' f' → W cls d σ' H'
  | .bad => False
def tS (G : Gm) (W : WX) (A : List Nat) (den : DenS) : TS := fun D σ H => ∃ I E vs f, Stt G σ I H E vs f ∧ AnsS G W A I H f vs D (den E)
def S.bind (s : S) (k : List D → S) : S := match s with
  | .nx E => k E
  | s => s
def R.toS {α : Type} (r : R α) (k : α → S) : S := match r with
  | .ok a => k a
  | .exc c fs E => .exc c fs E
  | .bad => .bad
section
variable {G : Gm} {W : WX} {A B C : List Nat} {I H I1 H1 : Hp} {f f1 : Ft} {vs vs1 : List V} {En : Ends} {s : S} {σ : St}
theorem AnsS.fwd (h : AnsS G W B I H f vs En s) (ag : Agr A vs vs1) (fr : Fr false I H f I1 H1 f1) (hB : ∀ i, i ∈ A ∨ i ∈ C → i ∈ B) : AnsS G W C I1 H1 f1 vs1 En s := by
  have hb : ∀ {vs2}, Agr C vs1 vs2 → Agr B vs vs2 := fun {vs2} z => (ag.trans z).sub fun i hi => hB i (by simpa using hi)
  cases s with
  | nx E => exact fun σ' vs' I' H' f' s a b => h σ' vs' I' H' f' s (hb a) (fr.trans b)
  | bk E => exact fun σ' vs' I' H' f' s a b => h σ' vs' I' H' f' s (hb a) (fr.trans b)
  | ct E => exact fun σ' vs' I' H' f' s a b => h σ' vs' I' H' f' s (hb a) (fr.trans b)
  | rt d E => exact fun v σ' vs' I' H' f' g s a r n b => h v σ' vs' I' H' f' g s (hb a) r n (fr.trans b)
  | exc c fs E => exact fun cls d σ' vs' I' H' f' s a x b => h cls d σ' vs' I' H' f' s (hb a) x (fr.trans b)
  | bad => exact h
/-- an expression ahead of a statement -/
theorem Ans.of_S {α : Type} {r : R α} {k : α → S} {k1 : α → Prop} (h : AnsS G W A I H f vs En (r.toS k)) (i : ∀ a, r = .ok a → AnsS G W A I H f vs En (k a) → k1 a) : Ans G W σ I H f vs r k1 := by
  cases r with
  | ok a => exact i a rfl h
  | exc c fs E => exact fun cls d I' H' f' s x b => h cls d σ vs I' H' f' s Agr.refl x b
  | bad => exact h
theorem AnsS.bind {k : List D → S} (h : AnsS G W A I H f vs En (s.bind k)) {D1 : Ends} (e1 : D1.rt = En.rt) (e2 : D1.bk = En.bk) (e3 : D1.ct = En.ct) (hk : ∀ E, s = .nx E → AnsS G W A I H f vs En (k E) → AnsS G W A I H f vs D1 (.nx E)) : AnsS G W A I H f vs D1 s := by
  cases s with
  | nx E => exact hk E rfl h
  | bk E => show ∀ σ' vs' I' H' f', _ → _ → _ → D1.bk σ' H'; rw [e2]; exact h
  | ct E => show ∀ σ' vs' I' H' f', _ → _ → _ → D1.ct σ' H'; rw [e3]; exact h
  | rt d E => show ∀ v σ' vs' I' H' f' g, _ → _ → _ → _ → _ → D1.rt v H'; rw [e1]; exact h
  | exc c fs E => exact h
  | bad => exact h
end

/-! ### blocks, small statements -/
def dNext : DenS := fun E => .nx E
def dSeq (a b : DenS) : DenS := fun E => (a E).bind b
def dDrop (d : Den) : DenS := fun E => (d E).toS fun r => .nx r.2
def dRet (d : Den) : DenS := fun E => (d E).toS fun r => match r.1 with
  | .val c => .rt c r.2
  | .plc _ _ => .bad
def dRetN : DenS := fun E => .rt (.sc .non) E
def dBrk : DenS := fun E => .bk E
def dCnt : DenS := fun E => .ct E
def dIfS (t : DenT) (a b : DenS) : DenS := fun E => (t E).toS fun r => if r.1 then a r.2 else b r.2
section
variable {G : Gm} {W : WX} {A B C : List Nat} {pu : Bool} {te : TE} {t u : TS} {tt : TT} {d : Den} {a b : DenS} {dt : DenT}
theorem t_next : ∀ D σ H, tS G W [] dNext D σ H → tNext D σ H := by
  rintro D σ H ⟨I, E, vs, f, s, h⟩
  exact h σ vs I H f s Agr.refl Fr.refl
theorem t_seq (h1 : ∀ D σ H, tS G W A a D σ H → t D σ H) (h2 : ∀ D σ H, tS G W B b D σ H → u D σ H) : ∀ D σ H, tS G W (A ++ B) (dSeq a b) D σ H → tSeq t u D σ H := by
  rintro D σ H ⟨I, E, vs, f, s, h⟩
  refine h1 _ _ _ ⟨I, E, vs, f, s, ?_⟩
  have h' : AnsS G W (A ++ B) I H f vs D ((a E).bind b) := h
  cases ea : a E with
  | nx E1 =>
    rw [ea] at h'
    exact fun σ' vs' I' H' f' s' ag fr => h2 _ _ _ ⟨I', E1, vs', f', s', AnsS.fwd h' ag fr fun i hi => by simpa using hi⟩
  | bk E1 => rw [ea] at h'; exact fun σ' vs' I' H' f' s' ag fr => h' σ' vs' I' H' f' s' (ag.sub fun i hi => List.mem_append_left _ hi) fr
  | ct E1 => rw [ea] at h'; exact fun σ' vs' I' H' f' s' ag fr => h' σ' vs' I' H' f' s' (ag.sub fun i hi => List.mem_append_left _ hi) fr
  | rt d E1 => rw [ea] at h'; exact fun v σ' vs' I' H' f' g s' ag r n fr => h' v σ' vs' I' H' f' g s' (ag.sub fun i hi => List.mem_append_left _ hi) r n fr
  | exc c fs E1 => rw [ea] at h'; exact fun cls d σ' vs' I' H' f' s' ag x fr => h' cls d σ' vs' I' H' f' s' (ag.sub fun i hi => List.mem_append_left _ hi) x fr
  | bad => rw [ea] at h'; exact h'
theorem t_drop (h0 : ∀ σ H Q, tO G W pu d σ H Q → te σ H Q) : ∀ D σ H, tS G W [] (dDrop d) D σ H → tDrop te D σ H := by
  rintro D σ H ⟨I, E, vs, f, s, hh⟩
  refine h0 _ _ _ ⟨I, E, vs, f, s, Ans.of_S hh fun r er h => ?_⟩
  exact fun v I' H' f' g s' o n fr e => h σ vs I' H' f' s' Agr.refl ((fr.less fun x z => by simp; omega).imp fun z => by cases z)
theorem t_ret (h0 : ∀ σ H Q, tO G W pu d σ H Q → te σ H Q) : ∀ D σ H, tS G W [] (dRet d) D σ H → tRet te D σ H := by
  rintro D σ H ⟨I, E, vs, f, s, hh⟩
  refine h0 _ _ _ ⟨I, E, vs, f, s, Ans.of_S hh fun r er h => ?_⟩
  obtain ⟨o, E1⟩ := r
  cases o with
  | val c => exact fun v I' H' f' g s' o n fr e => h v σ vs I' H' f' g s' Agr.refl o n (fr.imp fun z => by cases z)
  | plc i p => exact h.elim
theorem t_retN : ∀ D σ H, tS G W [] dRetN D σ H → tRetN D σ H := by
  rintro D σ H ⟨I, E, vs, f, s, h⟩
  exact h .non σ vs I H f z0 s Agr.refl ⟨rfl, fun _ => rfl⟩ (fun a => by simp; exact s.nd a) (Fr.refl.less fun x z => by simpa using z)
theorem t_brk : ∀ D σ H, tS G W [] dBrk D σ H → tBreak D σ H := by
  rintro D σ H ⟨I, E, vs, f, s, h⟩
  exact h σ vs I H f s Agr.refl Fr.refl
theorem t_cnt : ∀ D σ H, tS G W [] dCnt D σ H → tCont D σ H := by
  rintro D σ H ⟨I, E, vs, f, s, h⟩
  exact h σ vs I H f s Agr.refl Fr.refl
theorem AnsS.wide {I H : Hp} {f : Ft} {vs : List V} {En : Ends} {s : S} (h : AnsS G W B I H f vs En s) (hA : ∀ i ∈ A, i ∈ B) : AnsS G W A I H f vs En s := by
  cases s with
  | nx E => exact fun σ' vs' I' H' f' s a b => h σ' vs' I' H' f' s (a.sub hA) b
  | bk E => exact fun σ' vs' I' H' f' s a b => h σ' vs' I' H' f' s (a.sub hA) b
  | ct E => exact fun σ' vs' I' H' f' s a b => h σ' vs' I' H' f' s (a.sub hA) b
  | rt d E => exact fun v σ' vs' I' H' f' g s a r n b => h v σ' vs' I' H' f' g s (a.sub hA) r n b
  | exc c fs E => exact fun cls d σ' vs' I' H' f' s a x b => h cls d σ' vs' I' H' f' s (a.sub hA) x b
  | bad => exact h
theorem t_ifS (h0 : ∀ σ H Q, tT G W pu dt σ H Q → tt σ H Q) (h1 : ∀ D σ H, tS G W A a D σ H → t D σ H) (h2 : ∀ D σ H, tS G W B b D σ H → u D σ H) : ∀ D σ H, tS G W (A ++ B) (dIfS dt a b) D σ H → tIfS tt t u D σ H := by
  rintro D σ H ⟨I, E, vs, f, s, hh⟩
  refine h0 _ _ _ ⟨I, E, vs, f, s, Ans.of_S hh fun r er h => ?_⟩
  intro I1 H1 f1 s1 a1 e1
  obtain ⟨c, E1⟩ := r
  have a1' := a1.imp (p2 := false) fun z => by cases z
  cases c with
  | true =>
    show t D σ H1
    exact h1 _ _ _ ⟨I1, E1, vs, f1, s1, (AnsS.fwd (A := []) (C := A ++ B) h Agr.refl a1' fun i hi => by simpa using hi).wide fun i hi => List.mem_append_left _ hi⟩
  | false =>
    show u D σ H1
    exact h2 _ _ _ ⟨I1, E1, vs, f1, s1, (AnsS.fwd (A := []) (C := A ++ B) h Agr.refl a1' fun i hi => by simpa using hi).wide fun i hi => List.mem_append_right _ hi⟩
end

/-! ### targets -/
def setAll : List D → List Nat → List D → Option (List D)
  | E, [], [] => some E
  | E, i :: is, d :: ds => if i < E.length then setAll (E.set i d) is ds else none
  | _, _, _ => none
def gNs : List Nat → TGs
  | [] => gNil
  | i :: is => gCons (gName i) (gNs is)
/-- what a target does with data -/
abbrev DenG := D → List D → Option (List D)
def dgName (i : Nat) : DenG := fun d E => if i < E.length then some (E.set i d) else none
def dgTup (is : List Nat) : DenG := fun d E => match d with
  | .nd .tup ds => setAll E is ds
  | _ => none
def dgLst (is : List Nat) : DenG := fun d E => match d with
  | .nd (.lst _) ds => setAll E is ds
  | _ => none
def TgS (G : Gm) (A : List Nat) (g : TG) (dg : DenG) : Prop := ∀ (d : D) (x : V) (σ : St) (I H : Hp) (E E' : List D) (vs : List V) (f g1 : Ft) (Q : St → Hp → Prop), Stt G σ I H E vs f → Rp G I H d x g1 → (∀ a, f a + g1 a ≤ 1) → dg d E = some E' →
  (∀ σ' vs' f', Stt G σ' I H E' vs' f' → Agr A vs vs' → (∀ a, f' a ≤ f a + g1 a) → ((∀ j, j ∉ A → σ'[j]? = σ[j]?) ∧ σ'.length = σ.length) → Q σ' H) → g x σ H Q
section
variable {G : Gm}
theorem Stt.set {σ : St} {I H : Hp} {E : List D} {vs : List V} {f g : Ft} {d : D} {v : V} {i : Nat} (s : Stt G σ I H E vs f) (x : Rp G I H d v g) (n : ∀ a, f a + g a ≤ 1) (hi : i < E.length) :
    ∃ f', Stt G (σ.set i (some v)) I H (E.set i d) (vs.set i v) f' ∧ (∀ a, f' a ≤ f a + g a) := by
  obtain ⟨w, g0, h, ev, y, q, k⟩ := s.rp.get (List.getElem?_eq_getElem hi)
  have k' := k (I' := I) (H' := H) (d' := d) (v' := v) (g' := g) (fun _ _ e => e) x fun a z => ⟨(s.rp.trk a (by have := q a; omega)).1, rfl⟩
  refine ⟨_, ⟨⟨by simp [s.sl.1], fun j d' v' e1 n1 e2 => ?_⟩, s.sm, k', fun a => by have := q a; have := n a; simp; omega⟩, fun a => by have := q a; simp; omega⟩
  by_cases hj : i = j
  · subst hj
    have hv : i < vs.length := by rw [s.rp.len]; exact hi
    rw [List.getElem?_set_self hv] at e2
    rw [List.getElem?_set_self (by rw [s.sl.1]; exact hi)]
    cases e2; rfl
  · rw [List.getElem?_set_ne hj] at e1 e2 ⊢
    exact s.sl.2 j d' v' e1 n1 e2
theorem tg_name {i : Nat} : TgS G [i] (gName i) (dgName i) := by
  intro d x σ I H E E' vs f g1 Q s r n e k
  unfold dgName at e
  split at e
  · rename_i hi
    cases e
    obtain ⟨f', s', le⟩ := s.set r n hi
    refine k _ _ f' s' (fun j hj => ?_) le ⟨fun j hj => ?_, by simp⟩
    · rw [List.getElem?_set_ne (by rintro rfl; simp at hj)]
    · rw [List.getElem?_set_ne (by rintro rfl; simp at hj)]
  · cases e
theorem tg_names : ∀ {is : List Nat} {ds : List D} {xs : List V} {σ : St} {I H : Hp} {E E' : List D} {vs : List V} {f g1 : Ft} {Q : St → Hp → Prop}, Stt G σ I H E vs f → Rps G I H ds xs g1 → (∀ a, f a + g1 a ≤ 1) → setAll E is ds = some E' →
    (∀ σ' vs' f', Stt G σ' I H E' vs' f' → Agr is vs vs' → (∀ a, f' a ≤ f a + g1 a) → ((∀ j, j ∉ is → σ'[j]? = σ[j]?) ∧ σ'.length = σ.length) → Q σ' H) → gNs is xs σ H Q
  | [], [], xs, σ, I, H, E, E', vs, f, g1, Q, s, r, n, e, k => by
    cases e
    exact ⟨r.1, k σ vs f s Agr.refl (fun a => by omega) ⟨fun _ _ => rfl, rfl⟩⟩
  | [], _ :: _, _, _, _, _, _, _, _, _, _, _, _, _, _, e, _ => by cases e
  | _ :: _, [], _, _, _, _, _, _, _, _, _, _, _, _, _, e, _ => by cases e
  | i :: is, d :: ds, xs, σ, I, H, E, E', vs, f, g1, Q, s, r, n, e, k => by
    unfold setAll at e
    split at e
    · rename_i hi
      obtain ⟨v, ws, ga, gb, rfl, y, z, q⟩ := r
      obtain ⟨f', s', le⟩ := s.set y (fun a => by have := n a; have := q a; omega) hi
      refine ⟨v, ws, rfl, ?_⟩
      show gNs is ws (σ.set i (some v)) H Q
      refine tg_names s' z (fun a => by have := n a; have := q a; have := le a; omega) e fun σ' vs' f'' s'' ag le' sg => k σ' vs' f'' s'' (fun j hj => ?_) (fun a => by have := le a; have := le' a; have := q a; omega) ⟨fun j hj => ?_, by rw [sg.2]; simp⟩
      · simp only [List.mem_cons, not_or] at hj
        rw [ag j hj.2, List.getElem?_set_ne (fun e => hj.1 e.symm)]
      · simp only [List.mem_cons, not_or] at hj
        rw [sg.1 j hj.2, List.getElem?_set_ne (fun e => hj.1 e.symm)]
    · cases e
theorem setAll_len : ∀ {is : List Nat} {ds E E' : List D}, setAll E is ds = some E' → ds.length = is.length
  | [], [], E, E', e => rfl
  | [], _ :: _, _, _, e => by cases e
  | _ :: _, [], _, _, e => by cases e
  | i :: is, d :: ds, E, E', e => by
    unfold setAll at e
    split at e
    · simp [setAll_len e]
    · cases e
theorem tg_tup {K : PySem.W.Frag} {is : List Nat} {n : Nat} (hn : is.length = n) : TgS G is (gTup K n (gNs is)) (dgTup is) := by
  intro d x σ I H E E' vs f g1 Q s r nd e k
  unfold dgTup at e
  split at e
  · rename_i ds
    obtain ⟨p, ws, g, o, rfl, st, y, q⟩ := r
    cases st
    rcases q with ⟨mu, _⟩ | ⟨_, eI, q⟩
    · cases mu
    · refine ⟨p, ws, rfl, SqT.of (s.sm _ _ eI), ?_, tg_names s y (fun a => by have := nd a; have := q a; omega) e fun σ' vs' f' s' ag le sg => k σ' vs' f' s' ag (fun a => by have := le a; have := q a; omega) sg⟩
      rw [y.len, setAll_len e, hn]
  · cases e
theorem tg_lst {K : PySem.W.Frag} {is : List Nat} {n : Nat} (hn : is.length = n) : TgS G is (gLst K n (gNs is)) (dgLst is) := by
  intro d x σ I H E E' vs f g1 Q s r nd e k
  unfold dgLst at e
  split at e
  · rename_i m ds
    obtain ⟨p, ws, g, o, rfl, st, y, q⟩ := r
    cases st
    have eH : H p = some (.lst ws) := by
      rcases q with ⟨_, _, eH, _⟩ | ⟨_, eI, _⟩
      · exact eH
      · exact s.sm _ _ eI
    have le : ∀ a, g a ≤ g1 a := fun a => by rcases q with ⟨_, _, _, q⟩ | ⟨_, _, q⟩ <;> (have := q a; omega)
    refine ⟨p, ws, rfl, SqL.of eH, ?_, tg_names s y (fun a => by have := nd a; have := le a; omega) e fun σ' vs' f' s' ag l sg => k σ' vs' f' s' ag (fun a => by have := l a; have := le a; omega) sg⟩
    rw [y.len, setAll_len e, hn]
  · cases e
end

/-! ### target = value -/
def dAsg (d : Den) (dg : DenG) : DenS := fun E => (d E).toS fun r => match r.1 with
  | .val c => match dg c r.2 with
    | some E' => .nx E'
    | none => .bad
  | .plc _ _ => .bad
def dPar (is : List Nat) (das : DenA) : DenS := fun E => (das E).toS fun r => match opVals r.1 with
  | some ds => match setAll r.2 is ds with
    | some E' => .nx E'
    | none => .bad
  | none => .bad
section
variable {G : Gm} {W : WX} {A : List Nat} {pu : Bool} {te : TE} {ta : TA} {d : Den} {das : DenA} {g : TG} {dg : DenG}
theorem Fr.cut {I H I1 H1 : Hp} {f f1 f2 : Ft} (a : Fr pu I H f I1 H1 f1) (h : ∀ x, f2 x ≤ f1 x) : Fr false I H f I1 H1 f2 := (a.less fun x z => by have := h x; omega).imp fun z => by cases z
theorem t_asg (hg : TgS G A g dg) (h0 : ∀ σ H Q, tO G W pu d σ H Q → te σ H Q) : ∀ D σ H, tS G W A (dAsg d dg) D σ H → tAsg te g D σ H := by
  rintro D σ H ⟨I, E, vs, f, s, hh⟩
  refine h0 _ _ _ ⟨I, E, vs, f, s, Ans.of_S hh fun r er h => ?_⟩
  obtain ⟨o, E1⟩ := r
  cases o with
  | val c =>
    intro v I' H' f' g1 s' o n fr e
    dsimp only at h
    split at h
    · rename_i E' e'
      exact hg c v σ I' H' E1 E' vs f' g1 D.nx s' o n e' fun σ' vs' f2 s2 ag le _ => h σ' vs' I' H' f2 s2 ag (fr.cut le)
    · exact h.elim
  | plc i p => exact h.elim
theorem t_par {i j : Nat} (ha : ∀ σ H Q, tA G W pu das σ H Q → ta σ H Q) : ∀ D σ H, tS G W [i, j] (dPar [i, j] das) D σ H → tPar i j ta D σ H := by
  rintro D σ H ⟨I, E, vs, f, s, hh⟩
  refine ha _ _ _ ⟨I, E, vs, f, s, Ans.of_S hh fun r er h => ?_⟩
  intro ws I' H' f' g1 s' o n fr e
  split at h
  · rename_i ds ed
    split at h
    · rename_i E' e'
      have x := o.vals ed
      have q := tg_names (Q := D.nx) s' x n e' fun σ' vs' f2 s2 ag le _ => h σ' vs' I' H' f2 s2 ag (fr.cut le)
      obtain ⟨v, r1, rfl, w, r2, rfl, rfl, q⟩ := q
      exact ⟨v, w, rfl, q⟩
    · exact h.elim
  · exact h.elim
end

/-! ### while -/
def whileN : Nat → DenT → DenS → DenS
  | 0, _, _ => fun _ => .bad
  | n + 1, c, b => fun E => (c E).toS fun r => if r.1 then (match b r.2 with
    | .nx E' => whileN n c b E'
    | .ct E' => whileN n c b E'
    | .bk E' => .nx E'
    | s => s) else .nx r.2
open Classical in
noncomputable def dWhile (c : DenT) (b : DenS) : DenS := fun E => if h : ∃ n, whileN n c b E ≠ .bad then whileN (choose h) c b E else .bad
theorem whileN_mono {c : DenT} {b : DenS} : ∀ {n m : Nat} {E : List D}, n ≤ m → whileN n c b E ≠ .bad → whileN m c b E = whileN n c b E
  | 0, m, E, _, h => absurd rfl h
  | n + 1, 0, E, h, _ => by omega
  | n + 1, m + 1, E, hl, h => by
    unfold whileN at h ⊢
    cases ec : c E with
    | exc _ _ _ => rfl
    | bad => rfl
    | ok r =>
      rw [ec] at h
      have h' : (if r.1 then (match b r.2 with
        | .nx E' => whileN n c b E'
        | .ct E' => whileN n c b E'
        | .bk E' => .nx E'
        | s => s) else S.nx r.2) ≠ .bad := h
      show (if r.1 then (match b r.2 with
        | .nx E' => whileN m c b E'
        | .ct E' => whileN m c b E'
        | .bk E' => .nx E'
        | s => s) else S.nx r.2) = (if r.1 then (match b r.2 with
        | .nx E' => whileN n c b E'
        | .ct E' => whileN n c b E'
        | .bk E' => .nx E'
        | s => s) else S.nx r.2)
      split
      · rename_i hr
        rw [if_pos hr] at h'
        cases eb : b r.2 with
        | nx E' => rw [eb] at h'; exact whileN_mono (by omega) h'
        | ct E' => rw [eb] at h'; exact whileN_mono (by omega) h'
        | bk E' => rfl
        | rt _ _ => rfl
        | exc _ _ _ => rfl
        | bad => rfl
      · rfl
theorem dWhile_of {c : DenT} {b : DenS} {n : Nat} {E : List D} {s : S} (h : whileN n c b E = s) (hs : s ≠ .bad) : dWhile c b E = s := by
  have ex : ∃ n, whileN n c b E ≠ .bad := ⟨n, by rw [h]; exact hs⟩
  unfold dWhile
  rw [dif_pos ex]
  have e := Classical.choose_spec ex
  rcases Nat.le_total (Classical.choose ex) n with q | q
  · rw [← h]; exact (whileN_mono q e).symm
  · rw [whileN_mono q (by rw [h]; exact hs), h]
/-- one turn -/
theorem dWhile_turn {c : DenT} {b : DenS} {E : List D} : dWhile c b E = (c E).toS fun r => if r.1 then (match b r.2 with
    | .nx E' => dWhile c b E'
    | .ct E' => dWhile c b E'
    | .bk E' => .nx E'
    | s => s) else .nx r.2 := by
  have key : ∀ n, whileN (n + 1) c b E ≠ .bad → whileN (n + 1) c b E = (c E).toS fun r => if r.1 then (match b r.2 with
    | .nx E' => dWhile c b E'
    | .ct E' => dWhile c b E'
    | .bk E' => .nx E'
    | s => s) else .nx r.2 := fun n h => by
    unfold whileN at h ⊢
    cases ec : c E with
    | exc _ _ _ => rfl
    | bad => rfl
    | ok r =>
      rw [ec] at h
      show (if r.1 then _ else _) = (if r.1 then _ else _)
      have h' : (if r.1 then (match b r.2 with
        | .nx E' => whileN n c b E'
        | .ct E' => whileN n c b E'
        | .bk E' => .nx E'
        | s => s) else S.nx r.2) ≠ .bad := h
      split
      · rename_i hr
        rw [if_pos hr] at h'
        cases eb : b r.2 with
        | nx E' => rw [eb] at h'; exact (dWhile_of rfl h').symm
        | ct E' => rw [eb] at h'; exact (dWhile_of rfl h').symm
        | bk E' => rfl
        | rt _ _ => rfl
        | exc _ _ _ => rfl
        | bad => rfl
      · rfl
  by_cases ex : ∃ n, whileN n c b E ≠ .bad
  · obtain ⟨n, hn⟩ := ex
    cases n with
    | zero => exact absurd rfl hn
    | succ n => rw [dWhile_of rfl hn]; exact key n hn
  · have e : dWhile c b E = .bad := by unfold dWhile; rw [dif_neg ex]
    rw [e]
    have all : ∀ n, whileN n c b E = .bad := fun n => Classical.byContradiction fun z => ex ⟨n, z⟩
    cases ec : c E with
    | exc cc fs E1 => have := all 1; unfold whileN at this; rw [ec] at this; exact absurd this (by simp [R.toS])
    | bad => rfl
    | ok r =>
      show S.bad = (if r.1 then _ else _)
      split
      · rename_i hr
        have step : ∀ n, (match b r.2 with
          | .nx E' => whileN n c b E'
          | .ct E' => whileN n c b E'
          | .bk E' => .nx E'
          | s => s) = S.bad := fun n => by
          have := all (n + 1)
          unfold whileN at this
          rw [ec] at this
          have t2 : (if r.1 then (match b r.2 with
            | .nx E' => whileN n c b E'
            | .ct E' => whileN n c b E'
            | .bk E' => .nx E'
            | s => s) else S.nx r.2) = .bad := this
          rw [if_pos hr] at t2
          exact t2
        cases eb : b r.2 with
        | nx E' =>
          rw [eb] at step
          have : ¬ ∃ n, whileN n c b E' ≠ .bad := fun ⟨n, h⟩ => h (step n)
          show S.bad = dWhile c b E'
          unfold dWhile; rw [dif_neg this]
        | ct E' =>
          rw [eb] at step
          have : ¬ ∃ n, whileN n c b E' ≠ .bad := fun ⟨n, h⟩ => h (step n)
          show S.bad = dWhile c b E'
          unfold dWhile; rw [dif_neg this]
        | bk E' => rw [eb] at step; exact absurd (step 0) (by simp)
        | rt _ _ => rw [eb] at step; exact absurd (step 0) (by simp)
        | exc _ _ _ => rw [eb] at step; exact absurd (step 0) (by simp)
        | bad => rfl
      · rename_i hr
        have := all 1
        unfold whileN at this
        rw [ec] at this
        have t2 : (if r.1 then (match b r.2 with
          | .nx E' => whileN 0 c b E'
          | .ct E' => whileN 0 c b E'
          | .bk E' => .nx E'
          | s => s) else S.nx r.2) = .bad := this
        rw [if_neg hr] at t2
        exact t2.symm
section
variable {G : Gm} {W : WX} {A : List Nat} {pu : Bool} {tt : TT} {t : TS} {c : DenT} {b : DenS}
theorem t_while (h0 : ∀ σ H Q, tT G W pu c σ H Q → tt σ H Q) (h1 : ∀ D σ H, tS G W A b D σ H → t D σ H) : ∀ D σ H, tS G W A (dWhile c b) D σ H → tWhile tt t D σ H := by
  rintro D σ H ⟨I, E, vs, f, s, hh⟩
  have ex : ∃ n, whileN n c b E ≠ .bad := Classical.byContradiction fun z => by unfold dWhile at hh; rw [dif_neg z] at hh; exact hh
  obtain ⟨n, hn⟩ := ex
  rw [dWhile_of rfl hn] at hh
  refine ⟨fun m σ' H' => ∃ I' E' vs' f', Stt G σ' I' H' E' vs' f' ∧ AnsS G W A I' H' f' vs' D (whileN m c b E'), ⟨n, I, E, vs, f, s, hh⟩, ?_⟩
  rintro m σ1 H1 ⟨I1, E1, vs1, f1, s1, h⟩
  cases m with
  | zero => exact h.elim
  | succ m =>
    refine h0 _ _ _ ⟨I1, E1, vs1, f1, s1, Ans.of_S h fun r er h => ?_⟩
    intro I2 H2 f2 s2 a2 e2
    obtain ⟨k, E2⟩ := r
    have a2' := a2.imp (p2 := false) fun z => by cases z
    cases k with
    | false => exact h σ1 vs1 I2 H2 f2 s2 Agr.refl a2'
    | true =>
      refine ⟨fun σ' H' => ∃ I' E' vs' f', Stt G σ' I' H' E' vs' f' ∧ AnsS G W A I' H' f' vs' D (whileN m c b E'), fun σ' H' q => ⟨m, Nat.lt_succ_self _, q⟩, h1 _ _ _ ⟨I2, E2, vs1, f2, s2, ?_⟩⟩
      have h' : AnsS G W A I1 H1 f1 vs1 D (match b E2 with
        | .nx E' => whileN m c b E'
        | .ct E' => whileN m c b E'
        | .bk E' => .nx E'
        | s => s) := h
      cases eb : b E2 with
      | nx E' => rw [eb] at h'; exact fun σ' vs' I' H' f' s' ag fr => ⟨I', E', vs', f', s', AnsS.fwd h' ag (a2'.trans fr) fun i hi => by simpa using hi⟩
      | ct E' => rw [eb] at h'; exact fun σ' vs' I' H' f' s' ag fr => ⟨I', E', vs', f', s', AnsS.fwd h' ag (a2'.trans fr) fun i hi => by simpa using hi⟩
      | bk E' => rw [eb] at h'; exact fun σ' vs' I' H' f' s' ag fr => h' σ' vs' I' H' f' s' ag (a2'.trans fr)
      | rt d E' => rw [eb] at h'; exact fun v σ' vs' I' H' f' g s' ag r n fr => h' v σ' vs' I' H' f' g s' ag r n (a2'.trans fr)
      | exc cc fs E' => rw [eb] at h'; exact fun cls d σ' vs' I' H' f' s' ag x fr => h' cls d σ' vs' I' H' f' s' ag x (a2'.trans fr)
      | bad => rw [eb] at h'; exact h'
end
end DL

end
section
set_option maxRecDepth 100000
/-! DL, part 7: loops over what is walked, comprehensions, defs. -/
namespace DL
open PySem L2

/-- what an iterator yields from now on, whatever else happens -/
def Walk (G : Gm) (I0 : Hp) (J : It) (ds : List D) : Prop := ∀ (i : Nat) (I H : Hp), (∀ a o, I0 a = some o → I a = some o) → (∀ a o, I a = some o → H a = some o) →
  (∀ d, ds[i]? = some d → J.go i H ∧ ∀ x H', J.yld i H x H' → ∃ I', Nw I H I' H' ∧ Rp G I' H' d x z0) ∧ (ds.length ≤ i → J.stop i H)
theorem Walk.on {G : Gm} {I0 I1 : Hp} {J : It} {ds : List D} (w : Walk G I0 J ds) (h : ∀ a o, I0 a = some o → I1 a = some o) : Walk G I1 J ds := fun i I H a b => w i I H (fun x o e => a x o (h x o e)) b
abbrev DenI := List D → R (List D × List D)
def tI (G : Gm) (W : WX) (den : DenI) : TI := fun σ H Rd => ∃ I E vs f, Stt G σ I H E vs f ∧ Ans G W σ I H f vs (den E) fun r =>
  ∀ J I' H' f', Stt G σ I' H' r.2 vs f' → Fr false I H f I' H' f' → Walk G I' J r.1 → Rd J H'
theorem PI_imp {X : Cx} {tg e : Expr} {t t' : TI} (h : PI X tg e t) (k : ∀ σ H Q, t' σ H Q → t σ H Q) : PI X tg e t' := ⟨fun pins s σ H Q I q => h.run pins s σ H Q I (k σ H Q q)⟩
theorem PI_or {X : Cx} {tg e : Expr} {t t' : TI} (h : PI X tg e t) (h' : PI X tg e t') : PI X tg e (fun σ H Q => t σ H Q ∨ t' σ H Q) := ⟨fun pins s σ H Q I q => q.elim (h.run pins s σ H Q I) (h'.run pins s σ H Q I)⟩
theorem PE_or {X : Cx} {e : Expr} {t t' : TE} (h : PE X e t) (h' : PE X e t') : PE X e (fun σ H Q => t σ H Q ∨ t' σ H Q) := ⟨fun pins s σ H Q I q => q.elim (h.run pins s σ H Q I) (h'.run pins s σ H Q I)⟩
def rngD (lo : Int) (n : Nat) : List D := (List.range n).map fun (k : Nat) => .sc (.int (lo + (k : Int)))
def enumFrom : Nat → List D → List D
  | _, [] => []
  | k, d :: ds => .nd .tup [.sc (.int (k : Int)), d] :: enumFrom (k + 1) ds
def zipD : List D → List D → List D
  | d :: ds, e :: es => .nd .tup [d, e] :: zipD ds es
  | _, _ => []
/-- over a list, a tuple or a text's signs -/
def itK (r : Opd × List D) : R (List D × List D) := match r.1 with
  | .val (.nd k ds) => if k.seq then .ok (fzs ds, r.2) else .bad
  | .val (.sc (.str z)) => .ok (z.cps.toList.map fun c => .sc (.str ⟨#[c]⟩), r.2)
  | _ => .bad
def iSeq (d : Den) : DenI := fun E => (d E).bind itK
section
variable {G : Gm} {W : WX} {pu : Bool} {d : Den} {te : TE}
theorem Rps.get0 {I H : Hp} {ds : List D} {vs : List V} {i : Nat} {d : D} (x : Rps G I H ds vs z0) (e : ds[i]? = some d) : ∃ v, vs[i]? = some v ∧ Rp G I H d v z0 := by
  obtain ⟨v, g, h, ev, y, q, _⟩ := x.get e
  exact ⟨v, ev, y.eqv fun a => by have := q a; simp at this ⊢; omega⟩
theorem Rp.up {I H I1 H1 : Hp} {d : D} {v : V} (x : Rp G I H d v z0) (h : ∀ a o, I a = some o → I1 a = some o) : Rp G I1 H1 d v z0 := x.move h fun a z => by simp at z
theorem Rps.up {I H I1 H1 : Hp} {ds : List D} {vs : List V} (x : Rps G I H ds vs z0) (h : ∀ a o, I a = some o → I1 a = some o) : Rps G I1 H1 ds vs z0 := x.move h fun a z => by simp at z
theorem walk_list {K : PySem.W.Frag} {I H : Hp} {p : Addr} {ob : HO} {k : Kd} {ds : List D} {ws : List V} (hs : k.seq = true) (st : k.st G ws ob) (e : I p = some ob) (x : Rps G I H ds ws z0) (hk : k ≠ .tup) : Walk G I (Itl K p) ds := by
  intro i I1 H1 a b
  have sq : SqL K H1 p ws := by
    rcases Kd.seq_at (K := K) (H := H1) hs st (b _ _ (a _ _ e)) with z | z
    · exact z
    · cases k with
      | tup => exact absurd rfl hk
      | lst m => cases st; exact SqL.of (b _ _ (a _ _ e))
      | dik _ _ => cases hs
      | dit _ _ => cases hs
      | obj _ _ _ => cases hs
  refine ⟨fun d ed => ?_, fun hl => ⟨ws, sq, by rw [x.len]; exact hl⟩⟩
  obtain ⟨v, ev, y⟩ := x.get0 ed
  refine ⟨⟨ws, v, sq, ev⟩, fun w H' q => ?_⟩
  obtain ⟨rfl, q⟩ := q
  have := q ws sq
  rw [ev] at this; cases this
  exact ⟨I1, Nw.refl b, y.up a⟩
theorem walk_tup {K : PySem.W.Frag} {I H : Hp} {p : Addr} {ds : List D} {ws : List V} (e : I p = some (.tup ws)) (x : Rps G I H ds ws z0) : Walk G I (Itt K p) ds := by
  intro i I1 H1 a b
  have sq : SqT K H1 p ws := SqT.of (b _ _ (a _ _ e))
  refine ⟨fun d ed => ?_, fun hl => ⟨ws, sq, by rw [x.len]; exact hl⟩⟩
  obtain ⟨v, ev, y⟩ := x.get0 ed
  refine ⟨⟨ws, v, sq, ev⟩, fun w H' q => ?_⟩
  obtain ⟨rfl, q⟩ := q
  have := q ws sq
  rw [ev] at this; cases this
  exact ⟨I1, Nw.refl b, y.up a⟩
theorem walk_str {I : Hp} {z : Str} : Walk G I (Its z) (z.cps.toList.map fun c => .sc (.str ⟨#[c]⟩)) := by
  intro i I1 H1 a b
  refine ⟨fun d ed => ?_, fun hl => show z.cps.size ≤ i by simpa using hl⟩
  rw [List.getElem?_map] at ed
  cases ec : z.cps.toList[i]? with
  | none => rw [ec] at ed; cases ed
  | some c =>
    rw [ec] at ed; cases ed
    have hi : i < z.cps.size := by
      have := (List.getElem?_eq_some_iff.mp ec).1
      simpa using this
    refine ⟨hi, fun w H' q => ?_⟩
    obtain ⟨rfl, c', e', rfl⟩ := q
    have : c' = c := by
      rw [Array.getElem?_toList] at ec
      rw [ec] at e'; cases e'; rfl
    subst this
    exact ⟨I1, Nw.refl b, rfl, fun _ => rfl⟩
theorem walk_rng {I : Hp} {lo : Int} {n : Nat} : Walk G I (Itr lo n) (rngD lo n) := by
  intro i I1 H1 a b
  refine ⟨fun d ed => ?_, fun hl => show n ≤ i by simpa [rngD] using hl⟩
  unfold rngD at ed
  rw [List.getElem?_map] at ed
  by_cases hi : i < n
  · rw [List.getElem?_range hi] at ed
    cases ed
    refine ⟨hi, fun w H' q => ?_⟩
    obtain ⟨rfl, rfl⟩ := q
    exact ⟨I1, Nw.refl b, rfl, fun _ => rfl⟩
  · rw [List.getElem?_eq_none (by simpa using hi)] at ed; cases ed
/-- a temporary frozen: what it is then -/
theorem cool_nd {σ : St} {I H : Hp} {E : List D} {vs : List V} {f g : Ft} {v : V} {k : Kd} {ds : List D} (s : Stt G σ I H E vs f) (y : Rp G I H (.nd k ds) v g) (n : ∀ a, f a + g a ≤ 1) :
    ∃ I' p ws ob, Stt G σ I' H E vs f ∧ v = .ref p ∧ I' p = some ob ∧ k.fz.st G ws ob ∧ Rps G I' H (fzs ds) ws z0 ∧ Fr false I H (fadd f g) I' H f := by
  obtain ⟨I', s', y', fr⟩ := Rp.cool s y n
  obtain ⟨p, ws, g2, ob, rfl, st, z, q⟩ := y'
  rcases q with ⟨mu, _⟩ | ⟨_, eI, q⟩
  · rw [Kd.fz_mut] at mu; cases mu
  · exact ⟨I', p, ws, ob, s', rfl, eI, st, z.eqv fun a => (q a).symm, fr⟩
theorem t_iseq {K : PySem.W.Frag} (h0 : ∀ σ H Q, tO G W pu d σ H Q → te σ H Q) : ∀ σ H Q, tI G W (iSeq d) σ H Q → (iList K te σ H Q ∨ iTup K te σ H Q) ∨ iStr te σ H Q := by
  rintro σ H Q ⟨I, E, vs, f, s, hh⟩
  cases ed : d E with
  | bad => unfold iSeq at hh; rw [ed] at hh; exact hh.elim
  | exc c fs E1 =>
    refine .inr (h0 _ _ _ ⟨I, E, vs, f, s, hh.fst fun r er h => ?_⟩)
    rw [ed] at er; cases er
  | ok r0 =>
    obtain ⟨o, E1⟩ := r0
    have hx := hh
    unfold iSeq at hx
    rw [ed] at hx
    cases o with
    | plc i p => exact hx.elim
    | val c =>
      cases c with
      | una => exact hx.elim
      | lent => exact hx.elim
      | kl _ => exact hx.elim
      | sc x =>
        cases x with
        | str z =>
          refine .inr (h0 _ _ _ ⟨I, E, vs, f, s, hh.fst fun r er h => ?_⟩)
          rw [ed] at er; cases er
          intro v I' H' f' g s' o n fr e
          obtain ⟨rfl, _⟩ := o
          exact ⟨z, rfl, h (Its z) I' H' f' s' ((fr.less fun x z => by simp; omega).imp fun z => by cases z) walk_str⟩
        | _ => exact hx.elim
      | nd k ds =>
        have main : ∀ (Q2 : It → Addr → Prop), True := fun _ => trivial
        by_cases hk : k.seq = true
        · by_cases ht : k = .tup
          · subst ht
            refine .inl (.inr (h0 _ _ _ ⟨I, E, vs, f, s, hh.fst fun r er h => ?_⟩))
            rw [ed] at er; cases er
            intro v I' H' f' g s' o n fr e
            obtain ⟨I2, p, ws, ob, s2, rfl, eI, st, z, fr2⟩ := cool_nd s' o n
            cases st
            refine ⟨p, rfl, ⟨ws, SqT.of (s2.sm _ _ eI)⟩, ?_⟩
            have h' : Ans G W σ I H f vs (.ok (fzs ds, E1)) _ := h
            exact h' (Itt K p) I2 H' f' s2 ((fr.trans fr2).imp fun z => by cases z) (walk_tup eI z)
          · refine .inl (.inl (h0 _ _ _ ⟨I, E, vs, f, s, hh.fst fun r er h => ?_⟩))
            rw [ed] at er; cases er
            intro v I' H' f' g s' o n fr e
            obtain ⟨I2, p, ws, ob, s2, rfl, eI, st, z, fr2⟩ := cool_nd s' o n
            have hkf : k.fz.seq = true := by cases k <;> first | exact hk | rfl
            have htf : k.fz ≠ .tup := by intro e; apply ht; cases k <;> simp_all [Kd.fz]
            have sq : SqL K H' p ws := by
              rcases Kd.seq_at (K := K) hkf st (s2.sm _ _ eI) with z | z
              · exact z
              · cases k with
                | tup => exact absurd rfl ht
                | lst m => cases st; exact SqL.of (s2.sm _ _ eI)
                | dik _ _ => cases hk
                | dit _ _ => cases hk
                | obj _ _ _ => cases hk
            refine ⟨p, rfl, ⟨ws, sq⟩, ?_⟩
            have h' : Ans G W σ I H f vs (if k.seq then .ok (fzs ds, E1) else .bad) _ := h
            rw [if_pos hk] at h'
            exact h' (Itl K p) I2 H' f' s2 ((fr.trans fr2).imp fun z => by cases z) (walk_list hkf st eI z htf)
        · have hx' : Ans G W σ I H f vs (if k.seq then .ok (fzs ds, E1) else .bad) _ := hx
          rw [if_neg hk] at hx'
          exact hx'.elim
end
def dRng (das : DenA) : DenI := fun E => (das E).bind fun r => match conts r.2 r.1 with
  | some [.sc (.int j)] => if -(2 ^ 62) ≤ j ∧ j < 2 ^ 62 then .ok (rngD 0 j.toNat, r.2) else .bad
  | some [.sc (.int i), .sc (.int j)] => if -(2 ^ 62) ≤ i ∧ i < 2 ^ 62 ∧ -(2 ^ 62) ≤ j ∧ j < 2 ^ 62 then .ok (rngD i (j - i).toNat, r.2) else .bad
  | _ => .bad
section
variable {G : Gm} {W : WX} {pu : Bool} {das : DenA} {ta : TA}
theorem Rpi.ints1 {I H : Hp} {i : Int} {ws : List V} (x : Rpi G I H [.sc (.int i)] ws) : ws = [.int i] := by
  obtain ⟨v, vr, g, rfl, ⟨rfl, _⟩, _, e⟩ := x
  cases e; rfl
theorem Rpi.ints2 {I H : Hp} {i j : Int} {ws : List V} (x : Rpi G I H [.sc (.int i), .sc (.int j)] ws) : ws = [.int i, .int j] := by
  obtain ⟨v, vr, g, rfl, ⟨rfl, _⟩, _, e⟩ := x
  rw [Rpi.ints1 e]
theorem t_rng1 (ha : ∀ σ H Q, tA G W pu das σ H Q → ta σ H Q) : ∀ σ H Q, tI G W (dRng das) σ H Q → (iRng1 ta σ H Q ∨ iRng2 ta σ H Q) := by
  rintro σ H Q ⟨I, E, vs, f, s, hh⟩
  cases ed : das E with
  | bad => unfold dRng at hh; rw [ed] at hh; exact hh.elim
  | exc c fs E1 =>
    refine .inr (ha _ _ _ ⟨I, E, vs, f, s, hh.fst fun r er h => ?_⟩)
    rw [ed] at er; cases er
  | ok r0 =>
    have hx := hh
    unfold dRng at hx
    rw [ed] at hx
    have hx' : Ans G W σ I H f vs (match conts r0.2 r0.1 with
      | some [.sc (.int j)] => if -(2 ^ 62) ≤ j ∧ j < 2 ^ 62 then .ok (rngD 0 j.toNat, r0.2) else .bad
      | some [.sc (.int i), .sc (.int j)] => if -(2 ^ 62) ≤ i ∧ i < 2 ^ 62 ∧ -(2 ^ 62) ≤ j ∧ j < 2 ^ 62 then .ok (rngD i (j - i).toNat, r0.2) else .bad
      | _ => .bad) _ := hx
    split at hx'
    · rename_i j ec
      refine .inl (ha _ _ _ ⟨I, E, vs, f, s, hh.fst fun r er _ => ?_⟩)
      rw [ed] at er; cases er
      intro ws I' H' f' g s' o n fr e
      have ew := Rpi.ints1 (o.conts s' (fun a => by have := n a; omega) ec)
      subst ew
      split at hx'
      · rename_i hb
        exact ⟨j, rfl, hb.1, hb.2, hx' (Itr 0 j.toNat) I' H' f' s' ((fr.less fun x z => by simp; omega).imp fun z => by cases z) walk_rng⟩
      · exact hx'.elim
    · rename_i i j ec
      refine .inr (ha _ _ _ ⟨I, E, vs, f, s, hh.fst fun r er _ => ?_⟩)
      rw [ed] at er; cases er
      intro ws I' H' f' g s' o n fr e
      have ew := Rpi.ints2 (o.conts s' (fun a => by have := n a; omega) ec)
      subst ew
      split at hx'
      · rename_i hb
        exact ⟨i, j, rfl, hb, hx' (Itr i (j - i).toNat) I' H' f' s' ((fr.less fun x z => by simp; omega).imp fun z => by cases z) walk_rng⟩
      · exact hx'.elim
    · exact hx'.elim
end

/-! ### for -/
def loopD (dg : DenG) (b : DenS) : List D → DenS
  | [] => fun E => .nx E
  | d :: ds => fun E => match dg d E with
    | some E1 => match b E1 with
      | .nx E' => loopD dg b ds E'
      | .ct E' => loopD dg b ds E'
      | .bk E' => .nx E'
      | s => s
    | none => .bad
def dFor (di : DenI) (dg : DenG) (b : DenS) : DenS := fun E => (di E).toS fun r => loopD dg b r.1 r.2
section
variable {G : Gm} {W : WX} {A B : List Nat} {wi : TI} {g : TG} {t : TS} {di : DenI} {dg : DenG} {b : DenS}
theorem t_for (hg : TgS G A g dg) (h0 : ∀ σ H Q, tI G W di σ H Q → wi σ H Q) (h1 : ∀ D σ H, tS G W B b D σ H → t D σ H) : ∀ D σ H, tS G W (A ++ B) (dFor di dg b) D σ H → tFor wi g t D σ H := by
  rintro D σ H ⟨I, E, vs, f, s, hh⟩
  refine h0 _ _ _ ⟨I, E, vs, f, s, Ans.of_S hh fun r er h => ?_⟩
  intro J I1 H1 f1 s1 a1 wk
  obtain ⟨ds, E1⟩ := r
  refine ⟨fun i m σ' H' => ∃ I' E' vs' f', m = ds.length - i ∧ i ≤ ds.length ∧ Stt G σ' I' H' E' vs' f' ∧ (∀ a o, I1 a = some o → I' a = some o) ∧ AnsS G W (A ++ B) I' H' f' vs' D (loopD dg b (ds.drop i) E'),
    ⟨ds.length, I1, E1, vs, f1, by simp, Nat.zero_le _, s1, fun _ _ e => e, AnsS.fwd (A := []) h Agr.refl a1 fun i hi => by simpa using hi⟩, ?_⟩
  rintro i m σ2 H2 ⟨I2, E2, vs2, f2, rfl, hi, s2, im, h2⟩
  obtain ⟨wg, ws⟩ := wk i I2 H2 im s2.sm
  by_cases hl : i < ds.length
  · have ed : ds[i]? = some ds[i] := List.getElem?_eq_getElem hl
    rw [List.drop_eq_getElem_cons hl] at h2
    obtain ⟨go, yl⟩ := wg _ ed
    refine .inr ⟨go, fun σ' H' => ∃ I' E' vs' f', Stt G σ' I' H' E' vs' f' ∧ (∀ a o, I1 a = some o → I' a = some o) ∧ AnsS G W (A ++ B) I' H' f' vs' D (loopD dg b (ds.drop (i + 1)) E'), fun σ' H' q => ?_, fun x H' q => ?_⟩
    · obtain ⟨I', E', vs', f', a, b, c⟩ := q
      exact ⟨ds.length - (i + 1), by omega, I', E', vs', f', rfl, hl, a, b, c⟩
    · obtain ⟨I3, nw, y⟩ := yl x H' q
      have s3 := s2.nw nw
      have fr3 : Fr false I2 H2 f2 I3 H' f2 := nw.fr fun a z => .inl z
      have h2' : AnsS G W (A ++ B) I2 H2 f2 vs2 D (match dg ds[i] E2 with
        | some E1 => match b E1 with
          | .nx E' => loopD dg b (ds.drop (i + 1)) E'
          | .ct E' => loopD dg b (ds.drop (i + 1)) E'
          | .bk E' => .nx E'
          | s => s
        | none => .bad) := h2
      split at h2'
      · rename_i E4 e4
        refine hg _ x σ2 I3 H' E2 E4 vs2 f2 z0 _ s3 y (fun a => by simp; exact s3.nd a) e4 fun σ4 vs4 f4 s4 ag4 le4 _ => ?_
        have fr4 : Fr false I2 H2 f2 I3 H' f4 := fr3.cut fun a => by have := le4 a; simpa using this
        have h4 := AnsS.fwd (C := B) h2' ag4 fr4 fun i hi => by simpa using hi
        refine h1 _ _ _ ⟨I3, E4, vs4, f4, s4, ?_⟩
        have im3 : ∀ a o, I1 a = some o → I3 a = some o := fun a o e => nw.im _ _ (im _ _ e)
        cases eb : b E4 with
        | nx E' =>
          rw [eb] at h2'
          exact fun σ' vs' I' H' f' s' ag fr => ⟨I', E', vs', f', s', fun a o e => fr.im _ _ (im3 _ _ e), AnsS.fwd h2' (ag4.trans ag) (fr4.trans fr) fun i hi => by simpa using hi⟩
        | ct E' =>
          rw [eb] at h2'
          exact fun σ' vs' I' H' f' s' ag fr => ⟨I', E', vs', f', s', fun a o e => fr.im _ _ (im3 _ _ e), AnsS.fwd h2' (ag4.trans ag) (fr4.trans fr) fun i hi => by simpa using hi⟩
        | bk E' => rw [eb] at h4; exact h4
        | rt d E' => rw [eb] at h4; exact h4
        | exc c fs E' => rw [eb] at h4; exact h4
        | bad => rw [eb] at h4; exact h4
      · exact h2'.elim
  · have e : i = ds.length := by omega
    subst e
    rw [List.drop_length] at h2
    exact .inl ⟨ws (Nat.le_refl _), h2 σ2 vs2 I2 H2 f2 s2 Agr.refl Fr.refl⟩
end

/-! ### a def -/
def retArgs (A : List Nat) : Nat → List D → List D → Option (List D)
  | _, [], _ => some []
  | i, d :: ds, e :: es => match retArgs A (i + 1) ds es with
    | some r => if A.contains i then (if Fz d then some (d :: r) else none) else some (e :: r)
    | none => none
  | _, _ :: _, [] => none
/-- what a def's body makes of its arguments: N names in all, A the names that are stored -/
def fnD (N : Nat) (A : List Nat) (b : DenS) : Fn := fun ds => match b (ds ++ List.replicate (N - ds.length) .una) with
  | .rt d E => match retArgs A 0 ds E with
    | some r => .ok (d, r)
    | none => .bad
  | .nx E => match retArgs A 0 ds E with
    | some r => .ok (.sc .non, r)
    | none => .bad
  | .exc c fs E => match retArgs A 0 ds E with
    | some r => .exc c fs r
    | none => .bad
  | _ => .bad
section
variable {G : Gm}
theorem ret_args {A : List Nat} {I H I' H' : Hp} (hI : ∀ a o, I a = some o → I' a = some o) : ∀ {ds es r : List D} {vs ws : List V} {f f' : Ft} {i : Nat}, Rps G I H ds vs f → Rps G I' H' es ws f' → (∀ j v, vs[j]? = some v → A.contains (i + j) = false → ws[j]? = some v) → retArgs A i ds es = some r →
    ∃ g, Rps G I' H' r vs g ∧ ∀ a, g a ≤ f' a
  | [], es, r, vs, ws, f, f', i, x, y, ag, e => by
    cases e
    exact ⟨z0, ⟨x.1, fun _ => rfl⟩, fun a => Nat.zero_le _⟩
  | d :: ds, [], r, vs, ws, f, f', i, x, y, ag, e => by cases e
  | d :: ds, e0 :: es, r, vs, ws, f, f', i, x, y, ag, e => by
    unfold retArgs at e
    split at e
    · rename_i r' er
      obtain ⟨v, vr, g1, h1, rfl, y1, z1, q1⟩ := x
      obtain ⟨w, wr, g2, h2, rfl, y2, z2, q2⟩ := y
      obtain ⟨g, t, le⟩ := ret_args hI z1 z2 (fun j v e q => by have := ag (j + 1) v (by simpa using e) (by rw [show i + (j + 1) = i + 1 + j by omega]; exact q); simpa using this) er
      split at e
      · split at e
        · rename_i hf
          cases e
          exact ⟨_, ⟨v, vr, z0, g, rfl, (y1.fz0 hf).up hI, t, fun a => rfl⟩, fun a => by have := le a; have := q2 a; simp; omega⟩
        · cases e
      · rename_i hA
        cases e
        have := ag 0 v rfl (by simpa using hA)
        simp at this
        subst this
        exact ⟨_, ⟨w, vr, g2, g, rfl, y2, t, fun a => rfl⟩, fun a => by have := le a; have := q2 a; omega⟩
    · cases e
theorem Sl.start {N : List Str} {ds : List D} {vs : List V} (hl : vs.length = ds.length) (hn : ds.length ≤ N.length) : Sl (ds ++ List.replicate (N.length - ds.length) .una) (L2.start N vs) (vs ++ List.replicate (N.length - ds.length) .non) := by
  refine ⟨by simp [L2.start, hl], fun i d v e n e2 => ?_⟩
  by_cases hi : i < ds.length
  · have hv : i < vs.length := by omega
    rw [List.getElem?_append_left hv] at e2
    unfold L2.start
    rw [List.getElem?_append_left (by simpa using hv), List.getElem?_map, e2]
    rfl
  · rw [List.getElem?_append_right (by omega)] at e
    rw [List.getElem?_replicate] at e
    split at e
    · cases e; exact absurd rfl n
    · cases e
theorem Rps.unas {I H : Hp} : ∀ {n : Nat}, Rps G I H (List.replicate n .una) (List.replicate n .non) z0
  | 0 => ⟨rfl, fun _ => rfl⟩
  | n + 1 => ⟨.non, _, z0, z0, rfl, fun _ => rfl, Rps.unas (n := n), fun _ => rfl⟩
/-- the body's reading at the entry, from the promise -/
theorem fn_body {F : Fn} {A : List Nat} {b : DenS} {t : TS} {N : List Str} {n : Nat} {vs : List V} {H : Hp} {Q : VK} {Ex : XK} (hn : n ≤ N.length) (hv : vs.length = n)
    (hF : ∀ ds, F ds ≠ .bad → fnD N.length A b ds = F ds) (h : ∀ D σ H, tS G (fun cls d _ H => Ex cls d H) A b D σ H → t D σ H) (sp : spOf G F vs H Q Ex) : t { nx := fun _ H' => Q .non H', rt := Q } (start N vs) H := by
  obtain ⟨I, ds, f, sm, r, nd, k⟩ := sp
  have hl := r.len
  have nb : F ds ≠ .bad := fun e => by rw [e] at k; exact k
  have eF := hF ds nb
  have s0 : Stt G (start N vs) I H (ds ++ List.replicate (N.length - ds.length) .una) (vs ++ List.replicate (N.length - ds.length) .non) f :=
    ⟨Sl.start hl (by omega), sm, (r.app Rps.unas).eqv fun a => by simp, nd⟩
  refine h _ _ _ ⟨I, _, _, f, s0, ?_⟩
  have agv : ∀ {vs' : List V}, Agr A (vs ++ List.replicate (N.length - ds.length) V.non) vs' → ∀ j v, vs[j]? = some v → A.contains (0 + j) = false → vs'[j]? = some v := fun {vs'} ag j v e q => by
    have hj : j < vs.length := (List.getElem?_eq_some_iff.mp e).1
    rw [ag j (by simpa using q), List.getElem?_append_left hj]
    exact e
  unfold fnD at eF
  generalize eb : b (ds ++ List.replicate (N.length - ds.length) .una) = res at eF ⊢
  cases res with
  | rt d E =>
    dsimp only at eF
    split at eF
    · rename_i r' er
      rw [← eF] at k
      intro v σ' vs' I' H' f' g s' ag y n fr
      obtain ⟨g2, t2, le⟩ := ret_args fr.im r s'.rp (agv ag) er
      exact k v I' H' g2 g s'.sm t2 y (fun a => by have := le a; have := n a; omega) (fr.less fun x z => by have := le x; simp at z ⊢; omega)
    · exact absurd eF.symm nb
  | nx E =>
    dsimp only at eF
    split at eF
    · rename_i r' er
      rw [← eF] at k
      intro σ' vs' I' H' f' s' ag fr
      obtain ⟨g2, t2, le⟩ := ret_args fr.im r s'.rp (agv ag) er
      exact k .non I' H' g2 z0 s'.sm t2 ⟨rfl, fun _ => rfl⟩ (fun a => by have := le a; have := s'.nd a; simp; omega) (fr.less fun x z => by have := le x; simp at z ⊢; omega)
    · exact absurd eF.symm nb
  | exc c fs E =>
    dsimp only at eF
    split at eF
    · rename_i r' er
      rw [← eF] at k
      intro cls dd σ' vs' I' H' f' s' ag xa fr
      obtain ⟨g2, t2, le⟩ := ret_args fr.im r s'.rp (agv ag) er
      exact k cls dd I' H' g2 s'.sm t2 (fun a => by have := le a; have := s'.nd a; omega) xa (fr.less fun x z => by have := le x; omega)
    · exact absurd eF.symm nb
  | bk E => exact absurd eF.symm nb
  | ct E => exact absurd eF.symm nb
  | bad => exact absurd eF.symm nb
theorem spOf_len {F : Fn} {n : Nat} (hF : ∀ ds, F ds ≠ .bad → ds.length = n) {vs : List V} {H : Hp} {Q : VK} {Ex : XK} (sp : spOf G F vs H Q Ex) : vs.length = n := by
  obtain ⟨I, ds, f, sm, r, nd, k⟩ := sp
  rw [r.len]
  exact hF ds fun e => by rw [e] at k; exact k
end
end DL

end
section
set_option maxRecDepth 100000
/-! DL, part 8: operations. -/
namespace DL
open PySem L2

section
variable {G : Gm} {I H : Hp} {Q : VK} {K : PySem.W.Frag}
abbrev Fin1 (G : Gm) (I H : Hp) (d : D) (Q : VK) : Prop := ∀ v I' H' g, Nw I H I' H' → Rp G I' H' d v g → (∀ a, g a ≤ 1) → (∀ a, g a ≠ 0 → H a = none) → Q v H'
theorem fin_sc {w : V} (sm : ∀ a o, I a = some o → H a = some o) (k : Fin1 G I H (.sc w) Q) : Q w H := k w I H z0 (Nw.refl sm) ⟨rfl, fun _ => rfl⟩ (fun _ => Nat.zero_le _) (fun a z => absurd rfl z)
theorem fin_same {d : D} {v : V} (sm : ∀ a o, I a = some o → H a = some o) (x : Rp G I H d v z0) (k : Fin1 G I H d Q) : Q v H := k v I H z0 (Nw.refl sm) x (fun _ => Nat.zero_le _) (fun a z => absurd rfl z)
theorem fin_lst {p : Addr} {ds : List D} {ws : List V} (sm : ∀ a o, I a = some o → H a = some o) (x : Rps G I H ds ws z0) (n : H p = none) (k : Fin1 G I H (.nd (.lst true) ds) Q) : Q (.ref p) (upd H p (.lst ws)) := by
  refine k (.ref p) I _ _ (Nw.mutP sm n) (new_mut sm n rfl rfl x) (fun a => ?_) fun a z => ?_
  · by_cases q : a = p
    · subst q; simp [one1_self]
    · simp [one1_ne q]
  · by_cases q : a = p
    · subst q; exact n
    · simp [one1_ne q] at z
theorem fin_tup {p : Addr} {ds : List D} {ws : List V} (sm : ∀ a o, I a = some o → H a = some o) (x : Rps G I H ds ws z0) (n : H p = none) (k : Fin1 G I H (.nd .tup ds) Q) : Q (.ref p) (upd H p (.tup ws)) :=
  k (.ref p) _ _ z0 (Nw.fixP sm n) (new_fix sm n rfl rfl x) (fun _ => Nat.zero_le _) fun a z => absurd rfl z
theorem Rpi.one {d : D} {ws : List V} (x : Rpi G I H [d] ws) : ∃ v g, ws = [v] ∧ Rp G I H d v g ∧ ∀ a, g a ≤ 1 := by
  obtain ⟨v, vr, g, rfl, r, n, e⟩ := x
  cases e; exact ⟨v, g, rfl, r, n⟩
theorem Rpi.two {d e : D} {ws : List V} (x : Rpi G I H [d, e] ws) : ∃ v w g h, ws = [v, w] ∧ Rp G I H d v g ∧ Rp G I H e w h := by
  obtain ⟨v, vr, g, rfl, r, n, y⟩ := x
  obtain ⟨w, h, rfl, r2, _⟩ := Rpi.one y
  exact ⟨v, w, g, h, rfl, r, r2⟩
theorem Rpi.three {d e c : D} {ws : List V} (x : Rpi G I H [d, e, c] ws) : ∃ v w u g h k, ws = [v, w, u] ∧ Rp G I H d v g ∧ Rp G I H e w h ∧ Rp G I H c u k := by
  obtain ⟨v, vr, g, rfl, r, n, y⟩ := x
  obtain ⟨w, u, h, k, rfl, r2, r3⟩ := Rpi.two y
  exact ⟨v, w, u, g, h, k, rfl, r, r2, r3⟩
/-- a node: its object and its children -/
theorem Rp.node {k : Kd} {ds : List D} {v : V} {f : Ft} (sm : ∀ a o, I a = some o → H a = some o) (x : Rp G I H (.nd k ds) v f) : ∃ p ws g o, v = .ref p ∧ k.st G ws o ∧ H p = some o ∧ Rps G I H ds ws g ∧ ws.length = ds.length := by
  obtain ⟨p, ws, g, o, rfl, s, y, q⟩ := x
  refine ⟨p, ws, g, o, rfl, s, ?_, y, y.len⟩
  rcases q with ⟨_, _, e, _⟩ | ⟨_, e, _⟩
  · exact e
  · exact sm _ _ e
theorem Rps.cold {ds : List D} {ws : List V} {g : Ft} (hf : ds.all Fz = true) (x : Rps G I H ds ws g) : Rps G I H ds ws z0 := x.eqv fun a => by rw [x.zero_of_fz hf a]; rfl
theorem node_seq {k : Kd} {ds : List D} {v : V} {f : Ft} (sm : ∀ a o, I a = some o → H a = some o) (hs : k.seq = true) (x : Rp G I H (.nd k ds) v f) : ∃ p ws g, v = .ref p ∧ (SqL K H p ws ∨ SqT K H p ws) ∧ Rps G I H ds ws g ∧ ws.length = ds.length := by
  obtain ⟨p, ws, g, o, rfl, s, e, y, l⟩ := x.node sm
  exact ⟨p, ws, g, rfl, Kd.seq_at hs s e, y, l⟩
end

/-! ### ints -/
def fI2 (g : Int → Int → V) : List D → Option D
  | [.sc (.int i), .sc (.int j)] => some (.sc (g i j))
  | _ => none
def fI2c (C : Int → Int → Bool) (g : Int → Int → V) : List D → Option D
  | [.sc (.int i), .sc (.int j)] => if C i j then some (.sc (g i j)) else none
  | _ => none
section
variable {G : Gm} {K : PySem.W.Frag}
theorem os_I0 {g : Int → Int → V} : OpS G (r2l (rI0 g)) (fI2 g) := by
  intro I H ds ws d sm x e Q k
  unfold fI2 at e
  split at e
  · rename_i i j
    cases e
    obtain ⟨v, w, _, _, rfl, ⟨rfl, _⟩, ⟨rfl, _⟩⟩ := x.two
    exact ⟨i, j, rfl, rfl, fin_sc sm k⟩
  · cases e
theorem os_I {C : Int → Int → Prop} {c : Int → Int → Bool} {g : Int → Int → V} (hc : ∀ i j, c i j = true → C i j) : OpS G (r2l (rI C g)) (fI2c c g) := by
  intro I H ds ws d sm x e Q k
  unfold fI2c at e
  split at e
  · rename_i i j
    split at e
    · rename_i h
      cases e
      obtain ⟨v, w, _, _, rfl, ⟨rfl, _⟩, ⟨rfl, _⟩⟩ := x.two
      exact ⟨i, j, rfl, rfl, hc i j h, fin_sc sm k⟩
    · cases e
  · cases e
end
/-! ### + - * // % ** -/
def rAddX (K : PySem.W.Frag) : R2 := fun x y H Q => (rI0 (fun i j => .int (i + j)) x y H Q ∨ (∃ i j, x = .str i ∧ y = .str j ∧ i.length + j.length ≤ sizeLine ∧ Q (.str (i ++ j)) H)) ∨ (rCat x y H Q ∨ rCatA K x y H Q)
theorem op_addX {X : Cx} : OpR X (binaryOp .Add) (rAddX X.K) := (op_add.or op_add_str).or (op_cat.or op_catA)
def fAdd : List D → Option D
  | [.sc (.int i), .sc (.int j)] => some (.sc (.int (i + j)))
  | [.sc (.str x), .sc (.str y)] => if x.length + y.length ≤ 100000 then some (.sc (.str (x ++ y))) else none
  | [.nd (.lst _) xs, .nd (.lst _) ys] => if Fzs xs && Fzs ys && decide (xs.length + ys.length ≤ 100000) then some (.nd (.lst true) (xs ++ ys)) else none
  | [.nd .tup xs, .nd .tup ys] => if Fzs xs && Fzs ys && decide (xs.length + ys.length ≤ 100000) then some (.nd .tup (xs ++ ys)) else none
  | _ => none
theorem os_add {G : Gm} {K : PySem.W.Frag} : OpS G (r2l (rAddX K)) fAdd := by
  intro I H ds ws d sm x e Q k
  unfold fAdd at e
  split at e
  · rename_i i j
    cases e
    obtain ⟨v, w, _, _, rfl, ⟨rfl, _⟩, ⟨rfl, _⟩⟩ := x.two
    exact .inl (.inl ⟨i, j, rfl, rfl, fin_sc sm k⟩)
  · rename_i i j
    split at e
    · rename_i h
      cases e
      obtain ⟨v, w, _, _, rfl, ⟨rfl, _⟩, ⟨rfl, _⟩⟩ := x.two
      exact .inl (.inr ⟨i, j, rfl, rfl, line5 h, fin_sc sm k⟩)
    · cases e
  · rename_i m xs m' ys
    split at e
    · rename_i h
      cases e
      simp only [Bool.and_eq_true, decide_eq_true_eq, Fzs_all] at h
      obtain ⟨v, w, _, _, rfl, r1, r2⟩ := x.two
      obtain ⟨p, w1, g1, o, rfl, s1, e1, y1, l1⟩ := r1.node sm
      obtain ⟨q, w2, g2, o2, rfl, s2, e2, y2, l2⟩ := r2.node sm
      cases s1; cases s2
      refine .inr (.inl ⟨p, q, w1, w2, rfl, rfl, e1, e2, by rw [l1, l2]; exact line5 h.2, fun a na => fin_lst sm (((y1.cold h.1.1).app (y2.cold h.1.2)).eqv fun _ => rfl) na k⟩)
    · cases e
  · rename_i xs ys
    split at e
    · rename_i h
      cases e
      simp only [Bool.and_eq_true, decide_eq_true_eq, Fzs_all] at h
      obtain ⟨v, w, _, _, rfl, r1, r2⟩ := x.two
      obtain ⟨p, w1, g1, o, rfl, s1, e1, y1, l1⟩ := r1.node sm
      obtain ⟨q, w2, g2, o2, rfl, s2, e2, y2, l2⟩ := r2.node sm
      cases s1; cases s2
      have c1 := y1.cold h.1.1
      have c2 := y2.cold h.1.2
      have base : Rps G I H (xs ++ ys) (w1 ++ w2) z0 := (c1.app c2).eqv fun _ => rfl
      refine .inr (.inr ⟨p, q, w1, w2, rfl, rfl, SqT.of e1, SqT.of e2, by rw [l1, l2]; exact line5 h.2, ?_⟩)
      have z1 : Fz (.nd .tup xs) = true := by show (!Kd.tup.mut && Fzs xs) = true; rw [Fzs_all]; simp [Kd.mut, h.1.1]
      have z2 : Fz (.nd .tup ys) = true := by show (!Kd.tup.mut && Fzs ys) = true; rw [Fzs_all]; simp [Kd.mut, h.1.2]
      refine ⟨fun e0 => ?_, fun _ e0 => ?_, fun _ _ a na => fin_tup sm base na k⟩
      · subst e0
        have : xs = [] := List.eq_nil_of_length_eq_zero (by simpa using l1.symm)
        subst this
        exact fin_same sm (r2.fz0 z2) k
      · subst e0
        have : ys = [] := List.eq_nil_of_length_eq_zero (by simpa using l2.symm)
        subst this
        rw [List.append_nil] at k
        exact fin_same sm (r1.fz0 z1) k
    · cases e
  · cases e
def fSub : List D → Option D := fI2 fun i j => .int (i - j)
theorem os_sub {G : Gm} : OpS G (r2l (rI0 fun i j => .int (i - j))) fSub := os_I0
def rMulX : R2 := fun x y H Q => rI CMulW (fun i j => .int (i * j)) x y H Q ∨ rRep x y H Q
theorem op_mulX' {X : Cx} : OpR X (binaryOp .Mult) rMulX := op_mulW.or op_rep
def fMul : List D → Option D
  | [.sc (.int i), .sc (.int j)] => if i.natAbs.log2 + j.natAbs.log2 < 1000000 then some (.sc (.int (i * j))) else none
  | [.nd (.lst _) xs, .sc (.int n)] => if Fzs xs && decide (-1000000 ≤ n ∧ n ≤ 1000000 ∧ xs.length * n.toNat ≤ 100000) then some (.nd (.lst true) (List.replicate n.toNat xs).flatten) else none
  | _ => none
theorem Rps.rep {G : Gm} {I H : Hp} {ds : List D} {ws : List V} (x : Rps G I H ds ws z0) : ∀ n : Nat, Rps G I H (List.replicate n ds).flatten (List.replicate n ws).flatten z0
  | 0 => ⟨rfl, fun _ => rfl⟩
  | n + 1 => by
    rw [List.replicate_succ, List.replicate_succ, List.flatten_cons, List.flatten_cons]
    exact (x.app (x.rep n)).eqv fun _ => rfl
theorem os_mul {G : Gm} : OpS G (r2l rMulX) fMul := by
  intro I H ds ws d sm x e Q k
  unfold fMul at e
  split at e
  · rename_i i j
    split at e
    · rename_i h
      cases e
      obtain ⟨v, w, _, _, rfl, ⟨rfl, _⟩, ⟨rfl, _⟩⟩ := x.two
      exact .inl ⟨i, j, rfl, rfl, h, fin_sc sm k⟩
    · cases e
  · rename_i m xs n
    split at e
    · rename_i h
      cases e
      simp only [Bool.and_eq_true, decide_eq_true_eq, Fzs_all] at h
      obtain ⟨v, w, _, _, rfl, r1, ⟨rfl, _⟩⟩ := x.two
      obtain ⟨p, w1, g1, o, rfl, s1, e1, y1, l1⟩ := r1.node sm
      cases s1
      obtain ⟨h1, h2, h3, h4⟩ := h
      exact .inr ⟨p, n, w1, rfl, rfl, e1, by omega, by omega, by rw [l1]; exact line5 h4, fun a na => fin_lst sm ((y1.cold h1).rep _) na k⟩
    · cases e
  · cases e
def fDiv : List D → Option D := fI2c (fun _ j => decide (0 < j) && decide (j.natAbs.log2 < 9000)) fun i j => .int (i / j)
theorem os_div {G : Gm} : OpS G (r2l (rI CDivW fun i j => .int (i / j))) fDiv := os_I fun i j h => by
  simp only [Bool.and_eq_true, decide_eq_true_eq] at h
  exact h
def fMod : List D → Option D := fI2c (fun _ j => decide (0 < j)) fun i j => .int (i % j)
theorem os_mod {G : Gm} : OpS G (r2l (rI (fun _ j => 0 < j) fun i j => .int (i % j))) fMod := os_I fun i j h => by simpa using h
def fPow : List D → Option D := fI2c (fun i j => decide (0 ≤ j ∧ j ≤ 1000 ∧ -1000000 ≤ i ∧ i ≤ 1000000)) fun i j => .int (i ^ j.toNat)
theorem os_pow {G : Gm} : OpS G (r2l (rI CPow fun i j => .int (i ^ j.toNat))) fPow := os_I fun i j h => by
  simp only [decide_eq_true_eq] at h
  exact ⟨h.1, by omega, by omega⟩
def fNeg : List D → Option D
  | [.sc (.int i)] => some (.sc (.int (-i)))
  | _ => none
theorem os_neg {G : Gm} : OpS G (r1l (rU fun i => .int (-i))) fNeg := by
  intro I H ds ws d sm x e Q k
  unfold fNeg at e
  split at e
  · rename_i i
    cases e
    obtain ⟨v, _, rfl, ⟨rfl, _⟩, _⟩ := x.one
    exact ⟨i, rfl, fin_sc sm k⟩
  · cases e
/-! ### < <= > >= of ints and texts -/
def rCmpX (g : Int → Int → Bool) (h : List Nat → List Nat → Bool) : R2 := fun x y H Q => rI0 (fun i j => .bl (g i j)) x y H Q ∨ ∃ i j, x = .str i ∧ y = .str j ∧ Q (.bl (h i.cps.toList j.cps.toList)) H
def fCmp (g : Int → Int → Bool) (h : List Nat → List Nat → Bool) : List D → Option D
  | [.sc (.int i), .sc (.int j)] => some (.sc (.bl (g i j)))
  | [.sc (.str i), .sc (.str j)] => some (.sc (.bl (h i.cps.toList j.cps.toList)))
  | _ => none
theorem os_cmp {G : Gm} {g : Int → Int → Bool} {h : List Nat → List Nat → Bool} : OpS G (r2l (rCmpX g h)) (fCmp g h) := by
  intro I H ds ws d sm x e Q k
  unfold fCmp at e
  split at e
  · rename_i i j
    cases e
    obtain ⟨v, w, _, _, rfl, ⟨rfl, _⟩, ⟨rfl, _⟩⟩ := x.two
    exact .inl ⟨i, j, rfl, rfl, fin_sc sm k⟩
  · rename_i i j
    cases e
    obtain ⟨v, w, _, _, rfl, ⟨rfl, _⟩, ⟨rfl, _⟩⟩ := x.two
    exact .inr ⟨i, j, rfl, rfl, fin_sc sm k⟩
  · cases e
abbrev rLtX : R2 := rCmpX (fun i j => decide (i < j)) (fun i j => decide (i < j))
abbrev rLeX : R2 := rCmpX (fun i j => decide (i ≤ j)) (fun i j => !decide (j < i))
abbrev rGtX : R2 := rCmpX (fun i j => decide (j < i)) (fun i j => decide (j < i))
abbrev rGeX : R2 := rCmpX (fun i j => decide (j ≤ i)) (fun i j => !decide (i < j))
theorem op_ltX {X : Cx} : OpR X (compareOp .Lt) rLtX := op_lt.or op_lt_str
theorem op_leX {X : Cx} : OpR X (compareOp .LtE) rLeX := op_le.or op_le_str
theorem op_gtX {X : Cx} : OpR X (compareOp .Gt) rGtX := op_gt.or op_gt_str
theorem op_geX {X : Cx} : OpR X (compareOp .GtE) rGeX := op_ge.or op_ge_str
/-! ### == of data -/
mutual
def toP : D → PyData
  | .una => .none
  | .lent => .none
  | .kl _ => .none
  | .sc v => match v with
    | .bl b => .bool b
    | .int i => .int i
    | .str z => .str z
    | _ => .none
  | .nd k ds => match k with
    | .tup => .tuple (toPs ds)
    | _ => .list (toPs ds)
def toPs : List D → List PyData
  | [] => []
  | d :: ds => toP d :: toPs ds
end
theorem toPs_map (ds : List D) : toPs ds = ds.map toP := by induction ds with | nil => rfl | cons d ds ih => simp [toPs, ih]
/-- data that may be compared, at most so deep -/
def lay : Nat → D → Bool
  | _, .una => false
  | _, .lent => false
  | _, .kl _ => false
  | _, .sc v => match v with
    | .non => true
    | .bl _ => true
    | .int _ => true
    | .str z => PyData.strOk z
    | _ => false
  | n + 1, .nd k ds => k.seq && ds.all (lay n)
  | 0, .nd _ _ => false
theorem depthAll_le {n : Nat} : ∀ {ds : List D}, (∀ d ∈ ds, (toP d).depth ≤ n) → PyData.depthAll (toPs ds) ≤ n
  | [], _ => Nat.zero_le _
  | d :: ds, h => by
    show max (toP d).depth (PyData.depthAll (toPs ds)) ≤ n
    have := h d List.mem_cons_self
    have := depthAll_le fun e he => h e (List.mem_cons_of_mem _ he)
    omega
theorem canAll {ds : List D} (h : ∀ d ∈ ds, (toP d).canLay0 = true) : PyData.canLayAll0 (toPs ds) = true := by
  induction ds with
  | nil => rfl
  | cons d ds ih =>
    show ((toP d).canLay0 && PyData.canLayAll0 (toPs ds)) = true
    rw [h d List.mem_cons_self, ih fun e he => h e (List.mem_cons_of_mem _ he)]; rfl
theorem lay_ok : ∀ {n : Nat} {d : D}, lay n d = true → (toP d).canLay0 = true ∧ (toP d).depth ≤ n
  | n, .una, h => by cases n <;> cases h
  | n, .lent, h => by cases n <;> cases h
  | n, .kl _, h => by cases n <;> cases h
  | n, .sc v, h => by
    cases v with
    | str z => exact ⟨by cases n <;> exact h, by show (0 : Nat) ≤ _; omega⟩
    | non => exact ⟨rfl, by show (0 : Nat) ≤ _; omega⟩
    | bl _ => exact ⟨rfl, by show (0 : Nat) ≤ _; omega⟩
    | int _ => exact ⟨rfl, by show (0 : Nat) ≤ _; omega⟩
    | byt _ => cases n <;> cases h
    | flt _ => cases n <;> cases h
    | ref _ => cases n <;> cases h
    | ty _ => cases n <;> cases h
  | 0, .nd k ds, h => by cases h
  | n + 1, .nd k ds, h => by
    have h' : (k.seq && ds.all (lay n)) = true := h
    simp only [Bool.and_eq_true, List.all_eq_true] at h'
    have c := canAll fun d hd => (lay_ok (h'.2 d hd)).1
    have dp := depthAll_le fun d hd => (lay_ok (h'.2 d hd)).2
    cases k with
    | tup => exact ⟨c, by show PyData.depthAll (toPs ds) + 1 ≤ n + 1; omega⟩
    | lst m => exact ⟨c, by show PyData.depthAll (toPs ds) + 1 ≤ n + 1; omega⟩
    | dik _ _ => cases h'.1
    | dit _ _ => cases h'.1
    | obj _ _ _ => cases h'.1
theorem shaped_of {n : Nat} {d : D} (hn : n ≤ 64) (h : lay n d = true) : SeqAt.shaped (toP d) = true := by
  obtain ⟨a, b⟩ := lay_ok h
  unfold SeqAt.shaped
  rw [a, decide_eq_true (Nat.le_trans b hn)]; rfl
section
variable {G : Gm} {K : PySem.W.Frag} {I H : Hp}
theorem dp_all : ∀ {ds : List D} {ws : List V} {g : Ft} {n : Nat}, (∀ d ∈ ds, ∀ v f, Rp G I H d v f → Dp K H v (toP d)) → Rps G I H ds ws g → DpAll K H ws (toPs ds)
  | [], ws, g, n, _, x => by rw [x.1]; exact .nil
  | d :: ds, ws, g, n, h, x => by
    obtain ⟨v, vr, g1, g2, rfl, y, z, _⟩ := x
    exact .cons (h d List.mem_cons_self v g1 y) (dp_all (n := n) (fun e he => h e (List.mem_cons_of_mem _ he)) z)
theorem dp_of (sm : ∀ a o, I a = some o → H a = some o) : ∀ {n : Nat} {d : D} {v : V} {g : Ft}, lay n d = true → Rp G I H d v g → Dp K H v (toP d)
  | n, .una, v, g, h, x => by cases n <;> cases h
  | n, .lent, v, g, h, x => by cases n <;> cases h
  | n, .kl _, v, g, h, x => by cases n <;> cases h
  | n, .sc y, v, g, h, x => by
    obtain ⟨rfl, _⟩ := x
    cases v with
    | non => exact .non
    | bl b => exact .bl b
    | int i => exact .int i
    | str z => exact .str z
    | byt _ => cases n <;> cases h
    | flt _ => cases n <;> cases h
    | ref _ => cases n <;> cases h
    | ty _ => cases n <;> cases h
  | 0, .nd k ds, v, g, h, x => by cases h
  | n + 1, .nd k ds, v, g, h, x => by
    have h' : (k.seq && ds.all (lay n)) = true := h
    simp only [Bool.and_eq_true, List.all_eq_true] at h'
    obtain ⟨p, ws, g2, o, rfl, st, e, y, l⟩ := x.node sm
    have al : DpAll K H ws (toPs ds) := dp_all (n := n) (fun d hd v f z => dp_of sm (h'.2 d hd) z) y
    cases k with
    | tup => cases st; exact .tup (SqT.of e) al
    | lst m => cases st; exact .lst (SqL.of e) al
    | dik _ _ => cases h'.1
    | dit _ _ => cases h'.1
    | obj _ _ _ => cases h'.1
end
def fEq : List D → Option D
  | [x, y] => if lay 64 x && lay 64 y then some (.sc (.bl (PyData.eqv (toP x) (toP y)))) else none
  | _ => none
def fNe : List D → Option D
  | [x, y] => if lay 64 x && lay 64 y then some (.sc (.bl (!PyData.eqv (toP x) (toP y)))) else none
  | _ => none
theorem os_eq {G : Gm} {K : PySem.W.Frag} : OpS G (r2l (rEqD K)) fEq := by
  intro I H ds ws d sm x e Q k
  unfold fEq at e
  split at e
  · rename_i a b
    split at e
    · rename_i h
      cases e
      simp only [Bool.and_eq_true] at h
      obtain ⟨v, w, _, _, rfl, r1, r2⟩ := x.two
      exact ⟨_, _, dp_of sm h.1 r1, dp_of sm h.2 r2, shaped_of (Nat.le_refl _) h.1, shaped_of (Nat.le_refl _) h.2, fin_sc sm k⟩
    · cases e
  · cases e
theorem os_ne {G : Gm} {K : PySem.W.Frag} : OpS G (r2l (rNeD K)) fNe := by
  intro I H ds ws d sm x e Q k
  unfold fNe at e
  split at e
  · rename_i a b
    split at e
    · rename_i h
      cases e
      simp only [Bool.and_eq_true] at h
      obtain ⟨v, w, _, _, rfl, r1, r2⟩ := x.two
      exact ⟨_, _, dp_of sm h.1 r1, dp_of sm h.2 r2, shaped_of (Nat.le_refl _) h.1, shaped_of (Nat.le_refl _) h.2, fin_sc sm k⟩
    · cases e
  · cases e
/-! ### is None -/
def isNonD : D → Option Bool
  | .kl _ => some false
  | .una => none
  | .lent => none
  | .sc v => some (decide (v = .non))
  | .nd _ _ => some false
def fIsN : List D → Option D
  | [x, .sc .non] => (isNonD x).map fun b => .sc (.bl b)
  | _ => none
def fNotN : List D → Option D
  | [x, .sc .non] => (isNonD x).map fun b => .sc (.bl (!b))
  | _ => none
theorem isNon_ok {G : Gm} {I H : Hp} {d : D} {v : V} {g : Ft} {b : Bool} (x : Rp G I H d v g) (e : isNonD d = some b) : decide (v = .non) = b := by
  cases d with
  | una => cases e
  | lent => cases e
  | kl xs => obtain ⟨⟨p, rfl, _⟩, _⟩ := x; cases e; rfl
  | sc w => obtain ⟨rfl, _⟩ := x; cases e; rfl
  | nd k ds => obtain ⟨p, ws, g, o, rfl, _⟩ := x; cases e; rfl
abbrev rIsNX : R2 := fun x y H Q => y = .non ∧ Q (.bl (decide (x = .non))) H
abbrev rNotNX : R2 := fun x y H Q => y = .non ∧ Q (.bl (!decide (x = .non))) H
theorem os_isN {G : Gm} : OpS G (r2l rIsNX) fIsN := by
  intro I H ds ws d sm x e Q k
  unfold fIsN at e
  split at e
  · rename_i a
    cases eb : isNonD a with
    | none => rw [eb] at e; cases e
    | some b =>
      rw [eb] at e; cases e
      obtain ⟨v, w, _, _, rfl, r1, ⟨rfl, _⟩⟩ := x.two
      exact ⟨rfl, by rw [isNon_ok r1 eb]; exact fin_sc sm k⟩
  · cases e
theorem os_notN {G : Gm} : OpS G (r2l rNotNX) fNotN := by
  intro I H ds ws d sm x e Q k
  unfold fNotN at e
  split at e
  · rename_i a
    cases eb : isNonD a with
    | none => rw [eb] at e; cases e
    | some b =>
      rw [eb] at e; cases e
      obtain ⟨v, w, _, _, rfl, r1, ⟨rfl, _⟩⟩ := x.two
      exact ⟨rfl, by rw [isNon_ok r1 eb]; exact fin_sc sm k⟩
  · cases e
/-! ### in -/
def flatD : D → Bool
  | .sc v => flatV v
  | _ => false
def inD (x : V) : List D → Bool
  | [] => false
  | .sc y :: ds => eqV y x || inD x ds
  | _ :: ds => inD x ds
def rInX (K : PySem.W.Frag) (neg : Bool) : R2 := fun x y H Q => rIn K neg x y H Q ∨ ∃ c z, x = .str ⟨#[c]⟩ ∧ y = .str z ∧ Q (.bl (if neg then !decide (c ∈ z.cps.toList) else decide (c ∈ z.cps.toList))) H
theorem op_inX {X : Cx} : OpR X (compareOp .In) (rInX X.K false) := fun pins s σ H x y v u Q I rx ry h => h.elim (op_in_seq pins s σ H x y v u Q I rx ry) (fun ⟨c, z, e1, e2, q⟩ => op_in_sign pins s σ H x y v u Q I rx ry ⟨c, z, e1, e2, q⟩)
theorem op_notInX {X : Cx} : OpR X (compareOp .NotIn) (rInX X.K true) := fun pins s σ H x y v u Q I rx ry h => h.elim (op_notIn_seq pins s σ H x y v u Q I rx ry) (fun ⟨c, z, e1, e2, q⟩ => op_notIn_sign pins s σ H x y v u Q I rx ry ⟨c, z, e1, e2, q⟩)
def fIn (neg : Bool) : List D → Option D
  | [.sc (.str x), .sc (.str z)] => match x.cps.toList with
    | [c] => some (.sc (.bl (if neg then !decide (c ∈ z.cps.toList) else decide (c ∈ z.cps.toList))))
    | _ => none
  | [.sc x, .nd k ds] => if k.seq && flatV x && ds.all flatD then some (.sc (.bl (if neg then !inD x ds else inD x ds))) else none
  | _ => none
theorem Rps.flat {G : Gm} {I H : Hp} {x : V} : ∀ {ds : List D} {ws : List V} {g : Ft}, ds.all flatD = true → Rps G I H ds ws g → ws.all flatV = true ∧ inV x ws = inD x ds
  | [], ws, g, _, y => by rw [y.1]; exact ⟨rfl, rfl⟩
  | d :: ds, ws, g, h, y => by
    obtain ⟨v, vr, g1, g2, rfl, y1, y2, _⟩ := y
    simp only [List.all_cons, Bool.and_eq_true] at h
    obtain ⟨a, b⟩ := Rps.flat (x := x) h.2 y2
    cases d with
    | una => cases h.1
    | lent => cases h.1
    | kl _ => cases h.1
    | nd k es => cases h.1
    | sc w =>
      obtain ⟨rfl, _⟩ := y1
      refine ⟨by simp only [List.all_cons, a, Bool.and_true]; exact h.1, ?_⟩
      show (eqV v x || inV x vr) = (eqV v x || inD x ds)
      rw [b]
theorem os_in {G : Gm} {K : PySem.W.Frag} {neg : Bool} : OpS G (r2l (rInX K neg)) (fIn neg) := by
  intro I H ds ws d sm x e Q k
  unfold fIn at e
  split at e
  · rename_i a z
    split at e
    · rename_i c ec
      cases e
      obtain ⟨v, w, _, _, rfl, ⟨rfl, _⟩, ⟨rfl, _⟩⟩ := x.two
      obtain ⟨⟨l⟩⟩ := a
      have : l = [c] := ec
      subst this
      exact .inr ⟨c, z, rfl, rfl, fin_sc sm k⟩
    · cases e
  · rename_i a kd es
    split at e
    · rename_i h
      cases e
      simp only [Bool.and_eq_true] at h
      obtain ⟨v, w, _, _, rfl, ⟨rfl, _⟩, r2⟩ := x.two
      obtain ⟨p, ws, g, rfl, sq, y, l⟩ := node_seq (K := K) sm h.1.1 r2
      obtain ⟨f1, f2⟩ := Rps.flat (x := v) h.2 y
      exact .inl ⟨p, ws, rfl, sq, h.1.2, f1, by rw [f2]; exact fin_sc sm k⟩
    · cases e
  · cases e
end DL

end
section
set_option maxRecDepth 100000
/-! DL, part 9: calls of built-ins, slices, stores, methods that change. -/
namespace DL
open PySem L2

section
variable {G : Gm} {K : PySem.W.Frag}
/-! ### len, list, tuple, sum, all, any, max, min, abs, int, str, divmod -/
def rLenX (K : PySem.W.Frag) : List V → Hp → VK → Prop := fun xs H Q => (∃ x n, xs = [x] ∧ LenV K x H n ∧ Q (.int n) H) ∨ ∃ d kvs, xs = [.ref d] ∧ H d = some (.dK kvs) ∧ Q (.int (kvs.length : Nat)) H
def fLen : List D → Option D
  | [.sc (.str z)] => if z.length ≤ 100000 then some (.sc (.int (z.length : Nat))) else none
  | [.nd k ds] => if k.seq then some (.sc (.int (ds.length : Nat))) else none
  | [.kl xs] => some (.sc (.int (xs.length : Nat)))
  | _ => none
abbrev rLen1 (K : PySem.W.Frag) : List V → Hp → VK → Prop := fun xs H Q => ∃ x n, xs = [x] ∧ LenV K x H n ∧ Q (.int n) H
theorem os_len : OpS G (rLen1 G.K) fLen := by
  intro I H ds ws d sm x e Q k
  unfold fLen at e
  split at e
  · rename_i z
    split at e
    · rename_i h
      cases e
      obtain ⟨v, _, rfl, ⟨rfl, _⟩, _⟩ := x.one
      exact ⟨_, _, rfl, ⟨line5 h, rfl⟩, fin_sc sm k⟩
    · cases e
  · rename_i kd es
    split at e
    · rename_i h
      cases e
      obtain ⟨v, _, rfl, r, _⟩ := x.one
      obtain ⟨p, ws, g, rfl, sq, y, l⟩ := node_seq (K := G.K) sm h r
      refine ⟨_, es.length, rfl, ?_, fin_sc sm k⟩
      rcases sq with z | z
      · exact .inl ⟨ws, z, l.symm⟩
      · exact .inr ⟨ws, z, l.symm⟩
    · cases e
  · rename_i xs
    cases e
    obtain ⟨v, _, rfl, ⟨⟨p, rfl, sq⟩, _⟩, _⟩ := x.one
    exact ⟨_, xs.length, rfl, .inl ⟨_, SqL.up sm sq, by rw [List.length_map]⟩, fin_sc sm k⟩
  · cases e
abbrev rListX (K : PySem.W.Frag) : List V → Hp → VK → Prop := fun xs H Q => ∃ p ys, xs = [.ref p] ∧ (SqL K H p ys ∨ SqT K H p ys) ∧ ∀ l, H l = none → Q (.ref l) (upd H l (.lst ys))
def fList : List D → Option D
  | [.nd k ds] => if k.seq && Fzs ds then some (.nd (.lst true) ds) else none
  | _ => none
theorem os_list : OpS G (rListX K) fList := by
  intro I H ds ws d sm x e Q k
  unfold fList at e
  split at e
  · rename_i kd es
    split at e
    · rename_i h
      cases e
      simp only [Bool.and_eq_true, Fzs_all] at h
      obtain ⟨v, _, rfl, r, _⟩ := x.one
      obtain ⟨p, ws, g, rfl, sq, y, l⟩ := node_seq (K := K) sm h.1 r
      exact ⟨p, ws, rfl, sq, fun q hq => fin_lst sm (y.cold h.2) hq k⟩
    · cases e
  · cases e
abbrev rTupX (K : PySem.W.Frag) : List V → Hp → VK → Prop := fun xs H Q => ∃ p ys, xs = [.ref p] ∧ ((SqL K H p ys ∧ ∀ l, H l = none → Q (.ref l) (upd H l (.tup ys))) ∨ (SqT K H p ys ∧ Q (.ref p) H))
def fTup : List D → Option D
  | [.nd k ds] => if k.seq && Fzs ds then some (.nd .tup ds) else none
  | _ => none
theorem os_tupOf : OpS G (rTupX K) fTup := by
  intro I H ds ws d sm x e Q k
  unfold fTup at e
  split at e
  · rename_i kd es
    split at e
    · rename_i h
      cases e
      simp only [Bool.and_eq_true, Fzs_all] at h
      obtain ⟨v, _, rfl, r, _⟩ := x.one
      cases kd with
      | tup =>
        have hz : Fz (.nd .tup es) = true := by show (!Kd.tup.mut && Fzs es) = true; rw [Fzs_all]; simp [Kd.mut, h.2]
        have r0 := r.fz0 hz
        obtain ⟨p, ws, g, o, rfl, st, e0, y, l⟩ := r.node sm
        cases st
        exact ⟨p, ws, rfl, .inr ⟨SqT.of e0, fin_same sm r0 k⟩⟩
      | lst m =>
        obtain ⟨p, ws, g, o, rfl, st, e0, y, l⟩ := r.node sm
        cases st
        exact ⟨p, ws, rfl, .inl ⟨SqL.of e0, fun q hq => fin_tup sm (y.cold h.2) hq k⟩⟩
      | dik _ _ => cases h.1
      | dit _ _ => cases h.1
      | obj _ _ _ => cases h.1
    · cases e
  · cases e
def intsD : List D → Option (List Int)
  | [] => some []
  | .sc (.int i) :: ds => (intsD ds).map (i :: ·)
  | _ :: _ => none
def boolsD : List D → Option (List Bool)
  | [] => some []
  | .sc (.bl i) :: ds => (boolsD ds).map (i :: ·)
  | _ :: _ => none
theorem ints_vals {I H : Hp} : ∀ {ds : List D} {ws : List V} {g : Ft} {ns : List Int}, intsD ds = some ns → Rps G I H ds ws g → ws = ns.map V.int
  | [], ws, g, ns, e, x => by cases e; exact x.1
  | .sc (.int i) :: ds, ws, g, ns, e, x => by
    obtain ⟨v, vr, g1, g2, rfl, ⟨rfl, _⟩, y, _⟩ := x
    unfold intsD at e
    cases e2 : intsD ds with
    | none => rw [e2] at e; cases e
    | some ms => rw [e2] at e; cases e; rw [ints_vals e2 y]; rfl
  | .una :: ds, ws, g, ns, e, x => by cases e
  | .lent :: ds, ws, g, ns, e, x => by cases e
  | .kl _ :: ds, ws, g, ns, e, x => by cases e
  | .nd _ _ :: ds, ws, g, ns, e, x => by cases e
  | .sc .non :: ds, ws, g, ns, e, x => by cases e
  | .sc (.bl _) :: ds, ws, g, ns, e, x => by cases e
  | .sc (.str _) :: ds, ws, g, ns, e, x => by cases e
  | .sc (.byt _) :: ds, ws, g, ns, e, x => by cases e
  | .sc (.flt _) :: ds, ws, g, ns, e, x => by cases e
  | .sc (.ref _) :: ds, ws, g, ns, e, x => by cases e
  | .sc (.ty _) :: ds, ws, g, ns, e, x => by cases e
theorem bools_vals {I H : Hp} : ∀ {ds : List D} {ws : List V} {g : Ft} {ns : List Bool}, boolsD ds = some ns → Rps G I H ds ws g → ws = ns.map V.bl
  | [], ws, g, ns, e, x => by cases e; exact x.1
  | .sc (.bl i) :: ds, ws, g, ns, e, x => by
    obtain ⟨v, vr, g1, g2, rfl, ⟨rfl, _⟩, y, _⟩ := x
    unfold boolsD at e
    cases e2 : boolsD ds with
    | none => rw [e2] at e; cases e
    | some ms => rw [e2] at e; cases e; rw [bools_vals e2 y]; rfl
  | .una :: ds, ws, g, ns, e, x => by cases e
  | .lent :: ds, ws, g, ns, e, x => by cases e
  | .kl _ :: ds, ws, g, ns, e, x => by cases e
  | .nd _ _ :: ds, ws, g, ns, e, x => by cases e
  | .sc .non :: ds, ws, g, ns, e, x => by cases e
  | .sc (.int _) :: ds, ws, g, ns, e, x => by cases e
  | .sc (.str _) :: ds, ws, g, ns, e, x => by cases e
  | .sc (.byt _) :: ds, ws, g, ns, e, x => by cases e
  | .sc (.flt _) :: ds, ws, g, ns, e, x => by cases e
  | .sc (.ref _) :: ds, ws, g, ns, e, x => by cases e
  | .sc (.ty _) :: ds, ws, g, ns, e, x => by cases e
def Kd.isLst : Kd → Bool
  | .lst _ => true | _ => false
theorem node_lst {I H : Hp} {k : Kd} {ds : List D} {v : V} {f : Ft} (sm : ∀ a o, I a = some o → H a = some o) (hs : k.isLst = true) (x : Rp G I H (.nd k ds) v f) : ∃ p ws g, v = .ref p ∧ SqL K H p ws ∧ Rps G I H ds ws g ∧ ws.length = ds.length := by
  obtain ⟨p, ws, g, o, rfl, s, e, y, l⟩ := x.node sm
  cases k with
  | lst m => cases s; exact ⟨p, ws, g, rfl, SqL.of e, y, l⟩
  | tup => cases hs
  | dik _ _ => cases hs
  | dit _ _ => cases hs
  | obj _ _ _ => cases hs
def fSum : List D → Option D
  | [.nd k ds] => if k.isLst then (intsD ds).map fun ns => .sc (.int ns.sum) else none
  | _ => none
theorem os_sum : OpS G (rSum K) fSum := by
  intro I H ds ws d sm x e Q k
  unfold fSum at e
  split at e
  · rename_i kd es
    split at e
    · rename_i h
      cases en : intsD es with
      | none => rw [en] at e; cases e
      | some ns =>
        rw [en] at e; cases e
        obtain ⟨v, _, rfl, r, _⟩ := x.one
        obtain ⟨p, ws, g, rfl, sq, y, l⟩ := node_lst (K := K) sm h r
        rw [ints_vals en y] at sq
        exact ⟨p, ns, rfl, sq, fin_sc sm k⟩
    · cases e
  · cases e
def fAll : List D → Option D
  | [.nd k ds] => if k.isLst then (boolsD ds).map fun ns => .sc (.bl (ns.all id)) else none
  | _ => none
def fAny : List D → Option D
  | [.nd k ds] => if k.isLst then (boolsD ds).map fun ns => .sc (.bl (ns.any id)) else none
  | _ => none
theorem os_all : OpS G (rAll K) fAll := by
  intro I H ds ws d sm x e Q k
  unfold fAll at e
  split at e
  · rename_i kd es
    split at e
    · rename_i h
      cases en : boolsD es with
      | none => rw [en] at e; cases e
      | some ns =>
        rw [en] at e; cases e
        obtain ⟨v, _, rfl, r, _⟩ := x.one
        obtain ⟨p, ws, g, rfl, sq, y, l⟩ := node_lst (K := K) sm h r
        rw [bools_vals en y] at sq
        exact ⟨p, ns, rfl, sq, fin_sc sm k⟩
    · cases e
  · cases e
theorem os_any : OpS G (rAny K) fAny := by
  intro I H ds ws d sm x e Q k
  unfold fAny at e
  split at e
  · rename_i kd es
    split at e
    · rename_i h
      cases en : boolsD es with
      | none => rw [en] at e; cases e
      | some ns =>
        rw [en] at e; cases e
        obtain ⟨v, _, rfl, r, _⟩ := x.one
        obtain ⟨p, ws, g, rfl, sq, y, l⟩ := node_lst (K := K) sm h r
        rw [bools_vals en y] at sq
        exact ⟨p, ns, rfl, sq, fin_sc sm k⟩
    · cases e
  · cases e
def maxL : List Int → Int
  | [] => 0
  | [x] => x
  | x :: y :: r => if x > maxL (y :: r) then x else maxL (y :: r)
def minL : List Int → Int
  | [] => 0
  | [x] => x
  | x :: y :: r => if x < minL (y :: r) then x else minL (y :: r)
theorem maxL_mem : ∀ {l : List Int}, l ≠ [] → maxL l ∈ l ∧ ∀ y ∈ l, y ≤ maxL l
  | [], h => absurd rfl h
  | [x], _ => ⟨by simp [maxL], by simp [maxL]⟩
  | x :: y :: r, _ => by
    obtain ⟨a, b⟩ := maxL_mem (l := y :: r) (by simp)
    show (if x > maxL (y :: r) then x else maxL (y :: r)) ∈ _ ∧ ∀ z ∈ _, z ≤ (if x > maxL (y :: r) then x else maxL (y :: r))
    split
    · exact ⟨List.mem_cons_self, fun z hz => by
        rcases List.mem_cons.mp hz with rfl | hz
        · omega
        · have := b z hz; omega⟩
    · exact ⟨List.mem_cons_of_mem _ a, fun z hz => by
        rcases List.mem_cons.mp hz with rfl | hz
        · omega
        · exact b z hz⟩
theorem minL_mem : ∀ {l : List Int}, l ≠ [] → minL l ∈ l ∧ ∀ y ∈ l, minL l ≤ y
  | [], h => absurd rfl h
  | [x], _ => ⟨by simp [minL], by simp [minL]⟩
  | x :: y :: r, _ => by
    obtain ⟨a, b⟩ := minL_mem (l := y :: r) (by simp)
    show (if x < minL (y :: r) then x else minL (y :: r)) ∈ _ ∧ ∀ z ∈ _, (if x < minL (y :: r) then x else minL (y :: r)) ≤ z
    split
    · exact ⟨List.mem_cons_self, fun z hz => by
        rcases List.mem_cons.mp hz with rfl | hz
        · omega
        · have := b z hz; omega⟩
    · exact ⟨List.mem_cons_of_mem _ a, fun z hz => by
        rcases List.mem_cons.mp hz with rfl | hz
        · omega
        · exact b z hz⟩
abbrev rMax2 : List V → Hp → VK → Prop := fun xs H Q => ∃ i j, xs = [.int i, .int j] ∧ Q (.int (if j > i then j else i)) H
abbrev rMin2 : List V → Hp → VK → Prop := fun xs H Q => ∃ i j, xs = [.int i, .int j] ∧ Q (.int (if j < i then j else i)) H
def rMaxX (K : PySem.W.Frag) : List V → Hp → VK → Prop := fun xs H Q => rMax K xs H Q ∨ rMax2 xs H Q
def rMinX (K : PySem.W.Frag) : List V → Hp → VK → Prop := fun xs H Q => rMin K xs H Q ∨ rMin2 xs H Q
theorem call_maxX {X : Cx} (hc : X.calm = true) : CallR X (.builtin "max") (rMaxX X.K) := (cr_max hc).or (call_max2 hc)
theorem call_minX {X : Cx} (hc : X.calm = true) : CallR X (.builtin "min") (rMinX X.K) := (cr_min hc).or (call_min2 hc)
def fMax : List D → Option D
  | [.sc (.int i), .sc (.int j)] => some (.sc (.int (if j > i then j else i)))
  | [.nd k ds] => if k.isLst && !ds.isEmpty then (intsD ds).map fun ns => .sc (.int (maxL ns)) else none
  | _ => none
def fMin : List D → Option D
  | [.sc (.int i), .sc (.int j)] => some (.sc (.int (if j < i then j else i)))
  | [.nd k ds] => if k.isLst && !ds.isEmpty then (intsD ds).map fun ns => .sc (.int (minL ns)) else none
  | _ => none
theorem intsD_len : ∀ {ds : List D} {ns : List Int}, intsD ds = some ns → ns.length = ds.length
  | [], ns, e => by cases e; rfl
  | d :: ds, ns, e => by
    unfold intsD at e
    split at e
    · rename_i h; cases h
    · rename_i i r h
      cases h
      cases e2 : intsD ds with
      | none => rw [e2] at e; cases e
      | some ms => rw [e2] at e; cases e; simp [intsD_len e2]
    · cases e
theorem os_max : OpS G (rMaxX K) fMax := by
  intro I H ds ws d sm x e Q k
  unfold fMax at e
  split at e
  · rename_i i j
    cases e
    obtain ⟨v, w, _, _, rfl, ⟨rfl, _⟩, ⟨rfl, _⟩⟩ := x.two
    exact .inr ⟨i, j, rfl, fin_sc sm k⟩
  · rename_i kd es
    split at e
    · rename_i h
      simp only [Bool.and_eq_true, Bool.not_eq_true', List.isEmpty_eq_false_iff] at h
      cases en : intsD es with
      | none => rw [en] at e; cases e
      | some ns =>
        rw [en] at e; cases e
        obtain ⟨v, _, rfl, r, _⟩ := x.one
        obtain ⟨p, ws, g, rfl, sq, y, l⟩ := node_lst (K := K) sm h.1 r
        rw [ints_vals en y] at sq
        have hl := intsD_len en
        have hne : ns ≠ [] := fun q => h.2 (List.eq_nil_of_length_eq_zero (by rw [← hl, q]; rfl))
        refine .inl ⟨p, ns, rfl, sq, List.length_pos_iff.mpr hne, fun m hm hle => ?_⟩
        obtain ⟨a, b⟩ := maxL_mem hne
        have : m = maxL ns := by have := b m hm; have := hle _ a; omega
        rw [this]
        exact fin_sc sm k
    · cases e
  · cases e
theorem os_min : OpS G (rMinX K) fMin := by
  intro I H ds ws d sm x e Q k
  unfold fMin at e
  split at e
  · rename_i i j
    cases e
    obtain ⟨v, w, _, _, rfl, ⟨rfl, _⟩, ⟨rfl, _⟩⟩ := x.two
    exact .inr ⟨i, j, rfl, fin_sc sm k⟩
  · rename_i kd es
    split at e
    · rename_i h
      simp only [Bool.and_eq_true, Bool.not_eq_true', List.isEmpty_eq_false_iff] at h
      cases en : intsD es with
      | none => rw [en] at e; cases e
      | some ns =>
        rw [en] at e; cases e
        obtain ⟨v, _, rfl, r, _⟩ := x.one
        obtain ⟨p, ws, g, rfl, sq, y, l⟩ := node_lst (K := K) sm h.1 r
        rw [ints_vals en y] at sq
        have hl := intsD_len en
        have hne : ns ≠ [] := fun q => h.2 (List.eq_nil_of_length_eq_zero (by rw [← hl, q]; rfl))
        refine .inl ⟨p, ns, rfl, sq, List.length_pos_iff.mpr hne, fun m hm hle => ?_⟩
        obtain ⟨a, b⟩ := minL_mem hne
        have : m = minL ns := by have := b m hm; have := hle _ a; omega
        rw [this]
        exact fin_sc sm k
    · cases e
  · cases e
abbrev rAbs : List V → Hp → VK → Prop := fun xs H Q => ∃ i, xs = [.int i] ∧ Q (.int (if i < 0 then -i else i)) H
def fAbs : List D → Option D
  | [.sc (.int i)] => some (.sc (.int (if i < 0 then -i else i)))
  | _ => none
theorem os_abs : OpS G rAbs fAbs := by
  intro I H ds ws d sm x e Q k
  unfold fAbs at e
  split at e
  · rename_i i
    cases e
    obtain ⟨v, _, rfl, ⟨rfl, _⟩, _⟩ := x.one
    exact ⟨i, rfl, fin_sc sm k⟩
  · cases e
def rIntX : List V → Hp → VK → Prop := fun xs H Q => ((∃ i, xs = [.int i] ∧ Q (.int i) H) ∨ ∃ k, xs = [.bl k] ∧ Q (.int (if k then 1 else 0)) H) ∨ ∃ a n, xs = [.str a] ∧ PySem.intText? a = some n ∧ a.length ≤ 640 ∧ Q (.int n) H
def fInt : List D → Option D
  | [.sc (.int i)] => some (.sc (.int i))
  | [.sc (.bl k)] => some (.sc (.int (if k then 1 else 0)))
  | [.sc (.str a)] => if a.length ≤ 640 then (PySem.intText? a).map fun n => .sc (.int n) else none
  | _ => none
theorem os_int : OpS G rIntX fInt := by
  intro I H ds ws d sm x e Q k
  unfold fInt at e
  split at e
  · rename_i i
    cases e
    obtain ⟨v, _, rfl, ⟨rfl, _⟩, _⟩ := x.one
    exact .inl (.inl ⟨i, rfl, fin_sc sm k⟩)
  · rename_i i
    cases e
    obtain ⟨v, _, rfl, ⟨rfl, _⟩, _⟩ := x.one
    exact .inl (.inr ⟨i, rfl, fin_sc sm k⟩)
  · rename_i a
    split at e
    · rename_i h
      cases en : PySem.intText? a with
      | none => rw [en] at e; cases e
      | some n =>
        rw [en] at e; cases e
        obtain ⟨v, _, rfl, ⟨rfl, _⟩, _⟩ := x.one
        exact .inr ⟨a, n, rfl, en, h, fin_sc sm k⟩
    · cases e
  · cases e
abbrev rStrI : List V → Hp → VK → Prop := fun xs H Q => ∃ i, xs = [.int i] ∧ i.natAbs.log2 < 1920 ∧ Q (.str (toString i)) H
def fStr : List D → Option D
  | [.sc (.int i)] => if i.natAbs.log2 < 1920 then some (.sc (.str (toString i))) else none
  | _ => none
theorem os_str : OpS G rStrI fStr := by
  intro I H ds ws d sm x e Q k
  unfold fStr at e
  split at e
  · rename_i i
    split at e
    · rename_i h
      cases e
      obtain ⟨v, _, rfl, ⟨rfl, _⟩, _⟩ := x.one
      exact ⟨i, rfl, h, fin_sc sm k⟩
    · cases e
  · cases e
abbrev rDivmod : List V → Hp → VK → Prop := fun xs H Q => ∃ i j, xs = [.int i, .int j] ∧ CDivP i j ∧ ∀ p, H p = none → Q (.ref p) (upd H p (.tup [.int (i / j), .int (i % j)]))
def fDivmod : List D → Option D
  | [.sc (.int i), .sc (.int j)] => if 0 < j ∧ j.natAbs.log2 < 9000 then some (.nd .tup [.sc (.int (i / j)), .sc (.int (i % j))]) else none
  | _ => none
theorem os_divmod : OpS G rDivmod fDivmod := by
  intro I H ds ws d sm x e Q k
  unfold fDivmod at e
  split at e
  · rename_i i j
    split at e
    · rename_i h
      cases e
      obtain ⟨v, w, _, _, rfl, ⟨rfl, _⟩, ⟨rfl, _⟩⟩ := x.two
      refine ⟨i, j, rfl, ⟨h.1, PyProof.noPylong_of_log2 h.2⟩, fun p hp => fin_tup sm ?_ hp k⟩
      exact ⟨_, _, z0, z0, rfl, ⟨rfl, fun _ => rfl⟩, ⟨_, _, z0, z0, rfl, ⟨rfl, fun _ => rfl⟩, ⟨rfl, fun _ => rfl⟩, fun _ => rfl⟩, fun _ => rfl⟩
    · cases e
  · cases e
/-! ### list(range(..)) -/
end
def dLstRg1 (d : Den) : Den := fun E => (d E).bind fun r => match cont r.2 r.1 with
  | some (.sc (.int j)) => if 0 ≤ j ∧ j ≤ 100000 then .ok (.val (.nd (.lst true) (rngD 0 j.toNat)), r.2) else .bad
  | _ => .bad
def dLstRg2 (pu2 : Bool) (d1 d2 : Den) : Den := fun E => (aCons pu2 d1 (aCons true d2 aNil) E).bind fun r => match conts r.2 r.1 with
  | some [.sc (.int i), .sc (.int j)] => if 0 ≤ i ∧ i ≤ 100000 ∧ 0 ≤ j ∧ j ≤ 100000 then .ok (.val (.nd (.lst true) (rngD i (j - i).toNat)), r.2) else .bad
  | _ => .bad
section
variable {G : Gm} {W : WX} {pu : Bool} {das : DenA} {te tb : TE}
theorem rng_vals {I H : Hp} {lo : Int} : ∀ {n : Nat}, Rps G I H (rngD lo n) ((List.range n).map fun (k : Nat) => V.int (lo + (k : Int))) z0 := by
  intro n
  have : ∀ l : List Nat, Rps G I H (l.map fun (k : Nat) => D.sc (.int (lo + (k : Int)))) (l.map fun (k : Nat) => V.int (lo + (k : Int))) z0 := by
    intro l
    induction l with
    | nil => exact ⟨rfl, fun _ => rfl⟩
    | cons a l ih => exact ⟨_, _, z0, z0, rfl, ⟨rfl, fun _ => rfl⟩, ih, fun _ => rfl⟩
  exact this _
/-- a new list of frozen things, made from operands -/
theorem new_lst {σ : St} {I H I1 H1 : Hp} {E E1 : List D} {vs : List V} {f f1 g1 : Ft} {p : Addr} {ds : List D} {ws : List V} {Q : VK} (s1 : Stt G σ I1 H1 E1 vs f1) (n1 : ∀ a, f1 a + g1 a ≤ 1) (a1 : Fr pu I H f I1 H1 (fadd f1 g1)) (e1 : pu = true → E1 = E) (x : Rps G I1 H1 ds ws z0) (hp : H1 p = none)
    (h : ∀ v I' H' f' g, Stt G σ I' H' E1 vs f' → OpRel G I' H' E1 vs (.val (.nd (.lst true) ds)) v g → (∀ a, f' a + g a ≤ 1) → Fr pu I H f I' H' (fadd f' g) → (pu = true → E1 = E) → Q v H') : Q (.ref p) (upd H1 p (.lst ws)) := by
  have nw := Nw.mutP (o := .lst ws) s1.sm hp
  have f0 := free_of s1.rp hp
  refine h (.ref p) _ _ f1 (fadd z0 (one1 p)) (s1.nw nw) (new_mut s1.sm hp rfl rfl x) (fun a => ?_) (((a1.trans (nw.fr (f := fadd f1 g1) (g := fadd f1 (fadd z0 (one1 p))) (pu := pu) fun a z => ?_))).imp fun z => by simp [z]) e1
  · by_cases q : a = p
    · subst q; simp [one1_self, f0]
    · simp [one1_ne q]; exact s1.nd a
  · by_cases q : a = p
    · subst q; exact .inr hp
    · left; simp [one1_ne q] at z ⊢; omega
theorem t_lstrg1 {d : Den} (h0 : ∀ σ H Q, tO G W pu d σ H Q → te σ H Q) : ∀ σ H Q, tO G W pu (dLstRg1 d) σ H Q → tLstRg (tRg1 te) σ H Q := by
  rintro σ H Q ⟨I, E, vs, f, s, hh⟩
  refine (h0 _ _ _ ⟨I, E, vs, f, s, hh.fst fun r er h => ?_⟩ : te σ H _)
  intro v I1 H1 f1 g1 s1 o1 n1 a1 e1
  split at h
  · rename_i j ec
    split at h
    · rename_i hb
      obtain ⟨g', y, _⟩ := o1.cont s1 (fun a => by have := n1 a; omega) ec
      obtain ⟨rfl, _⟩ := y
      refine ⟨j, rfl, RgOk.of_le (by omega) (by omega) (by omega) hb.1, fun q hq => ?_⟩
      have e2 : rgV 0 j = (List.range j.toNat).map fun (k : Nat) => V.int (0 + (k : Int)) := by unfold rgV; rw [show j - 0 = j by omega]
      rw [e2]
      exact new_lst s1 n1 a1 e1 rng_vals hq h
    · exact h.elim
  · exact h.elim
theorem t_lstrg2 {pu1 pu2 : Bool} {d1 d2 : Den} (h1 : ∀ σ H Q, tO G W pu1 d1 σ H Q → te σ H Q) (h2 : ∀ σ H Q, tO G W pu2 d2 σ H Q → tb σ H Q) : ∀ σ H Q, tO G W (pu1 && (pu2 && true)) (dLstRg2 (pu2 && true) d1 d2) σ H Q → tLstRg (tRg2 te tb) σ H Q := by
  rintro σ H Q ⟨I, E, vs, f, s, hh⟩
  refine (t_acons h1 (t_acons h2 t_anil) σ H (fun ws H' => r2l (fun x y H' Q => ∃ i j, x = .int i ∧ y = .int j ∧ (RgOk i j ∧ ∀ q, H' q = none → Q (.ref q) (upd H' q (.lst (rgV i j))))) ws H' Q) ?_ : _)
  refine ⟨I, E, vs, f, s, hh.fst fun r er h => ?_⟩
  intro ws I1 H1 f1 g1 s1 o1 n1 a1 e1
  split at h
  · rename_i i j ec
    have ew := Rpi.ints2 (o1.conts s1 (fun a => by have := n1 a; omega) ec)
    subst ew
    split at h
    · rename_i hb
      refine ⟨i, j, rfl, rfl, RgOk.of_le (by omega) (by omega) (by omega) (by omega), fun q hq => ?_⟩
      exact new_lst s1 n1 a1 e1 rng_vals hq h
    · exact h.elim
  · exact h.elim
end

/-! ### isinstance -/
/-- the type's name -/
def tyD : D → Option String
  | .una => none
  | .lent => none
  | .kl _ => none
  | .sc v => match v with
    | .non => some "NoneType"
    | .bl _ => some "bool"
    | .int _ => some "int"
    | .str _ => some "str"
    | _ => none
  | .nd k _ => match k with
    | .tup => some "tuple"
    | .lst _ => some "list"
    | .dik _ _ => some "dict"
    | .dit _ _ => some "dict"
    | .obj _ _ _ => none
def isiTy (m : String) : Bool := m == "bool" || m == "int" || m == "str" || m == "tuple" || m == "list" || m == "dict"
def isiD (n m : String) : Option Bool := if isiTy m then some (n == m || (n == "bool" && m == "int")) else none
/-- isinstance(x, T), T a built-in class -/
def fIsi : List D → Option D
  | [x, .sc (.ty m)] => match tyD x with
    | some n => (isiD n m).map fun b => .sc (.bl b)
    | none => none
  | _ => none
theorem isi_kit {n m : String} {b : Bool} (h : isiD n m = some b) (hn : n = "NoneType" ∨ n = "bool" ∨ n = "int" ∨ n = "str" ∨ n = "tuple" ∨ n = "list" ∨ n = "dict") : kitB n m = some b := by
  unfold isiD at h
  split at h
  · rename_i hm
    simp only [isiTy, Bool.or_eq_true, beq_iff_eq] at hm
    rcases hn with rfl | rfl | rfl | rfl | rfl | rfl | rfl <;> rcases hm with ((((rfl | rfl) | rfl) | rfl) | rfl) | rfl <;> (revert h; cases b <;> decide +kernel)
  · cases h
section
variable {G : Gm} {K : PySem.W.Frag}
theorem tyX_of {I H : Hp} {d : D} {v : V} {g : Ft} {n : String} (sm : ∀ a o, I a = some o → H a = some o) (x : Rp G I H d v g) (e : tyD d = some n) : TyX K H v (.type n) ∧ (n = "NoneType" ∨ n = "bool" ∨ n = "int" ∨ n = "str" ∨ n = "tuple" ∨ n = "list" ∨ n = "dict") := by
  cases d with
  | una => cases e
  | lent => cases e
  | kl _ => cases e
  | sc w =>
    obtain ⟨rfl, _⟩ := x
    cases v with
    | non => cases e; exact ⟨.base .non, by simp⟩
    | bl b => cases e; exact ⟨.base (.bl b), by simp⟩
    | int i => cases e; exact ⟨.base (.int i), by simp⟩
    | str z => cases e; exact ⟨.base (.str z), by simp⟩
    | _ => cases e
  | nd k ds =>
    obtain ⟨p, ws, g, o, rfl, st, e0, y, l⟩ := x.node sm
    cases k with
    | tup => cases e; cases st; exact ⟨.base (.tup e0), by simp⟩
    | lst m => cases e; cases st; exact ⟨.base (.lst e0), by simp⟩
    | dik m ks => cases e; obtain ⟨_, rfl⟩ := st; exact ⟨.base (.dK e0), by simp⟩
    | dit m ks => cases e; obtain ⟨_, rfl⟩ := st; exact ⟨.base (.dT e0), by simp⟩
    | obj m c ns => cases e
theorem os_isi : OpS G (rIsi K) fIsi := by
  intro I H ds ws d sm x e Q k
  unfold fIsi at e
  split at e
  · rename_i a m
    split at e
    · rename_i n en
      cases eb : isiD n m with
      | none => rw [eb] at e; cases e
      | some b =>
        rw [eb] at e; cases e
        obtain ⟨v, w, _, _, rfl, r1, ⟨rfl, _⟩⟩ := x.two
        obtain ⟨t, hn⟩ := tyX_of (K := K) sm r1 en
        exact ⟨v, .ty m, _, _, b, rfl, .ty m, t, kit_ty (isi_kit eb hn), fin_sc sm k⟩
    · cases e
  · cases e
end
end DL

end
section
set_option maxRecDepth 100000
/-! DL, part 10: what changes. -/
namespace DL
open PySem L2

section
variable {G : Gm} {W : WX} {pu : Bool} {K : PySem.W.Frag}
/-- an owned node, to be written -/
theorem Stt.mutate {σ : St} {I H : Hp} {E : List D} {vs : List V} {f : Ft} {i : Nat} {p : List Nat} {v : V} {k : Kd} {ds : List D} (s : Stt G σ I H E vs f) (l : Loc G I H E vs i p v) (e : getP E i p = some (.nd k ds)) (mu : k.mut = true) :
    ∃ q ws ob g h, v = .ref q ∧ k.st G ws ob ∧ H q = some ob ∧ I q = none ∧ Rps G I H ds ws g ∧ (∀ a, f a = g a + one1 q a + h a) ∧
      ∀ {k' : Kd} {ds' : List D} {ws' : List V} {ob' : HO} {g' : Ft}, k'.mut = true → k'.st G ws' ob' → Rps G I (upd H q ob') ds' ws' g' → (∀ a, g' a + one1 q a + h a ≤ 1) →
        Stt G σ I (upd H q ob') (setP E i p (.nd k' ds')) vs (fadd (fadd g' (one1 q)) h) := by
  obtain ⟨g0, h, y, q0, kk⟩ := s.at l e
  obtain ⟨q, ws, g, ob, rfl, st, z, c⟩ := y
  rcases c with ⟨_, n, eH, c⟩ | ⟨m, _⟩
  · refine ⟨q, ws, ob, g, h, rfl, st, eH, n, z, fun a => by have := q0 a; have := c a; omega, fun {k' ds' ws' ob' g'} mu' st' z' nd' => ?_⟩
    have hq : h q = 0 := by have := nd' q; rw [one1_self] at this; omega
    have r : Rp G I (upd H q ob') (.nd k' ds') (.ref q) (fadd g' (one1 q)) := ⟨q, ws', g', ob', rfl, st', z', .inl ⟨mu', n, upd_same, fun _ => rfl⟩⟩
    refine ⟨s.sl.setP e fun _ => by simp, fun a o ea => ?_, kk (fun _ _ e => e) r fun a z => ?_, fun a => by have := nd' a; simp; omega⟩
    · have : a ≠ q := by rintro rfl; rw [n] at ea; cases ea
      rw [upd_ne this]; exact s.sm a o ea
    · have ha : a ≠ q := by rintro rfl; exact z hq
      exact ⟨(s.rp.trk a (by have := q0 a; omega)).1, upd_ne ha⟩
  · rw [mu] at m; cases m
/-- children at the node's other content -/
theorem Rps.beside {I H : Hp} {ds : List D} {ws : List V} {g : Ft} {q : Addr} {ob : HO} (x : Rps G I H ds ws g) (hq : g q = 0) : Rps G I (upd H q ob) ds ws g :=
  x.move (fun _ _ e => e) fun a z => ⟨(x.trk a z).1, upd_ne (by rintro rfl; exact z hq)⟩
theorem Rp.beside {I H : Hp} {d : D} {v : V} {g : Ft} {q : Addr} {ob : HO} (x : Rp G I H d v g) (hq : g q = 0) : Rp G I (upd H q ob) d v g :=
  x.move (fun _ _ e => e) fun a z => ⟨(x.trk a z).1, upd_ne (by rintro rfl; exact z hq)⟩
theorem Fr.wrote {I H : Hp} {q : Addr} {ob : HO} {f f' : Ft} (hq : f q ≠ 0) (h : ∀ a, f' a ≠ 0 → f a ≠ 0) : Fr false I H f I (upd H q ob) f' :=
  ⟨fun _ _ e => e, fun a o e z => by rw [upd_ne (by rintro rfl; exact hq z)]; exact e, fun _ _ _ _ e => e, fun a z => .inl (h a z), fun z => by cases z⟩

/-! ### o[i] = e, a list -/
def setIK (r : List Opd × List D) : S := match r.1 with
  | [.val c, .plc i p, q] => match getP r.2 i p, cont r.2 q with
    | some (.nd (.lst true) ds), some (.sc (.int j)) => match ixN ds.length j with
      | some n => .nx (setP r.2 i p (.nd (.lst true) (ds.set n c)))
      | none => .bad
    | _, _ => .bad
  | _ => .bad
def dSetI (p1 p2 : Bool) (d d0 di : Den) : DenS := fun E => (aCons (p1 && (p2 && true)) d (aCons (p2 && true) d0 (aCons true di aNil)) E).toS setIK
theorem Rps.set0 {I H : Hp} {ds : List D} {ws : List V} {g gc : Ft} {n : Nat} {c : D} {v : V} (x : Rps G I H ds ws g) (y : Rp G I H c v gc) (hn : n < ds.length) : ∃ g', Rps G I H (ds.set n c) (ws.set n v) g' ∧ ∀ a, g' a ≤ g a + gc a := by
  obtain ⟨w, g0, h, ew, yw, q, k⟩ := x.get (List.getElem?_eq_getElem hn)
  exact ⟨_, k (fun _ _ e => e) y fun a z => ⟨(x.trk a (by have := q a; omega)).1, rfl⟩, fun a => by have := q a; simp; omega⟩
theorem t_setI {te t0 ti : TE} {p0 p1 p2 : Bool} {d d0 di : Den} (h0 : ∀ σ H Q, tO G W p0 d σ H Q → te σ H Q) (h1 : ∀ σ H Q, tO G W p1 d0 σ H Q → t0 σ H Q) (h2 : ∀ σ H Q, tO G W p2 di σ H Q → ti σ H Q) :
    ∀ D σ H, tS G W [] (dSetI p1 p2 d d0 di) D σ H → tAsg te (gSub t0 ti rSetL) D σ H := by
  rintro D σ H ⟨I, E, vs, f, s, hh⟩
  refine (t_acons h0 (t_acons h1 (t_acons h2 t_anil)) σ H (fun ws H' => match ws with | [v, o, i] => rSetL o i v H' (fun H3 => D.nx σ H3) | _ => False) ?_ : _)
  refine ⟨I, E, vs, f, s, Ans.of_S hh fun r er h => ?_⟩
  intro ws I1 H1 f1 g1 s1 o1 n1 a1 e1
  obtain ⟨os, E1⟩ := r
  unfold setIK at h
  split at h
  · rename_i c i p q eos
    have eos' : os = [.val c, .plc i p, q] := eos
    subst eos'
    obtain ⟨v, vr, ga, gb, rfl, oa, ⟨w, vr2, gc, gd, rfl, ob, ⟨u, vr3, ge, gf, rfl, oc, ⟨rfl, zf⟩, qc⟩, qb⟩, qa⟩ := o1
    split at h
    · rename_i ds j ep eq
      split at h
      · rename_i n en
        obtain ⟨gi, yi, _⟩ := oc.cont s1 (fun a => by have := n1 a; have := qa a; have := qb a; have := qc a; omega) eq
        obtain ⟨rfl, _⟩ := yi
        obtain ⟨q', ws', hob, g, hr, rfl, st, eH, nI, z, qq, mk⟩ := s1.mutate ob.1 ep rfl
        cases st
        obtain ⟨_, hn, _⟩ := ixN_seq en
        have gq : g q' = 0 := by have := n1 q'; have := qq q'; rw [one1_self] at this; omega
        have gaq : ga q' = 0 := by have := n1 q'; have := qq q'; have := qa q'; rw [one1_self] at *; omega
        obtain ⟨g', z', le⟩ := (z.beside (ob := .lst (ws'.set n v)) gq).set0 (n := n) (Rp.beside (ob := .lst (ws'.set n v)) oa gaq) hn
        have s2 := mk (k' := .lst true) (ob' := .lst (ws'.set n v)) rfl rfl z' fun a => by have := le a; have := n1 a; have := qq a; have := qa a; omega
        refine ⟨q', ws', j, n, rfl, rfl, eH, by rw [z.len]; exact en, ?_⟩
        refine h σ vs _ _ _ s2 Agr.refl ?_
        have w := Fr.wrote (I := I1) (H := H1) (ob := .lst (ws'.set n v)) (q := q') (f := fadd f1 g1) (f' := fadd (fadd g' (one1 q')) hr) (by have := qq q'; rw [one1_self] at this; simp; omega) fun a z => by
          have := le a; have := qq a; have := qa a; simp at z ⊢; omega
        exact (a1.trans w).imp fun z => by cases z
      · exact h.elim
    · exact h.elim
  · exact h.elim

/-! ### built-in methods that change their object -/
abbrev MutF := Kd → List D → List D → Option (D × Kd × List D)
def MutS (G : Gm) (r : V → List V → Hp → VK → Prop) (M : MutF) : Prop := ∀ (I H : Hp) (k : Kd) (ds as : List D) (q : Addr) (ws was : List V) (ob : HO) (g ga : Ft) (res : D) (k' : Kd) (ds' : List D), k.mut = true → k.st G ws ob → H q = some ob → (∀ a o, I a = some o → H a = some o) →
  Rps G I H ds ws g → Rps G I H as was ga → (∀ a, g a + ga a + one1 q a ≤ 1) → M k ds as = some (res, k', ds') → ∀ Q : VK,
  (∀ ob' ws' g' v gr, k'.mut = true → k'.st G ws' ob' → Rps G I (upd H q ob') ds' ws' g' → Rp G I (upd H q ob') res v gr → (∀ a, g' a + gr a ≤ g a + ga a) → Q v (upd H q ob')) → r (.ref q) was H Q
def mutK (M : MutF) (r : Opd × (List Opd × List D)) : R (Opd × List D) := match r.1 with
  | .plc i p => match getP r.2.2 i p, opVals r.2.1 with
    | some (.nd k ds), some as => if k.mut then (match M k ds as with
      | some (res, k', ds') => .ok (.val res, setP r.2.2 i p (.nd k' ds'))
      | none => .bad) else .bad
    | _, _ => .bad
  | .val _ => .bad
/-- the receiver is a list | a dict -/
def isTy (T : String) : Option D → Bool
  | some (.nd (.lst _) _) => T == "list"
  | some (.nd (.dik _ _) _) => T == "dict"
  | some (.nd (.dit _ _) _) => T == "dict"
  | _ => false
def dMut (T : String) (M : MutF) (pu2 : Bool) (d0 : Den) (das : DenA) : Den := fun E => (d0 E).bind fun r => if isTy T (cont r.2 r.1) && stab pu2 r.1 then (das r.2).bind fun q => mutK M (r.1, q) else .bad
theorem tyV_of {I H : Hp} {d : D} {v : V} {g : Ft} {T : String} (sm : ∀ a o, I a = some o → H a = some o) (x : Rp G I H d v g) (e : isTy T (some d) = true) : tyV K T v H := by
  cases d with
  | una => cases e
  | lent => cases e
  | kl _ => cases e
  | sc w => cases e
  | nd k ds =>
    obtain ⟨p, ws, g, o, rfl, st, e0, y, l⟩ := x.node sm
    cases k with
    | lst m => cases st; have : T = "list" := by simpa [isTy] using e
               subst this; exact .inl ⟨rfl, ws, SqL.of e0⟩
    | dik m ks => obtain ⟨_, rfl⟩ := st; have : T = "dict" := by simpa [isTy] using e
                  subst this; exact .inr (.inr (.inl ⟨rfl, .inl ⟨_, e0⟩⟩))
    | dit m ks => obtain ⟨_, rfl⟩ := st; have : T = "dict" := by simpa [isTy] using e
                  subst this; exact .inr (.inr (.inl ⟨rfl, .inr ⟨_, e0⟩⟩))
    | tup => cases e
    | obj _ _ _ => cases e
theorem t_mutA {te : TE} {ta : TA} {pu1 pu2 : Bool} {d0 : Den} {das : DenA} {T : String} {r : V → List V → Hp → VK → Prop} {M : MutF} (hr : MutS G r M) (h0 : ∀ σ H Q, tO G W pu1 d0 σ H Q → te σ H Q) (ha : ∀ σ H Q, tA G W pu2 das σ H Q → ta σ H Q) :
    ∀ σ H Q, tO G W false (dMut T M pu2 d0 das) σ H Q → te σ H (fun x H1 => tyV K T x H1 ∧ ta σ H1 fun xs H2 => r x xs H2 Q) := by
  rintro σ H Q ⟨I, E, vs, f, s, hh⟩
  refine h0 _ _ _ ⟨I, E, vs, f, s, hh.fst fun x ex h => ?_⟩
  intro v I1 H1 f1 g1 s1 o1 n1 a1 e1
  obtain ⟨o, E1⟩ := x
  by_cases hc : (isTy T (cont E1 o) && stab pu2 o) = true
  · have h : Ans G W σ I H f vs (if (isTy T (cont E1 o) && stab pu2 o) = true then (das E1).bind fun q => mutK M (o, q) else .bad) _ := h
    rw [if_pos hc] at h
    simp only [Bool.and_eq_true] at hc
    have a1' : Fr pu1 I H f I1 H1 f1 := a1.less fun x z => by simp; omega
    refine ⟨?_, ha _ _ _ ⟨I1, E1, vs, f1, s1, (h.fwd a1').fst fun q eq _ => ?_⟩⟩
    · cases ec : cont E1 o with
      | none => rw [ec] at hc; cases hc.1
      | some c =>
        obtain ⟨g', y, _⟩ := o1.cont s1 (fun a => by have := n1 a; omega) ec
        rw [ec] at hc
        exact tyV_of s1.sm y hc.1
    · intro ws2 I2 H2 f2 g2 s2 o2 n2 a2 e2
      rw [eq] at h
      have o1' := o1.keep hc.2 (E1 := q.2) a2 n1 e2
      have h : Ans G W σ I H f vs (mutK M (o, q)) _ := h
      have n3 := a2.apart (g := g1) o1.trk n1 (fun x => by have := n2 x; simpa using this)
      cases o with
      | val d => exact h.elim
      | plc i p =>
        have h : Ans G W σ I H f vs (match getP q.2 i p, opVals q.1 with
          | some (.nd k ds), some as => if k.mut then (match M k ds as with
            | some (res, k', ds') => R.ok (Opd.val res, setP q.2 i p (.nd k' ds'))
            | none => R.bad) else R.bad
          | _, _ => R.bad) _ := h
        split at h
        · rename_i k ds as ep ea
          split at h
          · rename_i mu
            split at h
            · rename_i res k' ds' em
              obtain ⟨q', ws', hob, g, hrr, rfl, st, eH, nI, z, qq, mk⟩ := s2.mutate o1'.1 ep mu
              have xa := o2.vals ea
              have gz := o1'.2
              refine hr I2 H2 k ds as q' ws' ws2 hob g g2 res k' ds' mu st eH s2.sm z xa (fun a => by have := n2 a; have := qq a; omega) em Q fun ob' ws3 g3 v gr mu' st' z3 y3 le => ?_
              have s3 := mk (ob' := ob') mu' st' z3 fun a => by have := le a; have := n2 a; have := qq a; omega
              refine h v I2 _ _ gr s3 y3 (fun a => by have := le a; have := n2 a; have := qq a; simp; omega) ?_ (fun z => by cases z)
              have w := Fr.wrote (I := I2) (H := H2) (ob := ob') (q := q') (f := fadd f2 g2) (f' := fadd (fadd (fadd g3 (one1 q')) hrr) gr) (by have := qq q'; rw [one1_self] at this; simp; omega) fun a z => by
                have := le a; have := qq a; simp at z ⊢; omega
              exact ((a1'.trans a2).trans w).imp fun z => by cases z
            · exact h.elim
          · exact h.elim
        · exact h.elim
  · have h : Ans G W σ I H f vs (if (isTy T (cont E1 o) && stab pu2 o) = true then (das E1).bind fun q => mutK M (o, q) else .bad) _ := h
    rw [if_neg hc] at h
    exact h.elim
/-- with arguments | without -/
theorem t_mut {te : TE} {ta : TA} {pu1 pu2 : Bool} {d0 : Den} {das : DenA} {T : String} {r : V → List V → Hp → VK → Prop} {M : MutF} (hr : MutS G r M) (h0 : ∀ σ H Q, tO G W pu1 d0 σ H Q → te σ H Q) (ha : ∀ σ H Q, tA G W pu2 das σ H Q → ta σ H Q) :
    ∀ σ H Q, tO G W false (dMut T M pu2 d0 das) σ H Q → tBM K T r te ta σ H Q := t_mutA hr h0 ha
theorem t_mut0 {te : TE} {pu1 : Bool} {d0 : Den} {T : String} {r : V → List V → Hp → VK → Prop} {M : MutF} (hr : MutS G r M) (h0 : ∀ σ H Q, tO G W pu1 d0 σ H Q → te σ H Q) :
    ∀ σ H Q, tO G W false (dMut T M true d0 aNil) σ H Q → tBM0 K T r te σ H Q := t_mutA (ta := tNil) hr h0 t_anil

def mAppend : MutF := fun k ds as => match k, as with
  | .lst true, [a] => if ds.length < 100000 then some (.sc .non, .lst true, ds ++ [a]) else none
  | _, _ => none
theorem line5' {n : Nat} (h : n < 100000) : n < sizeLine := Nat.lt_of_lt_of_le h (by decide)
theorem ms_append : MutS G rAppend mAppend := by
  intro I H k ds as q ws was ob g ga res k' ds' mu st eH sm z za nd em Q kk
  unfold mAppend at em
  split at em
  · rename_i a
    split at em
    · rename_i hl
      cases em; cases st
      obtain ⟨v, vr, g1, g2, rfl, y, ⟨rfl, zz⟩, qq⟩ := za
      have gq : g q = 0 := by have := nd q; rw [one1_self] at this; omega
      have g1q : g1 q = 0 := by have := nd q; have := qq q; rw [one1_self] at *; omega
      refine ⟨q, ws, v, rfl, rfl, eH, by rw [z.len]; exact line5' hl, ?_⟩
      exact kk _ _ _ .non z0 rfl rfl ((z.beside gq).app (Rps.one (y.beside g1q))) ⟨rfl, fun _ => rfl⟩ fun a => by have := qq a; simp; omega
    · cases em
  · cases em
def mPop : MutF := fun k ds as => match k, as with
  | .lst true, [] => match ds[ds.length - 1]? with
    | some c => some (c, .lst true, ds.dropLast)
    | none => none
  | _, _ => none
theorem Rps.last {I H : Hp} : ∀ {ds : List D} {ws : List V} {g : Ft} {c : D}, Rps G I H ds ws g → ds[ds.length - 1]? = some c → ∃ v g1 g2, ws[ws.length - 1]? = some v ∧ Rp G I H c v g1 ∧ Rps G I H ds.dropLast ws.dropLast g2 ∧ ∀ a, g a = g1 a + g2 a
  | [], ws, g, c, x, e => by simp at e
  | [d], ws, g, c, x, e => by
    obtain ⟨v, vr, g1, g2, rfl, y, ⟨rfl, zz⟩, q⟩ := x
    simp at e; subst e
    exact ⟨v, g1, g2, rfl, y, ⟨rfl, zz⟩, q⟩
  | d :: d2 :: ds, ws, g, c, x, e => by
    obtain ⟨v, vr, g1, g2, rfl, y, z, q⟩ := x
    have e' : (d2 :: ds)[(d2 :: ds).length - 1]? = some c := by simpa using e
    obtain ⟨w, g3, g4, ew, yw, zw, qw⟩ := z.last e'
    obtain ⟨v2, vr2, g5, g6, rfl, y2, z2, q2⟩ := z
    refine ⟨w, g3, fadd g1 g4, by simpa using ew, yw, ?_, fun a => by have := q a; have := qw a; simp; omega⟩
    exact ⟨v, _, g1, g4, rfl, y, zw, fun _ => rfl⟩
theorem ms_pop : MutS G rPop mPop := by
  intro I H k ds as q ws was ob g ga res k' ds' mu st eH sm z za nd em Q kk
  unfold mPop at em
  split at em
  · split at em
    · rename_i c ec
      cases em; cases st
      obtain ⟨rfl, zz⟩ := za
      obtain ⟨v, g1, g2, ev, y, z2, qq⟩ := z.last ec
      have gq : g q = 0 := by have := nd q; rw [one1_self] at this; omega
      refine ⟨q, ws, v, rfl, rfl, eH, ev, ?_⟩
      exact kk _ _ _ v g1 rfl rfl (z2.beside (by have := qq q; omega)) (y.beside (by have := qq q; omega)) fun a => by have := qq a; omega
    · cases em
  · cases em
def mPopAt : MutF := fun k ds as => match k, as with
  | .lst true, [.sc (.int i)] => if 0 ≤ i ∧ i < (ds.length : Int) ∧ ds.length ≤ 100000 then (match ds[i.toNat]? with
    | some c => some (c, .lst true, ds.eraseIdx i.toNat)
    | none => none) else none
  | _, _ => none
theorem Rps.erase {I H : Hp} : ∀ {ds : List D} {ws : List V} {g : Ft} {c : D} {n : Nat}, Rps G I H ds ws g → ds[n]? = some c → ∃ v g1 g2, ws[n]? = some v ∧ Rp G I H c v g1 ∧ Rps G I H (ds.eraseIdx n) (ws.eraseIdx n) g2 ∧ ∀ a, g a = g1 a + g2 a
  | [], ws, g, c, n, x, e => by simp at e
  | d :: ds, ws, g, c, 0, x, e => by
    obtain ⟨v, vr, g1, g2, rfl, y, z, q⟩ := x
    simp at e; subst e
    exact ⟨v, g1, g2, rfl, y, z, q⟩
  | d :: ds, ws, g, c, n + 1, x, e => by
    obtain ⟨v, vr, g1, g2, rfl, y, z, q⟩ := x
    obtain ⟨w, g3, g4, ew, yw, zw, qw⟩ := z.erase (n := n) (c := c) (by simpa using e)
    exact ⟨w, g3, fadd g1 g4, by simpa using ew, yw, ⟨v, _, g1, g4, rfl, y, zw, fun _ => rfl⟩, fun a => by have := q a; have := qw a; simp; omega⟩
theorem ms_popAt : MutS G rPopAt mPopAt := by
  intro I H k ds as q ws was ob g ga res k' ds' mu st eH sm z za nd em Q kk
  unfold mPopAt at em
  split at em
  · rename_i i
    split at em
    · rename_i hi
      split at em
      · rename_i c ec
        cases em; cases st
        obtain ⟨v0, vr, _, _, rfl, ⟨rfl, _⟩, ⟨rfl, _⟩, _⟩ := za
        obtain ⟨v, g1, g2, ev, y, z2, qq⟩ := z.erase ec
        have gq : g q = 0 := by have := nd q; rw [one1_self] at this; omega
        have hl := z.len
        refine ⟨q, ws, i, i.toNat, v, rfl, rfl, eH, by omega, by omega, ?_, ev, ?_⟩
        · have := (ixN_seq (n := ws.length) (i := i) (j := i.toNat) (by unfold ixN; rw [if_pos hi.1, if_pos (by omega)])).1
          exact this
        · exact kk _ _ _ v g1 rfl rfl (z2.beside (by have := qq q; omega)) (y.beside (by have := qq q; omega)) fun a => by have := qq a; omega
      · cases em
    · cases em
  · cases em
def mExtend : MutF := fun k ds as => match k, as with
  | .lst true, [.nd (.lst _) es] => if ds.length + es.length ≤ 100000 then some (.sc .non, .lst true, ds ++ es) else none
  | _, _ => none
theorem ms_extend : MutS G rExtend mExtend := by
  intro I H k ds as q ws was ob g ga res k' ds' mu st eH sm z za nd em Q kk
  unfold mExtend at em
  split at em
  · rename_i m es
    split at em
    · rename_i hl
      cases em; cases st
      obtain ⟨v, vr, g1, g2, rfl, y, ⟨rfl, zz⟩, qq⟩ := za
      obtain ⟨b, ws2, g3, o, rfl, st2, z2, c⟩ := y
      cases st2
      have eb : H b = some (.lst ws2) := by
        rcases c with ⟨_, _, e, _⟩ | ⟨_, e, _⟩
        · exact e
        · exact sm _ _ e
      have le3 : ∀ a, g3 a ≤ g1 a := fun a => by rcases c with ⟨_, _, _, c⟩ | ⟨_, _, c⟩ <;> (have := c a; omega)
      have gq : g q = 0 := by have := nd q; rw [one1_self] at this; omega
      have g3q : g3 q = 0 := by have := nd q; have := qq q; have := le3 q; rw [one1_self] at *; omega
      refine ⟨q, b, ws, ws2, rfl, rfl, eH, eb, by rw [z.len, z2.len]; exact line5 hl, ?_⟩
      exact kk _ _ _ .non z0 rfl rfl ((z.beside gq).app (z2.beside g3q)) ⟨rfl, fun _ => rfl⟩ fun a => by have := qq a; have := le3 a; simp; omega
    · cases em
  · cases em
end

/-! ### o.f = e -/
def putN (f : Str) (ns : List Str) : List Str := match ixOf f ns with
  | some _ => ns
  | none => ns ++ [f]
def putDs {α : Type} (f : Str) (c : α) (ns : List Str) (ds : List α) : List α := match ixOf f ns with
  | some j => ds.set j c
  | none => ds ++ [c]
theorem putF_zip {f : Str} {v : V} : ∀ {ns : List Str} {ws : List V}, ns.length = ws.length → putF f v (ns.zip ws) = (putN f ns).zip (putDs f v ns ws) ∧ (putN f ns).length = (putDs f v ns ws).length
  | [], [], _ => ⟨rfl, rfl⟩
  | [], _ :: _, h => by simp at h
  | _ :: _, [], h => by simp at h
  | n :: ns, w :: ws, h => by
    obtain ⟨a, b⟩ := putF_zip (f := f) (v := v) (ns := ns) (ws := ws) (by simpa using h)
    by_cases e : f = n
    · subst e
      have e1 : ixOf f (f :: ns) = some 0 := by simp [ixOf]
      unfold putN putDs
      rw [e1]
      refine ⟨?_, by simpa using h⟩
      show (if f = f then (f, v) :: ns.zip ws else _) = _
      rw [if_pos rfl]; rfl
    · have e0 : (f == n) = false := by simpa using e
      unfold putN putDs at a b ⊢
      have e1 : ixOf f (n :: ns) = (ixOf f ns).map (· + 1) := by show (if f == n then _ else _) = _; rw [e0]; rfl
      rw [e1]
      cases e2 : ixOf f ns with
      | none =>
        rw [e2] at a b
        refine ⟨?_, by simpa using b⟩
        show putF f v ((n, w) :: ns.zip ws) = (n, w) :: (ns ++ [f]).zip (ws ++ [v])
        unfold putF
        first
          | rw [if_neg (Ne.symm e), a]
          | rw [if_neg e, a]
          | simp [e, Ne.symm e, a]
      | some j =>
        rw [e2] at a b
        refine ⟨?_, by simpa using b⟩
        show putF f v ((n, w) :: ns.zip ws) = (n, w) :: ns.zip (ws.set j v)
        unfold putF
        first
          | rw [if_neg (Ne.symm e), a]
          | rw [if_neg e, a]
          | simp [e, Ne.symm e, a]
def setFK (c : Nat) (f : Str) (r : List Opd × List D) : S := match r.1 with
  | [.val x, .plc i p] => match getP r.2 i p with
    | some (.nd (.obj true c' ns) ds) => if c' = c ∧ ns.length < 500 then .nx (setP r.2 i p (.nd (.obj true c (putN f ns)) (putDs f x ns ds))) else .bad
    | _ => .bad
  | _ => .bad
def dSetF (c : Nat) (f : Str) (p1 : Bool) (d d0 : Den) : DenS := fun E => (aCons (p1 && true) d (aCons true d0 aNil) E).toS (setFK c f)
section
variable {G : Gm} {W : WX} {pu : Bool} {K : PySem.W.Frag}
theorem ixOf_lt {f : Str} : ∀ {ns : List Str} {j : Nat}, ixOf f ns = some j → j < ns.length
  | [], j, e => by cases e
  | n :: ns, j, e => by
    unfold ixOf at e
    split at e
    · cases e; simp
    · cases e2 : ixOf f ns with
      | none => rw [e2] at e; cases e
      | some k => rw [e2] at e; cases e; have := ixOf_lt e2; simp; omega
theorem t_setF {te t0 : TE} {p0 p1 : Bool} {d d0 : Den} {c : Nat} {f : Str} (cl : Cls K (G.cls c)) (na : NoAttr K (G.cls c) f) (h0 : ∀ σ H Q, tO G W p0 d σ H Q → te σ H Q) (h1 : ∀ σ H Q, tO G W p1 d0 σ H Q → t0 σ H Q) :
    ∀ D σ H, tS G W [] (dSetF c f p1 d d0) D σ H → sFld K t0 te f D σ H := by
  rintro D σ H ⟨I, E, vs, f0, s, hh⟩
  refine (t_acons h0 (t_acons h1 t_anil) σ H (fun ws H' => match ws with | [y, x] => ∃ a C dx fs, x = V.ref a ∧ H' a = some (.ins C dx fs) ∧ Cls K C ∧ NoAttr K C f ∧ fs.length < 1000 ∧ D.nx σ (upd H' a (.ins C dx (putF f y fs))) | _ => False) ?_ : _)
  refine ⟨I, E, vs, f0, s, Ans.of_S hh fun r er h => ?_⟩
  intro ws I1 H1 f1 g1 s1 o1 n1 a1 e1
  obtain ⟨os, E1⟩ := r
  unfold setFK at h
  split at h
  · rename_i x i p eos
    have eos' : os = [.val x, .plc i p] := eos
    subst eos'
    obtain ⟨v, vr, ga, gb, rfl, oa, ⟨w, vr2, gc, gd, rfl, ob, ⟨rfl, zf⟩, qb⟩, qa⟩ := o1
    split at h
    · rename_i c' ns ds ep
      split at h
      · rename_i hc
        obtain ⟨rfl, hl⟩ := hc
        obtain ⟨q', ws', hob, g, hr, rfl, st, eH, nI, z, qq, mk⟩ := s1.mutate ob.1 ep rfl
        obtain ⟨l, dx, rfl⟩ := st
        have gq : g q' = 0 := by have := n1 q'; have := qq q'; rw [one1_self] at this; omega
        have gaq : ga q' = 0 := by have := n1 q'; have := qq q'; have := qa q'; rw [one1_self] at *; omega
        obtain ⟨pe, pl⟩ := putF_zip (f := f) (v := v) l
        refine ⟨q', G.cls c', dx, _, rfl, eH, cl, na, ?_, ?_⟩
        · rw [List.length_zip]; omega
        rw [pe]
        have new : ∃ g', Rps G I1 (upd H1 q' (.ins (G.cls c') dx ((putN f ns).zip (putDs f v ns ws')))) (putDs f x ns ds) (putDs f v ns ws') g' ∧ ∀ a, g' a ≤ g a + ga a := by
          unfold putDs
          cases e2 : ixOf f ns with
          | none => exact ⟨_, (z.beside gq).app (Rps.one (Rp.beside oa gaq)), fun a => by simp⟩
          | some j => exact (z.beside gq).set0 (n := j) (Rp.beside oa gaq) (by have := ixOf_lt e2; have := z.len; omega)
        obtain ⟨g', z', le⟩ := new
        have s2 := mk (k' := .obj true c' (putN f ns)) rfl ⟨pl, dx, rfl⟩ z' fun a => by have := le a; have := n1 a; have := qq a; have := qa a; omega
        refine h σ vs _ _ _ s2 Agr.refl ?_
        have w := Fr.wrote (I := I1) (H := H1) (ob := .ins (G.cls c') dx ((putN f ns).zip (putDs f v ns ws'))) (q := q') (f := fadd f1 g1) (f' := fadd (fadd g' (one1 q')) hr) (by have := qq q'; rw [one1_self] at this; simp; omega) fun a z => by
          have := le a; have := qq a; have := qa a; simp at z ⊢; omega
        exact (a1.trans w).imp fun z => by cases z
      · exact h.elim
    · exact h.elim
  · exact h.elim
end
end DL

end
section
set_option maxRecDepth 100000
/-! DL, part 11: looks that change nothing, comprehensions, slices. -/
namespace DL
open PySem L2

/-- a look: all is taken as frozen, what comes is a number, a text, a truth -/
def dView (d : Den) : Den := fun E => match d (fzs E) with
  | .ok r => match r.1 with
    | .val (.sc v) => .ok (.val (.sc v), E)
    | _ => .bad
  | _ => .bad
section
variable {G : Gm} {W : WX} {pu : Bool}
theorem fzs_get {E : List D} {i : Nat} : (fzs E)[i]? = (E[i]?).map fz := by rw [fzs_map, List.getElem?_map]
theorem Stt.view {σ : St} {I H : Hp} {E : List D} {vs : List V} {f : Ft} (s : Stt G σ I H E vs f) : ∃ I', Stt G σ I' H (fzs E) vs z0 := by
  refine ⟨fun a => if f a ≠ 0 then H a else I a, ⟨by rw [s.sl.1, fzs_map]; simp, fun i d v e n e2 => ?_⟩, fun a o e => ?_, s.rp.freeze (fun a o e => ?_) (fun a z => by simp [z]), fun _ => Nat.zero_le _⟩
  · rw [fzs_get] at e
    cases e0 : E[i]? with
    | none => rw [e0] at e; cases e
    | some d0 =>
      rw [e0] at e; cases e
      exact s.sl.2 i d0 v e0 (fz_una n) e2
  · by_cases z : f a ≠ 0
    · rw [if_pos z] at e; exact e
    · rw [if_neg z] at e; exact s.sm a o e
  · by_cases z : f a ≠ 0
    · obtain ⟨n, _⟩ := s.rp.trk a z
      rw [n] at e; cases e
    · simp only [z, if_false]; exact e
theorem t_view {te : TE} {d : Den} (h0 : ∀ σ H Q, tO G (fun _ _ _ _ => False) pu d σ H Q → te σ H Q) : ∀ σ H Q, tO G W true (dView d) σ H Q → te σ H Q := by
  rintro σ H Q ⟨I, E, vs, f, s, h⟩
  obtain ⟨I', s'⟩ := s.view
  unfold dView at h
  cases ed : d (fzs E) with
  | ok r =>
    rw [ed] at h
    refine h0 _ _ _ ⟨I', fzs E, vs, z0, s', ?_⟩
    rw [ed]
    intro v I2 H2 f2 g2 s2 o2 n2 a2 e2
    obtain ⟨o, E2⟩ := r
    cases o with
    | plc i p => exact h.elim
    | val c =>
      cases c with
      | una => exact h.elim
      | lent => exact h.elim
      | kl _ => exact h.elim
      | nd k ds => exact h.elim
      | sc w =>
        obtain ⟨rfl, _⟩ := o2
        have kp : ∀ a o, H a = some o → H2 a = some o := fun a o e => a2.kp a o e rfl
        have nw : Nw I H I H2 := ⟨fun _ _ e => e, kp, fun _ _ _ n => n, fun a o e => kp _ _ (s.sm _ _ e)⟩
        exact h v I H2 f z0 (s.nw nw) ⟨rfl, fun _ => rfl⟩ (fun a => by simp; exact s.nd a) (nw.fr fun a z => by left; simpa using z) fun _ => rfl
  | exc c fs E2 => rw [ed] at h; exact h.elim
  | bad => rw [ed] at h; exact h.elim

/-! ### what is walked while nothing changes -/
def WalkB (G : Gm) (pb : Bool) (I0 H0 : Hp) (J : It) (ds : List D) : Prop := ∀ (i : Nat) (I H : Hp), (∀ a o, I0 a = some o → I a = some o) → (pb = true → ∀ a o, H0 a = some o → H a = some o) → (∀ a o, I a = some o → H a = some o) →
  (∀ d, ds[i]? = some d → J.go i H ∧ ∀ x H', J.yld i H x H' → ∃ I', Nw I H I' H' ∧ Rp G I' H' d x z0) ∧ (ds.length ≤ i → J.stop i H)
def tIB (G : Gm) (W : WX) (pb : Bool) (den : DenI) : TI := fun σ H Rd => ∃ I E vs f, Stt G σ I H E vs f ∧ Ans G W σ I H f vs (den E) fun r =>
  ∀ J I' H' f', Stt G σ I' H' r.2 vs f' → Fr false I H f I' H' f' → WalkB G pb I' H' J r.1 → Rd J H'
theorem tIB_of {wi : TI} {pb : Bool} {den : DenI} (h : ∀ σ H Q, tI G W den σ H Q → wi σ H Q) (hm : ∀ σ H (Q Q' : It → Hp → Prop), (∀ J H, Q J H → Q' J H) → wi σ H Q → wi σ H Q') : True := trivial
/-- over an owned list, as it stands -/
def iBor (d : Den) : DenI := fun E => (d E).bind fun r => match r.1 with
  | .plc i p => match getP r.2 i p with
    | some (.nd k ds) => if k.isLst && ds.all Fz then .ok (ds, r.2) else .bad
    | _ => .bad
  | .val _ => .bad
theorem t_ibor {K : PySem.W.Frag} {te : TE} {d : Den} (h0 : ∀ σ H Q, tO G W pu d σ H Q → te σ H Q) : ∀ σ H Q, tIB G W true (iBor d) σ H Q → iList K te σ H Q := by
  rintro σ H Q ⟨I, E, vs, f, s, hh⟩
  refine h0 _ _ _ ⟨I, E, vs, f, s, hh.fst fun r er h => ?_⟩
  intro v I1 H1 f1 g1 s1 o1 n1 a1 e1
  obtain ⟨o, E1⟩ := r
  cases o with
  | val c => exact h.elim
  | plc i p =>
    have h : Ans G W σ I H f vs (match getP E1 i p with
      | some (.nd k ds) => if k.isLst && ds.all Fz then R.ok (ds, E1) else R.bad
      | _ => R.bad) _ := h
    split at h
    · rename_i k ds ep
      split at h
      · rename_i hc
        simp only [Bool.and_eq_true] at hc
        obtain ⟨g', y, _⟩ := OpRel.cont s1 o1 (fun a => by have := n1 a; omega) (show cont E1 (.plc i p) = some _ from ep)
        obtain ⟨q, ws, g, ob, rfl, st, e0, z, l⟩ := y.node s1.sm
        have cold := z.cold hc.2
        have sq : ∀ {H2 : Hp}, H2 q = some ob → SqL K H2 q ws := fun {H2} e => by
          cases k with
          | lst m => cases st; exact SqL.of e
          | _ => cases hc.1
        refine ⟨q, rfl, ⟨ws, sq e0⟩, h (Itl K q) I1 H1 f1 s1 ((a1.less fun x z => by simp; omega).imp fun z => by cases z) ?_⟩
        intro j I2 H2 a b c
        have e2 := b rfl _ _ e0
        refine ⟨fun d ed => ?_, fun hl => ⟨ws, sq e2, by rw [l]; exact hl⟩⟩
        obtain ⟨w, ew, y2⟩ := cold.get0 ed
        refine ⟨⟨ws, w, sq e2, ew⟩, fun u H' q' => ?_⟩
        obtain ⟨rfl, q'⟩ := q'
        have := q' ws (sq e2)
        rw [ew] at this; cases this
        exact ⟨I2, Nw.refl c, y2.up a⟩
      · exact h.elim
    · exact h.elim
end

/-! ### comprehensions -/
def wp (ws : List Nat) : List Opd := ws.map fun i => .plc i []
def noX {α : Type} : R α → R α
  | .ok a => .ok a
  | _ => .bad
def compL (dg : DenG) (dt : DenT) (de : Den) (ws : List Nat) : List D → List D → List D → R (List D × List D)
  | [], B, acc => .ok (acc, B)
  | d :: ds, B, acc => match dg d B with
    | none => .bad
    | some B1 => (noX (dt B1)).bind fun r => if r.1 then (noX (de r.2)).bind fun q => match q.1 with
        | .val c => if acc.length < 100000 then compL dg dt de ws ds (holes q.2 (wp ws)) (acc ++ [c]) else .bad
        | .plc _ _ => .bad
      else compL dg dt de ws ds (holes r.2 (wp ws)) acc
def dComp (di : DenI) (dg : DenG) (dt : DenT) (de : Den) (ws : List Nat) : Den := fun E => (di E).bind fun r => match conts r.2 (wp ws) with
  | some old => (compL dg dt de ws r.1 (holes r.2 (wp ws)) []).bind fun q => .ok (.val (.nd (.lst true) q.1), back q.2 (wp ws) old)
  | none => .bad
def dYes : DenT := fun E => .ok (true, E)
section
variable {G : Gm} {W : WX} {pu pb : Bool}
abbrev W0 : WX := fun _ _ _ _ => False
theorem t_yes : ∀ σ H Q, tT G W true dYes σ H Q → tYes σ H Q := by
  rintro σ H Q ⟨I, E, vs, f, s, h⟩
  exact h I H f s Fr.refl fun _ => rfl
theorem slots_wp : ∀ ws : List Nat, slotsOf (wp ws) = ws
  | [] => rfl
  | w :: ws => by show w :: slotsOf (wp ws) = _; rw [slots_wp ws]
theorem wp_nil {ws : List Nat} : ∀ i p, Opd.plc i p ∈ wp ws → p = [] := fun i p h => by
  unfold wp at h
  rw [List.mem_map] at h
  obtain ⟨j, _, e⟩ := h
  cases e; rfl
theorem wipe_other {σ : St} {j : Nat} : ∀ {ws : List Nat}, j ∉ ws → (wipe σ ws)[j]? = σ[j]?
  | [], _ => rfl
  | w :: ws, h => by
    simp only [List.mem_cons, not_or] at h
    unfold wipe
    rw [List.getElem?_set_ne (fun e => h.1 e.symm)]
    exact wipe_other h.2
theorem wipe_in {σ : St} {j : Nat} : ∀ {ws : List Nat}, j ∈ ws → j < σ.length → (wipe σ ws)[j]? = some none
  | w :: ws, h, hl => by
    unfold wipe
    by_cases e : w = j
    · subst e; rw [List.getElem?_set_self (by rw [wipe_length]; exact hl)]
    · rw [List.getElem?_set_ne e]
      exact wipe_in ((List.mem_cons.mp h).resolve_left fun q => e q.symm) hl
theorem wipe_eq {σ σ' : St} {ws : List Nat} (hl : σ'.length = σ.length) (h : ∀ j, j ∉ ws → σ'[j]? = (wipe σ ws)[j]?) : wipe σ' ws = wipe σ ws := by
  refine List.ext_getElem? fun j => ?_
  by_cases hj : j ∈ ws
  · by_cases hs : j < σ.length
    · rw [wipe_in hj (hl ▸ hs), wipe_in hj hs]
    · rw [List.getElem?_eq_none (by rw [wipe_length]; omega), List.getElem?_eq_none (by rw [wipe_length]; omega)]
  · rw [wipe_other hj, h j hj]
theorem Rps.revals {I H : Hp} : ∀ {ds : List D} {vs ws : List V} {f : Ft}, Rps G I H ds vs f → ws.length = vs.length → (∀ j : Nat, ds[j]? = some D.una ∨ ws[j]? = vs[j]?) → Rps G I H ds ws f
  | [], vs, ws, f, x, hl, h => by
    have : vs = [] := x.1
    subst this
    exact ⟨List.eq_nil_of_length_eq_zero hl, x.2⟩
  | d :: ds, vs, ws, f, x, hl, h => by
    obtain ⟨v, vr, g1, g2, rfl, y, z, q⟩ := x
    cases ws with
    | nil => simp at hl
    | cons w wr =>
      refine ⟨w, wr, g1, g2, rfl, ?_, z.revals (by simpa using hl) fun j => by simpa using h (j + 1), q⟩
      rcases h 0 with e | e
      · simp at e; subst e; exact y
      · simp at e; subst e; exact y
/-- names forgotten -/
theorem Stt.wipe {σ : St} {I H : Hp} {E old : List D} {vs : List V} {f : Ft} {ws : List Nat} (s : Stt G σ I H E vs f) (nd : ws.Nodup) (ec : conts E (wp ws) = some old) : ∃ wv gT h, Rps G I H old wv gT ∧ OpsRel G I H E vs (wp ws) wv z0 ∧ Stt G (L2.wipe σ ws) I H (holes E (wp ws)) vs h ∧ ∀ a, f a = gT a + h a := by
  have ops : ∀ {ws : List Nat} {old : List D}, conts E (wp ws) = some old → ∃ wv, OpsRel G I H E vs (wp ws) wv z0 := by
    intro ws
    induction ws with
    | nil => intro old e; exact ⟨[], rfl, fun _ => rfl⟩
    | cons w ws ih =>
      intro old e
      unfold wp at e
      rw [List.map_cons] at e
      unfold conts at e
      split at e
      · rename_i d ds' e1 e2
        obtain ⟨wv, o⟩ := ih e2
        have hl : w < vs.length := by rw [s.rp.len]; exact (List.getElem?_eq_some_iff.mp (show E[w]? = some d from e1)).1
        exact ⟨vs[w] :: wv, vs[w], wv, z0, z0, rfl, ⟨List.getElem?_eq_getElem hl, fun _ => rfl⟩, o, fun _ => rfl⟩
      · cases e
  obtain ⟨wv, o⟩ := ops ec
  obtain ⟨gT, h, t1, t2, t3⟩ := take_out s.rp o ec (by rw [slots_wp]; exact nd) wp_nil
  refine ⟨wv, gT, h, t1, o, ⟨⟨by rw [wipe_length, holes_len]; exact s.sl.1, fun i d v e n e2 => ?_⟩, s.sm, t2, fun a => by have t := t3 a; have := s.nd a; simp only [z0_at] at t; omega⟩, fun a => by have := t3 a; simpa using this⟩
  by_cases hi : i ∈ ws
  · by_cases hl : i < E.length
    · have := holes_hole (E := E) (os := wp ws) (i := i) (p := []) (by unfold wp; exact List.mem_map.mpr ⟨i, hi, rfl⟩) hl (by rw [slots_wp]; exact nd)
      rw [this] at e; cases e; exact absurd rfl n
    · rw [List.getElem?_eq_none (by rw [holes_len]; omega)] at e; cases e
  · rw [holes_other (by rw [slots_wp]; exact hi)] at e
    rw [wipe_other hi]
    exact s.sl.2 i d v e n e2
theorem conts_some {E : List D} : ∀ {ws : List Nat}, (∀ i ∈ ws, i < E.length) → ∃ old, conts E (wp ws) = some old
  | [], _ => ⟨[], rfl⟩
  | w :: ws, h => by
    obtain ⟨old, e⟩ := conts_some (ws := ws) fun i hi => h i (List.mem_cons_of_mem _ hi)
    have hw := h w List.mem_cons_self
    refine ⟨E[w] :: old, ?_⟩
    show conts E (.plc w [] :: wp ws) = _
    unfold conts
    have : cont E (.plc w []) = some E[w] := List.getElem?_eq_getElem hw
    rw [this, e]
theorem conts_lt {E : List D} : ∀ {ws : List Nat} {old : List D}, conts E (wp ws) = some old → ∀ i ∈ ws, i < E.length
  | [], old, e, i, h => by cases h
  | w :: ws, old, e, i, h => by
    have e' : conts E (.plc w [] :: wp ws) = some old := e
    unfold conts at e'
    split at e'
    · rename_i d ds' e1 e2
      rcases List.mem_cons.mp h with rfl | h
      · exact (List.getElem?_eq_some_iff.mp (show E[i]? = some d from e1)).1
      · exact conts_lt e2 i h
    · cases e'
theorem noX_ok {α : Type} {r : R α} {a : α} : noX r = .ok a → r = .ok a := fun h => by cases r <;> first | exact h | cases h
/-- noX: what is left of a wish -/
theorem Ans.noX {α : Type} {σ : St} {I H : Hp} {f : Ft} {vs : List V} {W' : WX} {β : Type} {r : R α} {c : α → R β} {k : β → Prop} {k1 : α → Prop} (h : Ans G W σ I H f vs ((DL.noX r).bind c) k) {I1 H1 : Hp} {f1 : Ft} {vs1 : List V} {σ1 : St} (i : ∀ a, r = .ok a → Ans G W σ I H f vs (c a) k → k1 a) : Ans G W' σ1 I1 H1 f1 vs1 r k1 := by
  cases r with
  | ok a => exact i a rfl h
  | exc _ _ _ => exact h.elim
  | bad => exact h.elim
theorem t_comp {wi : TI} {g : TG} {tt : TT} {te : TE} {di : DenI} {dg : DenG} {dt : DenT} {de : Den} {A ws : List Nat} {pt pe : Bool} (hp : pb = true → pt = true ∧ pe = true) (hg : TgS G A g dg) (hA : ∀ j ∈ A, j ∈ ws) (nd : ws.Nodup) (h0 : ∀ σ H Q, tIB G W pb di σ H Q → wi σ H Q)
    (h1 : ∀ σ H Q, tT G W0 pt dt σ H Q → tt σ H Q) (h2 : ∀ σ H Q, tO G W0 pe de σ H Q → te σ H Q) : ∀ σ H Q, tO G W false (dComp di dg dt de ws) σ H Q → tLc wi g tt te ws σ H Q := by
  rintro σ H Q ⟨I, E, vs, f, s, hh⟩
  refine h0 _ _ _ ⟨I, E, vs, f, s, hh.fst fun r er h => ?_⟩
  intro J I1 H1 f1 s1 a1 wk Dl hD
  obtain ⟨items, E1⟩ := r
  have h : Ans G W σ I H f vs (match conts E1 (wp ws) with
    | some old => (compL dg dt de ws items (holes E1 (wp ws)) []).bind fun q => R.ok (Opd.val (.nd (.lst true) q.1), back q.2 (wp ws) old)
    | none => R.bad) _ := h
  split at h
  · rename_i old ec
    obtain ⟨wv, gT, hf, ro, oo, sw, qf⟩ := s1.wipe nd ec
    have hlE : ∀ {B : List D} {vs : List V}, vs.length = B.length → True := fun _ => trivial
    -- the invariant
    refine ⟨fun i m H' => ∃ I' B fB g acc av, m = items.length - i ∧ i ≤ items.length ∧ Stt G (L2.wipe σ ws) I' H' B vs fB ∧ Rps G I' H' acc av g ∧ H' Dl = some (.lst av) ∧ I' Dl = none ∧ (∀ a, fB a + g a + one1 Dl a + gT a ≤ 1) ∧ Rps G I' H' old wv gT ∧
        Fr false I1 H1 f1 I' H' (fadd (fadd (fadd fB g) (one1 Dl)) gT) ∧ (pb = true → ∀ a o, H1 a = some o → H' a = some o) ∧ (∀ j ∈ ws, B[j]? = some .una) ∧
        Ans G W σ I H f vs ((compL dg dt de ws (items.drop i) B acc).bind fun q => R.ok (Opd.val (.nd (.lst true) q.1), back q.2 (wp ws) old)) fun r => ∀ v I' H' f' g, Stt G σ I' H' r.2 vs f' → OpRel G I' H' r.2 vs r.1 v g → (∀ a, f' a + g a ≤ 1) → Fr false I H f I' H' (fadd f' g) → (false = true → r.2 = E) → Q v H',
      ⟨items.length, ?_⟩, ?_⟩
    · have ID : I1 Dl = none := by
        cases e : I1 Dl with
        | none => rfl
        | some o => rw [s1.sm _ _ e] at hD; cases hD
      have nw := Nw.mutP (o := .lst []) s1.sm hD
      have f0 := free_of s1.rp hD
      refine ⟨I1, _, hf, z0, [], [], by simp, Nat.zero_le _, sw.nw nw, ⟨rfl, fun _ => rfl⟩, upd_same, ID, fun a => ?_, nw.rps ro, nw.fr fun a z => ?_, fun _ a o e => nw.kp a o e, fun j hj => ?_, h⟩
      · by_cases q : a = Dl
        · subst q; have := qf a; simp [one1_self]; omega
        · have := qf a; have := s1.nd a; simp [one1_ne q]; omega
      · by_cases q : a = Dl
        · subst q; exact .inr hD
        · left; have := qf a; simp [one1_ne q] at z; omega
      · exact holes_hole (p := []) (by unfold wp; exact List.mem_map.mpr ⟨j, hj, rfl⟩) (conts_lt ec j hj) (by rw [slots_wp]; exact nd)
    · rintro i m H2 ⟨I2, B, fB, g, acc, av, rfl, hi, s2, ra, eD, iD, nn, ro2, fr2, kp2, un2, h⟩
      obtain ⟨wg, wst⟩ := wk i I2 H2 fr2.im kp2 s2.sm
      by_cases hl : i < items.length
      · have ed : items[i]? = some items[i] := List.getElem?_eq_getElem hl
        rw [List.drop_eq_getElem_cons hl] at h
        obtain ⟨go, yl⟩ := wg _ ed
        refine .inr ⟨go, fun H' => ∃ I' B fB g acc av, i + 1 ≤ items.length ∧ Stt G (L2.wipe σ ws) I' H' B vs fB ∧ Rps G I' H' acc av g ∧ H' Dl = some (.lst av) ∧ I' Dl = none ∧ (∀ a, fB a + g a + one1 Dl a + gT a ≤ 1) ∧ Rps G I' H' old wv gT ∧
          Fr false I1 H1 f1 I' H' (fadd (fadd (fadd fB g) (one1 Dl)) gT) ∧ (pb = true → ∀ a o, H1 a = some o → H' a = some o) ∧ (∀ j ∈ ws, B[j]? = some .una) ∧
          Ans G W σ I H f vs ((compL dg dt de ws (items.drop (i + 1)) B acc).bind fun q => R.ok (Opd.val (.nd (.lst true) q.1), back q.2 (wp ws) old)) fun r => ∀ v I' H' f' g, Stt G σ I' H' r.2 vs f' → OpRel G I' H' r.2 vs r.1 v g → (∀ a, f' a + g a ≤ 1) → Fr false I H f I' H' (fadd f' g) → (false = true → r.2 = E) → Q v H',
          fun H' ⟨I', B, fB, g, acc, av, a, b, c, d, e, f, k, l, m, n, o⟩ => ⟨items.length - (i + 1), by omega, I', B, fB, g, acc, av, rfl, a, b, c, d, e, f, k, l, m, n, o⟩, fun x H3 q => ?_⟩
        obtain ⟨I3, nw, y⟩ := yl x H3 q
        have h : Ans G W σ I H f vs ((match dg items[i] B with
          | none => R.bad
          | some B1 => (DL.noX (dt B1)).bind fun r => if r.1 then (DL.noX (de r.2)).bind fun q => match q.1 with
              | .val c => if acc.length < 100000 then compL dg dt de ws (items.drop (i + 1)) (holes q.2 (wp ws)) (acc ++ [c]) else R.bad
              | .plc _ _ => R.bad
            else compL dg dt de ws (items.drop (i + 1)) (holes r.2 (wp ws)) acc).bind fun q => R.ok (Opd.val (.nd (.lst true) q.1), back q.2 (wp ws) old)) _ := h
        cases eB : dg items[i] B with
        | none => rw [eB] at h; exact h.elim
        | some B1 =>
          rw [eB] at h
          have s3 := s2.nw nw
          refine hg _ x _ I3 H3 B B1 vs fB z0 _ s3 y (fun a => by simp; exact s3.nd a) eB fun σ4 vs4 f4 s4 ag4 le4 sg4 => ?_
          have wσ : L2.wipe σ4 ws = L2.wipe σ ws := wipe_eq (by rw [sg4.2, wipe_length]) fun j hj => sg4.1 j fun q => hj (hA j q)
          have hlv : vs4.length = vs.length := by rw [s4.rp.len, ← s4.sl.1, sg4.2, s3.sl.1, s3.rp.len]
          have lt4 : ∀ {B' : List D} {I' H' : Hp} {f' : Ft}, Stt G σ4 I' H' B' vs4 f' → ∃ old', conts B' (wp ws) = some old' := fun {B' I' H' f'} s' => conts_some fun j hj => by
            have := conts_lt ec j hj
            have e1 := s'.sl.1
            have e2 : σ.length = E1.length := s1.sl.1
            have e3 := sg4.2
            rw [wipe_length] at e3
            omega
          -- a state of the turn, its names forgotten
          have back0 : ∀ {B' : List D} {I' H' : Hp} {f' : Ft}, Stt G σ4 I' H' B' vs4 f' → ∃ h', Stt G (L2.wipe σ ws) I' H' (holes B' (wp ws)) vs h' ∧ (∀ a, h' a ≤ f' a) ∧ ∀ j ∈ ws, (holes B' (wp ws))[j]? = some .una := fun {B' I' H' f'} s' => by
            obtain ⟨old', eo⟩ := lt4 s'
            obtain ⟨wv', gT', h', r1, r2, r3, r4⟩ := s'.wipe nd eo
            rw [wσ] at r3
            have un : ∀ j ∈ ws, (holes B' (wp ws))[j]? = some .una := fun j hj => holes_hole (p := []) (by unfold wp; exact List.mem_map.mpr ⟨j, hj, rfl⟩) (conts_lt eo j hj) (by rw [slots_wp]; exact nd)
            have rv : Rps G I' H' (holes B' (wp ws)) vs h' := r3.rp.revals hlv.symm fun j => by
              by_cases hj : j ∈ ws
              · exact .inl (un j hj)
              · exact .inr (ag4 j fun q => hj (hA j q)).symm
            exact ⟨h', ⟨⟨r3.sl.1, fun j d v e n ev => by
              by_cases hj : j ∈ ws
              · rw [un j hj] at e; cases e; exact absurd rfl n
              · exact r3.sl.2 j d v e n (by rw [ag4 j fun q => hj (hA j q)]; exact ev)⟩, r3.sm, rv, r3.nd⟩, fun a => by have := r4 a; omega, un⟩
          have n4 : ∀ a, f4 a + g a + one1 Dl a + gT a ≤ 1 := fun a => by have := nn a; have l4 := le4 a; simp only [z0_at] at l4; omega
          have f4D : f4 Dl = 0 := by have := n4 Dl; rw [one1_self] at this; omega
          have fr3 : Fr false I1 H1 f1 I3 H3 (fadd (fadd (fadd f4 g) (one1 Dl)) gT) := ((fr2.trans (nw.fr (f := fadd (fadd (fadd fB g) (one1 Dl)) gT) (g := fadd (fadd (fadd f4 g) (one1 Dl)) gT) (pu := false) fun a z => .inl (by have l4 := le4 a; simp only [z0_at, fadd_at] at l4 z ⊢; omega)))).imp fun z => by cases z
          have kp3 : pb = true → ∀ a o, H1 a = some o → H3 a = some o := fun hb a o e => nw.kp _ _ (kp2 hb a o e)
          -- what lies beside, over a part of the turn
          have side : ∀ {p : Bool} {I5 H5 : Hp} {f5 : Ft}, Fr p I3 H3 f4 I5 H5 f5 → (∀ a, f5 a ≤ 1) → Rps G I5 H5 acc av g ∧ H5 Dl = some (.lst av) ∧ I5 Dl = none ∧ (∀ a, f5 a + g a + one1 Dl a + gT a ≤ 1) ∧ Rps G I5 H5 old wv gT ∧ Fr false I1 H1 f1 I5 H5 (fadd (fadd (fadd f5 g) (one1 Dl)) gT) := fun {p I5 H5 f5} a5 n5 => by
            have ra3 := nw.rps ra
            have ro3 := nw.rps ro2
            have eD3 := nw.kp _ _ eD
            have iD3 := nw.un _ _ eD iD
            have ap := a5.apart (g := fadd (fadd g (one1 Dl)) gT) (fun a z => by
              by_cases q1 : g a = 0
              · by_cases q2 : gT a = 0
                · have : a = Dl := Classical.byContradiction fun q => z (by simp [q1, q2, one1_ne q])
                  subst this; rw [eD3]; simp
                · obtain ⟨_, o, e⟩ := ro3.trk a q2; rw [e]; simp
              · obtain ⟨_, o, e⟩ := ra3.trk a q1; rw [e]; simp) (fun a => by have := n4 a; simp; omega) n5
            refine ⟨a5.side ra3 fun a => by have := n4 a; omega, a5.kp _ _ eD3 f4D, a5.un _ _ eD3 f4D iD3, fun a => by have := ap a; simp at this; omega, a5.side ro3 fun a => by have := n4 a; omega, ?_⟩
            have w := a5.with (g := fadd (fadd g (one1 Dl)) gT)
            exact ((fr3.less (f2 := fadd f4 (fadd (fadd g (one1 Dl)) gT)) fun a z => by simp at z ⊢; omega).trans w).less (fun a z => by simp at z ⊢; omega) |>.imp fun z => by cases z
          refine ⟨wσ.trans (by rfl), h1 _ _ _ ⟨I3, B1, vs4, f4, s4, ?_⟩⟩
          have hX : Ans G W σ I H f vs ((DL.noX (dt B1)).bind fun r => (if r.1 then (DL.noX (de r.2)).bind fun q => match q.1 with
              | .val c => if acc.length < 100000 then compL dg dt de ws (items.drop (i + 1)) (holes q.2 (wp ws)) (acc ++ [c]) else R.bad
              | .plc _ _ => R.bad
            else compL dg dt de ws (items.drop (i + 1)) (holes r.2 (wp ws)) acc).bind fun q => R.ok (Opd.val (.nd (.lst true) q.1), back q.2 (wp ws) old)) fun r => ∀ v I' H' f' g, Stt G σ I' H' r.2 vs f' → OpRel G I' H' r.2 vs r.1 v g → (∀ a, f' a + g a ≤ 1) → Fr false I H f I' H' (fadd f' g) → (false = true → r.2 = E) → Q v H' := by
            have h : Ans G W σ I H f vs (((DL.noX (dt B1)).bind fun r => if r.1 then (DL.noX (de r.2)).bind fun q => match q.1 with
                | .val c => if acc.length < 100000 then compL dg dt de ws (items.drop (i + 1)) (holes q.2 (wp ws)) (acc ++ [c]) else R.bad
                | .plc _ _ => R.bad
              else compL dg dt de ws (items.drop (i + 1)) (holes r.2 (wp ws)) acc).bind fun q => R.ok (Opd.val (.nd (.lst true) q.1), back q.2 (wp ws) old)) _ := h
            cases edt : dt B1 with
            | ok r => rw [edt] at h; exact h
            | exc _ _ _ => rw [edt] at h; exact h.elim
            | bad => rw [edt] at h; exact h.elim
          refine hX.noX fun r er h => ?_
          intro I5 H5 f5 s5 a5 e5
          obtain ⟨b, B2⟩ := r
          cases b with
          | false =>
            obtain ⟨ra5, eD5, iD5, nn5, ro5, fr5⟩ := side a5 s5.nd
            obtain ⟨h', s6, le6, un6⟩ := back0 s5
            exact ⟨I5, _, h', g, acc, av, hl, s6, ra5, eD5, iD5, fun a => by have := nn5 a; have := le6 a; omega, ro5, fr5.less fun a z => by have := le6 a; simp at z ⊢; omega, fun hb a o e => (a5.pu (hp hb).1 a o (kp3 hb a o e)).1, un6, h⟩
          | true =>
            show te σ4 H5 _
            have hY : Ans G W σ I H f vs ((DL.noX (de B2)).bind fun q => (match q.1 with
              | .val c => if acc.length < 100000 then compL dg dt de ws (items.drop (i + 1)) (holes q.2 (wp ws)) (acc ++ [c]) else R.bad
              | .plc _ _ => R.bad).bind fun q => R.ok (Opd.val (.nd (.lst true) q.1), back q.2 (wp ws) old)) fun r => ∀ v I' H' f' g, Stt G σ I' H' r.2 vs f' → OpRel G I' H' r.2 vs r.1 v g → (∀ a, f' a + g a ≤ 1) → Fr false I H f I' H' (fadd f' g) → (false = true → r.2 = E) → Q v H' := by
              have h : Ans G W σ I H f vs (((DL.noX (de B2)).bind fun q => match q.1 with
                | .val c => if acc.length < 100000 then compL dg dt de ws (items.drop (i + 1)) (holes q.2 (wp ws)) (acc ++ [c]) else R.bad
                | .plc _ _ => R.bad).bind fun q => R.ok (Opd.val (.nd (.lst true) q.1), back q.2 (wp ws) old)) _ := h
              cases ede : de B2 with
              | ok r => rw [ede] at h; exact h
              | exc _ _ _ => rw [ede] at h; exact h.elim
              | bad => rw [ede] at h; exact h.elim
            refine h2 _ _ _ ⟨I5, B2, vs4, f5, s5, hY.noX fun q eq h => ?_⟩
            intro v I6 H6 f6 g6 s6 o6 n6 a6 e6
            obtain ⟨o, B3⟩ := q
            cases o with
            | plc _ _ => exact h.elim
            | val c =>
              have h : Ans G W σ I H f vs ((if acc.length < 100000 then compL dg dt de ws (items.drop (i + 1)) (holes B3 (wp ws)) (acc ++ [c]) else R.bad).bind fun q => R.ok (Opd.val (.nd (.lst true) q.1), back q.2 (wp ws) old)) _ := h
              by_cases hlen : acc.length < 100000
              · rw [if_pos hlen] at h
                obtain ⟨ra6, eD6, iD6, nn6, ro6, fr6⟩ := side (a5.trans a6) n6
                obtain ⟨h', s7, le7, un7⟩ := back0 s6
                refine ⟨av, eD6, by rw [ra6.len]; exact line5' hlen, ?_⟩
                have D0 : ∀ {x : Nat}, x + 1 ≤ 1 → x = 0 := fun {x} h => by omega
                have f6D : f6 Dl = 0 ∧ g6 Dl = 0 ∧ g Dl = 0 ∧ gT Dl = 0 := by have := nn6 Dl; rw [one1_self] at this; simp at this; omega
                have h'D : h' Dl = 0 := by have := le7 Dl; omega
                refine ⟨I6, _, h', fadd g g6, acc ++ [c], av ++ [v], hl, ⟨s7.sl, fun a o e => ?_, s7.rp.beside h'D, s7.nd⟩, (ra6.beside f6D.2.2.1).app (Rps.one (Rp.beside (show Rp G I6 H6 c v g6 from o6) f6D.2.1)), upd_same, iD6, fun a => ?_, ro6.beside f6D.2.2.2, ?_, fun hb a o e => ?_, un7, h⟩
                · have : a ≠ Dl := by rintro rfl; rw [iD6] at e; cases e
                  rw [upd_ne this]; exact s7.sm a o e
                · have t1 := nn6 a; have t2 := le7 a; simp only [fadd_at] at t1 ⊢; omega
                · have w : Fr false I6 H6 (fadd (fadd (fadd (fadd f6 g6) g) (one1 Dl)) gT) I6 (upd H6 Dl (.lst (av ++ [v]))) (fadd (fadd (fadd h' (fadd g g6)) (one1 Dl)) gT) := Fr.wrote (by simp [one1_self]) fun a z => by have := le7 a; simp at z ⊢; omega
                  exact (fr6.trans w).imp fun z => by cases z
                · have q1 := (a5.pu (hp hb).1 a o (kp3 hb a o e)).1
                  have q2 := (a6.pu (hp hb).2 a o q1).1
                  have : a ≠ Dl := by rintro rfl; rw [hD] at e; cases e
                  rw [upd_ne this]; exact q2
              · rw [if_neg hlen] at h; exact h.elim
      · have e : i = items.length := by omega
        subst e
        refine .inl ⟨wst (Nat.le_refl _), ?_⟩
        rw [List.drop_length] at h
        have h : ∀ v I' H' f' g, Stt G σ I' H' (back B (wp ws) old) vs f' → OpRel G I' H' (back B (wp ws) old) vs (.val (.nd (.lst true) acc)) v g → (∀ a, f' a + g a ≤ 1) → Fr false I H f I' H' (fadd f' g) → (false = true → back B (wp ws) old = E) → Q v H' := h
        obtain ⟨f3, r3, le3, ot3⟩ := put_back s2.rp (os := wp ws) (E := B) rfl (fun i p hm => ⟨wp_nil i p hm, un2 i (by
          unfold wp at hm
          rw [List.mem_map] at hm
          obtain ⟨j, hj, e⟩ := hm
          cases e; exact hj)⟩) (by rw [slots_wp]; exact nd) ⟨I1, H1, E1, z0, oo⟩ ro2
        have rD : Rp G I2 H2 (.nd (.lst true) acc) (.ref Dl) (fadd g (one1 Dl)) := ⟨Dl, av, g, _, rfl, rfl, ra, .inl ⟨rfl, iD, eD, fun _ => rfl⟩⟩
        refine h (.ref Dl) I2 H2 f3 (fadd g (one1 Dl)) ⟨⟨?_, fun j d v e n ev => ?_⟩, s2.sm, r3, fun a => by have := le3 a; have := nn a; omega⟩ rD (fun a => by have := le3 a; have := nn a; simp; omega) ?_ fun z => by cases z
        · rw [back_len, s1.sl.1, ← holes_len E1 (wp ws), ← sw.sl.1, s2.sl.1]
        · by_cases hj : j ∈ ws
          · have e' : (back E1 (wp ws) old)[j]? = some d := by
              rw [← e]
              have main : ∀ {os : List Opd} {E F : List D} {ds : List D}, ds.length = os.length → E.length = F.length → j ∈ slotsOf os → (back E os ds)[j]? = (back F os ds)[j]? := by
                intro os
                induction os with
                | nil => intro E F ds _ _ h; cases h
                | cons o os ih =>
                  intro E F ds hl hn h
                  cases ds with
                  | nil => simp at hl
                  | cons d ds =>
                    cases o with
                    | val c => exact ih (by simpa using hl) hn h
                    | plc k p =>
                      show ((back E os ds).set k d)[j]? = ((back F os ds).set k d)[j]?
                      by_cases hk : k = j
                      · subst hk
                        by_cases hi : k < E.length
                        · rw [List.getElem?_set_self (by rw [back_len]; exact hi), List.getElem?_set_self (by rw [back_len]; omega)]
                        · rw [List.getElem?_eq_none (by simp [back_len]; omega), List.getElem?_eq_none (by simp [back_len]; omega)]
                      · rw [List.getElem?_set_ne hk, List.getElem?_set_ne hk]
                        exact ih (by simpa using hl) hn ((List.mem_cons.mp h).resolve_left fun q => hk q.symm)
              exact main (conts_len ec) (by rw [← holes_len E1 (wp ws), ← sw.sl.1, s2.sl.1]) (by rw [slots_wp]; exact hj)
            have same : back E1 (wp ws) old = E1 := by
              have main : ∀ {ws : List Nat} {old : List D}, conts E1 (wp ws) = some old → back E1 (wp ws) old = E1 := by
                intro ws
                induction ws with
                | nil => intro old e; cases e; rfl
                | cons w ws ih =>
                  intro old e
                  have e' : conts E1 (.plc w [] :: wp ws) = some old := e
                  unfold conts at e'
                  split at e'
                  · rename_i d ds' e1 e2
                    cases e'
                    show (back E1 (wp ws) ds').set w d = E1
                    rw [ih e2]
                    exact set_self e1
                  · cases e'
              exact main ec
            rw [same] at e'
            exact s1.sl.2 j d v e' n ev
          · rw [back_other (by rw [slots_wp]; exact hj)] at e
            have := s2.sl.2 j d v e n ev
            rw [wipe_other hj] at this
            exact this
        · exact ((a1.trans fr2).less (f2 := fadd f3 (fadd g (one1 Dl))) fun a z => by have := le3 a; simp at z ⊢; omega).imp fun z => by cases z
  · exact h.elim
end
end DL

end
section
set_option maxRecDepth 100000
/-! DL, part 12: slices, chains, raising. -/
namespace DL
open PySem L2

/-! ### x[a:b] -/
def rSlX (K : PySem.W.Frag) : V → Option Int → Option Int → Hp → VK → Prop := fun x lo hi H Q => rSlL K x lo hi H Q ∨ (rSlA K x lo hi H Q ∨ rSlS x lo hi H Q)
theorem sl_X {X : Cx} : SlR X (rSlX X.K) := sl_list.or (sl_tupA.or sl_str)
def cutD {α : Type} (xs : List α) (lo hi : Option Int) : List α := (xs.drop (HT.sIx xs.length 0 lo)).take (HT.sIx xs.length xs.length hi - HT.sIx xs.length 0 lo)
def fSl (x : D) (lo hi : Option Int) : Option D := match x with
  | .nd (.lst _) ds => if Fzs ds then some (.nd (.lst true) (cutD ds lo hi)) else none
  | .nd .tup ds => if Fzs ds then some (.nd .tup (cutD ds lo hi)) else none
  | .sc (.str z) => if z.length ≤ 100000 then some (.sc (.str (cutS z lo hi))) else none
  | _ => none
theorem Rps.drop {G : Gm} {I H : Hp} : ∀ {n : Nat} {ds : List D} {ws : List V}, Rps G I H ds ws z0 → Rps G I H (ds.drop n) (ws.drop n) z0
  | 0, ds, ws, x => x
  | n + 1, [], ws, x => by rw [x.1]; exact ⟨rfl, fun _ => rfl⟩
  | n + 1, d :: ds, ws, x => by
    obtain ⟨v, vr, g1, g2, rfl, y, z, q⟩ := x
    exact Rps.drop (n := n) (z.eqv fun a => by have := q a; simp at this ⊢; omega)
theorem Rps.take {G : Gm} {I H : Hp} : ∀ {n : Nat} {ds : List D} {ws : List V}, Rps G I H ds ws z0 → Rps G I H (ds.take n) (ws.take n) z0
  | 0, ds, ws, x => ⟨rfl, fun _ => rfl⟩
  | n + 1, [], ws, x => by rw [x.1]; exact ⟨rfl, fun _ => rfl⟩
  | n + 1, d :: ds, ws, x => by
    obtain ⟨v, vr, g1, g2, rfl, y, z, q⟩ := x
    exact ⟨v, _, z0, z0, rfl, y.eqv fun a => by have := q a; simp at this ⊢; omega, Rps.take (n := n) (z.eqv fun a => by have := q a; simp at this ⊢; omega), fun _ => rfl⟩
theorem Rps.cut {G : Gm} {I H : Hp} {ds : List D} {ws : List V} {lo hi : Option Int} (x : Rps G I H ds ws z0) : Rps G I H (cutD ds lo hi) (cutV ws lo hi) z0 := by
  unfold cutD cutV
  rw [x.len]
  exact Rps.take (Rps.drop x)
theorem sl_ok {G : Gm} {I H : Hp} {K : PySem.W.Frag} {x d : D} {v : V} {g : Ft} {lo hi : Option Int} {Q : VK} (sm : ∀ a o, I a = some o → H a = some o) (r : Rp G I H x v g) (e : fSl x lo hi = some d) (k : Fin1 G I H d Q) : rSlX K v lo hi H Q := by
  unfold fSl at e
  split at e
  · rename_i m ds
    split at e
    · rename_i h
      cases e
      rw [Fzs_all] at h
      obtain ⟨p, ws, g, o, rfl, st, e0, y, l⟩ := r.node sm
      cases st
      exact .inl ⟨p, ws, rfl, SqL.of e0, fun q hq => fin_lst sm (y.cold h).cut hq k⟩
    · cases e
  · rename_i ds
    split at e
    · rename_i h
      cases e
      rw [Fzs_all] at h
      have hz : Fz (.nd .tup ds) = true := by show (!Kd.tup.mut && Fzs ds) = true; rw [Fzs_all]; simp [Kd.mut, h]
      have r0 := r.fz0 hz
      obtain ⟨p, ws, g, o, rfl, st, e0, y, l⟩ := r.node sm
      cases st
      refine .inr (.inl ⟨p, ws, rfl, SqT.of e0, fun hw => ?_, fun _ q hq => fin_tup sm (y.cold h).cut hq k⟩)
      have : cutD ds lo hi = ds := by
        unfold cutD
        rw [← l, hw.1, hw.2]
        rw [List.drop_zero, Nat.sub_zero, l]
        exact List.take_length
      rw [this] at k
      exact fin_same sm r0 k
    · cases e
  · rename_i z
    split at e
    · rename_i h
      cases e
      obtain ⟨rfl, _⟩ := r
      exact .inr (.inr ⟨z, rfl, line5 h, fin_sc sm k⟩)
    · cases e
  · cases e
/-- a part of a slice: none, or a number -/
abbrev DenP := List D → R (Option Int × List D)
def pNo : DenP := fun E => .ok (none, E)
def pAt (d : Den) : DenP := fun E => (d E).bind fun r => match r.1 with
  | .val (.sc (.int i)) => .ok (some i, r.2)
  | _ => .bad
def tP (G : Gm) (W : WX) (pu : Bool) (den : DenP) : TO := fun σ H Q => ∃ I E vs f, Stt G σ I H E vs f ∧ Ans G W σ I H f vs (den E) fun r => ∀ I' H' f', Stt G σ I' H' r.2 vs f' → Fr pu I H f I' H' f' → (pu = true → r.2 = E) → Q r.1 H'
def dSl (pu : Bool) (d : Den) (lo hi : DenP) : Den := fun E => (d E).bind fun r => if stab pu r.1 then (lo r.2).bind fun p => (hi p.2).bind fun q => match cont q.2 r.1 with
    | some x => match fSl x p.1 q.1 with
      | some d => .ok (.val d, q.2)
      | none => .bad
    | none => .bad
  else .bad
section
variable {G : Gm} {W : WX} {p0 p1 p2 : Bool} {te : TE} {d : Den} {tl th : TO} {lo hi : DenP}
theorem t_pno : ∀ σ H Q, tP G W true pNo σ H Q → tNoPart σ H Q := by
  rintro σ H Q ⟨I, E, vs, f, s, h⟩
  exact h I H f s Fr.refl fun _ => rfl
theorem t_pat (h0 : ∀ σ H Q, tO G W p0 d σ H Q → te σ H Q) : ∀ σ H Q, tP G W p0 (pAt d) σ H Q → tPart te σ H Q := by
  rintro σ H Q ⟨I, E, vs, f, s, hh⟩
  refine h0 _ _ _ ⟨I, E, vs, f, s, hh.fst fun r er h => ?_⟩
  intro v I1 H1 f1 g1 s1 o1 n1 a1 e1
  obtain ⟨o, E1⟩ := r
  cases o with
  | plc _ _ => exact h.elim
  | val c =>
    cases c with
    | sc x =>
      cases x with
      | int i =>
        obtain ⟨rfl, _⟩ := o1
        exact ⟨i, rfl, h I1 H1 f1 s1 (a1.less fun x z => by simp; omega) e1⟩
      | _ => exact h.elim
    | _ => exact h.elim
theorem t_sl {K : PySem.W.Frag} (h0 : ∀ σ H Q, tO G W p0 d σ H Q → te σ H Q) (h1 : ∀ σ H Q, tP G W p1 lo σ H Q → tl σ H Q) (h2 : ∀ σ H Q, tP G W p2 hi σ H Q → th σ H Q) : ∀ σ H Q, tO G W (p0 && (p1 && p2)) (dSl (p1 && p2) d lo hi) σ H Q → tSl (rSlX K) te tl th σ H Q := by
  rintro σ H Q ⟨I, E, vs, f, s, hh⟩
  refine h0 _ _ _ ⟨I, E, vs, f, s, hh.fst fun r er h => ?_⟩
  intro v I1 H1 f1 g1 s1 o1 n1 a1 e1
  split at h
  · rename_i st
    have a1' : Fr p0 I H f I1 H1 f1 := a1.less fun x z => by simp; omega
    refine h1 _ _ _ ⟨I1, r.2, vs, f1, s1, (h.fwd a1').fst fun p ep _ => ?_⟩
    rw [ep] at h
    have h : Ans G W σ I H f vs ((hi p.2).bind fun q => match cont q.2 r.1 with
        | some x => match fSl x p.1 q.1 with
          | some d => R.ok (Opd.val d, q.2)
          | none => R.bad
        | none => R.bad) _ := h
    intro I2 H2 f2 s2 a2 e2
    refine h2 _ _ _ ⟨I2, p.2, vs, f2, s2, (h.fwd (a1'.trans a2)).fst fun q eq _ => ?_⟩
    rw [eq] at h
    intro I3 H3 f3 s3 a3 e3
    have a23 := a2.trans a3
    have o3 := o1.keep st (E1 := q.2) a23 n1 fun z => by simp only [Bool.and_eq_true] at z; rw [e3 z.2, e2 z.1]
    have n3 := a23.apart (g := g1) o1.trk n1 (fun x => s3.nd x)
    have h : Ans G W σ I H f vs (match cont q.2 r.1 with
        | some x => match fSl x p.1 q.1 with
          | some d => R.ok (Opd.val d, q.2)
          | none => R.bad
        | none => R.bad) _ := h
    split at h
    · rename_i x ex
      split at h
      · rename_i dd ed
        obtain ⟨g', y, _⟩ := o3.cont s3 (fun a => by have := n3 a; omega) ex
        refine sl_ok s3.sm y ed fun v4 I4 H4 g4 nw y4 n4 fr4 => ?_
        refine h v4 I4 H4 f3 g4 (s3.nw nw) y4 (fun a => ?_) ?_ fun z => ?_
        · by_cases z : g4 a = 0
          · have := s3.nd a; omega
          · have z1 : f3 a = 0 := by
              by_cases z2 : f3 a = 0
              · exact z2
              · obtain ⟨_, o, e⟩ := s3.rp.trk a z2
                rw [fr4 a z] at e; cases e
            have := n4 a; omega
        · have b : Fr true I3 H3 f3 I4 H4 (fadd f3 g4) := nw.fr fun a z => by
            by_cases z2 : g4 a = 0
            · left; simp at z; omega
            · right; exact fr4 a z2
          exact ((a1'.trans a23).trans b).imp fun z => by simp at z ⊢; exact z
        · simp only [Bool.and_eq_true] at z
          rw [e3 z.2.2, e2 z.2.1, e1 z.1]
      · exact h.elim
    · exact h.elim
  · exact h.elim
end

/-! ### a op b op c -/
def dChain (F1 F2 : List D → Option D) (pu2 pu3 : Bool) (d1 d2 d3 : Den) : Den := fun E => (d1 E).bind fun r1 => if stab pu2 r1.1 then (d2 r1.2).bind fun r2 => match conts r2.2 [r1.1, r2.1] with
    | some ds => match F1 ds with
      | some (.sc (.bl true)) => if stab pu3 r2.1 then (d3 r2.2).bind fun r3 => match conts r3.2 [r2.1, r3.1] with
          | some es => match F2 es with
            | some c => .ok (.val c, r3.2)
            | none => .bad
          | none => .bad
        else .bad
      | some (.sc (.bl false)) => .ok (.val (.sc (.bl false)), r2.2)
      | _ => .bad
    | none => .bad
  else .bad
section
variable {G : Gm} {W : WX} {p1 p2 p3 : Bool} {d1 d2 d3 : Den} {ta tb tc : TE} {r r' : R2} {F1 F2 : List D → Option D}
/-- scalar answers alone -/
def OpB (G : Gm) (r : R2) (F : List D → Option D) : Prop := ∀ (I H : Hp) (x y : D) (v w : V) (g h : Ft) (b : Bool), (∀ a o, I a = some o → H a = some o) → Rp G I H x v g → (∀ a, g a ≤ 1) → Rp G I H y w h → (∀ a, h a ≤ 1) → F [x, y] = some (.sc (.bl b)) → ∀ Q : VK, Q (.bl b) H → r v w H Q
theorem ob_cmp {g : Int → Int → Bool} {h : List Nat → List Nat → Bool} : OpB G (rCmpX g h) (fCmp g h) := by
  intro I H x y v w g1 g2 b sm r1 _ r2 _ e Q q
  unfold fCmp at e
  split at e
  · rename_i i j hh
    simp only [List.cons.injEq, and_true] at hh
    obtain ⟨rfl, rfl⟩ := hh
    cases e
    obtain ⟨rfl, _⟩ := r1
    obtain ⟨rfl, _⟩ := r2
    exact .inl ⟨i, j, rfl, rfl, q⟩
  · rename_i i j hh
    simp only [List.cons.injEq, and_true] at hh
    obtain ⟨rfl, rfl⟩ := hh
    cases e
    obtain ⟨rfl, _⟩ := r1
    obtain ⟨rfl, _⟩ := r2
    exact .inr ⟨i, j, rfl, rfl, q⟩
  · cases e
theorem t_chain (hr : OpB G r F1) (hr' : OpB G r' F2) (hF2 : ∀ es c, F2 es = some c → ∃ b, c = .sc (.bl b)) (h1 : ∀ σ H Q, tO G W p1 d1 σ H Q → ta σ H Q) (h2 : ∀ σ H Q, tO G W p2 d2 σ H Q → tb σ H Q) (h3 : ∀ σ H Q, tO G W p3 d3 σ H Q → tc σ H Q) :
    ∀ σ H Q, tO G W (p1 && (p2 && p3)) (dChain F1 F2 p2 p3 d1 d2 d3) σ H Q → tChain r r' ta tb tc σ H Q := by
  rintro σ H Q ⟨I, E, vs, f, s, hh⟩
  refine h1 _ _ _ ⟨I, E, vs, f, s, hh.fst fun x ex h => ?_⟩
  intro v I1 H1 f1 g1 s1 o1 n1 a1 e1
  split at h
  · rename_i st
    have a1' : Fr p1 I H f I1 H1 f1 := a1.less fun x z => by simp; omega
    refine h2 _ _ _ ⟨I1, x.2, vs, f1, s1, (h.fwd a1').fst fun y ey _ => ?_⟩
    rw [ey] at h
    intro w I2 H2 f2 g2 s2 o2 n2 a2 e2
    have o1' := o1.keep st (E1 := y.2) a2 n1 e2
    have n3 := a2.apart (g := g1) o1.trk n1 (fun x => by have := n2 x; simpa using this)
    have a2' : Fr p2 I1 H1 f1 I2 H2 f2 := a2.less fun x z => by simp; omega
    have h : Ans G W σ I H f vs (match conts y.2 [x.1, y.1] with
      | some ds => match F1 ds with
        | some (.sc (.bl true)) => if stab p3 y.1 then (d3 y.2).bind fun r3 => match conts r3.2 [y.1, r3.1] with
            | some es => match F2 es with
              | some c => R.ok (Opd.val c, r3.2)
              | none => R.bad
            | none => R.bad
          else R.bad
        | some (.sc (.bl false)) => R.ok (Opd.val (.sc (.bl false)), y.2)
        | _ => R.bad
      | none => R.bad) _ := h
    split at h
    · rename_i ds ed
      have two : ∃ c1 c2, cont y.2 x.1 = some c1 ∧ cont y.2 y.1 = some c2 ∧ ds = [c1, c2] := by
        unfold conts at ed
        split at ed
        · rename_i c1 ds1 q1 q2
          unfold conts at q2
          split at q2
          · rename_i c2 ds2 q3 q4
            cases q4; cases q2; cases ed
            exact ⟨c1, c2, q1, q3, rfl⟩
          · cases q2
        · cases ed
      obtain ⟨c1, c2, q1, q2, rfl⟩ := two
      have n1' : ∀ a, g1 a ≤ 1 := fun a => by have := n1 a; omega
      have n2' : ∀ a, g2 a ≤ 1 := fun a => by have := n2 a; omega
      obtain ⟨g1', y1, m1⟩ := o1'.cont s2 n1' q1
      obtain ⟨g2', y2, m2⟩ := o2.cont s2 n2' q2
      split at h
      · rename_i eF
        refine hr I2 H2 c1 c2 v w g1' g2' true s2.sm y1 m1 y2 m2 eF _ ⟨true, rfl, ?_⟩
        show tc σ H2 _
        split at h
        · rename_i st3
          refine h3 _ _ _ ⟨I2, y.2, vs, f2, s2, (h.fwd (a1'.trans a2')).fst fun z ez _ => ?_⟩
          rw [ez] at h
          intro u I3 H3 f3 g3 s3 o3 n3' a3 e3
          have o2' := o2.keep st3 (E1 := z.2) a3 n2 e3
          have h : Ans G W σ I H f vs (match conts z.2 [y.1, z.1] with
            | some es => match F2 es with
              | some c => R.ok (Opd.val c, z.2)
              | none => R.bad
            | none => R.bad) _ := h
          split at h
          · rename_i es ees
            have two2 : ∃ c1 c2, cont z.2 y.1 = some c1 ∧ cont z.2 z.1 = some c2 ∧ es = [c1, c2] := by
              unfold conts at ees
              split at ees
              · rename_i c1 ds1 q1 q2
                unfold conts at q2
                split at q2
                · rename_i c2 ds2 q3 q4
                  cases q4; cases q2; cases ees
                  exact ⟨c1, c2, q1, q3, rfl⟩
                · cases q2
              · cases ees
            obtain ⟨c3, c4, q3, q4, rfl⟩ := two2
            split at h
            · rename_i c ec
              obtain ⟨b, rfl⟩ := hF2 _ _ ec
              obtain ⟨g3', y3, m3⟩ := o2'.cont s3 n2' q3
              obtain ⟨g4', y4, m4⟩ := o3.cont s3 (fun a => by have := n3' a; omega) q4
              refine hr' I3 H3 c3 c4 w u g3' g4' b s3.sm y3 m3 y4 m4 ec Q ?_
              have fr := (a1'.trans a2').trans (a3.less (f2 := f3) fun x z => by simp; omega)
              refine h (.bl b) I3 H3 f3 z0 s3 ⟨rfl, fun _ => rfl⟩ (fun a => by simp; exact s3.nd a) ((fr.less fun x z => by simpa using z).imp fun z => by simp at z ⊢; exact ⟨⟨z.1, z.2.1⟩, z.2.2⟩) fun z => ?_
              simp only [Bool.and_eq_true] at z
              rw [e3 z.2.2, e2 z.2.1, e1 z.1]
            · exact h.elim
          · exact h.elim
        · exact h.elim
      · rename_i eF
        refine hr I2 H2 c1 c2 v w g1' g2' false s2.sm y1 m1 y2 m2 eF _ ⟨false, rfl, ?_⟩
        show Q (.bl false) H2
        have fr := a1'.trans a2'
        refine h (.bl false) I2 H2 f2 z0 s2 ⟨rfl, fun _ => rfl⟩ (fun a => by simp; exact s2.nd a) ((fr.less fun x z => by simpa using z).imp fun z => by simp at z ⊢; exact ⟨z.1, z.2.1⟩) fun z => ?_
        simp only [Bool.and_eq_true] at z
        rw [e2 z.2.1, e1 z.1]
      · exact h.elim
    · exact h.elim
  · exact h.elim
theorem fCmp_bl {g : Int → Int → Bool} {h : List Nat → List Nat → Bool} : ∀ es c, fCmp g h es = some c → ∃ b, c = .sc (.bl b) := by
  intro es c e
  unfold fCmp at e
  split at e
  · cases e; exact ⟨_, rfl⟩
  · cases e; exact ⟨_, rfl⟩
  · cases e
end

/-! ### raise X('..') -/
def dRaise (c : Nat) : DenS := fun E => .exc c [] E
theorem t_raise {G : Gm} {W : WX} {c : Nat} : ∀ D σ H, tS G W [] (dRaise c) D σ H → (fun (_ : Ends) σ H => (fun _ H Q => Q (.ref (G.cls c)) none H : St → Hp → XK → Prop) σ H fun cls d H' => W cls d σ H') D σ H := by
  rintro D σ H ⟨I, E, vs, f, s, h⟩
  exact h (.ref (G.cls c)) none σ vs I H f s Agr.refl ⟨rfl, .inl ⟨rfl, rfl⟩⟩ Fr.refl
/-- what is never come to -/
def dNever : DenS := fun _ => .bad
theorem t_never {G : Gm} {W : WX} {t : TS} : ∀ D σ H, tS G W [] dNever D σ H → t D σ H := by
  rintro D σ H ⟨I, E, vs, f, s, h⟩
  exact h.elim
end DL

end
section
set_option maxRecDepth 100000
/-! DL, part 13: the rules for a construct with its denotation. -/
namespace DL
open PySem L2

abbrev JE (X : Cx) (G : Gm) (W : WX) (p : Bool) (e : Expr) (d : Den) : Prop := PE X e (tO G W p d)
abbrev JA (X : Cx) (G : Gm) (W : WX) (p : Bool) (es : List Expr) (d : DenA) : Prop := PA X es (tA G W p d)
abbrev JT (X : Cx) (G : Gm) (W : WX) (p : Bool) (e : Expr) (d : DenT) : Prop := PT X e (tT G W p d)
abbrev JW (X : Cx) (G : Gm) (W : WX) (p : Bool) (e : Expr) (d : DenT) : Prop := PW X e (tT G W p d)
abbrev JI (X : Cx) (G : Gm) (W : WX) (tg e : Expr) (d : DenI) : Prop := PI X tg e (tI G W d)
abbrev JB' (X : Cx) (G : Gm) (W : WX) (pb : Bool) (tg e : Expr) (d : DenI) : Prop := PI X tg e (tIB G W pb d)
abbrev JS (X : Cx) (G : Gm) (W : WX) (A : List Nat) (s : Stmt) (d : DenS) : Prop := PS X s (tS G W A d)
abbrev JB (X : Cx) (G : Gm) (W : WX) (A : List Nat) (s : List Stmt) (d : DenS) : Prop := PSs X s (tS G W A d)

section
variable {X : Cx} {G : Gm} {W : WX} {p p1 p2 p3 : Bool} {a b c e o : Expr} {es : List Expr} {d d1 d2 d3 : Den} {das : DenA} {pos : Pos}
/-! ### names, constants -/
theorem jv (i : Nat) {x : Str} (hN : X.N[i]? = some x := by rfl) (hv : Vis X.env.scope x := by first | exact Or.inl rfl | exact Or.inr (Or.inl rfl) | exact Or.inr (Or.inr rfl)) (hd : (x == ("__debug__" : Str)) = false := by decide)
    (hcd : (x == ("__classdict__" : Str)) = false := by decide) : JE X G W true (.Name x pos) (rName i) := PE_imp (pv i hN hv hd hcd) t_name
theorem jmv (i : Nat) {x : Str} (hN : X.N[i]? = some x := by rfl) (hv : Vis X.env.scope x := by first | exact Or.inl rfl | exact Or.inr (Or.inl rfl) | exact Or.inr (Or.inr rfl)) (hd : (x == ("__debug__" : Str)) = false := by decide)
    (hcd : (x == ("__classdict__" : Str)) = false := by decide) : JE X G W false (.Name x pos) (dMove i) := PE_imp (pv i hN hv hd hcd) t_move
theorem jint {i : Int} {j : Nat} : JE X G W true (.Constant (.int i) j pos) (rC (.int i)) := PE_imp pe_int t_c
theorem jbl {i : Bool} {j : Nat} : JE X G W true (.Constant (.bool i) j pos) (rC (.bl i)) := PE_imp pe_bl t_c
theorem jnon {j : Nat} : JE X G W true (.Constant .none j pos) (rC .non) := PE_imp pe_non t_c
theorem jstr {x : Str} {j : Nat} : JE X G W true (.Constant (.str x) j pos) (rC (.str x)) := PE_imp pe_str t_c
theorem jty {x : Str} {T : String} (hv : bootBuiltins x = some (.type T)) (hm : X.mg x = none) (hg : Gl X x := by rfl) (hn : x ≠ "__name__" := by decide) (hd : (x == ("__debug__" : Str)) = false := by decide) : JE X G W true (.Name x pos) (rC (.ty T)) := PE_imp (pe_bltn (v := .ty T) hg hm hv rfl hn hd) t_c
/-! ### as a value -/
theorem jcp (h : JE X G W p e d) : JE X G W p e (dCopy d) := PE_imp h t_copy
theorem jfz (h : JE X G W p e d) : JE X G W false e (dFrz d) := PE_imp h t_frz
theorem jco (h : JE X G W p e d) : JE X G W false e (dCold d) := PE_imp h t_cold
theorem jvw (h : JE X G W0 p e d) : JE X G W true e (dView d) := PE_imp h (t_view fun _ _ _ h => h)
theorem jun (h : JE X G W true e d) : JE X G W false e d := PE_imp h fun σ H Q ⟨I, E, vs, f, s, h⟩ => ⟨I, E, vs, f, s, h.imp fun r _ k v I' H' f' g s' o n fr _ => k v I' H' f' g s' o n (fr.imp fun z => by cases z) (fun z => by cases z)⟩
/-! ### operators -/
theorem jop2 {op : Operator} {r : R2} {F : List D → Option D} (ho : OpR X (binaryOp op) r) (hs : OpS G (r2l r) F) (ha : JE X G W p1 a d1) (hb : JE X G W p2 b d2) : JE X G W (p1 && (p2 && true)) (.BinOp a op b pos) (dOp F (aCons (p2 && true) d1 (aCons true d2 aNil))) :=
  PE_imp (pe_op ho ha hb) (t_op2 hs (fun _ _ _ h => h) (fun _ _ _ h => h))
theorem jadd (ha : JE X G W p1 a d1) (hb : JE X G W p2 b d2) : JE X G W (p1 && (p2 && true)) (.BinOp a .Add b pos) (dOp fAdd (aCons (p2 && true) d1 (aCons true d2 aNil))) := jop2 op_addX os_add ha hb
theorem jsub (ha : JE X G W p1 a d1) (hb : JE X G W p2 b d2) : JE X G W (p1 && (p2 && true)) (.BinOp a .Sub b pos) (dOp fSub (aCons (p2 && true) d1 (aCons true d2 aNil))) := jop2 op_sub os_sub ha hb
theorem jmul (ha : JE X G W p1 a d1) (hb : JE X G W p2 b d2) : JE X G W (p1 && (p2 && true)) (.BinOp a .Mult b pos) (dOp fMul (aCons (p2 && true) d1 (aCons true d2 aNil))) := jop2 op_mulX' os_mul ha hb
theorem jdiv (ha : JE X G W p1 a d1) (hb : JE X G W p2 b d2) : JE X G W (p1 && (p2 && true)) (.BinOp a .FloorDiv b pos) (dOp fDiv (aCons (p2 && true) d1 (aCons true d2 aNil))) := jop2 op_fdivW os_div ha hb
theorem jmod (ha : JE X G W p1 a d1) (hb : JE X G W p2 b d2) : JE X G W (p1 && (p2 && true)) (.BinOp a .Mod b pos) (dOp fMod (aCons (p2 && true) d1 (aCons true d2 aNil))) := jop2 op_mod os_mod ha hb
theorem jpow (ha : JE X G W p1 a d1) (hb : JE X G W p2 b d2) : JE X G W (p1 && (p2 && true)) (.BinOp a .Pow b pos) (dOp fPow (aCons (p2 && true) d1 (aCons true d2 aNil))) := jop2 op_pow os_pow ha hb
theorem jneg (ha : JE X G W p1 a d1) : JE X G W (p1 && true) (.UnaryOp .USub a pos) (dOp fNeg (aCons true d1 aNil)) := PE_imp (pe_un un_neg ha) (t_op1 os_neg (fun _ _ _ h => h))
theorem jcmp2 {op : CmpOp} {r : R2} {F : List D → Option D} (ho : OpR X (compareOp op) r) (hs : OpS G (r2l r) F) (ha : JE X G W p1 a d1) (hb : JE X G W p2 b d2) (hm : behindInMarks op b = false) : JE X G W (p1 && (p2 && true)) (.Compare a [op] [b] pos) (dOp F (aCons (p2 && true) d1 (aCons true d2 aNil))) :=
  PE_imp (pe_cmpR ho ha hb hm) (t_op2 hs (fun _ _ _ h => h) (fun _ _ _ h => h))
theorem jlt (ha : JE X G W p1 a d1) (hb : JE X G W p2 b d2) : JE X G W (p1 && (p2 && true)) (.Compare a [.Lt] [b] pos) (dOp (fCmp (fun i j => decide (i < j)) (fun i j => decide (i < j))) (aCons (p2 && true) d1 (aCons true d2 aNil))) := jcmp2 op_ltX os_cmp ha hb (nomark _)
theorem jle (ha : JE X G W p1 a d1) (hb : JE X G W p2 b d2) : JE X G W (p1 && (p2 && true)) (.Compare a [.LtE] [b] pos) (dOp (fCmp (fun i j => decide (i ≤ j)) (fun i j => !decide (j < i))) (aCons (p2 && true) d1 (aCons true d2 aNil))) := jcmp2 op_leX os_cmp ha hb (nomark _)
theorem jgt (ha : JE X G W p1 a d1) (hb : JE X G W p2 b d2) : JE X G W (p1 && (p2 && true)) (.Compare a [.Gt] [b] pos) (dOp (fCmp (fun i j => decide (j < i)) (fun i j => decide (j < i))) (aCons (p2 && true) d1 (aCons true d2 aNil))) := jcmp2 op_gtX os_cmp ha hb (nomark _)
theorem jge (ha : JE X G W p1 a d1) (hb : JE X G W p2 b d2) : JE X G W (p1 && (p2 && true)) (.Compare a [.GtE] [b] pos) (dOp (fCmp (fun i j => decide (j ≤ i)) (fun i j => !decide (i < j))) (aCons (p2 && true) d1 (aCons true d2 aNil))) := jcmp2 op_geX os_cmp ha hb (nomark _)
theorem jeq (hu : X.A.units + 64 < cLine) (ha : JE X G W p1 a d1) (hb : JE X G W p2 b d2) : JE X G W (p1 && (p2 && true)) (.Compare a [.Eq] [b] pos) (dOp fEq (aCons (p2 && true) d1 (aCons true d2 aNil))) := jcmp2 (op_eqD hu) os_eq ha hb (nomark _)
theorem jne (hu : X.A.units + 64 < cLine) (ha : JE X G W p1 a d1) (hb : JE X G W p2 b d2) : JE X G W (p1 && (p2 && true)) (.Compare a [.NotEq] [b] pos) (dOp fNe (aCons (p2 && true) d1 (aCons true d2 aNil))) := jcmp2 (op_neD hu) os_ne ha hb (nomark _)
theorem jin (ha : JE X G W p1 a d1) (hb : JE X G W p2 b d2) (hm : behindInMarks .In b = false := by rfl) : JE X G W (p1 && (p2 && true)) (.Compare a [.In] [b] pos) (dOp (fIn false) (aCons (p2 && true) d1 (aCons true d2 aNil))) := jcmp2 op_inX os_in ha hb hm
theorem jnin (ha : JE X G W p1 a d1) (hb : JE X G W p2 b d2) (hm : behindInMarks .NotIn b = false := by rfl) : JE X G W (p1 && (p2 && true)) (.Compare a [.NotIn] [b] pos) (dOp (fIn true) (aCons (p2 && true) d1 (aCons true d2 aNil))) := jcmp2 op_notInX os_in ha hb hm
/-! ### truths as values -/
theorem jone {op} (h : JE X G W p a d) : JE X G W p (.BoolOp op [a] pos) d := pe_one h
theorem jand {rest : List Expr} (ha : JE X G W p1 a d1) (hb : JE X G W p2 (.BoolOp .And (b :: rest) pos) d2) : JE X G W (p1 && p2) (.BoolOp .And (a :: b :: rest) pos) (dAndV d1 d2) := PE_imp (pe_and ha hb) (t_andV (fun _ _ _ h => h) (fun _ _ _ h => h))
theorem jor {rest : List Expr} (ha : JE X G W p1 a d1) (hb : JE X G W p2 (.BoolOp .Or (b :: rest) pos) d2) : JE X G W (p1 && p2) (.BoolOp .Or (a :: b :: rest) pos) (dOrV d1 d2) := PE_imp (pe_or ha hb) (t_orV (fun _ _ _ h => h) (fun _ _ _ h => h))
theorem jnot (ha : JE X G W p1 a d1) : JE X G W p1 (.UnaryOp .Not a pos) (dNotV d1) := PE_imp (pe_not ha) (t_notV (fun _ _ _ h => h))
theorem jif {t : DenT} (hc : JT X G W p1 c t) (ha : JE X G W p2 a d1) (hb : JE X G W p3 b d2) : JE X G W (p1 && (p2 && p3)) (.IfExp c a b pos) (dIf t d1 d2) := PE_imp (pe_ifExp hc ha hb) (t_if (fun _ _ _ h => h) (fun _ _ _ h => h) (fun _ _ _ h => h))
/-! ### tests -/
theorem jtv (h : JE X G W p e d) (he : ∀ whole, isTrue e X.env whole = (do let v ← whole; standAt e.pos; holding [v] (truthy v)) := by intro _; rfl) : JT X G W p e (dTst d) := PT_imp (pt_val h he) (t_tstB (fun _ _ _ h => h))
theorem jtr (h : JE X G W p e d) (he : ∀ whole, isTrue e X.env whole = (do let v ← whole; standAt e.pos; holding [v] (truthy v)) := by intro _; rfl) : JT X G W p e (dTru d) := PT_imp (pt_truth h he) (t_tru (fun _ _ _ h => h))
theorem jtc2 {op : CmpOp} {r : R2} {F : List D → Option D} (ho : OpR X (compareOp op) r) (hs : OpS G (r2l r) F) (ha : JE X G W p1 a d1) (hb : JE X G W p2 b d2) (hm : behindInMarks op b = false) : JT X G W (p1 && (p2 && true)) (.Compare a [op] [b] pos) (dTst (dOp F (aCons (p2 && true) d1 (aCons true d2 aNil)))) :=
  PT_imp (pt_cmpR ho ha hb hm) (t_tst (t_op2 hs (fun _ _ _ h => h) (fun _ _ _ h => h)))
theorem jtlt (ha : JE X G W p1 a d1) (hb : JE X G W p2 b d2) : JT X G W (p1 && (p2 && true)) (.Compare a [.Lt] [b] pos) (dTst (dOp (fCmp (fun i j => decide (i < j)) (fun i j => decide (i < j))) (aCons (p2 && true) d1 (aCons true d2 aNil)))) := jtc2 op_ltX os_cmp ha hb (nomark _)
theorem jtle (ha : JE X G W p1 a d1) (hb : JE X G W p2 b d2) : JT X G W (p1 && (p2 && true)) (.Compare a [.LtE] [b] pos) (dTst (dOp (fCmp (fun i j => decide (i ≤ j)) (fun i j => !decide (j < i))) (aCons (p2 && true) d1 (aCons true d2 aNil)))) := jtc2 op_leX os_cmp ha hb (nomark _)
theorem jtgt (ha : JE X G W p1 a d1) (hb : JE X G W p2 b d2) : JT X G W (p1 && (p2 && true)) (.Compare a [.Gt] [b] pos) (dTst (dOp (fCmp (fun i j => decide (j < i)) (fun i j => decide (j < i))) (aCons (p2 && true) d1 (aCons true d2 aNil)))) := jtc2 op_gtX os_cmp ha hb (nomark _)
theorem jtge (ha : JE X G W p1 a d1) (hb : JE X G W p2 b d2) : JT X G W (p1 && (p2 && true)) (.Compare a [.GtE] [b] pos) (dTst (dOp (fCmp (fun i j => decide (j ≤ i)) (fun i j => !decide (i < j))) (aCons (p2 && true) d1 (aCons true d2 aNil)))) := jtc2 op_geX os_cmp ha hb (nomark _)
theorem jteq (hu : X.A.units + 64 < cLine) (ha : JE X G W p1 a d1) (hb : JE X G W p2 b d2) : JT X G W (p1 && (p2 && true)) (.Compare a [.Eq] [b] pos) (dTst (dOp fEq (aCons (p2 && true) d1 (aCons true d2 aNil)))) := jtc2 (op_eqD hu) os_eq ha hb (nomark _)
theorem jtne (hu : X.A.units + 64 < cLine) (ha : JE X G W p1 a d1) (hb : JE X G W p2 b d2) : JT X G W (p1 && (p2 && true)) (.Compare a [.NotEq] [b] pos) (dTst (dOp fNe (aCons (p2 && true) d1 (aCons true d2 aNil)))) := jtc2 (op_neD hu) os_ne ha hb (nomark _)
theorem jtin (ha : JE X G W p1 a d1) (hb : JE X G W p2 b d2) (hm : behindInMarks .In b = false := by rfl) : JT X G W (p1 && (p2 && true)) (.Compare a [.In] [b] pos) (dTst (dOp (fIn false) (aCons (p2 && true) d1 (aCons true d2 aNil)))) := jtc2 op_inX os_in ha hb hm
theorem jtnin (ha : JE X G W p1 a d1) (hb : JE X G W p2 b d2) (hm : behindInMarks .NotIn b = false := by rfl) : JT X G W (p1 && (p2 && true)) (.Compare a [.NotIn] [b] pos) (dTst (dOp (fIn true) (aCons (p2 && true) d1 (aCons true d2 aNil)))) := jtc2 op_notInX os_in ha hb hm
theorem jtnot {t : DenT} (ha : JT X G W p1 a t) : JT X G W p1 (.UnaryOp .Not a pos) (dNot t) := PT_imp (pt_not ha) (t_not (fun _ _ _ h => h))
theorem jwand1 {t : DenT} (ha : JT X G W p1 a t) : JW X G W p1 (.BoolOp .And [a] pos) t := pw_and1 ha
theorem jwor1 {t : DenT} (ha : JT X G W p1 a t) : JW X G W p1 (.BoolOp .Or [a] pos) t := pw_or1 ha
theorem jwand {rest : List Expr} {t u : DenT} (ha : JT X G W p1 a t) (hb : JW X G W p2 (.BoolOp .And (b :: rest) pos) u) : JW X G W (p1 && p2) (.BoolOp .And (a :: b :: rest) pos) (dAnd t u) := PW_imp (pw_and ha hb) (t_and (fun _ _ _ h => h) (fun _ _ _ h => h))
theorem jwor {rest : List Expr} {t u : DenT} (ha : JT X G W p1 a t) (hb : JW X G W p2 (.BoolOp .Or (b :: rest) pos) u) : JW X G W (p1 && p2) (.BoolOp .Or (a :: b :: rest) pos) (dOr t u) := PW_imp (pw_or ha hb) (t_or (fun _ _ _ h => h) (fun _ _ _ h => h))
theorem jpt {t : DenT} (h : JW X G W p e t) : JT X G W p e t := h.pt
/-! ### None -/
theorem jisn {j : Nat} {q : Pos} (ha : JE X G W p1 a d1) : JE X G W (p1 && (true && true)) (.Compare a [.Is] [.Constant .none j q] pos) (dOp fIsN (aCons (true && true) d1 (aCons true (rC .non) aNil))) := jcmp2 op_isN os_isN ha jnon (nomark _)
theorem jnotn {j : Nat} {q : Pos} (ha : JE X G W p1 a d1) : JE X G W (p1 && (true && true)) (.Compare a [.IsNot] [.Constant .none j q] pos) (dOp fNotN (aCons (true && true) d1 (aCons true (rC .non) aNil))) := jcmp2 op_notN os_notN ha jnon (nomark _)
theorem jtisn {j : Nat} {q : Pos} (ha : JE X G W p1 a d1) : JT X G W (p1 && (true && true)) (.Compare a [.Is] [.Constant .none j q] pos) (dTst (dOp fIsN (aCons (true && true) d1 (aCons true (rC .non) aNil)))) := jtc2 op_isN os_isN ha jnon (nomark _)
theorem jtnotn {j : Nat} {q : Pos} (ha : JE X G W p1 a d1) : JT X G W (p1 && (true && true)) (.Compare a [.IsNot] [.Constant .none j q] pos) (dTst (dOp fNotN (aCons (true && true) d1 (aCons true (rC .non) aNil)))) := jtc2 op_notN os_notN ha jnon (nomark _)
/-! ### chains of compares -/
abbrev gLt : Int → Int → Bool := fun i j => decide (i < j)
abbrev gLe : Int → Int → Bool := fun i j => decide (i ≤ j)
abbrev sLt : List Nat → List Nat → Bool := fun i j => decide (i < j)
abbrev sLe : List Nat → List Nat → Bool := fun i j => !decide (j < i)
theorem jchain {op op' : CmpOp} {g g' : Int → Int → Bool} {h h' : List Nat → List Nat → Bool} (ho : OpR X (compareOp op) (rCmpX g h)) (ho' : OpR X (compareOp op') (rCmpX g' h')) (ha : JE X G W p1 a d1) (hb : JE X G W p2 b d2) (hc : JE X G W p3 c d3)
    (hm : lastMarks [op, op'] [b, c] = false := by with_unfolding_all rfl) : JE X G W (p1 && (p2 && p3)) (.Compare a [op, op'] [b, c] pos) (dChain (fCmp g h) (fCmp g' h') p2 p3 d1 d2 d3) :=
  PE_imp (pe_chain ho ho' ha hb hc hm) (t_chain ob_cmp ob_cmp fCmp_bl (fun _ _ _ h => h) (fun _ _ _ h => h) (fun _ _ _ h => h))
theorem jtchain {op op' : CmpOp} {g g' : Int → Int → Bool} {h h' : List Nat → List Nat → Bool} (ho : OpR X (compareOp op) (rCmpX g h)) (ho' : OpR X (compareOp op') (rCmpX g' h')) (ha : JE X G W p1 a d1) (hb : JE X G W p2 b d2) (hc : JE X G W p3 c d3)
    (hm : lastMarks [op, op'] [b, c] = false := by with_unfolding_all rfl) : JT X G W (p1 && (p2 && p3)) (.Compare a [op, op'] [b, c] pos) (dTst (dChain (fCmp g h) (fCmp g' h') p2 p3 d1 d2 d3)) :=
  PT_imp (pt_chain ho ho' ha hb hc hm) (t_tst (t_chain ob_cmp ob_cmp fCmp_bl (fun _ _ _ h => h) (fun _ _ _ h => h) (fun _ _ _ h => h)))
/-! ### rows of arguments -/
theorem jan : JA X G W true [] aNil := PA_imp pa_nil t_anil
theorem jac (ha : JE X G W p1 e d) (hr : JA X G W p2 es das) (hs : starEach (e :: es) X.env = (false, eval e X.env) :: starEach es X.env := by rfl) : JA X G W (p1 && p2) (e :: es) (aCons p2 d das) := PA_imp (pa_cons ha hr hs) (t_acons (fun _ _ _ h => h) (fun _ _ _ h => h))
theorem jtup {k : Nat} (ha : JA X G W p es das) : JE X G W p (.Tuple es k pos) (dTup das) := PE_imp (pe_tup ha) (t_tup (fun _ _ _ h => h))
theorem jlst (ha : JA X G W p es das) : JE X G W p (.List es pos) (dLst das) := PE_imp (pe_lst ha) (t_lst (fun _ _ _ h => h))
/-! ### calls -/
theorem jcall {CX : CXT} {k : Nat} {f : Addr} {fd : FuncData} {ps : List Str} {F : Fn} {Ex : XK} {x : Str} {q : Pos} (hx : Passes CX X Ex) (hE : ∀ cls d σ H, W cls d σ H → Ex cls d H) (ok : FnOk X.prog X.w X.K X.mg X.base CX k f fd ps (spOf G F)) (hr : Room k X.A) (hm : X.mg x = some (.ref f))
    (hk : PySem.W.keepIn X.K (.ref f) = true) (hb : Binds X.K fd ps []) (ha : JA X G W p (e :: es) das) (hg : Gl X x := by rfl) (hdb : (x == ("__debug__" : Str)) = false := by decide) (he : starEach (e :: es) X.env = (false, eval e X.env) :: starEach es X.env := by rfl)
    (hpl : (backTo pos (starEach es X.env)).any (·.1) = false := by rfl) : JE X G W false (.Call (.Name x q) (e :: es) [] pos) (dCall F das) :=
  PE_imp (pe_call ok hr hg hm hk hb .nil hx ha hdb he hpl) (t_call hE (fun _ _ _ h => h))
theorem jB {id : String} {x : Str} {q : Pos} {r : List V → Hp → VK → Prop} {F : List D → Option D} (hc : CallR X (.builtin id) r) (hs : OpS G r F) (hv : bootBuiltins x = some (.builtin id)) (hm : X.mg x = none) (ha : JA X G W p (e :: es) das) (hg : Gl X x := by rfl)
    (hn : x ≠ "__name__" := by decide) (hdb : (x == ("__debug__" : Str)) = false := by decide) (he : starEach (e :: es) X.env = (false, eval e X.env) :: starEach es X.env := by rfl)
    (hpl : (backTo pos (starEach es X.env)).any (·.1) = false := by rfl) : JE X G W p (.Call (.Name x q) (e :: es) [] pos) (dOp F das) :=
  PE_imp (pe_callB hc hg hm hv ha hn hdb he hpl) (t_op hs (fun _ _ _ h => h))
theorem jTy {T : String} {x : Str} {q : Pos} {r : List V → Hp → VK → Prop} {F : List D → Option D} (hc : CallR X (.type T) r) (hs : OpS G r F) (hv : bootBuiltins x = some (.type T)) (hm : X.mg x = none) (ha : JA X G W p (e :: es) das) (hg : Gl X x := by rfl)
    (hn : x ≠ "__name__" := by decide) (hdb : (x == ("__debug__" : Str)) = false := by decide) (he : starEach (e :: es) X.env = (false, eval e X.env) :: starEach es X.env := by rfl)
    (hpl : (backTo pos (starEach es X.env)).any (·.1) = false := by rfl) : JE X G W p (.Call (.Name x q) (e :: es) [] pos) (dOp F das) :=
  PE_imp (pe_callTy hc hg hm hv ha hn hdb he hpl) (t_op hs (fun _ _ _ h => h))
/-! ### parts -/
theorem jix (hK : G.K = X.K) (ha : JE X G W p1 a d1) (hb : JE X G W p2 b d2) (hs : PlainIx b := by intro _ _; rfl) : JE X G W (p1 && (p2 && true)) (.Subscript a b pos) (dIx (p2 && true) d1 d2) := PE_imp (pe_ix ix_seq ha hb hs) (hK ▸ t_ix (fun _ _ _ h => h) (fun _ _ _ h => h))
theorem jsl {lo hi : DenP} {el eh : Option Expr} {q : Pos} (ha : JE X G W p1 a d1) (hl : PO X el (tP G W p2 lo)) (hh : PO X eh (tP G W p3 hi)) : JE X G W (p1 && (p2 && p3)) (.Subscript a (.Slice el eh none q) pos) (dSl (p2 && p3) d1 lo hi) :=
  PE_imp (pe_slice sl_X ha hl hh) (t_sl (fun _ _ _ h => h) (fun _ _ _ h => h) (fun _ _ _ h => h))
end
end DL

end
section
set_option maxRecDepth 100000
/-! DL, part 14: the rules for statements, walks, comprehensions. -/
namespace DL
open PySem PySem.Spec PyProof.Rows L2

theorem tIB_I {G : Gm} {W : WX} {den : DenI} {wi : TI} (h : ∀ σ H Q, tI G W den σ H Q → wi σ H Q) : ∀ σ H Q, tIB G W false den σ H Q → wi σ H Q := fun σ H Q ⟨I, E, vs, f, s, k⟩ =>
  h σ H Q ⟨I, E, vs, f, s, k.imp fun r _ k J I' H' f' s' fr wk => k J I' H' f' s' fr fun i I2 H2 a _ c => wk i I2 H2 a c⟩

section
variable {X : Cx} {G : Gm} {W : WX} {p p1 p2 p3 : Bool} {a b c e o : Expr} {es : List Expr} {d d1 d2 d3 : Den} {das : DenA} {pos : Pos} {A B : List Nat} {s : Stmt} {ss : List Stmt} {ds ds1 ds2 : DenS}
theorem jpo0 : PO X none (tP G W true pNo) := ⟨fun pins s σ H Q I h => po_none.run pins s σ H Q I (t_pno σ H Q h)⟩
theorem jpo1 (h : JE X G W p e d) : PO X (some e) (tP G W p (pAt d)) := ⟨fun pins s σ H Q I q => (po_some h).run pins s σ H Q I (t_pat (fun _ _ _ h => h) σ H Q q)⟩
/-! ### blocks -/
theorem jnil : JB X G W [] [] dNext := PSs_imp pss_nil t_next
theorem jone' (h : JS X G W A s ds) : JB X G W A [s] ds := pss_one h
theorem jcons (h : JS X G W A s ds1) (k : JB X G W B ss ds2) : JB X G W (A ++ B) (s :: ss) (dSeq ds1 ds2) := PSs_imp (pss_cons h k) (t_seq (fun _ _ _ h => h) (fun _ _ _ h => h))
theorem jpass : JS X G W [] (.Pass pos) dNext := PS_imp ps_pass t_next
theorem jbrk : JS X G W [] (.Break pos) dBrk := PS_imp ps_break t_brk
theorem jcnt : JS X G W [] (.Continue pos) dCnt := PS_imp ps_continue t_cnt
theorem jexp (h : JE X G W p e d) (hs : swapsWith e none pos.line X.env = pure false := by rfl) : JS X G W [] (.Expr e pos) (dDrop d) := PS_imp (ps_expr h hs) (t_drop (fun _ _ _ h => h))
theorem jret (h : JE X G W p e d) : JS X G W [] (.Return (some e) pos) (dRet d) := PS_imp (ps_ret h) (t_ret (fun _ _ _ h => h))
theorem jretn : JS X G W [] (.Return none pos) dRetN := PS_imp ps_retN t_retN
theorem jifs {t : DenT} {s1 s2 : List Stmt} (hc : JT X G W p c t) (h1 : JB X G W A s1 ds1) (h2 : JB X G W B s2 ds2) : JS X G W (A ++ B) (.If c s1 s2 pos) (dIfS t ds1 ds2) := PS_imp (ps_if hc h1 h2) (t_ifS (fun _ _ _ h => h) (fun _ _ _ h => h) (fun _ _ _ h => h))
theorem jset (i : Nat) {x : Str} {q : Pos} (hN : X.N.Nodup) (h : JE X G W p e d) (hi : X.N[i]? = some x := by rfl) (hx : L2.Loc X.env.scope x := by first | exact Or.inl rfl | exact Or.inr rfl) (hs : swapsWith e (some (.Name x q)) pos.line X.env = pure false := by rfl)
    (hf : X.fn x = true ∨ X.env.scope.names.lookup x = some .local := by first | exact .inl rfl | exact .inr rfl | assumption) : JS X G W [i] (.Assign [.Name x q] e pos) (dAsg d (dgName i)) :=
  PS_imp (ps_set hN hi hx h hs hf) (t_asg tg_name (fun _ _ _ h => h))
theorem jtgN (i : Nat) {x : Str} (hN : X.N.Nodup) (hi : X.N[i]? = some x := by rfl) (hx : L2.Loc X.env.scope x := by first | exact Or.inl rfl | exact Or.inr rfl) (hf : X.fn x = true ∨ X.env.scope.names.lookup x = some .local := by first | exact .inl rfl | exact .inr rfl | assumption) : PG X (.Name x pos) (gName i) := pg_name hN hi hx hf
theorem jasg {tg : Expr} {g : TG} {dg : DenG} (hg : PG X tg g) (ht : TgS G A g dg) (h : JE X G W p e d) (hs : swapsWithSole [tg] e pos.line X.env = pure false := by rfl) (hw : swappedStores [tg] e X.env = pure none := by rfl)
    (h1 : (assignEach [tg] X.env).map (·.2) = [assign tg X.env] := by rfl) : JS X G W A (.Assign [tg] e pos) (dAsg d dg) := PS_imp (ps_asg h hg hs hw h1) (t_asg ht (fun _ _ _ h => h))
theorem jwhile {t : DenT} (hp : PassesOwn (model X.prog X.w) X.A X.env X.xe) (hc : JT X G W p c t) (hb : JB X G W A ss ds) : JS X G W A (.While c ss [] pos) (dWhile t ds) := PS_imp (ps_while hp hc hb) (t_while (fun _ _ _ h => h) (fun _ _ _ h => h))
theorem jfor {tg : Expr} {g : TG} {dg : DenG} {di : DenI} (hp : PassesOwn (model X.prog X.w) X.A X.env X.xe) (hg : PG X tg g) (ht : TgS G A g dg) (hi : JI X G W tg e di) (hb : JB X G W B ss ds) (hc : X.calm = true := by rfl) (hs : ∀ x, foldedSetIterable e X.env x = pure x := by intro _; rfl) :
    JS X G W (A ++ B) (.For tg e ss [] pos) (dFor di dg ds) := PS_imp (ps_for hp hc hi hg hb hs) (t_for ht (fun _ _ _ h => h) (fun _ _ _ h => h))
/-! ### walks -/
theorem jseq {tg : Expr} (h : JE X G W p e d) : JI X G W tg e (iSeq d) := PI_imp (PI_or (PI_or (pi_list h) (pi_tup h)) (pi_str h)) (t_iseq (fun _ _ _ h => h))
def dR1 (das : DenA) : DenI := fun E => (das E).bind fun r => match conts r.2 r.1 with
  | some [.sc (.int j)] => if -(2 ^ 62) ≤ j ∧ j < 2 ^ 62 then .ok (rngD 0 j.toNat, r.2) else .bad
  | _ => .bad
def dR2 (das : DenA) : DenI := fun E => (das E).bind fun r => match conts r.2 r.1 with
  | some [.sc (.int i), .sc (.int j)] => if -(2 ^ 62) ≤ i ∧ i < 2 ^ 62 ∧ -(2 ^ 62) ≤ j ∧ j < 2 ^ 62 then .ok (rngD i (j - i).toNat, r.2) else .bad
  | _ => .bad
theorem t_r1 {ta : TA} (ha : ∀ σ H Q, tA G W p das σ H Q → ta σ H Q) : ∀ σ H Q, tI G W (dR1 das) σ H Q → iRng1 ta σ H Q := by
  rintro σ H Q ⟨I, E, vs, f, s, hh⟩
  refine ha _ _ _ ⟨I, E, vs, f, s, hh.fst fun r er h => ?_⟩
  intro ws I' H' f' g s' o n fr e
  split at h
  · rename_i j ec
    have ew := Rpi.ints1 (o.conts s' (fun a => by have := n a; omega) ec)
    subst ew
    split at h
    · rename_i hb
      exact ⟨j, rfl, hb.1, hb.2, h (Itr 0 j.toNat) I' H' f' s' ((fr.less fun x z => by simp; omega).imp fun z => by cases z) walk_rng⟩
    · exact h.elim
  · exact h.elim
theorem t_r2 {ta : TA} (ha : ∀ σ H Q, tA G W p das σ H Q → ta σ H Q) : ∀ σ H Q, tI G W (dR2 das) σ H Q → iRng2 ta σ H Q := by
  rintro σ H Q ⟨I, E, vs, f, s, hh⟩
  refine ha _ _ _ ⟨I, E, vs, f, s, hh.fst fun r er h => ?_⟩
  intro ws I' H' f' g s' o n fr e
  split at h
  · rename_i i j ec
    have ew := Rpi.ints2 (o.conts s' (fun a => by have := n a; omega) ec)
    subst ew
    split at h
    · rename_i hb
      exact ⟨i, j, rfl, hb, h (Itr i (j - i).toNat) I' H' f' s' ((fr.less fun x z => by simp; omega).imp fun z => by cases z) walk_rng⟩
    · exact h.elim
  · exact h.elim
theorem jrg1 {tg : Expr} {q : Pos} (hm : X.mg "range" = none) (ha : JA X G W p [a] das) (hg : Gl X "range" := by rfl) (hs : starEach [a] X.env = [(false, eval a X.env)] := by rfl) : JI X G W tg (.Call (.Name "range" q) [a] [] pos) (dR1 das) :=
  PI_imp (pi_range1 hg hm ha hs) (t_r1 (fun _ _ _ h => h))
theorem jrg2 {tg : Expr} {q : Pos} (hm : X.mg "range" = none) (ha : JA X G W p [a, b] das) (hg : Gl X "range" := by rfl) (hs : starEach [a, b] X.env = [(false, eval a X.env), (false, eval b X.env)] := by rfl) (hs2 : starEach [b] X.env = [(false, eval b X.env)] := by rfl) :
    JI X G W tg (.Call (.Name "range" q) [a, b] [] pos) (dR2 das) := PI_imp (pi_range2 hg hm ha hs hs2) (t_r2 (fun _ _ _ h => h))
theorem jbi {tg : Expr} {di : DenI} (h : JI X G W tg e di) : JB' X G W false tg e di := PI_imp h (tIB_I fun _ _ _ h => h)
theorem jbor {tg : Expr} (h : JE X G W p e d) : JB' X G W true tg e (iBor d) := PI_imp (pi_list h) (t_ibor (fun _ _ _ h => h))
/-! ### comprehensions -/
theorem jnoif : PTs X [] (tT G W true dYes) := ⟨fun pins s σ H Q I h => pts_nil.run pins s σ H Q I (t_yes σ H Q h)⟩
theorem jif1 {t : DenT} (h : JT X G W p c t) : PTs X [c] (tT G W p t) := pts_one h
theorem jlc {pb pt pe : Bool} {elt tg iter : Expr} {ifs : List Expr} {scope : Scope} {own : List (Str × Nat)} {g : TG} {dg : DenG} {di : DenI} {dt : DenT} {de : Den} (hN : X.N.Nodup) (hi : JB' X G W pb tg iter di) (ok : BlkOk X.N X.env.scope scope own) (ht : TgS G A g dg)
    (hA : ∀ j ∈ A, j ∈ own.map (·.2)) (nd : (own.map (·.2)).Nodup) (hp : pb = true → pt = true ∧ pe = true)
    (hg : ∀ (s : Shared) (H : Hp) (C : Addr) (cl : List (Str × Addr)) (fp : List Addr), PG (X.blk s H scope (compEnvC scope cl C X.env) fp) tg g) (hif : ∀ (s : Shared) (H : Hp) (C : Addr) (cl : List (Str × Addr)) (fp : List Addr), PTs (X.blk s H scope (compEnvC scope cl C X.env) fp) ifs (tT G W0 pt dt))
    (he : ∀ (s : Shared) (H : Hp) (C : Addr) (cl : List (Str × Addr)) (fp : List Addr), JE (X.blk s H scope (compEnvC scope cl C X.env) fp) G W0 pe elt de) (hc : X.calm = true := by rfl) (hs : ∀ x, foldedSetIterable iter X.env x = pure x := by intro _; rfl) :
    JE X G W false (.ListComp elt [⟨tg, iter, ifs, 0⟩] scope pos) (dComp di dg dt de (own.map (·.2))) := PE_imp (pe_lc hc hN hi ok hg hif he hs) (t_comp hp ht hA nd (fun _ _ _ h => h) (fun _ _ _ h => h) (fun _ _ _ h => h))
theorem jslc (i : Nat) {y : Str} {py spos : Pos} {pb pt pe : Bool} {elt tg iter : Expr} {ifs : List Expr} {scope : Scope} {own : List (Str × Nat)} {g : TG} {dg : DenG} {di : DenI} {dt : DenT} {de : Den} (hN : X.N.Nodup) (hyl : X.env.scope.names.lookup y = some .local)
    (hsw : swapsWith (.ListComp elt [⟨tg, iter, ifs, 0⟩] scope pos) (some (.Name y py)) spos.line X.env = pure true) (hi : JB' X G W pb tg iter di) (ok : BlkOk X.N X.env.scope scope own) (ht : TgS G A g dg)
    (hA : ∀ j ∈ A, j ∈ own.map (·.2)) (nd : (own.map (·.2)).Nodup) (hp : pb = true → pt = true ∧ pe = true)
    (hg : ∀ (s : Shared) (H : Hp) (C : Addr) (cl : List (Str × Addr)) (fp : List Addr), PG (X.blk s H scope (compEnvC scope cl C X.env) fp) tg g) (hif : ∀ (s : Shared) (H : Hp) (C : Addr) (cl : List (Str × Addr)) (fp : List Addr), PTs (X.blk s H scope (compEnvC scope cl C X.env) fp) ifs (tT G W0 pt dt))
    (he : ∀ (s : Shared) (H : Hp) (C : Addr) (cl : List (Str × Addr)) (fp : List Addr), JE (X.blk s H scope (compEnvC scope cl C X.env) fp) G W0 pe elt de) (hy : X.N[i]? = some y := by rfl) (hc : X.calm = true := by rfl) (hs : ∀ x, foldedSetIterable iter X.env x = pure x := by intro _; rfl) :
    JS X G W [i] (.Assign [.Name y py] (.ListComp elt [⟨tg, iter, ifs, 0⟩] scope pos) spos) (dAsg (dComp di dg dt de (own.map (·.2))) (dgName i)) :=
  PS_imp (ps_setLc hc hN hy hyl hsw hi ok hg hif he hs) (t_asg tg_name (t_comp hp ht hA nd (fun _ _ _ h => h) (fun _ _ _ h => h) (fun _ _ _ h => h)))
/-! ### stores, changes -/
theorem jseti {q : Pos} {i : Expr} {d0 di : Den} {p0 : Bool} (h0 : JE X G W p0 e d) (h1 : JE X G W p1 o d0) (h2 : JE X G W p2 i di)
    (ha : ∀ v, assign (.Subscript o i q) X.env v = (do
      let ov ← holding [v] (eval o X.env)
      let iv ← holding [v, ov] (eval i X.env)
      standAt q
      holding [v, ov, iv] (setItem ov iv v)
      release [v, ov, iv] []) := by intro _; rfl)
    (hs : swapsWithSole [.Subscript o i q] e pos.line X.env = pure false := by rfl) (hw : swappedStores [.Subscript o i q] e X.env = pure none := by rfl) (hh : (assignEach [.Subscript o i q] X.env).map (·.2) = [assign (.Subscript o i q) X.env] := by rfl) :
    JS X G W [] (.Assign [.Subscript o i q] e pos) (dSetI p1 p2 d d0 di) := PS_imp (ps_asg h0 (pg_sub h1 h2 set_list ha) hs hw hh) (t_setI (fun _ _ _ h => h) (fun _ _ _ h => h) (fun _ _ _ h => h))
theorem jmt {T id : String} {name : Str} {pu1 pu2 : Bool} {d0 : Den} {M : MutF} {r : V → List V → Hp → VK → Prop} {ap : Pos} (pa : PlainAttrs T) (slot : Slot T name id) (hty : typeOf (.builtin id) = pure (.type "method_descriptor")) (hm : MtR X id r) (hr : MutS G r M) (h0 : JE X G W pu1 o d0) (ha : JA X G W pu2 (e :: es) das)
    (hbase : attributeBase o name X.env (eval o X.env) = eval o X.env := by rfl)
    (hfew : ((backTo pos (starEach (e :: es) X.env)).all (fun x => !x.1) && (backToKw pos (keywordEach [] X.env)).all (fun x => x.1.isSome)
      && decide ((e :: es).length + ([] : List Keyword).length + (if ([] : List Keyword).isEmpty then 0 else 1) < 30)) = true := by rfl)
    (hline : (ap.endLine == pos.line) = true := by rfl) (hs : starEach (e :: es) X.env = (false, eval e X.env) :: starEach es X.env := by rfl) (hplain : (backTo pos (starEach es X.env)).any (·.1) = false := by rfl) :
    JE X G W false (.Call (.Attribute o name ap) (e :: es) [] pos) (dMut T M pu2 d0 das) := PE_imp (pe_bm pa slot hty hm h0 ha hbase hfew hline hs hplain) (t_mut hr (fun _ _ _ h => h) (fun _ _ _ h => h))
theorem jmt0 {T id : String} {name : Str} {pu1 : Bool} {d0 : Den} {M : MutF} {r : V → List V → Hp → VK → Prop} {ap : Pos} (pa : PlainAttrs T) (slot : Slot T name id) (hty : typeOf (.builtin id) = pure (.type "method_descriptor")) (hm : MtR X id r) (hr : MutS G r M) (h0 : JE X G W pu1 o d0)
    (hbase : attributeBase o name X.env (eval o X.env) = eval o X.env := by rfl) (hline : (ap.endLine == pos.line) = true := by rfl) :
    JE X G W false (.Call (.Attribute o name ap) [] [] pos) (dMut T M true d0 aNil) := PE_imp (pe_bm0 pa slot hty hm h0 hbase hline) (t_mut0 hr (fun _ _ _ h => h))
theorem jfld {c : Nat} {f : Str} (hcl : Cls X.K (G.cls c)) (na : NoAttr X.K (G.cls c) f) (h0 : JE X G W p o d) (hb : attributeBase o f X.env (eval o X.env) = eval o X.env := by rfl) : JE X G W p (.Attribute o f pos) (dFld c f d) := PE_imp (pe_fld h0 hb) (t_fld hcl na (fun _ _ _ h => h))
theorem jsetf {c : Nat} {f : Str} {q : Pos} {d0 : Den} {p0 : Bool} (hcl : Cls X.K (G.cls c)) (na : NoAttr X.K (G.cls c) f) (h0 : JE X G W p0 e d) (h1 : JE X G W p1 o d0) (hs : swapsWith e (some (.Attribute o f q)) pos.line X.env = pure false := by rfl) :
    JS X G W [] (.Assign [.Attribute o f q] e pos) (dSetF c f p1 d d0) := PS_imp (ps_fld h1 h0 hs) (t_setF hcl na (fun _ _ _ h => h) (fun _ _ _ h => h))
/-! ### list(range(..)), list(..), parallel assignment -/
theorem jlr1 {x q r : Pos} (hl : X.mg "list" = none) (hm : X.mg "range" = none) (ha : JE X G W p a d) (hc : X.calm = true := by rfl) (gl : Gl X "list" := by rfl) (gm : Gl X "range" := by rfl) (na : starEach [a] X.env = (false, eval a X.env) :: starEach [] X.env := by rfl)
    (hq : starEach [.Call (.Name "range" q) [a] [] r] X.env = (false, eval (.Call (.Name "range" q) [a] [] r) X.env) :: starEach [] X.env := by rfl) : JE X G W p (.Call (.Name "list" x) [.Call (.Name "range" q) [a] [] r] [] pos) (dLstRg1 d) := PE_imp (pe_listRg hc gl hl (prg_1 gm hm ha na) hq) (t_lstrg1 (fun _ _ _ h => h))
theorem jlr2 {x q r : Pos} (hl : X.mg "list" = none) (hm : X.mg "range" = none) (ha : JE X G W p1 a d1) (hb : JE X G W p2 b d2) (hc : X.calm = true := by rfl) (gl : Gl X "list" := by rfl) (gm : Gl X "range" := by rfl) (na : starEach [a, b] X.env = (false, eval a X.env) :: starEach [b] X.env := by rfl)
    (nb : starEach [b] X.env = (false, eval b X.env) :: starEach [] X.env := by rfl) (hp : (backTo r (starEach [b] X.env)).any (·.1) = false := by rfl)
    (hq : starEach [.Call (.Name "range" q) [a, b] [] r] X.env = (false, eval (.Call (.Name "range" q) [a, b] [] r) X.env) :: starEach [] X.env := by rfl) : JE X G W (p1 && (p2 && true)) (.Call (.Name "list" x) [.Call (.Name "range" q) [a, b] [] r] [] pos) (dLstRg2 (p2 && true) d1 d2) := PE_imp (pe_listRg hc gl hl (prg_2 gm hm ha hb na nb hp) hq) (t_lstrg2 (fun _ _ _ h => h) (fun _ _ _ h => h))
theorem jpar (i j : Nat) {x y : Str} {px py pt : Pos} {kt k2 : Nat} {pt2 : Pos} (hN : X.N.Nodup) (hij : i ≠ j) (ha : JA X G W p [a, b] das)
    (hw : swappedStores [.Tuple [.Name x px, .Name y py] kt pt] (.Tuple [a, b] k2 pt2) X.env = pure (some [x, y]))
    (hx : X.env.scope.names.lookup x = some .local := by rfl) (hy : X.env.scope.names.lookup y = some .local := by rfl)
    (hi : X.N[i]? = some x := by rfl) (hj : X.N[j]? = some y := by rfl) (hc : X.calm = true := by rfl)
    (hs : swapsWithSole [.Tuple [.Name x px, .Name y py] kt pt] (.Tuple [a, b] k2 pt2) pos.line X.env = pure false := by rfl) : JS X G W [i, j] (.Assign [.Tuple [.Name x px, .Name y py] kt pt] (.Tuple [a, b] k2 pt2) pos) (dPar [i, j] das) :=
  PS_imp (ps_par hc hN hi hj hij hx hy ha hw hs) (t_par (fun _ _ _ h => h))
end
/-! ### a def -/
theorem opq_ex (F : Fn) : Nonempty {f : Fn // f = F} := ⟨⟨F, rfl⟩⟩
/-- the same function, which no reduction looks into -/
noncomputable def opq (F : Fn) : Fn := (Classical.choice (opq_ex F)).1
theorem opq_eq (F : Fn) : opq F = F := (Classical.choice (opq_ex F)).2
def fnP (n N : Nat) (A : List Nat) (b : DenS) : Fn := fun ds => if ds.length = n then fnD N A b ds else .bad
theorem okN {P : Program} {w : World} {K : PySem.W.Frag} {mg : Str → Option Value} {base : Heap} {x qual : Str} {st : Stmt} {f : Addr} {fd : FuncData} {N ps : List Str} {k : Nat} {sp : Sp} (F : Fun K x qual st f fd) (S : FnScope N ps (defScope st)) (hl : ∀ vs H Q E, sp vs H Q E → vs.length = ps.length)
    (hb : ∀ (cd : Value) (Ar : Around) (ov : List Env) (s0 : Shared) (H0 : Hp) (ws : List V) (Q : VK) (E : XK), Room k (Ar.deeper (envOfC qual (defScope st) s0.heap.objs.size f cd)) → sp ws H0 Q E →
      ∃ t, PSs (cxOf (L2N.CX P w) P w K mg base N qual (defScope st) f cd Ar ov s0 H0 E) (defBody st) t ∧ t { nx := fun _ H' => Q .non H', rt := Q } (start N ws) H0) : FnOk P w K mg base (L2N.CX P w) (k + 1) f fd ps sp := by
  obtain ⟨_, _, _, _, _, _, cd, _, _, rfl, look, known⟩ := F.ex
  exact fn_of look known S hl fun Ar ov s0 H0 ws Q E room q => hb cd Ar ov s0 H0 ws Q E room q
theorem passN {X : Cx} : Passes (L2N.CX X.prog X.w) X E0 := fun _ _ _ _ _ _ _ h => by
  obtain ⟨_, _, _, _, _, _, _, _, _, _, _, _, z⟩ := h
  exact z.elim
theorem ok_def {P : Program} {w : World} {K : PySem.W.Frag} {mg : Str → Option Value} {base : Heap} {x qual : Str} {st : Stmt} {f : Addr} {fd : FuncData} {N ps : List Str} {k : Nat} {G : Gm} {A : List Nat} {b : DenS} (F : Fun K x qual st f fd) (S : FnScope N ps (defScope st)) (hn : ps.length ≤ N.length)
    (hb : ∀ (cdv : Value) (Ar : Around) (outer : List Env) (s : Shared) (H : Hp) (E : XK), Room k (Ar.deeper (envOfC qual (defScope st) s.heap.objs.size f cdv)) →
      JB (cxOf (L2N.CX P w) P w K mg base N qual (defScope st) f cdv Ar outer s H E) G (fun cls d _ H => E cls d H) A (defBody st) b) :
    FnOk P w K mg base (L2N.CX P w) (k + 1) f fd ps (spOf G (opq (fnP ps.length N.length A b))) := by
  rw [opq_eq]
  unfold fnP
  refine okN F S (fun vs H Q E h => spOf_len (n := ps.length) (fun ds h => ?_) h) (fun cdv Ar outer s H vs Q E hr h => ⟨_, hb cdv Ar outer s H E hr, ?_⟩)
  · by_cases z : ds.length = ps.length
    · exact z
    · rw [if_neg z] at h; exact absurd rfl h
  · have hv : vs.length = ps.length := spOf_len (n := ps.length) (fun ds h => by
      by_cases z : ds.length = ps.length
      · exact z
      · rw [if_neg z] at h; exact absurd rfl h) h
    refine fn_body hn hv (fun ds hd => ?_) (fun _ _ _ h => h) h
    by_cases z : ds.length = ps.length
    · rw [if_pos z]
    · rw [if_neg z] at hd; exact absurd rfl hd
end DL

end
section
set_option maxRecDepth 100000
/-! DL: sum of a tuple. -/
namespace DL
open PySem PySem.Spec PyProof.Rows L2
section
variable {prog : Program} {w : World} {A : Around} {E : Value → Shared → Prop} {s : Shared} {l : Addr}
theorem tup_kept {h' : Heap} (hk : ∀ b o, b ∉ [s.heap.objs.size] → (s.heap.push { cls := .type "tuple_iterator", data := .fields #[.ref l, .int 0 0] }).get? b = some o → h'.get? b = some o) :
    ∀ b o, s.heap.get? b = some o → h'.get? b = some o := fun b o e => by
  refine hk b o (fun hm => ?_) (Heap.get?_push_of_some _ e)
  rcases List.mem_cons.mp hm with e1 | hm
  · exact absurd (e1 ▸ Heap.lt_size e) (Nat.lt_irrefl _)
  · cases hm
theorem sum_tupG {xs : Array (Int × Tok)} {Q : Value → Shared → Prop} (hh : A.handled = none) (ht : s.heap.IsTuple l (intItems xs))
    (h : ∀ h' tk t', (∀ b o, s.heap.get? b = some o → h'.get? b = some o) → Q (.int (preSum (numAt xs) xs.size) t') { s with heap := h', toks := tk }) :
    wpAny (model prog w) A (call (.builtin "sum") [.ref l]) Q E s := by
  have hlt : l < s.heap.objs.size := by obtain ⟨_, e, _⟩ := ht; exact Heap.lt_size e
  refine call_sum_walkG (wpAny_pyIter_tuple ht ?_)
  refine ⟨_, [_, l], [_], _, _, _, numAt xs, rfl, Walks.tuple (A := A.in1) hh _ l (Nat.ne_of_lt hlt) (intItems xs), ⟨⟨_, Heap.get?_push_size _ rfl, rfl, rfl⟩, ht.push _⟩, fun c hc => ?_, (fun _ _ => intItems_at), fun h' tk t' hk => ?_⟩
  · show c < (s.heap.push _).objs.size
    rw [Heap.size_push]
    rcases List.mem_cons.mp hc with rfl | hc
    · exact Nat.lt_succ_self _
    · rcases List.mem_cons.mp hc with rfl | hc
      · exact Nat.lt_succ_of_lt hlt
      · cases hc
  · have := h h' tk t' (tup_kept hk)
    simpa [intItems] using this
theorem sum_rawT {its : List Value} {ns : List Int} {Q : Value → Shared → Prop} (hh : A.handled = none) (ht : s.heap.IsTuple l its.toArray) (hi : IntsAre its ns)
    (h : ∀ h' tk t', (∀ b o, s.heap.get? b = some o → h'.get? b = some o) → Q (.int ns.sum t') { s with heap := h', toks := tk }) : wpAny (model prog w) A (call (.builtin "sum") [.ref l]) Q E s := by
  obtain ⟨xs, e⟩ := hi.allInts.items
  have hn : numsOf (intItems xs).toList = ns := by rw [← e]; exact hi.numsOf
  rw [nums_intItems] at hn
  rw [e] at ht
  refine sum_tupG hh ht fun h' tk t' hk => ?_
  have := h h' tk t' hk
  rw [preSum_eq, List.take_of_length_le (by simp), hn]; exact this
end
def rSumT (K : PySem.W.Frag) : List V → Hp → VK → Prop := fun vs H Q => ∃ (a : Addr) (ns : List Int), vs = [V.ref a] ∧ SqT K H a (ns.map V.int) ∧ Q (.int ns.sum) H
theorem cr_sumT {X : Cx} (hc : X.calm = true) : CallR X (.builtin "sum") (rSumT X.K) := by
  intro pins s σ H vs us Q I r h
  obtain ⟨a, ns, rfl, hs, q⟩ := h
  obtain ⟨its, rv, hl, _⟩ := I.tuple hs
  rw [Vals.ref1 r]
  obtain ⟨o, h1, h2, h3⟩ := hl
  exact sum_rawT (I.ok.hd hc) ⟨o, h1, h2, h3⟩ rv.ints fun h' tk t' hk => ⟨.int _, H, I.kept hk, ⟨_, rfl⟩, q⟩
abbrev rSumX (K : PySem.W.Frag) : List V → Hp → VK → Prop := fun vs H Q => rSum K vs H Q ∨ rSumT K vs H Q
theorem call_sumX {X : Cx} (hc : X.calm = true) : CallR X (.builtin "sum") (rSumX X.K) := (cr_sum hc).or (cr_sumT hc)
def fSumX : List D → Option D
  | [.nd (.lst _) ds] => (intsD ds).map fun ns => .sc (.int ns.sum)
  | [.nd .tup ds] => (intsD ds).map fun ns => .sc (.int ns.sum)
  | _ => none
theorem os_sumX {G : Gm} {K : PySem.W.Frag} : OpS G (rSumX K) fSumX := by
  intro I H ds ws d sm x e Q k
  unfold fSumX at e
  split at e
  · rename_i m es
    cases eb : intsD es with
    | none => rw [eb] at e; cases e
    | some ns =>
      rw [eb] at e; cases e
      obtain ⟨v, g, rfl, y, _⟩ := x.one
      obtain ⟨p, ws, g, ob, rfl, st, e0, z, l⟩ := y.node sm
      cases st
      have ew := ints_vals eb z
      subst ew
      exact .inl ⟨p, ns, rfl, SqL.of e0, fin_sc sm k⟩
  · rename_i es
    cases eb : intsD es with
    | none => rw [eb] at e; cases e
    | some ns =>
      rw [eb] at e; cases e
      obtain ⟨v, g, rfl, y, _⟩ := x.one
      obtain ⟨p, ws, g, ob, rfl, st, e0, z, l⟩ := y.node sm
      cases st
      have ew := ints_vals eb z
      subst ew
      exact .inr ⟨p, ns, rfl, SqT.of e0, fin_sc sm k⟩
  · cases e
end DL

end
section
set_option maxRecDepth 100000
/-! DL: insert, reverse, clear, a list turned about. -/
namespace DL
open PySem PySem.Spec PyProof.Rows L2
section
variable {G : Gm} {I H : Hp} {K : PySem.W.Frag}
theorem Rps.two {ds : List D} {ws : List V} {f : Ft} (n : Nat) (x : Rps G I H ds ws f) : ∃ g h, Rps G I H (ds.take n) (ws.take n) g ∧ Rps G I H (ds.drop n) (ws.drop n) h ∧ ∀ a, f a = g a + h a := by
  have hl := x.len
  rw [← List.take_append_drop n ds] at x
  obtain ⟨v1, v2, g, h, rfl, y, z, q⟩ := x.split
  have l1 := y.len
  have e1 : (v1 ++ v2).take n = v1 := by
    by_cases hn : n ≤ ds.length
    · rw [List.length_take, Nat.min_eq_left hn] at l1
      rw [← l1, List.take_left]
    · have : v2 = [] := by
        have := z.len
        rw [List.drop_of_length_le (by omega)] at this
        exact List.eq_nil_of_length_eq_zero (by simpa using this)
      subst this
      rw [List.append_nil, List.take_of_length_le]
      rw [List.length_take] at l1; omega
  have e2 : (v1 ++ v2).drop n = v2 := by
    have := List.take_append_drop n (v1 ++ v2)
    rw [e1] at this
    exact List.append_cancel_left this
  rw [e1, e2]
  exact ⟨g, h, y, z, q⟩
theorem Rps.rev : ∀ {ds : List D} {ws : List V} {f : Ft}, Rps G I H ds ws f → Rps G I H ds.reverse ws.reverse f
  | [], ws, f, x => by obtain ⟨rfl, q⟩ := x; exact ⟨rfl, q⟩
  | d :: ds, ws, f, x => by
    obtain ⟨v, vr, g, h, rfl, y, z, q⟩ := x
    rw [List.reverse_cons, List.reverse_cons]
    exact ((Rps.rev z).app (Rps.one y)).eqv fun a => by have := q a; simp; omega
abbrev rInsert : V → List V → Hp → VK → Prop := fun x vs H Q => ∃ (l : Addr) (xs : List V) (i : Int) (y : V), x = .ref l ∧ vs = [.int i, y] ∧ H l = some (.lst xs) ∧ xs.length < sizeLine ∧ 0 ≤ i ∧ i < 2 ^ 63 ∧
    Q .non (upd H l (.lst (xs.take i.toNat ++ [y] ++ xs.drop i.toNat)))
def mInsert : MutF := fun k ds as => match k, as with
  | .lst true, [.sc (.int i), c] => if ds.length < 100000 ∧ 0 ≤ i ∧ i ≤ 100000 then some (.sc .non, .lst true, ds.take i.toNat ++ [c] ++ ds.drop i.toNat) else none
  | _, _ => none
theorem ms_insert : MutS G rInsert mInsert := by
  intro I H k ds as q ws was ob g ga res k' ds' mu st eH sm z za nd em Q kk
  unfold mInsert at em
  split at em
  · rename_i i c
    split at em
    · rename_i hl
      cases em; cases st
      obtain ⟨v0, vr, _, g1, rfl, ⟨rfl, z0'⟩, za, qq⟩ := za
      obtain ⟨v, vr2, g1', g2, rfl, y, ⟨rfl, zz⟩, qq2⟩ := za
      have hg : ∀ a, g1' a ≤ ga a := fun a => by have := qq a; have := qq2 a; omega
      have gq : g q = 0 := by have := nd q; rw [one1_self] at this; omega
      have g1q : g1' q = 0 := by have := nd q; have := hg q; rw [one1_self] at *; omega
      refine ⟨q, ws, i, v, rfl, rfl, eH, by rw [z.len]; exact line5' hl.1, hl.2.1, by omega, ?_⟩
      obtain ⟨ga1, gb1, t1, t2, tq⟩ := (z.beside (q := q) (ob := .lst (ws.take i.toNat ++ [v] ++ ws.drop i.toNat)) gq).two i.toNat
      exact kk _ _ _ .non z0 rfl rfl ((t1.app (Rps.one (y.beside g1q))).app t2) ⟨rfl, fun _ => rfl⟩ fun a => by have := tq a; have := hg a; simp; omega
    · cases em
  · cases em
def mReverse : MutF := fun k ds as => match k, as with
  | .lst true, [] => some (.sc .non, .lst true, ds.reverse)
  | _, _ => none
theorem ms_reverse : MutS G rReverse mReverse := by
  intro I H k ds as q ws was ob g ga res k' ds' mu st eH sm z za nd em Q kk
  unfold mReverse at em
  split at em
  · cases em; cases st
    obtain ⟨rfl, zz⟩ := za
    have gq : g q = 0 := by have := nd q; rw [one1_self] at this; omega
    exact ⟨q, ws, rfl, rfl, eH, kk _ _ _ .non z0 rfl rfl (z.beside gq).rev ⟨rfl, fun _ => rfl⟩ fun a => by have := zz a; simp⟩
  · cases em
/-- xs[::-1] -/
def fRevL : List D → Option D
  | [.nd (.lst _) ds] => if Fzs ds then some (.nd (.lst true) ds.reverse) else none
  | _ => none
abbrev rRevL (K : PySem.W.Frag) : V → Hp → VK → Prop := fun x H1 Q => ∃ a xs, x = .ref a ∧ SqL K H1 a xs ∧ ∀ p, H1 p = none → Q (.ref p) (upd H1 p (.lst xs.reverse))
theorem os_revL : OpS G (r1l (rRevL K)) fRevL := by
  intro I H ds ws d sm x e Q k
  unfold fRevL at e
  split at e
  · rename_i m es
    split at e
    · rename_i h
      cases e
      rw [Fzs_all] at h
      obtain ⟨v, g, rfl, y, _⟩ := x.one
      obtain ⟨p, ws, g, ob, rfl, st, e0, z, l⟩ := y.node sm
      cases st
      exact ⟨p, ws, rfl, SqL.of e0, fun q hq => fin_lst sm (z.cold h).rev hq k⟩
    · cases e
  · cases e
end
theorem jrevl {X : Cx} {G : Gm} {W : WX} {p : Bool} {a : Expr} {d : Den} {k : Nat} {p1 p2 p3 pos : Pos} (ha : JE X G W p a d) : JE X G W (p && true) (.Subscript a (.Slice none none (some (.UnaryOp .USub (.Constant (.int 1) k p1) p2)) p3) pos) (dOp fRevL (aCons true d aNil)) :=
  PE_imp (pe_revL ha) (t_op1 os_revL (fun _ _ _ h => h))
end DL

end
section
set_option maxRecDepth 100000
/-! DL: a walk over an owned list, which is put aside while the loop runs. -/
namespace DL
open PySem L2
def putB (i : Nat) (d : D) : S → S
  | .nx E => match E[i]? with
    | some .lent => .nx (E.set i d)
    | _ => .bad
  | .rt c E => .rt c E
  | .exc c fs E => .exc c fs E
  | _ => .bad
def dForB (i : Nat) (dg : DenG) (b : DenS) : DenS := fun E => match E[i]? with
  | some (.nd (.lst true) ds) => if ds.all Fz then putB i (.nd (.lst true) ds) (loopD dg b ds (E.set i .lent)) else .bad
  | _ => .bad
section
variable {G : Gm} {W : WX} {A B : List Nat} {g : TG} {t : TS} {dg : DenG} {b : DenS} {K : PySem.W.Frag}
theorem set_same {vs : List V} {i : Nat} {v : V} (e : vs[i]? = some v) : vs.set i v = vs := by
  obtain ⟨hl, e2⟩ := List.getElem?_eq_some_iff.mp e
  rw [← e2, List.set_getElem_self]
theorem restore {σ : St} {I H : Hp} {E : List D} {vs : List V} {f : Ft} {i : Nat} {p : Addr} {ds : List D} {ws : List V} (s : Stt G σ I H E vs f) (el : E[i]? = some .lent) (ev : vs[i]? = some (.ref p)) (eH : H p = some (.lst ws)) (eI : I p = none) (f0 : f p = 0) (x : Rps G I H ds ws z0) :
    ∃ f', Stt G σ I H (E.set i (.nd (.lst true) ds)) vs f' ∧ ∀ a, f' a ≤ f a + one1 p a := by
  obtain ⟨w, gg, h, e1, y, q, k⟩ := s.rp.get el
  have ew : w = .ref p := Option.some.inj (e1.symm.trans ev)
  subst ew
  have n : Rp G I H (.nd (.lst true) ds) (.ref p) (one1 p) := ⟨p, ws, z0, .lst ws, rfl, rfl, x, .inl ⟨rfl, eI, eH, fun a => by simp⟩⟩
  have k' := k (I' := I) (H' := H) (fun _ _ e => e) n fun a z => ⟨(s.rp.trk a (by have := q a; omega)).1, rfl⟩
  rw [set_same ev] at k'
  refine ⟨_, ⟨⟨by simp [s.sl.1], fun j d v e1 n1 e2 => ?_⟩, s.sm, k', fun a => ?_⟩, fun a => ?_⟩
  · by_cases hj : i = j
    · subst hj
      exact s.sl.2 i .lent v el (by intro z; cases z) e2
    · rw [List.getElem?_set_ne hj] at e1
      exact s.sl.2 j d v e1 n1 e2
  · by_cases ha : a = p
    · subst ha
      have := q a; simp [one1_self]; omega
    · have := q a; have := s.nd a; simp [one1_ne ha]; omega
  · have := q a; simp; omega
theorem t_forB {i : Nat} (hi : i ∉ A ++ B) (hg : TgS G A g dg) (h1 : ∀ D σ H, tS G W B b D σ H → t D σ H) : ∀ D σ H, tS G W (A ++ B) (dForB i dg b) D σ H → tFor (iList K (tVar i)) g t D σ H := by
  rintro D σ H ⟨I, E, vs, f, s, hh⟩
  unfold dForB at hh
  split at hh
  · rename_i ds eE
    split at hh
    · rename_i hf
      obtain ⟨v, gg, h0, ev, y, q, k⟩ := s.rp.get eE
      obtain ⟨p, ws, g1, ob, rfl, st, x, c⟩ := y
      cases st
      rcases c with ⟨_, eI, eH, qq⟩ | ⟨z, _⟩
      rotate_left
      · cases z
      have x0 := x.cold hf
      have hlen := x.len
      have z1 : ∀ a, g1 a = 0 := x.zero_of_fz hf
      have hv : σ[i]? = some (some (.ref p)) := s.sl.2 i _ _ eE (by intro z; cases z) ev
      have k' := k (I' := I) (H' := H) (d' := .lent) (v' := .ref p) (g' := z0) (fun _ _ e => e) (fun _ => rfl) fun a z => ⟨(s.rp.trk a (by have := q a; omega)).1, rfl⟩
      rw [set_same ev] at k'
      have s0 : Stt G σ I H (E.set i .lent) vs h0 := ⟨⟨by simp [s.sl.1], fun j d v e1 n1 e2 => by
        by_cases hj : i = j
        · subst hj; rw [ev] at e2; cases e2; exact hv
        · rw [List.getElem?_set_ne hj] at e1
          exact s.sl.2 j d v e1 n1 e2⟩, s.sm, k'.eqv fun a => by simp, fun a => by have := q a; have := s.nd a; omega⟩
      have p0 : h0 p = 0 := by have := q p; have := qq p; have := s.nd p; rw [one1_self] at *; omega
      refine ⟨.ref p, hv, p, rfl, ⟨ws, SqL.of eH⟩, ?_⟩
      -- the invariant
      refine ⟨fun n m σ' H' => ∃ I' E' vs' f', m = ds.length - n ∧ n ≤ ds.length ∧ Stt G σ' I' H' E' vs' f' ∧ Fr false I H f I' H' (fadd f' (one1 p)) ∧ Agr (A ++ B) vs vs' ∧ H' p = some (.lst ws) ∧ I' p = none ∧ f' p = 0 ∧ AnsS G W (A ++ B) I H f vs D (putB i (.nd (.lst true) ds) (loopD dg b (ds.drop n) E')),
        ⟨ds.length, I, _, vs, h0, by simp, Nat.zero_le _, s0, Fr.refl.less fun a z => by have := q a; have := qq a; simp at z; omega, Agr.refl, eH, eI, p0, hh⟩, ?_⟩
      rintro n m σ2 H2 ⟨I2, E2, vs2, f2, rfl, hn, s2, fr2, ag2, eH2, eI2, p2, h2⟩
      have x2 : Rps G I2 H2 ds ws z0 := x0.up fr2.im
      have evi : ∀ {vs3 : List V}, Agr (A ++ B) vs vs3 → vs3[i]? = some (.ref p) := fun {vs3} ag => by rw [ag i hi]; exact ev
      by_cases hl : n < ds.length
      · have ed : ds[n]? = some ds[n] := List.getElem?_eq_getElem hl
        rw [List.drop_eq_getElem_cons hl] at h2
        obtain ⟨w, ew, yw⟩ := x2.get0 ed
        refine .inr ⟨⟨ws, w, SqL.of eH2, ew⟩, fun σ' H' => ∃ I' E' vs' f', Stt G σ' I' H' E' vs' f' ∧ Fr false I H f I' H' (fadd f' (one1 p)) ∧ Agr (A ++ B) vs vs' ∧ H' p = some (.lst ws) ∧ I' p = none ∧ f' p = 0 ∧ AnsS G W (A ++ B) I H f vs D (putB i (.nd (.lst true) ds) (loopD dg b (ds.drop (n + 1)) E')), fun σ' H' q => ?_, fun xx Hn qy => ?_⟩
        · obtain ⟨I', E', vs', f', a1, a2, a3, a4, a5, a6, a7⟩ := q
          exact ⟨ds.length - (n + 1), by omega, I', E', vs', f', rfl, hl, a1, a2, a3, a4, a5, a6, a7⟩
        · obtain ⟨eHH, qy⟩ := qy
          have eHH := eHH.symm
          subst eHH
          have exx := qy ws (SqL.of eH2)
          rw [ew] at exx; cases exx
          have h2' : AnsS G W (A ++ B) I H f vs D (putB i (.nd (.lst true) ds) (match dg ds[n] E2 with
            | some E1 => match b E1 with
              | .nx E' => loopD dg b (ds.drop (n + 1)) E'
              | .ct E' => loopD dg b (ds.drop (n + 1)) E'
              | .bk E' => .nx E'
              | s => s
            | none => .bad)) := h2
          split at h2'
          · rename_i E4 e4
            refine hg _ w σ2 I2 H2 E2 E4 vs2 f2 z0 _ s2 yw (fun a => by simp; exact s2.nd a) e4 fun σ4 vs4 f4 s4 ag4 le4 _ => ?_
            have le4' : ∀ a, f4 a ≤ f2 a := fun a => by have := le4 a; simpa using this
            have p4 : f4 p = 0 := by have := le4' p; omega
            have fr4 : Fr false I H f I2 H2 (fadd f4 (one1 p)) := fr2.cut fun a => by have := le4' a; simp; omega
            have fr4' : Fr false I H f I2 H2 f4 := fr4.cut fun a => by simp
            have agA : Agr (A ++ B) vs vs4 := fun j hj => by
              rw [ag4 j fun z => hj (List.mem_append_left _ z)]; exact ag2 j hj
            refine h1 _ _ _ ⟨I2, E4, vs4, f4, s4, ?_⟩
            -- what a step of the body leaves
            have side : ∀ {I' H' : Hp} {f' g' : Ft}, Fr false I2 H2 f4 I' H' (fadd f' g') → H' p = some (.lst ws) ∧ I' p = none ∧ f' p = 0 ∧ g' p = 0 ∧ Fr false I H f I' H' (fadd (fadd f' g') (one1 p)) := fun {I' H' f' g'} fr => by
              have a1 := fr.kp p _ eH2 p4
              have a2 := fr.un p _ eH2 p4 eI2
              have a3 : fadd f' g' p = 0 := by
                by_cases z : fadd f' g' p = 0
                · exact z
                · rcases fr.nw p z with r | r
                  · exact absurd p4 r
                  · rw [eH2] at r; cases r
              refine ⟨a1, a2, by simp at a3; omega, by simp at a3; omega, ?_⟩
              have w := fr.with (g := one1 p)
              exact (fr4.trans w).imp fun z => by cases z
            have agB : ∀ {vs' : List V}, Agr B vs4 vs' → Agr (A ++ B) vs vs' := fun {vs'} ag j hj => by
              rw [ag j fun z => hj (List.mem_append_right _ z)]; exact agA j hj
            cases eb : b E4 with
            | nx E' =>
              rw [eb] at h2'
              intro σ' vs' I' H' f' s' ag fr
              obtain ⟨b1, b2, b3, _, b5⟩ := side (g' := z0) (fr.less fun a z => by simpa using z)
              exact ⟨I', E', vs', f', s', b5.less fun a z => by simp at z ⊢; omega, agB ag, b1, b2, b3, h2'⟩
            | ct E' =>
              rw [eb] at h2'
              intro σ' vs' I' H' f' s' ag fr
              obtain ⟨b1, b2, b3, _, b5⟩ := side (g' := z0) (fr.less fun a z => by simpa using z)
              exact ⟨I', E', vs', f', s', b5.less fun a z => by simp at z ⊢; omega, agB ag, b1, b2, b3, h2'⟩
            | bk E' =>
              rw [eb] at h2'
              intro σ' vs' I' H' f' s' ag fr
              obtain ⟨b1, b2, b3, _, b5⟩ := side (g' := z0) (fr.less fun a z => by simpa using z)
              have h3 : AnsS G W (A ++ B) I H f vs D (match E'[i]? with
                | some .lent => S.nx (E'.set i (.nd (.lst true) ds))
                | _ => S.bad) := h2'
              split at h3
              · rename_i el
                have x3 : Rps G I' H' ds ws z0 := x2.up fr.im
                obtain ⟨f5, s5, le5⟩ := restore s' el (evi (agB ag)) b1 b2 b3 x3
                exact h3 σ' vs' I' H' f5 s5 (agB ag) (b5.cut fun a => by have := le5 a; simp; omega)
              · exact h3.elim
            | rt cc E' =>
              rw [eb] at h2'
              intro vv σ' vs' I' H' f' g' s' ag yv nn fr
              obtain ⟨b1, b2, b3, b4, b5⟩ := side fr
              exact h2' vv σ' vs' I' H' f' g' s' (agB ag) yv nn (b5.cut fun a => by simp)
            | exc cc fs E' =>
              rw [eb] at h2'
              intro cls dd σ' vs' I' H' f' s' ag xa fr
              obtain ⟨b1, b2, b3, _, b5⟩ := side (g' := z0) (fr.less fun a z => by simpa using z)
              exact h2' cls dd σ' vs' I' H' f' s' (agB ag) xa (b5.cut fun a => by simp)
            | bad => rw [eb] at h2'; exact h2'.elim
          · exact h2'.elim
      · have e : n = ds.length := by omega
        subst e
        rw [List.drop_length] at h2
        refine .inl ⟨⟨ws, SqL.of eH2, by omega⟩, ?_⟩
        have h3 : AnsS G W (A ++ B) I H f vs D (match E2[i]? with
          | some .lent => S.nx (E2.set i (.nd (.lst true) ds))
          | _ => S.bad) := h2
        split at h3
        · rename_i el
          obtain ⟨f5, s5, le5⟩ := restore s2 el (evi ag2) eH2 eI2 p2 x2
          exact h3 σ2 vs2 I2 H2 f5 s5 ag2 (fr2.cut fun a => by have := le5 a; simp; omega)
        · exact h3.elim
    · exact hh.elim
  · exact hh.elim
end
end DL

end
section
set_option maxRecDepth 100000
/-! DL, part 15: short words for the printed walks. -/
namespace DL
open PySem PySem.Spec PyProof.Rows L2

abbrev fLt : List D → Option D := fCmp (fun i j => decide (i < j)) (fun i j => decide (i < j))
abbrev fLe : List D → Option D := fCmp (fun i j => decide (i ≤ j)) (fun i j => !decide (j < i))
abbrev fGt : List D → Option D := fCmp (fun i j => decide (j < i)) (fun i j => decide (j < i))
abbrev fGe : List D → Option D := fCmp (fun i j => decide (j ≤ i)) (fun i j => !decide (i < j))
theorem bt_len : bootBuiltins "len" = some (.builtin "len") := by decide +kernel
theorem bt_sum : bootBuiltins "sum" = some (.builtin "sum") := by decide +kernel
theorem bt_all : bootBuiltins "all" = some (.builtin "all") := by decide +kernel
theorem bt_any : bootBuiltins "any" = some (.builtin "any") := by decide +kernel
theorem bt_max : bootBuiltins "max" = some (.builtin "max") := by decide +kernel
theorem bt_min : bootBuiltins "min" = some (.builtin "min") := by decide +kernel
theorem bt_abs : bootBuiltins "abs" = some (.builtin "abs") := by decide +kernel
theorem bt_divmod : bootBuiltins "divmod" = some (.builtin "divmod") := by decide +kernel
theorem bt_isinstance : bootBuiltins "isinstance" = some (.builtin "isinstance") := by decide +kernel
theorem bt_sorted : bootBuiltins "sorted" = some (.builtin "sorted") := by decide +kernel
theorem bt_list : bootBuiltins "list" = some (.type "list") := by decide +kernel
theorem bt_tuple : bootBuiltins "tuple" = some (.type "tuple") := by decide +kernel
theorem bt_int : bootBuiltins "int" = some (.type "int") := by decide +kernel
theorem bt_str : bootBuiltins "str" = some (.type "str") := by decide +kernel
theorem bt_bool : bootBuiltins "bool" = some (.type "bool") := by decide +kernel
theorem bt_dict : bootBuiltins "dict" = some (.type "dict") := by decide +kernel
section
variable {X : Cx} {G : Gm} {W : WX} {p : Bool} {a e : Expr} {d : Den} {pos : Pos}
theorem call_intX : CallR X (.type "int") rIntX := call_int1.or call_int_str
theorem jgi {x : Str} {n : Int} (h : ∃ t, X.mg x = some (.int n t)) (hg : Gl X x := by rfl) (hd : (x == ("__debug__" : Str)) = false := by decide) : JE X G W true (.Name x pos) (rC (.int n)) := by
  obtain ⟨t, h⟩ := h
  exact PE_imp (pe_glob (v := .int n) hg h ⟨_, rfl⟩ hd) t_c
theorem jgs {x : Str} {n : Str} (h : ∃ t, X.mg x = some (.str n t)) (hg : Gl X x := by rfl) (hd : (x == ("__debug__" : Str)) = false := by decide) : JE X G W true (.Name x pos) (rC (.str n)) := by
  obtain ⟨t, h⟩ := h
  exact PE_imp (pe_glob (v := .str n) hg h ⟨_, rfl⟩ hd) t_c
theorem jnever {s : Stmt} : JS X G W [] s dNever := PS_imp ps_never t_never
theorem jcall0 {CX : CXT} {k : Nat} {f : Addr} {fd : FuncData} {ps : List Str} {F : Fn} {Ex : XK} {x : Str} {q : Pos} (hx : Passes CX X Ex) (hE : ∀ cls d σ H, W cls d σ H → Ex cls d H) (ok : FnOk X.prog X.w X.K X.mg X.base CX k f fd ps (spOf G F)) (hr : Room k X.A) (hm : X.mg x = some (.ref f))
    (hk : PySem.W.keepIn X.K (.ref f) = true) (hb : Binds X.K fd ps []) (hg : Gl X x := by rfl) (hdb : (x == ("__debug__" : Str)) = false := by decide) : JE X G W false (.Call (.Name x q) [] [] pos) (dCall F aNil) :=
  PE_imp (pe_call0 ok hr hg hm hk hb .nil hx hdb) (t_call hE t_anil)
end
theorem jforB {X : Cx} {G : Gm} {W : WX} {A B : List Nat} {ss : List Stmt} {ds : DenS} {pos q : Pos} {tg : Expr} {g : TG} {dg : DenG} (i : Nat) {x : Str} (hi : i ∉ A ++ B) (hp : PassesOwn (model X.prog X.w) X.A X.env X.xe) (hg : PG X tg g) (ht : TgS G A g dg) (hb : JB X G W B ss ds)
    (hN : X.N[i]? = some x := by rfl) (hv : Vis X.env.scope x := by first | exact Or.inl rfl | exact Or.inr (Or.inl rfl) | exact Or.inr (Or.inr rfl)) (hd : (x == ("__debug__" : Str)) = false := by decide) (hcd : (x == ("__classdict__" : Str)) = false := by decide)
    (hc : X.calm = true := by rfl) (hs : ∀ y, foldedSetIterable (.Name x q) X.env y = pure y := by intro _; rfl) : JS X G W (A ++ B) (.For tg (.Name x q) ss [] pos) (dForB i dg ds) :=
  PS_imp (ps_for hp hc (pi_list (pv i hN hv hd hcd)) hg hb hs) (t_forB hi ht (fun _ _ _ h => h))
/-- the law's promise from its mirror -/
theorem ok_script {P : Program} {w : World} {K : PySem.W.Frag} {mg : Str → Option Value} {base : Heap} {k : Nat} {f : Addr} {fd : FuncData} {ps : List Str} {cls : Nat → Addr} {F : Fn} {C : List Int → Prop} (ok : FnOk P w K mg base (L2N.CX P w) k f fd ps (spOf ⟨cls, K⟩ F))
    (h : ∀ ns : List Int, ns.length ≤ 63 → C ns → ∃ r, F [.kl ns] = .ok (.sc (.bl true), r)) :
    FnOk P w K mg base (L2N.CX P w) k f fd ps (fun vs H Q _ => ∃ (a : Addr) (ns : List Int), vs = [.ref a] ∧ SqL K H a (ns.map V.int) ∧ ns.length ≤ 63 ∧ C ns ∧ ∀ H', Q (.bl true) H') :=
  ok.imp fun vs H Q E hh => by
    obtain ⟨a, ns, rfl, hS, hl, hc, q⟩ := hh
    obtain ⟨r, e⟩ := h ns hl hc
    refine ⟨H, [.kl ns], z0, fun _ _ h => h, ⟨.ref a, [], z0, z0, rfl, ⟨⟨a, rfl, hS⟩, fun _ => rfl⟩, ⟨rfl, fun _ => rfl⟩, fun _ => rfl⟩, fun _ => Nat.zero_le _, ?_⟩
    rw [e]
    intro v I' H' g g' _ _ hv _ _
    obtain ⟨rfl, _⟩ := hv
    exact q H'
end DL

end
section
set_option maxRecDepth 100000
/-! DL: names that are not read again are forgotten. -/
namespace DL
open PySem PySem.Spec PyProof.Rows L2
def killL : List Nat → List D → List D
  | [], E => E
  | w :: ws, E => killL ws (E.set w .una)
def S.kill (ws : List Nat) : S → S
  | .nx E => .nx (killL ws E)
  | s => s
def dKill (ws : List Nat) (b : DenS) : DenS := fun E => (b E).kill ws
def dBrkK (ws : List Nat) : DenS := fun E => .bk (killL ws E)
def dCntK (ws : List Nat) : DenS := fun E => .ct (killL ws E)
section
variable {G : Gm} {W : WX} {A : List Nat}
theorem Stt.forget1 {σ : L2.St} {I H : Hp} {E : List D} {vs : List V} {f : Ft} (w : Nat) (s : Stt G σ I H E vs f) : ∃ f', Stt G σ I H (E.set w .una) vs f' ∧ ∀ a, f' a ≤ f a := by
  by_cases hw : w < E.length
  · obtain ⟨v, g, h1, ev, y, q, k⟩ := s.rp.get (List.getElem?_eq_getElem hw)
    have k' := k (I' := I) (H' := H) (d' := .una) (v' := v) (g' := z0) (fun _ _ e => e) (fun _ => rfl) fun a z => ⟨(s.rp.trk a (by have := q a; omega)).1, rfl⟩
    have evs : vs.set w v = vs := by
      obtain ⟨hl, e2⟩ := List.getElem?_eq_some_iff.mp ev
      rw [← e2, List.set_getElem_self]
    rw [evs] at k'
    refine ⟨fadd z0 h1, ⟨⟨by simp [s.sl.1], fun j d' v' e1 n1 e2 => ?_⟩, s.sm, k', fun a => by have := q a; have := s.nd a; simp; omega⟩, fun a => by have := q a; simp; omega⟩
    by_cases hj : w = j
    · subst hj
      rw [List.getElem?_set_self hw] at e1
      cases e1; exact absurd rfl n1
    · rw [List.getElem?_set_ne hj] at e1
      exact s.sl.2 j d' v' e1 n1 e2
  · rw [List.set_eq_of_length_le (by omega)]
    exact ⟨f, s, fun a => Nat.le_refl _⟩
theorem Stt.forget {σ : L2.St} {I H : Hp} {vs : List V} : ∀ {ws : List Nat} {E : List D} {f : Ft}, Stt G σ I H E vs f → ∃ f', Stt G σ I H (killL ws E) vs f' ∧ ∀ a, f' a ≤ f a
  | [], E, f, s => ⟨f, s, fun a => Nat.le_refl _⟩
  | w :: ws, E, f, s => by
    obtain ⟨f1, s1, l1⟩ := s.forget1 w
    obtain ⟨f2, s2, l2⟩ := Stt.forget (ws := ws) s1
    exact ⟨f2, s2, fun a => Nat.le_trans (l2 a) (l1 a)⟩
theorem AnsS.kill {I H : Hp} {f : Ft} {vs : List V} {En : Ends} {ws : List Nat} {s : S} (h : AnsS G W A I H f vs En (s.kill ws)) : AnsS G W A I H f vs En s := by
  cases s with
  | nx E =>
    intro σ' vs' I' H' f' s ag fr
    obtain ⟨f2, s2, le⟩ := s.forget (ws := ws)
    exact h σ' vs' I' H' f2 s2 ag (fr.less fun x z => by have := le x; omega)
  | bk E => exact h
  | ct E => exact h
  | rt d E => exact h
  | exc c fs E => exact h
  | bad => exact h
variable {t : TS} {d : DenS}
theorem t_kill {ws : List Nat} (h : ∀ D σ H, tS G W A d D σ H → t D σ H) : ∀ D σ H, tS G W A (dKill ws d) D σ H → t D σ H := by
  rintro D σ H ⟨I, E, vs, f, s, hh⟩
  exact h D σ H ⟨I, E, vs, f, s, AnsS.kill hh⟩
theorem t_brkK {ws : List Nat} : ∀ D σ H, tS G W [] (dBrkK ws) D σ H → tBreak D σ H := by
  rintro D σ H ⟨I, E, vs, f, s, h⟩
  obtain ⟨f2, s2, le⟩ := s.forget (ws := ws)
  exact h σ vs I H f2 s2 Agr.refl (Fr.refl.less fun x z => by have := le x; omega)
theorem t_cntK {ws : List Nat} : ∀ D σ H, tS G W [] (dCntK ws) D σ H → tCont D σ H := by
  rintro D σ H ⟨I, E, vs, f, s, h⟩
  obtain ⟨f2, s2, le⟩ := s.forget (ws := ws)
  exact h σ vs I H f2 s2 Agr.refl (Fr.refl.less fun x z => by have := le x; omega)
end
section
variable {X : Cx} {G : Gm} {W : WX} {A : List Nat} {s : Stmt} {d : DenS} {pos : Pos}
theorem jbrkK (ws : List Nat) : JS X G W [] (.Break pos) (dBrkK ws) := PS_imp ps_break t_brkK
theorem jcntK (ws : List Nat) : JS X G W [] (.Continue pos) (dCntK ws) := PS_imp ps_continue t_cntK
theorem jkill (ws : List Nat) (h : JS X G W A s d) : JS X G W A s (dKill ws d) := PS_imp h (t_kill fun _ _ _ h => h)
end
end DL

end
section
set_option maxRecDepth 100000
/-! DL: sorted. -/
namespace DL
open PySem PySem.Spec PyProof.Rows L2
def rSortedD (K : PySem.W.Frag) : List V → Hp → VK → Prop := fun vs H Q => ∃ (a : Addr) (bs : List (V × PyData)), vs = [.ref a] ∧ SqL K H a (bs.map (·.1)) ∧ DpAll K H (bs.map (·.1)) (bs.map (·.2)) ∧ PySem.W.AllAlike (bs.map (·.2)) ∧ PySem.W.Sortable (bs.map (·.2)) ∧ (∀ b ∈ bs, b.2.depth ≤ 60) ∧
  ∀ p, H p = none → Q (.ref p) (upd H p (.lst ((bs.mergeSort (PySem.W.dataLe false (·.2))).map (·.1))))
theorem each_vals : ∀ {bs : List (V × PyData)} {us : List Value}, Vals (bs.map (·.1)) us → PySem.W.EachIs (fun v (b : V × PyData) => RelV b.1 v) us bs
  | [], us, h => by
    have h' : Vals [] us := h
    cases h'; exact .nil
  | b :: bs, us, h => by
    have h' : Vals (b.1 :: bs.map (·.1)) us := h
    cases h' with
    | cons r t => exact .cons r (each_vals t)
theorem vals_each : ∀ {bs : List (V × PyData)} {us : List Value}, PySem.W.EachIs (fun v (b : V × PyData) => RelV b.1 v) us bs → Vals (bs.map (·.1)) us
  | [], _, .nil => .nil
  | b :: bs, _, .cons r t => .cons r (vals_each t)
theorem cr_sortedD {X : Cx} (hu : X.A.units + 64 < cLine) : CallR X (.builtin "sorted") (rSortedD X.K) := by
  intro pins s σ H vs us Q I r h
  obtain ⟨a, bs, rfl, hs, hd, al, so, dp, q⟩ := h
  obtain ⟨its, rv, hl, hz⟩ := I.list hs
  rw [Vals.ref1 r]
  have e := each_vals rv
  obtain ⟨as, hr⟩ := Dp.readsAll I _ _ _ hd rv
  have er : PySem.W.EachIs (fun v (b : V × PyData) => ∃ as, Reads s.heap v b.2 as) its bs := PySem.W.readsAll_each (fun (b : V × PyData) => b.2) hr
  refine PySem.W.sorted_data (vs := its) (bs := bs) (enc := fun (b : V × PyData) => b.2) hl.isList e er al so (by simpa using hz) (fun b hb => by have := dp b hb; omega) fun out ho eo => ?_
  obtain ⟨n, hn⟩ := sortedAll_at s.heap its out.toArray
  refine ⟨.ref (s.heap.objs.size + 1), upd H (s.heap.objs.size + 1) (.lst ((bs.mergeSort (PySem.W.dataLe false (·.2))).map (·.1))), I.laid (t' := s.toks) (fun b u q => sortedAll_old q) (Nat.le_succ _) ⟨?_, out, n, vals_each eo, hn⟩, rfl, q _ (I.hok.fresh (Nat.le_succ _))⟩
  rw [List.length_map, List.length_mergeSort]
  simpa using hz
def leD (a b : D) : Bool := PySem.W.dataLe false toP a b
open Classical in
noncomputable def srtOk (ds : List D) : Bool := decide (PySem.W.AllAlike (ds.map toP) ∧ PySem.W.Sortable (ds.map toP) ∧ ds.all (lay 60) = true)
noncomputable def fSorted : List D → Option D
  | [.nd (.lst _) ds] => if Fzs ds && srtOk ds then some (.nd (.lst true) (ds.mergeSort leD)) else none
  | _ => none
section
variable {G : Gm} {I H : Hp}
theorem Rps.zips : ∀ {ds : List D} {ws : List V}, Rps G I H ds ws z0 → ∀ p ∈ ds.zip ws, Rp G I H p.1 p.2 z0
  | [], ws, x, p, hp => by simp at hp
  | d :: ds, ws, x, p, hp => by
    obtain ⟨v, vs, g, h, rfl, y, z, q⟩ := x
    have hg : ∀ a, g a = 0 := fun a => by have := q a; simp at this; omega
    have hh : ∀ a, h a = 0 := fun a => by have := q a; simp at this; omega
    rw [List.zip_cons_cons] at hp
    rcases List.mem_cons.mp hp with rfl | hp
    · exact y.eqv hg
    · exact Rps.zips (z.eqv hh) p hp
theorem Rps.of_zips : ∀ {ts : List (D × V)}, (∀ p ∈ ts, Rp G I H p.1 p.2 z0) → Rps G I H (ts.map (·.1)) (ts.map (·.2)) z0
  | [], _ => ⟨rfl, fun _ => rfl⟩
  | t :: ts, h => ⟨t.2, _, z0, z0, rfl, h t List.mem_cons_self, Rps.of_zips fun p hp => h p (List.mem_cons_of_mem _ hp), fun _ => rfl⟩
end
theorem dpAll_of {K : PySem.W.Frag} {H : Hp} : ∀ {ts : List (D × V)}, (∀ p ∈ ts, Dp K H p.2 (toP p.1)) → DpAll K H (ts.map (·.2)) (ts.map fun t => toP t.1)
  | [], _ => .nil
  | t :: ts, h => .cons (h t List.mem_cons_self) (dpAll_of fun p hp => h p (List.mem_cons_of_mem _ hp))
theorem os_sorted {G : Gm} : OpS G (rSortedD G.K) fSorted := by
  intro I H ds ws d sm x e Q k
  unfold fSorted at e
  split at e
  · rename_i m ds
    split at e
    · rename_i hc
      cases e
      simp only [Bool.and_eq_true] at hc
      obtain ⟨hf, hok⟩ := hc
      have hok : PySem.W.AllAlike (ds.map toP) ∧ PySem.W.Sortable (ds.map toP) ∧ ds.all (lay 60) = true := by unfold srtOk at hok; exact @of_decide_eq_true _ (_) hok
      obtain ⟨al, so, hl⟩ := hok
      obtain ⟨v, g, rfl, y, _⟩ := x.one
      obtain ⟨p, ws, g1, ob, rfl, st, eH, r, hlen⟩ := Rp.node sm y
      cases st
      have r0 : Rps G I H ds ws z0 := r.cold (by rw [← Fzs_all]; exact hf)
      have hz := r0.zips
      have e1 : (ds.zip ws).map (·.1) = ds := List.map_fst_zip (by omega)
      have e2 : (ds.zip ws).map (·.2) = ws := List.map_snd_zip (by omega)
      have eb1 : ((ds.zip ws).map fun t => (t.2, toP t.1)).map (·.1) = ws := by rw [List.map_map]; exact e2
      have eb2 : ((ds.zip ws).map fun t => (t.2, toP t.1)).map (·.2) = ds.map toP := by
        rw [List.map_map]
        have : ((fun (x : V × PyData) => x.2) ∘ fun (t : D × V) => (t.2, toP t.1)) = toP ∘ (·.1) := rfl
        rw [this, ← List.map_map, e1]
      have hmem : ∀ t ∈ ds.zip ws, lay 60 t.1 = true := fun t ht => List.all_eq_true.mp hl _ (by
        have : t.1 ∈ (ds.zip ws).map (·.1) := List.mem_map_of_mem ht
        rw [e1] at this; exact this)
      refine ⟨p, (ds.zip ws).map fun t => (t.2, toP t.1), rfl, by rw [eb1]; exact SqL.of eH, ?_, by rw [eb2]; exact al, by rw [eb2]; exact so, fun b hb => ?_, fun p2 np => ?_⟩
      · rw [eb1, eb2]
        have := dpAll_of (K := G.K) (H := H) (ts := ds.zip ws) fun t ht => dp_of sm (hmem t ht) (hz t ht)
        rw [e2] at this
        have e3 : ((ds.zip ws).map fun t => toP t.1) = ds.map toP := by
          have : (fun (t : D × V) => toP t.1) = toP ∘ (·.1) := rfl
          rw [this, ← List.map_map, e1]
        rw [e3] at this
        exact this
      · obtain ⟨t, ht, rfl⟩ := List.mem_map.mp hb
        exact (lay_ok (hmem t ht)).2
      · have es : (((ds.zip ws).map fun t => (t.2, toP t.1)).mergeSort (PySem.W.dataLe false (·.2))) = ((ds.zip ws).mergeSort fun a b => leD a.1 b.1).map fun t => (t.2, toP t.1) :=
          (List.map_mergeSort (r := fun (a b : D × V) => leD a.1 b.1) (s := PySem.W.dataLe false fun (x : V × PyData) => x.2) (f := fun (t : D × V) => (t.2, toP t.1)) (l := ds.zip ws) fun a _ b _ => rfl).symm
        have ed : ds.mergeSort leD = ((ds.zip ws).mergeSort fun a b => leD a.1 b.1).map (·.1) := by
          rw [List.map_mergeSort (s := leD) fun a _ b _ => rfl, e1]
        rw [es, List.map_map]
        rw [ed] at k
        have r2 : Rps G I H (((ds.zip ws).mergeSort fun a b => leD a.1 b.1).map (·.1)) (((ds.zip ws).mergeSort fun a b => leD a.1 b.1).map (·.2)) z0 := Rps.of_zips fun t ht => hz t ((List.mergeSort_perm _ _).mem_iff.mp ht)
        exact fin_lst sm r2 np k
    · cases e
  · cases e
end DL

end
section
set_option maxRecDepth 100000
/-! DL: enumerate, zip. -/
namespace DL
open PySem PySem.Spec PyProof.Rows L2
theorem enum_at : ∀ {ds : List D} {k i : Nat}, (enumFrom k ds)[i]? = (ds[i]?).map fun d => .nd .tup [.sc (.int ((k + i : Nat) : Int)), d]
  | [], k, i => by simp [enumFrom]
  | d :: ds, k, 0 => by simp [enumFrom]
  | d :: ds, k, i + 1 => by
    show (enumFrom (k + 1) ds)[i]? = _
    rw [enum_at]
    have : k + 1 + i = k + (i + 1) := by omega
    rw [this]; rfl
theorem zip_at : ∀ {ds es : List D} {i : Nat}, (zipD ds es)[i]? = match ds[i]?, es[i]? with
    | some d, some e => some (.nd .tup [d, e])
    | _, _ => none
  | [], es, i => by simp [zipD]
  | d :: ds, [], i => by
    show ([] : List D)[i]? = _
    cases h : (d :: ds)[i]? <;> simp
  | d :: ds, e :: es, 0 => rfl
  | d :: ds, e :: es, i + 1 => by
    show (zipD ds es)[i]? = _
    rw [zip_at]; rfl
section
variable {G : Gm} {W : WX} {pu : Bool} {das : DenA} {ta : TA}
theorem pair_new {I H : Hp} {T : Addr} {d e : D} {v w : V} (sm : ∀ a o, I a = some o → H a = some o) (n : H T = none) (x : Rp G I H d v z0) (y : Rp G I H e w z0) : Nw I H (upd I T (.tup [v, w])) (upd H T (.tup [v, w])) ∧ Rp G (upd I T (.tup [v, w])) (upd H T (.tup [v, w])) (.nd .tup [d, e]) (.ref T) z0 := by
  have r : Rps G I H [d, e] [v, w] z0 := ⟨v, [w], z0, z0, rfl, x, ⟨w, [], z0, z0, rfl, y, ⟨rfl, fun _ => rfl⟩, fun _ => rfl⟩, fun _ => rfl⟩
  exact ⟨Nw.fixP sm n, new_fix sm n rfl rfl r⟩
theorem walk_enum {K : PySem.W.Frag} {I H : Hp} {p : Addr} {ds : List D} {ws : List V} (e : I p = some (.lst ws)) (x : Rps G I H ds ws z0) : Walk G I (Ite K p) (enumFrom 0 ds) := by
  intro i I1 H1 a b
  have sq : SqL K H1 p ws := SqL.of (b _ _ (a _ _ e))
  rw [enum_at]
  refine ⟨fun d ed => ?_, fun hl => ⟨ws, sq, by rw [x.len]; cases h : ds[i]? with
    | none => exact List.getElem?_eq_none_iff.mp h
    | some d => 
      have := (List.getElem?_eq_some_iff.mp h).1
      have hl2 : (enumFrom 0 ds).length = ds.length := by
        have : ∀ (ds : List D) (k : Nat), (enumFrom k ds).length = ds.length := by
          intro ds; induction ds with
          | nil => intro k; rfl
          | cons d ds ih => intro k; simp [enumFrom, ih]
        exact this ds 0
      omega⟩⟩
  cases ec : ds[i]? with
  | none => rw [ec] at ed; cases ed
  | some c =>
    rw [ec] at ed; cases ed
    obtain ⟨v, ev, y⟩ := x.get0 ec
    refine ⟨⟨ws, v, sq, ev⟩, fun w H' q => ?_⟩
    obtain ⟨T, u, rfl, nT, rfl, q⟩ := q
    have := q ws sq
    rw [ev] at this; cases this
    have h0 : (0 + i : Nat) = i := by omega
    rw [h0]
    have z := pair_new (T := T) b nT (show Rp G I1 H1 (.sc (.int (i : Nat))) (.int (i : Nat)) z0 from ⟨rfl, fun _ => rfl⟩) (y.up a)
    exact ⟨_, z.1, z.2⟩
theorem walk_zip {K : PySem.W.Frag} {I H : Hp} {p q : Addr} {ds es : List D} {ws us : List V} (e : I p = some (.lst ws)) (x : Rps G I H ds ws z0) (e2 : I q = some (.lst us)) (x2 : Rps G I H es us z0) : Walk G I (Itz K p q) (zipD ds es) := by
  intro i I1 H1 a b
  have sq : SqL K H1 p ws := SqL.of (b _ _ (a _ _ e))
  have sq2 : SqL K H1 q us := SqL.of (b _ _ (a _ _ e2))
  rw [zip_at]
  refine ⟨fun d ed => ?_, fun hl => ⟨ws, us, sq, sq2, ?_⟩⟩
  · cases ec : ds[i]? with
    | none => rw [ec] at ed; cases ed
    | some c =>
      cases ec2 : es[i]? with
      | none => rw [ec, ec2] at ed; cases ed
      | some c2 =>
        rw [ec, ec2] at ed; cases ed
        obtain ⟨v, ev, y⟩ := x.get0 ec
        obtain ⟨v2, ev2, y2⟩ := x2.get0 ec2
        refine ⟨⟨ws, us, v, v2, sq, sq2, ev, ev2⟩, fun w H' qq => ?_⟩
        obtain ⟨T, u, u2, rfl, nT, rfl, q1, q2⟩ := qq
        have h1 := q1 ws sq
        rw [ev] at h1; cases h1
        have h2 := q2 us sq2
        rw [ev2] at h2; cases h2
        have z := pair_new (T := T) b nT (y.up a) (y2.up a)
        exact ⟨_, z.1, z.2⟩
  · have hl2 : ∀ (ds es : List D), (zipD ds es).length ≤ i → ds.length ≤ i ∨ es.length ≤ i := by
      intro ds es h
      by_cases h1 : ds.length ≤ i
      · exact .inl h1
      · by_cases h2 : es.length ≤ i
        · exact .inr h2
        · exfalso
          have a1 := zip_at (ds := ds) (es := es) (i := i)
          rw [List.getElem?_eq_getElem (show i < ds.length by omega), List.getElem?_eq_getElem (show i < es.length by omega)] at a1
          have := (List.getElem?_eq_some_iff.mp a1).1
          omega
    rw [x.len, x2.len]
    exact hl2 _ _ hl
/-- enumerate(xs) -/
def dEnum (das : DenA) : DenI := fun E => (das E).bind fun r => match r.1 with
  | [.val (.nd (.lst _) ds)] => .ok (enumFrom 0 (fzs ds), r.2)
  | _ => .bad
def dZip (das : DenA) : DenI := fun E => (das E).bind fun r => match r.1 with
  | [.val (.nd (.lst _) ds), .val (.nd (.lst _) es)] => .ok (zipD (fzs ds) (fzs es), r.2)
  | _ => .bad
theorem t_enum (ha : ∀ σ H Q, tA G W pu das σ H Q → ta σ H Q) : ∀ σ H Q, tI G W (dEnum das) σ H Q → iEnum G.K ta σ H Q := by
  rintro σ H Q ⟨I, E, vs, f, s, hh⟩
  refine ha _ _ _ ⟨I, E, vs, f, s, hh.fst fun r er h => ?_⟩
  intro ws I' H' f' g s' o n fr e
  split at h
  · rename_i os m ds eo
    obtain ⟨os, E1⟩ := r
    dsimp only at eo
    subst eo
    obtain ⟨v, vr, g1, g2, rfl, y, z, q⟩ := o
    obtain ⟨rfl, hg2⟩ := z
    have hq : ∀ a, g a = g1 a := fun a => by rw [q a, hg2 a]; rfl
    obtain ⟨I2, p, ws2, ob, s2, rfl, eI, st, x, fr2⟩ := cool_nd s' y (fun a => by have := n a; rw [hq a] at this; exact this)
    cases st
    refine ⟨p, ws2, rfl, SqL.of (s2.sm _ _ eI), ?_⟩
    have fr1 : Fr pu I H f I' H' (fadd f' g1) := fr.less fun a z => by have := hq a; simp at z ⊢; omega
    exact h (Ite G.K p) I2 H' f' s2 ((fr1.trans fr2).imp fun z => by cases z) (walk_enum eI x)
  · exact h.elim
theorem t_zip (ha : ∀ σ H Q, tA G W pu das σ H Q → ta σ H Q) : ∀ σ H Q, tI G W (dZip das) σ H Q → iZip G.K ta σ H Q := by
  rintro σ H Q ⟨I, E, vs, f, s, hh⟩
  refine ha _ _ _ ⟨I, E, vs, f, s, hh.fst fun r er h => ?_⟩
  intro ws I' H' f' g s' o n fr e
  split at h
  · rename_i os m ds m2 es eo
    obtain ⟨os, E1⟩ := r
    dsimp only at eo
    subst eo
    obtain ⟨v, vr, g1, g2, rfl, y, z, q⟩ := o
    obtain ⟨v2, vr2, g3, g4, rfl, y2, z2, q2⟩ := z
    obtain ⟨rfl, hg4⟩ := z2
    have hq : ∀ a, g a = g1 a + g3 a := fun a => by have := q a; have := q2 a; have := hg4 a; omega
    have s' : Stt G σ I' H' E1 vs f' := s'
    have y2 : Rp G I' H' (.nd (.lst m2) es) v2 g3 := y2
    obtain ⟨I2, p, ws2, ob, s2, rfl, eI, st, x, fr2⟩ := cool_nd (f := fadd f' g3) (g := g1) (E := E1 ++ [.nd (.lst m2) es]) (vs := vs ++ [v2]) (σ := σ ++ [some v2]) ⟨⟨by simp [s'.sl.1], fun j d w e1 n1 e2 => by
        by_cases hj : j < E1.length
        · rw [List.getElem?_append_left hj] at e1
          rw [List.getElem?_append_left (by rw [s'.rp.len]; exact hj)] at e2
          rw [List.getElem?_append_left (by rw [s'.sl.1]; exact hj)]
          exact s'.sl.2 j d w e1 n1 e2
        · rw [List.getElem?_append_right (by rw [s'.rp.len]; omega), s'.rp.len] at e2
          rw [List.getElem?_append_right (by rw [s'.sl.1]; omega), s'.sl.1]
          cases hk : j - E1.length with
          | zero => rw [hk] at e2; simp at e2 ⊢; exact e2
          | succ k => rw [hk] at e2; simp at e2⟩, s'.sm, s'.rp.app (Rps.one y2), fun a => by have := n a; have := hq a; simp; omega⟩ y (fun a => by have := n a; have := hq a; simp; omega)
    cases st
    obtain ⟨v1, v3, ga, gb, ev, ra, rb, qab⟩ := s2.rp.split
    have hlen : v1.length = vs.length := by rw [ra.len, s'.rp.len]
    obtain ⟨rfl, rfl⟩ := List.append_inj ev hlen.symm
    obtain ⟨v4, v5, gc, gd, ev5, y4, z5, qc⟩ := rb
    obtain ⟨rfl, hgd⟩ := z5
    cases ev5
    have s3 : Stt G σ I2 H' E1 vs ga := ⟨s'.sl, s2.sm, ra, fun a => by have := s2.nd a; have := qab a; omega⟩
    obtain ⟨I3, p3, ws3, ob3, s4, rfl, eI3, st3, x3, fr3⟩ := cool_nd s3 y4 (fun a => by have h1 := s2.nd a; have h2 := qab a; have h3 := qc a; have h4 : gd a = 0 := hgd a; have h5 : fadd f' g3 a = f' a + g3 a := rfl; rw [h2] at h1; rw [h3, h4] at h1; exact h1)
    cases st3
    have eI' : I3 p = some (.lst ws2) := fr3.im _ _ eI
    refine ⟨p, p3, ws2, ws3, rfl, SqL.of (s4.sm _ _ eI'), SqL.of (s4.sm _ _ eI3), ?_⟩
    have fr1 : Fr pu I H f I' H' (fadd (fadd f' g3) g1) := fr.less fun a z => by have := hq a; simp at z ⊢; omega
    have fr4 := (fr1.trans fr2).less (f2 := fadd ga gc) fun a z => by have h1 := qab a; have h2 := qc a; rw [fadd_at] at z; intro h0; rw [h0] at h1; omega
    exact h (Itz G.K p p3) I3 H' ga s4 ((fr4.trans fr3).imp fun z => by simp at z) (walk_zip eI' (x.up fr3.im) eI3 x3)
  · exact h.elim
end
section
variable {X : Cx} {G : Gm} {W : WX} {p : Bool} {e e2 : Expr} {das : DenA} {pos tpos q : Pos} {elts : List Expr} {kk : Nat}
theorem jenum (hK : G.K = X.K) (hm : X.mg "enumerate" = none) (ha : JA X G W p [e] das) (hg : Gl X "enumerate" := by rfl) (hs : starEach [e] X.env = [(false, eval e X.env)] := by rfl) : JI X G W (.Tuple elts kk tpos) (.Call (.Name "enumerate" q) [e] [] pos) (dEnum das) := PI_imp (pi_enum hg hm ha hs) (hK ▸ t_enum fun _ _ _ h => h)
theorem jzip (hK : G.K = X.K) (hm : X.mg "zip" = none) (ha : JA X G W p [e, e2] das) (hg : Gl X "zip" := by rfl) (hs : starEach [e, e2] X.env = (false, eval e X.env) :: starEach [e2] X.env := by rfl) (hpl : (backTo pos (starEach [e2] X.env)).any (·.1) = false := by rfl) :
    JI X G W (.Tuple elts kk tpos) (.Call (.Name "zip" q) [e, e2] [] pos) (dZip das) := PI_imp (pi_zip hg hm ha hs hpl) (hK ▸ t_zip fun _ _ _ h => h)
end
end DL

end
section
set_option maxRecDepth 100000
/-! DL: a walk over a name's list, put aside where it is owned. -/
namespace DL
open PySem PySem.Spec PyProof.Rows L2
def dForX (i : Nat) (dg : DenG) (b : DenS) : DenS := fun E => match E[i]? with
  | some (.nd (.lst true) ds) => if ds.all Fz then putB i (.nd (.lst true) ds) (loopD dg b ds (E.set i .lent)) else .bad
  | _ => dFor (iSeq (dCopy (rName i))) dg b E
section
variable {G : Gm} {W : WX} {A B : List Nat} {g : TG} {t : TS} {dg : DenG} {b : DenS} {K : PySem.W.Frag} {wi : TI}
theorem t_forX {i : Nat} (hi : i ∉ A ++ B) (hg : TgS G A g dg) (h0 : ∀ σ H Q, tI G W (iSeq (dCopy (rName i))) σ H Q → wi σ H Q) (h1 : ∀ D σ H, tS G W B b D σ H → t D σ H) : ∀ D σ H, tS G W (A ++ B) (dForX i dg b) D σ H → tFor (fun σ H Q => iList K (tVar i) σ H Q ∨ wi σ H Q) g t D σ H := by
  rintro D σ H ⟨I, E, vs, f, s, hh⟩
  have hh0 := hh
  unfold dForX at hh
  split at hh
  · rename_i ds eE
    have hb : AnsS G W (A ++ B) I H f vs D (dForB i dg b E) := by unfold dForB; rw [eE]; exact hh
    exact .inl (t_forB (K := K) hi hg h1 D σ H ⟨I, E, vs, f, s, hb⟩)
  · exact .inr (t_for hg h0 h1 D σ H ⟨I, E, vs, f, s, hh⟩)
end
theorem jforX {X : Cx} {G : Gm} {W : WX} {A B : List Nat} {ss : List Stmt} {ds : DenS} {pos q : Pos} {tg : Expr} {g : TG} {dg : DenG} (i : Nat) {x : Str} (hi : i ∉ A ++ B) (hp : PassesOwn (model X.prog X.w) X.A X.env X.xe) (hg : PG X tg g) (ht : TgS G A g dg) (hb : JB X G W B ss ds)
    (hN : X.N[i]? = some x := by rfl) (hv : Vis X.env.scope x := by first | exact Or.inl rfl | exact Or.inr (Or.inl rfl) | exact Or.inr (Or.inr rfl)) (hd : (x == ("__debug__" : Str)) = false := by decide) (hcd : (x == ("__classdict__" : Str)) = false := by decide)
    (hc : X.calm = true := by rfl) (hs : ∀ y, foldedSetIterable (.Name x q) X.env y = pure y := by intro _; rfl) : JS X G W (A ++ B) (.For tg (.Name x q) ss [] pos) (dForX i dg ds) :=
  PS_imp (ps_for hp hc (PI_or (pi_list (pv i hN hv hd hcd)) (PI_or (PI_or (pi_list (jcp (G := G) (W := W) (jv i hN hv hd hcd))) (pi_tup (jcp (G := G) (W := W) (jv i hN hv hd hcd)))) (pi_str (jcp (G := G) (W := W) (jv i hN hv hd hcd))))) hg hb hs)
    (t_forX hi ht (t_iseq (fun _ _ _ h => h)) (fun _ _ _ h => h))
end DL

end
section
set_option maxRecDepth 100000
/-! DL: lists' clear, index, count. -/
namespace DL
open PySem PySem.Spec PyProof.Rows L2
theorem MtM.mr {X : Cx} {id : String} {r : V → List V → Hp → VK → Prop} (h : MtM X id r) : MtR X id r := h
def mClear : MutF := fun k ds as => match k, as with
  | .lst true, [] => some (.sc .non, .lst true, [])
  | _, _ => none
section
variable {G : Gm}
theorem ms_clear : MutS G rClear mClear := by
  intro I H k ds as q ws was ob g ga res k' ds' mu st eH sm z za nd em Q kk
  unfold mClear at em
  split at em
  · cases em; cases st
    obtain ⟨rfl, zz⟩ := za
    refine ⟨q, ws, rfl, rfl, eH, ?_⟩
    exact kk _ _ z0 .non z0 rfl rfl ⟨rfl, fun _ => rfl⟩ ⟨rfl, fun _ => rfl⟩ fun a => by simp
  · cases em
/-- the first place of an equal one -/
def ixD (c : D) (ds : List D) : Option Nat := ds.findIdx? fun z => PyData.eqv (toP z) (toP c)
def mIndex : MutF := fun k ds as => match k, as with
  | .lst true, [c] => if ds.all (lay 60) && lay 60 c then (ixD c ds).map fun j => (.sc (.int (j : Nat)), .lst true, ds) else none
  | _, _ => none
theorem same_back {I H : Hp} {q : Addr} {ws : List V} {ds : List D} {g : Ft} (eH : H q = some (.lst ws)) (z : Rps G I H ds ws g) : Rps G I (upd H q (.lst ws)) ds ws g := by
  have : upd H q (.lst ws) = H := funext fun a => by
    by_cases h : a = q
    · subst h; rw [upd_same, eH]
    · rw [upd_ne h]
  rw [this]; exact z
theorem upd_self {H : Hp} {q : Addr} {o : HO} (eH : H q = some o) : upd H q o = H := funext fun a => by
  by_cases h : a = q
  · subst h; rw [upd_same, eH]
  · rw [upd_ne h]
theorem dpAll_lay {K : PySem.W.Frag} {I H : Hp} {n : Nat} (sm : ∀ a o, I a = some o → H a = some o) : ∀ {ds : List D} {ws : List V} {g : Ft}, ds.all (lay n) = true → Rps G I H ds ws g → DpAll K H ws (toPs ds)
  | ds, ws, g, h, x => dp_all (n := n) (fun d hd v f y => dp_of sm (List.all_eq_true.mp h d hd) y) x
theorem ms_index {K : PySem.W.Frag} : MutS G (rIndexD K) mIndex := by
  intro I H k ds as q ws was ob g ga res k' ds' mu st eH sm z za nd em Q kk
  unfold mIndex at em
  split at em
  · rename_i c
    split at em
    · rename_i hc
      simp only [Bool.and_eq_true] at hc
      cases ej : ixD c ds with
      | none => rw [ej] at em; cases em
      | some j =>
        rw [ej] at em; cases em; cases st
        obtain ⟨v, vr, g1, g2, rfl, y, ⟨rfl, zz⟩, qq⟩ := za
        obtain ⟨hj, he, hno⟩ := List.findIdx?_eq_some_iff_getElem.mp ej
        have lays : lay 61 (.nd (.lst true) ds) = true := by show (true && ds.all (lay 60)) = true; rw [hc.1]; rfl
        refine ⟨q, v, toP c, toPs ds, j, toP ds[j], rfl, rfl, .lst (SqL.of eH) (dpAll_lay sm hc.1 z), dp_of sm hc.2 y, shaped_of (by omega : 61 ≤ 64) lays, shaped_of (by omega : 60 ≤ 64) hc.2, ?_, he, fun m z' hm hz => ?_, ?_⟩
        · rw [toPs_map, List.getElem?_map, List.getElem?_eq_getElem hj]; rfl
        · rw [toPs_map, List.getElem?_map, List.getElem?_eq_getElem (by omega)] at hz
          cases hz
          have := hno m hm
          simpa using this
        · have := kk (.lst ws) ws g (.int (j : Nat)) z0 rfl rfl (same_back eH z) ⟨rfl, fun _ => rfl⟩ fun a => by simp
          rw [upd_self eH] at this
          exact this
    · cases em
  · cases em
def mCount : MutF := fun k ds as => match k, as with
  | .lst true, [.sc (.int i)] => (intsD ds).map fun ns => (.sc (.int (ns.count i : Nat)), .lst true, ds)
  | _, _ => none
theorem ms_count {K : PySem.W.Frag} : MutS G (rCntI K) mCount := by
  intro I H k ds as q ws was ob g ga res k' ds' mu st eH sm z za nd em Q kk
  unfold mCount at em
  split at em
  · rename_i i
    cases ei : intsD ds with
    | none => rw [ei] at em; cases em
    | some ns =>
      rw [ei] at em; cases em; cases st
      obtain ⟨v, vr, g1, g2, rfl, ⟨rfl, _⟩, ⟨rfl, zz⟩, qq⟩ := za
      have ew := ints_vals ei z
      refine ⟨q, ns, i, rfl, rfl, ew ▸ SqL.of eH, ?_⟩
      have := kk (.lst ws) ws g (.int (ns.count i : Nat)) z0 rfl rfl (same_back eH z) ⟨rfl, fun _ => rfl⟩ fun a => by simp
      rw [upd_self eH] at this
      exact this
  · cases em
end
theorem units65 {k : Nat} {A : Around} (r : Room k A) : A.units + 65 < cLine := by have := r.un; omega
theorem fn_bad {P : Program} {w : World} {K : PySem.W.Frag} {mg : Str → Option Value} {base : Heap} {CX : CXT} {k : Nat} {f : Addr} {fd : FuncData} {ps : List Str} {G : Gm} : FnOk P w K mg base CX k f fd ps (spOf G fun _ => .bad) :=
  ⟨fun vs H Q E h => by obtain ⟨I, ds, f, _, _, _, h⟩ := h; exact h.elim, fun A outer s H args us vs Q E _ _ _ _ h => by obtain ⟨I, ds, f, _, _, _, h⟩ := h; exact h.elim⟩
theorem bt_enumerate : bootBuiltins "enumerate" = some (.type "enumerate") := by decide +kernel
end DL

end
section
set_option maxRecDepth 100000
/-! DL: three names at once; ranges with a step. -/
namespace DL
open PySem PySem.Spec PyProof.Rows L2
section
variable {G : Gm} {W : WX} {pu : Bool} {ta : TA} {das : DenA}
theorem t_par3 {i j l : Nat} (ha : ∀ σ H Q, tA G W pu das σ H Q → ta σ H Q) : ∀ D σ H, tS G W [i, j, l] (dPar [i, j, l] das) D σ H → tPar3 i j l ta D σ H := by
  rintro D σ H ⟨I, E, vs, f, s, hh⟩
  refine ha _ _ _ ⟨I, E, vs, f, s, Ans.of_S hh fun r er h => ?_⟩
  intro ws I' H' f' g1 s' o n fr e
  split at h
  · rename_i ds ed
    split at h
    · rename_i E' e'
      have x := o.vals ed
      have q := tg_names (Q := D.nx) s' x n e' fun σ' vs' f2 s2 ag le _ => h σ' vs' I' H' f2 s2 ag (fr.cut le)
      obtain ⟨v, r1, rfl, w, r2, rfl, u, r3, rfl, rfl, q⟩ := q
      exact ⟨v, w, u, rfl, q⟩
    · exact h.elim
  · exact h.elim
end
section
variable {X : Cx} {G : Gm} {W : WX} {p : Bool} {a b c : Expr} {das : DenA} {pos : Pos}
theorem jpar3 (i j l : Nat) {x y z : Str} {px py pz pt : Pos} {kt k2 : Nat} {pt2 : Pos} (hN : X.N.Nodup) (hij : i ≠ j) (hil : i ≠ l) (hjl : j ≠ l) (ha : JA X G W p [a, b, c] das)
    (hw : swappedStores [.Tuple [.Name x px, .Name y py, .Name z pz] kt pt] (.Tuple [a, b, c] k2 pt2) X.env = pure (some [x, y, z]))
    (hx : X.env.scope.names.lookup x = some .local := by rfl) (hy : X.env.scope.names.lookup y = some .local := by rfl) (hz : X.env.scope.names.lookup z = some .local := by rfl)
    (hi : X.N[i]? = some x := by rfl) (hj : X.N[j]? = some y := by rfl) (hl : X.N[l]? = some z := by rfl) (hc : X.calm = true := by rfl)
    (hs : swapsWithSole [.Tuple [.Name x px, .Name y py, .Name z pz] kt pt] (.Tuple [a, b, c] k2 pt2) pos.line X.env = pure false := by rfl) : JS X G W [i, j, l] (.Assign [.Tuple [.Name x px, .Name y py, .Name z pz] kt pt] (.Tuple [a, b, c] k2 pt2) pos) (dPar [i, j, l] das) :=
  PS_imp (ps_par3 hc hN hi hj hl hij hil hjl hx hy hz ha hw hs) (t_par3 (fun _ _ _ h => h))
end
end DL

end
section
set_option maxRecDepth 100000
/-! DL: a loop while some lists are put aside. -/
namespace DL
open PySem PySem.Spec PyProof.Rows L2
def onesL (L : List (Addr × List V)) : Ft := fun a => if L.any (fun x => x.1 == a) then 1 else 0
structure Sides (L : List (Addr × List V)) (I H : Hp) (f : Ft) : Prop where
  h : ∀ x ∈ L, H x.1 = some (.lst x.2)
  i : ∀ x ∈ L, I x.1 = none
  z : ∀ x ∈ L, f x.1 = 0
section
variable {G : Gm} {W : WX} {A B : List Nat} {g : TG} {t : TS} {dg : DenG} {b : DenS} {L : List (Addr × List V)}
theorem Sides.nw {I H I' H' : Hp} {f : Ft} (s : Sides L I H f) (n : Nw I H I' H') : Sides L I' H' f :=
  ⟨fun x hx => n.kp _ _ (s.h x hx), fun x hx => n.un _ _ (s.h x hx) (s.i x hx), s.z⟩
theorem Sides.le {I H : Hp} {f f' : Ft} (s : Sides L I H f) (h : ∀ a, f' a ≤ f a) : Sides L I H f' := ⟨s.h, s.i, fun x hx => by have := s.z x hx; have := h x.1; omega⟩
theorem Sides.fr {p : Bool} {I H I' H' : Hp} {f f' : Ft} (s : Sides L I H f) (fr : Fr p I H f I' H' f') : Sides L I' H' f' :=
  ⟨fun x hx => fr.kp _ _ (s.h x hx) (s.z x hx), fun x hx => fr.un _ _ (s.h x hx) (s.z x hx) (s.i x hx), fun x hx => by
    by_cases z : f' x.1 = 0
    · exact z
    · rcases fr.nw _ z with r | r
      · exact absurd (s.z x hx) r
      · rw [s.h x hx] at r; cases r⟩
/-- what an iterator yields as long as some lists stand -/
def WalkL (G : Gm) (I0 : Hp) (L : List (Addr × List V)) (J : It) (ds : List D) : Prop := ∀ (i : Nat) (I H : Hp), (∀ a o, I0 a = some o → I a = some o) → (∀ a o, I a = some o → H a = some o) → (∀ x ∈ L, H x.1 = some (.lst x.2)) →
  (∀ d, ds[i]? = some d → J.go i H ∧ ∀ x H', J.yld i H x H' → ∃ I', Nw I H I' H' ∧ Rp G I' H' d x z0) ∧ (ds.length ≤ i → J.stop i H)
/-- what follows a loop puts things back -/
structure Back (K : S → S) : Prop where
  rt : ∀ c E, K (.rt c E) = .rt c E
  exc : ∀ c fs E, K (.exc c fs E) = .exc c fs E
  bad : K .bad = .bad
theorem t_forL {J : It} {ds : List D} {K : S → S} (bk : Back K) (hg : TgS G A g dg) (h1 : ∀ D σ H, tS G W B b D σ H → t D σ H) {D : Ends} {σ : L2.St} {I H I0 H0 : Hp} {E : List DL.D} {vs : List V} {f f0 : Ft}
    (s0 : Stt G σ I0 H0 E vs f0) (fr0 : Fr false I H f I0 H0 (fadd f0 (onesL L))) (sd0 : Sides L I0 H0 f0) (wk : WalkL G I0 L J ds)
    (hK : ∀ E' σ' vs' I' H' f', Stt G σ' I' H' E' vs' f' → Agr (A ++ B) vs vs' → (∀ a o, I0 a = some o → I' a = some o) → Sides L I' H' f' → Fr false I H f I' H' (fadd f' (onesL L)) → AnsS G W (A ++ B) I H f vs D (K (.nx E')) → D.nx σ' H')
    (h : AnsS G W (A ++ B) I H f vs D (K (loopD dg b ds E))) :
    ∃ Wv : Nat → Nat → L2.St → Hp → Prop, (∃ m, Wv 0 m σ H0) ∧ ∀ i m σ H, Wv i m σ H → (J.stop i H ∧ D.nx σ H) ∨ (J.go i H ∧ ∃ N : L2.St → Hp → Prop, (∀ σ' H', N σ' H' → ∃ m', m' < m ∧ Wv (i + 1) m' σ' H') ∧ ∀ x H', J.yld i H x H' → g x σ H' fun σ2 H2 => t { D with nx := N, ct := N, bk := D.nx } σ2 H2) := by
  refine ⟨fun n m σ' H' => ∃ I' E' vs' f', m = ds.length - n ∧ n ≤ ds.length ∧ Stt G σ' I' H' E' vs' f' ∧ (∀ a o, I0 a = some o → I' a = some o) ∧ Fr false I H f I' H' (fadd f' (onesL L)) ∧ Agr (A ++ B) vs vs' ∧ Sides L I' H' f' ∧ AnsS G W (A ++ B) I H f vs D (K (loopD dg b (ds.drop n) E')),
    ⟨ds.length, I0, E, vs, f0, by simp, Nat.zero_le _, s0, fun _ _ e => e, fr0, Agr.refl, sd0, h⟩, ?_⟩
  rintro n m σ2 H2 ⟨I2, E2, vs2, f2, rfl, hn, s2, im2, fr2, ag2, sd2, h2⟩
  obtain ⟨wg, ws⟩ := wk n I2 H2 im2 s2.sm sd2.h
  by_cases hl : n < ds.length
  · have ed : ds[n]? = some ds[n] := List.getElem?_eq_getElem hl
    rw [List.drop_eq_getElem_cons hl] at h2
    obtain ⟨go, yl⟩ := wg _ ed
    refine .inr ⟨go, fun σ' H' => ∃ I' E' vs' f', Stt G σ' I' H' E' vs' f' ∧ (∀ a o, I0 a = some o → I' a = some o) ∧ Fr false I H f I' H' (fadd f' (onesL L)) ∧ Agr (A ++ B) vs vs' ∧ Sides L I' H' f' ∧ AnsS G W (A ++ B) I H f vs D (K (loopD dg b (ds.drop (n + 1)) E')), fun σ' H' q => ?_, fun xx Hn qy => ?_⟩
    · obtain ⟨I', E', vs', f', a1, a2, a3, a4, a5, a6⟩ := q
      exact ⟨ds.length - (n + 1), by omega, I', E', vs', f', rfl, hl, a1, a2, a3, a4, a5, a6⟩
    · obtain ⟨I3, nw, y⟩ := yl xx Hn qy
      have s3 := s2.nw nw
      have sd3 := sd2.nw nw
      have fr3 : Fr false I H f I3 Hn (fadd f2 (onesL L)) := (fr2.trans (nw.fr (f := fadd f2 (onesL L)) (g := fadd f2 (onesL L)) (pu := false) fun a z => .inl z)).imp fun z => by cases z
      have im3 : ∀ a o, I0 a = some o → I3 a = some o := fun a o e => nw.im _ _ (im2 _ _ e)
      have h2' : AnsS G W (A ++ B) I H f vs D (K (match dg ds[n] E2 with
        | some E1 => match b E1 with
          | .nx E' => loopD dg b (ds.drop (n + 1)) E'
          | .ct E' => loopD dg b (ds.drop (n + 1)) E'
          | .bk E' => .nx E'
          | s => s
        | none => .bad)) := h2
      split at h2'
      · rename_i E4 e4
        refine hg _ xx σ2 I3 Hn E2 E4 vs2 f2 z0 _ s3 y (fun a => by simp; exact s3.nd a) e4 fun σ4 vs4 f4 s4 ag4 le4 _ => ?_
        have le4' : ∀ a, f4 a ≤ f2 a := fun a => by have := le4 a; simpa using this
        have sd4 := sd3.le le4'
        have fr4 : Fr false I H f I3 Hn (fadd f4 (onesL L)) := fr3.cut fun a => by have := le4' a; simp; omega
        have agA : Agr (A ++ B) vs vs4 := fun j hj => by
          rw [ag4 j fun z => hj (List.mem_append_left _ z)]; exact ag2 j hj
        refine h1 _ _ _ ⟨I3, E4, vs4, f4, s4, ?_⟩
        have agB : ∀ {vs' : List V}, Agr B vs4 vs' → Agr (A ++ B) vs vs' := fun {vs'} ag j hj => by
          rw [ag j fun z => hj (List.mem_append_right _ z)]; exact agA j hj
        have frs : ∀ {I' H' : Hp} {f' : Ft}, Fr false I3 Hn f4 I' H' f' → Fr false I H f I' H' (fadd f' (onesL L)) := fun {I' H' f'} fr => (fr4.trans (fr.with (g := onesL L))).imp fun z => by cases z
        cases eb : b E4 with
        | nx E' =>
          rw [eb] at h2'
          intro σ' vs' I' H' f' s' ag fr
          exact ⟨I', E', vs', f', s', fun a o e => fr.im _ _ (im3 _ _ e), frs fr, agB ag, sd4.fr fr, h2'⟩
        | ct E' =>
          rw [eb] at h2'
          intro σ' vs' I' H' f' s' ag fr
          exact ⟨I', E', vs', f', s', fun a o e => fr.im _ _ (im3 _ _ e), frs fr, agB ag, sd4.fr fr, h2'⟩
        | bk E' =>
          rw [eb] at h2'
          intro σ' vs' I' H' f' s' ag fr
          exact hK E' σ' vs' I' H' f' s' (agB ag) (fun a o e => fr.im _ _ (im3 _ _ e)) (sd4.fr fr) (frs fr) h2'
        | rt cc E' =>
          rw [eb] at h2'
          dsimp only at h2'
          rw [bk.rt] at h2'
          intro vv σ' vs' I' H' f' g' s' ag yv nn fr
          exact h2' vv σ' vs' I' H' f' g' s' (agB ag) yv nn ((frs fr).cut fun a => by simp)
        | exc cc fs E' =>
          rw [eb] at h2'
          dsimp only at h2'
          rw [bk.exc] at h2'
          intro cls dd σ' vs' I' H' f' s' ag xa fr
          exact h2' cls dd σ' vs' I' H' f' s' (agB ag) xa ((frs fr).cut fun a => by simp)
        | bad => rw [eb] at h2'; dsimp only at h2'; rw [bk.bad] at h2'; exact h2'.elim
      · rw [bk.bad] at h2'; exact h2'.elim
  · have e : n = ds.length := by omega
    subst e
    rw [List.drop_length] at h2
    exact .inl ⟨ws (Nat.le_refl _), hK E2 σ2 vs2 I2 H2 f2 s2 ag2 im2 sd2 fr2 h2⟩
end
end DL

end
section
set_option maxRecDepth 100000
/-! DL: enumerate, zip over names whose lists are put aside. -/
namespace DL
open PySem PySem.Spec PyProof.Rows L2
def asd (i : Nat) (m : Bool) (E : List D) : List D := if m then E.set i .lent else E
def K1 (i : Nat) (m : Bool) (ds : List D) (s : S) : S := if m then putB i (.nd (.lst true) ds) s else s
def L1 (m : Bool) (p : Addr) (ws : List V) : List (Addr × List V) := if m then [(p, ws)] else []
theorem back_K1 (i : Nat) (m : Bool) (ds : List D) : Back (K1 i m ds) := by
  cases m <;> exact ⟨fun _ _ => rfl, fun _ _ _ => rfl, rfl⟩
theorem Back.comp {K K' : S → S} (a : Back K) (b : Back K') : Back (fun s => K (K' s)) := ⟨fun c E => by rw [b.rt, a.rt], fun c fs E => by rw [b.exc, a.exc], by rw [b.bad, a.bad]⟩
section
variable {G : Gm} {W : WX} {A B : List Nat}
theorem mem_L1 {m : Bool} {p : Addr} {ws : List V} {x : Addr × List V} (h : x ∈ L1 m p ws) : m = true ∧ x = (p, ws) := by
  cases m with
  | true => exact ⟨rfl, by simpa [L1] using h⟩
  | false => simp [L1] at h
theorem take1 {σ : L2.St} {I H : Hp} {E : List D} {vs : List V} {f : Ft} {i : Nat} {m : Bool} {ds : List D} (s : Stt G σ I H E vs f) (e : E[i]? = some (.nd (.lst m) ds)) (hf : ds.all Fz = true) :
    ∃ p ws f1, vs[i]? = some (.ref p) ∧ σ[i]? = some (some (.ref p)) ∧ H p = some (.lst ws) ∧ Rps G I H ds ws z0 ∧ Stt G σ I H (asd i m E) vs f1 ∧ (m = true → I p = none ∧ f1 p = 0 ∧ ∀ a, f a = f1 a + one1 p a) ∧ (m = false → I p = some (.lst ws) ∧ f1 = f) := by
  obtain ⟨v, gg, h0, ev, y, q, k⟩ := s.rp.get e
  obtain ⟨p, ws, g1, ob, rfl, st, x, c⟩ := y
  cases st
  have x0 := x.cold hf
  have z1 : ∀ a, g1 a = 0 := x.zero_of_fz hf
  have hv : σ[i]? = some (some (.ref p)) := s.sl.2 i _ _ e (by intro z; cases z) ev
  rcases c with ⟨mu, eI, eH, qq⟩ | ⟨mu, eI, qq⟩
  · have hm : m = true := mu
    subst hm
    have k' := k (I' := I) (H' := H) (d' := .lent) (v' := .ref p) (g' := z0) (fun _ _ e => e) (fun _ => rfl) fun a z => ⟨(s.rp.trk a (by have := q a; omega)).1, rfl⟩
    rw [set_same ev] at k'
    refine ⟨p, ws, h0, ev, hv, eH, x0, ⟨⟨by simp [asd, s.sl.1], fun j d v e1 n1 e2 => ?_⟩, s.sm, k'.eqv fun a => by simp, fun a => by have := q a; have := s.nd a; omega⟩, fun _ => ⟨eI, by have := q p; have := qq p; have := s.nd p; rw [one1_self] at *; omega, fun a => by have h1 := q a; have h2 := qq a; have h3 := z1 a; omega⟩, fun z => by cases z⟩
    have e1 : (E.set i .lent)[j]? = some d := e1
    by_cases hj : i = j
    · subst hj; rw [ev] at e2; cases e2; exact hv
    · rw [List.getElem?_set_ne hj] at e1
      exact s.sl.2 j d v e1 n1 e2
  · have hm : m = false := mu
    subst hm
    exact ⟨p, ws, f, ev, hv, s.sm _ _ eI, x0, s, (fun z => by cases z), (fun _ => ⟨eI, rfl⟩)⟩
theorem restore1 {σ : L2.St} {I H : Hp} {E : List D} {vs : List V} {f : Ft} {i : Nat} {m : Bool} {p : Addr} {ds : List D} {ws : List V} (s : Stt G σ I H E vs f) (hm : m = true → vs[i]? = some (.ref p) ∧ H p = some (.lst ws) ∧ I p = none ∧ f p = 0) (x : Rps G I H ds ws z0) :
    K1 i m ds (.nx E) = .bad ∨ ∃ E2 f2, K1 i m ds (.nx E) = .nx E2 ∧ Stt G σ I H E2 vs f2 ∧ ∀ a, f2 a ≤ f a + if m then one1 p a else 0 := by
  cases m with
  | false => exact .inr ⟨E, f, rfl, s, fun a => by simp⟩
  | true =>
    obtain ⟨ev, eH, eI, f0⟩ := hm rfl
    have e : K1 i true ds (.nx E) = (match E[i]? with
      | some .lent => .nx (E.set i (.nd (.lst true) ds))
      | _ => .bad) := rfl
    rw [e]
    split
    · rename_i el
      obtain ⟨f5, s5, le5⟩ := restore s el ev eH eI f0 x
      exact .inr ⟨_, f5, rfl, s5, fun a => by simpa using le5 a⟩
    · exact .inl rfl
theorem ones_L1 (m : Bool) (p : Addr) (ws : List V) (a : Addr) : onesL (L1 m p ws) a = if m then one1 p a else 0 := by
  cases m with
  | false => rfl
  | true =>
    show (if ([(p, ws)].any fun x => x.1 == a) then 1 else 0) = if a = p then 1 else 0
    by_cases h : a = p
    · subst h; simp
    · have h' : ¬ p = a := fun z => h z.symm
      simp [h, h']
theorem ones_app (L L' : List (Addr × List V)) (a : Addr) : onesL (L ++ L') a ≤ onesL L a + onesL L' a ∧ onesL L a ≤ onesL (L ++ L') a ∧ onesL L' a ≤ onesL (L ++ L') a := by
  unfold onesL
  rw [List.any_append]
  cases L.any (fun x => x.1 == a) <;> cases L'.any (fun x => x.1 == a) <;> simp
theorem walkL_enum {K : PySem.W.Frag} {I H : Hp} {p : Addr} {ds : List D} {ws : List V} {L : List (Addr × List V)} (hp : ∀ (I1 H1 : Hp), (∀ a o, I a = some o → I1 a = some o) → (∀ a o, I1 a = some o → H1 a = some o) → (∀ x ∈ L, H1 x.1 = some (.lst x.2)) → H1 p = some (.lst ws)) (x : Rps G I H ds ws z0) : WalkL G I L (Ite K p) (enumFrom 0 ds) := by
  intro i I1 H1 a b c
  have sq : SqL K H1 p ws := SqL.of (hp I1 H1 a b c)
  rw [enum_at]
  refine ⟨fun d ed => ?_, fun hl => ⟨ws, sq, ?_⟩⟩
  · cases ec : ds[i]? with
    | none => rw [ec] at ed; cases ed
    | some c =>
      rw [ec] at ed; cases ed
      obtain ⟨v, ev, y⟩ := x.get0 ec
      refine ⟨⟨ws, v, sq, ev⟩, fun w H' q => ?_⟩
      obtain ⟨T, u, rfl, nT, rfl, q⟩ := q
      have := q ws sq
      rw [ev] at this; cases this
      have h0 : (0 + i : Nat) = i := by omega
      rw [h0]
      have z := pair_new (T := T) b nT (show Rp G I1 H1 (.sc (.int (i : Nat))) (.int (i : Nat)) z0 from ⟨rfl, fun _ => rfl⟩) (y.up a)
      exact ⟨_, z.1, z.2⟩
  · rw [x.len]
    have : ∀ (ds : List D) (k : Nat), (enumFrom k ds).length = ds.length := by
      intro ds; induction ds with
      | nil => intro k; rfl
      | cons d ds ih => intro k; simp [enumFrom, ih]
    rw [this] at hl; exact hl
theorem zipD_len : ∀ (ds es : List D), (zipD ds es).length = min ds.length es.length
  | [], es => by simp [zipD]
  | d :: ds, [] => by simp [zipD]
  | d :: ds, e :: es => by
    show (zipD ds es).length + 1 = _
    rw [zipD_len ds es]; simp
theorem walkL_zip {K : PySem.W.Frag} {I H : Hp} {p q : Addr} {ds es : List D} {ws us : List V} {L : List (Addr × List V)}
    (hp : ∀ (I1 H1 : Hp), (∀ a o, I a = some o → I1 a = some o) → (∀ a o, I1 a = some o → H1 a = some o) → (∀ x ∈ L, H1 x.1 = some (.lst x.2)) → H1 p = some (.lst ws)) (x : Rps G I H ds ws z0)
    (hq : ∀ (I1 H1 : Hp), (∀ a o, I a = some o → I1 a = some o) → (∀ a o, I1 a = some o → H1 a = some o) → (∀ x ∈ L, H1 x.1 = some (.lst x.2)) → H1 q = some (.lst us)) (x2 : Rps G I H es us z0) : WalkL G I L (Itz K p q) (zipD ds es) := by
  intro i I1 H1 a b c
  have sq : SqL K H1 p ws := SqL.of (hp I1 H1 a b c)
  have sq2 : SqL K H1 q us := SqL.of (hq I1 H1 a b c)
  rw [zip_at]
  refine ⟨fun d ed => ?_, fun hl => ⟨ws, us, sq, sq2, ?_⟩⟩
  · cases ec : ds[i]? with
    | none => rw [ec] at ed; cases ed
    | some c =>
      cases ec2 : es[i]? with
      | none => rw [ec, ec2] at ed; cases ed
      | some c2 =>
        rw [ec, ec2] at ed; cases ed
        obtain ⟨v, ev, y⟩ := x.get0 ec
        obtain ⟨v2, ev2, y2⟩ := x2.get0 ec2
        refine ⟨⟨ws, us, v, v2, sq, sq2, ev, ev2⟩, fun w H' qq => ?_⟩
        obtain ⟨T, u, u2, rfl, nT, rfl, q1, q2⟩ := qq
        have h1 := q1 ws sq
        rw [ev] at h1; cases h1
        have h2 := q2 us sq2
        rw [ev2] at h2; cases h2
        have z := pair_new (T := T) b nT (y.up a) (y2.up a)
        exact ⟨_, z.1, z.2⟩
  · rw [zipD_len] at hl
    rw [x.len, x2.len]; omega
def dForE (i : Nat) (dg : DenG) (b : DenS) : DenS := fun E => match E[i]? with
  | some (.nd (.lst m) ds) => if ds.all Fz then K1 i m ds (loopD dg b (enumFrom 0 ds) (asd i m E)) else .bad
  | _ => .bad
def dForZ (i j : Nat) (dg : DenG) (b : DenS) : DenS := fun E => match E[i]?, E[j]? with
  | some (.nd (.lst m) ds), some (.nd (.lst m') es) => if ds.all Fz && es.all Fz then K1 i m ds (K1 j m' es (loopD dg b (zipD ds es) (asd j m' (asd i m E)))) else .bad
  | _, _ => .bad
variable {g : TG} {t : TS} {dg : DenG} {b : DenS}
theorem t_forE {i : Nat} (hi : i ∉ A ++ B) (hg : TgS G A g dg) (h1 : ∀ D σ H, tS G W B b D σ H → t D σ H) : ∀ D σ H, tS G W (A ++ B) (dForE i dg b) D σ H → tFor (iEnum G.K (tCons (tVar i) tNil)) g t D σ H := by
  rintro D σ H ⟨I, E, vs, f, s, hh⟩
  unfold dForE at hh
  split at hh
  · rename_i m ds eE
    split at hh
    · rename_i hf
      obtain ⟨p, ws, f1, ev, hv, eH, x0, s1, ht, hff⟩ := take1 s eE hf
      refine ⟨.ref p, hv, p, ws, rfl, SqL.of eH, ?_⟩
      have sd : Sides (L1 m p ws) I H f1 := ⟨fun x hx => by obtain ⟨_, rfl⟩ := mem_L1 hx; exact eH, fun x hx => by obtain ⟨hm, rfl⟩ := mem_L1 hx; exact (ht hm).1, fun x hx => by obtain ⟨hm, rfl⟩ := mem_L1 hx; exact (ht hm).2.1⟩
      have fr : Fr false I H f I H (fadd f1 (onesL (L1 m p ws))) := Fr.refl.less fun a z => by
        rw [fadd_at, ones_L1] at z
        cases m with
        | true => have := (ht rfl).2.2 a; simp at z; omega
        | false => have := (hff rfl).2; subst this; simpa using z
      refine t_forL (L := L1 m p ws) (ds := enumFrom 0 ds) (K := K1 i m ds) (back_K1 i m ds) hg h1 s1 fr sd (walkL_enum (fun I1 H1 a b c => ?_) x0) (fun E' σ' vs' I' H' f' s' ag im sd' fr' ha => ?_) hh
      · cases m with
        | true => exact c (p, ws) (by simp [L1])
        | false => exact b _ _ (a _ _ (hff rfl).1)
      · have ev' : vs'[i]? = some (.ref p) := by rw [ag i hi]; exact ev
        rcases restore1 (i := i) (m := m) (p := p) (ds := ds) (ws := ws) s' (fun hm => by subst hm; exact ⟨ev', sd'.h (p, ws) (by simp [L1]), sd'.i (p, ws) (by simp [L1]), sd'.z (p, ws) (by simp [L1])⟩) (x0.up im) with hb | ⟨E2, f2, e2, s2, le2⟩
        · rw [hb] at ha; exact ha.elim
        · rw [e2] at ha
          exact ha σ' vs' I' H' f2 s2 ag (fr'.cut fun a => by have := le2 a; rw [fadd_at, ones_L1]; exact this)
    · exact hh.elim
  · exact hh.elim
theorem t_forZ {i j : Nat} (hi : i ∉ A ++ B) (hj : j ∉ A ++ B) (hij : i ≠ j) (hg : TgS G A g dg) (h1 : ∀ D σ H, tS G W B b D σ H → t D σ H) : ∀ D σ H, tS G W (A ++ B) (dForZ i j dg b) D σ H → tFor (iZip G.K (tCons (tVar i) (tCons (tVar j) tNil))) g t D σ H := by
  rintro D σ H ⟨I, E, vs, f, s, hh⟩
  unfold dForZ at hh
  split at hh
  · rename_i m ds m' es eE eE2
    split at hh
    · rename_i hf
      simp only [Bool.and_eq_true] at hf
      obtain ⟨p, ws, f1, ev, hv, eH, x0, s1, ht, hff⟩ := take1 s eE hf.1
      have eE3 : (asd i m E)[j]? = some (.nd (.lst m') es) := by
        cases m with
        | true => show (E.set i .lent)[j]? = _; rw [List.getElem?_set_ne hij]; exact eE2
        | false => exact eE2
      obtain ⟨q, us, f2, ev2, hv2, eH2, x2, s2, ht2, hff2⟩ := take1 s1 eE3 hf.2
      refine ⟨.ref p, hv, .ref q, hv2, p, q, ws, us, rfl, SqL.of eH, SqL.of eH2, ?_⟩
      have le2 : ∀ a, f2 a ≤ f1 a := fun a => by
        cases m' with
        | true => have := (ht2 rfl).2.2 a; omega
        | false => rw [(hff2 rfl).2]; exact Nat.le_refl _
      have hpq : m = true → m' = true → p ≠ q := fun hm hm' z => by
        have a1 := (ht hm).2.1
        have a2 := (ht2 hm').2.2 q
        rw [one1_self] at a2
        rw [z] at a1; omega
      have sd : Sides (L1 m p ws ++ L1 m' q us) I H f2 := ⟨fun x hx => by
          rcases List.mem_append.mp hx with hx | hx
          · obtain ⟨_, rfl⟩ := mem_L1 hx; exact eH
          · obtain ⟨_, rfl⟩ := mem_L1 hx; exact eH2, fun x hx => by
          rcases List.mem_append.mp hx with hx | hx
          · obtain ⟨hm, rfl⟩ := mem_L1 hx; exact (ht hm).1
          · obtain ⟨hm, rfl⟩ := mem_L1 hx; exact (ht2 hm).1, fun x hx => by
          rcases List.mem_append.mp hx with hx | hx
          · obtain ⟨hm, rfl⟩ := mem_L1 hx; have := (ht hm).2.1; have := le2 p; show f2 p = 0; omega
          · obtain ⟨hm, rfl⟩ := mem_L1 hx; exact (ht2 hm).2.1⟩
      have fr : Fr false I H f I H (fadd f2 (onesL (L1 m p ws ++ L1 m' q us))) := Fr.refl.less fun a z => by
        have o := (ones_app (L1 m p ws) (L1 m' q us) a).1
        rw [ones_L1, ones_L1] at o
        rw [fadd_at] at z
        have q1 : f1 a + (if m then one1 p a else 0) = f a := by
          cases m with
          | true => have := (ht rfl).2.2 a; simp; omega
          | false => rw [(hff rfl).2]; simp
        have q2 : f2 a + (if m' then one1 q a else 0) = f1 a := by
          cases m' with
          | true => have := (ht2 rfl).2.2 a; simp; omega
          | false => rw [(hff2 rfl).2]; simp
        omega
      refine t_forL (L := L1 m p ws ++ L1 m' q us) (ds := zipD ds es) (K := fun s => K1 i m ds (K1 j m' es s)) ((back_K1 i m ds).comp (back_K1 j m' es)) hg h1 s2 fr sd (walkL_zip (fun I1 H1 a b c => ?_) x0 (fun I1 H1 a b c => ?_) x2) (fun E' σ' vs' I' H' f' s' ag im sd' fr' ha => ?_) hh
      · cases m with
        | true => exact c (p, ws) (List.mem_append_left _ (by simp [L1]))
        | false => exact b _ _ (a _ _ (hff rfl).1)
      · cases m' with
        | true => exact c (q, us) (List.mem_append_right _ (by simp [L1]))
        | false => exact b _ _ (a _ _ (hff2 rfl).1)
      · have evi : vs'[i]? = some (.ref p) := by rw [ag i hi]; exact ev
        have evj : vs'[j]? = some (.ref q) := by rw [ag j hj]; exact ev2
        rcases restore1 (i := j) (m := m') (p := q) (ds := es) (ws := us) s' (fun hm => by subst hm; exact ⟨evj, sd'.h (q, us) (List.mem_append_right _ (by simp [L1])), sd'.i (q, us) (List.mem_append_right _ (by simp [L1])), sd'.z (q, us) (List.mem_append_right _ (by simp [L1]))⟩) (x2.up im) with hb | ⟨E2, f3, e2, s3, le3⟩
        · have ha' : AnsS G W (A ++ B) I H f vs D (K1 i m ds (K1 j m' es (.nx E'))) := ha
          rw [hb, (back_K1 i m ds).bad] at ha'; exact ha'.elim
        · have ha' : AnsS G W (A ++ B) I H f vs D (K1 i m ds (K1 j m' es (.nx E'))) := ha
          rw [e2] at ha'
          rcases restore1 (i := i) (m := m) (p := p) (ds := ds) (ws := ws) s3 (fun hm => by
            subst hm
            refine ⟨evi, sd'.h (p, ws) (List.mem_append_left _ (by simp [L1])), sd'.i (p, ws) (List.mem_append_left _ (by simp [L1])), ?_⟩
            have z := sd'.z (p, ws) (List.mem_append_left _ (by simp [L1]))
            have l3 := le3 p
            cases m' with
            | true => rw [if_pos rfl, one1_ne (hpq rfl rfl)] at l3; have z : f' p = 0 := z; omega
            | false => have z : f' p = 0 := z; simp at l3; omega) (x0.up im) with hb | ⟨E4, f4, e4, s4, le4⟩
          · rw [hb] at ha'; exact ha'.elim
          · rw [e4] at ha'
            refine ha' σ' vs' I' H' f4 s4 ag (fr'.less (f2 := f4) (fun a z => ?_) |>.imp fun z => by cases z)
            have a1 := le3 a
            have a2 := le4 a
            obtain ⟨_, o1, o2⟩ := ones_app (L1 m p ws) (L1 m' q us) a
            rw [ones_L1] at o1 o2
            rw [fadd_at]
            omega
    · exact hh.elim
  · exact hh.elim
end
section
variable {X : Cx} {G : Gm} {W : WX} {A B : List Nat} {ss : List Stmt} {ds : DenS} {pos q q2 tpos p : Pos} {elts : List Expr} {kk : Nat} {g : TG} {dg : DenG}
theorem jforE (i : Nat) {x : Str} (hK : G.K = X.K) (hm : X.mg "enumerate" = none) (hi : i ∉ A ++ B) (hp : PassesOwn (model X.prog X.w) X.A X.env X.xe) (hg : PG X (.Tuple elts kk tpos) g) (ht : TgS G A g dg) (hb : JB X G W B ss ds)
    (hN : X.N[i]? = some x := by rfl) (hv : Vis X.env.scope x := by first | exact Or.inl rfl | exact Or.inr (Or.inl rfl) | exact Or.inr (Or.inr rfl)) (hd : (x == ("__debug__" : Str)) = false := by decide) (hcd : (x == ("__classdict__" : Str)) = false := by decide)
    (hgl : Gl X "enumerate" := by rfl) (hse : starEach [.Name x q] X.env = [(false, eval (.Name x q) X.env)] := by rfl)
    (hc : X.calm = true := by rfl) (hs : ∀ y, foldedSetIterable (.Call (.Name "enumerate" p) [.Name x q] [] q2) X.env y = pure y := by intro _; rfl) : JS X G W (A ++ B) (.For (.Tuple elts kk tpos) (.Call (.Name "enumerate" p) [.Name x q] [] q2) ss [] pos) (dForE i dg ds) :=
  PS_imp (ps_for hp hc (pi_enum hgl hm (pa_cons (pv i hN hv hd hcd) pa_nil hse) hse) hg hb hs) (hK ▸ t_forE hi ht (fun _ _ _ h => h))
theorem jforZ (i j : Nat) {x y : Str} {q3 : Pos} (hK : G.K = X.K) (hm : X.mg "zip" = none) (hi : i ∉ A ++ B) (hj : j ∉ A ++ B) (hij : i ≠ j) (hp : PassesOwn (model X.prog X.w) X.A X.env X.xe) (hg : PG X (.Tuple elts kk tpos) g) (ht : TgS G A g dg) (hb : JB X G W B ss ds)
    (hN : X.N[i]? = some x := by rfl) (hv : Vis X.env.scope x := by first | exact Or.inl rfl | exact Or.inr (Or.inl rfl) | exact Or.inr (Or.inr rfl)) (hd : (x == ("__debug__" : Str)) = false := by decide) (hcd : (x == ("__classdict__" : Str)) = false := by decide)
    (hN2 : X.N[j]? = some y := by rfl) (hv2 : Vis X.env.scope y := by first | exact Or.inl rfl | exact Or.inr (Or.inl rfl) | exact Or.inr (Or.inr rfl)) (hd2 : (y == ("__debug__" : Str)) = false := by decide) (hcd2 : (y == ("__classdict__" : Str)) = false := by decide)
    (hgl : Gl X "zip" := by rfl) (hse : starEach [.Name x q, .Name y q3] X.env = (false, eval (.Name x q) X.env) :: starEach [.Name y q3] X.env := by rfl) (hse2 : starEach [.Name y q3] X.env = [(false, eval (.Name y q3) X.env)] := by rfl) (hpl : (backTo q2 (starEach [.Name y q3] X.env)).any (·.1) = false := by rfl)
    (hc : X.calm = true := by rfl) (hs : ∀ z, foldedSetIterable (.Call (.Name "zip" p) [.Name x q, .Name y q3] [] q2) X.env z = pure z := by intro _; rfl) : JS X G W (A ++ B) (.For (.Tuple elts kk tpos) (.Call (.Name "zip" p) [.Name x q, .Name y q3] [] q2) ss [] pos) (dForZ i j dg ds) :=
  PS_imp (ps_for hp hc (pi_zip hgl hm (pa_cons (pv i hN hv hd hcd) (pa_cons (pv j hN2 hv2 hd2 hcd2) pa_nil hse2) hse) hse hpl) hg hb hs) (hK ▸ t_forZ hi hj hij ht (fun _ _ _ h => h))
end
end DL

end
section
set_option maxRecDepth 100000
/-! DL: a part taken out of a thing that nobody else has. -/
namespace DL
open PySem PySem.Spec PyProof.Rows L2
def ixT (r : List Opd × List D) : R (Opd × List D) := match r.1 with
  | [.val (.nd k ds), q] => match cont r.2 q with
    | some (.sc (.int i)) => if k.seq then (match ixN ds.length i with
      | some j => match ds[j]? with
        | some d => .ok (.val d, r.2)
        | none => .bad
      | none => .bad) else .bad
    | _ => .bad
  | _ => .bad
def dIxT (pu2 : Bool) (d1 d2 : Den) : Den := fun E => (aCons pu2 d1 (aCons true d2 aNil) E).bind ixT
section
variable {G : Gm} {W : WX}
theorem t_ixT {ta tb : TE} {pu1 pu2 : Bool} {d1 d2 : Den} (h1 : ∀ σ H Q, tO G W pu1 d1 σ H Q → ta σ H Q) (h2 : ∀ σ H Q, tO G W pu2 d2 σ H Q → tb σ H Q) : ∀ σ H Q, tO G W (pu1 && (pu2 && true)) (dIxT (pu2 && true) d1 d2) σ H Q → tOp (rIx G.K) ta tb σ H Q := by
  rintro σ H Q ⟨I, E, vs, f, s, hh⟩
  refine (t_acons h1 (t_acons h2 t_anil) σ H (fun ws H' => r2l (rIx G.K) ws H' Q) ?_ : _)
  refine ⟨I, E, vs, f, s, hh.fst fun r er h => ?_⟩
  intro ws I1 H1 f1 g1 s1 o1 n1 a1 e1
  unfold ixT at h
  obtain ⟨os, E1⟩ := r
  split at h
  · rename_i k ds q eos
    have eos' : os = [.val (.nd k ds), q] := eos
    subst eos'
    obtain ⟨v, vr, ga, gb, rfl, oa, ⟨w, vr2, gc, gd, rfl, ob, ⟨rfl, _⟩, qc⟩, qa⟩ := o1
    have nb : ∀ a, gc a ≤ 1 := fun a => by have := n1 a; have := qa a; have := qc a; omega
    show rIx G.K v w H1 Q
    split at h
    · rename_i i ei
      obtain ⟨gi, yi, _⟩ := ob.cont s1 nb ei
      obtain ⟨rfl, _⟩ := yi
      split at h
      · rename_i hs
        split at h
        · rename_i j ej
          split at h
          · rename_i dd ed
            have oa' : Rp G I1 H1 (.nd k ds) v ga := oa
            have e0 := oa'.node s1.sm
            obtain ⟨p, ws, g, hob, rfl, st, y, c⟩ := oa'
            obtain ⟨p', ws', g', hob', ep, st', eH, -, lw⟩ := e0
            obtain ⟨w', gg, h0, ew, yy, qg, _⟩ := y.get ed
            have le : ∀ a, gg a ≤ ga a := fun a => by
              rcases c with ⟨mu, eI, eH, qq⟩ | ⟨mu, eI, qq⟩
              · have := qq a; have := qg a; omega
              · have := qq a; have := qg a; omega
            have eH2 : H1 p = some hob := by
              rcases c with ⟨mu, eI, eH, qq⟩ | ⟨mu, eI, qq⟩
              · exact eH
              · exact s1.sm _ _ eI
            have lw2 : ws.length = ds.length := y.len
            have at_ : atI ws i = some w' := by unfold atI; rw [lw2, ej]; exact ew
            have q := h w' I1 H1 f1 gg s1 yy (fun a => by have := n1 a; have := qa a; have := le a; omega) (a1.less fun a z => by
              have := qa a; have := le a; simp only [fadd_at] at z ⊢; omega) e1
            rcases Kd.seq_at (K := G.K) hs st eH2 with z | z
            · exact .inl ⟨p, ws, i, w', rfl, rfl, z, at_, q⟩
            · exact .inr (.inl ⟨p, ws, i, w', rfl, rfl, z, at_, q⟩)
          · exact h.elim
        · exact h.elim
      · exact h.elim
    · exact h.elim
  · exact h.elim
end
theorem jixT {X : Cx} {G : Gm} {W : WX} {p1 p2 : Bool} {a b : Expr} {d1 d2 : Den} {pos : Pos} (hK : G.K = X.K) (ha : JE X G W p1 a d1) (hb : JE X G W p2 b d2) (hs : PlainIx b := by intro _ _; rfl) : JE X G W (p1 && (p2 && true)) (.Subscript a b pos) (dIxT (p2 && true) d1 d2) := PE_imp (pe_ix ix_seq ha hb hs) (hK ▸ t_ixT (fun _ _ _ h => h) (fun _ _ _ h => h))
end DL

end
section
set_option maxRecDepth 100000
/-! DL: classes; min of a list of data; remove. -/
namespace DL
open PySem PySem.Spec PyProof.Rows L2
section
variable {X : Cx} {G : Gm} {W : WX} {p p1 p2 : Bool} {e o : Expr} {es : List Expr} {d0 : Den} {das : DenA} {pos ap : Pos}
theorem jmeth {CX : CXT} {k c : Nat} {f : Addr} {fd : FuncData} {ps : List Str} {F : Fn} {Ex : XK} {m : Str} {pl : Sem Bool} (hx : Passes CX X Ex) (hE : ∀ cls d σ H, W cls d σ H → Ex cls d H) (cl : Cls X.K (G.cls c)) (hm : Meth X.K (G.cls c) m f)
    (ok : FnOk X.prog X.w X.K X.mg X.base CX k f fd ps (spOf G F)) (hr : Room k X.A) (hb : Binds X.K fd ps []) (h0 : JE X G W p1 o d0) (ha : JA X G W p2 (e :: es) das)
    (hst : starEach (e :: es) X.env = (false, eval e X.env) :: starEach es X.env := by rfl) (hpl : (backTo pos (starEach es X.env)).any (·.1) = false := by rfl)
    (ht : eval (.Call (.Attribute o m ap) (e :: es) [] pos) X.env = (do
      let ov ← eval o X.env
      standAt ap.atName
      let (f, first) ← holding [ov] (getMethod ov m pl)
      callWith pos f first (backTo pos (starEach (e :: es) X.env)) (backToKw pos (keywordEach [] X.env))) := by rfl) :
    JE X G W false (.Call (.Attribute o m ap) (e :: es) [] pos) (dMeth c m F p2 d0 das) :=
  PE_imp (pe_meth (pl := pl) h0 cl hm ok hr hb .nil hx ha hst hpl ht) (t_meth hE (fun _ _ _ h => h) (fun _ _ _ h => h))
theorem jmeth0 {CX : CXT} {k c : Nat} {f : Addr} {fd : FuncData} {ps : List Str} {F : Fn} {Ex : XK} {m : Str} {pl : Sem Bool} (hx : Passes CX X Ex) (hE : ∀ cls d σ H, W cls d σ H → Ex cls d H) (cl : Cls X.K (G.cls c)) (hm : Meth X.K (G.cls c) m f)
    (ok : FnOk X.prog X.w X.K X.mg X.base CX k f fd ps (spOf G F)) (hr : Room k X.A) (hb : Binds X.K fd ps []) (h0 : JE X G W p1 o d0)
    (ht : eval (.Call (.Attribute o m ap) [] [] pos) X.env = (do
      let ov ← eval o X.env
      standAt ap.atName
      let (f, first) ← holding [ov] (getMethod ov m pl)
      callWith pos f first (backTo pos (starEach [] X.env)) (backToKw pos (keywordEach [] X.env))) := by rfl) :
    JE X G W false (.Call (.Attribute o m ap) [] [] pos) (dMeth c m F true d0 aNil) :=
  PE_imp (pe_meth0 (pl := pl) h0 cl hm ok hr hb .nil hx ht) (t_meth hE (fun _ _ _ h => h) t_anil)
theorem jmake {CX : CXT} {k c : Nat} {f : Addr} {fd : FuncData} {ps : List Str} {F : Fn} {Ex : XK} {x : Str} {q : Pos} (hx : Passes CX X Ex) (hE : ∀ cls d σ H, W cls d σ H → Ex cls d H) (M : Mk X.K (G.cls c) f)
    (ok : FnOk X.prog X.w X.K X.mg X.base CX k f fd ps (spOf G F)) (hr : Room (k + 1) X.A) (hm : X.mg x = some (.ref (G.cls c))) (hb : Binds X.K fd ps []) (ha : JA X G W p (e :: es) das)
    (hg : Gl X x := by rfl) (hdb : (x == ("__debug__" : Str)) = false := by decide) (he : starEach (e :: es) X.env = (false, eval e X.env) :: starEach es X.env := by rfl) (hpl : (backTo pos (starEach es X.env)).any (·.1) = false := by rfl) :
    JE X G W false (.Call (.Name x q) (e :: es) [] pos) (dMake c F das) := PE_imp (pe_make M ok hr hg hm hb .nil hx ha hdb he hpl) (t_make hE (fun _ _ _ h => h))
theorem jmake0 {CX : CXT} {k c : Nat} {f : Addr} {fd : FuncData} {ps : List Str} {F : Fn} {Ex : XK} {x : Str} {q : Pos} (hx : Passes CX X Ex) (hE : ∀ cls d σ H, W cls d σ H → Ex cls d H) (M : Mk X.K (G.cls c) f)
    (ok : FnOk X.prog X.w X.K X.mg X.base CX k f fd ps (spOf G F)) (hr : Room (k + 1) X.A) (hm : X.mg x = some (.ref (G.cls c))) (hb : Binds X.K fd ps [])
    (hg : Gl X x := by rfl) (hdb : (x == ("__debug__" : Str)) = false := by decide) :
    JE X G W false (.Call (.Name x q) [] [] pos) (dMake c F aNil) := PE_imp (pe_make0 M ok hr hg hm hb .nil hx hdb) (t_make hE t_anil)
end
/-! ### min of data -/
def rMinData (K : PySem.W.Frag) : List V → Hp → VK → Prop := fun vs H Q => ∃ (a : Addr) (ws : List V) (x : PyData) (xs : List PyData), vs = [.ref a] ∧ SqL K H a ws ∧ DpAll K H ws (x :: xs) ∧ PySem.W.AlikeAll (x :: xs) ∧ PyData.plainAll (x :: xs) = true ∧ PyData.depthAll (x :: xs) ≤ 60 ∧
  ∀ (i : Nat) (w : V), ws[i]? = some w → (x :: xs)[i]? = some (PySem.W.minD x xs) → Q w H
theorem minD_mem (x : PyData) : ∀ xs : List PyData, PySem.W.minD x xs ∈ x :: xs := by
  intro xs
  have : ∀ (xs : List PyData) (a : PyData), xs.foldl (fun a y => if PySem.W.dataLt y a then y else a) a ∈ a :: xs := by
    intro xs
    induction xs with
    | nil => intro a; exact List.mem_cons_self
    | cons y xs ih =>
      intro a
      rw [List.foldl_cons]
      rcases List.mem_cons.mp (ih (if PySem.W.dataLt y a then y else a)) with e | e
      · rw [e]; split
        · exact List.mem_cons_of_mem _ List.mem_cons_self
        · exact List.mem_cons_self
      · exact List.mem_cons_of_mem _ (List.mem_cons_of_mem _ e)
  exact this xs x
theorem plain_mem : ∀ {xs : List PyData}, PyData.plainAll xs = true → ∀ d ∈ xs, d.plain = true
  | x :: xs, h, d, hd => by
    have h' : (x.plain && PyData.plainAll xs) = true := h
    simp only [Bool.and_eq_true] at h'
    rcases List.mem_cons.mp hd with rfl | hd
    · exact h'.1
    · exact plain_mem h'.2 d hd
theorem cr_minData {X : Cx} (hu : X.A.units + 65 < cLine) (hc : X.calm = true) : CallR X (.builtin "min") (rMinData X.K) := by
  intro pins s σ H vs us Q I r h
  obtain ⟨a, ws, x, xs, rfl, hs, hd, al, hp, dp, q⟩ := h
  obtain ⟨its, rv, hl, hz⟩ := I.list hs
  rw [Vals.ref1 r]
  obtain ⟨as, hr⟩ := Dp.readsAll I _ _ _ hd rv
  refine PySem.W.min_list_data (I.ok.hd hc) hl.isList (by simpa using hr) al (by omega) fun i v h' tk bs hv hr' hk => ?_
  have hv' : its[i]? = some v := by simpa using hv
  obtain ⟨bs2, r2, hi, hm, _⟩ := PySem.W.readsAll_at hr i v hv'
  have hil : i < ws.length := by
    have := (List.getElem?_eq_some_iff.mp hv').1
    have := rv.length
    omega
  obtain ⟨u, hu2, ru⟩ := rv.get (List.getElem?_eq_getElem hil)
  have : u = v := by rw [hv'] at hu2; exact (Option.some.inj hu2).symm
  subst this
  have e1 := SeqAt.readOf_plain (plain_mem hp _ hm) (PySem.W.reads_keeps hk r2)
  have e2 := SeqAt.readOf_plain (plain_mem hp _ (minD_mem x xs)) hr'
  refine ⟨ws[i], H, I.kept (t' := tk) hk, ru, q i _ (List.getElem?_eq_getElem hil) ?_⟩
  rw [← e2, e1, List.getD_eq_getElem?_getD, List.getElem?_eq_getElem hi]; rfl
open Classical in
noncomputable def minOk (ds : List D) : Bool := decide (PySem.W.AlikeAll (toPs ds) ∧ PyData.plainAll (toPs ds) = true ∧ ds.all (lay 60) = true ∧ ∀ a ∈ ds, ∀ b ∈ ds, toP a = toP b → a = b)
open Classical in
noncomputable def fMinData : List D → Option D
  | [.nd (.lst _) (d :: ds)] => if Fzs (d :: ds) && minOk (d :: ds) then (d :: ds).find? fun e => decide (toP e = PySem.W.minD (toP d) (toPs ds)) else none
  | _ => none
theorem os_minData {G : Gm} : OpS G (rMinData G.K) fMinData := by
  intro I H ds ws d sm x e Q k
  unfold fMinData at e
  split at e
  · rename_i m d0 ds
    split at e
    · rename_i hc
      simp only [Bool.and_eq_true] at hc
      obtain ⟨hf, hok⟩ := hc
      have hok : PySem.W.AlikeAll (toPs (d0 :: ds)) ∧ PyData.plainAll (toPs (d0 :: ds)) = true ∧ (d0 :: ds).all (lay 60) = true ∧ ∀ a ∈ (d0 :: ds), ∀ b ∈ (d0 :: ds), toP a = toP b → a = b := by unfold minOk at hok; exact @of_decide_eq_true _ (_) hok
      obtain ⟨al, pl, hl, inj⟩ := hok
      obtain ⟨v, g, rfl, y, _⟩ := x.one
      obtain ⟨p, ws, g1, ob, rfl, st, eH, r, hlen⟩ := Rp.node sm y
      cases st
      have r0 : Rps G I H (d0 :: ds) ws z0 := r.cold (by rw [← Fzs_all]; exact hf)
      have dm := List.mem_of_find?_eq_some e
      have dt : toP d = PySem.W.minD (toP d0) (toPs ds) := by
        have := List.find?_some e
        exact @of_decide_eq_true _ (_) this
      refine ⟨p, ws, toP d0, toPs ds, rfl, SqL.of eH, dpAll_lay sm hl r0, al, pl, depthAll_le fun c hc => (lay_ok (List.all_eq_true.mp hl c hc)).2, fun i w hw hi => ?_⟩
      have hil : i < ws.length := (List.getElem?_eq_some_iff.mp hw).1
      have hil2 : i < (d0 :: ds).length := by omega
      have ei : toP ((d0 :: ds)[i]) = PySem.W.minD (toP d0) (toPs ds) := by
        have e3 : (toPs (d0 :: ds))[i]? = some (PySem.W.minD (toP d0) (toPs ds)) := hi
        rw [toPs_map, List.getElem?_map, List.getElem?_eq_getElem hil2] at e3
        exact Option.some.inj e3
      have ed : (d0 :: ds)[i] = d := inj _ (List.getElem_mem hil2) _ dm (by rw [ei, dt])
      obtain ⟨w', ew, y2⟩ := r0.get0 (List.getElem?_eq_getElem hil2)
      rw [hw] at ew; cases ew
      rw [ed] at y2
      exact k w I H z0 (Nw.refl sm) y2 (fun _ => Nat.zero_le _) (fun a h => absurd rfl h)
    · cases e
  · cases e
/-! ### remove -/
def rRemD (K : PySem.W.Frag) : V → List V → Hp → VK → Prop := fun x xs H Q => ∃ (l : Addr) (ws : List V) (y : V) (d : PyData) (ds : List PyData) (j : Nat), x = .ref l ∧ xs = [y] ∧ H l = some (.lst ws) ∧ DpAll K H ws ds ∧ Dp K H y d ∧ PyData.plainAll ds = true ∧ d.plain = true ∧ d.depth ≤ 60 ∧
  SeqAt.dataPlace ds d = some j ∧ Q .non (upd H l (.lst (ws.eraseIdx j)))
theorem mt_removeD {X : Cx} (hu : X.A.units + 65 < cLine) : MtR X "list.remove" (rRemD X.K) := by
  intro pins s σ H x xs v us Q I rx rxs h
  obtain ⟨l, ws, y, d, ds, j, rfl, rfl, hH, hd, hy, pl, pd, dp, ej, q⟩ := h
  cases rx
  obtain ⟨u, rfl, ru⟩ := rxs.one
  obtain ⟨z, its, n, r, hl, e⟩ := I.lstM hH
  obtain ⟨as, h4⟩ := Dp.readsAll I ds _ its hd r
  obtain ⟨bs, r1⟩ := Dp.reads I d y u hy ru
  refine SeqAt.remove_list_data (vs := its.toArray) (l := l) ⟨_, e, rfl, n, rfl⟩ (by simpa using h4) r1 pl pd (by omega) ej (by rw [List.size_toArray]; omega) ?_
  refine ⟨.non, _, I.lset (its' := its.eraseIdx j) hH e (by rw [List.eraseIdxIfInBounds_toArray]) (r.eraseIdx j) ?_, rfl, q⟩
  have := List.length_eraseIdx_le ws j
  omega
def mRemove : MutF := fun k ds as => match k, as with
  | .lst true, [c] => if ds.all (lay 60) && lay 60 c && PyData.plainAll (toPs ds) && (toP c).plain then (match ixD c ds with
    | some j => some (.sc .non, .lst true, ds.eraseIdx j)
    | none => none) else none
  | _, _ => none
theorem place_ix (c : D) (ds : List D) : SeqAt.dataPlace (toPs ds) (toP c) = ixD c ds := by
  unfold SeqAt.dataPlace ixD
  rw [toPs_map, List.findIdx?_map]; rfl
theorem ms_removeD {G : Gm} {K : PySem.W.Frag} : MutS G (rRemD K) mRemove := by
  intro I H k ds as q ws was ob g ga res k' ds' mu st eH sm z za nd em Q kk
  unfold mRemove at em
  split at em
  · rename_i c
    split at em
    · rename_i hc
      simp only [Bool.and_eq_true] at hc
      split at em
      · rename_i j ej
        cases em; cases st
        obtain ⟨v, vr, g1, g2, rfl, y, ⟨rfl, zz⟩, qq⟩ := za
        have hj : j < ds.length := (List.findIdx?_eq_some_iff_getElem.mp ej).1
        obtain ⟨w, ga1, gb1, ew, yw, rr, qe⟩ := z.erase (n := j) (List.getElem?_eq_getElem hj)
        refine ⟨q, ws, v, toP c, toPs ds, j, rfl, rfl, eH, dpAll_lay sm hc.1.1.1 z, dp_of sm hc.1.1.2 y, hc.1.2, hc.2, (lay_ok hc.1.1.2).2, by rw [place_ix]; exact ej, ?_⟩
        have gq : g q = 0 := by have := nd q; rw [one1_self] at this; omega
        exact kk _ _ gb1 .non z0 rfl rfl (rr.beside (by have := qe q; omega)) ⟨rfl, fun _ => rfl⟩ fun a => by have := qe a; simp; omega
      · cases em
    · cases em
  · cases em
/-! ### range with a step -/
def rngC (lo c : Int) (n : Nat) : List D := (List.range n).map fun (k : Nat) => .sc (.int (lo + (k : Int) * c))
def dR3 (das : DenA) : DenI := fun E => (das E).bind fun r => match conts r.2 r.1 with
  | some [.sc (.int i), .sc (.int j), .sc (.int c)] => if 0 < c ∧ c < 1073741824 ∧ Builtin.Range.small i j c = true then .ok (rngC i c (Builtin.Range.rangeSize i j c).toNat, r.2) else .bad
  | _ => .bad
theorem walk_rngC {G : Gm} {I : Hp} {lo c : Int} {n : Nat} : Walk G I (Itc lo c n) (rngC lo c n) := by
  intro i I1 H1 a b
  refine ⟨fun d ed => ?_, fun hl => show n ≤ i by simpa [rngC] using hl⟩
  unfold rngC at ed
  rw [List.getElem?_map] at ed
  by_cases hi : i < n
  · rw [List.getElem?_range hi] at ed
    cases ed
    refine ⟨hi, fun w H' q => ?_⟩
    obtain ⟨rfl, rfl⟩ := q
    exact ⟨I1, Nw.refl b, rfl, fun _ => rfl⟩
  · rw [List.getElem?_eq_none (by simpa using hi)] at ed; cases ed
theorem Rpi.ints3 {G : Gm} {I H : Hp} {i j k : Int} {ws : List V} (x : Rpi G I H [.sc (.int i), .sc (.int j), .sc (.int k)] ws) : ws = [.int i, .int j, .int k] := by
  obtain ⟨v, vr, g, rfl, ⟨rfl, _⟩, _, e⟩ := x
  rw [Rpi.ints2 e]
theorem rsize_pos {i j c : Int} (h : 0 < c) : 0 ≤ Builtin.Range.rangeSize i j c := by
  unfold Builtin.Range.rangeSize
  rw [if_pos (show c > 0 from h)]
  split
  · have := Int.ediv_nonneg (show 0 ≤ j - i - 1 by omega) (Int.le_of_lt h); omega
  · omega
theorem t_r3 {G : Gm} {W : WX} {p : Bool} {das : DenA} {ta : TA} (ha : ∀ σ H Q, tA G W p das σ H Q → ta σ H Q) : ∀ σ H Q, tI G W (dR3 das) σ H Q → iRng3 ta σ H Q := by
  rintro σ H Q ⟨I, E, vs, f, s, hh⟩
  refine ha _ _ _ ⟨I, E, vs, f, s, hh.fst fun r er h => ?_⟩
  intro ws I' H' f' g s' o n fr e
  split at h
  · rename_i i j c ec
    have ew := Rpi.ints3 (o.conts s' (fun a => by have := n a; omega) ec)
    subst ew
    split at h
    · rename_i hb
      have hp := rsize_pos (i := i) (j := j) hb.1
      exact ⟨i, j, c, (Builtin.Range.rangeSize i j c).toNat, rfl, ⟨by omega, by omega, hb.2.2, by omega⟩, h (Itc i c _) I' H' f' s' ((fr.less fun x z => by simp; omega).imp fun z => by cases z) walk_rngC⟩
    · exact h.elim
  · exact h.elim
theorem jrg3 {X : Cx} {G : Gm} {W : WX} {p : Bool} {das : DenA} {a b c : Expr} {pos : Pos} {tg : Expr} {q : Pos} (hm : X.mg "range" = none) (ha : JA X G W p [a, b, c] das) (hg : Gl X "range" := by rfl)
    (hs : starEach [a, b, c] X.env = (false, eval a X.env) :: starEach [b, c] X.env := by rfl) (hpl : (backTo pos (starEach [b, c] X.env)).any (·.1) = false := by rfl) :
    JI X G W tg (.Call (.Name "range" q) [a, b, c] [] pos) (dR3 das) := PI_imp (pi_range3 hg hm ha hs hpl) (t_r3 (fun _ _ _ h => h))
/-! ### what is new, frozen: nothing else is touched -/
section
variable {G : Gm} {I H : Hp}
theorem Rp.uniq {d : D} : ∀ {v : V} {f f' : Ft}, Rp G I H d v f → Rp G I H d v f' → ∀ a, f a = f' a := by
  refine D.rec (motive_1 := fun d => ∀ {v : V} {f f' : Ft}, Rp G I H d v f → Rp G I H d v f' → ∀ a, f a = f' a) (motive_2 := fun ds => ∀ {vs : List V} {f f' : Ft}, Rps G I H ds vs f → Rps G I H ds vs f' → ∀ a, f a = f' a) ?_ ?_ ?_ ?_ ?_ ?_ ?_ d
  · intro v f f' x y a; rw [x a, y a]
  · intro v f f' x y a; rw [x a, y a]
  · intro w v f f' x y a; rw [x.2 a, y.2 a]
  · intro k ds ih v f f' x y a
    obtain ⟨p, vs, g, o, rfl, s, z, q⟩ := x
    obtain ⟨p', vs', g', o', ep, s', z', q'⟩ := y
    cases ep
    have eo : o = o' := by
      rcases q with ⟨m, _, e, _⟩ | ⟨m, e, _⟩ <;> rcases q' with ⟨m', _, e', _⟩ | ⟨m', e', _⟩
      · exact Option.some.inj (e.symm.trans e')
      · rw [m] at m'; cases m'
      · rw [m] at m'; cases m'
      · exact Option.some.inj (e.symm.trans e')
    subst eo
    have ev := Kd.st_inj s s'
    subst ev
    have hg := ih z z' a
    rcases q with ⟨m, _, _, q⟩ | ⟨m, _, q⟩ <;> rcases q' with ⟨m', _, _, q'⟩ | ⟨m', _, q'⟩
    · rw [q a, q' a, hg]
    · rw [m] at m'; cases m'
    · rw [m] at m'; cases m'
    · rw [q a, q' a, hg]
  · intro xs v f f' x y a; rw [x.2 a, y.2 a]
  · intro vs f f' x y a; rw [x.2 a, y.2 a]
  · intro d ds ih1 ih2 vs f f' x y a
    obtain ⟨v, ws, g, h, rfl, x1, x2, q⟩ := x
    obtain ⟨v', ws', g', h', ev, y1, y2, q'⟩ := y
    cases ev
    rw [q a, q' a, ih1 x1 y1 a, ih2 x2 y2 a]
theorem Rps.uniq : ∀ {ds : List D} {vs : List V} {f f' : Ft}, Rps G I H ds vs f → Rps G I H ds vs f' → ∀ a, f a = f' a
  | [], vs, f, f', x, y, a => by rw [x.2 a, y.2 a]
  | d :: ds, vs, f, f', x, y, a => by
    obtain ⟨v, ws, g, h, rfl, x1, x2, q⟩ := x
    obtain ⟨v', ws', g', h', ev, y1, y2, q'⟩ := y
    cases ev
    rw [q a, q' a, x1.uniq y1 a, Rps.uniq x2 y2 a]
theorem t_coldP {W : WX} {d : Den} : ∀ σ H Q, tO G W true (dCold d) σ H Q → tO G W true d σ H Q := by
  rintro σ H Q ⟨I, E, vs, f, s, h⟩
  refine ⟨I, E, vs, f, s, h.fst fun r er h => ?_⟩
  intro v I' H' f' g s' o n a e
  obtain ⟨op, E'⟩ := r
  cases op with
  | val c =>
    have eE : E' = E := e rfl
    subst eE
    have up : Rps G I' H' E' vs f := s.rp.move a.im fun x z => by
      obtain ⟨n1, o1, e1⟩ := s.rp.trk x z
      have := a.pu rfl x o1 e1
      exact ⟨this.2 n1, this.1.trans e1.symm⟩
    have ef := Rps.uniq up s'.rp
    obtain ⟨I2, s2, y2, b⟩ := Rp.cool s' o n
    have b' : ∀ x o1, H x = some o1 → H' x = some o1 ∧ (I x = none → I2 x = none) := fun x o1 e1 => by
      have p := a.pu rfl x o1 e1
      refine ⟨p.1, fun z => ?_⟩
      by_cases hf : f' x + g x = 0
      · exact b.un x o1 p.1 (by simpa using hf) (p.2 z)
      · by_cases hg : g x = 0
        · have hx : f' x ≠ 0 := by omega
          exact (s2.rp.trk x hx).1
        · rcases a.nw x (by simp; omega) with q | q
          · have := ef x; have := n x; omega
          · rw [q] at e1; cases e1
    refine h v I2 H' f' z0 s2 y2 (fun a => by simp; exact s2.nd a) ?_ (fun _ => rfl)
    have c := ((a.trans b).less (f2 := fadd f' z0) fun x z => by simpa using z)
    exact ⟨c.im, c.kp, c.un, c.nw, fun _ => b'⟩
  | plc i p => exact h v I' H' f' g s' o n a e
end
theorem jcoP {X : Cx} {G : Gm} {W : WX} {e : Expr} {d : Den} (h : JE X G W true e d) : JE X G W true e (dCold d) := PE_imp h t_coldP
/-! ### isinstance of several classes -/
def tysD : List D → Option (List String)
  | [] => some []
  | .sc (.ty m) :: ds => (tysD ds).map (m :: ·)
  | _ :: _ => none
def isiAny (n : String) : List String → Option Bool
  | [] => some false
  | m :: ms => match isiD n m with
    | some true => some true
    | some false => isiAny n ms
    | none => none
def fIsiT : List D → Option D
  | [x, .nd .tup ts] => match tyD x, tysD ts with
    | some n, some ms => (isiAny n ms).map fun b => .sc (.bl b)
    | _, _ => none
  | _ => none
theorem tys_vals {G : Gm} {I H : Hp} : ∀ {ds : List D} {ws : List V} {g : Ft} {ms : List String}, tysD ds = some ms → Rps G I H ds ws g → ws = ms.map V.ty
  | [], ws, g, ms, e, x => by cases e; rw [x.1]; rfl
  | d :: ds, ws, g, ms, e, x => by
    obtain ⟨v, vr, g1, g2, rfl, y, z, _⟩ := x
    cases d with
    | sc w =>
      cases w with
      | ty m =>
        cases e2 : tysD ds with
        | none => have : (tysD ds).map (m :: ·) = some ms := e; rw [e2] at this; cases this
        | some ms' =>
          have : (tysD ds).map (m :: ·) = some ms := e
          rw [e2] at this; cases this
          obtain ⟨rfl, _⟩ := y
          rw [tys_vals e2 z]; rfl
      | _ => cases e
    | _ => cases e
theorem paired_ty : ∀ ms : List String, Paired ClsV (ms.map V.ty) (ms.map Value.type)
  | [] => .nil
  | m :: ms => .cons (.ty m) (paired_ty ms)
theorem kit_any {K : PySem.W.Frag} {n : String} (hn : n = "NoneType" ∨ n = "bool" ∨ n = "int" ∨ n = "str" ∨ n = "tuple" ∨ n = "list" ∨ n = "dict") : ∀ {ms : List String} {b : Bool}, isiAny n ms = some b → PySem.W.kitAny K (.type n) (ms.map Value.type) = some b
  | [], b, h => by cases h; exact kitAny_nil
  | m :: ms, b, h => by
    have h' : (match isiD n m with
      | some true => some true
      | some false => isiAny n ms
      | none => none) = some b := h
    cases e : isiD n m with
    | none => rw [e] at h'; cases h'
    | some c =>
      rw [e] at h'
      refine kitAny_cons (b := c) (kit_ty (isi_kit e hn)) (fun hc => ?_) fun hc => ?_
      · subst hc; exact kit_any hn h'
      · subst hc; cases h'; rfl
theorem os_isiT {G : Gm} {K : PySem.W.Frag} : OpS G (rIsiT K) fIsiT := by
  intro I H ds ws d sm x e Q k
  unfold fIsiT at e
  split at e
  · rename_i a ts
    split at e
    · rename_i n ms en em
      cases eb : isiAny n ms with
      | none => rw [eb] at e; cases e
      | some b =>
        rw [eb] at e; cases e
        obtain ⟨v, w, _, _, rfl, r1, r2⟩ := x.two
        obtain ⟨t, hn⟩ := tyX_of (K := K) sm r1 en
        obtain ⟨p, vs, g, ob, rfl, st, eH, y, _⟩ := Rp.node sm r2
        cases st
        have ev := tys_vals em y
        subst ev
        exact ⟨v, p, _, _, _, b, rfl, eH, paired_ty ms, t, kit_any hn eb, fin_sc sm k⟩
    · cases e
  · cases e
/-! ### a look at all that makes something new -/
mutual
/-- nothing in it is frozen -/
def hotD : D → Bool
  | .sc _ => true
  | .nd k ds => k.mut && hotDs ds
  | _ => false
def hotDs : List D → Bool
  | [] => true
  | d :: ds => hotD d && hotDs ds
end
def dViewL (d : Den) : Den := fun E => match d (fzs E) with
  | .ok r => match r.1 with
    | .val c => if hotD c then .ok (.val c, E) else .bad
    | _ => .bad
  | _ => .bad
section
variable {G : Gm} {W : WX} {pu : Bool}
mutual
theorem Rp.unfz {I I' H : Hp} (h : ∀ a, I' a = none → I a = none) : ∀ {d : D} {v : V} {g : Ft}, hotD d = true → Rp G I' H d v g → Rp G I H d v g
  | .una, v, g, e, x => by cases e
  | .lent, v, g, e, x => by cases e
  | .kl _, v, g, e, x => by cases e
  | .sc _, v, g, e, x => x
  | .nd k ds, v, g, e, x => by
    have e' : (k.mut && hotDs ds) = true := e
    simp only [Bool.and_eq_true] at e'
    obtain ⟨p, vs, g1, o, rfl, s, y, q⟩ := x
    refine ⟨p, vs, g1, o, rfl, s, Rps.unfz h e'.2 y, ?_⟩
    rcases q with ⟨m, n, e1, q⟩ | ⟨m, _⟩
    · exact .inl ⟨m, h p n, e1, q⟩
    · rw [e'.1] at m; cases m
theorem Rps.unfz {I I' H : Hp} (h : ∀ a, I' a = none → I a = none) : ∀ {ds : List D} {vs : List V} {g : Ft}, hotDs ds = true → Rps G I' H ds vs g → Rps G I H ds vs g
  | [], vs, g, e, x => x
  | d :: ds, vs, g, e, x => by
    have e' : (hotD d && hotDs ds) = true := e
    simp only [Bool.and_eq_true] at e'
    obtain ⟨v, ws, g1, g2, rfl, y, z, q⟩ := x
    exact ⟨v, ws, g1, g2, rfl, y.unfz h e'.1, Rps.unfz h e'.2 z, q⟩
end
theorem Stt.viewL {σ : L2.St} {I H : Hp} {E : List D} {vs : List V} {f : Ft} (s : Stt G σ I H E vs f) : ∃ I', Stt G σ I' H (fzs E) vs z0 ∧ (∀ a o, I a = some o → I' a = some o) ∧ (∀ a, f a ≠ 0 → I' a ≠ none) := by
  have im : ∀ a o, I a = some o → (fun a => if f a ≠ 0 then H a else I a) a = some o := fun a o e => by
    by_cases z : f a ≠ 0
    · obtain ⟨n, _⟩ := s.rp.trk a z
      rw [n] at e; cases e
    · simp only [z, if_false]; exact e
  refine ⟨fun a => if f a ≠ 0 then H a else I a, ⟨⟨by rw [fzs_map]; simpa using s.sl.1, fun i d v e n e2 => ?_⟩, fun a o e => ?_, s.rp.freeze im fun a z => by simp [z], fun a => Nat.zero_le _⟩, im, fun a z => ?_⟩
  · rw [fzs_map, List.getElem?_map] at e
    cases e0 : E[i]? with
    | none => rw [e0] at e; cases e
    | some d0 =>
      rw [e0] at e; cases e
      exact s.sl.2 i d0 v e0 (fz_una n) e2
  · by_cases z : f a ≠ 0
    · rw [if_pos z] at e; exact e
    · rw [if_neg z] at e; exact s.sm a o e
  · obtain ⟨n, o, e⟩ := s.rp.trk a z
    show (if f a ≠ 0 then H a else I a) ≠ none
    rw [if_pos z, e]; simp
theorem t_viewL {te : TE} {d : Den} (h0 : ∀ σ H Q, tO G (fun _ _ _ _ => False) pu d σ H Q → te σ H Q) : ∀ σ H Q, tO G W true (dViewL d) σ H Q → te σ H Q := by
  rintro σ H Q ⟨I, E, vs, f, s, h⟩
  obtain ⟨I', s', im, cv⟩ := s.viewL
  unfold dViewL at h
  cases ed : d (fzs E) with
  | ok r =>
    rw [ed] at h
    refine h0 _ _ _ ⟨I', fzs E, vs, z0, s', ?_⟩
    rw [ed]
    intro v I2 H2 f2 g2 s2 o2 n2 a2 e2
    obtain ⟨o, E2⟩ := r
    cases o with
    | plc i p => exact h.elim
    | val c =>
      have h' : Ans G W σ I H f vs (if hotD c then (.ok (.val c, E) : R (Opd × List D)) else .bad) _ := h
      by_cases hc : hotD c = true
      · rw [if_pos hc] at h'
        have im2 : ∀ a o, I a = some o → I2 a = some o := fun a o e => a2.im _ _ (im _ _ e)
        have y : Rp G I H2 c v g2 := Rp.unfz (I' := I2) (fun a n => by
          cases e : I a with
          | none => rfl
          | some o => rw [im2 a o e] at n; cases n) hc o2
        have kp : ∀ a o, H a = some o → H2 a = some o := fun a o e => a2.kp a o e rfl
        have nw : Nw I H I H2 := ⟨fun _ _ e => e, kp, fun _ _ _ n => n, fun a o e => kp _ _ (s.sm _ _ e)⟩
        have gn : ∀ a, g2 a ≠ 0 → f a = 0 := fun a z => by
          obtain ⟨n, _⟩ := Rp.trk o2 a z
          by_cases q : f a = 0
          · exact q
          · have := cv a q
            cases e : I' a with
            | none => exact absurd e this
            | some o => rw [a2.im _ _ e] at n; cases n
        exact h' v I H2 f g2 (s.nw nw) y (fun a => by
          by_cases z : g2 a = 0
          · have := s.nd a; omega
          · have := gn a z; have := n2 a; omega) (nw.fr fun a z => by
          by_cases q : f a = 0
          · right
            rcases a2.nw a (by simp at z ⊢; omega) with r | r
            · exact absurd rfl r
            · exact r
          · left; exact q) (fun _ => rfl)
      · rw [if_neg hc] at h'; exact h'.elim
  | exc c fs E2 => rw [ed] at h; exact h.elim
  | bad => rw [ed] at h; exact h.elim
end
theorem jvwl {X : Cx} {G : Gm} {W : WX} {p : Bool} {e : Expr} {d : Den} (h : JE X G W0 p e d) : JE X G W true e (dViewL d) := PE_imp h (t_viewL fun _ _ _ h => h)
end DL

end
section
set_option maxRecDepth 100000
/-! DL: dicts. -/
namespace DL
open PySem PySem.Spec PyProof.Rows L2 RT
/-! ### keys -/
def keyK : D → Option Key
  | .sc (.int i) => some (.inl i)
  | .sc (.str s) => some (.inr s)
  | _ => none
def keysK : List D → Option (List Key)
  | [] => some []
  | d :: ds => match keyK d, keysK ds with
    | some k, some ks => some (k :: ks)
    | _, _ => none
def keyT : D → Option (List Key)
  | .nd .tup ds => keysK ds
  | _ => none
section
variable {κ : Type} [DecidableEq κ]
/-- where a key stands -/
def kIx (k : κ) : List κ → Option Nat
  | [] => none
  | x :: xs => if x = k then some 0 else (kIx k xs).map (· + 1)
theorem valV_zip {k : κ} : ∀ {ks : List κ} {vs : List V}, ks.length = vs.length → valV (ks.zip vs) k = (kIx k ks).bind fun j => vs[j]?
  | [], vs, _ => rfl
  | x :: ks, [], h => by cases h
  | x :: ks, v :: vs, h => by
    rw [List.zip_cons_cons]
    by_cases e : x = k
    · rw [valV_pos (p := (x, v)) e]
      show _ = (if x = k then some 0 else _).bind _
      rw [if_pos e]; rfl
    · rw [valV_neg (p := (x, v)) e, valV_zip (by simpa using h)]
      show _ = (if x = k then some 0 else _).bind _
      rw [if_neg e]
      cases kIx k ks <;> rfl
theorem kIx_none {k : κ} : ∀ {ks : List κ}, kIx k ks = none → k ∉ ks
  | [], _ => by simp
  | x :: ks, h => by
    have h' : (if x = k then some 0 else (kIx k ks).map (· + 1)) = none := h
    by_cases e : x = k
    · rw [if_pos e] at h'; cases h'
    · rw [if_neg e] at h'
      have : kIx k ks = none := by cases q : kIx k ks with
        | none => rfl
        | some j => rw [q] at h'; cases h'
      intro hm
      rcases List.mem_cons.mp hm with r | r
      · exact e r.symm
      · exact kIx_none this r
theorem kIx_some {k : κ} : ∀ {ks : List κ} {j : Nat}, kIx k ks = some j → ks[j]? = some k
  | [], j, h => by cases h
  | x :: ks, j, h => by
    have h' : (if x = k then some 0 else (kIx k ks).map (· + 1)) = some j := h
    by_cases e : x = k
    · rw [if_pos e] at h'; cases h'; rw [e]; rfl
    · rw [if_neg e] at h'
      cases q : kIx k ks with
      | none => rw [q] at h'; cases h'
      | some i => rw [q] at h'; cases h'; exact (kIx_some q : ks[i]? = some k)
theorem map_other {k : κ} {v : V} : ∀ {ks : List κ} {vs : List V}, k ∉ ks → (ks.zip vs).map (fun kv => if kv.1 = k then (kv.1, v) else kv) = ks.zip vs
  | [], vs, _ => rfl
  | x :: ks, [], _ => rfl
  | x :: ks, w :: vs, h => by
    simp only [List.mem_cons, not_or] at h
    rw [List.zip_cons_cons, List.map_cons, map_other h.2, if_neg (fun e => h.1 e.symm)]
theorem map_set {k : κ} {v : V} : ∀ {ks : List κ} {vs : List V} {j : Nat}, ks.Nodup → kIx k ks = some j → ks.length = vs.length → (ks.zip vs).map (fun kv => if kv.1 = k then (kv.1, v) else kv) = ks.zip (vs.set j v)
  | [], vs, j, _, h, _ => by cases h
  | x :: ks, [], j, _, _, h => by cases h
  | x :: ks, w :: vs, j, nd, h, hl => by
    have nd' := List.nodup_cons.mp nd
    have h' : (if x = k then some 0 else (kIx k ks).map (· + 1)) = some j := h
    rw [List.zip_cons_cons, List.map_cons]
    by_cases e : x = k
    · rw [if_pos e] at h'; cases h'
      rw [if_pos e, map_other (e ▸ nd'.1)]; rfl
    · rw [if_neg e] at h' ⊢
      cases q : kIx k ks with
      | none => rw [q] at h'; cases h'
      | some i =>
        rw [q] at h'; cases h'
        rw [map_set nd'.2 q (by simpa using hl)]; rfl
theorem putK_set {k : κ} {v : V} {ks : List κ} {vs : List V} {j : Nat} (nd : ks.Nodup) (h : kIx k ks = some j) (hl : ks.length = vs.length) : putK (ks.zip vs) k v = ks.zip (vs.set j v) := by
  have hj := (List.getElem?_eq_some_iff.mp (kIx_some h)).1
  have hv : vs[j]? = some vs[j] := List.getElem?_eq_getElem (by omega)
  have e := valV_any k (ks.zip vs)
  rw [valV_zip hl, h] at e
  have e' : ((ks.zip vs).any fun kv => decide (kv.1 = k)) = true := by rw [e]; show (vs[j]?).isSome = true; rw [hv]; rfl
  unfold putK
  rw [if_pos e']
  exact map_set nd h hl
theorem putK_app {k : κ} {v : V} {ks : List κ} {vs : List V} (h : kIx k ks = none) (hl : ks.length = vs.length) : putK (ks.zip vs) k v = (ks ++ [k]).zip (vs ++ [v]) := by
  rw [putK_new v (by rw [valV_zip hl, h]; rfl), List.zip_append hl]; rfl
end
/-- where a key stands in a node: none if it is no key of such a dict -/
def kdIx : Kd → D → Option (Option Nat)
  | .dik _ ks, c => (keyK c).map fun y => kIx y ks
  | .dit _ ks, c => (keyT c).map fun y => kIx y ks
  | _, _ => none
/-- behind a store: in its place, or at the end -/
def setV {α : Type} (ws : List α) (jo : Option Nat) (v : α) : List α := match jo with
  | some j => ws.set j v
  | none => ws ++ [v]
def putIx {κ : Type} [DecidableEq κ] (y : κ) (ks : List κ) : Option (List κ × Option Nat) :=
  if decide ks.Nodup && decide (ks.length < 100000) then (match kIx y ks with
    | some j => some (ks, some j)
    | none => some (ks ++ [y], none)) else none
theorem putIx_ok {κ : Type} [DecidableEq κ] {y : κ} {ks ks' : List κ} {jo : Option Nat} {ws : List V} (v : V) (e : putIx y ks = some (ks', jo)) (hl : ks.length = ws.length) :
    putK (ks.zip ws) y v = ks'.zip (setV ws jo v) ∧ ks'.length = (setV ws jo v).length ∧ (ks.zip ws).length < sizeLine ∧ ∀ j, jo = some j → j < ws.length := by
  unfold putIx at e
  split at e
  · rename_i hc
    simp only [Bool.and_eq_true, decide_eq_true_eq] at hc
    have hz : (ks.zip ws).length < sizeLine := by rw [List.length_zip]; exact line5' (by omega)
    split at e
    · rename_i j ej
      cases e
      have hj := (List.getElem?_eq_some_iff.mp (kIx_some ej)).1
      exact ⟨putK_set hc.1 ej hl, by simpa [setV] using hl, hz, fun i hi => by cases hi; omega⟩
    · rename_i ej
      cases e
      exact ⟨putK_app ej hl, by simpa [setV] using hl, hz, fun i hi => by cases hi⟩
  · cases e
def kdPut : Kd → D → Option (Kd × Option Nat)
  | .dik m ks, c => (keyK c).bind fun y => (putIx y ks).map fun r => (.dik m r.1, r.2)
  | .dit m ks, c => (keyT c).bind fun y => (putIx y ks).map fun r => (.dit m r.1, r.2)
  | _, _ => none
section
variable {G : Gm} {I H : Hp}
theorem keyK_val {c : D} {y : V} {g : Ft} {k : Key} (e : keyK c = some k) (x : Rp G I H c y g) : y = kV k := by
  cases c with
  | sc w =>
    obtain ⟨rfl, _⟩ := x
    cases y with
    | int i => cases e; rfl
    | str s => cases e; rfl
    | _ => cases e
  | _ => cases e
theorem keysK_vals : ∀ {ds : List D} {ws : List V} {g : Ft} {ks : List Key}, keysK ds = some ks → Rps G I H ds ws g → ws = ks.map kV
  | [], ws, g, ks, e, x => by cases e; rw [x.1]; rfl
  | d :: ds, ws, g, ks, e, x => by
    obtain ⟨v, vr, g1, g2, rfl, y, z, _⟩ := x
    unfold keysK at e
    split at e
    · rename_i k ks' e1 e2
      cases e
      rw [keyK_val e1 y, keysK_vals e2 z]; rfl
    · cases e
theorem keyT_val (sm : ∀ a o, I a = some o → H a = some o) {c : D} {y : V} {g : Ft} {k : List Key} (e : keyT c = some k) (x : Rp G I H c y g) : ∃ b, y = .ref b ∧ H b = some (.tup (k.map kV)) := by
  cases c with
  | nd kk ds =>
    cases kk with
    | tup =>
      obtain ⟨p, ws, g1, ob, rfl, st, eH, z, _⟩ := Rp.node sm x
      cases st
      have := keysK_vals e z
      subst this
      exact ⟨p, rfl, eH⟩
    | _ => cases e
  | _ => cases e
theorem kd_get (sm : ∀ a o, I a = some o → H a = some o) {k : Kd} {c : D} {ws : List V} {ob : HO} {a : Addr} {y : V} {g : Ft} {jo : Option Nat} (e : kdIx k c = some jo) (st : k.st G ws ob) (ea : H a = some ob) (x : Rp G I H c y g) : DGet H a y (jo.bind fun j => ws[j]?) := by
  cases k with
  | dik m ks =>
    obtain ⟨hl, rfl⟩ := st
    cases e1 : keyK c with
    | none => have e' : (keyK c).map _ = some jo := e; rw [e1] at e'; cases e'
    | some kk =>
      have e' : (keyK c).map (fun y => kIx y ks) = some jo := e
      rw [e1] at e'; cases e'
      rw [keyK_val e1 x, ← valV_zip hl]
      exact DGet.k ea
  | dit m ks =>
    obtain ⟨hl, rfl⟩ := st
    cases e1 : keyT c with
    | none => have e' : (keyT c).map _ = some jo := e; rw [e1] at e'; cases e'
    | some kk =>
      have e' : (keyT c).map (fun y => kIx y ks) = some jo := e
      rw [e1] at e'; cases e'
      obtain ⟨b, rfl, eb⟩ := keyT_val sm e1 x
      rw [← valV_zip hl]
      exact DGet.t ea eb
  | _ => cases e
/-- behind a store -/
theorem kd_put (sm : ∀ a o, I a = some o → H a = some o) {k k' : Kd} {c : D} {ws : List V} {ob : HO} {a : Addr} {y : V} (v : V) {g : Ft} {jo : Option Nat} (e : kdPut k c = some (k', jo)) (mu : k.mut = true) (st : k.st G ws ob) (ea : H a = some ob) (x : Rp G I H c y g) :
    ∃ ob', DPut H a y v (upd H a ob') ∧ k'.st G (setV ws jo v) ob' ∧ k'.mut = true ∧ (∀ j, jo = some j → j < ws.length) := by
  cases k with
  | dik m ks =>
    obtain ⟨hl, rfl⟩ := st
    have e' : ((keyK c).bind fun y => (putIx y ks).map fun r => (Kd.dik m r.1, r.2)) = some (k', jo) := e
    cases e1 : keyK c with
    | none => rw [e1] at e'; cases e'
    | some kk =>
      rw [e1] at e'
      have e'' : ((putIx kk ks).map fun r => (Kd.dik m r.1, r.2)) = some (k', jo) := e'
      cases e2 : putIx kk ks with
      | none => rw [e2] at e''; cases e''
      | some r =>
        rw [e2] at e''; cases e''
        obtain ⟨h1, h2, h3, h4⟩ := putIx_ok v e2 hl
        rw [keyK_val e1 x]
        exact ⟨.dK (putK (ks.zip ws) kk v), DPut.k ea h3, ⟨h2, by rw [h1]⟩, mu, h4⟩
  | dit m ks =>
    obtain ⟨hl, rfl⟩ := st
    have e' : ((keyT c).bind fun y => (putIx y ks).map fun r => (Kd.dit m r.1, r.2)) = some (k', jo) := e
    cases e1 : keyT c with
    | none => rw [e1] at e'; cases e'
    | some kk =>
      rw [e1] at e'
      have e'' : ((putIx kk ks).map fun r => (Kd.dit m r.1, r.2)) = some (k', jo) := e'
      cases e2 : putIx kk ks with
      | none => rw [e2] at e''; cases e''
      | some r =>
        rw [e2] at e''; cases e''
        obtain ⟨h1, h2, h3, h4⟩ := putIx_ok v e2 hl
        obtain ⟨b, rfl, eb⟩ := keyT_val sm e1 x
        exact ⟨.dT (putK (ks.zip ws) kk v), DPut.t ea eb h3, ⟨h2, by rw [h1]⟩, mu, h4⟩
  | tup => cases e
  | lst m => cases e
  | obj m c ns => cases e
end
/-! ### {} -/
def dNewK : Den := fun E => .ok (.val (.nd (.dik true []) []), E)
def dNewT : Den := fun E => .ok (.val (.nd (.dit true []) []), E)
section
variable {G : Gm} {W : WX} {pu : Bool}
theorem new_nd {σ : L2.St} {I H : Hp} {E : List D} {vs : List V} {f : Ft} {p : Addr} {k : Kd} {o : HO} {Q : VK} (s : Stt G σ I H E vs f) (hp : H p = none) (mu : k.mut = true) (st : k.st G [] o)
    (h : ∀ v I' H' f' g, Stt G σ I' H' E vs f' → OpRel G I' H' E vs (.val (.nd k [])) v g → (∀ a, f' a + g a ≤ 1) → Fr true I H f I' H' (fadd f' g) → (true = true → E = E) → Q v H') : Q (.ref p) (upd H p o) := by
  have nw := Nw.mutP (o := o) s.sm hp
  have f0 := free_of s.rp hp
  have x0 : Rps G I H [] [] z0 := ⟨rfl, fun _ => rfl⟩
  refine h (.ref p) I (upd H p o) f (fadd z0 (one1 p)) (s.nw nw) (new_mut s.sm hp mu st x0) (fun a => ?_) (nw.fr fun a z => ?_) (fun _ => rfl)
  · by_cases q : a = p
    · subst q; simp [one1_self, f0]
    · simp [one1_ne q]; exact s.nd a
  · by_cases q : a = p
    · subst q; exact .inr hp
    · left; simp [one1_ne q] at z; exact z
theorem t_dnewK : ∀ σ H Q, tO G W true dNewK σ H Q → tDNewK σ H Q := by
  rintro σ H Q ⟨I, E, vs, f, s, h⟩ p hp
  exact new_nd (k := .dik true []) s hp rfl ⟨rfl, rfl⟩ h
theorem t_dnewT : ∀ σ H Q, tO G W true dNewT σ H Q → tDNewT σ H Q := by
  rintro σ H Q ⟨I, E, vs, f, s, h⟩ p hp
  exact new_nd (k := .dit true []) s hp rfl ⟨rfl, rfl⟩ h
end
/-! ### d[k] -/
def getDK (r : List Opd × List D) : R (Opd × List D) := match r.1 with
  | [o, q] => match cont r.2 o, cont r.2 q with
    | some (.nd k ds), some c => match kdIx k c with
      | some (some j) => match ds[j]? with
        | some d => (child o j d).bind fun o' => .ok (o', r.2)
        | none => .bad
      | _ => .bad
    | _, _ => .bad
  | _ => .bad
def dDGet (pu2 : Bool) (d1 d2 : Den) : Den := fun E => (aCons pu2 d1 (aCons true d2 aNil) E).bind getDK
def fDIn (neg : Bool) : List D → Option D
  | [c, .nd k _] => (kdIx k c).map fun j => .sc (.bl (j.isSome != neg))
  | _ => none
abbrev rDIn : R2 := fun y x H Q => ∃ a o, x = .ref a ∧ DGet H a y o ∧ Q (.bl o.isSome) H
abbrev rDNotIn : R2 := fun y x H Q => ∃ a o, x = .ref a ∧ DGet H a y o ∧ Q (.bl (!o.isSome)) H
section
variable {G : Gm} {W : WX} {pu : Bool}
theorem t_dget {ta tb : TE} {pu1 pu2 : Bool} {d1 d2 : Den} (h1 : ∀ σ H Q, tO G W pu1 d1 σ H Q → ta σ H Q) (h2 : ∀ σ H Q, tO G W pu2 d2 σ H Q → tb σ H Q) : ∀ σ H Q, tO G W (pu1 && (pu2 && true)) (dDGet (pu2 && true) d1 d2) σ H Q → tDGet ta tb σ H Q := by
  rintro σ H Q ⟨I, E, vs, f, s, hh⟩
  refine (t_acons h1 (t_acons h2 t_anil) σ H (fun ws H' => match ws with | [x, y] => ∃ a v, x = V.ref a ∧ DGet H' a y (some v) ∧ Q v H' | _ => False) ?_ : _)
  refine ⟨I, E, vs, f, s, hh.fst fun r er h => ?_⟩
  intro ws I1 H1 f1 g1 s1 o1 n1 a1 e1
  obtain ⟨os, E1⟩ := r
  unfold getDK at h
  split at h
  · rename_i o q eos
    have eos' : os = [o, q] := eos
    subst eos'
    obtain ⟨v, vr, ga, gb, rfl, oa, ⟨w, vr2, gc, gd, rfl, ob, ⟨rfl, _⟩, qc⟩, qa⟩ := o1
    split at h
    · rename_i k ds c ec eq
      split at h
      · rename_i j ej
        split at h
        · rename_i dd ed
          cases eo : child o j dd with
          | ok o' =>
            rw [eo] at h
            obtain ⟨p, ws, hob, w', rfl, st, eH, lw, ew, rw'⟩ := child_ok s1 oa (fun a => by have := n1 a; have := qa a; omega) ec ed eo
            obtain ⟨g', yk, _⟩ := ob.cont s1 (fun a => by have := n1 a; have := qa a; have := qc a; omega) eq
            have g0 := kd_get s1.sm ej st eH yk
            refine ⟨p, w', rfl, ?_, h w' I1 H1 f1 z0 s1 rw' (fun a => by simp; exact s1.nd a) a1.drop e1⟩
            have e2 : ((some j : Option Nat).bind fun j => ws[j]?) = some w' := ew
            rw [e2] at g0
            exact g0
          | exc _ _ _ => rw [eo] at h; unfold child at eo; split at eo; cases eo; split at eo <;> cases eo
          | bad => rw [eo] at h; exact h.elim
        · exact h.elim
      · exact h.elim
    · exact h.elim
  · exact h.elim
theorem din_core {I H : Hp} {ds : List D} {ws : List V} {d : D} {neg : Bool} (sm : ∀ a o, I a = some o → H a = some o) (x : Rpi G I H ds ws) (e : fDIn neg ds = some d) : ∃ y a o, ws = [y, .ref a] ∧ DGet H a y o ∧ d = .sc (.bl (o.isSome != neg)) := by
  unfold fDIn at e
  split at e
  · rename_i c k ds
    cases ej : kdIx k c with
    | none => rw [ej] at e; cases e
    | some jo =>
      rw [ej] at e; cases e
      obtain ⟨v, w, _, _, rfl, r1, r2⟩ := x.two
      obtain ⟨p, vs, g, ob, rfl, st, eH, y, hlen⟩ := Rp.node sm r2
      have g0 := kd_get sm ej st eH r1
      refine ⟨v, p, _, rfl, g0, ?_⟩
      cases jo with
      | none => rfl
      | some j =>
        have hj : j < vs.length := by
          cases k with
          | dik m ks =>
            cases e1 : keyK c with
            | none => have e' : (keyK c).map _ = _ := ej; rw [e1] at e'; cases e'
            | some kk =>
              have e' : (keyK c).map (fun y => kIx y ks) = some (some j) := ej
              rw [e1] at e'
              have e2 : kIx kk ks = some j := Option.some.inj e'
              have := (List.getElem?_eq_some_iff.mp (kIx_some e2)).1
              rw [← st.1]; exact this
          | dit m ks =>
            cases e1 : keyT c with
            | none => have e' : (keyT c).map _ = _ := ej; rw [e1] at e'; cases e'
            | some kk =>
              have e' : (keyT c).map (fun y => kIx y ks) = some (some j) := ej
              rw [e1] at e'
              have e2 : kIx kk ks = some j := Option.some.inj e'
              have := (List.getElem?_eq_some_iff.mp (kIx_some e2)).1
              rw [← st.1]; exact this
          | _ => cases ej
        show D.sc (.bl (true != neg)) = D.sc (.bl ((vs[j]?).isSome != neg))
        rw [List.getElem?_eq_getElem hj]; rfl
  · cases e
theorem os_din : OpS G (r2l rDIn) (fDIn false) := by
  intro I H ds ws d sm x e Q k
  obtain ⟨y, a, o, rfl, g, rfl⟩ := din_core sm x e
  exact ⟨a, o, rfl, g, by have := fin_sc sm k; simpa using this⟩
theorem os_dnotin : OpS G (r2l rDNotIn) (fDIn true) := by
  intro I H ds ws d sm x e Q k
  obtain ⟨y, a, o, rfl, g, rfl⟩ := din_core sm x e
  exact ⟨a, o, rfl, g, by have := fin_sc sm k; simpa using this⟩
end
/-! ### d[k] = v -/
def putDK (r : List Opd × List D) : S := match r.1 with
  | [.val c, .plc i p, q] => match getP r.2 i p, cont r.2 q with
    | some (.nd k ds), some y => if k.mut then (match kdPut k y with
      | some (k', some j) => .nx (setP r.2 i p (.nd k' (ds.set j c)))
      | some (k', none) => .nx (setP r.2 i p (.nd k' (ds ++ [c])))
      | none => .bad) else .bad
    | _, _ => .bad
  | _ => .bad
def dDPut (p1 p2 : Bool) (d d0 di : Den) : DenS := fun E => (aCons (p1 && (p2 && true)) d (aCons (p2 && true) d0 (aCons true di aNil)) E).toS putDK
section
variable {G : Gm} {W : WX} {pu : Bool}
theorem t_dput {te t0 ti : TE} {p0 p1 p2 : Bool} {d d0 di : Den} (h0 : ∀ σ H Q, tO G W p0 d σ H Q → te σ H Q) (h1 : ∀ σ H Q, tO G W p1 d0 σ H Q → t0 σ H Q) (h2 : ∀ σ H Q, tO G W p2 di σ H Q → ti σ H Q) :
    ∀ D σ H, tS G W [] (dDPut p1 p2 d d0 di) D σ H → sDPut t0 ti te D σ H := by
  rintro D σ H ⟨I, E, vs, f, s, hh⟩
  refine (t_acons h0 (t_acons h1 (t_acons h2 t_anil)) σ H (fun ws H' => match ws with | [v, x, y] => ∃ a H4, x = V.ref a ∧ DPut H' a y v H4 ∧ D.nx σ H4 | _ => False) ?_ : _)
  refine ⟨I, E, vs, f, s, Ans.of_S hh fun r er h => ?_⟩
  intro ws I1 H1 f1 g1 s1 o1 n1 a1 e1
  obtain ⟨os, E1⟩ := r
  unfold putDK at h
  split at h
  · rename_i c i p q eos
    have eos' : os = [.val c, .plc i p, q] := eos
    subst eos'
    obtain ⟨v, vr, ga, gb, rfl, oa, ⟨w, vr2, gc, gd, rfl, ob, ⟨u, vr3, ge, gf, rfl, oc, ⟨rfl, zf⟩, qc⟩, qb⟩, qa⟩ := o1
    split at h
    · rename_i k ds y ep eq
      split at h
      · rename_i mu
        obtain ⟨gi, yi, _⟩ := oc.cont s1 (fun a => by have := n1 a; have := qa a; have := qb a; have := qc a; omega) eq
        obtain ⟨q', ws', hob, g, hr, rfl, st, eH, nI, z, qq, mk⟩ := s1.mutate ob.1 ep mu
        have gq : g q' = 0 := by have := n1 q'; have := qq q'; rw [one1_self] at this; omega
        have gaq : ga q' = 0 := by have := n1 q'; have := qq q'; have := qa q'; rw [one1_self] at *; omega
        split at h
        · rename_i k' j ek
          obtain ⟨ob', dp, st', mu', hj⟩ := kd_put s1.sm v ek mu st eH yi
          obtain ⟨g', z', le⟩ := (z.beside (ob := ob') gq).set0 (n := j) (Rp.beside (ob := ob') oa gaq) (by rw [← z.len]; exact hj j rfl)
          have s2 := mk mu' st' z' fun a => by have := le a; have := n1 a; have := qq a; have := qa a; omega
          refine ⟨q', _, rfl, dp, h σ vs _ _ _ s2 Agr.refl ?_⟩
          have wr := Fr.wrote (I := I1) (H := H1) (ob := ob') (q := q') (f := fadd f1 g1) (f' := fadd (fadd g' (one1 q')) hr) (by have := qq q'; rw [one1_self] at this; simp; omega) fun a z => by
            have := le a; have := qq a; have := qa a; simp at z ⊢; omega
          exact (a1.trans wr).imp fun z => by cases z
        · rename_i k' ek
          obtain ⟨ob', dp, st', mu', hj⟩ := kd_put s1.sm v ek mu st eH yi
          have z' := (z.beside (ob := ob') gq).app (Rps.one (Rp.beside (ob := ob') oa gaq))
          have s2 := mk mu' st' z' fun a => by have := n1 a; have := qq a; have := qa a; simp; omega
          refine ⟨q', _, rfl, dp, h σ vs _ _ _ s2 Agr.refl ?_⟩
          have wr := Fr.wrote (I := I1) (H := H1) (ob := ob') (q := q') (f := fadd f1 g1) (f' := fadd (fadd (fadd g ga) (one1 q')) hr) (by have := qq q'; rw [one1_self] at this; simp; omega) fun a z => by
            have := qq a; have := qa a; simp at z ⊢; omega
          exact (a1.trans wr).imp fun z => by cases z
        · exact h.elim
      · exact h.elim
    · exact h.elim
  · exact h.elim
end
/-! ### {'k': v, ..} -/
def dDisp (ks : List Key) (das : DenA) : Den := fun E => (das E).bind fun r => match opVals r.1 with
  | some ds => if decide ks.Nodup && decide (ds.length = ks.length) then .ok (.val (.nd (.dik true ks) ds), r.2) else .bad
  | none => .bad
section
variable {G : Gm} {W : WX} {pu : Bool} {X : Cx}
theorem merge_app {κ : Type} [DecidableEq κ] : ∀ {ks : List κ} {vs : List V} {ks0 : List κ} {vs0 : List V}, ks0.length = vs0.length → ks.length = vs.length → (ks0 ++ ks).Nodup → (ks.zip vs).foldl (fun acc kv => putK acc kv.1 kv.2) (ks0.zip vs0) = (ks0 ++ ks).zip (vs0 ++ vs)
  | [], [], ks0, vs0, h0, h, nd => by simp
  | [], _ :: _, _, _, _, h, _ => by cases h
  | _ :: _, [], _, _, _, h, _ => by cases h
  | k :: ks, v :: vs, ks0, vs0, h0, h, nd => by
    have hn : k ∉ ks0 := fun m => (List.nodup_append.mp nd).2.2 k m k (List.mem_cons_self ..) rfl
    have hx : kIx k ks0 = none := by
      cases e : kIx k ks0 with
      | none => rfl
      | some j => exact absurd (List.mem_of_getElem? (kIx_some e)) hn
    rw [List.zip_cons_cons, List.foldl_cons]
    show (ks.zip vs).foldl _ (putK (ks0.zip vs0) k v) = _
    rw [putK_app hx h0, merge_app (by simp [h0]) (by simpa using h) (by simpa using nd)]
    simp
/-- the pairs of a display with fixed keys -/
structure JDp (X : Cx) (G : Gm) (W : WX) (pos : Pos) (p : Bool) (keys : List (Option Expr)) (vals : List Expr) (ks : List Key) (das : DenA) : Prop where
  ex : ∃ trs, PPs X pos keys vals trs ∧ ∀ σ H (Q : List (V × V) → Hp → Prop), tA G W p das σ H (fun ws H' => Q ((ks.map kV).zip ws) H') → tPairs trs σ H Q
  len : keys.length = vals.length
  som : keys.all (·.isSome) = true
  kl : keys.length = ks.length
theorem jdp_nil {pos : Pos} : JDp X G W pos true [] [] [] aNil := ⟨⟨[], pps_nil, fun σ H Q h => t_anil σ H _ h⟩, rfl, rfl, rfl⟩
theorem jdp_cons {pos q : Pos} {p1 p2 : Bool} {s : Str} {j : Nat} {e : Expr} {d : Den} {keys : List (Option Expr)} {vals : List Expr} {ks : List Key} {das : DenA} (h : JE X G W p1 e d) (hr : JDp X G W pos p2 keys vals ks das) :
    JDp X G W pos (p1 && p2) (some (.Constant (.str s) j q) :: keys) (e :: vals) (.inr s :: ks) (aCons p2 d das) := by
  obtain ⟨⟨trs, hp, hk⟩, h1, h2, h3⟩ := hr
  refine ⟨⟨_, pps_cons pe_str h hp, fun σ H Q hh => ?_⟩, by simp [h1], by simpa using h2, by simp [h3]⟩
  have := t_acons (G := G) (W := W) (pu1 := p1) (pu2 := p2) (d := d) (ds := das) (fun _ _ _ h => h) (fun _ _ _ h => h) σ H _ hh
  obtain ⟨I, E, vs, f, s, g⟩ := this
  refine ⟨I, E, vs, f, s, g.imp fun r er k => ?_⟩
  intro v I' H' f' g' s' o n fr e
  exact hk _ _ _ (k v I' H' f' g' s' o n fr e)
end
theorem inr_zip : ∀ {ks : List Key} {ws : List V}, (ks.map kV).zip ws = (ks.zip ws).map fun kv => (kV kv.1, kv.2)
  | [], ws => by simp
  | k :: ks, [] => by simp
  | k :: ks, w :: ws => by simp [inr_zip]
section
variable {G : Gm} {W : WX} {pu : Bool} {X : Cx}
theorem t_disp {ks : List Key} {das : DenA} {trs : List (TE × TE)} (h15 : ks.length ≤ 15) (ht : ∀ σ H (Q : List (V × V) → Hp → Prop), tA G W pu das σ H (fun ws H' => Q ((ks.map kV).zip ws) H') → tPairs trs σ H Q) :
    ∀ σ H Q, tO G W pu (dDisp ks das) σ H Q → tDisp trs σ H Q := by
  rintro σ H Q ⟨I, E, vs, f, s, hh⟩ p hp
  have nw := Nw.mutP (o := .dK []) s.sm hp
  have f0 := free_of s.rp hp
  have Ip : I p = none := by
    cases e : I p with
    | none => rfl
    | some u => rw [s.sm _ _ e] at hp; cases hp
  refine ht _ _ _ ⟨I, E, vs, f, s.nw nw, ?_⟩
  have hh1 := Ans.fwd (pu := true) hh (nw.fr (f := f) (g := f) fun a z => .inl z)
  refine hh1.fst fun r er h => ?_
  intro ws I1 H1 f1 g1 s1 o1 n1 a1 e1
  have eh : H1 p = some (.dK []) := a1.kp p _ upd_same f0
  have ei : I1 p = none := a1.un p _ upd_same f0 Ip
  have ef : f1 p + g1 p = 0 := by
    by_cases z : f1 p + g1 p = 0
    · exact z
    · rcases a1.nw p (by simpa using z) with y | y
      · exact absurd f0 y
      · rw [upd_same] at y; cases y
  split at h
  · rename_i ds ed
    split at h
    · rename_i hl
      simp only [Bool.and_eq_true, decide_eq_true_eq] at hl
      have x := o1.vals ed
      have hw : ks.length = ws.length := by rw [x.len]; exact hl.2.symm
      refine ⟨eh, ks.zip ws, inr_zip, by rw [List.length_zip]; omega, ?_⟩
      have em : mergeK [] (ks.zip ws) = ks.zip ws := by
        have := merge_app (ks := ks) (vs := ws) (ks0 := []) (vs0 := []) rfl hw (by simpa using hl.1)
        simpa [mergeK] using this
      rw [em]
      have s2 : Stt G σ I1 (upd H1 p (.dK (ks.zip ws))) r.2 vs f1 := ⟨s1.sl, fun a o e => by rw [upd_ne (by rintro rfl; rw [ei] at e; cases e)]; exact s1.sm a o e, s1.rp.beside (by omega), s1.nd⟩
      have x2 : Rp G I1 (upd H1 p (.dK (ks.zip ws))) (.nd (.dik true ks) ds) (.ref p) (fadd g1 (one1 p)) :=
        ⟨p, ws, g1, _, rfl, ⟨hw, rfl⟩, x.beside (by omega), .inl ⟨rfl, ei, upd_same, fun _ => rfl⟩⟩
      refine h (.ref p) _ _ f1 (fadd g1 (one1 p)) s2 x2 (fun a => ?_) ⟨fun a o e => a1.im a o e, fun a o e z => ?_, fun a o e z y => ?_, fun a z => ?_, fun z a o e => ?_⟩ e1
      · by_cases q : a = p
        · subst q; simp [one1_self]; omega
        · simp [one1_ne q]; exact n1 a
      · rw [upd_ne (by rintro rfl; rw [hp] at e; cases e)]
        exact a1.kp a o (by rw [upd_ne (by rintro rfl; rw [hp] at e; cases e)]; exact e) z
      · exact a1.un a o (by rw [upd_ne (by rintro rfl; rw [hp] at e; cases e)]; exact e) z y
      · by_cases q : a = p
        · subst q; exact .inr hp
        · rcases a1.nw a (by simpa [one1_ne q] using z) with y | y
          · exact .inl y
          · right; rw [upd_ne q] at y; exact y
      · have hne : a ≠ p := by rintro rfl; rw [hp] at e; cases e
        obtain ⟨y1, y2⟩ := a1.pu z a o (by rw [upd_ne hne]; exact e)
        exact ⟨by rw [upd_ne hne]; exact y1, y2⟩
    · exact h.elim
  · exact h.elim
theorem jdisp {pos : Pos} {p : Bool} {keys : List (Option Expr)} {vals : List Expr} {ks : List Key} {das : DenA} (h : JDp X G W pos p keys vals ks das) (h15 : ks.length ≤ 15 := by decide) (h0 : keys ≠ [] := by simp) : JE X G W p (.Dict keys vals pos) (dDisp ks das) := by
  obtain ⟨⟨trs, hp, hk⟩, h1, h2, h3⟩ := h
  exact PE_imp (pe_disp hp h2 h1 h0 (by omega)) (t_disp h15 hk)
end
/-! ### reversed(xs) -/
def dRev (d : Den) : DenI := fun E => (d E).bind fun r => match r.1 with
  | .val (.nd (.lst _) ds) => .ok ((fzs ds).reverse, r.2)
  | _ => .bad
section
variable {G : Gm} {W : WX} {pu : Bool} {X : Cx}
theorem walk_rev {K : PySem.W.Frag} {I H : Hp} {p : Addr} {ds : List D} {ws : List V} (e : I p = some (.lst ws)) (x : Rps G I H ds ws z0) : Walk G I (Itv K p ws.length) ds.reverse := by
  intro i I1 H1 a b
  have sq : SqL K H1 p ws := SqL.of (b _ _ (a _ _ e))
  have hl := x.len
  refine ⟨fun d ed => ?_, fun h => by show ws.length ≤ i; rw [List.length_reverse] at h; omega⟩
  have hi : i < ds.length := by
    have := (List.getElem?_eq_some_iff.mp ed).1
    simpa using this
  rw [List.getElem?_reverse hi] at ed
  obtain ⟨v, ev, y⟩ := x.get0 ed
  have ev' : ws[ws.length - 1 - i]? = some v := by rw [hl]; exact ev
  refine ⟨⟨by omega, ws, v, sq, ev'⟩, fun w H' q => ?_⟩
  obtain ⟨rfl, q⟩ := q
  have := q ws sq
  rw [ev'] at this; cases this
  exact ⟨I1, Nw.refl b, y.up a⟩
theorem t_rev {d : Den} {te : TE} (h0 : ∀ σ H Q, tO G W pu d σ H Q → te σ H Q) : ∀ σ H Q, tI G W (dRev d) σ H Q → iRevA G.K te σ H Q := by
  rintro σ H Q ⟨I, E, vs, f, s, hh⟩
  refine h0 _ _ _ ⟨I, E, vs, f, s, hh.fst fun r er h => ?_⟩
  obtain ⟨o0, E1⟩ := r
  intro v I' H' f' g s' o n fr e
  dsimp only at h
  split at h
  · rename_i m ds
    obtain ⟨I2, p, ws2, ob, s2, rfl, eI, st, x, fr2⟩ := cool_nd s' o n
    cases st
    refine ⟨p, ws2, rfl, .inl ⟨SqL.of (s2.sm _ _ eI), ?_⟩⟩
    exact h (Itv G.K p ws2.length) I2 H' f' s2 ((fr.trans fr2).imp fun z => by cases z) (walk_rev eI x)
  · exact h.elim
theorem jrev {tg e : Expr} {p : Bool} {d : Den} {pos q : Pos} (hK : G.K = X.K) (hm : X.mg "reversed" = none) (h : JE X G W p e d) (hg : Gl X "reversed" := by rfl) (hs : starEach [e] X.env = (false, eval e X.env) :: starEach [] X.env := by rfl) :
    JI X G W tg (.Call (.Name "reversed" q) [e] [] pos) (dRev d) := PI_imp (pi_revA hg hm h hs) (hK ▸ t_rev fun _ _ _ h => h)
end
/-! ### the rules -/
section
variable {X : Cx} {G : Gm} {W : WX} {p p1 p2 : Bool} {a b e o i : Expr} {d d1 d2 d0 di : Den} {pos q : Pos}
theorem jnewK : JE X G W true (.Dict [] [] pos) dNewK := PE_imp pe_dnewK t_dnewK
theorem jnewT : JE X G W true (.Dict [] [] pos) dNewT := PE_imp pe_dnewT t_dnewT
theorem jdget (hu : X.A.units + 64 < cLine) (ha : JE X G W p1 a d1) (hb : JE X G W p2 b d2) (hs : NoSl b := by intro _ _; rfl) : JE X G W (p1 && (p2 && true)) (.Subscript a b pos) (dDGet (p2 && true) d1 d2) := PE_imp (pe_dget (by omega) ha hb hs) (t_dget (fun _ _ _ h => h) (fun _ _ _ h => h))
theorem jdin (hu : X.A.units + 64 < cLine) (ha : JE X G W p1 a d1) (hb : JE X G W p2 b d2) (hm : behindInMarks .In b = false := by rfl) : JE X G W (p1 && (p2 && true)) (.Compare a [.In] [b] pos) (dOp (fDIn false) (aCons (p2 && true) d1 (aCons true d2 aNil))) :=
  PE_imp (pe_cmp (pc_din (by omega) ha hb) hm) (t_op2 (r2 := rDIn) os_din (fun _ _ _ h => h) (fun _ _ _ h => h))
theorem jdnin (hu : X.A.units + 64 < cLine) (ha : JE X G W p1 a d1) (hb : JE X G W p2 b d2) (hm : behindInMarks .NotIn b = false := by rfl) : JE X G W (p1 && (p2 && true)) (.Compare a [.NotIn] [b] pos) (dOp (fDIn true) (aCons (p2 && true) d1 (aCons true d2 aNil))) :=
  PE_imp (pe_cmp (pc_dnotin (by omega) ha hb) hm) (t_op2 (r2 := rDNotIn) os_dnotin (fun _ _ _ h => h) (fun _ _ _ h => h))
theorem jtdin (hu : X.A.units + 64 < cLine) (ha : JE X G W p1 a d1) (hb : JE X G W p2 b d2) (hm : behindInMarks .In b = false := by rfl) : JT X G W (p1 && (p2 && true)) (.Compare a [.In] [b] pos) (dTst (dOp (fDIn false) (aCons (p2 && true) d1 (aCons true d2 aNil)))) :=
  PT_imp (pt_cmp (pc_din (by omega) ha hb) hm) (t_tst (t_op2 (r2 := rDIn) os_din (fun _ _ _ h => h) (fun _ _ _ h => h)))
theorem jtdnin (hu : X.A.units + 64 < cLine) (ha : JE X G W p1 a d1) (hb : JE X G W p2 b d2) (hm : behindInMarks .NotIn b = false := by rfl) : JT X G W (p1 && (p2 && true)) (.Compare a [.NotIn] [b] pos) (dTst (dOp (fDIn true) (aCons (p2 && true) d1 (aCons true d2 aNil)))) :=
  PT_imp (pt_cmp (pc_dnotin (by omega) ha hb) hm) (t_tst (t_op2 (r2 := rDNotIn) os_dnotin (fun _ _ _ h => h) (fun _ _ _ h => h)))
theorem jdput {p0 : Bool} {pos' : Pos} (hu : X.A.units + 64 < cLine) (h0 : JE X G W p0 e d) (h1 : JE X G W p1 o d0) (h2 : JE X G W p2 i di) (hs : swapsWith e (some (.Subscript o i pos')) pos.line X.env = pure false := by rfl) :
    JS X G W [] (.Assign [.Subscript o i pos'] e pos) (dDPut p1 p2 d d0 di) := PS_imp (ps_dput (by omega) h1 h2 h0 hs) (t_dput (fun _ _ _ h => h) (fun _ _ _ h => h) (fun _ _ _ h => h))
end
end DL

end
section
set_option maxRecDepth 100000
/-! DL: shift to the left. -/
namespace DL
open PySem PySem.Spec PyProof.Rows L2
def fShl : List D → Option D := fI2c (fun i j => decide (0 ≤ j ∧ j ≤ 1000 ∧ -1000000 ≤ i ∧ i ≤ 1000000)) fun i j => .int (i * 2 ^ j.toNat)
theorem os_shl {G : Gm} : OpS G (r2l (rI CPow fun i j => .int (i * 2 ^ j.toNat))) fShl := os_I fun i j h => by
  simp only [decide_eq_true_eq] at h
  exact ⟨h.1, by omega, by omega⟩
section
variable {X : Cx} {G : Gm} {W : WX} {p1 p2 : Bool} {a b : Expr} {d1 d2 : Den} {pos : Pos}
theorem jshl (ha : JE X G W p1 a d1) (hb : JE X G W p2 b d2) : JE X G W (p1 && (p2 && true)) (.BinOp a .LShift b pos) (dOp fShl (aCons (p2 && true) d1 (aCons true d2 aNil))) := jop2 op_shl os_shl ha hb
end
theorem ev_fShl (i j : Int) : fShl [.sc (.int i), .sc (.int j)] = if 0 ≤ j ∧ j ≤ 1000 ∧ -1000000 ≤ i ∧ i ≤ 1000000 then some (.sc (.int (i * 2 ^ j.toNat))) else none := by simp [fShl, fI2c]
end DL

end
section
set_option maxRecDepth 100000
set_option autoImplicit true
set_option relaxedAutoImplicit true
/-! DL: enumerate over a tuple. -/
namespace PySem
open Sem (wp)
set_option maxHeartbeats 1000000 in
theorem enB1 {v : Value} {ob : Obj} {Hd : Heap → Prop} (B : Begins v ob Hd) : Meets (Builtin.«enumerate.__new__» ⟨[.type "enumerate", v], []⟩) (fun _ Re sh => Hd sh.heap ∧ Re (.ok (.ret (.ref (sh.heap.push ob).objs.size)))
    { sh with heap := (sh.heap.push ob).push { cls := .type "enumerate", data := .fields #[.none, .bool false, .ref sh.heap.objs.size, rawInt 0, .none, .none] } }) := .of_wp fun prog w A Re sh hx => by
  obtain ⟨hp, gs, dr, tks, oss⟩ := sh
  obtain ⟨hx1, hx2⟩ := hx
  have hsb := sub_enumerate
  have hit : ∀ {A2 : Around} {E2 : Value → Shared → Prop} {Q2 : Value → Shared → Prop}, Q2 (.ref hp.objs.size) ⟨hp.push ob, gs, dr, tks, oss⟩ → wpAny (model prog w) A2 (pyIter v) Q2 E2 ⟨hp, gs, dr, tks, oss⟩ := fun qq => B.iter prog w _ _ ⟨hp, gs, dr, tks, oss⟩ _ hx1 qq
  wp_walk using hit
  refine wpAny_stack_any fun _ => wpAny_pure ?_
  split
  · rename_i cc _ _ _ _ _
    rcases hcc : (cc == Value.type "enumerate") with _ | _ <;> (wp_walk using hit; exact ⟨_, rfl, hx2⟩)
  · wp_walk using hit
    exact ⟨_, rfl, hx2⟩
theorem enum1_begins {prog : Program} {w : World} {A : Around} {E : Value → Shared → Prop} {sh : Shared} {v : Value} {ob : Obj} {Hd : Heap → Prop} {Q : Value → Shared → Prop} (B : Begins v ob Hd) (hh : Hd sh.heap)
    (hq : ∀ h2, IsEnum h2 (sh.heap.objs.size + 1) sh.heap.objs.size 0 .none → h2.get? sh.heap.objs.size = some ob → h2.objs.size = sh.heap.objs.size + 2 → (∀ b o, sh.heap.get? b = some o → h2.get? b = some o) → Q (.ref (sh.heap.objs.size + 1)) { sh with heap := h2 }) :
    wpAny (model prog w) A (call (.type "enumerate") [v]) Q E sh := by
  have hz : (sh.heap.push ob).objs.size = sh.heap.objs.size + 1 := Heap.size_push ..
  refine callType_new F.called_enumerate (by decide) (F.typeCall_enumerate_1 _) (F.newCall_enumerate_1 _) (fun ob2 => F.args_object_init_2 ob2 _) F.entry_enumerate_new (enB1 B) ⟨hh, ?_⟩
  show _ ∧ _
  rw [hz]
  have hen : IsEnum ((sh.heap.push ob).push { cls := .type "enumerate", data := .fields #[.none, .bool false, .ref sh.heap.objs.size, rawInt 0, .none, .none] }) (sh.heap.objs.size + 1) sh.heap.objs.size 0 .none := by
    have hg := Heap.get?_push_size (sh.heap.push ob) (o := { cls := .type "enumerate", data := .fields #[.none, .bool false, .ref sh.heap.objs.size, rawInt 0, .none, .none] }) rfl
    rw [hz] at hg
    exact hg
  exact ⟨⟨_, hen, rfl⟩, hq _ hen (Heap.get?_push_of_some _ (Heap.get?_push_size _ B.free)) (by rw [Heap.size_push, hz]) fun b o x => Heap.get?_push_of_some _ (Heap.get?_push_of_some _ x)⟩
end PySem
namespace L2
open PySem PySem.Spec PyProof.Rows
/-- the tuple at a, each item in a new pair -/
def IteT (K : PySem.W.Frag) (a : Addr) : It where
  go := fun i H => ∃ (xs : List V) (x : V), SqT K H a xs ∧ xs[i]? = some x
  yld := fun i H v H' => ∃ T x, v = .ref T ∧ H T = none ∧ H' = upd H T (.tup [.int (i : Nat), x]) ∧ ∀ xs, SqT K H a xs → xs[i]? = some x
  stop := fun i H => ∃ xs : List V, SqT K H a xs ∧ xs.length ≤ i
theorem turn_enumT {P : Program} {w : World} {K : PySem.W.Frag} {elts : List Expr} {kk : Nat} {tpos : Pos} (a e it : Addr) : Turn P w K (.Tuple elts kk tpos) (IteT K a) [e, it] e
    (fun i h => (∃ old, IsEnum h e it ((i : Nat) : Int) old) ∧ h.IsTupleIter it a i ∧ e ≠ it ∧ a ≠ it ∧ a ≠ e) where
  mem := by simp
  obj := fun i h tn b hb => by
    obtain ⟨⟨old, he⟩, ⟨o, ho, hc, hd⟩, _⟩ := tn
    rcases (show b = e ∨ b = it by simpa using hb) with rfl | rfl
    · exact ⟨_, he, fun v q => nomatch q⟩
    · exact ⟨o, ho, fun v q => by rw [hd] at q; cases q⟩
  keep := fun i h h2 tn kp => by
    obtain ⟨⟨old, he⟩, hi, hne⟩ := tn
    exact ⟨⟨old, kp e (by simp) _ he⟩, hi.at fun o q => kp it (by simp) o q, hne⟩
  item := by
    intro X hP hw hK hc i pins s σ H E I hf tn hgo
    subst hP hw hK
    obtain ⟨⟨old, he⟩, hit, hne, hai, hae⟩ := tn
    obtain ⟨xs, x, hq, hx⟩ := hgo
    obtain ⟨its, rv, pt, hz⟩ := I.tuple hq
    obtain ⟨u, hu, ru⟩ := rv.get hx
    have hu' : its.toArray[i]? = some u := by simpa using hu
    have hel := Heap.lt_size he
    have hil : it < s.heap.objs.size := by
      obtain ⟨_, q, _⟩ := hit
      exact Heap.lt_size q
    have hil2 : i < its.toArray.size := (Array.getElem?_eq_some_iff.mp hu').1
    have D := Draws.tuple (prog := X.prog) (w := X.w) (A := X.A.in1) (I.ok.hd hc) it a hai its.toArray
    refine PySem.wpAny_pyNext_enum_itemD D he ⟨hit, pt⟩ hil2 hne (by simp [hne, Ne.symm hae]) fun y h2 tk hy ho hst hT hsz hkp => ?_
    rw [hu'] at hy
    obtain rfl := Option.some.inj hy
    refine ⟨_, rfl, wpAny_letOwnedTupleGo_enum (s := { s with heap := h2, toks := tk + 1 }) ho fun h3 he3 sb => ?_⟩
    have hT3 : h3.get? s.heap.objs.size = some { cls := .type "tuple", data := .seq #[.int i tk, u] } := (sb.2 _ (Nat.ne_of_gt hel)).trans hT
    have hob : ObjOk X.prog X.w (upd H s.heap.objs.size (.tup [.int (i : Nat), x])) h3 s.heap.objs.size (.tup [.int (i : Nat), x]) := ⟨by show 2 ≤ sizeLine; decide, [.int i tk, u], .cons ⟨_, rfl⟩ (.cons ru .nil), ⟨_, hT3, rfl, _, rfl⟩⟩
    have I2 : Inv X pins σ (upd H s.heap.objs.size (.tup [.int (i : Nat), x])) { s with heap := h3, toks := tk + 1 } :=
      I.turnedNew (ch := [e, it]) (fun b ob hb q => (sb.2 b fun z => hb (by simp [z])).trans (hkp b ob (fun z => hb (by simp [z])) (fun z => hb (by simp [z])) q)) hf (Nat.le_refl _) hob
    refine ⟨.ref s.heap.objs.size, _, I2, rfl, ⟨_, x, rfl, I.hok.fresh (Nat.le_refl _), rfl, fun ys hy => by rw [I.tuple_inj hy hq]; exact hx⟩, ⟨⟨u, ?_⟩, hst.1.at fun o q => (sb.2 it (Ne.symm hne)).trans q, hne, hai, hae⟩, fun b hb => ?_⟩
    · rw [show ((i + 1 : Nat) : Int) = (i : Int) + 1 by omega]
      exact he3
    · have hb2 : b < s.heap.objs.size := by
        rcases (show b = e ∨ b = it by simpa using hb) with rfl | rfl
        · exact hel
        · exact hil
      rw [upd_ne (Nat.ne_of_lt hb2)]
      exact (hf b hb).1
  done := by
    intro X hP hw hK hc i pins s σ H E I hf tn hsp
    subst hP hw hK
    obtain ⟨⟨old, he⟩, hit, hne, hai, hae⟩ := tn
    obtain ⟨xs, hq, hx⟩ := hsp
    obtain ⟨its, rv, pt, hz⟩ := I.tuple hq
    obtain ⟨g0, g1, g2, g3, g4, g5⟩ := hf it (by simp)
    have hl := rv.length
    have D : Draws X.prog X.w X.A.in1 it [it, a] 0 (fun _ _ => False) (fun _ h => h.IsTupleIter it a i ∧ h.IsTuple a its.toArray) :=
      { live := fun _ _ z => let ⟨o, ho, _⟩ := z.1; ⟨o, ho⟩
        frame := fun _ _ _ z hk => ⟨z.1.at fun o q => hk it (by simp) o q, z.2.at fun o q => hk a (by simp) o q⟩
        item := fun _ _ _ _ z => absurd z (Nat.not_lt_zero _)
        done := fun s2 Q2 E2 z hE => wpAny_nextOf_tuple_end (I.ok.hd hc) z.1 z.2 (by simp; omega) hE }
    exact PySem.wpAny_pyNext_enum_endD D he ⟨hit, pt⟩ fun h2 eb => ⟨rfl, I.turned (t' := s.toks) (fun b o hb q => eb b o hb q) g0 g1 g3 g4 g5⟩
  self := fun A i s Q E tn h => let ⟨⟨_, he⟩, _⟩ := tn; wpAny_pyIter_enum he h
def iEnumT (K : PySem.W.Frag) (ta : TA) : TI := fun σ H Rd => ta σ H fun vs H1 => ∃ a xs, vs = [.ref a] ∧ SqT K H1 a xs ∧ Rd (IteT K a) H1
theorem pi_enumT {X : Cx} {e : Expr} {ta : TA} {p pos tpos : Pos} {elts : List Expr} {kk : Nat} (hg : Gl X "enumerate") (hm : X.mg "enumerate" = none) (ha : PA X [e] ta) (hst : starEach [e] X.env = [(false, eval e X.env)] := by rfl) :
    PI X (.Tuple elts kk tpos) (.Call (.Name "enumerate" p) [e] [] pos) (iEnumT X.K ta) := by
  constructor
  intro pins s σ H Rd I h
  refine Call_ (ld_blt I hg hm boot_enumerate (PyProof.Rows.callWith_type1 (thn (ha.run pos pins s σ H _ I h) fun us s1 hres => ?_) hst rfl))
  obtain ⟨vs, H1, I1, r1, a, xs, rfl, hq, q⟩ := hres
  cases r1 with
  | cons r rr =>
    cases rr
    cases r
    obtain ⟨its, rv, pt, hz⟩ := I1.tuple hq
    have hla : a < s1.heap.objs.size := by
      obtain ⟨_, q, _⟩ := id pt
      exact Heap.lt_size q
    refine PySem.enum1_begins (begins_tuple a its.toArray) pt fun h2 hen hio hsz hk => wpAny_pyIter_enum hen ?_
    have I2 : Inv X pins σ H1 { s1 with heap := h2 } := I1.kept (t' := s1.toks) hk
    refine ⟨s1.heap.objs.size + 1, [s1.heap.objs.size + 1, s1.heap.objs.size], _, _, H1, rfl, I2, turn_enumT a (s1.heap.objs.size + 1) s1.heap.objs.size, ⟨⟨.none, hen⟩, ⟨_, hio, rfl, rfl⟩, Nat.succ_ne_self _, Nat.ne_of_lt hla, Nat.ne_of_lt (Nat.lt_succ_of_lt hla)⟩, fun b hb => ?_, q⟩
    have hle : s1.heap.objs.size ≤ b := by
      rcases (show b = s1.heap.objs.size + 1 ∨ b = s1.heap.objs.size by simpa using hb) with rfl | rfl
      · exact Nat.le_succ _
      · exact Nat.le_refl _
    exact I1.fpOk hle (I1.hok.fresh hle)
end L2
namespace DL
open PySem PySem.Spec PyProof.Rows L2
section
variable {G : Gm} {W : WX} {pu : Bool} {das : DenA} {ta : TA}
theorem enumFrom_len : ∀ (ds : List D) (k : Nat), (enumFrom k ds).length = ds.length
  | [], k => rfl
  | d :: ds, k => by simp [enumFrom, enumFrom_len ds]
theorem walk_enumT {K : PySem.W.Frag} {I H : Hp} {p : Addr} {ds : List D} {ws : List V} (e : I p = some (.tup ws)) (x : Rps G I H ds ws z0) : Walk G I (IteT K p) (enumFrom 0 ds) := by
  intro i I1 H1 a b
  have sq : SqT K H1 p ws := SqT.of (b _ _ (a _ _ e))
  refine ⟨fun d ed => ?_, fun hl => ⟨ws, sq, by rw [x.len]; rw [enumFrom_len] at hl; exact hl⟩⟩
  rw [enum_at] at ed
  cases ec : ds[i]? with
  | none => rw [ec] at ed; cases ed
  | some c =>
    rw [ec] at ed; cases ed
    obtain ⟨v, ev, y⟩ := x.get0 ec
    refine ⟨⟨ws, v, sq, ev⟩, fun w H' q => ?_⟩
    obtain ⟨T, u, rfl, nT, rfl, q⟩ := q
    have := q ws sq
    rw [ev] at this; cases this
    have h0 : (0 + i : Nat) = i := by omega
    rw [h0]
    have z := pair_new (T := T) b nT (show Rp G I1 H1 (.sc (.int (i : Nat))) (.int (i : Nat)) z0 from ⟨rfl, fun _ => rfl⟩) (y.up a)
    exact ⟨_, z.1, z.2⟩
def dEnumT (das : DenA) : DenI := fun E => (das E).bind fun r => match r.1 with
  | [.val (.nd .tup ds)] => .ok (enumFrom 0 (fzs ds), r.2)
  | _ => .bad
theorem t_enumT (ha : ∀ σ H Q, tA G W pu das σ H Q → ta σ H Q) : ∀ σ H Q, tI G W (dEnumT das) σ H Q → iEnumT G.K ta σ H Q := by
  rintro σ H Q ⟨I, E, vs, f, s, hh⟩
  refine ha _ _ _ ⟨I, E, vs, f, s, hh.fst fun r er h => ?_⟩
  intro ws I' H' f' g s' o n fr e
  split at h
  · rename_i os ds eo
    obtain ⟨os, E1⟩ := r
    dsimp only at eo
    subst eo
    obtain ⟨v, vr, g1, g2, rfl, y, z, q⟩ := o
    obtain ⟨rfl, hg2⟩ := z
    have hq : ∀ a, g a = g1 a := fun a => by rw [q a, hg2 a]; rfl
    obtain ⟨I2, p, ws2, ob, s2, rfl, eI, st, x, fr2⟩ := cool_nd s' y (fun a => by have := n a; rw [hq a] at this; exact this)
    cases st
    refine ⟨p, ws2, rfl, SqT.of (s2.sm _ _ eI), ?_⟩
    have fr1 : Fr pu I H f I' H' (fadd f' g1) := fr.less fun a z => by have := hq a; simp at z ⊢; omega
    exact h (IteT G.K p) I2 H' f' s2 ((fr1.trans fr2).imp fun z => by cases z) (walk_enumT eI x)
  · exact h.elim
def dEnum2 (das : DenA) : DenI := fun E => (das E).bind fun r => match r.1 with
  | [.val (.nd (.lst _) ds)] => .ok (enumFrom 0 (fzs ds), r.2)
  | [.val (.nd .tup ds)] => .ok (enumFrom 0 (fzs ds), r.2)
  | _ => .bad
theorem t_enum2 (ha : ∀ σ H Q, tA G W pu das σ H Q → ta σ H Q) : ∀ σ H Q, tI G W (dEnum2 das) σ H Q → (iEnum G.K ta σ H Q ∨ iEnumT G.K ta σ H Q) := by
  rintro σ H Q ⟨I, E, vs, f, s, hh⟩
  cases e : das E with
  | ok r =>
    by_cases c : ∃ ds, r.1 = [.val (.nd .tup ds)]
    · obtain ⟨ds, c⟩ := c
      have q : dEnum2 das E = dEnumT das E := by
        obtain ⟨os, E1⟩ := r
        dsimp only at c
        subst c
        unfold dEnum2 dEnumT
        rw [e]; rfl
      rw [q] at hh
      exact .inr (t_enumT ha σ H Q ⟨I, E, vs, f, s, hh⟩)
    · have q : dEnum2 das E = dEnum das E := by
        obtain ⟨os, E1⟩ := r
        unfold dEnum2 dEnum
        rw [e]
        rcases os with _ | ⟨o, _ | ⟨o2, os⟩⟩
        · rfl
        · cases o with
          | val d =>
            cases d with
            | nd k ds =>
              cases k with
              | tup => exact absurd ⟨ds, rfl⟩ c
              | _ => rfl
            | _ => rfl
          | plc i p => rfl
        · cases o with
          | val d =>
            cases d with
            | nd k ds => cases k <;> rfl
            | _ => rfl
          | plc i p => rfl
      rw [q] at hh
      exact .inl (t_enum ha σ H Q ⟨I, E, vs, f, s, hh⟩)
  | exc c fs E2 =>
    have q : dEnum2 das E = dEnum das E := by unfold dEnum2 dEnum; rw [e]; rfl
    rw [q] at hh
    exact .inl (t_enum ha σ H Q ⟨I, E, vs, f, s, hh⟩)
  | bad =>
    have q : dEnum2 das E = dEnum das E := by unfold dEnum2 dEnum; rw [e]; rfl
    rw [q] at hh
    exact .inl (t_enum ha σ H Q ⟨I, E, vs, f, s, hh⟩)
/-- over a list, put aside while it runs, or a tuple -/
def dForE2 (i : Nat) (dg : DenG) (b : DenS) : DenS := fun E => match E[i]? with
  | some (.nd .tup _) => dFor (dEnumT (aCons true (dCopy (rName i)) aNil)) dg b E
  | _ => dForE i dg b E
end
section
variable {X : Cx} {G : Gm} {W : WX} {A B : List Nat} {ss : List Stmt} {ds : DenS} {pos q q2 tpos p : Pos} {elts : List Expr} {kk : Nat} {g : TG} {dg : DenG}
theorem jenum2 {p : Bool} {e : Expr} {das : DenA} {q : Pos} (hK : G.K = X.K) (hm : X.mg "enumerate" = none) (ha : JA X G W p [e] das) (hg : Gl X "enumerate" := by rfl) (hs : starEach [e] X.env = [(false, eval e X.env)] := by rfl) : JI X G W (.Tuple elts kk tpos) (.Call (.Name "enumerate" q) [e] [] pos) (dEnum2 das) :=
  PI_imp (PI_or (pi_enum hg hm ha hs) (pi_enumT hg hm ha hs)) (hK ▸ t_enum2 fun _ _ _ h => h)
theorem jforE2 (i : Nat) {x : Str} (hK : G.K = X.K) (hm : X.mg "enumerate" = none) (hi : i ∉ A ++ B) (hp : PassesOwn (model X.prog X.w) X.A X.env X.xe) (hg : PG X (.Tuple elts kk tpos) g) (ht : TgS G A g dg) (hb : JB X G W B ss ds)
    (hN : X.N[i]? = some x := by rfl) (hv : Vis X.env.scope x := by first | exact Or.inl rfl | exact Or.inr (Or.inl rfl) | exact Or.inr (Or.inr rfl)) (hd : (x == ("__debug__" : Str)) = false := by decide) (hcd : (x == ("__classdict__" : Str)) = false := by decide)
    (hgl : Gl X "enumerate" := by rfl) (hse : starEach [.Name x q] X.env = [(false, eval (.Name x q) X.env)] := by rfl)
    (hc : X.calm = true := by rfl) (hs : ∀ y, foldedSetIterable (.Call (.Name "enumerate" p) [.Name x q] [] q2) X.env y = pure y := by intro _; rfl) : JS X G W (A ++ B) (.For (.Tuple elts kk tpos) (.Call (.Name "enumerate" p) [.Name x q] [] q2) ss [] pos) (dForE2 i dg ds) := by
  have ha : PA X [.Name x q] (tCons (tVar i) tNil) := pa_cons (pv i hN hv hd hcd) pa_nil hse
  refine PS_imp (ps_for hp hc (PI_or (pi_enum hgl hm ha hse) (pi_enumT hgl hm ha hse)) hg hb hs) fun D σ H z => ?_
  have mono : ∀ {w1 w2 : TI} {t : TS}, (∀ Rd, w1 σ H Rd → w2 σ H Rd) → tFor w1 g t D σ H → tFor w2 g t D σ H := fun h z => h _ z
  obtain ⟨I, E, vs, f, s, hh⟩ := z
  unfold dForE2 at hh
  split at hh
  · rename_i ds2 e2
    refine mono (fun Rd z => .inr z) ?_
    rw [← hK]
    exact t_for (di := dEnumT (aCons true (dCopy (rName i)) aNil)) ht (fun σ H Q z => t_enumT (fun σ H Q z => t_acons (fun σ H Q z => t_name σ H Q (t_copy σ H Q z)) (fun σ H Q z => t_anil σ H Q z) σ H Q z) σ H Q z) (fun _ _ _ h => h) D σ H ⟨I, E, vs, f, s, hh⟩
  · refine mono (fun Rd z => .inl z) ?_
    rw [← hK]
    exact t_forE hi ht (fun _ _ _ h => h) D σ H ⟨I, E, vs, f, s, hh⟩
end
end DL

end
section
set_option maxRecDepth 100000
set_option maxHeartbeats 1000000
/-! DL: raise, try .. except own class as e: return a truth. -/
namespace DL
open PySem PySem.Spec PyProof.Rows L2
abbrev veB : List Value := [.type "ValueError", .type "Exception", .type "BaseException", .type "object"]
/-- what the written part says of an exception class without __init__ -/
structure ExK (K : PySem.W.Frag) (C : Addr) : Prop where
  q : PySem.W.excIn K C veB "ValueError.__new__" = true
  kp : PySem.W.keepIn K (.ref C) = true
  s1 : PySem.W.subIn K (.ref C) (.type "BaseException") = some true
  ty : PySem.W.typeIn K (.ref C) = some (.type "type")
section
variable {X : Cx} {G : Gm} {W : WX} {A B : List Nat} {pos p q p2 : Pos} {x m : Str} {j : Nat}
theorem jraise {c : Nat} {ps : Pos} (hK : G.K = X.K) (tk : L2N.Takes X W) (E : ExK G.K (G.cls c)) (gC : X.mg x = some (.ref (G.cls c))) (hc : X.calm = true := by rfl) (hg : Gl X x := by rfl) (hdb : (x == ("__debug__" : Str)) = false := by decide) :
    JS X G W [] (.Raise (some (.Call (.Name x p) [.Constant (.str m) j p2] [] pos)) none ps) (dRaise c) :=
  PS_imp (L2N.ps_raise hc tk (L2N.pmk_own PySem.F.excBase_ValueError (hK ▸ E.q) gC (hK ▸ E.kp) (raises_own (hK ▸ E.s1) (hK ▸ E.ty)) hg hdb)) t_raise
end
/-! ### calls whose exceptions are taken with the slots -/
section
variable {G : Gm} {W : WX} {pu : Bool} {das : DenA} {F : Fn}
theorem t_callS {ta : TA} (ha : ∀ σ H Q, tA G W pu das σ H Q → ta σ H Q) : ∀ σ H Q, tO G W false (dCall F das) σ H Q → tCallS (spOf G F) (WE W) ta σ H Q := by
  rintro σ H Q ⟨I, E, vs, f, s, h⟩
  refine ha _ _ _ ⟨I, E, vs, f, s, h.fst fun x ex h => ?_⟩
  intro ws I1 H1 f1 g1 s1 o1 n1 a1 e1
  show spOf G F ws H1 Q (WE W σ)
  exact call_core (fun cls d H z => z) s1 o1 n1 a1 (h.imp fun r er k v I' H' f' g s o n a => k v I' H' f' g s o n a (fun z => by cases z))
def tMethS2 (C : Addr) (m : Str) (sp : Sp) (E : L2.St → XK) (te : TE) (t : TA) : TE := fun σ H Q => te σ H fun x H1 => ∃ a dx fs, x = .ref a ∧ H1 a = some (.ins C dx fs) ∧ fs.lookup m = none ∧ t σ H1 fun vs H2 => sp (x :: vs) H2 Q (E σ)
theorem t_methS {te : TE} {ta : TA} {c : Nat} {m : Str} {pu1 pu2 : Bool} {d0 : Den} (h0 : ∀ σ H Q, tO G W pu1 d0 σ H Q → te σ H Q) (ha : ∀ σ H Q, tA G W pu2 das σ H Q → ta σ H Q) :
    ∀ σ H Q, tO G W false (dMeth c m F pu2 d0 das) σ H Q → tMethS2 (G.cls c) m (spOf G F) (WE W) te ta σ H Q := by
  rintro σ H Q ⟨I, E, vs, f, s, hh⟩
  refine h0 _ _ _ ⟨I, E, vs, f, s, hh.fst fun r er h => ?_⟩
  intro v I1 H1 f1 g1 s1 o1 n1 a1 e1
  by_cases hc : (isObj c m (cont r.2 r.1) && stab pu2 r.1) = true
  · rw [if_pos hc] at h
    simp only [Bool.and_eq_true] at hc
    obtain ⟨hob, st⟩ := hc
    obtain ⟨mk, ns, ds, ec, hm, hl⟩ := isObj_iff hob
    obtain ⟨a, dx, ws, rfl, ea, el⟩ := obj_at s1 o1 (fun a => by have := n1 a; omega) ec
    refine ⟨a, dx, ns.zip ws, rfl, ea, lookup_zip_none hm, ?_⟩
    have a1' : Fr pu1 I H f I1 H1 f1 := a1.less fun x z => by simp; omega
    refine ha _ _ _ ⟨I1, r.2, vs, f1, s1, (h.fwd a1').fst fun q eq _ => ?_⟩
    intro ws2 I2 H2 f2 g2 s2 o2 n2 a2 e2
    rw [eq] at h
    have o1' := o1.keep st (E1 := q.2) a2 n1 e2
    have n3 := a2.apart (g := g1) o1.trk n1 (fun x => by have := n2 x; simpa using this)
    show spOf G F (.ref a :: ws2) H2 Q (WE W σ)
    have b := ((a1.trans (a2.with (g := g1))).less (f2 := fadd f2 (fadd g1 g2)) fun x z => by simp at z ⊢; omega)
    exact call_core (fun cls d H z => z) s2 (g1 := fadd g1 g2) (os := r.1 :: q.1) ⟨.ref a, ws2, g1, g2, rfl, o1', o2, fun a => rfl⟩ (fun a => by have := n3 a; simp at this ⊢; omega) b (h.imp fun r er k v I' H' f' g s o n a => k v I' H' f' g s o n a (fun z => by cases z))
  · rw [if_neg hc] at h
    exact h.elim
end
section
variable {X : Cx} {G : Gm} {W : WX} {A B : List Nat} {p1 p2 : Bool} {pos q apos : Pos} {e o : Expr} {es : List Expr} {d0 : Den} {das : DenA} {F : Fn} {k : Nat} {f : Addr} {fd : FuncData} {ps : List Str}
theorem jcallS {x : Str} (tk : L2N.Takes X W) (ok : FnOk X.prog X.w X.K X.mg X.base (L2N.CX X.prog X.w) k f fd ps (spOf G F)) (hr : Room k X.A) (hm : X.mg x = some (.ref f))
    (hk : PySem.W.keepIn X.K (.ref f) = true) (hb : Binds X.K fd ps []) (ha : JA X G W p1 (e :: es) das) (hg : Gl X x := by rfl) (hdb : (x == ("__debug__" : Str)) = false := by decide) (he : starEach (e :: es) X.env = (false, eval e X.env) :: starEach es X.env := by rfl)
    (hpl : (backTo pos (starEach es X.env)).any (·.1) = false := by rfl) : JE X G W false (.Call (.Name x q) (e :: es) [] pos) (dCall F das) :=
  PE_imp (pe_callS (E := WE W) ok hr hg hm hk hb (fun σ => L2N.passAt tk σ) ha hdb he hpl) (t_callS (fun _ _ _ h => h))
theorem pe_methS2 {C : Addr} {m : Str} {sp : Sp} {E : L2.St → XK} {te : TE} {t : TA} {pl : Sem Bool} (he : PE X o te) (c : Cls X.K C) (hm : Meth X.K C m f) (Fo : FnOk X.prog X.w X.K X.mg X.base (L2N.CX X.prog X.w) k f fd ps sp) (hr : Room k X.A) (hb : Binds X.K fd ps []) (hx : ∀ σ, PassesAt (L2N.CX X.prog X.w) X σ (E σ)) (ha : PA X (e :: es) t)
    (hst : starEach (e :: es) X.env = (false, eval e X.env) :: starEach es X.env := by rfl) (hpl : (backTo pos (starEach es X.env)).any (·.1) = false := by rfl)
    (ht : eval (.Call (.Attribute o m apos) (e :: es) [] pos) X.env = (do let ov ← eval o X.env; standAt apos.atName; let (f, first) ← holding [ov] (getMethod ov m pl); callWith pos f first (backTo pos (starEach (e :: es) X.env)) (backToKw pos (keywordEach [] X.env))) := by rfl) :
    PE X (.Call (.Attribute o m apos) (e :: es) [] pos) (tMethS2 C m sp E te t) := by
  constructor
  intro pins s σ H Q I h
  refine PySem.W.methodCall_KW (pl := pl) (thn (he.run pins s σ H _ I h) fun u s1 hz => ?_) ht
  obtain ⟨x, H1, I1, rx, a, dx, fs, rfl, ea, l, q⟩ := hz
  cases (show u = Value.ref a from rx)
  refine getmeth_ok I1 ea c hm l ?_
  exact PySem.W.callWith_K (first := [.ref a]) (h₀ := X.base) I.ok.mod.kin hm.kp (thn (ha.run pos pins s1 σ H1 _ I1 q) fun us s2 hz => by
    obtain ⟨vs, H2, I2, r, q2⟩ := hz
    exact ⟨I2.kIn, run_fnS (us := .ref a :: us) (vs := .ref a :: vs) Fo hr hb (hx σ) I2 (.cons rfl r) q2⟩) hst hpl
theorem jmethS {c : Nat} {m : Str} {pl : Sem Bool} (tk : L2N.Takes X W) (cl : Cls X.K (G.cls c)) (hm : Meth X.K (G.cls c) m f) (ok : FnOk X.prog X.w X.K X.mg X.base (L2N.CX X.prog X.w) k f fd ps (spOf G F)) (hr : Room k X.A) (hb : Binds X.K fd ps []) (h0 : JE X G W p1 o d0) (ha : JA X G W p2 (e :: es) das)
    (hst : starEach (e :: es) X.env = (false, eval e X.env) :: starEach es X.env := by rfl) (hpl : (backTo pos (starEach es X.env)).any (·.1) = false := by rfl)
    (ht : eval (.Call (.Attribute o m apos) (e :: es) [] pos) X.env = (do let ov ← eval o X.env; standAt apos.atName; let (f, first) ← holding [ov] (getMethod ov m pl); callWith pos f first (backTo pos (starEach (e :: es) X.env)) (backToKw pos (keywordEach [] X.env))) := by rfl) :
    JE X G W false (.Call (.Attribute o m apos) (e :: es) [] pos) (dMeth c m F p2 d0 das) :=
  PE_imp (pe_methS2 (E := WE W) h0 cl hm ok hr hb (fun σ => L2N.passAt tk σ) ha hst hpl ht) (t_methS (fun _ _ _ h => h) (fun _ _ _ h => h))
end
/-! ### the handler -/
/-- σ holds the exception at slot i -/
abbrev Ext (H H' : Hp) : Prop := ∀ b o, H b = some o → H' b = some o
abbrev hE (i : Nat) (a : Addr) (v : V) : TE := fun σ H Q => σ[i]? = some (some (V.ref a)) ∧ ∀ H', Ext H H' → Q v H'
abbrev hT (i : Nat) (a : Addr) (b : Bool) : TT := fun σ H Q => σ[i]? = some (some (V.ref a)) ∧ ∀ H', Ext H H' → Q b H'
abbrev hS (i : Nat) (a : Addr) (v : V) : TS := fun D σ H => σ[i]? = some (some (V.ref a)) ∧ ∀ H', Ext H H' → D.rt v H'
theorem Stt.ext {G : Gm} {σ : L2.St} {I H H2 : Hp} {E : List D} {vs : List V} {f : Ft} (s : Stt G σ I H E vs f) (x : Ext H H2) : Stt G σ I H2 E vs f :=
  ⟨s.sl, fun a o e => x a o (s.sm a o e), s.rp.move (fun _ _ e => e) fun a ha => by
    obtain ⟨n, o, e⟩ := s.rp.trk a ha
    exact ⟨n, by rw [e, x a o e]⟩, s.nd⟩
theorem Fr.ext {pu : Bool} {I H I1 H1 H2 : Hp} {f f1 : Ft} (r : Fr pu I H f I1 H1 f1) (x : Ext H1 H2) : Fr pu I H f I1 H2 f1 :=
  ⟨r.im, fun a o e z => x a o (r.kp a o e z), r.un, r.nw, fun h a o e => ⟨x a o (r.pu h a o e).1, (r.pu h a o e).2⟩⟩
def rIsE2 (K : PySem.W.Frag) (D a : Addr) : List V → Hp → VK → Prop := fun xs H Q => ∃ (tp : Addr) (cs : List V) (cvs : List Value) (b : Bool), xs = [.ref a, .ref tp] ∧ H tp = some (.tup cs) ∧ (∀ us, Vals cs us → us = cvs) ∧ PySem.W.kitAny K (.ref D) cvs = some b ∧ Q (.bl b) H
section
variable {X : Cx} {a Dc : Addr} {oe : Obj} {pn : List (Addr × Obj)} {i : Nat} {n : Str} {pos p q : Pos}
theorem call_isE2 (C : ExcC X.K Dc) (hz : Zc (.ref Dc) none oe) (hf : ∃ vs, oe.data = .fields vs) : CallR (X.suite a ((a, oe) :: pn)) (.builtin "isinstance") (rIsE2 X.K Dc a) := by
  intro pins s σ H xs us Q I r h
  obtain ⟨tp, cs, cvs, b, rfl, htp, hcv, e, q⟩ := h
  cases r with
  | cons rx rr =>
    cases rr with
    | cons rt rr =>
      cases rr
      cases rx
      cases rt
      obtain ⟨hlen, us2, rus, o, ho, hc, nn, hd⟩ := (show ObjOk X.prog X.w H s.heap tp (.tup cs) from I.hok tp _ htp)
      obtain ⟨oc, od, oda, osl⟩ := o
      simp only at hc hd
      subst hc hd
      have eu := hcv _ rus
      subst eu
      obtain ⟨hget, _⟩ := I.pin (a, oe) (List.mem_append.mpr (.inl List.mem_cons_self))
      obtain ⟨vs, hv⟩ := hf
      have J : PySem.W.InstAt s.heap a oe Dc none := by
        obtain ⟨oc, od, oda, osl⟩ := oe
        obtain ⟨h1, h2⟩ := hz
        dsimp only at h1 h2 hv
        subst h1 h2 hv
        exact ⟨hget, rfl, rfl, trivial⟩
      exact PySem.W.kia_tup (PySem.W.handS_kitx_exc C.hg C.hk C.hs C.hd C.ha C.hn C.ht C.hm) I.kIn J ho e (fun z => nomatch z) fun tk => ⟨.bl b, H, I.kept (t' := tk) fun _ _ z => z, rfl, q⟩
/-- the name of a class in the suite -/
structure CN (Y : Cx) (x : Str) (v : V) (cv : Value) : Prop where
  pe : ∀ p, PE Y (.Name x p) (tC v)
  is : ∀ u, RelV v u → u = cv
theorem cn_own {Y : Cx} {x : Str} {C : Addr} (gC : Y.mg x = some (.ref C)) (hg : Gl Y x := by rfl) (hdb : (x == ("__debug__" : Str)) = false := by decide) : CN Y x (.ref C) (.ref C) := ⟨fun p => pe_glob hg gC rfl hdb, fun u r => r⟩
theorem cn_ve {Y : Cx} (hm : Y.mg "ValueError" = none) (hg : Gl Y "ValueError" := by rfl) : CN Y "ValueError" (.ty "ValueError") (.type "ValueError") := ⟨fun p => pe_bltn hg hm (by decide +kernel) rfl, fun u r => r⟩
variable {Y : Cx}
theorem he_isi {x : Str} {v : V} {cv : Value} {b : Bool} {p3 : Pos} (hY : Y = X.suite a ((a, oe) :: pn)) (C : ExcC X.K Dc) (hz : Zc (.ref Dc) none oe) (hf : ∃ vs, oe.data = .fields vs) (hm : Y.mg "isinstance" = none) (hc : CN Y x v cv) (e : PySem.W.kitOne X.K (.ref Dc) cv = some b)
    (hN : Y.N[i]? = some n := by rfl) (hv : Vis Y.env.scope n := by first | exact Or.inl rfl | exact Or.inr (Or.inl rfl) | exact Or.inr (Or.inr rfl)) (hd : (n == ("__debug__" : Str)) = false := by decide) (hcd : (n == ("__classdict__" : Str)) = false := by decide) (hg : Gl Y "isinstance" := by rfl)
    (h1 : starEach [.Name n q, .Name x p3] Y.env = (false, eval (.Name n q) Y.env) :: starEach [.Name x p3] Y.env := by rfl) (h2 : starEach [.Name x p3] Y.env = (false, eval (.Name x p3) Y.env) :: starEach [] Y.env := by rfl) (h3 : (backTo pos (starEach [.Name x p3] Y.env)).any (·.1) = false := by rfl) :
    PE Y (.Call (.Name "isinstance" p) [.Name n q, .Name x p3] [] pos) (hE i a (.bl b)) := by
  subst hY
  refine PE_imp (pe_callB (call_isE C hz hf) hg hm (by decide +kernel) (pa_cons (pv i hN hv hd hcd) (pa_cons (hc.pe p3) pa_nil h2) h1) (by decide) (by decide) h1 h3) fun σ H Q h => ?_
  exact ⟨_, h.1, _, cv, b, rfl, hc.is, e, h.2 H fun _ _ z => z⟩
theorem he_not {e : Expr} {b : Bool} (h : PE Y e (hE i a (.bl b))) : PE Y (.UnaryOp .Not e pos) (hE i a (.bl (!b))) := PE_imp (pe_not h) fun σ H Q z => ⟨z.1, fun H' x => ⟨b, rfl, z.2 H' x⟩⟩
theorem he_one {op : BoolOp} {e : Expr} {v : V} (h : PE Y e (hE i a v)) : PE Y (.BoolOp op [e] pos) (hE i a v) := pe_one h
theorem he_and {e e2 : Expr} {es : List Expr} {b b2 : Bool} (h : PE Y e (hE i a (.bl b))) (h2 : PE Y (.BoolOp .And (e2 :: es) pos) (hE i a (.bl b2))) : PE Y (.BoolOp .And (e :: e2 :: es) pos) (hE i a (.bl (b && b2))) := PE_imp (pe_and h h2) fun σ H Q z => by
  refine ⟨z.1, fun H' x => ⟨b, rfl, ?_⟩⟩
  cases b with
  | true => exact ⟨z.1, fun H2 x2 => z.2 H2 fun c o q => x2 c o (x c o q)⟩
  | false => exact z.2 H' x
theorem he_bl {b : Bool} {j : Nat} : PE Y (.Constant (.bool b) j pos) (hE i a (.bl b)) := PE_imp pe_bl fun σ H Q z => z.2 H fun _ _ q => q
theorem ht_of {e : Expr} {b : Bool} (h : PT Y e (tB (hE i a (.bl b)))) : PT Y e (hT i a b) := PT_imp h fun σ H Q z => ⟨z.1, fun H' x => ⟨b, rfl, z.2 H' x⟩⟩
theorem hs_ret {e : Expr} {v : V} (h : PE Y e (hE i a v)) : PS Y (.Return (some e) pos) (hS i a v) := PS_imp (ps_ret h) fun D σ H z => z
theorem hs_one {st : Stmt} {v : V} (h : PS Y st (hS i a v)) : PSs Y [st] (hS i a v) := pss_one h
theorem hs_if {t : Expr} {ss rest : List Stmt} {b : Bool} {v w : V} (ht : PT Y t (hT i a b)) (h1 : PSs Y ss (hS i a v)) (h2 : PSs Y rest (hS i a w)) : PSs Y (.If t ss [] pos :: rest) (hS i a (if b then v else w)) := PSs_imp (pss_cons (ps_if ht h1 pss_nil) h2) fun D σ H z => by
  refine ⟨z.1, fun H' x => ?_⟩
  cases b with
  | true => exact ⟨z.1, fun H2 x2 => z.2 H2 fun c o q => x2 c o (x c o q)⟩
  | false => exact ⟨z.1, fun H2 x2 => z.2 H2 fun c o q => x2 c o (x c o q)⟩
/-- several names of classes -/
structure CNs (Y : Cx) (es : List Expr) (vs : List V) (cvs : List Value) : Prop where
  pa : PA Y es (fun _ H Q => Q vs H)
  is : ∀ us, Vals vs us → us = cvs
theorem cns_nil : CNs Y [] [] [] := ⟨pa_nil, fun us r => by cases r; rfl⟩
theorem cns_cons {x : Str} {v : V} {cv : Value} {es : List Expr} {vs : List V} {cvs : List Value} {p3 : Pos} (c : CN Y x v cv) (r : CNs Y es vs cvs) (h : starEach (.Name x p3 :: es) Y.env = (false, eval (.Name x p3) Y.env) :: starEach es Y.env := by rfl) : CNs Y (.Name x p3 :: es) (v :: vs) (cv :: cvs) :=
  ⟨PA_imp (pa_cons (c.pe p3) r.pa h) fun σ H Q z => z, fun us r2 => by
    cases r2 with
    | cons r3 r4 => rw [c.is _ r3, r.is _ r4]⟩
theorem he_isi2 {es : List Expr} {vs : List V} {cvs : List Value} {b : Bool} {p3 : Pos} {kx : Nat} (hY : Y = X.suite a ((a, oe) :: pn)) (C : ExcC X.K Dc) (hz : Zc (.ref Dc) none oe) (hf : ∃ vs, oe.data = .fields vs) (hm : Y.mg "isinstance" = none) (hc : CNs Y es vs cvs) (e : PySem.W.kitAny X.K (.ref Dc) cvs = some b) (hl : vs.length ≤ 100 := by simp)
    (hN : Y.N[i]? = some n := by rfl) (hv : Vis Y.env.scope n := by first | exact Or.inl rfl | exact Or.inr (Or.inl rfl) | exact Or.inr (Or.inr rfl)) (hd : (n == ("__debug__" : Str)) = false := by decide) (hcd : (n == ("__classdict__" : Str)) = false := by decide) (hg : Gl Y "isinstance" := by rfl)
    (h1 : starEach [.Name n q, .Tuple es kx p3] Y.env = (false, eval (.Name n q) Y.env) :: starEach [.Tuple es kx p3] Y.env := by rfl) (h2 : starEach [.Tuple es kx p3] Y.env = (false, eval (.Tuple es kx p3) Y.env) :: starEach [] Y.env := by rfl) (h3 : (backTo pos (starEach [.Tuple es kx p3] Y.env)).any (·.1) = false := by rfl) :
    PE Y (.Call (.Name "isinstance" p) [.Name n q, .Tuple es kx p3] [] pos) (hE i a (.bl b)) := by
  subst hY
  refine PE_imp (pe_callB (call_isE2 C hz hf) hg hm (by decide +kernel) (pa_cons (pv i hN hv hd hcd) (pa_cons (pe_tup hc.pa) pa_nil h2) h1) (by decide) (by decide) h1 h3) fun σ H Q h => ?_
  refine ⟨_, h.1, by rw [sizeLine_eq]; omega, fun p hp => ⟨p, vs, cvs, b, rfl, upd_same, hc.is, e, h.2 _ fun c o z => ?_⟩⟩
  by_cases q : c = p
  · subst q; rw [hp] at z; cases z
  · rw [upd_ne q]; exact z
end
/-! ### try -/
/-- what is raised of the class c0, without fields, is answered by v -/
def dTryC (i c0 : Nat) (v : V) (b : DenS) : DenS := fun E => match b E with
  | .exc c fs E' => match E'[i]?, fs with
    | some .una, [] => if c = c0 then .rt (.sc v) E' else .bad
    | _, _ => .bad
  | s => s
section
variable {X : Cx} {G : Gm} {W : WX} {A : List Nat} {b₀ : Stmt} {body suite : List Stmt} {db : DenS} {np pos pos' : Pos} {x n : Str} {i c0 : Nat} {cP : Addr} {v : V}
theorem jtryC (hK : G.K = X.K) (hs : X.stack = X.env :: X.outer) (hf : X.env.frame = some X.env.locals) (hN : X.N.Nodup) (tk : L2N.Takes X W) (gP : X.mg x = some (.ref cP)) (em : PySem.W.exmOne X.K (.ref (G.cls c0)) (.ref cP) = some true) 
    (hb : ∀ (W' : WX) (pn : List (Addr × Obj)) (xe : Value → Shared → Prop), L2N.Takes (X.tr pn xe) W' → PassesOwn (model X.prog X.w) X.A X.env xe → JB (X.tr pn xe) G W' A body db)
    (hsu : ∀ (a : Addr) (oe : Obj) (pn : List (Addr × Obj)), Zc (.ref (G.cls c0)) none oe → (∃ vs, oe.data = .fields vs) → PSs (X.suite a ((a, oe) :: pn)) (b₀ :: suite) (hS i a v)) (sv : ∀ a, v ≠ .ref a)
    (hi : X.N[i]? = some n := by rfl) (hln : X.env.kindOf n = some .local := by rfl) (hg : Gl X x := by rfl) (hdb : (x == ("__debug__" : Str)) = false := by decide) :
    JS X G W A (.Try body [.ExceptHandler (some (.Name x np)) (some n) (b₀ :: suite) pos'] [] [] pos) (dTryC i c0 v db) := by
  refine PS_imp (L2N.ps_try_as (c := .ref cP) (i := i) (tb := fun W' => tS G W' A db) (ts := fun a cls d D σ H => (cls = .ref (G.cls c0) ∧ d = none) ∧ hS i a v D σ H) (Wout := W) hs hf hN hi hln ⟨hg, hdb, .inl gP⟩ tk (fun W' pn xe t1 t2 => hb W' pn xe t1 t2)
    (fun a oe cls d pn hz hv => ⟨fun pins s σ H D I h => by
      obtain ⟨⟨rfl, rfl⟩, h⟩ := h
      exact (hsu a oe pn hz.zc hv).run pins s σ H D I h⟩)) fun D σ H z => ?_
  obtain ⟨I, E, vs, f, s, hh⟩ := z
  refine ⟨I, E, vs, f, s, ?_⟩
  unfold dTryC at hh
  cases e : db E with
  | exc c fs E' =>
    rw [e] at hh
    dsimp only at hh
    split at hh
    · rename_i eI
      split at hh
      · rename_i hcc
        subst hcc
        intro cls d σ' vs' I' H' f' s' ag ex fr
        obtain ⟨rfl, ⟨_, rfl⟩ | ⟨z, _⟩⟩ := ex
        · have hil : i < E'.length := (List.getElem?_eq_some_iff.mp eI).1
          have hl : i < σ'.length := by rw [s'.sl.1]; exact hil
          refine ⟨true, em, fun _ a ha => ⟨⟨rfl, rfl⟩, ?_, ?_⟩, fun z => by cases z⟩
          · rw [List.getElem?_set_self hl]
          · exact fun H2 x => hh v σ' vs' I' H2 f' z0 (s'.ext x) ag ⟨rfl, fun _ => rfl⟩ (fun a => by simpa using s'.nd a) ((fr.ext x).less fun x z => by simpa using z)
        · exact absurd rfl z
      · exact hh.elim
    · exact hh.elim
  | nx E' => rw [e] at hh; exact hh
  | bk E' => rw [e] at hh; exact hh
  | ct E' => rw [e] at hh; exact hh
  | rt d E' => rw [e] at hh; exact hh
  | bad => rw [e] at hh; exact hh
end
end DL

end
section
set_option maxRecDepth 100000
set_option maxHeartbeats 1000000
/-! DL: what is never reached; a new instance in a try body. -/
namespace DL
open PySem PySem.Spec PyProof.Rows L2
def dNo : Den := fun _ => .bad
section
variable {X : Cx} {G : Gm} {W : WX} {p : Bool} {e : Expr}
theorem jno : JE X G W p e dNo := ⟨fun pins s σ H Q I h => by
  obtain ⟨_, _, _, _, _, h⟩ := h
  exact h.elim⟩
end
section
variable {X : Cx} {CX : CXT} {k : Nat} {f C : Addr} {fd : FuncData} {ps : List Str} {sp : Sp} {E : L2.St → XK} {x : Str} {p pos : Pos} {e : Expr} {es : List Expr} {t : TA}
theorem run_makeS {pins : List (Addr × Obj)} {σ : L2.St} {H : Hp} {s : Shared} {Q : VK} {us : List Value} {vs : List V} (M : Mk X.K C f) (F : FnOk X.prog X.w X.K X.mg X.base CX k f fd ps sp) (hr : Room (k + 1) X.A) (hb : Binds X.K fd ps [])
    (hx : PassesAt CX X σ (E σ)) (I : Inv X pins σ H s) (r : Vals vs us)
    (h : ∀ x dx, H x = none → H dx = none → dx ≠ x → sp (.ref x :: vs) (upd (upd H dx (.own x)) x (.ins C dx [])) (fun v H2 => v = .non ∧ Q (.ref x) H2) (E σ)) :
    wpAny (model X.prog X.w) X.A (call (.ref C) us) (EP X pins σ Q) X.xe s := by
  have I2 := Inv.made (C := C) I
  have hq := h (s.heap.objs.size + 1) s.heap.objs.size (I.hok.fresh (Nat.le_succ _)) (I.hok.fresh (Nat.le_refl _)) (fun z => absurd z (by show s.heap.objs.size ≠ s.heap.objs.size + 1; omega))
  have r2 : Vals (V.ref (s.heap.objs.size + 1) :: vs) (Value.ref (s.heap.objs.size + 1) :: us) := .cons rfl r
  have hl : (Value.ref (s.heap.objs.size + 1) :: us).length = ps.length := by rw [← r2.length]; exact F.len _ _ _ _ hq
  have b := hb _ _ I2.kIn (by rw [List.append_nil]; exact hl)
  rw [List.append_nil] at b
  have run := F.run _ X.stack _ _ ⟨Value.ref (s.heap.objs.size + 1) :: us, []⟩ _ _ _ (E σ) (hr.make C us []) (I2.env0.make C us []) b r2 hq
  refine wpAny_call (make_map (f := f) I.kIn M.makes M.init (beq_iff_eq.mp M.fn) (codeAny_mono run fun a s2 g => ?_))
  match a, g with
  | .error ev, g => exact hx pins _ _ ev s2 I2 g
  | .ok (.ret u), g =>
    obtain ⟨v, H2, I3, rv, rfl, q⟩ := I2.after g
    exact ⟨rv, V.ref (s.heap.objs.size + 1), H2, I3, rfl, q⟩
  | .ok .next, g => exact False.elim g
  | .ok .brk, g => exact False.elim g
  | .ok .cont, g => exact False.elim g
def tMakeS (C : Addr) (sp : Sp) (E : L2.St → XK) (t : TA) : TE := fun σ H Q => t σ H fun vs H1 => ∀ x dx, H1 x = none → H1 dx = none → dx ≠ x → sp (.ref x :: vs) (upd (upd H1 dx (.own x)) x (.ins C dx [])) (fun v H2 => v = .non ∧ Q (.ref x) H2) (E σ)
theorem pe_makeS (M : Mk X.K C f) (F : FnOk X.prog X.w X.K X.mg X.base CX k f fd ps sp) (hr : Room (k + 1) X.A) (hg : Gl X x) (hm : X.mg x = some (.ref C)) (hb : Binds X.K fd ps []) (hx : ∀ σ, PassesAt CX X σ (E σ)) (ha : PA X (e :: es) t)
    (hdb : (x == ("__debug__" : Str)) = false := by decide) (he : starEach (e :: es) X.env = (false, eval e X.env) :: starEach es X.env := by rfl) (hpl : (backTo pos (starEach es X.env)).any (·.1) = false := by rfl) : PE X (.Call (.Name x p) (e :: es) [] pos) (tMakeS C sp E t) := by
  constructor
  intro pins s σ H Q I h
  refine wpAny_Call_Name_kw (ld_glob I hg hm ?_ hdb)
  refine PySem.W.callWith_K (h₀ := X.base) I.ok.mod.kin M.kp (thn (ha.run pos pins s σ H _ I h) fun us s1 z => ?_) he hpl
  obtain ⟨vs, H1, I1, r, q⟩ := z
  exact ⟨I1.kIn, run_makeS M F hr hb (hx σ) I1 r q⟩
end
section
variable {X : Cx} {G : Gm} {W : WX} {p : Bool} {q pos : Pos} {e : Expr} {es : List Expr} {das : DenA} {F : Fn} {k : Nat} {f : Addr} {fd : FuncData} {ps : List Str}
theorem t_makeS {ta : TA} {c : Nat} (ha : ∀ σ H Q, tA G W p das σ H Q → ta σ H Q) : ∀ σ H Q, tO G W false (dMake c F das) σ H Q → tMakeS (G.cls c) (spOf G F) (WE W) ta σ H Q := by
  intro σ H Q h
  have m := t_make (W := fun cls d _ H => W cls d σ H) (ta := tA G (fun cls d _ H => W cls d σ H) p das) (Ex := WE W σ) (fun _ _ _ _ z => z) (fun _ _ _ z => z) σ H Q h
  refine ha σ H _ ?_
  have m : tA G W p das σ H _ := m
  obtain ⟨I, E, vs, f, s, m⟩ := m
  refine ⟨I, E, vs, f, s, m.imp fun r er n ws I' H' f' g s1 o1 n1 a1 e1 x dx h1 h2 h3 => ?_⟩
  have := n ws I' H' f' g s1 o1 n1 a1 e1 x dx h1 h2 h3
  rwa [List.append_nil] at this
theorem jmakeS {c : Nat} {x : Str} (tk : L2N.Takes X W) (M : Mk X.K (G.cls c) f) (ok : FnOk X.prog X.w X.K X.mg X.base (L2N.CX X.prog X.w) k f fd ps (spOf G F)) (hr : Room (k + 1) X.A) (hm : X.mg x = some (.ref (G.cls c))) (hb : Binds X.K fd ps []) (ha : JA X G W p (e :: es) das)
    (hg : Gl X x := by rfl) (hdb : (x == ("__debug__" : Str)) = false := by decide) (he : starEach (e :: es) X.env = (false, eval e X.env) :: starEach es X.env := by rfl) (hpl : (backTo pos (starEach es X.env)).any (·.1) = false := by rfl) :
    JE X G W false (.Call (.Name x q) (e :: es) [] pos) (dMake c F das) := PE_imp (pe_makeS (E := WE W) M ok hr hg hm hb (fun σ => L2N.passAt tk σ) ha hdb he hpl) (t_makeS fun _ _ _ h => h)
end
end DL

end
section
set_option maxRecDepth 100000
set_option maxHeartbeats 3200000
/-! DL: sorted(set(list of ints)). -/
namespace DL
open PySem PySem.Spec PyProof PyProof.Rows L2
section
variable {P : Program} {w : World} {A : Around} {E : Value → Shared → Prop} {s : Shared}
/-- a set without members, as it is made -/
def eSet (w : World) : Obj := { cls := .type "set", dict := none, data := .set #[] 0 (.fresh 0 0 (!w.params.followText "set-order")) }
/-- what the list's filling answers -/
def Filled (w : World) (h0 : Heap) (a : Addr) (ns : List Int) (s s2 : Shared) : Prop :=
  ∃ h2 tk c, s2 = { s with heap := h2, toks := tk } ∧ SetR w h2 a (fun j => decide (j ∈ ns)) c ∧ c ≤ ns.length ∧ ∀ b o, h0.get? b = some o → h2.get? b = some o
theorem vals_at {items : Array Value} {ns : List Int} (hit : IntsAre items.toList ns) (i : Nat) (v : Value) (hv : items[i]? = some v) : ∃ k t, ns[i]? = some k ∧ v = .int k t := by
  have hl := IntsAre.length hit
  have hi : i < ns.length := by rw [← hl, Array.length_toList]; exact (Array.getElem?_eq_some_iff.mp hv).1
  obtain ⟨t, e⟩ := IntsAre.int_at hit i v (by rw [Array.getElem?_toList]; exact hv)
  exact ⟨ns[i], t, List.getElem?_eq_getElem hi, by rw [e]; simp [List.getD_eq_getElem?_getD, hi]⟩
theorem fill_list {l a : Addr} {items : Array Value} {ns : List Int} {h0 : Heap} (hh : A.handled = none) (ha : s.heap.get? a = some (eSet w)) (hl : s.heap.IsList l items) (hit : IntsAre items.toList ns) (hb : ns.length + 1 < scanBound)
    (hla : l ≠ a) (hk : ∀ b o, h0.get? b = some o → b ≠ a ∧ s.heap.get? b = some o) :
    wpAny (model P w) A (Builtin.«set.__init__» ⟨[.ref a, .ref l], []⟩) (fun f s2 => f = .done (.ret .none) ∧ Filled w h0 a ns s s2) E s := by
  have hsz : items.size = ns.length := by rw [← IntsAre.length hit, Array.length_toList]
  have hl0 := hl
  obtain ⟨ol, hol, hcl, nl, hdl⟩ := hl
  obtain ⟨oc, od, oda, osl⟩ := ol
  dsimp only at hcl hdl
  subst hcl hdl
  have t1 := F.sub_list_set
  have t2 := F.sub_list_frozenset
  have t3 : (Value.type "list" == Value.type "dict") = false := by decide
  unfold Builtin.«set.__init__» noKeywords Builtin.Frozenset.updateFrom
  generalize hPI : pyIter = PI
  wp_walk
  subst hPI
  refine wpAny_pyIter_list hl0 (wpAny_bind (wpAny_runValue ?_))
  have lt1 := Heap.lt_size hol
  have lt2 := Heap.lt_size ha
  have q : A.in1.handled = none := by simp [hh]
  have W := (Walks.list (prog := P) (w := w) q s.heap.objs.size l (Nat.ne_of_lt lt1) items).toS
  refine set_update_ints W a ?_ ns hsz hb (fun i v hv => vals_at hit i v hv) (items.size - 0) 0 { s with heap := s.heap.push { cls := .type "list_iterator", data := .fields #[.ref l, .int 0 0] } } (by omega) (Nat.zero_le _) ⟨⟨_, Heap.get?_push_size _ rfl, rfl, rfl⟩, hl0.push _⟩ ?_ ?_
  · simp only [List.mem_cons, List.not_mem_nil, or_false, not_or]
    exact ⟨Nat.ne_of_lt lt2, Ne.symm hla⟩
  · exact ⟨0, Nat.le_refl 0, setR_new_at (Heap.get?_push_of_some _ ha)⟩
  · intro s2 c m hc R
    obtain ⟨h2, g2, d2, tk2, os2⟩ := s2
    obtain rfl : g2 = s.gens := m.gens
    obtain rfl : d2 = s.drawn := m.drawn
    obtain rfl : os2 = s.os := m.os
    rw [hsz] at hc
    refine wpAny_pure (wpAny_pure ⟨rfl, h2, tk2, c, rfl, R, hc, fun b o e => ?_⟩)
    obtain ⟨n1, e1⟩ := hk b o e
    refine m.heap b o ?_ (Heap.get?_push_of_some _ e1)
    simp only [List.mem_cons, List.not_mem_nil, or_false, not_or]
    exact ⟨n1, Nat.ne_of_lt (Heap.lt_size e1)⟩
theorem call_setL {l : Addr} {items : Array Value} (ns : List Int) {Q : Value → Shared → Prop} (hh : A.handled = none) (hl : s.heap.IsList l items) (hit : IntsAre items.toList ns) (hb : ns.length + 1 < scanBound)
    (k : ∀ s2, Filled w s.heap s.heap.objs.size ns s s2 → Q (.ref s.heap.objs.size) s2) : wpAny (model P w) A (call (.type "set") [.ref l]) Q E s := by
  have hpush : (s.heap.push (eSet w)).get? s.heap.objs.size = some (eSet w) := Heap.get?_push_size _ rfl
  have lt : l < s.heap.objs.size := by
    obtain ⟨_, e, _⟩ := hl
    exact Heap.lt_size e
  have fill : ∀ (A2 : Around) (E2 : Value → Shared → Prop), A2.handled = none → wpAny (model P w) A2 (Builtin.«set.__init__» ⟨[.ref s.heap.objs.size, .ref l], []⟩) (fun f s2 => f = .done (.ret .none) ∧ Filled w s.heap s.heap.objs.size ns { s with heap := s.heap.push (eSet w) } s2) E2 { s with heap := s.heap.push (eSet w) } := fun A2 E2 h2 =>
    fill_list h2 hpush (hl.push _) hit hb (Nat.ne_of_lt lt) fun b o e => ⟨Nat.ne_of_lt (Heap.lt_size e), Heap.get?_push_of_some _ e⟩
  have tyS : Shared.TypeIs { s with heap := s.heap.push (eSet w) } (.ref s.heap.objs.size) "set" := ⟨_, hpush, rfl⟩
  obtain ⟨c, tl, m0⟩ := F.called_set.mro
  have m1 := F.called_set.made
  have m2 := F.called_set.sub
  have m3 := F.called_set.notType
  have m4 := F.called_set.canCreate
  have m5 := F.typeCall_set_1 (.ref l)
  have m6 := F.called_set.init.lookup
  have m7 := F.called_set.init.bind (.ref s.heap.objs.size)
  refine wpAny_call (codeAny_of_tree ?_)
  show wpAny (model P w) _ (callAny (.type "set") ⟨[.ref l], []⟩) _ _ s
  refine wpAny_pure ⟨Code.quiet_builtin _ (by decide +kernel), codeAny_builtin F.entry_type_call ?_⟩
  rw [Around.under_plain (weight_type_call_type "set" [.ref l] []) rfl]
  repeat (any_goals (first | assumption | wp_step))
  refine codeAny_mono (code_set_led1 (E := E) (Q₁ := fun v s1 => v = .ref s.heap.objs.size ∧ s1 = { s with heap := s.heap.push (eSet w) }) (.ref l) ⟨rfl, rfl⟩) fun r s1 g => ?_
  match r, g with
  | .error e, g => exact g
  | .ok .next, g => exact g.elim
  | .ok .brk, g => exact g.elim
  | .ok .cont, g => exact g.elim
  | .ok (.ret v), g =>
    obtain ⟨rfl, rfl⟩ := g
    repeat (any_goals (first | assumption | wp_step))
    refine codeAny_mono (codeAny_call_builtin (R := wants (fun v2 s2 => v2 = .none ∧ Filled w s.heap s.heap.objs.size ns { s with heap := s.heap.push (eSet w) } s2) E) F.called_set.init.plain F.entry_set_init (check_set_init_1 tyS ?_)) fun r2 s2 g2 => ?_
    · refine wpAny_mono (fill _ _ (by simp [hh])) (fun f s2 z => ?_) fun _ _ z => z
      obtain ⟨rfl, z⟩ := z
      exact ⟨rfl, z⟩
    · match r2, g2 with
      | .error e, g2 => exact g2
      | .ok .next, g2 => exact g2.elim
      | .ok .brk, g2 => exact g2.elim
      | .ok .cont, g2 => exact g2.elim
      | .ok (.ret v2), g2 =>
        obtain ⟨rfl, h2, tk, c2, rfl, z⟩ := g2
        repeat (any_goals (first | assumption | wp_step))
        exact k _ ⟨h2, tk, c2, rfl, z⟩
end
section
variable {X : Cx}
/-- set(list of ints) -/
def rSetL (K : PySem.W.Frag) (w : World) : List V → Hp → VK → Prop := fun xs H Q => ∃ (a : Addr) (ns : List Int), xs = [V.ref a] ∧ SqL K H a (ns.map V.int) ∧ ns.length < 60 ∧ ∀ p c, c ≤ ns.length → H p = none → Q (.ref p) (upd H p (SetO w p (fun j => decide (j ∈ ns)) c))
theorem cr_setL (hc : X.calm = true) : CallR X (.type "set") (rSetL X.K X.w) := by
  intro pins s σ H xs us Q I r h
  obtain ⟨a, ns, rfl, hs, hl, q⟩ := h
  rw [Vals.ref1 r]
  obtain ⟨its, rv, ob, _⟩ := I.list hs
  have lst : s.heap.IsList a its.toArray := by
    obtain ⟨o, n, ho, h1, _, h2⟩ := ob
    exact ⟨o, ho, h1, n, h2⟩
  have hi := ints_of_vals rv
  have hsb : ns.length + 1 < scanBound := Nat.lt_trans (show ns.length + 1 < 1000 by omega) (by decide)
  refine call_setL ns (I.ok.hd hc) lst (by simpa using hi) hsb fun s2 z => ?_
  obtain ⟨h2, tk, c, rfl, R, hcn, k⟩ := z
  exact ⟨.ref _, upd H s.heap.objs.size (SetO X.w s.heap.objs.size (fun j => decide (j ∈ ns)) c), I.laid (t' := tk) (fun b u e => k b u e) (Nat.le_refl _) (setO_new R), rfl, q _ _ hcn (I.hok.fresh (Nat.le_refl _))⟩
end
def intsE : List D → Option (List Int)
  | [] => some []
  | .sc (.int i) :: ds => (intsE ds).map (i :: ·)
  | _ :: _ => none
def insU (x : Int) : List Int → List Int
  | [] => [x]
  | y :: l => if x < y then x :: y :: l else if x = y then y :: l else y :: insU x l
/-- rising, each once -/
def upI : List Int → List Int
  | [] => []
  | x :: l => insU x (upI l)
theorem mem_insU {x a : Int} : ∀ {l : List Int}, a ∈ insU x l ↔ a = x ∨ a ∈ l
  | [] => by simp [insU]
  | y :: l => by
    have ih := mem_insU (x := x) (a := a) (l := l)
    unfold insU
    split
    · simp
    · split
      · rename_i h; subst h; simp
      · simp only [List.mem_cons, ih]; constructor
        · rintro (h | h | h) <;> simp [h]
        · rintro (h | h | h) <;> simp [h]
theorem pw_insU {x : Int} : ∀ {l : List Int}, l.Pairwise (· < ·) → (insU x l).Pairwise (· < ·)
  | [], _ => by simp [insU]
  | y :: l, h => by
    obtain ⟨h1, h2⟩ := List.pairwise_cons.mp h
    unfold insU
    split
    · rename_i c
      exact List.pairwise_cons.mpr ⟨fun z hz => by
        rcases List.mem_cons.mp hz with rfl | hz
        · exact c
        · have := h1 z hz; omega, h⟩
    · split
      · exact h
      · exact List.pairwise_cons.mpr ⟨fun z hz => by
          rcases mem_insU.mp hz with rfl | hz
          · omega
          · exact h1 z hz, pw_insU h2⟩
theorem mem_upI {a : Int} : ∀ {l : List Int}, a ∈ upI l ↔ a ∈ l
  | [] => by simp [upI]
  | x :: l => by rw [upI, mem_insU, mem_upI]; simp
theorem pw_upI : ∀ l : List Int, (upI l).Pairwise (· < ·)
  | [] => List.Pairwise.nil
  | x :: l => pw_insU (pw_upI l)
theorem up_one : ∀ {l m : List Int}, l.Pairwise (· < ·) → m.Pairwise (· < ·) → (∀ a, a ∈ l ↔ a ∈ m) → l = m
  | [], [], _, _, _ => rfl
  | [], y :: m, _, _, h => by have := (h y).mpr List.mem_cons_self; simp at this
  | x :: l, [], _, _, h => by have := (h x).mp List.mem_cons_self; simp at this
  | x :: l, y :: m, hl, hm, h => by
    obtain ⟨l1, l2⟩ := List.pairwise_cons.mp hl
    obtain ⟨m1, m2⟩ := List.pairwise_cons.mp hm
    have hx := (h x).mp List.mem_cons_self
    have hy := (h y).mpr List.mem_cons_self
    have e : x = y := by
      rcases List.mem_cons.mp hx with e | hx
      · exact e
      · rcases List.mem_cons.mp hy with e | hy
        · exact e.symm
        · have := l1 y hy; have := m1 x hx; omega
    subst e
    congr 1
    refine up_one l2 m2 fun a => ?_
    have := h a
    constructor
    · intro ha
      rcases List.mem_cons.mp (this.mp (List.mem_cons_of_mem _ ha)) with e | z
      · have := l1 a ha; omega
      · exact z
    · intro ha
      rcases List.mem_cons.mp (this.mpr (List.mem_cons_of_mem _ ha)) with e | z
      · have := m1 a ha; omega
      · exact z
theorem upI_id {l : List Int} (h : l.Pairwise (· < ·)) : upI l = l := up_one (pw_upI l) h fun _ => mem_upI
def fSS : List D → Option D := fun ds => match ds with
  | [.nd (.lst _) es] => match intsE es with
    | some ns => if ns.length < 60 then some (.nd (.lst true) ((upI ns).map fun i => .sc (.int i))) else none
    | none => none
  | _ => none
def rSS (K : PySem.W.Frag) (w : World) : List V → Hp → VK → Prop := fun xs H Q => rSetL K w xs H fun v H1 => rSortedSet w [v] H1 Q
section
variable {G : Gm} {w : World}
theorem intsE_rps {I H : Hp} : ∀ {es : List D} {ns : List Int} {ws : List V} {g : Ft}, intsE es = some ns → Rps G I H es ws g → ws = ns.map V.int
  | [], ns, ws, g, h, r => by
    cases h
    obtain ⟨rfl, _⟩ := r
    rfl
  | e :: es, ns, ws, g, h, r => by
    obtain ⟨v, vr, g1, g2, rfl, y, z, _⟩ := r
    cases e with
    | sc x =>
      cases x with
      | int i =>
        cases e2 : intsE es with
        | none => simp [intsE, e2] at h
        | some ms =>
          simp only [intsE, e2, Option.map_some, Option.some.injEq] at h
          subst h
          obtain ⟨rfl, _⟩ := y
          rw [intsE_rps e2 z]; rfl
      | _ => simp [intsE] at h
    | _ => simp [intsE] at h
theorem rps_ints {I H : Hp} : ∀ ns : List Int, Rps G I H (ns.map fun i => .sc (.int i)) (ns.map V.int) z0
  | [] => ⟨rfl, fun _ => rfl⟩
  | n :: ns => ⟨.int n, ns.map V.int, z0, z0, rfl, ⟨rfl, fun _ => rfl⟩, rps_ints ns, fun _ => rfl⟩
theorem os_SS : OpS G (rSS G.K w) fSS := by
  intro I H ds ws d sm x e Q k
  unfold fSS at e
  split at e
  · rename_i m es
    split at e
    · rename_i ns en
      split at e
      · rename_i hc
        cases e
        obtain ⟨v, g, rfl, y, _⟩ := x.one
        obtain ⟨p, vs, g1, ob, rfl, st, eH, r, hlen⟩ := Rp.node sm y
        cases st
        have ev := intsE_rps en r
        subst ev
        refine ⟨p, ns, rfl, SqL.of eH, hc, fun p1 c hcn n1 => ?_⟩
        refine ⟨p1, _, c, rfl, upd_same, by omega, fun ms p2 pw mem ln n2 => ?_⟩
        have em : ms = upI ns := up_one pw (pw_upI ns) fun a => by rw [mem a, mem_upI]; simp
        subst em
        have nw := Nw.mutP (o := SetO w p1 (fun j => decide (j ∈ ns)) c) sm n1
        have hne : ∀ a, upd H p1 (SetO w p1 (fun j => decide (j ∈ ns)) c) a = none → H a = none := fun a h => by
          by_cases q : a = p1
          · subst q; exact n1
          · rw [upd_ne q] at h; exact h
        exact fin_lst (nw.sm) (rps_ints (upI ns)) n2 fun v I' H' g nw2 rr h1 h2 => k v I' H' g (nw.trans nw2) rr h1 fun a z => hne a (h2 a z)
      · cases e
    · cases e
  · cases e
end
section
variable {X : Cx} {G : Gm} {W : WX} {p : Bool} {e : Expr} {d : Den} {q1 q2 pos pos2 : Pos}
theorem jSS (hK : G.K = X.K) (hc : X.calm = true) (h1 : X.mg "sorted" = none) (h2 : X.mg "set" = none) (ha : JE X G W p e d) (g1 : Gl X "sorted" := by rfl) (g2 : Gl X "set" := by rfl)
    (s1 : starEach [.Call (.Name "set" q2) [e] [] pos2] X.env = (false, eval (.Call (.Name "set" q2) [e] [] pos2) X.env) :: starEach [] X.env := by rfl) (s2 : starEach [e] X.env = (false, eval e X.env) :: starEach [] X.env := by rfl) :
    JE X G W (p && true) (.Call (.Name "sorted" q1) [.Call (.Name "set" q2) [e] [] pos2] [] pos) (dOp fSS (aCons true d aNil)) := by
  have a1 : JA X G W (p && true) [e] (aCons true d aNil) := jac ha jan s2
  refine PE_imp (pe_callB (cr_sortedSet hc) g1 h1 (by decide +kernel) (pa_cons (pe_callTy (cr_setL hc) g2 h2 (by decide +kernel) a1 (by decide) (by decide) s2 rfl) pa_nil s1) (by decide) (by decide) s1 rfl) ?_
  have := t_op (G := G) (W := W) (pu := p && true) (r := rSS G.K X.w) (F := fSS) (das := aCons true d aNil) (os_SS (G := G) (w := X.w)) (fun _ _ _ h => h)
  intro σ H Q h
  have z := this σ H Q h
  rw [hK] at z
  exact z
end
end DL

end
section
set_option maxRecDepth 100000
/-! DL: is, is not of two truths. -/
namespace DL
open PySem PySem.Spec PyProof PyProof.Rows L2
theorem bl_same (a b : Bool) : (Value.bool a == Value.bool b) = decide (a = b) := by cases a <;> cases b <;> rfl
def rIsB (neg : Bool) : R2 := fun x y H Q => ∃ a b : Bool, x = .bl a ∧ y = .bl b ∧ Q (.bl (neg != decide (a = b))) H
section
variable {X : Cx}
theorem op_isB : OpR X (compareOp .Is) (rIsB false) := by
  intro pins s σ H x y v u Q I rx ry h
  obtain ⟨a, b, rfl, rfl, q⟩ := h
  cases rx
  cases ry
  refine wpAny_is_plain rfl (fin_bl I q ?_)
  rw [bl_same]; simp
theorem op_notB : OpR X (compareOp .IsNot) (rIsB true) := by
  intro pins s σ H x y v u Q I rx ry h
  obtain ⟨a, b, rfl, rfl, q⟩ := h
  cases rx
  cases ry
  refine wpAny_isNot_plain rfl (fin_bl I q ?_)
  rw [bl_same]; simp
end
def fIsB (neg : Bool) : List D → Option D
  | [.sc (.bl a), .sc (.bl b)] => some (.sc (.bl (neg != decide (a = b))))
  | _ => none
theorem os_isB {G : Gm} {neg : Bool} : OpS G (r2l (rIsB neg)) (fIsB neg) := by
  intro I H ds ws d sm x e Q k
  unfold fIsB at e
  split at e
  · rename_i a b
    cases e
    obtain ⟨v, w, _, _, rfl, ⟨rfl, _⟩, ⟨rfl, _⟩⟩ := x.two
    exact ⟨a, b, rfl, rfl, fin_sc sm k⟩
  · cases e
section
variable {X : Cx} {G : Gm} {W : WX} {p1 p2 : Bool} {a b : Expr} {d1 d2 : Den} {pos : Pos}
theorem jisb (ha : JE X G W p1 a d1) (hb : JE X G W p2 b d2) : JE X G W (p1 && (p2 && true)) (.Compare a [.Is] [b] pos) (dOp (fIsB false) (aCons (p2 && true) d1 (aCons true d2 aNil))) := jcmp2 op_isB os_isB ha hb (nomark _)
theorem jnotb (ha : JE X G W p1 a d1) (hb : JE X G W p2 b d2) : JE X G W (p1 && (p2 && true)) (.Compare a [.IsNot] [b] pos) (dOp (fIsB true) (aCons (p2 && true) d1 (aCons true d2 aNil))) := jcmp2 op_notB os_isB ha hb (nomark _)
theorem jtisb (ha : JE X G W p1 a d1) (hb : JE X G W p2 b d2) : JT X G W (p1 && (p2 && true)) (.Compare a [.Is] [b] pos) (dTst (dOp (fIsB false) (aCons (p2 && true) d1 (aCons true d2 aNil)))) := jtc2 op_isB os_isB ha hb (nomark _)
theorem jtnotb (ha : JE X G W p1 a d1) (hb : JE X G W p2 b d2) : JT X G W (p1 && (p2 && true)) (.Compare a [.IsNot] [b] pos) (dTst (dOp (fIsB true) (aCons (p2 && true) d1 (aCons true d2 aNil)))) := jtc2 op_notB os_isB ha hb (nomark _)
end
end DL

end
section
set_option maxRecDepth 100000
/-! DL: min, max of three whole numbers. -/
namespace DL
open PySem PySem.Spec PyProof PyProof.Rows L2
def mn (i j : Int) : Int := if j < i then j else i
def mx (i j : Int) : Int := if j > i then j else i
def rMin3 : List V → Hp → VK → Prop := fun xs H Q => ∃ i j k, xs = [.int i, .int j, .int k] ∧ Q (.int (mn (mn i j) k)) H
def rMax3 : List V → Hp → VK → Prop := fun xs H Q => ∃ i j k, xs = [.int i, .int j, .int k] ∧ Q (.int (mx (mx i j) k)) H
section
variable {X : Cx}
theorem call_min3 (hc : X.calm = true) : CallR X (.builtin "min") rMin3 := by
  intro pins s σ H xs us Q I r h
  obtain ⟨i, j, k, rfl, q⟩ := h
  refine call_min3Nu hc _ _ _ _ _ _ _ I r ⟨.int i, .int j, .int k, .int (mn (mn i j) k), rfl, ?_, q⟩
  unfold mn
  by_cases h1 : j < i
  · by_cases h2 : k < j <;> simp [nuMin3, nuMin2, nuLt, nuCB, h1, h2]
  · by_cases h2 : k < i <;> simp [nuMin3, nuMin2, nuLt, nuCB, h1, h2]
theorem call_max3 (hc : X.calm = true) : CallR X (.builtin "max") rMax3 := by
  intro pins s σ H xs us Q I r h
  obtain ⟨i, j, k, rfl, q⟩ := h
  refine call_max3Nu hc _ _ _ _ _ _ _ I r ⟨.int i, .int j, .int k, .int (mx (mx i j) k), rfl, ?_, q⟩
  unfold mx
  by_cases h1 : i < j
  · by_cases h2 : j < k <;> simp [nuMax3, nuMax2, nuLt, nuCB, h1, h2]
  · by_cases h2 : i < k <;> simp [nuMax3, nuMax2, nuLt, nuCB, h1, h2]
end
def fMin3 : List D → Option D
  | [.sc (.int i), .sc (.int j), .sc (.int k)] => some (.sc (.int (mn (mn i j) k)))
  | _ => none
def fMax3 : List D → Option D
  | [.sc (.int i), .sc (.int j), .sc (.int k)] => some (.sc (.int (mx (mx i j) k)))
  | _ => none
theorem os_min3 {G : Gm} : OpS G rMin3 fMin3 := by
  intro I H ds ws d sm x e Q k
  unfold fMin3 at e
  split at e
  · rename_i a b c
    cases e
    obtain ⟨v, w, u, _, _, _, rfl, ⟨rfl, _⟩, ⟨rfl, _⟩, ⟨rfl, _⟩⟩ := x.three
    exact ⟨a, b, c, rfl, fin_sc sm k⟩
  · cases e
theorem os_max3 {G : Gm} : OpS G rMax3 fMax3 := by
  intro I H ds ws d sm x e Q k
  unfold fMax3 at e
  split at e
  · rename_i a b c
    cases e
    obtain ⟨v, w, u, _, _, _, rfl, ⟨rfl, _⟩, ⟨rfl, _⟩, ⟨rfl, _⟩⟩ := x.three
    exact ⟨a, b, c, rfl, fin_sc sm k⟩
  · cases e
@[simp] theorem ev_fMin3 (i j k : Int) : fMin3 [.sc (.int i), .sc (.int j), .sc (.int k)] = some (.sc (.int (mn (mn i j) k))) := id rfl
@[simp] theorem ev_fMax3 (i j k : Int) : fMax3 [.sc (.int i), .sc (.int j), .sc (.int k)] = some (.sc (.int (mx (mx i j) k))) := id rfl
end DL

end
section
set_option maxRecDepth 100000
/-! DL: methods of built-in objects that change nothing; list.index of any list. -/
namespace DL
open PySem PySem.Spec PyProof PyProof.Rows L2
def isTyX (T : String) : Option D → Bool
  | some (.sc (.str _)) => T == "str"
  | x => isTy T x
def opK (F : List D → Option D) (r : List Opd × List D) : R (Opd × List D) := match conts r.2 r.1 with
  | some ds => match F ds with
    | some d => .ok (.val d, r.2)
    | none => .bad
  | none => .bad
def dBm (T : String) (F : List D → Option D) (pu2 : Bool) (d0 : Den) (das : DenA) : Den := fun E => (d0 E).bind fun r => if isTyX T (cont r.2 r.1) && stab pu2 r.1 then (das r.2).bind fun q => opK F (r.1 :: q.1, q.2) else .bad
def rM (r : V → List V → Hp → VK → Prop) : List V → Hp → VK → Prop := fun ws H Q => match ws with
  | v :: vs => r v vs H Q
  | [] => False
section
variable {G : Gm} {W : WX} {K : PySem.W.Frag}
theorem tyVX_of {I H : Hp} {d : D} {v : V} {g : Ft} {T : String} (sm : ∀ a o, I a = some o → H a = some o) (x : Rp G I H d v g) (e : isTyX T (some d) = true) : tyV K T v H := by
  cases d with
  | sc w =>
    obtain ⟨rfl, _⟩ := x
    cases v with
    | str z => show T = "str"; simpa [isTyX] using e
    | _ => cases e
  | nd k ds => exact tyV_of sm x e
  | una => cases e
  | lent => cases e
  | kl _ => cases e
theorem t_bmA {te : TE} {ta : TA} {pu1 pu2 : Bool} {d0 : Den} {das : DenA} {T : String} {r : V → List V → Hp → VK → Prop} {F : List D → Option D} (hr : OpS G (rM r) F) (h0 : ∀ σ H Q, tO G W pu1 d0 σ H Q → te σ H Q) (ha : ∀ σ H Q, tA G W pu2 das σ H Q → ta σ H Q) :
    ∀ σ H Q, tO G W (pu1 && pu2) (dBm T F pu2 d0 das) σ H Q → te σ H (fun x H1 => tyV K T x H1 ∧ ta σ H1 fun xs H2 => r x xs H2 Q) := by
  rintro σ H Q ⟨I, E, vs, f, s, hh⟩
  refine h0 _ _ _ ⟨I, E, vs, f, s, hh.fst fun x ex h => ?_⟩
  intro v I1 H1 f1 g1 s1 o1 n1 a1 e1
  obtain ⟨o, E1⟩ := x
  by_cases hc : (isTyX T (cont E1 o) && stab pu2 o) = true
  · have h : Ans G W σ I H f vs (if (isTyX T (cont E1 o) && stab pu2 o) = true then (das E1).bind fun q => opK F (o :: q.1, q.2) else .bad) _ := h
    rw [if_pos hc] at h
    simp only [Bool.and_eq_true] at hc
    have a1' : Fr pu1 I H f I1 H1 f1 := a1.less fun x z => by simp; omega
    refine ⟨?_, ha _ _ _ ⟨I1, E1, vs, f1, s1, (h.fwd a1').fst fun q eq h => ?_⟩⟩
    · cases ec : cont E1 o with
      | none => rw [ec] at hc; cases hc.1
      | some c =>
        obtain ⟨g', y, _⟩ := o1.cont s1 (fun a => by have := n1 a; omega) ec
        rw [ec] at hc
        exact tyVX_of s1.sm y hc.1
    · intro ws2 I2 H2 f2 g2 s2 o2 n2 a2 e2
      have o1' := o1.keep hc.2 (E1 := q.2) a2 n1 e2
      have n3 := a2.apart (g := g1) o1.trk n1 (fun x => by have := n2 x; simpa using this)
      have oo : OpsRel G I2 H2 q.2 vs (o :: q.1) (v :: ws2) (fadd g1 g2) := ⟨v, ws2, g1, g2, rfl, o1', o2, fun a => rfl⟩
      have n4 : ∀ a, f2 a + fadd g1 g2 a ≤ 1 := fun a => by have := n3 a; simp at this ⊢; omega
      have a3 : Fr (pu1 && pu2) I H f I2 H2 (fadd f2 (fadd g1 g2)) := (a1.trans (a2.with (g := g1))).less (f2 := fadd f2 (fadd g1 g2)) (fun x z => by simp at z ⊢; omega)
      have e3 : (pu1 && pu2) = true → q.2 = E := fun z => by
        simp only [Bool.and_eq_true] at z
        rw [e2 z.2]; exact e1 z.1
      have h : Ans G W σ I1 H1 f1 vs (match conts q.2 (o :: q.1) with
        | some ds => match F ds with
          | some d => R.ok (Opd.val d, q.2)
          | none => .bad
        | none => .bad) _ := h
      split at h
      · rename_i ds ed
        split at h
        · rename_i d edd
          refine hr I2 H2 ds (v :: ws2) d s2.sm (oo.conts s2 (fun a => by have := n4 a; omega) ed) edd Q fun v I3 H3 g nw y n5 fr => ?_
          refine h v I3 H3 f2 g (s2.nw nw) y (fun a => ?_) ?_ e3
          · by_cases z : g a = 0
            · have := s2.nd a; omega
            · have z1 : f2 a = 0 := by
                by_cases z2 : f2 a = 0
                · exact z2
                · obtain ⟨_, o, e⟩ := s2.rp.trk a z2
                  rw [fr a z] at e; cases e
              have := n5 a; omega
          · have b : Fr (pu1 && pu2) I2 H2 (fadd f2 (fadd g1 g2)) I3 H3 (fadd f2 g) := nw.fr fun a z => by
              by_cases z2 : g a = 0
              · left; simp at z ⊢; omega
              · right; exact fr a z2
            exact (a3.trans b).imp fun z => by simp [z]
        · exact h.elim
      · exact h.elim
  · have h : Ans G W σ I H f vs (if (isTyX T (cont E1 o) && stab pu2 o) = true then (das E1).bind fun q => opK F (o :: q.1, q.2) else .bad) _ := h
    rw [if_neg hc] at h
    exact h.elim
theorem t_bm {te : TE} {ta : TA} {pu1 pu2 : Bool} {d0 : Den} {das : DenA} {T : String} {r : V → List V → Hp → VK → Prop} {F : List D → Option D} (hr : OpS G (rM r) F) (h0 : ∀ σ H Q, tO G W pu1 d0 σ H Q → te σ H Q) (ha : ∀ σ H Q, tA G W pu2 das σ H Q → ta σ H Q) :
    ∀ σ H Q, tO G W (pu1 && pu2) (dBm T F pu2 d0 das) σ H Q → tBM K T r te ta σ H Q := t_bmA hr h0 ha
theorem t_bm0 {te : TE} {pu1 : Bool} {d0 : Den} {T : String} {r : V → List V → Hp → VK → Prop} {F : List D → Option D} (hr : OpS G (rM r) F) (h0 : ∀ σ H Q, tO G W pu1 d0 σ H Q → te σ H Q) :
    ∀ σ H Q, tO G W (pu1 && true) (dBm T F true d0 aNil) σ H Q → tBM0 K T r te σ H Q := t_bmA (ta := tNil) hr h0 t_anil
end
section
variable {X : Cx} {G : Gm} {W : WX} {e o : Expr} {es : List Expr} {das : DenA} {pos : Pos}
theorem jbm {T id : String} {name : Str} {pu1 pu2 : Bool} {d0 : Den} {F : List D → Option D} {r : V → List V → Hp → VK → Prop} {ap : Pos} (pa : PlainAttrs T) (slot : Slot T name id) (hty : typeOf (.builtin id) = pure (.type "method_descriptor")) (hm : MtR X id r) (hr : OpS G (rM r) F) (h0 : JE X G W pu1 o d0) (ha : JA X G W pu2 (e :: es) das)
    (hbase : attributeBase o name X.env (eval o X.env) = eval o X.env := by rfl)
    (hfew : ((backTo pos (starEach (e :: es) X.env)).all (fun x => !x.1) && (backToKw pos (keywordEach [] X.env)).all (fun x => x.1.isSome)
      && decide ((e :: es).length + ([] : List Keyword).length + (if ([] : List Keyword).isEmpty then 0 else 1) < 30)) = true := by rfl)
    (hline : (ap.endLine == pos.line) = true := by rfl) (hs : starEach (e :: es) X.env = (false, eval e X.env) :: starEach es X.env := by rfl) (hplain : (backTo pos (starEach es X.env)).any (·.1) = false := by rfl) :
    JE X G W (pu1 && pu2) (.Call (.Attribute o name ap) (e :: es) [] pos) (dBm T F pu2 d0 das) := PE_imp (pe_bm pa slot hty hm h0 ha hbase hfew hline hs hplain) (t_bm hr (fun _ _ _ h => h) (fun _ _ _ h => h))
theorem jbm0 {T id : String} {name : Str} {pu1 : Bool} {d0 : Den} {F : List D → Option D} {r : V → List V → Hp → VK → Prop} {ap : Pos} (pa : PlainAttrs T) (slot : Slot T name id) (hty : typeOf (.builtin id) = pure (.type "method_descriptor")) (hm : MtR X id r) (hr : OpS G (rM r) F) (h0 : JE X G W pu1 o d0)
    (hbase : attributeBase o name X.env (eval o X.env) = eval o X.env := by rfl) (hline : (ap.endLine == pos.line) = true := by rfl) :
    JE X G W (pu1 && true) (.Call (.Attribute o name ap) [] [] pos) (dBm T F true d0 aNil) := PE_imp (pe_bm0 pa slot hty hm h0 hbase hline) (t_bm0 hr (fun _ _ _ h => h))
end
@[simp] theorem ev_isTyX_s (T : String) (z : Str) : isTyX T (some (.sc (.str z))) = (T == "str") := id rfl
@[simp] theorem ev_isTyX_l (T : String) (m : Bool) (ds : List D) : isTyX T (some (.nd (.lst m) ds)) = (T == "list") := id rfl
@[simp] theorem ev_isTyX_d (T : String) (m : Bool) (ks : List Key) (ds : List D) : isTyX T (some (.nd (.dik m ks) ds)) = (T == "dict") := id rfl
@[simp] theorem ev_isTyX_t (T : String) (m : Bool) (ks : List (List Key)) (ds : List D) : isTyX T (some (.nd (.dit m ks) ds)) = (T == "dict") := id rfl
@[simp] theorem ev_opK (F : List D → Option D) (r : List Opd × List D) : opK F r = match conts r.2 r.1 with
  | some ds => match F ds with
    | some d => .ok (.val d, r.2)
    | none => .bad
  | none => .bad := id rfl
@[simp] theorem ev_dBm (T : String) (F : List D → Option D) (pu2 : Bool) (d0 : Den) (das : DenA) (E : List D) : dBm T F pu2 d0 das E = (d0 E).bind fun r => if isTyX T (cont r.2 r.1) && stab pu2 r.1 then (das r.2).bind fun q => opK F (r.1 :: q.1, q.2) else .bad := id rfl
/-! ### the place in a list that stands as it is -/
def fIndexD : List D → Option D
  | [.nd (.lst _) ds, c] => if ds.all (lay 60) && lay 60 c then (ixD c ds).map fun j => .sc (.int (j : Nat)) else none
  | _ => none
theorem os_indexD {G : Gm} {K : PySem.W.Frag} : OpS G (rM (rIndexD K)) fIndexD := by
  intro I H ds ws d sm x e Q k
  unfold fIndexD at e
  split at e
  · rename_i m ds c
    split at e
    · rename_i hc
      simp only [Bool.and_eq_true] at hc
      cases ej : ixD c ds with
      | none => rw [ej] at e; cases e
      | some j =>
        rw [ej] at e; cases e
        obtain ⟨v, w, g, h, rfl, y, y2⟩ := x.two
        obtain ⟨p, ws, g1, o, rfl, st, eH, z, l⟩ := y.node sm
        cases st
        obtain ⟨hj, he, hno⟩ := List.findIdx?_eq_some_iff_getElem.mp ej
        have lays : lay 61 (.nd (.lst true) ds) = true := by show (true && ds.all (lay 60)) = true; rw [hc.1]; rfl
        refine ⟨p, w, toP c, toPs ds, j, toP ds[j], rfl, rfl, .lst (SqL.of eH) (dpAll_lay sm hc.1 z), dp_of sm hc.2 y2, shaped_of (by omega : 61 ≤ 64) lays, shaped_of (by omega : 60 ≤ 64) hc.2, ?_, he, fun m z' hm hz => ?_, ?_⟩
        · rw [toPs_map, List.getElem?_map, List.getElem?_eq_getElem hj]; rfl
        · rw [toPs_map, List.getElem?_map, List.getElem?_eq_getElem (by omega)] at hz
          cases hz
          have := hno m hm
          simpa using this
        · exact fin_sc sm k
    · cases e
  · cases e
end DL

end
section
set_option maxRecDepth 100000
/-! DL: a def run at one place alone (the law itself, called from without): what stands around it is known. -/
namespace DL
open PySem PySem.Spec PyProof PyProof.Rows L2
/-- as FnOk, around one thing alone -/
structure FnAt (A0 : Around) (P : Program) (w : World) (K : PySem.W.Frag) (mg : Str → Option Value) (base : Heap) (CX : CXT) (f : Addr) (fd : FuncData) (ps : List Str) (sp : Sp) : Prop where
  ln : ∀ vs H Q E, sp vs H Q E → vs.length = ps.length
  go : ∀ (ov : List Env) (s : Shared) (H : Hp) (as : Args) (us : List Value) (vs : List V) (Q : VK) (E : XK), Env0 P w K mg base A0 ov s H → BindsTo s fd as (ps.zip us) → Vals vs us → sp vs H Q E →
    codeAny (model P w) A0 (.call (.ref f) as) (CR CX ov P w H s Q E) s
theorem FnAt.imp {A0 : Around} {P : Program} {w : World} {K : PySem.W.Frag} {mg : Str → Option Value} {base : Heap} {CX : CXT} {f : Addr} {fd : FuncData} {ps : List Str} {sp sq : Sp} (F : FnAt A0 P w K mg base CX f fd ps sp) (h : ∀ vs H Q E, sq vs H Q E → sp vs H Q E) : FnAt A0 P w K mg base CX f fd ps sq :=
  ⟨fun vs H Q E q => F.ln vs H Q E (h vs H Q E q), fun ov s H as us vs Q E a b c q => F.go ov s H as us vs Q E a b c (h vs H Q E q)⟩
section
variable {P : Program} {w : World} {K : PySem.W.Frag} {mg : Str → Option Value} {base : Heap}
theorem at_body {A0 : Around} {x qual : Str} {st : Stmt} {f : Addr} {fd : FuncData} {N ps : List Str} {k : Nat} {sp : Sp} (F : Fun K x qual st f fd) (S : FnScope N ps (defScope st)) (ln : ∀ vs H Q E, sp vs H Q E → vs.length = ps.length) (rm : Room (k + 1) A0)
    (hb : ∀ (cdv : Value) (ov : List Env) (s : Shared) (H : Hp) (vs : List V) (Q : VK) (E : XK), Room k (A0.deeper (envOfC qual (defScope st) s.heap.objs.size f cdv)) → sp vs H Q E →
      ∃ t, PSs (cxOf (L2N.CX P w) P w K mg base N qual (defScope st) f cdv A0 ov s H E) (defBody st) t ∧ t { nx := fun _ H' => Q .non H', rt := Q } (start N vs) H) : FnAt A0 P w K mg base (L2N.CX P w) f fd ps sp := by
  obtain ⟨oc, od, kV, doc, pm, an, cd, ct, osl, rfl, lk, hcd⟩ := F.ex
  refine ⟨ln, fun ov s H as us vs Q E e0 bd rv q => ?_⟩
  have inK : K.In s.heap := e0.mod.kin.keeps fun c o e => (e0.bs c o e).1
  have nl : s.heap.NoLimit := e0.mod.nolimit.keeps fun c o e => (e0.bs c o e).1
  have kinds : ∀ p ∈ ps.zip us, (defScope st).names.lookup p.1 = some .local ∨ ((defScope st).names.lookup p.1 = some .cell ∧ ((cellsFrom (s.heap.objs.size + 1) (defScope st).names []).lookup p.1).isSome = true) := by
    rintro ⟨n, v⟩ hp
    exact (S.par n (List.of_mem_zip hp).1).imp id fun c => ⟨c, PySem.W.cellsFrom_some _ _ _ (.inl c)⟩
  refine codeAny_call_function rm.depth (inK _ _ lk) rfl S.co S.gen rfl (PySem.W.codeRec_of inK hcd) (bd _ _ _ _ ?_)
  refine wpAny_newFunctionEnv_cells S.kind kinds (fun en hen s1 x => ?_)
  subst hen
  obtain ⟨t, ht, hq⟩ := hb cd ov s H vs Q E (rm.deeper _) q
  have I0 : Inv (cxOf (L2N.CX P w) P w K mg base N qual (defScope st) f cd A0 ov s H E) [] (start N vs) H s1 := inv_start S rm.hd e0 (ln _ _ _ _ q) rv x
  refine ⟨nl.keeps x.toInCall.keep, codeAny_func (wpAny_mono (ht.run [] s1 (start N vs) H _ I0 hq) ?_ fun _ _ z => z)⟩
  intro fl s2 z
  cases fl with
  | ret u => obtain ⟨v, _, H2, J, r, qq⟩ := z; exact ⟨v, H2, J.os, J.bare, J.base, J.hok, r, qq⟩
  | next => obtain ⟨_, H2, J, qq⟩ := z; exact ⟨V.non, H2, J.os, J.bare, J.base, J.hok, rfl, qq⟩
  | brk => obtain ⟨_, _, _, qq⟩ := z; exact qq.elim
  | cont => obtain ⟨_, _, _, qq⟩ := z; exact qq.elim
theorem at_def {A0 : Around} {x qual : Str} {st : Stmt} {f : Addr} {fd : FuncData} {N ps : List Str} {k : Nat} {G : Gm} {A : List Nat} {b : DenS} (F : Fun K x qual st f fd) (S : FnScope N ps (defScope st)) (hn : ps.length ≤ N.length) (rm : Room (k + 1) A0)
    (hb : ∀ (cdv : Value) (ov : List Env) (s : Shared) (H : Hp) (E : XK), Room k (A0.deeper (envOfC qual (defScope st) s.heap.objs.size f cdv)) → JB (cxOf (L2N.CX P w) P w K mg base N qual (defScope st) f cdv A0 ov s H E) G (fun cls d _ H => E cls d H) A (defBody st) b) :
    FnAt A0 P w K mg base (L2N.CX P w) f fd ps (spOf G (opq (fnP ps.length N.length A b))) := by
  rw [opq_eq]
  unfold fnP
  have len : ∀ (ds : List D), (if ds.length = ps.length then fnD N.length A b ds else R.bad) ≠ .bad → ds.length = ps.length := fun ds h => Classical.byContradiction fun c => h (if_neg c)
  refine at_body F S (fun vs H Q E h => spOf_len len h) rm fun cdv ov s H vs Q E hr h => ⟨_, hb cdv ov s H E hr, fn_body hn (spOf_len len h) (fun ds hd => (if_pos (len ds hd)).symm) (fun _ _ _ h => h) h⟩
end
theorem at_script {A0 : Around} {P : Program} {w : World} {K : PySem.W.Frag} {mg : Str → Option Value} {base : Heap} {f : Addr} {fd : FuncData} {ps : List Str} {cls : Nat → Addr} {F : Fn} (ok : FnAt A0 P w K mg base (L2N.CX P w) f fd ps (spOf ⟨cls, K⟩ F))
    {C : List Int → Prop} (h : ∀ ns : List Int, ns.length ≤ 63 → C ns → ∃ r, F [.kl ns] = .ok (.sc (.bl true), r)) :
    FnAt A0 P w K mg base (L2N.CX P w) f fd ps (fun vs H Q _ => ∃ (a : Addr) (ns : List Int), vs = [.ref a] ∧ SqL K H a (ns.map V.int) ∧ ns.length ≤ 63 ∧ C ns ∧ ∀ H', Q (.bl true) H') :=
  ok.imp fun vs H Q E hh => by
    obtain ⟨a, ns, rfl, hS, hl, hc, q⟩ := hh
    obtain ⟨r, e⟩ := h ns hl hc
    refine ⟨H, [.kl ns], z0, fun _ _ h => h, ⟨.ref a, [], z0, z0, rfl, ⟨⟨a, rfl, hS⟩, fun _ => rfl⟩, ⟨rfl, fun _ => rfl⟩, fun _ => rfl⟩, fun _ => Nat.zero_le _, ?_⟩
    rw [e]
    intro v I' H' g g' _ _ hv _ _
    obtain ⟨rfl, _⟩ := hv
    exact q H'
/-! ### the law called from without -/
abbrev CAns (s : Shared) (r : Result) (s' : Shared) : Prop := r = .ok (.ret (.bool true)) ∧ OldK s.heap s'.heap ∧ s'.os = s.os ∧ AllBare s'.gens
theorem at_core {P : Program} {w : World} {K : PySem.W.Frag} {mg mb : Str → Option Value} {CX : CXT} {fa a : Addr} {fd : FuncData} {x : Str} {sp : Sp} {s : Shared} {us : List Value} {H : Hp}
    (inK : K.In s.heap) (gN : s.heap.Ns mainGlobals mg) (bN : s.heap.Ns builtinsNs mb) (bb : ∀ y : Str, y ≠ "__name__" → mb y = bootBuiltins y) (nl : s.heap.NoLimit) (ng : s.gens = #[]) (oa : s.heap.get? a = some { cls := .type "list", data := .seq us.toArray })
    (F : ∀ base : Heap, K.In base → base.Ns mainGlobals mg → FnAt callerA P w K mg base CX fa fd [x] sp) (bd : ∀ (s : Shared) (u : Value), BindsTo s fd ⟨[u], []⟩ [(x, u)]) (noX : ∀ e s', CX [] H s (fun _ _ _ => False) e s' → False)
    (on : Only H) (ok : HOk P w H s.heap) (hA : ∀ b, H b ≠ none → b = a) (hK : H a ≠ none → K.lookup a = none) (q : sp [.ref a] H (fun v _ => v = .bl true) fun _ _ _ => False) :
    codeAny (model P w) callerA (.call (.ref fa) ⟨[.ref a], []⟩) (CAns s) s := by
  have free : ∀ {b : Addr} {o : Obj} {es : Array DictEntry} {ep : Nat}, s.heap.get? b = some o → o.data = .dict es ep → H b = none := by
    intro b o es ep e d
    apply Classical.byContradiction
    intro c
    obtain rfl := hA b c
    rw [oa] at e; cases e; cases d
  have nsT : ∀ {b : Addr} {m : Str → Option Value}, s.heap.Ns b m → (hidT s.heap H).Ns b m := by
    rintro b m ⟨o, es, ep, e, d, r⟩
    exact ⟨o, es, ep, hidT_get e (free e d), d, r⟩
  have inT : K.In (hidT s.heap H) := by
    intro b o e
    refine hidT_get (inK b o e) (Classical.byContradiction fun c => ?_)
    obtain rfl := hA b c
    rw [hK c] at e; cases e
  have md : Mod K mg (hidT s.heap H) := by
    obtain ⟨mc, n1, n2⟩ := nl
    exact ⟨inT, nsT gN, ⟨mb, nsT bN, bb⟩, mc, nsT n1, n2⟩
  have e0 : Env0 P w K mg (hidT s.heap H) callerA [] s H := ⟨rfl, md, fun _ _ e => of_hidT e, Nat.le_of_eq (hidT_size _ _), trivial, (fun b hb => nomatch hb), ok, .of_eq ng⟩
  refine codeAny_mono ((F _ inT (nsT gN)).go [] s H ⟨[.ref a], []⟩ [.ref a] [.ref a] _ _ e0 (bd s (.ref a)) (.cons rfl .nil) q) ?_
  intro r s' h
  match r, h with
  | .error e, h => exact (noX e s' h).elim
  | .ok .next, h => exact h.elim
  | .ok .brk, h => exact h.elim
  | .ok .cont, h => exact h.elim
  | .ok (.ret u), h =>
    obtain ⟨v, H', os, br, un, ok', rv, (qq : v = .bl true)⟩ := h
    subst qq
    obtain rfl : u = Value.bool true := rv
    refine ⟨rfl, OldK.of_keep ?_, os, br⟩
    intro b o e
    cases hb : H b with
    | none => exact un.keep b o e hb (fun z => nomatch z) (by simp)
    | some y =>
      obtain z | ⟨ob, ys, z⟩ := on b
      · rw [hb] at z; cases z
      · have e1 := (ok b _ z).1
        have e2 := (ok' b _ (un.frzs b ob _ z)).1
        rw [e] at e1; cases e1
        exact e2
theorem at_call {P : Program} {w : World} {K : PySem.W.Frag} {mg mb : Str → Option Value} {CX : CXT} {fa a : Addr} {fd : FuncData} {x : Str} {sp : Sp} {s : Shared} {us : List Value} {ns : List Int}
    (inK : K.In s.heap) (gN : s.heap.Ns mainGlobals mg) (bN : s.heap.Ns builtinsNs mb) (bb : ∀ y : Str, y ≠ "__name__" → mb y = bootBuiltins y) (nl : s.heap.NoLimit) (ng : s.gens = #[]) (oa : s.heap.get? a = some { cls := .type "list", data := .seq us.toArray }) (hi : IntsAre us ns) (hl : ns.length ≤ sizeLine)
    (F : ∀ base : Heap, K.In base → base.Ns mainGlobals mg → FnAt callerA P w K mg base CX fa fd [x] sp) (bd : ∀ (s : Shared) (u : Value), BindsTo s fd ⟨[u], []⟩ [(x, u)]) (noX : ∀ H e s', CX [] H s (fun _ _ _ => False) e s' → False)
    (q : ∀ H : Hp, Only H → SqL K H a (ns.map V.int) → sp [.ref a] H (fun v _ => v = .bl true) fun _ _ _ => False) :
    codeAny (model P w) callerA (.call (.ref fa) ⟨[.ref a], []⟩) (CAns s) s := by
  have rv := vals_ints hi
  by_cases hk : K.lookup a = none
  · let H0 : Hp := fun b => if b = a then some (.frz { cls := .type "list", data := .seq us.toArray } (.lst (ns.map V.int))) else none
    have h1 : H0 a = some (.frz { cls := .type "list", data := .seq us.toArray } (.lst (ns.map V.int))) := if_pos rfl
    have h2 : ∀ b, b ≠ a → H0 b = none := fun b c => if_neg c
    have h3 : ∀ b, H0 b ≠ none → b = a := fun b c => Classical.byContradiction fun z => c (h2 b z)
    have on : Only H0 := fun b => (Classical.em (b = a)).elim (fun e => .inr ⟨_, _, e ▸ h1⟩) fun e => .inl (h2 b e)
    refine at_core inK gN bN bb nl ng oa F bd (noX H0) on (fun b u z => ?_) h3 (fun _ => hk) (q H0 on (.inl (.inr ⟨_, h1⟩)))
    obtain rfl := h3 b (by rw [z]; simp)
    rw [h1] at z; cases z
    exact ⟨oa, by rw [List.length_map]; exact hl, us, _, rv, oa⟩
  · obtain ⟨o, e⟩ := Option.ne_none_iff_exists'.mp hk
    have e2 := inK a o e
    rw [oa] at e2; cases e2
    have on : Only (fun _ => none) := fun _ => .inl rfl
    exact at_core inK gN bN bb nl ng oa F bd (noX _) on (fun b u z => nomatch z) (fun b z => absurd rfl z) (fun z => absurd rfl z) (q _ on (.inr ⟨_, us.toArray, _, e, rfl, rfl, rfl, by rw [List.size_toArray, hi.length]; exact hl, by simpa using rv⟩))
theorem walk_at {l : PySem.W.OpenLaw} {n : Nat} {q : Program} {loose : List Str} {XP : (Str → Option Value) → Heap → Prop} {YP : World → Heap → Prop} {d : DefRec} {K : Params → PySem.W.Frag} {CX : World → CXT} {sp : World → Sp} {x : Str}
    (hn : l.most = some n) (hn2 : n ≤ sizeLine) (hdf : d.params.defaults = []) (hY : ∀ (w : World) (h : Heap), YP w h → (K w.params).In h)
    (F : ∀ (w : World) (mg : Str → Option Value) (fa : Addr) (h : Heap), (K w.params).In h → h.Ns mainGlobals mg → mg d.name = some (.ref fa) →
      ∃ fd : FuncData, (∀ (s : Shared) (u : Value), BindsTo s fd ⟨[u], []⟩ [(x, u)]) ∧ ∀ base : Heap, (K w.params).In base → base.Ns mainGlobals mg → FnAt callerA l.prog w (K w.params) mg base (CX w) fa fd [x] (sp w))
    (hsp : ∀ (w : World) (H : Hp) (a : Addr) (ns : List Int), ns.length ≤ n → Only H → SqL (K w.params) H a (ns.map V.int) → sp w [.ref a] H (fun v _ => v = .bl true) fun _ _ _ => False)
    (noX : ∀ (w : World) (H : Hp) (s : Shared) (e : Value) (s' : Shared), CX w [] H s (fun _ _ _ => False) e s' → False) :
    PySem.W.WalkO q loose XP YP l.row.toRowW d [] (fun f vs => PySem.call f vs) := by
  refine Att.attach_call hn hdf ?_
  intro w s₀ s₁ mg mb fa o pm cd doc a vs ns G Y _ _ _ em ob hi ln eg
  obtain ⟨fd, bd, FF⟩ := F w mg fa _ (hY w _ Y) G.T.g em
  exact at_call (hY w _ Y) G.T.g G.T.b G.T.builtins G.T.nolimit eg ob hi (Nat.le_trans ln hn2) FF bd (fun H e s' => noX w H s₁ e s') fun H h1 h2 => hsp w H a ns ln h1 h2
end DL

end
section
set_option maxRecDepth 100000
/-! DL: repr of data, where nothing is being shown around; == of texts. -/
namespace DL
open PySem PySem.Spec PyProof PyProof.Rows L2
theorem bt_repr : bootBuiltins "repr" = some (.builtin "repr") := by decide +kernel
/-- data that can be shown -/
def shOk (d : PyData) : Prop := PyData.showable d = true ∧ PyData.hasDict d = false ∧ (PyData.shown d).length ≤ 10000000 ∧ PyData.depth d ≤ 63
theorem line7 {n : Nat} (h : n ≤ 10000000) : n ≤ sizeLine := Nat.le_trans h (by decide)
def rRepr (K : PySem.W.Frag) : List V → Hp → VK → Prop := fun xs H Q => ∃ x d, xs = [x] ∧ Dp K H x d ∧ shOk d ∧ Q (.str (PyData.shown d)) H
section
variable {X : Cx}
theorem call_repr (hg : X.A.guards = some []) (hu : X.A.units + 65 < cLine) : CallR X (.builtin "repr") (rRepr X.K) := by
  intro pins s σ H xs us Q I r h
  obtain ⟨x, d, rfl, hd, ⟨h1, h2, h3, h4⟩, q⟩ := h
  obtain ⟨u, rfl, ru⟩ := vals1 r
  obtain ⟨as, rd⟩ := Dp.reads I d x u hd ru
  have fin : ∀ h' u tk, (∀ b o, s.heap.get? b = some o → h'.get? b = some o) → ∃ x H', Inv X pins σ H' { s with heap := h', toks := tk } ∧ RelV x (.str (PyData.shown d) u) ∧ Q x H' := fun h' u tk k => ⟨.str (PyData.shown d), H, I.kept k, ⟨u, rfl⟩, q⟩
  cases rd with
  | none => exact PySem.P.repr_of_none (fin s.heap _ _ fun _ _ e => e)
  | bool b => exact PySem.P.repr_of_bool (fin s.heap _ _ fun _ _ e => e)
  | int i t => exact PySem.P.repr_of_int (of_decide_eq_true h1) (fin s.heap _ _ fun _ _ e => e)
  | str y t => exact PySem.P.repr_of_str (fin s.heap _ _ fun _ _ e => e) (line7 h3)
  | list e1 e2 e3 e4 => exact repr_of_reads' (.list e1 e2 e3 e4) h1 (fun z => by rw [h2] at z; cases z) hg (by omega) (fun _ _ e => e) fin (line7 h3)
  | tuple e1 e2 e3 e4 => exact repr_of_reads' (.tuple e1 e2 e3 e4) h1 (fun z => by rw [h2] at z; cases z) hg (by omega) (fun _ _ e => e) fin (line7 h3)
  | dict _ _ _ _ _ => cases h2
end
open Classical in
noncomputable def fRepr : List D → Option D
  | [x] => if lay 63 x = true ∧ shOk (toP x) then some (.sc (.str (PyData.shown (toP x)))) else none
  | _ => none
theorem os_repr {G : Gm} : OpS G (rRepr G.K) fRepr := by
  intro I H ds ws d sm x e Q k
  unfold fRepr at e
  split at e
  · rename_i y
    split at e
    · rename_i c
      cases e
      obtain ⟨v, g, rfl, r, _⟩ := x.one
      exact ⟨v, toP y, rfl, dp_of sm c.1 r, c.2, fin_sc sm k⟩
    · cases e
  · cases e
theorem fRepr_of {x : D} (h : lay 63 x = true) (h2 : shOk (toP x)) : fRepr [x] = some (.sc (.str (PyData.shown (toP x)))) := if_pos ⟨h, h2⟩
/-! ### == of texts -/
def fStrC (neg : Bool) : List D → Option D
  | [.sc (.str x), .sc (.str y)] => some (.sc (.bl (neg != decide (x = y))))
  | _ => none
def rStrC (neg : Bool) : R2 := fun x y H Q => ∃ a b : Str, x = .str a ∧ y = .str b ∧ Q (.bl (neg != decide (a = b))) H
section
variable {X : Cx}
theorem op_eqStr : OpR X (compareOp .Eq) (rStrC false) := by
  intro pins s σ H x y v u Q I rx ry h
  obtain ⟨a, b, rfl, rfl, q⟩ := h
  refine op_eq _ _ _ _ _ _ _ _ Q I rx ry ⟨rfl, ?_⟩
  have e : decide (V.str a = V.str b) = decide (a = b) := by rw [Bool.eq_iff_iff]; simp
  rw [e]; simpa using q
theorem op_neStr : OpR X (compareOp .NotEq) (rStrC true) := by
  intro pins s σ H x y v u Q I rx ry h
  obtain ⟨a, b, rfl, rfl, q⟩ := h
  refine op_ne _ _ _ _ _ _ _ _ Q I rx ry ⟨rfl, ?_⟩
  have e : decide (V.str a = V.str b) = decide (a = b) := by rw [Bool.eq_iff_iff]; simp
  rw [e]; simpa using q
end
theorem os_strC {G : Gm} {neg : Bool} : OpS G (r2l (rStrC neg)) (fStrC neg) := by
  intro I H ds ws d sm x e Q k
  unfold fStrC at e
  split at e
  · rename_i a b
    cases e
    obtain ⟨v, w, _, _, rfl, ⟨rfl, _⟩, ⟨rfl, _⟩⟩ := x.two
    exact ⟨a, b, rfl, rfl, fin_sc sm k⟩
  · cases e
@[simp] theorem ev_fStrC (neg : Bool) (x y : Str) : fStrC neg [.sc (.str x), .sc (.str y)] = some (.sc (.bl (neg != decide (x = y)))) := id rfl
section
variable {X : Cx} {G : Gm} {W : WX} {p1 p2 : Bool} {a b : Expr} {d1 d2 : Den} {pos : Pos}
theorem jseq' (ha : JE X G W p1 a d1) (hb : JE X G W p2 b d2) : JE X G W (p1 && (p2 && true)) (.Compare a [.Eq] [b] pos) (dOp (fStrC false) (aCons (p2 && true) d1 (aCons true d2 aNil))) := jcmp2 op_eqStr os_strC ha hb (nomark _)
theorem jsne' (ha : JE X G W p1 a d1) (hb : JE X G W p2 b d2) : JE X G W (p1 && (p2 && true)) (.Compare a [.NotEq] [b] pos) (dOp (fStrC true) (aCons (p2 && true) d1 (aCons true d2 aNil))) := jcmp2 op_neStr os_strC ha hb (nomark _)
theorem jtseq' (ha : JE X G W p1 a d1) (hb : JE X G W p2 b d2) : JT X G W (p1 && (p2 && true)) (.Compare a [.Eq] [b] pos) (dTst (dOp (fStrC false) (aCons (p2 && true) d1 (aCons true d2 aNil)))) := jtc2 op_eqStr os_strC ha hb (nomark _)
theorem jtsne' (ha : JE X G W p1 a d1) (hb : JE X G W p2 b d2) : JT X G W (p1 && (p2 && true)) (.Compare a [.NotEq] [b] pos) (dTst (dOp (fStrC true) (aCons (p2 && true) d1 (aCons true d2 aNil)))) := jtc2 op_neStr os_strC ha hb (nomark _)
end
end DL

end
section
set_option maxRecDepth 100000
/-! DL: texts joined, split and parted. -/
namespace DL
open PySem PySem.Spec PyProof PyProof.Rows L2
def strsD : List D → Option (List Str)
  | [] => some []
  | .sc (.str z) :: ds => (strsD ds).map (z :: ·)
  | _ => none
theorem strsD_of {G : Gm} {I H : Hp} : ∀ {ds : List D} {ws : List V} {g : Ft} {zs : List Str}, strsD ds = some zs → Rps G I H ds ws g → ws = zs.map V.str
  | [], ws, g, zs, e, x => by cases e; obtain ⟨rfl, _⟩ := x; rfl
  | d :: ds, ws, g, zs, e, x => by
    obtain ⟨v, vr, f, h, rfl, y, z, _⟩ := x
    cases d with
    | sc w =>
      cases w with
      | str z' =>
        have e : (strsD ds).map (z' :: ·) = some zs := e
        cases ez : strsD ds with
        | none => rw [ez] at e; cases e
        | some zr =>
          rw [ez] at e; cases e
          obtain ⟨rfl, _⟩ := y
          rw [strsD_of ez z]; rfl
      | _ => cases e
    | _ => cases e
theorem rps_strs {G : Gm} {I H : Hp} : ∀ (zs : List Str), Rps G I H (zs.map fun z => .sc (.str z)) (zs.map V.str) z0
  | [] => ⟨rfl, fun _ => rfl⟩
  | z :: zs => ⟨.str z, zs.map V.str, z0, z0, rfl, ⟨rfl, fun _ => rfl⟩, rps_strs zs, fun _ => rfl⟩
/-! ### join -/
def fJoin : List D → Option D
  | [.sc (.str a), .nd k ds] => if k.seq then (strsD ds).bind fun zs => if (zs.map (·.length)).sum + zs.length * a.length ≤ 16777216 then some (.sc (.str (Txt.join a zs))) else none else none
  | _ => none
def rJoin (K : PySem.W.Frag) : V → List V → Hp → VK → Prop := fun x xs H Q => ∃ a p, ∃ ys : List Str, x = .str a ∧ xs = [.ref p] ∧ (SqL K H p (ys.map V.str) ∨ SqT K H p (ys.map V.str)) ∧
    (ys.map (·.length)).sum + ys.length * a.length ≤ 16777216 ∧ Q (.str (Txt.join a ys)) H
theorem os_join {G : Gm} {K : PySem.W.Frag} : OpS G (rM (rJoin K)) fJoin := by
  intro I H ds ws d sm x e Q k
  unfold fJoin at e
  split at e
  · rename_i a kk es
    split at e
    · rename_i hk
      cases ez : strsD es with
      | none => rw [ez] at e; cases e
      | some zs =>
        rw [ez] at e
        simp only [Option.bind_some] at e
        split at e
        · rename_i hz
          cases e
          obtain ⟨v, w, g, h, rfl, y, y2⟩ := x.two
          obtain ⟨rfl, _⟩ := y
          obtain ⟨p, ws, g1, rfl, sq, z, l⟩ := node_seq (K := K) sm hk y2
          rw [strsD_of ez z] at sq
          exact ⟨a, p, zs, rfl, rfl, sq, hz, fin_sc sm k⟩
        · cases e
    · cases e
  · cases e
/-! ### split -/
def fSplit : List D → Option D
  | [.sc (.str a), .sc (.str b)] => if b.length ≠ 0 ∧ a.length + 2 ≤ sizeLine then some (.nd (.lst true) ((Txt.split a b).map fun z => .sc (.str z))) else none
  | _ => none
def rSplit : V → List V → Hp → VK → Prop := fun x xs H Q => ∃ a b, x = .str a ∧ xs = [.str b] ∧ (b.length == 0) = false ∧ a.length + 2 ≤ sizeLine ∧ rNewStrs (Txt.split a b) H Q
theorem os_split {G : Gm} : OpS G (rM rSplit) fSplit := by
  intro I H ds ws d sm x e Q k
  unfold fSplit at e
  split at e
  · rename_i a b
    split at e
    · rename_i hc
      cases e
      obtain ⟨v, w, g, h, rfl, y, y2⟩ := x.two
      obtain ⟨rfl, _⟩ := y
      obtain ⟨rfl, _⟩ := y2
      exact ⟨a, b, rfl, rfl, by simpa using hc.1, hc.2, fun p n => fin_lst sm (rps_strs _) n k⟩
    · cases e
  · cases e
/-! ### partition -/
def fPart : List D → Option D
  | [.sc (.str a), .sc (.str b)] => if b.length ≠ 0 ∧ a.length ≤ sizeLine then some (.nd .tup [.sc (.str (Txt.partition a b).1), .sc (.str (Txt.partition a b).2.1), .sc (.str (Txt.partition a b).2.2)]) else none
  | _ => none
def rPart : V → List V → Hp → VK → Prop := fun x xs H Q => ∃ a b, x = .str a ∧ xs = [.str b] ∧ (b.length == 0) = false ∧ a.length ≤ sizeLine ∧
    ∀ p, H p = none → Q (.ref p) (upd H p (.tup [.str (Txt.partition a b).1, .str (Txt.partition a b).2.1, .str (Txt.partition a b).2.2]))
theorem os_part {G : Gm} : OpS G (rM rPart) fPart := by
  intro I H ds ws d sm x e Q k
  unfold fPart at e
  split at e
  · rename_i a b
    split at e
    · rename_i hc
      cases e
      obtain ⟨v, w, g, h, rfl, y, y2⟩ := x.two
      obtain ⟨rfl, _⟩ := y
      obtain ⟨rfl, _⟩ := y2
      exact ⟨a, b, rfl, rfl, by simpa using hc.1, hc.2, fun p n => fin_tup sm (rps_strs [_, _, _]) n k⟩
    · cases e
  · cases e
@[simp] theorem ev_strsD_0 : strsD [] = some [] := id rfl
@[simp] theorem ev_strsD_1 (z : Str) (ds : List D) : strsD (.sc (.str z) :: ds) = (strsD ds).map (z :: ·) := id rfl
theorem strsD_map {α : Type} (f : α → Str) : ∀ xs : List α, strsD (xs.map fun x => .sc (.str (f x))) = some (xs.map f)
  | [] => rfl
  | x :: xs => by show (strsD (xs.map _)).map _ = _; rw [strsD_map f xs]; rfl
@[simp] theorem ev_fSplit (a b : Str) : fSplit [.sc (.str a), .sc (.str b)] = if b.length ≠ 0 ∧ a.length + 2 ≤ sizeLine then some (.nd (.lst true) ((Txt.split a b).map fun z => .sc (.str z))) else none := id rfl
@[simp] theorem ev_fPart (a b : Str) : fPart [.sc (.str a), .sc (.str b)] = if b.length ≠ 0 ∧ a.length ≤ sizeLine then some (.nd .tup [.sc (.str (Txt.partition a b).1), .sc (.str (Txt.partition a b).2.1), .sc (.str (Txt.partition a b).2.2)]) else none := id rfl
@[simp] theorem ev_fJoin (a : Str) (k : Kd) (ds : List D) : fJoin [.sc (.str a), .nd k ds] = if k.seq then (strsD ds).bind fun zs => if (zs.map (·.length)).sum + zs.length * a.length ≤ 16777216 then some (.sc (.str (Txt.join a zs))) else none else none := id rfl
end DL

end
section
set_option maxRecDepth 100000
set_option maxHeartbeats 1000000
/-! DL: what runs while an exception is handled: comprehensions, calls of defs that get the exception. -/
namespace DL
open PySem PySem.Spec PyProof.Rows L2 L2H
/-- a comprehension's context in an except suite -/
abbrev blH (X : Cx) (q : Addr × Obj) (s : Shared) (H : Hp) (sc : Scope) (ev : Env) (ps : List Addr) : Cx := (X.blk s H sc ev ps).tr [q] (fun _ _ => False)
section
variable {X : Cx} {q : Addr × Obj} {body tg src : Expr} {conds : List Expr} {sc : Scope} {nm : List (Str × Nat)} {at1 : Pos} {wi : TI} {g : TG} {tt : TT} {te : TE}
theorem pe_lcH (hot : Hot1 X.A q) (hq : q ∈ X.pn) (hN : X.N.Nodup) (hi : PIH X tg src wi) (bo : BlkOk X.N X.env.scope sc nm)
    (hg : ∀ s H C l ps, PG (blH X q s H sc (compEnvC sc l C X.env) ps) tg g)
    (ht : ∀ s H C l ps, PTs (blH X q s H sc (compEnvC sc l C X.env) ps) conds tt)
    (hb : ∀ s H C l ps, PE (blH X q s H sc (compEnvC sc l C X.env) ps) body te)
    (hs : ∀ x, foldedSetIterable src X.env x = pure x := by intro _; rfl) :
    PE X (.ListComp body [⟨tg, src, conds, 0⟩] sc at1) (tLc wi g tt te (nm.map (·.2))) := by
  refine ⟨fun pins s0 σ0 H0 Q J0 hQ => ?_⟩
  rw [eval_ListComp]
  have caught : ∀ y ∈ sc.names, y.2 = .free → ∃ c, X.env.cells.lookup y.1 = some c := by
    intro y hy e
    rcases bo.free y hy e with k | k
    · exact J0.ok.has _ (.inl k)
    · exact J0.ok.has _ (.inr k)
  refine wpAny_comprehension_free (use := none) rfl hs (closure_ok caught) bo.kind (fun y hy e => by rw [bo.uniq y hy, e]) (thn (hi.run pins s0 σ0 H0 _ J0 hQ) fun v1 s1 h1 => thn h1 fun v2 s2 h2 => ?_)
  obtain ⟨it, ps, tn, J, H2, rfl, J2, T, t2, f2, qT⟩ := h2
  refine wpAny_newObj_type (newEnv_comp ?_) (by show 0 ≤ sizeLine; decide)
  generalize hL : s2.heap.objs.size = L
  have nL : H2 L = none := J2.hok.fresh (Nat.le_of_eq hL)
  obtain ⟨W, ⟨m0, w0⟩, turn⟩ := qT L nL
  generalize e3 : ({ s2 with heap := s2.heap.push { cls := .type "list", data := .seq ([] : List Value).toArray } } : Shared) = s3
  have hp3 : s3.heap = s2.heap.push { cls := .type "list", data := .seq ([] : List Value).toArray } := by rw [← e3]
  have J3 : Inv X pins σ0 (upd H2 L (.lst [])) s3 := by
    rw [← e3]
    refine J2.laid (t' := s2.toks) (fun _ _ z => Heap.get?_push_of_some _ z) (Nat.le_of_eq hL) ⟨Nat.zero_le _, [], 0, .nil, ?_⟩
    rw [← hL]; exact Heap.get?_push_size _ rfl
  have small : ∀ b ∈ ps, b < s2.heap.objs.size := by
    intro b hb
    obtain ⟨ob, z, _⟩ := T.obj _ _ t2 b hb
    exact Heap.lt_size z
  have f3 : ∀ b ∈ ps, FpOk X pins (upd H2 L (.lst [])) b ∧ b < s3.heap.objs.size := by
    intro b hb
    have lt := small b hb
    refine ⟨⟨?_, (f2 b hb).2⟩, by rw [hp3, Heap.size_push]; exact Nat.lt_succ_of_lt lt⟩
    rw [upd_ne (by rw [← hL]; exact Nat.ne_of_lt lt)]
    exact (f2 b hb).1
  have t3 : tn 0 s3.heap := T.keep _ _ _ t2 fun b _ ob z => by rw [hp3]; exact Heap.get?_push_of_some _ z
  have J4 := block_start J3 bo hN f3
  have pg := hg s3 (upd H2 L (.lst [])) s3.heap.objs.size (cellsFrom (s3.heap.objs.size + 1) sc.names (cloFrom X.env.cells sc.names [])) ps
  have pt := ht s3 (upd H2 L (.lst [])) s3.heap.objs.size (cellsFrom (s3.heap.objs.size + 1) sc.names (cloFrom X.env.cells sc.names [])) ps
  have pb := hb s3 (upd H2 L (.lst [])) s3.heap.objs.size (cellsFrom (s3.heap.objs.size + 1) sc.names (cloFrom X.env.cells sc.names [])) ps
  have P3 := J3.pin q (List.mem_append_left _ hq)
  have ltq : q.1 < s3.heap.objs.size := Heap.lt_size P3.1
  have qps : ∀ b ∈ ps, q.1 ≠ b := fun b hb => (f2 b hb).2.2.2.2.2 q (List.mem_append_left _ hq)
  have free0 : ∀ b ∈ ps, (upd H2 L (.lst [])) b = none := fun b hb => (f3 b hb).1.1
  show codeAny _ _ (.compStart (.ListComp body [⟨tg, src, conds, 0⟩] sc at1) 0 (.ref it) (.ref L) (compEnvC sc (cellsFrom (s3.heap.objs.size + 1) sc.names (cloFrom X.env.cells sc.names [])) s3.heap.objs.size X.env)) (compPost (model X.prog X.w) X.A X.xe none _ (.ref L) s3.heap.objs.size) { s3 with heap := pushCells (s3.heap.push { cls := .type "dict", data := .dict #[] }) sc.names }
  generalize e5 : compEnvC sc (cellsFrom (s3.heap.objs.size + 1) sc.names (cloFrom X.env.cells sc.names [])) s3.heap.objs.size X.env = ev at J4 pg pt pb ⊢
  have evL : ev.locals = s3.heap.objs.size := by rw [← e5]; rfl
  generalize e6 : upd H2 L (.lst []) = H3 at J3 J4 pg pt pb w0 free0 f3 P3
  generalize e7 : ({ s3 with heap := pushCells (s3.heap.push { cls := .type "dict", data := .dict #[] }) sc.names } : Shared) = s4 at J4 ⊢
  have t4 : tn 0 s4.heap := T.keep _ _ _ t3 fun b _ ob z => by rw [← e7]; exact pushCells_keeps _ _ _ _ (Heap.get?_push_of_some _ z)
  -- the exception stays where it is
  have pinned : ∀ {τ : L2.St} {H' : Hp} {s' : Shared}, Inv (X.blk s3 H3 sc ev ps) [] τ H' s' → Inv (blH X q s3 H3 sc ev ps) [] τ H' s' := by
    intro τ H' s' I
    have nf : q.1 ∉ frs X.stack := fun z => (List.mem_cons.mp (J3.stkSub q.1 z)).elim P3.2.2.1 P3.2.2.2.1
    have nx : q.1 ∉ ps := fun z => qps q.1 z rfl
    have I2 : Inv (X.blk s3 H3 sc ev ps) [q] τ H' s' := I.pins_of fun r hr => by
      have er : r = q := by simpa using hr
      subst er
      exact ⟨I.base.keep _ _ P3.1 P3.2.1 nf nx, I.base.free _ _ P3.1 P3.2.1 nx, fun z => absurd (z.trans evL) (Nat.ne_of_lt ltq), nf, P3.2.2.2.2⟩
    exact I2.toTry _
  have loose : ∀ {pl : List (Addr × Obj)} {τ : L2.St} {H' : Hp} {s' : Shared}, (X.blk s3 H3 sc ev ps).Ok → Inv (blH X q s3 H3 sc ev ps) pl τ H' s' → Inv (X.blk s3 H3 sc ev ps) [q] τ H' s' := fun ok I => I.ofTry ok
  have okB := J4.ok
  have I4 := pinned J4
  have hotB : HotC (blH X q s3 H3 sc ev ps) := ⟨q, hot, List.mem_cons_self⟩
  have still : ∀ {τ : L2.St} {H' : Hp} {s' : Shared}, Inv (blH X q s3 H3 sc ev ps) [] τ H' s' → (∀ b ∈ ps, H' b = none) → ∀ b ∈ ps, FpOk (blH X q s3 H3 sc ev ps) [] H' b := fun I hn b hb =>
    ⟨hn b hb, (I.ok.exf b hb).1, I.ok.exfs b hb, .inl hb, fun x c e => (I.ok.exf b hb).2 x c e, fun r hr => by
      have er : r = q := by simpa using hr
      rw [er]; exact qps b hb⟩
  have loop : codeAny (model X.prog X.w) X.A (.compLoop (.ListComp body [⟨tg, src, conds, 0⟩] sc at1) 0 (.ref it) (.ref L) ev) (compPost (model X.prog X.w) X.A X.xe none (EP X pins σ0 Q) (.ref L) s3.heap.objs.size) s4 := by
    refine compLoop_any (fun n s' => ∃ i H', Inv (blH X q s3 H3 sc ev ps) [] (wipe σ0 (nm.map (·.2))) H' s' ∧ tn i s'.heap ∧ (∀ b ∈ ps, H' b = none) ∧ W i n H') ?_ m0 ⟨0, H3, I4, t4, free0, w0⟩
    rintro n s5 ⟨i, H5, I5, t5, n5, w5⟩
    rcases turn i n H5 w5 with ⟨stop, out⟩ | ⟨go, Nx, hNx, step⟩
    · refine thnF (T.done (blH X q s3 H3 sc ev ps) rfl rfl rfl hotB i [] s5 _ H5 (fun _ _ => False) I5 (still I5 n5) t5 stop) fun r s6 ⟨hr, I6⟩ => ?_
      subst hr
      have I6' := loose okB I6
      have I7 : Inv X pins σ0 H5 s6 := J3.call' (ch := ps) I6'.os I6'.base I6'.hok I6'.bare fun b hb => ⟨(f3 b hb).1.2.2.2.1, (f3 b hb).1.2.1, (f3 b hb).1.2.2.2.2.1, (f3 b hb).1.2.2.2.2.2⟩
      have nC : H5 s3.heap.objs.size = none := by
        have z : H5 ev.locals = none := I6'.free
        rwa [evL] at z
      obtain ⟨m, hn, _⟩ := I6'.loc
      have hn : s6.heap.Ns ev.locals m := hn
      rw [evL] at hn
      obtain ⟨g0, g1, g2, g3, g4, g5⟩ := J3.fpOk (Nat.le_refl _) nC
      exact ⟨m, hn, fun h'' sb => ⟨.ref L, H5, I7.turned (t' := s6.toks) (fun b o hb e => (sb.2 b hb).trans e) g0 g1 g3 g4 g5, rfl, out⟩⟩
    · refine thnF (T.item (blH X q s3 H3 sc ev ps) rfl rfl rfl hotB i [] s5 _ H5 (fun _ _ => False) I5 (still I5 n5) t5 go) fun r s6 ⟨u, hr, h6⟩ => ?_
      subst hr
      refine thnF h6 fun _ s7 ⟨x, H7, I7, r7, y7, t7, n7⟩ => ?_
      have I7' := I7.pinned (still I7 n7) (T.obj _ _ t7)
      refine thnF (pg.run _ s7 _ H7 x u _ I7' r7 (step x H7 y7)) fun _ s8 ⟨σ8, H8, I8, hw8, q8⟩ => ?_
      refine thnF (pt.run _ s8 σ8 H8 _ I8 q8) fun b s9 ⟨H9, I9, q9⟩ => ?_
      have fin : ∀ {s' : Shared} {H' : Hp}, Inv (blH X q s3 H3 sc ev ps) ([] ++ pinsAt ps s7.heap) σ8 H' s' → Nx H' → ∃ m, m < n ∧ ∃ i H', Inv (blH X q s3 H3 sc ev ps) [] (wipe σ0 (nm.map (·.2))) H' s' ∧ tn i s'.heap ∧ (∀ b ∈ ps, H' b = none) ∧ W i m H' := by
        intro s' H' I' nx
        obtain ⟨m1, hm, w1⟩ := hNx H' nx
        have at' : ∀ b ∈ ps, ∀ o, s7.heap.get? b = some o → s'.heap.get? b = some o ∧ H' b = none := fun b hb o e =>
          have z := I'.pin (b, o) (List.mem_append_right _ (List.mem_append_right _ (mem_pinsAt hb e)))
          ⟨z.1, z.2.1⟩
        have hl : (wipe σ0 (nm.map (·.2))).length = σ8.length := by rw [← hw8, wipe_length]
        refine ⟨m1, hm, i + 1, H', (I'.unpinned (pins := [])).weak hl (fun j v e => ?_), T.keep _ _ _ t7 fun b hb o e => (at' b hb o e).1, fun b hb => ?_, w1⟩
        · rw [← hw8] at e
          exact (wipe_some e).1
        · obtain ⟨o, e, _⟩ := T.obj _ _ t7 b hb
          exact (at' b hb o e).2
      cases b with
      | false =>
        simp only [Bool.false_eq_true, if_false] at q9 ⊢
        exact fin I9 q9
      | true =>
        simp only [if_true] at q9 ⊢
        refine thnF (pb.run _ s9 σ8 H9 _ I9 q9) fun z s10 ⟨yv, H10, I10, r10, acc, hD, hz, nx⟩ => ?_
        exact app_ok (X := blH X q s3 H3 sc ev ps) I10 hD hz r10 fun s11 I11 => fin I11 nx
  exact codeAny_compStart_list loop (T.self X.A 0 _ _ _ t4 loop)
end
end DL

end
section
set_option maxRecDepth 100000
set_option maxHeartbeats 1000000
/-! DL: defs that are handed the exception, while it is handled; handlers that run statements. -/
namespace DL
open PySem PySem.Spec PyProof PyProof.Rows L2 L2H
/-- the object is of the class C and has no fields of its own -/
abbrev ofC (C : Addr) (q : Addr × Obj) : Prop := Zc (.ref C) none q.2
structure FnE (P : Program) (w : World) (K : PySem.W.Frag) (mg : Str → Option Value) (base : Heap) (k : Nat) (f : Addr) (fd : FuncData) (ps : List Str) (C : Addr) (sp : Addr → Sp) : Prop where
  len : ∀ a vs H Q E, sp a vs H Q E → vs.length = ps.length
  run : ∀ (Ar : Around) (ov : List Env) (s0 : Shared) (H0 : Hp) (ar : Args) (us : List Value) (ws : List V) (Q : VK) (E : XK) (q : Addr × Obj), RoomH k Ar → Hot1 Ar q → ofC C q → PinOk ov H0 s0 q → Env0 P w K mg base Ar ov s0 H0 →
    BindsTo s0 fd ar (ps.zip us) → Vals ws us → sp q.1 ws H0 Q E → codeAny (model P w) Ar (.call (.ref f) ar) (CR (L2N.CX P w) ov P w H0 s0 Q E) s0
theorem FnE.of {P : Program} {w : World} {K : PySem.W.Frag} {mg : Str → Option Value} {base : Heap} {x qual : Str} {st : Stmt} {f : Addr} {fd : FuncData} {N ps : List Str} {k : Nat} {C : Addr} {sp : Addr → Sp} (F : Fun K x qual st f fd) (S : FnScope N ps (defScope st)) (hl : ∀ a vs H Q E, sp a vs H Q E → vs.length = ps.length)
    (hb : ∀ (cd : Value) (Ar : Around) (ov : List Env) (s0 : Shared) (H0 : Hp) (ws : List V) (Q : VK) (E : XK) (q : Addr × Obj), Hot1 Ar q → ofC C q → RoomH k (Ar.deeper (envOfC qual (defScope st) s0.heap.objs.size f cd)) → sp q.1 ws H0 Q E →
      ∃ t, PSs (cxH (L2N.CX P w) P w K mg base N qual (defScope st) f cd Ar ov s0 H0 E q) (defBody st) t ∧ t { nx := fun _ H' => Q .non H', rt := Q } (start N ws) H0) : FnE P w K mg base (k + 1) f fd ps C sp := by
  obtain ⟨_, _, _, _, _, _, cd, _, _, rfl, look, known⟩ := F.ex
  refine ⟨hl, fun Ar ov s0 H0 ar us ws Q E q room hot hC pin e0 bt rv hq => ?_⟩
  have nn := hl _ _ _ _ _ hq
  have kin : K.In s0.heap := e0.mod.kin.keeps fun b o z => (e0.bs b o z).1
  have nolim : s0.heap.NoLimit := e0.mod.nolimit.keeps fun b o z => (e0.bs b o z).1
  have kinds : ∀ z ∈ ps.zip us, (defScope st).names.lookup z.1 = some .local ∨ ((defScope st).names.lookup z.1 = some .cell ∧ ((cellsFrom (s0.heap.objs.size + 1) (defScope st).names []).lookup z.1).isSome = true) := by
    rintro ⟨y, v⟩ hz
    rcases S.par y (List.of_mem_zip hz).1 with c | c
    · exact .inl c
    · exact .inr ⟨c, PySem.W.cellsFrom_some _ _ _ (.inl c)⟩
  refine codeAny_call_function room.depth (kin _ _ look) rfl S.co S.gen rfl (PySem.W.codeRec_of kin known) (bt _ _ _ _ ?_)
  refine wpAny_newFunctionEnv_cells S.kind kinds fun ev hev s1 inC => ?_
  subst hev
  refine ⟨nolim.keeps inC.toInCall.keep, codeAny_func ?_⟩
  obtain ⟨t, hrun, ht⟩ := hb cd Ar ov s0 H0 ws Q E q hot hC (room.deeper _) hq
  have J := inv_startH (E := E) (CX := L2N.CX P w) S pin e0 nn rv inC
  refine wpAny_mono (hrun.run [] s1 _ H0 _ J ht) (fun fl s2 done => ?_) fun _ _ z => z
  have out : ∀ {σ2 : L2.St} {H2 : Hp} {v : V} {u : Value}, Inv (cxH (L2N.CX P w) P w K mg base N qual (defScope st) f cd Ar ov s0 H0 E q) [] σ2 H2 s2 → RelV v u → Q v H2 → CE ov P w H0 s0 Q u s2 :=
    fun J2 r z => ⟨_, _, J2.os, J2.bare, J2.base, J2.hok, r, z⟩
  cases fl with
  | next =>
    obtain ⟨σ2, H2, J2, z⟩ := done
    exact out (v := V.non) (u := Value.none) J2 rfl z
  | ret u =>
    obtain ⟨v, σ2, H2, J2, r, z⟩ := done
    exact out J2 r z
  | brk =>
    obtain ⟨_, _, _, z⟩ := done
    exact z.elim
  | cont =>
    obtain ⟨_, _, _, z⟩ := done
    exact z.elim
section
variable {X : Cx} {k : Nat} {f C : Addr} {fd : FuncData} {ps : List Str} {sp : Addr → Sp} {E : L2.St → XK} {x : Str} {p pos : Pos} {e : Expr} {es : List Expr} {t : TA} {q : Addr × Obj}
theorem run_fnE {pins : List (Addr × Obj)} {σ : L2.St} {H : Hp} {s : Shared} {Q : VK} {us : List Value} {ws : List V} (F : FnE X.prog X.w X.K X.mg X.base k f fd ps C sp) (hr : RoomH k X.A) (hot : Hot1 X.A q) (hq : q ∈ X.pn) (hC : ofC C q) (hb : Binds X.K fd ps [])
    (hx : PassesAt (L2N.CX X.prog X.w) X σ (E σ)) (J : Inv X pins σ H s) (r : Vals ws us) (h : sp q.1 ws H Q (E σ)) : wpAny (model X.prog X.w) X.A (call (.ref f) us) (EP X pins σ Q) X.xe s := by
  have bd := hb s us J.kIn (by rw [List.append_nil, ← r.length]; exact F.len _ _ _ _ _ h)
  rw [List.append_nil] at bd
  have P1 := J.pin q (List.mem_append_left _ hq)
  have pin : PinOk X.stack H s q := ⟨P1.1, P1.2.1, fun z => (List.mem_cons.mp (J.stkSub q.1 z)).elim P1.2.2.1 P1.2.2.2.1, P1.2.2.2.2⟩
  refine wpAny_call (codeAny_mono (F.run X.A X.stack s H ⟨us, []⟩ us ws Q (E σ) q hr hot hC pin J.env0 bd r h) ?_)
  intro res s2 hres
  match res, hres with
  | .error ev, z => exact hx pins H s ev s2 J z
  | .ok (.ret u), z => exact J.after z
  | .ok .next, z => exact False.elim z
  | .ok .brk, z => exact False.elim z
  | .ok .cont, z => exact False.elim z
theorem pe_callE (F : FnE X.prog X.w X.K X.mg X.base k f fd ps C sp) (hr : RoomH k X.A) (hot : Hot1 X.A q) (hq : q ∈ X.pn) (hC : ofC C q) (hg : Gl X x) (hm : X.mg x = some (.ref f)) (hk : PySem.W.keepIn X.K (.ref f) = true) (hb : Binds X.K fd ps [])
    (hx : ∀ σ, PassesAt (L2N.CX X.prog X.w) X σ (E σ)) (ha : PA X (e :: es) t) (hdb : (x == ("__debug__" : Str)) = false := by decide) (h1 : starEach (e :: es) X.env = (false, eval e X.env) :: starEach es X.env := by rfl)
    (h2 : (backTo pos (starEach es X.env)).any (·.1) = false := by rfl) : PE X (.Call (.Name x p) (e :: es) [] pos) (tCallS (sp q.1) E t) := by
  constructor
  intro pins s σ H Q J hQ
  refine wpAny_Call_Name_kw (ld_glob J hg hm ?_ hdb)
  refine PySem.W.callWith_K (h₀ := X.base) J.ok.mod.kin hk (thn (ha.run pos pins s σ H _ J hQ) fun us s1 z => ?_) h1 h2
  obtain ⟨ws, H1, J1, r, z⟩ := z
  exact ⟨J1.kIn, run_fnE F hr hot hq hC hb (hx σ) J1 r z⟩
theorem passW0 (σ : L2.St) : PassesAt (L2N.CX X.prog X.w) X σ (WE W0 σ) := fun _ _ _ _ _ _ h => by
  obtain ⟨_, _, _, _, _, _, _, _, _, _, _, _, z⟩ := h
  exact z.elim
end
section
variable {X : Cx} {G : Gm} {W : WX} {p1 : Bool} {pos p : Pos} {e : Expr} {es : List Expr} {das : DenA} {F : Addr → Fn} {k : Nat} {f C : Addr} {fd : FuncData} {ps : List Str} {q : Addr × Obj} {x : Str}
theorem jcallE (ok : FnE X.prog X.w X.K X.mg X.base k f fd ps C (fun a => spOf G (F a))) (hx : ∀ σ, PassesAt (L2N.CX X.prog X.w) X σ (WE W σ)) (hr : RoomH k X.A) (hot : Hot1 X.A q) (hq : q ∈ X.pn) (hC : ofC C q) (hm : X.mg x = some (.ref f)) (hk : PySem.W.keepIn X.K (.ref f) = true) (hb : Binds X.K fd ps [])
    (ha : JA X G W p1 (e :: es) das) (hg : Gl X x := by rfl) (hdb : (x == ("__debug__" : Str)) = false := by decide) (h1 : starEach (e :: es) X.env = (false, eval e X.env) :: starEach es X.env := by rfl) (h2 : (backTo pos (starEach es X.env)).any (·.1) = false := by rfl) :
    JE X G W false (.Call (.Name x p) (e :: es) [] pos) (dCall (F q.1) das) := PE_imp (pe_callE (E := WE W) ok hr hot hq hC hg hm hk hb hx ha hdb h1 h2) (t_callS (fun _ _ _ h => h))
end
/-- a def that is handed the exception, in the layer's words -/
theorem ok_defE {P : Program} {w : World} {K : PySem.W.Frag} {mg : Str → Option Value} {base : Heap} {x qual : Str} {st : Stmt} {f : Addr} {fd : FuncData} {N ps : List Str} {k : Nat} {C : Addr} {G : Gm} {A : List Nat} {b : Addr → DenS} {Fa : Addr → Fn} (F : Fun K x qual st f fd) (S : FnScope N ps (defScope st)) (hn : ps.length ≤ N.length) (hF : ∀ a, Fa a = opq (fnP ps.length N.length A (b a)))
    (hb : ∀ (cd : Value) (Ar : Around) (ov : List Env) (s : Shared) (H : Hp) (E : XK) (q : Addr × Obj), Hot1 (Ar.deeper (envOfC qual (defScope st) s.heap.objs.size f cd)) q → ofC C q → RoomH k (Ar.deeper (envOfC qual (defScope st) s.heap.objs.size f cd)) →
      JB (cxH (L2N.CX P w) P w K mg base N qual (defScope st) f cd Ar ov s H E q) G (fun cls d _ H => E cls d H) A (defBody st) (b q.1)) :
    FnE P w K mg base (k + 1) f fd ps C (fun a => spOf G (Fa a)) := by
  have eF : Fa = fun a => opq (fnP ps.length N.length A (b a)) := funext hF
  subst eF
  have flen : ∀ a vs H Q E, spOf G (opq (fnP ps.length N.length A (b a))) vs H Q E → vs.length = ps.length := fun a vs H Q E h => spOf_len (n := ps.length) (fun ds h => by
    rw [opq_eq] at h
    unfold fnP at h
    by_cases z : ds.length = ps.length
    · exact z
    · rw [if_neg z] at h; exact absurd rfl h) h
  refine FnE.of F S flen fun cd Ar ov s H vs Q E q hot hC hr h => ⟨_, hb cd Ar ov s H E q ⟨hot.1, hot.2⟩ hC hr, ?_⟩
  have hv := flen _ _ _ _ _ h
  have h : spOf G (opq (fnP ps.length N.length A (b q.1))) vs H Q E := h
  rw [opq_eq] at h
  unfold fnP at h
  refine fn_body hn hv (fun ds hd => ?_) (fun _ _ _ h => h) h
  by_cases z : ds.length = ps.length
  · rw [if_pos z]
  · rw [if_neg z] at hd; exact absurd rfl hd
/-! ### isinstance(e, c) -/
noncomputable def dIsE (a : Addr) (i : Nat) (b : Bool) : Den := fun E => match E[i]? with
  | some (.sc (.ref a')) => if a' = a then .ok (.val (.sc (.bl b)), E) else .bad
  | _ => .bad
theorem t_isE {G : Gm} {W : WX} {a : Addr} {i : Nat} {b : Bool} : ∀ σ H Q, tO G W true (dIsE a i b) σ H Q → σ[i]? = some (some (V.ref a)) ∧ Q (.bl b) H := by
  rintro σ H Q ⟨I, E, vs, f, s, h⟩
  unfold dIsE at h
  split at h
  · rename_i a' e
    split at h
    · rename_i ha
      subst ha
      obtain ⟨v, g, h1, ev, x, _⟩ := s.rp.get e
      obtain ⟨rfl, _⟩ := x
      refine ⟨s.sl.2 i _ _ e (by rintro ⟨⟩) ev, ?_⟩
      exact h (.bl b) I H f z0 s ⟨rfl, fun _ => rfl⟩ (fun a => by simp; exact s.nd a) (Fr.refl.less fun x z => by simpa using z) fun _ => rfl
    · exact h.elim
  · exact h.elim
theorem call_isQ {Y : Cx} {Dc : Addr} {q : Addr × Obj} (C : ExcC Y.K Dc) (hz : ofC Dc q) (hf : ∃ vs : Array Value, q.2.data = .fields vs) (hq : q ∈ Y.pn) : CallR Y (.builtin "isinstance") (rIsE Y.K Dc q.1) := by
  intro pins s σ H xs us Q J r h
  obtain ⟨c, cv, b, rfl, hcv, hk, z⟩ := h
  cases r with
  | cons rx rr =>
    cases rr with
    | cons rt rr =>
      cases rr
      cases rx
      have ec := hcv _ rt
      subst ec
      have P1 := (J.pin q (List.mem_append_left _ hq)).1
      obtain ⟨qa, ⟨oc, od, oda, osl⟩⟩ := q
      obtain ⟨fs, hf⟩ := hf
      obtain ⟨z1, z2⟩ := hz
      dsimp only at z1 z2 hf
      subst z1 z2 hf
      have at1 : PySem.W.InstAt s.heap qa ⟨.ref Dc, none, .fields fs, osl⟩ Dc none := ⟨P1, rfl, rfl, trivial⟩
      exact PySem.W.kia_one (PySem.W.handS_kitx_exc C.hg C.hk C.hs C.hd C.ha C.hn C.ht C.hm) J.kIn at1 hk (fun z => nomatch z) fun tk => ⟨.bl b, H, J.kept (t' := tk) fun _ _ y => y, rfl, z⟩
theorem jisE {Y : Cx} {G : Gm} {W : WX} {Dc : Addr} {q : Addr × Obj} {i : Nat} {n x : Str} {v : V} {cv : Value} {b : Bool} {p p2 p3 pos : Pos} (C : ExcC Y.K Dc) (hot : Hot1 Y.A q) (hz : ofC Dc q) (hq : q ∈ Y.pn) (hm : Y.mg "isinstance" = none) (hc : CN Y x v cv) (e : PySem.W.kitOne Y.K (.ref Dc) cv = some b)
    (hN : Y.N[i]? = some n := by rfl) (hv : Vis Y.env.scope n := by first | exact Or.inl rfl | exact Or.inr (Or.inl rfl) | exact Or.inr (Or.inr rfl)) (hd : (n == ("__debug__" : Str)) = false := by decide) (hcd : (n == ("__classdict__" : Str)) = false := by decide) (hg : Gl Y "isinstance" := by rfl)
    (h1 : starEach [.Name n p2, .Name x p3] Y.env = (false, eval (.Name n p2) Y.env) :: starEach [.Name x p3] Y.env := by rfl) (h2 : starEach [.Name x p3] Y.env = (false, eval (.Name x p3) Y.env) :: starEach [] Y.env := by rfl) (h3 : (backTo pos (starEach [.Name x p3] Y.env)).any (·.1) = false := by rfl) :
    JE Y G W true (.Call (.Name "isinstance" p) [.Name n p2, .Name x p3] [] pos) (dIsE q.1 i b) := by
  obtain ⟨_, fs, hfs, _⟩ := hot
  refine PE_imp (pe_callB (call_isQ C hz ⟨fs, hfs⟩ hq) hg hm (by decide +kernel) (pa_cons (pv i hN hv hd hcd) (pa_cons (hc.pe p3) pa_nil h2) h1) (by decide) (by decide) h1 h3) fun σ H Q h => ?_
  obtain ⟨h0, hQ⟩ := t_isE σ H Q h
  exact ⟨_, h0, _, cv, b, rfl, hc.is, e, hQ⟩
/-! ### comprehensions there -/
section
variable {X : Cx} {G : Gm} {W : WX} {A : List Nat} {pos q1 : Pos} {a : Expr} {das : DenA} {p : Bool}
abbrev JIH (X : Cx) (G : Gm) (W : WX) (tg e : Expr) (d : DenI) : Prop := PIH X tg e (tIB G W false d)
theorem PIH_imp {tg e : Expr} {t t' : TI} (h : PIH X tg e t) (k : ∀ σ H Q, t' σ H Q → t σ H Q) : PIH X tg e t' := ⟨fun pins s σ H R I z => h.run pins s σ H R I (k σ H R z)⟩
theorem jrg1H {tg : Expr} (hm : X.mg "range" = none) (ha : JA X G W p [a] das) (hg : Gl X "range" := by rfl) (hs : starEach [a] X.env = [(false, eval a X.env)] := by rfl) : JIH X G W tg (.Call (.Name "range" q1) [a] [] pos) (dR1 das) :=
  PIH_imp (pi_range1H hg hm ha hs) (tIB_I (t_r1 fun _ _ _ h => h))
theorem jlcH {q : Addr × Obj} {pt pe : Bool} {elt tg iter : Expr} {ifs : List Expr} {scope : Scope} {own : List (Str × Nat)} {g : TG} {dg : DenG} {di : DenI} {dt : DenT} {de : Den} (hot : Hot1 X.A q) (hq : q ∈ X.pn) (hN : X.N.Nodup) (hi : JIH X G W tg iter di) (ok : BlkOk X.N X.env.scope scope own) (ht : TgS G A g dg)
    (hA : ∀ j ∈ A, j ∈ own.map (·.2)) (nd : (own.map (·.2)).Nodup)
    (hg : ∀ s H C cl fp, PG (blH X q s H scope (compEnvC scope cl C X.env) fp) tg g) (hif : ∀ s H C cl fp, PTs (blH X q s H scope (compEnvC scope cl C X.env) fp) ifs (tT G W0 pt dt))
    (he : ∀ s H C cl fp, JE (blH X q s H scope (compEnvC scope cl C X.env) fp) G W0 pe elt de) (hs : ∀ x, foldedSetIterable iter X.env x = pure x := by intro _; rfl) :
    JE X G W false (.ListComp elt [⟨tg, iter, ifs, 0⟩] scope pos) (dComp di dg dt de (own.map (·.2))) :=
  PE_imp (pe_lcH hot hq hN hi ok hg hif he hs) (t_comp (fun h => by cases h) ht hA nd (fun _ _ _ h => h) (fun _ _ _ h => h) (fun _ _ _ h => h))
end
/-! ### try -/
/-- the answer of a handler that does not hang on where the exception stands -/
def sameAns (i : Nat) (E : List D) (dh : Addr → DenS) (d : D) (E2 : List D) : Prop := ∀ a, dh a (E.set i (.sc (.ref a))) = .rt d (E2.set i (.sc (.ref a)))
open Classical in
noncomputable def dTryE (i c0 : Nat) (dh : Addr → DenS) (b : DenS) : DenS := fun E => match b E with
  | .exc c fs E' => match E'[i]?, fs with
    | some .una, [] => if c = c0 then (if h : ∃ z : D × List D, sameAns i E' dh z.1 z.2 then .rt (Classical.choose h).1 ((Classical.choose h).2.set i .una) else .bad) else .bad
    | _, _ => .bad
  | s => s
theorem dTryE_of {i c0 : Nat} {dh : Addr → DenS} {b : DenS} {E E' E2 : List D} {d : D} (hb : b E = .exc c0 [] E') (hi : E'[i]? = some .una) (h : sameAns i E' dh d E2) : dTryE i c0 dh b E = .rt d (E2.set i .una) := by
  unfold dTryE
  rw [hb]
  dsimp only
  rw [hi]
  dsimp only
  rw [if_pos rfl]
  have hx : ∃ z : D × List D, sameAns i E' dh z.1 z.2 := ⟨(d, E2), h⟩
  rw [dif_pos hx]
  have h2 := Classical.choose_spec hx
  have e := (h2 0).symm.trans (h 0)
  injection e with e1 e2
  rw [e1]
  have e3 := congrArg (fun l => l.set i D.una) e2
  simpa using e3
section
variable {X : Cx} {G : Gm} {W : WX} {A A2 : List Nat} {b₀ : Stmt} {body suite : List Stmt} {db : DenS} {dh : Addr → DenS} {np pos pos' : Pos} {x n : Str} {i c0 : Nat} {cP : Addr}
abbrev tsE (G : Gm) (c0 : Nat) (A2 : List Nat) (dh : Addr → DenS) : Addr → Value → Option Addr → TS := fun a cls d D σ H => (cls = .ref (G.cls c0) ∧ d = none) ∧ tS G W0 A2 (dh a) D σ H
theorem t_tryE {K : PySem.W.Frag} (em : PySem.W.exmOne K (.ref (G.cls c0)) (.ref cP) = some true) : ∀ D σ H, tS G W (A ++ ([i] ++ A2)) (dTryE i c0 dh db) D σ H → tS G (wAs K (.ref cP) i (tsE G c0 A2 dh) W D) A db D σ H := by
  intro D σ H z
  obtain ⟨I, E, vs, f, s, hh⟩ := z
  refine ⟨I, E, vs, f, s, ?_⟩
  have sub : ∀ j ∈ A, j ∈ A ++ ([i] ++ A2) := fun j hj => List.mem_append_left _ hj
  unfold dTryE at hh
  cases e : db E with
  | exc c fs E' =>
    rw [e] at hh
    dsimp only at hh
    split at hh
    · rename_i eI
      split at hh
      · rename_i hcc
        subst hcc
        split at hh
        · rename_i hx
          have same := Classical.choose_spec hx
          generalize Classical.choose hx = z at hh same
          obtain ⟨d, E2⟩ := z
          dsimp only at hh same
          intro cls dd σ' vs' I' H' f' s' ag ex fr
          obtain ⟨rfl, ⟨_, rfl⟩ | ⟨z, _⟩⟩ := ex
          · have hil : i < E'.length := (List.getElem?_eq_some_iff.mp eI).1
            refine ⟨true, em, fun _ a ha => ⟨⟨rfl, rfl⟩, ?_⟩, fun z => by cases z⟩
            obtain ⟨f2, s2, le⟩ := s'.set (d := .sc (.ref a)) (v := .ref a) (g := z0) ⟨rfl, fun _ => rfl⟩ (fun b => by simpa using s'.nd b) hil
            refine ⟨I', _, _, f2, s2, ?_⟩
            rw [same a]
            intro v σ3 vs3 I3 H3 f3 g s3 ag3 x3 n3 fr3
            obtain ⟨f4, s4, le4⟩ := s3.forget1 i
            rw [List.set_set] at s4
            have ag1 : Agr [i] vs' (vs'.set i (.ref a)) := fun j hj => by
              rw [List.getElem?_set_ne (by rintro rfl; simp at hj)]
            refine hh v σ3 vs3 I3 H3 f4 g s4 (ag.trans (ag1.trans ag3)) x3 (fun b => by have := n3 b; have := le4 b; omega) ?_
            have fr1 : Fr false I H f I' H' f2 := fr.less fun b z => by have := le b; simp at this; omega
            exact (fr1.trans fr3).less fun b z => by have := le4 b; simp at z ⊢; omega
          · exact absurd rfl z
        · exact hh.elim
      · exact hh.elim
    · exact hh.elim
  | nx E' => rw [e] at hh; exact fun σ' vs' I' H' f' s' ag fr => hh σ' vs' I' H' f' s' (ag.sub sub) fr
  | bk E' => rw [e] at hh; exact fun σ' vs' I' H' f' s' ag fr => hh σ' vs' I' H' f' s' (ag.sub sub) fr
  | ct E' => rw [e] at hh; exact fun σ' vs' I' H' f' s' ag fr => hh σ' vs' I' H' f' s' (ag.sub sub) fr
  | rt d E' => rw [e] at hh; exact fun v σ' vs' I' H' f' g s' ag x n fr => hh v σ' vs' I' H' f' g s' (ag.sub sub) x n fr
  | bad => rw [e] at hh; exact hh.elim
theorem jtryE (hK : G.K = X.K) (hs : X.stack = X.env :: X.outer) (hf : X.env.frame = some X.env.locals) (hN : X.N.Nodup) (tk : L2N.Takes X W) (gP : X.mg x = some (.ref cP)) (em : PySem.W.exmOne X.K (.ref (G.cls c0)) (.ref cP) = some true)
    (hb : ∀ (W' : WX) (pn : List (Addr × Obj)) (xe : Value → Shared → Prop), L2N.Takes (X.tr pn xe) W' → PassesOwn (model X.prog X.w) X.A X.env xe → JB (X.tr pn xe) G W' A body db)
    (hsu : ∀ (q : Addr × Obj) (pn : List (Addr × Obj)), Hot1 (X.suite q.1 (q :: pn)).A q → ofC (G.cls c0) q → JB (X.suite q.1 (q :: pn)) G W0 A2 (b₀ :: suite) (dh q.1))
    (hi : X.N[i]? = some n := by rfl) (hln : X.env.kindOf n = some .local := by rfl) (hg : Gl X x := by rfl) (hdb : (x == ("__debug__" : Str)) = false := by decide) :
    JS X G W (A ++ ([i] ++ A2)) (.Try body [.ExceptHandler (some (.Name x np)) (some n) (b₀ :: suite) pos'] [] [] pos) (dTryE i c0 dh db) := by
  refine PS_imp (L2N.ps_try_as (c := .ref cP) (i := i) (tb := fun W' => tS G W' A db) (ts := tsE G c0 A2 dh) (Wout := W) hs hf hN hi hln ⟨hg, hdb, .inl gP⟩ tk (fun W' pn xe t1 t2 => hb W' pn xe t1 t2)
    (fun a oe cls d pn hz hv => ⟨fun pins s σ H D J h => by
      obtain ⟨⟨rfl, rfl⟩, h⟩ := h
      obtain ⟨fs, hfs⟩ := hv
      exact (hsu (a, oe) pn ⟨rfl, fs, hfs, hz.2.2 fs hfs⟩ hz.zc).run pins s σ H D J h⟩)) (t_tryE em)
end
end DL

end
section
set_option maxRecDepth 100000
set_option maxHeartbeats 1000000
/-! DL: an except clause whose name stands in a cell (a comprehension of the suite reads it). -/
namespace DL
open PySem PySem.Spec PyProof PyProof.Rows L2 L2H
section
variable {X : Cx} {pins : List (Addr × Obj)} {σ : L2.St} {H : Hp} {s : Shared}
/-- a cell is emptied -/
theorem Inv.emptied {i : Nat} {n : Str} {c : Addr} {h' : Heap} (J : Inv X pins σ H s) (hN : X.N.Nodup) (hi : X.N[i]? = some n) (fn : X.fn n = true) (hc : X.env.cells.lookup n = some c) (k : X.env.kindOf n = some .cell) (e' : h'.IsCell c none) (sb : Heap.SameBut c s.heap h') :
    Inv X pins (σ.set i none) H { s with heap := h' } := by
  obtain ⟨w0, o0, g0, d0⟩ := J.cell n c hc
  obtain ⟨m, ns, lk⟩ := id J.loc
  have old : ∀ b o, X.s_0.heap.get? b = some o → b ≠ c := fun b o e => Nat.ne_of_lt (Nat.lt_of_lt_of_le (Heap.lt_size e) (J.ok.cab n c fn hc))
  refine ⟨J.ok, J.os, J.bare, ?_, ⟨m, ns.sameBut sb (Ne.symm (J.cne n c hc)), ?_⟩, ?_, J.free, J.freeC, ?_, ?_, by simpa using J.len⟩
  · refine ⟨fun b o e z1 z2 z3 => (sb.2 b (old b o e)).trans (J.base.keep b o e z1 z2 z3), fun b o e z1 z2 z3 => ?_, J.base.free, fun b o e z3 => ?_, J.base.tups, J.base.frzs, J.base.tbls⟩
    · obtain ⟨sl, e1⟩ := J.base.slot b o e z1 z2 z3
      exact ⟨sl, (sb.2 b (old b o e)).trans e1⟩
    · obtain ⟨o', e1⟩ := J.base.there b o e z3
      exact ⟨o', (sb.2 b (old b o e)).trans e1⟩
  · intro j y v e1 e2 e3
    by_cases hj : j = i
    · subst hj
      by_cases hlt : j < σ.length
      · rw [List.getElem?_set_self hlt] at e2; cases e2
      · rw [List.getElem?_eq_none (by simpa using hlt)] at e2; cases e2
    · rw [List.getElem?_set_ne (Ne.symm hj)] at e2
      obtain ⟨u, r, q⟩ := lk j y v e1 e2 e3
      refine ⟨u, r, ?_⟩
      rcases q with ⟨a1, a2⟩ | ⟨a1, c', a2, a3⟩
      · exact .inl ⟨a1, a2⟩
      · refine .inr ⟨a1, c', a2, a3.sameBut sb ?_⟩
        intro z
        subst z
        have := J.ok.inj _ _ _ a2 hc
        subst this
        exact hj (nodup_ix hN e1 hi)
  · intro y c' e
    by_cases z : c' = c
    · subst z; exact ⟨_, e'⟩
    · obtain ⟨w, q⟩ := J.cell y c' e
      exact ⟨w, q.sameBut sb z⟩
  · intro p hp
    obtain ⟨a1, a2, a3, a4, a5⟩ := J.pin p hp
    refine ⟨(sb.2 p.1 ?_).trans a1, a2, a3, a4, a5⟩
    intro z
    rw [z, g0] at a1
    have : o0 = p.2 := Option.some.inj a1
    exact a5 w0 (by rw [← this]; exact d0)
  · intro b ob e
    refine (J.hok b ob e).stay (fun c' w' q1 q2 => (sb.2 c' ?_).trans q2) (fun _ q => q) fun _ _ q => q
    intro z
    subst z
    have fr := J.freeC n c' hc
    rcases q1 with q1 | q1
    · subst q1; rw [fr] at e; cases e
    · rw [fr] at q1; cases q1
theorem gone_cell {M : Model} {A : Around} {E : Value → Shared → Prop} {i : Nat} {n : Str} {pos : Pos} {Q : Unit → Shared → Prop} (J : Inv X pins σ H s) (hN : X.N.Nodup) (hi : X.N[i]? = some n) (hl : X.env.kindOf n = some .cell) (fn : X.fn n = true)
    (h : ∀ s', Inv X pins (σ.set i none) H s' → Q () s') : wpAny M A (do bindName X.env n .none; unbindBehindTheSuite X.env n pos) Q E s := by
  have hl' : X.env.scope.names.lookup n = some .cell := hl
  refine wpAny_bind (wpAny_bindName (store_ok (v := .non) J hN hi (.inr hl') rfl (fun s1 J1 => ?_) (.inl fn)))
  obtain ⟨c, hc⟩ := J1.ok.has n (.inl hl')
  obtain ⟨m, _, lk⟩ := id J1.loc
  have iσ : i < σ.length := by rw [J.len]; exact (List.getElem?_eq_some_iff.mp hi).1
  obtain ⟨u, _, q⟩ := lk i n .non hi (by rw [List.getElem?_set_self iσ]) (.inr (.inl hl'))
  have full : s1.heap.IsCell c (some u) := by
    rcases q with ⟨a, _⟩ | ⟨_, c', a, b⟩
    · rw [hl] at a; cases a
    · rw [hc] at a; cases a; exact b
  unfold unbindBehindTheSuite
  refine wpAny_onRaise ?_
  unfold unbindName
  refine wpAny_bind (wpAny_point (wpAny_bind ?_))
  unfold deleteName
  simp only [hl]
  refine wpAny_bind (wpAny_cellOf hc (wpAny_bind (wpAny_cellGet full ?_)))
  simp only [Option.isSome_some, if_true]
  refine wpAny_cellSet full fun h' e' sb => wpAny_point ?_
  have := Inv.emptied J1 hN hi fn hc hl e' sb
  rw [List.set_set] at this
  exact h _ this
/-- try .. except c as n, n in a cell -/
theorem ps_try_cell {x n : Str} {c : Value} {i : Nat} {body suite : List Stmt} {b₀ : Stmt} {np pos p2 : Pos} {tb : WX → TS} {ts : Addr → Value → Option Addr → TS} {Wo : WX} (hs : X.stack = X.env :: X.outer) (hf : X.env.frame = some X.env.locals) (hN : X.N.Nodup) (hi : X.N[i]? = some n) (hln : X.env.kindOf n = some .cell) (fn : X.fn n = true) (hc : Names X x c) (tk : L2N.Takes X Wo)
    (hb : ∀ (W : WX) (pn : List (Addr × Obj)) (xe : Value → Shared → Prop), L2N.Takes (X.tr pn xe) W → PassesOwn (model X.prog X.w) X.A X.env xe → PSs (X.tr pn xe) body (tb W))
    (hsu : ∀ (a : Addr) (oe : Obj) (cls : Value) (d : Option Addr) (pn : List (Addr × Obj)), L2N.Zn cls d oe → (∃ vs, oe.data = .fields vs) → PSs (X.suite a ((a, oe) :: pn)) (b₀ :: suite) (ts a cls d)) :
    PS X (.Try body [.ExceptHandler (some (.Name x np)) (some n) (b₀ :: suite) p2] [] [] pos) (fun D σ H => tb (wAs X.K c i ts Wo D) D σ H) := by
  constructor
  intro pins s σ H D J hD
  have ok := J.ok
  have frames : X.A.frames = some (X.env :: X.outer) := by rw [ok.frames, hs]
  have loc : L2.Loc X.env.scope n := .inr hln
  refine wpAny_Try_except (wpAny_mono ((hb (wAs X.K c i ts Wo D) (X.pn ++ pins) (fun e s1 => wpAny (model X.prog X.w) X.A (noteFrame e X.env) (fun _ s2 => wpAny (model X.prog X.w) X.A (setFlight e none) (fun _ s3 =>
    wpAny (model X.prog X.w) X.A (handleBy e X.env [.ExceptHandler (some (.Name x np)) (some n) (b₀ :: suite) p2]) (SP X pins D) X.xe s3) X.xe s2) X.xe s1) (fun u s1 air => ?_) PassesOwn.looking).run [] s σ H D (J.toTry _) hD) (fun f s1 done => ?_) fun _ _ z => z)
  · obtain ⟨a, B, sI, pl, σ1, H1, cls, d, rfl, K1, nb, up, sky, na, os, ag, b, hb1, yes, no⟩ := air
    have J1 : Inv X pins σ1 H1 sI := K1.ofTry ok
    have sky1 : Sky B (X.env :: X.outer) a (L2N.Zn cls d) X.env.locals s1.heap := by rw [← hs]; exact sky
    show wpAny (model X.prog X.w) X.A (noteFrame (.ref a) X.env) _ _ _
    refine L2N.Sky.land L2N.Zn.steady frames hf sky1 fun h3 fl3 up3 => ?_
    have J3 : Inv X pins σ1 H1 { s1 with heap := h3 } := J1.landed nb fl3.1 (up.trans up3) os ag
    obtain ⟨oe3, vs3, he3, hz3, hd3⟩ := fl3.there
    have nfr : a ∉ frs (X.env :: X.outer) := fun hm => by
      obtain ⟨_, o', e', hnf⟩ := fl3.2.2.1.mem hm
      rw [he3] at e'; cases e'
      exact hnf _ hd3
    have nL : a ≠ X.env.locals := fun z => nfr (List.mem_filterMap.mpr ⟨X.env, List.mem_cons_self, by rw [hf, z]⟩)
    have nF : a ∉ X.fs := fun hm => by
      obtain ⟨ev, hev, z⟩ := List.mem_filterMap.mp hm
      exact nfr (List.mem_filterMap.mpr ⟨ev, List.mem_cons_of_mem _ hev, z⟩)
    have S3 := J3.suite he3 hd3 na nL nF
    refine wpAny_handleBy_cons (codeAny_handlers_test ?_) (by intro z; cases z)
    have look : PySem.W.Looks (model X.prog X.w) h3 (typeOf (.ref a)) cls := fun A Q E s k z => wpAny_typeOf_ref (k _ _ he3) (by rw [hz3.1]; exact z)
    have match1 := PySem.W.exm_one (M := model X.prog X.w) J3.kIn look hb1
    have named : ∀ {Q : Value → Shared → Prop} {E : Value → Shared → Prop}, Q c { s1 with heap := h3 } → wpAny (model X.prog X.w) (X.A.mark (some (.ref a))) (eval (.Name x np) X.env) Q E { s1 with heap := h3 } := by
      intro Q E z
      obtain ⟨g1, g2, g3 | ⟨g3, g4, g5⟩⟩ := hc
      · exact ld_glob (X := X.suite a ((a, oe3) :: (X.pn ++ pins))) S3 g1 g3 z g2
      · exact ld_blt (X := X.suite a ((a, oe3) :: (X.pn ++ pins))) S3 g1 g3 g4 z g5 g2
    refine named (match1.here ?_)
    cases b with
    | false =>
      show wpAny _ X.A (handleBy (.ref a) X.env []) _ _ _
      refine wpAny_handleBy_nil ?_
      obtain ⟨k1, k2, k3, oe, vs, T, oT, t2, he, hz, hd, h1, hr⟩ := id fl3
      unfold PySem.passOn
      refine wpAny_bind (wpAny_field he hd h1 ?_)
      rw [if_neg (show ¬ ((Value.ref T == Value.none) = true) from by simp)]
      have away : wpAny (model X.prog X.w) X.A (setFlight (.ref a) X.env.frame) (fun _ s4 => wpAny (model X.prog X.w) X.A (throw (.ref a) : Sem Flow) (SP X pins D) X.xe s4) X.xe { s1 with heap := h3 } := by
        rw [hf]
        exact HandSPX.setFlight_upZ fl3 fun h4 hh4 up4 => wpAny_throw (tk _ _ ⟨a, B, sI, pins, σ1, H1, cls, d, rfl, J1, nb, (up.trans up3).trans up4, .inr (.inr (by rw [hs]; exact hh4)), na, os, ag, no rfl⟩)
      first
        | exact wpAny_bind (wpAny_pure (wpAny_bind away))
        | exact wpAny_bind away
    | true =>
      refine codeAny_handlers_suite_as (HandSPX.lands_againZ fl3 fun h4 fl4 up4 => ?_)
      have J4 : Inv X pins σ1 H1 { s1 with heap := h4 } := J1.landed nb fl4.1 ((up.trans up3).trans up4) os ag
      obtain ⟨oe4, vs4, he4, hz4, hd4⟩ := fl4.there
      have S4 := J4.suite he4 hd4 na nL nF
      refine store_ok (X := X.suite a ((a, oe4) :: (X.pn ++ pins))) (v := .ref a) S4 hN hi loc rfl (fun s5 S5 => ?_) (.inl fn)
      refine wpAny_mono ((hsu a oe4 cls d (X.pn ++ pins) hz4 ⟨_, hd4⟩).run [] s5 _ H1 _ S5 (yes rfl a na)) (fun f s6 out => ?_) (fun _ _ z => False.elim z)
      have close : ∀ {σ6 : L2.St} {H6 : Hp} {Q : Shared → Prop}, Inv (X.suite a ((a, oe4) :: (X.pn ++ pins))) [] σ6 H6 s6 → (∀ s7, Inv X pins (σ6.set i none) H6 s7 → Q s7) →
          wpAny (model X.prog X.w) X.A (do bindName X.env n .none; unbindBehindTheSuite X.env n p2) (fun _ s7 => Q s7) X.xe s6 := fun S6 z => gone_cell (S6.unsuite ok) hN hi hln fn z
      cases f with
      | ret u =>
        obtain ⟨v6, σ6, H6, S6, r6, z⟩ := out
        exact close S6 fun s7 J7 => ⟨_, _, _, J7, r6, z⟩
      | next =>
        obtain ⟨σ6, H6, S6, z⟩ := out
        exact close S6 fun s7 J7 => ⟨_, _, J7, z⟩
      | brk =>
        obtain ⟨σ6, H6, S6, z⟩ := out
        exact close S6 fun s7 J7 => ⟨_, _, J7, z⟩
      | cont =>
        obtain ⟨σ6, H6, S6, z⟩ := out
        exact close S6 fun s7 J7 => ⟨_, _, J7, z⟩
  · cases f with
    | ret u =>
      obtain ⟨v, σ1, H1, K1, r, z⟩ := done
      exact ⟨v, σ1, H1, K1.ofTry ok, r, z⟩
    | next =>
      obtain ⟨σ1, H1, K1, z⟩ := done
      exact wpAny_execs_nil ⟨σ1, H1, K1.ofTry ok, z⟩
    | brk =>
      obtain ⟨σ1, H1, K1, z⟩ := done
      exact ⟨σ1, H1, K1.ofTry ok, z⟩
    | cont =>
      obtain ⟨σ1, H1, K1, z⟩ := done
      exact ⟨σ1, H1, K1.ofTry ok, z⟩
end
section
variable {X : Cx} {G : Gm} {W : WX} {A A2 : List Nat} {b₀ : Stmt} {body suite : List Stmt} {db : DenS} {dh : Addr → DenS} {np pos pos' : Pos} {x n : Str} {i c0 : Nat} {cP : Addr}
theorem jtryEc (hK : G.K = X.K) (hs : X.stack = X.env :: X.outer) (hf : X.env.frame = some X.env.locals) (hN : X.N.Nodup) (tk : L2N.Takes X W) (gP : X.mg x = some (.ref cP)) (em : PySem.W.exmOne X.K (.ref (G.cls c0)) (.ref cP) = some true)
    (hb : ∀ (W' : WX) (pn : List (Addr × Obj)) (xe : Value → Shared → Prop), L2N.Takes (X.tr pn xe) W' → PassesOwn (model X.prog X.w) X.A X.env xe → JB (X.tr pn xe) G W' A body db)
    (hsu : ∀ (q : Addr × Obj) (pn : List (Addr × Obj)), Hot1 (X.suite q.1 (q :: pn)).A q → ofC (G.cls c0) q → JB (X.suite q.1 (q :: pn)) G W0 A2 (b₀ :: suite) (dh q.1))
    (hi : X.N[i]? = some n := by rfl) (hln : X.env.kindOf n = some .cell := by rfl) (fn : X.fn n = true := by rfl) (hg : Gl X x := by rfl) (hdb : (x == ("__debug__" : Str)) = false := by decide) :
    JS X G W (A ++ ([i] ++ A2)) (.Try body [.ExceptHandler (some (.Name x np)) (some n) (b₀ :: suite) pos'] [] [] pos) (dTryE i c0 dh db) := by
  refine PS_imp (ps_try_cell (c := .ref cP) (i := i) (tb := fun W' => tS G W' A db) (ts := tsE G c0 A2 dh) (Wo := W) hs hf hN hi hln fn ⟨hg, hdb, .inl gP⟩ tk (fun W' pn xe t1 t2 => hb W' pn xe t1 t2)
    (fun a oe cls d pn hz hv => ⟨fun pins s σ H D J h => by
      obtain ⟨⟨rfl, rfl⟩, h⟩ := h
      obtain ⟨fs, hfs⟩ := hv
      exact (hsu (a, oe) pn ⟨rfl, fs, hfs, hz.2.2 fs hfs⟩ hz.zc).run pins s σ H D J h⟩)) (t_tryE em)
/-- room enough for what compares -/
theorem unitsH {k : Nat} {A : Around} (r : RoomH k A) : A.units + 64 < cLine := by have := r.un; omega
theorem roomS {k : Nat} {A : Around} {v : Option Value} (r : Room k A) : RoomH k (A.mark v) := ⟨r.dp, r.un⟩
end
@[simp] theorem ev_dIsE (a : Addr) (i : Nat) (b : Bool) (E : List D) : dIsE a i b E = match E[i]? with
  | some (.sc (.ref a')) => if a' = a then .ok (.val (.sc (.bl b)), E) else .bad
  | _ => .bad := id rfl
end DL

end
section
set_option maxRecDepth 100000
set_option maxHeartbeats 1000000
/-! DL: sorted(set(tuple of ints)). -/
namespace DL
open PySem PySem.Spec PyProof PyProof.Rows L2
def rSetTp (K : PySem.W.Frag) (w : World) : List V → Hp → VK → Prop := fun xs H Q => ∃ (a : Addr) (ns : List Int), xs = [V.ref a] ∧ SqT K H a (ns.map V.int) ∧ ns.length < 60 ∧ ∀ p c, c ≤ ns.length → H p = none → Q (.ref p) (upd H p (SetO w p (fun j => decide (j ∈ ns)) c))
theorem cr_setTp {X : Cx} (hc : X.calm = true) : CallR X (.type "set") (rSetTp X.K X.w) := by
  intro pins s σ H xs us Q J r h
  obtain ⟨a, ns, rfl, hs, hl, q⟩ := h
  rw [Vals.ref1 r]
  obtain ⟨its, rv, tp, _⟩ := J.tuple hs
  have hi := ints_of_vals rv
  have hsb : ns.length + 1 < scanBound := Nat.lt_trans (show ns.length + 1 < 1000 by omega) (by decide)
  refine call_set_tupI ns (J.ok.hd hc) tp (by simpa using hi) hsb fun h2 tk c R hcn k => ?_
  exact ⟨.ref _, upd H s.heap.objs.size (SetO X.w s.heap.objs.size (fun j => decide (j ∈ ns)) c), J.laid (t' := tk) (fun b u e => k b u e) (Nat.le_refl _) (setO_new R), rfl, q _ _ hcn (J.hok.fresh (Nat.le_refl _))⟩
def fSST : List D → Option D := fun ds => match ds with
  | [.nd .tup es] => match intsE es with
    | some ns => if ns.length < 60 then some (.nd (.lst true) ((upI ns).map fun i => .sc (.int i))) else none
    | none => none
  | _ => none
def rSST (K : PySem.W.Frag) (w : World) : List V → Hp → VK → Prop := fun xs H Q => rSetTp K w xs H fun v H1 => rSortedSet w [v] H1 Q
theorem os_SST {G : Gm} {w : World} : OpS G (rSST G.K w) fSST := by
  intro I H ds ws d sm x e Q k
  unfold fSST at e
  split at e
  · rename_i es
    split at e
    · rename_i ns en
      split at e
      · rename_i hc
        cases e
        obtain ⟨v, g, rfl, y, _⟩ := x.one
        obtain ⟨p, vs, g1, ob, rfl, st, eH, r, hlen⟩ := Rp.node sm y
        cases st
        have ev := intsE_rps en r
        subst ev
        refine ⟨p, ns, rfl, SqT.of eH, hc, fun p1 c hcn n1 => ?_⟩
        refine ⟨p1, _, c, rfl, upd_same, by omega, fun ms p2 pw mem ln n2 => ?_⟩
        have em : ms = upI ns := up_one pw (pw_upI ns) fun a => by rw [mem a, mem_upI]; simp
        subst em
        have nw := Nw.mutP (o := SetO w p1 (fun j => decide (j ∈ ns)) c) sm n1
        have hne : ∀ a, upd H p1 (SetO w p1 (fun j => decide (j ∈ ns)) c) a = none → H a = none := fun a h => by
          by_cases q : a = p1
          · subst q; exact n1
          · rw [upd_ne q] at h; exact h
        exact fin_lst (nw.sm) (rps_ints (upI ns)) n2 fun v I' H' g nw2 rr h1 h2 => k v I' H' g (nw.trans nw2) rr h1 fun a z => hne a (h2 a z)
      · cases e
    · cases e
  · cases e
section
variable {X : Cx} {G : Gm} {W : WX} {p : Bool} {e : Expr} {d : Den} {q1 q2 pos pos2 : Pos}
theorem jSST (hK : G.K = X.K) (hc : X.calm = true) (h1 : X.mg "sorted" = none) (h2 : X.mg "set" = none) (ha : JE X G W p e d) (g1 : Gl X "sorted" := by rfl) (g2 : Gl X "set" := by rfl)
    (s1 : starEach [.Call (.Name "set" q2) [e] [] pos2] X.env = (false, eval (.Call (.Name "set" q2) [e] [] pos2) X.env) :: starEach [] X.env := by rfl) (s2 : starEach [e] X.env = (false, eval e X.env) :: starEach [] X.env := by rfl) :
    JE X G W (p && true) (.Call (.Name "sorted" q1) [.Call (.Name "set" q2) [e] [] pos2] [] pos) (dOp fSST (aCons true d aNil)) := by
  have a1 : JA X G W (p && true) [e] (aCons true d aNil) := jac ha jan s2
  refine PE_imp (pe_callB (cr_sortedSet hc) g1 h1 (by decide +kernel) (pa_cons (pe_callTy (cr_setTp hc) g2 h2 (by decide +kernel) a1 (by decide) (by decide) s2 rfl) pa_nil s1) (by decide) (by decide) s1 rfl) ?_
  have := t_op (G := G) (W := W) (pu := p && true) (r := rSST G.K X.w) (F := fSST) (das := aCons true d aNil) (os_SST (G := G) (w := X.w)) (fun _ _ _ h => h)
  intro σ H Q h
  have z := this σ H Q h
  rw [hK] at z
  exact z
end
theorem fSST_tup (ns : List Int) (h : ns.length < 60) : fSST [.nd .tup (ns.map fun i => .sc (.int i))] = some (.nd (.lst true) ((upI ns).map fun i => .sc (.int i))) := by
  have : ∀ l : List Int, intsE (l.map fun i => .sc (.int i)) = some l := by
    intro l
    induction l with
    | nil => rfl
    | cons i l ih => show (intsE (l.map fun i => .sc (.int i))).map (i :: ·) = _; rw [ih]; rfl
  unfold fSST
  dsimp only
  rw [this]
  exact if_pos h
end DL

end
section
set_option maxRecDepth 100000
/-! DL: repr of data in which dicts (keys numbers and texts) may stand. -/
namespace DL
open PySem PySem.Spec PyProof PyProof.Rows L2
def kq : Key → PyData
  | .inl i => .int i
  | .inr x => .str x
def kok : Key → Bool
  | .inl i => decide (i.natAbs.log2 < 1920)
  | .inr _ => true
mutual
def toQ : D → PyData
  | .una => .none
  | .lent => .none
  | .kl _ => .none
  | .sc v => match v with
    | .bl b => .bool b
    | .int i => .int i
    | .str z => .str z
    | _ => .none
  | .nd k ds => match k with
    | .tup => .tuple (toQs ds)
    | .lst _ => .list (toQs ds)
    | .dik _ ks => .dict ((ks.map kq).zip (toQs ds))
    | _ => .none
def toQs : List D → List PyData
  | [] => []
  | d :: ds => toQ d :: toQs ds
end
theorem toQs_map (ds : List D) : toQs ds = ds.map toQ := by induction ds with | nil => rfl | cons d ds ih => simp [toQs, ih]
mutual
theorem toQ_fz : ∀ d : D, toQ (fz d) = toQ d
  | .una => rfl
  | .lent => rfl
  | .kl _ => rfl
  | .sc _ => rfl
  | .nd k ds => by
    have ih := toQs_fz ds
    cases k with
    | tup => show PyData.tuple (toQs (fzs ds)) = _; rw [ih]; rfl
    | lst m => show PyData.list (toQs (fzs ds)) = _; rw [ih]; rfl
    | dik m ks => show PyData.dict ((ks.map kq).zip (toQs (fzs ds))) = _; rw [ih]; rfl
    | dit m ks => rfl
    | obj m c ns => rfl
theorem toQs_fz : ∀ ds : List D, toQs (fzs ds) = toQs ds
  | [] => rfl
  | d :: ds => by
    show toQ (fz d) :: toQs (fzs ds) = _
    rw [toQ_fz d, toQs_fz ds]; rfl
end
def kdq : Kd → Nat → Bool
  | .tup, _ => true
  | .lst _, _ => true
  | .dik _ ks, n => decide (ks.length = n) && ks.all kok
  | _, _ => false
mutual
/-- data that can be shown, at most so deep -/
def laq : Nat → D → Bool
  | _, .una => false
  | _, .lent => false
  | _, .kl _ => false
  | _, .sc v => match v with
    | .non => true
    | .bl _ => true
    | .int i => decide (i.natAbs.log2 < 1920)
    | .str _ => true
    | _ => false
  | n + 1, .nd k ds => kdq k ds.length && laqs n ds
  | 0, .nd _ _ => false
def laqs : Nat → List D → Bool
  | _, [] => true
  | n, d :: ds => laq n d && laqs n ds
end
theorem laqs_all (n : Nat) (ds : List D) : laqs n ds = ds.all (laq n) := by induction ds with | nil => rfl | cons d ds ih => simp [laqs, ih]
/-- a value that shows as d -/
structure Sh (P : Program) (w : World) (h : Heap) (u : Value) (d : PyData) : Prop where
  rd : ∃ as, Reads h u d as
  rp : ∃ bs, ReadAtMost h d.depth bs ∧ ReprK P w bs h d.depth u d.shown
structure Shs (P : Program) (w : World) (h : Heap) (us : List Value) (ds : List PyData) : Prop where
  rd : ∃ as, ReadsAll h us ds as
  rp : ∃ bs, ReadAtMost h (PyData.depthAll ds) bs ∧ ReprAllK P w bs h (PyData.depthAll ds) us (PyData.shownAll ds)
section
variable {P : Program} {w : World} {h : Heap}
theorem Shs.nil : Shs P w h [] [] := ⟨⟨_, .nil⟩, ⟨[], (fun _ z => nomatch z), .nil⟩⟩
theorem Shs.cons {u : Value} {us : List Value} {d : PyData} {ds : List PyData} (x : Sh P w h u d) (y : Shs P w h us ds) : Shs P w h (u :: us) (d :: ds) := by
  obtain ⟨as, r1⟩ := x.rd
  obtain ⟨bs, r2⟩ := y.rd
  obtain ⟨cs, m1, p1⟩ := x.rp
  obtain ⟨es, m2, p2⟩ := y.rp
  have l1 : d.depth ≤ PyData.depthAll (d :: ds) := Nat.le_max_left _ _
  have l2 : PyData.depthAll ds ≤ PyData.depthAll (d :: ds) := Nat.le_max_right _ _
  refine ⟨⟨_, .cons r1 r2⟩, ⟨cs ++ es, (m1.mono l1).append (m2.mono l2), ?_⟩⟩
  have q1 := (p1.more (as' := cs ++ es) fun b z => List.mem_append_left _ z).level_le l1
  have q2 := p2.more_le (as' := cs ++ es) (fun b z => List.mem_append_right _ z) l2
  exact ReprAllK.cons q1 q2
/-- the keys of a dict -/
theorem keys_ok : ∀ {es : List DictEntry} {ks : List Key} {ws : List V} {vs : List (Key × Value)}, Pairs (mixKind P w) es vs → KV (ks.zip ws) vs → ks.length = ws.length → ks.all kok = true → (∀ t ∈ PyData.shownAll (ks.map kq), t.length ≤ sizeLine) →
    ReadsAll h (es.map (·.key)) (ks.map kq) [] ∧ ReprAllK P w [] h 0 (es.map (·.key)) (PyData.shownAll (ks.map kq)) ∧ Vals ws (es.map (·.val)) ∧ PyData.depthAll (ks.map kq) = 0
  | _, [], [], _, hp, hv, _, _, _ => by
    have hv' : Paired _ ([] : List (Key × V)) _ := hv
    cases hv'
    cases hp
    exact ⟨.nil, .nil, .nil, rfl⟩
  | _, k :: ks, y :: ws, _, hp, hv, hl, hk, ht => by
    have hv' : Paired _ ((k, y) :: ks.zip ws) _ := hv
    cases hv' with
    | @cons _ b _ vs r rs =>
      obtain ⟨kb, vb⟩ := b
      cases hp with
      | cons hkey hval hp =>
        obtain ⟨e1, r1⟩ := r
        dsimp only at e1 r1
        subst e1
        simp only [List.all_cons, Bool.and_eq_true] at hk
        obtain ⟨i1, i2, i3, i4⟩ := keys_ok hp rs (by simpa using hl) hk.2 fun t z => ht t (List.mem_cons_of_mem _ z)
        have t0 := ht _ List.mem_cons_self
        rcases keyIs_shape hkey with ⟨i, t, rfl, e⟩ | ⟨x, t, rfl, e⟩
        · have c1 : ReprK P w [] h 0 (Value.int i t) (PyData.shown (.int i)) := .of_is (ReprIs.int t (of_decide_eq_true hk.1)) _ _ _
          have c2 := ReadsAll.cons (Reads.int i t : Reads h _ _ _) i1
          refine ⟨?_, ?_, ?_, ?_⟩
          · rw [List.map_cons, e]; exact c2
          · rw [List.map_cons, e]; exact .cons c1 i2
          · rw [List.map_cons, hval]; exact .cons r1 i3
          · show max 0 _ = 0; rw [i4]; rfl
        · have c1 : ReprK P w [] h 0 (Value.str x t) (PyData.shown (.str x)) := .of_is (ReprIs.str x t t0) _ _ _
          have c2 := ReadsAll.cons (Reads.str x t : Reads h _ _ _) i1
          refine ⟨?_, ?_, ?_, ?_⟩
          · rw [List.map_cons, e]; exact c2
          · rw [List.map_cons, e]; exact .cons c1 i2
          · rw [List.map_cons, hval]; exact .cons r1 i3
          · show max 0 _ = 0; rw [i4]; rfl
  | _, [], _ :: _, _, _, _, hl, _, _ => by cases hl
  | _, _ :: _, [], _, _, _, hl, _, _ => by cases hl
theorem fst_zipQ {α β : Type} : ∀ {xs : List α} {ys : List β}, xs.length = ys.length → (xs.zip ys).map (·.1) = xs ∧ (xs.zip ys).map (·.2) = ys
  | [], [], _ => ⟨rfl, rfl⟩
  | x :: xs, y :: ys, e => by
    obtain ⟨a, b⟩ := fst_zipQ (xs := xs) (ys := ys) (by simpa using e)
    exact ⟨by rw [List.zip_cons_cons, List.map_cons, a], by rw [List.zip_cons_cons, List.map_cons, b]⟩
  | [], _ :: _, e => by cases e
  | _ :: _, [], e => by cases e
theorem toQs_len (ds : List D) : (toQs ds).length = ds.length := by rw [toQs_map, List.length_map]
/-- what a node's own show wants -/
inductive Top (P : Program) (w : World) (h : Heap) (p : Addr) : PyData → Prop
  | lst {o : Obj} {us : List Value} {n : Nat} {ds : List PyData} : h.get? p = some o → o.cls = .type "list" → o.data = .seq us.toArray n → Shs P w h us ds → Top P w h p (.list ds)
  | tup {o : Obj} {us : List Value} {n : Nat} {ds : List PyData} : h.get? p = some o → o.cls = .type "tuple" → o.data = .seq us.toArray n → Shs P w h us ds → Top P w h p (.tuple ds)
  | dik {o : Obj} {es : Array DictEntry} {n : Nat} {ks ds : List PyData} : h.get? p = some o → o.cls = .type "dict" → o.data = .dict es n → (p == sysModules) = false → ks.length = ds.length → Shs P w h (es.toList.map (·.key)) ks → Shs P w h (es.toList.map (·.val)) ds → Top P w h p (.dict (ks.zip ds))
theorem Top.sh {p : Addr} {d : PyData} (x : Top P w h p d) : Sh P w h (.ref p) d := by
  cases x with
  | lst h1 h2 h3 s =>
    rename_i o us n ds
    obtain ⟨as, r⟩ := s.rd
    obtain ⟨bs, m, k⟩ := s.rp
    have rr : Reads h (.ref p) (.list ds) _ := .list h1 h2 h3 r
    have dd : PyData.depth (.list ds) = PyData.depthAll ds + 1 := by simp only [PyData.depth]
    have np : p ∉ bs := not_mem_of_deeper rr (by omega) m
    refine ⟨⟨_, rr⟩, ⟨p :: bs, ReadAtMost.cons rr (by omega) m, ?_⟩⟩
    rw [dd]
    cases us with
    | nil =>
      cases r
      have := ReprK.listEmpty (prog := P) (w := w) (as := p :: bs) (d := PyData.depthAll [] + 1) h1 h2 h3
      have e : PyData.shown (.list []) = ("[]" : Str) := by simp only [PyData.shown, PyData.shownAll, listText_nil]
      rw [e]; exact this
    | cons u us =>
      have e : PyData.shown (.list ds) = listText (PyData.shownAll ds) := by simp only [PyData.shown]
      rw [e]
      refine ReprK.list h1 h2 h3 np ?_ fun i y ey => k.item i y ?_
      · rw [k.length_eq]; simp
      · simpa using ey
  | tup h1 h2 h3 s =>
    rename_i o us n ds
    obtain ⟨as, r⟩ := s.rd
    obtain ⟨bs, m, k⟩ := s.rp
    have rr : Reads h (.ref p) (.tuple ds) _ := .tuple h1 h2 h3 r
    have dd : PyData.depth (.tuple ds) = PyData.depthAll ds + 1 := by simp only [PyData.depth]
    have np : p ∉ bs := not_mem_of_deeper rr (by omega) m
    have e : PyData.shown (.tuple ds) = tupleText (PyData.shownAll ds) := by simp only [PyData.shown]
    refine ⟨⟨_, rr⟩, ⟨p :: bs, ReadAtMost.cons rr (by omega) m, ?_⟩⟩
    rw [dd, e]
    exact ReprK.tuple h1 h2 h3 np k
  | dik h1 h2 h3 ne hl sk sv =>
    rename_i o es n ks ds
    obtain ⟨as, r⟩ := sk.rd
    obtain ⟨as2, r2⟩ := sv.rd
    obtain ⟨bs, m, k⟩ := sk.rp
    obtain ⟨bs2, m2, k2⟩ := sv.rp
    obtain ⟨z1, z2⟩ := fst_zipQ hl
    have rr : Reads h (.ref p) (.dict (ks.zip ds)) _ := .dict h1 h2 h3 (by rw [z1]; exact r) (by rw [z2]; exact r2)
    have dd : PyData.depth (.dict (ks.zip ds)) = PyData.depthKv (ks.zip ds) + 1 := by simp only [PyData.depth]
    have d1 := PyData.depthAll_keys_le (ks.zip ds)
    have d2 := PyData.depthAll_vals_le (ks.zip ds)
    rw [z1] at d1
    rw [z2] at d2
    have mm := (m.mono d1).append (m2.mono d2)
    have np : p ∉ bs ++ bs2 := not_mem_of_deeper rr (by omega) mm
    have e : PyData.shown (.dict (ks.zip ds)) = dictText (List.zipWith (fun k v : Str => k ++ ": " ++ v) (PyData.shownAll ks) (PyData.shownAll ds)) := by
      simp only [PyData.shown, PyData.shownKv_eq, z1, z2]
    refine ⟨⟨_, rr⟩, ⟨p :: (bs ++ bs2), ReadAtMost.cons rr (by omega) mm, ?_⟩⟩
    rw [dd, e]
    have k' := k.more_le (as' := bs ++ bs2) (fun b z => List.mem_append_left _ z) d1
    have k2' := k2.more_le (as' := bs ++ bs2) (fun b z => List.mem_append_right _ z) d2
    exact ReprK.dict h1 h2 h3 ne np (ReprEntriesK.of_two _ _ _ k' k2')
end
section
variable {P : Program} {w : World} {G : Gm} {I H : Hp} {h : Heap}
mutual
theorem sh_of (sm : ∀ a o, I a = some o → H a = some o) (ok : HOk P w H h) : ∀ (n : Nat) (d : D) (v : V) (g : Ft) (u : Value), laq n d = true → Rp G I H d v g → RelV v u → (toQ d).shown.length ≤ sizeLine →
    Sh P w h u (toQ d) ∧ ∀ p, u = .ref p → Top P w h p (toQ d)
  | n, .una, _, _, _, l, _, _, _ => by cases n <;> cases l
  | n, .lent, _, _, _, l, _, _, _ => by cases n <;> cases l
  | n, .kl _, _, _, _, l, _, _, _ => by cases n <;> cases l
  | n, .sc y, v, g, u, l, x, r, hz => by
    obtain ⟨rfl, _⟩ := x
    have one : ∀ {u : Value} {d : PyData} {as : List Addr}, Reads h u d as → ReprIs P w u d.shown → Sh P w h u d := fun a b => ⟨⟨_, a⟩, ⟨[], (fun _ z => nomatch z), .of_is b _ _ _⟩⟩
    cases v with
    | non => cases r; exact ⟨one .none ReprIs.none, fun p e => nomatch e⟩
    | bl b => cases r; exact ⟨one (.bool b) (ReprIs.bool b), fun p e => nomatch e⟩
    | int i =>
      obtain ⟨t, rfl⟩ := r
      have li : i.natAbs.log2 < 1920 := of_decide_eq_true (by cases n <;> exact l)
      exact ⟨one (.int i t) (ReprIs.int t li), fun p e => nomatch e⟩
    | str z => obtain ⟨t, rfl⟩ := r; exact ⟨one (.str z t) (ReprIs.str z t hz), fun p e => nomatch e⟩
    | byt _ => cases n <;> cases l
    | flt _ => cases n <;> cases l
    | ref _ => cases n <;> cases l
    | ty _ => cases n <;> cases l
  | 0, .nd k ds, _, _, _, l, _, _, _ => by cases l
  | n + 1, .nd k ds, v, g, u, l, x, r, hz => by
    have l' : (kdq k ds.length && laqs n ds) = true := l
    simp only [Bool.and_eq_true] at l'
    obtain ⟨p, ws, g2, o, rfl, st, eo, y, wl⟩ := x.node sm
    cases r
    have ob := ok p o eo
    have fin : Top P w h p (toQ (.nd k ds)) → Sh P w h (.ref p) (toQ (.nd k ds)) ∧ ∀ q, Value.ref p = .ref q → Top P w h q (toQ (.nd k ds)) := fun t => ⟨t.sh, fun q e => by cases e; exact t⟩
    cases k with
    | tup =>
      cases st
      obtain ⟨_, us, rv, o, h1, h2, m, h3⟩ := ob
      have hz' : (tupleText (PyData.shownAll (toQs ds))).length ≤ sizeLine := by
        have : (toQ (.nd .tup ds)).shown = tupleText (PyData.shownAll (toQs ds)) := by simp only [toQ, PyData.shown]
        rwa [this] at hz
      have s := shs_of sm ok n ds ws g2 us l'.2 y rv fun t z => Nat.le_trans (tupleText_mem_le z) hz'
      exact fin (.tup h1 h2 h3 s)
    | lst b =>
      cases st
      obtain ⟨_, us, m, rv, ho⟩ := ob
      have hz' : (listText (PyData.shownAll (toQs ds))).length ≤ sizeLine := by
        have : (toQ (.nd (.lst b) ds)).shown = listText (PyData.shownAll (toQs ds)) := by simp only [toQ, PyData.shown]
        rwa [this] at hz
      have s := shs_of sm ok n ds ws g2 us l'.2 y rv fun t z => Nat.le_trans (listText_mem_le z) hz'
      exact fin (.lst ho rfl rfl s)
    | dik b ks =>
      obtain ⟨kl, rfl⟩ := st
      have q1 : (decide (ks.length = ds.length) && ks.all kok) = true := l'.1
      simp only [Bool.and_eq_true, decide_eq_true_eq] at q1
      obtain ⟨_, ne, vs, kv, o, es, ep, ho, hx, hd, _, hp, _⟩ := ob
      have zl : (ks.map kq).length = (toQs ds).length := by rw [List.length_map, toQs_len]; exact q1.1
      obtain ⟨z1, z2⟩ := fst_zipQ zl
      have hz' : (dictText (PyData.shownKv ((ks.map kq).zip (toQs ds)))).length ≤ sizeLine := by
        have : (toQ (.nd (.dik b ks) ds)).shown = dictText (PyData.shownKv ((ks.map kq).zip (toQs ds))) := by simp only [toQ, PyData.shown]
        rwa [this] at hz
      obtain ⟨a1, a2, a3, a4⟩ := keys_ok (P := P) (w := w) (h := h) hp kv kl q1.2 fun t z => by
        obtain ⟨q, hq, hlq⟩ := PyData.shownKv_key_le ((ks.map kq).zip (toQs ds)) t (by rw [z1]; exact z)
        exact Nat.le_trans hlq (Nat.le_trans (dictText_mem_le hq) hz')
      have s := shs_of sm ok n ds ws g2 _ l'.2 y a3 fun t z => by
        obtain ⟨q, hq, hlq⟩ := PyData.shownKv_val_le ((ks.map kq).zip (toQs ds)) t (by rw [z2]; exact z)
        exact Nat.le_trans hlq (Nat.le_trans (dictText_mem_le hq) hz')
      have sk : Shs P w h (es.toList.map (·.key)) (ks.map kq) := ⟨⟨_, a1⟩, ⟨[], (fun _ z => nomatch z), by rw [a4]; exact a2⟩⟩
      exact fin (.dik ho hx.1 hd ne zl sk s)
    | dit _ _ => exact absurd l'.1 (by simp [kdq])
    | obj _ _ _ => exact absurd l'.1 (by simp [kdq])
theorem shs_of (sm : ∀ a o, I a = some o → H a = some o) (ok : HOk P w H h) : ∀ (n : Nat) (ds : List D) (ws : List V) (g : Ft) (us : List Value), laqs n ds = true → Rps G I H ds ws g → Vals ws us → (∀ t ∈ PyData.shownAll (toQs ds), t.length ≤ sizeLine) →
    Shs P w h us (toQs ds)
  | n, [], ws, g, us, _, x, r, _ => by
    obtain ⟨rfl, _⟩ := x
    cases r
    exact .nil
  | n, d :: ds, ws, g, us, l, x, r, hz => by
    obtain ⟨v, wr, g1, g2, rfl, y, z, _⟩ := x
    have l' : (laq n d && laqs n ds) = true := l
    simp only [Bool.and_eq_true] at l'
    cases r with
    | cons r1 r2 =>
      have a := (sh_of sm ok n d v g1 _ l'.1 y r1 (hz _ List.mem_cons_self)).1
      have b := shs_of sm ok n ds wr g2 _ l'.2 z r2 fun t q => hz t (List.mem_cons_of_mem _ q)
      exact .cons a b
end
end
/-! ### the call -/
mutual
theorem laq_depth : ∀ (n : Nat) (d : D), laq n d = true → (toQ d).depth ≤ n
  | n, .una, l => by cases n <;> cases l
  | n, .lent, l => by cases n <;> cases l
  | n, .kl _, l => by cases n <;> cases l
  | n, .sc v, l => by cases v <;> exact Nat.zero_le _
  | 0, .nd k ds, l => by cases l
  | n + 1, .nd k ds, l => by
    have l' : (kdq k ds.length && laqs n ds) = true := l
    simp only [Bool.and_eq_true] at l'
    have ih := laqs_depth n ds l'.2
    cases k with
    | tup => exact Nat.succ_le_succ ih
    | lst b => exact Nat.succ_le_succ ih
    | dik b ks =>
      have q1 : (decide (ks.length = ds.length) && ks.all kok) = true := l'.1
      simp only [Bool.and_eq_true, decide_eq_true_eq] at q1
      have : ∀ (ks : List Key) (qs : List PyData), PyData.depthKv ((ks.map kq).zip qs) ≤ PyData.depthAll qs := by
        intro ks
        induction ks with
        | nil => intro qs; exact Nat.zero_le _
        | cons k ks ih =>
          intro qs
          cases qs with
          | nil => exact Nat.zero_le _
          | cons q qs =>
            have := ih qs
            have k0 : (kq k).depth = 0 := by cases k <;> rfl
            show max (max (kq k).depth q.depth) (PyData.depthKv ((ks.map kq).zip qs)) ≤ max q.depth (PyData.depthAll qs)
            omega
      exact Nat.succ_le_succ (Nat.le_trans (this ks (toQs ds)) ih)
    | dit _ _ => exact absurd l'.1 (by simp [kdq])
    | obj _ _ _ => exact absurd l'.1 (by simp [kdq])
theorem laqs_depth : ∀ (n : Nat) (ds : List D), laqs n ds = true → PyData.depthAll (toQs ds) ≤ n
  | n, [], _ => Nat.zero_le _
  | n, d :: ds, l => by
    have l' : (laq n d && laqs n ds) = true := l
    simp only [Bool.and_eq_true] at l'
    exact Nat.max_le.mpr ⟨laq_depth n d l'.1, laqs_depth n ds l'.2⟩
end
/-- data, in a state, that can be shown -/
def rReprQ (P : Program) (w : World) : List V → Hp → VK → Prop := fun xs H Q => ∃ (x : V) (d : PyData), xs = [x] ∧ (∀ (h : Heap) (u : Value), HOk P w H h → RelV x u → Sh P w h u d ∧ ∀ p, u = .ref p → Top P w h p d) ∧ d.depth ≤ 63 ∧ (d.shown).length ≤ 10000000 ∧ (∀ i, d = .int i → i.natAbs.log2 < 1920) ∧ Q (.str d.shown) H
section
variable {X : Cx}
theorem call_reprQ (hg : X.A.guards = some []) (hu : X.A.units + 65 < cLine) : CallR X (.builtin "repr") (rReprQ X.prog X.w) := by
  intro pins s σ H xs us Q I r hh
  obtain ⟨x, d, rfl, hs, hd, hz, hi, q⟩ := hh
  obtain ⟨u, rfl, ru⟩ := vals1 r
  obtain ⟨⟨⟨as, rd⟩, bs, m, k⟩, tp⟩ := hs s.heap u I.hok ru
  have fin : ∀ h' u tk, (∀ b o, s.heap.get? b = some o → h'.get? b = some o) → ∃ x H', Inv X pins σ H' { s with heap := h', toks := tk } ∧ RelV x (.str d.shown u) ∧ Q x H' := fun h' u tk k => ⟨.str d.shown, H, I.kept k, ⟨u, rfl⟩, q⟩
  have one : ∀ {y : Value} {c : PyData}, y = u → c = d → (∃ p, y = .ref p) → wpAny (model X.prog X.w) X.A (call (.builtin "repr") [u]) (fun u' s' => ∃ x H', Inv X pins σ H' s' ∧ RelV x u' ∧ Q x H') X.xe s := by
    intro y c e1 e2 ⟨p, e3⟩
    subst e1 e2 e3
    have t := tp p rfl
    have hz' := line7 hz
    cases t with
    | lst h1 h2 h3 sh =>
      rename_i o vs n ds
      obtain ⟨cs, m', k'⟩ := sh.rp
      have dd : PyData.depth (.list ds) = PyData.depthAll ds + 1 := by simp only [PyData.depth]
      have e : PyData.shown (.list ds) = listText (PyData.shownAll ds) := by simp only [PyData.shown]
      have np : p ∉ cs := not_mem_of_deeper rd (by omega) m'
      rw [e] at fin hz'
      refine call_repr_slot (by omega) (T := "list") ⟨o, h1, h2⟩ PySem.F.slot_list_repr.toG ?_
      cases vs with
      | nil =>
        obtain ⟨as', r'⟩ := sh.rd
        cases r'
        simp only [PyData.shownAll, listText_nil] at fin
        exact call_list_repr_empty ⟨o, h1, h2⟩ h1 h3 ⟨_, _, rfl, fin s.heap _ _ fun _ _ e => e⟩
      | cons v vs => exact call_list_reprK h1 h2 h3 np (by rw [k'.length_eq]; simp) (fun i y e => k'.item i y (by simpa using e)) hg (fun b _ => Clear.nil b) (by show X.A.units + 1 + _ < cLine; omega) (fun _ _ e => e) (fun h' u tk z => ⟨_, _, rfl, fin h' u tk z⟩) hz'
    | tup h1 h2 h3 sh =>
      rename_i o vs n ds
      obtain ⟨cs, m', k'⟩ := sh.rp
      have dd : PyData.depth (.tuple ds) = PyData.depthAll ds + 1 := by simp only [PyData.depth]
      have e : PyData.shown (.tuple ds) = tupleText (PyData.shownAll ds) := by simp only [PyData.shown]
      have np : p ∉ cs := not_mem_of_deeper rd (by omega) m'
      rw [e] at fin hz'
      refine call_repr_slot (by omega) (T := "tuple") ⟨o, h1, h2⟩ PySem.F.slot_tuple_repr ?_
      exact call_tuple_reprK h1 h2 h3 np k' hg (fun b _ => Clear.nil b) (by show X.A.units + 1 + _ < cLine; omega) (fun _ _ e => e) (fun h' u tk z => ⟨_, _, rfl, fin h' u tk z⟩) hz'
    | dik h1 h2 h3 ne hl sk sv =>
      rename_i o es n ks ds
      obtain ⟨cs, m', k'⟩ := sk.rp
      obtain ⟨cs2, m2', k2'⟩ := sv.rp
      obtain ⟨z1, z2⟩ := fst_zipQ hl
      have dd : PyData.depth (.dict (ks.zip ds)) = PyData.depthKv (ks.zip ds) + 1 := by simp only [PyData.depth]
      have d1 := PyData.depthAll_keys_le (ks.zip ds)
      have d2 := PyData.depthAll_vals_le (ks.zip ds)
      rw [z1] at d1
      rw [z2] at d2
      have e : PyData.shown (.dict (ks.zip ds)) = dictText (List.zipWith (fun k v : Str => k ++ ": " ++ v) (PyData.shownAll ks) (PyData.shownAll ds)) := by
        simp only [PyData.shown, PyData.shownKv_eq, z1, z2]
      have mm := (m'.mono d1).append (m2'.mono d2)
      have np : p ∉ cs ++ cs2 := not_mem_of_deeper rd (by omega) mm
      rw [e] at fin hz'
      refine call_repr_slot (by omega) (T := "dict") ⟨o, h1, h2⟩ PySem.F.slot_dict_repr ?_
      have q1 := k'.more_le (as' := cs ++ cs2) (fun b z => List.mem_append_left _ z) d1
      have q2 := k2'.more_le (as' := cs ++ cs2) (fun b z => List.mem_append_right _ z) d2
      exact call_dict_reprK h1 h2 h3 ne np (ReprEntriesK.of_two _ _ _ q1 q2) hg (fun b _ => Clear.nil b) (by show X.A.units + 1 + _ < cLine; omega) (fun _ _ e => e) (fun h' u tk z => ⟨_, _, rfl, fin h' u tk z⟩) hz'
  cases rd with
  | none => exact PySem.P.repr_of_none (fin s.heap _ _ fun _ _ e => e)
  | bool b => exact PySem.P.repr_of_bool (fin s.heap _ _ fun _ _ e => e)
  | int i t => exact PySem.P.repr_of_int (hi i rfl) (fin s.heap _ _ fun _ _ e => e)
  | str y t => exact PySem.P.repr_of_str (fin s.heap _ _ fun _ _ e => e) (line7 hz)
  | list e1 e2 e3 e4 => exact one rfl rfl ⟨_, rfl⟩
  | tuple e1 e2 e3 e4 => exact one rfl rfl ⟨_, rfl⟩
  | dict e1 e2 e3 e4 e5 => exact one rfl rfl ⟨_, rfl⟩
end
open Classical in
noncomputable def fReprQ : List D → Option D
  | [x] => if laq 63 x = true ∧ (toQ x).shown.length ≤ 10000000 then some (.sc (.str (toQ x).shown)) else none
  | _ => none
theorem os_reprQ {G : Gm} {P : Program} {w : World} : OpS G (rReprQ P w) fReprQ := by
  intro I H ds ws d sm x e Q k
  unfold fReprQ at e
  split at e
  · rename_i y
    split at e
    · rename_i c
      cases e
      obtain ⟨v, g, rfl, r, _⟩ := x.one
      refine ⟨v, toQ y, rfl, fun h u ok ru => sh_of sm ok 63 y v g u c.1 r ru (line7 c.2), laq_depth 63 y c.1, c.2, fun i e => ?_, fin_sc sm k⟩
      cases y with
      | sc v =>
        have l : laq 63 (.sc v) = true := c.1
        cases v with
        | int j => cases e; exact of_decide_eq_true l
        | _ => cases e
      | nd kd ds => cases kd <;> cases e
      | _ => cases e
    · cases e
  · cases e
theorem fReprQ_of {x : D} (h : laq 63 x = true) (h2 : (toQ x).shown.length ≤ 10000000) : fReprQ [x] = some (.sc (.str (toQ x).shown)) := if_pos ⟨h, h2⟩
end DL

end
section
set_option maxRecDepth 100000
/-! DL: == of a dict and a tuple. -/
namespace PySem.SeqAt
open AutoSeq1 (wpAny_loadPart')
open MeetsSeq
theorem td_sub : isSubtype (.type "tuple") (.type "dict") = pure false := by rw [isSubtype_type]; kernel_rfl
theorem dt_sub : isSubtype (.type "dict") (.type "tuple") = pure false := by rw [isSubtype_type]; kernel_rfl
theorem dict_no_tuple (d b : Addr) (es : Array DictEntry) (n n2 : Nat) (its : Array Value) (d1 d2 : Option Addr) (s1 s2 : Array (Option Value)) :
    Meets (Builtin.«dict.__eq__» ⟨[.ref d, .ref b], []⟩) (fun _ R s => (s.heap.get? d = some { cls := .type "dict", dict := d1, data := .dict es n, slots := s1 } ∧ s.heap.get? b = some { cls := .type "tuple", dict := d2, data := .seq its n2, slots := s2 }) ∧ R (.ok (.ret .notImplemented)) s) :=
  .of_wp fun prog w A R s z => by
    obtain ⟨hp, g, dr, tk, os⟩ := s
    obtain ⟨⟨e1, e2⟩, z⟩ := z
    have q := td_sub
    wp_walk using wpAny_loadPart' e1, wpAny_loadPart' e2, wpAny_load e1, wpAny_load e2
    exact ⟨_, rfl, z⟩
theorem tuple_no_dict (d b : Addr) (es : Array DictEntry) (n n2 : Nat) (its : Array Value) (d1 d2 : Option Addr) (s1 s2 : Array (Option Value)) :
    Meets (Builtin.«tuple.__eq__» ⟨[.ref b, .ref d], []⟩) (fun _ R s => (s.heap.get? d = some { cls := .type "dict", dict := d1, data := .dict es n, slots := s1 } ∧ s.heap.get? b = some { cls := .type "tuple", dict := d2, data := .seq its n2, slots := s2 }) ∧ R (.ok (.ret .notImplemented)) s) :=
  .of_wp fun prog w A R s z => by
    obtain ⟨hp, g, dr, tk, os⟩ := s
    obtain ⟨⟨e1, e2⟩, z⟩ := z
    have q := dt_sub
    wp_walk using wpAny_loadPart' e1, wpAny_loadPart' e2, wpAny_load e1, wpAny_load e2
    exact ⟨_, rfl, z⟩
end PySem.SeqAt
namespace DL
open PySem PySem.Spec PyProof PyProof.Rows L2
open PySem.SeqAt in
theorem cmp_dict_tuple {prog : Program} {w : World} {A : Around} {E : Value → Shared → Prop} {s : Shared} {Q : Value → Shared → Prop} {d b : Addr} {o o2 : Obj} {es : Array DictEntry} {n n2 : Nat} {its : Array Value} (h1 : s.heap.get? d = some o) (c1 : o.cls = .type "dict") (e1 : o.data = .dict es n)
    (h2 : s.heap.get? b = some o2) (c2 : o2.cls = .type "tuple") (e2 : o2.data = .seq its n2) (hu : A.units < cLine) (h : Q (.bool false) s) : wpAny (model prog w) A (compareOp .Eq (.ref d) (.ref b)) Q E s := by
  obtain ⟨cls, d1, data, s1⟩ := o
  obtain ⟨cls2, d2, data2, s2⟩ := o2
  dsimp only at c1 e1 c2 e2
  subst c1 e1 c2 e2
  have ne : d ≠ b := fun z => by
    subst z
    have q := Option.some.inj (h1.symm.trans h2)
    injection q with q
    exact absurd q (by simp)
  show wpAny _ _ (richCompare .Eq _ _) _ _ _
  exact rc_eq_decline_or (k := false) ⟨_, h1, rfl⟩ ⟨_, h2, rfl⟩ (by decide) td_sub PySem.F.slot_dict_eq PySem.F.slot_tuple_eq_refl
    (fun _ q => call_meets PySem.F.slot_dict_eq ⟨_, h1, rfl⟩ PySem.F.entry_dict_eq (PySem.F.args_dict_eq_2 _ _) (dict_no_tuple d b es n n2 its d1 d2 s1 s2) ⟨⟨h1, h2⟩, q⟩)
    (fun _ q => call_meets PySem.F.slot_tuple_eq_refl ⟨_, h2, rfl⟩ PySem.F.entry_tuple_eq (PySem.F.args_tuple_eq_2 _ _) (tuple_no_dict d b es n n2 its d1 d2 s1 s2) ⟨⟨h1, h2⟩, q⟩)
    (fun _ q => wpAny_isSame_ref_other (by simpa using ne) h1 h2 (by simp) q) (.inr hu) h
def rDkT (K : PySem.W.Frag) : R2 := fun x y H Q => ∃ (a b : Addr) (kvs : List (Key × V)) (ys : List V), x = .ref a ∧ H a = some (.dK kvs) ∧ y = .ref b ∧ SqT K H b ys ∧ Q (.bl false) H
section
variable {X : Cx}
theorem op_eqDkT (hu : X.A.units < cLine) : OpR X (compareOp .Eq) (rDkT X.K) := by
  intro pins s σ H x y v u Q I rx ry h
  obtain ⟨a, b, kvs, ys, rfl, ha, rfl, hb, q⟩ := h
  cases rx
  cases ry
  obtain ⟨_, _, vs, kv, o, es, ep, ho, hx, hd, _⟩ := dk_of I.hok ha
  obtain ⟨its, _, ⟨o2, h2, c2, n2, d2⟩, _⟩ := I.tuple hb
  exact cmp_dict_tuple ho hx.1 hd h2 c2 d2 hu ⟨.bl false, H, I, rfl, q⟩
end
/-- == where the first may be a dict and the second is a tuple -/
def fEqX : List D → Option D
  | [.nd (.dik _ _) _, .nd .tup _] => some (.sc (.bl false))
  | ds => fEq ds
theorem os_eqX {G : Gm} : OpS G (r2l fun x y H Q => rEqD G.K x y H Q ∨ rDkT G.K x y H Q) fEqX := by
  intro I H ds ws d sm x e Q k
  unfold fEqX at e
  split at e
  · rename_i m ks as bs
    cases e
    obtain ⟨v, w, g1, g2, rfl, r1, r2⟩ := x.two
    obtain ⟨p, vs, _, o, rfl, st, eo, _, _⟩ := r1.node sm
    obtain ⟨p2, vs2, _, o2, rfl, st2, eo2, _, _⟩ := r2.node sm
    obtain ⟨_, rfl⟩ := st
    cases st2
    exact .inr ⟨p, p2, _, vs2, rfl, eo, rfl, SqT.of eo2, fin_sc sm k⟩
  · have := os_eq (K := G.K) I H _ ws d sm x e Q k
    unfold r2l at this ⊢
    split at this
    · exact .inl this
    · exact this.elim
section
variable {X : Cx} {G : Gm} {W : WX} {p1 p2 : Bool} {a b : Expr} {d1 d2 : Den} {pos : Pos}
theorem jteqX (hK : G.K = X.K) (hu : X.A.units + 64 < cLine) (ha : JE X G W p1 a d1) (hb : JE X G W p2 b d2) : JT X G W (p1 && (p2 && true)) (.Compare a [.Eq] [b] pos) (dTst (dOp fEqX (aCons (p2 && true) d1 (aCons true d2 aNil)))) :=
  jtc2 ((op_eqD hu).or (op_eqDkT (by omega))) (by rw [← hK]; exact os_eqX) ha hb (nomark _)
end
@[simp] theorem ev_fEqX_d (m : Bool) (ks : List Key) (as bs : List D) : fEqX [.nd (.dik m ks) as, .nd .tup bs] = some (.sc (.bl false)) := id rfl
theorem fEqX_sc (v : V) (y : D) : fEqX [.sc v, y] = fEq [.sc v, y] := by unfold fEqX; split <;> simp_all
theorem fEqX_seq (k : Kd) (hk : k.seq = true) (ds : List D) (y : D) : fEqX [.nd k ds, y] = fEq [.nd k ds, y] := by
  unfold fEqX
  split
  · rename_i e
    injection e with e _
    injection e with e _
    subst e
    cases hk
  · rfl
theorem lay_sc0 (n : Nat) (v : V) (h : lay 0 (.sc v) = true) : lay n (.sc v) = true := by cases n <;> exact h
end DL

end
section

end
section
set_option maxRecDepth 100000
namespace K59
open PySem PySem.Spec PyProof.Rows L2 DL
def topS (i : Nat) : Stmt := PySem.Challenge.pw_pourwright_k59_no_phases.main.body.getD i (.Pass ⟨0, 0, 0, 0⟩)
abbrev s_9 : Stmt := topS 23
abbrev N_9 : List Str := ["script", "k", "here", "number", "j", "part"]
theorem sc_9 : FnScope N_9 ["script", "k"] (defScope s_9) := ⟨rfl, rfl, rfl, by decide +kernel, rfl, by decide +kernel, by decide +kernel⟩
abbrev s_10 : Stmt := topS 24
abbrev N_10 : List Str := ["box", "many", "left", "digit"]
theorem sc_10 : FnScope N_10 ["box", "many"] (defScope s_10) := ⟨rfl, rfl, rfl, by decide +kernel, rfl, by decide +kernel, by decide +kernel⟩
abbrev s_11 : Stmt := topS 25
abbrev N_11 : List Str := ["box"]
theorem sc_11 : FnScope N_11 ["box"] (defScope s_11) := ⟨rfl, rfl, rfl, by decide +kernel, rfl, by decide +kernel, by decide +kernel⟩
abbrev s_4 : Stmt := topS 16
abbrev N_4 : List Str := ["thing"]
theorem sc_4 : FnScope N_4 ["thing"] (defScope s_4) := ⟨rfl, rfl, rfl, by decide +kernel, rfl, by decide +kernel, by decide +kernel⟩
abbrev s_5 : Stmt := topS 17
abbrev N_5 : List Str := ["thing", "least", "most"]
theorem sc_5 : FnScope N_5 ["thing", "least", "most"] (defScope s_5) := ⟨rfl, rfl, rfl, by decide +kernel, rfl, by decide +kernel, by decide +kernel⟩
abbrev s_6 : Stmt := topS 19
abbrev N_6 : List Str := ["layout", "target", "sources", "times", "last", "drive"]
theorem sc_6 : FnScope N_6 ["layout", "target", "sources", "times"] (defScope s_6) := ⟨rfl, rfl, rfl, by decide +kernel, rfl, by decide +kernel, by decide +kernel⟩
abbrev s_7 : Stmt := topS 20
abbrev N_7 : List Str := ["layout", "thing", "target", "sources", "times"]
theorem sc_7 : FnScope N_7 ["layout", "thing"] (defScope s_7) := ⟨rfl, rfl, rfl, by decide +kernel, rfl, by decide +kernel, by decide +kernel⟩
abbrev s_8 : Stmt := topS 21
abbrev N_8 : List Str := ["layout", "phase", "target", "sources", "times", "found", "drive"]
theorem sc_8 : FnScope N_8 ["layout", "phase"] (defScope s_8) := ⟨rfl, rfl, rfl, by decide +kernel, rfl, by decide +kernel, by decide +kernel⟩
abbrev s_13 : Stmt := topS 27
abbrev N_13 : List Str := ["e", "found"]
theorem sc_13 : FnScope N_13 ["e"] (defScope s_13) := ⟨rfl, rfl, rfl, by decide +kernel, rfl, by decide +kernel, by decide +kernel⟩
abbrev s_14 : Stmt := topS 28
abbrev N_14 : List Str := ["e", "place", "k"]
theorem sc_14 : FnScope N_14 ["e", "place"] (defScope s_14) := ⟨rfl, rfl, rfl, by decide +kernel, rfl, by decide +kernel, by decide +kernel⟩
abbrev s_15 : Stmt := topS 29
abbrev N_15 : List Str := ["layout", "phase", "e", "place"]
theorem sc_15 : FnScope N_15 ["layout", "phase"] (defScope s_15) := ⟨rfl, rfl, rfl, by decide +kernel, rfl, by decide +kernel, by decide +kernel⟩
abbrev s_12 : Stmt := topS 26
abbrev N_12 : List Str := ["layout", "phase", "target", "sources", "times", "found", "drive", "more"]
theorem sc_12 : FnScope N_12 ["layout", "phase"] (defScope s_12) := ⟨rfl, rfl, rfl, by decide +kernel, rfl, by decide +kernel, by decide +kernel⟩
abbrev s_16 : Stmt := topS 30
abbrev N_16 : List Str := ["script", "k", "box", "drives", "target", "layout", "full", "sources", "times", "phase", "odd", "some", "thing", "drive"]
theorem sc_16 : FnScope N_16 ["script"] (defScope s_16) := ⟨rfl, rfl, rfl, by decide +kernel, rfl, by decide +kernel, by decide +kernel⟩
abbrev c_Bare : Nat := 13
abbrev c_NoDrive : Nat := 5
abbrev c_NoDrives : Nat := 3
abbrev c_NoLine : Nat := 8
abbrev c_NoPhase : Nat := 6
abbrev c_NoPlace : Nat := 4
abbrev c_NoRoom : Nat := 1
abbrev c_NoRow : Nat := 10
abbrev c_NoShelf : Nat := 7
abbrev c_NoTrace : Nat := 12
abbrev c_NoWidth : Nat := 2
abbrev c_NotRising : Nat := 11
abbrev c_PourError : Nat := 0
abbrev c_TooMany : Nat := 9
/-! ### what the defs compute -/
noncomputable def lb_law_box_0 : DenS := (dSeq (dKill [4] (dAsg (dOp fMod (aCons (true && true) (dOp fAdd (aCons (true && true) (dOp fAdd (aCons ((true && (true && true)) && true) (dOp fMul (aCons (true && true) (dOp fMod (aCons (true && true) (rName 2) (aCons true (rC (.int 2147483647)) aNil))) (aCons true (rC (.int 48271)) aNil))) (aCons true (dOp fMul (aCons (true && true) (rC (.int 7919)) (aCons true (rName 4) aNil))) aNil))) (aCons true (rC (.int 1)) aNil))) (aCons true (rC (.int 2147483647)) aNil))) (dgName 5))) (dSeq (dAsg (dOp fMod (aCons (true && true) (dOp fMul (aCons (true && true) (rName 5) (aCons true (rName 5) aNil))) (aCons true (rC (.int 2147483629)) aNil))) (dgName 5)) (dKill [5] (dAsg (dOp fAdd (aCons (((true && ((true && (true && true)) && true)) && (true && true)) && true) (dOp fMul (aCons (true && true) (rName 3) (aCons true (rC (.int 2147483647)) aNil))) (aCons true (dOp fMod (aCons (true && true) (dOp fMul (aCons ((true && (true && true)) && true) (rName 5) (aCons true (dOp fAdd (aCons (true && true) (rName 5) (aCons true (rC (.int 13)) aNil))) aNil))) (aCons true (rC (.int 2147483647)) aNil))) aNil))) (dgName 3)))))
noncomputable def dn_law_box : DenS := (dSeq (dAsg (dOp fAdd (aCons (true && true) (dOp fMul (aCons (true && true) (rC (.int 7919)) (aCons true (rName 1) aNil))) (aCons true (rC (.int 13)) aNil))) (dgName 2)) (dSeq (dIfS (dTst (dOp fLt (aCons ((true && true) && true) (rName 1) (aCons true (dOp fLen (aCons true (rName 0) aNil)) aNil)))) (dAsg (dIx (true && true) (rName 0) (rName 1)) (dgName 2)) dNext) (dSeq (dIfS (dTst (dOp fEq (aCons (true && true) (dOp fMod (aCons (true && true) (rName 2) (aCons true (rC (.int 2)) aNil))) (aCons true (rC (.int 0)) aNil)))) (dRet (dLst (aCons true (dOp fDiv (aCons (true && true) (rName 2) (aCons true (rC (.int 2)) aNil))) aNil))) dNext) (dSeq (dAsg (rC (.int 0)) (dgName 3)) (dSeq (dKill [2] (dFor (dR1 (aCons true (rC (.int 16)) aNil)) (dgName 4) lb_law_box_0)) (dRet (dLst (aCons true (dMove 3) aNil))))))))
noncomputable def F_law_box : Fn := opq (fnP 2 6 ([2] ++ (([2] ++ []) ++ (([] ++ []) ++ ([3] ++ (([4] ++ ([5] ++ ([5] ++ [3]))) ++ []))))) dn_law_box)
noncomputable def dn_law_take : DenS := (dSeq (dAsg (dOp fDivmod (aCons (true && true) (dIx (true && true) (rName 0) (rC (.int 0))) (aCons true (rName 1) aNil))) (dgTup [2, 3])) (dSeq (dKill [2] (dSetI true true (dMove 2) (rName 0) (rC (.int 0)))) (dRet (dMove 3))))
noncomputable def F_law_take : Fn := opq (fnP 2 4 ([2, 3] ++ ([] ++ [])) dn_law_take)
noncomputable def dn_law_odd : DenS := (dRet (dIx (false && true) (dCold (dLst (aCons (true && (true && (true && (true && ((true && (true && true)) && ((true && true) && ((true && true) && (true && true)))))))) (rC .non) (aCons (true && (true && (true && ((true && (true && true)) && ((true && true) && ((true && true) && (true && true))))))) (rC (.bl true)) (aCons (true && (true && ((true && (true && true)) && ((true && true) && ((true && true) && (true && true)))))) (rC (.bl false)) (aCons (true && ((true && (true && true)) && ((true && true) && ((true && true) && (true && true))))) (rC (.str "1")) (aCons ((true && (true && true)) && ((true && true) && ((true && true) && (true && true)))) (rC (.str "")) (aCons ((true && true) && ((true && true) && (true && true))) (dTup (aCons (true && true) (rC (.int 1)) (aCons true (rC (.int 2)) aNil))) (aCons ((true && true) && (true && true)) (dLst (aCons true (rC (.int 1)) aNil)) (aCons (true && true) (dDisp [.inr "a"] (aCons true (rC (.int 1)) aNil)) (aCons true (dTup aNil) aNil))))))))))) (dCall F_law_take (aCons (true && true) (rName 0) (aCons true (rC (.int 9)) aNil)))))
noncomputable def F_law_odd : Fn := opq (fnP 1 1 [] dn_law_odd)
noncomputable def dn_is_whole : DenS := (dRet (dAndV (dOp fIsi (aCons (true && true) (rName 0) (aCons true (rC (.ty "int")) aNil))) (dNotV (dOp fIsi (aCons (true && true) (rName 0) (aCons true (rC (.ty "bool")) aNil))))))
noncomputable def F_is_whole : Fn := opq (fnP 1 1 [] dn_is_whole)
noncomputable def dn_is_between : DenS := (dRet (dAndV (dCall F_is_whole (aCons true (rName 0) aNil)) (dChain fLe fLe true true (rName 1) (rName 0) (rName 2))))
noncomputable def F_is_between : Fn := opq (fnP 3 3 [] dn_is_between)
noncomputable def lb_are_sources_0 : DenS := (dSeq (dKill [4] (dIfS (dOr (dNot (dTst (dCall F_is_between (aCons ((true && (true && true)) && (((true && true) && (true && true)) && true)) (rName 5) (aCons (((true && true) && (true && true)) && true) (dOp fAdd (aCons (true && true) (rName 4) (aCons true (rC (.int 1)) aNil))) (aCons true (dOp fSub (aCons (true && true) (dOp fLen (aCons true (rName 0) aNil)) (aCons true (rC (.int 1)) aNil))) aNil)))))) (dOr (dTst (dOp fEq (aCons (true && true) (rName 5) (aCons true (rName 1) aNil)))) (dTst (dOp fLt (aCons (true && true) (dIx (true && true) (rName 0) (rName 5)) (aCons true (rName 3) aNil)))))) (dRet (rC (.bl false))) dNext)) (dKill [5] (dAsg (dMove 5) (dgName 4))))
noncomputable def dn_are_sources : DenS := (dSeq (dIfS (dOr (dNot (dTst (dOp fIsi (aCons (true && true) (rName 2) (aCons true (rC (.ty "tuple")) aNil))))) (dTst (dOp fLt (aCons (true && true) (dOp fLen (aCons true (rName 2) aNil)) (aCons true (rC (.int 2)) aNil))))) (dRet (rC (.bl false))) dNext) (dSeq (dAsg (dOp fNeg (aCons true (rC (.int 1)) aNil)) (dgName 4)) (dSeq (dKill [4] (dForX 2 (dgName 5) lb_are_sources_0)) (dRet (rC (.bl true))))))
noncomputable def F_are_sources : Fn := opq (fnP 4 6 (([] ++ []) ++ ([4] ++ (([5] ++ (([] ++ []) ++ [4])) ++ []))) dn_are_sources)
noncomputable def dn_is_phase : DenS := (dSeq (dIfS (dOr (dNot (dTst (dOp fIsi (aCons (true && true) (rName 1) (aCons true (rC (.ty "tuple")) aNil))))) (dTst (dOp fNe (aCons (true && true) (dOp fLen (aCons true (rName 1) aNil)) (aCons true (rC (.int 3)) aNil))))) (dRet (rC (.bl false))) dNext) (dSeq (dAsg (dFrz (rName 1)) (dgTup [2, 3, 4])) (dSeq (dIfS (dOr (dNot (dTst (dCall F_is_between (aCons (true && (((true && true) && (true && true)) && true)) (rName 2) (aCons (((true && true) && (true && true)) && true) (rC (.int 0)) (aCons true (dOp fSub (aCons (true && true) (dOp fLen (aCons true (rName 0) aNil)) (aCons true (rC (.int 1)) aNil))) aNil)))))) (dTst (dOp fNe (aCons (true && true) (dIx (true && true) (rName 0) (rName 2)) (aCons true (rC (.int 0)) aNil))))) (dRet (rC (.bl false))) dNext) (dRet (dAndV (dCall F_is_whole (aCons true (rName 4) aNil)) (dAndV (dOp fGt (aCons (true && true) (rName 4) (aCons true (rC (.int 0)) aNil))) (dCall F_are_sources (aCons (true && (true && (true && true))) (rName 0) (aCons (true && (true && true)) (rName 2) (aCons (true && true) (rName 3) (aCons true (rName 4) aNil)))))))))))
noncomputable def F_is_phase : Fn := opq (fnP 2 5 (([] ++ []) ++ ([2, 3, 4] ++ (([] ++ []) ++ []))) dn_is_phase)
noncomputable def lb_led_0 : DenS := (dKill [6] (dSetI true true (dOp fSub (aCons (true && true) (dIx (true && true) (rName 5) (rName 6)) (aCons true (rName 4) aNil))) (rName 5) (rName 6)))
noncomputable def dn_led : DenS := (dSeq (dIfS (dNot (dTst (dCall F_is_phase (aCons (true && true) (rName 0) (aCons true (rName 1) aNil))))) (dRaise c_NoPhase) dNext) (dSeq (dAsg (dFrz (rName 1)) (dgTup [2, 3, 4])) (dSeq (dAsg (dOp fList (aCons true (rName 0) aNil)) (dgName 5)) (dSeq (dKill [3] (dForX 3 (dgName 6) lb_led_0)) (dSeq (dKill [2, 4] (dSetI true true (dMove 4) (rName 5) (rName 2))) (dRet (dOp fTup (aCons true (rName 5) aNil))))))))
noncomputable def F_led : Fn := opq (fnP 2 7 (([] ++ []) ++ ([2, 3, 4] ++ ([5] ++ (([6] ++ []) ++ ([] ++ []))))) dn_led)
noncomputable def dn_law_classes_xNoPhase (a : Addr) : DenS := (dSeq (dAsg (dLst (aCons (true && (true && (true && true))) (dIsE a 0 false) (aCons (true && (true && true)) (dIsE a 0 false) (aCons (true && true) (dIsE a 0 false) (aCons true (dIsE a 0 false) aNil))))) (dgName 1)) (dSeq (dAsg (dOp fAdd (aCons ((true && (true && (true && (true && true)))) && true) (rName 1) (aCons true (dLst (aCons (true && (true && (true && true))) (dIsE a 0 false) (aCons (true && (true && true)) (dIsE a 0 true) (aCons (true && true) (dIsE a 0 false) (aCons true (dIsE a 0 false) aNil))))) aNil))) (dgName 1)) (dSeq (dAsg (dOp fAdd (aCons ((true && (true && (true && (true && true)))) && true) (rName 1) (aCons true (dLst (aCons (true && (true && (true && true))) (dIsE a 0 false) (aCons (true && (true && true)) (dIsE a 0 false) (aCons (true && true) (dIsE a 0 false) (aCons true (dIsE a 0 false) aNil))))) aNil))) (dgName 1)) (dRet (dOp fAdd (aCons ((true && true) && true) (rName 1) (aCons true (dLst (aCons true (dIsE a 0 false) aNil)) aNil)))))))
noncomputable def F_law_classes_xNoPhase (a : Addr) : Fn := opq (fnP 1 2 ([1] ++ ([1] ++ ([1] ++ []))) (dn_law_classes_xNoPhase a))
noncomputable def ce_law_only_xNoPhase_0 (a : Addr) : Den := (dOp fEq (aCons (true && true) (rName 2) (aCons true (rName 1) aNil)))
noncomputable def dn_law_only_xNoPhase (a : Addr) : DenS := (dSeq (dIfS (dOr (dNot (dTst (dIsE a 0 true))) (dNot (dTst (dIsE a 0 true)))) (dRet (rC (.bl false))) dNext) (dRet (dOp fEq (aCons (false && true) (dCall (F_law_classes_xNoPhase a) (aCons true (rName 0) aNil)) (aCons true (dComp (dR1 (aCons true (rC (.int 13)) aNil)) (dgName 2) dYes (ce_law_only_xNoPhase_0 a) [2]) aNil)))))
noncomputable def F_law_only_xNoPhase (a : Addr) : Fn := opq (fnP 2 3 (([] ++ []) ++ []) (dn_law_only_xNoPhase a))
noncomputable def ce_law_told_0 (a : Addr) : Den := (dCopy (rName 3))
noncomputable def ct_law_told_1 (a : Addr) : DenT := (dTst (dCall (F_law_only_xNoPhase a) (aCons (true && true) (rName 2) (aCons true (rName 3) aNil))))
noncomputable def dn_law_told : DenS := (dTryE 2 c_NoPhase (fun a => (dRet (dComp (dR1 (aCons true (rC (.int 13)) aNil)) (dgName 3) (ct_law_told_1 a) (ce_law_told_0 a) [3]))) (dRet (dCall F_led (aCons (true && true) (rName 0) (aCons true (rName 1) aNil)))))
noncomputable def F_law_told : Fn := opq (fnP 2 4 ([] ++ ([2] ++ [])) dn_law_told)
noncomputable def lb_law_led_0 : DenS := (dSeq (dAsg (dOp fMul (aCons (((true && (true && true)) && true) && true) (rName 4) (aCons true (dOp fInt (aCons true (dOp fEq (aCons (true && true) (rName 6) (aCons true (rName 2) aNil))) aNil)) aNil))) (dgName 7)) (dKill [6, 7] (dDrop (dMut "list" mAppend ((((true && (true && true)) && (true && true)) && ((true && (((true && (true && true)) && true) && true)) && true)) && true) (rName 5) (aCons true (dOp fSub (aCons ((true && (((true && (true && true)) && true) && true)) && true) (dOp fAdd (aCons (true && true) (dIx (true && true) (rName 0) (rName 6)) (aCons true (rName 7) aNil))) (aCons true (dOp fMul (aCons (((true && (true && true)) && true) && true) (rName 4) (aCons true (dOp fInt (aCons true (dOp (fIn false) (aCons (true && true) (rName 6) (aCons true (rName 3) aNil))) aNil)) aNil))) aNil))) aNil)))))
noncomputable def dn_law_led : DenS := (dSeq (dAsg (dFrz (rName 1)) (dgTup [2, 3, 4])) (dSeq (dAsg (dLst aNil) (dgName 5)) (dSeq (dKill [2, 3, 4] (dFor (dR1 (aCons true (dOp fLen (aCons true (rName 0) aNil)) aNil)) (dgName 6) lb_law_led_0)) (dRet (dOp fTup (aCons true (rName 5) aNil))))))
noncomputable def F_law_led : Fn := opq (fnP 2 8 ([2, 3, 4] ++ ([5] ++ (([6] ++ ([7] ++ [])) ++ []))) dn_law_led)
noncomputable def ce_law_0 : Den := (dOp fMul (aCons (((true && (true && true)) && true) && true) (dOp fAdd (aCons (false && true) (rC (.int 1)) (aCons true (dCall F_law_take (aCons (true && true) (rName 2) (aCons true (rC (.int 5)) aNil))) aNil))) (aCons true (dOp fInt (aCons true (dOp fNe (aCons (true && true) (rName 13) (aCons true (rName 4) aNil))) aNil)) aNil)))
noncomputable def ce_law_1 : Den := (dCopy (rName 13))
noncomputable def ct_law_2 : DenT := (dTst (dOp fNe (aCons (true && true) (rName 13) (aCons true (rName 4) aNil))))
noncomputable def ce_law_3 : Den := (dIx (true && true) (rName 5) (rName 13))
noncomputable def lb_law_4 : DenS := (dKill [12] (dIfS (dTst (dOp fNe (aCons ((true && true) && true) (dCall F_law_told (aCons (true && true) (rName 5) (aCons true (rName 12) aNil))) (aCons true (dLst (aCons true (rC (.int 5)) aNil)) aNil)))) (dRet (rC (.bl false))) dNext))
noncomputable def lb_law_5 : DenS := (dSeq (dKill [1] (dAsg (dCall F_law_box (aCons (true && true) (rName 0) (aCons true (rName 1) aNil))) (dgName 2))) (dSeq (dAsg (dOp fAdd (aCons (false && true) (rC (.int 3)) (aCons true (dCall F_law_take (aCons (true && true) (rName 2) (aCons true (rC (.int 4)) aNil))) aNil))) (dgName 3)) (dSeq (dAsg (dCall F_law_take (aCons (true && true) (rName 2) (aCons true (rName 3) aNil))) (dgName 4)) (dSeq (dAsg (dOp fTup (aCons true (dComp (dR1 (aCons true (rName 3) aNil)) (dgName 13) dYes ce_law_0 [13]) aNil)) (dgName 5)) (dSeq (dAsg (dComp (dR1 (aCons true (rName 3) aNil)) (dgName 13) ct_law_2 ce_law_1 [13]) (dgName 6)) (dSeq (dKill [6] (dAsg (dOp fTup (aCons true (dSl (true && (true && (false && true))) (rName 6) pNo (pAt (dOp fAdd (aCons (false && true) (rC (.int 2)) (aCons true (dCall F_law_take (aCons ((true && (true && true)) && true) (rName 2) (aCons true (dOp fSub (aCons (true && true) (rName 3) (aCons true (rC (.int 2)) aNil))) aNil))) aNil))))) aNil)) (dgName 7))) (dSeq (dAsg (dOp fAdd (aCons (false && true) (rC (.int 1)) (aCons true (dCall F_law_take (aCons ((false && true) && true) (rName 2) (aCons true (dOp fMin (aCons true (dComp (iSeq (dFrz (rName 7))) (dgName 13) dYes ce_law_3 [13]) aNil)) aNil))) aNil))) (dgName 8)) (dSeq (dAsg (dTup (aCons (false && (false && true)) (dFrz (rName 4)) (aCons (false && true) (dFrz (rName 7)) (aCons true (dFrz (rName 8)) aNil)))) (dgName 9)) (dSeq (dKill [2] (dAsg (dCall F_law_odd (aCons true (rName 2) aNil)) (dgName 10))) (dSeq (dIfS (dTst (dOp fEqX (aCons ((true && (true && true)) && true) (rName 10) (aCons true (dTup (aCons (true && true) (rC (.int 1)) (aCons true (rC (.int 2)) aNil))) aNil)))) (dAsg (dTup (aCons (true && (true && true)) (rC (.int 1)) (aCons (true && true) (rC (.int 2)) (aCons true (rC (.str "3")) aNil)))) (dgName 10)) dNext) (dSeq (dAsg (dLst (aCons (true && ((true && (true && true)) && ((true && ((true && true) && true)) && ((false && (false && (false && true))) && ((false && (false && (false && true))) && true))))) (dFrz (rName 10)) (aCons ((true && (true && true)) && ((true && ((true && true) && true)) && ((false && (false && (false && true))) && ((false && (false && (false && true))) && true)))) (dCold (dOp fList (aCons true (rName 9) aNil))) (aCons ((true && ((true && true) && true)) && ((false && (false && (false && true))) && ((false && (false && (false && true))) && true))) (dSl (true && true) (rName 9) pNo (pAt (rC (.int 2)))) (aCons ((false && (false && (false && true))) && ((false && (false && (false && true))) && true)) (dOp fAdd (aCons ((true && true) && true) (rName 9) (aCons true (dTup (aCons true (rC (.int 1)) aNil)) aNil))) (aCons ((false && (false && (false && true))) && true) (dTup (aCons (false && (false && true)) (dFrz (rName 10)) (aCons (false && true) (dFrz (rName 7)) (aCons true (dFrz (rName 8)) aNil)))) (aCons true (dTup (aCons (false && (false && true)) (dFrz (rName 4)) (aCons (false && true) (dFrz (rName 10)) (aCons true (dFrz (rName 8)) aNil)))) aNil))))))) (dgName 11)) (dSeq (dAsg (dOp fAdd (aCons (((false && (true && (false && true))) && ((false && (false && (true && true))) && ((false && (false && ((true && (true && true)) && true))) && true))) && true) (rName 11) (aCons true (dLst (aCons ((false && (false && (true && true))) && ((false && (false && ((true && (true && true)) && true))) && true)) (dTup (aCons (true && (false && true)) (dFrz (rName 4)) (aCons (false && true) (dCold (dOp fList (aCons true (rName 7) aNil))) (aCons true (dFrz (rName 8)) aNil)))) (aCons ((false && (false && ((true && (true && true)) && true))) && true) (dTup (aCons (false && (true && true)) (dFrz (rName 4)) (aCons (true && true) (dFrz (rName 7)) (aCons true (rC (.int 0)) aNil)))) (aCons true (dTup (aCons (false && ((true && (true && true)) && true)) (dFrz (rName 4)) (aCons ((true && (true && true)) && true) (dFrz (rName 7)) (aCons true (dOp fSub (aCons (true && true) (rC (.int 0)) (aCons true (rName 8) aNil))) aNil)))) aNil)))) aNil))) (dgName 11)) (dSeq (dKill [10] (dAsg (dOp fAdd (aCons (((false && (((false && true) && ((true && (true && true)) && true)) && (false && true))) && ((false && (((true && (true && (true && true))) && ((false && true) && true)) && (false && true))) && true)) && true) (rName 11) (aCons true (dLst (aCons ((false && (((true && (true && (true && true))) && ((false && true) && true)) && (false && true))) && true) (dTup (aCons (((false && true) && ((true && (true && true)) && true)) && (false && true)) (dFrz (rName 4)) (aCons (false && true) (dOp fAdd (aCons ((true && (true && true)) && true) (dTup (aCons true (dFrz (rName 10)) aNil)) (aCons true (dSl (true && true) (rName 7) (pAt (rC (.int 1))) pNo) aNil))) (aCons true (dFrz (rName 8)) aNil)))) (aCons true (dTup (aCons (((true && (true && (true && true))) && ((false && true) && true)) && (false && true)) (dFrz (rName 4)) (aCons (false && true) (dOp fAdd (aCons ((false && true) && true) (dSl (true && (true && true)) (rName 7) pNo (pAt (dOp fNeg (aCons true (rC (.int 1)) aNil)))) (aCons true (dTup (aCons true (dFrz (rName 10)) aNil)) aNil))) (aCons true (dFrz (rName 8)) aNil)))) aNil))) aNil))) (dgName 11))) (dSeq (dAsg (dOp fAdd (aCons ((((true && true) && (false && (false && true))) && ((false && ((((true && true) && true) && (true && true)) && (false && true))) && ((false && ((true && ((false && true) && true)) && (false && true))) && true))) && true) (rName 11) (aCons true (dLst (aCons ((false && ((((true && true) && true) && (true && true)) && (false && true))) && ((false && ((true && ((false && true) && true)) && (false && true))) && true)) (dTup (aCons (false && (false && true)) (dOp fNeg (aCons true (rC (.int 1)) aNil)) (aCons (false && true) (dFrz (rName 7)) (aCons true (dFrz (rName 8)) aNil)))) (aCons ((false && ((true && ((false && true) && true)) && (false && true))) && true) (dTup (aCons ((((true && true) && true) && (true && true)) && (false && true)) (dFrz (rName 4)) (aCons (false && true) (dOp fAdd (aCons (true && true) (dTup (aCons true (dOp fNeg (aCons true (rC (.int 1)) aNil)) aNil)) (aCons true (rName 7) aNil))) (aCons true (dFrz (rName 8)) aNil)))) (aCons true (dTup (aCons ((true && ((false && true) && true)) && (false && true)) (dFrz (rName 4)) (aCons (false && true) (dOp fAdd (aCons ((false && true) && true) (rName 7) (aCons true (dTup (aCons true (dFrz (rName 3)) aNil)) aNil))) (aCons true (dFrz (rName 8)) aNil)))) aNil)))) aNil))) (dgName 11)) (dSeq (dAsg (dOp fAdd (aCons (((false && (false && ((true && (true && true)) && true))) && true) && true) (rName 11) (aCons true (dLst (aCons true (dTup (aCons (false && ((true && (true && true)) && true)) (dFrz (rName 4)) (aCons ((true && (true && true)) && true) (dFrz (rName 7)) (aCons true (dOp fPow (aCons (true && true) (rC (.int 10)) (aCons true (rC (.int 30)) aNil))) aNil)))) aNil)) aNil))) (dgName 11)) (dSeq (dKill [3, 4, 7, 8] (dAsg (dOp fAdd (aCons (((false && (false && (false && true))) && ((false && (true && (false && true))) && ((false && (false && (true && true))) && ((false && (false && (true && true))) && true)))) && true) (rName 11) (aCons true (dLst (aCons ((false && (true && (false && true))) && ((false && (false && (true && true))) && ((false && (false && (true && true))) && true))) (dTup (aCons (false && (false && true)) (dMove 3) (aCons (false && true) (dFrz (rName 7)) (aCons true (dFrz (rName 8)) aNil)))) (aCons ((false && (false && (true && true))) && ((false && (false && (true && true))) && true)) (dTup (aCons (true && (false && true)) (dFrz (rName 4)) (aCons (false && true) (dTup aNil) (aCons true (dFrz (rName 8)) aNil)))) (aCons ((false && (false && (true && true))) && true) (dTup (aCons (false && (true && true)) (dFrz (rName 4)) (aCons (true && true) (dFrz (rName 7)) (aCons true (rC (.str "1")) aNil)))) (aCons true (dTup (aCons (false && (true && true)) (dFrz (rName 4)) (aCons (true && true) (dFrz (rName 7)) (aCons true (rC .non) aNil)))) aNil))))) aNil))) (dgName 11))) (dSeq (dKill [11] (dForX 11 (dgName 12) lb_law_4)) (dKill [5, 9] (dIfS (dOr (dTst (dOp fNe (aCons (false && true) (dCall F_law_told (aCons (true && true) (rName 5) (aCons true (rName 9) aNil))) (aCons true (dCall F_law_led (aCons (true && true) (rName 5) (aCons true (rName 9) aNil))) aNil)))) (dTst (dOp fNe (aCons (false && true) (dCall F_led (aCons (true && true) (rName 5) (aCons true (rName 9) aNil))) (aCons true (dCall F_law_led (aCons (true && true) (rName 5) (aCons true (rName 9) aNil))) aNil))))) (dRet (rC (.bl false))) dNext)))))))))))))))))))
noncomputable def dn_law : DenS := (dSeq (dFor (dR1 (aCons true (dOp fMax (aCons (((true && true) && (true && true)) && true) (rC (.int 1)) (aCons true (dOp fMin (aCons (true && true) (dOp fLen (aCons true (rName 0) aNil)) (aCons true (rC (.int 3)) aNil))) aNil))) aNil)) (dgName 1) lb_law_5) (dRet (rC (.bl true))))
noncomputable def F_law : Fn := opq (fnP 1 14 (([1] ++ ([2] ++ ([3] ++ ([4] ++ ([5] ++ ([6] ++ ([7] ++ ([8] ++ ([9] ++ ([10] ++ (([10] ++ []) ++ ([11] ++ ([11] ++ ([11] ++ ([11] ++ ([11] ++ ([11] ++ (([12] ++ ([] ++ [])) ++ ([] ++ []))))))))))))))))))) ++ []) dn_law)
/-! ### what stands behind the top -/
structure Tx (K : PySem.W.Frag) (mg : Str → Option Value) (a : Nat → Addr) (d : Nat → FuncData) (cls : Nat → Addr) : Prop where
  F9 : Fun K "_law_box" "_law_box" s_9 (a 9) (d 9)
  B9 : Binds K (d 9) ["script", "k"] []
  M9 : mg "_law_box" = some (.ref (a 9))
  F10 : Fun K "_law_take" "_law_take" s_10 (a 10) (d 10)
  B10 : Binds K (d 10) ["box", "many"] []
  M10 : mg "_law_take" = some (.ref (a 10))
  F11 : Fun K "_law_odd" "_law_odd" s_11 (a 11) (d 11)
  B11 : Binds K (d 11) ["box"] []
  M11 : mg "_law_odd" = some (.ref (a 11))
  F4 : Fun K "is_whole" "is_whole" s_4 (a 4) (d 4)
  B4 : Binds K (d 4) ["thing"] []
  M4 : mg "is_whole" = some (.ref (a 4))
  F5 : Fun K "is_between" "is_between" s_5 (a 5) (d 5)
  B5 : Binds K (d 5) ["thing", "least", "most"] []
  M5 : mg "is_between" = some (.ref (a 5))
  F6 : Fun K "are_sources" "are_sources" s_6 (a 6) (d 6)
  B6 : Binds K (d 6) ["layout", "target", "sources", "times"] []
  M6 : mg "are_sources" = some (.ref (a 6))
  F7 : Fun K "is_phase" "is_phase" s_7 (a 7) (d 7)
  B7 : Binds K (d 7) ["layout", "thing"] []
  M7 : mg "is_phase" = some (.ref (a 7))
  F8 : Fun K "led" "led" s_8 (a 8) (d 8)
  B8 : Binds K (d 8) ["layout", "phase"] []
  M8 : mg "led" = some (.ref (a 8))
  F13 : Fun K "_law_classes" "_law_classes" s_13 (a 13) (d 13)
  B13 : Binds K (d 13) ["e"] []
  M13 : mg "_law_classes" = some (.ref (a 13))
  F14 : Fun K "_law_only" "_law_only" s_14 (a 14) (d 14)
  B14 : Binds K (d 14) ["e", "place"] []
  M14 : mg "_law_only" = some (.ref (a 14))
  F15 : Fun K "_law_told" "_law_told" s_15 (a 15) (d 15)
  B15 : Binds K (d 15) ["layout", "phase"] []
  M15 : mg "_law_told" = some (.ref (a 15))
  F12 : Fun K "_law_led" "_law_led" s_12 (a 12) (d 12)
  B12 : Binds K (d 12) ["layout", "phase"] []
  M12 : mg "_law_led" = some (.ref (a 12))
  F16 : Fun K "law" "law" s_16 (a 16) (d 16)
  B16 : Binds K (d 16) ["script"] []
  M16 : mg "law" = some (.ref (a 16))
  mgC_Bare : mg "Bare" = some (.ref (cls 13))
  mgC_NoDrive : mg "NoDrive" = some (.ref (cls 5))
  mgC_NoDrives : mg "NoDrives" = some (.ref (cls 3))
  mgC_NoLine : mg "NoLine" = some (.ref (cls 8))
  mgC_NoPhase : mg "NoPhase" = some (.ref (cls 6))
  mgC_NoPlace : mg "NoPlace" = some (.ref (cls 4))
  mgC_NoRoom : mg "NoRoom" = some (.ref (cls 1))
  mgC_NoRow : mg "NoRow" = some (.ref (cls 10))
  mgC_NoShelf : mg "NoShelf" = some (.ref (cls 7))
  mgC_NoTrace : mg "NoTrace" = some (.ref (cls 12))
  mgC_NoWidth : mg "NoWidth" = some (.ref (cls 2))
  mgC_NotRising : mg "NotRising" = some (.ref (cls 11))
  mgC_PourError : mg "PourError" = some (.ref (cls 0))
  mgC_TooMany : mg "TooMany" = some (.ref (cls 9))
  x_NoPhase : ExK K (cls 6)
  xc_NoPhase : ExcC K (cls 6)
  em_NoPhase_PourError : PySem.W.exmOne K (.ref (cls 6)) (.ref (cls 0)) = some true
  ki_NoPhase_Bare : PySem.W.kitOne K (.ref (cls 6)) (.ref (cls 13)) = some false
  ki_NoPhase_NoDrive : PySem.W.kitOne K (.ref (cls 6)) (.ref (cls 5)) = some false
  ki_NoPhase_NoDrives : PySem.W.kitOne K (.ref (cls 6)) (.ref (cls 3)) = some false
  ki_NoPhase_NoLine : PySem.W.kitOne K (.ref (cls 6)) (.ref (cls 8)) = some false
  ki_NoPhase_NoPhase : PySem.W.kitOne K (.ref (cls 6)) (.ref (cls 6)) = some true
  ki_NoPhase_NoPlace : PySem.W.kitOne K (.ref (cls 6)) (.ref (cls 4)) = some false
  ki_NoPhase_NoRoom : PySem.W.kitOne K (.ref (cls 6)) (.ref (cls 1)) = some false
  ki_NoPhase_NoRow : PySem.W.kitOne K (.ref (cls 6)) (.ref (cls 10)) = some false
  ki_NoPhase_NoShelf : PySem.W.kitOne K (.ref (cls 6)) (.ref (cls 7)) = some false
  ki_NoPhase_NoTrace : PySem.W.kitOne K (.ref (cls 6)) (.ref (cls 12)) = some false
  ki_NoPhase_NoWidth : PySem.W.kitOne K (.ref (cls 6)) (.ref (cls 2)) = some false
  ki_NoPhase_NotRising : PySem.W.kitOne K (.ref (cls 6)) (.ref (cls 11)) = some false
  ki_NoPhase_PourError : PySem.W.kitOne K (.ref (cls 6)) (.ref (cls 0)) = some true
  ki_NoPhase_TooMany : PySem.W.kitOne K (.ref (cls 6)) (.ref (cls 9)) = some false
  kv_NoPhase : PySem.W.kitOne K (.ref (cls 6)) (.type "ValueError") = some true
  z_ValueError : mg "ValueError" = none
  z_bool : mg "bool" = none
  z_divmod : mg "divmod" = none
  z_int : mg "int" = none
  z_isinstance : mg "isinstance" = none
  z_len : mg "len" = none
  z_list : mg "list" = none
  z_max : mg "max" = none
  z_min : mg "min" = none
  z_range : mg "range" = none
  z_tuple : mg "tuple" = none
section
variable {P : Program} {w : World} {K : PySem.W.Frag} {mg : Str → Option Value} {base : Heap} {cls : Nat → Addr} {a : Nat → Addr} {d : Nat → FuncData}
theorem ok_9 (T : Tx K mg a d cls) : FnOk P w K mg base (L2N.CX P w) 1 (a 9) (d 9) ["script", "k"] (spOf ⟨cls, K⟩ F_law_box) :=
  ok_def T.F9 sc_9 (by decide) fun cdv Ar outer s H E hr =>
    have tk : L2N.Takes (cxOf (L2N.CX P w) P w K mg base N_9 "_law_box" (defScope s_9) (a 9) cdv Ar outer s H E) (fun cls d _ H => E cls d H) := L2N.takes_of rfl rfl rfl rfl
    (jcons (jset 2 sc_9.nd (jadd (jmul jint (jv 1)) jint)) (jcons (jifs (jtlt (jv 1) (jB call_len os_len bt_len T.z_len (jac (jv 0) jan))) (jone' (jset 2 sc_9.nd (jix rfl (jv 0) (jv 1)))) jnil) (jcons (jifs (jteq hr.units (jmod (jv 2) jint) jint) (jone' (jret (jlst (jac (jdiv (jv 2) jint) jan)))) jnil) (jcons (jset 3 sc_9.nd jint) (jcons (jkill [2] (jfor (passes_of rfl) (jtgN 4 sc_9.nd) tg_name (jrg1 T.z_range (jac jint jan)) (jcons (jkill [4] (jset 5 sc_9.nd (jmod (jadd (jadd (jmul (jmod (jv 2) jint) jint) (jmul jint (jv 4))) jint) jint))) (jcons (jset 5 sc_9.nd (jmod (jmul (jv 5) (jv 5)) jint)) (jone' (jkill [5] (jset 3 sc_9.nd (jadd (jmul (jv 3) jint) (jmod (jmul (jv 5) (jadd (jv 5) jint)) jint))))))))) (jone' (jret (jlst (jac (jmv 3) jan)))))))))
theorem ok_10 (T : Tx K mg a d cls) : FnOk P w K mg base (L2N.CX P w) 1 (a 10) (d 10) ["box", "many"] (spOf ⟨cls, K⟩ F_law_take) :=
  ok_def T.F10 sc_10 (by decide) fun cdv Ar outer s H E hr =>
    have tk : L2N.Takes (cxOf (L2N.CX P w) P w K mg base N_10 "_law_take" (defScope s_10) (a 10) cdv Ar outer s H E) (fun cls d _ H => E cls d H) := L2N.takes_of rfl rfl rfl rfl
    (jcons (jasg (pg_tup rfl (pgs_cons (jtgN 2 sc_10.nd) (pgs_cons (jtgN 3 sc_10.nd) pgs_nil))) (tg_tup (is := [2, 3]) rfl) (jB call_divmodW os_divmod bt_divmod T.z_divmod (jac (jix rfl (jv 0) jint) (jac (jv 1) jan)))) (jcons (jkill [2] (jseti (jmv 2) (jv 0) jint)) (jone' (jret (jmv 3)))))
theorem ok_11 (T : Tx K mg a d cls) : FnOk P w K mg base (L2N.CX P w) 2 (a 11) (d 11) ["box"] (spOf ⟨cls, K⟩ F_law_odd) :=
  ok_def T.F11 sc_11 (by decide) fun cdv Ar outer s H E hr =>
    have tk : L2N.Takes (cxOf (L2N.CX P w) P w K mg base N_11 "_law_odd" (defScope s_11) (a 11) cdv Ar outer s H E) (fun cls d _ H => E cls d H) := L2N.takes_of rfl rfl rfl rfl
    (jone' (jret (jix rfl (jco (jlst (jac jnon (jac jbl (jac jbl (jac jstr (jac jstr (jac (jtup (jac jint (jac jint jan))) (jac (jlst (jac jint jan)) (jac (jdisp (jdp_cons (s := "a") jint jdp_nil)) (jac (jtup jan) jan))))))))))) (jcall (L2N.passes_call tk (fun _ _ _ _ h => h)) (fun _ _ _ _ h => h) (ok_10 T) (hr.mono (by decide)) T.M10 T.F10.kp T.B10 (jac (jv 0) (jac jint jan))))))
theorem ok_4 (T : Tx K mg a d cls) : FnOk P w K mg base (L2N.CX P w) 1 (a 4) (d 4) ["thing"] (spOf ⟨cls, K⟩ F_is_whole) :=
  ok_def T.F4 sc_4 (by decide) fun cdv Ar outer s H E hr =>
    have tk : L2N.Takes (cxOf (L2N.CX P w) P w K mg base N_4 "is_whole" (defScope s_4) (a 4) cdv Ar outer s H E) (fun cls d _ H => E cls d H) := L2N.takes_of rfl rfl rfl rfl
    (jone' (jret (jand (jB call_isi os_isi bt_isinstance T.z_isinstance (jac (jv 0) (jac (jty bt_int T.z_int) jan))) (jone (jnot (jB call_isi os_isi bt_isinstance T.z_isinstance (jac (jv 0) (jac (jty bt_bool T.z_bool) jan))))))))
theorem ok_5 (T : Tx K mg a d cls) : FnOk P w K mg base (L2N.CX P w) 2 (a 5) (d 5) ["thing", "least", "most"] (spOf ⟨cls, K⟩ F_is_between) :=
  ok_def T.F5 sc_5 (by decide) fun cdv Ar outer s H E hr =>
    have tk : L2N.Takes (cxOf (L2N.CX P w) P w K mg base N_5 "is_between" (defScope s_5) (a 5) cdv Ar outer s H E) (fun cls d _ H => E cls d H) := L2N.takes_of rfl rfl rfl rfl
    (jone' (jret (jand (jcall (L2N.passes_call tk (fun _ _ _ _ h => h)) (fun _ _ _ _ h => h) (ok_4 T) (hr.mono (by decide)) T.M4 T.F4.kp T.B4 (jac (jv 0) jan)) (jone (jchain op_leX op_leX (jv 1) (jv 0) (jv 2))))))
theorem ok_6 (T : Tx K mg a d cls) : FnOk P w K mg base (L2N.CX P w) 3 (a 6) (d 6) ["layout", "target", "sources", "times"] (spOf ⟨cls, K⟩ F_are_sources) :=
  ok_def T.F6 sc_6 (by decide) fun cdv Ar outer s H E hr =>
    have tk : L2N.Takes (cxOf (L2N.CX P w) P w K mg base N_6 "are_sources" (defScope s_6) (a 6) cdv Ar outer s H E) (fun cls d _ H => E cls d H) := L2N.takes_of rfl rfl rfl rfl
    (jcons (jifs (jpt (jwor (jtnot (jtv (jB call_isi os_isi bt_isinstance T.z_isinstance (jac (jv 2) (jac (jty bt_tuple T.z_tuple) jan))))) (jwor1 (jtlt (jB call_len os_len bt_len T.z_len (jac (jv 2) jan)) jint)))) (jone' (jret jbl)) jnil) (jcons (jset 4 sc_6.nd (jneg jint)) (jcons (jkill [4] (jforX 2 (by decide) (passes_of rfl) (jtgN 5 sc_6.nd) tg_name (jcons (jkill [4] (jifs (jpt (jwor (jtnot (jtv (jcall (L2N.passes_call tk (fun _ _ _ _ h => h)) (fun _ _ _ _ h => h) (ok_5 T) (hr.mono (by decide)) T.M5 T.F5.kp T.B5 (jac (jv 5) (jac (jadd (jv 4) jint) (jac (jsub (jB call_len os_len bt_len T.z_len (jac (jv 0) jan)) jint) jan)))))) (jwor (jteq hr.units (jv 5) (jv 1)) (jwor1 (jtlt (jix rfl (jv 0) (jv 5)) (jv 3)))))) (jone' (jret jbl)) jnil)) (jone' (jkill [5] (jset 4 sc_6.nd (jmv 5))))))) (jone' (jret jbl)))))
theorem ok_7 (T : Tx K mg a d cls) : FnOk P w K mg base (L2N.CX P w) 4 (a 7) (d 7) ["layout", "thing"] (spOf ⟨cls, K⟩ F_is_phase) :=
  ok_def T.F7 sc_7 (by decide) fun cdv Ar outer s H E hr =>
    have tk : L2N.Takes (cxOf (L2N.CX P w) P w K mg base N_7 "is_phase" (defScope s_7) (a 7) cdv Ar outer s H E) (fun cls d _ H => E cls d H) := L2N.takes_of rfl rfl rfl rfl
    (jcons (jifs (jpt (jwor (jtnot (jtv (jB call_isi os_isi bt_isinstance T.z_isinstance (jac (jv 1) (jac (jty bt_tuple T.z_tuple) jan))))) (jwor1 (jtne hr.units (jB call_len os_len bt_len T.z_len (jac (jv 1) jan)) jint)))) (jone' (jret jbl)) jnil) (jcons (jasg (pg_tup rfl (pgs_cons (jtgN 2 sc_7.nd) (pgs_cons (jtgN 3 sc_7.nd) (pgs_cons (jtgN 4 sc_7.nd) pgs_nil)))) (tg_tup (is := [2, 3, 4]) rfl) (jfz (jv 1))) (jcons (jifs (jpt (jwor (jtnot (jtv (jcall (L2N.passes_call tk (fun _ _ _ _ h => h)) (fun _ _ _ _ h => h) (ok_5 T) (hr.mono (by decide)) T.M5 T.F5.kp T.B5 (jac (jv 2) (jac jint (jac (jsub (jB call_len os_len bt_len T.z_len (jac (jv 0) jan)) jint) jan)))))) (jwor1 (jtne hr.units (jix rfl (jv 0) (jv 2)) jint)))) (jone' (jret jbl)) jnil) (jone' (jret (jand (jcall (L2N.passes_call tk (fun _ _ _ _ h => h)) (fun _ _ _ _ h => h) (ok_4 T) (hr.mono (by decide)) T.M4 T.F4.kp T.B4 (jac (jv 4) jan)) (jand (jgt (jv 4) jint) (jone (jcall (L2N.passes_call tk (fun _ _ _ _ h => h)) (fun _ _ _ _ h => h) (ok_6 T) (hr.mono (by decide)) T.M6 T.F6.kp T.B6 (jac (jv 0) (jac (jv 2) (jac (jv 3) (jac (jv 4) jan)))))))))))))
theorem ok_8 (T : Tx K mg a d cls) : FnOk P w K mg base (L2N.CX P w) 5 (a 8) (d 8) ["layout", "phase"] (spOf ⟨cls, K⟩ F_led) :=
  ok_def T.F8 sc_8 (by decide) fun cdv Ar outer s H E hr =>
    have tk : L2N.Takes (cxOf (L2N.CX P w) P w K mg base N_8 "led" (defScope s_8) (a 8) cdv Ar outer s H E) (fun cls d _ H => E cls d H) := L2N.takes_of rfl rfl rfl rfl
    (jcons (jifs (jtnot (jtv (jcall (L2N.passes_call tk (fun _ _ _ _ h => h)) (fun _ _ _ _ h => h) (ok_7 T) (hr.mono (by decide)) T.M7 T.F7.kp T.B7 (jac (jv 0) (jac (jv 1) jan))))) (jone' (jraise rfl tk T.x_NoPhase T.mgC_NoPhase)) jnil) (jcons (jasg (pg_tup rfl (pgs_cons (jtgN 2 sc_8.nd) (pgs_cons (jtgN 3 sc_8.nd) (pgs_cons (jtgN 4 sc_8.nd) pgs_nil)))) (tg_tup (is := [2, 3, 4]) rfl) (jfz (jv 1))) (jcons (jset 5 sc_8.nd (jTy call_list_of os_list bt_list T.z_list (jac (jv 0) jan))) (jcons (jkill [3] (jforX 3 (by decide) (passes_of rfl) (jtgN 6 sc_8.nd) tg_name (jone' (jkill [6] (jseti (jsub (jix rfl (jv 5) (jv 6)) (jv 4)) (jv 5) (jv 6)))))) (jcons (jkill [2, 4] (jseti (jmv 4) (jv 5) (jv 2))) (jone' (jret (jTy call_tuple_of os_tupOf bt_tuple T.z_tuple (jac (jv 5) jan)))))))))
theorem okE_13_xNoPhase (T : Tx K mg a d cls) : FnE P w K mg base 1 (a 13) (d 13) ["e"] (cls 6) (fun ad => spOf ⟨cls, K⟩ (F_law_classes_xNoPhase ad)) :=
  ok_defE (A := ([1] ++ ([1] ++ ([1] ++ [])))) (b := dn_law_classes_xNoPhase) T.F13 sc_13 (by decide) (fun _ => rfl) fun cdv Ar outer s H E q hot hC hr => by
  have tk : L2N.Takes (L2H.cxH (L2N.CX P w) P w K mg base N_13 "_law_classes" (defScope s_13) (a 13) cdv Ar outer s H E q) (fun cls d _ H => E cls d H) := L2N.takes_of rfl rfl rfl rfl
  delta dn_law_classes_xNoPhase
  exact (jcons (jset 1 sc_13.nd (jlst (jac (jisE (b := false) T.xc_NoPhase hot hC List.mem_cons_self T.z_isinstance (cn_own T.mgC_NoRoom) T.ki_NoPhase_NoRoom) (jac (jisE (b := false) T.xc_NoPhase hot hC List.mem_cons_self T.z_isinstance (cn_own T.mgC_NoWidth) T.ki_NoPhase_NoWidth) (jac (jisE (b := false) T.xc_NoPhase hot hC List.mem_cons_self T.z_isinstance (cn_own T.mgC_NoDrives) T.ki_NoPhase_NoDrives) (jac (jisE (b := false) T.xc_NoPhase hot hC List.mem_cons_self T.z_isinstance (cn_own T.mgC_NoPlace) T.ki_NoPhase_NoPlace) jan)))))) (jcons (jset 1 sc_13.nd (jadd (jv 1) (jlst (jac (jisE (b := false) T.xc_NoPhase hot hC List.mem_cons_self T.z_isinstance (cn_own T.mgC_NoDrive) T.ki_NoPhase_NoDrive) (jac (jisE (b := true) T.xc_NoPhase hot hC List.mem_cons_self T.z_isinstance (cn_own T.mgC_NoPhase) T.ki_NoPhase_NoPhase) (jac (jisE (b := false) T.xc_NoPhase hot hC List.mem_cons_self T.z_isinstance (cn_own T.mgC_NoShelf) T.ki_NoPhase_NoShelf) (jac (jisE (b := false) T.xc_NoPhase hot hC List.mem_cons_self T.z_isinstance (cn_own T.mgC_NoLine) T.ki_NoPhase_NoLine) jan))))))) (jcons (jset 1 sc_13.nd (jadd (jv 1) (jlst (jac (jisE (b := false) T.xc_NoPhase hot hC List.mem_cons_self T.z_isinstance (cn_own T.mgC_TooMany) T.ki_NoPhase_TooMany) (jac (jisE (b := false) T.xc_NoPhase hot hC List.mem_cons_self T.z_isinstance (cn_own T.mgC_NoRow) T.ki_NoPhase_NoRow) (jac (jisE (b := false) T.xc_NoPhase hot hC List.mem_cons_self T.z_isinstance (cn_own T.mgC_NotRising) T.ki_NoPhase_NotRising) (jac (jisE (b := false) T.xc_NoPhase hot hC List.mem_cons_self T.z_isinstance (cn_own T.mgC_NoTrace) T.ki_NoPhase_NoTrace) jan))))))) (jone' (jret (jadd (jv 1) (jlst (jac (jisE (b := false) T.xc_NoPhase hot hC List.mem_cons_self T.z_isinstance (cn_own T.mgC_Bare) T.ki_NoPhase_Bare) jan))))))))
theorem okE_14_xNoPhase (T : Tx K mg a d cls) : FnE P w K mg base 2 (a 14) (d 14) ["e", "place"] (cls 6) (fun ad => spOf ⟨cls, K⟩ (F_law_only_xNoPhase ad)) :=
  ok_defE (A := (([] ++ []) ++ [])) (b := dn_law_only_xNoPhase) T.F14 sc_14 (by decide) (fun _ => rfl) fun cdv Ar outer s H E q hot hC hr => by
  have tk : L2N.Takes (L2H.cxH (L2N.CX P w) P w K mg base N_14 "_law_only" (defScope s_14) (a 14) cdv Ar outer s H E q) (fun cls d _ H => E cls d H) := L2N.takes_of rfl rfl rfl rfl
  delta dn_law_only_xNoPhase
  exact (jcons (jifs (jpt (jwor (jtnot (jtv (jisE (b := true) T.xc_NoPhase hot hC List.mem_cons_self T.z_isinstance (cn_own T.mgC_PourError) T.ki_NoPhase_PourError))) (jwor1 (jtnot (jtv (jisE (b := true) T.xc_NoPhase hot hC List.mem_cons_self T.z_isinstance (cn_ve T.z_ValueError) T.kv_NoPhase)))))) (jone' (jret jbl)) jnil) (jone' (jret (jeq (unitsH hr) (jcallE (F := F_law_classes_xNoPhase) (okE_13_xNoPhase T) (fun σ => L2N.passAt tk σ) (hr.mono (by decide)) hot List.mem_cons_self hC T.M13 T.F13.kp T.B13 (jac (jv 0) jan)) (jlcH hot List.mem_cons_self (own := [("k", 2)]) sc_14.nd (jrg1H T.z_range (jac jint jan)) (blkOk_by (N := N_14) (sc := defScope s_14) (by decide +kernel)) tg_name (by decide) (by decide) (fun _ _ _ _ _ => (jtgN 2 sc_14.nd)) (fun _ _ _ _ _ => jnoif) (fun _ _ _ _ _ => (jeq (unitsH hr) (jv 2) (jv 1))))))))
theorem ok_15 (T : Tx K mg a d cls) : FnOk P w K mg base (L2N.CX P w) 6 (a 15) (d 15) ["layout", "phase"] (spOf ⟨cls, K⟩ F_law_told) :=
  ok_def T.F15 sc_15 (by decide) fun cdv Ar outer s H E hr =>
    have tk : L2N.Takes (cxOf (L2N.CX P w) P w K mg base N_15 "_law_told" (defScope s_15) (a 15) cdv Ar outer s H E) (fun cls d _ H => E cls d H) := L2N.takes_of rfl rfl rfl rfl
    (jone' (jtryEc (i := 2) (c0 := c_NoPhase) (dh := fun a => (dRet (dComp (dR1 (aCons true (rC (.int 13)) aNil)) (dgName 3) (ct_law_told_1 a) (ce_law_told_0 a) [3]))) rfl rfl rfl sc_15.nd tk T.mgC_PourError T.em_NoPhase_PourError (fun W2 pn xe tk hp => (jone' (jret (jcallS tk (ok_8 T) (hr.mono (by decide)) T.M8 T.F8.kp T.B8 (jac (jv 0) (jac (jv 1) jan)))))) (fun q pn hot hC => (jone' (jret (jlcH hot List.mem_cons_self (own := [("place", 3)]) sc_15.nd (jrg1H T.z_range (jac jint jan)) (blkOk_by (N := N_15) (sc := defScope s_15) (by decide +kernel)) tg_name (by decide) (by decide) (fun _ _ _ _ _ => (jtgN 3 sc_15.nd)) (fun _ _ _ _ _ => (jif1 (jtv (jcallE (F := F_law_only_xNoPhase) (okE_14_xNoPhase T) passW0 ((roomS hr).mono (by decide)) hot List.mem_cons_self hC T.M14 T.F14.kp T.B14 (jac (jv 2) (jac (jv 3) jan)))))) (fun _ _ _ _ _ => (jcp (jv 3)))))))))
theorem ok_12 (T : Tx K mg a d cls) : FnOk P w K mg base (L2N.CX P w) 1 (a 12) (d 12) ["layout", "phase"] (spOf ⟨cls, K⟩ F_law_led) :=
  ok_def T.F12 sc_12 (by decide) fun cdv Ar outer s H E hr =>
    have tk : L2N.Takes (cxOf (L2N.CX P w) P w K mg base N_12 "_law_led" (defScope s_12) (a 12) cdv Ar outer s H E) (fun cls d _ H => E cls d H) := L2N.takes_of rfl rfl rfl rfl
    (jcons (jasg (pg_tup rfl (pgs_cons (jtgN 2 sc_12.nd) (pgs_cons (jtgN 3 sc_12.nd) (pgs_cons (jtgN 4 sc_12.nd) pgs_nil)))) (tg_tup (is := [2, 3, 4]) rfl) (jfz (jv 1))) (jcons (jset 5 sc_12.nd (jlst jan)) (jcons (jkill [2, 3, 4] (jfor (passes_of rfl) (jtgN 6 sc_12.nd) tg_name (jrg1 T.z_range (jac (jB call_len os_len bt_len T.z_len (jac (jv 0) jan)) jan)) (jcons (jset 7 sc_12.nd (jmul (jv 4) (jTy call_intX os_int bt_int T.z_int (jac (jeq hr.units (jv 6) (jv 2)) jan)))) (jone' (jkill [6, 7] (jexp (jmt PySem.F.plainAttrs_list PySem.F.slot_list_append PySem.F.type_list_append mt_append ms_append (jv 5) (jac (jsub (jadd (jix rfl (jv 0) (jv 6)) (jv 7)) (jmul (jv 4) (jTy call_intX os_int bt_int T.z_int (jac (jin (jv 6) (jv 3)) jan)))) jan)))))))) (jone' (jret (jTy call_tuple_of os_tupOf bt_tuple T.z_tuple (jac (jv 5) jan)))))))
theorem ok_16 (T : Tx K mg a d cls) : FnOk P w K mg base (L2N.CX P w) 7 (a 16) (d 16) ["script"] (spOf ⟨cls, K⟩ F_law) :=
  ok_def T.F16 sc_16 (by decide) fun cdv Ar outer s H E hr =>
    have tk : L2N.Takes (cxOf (L2N.CX P w) P w K mg base N_16 "law" (defScope s_16) (a 16) cdv Ar outer s H E) (fun cls d _ H => E cls d H) := L2N.takes_of rfl rfl rfl rfl
    (jcons (jfor (passes_of rfl) (jtgN 1 sc_16.nd) tg_name (jrg1 T.z_range (jac (jB (call_maxX rfl) os_max bt_max T.z_max (jac jint (jac (jB (call_minX rfl) os_min bt_min T.z_min (jac (jB call_len os_len bt_len T.z_len (jac (jv 0) jan)) (jac jint jan))) jan))) jan)) (jcons (jkill [1] (jset 2 sc_16.nd (jcall (L2N.passes_call tk (fun _ _ _ _ h => h)) (fun _ _ _ _ h => h) (ok_9 T) (hr.mono (by decide)) T.M9 T.F9.kp T.B9 (jac (jv 0) (jac (jv 1) jan))))) (jcons (jset 3 sc_16.nd (jadd jint (jcall (L2N.passes_call tk (fun _ _ _ _ h => h)) (fun _ _ _ _ h => h) (ok_10 T) (hr.mono (by decide)) T.M10 T.F10.kp T.B10 (jac (jv 2) (jac jint jan))))) (jcons (jset 4 sc_16.nd (jcall (L2N.passes_call tk (fun _ _ _ _ h => h)) (fun _ _ _ _ h => h) (ok_10 T) (hr.mono (by decide)) T.M10 T.F10.kp T.B10 (jac (jv 2) (jac (jv 3) jan)))) (jcons (jset 5 sc_16.nd (jTy call_tuple_of os_tupOf bt_tuple T.z_tuple (jac (jlc (own := [("drive", 13)]) sc_16.nd (jbi (jrg1 T.z_range (jac (jv 3) jan))) (blkOk_by (N := N_16) (sc := defScope s_16) (by decide +kernel)) tg_name (by decide) (by decide) (fun h => by cases h) (fun _ _ _ _ _ => (jtgN 13 sc_16.nd)) (fun _ _ _ _ _ => jnoif) (fun _ _ _ _ _ => (jmul (jadd jint (jcall passN (fun _ _ _ _ h => h.elim) (ok_10 T) (hr.mono (by decide)) T.M10 T.F10.kp T.B10 (jac (jv 2) (jac jint jan)))) (jTy call_intX os_int bt_int T.z_int (jac (jne hr.units (jv 13) (jv 4)) jan))))) jan))) (jcons (jslc 6 (own := [("drive", 13)]) sc_16.nd rfl (sw_true rfl rfl rfl (by decide +kernel)) (jbi (jrg1 T.z_range (jac (jv 3) jan))) (blkOk_by (N := N_16) (sc := defScope s_16) (by decide +kernel)) tg_name (by decide) (by decide) (fun h => by cases h) (fun _ _ _ _ _ => (jtgN 13 sc_16.nd)) (fun _ _ _ _ _ => (jif1 (jtne hr.units (jv 13) (jv 4)))) (fun _ _ _ _ _ => (jcp (jv 13)))) (jcons (jkill [6] (jset 7 sc_16.nd (jTy call_tuple_of os_tupOf bt_tuple T.z_tuple (jac (jsl (jv 6) jpo0 (jpo1 (jadd jint (jcall (L2N.passes_call tk (fun _ _ _ _ h => h)) (fun _ _ _ _ h => h) (ok_10 T) (hr.mono (by decide)) T.M10 T.F10.kp T.B10 (jac (jv 2) (jac (jsub (jv 3) jint) jan)))))) jan)))) (jcons (jset 8 sc_16.nd (jadd jint (jcall (L2N.passes_call tk (fun _ _ _ _ h => h)) (fun _ _ _ _ h => h) (ok_10 T) (hr.mono (by decide)) T.M10 T.F10.kp T.B10 (jac (jv 2) (jac (jB (call_minX rfl) os_min bt_min T.z_min (jac (jlc (own := [("drive", 13)]) sc_16.nd (jbi (jseq (jfz (jv 7)))) (blkOk_by (N := N_16) (sc := defScope s_16) (by decide +kernel)) tg_name (by decide) (by decide) (fun h => by cases h) (fun _ _ _ _ _ => (jtgN 13 sc_16.nd)) (fun _ _ _ _ _ => jnoif) (fun _ _ _ _ _ => (jix rfl (jv 5) (jv 13)))) jan)) jan))))) (jcons (jset 9 sc_16.nd (jtup (jac (jfz (jv 4)) (jac (jfz (jv 7)) (jac (jfz (jv 8)) jan))))) (jcons (jkill [2] (jset 10 sc_16.nd (jcall (L2N.passes_call tk (fun _ _ _ _ h => h)) (fun _ _ _ _ h => h) (ok_11 T) (hr.mono (by decide)) T.M11 T.F11.kp T.B11 (jac (jv 2) jan)))) (jcons (jifs (jteqX rfl hr.units (jv 10) (jtup (jac jint (jac jint jan)))) (jone' (jset 10 sc_16.nd (jtup (jac jint (jac jint (jac jstr jan)))))) jnil) (jcons (jset 11 sc_16.nd (jlst (jac (jfz (jv 10)) (jac (jcoP (jTy call_list_of os_list bt_list T.z_list (jac (jv 9) jan))) (jac (jsl (jv 9) jpo0 (jpo1 jint)) (jac (jadd (jv 9) (jtup (jac jint jan))) (jac (jtup (jac (jfz (jv 10)) (jac (jfz (jv 7)) (jac (jfz (jv 8)) jan)))) (jac (jtup (jac (jfz (jv 4)) (jac (jfz (jv 10)) (jac (jfz (jv 8)) jan)))) jan)))))))) (jcons (jset 11 sc_16.nd (jadd (jv 11) (jlst (jac (jtup (jac (jfz (jv 4)) (jac (jcoP (jTy call_list_of os_list bt_list T.z_list (jac (jv 7) jan))) (jac (jfz (jv 8)) jan)))) (jac (jtup (jac (jfz (jv 4)) (jac (jfz (jv 7)) (jac jint jan)))) (jac (jtup (jac (jfz (jv 4)) (jac (jfz (jv 7)) (jac (jsub jint (jv 8)) jan)))) jan)))))) (jcons (jkill [10] (jset 11 sc_16.nd (jadd (jv 11) (jlst (jac (jtup (jac (jfz (jv 4)) (jac (jadd (jtup (jac (jfz (jv 10)) jan)) (jsl (jv 7) (jpo1 jint) jpo0)) (jac (jfz (jv 8)) jan)))) (jac (jtup (jac (jfz (jv 4)) (jac (jadd (jsl (jv 7) jpo0 (jpo1 (jneg jint))) (jtup (jac (jfz (jv 10)) jan))) (jac (jfz (jv 8)) jan)))) jan)))))) (jcons (jset 11 sc_16.nd (jadd (jv 11) (jlst (jac (jtup (jac (jneg jint) (jac (jfz (jv 7)) (jac (jfz (jv 8)) jan)))) (jac (jtup (jac (jfz (jv 4)) (jac (jadd (jtup (jac (jneg jint) jan)) (jv 7)) (jac (jfz (jv 8)) jan)))) (jac (jtup (jac (jfz (jv 4)) (jac (jadd (jv 7) (jtup (jac (jfz (jv 3)) jan))) (jac (jfz (jv 8)) jan)))) jan)))))) (jcons (jset 11 sc_16.nd (jadd (jv 11) (jlst (jac (jtup (jac (jfz (jv 4)) (jac (jfz (jv 7)) (jac (jpow jint jint) jan)))) jan)))) (jcons (jkill [3, 4, 7, 8] (jset 11 sc_16.nd (jadd (jv 11) (jlst (jac (jtup (jac (jmv 3) (jac (jfz (jv 7)) (jac (jfz (jv 8)) jan)))) (jac (jtup (jac (jfz (jv 4)) (jac (jtup jan) (jac (jfz (jv 8)) jan)))) (jac (jtup (jac (jfz (jv 4)) (jac (jfz (jv 7)) (jac jstr jan)))) (jac (jtup (jac (jfz (jv 4)) (jac (jfz (jv 7)) (jac jnon jan)))) jan)))))))) (jcons (jkill [11] (jforX 11 (by decide) (passes_of rfl) (jtgN 12 sc_16.nd) tg_name (jone' (jkill [12] (jifs (jtne hr.units (jcall (L2N.passes_call tk (fun _ _ _ _ h => h)) (fun _ _ _ _ h => h) (ok_15 T) (hr.mono (by decide)) T.M15 T.F15.kp T.B15 (jac (jv 5) (jac (jv 12) jan))) (jlst (jac jint jan))) (jone' (jret jbl)) jnil))))) (jone' (jkill [5, 9] (jifs (jpt (jwor (jtne hr.units (jcall (L2N.passes_call tk (fun _ _ _ _ h => h)) (fun _ _ _ _ h => h) (ok_15 T) (hr.mono (by decide)) T.M15 T.F15.kp T.B15 (jac (jv 5) (jac (jv 9) jan))) (jcall (L2N.passes_call tk (fun _ _ _ _ h => h)) (fun _ _ _ _ h => h) (ok_12 T) (hr.mono (by decide)) T.M12 T.F12.kp T.B12 (jac (jv 5) (jac (jv 9) jan)))) (jwor1 (jtne hr.units (jcall (L2N.passes_call tk (fun _ _ _ _ h => h)) (fun _ _ _ _ h => h) (ok_8 T) (hr.mono (by decide)) T.M8 T.F8.kp T.B8 (jac (jv 5) (jac (jv 9) jan))) (jcall (L2N.passes_call tk (fun _ _ _ _ h => h)) (fun _ _ _ _ h => h) (ok_12 T) (hr.mono (by decide)) T.M12 T.F12.kp T.B12 (jac (jv 5) (jac (jv 9) jan))))))) (jone' (jret jbl)) jnil))))))))))))))))))))) (jone' (jret jbl)))
end
end K59

end
section
set_option maxRecDepth 100000
set_option autoImplicit true
set_option relaxedAutoImplicit true
/-! DL, part 16: the mirrors' equations, as words of simp. -/
namespace DL
open PySem PySem.Spec PyProof.Rows L2
@[simp] theorem ev_rok (a : α) (k : α → R β) : (R.ok a).bind k = k a := id rfl
@[simp] theorem ev_rexc (c : Nat) (fs : List (Str × V)) (k : α → R β) : (R.exc c fs E).bind k = .exc c fs E := id rfl
@[simp] theorem ev_rbad (k : α → R β) : (R.bad).bind k = .bad := id rfl
@[simp] theorem ev_sok (a : α) (k : α → S) : (R.ok a).toS k = k a := id rfl
@[simp] theorem ev_sexc (c : Nat) (fs : List (Str × V)) (k : α → S) : (R.exc c fs E).toS k = .exc c fs E := id rfl
@[simp] theorem ev_sbad (k : α → S) : (R.bad).toS k = .bad := id rfl
@[simp] theorem ev_bnx (k : List D → S) : (S.nx E).bind k = k E := id rfl
@[simp] theorem ev_bbk (k : List D → S) : (S.bk E).bind k = .bk E := id rfl
@[simp] theorem ev_bct (k : List D → S) : (S.ct E).bind k = .ct E := id rfl
@[simp] theorem ev_brt (d : D) (k : List D → S) : (S.rt d E).bind k = .rt d E := id rfl
@[simp] theorem ev_bexc (c : Nat) (fs : List (Str × V)) (k : List D → S) : (S.exc c fs E).bind k = .exc c fs E := id rfl
@[simp] theorem ev_bbad (k : List D → S) : (S.bad).bind k = .bad := by (try simp only [← len_if, ← len_if2, ← rg_if1, ← rg_if2]); exact id rfl
open Classical in
noncomputable def lenOk (n : Nat) : Bool := @decide (n ≤ 100000) (propDecidable _)
theorem lenOk_s {n : Nat} (h : n ≤ 100000) : lenOk n = true := by unfold lenOk; exact @decide_eq_true _ (_) h
@[simp] theorem lenOk_0 : lenOk 0 = true := lenOk_s (by omega)
@[simp] theorem lenOk_1 : lenOk 1 = true := lenOk_s (by omega)
@[simp] theorem lenOk_2 : lenOk 2 = true := lenOk_s (by omega)
@[simp] theorem lenOk_3 : lenOk 3 = true := lenOk_s (by omega)
@[simp] theorem lenOk_4 : lenOk 4 = true := lenOk_s (by omega)
@[simp] theorem lenOk_5 : lenOk 5 = true := lenOk_s (by omega)
theorem len_if {α : Type} {n : Nat} {a b : α} : (if n ≤ 100000 then a else b) = if lenOk n then a else b := by simp [lenOk]
theorem len_dec {n : Nat} : decide (n ≤ 100000) = lenOk n := by simp [lenOk]
theorem len_if2 {α : Type} {n : Nat} {a b : α} : (if n < 100000 then a else b) = if lenOk (n + 1) then a else b := by
  have : (lenOk (n + 1) = true) ↔ n < 100000 := by simp [lenOk]; omega
  simp [this]
open Classical in
noncomputable def rgOk (i j : Int) : Bool := @decide (-(2 ^ 62) ≤ i ∧ i < 2 ^ 62 ∧ -(2 ^ 62) ≤ j ∧ j < 2 ^ 62) (propDecidable _)
theorem rgOk_s {i j : Int} (h1 : -4611686018427387904 ≤ i) (h2 : i < 4611686018427387904) (h3 : -4611686018427387904 ≤ j) (h4 : j < 4611686018427387904) : rgOk i j = true := by unfold rgOk; exact @decide_eq_true _ (_) ⟨h1, h2, h3, h4⟩
open Classical in
noncomputable def rg1Ok (j : Int) : Bool := @decide (-(2 ^ 62) ≤ j ∧ j < 2 ^ 62) (propDecidable _)
theorem rg1Ok_s {j : Int} (h3 : -4611686018427387904 ≤ j) (h4 : j < 4611686018427387904) : rg1Ok j = true := by unfold rg1Ok; exact @decide_eq_true _ (_) ⟨h3, h4⟩
theorem rg_if1 {α : Type} {j : Int} {a b : α} : (if -(2 ^ 62) ≤ j ∧ j < 2 ^ 62 then a else b) = if rg1Ok j then a else b := by simp [rg1Ok]
theorem rg_if2 {α : Type} {i j : Int} {a b : α} : (if -(2 ^ 62) ≤ i ∧ i < 2 ^ 62 ∧ -(2 ^ 62) ≤ j ∧ j < 2 ^ 62 then a else b) = if rgOk i j then a else b := by simp [rgOk]
@[simp] theorem ev_rC (v : V) (E : List D) : rC v E = .ok (.val (.sc v), E) := id rfl
@[simp] theorem ev_dCopy (d : Den) (E : List D) : dCopy d E = (d E).bind fun r => match r.1 with
  | .val c => .ok (.val c, r.2)
  | .plc i p => match getP r.2 i p with
    | some c => if Fz c then .ok (.val c, r.2) else .bad
    | none => .bad := id rfl
@[simp] theorem ev_dFrz (d : Den) (E : List D) : dFrz d E = (d E).bind fun r => match r.1 with
  | .val c => .ok (.val c, r.2)
  | .plc i p => match getP r.2 i p with
    | some c => if Fz c then .ok (.val c, r.2) else .ok (.val (fz c), setP r.2 i p (fz c))
    | none => .bad := id rfl
@[simp] theorem ev_dCold (d : Den) (E : List D) : dCold d E = (d E).bind fun r => match r.1 with
  | .val c => .ok (.val (fz c), r.2)
  | .plc i p => .ok (.plc i p, r.2) := id rfl
@[simp] theorem ev_aNil  (E : List D) : aNil  E = .ok ([], E) := id rfl
@[simp] theorem ev_aCons (pu2 : Bool) (d : Den) (ds : DenA) (E : List D) : aCons pu2 d ds E = (d E).bind fun r => if stab pu2 r.1 then (ds r.2).bind fun q => .ok (r.1 :: q.1, q.2) else .bad := id rfl
@[simp] theorem ev_dOp (F : List D → Option D) (das : DenA) (E : List D) : dOp F das E = (das E).bind fun r => match conts r.2 r.1 with
  | some ds => match F ds with
    | some d => .ok (.val d, r.2)
    | none => .bad
  | none => .bad := id rfl
@[simp] theorem ev_dTup (das : DenA) (E : List D) : dTup das E = (das E).bind fun r => match opVals r.1 with
  | some ds => if lenOk ds.length then .ok (.val (.nd .tup ds), r.2) else .bad
  | none => .bad := by (try simp only [← len_if, ← len_if2, ← rg_if1, ← rg_if2]); exact id rfl
@[simp] theorem ev_dLst (das : DenA) (E : List D) : dLst das E = (das E).bind fun r => match opVals r.1 with
  | some ds => if lenOk ds.length then .ok (.val (.nd (.lst true) ds), r.2) else .bad
  | none => .bad := by (try simp only [← len_if, ← len_if2, ← rg_if1, ← rg_if2]); exact id rfl
@[simp] theorem ev_dCall (F : Fn) (das : DenA) (E : List D) : dCall F das E = (das E).bind (callK F) := id rfl
@[simp] theorem ev_dMeth (c : Nat) (m : Str) (F : Fn) (pu2 : Bool) (d0 : Den) (das : DenA) (E : List D) : dMeth c m F pu2 d0 das E = (d0 E).bind fun r => if isObj c m (cont r.2 r.1) && stab pu2 r.1 then (das r.2).bind fun q => callK F (r.1 :: q.1, q.2) else .bad := id rfl
@[simp] theorem ev_dMake (c : Nat) (F : Fn) (das : DenA) (E : List D) : dMake c F das E = (das E).bind (makeK c F) := id rfl
@[simp] theorem ev_dFld (c : Nat) (f : Str) (d : Den) (E : List D) : dFld c f d E = (d E).bind (fldK c f) := id rfl
@[simp] theorem ev_dIx (pu2 : Bool) (d1 d2 : Den) (E : List D) : dIx pu2 d1 d2 E = (aCons pu2 d1 (aCons true d2 aNil) E).bind ixK := id rfl
@[simp] theorem ev_dTst (d : Den) (E : List D) : dTst d E = (d E).bind fun r => match cont r.2 r.1 with
  | some (.sc (.bl b)) => .ok (b, r.2)
  | _ => .bad := id rfl
@[simp] theorem ev_dTru (d : Den) (E : List D) : dTru d E = (d E).bind fun r => match cont r.2 r.1 with
  | some c => match truD c with
    | some b => .ok (b, r.2)
    | none => .bad
  | none => .bad := id rfl
@[simp] theorem ev_dAnd (a b : DenT) (E : List D) : dAnd a b E = (a E).bind fun r => if r.1 then b r.2 else .ok (false, r.2) := id rfl
@[simp] theorem ev_dOr (a b : DenT) (E : List D) : dOr a b E = (a E).bind fun r => if r.1 then .ok (true, r.2) else b r.2 := id rfl
@[simp] theorem ev_dNot (a : DenT) (E : List D) : dNot a E = (a E).bind fun r => .ok (!r.1, r.2) := id rfl
@[simp] theorem ev_dAndV (a b : Den) (E : List D) : dAndV a b E = (a E).bind fun r => match cont r.2 r.1 with
  | some (.sc (.bl true)) => b r.2
  | some (.sc (.bl false)) => .ok (.val (.sc (.bl false)), r.2)
  | _ => .bad := id rfl
@[simp] theorem ev_dOrV (a b : Den) (E : List D) : dOrV a b E = (a E).bind fun r => match cont r.2 r.1 with
  | some (.sc (.bl false)) => b r.2
  | some (.sc (.bl true)) => .ok (.val (.sc (.bl true)), r.2)
  | _ => .bad := id rfl
@[simp] theorem ev_dNotV (a : Den) (E : List D) : dNotV a E = (a E).bind fun r => match cont r.2 r.1 with
  | some (.sc (.bl b)) => .ok (.val (.sc (.bl (!b))), r.2)
  | _ => .bad := id rfl
@[simp] theorem ev_dIf (t : DenT) (a b : Den) (E : List D) : dIf t a b E = (t E).bind fun r => if r.1 then a r.2 else b r.2 := id rfl
@[simp] theorem ev_dNext  (E : List D) : dNext  E = .nx E := id rfl
@[simp] theorem ev_dSeq (a b : DenS) (E : List D) : dSeq a b E = (a E).bind b := id rfl
@[simp] theorem ev_dDrop (d : Den) (E : List D) : dDrop d E = (d E).toS fun r => .nx r.2 := id rfl
@[simp] theorem ev_dRet (d : Den) (E : List D) : dRet d E = (d E).toS fun r => match r.1 with
  | .val c => .rt c r.2
  | .plc _ _ => .bad := id rfl
@[simp] theorem ev_dRetN  (E : List D) : dRetN  E = .rt (.sc .non) E := id rfl
@[simp] theorem ev_dBrk  (E : List D) : dBrk  E = .bk E := id rfl
@[simp] theorem ev_dCnt  (E : List D) : dCnt  E = .ct E := id rfl
@[simp] theorem ev_dIfS (t : DenT) (a b : DenS) (E : List D) : dIfS t a b E = (t E).toS fun r => if r.1 then a r.2 else b r.2 := id rfl
@[simp] theorem ev_dgName (i : Nat) (d : D) (E : List D) : dgName i d E = if i < E.length then some (E.set i d) else none := id rfl
@[simp] theorem ev_dgTup (is : List Nat) (d : D) (E : List D) : dgTup is d E = match d with
  | .nd .tup ds => setAll E is ds
  | _ => none := id rfl
@[simp] theorem ev_dgLst (is : List Nat) (d : D) (E : List D) : dgLst is d E = match d with
  | .nd (.lst _) ds => setAll E is ds
  | _ => none := id rfl
@[simp] theorem ev_dAsg (d : Den) (dg : DenG) (E : List D) : dAsg d dg E = (d E).toS fun r => match r.1 with
  | .val c => match dg c r.2 with
    | some E' => .nx E'
    | none => .bad
  | .plc _ _ => .bad := id rfl
@[simp] theorem ev_dPar (is : List Nat) (das : DenA) (E : List D) : dPar is das E = (das E).toS fun r => match opVals r.1 with
  | some ds => match setAll r.2 is ds with
    | some E' => .nx E'
    | none => .bad
  | none => .bad := id rfl
@[simp] theorem ev_iSeq (d : Den) (E : List D) : iSeq d E = (d E).bind itK := id rfl
@[simp] theorem ev_dFor (di : DenI) (dg : DenG) (b : DenS) (E : List D) : dFor di dg b E = (di E).toS fun r => loopD dg b r.1 r.2 := id rfl
@[simp] theorem ev_dLstRg1 (d : Den) (E : List D) : dLstRg1 d E = (d E).bind fun r => match cont r.2 r.1 with
  | some (.sc (.int j)) => if 0 ≤ j ∧ j ≤ 100000 then .ok (.val (.nd (.lst true) (rngD 0 j.toNat)), r.2) else .bad
  | _ => .bad := id rfl
@[simp] theorem ev_dLstRg2 (pu2 : Bool) (d1 d2 : Den) (E : List D) : dLstRg2 pu2 d1 d2 E = (aCons pu2 d1 (aCons true d2 aNil) E).bind fun r => match conts r.2 r.1 with
  | some [.sc (.int i), .sc (.int j)] => if 0 ≤ i ∧ i ≤ 100000 ∧ 0 ≤ j ∧ j ≤ 100000 then .ok (.val (.nd (.lst true) (rngD i (j - i).toNat)), r.2) else .bad
  | _ => .bad := id rfl
@[simp] theorem ev_dSetI (p1 p2 : Bool) (d d0 di : Den) (E : List D) : dSetI p1 p2 d d0 di E = (aCons (p1 && (p2 && true)) d (aCons (p2 && true) d0 (aCons true di aNil)) E).toS setIK := id rfl
@[simp] theorem ev_dMut (T : String) (M : MutF) (pu2 : Bool) (d0 : Den) (das : DenA) (E : List D) : dMut T M pu2 d0 das E = (d0 E).bind fun r => if isTy T (cont r.2 r.1) && stab pu2 r.1 then (das r.2).bind fun q => mutK M (r.1, q) else .bad := id rfl
@[simp] theorem ev_dSetF (c : Nat) (f : Str) (p1 : Bool) (d d0 : Den) (E : List D) : dSetF c f p1 d d0 E = (aCons (p1 && true) d (aCons true d0 aNil) E).toS (setFK c f) := id rfl
@[simp] theorem ev_dView (d : Den) (E : List D) : dView d E = match d (fzs E) with
  | .ok r => match r.1 with
    | .val (.sc v) => .ok (.val (.sc v), E)
    | _ => .bad
  | _ => .bad := id rfl
@[simp] theorem ev_iBor (d : Den) (E : List D) : iBor d E = (d E).bind fun r => match r.1 with
  | .plc i p => match getP r.2 i p with
    | some (.nd k ds) => if k.isLst && ds.all Fz then .ok (ds, r.2) else .bad
    | _ => .bad
  | .val _ => .bad := id rfl
@[simp] theorem ev_dComp (di : DenI) (dg : DenG) (dt : DenT) (de : Den) (ws : List Nat) (E : List D) : dComp di dg dt de ws E = (di E).bind fun r => match conts r.2 (wp ws) with
  | some old => (compL dg dt de ws r.1 (holes r.2 (wp ws)) []).bind fun q => .ok (.val (.nd (.lst true) q.1), back q.2 (wp ws) old)
  | none => .bad := id rfl
@[simp] theorem ev_dYes  (E : List D) : dYes  E = .ok (true, E) := id rfl
@[simp] theorem ev_pNo  (E : List D) : pNo  E = .ok (none, E) := id rfl
@[simp] theorem ev_pAt (d : Den) (E : List D) : pAt d E = (d E).bind fun r => match r.1 with
  | .val (.sc (.int i)) => .ok (some i, r.2)
  | _ => .bad := id rfl
@[simp] theorem ev_dSl (pu : Bool) (d : Den) (lo hi : DenP) (E : List D) : dSl pu d lo hi E = (d E).bind fun r => if stab pu r.1 then (lo r.2).bind fun p => (hi p.2).bind fun q => match cont q.2 r.1 with
    | some x => match fSl x p.1 q.1 with
      | some d => .ok (.val d, q.2)
      | none => .bad
    | none => .bad
  else .bad := id rfl
@[simp] theorem ev_dChain (F1 F2 : List D → Option D) (pu2 pu3 : Bool) (d1 d2 d3 : Den) (E : List D) : dChain F1 F2 pu2 pu3 d1 d2 d3 E = (d1 E).bind fun r1 => if stab pu2 r1.1 then (d2 r1.2).bind fun r2 => match conts r2.2 [r1.1, r2.1] with
    | some ds => match F1 ds with
      | some (.sc (.bl true)) => if stab pu3 r2.1 then (d3 r2.2).bind fun r3 => match conts r3.2 [r2.1, r3.1] with
          | some es => match F2 es with
            | some c => .ok (.val c, r3.2)
            | none => .bad
          | none => .bad
        else .bad
      | some (.sc (.bl false)) => .ok (.val (.sc (.bl false)), r2.2)
      | _ => .bad
    | none => .bad
  else .bad := id rfl
@[simp] theorem ev_dRaise (c : Nat) (E : List D) : dRaise c E = .exc c [] E := id rfl
@[simp] theorem ev_Kd_mut_1 : Kd.mut  (.tup) = (false) := by first | exact id rfl | simp [Kd.mut]
@[simp] theorem ev_Kd_mut_2 : Kd.mut  (.lst m) = (m) := by first | exact id rfl | simp [Kd.mut]
@[simp] theorem ev_Kd_mut_3 : Kd.mut  (.dik m u1) = (m) := by first | exact id rfl | simp [Kd.mut]
@[simp] theorem ev_Kd_mut_4 : Kd.mut  (.dit m u1) = (m) := by first | exact id rfl | simp [Kd.mut]
@[simp] theorem ev_Kd_mut_5 : Kd.mut  (.obj m u1 u2) = (m) := by first | exact id rfl | simp [Kd.mut]
@[simp] theorem ev_Kd_fz_1 : Kd.fz  (.tup) = (.tup) := by first | exact id rfl | simp [Kd.fz]
@[simp] theorem ev_Kd_fz_2 : Kd.fz  (.lst u1) = (.lst false) := by first | exact id rfl | simp [Kd.fz]
@[simp] theorem ev_Kd_fz_3 : Kd.fz  (.dik u1 ks) = (.dik false ks) := by first | exact id rfl | simp [Kd.fz]
@[simp] theorem ev_Kd_fz_4 : Kd.fz  (.dit u1 ks) = (.dit false ks) := by first | exact id rfl | simp [Kd.fz]
@[simp] theorem ev_Kd_fz_5 : Kd.fz  (.obj u1 c ns) = (.obj false c ns) := by first | exact id rfl | simp [Kd.fz]
@[simp] theorem ev_fz_1 : fz  (.una) = (.una) := by first | exact id rfl | simp [fz]
@[simp] theorem ev_fz_2 : fz  (.sc v) = (.sc v) := by first | exact id rfl | simp [fz]
@[simp] theorem ev_fz_3 : fz  (.nd k ds) = (.nd k.fz (fzs ds)) := by first | exact id rfl | simp [fz]
@[simp] theorem ev_fz_4 : fz  (.kl xs) = (.kl xs) := by first | exact id rfl | simp [fz]
@[simp] theorem ev_fzs_1 : fzs  ([]) = ([]) := by first | exact id rfl | simp [fzs]
@[simp] theorem ev_fzs_2 : fzs  (d :: ds) = (fz d :: fzs ds) := by first | exact id rfl | simp [fzs]
@[simp] theorem ev_Fz_1 : Fz  (.una) = (false) := by first | exact id rfl | simp [Fz]
@[simp] theorem ev_Fz_2 : Fz  (.sc u1) = (true) := by first | exact id rfl | simp [Fz]
@[simp] theorem ev_Fz_3 : Fz  (.nd k ds) = (!k.mut && Fzs ds) := by first | exact id rfl | simp [Fz]
@[simp] theorem ev_Fz_4 : Fz  (.kl u1) = (true) := by first | exact id rfl | simp [Fz]
@[simp] theorem ev_Fzs_1 : Fzs  ([]) = (true) := by first | exact id rfl | simp [Fzs]
@[simp] theorem ev_Fzs_2 : Fzs  (d :: ds) = (Fz d && Fzs ds) := by first | exact id rfl | simp [Fzs]
@[simp] theorem ev_getP_1 : getP  (ds) (i) ([]) = (ds[i]?) := by first | exact id rfl | simp [getP]
@[simp] theorem ev_getP_2 : getP  (ds) (i) (j :: p) = (match ds[i]? with
    | some (.nd _ es) => getP es j p
    | _ => none) := by first | exact id rfl | simp [getP]
@[simp] theorem ev_setP_1 : setP  (ds) (i) ([]) (d) = (ds.set i d) := by first | exact id rfl | simp [setP]
@[simp] theorem ev_setP_2 : setP  (ds) (i) (j :: p) (d) = (match ds[i]? with
    | some (.nd k es) => ds.set i (.nd k (setP es j p d))
    | _ => ds) := by first | exact id rfl | simp [setP]
@[simp] theorem ev_cont_1 (E : List D) : cont E (.val d) = (some d) := by first | exact id rfl | simp [cont]
@[simp] theorem ev_cont_2 (E : List D) : cont E (.plc i p) = (getP E i p) := by first | exact id rfl | simp [cont]
@[simp] theorem ev_conts_1 (E : List D) : conts E ([]) = (some []) := by first | exact id rfl | simp [conts]
@[simp] theorem ev_conts_2 (E : List D) : conts E (o :: oz) = (match cont E o, conts E oz with
    | some d, some ds => some (d :: ds)
    | _, _ => none) := by first | exact id rfl | simp [conts]
@[simp] theorem ev_stab_1 (pu : Bool) : stab pu (.val u1) = (true) := by first | exact id rfl | simp [stab]
@[simp] theorem ev_stab_2 (pu : Bool) : stab pu (.plc u1 []) = (true) := by first | exact id rfl | simp [stab]
@[simp] theorem ev_opVals_1 : opVals  ([]) = (some []) := by first | exact id rfl | simp [opVals]
@[simp] theorem ev_opVals_2 : opVals  (.val d :: oz) = (match opVals oz with
    | some ds => some (d :: ds)
    | none => none) := by first | exact id rfl | simp [opVals]
@[simp] theorem ev_opVals_3 : opVals  (.plc u1 u2 :: u3) = (none) := by first | exact id rfl | simp [opVals]
@[simp] theorem ev_lendOk_1 : lendOk  ([]) (u1) = (true) := by first | exact id rfl | simp [lendOk]
@[simp] theorem ev_lendOk_2 : lendOk  (.val u1 :: oz) (acc) = (lendOk oz acc) := by first | exact id rfl | simp [lendOk]
@[simp] theorem ev_lendOk_3 : lendOk  (.plc i [] :: oz) (acc) = (!acc.contains i && lendOk oz (i :: acc)) := by first | exact id rfl | simp [lendOk]
@[simp] theorem ev_lendOk_4 : lendOk  (.plc u1 (u2 :: u3) :: u4) (u5) = (false) := by first | exact id rfl | simp [lendOk]
@[simp] theorem ev_back_1 : back  (E) (.plc i u1 :: oz) (d :: ds) = ((back E oz ds).set i d) := by first | exact id rfl | simp [back]
@[simp] theorem ev_back_2 : back  (E) (.val u1 :: oz) (u2 :: ds) = (back E oz ds) := by first | exact id rfl | simp [back]
@[simp] theorem ev_holes_1 : holes  (E) (.plc i u1 :: oz) = ((holes E oz).set i .una) := by first | exact id rfl | simp [holes]
@[simp] theorem ev_holes_2 : holes  (E) (.val u1 :: oz) = (holes E oz) := by first | exact id rfl | simp [holes]
@[simp] theorem ev_holes_3 : holes  (E) ([]) = (E) := by first | exact id rfl | simp [holes]
@[simp] theorem ev_isUna_1 : isUna  (.una) = (true) := by first | exact id rfl | simp [isUna]
@[simp] theorem ev_lendP_1 : lendP ([]) (u1) = (true) := id rfl
@[simp] theorem ev_lendP_2 : lendP (.val u1 :: oz) (acc) = (lendP oz acc) := id rfl
@[simp] theorem ev_lendP_3 : lendP (.plc i p :: oz) (acc) = (!acc.contains i && lendP oz (i :: acc)) := id rfl
@[simp] theorem ev_backP_1 : backP (E) (.plc i p :: oz) (d :: ds) = (setP (backP E oz ds) i p d) := id rfl
@[simp] theorem ev_backP_2 : backP (E) (.val u1 :: oz) (u2 :: ds) = (backP E oz ds) := id rfl
@[simp] theorem ev_backP_3 : backP E [] ds = E := by cases ds <;> rfl
@[simp] theorem ev_holesP_1 : holesP (E) (.plc i p :: oz) = (setP (holesP E oz) i p .una) := id rfl
@[simp] theorem ev_holesP_2 : holesP (E) (.val u1 :: oz) = (holesP E oz) := id rfl
@[simp] theorem ev_holesP_3 : holesP (E) ([]) = (E) := id rfl
@[simp] theorem ev_callK (F : Fn) (r : List Opd × List D) : callK F r = match conts r.2 r.1 with
  | some ds => if lendP r.1 [] && !ds.any isUna then (match F ds with
    | .ok q => .ok (.val q.1, backP (holesP r.2 r.1) r.1 q.2)
    | .exc c fs ds' => .exc c fs (backP (holesP r.2 r.1) r.1 ds')
    | .bad => .bad) else .bad
  | none => .bad := id rfl
@[simp] theorem ev_isObj_1 (c : Nat) (m : Str) : isObj c m (some (.nd (.obj u1 c' ns) ds)) = (c' == c && !ns.contains m && ns.length == ds.length) := by first | exact id rfl | simp [isObj]
@[simp] theorem ev_makeK (c : Nat) (F : Fn) (r : List Opd × List D) : makeK c F r = match conts r.2 r.1 with
  | some ds => if lendOk r.1 [] && !ds.any isUna then (match F (.nd (.obj true c []) [] :: ds) with
    | .ok (.sc .non, o :: ds') => .ok (.val o, back r.2 r.1 ds')
    | .exc c fs (_ :: ds') => .exc c fs (back r.2 r.1 ds')
    | _ => .bad) else .bad
  | none => .bad := id rfl
@[simp] theorem ev_child (o : Opd) (j : Nat) (c : D) : child o j c = if Fz c then .ok (.val c) else match o with
  | .plc i p => .ok (.plc i (p ++ [j]))
  | .val _ => .bad := id rfl
@[simp] theorem ev_ixOf_1 (f : Str) : ixOf f ([]) = (none) := by first | exact id rfl | simp [ixOf]
@[simp] theorem ev_ixOf_2 (f : Str) : ixOf f (n :: ns) = (if f == n then some 0 else (ixOf f ns).map (· + 1)) := by first | exact id rfl | simp [ixOf]
@[simp] theorem ev_fldK (c : Nat) (f : Str) (r : Opd × List D) : fldK c f r = match cont r.2 r.1 with
  | some (.nd (.obj _ c' ns) ds) => if c' = c then (match ixOf f ns with
    | some j => match ds[j]? with
      | some d => (child r.1 j d).bind fun o => .ok (o, r.2)
      | none => .bad
    | none => .bad) else .bad
  | _ => .bad := id rfl
@[simp] theorem ev_Kd_seq_1 : Kd.seq  (.tup) = (true) := by first | exact id rfl | simp [Kd.seq]
@[simp] theorem ev_Kd_seq_2 : Kd.seq  (.lst u1) = (true) := by first | exact id rfl | simp [Kd.seq]
@[simp] theorem ev_ixK (r : List Opd × List D) : ixK r = match r.1 with
  | [o, q] => match cont r.2 o, cont r.2 q with
    | some (.nd k ds), some (.sc (.int i)) => if k.seq then (match ixN ds.length i with
      | some j => match ds[j]? with
        | some d => (child o j d).bind fun o => .ok (o, r.2)
        | none => .bad
      | none => .bad) else .bad
    | some (.kl xs), some (.sc (.int i)) => match atI xs i with
      | some n => .ok (.val (.sc (.int n)), r.2)
      | none => .bad
    | some (.sc (.str z)), some (.sc (.int i)) => if lenOk z.length then (match atI z.cps.toList i with
      | some c => .ok (.val (.sc (.str ⟨#[c]⟩)), r.2)
      | none => .bad) else .bad
    | _, _ => .bad
  | _ => .bad := by (try simp only [← len_if, ← len_if2, ← rg_if1, ← rg_if2]); exact id rfl
@[simp] theorem ev_truD_1 : truD  (.sc .non) = (some false) := by first | exact id rfl | simp [truD]
@[simp] theorem ev_truD_2 : truD  (.sc (.bl b)) = (some b) := by first | exact id rfl | simp [truD]
@[simp] theorem ev_truD_3 : truD  (.sc (.int i)) = (some (i != 0)) := by first | exact id rfl | simp [truD]
@[simp] theorem ev_truD_4 : truD  (.sc (.str z)) = (if lenOk z.length then some ((z.length : Int) != 0) else none) := by first | exact id rfl | ((try simp only [← len_if, ← len_if2]); exact id rfl) | (simp only [← len_dec]; exact id rfl) | simp [truD]
@[simp] theorem ev_truD_5 : truD  (.nd (.dik u1 ks) u2) = (some (!ks.isEmpty)) := by first | exact id rfl | simp [truD]
@[simp] theorem ev_setAll_1 : setAll  (E) ([]) ([]) = (some E) := by first | exact id rfl | simp [setAll]
@[simp] theorem ev_setAll_2 : setAll  (E) (i :: is) (d :: ds) = (if i < E.length then setAll (E.set i d) is ds else none) := by first | exact id rfl | simp [setAll]
@[simp] theorem ev_itK (r : Opd × List D) : itK r = match r.1 with
  | .val (.nd k ds) => if k.seq then .ok (fzs ds, r.2) else .bad
  | .val (.sc (.str z)) => .ok (z.cps.toList.map fun c => .sc (.str ⟨#[c]⟩), r.2)
  | _ => .bad := id rfl
@[simp] theorem ev_retArgs_1 (A : List Nat) : retArgs A (u1) ([]) (u2) = (some []) := by first | exact id rfl | simp [retArgs]
@[simp] theorem ev_retArgs_2 (A : List Nat) : retArgs A (i) (d :: ds) (e :: es) = (match retArgs A (i + 1) ds es with
    | some r => if A.contains i then (if Fz d then some (d :: r) else none) else some (e :: r)
    | none => none) := by first | exact id rfl | simp [retArgs]
@[simp] theorem ev_retArgs_3 (A : List Nat) : retArgs A (u1) (u2 :: u3) ([]) = (none) := by first | exact id rfl | simp [retArgs]
@[simp] theorem ev_fI2_1 (g : Int → Int → V) : fI2 g ([.sc (.int i), .sc (.int j)]) = (some (.sc (g i j))) := by first | exact id rfl | simp [fI2]
@[simp] theorem ev_fI2c_1 (C : Int → Int → Bool) (g : Int → Int → V) : fI2c C g ([.sc (.int i), .sc (.int j)]) = (if C i j then some (.sc (g i j)) else none) := by first | exact id rfl | simp [fI2c]
@[simp] theorem ev_fAdd_1 : fAdd  ([.sc (.int i), .sc (.int j)]) = (some (.sc (.int (i + j)))) := by first | exact id rfl | simp [fAdd]
@[simp] theorem ev_fAdd_2 : fAdd  ([.sc (.str x), .sc (.str y)]) = (if lenOk (x.length + y.length) then some (.sc (.str (x ++ y))) else none) := by first | exact id rfl | ((try simp only [← len_if, ← len_if2]); exact id rfl) | (simp only [← len_dec]; exact id rfl) | simp [fAdd]
@[simp] theorem ev_fAdd_3 : fAdd  ([.nd (.lst u1) xs, .nd (.lst u2) ys]) = (if Fzs xs && Fzs ys && lenOk (xs.length + ys.length) then some (.nd (.lst true) (xs ++ ys)) else none) := by first | exact id rfl | ((try simp only [← len_if, ← len_if2]); exact id rfl) | (simp only [← len_dec]; exact id rfl) | simp [fAdd]
@[simp] theorem ev_fAdd_4 : fAdd  ([.nd .tup xs, .nd .tup ys]) = (if Fzs xs && Fzs ys && lenOk (xs.length + ys.length) then some (.nd .tup (xs ++ ys)) else none) := by first | exact id rfl | ((try simp only [← len_if, ← len_if2]); exact id rfl) | (simp only [← len_dec]; exact id rfl) | simp [fAdd]
@[simp] theorem ev_fNeg_1 : fNeg  ([.sc (.int i)]) = (some (.sc (.int (-i)))) := by first | exact id rfl | simp [fNeg]
@[simp] theorem ev_fCmp_1 (g : Int → Int → Bool) (h : List Nat → List Nat → Bool) : fCmp g h ([.sc (.int i), .sc (.int j)]) = (some (.sc (.bl (g i j)))) := by first | exact id rfl | simp [fCmp]
@[simp] theorem ev_fCmp_2 (g : Int → Int → Bool) (h : List Nat → List Nat → Bool) : fCmp g h ([.sc (.str i), .sc (.str j)]) = (some (.sc (.bl (h i.cps.toList j.cps.toList)))) := by first | exact id rfl | simp [fCmp]
@[simp] theorem ev_isNonD_1 : isNonD  (.kl u1) = (some false) := by first | exact id rfl | simp [isNonD]
@[simp] theorem ev_isNonD_2 : isNonD  (.una) = (none) := by first | exact id rfl | simp [isNonD]
@[simp] theorem ev_isNonD_3 : isNonD  (.sc v) = (some (decide (v = .non))) := by first | exact id rfl | simp [isNonD]
@[simp] theorem ev_isNonD_4 : isNonD  (.nd u1 u2) = (some false) := by first | exact id rfl | simp [isNonD]
@[simp] theorem ev_fIsN_1 : fIsN  ([x, .sc .non]) = ((isNonD x).map fun b => .sc (.bl b)) := by first | exact id rfl | simp [fIsN]
@[simp] theorem ev_fNotN_1 : fNotN  ([x, .sc .non]) = ((isNonD x).map fun b => .sc (.bl (!b))) := by first | exact id rfl | simp [fNotN]
@[simp] theorem ev_flatD_1 : flatD  (.sc v) = (flatV v) := by first | exact id rfl | simp [flatD]
@[simp] theorem ev_inD_1 (x : V) : inD x ([]) = (false) := by first | exact id rfl | simp [inD]
@[simp] theorem ev_inD_2 (x : V) : inD x (.sc y :: ds) = (eqV y x || inD x ds) := by first | exact id rfl | simp [inD]
@[simp] theorem ev_fIn_1 (neg : Bool) : fIn neg ([.sc (.str x), .sc (.str z)]) = (match x.cps.toList with
    | [c] => some (.sc (.bl (if neg then !decide (c ∈ z.cps.toList) else decide (c ∈ z.cps.toList))))
    | _ => none) := by first | exact id rfl | simp [fIn]
@[simp] theorem ev_fIn_2 (neg : Bool) : fIn neg ([.sc x, .nd k ds]) = (if k.seq && flatV x && ds.all flatD then some (.sc (.bl (if neg then !inD x ds else inD x ds))) else none) := by first | exact id rfl | simp [fIn]
@[simp] theorem ev_fLen_1 : fLen  ([.sc (.str z)]) = (if lenOk z.length then some (.sc (.int (z.length : Nat))) else none) := by first | exact id rfl | ((try simp only [← len_if, ← len_if2]); exact id rfl) | (simp only [← len_dec]; exact id rfl) | simp [fLen]
@[simp] theorem ev_fLen_2 : fLen  ([.nd k ds]) = (if k.seq then some (.sc (.int (ds.length : Nat))) else none) := by first | exact id rfl | simp [fLen]
@[simp] theorem ev_fLen_3 : fLen  ([.kl xs]) = (some (.sc (.int (xs.length : Nat)))) := by first | exact id rfl | simp [fLen]
@[simp] theorem ev_fList_1 : fList  ([.nd k ds]) = (if k.seq && Fzs ds then some (.nd (.lst true) ds) else none) := by first | exact id rfl | simp [fList]
@[simp] theorem ev_fTup_1 : fTup  ([.nd k ds]) = (if k.seq && Fzs ds then some (.nd .tup ds) else none) := by first | exact id rfl | simp [fTup]
@[simp] theorem ev_intsD_1 : intsD  ([]) = (some []) := by first | exact id rfl | simp [intsD]
@[simp] theorem ev_intsD_2 : intsD  (.sc (.int i) :: ds) = ((intsD ds).map (i :: ·)) := by first | exact id rfl | simp [intsD]
@[simp] theorem ev_boolsD_1 : boolsD  ([]) = (some []) := by first | exact id rfl | simp [boolsD]
@[simp] theorem ev_boolsD_2 : boolsD  (.sc (.bl i) :: ds) = ((boolsD ds).map (i :: ·)) := by first | exact id rfl | simp [boolsD]
@[simp] theorem ev_Kd_isLst_1 : Kd.isLst  (.lst u1) = (true) := by first | exact id rfl | simp [Kd.isLst]
@[simp] theorem ev_fSum_1 : fSum  ([.nd k ds]) = (if k.isLst then (intsD ds).map fun ns => .sc (.int ns.sum) else none) := by first | exact id rfl | simp [fSum]
@[simp] theorem ev_fAll_1 : fAll  ([.nd k ds]) = (if k.isLst then (boolsD ds).map fun ns => .sc (.bl (ns.all id)) else none) := by first | exact id rfl | simp [fAll]
@[simp] theorem ev_fAny_1 : fAny  ([.nd k ds]) = (if k.isLst then (boolsD ds).map fun ns => .sc (.bl (ns.any id)) else none) := by first | exact id rfl | simp [fAny]
@[simp] theorem ev_fMax_1 : fMax  ([.sc (.int i), .sc (.int j)]) = (some (.sc (.int (if j > i then j else i)))) := by first | exact id rfl | simp [fMax]
@[simp] theorem ev_fMax_2 : fMax  ([.nd k ds]) = (if k.isLst && !ds.isEmpty then (intsD ds).map fun ns => .sc (.int (maxL ns)) else none) := by first | exact id rfl | simp [fMax]
@[simp] theorem ev_fMin_1 : fMin  ([.sc (.int i), .sc (.int j)]) = (some (.sc (.int (if j < i then j else i)))) := by first | exact id rfl | simp [fMin]
@[simp] theorem ev_fMin_2 : fMin  ([.nd k ds]) = (if k.isLst && !ds.isEmpty then (intsD ds).map fun ns => .sc (.int (minL ns)) else none) := by first | exact id rfl | simp [fMin]
@[simp] theorem ev_fAbs_1 : fAbs  ([.sc (.int i)]) = (some (.sc (.int (if i < 0 then -i else i)))) := by first | exact id rfl | simp [fAbs]
@[simp] theorem ev_fInt_1 : fInt  ([.sc (.int i)]) = (some (.sc (.int i))) := by first | exact id rfl | simp [fInt]
@[simp] theorem ev_fInt_2 : fInt  ([.sc (.bl k)]) = (some (.sc (.int (if k then 1 else 0)))) := by first | exact id rfl | simp [fInt]
@[simp] theorem ev_fInt_3 : fInt  ([.sc (.str a)]) = (if a.length ≤ 640 then (PySem.intText? a).map fun n => .sc (.int n) else none) := by first | exact id rfl | simp [fInt]
@[simp] theorem ev_fStr_1 : fStr  ([.sc (.int i)]) = (if i.natAbs.log2 < 1920 then some (.sc (.str (toString i))) else none) := by first | exact id rfl | simp [fStr]
@[simp] theorem ev_tyD_1 : tyD  (.una) = (none) := by first | exact id rfl | simp [tyD]
@[simp] theorem ev_tyD_2 : tyD  (.kl u1) = (none) := by first | exact id rfl | simp [tyD]
@[simp] theorem ev_tyD_3 : tyD  (.sc v) = (match v with
    | .non => some "NoneType"
    | .bl _ => some "bool"
    | .int _ => some "int"
    | .str _ => some "str"
    | _ => none) := by first | exact id rfl | simp [tyD]
@[simp] theorem ev_tyD_4 : tyD  (.nd k u1) = (match k with
    | .tup => some "tuple"
    | .lst _ => some "list"
    | .dik _ _ => some "dict"
    | .dit _ _ => some "dict"
    | .obj _ _ _ => none) := by first | exact id rfl | simp [tyD]
@[simp] theorem ev_isiD (n m : String) : isiD n m = if isiTy m then some (n == m || (n == "bool" && m == "int")) else none := id rfl
@[simp] theorem ev_fIsi_1 : fIsi  ([x, .sc (.ty m)]) = (match tyD x with
    | some n => (isiD n m).map fun b => .sc (.bl b)
    | none => none) := by first | exact id rfl | simp [fIsi]
@[simp] theorem ev_setIK (r : List Opd × List D) : setIK r = match r.1 with
  | [.val c, .plc i p, q] => match getP r.2 i p, cont r.2 q with
    | some (.nd (.lst true) ds), some (.sc (.int j)) => match ixN ds.length j with
      | some n => .nx (setP r.2 i p (.nd (.lst true) (ds.set n c)))
      | none => .bad
    | _, _ => .bad
  | _ => .bad := id rfl
@[simp] theorem ev_isTy_1 (T : String) : isTy T (some (.nd (.lst u1) u2)) = (T == "list") := by first | exact id rfl | simp [isTy]
@[simp] theorem ev_isTy_2 (T : String) : isTy T (some (.nd (.dik u1 u2) u3)) = (T == "dict") := by first | exact id rfl | simp [isTy]
@[simp] theorem ev_isTy_3 (T : String) : isTy T (some (.nd (.dit u1 u2) u3)) = (T == "dict") := by first | exact id rfl | simp [isTy]
@[simp] theorem ev_setFK (c : Nat) (f : Str) (r : List Opd × List D) : setFK c f r = match r.1 with
  | [.val x, .plc i p] => match getP r.2 i p with
    | some (.nd (.obj true c' ns) ds) => if c' = c ∧ ns.length < 500 then .nx (setP r.2 i p (.nd (.obj true c (putN f ns)) (putDs f x ns ds))) else .bad
    | _ => .bad
  | _ => .bad := id rfl
@[simp] theorem gx0 {α : Type} (a : α) (l : List α) : (a :: l)[0]? = some a := id rfl
@[simp] theorem gxs {α : Type} (a : α) (l : List α) (n : Nat) : (a :: l)[n + 1]? = l[n]? := id rfl
@[simp] theorem ev_fSumX_l (m : Bool) (ds : List D) : fSumX [.nd (.lst m) ds] = (intsD ds).map fun ns => .sc (.int ns.sum) := id rfl
@[simp] theorem ev_fSumX_t (ds : List D) : fSumX [.nd .tup ds] = (intsD ds).map fun ns => .sc (.int ns.sum) := id rfl
@[simp] theorem ev_fSl_l (m : Bool) (ds : List D) (lo hi : Option Int) : fSl (.nd (.lst m) ds) lo hi = if Fzs ds then some (.nd (.lst true) (cutD ds lo hi)) else none := id rfl
@[simp] theorem ev_fSl_t (ds : List D) (lo hi : Option Int) : fSl (.nd .tup ds) lo hi = if Fzs ds then some (.nd .tup (cutD ds lo hi)) else none := id rfl
@[simp] theorem ev_fMinL (m : Bool) (ds : List D) : fMin [.nd (.lst m) ds] = if ds.isEmpty then none else (intsD ds).map fun ns => .sc (.int (minL ns)) := by cases ds <;> rfl
@[simp] theorem ev_fMaxL (m : Bool) (ds : List D) : fMax [.nd (.lst m) ds] = if ds.isEmpty then none else (intsD ds).map fun ns => .sc (.int (maxL ns)) := by cases ds <;> rfl
open Classical in
noncomputable def insOk (n : Nat) (i : Int) : Bool := @decide (n < 100000 ∧ 0 ≤ i ∧ i ≤ 100000) (propDecidable _)
theorem insOk_s {n : Nat} {i : Int} (h : n < 100000) (h1 : 0 ≤ i) (h2 : i ≤ 100000) : insOk n i = true := by unfold insOk; exact @decide_eq_true _ (_) ⟨h, h1, h2⟩
@[simp] theorem ev_mInsert (ds : List D) (i : Int) (c : D) : mInsert (.lst true) ds [.sc (.int i), c] = if insOk ds.length i then some (.sc .non, .lst true, ds.take i.toNat ++ [c] ++ ds.drop i.toNat) else none := by simp [mInsert, insOk]
@[simp] theorem ev_mAppend (ds : List D) (c : D) : mAppend (.lst true) ds [c] = if lenOk (ds.length + 1) then some (.sc .non, .lst true, ds ++ [c]) else none := by
  have : (lenOk (ds.length + 1) = true) ↔ ds.length < 100000 := by simp [lenOk]; omega
  simp [mAppend, this]
@[simp] theorem ev_mut_l (m : Bool) : Kd.mut (.lst m) = m := id rfl
@[simp] theorem ev_fRevL (m : Bool) (ds : List D) : fRevL [.nd (.lst m) ds] = if Fzs ds then some (.nd (.lst true) ds.reverse) else none := id rfl
@[simp] theorem ev_rName (i : Nat) (E : List D) : rName i E = match E[i]? with
  | some d => if isUna d then .bad else .ok (.plc i [], E)
  | none => .bad := by
  unfold rName
  cases E[i]? with
  | none => rfl
  | some d => cases d <;> rfl
@[simp] theorem ev_dMove (i : Nat) (E : List D) : dMove i E = match E[i]? with
  | some d => if isUna d then .bad else .ok (.val d, E.set i .una)
  | none => .bad := by
  unfold dMove
  cases E[i]? with
  | none => rfl
  | some d => cases d <;> rfl
@[simp] theorem ev_una_e : isUna .lent = false := id rfl
@[simp] theorem ev_dForB (i : Nat) (dg : DenG) (b : DenS) (E : List D) : dForB i dg b E = match E[i]? with
  | some (.nd (.lst true) ds) => if ds.all Fz then putB i (.nd (.lst true) ds) (loopD dg b ds (E.set i .lent)) else .bad
  | _ => .bad := id rfl
@[simp] theorem ev_putB_nx (i : Nat) (d : D) (E : List D) : putB i d (.nx E) = match E[i]? with
  | some .lent => .nx (E.set i d)
  | _ => .bad := id rfl
@[simp] theorem ev_putB_rt (i : Nat) (d c : D) (E : List D) : putB i d (.rt c E) = .rt c E := id rfl
@[simp] theorem ev_putB_ex (i : Nat) (d : D) (c : Nat) (fs : List (Str × V)) (E : List D) : putB i d (.exc c fs E) = .exc c fs E := id rfl
@[simp] theorem ev_una_u : isUna .una = true := id rfl
@[simp] theorem ev_una_s (v : V) : isUna (.sc v) = false := id rfl
@[simp] theorem ev_una_n (k : Kd) (ds : List D) : isUna (.nd k ds) = false := id rfl
@[simp] theorem ev_una_k (xs : List Int) : isUna (.kl xs) = false := id rfl
@[simp] theorem isiTy_int : isiTy "int" = true := by decide
@[simp] theorem isiTy_bool : isiTy "bool" = true := by decide
@[simp] theorem isiTy_str : isiTy "str" = true := by decide
@[simp] theorem isiTy_tuple : isiTy "tuple" = true := by decide
@[simp] theorem isiTy_list : isiTy "list" = true := by decide
@[simp] theorem isiTy_dict : isiTy "dict" = true := by decide
@[simp] theorem ev_noX_ok {α : Type} (a : α) : noX (R.ok a) = R.ok a := id rfl
@[simp] theorem ev_stab_t (o : Opd) : stab true o = true := by cases o with | val d => rfl | plc i p => cases p <;> rfl
@[simp] theorem ev_stab_3 (pu : Bool) : stab pu (.plc i (j :: p)) = pu := id rfl
@[simp] theorem ev_back_3 : back E [] ds = E := by unfold back; rfl
@[simp] theorem ev_truD_6 : truD (.nd .tup ds) = some (!ds.isEmpty) := id rfl
@[simp] theorem ev_truD_7 : truD (.nd (.lst m) ds) = some (!ds.isEmpty) := id rfl
@[simp] theorem ev_mutK (M : MutF) (r : Opd × (List Opd × List D)) : mutK M r = match r.1 with
  | .plc i p => match getP r.2.2 i p, opVals r.2.1 with
    | some (.nd k ds), some as => if k.mut then (match M k ds as with
      | some (res, k', ds') => .ok (.val res, setP r.2.2 i p (.nd k' ds'))
      | none => .bad) else .bad
    | _, _ => .bad
  | .val _ => .bad := id rfl
@[simp] theorem ev_fSub (i j : Int) : fSub [.sc (.int i), .sc (.int j)] = some (.sc (.int (i - j))) := id rfl
open Classical in
noncomputable def repOk (l : Nat) (n : Int) : Bool := @decide (-1000000 ≤ n ∧ n ≤ 1000000 ∧ l * n.toNat ≤ 100000) (propDecidable _)
theorem repOk_s {n : Int} (h1 : -1000000 ≤ n) (h2 : n ≤ 100000) : repOk 1 n = true := by unfold repOk; exact @decide_eq_true _ (_) ⟨h1, by omega, by omega⟩
@[simp] theorem ev_fMul_2 (m : Bool) (xs : List D) (n : Int) : fMul [.nd (.lst m) xs, .sc (.int n)] = if Fzs xs && repOk xs.length n then some (.nd (.lst true) (List.replicate n.toNat xs).flatten) else none := by simp [fMul, repOk]
theorem log_b {i : Int} {k : Nat} (h1 : -(2 : Int) ^ k < i) (h2 : i < 2 ^ k) : i.natAbs.log2 ≤ k := by
  by_cases z : i.natAbs = 0
  · rw [z]; simp
  · have : i.natAbs.log2 < k := by
      rw [Nat.log2_lt z]
      have e : ((2 ^ k : Nat) : Int) = (2 : Int) ^ k := by simp
      rw [← e] at h1 h2
      omega
    omega
open Classical in
noncomputable def mulOk (i j : Int) : Bool := @decide (i.natAbs.log2 + j.natAbs.log2 < 1000000) (propDecidable _)
open Classical in
noncomputable def divOk (j : Int) : Bool := @decide (j.natAbs.log2 < 9000) (propDecidable _)
theorem mulOk_s {i j : Int} (h1 : -114813069527425452423283320117768198402231770208869520047764273682576626139237031385665948631650626991844596463898746277344711896086305533142593135616665318539129989145312280000688779148240044871428926990063486244781615463646388363947317026040466353970904996558162398808944629605623311649536164221970332681344168908984458505602379484807914058900934776500429002716706625830522008132236281291761267883317206598995396418127021779858404042159853183251540889433902091920554957783589672039160081957216630582755380425583726015528348786419432054508915275783882625175435528800822842770817965453762184851149029376 < i) (h2 : i < 114813069527425452423283320117768198402231770208869520047764273682576626139237031385665948631650626991844596463898746277344711896086305533142593135616665318539129989145312280000688779148240044871428926990063486244781615463646388363947317026040466353970904996558162398808944629605623311649536164221970332681344168908984458505602379484807914058900934776500429002716706625830522008132236281291761267883317206598995396418127021779858404042159853183251540889433902091920554957783589672039160081957216630582755380425583726015528348786419432054508915275783882625175435528800822842770817965453762184851149029376) (h3 : -114813069527425452423283320117768198402231770208869520047764273682576626139237031385665948631650626991844596463898746277344711896086305533142593135616665318539129989145312280000688779148240044871428926990063486244781615463646388363947317026040466353970904996558162398808944629605623311649536164221970332681344168908984458505602379484807914058900934776500429002716706625830522008132236281291761267883317206598995396418127021779858404042159853183251540889433902091920554957783589672039160081957216630582755380425583726015528348786419432054508915275783882625175435528800822842770817965453762184851149029376 < j) (h4 : j < 114813069527425452423283320117768198402231770208869520047764273682576626139237031385665948631650626991844596463898746277344711896086305533142593135616665318539129989145312280000688779148240044871428926990063486244781615463646388363947317026040466353970904996558162398808944629605623311649536164221970332681344168908984458505602379484807914058900934776500429002716706625830522008132236281291761267883317206598995396418127021779858404042159853183251540889433902091920554957783589672039160081957216630582755380425583726015528348786419432054508915275783882625175435528800822842770817965453762184851149029376) : mulOk i j = true := by
  have e : (114813069527425452423283320117768198402231770208869520047764273682576626139237031385665948631650626991844596463898746277344711896086305533142593135616665318539129989145312280000688779148240044871428926990063486244781615463646388363947317026040466353970904996558162398808944629605623311649536164221970332681344168908984458505602379484807914058900934776500429002716706625830522008132236281291761267883317206598995396418127021779858404042159853183251540889433902091920554957783589672039160081957216630582755380425583726015528348786419432054508915275783882625175435528800822842770817965453762184851149029376 : Int) = 2 ^ 2000 := by decide +kernel
  rw [e] at h1 h2 h3 h4
  have a := log_b h1 h2
  have b := log_b h3 h4
  unfold mulOk
  exact @decide_eq_true _ (_) (by omega)
theorem divOk_s {j : Int} (h1 : -114813069527425452423283320117768198402231770208869520047764273682576626139237031385665948631650626991844596463898746277344711896086305533142593135616665318539129989145312280000688779148240044871428926990063486244781615463646388363947317026040466353970904996558162398808944629605623311649536164221970332681344168908984458505602379484807914058900934776500429002716706625830522008132236281291761267883317206598995396418127021779858404042159853183251540889433902091920554957783589672039160081957216630582755380425583726015528348786419432054508915275783882625175435528800822842770817965453762184851149029376 < j) (h2 : j < 114813069527425452423283320117768198402231770208869520047764273682576626139237031385665948631650626991844596463898746277344711896086305533142593135616665318539129989145312280000688779148240044871428926990063486244781615463646388363947317026040466353970904996558162398808944629605623311649536164221970332681344168908984458505602379484807914058900934776500429002716706625830522008132236281291761267883317206598995396418127021779858404042159853183251540889433902091920554957783589672039160081957216630582755380425583726015528348786419432054508915275783882625175435528800822842770817965453762184851149029376) : divOk j = true := by
  have e : (114813069527425452423283320117768198402231770208869520047764273682576626139237031385665948631650626991844596463898746277344711896086305533142593135616665318539129989145312280000688779148240044871428926990063486244781615463646388363947317026040466353970904996558162398808944629605623311649536164221970332681344168908984458505602379484807914058900934776500429002716706625830522008132236281291761267883317206598995396418127021779858404042159853183251540889433902091920554957783589672039160081957216630582755380425583726015528348786419432054508915275783882625175435528800822842770817965453762184851149029376 : Int) = 2 ^ 2000 := by decide +kernel
  rw [e] at h1 h2
  have a := log_b h1 h2
  unfold divOk
  exact @decide_eq_true _ (_) (by omega)
@[simp] theorem ev_fMul (i j : Int) : fMul [.sc (.int i), .sc (.int j)] = if mulOk i j then some (.sc (.int (i * j))) else none := by simp [fMul, mulOk]
@[simp] theorem ev_fDivmod (i j : Int) : fDivmod [.sc (.int i), .sc (.int j)] = if 0 < j ∧ divOk j then some (.nd .tup [.sc (.int (i / j)), .sc (.int (i % j))]) else none := by simp [fDivmod, divOk]
@[simp] theorem ev_fDiv (i j : Int) : fDiv [.sc (.int i), .sc (.int j)] = if 0 < j ∧ divOk j then some (.sc (.int (i / j))) else none := by simp [fDiv, divOk]
@[simp] theorem ev_fMod (i j : Int) : fMod [.sc (.int i), .sc (.int j)] = if 0 < j then some (.sc (.int (i % j))) else none := by simp [fMod]
@[simp] theorem ev_fPow (i j : Int) : fPow [.sc (.int i), .sc (.int j)] = if 0 ≤ j ∧ j ≤ 1000 ∧ -1000000 ≤ i ∧ i ≤ 1000000 then some (.sc (.int (i ^ j.toNat))) else none := by simp [fPow]
@[simp] theorem ev_dNever : dNever E = .bad := id rfl
@[simp] theorem ev_dR1 (das : DenA) : dR1 das E = (das E).bind fun r => match conts r.2 r.1 with
  | some [.sc (.int j)] => if rg1Ok j then .ok (rngD 0 j.toNat, r.2) else .bad
  | _ => .bad := by (try simp only [← len_if, ← len_if2, ← rg_if1, ← rg_if2]); exact id rfl
@[simp] theorem ev_dR2 (das : DenA) : dR2 das E = (das E).bind fun r => match conts r.2 r.1 with
  | some [.sc (.int i), .sc (.int j)] => if rgOk i j then .ok (rngD i (j - i).toNat, r.2) else .bad
  | _ => .bad := by (try simp only [← len_if, ← len_if2, ← rg_if1, ← rg_if2]); exact id rfl
@[simp] theorem ev_seq_l : Kd.seq (.lst m) = true := id rfl
@[simp] theorem ev_seq_t : Kd.seq .tup = true := id rfl
@[simp] theorem ev_wp_n : wp [] = [] := id rfl
@[simp] theorem ev_wp_c (i : Nat) (is : List Nat) : wp (i :: is) = .plc i [] :: wp is := id rfl
@[simp] theorem ev_nsub (a b : Nat) : (Int.ofNat a - Int.ofNat b) = (a : Int) - b := id rfl
@[simp] theorem ev_ixN (n : Nat) (k : Int) : ixN n k = if 0 ≤ k then (if k < n then some k.toNat else none) else if -(n : Int) ≤ k then some (k + n).toNat else none := id rfl
/-- a def's run, from its body's -/
theorem fn_rt {N : Nat} {A : List Nat} {b : DenS} {ds E r : List D} {d : D} (h : b (ds ++ List.replicate (N - ds.length) .una) = .rt d E) (k : retArgs A 0 ds E = some r) : fnD N A b ds = .ok (d, r) := by
  unfold fnD; rw [h]; dsimp only; rw [k]
theorem fn_nx {N : Nat} {A : List Nat} {b : DenS} {ds E r : List D} (h : b (ds ++ List.replicate (N - ds.length) .una) = .nx E) (k : retArgs A 0 ds E = some r) : fnD N A b ds = .ok (.sc .non, r) := by
  unfold fnD; rw [h]; dsimp only; rw [k]
theorem fn_exc {N : Nat} {A : List Nat} {b : DenS} {ds E r : List D} {c : Nat} {fs : List (Str × V)} (h : b (ds ++ List.replicate (N - ds.length) .una) = .exc c fs E) (k : retArgs A 0 ds E = some r) : fnD N A b ds = .exc c fs r := by
  unfold fnD; rw [h]; dsimp only; rw [k]
theorem fp_rt {n N : Nat} {A : List Nat} {b : DenS} {ds E r : List D} {d : D} (hl : ds.length = n) (h : b (ds ++ List.replicate (N - n) .una) = .rt d E) (k : retArgs A 0 ds E = some r) : fnP n N A b ds = .ok (d, r) := by
  unfold fnP; rw [if_pos hl]; subst hl; exact fn_rt h k
theorem fp_nx {n N : Nat} {A : List Nat} {b : DenS} {ds E r : List D} (hl : ds.length = n) (h : b (ds ++ List.replicate (N - n) .una) = .nx E) (k : retArgs A 0 ds E = some r) : fnP n N A b ds = .ok (.sc .non, r) := by
  unfold fnP; rw [if_pos hl]; subst hl; exact fn_nx h k
theorem fp_exc {n N : Nat} {A : List Nat} {b : DenS} {ds E r : List D} {c : Nat} {fs : List (Str × V)} (hl : ds.length = n) (h : b (ds ++ List.replicate (N - n) .una) = .exc c fs E) (k : retArgs A 0 ds E = some r) : fnP n N A b ds = .exc c fs r := by
  unfold fnP; rw [if_pos hl]; subst hl; exact fn_exc h k
end DL

end
section
set_option maxRecDepth 100000
/-! DL, part 17: plain laws of loops, of numbers. -/
namespace DL
open PySem L2

/-! ### one step -/
theorem seq_nx {a b : DenS} {E E' : List D} (h : a E = .nx E') : dSeq a b E = b E' := by rw [ev_dSeq, h]; rfl
theorem seq_rt {a b : DenS} {E E' : List D} {d : D} (h : a E = .rt d E') : dSeq a b E = .rt d E' := by rw [ev_dSeq, h]; rfl
theorem f_rt {n N : Nat} {A : List Nat} {b : DenS} {ds E r : List D} {d : D} (h : b (ds ++ List.replicate (N - n) .una) = .rt d E) (hl : ds.length = n := by rfl) (k : retArgs A 0 ds E = some r := by simp) : opq (fnP n N A b) ds = .ok (d, r) := by rw [opq_eq]; exact fp_rt hl h k
/-! ### loops -/
theorem loop_gen {dg : DenG} {b : DenS} {Out : S → Prop} : ∀ {ds : List D} {Jv : Nat → List D → Prop} {E : List D}, Jv 0 E →
    (∀ j d E, ds[j]? = some d → Jv j E → ∃ E1, dg d E = some E1 ∧ ((∃ E2, (b E1 = .nx E2 ∨ b E1 = .ct E2) ∧ Jv (j + 1) E2) ∨ (∃ E2, b E1 = .bk E2 ∧ Out (.nx E2)) ∨ ∃ c E2, b E1 = .rt c E2 ∧ Out (.rt c E2))) →
    (∀ E, Jv ds.length E → Out (.nx E)) → Out (loopD dg b ds E)
  | [], Jv, E, h0, st, fin => fin E h0
  | d :: ds, Jv, E, h0, st, fin => by
    obtain ⟨E1, e1, h⟩ := st 0 d E rfl h0
    unfold loopD
    rw [e1]
    dsimp only
    rcases h with ⟨E2, h | h, hi⟩ | ⟨E2, h, ho⟩ | ⟨c, E2, h, ho⟩
    · rw [h]; exact loop_gen (Jv := fun j => Jv (j + 1)) hi (fun j d E ed hi => st (j + 1) d E ed hi) fun E hE => fin E hE
    · rw [h]; exact loop_gen (Jv := fun j => Jv (j + 1)) hi (fun j d E ed hi => st (j + 1) d E ed hi) fun E hE => fin E hE
    · rw [h]; exact ho
    · rw [h]; exact ho
/-- a loop that runs through -/
theorem loop_all {dg : DenG} {b : DenS} {ds : List D} {Jv : Nat → List D → Prop} {E : List D} (h0 : Jv 0 E) (st : ∀ j d E, ds[j]? = some d → Jv j E → ∃ E1 E2, dg d E = some E1 ∧ (b E1 = .nx E2 ∨ b E1 = .ct E2) ∧ Jv (j + 1) E2) :
    ∃ E', loopD dg b ds E = .nx E' ∧ Jv ds.length E' :=
  loop_gen (Out := fun s => ∃ E', s = .nx E' ∧ Jv ds.length E') h0 (fun j d E ed hi => by obtain ⟨E1, E2, e1, h, k⟩ := st j d E ed hi; exact ⟨E1, e1, .inl ⟨E2, h, k⟩⟩) fun E hE => ⟨E, rfl, hE⟩
theorem rng_len (lo : Int) (n : Nat) : (rngD lo n).length = n := by simp [rngD]
theorem rng_at {lo : Int} {n j : Nat} {d : D} (h : (rngD lo n)[j]? = some d) : j < n ∧ d = .sc (.int (lo + (j : Int))) := by
  unfold rngD at h
  rw [List.getElem?_map] at h
  by_cases hj : j < n
  · rw [List.getElem?_range hj] at h
    simp at h
    exact ⟨hj, h.symm⟩
  · rw [List.getElem?_eq_none (by simp; omega)] at h
    cases h
/-- over a range -/
theorem loop_rng {i : Nat} {b : DenS} {lo : Int} {n : Nat} {Jv : Nat → List D → Prop} {E : List D} (h0 : Jv 0 E) (st : ∀ j E, j < n → Jv j E → i < E.length ∧ ∃ E2, (b (E.set i (.sc (.int (lo + (j : Int))))) = .nx E2 ∨ b (E.set i (.sc (.int (lo + (j : Int))))) = .ct E2) ∧ Jv (j + 1) E2) :
    ∃ E', loopD (dgName i) b (rngD lo n) E = .nx E' ∧ Jv n E' := by
  have := loop_all (dg := dgName i) (b := b) (ds := rngD lo n) (Jv := Jv) h0 fun j d E ed hi => by
    obtain ⟨hj, rfl⟩ := rng_at ed
    obtain ⟨hl, E2, h, k⟩ := st j E hj hi
    exact ⟨_, E2, by simp [hl], h, k⟩
  rw [rng_len] at this
  exact this
theorem while_gen {c : DenT} {b : DenS} {Out : S → Prop} {Jv : Nat → List D → Prop} (st : ∀ m E, Jv m E → (∃ E1, c E = .ok (false, E1) ∧ Out (.nx E1)) ∨ ∃ E1, c E = .ok (true, E1) ∧
      ((∃ m' E2, (b E1 = .nx E2 ∨ b E1 = .ct E2) ∧ m' < m ∧ Jv m' E2) ∨ (∃ E2, b E1 = .bk E2 ∧ Out (.nx E2)) ∨ ∃ d E2, b E1 = .rt d E2 ∧ Out (.rt d E2))) : ∀ m E, Jv m E → ∃ n s, whileN n c b E = s ∧ s ≠ .bad ∧ Out s := by
  intro m
  induction m using Nat.strongRecOn with
  | ind m ih =>
    intro E hi
    rcases st m E hi with ⟨E1, e1, o⟩ | ⟨E1, e1, h⟩
    · exact ⟨1, .nx E1, by unfold whileN; rw [e1]; rfl, (fun z => by cases z), o⟩
    · rcases h with ⟨m', E2, hb, hm, hi'⟩ | ⟨E2, hb, o⟩ | ⟨d, E2, hb, o⟩
      · obtain ⟨n, s, e, nb, o⟩ := ih m' hm E2 hi'
        refine ⟨n + 1, s, ?_, nb, o⟩
        unfold whileN
        rw [e1]
        rcases hb with hb | hb <;> (show (match b E1 with | .nx E' => whileN n c b E' | .ct E' => whileN n c b E' | .bk E' => S.nx E' | s => s) = s; rw [hb]; exact e)
      · refine ⟨1, .nx E2, ?_, (fun z => by cases z), o⟩
        unfold whileN
        rw [e1]
        show (match b E1 with | .nx E' => whileN 0 c b E' | .ct E' => whileN 0 c b E' | .bk E' => S.nx E' | s => s) = _
        rw [hb]
      · refine ⟨1, .rt d E2, ?_, (fun z => by cases z), o⟩
        unfold whileN
        rw [e1]
        show (match b E1 with | .nx E' => whileN 0 c b E' | .ct E' => whileN 0 c b E' | .bk E' => S.nx E' | s => s) = _
        rw [hb]
theorem while_out {c : DenT} {b : DenS} {Out : S → Prop} {Jv : Nat → List D → Prop} {m : Nat} {E : List D} (h0 : Jv m E) (st : ∀ m E, Jv m E → (∃ E1, c E = .ok (false, E1) ∧ Out (.nx E1)) ∨ ∃ E1, c E = .ok (true, E1) ∧
      ((∃ m' E2, (b E1 = .nx E2 ∨ b E1 = .ct E2) ∧ m' < m ∧ Jv m' E2) ∨ (∃ E2, b E1 = .bk E2 ∧ Out (.nx E2)) ∨ ∃ d E2, b E1 = .rt d E2 ∧ Out (.rt d E2))) : Out (dWhile c b E) := by
  obtain ⟨n, s, e, nb, o⟩ := while_gen st m E h0
  rw [dWhile_of e nb]
  exact o
/-! ### comprehensions -/
theorem comp_gen {dg : DenG} {dt : DenT} {de : Den} {ws : List Nat} : ∀ {ds : List D} {Jv : Nat → List D → List D → Prop} {B acc : List D}, Jv 0 B acc →
    (∀ j d B acc, ds[j]? = some d → Jv j B acc → ∃ B1, dg d B = some B1 ∧ ((∃ B2 B3 c, dt B1 = .ok (true, B2) ∧ de B2 = .ok (.val c, B3) ∧ acc.length < 100000 ∧ Jv (j + 1) (holes B3 (wp ws)) (acc ++ [c])) ∨ (∃ B2, dt B1 = .ok (false, B2) ∧ Jv (j + 1) (holes B2 (wp ws)) acc))) →
    ∃ B' acc', compL dg dt de ws ds B acc = .ok (acc', B') ∧ Jv ds.length B' acc'
  | [], Jv, B, acc, h0, st => ⟨B, acc, rfl, h0⟩
  | d :: ds, Jv, B, acc, h0, st => by
    obtain ⟨B1, e1, h⟩ := st 0 d B acc rfl h0
    unfold compL
    rw [e1]
    rcases h with ⟨B2, B3, c, e2, e3, hl, hi⟩ | ⟨B2, e2, hi⟩
    · simp only [e2, e3, hl, noX, R.bind, if_true]
      exact comp_gen (Jv := fun j => Jv (j + 1)) hi fun j d B acc ed hi => st (j + 1) d B acc ed hi
    · simp only [e2, noX, R.bind]
      exact comp_gen (Jv := fun j => Jv (j + 1)) hi fun j d B acc ed hi => st (j + 1) d B acc ed hi
/-- each item made to another one, the names as before -/
theorem comp_map {dg : DenG} {dt : DenT} {de : Den} {ws : List Nat} {B : List D} (f : D → D) : ∀ {ds acc : List D}, acc.length + ds.length ≤ 100000 → (∀ d ∈ ds, ∃ B1 B2 B3, dg d B = some B1 ∧ dt B1 = .ok (true, B2) ∧ de B2 = .ok (.val (f d), B3) ∧ holes B3 (wp ws) = B) →
    compL dg dt de ws ds B acc = .ok (acc ++ ds.map f, B)
  | [], acc, hl, h => by simp [compL]
  | d :: ds, acc, hl, h => by
    obtain ⟨B1, B2, B3, e1, e2, e3, e4⟩ := h d List.mem_cons_self
    unfold compL
    have : acc.length < 100000 := by simp at hl; omega
    simp only [e1, e2, e3, e4, this, noX, R.bind, if_true]
    rw [comp_map f (by simp at hl ⊢; omega) fun x hx => h x (List.mem_cons_of_mem _ hx)]
    simp
/-- some items left out -/
theorem comp_filter {dg : DenG} {dt : DenT} {de : Den} {ws : List Nat} {B : List D} (g : D → Bool) (f : D → D) : ∀ {ds acc : List D}, acc.length + ds.length ≤ 100000 →
    (∀ d ∈ ds, ∃ B1 B2, dg d B = some B1 ∧ dt B1 = .ok (g d, B2) ∧ (g d = true → ∃ B3, de B2 = .ok (.val (f d), B3) ∧ holes B3 (wp ws) = B) ∧ (g d = false → holes B2 (wp ws) = B)) →
    compL dg dt de ws ds B acc = .ok (acc ++ (ds.filter g).map f, B)
  | [], acc, hl, h => by simp [compL]
  | d :: ds, acc, hl, h => by
    obtain ⟨B1, B2, e1, e2, h1, h2⟩ := h d List.mem_cons_self
    unfold compL
    have hl2 : acc.length < 100000 := by simp at hl; omega
    cases eg : g d with
    | true =>
      obtain ⟨B3, e3, e4⟩ := h1 eg
      rw [eg] at e2
      simp only [e1, e2, e3, e4, hl2, noX, R.bind, if_true]
      rw [comp_filter g f (by simp at hl ⊢; omega) fun x hx => h x (List.mem_cons_of_mem _ hx)]
      simp [eg]
    | false =>
      rw [eg] at e2
      simp only [e1, e2, noX, R.bind, if_false, Bool.false_eq_true]
      rw [h2 eg, comp_filter g f (by simp at hl ⊢; omega) fun x hx => h x (List.mem_cons_of_mem _ hx)]
      simp [eg]
/-! ### equality -/
theorem beq_dec {α : Type} [DecidableEq α] (a b : α) : (a == b) = decide (a = b) := rfl
@[simp] theorem fEq_int (a b : Int) : fEq [.sc (.int a), .sc (.int b)] = some (.sc (.bl (decide (a = b)))) := by
  simp only [fEq, lay, toP, PyData.eqv, Bool.and_self, if_true, beq_dec]
@[simp] theorem fNe_int (a b : Int) : fNe [.sc (.int a), .sc (.int b)] = some (.sc (.bl (!decide (a = b)))) := by
  simp only [fNe, lay, toP, PyData.eqv, Bool.and_self, if_true, beq_dec]
@[simp] theorem atI_nat' {α : Type} (xs : List α) (k : Nat) : atI xs (k : Int) = xs[k]? := by
  unfold atI ixN
  by_cases h : k < xs.length
  · simp [h]
  · simp [h]
/-! ### numbers -/
theorem log_lt {i : Int} {k : Nat} (h0 : 0 ≤ i) (h : i < 2 ^ k) (hk : 0 < k) : i.natAbs.log2 < k := by
  by_cases z : i.natAbs = 0
  · rw [z]; simpa using hk
  · rw [Nat.log2_lt z]
    have e : ((2 ^ k : Nat) : Int) = (2 : Int) ^ k := by simp
    rw [← e] at h
    omega
theorem log_le {i : Int} {k n : Nat} (h0 : 0 ≤ i) (h : i < 2 ^ k) (hk : 0 < k) (hn : k ≤ n) : i.natAbs.log2 < n := Nat.lt_of_lt_of_le (log_lt h0 h hk) hn
/-! ### lists of whole numbers -/
def sI (i : Int) : D := .sc (.int i)
def li (l : List Int) : List D := l.map fun i => .sc (.int i)
@[simp] theorem li_len (l : List Int) : (li l).length = l.length := by simp [li]
@[simp] theorem li_nil : li [] = [] := rfl
theorem li_cons (i : Int) (l : List Int) : li (i :: l) = .sc (.int i) :: li l := rfl
@[simp] theorem li_fz : ∀ l : List Int, Fzs (li l) = true
  | [] => rfl
  | i :: l => by show (true && Fzs (li l)) = true; rw [li_fz l]; rfl
@[simp] theorem li_fzs : ∀ l : List Int, fzs (li l) = li l
  | [] => rfl
  | i :: l => by show .sc (.int i) :: fzs (li l) = _; rw [li_fzs l]; rfl
@[simp] theorem li_ints : ∀ l : List Int, intsD (li l) = some l
  | [] => rfl
  | i :: l => by rw [li_cons]; unfold intsD; rw [li_ints l]; rfl
theorem li_app (l m : List Int) : li l ++ li m = li (l ++ m) := by simp [li]
theorem li_at (l : List Int) (j : Nat) : (li l)[j]? = (l[j]?).map fun i => .sc (.int i) := by simp [li]
@[simp] theorem li_at' (l : List Int) (j : Nat) (h : j < l.length) : (li l)[j]? = some (.sc (.int l[j])) := by rw [li_at, List.getElem?_eq_getElem h]; rfl
theorem li_eq (l : List Int) : l.map (fun i => D.sc (.int i)) = li l := rfl
/-- as comp_map, over what is made of other things -/
theorem comp_mapG {α : Type} {dg : DenG} {dt : DenT} {de : Den} {ws : List Nat} {B : List D} (g f : α → D) : ∀ {xs : List α} {acc : List D}, acc.length + xs.length ≤ 100000 → (∀ x ∈ xs, ∃ B1 B2 B3, dg (g x) B = some B1 ∧ dt B1 = .ok (true, B2) ∧ de B2 = .ok (.val (f x), B3) ∧ holes B3 (wp ws) = B) →
    compL dg dt de ws (xs.map g) B acc = .ok (acc ++ xs.map f, B)
  | [], acc, hl, h => by simp [compL]
  | d :: ds, acc, hl, h => by
    obtain ⟨B1, B2, B3, e1, e2, e3, e4⟩ := h d List.mem_cons_self
    rw [List.map_cons]
    unfold compL
    have : acc.length < 100000 := by simp at hl; omega
    simp only [e1, e2, e3, e4, this, noX, R.bind, if_true]
    rw [comp_mapG g f (by simp at hl ⊢; omega) fun x hx => h x (List.mem_cons_of_mem _ hx)]
    simp
theorem comp_filterG {α : Type} {dg : DenG} {dt : DenT} {de : Den} {ws : List Nat} {B : List D} (g f : α → D) (c : α → Bool) : ∀ {xs : List α} {acc : List D}, acc.length + xs.length ≤ 100000 →
    (∀ x ∈ xs, ∃ B1 B2, dg (g x) B = some B1 ∧ dt B1 = .ok (c x, B2) ∧ (c x = true → ∃ B3, de B2 = .ok (.val (f x), B3) ∧ holes B3 (wp ws) = B) ∧ (c x = false → holes B2 (wp ws) = B)) →
    compL dg dt de ws (xs.map g) B acc = .ok (acc ++ (xs.filter c).map f, B)
  | [], acc, hl, h => by simp [compL]
  | d :: ds, acc, hl, h => by
    obtain ⟨B1, B2, e1, e2, h1, h2⟩ := h d List.mem_cons_self
    rw [List.map_cons]
    unfold compL
    have hl2 : acc.length < 100000 := by simp at hl; omega
    cases eg : c d with
    | true =>
      obtain ⟨B3, e3, e4⟩ := h1 eg
      rw [eg] at e2
      simp only [e1, e2, e3, e4, hl2, noX, R.bind, if_true]
      rw [comp_filterG g f c (by simp at hl ⊢; omega) fun x hx => h x (List.mem_cons_of_mem _ hx)]
      simp [eg]
    | false =>
      rw [eg] at e2
      simp only [e1, e2, noX, R.bind, if_false, Bool.false_eq_true]
      rw [h2 eg, comp_filterG g f c (by simp at hl ⊢; omega) fun x hx => h x (List.mem_cons_of_mem _ hx)]
      simp [eg]
/-! ### parts -/
theorem cut_from {α : Type} {xs : List α} {i : Int} (h : 0 ≤ i) : cutD xs (some i) none = xs.drop i.toNat := by
  obtain ⟨k, rfl⟩ := Int.eq_ofNat_of_zero_le h
  unfold cutD
  rw [HT.sIx_nat, HT.sIx_none]
  simp only [Int.toNat_natCast]
  by_cases hk : k ≤ xs.length
  · rw [Nat.min_eq_left hk]
    exact List.take_of_length_le (by simp)
  · rw [Nat.min_eq_right (by omega)]
    simp [List.drop_of_length_le (show xs.length ≤ k by omega)]
theorem cut_to {α : Type} {xs : List α} {i : Int} (h : 0 ≤ i) : cutD xs none (some i) = xs.take i.toNat := by
  obtain ⟨k, rfl⟩ := Int.eq_ofNat_of_zero_le h
  unfold cutD
  rw [HT.sIx_nat, HT.sIx_none]
  simp only [Int.toNat_natCast, List.drop_zero, Nat.sub_zero]
  by_cases hk : k ≤ xs.length
  · rw [Nat.min_eq_left hk]
  · rw [Nat.min_eq_right (by omega), List.take_of_length_le (Nat.le_refl _), List.take_of_length_le (by omega)]
theorem cut_mid {α : Type} {xs : List α} {i j : Int} (h : 0 ≤ i) (h2 : 0 ≤ j) : cutD xs (some i) (some j) = (xs.drop i.toNat).take (j.toNat - i.toNat) := by
  obtain ⟨k, rfl⟩ := Int.eq_ofNat_of_zero_le h
  obtain ⟨m, rfl⟩ := Int.eq_ofNat_of_zero_le h2
  unfold cutD
  rw [HT.sIx_nat, HT.sIx_nat]
  simp only [Int.toNat_natCast]
  by_cases hk : k ≤ xs.length
  · rw [Nat.min_eq_left hk]
    by_cases hm : m ≤ xs.length
    · rw [Nat.min_eq_left hm]
    · rw [Nat.min_eq_right (by omega), List.take_of_length_le (by simp), List.take_of_length_le (by simp; omega)]
  · rw [Nat.min_eq_right (show xs.length ≤ k by omega), List.drop_of_length_le (Nat.le_refl _), List.drop_of_length_le (show xs.length ≤ k by omega)]
    simp
@[simp] theorem li_tail (l : List Int) : (li l).tail = li l.tail := by cases l <;> rfl
theorem li_drop (l : List Int) (k : Nat) : (li l).drop k = li (l.drop k) := by simp [li, List.map_drop]
theorem li_take (l : List Int) (k : Nat) : (li l).take k = li (l.take k) := by simp [li, List.map_take]
/-! ### a box of digits -/
abbrev bx (n : Int) : D := .nd (.lst true) [.sc (.int n)]
end DL

end
section
set_option maxRecDepth 100000
/-! DL, part 18: items and rows. -/
namespace DL
open PySem L2
/-- an item: a key and a tag -/
abbrev It2 := Int × Str
def itm (p : It2) : D := .nd .tup [.sc (.int p.1), .sc (.str p.2)]
def its (l : List It2) : List D := l.map itm
@[simp] theorem its_len (l : List It2) : (its l).length = l.length := by simp [its]
@[simp] theorem its_nil : its [] = [] := rfl
theorem its_cons (i : It2) (l : List It2) : its (i :: l) = itm i :: its l := rfl
@[simp] theorem itm_fz (p : It2) : Fz (itm p) = true := rfl
@[simp] theorem itm_fzz (p : It2) : fz (itm p) = itm p := rfl
@[simp] theorem itm_una (p : It2) : isUna (itm p) = false := rfl
@[simp] theorem its_fz : ∀ l : List It2, Fzs (its l) = true
  | [] => rfl
  | i :: l => by show (true && Fzs (its l)) = true; rw [its_fz l]; rfl
@[simp] theorem its_fzs : ∀ l : List It2, fzs (its l) = its l
  | [] => rfl
  | i :: l => by show itm i :: fzs (its l) = _; rw [its_fzs l]; rfl
theorem its_app (l m : List It2) : its l ++ its m = its (l ++ m) := by simp [its]
theorem its_snoc (l : List It2) (p : It2) : its l ++ [itm p] = its (l ++ [p]) := by simp [its]
theorem its_at (l : List It2) (j : Nat) : (its l)[j]? = (l[j]?).map itm := by simp [its]
theorem its_at' (l : List It2) (j : Nat) (h : j < l.length) : (its l)[j]? = some (itm l[j]) := by rw [its_at, List.getElem?_eq_getElem h]; rfl
theorem its_drop (l : List It2) (k : Nat) : (its l).drop k = its (l.drop k) := by simp [its, List.map_drop]
theorem its_take (l : List It2) (k : Nat) : (its l).take k = its (l.take k) := by simp [its, List.map_take]
@[simp] theorem its_tail (l : List It2) : (its l).tail = its l.tail := by cases l <;> rfl
@[simp] theorem its_rev (l : List It2) : (its l).reverse = its l.reverse := by simp [its]
/-- the order of items -/
def ltI (a b : It2) : Bool := decide (a.1 < b.1) || (decide (a.1 = b.1) && decide (a.2.cps.toList < b.2.cps.toList))
/-! ### == of data with itself -/
mutual
theorem eqv_refl : ∀ d : D, PyData.eqv (toP d) (toP d) = true
  | .una => rfl
  | .lent => rfl
  | .kl _ => rfl
  | .sc v => by cases v <;> simp [toP, PyData.eqv]
  | .nd k ds => by
    have := eqvs_refl ds
    cases k <;> exact this
theorem eqvs_refl : ∀ ds : List D, PyData.eqvAll (toPs ds) (toPs ds) = true
  | [] => rfl
  | d :: ds => by
    show (PyData.eqv (toP d) (toP d) && PyData.eqvAll (toPs ds) (toPs ds)) = true
    rw [eqv_refl d, eqvs_refl ds]; rfl
end
def tagOk (p : It2) : Bool := PyData.strOk p.2
theorem its_lay (l : List It2) (m : Bool) (h : ∀ p ∈ l, tagOk p = true) : lay 64 (.nd (.lst m) (its l)) = true := by
  show (true && (its l).all (lay 63)) = true
  rw [Bool.true_and, List.all_eq_true]
  intro d hd
  obtain ⟨p, hp, rfl⟩ := List.mem_map.mp hd
  have := h p hp
  show (true && [D.sc (.int p.1), D.sc (.str p.2)].all (lay 62)) = true
  simp [lay]
  exact this
theorem its_ne (l : List It2) (m n : Bool) (h : ∀ p ∈ l, tagOk p = true) : fNe [.nd (.lst m) (its l), .nd (.lst n) (its l)] = some (.sc (.bl false)) := by
  have e : PyData.eqv (toP (.nd (.lst m) (its l))) (toP (.nd (.lst n) (its l))) = true := eqvs_refl (its l)
  show (if (lay 64 (.nd (.lst m) (its l)) && lay 64 (.nd (.lst n) (its l))) = true then some (D.sc (.bl (!PyData.eqv (toP (.nd (.lst m) (its l))) (toP (.nd (.lst n) (its l)))))) else none) = _
  rw [its_lay l m h, its_lay l n h, e]
  rfl
end DL

end
section
set_option maxRecDepth 100000
/-! DL, part 19: names forgotten; steps; loops as folds. -/
namespace DL
open PySem L2
@[simp] theorem ev_killL_0 (E : List D) : killL [] E = E := id rfl
@[simp] theorem ev_killL_1 (w : Nat) (ws : List Nat) (E : List D) : killL (w :: ws) E = killL ws (E.set w .una) := id rfl
@[simp] theorem ev_dKill (ws : List Nat) (b : DenS) (E : List D) : dKill ws b E = (b E).kill ws := id rfl
@[simp] theorem ev_skill_nx (ws : List Nat) (E : List D) : (S.nx E).kill ws = .nx (killL ws E) := id rfl
@[simp] theorem ev_skill_rt (ws : List Nat) (d : D) (E : List D) : (S.rt d E).kill ws = .rt d E := id rfl
@[simp] theorem ev_skill_bk (ws : List Nat) (E : List D) : (S.bk E).kill ws = .bk E := id rfl
@[simp] theorem ev_skill_ct (ws : List Nat) (E : List D) : (S.ct E).kill ws = .ct E := id rfl
@[simp] theorem ev_skill_exc (ws : List Nat) (c : Nat) (fs : List (Str × V)) (E : List D) : (S.exc c fs E).kill ws = .exc c fs E := id rfl
@[simp] theorem ev_skill_bad (ws : List Nat) : S.bad.kill ws = .bad := id rfl
@[simp] theorem ev_dBrkK (ws : List Nat) (E : List D) : dBrkK ws E = .bk (killL ws E) := id rfl
@[simp] theorem ev_dCntK (ws : List Nat) (E : List D) : dCntK ws E = .ct (killL ws E) := id rfl
@[simp] theorem ev_ite_toS {α : Type} (c : Prop) [Decidable c] (a b : R α) (k : α → S) : (if c then a else b).toS k = if c then a.toS k else b.toS k := by split <;> rfl
@[simp] theorem ev_ite_bind {α β : Type} (c : Prop) [Decidable c] (a b : R α) (k : α → R β) : (if c then a else b).bind k = if c then a.bind k else b.bind k := by split <;> rfl
@[simp] theorem ev_ite_sbind (c : Prop) [Decidable c] (a b : S) (k : List D → S) : (if c then a else b).bind k = if c then a.bind k else b.bind k := by split <;> rfl
@[simp] theorem ev_ite_kill (c : Prop) [Decidable c] (a b : S) (ws : List Nat) : (if c then a else b).kill ws = if c then a.kill ws else b.kill ws := by split <;> rfl
@[simp high] theorem ixN_in {n : Nat} {i : Int} (h0 : 0 ≤ i) (h1 : i < n) : ixN n i = some i.toNat := by rw [ev_ixN, if_pos h0, if_pos h1]
@[simp high] theorem ixN_back {n : Nat} {i : Int} (h0 : i < 0) (h1 : -(n : Int) ≤ i) : ixN n i = some (i + n).toNat := by rw [ev_ixN, if_neg (by omega), if_pos h1]
/-! ### steps -/
theorem seq_go {a b : DenS} {E E' : List D} {s : S} (h : a E = .nx E') (k : b E' = s) : dSeq a b E = s := by rw [ev_dSeq, h]; exact k
theorem seq_rt' {a b : DenS} {E E' : List D} {d : D} (h : a E = .rt d E') : dSeq a b E = .rt d E' := seq_rt h
/-- under a property of the end -/
theorem seq_goP {a b : DenS} {E E' : List D} {P : S → Prop} (h : a E = .nx E') (k : P (b E')) : P (dSeq a b E) := by rw [ev_dSeq, h]; exact k
theorem kill_of {a : DenS} {E E' E2 : List D} {ws : List Nat} (h : a E = .nx E') (k : killL ws E' = E2) : dKill ws a E = .nx E2 := by rw [ev_dKill, h, ← k]; rfl
theorem f_rte {n N : Nat} {A : List Nat} {b : DenS} {ds r : List D} {d : D} (h : ∃ E, b (ds ++ List.replicate (N - n) .una) = .rt d E ∧ retArgs A 0 ds E = some r) (hl : ds.length = n := by rfl) : opq (fnP n N A b) ds = .ok (d, r) := by
  obtain ⟨E, h, k⟩ := h
  exact f_rt h hl k
def RtP (A : List Nat) (ds : List D) (d : D) (r : List D) (s : S) : Prop := ∃ E, (s = .rt d E ∨ (s = .nx E ∧ d = .sc .non)) ∧ retArgs A 0 ds E = some r
theorem rtp_go {a b : DenS} {E E' ds r : List D} {A : List Nat} {d : D} (h : a E = .nx E') (k : RtP A ds d r (b E')) : RtP A ds d r (dSeq a b E) := by
  obtain ⟨E2, e, q⟩ := k
  refine ⟨E2, ?_, q⟩
  rw [seq_nx h]; exact e
theorem rtp_out {a b : DenS} {E E' ds r : List D} {A : List Nat} {d d' : D} (h : a E = .rt d' E') (hd : d' = d) (k : retArgs A 0 ds E' = some r) : RtP A ds d r (dSeq a b E) := ⟨E', .inl (seq_rt (hd ▸ h)), k⟩
theorem rtp_ret {s : S} {E ds r : List D} {A : List Nat} {d d' : D} (h : s = .rt d' E) (hd : d' = d) (k : retArgs A 0 ds E = some r) : RtP A ds d r s := ⟨E, .inl (hd ▸ h), k⟩
theorem rtp_end {s : S} {E ds r : List D} {A : List Nat} {d : D} (h : s = .nx E) (hd : d = .sc .non) (k : retArgs A 0 ds E = some r) : RtP A ds d r s := ⟨E, .inr ⟨h, hd⟩, k⟩
theorem f_of {n N : Nat} {A : List Nat} {b : DenS} {ds r : List D} {d : D} (h : RtP A ds d r (b (ds ++ List.replicate (N - n) .una))) (hl : ds.length = n := by rfl) : opq (fnP n N A b) ds = .ok (d, r) := by
  obtain ⟨E, h, k⟩ := h
  rcases h with h | ⟨h, rfl⟩
  · exact f_rt h hl k
  · rw [opq_eq]; exact fp_nx hl h k
/-! ### typed lists -/
class FzF {α : Type} (f : α → D) : Prop where
  fz : ∀ x, Fz (f x) = true
def em {α : Type} (f : α → D) (l : List α) : List D := l.map f
section
variable {α : Type} (f : α → D)
theorem em_def (l : List α) : em f l = l.map f := rfl
@[simp] theorem em_nil : em f [] = [] := rfl
theorem em_cons (a : α) (l : List α) : em f (a :: l) = f a :: em f l := rfl
@[simp] theorem em_len (l : List α) : (em f l).length = l.length := by simp [em]
@[simp] theorem em_at (l : List α) (j : Nat) : (em f l)[j]? = (l[j]?).map f := by simp [em]
theorem em_at' (l : List α) (j : Nat) (h : j < l.length) : (em f l)[j]? = some (f l[j]) := by rw [em_at, List.getElem?_eq_getElem h]; rfl
@[simp] theorem em_app (l m : List α) : em f l ++ em f m = em f (l ++ m) := by simp [em]
@[simp] theorem em_snoc (l : List α) (a : α) : em f l ++ [f a] = em f (l ++ [a]) := by simp [em]
@[simp] theorem em_tail (l : List α) : (em f l).tail = em f l.tail := by cases l <;> rfl
@[simp] theorem em_dropLast (l : List α) : (em f l).dropLast = em f l.dropLast := by simp [em]
@[simp] theorem em_drop (l : List α) (k : Nat) : (em f l).drop k = em f (l.drop k) := by simp [em, List.map_drop]
@[simp] theorem em_take (l : List α) (k : Nat) : (em f l).take k = em f (l.take k) := by simp [em, List.map_take]
@[simp] theorem em_rev (l : List α) : (em f l).reverse = em f l.reverse := by simp [em]
@[simp] theorem em_set (l : List α) (k : Nat) (a : α) : (em f l).set k (f a) = em f (l.set k a) := by simp [em, List.map_set]
@[simp] theorem em_isEmpty (l : List α) : (em f l).isEmpty = l.isEmpty := by cases l <;> rfl
theorem em_rep (n : Nat) (a : α) : List.replicate n (f a) = em f (List.replicate n a) := by simp [em]
@[simp] theorem em_Fzs [h : FzF f] (l : List α) : Fzs (em f l) = true := by
  rw [Fzs_all]; simp [em, h.fz]
@[simp] theorem em_fzs [h : FzF f] (l : List α) : fzs (em f l) = em f l := fzs_of (em_Fzs f l)
@[simp] theorem em_all [h : FzF f] (l : List α) : (em f l).all Fz = true := by simp [em, h.fz]
end
abbrev eI : Int → D := fun i => .sc (.int i)
abbrev eN : Nat → D := fun i => .sc (.int (i : Int))
abbrev eB : Bool → D := fun i => .sc (.bl i)
abbrev eS : Str → D := fun i => .sc (.str i)
instance : FzF eI := ⟨fun _ => rfl⟩
instance : FzF eN := ⟨fun _ => rfl⟩
instance : FzF eB := ⟨fun _ => rfl⟩
instance : FzF eS := ⟨fun _ => rfl⟩
instance : FzF itm := ⟨fun _ => rfl⟩
theorem li_em (l : List Int) : li l = em eI l := rfl
theorem its_em (l : List It2) : its l = em itm l := rfl
theorem rng_em (n : Nat) : rngD 0 n = em eN (List.range n) := by simp [rngD, em]
theorem fzf_l {α : Type} {f : α → D} [h : FzF f] : FzF (fun x => D.nd (.lst false) (em f x)) := ⟨fun x => by simp⟩
theorem fzf_t {α : Type} {f : α → D} [h : FzF f] : FzF (fun x => D.nd .tup (em f x)) := ⟨fun x => by simp⟩
/-! ### loops as folds -/
theorem loop_fold {α σ : Type} {f : α → D} {dg : DenG} {b : DenS} {e : σ → List D} (step : σ → α → σ) : ∀ {xs : List α} {s : σ}, (∀ s, ∀ x ∈ xs, ∃ E1, dg (f x) (e s) = some E1 ∧ (b E1 = .nx (e (step s x)) ∨ b E1 = .ct (e (step s x)))) → loopD dg b (em f xs) (e s) = .nx (e (xs.foldl step s))
  | [], s, h => rfl
  | x :: xs, s, h => by
    obtain ⟨E1, e1, h1⟩ := h s x List.mem_cons_self
    have ih := fun t => loop_fold (e := e) (s := t) step (xs := xs) fun s y hy => h s y (List.mem_cons_of_mem _ hy)
    show loopD dg b (f x :: em f xs) (e s) = _
    unfold loopD
    rw [e1]
    dsimp only
    rcases h1 with h1 | h1 <;> rw [h1] <;> exact ih _
/-- with an invariant that knows what is behind -/
theorem loop_inv {α : Type} {f : α → D} {dg : DenG} {b : DenS} {xs : List α} {Jv : List α → List D → Prop} {E : List D} (h0 : Jv [] E) (st : ∀ pre x post E, xs = pre ++ x :: post → Jv pre E → ∃ E1 E2, dg (f x) E = some E1 ∧ (b E1 = .nx E2 ∨ b E1 = .ct E2) ∧ Jv (pre ++ [x]) E2) :
    ∃ E', loopD dg b (em f xs) E = .nx E' ∧ Jv xs E' := by
  obtain ⟨E', e, j⟩ := loop_all (dg := dg) (b := b) (ds := em f xs) (Jv := fun j E => Jv (xs.take j) E) (E := E) (by simpa using h0) fun j d E ed hi => by
    have hj : j < xs.length := by have := (List.getElem?_eq_some_iff.mp ed).1; simpa using this
    rw [em_at' f xs j hj] at ed
    cases ed
    obtain ⟨E1, E2, e1, h, k⟩ := st (xs.take j) xs[j] (xs.drop (j + 1)) E (by rw [List.getElem_cons_drop, List.take_append_drop]) hi
    refine ⟨E1, E2, e1, h, ?_⟩
    rw [List.take_succ, List.getElem?_eq_getElem hj]
    exact k
  refine ⟨E', e, ?_⟩
  rw [em_len] at j
  simpa using j
def S.lk (s : S) (k : List D → S) : S := match s with
  | .nx E' => k E'
  | .ct E' => k E'
  | .bk E' => .nx E'
  | s => s
@[simp] theorem lk_nx (E : List D) (k : List D → S) : (S.nx E).lk k = k E := id rfl
@[simp] theorem lk_ct (E : List D) (k : List D → S) : (S.ct E).lk k = k E := id rfl
@[simp] theorem lk_bk (E : List D) (k : List D → S) : (S.bk E).lk k = .nx E := id rfl
@[simp] theorem lk_rt (d : D) (E : List D) (k : List D → S) : (S.rt d E).lk k = .rt d E := id rfl
@[simp] theorem lk_exc (c : Nat) (fs : List (Str × V)) (E : List D) (k : List D → S) : (S.exc c fs E).lk k = .exc c fs E := id rfl
@[simp] theorem lk_ite (c : Prop) [Decidable c] (a b : S) (k : List D → S) : (if c then a else b).lk k = if c then a.lk k else b.lk k := by split <;> rfl
theorem loop_nil {dg : DenG} {b : DenS} {E : List D} : loopD dg b [] E = .nx E := rfl
theorem loop_cons {dg : DenG} {b : DenS} {d : D} {ds E E1 : List D} (h : dg d E = some E1) : loopD dg b (d :: ds) E = (b E1).lk (loopD dg b ds) := by
  conv => lhs; unfold loopD
  rw [h]; dsimp only; cases b E1 <;> rfl
theorem while_turn {c : DenT} {b : DenS} {E : List D} : dWhile c b E = (c E).toS fun r => if r.1 then (b r.2).lk (dWhile c b) else .nx r.2 := by
  rw [dWhile_turn]
  cases c E with
  | ok r =>
    show (if r.1 then _ else _) = (if r.1 then _ else _)
    split
    · cases b r.2 <;> rfl
    · rfl
  | exc _ _ _ => rfl
  | bad => rfl
/-- a loop that hands back at the first that does not pass -/
theorem loop_chk {α : Type} {f : α → D} {dg : DenG} {b : DenS} {E : List D} (p : α → Bool) (r : α → D) (Q : List D → Prop) : ∀ {xs : List α}, (∀ x ∈ xs, ∃ E1, dg (f x) E = some E1 ∧ (p x = true → b E1 = .nx E ∨ b E1 = .ct E) ∧ (p x = false → ∃ E2, b E1 = .rt (r x) E2 ∧ Q E2)) →
    (xs.all p = true ∧ loopD dg b (em f xs) E = .nx E) ∨ (xs.all p = false ∧ ∃ x E2, x ∈ xs ∧ p x = false ∧ xs.find? (fun y => !p y) = some x ∧ loopD dg b (em f xs) E = .rt (r x) E2 ∧ Q E2)
  | [], h => .inl ⟨rfl, rfl⟩
  | x :: xs, h => by
    obtain ⟨E1, e1, h1, h2⟩ := h x List.mem_cons_self
    have eL : loopD dg b (em f (x :: xs)) E = (match b E1 with
      | .nx E' => loopD dg b (em f xs) E'
      | .ct E' => loopD dg b (em f xs) E'
      | .bk E' => .nx E'
      | s => s) := by
      show loopD dg b (f x :: em f xs) E = _
      conv => lhs; unfold loopD
      first | (rw [e1]; done) | (rw [e1]; rfl)
    rw [eL]
    cases hp : p x with
    | true =>
      rcases loop_chk p r Q (xs := xs) fun y hy => h y (List.mem_cons_of_mem _ hy) with ⟨a, e⟩ | ⟨a, y, E2, hy, e, ef, e3, q⟩
      · left
        refine ⟨by simp [hp, a], ?_⟩
        rcases h1 hp with h1 | h1 <;> rw [h1] <;> exact e
      · right
        refine ⟨by simp [hp, a], y, E2, List.mem_cons_of_mem _ hy, e, by simp [hp, ef], ?_, q⟩
        rcases h1 hp with h1 | h1 <;> rw [h1] <;> exact e3
    | false =>
      right
      obtain ⟨E2, e2, q⟩ := h2 hp
      exact ⟨by simp [hp], x, E2, List.mem_cons_self, hp, by simp [hp], by rw [e2], q⟩
/-! ### comprehensions -/
theorem comp_map' {α : Type} {dg : DenG} {de : Den} {ws : List Nat} {B : List D} {g : α → D} (f : α → D) {xs : List α} {acc : List D} (hl : acc.length + xs.length ≤ 100000) (h : ∀ x ∈ xs, ∃ B1 B2, dg (g x) B = some B1 ∧ de B1 = .ok (.val (f x), B2) ∧ holes B2 (wp ws) = B) :
    compL dg dYes de ws (em g xs) B acc = .ok (acc ++ em f xs, B) := comp_mapG g f hl fun x hx => by
  obtain ⟨B1, B2, h1, h2, h3⟩ := h x hx
  exact ⟨B1, B1, B2, h1, rfl, h2, h3⟩
theorem comp_filt' {α : Type} {dg : DenG} {dt : DenT} {de : Den} {ws : List Nat} {B : List D} {g : α → D} (f : α → D) (c : α → Bool) {xs : List α} {acc : List D} (hl : acc.length + xs.length ≤ 100000) (h : ∀ x ∈ xs, ∃ B1 B2, dg (g x) B = some B1 ∧ dt B1 = .ok (c x, B2) ∧ (c x = true → ∃ B3, de B2 = .ok (.val (f x), B3) ∧ holes B3 (wp ws) = B) ∧ (c x = false → holes B2 (wp ws) = B)) :
    compL dg dt de ws (em g xs) B acc = .ok (acc ++ em f (xs.filter c), B) := comp_filterG g f c hl h
end DL

end
section
set_option maxRecDepth 100000
/-! DL, part 20: typed data compared; loops over them. -/
namespace DL
open PySem L2
@[simp] theorem em_ints (l : List Int) : intsD (em eI l) = some l := by
  induction l with
  | nil => rfl
  | cons i l ih => show (intsD (em eI l)).map (i :: ·) = _; rw [ih]; rfl
@[simp] theorem em_intsN (l : List Nat) : intsD (em eN l) = some (l.map fun (i : Nat) => (i : Int)) := by
  induction l with
  | nil => rfl
  | cons i l ih => show (intsD (em eN l)).map ((i : Int) :: ·) = _; rw [ih]; rfl
@[simp] theorem em_bools (l : List Bool) : boolsD (em eB l) = some l := by
  induction l with
  | nil => rfl
  | cons i l ih => show (boolsD (em eB l)).map (i :: ·) = _; rw [ih]; rfl
@[simp] theorem flatV_int (i : Int) : flatV (.int i) = true := rfl
@[simp] theorem flatV_bl (i : Bool) : flatV (.bl i) = true := rfl
@[simp] theorem flatV_str (i : Str) : flatV (.str i) = true := rfl
@[simp] theorem flatV_non : flatV .non = true := rfl
@[simp] theorem em_flat_I (l : List Int) : (em eI l).all flatD = true := by simp [em, flatD]
@[simp] theorem em_flat_N (l : List Nat) : (em eN l).all flatD = true := by simp [em, flatD]
@[simp] theorem em_flat_S (l : List Str) : (em eS l).all flatD = true := by simp [em, flatD]
theorem inD_em {α : Type} (f : α → V) (x : V) (l : List α) : inD x (em (fun a => .sc (f a)) l) = l.any fun a => eqV (f a) x := by
  induction l with
  | nil => rfl
  | cons a l ih =>
    show (eqV (f a) x || inD x (em (fun a => D.sc (f a)) l)) = _
    rw [ih]; rfl
theorem eqV_ii (a b : Int) : eqV (.int a) (.int b) = decide (a = b) := by
  show (a == b) = _
  exact DL.beq_dec a b
@[simp] theorem in_I (i : Int) (l : List Int) : inD (.int i) (em eI l) = decide (i ∈ l) := by
  show inD _ (em (fun a => .sc (V.int a)) l) = _
  rw [inD_em, Bool.eq_iff_iff]
  simp only [List.any_eq_true, eqV_ii, decide_eq_true_eq]
  exact ⟨fun ⟨x, h, e⟩ => e ▸ h, fun h => ⟨i, h, rfl⟩⟩
@[simp] theorem in_N (i : Nat) (l : List Nat) : inD (.int (i : Int)) (em eN l) = decide (i ∈ l) := by
  show inD _ (em (fun (a : Nat) => .sc (V.int (a : Int))) l) = _
  rw [inD_em, Bool.eq_iff_iff]
  simp only [List.any_eq_true, eqV_ii, decide_eq_true_eq]
  exact ⟨fun ⟨x, h, e⟩ => by have : x = i := by omega
                             exact this ▸ h, fun h => ⟨i, h, rfl⟩⟩
class LayF {α : Type} (f : α → D) (n : outParam Nat) (P : outParam (α → Bool)) : Prop where
  lay : ∀ x m, P x = true → n ≤ m → lay m (f x) = true
class EqF {α : Type} [DecidableEq α] (f g : α → D) : Prop where
  eqv : ∀ x y, PyData.eqv (toP (f x)) (toP (g y)) = decide (x = y)
abbrev eL {α : Type} (m : Bool) (f : α → D) : List α → D := fun xs => .nd (.lst m) (em f xs)
abbrev eT {α : Type} (f : α → D) : List α → D := fun xs => .nd .tup (em f xs)
abbrev eP {α β : Type} (f : α → D) (g : β → D) : α × β → D := fun p => .nd .tup [f p.1, g p.2]
instance {α : Type} {f : α → D} [h : FzF f] : FzF (eL false f) := ⟨fun x => by simp⟩
instance {α : Type} {f : α → D} [h : FzF f] : FzF (eT f) := ⟨fun x => by simp⟩
instance {α β : Type} {f : α → D} {g : β → D} [h : FzF f] [h' : FzF g] : FzF (eP f g) := ⟨fun x => by simp [h.fz, h'.fz]⟩
instance : LayF eI 0 (fun _ => true) := ⟨fun x m _ _ => by cases m <;> rfl⟩
instance : LayF eN 0 (fun _ => true) := ⟨fun x m _ _ => by cases m <;> rfl⟩
instance : LayF eB 0 (fun _ => true) := ⟨fun x m _ _ => by cases m <;> rfl⟩
instance : LayF eS 0 PyData.strOk := ⟨fun x m h _ => by cases m <;> exact h⟩
theorem lay_l {α : Type} {f : α → D} {n : Nat} {P : α → Bool} [h : LayF f n P] {k : Kd} (hk : k.seq = true) (xs : List α) (m : Nat) (hp : xs.all P = true) (hm : n + 1 ≤ m) : lay m (.nd k (em f xs)) = true := by
  cases m with
  | zero => omega
  | succ m =>
    show (k.seq && (em f xs).all (lay m)) = true
    rw [hk, Bool.true_and, List.all_eq_true]
    intro d hd
    obtain ⟨x, hx, rfl⟩ := List.mem_map.mp hd
    exact h.lay x m (List.all_eq_true.mp hp x hx) (by omega)
instance {α : Type} {f : α → D} {n : Nat} {P : α → Bool} [h : LayF f n P] {b : Bool} : LayF (eL b f) (n + 1) (fun xs => xs.all P) := ⟨fun x m hp hm => lay_l rfl x m hp hm⟩
instance {α : Type} {f : α → D} {n : Nat} {P : α → Bool} [h : LayF f n P] : LayF (eT f) (n + 1) (fun xs => xs.all P) := ⟨fun x m hp hm => lay_l rfl x m hp hm⟩
instance {α β : Type} {f : α → D} {g : β → D} {n n' : Nat} {P : α → Bool} {P' : β → Bool} [h : LayF f n P] [h' : LayF g n' P'] : LayF (eP f g) (n + n' + 1) (fun p => P p.1 && P' p.2) := ⟨fun x m hp hm => by
  cases m with
  | zero => omega
  | succ m =>
    show (true && [f x.1, g x.2].all (lay m)) = true
    simp only [Bool.and_eq_true] at hp
    simp only [List.all_cons, List.all_nil, Bool.true_and, Bool.and_true, h.lay _ m hp.1 (by omega), h'.lay _ m hp.2 (by omega)]⟩
instance : LayF itm 1 tagOk := ⟨fun x m hp hm => by
  cases m with
  | zero => omega
  | succ m =>
    show (true && [D.sc (.int x.1), D.sc (.str x.2)].all (lay m)) = true
    cases m <;> (simp [lay]; exact hp)⟩
theorem itm_eP : itm = eP eI eS := rfl
theorem int_beq (a b : Int) : (a == b) = decide (a = b) := DL.beq_dec a b
instance : EqF eI eI := ⟨fun x y => int_beq x y⟩
instance : EqF eN eN := ⟨fun x y => by
  show ((x : Int) == (y : Int)) = _
  rw [int_beq, decide_eq_decide]; omega⟩
instance : EqF eB eB := ⟨fun x y => by show (x == y) = _; exact DL.beq_dec x y⟩
instance : EqF eS eS := ⟨fun x y => by show (x == y) = _; exact DL.beq_dec x y⟩
theorem eqv_em {α : Type} [DecidableEq α] {f g : α → D} [h : EqF f g] : ∀ xs ys : List α, PyData.eqvAll (toPs (em f xs)) (toPs (em g ys)) = decide (xs = ys)
  | [], [] => rfl
  | [], _ :: _ => rfl
  | _ :: _, [] => rfl
  | x :: xs, y :: ys => by
    show (PyData.eqv (toP (f x)) (toP (g y)) && PyData.eqvAll (toPs (em f xs)) (toPs (em g ys))) = _
    rw [h.eqv, eqv_em xs ys]
    simp
instance {α : Type} [DecidableEq α] {f g : α → D} [h : EqF f g] {m m' : Bool} : EqF (eL m f) (eL m' g) := ⟨fun xs ys => eqv_em xs ys⟩
instance {α : Type} [DecidableEq α] {f g : α → D} [h : EqF f g] : EqF (eT f) (eT g) := ⟨fun xs ys => eqv_em xs ys⟩
instance {α β : Type} [DecidableEq α] [DecidableEq β] {f g : α → D} {f' g' : β → D} [h : EqF f g] [h' : EqF f' g'] : EqF (eP f f') (eP g g') := ⟨fun x y => by
  show (PyData.eqv (toP (f x.1)) (toP (g y.1)) && (PyData.eqv (toP (f' x.2)) (toP (g' y.2)) && true)) = _
  rw [h.eqv, h'.eqv, Bool.and_true, ← Bool.decide_and, decide_eq_decide]
  exact ⟨fun ⟨a, b⟩ => Prod.ext a b, fun e => e ▸ ⟨rfl, rfl⟩⟩⟩
instance : EqF itm itm := inferInstanceAs (EqF (eP eI eS) (eP eI eS))
theorem fEq_of {x y : D} {b : Bool} (hx : lay 64 x = true) (hy : lay 64 y = true) (e : PyData.eqv (toP x) (toP y) = b) : fEq [x, y] = some (.sc (.bl b)) := by
  show (if lay 64 x && lay 64 y then _ else _) = _
  rw [hx, hy, e]; rfl
theorem fNe_of {x y : D} {b : Bool} (hx : lay 64 x = true) (hy : lay 64 y = true) (e : PyData.eqv (toP x) (toP y) = b) : fNe [x, y] = some (.sc (.bl (!b))) := by
  show (if lay 64 x && lay 64 y then _ else _) = _
  rw [hx, hy, e]; rfl
section
variable {α : Type} [DecidableEq α] {f g : α → D} {n n' : Nat} {P P' : α → Bool} [LayF f n P] [LayF g n' P'] [EqF f g]
theorem fEq_s {x y : α} (hx : P x = true) (hy : P' y = true) (hn : n ≤ 64) (hn' : n' ≤ 64) : fEq [f x, g y] = some (.sc (.bl (decide (x = y)))) := fEq_of (LayF.lay x 64 hx hn) (LayF.lay y 64 hy hn') (EqF.eqv x y)
theorem fNe_s {x y : α} (hx : P x = true) (hy : P' y = true) (hn : n ≤ 64) (hn' : n' ≤ 64) : fNe [f x, g y] = some (.sc (.bl (!decide (x = y)))) := fNe_of (LayF.lay x 64 hx hn) (LayF.lay y 64 hy hn') (EqF.eqv x y)
end
@[simp] theorem fEq_ii (i j : Int) : fEq [.sc (.int i), .sc (.int j)] = some (.sc (.bl (decide (i = j)))) := fEq_s (f := eI) (g := eI) rfl rfl (by omega) (by omega)
@[simp] theorem fNe_ii (i j : Int) : fNe [.sc (.int i), .sc (.int j)] = some (.sc (.bl (!decide (i = j)))) := fNe_s (f := eI) (g := eI) rfl rfl (by omega) (by omega)
@[simp] theorem fEq_LI (m m' : Bool) (xs ys : List Int) : fEq [.nd (.lst m) (em eI xs), .nd (.lst m') (em eI ys)] = some (.sc (.bl (decide (xs = ys)))) := fEq_s (f := eL m eI) (g := eL m' eI) (by simp) (by simp) (by omega) (by omega)
@[simp] theorem fNe_LI (m m' : Bool) (xs ys : List Int) : fNe [.nd (.lst m) (em eI xs), .nd (.lst m') (em eI ys)] = some (.sc (.bl (!decide (xs = ys)))) := fNe_s (f := eL m eI) (g := eL m' eI) (by simp) (by simp) (by omega) (by omega)
@[simp] theorem fEq_TI (xs ys : List Int) : fEq [.nd .tup (em eI xs), .nd .tup (em eI ys)] = some (.sc (.bl (decide (xs = ys)))) := fEq_s (f := eT eI) (g := eT eI) (by simp) (by simp) (by omega) (by omega)
@[simp] theorem fNe_TI (xs ys : List Int) : fNe [.nd .tup (em eI xs), .nd .tup (em eI ys)] = some (.sc (.bl (!decide (xs = ys)))) := fNe_s (f := eT eI) (g := eT eI) (by simp) (by simp) (by omega) (by omega)
@[simp] theorem fEq_LN (m m' : Bool) (xs ys : List Nat) : fEq [.nd (.lst m) (em eN xs), .nd (.lst m') (em eN ys)] = some (.sc (.bl (decide (xs = ys)))) := fEq_s (f := eL m eN) (g := eL m' eN) (by simp) (by simp) (by omega) (by omega)
@[simp] theorem fNe_LN (m m' : Bool) (xs ys : List Nat) : fNe [.nd (.lst m) (em eN xs), .nd (.lst m') (em eN ys)] = some (.sc (.bl (!decide (xs = ys)))) := fNe_s (f := eL m eN) (g := eL m' eN) (by simp) (by simp) (by omega) (by omega)
@[simp] theorem fEq_TN (xs ys : List Nat) : fEq [.nd .tup (em eN xs), .nd .tup (em eN ys)] = some (.sc (.bl (decide (xs = ys)))) := fEq_s (f := eT eN) (g := eT eN) (by simp) (by simp) (by omega) (by omega)
@[simp] theorem fNe_TN (xs ys : List Nat) : fNe [.nd .tup (em eN xs), .nd .tup (em eN ys)] = some (.sc (.bl (!decide (xs = ys)))) := fNe_s (f := eT eN) (g := eT eN) (by simp) (by simp) (by omega) (by omega)
abbrev okR (l : List It2) : Bool := l.all tagOk
@[simp] theorem fEq_LR (m m' : Bool) (xs ys : List It2) (hx : okR xs = true) (hy : okR ys = true) : fEq [.nd (.lst m) (em itm xs), .nd (.lst m') (em itm ys)] = some (.sc (.bl (decide (xs = ys)))) := fEq_s (f := eL m itm) (g := eL m' itm) hx hy (by omega) (by omega)
@[simp] theorem fNe_LR (m m' : Bool) (xs ys : List It2) (hx : okR xs = true) (hy : okR ys = true) : fNe [.nd (.lst m) (em itm xs), .nd (.lst m') (em itm ys)] = some (.sc (.bl (!decide (xs = ys)))) := fNe_s (f := eL m itm) (g := eL m' itm) hx hy (by omega) (by omega)
/-! ### loops with a typed state -/
theorem rng_inv {σ : Type} {i : Nat} {b : DenS} {lo : Int} {n : Nat} (e : σ → List D) (Iv : Nat → σ → Prop) {s0 : σ} (h0 : Iv 0 s0) (hi : ∀ s, i < (e s).length) (st : ∀ j s, j < n → Iv j s → ∃ s', (b ((e s).set i (.sc (.int (lo + (j : Int))))) = .nx (e s') ∨ b ((e s).set i (.sc (.int (lo + (j : Int))))) = .ct (e s')) ∧ Iv (j + 1) s') :
    ∃ s, loopD (dgName i) b (rngD lo n) (e s0) = .nx (e s) ∧ Iv n s := by
  obtain ⟨E', eL, s, rfl, h⟩ := loop_rng (i := i) (b := b) (lo := lo) (n := n) (E := e s0) (Jv := fun j E => ∃ s, E = e s ∧ Iv j s) ⟨s0, rfl, h0⟩ fun j E hj ⟨s, e1, h⟩ => by
    subst e1
    obtain ⟨s', h1, h2⟩ := st j s hj h
    exact ⟨hi s, e s', h1, s', rfl, h2⟩
  exact ⟨s, eL, h⟩
theorem lst_inv {α σ : Type} {f : α → D} {dg : DenG} {b : DenS} {xs : List α} (e : σ → List D) (Iv : List α → σ → Prop) {s0 : σ} (h0 : Iv [] s0) (st : ∀ pre x post s, xs = pre ++ x :: post → Iv pre s → ∃ E1 s', dg (f x) (e s) = some E1 ∧ (b E1 = .nx (e s') ∨ b E1 = .ct (e s')) ∧ Iv (pre ++ [x]) s') :
    ∃ s, loopD dg b (em f xs) (e s0) = .nx (e s) ∧ Iv xs s := by
  obtain ⟨E', eL, s, rfl, h⟩ := loop_inv (dg := dg) (b := b) (xs := xs) (f := f) (E := e s0) (Jv := fun pre E => ∃ s, E = e s ∧ Iv pre s) ⟨s0, rfl, h0⟩ fun pre x post E hx ⟨s, e1, h⟩ => by
    subst e1
    obtain ⟨E1, s', h1, h2, h3⟩ := st pre x post s hx h
    exact ⟨E1, e s', h1, h2, s', rfl, h3⟩
  exact ⟨s, eL, h⟩
/-- a while loop over a typed state, by a measure -/
theorem while_inv {σ : Type} {c : DenT} {b : DenS} (e : σ → List D) (Iv : σ → Prop) (mu : σ → Nat) {s0 : σ} (h0 : Iv s0) (st : ∀ s, Iv s → (∃ E1, c (e s) = .ok (false, E1) ∧ E1 = e s) ∨ (c (e s) = .ok (true, e s) ∧ ∃ s', (b (e s) = .nx (e s') ∨ b (e s) = .ct (e s')) ∧ Iv s' ∧ mu s' < mu s)) :
    ∃ s, dWhile c b (e s0) = .nx (e s) ∧ Iv s ∧ c (e s) = .ok (false, e s) := by
  generalize hm : mu s0 = m
  induction m using Nat.strongRecOn generalizing s0 with
  | ind m ih =>
    rw [DL.while_turn]
    rcases st s0 h0 with ⟨E1, e1, e2⟩ | ⟨e1, s', hb, h', lt⟩
    · subst e2
      rw [e1]
      exact ⟨s0, rfl, h0, e1⟩
    · rw [e1]
      obtain ⟨s, w, i, q⟩ := ih (mu s') (hm ▸ lt) h' rfl
      refine ⟨s, ?_, i, q⟩
      show (b (e s0)).lk _ = _
      rcases hb with hb | hb <;> rw [hb] <;> exact w
theorem foldl_app {α β : Type} (f : α → β) : ∀ (xs : List α) (acc : List β), xs.foldl (fun a x => a ++ [f x]) acc = acc ++ xs.map f
  | [], acc => by simp
  | x :: xs, acc => by rw [List.foldl_cons, foldl_app f xs]; simp
theorem range_map_succ {β : Type} (f : Nat → β) (j : Nat) : (List.range (j + 1)).map f = (List.range j).map f ++ [f j] := by simp [List.range_succ]
theorem range_filter_succ (f : Nat → Bool) (j : Nat) : (List.range (j + 1)).filter f = (List.range j).filter f ++ (if f j then [j] else []) := by
  rw [List.range_succ, List.filter_append]; cases h : f j <;> simp [h]
/-! ### the law's own loop over the script -/
theorem cells {b : DenS} {ns : List Int} {E : List D} {m : Nat} (hE : E[0]? = some (.kl ns)) (Jv : List D → Prop) (h0 : Jv E) (st : ∀ (k : Nat) (E : List D), Jv E → k < m → 1 < E.length ∧ ∃ E2, b (E.set 1 (.sc (.int k))) = .nx E2 ∧ Jv E2) :
    ∀ n : Nat, n ≤ m → ∃ E', loopD (dgName 1) b (rngD 0 n) E = .nx E' ∧ Jv E' := by
  intro n hn
  exact loop_rng (Jv := fun _ E => Jv E) h0 fun j E hj hi => by
    obtain ⟨h1, E2, h2, h3⟩ := st j E hi (by omega)
    exact ⟨h1, E2, .inl (by simpa using h2), h3⟩
end DL

end
section
set_option maxRecDepth 100000
/-! DL, part 21: the later rules' equations. -/
namespace DL
open PySem L2
@[simp] theorem ev_mClear (ds : List D) : mClear (.lst true) ds [] = some (.sc .non, .lst true, []) := id rfl
theorem all_lay {α : Type} {f : α → D} {n : Nat} {P : α → Bool} [h : LayF f n P] (xs : List α) (m : Nat) (hp : xs.all P = true) (hm : n ≤ m) : (em f xs).all (lay m) = true := by
  rw [List.all_eq_true]
  intro d hd
  obtain ⟨x, hx, rfl⟩ := List.mem_map.mp hd
  exact h.lay x m (List.all_eq_true.mp hp x hx) hm
theorem ixD_em {α : Type} [DecidableEq α] {f g : α → D} [h : EqF f g] (x : α) (xs : List α) : ixD (g x) (em f xs) = xs.findIdx? fun z => decide (z = x) := by
  unfold ixD em
  rw [List.findIdx?_map]
  congr 1
  funext z
  exact h.eqv z x
@[simp] theorem mIndex_I (l : List Int) (v : Int) : mIndex (.lst true) (em eI l) [.sc (.int v)] = (l.findIdx? fun z => decide (z = v)).map fun (j : Nat) => (.sc (.int (j : Nat)), .lst true, em eI l) := by
  have h1 := all_lay (f := eI) l 60 (by simp) (by omega)
  have h2 := ixD_em (f := eI) (g := eI) v l
  show (if (em eI l).all (lay 60) && true then (ixD (.sc (.int v)) (em eI l)).map _ else none) = _
  rw [h1]
  show (ixD (eI v) (em eI l)).map _ = _
  rw [h2]
theorem count_cast (d : Nat) : ∀ l : List Nat, (l.map fun (i : Nat) => (i : Int)).count (d : Int) = l.count d
  | [] => rfl
  | x :: l => by
    rw [List.map_cons, List.count_cons, List.count_cons, count_cast d l]
    by_cases h : x = d
    · subst h; simp
    · have h' : ¬ (x : Int) = d := by omega
      have e1 : (x == d) = false := by simpa using h
      have e2 : ((x : Int) == (d : Int)) = false := by simpa using h'
      rw [e1, e2]
@[simp] theorem mCount_N (l : List Nat) (v : Nat) : mCount (.lst true) (em eN l) [.sc (.int (v : Int))] = some (.sc (.int (l.count v : Nat)), .lst true, em eN l) := by
  show (intsD (em eN l)).map _ = _
  rw [em_intsN]
  simp [count_cast]
@[simp] theorem ev_dEnum (das : DenA) (E : List D) : dEnum das E = (das E).bind fun r => match r.1 with
  | [.val (.nd (.lst _) ds)] => .ok (enumFrom 0 (fzs ds), r.2)
  | _ => .bad := id rfl
@[simp] theorem ev_dZip (das : DenA) (E : List D) : dZip das E = (das E).bind fun r => match r.1 with
  | [.val (.nd (.lst _) ds), .val (.nd (.lst _) es)] => .ok (zipD (fzs ds) (fzs es), r.2)
  | _ => .bad := id rfl
theorem enum_em {α : Type} (f : α → D) : ∀ (xs : List α) (k : Nat), enumFrom k (em f xs) = em (fun p : Nat × α => .nd .tup [.sc (.int (p.1 : Int)), f p.2]) ((xs.zipIdx k).map fun p => (p.2, p.1))
  | [], k => rfl
  | x :: xs, k => by
    show .nd .tup [.sc (.int (k : Int)), f x] :: enumFrom (k + 1) (em f xs) = _
    rw [enum_em f xs (k + 1)]; rfl
theorem zip_em {α β : Type} (f : α → D) (g : β → D) : ∀ (xs : List α) (ys : List β), zipD (em f xs) (em g ys) = em (eP f g) (xs.zip ys)
  | [], ys => by simp [zipD, em]
  | x :: xs, [] => by simp [zipD, em]
  | x :: xs, y :: ys => by
    show .nd .tup [f x, g y] :: zipD (em f xs) (em g ys) = _
    rw [zip_em f g xs ys]; rfl
def forXK (i : Nat) (dg : DenG) (b : DenS) (E : List D) (x : Option D) : S := match x with
  | some (.nd (.lst true) ds) => if ds.all Fz then putB i (.nd (.lst true) ds) (loopD dg b ds (E.set i .lent)) else .bad
  | some (.nd k ds) => if k.seq && (!k.mut && Fzs ds) then loopD dg b (fzs ds) E else .bad
  | some (.sc (.str z)) => loopD dg b (z.cps.toList.map fun c => .sc (.str ⟨#[c]⟩)) E
  | _ => .bad
@[simp] theorem ev_dForX (i : Nat) (dg : DenG) (b : DenS) (E : List D) : dForX i dg b E = forXK i dg b E E[i]? := by
  have e : ∀ x, E[i]? = x → (∀ ds, x ≠ some (.nd (.lst true) ds)) → dForX i dg b E = dFor (iSeq (dCopy (rName i))) dg b E := fun x hx h => by
    unfold dForX
    split
    · rename_i ds eE; exact absurd (hx.symm.trans eE) (h ds)
    · rfl
  cases eE : E[i]? with
  | none => rw [e _ eE (by simp)]; simp [eE, forXK]
  | some d =>
    cases d with
    | una => rw [e _ eE (by simp)]; simp [eE, forXK]
    | lent => rw [e _ eE (by simp)]; simp [eE, forXK, isUna]
    | kl xs => rw [e _ eE (by simp)]; simp [eE, forXK]
    | sc v =>
      rw [e _ eE (by simp)]
      cases v <;> simp [eE, forXK]
    | nd k ds =>
      by_cases hk : k = .lst true
      · subst hk; unfold dForX; rw [eE]; rfl
      · rw [e _ eE (by intro ds z; cases z; exact hk rfl)]
        have e2 : forXK i dg b E (some (.nd k ds)) = if k.seq && (!k.mut && Fzs ds) then loopD dg b (fzs ds) E else .bad := by
          unfold forXK
          cases k with
          | lst m => cases m with
            | true => exact absurd rfl hk
            | false => rfl
          | _ => rfl
        rw [e2]
        simp only [ev_dFor, ev_iSeq, ev_dCopy, ev_rName, eE, ev_una_n, if_false, Bool.false_eq_true, ev_rok, ev_getP_1, ev_Fz_3]
        cases h1 : (!k.mut && Fzs ds) with
        | true =>
          simp only [if_true, ev_rok, ev_itK, Bool.and_true]
          cases h2 : k.seq <;> simp
        | false => simp
@[simp] theorem forXK_t (i : Nat) (dg : DenG) (b : DenS) (E ds : List D) : forXK i dg b E (some (.nd (.lst true) ds)) = if ds.all Fz then putB i (.nd (.lst true) ds) (loopD dg b ds (E.set i .lent)) else .bad := id rfl
@[simp] theorem forXK_f (i : Nat) (dg : DenG) (b : DenS) (E ds : List D) : forXK i dg b E (some (.nd (.lst false) ds)) = if Fzs ds then loopD dg b (fzs ds) E else .bad := by show (if true && (true && Fzs ds) then _ else _) = _; simp
@[simp] theorem forXK_p (i : Nat) (dg : DenG) (b : DenS) (E ds : List D) : forXK i dg b E (some (.nd .tup ds)) = if Fzs ds then loopD dg b (fzs ds) E else .bad := by show (if true && (true && Fzs ds) then _ else _) = _; simp
@[simp] theorem forXK_s (i : Nat) (dg : DenG) (b : DenS) (E : List D) (z : Str) : forXK i dg b E (some (.sc (.str z))) = loopD dg b (z.cps.toList.map fun c => .sc (.str ⟨#[c]⟩)) E := id rfl
@[simp] theorem K1_t (i : Nat) (ds : List D) (s : S) : K1 i true ds s = putB i (.nd (.lst true) ds) s := id rfl
@[simp] theorem K1_f (i : Nat) (ds : List D) (s : S) : K1 i false ds s = s := id rfl
@[simp] theorem asd_t (i : Nat) (E : List D) : asd i true E = E.set i .lent := id rfl
@[simp] theorem asd_f (i : Nat) (E : List D) : asd i false E = E := id rfl
@[simp] theorem ev_dForE (i : Nat) (dg : DenG) (b : DenS) (E : List D) : dForE i dg b E = match E[i]? with
  | some (.nd (.lst m) ds) => if ds.all Fz then K1 i m ds (loopD dg b (enumFrom 0 ds) (asd i m E)) else .bad
  | _ => .bad := id rfl
@[simp] theorem ev_dForZ (i j : Nat) (dg : DenG) (b : DenS) (E : List D) : dForZ i j dg b E = match E[i]?, E[j]? with
  | some (.nd (.lst m) ds), some (.nd (.lst m') es) => if ds.all Fz && es.all Fz then K1 i m ds (K1 j m' es (loopD dg b (zipD ds es) (asd j m' (asd i m E)))) else .bad
  | _, _ => .bad := id rfl
@[simp] theorem ev_dEnum2 (das : DenA) (E : List D) : dEnum2 das E = (das E).bind fun r => match r.1 with
  | [.val (.nd (.lst _) ds)] => .ok (enumFrom 0 (fzs ds), r.2)
  | [.val (.nd .tup ds)] => .ok (enumFrom 0 (fzs ds), r.2)
  | _ => .bad := id rfl
@[simp] theorem ev_dForE2 (i : Nat) (dg : DenG) (b : DenS) (E : List D) : dForE2 i dg b E = match E[i]? with
  | some (.nd .tup ds) => if Fzs ds then loopD dg b (enumFrom 0 (fzs ds)) E else .bad
  | _ => dForE i dg b E := by
  unfold dForE2
  split
  · rename_i ds e
    show ((aCons true (dCopy (rName i)) aNil E).bind _).toS _ = _
    simp only [ev_aCons, ev_dCopy, rName, e]
    by_cases h : Fzs ds = true
    · simp [e, h, stab]
    · simp [e, h, stab]
  · rename_i h
    first
    | rfl
    | (split
       · rename_i ds e; exact absurd e (h ds)
       · rfl)
theorem loop_c (dg : DenG) (b : DenS) (d : D) (ds E : List D) : loopD dg b (d :: ds) E = match dg d E with
    | some E1 => (b E1).lk (loopD dg b ds)
    | none => .bad := by
  cases h : dg d E with
  | some E1 => exact loop_cons h
  | none => conv => lhs; unfold loopD
            rw [h]
@[simp] theorem ev_dIxT (pu2 : Bool) (d1 d2 : Den) (E : List D) : dIxT pu2 d1 d2 E = (aCons pu2 d1 (aCons true d2 aNil) E).bind ixT := id rfl
@[simp] theorem ev_ixT (k : Kd) (ds E : List D) (q : Opd) : ixT ([.val (.nd k ds), q], E) = match cont E q with
    | some (.sc (.int i)) => if k.seq then (match ixN ds.length i with
      | some j => match ds[j]? with
        | some d => .ok (.val d, E)
        | none => .bad
      | none => .bad) else .bad
    | _ => .bad := id rfl
/-! ### sorted -/
theorem sorted_of {f : α → D} (m : Bool) (xs ys : List α) (hf : Fzs (em f xs) = true) (ok : srtOk (em f xs) = true) (e : (em f xs).mergeSort leD = em f ys) : fSorted [.nd (.lst m) (em f xs)] = some (.nd (.lst true) (em f ys)) := by
  show (if Fzs (em f xs) && srtOk (em f xs) then _ else _) = _
  rw [hf, ok, e]; rfl
theorem sort_em {α : Type} (f : α → D) (le : α → α → Bool) (h : ∀ x y, leD (f x) (f y) = le x y) (xs : List α) : (em f xs).mergeSort leD = em f (xs.mergeSort le) := by
  unfold em
  exact (List.map_mergeSort (r := le) (s := leD) (f := f) fun a _ b _ => (h a b).symm).symm
theorem srtOk_of {ds : List D} (h1 : PySem.W.AllAlike (ds.map toP)) (h2 : PySem.W.Sortable (ds.map toP)) (h3 : ds.all (lay 60) = true) : srtOk ds = true := by
  unfold srtOk; exact @decide_eq_true _ (_) ⟨h1, h2, h3⟩
theorem leD_I (x y : Int) : leD (.sc (.int x)) (.sc (.int y)) = decide (x ≤ y) := congrFun (congrFun (PySem.W.dataLe_int (β := Int) id) x) y
theorem fSorted_I (m : Bool) (l : List Int) : fSorted [.nd (.lst m) (em eI l)] = some (.nd (.lst true) (em eI (l.mergeSort fun x y => decide (x ≤ y)))) := by
  refine sorted_of m l _ (by simp) (srtOk_of ?_ ?_ (all_lay (f := eI) l 60 (by simp) (by omega))) (sort_em eI _ leD_I l)
  · have : (em eI l).map toP = l.map fun i => PyData.int i := by simp [em, toP, Function.comp_def]
    rw [this]; exact PySem.W.AllAlike.of fun _ _ => by simp [PySem.W.alike]
  · have : (em eI l).map toP = l.map fun i => PyData.int i := by simp [em, toP, Function.comp_def]
    rw [this]; exact PySem.W.Sortable.others fun _ => ⟨by simp, by simp⟩
theorem leD_S (x y : It2) : leD (itm x) (itm y) = !ltI y x := by
  show (!PySem.W.dataLt (.tuple [.int y.1, .str y.2]) (.tuple [.int x.1, .str x.2])) = _
  rw [PySem.W.dataLt_pair (by simp [PySem.W.alike]) (by simp [PySem.W.alike]), PySem.W.dataLt_int, PySem.W.dataLt_str]
  simp only [PyData.eqv, beq_iff_eq, ltI]
  by_cases h1 : y.1 = x.1
  · by_cases h2 : y.2 = x.2
    · simp [h1, h2]
    · simp [h1, h2]
  · simp [h1]
theorem fSorted_R (m : Bool) (l : List It2) (hl : okR l = true) : fSorted [.nd (.lst m) (em itm l)] = some (.nd (.lst true) (em itm (l.mergeSort fun x y => !ltI y x))) := by
  refine sorted_of m l _ (by simp) (srtOk_of ?_ ?_ (all_lay (f := itm) l 60 hl (by omega))) (sort_em itm _ leD_S l)
  · have : (em itm l).map toP = l.map fun i => PyData.tuple [.int i.1, .str i.2] := by simp [em, toP, toPs, itm, Function.comp_def]
    rw [this]; exact PySem.W.AllAlike.of fun _ _ => by simp [PySem.W.alike, PySem.W.alikeAll]
  · have : (em itm l).map toP = l.map fun i => PyData.tuple [.int i.1, .str i.2] := by simp [em, toP, toPs, itm, Function.comp_def]
    rw [this]; exact PySem.W.Sortable.tuples fun _ => ⟨_, _, rfl⟩
/-! ### == with the empty list -/
theorem eqv_nilr {α : Type} (f : α → D) (xs : List α) : PyData.eqvAll (toPs (em f xs)) [] = xs.isEmpty := by cases xs <;> rfl
theorem eqv_nill {α : Type} (f : α → D) (xs : List α) : PyData.eqvAll [] (toPs (em f xs)) = xs.isEmpty := by cases xs <;> rfl
section
variable {α : Type} {f : α → D} {n : Nat} {P : α → Bool} [h : LayF f n P]
@[simp] theorem fEq_nil (m m' : Bool) (xs : List α) (hp : xs.all P = true) (hn : n ≤ 63) : fEq [.nd (.lst m) (em f xs), .nd (.lst m') []] = some (.sc (.bl xs.isEmpty)) := fEq_of (lay_l (f := f) rfl xs 64 hp (by omega)) rfl (eqv_nilr f xs)
@[simp] theorem fNe_nil (m m' : Bool) (xs : List α) (hp : xs.all P = true) (hn : n ≤ 63) : fNe [.nd (.lst m) (em f xs), .nd (.lst m') []] = some (.sc (.bl (!xs.isEmpty))) := fNe_of (lay_l (f := f) rfl xs 64 hp (by omega)) rfl (eqv_nilr f xs)
end
@[simp] theorem fEq_00 (m m' : Bool) : fEq [.nd (.lst m) [], .nd (.lst m') []] = some (.sc (.bl true)) := fEq_of rfl rfl rfl
@[simp] theorem fNe_00 (m m' : Bool) : fNe [.nd (.lst m) [], .nd (.lst m') []] = some (.sc (.bl false)) := fNe_of rfl rfl rfl
/-! ### loops over enumerate -/
theorem enum_inv {α σ : Type} {f : α → D} {dg : DenG} {b : DenS} {xs : List α} (e : σ → List D) (Iv : Nat → σ → Prop) {s0 : σ} (h0 : Iv 0 s0) (st : ∀ j x s, xs[j]? = some x → Iv j s → ∃ E1 s', dg (.nd .tup [.sc (.int (j : Int)), f x]) (e s) = some E1 ∧ (b E1 = .nx (e s') ∨ b E1 = .ct (e s')) ∧ Iv (j + 1) s') :
    ∃ s, loopD dg b (enumFrom 0 (em f xs)) (e s0) = .nx (e s) ∧ Iv xs.length s := by
  obtain ⟨E', eL, s, rfl, h⟩ := loop_all (dg := dg) (b := b) (ds := enumFrom 0 (em f xs)) (E := e s0) (Jv := fun j E => ∃ s, E = e s ∧ Iv j s) ⟨s0, rfl, h0⟩ fun j d E ed ⟨s, e1, h⟩ => by
    subst e1
    rw [enum_at, em_at] at ed
    cases ex : xs[j]? with
    | none => rw [ex] at ed; cases ed
    | some x =>
      rw [ex] at ed; cases ed
      obtain ⟨E1, s', h1, h2, h3⟩ := st j x s ex h
      have e0 : (0 + j : Nat) = j := by omega
      rw [e0]
      exact ⟨E1, e s', h1, h2, s', rfl, h3⟩
  refine ⟨s, eL, ?_⟩
  have hl : (enumFrom 0 (em f xs)).length = xs.length := by rw [enum_em]; simp
  rw [hl] at h; exact h
def eO : Option Nat → D
  | none => .sc .non
  | some n => .sc (.int (n : Int))
@[simp] theorem eO_none : eO none = .sc .non := rfl
@[simp] theorem eO_some (n : Nat) : eO (some n) = .sc (.int (n : Int)) := rfl
@[simp] theorem em_setN (l : List Nat) (k n : Nat) : (em eN l).set k (.sc (.int ((n : Int) + 1))) = em eN (l.set k (n + 1)) := by
  have : D.sc (.int ((n : Int) + 1)) = eN (n + 1) := by simp
  rw [this, em_set]
@[simp] theorem isNon_int (i : Int) : (decide (V.int i = V.non)) = false := by simp
end DL

end
section
set_option maxRecDepth 100000
/-! DL, part 22: equations of ranges with a step, of data's min, of remove. -/
namespace DL
open PySem L2
open Classical in
noncomputable def rg3Ok (i j c : Int) : Bool := @decide (0 < c ∧ c < 1073741824 ∧ Builtin.Range.small i j c = true) (propDecidable _)
def rSz (i j c : Int) : Nat := (Builtin.Range.rangeSize i j c).toNat
theorem rg3Ok_s {i j c : Int} (h0 : 0 < c) (h1 : c < 1000000) (h2 : -1000000000 ≤ i) (h3 : i < 1000000000) (h4 : -1000000000 ≤ j) (h5 : j < 1000000000) : rg3Ok i j c = true := by
  unfold rg3Ok
  refine @decide_eq_true _ (_) ⟨h0, by omega, ?_⟩
  have hz : 0 ≤ Builtin.Range.rangeSize i j c ∧ Builtin.Range.rangeSize i j c ≤ 3000000000 := by
    unfold Builtin.Range.rangeSize
    rw [if_pos (show c > 0 from h0)]
    split
    · have h6 : 0 ≤ (j - i - 1) / c := Int.ediv_nonneg (by omega) (by omega)
      have h7 : (j - i - 1) / c ≤ j - i - 1 := Int.ediv_le_self _ (by omega)
      omega
    · omega
  unfold Builtin.Range.small
  generalize Builtin.Range.rangeSize i j c = z at hz
  simp only [Builtin.Range.rangeFitsLong, Bool.and_eq_true, Bool.or_eq_true, decide_eq_true_eq, beq_iff_eq, show (c > 0) from h0, if_true]
  omega
theorem rg3_if {α : Type} (i j c : Int) (a b : α) : (if 0 < c ∧ c < 1073741824 ∧ Builtin.Range.small i j c = true then a else b) = if rg3Ok i j c then a else b := by
  unfold rg3Ok
  by_cases h : 0 < c ∧ c < 1073741824 ∧ Builtin.Range.small i j c = true
  · rw [if_pos h, if_pos (@decide_eq_true _ (_) h)]
  · rw [if_neg h, if_neg (by simpa using h)]
@[simp] theorem ev_dR3 (das : DenA) (E : List D) : dR3 das E = (das E).bind fun r => match conts r.2 r.1 with
  | some [.sc (.int i), .sc (.int j), .sc (.int c)] => if rg3Ok i j c then .ok (rngC i c (rSz i j c), r.2) else .bad
  | _ => .bad := by
  simp only [← rg3_if]; exact id rfl
theorem rSz_pos (m c : Nat) (hc : 0 < c) : rSz 0 (m : Int) (c : Int) = (m + c - 1) / c := by
  unfold rSz Builtin.Range.rangeSize
  rw [if_pos (by omega)]
  by_cases h : (0 : Int) < m
  · rw [if_pos h]
    have e : ((m : Int) - 0 - 1) / (c : Int) + 1 = (((m - 1) / c + 1 : Nat) : Int) := by
      have : (m : Int) - 0 - 1 = ((m - 1 : Nat) : Int) := by omega
      rw [this]; norm_cast
    rw [e]
    have e2 : m + c - 1 = (m - 1) + c := by omega
    rw [e2, Nat.add_div_right _ hc, Int.toNat_natCast]
  · rw [if_neg h]
    have : m = 0 := by omega
    subst this
    simp
    rw [Nat.div_eq_of_lt (by omega)]
theorem rngC_em (c n : Nat) : rngC 0 (c : Int) n = em eN ((List.range n).map (· * c)) := by
  unfold rngC em eN
  rw [List.map_map]
  refine List.map_congr_left fun k _ => ?_
  simp
/-! ### min -/
def minI (a : It2) (l : List It2) : It2 := l.foldl (fun a y => if ltI y a then y else a) a
theorem minI_mem (l : List It2) : ∀ a, minI a l ∈ a :: l := by
  induction l with
  | nil => intro a; exact List.mem_cons_self
  | cons y l ih =>
    intro a
    have := ih (if ltI y a then y else a)
    show minI (if ltI y a then y else a) l ∈ _
    rcases List.mem_cons.mp this with e | e
    · rw [e]; split
      · exact List.mem_cons_of_mem _ List.mem_cons_self
      · exact List.mem_cons_self
    · exact List.mem_cons_of_mem _ (List.mem_cons_of_mem _ e)
theorem toP_itm (a : It2) : toP (itm a) = .tuple [.int a.1, .str a.2] := rfl
theorem dataLt_itm (a b : It2) : PySem.W.dataLt (toP (itm a)) (toP (itm b)) = ltI a b := by
  have h := leD_S b a
  unfold leD at h
  have e : PySem.W.dataLe false toP (itm b) (itm a) = !PySem.W.dataLt (toP (itm a)) (toP (itm b)) := by
    first | rfl | simp [PySem.W.dataLe]
  rw [e] at h
  simpa using h
theorem minD_itm (l : List It2) : ∀ a, PySem.W.minD (toP (itm a)) (toPs (em itm l)) = toP (itm (minI a l)) := by
  induction l with
  | nil => intro a; rfl
  | cons y l ih =>
    intro a
    have := ih (if ltI y a then y else a)
    show PySem.W.minD (if PySem.W.dataLt (toP (itm y)) (toP (itm a)) then toP (itm y) else toP (itm a)) (toPs (em itm l)) = toP (itm (minI (if ltI y a then y else a) l))
    rw [dataLt_itm]
    cases h : ltI y a with
    | true => rw [h] at this; exact this
    | false => rw [h] at this; exact this
theorem toP_inj {a b : It2} (h : toP (itm a) = toP (itm b)) : a = b := by
  rw [toP_itm, toP_itm] at h
  injection h with h
  injection h with h1 h2
  injection h1 with h1
  injection h2 with h2 _
  injection h2 with h2
  exact Prod.ext h1 h2
theorem minOk_itm (l : List It2) (hl : okR l = true) : minOk (em itm l) = true := by
  unfold minOk
  refine @decide_eq_true _ (_) ⟨⟨?_, ?_⟩, ?_, all_lay (f := itm) l 60 hl (by omega), ?_⟩
  · intro x hx y hy
    rw [toPs_map] at hx hy
    obtain ⟨d, hd, rfl⟩ := List.mem_map.mp hx
    obtain ⟨e, he, rfl⟩ := List.mem_map.mp hy
    obtain ⟨a, _, rfl⟩ := List.mem_map.mp hd
    obtain ⟨b, _, rfl⟩ := List.mem_map.mp he
    rfl
  · intro x hx
    rw [toPs_map] at hx
    obtain ⟨d, hd, rfl⟩ := List.mem_map.mp hx
    obtain ⟨a, _, rfl⟩ := List.mem_map.mp hd
    intro z; cases z
  · induction l with
    | nil => rfl
    | cons a l ih =>
      have h2 : okR l = true := by simp only [List.all_cons, Bool.and_eq_true] at hl; exact hl.2
      have := ih h2
      show ((toP (itm a)).plain && PyData.plainAll (toPs (em itm l))) = true
      rw [this]; rfl
  · intro a ha b hb h
    obtain ⟨x, _, rfl⟩ := List.mem_map.mp ha
    obtain ⟨y, _, rfl⟩ := List.mem_map.mp hb
    rw [toP_inj h]
theorem fMin_itm (m : Bool) (a : It2) (l : List It2) (hl : okR (a :: l) = true) : fMinData [.nd (.lst m) (em itm (a :: l))] = some (itm (minI a l)) := by
  have h1 := minOk_itm (a :: l) hl
  have h2 : Fzs (em itm (a :: l)) = true := by simp
  have h3 := minD_itm l a
  show (if Fzs (em itm (a :: l)) && minOk (em itm (a :: l)) then (em itm (a :: l)).find? (fun e => @decide (toP e = PySem.W.minD (toP (itm a)) (toPs (em itm l))) (Classical.propDecidable _)) else none) = _
  rw [h1, h2, h3]
  simp only [Bool.and_self, if_true]
  have key : ∀ L : List It2, minI a l ∈ L → (em itm L).find? (fun e => @decide (toP e = toP (itm (minI a l))) (Classical.propDecidable _)) = some (itm (minI a l)) := by
    intro L
    induction L with
    | nil => intro h; cases h
    | cons b L ih =>
      intro h
      rw [em_cons, List.find?_cons]
      by_cases e : b = minI a l
      · subst e
        have : (@decide (toP (itm (minI a l)) = toP (itm (minI a l))) (Classical.propDecidable _)) = true := @decide_eq_true _ (_) rfl
        rw [this]
      · have : (@decide (toP (itm b) = toP (itm (minI a l))) (Classical.propDecidable _)) = false := @decide_eq_false _ (_) fun z => e (toP_inj z)
        rw [this]
        exact ih (by rcases List.mem_cons.mp h with h | h; exact absurd h.symm e; exact h)
  exact key _ (minI_mem l a)
/-! ### remove -/
theorem mRemove_itm (l : List It2) (p : It2) (hl : okR l = true) (hp : tagOk p = true) (hm : p ∈ l) : mRemove (.lst true) (em itm l) [itm p] = some (.sc .non, .lst true, em itm (l.erase p)) := by
  have h1 := all_lay (f := itm) l 60 hl (by omega)
  have h2 : lay 60 (itm p) = true := by
    have := all_lay (f := itm) [p] 60 (by simpa using hp) (by omega)
    exact List.all_eq_true.mp this _ (List.mem_map_of_mem List.mem_cons_self)
  have h3 : PyData.plainAll (toPs (em itm l)) = true := by
    clear hm h1 hl
    induction l with
    | nil => rfl
    | cons a l ih => show ((toP (itm a)).plain && PyData.plainAll (toPs (em itm l))) = true; rw [ih]; rfl
  have h4 : (toP (itm p)).plain = true := rfl
  have h5 : ixD (itm p) (em itm l) = some (l.idxOf p) := by
    rw [ixD_em (f := itm) (g := itm)]
    rw [List.findIdx?_eq_some_iff_getElem]
    refine ⟨List.idxOf_lt_length_iff.mpr hm, by simp, fun j hj => ?_⟩
    have := List.not_of_lt_findIdx (p := (· == p)) (show j < List.findIdx (· == p) l from hj)
    simpa using this
  unfold mRemove
  simp only [h1, h2, h3, h4, h5, Bool.and_self, if_true]
  rw [List.erase_eq_eraseIdx_of_idxOf (i := l.idxOf p) rfl]
  have er : ∀ (l : List It2) (k : Nat), (l.map itm).eraseIdx k = (l.eraseIdx k).map itm := by
    intro l
    induction l with
    | nil => intro k; rfl
    | cons a l ih => intro k; cases k with
      | zero => rfl
      | succ k => simp [ih]
  simp only [em, er]
@[simp] theorem ev_fIsiT (x : D) (ts : List D) : fIsiT [x, .nd .tup ts] = match tyD x, tysD ts with
    | some n, some ms => (isiAny n ms).map fun b => .sc (.bl b)
    | _, _ => none := id rfl
@[simp] theorem ev_tysD_0 : tysD [] = some [] := id rfl
@[simp] theorem ev_tysD_1 (m : String) (ds : List D) : tysD (.sc (.ty m) :: ds) = (tysD ds).map (m :: ·) := id rfl
@[simp] theorem ev_dViewL (d : Den) (E : List D) : dViewL d E = match d (fzs E) with
  | .ok r => (match r.1 with
    | .val c => if hotD c then .ok (.val c, E) else .bad
    | _ => .bad)
  | _ => .bad := id rfl
@[simp] theorem hotD_sc (v : V) : hotD (.sc v) = true := rfl
@[simp] theorem hotD_l (ds : List D) : hotD (.nd (.lst true) ds) = hotDs ds := by show (true && hotDs ds) = _; simp
@[simp] theorem hotDs_n : hotDs [] = true := rfl
@[simp] theorem hotDs_c (d : D) (ds : List D) : hotDs (d :: ds) = (hotD d && hotDs ds) := rfl
theorem hotDs_em {α : Type} (f : α → D) (l : List α) (h : ∀ x ∈ l, hotD (f x) = true) : hotDs (em f l) = true := by
  induction l with
  | nil => rfl
  | cons a l ih =>
    rw [em_cons, hotDs_c, h a List.mem_cons_self, ih fun x hx => h x (List.mem_cons_of_mem _ hx)]; rfl
@[simp] theorem hotDs_I (l : List Int) : hotDs (em eI l) = true := hotDs_em _ _ fun _ _ => rfl
@[simp] theorem hotDs_N (l : List Nat) : hotDs (em eN l) = true := hotDs_em _ _ fun _ _ => rfl
@[simp] theorem hotDs_B (l : List Bool) : hotDs (em eB l) = true := hotDs_em _ _ fun _ _ => rfl
end DL

end
section
set_option maxRecDepth 100000
/-! plain lists: levels of runs -/
namespace DL
open PySem L2
def nextL : List Int → List Int
  | [] => [0]
  | x :: xs => xs.map (x + ·) ++ [0]
def lev (d : Nat) : Nat → List Int
  | 0 => 1 :: List.replicate (d - 1) 0
  | n + 1 => nextL (lev d n)
theorem lev_len (d : Nat) (hd : 1 ≤ d) : ∀ n, (lev d n).length = d
  | 0 => by simp [lev]; omega
  | n + 1 => by
    have := lev_len d hd n
    unfold lev
    cases e : lev d n with
    | nil => rw [e] at this; simp at this; omega
    | cons x xs => rw [e] at this; simp [nextL] at this ⊢; omega
theorem lev_cons (d : Nat) (hd : 1 ≤ d) (n : Nat) : ∃ x xs, lev d n = x :: xs ∧ xs.length = d - 1 := by
  have := lev_len d hd n
  cases e : lev d n with
  | nil => rw [e] at this; simp at this; omega
  | cons x xs => rw [e] at this; exact ⟨x, xs, rfl, by simp at this; omega⟩
theorem lev_60 : ∀ d : Nat, 3 ≤ d → d ≤ 6 → (1000000000 : Int) ≤ (lev d 60).sum := by
  intro d h1 h2
  have : d = 3 ∨ d = 4 ∨ d = 5 ∨ d = 6 := by omega
  rcases this with rfl | rfl | rfl | rfl <;> decide +kernel
theorem lev_least (d : Nat) (m : Int) (h1 : 3 ≤ d) (h2 : d ≤ 6) (hm : m ≤ 1000000000) : ∃ N, N ≤ 60 ∧ m ≤ (lev d N).sum ∧ ∀ j, j < N → (lev d j).sum < m := by
  have h60 : m ≤ (lev d 60).sum := Int.le_trans hm (lev_60 d h1 h2)
  have : ∀ k, m ≤ (lev d k).sum → ∃ N, N ≤ k ∧ m ≤ (lev d N).sum ∧ ∀ j, j < N → (lev d j).sum < m := by
    intro k
    induction k using Nat.strongRecOn with
    | ind k ih =>
      intro hk
      by_cases h : ∃ j, j < k ∧ m ≤ (lev d j).sum
      · obtain ⟨j, hj, hs⟩ := h
        obtain ⟨N, hN, a, b⟩ := ih j hj hs
        exact ⟨N, by omega, a, b⟩
      · exact ⟨k, Nat.le_refl _, hk, fun j hj => by
          have : ¬ m ≤ (lev d j).sum := fun q => h ⟨j, hj, q⟩
          omega⟩
  exact this 60 h60
end DL

end
section
set_option maxRecDepth 100000
/-! plain lists: layouts and phases -/
namespace DL
open PySem L2
def gI0 (l : List Int) (i : Int) : Int := l.getD i.toNat 0
theorem gI0_at (l : List Int) (i : Int) (h0 : 0 ≤ i) (h : i < l.length) : l[i.toNat]? = some (gI0 l i) := by
  unfold gI0
  rw [List.getD_eq_getElem?_getD, List.getElem?_eq_getElem (by omega)]; rfl
theorem gI0_em (l : List Int) (i : Int) (h0 : 0 ≤ i) (h : i < l.length) : (em eI l)[i.toNat]? = some (.sc (.int (gI0 l i))) := by
  rw [em_at, gI0_at l i h0 h]; rfl
def srcGo (l : List Int) (t n : Int) : Int → List Int → Bool
  | _, [] => true
  | last, d :: ds => decide (last + 1 ≤ d) && decide (d ≤ l.length - 1) && !decide (d = t) && decide (n ≤ gI0 l d) && srcGo l t n d ds
def isPh (l : List Int) (t : Int) (s : List Int) (n : Int) : Bool := decide (0 ≤ t) && decide (t ≤ l.length - 1) && decide (gI0 l t = 0) && decide (0 < n) && decide (2 ≤ s.length) && srcGo l t n (-1) s
abbrev phD (t : Int) (s : List Int) (n : Int) : D := .nd .tup [.sc (.int t), .nd .tup (em eI s), .sc (.int n)]
def minus (n : Int) (l : List Int) (d : Int) : List Int := l.set d.toNat (gI0 l d - n)
def ledL (l : List Int) (t : Int) (s : List Int) (n : Int) : List Int := (s.foldl (minus n) l).set t.toNat n
theorem minus_len (n : Int) (l : List Int) (d : Int) : (minus n l d).length = l.length := by simp [minus]
theorem fold_minus_len (n : Int) : ∀ (s : List Int) (l : List Int), (s.foldl (minus n) l).length = l.length
  | [], l => rfl
  | d :: s, l => by rw [List.foldl_cons, fold_minus_len n s, minus_len]
theorem ledL_len (l : List Int) (t : Int) (s : List Int) (n : Int) : (ledL l t s n).length = l.length := by simp [ledL, fold_minus_len]
structure Ph (l : List Int) (t : Int) (s : List Int) (n : Int) : Prop where
  t0 : 0 ≤ t
  tl : t < l.length
  tz : gI0 l t = 0
  n0 : 0 < n
  s2 : 2 ≤ s.length
  go : srcGo l t n (-1) s = true
theorem ph_of {l : List Int} {t : Int} {s : List Int} {n : Int} (h : isPh l t s n = true) : Ph l t s n := by
  simp only [isPh, Bool.and_eq_true, decide_eq_true_eq] at h
  exact ⟨h.1.1.1.1.1, by have := h.1.1.1.1.2; omega, h.1.1.1.2, h.1.1.2, h.1.2, h.2⟩
theorem srcGo_mem {l : List Int} {t n : Int} : ∀ {s : List Int} {last : Int}, srcGo l t n last s = true → -1 ≤ last → ∀ d ∈ s, 0 ≤ d ∧ d < l.length ∧ d ≠ t ∧ n ≤ gI0 l d
  | [], last, h, h0, d, hd => by cases hd
  | x :: s, last, h, h0, d, hd => by
    simp only [srcGo, Bool.and_eq_true, decide_eq_true_eq, Bool.not_eq_true', decide_eq_false_iff_not] at h
    rcases List.mem_cons.mp hd with rfl | hd
    · exact ⟨by omega, by omega, h.1.1.2, h.1.2⟩
    · exact srcGo_mem h.2 (by omega) d hd
def lawLed (l : List Int) (t : Int) (s : List Int) (n : Int) : List Int := (List.range l.length).map fun (d : Nat) => gI0 l d + n * (if (d : Int) = t then 1 else 0) - n * (if (d : Int) ∈ s then 1 else 0)
def bares (l : List Int) : List Nat := (List.range l.length).filter fun (d : Nat) => decide (gI0 l d = 0)
def fulls (l : List Int) : List Nat := (List.range l.length).filter fun (d : Nat) => decide (0 < gI0 l d)
def nI (l : List Nat) : List Int := l.map fun (j : Nat) => (j : Int)
theorem nI_em (l : List Nat) : em eI (nI l) = em eN l := by simp [em, nI]
def bare0 (l : List Int) : Nat := (bares l).getD 0 0
def leastN (l : List Int) : Int := minL ((fulls l).map fun (d : Nat) => gI0 l d)
/-- a level that goes on by its one phase -/
def okL (l : List Int) : Bool := decide (l.length ≤ 6) && decide ((bares l).length = 1) && decide (2 ≤ (fulls l).length) && decide (1 < l.sum) && decide (leastN l < 1000000) && isPh l (bare0 l : Nat) (nI (fulls l)) (leastN l) &&
  decide (ledL l (bare0 l : Nat) (nI (fulls l)) (leastN l) = lawLed l (bare0 l : Nat) (nI (fulls l)) (leastN l))
def nextD (l : List Int) : List Int := ledL l (bare0 l : Nat) (nI (fulls l)) (leastN l)
def goesD : Nat → List Int → Bool
  | 0, l => decide (l.sum = 1)
  | n + 1, l => okL l && goesD n (nextD l)
theorem all_go : ∀ d : Nat, 3 ≤ d → d ≤ 6 → ∀ n : Nat, n < 13 → goesD n (lev d n) = true := by
  intro d h1 h2 n hn
  have hd : d = 3 ∨ d = 4 ∨ d = 5 ∨ d = 6 := by omega
  have hn : n = 0 ∨ n = 1 ∨ n = 2 ∨ n = 3 ∨ n = 4 ∨ n = 5 ∨ n = 6 ∨ n = 7 ∨ n = 8 ∨ n = 9 ∨ n = 10 ∨ n = 11 ∨ n = 12 := by omega
  rcases hd with rfl | rfl | rfl | rfl <;> rcases hn with rfl | rfl | rfl | rfl | rfl | rfl | rfl | rfl | rfl | rfl | rfl | rfl | rfl <;> decide +kernel
structure OkL (l : List Int) : Prop where
  len : l.length ≤ 6
  one : bares l = [bare0 l]
  two : 2 ≤ (fulls l).length
  sum : 1 < l.sum
  lt : leastN l < 1000000
  ph : isPh l (bare0 l : Nat) (nI (fulls l)) (leastN l) = true
  led : nextD l = lawLed l (bare0 l : Nat) (nI (fulls l)) (leastN l)
theorem okL_of {l : List Int} (h : okL l = true) : OkL l := by
  simp only [okL, Bool.and_eq_true, decide_eq_true_eq] at h
  refine ⟨h.1.1.1.1.1.1, ?_, h.1.1.1.1.2, h.1.1.1.2, h.1.1.2, h.1.2, h.2⟩
  have := h.1.1.1.1.1.2
  cases e : bares l with
  | nil => rw [e] at this; cases this
  | cons a r => cases r with
    | nil => rw [bare0, e]; rfl
    | cons b r => rw [e] at this; simp at this
def phs : Nat → List Int → List D
  | 0, _ => []
  | n + 1, l => phD (bare0 l : Nat) (nI (fulls l)) (leastN l) :: phs n (nextD l)
theorem phs_len : ∀ (n : Nat) (l : List Int), (phs n l).length = n
  | 0, _ => rfl
  | n + 1, l => by simp [phs, phs_len n]
theorem phs_fz : ∀ (n : Nat) (l : List Int), (phs n l).all Fz = true
  | 0, _ => rfl
  | n + 1, l => by simp [phs, phs_fz n]
end DL

end
section
set_option maxRecDepth 100000
/-! plain lists: runs dealt to drives -/
namespace DL
open PySem L2
def gN (l : List Int) (i : Nat) : Int := l.getD i 0
theorem gN_at (l : List Int) (i : Nat) (h : i < l.length) : l[i]? = some (gN l i) := by
  unfold gN; rw [List.getD_eq_getElem?_getD, List.getElem?_eq_getElem h]; rfl
theorem gN_get (l : List Int) (i : Nat) (h : i < l.length) : l[i] = gN l i := by
  have := gN_at l i h; rw [List.getElem?_eq_getElem h] at this; exact Option.some.inj this
theorem gN_set (l : List Int) (i j : Nat) (v : Int) (h : i < l.length) : gN (l.set i v) j = if j = i then v else gN l j := by
  unfold gN
  rw [List.getD_eq_getElem?_getD, List.getD_eq_getElem?_getD, List.getElem?_set]
  by_cases e : j = i
  · subst e; simp [h]
  · have e' : ¬ i = j := fun z => e z.symm
    simp [e, e']
/-- the first greatest of the first j -/
def argF (l : List Int) : Nat → Nat
  | 0 => 0
  | j + 1 => if gN l j > gN l (argF l j) then j else argF l j
theorem argF_inv (l : List Int) : ∀ j, (argF l j ≤ j) ∧ (0 < j → argF l j < j) ∧ (∀ m, m < j → gN l m ≤ gN l (argF l j)) ∧ (∀ m, m < argF l j → gN l m < gN l (argF l j))
  | 0 => ⟨Nat.le_refl _, by omega, by omega, by simp [argF]⟩
  | j + 1 => by
    obtain ⟨h1, h2, h3, h4⟩ := argF_inv l j
    unfold argF
    by_cases c : gN l j > gN l (argF l j)
    · rw [if_pos c]
      refine ⟨by omega, by omega, fun m hm => ?_, fun m hm => ?_⟩
      · by_cases e : m = j
        · subst e; exact Int.le_refl _
        · have := h3 m (by omega); omega
      · have := h3 m hm; omega
    · rw [if_neg c]
      refine ⟨by omega, fun _ => ?_, fun m hm => ?_, h4⟩
      · by_cases e : j = 0
        · subst e; omega
        · have := h2 (by omega); omega
      · by_cases e : m = j
        · subst e; omega
        · exact h3 m (by omega)
def arg (l : List Int) : Nat := argF l l.length
theorem arg_lt (l : List Int) (h : 0 < l.length) : arg l < l.length := (argF_inv l l.length).2.1 h
theorem arg_ix (l : List Int) (h : 0 < l.length) : l.findIdx? (fun z => decide (z = maxL l)) = some (arg l) := by
  have hl := arg_lt l h
  obtain ⟨h1, h2, h3, h4⟩ := argF_inv l l.length
  have hne : l ≠ [] := by intro z; rw [z] at h; cases h
  obtain ⟨m1, m2⟩ := maxL_mem hne
  have em : gN l (arg l) = maxL l := by
    have a : gN l (arg l) ≤ maxL l := m2 _ (by rw [← gN_get l _ hl]; exact List.getElem_mem hl)
    obtain ⟨i, hi, e⟩ := List.getElem_of_mem m1
    have b := h3 i hi
    rw [← gN_get l i hi, e] at b
    have b' : maxL l ≤ gN l (arg l) := b
    omega
  rw [List.findIdx?_eq_some_iff_getElem]
  refine ⟨hl, by rw [gN_get l _ hl, em]; simp, fun j hj => ?_⟩
  have := h4 j hj
  have e2 : argF l l.length = arg l := rfl
  rw [e2, em] at this
  rw [gN_get l j (by omega)]
  simp; omega
def dealS (s : List Nat × List Int) : List Nat × List Int := (s.1 ++ [arg s.2], s.2.set (arg s.2) (gN s.2 (arg s.2) - 1))
def deal (l : List Int) : Nat → List Nat × List Int
  | 0 => ([], l)
  | n + 1 => dealS (deal l n)
theorem deal_inv (l : List Int) (h : 0 < l.length) : ∀ n, (deal l n).1.length = n ∧ (deal l n).2.length = l.length ∧ (∀ d ∈ (deal l n).1, d < l.length) ∧ ∀ j, gN (deal l n).2 j = gN l j - ((deal l n).1.count j : Nat)
  | 0 => ⟨rfl, rfl, by simp [deal], by simp [deal]⟩
  | n + 1 => by
    obtain ⟨h1, h2, h3, h4⟩ := deal_inv l h n
    have ha : arg (deal l n).2 < (deal l n).2.length := arg_lt _ (by omega)
    refine ⟨by simp [deal, dealS, h1], by simp [deal, dealS, h2], fun d hd => ?_, fun j => ?_⟩
    · have hd : d ∈ (deal l n).1 ++ [arg (deal l n).2] := hd
      rcases List.mem_append.mp hd with hd | hd
      · exact h3 d hd
      · have : d = arg (deal l n).2 := by simpa using hd
        omega
    · show gN ((deal l n).2.set (arg (deal l n).2) _) j = gN l j - (((deal l n).1 ++ [arg (deal l n).2]).count j : Nat)
      rw [gN_set _ _ _ _ ha, List.count_append]
      have hj := h4 j
      by_cases e : j = arg (deal l n).2
      · rw [← e] at *; simp; rw [hj]; omega
      · have e' : ¬ arg (deal l n).2 = j := fun z => e z.symm
        simp [e, e', hj, List.count_cons]
def inc (l : List Int) (d : Nat) : List Int := l.set d (gN l d + 1)
theorem inc_len (l : List Int) (d : Nat) : (inc l d).length = l.length := by simp [inc]
theorem incs_len : ∀ (ds : List Nat) (l : List Int), (ds.foldl inc l).length = l.length
  | [], l => rfl
  | d :: ds, l => by rw [List.foldl_cons, incs_len ds, inc_len]
theorem incs_at : ∀ (ds : List Nat) (l : List Int), (∀ d ∈ ds, d < l.length) → ∀ j, gN (ds.foldl inc l) j = gN l j + (ds.count j : Nat)
  | [], l, h, j => by simp
  | d :: ds, l, h, j => by
    have hd := h d List.mem_cons_self
    rw [List.foldl_cons, incs_at ds _ (fun x hx => by rw [inc_len]; exact h x (List.mem_cons_of_mem _ hx)) j, List.count_cons]
    unfold inc
    rw [gN_set _ _ _ _ hd]
    by_cases e : j = d
    · subst e; simp; omega
    · have e' : ¬ d = j := fun z => e z.symm
      simp [e, e']
theorem gN_ext {l m : List Int} (hl : l.length = m.length) (h : ∀ j, j < l.length → gN l j = gN m j) : l = m := by
  refine List.ext_getElem hl fun j h1 h2 => ?_
  rw [gN_get l j h1, gN_get m j h2]; exact h j h1
def counts (d : Nat) (ds : List Nat) : List Int := (List.range d).map fun j => (ds.count j : Int)
theorem gN_counts (d : Nat) (ds : List Nat) (j : Nat) (h : j < d) : gN (counts d ds) j = (ds.count j : Nat) := by
  have := gN_at (counts d ds) j (by simp [counts, h])
  simp [counts, h] at this
  exact this.symm
theorem incs_counts (d : Nat) (ds : List Nat) (h : ∀ x ∈ ds, x < d) : ds.foldl inc (List.replicate d 0) = counts d ds := by
  refine gN_ext (by rw [incs_len]; simp [counts]) fun j hj => ?_
  rw [incs_len] at hj
  have hj : j < d := by simpa using hj
  rw [incs_at ds _ (by simpa using h), gN_counts d ds j hj]
  have : gN (List.replicate d 0) j = 0 := by simp [gN, hj]
  omega
theorem sum_counts : ∀ (ds : List Nat) (d : Nat), (∀ x ∈ ds, x < d) → (counts d ds).sum = (ds.length : Int)
  | [], d, h => by
    have : counts d [] = List.replicate d 0 := by simp [counts, List.map_const']
    rw [this]; simp
  | x :: ds, d, h => by
    have ih := sum_counts ds d fun y hy => h y (List.mem_cons_of_mem _ hy)
    have hx := h x List.mem_cons_self
    have e : ∀ n, x < n → (counts n (x :: ds)).sum = (counts n ds).sum + 1 ∧ ∀ m, m ≤ x → (counts m (x :: ds)).sum = (counts m ds).sum := by
      intro n hn
      have low : ∀ m, m ≤ x → counts m (x :: ds) = counts m ds := fun m hm => by
        unfold counts
        refine List.map_congr_left fun j hj => ?_
        have : j < m := by simpa using hj
        have e' : ¬ x = j := by omega
        simp [List.count_cons, e']
      refine ⟨?_, fun m hm => by rw [low m hm]⟩
      induction n with
      | zero => omega
      | succ n ih =>
        unfold counts
        rw [List.range_succ, List.map_append, List.map_append, List.sum_append, List.sum_append]
        show (counts n (x :: ds)).sum + _ = (counts n ds).sum + _ + 1
        by_cases e : x = n
        · subst e
          rw [low x (Nat.le_refl _)]
          simp
          omega
        · rw [ih (by omega)]
          simp [List.count_cons, e]
          omega
    rw [(e d hx).1, ih]; simp
end DL

end
section
set_option maxRecDepth 100000
/-! plain lists: items, their order, sorting, rising -/
namespace DL
open PySem L2
theorem str_ext {x y : Str} (h : x.cps.toList = y.cps.toList) : x = y := PySem.W.str_of_cps h
theorem lt_iff {a b : It2} : ltI a b = true ↔ a.1 < b.1 ∨ (a.1 = b.1 ∧ a.2.cps.toList < b.2.cps.toList) := by simp [ltI]
theorem lt_irr (a : It2) : ltI a a = false := by
  cases h : ltI a a with
  | false => rfl
  | true => rcases lt_iff.mp h with h | ⟨_, h⟩
            · omega
            · exact absurd h (List.lt_irrefl _)
theorem lt_tr {a b c : It2} (h1 : ltI a b = true) (h2 : ltI b c = true) : ltI a c = true := by
  rw [lt_iff] at *
  rcases h1 with h1 | ⟨e1, h1⟩ <;> rcases h2 with h2 | ⟨e2, h2⟩
  · left; omega
  · left; omega
  · left; omega
  · right; exact ⟨by omega, List.lt_trans h1 h2⟩
theorem lt_tot {a b : It2} (h1 : ltI a b = false) (h2 : ltI b a = false) : a = b := by
  have h1' : ¬ (a.1 < b.1 ∨ (a.1 = b.1 ∧ a.2.cps.toList < b.2.cps.toList)) := fun z => by rw [lt_iff.mpr z] at h1; cases h1
  have h2' : ¬ (b.1 < a.1 ∨ (b.1 = a.1 ∧ b.2.cps.toList < a.2.cps.toList)) := fun z => by rw [lt_iff.mpr z] at h2; cases h2
  have e : a.1 = b.1 := by
    by_cases z : a.1 < b.1
    · exact absurd (.inl z) h1'
    · by_cases z2 : b.1 < a.1
      · exact absurd (.inl z2) h2'
      · omega
  have l1 : ¬ a.2.cps.toList < b.2.cps.toList := fun z => h1' (.inr ⟨e, z⟩)
  have l2 : ¬ b.2.cps.toList < a.2.cps.toList := fun z => h2' (.inr ⟨e.symm, z⟩)
  have := List.le_antisymm (List.not_lt.mp l2) (List.not_lt.mp l1)
  exact Prod.ext e (str_ext this)
theorem lt_asy {a b : It2} (h : ltI a b = true) : ltI b a = false := by
  cases h2 : ltI b a with
  | false => rfl
  | true => have := lt_tr h h2; rw [lt_irr] at this; cases this
def leI (a b : It2) : Bool := !ltI b a
theorem le_tr {a b c : It2} (h1 : leI a b = true) (h2 : leI b c = true) : leI a c = true := by
  unfold leI at *
  simp only [Bool.not_eq_true'] at *
  cases h : ltI c a with
  | false => rfl
  | true =>
    -- c < a, not b < a, not c < b
    cases h3 : ltI a b with
    | true => have := lt_tr h h3; rw [h2] at this; cases this
    | false => have := lt_tot h3 h1; subst this; rw [h2] at h; cases h
theorem le_tot (a b : It2) : (leI a b || leI b a) = true := by
  unfold leI
  cases h : ltI b a with
  | false => rfl
  | true => simp [lt_asy h]
theorem le_anti {a b : It2} (h1 : leI a b = true) (h2 : leI b a = true) : a = b := by
  unfold leI at *
  simp only [Bool.not_eq_true'] at *
  exact lt_tot h2 h1
theorem le_refl (a : It2) : leI a a = true := by simp [leI, lt_irr]
theorem le_of_lt {a b : It2} (h : ltI a b = true) : leI a b = true := by simp [leI, lt_asy h]
theorem lt_le_tr {a b c : It2} (h1 : ltI a b = true) (h2 : leI b c = true) : ltI a c = true := by
  unfold leI at h2
  simp only [Bool.not_eq_true'] at h2
  cases h : ltI a c with
  | true => rfl
  | false =>
    cases h3 : ltI c a with
    | true => have := lt_tr h3 h1; rw [h2] at this; cases this
    | false => have := lt_tot h h3; subst this; rw [h2] at h1; cases h1
theorem le_lt_tr {a b c : It2} (h1 : leI a b = true) (h2 : ltI b c = true) : ltI a c = true := by
  unfold leI at h1
  simp only [Bool.not_eq_true'] at h1
  cases h : ltI a c with
  | true => rfl
  | false =>
    cases h3 : ltI c a with
    | true => have := lt_tr h2 h3; rw [h1] at this; cases this
    | false => have := lt_tot h h3; subst this; rw [h1] at h2; cases h2
def srt (l : List It2) : List It2 := l.mergeSort leI
abbrev Up (l : List It2) : Prop := l.Pairwise fun a b => leI a b = true
theorem srt_up (l : List It2) : Up (srt l) := List.pairwise_mergeSort (le := leI) (fun _ _ _ h1 h2 => le_tr h1 h2) le_tot l
theorem srt_perm (l : List It2) : (srt l).Perm l := List.mergeSort_perm l leI
theorem up_uniq {l m : List It2} (h1 : Up l) (h2 : Up m) (p : l.Perm m) : l = m := p.eq_of_pairwise (fun _ _ _ _ => le_anti) h1 h2
theorem srt_of {l m : List It2} (h : Up m) (p : m.Perm l) : srt l = m := up_uniq (srt_up l) h ((srt_perm l).trans p.symm)
theorem srt_id {l : List It2} (h : Up l) : srt l = l := srt_of h (List.Perm.refl _)
theorem srt_congr {l m : List It2} (p : l.Perm m) : srt l = srt m := srt_of (srt_up m) ((srt_perm m).trans p.symm)
theorem srt_len (l : List It2) : (srt l).length = l.length := (srt_perm l).length_eq
theorem fSorted_row (m : Bool) (l : List It2) (hl : okR l = true) : fSorted [.nd (.lst m) (em itm l)] = some (.nd (.lst true) (em itm (srt l))) := fSorted_R m l hl
/-! ### the law's own sorting -/
def gI (l : List It2) (k : Nat) : It2 := l.getD k (0, "")
theorem gI_at (l : List It2) (k : Nat) (h : k < l.length) : l[k]? = some (gI l k) := by
  unfold gI; rw [List.getD_eq_getElem?_getD, List.getElem?_eq_getElem h]; rfl
theorem gI_get (l : List It2) (k : Nat) (h : k < l.length) : l[k] = gI l k := by
  have := gI_at l k h; rw [List.getElem?_eq_getElem h] at this; exact Option.some.inj this
theorem gI_mem (l : List It2) (k : Nat) (h : k < l.length) : gI l k ∈ l := by rw [← gI_get l k h]; exact List.getElem_mem h
theorem gI_app (l m : List It2) (k : Nat) : gI (l ++ m) k = if k < l.length then gI l k else gI m (k - l.length) := by
  unfold gI
  rw [List.getD_eq_getElem?_getD, List.getD_eq_getElem?_getD, List.getD_eq_getElem?_getD, List.getElem?_append]
  split <;> rfl
/-- where it is put: from the end, past those that are greater -/
def insAt (p : It2) (l : List It2) : Nat → Nat
  | 0 => 0
  | k + 1 => if ltI p (gI l k) then insAt p l k else k + 1
theorem insAt_le (p : It2) (l : List It2) : ∀ k, insAt p l k ≤ k
  | 0 => Nat.le_refl _
  | k + 1 => by
    unfold insAt
    split
    · have := insAt_le p l k; omega
    · omega
theorem insAt_above (p : It2) (l : List It2) : ∀ k m, insAt p l k ≤ m → m < k → ltI p (gI l m) = true
  | 0, m, h, h2 => by omega
  | k + 1, m, h, h2 => by
    unfold insAt at h
    split at h
    · rename_i c
      by_cases e : m = k
      · subst e; exact c
      · exact insAt_above p l k m h (by omega)
    · omega
theorem insAt_below (p : It2) (l : List It2) : ∀ k, 0 < insAt p l k → ltI p (gI l (insAt p l k - 1)) = false
  | 0, h => by unfold insAt at h; omega
  | k + 1, h => by
    unfold insAt at h ⊢
    split
    · rename_i c; rw [if_pos c] at h; exact insAt_below p l k h
    · rename_i c; simpa using c
def insB (p : It2) (l : List It2) : List It2 := l.take (insAt p l l.length) ++ p :: l.drop (insAt p l l.length)
theorem insB_perm (p : It2) (l : List It2) : (insB p l).Perm (p :: l) := by
  unfold insB
  have h := List.perm_middle (a := p) (l₁ := l.take (insAt p l l.length)) (l₂ := l.drop (insAt p l l.length))
  rw [List.take_append_drop] at h
  exact h
theorem insB_up (p : It2) (l : List It2) (h : Up l) : Up (insB p l) := by
  have hk := insAt_le p l l.length
  unfold insB
  have hsp : Up (l.take (insAt p l l.length) ++ l.drop (insAt p l l.length)) := by rw [List.take_append_drop]; exact h
  obtain ⟨u1, u2, u3⟩ := List.pairwise_append.mp hsp
  have low : ∀ a ∈ l.take (insAt p l l.length), leI a p = true := fun a ha => by
    obtain ⟨i, hi, e⟩ := List.getElem_of_mem ha
    rw [List.length_take] at hi
    rw [List.getElem_take, gI_get l i (by omega)] at e
    subst e
    have hb := insAt_below p l l.length (by omega)
    have le1 : leI (gI l (insAt p l l.length - 1)) p = true := by unfold leI; rw [hb]; rfl
    by_cases z : i = insAt p l l.length - 1
    · rw [z]; exact le1
    · have := List.pairwise_iff_getElem.mp h i (insAt p l l.length - 1) (by omega) (by omega) (by omega)
      rw [gI_get l i (by omega), gI_get l _ (by omega)] at this
      exact le_tr this le1
  have high : ∀ b ∈ l.drop (insAt p l l.length), leI p b = true := fun b hb => by
    obtain ⟨i, hi, e⟩ := List.getElem_of_mem hb
    rw [List.length_drop] at hi
    rw [List.getElem_drop, gI_get l _ (by omega)] at e
    subst e
    exact le_of_lt (insAt_above p l l.length _ (by omega) (by omega))
  exact List.pairwise_append.mpr ⟨u1, List.pairwise_cons.mpr ⟨high, u2⟩, fun a ha b hb => by
    rcases List.mem_cons.mp hb with rfl | hb
    · exact low a ha
    · exact u3 a ha b hb⟩
theorem ins_fold : ∀ (l acc : List It2), Up acc → Up (l.foldl (fun s p => insB p s) acc) ∧ (l.foldl (fun s p => insB p s) acc).Perm (l ++ acc)
  | [], acc, h => ⟨h, List.Perm.refl _⟩
  | p :: l, acc, h => by
    obtain ⟨h1, h2⟩ := ins_fold l (insB p acc) (insB_up p acc h)
    refine ⟨h1, h2.trans ?_⟩
    have := (insB_perm p acc).append_left l
    exact this.trans List.perm_middle
theorem isort_eq (l : List It2) : l.foldl (fun s p => insB p s) [] = srt l := by
  obtain ⟨h1, h2⟩ := ins_fold l [] List.Pairwise.nil
  rw [List.append_nil] at h2
  exact (srt_of h1 h2).symm
theorem insB_len (p : It2) (l : List It2) : (insB p l).length = l.length + 1 := (insB_perm p l).length_eq
/-! ### rising -/
def ris (l : List It2) : Bool := (List.range (l.length - 1)).all fun k => !ltI (gI l (k + 1)) (gI l k)
theorem ris_iff (l : List It2) : ris l = true ↔ Up l := by
  unfold ris
  rw [List.all_eq_true]
  constructor
  · intro h
    refine List.pairwise_iff_getElem.mpr ?_
    have key : ∀ d i, (hi : i + d + 1 < l.length) → leI (gI l i) (gI l (i + d + 1)) = true := by
      intro d
      induction d with
      | zero =>
        intro i hi
        have := h i (by simp; omega)
        exact this
      | succ d ih =>
        intro i hi
        have h1 := ih i (by omega)
        have h2 := h (i + d + 1) (by simp; omega)
        exact le_tr h1 h2
    intro i j hi hj hij
    have := key (j - i - 1) i (by omega)
    have e : i + (j - i - 1) + 1 = j := by omega
    rw [e] at this
    rw [gI_get l i hi, gI_get l j hj]
    exact this
  · intro h k hk
    have hk : k < l.length - 1 := by simpa using hk
    have := List.pairwise_iff_getElem.mp h k (k + 1) (by omega) (by omega) (by omega)
    rw [gI_get l k (by omega), gI_get l (k + 1) (by omega)] at this
    exact this
@[simp] theorem itm_Fz (p : It2) : Fz (itm p) = true := rfl
/-! ### items of laws -/
def tagL : List Str := ["", "a", "b", "ab", "ba", "z", "abcdefgh"]
def wIt (p : It2) : Bool := decide (p.2 ∈ tagL) && decide (-10000000000000000000000000000000000000000 < p.1 ∧ p.1 < 10000000000000000000000000000000000000000)
abbrev wR (l : List It2) : Bool := l.all wIt
theorem w_tag {p : It2} (h : wIt p = true) : p.2 ∈ tagL := by
  simp only [wIt, Bool.and_eq_true, decide_eq_true_eq] at h
  exact h.1
theorem w_ok {p : It2} (h : wIt p = true) : tagOk p = true := by
  have : ∀ t ∈ tagL, PyData.strOk t = true := by decide +kernel
  exact this _ (w_tag h)
theorem wR_ok {l : List It2} (h : wR l = true) : okR l = true := by
  rw [List.all_eq_true] at *
  exact fun p hp => w_ok (h p hp)
theorem wR_perm {l m : List It2} (p : l.Perm m) (h : wR m = true) : wR l = true := by
  rw [List.all_eq_true] at *
  exact fun x hx => h x (p.mem_iff.mp hx)
theorem okR_perm {l m : List It2} (p : l.Perm m) (h : okR m = true) : okR l = true := by
  rw [List.all_eq_true] at *
  exact fun x hx => h x (p.mem_iff.mp hx)
end DL

end
section
set_option maxRecDepth 100000
/-! plain lists: runs poured together -/
namespace DL
open PySem L2
def gT (l : List Nat) (i : Nat) : Nat := l.getD i 0
theorem gT_at (l : List Nat) (i : Nat) (h : i < l.length) : l[i]? = some (gT l i) := by
  unfold gT; rw [List.getD_eq_getElem?_getD, List.getElem?_eq_getElem h]; rfl
theorem gT_set (l : List Nat) (i j v : Nat) (h : i < l.length) : gT (l.set i v) j = if j = i then v else gT l j := by
  unfold gT
  rw [List.getD_eq_getElem?_getD, List.getD_eq_getElem?_getD, List.getElem?_set]
  by_cases e : j = i
  · subst e; simp [h]
  · have e' : ¬ i = j := fun z => e z.symm
    simp [e, e']
def gR (L : List (List It2)) (i : Nat) : List It2 := L.getD i []
theorem gR_at (L : List (List It2)) (i : Nat) (h : i < L.length) : L[i]? = some (gR L i) := by
  unfold gR; rw [List.getD_eq_getElem?_getD, List.getElem?_eq_getElem h]; rfl
theorem gR_get (L : List (List It2)) (i : Nat) (h : i < L.length) : L[i] = gR L i := by
  have := gR_at L i h; rw [List.getElem?_eq_getElem h] at this; exact Option.some.inj this
theorem gR_mem (L : List (List It2)) (i : Nat) (h : i < L.length) : gR L i ∈ L := by rw [← gR_get L i h]; exact List.getElem_mem h
/-- the first item left of a run -/
def hd (L : List (List It2)) (g : List Nat) (k : Nat) : It2 := gI (gR L k) (gT g k)
def nextTo (L : List (List It2)) (g : List Nat) : Nat → Option Nat
  | 0 => none
  | j + 1 => if gT g j < (gR L j).length then (match nextTo L g j with
      | none => some j
      | some f => if ltI (hd L g j) (hd L g f) then some j else some f) else nextTo L g j
theorem nextTo_some {L : List (List It2)} {g : List Nat} : ∀ {j f : Nat}, nextTo L g j = some f → f < j ∧ gT g f < (gR L f).length
  | 0, f, h => by cases h
  | j + 1, f, h => by
    unfold nextTo at h
    by_cases c : gT g j < (gR L j).length
    · rw [if_pos c] at h
      cases e : nextTo L g j with
      | none => rw [e] at h; cases h; exact ⟨by omega, c⟩
      | some f' =>
        rw [e] at h
        dsimp only at h
        split at h
        · cases h; exact ⟨by omega, c⟩
        · cases h
          have := nextTo_some e
          exact ⟨by omega, this.2⟩
    · rw [if_neg c] at h
      have := nextTo_some h
      exact ⟨by omega, this.2⟩
theorem nextTo_none {L : List (List It2)} {g : List Nat} : ∀ {j : Nat}, nextTo L g j = none → ∀ k, k < j → ¬ gT g k < (gR L k).length
  | 0, h, k, hk => by omega
  | j + 1, h, k, hk => by
    unfold nextTo at h
    by_cases c : gT g j < (gR L j).length
    · rw [if_pos c] at h
      cases e : nextTo L g j with
      | none => rw [e] at h; cases h
      | some f' =>
        rw [e] at h
        dsimp only at h
        split at h <;> cases h
    · rw [if_neg c] at h
      by_cases z : k = j
      · subst z; exact c
      · exact nextTo_none h k (by omega)
/-- what was chosen is the least, of alike ones the first -/
theorem nextTo_min {L : List (List It2)} {g : List Nat} : ∀ {j f : Nat}, nextTo L g j = some f → ∀ k, k < j → gT g k < (gR L k).length → leI (hd L g f) (hd L g k) = true ∧ (k < f → ltI (hd L g f) (hd L g k) = true)
  | 0, f, h => by cases h
  | j + 1, f, h => fun k hk hl => by
    unfold nextTo at h
    by_cases c : gT g j < (gR L j).length
    · rw [if_pos c] at h
      cases e : nextTo L g j with
      | none =>
        rw [e] at h; cases h
        by_cases z : k = j
        · subst z; exact ⟨le_refl _, fun q => by omega⟩
        · exact absurd hl (nextTo_none e k (by omega))
      | some f' =>
        rw [e] at h
        dsimp only at h
        obtain ⟨s1, s2⟩ := nextTo_some e
        split at h
        · rename_i q
          cases h
          by_cases z : k = j
          · subst z; exact ⟨le_refl _, fun q => by omega⟩
          · have := nextTo_min e k (by omega) hl
            have lt := lt_le_tr q this.1
            exact ⟨le_of_lt lt, fun _ => lt⟩
        · rename_i q
          cases h
          by_cases z : k = j
          · subst z
            refine ⟨?_, fun q => by omega⟩
            unfold leI; simpa using q
          · exact nextTo_min e k (by omega) hl
    · rw [if_neg c] at h
      by_cases z : k = j
      · subst z; exact absurd hl c
      · exact nextTo_min h k (by omega) hl
def next (L : List (List It2)) (g : List Nat) : Option Nat := nextTo L g L.length
structure PSt where
  g : List Nat
  row : List It2
  tr : List Nat
def take1P (L : List (List It2)) (s : PSt) (f : Nat) : PSt := ⟨s.g.set f (gT s.g f + 1), s.row ++ [hd L s.g f], s.tr ++ [f]⟩
def pst (L : List (List It2)) : Nat → PSt
  | 0 => ⟨List.replicate L.length 0, [], []⟩
  | n + 1 => match next L (pst L n).g with
    | some f => take1P L (pst L n) f
    | none => pst L n
def tot (L : List (List It2)) : Nat := (L.map (·.length)).sum
theorem sum_set (l : List Nat) (i : Nat) (h : i < l.length) : (l.set i (gT l i + 1)).sum = l.sum + 1 := by
  induction l generalizing i with
  | nil => simp at h
  | cons a l ih =>
    cases i with
    | zero => simp [gT]; omega
    | succ i =>
      have := ih i (by simpa using h)
      have e : gT (a :: l) (i + 1) = gT l i := rfl
      rw [e]
      simp [this]; omega
theorem sum_le : ∀ (L : List (List It2)) (g : List Nat), g.length = L.length → (∀ k, k < L.length → gT g k ≤ (gR L k).length) → g.sum ≤ tot L ∧ (g.sum = tot L → ∀ k, k < L.length → gT g k = (gR L k).length)
  | [], [], _, _ => ⟨by simp [tot], fun _ k hk => by simp at hk⟩
  | l :: L, a :: g, hl, h => by
    have h0 := h 0 (by simp)
    have ih := sum_le L g (by simpa using hl) fun k hk => h (k + 1) (by simpa using hk)
    have h0 : a ≤ l.length := h0
    have et : tot (l :: L) = l.length + tot L := by simp [tot]
    refine ⟨by rw [et, List.sum_cons]; omega, fun e k hk => ?_⟩
    rw [et, List.sum_cons] at e
    cases k with
    | zero => show a = l.length; omega
    | succ k => exact ih.2 (by omega) k (by simpa using hk)
  | [], _ :: _, hl, _ => by simp at hl
  | _ :: _, [], hl, _ => by simp at hl
theorem pst_inv (L : List (List It2)) : ∀ n, n ≤ tot L → (pst L n).g.length = L.length ∧ (∀ k, k < L.length → gT (pst L n).g k ≤ (gR L k).length) ∧ (pst L n).g.sum = n ∧ (pst L n).row.length = n ∧ (pst L n).tr.length = n ∧ ∀ f ∈ (pst L n).tr, f < L.length
  | 0, h => by
    refine ⟨by simp [pst], fun k hk => ?_, by simp [pst], rfl, rfl, by simp [pst]⟩
    have : gT (List.replicate L.length 0) k = 0 := by simp [gT, hk]
    show gT (List.replicate L.length 0) k ≤ _
    omega
  | n + 1, h => by
    obtain ⟨h1, h2, h3, h4, h5, h6⟩ := pst_inv L n (by omega)
    have hs := sum_le L _ h1 h2
    cases e : next L (pst L n).g with
    | none =>
      exfalso
      have hn := nextTo_none e
      have : (pst L n).g.sum = tot L := by
        have key : ∀ (L : List (List It2)) (g : List Nat), g.length = L.length → (∀ k, k < L.length → gT g k = (gR L k).length) → g.sum = tot L := by
          intro L
          induction L with
          | nil => intro g hg _; cases g with
            | nil => rfl
            | cons a g => simp at hg
          | cons l L ih =>
            intro g hg hk
            cases g with
            | nil => simp at hg
            | cons a g =>
              have := ih g (by simpa using hg) fun k hk' => hk (k + 1) (by simpa using hk')
              have h0 : a = l.length := hk 0 (by simp)
              simp [tot] at this ⊢
              omega
        exact key L _ h1 fun k hk => by have := hn k hk; have := h2 k hk; omega
      omega
    | some f =>
      obtain ⟨s1, s2⟩ := nextTo_some e
      have ep : pst L (n + 1) = take1P L (pst L n) f := by show (match next L (pst L n).g with | some f => take1P L (pst L n) f | none => pst L n) = _; rw [e]
      rw [ep]
      refine ⟨by simp [take1P, h1], fun k hk => ?_, ?_, by simp [take1P, h4], by simp [take1P, h5], fun x hx => ?_⟩
      · show gT ((pst L n).g.set f (gT (pst L n).g f + 1)) k ≤ _
        rw [gT_set _ _ _ _ (by omega)]
        split
        · rename_i q; subst q; omega
        · exact h2 k hk
      · show ((pst L n).g.set f (gT (pst L n).g f + 1)).sum = n + 1
        rw [sum_set _ _ (by omega), h3]
      · have hx : x ∈ (pst L n).tr ++ [f] := hx
        rcases List.mem_append.mp hx with hx | hx
        · exact h6 x hx
        · have : x = f := by simpa using hx
          omega
theorem pst_next (L : List (List It2)) (n : Nat) (h : n < tot L) : ∃ f, next L (pst L n).g = some f ∧ f < L.length ∧ gT (pst L n).g f < (gR L f).length ∧ pst L (n + 1) = take1P L (pst L n) f := by
  obtain ⟨h1, h2, h3, -⟩ := pst_inv L n (by omega)
  obtain ⟨-, -, h3', -⟩ := pst_inv L (n + 1) (by omega)
  cases e : next L (pst L n).g with
  | none =>
    have ep : pst L (n + 1) = pst L n := by show (match next L (pst L n).g with | some f => take1P L (pst L n) f | none => pst L n) = _; rw [e]
    rw [ep] at h3'; omega
  | some f =>
    obtain ⟨s1, s2⟩ := nextTo_some e
    exact ⟨f, rfl, s1, s2, by show (match next L (pst L n).g with | some f => take1P L (pst L n) f | none => pst L n) = _; rw [e]⟩
theorem pst_end (L : List (List It2)) : next L (pst L (tot L)).g = none := by
  obtain ⟨h1, h2, h3, -⟩ := pst_inv L (tot L) (Nat.le_refl _)
  have := (sum_le L _ h1 h2).2 h3
  cases e : next L (pst L (tot L)).g with
  | none => rfl
  | some f =>
    obtain ⟨s1, s2⟩ := nextTo_some e
    have := this f s1
    omega
def poured (L : List (List It2)) : List It2 := (pst L (tot L)).row
def traced (L : List (List It2)) : List Nat := (pst L (tot L)).tr
theorem poured_len (L : List (List It2)) : (poured L).length = tot L := (pst_inv L _ (Nat.le_refl _)).2.2.2.1
theorem traced_len (L : List (List It2)) : (traced L).length = tot L := (pst_inv L _ (Nat.le_refl _)).2.2.2.2.1
theorem pst_mem (L : List (List It2)) : ∀ n, n ≤ tot L → ∀ p ∈ (pst L n).row, ∃ l ∈ L, p ∈ l
  | 0, h, p, hp => by simp [pst] at hp
  | n + 1, h, p, hp => by
    obtain ⟨f, -, hf, hl, e⟩ := pst_next L n (by omega)
    rw [e] at hp
    have hp : p ∈ (pst L n).row ++ [hd L (pst L n).g f] := hp
    rcases List.mem_append.mp hp with hp | hp
    · exact pst_mem L n (by omega) p hp
    · have : p = hd L (pst L n).g f := by simpa using hp
      subst this
      exact ⟨gR L f, gR_mem L f hf, gI_mem _ _ hl⟩
@[simp] theorem fzs_LL {α : Type} (f : α → D) [FzF f] (m : Bool) (xs : List (List α)) : fzs (em (eL m f) xs) = em (eL false f) xs := by
  rw [fzs_map]
  simp only [em, List.map_map]
  refine List.map_congr_left fun x _ => ?_
  show fz (.nd (.lst m) (em f x)) = _
  simp
end DL

end
section
set_option maxRecDepth 100000
/-! plain lists: rows led apart and together; what is poured is sorted -/
namespace DL
open PySem L2
/-- how often each number stands among the first n -/
def cn (w : Nat) (ms : List Nat) (n : Nat) : List Nat := (List.range w).map fun k => (ms.take n).count k
theorem cn_len (w : Nat) (ms : List Nat) (n : Nat) : (cn w ms n).length = w := by simp [cn]
theorem cn_at (w : Nat) (ms : List Nat) (n k : Nat) (h : k < w) : gT (cn w ms n) k = (ms.take n).count k := by
  have := gT_at (cn w ms n) k (by rw [cn_len]; exact h)
  simp [cn, h] at this
  exact this.symm
theorem gT_ext {l m : List Nat} (hl : l.length = m.length) (h : ∀ j, j < l.length → gT l j = gT m j) : l = m := by
  refine List.ext_getElem hl fun j h1 h2 => ?_
  have a := gT_at l j h1
  have b := gT_at m j h2
  rw [List.getElem?_eq_getElem h1] at a
  rw [List.getElem?_eq_getElem h2] at b
  rw [Option.some.inj a, Option.some.inj b]; exact h j h1
theorem cn_succ (w : Nat) (ms : List Nat) (n : Nat) (hn : n < ms.length) (hm : gT ms n < w) : cn w ms (n + 1) = (cn w ms n).set (gT ms n) (gT (cn w ms n) (gT ms n) + 1) := by
  have e : ms.take (n + 1) = ms.take n ++ [gT ms n] := by
    rw [List.take_succ, gT_at ms n hn]; rfl
  refine gT_ext (by simp [cn_len]) fun k hk => ?_
  rw [cn_len] at hk
  rw [gT_set _ _ _ _ (by rw [cn_len]; exact hm), cn_at _ _ _ _ hk, e, List.count_append]
  by_cases q : k = gT ms n
  · subst q; rw [if_pos rfl, cn_at _ _ _ _ hk]; simp
  · have q' : ¬ gT ms n = k := fun z => q z.symm
    rw [if_neg q, cn_at _ _ _ _ hk]; simp [List.count_cons, q']
theorem cn_0 (w : Nat) (ms : List Nat) : cn w ms 0 = List.replicate w 0 := by simp [cn, List.map_const']
def lens (L : List (List It2)) : List Nat := L.map (·.length)
/-- the items whose number is k -/
def sel (k : Nat) (z : List (It2 × Nat)) : List It2 := (z.filter fun p => decide (p.2 = k)).map (·.1)
theorem sel_app (k : Nat) (z y : List (It2 × Nat)) : sel k (z ++ y) = sel k z ++ sel k y := by simp [sel]
theorem sel_one (k : Nat) (p : It2 × Nat) : sel k [p] = if p.2 = k then [p.1] else [] := by
  unfold sel
  by_cases h : p.2 = k <;> simp [h]
theorem sel_len (k : Nat) : ∀ z : List (It2 × Nat), (sel k z).length = (z.map (·.2)).count k
  | [] => rfl
  | p :: z => by
    have := sel_app k [p] z
    have e : p :: z = [p] ++ z := rfl
    rw [e, this, List.length_append, sel_len k z, sel_one, List.map_append, List.count_append]
    by_cases h : p.2 = k <;> simp [h, List.count_cons]
def apt (xs : List It2) (ms : List Nat) (w : Nat) : List (List It2) := (List.range w).map fun k => sel k (xs.zip ms)
theorem apt_len (xs : List It2) (ms : List Nat) (w : Nat) : (apt xs ms w).length = w := by simp [apt]
theorem apt_at (xs : List It2) (ms : List Nat) (w k : Nat) (h : k < w) : gR (apt xs ms w) k = sel k (xs.zip ms) := by
  have := gR_at (apt xs ms w) k (by rw [apt_len]; exact h)
  simp [apt, h] at this
  exact this.symm
theorem gR_ext {l m : List (List It2)} (hl : l.length = m.length) (h : ∀ j, j < l.length → gR l j = gR m j) : l = m := by
  refine List.ext_getElem hl fun j h1 h2 => ?_
  rw [gR_get l j h1, gR_get m j h2]; exact h j h1
theorem gR_set (l : List (List It2)) (i j : Nat) (v : List It2) (h : i < l.length) : gR (l.set i v) j = if j = i then v else gR l j := by
  unfold gR
  rw [List.getD_eq_getElem?_getD, List.getD_eq_getElem?_getD, List.getElem?_set]
  by_cases e : j = i
  · subst e; simp [h]
  · have e' : ¬ i = j := fun z => e z.symm
    simp [e, e']
/-- one more item led apart -/
theorem apt_step (z : List (It2 × Nat)) (p : It2 × Nat) (w : Nat) (h : p.2 < w) : ((List.range w).map fun k => sel k (z ++ [p])) = ((List.range w).map fun k => sel k z).set p.2 (gR ((List.range w).map fun k => sel k z) p.2 ++ [p.1]) := by
  have at_ : ∀ y : List (It2 × Nat), ∀ k, k < w → gR ((List.range w).map fun k => sel k y) k = sel k y := fun y k hk => by
    have := gR_at ((List.range w).map fun k => sel k y) k (by simpa using hk)
    simp [hk] at this
    exact this.symm
  refine gR_ext (by simp) fun k hk => ?_
  have hk : k < w := by simpa using hk
  rw [at_ _ k hk, gR_set _ _ _ _ (by simpa using h), sel_app, sel_one]
  by_cases q : k = p.2
  · subst q; rw [if_pos rfl, if_pos rfl, at_ _ _ hk]
  · have q' : ¬ p.2 = k := fun z => q z.symm
    rw [if_neg q', if_neg q, List.append_nil, at_ _ _ hk]
theorem zip_take_map (xs : List It2) (ms : List Nat) (hl : xs.length = ms.length) (n : Nat) : ((xs.zip ms).take n).map (·.2) = ms.take n := by
  rw [List.map_take, List.map_snd_zip (by omega)]
/-- what stands where the n-th goes -/
theorem apt_item (xs : List It2) (ms : List Nat) (w : Nat) (hl : xs.length = ms.length) (n : Nat) (hn : n < ms.length) (hm : gT ms n < w) : gT (cn w ms n) (gT ms n) < (gR (apt xs ms w) (gT ms n)).length ∧ gI (gR (apt xs ms w) (gT ms n)) (gT (cn w ms n) (gT ms n)) = gI xs n := by
  rw [cn_at _ _ _ _ hm, apt_at _ _ _ _ hm]
  have e : xs.zip ms = (xs.zip ms).take n ++ (gI xs n, gT ms n) :: (xs.zip ms).drop (n + 1) := by
    conv => lhs; rw [← List.take_append_drop n (xs.zip ms)]
    congr 1
    rw [List.drop_eq_getElem_cons (by simp; omega)]
    congr 1
    rw [List.getElem_zip, gI_get xs n (by omega)]
    congr 1
    have := gT_at ms n hn
    rw [List.getElem?_eq_getElem hn] at this
    exact Option.some.inj this
  have hlen : (sel (gT ms n) ((xs.zip ms).take n)).length = (ms.take n).count (gT ms n) := by rw [sel_len, zip_take_map xs ms hl]
  have es : sel (gT ms n) (xs.zip ms) = sel (gT ms n) ((xs.zip ms).take n) ++ gI xs n :: sel (gT ms n) ((xs.zip ms).drop (n + 1)) := by
    conv => lhs; rw [e]
    have : (gI xs n, gT ms n) :: (xs.zip ms).drop (n + 1) = [(gI xs n, gT ms n)] ++ (xs.zip ms).drop (n + 1) := rfl
    rw [this, sel_app, sel_app, sel_one]; simp
  rw [es]
  refine ⟨by rw [List.length_append, hlen]; simp, ?_⟩
  rw [gI_app, hlen, if_neg (by omega)]
  simp [gI]
theorem apt_lens (xs : List It2) (ms : List Nat) (w : Nat) (hl : xs.length = ms.length) : cn w ms ms.length = lens (apt xs ms w) := by
  refine gT_ext (by simp [cn_len, lens, apt_len]) fun k hk => ?_
  rw [cn_len] at hk
  rw [cn_at _ _ _ _ hk, List.take_length]
  have h1 : gT (lens (apt xs ms w)) k = (gR (apt xs ms w) k).length := by
    have a := gT_at (lens (apt xs ms w)) k (by simp [lens, apt_len, hk])
    have b := gR_at (apt xs ms w) k (by rw [apt_len]; exact hk)
    unfold lens at a ⊢
    rw [List.getElem?_map, b] at a
    exact (Option.some.inj a).symm
  rw [h1, apt_at _ _ _ _ hk, sel_len, List.map_snd_zip (by omega)]
/-! ### the trace of what is poured -/
theorem pst_cn (L : List (List It2)) : ∀ n, n ≤ tot L → (∀ m, m ≤ n → (pst L n).tr.take m = (pst L m).tr) ∧ (pst L n).g = cn L.length (pst L n).tr n
  | 0, h => ⟨fun m hm => by have : m = 0 := by omega
                            subst this; rfl, by simp [pst, cn_0]⟩
  | n + 1, h => by
    obtain ⟨h1, h2⟩ := pst_cn L n (by omega)
    obtain ⟨i1, i2, i3, i4, i5, i6⟩ := pst_inv L n (by omega)
    obtain ⟨f, e, a1, a2, a3⟩ := pst_next L n (by omega)
    have et : (pst L (n + 1)).tr = (pst L n).tr ++ [f] := by rw [a3]; rfl
    have eg : (pst L (n + 1)).g = (pst L n).g.set f (gT (pst L n).g f + 1) := by rw [a3]; rfl
    have tk : ∀ m, m ≤ n → (pst L (n + 1)).tr.take m = (pst L m).tr := fun m hm => by
      rw [et, List.take_append_of_le_length (by omega)]; exact h1 m hm
    refine ⟨fun m hm => ?_, ?_⟩
    · by_cases q : m = n + 1
      · subst q; rw [et, List.take_of_length_le (by simp; omega)]
      · exact tk m (by omega)
    · have hf : gT (pst L (n + 1)).tr n = f := by
        rw [et]; simp [gT, i5]
      have e1 : cn L.length (pst L (n + 1)).tr n = cn L.length (pst L n).tr n := by
        unfold cn; rw [tk n (Nat.le_refl _)]
        have : (pst L n).tr.take n = (pst L n).tr := List.take_of_length_le (by omega)
        rw [this]
      rw [cn_succ _ _ _ (by rw [et]; simp; omega) (by rw [hf]; exact a1), hf, e1, ← h2, eg]
theorem traced_take (L : List (List It2)) (n : Nat) (h : n ≤ tot L) : (traced L).take n = (pst L n).tr := (pst_cn L (tot L) (Nat.le_refl _)).1 n h
theorem traced_cn (L : List (List It2)) (n : Nat) (h : n ≤ tot L) : cn L.length (traced L) n = (pst L n).g := by
  obtain ⟨h1, h2⟩ := pst_cn L n h
  obtain ⟨i1, i2, i3, i4, i5, i6⟩ := pst_inv L n h
  rw [h2]
  unfold cn
  rw [traced_take L n h]
  have : (pst L n).tr.take n = (pst L n).tr := List.take_of_length_le (by omega)
  rw [this]
theorem traced_at (L : List (List It2)) (n : Nat) (h : n < tot L) : next L (pst L n).g = some (gT (traced L) n) ∧ gT (traced L) n < L.length ∧ gT (pst L n).g (gT (traced L) n) < (gR L (gT (traced L) n)).length ∧ gI (poured L) n = hd L (pst L n).g (gT (traced L) n) := by
  obtain ⟨f, e, a1, a2, a3⟩ := pst_next L n h
  obtain ⟨i1, i2, i3, i4, i5, i6⟩ := pst_inv L n (by omega)
  have et : (pst L (n + 1)).tr = (pst L n).tr ++ [f] := by rw [a3]; rfl
  have er : (pst L (n + 1)).row = (pst L n).row ++ [hd L (pst L n).g f] := by rw [a3]; rfl
  have ef : gT (traced L) n = f := by
    have t := traced_take L (n + 1) (by omega)
    rw [et] at t
    have h1 : ((traced L).take (n + 1))[n]? = some f := by rw [t, List.getElem?_append_right (by omega), i5]; simp
    rw [List.getElem?_take, if_pos (by omega), gT_at _ _ (by rw [traced_len]; exact h)] at h1
    exact Option.some.inj h1
  have rk : ∀ m, m ≤ tot L → ∀ n, n ≤ m → (pst L m).row.take n = (pst L n).row := by
    intro m
    induction m with
    | zero => intro _ n hn; have : n = 0 := by omega
              subst this; rfl
    | succ m ih =>
      intro hm n hn
      obtain ⟨f, e, a1, a2, a3⟩ := pst_next L m (by omega)
      obtain ⟨i1, i2, i3, i4, i5, i6⟩ := pst_inv L m (by omega)
      have er : (pst L (m + 1)).row = (pst L m).row ++ [hd L (pst L m).g f] := by rw [a3]; rfl
      by_cases q : n = m + 1
      · subst q; rw [er, List.take_of_length_le (by simp; omega)]
      · rw [er, List.take_append_of_le_length (by omega)]; exact ih (by omega) n (by omega)
  have er2 : gI (poured L) n = hd L (pst L n).g f := by
    have t := rk (tot L) (Nat.le_refl _) (n + 1) (by omega)
    rw [er] at t
    have h1 : ((poured L).take (n + 1))[n]? = some (hd L (pst L n).g f) := by
      have : (poured L).take (n + 1) = _ := t
      rw [this, List.getElem?_append_right (by omega), i4]; simp
    rw [List.getElem?_take, if_pos (by omega), gI_at _ _ (by rw [poured_len]; exact h)] at h1
    exact Option.some.inj h1
  exact ⟨by rw [ef]; exact e, by rw [ef]; exact a1, by rw [ef]; exact a2, by rw [ef]; exact er2⟩
theorem traced_lens (L : List (List It2)) : cn L.length (traced L) (traced L).length = lens L := by
  rw [traced_len, traced_cn L _ (Nat.le_refl _)]
  obtain ⟨i1, i2, i3, -⟩ := pst_inv L (tot L) (Nat.le_refl _)
  have := (sum_le L _ i1 i2).2 i3
  refine gT_ext (by simp [lens, i1]) fun k hk => ?_
  rw [this k (by omega)]
  have a := gT_at (lens L) k (by simp [lens]; omega)
  have b := gR_at L k (by omega)
  unfold lens at a ⊢
  rw [List.getElem?_map, b] at a
  exact Option.some.inj a
/-- led apart by its trace, the poured row is the runs again -/
theorem apt_poured (L : List (List It2)) : apt (poured L) (traced L) L.length = L := by
  have key : ∀ n, n ≤ tot L → ∀ k, k < L.length → sel k (((poured L).zip (traced L)).take n) = (gR L k).take (gT (pst L n).g k) := by
    intro n
    induction n with
    | zero =>
      intro _ k hk
      have : gT (List.replicate L.length 0) k = 0 := by simp [gT, hk]
      have e : (pst L 0).g = List.replicate L.length 0 := rfl
      rw [e, this]; rfl
    | succ n ih =>
      intro hn k hk
      obtain ⟨t1, t2, t3, t4⟩ := traced_at L n (by omega)
      obtain ⟨i1, -⟩ := pst_inv L n (by omega)
      obtain ⟨f, e, a1, a2, a3⟩ := pst_next L n (by omega)
      rw [t1] at e
      have ef := Option.some.inj e
      have hl : n < ((poured L).zip (traced L)).length := by simp [poured_len, traced_len]; omega
      have e2 : ((poured L).zip (traced L)).take (n + 1) = ((poured L).zip (traced L)).take n ++ [(gI (poured L) n, gT (traced L) n)] := by
        rw [List.take_succ, List.getElem?_eq_getElem hl, List.getElem_zip, gI_get _ _ (by rw [poured_len]; omega)]
        have := gT_at (traced L) n (by rw [traced_len]; omega)
        rw [List.getElem?_eq_getElem (by rw [traced_len]; omega)] at this
        rw [Option.some.inj this]; rfl
      have eg : (pst L (n + 1)).g = (pst L n).g.set f (gT (pst L n).g f + 1) := by rw [a3]; rfl
      rw [e2, sel_app, sel_one, ih (by omega) k hk, eg, gT_set _ _ _ _ (by omega)]
      by_cases q : k = f
      · subst q
        rw [if_pos ef, if_pos rfl, List.take_succ, gI_at _ _ a2, t4, ef]; rfl
      · have q' : ¬ gT (traced L) n = k := fun z => q (by rw [← z, ef])
        rw [if_neg q', if_neg q, List.append_nil]
  refine gR_ext (apt_len _ _ _) fun k hk => ?_
  rw [apt_len] at hk
  rw [apt_at _ _ _ _ hk]
  have h := key (tot L) (Nat.le_refl _) k hk
  rw [List.take_of_length_le (by simp [poured_len, traced_len])] at h
  obtain ⟨i1, i2, i3, -⟩ := pst_inv L (tot L) (Nat.le_refl _)
  rw [h, (sum_le L _ i1 i2).2 i3 k hk, List.take_length]
/-! ### poured is sorted -/
theorem sel_perm : ∀ (w : Nat) (z : List (It2 × Nat)), (∀ p ∈ z, p.2 < w) → (((List.range w).map fun k => sel k z).flatten).Perm (z.map (·.1))
  | 0, z, h => by
    cases z with
    | nil => exact List.Perm.refl _
    | cons p z => have := h p List.mem_cons_self; omega
  | w + 1, z, h => by
    rw [List.range_succ, List.map_append, List.flatten_append]
    have h2 : (((List.range w).map fun k => sel k z).flatten).Perm ((z.filter fun p => decide (p.2 < w)).map (·.1)) := by
      have ih := sel_perm w (z.filter fun p => decide (p.2 < w)) (fun p hp => by simpa using (List.mem_filter.mp hp).2)
      have e : ((List.range w).map fun k => sel k z) = ((List.range w).map fun k => sel k (z.filter fun p => decide (p.2 < w))) := List.map_congr_left fun k hk => by
        have hk : k < w := by simpa using hk
        unfold sel
        rw [List.filter_filter]
        congr 1
        refine List.filter_congr fun p _ => ?_
        by_cases q : p.2 = k
        · simp [q, hk]
        · simp [q]
      rw [e]; exact ih
    have h3 : (List.map (fun k => sel k z) [w]).flatten = ((z.filter fun p => !decide (p.2 < w)).map (·.1)) := by
      simp only [List.map_cons, List.map_nil, List.flatten_cons, List.flatten_nil, List.append_nil]
      unfold sel
      congr 1
      refine List.filter_congr fun p hp => ?_
      have := h p hp
      by_cases q : p.2 = w
      · simp [q]
      · have : p.2 < w := by omega
        simp [q, this]
    rw [h3]
    refine (h2.append_right _).trans ?_
    rw [← List.map_append]
    exact (List.filter_append_perm _ z).map _
theorem poured_perm (L : List (List It2)) : (poured L).Perm L.flatten := by
  have h := sel_perm L.length ((poured L).zip (traced L)) (fun p hp => by
    have := List.of_mem_zip hp
    exact (pst_inv L _ (Nat.le_refl _)).2.2.2.2.2 _ this.2)
  rw [List.map_fst_zip (by rw [poured_len, traced_len]; exact Nat.le_refl _)] at h
  have e : ((List.range L.length).map fun k => sel k ((poured L).zip (traced L))) = L := apt_poured L
  rw [e] at h
  exact h.symm
theorem poured_up (L : List (List It2)) (hu : ∀ l ∈ L, Up l) : Up (poured L) := by
  have key : ∀ n, n ≤ tot L → Up (pst L n).row ∧ ∀ p ∈ (pst L n).row, ∀ k, k < L.length → ∀ m, gT (pst L n).g k ≤ m → m < (gR L k).length → leI p (gI (gR L k) m) = true := by
    intro n
    induction n with
    | zero => intro _; exact ⟨List.Pairwise.nil, fun p hp => by simp [pst] at hp⟩
    | succ n ih =>
      intro hn
      obtain ⟨u, low⟩ := ih (by omega)
      obtain ⟨f, e, a1, a2, a3⟩ := pst_next L n (by omega)
      obtain ⟨i1, i2, -⟩ := pst_inv L n (by omega)
      have er : (pst L (n + 1)).row = (pst L n).row ++ [hd L (pst L n).g f] := by rw [a3]; rfl
      have eg : (pst L (n + 1)).g = (pst L n).g.set f (gT (pst L n).g f + 1) := by rw [a3]; rfl
      have rest : ∀ k, k < L.length → ∀ m, gT (pst L n).g k ≤ m → m < (gR L k).length → leI (hd L (pst L n).g f) (gI (gR L k) m) = true := fun k hk m h1 h2 => by
        have hmin := (nextTo_min e k hk (by omega)).1
        by_cases q : m = gT (pst L n).g k
        · subst q; exact hmin
        · have ul := hu (gR L k) (gR_mem L k hk)
          have := List.pairwise_iff_getElem.mp ul (gT (pst L n).g k) m (by omega) h2 (by omega)
          rw [gI_get _ _ (by omega), gI_get _ _ h2] at this
          exact le_tr hmin this
      have mono : ∀ k, gT (pst L n).g k ≤ gT (pst L (n + 1)).g k := fun k => by
        rw [eg, gT_set _ _ _ _ (by omega)]
        split
        · rename_i q; subst q; omega
        · exact Nat.le_refl _
      rw [er]
      refine ⟨List.pairwise_append.mpr ⟨u, List.pairwise_singleton _ _, fun p hp q hq => ?_⟩, fun p hp k hk m h1 h2 => ?_⟩
      · have : q = hd L (pst L n).g f := by simpa using hq
        subst this
        exact low p hp f a1 _ (Nat.le_refl _) a2
      · have h1' : gT (pst L n).g k ≤ m := Nat.le_trans (mono k) h1
        rcases List.mem_append.mp hp with hp | hp
        · exact low p hp k hk m h1' h2
        · have : p = hd L (pst L n).g f := by simpa using hp
          subst this
          exact rest k hk m h1' h2
  exact (key (tot L) (Nat.le_refl _)).1
theorem poured_srt (L : List (List It2)) (hu : ∀ l ∈ L, Up l) : poured L = srt L.flatten := (srt_of (poured_up L hu) (poured_perm L)).symm
/-! ### natural runs -/
def natS (l : List It2) (s : List (List It2)) (j : Nat) : List (List It2) :=
  if j = 0 ∨ ltI (gI l j) (gI l (j - 1)) = true then s ++ [[gI l j]] else s.dropLast ++ [gR s (s.length - 1) ++ [gI l j]]
def natR (l : List It2) : Nat → List (List It2)
  | 0 => []
  | j + 1 => natS l (natR l j) j
theorem natR_inv (l : List It2) : ∀ j, j ≤ l.length → (natR l j).flatten = l.take j ∧ (∀ r ∈ natR l j, Up r ∧ r.length ≤ j) ∧ (natR l j).length ≤ j ∧ (0 < j → ∃ s r, natR l j = s ++ [r ++ [gI l (j - 1)]])
  | 0, h => ⟨rfl, by simp [natR], Nat.le_refl _, fun z => by omega⟩
  | j + 1, h => by
    obtain ⟨h1, h2, h3, h4⟩ := natR_inv l j (by omega)
    have et : l.take (j + 1) = l.take j ++ [gI l j] := by rw [List.take_succ, gI_at l j (by omega)]; rfl
    have e : natR l (j + 1) = natS l (natR l j) j := rfl
    rw [e]
    unfold natS
    by_cases c : j = 0 ∨ ltI (gI l j) (gI l (j - 1)) = true
    · rw [if_pos c]
      refine ⟨by simp [h1, et], fun r hr => ?_, by simp; omega, fun _ => ⟨natR l j, [], by simp⟩⟩
      rcases List.mem_append.mp hr with hr | hr
      · exact ⟨(h2 r hr).1, by have := (h2 r hr).2; omega⟩
      · have : r = [gI l j] := by simpa using hr
        subst this
        exact ⟨List.pairwise_singleton _ _, by simp⟩
    · rw [if_neg c]
      have hj : 0 < j := by
        cases j with
        | zero => exact absurd (.inl rfl) c
        | succ j => omega
      obtain ⟨s, r, er⟩ := h4 hj
      have hl : ltI (gI l j) (gI l (j - 1)) = false := by
        cases q : ltI (gI l j) (gI l (j - 1)) with
        | false => rfl
        | true => exact absurd (.inr q) c
      have eg : gR (natR l j) ((natR l j).length - 1) = r ++ [gI l (j - 1)] := by
        rw [er]; simp [gR]
      rw [eg]
      have ed : (natR l j).dropLast = s := by rw [er]; simp
      rw [ed]
      have hu := h2 (r ++ [gI l (j - 1)]) (by rw [er]; simp)
      refine ⟨?_, fun x hx => ?_, ?_, fun _ => ⟨s, r ++ [gI l (j - 1)], by simp⟩⟩
      · rw [er] at h1
        simp at h1 ⊢
        rw [et, ← h1]; simp
      · rcases List.mem_append.mp hx with hx | hx
        · have := h2 x (by rw [er]; simp [hx])
          exact ⟨this.1, by omega⟩
        · have : x = r ++ [gI l (j - 1)] ++ [gI l j] := by simpa using hx
          subst this
          refine ⟨List.pairwise_append.mpr ⟨hu.1, List.pairwise_singleton _ _, fun a ha b hb => ?_⟩, by have := hu.2; simp at this ⊢; omega⟩
          have : b = gI l j := by simpa using hb
          subst this
          have le1 : leI (gI l (j - 1)) (gI l j) = true := by unfold leI; rw [hl]; rfl
          rcases List.mem_append.mp ha with ha | ha
          · have := (List.pairwise_append.mp hu.1).2.2 a ha (gI l (j - 1)) (by simp)
            exact le_tr this le1
          · have : a = gI l (j - 1) := by simpa using ha
            subst this; exact le1
      · rw [er] at h3; simp at h3 ⊢; omega
def nat (l : List It2) : List (List It2) := natR l l.length
theorem nat_flat (l : List It2) : (nat l).flatten = l := by
  have := (natR_inv l l.length (Nat.le_refl _)).1
  rw [List.take_length] at this; exact this
theorem nat_up (l : List It2) : ∀ r ∈ nat l, Up r := fun r hr => ((natR_inv l l.length (Nat.le_refl _)).2.1 r hr).1
theorem tot_flat (L : List (List It2)) : tot L = L.flatten.length := by simp [tot, List.length_flatten]
end DL

end
section
set_option maxRecDepth 100000
/-! plain lists: the trace as a sorted row of marked items; runs poured to one ahead -/
namespace DL
open PySem L2
def leN (p q : It2 × Nat) : Bool := ltI p.1 q.1 || (leI p.1 q.1 && decide (p.2 ≤ q.2))
theorem lt_asym {a b : It2} (h : ltI a b = true) : ltI b a = false := by
  have := le_tot a b
  unfold leI at this
  rw [h] at this
  simpa using this
theorem lt_le {a b c : It2} (h : ltI a b = true) (h2 : leI b c = true) : ltI a c = true := by
  cases q : ltI a c with
  | true => rfl
  | false =>
    have h3 : leI c a = true := by unfold leI; rw [q]; rfl
    have h4 := le_tr h2 h3
    unfold leI at h4
    rw [h] at h4; cases h4
theorem leN_anti {p q : It2 × Nat} (h : leN p q = true) (h2 : leN q p = true) : p = q := by
  unfold leN at h h2
  simp only [Bool.or_eq_true, Bool.and_eq_true, decide_eq_true_eq] at h h2
  rcases h with h | ⟨h, hn⟩
  · rcases h2 with h2 | ⟨h2, -⟩
    · rw [lt_asym h] at h2; cases h2
    · unfold leI at h2; rw [h] at h2; cases h2
  · rcases h2 with h2 | ⟨h2, hn2⟩
    · unfold leI at h; rw [h2] at h; cases h
    · exact Prod.ext (le_anti h h2) (Nat.le_antisymm hn hn2)
abbrev UpN (l : List (It2 × Nat)) : Prop := l.Pairwise fun p q => leN p q = true
theorem upN_uniq {l m : List (It2 × Nat)} (h1 : UpN l) (h2 : UpN m) (p : l.Perm m) : l = m := p.eq_of_pairwise (fun _ _ _ _ => leN_anti) h1 h2
def zt (L : List (List It2)) : List (It2 × Nat) := (poured L).zip (traced L)
theorem zt_up (L : List (List It2)) (hu : ∀ l ∈ L, Up l) : UpN (zt L) := by
  have key : ∀ n, n ≤ tot L → UpN ((pst L n).row.zip (pst L n).tr) ∧ ∀ p ∈ (pst L n).row.zip (pst L n).tr, ∀ k, k < L.length → ∀ m, gT (pst L n).g k ≤ m → m < (gR L k).length → leN p (gI (gR L k) m, k) = true := by
    intro n
    induction n with
    | zero => intro _; exact ⟨List.Pairwise.nil, fun p hp => by simp [pst] at hp⟩
    | succ n ih =>
      intro hn
      obtain ⟨u, low⟩ := ih (by omega)
      obtain ⟨f, e, a1, a2, a3⟩ := pst_next L n (by omega)
      obtain ⟨i1, i2, i3, i4, i5, -⟩ := pst_inv L n (by omega)
      have er : (pst L (n + 1)).row = (pst L n).row ++ [hd L (pst L n).g f] := by rw [a3]; rfl
      have et : (pst L (n + 1)).tr = (pst L n).tr ++ [f] := by rw [a3]; rfl
      have eg : (pst L (n + 1)).g = (pst L n).g.set f (gT (pst L n).g f + 1) := by rw [a3]; rfl
      have ez : (pst L (n + 1)).row.zip (pst L (n + 1)).tr = (pst L n).row.zip (pst L n).tr ++ [(hd L (pst L n).g f, f)] := by
        rw [er, et, List.zip_append (by omega)]; rfl
      have rest : ∀ k, k < L.length → ∀ m, gT (pst L n).g k ≤ m → m < (gR L k).length → leN (hd L (pst L n).g f, f) (gI (gR L k) m, k) = true := fun k hk m h1 h2 => by
        obtain ⟨m1, m2⟩ := nextTo_min e k hk (by omega)
        have hle : leI (hd L (pst L n).g k) (gI (gR L k) m) = true := by
          by_cases q : m = gT (pst L n).g k
          · subst q
            unfold leI
            cases hb : ltI (gI (gR L k) (gT (pst L n).g k)) (hd L (pst L n).g k) with
            | false => rfl
            | true => have := lt_asym hb
                      have e2 : hd L (pst L n).g k = gI (gR L k) (gT (pst L n).g k) := rfl
                      rw [e2] at this hb; rw [this] at hb; cases hb
          · have ul := hu (gR L k) (gR_mem L k hk)
            have := List.pairwise_iff_getElem.mp ul (gT (pst L n).g k) m (by omega) h2 (by omega)
            rw [gI_get _ _ (by omega), gI_get _ _ h2] at this
            exact this
        unfold leN
        simp only [Bool.or_eq_true, Bool.and_eq_true, decide_eq_true_eq]
        by_cases c : k < f
        · exact .inl (lt_le (m2 c) hle)
        · exact .inr ⟨le_tr m1 hle, by omega⟩
      have mono : ∀ k, gT (pst L n).g k ≤ gT (pst L (n + 1)).g k := fun k => by
        rw [eg, gT_set _ _ _ _ (by omega)]
        split
        · rename_i q; subst q; omega
        · exact Nat.le_refl _
      rw [ez]
      refine ⟨List.pairwise_append.mpr ⟨u, List.pairwise_singleton _ _, fun p hp q hq => ?_⟩, fun p hp k hk m h1 h2 => ?_⟩
      · have : q = (hd L (pst L n).g f, f) := by simpa using hq
        subst this
        exact low p hp f a1 _ (Nat.le_refl _) a2
      · have h1' : gT (pst L n).g k ≤ m := Nat.le_trans (mono k) h1
        rcases List.mem_append.mp hp with hp | hp
        · exact low p hp k hk m h1' h2
        · have : p = (hd L (pst L n).g f, f) := by simpa using hp
          subst this
          exact rest k hk m h1' h2
  exact (key (tot L) (Nat.le_refl _)).1
theorem filt_perm : ∀ (w : Nat) (z : List (It2 × Nat)), (∀ p ∈ z, p.2 < w) → (((List.range w).map fun k => z.filter fun p => decide (p.2 = k)).flatten).Perm z
  | 0, z, h => by
    cases z with
    | nil => exact List.Perm.refl _
    | cons p z => have := h p List.mem_cons_self; omega
  | w + 1, z, h => by
    rw [List.range_succ, List.map_append, List.flatten_append]
    have h2 : (((List.range w).map fun k => z.filter fun p => decide (p.2 = k)).flatten).Perm (z.filter fun p => decide (p.2 < w)) := by
      have ih := filt_perm w (z.filter fun p => decide (p.2 < w)) (fun p hp => by simpa using (List.mem_filter.mp hp).2)
      have e : ((List.range w).map fun k => z.filter fun p => decide (p.2 = k)) = ((List.range w).map fun k => (z.filter fun p => decide (p.2 < w)).filter fun p => decide (p.2 = k)) := List.map_congr_left fun k hk => by
        have hk : k < w := by simpa using hk
        rw [List.filter_filter]
        refine List.filter_congr fun p _ => ?_
        by_cases q : p.2 = k
        · simp [q, hk]
        · simp [q]
      rw [e]; exact ih
    have h3 : (List.map (fun k => z.filter fun p => decide (p.2 = k)) [w]).flatten = (z.filter fun p => !decide (p.2 < w)) := by
      simp only [List.map_cons, List.map_nil, List.flatten_cons, List.flatten_nil, List.append_nil]
      refine List.filter_congr fun p hp => ?_
      have := h p hp
      by_cases q : p.2 = w
      · simp [q]
      · have : p.2 < w := by omega
        simp [q, this]
    rw [h3]
    exact (h2.append_right _).trans (List.filter_append_perm _ z)
theorem filt_sel (k : Nat) : ∀ z : List (It2 × Nat), (z.filter fun p => decide (p.2 = k)) = (sel k z).map fun i => (i, k)
  | [] => rfl
  | p :: z => by
    have e : p :: z = [p] ++ z := rfl
    rw [e, List.filter_append, sel_app, List.map_append, filt_sel k z, sel_one]
    congr 1
    by_cases q : p.2 = k
    · subst q; simp
    · simp [q]
/-- all items with the numbers of their runs -/
def tgF : Nat → List (List It2) → List (It2 × Nat)
  | _, [] => []
  | s, l :: L => l.map (fun i => (i, s)) ++ tgF (s + 1) L
theorem tgF_range : ∀ (L : List (List It2)) (s : Nat), ((List.range L.length).map fun k => (gR L k).map fun i => (i, s + k)).flatten = tgF s L
  | [], s => rfl
  | l :: L, s => by
    rw [List.length_cons, List.range_succ_eq_map, List.map_cons, List.flatten_cons, List.map_map]
    have e := tgF_range L (s + 1)
    have e2 : ((List.range L.length).map ((fun k => (gR (l :: L) k).map fun i => (i, s + k)) ∘ Nat.succ)) = ((List.range L.length).map fun k => (gR L k).map fun i => (i, s + 1 + k)) := List.map_congr_left fun k _ => by
      have e3 : s + Nat.succ k = s + 1 + k := by omega
      show (gR (l :: L) (k + 1)).map (fun i => (i, s + Nat.succ k)) = _
      rw [e3]; rfl
    rw [e2, e]; rfl
theorem zt_perm (L : List (List It2)) : (zt L).Perm (tgF 0 L) := by
  have h := filt_perm L.length (zt L) (fun p hp => by
    have := List.of_mem_zip hp
    exact (pst_inv L _ (Nat.le_refl _)).2.2.2.2.2 _ this.2)
  have e : ((List.range L.length).map fun k => (zt L).filter fun p => decide (p.2 = k)) = ((List.range L.length).map fun k => (gR L k).map fun i => (i, 0 + k)) := List.map_congr_left fun k hk => by
    have hk : k < L.length := by simpa using hk
    rw [filt_sel, Nat.zero_add]
    congr 1
    have a := apt_at (poured L) (traced L) L.length k hk
    rw [apt_poured] at a
    exact a.symm
  rw [e, tgF_range] at h
  exact h.symm
theorem tgF_app : ∀ (A B : List (List It2)) (s : Nat), tgF s (A ++ B) = tgF s A ++ tgF (s + A.length) B
  | [], B, s => rfl
  | l :: A, B, s => by
    have ih := tgF_app A B (s + 1)
    have e : s + 1 + A.length = s + (A.length + 1) := by omega
    show l.map (fun i => (i, s)) ++ tgF (s + 1) (A ++ B) = l.map (fun i => (i, s)) ++ tgF (s + 1) A ++ tgF (s + (A.length + 1)) B
    rw [ih, e, List.append_assoc]
theorem tgF_shift (f : Nat → Nat) : ∀ (L : List (List It2)) (s t : Nat), (∀ j, j < L.length → f (s + j) = t + j) → (tgF s L).map (fun p => (p.1, f p.2)) = tgF t L
  | [], s, t, h => rfl
  | l :: L, s, t, h => by
    have ih := tgF_shift f L (s + 1) (t + 1) fun j hj => by
      have := h (j + 1) (by simp; omega)
      have e1 : s + 1 + j = s + (j + 1) := by omega
      rw [e1, this]; omega
    have h0 := h 0 (by simp)
    show (l.map (fun i => (i, s)) ++ tgF (s + 1) L).map (fun p => (p.1, f p.2)) = l.map (fun i => (i, t)) ++ tgF (t + 1) L
    rw [List.map_append, ih, List.map_map]
    congr 1
    refine List.map_congr_left fun i _ => ?_
    simpa using h0
theorem tgF_const (f : Nat → Nat) (c : Nat) : ∀ (L : List (List It2)) (s : Nat), (∀ j, j < L.length → f (s + j) = c) → (tgF s L).map (fun p => (p.1, f p.2)) = L.flatten.map fun i => (i, c)
  | [], s, h => rfl
  | l :: L, s, h => by
    have ih := tgF_const f c L (s + 1) fun j hj => by
      have := h (j + 1) (by simp; omega)
      have e1 : s + 1 + j = s + (j + 1) := by omega
      rw [e1, this]
    have h0 := h 0 (by simp)
    show (l.map (fun i => (i, s)) ++ tgF (s + 1) L).map (fun p => (p.1, f p.2)) = (l ++ L.flatten).map _
    rw [List.map_append, ih, List.map_append, List.map_map]
    congr 1
    refine List.map_congr_left fun i _ => ?_
    simpa using h0
def asOne (lo hi n : Nat) : Nat := if hi ≤ n then n - (hi - lo) + 1 else if lo ≤ n then lo else n
theorem asOne_mono (lo hi a b : Nat) (h : lo < hi) (hab : a ≤ b) : asOne lo hi a ≤ asOne lo hi b := by
  unfold asOne; split <;> split <;> (try split) <;> (try split) <;> omega
theorem one_ahead (A B C : List (List It2)) (hu : ∀ l ∈ A ++ B ++ C, Up l) (hb : 0 < B.length) : poured (A ++ [poured B] ++ C) = poured (A ++ B ++ C) ∧ traced (A ++ [poured B] ++ C) = (traced (A ++ B ++ C)).map (asOne A.length (A.length + B.length)) := by
  have hup : Up (poured B) := poured_up B fun l hl => hu l (by simp [hl])
  have hM : ∀ l ∈ A ++ [poured B] ++ C, Up l := fun l hl => by
    simp only [List.mem_append, List.mem_singleton] at hl
    rcases hl with (hl | hl) | hl
    · exact hu l (by simp [hl])
    · rw [hl]; exact hup
    · exact hu l (by simp [hl])
  have u1 := zt_up _ hM
  have u2 := zt_up _ hu
  have u3 : UpN ((zt (A ++ B ++ C)).map fun p => (p.1, asOne A.length (A.length + B.length) p.2)) := by
    refine List.pairwise_map.mpr (u2.imp fun {p q} h => ?_)
    unfold leN at h ⊢
    simp only [Bool.or_eq_true, Bool.and_eq_true, decide_eq_true_eq] at h ⊢
    rcases h with h | ⟨h, hn⟩
    · exact .inl h
    · exact .inr ⟨h, asOne_mono _ _ _ _ (by omega) hn⟩
  have pm : (zt (A ++ [poured B] ++ C)).Perm ((zt (A ++ B ++ C)).map fun p => (p.1, asOne A.length (A.length + B.length) p.2)) := by
    refine (zt_perm _).trans (List.Perm.trans ?_ ((zt_perm (A ++ B ++ C)).map _).symm)
    rw [tgF_app, tgF_app, tgF_app, tgF_app, List.map_append, List.map_append]
    rw [tgF_shift (asOne A.length (A.length + B.length)) A 0 0 (fun j hj => by unfold asOne; rw [if_neg (by omega), if_neg (by omega)])]
    rw [tgF_const (asOne A.length (A.length + B.length)) A.length B (0 + A.length) (fun j hj => by unfold asOne; rw [if_neg (by omega), if_pos (by omega)])]
    rw [tgF_shift (asOne A.length (A.length + B.length)) C (0 + (A ++ B).length) (0 + (A ++ [poured B]).length) (fun j hj => by
      unfold asOne; simp only [List.length_append, List.length_cons, List.length_nil]; rw [if_pos (by omega)]; omega)]
    refine List.Perm.append_right _ (List.Perm.append_left _ ?_)
    have : tgF (0 + A.length) [poured B] = (poured B).map fun i => (i, A.length) := by
      show (poured B).map (fun i => (i, 0 + A.length)) ++ [] = _
      rw [List.append_nil, Nat.zero_add]
    rw [this]
    exact (poured_perm B).map _
  have e := upN_uniq u1 u3 pm
  have s1 : ∀ L, (zt L).map (·.1) = poured L := fun L => List.map_fst_zip (by rw [poured_len, traced_len]; exact Nat.le_refl _)
  have s2 : ∀ L, (zt L).map (·.2) = traced L := fun L => List.map_snd_zip (by rw [poured_len, traced_len]; exact Nat.le_refl _)
  constructor
  · rw [← s1, e, List.map_map, ← s1]; rfl
  · rw [← s2, e, List.map_map, ← s2, List.map_map]; rfl
end DL

end
section
set_option maxRecDepth 100000
/-! plain lists: pairs that stand wrongly -/
namespace DL
open PySem L2
def ca (pre : List It2) (x : It2) : Nat := (pre.filter fun p => ltI x p).length
def cs : List It2 → List It2 → List Nat
  | _, [] => []
  | pre, x :: l => ca pre x :: cs (pre ++ [x]) l
def mxl : List Nat → Nat
  | [] => 0
  | a :: l => max a (mxl l)
def wp' (l : List It2) : Nat := (cs [] l).sum
def fr (l : List It2) : Nat := mxl (cs [] l)
def ahd (l : List It2) (k : Nat) : List Nat := (List.range k).filter fun j => ltI (gI l k) (gI l j)
def cnt (l : List It2) (k : Nat) : Nat := (ahd l k).length
theorem mxl_app : ∀ (a b : List Nat), mxl (a ++ b) = max (mxl a) (mxl b)
  | [], b => by show mxl b = max 0 (mxl b); omega
  | x :: a, b => by
    show max x (mxl (a ++ b)) = max (max x (mxl a)) (mxl b)
    rw [mxl_app a b]; omega
theorem ca_app (p q : List It2) (x : It2) : ca (p ++ q) x = ca p x + ca q x := by simp [ca]
theorem ca_one (p x : It2) : ca [p] x = if ltI x p = true then 1 else 0 := by
  unfold ca
  by_cases h : ltI x p = true <;> simp [h]
theorem cs_app : ∀ (A B pre : List It2), cs pre (A ++ B) = cs pre A ++ cs (pre ++ A) B
  | [], B, pre => by simp [cs]
  | x :: A, B, pre => by
    show ca pre x :: cs (pre ++ [x]) (A ++ B) = ca pre x :: (cs (pre ++ [x]) A ++ cs (pre ++ (x :: A)) B)
    rw [cs_app A B (pre ++ [x])]; simp
theorem cs_congr : ∀ (B p q : List It2), (∀ x, ca p x = ca q x) → cs p B = cs q B
  | [], p, q, h => rfl
  | y :: B, p, q, h => by
    show ca p y :: cs (p ++ [y]) B = ca q y :: cs (q ++ [y]) B
    rw [h y, cs_congr B (p ++ [y]) (q ++ [y]) fun x => by rw [ca_app, ca_app, h x]]
theorem cs_mono : ∀ (B p q : List It2), (∀ x, ca p x ≤ ca q x) → (cs p B).sum ≤ (cs q B).sum ∧ mxl (cs p B) ≤ mxl (cs q B)
  | [], p, q, h => ⟨Nat.le_refl _, Nat.le_refl _⟩
  | y :: B, p, q, h => by
    obtain ⟨h1, h2⟩ := cs_mono B (p ++ [y]) (q ++ [y]) fun x => by rw [ca_app, ca_app]; have := h x; omega
    have := h y
    constructor
    · show (ca p y :: cs (p ++ [y]) B).sum ≤ (ca q y :: cs (q ++ [y]) B).sum
      simp; omega
    · show max (ca p y) (mxl (cs (p ++ [y]) B)) ≤ max (ca q y) (mxl (cs (q ++ [y]) B))
      omega
/-- an item left out -/
theorem out_le (A B : List It2) (x : It2) : wp' (A ++ B) ≤ wp' (A ++ x :: B) ∧ fr (A ++ B) ≤ fr (A ++ x :: B) := by
  obtain ⟨h1, h2⟩ := cs_mono B ([] ++ A) ([] ++ A ++ [x]) fun y => by rw [ca_app ([] ++ A)]; omega
  unfold wp' fr
  rw [cs_app, cs_app]
  have e : cs ([] ++ A) (x :: B) = ca ([] ++ A) x :: cs ([] ++ A ++ [x]) B := rfl
  rw [e, List.sum_append, List.sum_append, mxl_app, mxl_app]
  have e2 : mxl (ca ([] ++ A) x :: cs ([] ++ A ++ [x]) B) = max (ca ([] ++ A) x) (mxl (cs ([] ++ A ++ [x]) B)) := rfl
  rw [e2, List.sum_cons]
  omega
/-- two neighbours exchanged -/
theorem swap_eq (A B : List It2) (a b : It2) (h : ltI b a = true) : wp' (A ++ b :: a :: B) + 1 = wp' (A ++ a :: b :: B) ∧ fr (A ++ b :: a :: B) ≤ fr (A ++ a :: b :: B) ∧ fr (A ++ a :: b :: B) ≤ fr (A ++ b :: a :: B) + 1 ∧ 0 < fr (A ++ a :: b :: B) := by
  have h' := lt_asym h
  unfold wp' fr
  rw [cs_app, cs_app]
  generalize [] ++ A = P
  have e1 : cs P (a :: b :: B) = ca P a :: ca (P ++ [a]) b :: cs (P ++ [a] ++ [b]) B := rfl
  have e2 : cs P (b :: a :: B) = ca P b :: ca (P ++ [b]) a :: cs (P ++ [b] ++ [a]) B := rfl
  have e3 : ca (P ++ [a]) b = ca P b + 1 := by rw [ca_app, ca_one, if_pos h]
  have e4 : ca (P ++ [b]) a = ca P a := by rw [ca_app, ca_one, if_neg (by rw [h']; simp)]; rfl
  have e5 : cs (P ++ [b] ++ [a]) B = cs (P ++ [a] ++ [b]) B := cs_congr B _ _ fun x => by
    rw [ca_app, ca_app, ca_app, ca_app]; omega
  rw [e1, e2, e3, e4, e5, mxl_app, mxl_app, List.sum_append, List.sum_append]
  have m1 : ∀ x y l, mxl (x :: y :: l) = max x (max y (mxl l)) := fun _ _ _ => rfl
  rw [m1, m1]
  simp only [List.sum_cons]
  omega
theorem up_cs : ∀ (l pre : List It2), Up (pre ++ l) → (cs pre l).sum = 0 ∧ mxl (cs pre l) = 0
  | [], pre, h => ⟨rfl, rfl⟩
  | x :: l, pre, h => by
    obtain ⟨h1, h2⟩ := up_cs l (pre ++ [x]) (by simpa using h)
    have h0 : ca pre x = 0 := by
      unfold ca
      rw [List.length_eq_zero_iff, List.filter_eq_nil_iff]
      intro p hp
      have := (List.pairwise_append.mp h).2.2 p hp x List.mem_cons_self
      unfold leI at this
      simpa using this
    constructor
    · show (ca pre x :: cs (pre ++ [x]) l).sum = 0
      rw [List.sum_cons]; omega
    · show max (ca pre x) (mxl (cs (pre ++ [x]) l)) = 0
      omega
theorem up_0 {l : List It2} (h : Up l) : wp' l = 0 ∧ fr l = 0 := up_cs l [] h
theorem take_range (l : List It2) (k : Nat) (h : k ≤ l.length) : l.take k = (List.range k).map (gI l) := by
  refine List.ext_getElem (by simp; omega) fun j h1 h2 => ?_
  simp only [List.getElem_take, List.getElem_map, List.getElem_range]
  exact gI_get l j _
theorem cnt_ca (l : List It2) (k : Nat) (h : k ≤ l.length) : cnt l k = ca (l.take k) (gI l k) := by
  unfold cnt ahd ca
  rw [take_range l k h, List.filter_map, List.length_map]; rfl
theorem cs_range (l : List It2) : ∀ (r pre : List It2), l = pre ++ r → cs pre r = (List.range r.length).map fun k => cnt l (pre.length + k)
  | [], pre, h => rfl
  | x :: r, pre, h => by
    have ih := cs_range l r (pre ++ [x]) (by rw [h]; simp)
    rw [List.length_cons, List.range_succ_eq_map, List.map_cons, List.map_map]
    show ca pre x :: cs (pre ++ [x]) r = _
    rw [ih]
    congr 1
    · rw [cnt_ca l _ (by rw [h]; simp), h]
      have e1 : (pre ++ x :: r).take (pre.length + 0) = pre := by simp
      have e2 : gI (pre ++ x :: r) (pre.length + 0) = x := by rw [gI_app, if_neg (by omega)]; simp [gI]
      rw [e1, e2]
    · refine List.map_congr_left fun k _ => ?_
      show cnt l ((pre ++ [x]).length + k) = cnt l (pre.length + Nat.succ k)
      congr 1; simp; omega
def cnts (l : List It2) : List Nat := (List.range l.length).map (cnt l)
theorem cnts_cs (l : List It2) : cs [] l = cnts l := by
  have := cs_range l l [] rfl
  rw [this]; unfold cnts
  exact List.map_congr_left fun k _ => by simp
theorem wp_cnts (l : List It2) : (cnts l).sum = wp' l := by rw [← cnts_cs]; rfl
theorem fr_cnts (l : List It2) : mxl (cnts l) = fr l := by rw [← cnts_cs]; rfl
/-- where neighbours stand wrongly -/
def pl (l : List It2) : List Nat := ((List.range (l.length - 1)).filter fun j => ltI (gI l (j + 1)) (gI l j)).map (1 + ·)
theorem pl_mem {l : List It2} {j : Nat} (h : j ∈ pl l) : 1 ≤ j ∧ j < l.length ∧ ltI (gI l j) (gI l (j - 1)) = true := by
  obtain ⟨i, hi, rfl⟩ := List.mem_map.mp h
  rw [List.mem_filter, List.mem_range] at hi
  have e1 : 1 + i = i + 1 := by omega
  have e2 : i + 1 - 1 = i := by omega
  rw [e1, e2]
  exact ⟨by omega, by omega, hi.2⟩
theorem pl_nil {l : List It2} (h : pl l = []) : Up l := by
  unfold pl at h
  rw [List.map_eq_nil_iff, List.filter_eq_nil_iff] at h
  rw [← ris_iff]
  unfold ris
  rw [List.all_eq_true]
  intro k hk
  have := h k hk
  simpa [leI] using this
theorem swap_at (l : List It2) (j : Nat) (h1 : 1 ≤ j) (h2 : j < l.length) : l = l.take (j - 1) ++ gI l (j - 1) :: gI l j :: l.drop (j + 1) := by
  conv => lhs; rw [← List.take_append_drop (j - 1) l]
  congr 1
  rw [List.drop_eq_getElem_cons (by omega), gI_get l _ (by omega)]
  congr 1
  have e : j - 1 + 1 = j := by omega
  rw [e, List.drop_eq_getElem_cons (by omega), gI_get l _ (by omega)]
theorem out_at (l : List It2) (k : Nat) : wp' (l.take k ++ l.drop (k + 1)) ≤ wp' l ∧ fr (l.take k ++ l.drop (k + 1)) ≤ fr l := by
  by_cases h : k < l.length
  · have e : l = l.take k ++ gI l k :: l.drop (k + 1) := by
      conv => lhs; rw [← List.take_append_drop k l]
      congr 1
      rw [List.drop_eq_getElem_cons h, gI_get l _ h]
    have := out_le (l.take k) (l.drop (k + 1)) (gI l k)
    rw [← e] at this; exact this
  · have e : l.take k ++ l.drop (k + 1) = l := by
      rw [List.take_of_length_le (by omega), List.drop_eq_nil_of_le (by omega), List.append_nil]
    rw [e]; exact ⟨Nat.le_refl _, Nat.le_refl _⟩
end DL

end
section
set_option maxRecDepth 100000
/-! plain trees: plans of pours -/
namespace DL
open PySem L2
inductive Pl where
  | lf (n : Nat)
  | nd (ps : List Pl)
mutual
def plD : Pl → D
  | .lf n => eN n
  | .nd ps => .nd .tup (plDs ps)
def plDs : List Pl → List D
  | [] => []
  | p :: ps => plD p :: plDs ps
end
theorem plDs_em : ∀ ps, plDs ps = em plD ps
  | [] => by simp [plDs]
  | p :: ps => by simp [plDs, em_cons, plDs_em ps]
theorem plD_nd (ps : List Pl) : plD (.nd ps) = .nd .tup (em plD ps) := by
  show D.nd .tup (plDs ps) = _
  rw [plDs_em]
@[simp] theorem plD_lf (n : Nat) : plD (.lf n) = .sc (.int n) := by simp [plD]
mutual
theorem plD_Fz : ∀ p, Fz (plD p) = true
  | .lf n => rfl
  | .nd ps => by
    show Fzs (plDs ps) = true
    exact plDs_Fz ps
theorem plDs_Fz : ∀ ps, Fzs (plDs ps) = true
  | [] => rfl
  | p :: ps => by
    show (Fz (plD p) && Fzs (plDs ps)) = true
    rw [plD_Fz p, plDs_Fz ps]; rfl
end
instance : FzF plD := ⟨plD_Fz⟩
theorem plD_una (p : Pl) : isUna (plD p) = false := by
  cases p with
  | lf n => rfl
  | nd ps => rfl
mutual
def dep : Pl → Nat
  | .lf _ => 0
  | .nd ps => deps ps + 1
def deps : List Pl → Nat
  | [] => 0
  | p :: ps => max (dep p) (deps ps)
end
theorem dep_le : ∀ {ps : List Pl} {p : Pl}, p ∈ ps → dep p ≤ deps ps
  | q :: ps, p, h => by
    show dep p ≤ max (dep q) (deps ps)
    rcases List.mem_cons.mp h with rfl | h
    · omega
    · have := dep_le h; omega
theorem deps_le : ∀ {ps : List Pl} {n : Nat}, (∀ p ∈ ps, dep p ≤ n) → deps ps ≤ n
  | [], n, h => Nat.zero_le _
  | p :: ps, n, h => by
    have h1 := h p List.mem_cons_self
    have h2 := deps_le (ps := ps) fun q hq => h q (List.mem_cons_of_mem _ hq)
    show max (dep p) (deps ps) ≤ n
    omega
mutual
def num : Pl → List Nat
  | .lf n => [n]
  | .nd ps => nums ps
def nums : List Pl → List Nat
  | [] => []
  | p :: ps => num p ++ nums ps
end
theorem nums_app : ∀ (a b : List Pl), nums (a ++ b) = nums a ++ nums b
  | [], b => rfl
  | p :: a, b => by
    show num p ++ nums (a ++ b) = num p ++ nums a ++ nums b
    rw [nums_app a b, List.append_assoc]
theorem nums_one (p : Pl) : nums [p] = num p := by show num p ++ [] = _; simp
theorem nums_perm {a b : List Pl} (h : a.Perm b) : (nums a).Perm (nums b) := by
  induction h with
  | nil => exact List.Perm.refl _
  | cons x _ ih => exact ih.append_left _
  | swap x y l =>
    show (num y ++ (num x ++ nums l)).Perm (num x ++ (num y ++ nums l))
    rw [← List.append_assoc, ← List.append_assoc]
    exact List.perm_append_comm.append_right _
  | trans _ _ h1 h2 => exact h1.trans h2
theorem nums_mem : ∀ {ps : List Pl} {p : Pl}, p ∈ ps → ∀ n ∈ num p, n ∈ nums ps
  | q :: ps, p, h, n, hn => by
    show n ∈ num q ++ nums ps
    rw [List.mem_append]
    rcases List.mem_cons.mp h with rfl | h
    · exact .inl hn
    · exact .inr (nums_mem h n hn)
mutual
/-- no empty node, and no more than a thousand in one -/
def wfP : Pl → Bool
  | .lf _ => true
  | .nd ps => decide (0 < ps.length) && wfPs ps
def wfPs : List Pl → Bool
  | [] => true
  | p :: ps => wfP p && wfPs ps
end
theorem wfPs_mem : ∀ {ps : List Pl}, wfPs ps = true ↔ ∀ p ∈ ps, wfP p = true
  | [] => by simp [wfPs]
  | q :: ps => by
    have := wfPs_mem (ps := ps)
    show (wfP q && wfPs ps) = true ↔ _
    rw [Bool.and_eq_true, this]; simp
mutual
theorem num_pos : ∀ {p : Pl}, wfP p = true → 0 < (num p).length
  | .lf n, h => by simp [num]
  | .nd ps, h => by
    have h : (decide (0 < ps.length) && wfPs ps) = true := h
    simp only [Bool.and_eq_true, decide_eq_true_eq] at h
    have := nums_len h.2
    show 0 < (nums ps).length
    omega
theorem nums_len : ∀ {ps : List Pl}, wfPs ps = true → ps.length ≤ (nums ps).length
  | [], h => Nat.zero_le _
  | p :: ps, h => by
    have h : (wfP p && wfPs ps) = true := h
    rw [Bool.and_eq_true] at h
    have h1 := num_pos h.1
    have h2 := nums_len h.2
    show ps.length + 1 ≤ (num p ++ nums ps).length
    rw [List.length_append]; omega
end
mutual
/-- what a plan moves -/
def mv (len : List Int) : Pl → Int
  | .lf _ => 0
  | .nd ps => ((nums ps).map fun n => gN len n).sum + mvs len ps
def mvs (len : List Int) : List Pl → Int
  | [] => 0
  | p :: ps => mv len p + mvs len ps
end
theorem mvs_sum (len : List Int) : ∀ ps, (ps.map (mv len)).sum = mvs len ps
  | [] => rfl
  | p :: ps => by
    show (mv len p :: ps.map (mv len)).sum = mv len p + mvs len ps
    rw [List.sum_cons, mvs_sum len ps]
mutual
/-- how many passes -/
def pas : Pl → Int
  | .lf _ => 0
  | .nd ps => 1 + maxL (pass ps)
def pass : List Pl → List Int
  | [] => []
  | p :: ps => pas p :: pass ps
end
theorem pass_map : ∀ ps, pass ps = ps.map pas
  | [] => rfl
  | p :: ps => by show pas p :: pass ps = pas p :: ps.map pas; rw [pass_map ps]
/-- plans that stand in a row while one is made -/
structure Made (many : Nat) (ts : List Pl) : Prop where
  pm : (nums ts).Perm (List.range many)
  wf : wfPs ts = true
  dp : ∀ p ∈ ts, dep p + ts.length ≤ many
theorem made_0 (many : Nat) : Made many ((List.range many).map .lf) := by
  refine ⟨?_, wfPs_mem.mpr fun p hp => ?_, fun p hp => ?_⟩
  · have : ∀ l : List Nat, nums (l.map .lf) = l := by
      intro l
      induction l with
      | nil => rfl
      | cons n l ih => show [n] ++ nums (l.map .lf) = n :: l; rw [ih]; rfl
    rw [this]
  · obtain ⟨n, -, rfl⟩ := List.mem_map.mp hp
    rfl
  · obtain ⟨n, -, rfl⟩ := List.mem_map.mp hp
    show 0 + _ ≤ _
    simp
theorem made_len {many : Nat} {ts : List Pl} (h : Made many ts) : ts.length ≤ many := by
  have := nums_len h.wf
  have e := h.pm.length_eq
  simp at e; omega
theorem made_step {many : Nat} {ts us ws : List Pl} {k : Nat} (h : Made many ts) (p : (ws ++ us).Perm ts) (hu : 2 ≤ us.length) : Made many (ws.take k ++ .nd us :: ws.drop k) := by
  have p2 : (ws.take k ++ .nd us :: ws.drop k).Perm (ws ++ [.nd us]) := by
    have : (ws.take k ++ Pl.nd us :: ws.drop k).Perm (Pl.nd us :: (ws.take k ++ ws.drop k)) := List.perm_middle
    rw [List.take_append_drop] at this
    exact this.trans (List.perm_append_comm (l₁ := [Pl.nd us]))
  have len : ts.length = ws.length + us.length := by rw [← p.length_eq]; simp
  have hw := wfPs_mem.mp h.wf
  refine ⟨?_, wfPs_mem.mpr fun q hq => ?_, fun q hq => ?_⟩
  · have e : nums (ws ++ [.nd us]) = nums (ws ++ us) := by
      rw [nums_app, nums_app, nums_one]; rfl
    exact (nums_perm p2).trans (e ▸ (nums_perm p).trans h.pm)
  · have hq := p2.mem_iff.mp hq
    rcases List.mem_append.mp hq with hq | hq
    · exact hw q (p.mem_iff.mp (List.mem_append_left _ hq))
    · have : q = .nd us := by simpa using hq
      subst this
      have : wfPs us = true := wfPs_mem.mpr fun x hx => hw x (p.mem_iff.mp (List.mem_append_right _ hx))
      show (decide (0 < us.length) && wfPs us) = true
      rw [this]; simp; omega
  · have el : (ws.take k ++ .nd us :: ws.drop k).length = ws.length + 1 := by rw [p2.length_eq]; simp
    rw [el]
    have hq := p2.mem_iff.mp hq
    rcases List.mem_append.mp hq with hq | hq
    · have := h.dp q (p.mem_iff.mp (List.mem_append_left _ hq))
      omega
    · have : q = .nd us := by simpa using hq
      subst this
      have hd : deps us ≤ many - ts.length := deps_le fun x hx => by
        have := h.dp x (p.mem_iff.mp (List.mem_append_right _ hx))
        omega
      have := made_len h
      show deps us + 1 + _ ≤ many
      omega
theorem ext_s (ds es : List D) (m : Bool) (h : ds.length + es.length ≤ 100000) : mExtend (.lst true) ds [.nd (.lst m) es] = some (.sc .non, .lst true, ds ++ es) := by
  show (if ds.length + es.length ≤ 100000 then _ else _) = _
  rw [if_pos h]
theorem em_erase {α : Type} (f : α → D) : ∀ (l : List α) (i : Nat), (em f l).eraseIdx i = em f (l.eraseIdx i)
  | [], i => by cases i <;> rfl
  | a :: l, 0 => rfl
  | a :: l, i + 1 => by
    show f a :: (em f l).eraseIdx i = f a :: em f (l.eraseIdx i)
    rw [em_erase f l i]
theorem pop_s {α : Type} (f : α → D) (l : List α) (i : Nat) (a : α) (h : l[i]? = some a) (hl : l.length ≤ 100000) : mPopAt (.lst true) (em f l) [.sc (.int (i : Int))] = some (f a, .lst true, em f (l.eraseIdx i)) := by
  have hi := (List.getElem?_eq_some_iff.mp h).1
  unfold mPopAt
  dsimp only
  rw [if_pos (by rw [em_len]; omega), Int.toNat_natCast, em_at, h]
  rw [em_erase]; rfl
end DL

end
section
set_option maxRecDepth 100000
/-! classes of exceptions, told by their place -/
namespace DL
open PySem L2
def kls (n : Nat) : List Bool := (List.range 13).map fun k => decide (k = n)
theorem kls_eq (n : Nat) (hn : n < 13) (i : Int) : (kls n = (List.range 13).map fun (k : Nat) => decide ((k : Int) = i)) ↔ i = (n : Int) := by
  constructor
  · intro h
    have e := congrArg (fun l => l[n]?) h
    simp only [kls, List.getElem?_map, List.getElem?_range hn, Option.map_some, decide_true] at e
    have : decide ((n : Int) = i) = true := (Option.some.inj e).symm
    have := of_decide_eq_true this
    omega
  · intro h
    subst h
    unfold kls
    refine List.map_congr_left fun k _ => ?_
    have : ((k : Int) = (n : Int)) ↔ k = n := by omega
    simp [this]
theorem kls_only (n : Nat) (hn : n < 13) : (List.range 13).filter (fun (k : Nat) => decide ((k : Int) = (n : Int))) = [n] := by
  have : ∀ n ∈ List.range 13, (List.range 13).filter (fun (k : Nat) => decide ((k : Int) = (n : Int))) = [n] := by decide +kernel
  exact this n (List.mem_range.mpr hn)
end DL

end
section
set_option maxRecDepth 100000
/-! DL, part 23: equations of dicts and of reversed. -/
namespace DL
open PySem L2
@[simp] theorem ev_dNewK (E : List D) : dNewK E = .ok (.val (.nd (.dik true []) []), E) := rfl
@[simp] theorem ev_dNewT (E : List D) : dNewT E = .ok (.val (.nd (.dit true []) []), E) := rfl
@[simp] theorem ev_dDGet (p : Bool) (d1 d2 : Den) (E : List D) : dDGet p d1 d2 E = (aCons p d1 (aCons true d2 aNil) E).bind getDK := rfl
@[simp] theorem ev_getDK (o q : Opd) (E : List D) : getDK ([o, q], E) = match cont E o, cont E q with
    | some (.nd k ds), some c => (match kdIx k c with
      | some (some j) => (match ds[j]? with
        | some d => (child o j d).bind fun o' => .ok (o', E)
        | none => .bad)
      | _ => .bad)
    | _, _ => .bad := id rfl
@[simp] theorem ev_fDIn (neg : Bool) (c : D) (k : Kd) (ds : List D) : fDIn neg [c, .nd k ds] = (kdIx k c).map fun j => .sc (.bl (j.isSome != neg)) := id rfl
@[simp] theorem ev_dDPut (p1 p2 : Bool) (d d0 di : Den) (E : List D) : dDPut p1 p2 d d0 di E = (aCons (p1 && (p2 && true)) d (aCons (p2 && true) d0 (aCons true di aNil)) E).toS putDK := id rfl
def pdk (E : List D) (i : Nat) (p : List Nat) (ds : List D) (c : D) : Option (Kd × Option Nat) → S
  | some (k', some j) => .nx (setP E i p (.nd k' (ds.set j c)))
  | some (k', none) => .nx (setP E i p (.nd k' (ds ++ [c])))
  | none => .bad
@[simp] theorem ev_putDK (c : D) (i : Nat) (p : List Nat) (q : Opd) (E : List D) : putDK ([.val c, .plc i p, q], E) = match getP E i p, cont E q with
    | some (.nd k ds), some y => if k.mut then pdk E i p ds c (kdPut k y) else .bad
    | _, _ => .bad := by
  have key : ∀ (x y : Option D), x = getP E i p → y = cont E q → putDK ([.val c, .plc i p, q], E) = match x, y with
      | some (.nd k ds), some y => if k.mut then pdk E i p ds c (kdPut k y) else .bad
      | _, _ => .bad := by
    rintro x y hx hy
    unfold putDK
    dsimp only
    rw [← hx, ← hy]
    split
    · try dsimp only
      split
      · unfold pdk
        split <;> first | rfl | (rename_i h; rw [h]) | (rename_i h _; rw [h])
      · rfl
    · rename_i hn
      first
        | rfl
        | (split
           · exact (hn _ _ _ rfl rfl).elim
           · rfl)
  exact key _ _ rfl rfl
@[simp] theorem pdk_j (E : List D) (i : Nat) (p : List Nat) (ds : List D) (c : D) (k : Kd) (j : Nat) : pdk E i p ds c (some (k, some j)) = .nx (setP E i p (.nd k (ds.set j c))) := rfl
@[simp] theorem pdk_n (E : List D) (i : Nat) (p : List Nat) (ds : List D) (c : D) (k : Kd) : pdk E i p ds c (some (k, none)) = .nx (setP E i p (.nd k (ds ++ [c]))) := rfl
@[simp] theorem mut_dit (m : Bool) (ks : List (List Key)) : (Kd.dit m ks).mut = m := rfl
@[simp] theorem mut_dik (m : Bool) (ks : List Key) : (Kd.dik m ks).mut = m := rfl
def revK (r : Opd × List D) : R (List D × List D) := match r.1 with
  | .val (.nd (.lst _) ds) => .ok ((fzs ds).reverse, r.2)
  | _ => .bad
@[simp] theorem ev_dRev (d : Den) (E : List D) : dRev d E = (d E).bind revK := id rfl
@[simp] theorem revK_l (m : Bool) (ds E : List D) : revK (.val (.nd (.lst m) ds), E) = .ok ((fzs ds).reverse, E) := rfl
end DL

end
section
set_option maxRecDepth 100000
/-! contests: heads, firsts by stretch -/
namespace DL
open PySem L2
def eH : Option It2 → D
  | none => .sc .non
  | some t => itm t
@[simp] theorem eH_none : eH none = .sc .non := rfl
@[simp] theorem eH_some (t : It2) : eH (some t) = itm t := rfl
@[simp] theorem itm_non (t : It2) : isNonD (itm t) = some false := rfl
abbrev FS := List ((Nat × Nat) × Option Nat)
abbrev kS (p : Nat × Nat) : List Key := [.inl p.1, .inl p.2]
abbrev dS (p : Nat × Nat) : D := .nd .tup [.sc (.int p.1), .sc (.int p.2)]
def kF (fs : FS) : List (List Key) := fs.map fun e => kS e.1
def vF (fs : FS) : List D := fs.map fun e => eO e.2
def getF : FS → Nat × Nat → Option (Option Nat)
  | [], _ => none
  | e :: fs, k => if e.1 = k then some e.2 else getF fs k
def setF : FS → Nat × Nat → Option Nat → FS
  | [], k, v => [(k, v)]
  | e :: fs, k, v => if e.1 = k then (k, v) :: fs else e :: setF fs k v
theorem kS_inj {p q : Nat × Nat} (h : kS p = kS q) : p = q := by
  simp only [kS, List.cons.injEq, Sum.inl.injEq] at h
  exact Prod.ext (by omega) (by omega)
theorem kIx_get : ∀ {fs : FS} {k : Nat × Nat} {v : Option Nat}, getF fs k = some v → ∃ j, kIx (kS k) (kF fs) = some j ∧ (vF fs)[j]? = some (eO v)
  | [], k, v, h => by cases h
  | e :: fs, k, v, h => by
    unfold getF at h
    show ∃ j, (if kS e.1 = kS k then some 0 else (kIx (kS k) (kF fs)).map (· + 1)) = some j ∧ _
    by_cases c : e.1 = k
    · rw [if_pos c] at h; cases h
      rw [if_pos (by rw [c])]
      exact ⟨0, rfl, rfl⟩
    · rw [if_neg c] at h
      rw [if_neg (fun z => c (kS_inj z))]
      obtain ⟨j, h1, h2⟩ := kIx_get h
      exact ⟨j + 1, by rw [h1]; rfl, h2⟩
theorem kIx_no : ∀ {fs : FS} {k : Nat × Nat}, getF fs k = none → kIx (kS k) (kF fs) = none
  | [], k, h => rfl
  | e :: fs, k, h => by
    unfold getF at h
    show (if kS e.1 = kS k then some 0 else (kIx (kS k) (kF fs)).map (· + 1)) = none
    by_cases c : e.1 = k
    · rw [if_pos c] at h; cases h
    · rw [if_neg c] at h
      rw [if_neg (fun z => c (kS_inj z)), kIx_no h]; rfl
theorem set_get : ∀ {fs : FS} {k : Nat × Nat} {v w : Option Nat}, getF fs k = some v → ∃ j, kIx (kS k) (kF fs) = some j ∧ (vF fs).set j (eO w) = vF (setF fs k w) ∧ kF (setF fs k w) = kF fs
  | [], k, v, w, h => by cases h
  | e :: fs, k, v, w, h => by
    unfold getF at h
    show ∃ j, (if kS e.1 = kS k then some 0 else (kIx (kS k) (kF fs)).map (· + 1)) = some j ∧ _
    by_cases c : e.1 = k
    · rw [if_pos (by rw [c])]
      refine ⟨0, rfl, ?_⟩
      unfold setF
      rw [if_pos c]
      exact ⟨rfl, by show kS k :: _ = kS e.1 :: _; rw [c]⟩
    · rw [if_neg c] at h
      rw [if_neg (fun z => c (kS_inj z))]
      obtain ⟨j, h1, h2, h3⟩ := set_get (w := w) h
      unfold setF
      rw [if_neg c]
      exact ⟨j + 1, by rw [h1]; rfl, congrArg (eO e.2 :: ·) h2, congrArg (kS e.1 :: ·) h3⟩
theorem set_no : ∀ {fs : FS} {k : Nat × Nat} {w : Option Nat}, getF fs k = none → setF fs k w = fs ++ [(k, w)]
  | [], k, w, h => rfl
  | e :: fs, k, w, h => by
    unfold getF at h
    by_cases c : e.1 = k
    · rw [if_pos c] at h; cases h
    · rw [if_neg c] at h
      unfold setF
      rw [if_neg c, set_no h]; rfl
theorem get_set : ∀ (fs : FS) (k j : Nat × Nat) (w : Option Nat), getF (setF fs k w) j = if j = k then some w else getF fs j
  | [], k, j, w => by
    show (if k = j then some w else none) = _
    by_cases c : j = k
    · rw [if_pos c, if_pos c.symm]
    · rw [if_neg c, if_neg (fun z => c z.symm)]; rfl
  | e :: fs, k, j, w => by
    unfold setF
    by_cases c : e.1 = k
    · rw [if_pos c]
      show (if k = j then some w else getF fs j) = _
      by_cases q : j = k
      · rw [if_pos q, if_pos q.symm]
      · rw [if_neg q, if_neg (fun z => q z.symm)]
        show _ = (if e.1 = j then _ else _)
        rw [if_neg (fun z => q (z.symm.trans c))]
    · rw [if_neg c]
      show (if e.1 = j then some e.2 else getF (setF fs k w) j) = _
      rw [get_set fs k j w]
      show _ = if j = k then some w else (if e.1 = j then some e.2 else getF fs j)
      by_cases q : e.1 = j
      · rw [if_pos q, if_neg (fun z => c (q.trans z)), if_pos q]
      · rw [if_neg q, if_neg q]
/-- no stretch twice, and not too many -/
structure OkF (fs : FS) : Prop where
  nd : (kF fs).Nodup
  len : fs.length ≤ 1000
theorem len_setF : ∀ (fs : FS) (k : Nat × Nat) (w : Option Nat), (setF fs k w).length = fs.length + (if (getF fs k).isSome then 0 else 1)
  | [], k, w => rfl
  | e :: fs, k, w => by
    unfold setF getF
    by_cases c : e.1 = k
    · rw [if_pos c, if_pos c]; rfl
    · rw [if_neg c, if_neg c]
      show (setF fs k w).length + 1 = _
      rw [len_setF fs k w]
      show _ = fs.length + 1 + _
      omega
theorem nd_setF {fs : FS} (h : (kF fs).Nodup) (k : Nat × Nat) (w : Option Nat) : (kF (setF fs k w)).Nodup := by
  cases e : getF fs k with
  | some v => obtain ⟨_, _, _, h3⟩ := set_get (w := w) e; rw [h3]; exact h
  | none =>
    rw [set_no e]
    have h1 := kIx_none (kIx_no e)
    show (kF (fs ++ [(k, w)])).Nodup
    unfold kF at *
    rw [List.map_append, List.nodup_append]
    refine ⟨h, by simp, fun a ha b hb => ?_⟩
    simp only [List.map_cons, List.map_nil, List.mem_singleton] at hb
    rintro rfl
    subst hb
    exact h1 ha
theorem kd_getF {fs : FS} {k : Nat × Nat} {v : Option Nat} (m : Bool) (h : getF fs k = some v) : ∃ j, kdIx (.dit m (kF fs)) (dS k) = some (some j) ∧ (vF fs)[j]? = some (eO v) := by
  obtain ⟨j, h1, h2⟩ := kIx_get h
  exact ⟨j, by show ((some (kS k)).map fun y => kIx y (kF fs)) = _; simp [h1], h2⟩
/-- d[k] = v, whole -/
theorem pdk_F {fs : FS} (ok : OkF fs) (E : List D) (i : Nat) (p : List Nat) (k : Nat × Nat) (w : Option Nat) : pdk E i p (vF fs) (eO w) (kdPut (.dit true (kF fs)) (dS k)) = .nx (setP E i p (.nd (.dit true (kF (setF fs k w))) (vF (setF fs k w)))) := by
  have e0 : kdPut (.dit true (kF fs)) (dS k) = (putIx (kS k) (kF fs)).map fun r => (.dit true r.1, r.2) := rfl
  have hl : (kF fs).length < 100000 := by have := ok.len; unfold kF; rw [List.length_map]; omega
  have e1 : putIx (kS k) (kF fs) = match kIx (kS k) (kF fs) with
    | some j => some (kF fs, some j)
    | none => some (kF fs ++ [kS k], none) := by
    unfold putIx
    rw [if_pos (by rw [decide_eq_true ok.nd, decide_eq_true hl]; rfl)]
    all_goals (cases kIx (kS k) (kF fs) <;> rfl)
  cases e : getF fs k with
  | some v =>
    obtain ⟨j, h1, h2, h3⟩ := set_get (w := w) e
    rw [e0, e1, h1]
    show S.nx (setP E i p (.nd (.dit true (kF fs)) ((vF fs).set j (eO w)))) = _
    rw [h2, h3]
  | none =>
    rw [e0, e1, kIx_no e, set_no e]
    show S.nx (setP E i p (.nd (.dit true (kF fs ++ [kS k])) (vF fs ++ [eO w]))) = _
    simp [kF, vF]
/-! ### firsts -/
abbrev HS := List (Option It2)
def gH (hs : HS) (k : Nat) : Option It2 := hs.getD k none
def undH (hs : HS) (y x : Nat) : Bool := match gH hs y, gH hs x with
  | some p, some q => ltI p q
  | _, _ => false
def pick (hs : HS) : Option Nat → Option Nat → Option Nat
  | none, b => b
  | some x, none => some x
  | some x, some y => if undH hs y x then some y else some x
def one (hs : HS) (p : Nat) : Option Nat := if (gH hs p).isSome then some p else none
def stp (hs : HS) (a : Option Nat) (p : Nat) : Option Nat := pick hs a (one hs p)
def bst (hs : HS) (lo hi : Nat) : Option Nat := (List.range (hi - lo)).foldl (fun a j => stp hs a (lo + j)) none
def mid (lo hi : Nat) : Nat := lo + (hi - lo + 1) / 2
theorem mid_in {lo hi : Nat} (h : 1 < hi - lo) : lo < mid lo hi ∧ mid lo hi < hi := by unfold mid; omega
/-- a place with something there, or none -/
def Plc (hs : HS) (lo hi : Nat) (a : Option Nat) : Prop := ∀ x, a = some x → lo ≤ x ∧ x < hi ∧ ∃ t, gH hs x = some t
theorem pick_none (hs : HS) (a : Option Nat) : pick hs a none = a := by cases a <;> rfl
theorem pick_assoc {hs : HS} {l1 h1 l2 h2 l3 h3 : Nat} {a b c : Option Nat} (ha : Plc hs l1 h1 a) (hb : Plc hs l2 h2 b) (hc : Plc hs l3 h3 c) : pick hs a (pick hs b c) = pick hs (pick hs a b) c := by
  cases a with
  | none => rfl
  | some x =>
    cases b with
    | none => rfl
    | some y =>
      cases c with
      | none => rw [pick_none, pick_none]
      | some z =>
        obtain ⟨_, _, p, ep⟩ := ha x rfl
        obtain ⟨_, _, q, eq⟩ := hb y rfl
        obtain ⟨_, _, r, er⟩ := hc z rfl
        have u1 : undH hs z y = ltI r q := by unfold undH; rw [er, eq]
        have u2 : undH hs y x = ltI q p := by unfold undH; rw [eq, ep]
        have u3 : undH hs z x = ltI r p := by unfold undH; rw [er, ep]
        show pick hs (some x) (if undH hs z y then some z else some y) = pick hs (if undH hs y x then some y else some x) (some z)
        rw [u1, u2]
        by_cases c1 : ltI r q = true
        · by_cases c2 : ltI q p = true
          · have c3 := lt_tr c1 c2
            simp [c1, c2, pick, u1, u3, c3]
          · simp [c1, c2, pick, u3]
        · by_cases c2 : ltI q p = true
          · simp [c1, c2, pick, u1, u2]
          · have c3 : ltI r p = false := by
              cases c4 : ltI r p with
              | false => rfl
              | true =>
                have h1 : leI p q = true := by simpa [leI] using c2
                exact absurd (lt_le_tr c4 h1) (by simpa using c1)
            simp [c1, c2, pick, u2, u3, c3]
theorem one_pl (hs : HS) (p : Nat) : Plc hs p (p + 1) (one hs p) := by
  intro x e
  unfold one at e
  cases g : gH hs p with
  | none => rw [g] at e; cases e
  | some t => rw [g] at e; cases e; exact ⟨Nat.le_refl _, by omega, t, g⟩
theorem Plc.wide {hs : HS} {lo hi lo' hi' : Nat} {a : Option Nat} (h : Plc hs lo hi a) (h1 : lo' ≤ lo) (h2 : hi ≤ hi') : Plc hs lo' hi' a := fun x e => by
  obtain ⟨h3, h4, h5⟩ := h x e; exact ⟨by omega, by omega, h5⟩
theorem pick_pl {hs : HS} {lo hi : Nat} {a b : Option Nat} (ha : Plc hs lo hi a) (hb : Plc hs lo hi b) : Plc hs lo hi (pick hs a b) := by
  intro x e
  cases a with
  | none => exact hb x e
  | some y =>
    cases b with
    | none => exact ha x e
    | some z =>
      have e' : (if undH hs z y then some z else some y) = some x := e
      split at e'
      · exact hb x e'
      · exact ha x e'
theorem bst_snoc (hs : HS) (lo hi : Nat) (h : lo ≤ hi) : bst hs lo (hi + 1) = stp hs (bst hs lo hi) hi := by
  unfold bst
  have e : hi + 1 - lo = (hi - lo) + 1 := by omega
  rw [e, List.range_succ, List.foldl_append]
  have e2 : lo + (hi - lo) = hi := by omega
  simp [e2]
theorem bst_self (hs : HS) (lo : Nat) : bst hs lo lo = none := by unfold bst; rw [Nat.sub_self]; rfl
theorem bst_pl (hs : HS) (lo : Nat) : ∀ n, Plc hs lo (lo + n) (bst hs lo (lo + n))
  | 0 => by rw [Nat.add_zero, bst_self]; intro x e; cases e
  | n + 1 => by
    rw [← Nat.add_assoc, bst_snoc hs lo _ (by omega)]
    exact pick_pl ((bst_pl hs lo n).wide (Nat.le_refl _) (by omega)) ((one_pl hs (lo + n)).wide (by omega) (by omega))
theorem bst_one (hs : HS) (lo : Nat) : bst hs lo (lo + 1) = one hs lo := by rw [bst_snoc hs lo lo (Nat.le_refl _), bst_self]; rfl
theorem bst_split (hs : HS) (lo m : Nat) (h : lo ≤ m) : ∀ n, bst hs lo (m + n) = pick hs (bst hs lo m) (bst hs m (m + n))
  | 0 => by rw [Nat.add_zero, bst_self, pick_none]
  | n + 1 => by
    rw [← Nat.add_assoc, bst_snoc hs lo _ (by omega), bst_snoc hs m _ (by omega), bst_split hs lo m h n]
    unfold stp
    have h1 := bst_pl hs lo (m - lo)
    rw [show lo + (m - lo) = m by omega] at h1
    exact (pick_assoc h1 (bst_pl hs m n) (one_pl hs (m + n))).symm
theorem bst_mid (hs : HS) {lo hi : Nat} (h : 1 < hi - lo) : bst hs lo hi = pick hs (bst hs lo (mid lo hi)) (bst hs (mid lo hi) hi) := by
  have := bst_split hs lo (mid lo hi) (by have := mid_in h; omega) (hi - mid lo hi)
  rwa [show mid lo hi + (hi - mid lo hi) = hi by have := mid_in h; omega] at this
theorem bst_pl' (hs : HS) {lo hi : Nat} (h : lo ≤ hi) : Plc hs lo hi (bst hs lo hi) := by
  have := bst_pl hs lo (hi - lo)
  rwa [show lo + (hi - lo) = hi by omega] at this
theorem bst_congr (hs hs' : HS) (lo hi : Nat) (h : ∀ x, lo ≤ x → x < hi → gH hs x = gH hs' x) : bst hs lo hi = bst hs' lo hi := by
  by_cases hl : lo ≤ hi
  · obtain ⟨n, rfl⟩ : ∃ n, hi = lo + n := ⟨hi - lo, by omega⟩
    clear hl
    induction n with
    | zero => rw [Nat.add_zero, bst_self, bst_self]
    | succ n ih =>
      rw [← Nat.add_assoc, bst_snoc hs lo _ (by omega), bst_snoc hs' lo _ (by omega), ih fun x h1 h2 => h x h1 (by omega)]
      have p1 := bst_pl hs' lo n
      unfold stp one
      rw [h (lo + n) (by omega) (by omega)]
      cases e : bst hs' lo (lo + n) with
      | none => rfl
      | some y =>
        obtain ⟨h1, h2, _⟩ := p1 y e
        cases e2 : (gH hs' (lo + n)).isSome with
        | false => rfl
        | true =>
          show (if undH hs (lo + n) y then _ else _) = (if undH hs' (lo + n) y then _ else _)
          unfold undH
          rw [h (lo + n) (by omega) (by omega), h y (by omega) (by omega)]
  · unfold bst; rw [show hi - lo = 0 by omega]; rfl
/-! ### stretches -/
inductive InT : Nat → Nat → Nat → Nat → Prop
  | here {lo hi : Nat} : InT lo hi lo hi
  | left {lo hi a b : Nat} (h : 1 < hi - lo) (t : InT lo (mid lo hi) a b) : InT lo hi a b
  | right {lo hi a b : Nat} (h : 1 < hi - lo) (t : InT (mid lo hi) hi a b) : InT lo hi a b
theorem InT.bd {lo hi a b : Nat} (t : InT lo hi a b) : lo < hi → lo ≤ a ∧ a < b ∧ b ≤ hi := by
  induction t with
  | here => intro h; omega
  | left h t ih => intro _; have := mid_in h; have := ih (by omega); omega
  | right h t ih => intro _; have := mid_in h; have := ih (by omega); omega
theorem InT.tr {l0 h0 lo hi a b : Nat} (t : InT l0 h0 lo hi) : InT lo hi a b → InT l0 h0 a b := by
  induction t with
  | here => exact fun u => u
  | left h t ih => exact fun u => .left h (ih u)
  | right h t ih => exact fun u => .right h (ih u)
def Good (hs : HS) (fs : FS) (lo hi : Nat) : Prop := ∀ a b, InT lo hi a b → 1 < b - a → getF fs (a, b) = some (bst hs a b)
theorem Good.get {hs : HS} {fs : FS} {lo hi : Nat} (g : Good hs fs lo hi) (h : 1 < hi - lo) : getF fs (lo, hi) = some (bst hs lo hi) := g lo hi .here h
theorem Good.lf {hs : HS} {fs : FS} {lo hi : Nat} (g : Good hs fs lo hi) (h : 1 < hi - lo) : Good hs fs lo (mid lo hi) := fun a b t => g a b (.left h t)
theorem Good.rg {hs : HS} {fs : FS} {lo hi : Nat} (g : Good hs fs lo hi) (h : 1 < hi - lo) : Good hs fs (mid lo hi) hi := fun a b t => g a b (.right h t)
theorem Good.mk' {hs : HS} {fs : FS} {lo hi : Nat} (h : 1 < hi - lo) (l : Good hs fs lo (mid lo hi)) (r : Good hs fs (mid lo hi) hi) : Good hs (setF fs (lo, hi) (pick hs (bst hs lo (mid lo hi)) (bst hs (mid lo hi) hi))) lo hi := by
  intro a b t hb
  rw [get_set]
  have hm := mid_in h
  cases t with
  | here => rw [if_pos rfl, bst_mid hs h]
  | left _ t =>
    have := t.bd (by omega)
    rw [if_neg (fun z => by cases z; omega)]; exact l a b t hb
  | right _ t =>
    have := t.bd (by omega)
    rw [if_neg (fun z => by cases z; omega)]; exact r a b t hb
theorem Good.of_same {hs hs' : HS} {fs fs' : FS} {lo hi : Nat} (g : Good hs fs lo hi) (hl : lo < hi) (h1 : ∀ x, lo ≤ x → x < hi → gH hs x = gH hs' x) (h2 : ∀ a b, InT lo hi a b → getF fs' (a, b) = getF fs (a, b)) : Good hs' fs' lo hi := by
  intro a b t hb
  have := t.bd hl
  rw [h2 a b t, g a b t hb, bst_congr hs hs' a b fun x h3 h4 => h1 x (by omega) (by omega)]
/-! ### those above a place -/
def abv (place : Nat) : Nat → Nat → Nat → List (Nat × Nat)
  | 0, _, _ => []
  | n + 1, lo, hi => if 1 < hi - lo then (lo, hi) :: (if place < mid lo hi then abv place n lo (mid lo hi) else abv place n (mid lo hi) hi) else []
theorem abv_len (p : Nat) : ∀ n lo hi, (abv p n lo hi).length ≤ n
  | 0, lo, hi => by unfold abv; simp
  | n + 1, lo, hi => by
    unfold abv
    split
    · have h1 := abv_len p n lo (mid lo hi)
      have h2 := abv_len p n (mid lo hi) hi
      split <;> simp <;> omega
    · simp
def mat (hs : HS) (k : Nat × Nat) (fs : FS) : FS := setF fs k (pick hs (bst hs k.1 (mid k.1 k.2)) (bst hs (mid k.1 k.2) k.2))
def upF (hs : HS) (L : List (Nat × Nat)) (fs : FS) : FS := L.foldr (mat hs) fs
theorem abv_in (place : Nat) : ∀ n lo hi (k : Nat × Nat), k ∈ abv place n lo hi → InT lo hi k.1 k.2 ∧ 1 < k.2 - k.1
  | 0, lo, hi, k, h => by cases h
  | n + 1, lo, hi, k, h => by
    unfold abv at h
    split at h
    · rename_i c
      rcases List.mem_cons.mp h with rfl | h
      · exact ⟨.here, c⟩
      · split at h
        · have := abv_in place n _ _ k h; exact ⟨.left c this.1, this.2⟩
        · have := abv_in place n _ _ k h; exact ⟨.right c this.1, this.2⟩
    · cases h
theorem upF_out (hs : HS) (fs : FS) (j : Nat × Nat) : ∀ L : List (Nat × Nat), j ∉ L → getF (upF hs L fs) j = getF fs j
  | [], _ => rfl
  | k :: L, h => by
    simp only [List.mem_cons, not_or] at h
    show getF (setF (upF hs L fs) k _) j = _
    rw [get_set, if_neg h.1, upF_out hs fs j L h.2]
theorem up_good {hs hs' : HS} {fs : FS} {place : Nat} (hx : ∀ x, x ≠ place → gH hs x = gH hs' x) : ∀ n lo hi, hi - lo ≤ n → lo ≤ place → place < hi → Good hs fs lo hi → Good hs' (upF hs' (abv place n lo hi) fs) lo hi
  | 0, lo, hi, h, h1, h2, g => by omega
  | n + 1, lo, hi, h, h1, h2, g => by
    unfold abv
    split
    · rename_i c
      have hm := mid_in c
      show Good hs' (setF (upF hs' _ fs) (lo, hi) _) lo hi
      refine Good.mk' c ?_ ?_
      · split
        · exact up_good hx n lo (mid lo hi) (by omega) h1 (by omega) (g.lf c)
        · refine (g.lf c).of_same (by omega) (fun x h3 h4 => hx x (by omega)) fun a b t => upF_out _ _ _ _ fun z => ?_
          have t1 := t.bd (by omega)
          have t2 := (abv_in place _ _ _ _ z).1.bd (by omega)
          simp only at t2; omega
      · split
        · refine (g.rg c).of_same (by omega) (fun x h3 h4 => hx x (by omega)) fun a b t => upF_out _ _ _ _ fun z => ?_
          have t1 := t.bd (by omega)
          have t2 := (abv_in place _ _ _ _ z).1.bd (by omega)
          simp only at t2; omega
        · exact up_good hx n (mid lo hi) hi (by omega) (by omega) h2 (g.rg c)
    · rename_i c
      intro a b t hb
      have := t.bd (by omega)
      omega
theorem OkF.set {fs : FS} (ok : OkF fs) {k : Nat × Nat} {w : Option Nat} (h : (getF fs k).isSome = true ∨ fs.length < 1000) : OkF (setF fs k w) := by
  refine ⟨nd_setF ok.nd k w, ?_⟩
  rw [len_setF]
  have := ok.len
  rcases h with h | h
  · rw [if_pos h]; omega
  · split <;> omega
instance : FzF eH := ⟨fun h => by cases h <;> rfl⟩
instance : FzF eO := ⟨fun h => by cases h <;> rfl⟩
def hdOk : Option It2 → Bool
  | none => true
  | some t => tagOk t
instance : LayF eH 1 hdOk := ⟨fun x m hp hm => by
  cases x with
  | none => cases m <;> rfl
  | some t => exact LayF.lay (f := itm) t m hp hm⟩
instance : EqF eH eH := ⟨fun x y => by
  cases x with
  | none => cases y <;> rfl
  | some a => cases y with
    | none => rfl
    | some b =>
      have := EqF.eqv (f := itm) (g := itm) a b
      rw [show decide (some a = some b) = decide (a = b) from by simp]
      exact this⟩
end DL

end
section
set_option maxRecDepth 100000
/-! a room that gives out the least it has -/
namespace DL
open PySem L2 DL
theorem minI_le (l : List It2) : ∀ a, ∀ x ∈ a :: l, leI (minI a l) x = true := by
  induction l with
  | nil => intro a x hx; simp at hx; subst hx; simp [minI, leI, lt_irr]
  | cons y l ih =>
    intro a x hx
    have h := ih (if ltI y a then y else a)
    show leI (minI (if ltI y a then y else a) l) x = true
    rcases List.mem_cons.mp hx with rfl | hx
    · have h1 := h _ List.mem_cons_self
      cases e : ltI y x with
      | true => rw [e] at h1; exact le_tr h1 (le_of_lt e)
      | false => rw [e] at h1; exact h1
    · rcases List.mem_cons.mp hx with rfl | hx
      · have h1 := h _ List.mem_cons_self
        cases e : ltI x a with
        | true => rw [e] at h1; exact h1
        | false =>
          rw [e] at h1
          exact le_tr h1 (by simp [leI, e])
      · exact h _ (List.mem_cons_of_mem _ hx)
theorem f_excR {n N : Nat} {A : List Nat} {b : DenS} {ds E r : List D} {c : Nat} {fs : List (Str × V)} (h : b (ds ++ List.replicate (N - n) .una) = .exc c fs E) (hl : ds.length = n := by rfl) (k : retArgs A 0 ds E = some r := by simp) : opq (fnP n N A b) ds = .exc c fs r := by
  rw [opq_eq]; exact fp_exc hl h k
/-- what went out, what is kept -/
structure S23 (L0 R L : List It2) : Prop where
  pm : (R ++ L).Perm L0
  up : Up R
  sp : ∀ r ∈ R, ∀ x ∈ L, leI r x = true
theorem S23.step {L0 R : List It2} {a : It2} {l : List It2} (s : S23 L0 R (a :: l)) : S23 L0 (R ++ [minI a l]) ((a :: l).erase (minI a l)) := by
  have hm := minI_mem l a
  have hle := minI_le l a
  generalize minI a l = m at *
  generalize a :: l = L at *
  refine ⟨?_, ?_, ?_⟩
  · rw [List.append_assoc]
    exact (List.Perm.append_left R (List.perm_cons_erase hm).symm).trans s.pm
  · refine List.pairwise_append.mpr ⟨s.up, by simp, fun r hr x hx => ?_⟩
    simp at hx; subst hx
    exact s.sp r hr _ hm
  · intro r hr x hx
    have hx := List.mem_of_mem_erase hx
    rcases List.mem_append.mp hr with hr | hr
    · exact s.sp r hr x hx
    · simp at hr; rw [hr]; exact hle x hx
theorem S23.fin {L0 R : List It2} (s : S23 L0 R []) : R = srt L0 := by
  have := s.pm
  rw [List.append_nil] at this
  exact (srt_of s.up this).symm
theorem S23.fit {L0 R L : List It2} (s : S23 L0 R L) {r : It2} (h : R.getLast? = some r) : ∀ x ∈ L, ltI x r = false := fun x hx => by
  have := s.sp r (List.mem_of_getLast? h) x hx
  simpa [leI] using this
def eOut (t : It2) : D := .nd .tup [.sc (.str "out"), itm t]
def endD : D := .nd .tup [.sc (.str "end")]
instance : FzF eOut := ⟨fun t => rfl⟩
theorem lay_out (l : List It2) (h : okR l = true) : lay 64 (.nd (.lst true) (em eOut l ++ [endD])) = true := by
  have h1 : ∀ t ∈ l, lay 63 (eOut t) = true := fun t ht => by
    have : lay 62 (itm t) = true := LayF.lay (f := itm) t 62 (List.all_eq_true.mp h t ht) (by omega)
    have h0 : lay 62 (.sc (.str "out")) = true := by decide +kernel
    show (_ && _) = true
    simp only [List.all_cons, List.all_nil, this, h0]
    rfl
  show (_ && _) = true
  rw [List.all_append]
  have h2 : (em eOut l).all (lay 63) = true := by
    rw [List.all_eq_true]
    intro d hd
    obtain ⟨t, ht, rfl⟩ := List.mem_map.mp hd
    exact h1 t ht
  have h0 : lay 63 endD = true := by decide +kernel
  rw [h2]
  simp only [List.all_cons, List.all_nil, h0]
  rfl
end DL

end
section
set_option maxRecDepth 100000
/-! phases, told as the law tells them -/
namespace DL
open PySem L2
theorem srcGo_iff (l : List Int) (t n : Int) : ∀ (s : List Int) (last : Int), srcGo l t n last s = true ↔ (∀ d ∈ s, last + 1 ≤ d ∧ d ≤ (l.length : Int) - 1 ∧ d ≠ t ∧ n ≤ gI0 l d) ∧ s.Pairwise (· < ·)
  | [], last => by simp [srcGo]
  | d :: s, last => by
    have ih := srcGo_iff l t n s d
    simp only [srcGo, Bool.and_eq_true, decide_eq_true_eq, Bool.not_eq_true', decide_eq_false_iff_not, ih, List.mem_cons, forall_eq_or_imp, List.pairwise_cons]
    constructor
    · rintro ⟨⟨⟨⟨a, b⟩, c⟩, e⟩, f, g⟩
      exact ⟨⟨⟨a, b, c, e⟩, fun x hx => by have := f x hx; omega⟩, fun x hx => by have := (f x hx).1; omega, g⟩
    · rintro ⟨⟨⟨a, b, c, e⟩, f⟩, g, h⟩
      exact ⟨⟨⟨⟨a, b⟩, c⟩, e⟩, fun x hx => by have := f x hx; have := g x hx; omega, h⟩
theorem upI_iff (s : List Int) : upI s = s ↔ s.Pairwise (· < ·) := ⟨fun h => h ▸ pw_upI s, upI_id⟩
/-- a phase of the layout, as the law looks at it -/
theorem isPh_iff (l : List Int) (t n : Int) (s : List Int) (h0 : 0 ≤ t) (hs : ∀ d ∈ s, 0 ≤ d ∧ d < l.length) : isPh l t s n = true ↔ t < l.length ∧ gI0 l t = 0 ∧ 2 ≤ s.length ∧ 0 < n ∧ t ∉ s ∧ upI s = s ∧ s.filter (fun d => decide (gI0 l d < n)) = [] := by
  unfold isPh
  simp only [Bool.and_eq_true, decide_eq_true_eq, srcGo_iff, upI_iff, List.filter_eq_nil_iff]
  constructor
  · rintro ⟨⟨⟨⟨⟨a, b⟩, c⟩, e⟩, f⟩, g, h⟩
    exact ⟨by omega, c, by omega, e, fun z => (g t z).2.2.1 rfl, h, fun d hd => by have := (g d hd).2.2.2; omega⟩
  · rintro ⟨a, c, f, e, g, h, k⟩
    refine ⟨⟨⟨⟨⟨h0, by omega⟩, c⟩, e⟩, by omega⟩, fun d hd => ?_, h⟩
    obtain ⟨d1, d2⟩ := hs d hd
    have := k d hd
    exact ⟨by omega, by omega, fun z => g (z ▸ hd), by omega⟩
theorem gI0_setN (l : List Int) (i k : Nat) (v : Int) (h : k < l.length) : gI0 (l.set i v) (k : Int) = if i = k then v else gI0 l (k : Int) := by
  unfold gI0
  rw [List.getD_eq_getElem?_getD, List.getD_eq_getElem?_getD, Int.toNat_natCast, List.getElem?_set]
  by_cases e : i = k
  · subst e; simp [h]
  · simp [e]
theorem gI0_ext {a b : List Int} (hl : a.length = b.length) (h : ∀ k : Nat, k < a.length → gI0 a (k : Int) = gI0 b (k : Int)) : a = b := List.ext_getElem hl fun k h1 h2 => by
  have := h k h1
  simpa [gI0, List.getD_eq_getElem?_getD, h1, h2] using this
theorem foldM (n : Int) : ∀ (s : List Int) (l : List Int), (∀ d ∈ s, 0 ≤ d ∧ d < l.length) → s.Nodup → ∀ k : Nat, k < l.length → gI0 (s.foldl (minus n) l) (k : Int) = gI0 l (k : Int) - n * (if (k : Int) ∈ s then 1 else 0)
  | [], l, _, _, k, hk => by simp
  | d :: s, l, hs, nd, k, hk => by
    obtain ⟨h0, h1⟩ := hs d List.mem_cons_self
    rw [List.nodup_cons] at nd
    rw [List.foldl_cons, foldM n s (minus n l d) (fun x hx => by rw [minus_len]; exact hs x (List.mem_cons_of_mem _ hx)) nd.2 k (by rw [minus_len]; exact hk)]
    have e : gI0 (minus n l d) (k : Int) = if d.toNat = k then gI0 l d - n else gI0 l (k : Int) := gI0_setN l d.toNat k _ hk
    rw [e]
    by_cases c : d.toNat = k
    · have ek : (k : Int) = d := by omega
      rw [if_pos c, ek]
      simp [nd.1]
    · have ek : ¬ (k : Int) = d := by omega
      rw [if_neg c]
      simp [ek]
/-- led, and led as the law reckons it -/
theorem led_law {l : List Int} {t n : Int} {s : List Int} (h : isPh l t s n = true) : ledL l t s n = lawLed l t s n := by
  have p := ph_of h
  have g := (srcGo_iff l t n s (-1)).mp p.go
  have hs : ∀ d ∈ s, 0 ≤ d ∧ d < (l.length : Int) := fun d hd => by have := g.1 d hd; omega
  have nd : s.Nodup := g.2.imp fun x => by omega
  have nt : t ∉ s := fun z => (g.1 t z).2.2.1 rfl
  have t0 := p.t0
  have tl := p.tl
  refine gI0_ext (by simp [ledL_len, lawLed]) fun k hk => ?_
  rw [ledL_len] at hk
  have e1 : gI0 (ledL l t s n) (k : Int) = if t.toNat = k then n else gI0 (s.foldl (minus n) l) (k : Int) := gI0_setN _ _ k _ (by rw [fold_minus_len]; exact hk)
  have e2 : gI0 (lawLed l t s n) (k : Int) = gI0 l (k : Int) + n * (if (k : Int) = t then 1 else 0) - n * (if (k : Int) ∈ s then 1 else 0) := by
    unfold lawLed
    generalize hf : (fun (d : Nat) => gI0 l d + n * (if (d : Int) = t then 1 else 0) - n * (if (d : Int) ∈ s then 1 else 0)) = f
    have : gI0 ((List.range l.length).map f) (k : Int) = f k := by simp [gI0, List.getD_eq_getElem?_getD, hk]
    rw [this, ← hf]
  rw [e1, e2, foldM n s l hs nd k hk]
  by_cases c : t.toNat = k
  · have ek : (k : Int) = t := by omega
    rw [if_pos c, ek, p.tz]
    simp [nt]
  · have ek : ¬ (k : Int) = t := by omega
    rw [if_neg c]
    simp [ek]
end DL

end
section
set_option maxRecDepth 100000
set_option exponentiation.threshold 2000
namespace K59
open PySem L2 DL
/-! ### _law_box -/
theorem box_st (x0 x1 : D) (h num : Int) (j : Nat) (b : D) (hj : j < 16) (h0 : 0 ≤ num) (hn : num < 2 ^ (32 * j)) :
    ∃ num', lb_law_box_0 [x0, x1, .sc (.int h), .sc (.int num), .sc (.int j), b] = .nx [x0, x1, .sc (.int h), .sc (.int num'), .una, .una] ∧ 0 ≤ num' ∧ num' < 2 ^ (32 * (j + 1)) := by
  have hp : (2 : Int) ^ (32 * j) ≤ 2 ^ 512 := by
    have : (2 : Nat) ^ (32 * j) ≤ 2 ^ 512 := Nat.pow_le_pow_right (by decide) (by omega)
    exact_mod_cast this
  have e : (2 : Int) ^ (32 * (j + 1)) = 2 ^ (32 * j) * 4294967296 := by rw [Nat.mul_add, Int.pow_add]; rfl
  have eb : (2 : Int) ^ 512 = 13407807929942597099574024998205846127479365820592393377723561443721764030073546976801874298166903427690031858186486050853753882811946569946433649006084096 := by decide +kernel
  rw [eb] at hp
  rw [e]
  generalize (2 : Int) ^ (32 * j) = B at *
  simp (disch := omega) [lb_law_box_0, mulOk_s, divOk_s]
  generalize ((h % 2147483647 * 48271 + 7919 * j + 1) % 2147483647) = p1
  generalize (p1 * p1) % 2147483629 = p2
  generalize p2 * (p2 + 13) = p3
  omega
theorem box_loop (x0 x1 : D) (h : Int) : ∃ num, loopD (dgName 4) lb_law_box_0 (rngD 0 16) [x0, x1, .sc (.int h), .sc (.int 0), .una, .una] = .nx [x0, x1, .sc (.int h), .sc (.int num), .una, .una] := by
  obtain ⟨E', e, num, rfl, _⟩ := loop_rng (i := 4) (b := lb_law_box_0) (lo := 0) (n := 16) (E := [x0, x1, .sc (.int h), .sc (.int 0), .una, .una]) (Jv := fun j E => ∃ num, E = [x0, x1, .sc (.int h), .sc (.int num), .una, .una] ∧ 0 ≤ num ∧ num < 2 ^ (32 * j))
    ⟨0, rfl, by decide, by decide⟩ (fun j E hj ⟨num, e, h0, h1⟩ => by
      subst e
      obtain ⟨num', e, h2, h3⟩ := box_st x0 x1 h num j .una hj h0 h1
      exact ⟨by simp, _, .inl (by simpa using e), num', rfl, h2, h3⟩)
  exact ⟨num, e⟩
theorem box_ok (ns : List Int) (k : Nat) (hk : k < 100) : ∃ n, F_law_box [.kl ns, .sc (.int k)] = .ok (bx n, [.kl ns, .sc (.int k)]) := by
  by_cases hl : k < ns.length
  · simp (disch := omega) [F_law_box, opq_eq, fnP, fnD, dn_law_box, mulOk_s, divOk_s, hl]
    by_cases h2 : ns[k] % 2 = 0
    · simp (disch := omega) [h2, divOk_s]
    · obtain ⟨num, e⟩ := box_loop (.kl ns) (.sc (.int k)) ns[k]
      simp (disch := omega) [h2, e, rg1Ok_s]
  · simp (disch := omega) [F_law_box, opq_eq, fnP, fnD, dn_law_box, mulOk_s, divOk_s, hl]
    by_cases h2 : (7919 * (k : Int) + 13) % 2 = 0
    · simp (disch := omega) [h2, divOk_s]
    · obtain ⟨num, e⟩ := box_loop (.kl ns) (.sc (.int k)) (7919 * (k : Int) + 13)
      simp (disch := omega) [h2, e, rg1Ok_s]

/-! ### _law_take -/
theorem take_ok (n m : Int) (hm : 0 < m) (hl : m < 1000000000000000000000000000000000000000000000000000000) : F_law_take [bx n, .sc (.int m)] = .ok (.sc (.int (n % m)), [bx (n / m), .sc (.int m)]) := by
  simp (disch := omega) [F_law_take, opq_eq, fnP, fnD, dn_law_take, hm, divOk_s]
/-- a digit, as a number -/
theorem take_n (n m : Int) (hm : 0 < m) (hl : m < 1000000) : ∃ (q : Nat) (n' : Int), (q : Int) < m ∧ F_law_take [bx n, .sc (.int m)] = .ok (.sc (.int q), [bx n', .sc (.int m)]) := by
  have t := take_ok n m (by omega) (by omega)
  have h0 := Int.emod_nonneg n (show m ≠ 0 by omega)
  have h1 := Int.emod_lt_of_pos n (show (0 : Int) < m by omega)
  refine ⟨(n % m).toNat, n / m, by omega, ?_⟩
  have e : (((n % m).toNat : Nat) : Int) = n % m := by omega
  rw [e]; exact t

/-! ### is_whole -/
theorem isw_ok (i : Int) : F_is_whole [.sc (.int i)] = .ok (.sc (.bl true), [.sc (.int i)]) := by
  simp [F_is_whole, opq_eq, fnP, fnD, dn_is_whole, isiD]

/-! ### is_between -/
theorem betw_ok (i a b : Int) : F_is_between [.sc (.int i), .sc (.int a), .sc (.int b)] = .ok (.sc (.bl (decide (a ≤ i) && decide (i ≤ b))), [.sc (.int i), .sc (.int a), .sc (.int b)]) := by
  by_cases h1 : a ≤ i <;> simp [F_is_between, opq_eq, fnP, fnD, dn_is_between, isw_ok, h1]

/-! ### are_sources -/
theorem src_loop (l : List Int) (t n : Int) (S : D) : ∀ (s : List Int) (last : Int), -1 ≤ last → ∃ v w, loopD (dgName 5) lb_are_sources_0 (em eI s) [.nd .tup (em eI l), .sc (.int t), S, .sc (.int n), .sc (.int last), .una] = if srcGo l t n last s then .nx [.nd .tup (em eI l), .sc (.int t), S, .sc (.int n), v, .una] else .rt (.sc (.bl false)) [.nd .tup (em eI l), .sc (.int t), S, .sc (.int n), v, w]
  | [], last, h => ⟨_, .una, rfl⟩
  | d :: s, last, h => by
    rw [em_cons, loop_cons (by simp; rfl)]
    have b := betw_ok d (last + 1) ((l.length : Int) - 1)
    by_cases c1 : last + 1 ≤ d
    · by_cases c2 : d ≤ (l.length : Int) - 1
      · have e1 := gI0_at l d (by omega) (by omega)
        have c5 : d < (l.length : Int) := by omega
        simp only [c1, c2, decide_true, Bool.and_self] at b
        by_cases c3 : d = t
        · subst c3
          refine ⟨.sc (.int last), .sc (.int d), ?_⟩
          simp (disch := omega) [-getElem?_pos, lb_are_sources_0, b, srcGo]
        · by_cases c4 : gI0 l d < n
          · refine ⟨.sc (.int last), .sc (.int d), ?_⟩
            simp (disch := omega) [-getElem?_pos, lb_are_sources_0, b, srcGo, c3, c4, show ¬ n ≤ gI0 l d by omega, c5, e1]
          · obtain ⟨v, w, ih⟩ := src_loop l t n S s d (by omega)
            have c4' : n ≤ gI0 l d := by omega
            have hb : lb_are_sources_0 [.nd .tup (em eI l), .sc (.int t), S, .sc (.int n), .sc (.int last), .sc (.int d)] = .nx [.nd .tup (em eI l), .sc (.int t), S, .sc (.int n), .sc (.int d), .una] := by
              simp (disch := omega) [-getElem?_pos, lb_are_sources_0, b, c3, c4, c5, e1]
            refine ⟨v, w, ?_⟩
            rw [hb, lk_nx, ih]
            simp [srcGo, c1, c2, c3, c4']
      · have c2' : decide (d ≤ (l.length : Int) - 1) = false := by simp; omega
        rw [c2', Bool.and_false] at b
        refine ⟨.sc (.int last), .sc (.int d), ?_⟩
        simp (disch := omega) [-getElem?_pos, lb_are_sources_0, b, srcGo, c2]
    · have c1' : decide (last + 1 ≤ d) = false := by simp; omega
      rw [c1', Bool.false_and] at b
      refine ⟨.sc (.int last), .sc (.int d), ?_⟩
      simp (disch := omega) [-getElem?_pos, lb_are_sources_0, b, srcGo, c1]
theorem src_ok (l : List Int) (t n : Int) (s : List Int) : F_are_sources [.nd .tup (em eI l), .sc (.int t), .nd .tup (em eI s), .sc (.int n)] = .ok (.sc (.bl (decide (2 ≤ s.length) && srcGo l t n (-1) s)), [.nd .tup (em eI l), .sc (.int t), .nd .tup (em eI s), .sc (.int n)]) := by
  obtain ⟨v, w, e⟩ := src_loop l t n (.nd .tup (em eI s)) s (-1) (by omega)
  by_cases h : (s.length : Int) < 2
  · have h' : ¬ 2 ≤ s.length := by omega
    refine' f_of (b := dn_are_sources) ?_ rfl
    simp only [List.replicate_succ, List.replicate_zero, List.cons_append, List.nil_append, Nat.reduceSub, Nat.reduceAdd]
    unfold dn_are_sources
    refine' rtp_out ?h0 ?hd ?_
    (case h0 => ((simp (disch := omega) [-getElem?_pos, lenOk_s, divOk_s, mulOk_s, rgOk_s, rg1Ok_s, repOk_s, h, h']) <;> first | rfl | exact ⟨rfl, rfl⟩))
    (case hd => first | rfl | simp [h, h'])
    simp
  · have h' : 2 ≤ s.length := by omega
    refine' f_of (b := dn_are_sources) ?_ rfl
    simp only [List.replicate_succ, List.replicate_zero, List.cons_append, List.nil_append, Nat.reduceSub, Nat.reduceAdd]
    unfold dn_are_sources
    (first | refine' rtp_go ?h0 ?_ | refine' seq_go ?h0 ?_)
    (case h0 => ((simp (disch := omega) [-getElem?_pos, lenOk_s, divOk_s, mulOk_s, rgOk_s, rg1Ok_s, repOk_s, h]) <;> first | rfl | exact ⟨rfl, rfl⟩))
    (first | refine' rtp_go ?h0 ?_ | refine' seq_go ?h0 ?_)
    (case h0 => ((simp (disch := omega) [-getElem?_pos, lenOk_s, divOk_s, mulOk_s, rgOk_s, rg1Ok_s, repOk_s]) <;> first | rfl | exact ⟨rfl, rfl⟩))
    cases g : srcGo l t n (-1) s with
    | true =>
      rw [g] at e
      simp only [if_true] at e
      (first | refine' rtp_go ?h0 ?_ | refine' seq_go ?h0 ?_)
      (case h0 => ((simp (disch := omega) [-getElem?_pos, lenOk_s, divOk_s, mulOk_s, rgOk_s, rg1Ok_s, repOk_s, e]) <;> first | rfl | exact ⟨rfl, rfl⟩))
      refine' rtp_ret ?h0 ?hd ?_
      (case h0 => ((simp (disch := omega) [-getElem?_pos, lenOk_s, divOk_s, mulOk_s, rgOk_s, rg1Ok_s, repOk_s, h']) <;> first | rfl | exact ⟨rfl, rfl⟩))
      (case hd => first | rfl | simp [h'])
      simp
    | false =>
      rw [g] at e
      simp only [if_false, Bool.false_eq_true] at e
      refine' rtp_out ?h0 ?hd ?_
      (case h0 => ((simp (disch := omega) [-getElem?_pos, lenOk_s, divOk_s, mulOk_s, rgOk_s, rg1Ok_s, repOk_s, e, h']) <;> first | rfl | exact ⟨rfl, rfl⟩))
      (case hd => first | rfl | simp [e, h'])
      simp

/-! ### is_phase -/
theorem isph_ok (l : List Int) (t n : Int) (s : List Int) : F_is_phase [.nd .tup (em eI l), phD t s n] = .ok (.sc (.bl (isPh l t s n)), [.nd .tup (em eI l), phD t s n]) := by
  have b := betw_ok t 0 ((l.length : Int) - 1)
  have w := isw_ok n
  have sr := src_ok l t n s
  refine' f_of (b := dn_is_phase) ?_ rfl
  simp only [List.replicate_succ, List.replicate_zero, List.cons_append, List.nil_append, Nat.reduceSub, Nat.reduceAdd]
  unfold dn_is_phase
  (first | refine' rtp_go ?h0 ?_ | refine' seq_go ?h0 ?_)
  (case h0 => ((simp (disch := omega) [-getElem?_pos, lenOk_s, divOk_s, mulOk_s, rgOk_s, rg1Ok_s, repOk_s]) <;> first | rfl | exact ⟨rfl, rfl⟩))
  (first | refine' rtp_go ?h0 ?_ | refine' seq_go ?h0 ?_)
  (case h0 => ((simp (disch := omega) [-getElem?_pos, lenOk_s, divOk_s, mulOk_s, rgOk_s, rg1Ok_s, repOk_s]) <;> first | rfl | exact ⟨rfl, rfl⟩))
  by_cases c1 : 0 ≤ t ∧ t ≤ (l.length : Int) - 1
  · have e1 := gI0_at l t (by omega) (by omega)
    have c5 : t < (l.length : Int) := by omega
    simp only [c1.1, c1.2, decide_true, Bool.and_self] at b
    by_cases c2 : gI0 l t = 0
    · rw [c2] at e1
      (first | refine' rtp_go ?h0 ?_ | refine' seq_go ?h0 ?_)
      (case h0 => ((simp (disch := omega) [-getElem?_pos, lenOk_s, divOk_s, mulOk_s, rgOk_s, rg1Ok_s, repOk_s, b, c5, c1.1, e1]) <;> first | rfl | exact ⟨rfl, rfl⟩))
      by_cases c3 : 0 < n
      · refine' rtp_ret ?h0 ?hd ?_
        (case h0 => ((simp (disch := omega) [-getElem?_pos, lenOk_s, divOk_s, mulOk_s, rgOk_s, rg1Ok_s, repOk_s, w, c3, sr, isPh, c1, c2]) <;> first | rfl | exact ⟨rfl, rfl⟩))
        (case hd => first | rfl | simp [w, c3, sr, isPh, c1, c2])
        simp
      · refine' rtp_ret ?h0 ?hd ?_
        (case h0 => ((simp (disch := omega) [-getElem?_pos, lenOk_s, divOk_s, mulOk_s, rgOk_s, rg1Ok_s, repOk_s, w, c3, isPh, c1, c2]) <;> first | rfl | exact ⟨rfl, rfl⟩))
        (case hd => first | rfl | simp [w, c3, isPh, c1, c2])
        simp
    · refine' rtp_out ?h0 ?hd ?_
      (case h0 => ((simp (disch := omega) [-getElem?_pos, lenOk_s, divOk_s, mulOk_s, rgOk_s, rg1Ok_s, repOk_s, b, c5, c1.1, e1, c2, isPh]) <;> first | rfl | exact ⟨rfl, rfl⟩))
      (case hd => first | rfl | simp [b, c5, c1.1, e1, c2, isPh])
      simp
  · have c1' : (decide (0 ≤ t) && decide (t ≤ (l.length : Int) - 1)) = false := by
      by_cases z : 0 ≤ t
      · have : ¬ t ≤ (l.length : Int) - 1 := fun q => c1 ⟨z, q⟩
        simp [this]
      · simp [z]
    rw [c1'] at b
    refine' rtp_out ?h0 ?hd ?_
    (case h0 => ((simp (disch := omega) [-getElem?_pos, lenOk_s, divOk_s, mulOk_s, rgOk_s, rg1Ok_s, repOk_s, b, isPh, c1']) <;> first | rfl | exact ⟨rfl, rfl⟩))
    (case hd => first | rfl | simp [b, isPh, c1'])
    simp

/-! ### led -/
theorem led_loop (l0 : D) (t n : Int) (P S : D) : ∀ (s : List Int) (l : List Int), (∀ d ∈ s, 0 ≤ d ∧ d < l.length) → loopD (dgName 6) lb_led_0 (em eI s) [l0, P, .sc (.int t), S, .sc (.int n), .nd (.lst true) (em eI l), .una] = .nx [l0, P, .sc (.int t), S, .sc (.int n), .nd (.lst true) (em eI (s.foldl (minus n) l)), .una]
  | [], l, h => rfl
  | d :: s, l, h => by
    obtain ⟨h0, h1⟩ := h d List.mem_cons_self
    have e1 := gI0_at l d h0 h1
    have ih := led_loop l0 t n P S s (minus n l d) fun x hx => by rw [minus_len]; exact h x (List.mem_cons_of_mem _ hx)
    have hb : lb_led_0 [l0, P, .sc (.int t), S, .sc (.int n), .nd (.lst true) (em eI l), .sc (.int d)] = .nx [l0, P, .sc (.int t), S, .sc (.int n), .nd (.lst true) (em eI (minus n l d)), .una] := by
      simp (disch := omega) [-getElem?_pos, lb_led_0, e1, minus]
    rw [em_cons, loop_cons (by simp; rfl), hb, lk_nx, ih, List.foldl_cons]
theorem led_ok (l : List Int) (t n : Int) (s : List Int) (h : isPh l t s n = true) : F_led [.nd .tup (em eI l), phD t s n] = .ok (.nd .tup (em eI (ledL l t s n)), [.nd .tup (em eI l), phD t s n]) := by
  have p := ph_of h
  have hp := isph_ok l t n s
  rw [h] at hp
  have hl := p.tl
  have hl' : t < ((s.foldl (minus n) l).length : Int) := by rw [fold_minus_len]; exact hl
  have h0 := p.t0
  have eL := led_loop (.nd .tup (em eI l)) t n (phD t s n) (.nd .tup (em eI s)) s l fun d hd => by
    have := srcGo_mem p.go (by omega) d hd
    exact ⟨this.1, this.2.1⟩
  refine' f_of (b := dn_led) ?_ rfl
  simp only [List.replicate_succ, List.replicate_zero, List.cons_append, List.nil_append, Nat.reduceSub, Nat.reduceAdd]
  unfold dn_led
  (first | refine' rtp_go ?h0 ?_ | refine' seq_go ?h0 ?_)
  (case h0 => ((simp (disch := omega) [-getElem?_pos, lenOk_s, divOk_s, mulOk_s, rgOk_s, rg1Ok_s, repOk_s, hp]) <;> first | rfl | exact ⟨rfl, rfl⟩))
  (first | refine' rtp_go ?h0 ?_ | refine' seq_go ?h0 ?_)
  (case h0 => ((simp (disch := omega) [-getElem?_pos, lenOk_s, divOk_s, mulOk_s, rgOk_s, rg1Ok_s, repOk_s]) <;> first | rfl | exact ⟨rfl, rfl⟩))
  (first | refine' rtp_go ?h0 ?_ | refine' seq_go ?h0 ?_)
  (case h0 => ((simp (disch := omega) [-getElem?_pos, lenOk_s, divOk_s, mulOk_s, rgOk_s, rg1Ok_s, repOk_s]) <;> first | rfl | exact ⟨rfl, rfl⟩))
  (first | refine' rtp_go ?h0 ?_ | refine' seq_go ?h0 ?_)
  (case h0 => ((simp (disch := omega) [-getElem?_pos, lenOk_s, divOk_s, mulOk_s, rgOk_s, rg1Ok_s, repOk_s, eL]) <;> first | rfl | exact ⟨rfl, rfl⟩))
  (first | refine' rtp_go ?h0 ?_ | refine' seq_go ?h0 ?_)
  (case h0 => ((simp (disch := omega) [-getElem?_pos, lenOk_s, divOk_s, mulOk_s, rgOk_s, rg1Ok_s, repOk_s]) <;> first | rfl | exact ⟨rfl, rfl⟩))
  refine' rtp_ret ?h0 ?hd ?_
  (case h0 => ((simp (disch := omega) [-getElem?_pos, lenOk_s, divOk_s, mulOk_s, rgOk_s, rg1Ok_s, repOk_s, ledL]) <;> first | rfl | exact ⟨rfl, rfl⟩))
  (case hd => first | rfl | simp [ledL])
  simp

/-! ### _law_classes -/
theorem classes_NoPhase (a : Addr) : F_law_classes_xNoPhase a [.sc (.ref a)] = .ok (.nd (.lst true) (em eB (kls 5)), [.sc (.ref a)]) := by
  have e : em eB (kls 5) = (kls 5).map eB := rfl
  have k : kls 5 = kls 5 := rfl
  unfold kls at k
  refine' f_of (b := dn_law_classes_xNoPhase a) ?_ rfl
  simp only [List.replicate_succ, List.replicate_zero, List.cons_append, List.nil_append, Nat.reduceSub, Nat.reduceAdd]
  unfold dn_law_classes_xNoPhase
  (first | refine' rtp_go ?h0 ?_ | refine' seq_go ?h0 ?_)
  (case h0 => ((simp (disch := omega) [-getElem?_pos, lenOk_s, divOk_s, mulOk_s, rgOk_s, rg1Ok_s, repOk_s]) <;> first | rfl | exact ⟨rfl, rfl⟩))
  (first | refine' rtp_go ?h0 ?_ | refine' seq_go ?h0 ?_)
  (case h0 => ((simp (disch := omega) [-getElem?_pos, lenOk_s, divOk_s, mulOk_s, rgOk_s, rg1Ok_s, repOk_s]) <;> first | rfl | exact ⟨rfl, rfl⟩))
  (first | refine' rtp_go ?h0 ?_ | refine' seq_go ?h0 ?_)
  (case h0 => ((simp (disch := omega) [-getElem?_pos, lenOk_s, divOk_s, mulOk_s, rgOk_s, rg1Ok_s, repOk_s]) <;> first | rfl | exact ⟨rfl, rfl⟩))
  refine' rtp_ret ?h0 ?hd ?_
  (case h0 => ((simp (disch := omega) [-getElem?_pos, lenOk_s, divOk_s, mulOk_s, rgOk_s, rg1Ok_s, repOk_s, e, kls, List.range, List.range.loop]) <;> first | rfl | exact ⟨rfl, rfl⟩))
  (case hd => first | rfl | simp [e, kls, List.range, List.range.loop])
  simp

/-! ### _law_only -/
theorem onlyc_NoPhase (a : Addr) (x0 : D) (i : Int) : compL (dgName 2) dYes (ce_law_only_xNoPhase_0 a) [2] (em eN (List.range 13)) [x0, .sc (.int i), .una] [] = .ok (em eB ((List.range 13).map fun (k : Nat) => decide ((k : Int) = i)), [x0, .sc (.int i), .una]) := by
  have h := comp_map' (dg := dgName 2) (de := ce_law_only_xNoPhase_0 a) (ws := [2]) (B := [x0, .sc (.int i), .una]) (g := eN) (fun k : Nat => eB (decide ((k : Int) = i))) (xs := List.range 13) (acc := []) (by simp) (fun k hk => by
    refine ⟨[x0, .sc (.int i), .sc (.int (k : Int))], [x0, .sc (.int i), .sc (.int (k : Int))], by simp, ?_, by simp⟩
    simp [ce_law_only_xNoPhase_0])
  rw [List.nil_append] at h
  rw [h]
  simp only [em, List.map_map]
  rfl
theorem only_NoPhase (a : Addr) (i : Int) : F_law_only_xNoPhase a [.sc (.ref a), .sc (.int i)] = .ok (.sc (.bl (decide (i = 5))), [.sc (.ref a), .sc (.int i)]) := by
  have c := classes_NoPhase a
  have m := onlyc_NoPhase a (.sc (.ref a)) i
  have q : fEq [.nd (.lst true) (em eB (kls 5)), .nd (.lst true) (em eB ((List.range 13).map fun (k : Nat) => decide ((k : Int) = i)))] = some (.sc (.bl (decide (i = 5)))) := by
    have := fEq_s (f := eL true eB) (g := eL true eB) (x := kls 5) (y := (List.range 13).map fun (k : Nat) => decide ((k : Int) = i)) (by simp) (by simp) (by omega) (by omega)
    rw [this]
    have := kls_eq 5 (by omega) i
    simp only [this]
    rfl
  have r13 := rng_em 13
  refine' f_of (b := dn_law_only_xNoPhase a) ?_ rfl
  simp only [List.replicate_succ, List.replicate_zero, List.cons_append, List.nil_append, Nat.reduceSub, Nat.reduceAdd]
  unfold dn_law_only_xNoPhase
  (first | refine' rtp_go ?h0 ?_ | refine' seq_go ?h0 ?_)
  (case h0 => ((simp (disch := omega) [-getElem?_pos, lenOk_s, divOk_s, mulOk_s, rgOk_s, rg1Ok_s, repOk_s]) <;> first | rfl | exact ⟨rfl, rfl⟩))
  refine' rtp_ret ?h0 ?hd ?_
  (case h0 => ((simp (disch := omega) [-getElem?_pos, lenOk_s, divOk_s, mulOk_s, rgOk_s, rg1Ok_s, repOk_s, c, r13, m, q]) <;> first | rfl | exact ⟨rfl, rfl⟩))
  (case hd => first | rfl | simp [c, r13, m, q])
  simp
theorem ans_NoPhase (a : Addr) (x0 x1 : D) (dt : DenT) (de : Den) (ht : ∀ i : Int, dt [x0, x1, .sc (.ref a), .sc (.int i)] = .ok (decide (i = 5), [x0, x1, .sc (.ref a), .sc (.int i)])) (he : ∀ i : Int, de [x0, x1, .sc (.ref a), .sc (.int i)] = .ok (.val (.sc (.int i)), [x0, x1, .sc (.ref a), .sc (.int i)])) :
    compL (dgName 3) dt de [3] (em eN (List.range 13)) [x0, x1, .sc (.ref a), .una] [] = .ok ([.sc (.int 5)], [x0, x1, .sc (.ref a), .una]) := by
  have h := comp_filt' (dg := dgName 3) (dt := dt) (de := de) (ws := [3]) (B := [x0, x1, .sc (.ref a), .una]) (g := eN) (fun k : Nat => eN k) (fun k => decide ((k : Int) = 5)) (xs := List.range 13) (acc := []) (by simp) (fun k hk => by
    refine ⟨[x0, x1, .sc (.ref a), .sc (.int (k : Int))], [x0, x1, .sc (.ref a), .sc (.int (k : Int))], by simp, ht k, fun _ => ⟨_, he k, by simp⟩, fun _ => by simp⟩)
  have f := kls_only 5 (by omega)
  have e : (((5 : Nat) : Int)) = (5 : Int) := rfl
  rw [e] at f
  rw [f] at h
  exact h

/-! ### _law_told -/
theorem bled (l : List Int) (x : D) (u : isUna x = false) (h : F_is_phase [.nd .tup (em eI l), x] = .ok (.sc (.bl false), [.nd .tup (em eI l), x])) : F_led [.nd .tup (em eI l), x] = .exc c_NoPhase [] [.nd .tup (em eI l), x] := by
  refine f_excR (b := dn_led) (E := [.nd .tup (em eI l), x, .una, .una, .una, .una, .una]) ?_ rfl (by simp [u])
  simp [dn_led, h, u]
theorem told_bad (l : List Int) (x : D) (u : isUna x = false) (h : F_is_phase [.nd .tup (em eI l), x] = .ok (.sc (.bl false), [.nd .tup (em eI l), x])) : F_law_told [.nd .tup (em eI l), x] = .ok (.nd (.lst true) [.sc (.int 5)], [.nd .tup (em eI l), x]) := by
  have b := bled l x u h
  have r13 := rng_em 13
  refine f_rt (b := dn_law_told) (E := [.nd .tup (em eI l), x, .una, .una]) ?_ rfl (by simp [u])
  unfold dn_law_told
  refine dTryE_of (E' := [.nd .tup (em eI l), x, .una, .una]) (E2 := [.nd .tup (em eI l), x, .una, .una]) ?_ rfl fun a => ?_
  · simp [b, u]
  · have k := ans_NoPhase a (.nd .tup (em eI l)) x (ct_law_told_1 a) (ce_law_told_0 a) (fun i => by
      have o := only_NoPhase a i
      simp [ct_law_told_1, o]) (fun i => by simp [ce_law_told_0])
    simp (disch := omega) [r13, k, rg1Ok_s]
theorem told_ph (l : List Int) (t n : Int) (s : List Int) (h : isPh l t s n = true) : F_law_told [.nd .tup (em eI l), phD t s n] = .ok (.nd .tup (em eI (ledL l t s n)), [.nd .tup (em eI l), phD t s n]) := by
  have b := led_ok l t n s h
  refine f_rt (b := dn_law_told) (E := [.nd .tup (em eI l), phD t s n, .una, .una]) ?_ rfl (by simp)
  have q : ∀ (i c : Nat) (dh : Addr → DenS) (bd : DenS) (E E' : List D) (d : D), bd E = .rt d E' → dTryE i c dh bd E = .rt d E' := by
    intro i c dh bd E E' d e
    unfold dTryE
    rw [e]
  unfold dn_law_told
  refine q _ _ _ _ _ _ _ ?_
  simp [b]
theorem told_no (l : List Int) (t n : Int) (s : List Int) (h : isPh l t s n = false) : F_law_told [.nd .tup (em eI l), phD t s n] = .ok (.nd (.lst true) [.sc (.int 5)], [.nd .tup (em eI l), phD t s n]) := by
  refine told_bad l (phD t s n) rfl ?_
  rw [isph_ok, h]

/-! ### _law_led -/
theorem lawled_loop (l : List Int) (t n : Int) (s : List Int) (hn : 0 ≤ n) (hn2 : n < 1000000) (hl : l.length ≤ 100) (P : D) : loopD (dgName 6) lb_law_led_0 (rngD 0 l.length) [.nd .tup (em eI l), P, .sc (.int t), .nd .tup (em eI s), .sc (.int n), .nd (.lst true) [], .una, .una] = .nx [.nd .tup (em eI l), P, .sc (.int t), .nd .tup (em eI s), .sc (.int n), .nd (.lst true) (em eI (lawLed l t s n)), .una, .una] := by
  obtain ⟨_, eL, rfl⟩ := rng_inv (i := 6) (b := lb_law_led_0) (lo := 0) (n := l.length) (s0 := []) (fun acc => [.nd .tup (em eI l), P, .sc (.int t), .nd .tup (em eI s), .sc (.int n), .nd (.lst true) (em eI acc), .una, .una])
    (fun j acc => acc = (List.range j).map fun (d : Nat) => gI0 l d + n * (if (d : Int) = t then 1 else 0) - n * (if (d : Int) ∈ s then 1 else 0))
    rfl (by simp) (fun j acc hj e => by
      have ha : acc.length ≤ 100 := by rw [e]; simp; omega
      have e1 := gI0_at l j (by omega) (by omega)
      rw [Int.toNat_natCast] at e1
      refine ⟨acc ++ [gI0 l j + n * (if (j : Int) = t then 1 else 0) - n * (if (j : Int) ∈ s then 1 else 0)], .inl ?_, by rw [e, range_map_succ]⟩
      have hm : ∀ i : Int, i = 0 ∨ i = 1 → mulOk n i = true := fun i hi => mulOk_s (by omega) (by omega) (by omega) (by omega)
      have h1 : mulOk n (if (j : Int) = t then 1 else 0) = true := hm _ (by split <;> simp)
      have h2 : mulOk n (if (j : Int) ∈ s then 1 else 0) = true := hm _ (by split <;> simp)
      simp (disch := omega) [-getElem?_pos, lb_law_led_0, lenOk_s, h1, h2, e1])
  exact eL
theorem lawled_ok (l : List Int) (t n : Int) (s : List Int) (hn : 0 ≤ n) (hn2 : n < 1000000) (hl : l.length ≤ 100) : F_law_led [.nd .tup (em eI l), phD t s n] = .ok (.nd .tup (em eI (lawLed l t s n)), [.nd .tup (em eI l), phD t s n]) := by
  have eL := lawled_loop l t n s hn hn2 hl (phD t s n)
  refine' f_of (b := dn_law_led) ?_ rfl
  simp only [List.replicate_succ, List.replicate_zero, List.cons_append, List.nil_append, Nat.reduceSub, Nat.reduceAdd]
  unfold dn_law_led
  (first | refine' rtp_go ?h0 ?_ | refine' seq_go ?h0 ?_)
  (case h0 => ((simp (disch := omega) [-getElem?_pos, lenOk_s, divOk_s, mulOk_s, rgOk_s, rg1Ok_s, repOk_s]) <;> first | rfl | exact ⟨rfl, rfl⟩))
  (first | refine' rtp_go ?h0 ?_ | refine' seq_go ?h0 ?_)
  (case h0 => ((simp (disch := omega) [-getElem?_pos, lenOk_s, divOk_s, mulOk_s, rgOk_s, rg1Ok_s, repOk_s]) <;> first | rfl | exact ⟨rfl, rfl⟩))
  (first | refine' rtp_go ?h0 ?_ | refine' seq_go ?h0 ?_)
  (case h0 => ((simp (disch := omega) [-getElem?_pos, lenOk_s, divOk_s, mulOk_s, rgOk_s, rg1Ok_s, repOk_s, eL]) <;> first | rfl | exact ⟨rfl, rfl⟩))
  refine' rtp_ret ?h0 ?hd ?_
  (case h0 => ((simp (disch := omega) [-getElem?_pos, lenOk_s, divOk_s, mulOk_s, rgOk_s, rg1Ok_s, repOk_s]) <;> first | rfl | exact ⟨rfl, rfl⟩))
  (case hd => first | rfl | simp [])
  simp

end K59

end
section
set_option maxRecDepth 100000
/-! DL, part 24: how long a text of data is. -/
namespace DL
open PySem L2
mutual
def wtD : D → Nat
  | .sc v => match v with
    | .int _ => 1921
    | .str z => (reprText z).length
    | _ => 5
  | .nd _ ds => 4 + wtDs ds
  | _ => 5
def wtDs : List D → Nat
  | [] => 0
  | d :: ds => wtD d + 2 + wtDs ds
end
mutual
def smD : D → Bool
  | .sc v => match v with
    | .int i => decide (i.natAbs.log2 < 1920)
    | _ => true
  | .nd _ ds => smDs ds
  | _ => true
def smDs : List D → Bool
  | [] => true
  | d :: ds => smD d && smDs ds
end
theorem join_len (s : Str) (hs : s.length = 2) : ∀ ts : List Str, (Str.join s ts).length ≤ (ts.map fun t => t.length + 2).sum
  | [] => Nat.le_refl _
  | [x] => by show x.length ≤ _; simp
  | x :: y :: r => by
    have ih := join_len s hs (y :: r)
    show (x ++ s ++ Str.join s (y :: r)).length ≤ _
    rw [strLen_append, strLen_append, hs]
    simp only [List.map_cons, List.sum_cons] at ih ⊢; omega
theorem from_len : ∀ (ts : List Str) (k : Nat) (acc : Str), (textFrom k acc ts).length ≤ acc.length + (ts.map fun t => t.length + 2).sum
  | [], k, acc => by show acc.length ≤ _; simp
  | t :: r, k, acc => by
    have ih := from_len r (k + 1) (acc ++ (if k > 0 then ", " else "" : String) ++ t)
    have e : (acc ++ (if k > 0 then ", " else "" : String) ++ t).length ≤ acc.length + 2 + t.length := by
      rw [strLen_append, strLen_append]
      split
      · show acc.length + 2 + t.length ≤ _; omega
      · show acc.length + 0 + t.length ≤ _; omega
    show (textFrom (k + 1) _ r).length ≤ _
    simp only [List.map_cons, List.sum_cons]; omega
theorem list_len (ts : List Str) : (listText ts).length ≤ 2 + (ts.map fun t => t.length + 2).sum := by
  unfold listText
  have := from_len ts 0 ("[" : String)
  rw [strLen_append]
  have e1 : ((("[" : String) : Str)).length = 1 := rfl
  have e2 : ((("]" : String) : Str)).length = 1 := rfl
  rw [e1] at this
  rw [e2]; omega
theorem tup_len (ts : List Str) : (tupleText ts).length ≤ 3 + (ts.map fun t => t.length + 2).sum := by
  unfold tupleText
  have := join_len ", " rfl ts
  rw [strLen_append, strLen_append]
  have e1 : ((("(" : String) : Str)).length = 1 := rfl
  rw [e1]
  split
  · have e2 : (((",)" : String) : Str)).length = 2 := rfl
    rw [e2]; omega
  · have e2 : (((")" : String) : Str)).length = 1 := rfl
    rw [e2]; omega
theorem shownAll_map (ds : List PyData) : PyData.shownAll ds = ds.map PyData.shown := by induction ds with | nil => rfl | cons d ds ih => simp [PyData.shownAll, ih]
mutual
theorem sh_len : ∀ (n : Nat) (d : D), lay n d = true → smD d = true → (PyData.shown (toP d)).length ≤ wtD d ∧ PyData.showable (toP d) = true ∧ PyData.hasDict (toP d) = false ∧ PyData.depth (toP d) ≤ n
  | n, .una, h, _ => by cases n <;> cases h
  | n, .lent, h, _ => by cases n <;> cases h
  | n, .kl _, h, _ => by cases n <;> cases h
  | n, .sc v, h, hs => by
    cases v with
    | non => exact ⟨by show (4 : Nat) ≤ 5; omega, rfl, rfl, Nat.zero_le _⟩
    | bl b =>
      refine ⟨?_, rfl, rfl, Nat.zero_le _⟩
      cases b
      · show (5 : Nat) ≤ 5; omega
      · show (4 : Nat) ≤ 5; omega
    | int i =>
      have hi : i.natAbs.log2 < 1920 := of_decide_eq_true hs
      exact ⟨PyProof.Rows.int_text_len_1921 hi, hs, rfl, Nat.zero_le _⟩
    | str z => exact ⟨Nat.le_refl _, rfl, rfl, Nat.zero_le _⟩
    | _ => cases n <;> cases h
  | 0, .nd k ds, h, _ => by cases h
  | n + 1, .nd k ds, h, hs => by
    have h' : (k.seq && ds.all (lay n)) = true := h
    simp only [Bool.and_eq_true] at h'
    have hs' : smDs ds = true := hs
    obtain ⟨i1, i2, i3, i4⟩ := shs_len n ds h'.2 hs'
    cases k with
    | tup =>
      refine ⟨?_, i2, i3, Nat.succ_le_succ i4⟩
      have := tup_len (PyData.shownAll (toPs ds))
      show (tupleText (PyData.shownAll (toPs ds))).length ≤ 4 + wtDs ds
      omega
    | lst m =>
      refine ⟨?_, i2, i3, Nat.succ_le_succ i4⟩
      have := list_len (PyData.shownAll (toPs ds))
      show (listText (PyData.shownAll (toPs ds))).length ≤ 4 + wtDs ds
      omega
    | dik _ _ => cases h'.1
    | dit _ _ => cases h'.1
    | obj _ _ _ => cases h'.1
theorem shs_len : ∀ (n : Nat) (ds : List D), ds.all (lay n) = true → smDs ds = true → ((PyData.shownAll (toPs ds)).map fun t => t.length + 2).sum ≤ wtDs ds ∧ PyData.showableAll (toPs ds) = true ∧ PyData.hasDictAll (toPs ds) = false ∧ PyData.depthAll (toPs ds) ≤ n
  | n, [], _, _ => ⟨Nat.le_refl _, rfl, rfl, Nat.zero_le _⟩
  | n, d :: ds, h, hs => by
    simp only [List.all_cons, Bool.and_eq_true] at h
    have hs' : (smD d && smDs ds) = true := hs
    simp only [Bool.and_eq_true] at hs'
    obtain ⟨a1, a2, a3, a4⟩ := sh_len n d h.1 hs'.1
    obtain ⟨b1, b2, b3, b4⟩ := shs_len n ds h.2 hs'.2
    refine ⟨?_, ?_, ?_, Nat.max_le.mpr ⟨a4, b4⟩⟩
    · show ((PyData.shown (toP d) :: PyData.shownAll (toPs ds)).map fun t => t.length + 2).sum ≤ wtD d + 2 + wtDs ds
      simp only [List.map_cons, List.sum_cons]; omega
    · show (PyData.showable (toP d) && PyData.showableAll (toPs ds)) = true
      rw [a2, b2]; rfl
    · show (PyData.hasDict (toP d) || PyData.hasDictAll (toPs ds)) = false
      rw [a3, b3]; rfl
end
theorem fRepr_D {x : D} (h : lay 63 x = true) (h2 : smD x = true) (h3 : wtD x ≤ 10000000) : fRepr [x] = some (.sc (.str (PyData.shown (toP x)))) := by
  obtain ⟨a, b, c, d⟩ := sh_len 63 x h h2
  exact fRepr_of h ⟨b, c, by omega, d⟩
end DL

end
section
set_option maxRecDepth 100000
namespace DL
open PySem PySem.Spec PyProof PyProof.Rows L2
/-! ### how long it is -/
def wkq : Key → Nat
  | .inl _ => 1921
  | .inr z => (reprText z).length
mutual
def wq : D → Nat
  | .sc v => match v with
    | .int _ => 1921
    | .str z => (reprText z).length
    | _ => 5
  | .nd k ds => match k with
    | .dik _ ks => 4 + ((ks.map fun k => wkq k + 4).sum + wqs ds)
    | _ => 4 + wqs ds
  | _ => 5
def wqs : List D → Nat
  | [] => 0
  | d :: ds => wq d + 2 + wqs ds
end
theorem dict_len (ts : List Str) : (dictText ts).length ≤ 2 + (ts.map fun t => t.length + 2).sum := by
  unfold dictText
  have := join_len ", " rfl ts
  rw [strLen_append, strLen_append]
  have e1 : ((("{" : String) : Str)).length = 1 := rfl
  have e2 : ((("}" : String) : Str)).length = 1 := rfl
  rw [e1, e2]; omega
theorem kv_len : ∀ (ks : List Key) (qs : List PyData), ks.all kok = true → ks.length = qs.length → ((PyData.shownKv ((ks.map kq).zip qs)).map fun t => t.length + 2).sum ≤ (ks.map fun k => wkq k + 4).sum + ((PyData.shownAll qs).map fun t => t.length + 2).sum
  | [], [], _, _ => Nat.zero_le _
  | k :: ks, q :: qs, h, l => by
    simp only [List.all_cons, Bool.and_eq_true] at h
    have ih := kv_len ks qs h.2 (by simpa using l)
    have kl : (PyData.shown (kq k)).length ≤ wkq k := by
      cases k with
      | inl i => exact PyProof.Rows.int_text_len_1921 (of_decide_eq_true h.1)
      | inr z => exact Nat.le_refl _
    have c : (PyData.shown (kq k) ++ ": " ++ PyData.shown q).length = (PyData.shown (kq k)).length + 2 + (PyData.shown q).length := by rw [strLen_append, strLen_append]; rfl
    show (((PyData.shown (kq k) ++ ": " ++ PyData.shown q) :: PyData.shownKv ((ks.map kq).zip qs)).map fun t => t.length + 2).sum ≤ ((k :: ks).map fun k => wkq k + 4).sum + ((PyData.shown q :: PyData.shownAll qs).map fun t => t.length + 2).sum
    simp only [List.map_cons, List.sum_cons, c]
    omega
  | [], _ :: _, _, l => by cases l
  | _ :: _, [], _, l => by cases l
mutual
theorem shq_len : ∀ (n : Nat) (d : D), laq n d = true → (PyData.shown (toQ d)).length ≤ wq d
  | n, .una, l => by cases n <;> cases l
  | n, .lent, l => by cases n <;> cases l
  | n, .kl _, l => by cases n <;> cases l
  | n, .sc v, l => by
    cases v with
    | non => show (4 : Nat) ≤ 5; omega
    | bl b =>
      cases b
      · show (5 : Nat) ≤ 5; omega
      · show (4 : Nat) ≤ 5; omega
    | int i => exact PyProof.Rows.int_text_len_1921 (of_decide_eq_true (by cases n <;> exact l))
    | str z => exact Nat.le_refl _
    | byt _ => cases n <;> cases l
    | flt _ => cases n <;> cases l
    | ref _ => cases n <;> cases l
    | ty _ => cases n <;> cases l
  | 0, .nd k ds, l => by cases l
  | n + 1, .nd k ds, l => by
    have l' : (kdq k ds.length && laqs n ds) = true := l
    simp only [Bool.and_eq_true] at l'
    have ih := shqs_len n ds l'.2
    cases k with
    | tup =>
      have := tup_len (PyData.shownAll (toQs ds))
      show (tupleText (PyData.shownAll (toQs ds))).length ≤ 4 + wqs ds
      omega
    | lst m =>
      have := list_len (PyData.shownAll (toQs ds))
      show (listText (PyData.shownAll (toQs ds))).length ≤ 4 + wqs ds
      omega
    | dik b ks =>
      have q1 : (decide (ks.length = ds.length) && ks.all kok) = true := l'.1
      simp only [Bool.and_eq_true, decide_eq_true_eq] at q1
      have a := dict_len (PyData.shownKv ((ks.map kq).zip (toQs ds)))
      have b := kv_len ks (toQs ds) q1.2 (by rw [toQs_len]; exact q1.1)
      show (dictText (PyData.shownKv ((ks.map kq).zip (toQs ds)))).length ≤ 4 + ((ks.map fun k => wkq k + 4).sum + wqs ds)
      omega
    | dit _ _ => exact absurd l'.1 (by simp [kdq])
    | obj _ _ _ => exact absurd l'.1 (by simp [kdq])
theorem shqs_len : ∀ (n : Nat) (ds : List D), laqs n ds = true → ((PyData.shownAll (toQs ds)).map fun t => t.length + 2).sum ≤ wqs ds
  | n, [], _ => Nat.le_refl _
  | n, d :: ds, l => by
    have l' : (laq n d && laqs n ds) = true := l
    simp only [Bool.and_eq_true] at l'
    have a := shq_len n d l'.1
    have b := shqs_len n ds l'.2
    show ((PyData.shown (toQ d) :: PyData.shownAll (toQs ds)).map fun t => t.length + 2).sum ≤ wq d + 2 + wqs ds
    simp only [List.map_cons, List.sum_cons]; omega
end
theorem fReprQ_D {x : D} (h : laq 63 x = true) (h2 : wq x ≤ 10000000) : fReprQ [x] = some (.sc (.str (toQ x).shown)) := fReprQ_of h (Nat.le_trans (shq_len 63 x h) h2)
end DL

end
section
/-! the same equations, so that simp does not go into what comes behind -/
namespace DL
open PySem L2
def acK (pu2 : Bool) (ds : DenA) (r : Opd × List D) : R (List Opd × List D) := if stab pu2 r.1 then (ds r.2).bind fun q => .ok (r.1 :: q.1, q.2) else .bad
theorem kv_aCons (pu2 : Bool) (d : Den) (ds : DenA) (E : List D) : aCons pu2 d ds E = (d E).bind (acK pu2 ds) := id rfl
theorem ke_aCons (pu2 : Bool) (ds : DenA) (o : Opd) (E : List D) : acK pu2 ds (o, E) = if stab pu2 o then (ds E).bind fun q => .ok (o :: q.1, q.2) else .bad := id rfl
def anK (b : DenT) (r : Bool × List D) : R (Bool × List D) := if r.1 then b r.2 else .ok (false, r.2)
theorem kv_dAnd (a b : DenT) (E : List D) : dAnd a b E = (a E).bind (anK b) := id rfl
theorem ke_dAnd (b : DenT) (v : Bool) (E : List D) : anK b (v, E) = if v then b E else .ok (false, E) := id rfl
def orK (b : DenT) (r : Bool × List D) : R (Bool × List D) := if r.1 then .ok (true, r.2) else b r.2
theorem kv_dOr (a b : DenT) (E : List D) : dOr a b E = (a E).bind (orK b) := id rfl
theorem ke_dOr (b : DenT) (v : Bool) (E : List D) : orK b (v, E) = if v then .ok (true, E) else b E := id rfl
def andVK (b : Den) (r : Opd × List D) : R (Opd × List D) := match cont r.2 r.1 with
  | some (.sc (.bl true)) => b r.2
  | some (.sc (.bl false)) => .ok (.val (.sc (.bl false)), r.2)
  | _ => .bad
theorem kv_dAndV (a b : Den) (E : List D) : dAndV a b E = (a E).bind (andVK b) := id rfl
theorem ke_dAndV (b : Den) (o : Opd) (E : List D) : andVK b (o, E) = match cont E o with
  | some (.sc (.bl true)) => b E
  | some (.sc (.bl false)) => .ok (.val (.sc (.bl false)), E)
  | _ => .bad := id rfl
def orVK (b : Den) (r : Opd × List D) : R (Opd × List D) := match cont r.2 r.1 with
  | some (.sc (.bl false)) => b r.2
  | some (.sc (.bl true)) => .ok (.val (.sc (.bl true)), r.2)
  | _ => .bad
theorem kv_dOrV (a b : Den) (E : List D) : dOrV a b E = (a E).bind (orVK b) := id rfl
theorem ke_dOrV (b : Den) (o : Opd) (E : List D) : orVK b (o, E) = match cont E o with
  | some (.sc (.bl false)) => b E
  | some (.sc (.bl true)) => .ok (.val (.sc (.bl true)), E)
  | _ => .bad := id rfl
def ifK (a b : Den) (r : Bool × List D) : R (Opd × List D) := if r.1 then a r.2 else b r.2
theorem kv_dIf (t : DenT) (a b : Den) (E : List D) : dIf t a b E = (t E).bind (ifK a b) := id rfl
theorem ke_dIf (a b : Den) (v : Bool) (E : List D) : ifK a b (v, E) = if v then a E else b E := id rfl
def ifSK (a b : DenS) (r : Bool × List D) : S := if r.1 then a r.2 else b r.2
theorem kv_dIfS (t : DenT) (a b : DenS) (E : List D) : dIfS t a b E = (t E).toS (ifSK a b) := id rfl
theorem ke_dIfS (a b : DenS) (v : Bool) (E : List D) : ifSK a b (v, E) = if v then a E else b E := id rfl
def methK0 (c : Nat) (m : Str) (F : Fn) (pu2 : Bool) (das : DenA) (r : Opd × List D) : R (Opd × List D) := if isObj c m (cont r.2 r.1) && stab pu2 r.1 then (das r.2).bind fun q => callK F (r.1 :: q.1, q.2) else .bad
theorem kv_dMeth (c : Nat) (m : Str) (F : Fn) (pu2 : Bool) (d0 : Den) (das : DenA) (E : List D) : dMeth c m F pu2 d0 das E = (d0 E).bind (methK0 c m F pu2 das) := id rfl
theorem ke_dMeth (c : Nat) (m : Str) (F : Fn) (pu2 : Bool) (das : DenA) (o : Opd) (E : List D) : methK0 c m F pu2 das (o, E) = if isObj c m (cont E o) && stab pu2 o then (das E).bind fun q => callK F (o :: q.1, q.2) else .bad := id rfl
def mutK0 (T : String) (M : MutF) (pu2 : Bool) (das : DenA) (r : Opd × List D) : R (Opd × List D) := if isTy T (cont r.2 r.1) && stab pu2 r.1 then (das r.2).bind fun q => mutK M (r.1, q) else .bad
theorem kv_dMut (T : String) (M : MutF) (pu2 : Bool) (d0 : Den) (das : DenA) (E : List D) : dMut T M pu2 d0 das E = (d0 E).bind (mutK0 T M pu2 das) := id rfl
theorem ke_dMut (T : String) (M : MutF) (pu2 : Bool) (das : DenA) (o : Opd) (E : List D) : mutK0 T M pu2 das (o, E) = if isTy T (cont E o) && stab pu2 o then (das E).bind fun q => mutK M (o, q) else .bad := id rfl
def slK2 (o : Opd) (p : Option Int) (q : Option Int × List D) : R (Opd × List D) := match cont q.2 o with
  | some x => match fSl x p q.1 with
    | some d => .ok (.val d, q.2)
    | none => .bad
  | none => .bad
def slK1 (o : Opd) (hi : DenP) (p : Option Int × List D) : R (Opd × List D) := (hi p.2).bind (slK2 o p.1)
def slK (pu : Bool) (lo hi : DenP) (r : Opd × List D) : R (Opd × List D) := if stab pu r.1 then (lo r.2).bind (slK1 r.1 hi) else .bad
theorem kv_dSl (pu : Bool) (d : Den) (lo hi : DenP) (E : List D) : dSl pu d lo hi E = (d E).bind (slK pu lo hi) := id rfl
theorem ke_dSl (pu : Bool) (lo hi : DenP) (o : Opd) (E : List D) : slK pu lo hi (o, E) = if stab pu o then (lo E).bind (slK1 o hi) else .bad := id rfl
theorem ke_dSl1 (o : Opd) (hi : DenP) (p : Option Int) (E : List D) : slK1 o hi (p, E) = (hi E).bind (slK2 o p) := id rfl
theorem ke_dSl2 (o : Opd) (p q : Option Int) (E : List D) : slK2 o p (q, E) = match cont E o with
  | some x => match fSl x p q with
    | some d => .ok (.val d, E)
    | none => .bad
  | none => .bad := id rfl
end DL

end
section
set_option maxRecDepth 100000
set_option exponentiation.threshold 2000
namespace K59
open PySem L2 DL
/-- no whole number -/
structure NW (x : D) : Prop where
  u : isUna x = false
  fz : Fz x = true
  nw : F_is_whole [x] = .ok (.sc (.bl false), [x])
theorem NW.of (x : D) (n : String) (h : tyD x = some n) (hn : n ∈ ["NoneType", "bool", "str", "tuple", "list", "dict"]) (u : isUna x = false) (f : Fz x = true) : NW x := by
  refine ⟨u, f, f_rt (b := dn_is_whole) (E := [x]) ?_ rfl (by simp [u])⟩
  simp only [List.mem_cons, List.not_mem_nil, or_false] at hn
  rcases hn with rfl | rfl | rfl | rfl | rfl | rfl <;> simp [dn_is_whole, h, u, isiD]
theorem NW.nb {x : D} (w : NW x) (a b : Int) : F_is_between [x, .sc (.int a), .sc (.int b)] = .ok (.sc (.bl false), [x, .sc (.int a), .sc (.int b)]) := by
  have u := w.u
  have w := w.nw
  refine f_rt (b := dn_is_between) (E := [x, .sc (.int a), .sc (.int b)]) ?_ rfl (by simp [u])
  simp [dn_is_between, w, u]
abbrev t12 : D := .nd .tup [.sc (.int 1), .sc (.int 2)]
abbrev t123 : D := .nd .tup [.sc (.int 1), .sc (.int 2), .sc (.str "3")]
/-- no tuple, or one of those -/
inductive OddT : D → Prop
  | nt (x : D) (n : String) : tyD x = some n → n ∈ ["NoneType", "bool", "str", "list", "dict"] → OddT x
  | t0 : OddT (.nd .tup [])
  | t2 : OddT t12
  | t3 : OddT t123
theorem odds9 (m : Nat) (h : m < 9) : ∃ x, NW x ∧ OddT x ∧ ([.sc .non, .sc (.bl true), .sc (.bl false), .sc (.str "1"), .sc (.str ""), .nd .tup [.sc (.int 1), .sc (.int 2)], .nd (.lst false) [.sc (.int 1)], .nd (.dik false [.inr "a"]) [.sc (.int 1)], .nd .tup []] : List D)[m]? = some x ∧ (x = t12 ∨ fEqX [x, t12] = some (.sc (.bl false))) := by
  have : m = 0 ∨ m = 1 ∨ m = 2 ∨ m = 3 ∨ m = 4 ∨ m = 5 ∨ m = 6 ∨ m = 7 ∨ m = 8 := by omega
  rcases this with rfl | rfl | rfl | rfl | rfl | rfl | rfl | rfl | rfl
  · exact ⟨_, NW.of _ "NoneType" rfl (by decide) rfl rfl, .nt _ "NoneType" rfl (by decide), rfl, .inr (by rw [fEqX_sc]; exact fEq_of (lay_sc0 _ _ (by decide +kernel)) rfl (by decide +kernel))⟩
  · exact ⟨_, NW.of _ "bool" rfl (by decide) rfl rfl, .nt _ "bool" rfl (by decide), rfl, .inr (by rw [fEqX_sc]; exact fEq_of (lay_sc0 _ _ (by decide +kernel)) rfl (by decide +kernel))⟩
  · exact ⟨_, NW.of _ "bool" rfl (by decide) rfl rfl, .nt _ "bool" rfl (by decide), rfl, .inr (by rw [fEqX_sc]; exact fEq_of (lay_sc0 _ _ (by decide +kernel)) rfl (by decide +kernel))⟩
  · exact ⟨_, NW.of _ "str" rfl (by decide) rfl rfl, .nt _ "str" rfl (by decide), rfl, .inr (by rw [fEqX_sc]; exact fEq_of (lay_sc0 _ _ (by decide +kernel)) rfl (by decide +kernel))⟩
  · exact ⟨_, NW.of _ "str" rfl (by decide) rfl rfl, .nt _ "str" rfl (by decide), rfl, .inr (by rw [fEqX_sc]; exact fEq_of (lay_sc0 _ _ (by decide +kernel)) rfl (by decide +kernel))⟩
  · exact ⟨_, NW.of _ "tuple" rfl (by decide) rfl rfl, .t2, rfl, .inl rfl⟩
  · exact ⟨_, NW.of _ "list" rfl (by decide) rfl rfl, .nt _ "list" rfl (by decide), rfl, .inr (by rw [fEqX_seq _ rfl]; exact fEq_of rfl rfl rfl)⟩
  · exact ⟨_, NW.of _ "dict" rfl (by decide) rfl rfl, .nt _ "dict" rfl (by decide), rfl, .inr rfl⟩
  · exact ⟨_, NW.of _ "tuple" rfl (by decide) rfl rfl, .t0, rfl, .inr (by rw [fEqX_seq _ rfl]; exact fEq_of rfl rfl rfl)⟩
theorem odd_ok (n : Int) : ∃ x n', F_law_odd [bx n] = .ok (x, [bx n']) ∧ NW x ∧ OddT x ∧ (x = t12 ∨ fEqX [x, t12] = some (.sc (.bl false))) := by
  obtain ⟨q, n', hq, t8⟩ := take_n n 9 (by omega) (by omega)
  obtain ⟨x, b, o, ex, c⟩ := odds9 q (by omega)
  refine ⟨x, n', ?_, b, o, c⟩
  have f := b.fz
  have u := b.u
  refine' f_of (b := dn_law_odd) ?_ rfl
  simp only [List.replicate_succ, List.replicate_zero, List.cons_append, List.nil_append, Nat.reduceSub, Nat.reduceAdd]
  unfold dn_law_odd
  refine' rtp_ret ?h0 ?hd ?_
  (case h0 => ((simp (disch := omega) [-getElem?_pos, lenOk_s, divOk_s, mulOk_s, rgOk_s, rg1Ok_s, repOk_s, -ev_aCons, kv_aCons, ke_aCons, -ev_dAnd, kv_dAnd, ke_dAnd, -ev_dOr, kv_dOr, ke_dOr, -ev_dAndV, kv_dAndV, ke_dAndV, -ev_dOrV, kv_dOrV, ke_dOrV, -ev_dIf, kv_dIf, ke_dIf, -ev_dIfS, kv_dIfS, ke_dIfS, -ev_dMeth, kv_dMeth, ke_dMeth, -ev_dMut, kv_dMut, ke_dMut, -ev_dSl, kv_dSl, ke_dSl, ke_dSl1, ke_dSl2, dDisp, t8, ex, f, u]) <;> first | rfl | exact ⟨rfl, rfl⟩))
  (case hd => first | rfl | simp [dDisp, t8, ex, f, u])
  simp


/-- refused -/
structure Bd (l : List Int) (x : D) : Prop where
  u : isUna x = false
  h : F_is_phase [.nd .tup (em eI l), x] = .ok (.sc (.bl false), [.nd .tup (em eI l), x])
theorem bd_nt (l : List Int) (x : D) (u : isUna x = false) (n : String) (h : tyD x = some n) (hn : n ∈ ["NoneType", "bool", "str", "list", "dict"]) : Bd l x := by
  refine ⟨u, f_rt (b := dn_is_phase) (E := [.nd .tup (em eI l), x, .una, .una, .una]) ?_ rfl (by simp [u])⟩
  simp only [List.mem_cons, List.not_mem_nil, or_false] at hn
  rcases hn with rfl | rfl | rfl | rfl | rfl <;> simp [dn_is_phase, h, u, isiD]
theorem bd_len (l : List Int) (ds : List D) (h : ds.length ≠ 3) (h2 : ds.length ≤ 1000) : Bd l (.nd .tup ds) := by
  refine ⟨rfl, f_rt (b := dn_is_phase) (E := [.nd .tup (em eI l), .nd .tup ds, .una, .una, .una]) ?_ rfl (by simp)⟩
  have h' : ¬ (ds.length : Int) = 3 := by omega
  simp (disch := omega) [dn_is_phase, lenOk_s, h']
theorem bd_t (l : List Int) (x y z : D) (w : NW x) (fy : Fz y = true) (uy : isUna y = false) (fz' : Fz z = true) (uz : isUna z = false) : Bd l (.nd .tup [x, y, z]) := by
  have nb := w.nb 0 ((l.length : Int) - 1)
  have u := w.u
  have f := w.fz
  refine ⟨rfl, f_rt (b := dn_is_phase) (E := [.nd .tup (em eI l), .nd .tup [x, y, z], x, y, z]) ?_ rfl (by simp)⟩
  simp (disch := omega) [dn_is_phase, lenOk_s, nb, u, f, fy, uy, fz', uz]
theorem bd_z (l : List Int) (t : Int) (y z : D) (w : NW z) (fy : Fz y = true) (uy : isUna y = false) : Bd l (.nd .tup [.sc (.int t), y, z]) := by
  have b := betw_ok t 0 ((l.length : Int) - 1)
  have u := w.u
  have f := w.fz
  have w := w.nw
  refine ⟨rfl, f_rt (b := dn_is_phase) (E := [.nd .tup (em eI l), .nd .tup [.sc (.int t), y, z], .sc (.int t), y, z]) ?_ rfl (by simp)⟩
  by_cases c : 0 ≤ t ∧ t ≤ (l.length : Int) - 1
  · have e1 := gI0_em l t (by omega) (by omega)
    have c5 : t < (l.length : Int) := by omega
    simp only [c.1, c.2, decide_true, Bool.and_self] at b
    by_cases c2 : gI0 l t = 0
    · rw [c2] at e1
      simp (disch := omega) [-getElem?_pos, dn_is_phase, lenOk_s, b, u, f, fy, uy, c.1, c5, e1, w]
    · simp (disch := omega) [-getElem?_pos, dn_is_phase, lenOk_s, b, u, f, fy, uy, c.1, c5, e1, c2, w]
  · have c' : (decide (0 ≤ t) && decide (t ≤ (l.length : Int) - 1)) = false := by
      rw [Bool.and_eq_false_iff, decide_eq_false_iff_not, decide_eq_false_iff_not]; omega
    rw [c'] at b
    simp (disch := omega) [-getElem?_pos, dn_is_phase, lenOk_s, b, u, f, fy, uy, w]
theorem bd_s (l : List Int) (t n : Int) (y : D) (h0 : 0 ≤ t) (h1 : t < l.length) (h2 : gI0 l t = 0) (hn : 0 < n) (fy : Fz y = true) (uy : isUna y = false) (h : F_are_sources [.nd .tup (em eI l), .sc (.int t), y, .sc (.int n)] = .ok (.sc (.bl false), [.nd .tup (em eI l), .sc (.int t), y, .sc (.int n)])) : Bd l (.nd .tup [.sc (.int t), y, .sc (.int n)]) := by
  have b := betw_ok t 0 ((l.length : Int) - 1)
  have w := isw_ok n
  refine ⟨rfl, f_rt (b := dn_is_phase) (E := [.nd .tup (em eI l), .nd .tup [.sc (.int t), y, .sc (.int n)], .sc (.int t), y, .sc (.int n)]) ?_ rfl (by simp)⟩
  have e1 := gI0_em l t (by omega) (by omega)
  have c5 : t ≤ (l.length : Int) - 1 := by omega
  simp only [h0, c5, decide_true, Bool.and_self] at b
  rw [h2] at e1
  simp (disch := omega) [-getElem?_pos, dn_is_phase, lenOk_s, b, fy, uy, h0, h1, e1, w, hn, h]
theorem bd_ph (l : List Int) (t n : Int) (s : List Int) (h : isPh l t s n = false) : Bd l (phD t s n) := ⟨rfl, by rw [isph_ok, h]⟩
/-! sources that are none -/
theorem src_nt (l : List Int) (t n : Int) (y : D) (u : isUna y = false) (k : String) (h : tyD y = some k) (hn : k ∈ ["NoneType", "bool", "str", "list", "dict"]) : F_are_sources [.nd .tup (em eI l), .sc (.int t), y, .sc (.int n)] = .ok (.sc (.bl false), [.nd .tup (em eI l), .sc (.int t), y, .sc (.int n)]) := by
  refine f_rt (b := dn_are_sources) (E := [.nd .tup (em eI l), .sc (.int t), y, .sc (.int n), .una, .una]) ?_ rfl (by simp [u])
  simp only [List.mem_cons, List.not_mem_nil, or_false] at hn
  rcases hn with rfl | rfl | rfl | rfl | rfl <;> simp [dn_are_sources, h, u, isiD]
theorem src_few (l : List Int) (t n : Int) (ds : List D) (h : ds.length < 2) : F_are_sources [.nd .tup (em eI l), .sc (.int t), .nd .tup ds, .sc (.int n)] = .ok (.sc (.bl false), [.nd .tup (em eI l), .sc (.int t), .nd .tup ds, .sc (.int n)]) := by
  have h' : (ds.length : Int) < 2 := by omega
  refine f_rt (b := dn_are_sources) (E := [.nd .tup (em eI l), .sc (.int t), .nd .tup ds, .sc (.int n), .una, .una]) ?_ rfl (by simp)
  simp (disch := omega) [dn_are_sources, lenOk_s, h']
theorem bad_loop (l : List Int) (t n : Int) (S x : D) (w : NW x) (post : List D) : ∀ (s : List Int) (last : Int), -1 ≤ last → ∃ v w, loopD (dgName 5) lb_are_sources_0 (em eI s ++ x :: post) [.nd .tup (em eI l), .sc (.int t), S, .sc (.int n), .sc (.int last), .una] = .rt (.sc (.bl false)) [.nd .tup (em eI l), .sc (.int t), S, .sc (.int n), v, w]
  | [], last, h => by
    have nb := w.nb (last + 1) ((l.length : Int) - 1)
    have u := w.u
    refine ⟨.sc (.int last), x, ?_⟩
    show loopD _ _ (x :: post) _ = _
    rw [loop_cons (by simp; rfl)]
    simp (disch := omega) [-getElem?_pos, lb_are_sources_0, nb, u]
  | d :: s, last, h => by
    rw [em_cons, List.cons_append, loop_cons (by simp; rfl)]
    have b := betw_ok d (last + 1) ((l.length : Int) - 1)
    by_cases c1 : last + 1 ≤ d ∧ d ≤ (l.length : Int) - 1
    · have e1 := gI0_em l d (by omega) (by omega)
      have c5 : d < (l.length : Int) := by omega
      simp only [c1.1, c1.2, decide_true, Bool.and_self] at b
      by_cases c3 : d = t
      · subst c3
        refine ⟨.sc (.int last), .sc (.int d), ?_⟩
        simp (disch := omega) [-getElem?_pos, lb_are_sources_0, b]
      · by_cases c4 : gI0 l d < n
        · refine ⟨.sc (.int last), .sc (.int d), ?_⟩
          simp (disch := omega) [-getElem?_pos, lb_are_sources_0, b, c3, c4, c5, e1]
        · obtain ⟨v, w', ih⟩ := bad_loop l t n S x w post s d (by omega)
          have hb : lb_are_sources_0 [.nd .tup (em eI l), .sc (.int t), S, .sc (.int n), .sc (.int last), .sc (.int d)] = .nx [.nd .tup (em eI l), .sc (.int t), S, .sc (.int n), .sc (.int d), .una] := by
            simp (disch := omega) [-getElem?_pos, lb_are_sources_0, b, c3, c4, c5, e1]
          refine ⟨v, w', ?_⟩
          rw [hb, lk_nx, ih]
    · have c' : (decide (last + 1 ≤ d) && decide (d ≤ (l.length : Int) - 1)) = false := by
        rw [Bool.and_eq_false_iff, decide_eq_false_iff_not, decide_eq_false_iff_not]; omega
      rw [c'] at b
      refine ⟨.sc (.int last), .sc (.int d), ?_⟩
      simp (disch := omega) [-getElem?_pos, lb_are_sources_0, b]
theorem src_bad (l : List Int) (t n : Int) (s : List Int) (x : D) (post : List D) (w : NW x) (hf : Fzs post = true) (hl : 2 ≤ s.length + 1 + post.length) (hl2 : s.length + 1 + post.length ≤ 1000) : F_are_sources [.nd .tup (em eI l), .sc (.int t), .nd .tup (em eI s ++ x :: post), .sc (.int n)] = .ok (.sc (.bl false), [.nd .tup (em eI l), .sc (.int t), .nd .tup (em eI s ++ x :: post), .sc (.int n)]) := by
  obtain ⟨v, w', e⟩ := bad_loop l t n (.nd .tup (em eI s ++ x :: post)) x w post s (-1) (by omega)
  have h : ¬ (((em eI s ++ x :: post).length : Nat) : Int) < 2 := by simp; omega
  have hle : (em eI s ++ x :: post).length ≤ 1000 := by simp; omega
  have fs : Fzs (em eI s ++ x :: post) = true := by
    have := w.fz
    rw [Fzs_all] at hf ⊢
    simp [this, hf]
  have zs : fzs (em eI s ++ x :: post) = em eI s ++ x :: post := fzs_of fs
  generalize em eI s ++ x :: post = ds at *
  refine' f_of (b := dn_are_sources) ?_ rfl
  simp only [List.replicate_succ, List.replicate_zero, List.cons_append, List.nil_append, Nat.reduceSub, Nat.reduceAdd]
  unfold dn_are_sources
  (first | refine' rtp_go ?h0 ?_ | refine' seq_go ?h0 ?_)
  (case h0 => ((simp (disch := omega) [-getElem?_pos, lenOk_s, divOk_s, mulOk_s, rgOk_s, rg1Ok_s, repOk_s, -ev_aCons, kv_aCons, ke_aCons, -ev_dAnd, kv_dAnd, ke_dAnd, -ev_dOr, kv_dOr, ke_dOr, -ev_dAndV, kv_dAndV, ke_dAndV, -ev_dOrV, kv_dOrV, ke_dOrV, -ev_dIf, kv_dIf, ke_dIf, -ev_dIfS, kv_dIfS, ke_dIfS, -ev_dMeth, kv_dMeth, ke_dMeth, -ev_dMut, kv_dMut, ke_dMut, -ev_dSl, kv_dSl, ke_dSl, ke_dSl1, ke_dSl2, h]) <;> first | rfl | exact ⟨rfl, rfl⟩))
  (first | refine' rtp_go ?h0 ?_ | refine' seq_go ?h0 ?_)
  (case h0 => ((simp (disch := omega) [-getElem?_pos, lenOk_s, divOk_s, mulOk_s, rgOk_s, rg1Ok_s, repOk_s, -ev_aCons, kv_aCons, ke_aCons, -ev_dAnd, kv_dAnd, ke_dAnd, -ev_dOr, kv_dOr, ke_dOr, -ev_dAndV, kv_dAndV, ke_dAndV, -ev_dOrV, kv_dOrV, ke_dOrV, -ev_dIf, kv_dIf, ke_dIf, -ev_dIfS, kv_dIfS, ke_dIfS, -ev_dMeth, kv_dMeth, ke_dMeth, -ev_dMut, kv_dMut, ke_dMut, -ev_dSl, kv_dSl, ke_dSl, ke_dSl1, ke_dSl2]) <;> first | rfl | exact ⟨rfl, rfl⟩))
  refine' rtp_out ?h0 ?hd ?_
  (case h0 => ((simp (disch := omega) [-getElem?_pos, lenOk_s, divOk_s, mulOk_s, rgOk_s, rg1Ok_s, repOk_s, -ev_aCons, kv_aCons, ke_aCons, -ev_dAnd, kv_dAnd, ke_dAnd, -ev_dOr, kv_dOr, ke_dOr, -ev_dAndV, kv_dAndV, ke_dAndV, -ev_dOrV, kv_dOrV, ke_dOrV, -ev_dIf, kv_dIf, ke_dIf, -ev_dIfS, kv_dIfS, ke_dIfS, -ev_dMeth, kv_dMeth, ke_dMeth, -ev_dMut, kv_dMut, ke_dMut, -ev_dSl, kv_dSl, ke_dSl, ke_dSl1, ke_dSl2, fs, zs, e]) <;> first | rfl | exact ⟨rfl, rfl⟩))
  (case hd => first | rfl | simp [fs, zs, e])
  simp
/-! the law -/
abbrev St9 (ns : List Int) (b d t lay full src tm ph od sm : D) : List D := [.kl ns, .una, b, d, t, lay, full, src, tm, ph, od, sm, .una, .una]
theorem lay_c (ns : List Int) (n t : Int) (d : Nat) (hd : d ≤ 1000) : ∃ n' l, compL (dgName 13) dYes ce_law_0 [13] (rngD 0 d) (St9 ns (bx n) (.sc (.int d)) (.sc (.int t)) .una .una .una .una .una .una .una) [] = .ok (em eI l, St9 ns (bx n') (.sc (.int d)) (.sc (.int t)) .una .una .una .una .una .una .una) ∧ l.length = d ∧ ∀ k : Nat, k < d → (((k : Int) = t → gI0 l (k : Int) = 0) ∧ ((k : Int) ≠ t → 1 ≤ gI0 l (k : Int) ∧ gI0 l (k : Int) ≤ 5)) := by
  obtain ⟨B', acc', e, n', l, rfl, rfl, hl, hL⟩ := comp_gen (dg := dgName 13) (dt := dYes) (de := ce_law_0) (ws := [13]) (ds := rngD 0 d) (B := St9 ns (bx n) (.sc (.int d)) (.sc (.int t)) .una .una .una .una .una .una .una) (acc := []) (Jv := fun j B acc => ∃ n' l, B = St9 ns (bx n') (.sc (.int d)) (.sc (.int t)) .una .una .una .una .una .una .una ∧ acc = em eI l ∧ l.length = j ∧ ∀ k : Nat, k < j → (((k : Int) = t → gI0 l (k : Int) = 0) ∧ ((k : Int) ≠ t → 1 ≤ gI0 l (k : Int) ∧ gI0 l (k : Int) ≤ 5)))
    ⟨n, [], rfl, rfl, rfl, fun k hk => absurd hk (by omega)⟩ (fun j x B acc ed ⟨n', l, e1, e2, hl, hL⟩ => by
      obtain ⟨hj, rfl⟩ := rng_at ed
      subst e1; subst e2
      obtain ⟨q, n2, hq, tk⟩ := take_n n' 5 (by omega) (by omega)
      have z0 : (0 : Int) + (j : Int) = j := by omega
      refine ⟨[.kl ns, .una, bx n', .sc (.int d), .sc (.int t), .una, .una, .una, .una, .una, .una, .una, .una, .sc (.int (j : Int))], by rw [z0]; simp, .inl ⟨_, [.kl ns, .una, bx n2, .sc (.int d), .sc (.int t), .una, .una, .una, .una, .una, .una, .una, .una, .sc (.int (j : Int))], .sc (.int (if (j : Int) = t then 0 else 1 + q)), rfl, ?_, by simp; omega, n2, l ++ [if (j : Int) = t then 0 else 1 + (q : Int)], by simp, by simp [em], by simp [hl], fun k hk => ?_⟩⟩
      · have m0 : mulOk (1 + (q : Int)) 0 = true := mulOk_s (by omega) (by omega) (by omega) (by omega)
        have m1 : mulOk (1 + (q : Int)) 1 = true := mulOk_s (by omega) (by omega) (by omega) (by omega)
        by_cases c : (j : Int) = t
        · simp [ce_law_0, tk, c, m0]
        · simp [ce_law_0, tk, c, m1]
      · by_cases c : k < j
        · have : gI0 (l ++ [if (j : Int) = t then 0 else 1 + (q : Int)]) (k : Int) = gI0 l (k : Int) := by
            simp [gI0, List.getD_eq_getElem?_getD, List.getElem?_append, hl, c]
          rw [this]; exact hL k c
        · have ek : k = j := by omega
          subst ek
          have : gI0 (l ++ [if (k : Int) = t then 0 else 1 + (q : Int)]) (k : Int) = if (k : Int) = t then 0 else 1 + (q : Int) := by
            simp [gI0, List.getD_eq_getElem?_getD, List.getElem?_append, hl]
          rw [this]
          by_cases z : (k : Int) = t
          · simp [z]
          · simp [z]; omega)
  rw [rng_len] at hl hL
  exact ⟨n', l, e, hl, hL⟩
theorem full_c (ns : List Int) (n : Int) (t d : Nat) (L : D) (hd : d ≤ 1000) : compL (dgName 13) ct_law_2 ce_law_1 [13] (em eN (List.range d)) (St9 ns (bx n) (.sc (.int d)) (.sc (.int t)) L .una .una .una .una .una .una) [] = .ok (em eN ((List.range d).filter fun k => !decide (k = t)), St9 ns (bx n) (.sc (.int d)) (.sc (.int t)) L .una .una .una .una .una .una) := by
  have h := comp_filt' (dg := dgName 13) (dt := ct_law_2) (de := ce_law_1) (ws := [13]) (B := St9 ns (bx n) (.sc (.int d)) (.sc (.int t)) L .una .una .una .una .una .una) (g := eN) (fun k : Nat => eN k) (fun k => !decide (k = t)) (xs := List.range d) (acc := []) (by simp; omega) (fun k hk => by
    refine ⟨[.kl ns, .una, bx n, .sc (.int d), .sc (.int t), L, .una, .una, .una, .una, .una, .una, .una, .sc (.int (k : Int))], [.kl ns, .una, bx n, .sc (.int d), .sc (.int t), L, .una, .una, .una, .una, .una, .una, .una, .sc (.int (k : Int))], by simp, ?_, fun _ => ⟨_, by simp [ce_law_1]; rfl, by simp⟩, (fun _ => by simp)⟩
    by_cases c : k = t <;> simp [ct_law_2, c] <;> omega)
  rw [List.nil_append] at h
  exact h
theorem min_c (ns : List Int) (n : Int) (l s : List Int) (x3 x4 x6 : D) (hs : ∀ d ∈ s, 0 ≤ d ∧ d < l.length) (hl : s.length ≤ 1000) : compL (dgName 13) dYes ce_law_3 [13] (em eI s) (St9 ns (bx n) x3 x4 (.nd .tup (em eI l)) x6 (.nd .tup (em eI s)) .una .una .una .una) [] = .ok (em eI (s.map (gI0 l)), St9 ns (bx n) x3 x4 (.nd .tup (em eI l)) x6 (.nd .tup (em eI s)) .una .una .una .una) := by
  have h := comp_map' (dg := dgName 13) (de := ce_law_3) (ws := [13]) (B := St9 ns (bx n) x3 x4 (.nd .tup (em eI l)) x6 (.nd .tup (em eI s)) .una .una .una .una) (g := eI) (fun d => eI (gI0 l d)) (xs := s) (acc := []) (by simp; omega) (fun d hd => by
    obtain ⟨d0, d1⟩ := hs d hd
    have e := gI0_em l d d0 d1
    refine ⟨[.kl ns, .una, bx n, x3, x4, .nd .tup (em eI l), x6, .nd .tup (em eI s), .una, .una, .una, .una, .una, .sc (.int d)], [.kl ns, .una, bx n, x3, x4, .nd .tup (em eI l), x6, .nd .tup (em eI s), .una, .una, .una, .una, .una, .sc (.int d)], by simp, ?_, by simp⟩
    simp (disch := omega) [ce_law_3, d0, d1, e])
  rw [List.nil_append] at h
  rw [h]
  simp [em]
theorem bd_loop (l : List Int) (x0 x1 x2 x3 x4 x6 x7 x8 x9 x10 x11 x13 : D) : ∀ ds : List D, (∀ x ∈ ds, Bd l x) → loopD (dgName 12) lb_law_4 ds [x0, x1, x2, x3, x4, .nd .tup (em eI l), x6, x7, x8, x9, x10, x11, .una, x13] = .nx [x0, x1, x2, x3, x4, .nd .tup (em eI l), x6, x7, x8, x9, x10, x11, .una, x13]
  | [], _ => rfl
  | x :: ds, h => by
    have b := h x List.mem_cons_self
    have t := told_bad l x b.u b.h
    have u := b.u
    have q : fNe [.nd (.lst true) [.sc (.int 5)], .nd (.lst true) [.sc (.int 5)]] = some (.sc (.bl false)) := fNe_LI true true [5] [5]
    have hb : lb_law_4 [x0, x1, x2, x3, x4, .nd .tup (em eI l), x6, x7, x8, x9, x10, x11, x, x13] = .nx [x0, x1, x2, x3, x4, .nd .tup (em eI l), x6, x7, x8, x9, x10, x11, .una, x13] := by
      unfold lb_law_4
      simp (disch := omega) [-getElem?_pos, lenOk_s, divOk_s, mulOk_s, rgOk_s, rg1Ok_s, repOk_s, -ev_aCons, kv_aCons, ke_aCons, -ev_dAnd, kv_dAnd, ke_dAnd, -ev_dOr, kv_dOr, ke_dOr, -ev_dAndV, kv_dAndV, ke_dAndV, -ev_dOrV, kv_dOrV, ke_dOrV, -ev_dIf, kv_dIf, ke_dIf, -ev_dIfS, kv_dIfS, ke_dIfS, -ev_dMeth, kv_dMeth, ke_dMeth, -ev_dMut, kv_dMut, ke_dMut, -ev_dSl, kv_dSl, ke_dSl, ke_dSl1, ke_dSl2, t, u, q]
    rw [loop_cons (by simp; rfl), hb, lk_nx]
    exact bd_loop l x0 x1 x2 x3 x4 x6 x7 x8 x9 x10 x11 x13 ds fun y hy => h y (List.mem_cons_of_mem _ hy)
theorem take_S (d t m : Nat) (hm : m ≤ d) : (∀ k ∈ ((List.range d).filter fun k => !decide (k = t)).take m, k < d ∧ k ≠ t) ∧ (((List.range d).filter fun k => !decide (k = t)).take m).Pairwise (· < ·) ∧ (m + 1 ≤ d → (((List.range d).filter fun k => !decide (k = t)).take m).length = m) := by
  have sub := List.take_sublist m ((List.range d).filter fun k => !decide (k = t))
  refine ⟨fun k hk => ?_, (List.pairwise_lt_range.filter _).sublist sub, fun h => ?_⟩
  · have := List.mem_filter.mp (sub.subset hk)
    exact ⟨List.mem_range.mp this.1, by simpa using this.2⟩
  · rw [List.length_take]
    have : d - 1 ≤ ((List.range d).filter fun k => !decide (k = t)).length := by
      have e := List.length_eq_countP_add_countP (l := List.range d) (fun k => !decide (k = t))
      rw [List.length_range, List.countP_eq_length_filter] at e
      have e2 : List.countP (fun k => decide ¬(!decide (k = t)) = true) (List.range d) = List.count t (List.range d) := by
        unfold List.count
        congr 1; funext k; by_cases c : k = t <;> simp [c]
      have e3 : List.count t (List.range d) ≤ 1 := List.nodup_iff_count.mp List.nodup_range t
      omega
    omega
theorem if_st (x0 x1 x2 x3 x4 x5 x6 x7 x8 x9 x : D) (w : NW x) (o : OddT x) (c : x = t12 ∨ fEqX [x, t12] = some (.sc (.bl false))) : ∃ y, NW y ∧ (y = t123 ∨ y = .nd .tup [] ∨ ∃ n, tyD y = some n ∧ n ∈ ["NoneType", "bool", "str", "list", "dict"]) ∧ (dIfS (dTst (dOp fEqX (aCons ((true && (true && true)) && true) (rName 10) (aCons true (dTup (aCons (true && true) (rC (.int 1)) (aCons true (rC (.int 2)) aNil))) aNil)))) (dAsg (dTup (aCons (true && (true && true)) (rC (.int 1)) (aCons (true && true) (rC (.int 2)) (aCons true (rC (.str "3")) aNil)))) (dgName 10)) dNext) [x0, x1, x2, x3, x4, x5, x6, x7, x8, x9, x, .una, .una, .una] = .nx [x0, x1, x2, x3, x4, x5, x6, x7, x8, x9, y, .una, .una, .una] := by
  have u := w.u
  rcases c with rfl | c
  · refine ⟨t123, NW.of _ "tuple" rfl (by decide) rfl rfl, .inl rfl, ?_⟩
    have e : fEqX [t12, t12] = some (.sc (.bl true)) := by rw [fEqX_seq _ rfl]; exact fEq_of rfl rfl rfl
    simp [e]
  · refine ⟨x, w, ?_, by simp [c, u]⟩
    cases o with
    | nt _ n h hn => exact .inr (.inr ⟨n, h, hn⟩)
    | t0 => exact .inr (.inl rfl)
    | t2 =>
      have e : fEqX [t12, t12] = some (.sc (.bl true)) := by rw [fEqX_seq _ rfl]; exact fEq_of rfl rfl rfl
      rw [e] at c; cases c
    | t3 => exact .inl rfl
theorem cut_sub (S : List Int) (lo hi : Option Int) : ∃ T : List Int, cutD (em eI S) lo hi = em eI T ∧ T.length ≤ S.length ∧ ∀ d ∈ T, d ∈ S := by
  unfold cutD
  generalize HT.sIx (em eI S).length (em eI S).length hi - HT.sIx (em eI S).length 0 lo = b
  generalize HT.sIx (em eI S).length 0 lo = a
  exact ⟨(S.drop a).take b, by simp only [em, List.map_take, List.map_drop], by simp; omega, fun d hd => List.mem_of_mem_drop (List.mem_of_mem_take hd)⟩
noncomputable def rest9 : DenS := (dSeq (dAsg (dLst (aCons (true && ((true && (true && true)) && ((true && ((true && true) && true)) && ((false && (false && (false && true))) && ((false && (false && (false && true))) && true))))) (dFrz (rName 10)) (aCons ((true && (true && true)) && ((true && ((true && true) && true)) && ((false && (false && (false && true))) && ((false && (false && (false && true))) && true)))) (dCold (dOp fList (aCons true (rName 9) aNil))) (aCons ((true && ((true && true) && true)) && ((false && (false && (false && true))) && ((false && (false && (false && true))) && true))) (dSl (true && true) (rName 9) pNo (pAt (rC (.int 2)))) (aCons ((false && (false && (false && true))) && ((false && (false && (false && true))) && true)) (dOp fAdd (aCons ((true && true) && true) (rName 9) (aCons true (dTup (aCons true (rC (.int 1)) aNil)) aNil))) (aCons ((false && (false && (false && true))) && true) (dTup (aCons (false && (false && true)) (dFrz (rName 10)) (aCons (false && true) (dFrz (rName 7)) (aCons true (dFrz (rName 8)) aNil)))) (aCons true (dTup (aCons (false && (false && true)) (dFrz (rName 4)) (aCons (false && true) (dFrz (rName 10)) (aCons true (dFrz (rName 8)) aNil)))) aNil))))))) (dgName 11)) (dSeq (dAsg (dOp fAdd (aCons (((false && (true && (false && true))) && ((false && (false && (true && true))) && ((false && (false && ((true && (true && true)) && true))) && true))) && true) (rName 11) (aCons true (dLst (aCons ((false && (false && (true && true))) && ((false && (false && ((true && (true && true)) && true))) && true)) (dTup (aCons (true && (false && true)) (dFrz (rName 4)) (aCons (false && true) (dCold (dOp fList (aCons true (rName 7) aNil))) (aCons true (dFrz (rName 8)) aNil)))) (aCons ((false && (false && ((true && (true && true)) && true))) && true) (dTup (aCons (false && (true && true)) (dFrz (rName 4)) (aCons (true && true) (dFrz (rName 7)) (aCons true (rC (.int 0)) aNil)))) (aCons true (dTup (aCons (false && ((true && (true && true)) && true)) (dFrz (rName 4)) (aCons ((true && (true && true)) && true) (dFrz (rName 7)) (aCons true (dOp fSub (aCons (true && true) (rC (.int 0)) (aCons true (rName 8) aNil))) aNil)))) aNil)))) aNil))) (dgName 11)) (dSeq (dKill [10] (dAsg (dOp fAdd (aCons (((false && (((false && true) && ((true && (true && true)) && true)) && (false && true))) && ((false && (((true && (true && (true && true))) && ((false && true) && true)) && (false && true))) && true)) && true) (rName 11) (aCons true (dLst (aCons ((false && (((true && (true && (true && true))) && ((false && true) && true)) && (false && true))) && true) (dTup (aCons (((false && true) && ((true && (true && true)) && true)) && (false && true)) (dFrz (rName 4)) (aCons (false && true) (dOp fAdd (aCons ((true && (true && true)) && true) (dTup (aCons true (dFrz (rName 10)) aNil)) (aCons true (dSl (true && true) (rName 7) (pAt (rC (.int 1))) pNo) aNil))) (aCons true (dFrz (rName 8)) aNil)))) (aCons true (dTup (aCons (((true && (true && (true && true))) && ((false && true) && true)) && (false && true)) (dFrz (rName 4)) (aCons (false && true) (dOp fAdd (aCons ((false && true) && true) (dSl (true && (true && true)) (rName 7) pNo (pAt (dOp fNeg (aCons true (rC (.int 1)) aNil)))) (aCons true (dTup (aCons true (dFrz (rName 10)) aNil)) aNil))) (aCons true (dFrz (rName 8)) aNil)))) aNil))) aNil))) (dgName 11))) (dSeq (dAsg (dOp fAdd (aCons ((((true && true) && (false && (false && true))) && ((false && ((((true && true) && true) && (true && true)) && (false && true))) && ((false && ((true && ((false && true) && true)) && (false && true))) && true))) && true) (rName 11) (aCons true (dLst (aCons ((false && ((((true && true) && true) && (true && true)) && (false && true))) && ((false && ((true && ((false && true) && true)) && (false && true))) && true)) (dTup (aCons (false && (false && true)) (dOp fNeg (aCons true (rC (.int 1)) aNil)) (aCons (false && true) (dFrz (rName 7)) (aCons true (dFrz (rName 8)) aNil)))) (aCons ((false && ((true && ((false && true) && true)) && (false && true))) && true) (dTup (aCons ((((true && true) && true) && (true && true)) && (false && true)) (dFrz (rName 4)) (aCons (false && true) (dOp fAdd (aCons (true && true) (dTup (aCons true (dOp fNeg (aCons true (rC (.int 1)) aNil)) aNil)) (aCons true (rName 7) aNil))) (aCons true (dFrz (rName 8)) aNil)))) (aCons true (dTup (aCons ((true && ((false && true) && true)) && (false && true)) (dFrz (rName 4)) (aCons (false && true) (dOp fAdd (aCons ((false && true) && true) (rName 7) (aCons true (dTup (aCons true (dFrz (rName 3)) aNil)) aNil))) (aCons true (dFrz (rName 8)) aNil)))) aNil)))) aNil))) (dgName 11)) (dSeq (dAsg (dOp fAdd (aCons (((false && (false && ((true && (true && true)) && true))) && true) && true) (rName 11) (aCons true (dLst (aCons true (dTup (aCons (false && ((true && (true && true)) && true)) (dFrz (rName 4)) (aCons ((true && (true && true)) && true) (dFrz (rName 7)) (aCons true (dOp fPow (aCons (true && true) (rC (.int 10)) (aCons true (rC (.int 30)) aNil))) aNil)))) aNil)) aNil))) (dgName 11)) (dSeq (dKill [3, 4, 7, 8] (dAsg (dOp fAdd (aCons (((false && (false && (false && true))) && ((false && (true && (false && true))) && ((false && (false && (true && true))) && ((false && (false && (true && true))) && true)))) && true) (rName 11) (aCons true (dLst (aCons ((false && (true && (false && true))) && ((false && (false && (true && true))) && ((false && (false && (true && true))) && true))) (dTup (aCons (false && (false && true)) (dMove 3) (aCons (false && true) (dFrz (rName 7)) (aCons true (dFrz (rName 8)) aNil)))) (aCons ((false && (false && (true && true))) && ((false && (false && (true && true))) && true)) (dTup (aCons (true && (false && true)) (dFrz (rName 4)) (aCons (false && true) (dTup aNil) (aCons true (dFrz (rName 8)) aNil)))) (aCons ((false && (false && (true && true))) && true) (dTup (aCons (false && (true && true)) (dFrz (rName 4)) (aCons (true && true) (dFrz (rName 7)) (aCons true (rC (.str "1")) aNil)))) (aCons true (dTup (aCons (false && (true && true)) (dFrz (rName 4)) (aCons (true && true) (dFrz (rName 7)) (aCons true (rC .non) aNil)))) aNil))))) aNil))) (dgName 11))) (dSeq (dKill [11] (dForX 11 (dgName 12) lb_law_4)) (dKill [5, 9] (dIfS (dOr (dTst (dOp fNe (aCons (false && true) (dCall F_law_told (aCons (true && true) (rName 5) (aCons true (rName 9) aNil))) (aCons true (dCall F_law_led (aCons (true && true) (rName 5) (aCons true (rName 9) aNil))) aNil)))) (dTst (dOp fNe (aCons (false && true) (dCall F_led (aCons (true && true) (rName 5) (aCons true (rName 9) aNil))) (aCons true (dCall F_law_led (aCons (true && true) (rName 5) (aCons true (rName 9) aNil))) aNil))))) (dRet (rC (.bl false))) dNext)))))))))
set_option maxHeartbeats 2000000 in
theorem rest_ok (ns : List Int) (l s : List Int) (d t n : Int) (y : D) (yw : NW y) (yo : y = t123 ∨ y = .nd .tup [] ∨ ∃ n, tyD y = some n ∧ n ∈ ["NoneType", "bool", "str", "list", "dict"]) (hd : d = l.length) (hl : s.length ≤ 6) (hll : l.length ≤ 6) (hp : isPh l t s n = true) (h5 : ∀ e ∈ s, gI0 l e ≤ 5) (n5 : n ≤ 5) :
    rest9 [.kl ns, .una, .una, .sc (.int d), .sc (.int t), .nd .tup (em eI l), .una, .nd .tup (em eI s), .sc (.int n), phD t s n, y, .una, .una, .una] = .nx (St9 ns .una .una .una .una .una .una .una .una .una .una) := by
  have yu := yw.u
  have yf := yw.fz
  have yz : fz y = y := fz_of yf
  have c3 : cutD [D.sc (.int t), .nd .tup (em eI s), .sc (.int n)] none (some 2) = [D.sc (.int t), .nd .tup (em eI s)] := rfl
  have c1 : cutD (em eI s) (some 1) none = em eI (s.drop 1) := by rw [cut_from (by omega)]; simp [em, List.map_drop]
  obtain ⟨T2, c2, T2l, T2m⟩ := cut_sub s none (some (-1))
  have T2len : 1 ≤ T2.length := by
    have := congrArg List.length c2
    have s2 := (ph_of hp).s2
    simp [cutD, HT.sIx] at this
    omega
  have T1len : 1 ≤ (s.drop 1).length := by have s2 := (ph_of hp).s2; simp; omega
  have T1l : (s.drop 1).length ≤ s.length := by simp
  generalize s.drop 1 = T1 at c1 T1len T1l
  have fa : ∀ (u : List Int) (x : D), Fz x = true → Fzs (em eI u ++ [x]) = true := fun u x h => by rw [Fzs_all]; simp [h]
  have za : ∀ (u : List Int) (x : D), Fz x = true → fzs (em eI u ++ [x]) = em eI u ++ [x] := fun u x h => fzs_of (fa u x h)
  have f2 := fa T2 y yf
  have f3 := fa s (.sc (.int d)) rfl
  have z2 := za T2 y yf
  have z3 := za s (.sc (.int d)) rfl
  have f4 : Fzs (y :: em eI T1) = true := by show (Fz y && Fzs (em eI T1)) = true; rw [yf]; simp
  have z4 : fzs (y :: em eI T1) = y :: em eI T1 := fzs_of f4
  unfold rest9
  (first | refine' rtp_go ?h0 ?_ | refine' seq_go ?h0 ?_)
  (case h0 => ((simp (disch := omega) [-getElem?_pos, lenOk_s, divOk_s, mulOk_s, rgOk_s, rg1Ok_s, repOk_s, -ev_aCons, kv_aCons, ke_aCons, -ev_dAnd, kv_dAnd, ke_dAnd, -ev_dOr, kv_dOr, ke_dOr, -ev_dAndV, kv_dAndV, ke_dAndV, -ev_dOrV, kv_dOrV, ke_dOrV, -ev_dIf, kv_dIf, ke_dIf, -ev_dIfS, kv_dIfS, ke_dIfS, -ev_dMeth, kv_dMeth, ke_dMeth, -ev_dMut, kv_dMut, ke_dMut, -ev_dSl, kv_dSl, ke_dSl, ke_dSl1, ke_dSl2, yu, yf, c3]) <;> first | rfl | exact ⟨rfl, rfl⟩))
  (first | refine' rtp_go ?h0 ?_ | refine' seq_go ?h0 ?_)
  (case h0 => ((simp (disch := omega) [-getElem?_pos, lenOk_s, divOk_s, mulOk_s, rgOk_s, rg1Ok_s, repOk_s, -ev_aCons, kv_aCons, ke_aCons, -ev_dAnd, kv_dAnd, ke_dAnd, -ev_dOr, kv_dOr, ke_dOr, -ev_dAndV, kv_dAndV, ke_dAndV, -ev_dOrV, kv_dOrV, ke_dOrV, -ev_dIf, kv_dIf, ke_dIf, -ev_dIfS, kv_dIfS, ke_dIfS, -ev_dMeth, kv_dMeth, ke_dMeth, -ev_dMut, kv_dMut, ke_dMut, -ev_dSl, kv_dSl, ke_dSl, ke_dSl1, ke_dSl2, yu, yf, yz]) <;> first | rfl | exact ⟨rfl, rfl⟩))
  (first | refine' rtp_go ?h0 ?_ | refine' seq_go ?h0 ?_)
  (case h0 => ((simp (disch := omega) [-getElem?_pos, lenOk_s, divOk_s, mulOk_s, rgOk_s, rg1Ok_s, repOk_s, -ev_aCons, kv_aCons, ke_aCons, -ev_dAnd, kv_dAnd, ke_dAnd, -ev_dOr, kv_dOr, ke_dOr, -ev_dAndV, kv_dAndV, ke_dAndV, -ev_dOrV, kv_dOrV, ke_dOrV, -ev_dIf, kv_dIf, ke_dIf, -ev_dIfS, kv_dIfS, ke_dIfS, -ev_dMeth, kv_dMeth, ke_dMeth, -ev_dMut, kv_dMut, ke_dMut, -ev_dSl, kv_dSl, ke_dSl, ke_dSl1, ke_dSl2, yu, yf, yz, c1, c2, f2]) <;> first | rfl | exact ⟨rfl, rfl⟩))
  (first | refine' rtp_go ?h0 ?_ | refine' seq_go ?h0 ?_)
  (case h0 => ((simp (disch := omega) [-getElem?_pos, lenOk_s, divOk_s, mulOk_s, rgOk_s, rg1Ok_s, repOk_s, -ev_aCons, kv_aCons, ke_aCons, -ev_dAnd, kv_dAnd, ke_dAnd, -ev_dOr, kv_dOr, ke_dOr, -ev_dAndV, kv_dAndV, ke_dAndV, -ev_dOrV, kv_dOrV, ke_dOrV, -ev_dIf, kv_dIf, ke_dIf, -ev_dIfS, kv_dIfS, ke_dIfS, -ev_dMeth, kv_dMeth, ke_dMeth, -ev_dMut, kv_dMut, ke_dMut, -ev_dSl, kv_dSl, ke_dSl, ke_dSl1, ke_dSl2, yu, yf, yz, f2, f3, f4]) <;> first | rfl | exact ⟨rfl, rfl⟩))
  (first | refine' rtp_go ?h0 ?_ | refine' seq_go ?h0 ?_)
  (case h0 => ((simp (disch := omega) [-getElem?_pos, lenOk_s, divOk_s, mulOk_s, rgOk_s, rg1Ok_s, repOk_s, -ev_aCons, kv_aCons, ke_aCons, -ev_dAnd, kv_dAnd, ke_dAnd, -ev_dOr, kv_dOr, ke_dOr, -ev_dAndV, kv_dAndV, ke_dAndV, -ev_dOrV, kv_dOrV, ke_dOrV, -ev_dIf, kv_dIf, ke_dIf, -ev_dIfS, kv_dIfS, ke_dIfS, -ev_dMeth, kv_dMeth, ke_dMeth, -ev_dMut, kv_dMut, ke_dMut, -ev_dSl, kv_dSl, ke_dSl, ke_dSl1, ke_dSl2, yu, yf, yz, f2, f3, f4]) <;> first | rfl | exact ⟨rfl, rfl⟩))
  (first | refine' rtp_go ?h0 ?_ | refine' seq_go ?h0 ?_)
  (case h0 => ((simp (disch := omega) [-getElem?_pos, lenOk_s, divOk_s, mulOk_s, rgOk_s, rg1Ok_s, repOk_s, -ev_aCons, kv_aCons, ke_aCons, -ev_dAnd, kv_dAnd, ke_dAnd, -ev_dOr, kv_dOr, ke_dOr, -ev_dAndV, kv_dAndV, ke_dAndV, -ev_dOrV, kv_dOrV, ke_dOrV, -ev_dIf, kv_dIf, ke_dIf, -ev_dIfS, kv_dIfS, ke_dIfS, -ev_dMeth, kv_dMeth, ke_dMeth, -ev_dMut, kv_dMut, ke_dMut, -ev_dSl, kv_dSl, ke_dSl, ke_dSl1, ke_dSl2, yu, yf, yz, f2, f3, f4]) <;> first | rfl | exact ⟨rfl, rfl⟩))
  have ph := ph_of hp
  have g := (srcGo_iff l t n s (-1)).mp ph.go
  have t0 := ph.t0
  have tl := ph.tl
  have n0 := ph.n0
  have s2 := ph.s2
  have no : ∀ (t' n' : Int) (s' : List Int), (Ph l t' s' n' → (∀ e ∈ s', -1 + 1 ≤ e ∧ e ≤ (l.length : Int) - 1 ∧ e ≠ t' ∧ n' ≤ gI0 l e) → False) → isPh l t' s' n' = false := fun t' n' s' k => by
    cases z : isPh l t' s' n' with
    | false => rfl
    | true => exact (k (ph_of z) ((srcGo_iff l t' n' s' (-1)).mp (ph_of z).go).1).elim
  obtain ⟨e0, s', rfl⟩ : ∃ e0 s', s = e0 :: s' := by
    cases s with
    | nil => simp at s2
    | cons a b => exact ⟨a, b, rfl⟩
  generalize hS : e0 :: s' = s at *
  have he0 : e0 ∈ s := by rw [← hS]; exact List.mem_cons_self
  have S1 : ∀ u : D, Fz u = true → isUna u = false → True := fun _ _ _ => trivial
  have B : ∀ x ∈ [y, D.nd (.lst false) [D.sc (.int t), .nd .tup (em eI s), .sc (.int n)], .nd .tup [.sc (.int t), .nd .tup (em eI s)], .nd .tup [.sc (.int t), .nd .tup (em eI s), .sc (.int n), .sc (.int 1)], .nd .tup [y, .nd .tup (em eI s), .sc (.int n)],
      .nd .tup [.sc (.int t), y, .sc (.int n)], .nd .tup [.sc (.int t), .nd (.lst false) (em eI s), .sc (.int n)], .nd .tup [.sc (.int t), .nd .tup (em eI s), .sc (.int 0)], .nd .tup [.sc (.int t), .nd .tup (em eI s), .sc (.int (-n))],
      .nd .tup [.sc (.int t), .nd .tup (y :: em eI T1), .sc (.int n)], .nd .tup [.sc (.int t), .nd .tup (em eI T2 ++ [y]), .sc (.int n)], .nd .tup [.sc (.int (-1)), .nd .tup (em eI s), .sc (.int n)], .nd .tup [.sc (.int t), .nd .tup (.sc (.int (-1)) :: em eI s), .sc (.int n)],
      .nd .tup [.sc (.int t), .nd .tup (em eI (s ++ [d])), .sc (.int n)], .nd .tup [.sc (.int t), .nd .tup (em eI s), .sc (.int 1000000000000000000000000000000)], .nd .tup [.sc (.int d), .nd .tup (em eI s), .sc (.int n)], .nd .tup [.sc (.int t), .nd .tup [], .sc (.int n)],
      .nd .tup [.sc (.int t), .nd .tup (em eI s), .sc (.str (Str.ofString "1"))], .nd .tup [.sc (.int t), .nd .tup (em eI s), .sc .non]], Bd l x := by
    have fS : Fz (.nd .tup (em eI s)) = true := by simp
    intro x hx
    simp only [List.mem_cons, List.not_mem_nil, or_false] at hx
    rcases hx with rfl | rfl | rfl | rfl | rfl | rfl | rfl | rfl | rfl | rfl | rfl | rfl | rfl | rfl | rfl | rfl | rfl | rfl | rfl
    · rcases yo with rfl | rfl | ⟨k, h, hk⟩
      · exact bd_z l 1 (.sc (.int 2)) (.sc (.str "3")) (NW.of _ "str" rfl (by decide) rfl rfl) rfl rfl
      · exact bd_len l [] (by simp) (by simp)
      · exact bd_nt l _ yu k h hk
    · exact bd_nt l _ rfl "list" rfl (by decide)
    · exact bd_len l _ (by simp) (by simp)
    · exact bd_len l _ (by simp) (by simp)
    · exact bd_t l y _ _ yw fS rfl rfl rfl
    · refine bd_s l t n y t0 tl ph.tz n0 yf yu ?_
      rcases yo with rfl | rfl | ⟨k, h, hk⟩
      · exact src_bad l t n [1, 2] (.sc (.str "3")) [] (NW.of _ "str" rfl (by decide) rfl rfl) rfl (by simp) (by simp)
      · exact src_few l t n [] (by simp)
      · exact src_nt l t n y yu k h hk
    · exact bd_s l t n _ t0 tl ph.tz n0 (by simp) rfl (src_nt l t n _ rfl "list" rfl (by decide))
    · exact bd_ph l t 0 s (no t 0 s fun p _ => by have := p.n0; omega)
    · exact bd_ph l t (-n) s (no t (-n) s fun p _ => by have := p.n0; omega)
    · exact bd_s l t n _ t0 tl ph.tz n0 (by show Fzs _ = true; exact f4) rfl (src_bad l t n [] y (em eI T1) yw (by simp) (by rw [em_len]; have := T1len; simp; omega) (by rw [em_len]; simp; omega))
    · exact bd_s l t n _ t0 tl ph.tz n0 (by show Fzs _ = true; exact f2) rfl (src_bad l t n T2 y [] yw rfl (by have := T2len; simp; omega) (by simp; omega))
    · exact bd_ph l (-1) n s (no (-1) n s fun p _ => by have := p.t0; omega)
    · exact bd_ph l t n (-1 :: s) (no t n (-1 :: s) fun p q => by have := (q (-1) List.mem_cons_self).1; omega)
    · exact bd_ph l t n (s ++ [d]) (no t n (s ++ [d]) fun p q => by have := (q d (by simp)).2.1; omega)
    · exact bd_ph l t _ s (no t _ s fun p q => by have := (q e0 he0).2.2.2; have := h5 e0 he0; omega)
    · exact bd_ph l d n s (no d n s fun p q => by have := p.tl; omega)
    · exact bd_ph l t n [] (no t n [] fun p q => by have := p.s2; simp at this)
    · exact bd_z l t _ _ (NW.of _ "str" rfl (by decide) rfl rfl) fS rfl
    · exact bd_z l t _ _ (NW.of _ "NoneType" rfl (by decide) rfl rfl) fS rfl
  have tol := told_ph l t n s hp
  have lw := lawled_ok l t n s (by omega) (by omega) (by omega)
  have ld := led_ok l t n s hp
  have el := led_law hp
  have bl := fun x0 x1 x2 x3 x4 x6 x7 x8 x9 x10 x11 x13 => bd_loop l x0 x1 x2 x3 x4 x6 x7 x8 x9 x10 x11 x13 _ B
  have u1 : isUna (.nd .tup (em eI s)) = false := rfl
  (first | refine' rtp_go ?h0 ?_ | refine' seq_go ?h0 ?_)
  (case h0 => ((simp (disch := omega) [-getElem?_pos, lenOk_s, divOk_s, mulOk_s, rgOk_s, rg1Ok_s, repOk_s, -ev_aCons, kv_aCons, ke_aCons, -ev_dAnd, kv_dAnd, ke_dAnd, -ev_dOr, kv_dOr, ke_dOr, -ev_dAndV, kv_dAndV, ke_dAndV, -ev_dOrV, kv_dOrV, ke_dOrV, -ev_dIf, kv_dIf, ke_dIf, -ev_dIfS, kv_dIfS, ke_dIfS, -ev_dMeth, kv_dMeth, ke_dMeth, -ev_dMut, kv_dMut, ke_dMut, -ev_dSl, kv_dSl, ke_dSl, ke_dSl1, ke_dSl2, bl, yf, f2, f3, f4]) <;> first | rfl | exact ⟨rfl, rfl⟩))
  simp (disch := omega) [-getElem?_pos, lenOk_s, divOk_s, mulOk_s, rgOk_s, rg1Ok_s, repOk_s, -ev_aCons, kv_aCons, ke_aCons, -ev_dAnd, kv_dAnd, ke_dAnd, -ev_dOr, kv_dOr, ke_dOr, -ev_dAndV, kv_dAndV, ke_dAndV, -ev_dOrV, kv_dOrV, ke_dOrV, -ev_dIf, kv_dIf, ke_dIf, -ev_dIfS, kv_dIfS, ke_dIfS, -ev_dMeth, kv_dMeth, ke_dMeth, -ev_dMut, kv_dMut, ke_dMut, -ev_dSl, kv_dSl, ke_dSl, ke_dSl1, ke_dSl2, tol, lw, ld, el]
theorem turn_ok (ns : List Int) (k : Nat) (hk : k < 100) : lb_law_5 [.kl ns, .sc (.int k), .una, .una, .una, .una, .una, .una, .una, .una, .una, .una, .una, .una] = .nx (St9 ns .una .una .una .una .una .una .una .una .una .una) := by
  obtain ⟨n0, eb⟩ := box_ok ns k hk
  obtain ⟨q, n1, hq, t4⟩ := take_n n0 4 (by omega) (by omega)
  have d1 : (3 : Int) + (q : Int) = ((3 + q : Nat) : Int) := by omega
  have h1 : 3 ≤ 3 + q := by omega
  have h2 : 3 + q ≤ 6 := by omega
  generalize 3 + q = d at d1 h1 h2
  obtain ⟨t, n2, ht, td⟩ := take_n n1 d (by omega) (by omega)
  have ht' : t < d := by omega
  obtain ⟨n3, l, lc, ll, lL⟩ := lay_c ns n2 t d (by omega)
  have fc := full_c ns n3 t d (.nd .tup (em eI l)) (by omega)
  have re := rng_em d
  obtain ⟨m, n4, hm, tm⟩ := take_n n3 ((d : Int) - 2) (by omega) (by omega)
  have m1 : (2 : Int) + (m : Int) = ((2 + m : Nat) : Int) := by omega
  have m2 : 2 + m + 1 ≤ d := by omega
  have m3 : 2 ≤ 2 + m := by omega
  generalize 2 + m = m' at m1 m2 m3
  obtain ⟨sM, sP, sL⟩ := take_S d t m' (by omega)
  have sL := sL m2
  have cS : cutD (em eN ((List.range d).filter fun k => !decide (k = t))) none (some (m' : Int)) = em eI (nI (((List.range d).filter fun k => !decide (k = t)).take m')) := by
    rw [cut_to (by omega), nI_em]; simp [em, List.map_take]
  generalize ((List.range d).filter fun k => !decide (k = t)).take m' = S at sM sP sL cS
  have hs : ∀ e ∈ nI S, 0 ≤ e ∧ e < l.length := by
    intro e he
    obtain ⟨j, hj, rfl⟩ := List.mem_map.mp he
    have := (sM j hj).1
    omega
  have sL' : (nI S).length = m' := by simp [nI, sL]
  have mc := min_c ns n4 l (nI S) (.sc (.int d)) (.sc (.int t)) .una hs (by omega)
  have ne : (nI S).map (gI0 l) ≠ [] := by
    intro z
    have := congrArg List.length z
    simp [sL'] at this; omega
  obtain ⟨mm, ml⟩ := minL_mem ne
  have m5 : 1 ≤ minL ((nI S).map (gI0 l)) ∧ minL ((nI S).map (gI0 l)) ≤ 5 := by
    obtain ⟨e, he, e2⟩ := List.mem_map.mp mm
    obtain ⟨j, hj, rfl⟩ := List.mem_map.mp he
    have := (lL j (sM j hj).1).2 (by have := (sM j hj).2; omega)
    rw [← e2]; exact this
  obtain ⟨r, n5, hr, tr⟩ := take_n n4 (minL ((nI S).map (gI0 l))) (by omega) (by omega)
  have nb : ((nI S).map (gI0 l)).isEmpty = false := by
    cases z : (nI S).map (gI0 l) with
    | nil => exact absurd z ne
    | cons _ _ => rfl
  have em2 : em eI ((nI S).map (gI0 l)) = em eI ((nI S).map (gI0 l)) := rfl
  have h5 : ∀ e ∈ nI S, gI0 l e ≤ 5 := fun e he => by
    obtain ⟨j, hj, rfl⟩ := List.mem_map.mp he
    exact ((lL j (sM j hj).1).2 (by have := (sM j hj).2; omega)).2
  have hp : isPh l (t : Int) (nI S) (1 + (r : Int)) = true := by
    have sg : srcGo l (t : Int) (1 + (r : Int)) (-1) (nI S) = true := (srcGo_iff l t (1 + (r : Int)) (nI S) (-1)).mpr ⟨fun e he => by
      have a := hs e he
      have b := ml (gI0 l e) (List.mem_map_of_mem he)
      obtain ⟨j, hj, rfl⟩ := List.mem_map.mp he
      have c := (sM j hj).2
      exact ⟨by omega, by omega, by omega, by omega⟩, by
        unfold nI
        exact List.pairwise_map.mpr (sP.imp fun h => by omega)⟩
    have tz := (lL t ht').1 rfl
    unfold isPh
    simp only [Bool.and_eq_true, decide_eq_true_eq]
    exact ⟨⟨⟨⟨⟨by omega, by omega⟩, tz⟩, by omega⟩, by omega⟩, sg⟩
  unfold lb_law_5
  (first | refine' rtp_go ?h0 ?_ | refine' seq_go ?h0 ?_)
  (case h0 => ((simp (disch := omega) [-getElem?_pos, lenOk_s, divOk_s, mulOk_s, rgOk_s, rg1Ok_s, repOk_s, -ev_aCons, kv_aCons, ke_aCons, -ev_dAnd, kv_dAnd, ke_dAnd, -ev_dOr, kv_dOr, ke_dOr, -ev_dAndV, kv_dAndV, ke_dAndV, -ev_dOrV, kv_dOrV, ke_dOrV, -ev_dIf, kv_dIf, ke_dIf, -ev_dIfS, kv_dIfS, ke_dIfS, -ev_dMeth, kv_dMeth, ke_dMeth, -ev_dMut, kv_dMut, ke_dMut, -ev_dSl, kv_dSl, ke_dSl, ke_dSl1, ke_dSl2, eb]) <;> first | rfl | exact ⟨rfl, rfl⟩))
  (first | refine' rtp_go ?h0 ?_ | refine' seq_go ?h0 ?_)
  (case h0 => ((simp (disch := omega) [-getElem?_pos, lenOk_s, divOk_s, mulOk_s, rgOk_s, rg1Ok_s, repOk_s, -ev_aCons, kv_aCons, ke_aCons, -ev_dAnd, kv_dAnd, ke_dAnd, -ev_dOr, kv_dOr, ke_dOr, -ev_dAndV, kv_dAndV, ke_dAndV, -ev_dOrV, kv_dOrV, ke_dOrV, -ev_dIf, kv_dIf, ke_dIf, -ev_dIfS, kv_dIfS, ke_dIfS, -ev_dMeth, kv_dMeth, ke_dMeth, -ev_dMut, kv_dMut, ke_dMut, -ev_dSl, kv_dSl, ke_dSl, ke_dSl1, ke_dSl2, t4, d1]) <;> first | rfl | exact ⟨rfl, rfl⟩))
  (first | refine' rtp_go ?h0 ?_ | refine' seq_go ?h0 ?_)
  (case h0 => ((simp (disch := omega) [-getElem?_pos, lenOk_s, divOk_s, mulOk_s, rgOk_s, rg1Ok_s, repOk_s, -ev_aCons, kv_aCons, ke_aCons, -ev_dAnd, kv_dAnd, ke_dAnd, -ev_dOr, kv_dOr, ke_dOr, -ev_dAndV, kv_dAndV, ke_dAndV, -ev_dOrV, kv_dOrV, ke_dOrV, -ev_dIf, kv_dIf, ke_dIf, -ev_dIfS, kv_dIfS, ke_dIfS, -ev_dMeth, kv_dMeth, ke_dMeth, -ev_dMut, kv_dMut, ke_dMut, -ev_dSl, kv_dSl, ke_dSl, ke_dSl1, ke_dSl2, td]) <;> first | rfl | exact ⟨rfl, rfl⟩))
  (first | refine' rtp_go ?h0 ?_ | refine' seq_go ?h0 ?_)
  (case h0 => ((simp (disch := omega) [-getElem?_pos, lenOk_s, divOk_s, mulOk_s, rgOk_s, rg1Ok_s, repOk_s, -ev_aCons, kv_aCons, ke_aCons, -ev_dAnd, kv_dAnd, ke_dAnd, -ev_dOr, kv_dOr, ke_dOr, -ev_dAndV, kv_dAndV, ke_dAndV, -ev_dOrV, kv_dOrV, ke_dOrV, -ev_dIf, kv_dIf, ke_dIf, -ev_dIfS, kv_dIfS, ke_dIfS, -ev_dMeth, kv_dMeth, ke_dMeth, -ev_dMut, kv_dMut, ke_dMut, -ev_dSl, kv_dSl, ke_dSl, ke_dSl1, ke_dSl2, lc, ll]) <;> first | rfl | exact ⟨rfl, rfl⟩))
  (first | refine' rtp_go ?h0 ?_ | refine' seq_go ?h0 ?_)
  (case h0 => ((simp (disch := omega) [-getElem?_pos, lenOk_s, divOk_s, mulOk_s, rgOk_s, rg1Ok_s, repOk_s, -ev_aCons, kv_aCons, ke_aCons, -ev_dAnd, kv_dAnd, ke_dAnd, -ev_dOr, kv_dOr, ke_dOr, -ev_dAndV, kv_dAndV, ke_dAndV, -ev_dOrV, kv_dOrV, ke_dOrV, -ev_dIf, kv_dIf, ke_dIf, -ev_dIfS, kv_dIfS, ke_dIfS, -ev_dMeth, kv_dMeth, ke_dMeth, -ev_dMut, kv_dMut, ke_dMut, -ev_dSl, kv_dSl, ke_dSl, ke_dSl1, ke_dSl2, re, fc]) <;> first | rfl | exact ⟨rfl, rfl⟩))
  (first | refine' rtp_go ?h0 ?_ | refine' seq_go ?h0 ?_)
  (case h0 => ((simp (disch := omega) [-getElem?_pos, lenOk_s, divOk_s, mulOk_s, rgOk_s, rg1Ok_s, repOk_s, -ev_aCons, kv_aCons, ke_aCons, -ev_dAnd, kv_dAnd, ke_dAnd, -ev_dOr, kv_dOr, ke_dOr, -ev_dAndV, kv_dAndV, ke_dAndV, -ev_dOrV, kv_dOrV, ke_dOrV, -ev_dIf, kv_dIf, ke_dIf, -ev_dIfS, kv_dIfS, ke_dIfS, -ev_dMeth, kv_dMeth, ke_dMeth, -ev_dMut, kv_dMut, ke_dMut, -ev_dSl, kv_dSl, ke_dSl, ke_dSl1, ke_dSl2, tm, m1, cS]) <;> first | rfl | exact ⟨rfl, rfl⟩))
  (first | refine' rtp_go ?h0 ?_ | refine' seq_go ?h0 ?_)
  (case h0 => ((simp (disch := omega) [-getElem?_pos, lenOk_s, divOk_s, mulOk_s, rgOk_s, rg1Ok_s, repOk_s, -ev_aCons, kv_aCons, ke_aCons, -ev_dAnd, kv_dAnd, ke_dAnd, -ev_dOr, kv_dOr, ke_dOr, -ev_dAndV, kv_dAndV, ke_dAndV, -ev_dOrV, kv_dOrV, ke_dOrV, -ev_dIf, kv_dIf, ke_dIf, -ev_dIfS, kv_dIfS, ke_dIfS, -ev_dMeth, kv_dMeth, ke_dMeth, -ev_dMut, kv_dMut, ke_dMut, -ev_dSl, kv_dSl, ke_dSl, ke_dSl1, ke_dSl2, mc, tr, nb]) <;> first | rfl | exact ⟨rfl, rfl⟩))
  (first | refine' rtp_go ?h0 ?_ | refine' seq_go ?h0 ?_)
  (case h0 => ((simp (disch := omega) [-getElem?_pos, lenOk_s, divOk_s, mulOk_s, rgOk_s, rg1Ok_s, repOk_s, -ev_aCons, kv_aCons, ke_aCons, -ev_dAnd, kv_dAnd, ke_dAnd, -ev_dOr, kv_dOr, ke_dOr, -ev_dAndV, kv_dAndV, ke_dAndV, -ev_dOrV, kv_dOrV, ke_dOrV, -ev_dIf, kv_dIf, ke_dIf, -ev_dIfS, kv_dIfS, ke_dIfS, -ev_dMeth, kv_dMeth, ke_dMeth, -ev_dMut, kv_dMut, ke_dMut, -ev_dSl, kv_dSl, ke_dSl, ke_dSl1, ke_dSl2]) <;> first | rfl | exact ⟨rfl, rfl⟩))
  obtain ⟨x, n6, eo, xw, xo, xc⟩ := odd_ok n5
  (first | refine' rtp_go ?h0 ?_ | refine' seq_go ?h0 ?_)
  (case h0 => ((simp (disch := omega) [-getElem?_pos, lenOk_s, divOk_s, mulOk_s, rgOk_s, rg1Ok_s, repOk_s, -ev_aCons, kv_aCons, ke_aCons, -ev_dAnd, kv_dAnd, ke_dAnd, -ev_dOr, kv_dOr, ke_dOr, -ev_dAndV, kv_dAndV, ke_dAndV, -ev_dOrV, kv_dOrV, ke_dOrV, -ev_dIf, kv_dIf, ke_dIf, -ev_dIfS, kv_dIfS, ke_dIfS, -ev_dMeth, kv_dMeth, ke_dMeth, -ev_dMut, kv_dMut, ke_dMut, -ev_dSl, kv_dSl, ke_dSl, ke_dSl1, ke_dSl2, eo, xw.u, xw.fz]) <;> first | rfl | exact ⟨rfl, rfl⟩))
  obtain ⟨y, yw, yo, ey⟩ := if_st (.kl ns) .una .una (.sc (.int d)) (.sc (.int t)) (.nd .tup (em eI l)) .una (.nd .tup (em eI (nI S))) (.sc (.int (1 + (r : Int)))) (phD t (nI S) (1 + (r : Int))) x xw xo xc
  (first | refine' rtp_go ey ?_ | refine' seq_go ey ?_)
  exact rest_ok ns l (nI S) d t (1 + (r : Int)) y yw yo (by omega) (by omega) (by omega) hp h5 (by omega)
theorem law_pure (ns : List Int) (h : ns.length ≤ 63) : ∃ r, F_law [.kl ns] = .ok (.sc (.bl true), r) := by
  obtain ⟨z, hz, ez⟩ : ∃ z : Nat, z ≤ 100 ∧ (if 1 < (if (3 : Int) < ns.length then (3 : Int) else ns.length) then (if (3 : Int) < ns.length then (3 : Int) else ns.length) else 1) = (z : Int) := ⟨max 1 (min ns.length 3), by omega, by split <;> split <;> omega⟩
  obtain ⟨_, eL, -⟩ := rng_inv (i := 1) (b := lb_law_5) (lo := 0) (n := z) (s0 := ()) (fun _ => St9 ns .una .una .una .una .una .una .una .una .una .una) (fun _ _ => True) trivial (by simp) (fun j _ hj _ => ⟨(), .inl (by simpa using turn_ok ns j (by omega)), trivial⟩)
  refine ⟨[.kl ns], ?_⟩
  refine' f_of (b := dn_law) ?_ rfl
  simp only [List.replicate_succ, List.replicate_zero, List.cons_append, List.nil_append, Nat.reduceSub, Nat.reduceAdd]
  unfold dn_law
  (first | refine' rtp_go ?h0 ?_ | refine' seq_go ?h0 ?_)
  (case h0 => ((simp (disch := omega) [-getElem?_pos, lenOk_s, divOk_s, mulOk_s, rgOk_s, rg1Ok_s, repOk_s, -ev_aCons, kv_aCons, ke_aCons, -ev_dAnd, kv_dAnd, ke_dAnd, -ev_dOr, kv_dOr, ke_dOr, -ev_dAndV, kv_dAndV, ke_dAndV, -ev_dOrV, kv_dOrV, ke_dOrV, -ev_dIf, kv_dIf, ke_dIf, -ev_dIfS, kv_dIfS, ke_dIfS, -ev_dMeth, kv_dMeth, ke_dMeth, -ev_dMut, kv_dMut, ke_dMut, -ev_dSl, kv_dSl, ke_dSl, ke_dSl1, ke_dSl2, ez, eL]) <;> first | rfl | exact ⟨rfl, rfl⟩))
  refine' rtp_ret ?h0 ?hd ?_
  (case h0 => ((simp (disch := omega) [-getElem?_pos, lenOk_s, divOk_s, mulOk_s, rgOk_s, rg1Ok_s, repOk_s, -ev_aCons, kv_aCons, ke_aCons, -ev_dAnd, kv_dAnd, ke_dAnd, -ev_dOr, kv_dOr, ke_dOr, -ev_dAndV, kv_dAndV, ke_dAndV, -ev_dOrV, kv_dOrV, ke_dOrV, -ev_dIf, kv_dIf, ke_dIf, -ev_dIfS, kv_dIfS, ke_dIfS, -ev_dMeth, kv_dMeth, ke_dMeth, -ev_dMut, kv_dMut, ke_dMut, -ev_dSl, kv_dSl, ke_dSl, ke_dSl1, ke_dSl2]) <;> first | rfl | exact ⟨rfl, rfl⟩))
  (case hd => first | rfl | simp [])
  simp

end K59

end
section
set_option maxRecDepth 100000
namespace K59
open PySem PySem.Spec PyProof.Rows L2 DL
section
variable {K : PySem.W.Frag} {C P : Addr} {t c : Value} {b : Bool}
theorem k_clsC (h2 : PySem.W.isClsIn K P = true) (h3 : PySem.W.typeIn K (.ref P) = some (.type "type")) (h4 : PySem.W.subIn K t (.ref P) = some b) : PySem.W.kitCls K t (.ref P) = some b := by
  have h2' : (PySem.W.clsIn K P).isSome = true := h2
  have e2 : ((PySem.W.clsIn K P).isSome && PySem.W.typeIn K (.ref P) == some (.type "type")) = true := by rw [h2', h3] <;> rfl
  show (if ((PySem.W.clsIn K P).isSome && PySem.W.typeIn K (.ref P) == some (.type "type")) = true then PySem.W.subIn K t (.ref P) else none) = some b
  rw [if_pos e2]; exact h4
theorem k_exm (h1 : PySem.W.subIn K (.ref P) (.type "BaseException") = some true) (h2 : PySem.W.isClsIn K P = true) (h3 : PySem.W.typeIn K (.ref P) = some (.type "type")) (h4 : PySem.W.subIn K t (.ref P) = some b) : PySem.W.exmOne K t (.ref P) = some b := by
  have e1 : (PySem.W.subIn K (.ref P) (.type "BaseException") == some true) = true := by rw [h1] <;> rfl
  show (if (PySem.W.subIn K (.ref P) (.type "BaseException") == some true) = true then PySem.W.kitCls K t (.ref P) else none) = some b
  rw [if_pos e1]; exact k_clsC h2 h3 h4
theorem k_kit0 : PySem.W.kitOne K (.ref C) (.ref C) = some true := by
  show (if _ then some true else _) = some true
  rw [if_pos (beq_self_eq_true (Value.ref C))]
theorem k_kitC (h0 : C ≠ P) (h2 : PySem.W.isClsIn K P = true) (h3 : PySem.W.typeIn K (.ref P) = some (.type "type")) (h4 : PySem.W.subIn K (.ref C) (.ref P) = some b) : PySem.W.kitOne K (.ref C) (.ref P) = some b := by
  show (if _ then some true else _) = some b
  rw [if_neg (fun z => h0 (by have := beq_iff_eq.mp z; cases this; rfl))]
  exact k_clsC h2 h3 h4
theorem k_kitV (h4 : PySem.W.subIn K (.ref C) (.type "ValueError") = some b) : PySem.W.kitOne K (.ref C) (.type "ValueError") = some b := by
  show (if _ then some true else _) = some b
  rw [if_neg (fun z => by have := beq_iff_eq.mp z; cases this)]
  show (if PySem.W.kitMeta "ValueError" = true then PySem.W.subIn K (.ref C) (.type "ValueError") else none) = some b
  rw [if_pos (by decide +kernel)]; exact h4
theorem k_any0 : PySem.W.kitAny K t [] = some false := rfl
theorem k_anyF {r : List Value} (h : PySem.W.kitOne K t c = some false) (h2 : PySem.W.kitAny K t r = some b) : PySem.W.kitAny K t (c :: r) = some b := by
  unfold PySem.W.kitAny; rw [h]; exact h2
theorem k_anyT {r : List Value} (h : PySem.W.kitOne K t c = some true) : PySem.W.kitAny K t (c :: r) = some true := by
  unfold PySem.W.kitAny; rw [h]
end
set_option maxHeartbeats 0 in
theorem all_mk {l : PySem.W.OpenLaw} {w : World} {K : PySem.W.Frag} {h : Heap} {mg : Str → Option Value} {fa : Addr} (X : K.In h) (G : h.Ns mainGlobals mg) (hfa : mg "law" = some (.ref fa))
    {f9 f10 f11 f4 f5 f6 f7 f8 f13 f14 f15 f12 f16 : Addr} {od9 an9 od10 an10 od11 an11 od4 an4 od5 an5 od6 an6 od7 an7 od8 an8 od13 an13 od14 an14 od15 an15 od12 an12 od16 an16 : Option Addr} {sl9 sl10 sl11 sl4 sl5 sl6 sl7 sl8 sl13 sl14 sl15 sl12 sl16 : Array (Option Value)} {oc9 kV9 dc9 pm9 cd9 ct9 oc10 kV10 dc10 pm10 cd10 ct10 oc11 kV11 dc11 pm11 cd11 ct11 oc4 kV4 dc4 pm4 cd4 ct4 oc5 kV5 dc5 pm5 cd5 ct5 oc6 kV6 dc6 pm6 cd6 ct6 oc7 kV7 dc7 pm7 cd7 ct7 oc8 kV8 dc8 pm8 cd8 ct8 oc13 kV13 dc13 pm13 cd13 ct13 oc14 kV14 dc14 pm14 cd14 ct14 oc15 kV15 dc15 pm15 cd15 ct15 oc12 kV12 dc12 pm12 cd12 ct12 oc16 kV16 dc16 pm16 cd16 ct16 : Value}
    {C13 C5 C3 C8 C6 C4 C1 C10 C7 C12 C2 C11 C0 C9 : Addr}
    (aC13 : PySem.W.nsIn K mainGlobals "Bare" = some (some (.ref C13)))
    (aC5 : PySem.W.nsIn K mainGlobals "NoDrive" = some (some (.ref C5)))
    (aC3 : PySem.W.nsIn K mainGlobals "NoDrives" = some (some (.ref C3)))
    (aC8 : PySem.W.nsIn K mainGlobals "NoLine" = some (some (.ref C8)))
    (aC6 : PySem.W.nsIn K mainGlobals "NoPhase" = some (some (.ref C6)))
    (aC4 : PySem.W.nsIn K mainGlobals "NoPlace" = some (some (.ref C4)))
    (aC1 : PySem.W.nsIn K mainGlobals "NoRoom" = some (some (.ref C1)))
    (aC10 : PySem.W.nsIn K mainGlobals "NoRow" = some (some (.ref C10)))
    (aC7 : PySem.W.nsIn K mainGlobals "NoShelf" = some (some (.ref C7)))
    (aC12 : PySem.W.nsIn K mainGlobals "NoTrace" = some (some (.ref C12)))
    (aC2 : PySem.W.nsIn K mainGlobals "NoWidth" = some (some (.ref C2)))
    (aC11 : PySem.W.nsIn K mainGlobals "NotRising" = some (some (.ref C11)))
    (aC0 : PySem.W.nsIn K mainGlobals "PourError" = some (some (.ref C0)))
    (aC9 : PySem.W.nsIn K mainGlobals "TooMany" = some (some (.ref C9)))
    (xq6 : PySem.W.excIn K C6 veB "ValueError.__new__" = true) (xk6 : PySem.W.keepIn K (.ref C6) = true) (xs6 : PySem.W.subIn K (.ref C6) (.type "BaseException") = some true) (xt6 : PySem.W.typeIn K (.ref C6) = some (.type "type"))
    (y1_6 : PySem.W.findIn K (.ref C6) "__getattribute__" = some (some (.builtin "BaseException.__getattribute__"))) (y2_6 : PySem.W.findIn K (.ref C6) "__getattr__" = some none) (y3_6 : PySem.W.hasDictIn K C6 = true) (y4_6 : PySem.W.findIn K (.ref C6) "__class__" = some (some (.builtin "object.__class__"))) (y5_6 : PySem.W.mroIn K C6 (.type "object") = some true)
    (w1 : PySem.W.specialIn K (.builtin "object.__class__") "__get__" = some (some (.builtin "getset_descriptor.__get__"))) (w2 : PySem.W.takesIn K (.builtin "object.__class__") = some true)
    (em_NoPhase_PourError : PySem.W.exmOne K (.ref C6) (.ref C0) = some true)
    (ki_NoPhase_Bare : PySem.W.kitOne K (.ref C6) (.ref C13) = some false)
    (ki_NoPhase_NoDrive : PySem.W.kitOne K (.ref C6) (.ref C5) = some false)
    (ki_NoPhase_NoDrives : PySem.W.kitOne K (.ref C6) (.ref C3) = some false)
    (ki_NoPhase_NoLine : PySem.W.kitOne K (.ref C6) (.ref C8) = some false)
    (ki_NoPhase_NoPhase : PySem.W.kitOne K (.ref C6) (.ref C6) = some true)
    (ki_NoPhase_NoPlace : PySem.W.kitOne K (.ref C6) (.ref C4) = some false)
    (ki_NoPhase_NoRoom : PySem.W.kitOne K (.ref C6) (.ref C1) = some false)
    (ki_NoPhase_NoRow : PySem.W.kitOne K (.ref C6) (.ref C10) = some false)
    (ki_NoPhase_NoShelf : PySem.W.kitOne K (.ref C6) (.ref C7) = some false)
    (ki_NoPhase_NoTrace : PySem.W.kitOne K (.ref C6) (.ref C12) = some false)
    (ki_NoPhase_NoWidth : PySem.W.kitOne K (.ref C6) (.ref C2) = some false)
    (ki_NoPhase_NotRising : PySem.W.kitOne K (.ref C6) (.ref C11) = some false)
    (ki_NoPhase_PourError : PySem.W.kitOne K (.ref C6) (.ref C0) = some true)
    (ki_NoPhase_TooMany : PySem.W.kitOne K (.ref C6) (.ref C9) = some false)
    (kv_NoPhase : PySem.W.kitOne K (.ref C6) (.type "ValueError") = some true)
    (a9 : PySem.W.nsIn K mainGlobals "_law_box" = some (some (.ref f9))) (l9 : K.lookup f9 = some ⟨oc9, od9, .func (PySem.W.fnOf "_law_box" "_law_box" (defArgs s_9) (defBody s_9) (defScope s_9) .none kV9 dc9 pm9 an9 cd9 ct9), sl9⟩) (c9 : PySem.W.codeIn K cd9 "_law_box" = true) (k9 : PySem.W.keepIn K (.ref f9) = true)
    (a10 : PySem.W.nsIn K mainGlobals "_law_take" = some (some (.ref f10))) (l10 : K.lookup f10 = some ⟨oc10, od10, .func (PySem.W.fnOf "_law_take" "_law_take" (defArgs s_10) (defBody s_10) (defScope s_10) .none kV10 dc10 pm10 an10 cd10 ct10), sl10⟩) (c10 : PySem.W.codeIn K cd10 "_law_take" = true) (k10 : PySem.W.keepIn K (.ref f10) = true)
    (a11 : PySem.W.nsIn K mainGlobals "_law_odd" = some (some (.ref f11))) (l11 : K.lookup f11 = some ⟨oc11, od11, .func (PySem.W.fnOf "_law_odd" "_law_odd" (defArgs s_11) (defBody s_11) (defScope s_11) .none kV11 dc11 pm11 an11 cd11 ct11), sl11⟩) (c11 : PySem.W.codeIn K cd11 "_law_odd" = true) (k11 : PySem.W.keepIn K (.ref f11) = true)
    (a4 : PySem.W.nsIn K mainGlobals "is_whole" = some (some (.ref f4))) (l4 : K.lookup f4 = some ⟨oc4, od4, .func (PySem.W.fnOf "is_whole" "is_whole" (defArgs s_4) (defBody s_4) (defScope s_4) .none kV4 dc4 pm4 an4 cd4 ct4), sl4⟩) (c4 : PySem.W.codeIn K cd4 "is_whole" = true) (k4 : PySem.W.keepIn K (.ref f4) = true)
    (a5 : PySem.W.nsIn K mainGlobals "is_between" = some (some (.ref f5))) (l5 : K.lookup f5 = some ⟨oc5, od5, .func (PySem.W.fnOf "is_between" "is_between" (defArgs s_5) (defBody s_5) (defScope s_5) .none kV5 dc5 pm5 an5 cd5 ct5), sl5⟩) (c5 : PySem.W.codeIn K cd5 "is_between" = true) (k5 : PySem.W.keepIn K (.ref f5) = true)
    (a6 : PySem.W.nsIn K mainGlobals "are_sources" = some (some (.ref f6))) (l6 : K.lookup f6 = some ⟨oc6, od6, .func (PySem.W.fnOf "are_sources" "are_sources" (defArgs s_6) (defBody s_6) (defScope s_6) .none kV6 dc6 pm6 an6 cd6 ct6), sl6⟩) (c6 : PySem.W.codeIn K cd6 "are_sources" = true) (k6 : PySem.W.keepIn K (.ref f6) = true)
    (a7 : PySem.W.nsIn K mainGlobals "is_phase" = some (some (.ref f7))) (l7 : K.lookup f7 = some ⟨oc7, od7, .func (PySem.W.fnOf "is_phase" "is_phase" (defArgs s_7) (defBody s_7) (defScope s_7) .none kV7 dc7 pm7 an7 cd7 ct7), sl7⟩) (c7 : PySem.W.codeIn K cd7 "is_phase" = true) (k7 : PySem.W.keepIn K (.ref f7) = true)
    (a8 : PySem.W.nsIn K mainGlobals "led" = some (some (.ref f8))) (l8 : K.lookup f8 = some ⟨oc8, od8, .func (PySem.W.fnOf "led" "led" (defArgs s_8) (defBody s_8) (defScope s_8) .none kV8 dc8 pm8 an8 cd8 ct8), sl8⟩) (c8 : PySem.W.codeIn K cd8 "led" = true) (k8 : PySem.W.keepIn K (.ref f8) = true)
    (a13 : PySem.W.nsIn K mainGlobals "_law_classes" = some (some (.ref f13))) (l13 : K.lookup f13 = some ⟨oc13, od13, .func (PySem.W.fnOf "_law_classes" "_law_classes" (defArgs s_13) (defBody s_13) (defScope s_13) .none kV13 dc13 pm13 an13 cd13 ct13), sl13⟩) (c13 : PySem.W.codeIn K cd13 "_law_classes" = true) (k13 : PySem.W.keepIn K (.ref f13) = true)
    (a14 : PySem.W.nsIn K mainGlobals "_law_only" = some (some (.ref f14))) (l14 : K.lookup f14 = some ⟨oc14, od14, .func (PySem.W.fnOf "_law_only" "_law_only" (defArgs s_14) (defBody s_14) (defScope s_14) .none kV14 dc14 pm14 an14 cd14 ct14), sl14⟩) (c14 : PySem.W.codeIn K cd14 "_law_only" = true) (k14 : PySem.W.keepIn K (.ref f14) = true)
    (a15 : PySem.W.nsIn K mainGlobals "_law_told" = some (some (.ref f15))) (l15 : K.lookup f15 = some ⟨oc15, od15, .func (PySem.W.fnOf "_law_told" "_law_told" (defArgs s_15) (defBody s_15) (defScope s_15) .none kV15 dc15 pm15 an15 cd15 ct15), sl15⟩) (c15 : PySem.W.codeIn K cd15 "_law_told" = true) (k15 : PySem.W.keepIn K (.ref f15) = true)
    (a12 : PySem.W.nsIn K mainGlobals "_law_led" = some (some (.ref f12))) (l12 : K.lookup f12 = some ⟨oc12, od12, .func (PySem.W.fnOf "_law_led" "_law_led" (defArgs s_12) (defBody s_12) (defScope s_12) .none kV12 dc12 pm12 an12 cd12 ct12), sl12⟩) (c12 : PySem.W.codeIn K cd12 "_law_led" = true) (k12 : PySem.W.keepIn K (.ref f12) = true)
    (a16 : PySem.W.nsIn K mainGlobals "law" = some (some (.ref f16))) (l16 : K.lookup f16 = some ⟨oc16, od16, .func (PySem.W.fnOf "law" "law" (defArgs s_16) (defBody s_16) (defScope s_16) .none kV16 dc16 pm16 an16 cd16 ct16), sl16⟩) (c16 : PySem.W.codeIn K cd16 "law" = true) (k16 : PySem.W.keepIn K (.ref f16) = true)
    (z_ValueError : PySem.W.nsIn K mainGlobals "ValueError" = some none)
    (z_bool : PySem.W.nsIn K mainGlobals "bool" = some none)
    (z_divmod : PySem.W.nsIn K mainGlobals "divmod" = some none)
    (z_int : PySem.W.nsIn K mainGlobals "int" = some none)
    (z_isinstance : PySem.W.nsIn K mainGlobals "isinstance" = some none)
    (z_len : PySem.W.nsIn K mainGlobals "len" = some none)
    (z_list : PySem.W.nsIn K mainGlobals "list" = some none)
    (z_max : PySem.W.nsIn K mainGlobals "max" = some none)
    (z_min : PySem.W.nsIn K mainGlobals "min" = some none)
    (z_range : PySem.W.nsIn K mainGlobals "range" = some none)
    (z_tuple : PySem.W.nsIn K mainGlobals "tuple" = some none)
    : ∃ fd : FuncData, (∀ (s : Shared) (v : Value), BindsTo s fd ⟨[v], []⟩ [("script", v)]) ∧ ∀ base : Heap, K.In base → base.Ns mainGlobals mg → FnOk l.prog w K mg base (L2N.CX l.prog w) 7 fa fd ["script"] (fun vs H Q _ => ∃ (a : Addr) (ns : List Int), vs = [.ref a] ∧ SqL K H a (ns.map V.int) ∧ ns.length ≤ 63 ∧ True ∧ ∀ H', Q (.bl true) H') := by
  have e := hfa.symm.trans (PySem.W.mg_of X G a16)
  cases e
  have F9 := fun_mk (st := s_9) l9 c9 k9
  have b9 := F9.binds (ps := ["script", "k"]) fun _ _ _ _ _ _ us hl => match us, hl with | [_, _], _ => rfl
  have F10 := fun_mk (st := s_10) l10 c10 k10
  have b10 := F10.binds (ps := ["box", "many"]) fun _ _ _ _ _ _ us hl => match us, hl with | [_, _], _ => rfl
  have F11 := fun_mk (st := s_11) l11 c11 k11
  have b11 := F11.binds (ps := ["box"]) fun _ _ _ _ _ _ us hl => match us, hl with | [_], _ => rfl
  have F4 := fun_mk (st := s_4) l4 c4 k4
  have b4 := F4.binds (ps := ["thing"]) fun _ _ _ _ _ _ us hl => match us, hl with | [_], _ => rfl
  have F5 := fun_mk (st := s_5) l5 c5 k5
  have b5 := F5.binds (ps := ["thing", "least", "most"]) fun _ _ _ _ _ _ us hl => match us, hl with | [_, _, _], _ => rfl
  have F6 := fun_mk (st := s_6) l6 c6 k6
  have b6 := F6.binds (ps := ["layout", "target", "sources", "times"]) fun _ _ _ _ _ _ us hl => match us, hl with | [_, _, _, _], _ => rfl
  have F7 := fun_mk (st := s_7) l7 c7 k7
  have b7 := F7.binds (ps := ["layout", "thing"]) fun _ _ _ _ _ _ us hl => match us, hl with | [_, _], _ => rfl
  have F8 := fun_mk (st := s_8) l8 c8 k8
  have b8 := F8.binds (ps := ["layout", "phase"]) fun _ _ _ _ _ _ us hl => match us, hl with | [_, _], _ => rfl
  have F13 := fun_mk (st := s_13) l13 c13 k13
  have b13 := F13.binds (ps := ["e"]) fun _ _ _ _ _ _ us hl => match us, hl with | [_], _ => rfl
  have F14 := fun_mk (st := s_14) l14 c14 k14
  have b14 := F14.binds (ps := ["e", "place"]) fun _ _ _ _ _ _ us hl => match us, hl with | [_, _], _ => rfl
  have F15 := fun_mk (st := s_15) l15 c15 k15
  have b15 := F15.binds (ps := ["layout", "phase"]) fun _ _ _ _ _ _ us hl => match us, hl with | [_, _], _ => rfl
  have F12 := fun_mk (st := s_12) l12 c12 k12
  have b12 := F12.binds (ps := ["layout", "phase"]) fun _ _ _ _ _ _ us hl => match us, hl with | [_, _], _ => rfl
  have F16 := fun_mk (st := s_16) l16 c16 k16
  have b16 := F16.binds (ps := ["script"]) fun _ _ _ _ _ _ us hl => match us, hl with | [_], _ => rfl
  have T : Tx K mg (fun k => match k with | 9 => f9 | 10 => f10 | 11 => f11 | 4 => f4 | 5 => f5 | 6 => f6 | 7 => f7 | 8 => f8 | 13 => f13 | 14 => f14 | 15 => f15 | 12 => f12 | _ => fa) (fun k => match k with | 9 => (PySem.W.fnOf "_law_box" "_law_box" (defArgs s_9) (defBody s_9) (defScope s_9) .none kV9 dc9 pm9 an9 cd9 ct9) | 10 => (PySem.W.fnOf "_law_take" "_law_take" (defArgs s_10) (defBody s_10) (defScope s_10) .none kV10 dc10 pm10 an10 cd10 ct10) | 11 => (PySem.W.fnOf "_law_odd" "_law_odd" (defArgs s_11) (defBody s_11) (defScope s_11) .none kV11 dc11 pm11 an11 cd11 ct11) | 4 => (PySem.W.fnOf "is_whole" "is_whole" (defArgs s_4) (defBody s_4) (defScope s_4) .none kV4 dc4 pm4 an4 cd4 ct4) | 5 => (PySem.W.fnOf "is_between" "is_between" (defArgs s_5) (defBody s_5) (defScope s_5) .none kV5 dc5 pm5 an5 cd5 ct5) | 6 => (PySem.W.fnOf "are_sources" "are_sources" (defArgs s_6) (defBody s_6) (defScope s_6) .none kV6 dc6 pm6 an6 cd6 ct6) | 7 => (PySem.W.fnOf "is_phase" "is_phase" (defArgs s_7) (defBody s_7) (defScope s_7) .none kV7 dc7 pm7 an7 cd7 ct7) | 8 => (PySem.W.fnOf "led" "led" (defArgs s_8) (defBody s_8) (defScope s_8) .none kV8 dc8 pm8 an8 cd8 ct8) | 13 => (PySem.W.fnOf "_law_classes" "_law_classes" (defArgs s_13) (defBody s_13) (defScope s_13) .none kV13 dc13 pm13 an13 cd13 ct13) | 14 => (PySem.W.fnOf "_law_only" "_law_only" (defArgs s_14) (defBody s_14) (defScope s_14) .none kV14 dc14 pm14 an14 cd14 ct14) | 15 => (PySem.W.fnOf "_law_told" "_law_told" (defArgs s_15) (defBody s_15) (defScope s_15) .none kV15 dc15 pm15 an15 cd15 ct15) | 12 => (PySem.W.fnOf "_law_led" "_law_led" (defArgs s_12) (defBody s_12) (defScope s_12) .none kV12 dc12 pm12 an12 cd12 ct12) | _ => (PySem.W.fnOf "law" "law" (defArgs s_16) (defBody s_16) (defScope s_16) .none kV16 dc16 pm16 an16 cd16 ct16)) (fun k => match k with | 13 => C13 | 5 => C5 | 3 => C3 | 8 => C8 | 6 => C6 | 4 => C4 | 1 => C1 | 10 => C10 | 7 => C7 | 12 => C12 | 2 => C2 | 11 => C11 | 0 => C0 | 9 => C9 | _ => fa) := ⟨F9, b9, PySem.W.mg_of X G a9, F10, b10, PySem.W.mg_of X G a10, F11, b11, PySem.W.mg_of X G a11, F4, b4, PySem.W.mg_of X G a4, F5, b5, PySem.W.mg_of X G a5, F6, b6, PySem.W.mg_of X G a6, F7, b7, PySem.W.mg_of X G a7, F8, b8, PySem.W.mg_of X G a8, F13, b13, PySem.W.mg_of X G a13, F14, b14, PySem.W.mg_of X G a14, F15, b15, PySem.W.mg_of X G a15, F12, b12, PySem.W.mg_of X G a12, F16, b16, PySem.W.mg_of X G a16, PySem.W.mg_of X G aC13, PySem.W.mg_of X G aC5, PySem.W.mg_of X G aC3, PySem.W.mg_of X G aC8, PySem.W.mg_of X G aC6, PySem.W.mg_of X G aC4, PySem.W.mg_of X G aC1, PySem.W.mg_of X G aC10, PySem.W.mg_of X G aC7, PySem.W.mg_of X G aC12, PySem.W.mg_of X G aC2, PySem.W.mg_of X G aC11, PySem.W.mg_of X G aC0, PySem.W.mg_of X G aC9, ⟨xq6, xk6, xs6, xt6⟩, ⟨y1_6, y2_6, xs6, y3_6, y4_6, w1, w2, y5_6⟩, em_NoPhase_PourError, ki_NoPhase_Bare, ki_NoPhase_NoDrive, ki_NoPhase_NoDrives, ki_NoPhase_NoLine, ki_NoPhase_NoPhase, ki_NoPhase_NoPlace, ki_NoPhase_NoRoom, ki_NoPhase_NoRow, ki_NoPhase_NoShelf, ki_NoPhase_NoTrace, ki_NoPhase_NoWidth, ki_NoPhase_NotRising, ki_NoPhase_PourError, ki_NoPhase_TooMany, kv_NoPhase, PySem.W.mg_none_of X G z_ValueError, PySem.W.mg_none_of X G z_bool, PySem.W.mg_none_of X G z_divmod, PySem.W.mg_none_of X G z_int, PySem.W.mg_none_of X G z_isinstance, PySem.W.mg_none_of X G z_len, PySem.W.mg_none_of X G z_list, PySem.W.mg_none_of X G z_max, PySem.W.mg_none_of X G z_min, PySem.W.mg_none_of X G z_range, PySem.W.mg_none_of X G z_tuple⟩
  exact ⟨(PySem.W.fnOf "law" "law" (defArgs s_16) (defBody s_16) (defScope s_16) .none kV16 dc16 pm16 an16 cd16 ct16), fun s v => .of_eq rfl, fun base _ _ => ok_script (cls := (fun k => match k with | 13 => C13 | 5 => C5 | 3 => C3 | 8 => C8 | 6 => C6 | 4 => C4 | 1 => C1 | 10 => C10 | 7 => C7 | 12 => C12 | 2 => C2 | 11 => C11 | 0 => C0 | 9 => C9 | _ => fa)) (ok_16 (cls := (fun k => match k with | 13 => C13 | 5 => C5 | 3 => C3 | 8 => C8 | 6 => C6 | 4 => C4 | 1 => C1 | 10 => C10 | 7 => C7 | 12 => C12 | 2 => C2 | 11 => C11 | 0 => C0 | 9 => C9 | _ => fa)) T) fun ns hl _ => law_pure ns hl⟩
end K59
open PySem PySem.W PyProof.Rows
set_option maxHeartbeats 0 in
theorem PySem.Challenge.cw_pourwright_k59_no_phases_holds : PySem.Challenge.rw_pourwright_k59_no_phases.Holds := by
  w_on; o_law; k_head; (case hw => w_witness2)
  k_fill
  refine L2.walk_of (l := PySem.Challenge.rw_pourwright_k59_no_phases) (n := 63) (k := 7) (x := "script") (CX := fun w => L2N.CX PySem.Challenge.pw_pourwright_k59_no_phases w) (sp := fun w vs H Q _ => ∃ (a : Addr) (ns : List Int), vs = [.ref a] ∧ L2.SqL _ H a (ns.map L2.V.int) ∧ ns.length ≤ 63 ∧ True ∧ ∀ H', Q (.bl true) H') rfl (by decide) rfl ⟨rfl, by decide, by decide⟩ (fun w h Y => PySem.W.kIn_of Y) ?F (fun _ _ a ns hl _ hS => ⟨a, ns, rfl, hS, hl, trivial, fun _ => rfl⟩) (fun w H s e s' h => by obtain ⟨_, _, _, _, _, _, _, _, _, _, _, _, z⟩ := h; exact z.elim)
  case F =>
    intro w mg fa h KX G hmg
    refine' K59.all_mk (l := PySem.Challenge.rw_pourwright_k59_no_phases) KX G hmg ?aC13 ?aC5 ?aC3 ?aC8 ?aC6 ?aC4 ?aC1 ?aC10 ?aC7 ?aC12 ?aC2 ?aC11 ?aC0 ?aC9 ?xq6 ?xk6 ?xs6 ?xt6 ?y1_6 ?y2_6 ?y3_6 ?y4_6 ?y5_6 ?w1 ?w2 ?em_NoPhase_PourError ?ki_NoPhase_Bare ?ki_NoPhase_NoDrive ?ki_NoPhase_NoDrives ?ki_NoPhase_NoLine ?ki_NoPhase_NoPhase ?ki_NoPhase_NoPlace ?ki_NoPhase_NoRoom ?ki_NoPhase_NoRow ?ki_NoPhase_NoShelf ?ki_NoPhase_NoTrace ?ki_NoPhase_NoWidth ?ki_NoPhase_NotRising ?ki_NoPhase_PourError ?ki_NoPhase_TooMany ?kv_NoPhase ?a9 ?l9 ?c9 ?k9 ?a10 ?l10 ?c10 ?k10 ?a11 ?l11 ?c11 ?k11 ?a4 ?l4 ?c4 ?k4 ?a5 ?l5 ?c5 ?k5 ?a6 ?l6 ?c6 ?k6 ?a7 ?l7 ?c7 ?k7 ?a8 ?l8 ?c8 ?k8 ?a13 ?l13 ?c13 ?k13 ?a14 ?l14 ?c14 ?k14 ?a15 ?l15 ?c15 ?k15 ?a12 ?l12 ?c12 ?k12 ?a16 ?l16 ?c16 ?k16 ?z_ValueError ?z_bool ?z_divmod ?z_int ?z_isinstance ?z_len ?z_list ?z_max ?z_min ?z_range ?z_tuple
    (case aC13 => k_is)
    (case aC5 => k_is)
    (case aC3 => k_is)
    (case aC8 => k_is)
    (case aC6 => k_is)
    (case aC4 => k_is)
    (case aC1 => k_is)
    (case aC10 => k_is)
    (case aC7 => k_is)
    (case aC12 => k_is)
    (case aC2 => k_is)
    (case aC11 => k_is)
    (case aC0 => k_is)
    (case aC9 => k_is)
    (case xq6 => k_exc)
    (case xk6 => k_is)
    (case xs6 => k_is)
    (case xt6 => k_is)
    (case y1_6 => k_is)
    (case y2_6 => k_is)
    (case y3_6 => k_is)
    (case y4_6 => k_is)
    (case y5_6 => k_is)
    (case w1 => k_is)
    (case w2 => k_is)
    (case em_NoPhase_PourError => exact K59.k_exm (by k_is) (by k_is) (by k_is) (by k_is))
    (case ki_NoPhase_Bare => first | exact K59.k_kit0 | exact K59.k_kitC (by decide) (by k_is) (by k_is) (by k_is))
    (case ki_NoPhase_NoDrive => first | exact K59.k_kit0 | exact K59.k_kitC (by decide) (by k_is) (by k_is) (by k_is))
    (case ki_NoPhase_NoDrives => first | exact K59.k_kit0 | exact K59.k_kitC (by decide) (by k_is) (by k_is) (by k_is))
    (case ki_NoPhase_NoLine => first | exact K59.k_kit0 | exact K59.k_kitC (by decide) (by k_is) (by k_is) (by k_is))
    (case ki_NoPhase_NoPhase => first | exact K59.k_kit0 | exact K59.k_kitC (by decide) (by k_is) (by k_is) (by k_is))
    (case ki_NoPhase_NoPlace => first | exact K59.k_kit0 | exact K59.k_kitC (by decide) (by k_is) (by k_is) (by k_is))
    (case ki_NoPhase_NoRoom => first | exact K59.k_kit0 | exact K59.k_kitC (by decide) (by k_is) (by k_is) (by k_is))
    (case ki_NoPhase_NoRow => first | exact K59.k_kit0 | exact K59.k_kitC (by decide) (by k_is) (by k_is) (by k_is))
    (case ki_NoPhase_NoShelf => first | exact K59.k_kit0 | exact K59.k_kitC (by decide) (by k_is) (by k_is) (by k_is))
    (case ki_NoPhase_NoTrace => first | exact K59.k_kit0 | exact K59.k_kitC (by decide) (by k_is) (by k_is) (by k_is))
    (case ki_NoPhase_NoWidth => first | exact K59.k_kit0 | exact K59.k_kitC (by decide) (by k_is) (by k_is) (by k_is))
    (case ki_NoPhase_NotRising => first | exact K59.k_kit0 | exact K59.k_kitC (by decide) (by k_is) (by k_is) (by k_is))
    (case ki_NoPhase_PourError => first | exact K59.k_kit0 | exact K59.k_kitC (by decide) (by k_is) (by k_is) (by k_is))
    (case ki_NoPhase_TooMany => first | exact K59.k_kit0 | exact K59.k_kitC (by decide) (by k_is) (by k_is) (by k_is))
    (case kv_NoPhase => exact K59.k_kitV (by k_is))
    (case a9 => k_is)
    (case l9 => k_is)
    (case c9 => k_is)
    (case k9 => k_is)
    (case a10 => k_is)
    (case l10 => k_is)
    (case c10 => k_is)
    (case k10 => k_is)
    (case a11 => k_is)
    (case l11 => k_is)
    (case c11 => k_is)
    (case k11 => k_is)
    (case a4 => k_is)
    (case l4 => k_is)
    (case c4 => k_is)
    (case k4 => k_is)
    (case a5 => k_is)
    (case l5 => k_is)
    (case c5 => k_is)
    (case k5 => k_is)
    (case a6 => k_is)
    (case l6 => k_is)
    (case c6 => k_is)
    (case k6 => k_is)
    (case a7 => k_is)
    (case l7 => k_is)
    (case c7 => k_is)
    (case k7 => k_is)
    (case a8 => k_is)
    (case l8 => k_is)
    (case c8 => k_is)
    (case k8 => k_is)
    (case a13 => k_is)
    (case l13 => k_is)
    (case c13 => k_is)
    (case k13 => k_is)
    (case a14 => k_is)
    (case l14 => k_is)
    (case c14 => k_is)
    (case k14 => k_is)
    (case a15 => k_is)
    (case l15 => k_is)
    (case c15 => k_is)
    (case k15 => k_is)
    (case a12 => k_is)
    (case l12 => k_is)
    (case c12 => k_is)
    (case k12 => k_is)
    (case a16 => k_is)
    (case l16 => k_is)
    (case c16 => k_is)
    (case k16 => k_is)
    (case z_ValueError => k_is)
    (case z_bool => k_is)
    (case z_divmod => k_is)
    (case z_int => k_is)
    (case z_isinstance => k_is)
    (case z_len => k_is)
    (case z_list => k_is)
    (case z_max => k_is)
    (case z_min => k_is)
    (case z_range => k_is)
    (case z_tuple => k_is)

end
