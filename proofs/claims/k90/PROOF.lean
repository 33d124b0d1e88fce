import PyProof.Rows.All
import Wide.All
import OpenK.AllK
import Wide.FinOn
import HandS.ForMost
import HandS.Exc
import HandS.TryOnly
import HandS.ExcOwn
import HandS.ExcInit
import HandS.IsInst
import HandS.Wide
import HandS.WideBits
import HandS.Flow
import HandS.Zip
import HandS.Remove
import HandS.TupAny
import HandS.StrMore
import HandS.Conv
import HandS.Style
import HandS.WordsExc
import HandS.ExcCtx
import KE.SortData
import HandS.More
import HandS.Deep
import HandS.SetFor
import KE.DataMinMax
import HandS.Iter
import KE.DataFind
import HandS.Dict
import HandS.Rev
import KE.GoesEnum
import KE.GoesMore
import HandS.ExcIs
import HandS.Strs
import HandS.Flt
import HandS.Ends
import HandS.Text
import HandS.MapJoin
import HandS.HotCalls
import HandS.Comp
import HandS.ExcField
import KE.KExcIs
import PyProof.Rows.StrMul
import HandS.SetKeys
import HandS.WordsDict
import PyProof.ReprRoads
import PyProof.ReprDict
import PyProof.EqKinds
import PyProof.FactsAll.dict
import PyProof.NeKinds
import HandS.Codes
import PySem.Challenge.RW_pourwright_k90_desks_at_their_bounds
set_option Elab.async false
set_option linter.all false
section
set_option maxRecDepth 100000
namespace DL
open PySem L2
/-- a footprint: how often an address is owned -/
abbrev Ft := Addr → Nat
def z0 : Ft := fun _ => 0
def fadd (f g : Ft) : Ft := fun a => f a + g a
def one1 (p : Addr) : Ft := fun a => if a = p then 1 else 0
@[simp] theorem z0_at (a : Addr) : z0 a = 0 := rfl
@[simp] theorem fadd_at (f g : Ft) (a : Addr) : fadd f g a = f a + g a := rfl
theorem one1_self (p : Addr) : one1 p p = 1 := by simp [one1]
theorem one1_ne {p a : Addr} (h : a ≠ p) : one1 p a = 0 := by simp [one1, h]
/-- where the classes stand; the written part -/
structure Gm where
  cls : Nat → Addr
  K : PySem.W.Frag
/-- kinds of nodes; the mark says: owned here alone, may change -/
inductive Kd where
  | tup | lst (m : Bool) | dik (m : Bool) (ks : List Key) | dit (m : Bool) (ks : List (List Key)) | obj (m : Bool) (c : Nat) (ns : List Str) | dku (ks : List Key) | dtu (ks : List (List Key))
def Kd.mut : Kd → Bool
  | .tup => false | .lst m => m | .dik m _ => m | .dit m _ => m | .obj m _ _ => m | .dku _ => false | .dtu _ => false
def Kd.fz : Kd → Kd
  | .tup => .tup | .lst _ => .lst false | .dik _ ks => .dik false ks | .dit _ ks => .dit false ks | .obj _ c ns => .obj false c ns | .dku ks => .dku ks | .dtu ks => .dtu ks
theorem Kd.fz_mut (k : Kd) : k.fz.mut = false := by cases k <;> rfl
theorem Kd.fz_of {k : Kd} (h : k.mut = false) : k.fz = k := by cases k <;> simp_all [Kd.fz, Kd.mut]
/-- data -/
inductive D where
  | una | lent | sc (v : V) | nd (k : Kd) (ds : List D) | kl (xs : List Int)
/-- what a node's object is -/
def Kd.st (G : Gm) : Kd → List V → HO → Prop
  | .tup, vs, o => o = .tup vs
  | .lst _, vs, o => o = .lst vs
  | .dik _ ks, vs, o => ks.length = vs.length ∧ o = .dK (ks.zip vs)
  | .dit _ ks, vs, o => ks.length = vs.length ∧ o = .dT (ks.zip vs)
  | .obj _ c ns, vs, o => ns.length = vs.length ∧ ∃ dx, o = .ins (G.cls c) dx (ns.zip vs)
  | .dku ks, vs, o => ks.length = vs.length ∧ ∃ od, o = .frz od (.dK (ks.zip vs))
  | .dtu ks, vs, o => ks.length = vs.length ∧ ∃ od, o = .frz od (.dT (ks.zip vs))
theorem Kd.st_fz {G : Gm} {k : Kd} {vs : List V} {o : HO} (h : k.st G vs o) : k.fz.st G vs o := by cases k <;> exact h
mutual
def fz : D → D
  | .una => .una
  | .lent => .lent
  | .sc v => .sc v
  | .nd k ds => .nd k.fz (fzs ds)
  | .kl xs => .kl xs
def fzs : List D → List D
  | [] => []
  | d :: ds => fz d :: fzs ds
end
mutual
/-- nothing in it is owned -/
def Fz : D → Bool
  | .una => false
  | .lent => false
  | .sc _ => true
  | .nd k ds => !k.mut && Fzs ds
  | .kl _ => true
def Fzs : List D → Bool
  | [] => true
  | d :: ds => Fz d && Fzs ds
end
theorem fzs_map (ds : List D) : fzs ds = ds.map fz := by induction ds with | nil => rfl | cons d ds ih => simp [fzs, ih]
theorem Fzs_all (ds : List D) : Fzs ds = ds.all Fz := by induction ds with | nil => rfl | cons d ds ih => simp [Fzs, ih]
mutual
theorem fz_of : ∀ {d : D}, Fz d = true → fz d = d
  | .una, h => rfl
  | .lent, h => rfl
  | .kl _, h => rfl
  | .sc v, h => rfl
  | .nd k ds, h => by
    have h' : (!k.mut && Fzs ds) = true := h
    simp only [Bool.and_eq_true, Bool.not_eq_true'] at h'
    show D.nd k.fz (fzs ds) = _
    rw [Kd.fz_of h'.1, fzs_of h'.2]
theorem fzs_of : ∀ {ds : List D}, Fzs ds = true → fzs ds = ds
  | [], h => rfl
  | d :: ds, h => by
    have h' : (Fz d && Fzs ds) = true := h
    simp only [Bool.and_eq_true] at h'
    show fz d :: fzs ds = _
    rw [fz_of h'.1, fzs_of h'.2]
end
mutual
/-- d stands at v: what is frozen stands in I, what is owned in H and not in I -/
def Rp (G : Gm) (I H : Hp) : D → V → Ft → Prop
  | .una, _, f => ∀ a, f a = 0
  | .lent, _, f => ∀ a, f a = 0
  | .sc x, v, f => v = x ∧ ∀ a, f a = 0
  | .nd k ds, v, f => ∃ p vs g o, v = .ref p ∧ k.st G vs o ∧ Rps G I H ds vs g ∧
      ((k.mut = true ∧ I p = none ∧ H p = some o ∧ ∀ a, f a = g a + one1 p a) ∨ (k.mut = false ∧ I p = some o ∧ ∀ a, f a = g a))
  | .kl xs, v, f => (∃ p, v = .ref p ∧ SqL G.K I p (xs.map V.int)) ∧ ∀ a, f a = 0
def Rps (G : Gm) (I H : Hp) : List D → List V → Ft → Prop
  | [], vs, f => vs = [] ∧ ∀ a, f a = 0
  | d :: ds, vs, f => ∃ v ws g h, vs = v :: ws ∧ Rp G I H d v g ∧ Rps G I H ds ws h ∧ ∀ a, f a = g a + h a
end
section
variable {G : Gm} {I I' H H' : Hp} {d : D} {ds : List D} {v : V} {vs : List V} {f g h : Ft}
theorem Rps.len : ∀ {ds : List D} {vs : List V} {f : Ft}, Rps G I H ds vs f → vs.length = ds.length
  | [], vs, f, x => by obtain ⟨rfl, _⟩ := x; rfl
  | d :: ds, vs, f, x => by
    obtain ⟨v, ws, g, h, rfl, _, y, _⟩ := x
    simp [Rps.len y]
theorem SqL.up {K : PySem.W.Frag} {I I' : Hp} {p : Addr} {ws : List V} (hI : ∀ a o, I a = some o → I' a = some o) (x : SqL K I p ws) : SqL K I' p ws := by
  rcases x with (h | ⟨o, h⟩) | h
  · exact .inl (.inl (hI _ _ h))
  · exact .inl (.inr ⟨o, hI _ _ h⟩)
  · exact .inr h
mutual
theorem Rp.trk : ∀ {d : D} {v : V} {f : Ft}, Rp G I H d v f → ∀ a, f a ≠ 0 → I a = none ∧ ∃ o, H a = some o
  | .una, v, f, x, a, ha => absurd (x a) ha
  | .lent, v, f, x, a, ha => absurd (x a) ha
  | .kl _, v, f, x, a, ha => absurd (x.2 a) ha
  | .sc y, v, f, x, a, ha => absurd (x.2 a) ha
  | .nd k ds, v, f, x, a, ha => by
    obtain ⟨p, vs, g, o, rfl, s, y, q⟩ := x
    rcases q with ⟨_, n, e, q⟩ | ⟨_, e, q⟩
    · by_cases hp : a = p
      · subst hp; exact ⟨n, o, e⟩
      · have := q a; rw [one1_ne hp] at this
        exact Rps.trk y a (by omega)
    · exact Rps.trk y a (by have := q a; omega)
theorem Rps.trk : ∀ {ds : List D} {vs : List V} {f : Ft}, Rps G I H ds vs f → ∀ a, f a ≠ 0 → I a = none ∧ ∃ o, H a = some o
  | [], vs, f, x, a, ha => absurd (x.2 a) ha
  | d :: ds, vs, f, x, a, ha => by
    obtain ⟨v, ws, g, h, rfl, y, z, q⟩ := x
    by_cases hg : g a = 0
    · exact Rps.trk z a (by have := q a; omega)
    · exact Rp.trk y a hg
end
mutual
theorem Rp.move (hI : ∀ a o, I a = some o → I' a = some o) : ∀ {d : D} {v : V} {f : Ft}, Rp G I H d v f → (∀ a, f a ≠ 0 → I' a = none ∧ H' a = H a) → Rp G I' H' d v f
  | .una, v, f, x, _ => x
  | .lent, v, f, x, _ => x
  | .kl xs, v, f, x, _ => ⟨let ⟨p, e, q⟩ := x.1; ⟨p, e, SqL.up hI q⟩, x.2⟩
  | .sc y, v, f, x, _ => x
  | .nd k ds, v, f, x, m => by
    obtain ⟨p, vs, g, o, rfl, s, y, q⟩ := x
    have y' : Rps G I' H' ds vs g := Rps.move hI y fun a ha => m a (by rcases q with ⟨_, _, _, q⟩ | ⟨_, _, q⟩ <;> (have := q a; omega))
    refine ⟨p, vs, g, o, rfl, s, y', ?_⟩
    rcases q with ⟨mu, n, e, q⟩ | ⟨mu, e, q⟩
    · have := m p (by rw [q p, one1_self]; omega)
      exact .inl ⟨mu, this.1, this.2.trans e, q⟩
    · exact .inr ⟨mu, hI _ _ e, q⟩
theorem Rps.move (hI : ∀ a o, I a = some o → I' a = some o) : ∀ {ds : List D} {vs : List V} {f : Ft}, Rps G I H ds vs f → (∀ a, f a ≠ 0 → I' a = none ∧ H' a = H a) → Rps G I' H' ds vs f
  | [], vs, f, x, _ => x
  | d :: ds, vs, f, x, m => by
    obtain ⟨v, ws, g, h, rfl, y, z, q⟩ := x
    exact ⟨v, ws, g, h, rfl, Rp.move hI y fun a ha => m a (by have := q a; omega), Rps.move hI z fun a ha => m a (by have := q a; omega), q⟩
end
mutual
theorem Rp.freeze (hI : ∀ a o, I a = some o → I' a = some o) : ∀ {d : D} {v : V} {f : Ft}, Rp G I H d v f → (∀ a, f a ≠ 0 → I' a = H a) → Rp G I' H' (fz d) v z0
  | .una, v, f, x, _ => fun _ => rfl
  | .lent, v, f, x, _ => fun _ => rfl
  | .kl xs, v, f, x, _ => ⟨let ⟨p, e, q⟩ := x.1; ⟨p, e, SqL.up hI q⟩, fun _ => rfl⟩
  | .sc y, v, f, x, _ => ⟨x.1, fun _ => rfl⟩
  | .nd k ds, v, f, x, m => by
    obtain ⟨p, vs, g, o, rfl, s, y, q⟩ := x
    have y' : Rps G I' H' (fzs ds) vs z0 := Rps.freeze hI y fun a ha => m a (by rcases q with ⟨_, _, _, q⟩ | ⟨_, _, q⟩ <;> (have := q a; omega))
    refine ⟨p, vs, z0, o, rfl, Kd.st_fz s, y', .inr ⟨Kd.fz_mut k, ?_, fun _ => rfl⟩⟩
    rcases q with ⟨mu, n, e, q⟩ | ⟨mu, e, q⟩
    · exact (m p (by rw [q p, one1_self]; omega)).trans e
    · exact hI _ _ e
theorem Rps.freeze (hI : ∀ a o, I a = some o → I' a = some o) : ∀ {ds : List D} {vs : List V} {f : Ft}, Rps G I H ds vs f → (∀ a, f a ≠ 0 → I' a = H a) → Rps G I' H' (fzs ds) vs z0
  | [], vs, f, x, _ => ⟨x.1, fun _ => rfl⟩
  | d :: ds, vs, f, x, m => by
    obtain ⟨v, ws, g, h, rfl, y, z, q⟩ := x
    exact ⟨v, ws, z0, z0, rfl, Rp.freeze hI y fun a ha => m a (by have := q a; omega), Rps.freeze hI z fun a ha => m a (by have := q a; omega), fun _ => rfl⟩
end
theorem Rp.zero_of_fz : ∀ {d : D} {v : V} {f : Ft}, Fz d = true → Rp G I H d v f → ∀ a, f a = 0 := by
  intro d v f hf x a
  have : ∀ {d : D}, Fz d = true → ∀ {v f}, Rp G I H d v f → ∀ a, f a = 0 := by
    intro d
    refine D.rec (motive_1 := fun d => Fz d = true → ∀ {v f}, Rp G I H d v f → ∀ a, f a = 0) (motive_2 := fun ds => Fzs ds = true → ∀ {vs f}, Rps G I H ds vs f → ∀ a, f a = 0) ?_ ?_ ?_ ?_ ?_ ?_ ?_ d
    · intro h; cases h
    · intro h; cases h
    · intro v h v' f x a; exact x.2 a
    · intro k ds ih h v f x a
      have h' : (!k.mut && Fzs ds) = true := h
      simp only [Bool.and_eq_true, Bool.not_eq_true'] at h'
      obtain ⟨p, vs, g, o, rfl, s, y, q⟩ := x
      rcases q with ⟨mu, _⟩ | ⟨_, _, q⟩
      · rw [h'.1] at mu; cases mu
      · rw [q a]; exact ih h'.2 y a
    · intro xs h v f x a; exact x.2 a
    · intro h vs f x a; exact x.2 a
    · intro d ds ih1 ih2 h vs f x a
      have h' : (Fz d && Fzs ds) = true := h
      simp only [Bool.and_eq_true] at h'
      obtain ⟨v, ws, g, h, rfl, y, z, q⟩ := x
      have e1 := ih1 h'.1 y a
      have e2 := ih2 h'.2 z a
      have := q a
      omega
  exact this hf x a
theorem Rp.eqv (x : Rp G I H d v f) (e : ∀ a, f a = g a) : Rp G I H d v g := by
  have : f = g := funext e
  exact this ▸ x
theorem Rps.eqv (x : Rps G I H ds vs f) (e : ∀ a, f a = g a) : Rps G I H ds vs g := by
  have : f = g := funext e
  exact this ▸ x
theorem Rp.fz0 (hf : Fz d = true) (x : Rp G I H d v f) : Rp G I H d v z0 := x.eqv (x.zero_of_fz hf)
/-- one of several -/
theorem Rps.get : ∀ {ds : List D} {vs : List V} {f : Ft} {i : Nat} {d : D}, Rps G I H ds vs f → ds[i]? = some d → ∃ v g h, vs[i]? = some v ∧ Rp G I H d v g ∧ (∀ a, f a = g a + h a) ∧
    ∀ {I' H' : Hp} {d' : D} {v' : V} {g' : Ft}, (∀ a o, I a = some o → I' a = some o) → Rp G I' H' d' v' g' → (∀ a, h a ≠ 0 → I' a = none ∧ H' a = H a) → Rps G I' H' (ds.set i d') (vs.set i v') (fadd g' h)
  | [], _, _, _, _, _, e => by simp at e
  | d :: ds, vs, f, 0, d0, x, e => by
    obtain ⟨v, ws, g, h, rfl, y, z, q⟩ := x
    simp at e; subst e
    exact ⟨v, g, h, rfl, y, q, fun hI y' m => ⟨_, ws, _, h, rfl, y', z.move hI m, fun a => rfl⟩⟩
  | d :: ds, vs, f, i + 1, d0, x, e => by
    obtain ⟨v, ws, g, h, rfl, y, z, q⟩ := x
    obtain ⟨v1, g1, h1, e1, y1, q1, k1⟩ := z.get (i := i) (d := d0) (by simpa using e)
    refine ⟨v1, g1, fadd g h1, by simpa using e1, y1, fun a => by have := q a; have := q1 a; simp; omega, fun hI y' m => ?_⟩
    refine ⟨v, _, g, _, rfl, y.move hI fun a ha => m a (by simp; omega), k1 hI y' fun a ha => m a (by simp; omega), fun a => by simp; omega⟩
theorem Rps.app : ∀ {ds es : List D} {vs ws : List V} {f g : Ft}, Rps G I H ds vs f → Rps G I H es ws g → Rps G I H (ds ++ es) (vs ++ ws) (fadd f g)
  | [], es, vs, ws, f, g, x, y => by
    obtain ⟨rfl, q⟩ := x
    exact y.eqv fun a => by simp [q a]
  | d :: ds, es, vs, ws, f, g, x, y => by
    obtain ⟨v, ws', g1, h, rfl, y1, z, q⟩ := x
    exact ⟨v, ws' ++ ws, g1, fadd h g, rfl, y1, z.app y, fun a => by simp [q a]; omega⟩
theorem Rps.split : ∀ {ds es : List D} {vs : List V} {f : Ft}, Rps G I H (ds ++ es) vs f → ∃ v1 v2 g h, vs = v1 ++ v2 ∧ Rps G I H ds v1 g ∧ Rps G I H es v2 h ∧ ∀ a, f a = g a + h a
  | [], es, vs, f, x => ⟨[], vs, z0, f, rfl, ⟨rfl, fun _ => rfl⟩, x, fun a => by simp⟩
  | d :: ds, es, vs, f, x => by
    obtain ⟨v, ws', g1, h, rfl, y1, z, q⟩ := x
    obtain ⟨w1, w2, g2, h2, rfl, z1, z2, q2⟩ := z.split
    exact ⟨v :: w1, w2, fadd g1 g2, h2, rfl, ⟨v, w1, g1, g2, rfl, y1, z1, fun _ => rfl⟩, z2, fun a => by simp [q a, q2 a]; omega⟩
theorem Rps.one (x : Rp G I H d v f) : Rps G I H [d] [v] f := ⟨v, [], f, z0, rfl, x, ⟨rfl, fun _ => rfl⟩, fun a => by simp⟩
theorem Rps.zero_of_fz : ∀ {ds : List D} {vs : List V} {f : Ft}, ds.all Fz = true → Rps G I H ds vs f → ∀ a, f a = 0
  | [], _, _, _, x, a => x.2 a
  | d :: ds, vs, f, hf, x, a => by
    obtain ⟨v, ws, g, h, rfl, y, z, q⟩ := x
    simp only [List.all_cons, Bool.and_eq_true] at hf
    rw [q a, y.zero_of_fz hf.1 a, z.zero_of_fz hf.2 a]
end
end DL
end
section
set_option maxRecDepth 100000
namespace DL
open PySem L2
def getP : List D → Nat → List Nat → Option D
  | ds, i, [] => ds[i]?
  | ds, i, j :: p => match ds[i]? with
    | some (.nd _ es) => getP es j p
    | _ => none
def setP : List D → Nat → List Nat → D → List D
  | ds, i, [], d => ds.set i d
  | ds, i, j :: p, d => match ds[i]? with
    | some (.nd k es) => ds.set i (.nd k (setP es j p d))
    | _ => ds
def Loc (G : Gm) (I H : Hp) : List D → List V → Nat → List Nat → V → Prop
  | ds, vs, i, [], v => vs[i]? = some v
  | ds, vs, i, j :: p, v => ∃ k es q ws o, ds[i]? = some (.nd k es) ∧ vs[i]? = some (.ref q) ∧ k.st G ws o ∧ ((k.mut = true ∧ H q = some o) ∨ (k.mut = false ∧ I q = some o)) ∧ Loc G I H es ws j p v
theorem zip_inj {α β : Type} : ∀ {ks : List α} {xs ys : List β}, ks.length = xs.length → ks.length = ys.length → ks.zip xs = ks.zip ys → xs = ys
  | [], [], [], _, _, _ => rfl
  | [], _ :: _, _, h, _, _ => by simp at h
  | [], [], _ :: _, _, h, _ => by simp at h
  | _ :: _, [], _, h, _, _ => by simp at h
  | _ :: _, _ :: _, [], _, h, _ => by simp at h
  | k :: ks, x :: xs, y :: ys, h1, h2, e => by
    simp only [List.zip_cons_cons, List.cons.injEq, Prod.mk.injEq, true_and] at e
    rw [e.1, zip_inj (by simpa using h1) (by simpa using h2) e.2]
theorem Kd.st_inj {G : Gm} {k : Kd} {vs ws : List V} {o : HO} (a : k.st G vs o) (b : k.st G ws o) : vs = ws := by
  cases k with
  | tup => have e := a.symm.trans b; cases e; rfl
  | lst m => have e := a.symm.trans b; cases e; rfl
  | dik m ks =>
    have e := a.2.symm.trans b.2
    injection e with e
    exact zip_inj a.1 b.1 e
  | dit m ks =>
    have e := a.2.symm.trans b.2
    injection e with e
    exact zip_inj a.1 b.1 e
  | obj m c ns =>
    obtain ⟨l1, dx, e1⟩ := a
    obtain ⟨l2, dy, e2⟩ := b
    have e := e1.symm.trans e2
    injection e with _ _ e
    exact zip_inj l1 l2 e
  | dku ks =>
    obtain ⟨l1, od, e1⟩ := a
    obtain ⟨l2, od2, e2⟩ := b
    have e := e1.symm.trans e2
    injection e with _ e
    injection e with e
    exact zip_inj l1 l2 e
  | dtu ks =>
    obtain ⟨l1, od, e1⟩ := a
    obtain ⟨l2, od2, e2⟩ := b
    have e := e1.symm.trans e2
    injection e with _ e
    injection e with e
    exact zip_inj l1 l2 e
section
variable {G : Gm} {I I' H H' : Hp}
theorem Loc.inj : ∀ {p : List Nat} {ds : List D} {vs : List V} {i : Nat} {v w : V}, Loc G I H ds vs i p v → Loc G I H ds vs i p w → v = w
  | [], ds, vs, i, v, w, a, b => Option.some.inj (a.symm.trans b)
  | j :: p, ds, vs, i, v, w, a, b => by
    obtain ⟨k, es, q, ws, o, e1, e2, s, c, l⟩ := a
    obtain ⟨k', es', q', ws', o', e1', e2', s', c', l'⟩ := b
    have e := e1.symm.trans e1'; cases e
    have e := e2.symm.trans e2'; cases e
    have eo : o = o' := by
      rcases c with ⟨m, c⟩ | ⟨m, c⟩ <;> rcases c' with ⟨m', c'⟩ | ⟨m', c'⟩
      · exact Option.some.inj (c.symm.trans c')
      · rw [m] at m'; cases m'
      · rw [m] at m'; cases m'
      · exact Option.some.inj (c.symm.trans c')
    subst eo
    have ew := Kd.st_inj s s'
    subst ew
    exact l.inj l'
theorem Loc.keep (hI : ∀ a o, I a = some o → I' a = some o) (hH : ∀ a o, H a = some o → H' a = some o) : ∀ {p : List Nat} {ds : List D} {vs : List V} {i : Nat} {v : V}, Loc G I H ds vs i p v → Loc G I' H' ds vs i p v
  | [], ds, vs, i, v, a => a
  | j :: p, ds, vs, i, v, a => by
    obtain ⟨k, es, q, ws, o, e1, e2, s, c, l⟩ := a
    exact ⟨k, es, q, ws, o, e1, e2, s, c.imp (fun x => ⟨x.1, hH _ _ x.2⟩) (fun x => ⟨x.1, hI _ _ x.2⟩), l.keep hI hH⟩
theorem Rps.focus : ∀ {p : List Nat} {ds : List D} {vs : List V} {f : Ft} {i : Nat} {d : D}, Rps G I H ds vs f → getP ds i p = some d → ∃ v g h, Loc G I H ds vs i p v ∧ Rp G I H d v g ∧ (∀ a, f a = g a + h a) ∧
    ∀ {I' H' : Hp} {d' : D} {g' : Ft}, (∀ a o, I a = some o → I' a = some o) → Rp G I' H' d' v g' → (∀ a, h a ≠ 0 → I' a = none ∧ H' a = H a) → Rps G I' H' (setP ds i p d') vs (fadd g' h)
  | [], ds, vs, f, i, d, x, e => by
    obtain ⟨v, g, h, e1, y, q, k⟩ := x.get e
    refine ⟨v, g, h, e1, y, q, fun hI y' m => ?_⟩
    have := k hI y' m
    have ev : vs.set i v = vs := by
      obtain ⟨hl, e2⟩ := List.getElem?_eq_some_iff.mp e1
      rw [← e2, List.set_getElem_self]
    rw [ev] at this
    exact this
  | j :: p, ds, vs, f, i, d, x, e => by
    unfold getP at e
    split at e
    · rename_i k es e0
      obtain ⟨v0, g0, h0, e1, y, q, kk⟩ := x.get e0
      obtain ⟨pa, ws, g1, o, rfl, s, z, c⟩ := id y
      obtain ⟨v, g, h, l, y1, q1, k1⟩ := z.focus e
      have ev : ∀ {w : V}, vs[i]? = some w → vs.set i w = vs := fun {w} e1 => by
        obtain ⟨hl, e2⟩ := List.getElem?_eq_some_iff.mp e1
        rw [← e2, List.set_getElem_self]
      rcases c with ⟨mu, n, eH, c⟩ | ⟨mu, eI, c⟩
      · refine ⟨v, g, fadd (fadd h (one1 pa)) h0, ⟨k, es, pa, ws, o, e0, e1, s, .inl ⟨mu, eH⟩, l⟩, y1, fun a => by have := q a; have := q1 a; have := c a; simp; omega, fun {I' H' d' g'} hI y' m => ?_⟩
        have hp := m pa (by simp [one1_self])
        have z' := k1 hI y' fun a ha => m a (by simp; omega)
        have y2 : Rp G I' H' (.nd k (setP es j p d')) (.ref pa) (fadd (fadd g' h) (one1 pa)) := ⟨pa, ws, _, o, rfl, s, z', .inl ⟨mu, hp.1, hp.2.trans eH, fun a => rfl⟩⟩
        have r := kk hI y2 fun a ha => m a (by simp; omega)
        rw [ev e1] at r
        unfold setP
        rw [e0]
        exact r.eqv fun a => by simp; omega
      · refine ⟨v, g, fadd h h0, ⟨k, es, pa, ws, o, e0, e1, s, .inr ⟨mu, eI⟩, l⟩, y1, fun a => by have := q a; have := q1 a; have := c a; simp; omega, fun {I' H' d' g'} hI y' m => ?_⟩
        have z' := k1 hI y' fun a ha => m a (by simp; omega)
        have y2 : Rp G I' H' (.nd k (setP es j p d')) (.ref pa) (fadd g' h) := ⟨pa, ws, _, o, rfl, s, z', .inr ⟨mu, hI _ _ eI, fun a => rfl⟩⟩
        have r := kk hI y2 fun a ha => m a (by simp; omega)
        rw [ev e1] at r
        unfold setP
        rw [e0]
        exact r.eqv fun a => by simp; omega
    · cases e
end
inductive R (α : Type) where
  | ok (a : α)
  | exc (c : Nat) (fs : List (Str × V)) (E : List D)
  | bad
def R.bind {α β : Type} : R α → (α → R β) → R β
  | .ok a, k => k a
  | .exc c fs E, _ => .exc c fs E
  | .bad, _ => .bad
def Sl (E : List D) (σ : St) (vs : List V) : Prop := σ.length = E.length ∧ ∀ (i : Nat) (d : D) (v : V), E[i]? = some d → d ≠ .una → vs[i]? = some v → σ[i]? = some (some v)
structure Stt (G : Gm) (σ : St) (I H : Hp) (E : List D) (vs : List V) (f : Ft) : Prop where
  sl : Sl E σ vs
  sm : ∀ a o, I a = some o → H a = some o
  rp : Rps G I H E vs f
  nd : ∀ a, f a ≤ 1
structure Fr (pu : Bool) (I H : Hp) (f : Ft) (I' H' : Hp) (f' : Ft) : Prop where
  im : ∀ a o, I a = some o → I' a = some o
  kp : ∀ a o, H a = some o → f a = 0 → H' a = some o
  un : ∀ a o, H a = some o → f a = 0 → I a = none → I' a = none
  nw : ∀ a, f' a ≠ 0 → f a ≠ 0 ∨ H a = none
  pu : pu = true → ∀ a o, H a = some o → H' a = some o ∧ (I a = none → I' a = none)
theorem Fr.refl {pu : Bool} {I H : Hp} {f : Ft} : Fr pu I H f I H f := ⟨fun _ _ e => e, fun _ _ e _ => e, fun _ _ _ _ e => e, fun _ h => .inl h, fun _ _ _ e => ⟨e, fun z => z⟩⟩
theorem Fr.trans {p1 p2 : Bool} {I H I1 H1 I2 H2 : Hp} {f f1 f2 : Ft} (a : Fr p1 I H f I1 H1 f1) (b : Fr p2 I1 H1 f1 I2 H2 f2) : Fr (p1 && p2) I H f I2 H2 f2 where
  im := fun x o e => b.im x o (a.im x o e)
  kp := fun x o e z => b.kp x o (a.kp x o e z) (by
    cases Nat.eq_zero_or_pos (f1 x) with
    | inl q => exact q
    | inr q => rcases a.nw x (by omega) with r | r; exact absurd z r; rw [e] at r; cases r)
  un := fun x o e z n => b.un x o (a.kp x o e z) (by
    cases Nat.eq_zero_or_pos (f1 x) with
    | inl q => exact q
    | inr q => rcases a.nw x (by omega) with r | r; exact absurd z r; rw [e] at r; cases r) (a.un x o e z n)
  nw := fun x h => by
    rcases b.nw x h with r | r
    · exact a.nw x r
    · by_cases q : f x = 0
      · right
        cases e : H x with
        | none => rfl
        | some o => rw [a.kp x o e q] at r; cases r
      · exact .inl q
  pu := fun h x o e => by
    simp only [Bool.and_eq_true] at h
    have r := a.pu h.1 x o e
    have s := b.pu h.2 x o r.1
    exact ⟨s.1, fun n => s.2 (r.2 n)⟩
theorem Fr.imp {p1 p2 : Bool} {I H I1 H1 : Hp} {f f1 : Ft} (a : Fr p1 I H f I1 H1 f1) (h : p2 = true → p1 = true) : Fr p2 I H f I1 H1 f1 := ⟨a.im, a.kp, a.un, a.nw, fun q => a.pu (h q)⟩
theorem Fr.less {p : Bool} {I H I1 H1 : Hp} {f f1 f2 : Ft} (a : Fr p I H f I1 H1 f1) (h : ∀ x, f2 x ≠ 0 → f1 x ≠ 0) : Fr p I H f I1 H1 f2 := ⟨a.im, a.kp, a.un, fun x q => a.nw x (h x q), a.pu⟩
/-- what lies beside is kept -/
theorem Fr.side {p : Bool} {G : Gm} {I H I1 H1 : Hp} {f f1 g : Ft} {ds : List D} {vs : List V} (a : Fr p I H f I1 H1 f1) (x : Rps G I H ds vs g) (d : ∀ x, f x + g x ≤ 1) : Rps G I1 H1 ds vs g :=
  x.move a.im fun x' h => by
    obtain ⟨n, o, e⟩ := x.trk x' h
    have z : f x' = 0 := by have := d x'; omega
    exact ⟨a.un _ _ e z n, (a.kp _ _ e z).trans e.symm⟩
theorem Fr.side1 {p : Bool} {G : Gm} {I H I1 H1 : Hp} {f f1 g : Ft} {d : D} {v : V} (a : Fr p I H f I1 H1 f1) (x : Rp G I H d v g) (nd : ∀ x, f x + g x ≤ 1) : Rp G I1 H1 d v g :=
  x.move a.im fun x' h => by
    obtain ⟨n, o, e⟩ := x.trk x' h
    have z : f x' = 0 := by have := nd x'; omega
    exact ⟨a.un _ _ e z n, (a.kp _ _ e z).trans e.symm⟩
theorem Fr.apart {p : Bool} {I H I1 H1 : Hp} {f f1 g : Ft} (a : Fr p I H f I1 H1 f1) (t : ∀ x, g x ≠ 0 → H x ≠ none) (d : ∀ x, f x + g x ≤ 1) (n1 : ∀ x, f1 x ≤ 1) : ∀ x, f1 x + g x ≤ 1 := fun x => by
  by_cases q : f1 x = 0
  · have := d x; omega
  · by_cases r : g x = 0
    · have := n1 x; omega
    · rcases a.nw x q with s | s
      · have := d x; omega
      · exact absurd s (t x r)
/-- with something beside, as one -/
theorem Fr.with {p : Bool} {I H I1 H1 : Hp} {f f1 g : Ft} (a : Fr p I H f I1 H1 f1) : Fr p I H (fadd f g) I1 H1 (fadd f1 g) :=
  ⟨a.im, fun x o e z => a.kp x o e (by simp at z; omega), fun x o e z => a.un x o e (by simp at z; omega), fun x h => by
    simp at h
    by_cases q : f1 x = 0
    · left; simp; omega
    · rcases a.nw x q with r | r
      · left; simp; omega
      · exact .inr r, a.pu⟩
/-- new objects alone -/
structure Nw (I H I' H' : Hp) : Prop where
  im : ∀ a o, I a = some o → I' a = some o
  kp : ∀ a o, H a = some o → H' a = some o
  un : ∀ a o, H a = some o → I a = none → I' a = none
  sm : ∀ a o, I' a = some o → H' a = some o
theorem Nw.refl {I H : Hp} (s : ∀ a o, I a = some o → H a = some o) : Nw I H I H := ⟨fun _ _ e => e, fun _ _ e => e, fun _ _ _ e => e, s⟩
theorem Nw.mutP {I H : Hp} {p : Addr} {o : HO} (s : ∀ a o, I a = some o → H a = some o) (n : H p = none) : Nw I H I (upd H p o) :=
  ⟨fun _ _ e => e, fun a u e => by rw [upd_ne (ne_of_none e n)]; exact e, fun _ _ _ e => e, fun a u e => by rw [upd_ne (ne_of_none (s _ _ e) n)]; exact s _ _ e⟩
theorem Nw.fixP {I H : Hp} {p : Addr} {o : HO} (s : ∀ a o, I a = some o → H a = some o) (n : H p = none) : Nw I H (upd I p o) (upd H p o) :=
  ⟨fun a u e => by rw [upd_ne (ne_of_none (s _ _ e) n)]; exact e, fun a u e => by rw [upd_ne (ne_of_none e n)]; exact e, fun a u e z => by rw [upd_ne (ne_of_none e n)]; exact z, fun a u e => by
    by_cases q : a = p
    · subst q; rw [upd_same] at e ⊢; exact e
    · rw [upd_ne q] at e ⊢; exact s _ _ e⟩
theorem Nw.fr {I H I' H' : Hp} {f g : Ft} (n : Nw I H I' H') (h : ∀ a, g a ≠ 0 → f a ≠ 0 ∨ H a = none) {pu : Bool} : Fr pu I H f I' H' g :=
  ⟨n.im, fun a o e _ => n.kp a o e, fun a o e _ => n.un a o e, h, fun _ a o e => ⟨n.kp a o e, n.un a o e⟩⟩
theorem Nw.trans {I H I1 H1 I2 H2 : Hp} (a : Nw I H I1 H1) (b : Nw I1 H1 I2 H2) : Nw I H I2 H2 :=
  ⟨fun x o e => b.im x o (a.im x o e), fun x o e => b.kp x o (a.kp x o e), fun x o e n => b.un x o (a.kp x o e) (a.un x o e n), b.sm⟩
theorem Nw.rps {G : Gm} {I H I1 H1 : Hp} {g : Ft} {ds : List D} {vs : List V} (a : Nw I H I1 H1) (x : Rps G I H ds vs g) : Rps G I1 H1 ds vs g :=
  x.move a.im fun x' h => by obtain ⟨n, o, e⟩ := x.trk x' h; exact ⟨a.un _ _ e n, (a.kp _ _ e).trans e.symm⟩
theorem Nw.rp {G : Gm} {I H I1 H1 : Hp} {g : Ft} {d : D} {v : V} (a : Nw I H I1 H1) (x : Rp G I H d v g) : Rp G I1 H1 d v g :=
  x.move a.im fun x' h => by obtain ⟨n, o, e⟩ := x.trk x' h; exact ⟨a.un _ _ e n, (a.kp _ _ e).trans e.symm⟩
theorem Stt.nw {G : Gm} {σ : St} {I H I' H' : Hp} {E : List D} {vs : List V} {f : Ft} (s : Stt G σ I H E vs f) (n : Nw I H I' H') : Stt G σ I' H' E vs f := ⟨s.sl, n.sm, n.rps s.rp, s.nd⟩
inductive Opd where
  | val (d : D)
  | plc (i : Nat) (p : List Nat)
def OpRel (G : Gm) (I H : Hp) (E : List D) (vs : List V) : Opd → V → Ft → Prop
  | .val d, v, g => Rp G I H d v g
  | .plc i p, v, g => Loc G I H E vs i p v ∧ ∀ a, g a = 0
def OpsRel (G : Gm) (I H : Hp) (E : List D) (vs : List V) : List Opd → List V → Ft → Prop
  | [], ws, g => ws = [] ∧ ∀ a, g a = 0
  | o :: os, ws, g => ∃ v vr g1 g2, ws = v :: vr ∧ OpRel G I H E vs o v g1 ∧ OpsRel G I H E vs os vr g2 ∧ ∀ a, g a = g1 a + g2 a
/-- the content -/
def cont (E : List D) : Opd → Option D
  | .val d => some d
  | .plc i p => getP E i p
def conts (E : List D) : List Opd → Option (List D)
  | [] => some []
  | o :: os => match cont E o, conts E os with
    | some d, some ds => some (d :: ds)
    | _, _ => none
def stab (pu : Bool) : Opd → Bool
  | .val _ => true
  | .plc _ [] => true
  | .plc _ _ => pu
section
variable {G : Gm} {σ : St} {I H I1 H1 : Hp} {E E1 : List D} {vs : List V} {f f1 g : Ft} {o : Opd} {v : V} {pu : Bool}
theorem OpRel.trk (x : OpRel G I H E vs o v g) : ∀ a, g a ≠ 0 → H a ≠ none := fun a h => by
  cases o with
  | val d => obtain ⟨_, u, e⟩ := Rp.trk x a h; rw [e]; simp
  | plc i p => exact absurd (x.2 a) h
theorem OpRel.keep (x : OpRel G I H E vs o v g) (st : stab pu o = true) (a : Fr pu I H f I1 H1 f1) (d : ∀ x, f x + g x ≤ 1) (e : pu = true → E1 = E) : OpRel G I1 H1 E1 vs o v g := by
  cases o with
  | val d0 => exact a.side1 x d
  | plc i p =>
    cases p with
    | nil => exact x
    | cons j p =>
      have hp : pu = true := st
      refine ⟨?_, x.2⟩
      rw [e hp]
      exact x.1.keep a.im fun a' o' e' => (a.pu hp a' o' e').1
/-- the content of an operand stands at its value -/
theorem OpRel.cont (s : Stt G σ I H E vs f) (x : OpRel G I H E vs o v g) (n : ∀ a, g a ≤ 1) {d : D} (e : cont E o = some d) : ∃ g', Rp G I H d v g' ∧ ∀ a, g' a ≤ 1 := by
  cases o with
  | val d0 => cases e; exact ⟨g, x, n⟩
  | plc i p =>
    obtain ⟨w, g1, h, l, y, q, _⟩ := s.rp.focus (show getP E i p = some d from e)
    have ew := l.inj x.1
    subst ew
    exact ⟨g1, y, fun a => by have := q a; have := s.nd a; omega⟩
end
/-- contents, each for itself -/
def Rpi (G : Gm) (I H : Hp) : List D → List V → Prop
  | [], vs => vs = []
  | d :: ds, vs => ∃ v ws g, vs = v :: ws ∧ Rp G I H d v g ∧ (∀ a, g a ≤ 1) ∧ Rpi G I H ds ws
theorem OpsRel.conts {G : Gm} {σ : St} {I H : Hp} {E : List D} {vs : List V} {f : Ft} (s : Stt G σ I H E vs f) : ∀ {os : List Opd} {ws : List V} {g : Ft}, OpsRel G I H E vs os ws g → (∀ a, g a ≤ 1) → ∀ {ds : List D}, conts E os = some ds → Rpi G I H ds ws
  | [], ws, g, x, n, ds, e => by cases e; exact x.1
  | o :: os, ws, g, x, n, ds, e => by
    obtain ⟨v, vr, g1, g2, rfl, y, z, q⟩ := x
    unfold DL.conts at e
    split at e
    · rename_i d ds' e1 e2
      cases e
      obtain ⟨g', r, n'⟩ := OpRel.cont s y (fun a => by have := n a; have := q a; omega) e1
      exact ⟨v, vr, g', rfl, r, n', z.conts s (fun a => by have := n a; have := q a; omega) e2⟩
    · cases e
end DL
end
section
set_option maxRecDepth 100000
namespace DL
open PySem L2
def ExcAt (G : Gm) (H : Hp) (cls : Value) (d : Option Addr) (c : Nat) (fs : List (Str × V)) : Prop := cls = .ref (G.cls c) ∧ ((fs = [] ∧ d = none) ∨ (fs ≠ [] ∧ ∃ a, d = some a ∧ H a = some (.xd fs)))
def Ans (G : Gm) (W : WX) (σ : St) (I H : Hp) (f : Ft) (vs : List V) {α : Type} : R α → (α → Prop) → Prop
  | .ok a, k => k a
  | .exc c fs E', _ => ∀ cls d I' H' f', Stt G σ I' H' E' vs f' → ExcAt G H' cls d c fs → Fr false I H f I' H' f' → W cls d σ H'
  | .bad, _ => False
abbrev Den := List D → R (Opd × List D)
abbrev DenA := List D → R (List Opd × List D)
def tO (G : Gm) (W : WX) (pu : Bool) (den : Den) : TE := fun σ H Q => ∃ I E vs f, Stt G σ I H E vs f ∧ Ans G W σ I H f vs (den E) fun r =>
  ∀ v I' H' f' g, Stt G σ I' H' r.2 vs f' → OpRel G I' H' r.2 vs r.1 v g → (∀ a, f' a + g a ≤ 1) → Fr pu I H f I' H' (fadd f' g) → (pu = true → r.2 = E) → Q v H'
def tA (G : Gm) (W : WX) (pu : Bool) (den : DenA) : TA := fun σ H Q => ∃ I E vs f, Stt G σ I H E vs f ∧ Ans G W σ I H f vs (den E) fun r =>
  ∀ ws I' H' f' g, Stt G σ I' H' r.2 vs f' → OpsRel G I' H' r.2 vs r.1 ws g → (∀ a, f' a + g a ≤ 1) → Fr pu I H f I' H' (fadd f' g) → (pu = true → r.2 = E) → Q ws H'
theorem PE_imp {X : Cx} {e : Expr} {t t' : TE} (h : PE X e t) (k : ∀ σ H Q, t' σ H Q → t σ H Q) : PE X e t' := ⟨fun pins s σ H Q I q => h.run pins s σ H Q I (k σ H Q q)⟩
theorem PA_imp {X : Cx} {e : List Expr} {t t' : TA} (h : PA X e t) (k : ∀ σ H Q, t' σ H Q → t σ H Q) : PA X e t' := ⟨fun pos pins s σ H Q I q => h.run pos pins s σ H Q I (k σ H Q q)⟩
theorem PT_imp {X : Cx} {e : Expr} {t t' : TT} (h : PT X e t) (k : ∀ σ H Q, t' σ H Q → t σ H Q) : PT X e t' := ⟨fun pins s σ H Q I q => h.run pins s σ H Q I (k σ H Q q)⟩
theorem PW_imp {X : Cx} {e : Expr} {t t' : TT} (h : PW X e t) (k : ∀ σ H Q, t' σ H Q → t σ H Q) : PW X e t' := ⟨fun wh pins s σ H Q I q => h.run wh pins s σ H Q I (k σ H Q q)⟩
theorem PS_imp {X : Cx} {e : Stmt} {t t' : TS} (h : PS X e t) (k : ∀ D σ H, t' D σ H → t D σ H) : PS X e t' := ⟨fun pins s σ H D I q => h.run pins s σ H D I (k D σ H q)⟩
theorem PSs_imp {X : Cx} {e : List Stmt} {t t' : TS} (h : PSs X e t) (k : ∀ D σ H, t' D σ H → t D σ H) : PSs X e t' := ⟨fun pins s σ H D I q => h.run pins s σ H D I (k D σ H q)⟩
section
variable {G : Gm} {W : WX} {σ : St} {I H : Hp} {f : Ft} {vs : List V} {α β : Type}
theorem Ans.imp {r : R α} {k k' : α → Prop} (h : Ans G W σ I H f vs r k) (i : ∀ a, r = .ok a → k a → k' a) : Ans G W σ I H f vs r k' := by
  cases r with
  | ok a => exact i a rfl h
  | exc c fs E => exact h
  | bad => exact h
/-- two steps, one behind the other: the first as it is wanted alone -/
theorem Ans.fst {r : R α} {c : α → R β} {k : β → Prop} {k1 : α → Prop} (h : Ans G W σ I H f vs (r.bind c) k) (i : ∀ a, r = .ok a → Ans G W σ I H f vs (c a) k → k1 a) : Ans G W σ I H f vs r k1 := by
  cases r with
  | ok a => exact i a rfl h
  | exc _ _ _ => exact h
  | bad => exact h
/-- the frame moved on -/
theorem Ans.fwd {pu : Bool} {I1 H1 : Hp} {f1 : Ft} {r : R α} {k : α → Prop} (h : Ans G W σ I H f vs r k) (a : Fr pu I H f I1 H1 f1) : Ans G W σ I1 H1 f1 vs r k := by
  cases r with
  | ok a => exact h
  | exc c fs E => exact fun cls d I' H' f' s x b => h cls d I' H' f' s x ((a.trans b).imp fun z => by cases z)
  | bad => exact h
end
def rName (i : Nat) : Den := fun E => match E[i]? with
  | some .una => .bad
  | some _ => .ok (.plc i [], E)
  | none => .bad
def rC (v : V) : Den := fun E => .ok (.val (.sc v), E)
section
variable {G : Gm} {W : WX} {pu : Bool}
theorem t_name {i : Nat} : ∀ σ H Q, tO G W true (rName i) σ H Q → tVar i σ H Q := by
  rintro σ H Q ⟨I, E, vs, f, s, h⟩
  unfold rName at h
  split at h
  · exact h.elim
  · rename_i d hd e
    have hl : i < E.length := (List.getElem?_eq_some_iff.mp e).1
    have hv : i < vs.length := by rw [s.rp.len]; exact hl
    have ev : vs[i]? = some vs[i] := List.getElem?_eq_getElem hv
    refine ⟨vs[i], s.sl.2 i _ _ e (by rintro rfl; exact hd rfl) ev, ?_⟩
    exact h vs[i] I H f z0 s ⟨ev, fun _ => rfl⟩ (fun a => by simp; exact s.nd a) (Fr.refl.less fun x q => by simpa using q) fun _ => rfl
  · exact h.elim
theorem t_c {v : V} : ∀ σ H Q, tO G W true (rC v) σ H Q → tC v σ H Q := by
  rintro σ H Q ⟨I, E, vs, f, s, h⟩
  exact h v I H f z0 s ⟨rfl, fun _ => rfl⟩ (fun a => by simp; exact s.nd a) (Fr.refl.less fun x q => by simpa using q) fun _ => rfl
end
/-- a value, or a copy of what is frozen -/
def dCopy (d : Den) : Den := fun E => (d E).bind fun r => match r.1 with
  | .val c => .ok (.val c, r.2)
  | .plc i p => match getP r.2 i p with
    | some c => if Fz c then .ok (.val c, r.2) else .bad
    | none => .bad
/-- a value, or what stands there, frozen from then on -/
def dFrz (d : Den) : Den := fun E => (d E).bind fun r => match r.1 with
  | .val c => .ok (.val c, r.2)
  | .plc i p => match getP r.2 i p with
    | some c => if Fz c then .ok (.val c, r.2) else .ok (.val (fz c), setP r.2 i p (fz c))
    | none => .bad
/-- out of a name that is not read again -/
def dMove (i : Nat) : Den := fun E => match E[i]? with
  | some .una => .bad
  | some c => .ok (.val c, E.set i .una)
  | none => .bad
/-- all frozen -/
def dCold (d : Den) : Den := fun E => (d E).bind fun r => match r.1 with
  | .val c => .ok (.val (fz c), r.2)
  | .plc i p => .ok (.plc i p, r.2)
section
variable {G : Gm} {W : WX} {pu : Bool} {d : Den}
/-- what stands at a place -/
theorem Stt.at {σ : St} {I H : Hp} {E : List D} {vs : List V} {f : Ft} {i : Nat} {p : List Nat} {v : V} {c : D} (s : Stt G σ I H E vs f) (l : Loc G I H E vs i p v) (e : getP E i p = some c) :
    ∃ g h, Rp G I H c v g ∧ (∀ a, f a = g a + h a) ∧ ∀ {I' H' : Hp} {d' : D} {g' : Ft}, (∀ a o, I a = some o → I' a = some o) → Rp G I' H' d' v g' → (∀ a, h a ≠ 0 → I' a = none ∧ H' a = H a) → Rps G I' H' (setP E i p d') vs (fadd g' h) := by
  obtain ⟨w, g, h, l', y, q, k⟩ := s.rp.focus e
  have ew := l'.inj l
  subst ew
  exact ⟨g, h, y, q, k⟩
theorem t_copy : ∀ σ H Q, tO G W pu (dCopy d) σ H Q → tO G W pu d σ H Q := by
  rintro σ H Q ⟨I, E, vs, f, s, h⟩
  refine ⟨I, E, vs, f, s, h.fst fun r er h => ?_⟩
  intro v I' H' f' g s' o n a e
  obtain ⟨op, E'⟩ := r
  cases op with
  | val c => exact h v I' H' f' g s' o n a e
  | plc i p =>
    dsimp only at h
    split at h
    · rename_i c ec
      split at h
      · rename_i hf
        obtain ⟨g1, h1, y, q, k⟩ := s'.at o.1 ec
        exact h v I' H' f' g s' ((y.fz0 hf).eqv fun a => (o.2 a).symm) n a e
      · exact h.elim
    · exact h.elim
theorem setP_len : ∀ {p : List Nat} {E : List D} {i : Nat} {c : D}, (setP E i p c).length = E.length
  | [], E, i, c => by simp [setP]
  | j :: p, E, i, c => by
    unfold setP
    split <;> simp
theorem getP_root : ∀ {p : List Nat} {E : List D} {i : Nat} {c : D}, getP E i p = some c → c ≠ .una → ∃ d, E[i]? = some d ∧ d ≠ .una
  | [], E, i, c, e, n => ⟨c, e, n⟩
  | j :: p, E, i, c, e, n => by
    unfold getP at e
    split at e
    · rename_i k es e0
      exact ⟨_, e0, by simp⟩
    · cases e
theorem setP_root : ∀ {p : List Nat} {E : List D} {i j : Nat} {c d : D}, (setP E i p c)[j]? = some d → d ≠ .una → (∃ d0, E[j]? = some d0 ∧ d0 ≠ .una) ∨ (j = i ∧ p = [])
  | [], E, i, j, c, d, e, n => by
    unfold setP at e
    by_cases h : i = j
    · subst h; exact .inr ⟨rfl, rfl⟩
    · rw [List.getElem?_set_ne h] at e
      exact .inl ⟨d, e, n⟩
  | k :: p, E, i, j, c, d, e, n => by
    unfold setP at e
    split at e
    · rename_i k es e0
      by_cases h : i = j
      · subst h; exact .inl ⟨_, e0, by simp⟩
      · rw [List.getElem?_set_ne h] at e
        exact .inl ⟨d, e, n⟩
    · exact .inl ⟨d, e, n⟩
theorem Sl.setP {σ : St} {E : List D} {vs : List V} {i : Nat} {p : List Nat} {c c' : D} (s : Sl E σ vs) (e : getP E i p = some c) (n : c' ≠ .una → c ≠ .una) : Sl (setP E i p c') σ vs := by
  refine ⟨s.1.trans setP_len.symm, fun j d v e1 n1 e2 => ?_⟩
  rcases setP_root e1 n1 with ⟨d0, e0, n0⟩ | ⟨rfl, rfl⟩
  · exact s.2 j d0 v e0 n0 e2
  · unfold DL.setP at e1
    have hl : j < E.length := (List.getElem?_eq_some_iff.mp (show E[j]? = some c from e)).1
    rw [List.getElem?_set_self hl] at e1
    cases e1
    exact s.2 j c v e (n n1) e2
theorem fz_una {c : D} (h : fz c ≠ .una) : c ≠ .una := by rintro rfl; exact h rfl
/-- a place frozen -/
theorem Stt.freeze {σ : St} {I H : Hp} {E : List D} {vs : List V} {f : Ft} {i : Nat} {p : List Nat} {v : V} {c : D} (s : Stt G σ I H E vs f) (l : Loc G I H E vs i p v) (e : getP E i p = some c) :
    ∃ I' f', Stt G σ I' H (setP E i p (fz c)) vs f' ∧ Rp G I' H (fz c) v z0 ∧ (∀ a, f' a ≤ f a) ∧ Fr false I H f I' H f' := by
  obtain ⟨g, h, y, q, k⟩ := s.at l e
  have im : ∀ a o, I a = some o → (fun a => if g a ≠ 0 then H a else I a) a = some o := fun a o e => by
    by_cases z : g a ≠ 0
    · obtain ⟨n, _⟩ := y.trk a z
      rw [n] at e; cases e
    · simp only [z, if_false]; exact e
  have fr : Rp G (fun a => if g a ≠ 0 then H a else I a) H (fz c) v z0 := y.freeze im fun a z => by simp [z]
  refine ⟨fun a => if g a ≠ 0 then H a else I a, fadd z0 h, ⟨s.sl.setP e fz_una, fun a o e => ?_, k im fr fun a z => ?_, fun a => ?_⟩, fr, fun a => ?_, ?_⟩
  · by_cases z : g a ≠ 0
    · rw [if_pos z] at e; exact e
    · rw [if_neg z] at e; exact s.sm a o e
  · have : g a = 0 := by have := q a; have := s.nd a; omega
    have t := s.rp.trk a (by have := q a; omega)
    refine ⟨?_, rfl⟩
    simp [this, t.1]
  · have := q a; have := s.nd a; simp; omega
  · have := q a; simp; omega
  · refine ⟨im, fun a o e _ => e, fun a o e z n => ?_, fun a z => .inl ?_, fun z => by cases z⟩
    · have : g a = 0 := by have := q a; omega
      simp [this, n]
    · have := q a; simp at z; omega
theorem t_frz : ∀ σ H Q, tO G W false (dFrz d) σ H Q → tO G W pu d σ H Q := by
  rintro σ H Q ⟨I, E, vs, f, s, h⟩
  refine ⟨I, E, vs, f, s, h.fst fun r er h => ?_⟩
  intro v I' H' f' g s' o n a e
  obtain ⟨op, E'⟩ := r
  cases op with
  | val c => exact h v I' H' f' g s' o n (a.imp fun z => by cases z) (fun z => by cases z)
  | plc i p =>
    dsimp only at h
    split at h
    · rename_i c ec
      split at h
      · rename_i hf
        obtain ⟨g1, h1, y, q, k⟩ := s'.at o.1 ec
        exact h v I' H' f' g s' ((y.fz0 hf).eqv fun a => (o.2 a).symm) n (a.imp fun z => by cases z) (fun z => by cases z)
      · obtain ⟨I2, f2, s2, y2, le, b⟩ := s'.freeze o.1 ec
        refine h v I2 H' f2 z0 s2 y2 (fun a => by simp; exact s2.nd a) ?_ (fun z => by cases z)
        refine ((a.less (f2 := f') fun x z => by simp; omega).trans b).less (fun x z => by simpa using z) |>.imp fun z => by cases z
    · exact h.elim
theorem t_move {i : Nat} : ∀ σ H Q, tO G W false (dMove i) σ H Q → tVar i σ H Q := by
  rintro σ H Q ⟨I, E, vs, f, s, h⟩
  unfold dMove at h
  split at h
  · exact h.elim
  · rename_i d hd e
    obtain ⟨v, g, h1, ev, y, q, k⟩ := s.rp.get e
    refine ⟨v, s.sl.2 i _ _ e (by rintro rfl; exact hd rfl) ev, ?_⟩
    have k' := k (I' := I) (H' := H) (d' := .una) (v' := v) (g' := z0) (fun _ _ e => e) (fun _ => rfl) fun a z => ⟨(s.rp.trk a (by have := q a; omega)).1, rfl⟩
    have evs : vs.set i v = vs := by
      obtain ⟨hl, e2⟩ := List.getElem?_eq_some_iff.mp ev
      rw [← e2, List.set_getElem_self]
    rw [evs] at k'
    refine h v I H (fadd z0 h1) g ⟨⟨by simp [s.sl.1], fun j d' v' e1 n1 e2 => ?_⟩, s.sm, k', fun a => by have := q a; have := s.nd a; simp; omega⟩ y (fun a => by have := q a; have := s.nd a; simp; omega) ?_ (fun z => by cases z)
    · by_cases hj : i = j
      · subst hj
        rw [List.getElem?_set_self (List.getElem?_eq_some_iff.mp e).1] at e1
        cases e1; exact absurd rfl n1
      · rw [List.getElem?_set_ne hj] at e1
        exact s.sl.2 j d' v' e1 n1 e2
    · exact Fr.refl.less fun x z => by have := q x; simp at z; omega
  · exact h.elim
theorem Rp.cool {σ : St} {I H : Hp} {E : List D} {vs : List V} {f g : Ft} {v : V} {c : D} (s : Stt G σ I H E vs f) (y : Rp G I H c v g) (n : ∀ a, f a + g a ≤ 1) :
    ∃ I', Stt G σ I' H E vs f ∧ Rp G I' H (fz c) v z0 ∧ Fr false I H (fadd f g) I' H f := by
  have im : ∀ a o, I a = some o → (fun a => if g a ≠ 0 then H a else I a) a = some o := fun a o e => by
    by_cases z : g a ≠ 0
    · obtain ⟨n, _⟩ := y.trk a z
      rw [n] at e; cases e
    · simp only [z, if_false]; exact e
  refine ⟨fun a => if g a ≠ 0 then H a else I a, ⟨s.sl, fun a o e => ?_, s.rp.move im fun a z => ?_, s.nd⟩, y.freeze im fun a z => by simp [z], ⟨im, fun a o e _ => e, fun a o e z n => ?_, fun a z => .inl ?_, fun z => by cases z⟩⟩
  · by_cases z : g a ≠ 0
    · rw [if_pos z] at e; exact e
    · rw [if_neg z] at e; exact s.sm a o e
  · have : g a = 0 := by have := n a; omega
    exact ⟨by simp [this]; exact (s.rp.trk a z).1, rfl⟩
  · have : g a = 0 := by simp at z; omega
    simp [this, n]
  · simp; omega
theorem t_cold : ∀ σ H Q, tO G W false (dCold d) σ H Q → tO G W pu d σ H Q := by
  rintro σ H Q ⟨I, E, vs, f, s, h⟩
  refine ⟨I, E, vs, f, s, h.fst fun r er h => ?_⟩
  intro v I' H' f' g s' o n a e
  obtain ⟨op, E'⟩ := r
  cases op with
  | val c =>
    obtain ⟨I2, s2, y2, b⟩ := Rp.cool s' o n
    exact h v I2 H' f' z0 s2 y2 (fun a => by simp; exact s2.nd a) ((((a.trans b)).less fun x z => by simpa using z).imp fun z => by cases z) (fun z => by cases z)
  | plc i p => exact h v I' H' f' g s' o n (a.imp fun z => by cases z) (fun z => by cases z)
end
def aNil : DenA := fun E => .ok ([], E)
def aCons (pu2 : Bool) (d : Den) (ds : DenA) : DenA := fun E => (d E).bind fun r => if stab pu2 r.1 then (ds r.2).bind fun q => .ok (r.1 :: q.1, q.2) else .bad
section
variable {G : Gm} {W : WX} {pu pu1 pu2 : Bool} {d d1 d2 : Den} {ds : DenA}
theorem t_anil : ∀ σ H Q, tA G W true aNil σ H Q → tNil σ H Q := by
  rintro σ H Q ⟨I, E, vs, f, s, h⟩
  exact h [] I H f z0 s ⟨rfl, fun _ => rfl⟩ (fun a => by simp; exact s.nd a) (Fr.refl.less fun x q => by simpa using q) fun _ => rfl
theorem t_acons {te : TE} {ta : TA} (h1 : ∀ σ H Q, tO G W pu1 d σ H Q → te σ H Q) (h2 : ∀ σ H Q, tA G W pu2 ds σ H Q → ta σ H Q) : ∀ σ H Q, tA G W (pu1 && pu2) (aCons pu2 d ds) σ H Q → tCons te ta σ H Q := by
  rintro σ H Q ⟨I, E, vs, f, s, h⟩
  refine h1 _ _ _ ⟨I, E, vs, f, s, h.fst fun r er h => ?_⟩
  intro v I1 H1 f1 g1 s1 o1 n1 a1 e1
  split at h
  · rename_i st
    have a1' : Fr pu1 I H f I1 H1 f1 := a1.less fun x z => by simp; omega
    refine h2 _ _ _ ⟨I1, r.2, vs, f1, s1, (h.fwd a1').fst fun q eq h => ?_⟩
    intro ws I2 H2 f2 g2 s2 o2 n2 a2 e2
    have o1' := o1.keep st (E1 := q.2) a2 n1 e2
    have n3 := a2.apart (g := g1) o1.trk n1 (fun x => by have := n2 x; simpa using this)
    refine h (v :: ws) I2 H2 f2 (fadd g1 g2) s2 ⟨v, ws, g1, g2, rfl, o1', o2, fun a => rfl⟩ (fun a => by have := n3 a; simp at this ⊢; omega) ?_ (fun z => ?_)
    · have := (a1.trans (a2.with (g := g1))).less (f2 := fadd f2 (fadd g1 g2)) (fun x z => by simp at z ⊢; omega)
      exact this
    · simp only [Bool.and_eq_true] at z
      rw [e2 z.2, e1 z.1]
  · exact h.elim
end
/-- what an operation gives: new data, or frozen data -/
def OpS (G : Gm) (r : List V → Hp → VK → Prop) (F : List D → Option D) : Prop := ∀ (I H : Hp) (ds : List D) (ws : List V) (d : D), (∀ a o, I a = some o → H a = some o) → Rpi G I H ds ws → F ds = some d →
  ∀ Q : VK, (∀ v I' H' g, Nw I H I' H' → Rp G I' H' d v g → (∀ a, g a ≤ 1) → (∀ a, g a ≠ 0 → H a = none) → Q v H') → r ws H Q
def dOp (F : List D → Option D) (das : DenA) : Den := fun E => (das E).bind fun r => match conts r.2 r.1 with
  | some ds => match F ds with
    | some d => .ok (.val d, r.2)
    | none => .bad
  | none => .bad
section
variable {G : Gm} {W : WX} {pu : Bool} {das : DenA} {F : List D → Option D} {r : List V → Hp → VK → Prop}
theorem t_op {ta : TA} (hr : OpS G r F) (ha : ∀ σ H Q, tA G W pu das σ H Q → ta σ H Q) : ∀ σ H Q, tO G W pu (dOp F das) σ H Q → tCB r ta σ H Q := by
  rintro σ H Q ⟨I, E, vs, f, s, h⟩
  refine ha _ _ _ ⟨I, E, vs, f, s, h.fst fun x ex h => ?_⟩
  intro ws I1 H1 f1 g1 s1 o1 n1 a1 e1
  split at h
  · rename_i ds ed
    split at h
    · rename_i d edd
      refine hr I1 H1 ds ws d s1.sm (o1.conts s1 (fun a => by have := n1 a; omega) ed) edd Q fun v I2 H2 g nw y n2 fr => ?_
      refine h v I2 H2 f1 g (s1.nw nw) y (fun a => ?_) ?_ e1
      · by_cases z : g a = 0
        · have := s1.nd a; omega
        · have z1 : f1 a = 0 := by
            by_cases z2 : f1 a = 0
            · exact z2
            · obtain ⟨_, o, e⟩ := s1.rp.trk a z2
              rw [fr a z] at e; cases e
          have := n2 a; omega
      · have b : Fr pu I1 H1 (fadd f1 g1) I2 H2 (fadd f1 g) := nw.fr fun a z => by
          by_cases z2 : g a = 0
          · left; simp at z ⊢; omega
          · right; exact fr a z2
        exact (a1.trans b).imp fun z => by simp [z]
    · exact h.elim
  · exact h.elim
/-- two, one operands -/
def r2l (r : R2) : List V → Hp → VK → Prop := fun ws H Q => match ws with
  | [x, y] => r x y H Q
  | _ => False
def r1l (r : V → Hp → VK → Prop) : List V → Hp → VK → Prop := fun ws H Q => match ws with
  | [x] => r x H Q
  | _ => False
theorem t_op2 {r2 : R2} {ta tb : TE} {pu1 pu2 : Bool} {d1 d2 : Den} (hr : OpS G (r2l r2) F) (h1 : ∀ σ H Q, tO G W pu1 d1 σ H Q → ta σ H Q) (h2 : ∀ σ H Q, tO G W pu2 d2 σ H Q → tb σ H Q) :
    ∀ σ H Q, tO G W (pu1 && (pu2 && true)) (dOp F (aCons (pu2 && true) d1 (aCons true d2 aNil))) σ H Q → tOp r2 ta tb σ H Q := fun σ H Q q =>
  t_op hr (t_acons h1 (t_acons h2 t_anil)) σ H Q q
theorem t_op1 {r1 : V → Hp → VK → Prop} {ta : TE} {pu1 : Bool} {d1 : Den} (hr : OpS G (r1l r1) F) (h1 : ∀ σ H Q, tO G W pu1 d1 σ H Q → ta σ H Q) :
    ∀ σ H Q, tO G W (pu1 && true) (dOp F (aCons true d1 aNil)) σ H Q → tUn r1 ta σ H Q := fun σ H Q q =>
  t_op hr (t_acons h1 t_anil) σ H Q q
end
end DL
end
section
set_option maxRecDepth 100000
namespace DL
open PySem L2
def opVals : List Opd → Option (List D)
  | [] => some []
  | .val d :: os => match opVals os with
    | some ds => some (d :: ds)
    | none => none
  | .plc _ _ :: _ => none
theorem OpsRel.vals {G : Gm} {I H : Hp} {E : List D} {vs : List V} : ∀ {os : List Opd} {ws : List V} {g : Ft} {ds : List D}, OpsRel G I H E vs os ws g → opVals os = some ds → Rps G I H ds ws g
  | [], ws, g, ds, x, e => by cases e; exact x
  | .val d :: os, ws, g, ds, x, e => by
    unfold opVals at e
    split at e
    · rename_i ds' e'
      cases e
      obtain ⟨v, vr, g1, g2, rfl, y, z, q⟩ := x
      exact ⟨v, vr, g1, g2, rfl, y, z.vals e', q⟩
    · cases e
  | .plc _ _ :: _, _, _, _, _, e => by cases e
def dTup (das : DenA) : Den := fun E => (das E).bind fun r => match opVals r.1 with
  | some ds => if ds.length ≤ 100000 then .ok (.val (.nd .tup ds), r.2) else .bad
  | none => .bad
def dLst (das : DenA) : Den := fun E => (das E).bind fun r => match opVals r.1 with
  | some ds => if ds.length ≤ 100000 then .ok (.val (.nd (.lst true) ds), r.2) else .bad
  | none => .bad
theorem line5 {n : Nat} (h : n ≤ 100000) : n ≤ sizeLine := Nat.le_trans h (by decide)
section
variable {G : Gm} {W : WX} {pu : Bool} {das : DenA}
/-- a new node that never changes -/
theorem new_fix {I H : Hp} {p : Addr} {k : Kd} {ds : List D} {ws : List V} {g : Ft} {o : HO} (sm : ∀ a o, I a = some o → H a = some o) (n : H p = none) (mu : k.mut = false) (s : k.st G ws o) (x : Rps G I H ds ws g) : Rp G (upd I p o) (upd H p o) (.nd k ds) (.ref p) g :=
  ⟨p, ws, g, o, rfl, s, (Nw.fixP sm n).rps x, .inr ⟨mu, upd_same, fun _ => rfl⟩⟩
theorem new_mut {I H : Hp} {p : Addr} {k : Kd} {ds : List D} {ws : List V} {g : Ft} {o : HO} (sm : ∀ a o, I a = some o → H a = some o) (n : H p = none) (mu : k.mut = true) (s : k.st G ws o) (x : Rps G I H ds ws g) : Rp G I (upd H p o) (.nd k ds) (.ref p) (fadd g (one1 p)) := by
  refine ⟨p, ws, g, o, rfl, s, (Nw.mutP sm n).rps x, .inl ⟨mu, ?_, upd_same, fun _ => rfl⟩⟩
  cases e : I p with
  | none => rfl
  | some u => rw [sm _ _ e] at n; cases n
theorem free_of {I H : Hp} {E : List D} {vs : List V} {f : Ft} {p : Addr} (x : Rps G I H E vs f) (n : H p = none) : f p = 0 := by
  by_cases z : f p = 0
  · exact z
  · obtain ⟨_, o, e⟩ := x.trk p z
    rw [n] at e; cases e
theorem t_tup {ta : TA} (ha : ∀ σ H Q, tA G W pu das σ H Q → ta σ H Q) : ∀ σ H Q, tO G W pu (dTup das) σ H Q → tTup ta σ H Q := by
  rintro σ H Q ⟨I, E, vs, f, s, h⟩
  refine ha _ _ _ ⟨I, E, vs, f, s, h.fst fun x ex h => ?_⟩
  intro ws I1 H1 f1 g1 s1 o1 n1 a1 e1
  split at h
  · rename_i ds ed
    split at h
    · rename_i hl
      have x := o1.vals ed
      refine ⟨by rw [x.len]; exact line5 hl, fun p hp => ?_⟩
      have nw := Nw.fixP (o := .tup ws) s1.sm hp
      exact h (.ref p) _ _ f1 g1 (s1.nw nw) (new_fix s1.sm hp rfl rfl x) n1 (((a1.trans (nw.fr (f := fadd f1 g1) (g := fadd f1 g1) (pu := pu) fun a z => .inl z))).imp fun z => by simp [z]) e1
    · exact h.elim
  · exact h.elim
theorem t_lst {ta : TA} (ha : ∀ σ H Q, tA G W pu das σ H Q → ta σ H Q) : ∀ σ H Q, tO G W pu (dLst das) σ H Q → tLst ta σ H Q := by
  rintro σ H Q ⟨I, E, vs, f, s, h⟩
  refine ha _ _ _ ⟨I, E, vs, f, s, h.fst fun x ex h => ?_⟩
  intro ws I1 H1 f1 g1 s1 o1 n1 a1 e1
  split at h
  · rename_i ds ed
    split at h
    · rename_i hl
      have x := o1.vals ed
      refine ⟨by rw [x.len]; exact line5 hl, fun p hp => ?_⟩
      have nw := Nw.mutP (o := .lst ws) s1.sm hp
      have f0 := free_of s1.rp hp
      have g0 := free_of x hp
      refine h (.ref p) _ _ f1 (fadd g1 (one1 p)) (s1.nw nw) (new_mut s1.sm hp rfl rfl x) (fun a => ?_) (((a1.trans (nw.fr (f := fadd f1 g1) (g := fadd f1 (fadd g1 (one1 p))) (pu := pu) fun a z => ?_))).imp fun z => by simp [z]) e1
      · by_cases q : a = p
        · subst q; simp [one1_self, f0, g0]
        · simp [one1_ne q]; exact n1 a
      · by_cases q : a = p
        · subst q; exact .inr hp
        · left; simpa [one1_ne q] using z
    · exact h.elim
  · exact h.elim
end
abbrev Fn := List D → R (D × List D)
def spOf (G : Gm) (F : Fn) : Sp := fun vs H Q E => ∃ I ds f, (∀ a o, I a = some o → H a = some o) ∧ Rps G I H ds vs f ∧ (∀ a, f a ≤ 1) ∧
  match F ds with
  | .ok r => ∀ v I' H' f' g, (∀ a o, I' a = some o → H' a = some o) → Rps G I' H' r.2 vs f' → Rp G I' H' r.1 v g → (∀ a, f' a + g a ≤ 1) → Fr false I H f I' H' (fadd f' g) → Q v H'
  | .exc c fs ds' => ∀ cls dd I' H' f', (∀ a o, I' a = some o → H' a = some o) → Rps G I' H' ds' vs f' → (∀ a, f' a ≤ 1) → ExcAt G H' cls dd c fs → Fr false I H f I' H' f' → E cls dd H'
  | .bad => False
/-- values, and whole names lent -/
def lendOk : List Opd → List Nat → Bool
  | [], _ => true
  | .val _ :: os, acc => lendOk os acc
  | .plc i [] :: os, acc => !acc.contains i && lendOk os (i :: acc)
  | .plc _ (_ :: _) :: _, _ => false
def back : List D → List Opd → List D → List D
  | E, .plc i _ :: os, d :: ds => (back E os ds).set i d
  | E, .val _ :: os, _ :: ds => back E os ds
  | E, _, _ => E
def holes : List D → List Opd → List D
  | E, .plc i _ :: os => (holes E os).set i .una
  | E, .val _ :: os => holes E os
  | E, [] => E
def isUna : D → Bool
  | .una => true
  | _ => false
/-- values, and places lent, each under a name of its own -/
def lendP : List Opd → List Nat → Bool
  | [], _ => true
  | .val _ :: os, acc => lendP os acc
  | .plc i _ :: os, acc => !acc.contains i && lendP os (i :: acc)
def backP : List D → List Opd → List D → List D
  | E, .plc i p :: os, d :: ds => setP (backP E os ds) i p d
  | E, .val _ :: os, _ :: ds => backP E os ds
  | E, _, _ => E
def holesP : List D → List Opd → List D
  | E, .plc i p :: os => setP (holesP E os) i p .una
  | E, .val _ :: os => holesP E os
  | E, [] => E
def callK (F : Fn) (r : List Opd × List D) : R (Opd × List D) := match conts r.2 r.1 with
  | some ds => if lendP r.1 [] && !ds.any isUna then (match F ds with
    | .ok q => .ok (.val q.1, backP (holesP r.2 r.1) r.1 q.2)
    | .exc c fs ds' => .exc c fs (backP (holesP r.2 r.1) r.1 ds')
    | .bad => .bad) else .bad
  | none => .bad
def dCall (F : Fn) (das : DenA) : Den := fun E => (das E).bind (callK F)
theorem back_len : ∀ (E : List D) (os : List Opd) (ds : List D), (back E os ds).length = E.length
  | E, [], ds => by simp [back]
  | E, .plc i p :: os, [] => by simp [back]
  | E, .plc i p :: os, d :: ds => by simp [back, back_len E os ds]
  | E, .val c :: os, [] => by simp [back]
  | E, .val c :: os, d :: ds => by simp [back, back_len E os ds]
theorem holes_len : ∀ (E : List D) (os : List Opd), (holes E os).length = E.length
  | E, [] => rfl
  | E, .plc i p :: os => by simp [holes, holes_len E os]
  | E, .val c :: os => by simp [holes, holes_len E os]
def slotsOf : List Opd → List Nat
  | [] => []
  | .val _ :: os => slotsOf os
  | .plc i _ :: os => i :: slotsOf os
theorem lendOk_nd : ∀ {os : List Opd} {acc : List Nat}, lendOk os acc = true → (slotsOf os).Nodup ∧ (∀ i ∈ slotsOf os, i ∉ acc) ∧ ∀ i p, Opd.plc i p ∈ os → p = []
  | [], acc, _ => ⟨List.nodup_nil, by simp [slotsOf], by simp⟩
  | .val c :: os, acc, h => by
    obtain ⟨a, b, c⟩ := lendOk_nd (os := os) h
    exact ⟨a, b, fun i p hm => c i p (by simpa using hm)⟩
  | .plc i [] :: os, acc, h => by
    have h' : (!acc.contains i && lendOk os (i :: acc)) = true := h
    simp only [Bool.and_eq_true, Bool.not_eq_true'] at h'
    obtain ⟨a, b, c⟩ := lendOk_nd h'.2
    refine ⟨List.nodup_cons.mpr ⟨fun hm => b i hm List.mem_cons_self, a⟩, fun j hj => ?_, fun j p hm => ?_⟩
    · rcases List.mem_cons.mp hj with rfl | hj
      · simpa using h'.1
      · exact fun q => b j hj (List.mem_cons_of_mem _ q)
    · rcases List.mem_cons.mp hm with e | hm
      · cases e; rfl
      · exact c j p hm
  | .plc i (j :: p) :: os, acc, h => by cases h
theorem holes_other : ∀ {os : List Opd} {E : List D} {j : Nat}, j ∉ slotsOf os → (holes E os)[j]? = E[j]?
  | [], E, j, _ => rfl
  | .val c :: os, E, j, h => holes_other (os := os) h
  | .plc i p :: os, E, j, h => by
    simp only [slotsOf, List.mem_cons, not_or] at h
    show ((holes E os).set i .una)[j]? = _
    rw [List.getElem?_set_ne (fun e => h.1 e.symm)]
    exact holes_other h.2
section
variable {G : Gm}
theorem set_self {α : Type} {vs : List α} {i : Nat} {v : α} (e : vs[i]? = some v) : vs.set i v = vs := by
  obtain ⟨hl, e2⟩ := List.getElem?_eq_some_iff.mp e
  rw [← e2, List.set_getElem_self]
theorem take_out {I H : Hp} : ∀ {os : List Opd} {E : List D} {vs ws : List V} {f g : Ft} {ds : List D}, Rps G I H E vs f → OpsRel G I H E vs os ws g → conts E os = some ds → (slotsOf os).Nodup → (∀ i p, Opd.plc i p ∈ os → p = []) →
    ∃ gT h, Rps G I H ds ws gT ∧ Rps G I H (holes E os) vs h ∧ ∀ a, f a + g a = gT a + h a
  | [], E, vs, ws, f, g, ds, x, o, e, nd, pl => by
    cases e
    exact ⟨z0, f, ⟨o.1, fun _ => rfl⟩, x, fun a => by have := o.2 a; simp [this]⟩
  | .val c :: os, E, vs, ws, f, g, ds, x, o, e, nd, pl => by
    obtain ⟨v, vr, g1, g2, rfl, y, z, q⟩ := o
    unfold conts at e
    split at e
    · rename_i d ds' e1 e2
      cases e; cases e1
      obtain ⟨gT, h, t1, t2, t3⟩ := take_out x z e2 nd fun i p hm => pl i p (List.mem_cons_of_mem _ hm)
      exact ⟨fadd g1 gT, h, ⟨v, vr, g1, gT, rfl, y, t1, fun _ => rfl⟩, t2, fun a => by have := q a; have := t3 a; simp; omega⟩
    · cases e
  | .plc i p :: os, E, vs, ws, f, g, ds, x, o, e, nd, pl => by
    obtain ⟨v, vr, g1, g2, rfl, y, z, q⟩ := o
    have hp := pl i p List.mem_cons_self
    subst hp
    unfold conts at e
    split at e
    · rename_i d ds' e1 e2
      cases e
      obtain ⟨n1, n2⟩ := List.nodup_cons.mp nd
      obtain ⟨gT, h, t1, t2, t3⟩ := take_out x z e2 n2 fun i p hm => pl i p (List.mem_cons_of_mem _ hm)
      have e3 : (holes E os)[i]? = some d := (holes_other n1).trans e1
      obtain ⟨w, gd, h2, ew, y2, q2, k⟩ := t2.get e3
      have : w = v := Option.some.inj (ew.symm.trans y.1)
      subst this
      have k' := k (I' := I) (H' := H) (d' := .una) (v' := w) (g' := z0) (fun _ _ e => e) (fun _ => rfl) fun a z => ⟨(t2.trk a (by have := q2 a; omega)).1, rfl⟩
      rw [set_self ew] at k'
      exact ⟨fadd gd gT, fadd z0 h2, ⟨w, vr, gd, gT, rfl, y2, t1, fun _ => rfl⟩, k', fun a => by have := q a; have := t3 a; have := q2 a; have := y.2 a; simp; omega⟩
    · cases e
theorem put_back {I H : Hp} {E0 : List D} {vs : List V} {h : Ft} (x : Rps G I H E0 vs h) : ∀ {os : List Opd} {E : List D} {ws : List V} {g' : Ft} {ds' : List D}, E0 = E → (∀ i p, Opd.plc i p ∈ os → p = [] ∧ E0[i]? = some .una) → (slotsOf os).Nodup →
    (∃ I0 H0 E1 g, OpsRel G I0 H0 E1 vs os ws g) → Rps G I H ds' ws g' → ∃ f', Rps G I H (back E os ds') vs f' ∧ (∀ a, f' a ≤ g' a + h a) ∧ ∀ j, j ∉ slotsOf os → (back E os ds')[j]? = E0[j]?
  | [], E, ws, g', ds', e, pl, nd, o, y => by
    subst e
    exact ⟨h, by simpa [back] using x, fun a => by omega, fun j _ => by simp [back]⟩
  | .val c :: os, E, ws, g', [], e, pl, nd, o, y => by
    subst e
    exact ⟨h, by simpa [back] using x, fun a => by omega, fun j _ => by simp [back]⟩
  | .plc i p :: os, E, ws, g', [], e, pl, nd, o, y => by
    subst e
    exact ⟨h, by simpa [back] using x, fun a => by omega, fun j _ => by simp [back]⟩
  | .val c :: os, E, ws, g', d :: ds, e, pl, nd, o, y => by
    obtain ⟨I0, H0, E1, g, v, vr, g1, g2, rfl, o1, o2, q⟩ := o
    obtain ⟨v', ws', gd, gr, e', y1, y2, q2⟩ := y
    cases e'
    obtain ⟨f', r, le, ot⟩ := put_back x (os := os) (E := E) e (fun i p hm => pl i p (List.mem_cons_of_mem _ hm)) nd ⟨I0, H0, E1, g2, o2⟩ y2
    exact ⟨f', r, fun a => by have := le a; have := q2 a; omega, ot⟩
  | .plc i p :: os, E, ws, g', d :: ds, e, pl, nd, o, y => by
    obtain ⟨I0, H0, E1, g, v, vr, g1, g2, rfl, o1, o2, q⟩ := o
    obtain ⟨v', ws', gd, gr, e', y1, y2, q2⟩ := y
    cases e'
    obtain ⟨n1, n2⟩ := List.nodup_cons.mp nd
    obtain ⟨f', r, le, ot⟩ := put_back x (os := os) (E := E) e (fun i p hm => pl i p (List.mem_cons_of_mem _ hm)) n2 ⟨I0, H0, E1, g2, o2⟩ y2
    obtain ⟨hp, hu⟩ := pl i p List.mem_cons_self
    subst hp
    have e3 : (back E os ds)[i]? = some .una := (ot i n1).trans hu
    obtain ⟨w, g3, h3, ew, y3, q3, k⟩ := r.get e3
    have : w = v := Option.some.inj (ew.symm.trans o1.1)
    subst this
    have k' := k (I' := I) (H' := H) (d' := d) (v' := w) (g' := gd) (fun _ _ e => e) y1 fun a z => ⟨(r.trk a (by have := q3 a; omega)).1, rfl⟩
    rw [set_self ew] at k'
    refine ⟨_, k', fun a => by have := le a; have := q2 a; have := q3 a; simp; omega, fun j hj => ?_⟩
    simp only [slotsOf, List.mem_cons, not_or] at hj
    show ((back E os ds).set i d)[j]? = _
    rw [List.getElem?_set_ne (fun e => hj.1 e.symm)]
    exact ot j hj.2
theorem back_holes {os : List Opd} {E : List D} {ds : List D} (nd : (slotsOf os).Nodup) (hl : ds.length = os.length) : back (holes E os) os ds = back E os ds := by
  have main : ∀ {os : List Opd} {E F : List D} {ds : List D}, ds.length = os.length → E.length = F.length → (∀ j, j ∉ slotsOf os → E[j]? = F[j]?) → back E os ds = back F os ds := by
    intro os
    induction os with
    | nil =>
      intro E F ds hl _ h
      have : E = F := List.ext_getElem? fun j => h j (by simp [slotsOf])
      cases ds <;> simp [back, this]
    | cons o os ih =>
      intro E F ds hl hn h
      cases ds with
      | nil => simp at hl
      | cons d ds =>
        cases o with
        | val c => exact ih (by simpa using hl) hn h
        | plc i p =>
          show (back E os ds).set i d = (back F os ds).set i d
          have hE : (back E os ds).set i d = (back (E.set i .una) os ds).set i d := by
            refine List.ext_getElem? fun j => ?_
            by_cases hj : i = j
            · subst hj
              by_cases hi : i < (back E os ds).length
              · rw [List.getElem?_set_self hi, List.getElem?_set_self (by rw [back_len] at hi ⊢; simpa using hi)]
              · rw [List.getElem?_eq_none (by simpa using hi), List.getElem?_eq_none (by rw [back_len] at hi; simp [back_len]; omega)]
            · rw [List.getElem?_set_ne hj, List.getElem?_set_ne hj]
              exact backAt hj
          have hF : (back F os ds).set i d = (back (F.set i .una) os ds).set i d := by
            refine List.ext_getElem? fun j => ?_
            by_cases hj : i = j
            · subst hj
              by_cases hi : i < (back F os ds).length
              · rw [List.getElem?_set_self hi, List.getElem?_set_self (by rw [back_len] at hi ⊢; simpa using hi)]
              · rw [List.getElem?_eq_none (by simpa using hi), List.getElem?_eq_none (by rw [back_len] at hi; simp [back_len]; omega)]
            · rw [List.getElem?_set_ne hj, List.getElem?_set_ne hj]
              exact backAt hj
          rw [hE, hF]
          rw [ih (E := E.set i .una) (F := F.set i .una) (by simpa using hl) (by simp [hn]) fun j hj => ?_]
          by_cases hji : i = j
          · subst hji
            by_cases hi : i < E.length
            · rw [List.getElem?_set_self hi, List.getElem?_set_self (hn ▸ hi)]
            · rw [List.getElem?_eq_none (by simpa using hi), List.getElem?_eq_none (by simp; omega)]
          · rw [List.getElem?_set_ne hji, List.getElem?_set_ne hji]
            exact h j (by simp [slotsOf, hj, Ne.symm hji])
  exact main hl (holes_len _ _) fun j hj => holes_other hj
where
  backAt {os : List Opd} {E : List D} {ds : List D} {i j : Nat} (hj : ¬ i = j) : (back E os ds)[j]? = (back (E.set i .una) os ds)[j]? := by
    induction os generalizing ds with
    | nil => cases ds <;> simp [back, List.getElem?_set_ne hj]
    | cons o os ih =>
      cases ds with
      | nil => cases o <;> simp [back, List.getElem?_set_ne hj]
      | cons d ds =>
        cases o with
        | val c => exact ih
        | plc k p =>
          show ((back E os ds).set k d)[j]? = ((back (E.set i .una) os ds).set k d)[j]?
          by_cases hk : k = j
          · subst hk
            by_cases hi : k < E.length
            · rw [List.getElem?_set_self (by rw [back_len]; exact hi), List.getElem?_set_self (by rw [back_len]; simpa using hi)]
            · rw [List.getElem?_eq_none (by simp [back_len]; omega), List.getElem?_eq_none (by simp [back_len]; omega)]
          · rw [List.getElem?_set_ne hk, List.getElem?_set_ne hk]
            exact ih
theorem holes_hole : ∀ {os : List Opd} {E : List D} {i : Nat} {p : List Nat}, Opd.plc i p ∈ os → i < E.length → (slotsOf os).Nodup → (holes E os)[i]? = some .una
  | .val c :: os, E, i, p, hm, hl, nd => holes_hole (os := os) (by simpa using hm) hl nd
  | .plc j q :: os, E, i, p, hm, hl, nd => by
    show ((holes E os).set j .una)[i]? = _
    by_cases hj : j = i
    · subst hj; rw [List.getElem?_set_self (by rw [holes_len]; exact hl)]
    · rw [List.getElem?_set_ne hj]
      rcases List.mem_cons.mp hm with e | hm
      · cases e; exact absurd rfl hj
      · exact holes_hole hm hl (List.nodup_cons.mp nd).2
theorem conts_mem : ∀ {os : List Opd} {E : List D} {ds : List D} {i : Nat}, conts E os = some ds → ds.any isUna = false → Opd.plc i [] ∈ os → ∃ d, E[i]? = some d ∧ d ≠ .una
  | o :: os, E, ds, i, e, u, hm => by
    unfold conts at e
    split at e
    · rename_i d ds' e1 e2
      cases e
      simp only [List.any_cons, Bool.or_eq_false_iff] at u
      rcases List.mem_cons.mp hm with q | hm
      · subst q
        exact ⟨d, e1, by rintro rfl; simp [isUna] at u⟩
      · exact conts_mem e2 u.2 hm
    · cases e
theorem conts_len : ∀ {os : List Opd} {E : List D} {ds : List D}, conts E os = some ds → ds.length = os.length
  | [], E, ds, e => by cases e; rfl
  | o :: os, E, ds, e => by
    unfold conts at e
    split at e
    · rename_i d ds' e1 e2
      cases e
      simp [conts_len e2]
    · cases e
theorem back_other : ∀ {os : List Opd} {E ds : List D} {j : Nat}, j ∉ slotsOf os → (back E os ds)[j]? = E[j]?
  | [], E, ds, j, _ => by simp [back]
  | .val c :: os, E, [], j, h => by simp [back]
  | .val c :: os, E, d :: ds, j, h => back_other (os := os) h
  | .plc i p :: os, E, [], j, h => by simp [back]
  | .plc i p :: os, E, d :: ds, j, h => by
    simp only [slotsOf, List.mem_cons, not_or] at h
    show ((back E os ds).set i d)[j]? = _
    rw [List.getElem?_set_ne (fun e => h.1 e.symm)]
    exact back_other h.2
theorem mem_slots : ∀ {os : List Opd} {i : Nat}, i ∈ slotsOf os → ∃ p, Opd.plc i p ∈ os
  | .val c :: os, i, h => by obtain ⟨p, hp⟩ := mem_slots (os := os) h; exact ⟨p, List.mem_cons_of_mem _ hp⟩
  | .plc j q :: os, i, h => by
    rcases List.mem_cons.mp h with rfl | h
    · exact ⟨q, List.mem_cons_self⟩
    · obtain ⟨p, hp⟩ := mem_slots h; exact ⟨p, List.mem_cons_of_mem _ hp⟩
/-- behind a call: what was lent stands again in its place -/
theorem Stt.back {σ : St} {I H I' H' : Hp} {E : List D} {vs ws : List V} {f g h f' : Ft} {os : List Opd} {ds ds' : List D} (s : Stt G σ I H E vs f) (o : OpsRel G I H E vs os ws g) (ec : conts E os = some ds) (lo : lendOk os [] = true) (nu : ds.any isUna = false)
    (sm : ∀ a o, I' a = some o → H' a = some o) (hh' : Rps G I' H' (holes E os) vs h) (y : Rps G I' H' ds' ws f') (t : ∀ a, f' a + h a ≤ 1) :
    ∃ f2, Stt G σ I' H' (DL.back E os ds') vs f2 ∧ (∀ x, f2 x ≤ f' x + h x) := by
  obtain ⟨nd, _, pl⟩ := lendOk_nd lo
  have hl : ds'.length = os.length := by
    have e1 := y.len
    have : ∀ {os : List Opd} {ws : List V} {g : Ft}, OpsRel G I H E vs os ws g → ws.length = os.length := by
      intro os
      induction os with
      | nil => intro ws g o; rw [o.1]; rfl
      | cons p os ih => intro ws g o; obtain ⟨v, vr, g1, g2, rfl, _, z, _⟩ := o; simp [ih z]
    rw [← e1, this o]
  obtain ⟨f2, r, le, ot⟩ := put_back hh' (os := os) (E := holes E os) (ds' := ds') rfl (fun i p hm => ⟨pl i p hm, by
    have hp := pl i p hm
    subst hp
    obtain ⟨d, e, _⟩ := conts_mem ec nu hm
    exact holes_hole hm (List.getElem?_eq_some_iff.mp e).1 nd⟩) nd ⟨I, H, E, g, o⟩ y
  rw [back_holes nd hl] at r
  refine ⟨f2, ⟨⟨s.sl.1.trans (back_len _ _ _).symm, fun i d v e1 n e2 => ?_⟩, sm, r, fun x => ?_⟩, le⟩
  · by_cases hi : i ∈ slotsOf os
    · obtain ⟨p, hm⟩ := mem_slots hi
      have hp := pl i p hm
      subst hp
      obtain ⟨d0, e0, n0⟩ := conts_mem ec nu hm
      exact s.sl.2 i d0 v e0 n0 e2
    · rw [back_other hi] at e1
      exact s.sl.2 i d v e1 n e2
  · have := le x; have := t x; omega
theorem getP_congr {E F : List D} {i : Nat} (h : E[i]? = F[i]?) : ∀ {p : List Nat}, getP E i p = getP F i p
  | [] => h
  | j :: p => by unfold getP; rw [h]
theorem Loc_congr {I H : Hp} {E F : List D} {vs : List V} {i : Nat} {v : V} (h : E[i]? = F[i]?) : ∀ {p : List Nat}, Loc G I H E vs i p v → Loc G I H F vs i p v
  | [], l => l
  | j :: p, l => by
    obtain ⟨k, es, q, ws, o, e1, e2, s, c, l⟩ := l
    exact ⟨k, es, q, ws, o, h ▸ e1, e2, s, c, l⟩
theorem setP_other {E : List D} {i j : Nat} {d : D} (h : ¬ i = j) : ∀ {p : List Nat}, (setP E i p d)[j]? = E[j]?
  | [] => by show (E.set i d)[j]? = _; rw [List.getElem?_set_ne h]
  | m :: p => by
    unfold setP
    split
    · rw [List.getElem?_set_ne h]
    · rfl
theorem getP_setP : ∀ {p : List Nat} {E : List D} {i : Nat} {c d : D}, getP E i p = some c → getP (setP E i p d) i p = some d
  | [], E, i, c, d, e => by
    have hl : i < E.length := (List.getElem?_eq_some_iff.mp (show E[i]? = some c from e)).1
    show (E.set i d)[i]? = _
    rw [List.getElem?_set_self hl]
  | j :: p, E, i, c, d, e => by
    unfold getP at e
    split at e
    · rename_i k es e0
      have hl : i < E.length := (List.getElem?_eq_some_iff.mp e0).1
      have := getP_setP (d := d) e
      unfold setP
      rw [e0]
      show getP (E.set i (.nd k (setP es j p d))) i (j :: p) = _
      unfold getP
      rw [List.getElem?_set_self hl]
      exact this
    · cases e
theorem Loc_setP {I H : Hp} : ∀ {p : List Nat} {E : List D} {vs : List V} {i : Nat} {v : V} {d : D}, Loc G I H E vs i p v → Loc G I H (setP E i p d) vs i p v
  | [], E, vs, i, v, d, l => l
  | j :: p, E, vs, i, v, d, l => by
    obtain ⟨k, es, q, ws, o, e1, e2, s, c, l⟩ := l
    have hl : i < E.length := (List.getElem?_eq_some_iff.mp e1).1
    refine ⟨k, setP es j p d, q, ws, o, ?_, e2, s, c, Loc_setP l⟩
    have e3 : setP E i (j :: p) d = E.set i (.nd k (setP es j p d)) := by
      have : setP E i (j :: p) d = (match E[i]? with
        | some (.nd k es) => E.set i (.nd k (setP es j p d))
        | _ => E) := rfl
      rw [this, e1]
    rw [e3, List.getElem?_set_self hl]
/-- a place is kept as what it lies in is kept -/
theorem Loc.keepF {I H I' H' : Hp} (hI : ∀ a o, I a = some o → I' a = some o) : ∀ {p : List Nat} {ds : List D} {vs : List V} {i : Nat} {v : V} {f : Ft}, Rps G I H ds vs f → (∀ a, f a ≠ 0 → H' a = H a) → Loc G I H ds vs i p v → Loc G I' H' ds vs i p v
  | [], ds, vs, i, v, f, x, k, l => l
  | j :: p, ds, vs, i, v, f, x, kk, l => by
    obtain ⟨k, es, q, ws, o, e1, e2, s, c, l⟩ := l
    obtain ⟨v0, g0, h0, ev, y, qq, _⟩ := x.get e1
    obtain ⟨pa, ws', g1, o', epa, s', z, c'⟩ := y
    have e3 : V.ref q = .ref pa := by rw [ev] at e2; rw [← epa]; exact (Option.some.inj e2).symm
    cases e3
    rcases c with ⟨mu, c⟩ | ⟨mu, c⟩ <;> rcases c' with ⟨mu', n, c', q1⟩ | ⟨mu', c', q1⟩
    · have eo : o' = o := Option.some.inj (c'.symm.trans c)
      subst eo
      have ew := Kd.st_inj s s'
      subst ew
      refine ⟨k, es, q, ws, o', e1, e2, s, .inl ⟨mu, ?_⟩, Loc.keepF hI z (fun a ha => kk a (by have := qq a; have := q1 a; omega)) l⟩
      rw [kk q (by have := qq q; have := q1 q; rw [one1_self] at this; omega)]
      exact c
    · rw [mu] at mu'; cases mu'
    · rw [mu] at mu'; cases mu'
    · have eo : o' = o := Option.some.inj (c'.symm.trans c)
      subst eo
      have ew := Kd.st_inj s s'
      subst ew
      exact ⟨k, es, q, ws, o', e1, e2, s, .inr ⟨mu, hI _ _ c⟩, Loc.keepF hI z (fun a ha => kk a (by have := qq a; have := q1 a; omega)) l⟩
theorem lendP_nd : ∀ {os : List Opd} {acc : List Nat}, lendP os acc = true → (slotsOf os).Nodup ∧ (∀ i ∈ slotsOf os, i ∉ acc)
  | [], acc, _ => ⟨List.nodup_nil, by simp [slotsOf]⟩
  | .val c :: os, acc, h => lendP_nd (os := os) h
  | .plc i p :: os, acc, h => by
    have h' : (!acc.contains i && lendP os (i :: acc)) = true := h
    simp only [Bool.and_eq_true, Bool.not_eq_true'] at h'
    obtain ⟨a, b⟩ := lendP_nd h'.2
    refine ⟨List.nodup_cons.mpr ⟨fun hm => b i hm List.mem_cons_self, a⟩, fun j hj => ?_⟩
    rcases List.mem_cons.mp hj with rfl | hj
    · simpa using h'.1
    · exact fun q => b j hj (List.mem_cons_of_mem _ q)
theorem holesP_other : ∀ {os : List Opd} {E : List D} {j : Nat}, j ∉ slotsOf os → (holesP E os)[j]? = E[j]?
  | [], E, j, _ => rfl
  | .val c :: os, E, j, h => holesP_other (os := os) h
  | .plc i p :: os, E, j, h => by
    simp only [slotsOf, List.mem_cons, not_or] at h
    show (setP (holesP E os) i p .una)[j]? = _
    rw [setP_other (fun e => h.1 e.symm)]
    exact holesP_other h.2
theorem backP_other : ∀ {os : List Opd} {E ds : List D} {j : Nat}, j ∉ slotsOf os → (backP E os ds)[j]? = E[j]?
  | [], E, ds, j, _ => by simp [backP]
  | .val c :: os, E, [], j, h => by simp [backP]
  | .val c :: os, E, d :: ds, j, h => backP_other (os := os) h
  | .plc i p :: os, E, [], j, h => by simp [backP]
  | .plc i p :: os, E, d :: ds, j, h => by
    simp only [slotsOf, List.mem_cons, not_or] at h
    show (setP (backP E os ds) i p d)[j]? = _
    rw [setP_other (fun e => h.1 e.symm)]
    exact backP_other h.2
theorem holesP_len : ∀ (E : List D) (os : List Opd), (holesP E os).length = E.length
  | E, [] => rfl
  | E, .plc i p :: os => by show (setP (holesP E os) i p .una).length = _; rw [setP_len, holesP_len E os]
  | E, .val c :: os => holesP_len E os
theorem backP_len : ∀ (E : List D) (os : List Opd) (ds : List D), (backP E os ds).length = E.length
  | E, [], ds => by simp [backP]
  | E, .plc i p :: os, [] => by simp [backP]
  | E, .plc i p :: os, d :: ds => by show (setP (backP E os ds) i p d).length = _; rw [setP_len, backP_len E os ds]
  | E, .val c :: os, [] => by simp [backP]
  | E, .val c :: os, d :: ds => backP_len E os ds
/-- where the places taken out stand -/
def HA (G : Gm) (I H : Hp) (E : List D) (vs : List V) : List Opd → List V → Prop
  | [], ws => ws = []
  | .val _ :: os, ws => ∃ w wr, ws = w :: wr ∧ HA G I H E vs os wr
  | .plc i p :: os, ws => ∃ w wr, ws = w :: wr ∧ getP E i p = some .una ∧ Loc G I H E vs i p w ∧ HA G I H E vs os wr
theorem HA.congr {I H : Hp} {E F : List D} {vs : List V} : ∀ {os : List Opd} {ws : List V}, (∀ j ∈ slotsOf os, E[j]? = F[j]?) → HA G I H E vs os ws → HA G I H F vs os ws
  | [], ws, h, x => x
  | .val _ :: os, ws, h, x => by
    obtain ⟨w, wr, e, x⟩ := x
    exact ⟨w, wr, e, x.congr h⟩
  | .plc i p :: os, ws, h, x => by
    obtain ⟨w, wr, e, g, l, x⟩ := x
    have hi := h i (by simp [slotsOf])
    exact ⟨w, wr, e, (getP_congr hi).symm.trans g, Loc_congr hi l, x.congr fun j hj => h j (by simp [slotsOf, hj])⟩
theorem HA.keep {I H I' H' : Hp} {E : List D} {vs : List V} {f : Ft} (hI : ∀ a o, I a = some o → I' a = some o) (r : Rps G I H E vs f) (k : ∀ a, f a ≠ 0 → H' a = H a) : ∀ {os : List Opd} {ws : List V}, HA G I H E vs os ws → HA G I' H' E vs os ws
  | [], ws, x => x
  | .val _ :: os, ws, x => by
    obtain ⟨w, wr, e, x⟩ := x
    exact ⟨w, wr, e, x.keep hI r k⟩
  | .plc i p :: os, ws, x => by
    obtain ⟨w, wr, e, g, l, x⟩ := x
    exact ⟨w, wr, e, g, Loc.keepF hI r k l, x.keep hI r k⟩
theorem take_outP {I H : Hp} : ∀ {os : List Opd} {E : List D} {vs ws : List V} {f g : Ft} {ds : List D}, Rps G I H E vs f → OpsRel G I H E vs os ws g → conts E os = some ds → (slotsOf os).Nodup →
    ∃ gT h, Rps G I H ds ws gT ∧ Rps G I H (holesP E os) vs h ∧ (∀ a, f a + g a = gT a + h a) ∧ HA G I H (holesP E os) vs os ws
  | [], E, vs, ws, f, g, ds, x, o, e, nd => by
    cases e
    exact ⟨z0, f, ⟨o.1, fun _ => rfl⟩, x, fun a => by have := o.2 a; simp [this], o.1⟩
  | .val c :: os, E, vs, ws, f, g, ds, x, o, e, nd => by
    obtain ⟨v, vr, g1, g2, rfl, y, z, q⟩ := o
    unfold conts at e
    split at e
    · rename_i d ds' e1 e2
      cases e; cases e1
      obtain ⟨gT, h, t1, t2, t3, t4⟩ := take_outP x z e2 nd
      exact ⟨fadd g1 gT, h, ⟨v, vr, g1, gT, rfl, y, t1, fun _ => rfl⟩, t2, fun a => by have := q a; have := t3 a; simp; omega, ⟨v, vr, rfl, t4⟩⟩
    · cases e
  | .plc i p :: os, E, vs, ws, f, g, ds, x, o, e, nd => by
    obtain ⟨v, vr, g1, g2, rfl, y, z, q⟩ := o
    unfold conts at e
    split at e
    · rename_i d ds' e1 e2
      cases e
      obtain ⟨n1, n2⟩ := List.nodup_cons.mp nd
      obtain ⟨gT, h, t1, t2, t3, t4⟩ := take_outP x z e2 n2
      have ei := (holesP_other (E := E) n1)
      have e3 : getP (holesP E os) i p = some d := (getP_congr ei).trans e1
      obtain ⟨w, gd, h2, ew, y2, q2, k⟩ := t2.focus e3
      have l0 : Loc G I H (holesP E os) vs i p v := Loc_congr ei.symm y.1
      have : w = v := ew.inj l0
      subst this
      have k' := k (I' := I) (H' := H) (d' := .una) (g' := z0) (fun _ _ e => e) (fun _ => rfl) fun a z => ⟨(t2.trk a (by have := q2 a; omega)).1, rfl⟩
      refine ⟨fadd gd gT, fadd z0 h2, ⟨w, vr, gd, gT, rfl, y2, t1, fun _ => rfl⟩, k', fun a => by have := q a; have := t3 a; have := q2 a; have := y.2 a; simp; omega, ⟨w, vr, rfl, getP_setP e3, Loc_setP l0, t4.congr fun j hj => ?_⟩⟩
      show _ = (setP (holesP E os) i p .una)[j]?
      rw [setP_other (fun (e : i = j) => n1 (by rw [e]; exact hj))]
    · cases e
theorem put_backP {I H : Hp} {E0 : List D} {vs : List V} {h : Ft} (x : Rps G I H E0 vs h) : ∀ {os : List Opd} {ws : List V} {g' : Ft} {ds' : List D}, HA G I H E0 vs os ws → (slotsOf os).Nodup → Rps G I H ds' ws g' → ∃ f', Rps G I H (backP E0 os ds') vs f' ∧ ∀ a, f' a ≤ g' a + h a
  | [], ws, g', ds', o, nd, y => ⟨h, by simpa [backP] using x, fun a => by omega⟩
  | .val c :: os, ws, g', [], o, nd, y => ⟨h, by simpa [backP] using x, fun a => by omega⟩
  | .plc i p :: os, ws, g', [], o, nd, y => ⟨h, by simpa [backP] using x, fun a => by omega⟩
  | .val c :: os, ws, g', d :: ds, o, nd, y => by
    obtain ⟨v, vr, rfl, o⟩ := o
    obtain ⟨v', ws', gd, gr, e', y1, y2, q2⟩ := y
    cases e'
    obtain ⟨f', r, le⟩ := put_backP x (os := os) o nd y2
    exact ⟨f', r, fun a => by have := le a; have := q2 a; omega⟩
  | .plc i p :: os, ws, g', d :: ds, o, nd, y => by
    obtain ⟨v, vr, rfl, eg, l, o⟩ := o
    obtain ⟨v', ws', gd, gr, e', y1, y2, q2⟩ := y
    cases e'
    obtain ⟨n1, n2⟩ := List.nodup_cons.mp nd
    obtain ⟨f', r, le⟩ := put_backP x (os := os) o n2 y2
    have ei := backP_other (E := E0) (ds := ds) n1
    have e3 : getP (backP E0 os ds) i p = some .una := (getP_congr ei).trans eg
    obtain ⟨w, g3, h3, ew, y3, q3, k⟩ := r.focus e3
    have : w = v := ew.inj (Loc_congr ei.symm l)
    subst this
    have k' := k (I' := I) (H' := H) (d' := d) (g' := gd) (fun _ _ e => e) y1 fun a z => ⟨(r.trk a (by have := q3 a; omega)).1, rfl⟩
    exact ⟨_, k', fun a => by have := le a; have := q2 a; have := q3 a; simp; omega⟩
theorem conts_memP : ∀ {os : List Opd} {E : List D} {ds : List D} {i : Nat}, conts E os = some ds → ds.any isUna = false → i ∈ slotsOf os → ∃ d, E[i]? = some d ∧ d ≠ .una
  | .val c :: os, E, ds, i, e, u, hm => by
    unfold conts at e
    split at e
    · rename_i d ds' e1 e2
      cases e
      simp only [List.any_cons, Bool.or_eq_false_iff] at u
      exact conts_memP e2 u.2 hm
    · cases e
  | .plc j p :: os, E, ds, i, e, u, hm => by
    unfold conts at e
    split at e
    · rename_i d ds' e1 e2
      cases e
      simp only [List.any_cons, Bool.or_eq_false_iff] at u
      rcases List.mem_cons.mp hm with rfl | hm
      · exact getP_root e1 (by rintro rfl; simp [isUna] at u)
      · exact conts_memP e2 u.2 hm
    · cases e
/-- behind a call: what was lent stands again in its place -/
theorem Stt.backP {σ : St} {I H I' H' : Hp} {E : List D} {vs ws : List V} {f h f' : Ft} {os : List Opd} {ds ds' : List D} (s : Stt G σ I H E vs f) (ec : conts E os = some ds) (lo : lendP os [] = true) (nu : ds.any isUna = false)
    (hI : ∀ a o, I a = some o → I' a = some o) (t2 : Rps G I H (holesP E os) vs h) (kp : ∀ a, h a ≠ 0 → H' a = H a) (ha : HA G I H (holesP E os) vs os ws)
    (sm : ∀ a o, I' a = some o → H' a = some o) (hh' : Rps G I' H' (holesP E os) vs h) (y : Rps G I' H' ds' ws f') (t : ∀ a, f' a + h a ≤ 1) :
    ∃ f2, Stt G σ I' H' (DL.backP (holesP E os) os ds') vs f2 ∧ (∀ x, f2 x ≤ f' x + h x) := by
  obtain ⟨nd, _⟩ := lendP_nd lo
  obtain ⟨f2, r, le⟩ := put_backP hh' (ha.keep hI t2 kp) nd y
  refine ⟨f2, ⟨⟨s.sl.1.trans ((holesP_len _ _).symm.trans (backP_len _ _ _).symm), fun i d v e1 n e2 => ?_⟩, sm, r, fun x => by have := le x; have := t x; omega⟩, le⟩
  by_cases hi : i ∈ slotsOf os
  · obtain ⟨d0, e0, n0⟩ := conts_memP ec nu hi
    exact s.sl.2 i d0 v e0 n0 e2
  · rw [backP_other hi, holesP_other hi] at e1
    exact s.sl.2 i d v e1 n e2
variable {W : WX} {pu : Bool} {das : DenA} {F : Fn}
theorem call_core {σ : St} {I H I1 H1 : Hp} {E : List D} {vs ws : List V} {f f1 g1 : Ft} {os : List Opd} {Q : VK} {Ex : XK} (hE : ∀ cls d H, W cls d σ H → Ex cls d H) (s1 : Stt G σ I1 H1 E vs f1) (o1 : OpsRel G I1 H1 E vs os ws g1) (n1 : ∀ a, f1 a + g1 a ≤ 1)
    (a1 : Fr pu I H f I1 H1 (fadd f1 g1)) (h : Ans G W σ I H f vs (callK F (os, E)) fun r => ∀ v I' H' f' g, Stt G σ I' H' r.2 vs f' → OpRel G I' H' r.2 vs r.1 v g → (∀ a, f' a + g a ≤ 1) → Fr false I H f I' H' (fadd f' g) → Q v H') : spOf G F ws H1 Q Ex := by
  unfold callK at h
  split at h
  · rename_i ds ed
    split at h
    · rename_i hc
      simp only [Bool.and_eq_true, Bool.not_eq_true'] at hc
      obtain ⟨nd, _⟩ := lendP_nd hc.1
      obtain ⟨gT, hf, t1, t2, t3, t4⟩ := take_outP s1.rp o1 ed nd
      have kpt : ∀ {I2 H2 : Hp} {f2 : Ft}, Fr false I1 H1 gT I2 H2 f2 → ∀ a, hf a ≠ 0 → H2 a = H1 a := fun {I2 H2 f2} b a z => by
        obtain ⟨_, o, e⟩ := t2.trk a z
        rw [e]; exact b.kp a o e (by have := t3 a; have := n1 a; omega)
      refine ⟨I1, ds, gT, s1.sm, t1, fun a => by have := t3 a; have := n1 a; omega, ?_⟩
      have mono : ∀ {I2 H2 : Hp} {f2 g2 : Ft}, Fr false I1 H1 gT I2 H2 f2 → (∀ x, g2 x ≤ f2 x + hf x) → Fr false I H f I2 H2 g2 := fun {I2 H2 f2 g2} b le => by
        have b' := (b.with (g := hf))
        have b2 : Fr false I1 H1 (fadd f1 g1) I2 H2 g2 := ⟨b'.im, fun x o e z => b'.kp x o e (by have := t3 x; simp at z ⊢; omega), fun x o e z => b'.un x o e (by have := t3 x; simp at z ⊢; omega), fun x z => by
          rcases b'.nw x (by have := le x; simp; omega) with r | r
          · left; have := t3 x; simp at r ⊢; omega
          · exact .inr r, fun z => by cases z⟩
        exact (a1.trans b2).imp fun z => by cases z
      cases eF : F ds with
      | ok q =>
        rw [eF] at h
        intro v I2 H2 f2 g2 sm2 y2 r2 n2 b
        have sd : ∀ x, gT x + hf x ≤ 1 := fun x => by have := t3 x; have := n1 x; omega
        have t := b.apart (g := hf) (fun x z => by obtain ⟨_, o, e⟩ := t2.trk x z; rw [e]; simp) sd (fun x => by have := n2 x; simpa using this)
        obtain ⟨f3, s3, le⟩ := Stt.backP s1 ed hc.1 hc.2 b.im t2 (kpt b) t4 sm2 (b.side t2 sd) y2 (fun a => by have := t a; simp at this; omega)
        exact h v I2 H2 f3 g2 s3 r2 (fun a => by have := le a; have := t a; simp at this; omega) (mono b fun x => by have := le x; simp; omega)
      | exc c fs ds' =>
        rw [eF] at h
        intro cls dd I2 H2 f2 sm2 y2 n2 xa b
        have sd : ∀ x, gT x + hf x ≤ 1 := fun x => by have := t3 x; have := n1 x; omega
        have t := b.apart (g := hf) (fun x z => by obtain ⟨_, o, e⟩ := t2.trk x z; rw [e]; simp) sd n2
        obtain ⟨f3, s3, le⟩ := Stt.backP s1 ed hc.1 hc.2 b.im t2 (kpt b) t4 sm2 (b.side t2 sd) y2 t
        exact hE _ _ _ (h cls dd I2 H2 f3 s3 xa (mono b le))
      | bad => rw [eF] at h; exact h
    · exact h.elim
  · exact h.elim
theorem t_call {ta : TA} {Ex : XK} (hE : ∀ cls d σ H, W cls d σ H → Ex cls d H) (ha : ∀ σ H Q, tA G W pu das σ H Q → ta σ H Q) : ∀ σ H Q, tO G W false (dCall F das) σ H Q → tCall (spOf G F) [] Ex ta σ H Q := by
  rintro σ H Q ⟨I, E, vs, f, s, h⟩
  refine ha _ _ _ ⟨I, E, vs, f, s, h.fst fun x ex h => ?_⟩
  intro ws I1 H1 f1 g1 s1 o1 n1 a1 e1
  show spOf G F (ws ++ []) H1 Q Ex
  rw [List.append_nil]
  exact call_core (fun cls d H => hE cls d σ H) s1 o1 n1 a1 (h.imp fun r er k v I' H' f' g s o n a => k v I' H' f' g s o n a (fun z => by cases z))
def isObj (c : Nat) (m : Str) : Option D → Bool
  | some (.nd (.obj _ c' ns) ds) => c' == c && !ns.contains m && ns.length == ds.length
  | _ => false
def dMeth (c : Nat) (m : Str) (F : Fn) (pu2 : Bool) (d0 : Den) (das : DenA) : Den := fun E => (d0 E).bind fun r => if isObj c m (cont r.2 r.1) && stab pu2 r.1 then (das r.2).bind fun q => callK F (r.1 :: q.1, q.2) else .bad
theorem lookup_zip_none {α β : Type} [BEq α] [LawfulBEq α] : ∀ {ns : List α} {vs : List β} {m : α}, ns.contains m = false → (ns.zip vs).lookup m = none
  | [], vs, m, h => by simp
  | n :: ns, [], m, h => by simp
  | n :: ns, v :: vs, m, h => by
    simp only [List.contains_cons, Bool.or_eq_false_iff] at h
    simp only [List.zip_cons_cons, List.lookup_cons, h.1]
    exact lookup_zip_none h.2
/-- an instance's own object -/
theorem obj_at {σ : St} {I H : Hp} {E : List D} {vs : List V} {f g : Ft} {o : Opd} {v : V} {mk : Bool} {c : Nat} {ns : List Str} {ds : List D} (s : Stt G σ I H E vs f) (x : OpRel G I H E vs o v g) (n : ∀ a, g a ≤ 1) (e : cont E o = some (.nd (.obj mk c ns) ds)) :
    ∃ a dx ws, v = .ref a ∧ H a = some (.ins (G.cls c) dx (ns.zip ws)) ∧ ns.length = ws.length := by
  obtain ⟨g', y, _⟩ := x.cont s n e
  obtain ⟨p, ws, g2, ob, rfl, ⟨l, dx, rfl⟩, z, q⟩ := y
  rcases q with ⟨_, _, eH, _⟩ | ⟨_, eI, _⟩
  · exact ⟨p, dx, ws, rfl, eH, l⟩
  · exact ⟨p, dx, ws, rfl, s.sm _ _ eI, l⟩
theorem isObj_iff {c : Nat} {m : Str} {x : Option D} (h : isObj c m x = true) : ∃ mk ns ds, x = some (.nd (.obj mk c ns) ds) ∧ ns.contains m = false ∧ ns.length = ds.length := by
  unfold isObj at h
  split at h
  · rename_i mk c' ns ds
    simp only [Bool.and_eq_true, Bool.not_eq_true', beq_iff_eq] at h
    obtain ⟨⟨rfl, hm⟩, hl⟩ := h
    exact ⟨mk, ns, ds, rfl, hm, hl⟩
  · cases h
theorem t_meth {te : TE} {ta : TA} {Ex : XK} {c : Nat} {m : Str} {pu1 pu2 : Bool} {d0 : Den} (hE : ∀ cls d σ H, W cls d σ H → Ex cls d H) (h0 : ∀ σ H Q, tO G W pu1 d0 σ H Q → te σ H Q) (ha : ∀ σ H Q, tA G W pu2 das σ H Q → ta σ H Q) :
    ∀ σ H Q, tO G W false (dMeth c m F pu2 d0 das) σ H Q → tMeth (G.cls c) m (spOf G F) [] Ex te ta σ H Q := by
  rintro σ H Q ⟨I, E, vs, f, s, hh⟩
  refine h0 _ _ _ ⟨I, E, vs, f, s, hh.fst fun r er h => ?_⟩
  intro v I1 H1 f1 g1 s1 o1 n1 a1 e1
  by_cases hc : (isObj c m (cont r.2 r.1) && stab pu2 r.1) = true
  · rw [if_pos hc] at h
    simp only [Bool.and_eq_true] at hc
    obtain ⟨hob, st⟩ := hc
    obtain ⟨mk, ns, ds, ec, hm, hl⟩ := isObj_iff hob
    obtain ⟨a, dx, ws, rfl, ea, el⟩ := obj_at s1 o1 (fun a => by have := n1 a; omega) ec
    refine ⟨a, dx, ns.zip ws, rfl, ea, lookup_zip_none hm, ?_⟩
    have a1' : Fr pu1 I H f I1 H1 f1 := a1.less fun x z => by simp; omega
    refine ha _ _ _ ⟨I1, r.2, vs, f1, s1, (h.fwd a1').fst fun q eq _ => ?_⟩
    intro ws2 I2 H2 f2 g2 s2 o2 n2 a2 e2
    rw [eq] at h
    have o1' := o1.keep st (E1 := q.2) a2 n1 e2
    have n3 := a2.apart (g := g1) o1.trk n1 (fun x => by have := n2 x; simpa using this)
    show spOf G F (.ref a :: (ws2 ++ [])) H2 Q Ex
    rw [List.append_nil]
    have b := ((a1.trans (a2.with (g := g1))).less (f2 := fadd f2 (fadd g1 g2)) fun x z => by simp at z ⊢; omega)
    exact call_core (fun cls d H => hE cls d σ H) s2 (g1 := fadd g1 g2) (os := r.1 :: q.1) ⟨.ref a, ws2, g1, g2, rfl, o1', o2, fun a => rfl⟩ (fun a => by have := n3 a; simp at this ⊢; omega) b (h.imp fun r er k v I' H' f' g s o n a => k v I' H' f' g s o n a (fun z => by cases z))
  · rw [if_neg hc] at h
    exact h.elim
def makeK (c : Nat) (F : Fn) (r : List Opd × List D) : R (Opd × List D) := match conts r.2 r.1 with
  | some ds => if lendOk r.1 [] && !ds.any isUna then (match F (.nd (.obj true c []) [] :: ds) with
    | .ok (.sc .non, o :: ds') => .ok (.val o, back r.2 r.1 ds')
    | .exc c fs (_ :: ds') => .exc c fs (back r.2 r.1 ds')
    | _ => .bad) else .bad
  | none => .bad
def dMake (c : Nat) (F : Fn) (das : DenA) : Den := fun E => (das E).bind (makeK c F)
theorem t_make {ta : TA} {Ex : XK} {c : Nat} (hE : ∀ cls d σ H, W cls d σ H → Ex cls d H) (ha : ∀ σ H Q, tA G W pu das σ H Q → ta σ H Q) : ∀ σ H Q, tO G W false (dMake c F das) σ H Q → tMake (G.cls c) (spOf G F) [] Ex ta σ H Q := by
  rintro σ H Q ⟨I, E, vs, f, s, hh⟩
  refine ha _ _ _ ⟨I, E, vs, f, s, hh.fst fun x ex h => ?_⟩
  intro ws I1 H1 f1 g1 s1 o1 n1 a1 e1 p dx hp hdx hne
  show spOf G F (.ref p :: (ws ++ [])) (upd (upd H1 dx (.own p)) p (.ins (G.cls c) dx [])) (fun v H2 => v = .non ∧ Q (.ref p) H2) Ex
  rw [List.append_nil]
  unfold makeK at h
  split at h
  · rename_i ds ed
    split at h
    · rename_i hc
      simp only [Bool.and_eq_true, Bool.not_eq_true'] at hc
      obtain ⟨nd, _, pl⟩ := lendOk_nd hc.1
      obtain ⟨gT, hf, t1, t2, t3⟩ := take_out s1.rp o1 ed nd pl
      have nw1 : Nw I1 H1 I1 (upd H1 dx (.own p)) := Nw.mutP s1.sm hdx
      have hp' : upd H1 dx (.own p) p = none := by rw [upd_ne (Ne.symm hne)]; exact hp
      have nw2 : Nw I1 (upd H1 dx (.own p)) I1 (upd (upd H1 dx (.own p)) p (.ins (G.cls c) dx [])) := Nw.mutP nw1.sm hp'
      have nw := nw1.trans nw2
      have f0 := free_of s1.rp hp
      have gT0 : gT p = 0 := free_of t1 hp
      have g0 : g1 p = 0 := by
        by_cases z : g1 p = 0
        · exact z
        · have := t3 p
          have q := free_of t2 hp
          omega
      have Io : I1 p = none := by
        cases e : I1 p with
        | none => rfl
        | some u => rw [s1.sm _ _ e] at hp; cases hp
      have ro : Rp G I1 (upd (upd H1 dx (.own p)) p (.ins (G.cls c) dx [])) (.nd (.obj true c []) []) (.ref p) (one1 p) := ⟨p, [], z0, _, rfl, ⟨rfl, dx, rfl⟩, ⟨rfl, fun _ => rfl⟩, .inl ⟨rfl, Io, upd_same, fun a => by simp⟩⟩
      have rall : Rps G I1 (upd (upd H1 dx (.own p)) p (.ins (G.cls c) dx [])) (.nd (.obj true c []) [] :: ds) (.ref p :: ws) (fadd (one1 p) gT) := ⟨.ref p, ws, one1 p, gT, rfl, ro, nw.rps t1, fun _ => rfl⟩
      refine ⟨I1, _, fadd (one1 p) gT, nw.sm, rall, fun a => ?_, ?_⟩
      · by_cases q : a = p
        · subst q; simp [one1_self, gT0]
        · have := t3 a; have := n1 a; simp [one1_ne q]; omega
      have s1' := s1.nw nw
      have o1' : OpsRel G I1 (upd (upd H1 dx (.own p)) p (.ins (G.cls c) dx [])) x.2 vs x.1 ws g1 := by
        have : ∀ {os : List Opd} {ws : List V} {g : Ft}, OpsRel G I1 H1 x.2 vs os ws g → OpsRel G I1 (upd (upd H1 dx (.own p)) p (.ins (G.cls c) dx [])) x.2 vs os ws g := by
          intro os
          induction os with
          | nil => intro ws g o; exact o
          | cons q os ih =>
            intro ws g o
            obtain ⟨v, vr, g1, g2, rfl, y, z, e⟩ := o
            refine ⟨v, vr, g1, g2, rfl, ?_, ih z, e⟩
            cases q with
            | val d => exact nw.rp y
            | plc i p => exact ⟨y.1.keep nw.im nw.kp, y.2⟩
        exact this o1
      have hf' := nw.rps t2
      have mono : ∀ {I2 H2 : Hp} {f2 g2 : Ft}, Fr false I1 (upd (upd H1 dx (.own p)) p (.ins (G.cls c) dx [])) (fadd (one1 p) gT) I2 H2 f2 → (∀ x, g2 x ≤ f2 x + hf x) → Fr false I H f I2 H2 g2 := fun {I2 H2 f2 g2} b le => by
        have b1 : Fr false I1 H1 (fadd f1 g1) I2 H2 g2 := ⟨b.im, fun x o e z => b.kp x o (nw.kp x o e) (by
            have hx : x ≠ p := fun q => by subst q; rw [hp] at e; cases e
            have := t3 x; simp at z; simp [one1_ne hx]; omega), fun x o e z n => b.un x o (nw.kp x o e) (by
            have hx : x ≠ p := fun q => by subst q; rw [hp] at e; cases e
            have := t3 x; simp at z; simp [one1_ne hx]; omega) n, fun x z => by
          by_cases hx : x = p
          · subst hx; exact .inr hp
          · have q := le x
            by_cases q2 : f2 x = 0
            · left; have := t3 x; simp; omega
            · rcases b.nw x q2 with r | r
              · left; have := t3 x; simp [one1_ne hx] at r ⊢; omega
              · right
                cases e : H1 x with
                | none => rfl
                | some u => rw [nw.kp x u e] at r; exact absurd r (by simp), fun z => by cases z⟩
        exact (a1.trans b1).imp fun z => by cases z
      have side : ∀ x, fadd (one1 p) gT x + hf x ≤ 1 := fun a => by
        by_cases q : a = p
        · subst q; have := free_of t2 hp; simp [one1_self, gT0, this]
        · have := t3 a; have := n1 a; simp [one1_ne q]; omega
      have trkh : ∀ x, hf x ≠ 0 → (upd (upd H1 dx (.own p)) p (.ins (G.cls c) dx [])) x ≠ none := fun x z => by obtain ⟨_, o, e⟩ := hf'.trk x z; rw [e]; simp
      cases eF : F (.nd (.obj true c []) [] :: ds) with
      | ok q =>
        rw [eF] at h
        obtain ⟨d, ds2⟩ := q
        split at h
        · rename_i o' ds' eq
          simp only [R.ok.injEq, Prod.mk.injEq] at eq
          obtain ⟨rfl, rfl⟩ := eq
          intro v I2 H2 f2 g2 sm2 y2 r2 n2 b
          obtain ⟨rfl, gz⟩ := r2
          obtain ⟨v0, ws0, go, gr, e0, yo, yr, qq⟩ := y2
          cases e0
          refine ⟨rfl, ?_⟩
          have t := b.apart (g := hf) trkh side (fun x => by have := n2 x; simpa using this)
          obtain ⟨f3, s3, le⟩ := Stt.back s1' o1' ed hc.1 hc.2 sm2 (b.side hf' side) yr (fun a => by have t1 := t a; have := qq a; simp only [fadd_at] at t1; omega)
          exact h (.ref p) I2 H2 f3 go s3 yo (fun a => by have := le a; have t1 := t a; have := qq a; simp only [fadd_at] at t1; omega) (mono b fun x => by have := le x; have := qq x; simp; omega) (fun z => by cases z)
        · rename_i c' fs o' ds' eq; cases eq
        · exact h.elim
      | exc c' fs ds2 =>
        rw [eF] at h
        split at h
        · rename_i eq; cases eq
        · rename_i c2 fs2 o' ds' eq
          simp only [R.exc.injEq] at eq
          obtain ⟨rfl, rfl, rfl⟩ := eq
          intro cls dd I2 H2 f2 sm2 y2 n2 xa b
          obtain ⟨v0, ws0, go, gr, e0, yo, yr, qq⟩ := y2
          cases e0
          have t := b.apart (g := hf) trkh side n2
          obtain ⟨f3, s3, le⟩ := Stt.back s1' o1' ed hc.1 hc.2 sm2 (b.side hf' side) yr (fun a => by have := t a; have := qq a; omega)
          exact hE _ _ σ _ (h cls dd I2 H2 f3 s3 xa (mono b fun x => by have := le x; have := qq x; omega))
        · exact h.elim
      | bad => rw [eF] at h; exact h
    · exact h.elim
  · exact h.elim
end
end DL
end
section
set_option maxRecDepth 100000
namespace DL
open PySem L2
def child (o : Opd) (j : Nat) (c : D) : R Opd := if Fz c then .ok (.val c) else match o with
  | .plc i p => .ok (.plc i (p ++ [j]))
  | .val _ => .bad
section
variable {G : Gm} {W : WX} {pu : Bool}
theorem Loc.snoc {I H : Hp} : ∀ {p : List Nat} {ds : List D} {vs : List V} {i j : Nat} {q : Addr} {k : Kd} {es : List D} {ws : List V} {o : HO} {w : V}, Loc G I H ds vs i p (.ref q) → getP ds i p = some (.nd k es) → k.st G ws o →
    ((k.mut = true ∧ H q = some o) ∨ (k.mut = false ∧ I q = some o)) → ws[j]? = some w → Loc G I H ds vs i (p ++ [j]) w
  | [], ds, vs, i, j, q, k, es, ws, o, w, l, e, s, c, ew => ⟨k, es, q, ws, o, e, l, s, c, ew⟩
  | m :: p, ds, vs, i, j, q, k, es, ws, o, w, l, e, s, c, ew => by
    obtain ⟨k', es', q', ws', o', e1, e2, s', c', l'⟩ := l
    unfold getP at e
    rw [e1] at e
    exact ⟨k', es', q', ws', o', e1, e2, s', c', l'.snoc e s c ew⟩
/-- a node's child -/
theorem child_ok {σ : St} {I H : Hp} {E : List D} {vs : List V} {f g : Ft} {o o' : Opd} {v : V} {k : Kd} {ds : List D} {j : Nat} {c : D} (s : Stt G σ I H E vs f) (x : OpRel G I H E vs o v g) (n : ∀ a, g a ≤ 1) (e : cont E o = some (.nd k ds)) (ej : ds[j]? = some c) (ec : child o j c = .ok o') :
    ∃ p ws ob w, v = .ref p ∧ k.st G ws ob ∧ H p = some ob ∧ ws.length = ds.length ∧ ws[j]? = some w ∧ OpRel G I H E vs o' w z0 := by
  obtain ⟨g', y, _⟩ := x.cont s n e
  obtain ⟨p, ws, g2, ob, rfl, st, z, q⟩ := y
  have eH : H p = some ob := by
    rcases q with ⟨_, _, eH, _⟩ | ⟨_, eI, _⟩
    · exact eH
    · exact s.sm _ _ eI
  obtain ⟨w, gw, h2, ew, yw, qw, _⟩ := z.get ej
  refine ⟨p, ws, ob, w, rfl, st, eH, z.len, ew, ?_⟩
  unfold child at ec
  split at ec
  · rename_i hf
    cases ec
    exact yw.fz0 hf
  · cases o with
    | val d => cases ec
    | plc i q' =>
      cases ec
      refine ⟨x.1.snoc e st ?_ ew, fun _ => rfl⟩
      rcases q with ⟨m, _, eH, _⟩ | ⟨m, eI, _⟩
      · exact .inl ⟨m, eH⟩
      · exact .inr ⟨m, eI⟩
/-- the operand itself is dropped for another one that owns nothing -/
theorem Fr.drop {I H I1 H1 : Hp} {f f1 g1 : Ft} (a : Fr pu I H f I1 H1 (fadd f1 g1)) : Fr pu I H f I1 H1 (fadd f1 z0) := a.less fun x z => by simp at z ⊢; omega
def ixOf (f : Str) : List Str → Option Nat
  | [] => none
  | n :: ns => if f == n then some 0 else (ixOf f ns).map (· + 1)
def fldK (c : Nat) (f : Str) (r : Opd × List D) : R (Opd × List D) := match cont r.2 r.1 with
  | some (.nd (.obj _ c' ns) ds) => if c' = c then (match ixOf f ns with
    | some j => match ds[j]? with
      | some d => (child r.1 j d).bind fun o => .ok (o, r.2)
      | none => .bad
    | none => .bad) else .bad
  | _ => .bad
def dFld (c : Nat) (f : Str) (d : Den) : Den := fun E => (d E).bind (fldK c f)
theorem lookup_zip {f : Str} : ∀ {ns : List Str} {vs : List V} {j : Nat} {w : V}, ixOf f ns = some j → vs[j]? = some w → (ns.zip vs).lookup f = some w
  | [], vs, j, w, e, _ => by cases e
  | n :: ns, [], j, w, _, e => by simp at e
  | n :: ns, v :: vs, j, w, e, ew => by
    unfold ixOf at e
    by_cases h : (f == n) = true
    · rw [if_pos h] at e; cases e
      simp at ew; subst ew
      simp only [List.zip_cons_cons, List.lookup_cons, h]
    · rw [if_neg h] at e
      have h' : (f == n) = false := by simpa using h
      simp only [List.zip_cons_cons, List.lookup_cons, h']
      cases e2 : ixOf f ns with
      | none => rw [e2] at e; cases e
      | some j' =>
        rw [e2] at e; cases e
        exact lookup_zip e2 (by simpa using ew)
theorem t_fld {K : PySem.W.Frag} {te : TE} {c : Nat} {f : Str} {d : Den} (cl : Cls K (G.cls c)) (na : NoAttr K (G.cls c) f) (h0 : ∀ σ H Q, tO G W pu d σ H Q → te σ H Q) : ∀ σ H Q, tO G W pu (dFld c f d) σ H Q → tFld K te f σ H Q := by
  rintro σ H Q ⟨I, E, vs, f0, s, hh⟩
  refine h0 _ _ _ ⟨I, E, vs, f0, s, hh.fst fun r er h => ?_⟩
  intro v I1 H1 f1 g1 s1 o1 n1 a1 e1
  unfold fldK at h
  split at h
  · rename_i mk c' ns ds ec
    split at h
    · rename_i hc
      subst hc
      split at h
      · rename_i j ej
        split at h
        · rename_i dd ed
          cases eo : child r.1 j dd with
          | ok o' =>
            rw [eo] at h
            obtain ⟨p, ws, ob, w, rfl, ⟨l, dx, rfl⟩, eH, lw, ew, rw'⟩ := child_ok s1 o1 (fun a => by have := n1 a; omega) ec ed eo
            exact ⟨p, G.cls c', dx, _, w, rfl, eH, cl, na, lookup_zip ej ew, h w I1 H1 f1 z0 s1 rw' (fun a => by simp; exact s1.nd a) a1.drop e1⟩
          | exc _ _ _ => rw [eo] at h; unfold child at eo; split at eo; cases eo; split at eo <;> cases eo
          | bad => rw [eo] at h; exact h.elim
        · exact h.elim
      · exact h.elim
    · exact h.elim
  · exact h.elim
def Kd.seq : Kd → Bool
  | .tup => true | .lst _ => true | _ => false
def ixK (r : List Opd × List D) : R (Opd × List D) := match r.1 with
  | [o, q] => match cont r.2 o, cont r.2 q with
    | some (.nd k ds), some (.sc (.int i)) => if k.seq then (match ixN ds.length i with
      | some j => match ds[j]? with
        | some d => (child o j d).bind fun o => .ok (o, r.2)
        | none => .bad
      | none => .bad) else .bad
    | some (.kl xs), some (.sc (.int i)) => match atI xs i with
      | some n => .ok (.val (.sc (.int n)), r.2)
      | none => .bad
    | some (.sc (.str z)), some (.sc (.int i)) => if z.length ≤ 100000 then (match atI z.cps.toList i with
      | some c => .ok (.val (.sc (.str ⟨#[c]⟩)), r.2)
      | none => .bad) else .bad
    | _, _ => .bad
  | _ => .bad
def dIx (pu2 : Bool) (d1 d2 : Den) : Den := fun E => (aCons pu2 d1 (aCons true d2 aNil) E).bind ixK
theorem Kd.seq_at {K : PySem.W.Frag} {k : Kd} {H : Hp} {p : Addr} {ws : List V} {ob : HO} (hs : k.seq = true) (st : k.st G ws ob) (e : H p = some ob) : SqL K H p ws ∨ SqT K H p ws := by
  cases k with
  | tup => cases st; exact .inr (SqT.of e)
  | lst m => cases st; exact .inl (SqL.of e)
  | dik _ _ => cases hs
  | dit _ _ => cases hs
  | obj _ _ _ => cases hs
  | dku _ => cases hs
  | dtu _ => cases hs
theorem t_ix {ta tb : TE} {pu1 pu2 : Bool} {d1 d2 : Den} (h1 : ∀ σ H Q, tO G W pu1 d1 σ H Q → ta σ H Q) (h2 : ∀ σ H Q, tO G W pu2 d2 σ H Q → tb σ H Q) : ∀ σ H Q, tO G W (pu1 && (pu2 && true)) (dIx (pu2 && true) d1 d2) σ H Q → tOp (rIx G.K) ta tb σ H Q := by
  rintro σ H Q ⟨I, E, vs, f, s, hh⟩
  refine (t_acons h1 (t_acons h2 t_anil) σ H (fun ws H' => r2l (rIx G.K) ws H' Q) ?_ : _)
  refine ⟨I, E, vs, f, s, hh.fst fun r er h => ?_⟩
  intro ws I1 H1 f1 g1 s1 o1 n1 a1 e1
  unfold ixK at h
  obtain ⟨os, E1⟩ := r
  split at h
  · rename_i o q eos
    have eos' : os = [o, q] := eos
    subst eos'
    obtain ⟨v, vr, ga, gb, rfl, oa, ⟨w, vr2, gc, gd, rfl, ob, ⟨rfl, _⟩, qc⟩, qa⟩ := o1
    have na : ∀ a, ga a ≤ 1 := fun a => by have := n1 a; have := qa a; omega
    have nb : ∀ a, gc a ≤ 1 := fun a => by have := n1 a; have := qa a; have := qc a; omega
    show rIx G.K v w H1 Q
    split at h
    · rename_i k ds i ek ei
      obtain ⟨gi, yi, _⟩ := ob.cont s1 nb ei
      obtain ⟨rfl, _⟩ := yi
      split at h
      · rename_i hs
        split at h
        · rename_i j ej
          split at h
          · rename_i dd ed
            cases eo : child o j dd with
            | ok o' =>
              rw [eo] at h
              obtain ⟨p, ws, hob, w', rfl, st, eH, lw, ew, rw'⟩ := child_ok s1 oa na ek ed eo
              have at_ : atI ws i = some w' := by unfold atI; rw [lw, ej]; exact ew
              have q := h w' I1 H1 f1 z0 s1 rw' (fun a => by simp; exact s1.nd a) a1.drop e1
              rcases Kd.seq_at (K := G.K) hs st eH with z | z
              · exact .inl ⟨p, ws, i, w', rfl, rfl, z, at_, q⟩
              · exact .inr (.inl ⟨p, ws, i, w', rfl, rfl, z, at_, q⟩)
            | exc _ _ _ => unfold child at eo; split at eo; cases eo; split at eo <;> cases eo
            | bad => rw [eo] at h; exact h.elim
          · exact h.elim
        · exact h.elim
      · exact h.elim
    · rename_i xs i ek ei
      obtain ⟨gi, yi, _⟩ := ob.cont s1 nb ei
      obtain ⟨rfl, _⟩ := yi
      obtain ⟨gz, yz, _⟩ := oa.cont s1 na ek
      obtain ⟨⟨p, rfl, sq⟩, _⟩ := yz
      split at h
      · rename_i n en
        refine .inl ⟨p, _, i, .int n, rfl, rfl, SqL.up s1.sm sq, ?_, h _ I1 H1 f1 z0 s1 ⟨rfl, fun _ => rfl⟩ (fun a => by simp; exact s1.nd a) a1.drop e1⟩
        unfold atI at en ⊢
        rw [List.length_map]
        cases ej : ixN xs.length i with
        | none => rw [ej] at en; cases en
        | some j =>
          rw [ej] at en
          have en' : xs[j]? = some n := en
          show (xs.map V.int)[j]? = _
          rw [List.getElem?_map, en']; rfl
      · exact h.elim
    · rename_i z i ek ei
      obtain ⟨gi, yi, _⟩ := ob.cont s1 nb ei
      obtain ⟨rfl, _⟩ := yi
      obtain ⟨gz, yz, _⟩ := oa.cont s1 na ek
      obtain ⟨rfl, _⟩ := yz
      split at h
      · rename_i hl
        split at h
        · rename_i c ec
          exact .inr (.inr ⟨z, i, c, rfl, rfl, line5 hl, ec, h _ I1 H1 f1 z0 s1 ⟨rfl, fun _ => rfl⟩ (fun a => by simp; exact s1.nd a) a1.drop e1⟩)
        · exact h.elim
      · exact h.elim
    · exact h.elim
  · exact h.elim
end
abbrev DenT := List D → R (Bool × List D)
def tT (G : Gm) (W : WX) (pu : Bool) (den : DenT) : TT := fun σ H Q => ∃ I E vs f, Stt G σ I H E vs f ∧ Ans G W σ I H f vs (den E) fun r =>
  ∀ I' H' f', Stt G σ I' H' r.2 vs f' → Fr pu I H f I' H' f' → (pu = true → r.2 = E) → Q r.1 H'
def dTst (d : Den) : DenT := fun E => (d E).bind fun r => match cont r.2 r.1 with
  | some (.sc (.bl b)) => .ok (b, r.2)
  | _ => .bad
def truD : D → Option Bool
  | .sc .non => some false
  | .sc (.bl b) => some b
  | .sc (.int i) => some (i != 0)
  | .sc (.str z) => if z.length ≤ 100000 then some ((z.length : Int) != 0) else none
  | .nd (.dik _ ks) _ => some (!ks.isEmpty)
  | .nd k ds => if k.seq then some (!ds.isEmpty) else none
  | _ => none
def dTru (d : Den) : DenT := fun E => (d E).bind fun r => match cont r.2 r.1 with
  | some c => match truD c with
    | some b => .ok (b, r.2)
    | none => .bad
  | none => .bad
def dAnd (a b : DenT) : DenT := fun E => (a E).bind fun r => if r.1 then b r.2 else .ok (false, r.2)
def dOr (a b : DenT) : DenT := fun E => (a E).bind fun r => if r.1 then .ok (true, r.2) else b r.2
def dNot (a : DenT) : DenT := fun E => (a E).bind fun r => .ok (!r.1, r.2)
section
variable {G : Gm} {W : WX} {pu pu1 pu2 : Bool} {te : TE} {d : Den}
theorem t_tst (h0 : ∀ σ H Q, tO G W pu d σ H Q → te σ H Q) : ∀ σ H Q, tT G W pu (dTst d) σ H Q → tTest te σ H Q := by
  rintro σ H Q ⟨I, E, vs, f, s, hh⟩
  refine h0 _ _ _ ⟨I, E, vs, f, s, hh.fst fun r er h => ?_⟩
  intro v I1 H1 f1 g1 s1 o1 n1 a1 e1
  split at h
  · rename_i b ec
    obtain ⟨g', y, _⟩ := o1.cont s1 (fun a => by have := n1 a; omega) ec
    obtain ⟨rfl, _⟩ := y
    exact ⟨b, rfl, h I1 H1 f1 s1 (a1.less fun x z => by simp; omega) e1⟩
  · exact h.elim
theorem t_tstB (h0 : ∀ σ H Q, tO G W pu d σ H Q → te σ H Q) : ∀ σ H Q, tT G W pu (dTst d) σ H Q → tB te σ H Q := t_tst h0
theorem zip_empty {α β : Type} : ∀ {ks : List α} {vs : List β}, ks.length = vs.length → (ks.zip vs).isEmpty = ks.isEmpty
  | [], [], _ => rfl
  | _ :: _, _ :: _, _ => rfl
  | [], _ :: _, h => by simp at h
  | _ :: _, [], h => by simp at h
theorem isEmpty_len {α β : Type} : ∀ {xs : List α} {ys : List β}, xs.length = ys.length → xs.isEmpty = ys.isEmpty
  | [], [], _ => rfl
  | _ :: _, _ :: _, _ => rfl
  | [], _ :: _, h => by simp at h
  | _ :: _, [], h => by simp at h
theorem truV_of {K : PySem.W.Frag} {I H : Hp} {c : D} {v : V} {g : Ft} {b : Bool} (sm : ∀ a o, I a = some o → H a = some o) (y : Rp G I H c v g) (e : truD c = some b) : TruV K v H b := by
  cases c with
  | una => cases e
  | lent => cases e
  | kl xs => cases e
  | sc x =>
    obtain ⟨rfl, _⟩ := y
    cases v with
    | str z =>
      have e' : (if z.length ≤ 100000 then some ((z.length : Int) != 0) else none) = some b := e
      by_cases hl : z.length ≤ 100000
      · rw [if_pos hl] at e'; cases e'; exact ⟨line5 hl, rfl⟩
      · rw [if_neg hl] at e'; cases e'
    | non => cases e; rfl
    | bl x => cases e; rfl
    | int x => cases e; rfl
    | byt x => cases e
    | flt x => cases e
    | ref x => cases e
    | ty x => cases e
  | nd k ds =>
    obtain ⟨p, ws, g2, ob, rfl, st, z, q⟩ := y
    have eH : H p = some ob := by
      rcases q with ⟨_, _, eH, _⟩ | ⟨_, eI, _⟩
      · exact eH
      · exact sm _ _ eI
    have hl := z.len
    have seq : ∀ {k : Kd}, k.seq = true → k.st G ws ob → b = !ds.isEmpty → TruV K (.ref p) H b := fun {k} hs st eb => by
      rcases Kd.seq_at (K := K) hs st eH with z | z
      · exact .inl ⟨ws, z, by rw [eb, isEmpty_len hl]⟩
      · exact .inr (.inl ⟨ws, z, by rw [eb, isEmpty_len hl]⟩)
    cases k with
    | dik m ks =>
      have e' : some (!ks.isEmpty) = some b := e
      cases e'
      obtain ⟨l, rfl⟩ := st
      exact .inr (.inr ⟨_, eH, by rw [zip_empty l]⟩)
    | tup => have e' : some (!ds.isEmpty) = some b := e; cases e'; exact seq (k := .tup) rfl st rfl
    | lst m => have e' : some (!ds.isEmpty) = some b := e; cases e'; exact seq (k := .lst m) rfl st rfl
    | dit m ks => cases e
    | obj m c ns => cases e
    | dku _ => cases e
    | dtu _ => cases e
theorem t_tru {K : PySem.W.Frag} (h0 : ∀ σ H Q, tO G W pu d σ H Q → te σ H Q) : ∀ σ H Q, tT G W pu (dTru d) σ H Q → (fun σ H Q => te σ H fun x H' => ∃ k, TruV K x H' k ∧ Q k H') σ H Q := by
  rintro σ H Q ⟨I, E, vs, f, s, hh⟩
  refine h0 _ _ _ ⟨I, E, vs, f, s, hh.fst fun r er h => ?_⟩
  intro v I1 H1 f1 g1 s1 o1 n1 a1 e1
  split at h
  · rename_i c ec
    split at h
    · rename_i b eb
      obtain ⟨g', y, _⟩ := o1.cont s1 (fun a => by have := n1 a; omega) ec
      exact ⟨b, truV_of s1.sm y eb, h I1 H1 f1 s1 (a1.less fun x z => by simp; omega) e1⟩
    · exact h.elim
  · exact h.elim
variable {t u : TT} {a b : DenT}
theorem t_and (h1 : ∀ σ H Q, tT G W pu1 a σ H Q → t σ H Q) (h2 : ∀ σ H Q, tT G W pu2 b σ H Q → u σ H Q) : ∀ σ H Q, tT G W (pu1 && pu2) (dAnd a b) σ H Q → tAnd t u σ H Q := by
  rintro σ H Q ⟨I, E, vs, f, s, hh⟩
  refine h1 _ _ _ ⟨I, E, vs, f, s, hh.fst fun r er h => ?_⟩
  intro I1 H1 f1 s1 a1 e1
  obtain ⟨c, E1⟩ := r
  cases c with
  | true =>
    show u σ H1 Q
    refine h2 _ _ _ ⟨I1, E1, vs, f1, s1, (Ans.fwd h a1).imp fun q _ k I2 H2 f2 s2 a2 e2 => k I2 H2 f2 s2 (a1.trans a2) fun z => ?_⟩
    simp only [Bool.and_eq_true] at z
    exact (e2 z.2).trans (e1 z.1)
  | false =>
    show Q false H1
    refine h I1 H1 f1 s1 (a1.imp fun z => ?_) fun z => e1 ?_
    · simp only [Bool.and_eq_true] at z; exact z.1
    · simp only [Bool.and_eq_true] at z; exact z.1
theorem t_or (h1 : ∀ σ H Q, tT G W pu1 a σ H Q → t σ H Q) (h2 : ∀ σ H Q, tT G W pu2 b σ H Q → u σ H Q) : ∀ σ H Q, tT G W (pu1 && pu2) (dOr a b) σ H Q → tOr t u σ H Q := by
  rintro σ H Q ⟨I, E, vs, f, s, hh⟩
  refine h1 _ _ _ ⟨I, E, vs, f, s, hh.fst fun r er h => ?_⟩
  intro I1 H1 f1 s1 a1 e1
  obtain ⟨c, E1⟩ := r
  cases c with
  | false =>
    show u σ H1 Q
    refine h2 _ _ _ ⟨I1, E1, vs, f1, s1, (Ans.fwd h a1).imp fun q _ k I2 H2 f2 s2 a2 e2 => k I2 H2 f2 s2 (a1.trans a2) fun z => ?_⟩
    simp only [Bool.and_eq_true] at z
    exact (e2 z.2).trans (e1 z.1)
  | true =>
    show Q true H1
    refine h I1 H1 f1 s1 (a1.imp fun z => ?_) fun z => e1 ?_
    · simp only [Bool.and_eq_true] at z; exact z.1
    · simp only [Bool.and_eq_true] at z; exact z.1
theorem t_not (h1 : ∀ σ H Q, tT G W pu1 a σ H Q → t σ H Q) : ∀ σ H Q, tT G W pu1 (dNot a) σ H Q → tNot t σ H Q := by
  rintro σ H Q ⟨I, E, vs, f, s, hh⟩
  refine h1 _ _ _ ⟨I, E, vs, f, s, hh.fst fun r er h => ?_⟩
  exact fun I1 H1 f1 s1 a1 e1 => h I1 H1 f1 s1 a1 e1
def dAndV (a b : Den) : Den := fun E => (a E).bind fun r => match cont r.2 r.1 with
  | some (.sc (.bl true)) => b r.2
  | some (.sc (.bl false)) => .ok (.val (.sc (.bl false)), r.2)
  | _ => .bad
def dOrV (a b : Den) : Den := fun E => (a E).bind fun r => match cont r.2 r.1 with
  | some (.sc (.bl false)) => b r.2
  | some (.sc (.bl true)) => .ok (.val (.sc (.bl true)), r.2)
  | _ => .bad
def dNotV (a : Den) : Den := fun E => (a E).bind fun r => match cont r.2 r.1 with
  | some (.sc (.bl b)) => .ok (.val (.sc (.bl (!b))), r.2)
  | _ => .bad
def dIf (t : DenT) (a b : Den) : Den := fun E => (t E).bind fun r => if r.1 then a r.2 else b r.2
variable {ta tb : TE} {da db : Den} {pu3 : Bool}
/-- a part behind a part, the frames as one -/
theorem tO_then {σ : St} {I H I1 H1 : Hp} {E E1 : List D} {vs : List V} {f f1 : Ft} {r : R (Opd × List D)} {Q : VK} {p1 p2 p : Bool} (hp : p = true → p1 = true ∧ p2 = true) (a1 : Fr p1 I H f I1 H1 f1) (e1 : p1 = true → E1 = E)
    (h : Ans G W σ I H f vs r fun r => ∀ v I' H' f' g, Stt G σ I' H' r.2 vs f' → OpRel G I' H' r.2 vs r.1 v g → (∀ a, f' a + g a ≤ 1) → Fr p I H f I' H' (fadd f' g) → (p = true → r.2 = E) → Q v H') :
    Ans G W σ I1 H1 f1 vs r fun r => ∀ v I' H' f' g, Stt G σ I' H' r.2 vs f' → OpRel G I' H' r.2 vs r.1 v g → (∀ a, f' a + g a ≤ 1) → Fr p2 I1 H1 f1 I' H' (fadd f' g) → (p2 = true → r.2 = E1) → Q v H' :=
  (h.fwd a1).imp fun q _ k v I2 H2 f2 g2 s2 o2 n2 a2 e2 => k v I2 H2 f2 g2 s2 o2 n2 ((a1.trans a2).imp fun z => by simp [hp z]) fun z => by rw [e2 (hp z).2, e1 (hp z).1]
theorem t_andV (h1 : ∀ σ H Q, tO G W pu1 da σ H Q → ta σ H Q) (h2 : ∀ σ H Q, tO G W pu2 db σ H Q → tb σ H Q) : ∀ σ H Q, tO G W (pu1 && pu2) (dAndV da db) σ H Q → tAndV ta tb σ H Q := by
  rintro σ H Q ⟨I, E, vs, f, s, hh⟩
  refine h1 _ _ _ ⟨I, E, vs, f, s, hh.fst fun r er h => ?_⟩
  intro v I1 H1 f1 g1 s1 o1 n1 a1 e1
  have a1' : Fr pu1 I H f I1 H1 f1 := a1.less fun x z => by simp; omega
  split at h
  · rename_i ec
    obtain ⟨g', y, _⟩ := o1.cont s1 (fun a => by have := n1 a; omega) ec
    obtain ⟨rfl, _⟩ := y
    refine ⟨true, rfl, ?_⟩
    show tb σ H1 Q
    exact h2 _ _ _ ⟨I1, _, vs, f1, s1, tO_then (fun z => by simpa using z) a1' e1 h⟩
  · rename_i ec
    obtain ⟨g', y, _⟩ := o1.cont s1 (fun a => by have := n1 a; omega) ec
    obtain ⟨rfl, _⟩ := y
    refine ⟨false, rfl, ?_⟩
    show Q (.bl false) H1
    exact h (.bl false) I1 H1 f1 z0 s1 ⟨rfl, fun _ => rfl⟩ (fun a => by simp; exact s1.nd a) (a1.drop.imp fun z => by simp at z; exact z.1) fun z => e1 (by simp at z; exact z.1)
  · exact h.elim
theorem t_orV (h1 : ∀ σ H Q, tO G W pu1 da σ H Q → ta σ H Q) (h2 : ∀ σ H Q, tO G W pu2 db σ H Q → tb σ H Q) : ∀ σ H Q, tO G W (pu1 && pu2) (dOrV da db) σ H Q → tOrV ta tb σ H Q := by
  rintro σ H Q ⟨I, E, vs, f, s, hh⟩
  refine h1 _ _ _ ⟨I, E, vs, f, s, hh.fst fun r er h => ?_⟩
  intro v I1 H1 f1 g1 s1 o1 n1 a1 e1
  have a1' : Fr pu1 I H f I1 H1 f1 := a1.less fun x z => by simp; omega
  split at h
  · rename_i ec
    obtain ⟨g', y, _⟩ := o1.cont s1 (fun a => by have := n1 a; omega) ec
    obtain ⟨rfl, _⟩ := y
    refine ⟨false, rfl, ?_⟩
    show tb σ H1 Q
    exact h2 _ _ _ ⟨I1, _, vs, f1, s1, tO_then (fun z => by simpa using z) a1' e1 h⟩
  · rename_i ec
    obtain ⟨g', y, _⟩ := o1.cont s1 (fun a => by have := n1 a; omega) ec
    obtain ⟨rfl, _⟩ := y
    refine ⟨true, rfl, ?_⟩
    show Q (.bl true) H1
    exact h (.bl true) I1 H1 f1 z0 s1 ⟨rfl, fun _ => rfl⟩ (fun a => by simp; exact s1.nd a) (a1.drop.imp fun z => by simp at z; exact z.1) fun z => e1 (by simp at z; exact z.1)
  · exact h.elim
end
end DL
end
section
set_option maxRecDepth 100000
namespace DL
open PySem L2
inductive S where
  | nx (E : List D) | rt (d : D) (E : List D) | bk (E : List D) | ct (E : List D)
  | exc (c : Nat) (fs : List (Str × V)) (E : List D) | bad
abbrev DenS := List D → S
def Agr (A : List Nat) (vs vs' : List V) : Prop := ∀ i, i ∉ A → vs'[i]? = vs[i]?
theorem Agr.refl {A : List Nat} {vs : List V} : Agr A vs vs := fun _ _ => rfl
theorem Agr.trans {A B : List Nat} {a b c : List V} (x : Agr A a b) (y : Agr B b c) : Agr (A ++ B) a c := fun i h => by
  simp only [List.mem_append, not_or] at h
  exact (y i h.2).trans (x i h.1)
theorem Agr.sub {A B : List Nat} {a b : List V} (x : Agr A a b) (h : ∀ i ∈ A, i ∈ B) : Agr B a b := fun i hi => x i fun q => hi (h i q)
def AnsS (G : Gm) (W : WX) (A : List Nat) (I H : Hp) (f : Ft) (vs : List V) (D : Ends) : S → Prop
  | .nx E' => ∀ σ' vs' I' H' f', Stt G σ' I' H' E' vs' f' → Agr A vs vs' → Fr false I H f I' H' f' → D.nx σ' H'
  | .bk E' => ∀ σ' vs' I' H' f', Stt G σ' I' H' E' vs' f' → Agr A vs vs' → Fr false I H f I' H' f' → D.bk σ' H'
  | .ct E' => ∀ σ' vs' I' H' f', Stt G σ' I' H' E' vs' f' → Agr A vs vs' → Fr false I H f I' H' f' → D.ct σ' H'
  | .rt d E' => ∀ v σ' vs' I' H' f' g, Stt G σ' I' H' E' vs' f' → Agr A vs vs' → Rp G I' H' d v g → (∀ a, f' a + g a ≤ 1) → Fr false I H f I' H' (fadd f' g) → D.rt v H'
  | .exc c fs E' => ∀ cls d σ' vs' I' H' f', Stt G σ' I' H' E' vs' f' → Agr A vs vs' → ExcAt G H' cls d c fs → Fr false I H f I' H' f' → W cls d σ' H'
  | .bad => False
def tS (G : Gm) (W : WX) (A : List Nat) (den : DenS) : TS := fun D σ H => ∃ I E vs f, Stt G σ I H E vs f ∧ AnsS G W A I H f vs D (den E)
def S.bind (s : S) (k : List D → S) : S := match s with
  | .nx E => k E
  | s => s
def R.toS {α : Type} (r : R α) (k : α → S) : S := match r with
  | .ok a => k a
  | .exc c fs E => .exc c fs E
  | .bad => .bad
section
variable {G : Gm} {W : WX} {A B C : List Nat} {I H I1 H1 : Hp} {f f1 : Ft} {vs vs1 : List V} {En : Ends} {s : S} {σ : St}
theorem AnsS.fwd (h : AnsS G W B I H f vs En s) (ag : Agr A vs vs1) (fr : Fr false I H f I1 H1 f1) (hB : ∀ i, i ∈ A ∨ i ∈ C → i ∈ B) : AnsS G W C I1 H1 f1 vs1 En s := by
  have hb : ∀ {vs2}, Agr C vs1 vs2 → Agr B vs vs2 := fun {vs2} z => (ag.trans z).sub fun i hi => hB i (by simpa using hi)
  cases s with
  | nx E => exact fun σ' vs' I' H' f' s a b => h σ' vs' I' H' f' s (hb a) (fr.trans b)
  | bk E => exact fun σ' vs' I' H' f' s a b => h σ' vs' I' H' f' s (hb a) (fr.trans b)
  | ct E => exact fun σ' vs' I' H' f' s a b => h σ' vs' I' H' f' s (hb a) (fr.trans b)
  | rt d E => exact fun v σ' vs' I' H' f' g s a r n b => h v σ' vs' I' H' f' g s (hb a) r n (fr.trans b)
  | exc c fs E => exact fun cls d σ' vs' I' H' f' s a x b => h cls d σ' vs' I' H' f' s (hb a) x (fr.trans b)
  | bad => exact h
/-- an expression ahead of a statement -/
theorem Ans.of_S {α : Type} {r : R α} {k : α → S} {k1 : α → Prop} (h : AnsS G W A I H f vs En (r.toS k)) (i : ∀ a, r = .ok a → AnsS G W A I H f vs En (k a) → k1 a) : Ans G W σ I H f vs r k1 := by
  cases r with
  | ok a => exact i a rfl h
  | exc c fs E => exact fun cls d I' H' f' s x b => h cls d σ vs I' H' f' s Agr.refl x b
  | bad => exact h
theorem AnsS.bind {k : List D → S} (h : AnsS G W A I H f vs En (s.bind k)) {D1 : Ends} (e1 : D1.rt = En.rt) (e2 : D1.bk = En.bk) (e3 : D1.ct = En.ct) (hk : ∀ E, s = .nx E → AnsS G W A I H f vs En (k E) → AnsS G W A I H f vs D1 (.nx E)) : AnsS G W A I H f vs D1 s := by
  cases s with
  | nx E => exact hk E rfl h
  | bk E => show ∀ σ' vs' I' H' f', _ → _ → _ → D1.bk σ' H'; rw [e2]; exact h
  | ct E => show ∀ σ' vs' I' H' f', _ → _ → _ → D1.ct σ' H'; rw [e3]; exact h
  | rt d E => show ∀ v σ' vs' I' H' f' g, _ → _ → _ → _ → _ → D1.rt v H'; rw [e1]; exact h
  | exc c fs E => exact h
  | bad => exact h
end
def dNext : DenS := fun E => .nx E
def dSeq (a b : DenS) : DenS := fun E => (a E).bind b
def dDrop (d : Den) : DenS := fun E => (d E).toS fun r => .nx r.2
def dRet (d : Den) : DenS := fun E => (d E).toS fun r => match r.1 with
  | .val c => .rt c r.2
  | .plc _ _ => .bad
def dRetN : DenS := fun E => .rt (.sc .non) E
def dBrk : DenS := fun E => .bk E
def dCnt : DenS := fun E => .ct E
def dIfS (t : DenT) (a b : DenS) : DenS := fun E => (t E).toS fun r => if r.1 then a r.2 else b r.2
section
variable {G : Gm} {W : WX} {A B C : List Nat} {pu : Bool} {te : TE} {t u : TS} {tt : TT} {d : Den} {a b : DenS} {dt : DenT}
theorem t_next : ∀ D σ H, tS G W [] dNext D σ H → tNext D σ H := by
  rintro D σ H ⟨I, E, vs, f, s, h⟩
  exact h σ vs I H f s Agr.refl Fr.refl
theorem t_seq (h1 : ∀ D σ H, tS G W A a D σ H → t D σ H) (h2 : ∀ D σ H, tS G W B b D σ H → u D σ H) : ∀ D σ H, tS G W (A ++ B) (dSeq a b) D σ H → tSeq t u D σ H := by
  rintro D σ H ⟨I, E, vs, f, s, h⟩
  refine h1 _ _ _ ⟨I, E, vs, f, s, ?_⟩
  have h' : AnsS G W (A ++ B) I H f vs D ((a E).bind b) := h
  cases ea : a E with
  | nx E1 =>
    rw [ea] at h'
    exact fun σ' vs' I' H' f' s' ag fr => h2 _ _ _ ⟨I', E1, vs', f', s', AnsS.fwd h' ag fr fun i hi => by simpa using hi⟩
  | bk E1 => rw [ea] at h'; exact fun σ' vs' I' H' f' s' ag fr => h' σ' vs' I' H' f' s' (ag.sub fun i hi => List.mem_append_left _ hi) fr
  | ct E1 => rw [ea] at h'; exact fun σ' vs' I' H' f' s' ag fr => h' σ' vs' I' H' f' s' (ag.sub fun i hi => List.mem_append_left _ hi) fr
  | rt d E1 => rw [ea] at h'; exact fun v σ' vs' I' H' f' g s' ag r n fr => h' v σ' vs' I' H' f' g s' (ag.sub fun i hi => List.mem_append_left _ hi) r n fr
  | exc c fs E1 => rw [ea] at h'; exact fun cls d σ' vs' I' H' f' s' ag x fr => h' cls d σ' vs' I' H' f' s' (ag.sub fun i hi => List.mem_append_left _ hi) x fr
  | bad => rw [ea] at h'; exact h'
theorem t_drop (h0 : ∀ σ H Q, tO G W pu d σ H Q → te σ H Q) : ∀ D σ H, tS G W [] (dDrop d) D σ H → tDrop te D σ H := by
  rintro D σ H ⟨I, E, vs, f, s, hh⟩
  refine h0 _ _ _ ⟨I, E, vs, f, s, Ans.of_S hh fun r er h => ?_⟩
  exact fun v I' H' f' g s' o n fr e => h σ vs I' H' f' s' Agr.refl ((fr.less fun x z => by simp; omega).imp fun z => by cases z)
theorem t_ret (h0 : ∀ σ H Q, tO G W pu d σ H Q → te σ H Q) : ∀ D σ H, tS G W [] (dRet d) D σ H → tRet te D σ H := by
  rintro D σ H ⟨I, E, vs, f, s, hh⟩
  refine h0 _ _ _ ⟨I, E, vs, f, s, Ans.of_S hh fun r er h => ?_⟩
  obtain ⟨o, E1⟩ := r
  cases o with
  | val c => exact fun v I' H' f' g s' o n fr e => h v σ vs I' H' f' g s' Agr.refl o n (fr.imp fun z => by cases z)
  | plc i p => exact h.elim
theorem AnsS.wide {I H : Hp} {f : Ft} {vs : List V} {En : Ends} {s : S} (h : AnsS G W B I H f vs En s) (hA : ∀ i ∈ A, i ∈ B) : AnsS G W A I H f vs En s := by
  cases s with
  | nx E => exact fun σ' vs' I' H' f' s a b => h σ' vs' I' H' f' s (a.sub hA) b
  | bk E => exact fun σ' vs' I' H' f' s a b => h σ' vs' I' H' f' s (a.sub hA) b
  | ct E => exact fun σ' vs' I' H' f' s a b => h σ' vs' I' H' f' s (a.sub hA) b
  | rt d E => exact fun v σ' vs' I' H' f' g s a r n b => h v σ' vs' I' H' f' g s (a.sub hA) r n b
  | exc c fs E => exact fun cls d σ' vs' I' H' f' s a x b => h cls d σ' vs' I' H' f' s (a.sub hA) x b
  | bad => exact h
theorem t_ifS (h0 : ∀ σ H Q, tT G W pu dt σ H Q → tt σ H Q) (h1 : ∀ D σ H, tS G W A a D σ H → t D σ H) (h2 : ∀ D σ H, tS G W B b D σ H → u D σ H) : ∀ D σ H, tS G W (A ++ B) (dIfS dt a b) D σ H → tIfS tt t u D σ H := by
  rintro D σ H ⟨I, E, vs, f, s, hh⟩
  refine h0 _ _ _ ⟨I, E, vs, f, s, Ans.of_S hh fun r er h => ?_⟩
  intro I1 H1 f1 s1 a1 e1
  obtain ⟨c, E1⟩ := r
  have a1' := a1.imp (p2 := false) fun z => by cases z
  cases c with
  | true =>
    show t D σ H1
    exact h1 _ _ _ ⟨I1, E1, vs, f1, s1, (AnsS.fwd (A := []) (C := A ++ B) h Agr.refl a1' fun i hi => by simpa using hi).wide fun i hi => List.mem_append_left _ hi⟩
  | false =>
    show u D σ H1
    exact h2 _ _ _ ⟨I1, E1, vs, f1, s1, (AnsS.fwd (A := []) (C := A ++ B) h Agr.refl a1' fun i hi => by simpa using hi).wide fun i hi => List.mem_append_right _ hi⟩
end
def setAll : List D → List Nat → List D → Option (List D)
  | E, [], [] => some E
  | E, i :: is, d :: ds => if i < E.length then setAll (E.set i d) is ds else none
  | _, _, _ => none
def gNs : List Nat → TGs
  | [] => gNil
  | i :: is => gCons (gName i) (gNs is)
/-- what a target does with data -/
abbrev DenG := D → List D → Option (List D)
def dgName (i : Nat) : DenG := fun d E => if i < E.length then some (E.set i d) else none
def dgTup (is : List Nat) : DenG := fun d E => match d with
  | .nd .tup ds => setAll E is ds
  | _ => none
def dgLst (is : List Nat) : DenG := fun d E => match d with
  | .nd (.lst _) ds => setAll E is ds
  | _ => none
def TgS (G : Gm) (A : List Nat) (g : TG) (dg : DenG) : Prop := ∀ (d : D) (x : V) (σ : St) (I H : Hp) (E E' : List D) (vs : List V) (f g1 : Ft) (Q : St → Hp → Prop), Stt G σ I H E vs f → Rp G I H d x g1 → (∀ a, f a + g1 a ≤ 1) → dg d E = some E' →
  (∀ σ' vs' f', Stt G σ' I H E' vs' f' → Agr A vs vs' → (∀ a, f' a ≤ f a + g1 a) → ((∀ j, j ∉ A → σ'[j]? = σ[j]?) ∧ σ'.length = σ.length) → Q σ' H) → g x σ H Q
section
variable {G : Gm}
theorem Stt.set {σ : St} {I H : Hp} {E : List D} {vs : List V} {f g : Ft} {d : D} {v : V} {i : Nat} (s : Stt G σ I H E vs f) (x : Rp G I H d v g) (n : ∀ a, f a + g a ≤ 1) (hi : i < E.length) :
    ∃ f', Stt G (σ.set i (some v)) I H (E.set i d) (vs.set i v) f' ∧ (∀ a, f' a ≤ f a + g a) := by
  obtain ⟨w, g0, h, ev, y, q, k⟩ := s.rp.get (List.getElem?_eq_getElem hi)
  have k' := k (I' := I) (H' := H) (d' := d) (v' := v) (g' := g) (fun _ _ e => e) x fun a z => ⟨(s.rp.trk a (by have := q a; omega)).1, rfl⟩
  refine ⟨_, ⟨⟨by simp [s.sl.1], fun j d' v' e1 n1 e2 => ?_⟩, s.sm, k', fun a => by have := q a; have := n a; simp; omega⟩, fun a => by have := q a; simp; omega⟩
  by_cases hj : i = j
  · subst hj
    have hv : i < vs.length := by rw [s.rp.len]; exact hi
    rw [List.getElem?_set_self hv] at e2
    rw [List.getElem?_set_self (by rw [s.sl.1]; exact hi)]
    cases e2; rfl
  · rw [List.getElem?_set_ne hj] at e1 e2 ⊢
    exact s.sl.2 j d' v' e1 n1 e2
theorem tg_name {i : Nat} : TgS G [i] (gName i) (dgName i) := by
  intro d x σ I H E E' vs f g1 Q s r n e k
  unfold dgName at e
  split at e
  · rename_i hi
    cases e
    obtain ⟨f', s', le⟩ := s.set r n hi
    refine k _ _ f' s' (fun j hj => ?_) le ⟨fun j hj => ?_, by simp⟩
    · rw [List.getElem?_set_ne (by rintro rfl; simp at hj)]
    · rw [List.getElem?_set_ne (by rintro rfl; simp at hj)]
  · cases e
theorem tg_names : ∀ {is : List Nat} {ds : List D} {xs : List V} {σ : St} {I H : Hp} {E E' : List D} {vs : List V} {f g1 : Ft} {Q : St → Hp → Prop}, Stt G σ I H E vs f → Rps G I H ds xs g1 → (∀ a, f a + g1 a ≤ 1) → setAll E is ds = some E' →
    (∀ σ' vs' f', Stt G σ' I H E' vs' f' → Agr is vs vs' → (∀ a, f' a ≤ f a + g1 a) → ((∀ j, j ∉ is → σ'[j]? = σ[j]?) ∧ σ'.length = σ.length) → Q σ' H) → gNs is xs σ H Q
  | [], [], xs, σ, I, H, E, E', vs, f, g1, Q, s, r, n, e, k => by
    cases e
    exact ⟨r.1, k σ vs f s Agr.refl (fun a => by omega) ⟨fun _ _ => rfl, rfl⟩⟩
  | [], _ :: _, _, _, _, _, _, _, _, _, _, _, _, _, _, e, _ => by cases e
  | _ :: _, [], _, _, _, _, _, _, _, _, _, _, _, _, _, e, _ => by cases e
  | i :: is, d :: ds, xs, σ, I, H, E, E', vs, f, g1, Q, s, r, n, e, k => by
    unfold setAll at e
    split at e
    · rename_i hi
      obtain ⟨v, ws, ga, gb, rfl, y, z, q⟩ := r
      obtain ⟨f', s', le⟩ := s.set y (fun a => by have := n a; have := q a; omega) hi
      refine ⟨v, ws, rfl, ?_⟩
      show gNs is ws (σ.set i (some v)) H Q
      refine tg_names s' z (fun a => by have := n a; have := q a; have := le a; omega) e fun σ' vs' f'' s'' ag le' sg => k σ' vs' f'' s'' (fun j hj => ?_) (fun a => by have := le a; have := le' a; have := q a; omega) ⟨fun j hj => ?_, by rw [sg.2]; simp⟩
      · simp only [List.mem_cons, not_or] at hj
        rw [ag j hj.2, List.getElem?_set_ne (fun e => hj.1 e.symm)]
      · simp only [List.mem_cons, not_or] at hj
        rw [sg.1 j hj.2, List.getElem?_set_ne (fun e => hj.1 e.symm)]
    · cases e
theorem setAll_len : ∀ {is : List Nat} {ds E E' : List D}, setAll E is ds = some E' → ds.length = is.length
  | [], [], E, E', e => rfl
  | [], _ :: _, _, _, e => by cases e
  | _ :: _, [], _, _, e => by cases e
  | i :: is, d :: ds, E, E', e => by
    unfold setAll at e
    split at e
    · simp [setAll_len e]
    · cases e
theorem tg_tup {K : PySem.W.Frag} {is : List Nat} {n : Nat} (hn : is.length = n) : TgS G is (gTup K n (gNs is)) (dgTup is) := by
  intro d x σ I H E E' vs f g1 Q s r nd e k
  unfold dgTup at e
  split at e
  · rename_i ds
    obtain ⟨p, ws, g, o, rfl, st, y, q⟩ := r
    cases st
    rcases q with ⟨mu, _⟩ | ⟨_, eI, q⟩
    · cases mu
    · refine ⟨p, ws, rfl, SqT.of (s.sm _ _ eI), ?_, tg_names s y (fun a => by have := nd a; have := q a; omega) e fun σ' vs' f' s' ag le sg => k σ' vs' f' s' ag (fun a => by have := le a; have := q a; omega) sg⟩
      rw [y.len, setAll_len e, hn]
  · cases e
end
def dAsg (d : Den) (dg : DenG) : DenS := fun E => (d E).toS fun r => match r.1 with
  | .val c => match dg c r.2 with
    | some E' => .nx E'
    | none => .bad
  | .plc _ _ => .bad
def dPar (is : List Nat) (das : DenA) : DenS := fun E => (das E).toS fun r => match opVals r.1 with
  | some ds => match setAll r.2 is ds with
    | some E' => .nx E'
    | none => .bad
  | none => .bad
section
variable {G : Gm} {W : WX} {A : List Nat} {pu : Bool} {te : TE} {ta : TA} {d : Den} {das : DenA} {g : TG} {dg : DenG}
theorem Fr.cut {I H I1 H1 : Hp} {f f1 f2 : Ft} (a : Fr pu I H f I1 H1 f1) (h : ∀ x, f2 x ≤ f1 x) : Fr false I H f I1 H1 f2 := (a.less fun x z => by have := h x; omega).imp fun z => by cases z
theorem t_asg (hg : TgS G A g dg) (h0 : ∀ σ H Q, tO G W pu d σ H Q → te σ H Q) : ∀ D σ H, tS G W A (dAsg d dg) D σ H → tAsg te g D σ H := by
  rintro D σ H ⟨I, E, vs, f, s, hh⟩
  refine h0 _ _ _ ⟨I, E, vs, f, s, Ans.of_S hh fun r er h => ?_⟩
  obtain ⟨o, E1⟩ := r
  cases o with
  | val c =>
    intro v I' H' f' g1 s' o n fr e
    dsimp only at h
    split at h
    · rename_i E' e'
      exact hg c v σ I' H' E1 E' vs f' g1 D.nx s' o n e' fun σ' vs' f2 s2 ag le _ => h σ' vs' I' H' f2 s2 ag (fr.cut le)
    · exact h.elim
  | plc i p => exact h.elim
end
def whileN : Nat → DenT → DenS → DenS
  | 0, _, _ => fun _ => .bad
  | n + 1, c, b => fun E => (c E).toS fun r => if r.1 then (match b r.2 with
    | .nx E' => whileN n c b E'
    | .ct E' => whileN n c b E'
    | .bk E' => .nx E'
    | s => s) else .nx r.2
open Classical in
noncomputable def dWhile (c : DenT) (b : DenS) : DenS := fun E => if h : ∃ n, whileN n c b E ≠ .bad then whileN (choose h) c b E else .bad
theorem whileN_mono {c : DenT} {b : DenS} : ∀ {n m : Nat} {E : List D}, n ≤ m → whileN n c b E ≠ .bad → whileN m c b E = whileN n c b E
  | 0, m, E, _, h => absurd rfl h
  | n + 1, 0, E, h, _ => by omega
  | n + 1, m + 1, E, hl, h => by
    unfold whileN at h ⊢
    cases ec : c E with
    | exc _ _ _ => rfl
    | bad => rfl
    | ok r =>
      rw [ec] at h
      have h' : (if r.1 then (match b r.2 with
        | .nx E' => whileN n c b E'
        | .ct E' => whileN n c b E'
        | .bk E' => .nx E'
        | s => s) else S.nx r.2) ≠ .bad := h
      show (if r.1 then (match b r.2 with
        | .nx E' => whileN m c b E'
        | .ct E' => whileN m c b E'
        | .bk E' => .nx E'
        | s => s) else S.nx r.2) = (if r.1 then (match b r.2 with
        | .nx E' => whileN n c b E'
        | .ct E' => whileN n c b E'
        | .bk E' => .nx E'
        | s => s) else S.nx r.2)
      split
      · rename_i hr
        rw [if_pos hr] at h'
        cases eb : b r.2 with
        | nx E' => rw [eb] at h'; exact whileN_mono (by omega) h'
        | ct E' => rw [eb] at h'; exact whileN_mono (by omega) h'
        | bk E' => rfl
        | rt _ _ => rfl
        | exc _ _ _ => rfl
        | bad => rfl
      · rfl
theorem dWhile_of {c : DenT} {b : DenS} {n : Nat} {E : List D} {s : S} (h : whileN n c b E = s) (hs : s ≠ .bad) : dWhile c b E = s := by
  have ex : ∃ n, whileN n c b E ≠ .bad := ⟨n, by rw [h]; exact hs⟩
  unfold dWhile
  rw [dif_pos ex]
  have e := Classical.choose_spec ex
  rcases Nat.le_total (Classical.choose ex) n with q | q
  · rw [← h]; exact (whileN_mono q e).symm
  · rw [whileN_mono q (by rw [h]; exact hs), h]
/-- one turn -/
theorem dWhile_turn {c : DenT} {b : DenS} {E : List D} : dWhile c b E = (c E).toS fun r => if r.1 then (match b r.2 with
    | .nx E' => dWhile c b E'
    | .ct E' => dWhile c b E'
    | .bk E' => .nx E'
    | s => s) else .nx r.2 := by
  have key : ∀ n, whileN (n + 1) c b E ≠ .bad → whileN (n + 1) c b E = (c E).toS fun r => if r.1 then (match b r.2 with
    | .nx E' => dWhile c b E'
    | .ct E' => dWhile c b E'
    | .bk E' => .nx E'
    | s => s) else .nx r.2 := fun n h => by
    unfold whileN at h ⊢
    cases ec : c E with
    | exc _ _ _ => rfl
    | bad => rfl
    | ok r =>
      rw [ec] at h
      show (if r.1 then _ else _) = (if r.1 then _ else _)
      have h' : (if r.1 then (match b r.2 with
        | .nx E' => whileN n c b E'
        | .ct E' => whileN n c b E'
        | .bk E' => .nx E'
        | s => s) else S.nx r.2) ≠ .bad := h
      split
      · rename_i hr
        rw [if_pos hr] at h'
        cases eb : b r.2 with
        | nx E' => rw [eb] at h'; exact (dWhile_of rfl h').symm
        | ct E' => rw [eb] at h'; exact (dWhile_of rfl h').symm
        | bk E' => rfl
        | rt _ _ => rfl
        | exc _ _ _ => rfl
        | bad => rfl
      · rfl
  by_cases ex : ∃ n, whileN n c b E ≠ .bad
  · obtain ⟨n, hn⟩ := ex
    cases n with
    | zero => exact absurd rfl hn
    | succ n => rw [dWhile_of rfl hn]; exact key n hn
  · have e : dWhile c b E = .bad := by unfold dWhile; rw [dif_neg ex]
    rw [e]
    have all : ∀ n, whileN n c b E = .bad := fun n => Classical.byContradiction fun z => ex ⟨n, z⟩
    cases ec : c E with
    | exc cc fs E1 => have := all 1; unfold whileN at this; rw [ec] at this; exact absurd this (by simp [R.toS])
    | bad => rfl
    | ok r =>
      show S.bad = (if r.1 then _ else _)
      split
      · rename_i hr
        have step : ∀ n, (match b r.2 with
          | .nx E' => whileN n c b E'
          | .ct E' => whileN n c b E'
          | .bk E' => .nx E'
          | s => s) = S.bad := fun n => by
          have := all (n + 1)
          unfold whileN at this
          rw [ec] at this
          have t2 : (if r.1 then (match b r.2 with
            | .nx E' => whileN n c b E'
            | .ct E' => whileN n c b E'
            | .bk E' => .nx E'
            | s => s) else S.nx r.2) = .bad := this
          rw [if_pos hr] at t2
          exact t2
        cases eb : b r.2 with
        | nx E' =>
          rw [eb] at step
          have : ¬ ∃ n, whileN n c b E' ≠ .bad := fun ⟨n, h⟩ => h (step n)
          show S.bad = dWhile c b E'
          unfold dWhile; rw [dif_neg this]
        | ct E' =>
          rw [eb] at step
          have : ¬ ∃ n, whileN n c b E' ≠ .bad := fun ⟨n, h⟩ => h (step n)
          show S.bad = dWhile c b E'
          unfold dWhile; rw [dif_neg this]
        | bk E' => rw [eb] at step; exact absurd (step 0) (by simp)
        | rt _ _ => rw [eb] at step; exact absurd (step 0) (by simp)
        | exc _ _ _ => rw [eb] at step; exact absurd (step 0) (by simp)
        | bad => rfl
      · rename_i hr
        have := all 1
        unfold whileN at this
        rw [ec] at this
        have t2 : (if r.1 then (match b r.2 with
          | .nx E' => whileN 0 c b E'
          | .ct E' => whileN 0 c b E'
          | .bk E' => .nx E'
          | s => s) else S.nx r.2) = .bad := this
        rw [if_neg hr] at t2
        exact t2.symm
section
variable {G : Gm} {W : WX} {A : List Nat} {pu : Bool} {tt : TT} {t : TS} {c : DenT} {b : DenS}
theorem t_while (h0 : ∀ σ H Q, tT G W pu c σ H Q → tt σ H Q) (h1 : ∀ D σ H, tS G W A b D σ H → t D σ H) : ∀ D σ H, tS G W A (dWhile c b) D σ H → tWhile tt t D σ H := by
  rintro D σ H ⟨I, E, vs, f, s, hh⟩
  have ex : ∃ n, whileN n c b E ≠ .bad := Classical.byContradiction fun z => by unfold dWhile at hh; rw [dif_neg z] at hh; exact hh
  obtain ⟨n, hn⟩ := ex
  rw [dWhile_of rfl hn] at hh
  refine ⟨fun m σ' H' => ∃ I' E' vs' f', Stt G σ' I' H' E' vs' f' ∧ AnsS G W A I' H' f' vs' D (whileN m c b E'), ⟨n, I, E, vs, f, s, hh⟩, ?_⟩
  rintro m σ1 H1 ⟨I1, E1, vs1, f1, s1, h⟩
  cases m with
  | zero => exact h.elim
  | succ m =>
    refine h0 _ _ _ ⟨I1, E1, vs1, f1, s1, Ans.of_S h fun r er h => ?_⟩
    intro I2 H2 f2 s2 a2 e2
    obtain ⟨k, E2⟩ := r
    have a2' := a2.imp (p2 := false) fun z => by cases z
    cases k with
    | false => exact h σ1 vs1 I2 H2 f2 s2 Agr.refl a2'
    | true =>
      refine ⟨fun σ' H' => ∃ I' E' vs' f', Stt G σ' I' H' E' vs' f' ∧ AnsS G W A I' H' f' vs' D (whileN m c b E'), fun σ' H' q => ⟨m, Nat.lt_succ_self _, q⟩, h1 _ _ _ ⟨I2, E2, vs1, f2, s2, ?_⟩⟩
      have h' : AnsS G W A I1 H1 f1 vs1 D (match b E2 with
        | .nx E' => whileN m c b E'
        | .ct E' => whileN m c b E'
        | .bk E' => .nx E'
        | s => s) := h
      cases eb : b E2 with
      | nx E' => rw [eb] at h'; exact fun σ' vs' I' H' f' s' ag fr => ⟨I', E', vs', f', s', AnsS.fwd h' ag (a2'.trans fr) fun i hi => by simpa using hi⟩
      | ct E' => rw [eb] at h'; exact fun σ' vs' I' H' f' s' ag fr => ⟨I', E', vs', f', s', AnsS.fwd h' ag (a2'.trans fr) fun i hi => by simpa using hi⟩
      | bk E' => rw [eb] at h'; exact fun σ' vs' I' H' f' s' ag fr => h' σ' vs' I' H' f' s' ag (a2'.trans fr)
      | rt d E' => rw [eb] at h'; exact fun v σ' vs' I' H' f' g s' ag r n fr => h' v σ' vs' I' H' f' g s' ag r n (a2'.trans fr)
      | exc cc fs E' => rw [eb] at h'; exact fun cls d σ' vs' I' H' f' s' ag x fr => h' cls d σ' vs' I' H' f' s' ag x (a2'.trans fr)
      | bad => rw [eb] at h'; exact h'
end
end DL
end
section
set_option maxRecDepth 100000
namespace DL
open PySem L2
/-- what an iterator yields from now on, whatever else happens -/
def Walk (G : Gm) (I0 : Hp) (J : It) (ds : List D) : Prop := ∀ (i : Nat) (I H : Hp), (∀ a o, I0 a = some o → I a = some o) → (∀ a o, I a = some o → H a = some o) →
  (∀ d, ds[i]? = some d → J.go i H ∧ ∀ x H', J.yld i H x H' → ∃ I', Nw I H I' H' ∧ Rp G I' H' d x z0) ∧ (ds.length ≤ i → J.stop i H)
abbrev DenI := List D → R (List D × List D)
def tI (G : Gm) (W : WX) (den : DenI) : TI := fun σ H Rd => ∃ I E vs f, Stt G σ I H E vs f ∧ Ans G W σ I H f vs (den E) fun r =>
  ∀ J I' H' f', Stt G σ I' H' r.2 vs f' → Fr false I H f I' H' f' → Walk G I' J r.1 → Rd J H'
theorem PI_imp {X : Cx} {tg e : Expr} {t t' : TI} (h : PI X tg e t) (k : ∀ σ H Q, t' σ H Q → t σ H Q) : PI X tg e t' := ⟨fun pins s σ H Q I q => h.run pins s σ H Q I (k σ H Q q)⟩
theorem PI_or {X : Cx} {tg e : Expr} {t t' : TI} (h : PI X tg e t) (h' : PI X tg e t') : PI X tg e (fun σ H Q => t σ H Q ∨ t' σ H Q) := ⟨fun pins s σ H Q I q => q.elim (h.run pins s σ H Q I) (h'.run pins s σ H Q I)⟩
def rngD (lo : Int) (n : Nat) : List D := (List.range n).map fun (k : Nat) => .sc (.int (lo + (k : Int)))
def enumFrom : Nat → List D → List D
  | _, [] => []
  | k, d :: ds => .nd .tup [.sc (.int (k : Int)), d] :: enumFrom (k + 1) ds
def zipD : List D → List D → List D
  | d :: ds, e :: es => .nd .tup [d, e] :: zipD ds es
  | _, _ => []
/-- over a list, a tuple or a text's signs -/
def itK (r : Opd × List D) : R (List D × List D) := match r.1 with
  | .val (.nd k ds) => if k.seq then .ok (fzs ds, r.2) else .bad
  | .val (.sc (.str z)) => .ok (z.cps.toList.map fun c => .sc (.str ⟨#[c]⟩), r.2)
  | _ => .bad
def iSeq (d : Den) : DenI := fun E => (d E).bind itK
section
variable {G : Gm} {W : WX} {pu : Bool} {d : Den} {te : TE}
theorem Rps.get0 {I H : Hp} {ds : List D} {vs : List V} {i : Nat} {d : D} (x : Rps G I H ds vs z0) (e : ds[i]? = some d) : ∃ v, vs[i]? = some v ∧ Rp G I H d v z0 := by
  obtain ⟨v, g, h, ev, y, q, _⟩ := x.get e
  exact ⟨v, ev, y.eqv fun a => by have := q a; simp at this ⊢; omega⟩
theorem Rp.up {I H I1 H1 : Hp} {d : D} {v : V} (x : Rp G I H d v z0) (h : ∀ a o, I a = some o → I1 a = some o) : Rp G I1 H1 d v z0 := x.move h fun a z => by simp at z
theorem Rps.up {I H I1 H1 : Hp} {ds : List D} {vs : List V} (x : Rps G I H ds vs z0) (h : ∀ a o, I a = some o → I1 a = some o) : Rps G I1 H1 ds vs z0 := x.move h fun a z => by simp at z
theorem walk_list {K : PySem.W.Frag} {I H : Hp} {p : Addr} {ob : HO} {k : Kd} {ds : List D} {ws : List V} (hs : k.seq = true) (st : k.st G ws ob) (e : I p = some ob) (x : Rps G I H ds ws z0) (hk : k ≠ .tup) : Walk G I (Itl K p) ds := by
  intro i I1 H1 a b
  have sq : SqL K H1 p ws := by
    rcases Kd.seq_at (K := K) (H := H1) hs st (b _ _ (a _ _ e)) with z | z
    · exact z
    · cases k with
      | tup => exact absurd rfl hk
      | lst m => cases st; exact SqL.of (b _ _ (a _ _ e))
      | dik _ _ => cases hs
      | dit _ _ => cases hs
      | obj _ _ _ => cases hs
      | dku _ => cases hs
      | dtu _ => cases hs
  refine ⟨fun d ed => ?_, fun hl => ⟨ws, sq, by rw [x.len]; exact hl⟩⟩
  obtain ⟨v, ev, y⟩ := x.get0 ed
  refine ⟨⟨ws, v, sq, ev⟩, fun w H' q => ?_⟩
  obtain ⟨rfl, q⟩ := q
  have := q ws sq
  rw [ev] at this; cases this
  exact ⟨I1, Nw.refl b, y.up a⟩
theorem walk_tup {K : PySem.W.Frag} {I H : Hp} {p : Addr} {ds : List D} {ws : List V} (e : I p = some (.tup ws)) (x : Rps G I H ds ws z0) : Walk G I (Itt K p) ds := by
  intro i I1 H1 a b
  have sq : SqT K H1 p ws := SqT.of (b _ _ (a _ _ e))
  refine ⟨fun d ed => ?_, fun hl => ⟨ws, sq, by rw [x.len]; exact hl⟩⟩
  obtain ⟨v, ev, y⟩ := x.get0 ed
  refine ⟨⟨ws, v, sq, ev⟩, fun w H' q => ?_⟩
  obtain ⟨rfl, q⟩ := q
  have := q ws sq
  rw [ev] at this; cases this
  exact ⟨I1, Nw.refl b, y.up a⟩
theorem walk_str {I : Hp} {z : Str} : Walk G I (Its z) (z.cps.toList.map fun c => .sc (.str ⟨#[c]⟩)) := by
  intro i I1 H1 a b
  refine ⟨fun d ed => ?_, fun hl => show z.cps.size ≤ i by simpa using hl⟩
  rw [List.getElem?_map] at ed
  cases ec : z.cps.toList[i]? with
  | none => rw [ec] at ed; cases ed
  | some c =>
    rw [ec] at ed; cases ed
    have hi : i < z.cps.size := by
      have := (List.getElem?_eq_some_iff.mp ec).1
      simpa using this
    refine ⟨hi, fun w H' q => ?_⟩
    obtain ⟨rfl, c', e', rfl⟩ := q
    have : c' = c := by
      rw [Array.getElem?_toList] at ec
      rw [ec] at e'; cases e'; rfl
    subst this
    exact ⟨I1, Nw.refl b, rfl, fun _ => rfl⟩
theorem walk_rng {I : Hp} {lo : Int} {n : Nat} : Walk G I (Itr lo n) (rngD lo n) := by
  intro i I1 H1 a b
  refine ⟨fun d ed => ?_, fun hl => show n ≤ i by simpa [rngD] using hl⟩
  unfold rngD at ed
  rw [List.getElem?_map] at ed
  by_cases hi : i < n
  · rw [List.getElem?_range hi] at ed
    cases ed
    refine ⟨hi, fun w H' q => ?_⟩
    obtain ⟨rfl, rfl⟩ := q
    exact ⟨I1, Nw.refl b, rfl, fun _ => rfl⟩
  · rw [List.getElem?_eq_none (by simpa using hi)] at ed; cases ed
/-- a temporary frozen: what it is then -/
theorem cool_nd {σ : St} {I H : Hp} {E : List D} {vs : List V} {f g : Ft} {v : V} {k : Kd} {ds : List D} (s : Stt G σ I H E vs f) (y : Rp G I H (.nd k ds) v g) (n : ∀ a, f a + g a ≤ 1) :
    ∃ I' p ws ob, Stt G σ I' H E vs f ∧ v = .ref p ∧ I' p = some ob ∧ k.fz.st G ws ob ∧ Rps G I' H (fzs ds) ws z0 ∧ Fr false I H (fadd f g) I' H f := by
  obtain ⟨I', s', y', fr⟩ := Rp.cool s y n
  obtain ⟨p, ws, g2, ob, rfl, st, z, q⟩ := y'
  rcases q with ⟨mu, _⟩ | ⟨_, eI, q⟩
  · rw [Kd.fz_mut] at mu; cases mu
  · exact ⟨I', p, ws, ob, s', rfl, eI, st, z.eqv fun a => (q a).symm, fr⟩
theorem t_iseq {K : PySem.W.Frag} (h0 : ∀ σ H Q, tO G W pu d σ H Q → te σ H Q) : ∀ σ H Q, tI G W (iSeq d) σ H Q → (iList K te σ H Q ∨ iTup K te σ H Q) ∨ iStr te σ H Q := by
  rintro σ H Q ⟨I, E, vs, f, s, hh⟩
  cases ed : d E with
  | bad => unfold iSeq at hh; rw [ed] at hh; exact hh.elim
  | exc c fs E1 =>
    refine .inr (h0 _ _ _ ⟨I, E, vs, f, s, hh.fst fun r er h => ?_⟩)
    rw [ed] at er; cases er
  | ok r0 =>
    obtain ⟨o, E1⟩ := r0
    have hx := hh
    unfold iSeq at hx
    rw [ed] at hx
    cases o with
    | plc i p => exact hx.elim
    | val c =>
      cases c with
      | una => exact hx.elim
      | lent => exact hx.elim
      | kl _ => exact hx.elim
      | sc x =>
        cases x with
        | str z =>
          refine .inr (h0 _ _ _ ⟨I, E, vs, f, s, hh.fst fun r er h => ?_⟩)
          rw [ed] at er; cases er
          intro v I' H' f' g s' o n fr e
          obtain ⟨rfl, _⟩ := o
          exact ⟨z, rfl, h (Its z) I' H' f' s' ((fr.less fun x z => by simp; omega).imp fun z => by cases z) walk_str⟩
        | _ => exact hx.elim
      | nd k ds =>
        have main : ∀ (Q2 : It → Addr → Prop), True := fun _ => trivial
        by_cases hk : k.seq = true
        · by_cases ht : k = .tup
          · subst ht
            refine .inl (.inr (h0 _ _ _ ⟨I, E, vs, f, s, hh.fst fun r er h => ?_⟩))
            rw [ed] at er; cases er
            intro v I' H' f' g s' o n fr e
            obtain ⟨I2, p, ws, ob, s2, rfl, eI, st, z, fr2⟩ := cool_nd s' o n
            cases st
            refine ⟨p, rfl, ⟨ws, SqT.of (s2.sm _ _ eI)⟩, ?_⟩
            have h' : Ans G W σ I H f vs (.ok (fzs ds, E1)) _ := h
            exact h' (Itt K p) I2 H' f' s2 ((fr.trans fr2).imp fun z => by cases z) (walk_tup eI z)
          · refine .inl (.inl (h0 _ _ _ ⟨I, E, vs, f, s, hh.fst fun r er h => ?_⟩))
            rw [ed] at er; cases er
            intro v I' H' f' g s' o n fr e
            obtain ⟨I2, p, ws, ob, s2, rfl, eI, st, z, fr2⟩ := cool_nd s' o n
            have hkf : k.fz.seq = true := by cases k <;> first | exact hk | rfl
            have htf : k.fz ≠ .tup := by intro e; apply ht; cases k <;> simp_all [Kd.fz]
            have sq : SqL K H' p ws := by
              rcases Kd.seq_at (K := K) hkf st (s2.sm _ _ eI) with z | z
              · exact z
              · cases k with
                | tup => exact absurd rfl ht
                | lst m => cases st; exact SqL.of (s2.sm _ _ eI)
                | dik _ _ => cases hk
                | dit _ _ => cases hk
                | obj _ _ _ => cases hk
                | dku _ => cases hk
                | dtu _ => cases hk
            refine ⟨p, rfl, ⟨ws, sq⟩, ?_⟩
            have h' : Ans G W σ I H f vs (if k.seq then .ok (fzs ds, E1) else .bad) _ := h
            rw [if_pos hk] at h'
            exact h' (Itl K p) I2 H' f' s2 ((fr.trans fr2).imp fun z => by cases z) (walk_list hkf st eI z htf)
        · have hx' : Ans G W σ I H f vs (if k.seq then .ok (fzs ds, E1) else .bad) _ := hx
          rw [if_neg hk] at hx'
          exact hx'.elim
end
section
variable {G : Gm} {W : WX} {pu : Bool} {das : DenA} {ta : TA}
theorem Rpi.ints1 {I H : Hp} {i : Int} {ws : List V} (x : Rpi G I H [.sc (.int i)] ws) : ws = [.int i] := by
  obtain ⟨v, vr, g, rfl, ⟨rfl, _⟩, _, e⟩ := x
  cases e; rfl
theorem Rpi.ints2 {I H : Hp} {i j : Int} {ws : List V} (x : Rpi G I H [.sc (.int i), .sc (.int j)] ws) : ws = [.int i, .int j] := by
  obtain ⟨v, vr, g, rfl, ⟨rfl, _⟩, _, e⟩ := x
  rw [Rpi.ints1 e]
end
def loopD (dg : DenG) (b : DenS) : List D → DenS
  | [] => fun E => .nx E
  | d :: ds => fun E => match dg d E with
    | some E1 => match b E1 with
      | .nx E' => loopD dg b ds E'
      | .ct E' => loopD dg b ds E'
      | .bk E' => .nx E'
      | s => s
    | none => .bad
def dFor (di : DenI) (dg : DenG) (b : DenS) : DenS := fun E => (di E).toS fun r => loopD dg b r.1 r.2
section
variable {G : Gm} {W : WX} {A B : List Nat} {wi : TI} {g : TG} {t : TS} {di : DenI} {dg : DenG} {b : DenS}
theorem t_for (hg : TgS G A g dg) (h0 : ∀ σ H Q, tI G W di σ H Q → wi σ H Q) (h1 : ∀ D σ H, tS G W B b D σ H → t D σ H) : ∀ D σ H, tS G W (A ++ B) (dFor di dg b) D σ H → tFor wi g t D σ H := by
  rintro D σ H ⟨I, E, vs, f, s, hh⟩
  refine h0 _ _ _ ⟨I, E, vs, f, s, Ans.of_S hh fun r er h => ?_⟩
  intro J I1 H1 f1 s1 a1 wk
  obtain ⟨ds, E1⟩ := r
  refine ⟨fun i m σ' H' => ∃ I' E' vs' f', m = ds.length - i ∧ i ≤ ds.length ∧ Stt G σ' I' H' E' vs' f' ∧ (∀ a o, I1 a = some o → I' a = some o) ∧ AnsS G W (A ++ B) I' H' f' vs' D (loopD dg b (ds.drop i) E'),
    ⟨ds.length, I1, E1, vs, f1, by simp, Nat.zero_le _, s1, fun _ _ e => e, AnsS.fwd (A := []) h Agr.refl a1 fun i hi => by simpa using hi⟩, ?_⟩
  rintro i m σ2 H2 ⟨I2, E2, vs2, f2, rfl, hi, s2, im, h2⟩
  obtain ⟨wg, ws⟩ := wk i I2 H2 im s2.sm
  by_cases hl : i < ds.length
  · have ed : ds[i]? = some ds[i] := List.getElem?_eq_getElem hl
    rw [List.drop_eq_getElem_cons hl] at h2
    obtain ⟨go, yl⟩ := wg _ ed
    refine .inr ⟨go, fun σ' H' => ∃ I' E' vs' f', Stt G σ' I' H' E' vs' f' ∧ (∀ a o, I1 a = some o → I' a = some o) ∧ AnsS G W (A ++ B) I' H' f' vs' D (loopD dg b (ds.drop (i + 1)) E'), fun σ' H' q => ?_, fun x H' q => ?_⟩
    · obtain ⟨I', E', vs', f', a, b, c⟩ := q
      exact ⟨ds.length - (i + 1), by omega, I', E', vs', f', rfl, hl, a, b, c⟩
    · obtain ⟨I3, nw, y⟩ := yl x H' q
      have s3 := s2.nw nw
      have fr3 : Fr false I2 H2 f2 I3 H' f2 := nw.fr fun a z => .inl z
      have h2' : AnsS G W (A ++ B) I2 H2 f2 vs2 D (match dg ds[i] E2 with
        | some E1 => match b E1 with
          | .nx E' => loopD dg b (ds.drop (i + 1)) E'
          | .ct E' => loopD dg b (ds.drop (i + 1)) E'
          | .bk E' => .nx E'
          | s => s
        | none => .bad) := h2
      split at h2'
      · rename_i E4 e4
        refine hg _ x σ2 I3 H' E2 E4 vs2 f2 z0 _ s3 y (fun a => by simp; exact s3.nd a) e4 fun σ4 vs4 f4 s4 ag4 le4 _ => ?_
        have fr4 : Fr false I2 H2 f2 I3 H' f4 := fr3.cut fun a => by have := le4 a; simpa using this
        have h4 := AnsS.fwd (C := B) h2' ag4 fr4 fun i hi => by simpa using hi
        refine h1 _ _ _ ⟨I3, E4, vs4, f4, s4, ?_⟩
        have im3 : ∀ a o, I1 a = some o → I3 a = some o := fun a o e => nw.im _ _ (im _ _ e)
        cases eb : b E4 with
        | nx E' =>
          rw [eb] at h2'
          exact fun σ' vs' I' H' f' s' ag fr => ⟨I', E', vs', f', s', fun a o e => fr.im _ _ (im3 _ _ e), AnsS.fwd h2' (ag4.trans ag) (fr4.trans fr) fun i hi => by simpa using hi⟩
        | ct E' =>
          rw [eb] at h2'
          exact fun σ' vs' I' H' f' s' ag fr => ⟨I', E', vs', f', s', fun a o e => fr.im _ _ (im3 _ _ e), AnsS.fwd h2' (ag4.trans ag) (fr4.trans fr) fun i hi => by simpa using hi⟩
        | bk E' => rw [eb] at h4; exact h4
        | rt d E' => rw [eb] at h4; exact h4
        | exc c fs E' => rw [eb] at h4; exact h4
        | bad => rw [eb] at h4; exact h4
      · exact h2'.elim
  · have e : i = ds.length := by omega
    subst e
    rw [List.drop_length] at h2
    exact .inl ⟨ws (Nat.le_refl _), h2 σ2 vs2 I2 H2 f2 s2 Agr.refl Fr.refl⟩
end
def retArgs (A : List Nat) : Nat → List D → List D → Option (List D)
  | _, [], _ => some []
  | i, d :: ds, e :: es => match retArgs A (i + 1) ds es with
    | some r => if A.contains i then (if Fz d then some (d :: r) else none) else some (e :: r)
    | none => none
  | _, _ :: _, [] => none
/-- what a def's body makes of its arguments: N names in all, A the names that are stored -/
def fnD (N : Nat) (A : List Nat) (b : DenS) : Fn := fun ds => match b (ds ++ List.replicate (N - ds.length) .una) with
  | .rt d E => match retArgs A 0 ds E with
    | some r => .ok (d, r)
    | none => .bad
  | .nx E => match retArgs A 0 ds E with
    | some r => .ok (.sc .non, r)
    | none => .bad
  | .exc c fs E => match retArgs A 0 ds E with
    | some r => .exc c fs r
    | none => .bad
  | _ => .bad
section
variable {G : Gm}
theorem ret_args {A : List Nat} {I H I' H' : Hp} (hI : ∀ a o, I a = some o → I' a = some o) : ∀ {ds es r : List D} {vs ws : List V} {f f' : Ft} {i : Nat}, Rps G I H ds vs f → Rps G I' H' es ws f' → (∀ j v, vs[j]? = some v → A.contains (i + j) = false → ws[j]? = some v) → retArgs A i ds es = some r →
    ∃ g, Rps G I' H' r vs g ∧ ∀ a, g a ≤ f' a
  | [], es, r, vs, ws, f, f', i, x, y, ag, e => by
    cases e
    exact ⟨z0, ⟨x.1, fun _ => rfl⟩, fun a => Nat.zero_le _⟩
  | d :: ds, [], r, vs, ws, f, f', i, x, y, ag, e => by cases e
  | d :: ds, e0 :: es, r, vs, ws, f, f', i, x, y, ag, e => by
    unfold retArgs at e
    split at e
    · rename_i r' er
      obtain ⟨v, vr, g1, h1, rfl, y1, z1, q1⟩ := x
      obtain ⟨w, wr, g2, h2, rfl, y2, z2, q2⟩ := y
      obtain ⟨g, t, le⟩ := ret_args hI z1 z2 (fun j v e q => by have := ag (j + 1) v (by simpa using e) (by rw [show i + (j + 1) = i + 1 + j by omega]; exact q); simpa using this) er
      split at e
      · split at e
        · rename_i hf
          cases e
          exact ⟨_, ⟨v, vr, z0, g, rfl, (y1.fz0 hf).up hI, t, fun a => rfl⟩, fun a => by have := le a; have := q2 a; simp; omega⟩
        · cases e
      · rename_i hA
        cases e
        have := ag 0 v rfl (by simpa using hA)
        simp at this
        subst this
        exact ⟨_, ⟨w, vr, g2, g, rfl, y2, t, fun a => rfl⟩, fun a => by have := le a; have := q2 a; omega⟩
    · cases e
theorem Sl.start {N : List Str} {ds : List D} {vs : List V} (hl : vs.length = ds.length) (hn : ds.length ≤ N.length) : Sl (ds ++ List.replicate (N.length - ds.length) .una) (L2.start N vs) (vs ++ List.replicate (N.length - ds.length) .non) := by
  refine ⟨by simp [L2.start, hl], fun i d v e n e2 => ?_⟩
  by_cases hi : i < ds.length
  · have hv : i < vs.length := by omega
    rw [List.getElem?_append_left hv] at e2
    unfold L2.start
    rw [List.getElem?_append_left (by simpa using hv), List.getElem?_map, e2]
    rfl
  · rw [List.getElem?_append_right (by omega)] at e
    rw [List.getElem?_replicate] at e
    split at e
    · cases e; exact absurd rfl n
    · cases e
theorem Rps.unas {I H : Hp} : ∀ {n : Nat}, Rps G I H (List.replicate n .una) (List.replicate n .non) z0
  | 0 => ⟨rfl, fun _ => rfl⟩
  | n + 1 => ⟨.non, _, z0, z0, rfl, fun _ => rfl, Rps.unas (n := n), fun _ => rfl⟩
/-- the body's reading at the entry, from the promise -/
theorem fn_body {F : Fn} {A : List Nat} {b : DenS} {t : TS} {N : List Str} {n : Nat} {vs : List V} {H : Hp} {Q : VK} {Ex : XK} (hn : n ≤ N.length) (hv : vs.length = n)
    (hF : ∀ ds, F ds ≠ .bad → fnD N.length A b ds = F ds) (h : ∀ D σ H, tS G (fun cls d _ H => Ex cls d H) A b D σ H → t D σ H) (sp : spOf G F vs H Q Ex) : t { nx := fun _ H' => Q .non H', rt := Q } (start N vs) H := by
  obtain ⟨I, ds, f, sm, r, nd, k⟩ := sp
  have hl := r.len
  have nb : F ds ≠ .bad := fun e => by rw [e] at k; exact k
  have eF := hF ds nb
  have s0 : Stt G (start N vs) I H (ds ++ List.replicate (N.length - ds.length) .una) (vs ++ List.replicate (N.length - ds.length) .non) f :=
    ⟨Sl.start hl (by omega), sm, (r.app Rps.unas).eqv fun a => by simp, nd⟩
  refine h _ _ _ ⟨I, _, _, f, s0, ?_⟩
  have agv : ∀ {vs' : List V}, Agr A (vs ++ List.replicate (N.length - ds.length) V.non) vs' → ∀ j v, vs[j]? = some v → A.contains (0 + j) = false → vs'[j]? = some v := fun {vs'} ag j v e q => by
    have hj : j < vs.length := (List.getElem?_eq_some_iff.mp e).1
    rw [ag j (by simpa using q), List.getElem?_append_left hj]
    exact e
  unfold fnD at eF
  generalize eb : b (ds ++ List.replicate (N.length - ds.length) .una) = res at eF ⊢
  cases res with
  | rt d E =>
    dsimp only at eF
    split at eF
    · rename_i r' er
      rw [← eF] at k
      intro v σ' vs' I' H' f' g s' ag y n fr
      obtain ⟨g2, t2, le⟩ := ret_args fr.im r s'.rp (agv ag) er
      exact k v I' H' g2 g s'.sm t2 y (fun a => by have := le a; have := n a; omega) (fr.less fun x z => by have := le x; simp at z ⊢; omega)
    · exact absurd eF.symm nb
  | nx E =>
    dsimp only at eF
    split at eF
    · rename_i r' er
      rw [← eF] at k
      intro σ' vs' I' H' f' s' ag fr
      obtain ⟨g2, t2, le⟩ := ret_args fr.im r s'.rp (agv ag) er
      exact k .non I' H' g2 z0 s'.sm t2 ⟨rfl, fun _ => rfl⟩ (fun a => by have := le a; have := s'.nd a; simp; omega) (fr.less fun x z => by have := le x; simp at z ⊢; omega)
    · exact absurd eF.symm nb
  | exc c fs E =>
    dsimp only at eF
    split at eF
    · rename_i r' er
      rw [← eF] at k
      intro cls dd σ' vs' I' H' f' s' ag xa fr
      obtain ⟨g2, t2, le⟩ := ret_args fr.im r s'.rp (agv ag) er
      exact k cls dd I' H' g2 s'.sm t2 (fun a => by have := le a; have := s'.nd a; omega) xa (fr.less fun x z => by have := le x; omega)
    · exact absurd eF.symm nb
  | bk E => exact absurd eF.symm nb
  | ct E => exact absurd eF.symm nb
  | bad => exact absurd eF.symm nb
theorem spOf_len {F : Fn} {n : Nat} (hF : ∀ ds, F ds ≠ .bad → ds.length = n) {vs : List V} {H : Hp} {Q : VK} {Ex : XK} (sp : spOf G F vs H Q Ex) : vs.length = n := by
  obtain ⟨I, ds, f, sm, r, nd, k⟩ := sp
  rw [r.len]
  exact hF ds fun e => by rw [e] at k; exact k
end
end DL
end
section
set_option maxRecDepth 100000
namespace DL
open PySem L2
section
variable {G : Gm} {I H : Hp} {Q : VK} {K : PySem.W.Frag}
abbrev Fin1 (G : Gm) (I H : Hp) (d : D) (Q : VK) : Prop := ∀ v I' H' g, Nw I H I' H' → Rp G I' H' d v g → (∀ a, g a ≤ 1) → (∀ a, g a ≠ 0 → H a = none) → Q v H'
theorem fin_sc {w : V} (sm : ∀ a o, I a = some o → H a = some o) (k : Fin1 G I H (.sc w) Q) : Q w H := k w I H z0 (Nw.refl sm) ⟨rfl, fun _ => rfl⟩ (fun _ => Nat.zero_le _) (fun a z => absurd rfl z)
theorem fin_same {d : D} {v : V} (sm : ∀ a o, I a = some o → H a = some o) (x : Rp G I H d v z0) (k : Fin1 G I H d Q) : Q v H := k v I H z0 (Nw.refl sm) x (fun _ => Nat.zero_le _) (fun a z => absurd rfl z)
theorem fin_lst {p : Addr} {ds : List D} {ws : List V} (sm : ∀ a o, I a = some o → H a = some o) (x : Rps G I H ds ws z0) (n : H p = none) (k : Fin1 G I H (.nd (.lst true) ds) Q) : Q (.ref p) (upd H p (.lst ws)) := by
  refine k (.ref p) I _ _ (Nw.mutP sm n) (new_mut sm n rfl rfl x) (fun a => ?_) fun a z => ?_
  · by_cases q : a = p
    · subst q; simp [one1_self]
    · simp [one1_ne q]
  · by_cases q : a = p
    · subst q; exact n
    · simp [one1_ne q] at z
theorem fin_tup {p : Addr} {ds : List D} {ws : List V} (sm : ∀ a o, I a = some o → H a = some o) (x : Rps G I H ds ws z0) (n : H p = none) (k : Fin1 G I H (.nd .tup ds) Q) : Q (.ref p) (upd H p (.tup ws)) :=
  k (.ref p) _ _ z0 (Nw.fixP sm n) (new_fix sm n rfl rfl x) (fun _ => Nat.zero_le _) fun a z => absurd rfl z
theorem Rpi.one {d : D} {ws : List V} (x : Rpi G I H [d] ws) : ∃ v g, ws = [v] ∧ Rp G I H d v g ∧ ∀ a, g a ≤ 1 := by
  obtain ⟨v, vr, g, rfl, r, n, e⟩ := x
  cases e; exact ⟨v, g, rfl, r, n⟩
theorem Rpi.two {d e : D} {ws : List V} (x : Rpi G I H [d, e] ws) : ∃ v w g h, ws = [v, w] ∧ Rp G I H d v g ∧ Rp G I H e w h := by
  obtain ⟨v, vr, g, rfl, r, n, y⟩ := x
  obtain ⟨w, h, rfl, r2, _⟩ := Rpi.one y
  exact ⟨v, w, g, h, rfl, r, r2⟩
/-- a node: its object and its children -/
theorem Rp.node {k : Kd} {ds : List D} {v : V} {f : Ft} (sm : ∀ a o, I a = some o → H a = some o) (x : Rp G I H (.nd k ds) v f) : ∃ p ws g o, v = .ref p ∧ k.st G ws o ∧ H p = some o ∧ Rps G I H ds ws g ∧ ws.length = ds.length := by
  obtain ⟨p, ws, g, o, rfl, s, y, q⟩ := x
  refine ⟨p, ws, g, o, rfl, s, ?_, y, y.len⟩
  rcases q with ⟨_, _, e, _⟩ | ⟨_, e, _⟩
  · exact e
  · exact sm _ _ e
theorem Rps.cold {ds : List D} {ws : List V} {g : Ft} (hf : ds.all Fz = true) (x : Rps G I H ds ws g) : Rps G I H ds ws z0 := x.eqv fun a => by rw [x.zero_of_fz hf a]; rfl
theorem node_seq {k : Kd} {ds : List D} {v : V} {f : Ft} (sm : ∀ a o, I a = some o → H a = some o) (hs : k.seq = true) (x : Rp G I H (.nd k ds) v f) : ∃ p ws g, v = .ref p ∧ (SqL K H p ws ∨ SqT K H p ws) ∧ Rps G I H ds ws g ∧ ws.length = ds.length := by
  obtain ⟨p, ws, g, o, rfl, s, e, y, l⟩ := x.node sm
  exact ⟨p, ws, g, rfl, Kd.seq_at hs s e, y, l⟩
end
def fI2 (g : Int → Int → V) : List D → Option D
  | [.sc (.int i), .sc (.int j)] => some (.sc (g i j))
  | _ => none
def fI2c (C : Int → Int → Bool) (g : Int → Int → V) : List D → Option D
  | [.sc (.int i), .sc (.int j)] => if C i j then some (.sc (g i j)) else none
  | _ => none
section
variable {G : Gm} {K : PySem.W.Frag}
theorem os_I0 {g : Int → Int → V} : OpS G (r2l (rI0 g)) (fI2 g) := by
  intro I H ds ws d sm x e Q k
  unfold fI2 at e
  split at e
  · rename_i i j
    cases e
    obtain ⟨v, w, _, _, rfl, ⟨rfl, _⟩, ⟨rfl, _⟩⟩ := x.two
    exact ⟨i, j, rfl, rfl, fin_sc sm k⟩
  · cases e
theorem os_I {C : Int → Int → Prop} {c : Int → Int → Bool} {g : Int → Int → V} (hc : ∀ i j, c i j = true → C i j) : OpS G (r2l (rI C g)) (fI2c c g) := by
  intro I H ds ws d sm x e Q k
  unfold fI2c at e
  split at e
  · rename_i i j
    split at e
    · rename_i h
      cases e
      obtain ⟨v, w, _, _, rfl, ⟨rfl, _⟩, ⟨rfl, _⟩⟩ := x.two
      exact ⟨i, j, rfl, rfl, hc i j h, fin_sc sm k⟩
    · cases e
  · cases e
end
def rAddX (K : PySem.W.Frag) : R2 := fun x y H Q => (rI0 (fun i j => .int (i + j)) x y H Q ∨ (∃ i j, x = .str i ∧ y = .str j ∧ i.length + j.length ≤ sizeLine ∧ Q (.str (i ++ j)) H)) ∨ (rCat x y H Q ∨ rCatA K x y H Q)
theorem op_addX {X : Cx} : OpR X (binaryOp .Add) (rAddX X.K) := (op_add.or op_add_str).or (op_cat.or op_catA)
def fAdd : List D → Option D
  | [.sc (.int i), .sc (.int j)] => some (.sc (.int (i + j)))
  | [.sc (.str x), .sc (.str y)] => if x.length + y.length ≤ 100000 then some (.sc (.str (x ++ y))) else none
  | [.nd (.lst _) xs, .nd (.lst _) ys] => if Fzs xs && Fzs ys && decide (xs.length + ys.length ≤ 100000) then some (.nd (.lst true) (xs ++ ys)) else none
  | [.nd .tup xs, .nd .tup ys] => if Fzs xs && Fzs ys && decide (xs.length + ys.length ≤ 100000) then some (.nd .tup (xs ++ ys)) else none
  | _ => none
theorem os_add {G : Gm} {K : PySem.W.Frag} : OpS G (r2l (rAddX K)) fAdd := by
  intro I H ds ws d sm x e Q k
  unfold fAdd at e
  split at e
  · rename_i i j
    cases e
    obtain ⟨v, w, _, _, rfl, ⟨rfl, _⟩, ⟨rfl, _⟩⟩ := x.two
    exact .inl (.inl ⟨i, j, rfl, rfl, fin_sc sm k⟩)
  · rename_i i j
    split at e
    · rename_i h
      cases e
      obtain ⟨v, w, _, _, rfl, ⟨rfl, _⟩, ⟨rfl, _⟩⟩ := x.two
      exact .inl (.inr ⟨i, j, rfl, rfl, line5 h, fin_sc sm k⟩)
    · cases e
  · rename_i m xs m' ys
    split at e
    · rename_i h
      cases e
      simp only [Bool.and_eq_true, decide_eq_true_eq, Fzs_all] at h
      obtain ⟨v, w, _, _, rfl, r1, r2⟩ := x.two
      obtain ⟨p, w1, g1, o, rfl, s1, e1, y1, l1⟩ := r1.node sm
      obtain ⟨q, w2, g2, o2, rfl, s2, e2, y2, l2⟩ := r2.node sm
      cases s1; cases s2
      refine .inr (.inl ⟨p, q, w1, w2, rfl, rfl, e1, e2, by rw [l1, l2]; exact line5 h.2, fun a na => fin_lst sm (((y1.cold h.1.1).app (y2.cold h.1.2)).eqv fun _ => rfl) na k⟩)
    · cases e
  · rename_i xs ys
    split at e
    · rename_i h
      cases e
      simp only [Bool.and_eq_true, decide_eq_true_eq, Fzs_all] at h
      obtain ⟨v, w, _, _, rfl, r1, r2⟩ := x.two
      obtain ⟨p, w1, g1, o, rfl, s1, e1, y1, l1⟩ := r1.node sm
      obtain ⟨q, w2, g2, o2, rfl, s2, e2, y2, l2⟩ := r2.node sm
      cases s1; cases s2
      have c1 := y1.cold h.1.1
      have c2 := y2.cold h.1.2
      have base : Rps G I H (xs ++ ys) (w1 ++ w2) z0 := (c1.app c2).eqv fun _ => rfl
      refine .inr (.inr ⟨p, q, w1, w2, rfl, rfl, SqT.of e1, SqT.of e2, by rw [l1, l2]; exact line5 h.2, ?_⟩)
      have z1 : Fz (.nd .tup xs) = true := by show (!Kd.tup.mut && Fzs xs) = true; rw [Fzs_all]; simp [Kd.mut, h.1.1]
      have z2 : Fz (.nd .tup ys) = true := by show (!Kd.tup.mut && Fzs ys) = true; rw [Fzs_all]; simp [Kd.mut, h.1.2]
      refine ⟨fun e0 => ?_, fun _ e0 => ?_, fun _ _ a na => fin_tup sm base na k⟩
      · subst e0
        have : xs = [] := List.eq_nil_of_length_eq_zero (by simpa using l1.symm)
        subst this
        exact fin_same sm (r2.fz0 z2) k
      · subst e0
        have : ys = [] := List.eq_nil_of_length_eq_zero (by simpa using l2.symm)
        subst this
        rw [List.append_nil] at k
        exact fin_same sm (r1.fz0 z1) k
    · cases e
  · cases e
def fSub : List D → Option D := fI2 fun i j => .int (i - j)
theorem os_sub {G : Gm} : OpS G (r2l (rI0 fun i j => .int (i - j))) fSub := os_I0
def rMulX : R2 := fun x y H Q => rI CMulW (fun i j => .int (i * j)) x y H Q ∨ rRep x y H Q
theorem op_mulX' {X : Cx} : OpR X (binaryOp .Mult) rMulX := op_mulW.or op_rep
def fMul : List D → Option D
  | [.sc (.int i), .sc (.int j)] => if i.natAbs.log2 + j.natAbs.log2 < 1000000 then some (.sc (.int (i * j))) else none
  | [.nd (.lst _) xs, .sc (.int n)] => if Fzs xs && decide (-1000000 ≤ n ∧ n ≤ 1000000 ∧ xs.length * n.toNat ≤ 100000) then some (.nd (.lst true) (List.replicate n.toNat xs).flatten) else none
  | _ => none
theorem Rps.rep {G : Gm} {I H : Hp} {ds : List D} {ws : List V} (x : Rps G I H ds ws z0) : ∀ n : Nat, Rps G I H (List.replicate n ds).flatten (List.replicate n ws).flatten z0
  | 0 => ⟨rfl, fun _ => rfl⟩
  | n + 1 => by
    rw [List.replicate_succ, List.replicate_succ, List.flatten_cons, List.flatten_cons]
    exact (x.app (x.rep n)).eqv fun _ => rfl
theorem os_mul {G : Gm} : OpS G (r2l rMulX) fMul := by
  intro I H ds ws d sm x e Q k
  unfold fMul at e
  split at e
  · rename_i i j
    split at e
    · rename_i h
      cases e
      obtain ⟨v, w, _, _, rfl, ⟨rfl, _⟩, ⟨rfl, _⟩⟩ := x.two
      exact .inl ⟨i, j, rfl, rfl, h, fin_sc sm k⟩
    · cases e
  · rename_i m xs n
    split at e
    · rename_i h
      cases e
      simp only [Bool.and_eq_true, decide_eq_true_eq, Fzs_all] at h
      obtain ⟨v, w, _, _, rfl, r1, ⟨rfl, _⟩⟩ := x.two
      obtain ⟨p, w1, g1, o, rfl, s1, e1, y1, l1⟩ := r1.node sm
      cases s1
      obtain ⟨h1, h2, h3, h4⟩ := h
      exact .inr ⟨p, n, w1, rfl, rfl, e1, by omega, by omega, by rw [l1]; exact line5 h4, fun a na => fin_lst sm ((y1.cold h1).rep _) na k⟩
    · cases e
  · cases e
def fDiv : List D → Option D := fI2c (fun _ j => decide (0 < j) && decide (j.natAbs.log2 < 9000)) fun i j => .int (i / j)
theorem os_div {G : Gm} : OpS G (r2l (rI CDivW fun i j => .int (i / j))) fDiv := os_I fun i j h => by
  simp only [Bool.and_eq_true, decide_eq_true_eq] at h
  exact h
def fMod : List D → Option D := fI2c (fun _ j => decide (0 < j)) fun i j => .int (i % j)
theorem os_mod {G : Gm} : OpS G (r2l (rI (fun _ j => 0 < j) fun i j => .int (i % j))) fMod := os_I fun i j h => by simpa using h
def fNeg : List D → Option D
  | [.sc (.int i)] => some (.sc (.int (-i)))
  | _ => none
theorem os_neg {G : Gm} : OpS G (r1l (rU fun i => .int (-i))) fNeg := by
  intro I H ds ws d sm x e Q k
  unfold fNeg at e
  split at e
  · rename_i i
    cases e
    obtain ⟨v, _, rfl, ⟨rfl, _⟩, _⟩ := x.one
    exact ⟨i, rfl, fin_sc sm k⟩
  · cases e
def rCmpX (g : Int → Int → Bool) (h : List Nat → List Nat → Bool) : R2 := fun x y H Q => rI0 (fun i j => .bl (g i j)) x y H Q ∨ ∃ i j, x = .str i ∧ y = .str j ∧ Q (.bl (h i.cps.toList j.cps.toList)) H
def fCmp (g : Int → Int → Bool) (h : List Nat → List Nat → Bool) : List D → Option D
  | [.sc (.int i), .sc (.int j)] => some (.sc (.bl (g i j)))
  | [.sc (.str i), .sc (.str j)] => some (.sc (.bl (h i.cps.toList j.cps.toList)))
  | _ => none
theorem os_cmp {G : Gm} {g : Int → Int → Bool} {h : List Nat → List Nat → Bool} : OpS G (r2l (rCmpX g h)) (fCmp g h) := by
  intro I H ds ws d sm x e Q k
  unfold fCmp at e
  split at e
  · rename_i i j
    cases e
    obtain ⟨v, w, _, _, rfl, ⟨rfl, _⟩, ⟨rfl, _⟩⟩ := x.two
    exact .inl ⟨i, j, rfl, rfl, fin_sc sm k⟩
  · rename_i i j
    cases e
    obtain ⟨v, w, _, _, rfl, ⟨rfl, _⟩, ⟨rfl, _⟩⟩ := x.two
    exact .inr ⟨i, j, rfl, rfl, fin_sc sm k⟩
  · cases e
abbrev rLtX : R2 := rCmpX (fun i j => decide (i < j)) (fun i j => decide (i < j))
abbrev rLeX : R2 := rCmpX (fun i j => decide (i ≤ j)) (fun i j => !decide (j < i))
abbrev rGtX : R2 := rCmpX (fun i j => decide (j < i)) (fun i j => decide (j < i))
theorem op_ltX {X : Cx} : OpR X (compareOp .Lt) rLtX := op_lt.or op_lt_str
theorem op_leX {X : Cx} : OpR X (compareOp .LtE) rLeX := op_le.or op_le_str
theorem op_gtX {X : Cx} : OpR X (compareOp .Gt) rGtX := op_gt.or op_gt_str
mutual
def toP : D → PyData
  | .una => .none
  | .lent => .none
  | .kl _ => .none
  | .sc v => match v with
    | .bl b => .bool b
    | .int i => .int i
    | .str z => .str z
    | _ => .none
  | .nd k ds => match k with
    | .tup => .tuple (toPs ds)
    | _ => .list (toPs ds)
def toPs : List D → List PyData
  | [] => []
  | d :: ds => toP d :: toPs ds
end
/-- data that may be compared, at most so deep -/
def lay : Nat → D → Bool
  | _, .una => false
  | _, .lent => false
  | _, .kl _ => false
  | _, .sc v => match v with
    | .non => true
    | .bl _ => true
    | .int _ => true
    | .str z => PyData.strOk z
    | _ => false
  | n + 1, .nd k ds => k.seq && ds.all (lay n)
  | 0, .nd _ _ => false
theorem depthAll_le {n : Nat} : ∀ {ds : List D}, (∀ d ∈ ds, (toP d).depth ≤ n) → PyData.depthAll (toPs ds) ≤ n
  | [], _ => Nat.zero_le _
  | d :: ds, h => by
    show max (toP d).depth (PyData.depthAll (toPs ds)) ≤ n
    have := h d List.mem_cons_self
    have := depthAll_le fun e he => h e (List.mem_cons_of_mem _ he)
    omega
theorem canAll {ds : List D} (h : ∀ d ∈ ds, (toP d).canLay0 = true) : PyData.canLayAll0 (toPs ds) = true := by
  induction ds with
  | nil => rfl
  | cons d ds ih =>
    show ((toP d).canLay0 && PyData.canLayAll0 (toPs ds)) = true
    rw [h d List.mem_cons_self, ih fun e he => h e (List.mem_cons_of_mem _ he)]; rfl
theorem lay_ok : ∀ {n : Nat} {d : D}, lay n d = true → (toP d).canLay0 = true ∧ (toP d).depth ≤ n
  | n, .una, h => by cases n <;> cases h
  | n, .lent, h => by cases n <;> cases h
  | n, .kl _, h => by cases n <;> cases h
  | n, .sc v, h => by
    cases v with
    | str z => exact ⟨by cases n <;> exact h, by show (0 : Nat) ≤ _; omega⟩
    | non => exact ⟨rfl, by show (0 : Nat) ≤ _; omega⟩
    | bl _ => exact ⟨rfl, by show (0 : Nat) ≤ _; omega⟩
    | int _ => exact ⟨rfl, by show (0 : Nat) ≤ _; omega⟩
    | byt _ => cases n <;> cases h
    | flt _ => cases n <;> cases h
    | ref _ => cases n <;> cases h
    | ty _ => cases n <;> cases h
  | 0, .nd k ds, h => by cases h
  | n + 1, .nd k ds, h => by
    have h' : (k.seq && ds.all (lay n)) = true := h
    simp only [Bool.and_eq_true, List.all_eq_true] at h'
    have c := canAll fun d hd => (lay_ok (h'.2 d hd)).1
    have dp := depthAll_le fun d hd => (lay_ok (h'.2 d hd)).2
    cases k with
    | tup => exact ⟨c, by show PyData.depthAll (toPs ds) + 1 ≤ n + 1; omega⟩
    | lst m => exact ⟨c, by show PyData.depthAll (toPs ds) + 1 ≤ n + 1; omega⟩
    | dik _ _ => cases h'.1
    | dit _ _ => cases h'.1
    | obj _ _ _ => cases h'.1
    | dku _ => cases h'.1
    | dtu _ => cases h'.1
theorem shaped_of {n : Nat} {d : D} (hn : n ≤ 64) (h : lay n d = true) : SeqAt.shaped (toP d) = true := by
  obtain ⟨a, b⟩ := lay_ok h
  unfold SeqAt.shaped
  rw [a, decide_eq_true (Nat.le_trans b hn)]; rfl
section
variable {G : Gm} {K : PySem.W.Frag} {I H : Hp}
theorem dp_all : ∀ {ds : List D} {ws : List V} {g : Ft} {n : Nat}, (∀ d ∈ ds, ∀ v f, Rp G I H d v f → Dp K H v (toP d)) → Rps G I H ds ws g → DpAll K H ws (toPs ds)
  | [], ws, g, n, _, x => by rw [x.1]; exact .nil
  | d :: ds, ws, g, n, h, x => by
    obtain ⟨v, vr, g1, g2, rfl, y, z, _⟩ := x
    exact .cons (h d List.mem_cons_self v g1 y) (dp_all (n := n) (fun e he => h e (List.mem_cons_of_mem _ he)) z)
theorem dp_of (sm : ∀ a o, I a = some o → H a = some o) : ∀ {n : Nat} {d : D} {v : V} {g : Ft}, lay n d = true → Rp G I H d v g → Dp K H v (toP d)
  | n, .una, v, g, h, x => by cases n <;> cases h
  | n, .lent, v, g, h, x => by cases n <;> cases h
  | n, .kl _, v, g, h, x => by cases n <;> cases h
  | n, .sc y, v, g, h, x => by
    obtain ⟨rfl, _⟩ := x
    cases v with
    | non => exact .non
    | bl b => exact .bl b
    | int i => exact .int i
    | str z => exact .str z
    | byt _ => cases n <;> cases h
    | flt _ => cases n <;> cases h
    | ref _ => cases n <;> cases h
    | ty _ => cases n <;> cases h
  | 0, .nd k ds, v, g, h, x => by cases h
  | n + 1, .nd k ds, v, g, h, x => by
    have h' : (k.seq && ds.all (lay n)) = true := h
    simp only [Bool.and_eq_true, List.all_eq_true] at h'
    obtain ⟨p, ws, g2, o, rfl, st, e, y, l⟩ := x.node sm
    have al : DpAll K H ws (toPs ds) := dp_all (n := n) (fun d hd v f z => dp_of sm (h'.2 d hd) z) y
    cases k with
    | tup => cases st; exact .tup (SqT.of e) al
    | lst m => cases st; exact .lst (SqL.of e) al
    | dik _ _ => cases h'.1
    | dit _ _ => cases h'.1
    | obj _ _ _ => cases h'.1
    | dku _ => cases h'.1
    | dtu _ => cases h'.1
end
def fEq : List D → Option D
  | [x, y] => if lay 64 x && lay 64 y then some (.sc (.bl (PyData.eqv (toP x) (toP y)))) else none
  | _ => none
def fNe : List D → Option D
  | [x, y] => if lay 64 x && lay 64 y then some (.sc (.bl (!PyData.eqv (toP x) (toP y)))) else none
  | _ => none
theorem os_eq {G : Gm} {K : PySem.W.Frag} : OpS G (r2l (rEqD K)) fEq := by
  intro I H ds ws d sm x e Q k
  unfold fEq at e
  split at e
  · rename_i a b
    split at e
    · rename_i h
      cases e
      simp only [Bool.and_eq_true] at h
      obtain ⟨v, w, _, _, rfl, r1, r2⟩ := x.two
      exact ⟨_, _, dp_of sm h.1 r1, dp_of sm h.2 r2, shaped_of (Nat.le_refl _) h.1, shaped_of (Nat.le_refl _) h.2, fin_sc sm k⟩
    · cases e
  · cases e
theorem os_ne {G : Gm} {K : PySem.W.Frag} : OpS G (r2l (rNeD K)) fNe := by
  intro I H ds ws d sm x e Q k
  unfold fNe at e
  split at e
  · rename_i a b
    split at e
    · rename_i h
      cases e
      simp only [Bool.and_eq_true] at h
      obtain ⟨v, w, _, _, rfl, r1, r2⟩ := x.two
      exact ⟨_, _, dp_of sm h.1 r1, dp_of sm h.2 r2, shaped_of (Nat.le_refl _) h.1, shaped_of (Nat.le_refl _) h.2, fin_sc sm k⟩
    · cases e
  · cases e
def isNonD : D → Option Bool
  | .kl _ => some false
  | .una => none
  | .lent => none
  | .sc v => some (decide (v = .non))
  | .nd _ _ => some false
def fIsN : List D → Option D
  | [x, .sc .non] => (isNonD x).map fun b => .sc (.bl b)
  | _ => none
def fNotN : List D → Option D
  | [x, .sc .non] => (isNonD x).map fun b => .sc (.bl (!b))
  | _ => none
theorem isNon_ok {G : Gm} {I H : Hp} {d : D} {v : V} {g : Ft} {b : Bool} (x : Rp G I H d v g) (e : isNonD d = some b) : decide (v = .non) = b := by
  cases d with
  | una => cases e
  | lent => cases e
  | kl xs => obtain ⟨⟨p, rfl, _⟩, _⟩ := x; cases e; rfl
  | sc w => obtain ⟨rfl, _⟩ := x; cases e; rfl
  | nd k ds => obtain ⟨p, ws, g, o, rfl, _⟩ := x; cases e; rfl
abbrev rIsNX : R2 := fun x y H Q => y = .non ∧ Q (.bl (decide (x = .non))) H
abbrev rNotNX : R2 := fun x y H Q => y = .non ∧ Q (.bl (!decide (x = .non))) H
theorem os_isN {G : Gm} : OpS G (r2l rIsNX) fIsN := by
  intro I H ds ws d sm x e Q k
  unfold fIsN at e
  split at e
  · rename_i a
    cases eb : isNonD a with
    | none => rw [eb] at e; cases e
    | some b =>
      rw [eb] at e; cases e
      obtain ⟨v, w, _, _, rfl, r1, ⟨rfl, _⟩⟩ := x.two
      exact ⟨rfl, by rw [isNon_ok r1 eb]; exact fin_sc sm k⟩
  · cases e
theorem os_notN {G : Gm} : OpS G (r2l rNotNX) fNotN := by
  intro I H ds ws d sm x e Q k
  unfold fNotN at e
  split at e
  · rename_i a
    cases eb : isNonD a with
    | none => rw [eb] at e; cases e
    | some b =>
      rw [eb] at e; cases e
      obtain ⟨v, w, _, _, rfl, r1, ⟨rfl, _⟩⟩ := x.two
      exact ⟨rfl, by rw [isNon_ok r1 eb]; exact fin_sc sm k⟩
  · cases e
def flatD : D → Bool
  | .sc v => flatV v
  | _ => false
def inD (x : V) : List D → Bool
  | [] => false
  | .sc y :: ds => eqV y x || inD x ds
  | _ :: ds => inD x ds
def rInX (K : PySem.W.Frag) (neg : Bool) : R2 := fun x y H Q => rIn K neg x y H Q ∨ ∃ c z, x = .str ⟨#[c]⟩ ∧ y = .str z ∧ Q (.bl (if neg then !decide (c ∈ z.cps.toList) else decide (c ∈ z.cps.toList))) H
theorem op_inX {X : Cx} : OpR X (compareOp .In) (rInX X.K false) := fun pins s σ H x y v u Q I rx ry h => h.elim (op_in_seq pins s σ H x y v u Q I rx ry) (fun ⟨c, z, e1, e2, q⟩ => op_in_sign pins s σ H x y v u Q I rx ry ⟨c, z, e1, e2, q⟩)
theorem op_notInX {X : Cx} : OpR X (compareOp .NotIn) (rInX X.K true) := fun pins s σ H x y v u Q I rx ry h => h.elim (op_notIn_seq pins s σ H x y v u Q I rx ry) (fun ⟨c, z, e1, e2, q⟩ => op_notIn_sign pins s σ H x y v u Q I rx ry ⟨c, z, e1, e2, q⟩)
def fIn (neg : Bool) : List D → Option D
  | [.sc (.str x), .sc (.str z)] => match x.cps.toList with
    | [c] => some (.sc (.bl (if neg then !decide (c ∈ z.cps.toList) else decide (c ∈ z.cps.toList))))
    | _ => none
  | [.sc x, .nd k ds] => if k.seq && flatV x && ds.all flatD then some (.sc (.bl (if neg then !inD x ds else inD x ds))) else none
  | _ => none
theorem Rps.flat {G : Gm} {I H : Hp} {x : V} : ∀ {ds : List D} {ws : List V} {g : Ft}, ds.all flatD = true → Rps G I H ds ws g → ws.all flatV = true ∧ inV x ws = inD x ds
  | [], ws, g, _, y => by rw [y.1]; exact ⟨rfl, rfl⟩
  | d :: ds, ws, g, h, y => by
    obtain ⟨v, vr, g1, g2, rfl, y1, y2, _⟩ := y
    simp only [List.all_cons, Bool.and_eq_true] at h
    obtain ⟨a, b⟩ := Rps.flat (x := x) h.2 y2
    cases d with
    | una => cases h.1
    | lent => cases h.1
    | kl _ => cases h.1
    | nd k es => cases h.1
    | sc w =>
      obtain ⟨rfl, _⟩ := y1
      refine ⟨by simp only [List.all_cons, a, Bool.and_true]; exact h.1, ?_⟩
      show (eqV v x || inV x vr) = (eqV v x || inD x ds)
      rw [b]
theorem os_in {G : Gm} {K : PySem.W.Frag} {neg : Bool} : OpS G (r2l (rInX K neg)) (fIn neg) := by
  intro I H ds ws d sm x e Q k
  unfold fIn at e
  split at e
  · rename_i a z
    split at e
    · rename_i c ec
      cases e
      obtain ⟨v, w, _, _, rfl, ⟨rfl, _⟩, ⟨rfl, _⟩⟩ := x.two
      obtain ⟨⟨l⟩⟩ := a
      have : l = [c] := ec
      subst this
      exact .inr ⟨c, z, rfl, rfl, fin_sc sm k⟩
    · cases e
  · rename_i a kd es
    split at e
    · rename_i h
      cases e
      simp only [Bool.and_eq_true] at h
      obtain ⟨v, w, _, _, rfl, ⟨rfl, _⟩, r2⟩ := x.two
      obtain ⟨p, ws, g, rfl, sq, y, l⟩ := node_seq (K := K) sm h.1.1 r2
      obtain ⟨f1, f2⟩ := Rps.flat (x := v) h.2 y
      exact .inl ⟨p, ws, rfl, sq, h.1.2, f1, by rw [f2]; exact fin_sc sm k⟩
    · cases e
  · cases e
end DL
end
section
set_option maxRecDepth 100000
namespace DL
open PySem L2
section
variable {G : Gm} {K : PySem.W.Frag}
def fLen : List D → Option D
  | [.sc (.str z)] => if z.length ≤ 100000 then some (.sc (.int (z.length : Nat))) else none
  | [.nd k ds] => if k.seq then some (.sc (.int (ds.length : Nat))) else none
  | [.kl xs] => some (.sc (.int (xs.length : Nat)))
  | _ => none
abbrev rLen1 (K : PySem.W.Frag) : List V → Hp → VK → Prop := fun xs H Q => ∃ x n, xs = [x] ∧ LenV K x H n ∧ Q (.int n) H
theorem os_len : OpS G (rLen1 G.K) fLen := by
  intro I H ds ws d sm x e Q k
  unfold fLen at e
  split at e
  · rename_i z
    split at e
    · rename_i h
      cases e
      obtain ⟨v, _, rfl, ⟨rfl, _⟩, _⟩ := x.one
      exact ⟨_, _, rfl, ⟨line5 h, rfl⟩, fin_sc sm k⟩
    · cases e
  · rename_i kd es
    split at e
    · rename_i h
      cases e
      obtain ⟨v, _, rfl, r, _⟩ := x.one
      obtain ⟨p, ws, g, rfl, sq, y, l⟩ := node_seq (K := G.K) sm h r
      refine ⟨_, es.length, rfl, ?_, fin_sc sm k⟩
      rcases sq with z | z
      · exact .inl ⟨ws, z, l.symm⟩
      · exact .inr ⟨ws, z, l.symm⟩
    · cases e
  · rename_i xs
    cases e
    obtain ⟨v, _, rfl, ⟨⟨p, rfl, sq⟩, _⟩, _⟩ := x.one
    exact ⟨_, xs.length, rfl, .inl ⟨_, SqL.up sm sq, by rw [List.length_map]⟩, fin_sc sm k⟩
  · cases e
def fList : List D → Option D
  | [.nd k ds] => if k.seq && Fzs ds then some (.nd (.lst true) ds) else none
  | _ => none
def fTup : List D → Option D
  | [.nd k ds] => if k.seq && Fzs ds then some (.nd .tup ds) else none
  | _ => none
def intsD : List D → Option (List Int)
  | [] => some []
  | .sc (.int i) :: ds => (intsD ds).map (i :: ·)
  | _ :: _ => none
def boolsD : List D → Option (List Bool)
  | [] => some []
  | .sc (.bl i) :: ds => (boolsD ds).map (i :: ·)
  | _ :: _ => none
theorem ints_vals {I H : Hp} : ∀ {ds : List D} {ws : List V} {g : Ft} {ns : List Int}, intsD ds = some ns → Rps G I H ds ws g → ws = ns.map V.int
  | [], ws, g, ns, e, x => by cases e; exact x.1
  | .sc (.int i) :: ds, ws, g, ns, e, x => by
    obtain ⟨v, vr, g1, g2, rfl, ⟨rfl, _⟩, y, _⟩ := x
    unfold intsD at e
    cases e2 : intsD ds with
    | none => rw [e2] at e; cases e
    | some ms => rw [e2] at e; cases e; rw [ints_vals e2 y]; rfl
  | .una :: ds, ws, g, ns, e, x => by cases e
  | .lent :: ds, ws, g, ns, e, x => by cases e
  | .kl _ :: ds, ws, g, ns, e, x => by cases e
  | .nd _ _ :: ds, ws, g, ns, e, x => by cases e
  | .sc .non :: ds, ws, g, ns, e, x => by cases e
  | .sc (.bl _) :: ds, ws, g, ns, e, x => by cases e
  | .sc (.str _) :: ds, ws, g, ns, e, x => by cases e
  | .sc (.byt _) :: ds, ws, g, ns, e, x => by cases e
  | .sc (.flt _) :: ds, ws, g, ns, e, x => by cases e
  | .sc (.ref _) :: ds, ws, g, ns, e, x => by cases e
  | .sc (.ty _) :: ds, ws, g, ns, e, x => by cases e
theorem bools_vals {I H : Hp} : ∀ {ds : List D} {ws : List V} {g : Ft} {ns : List Bool}, boolsD ds = some ns → Rps G I H ds ws g → ws = ns.map V.bl
  | [], ws, g, ns, e, x => by cases e; exact x.1
  | .sc (.bl i) :: ds, ws, g, ns, e, x => by
    obtain ⟨v, vr, g1, g2, rfl, ⟨rfl, _⟩, y, _⟩ := x
    unfold boolsD at e
    cases e2 : boolsD ds with
    | none => rw [e2] at e; cases e
    | some ms => rw [e2] at e; cases e; rw [bools_vals e2 y]; rfl
  | .una :: ds, ws, g, ns, e, x => by cases e
  | .lent :: ds, ws, g, ns, e, x => by cases e
  | .kl _ :: ds, ws, g, ns, e, x => by cases e
  | .nd _ _ :: ds, ws, g, ns, e, x => by cases e
  | .sc .non :: ds, ws, g, ns, e, x => by cases e
  | .sc (.int _) :: ds, ws, g, ns, e, x => by cases e
  | .sc (.str _) :: ds, ws, g, ns, e, x => by cases e
  | .sc (.byt _) :: ds, ws, g, ns, e, x => by cases e
  | .sc (.flt _) :: ds, ws, g, ns, e, x => by cases e
  | .sc (.ref _) :: ds, ws, g, ns, e, x => by cases e
  | .sc (.ty _) :: ds, ws, g, ns, e, x => by cases e
def Kd.isLst : Kd → Bool
  | .lst _ => true | _ => false
theorem node_lst {I H : Hp} {k : Kd} {ds : List D} {v : V} {f : Ft} (sm : ∀ a o, I a = some o → H a = some o) (hs : k.isLst = true) (x : Rp G I H (.nd k ds) v f) : ∃ p ws g, v = .ref p ∧ SqL K H p ws ∧ Rps G I H ds ws g ∧ ws.length = ds.length := by
  obtain ⟨p, ws, g, o, rfl, s, e, y, l⟩ := x.node sm
  cases k with
  | lst m => cases s; exact ⟨p, ws, g, rfl, SqL.of e, y, l⟩
  | tup => cases hs
  | dik _ _ => cases hs
  | dit _ _ => cases hs
  | obj _ _ _ => cases hs
  | dku _ => cases hs
  | dtu _ => cases hs
def fSum : List D → Option D
  | [.nd k ds] => if k.isLst then (intsD ds).map fun ns => .sc (.int ns.sum) else none
  | _ => none
def fAll : List D → Option D
  | [.nd k ds] => if k.isLst then (boolsD ds).map fun ns => .sc (.bl (ns.all id)) else none
  | _ => none
def fAny : List D → Option D
  | [.nd k ds] => if k.isLst then (boolsD ds).map fun ns => .sc (.bl (ns.any id)) else none
  | _ => none
theorem os_all : OpS G (rAll K) fAll := by
  intro I H ds ws d sm x e Q k
  unfold fAll at e
  split at e
  · rename_i kd es
    split at e
    · rename_i h
      cases en : boolsD es with
      | none => rw [en] at e; cases e
      | some ns =>
        rw [en] at e; cases e
        obtain ⟨v, _, rfl, r, _⟩ := x.one
        obtain ⟨p, ws, g, rfl, sq, y, l⟩ := node_lst (K := K) sm h r
        rw [bools_vals en y] at sq
        exact ⟨p, ns, rfl, sq, fin_sc sm k⟩
    · cases e
  · cases e
def maxL : List Int → Int
  | [] => 0
  | [x] => x
  | x :: y :: r => if x > maxL (y :: r) then x else maxL (y :: r)
def minL : List Int → Int
  | [] => 0
  | [x] => x
  | x :: y :: r => if x < minL (y :: r) then x else minL (y :: r)
theorem maxL_mem : ∀ {l : List Int}, l ≠ [] → maxL l ∈ l ∧ ∀ y ∈ l, y ≤ maxL l
  | [], h => absurd rfl h
  | [x], _ => ⟨by simp [maxL], by simp [maxL]⟩
  | x :: y :: r, _ => by
    obtain ⟨a, b⟩ := maxL_mem (l := y :: r) (by simp)
    show (if x > maxL (y :: r) then x else maxL (y :: r)) ∈ _ ∧ ∀ z ∈ _, z ≤ (if x > maxL (y :: r) then x else maxL (y :: r))
    split
    · exact ⟨List.mem_cons_self, fun z hz => by
        rcases List.mem_cons.mp hz with rfl | hz
        · omega
        · have := b z hz; omega⟩
    · exact ⟨List.mem_cons_of_mem _ a, fun z hz => by
        rcases List.mem_cons.mp hz with rfl | hz
        · omega
        · exact b z hz⟩
abbrev rMax2 : List V → Hp → VK → Prop := fun xs H Q => ∃ i j, xs = [.int i, .int j] ∧ Q (.int (if j > i then j else i)) H
def rMaxX (K : PySem.W.Frag) : List V → Hp → VK → Prop := fun xs H Q => rMax K xs H Q ∨ rMax2 xs H Q
theorem call_maxX {X : Cx} (hc : X.calm = true) : CallR X (.builtin "max") (rMaxX X.K) := (cr_max hc).or (call_max2 hc)
def fMax : List D → Option D
  | [.sc (.int i), .sc (.int j)] => some (.sc (.int (if j > i then j else i)))
  | [.nd k ds] => if k.isLst && !ds.isEmpty then (intsD ds).map fun ns => .sc (.int (maxL ns)) else none
  | _ => none
def fMin : List D → Option D
  | [.sc (.int i), .sc (.int j)] => some (.sc (.int (if j < i then j else i)))
  | [.nd k ds] => if k.isLst && !ds.isEmpty then (intsD ds).map fun ns => .sc (.int (minL ns)) else none
  | _ => none
theorem intsD_len : ∀ {ds : List D} {ns : List Int}, intsD ds = some ns → ns.length = ds.length
  | [], ns, e => by cases e; rfl
  | d :: ds, ns, e => by
    unfold intsD at e
    split at e
    · rename_i h; cases h
    · rename_i i r h
      cases h
      cases e2 : intsD ds with
      | none => rw [e2] at e; cases e
      | some ms => rw [e2] at e; cases e; simp [intsD_len e2]
    · cases e
theorem os_max : OpS G (rMaxX K) fMax := by
  intro I H ds ws d sm x e Q k
  unfold fMax at e
  split at e
  · rename_i i j
    cases e
    obtain ⟨v, w, _, _, rfl, ⟨rfl, _⟩, ⟨rfl, _⟩⟩ := x.two
    exact .inr ⟨i, j, rfl, fin_sc sm k⟩
  · rename_i kd es
    split at e
    · rename_i h
      simp only [Bool.and_eq_true, Bool.not_eq_true', List.isEmpty_eq_false_iff] at h
      cases en : intsD es with
      | none => rw [en] at e; cases e
      | some ns =>
        rw [en] at e; cases e
        obtain ⟨v, _, rfl, r, _⟩ := x.one
        obtain ⟨p, ws, g, rfl, sq, y, l⟩ := node_lst (K := K) sm h.1 r
        rw [ints_vals en y] at sq
        have hl := intsD_len en
        have hne : ns ≠ [] := fun q => h.2 (List.eq_nil_of_length_eq_zero (by rw [← hl, q]; rfl))
        refine .inl ⟨p, ns, rfl, sq, List.length_pos_iff.mpr hne, fun m hm hle => ?_⟩
        obtain ⟨a, b⟩ := maxL_mem hne
        have : m = maxL ns := by have := b m hm; have := hle _ a; omega
        rw [this]
        exact fin_sc sm k
    · cases e
  · cases e
def rIntX : List V → Hp → VK → Prop := fun xs H Q => ((∃ i, xs = [.int i] ∧ Q (.int i) H) ∨ ∃ k, xs = [.bl k] ∧ Q (.int (if k then 1 else 0)) H) ∨ ∃ a n, xs = [.str a] ∧ PySem.intText? a = some n ∧ a.length ≤ 640 ∧ Q (.int n) H
def fInt : List D → Option D
  | [.sc (.int i)] => some (.sc (.int i))
  | [.sc (.bl k)] => some (.sc (.int (if k then 1 else 0)))
  | [.sc (.str a)] => if a.length ≤ 640 then (PySem.intText? a).map fun n => .sc (.int n) else none
  | _ => none
theorem os_int : OpS G rIntX fInt := by
  intro I H ds ws d sm x e Q k
  unfold fInt at e
  split at e
  · rename_i i
    cases e
    obtain ⟨v, _, rfl, ⟨rfl, _⟩, _⟩ := x.one
    exact .inl (.inl ⟨i, rfl, fin_sc sm k⟩)
  · rename_i i
    cases e
    obtain ⟨v, _, rfl, ⟨rfl, _⟩, _⟩ := x.one
    exact .inl (.inr ⟨i, rfl, fin_sc sm k⟩)
  · rename_i a
    split at e
    · rename_i h
      cases en : PySem.intText? a with
      | none => rw [en] at e; cases e
      | some n =>
        rw [en] at e; cases e
        obtain ⟨v, _, rfl, ⟨rfl, _⟩, _⟩ := x.one
        exact .inr ⟨a, n, rfl, en, h, fin_sc sm k⟩
    · cases e
  · cases e
abbrev rStrI : List V → Hp → VK → Prop := fun xs H Q => ∃ i, xs = [.int i] ∧ i.natAbs.log2 < 1920 ∧ Q (.str (toString i)) H
def fStr : List D → Option D
  | [.sc (.int i)] => if i.natAbs.log2 < 1920 then some (.sc (.str (toString i))) else none
  | _ => none
theorem os_str : OpS G rStrI fStr := by
  intro I H ds ws d sm x e Q k
  unfold fStr at e
  split at e
  · rename_i i
    split at e
    · rename_i h
      cases e
      obtain ⟨v, _, rfl, ⟨rfl, _⟩, _⟩ := x.one
      exact ⟨i, rfl, h, fin_sc sm k⟩
    · cases e
  · cases e
abbrev rDivmod : List V → Hp → VK → Prop := fun xs H Q => ∃ i j, xs = [.int i, .int j] ∧ CDivP i j ∧ ∀ p, H p = none → Q (.ref p) (upd H p (.tup [.int (i / j), .int (i % j)]))
def fDivmod : List D → Option D
  | [.sc (.int i), .sc (.int j)] => if 0 < j ∧ j.natAbs.log2 < 9000 then some (.nd .tup [.sc (.int (i / j)), .sc (.int (i % j))]) else none
  | _ => none
theorem os_divmod : OpS G rDivmod fDivmod := by
  intro I H ds ws d sm x e Q k
  unfold fDivmod at e
  split at e
  · rename_i i j
    split at e
    · rename_i h
      cases e
      obtain ⟨v, w, _, _, rfl, ⟨rfl, _⟩, ⟨rfl, _⟩⟩ := x.two
      refine ⟨i, j, rfl, ⟨h.1, PyProof.noPylong_of_log2 h.2⟩, fun p hp => fin_tup sm ?_ hp k⟩
      exact ⟨_, _, z0, z0, rfl, ⟨rfl, fun _ => rfl⟩, ⟨_, _, z0, z0, rfl, ⟨rfl, fun _ => rfl⟩, ⟨rfl, fun _ => rfl⟩, fun _ => rfl⟩, fun _ => rfl⟩
    · cases e
  · cases e
end
def dLstRg1 (d : Den) : Den := fun E => (d E).bind fun r => match cont r.2 r.1 with
  | some (.sc (.int j)) => if 0 ≤ j ∧ j ≤ 100000 then .ok (.val (.nd (.lst true) (rngD 0 j.toNat)), r.2) else .bad
  | _ => .bad
def dLstRg2 (pu2 : Bool) (d1 d2 : Den) : Den := fun E => (aCons pu2 d1 (aCons true d2 aNil) E).bind fun r => match conts r.2 r.1 with
  | some [.sc (.int i), .sc (.int j)] => if 0 ≤ i ∧ i ≤ 100000 ∧ 0 ≤ j ∧ j ≤ 100000 then .ok (.val (.nd (.lst true) (rngD i (j - i).toNat)), r.2) else .bad
  | _ => .bad
/-- the type's name -/
def tyD : D → Option String
  | .una => none
  | .lent => none
  | .kl _ => none
  | .sc v => match v with
    | .non => some "NoneType"
    | .bl _ => some "bool"
    | .int _ => some "int"
    | .str _ => some "str"
    | _ => none
  | .nd k _ => match k with
    | .tup => some "tuple"
    | .lst _ => some "list"
    | .dik _ _ => some "dict"
    | .dit _ _ => some "dict"
    | .obj _ _ _ => none
    | .dku _ => some "dict"
    | .dtu _ => none
def isiTy (m : String) : Bool := m == "bool" || m == "int" || m == "str" || m == "tuple" || m == "list" || m == "dict"
def isiD (n m : String) : Option Bool := if isiTy m then some (n == m || (n == "bool" && m == "int")) else none
/-- isinstance(x, T), T a built-in class -/
def fIsi : List D → Option D
  | [x, .sc (.ty m)] => match tyD x with
    | some n => (isiD n m).map fun b => .sc (.bl b)
    | none => none
  | _ => none
theorem isi_kit {n m : String} {b : Bool} (h : isiD n m = some b) (hn : n = "NoneType" ∨ n = "bool" ∨ n = "int" ∨ n = "str" ∨ n = "tuple" ∨ n = "list" ∨ n = "dict") : kitB n m = some b := by
  unfold isiD at h
  split at h
  · rename_i hm
    simp only [isiTy, Bool.or_eq_true, beq_iff_eq] at hm
    rcases hn with rfl | rfl | rfl | rfl | rfl | rfl | rfl <;> rcases hm with ((((rfl | rfl) | rfl) | rfl) | rfl) | rfl <;> (revert h; cases b <;> decide +kernel)
  · cases h
section
variable {G : Gm} {K : PySem.W.Frag}
theorem tyX_of {I H : Hp} {d : D} {v : V} {g : Ft} {n : String} (sm : ∀ a o, I a = some o → H a = some o) (x : Rp G I H d v g) (e : tyD d = some n) : TyX K H v (.type n) ∧ (n = "NoneType" ∨ n = "bool" ∨ n = "int" ∨ n = "str" ∨ n = "tuple" ∨ n = "list" ∨ n = "dict") := by
  cases d with
  | una => cases e
  | lent => cases e
  | kl _ => cases e
  | sc w =>
    obtain ⟨rfl, _⟩ := x
    cases v with
    | non => cases e; exact ⟨.base .non, by simp⟩
    | bl b => cases e; exact ⟨.base (.bl b), by simp⟩
    | int i => cases e; exact ⟨.base (.int i), by simp⟩
    | str z => cases e; exact ⟨.base (.str z), by simp⟩
    | _ => cases e
  | nd k ds =>
    obtain ⟨p, ws, g, o, rfl, st, e0, y, l⟩ := x.node sm
    cases k with
    | tup => cases e; cases st; exact ⟨.base (.tup e0), by simp⟩
    | lst m => cases e; cases st; exact ⟨.base (.lst e0), by simp⟩
    | dik m ks => cases e; obtain ⟨_, rfl⟩ := st; exact ⟨.base (.dK e0), by simp⟩
    | dit m ks => cases e; obtain ⟨_, rfl⟩ := st; exact ⟨.base (.dT e0), by simp⟩
    | obj m c ns => cases e
    | dku ks => cases e; obtain ⟨_, od, rfl⟩ := st; exact ⟨.fDict e0, by simp⟩
    | dtu _ => cases e
theorem os_isi : OpS G (rIsi K) fIsi := by
  intro I H ds ws d sm x e Q k
  unfold fIsi at e
  split at e
  · rename_i a m
    split at e
    · rename_i n en
      cases eb : isiD n m with
      | none => rw [eb] at e; cases e
      | some b =>
        rw [eb] at e; cases e
        obtain ⟨v, w, _, _, rfl, r1, ⟨rfl, _⟩⟩ := x.two
        obtain ⟨t, hn⟩ := tyX_of (K := K) sm r1 en
        exact ⟨v, .ty m, _, _, b, rfl, .ty m, t, kit_ty (isi_kit eb hn), fin_sc sm k⟩
    · cases e
  · cases e
end
end DL
end
section
set_option maxRecDepth 100000
namespace DL
open PySem L2
section
variable {G : Gm} {W : WX} {pu : Bool} {K : PySem.W.Frag}
/-- an owned node, to be written -/
theorem Stt.mutate {σ : St} {I H : Hp} {E : List D} {vs : List V} {f : Ft} {i : Nat} {p : List Nat} {v : V} {k : Kd} {ds : List D} (s : Stt G σ I H E vs f) (l : Loc G I H E vs i p v) (e : getP E i p = some (.nd k ds)) (mu : k.mut = true) :
    ∃ q ws ob g h, v = .ref q ∧ k.st G ws ob ∧ H q = some ob ∧ I q = none ∧ Rps G I H ds ws g ∧ (∀ a, f a = g a + one1 q a + h a) ∧
      ∀ {k' : Kd} {ds' : List D} {ws' : List V} {ob' : HO} {g' : Ft}, k'.mut = true → k'.st G ws' ob' → Rps G I (upd H q ob') ds' ws' g' → (∀ a, g' a + one1 q a + h a ≤ 1) →
        Stt G σ I (upd H q ob') (setP E i p (.nd k' ds')) vs (fadd (fadd g' (one1 q)) h) := by
  obtain ⟨g0, h, y, q0, kk⟩ := s.at l e
  obtain ⟨q, ws, g, ob, rfl, st, z, c⟩ := y
  rcases c with ⟨_, n, eH, c⟩ | ⟨m, _⟩
  · refine ⟨q, ws, ob, g, h, rfl, st, eH, n, z, fun a => by have := q0 a; have := c a; omega, fun {k' ds' ws' ob' g'} mu' st' z' nd' => ?_⟩
    have hq : h q = 0 := by have := nd' q; rw [one1_self] at this; omega
    have r : Rp G I (upd H q ob') (.nd k' ds') (.ref q) (fadd g' (one1 q)) := ⟨q, ws', g', ob', rfl, st', z', .inl ⟨mu', n, upd_same, fun _ => rfl⟩⟩
    refine ⟨s.sl.setP e fun _ => by simp, fun a o ea => ?_, kk (fun _ _ e => e) r fun a z => ?_, fun a => by have := nd' a; simp; omega⟩
    · have : a ≠ q := by rintro rfl; rw [n] at ea; cases ea
      rw [upd_ne this]; exact s.sm a o ea
    · have ha : a ≠ q := by rintro rfl; exact z hq
      exact ⟨(s.rp.trk a (by have := q0 a; omega)).1, upd_ne ha⟩
  · rw [mu] at m; cases m
/-- children at the node's other content -/
theorem Rps.beside {I H : Hp} {ds : List D} {ws : List V} {g : Ft} {q : Addr} {ob : HO} (x : Rps G I H ds ws g) (hq : g q = 0) : Rps G I (upd H q ob) ds ws g :=
  x.move (fun _ _ e => e) fun a z => ⟨(x.trk a z).1, upd_ne (by rintro rfl; exact z hq)⟩
theorem Rp.beside {I H : Hp} {d : D} {v : V} {g : Ft} {q : Addr} {ob : HO} (x : Rp G I H d v g) (hq : g q = 0) : Rp G I (upd H q ob) d v g :=
  x.move (fun _ _ e => e) fun a z => ⟨(x.trk a z).1, upd_ne (by rintro rfl; exact z hq)⟩
theorem Fr.wrote {I H : Hp} {q : Addr} {ob : HO} {f f' : Ft} (hq : f q ≠ 0) (h : ∀ a, f' a ≠ 0 → f a ≠ 0) : Fr false I H f I (upd H q ob) f' :=
  ⟨fun _ _ e => e, fun a o e z => by rw [upd_ne (by rintro rfl; exact hq z)]; exact e, fun _ _ _ _ e => e, fun a z => .inl (h a z), fun z => by cases z⟩
def setIK (r : List Opd × List D) : S := match r.1 with
  | [.val c, .plc i p, q] => match getP r.2 i p, cont r.2 q with
    | some (.nd (.lst true) ds), some (.sc (.int j)) => match ixN ds.length j with
      | some n => .nx (setP r.2 i p (.nd (.lst true) (ds.set n c)))
      | none => .bad
    | _, _ => .bad
  | _ => .bad
def dSetI (p1 p2 : Bool) (d d0 di : Den) : DenS := fun E => (aCons (p1 && (p2 && true)) d (aCons (p2 && true) d0 (aCons true di aNil)) E).toS setIK
theorem Rps.set0 {I H : Hp} {ds : List D} {ws : List V} {g gc : Ft} {n : Nat} {c : D} {v : V} (x : Rps G I H ds ws g) (y : Rp G I H c v gc) (hn : n < ds.length) : ∃ g', Rps G I H (ds.set n c) (ws.set n v) g' ∧ ∀ a, g' a ≤ g a + gc a := by
  obtain ⟨w, g0, h, ew, yw, q, k⟩ := x.get (List.getElem?_eq_getElem hn)
  exact ⟨_, k (fun _ _ e => e) y fun a z => ⟨(x.trk a (by have := q a; omega)).1, rfl⟩, fun a => by have := q a; simp; omega⟩
theorem t_setI {te t0 ti : TE} {p0 p1 p2 : Bool} {d d0 di : Den} (h0 : ∀ σ H Q, tO G W p0 d σ H Q → te σ H Q) (h1 : ∀ σ H Q, tO G W p1 d0 σ H Q → t0 σ H Q) (h2 : ∀ σ H Q, tO G W p2 di σ H Q → ti σ H Q) :
    ∀ D σ H, tS G W [] (dSetI p1 p2 d d0 di) D σ H → tAsg te (gSub t0 ti rSetL) D σ H := by
  rintro D σ H ⟨I, E, vs, f, s, hh⟩
  refine (t_acons h0 (t_acons h1 (t_acons h2 t_anil)) σ H (fun ws H' => match ws with | [v, o, i] => rSetL o i v H' (fun H3 => D.nx σ H3) | _ => False) ?_ : _)
  refine ⟨I, E, vs, f, s, Ans.of_S hh fun r er h => ?_⟩
  intro ws I1 H1 f1 g1 s1 o1 n1 a1 e1
  obtain ⟨os, E1⟩ := r
  unfold setIK at h
  split at h
  · rename_i c i p q eos
    have eos' : os = [.val c, .plc i p, q] := eos
    subst eos'
    obtain ⟨v, vr, ga, gb, rfl, oa, ⟨w, vr2, gc, gd, rfl, ob, ⟨u, vr3, ge, gf, rfl, oc, ⟨rfl, zf⟩, qc⟩, qb⟩, qa⟩ := o1
    split at h
    · rename_i ds j ep eq
      split at h
      · rename_i n en
        obtain ⟨gi, yi, _⟩ := oc.cont s1 (fun a => by have := n1 a; have := qa a; have := qb a; have := qc a; omega) eq
        obtain ⟨rfl, _⟩ := yi
        obtain ⟨q', ws', hob, g, hr, rfl, st, eH, nI, z, qq, mk⟩ := s1.mutate ob.1 ep rfl
        cases st
        obtain ⟨_, hn, _⟩ := ixN_seq en
        have gq : g q' = 0 := by have := n1 q'; have := qq q'; rw [one1_self] at this; omega
        have gaq : ga q' = 0 := by have := n1 q'; have := qq q'; have := qa q'; rw [one1_self] at *; omega
        obtain ⟨g', z', le⟩ := (z.beside (ob := .lst (ws'.set n v)) gq).set0 (n := n) (Rp.beside (ob := .lst (ws'.set n v)) oa gaq) hn
        have s2 := mk (k' := .lst true) (ob' := .lst (ws'.set n v)) rfl rfl z' fun a => by have := le a; have := n1 a; have := qq a; have := qa a; omega
        refine ⟨q', ws', j, n, rfl, rfl, eH, by rw [z.len]; exact en, ?_⟩
        refine h σ vs _ _ _ s2 Agr.refl ?_
        have w := Fr.wrote (I := I1) (H := H1) (ob := .lst (ws'.set n v)) (q := q') (f := fadd f1 g1) (f' := fadd (fadd g' (one1 q')) hr) (by have := qq q'; rw [one1_self] at this; simp; omega) fun a z => by
          have := le a; have := qq a; have := qa a; simp at z ⊢; omega
        exact (a1.trans w).imp fun z => by cases z
      · exact h.elim
    · exact h.elim
  · exact h.elim
abbrev MutF := Kd → List D → List D → Option (D × Kd × List D)
def MutS (G : Gm) (r : V → List V → Hp → VK → Prop) (M : MutF) : Prop := ∀ (I H : Hp) (k : Kd) (ds as : List D) (q : Addr) (ws was : List V) (ob : HO) (g ga : Ft) (res : D) (k' : Kd) (ds' : List D), k.mut = true → k.st G ws ob → H q = some ob → (∀ a o, I a = some o → H a = some o) →
  Rps G I H ds ws g → Rps G I H as was ga → (∀ a, g a + ga a + one1 q a ≤ 1) → M k ds as = some (res, k', ds') → ∀ Q : VK,
  (∀ ob' ws' g' v gr, k'.mut = true → k'.st G ws' ob' → Rps G I (upd H q ob') ds' ws' g' → Rp G I (upd H q ob') res v gr → (∀ a, g' a + gr a ≤ g a + ga a) → Q v (upd H q ob')) → r (.ref q) was H Q
def mutK (M : MutF) (r : Opd × (List Opd × List D)) : R (Opd × List D) := match r.1 with
  | .plc i p => match getP r.2.2 i p, opVals r.2.1 with
    | some (.nd k ds), some as => if k.mut then (match M k ds as with
      | some (res, k', ds') => .ok (.val res, setP r.2.2 i p (.nd k' ds'))
      | none => .bad) else .bad
    | _, _ => .bad
  | .val _ => .bad
/-- the receiver is a list | a dict -/
def isTy (T : String) : Option D → Bool
  | some (.nd (.lst _) _) => T == "list"
  | some (.nd (.dik _ _) _) => T == "dict"
  | some (.nd (.dit _ _) _) => T == "dict"
  | _ => false
def dMut (T : String) (M : MutF) (pu2 : Bool) (d0 : Den) (das : DenA) : Den := fun E => (d0 E).bind fun r => if isTy T (cont r.2 r.1) && stab pu2 r.1 then (das r.2).bind fun q => mutK M (r.1, q) else .bad
theorem tyV_of {I H : Hp} {d : D} {v : V} {g : Ft} {T : String} (sm : ∀ a o, I a = some o → H a = some o) (x : Rp G I H d v g) (e : isTy T (some d) = true) : tyV K T v H := by
  cases d with
  | una => cases e
  | lent => cases e
  | kl _ => cases e
  | sc w => cases e
  | nd k ds =>
    obtain ⟨p, ws, g, o, rfl, st, e0, y, l⟩ := x.node sm
    cases k with
    | lst m => cases st; have : T = "list" := by simpa [isTy] using e
               subst this; exact .inl ⟨rfl, ws, SqL.of e0⟩
    | dik m ks => obtain ⟨_, rfl⟩ := st; have : T = "dict" := by simpa [isTy] using e
                  subst this; exact .inr (.inr (.inl ⟨rfl, .inl ⟨_, e0⟩⟩))
    | dit m ks => obtain ⟨_, rfl⟩ := st; have : T = "dict" := by simpa [isTy] using e
                  subst this; exact .inr (.inr (.inl ⟨rfl, .inr ⟨_, e0⟩⟩))
    | tup => cases e
    | obj _ _ _ => cases e
    | dku _ => cases e
    | dtu _ => cases e
theorem t_mutA {te : TE} {ta : TA} {pu1 pu2 : Bool} {d0 : Den} {das : DenA} {T : String} {r : V → List V → Hp → VK → Prop} {M : MutF} (hr : MutS G r M) (h0 : ∀ σ H Q, tO G W pu1 d0 σ H Q → te σ H Q) (ha : ∀ σ H Q, tA G W pu2 das σ H Q → ta σ H Q) :
    ∀ σ H Q, tO G W false (dMut T M pu2 d0 das) σ H Q → te σ H (fun x H1 => tyV K T x H1 ∧ ta σ H1 fun xs H2 => r x xs H2 Q) := by
  rintro σ H Q ⟨I, E, vs, f, s, hh⟩
  refine h0 _ _ _ ⟨I, E, vs, f, s, hh.fst fun x ex h => ?_⟩
  intro v I1 H1 f1 g1 s1 o1 n1 a1 e1
  obtain ⟨o, E1⟩ := x
  by_cases hc : (isTy T (cont E1 o) && stab pu2 o) = true
  · have h : Ans G W σ I H f vs (if (isTy T (cont E1 o) && stab pu2 o) = true then (das E1).bind fun q => mutK M (o, q) else .bad) _ := h
    rw [if_pos hc] at h
    simp only [Bool.and_eq_true] at hc
    have a1' : Fr pu1 I H f I1 H1 f1 := a1.less fun x z => by simp; omega
    refine ⟨?_, ha _ _ _ ⟨I1, E1, vs, f1, s1, (h.fwd a1').fst fun q eq _ => ?_⟩⟩
    · cases ec : cont E1 o with
      | none => rw [ec] at hc; cases hc.1
      | some c =>
        obtain ⟨g', y, _⟩ := o1.cont s1 (fun a => by have := n1 a; omega) ec
        rw [ec] at hc
        exact tyV_of s1.sm y hc.1
    · intro ws2 I2 H2 f2 g2 s2 o2 n2 a2 e2
      rw [eq] at h
      have o1' := o1.keep hc.2 (E1 := q.2) a2 n1 e2
      have h : Ans G W σ I H f vs (mutK M (o, q)) _ := h
      have n3 := a2.apart (g := g1) o1.trk n1 (fun x => by have := n2 x; simpa using this)
      cases o with
      | val d => exact h.elim
      | plc i p =>
        have h : Ans G W σ I H f vs (match getP q.2 i p, opVals q.1 with
          | some (.nd k ds), some as => if k.mut then (match M k ds as with
            | some (res, k', ds') => R.ok (Opd.val res, setP q.2 i p (.nd k' ds'))
            | none => R.bad) else R.bad
          | _, _ => R.bad) _ := h
        split at h
        · rename_i k ds as ep ea
          split at h
          · rename_i mu
            split at h
            · rename_i res k' ds' em
              obtain ⟨q', ws', hob, g, hrr, rfl, st, eH, nI, z, qq, mk⟩ := s2.mutate o1'.1 ep mu
              have xa := o2.vals ea
              have gz := o1'.2
              refine hr I2 H2 k ds as q' ws' ws2 hob g g2 res k' ds' mu st eH s2.sm z xa (fun a => by have := n2 a; have := qq a; omega) em Q fun ob' ws3 g3 v gr mu' st' z3 y3 le => ?_
              have s3 := mk (ob' := ob') mu' st' z3 fun a => by have := le a; have := n2 a; have := qq a; omega
              refine h v I2 _ _ gr s3 y3 (fun a => by have := le a; have := n2 a; have := qq a; simp; omega) ?_ (fun z => by cases z)
              have w := Fr.wrote (I := I2) (H := H2) (ob := ob') (q := q') (f := fadd f2 g2) (f' := fadd (fadd (fadd g3 (one1 q')) hrr) gr) (by have := qq q'; rw [one1_self] at this; simp; omega) fun a z => by
                have := le a; have := qq a; simp at z ⊢; omega
              exact ((a1'.trans a2).trans w).imp fun z => by cases z
            · exact h.elim
          · exact h.elim
        · exact h.elim
  · have h : Ans G W σ I H f vs (if (isTy T (cont E1 o) && stab pu2 o) = true then (das E1).bind fun q => mutK M (o, q) else .bad) _ := h
    rw [if_neg hc] at h
    exact h.elim
/-- with arguments | without -/
theorem t_mut {te : TE} {ta : TA} {pu1 pu2 : Bool} {d0 : Den} {das : DenA} {T : String} {r : V → List V → Hp → VK → Prop} {M : MutF} (hr : MutS G r M) (h0 : ∀ σ H Q, tO G W pu1 d0 σ H Q → te σ H Q) (ha : ∀ σ H Q, tA G W pu2 das σ H Q → ta σ H Q) :
    ∀ σ H Q, tO G W false (dMut T M pu2 d0 das) σ H Q → tBM K T r te ta σ H Q := t_mutA hr h0 ha
def mAppend : MutF := fun k ds as => match k, as with
  | .lst true, [a] => if ds.length < 100000 then some (.sc .non, .lst true, ds ++ [a]) else none
  | _, _ => none
theorem line5' {n : Nat} (h : n < 100000) : n < sizeLine := Nat.lt_of_lt_of_le h (by decide)
theorem ms_append : MutS G rAppend mAppend := by
  intro I H k ds as q ws was ob g ga res k' ds' mu st eH sm z za nd em Q kk
  unfold mAppend at em
  split at em
  · rename_i a
    split at em
    · rename_i hl
      cases em; cases st
      obtain ⟨v, vr, g1, g2, rfl, y, ⟨rfl, zz⟩, qq⟩ := za
      have gq : g q = 0 := by have := nd q; rw [one1_self] at this; omega
      have g1q : g1 q = 0 := by have := nd q; have := qq q; rw [one1_self] at *; omega
      refine ⟨q, ws, v, rfl, rfl, eH, by rw [z.len]; exact line5' hl, ?_⟩
      exact kk _ _ _ .non z0 rfl rfl ((z.beside gq).app (Rps.one (y.beside g1q))) ⟨rfl, fun _ => rfl⟩ fun a => by have := qq a; simp; omega
    · cases em
  · cases em
end
def putN (f : Str) (ns : List Str) : List Str := match ixOf f ns with
  | some _ => ns
  | none => ns ++ [f]
def putDs {α : Type} (f : Str) (c : α) (ns : List Str) (ds : List α) : List α := match ixOf f ns with
  | some j => ds.set j c
  | none => ds ++ [c]
theorem putF_zip {f : Str} {v : V} : ∀ {ns : List Str} {ws : List V}, ns.length = ws.length → putF f v (ns.zip ws) = (putN f ns).zip (putDs f v ns ws) ∧ (putN f ns).length = (putDs f v ns ws).length
  | [], [], _ => ⟨rfl, rfl⟩
  | [], _ :: _, h => by simp at h
  | _ :: _, [], h => by simp at h
  | n :: ns, w :: ws, h => by
    obtain ⟨a, b⟩ := putF_zip (f := f) (v := v) (ns := ns) (ws := ws) (by simpa using h)
    by_cases e : f = n
    · subst e
      have e1 : ixOf f (f :: ns) = some 0 := by simp [ixOf]
      unfold putN putDs
      rw [e1]
      refine ⟨?_, by simpa using h⟩
      show (if f = f then (f, v) :: ns.zip ws else _) = _
      rw [if_pos rfl]; rfl
    · have e0 : (f == n) = false := by simpa using e
      unfold putN putDs at a b ⊢
      have e1 : ixOf f (n :: ns) = (ixOf f ns).map (· + 1) := by show (if f == n then _ else _) = _; rw [e0]; rfl
      rw [e1]
      cases e2 : ixOf f ns with
      | none =>
        rw [e2] at a b
        refine ⟨?_, by simpa using b⟩
        show putF f v ((n, w) :: ns.zip ws) = (n, w) :: (ns ++ [f]).zip (ws ++ [v])
        unfold putF
        first
          | rw [if_neg (Ne.symm e), a]
          | rw [if_neg e, a]
          | simp [e, Ne.symm e, a]
      | some j =>
        rw [e2] at a b
        refine ⟨?_, by simpa using b⟩
        show putF f v ((n, w) :: ns.zip ws) = (n, w) :: ns.zip (ws.set j v)
        unfold putF
        first
          | rw [if_neg (Ne.symm e), a]
          | rw [if_neg e, a]
          | simp [e, Ne.symm e, a]
def setFK (c : Nat) (f : Str) (r : List Opd × List D) : S := match r.1 with
  | [.val x, .plc i p] => match getP r.2 i p with
    | some (.nd (.obj true c' ns) ds) => if c' = c ∧ ns.length < 500 then .nx (setP r.2 i p (.nd (.obj true c (putN f ns)) (putDs f x ns ds))) else .bad
    | _ => .bad
  | _ => .bad
def dSetF (c : Nat) (f : Str) (p1 : Bool) (d d0 : Den) : DenS := fun E => (aCons (p1 && true) d (aCons true d0 aNil) E).toS (setFK c f)
section
variable {G : Gm} {W : WX} {pu : Bool} {K : PySem.W.Frag}
theorem ixOf_lt {f : Str} : ∀ {ns : List Str} {j : Nat}, ixOf f ns = some j → j < ns.length
  | [], j, e => by cases e
  | n :: ns, j, e => by
    unfold ixOf at e
    split at e
    · cases e; simp
    · cases e2 : ixOf f ns with
      | none => rw [e2] at e; cases e
      | some k => rw [e2] at e; cases e; have := ixOf_lt e2; simp; omega
theorem t_setF {te t0 : TE} {p0 p1 : Bool} {d d0 : Den} {c : Nat} {f : Str} (cl : Cls K (G.cls c)) (na : NoAttr K (G.cls c) f) (h0 : ∀ σ H Q, tO G W p0 d σ H Q → te σ H Q) (h1 : ∀ σ H Q, tO G W p1 d0 σ H Q → t0 σ H Q) :
    ∀ D σ H, tS G W [] (dSetF c f p1 d d0) D σ H → sFld K t0 te f D σ H := by
  rintro D σ H ⟨I, E, vs, f0, s, hh⟩
  refine (t_acons h0 (t_acons h1 t_anil) σ H (fun ws H' => match ws with | [y, x] => ∃ a C dx fs, x = V.ref a ∧ H' a = some (.ins C dx fs) ∧ Cls K C ∧ NoAttr K C f ∧ fs.length < 1000 ∧ D.nx σ (upd H' a (.ins C dx (putF f y fs))) | _ => False) ?_ : _)
  refine ⟨I, E, vs, f0, s, Ans.of_S hh fun r er h => ?_⟩
  intro ws I1 H1 f1 g1 s1 o1 n1 a1 e1
  obtain ⟨os, E1⟩ := r
  unfold setFK at h
  split at h
  · rename_i x i p eos
    have eos' : os = [.val x, .plc i p] := eos
    subst eos'
    obtain ⟨v, vr, ga, gb, rfl, oa, ⟨w, vr2, gc, gd, rfl, ob, ⟨rfl, zf⟩, qb⟩, qa⟩ := o1
    split at h
    · rename_i c' ns ds ep
      split at h
      · rename_i hc
        obtain ⟨rfl, hl⟩ := hc
        obtain ⟨q', ws', hob, g, hr, rfl, st, eH, nI, z, qq, mk⟩ := s1.mutate ob.1 ep rfl
        obtain ⟨l, dx, rfl⟩ := st
        have gq : g q' = 0 := by have := n1 q'; have := qq q'; rw [one1_self] at this; omega
        have gaq : ga q' = 0 := by have := n1 q'; have := qq q'; have := qa q'; rw [one1_self] at *; omega
        obtain ⟨pe, pl⟩ := putF_zip (f := f) (v := v) l
        refine ⟨q', G.cls c', dx, _, rfl, eH, cl, na, ?_, ?_⟩
        · rw [List.length_zip]; omega
        rw [pe]
        have new : ∃ g', Rps G I1 (upd H1 q' (.ins (G.cls c') dx ((putN f ns).zip (putDs f v ns ws')))) (putDs f x ns ds) (putDs f v ns ws') g' ∧ ∀ a, g' a ≤ g a + ga a := by
          unfold putDs
          cases e2 : ixOf f ns with
          | none => exact ⟨_, (z.beside gq).app (Rps.one (Rp.beside oa gaq)), fun a => by simp⟩
          | some j => exact (z.beside gq).set0 (n := j) (Rp.beside oa gaq) (by have := ixOf_lt e2; have := z.len; omega)
        obtain ⟨g', z', le⟩ := new
        have s2 := mk (k' := .obj true c' (putN f ns)) rfl ⟨pl, dx, rfl⟩ z' fun a => by have := le a; have := n1 a; have := qq a; have := qa a; omega
        refine h σ vs _ _ _ s2 Agr.refl ?_
        have w := Fr.wrote (I := I1) (H := H1) (ob := .ins (G.cls c') dx ((putN f ns).zip (putDs f v ns ws'))) (q := q') (f := fadd f1 g1) (f' := fadd (fadd g' (one1 q')) hr) (by have := qq q'; rw [one1_self] at this; simp; omega) fun a z => by
          have := le a; have := qq a; have := qa a; simp at z ⊢; omega
        exact (a1.trans w).imp fun z => by cases z
      · exact h.elim
    · exact h.elim
  · exact h.elim
end
end DL
end
section
set_option maxRecDepth 100000
namespace DL
open PySem L2
/-- a look: all is taken as frozen, what comes is a number, a text, a truth -/
def dView (d : Den) : Den := fun E => match d (fzs E) with
  | .ok r => match r.1 with
    | .val (.sc v) => .ok (.val (.sc v), E)
    | _ => .bad
  | _ => .bad
section
variable {G : Gm} {W : WX} {pu : Bool}
def WalkB (G : Gm) (pb : Bool) (I0 H0 : Hp) (J : It) (ds : List D) : Prop := ∀ (i : Nat) (I H : Hp), (∀ a o, I0 a = some o → I a = some o) → (pb = true → ∀ a o, H0 a = some o → H a = some o) → (∀ a o, I a = some o → H a = some o) →
  (∀ d, ds[i]? = some d → J.go i H ∧ ∀ x H', J.yld i H x H' → ∃ I', Nw I H I' H' ∧ Rp G I' H' d x z0) ∧ (ds.length ≤ i → J.stop i H)
def tIB (G : Gm) (W : WX) (pb : Bool) (den : DenI) : TI := fun σ H Rd => ∃ I E vs f, Stt G σ I H E vs f ∧ Ans G W σ I H f vs (den E) fun r =>
  ∀ J I' H' f', Stt G σ I' H' r.2 vs f' → Fr false I H f I' H' f' → WalkB G pb I' H' J r.1 → Rd J H'
/-- over an owned list, as it stands -/
def iBor (d : Den) : DenI := fun E => (d E).bind fun r => match r.1 with
  | .plc i p => match getP r.2 i p with
    | some (.nd k ds) => if k.isLst && ds.all Fz then .ok (ds, r.2) else .bad
    | _ => .bad
  | .val _ => .bad
end
def wp (ws : List Nat) : List Opd := ws.map fun i => .plc i []
def noX {α : Type} : R α → R α
  | .ok a => .ok a
  | _ => .bad
def compL (dg : DenG) (dt : DenT) (de : Den) (ws : List Nat) : List D → List D → List D → R (List D × List D)
  | [], B, acc => .ok (acc, B)
  | d :: ds, B, acc => match dg d B with
    | none => .bad
    | some B1 => (noX (dt B1)).bind fun r => if r.1 then (noX (de r.2)).bind fun q => match q.1 with
        | .val c => if acc.length < 100000 then compL dg dt de ws ds (holes q.2 (wp ws)) (acc ++ [c]) else .bad
        | .plc _ _ => .bad
      else compL dg dt de ws ds (holes r.2 (wp ws)) acc
def dComp (di : DenI) (dg : DenG) (dt : DenT) (de : Den) (ws : List Nat) : Den := fun E => (di E).bind fun r => match conts r.2 (wp ws) with
  | some old => (compL dg dt de ws r.1 (holes r.2 (wp ws)) []).bind fun q => .ok (.val (.nd (.lst true) q.1), back q.2 (wp ws) old)
  | none => .bad
def dYes : DenT := fun E => .ok (true, E)
section
variable {G : Gm} {W : WX} {pu pb : Bool}
abbrev W0 : WX := fun _ _ _ _ => False
theorem t_yes : ∀ σ H Q, tT G W true dYes σ H Q → tYes σ H Q := by
  rintro σ H Q ⟨I, E, vs, f, s, h⟩
  exact h I H f s Fr.refl fun _ => rfl
theorem slots_wp : ∀ ws : List Nat, slotsOf (wp ws) = ws
  | [] => rfl
  | w :: ws => by show w :: slotsOf (wp ws) = _; rw [slots_wp ws]
theorem wp_nil {ws : List Nat} : ∀ i p, Opd.plc i p ∈ wp ws → p = [] := fun i p h => by
  unfold wp at h
  rw [List.mem_map] at h
  obtain ⟨j, _, e⟩ := h
  cases e; rfl
theorem wipe_other {σ : St} {j : Nat} : ∀ {ws : List Nat}, j ∉ ws → (wipe σ ws)[j]? = σ[j]?
  | [], _ => rfl
  | w :: ws, h => by
    simp only [List.mem_cons, not_or] at h
    unfold wipe
    rw [List.getElem?_set_ne (fun e => h.1 e.symm)]
    exact wipe_other h.2
theorem wipe_in {σ : St} {j : Nat} : ∀ {ws : List Nat}, j ∈ ws → j < σ.length → (wipe σ ws)[j]? = some none
  | w :: ws, h, hl => by
    unfold wipe
    by_cases e : w = j
    · subst e; rw [List.getElem?_set_self (by rw [wipe_length]; exact hl)]
    · rw [List.getElem?_set_ne e]
      exact wipe_in ((List.mem_cons.mp h).resolve_left fun q => e q.symm) hl
theorem wipe_eq {σ σ' : St} {ws : List Nat} (hl : σ'.length = σ.length) (h : ∀ j, j ∉ ws → σ'[j]? = (wipe σ ws)[j]?) : wipe σ' ws = wipe σ ws := by
  refine List.ext_getElem? fun j => ?_
  by_cases hj : j ∈ ws
  · by_cases hs : j < σ.length
    · rw [wipe_in hj (hl ▸ hs), wipe_in hj hs]
    · rw [List.getElem?_eq_none (by rw [wipe_length]; omega), List.getElem?_eq_none (by rw [wipe_length]; omega)]
  · rw [wipe_other hj, h j hj]
theorem Rps.revals {I H : Hp} : ∀ {ds : List D} {vs ws : List V} {f : Ft}, Rps G I H ds vs f → ws.length = vs.length → (∀ j : Nat, ds[j]? = some D.una ∨ ws[j]? = vs[j]?) → Rps G I H ds ws f
  | [], vs, ws, f, x, hl, h => by
    have : vs = [] := x.1
    subst this
    exact ⟨List.eq_nil_of_length_eq_zero hl, x.2⟩
  | d :: ds, vs, ws, f, x, hl, h => by
    obtain ⟨v, vr, g1, g2, rfl, y, z, q⟩ := x
    cases ws with
    | nil => simp at hl
    | cons w wr =>
      refine ⟨w, wr, g1, g2, rfl, ?_, z.revals (by simpa using hl) fun j => by simpa using h (j + 1), q⟩
      rcases h 0 with e | e
      · simp at e; subst e; exact y
      · simp at e; subst e; exact y
/-- names forgotten -/
theorem Stt.wipe {σ : St} {I H : Hp} {E old : List D} {vs : List V} {f : Ft} {ws : List Nat} (s : Stt G σ I H E vs f) (nd : ws.Nodup) (ec : conts E (wp ws) = some old) : ∃ wv gT h, Rps G I H old wv gT ∧ OpsRel G I H E vs (wp ws) wv z0 ∧ Stt G (L2.wipe σ ws) I H (holes E (wp ws)) vs h ∧ ∀ a, f a = gT a + h a := by
  have ops : ∀ {ws : List Nat} {old : List D}, conts E (wp ws) = some old → ∃ wv, OpsRel G I H E vs (wp ws) wv z0 := by
    intro ws
    induction ws with
    | nil => intro old e; exact ⟨[], rfl, fun _ => rfl⟩
    | cons w ws ih =>
      intro old e
      unfold wp at e
      rw [List.map_cons] at e
      unfold conts at e
      split at e
      · rename_i d ds' e1 e2
        obtain ⟨wv, o⟩ := ih e2
        have hl : w < vs.length := by rw [s.rp.len]; exact (List.getElem?_eq_some_iff.mp (show E[w]? = some d from e1)).1
        exact ⟨vs[w] :: wv, vs[w], wv, z0, z0, rfl, ⟨List.getElem?_eq_getElem hl, fun _ => rfl⟩, o, fun _ => rfl⟩
      · cases e
  obtain ⟨wv, o⟩ := ops ec
  obtain ⟨gT, h, t1, t2, t3⟩ := take_out s.rp o ec (by rw [slots_wp]; exact nd) wp_nil
  refine ⟨wv, gT, h, t1, o, ⟨⟨by rw [wipe_length, holes_len]; exact s.sl.1, fun i d v e n e2 => ?_⟩, s.sm, t2, fun a => by have t := t3 a; have := s.nd a; simp only [z0_at] at t; omega⟩, fun a => by have := t3 a; simpa using this⟩
  by_cases hi : i ∈ ws
  · by_cases hl : i < E.length
    · have := holes_hole (E := E) (os := wp ws) (i := i) (p := []) (by unfold wp; exact List.mem_map.mpr ⟨i, hi, rfl⟩) hl (by rw [slots_wp]; exact nd)
      rw [this] at e; cases e; exact absurd rfl n
    · rw [List.getElem?_eq_none (by rw [holes_len]; omega)] at e; cases e
  · rw [holes_other (by rw [slots_wp]; exact hi)] at e
    rw [wipe_other hi]
    exact s.sl.2 i d v e n e2
theorem conts_some {E : List D} : ∀ {ws : List Nat}, (∀ i ∈ ws, i < E.length) → ∃ old, conts E (wp ws) = some old
  | [], _ => ⟨[], rfl⟩
  | w :: ws, h => by
    obtain ⟨old, e⟩ := conts_some (ws := ws) fun i hi => h i (List.mem_cons_of_mem _ hi)
    have hw := h w List.mem_cons_self
    refine ⟨E[w] :: old, ?_⟩
    show conts E (.plc w [] :: wp ws) = _
    unfold conts
    have : cont E (.plc w []) = some E[w] := List.getElem?_eq_getElem hw
    rw [this, e]
theorem conts_lt {E : List D} : ∀ {ws : List Nat} {old : List D}, conts E (wp ws) = some old → ∀ i ∈ ws, i < E.length
  | [], old, e, i, h => by cases h
  | w :: ws, old, e, i, h => by
    have e' : conts E (.plc w [] :: wp ws) = some old := e
    unfold conts at e'
    split at e'
    · rename_i d ds' e1 e2
      rcases List.mem_cons.mp h with rfl | h
      · exact (List.getElem?_eq_some_iff.mp (show E[i]? = some d from e1)).1
      · exact conts_lt e2 i h
    · cases e'
/-- noX: what is left of a wish -/
theorem Ans.noX {α : Type} {σ : St} {I H : Hp} {f : Ft} {vs : List V} {W' : WX} {β : Type} {r : R α} {c : α → R β} {k : β → Prop} {k1 : α → Prop} (h : Ans G W σ I H f vs ((DL.noX r).bind c) k) {I1 H1 : Hp} {f1 : Ft} {vs1 : List V} {σ1 : St} (i : ∀ a, r = .ok a → Ans G W σ I H f vs (c a) k → k1 a) : Ans G W' σ1 I1 H1 f1 vs1 r k1 := by
  cases r with
  | ok a => exact i a rfl h
  | exc _ _ _ => exact h.elim
  | bad => exact h.elim
theorem t_comp {wi : TI} {g : TG} {tt : TT} {te : TE} {di : DenI} {dg : DenG} {dt : DenT} {de : Den} {A ws : List Nat} {pt pe : Bool} (hp : pb = true → pt = true ∧ pe = true) (hg : TgS G A g dg) (hA : ∀ j ∈ A, j ∈ ws) (nd : ws.Nodup) (h0 : ∀ σ H Q, tIB G W pb di σ H Q → wi σ H Q)
    (h1 : ∀ σ H Q, tT G W0 pt dt σ H Q → tt σ H Q) (h2 : ∀ σ H Q, tO G W0 pe de σ H Q → te σ H Q) : ∀ σ H Q, tO G W false (dComp di dg dt de ws) σ H Q → tLc wi g tt te ws σ H Q := by
  rintro σ H Q ⟨I, E, vs, f, s, hh⟩
  refine h0 _ _ _ ⟨I, E, vs, f, s, hh.fst fun r er h => ?_⟩
  intro J I1 H1 f1 s1 a1 wk Dl hD
  obtain ⟨items, E1⟩ := r
  have h : Ans G W σ I H f vs (match conts E1 (wp ws) with
    | some old => (compL dg dt de ws items (holes E1 (wp ws)) []).bind fun q => R.ok (Opd.val (.nd (.lst true) q.1), back q.2 (wp ws) old)
    | none => R.bad) _ := h
  split at h
  · rename_i old ec
    obtain ⟨wv, gT, hf, ro, oo, sw, qf⟩ := s1.wipe nd ec
    have hlE : ∀ {B : List D} {vs : List V}, vs.length = B.length → True := fun _ => trivial
    -- the invariant
    refine ⟨fun i m H' => ∃ I' B fB g acc av, m = items.length - i ∧ i ≤ items.length ∧ Stt G (L2.wipe σ ws) I' H' B vs fB ∧ Rps G I' H' acc av g ∧ H' Dl = some (.lst av) ∧ I' Dl = none ∧ (∀ a, fB a + g a + one1 Dl a + gT a ≤ 1) ∧ Rps G I' H' old wv gT ∧
        Fr false I1 H1 f1 I' H' (fadd (fadd (fadd fB g) (one1 Dl)) gT) ∧ (pb = true → ∀ a o, H1 a = some o → H' a = some o) ∧ (∀ j ∈ ws, B[j]? = some .una) ∧
        Ans G W σ I H f vs ((compL dg dt de ws (items.drop i) B acc).bind fun q => R.ok (Opd.val (.nd (.lst true) q.1), back q.2 (wp ws) old)) fun r => ∀ v I' H' f' g, Stt G σ I' H' r.2 vs f' → OpRel G I' H' r.2 vs r.1 v g → (∀ a, f' a + g a ≤ 1) → Fr false I H f I' H' (fadd f' g) → (false = true → r.2 = E) → Q v H',
      ⟨items.length, ?_⟩, ?_⟩
    · have ID : I1 Dl = none := by
        cases e : I1 Dl with
        | none => rfl
        | some o => rw [s1.sm _ _ e] at hD; cases hD
      have nw := Nw.mutP (o := .lst []) s1.sm hD
      have f0 := free_of s1.rp hD
      refine ⟨I1, _, hf, z0, [], [], by simp, Nat.zero_le _, sw.nw nw, ⟨rfl, fun _ => rfl⟩, upd_same, ID, fun a => ?_, nw.rps ro, nw.fr fun a z => ?_, fun _ a o e => nw.kp a o e, fun j hj => ?_, h⟩
      · by_cases q : a = Dl
        · subst q; have := qf a; simp [one1_self]; omega
        · have := qf a; have := s1.nd a; simp [one1_ne q]; omega
      · by_cases q : a = Dl
        · subst q; exact .inr hD
        · left; have := qf a; simp [one1_ne q] at z; omega
      · exact holes_hole (p := []) (by unfold wp; exact List.mem_map.mpr ⟨j, hj, rfl⟩) (conts_lt ec j hj) (by rw [slots_wp]; exact nd)
    · rintro i m H2 ⟨I2, B, fB, g, acc, av, rfl, hi, s2, ra, eD, iD, nn, ro2, fr2, kp2, un2, h⟩
      obtain ⟨wg, wst⟩ := wk i I2 H2 fr2.im kp2 s2.sm
      by_cases hl : i < items.length
      · have ed : items[i]? = some items[i] := List.getElem?_eq_getElem hl
        rw [List.drop_eq_getElem_cons hl] at h
        obtain ⟨go, yl⟩ := wg _ ed
        refine .inr ⟨go, fun H' => ∃ I' B fB g acc av, i + 1 ≤ items.length ∧ Stt G (L2.wipe σ ws) I' H' B vs fB ∧ Rps G I' H' acc av g ∧ H' Dl = some (.lst av) ∧ I' Dl = none ∧ (∀ a, fB a + g a + one1 Dl a + gT a ≤ 1) ∧ Rps G I' H' old wv gT ∧
          Fr false I1 H1 f1 I' H' (fadd (fadd (fadd fB g) (one1 Dl)) gT) ∧ (pb = true → ∀ a o, H1 a = some o → H' a = some o) ∧ (∀ j ∈ ws, B[j]? = some .una) ∧
          Ans G W σ I H f vs ((compL dg dt de ws (items.drop (i + 1)) B acc).bind fun q => R.ok (Opd.val (.nd (.lst true) q.1), back q.2 (wp ws) old)) fun r => ∀ v I' H' f' g, Stt G σ I' H' r.2 vs f' → OpRel G I' H' r.2 vs r.1 v g → (∀ a, f' a + g a ≤ 1) → Fr false I H f I' H' (fadd f' g) → (false = true → r.2 = E) → Q v H',
          fun H' ⟨I', B, fB, g, acc, av, a, b, c, d, e, f, k, l, m, n, o⟩ => ⟨items.length - (i + 1), by omega, I', B, fB, g, acc, av, rfl, a, b, c, d, e, f, k, l, m, n, o⟩, fun x H3 q => ?_⟩
        obtain ⟨I3, nw, y⟩ := yl x H3 q
        have h : Ans G W σ I H f vs ((match dg items[i] B with
          | none => R.bad
          | some B1 => (DL.noX (dt B1)).bind fun r => if r.1 then (DL.noX (de r.2)).bind fun q => match q.1 with
              | .val c => if acc.length < 100000 then compL dg dt de ws (items.drop (i + 1)) (holes q.2 (wp ws)) (acc ++ [c]) else R.bad
              | .plc _ _ => R.bad
            else compL dg dt de ws (items.drop (i + 1)) (holes r.2 (wp ws)) acc).bind fun q => R.ok (Opd.val (.nd (.lst true) q.1), back q.2 (wp ws) old)) _ := h
        cases eB : dg items[i] B with
        | none => rw [eB] at h; exact h.elim
        | some B1 =>
          rw [eB] at h
          have s3 := s2.nw nw
          refine hg _ x _ I3 H3 B B1 vs fB z0 _ s3 y (fun a => by simp; exact s3.nd a) eB fun σ4 vs4 f4 s4 ag4 le4 sg4 => ?_
          have wσ : L2.wipe σ4 ws = L2.wipe σ ws := wipe_eq (by rw [sg4.2, wipe_length]) fun j hj => sg4.1 j fun q => hj (hA j q)
          have hlv : vs4.length = vs.length := by rw [s4.rp.len, ← s4.sl.1, sg4.2, s3.sl.1, s3.rp.len]
          have lt4 : ∀ {B' : List D} {I' H' : Hp} {f' : Ft}, Stt G σ4 I' H' B' vs4 f' → ∃ old', conts B' (wp ws) = some old' := fun {B' I' H' f'} s' => conts_some fun j hj => by
            have := conts_lt ec j hj
            have e1 := s'.sl.1
            have e2 : σ.length = E1.length := s1.sl.1
            have e3 := sg4.2
            rw [wipe_length] at e3
            omega
          -- a state of the turn, its names forgotten
          have back0 : ∀ {B' : List D} {I' H' : Hp} {f' : Ft}, Stt G σ4 I' H' B' vs4 f' → ∃ h', Stt G (L2.wipe σ ws) I' H' (holes B' (wp ws)) vs h' ∧ (∀ a, h' a ≤ f' a) ∧ ∀ j ∈ ws, (holes B' (wp ws))[j]? = some .una := fun {B' I' H' f'} s' => by
            obtain ⟨old', eo⟩ := lt4 s'
            obtain ⟨wv', gT', h', r1, r2, r3, r4⟩ := s'.wipe nd eo
            rw [wσ] at r3
            have un : ∀ j ∈ ws, (holes B' (wp ws))[j]? = some .una := fun j hj => holes_hole (p := []) (by unfold wp; exact List.mem_map.mpr ⟨j, hj, rfl⟩) (conts_lt eo j hj) (by rw [slots_wp]; exact nd)
            have rv : Rps G I' H' (holes B' (wp ws)) vs h' := r3.rp.revals hlv.symm fun j => by
              by_cases hj : j ∈ ws
              · exact .inl (un j hj)
              · exact .inr (ag4 j fun q => hj (hA j q)).symm
            exact ⟨h', ⟨⟨r3.sl.1, fun j d v e n ev => by
              by_cases hj : j ∈ ws
              · rw [un j hj] at e; cases e; exact absurd rfl n
              · exact r3.sl.2 j d v e n (by rw [ag4 j fun q => hj (hA j q)]; exact ev)⟩, r3.sm, rv, r3.nd⟩, fun a => by have := r4 a; omega, un⟩
          have n4 : ∀ a, f4 a + g a + one1 Dl a + gT a ≤ 1 := fun a => by have := nn a; have l4 := le4 a; simp only [z0_at] at l4; omega
          have f4D : f4 Dl = 0 := by have := n4 Dl; rw [one1_self] at this; omega
          have fr3 : Fr false I1 H1 f1 I3 H3 (fadd (fadd (fadd f4 g) (one1 Dl)) gT) := ((fr2.trans (nw.fr (f := fadd (fadd (fadd fB g) (one1 Dl)) gT) (g := fadd (fadd (fadd f4 g) (one1 Dl)) gT) (pu := false) fun a z => .inl (by have l4 := le4 a; simp only [z0_at, fadd_at] at l4 z ⊢; omega)))).imp fun z => by cases z
          have kp3 : pb = true → ∀ a o, H1 a = some o → H3 a = some o := fun hb a o e => nw.kp _ _ (kp2 hb a o e)
          -- what lies beside, over a part of the turn
          have side : ∀ {p : Bool} {I5 H5 : Hp} {f5 : Ft}, Fr p I3 H3 f4 I5 H5 f5 → (∀ a, f5 a ≤ 1) → Rps G I5 H5 acc av g ∧ H5 Dl = some (.lst av) ∧ I5 Dl = none ∧ (∀ a, f5 a + g a + one1 Dl a + gT a ≤ 1) ∧ Rps G I5 H5 old wv gT ∧ Fr false I1 H1 f1 I5 H5 (fadd (fadd (fadd f5 g) (one1 Dl)) gT) := fun {p I5 H5 f5} a5 n5 => by
            have ra3 := nw.rps ra
            have ro3 := nw.rps ro2
            have eD3 := nw.kp _ _ eD
            have iD3 := nw.un _ _ eD iD
            have ap := a5.apart (g := fadd (fadd g (one1 Dl)) gT) (fun a z => by
              by_cases q1 : g a = 0
              · by_cases q2 : gT a = 0
                · have : a = Dl := Classical.byContradiction fun q => z (by simp [q1, q2, one1_ne q])
                  subst this; rw [eD3]; simp
                · obtain ⟨_, o, e⟩ := ro3.trk a q2; rw [e]; simp
              · obtain ⟨_, o, e⟩ := ra3.trk a q1; rw [e]; simp) (fun a => by have := n4 a; simp; omega) n5
            refine ⟨a5.side ra3 fun a => by have := n4 a; omega, a5.kp _ _ eD3 f4D, a5.un _ _ eD3 f4D iD3, fun a => by have := ap a; simp at this; omega, a5.side ro3 fun a => by have := n4 a; omega, ?_⟩
            have w := a5.with (g := fadd (fadd g (one1 Dl)) gT)
            exact ((fr3.less (f2 := fadd f4 (fadd (fadd g (one1 Dl)) gT)) fun a z => by simp at z ⊢; omega).trans w).less (fun a z => by simp at z ⊢; omega) |>.imp fun z => by cases z
          refine ⟨wσ.trans (by rfl), h1 _ _ _ ⟨I3, B1, vs4, f4, s4, ?_⟩⟩
          have hX : Ans G W σ I H f vs ((DL.noX (dt B1)).bind fun r => (if r.1 then (DL.noX (de r.2)).bind fun q => match q.1 with
              | .val c => if acc.length < 100000 then compL dg dt de ws (items.drop (i + 1)) (holes q.2 (wp ws)) (acc ++ [c]) else R.bad
              | .plc _ _ => R.bad
            else compL dg dt de ws (items.drop (i + 1)) (holes r.2 (wp ws)) acc).bind fun q => R.ok (Opd.val (.nd (.lst true) q.1), back q.2 (wp ws) old)) fun r => ∀ v I' H' f' g, Stt G σ I' H' r.2 vs f' → OpRel G I' H' r.2 vs r.1 v g → (∀ a, f' a + g a ≤ 1) → Fr false I H f I' H' (fadd f' g) → (false = true → r.2 = E) → Q v H' := by
            have h : Ans G W σ I H f vs (((DL.noX (dt B1)).bind fun r => if r.1 then (DL.noX (de r.2)).bind fun q => match q.1 with
                | .val c => if acc.length < 100000 then compL dg dt de ws (items.drop (i + 1)) (holes q.2 (wp ws)) (acc ++ [c]) else R.bad
                | .plc _ _ => R.bad
              else compL dg dt de ws (items.drop (i + 1)) (holes r.2 (wp ws)) acc).bind fun q => R.ok (Opd.val (.nd (.lst true) q.1), back q.2 (wp ws) old)) _ := h
            cases edt : dt B1 with
            | ok r => rw [edt] at h; exact h
            | exc _ _ _ => rw [edt] at h; exact h.elim
            | bad => rw [edt] at h; exact h.elim
          refine hX.noX fun r er h => ?_
          intro I5 H5 f5 s5 a5 e5
          obtain ⟨b, B2⟩ := r
          cases b with
          | false =>
            obtain ⟨ra5, eD5, iD5, nn5, ro5, fr5⟩ := side a5 s5.nd
            obtain ⟨h', s6, le6, un6⟩ := back0 s5
            exact ⟨I5, _, h', g, acc, av, hl, s6, ra5, eD5, iD5, fun a => by have := nn5 a; have := le6 a; omega, ro5, fr5.less fun a z => by have := le6 a; simp at z ⊢; omega, fun hb a o e => (a5.pu (hp hb).1 a o (kp3 hb a o e)).1, un6, h⟩
          | true =>
            show te σ4 H5 _
            have hY : Ans G W σ I H f vs ((DL.noX (de B2)).bind fun q => (match q.1 with
              | .val c => if acc.length < 100000 then compL dg dt de ws (items.drop (i + 1)) (holes q.2 (wp ws)) (acc ++ [c]) else R.bad
              | .plc _ _ => R.bad).bind fun q => R.ok (Opd.val (.nd (.lst true) q.1), back q.2 (wp ws) old)) fun r => ∀ v I' H' f' g, Stt G σ I' H' r.2 vs f' → OpRel G I' H' r.2 vs r.1 v g → (∀ a, f' a + g a ≤ 1) → Fr false I H f I' H' (fadd f' g) → (false = true → r.2 = E) → Q v H' := by
              have h : Ans G W σ I H f vs (((DL.noX (de B2)).bind fun q => match q.1 with
                | .val c => if acc.length < 100000 then compL dg dt de ws (items.drop (i + 1)) (holes q.2 (wp ws)) (acc ++ [c]) else R.bad
                | .plc _ _ => R.bad).bind fun q => R.ok (Opd.val (.nd (.lst true) q.1), back q.2 (wp ws) old)) _ := h
              cases ede : de B2 with
              | ok r => rw [ede] at h; exact h
              | exc _ _ _ => rw [ede] at h; exact h.elim
              | bad => rw [ede] at h; exact h.elim
            refine h2 _ _ _ ⟨I5, B2, vs4, f5, s5, hY.noX fun q eq h => ?_⟩
            intro v I6 H6 f6 g6 s6 o6 n6 a6 e6
            obtain ⟨o, B3⟩ := q
            cases o with
            | plc _ _ => exact h.elim
            | val c =>
              have h : Ans G W σ I H f vs ((if acc.length < 100000 then compL dg dt de ws (items.drop (i + 1)) (holes B3 (wp ws)) (acc ++ [c]) else R.bad).bind fun q => R.ok (Opd.val (.nd (.lst true) q.1), back q.2 (wp ws) old)) _ := h
              by_cases hlen : acc.length < 100000
              · rw [if_pos hlen] at h
                obtain ⟨ra6, eD6, iD6, nn6, ro6, fr6⟩ := side (a5.trans a6) n6
                obtain ⟨h', s7, le7, un7⟩ := back0 s6
                refine ⟨av, eD6, by rw [ra6.len]; exact line5' hlen, ?_⟩
                have D0 : ∀ {x : Nat}, x + 1 ≤ 1 → x = 0 := fun {x} h => by omega
                have f6D : f6 Dl = 0 ∧ g6 Dl = 0 ∧ g Dl = 0 ∧ gT Dl = 0 := by have := nn6 Dl; rw [one1_self] at this; simp at this; omega
                have h'D : h' Dl = 0 := by have := le7 Dl; omega
                refine ⟨I6, _, h', fadd g g6, acc ++ [c], av ++ [v], hl, ⟨s7.sl, fun a o e => ?_, s7.rp.beside h'D, s7.nd⟩, (ra6.beside f6D.2.2.1).app (Rps.one (Rp.beside (show Rp G I6 H6 c v g6 from o6) f6D.2.1)), upd_same, iD6, fun a => ?_, ro6.beside f6D.2.2.2, ?_, fun hb a o e => ?_, un7, h⟩
                · have : a ≠ Dl := by rintro rfl; rw [iD6] at e; cases e
                  rw [upd_ne this]; exact s7.sm a o e
                · have t1 := nn6 a; have t2 := le7 a; simp only [fadd_at] at t1 ⊢; omega
                · have w : Fr false I6 H6 (fadd (fadd (fadd (fadd f6 g6) g) (one1 Dl)) gT) I6 (upd H6 Dl (.lst (av ++ [v]))) (fadd (fadd (fadd h' (fadd g g6)) (one1 Dl)) gT) := Fr.wrote (by simp [one1_self]) fun a z => by have := le7 a; simp at z ⊢; omega
                  exact (fr6.trans w).imp fun z => by cases z
                · have q1 := (a5.pu (hp hb).1 a o (kp3 hb a o e)).1
                  have q2 := (a6.pu (hp hb).2 a o q1).1
                  have : a ≠ Dl := by rintro rfl; rw [hD] at e; cases e
                  rw [upd_ne this]; exact q2
              · rw [if_neg hlen] at h; exact h.elim
      · have e : i = items.length := by omega
        subst e
        refine .inl ⟨wst (Nat.le_refl _), ?_⟩
        rw [List.drop_length] at h
        have h : ∀ v I' H' f' g, Stt G σ I' H' (back B (wp ws) old) vs f' → OpRel G I' H' (back B (wp ws) old) vs (.val (.nd (.lst true) acc)) v g → (∀ a, f' a + g a ≤ 1) → Fr false I H f I' H' (fadd f' g) → (false = true → back B (wp ws) old = E) → Q v H' := h
        obtain ⟨f3, r3, le3, ot3⟩ := put_back s2.rp (os := wp ws) (E := B) rfl (fun i p hm => ⟨wp_nil i p hm, un2 i (by
          unfold wp at hm
          rw [List.mem_map] at hm
          obtain ⟨j, hj, e⟩ := hm
          cases e; exact hj)⟩) (by rw [slots_wp]; exact nd) ⟨I1, H1, E1, z0, oo⟩ ro2
        have rD : Rp G I2 H2 (.nd (.lst true) acc) (.ref Dl) (fadd g (one1 Dl)) := ⟨Dl, av, g, _, rfl, rfl, ra, .inl ⟨rfl, iD, eD, fun _ => rfl⟩⟩
        refine h (.ref Dl) I2 H2 f3 (fadd g (one1 Dl)) ⟨⟨?_, fun j d v e n ev => ?_⟩, s2.sm, r3, fun a => by have := le3 a; have := nn a; omega⟩ rD (fun a => by have := le3 a; have := nn a; simp; omega) ?_ fun z => by cases z
        · rw [back_len, s1.sl.1, ← holes_len E1 (wp ws), ← sw.sl.1, s2.sl.1]
        · by_cases hj : j ∈ ws
          · have e' : (back E1 (wp ws) old)[j]? = some d := by
              rw [← e]
              have main : ∀ {os : List Opd} {E F : List D} {ds : List D}, ds.length = os.length → E.length = F.length → j ∈ slotsOf os → (back E os ds)[j]? = (back F os ds)[j]? := by
                intro os
                induction os with
                | nil => intro E F ds _ _ h; cases h
                | cons o os ih =>
                  intro E F ds hl hn h
                  cases ds with
                  | nil => simp at hl
                  | cons d ds =>
                    cases o with
                    | val c => exact ih (by simpa using hl) hn h
                    | plc k p =>
                      show ((back E os ds).set k d)[j]? = ((back F os ds).set k d)[j]?
                      by_cases hk : k = j
                      · subst hk
                        by_cases hi : k < E.length
                        · rw [List.getElem?_set_self (by rw [back_len]; exact hi), List.getElem?_set_self (by rw [back_len]; omega)]
                        · rw [List.getElem?_eq_none (by simp [back_len]; omega), List.getElem?_eq_none (by simp [back_len]; omega)]
                      · rw [List.getElem?_set_ne hk, List.getElem?_set_ne hk]
                        exact ih (by simpa using hl) hn ((List.mem_cons.mp h).resolve_left fun q => hk q.symm)
              exact main (conts_len ec) (by rw [← holes_len E1 (wp ws), ← sw.sl.1, s2.sl.1]) (by rw [slots_wp]; exact hj)
            have same : back E1 (wp ws) old = E1 := by
              have main : ∀ {ws : List Nat} {old : List D}, conts E1 (wp ws) = some old → back E1 (wp ws) old = E1 := by
                intro ws
                induction ws with
                | nil => intro old e; cases e; rfl
                | cons w ws ih =>
                  intro old e
                  have e' : conts E1 (.plc w [] :: wp ws) = some old := e
                  unfold conts at e'
                  split at e'
                  · rename_i d ds' e1 e2
                    cases e'
                    show (back E1 (wp ws) ds').set w d = E1
                    rw [ih e2]
                    exact set_self e1
                  · cases e'
              exact main ec
            rw [same] at e'
            exact s1.sl.2 j d v e' n ev
          · rw [back_other (by rw [slots_wp]; exact hj)] at e
            have := s2.sl.2 j d v e n ev
            rw [wipe_other hj] at this
            exact this
        · exact ((a1.trans fr2).less (f2 := fadd f3 (fadd g (one1 Dl))) fun a z => by have := le3 a; simp at z ⊢; omega).imp fun z => by cases z
  · exact h.elim
end
end DL
end
section
set_option maxRecDepth 100000
namespace DL
open PySem L2
def rSlX (K : PySem.W.Frag) : V → Option Int → Option Int → Hp → VK → Prop := fun x lo hi H Q => rSlL K x lo hi H Q ∨ (rSlA K x lo hi H Q ∨ rSlS x lo hi H Q)
theorem sl_X {X : Cx} : SlR X (rSlX X.K) := sl_list.or (sl_tupA.or sl_str)
def cutD {α : Type} (xs : List α) (lo hi : Option Int) : List α := (xs.drop (HT.sIx xs.length 0 lo)).take (HT.sIx xs.length xs.length hi - HT.sIx xs.length 0 lo)
def fSl (x : D) (lo hi : Option Int) : Option D := match x with
  | .nd (.lst _) ds => if Fzs ds then some (.nd (.lst true) (cutD ds lo hi)) else none
  | .nd .tup ds => if Fzs ds then some (.nd .tup (cutD ds lo hi)) else none
  | .sc (.str z) => if z.length ≤ 100000 then some (.sc (.str (cutS z lo hi))) else none
  | _ => none
theorem Rps.drop {G : Gm} {I H : Hp} : ∀ {n : Nat} {ds : List D} {ws : List V}, Rps G I H ds ws z0 → Rps G I H (ds.drop n) (ws.drop n) z0
  | 0, ds, ws, x => x
  | n + 1, [], ws, x => by rw [x.1]; exact ⟨rfl, fun _ => rfl⟩
  | n + 1, d :: ds, ws, x => by
    obtain ⟨v, vr, g1, g2, rfl, y, z, q⟩ := x
    exact Rps.drop (n := n) (z.eqv fun a => by have := q a; simp at this ⊢; omega)
theorem Rps.take {G : Gm} {I H : Hp} : ∀ {n : Nat} {ds : List D} {ws : List V}, Rps G I H ds ws z0 → Rps G I H (ds.take n) (ws.take n) z0
  | 0, ds, ws, x => ⟨rfl, fun _ => rfl⟩
  | n + 1, [], ws, x => by rw [x.1]; exact ⟨rfl, fun _ => rfl⟩
  | n + 1, d :: ds, ws, x => by
    obtain ⟨v, vr, g1, g2, rfl, y, z, q⟩ := x
    exact ⟨v, _, z0, z0, rfl, y.eqv fun a => by have := q a; simp at this ⊢; omega, Rps.take (n := n) (z.eqv fun a => by have := q a; simp at this ⊢; omega), fun _ => rfl⟩
theorem Rps.cut {G : Gm} {I H : Hp} {ds : List D} {ws : List V} {lo hi : Option Int} (x : Rps G I H ds ws z0) : Rps G I H (cutD ds lo hi) (cutV ws lo hi) z0 := by
  unfold cutD cutV
  rw [x.len]
  exact Rps.take (Rps.drop x)
theorem sl_ok {G : Gm} {I H : Hp} {K : PySem.W.Frag} {x d : D} {v : V} {g : Ft} {lo hi : Option Int} {Q : VK} (sm : ∀ a o, I a = some o → H a = some o) (r : Rp G I H x v g) (e : fSl x lo hi = some d) (k : Fin1 G I H d Q) : rSlX K v lo hi H Q := by
  unfold fSl at e
  split at e
  · rename_i m ds
    split at e
    · rename_i h
      cases e
      rw [Fzs_all] at h
      obtain ⟨p, ws, g, o, rfl, st, e0, y, l⟩ := r.node sm
      cases st
      exact .inl ⟨p, ws, rfl, SqL.of e0, fun q hq => fin_lst sm (y.cold h).cut hq k⟩
    · cases e
  · rename_i ds
    split at e
    · rename_i h
      cases e
      rw [Fzs_all] at h
      have hz : Fz (.nd .tup ds) = true := by show (!Kd.tup.mut && Fzs ds) = true; rw [Fzs_all]; simp [Kd.mut, h]
      have r0 := r.fz0 hz
      obtain ⟨p, ws, g, o, rfl, st, e0, y, l⟩ := r.node sm
      cases st
      refine .inr (.inl ⟨p, ws, rfl, SqT.of e0, fun hw => ?_, fun _ q hq => fin_tup sm (y.cold h).cut hq k⟩)
      have : cutD ds lo hi = ds := by
        unfold cutD
        rw [← l, hw.1, hw.2]
        rw [List.drop_zero, Nat.sub_zero, l]
        exact List.take_length
      rw [this] at k
      exact fin_same sm r0 k
    · cases e
  · rename_i z
    split at e
    · rename_i h
      cases e
      obtain ⟨rfl, _⟩ := r
      exact .inr (.inr ⟨z, rfl, line5 h, fin_sc sm k⟩)
    · cases e
  · cases e
/-- a part of a slice: none, or a number -/
abbrev DenP := List D → R (Option Int × List D)
def pNo : DenP := fun E => .ok (none, E)
def pAt (d : Den) : DenP := fun E => (d E).bind fun r => match r.1 with
  | .val (.sc (.int i)) => .ok (some i, r.2)
  | _ => .bad
def tP (G : Gm) (W : WX) (pu : Bool) (den : DenP) : TO := fun σ H Q => ∃ I E vs f, Stt G σ I H E vs f ∧ Ans G W σ I H f vs (den E) fun r => ∀ I' H' f', Stt G σ I' H' r.2 vs f' → Fr pu I H f I' H' f' → (pu = true → r.2 = E) → Q r.1 H'
def dSl (pu : Bool) (d : Den) (lo hi : DenP) : Den := fun E => (d E).bind fun r => if stab pu r.1 then (lo r.2).bind fun p => (hi p.2).bind fun q => match cont q.2 r.1 with
    | some x => match fSl x p.1 q.1 with
      | some d => .ok (.val d, q.2)
      | none => .bad
    | none => .bad
  else .bad
section
variable {G : Gm} {W : WX} {p0 p1 p2 : Bool} {te : TE} {d : Den} {tl th : TO} {lo hi : DenP}
theorem t_pno : ∀ σ H Q, tP G W true pNo σ H Q → tNoPart σ H Q := by
  rintro σ H Q ⟨I, E, vs, f, s, h⟩
  exact h I H f s Fr.refl fun _ => rfl
theorem t_pat (h0 : ∀ σ H Q, tO G W p0 d σ H Q → te σ H Q) : ∀ σ H Q, tP G W p0 (pAt d) σ H Q → tPart te σ H Q := by
  rintro σ H Q ⟨I, E, vs, f, s, hh⟩
  refine h0 _ _ _ ⟨I, E, vs, f, s, hh.fst fun r er h => ?_⟩
  intro v I1 H1 f1 g1 s1 o1 n1 a1 e1
  obtain ⟨o, E1⟩ := r
  cases o with
  | plc _ _ => exact h.elim
  | val c =>
    cases c with
    | sc x =>
      cases x with
      | int i =>
        obtain ⟨rfl, _⟩ := o1
        exact ⟨i, rfl, h I1 H1 f1 s1 (a1.less fun x z => by simp; omega) e1⟩
      | _ => exact h.elim
    | _ => exact h.elim
theorem t_sl {K : PySem.W.Frag} (h0 : ∀ σ H Q, tO G W p0 d σ H Q → te σ H Q) (h1 : ∀ σ H Q, tP G W p1 lo σ H Q → tl σ H Q) (h2 : ∀ σ H Q, tP G W p2 hi σ H Q → th σ H Q) : ∀ σ H Q, tO G W (p0 && (p1 && p2)) (dSl (p1 && p2) d lo hi) σ H Q → tSl (rSlX K) te tl th σ H Q := by
  rintro σ H Q ⟨I, E, vs, f, s, hh⟩
  refine h0 _ _ _ ⟨I, E, vs, f, s, hh.fst fun r er h => ?_⟩
  intro v I1 H1 f1 g1 s1 o1 n1 a1 e1
  split at h
  · rename_i st
    have a1' : Fr p0 I H f I1 H1 f1 := a1.less fun x z => by simp; omega
    refine h1 _ _ _ ⟨I1, r.2, vs, f1, s1, (h.fwd a1').fst fun p ep _ => ?_⟩
    rw [ep] at h
    have h : Ans G W σ I H f vs ((hi p.2).bind fun q => match cont q.2 r.1 with
        | some x => match fSl x p.1 q.1 with
          | some d => R.ok (Opd.val d, q.2)
          | none => R.bad
        | none => R.bad) _ := h
    intro I2 H2 f2 s2 a2 e2
    refine h2 _ _ _ ⟨I2, p.2, vs, f2, s2, (h.fwd (a1'.trans a2)).fst fun q eq _ => ?_⟩
    rw [eq] at h
    intro I3 H3 f3 s3 a3 e3
    have a23 := a2.trans a3
    have o3 := o1.keep st (E1 := q.2) a23 n1 fun z => by simp only [Bool.and_eq_true] at z; rw [e3 z.2, e2 z.1]
    have n3 := a23.apart (g := g1) o1.trk n1 (fun x => s3.nd x)
    have h : Ans G W σ I H f vs (match cont q.2 r.1 with
        | some x => match fSl x p.1 q.1 with
          | some d => R.ok (Opd.val d, q.2)
          | none => R.bad
        | none => R.bad) _ := h
    split at h
    · rename_i x ex
      split at h
      · rename_i dd ed
        obtain ⟨g', y, _⟩ := o3.cont s3 (fun a => by have := n3 a; omega) ex
        refine sl_ok s3.sm y ed fun v4 I4 H4 g4 nw y4 n4 fr4 => ?_
        refine h v4 I4 H4 f3 g4 (s3.nw nw) y4 (fun a => ?_) ?_ fun z => ?_
        · by_cases z : g4 a = 0
          · have := s3.nd a; omega
          · have z1 : f3 a = 0 := by
              by_cases z2 : f3 a = 0
              · exact z2
              · obtain ⟨_, o, e⟩ := s3.rp.trk a z2
                rw [fr4 a z] at e; cases e
            have := n4 a; omega
        · have b : Fr true I3 H3 f3 I4 H4 (fadd f3 g4) := nw.fr fun a z => by
            by_cases z2 : g4 a = 0
            · left; simp at z; omega
            · right; exact fr4 a z2
          exact ((a1'.trans a23).trans b).imp fun z => by simp at z ⊢; exact z
        · simp only [Bool.and_eq_true] at z
          rw [e3 z.2.2, e2 z.2.1, e1 z.1]
      · exact h.elim
    · exact h.elim
  · exact h.elim
end
def dChain (F1 F2 : List D → Option D) (pu2 pu3 : Bool) (d1 d2 d3 : Den) : Den := fun E => (d1 E).bind fun r1 => if stab pu2 r1.1 then (d2 r1.2).bind fun r2 => match conts r2.2 [r1.1, r2.1] with
    | some ds => match F1 ds with
      | some (.sc (.bl true)) => if stab pu3 r2.1 then (d3 r2.2).bind fun r3 => match conts r3.2 [r2.1, r3.1] with
          | some es => match F2 es with
            | some c => .ok (.val c, r3.2)
            | none => .bad
          | none => .bad
        else .bad
      | some (.sc (.bl false)) => .ok (.val (.sc (.bl false)), r2.2)
      | _ => .bad
    | none => .bad
  else .bad
section
variable {G : Gm} {W : WX} {p1 p2 p3 : Bool} {d1 d2 d3 : Den} {ta tb tc : TE} {r r' : R2} {F1 F2 : List D → Option D}
/-- scalar answers alone -/
def OpB (G : Gm) (r : R2) (F : List D → Option D) : Prop := ∀ (I H : Hp) (x y : D) (v w : V) (g h : Ft) (b : Bool), (∀ a o, I a = some o → H a = some o) → Rp G I H x v g → (∀ a, g a ≤ 1) → Rp G I H y w h → (∀ a, h a ≤ 1) → F [x, y] = some (.sc (.bl b)) → ∀ Q : VK, Q (.bl b) H → r v w H Q
theorem ob_cmp {g : Int → Int → Bool} {h : List Nat → List Nat → Bool} : OpB G (rCmpX g h) (fCmp g h) := by
  intro I H x y v w g1 g2 b sm r1 _ r2 _ e Q q
  unfold fCmp at e
  split at e
  · rename_i i j hh
    simp only [List.cons.injEq, and_true] at hh
    obtain ⟨rfl, rfl⟩ := hh
    cases e
    obtain ⟨rfl, _⟩ := r1
    obtain ⟨rfl, _⟩ := r2
    exact .inl ⟨i, j, rfl, rfl, q⟩
  · rename_i i j hh
    simp only [List.cons.injEq, and_true] at hh
    obtain ⟨rfl, rfl⟩ := hh
    cases e
    obtain ⟨rfl, _⟩ := r1
    obtain ⟨rfl, _⟩ := r2
    exact .inr ⟨i, j, rfl, rfl, q⟩
  · cases e
theorem t_chain (hr : OpB G r F1) (hr' : OpB G r' F2) (hF2 : ∀ es c, F2 es = some c → ∃ b, c = .sc (.bl b)) (h1 : ∀ σ H Q, tO G W p1 d1 σ H Q → ta σ H Q) (h2 : ∀ σ H Q, tO G W p2 d2 σ H Q → tb σ H Q) (h3 : ∀ σ H Q, tO G W p3 d3 σ H Q → tc σ H Q) :
    ∀ σ H Q, tO G W (p1 && (p2 && p3)) (dChain F1 F2 p2 p3 d1 d2 d3) σ H Q → tChain r r' ta tb tc σ H Q := by
  rintro σ H Q ⟨I, E, vs, f, s, hh⟩
  refine h1 _ _ _ ⟨I, E, vs, f, s, hh.fst fun x ex h => ?_⟩
  intro v I1 H1 f1 g1 s1 o1 n1 a1 e1
  split at h
  · rename_i st
    have a1' : Fr p1 I H f I1 H1 f1 := a1.less fun x z => by simp; omega
    refine h2 _ _ _ ⟨I1, x.2, vs, f1, s1, (h.fwd a1').fst fun y ey _ => ?_⟩
    rw [ey] at h
    intro w I2 H2 f2 g2 s2 o2 n2 a2 e2
    have o1' := o1.keep st (E1 := y.2) a2 n1 e2
    have n3 := a2.apart (g := g1) o1.trk n1 (fun x => by have := n2 x; simpa using this)
    have a2' : Fr p2 I1 H1 f1 I2 H2 f2 := a2.less fun x z => by simp; omega
    have h : Ans G W σ I H f vs (match conts y.2 [x.1, y.1] with
      | some ds => match F1 ds with
        | some (.sc (.bl true)) => if stab p3 y.1 then (d3 y.2).bind fun r3 => match conts r3.2 [y.1, r3.1] with
            | some es => match F2 es with
              | some c => R.ok (Opd.val c, r3.2)
              | none => R.bad
            | none => R.bad
          else R.bad
        | some (.sc (.bl false)) => R.ok (Opd.val (.sc (.bl false)), y.2)
        | _ => R.bad
      | none => R.bad) _ := h
    split at h
    · rename_i ds ed
      have two : ∃ c1 c2, cont y.2 x.1 = some c1 ∧ cont y.2 y.1 = some c2 ∧ ds = [c1, c2] := by
        unfold conts at ed
        split at ed
        · rename_i c1 ds1 q1 q2
          unfold conts at q2
          split at q2
          · rename_i c2 ds2 q3 q4
            cases q4; cases q2; cases ed
            exact ⟨c1, c2, q1, q3, rfl⟩
          · cases q2
        · cases ed
      obtain ⟨c1, c2, q1, q2, rfl⟩ := two
      have n1' : ∀ a, g1 a ≤ 1 := fun a => by have := n1 a; omega
      have n2' : ∀ a, g2 a ≤ 1 := fun a => by have := n2 a; omega
      obtain ⟨g1', y1, m1⟩ := o1'.cont s2 n1' q1
      obtain ⟨g2', y2, m2⟩ := o2.cont s2 n2' q2
      split at h
      · rename_i eF
        refine hr I2 H2 c1 c2 v w g1' g2' true s2.sm y1 m1 y2 m2 eF _ ⟨true, rfl, ?_⟩
        show tc σ H2 _
        split at h
        · rename_i st3
          refine h3 _ _ _ ⟨I2, y.2, vs, f2, s2, (h.fwd (a1'.trans a2')).fst fun z ez _ => ?_⟩
          rw [ez] at h
          intro u I3 H3 f3 g3 s3 o3 n3' a3 e3
          have o2' := o2.keep st3 (E1 := z.2) a3 n2 e3
          have h : Ans G W σ I H f vs (match conts z.2 [y.1, z.1] with
            | some es => match F2 es with
              | some c => R.ok (Opd.val c, z.2)
              | none => R.bad
            | none => R.bad) _ := h
          split at h
          · rename_i es ees
            have two2 : ∃ c1 c2, cont z.2 y.1 = some c1 ∧ cont z.2 z.1 = some c2 ∧ es = [c1, c2] := by
              unfold conts at ees
              split at ees
              · rename_i c1 ds1 q1 q2
                unfold conts at q2
                split at q2
                · rename_i c2 ds2 q3 q4
                  cases q4; cases q2; cases ees
                  exact ⟨c1, c2, q1, q3, rfl⟩
                · cases q2
              · cases ees
            obtain ⟨c3, c4, q3, q4, rfl⟩ := two2
            split at h
            · rename_i c ec
              obtain ⟨b, rfl⟩ := hF2 _ _ ec
              obtain ⟨g3', y3, m3⟩ := o2'.cont s3 n2' q3
              obtain ⟨g4', y4, m4⟩ := o3.cont s3 (fun a => by have := n3' a; omega) q4
              refine hr' I3 H3 c3 c4 w u g3' g4' b s3.sm y3 m3 y4 m4 ec Q ?_
              have fr := (a1'.trans a2').trans (a3.less (f2 := f3) fun x z => by simp; omega)
              refine h (.bl b) I3 H3 f3 z0 s3 ⟨rfl, fun _ => rfl⟩ (fun a => by simp; exact s3.nd a) ((fr.less fun x z => by simpa using z).imp fun z => by simp at z ⊢; exact ⟨⟨z.1, z.2.1⟩, z.2.2⟩) fun z => ?_
              simp only [Bool.and_eq_true] at z
              rw [e3 z.2.2, e2 z.2.1, e1 z.1]
            · exact h.elim
          · exact h.elim
        · exact h.elim
      · rename_i eF
        refine hr I2 H2 c1 c2 v w g1' g2' false s2.sm y1 m1 y2 m2 eF _ ⟨false, rfl, ?_⟩
        show Q (.bl false) H2
        have fr := a1'.trans a2'
        refine h (.bl false) I2 H2 f2 z0 s2 ⟨rfl, fun _ => rfl⟩ (fun a => by simp; exact s2.nd a) ((fr.less fun x z => by simpa using z).imp fun z => by simp at z ⊢; exact ⟨z.1, z.2.1⟩) fun z => ?_
        simp only [Bool.and_eq_true] at z
        rw [e2 z.2.1, e1 z.1]
      · exact h.elim
    · exact h.elim
  · exact h.elim
theorem fCmp_bl {g : Int → Int → Bool} {h : List Nat → List Nat → Bool} : ∀ es c, fCmp g h es = some c → ∃ b, c = .sc (.bl b) := by
  intro es c e
  unfold fCmp at e
  split at e
  · cases e; exact ⟨_, rfl⟩
  · cases e; exact ⟨_, rfl⟩
  · cases e
end
def dRaise (c : Nat) : DenS := fun E => .exc c [] E
theorem t_raise {G : Gm} {W : WX} {c : Nat} : ∀ D σ H, tS G W [] (dRaise c) D σ H → (fun (_ : Ends) σ H => (fun _ H Q => Q (.ref (G.cls c)) none H : St → Hp → XK → Prop) σ H fun cls d H' => W cls d σ H') D σ H := by
  rintro D σ H ⟨I, E, vs, f, s, h⟩
  exact h (.ref (G.cls c)) none σ vs I H f s Agr.refl ⟨rfl, .inl ⟨rfl, rfl⟩⟩ Fr.refl
/-- what is never come to -/
def dNever : DenS := fun _ => .bad
theorem t_never {G : Gm} {W : WX} {t : TS} : ∀ D σ H, tS G W [] dNever D σ H → t D σ H := by
  rintro D σ H ⟨I, E, vs, f, s, h⟩
  exact h.elim
end DL
end
section
set_option maxRecDepth 100000
namespace DL
open PySem L2
abbrev JE (X : Cx) (G : Gm) (W : WX) (p : Bool) (e : Expr) (d : Den) : Prop := PE X e (tO G W p d)
abbrev JA (X : Cx) (G : Gm) (W : WX) (p : Bool) (es : List Expr) (d : DenA) : Prop := PA X es (tA G W p d)
abbrev JT (X : Cx) (G : Gm) (W : WX) (p : Bool) (e : Expr) (d : DenT) : Prop := PT X e (tT G W p d)
abbrev JW (X : Cx) (G : Gm) (W : WX) (p : Bool) (e : Expr) (d : DenT) : Prop := PW X e (tT G W p d)
abbrev JI (X : Cx) (G : Gm) (W : WX) (tg e : Expr) (d : DenI) : Prop := PI X tg e (tI G W d)
abbrev JB' (X : Cx) (G : Gm) (W : WX) (pb : Bool) (tg e : Expr) (d : DenI) : Prop := PI X tg e (tIB G W pb d)
abbrev JS (X : Cx) (G : Gm) (W : WX) (A : List Nat) (s : Stmt) (d : DenS) : Prop := PS X s (tS G W A d)
abbrev JB (X : Cx) (G : Gm) (W : WX) (A : List Nat) (s : List Stmt) (d : DenS) : Prop := PSs X s (tS G W A d)
section
variable {X : Cx} {G : Gm} {W : WX} {p p1 p2 p3 : Bool} {a b c e o : Expr} {es : List Expr} {d d1 d2 d3 : Den} {das : DenA} {pos : Pos}
theorem jv (i : Nat) {x : Str} (hN : X.N[i]? = some x := by rfl) (hv : Vis X.env.scope x := by first | exact Or.inl rfl | exact Or.inr (Or.inl rfl) | exact Or.inr (Or.inr rfl)) (hd : (x == ("__debug__" : Str)) = false := by decide)
    (hcd : (x == ("__classdict__" : Str)) = false := by decide) : JE X G W true (.Name x pos) (rName i) := PE_imp (pv i hN hv hd hcd) t_name
theorem jmv (i : Nat) {x : Str} (hN : X.N[i]? = some x := by rfl) (hv : Vis X.env.scope x := by first | exact Or.inl rfl | exact Or.inr (Or.inl rfl) | exact Or.inr (Or.inr rfl)) (hd : (x == ("__debug__" : Str)) = false := by decide)
    (hcd : (x == ("__classdict__" : Str)) = false := by decide) : JE X G W false (.Name x pos) (dMove i) := PE_imp (pv i hN hv hd hcd) t_move
theorem jint {i : Int} {j : Nat} : JE X G W true (.Constant (.int i) j pos) (rC (.int i)) := PE_imp pe_int t_c
theorem jbl {i : Bool} {j : Nat} : JE X G W true (.Constant (.bool i) j pos) (rC (.bl i)) := PE_imp pe_bl t_c
theorem jnon {j : Nat} : JE X G W true (.Constant .none j pos) (rC .non) := PE_imp pe_non t_c
theorem jstr {x : Str} {j : Nat} : JE X G W true (.Constant (.str x) j pos) (rC (.str x)) := PE_imp pe_str t_c
theorem jty {x : Str} {T : String} (hv : bootBuiltins x = some (.type T)) (hm : X.mg x = none) (hg : Gl X x := by rfl) (hn : x ≠ "__name__" := by decide) (hd : (x == ("__debug__" : Str)) = false := by decide) : JE X G W true (.Name x pos) (rC (.ty T)) := PE_imp (pe_bltn (v := .ty T) hg hm hv rfl hn hd) t_c
theorem jcp (h : JE X G W p e d) : JE X G W p e (dCopy d) := PE_imp h t_copy
theorem jfz (h : JE X G W p e d) : JE X G W false e (dFrz d) := PE_imp h t_frz
theorem jco (h : JE X G W p e d) : JE X G W false e (dCold d) := PE_imp h t_cold
theorem jop2 {op : Operator} {r : R2} {F : List D → Option D} (ho : OpR X (binaryOp op) r) (hs : OpS G (r2l r) F) (ha : JE X G W p1 a d1) (hb : JE X G W p2 b d2) : JE X G W (p1 && (p2 && true)) (.BinOp a op b pos) (dOp F (aCons (p2 && true) d1 (aCons true d2 aNil))) :=
  PE_imp (pe_op ho ha hb) (t_op2 hs (fun _ _ _ h => h) (fun _ _ _ h => h))
theorem jadd (ha : JE X G W p1 a d1) (hb : JE X G W p2 b d2) : JE X G W (p1 && (p2 && true)) (.BinOp a .Add b pos) (dOp fAdd (aCons (p2 && true) d1 (aCons true d2 aNil))) := jop2 op_addX os_add ha hb
theorem jsub (ha : JE X G W p1 a d1) (hb : JE X G W p2 b d2) : JE X G W (p1 && (p2 && true)) (.BinOp a .Sub b pos) (dOp fSub (aCons (p2 && true) d1 (aCons true d2 aNil))) := jop2 op_sub os_sub ha hb
theorem jmul (ha : JE X G W p1 a d1) (hb : JE X G W p2 b d2) : JE X G W (p1 && (p2 && true)) (.BinOp a .Mult b pos) (dOp fMul (aCons (p2 && true) d1 (aCons true d2 aNil))) := jop2 op_mulX' os_mul ha hb
theorem jdiv (ha : JE X G W p1 a d1) (hb : JE X G W p2 b d2) : JE X G W (p1 && (p2 && true)) (.BinOp a .FloorDiv b pos) (dOp fDiv (aCons (p2 && true) d1 (aCons true d2 aNil))) := jop2 op_fdivW os_div ha hb
theorem jmod (ha : JE X G W p1 a d1) (hb : JE X G W p2 b d2) : JE X G W (p1 && (p2 && true)) (.BinOp a .Mod b pos) (dOp fMod (aCons (p2 && true) d1 (aCons true d2 aNil))) := jop2 op_mod os_mod ha hb
theorem jneg (ha : JE X G W p1 a d1) : JE X G W (p1 && true) (.UnaryOp .USub a pos) (dOp fNeg (aCons true d1 aNil)) := PE_imp (pe_un un_neg ha) (t_op1 os_neg (fun _ _ _ h => h))
theorem jcmp2 {op : CmpOp} {r : R2} {F : List D → Option D} (ho : OpR X (compareOp op) r) (hs : OpS G (r2l r) F) (ha : JE X G W p1 a d1) (hb : JE X G W p2 b d2) (hm : behindInMarks op b = false) : JE X G W (p1 && (p2 && true)) (.Compare a [op] [b] pos) (dOp F (aCons (p2 && true) d1 (aCons true d2 aNil))) :=
  PE_imp (pe_cmpR ho ha hb hm) (t_op2 hs (fun _ _ _ h => h) (fun _ _ _ h => h))
theorem jlt (ha : JE X G W p1 a d1) (hb : JE X G W p2 b d2) : JE X G W (p1 && (p2 && true)) (.Compare a [.Lt] [b] pos) (dOp (fCmp (fun i j => decide (i < j)) (fun i j => decide (i < j))) (aCons (p2 && true) d1 (aCons true d2 aNil))) := jcmp2 op_ltX os_cmp ha hb (nomark _)
theorem jeq (hu : X.A.units + 64 < cLine) (ha : JE X G W p1 a d1) (hb : JE X G W p2 b d2) : JE X G W (p1 && (p2 && true)) (.Compare a [.Eq] [b] pos) (dOp fEq (aCons (p2 && true) d1 (aCons true d2 aNil))) := jcmp2 (op_eqD hu) os_eq ha hb (nomark _)
theorem jne (hu : X.A.units + 64 < cLine) (ha : JE X G W p1 a d1) (hb : JE X G W p2 b d2) : JE X G W (p1 && (p2 && true)) (.Compare a [.NotEq] [b] pos) (dOp fNe (aCons (p2 && true) d1 (aCons true d2 aNil))) := jcmp2 (op_neD hu) os_ne ha hb (nomark _)
theorem jin (ha : JE X G W p1 a d1) (hb : JE X G W p2 b d2) (hm : behindInMarks .In b = false := by rfl) : JE X G W (p1 && (p2 && true)) (.Compare a [.In] [b] pos) (dOp (fIn false) (aCons (p2 && true) d1 (aCons true d2 aNil))) := jcmp2 op_inX os_in ha hb hm
theorem jone {op} (h : JE X G W p a d) : JE X G W p (.BoolOp op [a] pos) d := pe_one h
theorem jand {rest : List Expr} (ha : JE X G W p1 a d1) (hb : JE X G W p2 (.BoolOp .And (b :: rest) pos) d2) : JE X G W (p1 && p2) (.BoolOp .And (a :: b :: rest) pos) (dAndV d1 d2) := PE_imp (pe_and ha hb) (t_andV (fun _ _ _ h => h) (fun _ _ _ h => h))
theorem jor {rest : List Expr} (ha : JE X G W p1 a d1) (hb : JE X G W p2 (.BoolOp .Or (b :: rest) pos) d2) : JE X G W (p1 && p2) (.BoolOp .Or (a :: b :: rest) pos) (dOrV d1 d2) := PE_imp (pe_or ha hb) (t_orV (fun _ _ _ h => h) (fun _ _ _ h => h))
theorem jtv (h : JE X G W p e d) (he : ∀ whole, isTrue e X.env whole = (do let v ← whole; standAt e.pos; holding [v] (truthy v)) := by intro _; rfl) : JT X G W p e (dTst d) := PT_imp (pt_val h he) (t_tstB (fun _ _ _ h => h))
theorem jtr (h : JE X G W p e d) (he : ∀ whole, isTrue e X.env whole = (do let v ← whole; standAt e.pos; holding [v] (truthy v)) := by intro _; rfl) : JT X G W p e (dTru d) := PT_imp (pt_truth h he) (t_tru (fun _ _ _ h => h))
theorem jtc2 {op : CmpOp} {r : R2} {F : List D → Option D} (ho : OpR X (compareOp op) r) (hs : OpS G (r2l r) F) (ha : JE X G W p1 a d1) (hb : JE X G W p2 b d2) (hm : behindInMarks op b = false) : JT X G W (p1 && (p2 && true)) (.Compare a [op] [b] pos) (dTst (dOp F (aCons (p2 && true) d1 (aCons true d2 aNil)))) :=
  PT_imp (pt_cmpR ho ha hb hm) (t_tst (t_op2 hs (fun _ _ _ h => h) (fun _ _ _ h => h)))
theorem jtlt (ha : JE X G W p1 a d1) (hb : JE X G W p2 b d2) : JT X G W (p1 && (p2 && true)) (.Compare a [.Lt] [b] pos) (dTst (dOp (fCmp (fun i j => decide (i < j)) (fun i j => decide (i < j))) (aCons (p2 && true) d1 (aCons true d2 aNil)))) := jtc2 op_ltX os_cmp ha hb (nomark _)
theorem jtgt (ha : JE X G W p1 a d1) (hb : JE X G W p2 b d2) : JT X G W (p1 && (p2 && true)) (.Compare a [.Gt] [b] pos) (dTst (dOp (fCmp (fun i j => decide (j < i)) (fun i j => decide (j < i))) (aCons (p2 && true) d1 (aCons true d2 aNil)))) := jtc2 op_gtX os_cmp ha hb (nomark _)
theorem jteq (hu : X.A.units + 64 < cLine) (ha : JE X G W p1 a d1) (hb : JE X G W p2 b d2) : JT X G W (p1 && (p2 && true)) (.Compare a [.Eq] [b] pos) (dTst (dOp fEq (aCons (p2 && true) d1 (aCons true d2 aNil)))) := jtc2 (op_eqD hu) os_eq ha hb (nomark _)
theorem jtne (hu : X.A.units + 64 < cLine) (ha : JE X G W p1 a d1) (hb : JE X G W p2 b d2) : JT X G W (p1 && (p2 && true)) (.Compare a [.NotEq] [b] pos) (dTst (dOp fNe (aCons (p2 && true) d1 (aCons true d2 aNil)))) := jtc2 (op_neD hu) os_ne ha hb (nomark _)
theorem jtin (ha : JE X G W p1 a d1) (hb : JE X G W p2 b d2) (hm : behindInMarks .In b = false := by rfl) : JT X G W (p1 && (p2 && true)) (.Compare a [.In] [b] pos) (dTst (dOp (fIn false) (aCons (p2 && true) d1 (aCons true d2 aNil)))) := jtc2 op_inX os_in ha hb hm
theorem jtnin (ha : JE X G W p1 a d1) (hb : JE X G W p2 b d2) (hm : behindInMarks .NotIn b = false := by rfl) : JT X G W (p1 && (p2 && true)) (.Compare a [.NotIn] [b] pos) (dTst (dOp (fIn true) (aCons (p2 && true) d1 (aCons true d2 aNil)))) := jtc2 op_notInX os_in ha hb hm
theorem jtnot {t : DenT} (ha : JT X G W p1 a t) : JT X G W p1 (.UnaryOp .Not a pos) (dNot t) := PT_imp (pt_not ha) (t_not (fun _ _ _ h => h))
theorem jwand1 {t : DenT} (ha : JT X G W p1 a t) : JW X G W p1 (.BoolOp .And [a] pos) t := pw_and1 ha
theorem jwor1 {t : DenT} (ha : JT X G W p1 a t) : JW X G W p1 (.BoolOp .Or [a] pos) t := pw_or1 ha
theorem jwand {rest : List Expr} {t u : DenT} (ha : JT X G W p1 a t) (hb : JW X G W p2 (.BoolOp .And (b :: rest) pos) u) : JW X G W (p1 && p2) (.BoolOp .And (a :: b :: rest) pos) (dAnd t u) := PW_imp (pw_and ha hb) (t_and (fun _ _ _ h => h) (fun _ _ _ h => h))
theorem jwor {rest : List Expr} {t u : DenT} (ha : JT X G W p1 a t) (hb : JW X G W p2 (.BoolOp .Or (b :: rest) pos) u) : JW X G W (p1 && p2) (.BoolOp .Or (a :: b :: rest) pos) (dOr t u) := PW_imp (pw_or ha hb) (t_or (fun _ _ _ h => h) (fun _ _ _ h => h))
theorem jpt {t : DenT} (h : JW X G W p e t) : JT X G W p e t := h.pt
theorem jtisn {j : Nat} {q : Pos} (ha : JE X G W p1 a d1) : JT X G W (p1 && (true && true)) (.Compare a [.Is] [.Constant .none j q] pos) (dTst (dOp fIsN (aCons (true && true) d1 (aCons true (rC .non) aNil)))) := jtc2 op_isN os_isN ha jnon (nomark _)
theorem jtnotn {j : Nat} {q : Pos} (ha : JE X G W p1 a d1) : JT X G W (p1 && (true && true)) (.Compare a [.IsNot] [.Constant .none j q] pos) (dTst (dOp fNotN (aCons (true && true) d1 (aCons true (rC .non) aNil)))) := jtc2 op_notN os_notN ha jnon (nomark _)
theorem jtchain {op op' : CmpOp} {g g' : Int → Int → Bool} {h h' : List Nat → List Nat → Bool} (ho : OpR X (compareOp op) (rCmpX g h)) (ho' : OpR X (compareOp op') (rCmpX g' h')) (ha : JE X G W p1 a d1) (hb : JE X G W p2 b d2) (hc : JE X G W p3 c d3)
    (hm : lastMarks [op, op'] [b, c] = false := by with_unfolding_all rfl) : JT X G W (p1 && (p2 && p3)) (.Compare a [op, op'] [b, c] pos) (dTst (dChain (fCmp g h) (fCmp g' h') p2 p3 d1 d2 d3)) :=
  PT_imp (pt_chain ho ho' ha hb hc hm) (t_tst (t_chain ob_cmp ob_cmp fCmp_bl (fun _ _ _ h => h) (fun _ _ _ h => h) (fun _ _ _ h => h)))
theorem jan : JA X G W true [] aNil := PA_imp pa_nil t_anil
theorem jac (ha : JE X G W p1 e d) (hr : JA X G W p2 es das) (hs : starEach (e :: es) X.env = (false, eval e X.env) :: starEach es X.env := by rfl) : JA X G W (p1 && p2) (e :: es) (aCons p2 d das) := PA_imp (pa_cons ha hr hs) (t_acons (fun _ _ _ h => h) (fun _ _ _ h => h))
theorem jtup {k : Nat} (ha : JA X G W p es das) : JE X G W p (.Tuple es k pos) (dTup das) := PE_imp (pe_tup ha) (t_tup (fun _ _ _ h => h))
theorem jlst (ha : JA X G W p es das) : JE X G W p (.List es pos) (dLst das) := PE_imp (pe_lst ha) (t_lst (fun _ _ _ h => h))
theorem jcall {CX : CXT} {k : Nat} {f : Addr} {fd : FuncData} {ps : List Str} {F : Fn} {Ex : XK} {x : Str} {q : Pos} (hx : Passes CX X Ex) (hE : ∀ cls d σ H, W cls d σ H → Ex cls d H) (ok : FnOk X.prog X.w X.K X.mg X.base CX k f fd ps (spOf G F)) (hr : Room k X.A) (hm : X.mg x = some (.ref f))
    (hk : PySem.W.keepIn X.K (.ref f) = true) (hb : Binds X.K fd ps []) (ha : JA X G W p (e :: es) das) (hg : Gl X x := by rfl) (hdb : (x == ("__debug__" : Str)) = false := by decide) (he : starEach (e :: es) X.env = (false, eval e X.env) :: starEach es X.env := by rfl)
    (hpl : (backTo pos (starEach es X.env)).any (·.1) = false := by rfl) : JE X G W false (.Call (.Name x q) (e :: es) [] pos) (dCall F das) :=
  PE_imp (pe_call ok hr hg hm hk hb .nil hx ha hdb he hpl) (t_call hE (fun _ _ _ h => h))
theorem jB {id : String} {x : Str} {q : Pos} {r : List V → Hp → VK → Prop} {F : List D → Option D} (hc : CallR X (.builtin id) r) (hs : OpS G r F) (hv : bootBuiltins x = some (.builtin id)) (hm : X.mg x = none) (ha : JA X G W p (e :: es) das) (hg : Gl X x := by rfl)
    (hn : x ≠ "__name__" := by decide) (hdb : (x == ("__debug__" : Str)) = false := by decide) (he : starEach (e :: es) X.env = (false, eval e X.env) :: starEach es X.env := by rfl)
    (hpl : (backTo pos (starEach es X.env)).any (·.1) = false := by rfl) : JE X G W p (.Call (.Name x q) (e :: es) [] pos) (dOp F das) :=
  PE_imp (pe_callB hc hg hm hv ha hn hdb he hpl) (t_op hs (fun _ _ _ h => h))
theorem jTy {T : String} {x : Str} {q : Pos} {r : List V → Hp → VK → Prop} {F : List D → Option D} (hc : CallR X (.type T) r) (hs : OpS G r F) (hv : bootBuiltins x = some (.type T)) (hm : X.mg x = none) (ha : JA X G W p (e :: es) das) (hg : Gl X x := by rfl)
    (hn : x ≠ "__name__" := by decide) (hdb : (x == ("__debug__" : Str)) = false := by decide) (he : starEach (e :: es) X.env = (false, eval e X.env) :: starEach es X.env := by rfl)
    (hpl : (backTo pos (starEach es X.env)).any (·.1) = false := by rfl) : JE X G W p (.Call (.Name x q) (e :: es) [] pos) (dOp F das) :=
  PE_imp (pe_callTy hc hg hm hv ha hn hdb he hpl) (t_op hs (fun _ _ _ h => h))
theorem jix (hK : G.K = X.K) (ha : JE X G W p1 a d1) (hb : JE X G W p2 b d2) (hs : PlainIx b := by intro _ _; rfl) : JE X G W (p1 && (p2 && true)) (.Subscript a b pos) (dIx (p2 && true) d1 d2) := PE_imp (pe_ix ix_seq ha hb hs) (hK ▸ t_ix (fun _ _ _ h => h) (fun _ _ _ h => h))
theorem jsl {lo hi : DenP} {el eh : Option Expr} {q : Pos} (ha : JE X G W p1 a d1) (hl : PO X el (tP G W p2 lo)) (hh : PO X eh (tP G W p3 hi)) : JE X G W (p1 && (p2 && p3)) (.Subscript a (.Slice el eh none q) pos) (dSl (p2 && p3) d1 lo hi) :=
  PE_imp (pe_slice sl_X ha hl hh) (t_sl (fun _ _ _ h => h) (fun _ _ _ h => h) (fun _ _ _ h => h))
end
end DL
end
section
set_option maxRecDepth 100000
namespace DL
open PySem PySem.Spec PyProof.Rows L2
theorem tIB_I {G : Gm} {W : WX} {den : DenI} {wi : TI} (h : ∀ σ H Q, tI G W den σ H Q → wi σ H Q) : ∀ σ H Q, tIB G W false den σ H Q → wi σ H Q := fun σ H Q ⟨I, E, vs, f, s, k⟩ =>
  h σ H Q ⟨I, E, vs, f, s, k.imp fun r _ k J I' H' f' s' fr wk => k J I' H' f' s' fr fun i I2 H2 a _ c => wk i I2 H2 a c⟩
section
variable {X : Cx} {G : Gm} {W : WX} {p p1 p2 p3 : Bool} {a b c e o : Expr} {es : List Expr} {d d1 d2 d3 : Den} {das : DenA} {pos : Pos} {A B : List Nat} {s : Stmt} {ss : List Stmt} {ds ds1 ds2 : DenS}
theorem jpo0 : PO X none (tP G W true pNo) := ⟨fun pins s σ H Q I h => po_none.run pins s σ H Q I (t_pno σ H Q h)⟩
theorem jpo1 (h : JE X G W p e d) : PO X (some e) (tP G W p (pAt d)) := ⟨fun pins s σ H Q I q => (po_some h).run pins s σ H Q I (t_pat (fun _ _ _ h => h) σ H Q q)⟩
theorem jnil : JB X G W [] [] dNext := PSs_imp pss_nil t_next
theorem jone' (h : JS X G W A s ds) : JB X G W A [s] ds := pss_one h
theorem jcons (h : JS X G W A s ds1) (k : JB X G W B ss ds2) : JB X G W (A ++ B) (s :: ss) (dSeq ds1 ds2) := PSs_imp (pss_cons h k) (t_seq (fun _ _ _ h => h) (fun _ _ _ h => h))
theorem jexp (h : JE X G W p e d) (hs : swapsWith e none pos.line X.env = pure false := by rfl) : JS X G W [] (.Expr e pos) (dDrop d) := PS_imp (ps_expr h hs) (t_drop (fun _ _ _ h => h))
theorem jret (h : JE X G W p e d) : JS X G W [] (.Return (some e) pos) (dRet d) := PS_imp (ps_ret h) (t_ret (fun _ _ _ h => h))
theorem jifs {t : DenT} {s1 s2 : List Stmt} (hc : JT X G W p c t) (h1 : JB X G W A s1 ds1) (h2 : JB X G W B s2 ds2) : JS X G W (A ++ B) (.If c s1 s2 pos) (dIfS t ds1 ds2) := PS_imp (ps_if hc h1 h2) (t_ifS (fun _ _ _ h => h) (fun _ _ _ h => h) (fun _ _ _ h => h))
theorem jset (i : Nat) {x : Str} {q : Pos} (hN : X.N.Nodup) (h : JE X G W p e d) (hi : X.N[i]? = some x := by rfl) (hx : L2.Loc X.env.scope x := by first | exact Or.inl rfl | exact Or.inr rfl) (hs : swapsWith e (some (.Name x q)) pos.line X.env = pure false := by rfl)
    (hf : X.fn x = true ∨ X.env.scope.names.lookup x = some .local := by first | exact .inl rfl | exact .inr rfl | assumption) : JS X G W [i] (.Assign [.Name x q] e pos) (dAsg d (dgName i)) :=
  PS_imp (ps_set hN hi hx h hs hf) (t_asg tg_name (fun _ _ _ h => h))
theorem jtgN (i : Nat) {x : Str} (hN : X.N.Nodup) (hi : X.N[i]? = some x := by rfl) (hx : L2.Loc X.env.scope x := by first | exact Or.inl rfl | exact Or.inr rfl) (hf : X.fn x = true ∨ X.env.scope.names.lookup x = some .local := by first | exact .inl rfl | exact .inr rfl | assumption) : PG X (.Name x pos) (gName i) := pg_name hN hi hx hf
theorem jasg {tg : Expr} {g : TG} {dg : DenG} (hg : PG X tg g) (ht : TgS G A g dg) (h : JE X G W p e d) (hs : swapsWithSole [tg] e pos.line X.env = pure false := by rfl) (hw : swappedStores [tg] e X.env = pure none := by rfl)
    (h1 : (assignEach [tg] X.env).map (·.2) = [assign tg X.env] := by rfl) : JS X G W A (.Assign [tg] e pos) (dAsg d dg) := PS_imp (ps_asg h hg hs hw h1) (t_asg ht (fun _ _ _ h => h))
theorem jwhile {t : DenT} (hp : PassesOwn (model X.prog X.w) X.A X.env X.xe) (hc : JT X G W p c t) (hb : JB X G W A ss ds) : JS X G W A (.While c ss [] pos) (dWhile t ds) := PS_imp (ps_while hp hc hb) (t_while (fun _ _ _ h => h) (fun _ _ _ h => h))
theorem jfor {tg : Expr} {g : TG} {dg : DenG} {di : DenI} (hp : PassesOwn (model X.prog X.w) X.A X.env X.xe) (hg : PG X tg g) (ht : TgS G A g dg) (hi : JI X G W tg e di) (hb : JB X G W B ss ds) (hc : X.calm = true := by rfl) (hs : ∀ x, foldedSetIterable e X.env x = pure x := by intro _; rfl) :
    JS X G W (A ++ B) (.For tg e ss [] pos) (dFor di dg ds) := PS_imp (ps_for hp hc hi hg hb hs) (t_for ht (fun _ _ _ h => h) (fun _ _ _ h => h))
theorem jseq {tg : Expr} (h : JE X G W p e d) : JI X G W tg e (iSeq d) := PI_imp (PI_or (PI_or (pi_list h) (pi_tup h)) (pi_str h)) (t_iseq (fun _ _ _ h => h))
def dR1 (das : DenA) : DenI := fun E => (das E).bind fun r => match conts r.2 r.1 with
  | some [.sc (.int j)] => if -(2 ^ 62) ≤ j ∧ j < 2 ^ 62 then .ok (rngD 0 j.toNat, r.2) else .bad
  | _ => .bad
def dR2 (das : DenA) : DenI := fun E => (das E).bind fun r => match conts r.2 r.1 with
  | some [.sc (.int i), .sc (.int j)] => if -(2 ^ 62) ≤ i ∧ i < 2 ^ 62 ∧ -(2 ^ 62) ≤ j ∧ j < 2 ^ 62 then .ok (rngD i (j - i).toNat, r.2) else .bad
  | _ => .bad
theorem t_r1 {ta : TA} (ha : ∀ σ H Q, tA G W p das σ H Q → ta σ H Q) : ∀ σ H Q, tI G W (dR1 das) σ H Q → iRng1 ta σ H Q := by
  rintro σ H Q ⟨I, E, vs, f, s, hh⟩
  refine ha _ _ _ ⟨I, E, vs, f, s, hh.fst fun r er h => ?_⟩
  intro ws I' H' f' g s' o n fr e
  split at h
  · rename_i j ec
    have ew := Rpi.ints1 (o.conts s' (fun a => by have := n a; omega) ec)
    subst ew
    split at h
    · rename_i hb
      exact ⟨j, rfl, hb.1, hb.2, h (Itr 0 j.toNat) I' H' f' s' ((fr.less fun x z => by simp; omega).imp fun z => by cases z) walk_rng⟩
    · exact h.elim
  · exact h.elim
theorem t_r2 {ta : TA} (ha : ∀ σ H Q, tA G W p das σ H Q → ta σ H Q) : ∀ σ H Q, tI G W (dR2 das) σ H Q → iRng2 ta σ H Q := by
  rintro σ H Q ⟨I, E, vs, f, s, hh⟩
  refine ha _ _ _ ⟨I, E, vs, f, s, hh.fst fun r er h => ?_⟩
  intro ws I' H' f' g s' o n fr e
  split at h
  · rename_i i j ec
    have ew := Rpi.ints2 (o.conts s' (fun a => by have := n a; omega) ec)
    subst ew
    split at h
    · rename_i hb
      exact ⟨i, j, rfl, hb, h (Itr i (j - i).toNat) I' H' f' s' ((fr.less fun x z => by simp; omega).imp fun z => by cases z) walk_rng⟩
    · exact h.elim
  · exact h.elim
theorem jrg1 {tg : Expr} {q : Pos} (hm : X.mg "range" = none) (ha : JA X G W p [a] das) (hg : Gl X "range" := by rfl) (hs : starEach [a] X.env = [(false, eval a X.env)] := by rfl) : JI X G W tg (.Call (.Name "range" q) [a] [] pos) (dR1 das) :=
  PI_imp (pi_range1 hg hm ha hs) (t_r1 (fun _ _ _ h => h))
theorem jrg2 {tg : Expr} {q : Pos} (hm : X.mg "range" = none) (ha : JA X G W p [a, b] das) (hg : Gl X "range" := by rfl) (hs : starEach [a, b] X.env = [(false, eval a X.env), (false, eval b X.env)] := by rfl) (hs2 : starEach [b] X.env = [(false, eval b X.env)] := by rfl) :
    JI X G W tg (.Call (.Name "range" q) [a, b] [] pos) (dR2 das) := PI_imp (pi_range2 hg hm ha hs hs2) (t_r2 (fun _ _ _ h => h))
theorem jbi {tg : Expr} {di : DenI} (h : JI X G W tg e di) : JB' X G W false tg e di := PI_imp h (tIB_I fun _ _ _ h => h)
theorem jnoif : PTs X [] (tT G W true dYes) := ⟨fun pins s σ H Q I h => pts_nil.run pins s σ H Q I (t_yes σ H Q h)⟩
theorem jif1 {t : DenT} (h : JT X G W p c t) : PTs X [c] (tT G W p t) := pts_one h
theorem jlc {pb pt pe : Bool} {elt tg iter : Expr} {ifs : List Expr} {scope : Scope} {own : List (Str × Nat)} {g : TG} {dg : DenG} {di : DenI} {dt : DenT} {de : Den} (hN : X.N.Nodup) (hi : JB' X G W pb tg iter di) (ok : BlkOk X.N X.env.scope scope own) (ht : TgS G A g dg)
    (hA : ∀ j ∈ A, j ∈ own.map (·.2)) (nd : (own.map (·.2)).Nodup) (hp : pb = true → pt = true ∧ pe = true)
    (hg : ∀ (s : Shared) (H : Hp) (C : Addr) (cl : List (Str × Addr)) (fp : List Addr), PG (X.blk s H scope (compEnvC scope cl C X.env) fp) tg g) (hif : ∀ (s : Shared) (H : Hp) (C : Addr) (cl : List (Str × Addr)) (fp : List Addr), PTs (X.blk s H scope (compEnvC scope cl C X.env) fp) ifs (tT G W0 pt dt))
    (he : ∀ (s : Shared) (H : Hp) (C : Addr) (cl : List (Str × Addr)) (fp : List Addr), JE (X.blk s H scope (compEnvC scope cl C X.env) fp) G W0 pe elt de) (hc : X.calm = true := by rfl) (hs : ∀ x, foldedSetIterable iter X.env x = pure x := by intro _; rfl) :
    JE X G W false (.ListComp elt [⟨tg, iter, ifs, 0⟩] scope pos) (dComp di dg dt de (own.map (·.2))) := PE_imp (pe_lc hc hN hi ok hg hif he hs) (t_comp hp ht hA nd (fun _ _ _ h => h) (fun _ _ _ h => h) (fun _ _ _ h => h))
theorem jseti {q : Pos} {i : Expr} {d0 di : Den} {p0 : Bool} (h0 : JE X G W p0 e d) (h1 : JE X G W p1 o d0) (h2 : JE X G W p2 i di)
    (ha : ∀ v, assign (.Subscript o i q) X.env v = (do
      let ov ← holding [v] (eval o X.env)
      let iv ← holding [v, ov] (eval i X.env)
      standAt q
      holding [v, ov, iv] (setItem ov iv v)
      release [v, ov, iv] []) := by intro _; rfl)
    (hs : swapsWithSole [.Subscript o i q] e pos.line X.env = pure false := by rfl) (hw : swappedStores [.Subscript o i q] e X.env = pure none := by rfl) (hh : (assignEach [.Subscript o i q] X.env).map (·.2) = [assign (.Subscript o i q) X.env] := by rfl) :
    JS X G W [] (.Assign [.Subscript o i q] e pos) (dSetI p1 p2 d d0 di) := PS_imp (ps_asg h0 (pg_sub h1 h2 set_list ha) hs hw hh) (t_setI (fun _ _ _ h => h) (fun _ _ _ h => h) (fun _ _ _ h => h))
theorem jmt {T id : String} {name : Str} {pu1 pu2 : Bool} {d0 : Den} {M : MutF} {r : V → List V → Hp → VK → Prop} {ap : Pos} (pa : PlainAttrs T) (slot : Slot T name id) (hty : typeOf (.builtin id) = pure (.type "method_descriptor")) (hm : MtR X id r) (hr : MutS G r M) (h0 : JE X G W pu1 o d0) (ha : JA X G W pu2 (e :: es) das)
    (hbase : attributeBase o name X.env (eval o X.env) = eval o X.env := by rfl)
    (hfew : ((backTo pos (starEach (e :: es) X.env)).all (fun x => !x.1) && (backToKw pos (keywordEach [] X.env)).all (fun x => x.1.isSome)
      && decide ((e :: es).length + ([] : List Keyword).length + (if ([] : List Keyword).isEmpty then 0 else 1) < 30)) = true := by rfl)
    (hline : (ap.endLine == pos.line) = true := by rfl) (hs : starEach (e :: es) X.env = (false, eval e X.env) :: starEach es X.env := by rfl) (hplain : (backTo pos (starEach es X.env)).any (·.1) = false := by rfl) :
    JE X G W false (.Call (.Attribute o name ap) (e :: es) [] pos) (dMut T M pu2 d0 das) := PE_imp (pe_bm pa slot hty hm h0 ha hbase hfew hline hs hplain) (t_mut hr (fun _ _ _ h => h) (fun _ _ _ h => h))
theorem jfld {c : Nat} {f : Str} (hcl : Cls X.K (G.cls c)) (na : NoAttr X.K (G.cls c) f) (h0 : JE X G W p o d) (hb : attributeBase o f X.env (eval o X.env) = eval o X.env := by rfl) : JE X G W p (.Attribute o f pos) (dFld c f d) := PE_imp (pe_fld h0 hb) (t_fld hcl na (fun _ _ _ h => h))
theorem jsetf {c : Nat} {f : Str} {q : Pos} {d0 : Den} {p0 : Bool} (hcl : Cls X.K (G.cls c)) (na : NoAttr X.K (G.cls c) f) (h0 : JE X G W p0 e d) (h1 : JE X G W p1 o d0) (hs : swapsWith e (some (.Attribute o f q)) pos.line X.env = pure false := by rfl) :
    JS X G W [] (.Assign [.Attribute o f q] e pos) (dSetF c f p1 d d0) := PS_imp (ps_fld h1 h0 hs) (t_setF hcl na (fun _ _ _ h => h) (fun _ _ _ h => h))
end
theorem opq_ex (F : Fn) : Nonempty {f : Fn // f = F} := ⟨⟨F, rfl⟩⟩
/-- the same function, which no reduction looks into -/
noncomputable def opq (F : Fn) : Fn := (Classical.choice (opq_ex F)).1
theorem opq_eq (F : Fn) : opq F = F := (Classical.choice (opq_ex F)).2
def fnP (n N : Nat) (A : List Nat) (b : DenS) : Fn := fun ds => if ds.length = n then fnD N A b ds else .bad
theorem okN {P : Program} {w : World} {K : PySem.W.Frag} {mg : Str → Option Value} {base : Heap} {x qual : Str} {st : Stmt} {f : Addr} {fd : FuncData} {N ps : List Str} {k : Nat} {sp : Sp} (F : Fun K x qual st f fd) (S : FnScope N ps (defScope st)) (hl : ∀ vs H Q E, sp vs H Q E → vs.length = ps.length)
    (hb : ∀ (cd : Value) (Ar : Around) (ov : List Env) (s0 : Shared) (H0 : Hp) (ws : List V) (Q : VK) (E : XK), Room k (Ar.deeper (envOfC qual (defScope st) s0.heap.objs.size f cd)) → sp ws H0 Q E →
      ∃ t, PSs (cxOf (L2N.CX P w) P w K mg base N qual (defScope st) f cd Ar ov s0 H0 E) (defBody st) t ∧ t { nx := fun _ H' => Q .non H', rt := Q } (start N ws) H0) : FnOk P w K mg base (L2N.CX P w) (k + 1) f fd ps sp := by
  obtain ⟨_, _, _, _, _, _, cd, _, _, rfl, look, known⟩ := F.ex
  exact fn_of look known S hl fun Ar ov s0 H0 ws Q E room q => hb cd Ar ov s0 H0 ws Q E room q
theorem passN {X : Cx} : Passes (L2N.CX X.prog X.w) X E0 := fun _ _ _ _ _ _ _ h => by
  obtain ⟨_, _, _, _, _, _, _, _, _, _, _, _, z⟩ := h
  exact z.elim
theorem ok_def {P : Program} {w : World} {K : PySem.W.Frag} {mg : Str → Option Value} {base : Heap} {x qual : Str} {st : Stmt} {f : Addr} {fd : FuncData} {N ps : List Str} {k : Nat} {G : Gm} {A : List Nat} {b : DenS} (F : Fun K x qual st f fd) (S : FnScope N ps (defScope st)) (hn : ps.length ≤ N.length)
    (hb : ∀ (cdv : Value) (Ar : Around) (outer : List Env) (s : Shared) (H : Hp) (E : XK), Room k (Ar.deeper (envOfC qual (defScope st) s.heap.objs.size f cdv)) →
      JB (cxOf (L2N.CX P w) P w K mg base N qual (defScope st) f cdv Ar outer s H E) G (fun cls d _ H => E cls d H) A (defBody st) b) :
    FnOk P w K mg base (L2N.CX P w) (k + 1) f fd ps (spOf G (opq (fnP ps.length N.length A b))) := by
  rw [opq_eq]
  unfold fnP
  refine okN F S (fun vs H Q E h => spOf_len (n := ps.length) (fun ds h => ?_) h) (fun cdv Ar outer s H vs Q E hr h => ⟨_, hb cdv Ar outer s H E hr, ?_⟩)
  · by_cases z : ds.length = ps.length
    · exact z
    · rw [if_neg z] at h; exact absurd rfl h
  · have hv : vs.length = ps.length := spOf_len (n := ps.length) (fun ds h => by
      by_cases z : ds.length = ps.length
      · exact z
      · rw [if_neg z] at h; exact absurd rfl h) h
    refine fn_body hn hv (fun ds hd => ?_) (fun _ _ _ h => h) h
    by_cases z : ds.length = ps.length
    · rw [if_pos z]
    · rw [if_neg z] at hd; exact absurd rfl hd
end DL
end
section
set_option maxRecDepth 100000
namespace DL
open PySem PySem.Spec PyProof.Rows L2
def rSortedD (K : PySem.W.Frag) : List V → Hp → VK → Prop := fun vs H Q => ∃ (a : Addr) (bs : List (V × PyData)), vs = [.ref a] ∧ SqL K H a (bs.map (·.1)) ∧ DpAll K H (bs.map (·.1)) (bs.map (·.2)) ∧ PySem.W.AllAlike (bs.map (·.2)) ∧ PySem.W.Sortable (bs.map (·.2)) ∧ (∀ b ∈ bs, b.2.depth ≤ 60) ∧
  ∀ p, H p = none → Q (.ref p) (upd H p (.lst ((bs.mergeSort (PySem.W.dataLe false (·.2))).map (·.1))))
theorem each_vals : ∀ {bs : List (V × PyData)} {us : List Value}, Vals (bs.map (·.1)) us → PySem.W.EachIs (fun v (b : V × PyData) => RelV b.1 v) us bs
  | [], us, h => by
    have h' : Vals [] us := h
    cases h'; exact .nil
  | b :: bs, us, h => by
    have h' : Vals (b.1 :: bs.map (·.1)) us := h
    cases h' with
    | cons r t => exact .cons r (each_vals t)
theorem vals_each : ∀ {bs : List (V × PyData)} {us : List Value}, PySem.W.EachIs (fun v (b : V × PyData) => RelV b.1 v) us bs → Vals (bs.map (·.1)) us
  | [], _, .nil => .nil
  | b :: bs, _, .cons r t => .cons r (vals_each t)
theorem cr_sortedD {X : Cx} (hu : X.A.units + 64 < cLine) : CallR X (.builtin "sorted") (rSortedD X.K) := by
  intro pins s σ H vs us Q I r h
  obtain ⟨a, bs, rfl, hs, hd, al, so, dp, q⟩ := h
  obtain ⟨its, rv, hl, hz⟩ := I.list hs
  rw [Vals.ref1 r]
  have e := each_vals rv
  obtain ⟨as, hr⟩ := Dp.readsAll I _ _ _ hd rv
  have er : PySem.W.EachIs (fun v (b : V × PyData) => ∃ as, Reads s.heap v b.2 as) its bs := PySem.W.readsAll_each (fun (b : V × PyData) => b.2) hr
  refine PySem.W.sorted_data (vs := its) (bs := bs) (enc := fun (b : V × PyData) => b.2) hl.isList e er al so (by simpa using hz) (fun b hb => by have := dp b hb; omega) fun out ho eo => ?_
  obtain ⟨n, hn⟩ := sortedAll_at s.heap its out.toArray
  refine ⟨.ref (s.heap.objs.size + 1), upd H (s.heap.objs.size + 1) (.lst ((bs.mergeSort (PySem.W.dataLe false (·.2))).map (·.1))), I.laid (t' := s.toks) (fun b u q => sortedAll_old q) (Nat.le_succ _) ⟨?_, out, n, vals_each eo, hn⟩, rfl, q _ (I.hok.fresh (Nat.le_succ _))⟩
  rw [List.length_map, List.length_mergeSort]
  simpa using hz
def leD (a b : D) : Bool := PySem.W.dataLe false toP a b
open Classical in
noncomputable def srtOk (ds : List D) : Bool := decide (PySem.W.AllAlike (ds.map toP) ∧ PySem.W.Sortable (ds.map toP) ∧ ds.all (lay 60) = true)
noncomputable def fSorted : List D → Option D
  | [.nd (.lst _) ds] => if Fzs ds && srtOk ds then some (.nd (.lst true) (ds.mergeSort leD)) else none
  | _ => none
section
variable {G : Gm} {I H : Hp}
theorem Rps.zips : ∀ {ds : List D} {ws : List V}, Rps G I H ds ws z0 → ∀ p ∈ ds.zip ws, Rp G I H p.1 p.2 z0
  | [], ws, x, p, hp => by simp at hp
  | d :: ds, ws, x, p, hp => by
    obtain ⟨v, vs, g, h, rfl, y, z, q⟩ := x
    have hg : ∀ a, g a = 0 := fun a => by have := q a; simp at this; omega
    have hh : ∀ a, h a = 0 := fun a => by have := q a; simp at this; omega
    rw [List.zip_cons_cons] at hp
    rcases List.mem_cons.mp hp with rfl | hp
    · exact y.eqv hg
    · exact Rps.zips (z.eqv hh) p hp
theorem Rps.of_zips : ∀ {ts : List (D × V)}, (∀ p ∈ ts, Rp G I H p.1 p.2 z0) → Rps G I H (ts.map (·.1)) (ts.map (·.2)) z0
  | [], _ => ⟨rfl, fun _ => rfl⟩
  | t :: ts, h => ⟨t.2, _, z0, z0, rfl, h t List.mem_cons_self, Rps.of_zips fun p hp => h p (List.mem_cons_of_mem _ hp), fun _ => rfl⟩
end
theorem dpAll_of {K : PySem.W.Frag} {H : Hp} : ∀ {ts : List (D × V)}, (∀ p ∈ ts, Dp K H p.2 (toP p.1)) → DpAll K H (ts.map (·.2)) (ts.map fun t => toP t.1)
  | [], _ => .nil
  | t :: ts, h => .cons (h t List.mem_cons_self) (dpAll_of fun p hp => h p (List.mem_cons_of_mem _ hp))
theorem os_sorted {G : Gm} : OpS G (rSortedD G.K) fSorted := by
  intro I H ds ws d sm x e Q k
  unfold fSorted at e
  split at e
  · rename_i m ds
    split at e
    · rename_i hc
      cases e
      simp only [Bool.and_eq_true] at hc
      obtain ⟨hf, hok⟩ := hc
      have hok : PySem.W.AllAlike (ds.map toP) ∧ PySem.W.Sortable (ds.map toP) ∧ ds.all (lay 60) = true := by unfold srtOk at hok; exact @of_decide_eq_true _ (_) hok
      obtain ⟨al, so, hl⟩ := hok
      obtain ⟨v, g, rfl, y, _⟩ := x.one
      obtain ⟨p, ws, g1, ob, rfl, st, eH, r, hlen⟩ := Rp.node sm y
      cases st
      have r0 : Rps G I H ds ws z0 := r.cold (by rw [← Fzs_all]; exact hf)
      have hz := r0.zips
      have e1 : (ds.zip ws).map (·.1) = ds := List.map_fst_zip (by omega)
      have e2 : (ds.zip ws).map (·.2) = ws := List.map_snd_zip (by omega)
      have eb1 : ((ds.zip ws).map fun t => (t.2, toP t.1)).map (·.1) = ws := by rw [List.map_map]; exact e2
      have eb2 : ((ds.zip ws).map fun t => (t.2, toP t.1)).map (·.2) = ds.map toP := by
        rw [List.map_map]
        have : ((fun (x : V × PyData) => x.2) ∘ fun (t : D × V) => (t.2, toP t.1)) = toP ∘ (·.1) := rfl
        rw [this, ← List.map_map, e1]
      have hmem : ∀ t ∈ ds.zip ws, lay 60 t.1 = true := fun t ht => List.all_eq_true.mp hl _ (by
        have : t.1 ∈ (ds.zip ws).map (·.1) := List.mem_map_of_mem ht
        rw [e1] at this; exact this)
      refine ⟨p, (ds.zip ws).map fun t => (t.2, toP t.1), rfl, by rw [eb1]; exact SqL.of eH, ?_, by rw [eb2]; exact al, by rw [eb2]; exact so, fun b hb => ?_, fun p2 np => ?_⟩
      · rw [eb1, eb2]
        have := dpAll_of (K := G.K) (H := H) (ts := ds.zip ws) fun t ht => dp_of sm (hmem t ht) (hz t ht)
        rw [e2] at this
        have e3 : ((ds.zip ws).map fun t => toP t.1) = ds.map toP := by
          have : (fun (t : D × V) => toP t.1) = toP ∘ (·.1) := rfl
          rw [this, ← List.map_map, e1]
        rw [e3] at this
        exact this
      · obtain ⟨t, ht, rfl⟩ := List.mem_map.mp hb
        exact (lay_ok (hmem t ht)).2
      · have es : (((ds.zip ws).map fun t => (t.2, toP t.1)).mergeSort (PySem.W.dataLe false (·.2))) = ((ds.zip ws).mergeSort fun a b => leD a.1 b.1).map fun t => (t.2, toP t.1) :=
          (List.map_mergeSort (r := fun (a b : D × V) => leD a.1 b.1) (s := PySem.W.dataLe false fun (x : V × PyData) => x.2) (f := fun (t : D × V) => (t.2, toP t.1)) (l := ds.zip ws) fun a _ b _ => rfl).symm
        have ed : ds.mergeSort leD = ((ds.zip ws).mergeSort fun a b => leD a.1 b.1).map (·.1) := by
          rw [List.map_mergeSort (s := leD) fun a _ b _ => rfl, e1]
        rw [es, List.map_map]
        rw [ed] at k
        have r2 : Rps G I H (((ds.zip ws).mergeSort fun a b => leD a.1 b.1).map (·.1)) (((ds.zip ws).mergeSort fun a b => leD a.1 b.1).map (·.2)) z0 := Rps.of_zips fun t ht => hz t ((List.mergeSort_perm _ _).mem_iff.mp ht)
        exact fin_lst sm r2 np k
    · cases e
  · cases e
end DL
end
section
set_option maxRecDepth 100000
namespace DL
open PySem PySem.Spec PyProof.Rows L2
theorem enum_at : ∀ {ds : List D} {k i : Nat}, (enumFrom k ds)[i]? = (ds[i]?).map fun d => .nd .tup [.sc (.int ((k + i : Nat) : Int)), d]
  | [], k, i => by simp [enumFrom]
  | d :: ds, k, 0 => by simp [enumFrom]
  | d :: ds, k, i + 1 => by
    show (enumFrom (k + 1) ds)[i]? = _
    rw [enum_at]
    have : k + 1 + i = k + (i + 1) := by omega
    rw [this]; rfl
section
variable {G : Gm} {W : WX} {pu : Bool} {das : DenA} {ta : TA}
theorem pair_new {I H : Hp} {T : Addr} {d e : D} {v w : V} (sm : ∀ a o, I a = some o → H a = some o) (n : H T = none) (x : Rp G I H d v z0) (y : Rp G I H e w z0) : Nw I H (upd I T (.tup [v, w])) (upd H T (.tup [v, w])) ∧ Rp G (upd I T (.tup [v, w])) (upd H T (.tup [v, w])) (.nd .tup [d, e]) (.ref T) z0 := by
  have r : Rps G I H [d, e] [v, w] z0 := ⟨v, [w], z0, z0, rfl, x, ⟨w, [], z0, z0, rfl, y, ⟨rfl, fun _ => rfl⟩, fun _ => rfl⟩, fun _ => rfl⟩
  exact ⟨Nw.fixP sm n, new_fix sm n rfl rfl r⟩
theorem walk_enum {K : PySem.W.Frag} {I H : Hp} {p : Addr} {ds : List D} {ws : List V} (e : I p = some (.lst ws)) (x : Rps G I H ds ws z0) : Walk G I (Ite K p) (enumFrom 0 ds) := by
  intro i I1 H1 a b
  have sq : SqL K H1 p ws := SqL.of (b _ _ (a _ _ e))
  rw [enum_at]
  refine ⟨fun d ed => ?_, fun hl => ⟨ws, sq, by rw [x.len]; cases h : ds[i]? with
    | none => exact List.getElem?_eq_none_iff.mp h
    | some d => 
      have := (List.getElem?_eq_some_iff.mp h).1
      have hl2 : (enumFrom 0 ds).length = ds.length := by
        have : ∀ (ds : List D) (k : Nat), (enumFrom k ds).length = ds.length := by
          intro ds; induction ds with
          | nil => intro k; rfl
          | cons d ds ih => intro k; simp [enumFrom, ih]
        exact this ds 0
      omega⟩⟩
  cases ec : ds[i]? with
  | none => rw [ec] at ed; cases ed
  | some c =>
    rw [ec] at ed; cases ed
    obtain ⟨v, ev, y⟩ := x.get0 ec
    refine ⟨⟨ws, v, sq, ev⟩, fun w H' q => ?_⟩
    obtain ⟨T, u, rfl, nT, rfl, q⟩ := q
    have := q ws sq
    rw [ev] at this; cases this
    have h0 : (0 + i : Nat) = i := by omega
    rw [h0]
    have z := pair_new (T := T) b nT (show Rp G I1 H1 (.sc (.int (i : Nat))) (.int (i : Nat)) z0 from ⟨rfl, fun _ => rfl⟩) (y.up a)
    exact ⟨_, z.1, z.2⟩
/-- enumerate(xs) -/
def dEnum (das : DenA) : DenI := fun E => (das E).bind fun r => match r.1 with
  | [.val (.nd (.lst _) ds)] => .ok (enumFrom 0 (fzs ds), r.2)
  | _ => .bad
def dZip (das : DenA) : DenI := fun E => (das E).bind fun r => match r.1 with
  | [.val (.nd (.lst _) ds), .val (.nd (.lst _) es)] => .ok (zipD (fzs ds) (fzs es), r.2)
  | _ => .bad
theorem t_enum (ha : ∀ σ H Q, tA G W pu das σ H Q → ta σ H Q) : ∀ σ H Q, tI G W (dEnum das) σ H Q → iEnum G.K ta σ H Q := by
  rintro σ H Q ⟨I, E, vs, f, s, hh⟩
  refine ha _ _ _ ⟨I, E, vs, f, s, hh.fst fun r er h => ?_⟩
  intro ws I' H' f' g s' o n fr e
  split at h
  · rename_i os m ds eo
    obtain ⟨os, E1⟩ := r
    dsimp only at eo
    subst eo
    obtain ⟨v, vr, g1, g2, rfl, y, z, q⟩ := o
    obtain ⟨rfl, hg2⟩ := z
    have hq : ∀ a, g a = g1 a := fun a => by rw [q a, hg2 a]; rfl
    obtain ⟨I2, p, ws2, ob, s2, rfl, eI, st, x, fr2⟩ := cool_nd s' y (fun a => by have := n a; rw [hq a] at this; exact this)
    cases st
    refine ⟨p, ws2, rfl, SqL.of (s2.sm _ _ eI), ?_⟩
    have fr1 : Fr pu I H f I' H' (fadd f' g1) := fr.less fun a z => by have := hq a; simp at z ⊢; omega
    exact h (Ite G.K p) I2 H' f' s2 ((fr1.trans fr2).imp fun z => by cases z) (walk_enum eI x)
  · exact h.elim
end
section
variable {X : Cx} {G : Gm} {W : WX} {p : Bool} {e e2 : Expr} {das : DenA} {pos tpos q : Pos} {elts : List Expr} {kk : Nat}
theorem jenum (hK : G.K = X.K) (hm : X.mg "enumerate" = none) (ha : JA X G W p [e] das) (hg : Gl X "enumerate" := by rfl) (hs : starEach [e] X.env = [(false, eval e X.env)] := by rfl) : JI X G W (.Tuple elts kk tpos) (.Call (.Name "enumerate" q) [e] [] pos) (dEnum das) := PI_imp (pi_enum hg hm ha hs) (hK ▸ t_enum fun _ _ _ h => h)
end
end DL
end
section
set_option maxRecDepth 100000
namespace DL
open PySem PySem.Spec PyProof.Rows L2
def fSumX : List D → Option D
  | [.nd (.lst _) ds] => (intsD ds).map fun ns => .sc (.int ns.sum)
  | [.nd .tup ds] => (intsD ds).map fun ns => .sc (.int ns.sum)
  | _ => none
end DL
end
section
set_option maxRecDepth 100000
namespace DL
open PySem PySem.Spec PyProof.Rows L2
section
variable {G : Gm} {I H : Hp} {K : PySem.W.Frag}
theorem Rps.two {ds : List D} {ws : List V} {f : Ft} (n : Nat) (x : Rps G I H ds ws f) : ∃ g h, Rps G I H (ds.take n) (ws.take n) g ∧ Rps G I H (ds.drop n) (ws.drop n) h ∧ ∀ a, f a = g a + h a := by
  have hl := x.len
  rw [← List.take_append_drop n ds] at x
  obtain ⟨v1, v2, g, h, rfl, y, z, q⟩ := x.split
  have l1 := y.len
  have e1 : (v1 ++ v2).take n = v1 := by
    by_cases hn : n ≤ ds.length
    · rw [List.length_take, Nat.min_eq_left hn] at l1
      rw [← l1, List.take_left]
    · have : v2 = [] := by
        have := z.len
        rw [List.drop_of_length_le (by omega)] at this
        exact List.eq_nil_of_length_eq_zero (by simpa using this)
      subst this
      rw [List.append_nil, List.take_of_length_le]
      rw [List.length_take] at l1; omega
  have e2 : (v1 ++ v2).drop n = v2 := by
    have := List.take_append_drop n (v1 ++ v2)
    rw [e1] at this
    exact List.append_cancel_left this
  rw [e1, e2]
  exact ⟨g, h, y, z, q⟩
def mInsert : MutF := fun k ds as => match k, as with
  | .lst true, [.sc (.int i), c] => if ds.length < 100000 ∧ 0 ≤ i ∧ i ≤ 100000 then some (.sc .non, .lst true, ds.take i.toNat ++ [c] ++ ds.drop i.toNat) else none
  | _, _ => none
/-- xs[::-1] -/
def fRevL : List D → Option D
  | [.nd (.lst _) ds] => if Fzs ds then some (.nd (.lst true) ds.reverse) else none
  | _ => none
end
end DL
end
section
set_option maxRecDepth 100000
namespace DL
open PySem L2
def putB (i : Nat) (d : D) : S → S
  | .nx E => match E[i]? with
    | some .lent => .nx (E.set i d)
    | _ => .bad
  | .rt c E => .rt c E
  | .exc c fs E => .exc c fs E
  | _ => .bad
def dForB (i : Nat) (dg : DenG) (b : DenS) : DenS := fun E => match E[i]? with
  | some (.nd (.lst true) ds) => if ds.all Fz then putB i (.nd (.lst true) ds) (loopD dg b ds (E.set i .lent)) else .bad
  | _ => .bad
section
variable {G : Gm} {W : WX} {A B : List Nat} {g : TG} {t : TS} {dg : DenG} {b : DenS} {K : PySem.W.Frag}
theorem set_same {vs : List V} {i : Nat} {v : V} (e : vs[i]? = some v) : vs.set i v = vs := by
  obtain ⟨hl, e2⟩ := List.getElem?_eq_some_iff.mp e
  rw [← e2, List.set_getElem_self]
theorem restore {σ : St} {I H : Hp} {E : List D} {vs : List V} {f : Ft} {i : Nat} {p : Addr} {ds : List D} {ws : List V} (s : Stt G σ I H E vs f) (el : E[i]? = some .lent) (ev : vs[i]? = some (.ref p)) (eH : H p = some (.lst ws)) (eI : I p = none) (f0 : f p = 0) (x : Rps G I H ds ws z0) :
    ∃ f', Stt G σ I H (E.set i (.nd (.lst true) ds)) vs f' ∧ ∀ a, f' a ≤ f a + one1 p a := by
  obtain ⟨w, gg, h, e1, y, q, k⟩ := s.rp.get el
  have ew : w = .ref p := Option.some.inj (e1.symm.trans ev)
  subst ew
  have n : Rp G I H (.nd (.lst true) ds) (.ref p) (one1 p) := ⟨p, ws, z0, .lst ws, rfl, rfl, x, .inl ⟨rfl, eI, eH, fun a => by simp⟩⟩
  have k' := k (I' := I) (H' := H) (fun _ _ e => e) n fun a z => ⟨(s.rp.trk a (by have := q a; omega)).1, rfl⟩
  rw [set_same ev] at k'
  refine ⟨_, ⟨⟨by simp [s.sl.1], fun j d v e1 n1 e2 => ?_⟩, s.sm, k', fun a => ?_⟩, fun a => ?_⟩
  · by_cases hj : i = j
    · subst hj
      exact s.sl.2 i .lent v el (by intro z; cases z) e2
    · rw [List.getElem?_set_ne hj] at e1
      exact s.sl.2 j d v e1 n1 e2
  · by_cases ha : a = p
    · subst ha
      have := q a; simp [one1_self]; omega
    · have := q a; have := s.nd a; simp [one1_ne ha]; omega
  · have := q a; simp; omega
theorem t_forB {i : Nat} (hi : i ∉ A ++ B) (hg : TgS G A g dg) (h1 : ∀ D σ H, tS G W B b D σ H → t D σ H) : ∀ D σ H, tS G W (A ++ B) (dForB i dg b) D σ H → tFor (iList K (tVar i)) g t D σ H := by
  rintro D σ H ⟨I, E, vs, f, s, hh⟩
  unfold dForB at hh
  split at hh
  · rename_i ds eE
    split at hh
    · rename_i hf
      obtain ⟨v, gg, h0, ev, y, q, k⟩ := s.rp.get eE
      obtain ⟨p, ws, g1, ob, rfl, st, x, c⟩ := y
      cases st
      rcases c with ⟨_, eI, eH, qq⟩ | ⟨z, _⟩
      rotate_left
      · cases z
      have x0 := x.cold hf
      have hlen := x.len
      have z1 : ∀ a, g1 a = 0 := x.zero_of_fz hf
      have hv : σ[i]? = some (some (.ref p)) := s.sl.2 i _ _ eE (by intro z; cases z) ev
      have k' := k (I' := I) (H' := H) (d' := .lent) (v' := .ref p) (g' := z0) (fun _ _ e => e) (fun _ => rfl) fun a z => ⟨(s.rp.trk a (by have := q a; omega)).1, rfl⟩
      rw [set_same ev] at k'
      have s0 : Stt G σ I H (E.set i .lent) vs h0 := ⟨⟨by simp [s.sl.1], fun j d v e1 n1 e2 => by
        by_cases hj : i = j
        · subst hj; rw [ev] at e2; cases e2; exact hv
        · rw [List.getElem?_set_ne hj] at e1
          exact s.sl.2 j d v e1 n1 e2⟩, s.sm, k'.eqv fun a => by simp, fun a => by have := q a; have := s.nd a; omega⟩
      have p0 : h0 p = 0 := by have := q p; have := qq p; have := s.nd p; rw [one1_self] at *; omega
      refine ⟨.ref p, hv, p, rfl, ⟨ws, SqL.of eH⟩, ?_⟩
      -- the invariant
      refine ⟨fun n m σ' H' => ∃ I' E' vs' f', m = ds.length - n ∧ n ≤ ds.length ∧ Stt G σ' I' H' E' vs' f' ∧ Fr false I H f I' H' (fadd f' (one1 p)) ∧ Agr (A ++ B) vs vs' ∧ H' p = some (.lst ws) ∧ I' p = none ∧ f' p = 0 ∧ AnsS G W (A ++ B) I H f vs D (putB i (.nd (.lst true) ds) (loopD dg b (ds.drop n) E')),
        ⟨ds.length, I, _, vs, h0, by simp, Nat.zero_le _, s0, Fr.refl.less fun a z => by have := q a; have := qq a; simp at z; omega, Agr.refl, eH, eI, p0, hh⟩, ?_⟩
      rintro n m σ2 H2 ⟨I2, E2, vs2, f2, rfl, hn, s2, fr2, ag2, eH2, eI2, p2, h2⟩
      have x2 : Rps G I2 H2 ds ws z0 := x0.up fr2.im
      have evi : ∀ {vs3 : List V}, Agr (A ++ B) vs vs3 → vs3[i]? = some (.ref p) := fun {vs3} ag => by rw [ag i hi]; exact ev
      by_cases hl : n < ds.length
      · have ed : ds[n]? = some ds[n] := List.getElem?_eq_getElem hl
        rw [List.drop_eq_getElem_cons hl] at h2
        obtain ⟨w, ew, yw⟩ := x2.get0 ed
        refine .inr ⟨⟨ws, w, SqL.of eH2, ew⟩, fun σ' H' => ∃ I' E' vs' f', Stt G σ' I' H' E' vs' f' ∧ Fr false I H f I' H' (fadd f' (one1 p)) ∧ Agr (A ++ B) vs vs' ∧ H' p = some (.lst ws) ∧ I' p = none ∧ f' p = 0 ∧ AnsS G W (A ++ B) I H f vs D (putB i (.nd (.lst true) ds) (loopD dg b (ds.drop (n + 1)) E')), fun σ' H' q => ?_, fun xx Hn qy => ?_⟩
        · obtain ⟨I', E', vs', f', a1, a2, a3, a4, a5, a6, a7⟩ := q
          exact ⟨ds.length - (n + 1), by omega, I', E', vs', f', rfl, hl, a1, a2, a3, a4, a5, a6, a7⟩
        · obtain ⟨eHH, qy⟩ := qy
          have eHH := eHH.symm
          subst eHH
          have exx := qy ws (SqL.of eH2)
          rw [ew] at exx; cases exx
          have h2' : AnsS G W (A ++ B) I H f vs D (putB i (.nd (.lst true) ds) (match dg ds[n] E2 with
            | some E1 => match b E1 with
              | .nx E' => loopD dg b (ds.drop (n + 1)) E'
              | .ct E' => loopD dg b (ds.drop (n + 1)) E'
              | .bk E' => .nx E'
              | s => s
            | none => .bad)) := h2
          split at h2'
          · rename_i E4 e4
            refine hg _ w σ2 I2 H2 E2 E4 vs2 f2 z0 _ s2 yw (fun a => by simp; exact s2.nd a) e4 fun σ4 vs4 f4 s4 ag4 le4 _ => ?_
            have le4' : ∀ a, f4 a ≤ f2 a := fun a => by have := le4 a; simpa using this
            have p4 : f4 p = 0 := by have := le4' p; omega
            have fr4 : Fr false I H f I2 H2 (fadd f4 (one1 p)) := fr2.cut fun a => by have := le4' a; simp; omega
            have fr4' : Fr false I H f I2 H2 f4 := fr4.cut fun a => by simp
            have agA : Agr (A ++ B) vs vs4 := fun j hj => by
              rw [ag4 j fun z => hj (List.mem_append_left _ z)]; exact ag2 j hj
            refine h1 _ _ _ ⟨I2, E4, vs4, f4, s4, ?_⟩
            -- what a step of the body leaves
            have side : ∀ {I' H' : Hp} {f' g' : Ft}, Fr false I2 H2 f4 I' H' (fadd f' g') → H' p = some (.lst ws) ∧ I' p = none ∧ f' p = 0 ∧ g' p = 0 ∧ Fr false I H f I' H' (fadd (fadd f' g') (one1 p)) := fun {I' H' f' g'} fr => by
              have a1 := fr.kp p _ eH2 p4
              have a2 := fr.un p _ eH2 p4 eI2
              have a3 : fadd f' g' p = 0 := by
                by_cases z : fadd f' g' p = 0
                · exact z
                · rcases fr.nw p z with r | r
                  · exact absurd p4 r
                  · rw [eH2] at r; cases r
              refine ⟨a1, a2, by simp at a3; omega, by simp at a3; omega, ?_⟩
              have w := fr.with (g := one1 p)
              exact (fr4.trans w).imp fun z => by cases z
            have agB : ∀ {vs' : List V}, Agr B vs4 vs' → Agr (A ++ B) vs vs' := fun {vs'} ag j hj => by
              rw [ag j fun z => hj (List.mem_append_right _ z)]; exact agA j hj
            cases eb : b E4 with
            | nx E' =>
              rw [eb] at h2'
              intro σ' vs' I' H' f' s' ag fr
              obtain ⟨b1, b2, b3, _, b5⟩ := side (g' := z0) (fr.less fun a z => by simpa using z)
              exact ⟨I', E', vs', f', s', b5.less fun a z => by simp at z ⊢; omega, agB ag, b1, b2, b3, h2'⟩
            | ct E' =>
              rw [eb] at h2'
              intro σ' vs' I' H' f' s' ag fr
              obtain ⟨b1, b2, b3, _, b5⟩ := side (g' := z0) (fr.less fun a z => by simpa using z)
              exact ⟨I', E', vs', f', s', b5.less fun a z => by simp at z ⊢; omega, agB ag, b1, b2, b3, h2'⟩
            | bk E' =>
              rw [eb] at h2'
              intro σ' vs' I' H' f' s' ag fr
              obtain ⟨b1, b2, b3, _, b5⟩ := side (g' := z0) (fr.less fun a z => by simpa using z)
              have h3 : AnsS G W (A ++ B) I H f vs D (match E'[i]? with
                | some .lent => S.nx (E'.set i (.nd (.lst true) ds))
                | _ => S.bad) := h2'
              split at h3
              · rename_i el
                have x3 : Rps G I' H' ds ws z0 := x2.up fr.im
                obtain ⟨f5, s5, le5⟩ := restore s' el (evi (agB ag)) b1 b2 b3 x3
                exact h3 σ' vs' I' H' f5 s5 (agB ag) (b5.cut fun a => by have := le5 a; simp; omega)
              · exact h3.elim
            | rt cc E' =>
              rw [eb] at h2'
              intro vv σ' vs' I' H' f' g' s' ag yv nn fr
              obtain ⟨b1, b2, b3, b4, b5⟩ := side fr
              exact h2' vv σ' vs' I' H' f' g' s' (agB ag) yv nn (b5.cut fun a => by simp)
            | exc cc fs E' =>
              rw [eb] at h2'
              intro cls dd σ' vs' I' H' f' s' ag xa fr
              obtain ⟨b1, b2, b3, _, b5⟩ := side (g' := z0) (fr.less fun a z => by simpa using z)
              exact h2' cls dd σ' vs' I' H' f' s' (agB ag) xa (b5.cut fun a => by simp)
            | bad => rw [eb] at h2'; exact h2'.elim
          · exact h2'.elim
      · have e : n = ds.length := by omega
        subst e
        rw [List.drop_length] at h2
        refine .inl ⟨⟨ws, SqL.of eH2, by omega⟩, ?_⟩
        have h3 : AnsS G W (A ++ B) I H f vs D (match E2[i]? with
          | some .lent => S.nx (E2.set i (.nd (.lst true) ds))
          | _ => S.bad) := h2
        split at h3
        · rename_i el
          obtain ⟨f5, s5, le5⟩ := restore s2 el (evi ag2) eH2 eI2 p2 x2
          exact h3 σ2 vs2 I2 H2 f5 s5 ag2 (fr2.cut fun a => by have := le5 a; simp; omega)
        · exact h3.elim
    · exact hh.elim
  · exact hh.elim
end
end DL
end
section
set_option maxRecDepth 100000
namespace DL
open PySem PySem.Spec PyProof.Rows L2
def dForX (i : Nat) (dg : DenG) (b : DenS) : DenS := fun E => match E[i]? with
  | some (.nd (.lst true) ds) => if ds.all Fz then putB i (.nd (.lst true) ds) (loopD dg b ds (E.set i .lent)) else .bad
  | _ => dFor (iSeq (dCopy (rName i))) dg b E
section
variable {G : Gm} {W : WX} {A B : List Nat} {g : TG} {t : TS} {dg : DenG} {b : DenS} {K : PySem.W.Frag} {wi : TI}
theorem t_forX {i : Nat} (hi : i ∉ A ++ B) (hg : TgS G A g dg) (h0 : ∀ σ H Q, tI G W (iSeq (dCopy (rName i))) σ H Q → wi σ H Q) (h1 : ∀ D σ H, tS G W B b D σ H → t D σ H) : ∀ D σ H, tS G W (A ++ B) (dForX i dg b) D σ H → tFor (fun σ H Q => iList K (tVar i) σ H Q ∨ wi σ H Q) g t D σ H := by
  rintro D σ H ⟨I, E, vs, f, s, hh⟩
  have hh0 := hh
  unfold dForX at hh
  split at hh
  · rename_i ds eE
    have hb : AnsS G W (A ++ B) I H f vs D (dForB i dg b E) := by unfold dForB; rw [eE]; exact hh
    exact .inl (t_forB (K := K) hi hg h1 D σ H ⟨I, E, vs, f, s, hb⟩)
  · exact .inr (t_for hg h0 h1 D σ H ⟨I, E, vs, f, s, hh⟩)
end
theorem jforX {X : Cx} {G : Gm} {W : WX} {A B : List Nat} {ss : List Stmt} {ds : DenS} {pos q : Pos} {tg : Expr} {g : TG} {dg : DenG} (i : Nat) {x : Str} (hi : i ∉ A ++ B) (hp : PassesOwn (model X.prog X.w) X.A X.env X.xe) (hg : PG X tg g) (ht : TgS G A g dg) (hb : JB X G W B ss ds)
    (hN : X.N[i]? = some x := by rfl) (hv : Vis X.env.scope x := by first | exact Or.inl rfl | exact Or.inr (Or.inl rfl) | exact Or.inr (Or.inr rfl)) (hd : (x == ("__debug__" : Str)) = false := by decide) (hcd : (x == ("__classdict__" : Str)) = false := by decide)
    (hc : X.calm = true := by rfl) (hs : ∀ y, foldedSetIterable (.Name x q) X.env y = pure y := by intro _; rfl) : JS X G W (A ++ B) (.For tg (.Name x q) ss [] pos) (dForX i dg ds) :=
  PS_imp (ps_for hp hc (PI_or (pi_list (pv i hN hv hd hcd)) (PI_or (PI_or (pi_list (jcp (G := G) (W := W) (jv i hN hv hd hcd))) (pi_tup (jcp (G := G) (W := W) (jv i hN hv hd hcd)))) (pi_str (jcp (G := G) (W := W) (jv i hN hv hd hcd))))) hg hb hs)
    (t_forX hi ht (t_iseq (fun _ _ _ h => h)) (fun _ _ _ h => h))
end DL
end
section
set_option maxRecDepth 100000
namespace DL
open PySem PySem.Spec PyProof.Rows L2
abbrev fLt : List D → Option D := fCmp (fun i j => decide (i < j)) (fun i j => decide (i < j))
abbrev fLe : List D → Option D := fCmp (fun i j => decide (i ≤ j)) (fun i j => !decide (j < i))
abbrev fGt : List D → Option D := fCmp (fun i j => decide (j < i)) (fun i j => decide (j < i))
theorem bt_len : bootBuiltins "len" = some (.builtin "len") := by decide +kernel
theorem bt_all : bootBuiltins "all" = some (.builtin "all") := by decide +kernel
theorem bt_max : bootBuiltins "max" = some (.builtin "max") := by decide +kernel
theorem bt_divmod : bootBuiltins "divmod" = some (.builtin "divmod") := by decide +kernel
theorem bt_isinstance : bootBuiltins "isinstance" = some (.builtin "isinstance") := by decide +kernel
theorem bt_sorted : bootBuiltins "sorted" = some (.builtin "sorted") := by decide +kernel
theorem bt_int : bootBuiltins "int" = some (.type "int") := by decide +kernel
theorem bt_str : bootBuiltins "str" = some (.type "str") := by decide +kernel
section
variable {X : Cx} {G : Gm} {W : WX} {p : Bool} {a e : Expr} {d : Den} {pos : Pos}
theorem call_intX : CallR X (.type "int") rIntX := call_int1.or call_int_str
theorem jgi {x : Str} {n : Int} (h : ∃ t, X.mg x = some (.int n t)) (hg : Gl X x := by rfl) (hd : (x == ("__debug__" : Str)) = false := by decide) : JE X G W true (.Name x pos) (rC (.int n)) := by
  obtain ⟨t, h⟩ := h
  exact PE_imp (pe_glob (v := .int n) hg h ⟨_, rfl⟩ hd) t_c
theorem jgs {x : Str} {n : Str} (h : ∃ t, X.mg x = some (.str n t)) (hg : Gl X x := by rfl) (hd : (x == ("__debug__" : Str)) = false := by decide) : JE X G W true (.Name x pos) (rC (.str n)) := by
  obtain ⟨t, h⟩ := h
  exact PE_imp (pe_glob (v := .str n) hg h ⟨_, rfl⟩ hd) t_c
theorem jnever {s : Stmt} : JS X G W [] s dNever := PS_imp ps_never t_never
end
/-- the law's promise from its mirror -/
theorem ok_script {P : Program} {w : World} {K : PySem.W.Frag} {mg : Str → Option Value} {base : Heap} {k : Nat} {f : Addr} {fd : FuncData} {ps : List Str} {cls : Nat → Addr} {F : Fn} {C : List Int → Prop} (ok : FnOk P w K mg base (L2N.CX P w) k f fd ps (spOf ⟨cls, K⟩ F))
    (h : ∀ ns : List Int, ns.length ≤ 63 → C ns → ∃ r, F [.kl ns] = .ok (.sc (.bl true), r)) :
    FnOk P w K mg base (L2N.CX P w) k f fd ps (fun vs H Q _ => ∃ (a : Addr) (ns : List Int), vs = [.ref a] ∧ SqL K H a (ns.map V.int) ∧ ns.length ≤ 63 ∧ C ns ∧ ∀ H', Q (.bl true) H') :=
  ok.imp fun vs H Q E hh => by
    obtain ⟨a, ns, rfl, hS, hl, hc, q⟩ := hh
    obtain ⟨r, e⟩ := h ns hl hc
    refine ⟨H, [.kl ns], z0, fun _ _ h => h, ⟨.ref a, [], z0, z0, rfl, ⟨⟨a, rfl, hS⟩, fun _ => rfl⟩, ⟨rfl, fun _ => rfl⟩, fun _ => rfl⟩, fun _ => Nat.zero_le _, ?_⟩
    rw [e]
    intro v I' H' g g' _ _ hv _ _
    obtain ⟨rfl, _⟩ := hv
    exact q H'
end DL
end
section
set_option maxRecDepth 100000
namespace DL
open PySem PySem.Spec PyProof.Rows L2
def mClear : MutF := fun k ds as => match k, as with
  | .lst true, [] => some (.sc .non, .lst true, [])
  | _, _ => none
section
variable {G : Gm}
/-- the first place of an equal one -/
def ixD (c : D) (ds : List D) : Option Nat := ds.findIdx? fun z => PyData.eqv (toP z) (toP c)
def mIndex : MutF := fun k ds as => match k, as with
  | .lst true, [c] => if ds.all (lay 60) && lay 60 c then (ixD c ds).map fun j => (.sc (.int (j : Nat)), .lst true, ds) else none
  | _, _ => none
def mCount : MutF := fun k ds as => match k, as with
  | .lst true, [.sc (.int i)] => (intsD ds).map fun ns => (.sc (.int (ns.count i : Nat)), .lst true, ds)
  | _, _ => none
end
end DL
end
section
set_option maxRecDepth 100000
namespace DL
open PySem PySem.Spec PyProof.Rows L2
end DL
end
section
set_option maxRecDepth 100000
namespace DL
open PySem PySem.Spec PyProof.Rows L2
structure Sides (L : List (Addr × List V)) (I H : Hp) (f : Ft) : Prop where
  h : ∀ x ∈ L, H x.1 = some (.lst x.2)
  i : ∀ x ∈ L, I x.1 = none
  z : ∀ x ∈ L, f x.1 = 0
section
variable {G : Gm} {W : WX} {A B : List Nat} {g : TG} {t : TS} {dg : DenG} {b : DenS} {L : List (Addr × List V)}
theorem Sides.nw {I H I' H' : Hp} {f : Ft} (s : Sides L I H f) (n : Nw I H I' H') : Sides L I' H' f :=
  ⟨fun x hx => n.kp _ _ (s.h x hx), fun x hx => n.un _ _ (s.h x hx) (s.i x hx), s.z⟩
theorem Sides.fr {p : Bool} {I H I' H' : Hp} {f f' : Ft} (s : Sides L I H f) (fr : Fr p I H f I' H' f') : Sides L I' H' f' :=
  ⟨fun x hx => fr.kp _ _ (s.h x hx) (s.z x hx), fun x hx => fr.un _ _ (s.h x hx) (s.z x hx) (s.i x hx), fun x hx => by
    by_cases z : f' x.1 = 0
    · exact z
    · rcases fr.nw _ z with r | r
      · exact absurd (s.z x hx) r
      · rw [s.h x hx] at r; cases r⟩
end
end DL
end
section
set_option maxRecDepth 100000
namespace DL
open PySem PySem.Spec PyProof.Rows L2
def asd (i : Nat) (m : Bool) (E : List D) : List D := if m then E.set i .lent else E
def K1 (i : Nat) (m : Bool) (ds : List D) (s : S) : S := if m then putB i (.nd (.lst true) ds) s else s
section
variable {G : Gm} {W : WX} {A B : List Nat}
def dForE (i : Nat) (dg : DenG) (b : DenS) : DenS := fun E => match E[i]? with
  | some (.nd (.lst m) ds) => if ds.all Fz then K1 i m ds (loopD dg b (enumFrom 0 ds) (asd i m E)) else .bad
  | _ => .bad
def dForZ (i j : Nat) (dg : DenG) (b : DenS) : DenS := fun E => match E[i]?, E[j]? with
  | some (.nd (.lst m) ds), some (.nd (.lst m') es) => if ds.all Fz && es.all Fz then K1 i m ds (K1 j m' es (loopD dg b (zipD ds es) (asd j m' (asd i m E)))) else .bad
  | _, _ => .bad
variable {g : TG} {t : TS} {dg : DenG} {b : DenS}
end
end DL
end
section
set_option maxRecDepth 100000
namespace DL
open PySem PySem.Spec PyProof.Rows L2
def ixT (r : List Opd × List D) : R (Opd × List D) := match r.1 with
  | [.val (.nd k ds), q] => match cont r.2 q with
    | some (.sc (.int i)) => if k.seq then (match ixN ds.length i with
      | some j => match ds[j]? with
        | some d => .ok (.val d, r.2)
        | none => .bad
      | none => .bad) else .bad
    | _ => .bad
  | _ => .bad
def dIxT (pu2 : Bool) (d1 d2 : Den) : Den := fun E => (aCons pu2 d1 (aCons true d2 aNil) E).bind ixT
end DL
end
section
set_option maxRecDepth 100000
namespace DL
open PySem PySem.Spec PyProof.Rows L2
section
variable {X : Cx} {G : Gm} {W : WX} {p p1 p2 : Bool} {e o : Expr} {es : List Expr} {d0 : Den} {das : DenA} {pos ap : Pos}
theorem jmeth {CX : CXT} {k c : Nat} {f : Addr} {fd : FuncData} {ps : List Str} {F : Fn} {Ex : XK} {m : Str} {pl : Sem Bool} (hx : Passes CX X Ex) (hE : ∀ cls d σ H, W cls d σ H → Ex cls d H) (cl : Cls X.K (G.cls c)) (hm : Meth X.K (G.cls c) m f)
    (ok : FnOk X.prog X.w X.K X.mg X.base CX k f fd ps (spOf G F)) (hr : Room k X.A) (hb : Binds X.K fd ps []) (h0 : JE X G W p1 o d0) (ha : JA X G W p2 (e :: es) das)
    (hst : starEach (e :: es) X.env = (false, eval e X.env) :: starEach es X.env := by rfl) (hpl : (backTo pos (starEach es X.env)).any (·.1) = false := by rfl)
    (ht : eval (.Call (.Attribute o m ap) (e :: es) [] pos) X.env = (do
      let ov ← eval o X.env
      standAt ap.atName
      let (f, first) ← holding [ov] (getMethod ov m pl)
      callWith pos f first (backTo pos (starEach (e :: es) X.env)) (backToKw pos (keywordEach [] X.env))) := by rfl) :
    JE X G W false (.Call (.Attribute o m ap) (e :: es) [] pos) (dMeth c m F p2 d0 das) :=
  PE_imp (pe_meth (pl := pl) h0 cl hm ok hr hb .nil hx ha hst hpl ht) (t_meth hE (fun _ _ _ h => h) (fun _ _ _ h => h))
theorem jmeth0 {CX : CXT} {k c : Nat} {f : Addr} {fd : FuncData} {ps : List Str} {F : Fn} {Ex : XK} {m : Str} {pl : Sem Bool} (hx : Passes CX X Ex) (hE : ∀ cls d σ H, W cls d σ H → Ex cls d H) (cl : Cls X.K (G.cls c)) (hm : Meth X.K (G.cls c) m f)
    (ok : FnOk X.prog X.w X.K X.mg X.base CX k f fd ps (spOf G F)) (hr : Room k X.A) (hb : Binds X.K fd ps []) (h0 : JE X G W p1 o d0)
    (ht : eval (.Call (.Attribute o m ap) [] [] pos) X.env = (do
      let ov ← eval o X.env
      standAt ap.atName
      let (f, first) ← holding [ov] (getMethod ov m pl)
      callWith pos f first (backTo pos (starEach [] X.env)) (backToKw pos (keywordEach [] X.env))) := by rfl) :
    JE X G W false (.Call (.Attribute o m ap) [] [] pos) (dMeth c m F true d0 aNil) :=
  PE_imp (pe_meth0 (pl := pl) h0 cl hm ok hr hb .nil hx ht) (t_meth hE (fun _ _ _ h => h) t_anil)
theorem jmake0 {CX : CXT} {k c : Nat} {f : Addr} {fd : FuncData} {ps : List Str} {F : Fn} {Ex : XK} {x : Str} {q : Pos} (hx : Passes CX X Ex) (hE : ∀ cls d σ H, W cls d σ H → Ex cls d H) (M : Mk X.K (G.cls c) f)
    (ok : FnOk X.prog X.w X.K X.mg X.base CX k f fd ps (spOf G F)) (hr : Room (k + 1) X.A) (hm : X.mg x = some (.ref (G.cls c))) (hb : Binds X.K fd ps [])
    (hg : Gl X x := by rfl) (hdb : (x == ("__debug__" : Str)) = false := by decide) :
    JE X G W false (.Call (.Name x q) [] [] pos) (dMake c F aNil) := PE_imp (pe_make0 M ok hr hg hm hb .nil hx hdb) (t_make hE t_anil)
end
def rngC (lo c : Int) (n : Nat) : List D := (List.range n).map fun (k : Nat) => .sc (.int (lo + (k : Int) * c))
def dR3 (das : DenA) : DenI := fun E => (das E).bind fun r => match conts r.2 r.1 with
  | some [.sc (.int i), .sc (.int j), .sc (.int c)] => if 0 < c ∧ c < 1073741824 ∧ Builtin.Range.small i j c = true then .ok (rngC i c (Builtin.Range.rangeSize i j c).toNat, r.2) else .bad
  | _ => .bad
section
variable {G : Gm} {I H : Hp}
theorem Rp.uniq {d : D} : ∀ {v : V} {f f' : Ft}, Rp G I H d v f → Rp G I H d v f' → ∀ a, f a = f' a := by
  refine D.rec (motive_1 := fun d => ∀ {v : V} {f f' : Ft}, Rp G I H d v f → Rp G I H d v f' → ∀ a, f a = f' a) (motive_2 := fun ds => ∀ {vs : List V} {f f' : Ft}, Rps G I H ds vs f → Rps G I H ds vs f' → ∀ a, f a = f' a) ?_ ?_ ?_ ?_ ?_ ?_ ?_ d
  · intro v f f' x y a; rw [x a, y a]
  · intro v f f' x y a; rw [x a, y a]
  · intro w v f f' x y a; rw [x.2 a, y.2 a]
  · intro k ds ih v f f' x y a
    obtain ⟨p, vs, g, o, rfl, s, z, q⟩ := x
    obtain ⟨p', vs', g', o', ep, s', z', q'⟩ := y
    cases ep
    have eo : o = o' := by
      rcases q with ⟨m, _, e, _⟩ | ⟨m, e, _⟩ <;> rcases q' with ⟨m', _, e', _⟩ | ⟨m', e', _⟩
      · exact Option.some.inj (e.symm.trans e')
      · rw [m] at m'; cases m'
      · rw [m] at m'; cases m'
      · exact Option.some.inj (e.symm.trans e')
    subst eo
    have ev := Kd.st_inj s s'
    subst ev
    have hg := ih z z' a
    rcases q with ⟨m, _, _, q⟩ | ⟨m, _, q⟩ <;> rcases q' with ⟨m', _, _, q'⟩ | ⟨m', _, q'⟩
    · rw [q a, q' a, hg]
    · rw [m] at m'; cases m'
    · rw [m] at m'; cases m'
    · rw [q a, q' a, hg]
  · intro xs v f f' x y a; rw [x.2 a, y.2 a]
  · intro vs f f' x y a; rw [x.2 a, y.2 a]
  · intro d ds ih1 ih2 vs f f' x y a
    obtain ⟨v, ws, g, h, rfl, x1, x2, q⟩ := x
    obtain ⟨v', ws', g', h', ev, y1, y2, q'⟩ := y
    cases ev
    rw [q a, q' a, ih1 x1 y1 a, ih2 x2 y2 a]
theorem Rps.uniq : ∀ {ds : List D} {vs : List V} {f f' : Ft}, Rps G I H ds vs f → Rps G I H ds vs f' → ∀ a, f a = f' a
  | [], vs, f, f', x, y, a => by rw [x.2 a, y.2 a]
  | d :: ds, vs, f, f', x, y, a => by
    obtain ⟨v, ws, g, h, rfl, x1, x2, q⟩ := x
    obtain ⟨v', ws', g', h', ev, y1, y2, q'⟩ := y
    cases ev
    rw [q a, q' a, x1.uniq y1 a, Rps.uniq x2 y2 a]
end
def tysD : List D → Option (List String)
  | [] => some []
  | .sc (.ty m) :: ds => (tysD ds).map (m :: ·)
  | _ :: _ => none
def isiAny (n : String) : List String → Option Bool
  | [] => some false
  | m :: ms => match isiD n m with
    | some true => some true
    | some false => isiAny n ms
    | none => none
def fIsiT : List D → Option D
  | [x, .nd .tup ts] => match tyD x, tysD ts with
    | some n, some ms => (isiAny n ms).map fun b => .sc (.bl b)
    | _, _ => none
  | _ => none
mutual
/-- nothing in it is frozen -/
def hotD : D → Bool
  | .sc _ => true
  | .nd k ds => k.mut && hotDs ds
  | _ => false
def hotDs : List D → Bool
  | [] => true
  | d :: ds => hotD d && hotDs ds
end
def dViewL (d : Den) : Den := fun E => match d (fzs E) with
  | .ok r => match r.1 with
    | .val c => if hotD c then .ok (.val c, E) else .bad
    | _ => .bad
  | _ => .bad
end DL
end
section
set_option maxRecDepth 100000
namespace DL
open PySem PySem.Spec PyProof.Rows L2 RT
def keyK : D → Option Key
  | .sc (.int i) => some (.inl i)
  | .sc (.str s) => some (.inr s)
  | _ => none
def keysK : List D → Option (List Key)
  | [] => some []
  | d :: ds => match keyK d, keysK ds with
    | some k, some ks => some (k :: ks)
    | _, _ => none
def keyT : D → Option (List Key)
  | .nd .tup ds => keysK ds
  | _ => none
section
variable {κ : Type} [DecidableEq κ]
/-- where a key stands -/
def kIx (k : κ) : List κ → Option Nat
  | [] => none
  | x :: xs => if x = k then some 0 else (kIx k xs).map (· + 1)
theorem kIx_none {k : κ} : ∀ {ks : List κ}, kIx k ks = none → k ∉ ks
  | [], _ => by simp
  | x :: ks, h => by
    have h' : (if x = k then some 0 else (kIx k ks).map (· + 1)) = none := h
    by_cases e : x = k
    · rw [if_pos e] at h'; cases h'
    · rw [if_neg e] at h'
      have : kIx k ks = none := by cases q : kIx k ks with
        | none => rfl
        | some j => rw [q] at h'; cases h'
      intro hm
      rcases List.mem_cons.mp hm with r | r
      · exact e r.symm
      · exact kIx_none this r
theorem map_other {k : κ} {v : V} : ∀ {ks : List κ} {vs : List V}, k ∉ ks → (ks.zip vs).map (fun kv => if kv.1 = k then (kv.1, v) else kv) = ks.zip vs
  | [], vs, _ => rfl
  | x :: ks, [], _ => rfl
  | x :: ks, w :: vs, h => by
    simp only [List.mem_cons, not_or] at h
    rw [List.zip_cons_cons, List.map_cons, map_other h.2, if_neg (fun e => h.1 e.symm)]
theorem map_set {k : κ} {v : V} : ∀ {ks : List κ} {vs : List V} {j : Nat}, ks.Nodup → kIx k ks = some j → ks.length = vs.length → (ks.zip vs).map (fun kv => if kv.1 = k then (kv.1, v) else kv) = ks.zip (vs.set j v)
  | [], vs, j, _, h, _ => by cases h
  | x :: ks, [], j, _, _, h => by cases h
  | x :: ks, w :: vs, j, nd, h, hl => by
    have nd' := List.nodup_cons.mp nd
    have h' : (if x = k then some 0 else (kIx k ks).map (· + 1)) = some j := h
    rw [List.zip_cons_cons, List.map_cons]
    by_cases e : x = k
    · rw [if_pos e] at h'; cases h'
      rw [if_pos e, map_other (e ▸ nd'.1)]; rfl
    · rw [if_neg e] at h' ⊢
      cases q : kIx k ks with
      | none => rw [q] at h'; cases h'
      | some i =>
        rw [q] at h'; cases h'
        rw [map_set nd'.2 q (by simpa using hl)]; rfl
end
/-- where a key stands in a node: none if it is no key of such a dict -/
def kdIx : Kd → D → Option (Option Nat)
  | .dik _ ks, c => (keyK c).map fun y => kIx y ks
  | .dit _ ks, c => (keyT c).map fun y => kIx y ks
  | .dku ks, c => (keyK c).map fun y => kIx y ks
  | .dtu ks, c => (keyT c).map fun y => kIx y ks
  | _, _ => none
def putIx {κ : Type} [DecidableEq κ] (y : κ) (ks : List κ) : Option (List κ × Option Nat) :=
  if decide ks.Nodup && decide (ks.length < 100000) then (match kIx y ks with
    | some j => some (ks, some j)
    | none => some (ks ++ [y], none)) else none
def kdPut : Kd → D → Option (Kd × Option Nat)
  | .dik m ks, c => (keyK c).bind fun y => (putIx y ks).map fun r => (.dik m r.1, r.2)
  | .dit m ks, c => (keyT c).bind fun y => (putIx y ks).map fun r => (.dit m r.1, r.2)
  | _, _ => none
def dNewK : Den := fun E => .ok (.val (.nd (.dik true []) []), E)
def dNewT : Den := fun E => .ok (.val (.nd (.dit true []) []), E)
def getDK (r : List Opd × List D) : R (Opd × List D) := match r.1 with
  | [o, q] => match cont r.2 o, cont r.2 q with
    | some (.nd k ds), some c => match kdIx k c with
      | some (some j) => match ds[j]? with
        | some d => (child o j d).bind fun o' => .ok (o', r.2)
        | none => .bad
      | _ => .bad
    | _, _ => .bad
  | _ => .bad
def dDGet (pu2 : Bool) (d1 d2 : Den) : Den := fun E => (aCons pu2 d1 (aCons true d2 aNil) E).bind getDK
def fDIn (neg : Bool) : List D → Option D
  | [c, .nd k _] => (kdIx k c).map fun j => .sc (.bl (j.isSome != neg))
  | _ => none
def putDK (r : List Opd × List D) : S := match r.1 with
  | [.val c, .plc i p, q] => match getP r.2 i p, cont r.2 q with
    | some (.nd k ds), some y => if k.mut then (match kdPut k y with
      | some (k', some j) => .nx (setP r.2 i p (.nd k' (ds.set j c)))
      | some (k', none) => .nx (setP r.2 i p (.nd k' (ds ++ [c])))
      | none => .bad) else .bad
    | _, _ => .bad
  | _ => .bad
def dDPut (p1 p2 : Bool) (d d0 di : Den) : DenS := fun E => (aCons (p1 && (p2 && true)) d (aCons (p2 && true) d0 (aCons true di aNil)) E).toS putDK
def dRev (d : Den) : DenI := fun E => (d E).bind fun r => match r.1 with
  | .val (.nd (.lst _) ds) => .ok ((fzs ds).reverse, r.2)
  | _ => .bad
end DL
end
section
set_option maxRecDepth 100000
namespace DL
open PySem PySem.Spec PyProof.Rows L2
end DL
end
section
set_option maxRecDepth 100000
set_option autoImplicit true
set_option relaxedAutoImplicit true
namespace PySem
open Sem (wp)
end PySem
namespace L2
open PySem PySem.Spec PyProof.Rows
end L2
namespace DL
open PySem PySem.Spec PyProof.Rows L2
section
variable {G : Gm} {W : WX} {pu : Bool} {das : DenA} {ta : TA}
def dEnumT (das : DenA) : DenI := fun E => (das E).bind fun r => match r.1 with
  | [.val (.nd .tup ds)] => .ok (enumFrom 0 (fzs ds), r.2)
  | _ => .bad
def dEnum2 (das : DenA) : DenI := fun E => (das E).bind fun r => match r.1 with
  | [.val (.nd (.lst _) ds)] => .ok (enumFrom 0 (fzs ds), r.2)
  | [.val (.nd .tup ds)] => .ok (enumFrom 0 (fzs ds), r.2)
  | _ => .bad
/-- over a list, put aside while it runs, or a tuple -/
def dForE2 (i : Nat) (dg : DenG) (b : DenS) : DenS := fun E => match E[i]? with
  | some (.nd .tup _) => dFor (dEnumT (aCons true (dCopy (rName i)) aNil)) dg b E
  | _ => dForE i dg b E
end
end DL
end
section
set_option maxRecDepth 100000
set_option maxHeartbeats 1000000
namespace DL
open PySem PySem.Spec PyProof.Rows L2
abbrev veB : List Value := [.type "ValueError", .type "Exception", .type "BaseException", .type "object"]
/-- what the written part says of an exception class without __init__ -/
structure ExK (K : PySem.W.Frag) (C : Addr) : Prop where
  q : PySem.W.excIn K C veB "ValueError.__new__" = true
  kp : PySem.W.keepIn K (.ref C) = true
  s1 : PySem.W.subIn K (.ref C) (.type "BaseException") = some true
  ty : PySem.W.typeIn K (.ref C) = some (.type "type")
section
variable {X : Cx} {G : Gm} {W : WX} {A B : List Nat} {pos p q p2 : Pos} {x m : Str} {j : Nat}
theorem jraise {c : Nat} {ps : Pos} (hK : G.K = X.K) (tk : L2N.Takes X W) (E : ExK G.K (G.cls c)) (gC : X.mg x = some (.ref (G.cls c))) (hc : X.calm = true := by rfl) (hg : Gl X x := by rfl) (hdb : (x == ("__debug__" : Str)) = false := by decide) :
    JS X G W [] (.Raise (some (.Call (.Name x p) [.Constant (.str m) j p2] [] pos)) none ps) (dRaise c) :=
  PS_imp (L2N.ps_raise hc tk (L2N.pmk_own PySem.F.excBase_ValueError (hK ▸ E.q) gC (hK ▸ E.kp) (raises_own (hK ▸ E.s1) (hK ▸ E.ty)) hg hdb)) t_raise
end
section
variable {G : Gm} {W : WX} {pu : Bool} {das : DenA} {F : Fn}
theorem t_callS {ta : TA} (ha : ∀ σ H Q, tA G W pu das σ H Q → ta σ H Q) : ∀ σ H Q, tO G W false (dCall F das) σ H Q → tCallS (spOf G F) (WE W) ta σ H Q := by
  rintro σ H Q ⟨I, E, vs, f, s, h⟩
  refine ha _ _ _ ⟨I, E, vs, f, s, h.fst fun x ex h => ?_⟩
  intro ws I1 H1 f1 g1 s1 o1 n1 a1 e1
  show spOf G F ws H1 Q (WE W σ)
  exact call_core (fun cls d H z => z) s1 o1 n1 a1 (h.imp fun r er k v I' H' f' g s o n a => k v I' H' f' g s o n a (fun z => by cases z))
def tMethS2 (C : Addr) (m : Str) (sp : Sp) (E : L2.St → XK) (te : TE) (t : TA) : TE := fun σ H Q => te σ H fun x H1 => ∃ a dx fs, x = .ref a ∧ H1 a = some (.ins C dx fs) ∧ fs.lookup m = none ∧ t σ H1 fun vs H2 => sp (x :: vs) H2 Q (E σ)
theorem t_methS {te : TE} {ta : TA} {c : Nat} {m : Str} {pu1 pu2 : Bool} {d0 : Den} (h0 : ∀ σ H Q, tO G W pu1 d0 σ H Q → te σ H Q) (ha : ∀ σ H Q, tA G W pu2 das σ H Q → ta σ H Q) :
    ∀ σ H Q, tO G W false (dMeth c m F pu2 d0 das) σ H Q → tMethS2 (G.cls c) m (spOf G F) (WE W) te ta σ H Q := by
  rintro σ H Q ⟨I, E, vs, f, s, hh⟩
  refine h0 _ _ _ ⟨I, E, vs, f, s, hh.fst fun r er h => ?_⟩
  intro v I1 H1 f1 g1 s1 o1 n1 a1 e1
  by_cases hc : (isObj c m (cont r.2 r.1) && stab pu2 r.1) = true
  · rw [if_pos hc] at h
    simp only [Bool.and_eq_true] at hc
    obtain ⟨hob, st⟩ := hc
    obtain ⟨mk, ns, ds, ec, hm, hl⟩ := isObj_iff hob
    obtain ⟨a, dx, ws, rfl, ea, el⟩ := obj_at s1 o1 (fun a => by have := n1 a; omega) ec
    refine ⟨a, dx, ns.zip ws, rfl, ea, lookup_zip_none hm, ?_⟩
    have a1' : Fr pu1 I H f I1 H1 f1 := a1.less fun x z => by simp; omega
    refine ha _ _ _ ⟨I1, r.2, vs, f1, s1, (h.fwd a1').fst fun q eq _ => ?_⟩
    intro ws2 I2 H2 f2 g2 s2 o2 n2 a2 e2
    rw [eq] at h
    have o1' := o1.keep st (E1 := q.2) a2 n1 e2
    have n3 := a2.apart (g := g1) o1.trk n1 (fun x => by have := n2 x; simpa using this)
    show spOf G F (.ref a :: ws2) H2 Q (WE W σ)
    have b := ((a1.trans (a2.with (g := g1))).less (f2 := fadd f2 (fadd g1 g2)) fun x z => by simp at z ⊢; omega)
    exact call_core (fun cls d H z => z) s2 (g1 := fadd g1 g2) (os := r.1 :: q.1) ⟨.ref a, ws2, g1, g2, rfl, o1', o2, fun a => rfl⟩ (fun a => by have := n3 a; simp at this ⊢; omega) b (h.imp fun r er k v I' H' f' g s o n a => k v I' H' f' g s o n a (fun z => by cases z))
  · rw [if_neg hc] at h
    exact h.elim
end
section
variable {X : Cx} {G : Gm} {W : WX} {A B : List Nat} {p1 p2 : Bool} {pos q apos : Pos} {e o : Expr} {es : List Expr} {d0 : Den} {das : DenA} {F : Fn} {k : Nat} {f : Addr} {fd : FuncData} {ps : List Str}
theorem pe_methS2 {C : Addr} {m : Str} {sp : Sp} {E : L2.St → XK} {te : TE} {t : TA} {pl : Sem Bool} (he : PE X o te) (c : Cls X.K C) (hm : Meth X.K C m f) (Fo : FnOk X.prog X.w X.K X.mg X.base (L2N.CX X.prog X.w) k f fd ps sp) (hr : Room k X.A) (hb : Binds X.K fd ps []) (hx : ∀ σ, PassesAt (L2N.CX X.prog X.w) X σ (E σ)) (ha : PA X (e :: es) t)
    (hst : starEach (e :: es) X.env = (false, eval e X.env) :: starEach es X.env := by rfl) (hpl : (backTo pos (starEach es X.env)).any (·.1) = false := by rfl)
    (ht : eval (.Call (.Attribute o m apos) (e :: es) [] pos) X.env = (do let ov ← eval o X.env; standAt apos.atName; let (f, first) ← holding [ov] (getMethod ov m pl); callWith pos f first (backTo pos (starEach (e :: es) X.env)) (backToKw pos (keywordEach [] X.env))) := by rfl) :
    PE X (.Call (.Attribute o m apos) (e :: es) [] pos) (tMethS2 C m sp E te t) := by
  constructor
  intro pins s σ H Q I h
  refine PySem.W.methodCall_KW (pl := pl) (thn (he.run pins s σ H _ I h) fun u s1 hz => ?_) ht
  obtain ⟨x, H1, I1, rx, a, dx, fs, rfl, ea, l, q⟩ := hz
  cases (show u = Value.ref a from rx)
  refine getmeth_ok I1 ea c hm l ?_
  exact PySem.W.callWith_K (first := [.ref a]) (h₀ := X.base) I.ok.mod.kin hm.kp (thn (ha.run pos pins s1 σ H1 _ I1 q) fun us s2 hz => by
    obtain ⟨vs, H2, I2, r, q2⟩ := hz
    exact ⟨I2.kIn, run_fnS (us := .ref a :: us) (vs := .ref a :: vs) Fo hr hb (hx σ) I2 (.cons rfl r) q2⟩) hst hpl
theorem jmethS {c : Nat} {m : Str} {pl : Sem Bool} (tk : L2N.Takes X W) (cl : Cls X.K (G.cls c)) (hm : Meth X.K (G.cls c) m f) (ok : FnOk X.prog X.w X.K X.mg X.base (L2N.CX X.prog X.w) k f fd ps (spOf G F)) (hr : Room k X.A) (hb : Binds X.K fd ps []) (h0 : JE X G W p1 o d0) (ha : JA X G W p2 (e :: es) das)
    (hst : starEach (e :: es) X.env = (false, eval e X.env) :: starEach es X.env := by rfl) (hpl : (backTo pos (starEach es X.env)).any (·.1) = false := by rfl)
    (ht : eval (.Call (.Attribute o m apos) (e :: es) [] pos) X.env = (do let ov ← eval o X.env; standAt apos.atName; let (f, first) ← holding [ov] (getMethod ov m pl); callWith pos f first (backTo pos (starEach (e :: es) X.env)) (backToKw pos (keywordEach [] X.env))) := by rfl) :
    JE X G W false (.Call (.Attribute o m apos) (e :: es) [] pos) (dMeth c m F p2 d0 das) :=
  PE_imp (pe_methS2 (E := WE W) h0 cl hm ok hr hb (fun σ => L2N.passAt tk σ) ha hst hpl ht) (t_methS (fun _ _ _ h => h) (fun _ _ _ h => h))
end
/-- σ holds the exception at slot i -/
abbrev Ext (H H' : Hp) : Prop := ∀ b o, H b = some o → H' b = some o
abbrev hE (i : Nat) (a : Addr) (v : V) : TE := fun σ H Q => σ[i]? = some (some (V.ref a)) ∧ ∀ H', Ext H H' → Q v H'
abbrev hT (i : Nat) (a : Addr) (b : Bool) : TT := fun σ H Q => σ[i]? = some (some (V.ref a)) ∧ ∀ H', Ext H H' → Q b H'
abbrev hS (i : Nat) (a : Addr) (v : V) : TS := fun D σ H => σ[i]? = some (some (V.ref a)) ∧ ∀ H', Ext H H' → D.rt v H'
theorem Stt.ext {G : Gm} {σ : L2.St} {I H H2 : Hp} {E : List D} {vs : List V} {f : Ft} (s : Stt G σ I H E vs f) (x : Ext H H2) : Stt G σ I H2 E vs f :=
  ⟨s.sl, fun a o e => x a o (s.sm a o e), s.rp.move (fun _ _ e => e) fun a ha => by
    obtain ⟨n, o, e⟩ := s.rp.trk a ha
    exact ⟨n, by rw [e, x a o e]⟩, s.nd⟩
theorem Fr.ext {pu : Bool} {I H I1 H1 H2 : Hp} {f f1 : Ft} (r : Fr pu I H f I1 H1 f1) (x : Ext H1 H2) : Fr pu I H f I1 H2 f1 :=
  ⟨r.im, fun a o e z => x a o (r.kp a o e z), r.un, r.nw, fun h a o e => ⟨x a o (r.pu h a o e).1, (r.pu h a o e).2⟩⟩
section
variable {X : Cx} {a Dc : Addr} {oe : Obj} {pn : List (Addr × Obj)} {i : Nat} {n : Str} {pos p q : Pos}
/-- the name of a class in the suite -/
structure CN (Y : Cx) (x : Str) (v : V) (cv : Value) : Prop where
  pe : ∀ p, PE Y (.Name x p) (tC v)
  is : ∀ u, RelV v u → u = cv
theorem cn_own {Y : Cx} {x : Str} {C : Addr} (gC : Y.mg x = some (.ref C)) (hg : Gl Y x := by rfl) (hdb : (x == ("__debug__" : Str)) = false := by decide) : CN Y x (.ref C) (.ref C) := ⟨fun p => pe_glob hg gC rfl hdb, fun u r => r⟩
theorem cn_ve {Y : Cx} (hm : Y.mg "ValueError" = none) (hg : Gl Y "ValueError" := by rfl) : CN Y "ValueError" (.ty "ValueError") (.type "ValueError") := ⟨fun p => pe_bltn hg hm (by decide +kernel) rfl, fun u r => r⟩
variable {Y : Cx}
end
end DL
end
section
set_option maxRecDepth 100000
set_option maxHeartbeats 1000000
namespace DL
open PySem PySem.Spec PyProof.Rows L2
def dNo : Den := fun _ => .bad
section
variable {X : Cx} {G : Gm} {W : WX} {p : Bool} {e : Expr}
theorem jno : JE X G W p e dNo := ⟨fun pins s σ H Q I h => by
  obtain ⟨_, _, _, _, _, h⟩ := h
  exact h.elim⟩
end
end DL
end
section
set_option maxRecDepth 100000
set_option maxHeartbeats 3200000
namespace DL
open PySem PySem.Spec PyProof PyProof.Rows L2
section
variable {X : Cx}
/-- set(list of ints) -/
def rSetL (K : PySem.W.Frag) (w : World) : List V → Hp → VK → Prop := fun xs H Q => ∃ (a : Addr) (ns : List Int), xs = [V.ref a] ∧ SqL K H a (ns.map V.int) ∧ ns.length < 60 ∧ ∀ p c, c ≤ ns.length → H p = none → Q (.ref p) (upd H p (SetO w p (fun j => decide (j ∈ ns)) c))
end
end DL
end
section
set_option maxRecDepth 100000
namespace DL
open PySem PySem.Spec PyProof PyProof.Rows L2
end DL
end
section
set_option maxRecDepth 100000
namespace DL
open PySem PySem.Spec PyProof PyProof.Rows L2
end DL
end
section
set_option maxRecDepth 100000
namespace DL
open PySem PySem.Spec PyProof PyProof.Rows L2
def isTyX (T : String) : Option D → Bool
  | some (.sc (.str _)) => T == "str"
  | x => isTy T x
def opK (F : List D → Option D) (r : List Opd × List D) : R (Opd × List D) := match conts r.2 r.1 with
  | some ds => match F ds with
    | some d => .ok (.val d, r.2)
    | none => .bad
  | none => .bad
def dBm (T : String) (F : List D → Option D) (pu2 : Bool) (d0 : Den) (das : DenA) : Den := fun E => (d0 E).bind fun r => if isTyX T (cont r.2 r.1) && stab pu2 r.1 then (das r.2).bind fun q => opK F (r.1 :: q.1, q.2) else .bad
def rM (r : V → List V → Hp → VK → Prop) : List V → Hp → VK → Prop := fun ws H Q => match ws with
  | v :: vs => r v vs H Q
  | [] => False
section
variable {G : Gm} {W : WX} {K : PySem.W.Frag}
theorem tyVX_of {I H : Hp} {d : D} {v : V} {g : Ft} {T : String} (sm : ∀ a o, I a = some o → H a = some o) (x : Rp G I H d v g) (e : isTyX T (some d) = true) : tyV K T v H := by
  cases d with
  | sc w =>
    obtain ⟨rfl, _⟩ := x
    cases v with
    | str z => show T = "str"; simpa [isTyX] using e
    | _ => cases e
  | nd k ds => exact tyV_of sm x e
  | una => cases e
  | lent => cases e
  | kl _ => cases e
theorem t_bmA {te : TE} {ta : TA} {pu1 pu2 : Bool} {d0 : Den} {das : DenA} {T : String} {r : V → List V → Hp → VK → Prop} {F : List D → Option D} (hr : OpS G (rM r) F) (h0 : ∀ σ H Q, tO G W pu1 d0 σ H Q → te σ H Q) (ha : ∀ σ H Q, tA G W pu2 das σ H Q → ta σ H Q) :
    ∀ σ H Q, tO G W (pu1 && pu2) (dBm T F pu2 d0 das) σ H Q → te σ H (fun x H1 => tyV K T x H1 ∧ ta σ H1 fun xs H2 => r x xs H2 Q) := by
  rintro σ H Q ⟨I, E, vs, f, s, hh⟩
  refine h0 _ _ _ ⟨I, E, vs, f, s, hh.fst fun x ex h => ?_⟩
  intro v I1 H1 f1 g1 s1 o1 n1 a1 e1
  obtain ⟨o, E1⟩ := x
  by_cases hc : (isTyX T (cont E1 o) && stab pu2 o) = true
  · have h : Ans G W σ I H f vs (if (isTyX T (cont E1 o) && stab pu2 o) = true then (das E1).bind fun q => opK F (o :: q.1, q.2) else .bad) _ := h
    rw [if_pos hc] at h
    simp only [Bool.and_eq_true] at hc
    have a1' : Fr pu1 I H f I1 H1 f1 := a1.less fun x z => by simp; omega
    refine ⟨?_, ha _ _ _ ⟨I1, E1, vs, f1, s1, (h.fwd a1').fst fun q eq h => ?_⟩⟩
    · cases ec : cont E1 o with
      | none => rw [ec] at hc; cases hc.1
      | some c =>
        obtain ⟨g', y, _⟩ := o1.cont s1 (fun a => by have := n1 a; omega) ec
        rw [ec] at hc
        exact tyVX_of s1.sm y hc.1
    · intro ws2 I2 H2 f2 g2 s2 o2 n2 a2 e2
      have o1' := o1.keep hc.2 (E1 := q.2) a2 n1 e2
      have n3 := a2.apart (g := g1) o1.trk n1 (fun x => by have := n2 x; simpa using this)
      have oo : OpsRel G I2 H2 q.2 vs (o :: q.1) (v :: ws2) (fadd g1 g2) := ⟨v, ws2, g1, g2, rfl, o1', o2, fun a => rfl⟩
      have n4 : ∀ a, f2 a + fadd g1 g2 a ≤ 1 := fun a => by have := n3 a; simp at this ⊢; omega
      have a3 : Fr (pu1 && pu2) I H f I2 H2 (fadd f2 (fadd g1 g2)) := (a1.trans (a2.with (g := g1))).less (f2 := fadd f2 (fadd g1 g2)) (fun x z => by simp at z ⊢; omega)
      have e3 : (pu1 && pu2) = true → q.2 = E := fun z => by
        simp only [Bool.and_eq_true] at z
        rw [e2 z.2]; exact e1 z.1
      have h : Ans G W σ I1 H1 f1 vs (match conts q.2 (o :: q.1) with
        | some ds => match F ds with
          | some d => R.ok (Opd.val d, q.2)
          | none => .bad
        | none => .bad) _ := h
      split at h
      · rename_i ds ed
        split at h
        · rename_i d edd
          refine hr I2 H2 ds (v :: ws2) d s2.sm (oo.conts s2 (fun a => by have := n4 a; omega) ed) edd Q fun v I3 H3 g nw y n5 fr => ?_
          refine h v I3 H3 f2 g (s2.nw nw) y (fun a => ?_) ?_ e3
          · by_cases z : g a = 0
            · have := s2.nd a; omega
            · have z1 : f2 a = 0 := by
                by_cases z2 : f2 a = 0
                · exact z2
                · obtain ⟨_, o, e⟩ := s2.rp.trk a z2
                  rw [fr a z] at e; cases e
              have := n5 a; omega
          · have b : Fr (pu1 && pu2) I2 H2 (fadd f2 (fadd g1 g2)) I3 H3 (fadd f2 g) := nw.fr fun a z => by
              by_cases z2 : g a = 0
              · left; simp at z ⊢; omega
              · right; exact fr a z2
            exact (a3.trans b).imp fun z => by simp [z]
        · exact h.elim
      · exact h.elim
  · have h : Ans G W σ I H f vs (if (isTyX T (cont E1 o) && stab pu2 o) = true then (das E1).bind fun q => opK F (o :: q.1, q.2) else .bad) _ := h
    rw [if_neg hc] at h
    exact h.elim
theorem t_bm {te : TE} {ta : TA} {pu1 pu2 : Bool} {d0 : Den} {das : DenA} {T : String} {r : V → List V → Hp → VK → Prop} {F : List D → Option D} (hr : OpS G (rM r) F) (h0 : ∀ σ H Q, tO G W pu1 d0 σ H Q → te σ H Q) (ha : ∀ σ H Q, tA G W pu2 das σ H Q → ta σ H Q) :
    ∀ σ H Q, tO G W (pu1 && pu2) (dBm T F pu2 d0 das) σ H Q → tBM K T r te ta σ H Q := t_bmA hr h0 ha
end
section
variable {X : Cx} {G : Gm} {W : WX} {e o : Expr} {es : List Expr} {das : DenA} {pos : Pos}
theorem jbm {T id : String} {name : Str} {pu1 pu2 : Bool} {d0 : Den} {F : List D → Option D} {r : V → List V → Hp → VK → Prop} {ap : Pos} (pa : PlainAttrs T) (slot : Slot T name id) (hty : typeOf (.builtin id) = pure (.type "method_descriptor")) (hm : MtR X id r) (hr : OpS G (rM r) F) (h0 : JE X G W pu1 o d0) (ha : JA X G W pu2 (e :: es) das)
    (hbase : attributeBase o name X.env (eval o X.env) = eval o X.env := by rfl)
    (hfew : ((backTo pos (starEach (e :: es) X.env)).all (fun x => !x.1) && (backToKw pos (keywordEach [] X.env)).all (fun x => x.1.isSome)
      && decide ((e :: es).length + ([] : List Keyword).length + (if ([] : List Keyword).isEmpty then 0 else 1) < 30)) = true := by rfl)
    (hline : (ap.endLine == pos.line) = true := by rfl) (hs : starEach (e :: es) X.env = (false, eval e X.env) :: starEach es X.env := by rfl) (hplain : (backTo pos (starEach es X.env)).any (·.1) = false := by rfl) :
    JE X G W (pu1 && pu2) (.Call (.Attribute o name ap) (e :: es) [] pos) (dBm T F pu2 d0 das) := PE_imp (pe_bm pa slot hty hm h0 ha hbase hfew hline hs hplain) (t_bm hr (fun _ _ _ h => h) (fun _ _ _ h => h))
end
@[simp] theorem ev_isTyX_s (T : String) (z : Str) : isTyX T (some (.sc (.str z))) = (T == "str") := id rfl
@[simp] theorem ev_isTyX_l (T : String) (m : Bool) (ds : List D) : isTyX T (some (.nd (.lst m) ds)) = (T == "list") := id rfl
@[simp] theorem ev_isTyX_d (T : String) (m : Bool) (ks : List Key) (ds : List D) : isTyX T (some (.nd (.dik m ks) ds)) = (T == "dict") := id rfl
@[simp] theorem ev_isTyX_t (T : String) (m : Bool) (ks : List (List Key)) (ds : List D) : isTyX T (some (.nd (.dit m ks) ds)) = (T == "dict") := id rfl
@[simp] theorem ev_opK (F : List D → Option D) (r : List Opd × List D) : opK F r = match conts r.2 r.1 with
  | some ds => match F ds with
    | some d => .ok (.val d, r.2)
    | none => .bad
  | none => .bad := id rfl
@[simp] theorem ev_dBm (T : String) (F : List D → Option D) (pu2 : Bool) (d0 : Den) (das : DenA) (E : List D) : dBm T F pu2 d0 das E = (d0 E).bind fun r => if isTyX T (cont r.2 r.1) && stab pu2 r.1 then (das r.2).bind fun q => opK F (r.1 :: q.1, q.2) else .bad := id rfl
end DL
end
section
set_option maxRecDepth 100000
namespace DL
open PySem PySem.Spec PyProof PyProof.Rows L2
/-- as FnOk, around one thing alone -/
structure FnAt (A0 : Around) (P : Program) (w : World) (K : PySem.W.Frag) (mg : Str → Option Value) (base : Heap) (CX : CXT) (f : Addr) (fd : FuncData) (ps : List Str) (sp : Sp) : Prop where
  ln : ∀ vs H Q E, sp vs H Q E → vs.length = ps.length
  go : ∀ (ov : List Env) (s : Shared) (H : Hp) (as : Args) (us : List Value) (vs : List V) (Q : VK) (E : XK), Env0 P w K mg base A0 ov s H → BindsTo s fd as (ps.zip us) → Vals vs us → sp vs H Q E →
    codeAny (model P w) A0 (.call (.ref f) as) (CR CX ov P w H s Q E) s
theorem FnAt.imp {A0 : Around} {P : Program} {w : World} {K : PySem.W.Frag} {mg : Str → Option Value} {base : Heap} {CX : CXT} {f : Addr} {fd : FuncData} {ps : List Str} {sp sq : Sp} (F : FnAt A0 P w K mg base CX f fd ps sp) (h : ∀ vs H Q E, sq vs H Q E → sp vs H Q E) : FnAt A0 P w K mg base CX f fd ps sq :=
  ⟨fun vs H Q E q => F.ln vs H Q E (h vs H Q E q), fun ov s H as us vs Q E a b c q => F.go ov s H as us vs Q E a b c (h vs H Q E q)⟩
end DL
end
section
set_option maxRecDepth 100000
namespace DL
open PySem PySem.Spec PyProof PyProof.Rows L2
end DL
end
section
set_option maxRecDepth 100000
namespace DL
open PySem PySem.Spec PyProof PyProof.Rows L2
def strsD : List D → Option (List Str)
  | [] => some []
  | .sc (.str z) :: ds => (strsD ds).map (z :: ·)
  | _ => none
theorem strsD_of {G : Gm} {I H : Hp} : ∀ {ds : List D} {ws : List V} {g : Ft} {zs : List Str}, strsD ds = some zs → Rps G I H ds ws g → ws = zs.map V.str
  | [], ws, g, zs, e, x => by cases e; obtain ⟨rfl, _⟩ := x; rfl
  | d :: ds, ws, g, zs, e, x => by
    obtain ⟨v, vr, f, h, rfl, y, z, _⟩ := x
    cases d with
    | sc w =>
      cases w with
      | str z' =>
        have e : (strsD ds).map (z' :: ·) = some zs := e
        cases ez : strsD ds with
        | none => rw [ez] at e; cases e
        | some zr =>
          rw [ez] at e; cases e
          obtain ⟨rfl, _⟩ := y
          rw [strsD_of ez z]; rfl
      | _ => cases e
    | _ => cases e
theorem rps_strs {G : Gm} {I H : Hp} : ∀ (zs : List Str), Rps G I H (zs.map fun z => .sc (.str z)) (zs.map V.str) z0
  | [] => ⟨rfl, fun _ => rfl⟩
  | z :: zs => ⟨.str z, zs.map V.str, z0, z0, rfl, ⟨rfl, fun _ => rfl⟩, rps_strs zs, fun _ => rfl⟩
def fJoin : List D → Option D
  | [.sc (.str a), .nd k ds] => if k.seq then (strsD ds).bind fun zs => if (zs.map (·.length)).sum + zs.length * a.length ≤ 16777216 then some (.sc (.str (Txt.join a zs))) else none else none
  | _ => none
def rJoin (K : PySem.W.Frag) : V → List V → Hp → VK → Prop := fun x xs H Q => ∃ a p, ∃ ys : List Str, x = .str a ∧ xs = [.ref p] ∧ (SqL K H p (ys.map V.str) ∨ SqT K H p (ys.map V.str)) ∧
    (ys.map (·.length)).sum + ys.length * a.length ≤ 16777216 ∧ Q (.str (Txt.join a ys)) H
theorem os_join {G : Gm} {K : PySem.W.Frag} : OpS G (rM (rJoin K)) fJoin := by
  intro I H ds ws d sm x e Q k
  unfold fJoin at e
  split at e
  · rename_i a kk es
    split at e
    · rename_i hk
      cases ez : strsD es with
      | none => rw [ez] at e; cases e
      | some zs =>
        rw [ez] at e
        simp only [Option.bind_some] at e
        split at e
        · rename_i hz
          cases e
          obtain ⟨v, w, g, h, rfl, y, y2⟩ := x.two
          obtain ⟨rfl, _⟩ := y
          obtain ⟨p, ws, g1, rfl, sq, z, l⟩ := node_seq (K := K) sm hk y2
          rw [strsD_of ez z] at sq
          exact ⟨a, p, zs, rfl, rfl, sq, hz, fin_sc sm k⟩
        · cases e
    · cases e
  · cases e
def fSplit : List D → Option D
  | [.sc (.str a), .sc (.str b)] => if b.length ≠ 0 ∧ a.length + 2 ≤ sizeLine then some (.nd (.lst true) ((Txt.split a b).map fun z => .sc (.str z))) else none
  | _ => none
def rSplit : V → List V → Hp → VK → Prop := fun x xs H Q => ∃ a b, x = .str a ∧ xs = [.str b] ∧ (b.length == 0) = false ∧ a.length + 2 ≤ sizeLine ∧ rNewStrs (Txt.split a b) H Q
theorem os_split {G : Gm} : OpS G (rM rSplit) fSplit := by
  intro I H ds ws d sm x e Q k
  unfold fSplit at e
  split at e
  · rename_i a b
    split at e
    · rename_i hc
      cases e
      obtain ⟨v, w, g, h, rfl, y, y2⟩ := x.two
      obtain ⟨rfl, _⟩ := y
      obtain ⟨rfl, _⟩ := y2
      exact ⟨a, b, rfl, rfl, by simpa using hc.1, hc.2, fun p n => fin_lst sm (rps_strs _) n k⟩
    · cases e
  · cases e
def fPart : List D → Option D
  | [.sc (.str a), .sc (.str b)] => if b.length ≠ 0 ∧ a.length ≤ sizeLine then some (.nd .tup [.sc (.str (Txt.partition a b).1), .sc (.str (Txt.partition a b).2.1), .sc (.str (Txt.partition a b).2.2)]) else none
  | _ => none
def rPart : V → List V → Hp → VK → Prop := fun x xs H Q => ∃ a b, x = .str a ∧ xs = [.str b] ∧ (b.length == 0) = false ∧ a.length ≤ sizeLine ∧
    ∀ p, H p = none → Q (.ref p) (upd H p (.tup [.str (Txt.partition a b).1, .str (Txt.partition a b).2.1, .str (Txt.partition a b).2.2]))
theorem os_part {G : Gm} : OpS G (rM rPart) fPart := by
  intro I H ds ws d sm x e Q k
  unfold fPart at e
  split at e
  · rename_i a b
    split at e
    · rename_i hc
      cases e
      obtain ⟨v, w, g, h, rfl, y, y2⟩ := x.two
      obtain ⟨rfl, _⟩ := y
      obtain ⟨rfl, _⟩ := y2
      exact ⟨a, b, rfl, rfl, by simpa using hc.1, hc.2, fun p n => fin_tup sm (rps_strs [_, _, _]) n k⟩
    · cases e
  · cases e
@[simp] theorem ev_strsD_0 : strsD [] = some [] := id rfl
@[simp] theorem ev_strsD_1 (z : Str) (ds : List D) : strsD (.sc (.str z) :: ds) = (strsD ds).map (z :: ·) := id rfl
theorem strsD_map {α : Type} (f : α → Str) : ∀ xs : List α, strsD (xs.map fun x => .sc (.str (f x))) = some (xs.map f)
  | [] => rfl
  | x :: xs => by show (strsD (xs.map _)).map _ = _; rw [strsD_map f xs]; rfl
@[simp] theorem ev_fSplit (a b : Str) : fSplit [.sc (.str a), .sc (.str b)] = if b.length ≠ 0 ∧ a.length + 2 ≤ sizeLine then some (.nd (.lst true) ((Txt.split a b).map fun z => .sc (.str z))) else none := id rfl
@[simp] theorem ev_fPart (a b : Str) : fPart [.sc (.str a), .sc (.str b)] = if b.length ≠ 0 ∧ a.length ≤ sizeLine then some (.nd .tup [.sc (.str (Txt.partition a b).1), .sc (.str (Txt.partition a b).2.1), .sc (.str (Txt.partition a b).2.2)]) else none := id rfl
@[simp] theorem ev_fJoin (a : Str) (k : Kd) (ds : List D) : fJoin [.sc (.str a), .nd k ds] = if k.seq then (strsD ds).bind fun zs => if (zs.map (·.length)).sum + zs.length * a.length ≤ 16777216 then some (.sc (.str (Txt.join a zs))) else none else none := id rfl
end DL
end
section
set_option maxRecDepth 100000
set_option maxHeartbeats 1000000
namespace DL
open PySem PySem.Spec PyProof.Rows L2 L2H
/-- a comprehension's context in an except suite -/
abbrev blH (X : Cx) (q : Addr × Obj) (s : Shared) (H : Hp) (sc : Scope) (ev : Env) (ps : List Addr) : Cx := (X.blk s H sc ev ps).tr [q] (fun _ _ => False)
section
variable {X : Cx} {q : Addr × Obj} {body tg src : Expr} {conds : List Expr} {sc : Scope} {nm : List (Str × Nat)} {at1 : Pos} {wi : TI} {g : TG} {tt : TT} {te : TE}
theorem pe_lcH (hot : Hot1 X.A q) (hq : q ∈ X.pn) (hN : X.N.Nodup) (hi : PIH X tg src wi) (bo : BlkOk X.N X.env.scope sc nm)
    (hg : ∀ s H C l ps, PG (blH X q s H sc (compEnvC sc l C X.env) ps) tg g)
    (ht : ∀ s H C l ps, PTs (blH X q s H sc (compEnvC sc l C X.env) ps) conds tt)
    (hb : ∀ s H C l ps, PE (blH X q s H sc (compEnvC sc l C X.env) ps) body te)
    (hs : ∀ x, foldedSetIterable src X.env x = pure x := by intro _; rfl) :
    PE X (.ListComp body [⟨tg, src, conds, 0⟩] sc at1) (tLc wi g tt te (nm.map (·.2))) := by
  refine ⟨fun pins s0 σ0 H0 Q J0 hQ => ?_⟩
  rw [eval_ListComp]
  have caught : ∀ y ∈ sc.names, y.2 = .free → ∃ c, X.env.cells.lookup y.1 = some c := by
    intro y hy e
    rcases bo.free y hy e with k | k
    · exact J0.ok.has _ (.inl k)
    · exact J0.ok.has _ (.inr k)
  refine wpAny_comprehension_free (use := none) rfl hs (closure_ok caught) bo.kind (fun y hy e => by rw [bo.uniq y hy, e]) (thn (hi.run pins s0 σ0 H0 _ J0 hQ) fun v1 s1 h1 => thn h1 fun v2 s2 h2 => ?_)
  obtain ⟨it, ps, tn, J, H2, rfl, J2, T, t2, f2, qT⟩ := h2
  refine wpAny_newObj_type (newEnv_comp ?_) (by show 0 ≤ sizeLine; decide)
  generalize hL : s2.heap.objs.size = L
  have nL : H2 L = none := J2.hok.fresh (Nat.le_of_eq hL)
  obtain ⟨W, ⟨m0, w0⟩, turn⟩ := qT L nL
  generalize e3 : ({ s2 with heap := s2.heap.push { cls := .type "list", data := .seq ([] : List Value).toArray } } : Shared) = s3
  have hp3 : s3.heap = s2.heap.push { cls := .type "list", data := .seq ([] : List Value).toArray } := by rw [← e3]
  have J3 : Inv X pins σ0 (upd H2 L (.lst [])) s3 := by
    rw [← e3]
    refine J2.laid (t' := s2.toks) (fun _ _ z => Heap.get?_push_of_some _ z) (Nat.le_of_eq hL) ⟨Nat.zero_le _, [], 0, .nil, ?_⟩
    rw [← hL]; exact Heap.get?_push_size _ rfl
  have small : ∀ b ∈ ps, b < s2.heap.objs.size := by
    intro b hb
    obtain ⟨ob, z, _⟩ := T.obj _ _ t2 b hb
    exact Heap.lt_size z
  have f3 : ∀ b ∈ ps, FpOk X pins (upd H2 L (.lst [])) b ∧ b < s3.heap.objs.size := by
    intro b hb
    have lt := small b hb
    refine ⟨⟨?_, (f2 b hb).2⟩, by rw [hp3, Heap.size_push]; exact Nat.lt_succ_of_lt lt⟩
    rw [upd_ne (by rw [← hL]; exact Nat.ne_of_lt lt)]
    exact (f2 b hb).1
  have t3 : tn 0 s3.heap := T.keep _ _ _ t2 fun b _ ob z => by rw [hp3]; exact Heap.get?_push_of_some _ z
  have J4 := block_start J3 bo hN f3
  have pg := hg s3 (upd H2 L (.lst [])) s3.heap.objs.size (cellsFrom (s3.heap.objs.size + 1) sc.names (cloFrom X.env.cells sc.names [])) ps
  have pt := ht s3 (upd H2 L (.lst [])) s3.heap.objs.size (cellsFrom (s3.heap.objs.size + 1) sc.names (cloFrom X.env.cells sc.names [])) ps
  have pb := hb s3 (upd H2 L (.lst [])) s3.heap.objs.size (cellsFrom (s3.heap.objs.size + 1) sc.names (cloFrom X.env.cells sc.names [])) ps
  have P3 := J3.pin q (List.mem_append_left _ hq)
  have ltq : q.1 < s3.heap.objs.size := Heap.lt_size P3.1
  have qps : ∀ b ∈ ps, q.1 ≠ b := fun b hb => (f2 b hb).2.2.2.2.2 q (List.mem_append_left _ hq)
  have free0 : ∀ b ∈ ps, (upd H2 L (.lst [])) b = none := fun b hb => (f3 b hb).1.1
  show codeAny _ _ (.compStart (.ListComp body [⟨tg, src, conds, 0⟩] sc at1) 0 (.ref it) (.ref L) (compEnvC sc (cellsFrom (s3.heap.objs.size + 1) sc.names (cloFrom X.env.cells sc.names [])) s3.heap.objs.size X.env)) (compPost (model X.prog X.w) X.A X.xe none _ (.ref L) s3.heap.objs.size) { s3 with heap := pushCells (s3.heap.push { cls := .type "dict", data := .dict #[] }) sc.names }
  generalize e5 : compEnvC sc (cellsFrom (s3.heap.objs.size + 1) sc.names (cloFrom X.env.cells sc.names [])) s3.heap.objs.size X.env = ev at J4 pg pt pb ⊢
  have evL : ev.locals = s3.heap.objs.size := by rw [← e5]; rfl
  generalize e6 : upd H2 L (.lst []) = H3 at J3 J4 pg pt pb w0 free0 f3 P3
  generalize e7 : ({ s3 with heap := pushCells (s3.heap.push { cls := .type "dict", data := .dict #[] }) sc.names } : Shared) = s4 at J4 ⊢
  have t4 : tn 0 s4.heap := T.keep _ _ _ t3 fun b _ ob z => by rw [← e7]; exact pushCells_keeps _ _ _ _ (Heap.get?_push_of_some _ z)
  -- the exception stays where it is
  have pinned : ∀ {τ : L2.St} {H' : Hp} {s' : Shared}, Inv (X.blk s3 H3 sc ev ps) [] τ H' s' → Inv (blH X q s3 H3 sc ev ps) [] τ H' s' := by
    intro τ H' s' I
    have nf : q.1 ∉ frs X.stack := fun z => (List.mem_cons.mp (J3.stkSub q.1 z)).elim P3.2.2.1 P3.2.2.2.1
    have nx : q.1 ∉ ps := fun z => qps q.1 z rfl
    have I2 : Inv (X.blk s3 H3 sc ev ps) [q] τ H' s' := I.pins_of fun r hr => by
      have er : r = q := by simpa using hr
      subst er
      exact ⟨I.base.keep _ _ P3.1 P3.2.1 nf nx, I.base.free _ _ P3.1 P3.2.1 nx, fun z => absurd (z.trans evL) (Nat.ne_of_lt ltq), nf, P3.2.2.2.2⟩
    exact I2.toTry _
  have loose : ∀ {pl : List (Addr × Obj)} {τ : L2.St} {H' : Hp} {s' : Shared}, (X.blk s3 H3 sc ev ps).Ok → Inv (blH X q s3 H3 sc ev ps) pl τ H' s' → Inv (X.blk s3 H3 sc ev ps) [q] τ H' s' := fun ok I => I.ofTry ok
  have okB := J4.ok
  have I4 := pinned J4
  have hotB : HotC (blH X q s3 H3 sc ev ps) := ⟨q, hot, List.mem_cons_self⟩
  have still : ∀ {τ : L2.St} {H' : Hp} {s' : Shared}, Inv (blH X q s3 H3 sc ev ps) [] τ H' s' → (∀ b ∈ ps, H' b = none) → ∀ b ∈ ps, FpOk (blH X q s3 H3 sc ev ps) [] H' b := fun I hn b hb =>
    ⟨hn b hb, (I.ok.exf b hb).1, I.ok.exfs b hb, .inl hb, fun x c e => (I.ok.exf b hb).2 x c e, fun r hr => by
      have er : r = q := by simpa using hr
      rw [er]; exact qps b hb⟩
  have loop : codeAny (model X.prog X.w) X.A (.compLoop (.ListComp body [⟨tg, src, conds, 0⟩] sc at1) 0 (.ref it) (.ref L) ev) (compPost (model X.prog X.w) X.A X.xe none (EP X pins σ0 Q) (.ref L) s3.heap.objs.size) s4 := by
    refine compLoop_any (fun n s' => ∃ i H', Inv (blH X q s3 H3 sc ev ps) [] (wipe σ0 (nm.map (·.2))) H' s' ∧ tn i s'.heap ∧ (∀ b ∈ ps, H' b = none) ∧ W i n H') ?_ m0 ⟨0, H3, I4, t4, free0, w0⟩
    rintro n s5 ⟨i, H5, I5, t5, n5, w5⟩
    rcases turn i n H5 w5 with ⟨stop, out⟩ | ⟨go, Nx, hNx, step⟩
    · refine thnF (T.done (blH X q s3 H3 sc ev ps) rfl rfl rfl hotB i [] s5 _ H5 (fun _ _ => False) I5 (still I5 n5) t5 stop) fun r s6 ⟨hr, I6⟩ => ?_
      subst hr
      have I6' := loose okB I6
      have I7 : Inv X pins σ0 H5 s6 := J3.call' (ch := ps) I6'.os I6'.base I6'.hok I6'.bare fun b hb => ⟨(f3 b hb).1.2.2.2.1, (f3 b hb).1.2.1, (f3 b hb).1.2.2.2.2.1, (f3 b hb).1.2.2.2.2.2⟩
      have nC : H5 s3.heap.objs.size = none := by
        have z : H5 ev.locals = none := I6'.free
        rwa [evL] at z
      obtain ⟨m, hn, _⟩ := I6'.loc
      have hn : s6.heap.Ns ev.locals m := hn
      rw [evL] at hn
      obtain ⟨g0, g1, g2, g3, g4, g5⟩ := J3.fpOk (Nat.le_refl _) nC
      exact ⟨m, hn, fun h'' sb => ⟨.ref L, H5, I7.turned (t' := s6.toks) (fun b o hb e => (sb.2 b hb).trans e) g0 g1 g3 g4 g5, rfl, out⟩⟩
    · refine thnF (T.item (blH X q s3 H3 sc ev ps) rfl rfl rfl hotB i [] s5 _ H5 (fun _ _ => False) I5 (still I5 n5) t5 go) fun r s6 ⟨u, hr, h6⟩ => ?_
      subst hr
      refine thnF h6 fun _ s7 ⟨x, H7, I7, r7, y7, t7, n7⟩ => ?_
      have I7' := I7.pinned (still I7 n7) (T.obj _ _ t7)
      refine thnF (pg.run _ s7 _ H7 x u _ I7' r7 (step x H7 y7)) fun _ s8 ⟨σ8, H8, I8, hw8, q8⟩ => ?_
      refine thnF (pt.run _ s8 σ8 H8 _ I8 q8) fun b s9 ⟨H9, I9, q9⟩ => ?_
      have fin : ∀ {s' : Shared} {H' : Hp}, Inv (blH X q s3 H3 sc ev ps) ([] ++ pinsAt ps s7.heap) σ8 H' s' → Nx H' → ∃ m, m < n ∧ ∃ i H', Inv (blH X q s3 H3 sc ev ps) [] (wipe σ0 (nm.map (·.2))) H' s' ∧ tn i s'.heap ∧ (∀ b ∈ ps, H' b = none) ∧ W i m H' := by
        intro s' H' I' nx
        obtain ⟨m1, hm, w1⟩ := hNx H' nx
        have at' : ∀ b ∈ ps, ∀ o, s7.heap.get? b = some o → s'.heap.get? b = some o ∧ H' b = none := fun b hb o e =>
          have z := I'.pin (b, o) (List.mem_append_right _ (List.mem_append_right _ (mem_pinsAt hb e)))
          ⟨z.1, z.2.1⟩
        have hl : (wipe σ0 (nm.map (·.2))).length = σ8.length := by rw [← hw8, wipe_length]
        refine ⟨m1, hm, i + 1, H', (I'.unpinned (pins := [])).weak hl (fun j v e => ?_), T.keep _ _ _ t7 fun b hb o e => (at' b hb o e).1, fun b hb => ?_, w1⟩
        · rw [← hw8] at e
          exact (wipe_some e).1
        · obtain ⟨o, e, _⟩ := T.obj _ _ t7 b hb
          exact (at' b hb o e).2
      cases b with
      | false =>
        simp only [Bool.false_eq_true, if_false] at q9 ⊢
        exact fin I9 q9
      | true =>
        simp only [if_true] at q9 ⊢
        refine thnF (pb.run _ s9 σ8 H9 _ I9 q9) fun z s10 ⟨yv, H10, I10, r10, acc, hD, hz, nx⟩ => ?_
        exact app_ok (X := blH X q s3 H3 sc ev ps) I10 hD hz r10 fun s11 I11 => fin I11 nx
  exact codeAny_compStart_list loop (T.self X.A 0 _ _ _ t4 loop)
end
end DL
end
section
set_option maxRecDepth 100000
namespace DL
open PySem PySem.Spec PyProof.Rows L2
def killL : List Nat → List D → List D
  | [], E => E
  | w :: ws, E => killL ws (E.set w .una)
def S.kill (ws : List Nat) : S → S
  | .nx E => .nx (killL ws E)
  | s => s
def dKill (ws : List Nat) (b : DenS) : DenS := fun E => (b E).kill ws
def dBrkK (ws : List Nat) : DenS := fun E => .bk (killL ws E)
def dCntK (ws : List Nat) : DenS := fun E => .ct (killL ws E)
section
variable {G : Gm} {W : WX} {A : List Nat}
theorem Stt.forget1 {σ : L2.St} {I H : Hp} {E : List D} {vs : List V} {f : Ft} (w : Nat) (s : Stt G σ I H E vs f) : ∃ f', Stt G σ I H (E.set w .una) vs f' ∧ ∀ a, f' a ≤ f a := by
  by_cases hw : w < E.length
  · obtain ⟨v, g, h1, ev, y, q, k⟩ := s.rp.get (List.getElem?_eq_getElem hw)
    have k' := k (I' := I) (H' := H) (d' := .una) (v' := v) (g' := z0) (fun _ _ e => e) (fun _ => rfl) fun a z => ⟨(s.rp.trk a (by have := q a; omega)).1, rfl⟩
    have evs : vs.set w v = vs := by
      obtain ⟨hl, e2⟩ := List.getElem?_eq_some_iff.mp ev
      rw [← e2, List.set_getElem_self]
    rw [evs] at k'
    refine ⟨fadd z0 h1, ⟨⟨by simp [s.sl.1], fun j d' v' e1 n1 e2 => ?_⟩, s.sm, k', fun a => by have := q a; have := s.nd a; simp; omega⟩, fun a => by have := q a; simp; omega⟩
    by_cases hj : w = j
    · subst hj
      rw [List.getElem?_set_self hw] at e1
      cases e1; exact absurd rfl n1
    · rw [List.getElem?_set_ne hj] at e1
      exact s.sl.2 j d' v' e1 n1 e2
  · rw [List.set_eq_of_length_le (by omega)]
    exact ⟨f, s, fun a => Nat.le_refl _⟩
theorem Stt.forget {σ : L2.St} {I H : Hp} {vs : List V} : ∀ {ws : List Nat} {E : List D} {f : Ft}, Stt G σ I H E vs f → ∃ f', Stt G σ I H (killL ws E) vs f' ∧ ∀ a, f' a ≤ f a
  | [], E, f, s => ⟨f, s, fun a => Nat.le_refl _⟩
  | w :: ws, E, f, s => by
    obtain ⟨f1, s1, l1⟩ := s.forget1 w
    obtain ⟨f2, s2, l2⟩ := Stt.forget (ws := ws) s1
    exact ⟨f2, s2, fun a => Nat.le_trans (l2 a) (l1 a)⟩
theorem AnsS.kill {I H : Hp} {f : Ft} {vs : List V} {En : Ends} {ws : List Nat} {s : S} (h : AnsS G W A I H f vs En (s.kill ws)) : AnsS G W A I H f vs En s := by
  cases s with
  | nx E =>
    intro σ' vs' I' H' f' s ag fr
    obtain ⟨f2, s2, le⟩ := s.forget (ws := ws)
    exact h σ' vs' I' H' f2 s2 ag (fr.less fun x z => by have := le x; omega)
  | bk E => exact h
  | ct E => exact h
  | rt d E => exact h
  | exc c fs E => exact h
  | bad => exact h
variable {t : TS} {d : DenS}
theorem t_kill {ws : List Nat} (h : ∀ D σ H, tS G W A d D σ H → t D σ H) : ∀ D σ H, tS G W A (dKill ws d) D σ H → t D σ H := by
  rintro D σ H ⟨I, E, vs, f, s, hh⟩
  exact h D σ H ⟨I, E, vs, f, s, AnsS.kill hh⟩
end
section
variable {X : Cx} {G : Gm} {W : WX} {A : List Nat} {s : Stmt} {d : DenS} {pos : Pos}
theorem jkill (ws : List Nat) (h : JS X G W A s d) : JS X G W A s (dKill ws d) := PS_imp h (t_kill fun _ _ _ h => h)
end
end DL
end
section
set_option maxRecDepth 100000
set_option maxHeartbeats 1000000
namespace DL
open PySem PySem.Spec PyProof PyProof.Rows L2 L2H
/-- the object is of the class C and has no fields of its own -/
abbrev ofC (C : Addr) (q : Addr × Obj) : Prop := Zc (.ref C) none q.2
structure FnE (P : Program) (w : World) (K : PySem.W.Frag) (mg : Str → Option Value) (base : Heap) (k : Nat) (f : Addr) (fd : FuncData) (ps : List Str) (C : Addr) (sp : Addr → Sp) : Prop where
  len : ∀ a vs H Q E, sp a vs H Q E → vs.length = ps.length
  run : ∀ (Ar : Around) (ov : List Env) (s0 : Shared) (H0 : Hp) (ar : Args) (us : List Value) (ws : List V) (Q : VK) (E : XK) (q : Addr × Obj), RoomH k Ar → Hot1 Ar q → ofC C q → PinOk ov H0 s0 q → Env0 P w K mg base Ar ov s0 H0 →
    BindsTo s0 fd ar (ps.zip us) → Vals ws us → sp q.1 ws H0 Q E → codeAny (model P w) Ar (.call (.ref f) ar) (CR (L2N.CX P w) ov P w H0 s0 Q E) s0
theorem FnE.of {P : Program} {w : World} {K : PySem.W.Frag} {mg : Str → Option Value} {base : Heap} {x qual : Str} {st : Stmt} {f : Addr} {fd : FuncData} {N ps : List Str} {k : Nat} {C : Addr} {sp : Addr → Sp} (F : Fun K x qual st f fd) (S : FnScope N ps (defScope st)) (hl : ∀ a vs H Q E, sp a vs H Q E → vs.length = ps.length)
    (hb : ∀ (cd : Value) (Ar : Around) (ov : List Env) (s0 : Shared) (H0 : Hp) (ws : List V) (Q : VK) (E : XK) (q : Addr × Obj), Hot1 Ar q → ofC C q → RoomH k (Ar.deeper (envOfC qual (defScope st) s0.heap.objs.size f cd)) → sp q.1 ws H0 Q E →
      ∃ t, PSs (cxH (L2N.CX P w) P w K mg base N qual (defScope st) f cd Ar ov s0 H0 E q) (defBody st) t ∧ t { nx := fun _ H' => Q .non H', rt := Q } (start N ws) H0) : FnE P w K mg base (k + 1) f fd ps C sp := by
  obtain ⟨_, _, _, _, _, _, cd, _, _, rfl, look, known⟩ := F.ex
  refine ⟨hl, fun Ar ov s0 H0 ar us ws Q E q room hot hC pin e0 bt rv hq => ?_⟩
  have nn := hl _ _ _ _ _ hq
  have kin : K.In s0.heap := e0.mod.kin.keeps fun b o z => (e0.bs b o z).1
  have nolim : s0.heap.NoLimit := e0.mod.nolimit.keeps fun b o z => (e0.bs b o z).1
  have kinds : ∀ z ∈ ps.zip us, (defScope st).names.lookup z.1 = some .local ∨ ((defScope st).names.lookup z.1 = some .cell ∧ ((cellsFrom (s0.heap.objs.size + 1) (defScope st).names []).lookup z.1).isSome = true) := by
    rintro ⟨y, v⟩ hz
    rcases S.par y (List.of_mem_zip hz).1 with c | c
    · exact .inl c
    · exact .inr ⟨c, PySem.W.cellsFrom_some _ _ _ (.inl c)⟩
  refine codeAny_call_function room.depth (kin _ _ look) rfl S.co S.gen rfl (PySem.W.codeRec_of kin known) (bt _ _ _ _ ?_)
  refine wpAny_newFunctionEnv_cells S.kind kinds fun ev hev s1 inC => ?_
  subst hev
  refine ⟨nolim.keeps inC.toInCall.keep, codeAny_func ?_⟩
  obtain ⟨t, hrun, ht⟩ := hb cd Ar ov s0 H0 ws Q E q hot hC (room.deeper _) hq
  have J := inv_startH (E := E) (CX := L2N.CX P w) S pin e0 nn rv inC
  refine wpAny_mono (hrun.run [] s1 _ H0 _ J ht) (fun fl s2 done => ?_) fun _ _ z => z
  have out : ∀ {σ2 : L2.St} {H2 : Hp} {v : V} {u : Value}, Inv (cxH (L2N.CX P w) P w K mg base N qual (defScope st) f cd Ar ov s0 H0 E q) [] σ2 H2 s2 → RelV v u → Q v H2 → CE ov P w H0 s0 Q u s2 :=
    fun J2 r z => ⟨_, _, J2.os, J2.bare, J2.base, J2.hok, r, z⟩
  cases fl with
  | next =>
    obtain ⟨σ2, H2, J2, z⟩ := done
    exact out (v := V.non) (u := Value.none) J2 rfl z
  | ret u =>
    obtain ⟨v, σ2, H2, J2, r, z⟩ := done
    exact out J2 r z
  | brk =>
    obtain ⟨_, _, _, z⟩ := done
    exact z.elim
  | cont =>
    obtain ⟨_, _, _, z⟩ := done
    exact z.elim
section
variable {X : Cx} {k : Nat} {f C : Addr} {fd : FuncData} {ps : List Str} {sp : Addr → Sp} {E : L2.St → XK} {x : Str} {p pos : Pos} {e : Expr} {es : List Expr} {t : TA} {q : Addr × Obj}
theorem run_fnE {pins : List (Addr × Obj)} {σ : L2.St} {H : Hp} {s : Shared} {Q : VK} {us : List Value} {ws : List V} (F : FnE X.prog X.w X.K X.mg X.base k f fd ps C sp) (hr : RoomH k X.A) (hot : Hot1 X.A q) (hq : q ∈ X.pn) (hC : ofC C q) (hb : Binds X.K fd ps [])
    (hx : PassesAt (L2N.CX X.prog X.w) X σ (E σ)) (J : Inv X pins σ H s) (r : Vals ws us) (h : sp q.1 ws H Q (E σ)) : wpAny (model X.prog X.w) X.A (call (.ref f) us) (EP X pins σ Q) X.xe s := by
  have bd := hb s us J.kIn (by rw [List.append_nil, ← r.length]; exact F.len _ _ _ _ _ h)
  rw [List.append_nil] at bd
  have P1 := J.pin q (List.mem_append_left _ hq)
  have pin : PinOk X.stack H s q := ⟨P1.1, P1.2.1, fun z => (List.mem_cons.mp (J.stkSub q.1 z)).elim P1.2.2.1 P1.2.2.2.1, P1.2.2.2.2⟩
  refine wpAny_call (codeAny_mono (F.run X.A X.stack s H ⟨us, []⟩ us ws Q (E σ) q hr hot hC pin J.env0 bd r h) ?_)
  intro res s2 hres
  match res, hres with
  | .error ev, z => exact hx pins H s ev s2 J z
  | .ok (.ret u), z => exact J.after z
  | .ok .next, z => exact False.elim z
  | .ok .brk, z => exact False.elim z
  | .ok .cont, z => exact False.elim z
theorem pe_callE (F : FnE X.prog X.w X.K X.mg X.base k f fd ps C sp) (hr : RoomH k X.A) (hot : Hot1 X.A q) (hq : q ∈ X.pn) (hC : ofC C q) (hg : Gl X x) (hm : X.mg x = some (.ref f)) (hk : PySem.W.keepIn X.K (.ref f) = true) (hb : Binds X.K fd ps [])
    (hx : ∀ σ, PassesAt (L2N.CX X.prog X.w) X σ (E σ)) (ha : PA X (e :: es) t) (hdb : (x == ("__debug__" : Str)) = false := by decide) (h1 : starEach (e :: es) X.env = (false, eval e X.env) :: starEach es X.env := by rfl)
    (h2 : (backTo pos (starEach es X.env)).any (·.1) = false := by rfl) : PE X (.Call (.Name x p) (e :: es) [] pos) (tCallS (sp q.1) E t) := by
  constructor
  intro pins s σ H Q J hQ
  refine wpAny_Call_Name_kw (ld_glob J hg hm ?_ hdb)
  refine PySem.W.callWith_K (h₀ := X.base) J.ok.mod.kin hk (thn (ha.run pos pins s σ H _ J hQ) fun us s1 z => ?_) h1 h2
  obtain ⟨ws, H1, J1, r, z⟩ := z
  exact ⟨J1.kIn, run_fnE F hr hot hq hC hb (hx σ) J1 r z⟩
theorem passW0 (σ : L2.St) : PassesAt (L2N.CX X.prog X.w) X σ (WE W0 σ) := fun _ _ _ _ _ _ h => by
  obtain ⟨_, _, _, _, _, _, _, _, _, _, _, _, z⟩ := h
  exact z.elim
end
section
variable {X : Cx} {G : Gm} {W : WX} {p1 : Bool} {pos p : Pos} {e : Expr} {es : List Expr} {das : DenA} {F : Addr → Fn} {k : Nat} {f C : Addr} {fd : FuncData} {ps : List Str} {q : Addr × Obj} {x : Str}
theorem jcallE (ok : FnE X.prog X.w X.K X.mg X.base k f fd ps C (fun a => spOf G (F a))) (hx : ∀ σ, PassesAt (L2N.CX X.prog X.w) X σ (WE W σ)) (hr : RoomH k X.A) (hot : Hot1 X.A q) (hq : q ∈ X.pn) (hC : ofC C q) (hm : X.mg x = some (.ref f)) (hk : PySem.W.keepIn X.K (.ref f) = true) (hb : Binds X.K fd ps [])
    (ha : JA X G W p1 (e :: es) das) (hg : Gl X x := by rfl) (hdb : (x == ("__debug__" : Str)) = false := by decide) (h1 : starEach (e :: es) X.env = (false, eval e X.env) :: starEach es X.env := by rfl) (h2 : (backTo pos (starEach es X.env)).any (·.1) = false := by rfl) :
    JE X G W false (.Call (.Name x p) (e :: es) [] pos) (dCall (F q.1) das) := PE_imp (pe_callE (E := WE W) ok hr hot hq hC hg hm hk hb hx ha hdb h1 h2) (t_callS (fun _ _ _ h => h))
end
/-- a def that is handed the exception, in the layer's words -/
theorem ok_defE {P : Program} {w : World} {K : PySem.W.Frag} {mg : Str → Option Value} {base : Heap} {x qual : Str} {st : Stmt} {f : Addr} {fd : FuncData} {N ps : List Str} {k : Nat} {C : Addr} {G : Gm} {A : List Nat} {b : Addr → DenS} {Fa : Addr → Fn} (F : Fun K x qual st f fd) (S : FnScope N ps (defScope st)) (hn : ps.length ≤ N.length) (hF : ∀ a, Fa a = opq (fnP ps.length N.length A (b a)))
    (hb : ∀ (cd : Value) (Ar : Around) (ov : List Env) (s : Shared) (H : Hp) (E : XK) (q : Addr × Obj), Hot1 (Ar.deeper (envOfC qual (defScope st) s.heap.objs.size f cd)) q → ofC C q → RoomH k (Ar.deeper (envOfC qual (defScope st) s.heap.objs.size f cd)) →
      JB (cxH (L2N.CX P w) P w K mg base N qual (defScope st) f cd Ar ov s H E q) G (fun cls d _ H => E cls d H) A (defBody st) (b q.1)) :
    FnE P w K mg base (k + 1) f fd ps C (fun a => spOf G (Fa a)) := by
  have eF : Fa = fun a => opq (fnP ps.length N.length A (b a)) := funext hF
  subst eF
  have flen : ∀ a vs H Q E, spOf G (opq (fnP ps.length N.length A (b a))) vs H Q E → vs.length = ps.length := fun a vs H Q E h => spOf_len (n := ps.length) (fun ds h => by
    rw [opq_eq] at h
    unfold fnP at h
    by_cases z : ds.length = ps.length
    · exact z
    · rw [if_neg z] at h; exact absurd rfl h) h
  refine FnE.of F S flen fun cd Ar ov s H vs Q E q hot hC hr h => ⟨_, hb cd Ar ov s H E q ⟨hot.1, hot.2⟩ hC hr, ?_⟩
  have hv := flen _ _ _ _ _ h
  have h : spOf G (opq (fnP ps.length N.length A (b q.1))) vs H Q E := h
  rw [opq_eq] at h
  unfold fnP at h
  refine fn_body hn hv (fun ds hd => ?_) (fun _ _ _ h => h) h
  by_cases z : ds.length = ps.length
  · rw [if_pos z]
  · rw [if_neg z] at hd; exact absurd rfl hd
noncomputable def dIsE (a : Addr) (i : Nat) (b : Bool) : Den := fun E => match E[i]? with
  | some (.sc (.ref a')) => if a' = a then .ok (.val (.sc (.bl b)), E) else .bad
  | _ => .bad
theorem t_isE {G : Gm} {W : WX} {a : Addr} {i : Nat} {b : Bool} : ∀ σ H Q, tO G W true (dIsE a i b) σ H Q → σ[i]? = some (some (V.ref a)) ∧ Q (.bl b) H := by
  rintro σ H Q ⟨I, E, vs, f, s, h⟩
  unfold dIsE at h
  split at h
  · rename_i a' e
    split at h
    · rename_i ha
      subst ha
      obtain ⟨v, g, h1, ev, x, _⟩ := s.rp.get e
      obtain ⟨rfl, _⟩ := x
      refine ⟨s.sl.2 i _ _ e (by rintro ⟨⟩) ev, ?_⟩
      exact h (.bl b) I H f z0 s ⟨rfl, fun _ => rfl⟩ (fun a => by simp; exact s.nd a) (Fr.refl.less fun x z => by simpa using z) fun _ => rfl
    · exact h.elim
  · exact h.elim
theorem call_isQ {Y : Cx} {Dc : Addr} {q : Addr × Obj} (C : ExcC Y.K Dc) (hz : ofC Dc q) (hf : ∃ vs : Array Value, q.2.data = .fields vs) (hq : q ∈ Y.pn) : CallR Y (.builtin "isinstance") (rIsE Y.K Dc q.1) := by
  intro pins s σ H xs us Q J r h
  obtain ⟨c, cv, b, rfl, hcv, hk, z⟩ := h
  cases r with
  | cons rx rr =>
    cases rr with
    | cons rt rr =>
      cases rr
      cases rx
      have ec := hcv _ rt
      subst ec
      have P1 := (J.pin q (List.mem_append_left _ hq)).1
      obtain ⟨qa, ⟨oc, od, oda, osl⟩⟩ := q
      obtain ⟨fs, hf⟩ := hf
      obtain ⟨z1, z2⟩ := hz
      dsimp only at z1 z2 hf
      subst z1 z2 hf
      have at1 : PySem.W.InstAt s.heap qa ⟨.ref Dc, none, .fields fs, osl⟩ Dc none := ⟨P1, rfl, rfl, trivial⟩
      exact PySem.W.kia_one (PySem.W.handS_kitx_exc C.hg C.hk C.hs C.hd C.ha C.hn C.ht C.hm) J.kIn at1 hk (fun z => nomatch z) fun tk => ⟨.bl b, H, J.kept (t' := tk) fun _ _ y => y, rfl, z⟩
theorem jisE {Y : Cx} {G : Gm} {W : WX} {Dc : Addr} {q : Addr × Obj} {i : Nat} {n x : Str} {v : V} {cv : Value} {b : Bool} {p p2 p3 pos : Pos} (C : ExcC Y.K Dc) (hot : Hot1 Y.A q) (hz : ofC Dc q) (hq : q ∈ Y.pn) (hm : Y.mg "isinstance" = none) (hc : CN Y x v cv) (e : PySem.W.kitOne Y.K (.ref Dc) cv = some b)
    (hN : Y.N[i]? = some n := by rfl) (hv : Vis Y.env.scope n := by first | exact Or.inl rfl | exact Or.inr (Or.inl rfl) | exact Or.inr (Or.inr rfl)) (hd : (n == ("__debug__" : Str)) = false := by decide) (hcd : (n == ("__classdict__" : Str)) = false := by decide) (hg : Gl Y "isinstance" := by rfl)
    (h1 : starEach [.Name n p2, .Name x p3] Y.env = (false, eval (.Name n p2) Y.env) :: starEach [.Name x p3] Y.env := by rfl) (h2 : starEach [.Name x p3] Y.env = (false, eval (.Name x p3) Y.env) :: starEach [] Y.env := by rfl) (h3 : (backTo pos (starEach [.Name x p3] Y.env)).any (·.1) = false := by rfl) :
    JE Y G W true (.Call (.Name "isinstance" p) [.Name n p2, .Name x p3] [] pos) (dIsE q.1 i b) := by
  obtain ⟨_, fs, hfs, _⟩ := hot
  refine PE_imp (pe_callB (call_isQ C hz ⟨fs, hfs⟩ hq) hg hm (by decide +kernel) (pa_cons (pv i hN hv hd hcd) (pa_cons (hc.pe p3) pa_nil h2) h1) (by decide) (by decide) h1 h3) fun σ H Q h => ?_
  obtain ⟨h0, hQ⟩ := t_isE σ H Q h
  exact ⟨_, h0, _, cv, b, rfl, hc.is, e, hQ⟩
section
variable {X : Cx} {G : Gm} {W : WX} {A : List Nat} {pos q1 : Pos} {a : Expr} {das : DenA} {p : Bool}
abbrev JIH (X : Cx) (G : Gm) (W : WX) (tg e : Expr) (d : DenI) : Prop := PIH X tg e (tIB G W false d)
theorem PIH_imp {tg e : Expr} {t t' : TI} (h : PIH X tg e t) (k : ∀ σ H Q, t' σ H Q → t σ H Q) : PIH X tg e t' := ⟨fun pins s σ H R I z => h.run pins s σ H R I (k σ H R z)⟩
theorem jrg1H {tg : Expr} (hm : X.mg "range" = none) (ha : JA X G W p [a] das) (hg : Gl X "range" := by rfl) (hs : starEach [a] X.env = [(false, eval a X.env)] := by rfl) : JIH X G W tg (.Call (.Name "range" q1) [a] [] pos) (dR1 das) :=
  PIH_imp (pi_range1H hg hm ha hs) (tIB_I (t_r1 fun _ _ _ h => h))
theorem jlcH {q : Addr × Obj} {pt pe : Bool} {elt tg iter : Expr} {ifs : List Expr} {scope : Scope} {own : List (Str × Nat)} {g : TG} {dg : DenG} {di : DenI} {dt : DenT} {de : Den} (hot : Hot1 X.A q) (hq : q ∈ X.pn) (hN : X.N.Nodup) (hi : JIH X G W tg iter di) (ok : BlkOk X.N X.env.scope scope own) (ht : TgS G A g dg)
    (hA : ∀ j ∈ A, j ∈ own.map (·.2)) (nd : (own.map (·.2)).Nodup)
    (hg : ∀ s H C cl fp, PG (blH X q s H scope (compEnvC scope cl C X.env) fp) tg g) (hif : ∀ s H C cl fp, PTs (blH X q s H scope (compEnvC scope cl C X.env) fp) ifs (tT G W0 pt dt))
    (he : ∀ s H C cl fp, JE (blH X q s H scope (compEnvC scope cl C X.env) fp) G W0 pe elt de) (hs : ∀ x, foldedSetIterable iter X.env x = pure x := by intro _; rfl) :
    JE X G W false (.ListComp elt [⟨tg, iter, ifs, 0⟩] scope pos) (dComp di dg dt de (own.map (·.2))) :=
  PE_imp (pe_lcH hot hq hN hi ok hg hif he hs) (t_comp (fun h => by cases h) ht hA nd (fun _ _ _ h => h) (fun _ _ _ h => h) (fun _ _ _ h => h))
end
/-- the answer of a handler that does not hang on where the exception stands -/
def sameAns (i : Nat) (E : List D) (dh : Addr → DenS) (d : D) (E2 : List D) : Prop := ∀ a, dh a (E.set i (.sc (.ref a))) = .rt d (E2.set i (.sc (.ref a)))
open Classical in
noncomputable def dTryE (i c0 : Nat) (dh : Addr → DenS) (b : DenS) : DenS := fun E => match b E with
  | .exc c fs E' => match E'[i]?, fs with
    | some .una, [] => if c = c0 then (if h : ∃ z : D × List D, sameAns i E' dh z.1 z.2 then .rt (Classical.choose h).1 ((Classical.choose h).2.set i .una) else .bad) else .bad
    | _, _ => .bad
  | s => s
theorem dTryE_of {i c0 : Nat} {dh : Addr → DenS} {b : DenS} {E E' E2 : List D} {d : D} (hb : b E = .exc c0 [] E') (hi : E'[i]? = some .una) (h : sameAns i E' dh d E2) : dTryE i c0 dh b E = .rt d (E2.set i .una) := by
  unfold dTryE
  rw [hb]
  dsimp only
  rw [hi]
  dsimp only
  rw [if_pos rfl]
  have hx : ∃ z : D × List D, sameAns i E' dh z.1 z.2 := ⟨(d, E2), h⟩
  rw [dif_pos hx]
  have h2 := Classical.choose_spec hx
  have e := (h2 0).symm.trans (h 0)
  injection e with e1 e2
  rw [e1]
  have e3 := congrArg (fun l => l.set i D.una) e2
  simpa using e3
section
variable {X : Cx} {G : Gm} {W : WX} {A A2 : List Nat} {b₀ : Stmt} {body suite : List Stmt} {db : DenS} {dh : Addr → DenS} {np pos pos' : Pos} {x n : Str} {i c0 : Nat} {cP : Addr}
abbrev tsE (G : Gm) (c0 : Nat) (A2 : List Nat) (dh : Addr → DenS) : Addr → Value → Option Addr → TS := fun a cls d D σ H => (cls = .ref (G.cls c0) ∧ d = none) ∧ tS G W0 A2 (dh a) D σ H
theorem t_tryE {K : PySem.W.Frag} (em : PySem.W.exmOne K (.ref (G.cls c0)) (.ref cP) = some true) : ∀ D σ H, tS G W (A ++ ([i] ++ A2)) (dTryE i c0 dh db) D σ H → tS G (wAs K (.ref cP) i (tsE G c0 A2 dh) W D) A db D σ H := by
  intro D σ H z
  obtain ⟨I, E, vs, f, s, hh⟩ := z
  refine ⟨I, E, vs, f, s, ?_⟩
  have sub : ∀ j ∈ A, j ∈ A ++ ([i] ++ A2) := fun j hj => List.mem_append_left _ hj
  unfold dTryE at hh
  cases e : db E with
  | exc c fs E' =>
    rw [e] at hh
    dsimp only at hh
    split at hh
    · rename_i eI
      split at hh
      · rename_i hcc
        subst hcc
        split at hh
        · rename_i hx
          have same := Classical.choose_spec hx
          generalize Classical.choose hx = z at hh same
          obtain ⟨d, E2⟩ := z
          dsimp only at hh same
          intro cls dd σ' vs' I' H' f' s' ag ex fr
          obtain ⟨rfl, ⟨_, rfl⟩ | ⟨z, _⟩⟩ := ex
          · have hil : i < E'.length := (List.getElem?_eq_some_iff.mp eI).1
            refine ⟨true, em, fun _ a ha => ⟨⟨rfl, rfl⟩, ?_⟩, fun z => by cases z⟩
            obtain ⟨f2, s2, le⟩ := s'.set (d := .sc (.ref a)) (v := .ref a) (g := z0) ⟨rfl, fun _ => rfl⟩ (fun b => by simpa using s'.nd b) hil
            refine ⟨I', _, _, f2, s2, ?_⟩
            rw [same a]
            intro v σ3 vs3 I3 H3 f3 g s3 ag3 x3 n3 fr3
            obtain ⟨f4, s4, le4⟩ := s3.forget1 i
            rw [List.set_set] at s4
            have ag1 : Agr [i] vs' (vs'.set i (.ref a)) := fun j hj => by
              rw [List.getElem?_set_ne (by rintro rfl; simp at hj)]
            refine hh v σ3 vs3 I3 H3 f4 g s4 (ag.trans (ag1.trans ag3)) x3 (fun b => by have := n3 b; have := le4 b; omega) ?_
            have fr1 : Fr false I H f I' H' f2 := fr.less fun b z => by have := le b; simp at this; omega
            exact (fr1.trans fr3).less fun b z => by have := le4 b; simp at z ⊢; omega
          · exact absurd rfl z
        · exact hh.elim
      · exact hh.elim
    · exact hh.elim
  | nx E' => rw [e] at hh; exact fun σ' vs' I' H' f' s' ag fr => hh σ' vs' I' H' f' s' (ag.sub sub) fr
  | bk E' => rw [e] at hh; exact fun σ' vs' I' H' f' s' ag fr => hh σ' vs' I' H' f' s' (ag.sub sub) fr
  | ct E' => rw [e] at hh; exact fun σ' vs' I' H' f' s' ag fr => hh σ' vs' I' H' f' s' (ag.sub sub) fr
  | rt d E' => rw [e] at hh; exact fun v σ' vs' I' H' f' g s' ag x n fr => hh v σ' vs' I' H' f' g s' (ag.sub sub) x n fr
  | bad => rw [e] at hh; exact hh.elim
end
end DL
end
section
set_option maxRecDepth 100000
set_option maxHeartbeats 1000000
namespace DL
open PySem PySem.Spec PyProof PyProof.Rows L2 L2H
section
variable {X : Cx} {pins : List (Addr × Obj)} {σ : L2.St} {H : Hp} {s : Shared}
/-- a cell is emptied -/
theorem Inv.emptied {i : Nat} {n : Str} {c : Addr} {h' : Heap} (J : Inv X pins σ H s) (hN : X.N.Nodup) (hi : X.N[i]? = some n) (fn : X.fn n = true) (hc : X.env.cells.lookup n = some c) (k : X.env.kindOf n = some .cell) (e' : h'.IsCell c none) (sb : Heap.SameBut c s.heap h') :
    Inv X pins (σ.set i none) H { s with heap := h' } := by
  obtain ⟨w0, o0, g0, d0⟩ := J.cell n c hc
  obtain ⟨m, ns, lk⟩ := id J.loc
  have old : ∀ b o, X.s_0.heap.get? b = some o → b ≠ c := fun b o e => Nat.ne_of_lt (Nat.lt_of_lt_of_le (Heap.lt_size e) (J.ok.cab n c fn hc))
  refine ⟨J.ok, J.os, J.bare, ?_, ⟨m, ns.sameBut sb (Ne.symm (J.cne n c hc)), ?_⟩, ?_, J.free, J.freeC, ?_, ?_, by simpa using J.len⟩
  · refine ⟨fun b o e z1 z2 z3 => (sb.2 b (old b o e)).trans (J.base.keep b o e z1 z2 z3), fun b o e z1 z2 z3 => ?_, J.base.free, fun b o e z3 => ?_, J.base.tups, J.base.frzs, J.base.tbls⟩
    · obtain ⟨sl, e1⟩ := J.base.slot b o e z1 z2 z3
      exact ⟨sl, (sb.2 b (old b o e)).trans e1⟩
    · obtain ⟨o', e1⟩ := J.base.there b o e z3
      exact ⟨o', (sb.2 b (old b o e)).trans e1⟩
  · intro j y v e1 e2 e3
    by_cases hj : j = i
    · subst hj
      by_cases hlt : j < σ.length
      · rw [List.getElem?_set_self hlt] at e2; cases e2
      · rw [List.getElem?_eq_none (by simpa using hlt)] at e2; cases e2
    · rw [List.getElem?_set_ne (Ne.symm hj)] at e2
      obtain ⟨u, r, q⟩ := lk j y v e1 e2 e3
      refine ⟨u, r, ?_⟩
      rcases q with ⟨a1, a2⟩ | ⟨a1, c', a2, a3⟩
      · exact .inl ⟨a1, a2⟩
      · refine .inr ⟨a1, c', a2, a3.sameBut sb ?_⟩
        intro z
        subst z
        have := J.ok.inj _ _ _ a2 hc
        subst this
        exact hj (nodup_ix hN e1 hi)
  · intro y c' e
    by_cases z : c' = c
    · subst z; exact ⟨_, e'⟩
    · obtain ⟨w, q⟩ := J.cell y c' e
      exact ⟨w, q.sameBut sb z⟩
  · intro p hp
    obtain ⟨a1, a2, a3, a4, a5⟩ := J.pin p hp
    refine ⟨(sb.2 p.1 ?_).trans a1, a2, a3, a4, a5⟩
    intro z
    rw [z, g0] at a1
    have : o0 = p.2 := Option.some.inj a1
    exact a5 w0 (by rw [← this]; exact d0)
  · intro b ob e
    refine (J.hok b ob e).stay (fun c' w' q1 q2 => (sb.2 c' ?_).trans q2) (fun _ q => q) fun _ _ q => q
    intro z
    subst z
    have fr := J.freeC n c' hc
    rcases q1 with q1 | q1
    · subst q1; rw [fr] at e; cases e
    · rw [fr] at q1; cases q1
theorem gone_cell {M : Model} {A : Around} {E : Value → Shared → Prop} {i : Nat} {n : Str} {pos : Pos} {Q : Unit → Shared → Prop} (J : Inv X pins σ H s) (hN : X.N.Nodup) (hi : X.N[i]? = some n) (hl : X.env.kindOf n = some .cell) (fn : X.fn n = true)
    (h : ∀ s', Inv X pins (σ.set i none) H s' → Q () s') : wpAny M A (do bindName X.env n .none; unbindBehindTheSuite X.env n pos) Q E s := by
  have hl' : X.env.scope.names.lookup n = some .cell := hl
  refine wpAny_bind (wpAny_bindName (store_ok (v := .non) J hN hi (.inr hl') rfl (fun s1 J1 => ?_) (.inl fn)))
  obtain ⟨c, hc⟩ := J1.ok.has n (.inl hl')
  obtain ⟨m, _, lk⟩ := id J1.loc
  have iσ : i < σ.length := by rw [J.len]; exact (List.getElem?_eq_some_iff.mp hi).1
  obtain ⟨u, _, q⟩ := lk i n .non hi (by rw [List.getElem?_set_self iσ]) (.inr (.inl hl'))
  have full : s1.heap.IsCell c (some u) := by
    rcases q with ⟨a, _⟩ | ⟨_, c', a, b⟩
    · rw [hl] at a; cases a
    · rw [hc] at a; cases a; exact b
  unfold unbindBehindTheSuite
  refine wpAny_onRaise ?_
  unfold unbindName
  refine wpAny_bind (wpAny_point (wpAny_bind ?_))
  unfold deleteName
  simp only [hl]
  refine wpAny_bind (wpAny_cellOf hc (wpAny_bind (wpAny_cellGet full ?_)))
  simp only [Option.isSome_some, if_true]
  refine wpAny_cellSet full fun h' e' sb => wpAny_point ?_
  have := Inv.emptied J1 hN hi fn hc hl e' sb
  rw [List.set_set] at this
  exact h _ this
/-- try .. except c as n, n in a cell -/
theorem ps_try_cell {x n : Str} {c : Value} {i : Nat} {body suite : List Stmt} {b₀ : Stmt} {np pos p2 : Pos} {tb : WX → TS} {ts : Addr → Value → Option Addr → TS} {Wo : WX} (hs : X.stack = X.env :: X.outer) (hf : X.env.frame = some X.env.locals) (hN : X.N.Nodup) (hi : X.N[i]? = some n) (hln : X.env.kindOf n = some .cell) (fn : X.fn n = true) (hc : Names X x c) (tk : L2N.Takes X Wo)
    (hb : ∀ (W : WX) (pn : List (Addr × Obj)) (xe : Value → Shared → Prop), L2N.Takes (X.tr pn xe) W → PassesOwn (model X.prog X.w) X.A X.env xe → PSs (X.tr pn xe) body (tb W))
    (hsu : ∀ (a : Addr) (oe : Obj) (cls : Value) (d : Option Addr) (pn : List (Addr × Obj)), L2N.Zn cls d oe → (∃ vs, oe.data = .fields vs) → PSs (X.suite a ((a, oe) :: pn)) (b₀ :: suite) (ts a cls d)) :
    PS X (.Try body [.ExceptHandler (some (.Name x np)) (some n) (b₀ :: suite) p2] [] [] pos) (fun D σ H => tb (wAs X.K c i ts Wo D) D σ H) := by
  constructor
  intro pins s σ H D J hD
  have ok := J.ok
  have frames : X.A.frames = some (X.env :: X.outer) := by rw [ok.frames, hs]
  have loc : L2.Loc X.env.scope n := .inr hln
  refine wpAny_Try_except (wpAny_mono ((hb (wAs X.K c i ts Wo D) (X.pn ++ pins) (fun e s1 => wpAny (model X.prog X.w) X.A (noteFrame e X.env) (fun _ s2 => wpAny (model X.prog X.w) X.A (setFlight e none) (fun _ s3 =>
    wpAny (model X.prog X.w) X.A (handleBy e X.env [.ExceptHandler (some (.Name x np)) (some n) (b₀ :: suite) p2]) (SP X pins D) X.xe s3) X.xe s2) X.xe s1) (fun u s1 air => ?_) PassesOwn.looking).run [] s σ H D (J.toTry _) hD) (fun f s1 done => ?_) fun _ _ z => z)
  · obtain ⟨a, B, sI, pl, σ1, H1, cls, d, rfl, K1, nb, up, sky, na, os, ag, b, hb1, yes, no⟩ := air
    have J1 : Inv X pins σ1 H1 sI := K1.ofTry ok
    have sky1 : Sky B (X.env :: X.outer) a (L2N.Zn cls d) X.env.locals s1.heap := by rw [← hs]; exact sky
    show wpAny (model X.prog X.w) X.A (noteFrame (.ref a) X.env) _ _ _
    refine L2N.Sky.land L2N.Zn.steady frames hf sky1 fun h3 fl3 up3 => ?_
    have J3 : Inv X pins σ1 H1 { s1 with heap := h3 } := J1.landed nb fl3.1 (up.trans up3) os ag
    obtain ⟨oe3, vs3, he3, hz3, hd3⟩ := fl3.there
    have nfr : a ∉ frs (X.env :: X.outer) := fun hm => by
      obtain ⟨_, o', e', hnf⟩ := fl3.2.2.1.mem hm
      rw [he3] at e'; cases e'
      exact hnf _ hd3
    have nL : a ≠ X.env.locals := fun z => nfr (List.mem_filterMap.mpr ⟨X.env, List.mem_cons_self, by rw [hf, z]⟩)
    have nF : a ∉ X.fs := fun hm => by
      obtain ⟨ev, hev, z⟩ := List.mem_filterMap.mp hm
      exact nfr (List.mem_filterMap.mpr ⟨ev, List.mem_cons_of_mem _ hev, z⟩)
    have S3 := J3.suite he3 hd3 na nL nF
    refine wpAny_handleBy_cons (codeAny_handlers_test ?_) (by intro z; cases z)
    have look : PySem.W.Looks (model X.prog X.w) h3 (typeOf (.ref a)) cls := fun A Q E s k z => wpAny_typeOf_ref (k _ _ he3) (by rw [hz3.1]; exact z)
    have match1 := PySem.W.exm_one (M := model X.prog X.w) J3.kIn look hb1
    have named : ∀ {Q : Value → Shared → Prop} {E : Value → Shared → Prop}, Q c { s1 with heap := h3 } → wpAny (model X.prog X.w) (X.A.mark (some (.ref a))) (eval (.Name x np) X.env) Q E { s1 with heap := h3 } := by
      intro Q E z
      obtain ⟨g1, g2, g3 | ⟨g3, g4, g5⟩⟩ := hc
      · exact ld_glob (X := X.suite a ((a, oe3) :: (X.pn ++ pins))) S3 g1 g3 z g2
      · exact ld_blt (X := X.suite a ((a, oe3) :: (X.pn ++ pins))) S3 g1 g3 g4 z g5 g2
    refine named (match1.here ?_)
    cases b with
    | false =>
      show wpAny _ X.A (handleBy (.ref a) X.env []) _ _ _
      refine wpAny_handleBy_nil ?_
      obtain ⟨k1, k2, k3, oe, vs, T, oT, t2, he, hz, hd, h1, hr⟩ := id fl3
      unfold PySem.passOn
      refine wpAny_bind (wpAny_field he hd h1 ?_)
      rw [if_neg (show ¬ ((Value.ref T == Value.none) = true) from by simp)]
      have away : wpAny (model X.prog X.w) X.A (setFlight (.ref a) X.env.frame) (fun _ s4 => wpAny (model X.prog X.w) X.A (throw (.ref a) : Sem Flow) (SP X pins D) X.xe s4) X.xe { s1 with heap := h3 } := by
        rw [hf]
        exact HandSPX.setFlight_upZ fl3 fun h4 hh4 up4 => wpAny_throw (tk _ _ ⟨a, B, sI, pins, σ1, H1, cls, d, rfl, J1, nb, (up.trans up3).trans up4, .inr (.inr (by rw [hs]; exact hh4)), na, os, ag, no rfl⟩)
      first
        | exact wpAny_bind (wpAny_pure (wpAny_bind away))
        | exact wpAny_bind away
    | true =>
      refine codeAny_handlers_suite_as (HandSPX.lands_againZ fl3 fun h4 fl4 up4 => ?_)
      have J4 : Inv X pins σ1 H1 { s1 with heap := h4 } := J1.landed nb fl4.1 ((up.trans up3).trans up4) os ag
      obtain ⟨oe4, vs4, he4, hz4, hd4⟩ := fl4.there
      have S4 := J4.suite he4 hd4 na nL nF
      refine store_ok (X := X.suite a ((a, oe4) :: (X.pn ++ pins))) (v := .ref a) S4 hN hi loc rfl (fun s5 S5 => ?_) (.inl fn)
      refine wpAny_mono ((hsu a oe4 cls d (X.pn ++ pins) hz4 ⟨_, hd4⟩).run [] s5 _ H1 _ S5 (yes rfl a na)) (fun f s6 out => ?_) (fun _ _ z => False.elim z)
      have close : ∀ {σ6 : L2.St} {H6 : Hp} {Q : Shared → Prop}, Inv (X.suite a ((a, oe4) :: (X.pn ++ pins))) [] σ6 H6 s6 → (∀ s7, Inv X pins (σ6.set i none) H6 s7 → Q s7) →
          wpAny (model X.prog X.w) X.A (do bindName X.env n .none; unbindBehindTheSuite X.env n p2) (fun _ s7 => Q s7) X.xe s6 := fun S6 z => gone_cell (S6.unsuite ok) hN hi hln fn z
      cases f with
      | ret u =>
        obtain ⟨v6, σ6, H6, S6, r6, z⟩ := out
        exact close S6 fun s7 J7 => ⟨_, _, _, J7, r6, z⟩
      | next =>
        obtain ⟨σ6, H6, S6, z⟩ := out
        exact close S6 fun s7 J7 => ⟨_, _, J7, z⟩
      | brk =>
        obtain ⟨σ6, H6, S6, z⟩ := out
        exact close S6 fun s7 J7 => ⟨_, _, J7, z⟩
      | cont =>
        obtain ⟨σ6, H6, S6, z⟩ := out
        exact close S6 fun s7 J7 => ⟨_, _, J7, z⟩
  · cases f with
    | ret u =>
      obtain ⟨v, σ1, H1, K1, r, z⟩ := done
      exact ⟨v, σ1, H1, K1.ofTry ok, r, z⟩
    | next =>
      obtain ⟨σ1, H1, K1, z⟩ := done
      exact wpAny_execs_nil ⟨σ1, H1, K1.ofTry ok, z⟩
    | brk =>
      obtain ⟨σ1, H1, K1, z⟩ := done
      exact ⟨σ1, H1, K1.ofTry ok, z⟩
    | cont =>
      obtain ⟨σ1, H1, K1, z⟩ := done
      exact ⟨σ1, H1, K1.ofTry ok, z⟩
end
section
variable {X : Cx} {G : Gm} {W : WX} {A A2 : List Nat} {b₀ : Stmt} {body suite : List Stmt} {db : DenS} {dh : Addr → DenS} {np pos pos' : Pos} {x n : Str} {i c0 : Nat} {cP : Addr}
theorem jtryEc (hK : G.K = X.K) (hs : X.stack = X.env :: X.outer) (hf : X.env.frame = some X.env.locals) (hN : X.N.Nodup) (tk : L2N.Takes X W) (gP : X.mg x = some (.ref cP)) (em : PySem.W.exmOne X.K (.ref (G.cls c0)) (.ref cP) = some true)
    (hb : ∀ (W' : WX) (pn : List (Addr × Obj)) (xe : Value → Shared → Prop), L2N.Takes (X.tr pn xe) W' → PassesOwn (model X.prog X.w) X.A X.env xe → JB (X.tr pn xe) G W' A body db)
    (hsu : ∀ (q : Addr × Obj) (pn : List (Addr × Obj)), Hot1 (X.suite q.1 (q :: pn)).A q → ofC (G.cls c0) q → JB (X.suite q.1 (q :: pn)) G W0 A2 (b₀ :: suite) (dh q.1))
    (hi : X.N[i]? = some n := by rfl) (hln : X.env.kindOf n = some .cell := by rfl) (fn : X.fn n = true := by rfl) (hg : Gl X x := by rfl) (hdb : (x == ("__debug__" : Str)) = false := by decide) :
    JS X G W (A ++ ([i] ++ A2)) (.Try body [.ExceptHandler (some (.Name x np)) (some n) (b₀ :: suite) pos'] [] [] pos) (dTryE i c0 dh db) := by
  refine PS_imp (ps_try_cell (c := .ref cP) (i := i) (tb := fun W' => tS G W' A db) (ts := tsE G c0 A2 dh) (Wo := W) hs hf hN hi hln fn ⟨hg, hdb, .inl gP⟩ tk (fun W' pn xe t1 t2 => hb W' pn xe t1 t2)
    (fun a oe cls d pn hz hv => ⟨fun pins s σ H D J h => by
      obtain ⟨⟨rfl, rfl⟩, h⟩ := h
      obtain ⟨fs, hfs⟩ := hv
      exact (hsu (a, oe) pn ⟨rfl, fs, hfs, hz.2.2 fs hfs⟩ hz.zc).run pins s σ H D J h⟩)) (t_tryE em)
/-- room enough for what compares -/
theorem unitsH {k : Nat} {A : Around} (r : RoomH k A) : A.units + 64 < cLine := by have := r.un; omega
theorem roomS {k : Nat} {A : Around} {v : Option Value} (r : Room k A) : RoomH k (A.mark v) := ⟨r.dp, r.un⟩
end
@[simp] theorem ev_dIsE (a : Addr) (i : Nat) (b : Bool) (E : List D) : dIsE a i b E = match E[i]? with
  | some (.sc (.ref a')) => if a' = a then .ok (.val (.sc (.bl b)), E) else .bad
  | _ => .bad := id rfl
end DL
end
section
set_option maxRecDepth 100000
set_option maxHeartbeats 1000000
namespace DL
open PySem PySem.Spec PyProof PyProof.Rows L2 L2H
end DL
end
section
set_option maxRecDepth 100000
set_option maxHeartbeats 1000000
namespace DL
open PySem PySem.Spec PyProof PyProof.Rows L2 L2H
noncomputable def dXf (a : Addr) (fs : List (Str × V)) (f : Str) (i : Nat) : Den := fun E => match E[i]? with
  | some (.sc (.ref a')) => if a' = a then (match fs.lookup f with | some v => .ok (.val (.sc v), E) | none => .bad) else .bad
  | _ => .bad
@[simp] theorem ev_dXf (a : Addr) (fs : List (Str × V)) (f : Str) (i : Nat) (E : List D) : dXf a fs f i E = match E[i]? with
  | some (.sc (.ref a')) => if a' = a then (match fs.lookup f with | some v => .ok (.val (.sc v), E) | none => .bad) else .bad
  | _ => .bad := id rfl
end DL
end
section
set_option maxRecDepth 100000
set_option maxHeartbeats 1000000
namespace DL
open PySem PySem.Spec PyProof PyProof.Rows L2 L2H
def dTupRg1 (d : Den) : Den := fun E => (d E).bind fun r => match cont r.2 r.1 with
  | some (.sc (.int j)) => if 0 ≤ j ∧ j ≤ 100000 then .ok (.val (.nd .tup (rngD 0 j.toNat)), r.2) else .bad
  | _ => .bad
@[simp] theorem ev_dTupRg1 (d : Den) (E : List D) : dTupRg1 d E = (d E).bind fun r => match cont r.2 r.1 with
  | some (.sc (.int j)) => if 0 ≤ j ∧ j ≤ 100000 then .ok (.val (.nd .tup (rngD 0 j.toNat)), r.2) else .bad
  | _ => .bad := id rfl
end DL
end
section
set_option maxRecDepth 100000
namespace DL
open PySem PySem.Spec PyProof PyProof.Rows L2
abbrev CMulS (x : Str) (i : Int) : Prop := x.length ≤ 16 ∧ -1000000 ≤ i ∧ i ≤ 1000000
def rMulS : R2 := fun x y H Q => ∃ a i, x = .str a ∧ y = .int i ∧ CMulS a i ∧ Q (.str (Txt.mul a i)) H
theorem op_mulS {X : Cx} : OpR X (binaryOp .Mult) rMulS := by
  intro pins s σ H x y v u Q I rx ry h
  obtain ⟨a, i, rfl, rfl, hz, q⟩ := h
  obtain ⟨t, rfl⟩ := rx
  obtain ⟨t', rfl⟩ := ry
  obtain ⟨h1, h2, h3⟩ := hz
  exact SB.mul (mulOk_of 16 1000000 h1 (by omega) (by omega) (by decide) (by decide)) fun t' tk => ⟨.str (Txt.mul a i), H, I.tok _, ⟨_, rfl⟩, q⟩
def fMulS : List D → Option D
  | [.sc (.str x), .sc (.int i)] => if CMulS x i then some (.sc (.str (Txt.mul x i))) else none
  | _ => none
theorem os_mulS {G : Gm} : OpS G (r2l rMulS) fMulS := by
  intro I H ds ws d sm x e Q k
  unfold fMulS at e
  split at e
  · rename_i a i
    split at e
    · rename_i h
      cases e
      obtain ⟨v, w, _, _, rfl, ⟨rfl, _⟩, ⟨rfl, _⟩⟩ := x.two
      exact ⟨a, i, rfl, rfl, h, fin_sc sm k⟩
    · cases e
  · cases e
theorem ev_fMulS (x : Str) (i : Int) : fMulS [.sc (.str x), .sc (.int i)] = if CMulS x i then some (.sc (.str (Txt.mul x i))) else none := id rfl
section
variable {X : Cx} {G : Gm} {W : WX} {p1 p2 : Bool} {a b : Expr} {d1 d2 : Den} {pos : Pos}
theorem jmulS (ha : JE X G W p1 a d1) (hb : JE X G W p2 b d2) : JE X G W (p1 && (p2 && true)) (.BinOp a .Mult b pos) (dOp fMulS (aCons (p2 && true) d1 (aCons true d2 aNil))) := jop2 op_mulS os_mulS ha hb
end
end DL
end
section
set_option maxRecDepth 100000
namespace DL
open PySem PySem.Spec PyProof.Rows L2 RT
end DL
end
section
set_option maxRecDepth 100000
namespace DL
open PySem PySem.Spec PyProof.Rows L2 RT
end DL
end
section
set_option maxRecDepth 100000
namespace DL
open PySem PySem.Spec PyProof.Rows L2
def dTryN (d : DenS) : DenS := fun E => match d E with
  | .exc _ _ _ => .bad
  | r => r
theorem t_tryN {G : Gm} {W : WX} {A : List Nat} {d : DenS} : ∀ D σ H, tS G W A (dTryN d) D σ H → tS G W0 A d D σ H := by
  rintro D σ H ⟨I, E, vs, f, s, hh⟩
  refine ⟨I, E, vs, f, s, ?_⟩
  unfold dTryN at hh
  cases e : d E with
  | exc c fs E' => rw [e] at hh; exact hh.elim
  | nx E' => rw [e] at hh; exact hh
  | bk E' => rw [e] at hh; exact hh
  | ct E' => rw [e] at hh; exact hh
  | rt v E' => rw [e] at hh; exact hh
  | bad => rw [e] at hh; exact hh.elim
theorem jtryN {X : Cx} {G : Gm} {W : WX} {A : List Nat} {body : List Stmt} {h₀ : ExceptHandler} {hs : List ExceptHandler} {d : DenS} {pos : Pos} (hb : JB X.nox G W0 A body d) : JS X G W A (.Try body (h₀ :: hs) [] [] pos) (dTryN d) :=
  PS_imp (ps_try_thru0 hb) t_tryN
theorem ev_dTryN (d : DenS) (E : List D) : dTryN d E = match d E with
  | .exc _ _ _ => .bad
  | r => r := id rfl
end DL
end
section
namespace DL
open PySem PySem.Spec PyProof.Rows L2
end DL
end
section
set_option maxRecDepth 100000
set_option maxHeartbeats 1000000
namespace DL
open PySem PySem.Spec PyProof PyProof.Rows L2
end DL
end
section
set_option maxRecDepth 100000
namespace DL
open PySem PySem.Spec PyProof PyProof.Rows L2
/-- a value that shows as d -/
structure Sh (P : Program) (w : World) (h : Heap) (u : Value) (d : PyData) : Prop where
  rd : ∃ as, Reads h u d as
  rp : ∃ bs, ReadAtMost h d.depth bs ∧ ReprK P w bs h d.depth u d.shown
structure Shs (P : Program) (w : World) (h : Heap) (us : List Value) (ds : List PyData) : Prop where
  rd : ∃ as, ReadsAll h us ds as
  rp : ∃ bs, ReadAtMost h (PyData.depthAll ds) bs ∧ ReprAllK P w bs h (PyData.depthAll ds) us (PyData.shownAll ds)
section
variable {P : Program} {w : World} {h : Heap}
theorem Shs.nil : Shs P w h [] [] := ⟨⟨_, .nil⟩, ⟨[], (fun _ z => nomatch z), .nil⟩⟩
theorem Shs.cons {u : Value} {us : List Value} {d : PyData} {ds : List PyData} (x : Sh P w h u d) (y : Shs P w h us ds) : Shs P w h (u :: us) (d :: ds) := by
  obtain ⟨as, r1⟩ := x.rd
  obtain ⟨bs, r2⟩ := y.rd
  obtain ⟨cs, m1, p1⟩ := x.rp
  obtain ⟨es, m2, p2⟩ := y.rp
  have l1 : d.depth ≤ PyData.depthAll (d :: ds) := Nat.le_max_left _ _
  have l2 : PyData.depthAll ds ≤ PyData.depthAll (d :: ds) := Nat.le_max_right _ _
  refine ⟨⟨_, .cons r1 r2⟩, ⟨cs ++ es, (m1.mono l1).append (m2.mono l2), ?_⟩⟩
  have q1 := (p1.more (as' := cs ++ es) fun b z => List.mem_append_left _ z).level_le l1
  have q2 := p2.more_le (as' := cs ++ es) (fun b z => List.mem_append_right _ z) l2
  exact ReprAllK.cons q1 q2
end
end DL
end
section
set_option maxRecDepth 100000
namespace PySem.SeqAt
open AutoSeq1 (wpAny_loadPart')
open MeetsSeq
end PySem.SeqAt
namespace DL
open PySem PySem.Spec PyProof PyProof.Rows L2
/-- == where the first may be a dict and the second is a tuple -/
def fEqX : List D → Option D
  | [.nd (.dik _ _) _, .nd .tup _] => some (.sc (.bl false))
  | ds => fEq ds
@[simp] theorem ev_fEqX_d (m : Bool) (ks : List Key) (as bs : List D) : fEqX [.nd (.dik m ks) as, .nd .tup bs] = some (.sc (.bl false)) := id rfl
end DL
end
section
set_option maxRecDepth 100000
namespace DL
open PySem PySem.Spec PyProof PyProof.Rows L2
def fNil (neg : Bool) : List D → Option D
  | [.nd (.lst _) ds, .nd (.lst _) []] => some (.sc (.bl (neg != ds.isEmpty)))
  | _ => none
@[simp] theorem ev_fNil (neg m m' : Bool) (ds : List D) : fNil neg [.nd (.lst m) ds, .nd (.lst m') []] = some (.sc (.bl (neg != ds.isEmpty))) := id rfl
end DL
end
section
set_option maxRecDepth 100000
namespace K90
open PySem PySem.Spec PyProof.Rows L2 DL
def topS (i : Nat) : Stmt := PySem.Challenge.pw_pourwright_k90_desks_at_their_bounds.main.body.getD i (.Pass ⟨0, 0, 0, 0⟩)
abbrev s_72 : Stmt := topS 85
abbrev N_72 : List Str := ["script", "k", "here", "number", "j", "part"]
theorem sc_72 : FnScope N_72 ["script", "k"] (defScope s_72) := ⟨rfl, rfl, rfl, by decide +kernel, rfl, by decide +kernel, by decide +kernel⟩
abbrev s_63 : Stmt := inClass (topS 83) 0
abbrev N_63 : List Str := ["self"]
theorem sc_63 : FnScope N_63 ["self"] (defScope s_63) := ⟨rfl, rfl, rfl, by decide +kernel, rfl, by decide +kernel, by decide +kernel⟩
abbrev s_73 : Stmt := topS 86
abbrev N_73 : List Str := ["box", "many", "left", "digit"]
theorem sc_73 : FnScope N_73 ["box", "many"] (defScope s_73) := ⟨rfl, rfl, rfl, by decide +kernel, rfl, by decide +kernel, by decide +kernel⟩
abbrev s_54 : Stmt := topS 69
abbrev N_54 : List Str := ["text", "below", "figures", "sign"]
theorem sc_54 : FnScope N_54 ["text"] (defScope s_54) := ⟨rfl, rfl, rfl, by decide +kernel, rfl, by decide +kernel, by decide +kernel⟩
abbrev s_10 : Stmt := topS 26
abbrev N_10 : List Str := ["thing", "sign"]
theorem sc_10 : FnScope N_10 ["thing"] (defScope s_10) := ⟨rfl, rfl, rfl, by decide +kernel, rfl, by decide +kernel, by decide +kernel⟩
abbrev s_55 : Stmt := topS 70
abbrev N_55 : List Str := ["word", "front", "mark", "tag", "key"]
theorem sc_55 : FnScope N_55 ["word"] (defScope s_55) := ⟨rfl, rfl, rfl, by decide +kernel, rfl, by decide +kernel, by decide +kernel⟩
abbrev s_56 : Stmt := topS 71
abbrev N_56 : List Str := ["text", "found", "at", "word", "item"]
theorem sc_56 : FnScope N_56 ["text"] (defScope s_56) := ⟨rfl, rfl, rfl, by decide +kernel, rfl, by decide +kernel, by decide +kernel⟩
abbrev s_64 : Stmt := inClass (topS 83) 1
abbrev N_64 : List Str := ["self", "text", "more"]
theorem sc_64 : FnScope N_64 ["self", "text"] (defScope s_64) := ⟨rfl, rfl, rfl, by decide +kernel, rfl, by decide +kernel, by decide +kernel⟩
abbrev s_52 : Stmt := topS 67
abbrev N_52 : List Str := ["item"]
theorem sc_52 : FnScope N_52 ["item"] (defScope s_52) := ⟨rfl, rfl, rfl, by decide +kernel, rfl, by decide +kernel, by decide +kernel⟩
abbrev s_53 : Stmt := topS 68
abbrev N_53 : List Str := ["row", "item"]
theorem sc_53 : FnScope N_53 ["row"] (defScope s_53) := ⟨rfl, rfl, rfl, by decide +kernel, rfl, by decide +kernel, by decide +kernel⟩
abbrev s_13 : Stmt := topS 29
abbrev N_13 : List Str := ["row"]
theorem sc_13 : FnScope N_13 ["row"] (defScope s_13) := ⟨rfl, rfl, rfl, by decide +kernel, rfl, by decide +kernel, by decide +kernel⟩
abbrev s_11 : Stmt := topS 27
abbrev N_11 : List Str := ["one", "other"]
theorem sc_11 : FnScope N_11 ["one", "other"] (defScope s_11) := ⟨rfl, rfl, rfl, by decide +kernel, rfl, by decide +kernel, by decide +kernel⟩
abbrev s_14 : Stmt := topS 30
abbrev N_14 : List Str := ["row", "at", "place"]
theorem sc_14 : FnScope N_14 ["row", "at"] (defScope s_14) := ⟨rfl, rfl, rfl, by decide +kernel, rfl, by decide +kernel, by decide +kernel⟩
abbrev s_15 : Stmt := topS 31
abbrev N_15 : List Str := ["row", "found", "at"]
theorem sc_15 : FnScope N_15 ["row"] (defScope s_15) := ⟨rfl, rfl, rfl, by decide +kernel, rfl, by decide +kernel, by decide +kernel⟩
abbrev s_36 : Stmt := topS 52
abbrev N_36 : List Str := ["row", "found", "at", "item"]
theorem sc_36 : FnScope N_36 ["row"] (defScope s_36) := ⟨rfl, rfl, rfl, by decide +kernel, rfl, by decide +kernel, by decide +kernel⟩
abbrev s_62 : Stmt := topS 82
abbrev N_62 : List Str := ["numbers", "number"]
theorem sc_62 : FnScope N_62 ["numbers"] (defScope s_62) := ⟨rfl, rfl, rfl, by decide +kernel, rfl, by decide +kernel, by decide +kernel⟩
abbrev s_12 : Stmt := topS 28
abbrev N_12 : List Str := ["row", "at"]
theorem sc_12 : FnScope N_12 ["row"] (defScope s_12) := ⟨rfl, rfl, rfl, by decide +kernel, rfl, by decide +kernel, by decide +kernel⟩
abbrev s_37 : Stmt := topS 54
abbrev N_37 : List Str := ["runs", "at", "run"]
theorem sc_37 : FnScope N_37 ["runs"] (defScope s_37) := ⟨rfl, rfl, rfl, by decide +kernel, rfl, by decide +kernel, by decide +kernel⟩
abbrev s_38 : Stmt := topS 55
abbrev N_38 : List Str := ["runs", "gone", "found", "number", "run"]
theorem sc_38 : FnScope N_38 ["runs", "gone"] (defScope s_38) := ⟨rfl, rfl, rfl, by decide +kernel, rfl, by decide +kernel, by decide +kernel⟩
abbrev s_39 : Stmt := topS 56
abbrev N_39 : List Str := ["runs", "gone", "row", "trace", "number"]
theorem sc_39 : FnScope N_39 ["runs"] (defScope s_39) := ⟨rfl, rfl, rfl, by decide +kernel, rfl, by decide +kernel, by decide +kernel⟩
abbrev s_67 : Stmt := inClass (topS 83) 4
abbrev N_67 : List Str := ["self", "runs"]
theorem sc_67 : FnScope N_67 ["self"] (defScope s_67) := ⟨rfl, rfl, rfl, by decide +kernel, rfl, by decide +kernel, by decide +kernel⟩
abbrev s_70 : Stmt := inClass (topS 83) 7
abbrev N_70 : List Str := ["self", "word"]
theorem sc_70 : FnScope N_70 ["self", "word"] (defScope s_70) := ⟨rfl, rfl, rfl, by decide +kernel, rfl, by decide +kernel, by decide +kernel⟩
abbrev s_71 : Stmt := inClass (topS 83) 8
abbrev N_71 : List Str := ["self", "line", "words"]
theorem sc_71 : FnScope N_71 ["self", "line"] (defScope s_71) := ⟨rfl, rfl, rfl, by decide +kernel, rfl, by decide +kernel, by decide +kernel⟩
abbrev s_74 : Stmt := topS 87
abbrev N_74 : List Str := ["e", "found"]
theorem sc_74 : FnScope N_74 ["e"] (defScope s_74) := ⟨rfl, rfl, rfl, by decide +kernel, rfl, by decide +kernel, by decide +kernel⟩
abbrev s_75 : Stmt := topS 88
abbrev N_75 : List Str := ["e", "place", "k"]
theorem sc_75 : FnScope N_75 ["e", "place"] (defScope s_75) := ⟨rfl, rfl, rfl, by decide +kernel, rfl, by decide +kernel, by decide +kernel⟩
abbrev s_77 : Stmt := topS 90
abbrev N_77 : List Str := ["desk", "line", "e", "place"]
theorem sc_77 : FnScope N_77 ["desk", "line"] (defScope s_77) := ⟨rfl, rfl, rfl, by decide +kernel, rfl, by decide +kernel, by decide +kernel⟩
abbrev s_78 : Stmt := topS 91
abbrev N_78 : List Str := ["script", "box", "desk", "many", "line", "more", "due", "falling", "number", "place"]
theorem sc_78 : FnScope N_78 ["script"] (defScope s_78) := ⟨rfl, rfl, rfl, by decide +kernel, rfl, by decide +kernel, by decide +kernel⟩
abbrev c_Desk : Nat := 16
@[simp] theorem q_Desk_0_1 : (("room" : Str) == "row") = false := by decide
@[simp] theorem q_Desk_0_2 : (("width" : Str) == "row") = false := by decide
@[simp] theorem q_Desk_0_3 : (("drives" : Str) == "row") = false := by decide
@[simp] theorem q_Desk_0_4 : (("__init__" : Str) == "row") = false := by decide
@[simp] theorem q_Desk_0_5 : (("put_items" : Str) == "row") = false := by decide
@[simp] theorem q_Desk_0_6 : (("trace_told" : Str) == "row") = false := by decide
@[simp] theorem q_Desk_0_7 : (("asked" : Str) == "row") = false := by decide
@[simp] theorem q_Desk_0_8 : (("say" : Str) == "row") = false := by decide
@[simp] theorem q_Desk_1_0 : (("row" : Str) == "room") = false := by decide
@[simp] theorem q_Desk_1_2 : (("width" : Str) == "room") = false := by decide
@[simp] theorem q_Desk_1_3 : (("drives" : Str) == "room") = false := by decide
@[simp] theorem q_Desk_1_4 : (("__init__" : Str) == "room") = false := by decide
@[simp] theorem q_Desk_1_5 : (("put_items" : Str) == "room") = false := by decide
@[simp] theorem q_Desk_1_6 : (("trace_told" : Str) == "room") = false := by decide
@[simp] theorem q_Desk_1_7 : (("asked" : Str) == "room") = false := by decide
@[simp] theorem q_Desk_1_8 : (("say" : Str) == "room") = false := by decide
@[simp] theorem q_Desk_2_0 : (("row" : Str) == "width") = false := by decide
@[simp] theorem q_Desk_2_1 : (("room" : Str) == "width") = false := by decide
@[simp] theorem q_Desk_2_3 : (("drives" : Str) == "width") = false := by decide
@[simp] theorem q_Desk_2_4 : (("__init__" : Str) == "width") = false := by decide
@[simp] theorem q_Desk_2_5 : (("put_items" : Str) == "width") = false := by decide
@[simp] theorem q_Desk_2_6 : (("trace_told" : Str) == "width") = false := by decide
@[simp] theorem q_Desk_2_7 : (("asked" : Str) == "width") = false := by decide
@[simp] theorem q_Desk_2_8 : (("say" : Str) == "width") = false := by decide
@[simp] theorem q_Desk_3_0 : (("row" : Str) == "drives") = false := by decide
@[simp] theorem q_Desk_3_1 : (("room" : Str) == "drives") = false := by decide
@[simp] theorem q_Desk_3_2 : (("width" : Str) == "drives") = false := by decide
@[simp] theorem q_Desk_3_4 : (("__init__" : Str) == "drives") = false := by decide
@[simp] theorem q_Desk_3_5 : (("put_items" : Str) == "drives") = false := by decide
@[simp] theorem q_Desk_3_6 : (("trace_told" : Str) == "drives") = false := by decide
@[simp] theorem q_Desk_3_7 : (("asked" : Str) == "drives") = false := by decide
@[simp] theorem q_Desk_3_8 : (("say" : Str) == "drives") = false := by decide
abbrev c_TooMany : Nat := 9
noncomputable def lb_law_box_0 : DenS := (dSeq (dKill [4] (dAsg (dOp fMod (aCons (true && true) (dOp fAdd (aCons (true && true) (dOp fAdd (aCons ((true && (true && true)) && true) (dOp fMul (aCons (true && true) (dOp fMod (aCons (true && true) (rName 2) (aCons true (rC (.int 2147483647)) aNil))) (aCons true (rC (.int 48271)) aNil))) (aCons true (dOp fMul (aCons (true && true) (rC (.int 7919)) (aCons true (rName 4) aNil))) aNil))) (aCons true (rC (.int 1)) aNil))) (aCons true (rC (.int 2147483647)) aNil))) (dgName 5))) (dSeq (dAsg (dOp fMod (aCons (true && true) (dOp fMul (aCons (true && true) (rName 5) (aCons true (rName 5) aNil))) (aCons true (rC (.int 2147483629)) aNil))) (dgName 5)) (dKill [5] (dAsg (dOp fAdd (aCons (((true && ((true && (true && true)) && true)) && (true && true)) && true) (dOp fMul (aCons (true && true) (rName 3) (aCons true (rC (.int 2147483647)) aNil))) (aCons true (dOp fMod (aCons (true && true) (dOp fMul (aCons ((true && (true && true)) && true) (rName 5) (aCons true (dOp fAdd (aCons (true && true) (rName 5) (aCons true (rC (.int 13)) aNil))) aNil))) (aCons true (rC (.int 2147483647)) aNil))) aNil))) (dgName 3)))))
noncomputable def dn_law_box : DenS := (dSeq (dAsg (dOp fAdd (aCons (true && true) (dOp fMul (aCons (true && true) (rC (.int 7919)) (aCons true (rName 1) aNil))) (aCons true (rC (.int 13)) aNil))) (dgName 2)) (dSeq (dIfS (dTst (dOp fLt (aCons ((true && true) && true) (rName 1) (aCons true (dOp fLen (aCons true (rName 0) aNil)) aNil)))) (dAsg (dIx (true && true) (rName 0) (rName 1)) (dgName 2)) dNext) (dSeq (dIfS (dTst (dOp fEq (aCons (true && true) (dOp fMod (aCons (true && true) (rName 2) (aCons true (rC (.int 2)) aNil))) (aCons true (rC (.int 0)) aNil)))) (dRet (dLst (aCons true (dOp fDiv (aCons (true && true) (rName 2) (aCons true (rC (.int 2)) aNil))) aNil))) dNext) (dSeq (dAsg (rC (.int 0)) (dgName 3)) (dSeq (dKill [2] (dFor (dR1 (aCons true (rC (.int 16)) aNil)) (dgName 4) lb_law_box_0)) (dRet (dLst (aCons true (dMove 3) aNil))))))))
noncomputable def F_law_box : Fn := opq (fnP 2 6 ([2] ++ (([2] ++ []) ++ (([] ++ []) ++ ([3] ++ (([4] ++ ([5] ++ ([5] ++ [3]))) ++ []))))) dn_law_box)
noncomputable def dn_Desk___init__ : DenS := (dSeq (dSetF c_Desk "row" true (dLst aNil) (rName 0)) (dSeq (dSetF c_Desk "room" true (rC (.int 3)) (rName 0)) (dSeq (dSetF c_Desk "width" true (rC (.int 2)) (rName 0)) (dSetF c_Desk "drives" true (rC (.int 3)) (rName 0)))))
noncomputable def F_Desk___init__ : Fn := opq (fnP 1 1 ([] ++ ([] ++ ([] ++ []))) dn_Desk___init__)
noncomputable def dn_law_take : DenS := (dSeq (dAsg (dOp fDivmod (aCons (true && true) (dIx (true && true) (rName 0) (rC (.int 0))) (aCons true (rName 1) aNil))) (dgTup [2, 3])) (dSeq (dKill [2] (dSetI true true (dMove 2) (rName 0) (rC (.int 0)))) (dRet (dMove 3))))
noncomputable def F_law_take : Fn := opq (fnP 2 4 ([2, 3] ++ ([] ++ [])) dn_law_take)
noncomputable def lb_key_in_0 : DenS := (dKill [3] (dIfS (dTst (dOp (fIn true) (aCons (true && true) (rName 3) (aCons true (rC (.str "0123456789")) aNil)))) (dRet (rC .non)) dNext))
noncomputable def dn_key_in : DenS := (dSeq (dAsg (dOp fEq (aCons (true && true) (dSl (true && true) (rName 0) pNo (pAt (rC (.int 1)))) (aCons true (rC (.str "-")) aNil))) (dgName 1)) (dSeq (dAsg (dSl ((true && true) && true) (rName 0) (pAt (dOp fInt (aCons true (rName 1) aNil))) pNo) (dgName 2)) (dSeq (dIfS (dOr (dNot (dTst (dChain fLe fLe (true && true) true (rC (.int 1)) (dOp fLen (aCons true (rName 2) aNil)) (rC (.int 40))))) (dAnd (dTst (dOp fEq (aCons (true && true) (dIx (true && true) (rName 2) (rC (.int 0))) (aCons true (rC (.str "0")) aNil)))) (dOr (dTru (rName 1)) (dTst (dOp fGt (aCons (true && true) (dOp fLen (aCons true (rName 2) aNil)) (aCons true (rC (.int 1)) aNil))))))) (dRet (rC .non)) dNext) (dSeq (dForX 2 (dgName 3) lb_key_in_0) (dSeq (dKill [1] (dIfS (dTru (rName 1)) (dRet (dOp fSub (aCons ((true && true) && true) (rC (.int 0)) (aCons true (dOp fInt (aCons true (rName 2) aNil)) aNil)))) dNext)) (dRet (dOp fInt (aCons true (rName 2) aNil))))))))
noncomputable def F_key_in : Fn := opq (fnP 1 4 ([1] ++ ([2] ++ (([] ++ []) ++ (([3] ++ ([] ++ [])) ++ (([] ++ []) ++ []))))) dn_key_in)
noncomputable def ce_is_tag_0 : Den := (dOp (fIn false) (aCons (true && true) (rName 1) (aCons true (rC (.str "abcdefghijklmnopqrstuvwxyz")) aNil)))
noncomputable def dn_is_tag : DenS := (dSeq (dIfS (dOr (dNot (dTst (dOp fIsi (aCons (true && true) (rName 0) (aCons true (rC (.ty "str")) aNil))))) (dTst (dOp fGt (aCons (true && true) (dOp fLen (aCons true (rName 0) aNil)) (aCons true (rC (.int 8)) aNil))))) (dRet (rC (.bl false))) dNext) (dRet (dOp fAll (aCons true (dComp (iSeq (dFrz (rName 0))) (dgName 1) dYes ce_is_tag_0 [1]) aNil))))
noncomputable def F_is_tag : Fn := opq (fnP 1 2 (([] ++ []) ++ []) dn_is_tag)
noncomputable def dn_item_in : DenS := (dSeq (dAsg (dBm "str" fPart (true && true) (rName 0) (aCons true (rC (.str ":")) aNil)) (dgTup [1, 2, 3])) (dSeq (dKill [1] (dAsg (dCall F_key_in (aCons true (rName 1) aNil)) (dgName 4))) (dSeq (dKill [2] (dIfS (dOr (dTst (dOp fIsN (aCons (true && true) (rName 4) (aCons true (rC .non) aNil)))) (dOr (dNot (dTst (dCall F_is_tag (aCons true (rName 3) aNil)))) (dTst (dOp fNe (aCons ((true && (true && true)) && true) (dOp fEq (aCons (true && true) (rName 2) (aCons true (rC (.str ":")) aNil))) (aCons true (dOp fNe (aCons (true && true) (rName 3) (aCons true (rC (.str "")) aNil))) aNil)))))) (dRet (rC .non)) dNext)) (dRet (dTup (aCons (false && true) (dMove 4) (aCons true (dMove 3) aNil)))))))
noncomputable def F_item_in : Fn := opq (fnP 1 5 ([1, 2, 3] ++ ([4] ++ (([] ++ []) ++ []))) dn_item_in)
noncomputable def lb_read_row_0 : DenS := (dSeq (dKill [3] (dAsg (dCall F_item_in (aCons true (rName 3) aNil)) (dgName 4))) (dSeq (dKill [2] (dIfS (dOr (dTst (dOp fIsN (aCons (true && true) (rName 4) (aCons true (rC .non) aNil)))) (dTst (dOp fEq (aCons (true && true) (rName 2) (aCons true (rC (.int 200)) aNil))))) dNever dNext)) (dKill [4] (dDrop (dMut "list" mAppend (false && true) (rName 1) (aCons true (dMove 4) aNil))))))
noncomputable def dn_read_row : DenS := (dSeq (dIfS (dNot (dTst (dOp fIsi (aCons (true && true) (rName 0) (aCons true (rC (.ty "str")) aNil))))) dNever dNext) (dSeq (dAsg (dLst aNil) (dgName 1)) (dSeq (dIfS (dTst (dOp fEq (aCons (true && true) (rName 0) (aCons true (rC (.str "")) aNil)))) (dRet (dMove 1)) dNext) (dSeq (dFor (dEnum (aCons true (dBm "str" fSplit (true && true) (rName 0) (aCons true (rC (.str " ")) aNil)) aNil)) (dgTup [2, 3]) lb_read_row_0) (dRet (dMove 1))))))
noncomputable def F_read_row : Fn := opq (fnP 1 5 (([] ++ []) ++ ([1] ++ (([] ++ []) ++ (([2, 3] ++ ([4] ++ (([] ++ []) ++ []))) ++ [])))) dn_read_row)
noncomputable def dn_Desk_put_items : DenS := (dSeq (dTryN (dAsg (dCall F_read_row (aCons true (rName 1) aNil)) (dgName 2))) (dSeq (dIfS (dTst (dOp fEq (aCons (true && true) (rName 2) (aCons true (dLst aNil) aNil)))) dNever dNext) (dSeq (dIfS (dTst (dOp fGt (aCons (true && true) (dOp fAdd (aCons ((true && true) && true) (dOp fLen (aCons true (dFld c_Desk "row" (rName 0)) aNil)) (aCons true (dOp fLen (aCons true (rName 2) aNil)) aNil))) (aCons true (rC (.int 200)) aNil)))) (dRaise c_TooMany) dNext) (dSeq (dKill [2] (dSetF c_Desk "row" true (dOp fAdd (aCons (true && true) (dFld c_Desk "row" (rName 0)) (aCons true (rName 2) aNil))) (rName 0))) (dRet (dOp fStr (aCons true (dOp fLen (aCons true (dFld c_Desk "row" (rName 0)) aNil)) aNil)))))))
noncomputable def F_Desk_put_items : Fn := opq (fnP 2 3 ([2] ++ (([] ++ []) ++ (([] ++ []) ++ ([] ++ [])))) dn_Desk_put_items)
noncomputable def dn_item_text : DenS := (dSeq (dIfS (dTst (dOp fEq (aCons (true && true) (dIx (true && true) (rName 0) (rC (.int 1))) (aCons true (rC (.str "")) aNil)))) (dRet (dOp fStr (aCons true (dIx (true && true) (rName 0) (rC (.int 0))) aNil))) dNext) (dRet (dOp fAdd (aCons ((true && (true && true)) && true) (dOp fAdd (aCons (true && true) (dOp fStr (aCons true (dIx (true && true) (rName 0) (rC (.int 0))) aNil)) (aCons true (rC (.str ":")) aNil))) (aCons true (dIx (true && true) (rName 0) (rC (.int 1))) aNil)))))
noncomputable def F_item_text : Fn := opq (fnP 1 1 (([] ++ []) ++ []) dn_item_text)
noncomputable def ce_show_row_0 : Den := (dCall F_item_text (aCons true (rName 1) aNil))
noncomputable def dn_show_row : DenS := (dRet (dBm "str" fJoin (false && true) (rC (.str " ")) (aCons true (dComp (iSeq (dFrz (rName 0))) (dgName 1) dYes ce_show_row_0 [1]) aNil)))
noncomputable def F_show_row : Fn := opq (fnP 1 2 [] dn_show_row)
noncomputable def dn_sorted_row : DenS := (dRet (dOp fSorted (aCons true (rName 0) aNil)))
noncomputable def F_sorted_row : Fn := opq (fnP 1 1 [] dn_sorted_row)
noncomputable def dn_less : DenS := (dRet (dOrV (dOp fLt (aCons ((true && (true && true)) && true) (dIx (true && true) (rName 0) (rC (.int 0))) (aCons true (dIx (true && true) (rName 1) (rC (.int 0))) aNil))) (dAndV (dOp fEq (aCons ((true && (true && true)) && true) (dIx (true && true) (rName 0) (rC (.int 0))) (aCons true (dIx (true && true) (rName 1) (rC (.int 0))) aNil))) (dOp fLt (aCons ((true && (true && true)) && true) (dIx (true && true) (rName 0) (rC (.int 1))) (aCons true (dIx (true && true) (rName 1) (rC (.int 1))) aNil))))))
noncomputable def F_less : Fn := opq (fnP 2 2 [] dn_less)
noncomputable def ce_greater_ahead_0 : Den := (dCopy (rName 2))
noncomputable def ct_greater_ahead_1 : DenT := (dTst (dCall F_less (aCons ((true && (true && true)) && true) (dIx (true && true) (rName 0) (rName 1)) (aCons true (dIx (true && true) (rName 0) (rName 2)) aNil))))
noncomputable def dn_greater_ahead : DenS := (dRet (dComp (dR1 (aCons true (rName 1) aNil)) (dgName 2) ct_greater_ahead_1 ce_greater_ahead_0 [2]))
noncomputable def F_greater_ahead : Fn := opq (fnP 2 3 [] dn_greater_ahead)
noncomputable def lb_far_0 : DenS := (dKill [2] (dAsg (dOp fMax (aCons ((false && true) && true) (rName 1) (aCons true (dOp fLen (aCons true (dCall F_greater_ahead (aCons (true && true) (rName 0) (aCons true (rName 2) aNil))) aNil)) aNil))) (dgName 1)))
noncomputable def dn_far : DenS := (dSeq (dAsg (rC (.int 0)) (dgName 1)) (dSeq (dFor (dR1 (aCons true (dOp fLen (aCons true (rName 0) aNil)) aNil)) (dgName 2) lb_far_0) (dRet (dMove 1))))
noncomputable def F_far : Fn := opq (fnP 1 3 ([1] ++ (([2] ++ [1]) ++ [])) dn_far)
noncomputable def lb_natural_0 : DenS := (dSeq (dKill [2] (dIfS (dOr (dTst (dOp fEq (aCons (true && true) (rName 2) (aCons true (rC (.int 0)) aNil)))) (dTst (dCall F_less (aCons ((true && ((true && (true && true)) && true)) && true) (rName 3) (aCons true (dIx ((true && (true && true)) && true) (rName 0) (dOp fSub (aCons (true && true) (rName 2) (aCons true (rC (.int 1)) aNil)))) aNil))))) (dKill [2] (dDrop (dMut "list" mAppend (true && true) (rName 1) (aCons true (dLst aNil) aNil)))) dNext)) (dKill [3] (dDrop (dMut "list" mAppend (true && true) (dIx ((true && true) && true) (rName 1) (dOp fNeg (aCons true (rC (.int 1)) aNil))) (aCons true (dCopy (rName 3)) aNil)))))
noncomputable def dn_natural : DenS := (dSeq (dAsg (dLst aNil) (dgName 1)) (dSeq (dFor (dEnum (aCons true (dFrz (rName 0)) aNil)) (dgTup [2, 3]) lb_natural_0) (dRet (dMove 1))))
noncomputable def F_natural : Fn := opq (fnP 1 4 ([1] ++ (([2, 3] ++ (([] ++ []) ++ [])) ++ [])) dn_natural)
noncomputable def ce_numbers_text_0 : Den := (dOp fStr (aCons true (rName 1) aNil))
noncomputable def dn_numbers_text : DenS := (dRet (dBm "str" fJoin (false && true) (rC (.str " ")) (aCons true (dComp (iSeq (dFrz (rName 0))) (dgName 1) dYes ce_numbers_text_0 [1]) aNil)))
noncomputable def F_numbers_text : Fn := opq (fnP 1 2 [] dn_numbers_text)
noncomputable def lb_rises_0 : DenS := (dKill [1] (dIfS (dTst (dCall F_less (aCons ((true && ((true && (true && true)) && true)) && true) (dIx (true && true) (rName 0) (rName 1)) (aCons true (dIx ((true && (true && true)) && true) (rName 0) (dOp fSub (aCons (true && true) (rName 1) (aCons true (rC (.int 1)) aNil)))) aNil)))) (dRet (rC (.bl false))) dNext))
noncomputable def dn_rises : DenS := (dSeq (dFor (dR2 (aCons ((true && true) && true) (rC (.int 1)) (aCons true (dOp fLen (aCons true (rName 0) aNil)) aNil))) (dgName 1) lb_rises_0) (dRet (rC (.bl true))))
noncomputable def F_rises : Fn := opq (fnP 1 2 (([1] ++ ([] ++ [])) ++ []) dn_rises)
noncomputable def lb_need_rising_0 : DenS := (dKill [1, 2] (dIfS (dNot (dTst (dCall F_rises (aCons true (rName 2) aNil)))) dNever dNext))
noncomputable def dn_need_rising : DenS := (dFor (dEnum (aCons true (dFrz (rName 0)) aNil)) (dgTup [1, 2]) lb_need_rising_0)
noncomputable def F_need_rising : Fn := opq (fnP 1 3 ([1, 2] ++ ([] ++ [])) dn_need_rising)
noncomputable def lb_next_run_0 : DenS := (dKill [3, 4] (dIfS (dTst (dOp fLt (aCons ((true && true) && true) (dIx (true && true) (rName 1) (rName 3)) (aCons true (dOp fLen (aCons true (rName 4) aNil)) aNil)))) (dKill [3, 4] (dIfS (dOr (dTst (dOp fIsN (aCons (true && true) (rName 2) (aCons true (rC .non) aNil)))) (dTst (dCall F_less (aCons (((true && (true && true)) && ((true && (true && true)) && true)) && true) (dIx ((true && (true && true)) && true) (rName 4) (dIx (true && true) (rName 1) (rName 3))) (aCons true (dIx ((true && (true && true)) && true) (dIx (true && true) (rName 0) (rName 2)) (dIx (true && true) (rName 1) (rName 2))) aNil))))) (dKill [3, 4] (dAsg (dMove 3) (dgName 2))) dNext)) dNext))
noncomputable def dn_next_run : DenS := (dSeq (dAsg (rC .non) (dgName 2)) (dSeq (dFor (dEnum (aCons true (dFrz (rName 0)) aNil)) (dgTup [3, 4]) lb_next_run_0) (dRet (dMove 2))))
noncomputable def F_next_run : Fn := opq (fnP 2 5 ([2] ++ (([3, 4] ++ (([2] ++ []) ++ [])) ++ [])) dn_next_run)
noncomputable def wt_pour_0 : DenT := (dTst (dOp fNotN (aCons (true && true) (rName 4) (aCons true (rC .non) aNil))))
noncomputable def lb_pour_1 : DenS := (dSeq (dDrop (dMut "list" mAppend (((true && (true && true)) && ((true && (true && true)) && true)) && true) (rName 2) (aCons true (dIx ((true && (true && true)) && true) (dIx (true && true) (rName 0) (rName 4)) (dIx (true && true) (rName 1) (rName 4))) aNil))) (dSeq (dDrop (dMut "list" mAppend (false && true) (rName 3) (aCons true (dFrz (rName 4)) aNil))) (dSeq (dKill [4] (dSetI true true (dOp fAdd (aCons (true && true) (dIx (true && true) (rName 1) (rName 4)) (aCons true (rC (.int 1)) aNil))) (rName 1) (rName 4))) (dAsg (dCall F_next_run (aCons (true && true) (rName 0) (aCons true (rName 1) aNil))) (dgName 4)))))
noncomputable def dn_pour : DenS := (dSeq (dDrop (dCall F_need_rising (aCons true (rName 0) aNil))) (dSeq (dAsg (dOp fMul (aCons ((true && true) && true) (dLst (aCons true (rC (.int 0)) aNil)) (aCons true (dOp fLen (aCons true (rName 0) aNil)) aNil))) (dgName 1)) (dSeq (dAsg (dLst aNil) (dgName 2)) (dSeq (dAsg (dLst aNil) (dgName 3)) (dSeq (dAsg (dCall F_next_run (aCons (true && true) (rName 0) (aCons true (rName 1) aNil))) (dgName 4)) (dSeq (dKill [1, 4] (dWhile wt_pour_0 lb_pour_1)) (dRet (dTup (aCons (false && true) (dMove 2) (aCons true (dMove 3) aNil))))))))))
noncomputable def F_pour : Fn := opq (fnP 1 5 ([] ++ ([1] ++ ([2] ++ ([3] ++ ([4] ++ (([] ++ ([] ++ ([] ++ [4]))) ++ [])))))) dn_pour)
noncomputable def dn_Desk_trace_told : DenS := (dSeq (dAsg (dCall F_natural (aCons true (dFld c_Desk "row" (rName 0)) aNil)) (dgName 1)) (dSeq (dIfS (dTst (dOp fGt (aCons (true && true) (dOp fLen (aCons true (rName 1) aNil)) (aCons true (rC (.int 16)) aNil)))) (dRaise c_TooMany) dNext) (dRet (dCall F_numbers_text (aCons true (dIx (true && true) (dCold (dCall F_pour (aCons true (rName 1) aNil))) (rC (.int 1))) aNil)))))
noncomputable def F_Desk_trace_told : Fn := opq (fnP 1 2 ([1] ++ (([] ++ []) ++ [])) dn_Desk_trace_told)
noncomputable def dn_Desk_asked : DenS := (dSeq (dIfS (dTst (dOp fEq (aCons (true && true) (rName 1) (aCons true (rC (.str "row")) aNil)))) (dRet (dCall F_show_row (aCons true (dFld c_Desk "row" (rName 0)) aNil))) dNext) (dSeq (dIfS (dTst (dOp fEq (aCons (true && true) (rName 1) (aCons true (rC (.str "sorted")) aNil)))) (dRet (dCall F_show_row (aCons true (dCall F_sorted_row (aCons true (dFld c_Desk "row" (rName 0)) aNil)) aNil))) dNext) (dSeq (dIfS (dTst (dOp (fIn false) (aCons ((true && (true && (true && true))) && true) (rName 1) (aCons true (dTup (aCons (true && (true && true)) (rC (.str "loads")) (aCons (true && true) (rC (.str "natural")) (aCons true (rC (.str "chosen")) aNil)))) aNil)))) (dRet dNo) dNext) (dSeq (dIfS (dTst (dOp fEq (aCons (true && true) (rName 1) (aCons true (rC (.str "far")) aNil)))) (dRet (dOp fStr (aCons true (dCall F_far (aCons true (dFld c_Desk "row" (rName 0)) aNil)) aNil))) dNext) (dSeq (dIfS (dTst (dOp fEq (aCons (true && true) (rName 1) (aCons true (rC (.str "pour")) aNil)))) (dRet (dMeth c_Desk "trace_told" F_Desk_trace_told true (rName 0) aNil)) dNext) (dSeq (dIfS (dTst (dOp fEq (aCons (true && true) (rName 1) (aCons true (rC (.str "moved")) aNil)))) (dRet dNo) dNext) (dSeq (dIfS (dTst (dOp fEq (aCons (true && true) (rName 1) (aCons true (rC (.str "level")) aNil)))) (dRet dNo) dNext) (dSeq (dIfS (dTst (dOp fEq (aCons (true && true) (rName 1) (aCons true (rC (.str "sort")) aNil)))) (dRet dNo) dNext) (dSeq (dIfS (dTst (dOp fEq (aCons (true && true) (rName 1) (aCons true (rC (.str "deeds")) aNil)))) (dRet dNo) dNext) dNever)))))))))
noncomputable def F_Desk_asked : Fn := opq (fnP 2 2 (([] ++ []) ++ (([] ++ []) ++ (([] ++ []) ++ (([] ++ []) ++ (([] ++ []) ++ (([] ++ []) ++ (([] ++ []) ++ (([] ++ []) ++ (([] ++ []) ++ []))))))))) dn_Desk_asked)
noncomputable def dn_Desk_say : DenS := (dSeq (dIfS (dNot (dTst (dOp fIsi (aCons (true && true) (rName 1) (aCons true (rC (.ty "str")) aNil))))) dNever dNext) (dSeq (dAsg (dBm "str" fSplit (true && true) (rName 1) (aCons true (rC (.str " ")) aNil)) (dgName 2)) (dSeq (dIfS (dAnd (dTst (dOp fEq (aCons (true && true) (dIx (true && true) (rName 2) (rC (.int 0))) (aCons true (rC (.str "add")) aNil)))) (dTst (dOp fGt (aCons (true && true) (dOp fLen (aCons true (rName 2) aNil)) (aCons true (rC (.int 1)) aNil))))) (dRet (dMeth c_Desk "put_items" F_Desk_put_items ((true && (true && true)) && true) (rName 0) (aCons true (dSl (true && true) (rName 1) (pAt (rC (.int 4))) pNo) aNil))) dNext) (dSeq (dKill [2] (dIfS (dAnd (dTst (dOp fEq (aCons (true && true) (dOp fLen (aCons true (rName 2) aNil)) (aCons true (rC (.int 2)) aNil)))) (dTst (dOp (fIn false) (aCons ((true && (true && (true && true))) && true) (dIx (true && true) (rName 2) (rC (.int 0))) (aCons true (dTup (aCons (true && (true && true)) (rC (.str "room")) (aCons (true && true) (rC (.str "width")) (aCons true (rC (.str "drives")) aNil)))) aNil))))) (dRet dNo) dNext)) (dSeq (dIfS (dTst (dOp fEq (aCons (true && true) (rName 1) (aCons true (rC (.str "clear")) aNil)))) (dSeq (dSetF c_Desk "row" true (dLst aNil) (rName 0)) (dRet (rC (.str "0")))) dNext) (dRet (dMeth c_Desk "asked" F_Desk_asked (true && true) (rName 0) (aCons true (rName 1) aNil))))))))
noncomputable def F_Desk_say : Fn := opq (fnP 2 3 (([] ++ []) ++ ([2] ++ (([] ++ []) ++ (([] ++ []) ++ ((([] ++ []) ++ []) ++ []))))) dn_Desk_say)
noncomputable def dn_law_classes_xTooMany (a : Addr) : DenS := (dSeq (dAsg (dLst (aCons (true && (true && (true && true))) (dIsE a 0 false) (aCons (true && (true && true)) (dIsE a 0 false) (aCons (true && true) (dIsE a 0 false) (aCons true (dIsE a 0 false) aNil))))) (dgName 1)) (dSeq (dAsg (dOp fAdd (aCons ((true && (true && (true && (true && true)))) && true) (rName 1) (aCons true (dLst (aCons (true && (true && (true && true))) (dIsE a 0 false) (aCons (true && (true && true)) (dIsE a 0 false) (aCons (true && true) (dIsE a 0 false) (aCons true (dIsE a 0 false) aNil))))) aNil))) (dgName 1)) (dSeq (dAsg (dOp fAdd (aCons ((true && (true && (true && (true && true)))) && true) (rName 1) (aCons true (dLst (aCons (true && (true && (true && true))) (dIsE a 0 true) (aCons (true && (true && true)) (dIsE a 0 false) (aCons (true && true) (dIsE a 0 false) (aCons true (dIsE a 0 false) aNil))))) aNil))) (dgName 1)) (dRet (dOp fAdd (aCons ((true && true) && true) (rName 1) (aCons true (dLst (aCons true (dIsE a 0 false) aNil)) aNil)))))))
noncomputable def F_law_classes_xTooMany (a : Addr) : Fn := opq (fnP 1 2 ([1] ++ ([1] ++ ([1] ++ []))) (dn_law_classes_xTooMany a))
noncomputable def ce_law_only_xTooMany_0 (a : Addr) : Den := (dOp fEq (aCons (true && true) (rName 2) (aCons true (rName 1) aNil)))
noncomputable def dn_law_only_xTooMany (a : Addr) : DenS := (dSeq (dIfS (dOr (dNot (dTst (dIsE a 0 true))) (dNot (dTst (dIsE a 0 true)))) (dRet (rC (.bl false))) dNext) (dRet (dOp fEq (aCons (false && true) (dCall (F_law_classes_xTooMany a) (aCons true (rName 0) aNil)) (aCons true (dComp (dR1 (aCons true (rC (.int 13)) aNil)) (dgName 2) dYes (ce_law_only_xTooMany_0 a) [2]) aNil)))))
noncomputable def F_law_only_xTooMany (a : Addr) : Fn := opq (fnP 2 3 (([] ++ []) ++ []) (dn_law_only_xTooMany a))
noncomputable def ce_law_said_0 (a : Addr) : Den := (dCopy (rName 3))
noncomputable def ct_law_said_1 (a : Addr) : DenT := (dTst (dCall (F_law_only_xTooMany a) (aCons (true && true) (rName 2) (aCons true (rName 3) aNil))))
noncomputable def dn_law_said : DenS := (dTryE 2 c_TooMany (fun a => (dRet (dComp (dR1 (aCons true (rC (.int 13)) aNil)) (dgName 3) (ct_law_said_1 a) (ce_law_said_0 a) [3]))) (dRet (dMeth c_Desk "say" F_Desk_say (true && true) (rName 0) (aCons true (rName 1) aNil))))
noncomputable def F_law_said : Fn := opq (fnP 2 4 ([] ++ ([2] ++ [])) dn_law_said)
noncomputable def lb_law_0 : DenS := (dKill [8] (dDrop (dMeth c_Desk "say" F_Desk_say ((true && (((true && (true && true)) && true) && true)) && true) (rName 2) (aCons true (dOp fAdd (aCons (((true && (true && true)) && true) && true) (rC (.str "add ")) (aCons true (dOp fStr (aCons true (dOp fSub (aCons (true && true) (rName 7) (aCons true (rName 8) aNil))) aNil)) aNil))) aNil))))
noncomputable def ce_law_1 : Den := (dOp fStr (aCons true (dOp fSub (aCons (true && true) (dOp fSub (aCons (true && true) (rName 7) (aCons true (rC (.int 1)) aNil))) (aCons true (rName 9) aNil))) aNil))
noncomputable def dn_law : DenS := (dSeq (dAsg (dCall F_law_box (aCons (true && true) (rName 0) (aCons true (rC (.int 0)) aNil))) (dgName 1)) (dSeq (dAsg (dMake c_Desk F_Desk___init__ aNil) (dgName 2)) (dSeq (dAsg (dOp fAdd (aCons (false && true) (rC (.int 195)) (aCons true (dCall F_law_take (aCons (true && true) (rName 1) (aCons true (rC (.int 6)) aNil))) aNil))) (dgName 3)) (dSeq (dAsg (dOp fAdd (aCons ((true && (((true && true) && (true && true)) && true)) && true) (rC (.str "add ")) (aCons true (dBm "str" fJoin (((true && true) && (true && true)) && true) (rC (.str " ")) (aCons true (dOp fMul (aCons (true && true) (dLst (aCons true (rC (.str "7")) aNil)) (aCons true (rName 3) aNil))) aNil)) aNil))) (dgName 4)) (dSeq (dKill [4] (dIfS (dTst (dOp fNe (aCons ((true && true) && true) (dCall F_law_said (aCons (true && true) (rName 2) (aCons true (rName 4) aNil))) (aCons true (dOp fStr (aCons true (rName 3) aNil)) aNil)))) (dRet (rC (.bl false))) dNext)) (dSeq (dAsg (dOp fAdd (aCons (false && true) (rC (.int 1)) (aCons true (dCall F_law_take (aCons (true && true) (rName 1) (aCons true (rC (.int 8)) aNil))) aNil))) (dgName 5)) (dSeq (dAsg (dOp fStr (aCons true (dOp fAdd (aCons (true && true) (rName 3) (aCons true (rName 5) aNil))) aNil)) (dgName 6)) (dSeq (dIfS (dTst (dOp fGt (aCons (true && true) (dOp fAdd (aCons (true && true) (rName 3) (aCons true (rName 5) aNil))) (aCons true (rC (.int 200)) aNil)))) (dAsg (dLst (aCons true (rC (.int 8)) aNil)) (dgName 6)) (dAsg (dOp fAdd (aCons (true && true) (rName 3) (aCons true (rName 5) aNil))) (dgName 3))) (dSeq (dKill [5, 6] (dIfS (dTst (dOp fNe (aCons (true && true) (dCall F_law_said (aCons ((true && ((true && (true && true)) && true)) && true) (rName 2) (aCons true (dOp fAdd (aCons ((true && (true && true)) && true) (rC (.str "add")) (aCons true (dOp fMulS (aCons (true && true) (rC (.str " -3:a")) (aCons true (rName 5) aNil))) aNil))) aNil))) (aCons true (rName 6) aNil)))) (dRet (rC (.bl false))) dNext)) (dSeq (dKill [3] (dIfS (dTst (dOp fNe (aCons (true && true) (dOp fLen (aCons true (dBm "str" fSplit (true && true) (dCall F_law_said (aCons (true && true) (rName 2) (aCons true (rC (.str "row")) aNil))) (aCons true (rC (.str " ")) aNil)) aNil)) (aCons true (rName 3) aNil)))) (dRet (rC (.bl false))) dNext)) (dSeq (dIfS (dTst (dOp fNe (aCons (true && true) (dCall F_law_said (aCons (true && true) (rName 2) (aCons true (rC (.str "clear")) aNil))) (aCons true (rC (.str "0")) aNil)))) (dRet (rC (.bl false))) dNext) (dSeq (dKill [1] (dAsg (dOp fAdd (aCons (false && true) (rC (.int 14)) (aCons true (dCall F_law_take (aCons (true && true) (rName 1) (aCons true (rC (.int 5)) aNil))) aNil))) (dgName 7))) (dSeq (dFor (dR1 (aCons true (rName 7) aNil)) (dgName 8) lb_law_0) (dSeq (dAsg (dBm "str" fJoin (false && true) (rC (.str " ")) (aCons true (dComp (dR1 (aCons true (rName 7) aNil)) (dgName 9) dYes ce_law_1 [9]) aNil)) (dgName 6)) (dSeq (dIfS (dTst (dOp fGt (aCons (true && true) (rName 7) (aCons true (rC (.int 16)) aNil)))) (dAsg (dLst (aCons true (rC (.int 8)) aNil)) (dgName 6)) dNext) (dRet (dAndV (dOp fEq (aCons (true && true) (dCall F_law_said (aCons (true && true) (rName 2) (aCons true (rC (.str "pour")) aNil))) (aCons true (rName 6) aNil))) (dOp fEq (aCons (((true && (true && true)) && true) && true) (dCall F_law_said (aCons (true && true) (rName 2) (aCons true (rC (.str "far")) aNil))) (aCons true (dOp fStr (aCons true (dOp fSub (aCons (true && true) (rName 7) (aCons true (rC (.int 1)) aNil))) aNil)) aNil))))))))))))))))))))
noncomputable def F_law : Fn := opq (fnP 1 10 ([1] ++ ([2] ++ ([3] ++ ([4] ++ (([] ++ []) ++ ([5] ++ ([6] ++ (([6] ++ [3]) ++ (([] ++ []) ++ (([] ++ []) ++ (([] ++ []) ++ ([7] ++ (([8] ++ []) ++ ([6] ++ (([6] ++ []) ++ []))))))))))))))) dn_law)
structure Tx (K : PySem.W.Frag) (mg : Str → Option Value) (a : Nat → Addr) (d : Nat → FuncData) (cls : Nat → Addr) : Prop where
  F72 : Fun K "_law_box" "_law_box" s_72 (a 72) (d 72)
  B72 : Binds K (d 72) ["script", "k"] []
  M72 : mg "_law_box" = some (.ref (a 72))
  F63 : Fun K "__init__" "Desk.__init__" s_63 (a 63) (d 63)
  B63 : Binds K (d 63) ["self"] []
  F73 : Fun K "_law_take" "_law_take" s_73 (a 73) (d 73)
  B73 : Binds K (d 73) ["box", "many"] []
  M73 : mg "_law_take" = some (.ref (a 73))
  F54 : Fun K "key_in" "key_in" s_54 (a 54) (d 54)
  B54 : Binds K (d 54) ["text"] []
  M54 : mg "key_in" = some (.ref (a 54))
  F10 : Fun K "is_tag" "is_tag" s_10 (a 10) (d 10)
  B10 : Binds K (d 10) ["thing"] []
  M10 : mg "is_tag" = some (.ref (a 10))
  F55 : Fun K "item_in" "item_in" s_55 (a 55) (d 55)
  B55 : Binds K (d 55) ["word"] []
  M55 : mg "item_in" = some (.ref (a 55))
  F56 : Fun K "read_row" "read_row" s_56 (a 56) (d 56)
  B56 : Binds K (d 56) ["text"] []
  M56 : mg "read_row" = some (.ref (a 56))
  F64 : Fun K "put_items" "Desk.put_items" s_64 (a 64) (d 64)
  B64 : Binds K (d 64) ["self", "text"] []
  me64 : Meth K (cls 16) "put_items" (a 64)
  F52 : Fun K "item_text" "item_text" s_52 (a 52) (d 52)
  B52 : Binds K (d 52) ["item"] []
  M52 : mg "item_text" = some (.ref (a 52))
  F53 : Fun K "show_row" "show_row" s_53 (a 53) (d 53)
  B53 : Binds K (d 53) ["row"] []
  M53 : mg "show_row" = some (.ref (a 53))
  F13 : Fun K "sorted_row" "sorted_row" s_13 (a 13) (d 13)
  B13 : Binds K (d 13) ["row"] []
  M13 : mg "sorted_row" = some (.ref (a 13))
  F11 : Fun K "less" "less" s_11 (a 11) (d 11)
  B11 : Binds K (d 11) ["one", "other"] []
  M11 : mg "less" = some (.ref (a 11))
  F14 : Fun K "greater_ahead" "greater_ahead" s_14 (a 14) (d 14)
  B14 : Binds K (d 14) ["row", "at"] []
  M14 : mg "greater_ahead" = some (.ref (a 14))
  F15 : Fun K "far" "far" s_15 (a 15) (d 15)
  B15 : Binds K (d 15) ["row"] []
  M15 : mg "far" = some (.ref (a 15))
  F36 : Fun K "natural" "natural" s_36 (a 36) (d 36)
  B36 : Binds K (d 36) ["row"] []
  M36 : mg "natural" = some (.ref (a 36))
  F62 : Fun K "numbers_text" "numbers_text" s_62 (a 62) (d 62)
  B62 : Binds K (d 62) ["numbers"] []
  M62 : mg "numbers_text" = some (.ref (a 62))
  F12 : Fun K "rises" "rises" s_12 (a 12) (d 12)
  B12 : Binds K (d 12) ["row"] []
  M12 : mg "rises" = some (.ref (a 12))
  F37 : Fun K "need_rising" "need_rising" s_37 (a 37) (d 37)
  B37 : Binds K (d 37) ["runs"] []
  M37 : mg "need_rising" = some (.ref (a 37))
  F38 : Fun K "next_run" "next_run" s_38 (a 38) (d 38)
  B38 : Binds K (d 38) ["runs", "gone"] []
  M38 : mg "next_run" = some (.ref (a 38))
  F39 : Fun K "pour" "pour" s_39 (a 39) (d 39)
  B39 : Binds K (d 39) ["runs"] []
  M39 : mg "pour" = some (.ref (a 39))
  F67 : Fun K "trace_told" "Desk.trace_told" s_67 (a 67) (d 67)
  B67 : Binds K (d 67) ["self"] []
  me67 : Meth K (cls 16) "trace_told" (a 67)
  F70 : Fun K "asked" "Desk.asked" s_70 (a 70) (d 70)
  B70 : Binds K (d 70) ["self", "word"] []
  me70 : Meth K (cls 16) "asked" (a 70)
  F71 : Fun K "say" "Desk.say" s_71 (a 71) (d 71)
  B71 : Binds K (d 71) ["self", "line"] []
  me71 : Meth K (cls 16) "say" (a 71)
  F74 : Fun K "_law_classes" "_law_classes" s_74 (a 74) (d 74)
  B74 : Binds K (d 74) ["e"] []
  M74 : mg "_law_classes" = some (.ref (a 74))
  F75 : Fun K "_law_only" "_law_only" s_75 (a 75) (d 75)
  B75 : Binds K (d 75) ["e", "place"] []
  M75 : mg "_law_only" = some (.ref (a 75))
  F77 : Fun K "_law_said" "_law_said" s_77 (a 77) (d 77)
  B77 : Binds K (d 77) ["desk", "line"] []
  M77 : mg "_law_said" = some (.ref (a 77))
  F78 : Fun K "law" "law" s_78 (a 78) (d 78)
  B78 : Binds K (d 78) ["script"] []
  M78 : mg "law" = some (.ref (a 78))
  cl_Desk : Cls K (cls 16)
  mgC_Desk : mg "Desk" = some (.ref (cls 16))
  mk_Desk : Mk K (cls 16) (a 63)
  n_Desk_row : NoAttr K (cls 16) "row"
  n_Desk_room : NoAttr K (cls 16) "room"
  n_Desk_width : NoAttr K (cls 16) "width"
  n_Desk_drives : NoAttr K (cls 16) "drives"
  mgC_Bare : mg "Bare" = some (.ref (cls 13))
  mgC_NoDrive : mg "NoDrive" = some (.ref (cls 5))
  mgC_NoDrives : mg "NoDrives" = some (.ref (cls 3))
  mgC_NoLine : mg "NoLine" = some (.ref (cls 8))
  mgC_NoPhase : mg "NoPhase" = some (.ref (cls 6))
  mgC_NoPlace : mg "NoPlace" = some (.ref (cls 4))
  mgC_NoRoom : mg "NoRoom" = some (.ref (cls 1))
  mgC_NoRow : mg "NoRow" = some (.ref (cls 10))
  mgC_NoShelf : mg "NoShelf" = some (.ref (cls 7))
  mgC_NoTrace : mg "NoTrace" = some (.ref (cls 12))
  mgC_NoWidth : mg "NoWidth" = some (.ref (cls 2))
  mgC_NotRising : mg "NotRising" = some (.ref (cls 11))
  mgC_PourError : mg "PourError" = some (.ref (cls 0))
  mgC_TooMany : mg "TooMany" = some (.ref (cls 9))
  x_TooMany : ExK K (cls 9)
  xc_TooMany : ExcC K (cls 9)
  em_TooMany_PourError : PySem.W.exmOne K (.ref (cls 9)) (.ref (cls 0)) = some true
  ki_TooMany_Bare : PySem.W.kitOne K (.ref (cls 9)) (.ref (cls 13)) = some false
  ki_TooMany_NoDrive : PySem.W.kitOne K (.ref (cls 9)) (.ref (cls 5)) = some false
  ki_TooMany_NoDrives : PySem.W.kitOne K (.ref (cls 9)) (.ref (cls 3)) = some false
  ki_TooMany_NoLine : PySem.W.kitOne K (.ref (cls 9)) (.ref (cls 8)) = some false
  ki_TooMany_NoPhase : PySem.W.kitOne K (.ref (cls 9)) (.ref (cls 6)) = some false
  ki_TooMany_NoPlace : PySem.W.kitOne K (.ref (cls 9)) (.ref (cls 4)) = some false
  ki_TooMany_NoRoom : PySem.W.kitOne K (.ref (cls 9)) (.ref (cls 1)) = some false
  ki_TooMany_NoRow : PySem.W.kitOne K (.ref (cls 9)) (.ref (cls 10)) = some false
  ki_TooMany_NoShelf : PySem.W.kitOne K (.ref (cls 9)) (.ref (cls 7)) = some false
  ki_TooMany_NoTrace : PySem.W.kitOne K (.ref (cls 9)) (.ref (cls 12)) = some false
  ki_TooMany_NoWidth : PySem.W.kitOne K (.ref (cls 9)) (.ref (cls 2)) = some false
  ki_TooMany_NotRising : PySem.W.kitOne K (.ref (cls 9)) (.ref (cls 11)) = some false
  ki_TooMany_PourError : PySem.W.kitOne K (.ref (cls 9)) (.ref (cls 0)) = some true
  ki_TooMany_TooMany : PySem.W.kitOne K (.ref (cls 9)) (.ref (cls 9)) = some true
  kv_TooMany : PySem.W.kitOne K (.ref (cls 9)) (.type "ValueError") = some true
  al_pour_pours : mg "pour_pours" = some (.ref (a 39))
  c_FIGURES_texts : ∃ t, mg "FIGURES_texts" = some (.str "0123456789" t)
  c_LETTERS : ∃ t, mg "LETTERS" = some (.str "abcdefghijklmnopqrstuvwxyz" t)
  c_MOST_FIGURES : ∃ t, mg "MOST_FIGURES" = some (.int 40 t)
  c_MOST_ITEMS_desk : ∃ t, mg "MOST_ITEMS_desk" = some (.int 200 t)
  c_MOST_ITEMS_items : ∃ t, mg "MOST_ITEMS_items" = some (.int 200 t)
  c_MOST_LETTERS : ∃ t, mg "MOST_LETTERS" = some (.int 8 t)
  c_MOST_RUNS : ∃ t, mg "MOST_RUNS" = some (.int 16 t)
  z_ValueError : mg "ValueError" = none
  z_all : mg "all" = none
  z_divmod : mg "divmod" = none
  z_enumerate : mg "enumerate" = none
  z_int : mg "int" = none
  z_isinstance : mg "isinstance" = none
  z_len : mg "len" = none
  z_max : mg "max" = none
  z_range : mg "range" = none
  z_sorted : mg "sorted" = none
  z_str : mg "str" = none
section
variable {P : Program} {w : World} {K : PySem.W.Frag} {mg : Str → Option Value} {base : Heap} {cls : Nat → Addr} {a : Nat → Addr} {d : Nat → FuncData}
theorem ok_72 (T : Tx K mg a d cls) : FnOk P w K mg base (L2N.CX P w) 1 (a 72) (d 72) ["script", "k"] (spOf ⟨cls, K⟩ F_law_box) :=
  ok_def T.F72 sc_72 (by decide) fun cdv Ar outer s H E hr =>
    have tk : L2N.Takes (cxOf (L2N.CX P w) P w K mg base N_72 "_law_box" (defScope s_72) (a 72) cdv Ar outer s H E) (fun cls d _ H => E cls d H) := L2N.takes_of rfl rfl rfl rfl
    (jcons (jset 2 sc_72.nd (jadd (jmul jint (jv 1)) jint)) (jcons (jifs (jtlt (jv 1) (jB call_len os_len bt_len T.z_len (jac (jv 0) jan))) (jone' (jset 2 sc_72.nd (jix rfl (jv 0) (jv 1)))) jnil) (jcons (jifs (jteq hr.units (jmod (jv 2) jint) jint) (jone' (jret (jlst (jac (jdiv (jv 2) jint) jan)))) jnil) (jcons (jset 3 sc_72.nd jint) (jcons (jkill [2] (jfor (passes_of rfl) (jtgN 4 sc_72.nd) tg_name (jrg1 T.z_range (jac jint jan)) (jcons (jkill [4] (jset 5 sc_72.nd (jmod (jadd (jadd (jmul (jmod (jv 2) jint) jint) (jmul jint (jv 4))) jint) jint))) (jcons (jset 5 sc_72.nd (jmod (jmul (jv 5) (jv 5)) jint)) (jone' (jkill [5] (jset 3 sc_72.nd (jadd (jmul (jv 3) jint) (jmod (jmul (jv 5) (jadd (jv 5) jint)) jint))))))))) (jone' (jret (jlst (jac (jmv 3) jan)))))))))
theorem ok_63 (T : Tx K mg a d cls) : FnOk P w K mg base (L2N.CX P w) 1 (a 63) (d 63) ["self"] (spOf ⟨cls, K⟩ F_Desk___init__) :=
  ok_def T.F63 sc_63 (by decide) fun cdv Ar outer s H E hr =>
    have tk : L2N.Takes (cxOf (L2N.CX P w) P w K mg base N_63 "Desk.__init__" (defScope s_63) (a 63) cdv Ar outer s H E) (fun cls d _ H => E cls d H) := L2N.takes_of rfl rfl rfl rfl
    (jcons (jsetf T.cl_Desk T.n_Desk_row (jlst jan) (jv 0)) (jcons (jsetf T.cl_Desk T.n_Desk_room jint (jv 0)) (jcons (jsetf T.cl_Desk T.n_Desk_width jint (jv 0)) (jone' (jsetf T.cl_Desk T.n_Desk_drives jint (jv 0))))))
theorem ok_73 (T : Tx K mg a d cls) : FnOk P w K mg base (L2N.CX P w) 1 (a 73) (d 73) ["box", "many"] (spOf ⟨cls, K⟩ F_law_take) :=
  ok_def T.F73 sc_73 (by decide) fun cdv Ar outer s H E hr =>
    have tk : L2N.Takes (cxOf (L2N.CX P w) P w K mg base N_73 "_law_take" (defScope s_73) (a 73) cdv Ar outer s H E) (fun cls d _ H => E cls d H) := L2N.takes_of rfl rfl rfl rfl
    (jcons (jasg (pg_tup rfl (pgs_cons (jtgN 2 sc_73.nd) (pgs_cons (jtgN 3 sc_73.nd) pgs_nil))) (tg_tup (is := [2, 3]) rfl) (jB call_divmodW os_divmod bt_divmod T.z_divmod (jac (jix rfl (jv 0) jint) (jac (jv 1) jan)))) (jcons (jkill [2] (jseti (jmv 2) (jv 0) jint)) (jone' (jret (jmv 3)))))
theorem ok_54 (T : Tx K mg a d cls) : FnOk P w K mg base (L2N.CX P w) 1 (a 54) (d 54) ["text"] (spOf ⟨cls, K⟩ F_key_in) :=
  ok_def T.F54 sc_54 (by decide) fun cdv Ar outer s H E hr =>
    have tk : L2N.Takes (cxOf (L2N.CX P w) P w K mg base N_54 "key_in" (defScope s_54) (a 54) cdv Ar outer s H E) (fun cls d _ H => E cls d H) := L2N.takes_of rfl rfl rfl rfl
    (jcons (jset 1 sc_54.nd (jeq hr.units (jsl (jv 0) jpo0 (jpo1 jint)) jstr)) (jcons (jset 2 sc_54.nd (jsl (jv 0) (jpo1 (jTy call_intX os_int bt_int T.z_int (jac (jv 1) jan))) jpo0)) (jcons (jifs (jpt (jwor (jtnot (jtchain op_leX op_leX jint (jB call_len os_len bt_len T.z_len (jac (jv 2) jan)) (jgi T.c_MOST_FIGURES))) (jwor1 (jpt (jwand (jteq hr.units (jix rfl (jv 2) jint) jstr) (jwand1 (jpt (jwor (jtr (jv 1)) (jwor1 (jtgt (jB call_len os_len bt_len T.z_len (jac (jv 2) jan)) jint)))))))))) (jone' (jret jnon)) jnil) (jcons (jforX 2 (by decide) (passes_of rfl) (jtgN 3 sc_54.nd) tg_name (jone' (jkill [3] (jifs (jtnin (jv 3) (jgs T.c_FIGURES_texts)) (jone' (jret jnon)) jnil)))) (jcons (jkill [1] (jifs (jtr (jv 1)) (jone' (jret (jsub jint (jTy call_intX os_int bt_int T.z_int (jac (jv 2) jan))))) jnil)) (jone' (jret (jTy call_intX os_int bt_int T.z_int (jac (jv 2) jan)))))))))
theorem ok_10 (T : Tx K mg a d cls) : FnOk P w K mg base (L2N.CX P w) 1 (a 10) (d 10) ["thing"] (spOf ⟨cls, K⟩ F_is_tag) :=
  ok_def T.F10 sc_10 (by decide) fun cdv Ar outer s H E hr =>
    have tk : L2N.Takes (cxOf (L2N.CX P w) P w K mg base N_10 "is_tag" (defScope s_10) (a 10) cdv Ar outer s H E) (fun cls d _ H => E cls d H) := L2N.takes_of rfl rfl rfl rfl
    (jcons (jifs (jpt (jwor (jtnot (jtv (jB call_isi os_isi bt_isinstance T.z_isinstance (jac (jv 0) (jac (jty bt_str T.z_str) jan))))) (jwor1 (jtgt (jB call_len os_len bt_len T.z_len (jac (jv 0) jan)) (jgi T.c_MOST_LETTERS))))) (jone' (jret jbl)) jnil) (jone' (jret (jB (cr_all rfl) os_all bt_all T.z_all (jac (jlc (own := [("sign", 1)]) sc_10.nd (jbi (jseq (jfz (jv 0)))) (blkOk_by (N := N_10) (sc := defScope s_10) (by decide +kernel)) tg_name (by decide) (by decide) (fun h => by cases h) (fun _ _ _ _ _ => (jtgN 1 sc_10.nd)) (fun _ _ _ _ _ => jnoif) (fun _ _ _ _ _ => (jin (jv 1) (jgs T.c_LETTERS)))) jan)))))
theorem ok_55 (T : Tx K mg a d cls) : FnOk P w K mg base (L2N.CX P w) 2 (a 55) (d 55) ["word"] (spOf ⟨cls, K⟩ F_item_in) :=
  ok_def T.F55 sc_55 (by decide) fun cdv Ar outer s H E hr =>
    have tk : L2N.Takes (cxOf (L2N.CX P w) P w K mg base N_55 "item_in" (defScope s_55) (a 55) cdv Ar outer s H E) (fun cls d _ H => E cls d H) := L2N.takes_of rfl rfl rfl rfl
    (jcons (jasg (pg_tup rfl (pgs_cons (jtgN 1 sc_55.nd) (pgs_cons (jtgN 2 sc_55.nd) (pgs_cons (jtgN 3 sc_55.nd) pgs_nil)))) (tg_tup (is := [1, 2, 3]) rfl) (jbm PySem.F.plainAttrs_str PySem.F.slot_str_partition PySem.F.type_str_partition mt_partition os_part (jv 0) (jac jstr jan))) (jcons (jkill [1] (jset 4 sc_55.nd (jcall (L2N.passes_call tk (fun _ _ _ _ h => h)) (fun _ _ _ _ h => h) (ok_54 T) (hr.mono (by decide)) T.M54 T.F54.kp T.B54 (jac (jv 1) jan)))) (jcons (jkill [2] (jifs (jpt (jwor (jtisn (jv 4)) (jwor (jtnot (jtv (jcall (L2N.passes_call tk (fun _ _ _ _ h => h)) (fun _ _ _ _ h => h) (ok_10 T) (hr.mono (by decide)) T.M10 T.F10.kp T.B10 (jac (jv 3) jan)))) (jwor1 (jtne hr.units (jeq hr.units (jv 2) jstr) (jne hr.units (jv 3) jstr)))))) (jone' (jret jnon)) jnil)) (jone' (jret (jtup (jac (jmv 4) (jac (jmv 3) jan))))))))
theorem ok_56 (T : Tx K mg a d cls) : FnOk P w K mg base (L2N.CX P w) 3 (a 56) (d 56) ["text"] (spOf ⟨cls, K⟩ F_read_row) :=
  ok_def T.F56 sc_56 (by decide) fun cdv Ar outer s H E hr =>
    have tk : L2N.Takes (cxOf (L2N.CX P w) P w K mg base N_56 "read_row" (defScope s_56) (a 56) cdv Ar outer s H E) (fun cls d _ H => E cls d H) := L2N.takes_of rfl rfl rfl rfl
    (jcons (jifs (jtnot (jtv (jB call_isi os_isi bt_isinstance T.z_isinstance (jac (jv 0) (jac (jty bt_str T.z_str) jan))))) (jone' jnever) jnil) (jcons (jset 1 sc_56.nd (jlst jan)) (jcons (jifs (jteq hr.units (jv 0) jstr) (jone' (jret (jmv 1))) jnil) (jcons (jfor (passes_of rfl) (pg_tup rfl (pgs_cons (jtgN 2 sc_56.nd) (pgs_cons (jtgN 3 sc_56.nd) pgs_nil))) (tg_tup (is := [2, 3]) rfl) (jenum rfl T.z_enumerate (jac (jbm PySem.F.plainAttrs_str PySem.F.slot_str_split PySem.F.type_str_split mt_split os_split (jv 0) (jac jstr jan)) jan)) (jcons (jkill [3] (jset 4 sc_56.nd (jcall (L2N.passes_call tk (fun _ _ _ _ h => h)) (fun _ _ _ _ h => h) (ok_55 T) (hr.mono (by decide)) T.M55 T.F55.kp T.B55 (jac (jv 3) jan)))) (jcons (jkill [2] (jifs (jpt (jwor (jtisn (jv 4)) (jwor1 (jteq hr.units (jv 2) (jgi T.c_MOST_ITEMS_items))))) (jone' jnever) jnil)) (jone' (jkill [4] (jexp (jmt PySem.F.plainAttrs_list PySem.F.slot_list_append PySem.F.type_list_append mt_append ms_append (jv 1) (jac (jmv 4) jan)))))))) (jone' (jret (jmv 1)))))))
theorem ok_64 (T : Tx K mg a d cls) : FnOk P w K mg base (L2N.CX P w) 4 (a 64) (d 64) ["self", "text"] (spOf ⟨cls, K⟩ F_Desk_put_items) :=
  ok_def T.F64 sc_64 (by decide) fun cdv Ar outer s H E hr =>
    have tk : L2N.Takes (cxOf (L2N.CX P w) P w K mg base N_64 "Desk.put_items" (defScope s_64) (a 64) cdv Ar outer s H E) (fun cls d _ H => E cls d H) := L2N.takes_of rfl rfl rfl rfl
    (jcons (jtryN (jone' (jset 2 sc_64.nd (jcall passN (fun _ _ _ _ h => h.elim) (ok_56 T) (hr.mono (by decide)) T.M56 T.F56.kp T.B56 (jac (jv 1) jan))))) (jcons (jifs (jteq hr.units (jv 2) (jlst jan)) (jone' jnever) jnil) (jcons (jifs (jtgt (jadd (jB call_len os_len bt_len T.z_len (jac (jfld T.cl_Desk T.n_Desk_row (jv 0)) jan)) (jB call_len os_len bt_len T.z_len (jac (jv 2) jan))) (jgi T.c_MOST_ITEMS_desk)) (jone' (jraise rfl tk T.x_TooMany T.mgC_TooMany)) jnil) (jcons (jkill [2] (jsetf T.cl_Desk T.n_Desk_row (jadd (jfld T.cl_Desk T.n_Desk_row (jv 0)) (jv 2)) (jv 0))) (jone' (jret (jTy call_str_int os_str bt_str T.z_str (jac (jB call_len os_len bt_len T.z_len (jac (jfld T.cl_Desk T.n_Desk_row (jv 0)) jan)) jan))))))))
theorem ok_52 (T : Tx K mg a d cls) : FnOk P w K mg base (L2N.CX P w) 1 (a 52) (d 52) ["item"] (spOf ⟨cls, K⟩ F_item_text) :=
  ok_def T.F52 sc_52 (by decide) fun cdv Ar outer s H E hr =>
    have tk : L2N.Takes (cxOf (L2N.CX P w) P w K mg base N_52 "item_text" (defScope s_52) (a 52) cdv Ar outer s H E) (fun cls d _ H => E cls d H) := L2N.takes_of rfl rfl rfl rfl
    (jcons (jifs (jteq hr.units (jix rfl (jv 0) jint) jstr) (jone' (jret (jTy call_str_int os_str bt_str T.z_str (jac (jix rfl (jv 0) jint) jan)))) jnil) (jone' (jret (jadd (jadd (jTy call_str_int os_str bt_str T.z_str (jac (jix rfl (jv 0) jint) jan)) jstr) (jix rfl (jv 0) jint)))))
theorem ok_53 (T : Tx K mg a d cls) : FnOk P w K mg base (L2N.CX P w) 2 (a 53) (d 53) ["row"] (spOf ⟨cls, K⟩ F_show_row) :=
  ok_def T.F53 sc_53 (by decide) fun cdv Ar outer s H E hr =>
    have tk : L2N.Takes (cxOf (L2N.CX P w) P w K mg base N_53 "show_row" (defScope s_53) (a 53) cdv Ar outer s H E) (fun cls d _ H => E cls d H) := L2N.takes_of rfl rfl rfl rfl
    (jone' (jret (jbm PySem.F.plainAttrs_str PySem.F.slot_str_join PySem.F.type_str_join mt_join os_join jstr (jac (jlc (own := [("item", 1)]) sc_53.nd (jbi (jseq (jfz (jv 0)))) (blkOk_by (N := N_53) (sc := defScope s_53) (by decide +kernel)) tg_name (by decide) (by decide) (fun h => by cases h) (fun _ _ _ _ _ => (jtgN 1 sc_53.nd)) (fun _ _ _ _ _ => jnoif) (fun _ _ _ _ _ => (jcall passN (fun _ _ _ _ h => h.elim) (ok_52 T) (hr.mono (by decide)) T.M52 T.F52.kp T.B52 (jac (jv 1) jan)))) jan))))
theorem ok_13 (T : Tx K mg a d cls) : FnOk P w K mg base (L2N.CX P w) 1 (a 13) (d 13) ["row"] (spOf ⟨cls, K⟩ F_sorted_row) :=
  ok_def T.F13 sc_13 (by decide) fun cdv Ar outer s H E hr =>
    have tk : L2N.Takes (cxOf (L2N.CX P w) P w K mg base N_13 "sorted_row" (defScope s_13) (a 13) cdv Ar outer s H E) (fun cls d _ H => E cls d H) := L2N.takes_of rfl rfl rfl rfl
    (jone' (jret (jB (cr_sortedD hr.units) os_sorted bt_sorted T.z_sorted (jac (jv 0) jan))))
theorem ok_11 (T : Tx K mg a d cls) : FnOk P w K mg base (L2N.CX P w) 1 (a 11) (d 11) ["one", "other"] (spOf ⟨cls, K⟩ F_less) :=
  ok_def T.F11 sc_11 (by decide) fun cdv Ar outer s H E hr =>
    have tk : L2N.Takes (cxOf (L2N.CX P w) P w K mg base N_11 "less" (defScope s_11) (a 11) cdv Ar outer s H E) (fun cls d _ H => E cls d H) := L2N.takes_of rfl rfl rfl rfl
    (jone' (jret (jor (jlt (jix rfl (jv 0) jint) (jix rfl (jv 1) jint)) (jone (jand (jeq hr.units (jix rfl (jv 0) jint) (jix rfl (jv 1) jint)) (jone (jlt (jix rfl (jv 0) jint) (jix rfl (jv 1) jint))))))))
theorem ok_14 (T : Tx K mg a d cls) : FnOk P w K mg base (L2N.CX P w) 2 (a 14) (d 14) ["row", "at"] (spOf ⟨cls, K⟩ F_greater_ahead) :=
  ok_def T.F14 sc_14 (by decide) fun cdv Ar outer s H E hr =>
    have tk : L2N.Takes (cxOf (L2N.CX P w) P w K mg base N_14 "greater_ahead" (defScope s_14) (a 14) cdv Ar outer s H E) (fun cls d _ H => E cls d H) := L2N.takes_of rfl rfl rfl rfl
    (jone' (jret (jlc (own := [("place", 2)]) sc_14.nd (jbi (jrg1 T.z_range (jac (jv 1) jan))) (blkOk_by (N := N_14) (sc := defScope s_14) (by decide +kernel)) tg_name (by decide) (by decide) (fun h => by cases h) (fun _ _ _ _ _ => (jtgN 2 sc_14.nd)) (fun _ _ _ _ _ => (jif1 (jtv (jcall passN (fun _ _ _ _ h => h.elim) (ok_11 T) (hr.mono (by decide)) T.M11 T.F11.kp T.B11 (jac (jix rfl (jv 0) (jv 1)) (jac (jix rfl (jv 0) (jv 2)) jan)))))) (fun _ _ _ _ _ => (jcp (jv 2))))))
theorem ok_15 (T : Tx K mg a d cls) : FnOk P w K mg base (L2N.CX P w) 3 (a 15) (d 15) ["row"] (spOf ⟨cls, K⟩ F_far) :=
  ok_def T.F15 sc_15 (by decide) fun cdv Ar outer s H E hr =>
    have tk : L2N.Takes (cxOf (L2N.CX P w) P w K mg base N_15 "far" (defScope s_15) (a 15) cdv Ar outer s H E) (fun cls d _ H => E cls d H) := L2N.takes_of rfl rfl rfl rfl
    (jcons (jset 1 sc_15.nd jint) (jcons (jfor (passes_of rfl) (jtgN 2 sc_15.nd) tg_name (jrg1 T.z_range (jac (jB call_len os_len bt_len T.z_len (jac (jv 0) jan)) jan)) (jone' (jkill [2] (jset 1 sc_15.nd (jB (call_maxX rfl) os_max bt_max T.z_max (jac (jv 1) (jac (jB call_len os_len bt_len T.z_len (jac (jcall (L2N.passes_call tk (fun _ _ _ _ h => h)) (fun _ _ _ _ h => h) (ok_14 T) (hr.mono (by decide)) T.M14 T.F14.kp T.B14 (jac (jv 0) (jac (jv 2) jan))) jan)) jan))))))) (jone' (jret (jmv 1)))))
theorem ok_36 (T : Tx K mg a d cls) : FnOk P w K mg base (L2N.CX P w) 2 (a 36) (d 36) ["row"] (spOf ⟨cls, K⟩ F_natural) :=
  ok_def T.F36 sc_36 (by decide) fun cdv Ar outer s H E hr =>
    have tk : L2N.Takes (cxOf (L2N.CX P w) P w K mg base N_36 "natural" (defScope s_36) (a 36) cdv Ar outer s H E) (fun cls d _ H => E cls d H) := L2N.takes_of rfl rfl rfl rfl
    (jcons (jset 1 sc_36.nd (jlst jan)) (jcons (jfor (passes_of rfl) (pg_tup rfl (pgs_cons (jtgN 2 sc_36.nd) (pgs_cons (jtgN 3 sc_36.nd) pgs_nil))) (tg_tup (is := [2, 3]) rfl) (jenum rfl T.z_enumerate (jac (jfz (jv 0)) jan)) (jcons (jkill [2] (jifs (jpt (jwor (jteq hr.units (jv 2) jint) (jwor1 (jtv (jcall (L2N.passes_call tk (fun _ _ _ _ h => h)) (fun _ _ _ _ h => h) (ok_11 T) (hr.mono (by decide)) T.M11 T.F11.kp T.B11 (jac (jv 3) (jac (jix rfl (jv 0) (jsub (jv 2) jint)) jan))))))) (jone' (jkill [2] (jexp (jmt PySem.F.plainAttrs_list PySem.F.slot_list_append PySem.F.type_list_append mt_append ms_append (jv 1) (jac (jlst jan) jan))))) jnil)) (jone' (jkill [3] (jexp (jmt PySem.F.plainAttrs_list PySem.F.slot_list_append PySem.F.type_list_append mt_append ms_append (jix rfl (jv 1) (jneg jint)) (jac (jcp (jv 3)) jan))))))) (jone' (jret (jmv 1)))))
theorem ok_62 (T : Tx K mg a d cls) : FnOk P w K mg base (L2N.CX P w) 1 (a 62) (d 62) ["numbers"] (spOf ⟨cls, K⟩ F_numbers_text) :=
  ok_def T.F62 sc_62 (by decide) fun cdv Ar outer s H E hr =>
    have tk : L2N.Takes (cxOf (L2N.CX P w) P w K mg base N_62 "numbers_text" (defScope s_62) (a 62) cdv Ar outer s H E) (fun cls d _ H => E cls d H) := L2N.takes_of rfl rfl rfl rfl
    (jone' (jret (jbm PySem.F.plainAttrs_str PySem.F.slot_str_join PySem.F.type_str_join mt_join os_join jstr (jac (jlc (own := [("number", 1)]) sc_62.nd (jbi (jseq (jfz (jv 0)))) (blkOk_by (N := N_62) (sc := defScope s_62) (by decide +kernel)) tg_name (by decide) (by decide) (fun h => by cases h) (fun _ _ _ _ _ => (jtgN 1 sc_62.nd)) (fun _ _ _ _ _ => jnoif) (fun _ _ _ _ _ => (jTy call_str_int os_str bt_str T.z_str (jac (jv 1) jan)))) jan))))
theorem ok_12 (T : Tx K mg a d cls) : FnOk P w K mg base (L2N.CX P w) 2 (a 12) (d 12) ["row"] (spOf ⟨cls, K⟩ F_rises) :=
  ok_def T.F12 sc_12 (by decide) fun cdv Ar outer s H E hr =>
    have tk : L2N.Takes (cxOf (L2N.CX P w) P w K mg base N_12 "rises" (defScope s_12) (a 12) cdv Ar outer s H E) (fun cls d _ H => E cls d H) := L2N.takes_of rfl rfl rfl rfl
    (jcons (jfor (passes_of rfl) (jtgN 1 sc_12.nd) tg_name (jrg2 T.z_range (jac jint (jac (jB call_len os_len bt_len T.z_len (jac (jv 0) jan)) jan))) (jone' (jkill [1] (jifs (jtv (jcall (L2N.passes_call tk (fun _ _ _ _ h => h)) (fun _ _ _ _ h => h) (ok_11 T) (hr.mono (by decide)) T.M11 T.F11.kp T.B11 (jac (jix rfl (jv 0) (jv 1)) (jac (jix rfl (jv 0) (jsub (jv 1) jint)) jan)))) (jone' (jret jbl)) jnil)))) (jone' (jret jbl)))
theorem ok_37 (T : Tx K mg a d cls) : FnOk P w K mg base (L2N.CX P w) 3 (a 37) (d 37) ["runs"] (spOf ⟨cls, K⟩ F_need_rising) :=
  ok_def T.F37 sc_37 (by decide) fun cdv Ar outer s H E hr =>
    have tk : L2N.Takes (cxOf (L2N.CX P w) P w K mg base N_37 "need_rising" (defScope s_37) (a 37) cdv Ar outer s H E) (fun cls d _ H => E cls d H) := L2N.takes_of rfl rfl rfl rfl
    (jone' (jfor (passes_of rfl) (pg_tup rfl (pgs_cons (jtgN 1 sc_37.nd) (pgs_cons (jtgN 2 sc_37.nd) pgs_nil))) (tg_tup (is := [1, 2]) rfl) (jenum rfl T.z_enumerate (jac (jfz (jv 0)) jan)) (jone' (jkill [1, 2] (jifs (jtnot (jtv (jcall (L2N.passes_call tk (fun _ _ _ _ h => h)) (fun _ _ _ _ h => h) (ok_12 T) (hr.mono (by decide)) T.M12 T.F12.kp T.B12 (jac (jv 2) jan)))) (jone' jnever) jnil)))))
theorem ok_38 (T : Tx K mg a d cls) : FnOk P w K mg base (L2N.CX P w) 2 (a 38) (d 38) ["runs", "gone"] (spOf ⟨cls, K⟩ F_next_run) :=
  ok_def T.F38 sc_38 (by decide) fun cdv Ar outer s H E hr =>
    have tk : L2N.Takes (cxOf (L2N.CX P w) P w K mg base N_38 "next_run" (defScope s_38) (a 38) cdv Ar outer s H E) (fun cls d _ H => E cls d H) := L2N.takes_of rfl rfl rfl rfl
    (jcons (jset 2 sc_38.nd jnon) (jcons (jfor (passes_of rfl) (pg_tup rfl (pgs_cons (jtgN 3 sc_38.nd) (pgs_cons (jtgN 4 sc_38.nd) pgs_nil))) (tg_tup (is := [3, 4]) rfl) (jenum rfl T.z_enumerate (jac (jfz (jv 0)) jan)) (jone' (jkill [3, 4] (jifs (jtlt (jix rfl (jv 1) (jv 3)) (jB call_len os_len bt_len T.z_len (jac (jv 4) jan))) (jone' (jkill [3, 4] (jifs (jpt (jwor (jtisn (jv 2)) (jwor1 (jtv (jcall (L2N.passes_call tk (fun _ _ _ _ h => h)) (fun _ _ _ _ h => h) (ok_11 T) (hr.mono (by decide)) T.M11 T.F11.kp T.B11 (jac (jix rfl (jv 4) (jix rfl (jv 1) (jv 3))) (jac (jix rfl (jix rfl (jv 0) (jv 2)) (jix rfl (jv 1) (jv 2))) jan))))))) (jone' (jkill [3, 4] (jset 2 sc_38.nd (jmv 3)))) jnil))) jnil)))) (jone' (jret (jmv 2)))))
theorem ok_39 (T : Tx K mg a d cls) : FnOk P w K mg base (L2N.CX P w) 4 (a 39) (d 39) ["runs"] (spOf ⟨cls, K⟩ F_pour) :=
  ok_def T.F39 sc_39 (by decide) fun cdv Ar outer s H E hr =>
    have tk : L2N.Takes (cxOf (L2N.CX P w) P w K mg base N_39 "pour" (defScope s_39) (a 39) cdv Ar outer s H E) (fun cls d _ H => E cls d H) := L2N.takes_of rfl rfl rfl rfl
    (jcons (jexp (jcall (L2N.passes_call tk (fun _ _ _ _ h => h)) (fun _ _ _ _ h => h) (ok_37 T) (hr.mono (by decide)) T.M37 T.F37.kp T.B37 (jac (jv 0) jan))) (jcons (jset 1 sc_39.nd (jmul (jlst (jac jint jan)) (jB call_len os_len bt_len T.z_len (jac (jv 0) jan)))) (jcons (jset 2 sc_39.nd (jlst jan)) (jcons (jset 3 sc_39.nd (jlst jan)) (jcons (jset 4 sc_39.nd (jcall (L2N.passes_call tk (fun _ _ _ _ h => h)) (fun _ _ _ _ h => h) (ok_38 T) (hr.mono (by decide)) T.M38 T.F38.kp T.B38 (jac (jv 0) (jac (jv 1) jan)))) (jcons (jkill [1, 4] (jwhile (passes_of rfl) (jtnotn (jv 4)) (jcons (jexp (jmt PySem.F.plainAttrs_list PySem.F.slot_list_append PySem.F.type_list_append mt_append ms_append (jv 2) (jac (jix rfl (jix rfl (jv 0) (jv 4)) (jix rfl (jv 1) (jv 4))) jan))) (jcons (jexp (jmt PySem.F.plainAttrs_list PySem.F.slot_list_append PySem.F.type_list_append mt_append ms_append (jv 3) (jac (jfz (jv 4)) jan))) (jcons (jkill [4] (jseti (jadd (jix rfl (jv 1) (jv 4)) jint) (jv 1) (jv 4))) (jone' (jset 4 sc_39.nd (jcall (L2N.passes_call tk (fun _ _ _ _ h => h)) (fun _ _ _ _ h => h) (ok_38 T) (hr.mono (by decide)) T.M38 T.F38.kp T.B38 (jac (jv 0) (jac (jv 1) jan)))))))))) (jone' (jret (jtup (jac (jmv 2) (jac (jmv 3) jan)))))))))))
theorem ok_67 (T : Tx K mg a d cls) : FnOk P w K mg base (L2N.CX P w) 5 (a 67) (d 67) ["self"] (spOf ⟨cls, K⟩ F_Desk_trace_told) :=
  ok_def T.F67 sc_67 (by decide) fun cdv Ar outer s H E hr =>
    have tk : L2N.Takes (cxOf (L2N.CX P w) P w K mg base N_67 "Desk.trace_told" (defScope s_67) (a 67) cdv Ar outer s H E) (fun cls d _ H => E cls d H) := L2N.takes_of rfl rfl rfl rfl
    (jcons (jset 1 sc_67.nd (jcall (L2N.passes_call tk (fun _ _ _ _ h => h)) (fun _ _ _ _ h => h) (ok_36 T) (hr.mono (by decide)) T.M36 T.F36.kp T.B36 (jac (jfld T.cl_Desk T.n_Desk_row (jv 0)) jan))) (jcons (jifs (jtgt (jB call_len os_len bt_len T.z_len (jac (jv 1) jan)) (jgi T.c_MOST_RUNS)) (jone' (jraise rfl tk T.x_TooMany T.mgC_TooMany)) jnil) (jone' (jret (jcall (L2N.passes_call tk (fun _ _ _ _ h => h)) (fun _ _ _ _ h => h) (ok_62 T) (hr.mono (by decide)) T.M62 T.F62.kp T.B62 (jac (jix rfl (jco (jcall (L2N.passes_call tk (fun _ _ _ _ h => h)) (fun _ _ _ _ h => h) (ok_39 T) (hr.mono (by decide)) T.al_pour_pours T.F39.kp T.B39 (jac (jv 1) jan))) jint) jan))))))
theorem ok_70 (T : Tx K mg a d cls) : FnOk P w K mg base (L2N.CX P w) 6 (a 70) (d 70) ["self", "word"] (spOf ⟨cls, K⟩ F_Desk_asked) :=
  ok_def T.F70 sc_70 (by decide) fun cdv Ar outer s H E hr =>
    have tk : L2N.Takes (cxOf (L2N.CX P w) P w K mg base N_70 "Desk.asked" (defScope s_70) (a 70) cdv Ar outer s H E) (fun cls d _ H => E cls d H) := L2N.takes_of rfl rfl rfl rfl
    (jcons (jifs (jteq hr.units (jv 1) jstr) (jone' (jret (jcall (L2N.passes_call tk (fun _ _ _ _ h => h)) (fun _ _ _ _ h => h) (ok_53 T) (hr.mono (by decide)) T.M53 T.F53.kp T.B53 (jac (jfld T.cl_Desk T.n_Desk_row (jv 0)) jan)))) jnil) (jcons (jifs (jteq hr.units (jv 1) jstr) (jone' (jret (jcall (L2N.passes_call tk (fun _ _ _ _ h => h)) (fun _ _ _ _ h => h) (ok_53 T) (hr.mono (by decide)) T.M53 T.F53.kp T.B53 (jac (jcall (L2N.passes_call tk (fun _ _ _ _ h => h)) (fun _ _ _ _ h => h) (ok_13 T) (hr.mono (by decide)) T.M13 T.F13.kp T.B13 (jac (jfld T.cl_Desk T.n_Desk_row (jv 0)) jan)) jan)))) jnil) (jcons (jifs (jtin (jv 1) (jtup (jac jstr (jac jstr (jac jstr jan))))) (jone' (jret (jno (p := true)))) jnil) (jcons (jifs (jteq hr.units (jv 1) jstr) (jone' (jret (jTy call_str_int os_str bt_str T.z_str (jac (jcall (L2N.passes_call tk (fun _ _ _ _ h => h)) (fun _ _ _ _ h => h) (ok_15 T) (hr.mono (by decide)) T.M15 T.F15.kp T.B15 (jac (jfld T.cl_Desk T.n_Desk_row (jv 0)) jan)) jan)))) jnil) (jcons (jifs (jteq hr.units (jv 1) jstr) (jone' (jret (jmeth0 (L2N.passes_call tk (fun _ _ _ _ h => h)) (fun _ _ _ _ h => h) T.cl_Desk T.me67 (ok_67 T) (hr.mono (by decide)) T.B67 (jv 0)))) jnil) (jcons (jifs (jteq hr.units (jv 1) jstr) (jone' (jret (jno (p := true)))) jnil) (jcons (jifs (jteq hr.units (jv 1) jstr) (jone' (jret (jno (p := true)))) jnil) (jcons (jifs (jteq hr.units (jv 1) jstr) (jone' (jret (jno (p := true)))) jnil) (jcons (jifs (jteq hr.units (jv 1) jstr) (jone' (jret (jno (p := true)))) jnil) (jone' jnever))))))))))
theorem ok_71 (T : Tx K mg a d cls) : FnOk P w K mg base (L2N.CX P w) 7 (a 71) (d 71) ["self", "line"] (spOf ⟨cls, K⟩ F_Desk_say) :=
  ok_def T.F71 sc_71 (by decide) fun cdv Ar outer s H E hr =>
    have tk : L2N.Takes (cxOf (L2N.CX P w) P w K mg base N_71 "Desk.say" (defScope s_71) (a 71) cdv Ar outer s H E) (fun cls d _ H => E cls d H) := L2N.takes_of rfl rfl rfl rfl
    (jcons (jifs (jtnot (jtv (jB call_isi os_isi bt_isinstance T.z_isinstance (jac (jv 1) (jac (jty bt_str T.z_str) jan))))) (jone' jnever) jnil) (jcons (jset 2 sc_71.nd (jbm PySem.F.plainAttrs_str PySem.F.slot_str_split PySem.F.type_str_split mt_split os_split (jv 1) (jac jstr jan))) (jcons (jifs (jpt (jwand (jteq hr.units (jix rfl (jv 2) jint) jstr) (jwand1 (jtgt (jB call_len os_len bt_len T.z_len (jac (jv 2) jan)) jint)))) (jone' (jret (jmeth (L2N.passes_call tk (fun _ _ _ _ h => h)) (fun _ _ _ _ h => h) T.cl_Desk T.me64 (ok_64 T) (hr.mono (by decide)) T.B64 (jv 0) (jac (jsl (jv 1) (jpo1 jint) jpo0) jan)))) jnil) (jcons (jkill [2] (jifs (jpt (jwand (jteq hr.units (jB call_len os_len bt_len T.z_len (jac (jv 2) jan)) jint) (jwand1 (jtin (jix rfl (jv 2) jint) (jtup (jac jstr (jac jstr (jac jstr jan)))))))) (jone' (jret (jno (p := true)))) jnil)) (jcons (jifs (jteq hr.units (jv 1) jstr) (jcons (jsetf T.cl_Desk T.n_Desk_row (jlst jan) (jv 0)) (jone' (jret jstr))) jnil) (jone' (jret (jmeth (L2N.passes_call tk (fun _ _ _ _ h => h)) (fun _ _ _ _ h => h) T.cl_Desk T.me70 (ok_70 T) (hr.mono (by decide)) T.B70 (jv 0) (jac (jv 1) jan)))))))))
theorem okE_74_xTooMany (T : Tx K mg a d cls) : FnE P w K mg base 1 (a 74) (d 74) ["e"] (cls 9) (fun ad => spOf ⟨cls, K⟩ (F_law_classes_xTooMany ad)) :=
  ok_defE (A := ([1] ++ ([1] ++ ([1] ++ [])))) (b := dn_law_classes_xTooMany) T.F74 sc_74 (by decide) (fun _ => rfl) fun cdv Ar outer s H E q hot hC hr => by
  have tk : L2N.Takes (L2H.cxH (L2N.CX P w) P w K mg base N_74 "_law_classes" (defScope s_74) (a 74) cdv Ar outer s H E q) (fun cls d _ H => E cls d H) := L2N.takes_of rfl rfl rfl rfl
  delta dn_law_classes_xTooMany
  exact (jcons (jset 1 sc_74.nd (jlst (jac (jisE (b := false) T.xc_TooMany hot hC List.mem_cons_self T.z_isinstance (cn_own T.mgC_NoRoom) T.ki_TooMany_NoRoom) (jac (jisE (b := false) T.xc_TooMany hot hC List.mem_cons_self T.z_isinstance (cn_own T.mgC_NoWidth) T.ki_TooMany_NoWidth) (jac (jisE (b := false) T.xc_TooMany hot hC List.mem_cons_self T.z_isinstance (cn_own T.mgC_NoDrives) T.ki_TooMany_NoDrives) (jac (jisE (b := false) T.xc_TooMany hot hC List.mem_cons_self T.z_isinstance (cn_own T.mgC_NoPlace) T.ki_TooMany_NoPlace) jan)))))) (jcons (jset 1 sc_74.nd (jadd (jv 1) (jlst (jac (jisE (b := false) T.xc_TooMany hot hC List.mem_cons_self T.z_isinstance (cn_own T.mgC_NoDrive) T.ki_TooMany_NoDrive) (jac (jisE (b := false) T.xc_TooMany hot hC List.mem_cons_self T.z_isinstance (cn_own T.mgC_NoPhase) T.ki_TooMany_NoPhase) (jac (jisE (b := false) T.xc_TooMany hot hC List.mem_cons_self T.z_isinstance (cn_own T.mgC_NoShelf) T.ki_TooMany_NoShelf) (jac (jisE (b := false) T.xc_TooMany hot hC List.mem_cons_self T.z_isinstance (cn_own T.mgC_NoLine) T.ki_TooMany_NoLine) jan))))))) (jcons (jset 1 sc_74.nd (jadd (jv 1) (jlst (jac (jisE (b := true) T.xc_TooMany hot hC List.mem_cons_self T.z_isinstance (cn_own T.mgC_TooMany) T.ki_TooMany_TooMany) (jac (jisE (b := false) T.xc_TooMany hot hC List.mem_cons_self T.z_isinstance (cn_own T.mgC_NoRow) T.ki_TooMany_NoRow) (jac (jisE (b := false) T.xc_TooMany hot hC List.mem_cons_self T.z_isinstance (cn_own T.mgC_NotRising) T.ki_TooMany_NotRising) (jac (jisE (b := false) T.xc_TooMany hot hC List.mem_cons_self T.z_isinstance (cn_own T.mgC_NoTrace) T.ki_TooMany_NoTrace) jan))))))) (jone' (jret (jadd (jv 1) (jlst (jac (jisE (b := false) T.xc_TooMany hot hC List.mem_cons_self T.z_isinstance (cn_own T.mgC_Bare) T.ki_TooMany_Bare) jan))))))))
theorem okE_75_xTooMany (T : Tx K mg a d cls) : FnE P w K mg base 2 (a 75) (d 75) ["e", "place"] (cls 9) (fun ad => spOf ⟨cls, K⟩ (F_law_only_xTooMany ad)) :=
  ok_defE (A := (([] ++ []) ++ [])) (b := dn_law_only_xTooMany) T.F75 sc_75 (by decide) (fun _ => rfl) fun cdv Ar outer s H E q hot hC hr => by
  have tk : L2N.Takes (L2H.cxH (L2N.CX P w) P w K mg base N_75 "_law_only" (defScope s_75) (a 75) cdv Ar outer s H E q) (fun cls d _ H => E cls d H) := L2N.takes_of rfl rfl rfl rfl
  delta dn_law_only_xTooMany
  exact (jcons (jifs (jpt (jwor (jtnot (jtv (jisE (b := true) T.xc_TooMany hot hC List.mem_cons_self T.z_isinstance (cn_own T.mgC_PourError) T.ki_TooMany_PourError))) (jwor1 (jtnot (jtv (jisE (b := true) T.xc_TooMany hot hC List.mem_cons_self T.z_isinstance (cn_ve T.z_ValueError) T.kv_TooMany)))))) (jone' (jret jbl)) jnil) (jone' (jret (jeq (unitsH hr) (jcallE (F := F_law_classes_xTooMany) (okE_74_xTooMany T) (fun σ => L2N.passAt tk σ) (hr.mono (by decide)) hot List.mem_cons_self hC T.M74 T.F74.kp T.B74 (jac (jv 0) jan)) (jlcH hot List.mem_cons_self (own := [("k", 2)]) sc_75.nd (jrg1H T.z_range (jac jint jan)) (blkOk_by (N := N_75) (sc := defScope s_75) (by decide +kernel)) tg_name (by decide) (by decide) (fun _ _ _ _ _ => (jtgN 2 sc_75.nd)) (fun _ _ _ _ _ => jnoif) (fun _ _ _ _ _ => (jeq (unitsH hr) (jv 2) (jv 1))))))))
theorem ok_77 (T : Tx K mg a d cls) : FnOk P w K mg base (L2N.CX P w) 8 (a 77) (d 77) ["desk", "line"] (spOf ⟨cls, K⟩ F_law_said) :=
  ok_def T.F77 sc_77 (by decide) fun cdv Ar outer s H E hr =>
    have tk : L2N.Takes (cxOf (L2N.CX P w) P w K mg base N_77 "_law_said" (defScope s_77) (a 77) cdv Ar outer s H E) (fun cls d _ H => E cls d H) := L2N.takes_of rfl rfl rfl rfl
    (jone' (jtryEc (i := 2) (c0 := c_TooMany) (dh := fun a => (dRet (dComp (dR1 (aCons true (rC (.int 13)) aNil)) (dgName 3) (ct_law_said_1 a) (ce_law_said_0 a) [3]))) rfl rfl rfl sc_77.nd tk T.mgC_PourError T.em_TooMany_PourError (fun W2 pn xe tk hp => (jone' (jret (jmethS tk T.cl_Desk T.me71 (ok_71 T) (hr.mono (by decide)) T.B71 (jv 0) (jac (jv 1) jan))))) (fun q pn hot hC => (jone' (jret (jlcH hot List.mem_cons_self (own := [("place", 3)]) sc_77.nd (jrg1H T.z_range (jac jint jan)) (blkOk_by (N := N_77) (sc := defScope s_77) (by decide +kernel)) tg_name (by decide) (by decide) (fun _ _ _ _ _ => (jtgN 3 sc_77.nd)) (fun _ _ _ _ _ => (jif1 (jtv (jcallE (F := F_law_only_xTooMany) (okE_75_xTooMany T) passW0 ((roomS hr).mono (by decide)) hot List.mem_cons_self hC T.M75 T.F75.kp T.B75 (jac (jv 2) (jac (jv 3) jan)))))) (fun _ _ _ _ _ => (jcp (jv 3)))))))))
theorem ok_78 (T : Tx K mg a d cls) : FnOk P w K mg base (L2N.CX P w) 9 (a 78) (d 78) ["script"] (spOf ⟨cls, K⟩ F_law) :=
  ok_def T.F78 sc_78 (by decide) fun cdv Ar outer s H E hr =>
    have tk : L2N.Takes (cxOf (L2N.CX P w) P w K mg base N_78 "law" (defScope s_78) (a 78) cdv Ar outer s H E) (fun cls d _ H => E cls d H) := L2N.takes_of rfl rfl rfl rfl
    (jcons (jset 1 sc_78.nd (jcall (L2N.passes_call tk (fun _ _ _ _ h => h)) (fun _ _ _ _ h => h) (ok_72 T) (hr.mono (by decide)) T.M72 T.F72.kp T.B72 (jac (jv 0) (jac jint jan)))) (jcons (jset 2 sc_78.nd (jmake0 (L2N.passes_call tk (fun _ _ _ _ h => h)) (fun _ _ _ _ h => h) T.mk_Desk (ok_63 T) (hr.mono (by decide)) T.mgC_Desk T.B63)) (jcons (jset 3 sc_78.nd (jadd jint (jcall (L2N.passes_call tk (fun _ _ _ _ h => h)) (fun _ _ _ _ h => h) (ok_73 T) (hr.mono (by decide)) T.M73 T.F73.kp T.B73 (jac (jv 1) (jac jint jan))))) (jcons (jset 4 sc_78.nd (jadd jstr (jbm PySem.F.plainAttrs_str PySem.F.slot_str_join PySem.F.type_str_join mt_join os_join jstr (jac (jmul (jlst (jac jstr jan)) (jv 3)) jan)))) (jcons (jkill [4] (jifs (jtne hr.units (jcall (L2N.passes_call tk (fun _ _ _ _ h => h)) (fun _ _ _ _ h => h) (ok_77 T) (hr.mono (by decide)) T.M77 T.F77.kp T.B77 (jac (jv 2) (jac (jv 4) jan))) (jTy call_str_int os_str bt_str T.z_str (jac (jv 3) jan))) (jone' (jret jbl)) jnil)) (jcons (jset 5 sc_78.nd (jadd jint (jcall (L2N.passes_call tk (fun _ _ _ _ h => h)) (fun _ _ _ _ h => h) (ok_73 T) (hr.mono (by decide)) T.M73 T.F73.kp T.B73 (jac (jv 1) (jac jint jan))))) (jcons (jset 6 sc_78.nd (jTy call_str_int os_str bt_str T.z_str (jac (jadd (jv 3) (jv 5)) jan))) (jcons (jifs (jtgt (jadd (jv 3) (jv 5)) jint) (jone' (jset 6 sc_78.nd (jlst (jac jint jan)))) (jone' (jset 3 sc_78.nd (jadd (jv 3) (jv 5))))) (jcons (jkill [5, 6] (jifs (jtne hr.units (jcall (L2N.passes_call tk (fun _ _ _ _ h => h)) (fun _ _ _ _ h => h) (ok_77 T) (hr.mono (by decide)) T.M77 T.F77.kp T.B77 (jac (jv 2) (jac (jadd jstr (jmulS jstr (jv 5))) jan))) (jv 6)) (jone' (jret jbl)) jnil)) (jcons (jkill [3] (jifs (jtne hr.units (jB call_len os_len bt_len T.z_len (jac (jbm PySem.F.plainAttrs_str PySem.F.slot_str_split PySem.F.type_str_split mt_split os_split (jcall (L2N.passes_call tk (fun _ _ _ _ h => h)) (fun _ _ _ _ h => h) (ok_77 T) (hr.mono (by decide)) T.M77 T.F77.kp T.B77 (jac (jv 2) (jac jstr jan))) (jac jstr jan)) jan)) (jv 3)) (jone' (jret jbl)) jnil)) (jcons (jifs (jtne hr.units (jcall (L2N.passes_call tk (fun _ _ _ _ h => h)) (fun _ _ _ _ h => h) (ok_77 T) (hr.mono (by decide)) T.M77 T.F77.kp T.B77 (jac (jv 2) (jac jstr jan))) jstr) (jone' (jret jbl)) jnil) (jcons (jkill [1] (jset 7 sc_78.nd (jadd jint (jcall (L2N.passes_call tk (fun _ _ _ _ h => h)) (fun _ _ _ _ h => h) (ok_73 T) (hr.mono (by decide)) T.M73 T.F73.kp T.B73 (jac (jv 1) (jac jint jan)))))) (jcons (jfor (passes_of rfl) (jtgN 8 sc_78.nd) tg_name (jrg1 T.z_range (jac (jv 7) jan)) (jone' (jkill [8] (jexp (jmeth (L2N.passes_call tk (fun _ _ _ _ h => h)) (fun _ _ _ _ h => h) T.cl_Desk T.me71 (ok_71 T) (hr.mono (by decide)) T.B71 (jv 2) (jac (jadd jstr (jTy call_str_int os_str bt_str T.z_str (jac (jsub (jv 7) (jv 8)) jan))) jan)))))) (jcons (jset 6 sc_78.nd (jbm PySem.F.plainAttrs_str PySem.F.slot_str_join PySem.F.type_str_join mt_join os_join jstr (jac (jlc (own := [("place", 9)]) sc_78.nd (jbi (jrg1 T.z_range (jac (jv 7) jan))) (blkOk_by (N := N_78) (sc := defScope s_78) (by decide +kernel)) tg_name (by decide) (by decide) (fun h => by cases h) (fun _ _ _ _ _ => (jtgN 9 sc_78.nd)) (fun _ _ _ _ _ => jnoif) (fun _ _ _ _ _ => (jTy call_str_int os_str bt_str T.z_str (jac (jsub (jsub (jv 7) jint) (jv 9)) jan)))) jan))) (jcons (jifs (jtgt (jv 7) jint) (jone' (jset 6 sc_78.nd (jlst (jac jint jan)))) jnil) (jone' (jret (jand (jeq hr.units (jcall (L2N.passes_call tk (fun _ _ _ _ h => h)) (fun _ _ _ _ h => h) (ok_77 T) (hr.mono (by decide)) T.M77 T.F77.kp T.B77 (jac (jv 2) (jac jstr jan))) (jv 6)) (jone (jeq hr.units (jcall (L2N.passes_call tk (fun _ _ _ _ h => h)) (fun _ _ _ _ h => h) (ok_77 T) (hr.mono (by decide)) T.M77 T.F77.kp T.B77 (jac (jv 2) (jac jstr jan))) (jTy call_str_int os_str bt_str T.z_str (jac (jsub (jv 7) jint) jan))))))))))))))))))))))
end
end K90
end
section
set_option maxRecDepth 100000
set_option autoImplicit true
set_option relaxedAutoImplicit true
namespace DL
open PySem PySem.Spec PyProof.Rows L2
@[simp] theorem ev_rok (a : α) (k : α → R β) : (R.ok a).bind k = k a := id rfl
@[simp] theorem ev_rexc (c : Nat) (fs : List (Str × V)) (k : α → R β) : (R.exc c fs E).bind k = .exc c fs E := id rfl
@[simp] theorem ev_rbad (k : α → R β) : (R.bad).bind k = .bad := id rfl
@[simp] theorem ev_sok (a : α) (k : α → S) : (R.ok a).toS k = k a := id rfl
@[simp] theorem ev_sexc (c : Nat) (fs : List (Str × V)) (k : α → S) : (R.exc c fs E).toS k = .exc c fs E := id rfl
@[simp] theorem ev_sbad (k : α → S) : (R.bad).toS k = .bad := id rfl
@[simp] theorem ev_bnx (k : List D → S) : (S.nx E).bind k = k E := id rfl
@[simp] theorem ev_bbk (k : List D → S) : (S.bk E).bind k = .bk E := id rfl
@[simp] theorem ev_bct (k : List D → S) : (S.ct E).bind k = .ct E := id rfl
@[simp] theorem ev_brt (d : D) (k : List D → S) : (S.rt d E).bind k = .rt d E := id rfl
@[simp] theorem ev_bexc (c : Nat) (fs : List (Str × V)) (k : List D → S) : (S.exc c fs E).bind k = .exc c fs E := id rfl
@[simp] theorem ev_bbad (k : List D → S) : (S.bad).bind k = .bad := by (try simp only [← len_if, ← len_if2, ← rg_if1, ← rg_if2]); exact id rfl
open Classical in
noncomputable def lenOk (n : Nat) : Bool := @decide (n ≤ 100000) (propDecidable _)
theorem lenOk_s {n : Nat} (h : n ≤ 100000) : lenOk n = true := by unfold lenOk; exact @decide_eq_true _ (_) h
@[simp] theorem lenOk_0 : lenOk 0 = true := lenOk_s (by omega)
@[simp] theorem lenOk_1 : lenOk 1 = true := lenOk_s (by omega)
@[simp] theorem lenOk_2 : lenOk 2 = true := lenOk_s (by omega)
@[simp] theorem lenOk_3 : lenOk 3 = true := lenOk_s (by omega)
@[simp] theorem lenOk_4 : lenOk 4 = true := lenOk_s (by omega)
@[simp] theorem lenOk_5 : lenOk 5 = true := lenOk_s (by omega)
theorem len_if {α : Type} {n : Nat} {a b : α} : (if n ≤ 100000 then a else b) = if lenOk n then a else b := by simp [lenOk]
theorem len_dec {n : Nat} : decide (n ≤ 100000) = lenOk n := by simp [lenOk]
theorem len_if2 {α : Type} {n : Nat} {a b : α} : (if n < 100000 then a else b) = if lenOk (n + 1) then a else b := by
  have : (lenOk (n + 1) = true) ↔ n < 100000 := by simp [lenOk]; omega
  simp [this]
open Classical in
noncomputable def rgOk (i j : Int) : Bool := @decide (-(2 ^ 62) ≤ i ∧ i < 2 ^ 62 ∧ -(2 ^ 62) ≤ j ∧ j < 2 ^ 62) (propDecidable _)
theorem rgOk_s {i j : Int} (h1 : -4611686018427387904 ≤ i) (h2 : i < 4611686018427387904) (h3 : -4611686018427387904 ≤ j) (h4 : j < 4611686018427387904) : rgOk i j = true := by unfold rgOk; exact @decide_eq_true _ (_) ⟨h1, h2, h3, h4⟩
open Classical in
noncomputable def rg1Ok (j : Int) : Bool := @decide (-(2 ^ 62) ≤ j ∧ j < 2 ^ 62) (propDecidable _)
theorem rg1Ok_s {j : Int} (h3 : -4611686018427387904 ≤ j) (h4 : j < 4611686018427387904) : rg1Ok j = true := by unfold rg1Ok; exact @decide_eq_true _ (_) ⟨h3, h4⟩
theorem rg_if1 {α : Type} {j : Int} {a b : α} : (if -(2 ^ 62) ≤ j ∧ j < 2 ^ 62 then a else b) = if rg1Ok j then a else b := by simp [rg1Ok]
theorem rg_if2 {α : Type} {i j : Int} {a b : α} : (if -(2 ^ 62) ≤ i ∧ i < 2 ^ 62 ∧ -(2 ^ 62) ≤ j ∧ j < 2 ^ 62 then a else b) = if rgOk i j then a else b := by simp [rgOk]
@[simp] theorem ev_rC (v : V) (E : List D) : rC v E = .ok (.val (.sc v), E) := id rfl
@[simp] theorem ev_dCopy (d : Den) (E : List D) : dCopy d E = (d E).bind fun r => match r.1 with
  | .val c => .ok (.val c, r.2)
  | .plc i p => match getP r.2 i p with
    | some c => if Fz c then .ok (.val c, r.2) else .bad
    | none => .bad := id rfl
@[simp] theorem ev_dFrz (d : Den) (E : List D) : dFrz d E = (d E).bind fun r => match r.1 with
  | .val c => .ok (.val c, r.2)
  | .plc i p => match getP r.2 i p with
    | some c => if Fz c then .ok (.val c, r.2) else .ok (.val (fz c), setP r.2 i p (fz c))
    | none => .bad := id rfl
@[simp] theorem ev_dCold (d : Den) (E : List D) : dCold d E = (d E).bind fun r => match r.1 with
  | .val c => .ok (.val (fz c), r.2)
  | .plc i p => .ok (.plc i p, r.2) := id rfl
@[simp] theorem ev_aNil  (E : List D) : aNil  E = .ok ([], E) := id rfl
@[simp] theorem ev_aCons (pu2 : Bool) (d : Den) (ds : DenA) (E : List D) : aCons pu2 d ds E = (d E).bind fun r => if stab pu2 r.1 then (ds r.2).bind fun q => .ok (r.1 :: q.1, q.2) else .bad := id rfl
@[simp] theorem ev_dOp (F : List D → Option D) (das : DenA) (E : List D) : dOp F das E = (das E).bind fun r => match conts r.2 r.1 with
  | some ds => match F ds with
    | some d => .ok (.val d, r.2)
    | none => .bad
  | none => .bad := id rfl
@[simp] theorem ev_dTup (das : DenA) (E : List D) : dTup das E = (das E).bind fun r => match opVals r.1 with
  | some ds => if lenOk ds.length then .ok (.val (.nd .tup ds), r.2) else .bad
  | none => .bad := by (try simp only [← len_if, ← len_if2, ← rg_if1, ← rg_if2]); exact id rfl
@[simp] theorem ev_dLst (das : DenA) (E : List D) : dLst das E = (das E).bind fun r => match opVals r.1 with
  | some ds => if lenOk ds.length then .ok (.val (.nd (.lst true) ds), r.2) else .bad
  | none => .bad := by (try simp only [← len_if, ← len_if2, ← rg_if1, ← rg_if2]); exact id rfl
@[simp] theorem ev_dCall (F : Fn) (das : DenA) (E : List D) : dCall F das E = (das E).bind (callK F) := id rfl
@[simp] theorem ev_dMeth (c : Nat) (m : Str) (F : Fn) (pu2 : Bool) (d0 : Den) (das : DenA) (E : List D) : dMeth c m F pu2 d0 das E = (d0 E).bind fun r => if isObj c m (cont r.2 r.1) && stab pu2 r.1 then (das r.2).bind fun q => callK F (r.1 :: q.1, q.2) else .bad := id rfl
@[simp] theorem ev_dMake (c : Nat) (F : Fn) (das : DenA) (E : List D) : dMake c F das E = (das E).bind (makeK c F) := id rfl
@[simp] theorem ev_dFld (c : Nat) (f : Str) (d : Den) (E : List D) : dFld c f d E = (d E).bind (fldK c f) := id rfl
@[simp] theorem ev_dIx (pu2 : Bool) (d1 d2 : Den) (E : List D) : dIx pu2 d1 d2 E = (aCons pu2 d1 (aCons true d2 aNil) E).bind ixK := id rfl
@[simp] theorem ev_dTst (d : Den) (E : List D) : dTst d E = (d E).bind fun r => match cont r.2 r.1 with
  | some (.sc (.bl b)) => .ok (b, r.2)
  | _ => .bad := id rfl
@[simp] theorem ev_dTru (d : Den) (E : List D) : dTru d E = (d E).bind fun r => match cont r.2 r.1 with
  | some c => match truD c with
    | some b => .ok (b, r.2)
    | none => .bad
  | none => .bad := id rfl
@[simp] theorem ev_dAnd (a b : DenT) (E : List D) : dAnd a b E = (a E).bind fun r => if r.1 then b r.2 else .ok (false, r.2) := id rfl
@[simp] theorem ev_dOr (a b : DenT) (E : List D) : dOr a b E = (a E).bind fun r => if r.1 then .ok (true, r.2) else b r.2 := id rfl
@[simp] theorem ev_dNot (a : DenT) (E : List D) : dNot a E = (a E).bind fun r => .ok (!r.1, r.2) := id rfl
@[simp] theorem ev_dAndV (a b : Den) (E : List D) : dAndV a b E = (a E).bind fun r => match cont r.2 r.1 with
  | some (.sc (.bl true)) => b r.2
  | some (.sc (.bl false)) => .ok (.val (.sc (.bl false)), r.2)
  | _ => .bad := id rfl
@[simp] theorem ev_dOrV (a b : Den) (E : List D) : dOrV a b E = (a E).bind fun r => match cont r.2 r.1 with
  | some (.sc (.bl false)) => b r.2
  | some (.sc (.bl true)) => .ok (.val (.sc (.bl true)), r.2)
  | _ => .bad := id rfl
@[simp] theorem ev_dNotV (a : Den) (E : List D) : dNotV a E = (a E).bind fun r => match cont r.2 r.1 with
  | some (.sc (.bl b)) => .ok (.val (.sc (.bl (!b))), r.2)
  | _ => .bad := id rfl
@[simp] theorem ev_dIf (t : DenT) (a b : Den) (E : List D) : dIf t a b E = (t E).bind fun r => if r.1 then a r.2 else b r.2 := id rfl
@[simp] theorem ev_dNext  (E : List D) : dNext  E = .nx E := id rfl
@[simp] theorem ev_dSeq (a b : DenS) (E : List D) : dSeq a b E = (a E).bind b := id rfl
@[simp] theorem ev_dDrop (d : Den) (E : List D) : dDrop d E = (d E).toS fun r => .nx r.2 := id rfl
@[simp] theorem ev_dRet (d : Den) (E : List D) : dRet d E = (d E).toS fun r => match r.1 with
  | .val c => .rt c r.2
  | .plc _ _ => .bad := id rfl
@[simp] theorem ev_dRetN  (E : List D) : dRetN  E = .rt (.sc .non) E := id rfl
@[simp] theorem ev_dBrk  (E : List D) : dBrk  E = .bk E := id rfl
@[simp] theorem ev_dCnt  (E : List D) : dCnt  E = .ct E := id rfl
@[simp] theorem ev_dIfS (t : DenT) (a b : DenS) (E : List D) : dIfS t a b E = (t E).toS fun r => if r.1 then a r.2 else b r.2 := id rfl
@[simp] theorem ev_dgName (i : Nat) (d : D) (E : List D) : dgName i d E = if i < E.length then some (E.set i d) else none := id rfl
@[simp] theorem ev_dgTup (is : List Nat) (d : D) (E : List D) : dgTup is d E = match d with
  | .nd .tup ds => setAll E is ds
  | _ => none := id rfl
@[simp] theorem ev_dgLst (is : List Nat) (d : D) (E : List D) : dgLst is d E = match d with
  | .nd (.lst _) ds => setAll E is ds
  | _ => none := id rfl
@[simp] theorem ev_dAsg (d : Den) (dg : DenG) (E : List D) : dAsg d dg E = (d E).toS fun r => match r.1 with
  | .val c => match dg c r.2 with
    | some E' => .nx E'
    | none => .bad
  | .plc _ _ => .bad := id rfl
@[simp] theorem ev_dPar (is : List Nat) (das : DenA) (E : List D) : dPar is das E = (das E).toS fun r => match opVals r.1 with
  | some ds => match setAll r.2 is ds with
    | some E' => .nx E'
    | none => .bad
  | none => .bad := id rfl
@[simp] theorem ev_iSeq (d : Den) (E : List D) : iSeq d E = (d E).bind itK := id rfl
@[simp] theorem ev_dFor (di : DenI) (dg : DenG) (b : DenS) (E : List D) : dFor di dg b E = (di E).toS fun r => loopD dg b r.1 r.2 := id rfl
@[simp] theorem ev_dLstRg1 (d : Den) (E : List D) : dLstRg1 d E = (d E).bind fun r => match cont r.2 r.1 with
  | some (.sc (.int j)) => if 0 ≤ j ∧ j ≤ 100000 then .ok (.val (.nd (.lst true) (rngD 0 j.toNat)), r.2) else .bad
  | _ => .bad := id rfl
@[simp] theorem ev_dLstRg2 (pu2 : Bool) (d1 d2 : Den) (E : List D) : dLstRg2 pu2 d1 d2 E = (aCons pu2 d1 (aCons true d2 aNil) E).bind fun r => match conts r.2 r.1 with
  | some [.sc (.int i), .sc (.int j)] => if 0 ≤ i ∧ i ≤ 100000 ∧ 0 ≤ j ∧ j ≤ 100000 then .ok (.val (.nd (.lst true) (rngD i (j - i).toNat)), r.2) else .bad
  | _ => .bad := id rfl
@[simp] theorem ev_dSetI (p1 p2 : Bool) (d d0 di : Den) (E : List D) : dSetI p1 p2 d d0 di E = (aCons (p1 && (p2 && true)) d (aCons (p2 && true) d0 (aCons true di aNil)) E).toS setIK := id rfl
@[simp] theorem ev_dMut (T : String) (M : MutF) (pu2 : Bool) (d0 : Den) (das : DenA) (E : List D) : dMut T M pu2 d0 das E = (d0 E).bind fun r => if isTy T (cont r.2 r.1) && stab pu2 r.1 then (das r.2).bind fun q => mutK M (r.1, q) else .bad := id rfl
@[simp] theorem ev_dSetF (c : Nat) (f : Str) (p1 : Bool) (d d0 : Den) (E : List D) : dSetF c f p1 d d0 E = (aCons (p1 && true) d (aCons true d0 aNil) E).toS (setFK c f) := id rfl
@[simp] theorem ev_dView (d : Den) (E : List D) : dView d E = match d (fzs E) with
  | .ok r => match r.1 with
    | .val (.sc v) => .ok (.val (.sc v), E)
    | _ => .bad
  | _ => .bad := id rfl
@[simp] theorem ev_iBor (d : Den) (E : List D) : iBor d E = (d E).bind fun r => match r.1 with
  | .plc i p => match getP r.2 i p with
    | some (.nd k ds) => if k.isLst && ds.all Fz then .ok (ds, r.2) else .bad
    | _ => .bad
  | .val _ => .bad := id rfl
@[simp] theorem ev_dComp (di : DenI) (dg : DenG) (dt : DenT) (de : Den) (ws : List Nat) (E : List D) : dComp di dg dt de ws E = (di E).bind fun r => match conts r.2 (wp ws) with
  | some old => (compL dg dt de ws r.1 (holes r.2 (wp ws)) []).bind fun q => .ok (.val (.nd (.lst true) q.1), back q.2 (wp ws) old)
  | none => .bad := id rfl
@[simp] theorem ev_dYes  (E : List D) : dYes  E = .ok (true, E) := id rfl
@[simp] theorem ev_pNo  (E : List D) : pNo  E = .ok (none, E) := id rfl
@[simp] theorem ev_pAt (d : Den) (E : List D) : pAt d E = (d E).bind fun r => match r.1 with
  | .val (.sc (.int i)) => .ok (some i, r.2)
  | _ => .bad := id rfl
@[simp] theorem ev_dSl (pu : Bool) (d : Den) (lo hi : DenP) (E : List D) : dSl pu d lo hi E = (d E).bind fun r => if stab pu r.1 then (lo r.2).bind fun p => (hi p.2).bind fun q => match cont q.2 r.1 with
    | some x => match fSl x p.1 q.1 with
      | some d => .ok (.val d, q.2)
      | none => .bad
    | none => .bad
  else .bad := id rfl
@[simp] theorem ev_dChain (F1 F2 : List D → Option D) (pu2 pu3 : Bool) (d1 d2 d3 : Den) (E : List D) : dChain F1 F2 pu2 pu3 d1 d2 d3 E = (d1 E).bind fun r1 => if stab pu2 r1.1 then (d2 r1.2).bind fun r2 => match conts r2.2 [r1.1, r2.1] with
    | some ds => match F1 ds with
      | some (.sc (.bl true)) => if stab pu3 r2.1 then (d3 r2.2).bind fun r3 => match conts r3.2 [r2.1, r3.1] with
          | some es => match F2 es with
            | some c => .ok (.val c, r3.2)
            | none => .bad
          | none => .bad
        else .bad
      | some (.sc (.bl false)) => .ok (.val (.sc (.bl false)), r2.2)
      | _ => .bad
    | none => .bad
  else .bad := id rfl
@[simp] theorem ev_dRaise (c : Nat) (E : List D) : dRaise c E = .exc c [] E := id rfl
@[simp] theorem ev_Kd_mut_1 : Kd.mut  (.tup) = (false) := by first | exact id rfl | simp [Kd.mut]
@[simp] theorem ev_Kd_mut_2 : Kd.mut  (.lst m) = (m) := by first | exact id rfl | simp [Kd.mut]
@[simp] theorem ev_Kd_mut_3 : Kd.mut  (.dik m u1) = (m) := by first | exact id rfl | simp [Kd.mut]
@[simp] theorem ev_Kd_mut_4 : Kd.mut  (.dit m u1) = (m) := by first | exact id rfl | simp [Kd.mut]
@[simp] theorem ev_Kd_mut_5 : Kd.mut  (.obj m u1 u2) = (m) := by first | exact id rfl | simp [Kd.mut]
@[simp] theorem ev_Kd_fz_1 : Kd.fz  (.tup) = (.tup) := by first | exact id rfl | simp [Kd.fz]
@[simp] theorem ev_Kd_fz_2 : Kd.fz  (.lst u1) = (.lst false) := by first | exact id rfl | simp [Kd.fz]
@[simp] theorem ev_Kd_fz_3 : Kd.fz  (.dik u1 ks) = (.dik false ks) := by first | exact id rfl | simp [Kd.fz]
@[simp] theorem ev_Kd_fz_4 : Kd.fz  (.dit u1 ks) = (.dit false ks) := by first | exact id rfl | simp [Kd.fz]
@[simp] theorem ev_Kd_fz_5 : Kd.fz  (.obj u1 c ns) = (.obj false c ns) := by first | exact id rfl | simp [Kd.fz]
@[simp] theorem ev_Kd_mut_6 : Kd.mut  (.dku kk6) = (false) := by first | exact id rfl | simp [Kd.mut]
@[simp] theorem ev_Kd_mut_7 : Kd.mut  (.dtu kk7) = (false) := by first | exact id rfl | simp [Kd.mut]
@[simp] theorem ev_Kd_fz_6 : Kd.fz  (.dku kk6) = (.dku kk6) := by first | exact id rfl | simp [Kd.fz]
@[simp] theorem ev_Kd_fz_7 : Kd.fz  (.dtu kk7) = (.dtu kk7) := by first | exact id rfl | simp [Kd.fz]
@[simp] theorem ev_fz_1 : fz  (.una) = (.una) := by first | exact id rfl | simp [fz]
@[simp] theorem ev_fz_2 : fz  (.sc v) = (.sc v) := by first | exact id rfl | simp [fz]
@[simp] theorem ev_fz_3 : fz  (.nd k ds) = (.nd k.fz (fzs ds)) := by first | exact id rfl | simp [fz]
@[simp] theorem ev_fz_4 : fz  (.kl xs) = (.kl xs) := by first | exact id rfl | simp [fz]
@[simp] theorem ev_fzs_1 : fzs  ([]) = ([]) := by first | exact id rfl | simp [fzs]
@[simp] theorem ev_fzs_2 : fzs  (d :: ds) = (fz d :: fzs ds) := by first | exact id rfl | simp [fzs]
@[simp] theorem ev_Fz_1 : Fz  (.una) = (false) := by first | exact id rfl | simp [Fz]
@[simp] theorem ev_Fz_2 : Fz  (.sc u1) = (true) := by first | exact id rfl | simp [Fz]
@[simp] theorem ev_Fz_3 : Fz  (.nd k ds) = (!k.mut && Fzs ds) := by first | exact id rfl | simp [Fz]
@[simp] theorem ev_Fz_4 : Fz  (.kl u1) = (true) := by first | exact id rfl | simp [Fz]
@[simp] theorem ev_Fzs_1 : Fzs  ([]) = (true) := by first | exact id rfl | simp [Fzs]
@[simp] theorem ev_Fzs_2 : Fzs  (d :: ds) = (Fz d && Fzs ds) := by first | exact id rfl | simp [Fzs]
@[simp] theorem ev_getP_1 : getP  (ds) (i) ([]) = (ds[i]?) := by first | exact id rfl | simp [getP]
@[simp] theorem ev_getP_2 : getP  (ds) (i) (j :: p) = (match ds[i]? with
    | some (.nd _ es) => getP es j p
    | _ => none) := by first | exact id rfl | simp [getP]
@[simp] theorem ev_setP_1 : setP  (ds) (i) ([]) (d) = (ds.set i d) := by first | exact id rfl | simp [setP]
@[simp] theorem ev_setP_2 : setP  (ds) (i) (j :: p) (d) = (match ds[i]? with
    | some (.nd k es) => ds.set i (.nd k (setP es j p d))
    | _ => ds) := by first | exact id rfl | simp [setP]
@[simp] theorem ev_cont_1 (E : List D) : cont E (.val d) = (some d) := by first | exact id rfl | simp [cont]
@[simp] theorem ev_cont_2 (E : List D) : cont E (.plc i p) = (getP E i p) := by first | exact id rfl | simp [cont]
@[simp] theorem ev_conts_1 (E : List D) : conts E ([]) = (some []) := by first | exact id rfl | simp [conts]
@[simp] theorem ev_conts_2 (E : List D) : conts E (o :: oz) = (match cont E o, conts E oz with
    | some d, some ds => some (d :: ds)
    | _, _ => none) := by first | exact id rfl | simp [conts]
@[simp] theorem ev_stab_1 (pu : Bool) : stab pu (.val u1) = (true) := by first | exact id rfl | simp [stab]
@[simp] theorem ev_stab_2 (pu : Bool) : stab pu (.plc u1 []) = (true) := by first | exact id rfl | simp [stab]
@[simp] theorem ev_opVals_1 : opVals  ([]) = (some []) := by first | exact id rfl | simp [opVals]
@[simp] theorem ev_opVals_2 : opVals  (.val d :: oz) = (match opVals oz with
    | some ds => some (d :: ds)
    | none => none) := by first | exact id rfl | simp [opVals]
@[simp] theorem ev_opVals_3 : opVals  (.plc u1 u2 :: u3) = (none) := by first | exact id rfl | simp [opVals]
@[simp] theorem ev_lendOk_1 : lendOk  ([]) (u1) = (true) := by first | exact id rfl | simp [lendOk]
@[simp] theorem ev_lendOk_2 : lendOk  (.val u1 :: oz) (acc) = (lendOk oz acc) := by first | exact id rfl | simp [lendOk]
@[simp] theorem ev_lendOk_3 : lendOk  (.plc i [] :: oz) (acc) = (!acc.contains i && lendOk oz (i :: acc)) := by first | exact id rfl | simp [lendOk]
@[simp] theorem ev_lendOk_4 : lendOk  (.plc u1 (u2 :: u3) :: u4) (u5) = (false) := by first | exact id rfl | simp [lendOk]
@[simp] theorem ev_back_1 : back  (E) (.plc i u1 :: oz) (d :: ds) = ((back E oz ds).set i d) := by first | exact id rfl | simp [back]
@[simp] theorem ev_back_2 : back  (E) (.val u1 :: oz) (u2 :: ds) = (back E oz ds) := by first | exact id rfl | simp [back]
@[simp] theorem ev_holes_1 : holes  (E) (.plc i u1 :: oz) = ((holes E oz).set i .una) := by first | exact id rfl | simp [holes]
@[simp] theorem ev_holes_2 : holes  (E) (.val u1 :: oz) = (holes E oz) := by first | exact id rfl | simp [holes]
@[simp] theorem ev_holes_3 : holes  (E) ([]) = (E) := by first | exact id rfl | simp [holes]
@[simp] theorem ev_isUna_1 : isUna  (.una) = (true) := by first | exact id rfl | simp [isUna]
@[simp] theorem ev_lendP_1 : lendP ([]) (u1) = (true) := id rfl
@[simp] theorem ev_lendP_2 : lendP (.val u1 :: oz) (acc) = (lendP oz acc) := id rfl
@[simp] theorem ev_lendP_3 : lendP (.plc i p :: oz) (acc) = (!acc.contains i && lendP oz (i :: acc)) := id rfl
@[simp] theorem ev_backP_1 : backP (E) (.plc i p :: oz) (d :: ds) = (setP (backP E oz ds) i p d) := id rfl
@[simp] theorem ev_backP_2 : backP (E) (.val u1 :: oz) (u2 :: ds) = (backP E oz ds) := id rfl
@[simp] theorem ev_backP_3 : backP E [] ds = E := by cases ds <;> rfl
@[simp] theorem ev_holesP_1 : holesP (E) (.plc i p :: oz) = (setP (holesP E oz) i p .una) := id rfl
@[simp] theorem ev_holesP_2 : holesP (E) (.val u1 :: oz) = (holesP E oz) := id rfl
@[simp] theorem ev_holesP_3 : holesP (E) ([]) = (E) := id rfl
@[simp] theorem ev_callK (F : Fn) (r : List Opd × List D) : callK F r = match conts r.2 r.1 with
  | some ds => if lendP r.1 [] && !ds.any isUna then (match F ds with
    | .ok q => .ok (.val q.1, backP (holesP r.2 r.1) r.1 q.2)
    | .exc c fs ds' => .exc c fs (backP (holesP r.2 r.1) r.1 ds')
    | .bad => .bad) else .bad
  | none => .bad := id rfl
@[simp] theorem ev_isObj_1 (c : Nat) (m : Str) : isObj c m (some (.nd (.obj u1 c' ns) ds)) = (c' == c && !ns.contains m && ns.length == ds.length) := by first | exact id rfl | simp [isObj]
@[simp] theorem ev_makeK (c : Nat) (F : Fn) (r : List Opd × List D) : makeK c F r = match conts r.2 r.1 with
  | some ds => if lendOk r.1 [] && !ds.any isUna then (match F (.nd (.obj true c []) [] :: ds) with
    | .ok (.sc .non, o :: ds') => .ok (.val o, back r.2 r.1 ds')
    | .exc c fs (_ :: ds') => .exc c fs (back r.2 r.1 ds')
    | _ => .bad) else .bad
  | none => .bad := id rfl
@[simp] theorem ev_child (o : Opd) (j : Nat) (c : D) : child o j c = if Fz c then .ok (.val c) else match o with
  | .plc i p => .ok (.plc i (p ++ [j]))
  | .val _ => .bad := id rfl
@[simp] theorem ev_ixOf_1 (f : Str) : ixOf f ([]) = (none) := by first | exact id rfl | simp [ixOf]
@[simp] theorem ev_ixOf_2 (f : Str) : ixOf f (n :: ns) = (if f == n then some 0 else (ixOf f ns).map (· + 1)) := by first | exact id rfl | simp [ixOf]
@[simp] theorem ev_fldK (c : Nat) (f : Str) (r : Opd × List D) : fldK c f r = match cont r.2 r.1 with
  | some (.nd (.obj _ c' ns) ds) => if c' = c then (match ixOf f ns with
    | some j => match ds[j]? with
      | some d => (child r.1 j d).bind fun o => .ok (o, r.2)
      | none => .bad
    | none => .bad) else .bad
  | _ => .bad := id rfl
@[simp] theorem ev_Kd_seq_1 : Kd.seq  (.tup) = (true) := by first | exact id rfl | simp [Kd.seq]
@[simp] theorem ev_Kd_seq_2 : Kd.seq  (.lst u1) = (true) := by first | exact id rfl | simp [Kd.seq]
@[simp] theorem ev_ixK (r : List Opd × List D) : ixK r = match r.1 with
  | [o, q] => match cont r.2 o, cont r.2 q with
    | some (.nd k ds), some (.sc (.int i)) => if k.seq then (match ixN ds.length i with
      | some j => match ds[j]? with
        | some d => (child o j d).bind fun o => .ok (o, r.2)
        | none => .bad
      | none => .bad) else .bad
    | some (.kl xs), some (.sc (.int i)) => match atI xs i with
      | some n => .ok (.val (.sc (.int n)), r.2)
      | none => .bad
    | some (.sc (.str z)), some (.sc (.int i)) => if lenOk z.length then (match atI z.cps.toList i with
      | some c => .ok (.val (.sc (.str ⟨#[c]⟩)), r.2)
      | none => .bad) else .bad
    | _, _ => .bad
  | _ => .bad := by (try simp only [← len_if, ← len_if2, ← rg_if1, ← rg_if2]); exact id rfl
@[simp] theorem ev_truD_1 : truD  (.sc .non) = (some false) := by first | exact id rfl | simp [truD]
@[simp] theorem ev_truD_2 : truD  (.sc (.bl b)) = (some b) := by first | exact id rfl | simp [truD]
@[simp] theorem ev_truD_3 : truD  (.sc (.int i)) = (some (i != 0)) := by first | exact id rfl | simp [truD]
@[simp] theorem ev_truD_4 : truD  (.sc (.str z)) = (if lenOk z.length then some ((z.length : Int) != 0) else none) := by first | exact id rfl | ((try simp only [← len_if, ← len_if2]); exact id rfl) | (simp only [← len_dec]; exact id rfl) | simp [truD]
@[simp] theorem ev_truD_5 : truD  (.nd (.dik u1 ks) u2) = (some (!ks.isEmpty)) := by first | exact id rfl | simp [truD]
@[simp] theorem ev_setAll_1 : setAll  (E) ([]) ([]) = (some E) := by first | exact id rfl | simp [setAll]
@[simp] theorem ev_setAll_2 : setAll  (E) (i :: is) (d :: ds) = (if i < E.length then setAll (E.set i d) is ds else none) := by first | exact id rfl | simp [setAll]
@[simp] theorem ev_itK (r : Opd × List D) : itK r = match r.1 with
  | .val (.nd k ds) => if k.seq then .ok (fzs ds, r.2) else .bad
  | .val (.sc (.str z)) => .ok (z.cps.toList.map fun c => .sc (.str ⟨#[c]⟩), r.2)
  | _ => .bad := id rfl
@[simp] theorem ev_retArgs_1 (A : List Nat) : retArgs A (u1) ([]) (u2) = (some []) := by first | exact id rfl | simp [retArgs]
@[simp] theorem ev_retArgs_2 (A : List Nat) : retArgs A (i) (d :: ds) (e :: es) = (match retArgs A (i + 1) ds es with
    | some r => if A.contains i then (if Fz d then some (d :: r) else none) else some (e :: r)
    | none => none) := by first | exact id rfl | simp [retArgs]
@[simp] theorem ev_retArgs_3 (A : List Nat) : retArgs A (u1) (u2 :: u3) ([]) = (none) := by first | exact id rfl | simp [retArgs]
@[simp] theorem ev_fI2_1 (g : Int → Int → V) : fI2 g ([.sc (.int i), .sc (.int j)]) = (some (.sc (g i j))) := by first | exact id rfl | simp [fI2]
@[simp] theorem ev_fI2c_1 (C : Int → Int → Bool) (g : Int → Int → V) : fI2c C g ([.sc (.int i), .sc (.int j)]) = (if C i j then some (.sc (g i j)) else none) := by first | exact id rfl | simp [fI2c]
@[simp] theorem ev_fAdd_1 : fAdd  ([.sc (.int i), .sc (.int j)]) = (some (.sc (.int (i + j)))) := by first | exact id rfl | simp [fAdd]
@[simp] theorem ev_fAdd_2 : fAdd  ([.sc (.str x), .sc (.str y)]) = (if lenOk (x.length + y.length) then some (.sc (.str (x ++ y))) else none) := by first | exact id rfl | ((try simp only [← len_if, ← len_if2]); exact id rfl) | (simp only [← len_dec]; exact id rfl) | simp [fAdd]
@[simp] theorem ev_fAdd_3 : fAdd  ([.nd (.lst u1) xs, .nd (.lst u2) ys]) = (if Fzs xs && Fzs ys && lenOk (xs.length + ys.length) then some (.nd (.lst true) (xs ++ ys)) else none) := by first | exact id rfl | ((try simp only [← len_if, ← len_if2]); exact id rfl) | (simp only [← len_dec]; exact id rfl) | simp [fAdd]
@[simp] theorem ev_fAdd_4 : fAdd  ([.nd .tup xs, .nd .tup ys]) = (if Fzs xs && Fzs ys && lenOk (xs.length + ys.length) then some (.nd .tup (xs ++ ys)) else none) := by first | exact id rfl | ((try simp only [← len_if, ← len_if2]); exact id rfl) | (simp only [← len_dec]; exact id rfl) | simp [fAdd]
@[simp] theorem ev_fNeg_1 : fNeg  ([.sc (.int i)]) = (some (.sc (.int (-i)))) := by first | exact id rfl | simp [fNeg]
@[simp] theorem ev_fCmp_1 (g : Int → Int → Bool) (h : List Nat → List Nat → Bool) : fCmp g h ([.sc (.int i), .sc (.int j)]) = (some (.sc (.bl (g i j)))) := by first | exact id rfl | simp [fCmp]
@[simp] theorem ev_fCmp_2 (g : Int → Int → Bool) (h : List Nat → List Nat → Bool) : fCmp g h ([.sc (.str i), .sc (.str j)]) = (some (.sc (.bl (h i.cps.toList j.cps.toList)))) := by first | exact id rfl | simp [fCmp]
@[simp] theorem ev_isNonD_1 : isNonD  (.kl u1) = (some false) := by first | exact id rfl | simp [isNonD]
@[simp] theorem ev_isNonD_2 : isNonD  (.una) = (none) := by first | exact id rfl | simp [isNonD]
@[simp] theorem ev_isNonD_3 : isNonD  (.sc v) = (some (decide (v = .non))) := by first | exact id rfl | simp [isNonD]
@[simp] theorem ev_isNonD_4 : isNonD  (.nd u1 u2) = (some false) := by first | exact id rfl | simp [isNonD]
@[simp] theorem ev_fIsN_1 : fIsN  ([x, .sc .non]) = ((isNonD x).map fun b => .sc (.bl b)) := by first | exact id rfl | simp [fIsN]
@[simp] theorem ev_fNotN_1 : fNotN  ([x, .sc .non]) = ((isNonD x).map fun b => .sc (.bl (!b))) := by first | exact id rfl | simp [fNotN]
@[simp] theorem ev_flatD_1 : flatD  (.sc v) = (flatV v) := by first | exact id rfl | simp [flatD]
@[simp] theorem ev_inD_1 (x : V) : inD x ([]) = (false) := by first | exact id rfl | simp [inD]
@[simp] theorem ev_inD_2 (x : V) : inD x (.sc y :: ds) = (eqV y x || inD x ds) := by first | exact id rfl | simp [inD]
@[simp] theorem ev_fIn_1 (neg : Bool) : fIn neg ([.sc (.str x), .sc (.str z)]) = (match x.cps.toList with
    | [c] => some (.sc (.bl (if neg then !decide (c ∈ z.cps.toList) else decide (c ∈ z.cps.toList))))
    | _ => none) := by first | exact id rfl | simp [fIn]
@[simp] theorem ev_fIn_2 (neg : Bool) : fIn neg ([.sc x, .nd k ds]) = (if k.seq && flatV x && ds.all flatD then some (.sc (.bl (if neg then !inD x ds else inD x ds))) else none) := by first | exact id rfl | simp [fIn]
@[simp] theorem ev_fLen_1 : fLen  ([.sc (.str z)]) = (if lenOk z.length then some (.sc (.int (z.length : Nat))) else none) := by first | exact id rfl | ((try simp only [← len_if, ← len_if2]); exact id rfl) | (simp only [← len_dec]; exact id rfl) | simp [fLen]
@[simp] theorem ev_fLen_2 : fLen  ([.nd k ds]) = (if k.seq then some (.sc (.int (ds.length : Nat))) else none) := by first | exact id rfl | simp [fLen]
@[simp] theorem ev_fLen_3 : fLen  ([.kl xs]) = (some (.sc (.int (xs.length : Nat)))) := by first | exact id rfl | simp [fLen]
@[simp] theorem ev_fList_1 : fList  ([.nd k ds]) = (if k.seq && Fzs ds then some (.nd (.lst true) ds) else none) := by first | exact id rfl | simp [fList]
@[simp] theorem ev_fTup_1 : fTup  ([.nd k ds]) = (if k.seq && Fzs ds then some (.nd .tup ds) else none) := by first | exact id rfl | simp [fTup]
@[simp] theorem ev_intsD_1 : intsD  ([]) = (some []) := by first | exact id rfl | simp [intsD]
@[simp] theorem ev_intsD_2 : intsD  (.sc (.int i) :: ds) = ((intsD ds).map (i :: ·)) := by first | exact id rfl | simp [intsD]
@[simp] theorem ev_boolsD_1 : boolsD  ([]) = (some []) := by first | exact id rfl | simp [boolsD]
@[simp] theorem ev_boolsD_2 : boolsD  (.sc (.bl i) :: ds) = ((boolsD ds).map (i :: ·)) := by first | exact id rfl | simp [boolsD]
@[simp] theorem ev_Kd_isLst_1 : Kd.isLst  (.lst u1) = (true) := by first | exact id rfl | simp [Kd.isLst]
@[simp] theorem ev_fSum_1 : fSum  ([.nd k ds]) = (if k.isLst then (intsD ds).map fun ns => .sc (.int ns.sum) else none) := by first | exact id rfl | simp [fSum]
@[simp] theorem ev_fAll_1 : fAll  ([.nd k ds]) = (if k.isLst then (boolsD ds).map fun ns => .sc (.bl (ns.all id)) else none) := by first | exact id rfl | simp [fAll]
@[simp] theorem ev_fAny_1 : fAny  ([.nd k ds]) = (if k.isLst then (boolsD ds).map fun ns => .sc (.bl (ns.any id)) else none) := by first | exact id rfl | simp [fAny]
@[simp] theorem ev_fMax_1 : fMax  ([.sc (.int i), .sc (.int j)]) = (some (.sc (.int (if j > i then j else i)))) := by first | exact id rfl | simp [fMax]
@[simp] theorem ev_fMax_2 : fMax  ([.nd k ds]) = (if k.isLst && !ds.isEmpty then (intsD ds).map fun ns => .sc (.int (maxL ns)) else none) := by first | exact id rfl | simp [fMax]
@[simp] theorem ev_fMin_1 : fMin  ([.sc (.int i), .sc (.int j)]) = (some (.sc (.int (if j < i then j else i)))) := by first | exact id rfl | simp [fMin]
@[simp] theorem ev_fMin_2 : fMin  ([.nd k ds]) = (if k.isLst && !ds.isEmpty then (intsD ds).map fun ns => .sc (.int (minL ns)) else none) := by first | exact id rfl | simp [fMin]
@[simp] theorem ev_fInt_1 : fInt  ([.sc (.int i)]) = (some (.sc (.int i))) := by first | exact id rfl | simp [fInt]
@[simp] theorem ev_fInt_2 : fInt  ([.sc (.bl k)]) = (some (.sc (.int (if k then 1 else 0)))) := by first | exact id rfl | simp [fInt]
@[simp] theorem ev_fInt_3 : fInt  ([.sc (.str a)]) = (if a.length ≤ 640 then (PySem.intText? a).map fun n => .sc (.int n) else none) := by first | exact id rfl | simp [fInt]
@[simp] theorem ev_fStr_1 : fStr  ([.sc (.int i)]) = (if i.natAbs.log2 < 1920 then some (.sc (.str (toString i))) else none) := by first | exact id rfl | simp [fStr]
@[simp] theorem ev_tyD_1 : tyD  (.una) = (none) := by first | exact id rfl | simp [tyD]
@[simp] theorem ev_tyD_2 : tyD  (.kl u1) = (none) := by first | exact id rfl | simp [tyD]
@[simp] theorem ev_tyD_3 : tyD  (.sc v) = (match v with
    | .non => some "NoneType"
    | .bl _ => some "bool"
    | .int _ => some "int"
    | .str _ => some "str"
    | _ => none) := by first | exact id rfl | simp [tyD]
@[simp] theorem ev_tyD_4 : tyD  (.nd k u1) = (match k with
    | .tup => some "tuple"
    | .lst _ => some "list"
    | .dik _ _ => some "dict"
    | .dit _ _ => some "dict"
    | .obj _ _ _ => none
    | .dku _ => some "dict"
    | .dtu _ => none) := by first | exact id rfl | simp [tyD]
@[simp] theorem ev_isiD (n m : String) : isiD n m = if isiTy m then some (n == m || (n == "bool" && m == "int")) else none := id rfl
@[simp] theorem ev_fIsi_1 : fIsi  ([x, .sc (.ty m)]) = (match tyD x with
    | some n => (isiD n m).map fun b => .sc (.bl b)
    | none => none) := by first | exact id rfl | simp [fIsi]
@[simp] theorem ev_setIK (r : List Opd × List D) : setIK r = match r.1 with
  | [.val c, .plc i p, q] => match getP r.2 i p, cont r.2 q with
    | some (.nd (.lst true) ds), some (.sc (.int j)) => match ixN ds.length j with
      | some n => .nx (setP r.2 i p (.nd (.lst true) (ds.set n c)))
      | none => .bad
    | _, _ => .bad
  | _ => .bad := id rfl
@[simp] theorem ev_isTy_1 (T : String) : isTy T (some (.nd (.lst u1) u2)) = (T == "list") := by first | exact id rfl | simp [isTy]
@[simp] theorem ev_isTy_2 (T : String) : isTy T (some (.nd (.dik u1 u2) u3)) = (T == "dict") := by first | exact id rfl | simp [isTy]
@[simp] theorem ev_isTy_3 (T : String) : isTy T (some (.nd (.dit u1 u2) u3)) = (T == "dict") := by first | exact id rfl | simp [isTy]
@[simp] theorem ev_setFK (c : Nat) (f : Str) (r : List Opd × List D) : setFK c f r = match r.1 with
  | [.val x, .plc i p] => match getP r.2 i p with
    | some (.nd (.obj true c' ns) ds) => if c' = c ∧ ns.length < 500 then .nx (setP r.2 i p (.nd (.obj true c (putN f ns)) (putDs f x ns ds))) else .bad
    | _ => .bad
  | _ => .bad := id rfl
@[simp] theorem gx0 {α : Type} (a : α) (l : List α) : (a :: l)[0]? = some a := id rfl
@[simp] theorem gxs {α : Type} (a : α) (l : List α) (n : Nat) : (a :: l)[n + 1]? = l[n]? := id rfl
@[simp] theorem ev_fSumX_l (m : Bool) (ds : List D) : fSumX [.nd (.lst m) ds] = (intsD ds).map fun ns => .sc (.int ns.sum) := id rfl
@[simp] theorem ev_fSumX_t (ds : List D) : fSumX [.nd .tup ds] = (intsD ds).map fun ns => .sc (.int ns.sum) := id rfl
@[simp] theorem ev_fSl_l (m : Bool) (ds : List D) (lo hi : Option Int) : fSl (.nd (.lst m) ds) lo hi = if Fzs ds then some (.nd (.lst true) (cutD ds lo hi)) else none := id rfl
@[simp] theorem ev_fSl_t (ds : List D) (lo hi : Option Int) : fSl (.nd .tup ds) lo hi = if Fzs ds then some (.nd .tup (cutD ds lo hi)) else none := id rfl
@[simp] theorem ev_fMinL (m : Bool) (ds : List D) : fMin [.nd (.lst m) ds] = if ds.isEmpty then none else (intsD ds).map fun ns => .sc (.int (minL ns)) := by cases ds <;> rfl
@[simp] theorem ev_fMaxL (m : Bool) (ds : List D) : fMax [.nd (.lst m) ds] = if ds.isEmpty then none else (intsD ds).map fun ns => .sc (.int (maxL ns)) := by cases ds <;> rfl
open Classical in
noncomputable def insOk (n : Nat) (i : Int) : Bool := @decide (n < 100000 ∧ 0 ≤ i ∧ i ≤ 100000) (propDecidable _)
@[simp] theorem ev_mInsert (ds : List D) (i : Int) (c : D) : mInsert (.lst true) ds [.sc (.int i), c] = if insOk ds.length i then some (.sc .non, .lst true, ds.take i.toNat ++ [c] ++ ds.drop i.toNat) else none := by simp [mInsert, insOk]
@[simp] theorem ev_mAppend (ds : List D) (c : D) : mAppend (.lst true) ds [c] = if lenOk (ds.length + 1) then some (.sc .non, .lst true, ds ++ [c]) else none := by
  have : (lenOk (ds.length + 1) = true) ↔ ds.length < 100000 := by simp [lenOk]; omega
  simp [mAppend, this]
@[simp] theorem ev_mut_l (m : Bool) : Kd.mut (.lst m) = m := id rfl
@[simp] theorem ev_fRevL (m : Bool) (ds : List D) : fRevL [.nd (.lst m) ds] = if Fzs ds then some (.nd (.lst true) ds.reverse) else none := id rfl
@[simp] theorem ev_rName (i : Nat) (E : List D) : rName i E = match E[i]? with
  | some d => if isUna d then .bad else .ok (.plc i [], E)
  | none => .bad := by
  unfold rName
  cases E[i]? with
  | none => rfl
  | some d => cases d <;> rfl
@[simp] theorem ev_dMove (i : Nat) (E : List D) : dMove i E = match E[i]? with
  | some d => if isUna d then .bad else .ok (.val d, E.set i .una)
  | none => .bad := by
  unfold dMove
  cases E[i]? with
  | none => rfl
  | some d => cases d <;> rfl
@[simp] theorem ev_una_e : isUna .lent = false := id rfl
@[simp] theorem ev_dForB (i : Nat) (dg : DenG) (b : DenS) (E : List D) : dForB i dg b E = match E[i]? with
  | some (.nd (.lst true) ds) => if ds.all Fz then putB i (.nd (.lst true) ds) (loopD dg b ds (E.set i .lent)) else .bad
  | _ => .bad := id rfl
@[simp] theorem ev_putB_nx (i : Nat) (d : D) (E : List D) : putB i d (.nx E) = match E[i]? with
  | some .lent => .nx (E.set i d)
  | _ => .bad := id rfl
@[simp] theorem ev_putB_rt (i : Nat) (d c : D) (E : List D) : putB i d (.rt c E) = .rt c E := id rfl
@[simp] theorem ev_putB_ex (i : Nat) (d : D) (c : Nat) (fs : List (Str × V)) (E : List D) : putB i d (.exc c fs E) = .exc c fs E := id rfl
@[simp] theorem ev_una_u : isUna .una = true := id rfl
@[simp] theorem ev_una_s (v : V) : isUna (.sc v) = false := id rfl
@[simp] theorem ev_una_n (k : Kd) (ds : List D) : isUna (.nd k ds) = false := id rfl
@[simp] theorem ev_una_k (xs : List Int) : isUna (.kl xs) = false := id rfl
@[simp] theorem isiTy_int : isiTy "int" = true := by decide
@[simp] theorem isiTy_bool : isiTy "bool" = true := by decide
@[simp] theorem isiTy_str : isiTy "str" = true := by decide
@[simp] theorem isiTy_tuple : isiTy "tuple" = true := by decide
@[simp] theorem isiTy_list : isiTy "list" = true := by decide
@[simp] theorem isiTy_dict : isiTy "dict" = true := by decide
@[simp] theorem ev_noX_ok {α : Type} (a : α) : noX (R.ok a) = R.ok a := id rfl
@[simp] theorem ev_stab_t (o : Opd) : stab true o = true := by cases o with | val d => rfl | plc i p => cases p <;> rfl
@[simp] theorem ev_stab_3 (pu : Bool) : stab pu (.plc i (j :: p)) = pu := id rfl
@[simp] theorem ev_back_3 : back E [] ds = E := by unfold back; rfl
@[simp] theorem ev_truD_6 : truD (.nd .tup ds) = some (!ds.isEmpty) := id rfl
@[simp] theorem ev_truD_7 : truD (.nd (.lst m) ds) = some (!ds.isEmpty) := id rfl
@[simp] theorem ev_mutK (M : MutF) (r : Opd × (List Opd × List D)) : mutK M r = match r.1 with
  | .plc i p => match getP r.2.2 i p, opVals r.2.1 with
    | some (.nd k ds), some as => if k.mut then (match M k ds as with
      | some (res, k', ds') => .ok (.val res, setP r.2.2 i p (.nd k' ds'))
      | none => .bad) else .bad
    | _, _ => .bad
  | .val _ => .bad := id rfl
@[simp] theorem ev_fSub (i j : Int) : fSub [.sc (.int i), .sc (.int j)] = some (.sc (.int (i - j))) := id rfl
open Classical in
noncomputable def repOk (l : Nat) (n : Int) : Bool := @decide (-1000000 ≤ n ∧ n ≤ 1000000 ∧ l * n.toNat ≤ 100000) (propDecidable _)
theorem repOk_s {n : Int} (h1 : -1000000 ≤ n) (h2 : n ≤ 100000) : repOk 1 n = true := by unfold repOk; exact @decide_eq_true _ (_) ⟨h1, by omega, by omega⟩
@[simp] theorem ev_fMul_2 (m : Bool) (xs : List D) (n : Int) : fMul [.nd (.lst m) xs, .sc (.int n)] = if Fzs xs && repOk xs.length n then some (.nd (.lst true) (List.replicate n.toNat xs).flatten) else none := by simp [fMul, repOk]
theorem log_b {i : Int} {k : Nat} (h1 : -(2 : Int) ^ k < i) (h2 : i < 2 ^ k) : i.natAbs.log2 ≤ k := by
  by_cases z : i.natAbs = 0
  · rw [z]; simp
  · have : i.natAbs.log2 < k := by
      rw [Nat.log2_lt z]
      have e : ((2 ^ k : Nat) : Int) = (2 : Int) ^ k := by simp
      rw [← e] at h1 h2
      omega
    omega
open Classical in
noncomputable def mulOk (i j : Int) : Bool := @decide (i.natAbs.log2 + j.natAbs.log2 < 1000000) (propDecidable _)
open Classical in
noncomputable def divOk (j : Int) : Bool := @decide (j.natAbs.log2 < 9000) (propDecidable _)
theorem mulOk_s {i j : Int} (h1 : -114813069527425452423283320117768198402231770208869520047764273682576626139237031385665948631650626991844596463898746277344711896086305533142593135616665318539129989145312280000688779148240044871428926990063486244781615463646388363947317026040466353970904996558162398808944629605623311649536164221970332681344168908984458505602379484807914058900934776500429002716706625830522008132236281291761267883317206598995396418127021779858404042159853183251540889433902091920554957783589672039160081957216630582755380425583726015528348786419432054508915275783882625175435528800822842770817965453762184851149029376 < i) (h2 : i < 114813069527425452423283320117768198402231770208869520047764273682576626139237031385665948631650626991844596463898746277344711896086305533142593135616665318539129989145312280000688779148240044871428926990063486244781615463646388363947317026040466353970904996558162398808944629605623311649536164221970332681344168908984458505602379484807914058900934776500429002716706625830522008132236281291761267883317206598995396418127021779858404042159853183251540889433902091920554957783589672039160081957216630582755380425583726015528348786419432054508915275783882625175435528800822842770817965453762184851149029376) (h3 : -114813069527425452423283320117768198402231770208869520047764273682576626139237031385665948631650626991844596463898746277344711896086305533142593135616665318539129989145312280000688779148240044871428926990063486244781615463646388363947317026040466353970904996558162398808944629605623311649536164221970332681344168908984458505602379484807914058900934776500429002716706625830522008132236281291761267883317206598995396418127021779858404042159853183251540889433902091920554957783589672039160081957216630582755380425583726015528348786419432054508915275783882625175435528800822842770817965453762184851149029376 < j) (h4 : j < 114813069527425452423283320117768198402231770208869520047764273682576626139237031385665948631650626991844596463898746277344711896086305533142593135616665318539129989145312280000688779148240044871428926990063486244781615463646388363947317026040466353970904996558162398808944629605623311649536164221970332681344168908984458505602379484807914058900934776500429002716706625830522008132236281291761267883317206598995396418127021779858404042159853183251540889433902091920554957783589672039160081957216630582755380425583726015528348786419432054508915275783882625175435528800822842770817965453762184851149029376) : mulOk i j = true := by
  have e : (114813069527425452423283320117768198402231770208869520047764273682576626139237031385665948631650626991844596463898746277344711896086305533142593135616665318539129989145312280000688779148240044871428926990063486244781615463646388363947317026040466353970904996558162398808944629605623311649536164221970332681344168908984458505602379484807914058900934776500429002716706625830522008132236281291761267883317206598995396418127021779858404042159853183251540889433902091920554957783589672039160081957216630582755380425583726015528348786419432054508915275783882625175435528800822842770817965453762184851149029376 : Int) = 2 ^ 2000 := by decide +kernel
  rw [e] at h1 h2 h3 h4
  have a := log_b h1 h2
  have b := log_b h3 h4
  unfold mulOk
  exact @decide_eq_true _ (_) (by omega)
theorem divOk_s {j : Int} (h1 : -114813069527425452423283320117768198402231770208869520047764273682576626139237031385665948631650626991844596463898746277344711896086305533142593135616665318539129989145312280000688779148240044871428926990063486244781615463646388363947317026040466353970904996558162398808944629605623311649536164221970332681344168908984458505602379484807914058900934776500429002716706625830522008132236281291761267883317206598995396418127021779858404042159853183251540889433902091920554957783589672039160081957216630582755380425583726015528348786419432054508915275783882625175435528800822842770817965453762184851149029376 < j) (h2 : j < 114813069527425452423283320117768198402231770208869520047764273682576626139237031385665948631650626991844596463898746277344711896086305533142593135616665318539129989145312280000688779148240044871428926990063486244781615463646388363947317026040466353970904996558162398808944629605623311649536164221970332681344168908984458505602379484807914058900934776500429002716706625830522008132236281291761267883317206598995396418127021779858404042159853183251540889433902091920554957783589672039160081957216630582755380425583726015528348786419432054508915275783882625175435528800822842770817965453762184851149029376) : divOk j = true := by
  have e : (114813069527425452423283320117768198402231770208869520047764273682576626139237031385665948631650626991844596463898746277344711896086305533142593135616665318539129989145312280000688779148240044871428926990063486244781615463646388363947317026040466353970904996558162398808944629605623311649536164221970332681344168908984458505602379484807914058900934776500429002716706625830522008132236281291761267883317206598995396418127021779858404042159853183251540889433902091920554957783589672039160081957216630582755380425583726015528348786419432054508915275783882625175435528800822842770817965453762184851149029376 : Int) = 2 ^ 2000 := by decide +kernel
  rw [e] at h1 h2
  have a := log_b h1 h2
  unfold divOk
  exact @decide_eq_true _ (_) (by omega)
@[simp] theorem ev_fMul (i j : Int) : fMul [.sc (.int i), .sc (.int j)] = if mulOk i j then some (.sc (.int (i * j))) else none := by simp [fMul, mulOk]
@[simp] theorem ev_fDivmod (i j : Int) : fDivmod [.sc (.int i), .sc (.int j)] = if 0 < j ∧ divOk j then some (.nd .tup [.sc (.int (i / j)), .sc (.int (i % j))]) else none := by simp [fDivmod, divOk]
@[simp] theorem ev_fDiv (i j : Int) : fDiv [.sc (.int i), .sc (.int j)] = if 0 < j ∧ divOk j then some (.sc (.int (i / j))) else none := by simp [fDiv, divOk]
@[simp] theorem ev_fMod (i j : Int) : fMod [.sc (.int i), .sc (.int j)] = if 0 < j then some (.sc (.int (i % j))) else none := by simp [fMod]
@[simp] theorem ev_dNever : dNever E = .bad := id rfl
@[simp] theorem ev_dR1 (das : DenA) : dR1 das E = (das E).bind fun r => match conts r.2 r.1 with
  | some [.sc (.int j)] => if rg1Ok j then .ok (rngD 0 j.toNat, r.2) else .bad
  | _ => .bad := by (try simp only [← len_if, ← len_if2, ← rg_if1, ← rg_if2]); exact id rfl
@[simp] theorem ev_dR2 (das : DenA) : dR2 das E = (das E).bind fun r => match conts r.2 r.1 with
  | some [.sc (.int i), .sc (.int j)] => if rgOk i j then .ok (rngD i (j - i).toNat, r.2) else .bad
  | _ => .bad := by (try simp only [← len_if, ← len_if2, ← rg_if1, ← rg_if2]); exact id rfl
@[simp] theorem ev_seq_l : Kd.seq (.lst m) = true := id rfl
@[simp] theorem ev_seq_t : Kd.seq .tup = true := id rfl
@[simp] theorem ev_wp_n : wp [] = [] := id rfl
@[simp] theorem ev_wp_c (i : Nat) (is : List Nat) : wp (i :: is) = .plc i [] :: wp is := id rfl
@[simp] theorem ev_nsub (a b : Nat) : (Int.ofNat a - Int.ofNat b) = (a : Int) - b := id rfl
@[simp] theorem ev_ixN (n : Nat) (k : Int) : ixN n k = if 0 ≤ k then (if k < n then some k.toNat else none) else if -(n : Int) ≤ k then some (k + n).toNat else none := id rfl
/-- a def's run, from its body's -/
theorem fn_rt {N : Nat} {A : List Nat} {b : DenS} {ds E r : List D} {d : D} (h : b (ds ++ List.replicate (N - ds.length) .una) = .rt d E) (k : retArgs A 0 ds E = some r) : fnD N A b ds = .ok (d, r) := by
  unfold fnD; rw [h]; dsimp only; rw [k]
theorem fn_nx {N : Nat} {A : List Nat} {b : DenS} {ds E r : List D} (h : b (ds ++ List.replicate (N - ds.length) .una) = .nx E) (k : retArgs A 0 ds E = some r) : fnD N A b ds = .ok (.sc .non, r) := by
  unfold fnD; rw [h]; dsimp only; rw [k]
theorem fn_exc {N : Nat} {A : List Nat} {b : DenS} {ds E r : List D} {c : Nat} {fs : List (Str × V)} (h : b (ds ++ List.replicate (N - ds.length) .una) = .exc c fs E) (k : retArgs A 0 ds E = some r) : fnD N A b ds = .exc c fs r := by
  unfold fnD; rw [h]; dsimp only; rw [k]
theorem fp_rt {n N : Nat} {A : List Nat} {b : DenS} {ds E r : List D} {d : D} (hl : ds.length = n) (h : b (ds ++ List.replicate (N - n) .una) = .rt d E) (k : retArgs A 0 ds E = some r) : fnP n N A b ds = .ok (d, r) := by
  unfold fnP; rw [if_pos hl]; subst hl; exact fn_rt h k
theorem fp_nx {n N : Nat} {A : List Nat} {b : DenS} {ds E r : List D} (hl : ds.length = n) (h : b (ds ++ List.replicate (N - n) .una) = .nx E) (k : retArgs A 0 ds E = some r) : fnP n N A b ds = .ok (.sc .non, r) := by
  unfold fnP; rw [if_pos hl]; subst hl; exact fn_nx h k
theorem fp_exc {n N : Nat} {A : List Nat} {b : DenS} {ds E r : List D} {c : Nat} {fs : List (Str × V)} (hl : ds.length = n) (h : b (ds ++ List.replicate (N - n) .una) = .exc c fs E) (k : retArgs A 0 ds E = some r) : fnP n N A b ds = .exc c fs r := by
  unfold fnP; rw [if_pos hl]; subst hl; exact fn_exc h k
end DL
end
section
set_option maxRecDepth 100000
namespace DL
open PySem L2
theorem seq_nx {a b : DenS} {E E' : List D} (h : a E = .nx E') : dSeq a b E = b E' := by rw [ev_dSeq, h]; rfl
theorem seq_rt {a b : DenS} {E E' : List D} {d : D} (h : a E = .rt d E') : dSeq a b E = .rt d E' := by rw [ev_dSeq, h]; rfl
theorem f_rt {n N : Nat} {A : List Nat} {b : DenS} {ds E r : List D} {d : D} (h : b (ds ++ List.replicate (N - n) .una) = .rt d E) (hl : ds.length = n := by rfl) (k : retArgs A 0 ds E = some r := by simp) : opq (fnP n N A b) ds = .ok (d, r) := by rw [opq_eq]; exact fp_rt hl h k
theorem loop_gen {dg : DenG} {b : DenS} {Out : S → Prop} : ∀ {ds : List D} {Jv : Nat → List D → Prop} {E : List D}, Jv 0 E →
    (∀ j d E, ds[j]? = some d → Jv j E → ∃ E1, dg d E = some E1 ∧ ((∃ E2, (b E1 = .nx E2 ∨ b E1 = .ct E2) ∧ Jv (j + 1) E2) ∨ (∃ E2, b E1 = .bk E2 ∧ Out (.nx E2)) ∨ ∃ c E2, b E1 = .rt c E2 ∧ Out (.rt c E2))) →
    (∀ E, Jv ds.length E → Out (.nx E)) → Out (loopD dg b ds E)
  | [], Jv, E, h0, st, fin => fin E h0
  | d :: ds, Jv, E, h0, st, fin => by
    obtain ⟨E1, e1, h⟩ := st 0 d E rfl h0
    unfold loopD
    rw [e1]
    dsimp only
    rcases h with ⟨E2, h | h, hi⟩ | ⟨E2, h, ho⟩ | ⟨c, E2, h, ho⟩
    · rw [h]; exact loop_gen (Jv := fun j => Jv (j + 1)) hi (fun j d E ed hi => st (j + 1) d E ed hi) fun E hE => fin E hE
    · rw [h]; exact loop_gen (Jv := fun j => Jv (j + 1)) hi (fun j d E ed hi => st (j + 1) d E ed hi) fun E hE => fin E hE
    · rw [h]; exact ho
    · rw [h]; exact ho
/-- a loop that runs through -/
theorem loop_all {dg : DenG} {b : DenS} {ds : List D} {Jv : Nat → List D → Prop} {E : List D} (h0 : Jv 0 E) (st : ∀ j d E, ds[j]? = some d → Jv j E → ∃ E1 E2, dg d E = some E1 ∧ (b E1 = .nx E2 ∨ b E1 = .ct E2) ∧ Jv (j + 1) E2) :
    ∃ E', loopD dg b ds E = .nx E' ∧ Jv ds.length E' :=
  loop_gen (Out := fun s => ∃ E', s = .nx E' ∧ Jv ds.length E') h0 (fun j d E ed hi => by obtain ⟨E1, E2, e1, h, k⟩ := st j d E ed hi; exact ⟨E1, e1, .inl ⟨E2, h, k⟩⟩) fun E hE => ⟨E, rfl, hE⟩
theorem rng_len (lo : Int) (n : Nat) : (rngD lo n).length = n := by simp [rngD]
theorem rng_at {lo : Int} {n j : Nat} {d : D} (h : (rngD lo n)[j]? = some d) : j < n ∧ d = .sc (.int (lo + (j : Int))) := by
  unfold rngD at h
  rw [List.getElem?_map] at h
  by_cases hj : j < n
  · rw [List.getElem?_range hj] at h
    simp at h
    exact ⟨hj, h.symm⟩
  · rw [List.getElem?_eq_none (by simp; omega)] at h
    cases h
/-- over a range -/
theorem loop_rng {i : Nat} {b : DenS} {lo : Int} {n : Nat} {Jv : Nat → List D → Prop} {E : List D} (h0 : Jv 0 E) (st : ∀ j E, j < n → Jv j E → i < E.length ∧ ∃ E2, (b (E.set i (.sc (.int (lo + (j : Int))))) = .nx E2 ∨ b (E.set i (.sc (.int (lo + (j : Int))))) = .ct E2) ∧ Jv (j + 1) E2) :
    ∃ E', loopD (dgName i) b (rngD lo n) E = .nx E' ∧ Jv n E' := by
  have := loop_all (dg := dgName i) (b := b) (ds := rngD lo n) (Jv := Jv) h0 fun j d E ed hi => by
    obtain ⟨hj, rfl⟩ := rng_at ed
    obtain ⟨hl, E2, h, k⟩ := st j E hj hi
    exact ⟨_, E2, by simp [hl], h, k⟩
  rw [rng_len] at this
  exact this
theorem beq_dec {α : Type} [DecidableEq α] (a b : α) : (a == b) = decide (a = b) := rfl
@[simp] theorem fEq_int (a b : Int) : fEq [.sc (.int a), .sc (.int b)] = some (.sc (.bl (decide (a = b)))) := by
  simp only [fEq, lay, toP, PyData.eqv, Bool.and_self, if_true, beq_dec]
@[simp] theorem fNe_int (a b : Int) : fNe [.sc (.int a), .sc (.int b)] = some (.sc (.bl (!decide (a = b)))) := by
  simp only [fNe, lay, toP, PyData.eqv, Bool.and_self, if_true, beq_dec]
@[simp] theorem atI_nat' {α : Type} (xs : List α) (k : Nat) : atI xs (k : Int) = xs[k]? := by
  unfold atI ixN
  by_cases h : k < xs.length
  · simp [h]
  · simp [h]
def sI (i : Int) : D := .sc (.int i)
def li (l : List Int) : List D := l.map fun i => .sc (.int i)
@[simp] theorem li_len (l : List Int) : (li l).length = l.length := by simp [li]
@[simp] theorem li_nil : li [] = [] := rfl
theorem li_cons (i : Int) (l : List Int) : li (i :: l) = .sc (.int i) :: li l := rfl
@[simp] theorem li_fz : ∀ l : List Int, Fzs (li l) = true
  | [] => rfl
  | i :: l => by show (true && Fzs (li l)) = true; rw [li_fz l]; rfl
@[simp] theorem li_fzs : ∀ l : List Int, fzs (li l) = li l
  | [] => rfl
  | i :: l => by show .sc (.int i) :: fzs (li l) = _; rw [li_fzs l]; rfl
@[simp] theorem li_ints : ∀ l : List Int, intsD (li l) = some l
  | [] => rfl
  | i :: l => by rw [li_cons]; unfold intsD; rw [li_ints l]; rfl
theorem li_at (l : List Int) (j : Nat) : (li l)[j]? = (l[j]?).map fun i => .sc (.int i) := by simp [li]
@[simp] theorem li_at' (l : List Int) (j : Nat) (h : j < l.length) : (li l)[j]? = some (.sc (.int l[j])) := by rw [li_at, List.getElem?_eq_getElem h]; rfl
/-- as comp_map, over what is made of other things -/
theorem comp_mapG {α : Type} {dg : DenG} {dt : DenT} {de : Den} {ws : List Nat} {B : List D} (g f : α → D) : ∀ {xs : List α} {acc : List D}, acc.length + xs.length ≤ 100000 → (∀ x ∈ xs, ∃ B1 B2 B3, dg (g x) B = some B1 ∧ dt B1 = .ok (true, B2) ∧ de B2 = .ok (.val (f x), B3) ∧ holes B3 (wp ws) = B) →
    compL dg dt de ws (xs.map g) B acc = .ok (acc ++ xs.map f, B)
  | [], acc, hl, h => by simp [compL]
  | d :: ds, acc, hl, h => by
    obtain ⟨B1, B2, B3, e1, e2, e3, e4⟩ := h d List.mem_cons_self
    rw [List.map_cons]
    unfold compL
    have : acc.length < 100000 := by simp at hl; omega
    simp only [e1, e2, e3, e4, this, noX, R.bind, if_true]
    rw [comp_mapG g f (by simp at hl ⊢; omega) fun x hx => h x (List.mem_cons_of_mem _ hx)]
    simp
theorem comp_filterG {α : Type} {dg : DenG} {dt : DenT} {de : Den} {ws : List Nat} {B : List D} (g f : α → D) (c : α → Bool) : ∀ {xs : List α} {acc : List D}, acc.length + xs.length ≤ 100000 →
    (∀ x ∈ xs, ∃ B1 B2, dg (g x) B = some B1 ∧ dt B1 = .ok (c x, B2) ∧ (c x = true → ∃ B3, de B2 = .ok (.val (f x), B3) ∧ holes B3 (wp ws) = B) ∧ (c x = false → holes B2 (wp ws) = B)) →
    compL dg dt de ws (xs.map g) B acc = .ok (acc ++ (xs.filter c).map f, B)
  | [], acc, hl, h => by simp [compL]
  | d :: ds, acc, hl, h => by
    obtain ⟨B1, B2, e1, e2, h1, h2⟩ := h d List.mem_cons_self
    rw [List.map_cons]
    unfold compL
    have hl2 : acc.length < 100000 := by simp at hl; omega
    cases eg : c d with
    | true =>
      obtain ⟨B3, e3, e4⟩ := h1 eg
      rw [eg] at e2
      simp only [e1, e2, e3, e4, hl2, noX, R.bind, if_true]
      rw [comp_filterG g f c (by simp at hl ⊢; omega) fun x hx => h x (List.mem_cons_of_mem _ hx)]
      simp [eg]
    | false =>
      rw [eg] at e2
      simp only [e1, e2, noX, R.bind, if_false, Bool.false_eq_true]
      rw [h2 eg, comp_filterG g f c (by simp at hl ⊢; omega) fun x hx => h x (List.mem_cons_of_mem _ hx)]
      simp [eg]
@[simp] theorem li_tail (l : List Int) : (li l).tail = li l.tail := by cases l <;> rfl
abbrev bx (n : Int) : D := .nd (.lst true) [.sc (.int n)]
end DL
end
section
set_option maxRecDepth 100000
namespace DL
open PySem L2
/-- an item: a key and a tag -/
abbrev It2 := Int × Str
def itm (p : It2) : D := .nd .tup [.sc (.int p.1), .sc (.str p.2)]
def its (l : List It2) : List D := l.map itm
@[simp] theorem its_len (l : List It2) : (its l).length = l.length := by simp [its]
@[simp] theorem its_nil : its [] = [] := rfl
@[simp] theorem itm_fz (p : It2) : Fz (itm p) = true := rfl
@[simp] theorem itm_fzz (p : It2) : fz (itm p) = itm p := rfl
@[simp] theorem itm_una (p : It2) : isUna (itm p) = false := rfl
@[simp] theorem its_fz : ∀ l : List It2, Fzs (its l) = true
  | [] => rfl
  | i :: l => by show (true && Fzs (its l)) = true; rw [its_fz l]; rfl
@[simp] theorem its_fzs : ∀ l : List It2, fzs (its l) = its l
  | [] => rfl
  | i :: l => by show itm i :: fzs (its l) = _; rw [its_fzs l]; rfl
@[simp] theorem its_tail (l : List It2) : (its l).tail = its l.tail := by cases l <;> rfl
@[simp] theorem its_rev (l : List It2) : (its l).reverse = its l.reverse := by simp [its]
/-- the order of items -/
def ltI (a b : It2) : Bool := decide (a.1 < b.1) || (decide (a.1 = b.1) && decide (a.2.cps.toList < b.2.cps.toList))
def tagOk (p : It2) : Bool := PyData.strOk p.2
end DL
end
section
set_option maxRecDepth 100000
namespace DL
open PySem L2
@[simp] theorem ev_killL_0 (E : List D) : killL [] E = E := id rfl
@[simp] theorem ev_killL_1 (w : Nat) (ws : List Nat) (E : List D) : killL (w :: ws) E = killL ws (E.set w .una) := id rfl
@[simp] theorem ev_dKill (ws : List Nat) (b : DenS) (E : List D) : dKill ws b E = (b E).kill ws := id rfl
@[simp] theorem ev_skill_nx (ws : List Nat) (E : List D) : (S.nx E).kill ws = .nx (killL ws E) := id rfl
@[simp] theorem ev_skill_rt (ws : List Nat) (d : D) (E : List D) : (S.rt d E).kill ws = .rt d E := id rfl
@[simp] theorem ev_skill_bk (ws : List Nat) (E : List D) : (S.bk E).kill ws = .bk E := id rfl
@[simp] theorem ev_skill_ct (ws : List Nat) (E : List D) : (S.ct E).kill ws = .ct E := id rfl
@[simp] theorem ev_skill_exc (ws : List Nat) (c : Nat) (fs : List (Str × V)) (E : List D) : (S.exc c fs E).kill ws = .exc c fs E := id rfl
@[simp] theorem ev_skill_bad (ws : List Nat) : S.bad.kill ws = .bad := id rfl
@[simp] theorem ev_dBrkK (ws : List Nat) (E : List D) : dBrkK ws E = .bk (killL ws E) := id rfl
@[simp] theorem ev_dCntK (ws : List Nat) (E : List D) : dCntK ws E = .ct (killL ws E) := id rfl
@[simp] theorem ev_ite_toS {α : Type} (c : Prop) [Decidable c] (a b : R α) (k : α → S) : (if c then a else b).toS k = if c then a.toS k else b.toS k := by split <;> rfl
@[simp] theorem ev_ite_bind {α β : Type} (c : Prop) [Decidable c] (a b : R α) (k : α → R β) : (if c then a else b).bind k = if c then a.bind k else b.bind k := by split <;> rfl
@[simp] theorem ev_ite_sbind (c : Prop) [Decidable c] (a b : S) (k : List D → S) : (if c then a else b).bind k = if c then a.bind k else b.bind k := by split <;> rfl
@[simp] theorem ev_ite_kill (c : Prop) [Decidable c] (a b : S) (ws : List Nat) : (if c then a else b).kill ws = if c then a.kill ws else b.kill ws := by split <;> rfl
@[simp high] theorem ixN_in {n : Nat} {i : Int} (h0 : 0 ≤ i) (h1 : i < n) : ixN n i = some i.toNat := by rw [ev_ixN, if_pos h0, if_pos h1]
@[simp high] theorem ixN_back {n : Nat} {i : Int} (h0 : i < 0) (h1 : -(n : Int) ≤ i) : ixN n i = some (i + n).toNat := by rw [ev_ixN, if_neg (by omega), if_pos h1]
theorem seq_go {a b : DenS} {E E' : List D} {s : S} (h : a E = .nx E') (k : b E' = s) : dSeq a b E = s := by rw [ev_dSeq, h]; exact k
def RtP (A : List Nat) (ds : List D) (d : D) (r : List D) (s : S) : Prop := ∃ E, (s = .rt d E ∨ (s = .nx E ∧ d = .sc .non)) ∧ retArgs A 0 ds E = some r
theorem rtp_go {a b : DenS} {E E' ds r : List D} {A : List Nat} {d : D} (h : a E = .nx E') (k : RtP A ds d r (b E')) : RtP A ds d r (dSeq a b E) := by
  obtain ⟨E2, e, q⟩ := k
  refine ⟨E2, ?_, q⟩
  rw [seq_nx h]; exact e
theorem rtp_out {a b : DenS} {E E' ds r : List D} {A : List Nat} {d d' : D} (h : a E = .rt d' E') (hd : d' = d) (k : retArgs A 0 ds E' = some r) : RtP A ds d r (dSeq a b E) := ⟨E', .inl (seq_rt (hd ▸ h)), k⟩
theorem rtp_ret {s : S} {E ds r : List D} {A : List Nat} {d d' : D} (h : s = .rt d' E) (hd : d' = d) (k : retArgs A 0 ds E = some r) : RtP A ds d r s := ⟨E, .inl (hd ▸ h), k⟩
theorem rtp_end {s : S} {E ds r : List D} {A : List Nat} {d : D} (h : s = .nx E) (hd : d = .sc .non) (k : retArgs A 0 ds E = some r) : RtP A ds d r s := ⟨E, .inr ⟨h, hd⟩, k⟩
theorem f_of {n N : Nat} {A : List Nat} {b : DenS} {ds r : List D} {d : D} (h : RtP A ds d r (b (ds ++ List.replicate (N - n) .una))) (hl : ds.length = n := by rfl) : opq (fnP n N A b) ds = .ok (d, r) := by
  obtain ⟨E, h, k⟩ := h
  rcases h with h | ⟨h, rfl⟩
  · exact f_rt h hl k
  · rw [opq_eq]; exact fp_nx hl h k
class FzF {α : Type} (f : α → D) : Prop where
  fz : ∀ x, Fz (f x) = true
def em {α : Type} (f : α → D) (l : List α) : List D := l.map f
section
variable {α : Type} (f : α → D)
@[simp] theorem em_nil : em f [] = [] := rfl
theorem em_cons (a : α) (l : List α) : em f (a :: l) = f a :: em f l := rfl
@[simp] theorem em_len (l : List α) : (em f l).length = l.length := by simp [em]
@[simp] theorem em_at (l : List α) (j : Nat) : (em f l)[j]? = (l[j]?).map f := by simp [em]
theorem em_at' (l : List α) (j : Nat) (h : j < l.length) : (em f l)[j]? = some (f l[j]) := by rw [em_at, List.getElem?_eq_getElem h]; rfl
@[simp] theorem em_app (l m : List α) : em f l ++ em f m = em f (l ++ m) := by simp [em]
@[simp] theorem em_snoc (l : List α) (a : α) : em f l ++ [f a] = em f (l ++ [a]) := by simp [em]
@[simp] theorem em_tail (l : List α) : (em f l).tail = em f l.tail := by cases l <;> rfl
@[simp] theorem em_dropLast (l : List α) : (em f l).dropLast = em f l.dropLast := by simp [em]
@[simp] theorem em_drop (l : List α) (k : Nat) : (em f l).drop k = em f (l.drop k) := by simp [em, List.map_drop]
@[simp] theorem em_take (l : List α) (k : Nat) : (em f l).take k = em f (l.take k) := by simp [em, List.map_take]
@[simp] theorem em_rev (l : List α) : (em f l).reverse = em f l.reverse := by simp [em]
@[simp] theorem em_set (l : List α) (k : Nat) (a : α) : (em f l).set k (f a) = em f (l.set k a) := by simp [em, List.map_set]
@[simp] theorem em_isEmpty (l : List α) : (em f l).isEmpty = l.isEmpty := by cases l <;> rfl
theorem em_rep (n : Nat) (a : α) : List.replicate n (f a) = em f (List.replicate n a) := by simp [em]
@[simp] theorem em_Fzs [h : FzF f] (l : List α) : Fzs (em f l) = true := by
  rw [Fzs_all]; simp [em, h.fz]
@[simp] theorem em_fzs [h : FzF f] (l : List α) : fzs (em f l) = em f l := fzs_of (em_Fzs f l)
@[simp] theorem em_all [h : FzF f] (l : List α) : (em f l).all Fz = true := by simp [em, h.fz]
end
abbrev eI : Int → D := fun i => .sc (.int i)
abbrev eN : Nat → D := fun i => .sc (.int (i : Int))
abbrev eB : Bool → D := fun i => .sc (.bl i)
abbrev eS : Str → D := fun i => .sc (.str i)
instance : FzF eI := ⟨fun _ => rfl⟩
instance : FzF eN := ⟨fun _ => rfl⟩
instance : FzF eB := ⟨fun _ => rfl⟩
instance : FzF eS := ⟨fun _ => rfl⟩
instance : FzF itm := ⟨fun _ => rfl⟩
theorem rng_em (n : Nat) : rngD 0 n = em eN (List.range n) := by simp [rngD, em]
/-- with an invariant that knows what is behind -/
theorem loop_inv {α : Type} {f : α → D} {dg : DenG} {b : DenS} {xs : List α} {Jv : List α → List D → Prop} {E : List D} (h0 : Jv [] E) (st : ∀ pre x post E, xs = pre ++ x :: post → Jv pre E → ∃ E1 E2, dg (f x) E = some E1 ∧ (b E1 = .nx E2 ∨ b E1 = .ct E2) ∧ Jv (pre ++ [x]) E2) :
    ∃ E', loopD dg b (em f xs) E = .nx E' ∧ Jv xs E' := by
  obtain ⟨E', e, j⟩ := loop_all (dg := dg) (b := b) (ds := em f xs) (Jv := fun j E => Jv (xs.take j) E) (E := E) (by simpa using h0) fun j d E ed hi => by
    have hj : j < xs.length := by have := (List.getElem?_eq_some_iff.mp ed).1; simpa using this
    rw [em_at' f xs j hj] at ed
    cases ed
    obtain ⟨E1, E2, e1, h, k⟩ := st (xs.take j) xs[j] (xs.drop (j + 1)) E (by rw [List.getElem_cons_drop, List.take_append_drop]) hi
    refine ⟨E1, E2, e1, h, ?_⟩
    rw [List.take_succ, List.getElem?_eq_getElem hj]
    exact k
  refine ⟨E', e, ?_⟩
  rw [em_len] at j
  simpa using j
def S.lk (s : S) (k : List D → S) : S := match s with
  | .nx E' => k E'
  | .ct E' => k E'
  | .bk E' => .nx E'
  | s => s
@[simp] theorem lk_nx (E : List D) (k : List D → S) : (S.nx E).lk k = k E := id rfl
@[simp] theorem lk_ct (E : List D) (k : List D → S) : (S.ct E).lk k = k E := id rfl
@[simp] theorem lk_bk (E : List D) (k : List D → S) : (S.bk E).lk k = .nx E := id rfl
@[simp] theorem lk_rt (d : D) (E : List D) (k : List D → S) : (S.rt d E).lk k = .rt d E := id rfl
@[simp] theorem lk_exc (c : Nat) (fs : List (Str × V)) (E : List D) (k : List D → S) : (S.exc c fs E).lk k = .exc c fs E := id rfl
@[simp] theorem lk_ite (c : Prop) [Decidable c] (a b : S) (k : List D → S) : (if c then a else b).lk k = if c then a.lk k else b.lk k := by split <;> rfl
theorem while_turn {c : DenT} {b : DenS} {E : List D} : dWhile c b E = (c E).toS fun r => if r.1 then (b r.2).lk (dWhile c b) else .nx r.2 := by
  rw [dWhile_turn]
  cases c E with
  | ok r =>
    show (if r.1 then _ else _) = (if r.1 then _ else _)
    split
    · cases b r.2 <;> rfl
    · rfl
  | exc _ _ _ => rfl
  | bad => rfl
/-- a loop that hands back at the first that does not pass -/
theorem loop_chk {α : Type} {f : α → D} {dg : DenG} {b : DenS} {E : List D} (p : α → Bool) (r : α → D) (Q : List D → Prop) : ∀ {xs : List α}, (∀ x ∈ xs, ∃ E1, dg (f x) E = some E1 ∧ (p x = true → b E1 = .nx E ∨ b E1 = .ct E) ∧ (p x = false → ∃ E2, b E1 = .rt (r x) E2 ∧ Q E2)) →
    (xs.all p = true ∧ loopD dg b (em f xs) E = .nx E) ∨ (xs.all p = false ∧ ∃ x E2, x ∈ xs ∧ p x = false ∧ xs.find? (fun y => !p y) = some x ∧ loopD dg b (em f xs) E = .rt (r x) E2 ∧ Q E2)
  | [], h => .inl ⟨rfl, rfl⟩
  | x :: xs, h => by
    obtain ⟨E1, e1, h1, h2⟩ := h x List.mem_cons_self
    have eL : loopD dg b (em f (x :: xs)) E = (match b E1 with
      | .nx E' => loopD dg b (em f xs) E'
      | .ct E' => loopD dg b (em f xs) E'
      | .bk E' => .nx E'
      | s => s) := by
      show loopD dg b (f x :: em f xs) E = _
      conv => lhs; unfold loopD
      first | (rw [e1]; done) | (rw [e1]; rfl)
    rw [eL]
    cases hp : p x with
    | true =>
      rcases loop_chk p r Q (xs := xs) fun y hy => h y (List.mem_cons_of_mem _ hy) with ⟨a, e⟩ | ⟨a, y, E2, hy, e, ef, e3, q⟩
      · left
        refine ⟨by simp [hp, a], ?_⟩
        rcases h1 hp with h1 | h1 <;> rw [h1] <;> exact e
      · right
        refine ⟨by simp [hp, a], y, E2, List.mem_cons_of_mem _ hy, e, by simp [hp, ef], ?_, q⟩
        rcases h1 hp with h1 | h1 <;> rw [h1] <;> exact e3
    | false =>
      right
      obtain ⟨E2, e2, q⟩ := h2 hp
      exact ⟨by simp [hp], x, E2, List.mem_cons_self, hp, by simp [hp], by rw [e2], q⟩
theorem comp_map' {α : Type} {dg : DenG} {de : Den} {ws : List Nat} {B : List D} {g : α → D} (f : α → D) {xs : List α} {acc : List D} (hl : acc.length + xs.length ≤ 100000) (h : ∀ x ∈ xs, ∃ B1 B2, dg (g x) B = some B1 ∧ de B1 = .ok (.val (f x), B2) ∧ holes B2 (wp ws) = B) :
    compL dg dYes de ws (em g xs) B acc = .ok (acc ++ em f xs, B) := comp_mapG g f hl fun x hx => by
  obtain ⟨B1, B2, h1, h2, h3⟩ := h x hx
  exact ⟨B1, B1, B2, h1, rfl, h2, h3⟩
theorem comp_filt' {α : Type} {dg : DenG} {dt : DenT} {de : Den} {ws : List Nat} {B : List D} {g : α → D} (f : α → D) (c : α → Bool) {xs : List α} {acc : List D} (hl : acc.length + xs.length ≤ 100000) (h : ∀ x ∈ xs, ∃ B1 B2, dg (g x) B = some B1 ∧ dt B1 = .ok (c x, B2) ∧ (c x = true → ∃ B3, de B2 = .ok (.val (f x), B3) ∧ holes B3 (wp ws) = B) ∧ (c x = false → holes B2 (wp ws) = B)) :
    compL dg dt de ws (em g xs) B acc = .ok (acc ++ em f (xs.filter c), B) := comp_filterG g f c hl h
end DL
end
section
set_option maxRecDepth 100000
namespace DL
open PySem L2
@[simp] theorem em_ints (l : List Int) : intsD (em eI l) = some l := by
  induction l with
  | nil => rfl
  | cons i l ih => show (intsD (em eI l)).map (i :: ·) = _; rw [ih]; rfl
@[simp] theorem em_intsN (l : List Nat) : intsD (em eN l) = some (l.map fun (i : Nat) => (i : Int)) := by
  induction l with
  | nil => rfl
  | cons i l ih => show (intsD (em eN l)).map ((i : Int) :: ·) = _; rw [ih]; rfl
@[simp] theorem em_bools (l : List Bool) : boolsD (em eB l) = some l := by
  induction l with
  | nil => rfl
  | cons i l ih => show (boolsD (em eB l)).map (i :: ·) = _; rw [ih]; rfl
@[simp] theorem flatV_int (i : Int) : flatV (.int i) = true := rfl
@[simp] theorem flatV_bl (i : Bool) : flatV (.bl i) = true := rfl
@[simp] theorem flatV_str (i : Str) : flatV (.str i) = true := rfl
@[simp] theorem flatV_non : flatV .non = true := rfl
@[simp] theorem em_flat_I (l : List Int) : (em eI l).all flatD = true := by simp [em, flatD]
@[simp] theorem em_flat_N (l : List Nat) : (em eN l).all flatD = true := by simp [em, flatD]
@[simp] theorem em_flat_S (l : List Str) : (em eS l).all flatD = true := by simp [em, flatD]
theorem inD_em {α : Type} (f : α → V) (x : V) (l : List α) : inD x (em (fun a => .sc (f a)) l) = l.any fun a => eqV (f a) x := by
  induction l with
  | nil => rfl
  | cons a l ih =>
    show (eqV (f a) x || inD x (em (fun a => D.sc (f a)) l)) = _
    rw [ih]; rfl
theorem eqV_ii (a b : Int) : eqV (.int a) (.int b) = decide (a = b) := by
  show (a == b) = _
  exact DL.beq_dec a b
@[simp] theorem in_I (i : Int) (l : List Int) : inD (.int i) (em eI l) = decide (i ∈ l) := by
  show inD _ (em (fun a => .sc (V.int a)) l) = _
  rw [inD_em, Bool.eq_iff_iff]
  simp only [List.any_eq_true, eqV_ii, decide_eq_true_eq]
  exact ⟨fun ⟨x, h, e⟩ => e ▸ h, fun h => ⟨i, h, rfl⟩⟩
@[simp] theorem in_N (i : Nat) (l : List Nat) : inD (.int (i : Int)) (em eN l) = decide (i ∈ l) := by
  show inD _ (em (fun (a : Nat) => .sc (V.int (a : Int))) l) = _
  rw [inD_em, Bool.eq_iff_iff]
  simp only [List.any_eq_true, eqV_ii, decide_eq_true_eq]
  exact ⟨fun ⟨x, h, e⟩ => by have : x = i := by omega
                             exact this ▸ h, fun h => ⟨i, h, rfl⟩⟩
class LayF {α : Type} (f : α → D) (n : outParam Nat) (P : outParam (α → Bool)) : Prop where
  lay : ∀ x m, P x = true → n ≤ m → lay m (f x) = true
class EqF {α : Type} [DecidableEq α] (f g : α → D) : Prop where
  eqv : ∀ x y, PyData.eqv (toP (f x)) (toP (g y)) = decide (x = y)
abbrev eL {α : Type} (m : Bool) (f : α → D) : List α → D := fun xs => .nd (.lst m) (em f xs)
abbrev eT {α : Type} (f : α → D) : List α → D := fun xs => .nd .tup (em f xs)
abbrev eP {α β : Type} (f : α → D) (g : β → D) : α × β → D := fun p => .nd .tup [f p.1, g p.2]
instance {α : Type} {f : α → D} [h : FzF f] : FzF (eL false f) := ⟨fun x => by simp⟩
instance {α : Type} {f : α → D} [h : FzF f] : FzF (eT f) := ⟨fun x => by simp⟩
instance {α β : Type} {f : α → D} {g : β → D} [h : FzF f] [h' : FzF g] : FzF (eP f g) := ⟨fun x => by simp [h.fz, h'.fz]⟩
instance : LayF eI 0 (fun _ => true) := ⟨fun x m _ _ => by cases m <;> rfl⟩
instance : LayF eN 0 (fun _ => true) := ⟨fun x m _ _ => by cases m <;> rfl⟩
instance : LayF eB 0 (fun _ => true) := ⟨fun x m _ _ => by cases m <;> rfl⟩
instance : LayF eS 0 PyData.strOk := ⟨fun x m h _ => by cases m <;> exact h⟩
theorem lay_l {α : Type} {f : α → D} {n : Nat} {P : α → Bool} [h : LayF f n P] {k : Kd} (hk : k.seq = true) (xs : List α) (m : Nat) (hp : xs.all P = true) (hm : n + 1 ≤ m) : lay m (.nd k (em f xs)) = true := by
  cases m with
  | zero => omega
  | succ m =>
    show (k.seq && (em f xs).all (lay m)) = true
    rw [hk, Bool.true_and, List.all_eq_true]
    intro d hd
    obtain ⟨x, hx, rfl⟩ := List.mem_map.mp hd
    exact h.lay x m (List.all_eq_true.mp hp x hx) (by omega)
instance {α : Type} {f : α → D} {n : Nat} {P : α → Bool} [h : LayF f n P] {b : Bool} : LayF (eL b f) (n + 1) (fun xs => xs.all P) := ⟨fun x m hp hm => lay_l rfl x m hp hm⟩
instance {α : Type} {f : α → D} {n : Nat} {P : α → Bool} [h : LayF f n P] : LayF (eT f) (n + 1) (fun xs => xs.all P) := ⟨fun x m hp hm => lay_l rfl x m hp hm⟩
instance {α β : Type} {f : α → D} {g : β → D} {n n' : Nat} {P : α → Bool} {P' : β → Bool} [h : LayF f n P] [h' : LayF g n' P'] : LayF (eP f g) (n + n' + 1) (fun p => P p.1 && P' p.2) := ⟨fun x m hp hm => by
  cases m with
  | zero => omega
  | succ m =>
    show (true && [f x.1, g x.2].all (lay m)) = true
    simp only [Bool.and_eq_true] at hp
    simp only [List.all_cons, List.all_nil, Bool.true_and, Bool.and_true, h.lay _ m hp.1 (by omega), h'.lay _ m hp.2 (by omega)]⟩
instance : LayF itm 1 tagOk := ⟨fun x m hp hm => by
  cases m with
  | zero => omega
  | succ m =>
    show (true && [D.sc (.int x.1), D.sc (.str x.2)].all (lay m)) = true
    cases m <;> (simp [lay]; exact hp)⟩
theorem int_beq (a b : Int) : (a == b) = decide (a = b) := DL.beq_dec a b
instance : EqF eI eI := ⟨fun x y => int_beq x y⟩
instance : EqF eN eN := ⟨fun x y => by
  show ((x : Int) == (y : Int)) = _
  rw [int_beq, decide_eq_decide]; omega⟩
instance : EqF eB eB := ⟨fun x y => by show (x == y) = _; exact DL.beq_dec x y⟩
instance : EqF eS eS := ⟨fun x y => by show (x == y) = _; exact DL.beq_dec x y⟩
theorem eqv_em {α : Type} [DecidableEq α] {f g : α → D} [h : EqF f g] : ∀ xs ys : List α, PyData.eqvAll (toPs (em f xs)) (toPs (em g ys)) = decide (xs = ys)
  | [], [] => rfl
  | [], _ :: _ => rfl
  | _ :: _, [] => rfl
  | x :: xs, y :: ys => by
    show (PyData.eqv (toP (f x)) (toP (g y)) && PyData.eqvAll (toPs (em f xs)) (toPs (em g ys))) = _
    rw [h.eqv, eqv_em xs ys]
    simp
instance {α : Type} [DecidableEq α] {f g : α → D} [h : EqF f g] {m m' : Bool} : EqF (eL m f) (eL m' g) := ⟨fun xs ys => eqv_em xs ys⟩
instance {α : Type} [DecidableEq α] {f g : α → D} [h : EqF f g] : EqF (eT f) (eT g) := ⟨fun xs ys => eqv_em xs ys⟩
instance {α β : Type} [DecidableEq α] [DecidableEq β] {f g : α → D} {f' g' : β → D} [h : EqF f g] [h' : EqF f' g'] : EqF (eP f f') (eP g g') := ⟨fun x y => by
  show (PyData.eqv (toP (f x.1)) (toP (g y.1)) && (PyData.eqv (toP (f' x.2)) (toP (g' y.2)) && true)) = _
  rw [h.eqv, h'.eqv, Bool.and_true, ← Bool.decide_and, decide_eq_decide]
  exact ⟨fun ⟨a, b⟩ => Prod.ext a b, fun e => e ▸ ⟨rfl, rfl⟩⟩⟩
instance : EqF itm itm := inferInstanceAs (EqF (eP eI eS) (eP eI eS))
theorem fEq_of {x y : D} {b : Bool} (hx : lay 64 x = true) (hy : lay 64 y = true) (e : PyData.eqv (toP x) (toP y) = b) : fEq [x, y] = some (.sc (.bl b)) := by
  show (if lay 64 x && lay 64 y then _ else _) = _
  rw [hx, hy, e]; rfl
theorem fNe_of {x y : D} {b : Bool} (hx : lay 64 x = true) (hy : lay 64 y = true) (e : PyData.eqv (toP x) (toP y) = b) : fNe [x, y] = some (.sc (.bl (!b))) := by
  show (if lay 64 x && lay 64 y then _ else _) = _
  rw [hx, hy, e]; rfl
section
variable {α : Type} [DecidableEq α] {f g : α → D} {n n' : Nat} {P P' : α → Bool} [LayF f n P] [LayF g n' P'] [EqF f g]
theorem fEq_s {x y : α} (hx : P x = true) (hy : P' y = true) (hn : n ≤ 64) (hn' : n' ≤ 64) : fEq [f x, g y] = some (.sc (.bl (decide (x = y)))) := fEq_of (LayF.lay x 64 hx hn) (LayF.lay y 64 hy hn') (EqF.eqv x y)
theorem fNe_s {x y : α} (hx : P x = true) (hy : P' y = true) (hn : n ≤ 64) (hn' : n' ≤ 64) : fNe [f x, g y] = some (.sc (.bl (!decide (x = y)))) := fNe_of (LayF.lay x 64 hx hn) (LayF.lay y 64 hy hn') (EqF.eqv x y)
end
@[simp] theorem fEq_ii (i j : Int) : fEq [.sc (.int i), .sc (.int j)] = some (.sc (.bl (decide (i = j)))) := fEq_s (f := eI) (g := eI) rfl rfl (by omega) (by omega)
@[simp] theorem fNe_ii (i j : Int) : fNe [.sc (.int i), .sc (.int j)] = some (.sc (.bl (!decide (i = j)))) := fNe_s (f := eI) (g := eI) rfl rfl (by omega) (by omega)
@[simp] theorem fEq_LI (m m' : Bool) (xs ys : List Int) : fEq [.nd (.lst m) (em eI xs), .nd (.lst m') (em eI ys)] = some (.sc (.bl (decide (xs = ys)))) := fEq_s (f := eL m eI) (g := eL m' eI) (by simp) (by simp) (by omega) (by omega)
@[simp] theorem fNe_LI (m m' : Bool) (xs ys : List Int) : fNe [.nd (.lst m) (em eI xs), .nd (.lst m') (em eI ys)] = some (.sc (.bl (!decide (xs = ys)))) := fNe_s (f := eL m eI) (g := eL m' eI) (by simp) (by simp) (by omega) (by omega)
@[simp] theorem fEq_TI (xs ys : List Int) : fEq [.nd .tup (em eI xs), .nd .tup (em eI ys)] = some (.sc (.bl (decide (xs = ys)))) := fEq_s (f := eT eI) (g := eT eI) (by simp) (by simp) (by omega) (by omega)
@[simp] theorem fNe_TI (xs ys : List Int) : fNe [.nd .tup (em eI xs), .nd .tup (em eI ys)] = some (.sc (.bl (!decide (xs = ys)))) := fNe_s (f := eT eI) (g := eT eI) (by simp) (by simp) (by omega) (by omega)
@[simp] theorem fEq_LN (m m' : Bool) (xs ys : List Nat) : fEq [.nd (.lst m) (em eN xs), .nd (.lst m') (em eN ys)] = some (.sc (.bl (decide (xs = ys)))) := fEq_s (f := eL m eN) (g := eL m' eN) (by simp) (by simp) (by omega) (by omega)
@[simp] theorem fNe_LN (m m' : Bool) (xs ys : List Nat) : fNe [.nd (.lst m) (em eN xs), .nd (.lst m') (em eN ys)] = some (.sc (.bl (!decide (xs = ys)))) := fNe_s (f := eL m eN) (g := eL m' eN) (by simp) (by simp) (by omega) (by omega)
@[simp] theorem fEq_TN (xs ys : List Nat) : fEq [.nd .tup (em eN xs), .nd .tup (em eN ys)] = some (.sc (.bl (decide (xs = ys)))) := fEq_s (f := eT eN) (g := eT eN) (by simp) (by simp) (by omega) (by omega)
@[simp] theorem fNe_TN (xs ys : List Nat) : fNe [.nd .tup (em eN xs), .nd .tup (em eN ys)] = some (.sc (.bl (!decide (xs = ys)))) := fNe_s (f := eT eN) (g := eT eN) (by simp) (by simp) (by omega) (by omega)
abbrev okR (l : List It2) : Bool := l.all tagOk
@[simp] theorem fEq_LR (m m' : Bool) (xs ys : List It2) (hx : okR xs = true) (hy : okR ys = true) : fEq [.nd (.lst m) (em itm xs), .nd (.lst m') (em itm ys)] = some (.sc (.bl (decide (xs = ys)))) := fEq_s (f := eL m itm) (g := eL m' itm) hx hy (by omega) (by omega)
@[simp] theorem fNe_LR (m m' : Bool) (xs ys : List It2) (hx : okR xs = true) (hy : okR ys = true) : fNe [.nd (.lst m) (em itm xs), .nd (.lst m') (em itm ys)] = some (.sc (.bl (!decide (xs = ys)))) := fNe_s (f := eL m itm) (g := eL m' itm) hx hy (by omega) (by omega)
theorem rng_inv {σ : Type} {i : Nat} {b : DenS} {lo : Int} {n : Nat} (e : σ → List D) (Iv : Nat → σ → Prop) {s0 : σ} (h0 : Iv 0 s0) (hi : ∀ s, i < (e s).length) (st : ∀ j s, j < n → Iv j s → ∃ s', (b ((e s).set i (.sc (.int (lo + (j : Int))))) = .nx (e s') ∨ b ((e s).set i (.sc (.int (lo + (j : Int))))) = .ct (e s')) ∧ Iv (j + 1) s') :
    ∃ s, loopD (dgName i) b (rngD lo n) (e s0) = .nx (e s) ∧ Iv n s := by
  obtain ⟨E', eL, s, rfl, h⟩ := loop_rng (i := i) (b := b) (lo := lo) (n := n) (E := e s0) (Jv := fun j E => ∃ s, E = e s ∧ Iv j s) ⟨s0, rfl, h0⟩ fun j E hj ⟨s, e1, h⟩ => by
    subst e1
    obtain ⟨s', h1, h2⟩ := st j s hj h
    exact ⟨hi s, e s', h1, s', rfl, h2⟩
  exact ⟨s, eL, h⟩
theorem lst_inv {α σ : Type} {f : α → D} {dg : DenG} {b : DenS} {xs : List α} (e : σ → List D) (Iv : List α → σ → Prop) {s0 : σ} (h0 : Iv [] s0) (st : ∀ pre x post s, xs = pre ++ x :: post → Iv pre s → ∃ E1 s', dg (f x) (e s) = some E1 ∧ (b E1 = .nx (e s') ∨ b E1 = .ct (e s')) ∧ Iv (pre ++ [x]) s') :
    ∃ s, loopD dg b (em f xs) (e s0) = .nx (e s) ∧ Iv xs s := by
  obtain ⟨E', eL, s, rfl, h⟩ := loop_inv (dg := dg) (b := b) (xs := xs) (f := f) (E := e s0) (Jv := fun pre E => ∃ s, E = e s ∧ Iv pre s) ⟨s0, rfl, h0⟩ fun pre x post E hx ⟨s, e1, h⟩ => by
    subst e1
    obtain ⟨E1, s', h1, h2, h3⟩ := st pre x post s hx h
    exact ⟨E1, e s', h1, h2, s', rfl, h3⟩
  exact ⟨s, eL, h⟩
theorem cells {b : DenS} {ns : List Int} {E : List D} {m : Nat} (hE : E[0]? = some (.kl ns)) (Jv : List D → Prop) (h0 : Jv E) (st : ∀ (k : Nat) (E : List D), Jv E → k < m → 1 < E.length ∧ ∃ E2, b (E.set 1 (.sc (.int k))) = .nx E2 ∧ Jv E2) :
    ∀ n : Nat, n ≤ m → ∃ E', loopD (dgName 1) b (rngD 0 n) E = .nx E' ∧ Jv E' := by
  intro n hn
  exact loop_rng (Jv := fun _ E => Jv E) h0 fun j E hj hi => by
    obtain ⟨h1, E2, h2, h3⟩ := st j E hi (by omega)
    exact ⟨h1, E2, .inl (by simpa using h2), h3⟩
end DL
end
section
set_option maxRecDepth 100000
namespace DL
open PySem L2
@[simp] theorem ev_mClear (ds : List D) : mClear (.lst true) ds [] = some (.sc .non, .lst true, []) := id rfl
theorem all_lay {α : Type} {f : α → D} {n : Nat} {P : α → Bool} [h : LayF f n P] (xs : List α) (m : Nat) (hp : xs.all P = true) (hm : n ≤ m) : (em f xs).all (lay m) = true := by
  rw [List.all_eq_true]
  intro d hd
  obtain ⟨x, hx, rfl⟩ := List.mem_map.mp hd
  exact h.lay x m (List.all_eq_true.mp hp x hx) hm
theorem ixD_em {α : Type} [DecidableEq α] {f g : α → D} [h : EqF f g] (x : α) (xs : List α) : ixD (g x) (em f xs) = xs.findIdx? fun z => decide (z = x) := by
  unfold ixD em
  rw [List.findIdx?_map]
  congr 1
  funext z
  exact h.eqv z x
@[simp] theorem mIndex_I (l : List Int) (v : Int) : mIndex (.lst true) (em eI l) [.sc (.int v)] = (l.findIdx? fun z => decide (z = v)).map fun (j : Nat) => (.sc (.int (j : Nat)), .lst true, em eI l) := by
  have h1 := all_lay (f := eI) l 60 (by simp) (by omega)
  have h2 := ixD_em (f := eI) (g := eI) v l
  show (if (em eI l).all (lay 60) && true then (ixD (.sc (.int v)) (em eI l)).map _ else none) = _
  rw [h1]
  show (ixD (eI v) (em eI l)).map _ = _
  rw [h2]
theorem count_cast (d : Nat) : ∀ l : List Nat, (l.map fun (i : Nat) => (i : Int)).count (d : Int) = l.count d
  | [] => rfl
  | x :: l => by
    rw [List.map_cons, List.count_cons, List.count_cons, count_cast d l]
    by_cases h : x = d
    · subst h; simp
    · have h' : ¬ (x : Int) = d := by omega
      have e1 : (x == d) = false := by simpa using h
      have e2 : ((x : Int) == (d : Int)) = false := by simpa using h'
      rw [e1, e2]
@[simp] theorem mCount_N (l : List Nat) (v : Nat) : mCount (.lst true) (em eN l) [.sc (.int (v : Int))] = some (.sc (.int (l.count v : Nat)), .lst true, em eN l) := by
  show (intsD (em eN l)).map _ = _
  rw [em_intsN]
  simp [count_cast]
@[simp] theorem ev_dEnum (das : DenA) (E : List D) : dEnum das E = (das E).bind fun r => match r.1 with
  | [.val (.nd (.lst _) ds)] => .ok (enumFrom 0 (fzs ds), r.2)
  | _ => .bad := id rfl
@[simp] theorem ev_dZip (das : DenA) (E : List D) : dZip das E = (das E).bind fun r => match r.1 with
  | [.val (.nd (.lst _) ds), .val (.nd (.lst _) es)] => .ok (zipD (fzs ds) (fzs es), r.2)
  | _ => .bad := id rfl
theorem enum_em {α : Type} (f : α → D) : ∀ (xs : List α) (k : Nat), enumFrom k (em f xs) = em (fun p : Nat × α => .nd .tup [.sc (.int (p.1 : Int)), f p.2]) ((xs.zipIdx k).map fun p => (p.2, p.1))
  | [], k => rfl
  | x :: xs, k => by
    show .nd .tup [.sc (.int (k : Int)), f x] :: enumFrom (k + 1) (em f xs) = _
    rw [enum_em f xs (k + 1)]; rfl
def forXK (i : Nat) (dg : DenG) (b : DenS) (E : List D) (x : Option D) : S := match x with
  | some (.nd (.lst true) ds) => if ds.all Fz then putB i (.nd (.lst true) ds) (loopD dg b ds (E.set i .lent)) else .bad
  | some (.nd k ds) => if k.seq && (!k.mut && Fzs ds) then loopD dg b (fzs ds) E else .bad
  | some (.sc (.str z)) => loopD dg b (z.cps.toList.map fun c => .sc (.str ⟨#[c]⟩)) E
  | _ => .bad
@[simp] theorem ev_dForX (i : Nat) (dg : DenG) (b : DenS) (E : List D) : dForX i dg b E = forXK i dg b E E[i]? := by
  have e : ∀ x, E[i]? = x → (∀ ds, x ≠ some (.nd (.lst true) ds)) → dForX i dg b E = dFor (iSeq (dCopy (rName i))) dg b E := fun x hx h => by
    unfold dForX
    split
    · rename_i ds eE; exact absurd (hx.symm.trans eE) (h ds)
    · rfl
  cases eE : E[i]? with
  | none => rw [e _ eE (by simp)]; simp [eE, forXK]
  | some d =>
    cases d with
    | una => rw [e _ eE (by simp)]; simp [eE, forXK]
    | lent => rw [e _ eE (by simp)]; simp [eE, forXK, isUna]
    | kl xs => rw [e _ eE (by simp)]; simp [eE, forXK]
    | sc v =>
      rw [e _ eE (by simp)]
      cases v <;> simp [eE, forXK]
    | nd k ds =>
      by_cases hk : k = .lst true
      · subst hk; unfold dForX; rw [eE]; rfl
      · rw [e _ eE (by intro ds z; cases z; exact hk rfl)]
        have e2 : forXK i dg b E (some (.nd k ds)) = if k.seq && (!k.mut && Fzs ds) then loopD dg b (fzs ds) E else .bad := by
          unfold forXK
          cases k with
          | lst m => cases m with
            | true => exact absurd rfl hk
            | false => rfl
          | _ => rfl
        rw [e2]
        simp only [ev_dFor, ev_iSeq, ev_dCopy, ev_rName, eE, ev_una_n, if_false, Bool.false_eq_true, ev_rok, ev_getP_1, ev_Fz_3]
        cases h1 : (!k.mut && Fzs ds) with
        | true =>
          simp only [if_true, ev_rok, ev_itK, Bool.and_true]
          cases h2 : k.seq <;> simp
        | false => simp
@[simp] theorem forXK_t (i : Nat) (dg : DenG) (b : DenS) (E ds : List D) : forXK i dg b E (some (.nd (.lst true) ds)) = if ds.all Fz then putB i (.nd (.lst true) ds) (loopD dg b ds (E.set i .lent)) else .bad := id rfl
@[simp] theorem forXK_f (i : Nat) (dg : DenG) (b : DenS) (E ds : List D) : forXK i dg b E (some (.nd (.lst false) ds)) = if Fzs ds then loopD dg b (fzs ds) E else .bad := by show (if true && (true && Fzs ds) then _ else _) = _; simp
@[simp] theorem forXK_p (i : Nat) (dg : DenG) (b : DenS) (E ds : List D) : forXK i dg b E (some (.nd .tup ds)) = if Fzs ds then loopD dg b (fzs ds) E else .bad := by show (if true && (true && Fzs ds) then _ else _) = _; simp
@[simp] theorem forXK_s (i : Nat) (dg : DenG) (b : DenS) (E : List D) (z : Str) : forXK i dg b E (some (.sc (.str z))) = loopD dg b (z.cps.toList.map fun c => .sc (.str ⟨#[c]⟩)) E := id rfl
@[simp] theorem K1_t (i : Nat) (ds : List D) (s : S) : K1 i true ds s = putB i (.nd (.lst true) ds) s := id rfl
@[simp] theorem K1_f (i : Nat) (ds : List D) (s : S) : K1 i false ds s = s := id rfl
@[simp] theorem asd_t (i : Nat) (E : List D) : asd i true E = E.set i .lent := id rfl
@[simp] theorem asd_f (i : Nat) (E : List D) : asd i false E = E := id rfl
@[simp] theorem ev_dForE (i : Nat) (dg : DenG) (b : DenS) (E : List D) : dForE i dg b E = match E[i]? with
  | some (.nd (.lst m) ds) => if ds.all Fz then K1 i m ds (loopD dg b (enumFrom 0 ds) (asd i m E)) else .bad
  | _ => .bad := id rfl
@[simp] theorem ev_dForZ (i j : Nat) (dg : DenG) (b : DenS) (E : List D) : dForZ i j dg b E = match E[i]?, E[j]? with
  | some (.nd (.lst m) ds), some (.nd (.lst m') es) => if ds.all Fz && es.all Fz then K1 i m ds (K1 j m' es (loopD dg b (zipD ds es) (asd j m' (asd i m E)))) else .bad
  | _, _ => .bad := id rfl
@[simp] theorem ev_dEnum2 (das : DenA) (E : List D) : dEnum2 das E = (das E).bind fun r => match r.1 with
  | [.val (.nd (.lst _) ds)] => .ok (enumFrom 0 (fzs ds), r.2)
  | [.val (.nd .tup ds)] => .ok (enumFrom 0 (fzs ds), r.2)
  | _ => .bad := id rfl
@[simp] theorem ev_dForE2 (i : Nat) (dg : DenG) (b : DenS) (E : List D) : dForE2 i dg b E = match E[i]? with
  | some (.nd .tup ds) => if Fzs ds then loopD dg b (enumFrom 0 (fzs ds)) E else .bad
  | _ => dForE i dg b E := by
  unfold dForE2
  split
  · rename_i ds e
    show ((aCons true (dCopy (rName i)) aNil E).bind _).toS _ = _
    simp only [ev_aCons, ev_dCopy, rName, e]
    by_cases h : Fzs ds = true
    · simp [e, h, stab]
    · simp [e, h, stab]
  · rename_i h
    first
    | rfl
    | (split
       · rename_i ds e; exact absurd e (h ds)
       · rfl)
@[simp] theorem ev_dIxT (pu2 : Bool) (d1 d2 : Den) (E : List D) : dIxT pu2 d1 d2 E = (aCons pu2 d1 (aCons true d2 aNil) E).bind ixT := id rfl
@[simp] theorem ev_ixT (k : Kd) (ds E : List D) (q : Opd) : ixT ([.val (.nd k ds), q], E) = match cont E q with
    | some (.sc (.int i)) => if k.seq then (match ixN ds.length i with
      | some j => match ds[j]? with
        | some d => .ok (.val d, E)
        | none => .bad
      | none => .bad) else .bad
    | _ => .bad := id rfl
theorem eqv_nilr {α : Type} (f : α → D) (xs : List α) : PyData.eqvAll (toPs (em f xs)) [] = xs.isEmpty := by cases xs <;> rfl
section
variable {α : Type} {f : α → D} {n : Nat} {P : α → Bool} [h : LayF f n P]
@[simp] theorem fEq_nil (m m' : Bool) (xs : List α) (hp : xs.all P = true) (hn : n ≤ 63) : fEq [.nd (.lst m) (em f xs), .nd (.lst m') []] = some (.sc (.bl xs.isEmpty)) := fEq_of (lay_l (f := f) rfl xs 64 hp (by omega)) rfl (eqv_nilr f xs)
@[simp] theorem fNe_nil (m m' : Bool) (xs : List α) (hp : xs.all P = true) (hn : n ≤ 63) : fNe [.nd (.lst m) (em f xs), .nd (.lst m') []] = some (.sc (.bl (!xs.isEmpty))) := fNe_of (lay_l (f := f) rfl xs 64 hp (by omega)) rfl (eqv_nilr f xs)
end
@[simp] theorem fEq_00 (m m' : Bool) : fEq [.nd (.lst m) [], .nd (.lst m') []] = some (.sc (.bl true)) := fEq_of rfl rfl rfl
@[simp] theorem fNe_00 (m m' : Bool) : fNe [.nd (.lst m) [], .nd (.lst m') []] = some (.sc (.bl false)) := fNe_of rfl rfl rfl
theorem enum_inv {α σ : Type} {f : α → D} {dg : DenG} {b : DenS} {xs : List α} (e : σ → List D) (Iv : Nat → σ → Prop) {s0 : σ} (h0 : Iv 0 s0) (st : ∀ j x s, xs[j]? = some x → Iv j s → ∃ E1 s', dg (.nd .tup [.sc (.int (j : Int)), f x]) (e s) = some E1 ∧ (b E1 = .nx (e s') ∨ b E1 = .ct (e s')) ∧ Iv (j + 1) s') :
    ∃ s, loopD dg b (enumFrom 0 (em f xs)) (e s0) = .nx (e s) ∧ Iv xs.length s := by
  obtain ⟨E', eL, s, rfl, h⟩ := loop_all (dg := dg) (b := b) (ds := enumFrom 0 (em f xs)) (E := e s0) (Jv := fun j E => ∃ s, E = e s ∧ Iv j s) ⟨s0, rfl, h0⟩ fun j d E ed ⟨s, e1, h⟩ => by
    subst e1
    rw [enum_at, em_at] at ed
    cases ex : xs[j]? with
    | none => rw [ex] at ed; cases ed
    | some x =>
      rw [ex] at ed; cases ed
      obtain ⟨E1, s', h1, h2, h3⟩ := st j x s ex h
      have e0 : (0 + j : Nat) = j := by omega
      rw [e0]
      exact ⟨E1, e s', h1, h2, s', rfl, h3⟩
  refine ⟨s, eL, ?_⟩
  have hl : (enumFrom 0 (em f xs)).length = xs.length := by rw [enum_em]; simp
  rw [hl] at h; exact h
def eO : Option Nat → D
  | none => .sc .non
  | some n => .sc (.int (n : Int))
@[simp] theorem eO_none : eO none = .sc .non := rfl
@[simp] theorem eO_some (n : Nat) : eO (some n) = .sc (.int (n : Int)) := rfl
@[simp] theorem em_setN (l : List Nat) (k n : Nat) : (em eN l).set k (.sc (.int ((n : Int) + 1))) = em eN (l.set k (n + 1)) := by
  have : D.sc (.int ((n : Int) + 1)) = eN (n + 1) := by simp
  rw [this, em_set]
@[simp] theorem isNon_int (i : Int) : (decide (V.int i = V.non)) = false := by simp
end DL
end
section
set_option maxRecDepth 100000
namespace DL
open PySem L2
open Classical in
noncomputable def rg3Ok (i j c : Int) : Bool := @decide (0 < c ∧ c < 1073741824 ∧ Builtin.Range.small i j c = true) (propDecidable _)
def rSz (i j c : Int) : Nat := (Builtin.Range.rangeSize i j c).toNat
theorem rg3_if {α : Type} (i j c : Int) (a b : α) : (if 0 < c ∧ c < 1073741824 ∧ Builtin.Range.small i j c = true then a else b) = if rg3Ok i j c then a else b := by
  unfold rg3Ok
  by_cases h : 0 < c ∧ c < 1073741824 ∧ Builtin.Range.small i j c = true
  · rw [if_pos h, if_pos (@decide_eq_true _ (_) h)]
  · rw [if_neg h, if_neg (by simpa using h)]
@[simp] theorem ev_dR3 (das : DenA) (E : List D) : dR3 das E = (das E).bind fun r => match conts r.2 r.1 with
  | some [.sc (.int i), .sc (.int j), .sc (.int c)] => if rg3Ok i j c then .ok (rngC i c (rSz i j c), r.2) else .bad
  | _ => .bad := by
  simp only [← rg3_if]; exact id rfl
@[simp] theorem ev_fIsiT (x : D) (ts : List D) : fIsiT [x, .nd .tup ts] = match tyD x, tysD ts with
    | some n, some ms => (isiAny n ms).map fun b => .sc (.bl b)
    | _, _ => none := id rfl
@[simp] theorem ev_tysD_0 : tysD [] = some [] := id rfl
@[simp] theorem ev_tysD_1 (m : String) (ds : List D) : tysD (.sc (.ty m) :: ds) = (tysD ds).map (m :: ·) := id rfl
@[simp] theorem ev_dViewL (d : Den) (E : List D) : dViewL d E = match d (fzs E) with
  | .ok r => (match r.1 with
    | .val c => if hotD c then .ok (.val c, E) else .bad
    | _ => .bad)
  | _ => .bad := id rfl
@[simp] theorem hotD_sc (v : V) : hotD (.sc v) = true := rfl
@[simp] theorem hotD_l (ds : List D) : hotD (.nd (.lst true) ds) = hotDs ds := by show (true && hotDs ds) = _; simp
@[simp] theorem hotDs_n : hotDs [] = true := rfl
@[simp] theorem hotDs_c (d : D) (ds : List D) : hotDs (d :: ds) = (hotD d && hotDs ds) := rfl
theorem hotDs_em {α : Type} (f : α → D) (l : List α) (h : ∀ x ∈ l, hotD (f x) = true) : hotDs (em f l) = true := by
  induction l with
  | nil => rfl
  | cons a l ih =>
    rw [em_cons, hotDs_c, h a List.mem_cons_self, ih fun x hx => h x (List.mem_cons_of_mem _ hx)]; rfl
@[simp] theorem hotDs_I (l : List Int) : hotDs (em eI l) = true := hotDs_em _ _ fun _ _ => rfl
@[simp] theorem hotDs_N (l : List Nat) : hotDs (em eN l) = true := hotDs_em _ _ fun _ _ => rfl
@[simp] theorem hotDs_B (l : List Bool) : hotDs (em eB l) = true := hotDs_em _ _ fun _ _ => rfl
end DL
end
section
set_option maxRecDepth 100000
namespace DL
open PySem L2
end DL
end
section
set_option maxRecDepth 100000
namespace DL
open PySem L2
def nI (l : List Nat) : List Int := l.map fun (j : Nat) => (j : Int)
end DL
end
section
set_option maxRecDepth 100000
namespace DL
open PySem L2
end DL
end
section
set_option maxRecDepth 100000
namespace DL
open PySem L2
theorem str_ext {x y : Str} (h : x.cps.toList = y.cps.toList) : x = y := PySem.W.str_of_cps h
theorem lt_iff {a b : It2} : ltI a b = true ↔ a.1 < b.1 ∨ (a.1 = b.1 ∧ a.2.cps.toList < b.2.cps.toList) := by simp [ltI]
theorem lt_irr (a : It2) : ltI a a = false := by
  cases h : ltI a a with
  | false => rfl
  | true => rcases lt_iff.mp h with h | ⟨_, h⟩
            · omega
            · exact absurd h (List.lt_irrefl _)
theorem lt_tr {a b c : It2} (h1 : ltI a b = true) (h2 : ltI b c = true) : ltI a c = true := by
  rw [lt_iff] at *
  rcases h1 with h1 | ⟨e1, h1⟩ <;> rcases h2 with h2 | ⟨e2, h2⟩
  · left; omega
  · left; omega
  · left; omega
  · right; exact ⟨by omega, List.lt_trans h1 h2⟩
theorem lt_tot {a b : It2} (h1 : ltI a b = false) (h2 : ltI b a = false) : a = b := by
  have h1' : ¬ (a.1 < b.1 ∨ (a.1 = b.1 ∧ a.2.cps.toList < b.2.cps.toList)) := fun z => by rw [lt_iff.mpr z] at h1; cases h1
  have h2' : ¬ (b.1 < a.1 ∨ (b.1 = a.1 ∧ b.2.cps.toList < a.2.cps.toList)) := fun z => by rw [lt_iff.mpr z] at h2; cases h2
  have e : a.1 = b.1 := by
    by_cases z : a.1 < b.1
    · exact absurd (.inl z) h1'
    · by_cases z2 : b.1 < a.1
      · exact absurd (.inl z2) h2'
      · omega
  have l1 : ¬ a.2.cps.toList < b.2.cps.toList := fun z => h1' (.inr ⟨e, z⟩)
  have l2 : ¬ b.2.cps.toList < a.2.cps.toList := fun z => h2' (.inr ⟨e.symm, z⟩)
  have := List.le_antisymm (List.not_lt.mp l2) (List.not_lt.mp l1)
  exact Prod.ext e (str_ext this)
def leI (a b : It2) : Bool := !ltI b a
theorem le_tr {a b c : It2} (h1 : leI a b = true) (h2 : leI b c = true) : leI a c = true := by
  unfold leI at *
  simp only [Bool.not_eq_true'] at *
  cases h : ltI c a with
  | false => rfl
  | true =>
    -- c < a, not b < a, not c < b
    cases h3 : ltI a b with
    | true => have := lt_tr h h3; rw [h2] at this; cases this
    | false => have := lt_tot h3 h1; subst this; rw [h2] at h; cases h
theorem le_refl (a : It2) : leI a a = true := by simp [leI, lt_irr]
abbrev Up (l : List It2) : Prop := l.Pairwise fun a b => leI a b = true
def gI (l : List It2) (k : Nat) : It2 := l.getD k (0, "")
theorem gI_at (l : List It2) (k : Nat) (h : k < l.length) : l[k]? = some (gI l k) := by
  unfold gI; rw [List.getD_eq_getElem?_getD, List.getElem?_eq_getElem h]; rfl
theorem gI_get (l : List It2) (k : Nat) (h : k < l.length) : l[k] = gI l k := by
  have := gI_at l k h; rw [List.getElem?_eq_getElem h] at this; exact Option.some.inj this
theorem gI_app (l m : List It2) (k : Nat) : gI (l ++ m) k = if k < l.length then gI l k else gI m (k - l.length) := by
  unfold gI
  rw [List.getD_eq_getElem?_getD, List.getD_eq_getElem?_getD, List.getD_eq_getElem?_getD, List.getElem?_append]
  split <;> rfl
def ris (l : List It2) : Bool := (List.range (l.length - 1)).all fun k => !ltI (gI l (k + 1)) (gI l k)
theorem ris_iff (l : List It2) : ris l = true ↔ Up l := by
  unfold ris
  rw [List.all_eq_true]
  constructor
  · intro h
    refine List.pairwise_iff_getElem.mpr ?_
    have key : ∀ d i, (hi : i + d + 1 < l.length) → leI (gI l i) (gI l (i + d + 1)) = true := by
      intro d
      induction d with
      | zero =>
        intro i hi
        have := h i (by simp; omega)
        exact this
      | succ d ih =>
        intro i hi
        have h1 := ih i (by omega)
        have h2 := h (i + d + 1) (by simp; omega)
        exact le_tr h1 h2
    intro i j hi hj hij
    have := key (j - i - 1) i (by omega)
    have e : i + (j - i - 1) + 1 = j := by omega
    rw [e] at this
    rw [gI_get l i hi, gI_get l j hj]
    exact this
  · intro h k hk
    have hk : k < l.length - 1 := by simpa using hk
    have := List.pairwise_iff_getElem.mp h k (k + 1) (by omega) (by omega) (by omega)
    rw [gI_get l k (by omega), gI_get l (k + 1) (by omega)] at this
    exact this
@[simp] theorem itm_Fz (p : It2) : Fz (itm p) = true := rfl
def tagL : List Str := ["", "a", "b", "ab", "ba", "z", "abcdefgh"]
def wIt (p : It2) : Bool := decide (p.2 ∈ tagL) && decide (-10000000000000000000000000000000000000000 < p.1 ∧ p.1 < 10000000000000000000000000000000000000000)
abbrev wR (l : List It2) : Bool := l.all wIt
theorem w_tag {p : It2} (h : wIt p = true) : p.2 ∈ tagL := by
  simp only [wIt, Bool.and_eq_true, decide_eq_true_eq] at h
  exact h.1
theorem w_ok {p : It2} (h : wIt p = true) : tagOk p = true := by
  have : ∀ t ∈ tagL, PyData.strOk t = true := by decide +kernel
  exact this _ (w_tag h)
theorem wR_ok {l : List It2} (h : wR l = true) : okR l = true := by
  rw [List.all_eq_true] at *
  exact fun p hp => w_ok (h p hp)
end DL
end
section
set_option maxRecDepth 100000
namespace DL
open PySem L2
def gT (l : List Nat) (i : Nat) : Nat := l.getD i 0
theorem gT_at (l : List Nat) (i : Nat) (h : i < l.length) : l[i]? = some (gT l i) := by
  unfold gT; rw [List.getD_eq_getElem?_getD, List.getElem?_eq_getElem h]; rfl
theorem gT_set (l : List Nat) (i j v : Nat) (h : i < l.length) : gT (l.set i v) j = if j = i then v else gT l j := by
  unfold gT
  rw [List.getD_eq_getElem?_getD, List.getD_eq_getElem?_getD, List.getElem?_set]
  by_cases e : j = i
  · subst e; simp [h]
  · have e' : ¬ i = j := fun z => e z.symm
    simp [e, e']
def gR (L : List (List It2)) (i : Nat) : List It2 := L.getD i []
theorem gR_at (L : List (List It2)) (i : Nat) (h : i < L.length) : L[i]? = some (gR L i) := by
  unfold gR; rw [List.getD_eq_getElem?_getD, List.getElem?_eq_getElem h]; rfl
theorem gR_get (L : List (List It2)) (i : Nat) (h : i < L.length) : L[i] = gR L i := by
  have := gR_at L i h; rw [List.getElem?_eq_getElem h] at this; exact Option.some.inj this
theorem gR_mem (L : List (List It2)) (i : Nat) (h : i < L.length) : gR L i ∈ L := by rw [← gR_get L i h]; exact List.getElem_mem h
/-- the first item left of a run -/
def hd (L : List (List It2)) (g : List Nat) (k : Nat) : It2 := gI (gR L k) (gT g k)
def nextTo (L : List (List It2)) (g : List Nat) : Nat → Option Nat
  | 0 => none
  | j + 1 => if gT g j < (gR L j).length then (match nextTo L g j with
      | none => some j
      | some f => if ltI (hd L g j) (hd L g f) then some j else some f) else nextTo L g j
theorem nextTo_some {L : List (List It2)} {g : List Nat} : ∀ {j f : Nat}, nextTo L g j = some f → f < j ∧ gT g f < (gR L f).length
  | 0, f, h => by cases h
  | j + 1, f, h => by
    unfold nextTo at h
    by_cases c : gT g j < (gR L j).length
    · rw [if_pos c] at h
      cases e : nextTo L g j with
      | none => rw [e] at h; cases h; exact ⟨by omega, c⟩
      | some f' =>
        rw [e] at h
        dsimp only at h
        split at h
        · cases h; exact ⟨by omega, c⟩
        · cases h
          have := nextTo_some e
          exact ⟨by omega, this.2⟩
    · rw [if_neg c] at h
      have := nextTo_some h
      exact ⟨by omega, this.2⟩
theorem nextTo_none {L : List (List It2)} {g : List Nat} : ∀ {j : Nat}, nextTo L g j = none → ∀ k, k < j → ¬ gT g k < (gR L k).length
  | 0, h, k, hk => by omega
  | j + 1, h, k, hk => by
    unfold nextTo at h
    by_cases c : gT g j < (gR L j).length
    · rw [if_pos c] at h
      cases e : nextTo L g j with
      | none => rw [e] at h; cases h
      | some f' =>
        rw [e] at h
        dsimp only at h
        split at h <;> cases h
    · rw [if_neg c] at h
      by_cases z : k = j
      · subst z; exact c
      · exact nextTo_none h k (by omega)
def next (L : List (List It2)) (g : List Nat) : Option Nat := nextTo L g L.length
structure PSt where
  g : List Nat
  row : List It2
  tr : List Nat
def take1P (L : List (List It2)) (s : PSt) (f : Nat) : PSt := ⟨s.g.set f (gT s.g f + 1), s.row ++ [hd L s.g f], s.tr ++ [f]⟩
def pst (L : List (List It2)) : Nat → PSt
  | 0 => ⟨List.replicate L.length 0, [], []⟩
  | n + 1 => match next L (pst L n).g with
    | some f => take1P L (pst L n) f
    | none => pst L n
def tot (L : List (List It2)) : Nat := (L.map (·.length)).sum
theorem sum_set (l : List Nat) (i : Nat) (h : i < l.length) : (l.set i (gT l i + 1)).sum = l.sum + 1 := by
  induction l generalizing i with
  | nil => simp at h
  | cons a l ih =>
    cases i with
    | zero => simp [gT]; omega
    | succ i =>
      have := ih i (by simpa using h)
      have e : gT (a :: l) (i + 1) = gT l i := rfl
      rw [e]
      simp [this]; omega
theorem sum_le : ∀ (L : List (List It2)) (g : List Nat), g.length = L.length → (∀ k, k < L.length → gT g k ≤ (gR L k).length) → g.sum ≤ tot L ∧ (g.sum = tot L → ∀ k, k < L.length → gT g k = (gR L k).length)
  | [], [], _, _ => ⟨by simp [tot], fun _ k hk => by simp at hk⟩
  | l :: L, a :: g, hl, h => by
    have h0 := h 0 (by simp)
    have ih := sum_le L g (by simpa using hl) fun k hk => h (k + 1) (by simpa using hk)
    have h0 : a ≤ l.length := h0
    have et : tot (l :: L) = l.length + tot L := by simp [tot]
    refine ⟨by rw [et, List.sum_cons]; omega, fun e k hk => ?_⟩
    rw [et, List.sum_cons] at e
    cases k with
    | zero => show a = l.length; omega
    | succ k => exact ih.2 (by omega) k (by simpa using hk)
  | [], _ :: _, hl, _ => by simp at hl
  | _ :: _, [], hl, _ => by simp at hl
theorem pst_inv (L : List (List It2)) : ∀ n, n ≤ tot L → (pst L n).g.length = L.length ∧ (∀ k, k < L.length → gT (pst L n).g k ≤ (gR L k).length) ∧ (pst L n).g.sum = n ∧ (pst L n).row.length = n ∧ (pst L n).tr.length = n ∧ ∀ f ∈ (pst L n).tr, f < L.length
  | 0, h => by
    refine ⟨by simp [pst], fun k hk => ?_, by simp [pst], rfl, rfl, by simp [pst]⟩
    have : gT (List.replicate L.length 0) k = 0 := by simp [gT, hk]
    show gT (List.replicate L.length 0) k ≤ _
    omega
  | n + 1, h => by
    obtain ⟨h1, h2, h3, h4, h5, h6⟩ := pst_inv L n (by omega)
    have hs := sum_le L _ h1 h2
    cases e : next L (pst L n).g with
    | none =>
      exfalso
      have hn := nextTo_none e
      have : (pst L n).g.sum = tot L := by
        have key : ∀ (L : List (List It2)) (g : List Nat), g.length = L.length → (∀ k, k < L.length → gT g k = (gR L k).length) → g.sum = tot L := by
          intro L
          induction L with
          | nil => intro g hg _; cases g with
            | nil => rfl
            | cons a g => simp at hg
          | cons l L ih =>
            intro g hg hk
            cases g with
            | nil => simp at hg
            | cons a g =>
              have := ih g (by simpa using hg) fun k hk' => hk (k + 1) (by simpa using hk')
              have h0 : a = l.length := hk 0 (by simp)
              simp [tot] at this ⊢
              omega
        exact key L _ h1 fun k hk => by have := hn k hk; have := h2 k hk; omega
      omega
    | some f =>
      obtain ⟨s1, s2⟩ := nextTo_some e
      have ep : pst L (n + 1) = take1P L (pst L n) f := by show (match next L (pst L n).g with | some f => take1P L (pst L n) f | none => pst L n) = _; rw [e]
      rw [ep]
      refine ⟨by simp [take1P, h1], fun k hk => ?_, ?_, by simp [take1P, h4], by simp [take1P, h5], fun x hx => ?_⟩
      · show gT ((pst L n).g.set f (gT (pst L n).g f + 1)) k ≤ _
        rw [gT_set _ _ _ _ (by omega)]
        split
        · rename_i q; subst q; omega
        · exact h2 k hk
      · show ((pst L n).g.set f (gT (pst L n).g f + 1)).sum = n + 1
        rw [sum_set _ _ (by omega), h3]
      · have hx : x ∈ (pst L n).tr ++ [f] := hx
        rcases List.mem_append.mp hx with hx | hx
        · exact h6 x hx
        · have : x = f := by simpa using hx
          omega
theorem pst_next (L : List (List It2)) (n : Nat) (h : n < tot L) : ∃ f, next L (pst L n).g = some f ∧ f < L.length ∧ gT (pst L n).g f < (gR L f).length ∧ pst L (n + 1) = take1P L (pst L n) f := by
  obtain ⟨h1, h2, h3, -⟩ := pst_inv L n (by omega)
  obtain ⟨-, -, h3', -⟩ := pst_inv L (n + 1) (by omega)
  cases e : next L (pst L n).g with
  | none =>
    have ep : pst L (n + 1) = pst L n := by show (match next L (pst L n).g with | some f => take1P L (pst L n) f | none => pst L n) = _; rw [e]
    rw [ep] at h3'; omega
  | some f =>
    obtain ⟨s1, s2⟩ := nextTo_some e
    exact ⟨f, rfl, s1, s2, by show (match next L (pst L n).g with | some f => take1P L (pst L n) f | none => pst L n) = _; rw [e]⟩
theorem pst_end (L : List (List It2)) : next L (pst L (tot L)).g = none := by
  obtain ⟨h1, h2, h3, -⟩ := pst_inv L (tot L) (Nat.le_refl _)
  have := (sum_le L _ h1 h2).2 h3
  cases e : next L (pst L (tot L)).g with
  | none => rfl
  | some f =>
    obtain ⟨s1, s2⟩ := nextTo_some e
    have := this f s1
    omega
def poured (L : List (List It2)) : List It2 := (pst L (tot L)).row
def traced (L : List (List It2)) : List Nat := (pst L (tot L)).tr
theorem poured_len (L : List (List It2)) : (poured L).length = tot L := (pst_inv L _ (Nat.le_refl _)).2.2.2.1
theorem traced_len (L : List (List It2)) : (traced L).length = tot L := (pst_inv L _ (Nat.le_refl _)).2.2.2.2.1
@[simp] theorem fzs_LL {α : Type} (f : α → D) [FzF f] (m : Bool) (xs : List (List α)) : fzs (em (eL m f) xs) = em (eL false f) xs := by
  rw [fzs_map]
  simp only [em, List.map_map]
  refine List.map_congr_left fun x _ => ?_
  show fz (.nd (.lst m) (em f x)) = _
  simp
end DL
end
section
set_option maxRecDepth 100000
namespace DL
open PySem L2
/-- how often each number stands among the first n -/
def cn (w : Nat) (ms : List Nat) (n : Nat) : List Nat := (List.range w).map fun k => (ms.take n).count k
theorem cn_len (w : Nat) (ms : List Nat) (n : Nat) : (cn w ms n).length = w := by simp [cn]
theorem cn_at (w : Nat) (ms : List Nat) (n k : Nat) (h : k < w) : gT (cn w ms n) k = (ms.take n).count k := by
  have := gT_at (cn w ms n) k (by rw [cn_len]; exact h)
  simp [cn, h] at this
  exact this.symm
theorem gT_ext {l m : List Nat} (hl : l.length = m.length) (h : ∀ j, j < l.length → gT l j = gT m j) : l = m := by
  refine List.ext_getElem hl fun j h1 h2 => ?_
  have a := gT_at l j h1
  have b := gT_at m j h2
  rw [List.getElem?_eq_getElem h1] at a
  rw [List.getElem?_eq_getElem h2] at b
  rw [Option.some.inj a, Option.some.inj b]; exact h j h1
theorem cn_succ (w : Nat) (ms : List Nat) (n : Nat) (hn : n < ms.length) (hm : gT ms n < w) : cn w ms (n + 1) = (cn w ms n).set (gT ms n) (gT (cn w ms n) (gT ms n) + 1) := by
  have e : ms.take (n + 1) = ms.take n ++ [gT ms n] := by
    rw [List.take_succ, gT_at ms n hn]; rfl
  refine gT_ext (by simp [cn_len]) fun k hk => ?_
  rw [cn_len] at hk
  rw [gT_set _ _ _ _ (by rw [cn_len]; exact hm), cn_at _ _ _ _ hk, e, List.count_append]
  by_cases q : k = gT ms n
  · subst q; rw [if_pos rfl, cn_at _ _ _ _ hk]; simp
  · have q' : ¬ gT ms n = k := fun z => q z.symm
    rw [if_neg q, cn_at _ _ _ _ hk]; simp [List.count_cons, q']
theorem cn_0 (w : Nat) (ms : List Nat) : cn w ms 0 = List.replicate w 0 := by simp [cn, List.map_const']
theorem pst_cn (L : List (List It2)) : ∀ n, n ≤ tot L → (∀ m, m ≤ n → (pst L n).tr.take m = (pst L m).tr) ∧ (pst L n).g = cn L.length (pst L n).tr n
  | 0, h => ⟨fun m hm => by have : m = 0 := by omega
                            subst this; rfl, by simp [pst, cn_0]⟩
  | n + 1, h => by
    obtain ⟨h1, h2⟩ := pst_cn L n (by omega)
    obtain ⟨i1, i2, i3, i4, i5, i6⟩ := pst_inv L n (by omega)
    obtain ⟨f, e, a1, a2, a3⟩ := pst_next L n (by omega)
    have et : (pst L (n + 1)).tr = (pst L n).tr ++ [f] := by rw [a3]; rfl
    have eg : (pst L (n + 1)).g = (pst L n).g.set f (gT (pst L n).g f + 1) := by rw [a3]; rfl
    have tk : ∀ m, m ≤ n → (pst L (n + 1)).tr.take m = (pst L m).tr := fun m hm => by
      rw [et, List.take_append_of_le_length (by omega)]; exact h1 m hm
    refine ⟨fun m hm => ?_, ?_⟩
    · by_cases q : m = n + 1
      · subst q; rw [et, List.take_of_length_le (by simp; omega)]
      · exact tk m (by omega)
    · have hf : gT (pst L (n + 1)).tr n = f := by
        rw [et]; simp [gT, i5]
      have e1 : cn L.length (pst L (n + 1)).tr n = cn L.length (pst L n).tr n := by
        unfold cn; rw [tk n (Nat.le_refl _)]
        have : (pst L n).tr.take n = (pst L n).tr := List.take_of_length_le (by omega)
        rw [this]
      rw [cn_succ _ _ _ (by rw [et]; simp; omega) (by rw [hf]; exact a1), hf, e1, ← h2, eg]
theorem traced_take (L : List (List It2)) (n : Nat) (h : n ≤ tot L) : (traced L).take n = (pst L n).tr := (pst_cn L (tot L) (Nat.le_refl _)).1 n h
theorem traced_at (L : List (List It2)) (n : Nat) (h : n < tot L) : next L (pst L n).g = some (gT (traced L) n) ∧ gT (traced L) n < L.length ∧ gT (pst L n).g (gT (traced L) n) < (gR L (gT (traced L) n)).length ∧ gI (poured L) n = hd L (pst L n).g (gT (traced L) n) := by
  obtain ⟨f, e, a1, a2, a3⟩ := pst_next L n h
  obtain ⟨i1, i2, i3, i4, i5, i6⟩ := pst_inv L n (by omega)
  have et : (pst L (n + 1)).tr = (pst L n).tr ++ [f] := by rw [a3]; rfl
  have er : (pst L (n + 1)).row = (pst L n).row ++ [hd L (pst L n).g f] := by rw [a3]; rfl
  have ef : gT (traced L) n = f := by
    have t := traced_take L (n + 1) (by omega)
    rw [et] at t
    have h1 : ((traced L).take (n + 1))[n]? = some f := by rw [t, List.getElem?_append_right (by omega), i5]; simp
    rw [List.getElem?_take, if_pos (by omega), gT_at _ _ (by rw [traced_len]; exact h)] at h1
    exact Option.some.inj h1
  have rk : ∀ m, m ≤ tot L → ∀ n, n ≤ m → (pst L m).row.take n = (pst L n).row := by
    intro m
    induction m with
    | zero => intro _ n hn; have : n = 0 := by omega
              subst this; rfl
    | succ m ih =>
      intro hm n hn
      obtain ⟨f, e, a1, a2, a3⟩ := pst_next L m (by omega)
      obtain ⟨i1, i2, i3, i4, i5, i6⟩ := pst_inv L m (by omega)
      have er : (pst L (m + 1)).row = (pst L m).row ++ [hd L (pst L m).g f] := by rw [a3]; rfl
      by_cases q : n = m + 1
      · subst q; rw [er, List.take_of_length_le (by simp; omega)]
      · rw [er, List.take_append_of_le_length (by omega)]; exact ih (by omega) n (by omega)
  have er2 : gI (poured L) n = hd L (pst L n).g f := by
    have t := rk (tot L) (Nat.le_refl _) (n + 1) (by omega)
    rw [er] at t
    have h1 : ((poured L).take (n + 1))[n]? = some (hd L (pst L n).g f) := by
      have : (poured L).take (n + 1) = _ := t
      rw [this, List.getElem?_append_right (by omega), i4]; simp
    rw [List.getElem?_take, if_pos (by omega), gI_at _ _ (by rw [poured_len]; exact h)] at h1
    exact Option.some.inj h1
  exact ⟨by rw [ef]; exact e, by rw [ef]; exact a1, by rw [ef]; exact a2, by rw [ef]; exact er2⟩
def natS (l : List It2) (s : List (List It2)) (j : Nat) : List (List It2) :=
  if j = 0 ∨ ltI (gI l j) (gI l (j - 1)) = true then s ++ [[gI l j]] else s.dropLast ++ [gR s (s.length - 1) ++ [gI l j]]
def natR (l : List It2) : Nat → List (List It2)
  | 0 => []
  | j + 1 => natS l (natR l j) j
theorem natR_inv (l : List It2) : ∀ j, j ≤ l.length → (natR l j).flatten = l.take j ∧ (∀ r ∈ natR l j, Up r ∧ r.length ≤ j) ∧ (natR l j).length ≤ j ∧ (0 < j → ∃ s r, natR l j = s ++ [r ++ [gI l (j - 1)]])
  | 0, h => ⟨rfl, by simp [natR], Nat.le_refl _, fun z => by omega⟩
  | j + 1, h => by
    obtain ⟨h1, h2, h3, h4⟩ := natR_inv l j (by omega)
    have et : l.take (j + 1) = l.take j ++ [gI l j] := by rw [List.take_succ, gI_at l j (by omega)]; rfl
    have e : natR l (j + 1) = natS l (natR l j) j := rfl
    rw [e]
    unfold natS
    by_cases c : j = 0 ∨ ltI (gI l j) (gI l (j - 1)) = true
    · rw [if_pos c]
      refine ⟨by simp [h1, et], fun r hr => ?_, by simp; omega, fun _ => ⟨natR l j, [], by simp⟩⟩
      rcases List.mem_append.mp hr with hr | hr
      · exact ⟨(h2 r hr).1, by have := (h2 r hr).2; omega⟩
      · have : r = [gI l j] := by simpa using hr
        subst this
        exact ⟨List.pairwise_singleton _ _, by simp⟩
    · rw [if_neg c]
      have hj : 0 < j := by
        cases j with
        | zero => exact absurd (.inl rfl) c
        | succ j => omega
      obtain ⟨s, r, er⟩ := h4 hj
      have hl : ltI (gI l j) (gI l (j - 1)) = false := by
        cases q : ltI (gI l j) (gI l (j - 1)) with
        | false => rfl
        | true => exact absurd (.inr q) c
      have eg : gR (natR l j) ((natR l j).length - 1) = r ++ [gI l (j - 1)] := by
        rw [er]; simp [gR]
      rw [eg]
      have ed : (natR l j).dropLast = s := by rw [er]; simp
      rw [ed]
      have hu := h2 (r ++ [gI l (j - 1)]) (by rw [er]; simp)
      refine ⟨?_, fun x hx => ?_, ?_, fun _ => ⟨s, r ++ [gI l (j - 1)], by simp⟩⟩
      · rw [er] at h1
        simp at h1 ⊢
        rw [et, ← h1]; simp
      · rcases List.mem_append.mp hx with hx | hx
        · have := h2 x (by rw [er]; simp [hx])
          exact ⟨this.1, by omega⟩
        · have : x = r ++ [gI l (j - 1)] ++ [gI l j] := by simpa using hx
          subst this
          refine ⟨List.pairwise_append.mpr ⟨hu.1, List.pairwise_singleton _ _, fun a ha b hb => ?_⟩, by have := hu.2; simp at this ⊢; omega⟩
          have : b = gI l j := by simpa using hb
          subst this
          have le1 : leI (gI l (j - 1)) (gI l j) = true := by unfold leI; rw [hl]; rfl
          rcases List.mem_append.mp ha with ha | ha
          · have := (List.pairwise_append.mp hu.1).2.2 a ha (gI l (j - 1)) (by simp)
            exact le_tr this le1
          · have : a = gI l (j - 1) := by simpa using ha
            subst this; exact le1
      · rw [er] at h3; simp at h3 ⊢; omega
def nat (l : List It2) : List (List It2) := natR l l.length
theorem nat_flat (l : List It2) : (nat l).flatten = l := by
  have := (natR_inv l l.length (Nat.le_refl _)).1
  rw [List.take_length] at this; exact this
theorem nat_up (l : List It2) : ∀ r ∈ nat l, Up r := fun r hr => ((natR_inv l l.length (Nat.le_refl _)).2.1 r hr).1
theorem tot_flat (L : List (List It2)) : tot L = L.flatten.length := by simp [tot, List.length_flatten]
end DL
end
section
set_option maxRecDepth 100000
namespace DL
open PySem L2
end DL
end
section
set_option maxRecDepth 100000
namespace DL
open PySem L2
def ca (pre : List It2) (x : It2) : Nat := (pre.filter fun p => ltI x p).length
def cs : List It2 → List It2 → List Nat
  | _, [] => []
  | pre, x :: l => ca pre x :: cs (pre ++ [x]) l
def mxl : List Nat → Nat
  | [] => 0
  | a :: l => max a (mxl l)
def fr (l : List It2) : Nat := mxl (cs [] l)
def ahd (l : List It2) (k : Nat) : List Nat := (List.range k).filter fun j => ltI (gI l k) (gI l j)
def cnt (l : List It2) (k : Nat) : Nat := (ahd l k).length
theorem mxl_app : ∀ (a b : List Nat), mxl (a ++ b) = max (mxl a) (mxl b)
  | [], b => by show mxl b = max 0 (mxl b); omega
  | x :: a, b => by
    show max x (mxl (a ++ b)) = max (max x (mxl a)) (mxl b)
    rw [mxl_app a b]; omega
theorem take_range (l : List It2) (k : Nat) (h : k ≤ l.length) : l.take k = (List.range k).map (gI l) := by
  refine List.ext_getElem (by simp; omega) fun j h1 h2 => ?_
  simp only [List.getElem_take, List.getElem_map, List.getElem_range]
  exact gI_get l j _
theorem cnt_ca (l : List It2) (k : Nat) (h : k ≤ l.length) : cnt l k = ca (l.take k) (gI l k) := by
  unfold cnt ahd ca
  rw [take_range l k h, List.filter_map, List.length_map]; rfl
theorem cs_range (l : List It2) : ∀ (r pre : List It2), l = pre ++ r → cs pre r = (List.range r.length).map fun k => cnt l (pre.length + k)
  | [], pre, h => rfl
  | x :: r, pre, h => by
    have ih := cs_range l r (pre ++ [x]) (by rw [h]; simp)
    rw [List.length_cons, List.range_succ_eq_map, List.map_cons, List.map_map]
    show ca pre x :: cs (pre ++ [x]) r = _
    rw [ih]
    congr 1
    · rw [cnt_ca l _ (by rw [h]; simp), h]
      have e1 : (pre ++ x :: r).take (pre.length + 0) = pre := by simp
      have e2 : gI (pre ++ x :: r) (pre.length + 0) = x := by rw [gI_app, if_neg (by omega)]; simp [gI]
      rw [e1, e2]
    · refine List.map_congr_left fun k _ => ?_
      show cnt l ((pre ++ [x]).length + k) = cnt l (pre.length + Nat.succ k)
      congr 1; simp; omega
def cnts (l : List It2) : List Nat := (List.range l.length).map (cnt l)
theorem cnts_cs (l : List It2) : cs [] l = cnts l := by
  have := cs_range l l [] rfl
  rw [this]; unfold cnts
  exact List.map_congr_left fun k _ => by simp
theorem fr_cnts (l : List It2) : mxl (cnts l) = fr l := by rw [← cnts_cs]; rfl
/-- where neighbours stand wrongly -/
def pl (l : List It2) : List Nat := ((List.range (l.length - 1)).filter fun j => ltI (gI l (j + 1)) (gI l j)).map (1 + ·)
end DL
end
section
set_option maxRecDepth 100000
namespace DL
open PySem L2
inductive Pl where
  | lf (n : Nat)
  | nd (ps : List Pl)
mutual
def plD : Pl → D
  | .lf n => eN n
  | .nd ps => .nd .tup (plDs ps)
def plDs : List Pl → List D
  | [] => []
  | p :: ps => plD p :: plDs ps
end
@[simp] theorem plD_lf (n : Nat) : plD (.lf n) = .sc (.int n) := by simp [plD]
mutual
theorem plD_Fz : ∀ p, Fz (plD p) = true
  | .lf n => rfl
  | .nd ps => by
    show Fzs (plDs ps) = true
    exact plDs_Fz ps
theorem plDs_Fz : ∀ ps, Fzs (plDs ps) = true
  | [] => rfl
  | p :: ps => by
    show (Fz (plD p) && Fzs (plDs ps)) = true
    rw [plD_Fz p, plDs_Fz ps]; rfl
end
instance : FzF plD := ⟨plD_Fz⟩
mutual
def num : Pl → List Nat
  | .lf n => [n]
  | .nd ps => nums ps
def nums : List Pl → List Nat
  | [] => []
  | p :: ps => num p ++ nums ps
end
end DL
end
section
set_option maxRecDepth 100000
namespace DL
open PySem L2
/-- the text of signs -/
abbrev sgT (l : List Nat) : Str := ⟨l.toArray⟩
theorem tl_sgT (l : List Nat) : TL.tl (sgT l) = l := rfl
theorem sgT_len (l : List Nat) : (sgT l).length = l.length := by simp [Str.length]
theorem str_len (x : Str) : x.length = x.cps.toList.length := TL.len_tl x
/-- the signs of a whole number -/
def nS (i : Int) : List Nat := if i < 0 then 45 :: TL.numL i.natAbs else TL.numL i.natAbs
def iTx (i : Int) : Str := Str.ofString (toString i)
@[simp] theorem iTx_fold (i : Int) : Str.ofString (Int.repr i) = iTx i := id rfl
@[simp] theorem ev_fSl_s (z : Str) (lo hi : Option Int) : fSl (.sc (.str z)) lo hi = (if lenOk z.length then some (.sc (.str (cutS z lo hi))) else none) := by simp only [← len_if]; exact id rfl
theorem tl_iTx (i : Int) : TL.tl (iTx i) = nS i := by
  unfold nS
  cases i with
  | ofNat m =>
    have : ¬ (Int.ofNat m < 0) := by simp
    rw [if_neg this]
    exact TL.tl_num m
  | negSucc m =>
    rw [if_pos (Int.negSucc_lt_zero m)]
    show (Str.ofString (toString (Int.negSucc m))).cps.toList = _
    have e : toString (Int.negSucc m) = "-" ++ Nat.repr (m + 1) := rfl
    rw [PyProof.Rows.signs_ofString, e, String.toList_append, List.map_append, Nat.toList_repr]
    rfl
theorem iTx_eq (i : Int) : iTx i = sgT (nS i) := TL.ext_tl (by rw [tl_iTx])
theorem big40 {i : Int} (h : -10000000000000000000000000000000000000000 < i ∧ i < 10000000000000000000000000000000000000000) : i.natAbs < 10 ^ 40 := by
  have : (10 : Nat) ^ 40 = 10000000000000000000000000000000000000000 := by decide +kernel
  omega
theorem log40 {i : Int} (h : -10000000000000000000000000000000000000000 < i ∧ i < 10000000000000000000000000000000000000000) : i.natAbs.log2 < 1920 := by
  by_cases z : i.natAbs = 0
  · rw [z]; decide
  · have h1 : i.natAbs < 2 ^ 140 := by
      have : (2 : Nat) ^ 140 = 1393796574908163946345982392040522594123776 := by decide +kernel
      omega
    have := (Nat.log2_lt z).mpr h1
    omega
theorem num_len {i : Int} (h : -10000000000000000000000000000000000000000 < i ∧ i < 10000000000000000000000000000000000000000) : (TL.numL i.natAbs).length ≤ 40 := TL.numL_len (by omega) (big40 h)
theorem nS_len {i : Int} (h : -10000000000000000000000000000000000000000 < i ∧ i < 10000000000000000000000000000000000000000) : (nS i).length ≤ 41 := by
  have := num_len h
  unfold nS; split <;> simp <;> omega
theorem iTx_len {i : Int} (h : -10000000000000000000000000000000000000000 < i ∧ i < 10000000000000000000000000000000000000000) : (iTx i).length ≤ 41 := by
  rw [str_len]
  have : (iTx i).cps.toList = nS i := tl_iTx i
  rw [this]; exact nS_len h
theorem nS_sign {i : Int} {c : Nat} (h : c ∈ nS i) : c = 45 ∨ (48 ≤ c ∧ c ≤ 57) := by
  unfold nS at h
  split at h
  · rcases List.mem_cons.mp h with rfl | h
    · exact .inl rfl
    · exact .inr (TL.numL_digits _ c h)
  · exact .inr (TL.numL_digits _ c h)
theorem nS_ne (i : Int) : nS i ≠ [] := by
  unfold nS; split
  · simp
  · exact TL.numL_ne _
/-- the first figure of a number is no nought, but that of nought -/
theorem numL_head : ∀ (n : Nat) (r : List Nat), TL.numL n = 48 :: r → n = 0 := by
  intro n
  induction n using Nat.strongRecOn with
  | _ n ih =>
    intro r h
    by_cases hn : n < 10
    · rw [TL.numL_lt hn] at h
      injection h with h1 h2
      omega
    · rw [TL.numL_step (by omega)] at h
      cases e : TL.numL (n / 10) with
      | nil => exact absurd e (TL.numL_ne _)
      | cons c q =>
        rw [e, List.cons_append] at h
        injection h with h1 h2
        subst h1
        have := ih (n / 10) (by omega) q e
        omega
theorem num_read {n : Nat} (h : (TL.numL n).length ≤ 4300) : PySem.intText? (sgT (TL.numL n)) = some (n : Int) := by
  have e := PySem.intText_digits (x := sgT (TL.numL n)) (TL.numL_digits n) (TL.numL_ne n) (by rw [sgT_len]; exact h)
  have v := TL.numL_val n
  have e2 : (sgT (TL.numL n)).cps.toList = TL.numL n := rfl
  rw [e2, v] at e
  exact e
theorem str_app_len (x y : Str) : (x ++ y).length = x.length + y.length := by
  rw [TL.len_tl, TL.tl_append, List.length_append, ← TL.len_tl, ← TL.len_tl]
/-- the text of an item -/
def iT (p : It2) : Str := if p.2 = "" then iTx p.1 else iTx p.1 ++ (":" : Str) ++ p.2
theorem tag_len {t : Str} (h : t ∈ tagL) : t.length ≤ 8 := by
  have : ∀ t ∈ tagL, t.length ≤ 8 := by decide +kernel
  exact this t h
theorem tag_low {t : Str} (h : t ∈ tagL) : ∀ c ∈ t.cps.toList, 97 ≤ c ∧ c ≤ 122 := by
  have : ∀ t ∈ tagL, ∀ c ∈ t.cps.toList, 97 ≤ c ∧ c ≤ 122 := by decide +kernel
  exact this t h
theorem w_key {p : It2} (h : wIt p = true) : -10000000000000000000000000000000000000000 < p.1 ∧ p.1 < 10000000000000000000000000000000000000000 := by
  simp only [wIt, Bool.and_eq_true, decide_eq_true_eq] at h
  exact h.2
theorem iT_len {p : It2} (h : wIt p = true) : (iT p).length ≤ 50 := by
  have h1 := iTx_len (w_key h)
  have h2 := tag_len (w_tag h)
  unfold iT
  split
  · omega
  · rw [str_app_len, str_app_len]
    have : (":" : Str).length = 1 := rfl
    omega
theorem tl_iT (p : It2) : TL.tl (iT p) = nS p.1 ++ (if p.2 = "" then [] else 58 :: p.2.cps.toList) := by
  unfold iT
  split
  · rw [tl_iTx, List.append_nil]
  · rw [TL.tl_append, TL.tl_append, tl_iTx, List.append_assoc]; rfl
theorem iT_sign {p : It2} (h : wIt p = true) {c : Nat} (hc : c ∈ TL.tl (iT p)) : c = 45 ∨ (48 ≤ c ∧ c ≤ 58) ∨ (97 ≤ c ∧ c ≤ 122) := by
  rw [tl_iT] at hc
  rcases List.mem_append.mp hc with hc | hc
  · have := nS_sign hc; omega
  · split at hc
    · cases hc
    · rcases List.mem_cons.mp hc with rfl | hc
      · omega
      · have := tag_low (w_tag h) c hc; omega
theorem iT_ne (p : It2) : TL.tl (iT p) ≠ [] := by
  rw [tl_iT]
  intro z
  exact nS_ne p.1 (List.append_eq_nil_iff.mp z).1
/-- cut at its mark -/
theorem iT_part (p : It2) : Txt.partition (iT p) ":" = (iTx p.1, if p.2 = "" then ("" : Str) else (":" : Str), p.2) := by
  have hn : (58 : Nat) ∉ TL.tl (iTx p.1) := by
    rw [tl_iTx]
    intro z
    have := nS_sign z
    omega
  unfold iT
  split
  · rename_i h
    rw [TL.partition_none (S := []) rfl hn, h]; rfl
  · exact TL.partition_app (S := []) rfl hn
/-- the text of a row -/
def rowT (l : List It2) : Str := Txt.join " " (l.map iT)
theorem rowT_nil : rowT [] = "" := rfl
theorem joinL_ne {S : List Nat} : ∀ {parts : List (List Nat)}, parts ≠ [] → (∀ p ∈ parts, p ≠ []) → TL.joinL S parts ≠ []
  | [], h, _ => absurd rfl h
  | [p], _, hp => hp p (List.mem_singleton.mpr rfl)
  | p :: q :: r, _, hp => fun z => hp p List.mem_cons_self (List.append_eq_nil_iff.mp z).1
theorem joinL_mem {S : List Nat} {c : Nat} : ∀ {parts : List (List Nat)}, c ∈ TL.joinL S parts → c ∈ S ∨ ∃ p ∈ parts, c ∈ p
  | [], h => by cases h
  | [p], h => .inr ⟨p, List.mem_cons_self, h⟩
  | p :: q :: r, h => by
    rcases List.mem_append.mp h with h | h
    · exact .inr ⟨p, List.mem_cons_self, h⟩
    · rcases List.mem_append.mp h with h | h
      · exact .inl h
      · rcases joinL_mem h with h | ⟨t, ht, h⟩
        · exact .inl h
        · exact .inr ⟨t, List.mem_cons_of_mem _ ht, h⟩
theorem tl_rowT (l : List It2) : TL.tl (rowT l) = TL.joinL [32] ((l.map iT).map TL.tl) := by
  unfold rowT
  rw [TL.join_eq, TL.tl_join]; rfl
theorem rowT_ne {l : List It2} (h : l ≠ []) : rowT l ≠ "" := by
  intro z
  have e := congrArg TL.tl z
  rw [tl_rowT] at e
  refine joinL_ne (by simpa using h) (fun p hp => ?_) e
  simp only [List.mem_map] at hp
  obtain ⟨_, ⟨x, hx, rfl⟩, rfl⟩ := hp
  exact iT_ne x
theorem rowT_split {l : List It2} (h : l ≠ []) (hw : wR l = true) : Txt.split (rowT l) " " = l.map iT := by
  refine TL.split_join (s := 32) (S := []) rfl (by decide +kernel) (by simpa using h) fun p hp => ?_
  obtain ⟨x, hx, rfl⟩ := List.mem_map.mp hp
  intro z
  have := iT_sign (List.all_eq_true.mp hw x hx) z
  omega
theorem sum_len {l : List It2} (hw : wR l = true) : ((l.map iT).map (·.length)).sum ≤ 50 * l.length := by
  induction l with
  | nil => simp
  | cons x l ih =>
    simp only [wR, List.all_cons, Bool.and_eq_true] at hw
    have := iT_len hw.1
    have := ih hw.2
    simp only [List.map_cons, List.sum_cons, List.length_cons]
    omega
theorem join_fits {l : List It2} (hw : wR l = true) (hl : l.length ≤ 1000) : ((l.map iT).map (·.length)).sum + (l.map iT).length * (" " : Str).length ≤ 16777216 := by
  have := sum_len hw
  have e : (" " : Str).length = 1 := rfl
  rw [e, List.length_map]
  omega
theorem rowT_len {l : List It2} (hw : wR l = true) (hl : l.length ≤ 1000) : (rowT l).length ≤ 51000 := by
  have h1 := PySem.StrLaws.join_length_le " " (l.map iT)
  have h2 := sum_len hw
  have e : (" " : Str).length = 1 := rfl
  rw [e, List.length_map] at h1
  unfold rowT
  rw [TL.join_eq]
  omega
theorem ok_signs {x : Str} (h : ∀ c ∈ TL.tl x, c < 0x110000) : PyData.strOk x = true := by
  unfold PyData.strOk
  rw [← Array.all_toList, List.all_eq_true]
  intro c hc
  exact decide_eq_true (h c hc)
theorem rowT_ok {l : List It2} (hw : wR l = true) : PyData.strOk (rowT l) = true := ok_signs fun c hc => by
  rw [tl_rowT] at hc
  rcases joinL_mem hc with h | ⟨t, ht, h⟩
  · simp at h; omega
  · simp only [List.mem_map] at ht
    obtain ⟨_, ⟨x, hx, rfl⟩, rfl⟩ := ht
    have := iT_sign (List.all_eq_true.mp hw x hx) h
    omega
theorem nS_ok (i : Int) : PyData.strOk (sgT (nS i)) = true := ok_signs fun c hc => by
  have := nS_sign hc; omega
theorem fEq_ss {x y : Str} (hx : PyData.strOk x = true) (hy : PyData.strOk y = true) : fEq [.sc (.str x), .sc (.str y)] = some (.sc (.bl (decide (x = y)))) := fEq_s (f := eS) (g := eS) hx hy (by omega) (by omega)
theorem fNe_ss {x y : Str} (hx : PyData.strOk x = true) (hy : PyData.strOk y = true) : fNe [.sc (.str x), .sc (.str y)] = some (.sc (.bl (!decide (x = y)))) := fNe_s (f := eS) (g := eS) hx hy (by omega) (by omega)
theorem cutS_nil {l : List Nat} : cutS (sgT l) none (some 1) = sgT (l.take 1) := by
  have e : (sgT l).length = l.length := sgT_len l
  unfold cutS
  rw [e]
  cases l with
  | nil => rfl
  | cons c r => simp [HT.sIx]
theorem cutS_from {l : List Nat} {k : Nat} (hk : k ≤ 1) : cutS (sgT l) (some (k : Nat)) none = sgT (l.drop k) := by
  have e : (sgT l).length = l.length := sgT_len l
  unfold cutS
  rw [e, HT.sIx_nat, HT.sIx_none]
  show sgT ((l.drop (min k l.length)).take (l.length - min k l.length)) = sgT (l.drop k)
  congr 2
  rw [List.take_of_length_le (by simp)]
  by_cases h : k ≤ l.length
  · rw [Nat.min_eq_left h]
  · rw [List.drop_of_length_le (by omega), List.drop_of_length_le (by omega)]
end DL
end
section
set_option maxRecDepth 100000
namespace DL
open PySem L2
end DL
namespace DL
open PySem L2
abbrev iD : Option It2 → D
  | some p => itm p
  | none => .sc .non
end DL
namespace DL
open PySem L2
end DL
namespace DL
open PySem L2
theorem cutS_drop {l : List Nat} {k : Nat} : cutS (sgT l) (some (k : Nat)) none = sgT (l.drop k) := by
  have e : (sgT l).length = l.length := sgT_len l
  unfold cutS
  rw [e, HT.sIx_nat, HT.sIx_none]
  show sgT ((l.drop (min k l.length)).take (l.length - min k l.length)) = sgT (l.drop k)
  congr 2
  rw [List.take_of_length_le (by simp)]
  by_cases h : k ≤ l.length
  · rw [Nat.min_eq_left h]
  · rw [List.drop_of_length_le (by omega), List.drop_of_length_le (by omega)]
end DL
end
section
set_option maxRecDepth 100000
namespace DL
open PySem L2
@[simp] theorem ev_dNewK (E : List D) : dNewK E = .ok (.val (.nd (.dik true []) []), E) := rfl
@[simp] theorem ev_dNewT (E : List D) : dNewT E = .ok (.val (.nd (.dit true []) []), E) := rfl
@[simp] theorem ev_dDGet (p : Bool) (d1 d2 : Den) (E : List D) : dDGet p d1 d2 E = (aCons p d1 (aCons true d2 aNil) E).bind getDK := rfl
@[simp] theorem ev_getDK (o q : Opd) (E : List D) : getDK ([o, q], E) = match cont E o, cont E q with
    | some (.nd k ds), some c => (match kdIx k c with
      | some (some j) => (match ds[j]? with
        | some d => (child o j d).bind fun o' => .ok (o', E)
        | none => .bad)
      | _ => .bad)
    | _, _ => .bad := id rfl
@[simp] theorem ev_fDIn (neg : Bool) (c : D) (k : Kd) (ds : List D) : fDIn neg [c, .nd k ds] = (kdIx k c).map fun j => .sc (.bl (j.isSome != neg)) := id rfl
@[simp] theorem ev_dDPut (p1 p2 : Bool) (d d0 di : Den) (E : List D) : dDPut p1 p2 d d0 di E = (aCons (p1 && (p2 && true)) d (aCons (p2 && true) d0 (aCons true di aNil)) E).toS putDK := id rfl
def pdk (E : List D) (i : Nat) (p : List Nat) (ds : List D) (c : D) : Option (Kd × Option Nat) → S
  | some (k', some j) => .nx (setP E i p (.nd k' (ds.set j c)))
  | some (k', none) => .nx (setP E i p (.nd k' (ds ++ [c])))
  | none => .bad
@[simp] theorem ev_putDK (c : D) (i : Nat) (p : List Nat) (q : Opd) (E : List D) : putDK ([.val c, .plc i p, q], E) = match getP E i p, cont E q with
    | some (.nd k ds), some y => if k.mut then pdk E i p ds c (kdPut k y) else .bad
    | _, _ => .bad := by
  have key : ∀ (x y : Option D), x = getP E i p → y = cont E q → putDK ([.val c, .plc i p, q], E) = match x, y with
      | some (.nd k ds), some y => if k.mut then pdk E i p ds c (kdPut k y) else .bad
      | _, _ => .bad := by
    rintro x y hx hy
    unfold putDK
    dsimp only
    rw [← hx, ← hy]
    split
    · try dsimp only
      split
      · unfold pdk
        split <;> first | rfl | (rename_i h; rw [h]) | (rename_i h _; rw [h])
      · rfl
    · rename_i hn
      first
        | rfl
        | (split
           · exact (hn _ _ _ rfl rfl).elim
           · rfl)
  exact key _ _ rfl rfl
@[simp] theorem pdk_j (E : List D) (i : Nat) (p : List Nat) (ds : List D) (c : D) (k : Kd) (j : Nat) : pdk E i p ds c (some (k, some j)) = .nx (setP E i p (.nd k (ds.set j c))) := rfl
@[simp] theorem pdk_n (E : List D) (i : Nat) (p : List Nat) (ds : List D) (c : D) (k : Kd) : pdk E i p ds c (some (k, none)) = .nx (setP E i p (.nd k (ds ++ [c]))) := rfl
@[simp] theorem mut_dit (m : Bool) (ks : List (List Key)) : (Kd.dit m ks).mut = m := rfl
@[simp] theorem mut_dik (m : Bool) (ks : List Key) : (Kd.dik m ks).mut = m := rfl
def revK (r : Opd × List D) : R (List D × List D) := match r.1 with
  | .val (.nd (.lst _) ds) => .ok ((fzs ds).reverse, r.2)
  | _ => .bad
@[simp] theorem ev_dRev (d : Den) (E : List D) : dRev d E = (d E).bind revK := id rfl
@[simp] theorem revK_l (m : Bool) (ds E : List D) : revK (.val (.nd (.lst m) ds), E) = .ok ((fzs ds).reverse, E) := rfl
end DL
end
section
set_option maxRecDepth 100000
namespace DL
open PySem L2
def eH : Option It2 → D
  | none => .sc .non
  | some t => itm t
@[simp] theorem eH_none : eH none = .sc .non := rfl
@[simp] theorem eH_some (t : It2) : eH (some t) = itm t := rfl
@[simp] theorem itm_non (t : It2) : isNonD (itm t) = some false := rfl
abbrev FS := List ((Nat × Nat) × Option Nat)
abbrev kS (p : Nat × Nat) : List Key := [.inl p.1, .inl p.2]
def kF (fs : FS) : List (List Key) := fs.map fun e => kS e.1
def vF (fs : FS) : List D := fs.map fun e => eO e.2
def getF : FS → Nat × Nat → Option (Option Nat)
  | [], _ => none
  | e :: fs, k => if e.1 = k then some e.2 else getF fs k
def setF : FS → Nat × Nat → Option Nat → FS
  | [], k, v => [(k, v)]
  | e :: fs, k, v => if e.1 = k then (k, v) :: fs else e :: setF fs k v
theorem kS_inj {p q : Nat × Nat} (h : kS p = kS q) : p = q := by
  simp only [kS, List.cons.injEq, Sum.inl.injEq] at h
  exact Prod.ext (by omega) (by omega)
theorem kIx_no : ∀ {fs : FS} {k : Nat × Nat}, getF fs k = none → kIx (kS k) (kF fs) = none
  | [], k, h => rfl
  | e :: fs, k, h => by
    unfold getF at h
    show (if kS e.1 = kS k then some 0 else (kIx (kS k) (kF fs)).map (· + 1)) = none
    by_cases c : e.1 = k
    · rw [if_pos c] at h; cases h
    · rw [if_neg c] at h
      rw [if_neg (fun z => c (kS_inj z)), kIx_no h]; rfl
theorem set_get : ∀ {fs : FS} {k : Nat × Nat} {v w : Option Nat}, getF fs k = some v → ∃ j, kIx (kS k) (kF fs) = some j ∧ (vF fs).set j (eO w) = vF (setF fs k w) ∧ kF (setF fs k w) = kF fs
  | [], k, v, w, h => by cases h
  | e :: fs, k, v, w, h => by
    unfold getF at h
    show ∃ j, (if kS e.1 = kS k then some 0 else (kIx (kS k) (kF fs)).map (· + 1)) = some j ∧ _
    by_cases c : e.1 = k
    · rw [if_pos (by rw [c])]
      refine ⟨0, rfl, ?_⟩
      unfold setF
      rw [if_pos c]
      exact ⟨rfl, by show kS k :: _ = kS e.1 :: _; rw [c]⟩
    · rw [if_neg c] at h
      rw [if_neg (fun z => c (kS_inj z))]
      obtain ⟨j, h1, h2, h3⟩ := set_get (w := w) h
      unfold setF
      rw [if_neg c]
      exact ⟨j + 1, by rw [h1]; rfl, congrArg (eO e.2 :: ·) h2, congrArg (kS e.1 :: ·) h3⟩
theorem set_no : ∀ {fs : FS} {k : Nat × Nat} {w : Option Nat}, getF fs k = none → setF fs k w = fs ++ [(k, w)]
  | [], k, w, h => rfl
  | e :: fs, k, w, h => by
    unfold getF at h
    by_cases c : e.1 = k
    · rw [if_pos c] at h; cases h
    · rw [if_neg c] at h
      unfold setF
      rw [if_neg c, set_no h]; rfl
/-- no stretch twice, and not too many -/
structure OkF (fs : FS) : Prop where
  nd : (kF fs).Nodup
  len : fs.length ≤ 1000
theorem len_setF : ∀ (fs : FS) (k : Nat × Nat) (w : Option Nat), (setF fs k w).length = fs.length + (if (getF fs k).isSome then 0 else 1)
  | [], k, w => rfl
  | e :: fs, k, w => by
    unfold setF getF
    by_cases c : e.1 = k
    · rw [if_pos c, if_pos c]; rfl
    · rw [if_neg c, if_neg c]
      show (setF fs k w).length + 1 = _
      rw [len_setF fs k w]
      show _ = fs.length + 1 + _
      omega
theorem nd_setF {fs : FS} (h : (kF fs).Nodup) (k : Nat × Nat) (w : Option Nat) : (kF (setF fs k w)).Nodup := by
  cases e : getF fs k with
  | some v => obtain ⟨_, _, _, h3⟩ := set_get (w := w) e; rw [h3]; exact h
  | none =>
    rw [set_no e]
    have h1 := kIx_none (kIx_no e)
    show (kF (fs ++ [(k, w)])).Nodup
    unfold kF at *
    rw [List.map_append, List.nodup_append]
    refine ⟨h, by simp, fun a ha b hb => ?_⟩
    simp only [List.map_cons, List.map_nil, List.mem_singleton] at hb
    rintro rfl
    subst hb
    exact h1 ha
abbrev HS := List (Option It2)
def gH (hs : HS) (k : Nat) : Option It2 := hs.getD k none
def undH (hs : HS) (y x : Nat) : Bool := match gH hs y, gH hs x with
  | some p, some q => ltI p q
  | _, _ => false
def pick (hs : HS) : Option Nat → Option Nat → Option Nat
  | none, b => b
  | some x, none => some x
  | some x, some y => if undH hs y x then some y else some x
def one (hs : HS) (p : Nat) : Option Nat := if (gH hs p).isSome then some p else none
def stp (hs : HS) (a : Option Nat) (p : Nat) : Option Nat := pick hs a (one hs p)
def bst (hs : HS) (lo hi : Nat) : Option Nat := (List.range (hi - lo)).foldl (fun a j => stp hs a (lo + j)) none
def mid (lo hi : Nat) : Nat := lo + (hi - lo + 1) / 2
/-- a place with something there, or none -/
def Plc (hs : HS) (lo hi : Nat) (a : Option Nat) : Prop := ∀ x, a = some x → lo ≤ x ∧ x < hi ∧ ∃ t, gH hs x = some t
theorem Plc.wide {hs : HS} {lo hi lo' hi' : Nat} {a : Option Nat} (h : Plc hs lo hi a) (h1 : lo' ≤ lo) (h2 : hi ≤ hi') : Plc hs lo' hi' a := fun x e => by
  obtain ⟨h3, h4, h5⟩ := h x e; exact ⟨by omega, by omega, h5⟩
inductive InT : Nat → Nat → Nat → Nat → Prop
  | here {lo hi : Nat} : InT lo hi lo hi
  | left {lo hi a b : Nat} (h : 1 < hi - lo) (t : InT lo (mid lo hi) a b) : InT lo hi a b
  | right {lo hi a b : Nat} (h : 1 < hi - lo) (t : InT (mid lo hi) hi a b) : InT lo hi a b
theorem InT.tr {l0 h0 lo hi a b : Nat} (t : InT l0 h0 lo hi) : InT lo hi a b → InT l0 h0 a b := by
  induction t with
  | here => exact fun u => u
  | left h t ih => exact fun u => .left h (ih u)
  | right h t ih => exact fun u => .right h (ih u)
def Good (hs : HS) (fs : FS) (lo hi : Nat) : Prop := ∀ a b, InT lo hi a b → 1 < b - a → getF fs (a, b) = some (bst hs a b)
theorem Good.get {hs : HS} {fs : FS} {lo hi : Nat} (g : Good hs fs lo hi) (h : 1 < hi - lo) : getF fs (lo, hi) = some (bst hs lo hi) := g lo hi .here h
theorem Good.lf {hs : HS} {fs : FS} {lo hi : Nat} (g : Good hs fs lo hi) (h : 1 < hi - lo) : Good hs fs lo (mid lo hi) := fun a b t => g a b (.left h t)
theorem OkF.set {fs : FS} (ok : OkF fs) {k : Nat × Nat} {w : Option Nat} (h : (getF fs k).isSome = true ∨ fs.length < 1000) : OkF (setF fs k w) := by
  refine ⟨nd_setF ok.nd k w, ?_⟩
  rw [len_setF]
  have := ok.len
  rcases h with h | h
  · rw [if_pos h]; omega
  · split <;> omega
instance : FzF eH := ⟨fun h => by cases h <;> rfl⟩
instance : FzF eO := ⟨fun h => by cases h <;> rfl⟩
def hdOk : Option It2 → Bool
  | none => true
  | some t => tagOk t
instance : LayF eH 1 hdOk := ⟨fun x m hp hm => by
  cases x with
  | none => cases m <;> rfl
  | some t => exact LayF.lay (f := itm) t m hp hm⟩
instance : EqF eH eH := ⟨fun x y => by
  cases x with
  | none => cases y <;> rfl
  | some a => cases y with
    | none => rfl
    | some b =>
      have := EqF.eqv (f := itm) (g := itm) a b
      rw [show decide (some a = some b) = decide (a = b) from by simp]
      exact this⟩
end DL
end
section
set_option maxRecDepth 100000
namespace DL
open PySem L2 DL
theorem f_excR {n N : Nat} {A : List Nat} {b : DenS} {ds E r : List D} {c : Nat} {fs : List (Str × V)} (h : b (ds ++ List.replicate (N - n) .una) = .exc c fs E) (hl : ds.length = n := by rfl) (k : retArgs A 0 ds E = some r := by simp) : opq (fnP n N A b) ds = .exc c fs r := by
  rw [opq_eq]; exact fp_exc hl h k
def eOut (t : It2) : D := .nd .tup [.sc (.str "out"), itm t]
def endD : D := .nd .tup [.sc (.str "end")]
instance : FzF eOut := ⟨fun t => rfl⟩
end DL
end
section
set_option maxRecDepth 100000
namespace DL
open PySem L2 DL
/-- what is told: an end, an item -/
def evD : Option It2 → D
  | none => endD
  | some t => eOut t
instance : FzF evD := ⟨fun t => by cases t <;> rfl⟩
end DL
end
section
set_option maxRecDepth 100000
namespace DL
open PySem L2 DL
end DL
end
section
set_option maxRecDepth 100000
namespace DL
open PySem L2 DL
end DL
end
section
set_option maxRecDepth 100000
namespace DL
open PySem L2 DL
end DL
end
section
set_option maxRecDepth 100000
namespace DL
open PySem L2 DL
abbrev KI := Nat × It2
/-- one row of keys no greater than another one -/
inductive Le2 : List KI → List KI → Prop
  | nil : Le2 [] []
  | snoc {a b : List KI} {x y : KI} : Le2 a b → x.2 = y.2 → x.1 ≤ y.1 → Le2 (a ++ [x]) (b ++ [y])
theorem Le2.mem {a b : List KI} (h : Le2 a b) : ∀ x ∈ a, ∃ y ∈ b, x.1 ≤ y.1 := by
  induction h with
  | nil => intro x hx; cases hx
  | @snoc a b x y _ h1 h2 ih =>
    intro z hz
    rcases List.mem_append.mp hz with hz | hz
    · obtain ⟨w, hw, q⟩ := ih z hz
      exact ⟨w, List.mem_append_left _ hw, q⟩
    · simp at hz; subst hz
      exact ⟨y, by simp, h2⟩
def nn (es : List (Option It2)) : Nat := (es.filter Option.isNone).length
end DL
end
section
set_option maxRecDepth 100000
namespace DL
open PySem L2 DL
end DL
end
section
set_option maxRecDepth 100000
namespace DL
open PySem L2
def kls (n : Nat) : List Bool := (List.range 13).map fun k => decide (k = n)
theorem kls_eq (n : Nat) (hn : n < 13) (i : Int) : (kls n = (List.range 13).map fun (k : Nat) => decide ((k : Int) = i)) ↔ i = (n : Int) := by
  constructor
  · intro h
    have e := congrArg (fun l => l[n]?) h
    simp only [kls, List.getElem?_map, List.getElem?_range hn, Option.map_some, decide_true] at e
    have : decide ((n : Int) = i) = true := (Option.some.inj e).symm
    have := of_decide_eq_true this
    omega
  · intro h
    subst h
    unfold kls
    refine List.map_congr_left fun k _ => ?_
    have : ((k : Int) = (n : Int)) ↔ k = n := by omega
    simp [this]
theorem kls_only (n : Nat) (hn : n < 13) : (List.range 13).filter (fun (k : Nat) => decide ((k : Int) = (n : Int))) = [n] := by
  have : ∀ n ∈ List.range 13, (List.range 13).filter (fun (k : Nat) => decide ((k : Int) = (n : Int))) = [n] := by decide +kernel
  exact this n (List.mem_range.mpr hn)
end DL
end
section
set_option maxRecDepth 100000
namespace DL
open PySem L2
end DL
end
section
set_option maxRecDepth 100000
set_option exponentiation.threshold 2000
namespace K90
open PySem L2 DL
theorem box_st (x0 x1 : D) (h num : Int) (j : Nat) (b : D) (hj : j < 16) (h0 : 0 ≤ num) (hn : num < 2 ^ (32 * j)) :
    ∃ num', lb_law_box_0 [x0, x1, .sc (.int h), .sc (.int num), .sc (.int j), b] = .nx [x0, x1, .sc (.int h), .sc (.int num'), .una, .una] ∧ 0 ≤ num' ∧ num' < 2 ^ (32 * (j + 1)) := by
  have hp : (2 : Int) ^ (32 * j) ≤ 2 ^ 512 := by
    have : (2 : Nat) ^ (32 * j) ≤ 2 ^ 512 := Nat.pow_le_pow_right (by decide) (by omega)
    exact_mod_cast this
  have e : (2 : Int) ^ (32 * (j + 1)) = 2 ^ (32 * j) * 4294967296 := by rw [Nat.mul_add, Int.pow_add]; rfl
  have eb : (2 : Int) ^ 512 = 13407807929942597099574024998205846127479365820592393377723561443721764030073546976801874298166903427690031858186486050853753882811946569946433649006084096 := by decide +kernel
  rw [eb] at hp
  rw [e]
  generalize (2 : Int) ^ (32 * j) = B at *
  simp (disch := omega) [lb_law_box_0, mulOk_s, divOk_s]
  generalize ((h % 2147483647 * 48271 + 7919 * j + 1) % 2147483647) = p1
  generalize (p1 * p1) % 2147483629 = p2
  generalize p2 * (p2 + 13) = p3
  omega
theorem box_loop (x0 x1 : D) (h : Int) : ∃ num, loopD (dgName 4) lb_law_box_0 (rngD 0 16) [x0, x1, .sc (.int h), .sc (.int 0), .una, .una] = .nx [x0, x1, .sc (.int h), .sc (.int num), .una, .una] := by
  obtain ⟨E', e, num, rfl, _⟩ := loop_rng (i := 4) (b := lb_law_box_0) (lo := 0) (n := 16) (E := [x0, x1, .sc (.int h), .sc (.int 0), .una, .una]) (Jv := fun j E => ∃ num, E = [x0, x1, .sc (.int h), .sc (.int num), .una, .una] ∧ 0 ≤ num ∧ num < 2 ^ (32 * j))
    ⟨0, rfl, by decide, by decide⟩ (fun j E hj ⟨num, e, h0, h1⟩ => by
      subst e
      obtain ⟨num', e, h2, h3⟩ := box_st x0 x1 h num j .una hj h0 h1
      exact ⟨by simp, _, .inl (by simpa using e), num', rfl, h2, h3⟩)
  exact ⟨num, e⟩
theorem box_ok (ns : List Int) (k : Nat) (hk : k < 100) : ∃ n, F_law_box [.kl ns, .sc (.int k)] = .ok (bx n, [.kl ns, .sc (.int k)]) := by
  by_cases hl : k < ns.length
  · simp (disch := omega) [F_law_box, opq_eq, fnP, fnD, dn_law_box, mulOk_s, divOk_s, hl]
    by_cases h2 : ns[k] % 2 = 0
    · simp (disch := omega) [h2, divOk_s]
    · obtain ⟨num, e⟩ := box_loop (.kl ns) (.sc (.int k)) ns[k]
      simp (disch := omega) [h2, e, rg1Ok_s]
  · simp (disch := omega) [F_law_box, opq_eq, fnP, fnD, dn_law_box, mulOk_s, divOk_s, hl]
    by_cases h2 : (7919 * (k : Int) + 13) % 2 = 0
    · simp (disch := omega) [h2, divOk_s]
    · obtain ⟨num, e⟩ := box_loop (.kl ns) (.sc (.int k)) (7919 * (k : Int) + 13)
      simp (disch := omega) [h2, e, rg1Ok_s]
def dkD (m : Bool) (l : List It2) (r w d : Int) : D := .nd (.obj true c_Desk ["row", "room", "width", "drives"]) [.nd (.lst m) (em itm l), .sc (.int r), .sc (.int w), .sc (.int d)]
@[simp] theorem dkD_una (m : Bool) (l : List It2) (r w d : Int) : isUna (dkD m l r w d) = false := rfl
@[simp] theorem dkD_fz (m : Bool) (l : List It2) (r w d : Int) : Fz (dkD m l r w d) = false := rfl
theorem dkD_o (m : Bool) (l : List It2) (r w d : Int) (s : Str) (h : (["row", "room", "width", "drives"] : List Str).contains s = false) : DL.isObj c_Desk s (some (dkD m l r w d)) = true := by
  show (c_Desk == c_Desk && !(["row", "room", "width", "drives"] : List Str).contains s && 4 == 4) = true
  rw [h]; rfl
@[simp] theorem dkD_o0 (m : Bool) (l : List It2) (r w d : Int) : DL.isObj c_Desk "put_items" (some (dkD m l r w d)) = true := dkD_o m l r w d _ (by decide)
@[simp] theorem dkD_o1 (m : Bool) (l : List It2) (r w d : Int) : DL.isObj c_Desk "asked" (some (dkD m l r w d)) = true := dkD_o m l r w d _ (by decide)
@[simp] theorem dkD_o2 (m : Bool) (l : List It2) (r w d : Int) : DL.isObj c_Desk "say" (some (dkD m l r w d)) = true := dkD_o m l r w d _ (by decide)
@[simp] theorem dkD_o3 (m : Bool) (l : List It2) (r w d : Int) : DL.isObj c_Desk "keep" (some (dkD m l r w d)) = true := dkD_o m l r w d _ (by decide)
@[simp] theorem dkD_o4 (m : Bool) (l : List It2) (r w d : Int) : DL.isObj c_Desk "runs_told" (some (dkD m l r w d)) = true := dkD_o m l r w d _ (by decide)
@[simp] theorem dkD_o5 (m : Bool) (l : List It2) (r w d : Int) : DL.isObj c_Desk "trace_told" (some (dkD m l r w d)) = true := dkD_o m l r w d _ (by decide)
@[simp] theorem dkD_o6 (m : Bool) (l : List It2) (r w d : Int) : DL.isObj c_Desk "moved_told" (some (dkD m l r w d)) = true := dkD_o m l r w d _ (by decide)
@[simp] theorem dkD_o7 (m : Bool) (l : List It2) (r w d : Int) : DL.isObj c_Desk "level_told" (some (dkD m l r w d)) = true := dkD_o m l r w d _ (by decide)
theorem dk_init : F_Desk___init__ [.nd (.obj true c_Desk []) []] = .ok (.sc .non, [dkD true [] 3 2 3]) := by
  unfold dkD
  refine' f_of (b := dn_Desk___init__) ?_ rfl
  simp only [List.replicate_succ, List.replicate_zero, List.cons_append, List.nil_append, Nat.reduceSub, Nat.reduceAdd]
  unfold dn_Desk___init__
  (first | refine' rtp_go ?h0 ?_ | refine' seq_go ?h0 ?_)
  (case h0 => ((simp (disch := omega) [-getElem?_pos, lenOk_s, divOk_s, mulOk_s, rgOk_s, rg1Ok_s, repOk_s, putN, putDs]) <;> first | rfl | exact ⟨rfl, rfl⟩))
  (first | refine' rtp_go ?h0 ?_ | refine' seq_go ?h0 ?_)
  (case h0 => ((simp (disch := omega) [-getElem?_pos, lenOk_s, divOk_s, mulOk_s, rgOk_s, rg1Ok_s, repOk_s, putN, putDs]) <;> first | rfl | exact ⟨rfl, rfl⟩))
  (first | refine' rtp_go ?h0 ?_ | refine' seq_go ?h0 ?_)
  (case h0 => ((simp (disch := omega) [-getElem?_pos, lenOk_s, divOk_s, mulOk_s, rgOk_s, rg1Ok_s, repOk_s, putN, putDs]) <;> first | rfl | exact ⟨rfl, rfl⟩))
  refine' rtp_end ?h0 rfl ?_
  (case h0 => ((simp (disch := omega) [-getElem?_pos, lenOk_s, divOk_s, mulOk_s, rgOk_s, rg1Ok_s, repOk_s, putN, putDs]) <;> first | rfl | exact ⟨rfl, rfl⟩))
  simp
theorem take_ok (n m : Int) (hm : 0 < m) (hl : m < 1000000000000000000000000000000000000000000000000000000) : F_law_take [bx n, .sc (.int m)] = .ok (.sc (.int (n % m)), [bx (n / m), .sc (.int m)]) := by
  simp (disch := omega) [F_law_take, opq_eq, fnP, fnD, dn_law_take, hm, divOk_s]
/-- a digit, as a number -/
theorem take_n (n m : Int) (hm : 0 < m) (hl : m < 1000000) : ∃ (q : Nat) (n' : Int), (q : Int) < m ∧ F_law_take [bx n, .sc (.int m)] = .ok (.sc (.int q), [bx n', .sc (.int m)]) := by
  have t := take_ok n m (by omega) (by omega)
  have h0 := Int.emod_nonneg n (show m ≠ 0 by omega)
  have h1 := Int.emod_lt_of_pos n (show (0 : Int) < m by omega)
  refine ⟨(n % m).toNat, n / m, by omega, ?_⟩
  have e : (((n % m).toNat : Nat) : Int) = n % m := by omega
  rw [e]; exact t
theorem fig_sign {n c : Nat} (h : c ∈ TL.numL n) : c ∈ ("0123456789" : Str).cps.toList := by
  have := TL.numL_digits n c h
  have : c = 48 ∨ c = 49 ∨ c = 50 ∨ c = 51 ∨ c = 52 ∨ c = 53 ∨ c = 54 ∨ c = 55 ∨ c = 56 ∨ c = 57 := by omega
  rcases this with rfl | rfl | rfl | rfl | rfl | rfl | rfl | rfl | rfl | rfl <;> decide +kernel
theorem figs_l (x0 x1 x2 : D) (cs : List Nat) (h : ∀ c ∈ cs, c ∈ ("0123456789" : Str).cps.toList) : loopD (dgName 3) lb_key_in_0 (cs.map fun c => .sc (.str ⟨#[c]⟩)) [x0, x1, x2, .una] = .nx [x0, x1, x2, .una] := by
  obtain ⟨_, eL, -⟩ := lst_inv (f := fun c : Nat => .sc (.str ⟨#[c]⟩)) (dg := dgName 3) (b := lb_key_in_0) (xs := cs) (σ := Unit) (s0 := ()) (fun _ => [x0, x1, x2, .una]) (fun _ _ => True) trivial (fun pre c post s hc _ => by
    have hm := h c (by rw [hc]; simp)
    exact ⟨[x0, x1, x2, .sc (.str ⟨#[c]⟩)], (), by simp, .inl (by simp [lb_key_in_0, hm]), trivial⟩)
  exact eL
theorem keyin_ok (i : Int) (h : -10000000000000000000000000000000000000000 < i ∧ i < 10000000000000000000000000000000000000000) : F_key_in [.sc (.str (iTx i))] = .ok (.sc (.int i), [.sc (.str (iTx i))]) := by
  obtain ⟨c, r, ec⟩ : ∃ c r, TL.numL i.natAbs = c :: r := by
    cases e : TL.numL i.natAbs with
    | nil => exact absurd e (TL.numL_ne _)
    | cons c r => exact ⟨c, r, rfl⟩
  have hc := TL.numL_digits i.natAbs c (by rw [ec]; simp)
  have hl := num_len h
  have rd := num_read (n := i.natAbs) (by omega)
  have fl := fun x0 x1 x2 => figs_l x0 x1 x2 (TL.numL i.natAbs) (fun c hc => fig_sign hc)
  have lt : (sgT (TL.numL i.natAbs)).length = r.length + 1 := by rw [sgT_len, ec]; rfl
  have hz : c = 48 → i.natAbs = 0 := fun z => numL_head _ r (by rw [ec, z])
  have q1 : (1 : Int) ≤ (r.length : Int) + 1 := by omega
  have q40 : r.length ≤ 39 → (r.length : Int) + 1 ≤ 40 := fun z => by omega
  have l640 : (sgT (TL.numL i.natAbs)).length ≤ 640 := by rw [sgT_len]; omega
  have a0 : atI (TL.numL i.natAbs) 0 = some c := by rw [ec]; exact atI_nat' (c :: r) 0
  have r40 : r.length ≤ 39 := by rw [ec] at hl; simpa using hl
  rw [iTx_eq]
  have nl := nS_len h
  have tl := sgT_len (nS i)
  by_cases hi : i < 0
  · have e1 : nS i = 45 :: TL.numL i.natAbs := if_pos hi
    have c1 : cutS (sgT (nS i)) none (some 1) = "-" := by rw [cutS_nil, e1]; rfl
    have c2 : cutS (sgT (nS i)) (some 1) none = sgT (TL.numL i.natAbs) := by
      have := cutS_from (l := nS i) (k := 1) (by omega)
      rw [e1] at this ⊢
      exact this
    have f1 : fEq [.sc (.str (cutS (sgT (nS i)) none (some 1))), .sc (.str "-")] = some (.sc (.bl true)) := by rw [c1, fEq_ss (by decide +kernel) (by decide +kernel)]; simp
    have hcz : c ≠ 48 := fun z => by have := hz z; omega
    have f2 : fEq [.sc (.str ⟨#[c]⟩), .sc (.str "0")] = some (.sc (.bl false)) := by
      rw [fEq_ss (ok_signs fun d hd => by
        have : d = c := by simpa [TL.tl] using hd
        omega) (by decide +kernel)]
      have : ¬ ((⟨#[c]⟩ : Str) = "0") := fun z => hcz (by
        have := congrArg TL.tl z
        have e0 : TL.tl ("0" : Str) = [48] := rfl
        rw [e0] at this
        have : [c] = [48] := this
        simpa using this)
      simp [this]
    have ai : (i.natAbs : Int) = -i := by omega
    rw [ai] at rd
    refine' f_of (b := dn_key_in) ?_ rfl
    simp only [List.replicate_succ, List.replicate_zero, List.cons_append, List.nil_append, Nat.reduceSub, Nat.reduceAdd]
    unfold dn_key_in
    (first | refine' rtp_go ?h0 ?_ | refine' seq_go ?h0 ?_)
    (case h0 => ((simp (disch := omega) [-getElem?_pos, lenOk_s, divOk_s, mulOk_s, rgOk_s, rg1Ok_s, repOk_s, f1]) <;> first | rfl | exact ⟨rfl, rfl⟩))
    (first | refine' rtp_go ?h0 ?_ | refine' seq_go ?h0 ?_)
    (case h0 => ((simp (disch := omega) [-getElem?_pos, lenOk_s, divOk_s, mulOk_s, rgOk_s, rg1Ok_s, repOk_s, c2]) <;> first | rfl | exact ⟨rfl, rfl⟩))
    (first | refine' rtp_go ?h0 ?_ | refine' seq_go ?h0 ?_)
    (case h0 => ((simp (disch := omega) [-getElem?_pos, lenOk_s, divOk_s, mulOk_s, rgOk_s, rg1Ok_s, repOk_s, lt, a0, f2, q1, q40 r40]) <;> first | rfl | exact ⟨rfl, rfl⟩))
    (first | refine' rtp_go ?h0 ?_ | refine' seq_go ?h0 ?_)
    (case h0 => ((simp (disch := omega) [-getElem?_pos, lenOk_s, divOk_s, mulOk_s, rgOk_s, rg1Ok_s, repOk_s, fl]) <;> first | rfl | exact ⟨rfl, rfl⟩))
    refine' rtp_out ?h0 ?hd ?_
    (case h0 => ((simp (disch := omega) [-getElem?_pos, lenOk_s, divOk_s, mulOk_s, rgOk_s, rg1Ok_s, repOk_s, l640, rd]) <;> first | rfl | exact ⟨rfl, rfl⟩))
    (case hd => first | rfl | simp [l640, rd])
    simp
  · have e1 : nS i = TL.numL i.natAbs := if_neg hi
    have hc45 : c ≠ 45 := by omega
    have c1 : cutS (sgT (nS i)) none (some 1) = sgT [c] := by rw [cutS_nil, e1, ec]; rfl
    have c2 : cutS (sgT (nS i)) (some 0) none = sgT (TL.numL i.natAbs) := by
      have := cutS_from (l := nS i) (k := 0) (by omega)
      rw [e1] at this ⊢
      exact this
    have okc : PyData.strOk (sgT [c]) = true := ok_signs fun d hd => by
      have : d = c := by simpa [TL.tl] using hd
      omega
    have one : ∀ d : Nat, c ≠ d → ¬ (sgT [c] = sgT [d]) := fun d hd z => hd (by
      have := congrArg TL.tl z
      have : [c] = [d] := this
      simpa using this)
    have f1 : fEq [.sc (.str (cutS (sgT (nS i)) none (some 1))), .sc (.str "-")] = some (.sc (.bl false)) := by
      rw [c1, fEq_ss okc (by decide +kernel)]
      have : ¬ (sgT [c] = ("-" : Str)) := one 45 hc45
      simp [this]
    have f2 : fEq [.sc (.str ⟨#[c]⟩), .sc (.str "0")] = some (.sc (.bl (decide (c = 48)))) := by
      have : PyData.strOk (⟨#[c]⟩ : Str) = true := okc
      rw [fEq_ss this (by decide +kernel)]
      by_cases hz : c = 48
      · subst hz; rfl
      · have : ¬ ((⟨#[c]⟩ : Str) = ("0" : Str)) := one 48 hz
        simp [this, hz]
    have ai : (i.natAbs : Int) = i := by omega
    rw [ai] at rd
    have hr : c = 48 → ¬ ((r.length : Int) + 1 > 1) := fun z => by
      have := hz z
      rw [this, TL.numL_lt (by omega)] at ec
      injection ec with _ q
      subst q
      simp
    have hr3 : ∀ a b : S, (if c = 48 then if (1 : Int) < r.length + 1 then a else b else b) = b := fun a b => by
      split
      · rename_i z
        rw [if_neg (hr z)]
      · rfl
    refine' f_of (b := dn_key_in) ?_ rfl
    simp only [List.replicate_succ, List.replicate_zero, List.cons_append, List.nil_append, Nat.reduceSub, Nat.reduceAdd]
    unfold dn_key_in
    (first | refine' rtp_go ?h0 ?_ | refine' seq_go ?h0 ?_)
    (case h0 => ((simp (disch := omega) [-getElem?_pos, lenOk_s, divOk_s, mulOk_s, rgOk_s, rg1Ok_s, repOk_s, f1]) <;> first | rfl | exact ⟨rfl, rfl⟩))
    (first | refine' rtp_go ?h0 ?_ | refine' seq_go ?h0 ?_)
    (case h0 => ((simp (disch := omega) [-getElem?_pos, lenOk_s, divOk_s, mulOk_s, rgOk_s, rg1Ok_s, repOk_s, c2]) <;> first | rfl | exact ⟨rfl, rfl⟩))
    (first | refine' rtp_go ?h0 ?_ | refine' seq_go ?h0 ?_)
    (case h0 => ((simp (disch := omega) [-getElem?_pos, lenOk_s, divOk_s, mulOk_s, rgOk_s, rg1Ok_s, repOk_s, lt, a0, f2, q1, q40 r40, hr3]) <;> first | rfl | exact ⟨rfl, rfl⟩))
    (first | refine' rtp_go ?h0 ?_ | refine' seq_go ?h0 ?_)
    (case h0 => ((simp (disch := omega) [-getElem?_pos, lenOk_s, divOk_s, mulOk_s, rgOk_s, rg1Ok_s, repOk_s, fl]) <;> first | rfl | exact ⟨rfl, rfl⟩))
    (first | refine' rtp_go ?h0 ?_ | refine' seq_go ?h0 ?_)
    (case h0 => ((simp (disch := omega) [-getElem?_pos, lenOk_s, divOk_s, mulOk_s, rgOk_s, rg1Ok_s, repOk_s]) <;> first | rfl | exact ⟨rfl, rfl⟩))
    refine' rtp_ret ?h0 ?hd ?_
    (case h0 => ((simp (disch := omega) [-getElem?_pos, lenOk_s, divOk_s, mulOk_s, rgOk_s, rg1Ok_s, repOk_s, l640, rd]) <;> first | rfl | exact ⟨rfl, rfl⟩))
    (case hd => first | rfl | simp [l640, rd])
    simp
theorem istag_c (x : D) (cs : List Nat) (hl : cs.length ≤ 1000) (hc : ∀ c ∈ cs, c ∈ ("abcdefghijklmnopqrstuvwxyz" : Str).cps.toList) : compL (dgName 1) dYes ce_is_tag_0 [1] (cs.map fun c => .sc (.str ⟨#[c]⟩)) [x, .una] [] = .ok (em eB (cs.map fun _ => true), [x, .una]) := by
  have h := comp_map' (dg := dgName 1) (de := ce_is_tag_0) (ws := [1]) (B := [x, .una]) (g := fun c : Nat => .sc (.str ⟨#[c]⟩)) (fun _ : Nat => eB true) (xs := cs) (acc := []) (by simp; omega) (fun c hx => by
    have hm := hc c hx
    refine ⟨[x, .sc (.str ⟨#[c]⟩)], [x, .sc (.str ⟨#[c]⟩)], by simp, ?_, by simp⟩
    simp [ce_is_tag_0, hm])
  simp only [em, List.nil_append, List.map_map] at h ⊢
  exact h
theorem tag_az : ∀ t ∈ tagL, t.length ≤ 8 ∧ ∀ c ∈ t.cps.toList, c ∈ ("abcdefghijklmnopqrstuvwxyz" : Str).cps.toList := by decide +kernel
theorem istag_ok (t : Str) (h : t ∈ tagL) : F_is_tag [.sc (.str t)] = .ok (.sc (.bl true), [.sc (.str t)]) := by
  obtain ⟨h1, h2⟩ := tag_az t h
  have c := istag_c (.sc (.str t)) t.cps.toList (by rw [← str_len]; omega) h2
  have h3 : ¬ ((t.length : Int) > 8) := by omega
  have b := em_bools (t.cps.toList.map fun _ => true)
  refine' f_of (b := dn_is_tag) ?_ rfl
  simp only [List.replicate_succ, List.replicate_zero, List.cons_append, List.nil_append, Nat.reduceSub, Nat.reduceAdd]
  unfold dn_is_tag
  (first | refine' rtp_go ?h0 ?_ | refine' seq_go ?h0 ?_)
  (case h0 => ((simp (disch := omega) [-getElem?_pos, lenOk_s, divOk_s, mulOk_s, rgOk_s, rg1Ok_s, repOk_s, h3]) <;> first | rfl | exact ⟨rfl, rfl⟩))
  refine' rtp_ret ?h0 ?hd ?_
  (case h0 => ((simp (disch := omega) [-getElem?_pos, lenOk_s, divOk_s, mulOk_s, rgOk_s, rg1Ok_s, repOk_s, c, b]) <;> first | rfl | exact ⟨rfl, rfl⟩))
  (case hd => first | rfl | simp [c, b])
  simp
theorem itemin_ok (p : It2) (h : wIt p = true) : F_item_in [.sc (.str (iT p))] = .ok (itm p, [.sc (.str (iT p))]) := by
  have q := iT_part p
  have k := keyin_ok p.1 (w_key h)
  have t := istag_ok p.2 (w_tag h)
  have n := iT_len h
  have so : PyData.strOk p.2 = true := by
    have : ∀ t ∈ tagL, PyData.strOk t = true := by decide +kernel
    exact this _ (w_tag h)
  obtain ⟨mk, b, q, f1, f2⟩ : ∃ (mk : Str) (b : Bool), Txt.partition (iT p) ":" = (iTx p.1, mk, p.2) ∧ fNe [.sc (.str p.2), .sc (.str "")] = some (.sc (.bl b)) ∧ fEq [.sc (.str mk), .sc (.str ":")] = some (.sc (.bl b)) := by
    refine ⟨_, !decide (p.2 = ""), q, fNe_ss so (by decide +kernel), ?_⟩
    by_cases e : p.2 = ""
    · rw [if_pos e, fEq_ss (by decide +kernel) (by decide +kernel)]
      simp only [e, decide_true, Bool.not_true]; rfl
    · rw [if_neg e, fEq_ss (by decide +kernel) (by decide +kernel)]
      simp [e]
  have f3 : fNe [.sc (.bl b), .sc (.bl b)] = some (.sc (.bl false)) := by cases b <;> rfl
  have s1 : (":" : Str).length ≠ 0 ∧ (iT p).length ≤ sizeLine := ⟨by decide +kernel, by rw [sizeLine_eq]; omega⟩
  refine' f_of (b := dn_item_in) ?_ rfl
  simp only [List.replicate_succ, List.replicate_zero, List.cons_append, List.nil_append, Nat.reduceSub, Nat.reduceAdd]
  unfold dn_item_in
  (first | refine' rtp_go ?h0 ?_ | refine' seq_go ?h0 ?_)
  (case h0 => ((simp (disch := omega) [-getElem?_pos, lenOk_s, divOk_s, mulOk_s, rgOk_s, rg1Ok_s, repOk_s, q, s1]) <;> first | rfl | exact ⟨rfl, rfl⟩))
  (first | refine' rtp_go ?h0 ?_ | refine' seq_go ?h0 ?_)
  (case h0 => ((simp (disch := omega) [-getElem?_pos, lenOk_s, divOk_s, mulOk_s, rgOk_s, rg1Ok_s, repOk_s, k]) <;> first | rfl | exact ⟨rfl, rfl⟩))
  (first | refine' rtp_go ?h0 ?_ | refine' seq_go ?h0 ?_)
  (case h0 => ((simp (disch := omega) [-getElem?_pos, lenOk_s, divOk_s, mulOk_s, rgOk_s, rg1Ok_s, repOk_s, t, f1, f2, f3]) <;> first | rfl | exact ⟨rfl, rfl⟩))
  refine' rtp_ret ?h0 ?hd ?_
  (case h0 => ((simp (disch := omega) [-getElem?_pos, lenOk_s, divOk_s, mulOk_s, rgOk_s, rg1Ok_s, repOk_s, itm]) <;> first | rfl | exact ⟨rfl, rfl⟩))
  (case hd => first | rfl | simp [itm])
  simp
theorem rd_st (t : Str) (ys : List It2) (j : Nat) (x : It2) (w : wIt x = true) (hj : j < 200) (lt : ys.length ≤ 1000) (zs : List It2) (ap : em itm ys ++ [itm x] = em itm zs) :
    lb_read_row_0 [.sc (.str t), .nd (.lst true) (em itm ys), .sc (.int j), .sc (.str (iT x)), .una] = .nx [.sc (.str t), .nd (.lst true) (em itm zs), .una, .una, .una] := by
  have i := itemin_ok x w
  have h200 : ¬ ((j : Int) = 200) := by omega
  have nn : isNonD (itm x) = some false := rfl
  have hu : isUna (itm x) = false := rfl
  unfold lb_read_row_0
  (first | refine' rtp_go ?h0 ?_ | refine' seq_go ?h0 ?_)
  (case h0 => ((simp (disch := omega) [-getElem?_pos, lenOk_s, divOk_s, mulOk_s, rgOk_s, rg1Ok_s, repOk_s, i]) <;> first | rfl | exact ⟨rfl, rfl⟩))
  (first | refine' rtp_go ?h0 ?_ | refine' seq_go ?h0 ?_)
  (case h0 => ((simp (disch := omega) [-getElem?_pos, lenOk_s, divOk_s, mulOk_s, rgOk_s, rg1Ok_s, repOk_s, h200, nn]) <;> first | rfl | exact ⟨rfl, rfl⟩))
  simp (disch := omega) [-getElem?_pos, lenOk_s, divOk_s, mulOk_s, rgOk_s, rg1Ok_s, repOk_s, ap, lt, hu]
theorem read_ok (xs : List It2) (hw : wR xs = true) (hl : xs.length ≤ 200) : F_read_row [.sc (.str (rowT xs))] = .ok (.nd (.lst true) (em itm xs), [.sc (.str (rowT xs))]) := by
  have f := fEq_ss (rowT_ok hw) (y := "") (by decide +kernel)
  have n := rowT_len hw (by omega)
  by_cases e : xs = []
  · subst e
    have q0 : fEq [.sc (.str (rowT [])), .sc (.str "")] = some (.sc (.bl true)) := by rw [f, rowT_nil]; simp
    refine' f_of (b := dn_read_row) ?_ rfl
    simp only [List.replicate_succ, List.replicate_zero, List.cons_append, List.nil_append, Nat.reduceSub, Nat.reduceAdd]
    unfold dn_read_row
    (first | refine' rtp_go ?h0 ?_ | refine' seq_go ?h0 ?_)
    (case h0 => ((simp (disch := omega) [-getElem?_pos, lenOk_s, divOk_s, mulOk_s, rgOk_s, rg1Ok_s, repOk_s]) <;> first | rfl | exact ⟨rfl, rfl⟩))
    (first | refine' rtp_go ?h0 ?_ | refine' seq_go ?h0 ?_)
    (case h0 => ((simp (disch := omega) [-getElem?_pos, lenOk_s, divOk_s, mulOk_s, rgOk_s, rg1Ok_s, repOk_s]) <;> first | rfl | exact ⟨rfl, rfl⟩))
    refine' rtp_out ?h0 ?hd ?_
    (case h0 => ((simp (disch := omega) [-getElem?_pos, lenOk_s, divOk_s, mulOk_s, rgOk_s, rg1Ok_s, repOk_s, q0]) <;> first | rfl | exact ⟨rfl, rfl⟩))
    (case hd => first | rfl | simp [q0])
    simp
  · have sp := rowT_split e hw
    have ne := rowT_ne e
    have q0 : fEq [.sc (.str (rowT xs)), .sc (.str "")] = some (.sc (.bl false)) := by rw [f]; simp [ne]
    have s1 : (" " : Str).length ≠ 0 ∧ (rowT xs).length + 2 ≤ sizeLine := ⟨by decide +kernel, by rw [sizeLine_eq]; omega⟩
    have fz : fzs (em (fun p => eS (iT p)) xs) = em (fun p => eS (iT p)) xs := haveI : FzF (fun p : It2 => eS (iT p)) := ⟨fun _ => rfl⟩; em_fzs _ xs
    have se : ((xs.map iT).map fun z => D.sc (.str z)) = em (fun p => eS (iT p)) xs := by simp [em]
    obtain ⟨s, eQ, rfl⟩ := enum_inv (f := fun p : It2 => eS (iT p)) (dg := dgTup [2, 3]) (b := lb_read_row_0) (xs := xs) (σ := List It2) (s0 := []) (fun s => [.sc (.str (rowT xs)), .nd (.lst true) (em itm s), .una, .una, .una]) (fun j s => s = xs.take j) rfl (fun j x s hx es => by
      subst es
      obtain ⟨hj, ex⟩ := List.getElem?_eq_some_iff.mp hx
      subst ex
      have w := List.all_eq_true.mp hw _ (List.getElem_mem hj)
      refine ⟨[.sc (.str (rowT xs)), .nd (.lst true) (em itm (xs.take j)), .sc (.int j), .sc (.str (iT xs[j])), .una], xs.take (j + 1), by simp, .inl ?_, rfl⟩
      have lt : (xs.take j).length ≤ 1000 := by simp; omega
      have ap : em itm (xs.take j) ++ [itm xs[j]] = em itm (xs.take (j + 1)) := by
        rw [List.take_succ_eq_append_getElem hj, em, em, List.map_append]; rfl
      exact rd_st (rowT xs) (xs.take j) j xs[j] w (by omega) lt _ ap)
    rw [List.take_length, show em itm ([] : List It2) = [] from rfl] at eQ
    refine' f_of (b := dn_read_row) ?_ rfl
    simp only [List.replicate_succ, List.replicate_zero, List.cons_append, List.nil_append, Nat.reduceSub, Nat.reduceAdd]
    unfold dn_read_row
    (first | refine' rtp_go ?h0 ?_ | refine' seq_go ?h0 ?_)
    (case h0 => ((simp (disch := omega) [-getElem?_pos, lenOk_s, divOk_s, mulOk_s, rgOk_s, rg1Ok_s, repOk_s]) <;> first | rfl | exact ⟨rfl, rfl⟩))
    (first | refine' rtp_go ?h0 ?_ | refine' seq_go ?h0 ?_)
    (case h0 => ((simp (disch := omega) [-getElem?_pos, lenOk_s, divOk_s, mulOk_s, rgOk_s, rg1Ok_s, repOk_s]) <;> first | rfl | exact ⟨rfl, rfl⟩))
    (first | refine' rtp_go ?h0 ?_ | refine' seq_go ?h0 ?_)
    (case h0 => ((simp (disch := omega) [-getElem?_pos, lenOk_s, divOk_s, mulOk_s, rgOk_s, rg1Ok_s, repOk_s, q0]) <;> first | rfl | exact ⟨rfl, rfl⟩))
    (first | refine' rtp_go ?h0 ?_ | refine' seq_go ?h0 ?_)
    (case h0 => ((simp (disch := omega) [-getElem?_pos, lenOk_s, divOk_s, mulOk_s, rgOk_s, rg1Ok_s, repOk_s, sp, s1, se, fz, eQ]) <;> first | rfl | exact ⟨rfl, rfl⟩))
    refine' rtp_ret ?h0 ?hd ?_
    (case h0 => ((simp (disch := omega) [-getElem?_pos, lenOk_s, divOk_s, mulOk_s, rgOk_s, rg1Ok_s, repOk_s]) <;> first | rfl | exact ⟨rfl, rfl⟩))
    (case hd => first | rfl | simp [])
    simp
theorem put_ok (m : Bool) (l xs : List It2) (r w d : Int) (hl : l.length + xs.length ≤ 200) (hx : wR xs = true) (hn : xs ≠ []) : F_Desk_put_items [dkD m l r w d, .sc (.str (rowT xs))] = .ok (.sc (.str (iTx (l ++ xs).length)), [dkD true (l ++ xs) r w d, .sc (.str (rowT xs))]) := by
  have rd := read_ok xs hx (by omega)
  have e0 : xs.isEmpty = false := by cases xs with | nil => exact absurd rfl hn | cons _ _ => rfl
  have ho := wR_ok hx
  have hq : ¬ (200 < (l.length : Int) + xs.length) := by omega
  have l4 := log40 (i := (l.length : Int) + xs.length) (by omega)
  unfold dkD
  refine' f_of (b := dn_Desk_put_items) ?_ rfl
  simp only [List.replicate_succ, List.replicate_zero, List.cons_append, List.nil_append, Nat.reduceSub, Nat.reduceAdd]
  unfold dn_Desk_put_items
  (first | refine' rtp_go ?h0 ?_ | refine' seq_go ?h0 ?_)
  (case h0 => ((simp (disch := omega) [-getElem?_pos, lenOk_s, divOk_s, mulOk_s, rgOk_s, rg1Ok_s, repOk_s, rd, ev_dTryN]) <;> first | rfl | exact ⟨rfl, rfl⟩))
  (first | refine' rtp_go ?h0 ?_ | refine' seq_go ?h0 ?_)
  (case h0 => ((simp (disch := omega) [-getElem?_pos, lenOk_s, divOk_s, mulOk_s, rgOk_s, rg1Ok_s, repOk_s, ho, e0]) <;> first | rfl | exact ⟨rfl, rfl⟩))
  (first | refine' rtp_go ?h0 ?_ | refine' seq_go ?h0 ?_)
  (case h0 => ((simp (disch := omega) [-getElem?_pos, lenOk_s, divOk_s, mulOk_s, rgOk_s, rg1Ok_s, repOk_s, hq]) <;> first | rfl | exact ⟨rfl, rfl⟩))
  (first | refine' rtp_go ?h0 ?_ | refine' seq_go ?h0 ?_)
  (case h0 => ((simp (disch := omega) [-getElem?_pos, lenOk_s, divOk_s, mulOk_s, rgOk_s, rg1Ok_s, repOk_s, putN, putDs]) <;> first | rfl | exact ⟨rfl, rfl⟩))
  refine' rtp_ret ?h0 ?hd ?_
  (case h0 => ((simp (disch := omega) [-getElem?_pos, lenOk_s, divOk_s, mulOk_s, rgOk_s, rg1Ok_s, repOk_s, l4]) <;> first | rfl | exact ⟨rfl, rfl⟩))
  (case hd => first | rfl | simp [l4])
  simp
theorem str_ok_tag : ∀ t ∈ tagL, PyData.strOk t = true := by decide +kernel
theorem itext_ok (p : It2) (h : wIt p = true) : F_item_text [itm p] = .ok (.sc (.str (iT p)), [itm p]) := by
  have q := fEq_ss (x := p.2) (y := "") (str_ok_tag _ (w_tag h)) (by decide +kernel)
  have l := log40 (w_key h)
  have n1 := iTx_len (w_key h)
  have n2 := tag_len (w_tag h)
  have n3 : (":" : Str).length = 1 := rfl
  have n4 : (iTx p.1 ++ (":" : Str)).length ≤ 42 := by rw [str_app_len]; omega
  unfold itm
  refine' f_of (b := dn_item_text) ?_ rfl
  simp only [List.replicate_succ, List.replicate_zero, List.cons_append, List.nil_append, Nat.reduceSub, Nat.reduceAdd]
  unfold dn_item_text
  by_cases e : p.2 = ""
  · have e' : iT p = iTx p.1 := if_pos e
    have q0 : fEq [.sc (.str p.2), .sc (.str "")] = some (.sc (.bl true)) := by rw [q]; simp [e]
    rw [e']
    refine' rtp_out ?h0 ?hd ?_
    (case h0 => ((simp (disch := omega) [-getElem?_pos, lenOk_s, divOk_s, mulOk_s, rgOk_s, rg1Ok_s, repOk_s, q0, l]) <;> first | rfl | exact ⟨rfl, rfl⟩))
    (case hd => first | rfl | simp [q0, l])
    simp
  · have e' : iT p = iTx p.1 ++ (":" : Str) ++ p.2 := if_neg e
    have q0 : fEq [.sc (.str p.2), .sc (.str "")] = some (.sc (.bl false)) := by rw [q]; simp [e]
    rw [e']
    (first | refine' rtp_go ?h0 ?_ | refine' seq_go ?h0 ?_)
    (case h0 => ((simp (disch := omega) [-getElem?_pos, lenOk_s, divOk_s, mulOk_s, rgOk_s, rg1Ok_s, repOk_s, q0]) <;> first | rfl | exact ⟨rfl, rfl⟩))
    refine' rtp_ret ?h0 ?hd ?_
    (case h0 => ((simp (disch := omega) [-getElem?_pos, lenOk_s, divOk_s, mulOk_s, rgOk_s, rg1Ok_s, repOk_s, l]) <;> first | rfl | exact ⟨rfl, rfl⟩))
    (case hd => first | rfl | simp [l])
    simp
theorem show_c (x : D) (xs : List It2) (hl : xs.length ≤ 1000) (hw : wR xs = true) : compL (dgName 1) dYes ce_show_row_0 [1] (em itm xs) [x, .una] [] = .ok (em (fun p => eS (iT p)) xs, [x, .una]) := by
  have h := comp_map' (dg := dgName 1) (de := ce_show_row_0) (ws := [1]) (B := [x, .una]) (g := itm) (fun p => eS (iT p)) (xs := xs) (acc := []) (by simp; omega) (fun p hx => by
    have t := itext_ok p (List.all_eq_true.mp hw p hx)
    refine ⟨[x, itm p], [x, itm p], by simp, ?_, by simp⟩
    simp [ce_show_row_0, t])
  simpa using h
theorem show_ok (m : Bool) (xs : List It2) (hl : xs.length ≤ 1000) (hw : wR xs = true) : F_show_row [.nd (.lst m) (em itm xs)] = .ok (.sc (.str (rowT xs)), [.nd (.lst false) (em itm xs)]) := by
  have s : strsD (em (fun p => eS (iT p)) xs) = some (xs.map iT) := strsD_map iT xs
  have j := join_fits hw hl
  simp only [List.map_map, List.length_map] at j
  have c := show_c (.nd (.lst false) (em itm xs)) xs hl hw
  cases m
  · refine' f_of (b := dn_show_row) ?_ rfl
    simp only [List.replicate_succ, List.replicate_zero, List.cons_append, List.nil_append, Nat.reduceSub, Nat.reduceAdd]
    unfold dn_show_row
    refine' rtp_ret ?h0 ?hd ?_
    (case h0 => ((simp (disch := omega) [-getElem?_pos, lenOk_s, divOk_s, mulOk_s, rgOk_s, rg1Ok_s, repOk_s, c, s, j, rowT]) <;> first | rfl | exact ⟨rfl, rfl⟩))
    (case hd => first | rfl | simp [c, s, j, rowT])
    simp
  · refine' f_of (b := dn_show_row) ?_ rfl
    simp only [List.replicate_succ, List.replicate_zero, List.cons_append, List.nil_append, Nat.reduceSub, Nat.reduceAdd]
    unfold dn_show_row
    refine' rtp_ret ?h0 ?hd ?_
    (case h0 => ((simp (disch := omega) [-getElem?_pos, lenOk_s, divOk_s, mulOk_s, rgOk_s, rg1Ok_s, repOk_s, c, s, j, rowT]) <;> first | rfl | exact ⟨rfl, rfl⟩))
    (case hd => first | rfl | simp [c, s, j, rowT])
    simp
theorem less_ok (a b : It2) : F_less [itm a, itm b] = .ok (.sc (.bl (ltI a b)), [itm a, itm b]) := by
  by_cases h1 : a.1 < b.1
  · simp [F_less, opq_eq, fnP, fnD, dn_less, itm, ltI, h1]
  · by_cases h2 : a.1 = b.1 <;> simp [F_less, opq_eq, fnP, fnD, dn_less, itm, ltI, h1, h2]
theorem gah_c (l : List It2) (m : Bool) (k : Nat) (hk : k < l.length) (hl : l.length ≤ 1000) : compL (dgName 2) ct_greater_ahead_1 ce_greater_ahead_0 [2] (rngD 0 k) [.nd (.lst m) (em itm l), .sc (.int k), .una] [] = .ok (em eN (ahd l k), [.nd (.lst m) (em itm l), .sc (.int k), .una]) := by
  have e : em eN (ahd l k) = [] ++ em (fun j : Nat => eI ((0 : Int) + (j : Int))) (ahd l k) := by simp [em]
  rw [e, rng_em]
  refine comp_filt' _ _ (by simp; omega) fun j hj => ?_
  have hj : j < k := by simpa using hj
  have e1 := gI_at l k hk
  have e2 := gI_at l j (by omega)
  have u := less_ok (gI l k) (gI l j)
  refine ⟨[.nd (.lst m) (em itm l), .sc (.int k), .sc (.int j)], [.nd (.lst m) (em itm l), .sc (.int k), .sc (.int j)], by simp <;> rfl, by simp (disch := omega) [-getElem?_pos, ct_greater_ahead_1, e1, e2, u], fun _ => ⟨[.nd (.lst m) (em itm l), .sc (.int k), .sc (.int j)], by simp [ce_greater_ahead_0], by simp⟩, fun _ => by simp⟩
theorem gah_ok (l : List It2) (m : Bool) (k : Nat) (hk : k < l.length) (hl : l.length ≤ 1000) : F_greater_ahead [.nd (.lst m) (em itm l), .sc (.int k)] = .ok (.nd (.lst true) (em eN (ahd l k)), [.nd (.lst m) (em itm l), .sc (.int k)]) := by
  have c := gah_c l m k hk hl
  refine' f_of (b := dn_greater_ahead) ?_ rfl
  simp only [List.replicate_succ, List.replicate_zero, List.cons_append, List.nil_append, Nat.reduceSub, Nat.reduceAdd]
  unfold dn_greater_ahead
  refine' rtp_ret ?h0 ?hd ?_
  (case h0 => ((simp (disch := omega) [-getElem?_pos, lenOk_s, divOk_s, mulOk_s, rgOk_s, rg1Ok_s, repOk_s, c]) <;> first | rfl | exact ⟨rfl, rfl⟩))
  (case hd => first | rfl | simp [c])
  simp
theorem ahd_len (l : List It2) (k : Nat) : (ahd l k).length ≤ k := by
  unfold ahd
  exact Nat.le_trans (List.length_filter_le _ _) (by simp)
theorem far_ok (l : List It2) (m : Bool) (hl : l.length ≤ 1000) : F_far [.nd (.lst m) (em itm l)] = .ok (.sc (.int (fr l : Nat)), [.nd (.lst m) (em itm l)]) := by
  obtain ⟨s, eQ, rfl⟩ := rng_inv (i := 2) (b := lb_far_0) (lo := 0) (n := l.length) (σ := Nat) (s0 := 0) (fun s => [.nd (.lst m) (em itm l), .sc (.int s), .una]) (fun j s => s = mxl ((List.range j).map (cnt l))) rfl (by simp) (fun j s hj e => by
    subst e
    have g := gah_ok l m j hj hl
    have h := ahd_len l j
    have e1 : mxl ((List.range (j + 1)).map (cnt l)) = max (mxl ((List.range j).map (cnt l))) (ahd l j).length := by
      rw [List.range_succ, List.map_append, mxl_app]
      have : mxl (List.map (cnt l) [j]) = (ahd l j).length := Nat.max_eq_left (Nat.zero_le _)
      rw [this]
    refine ⟨_, .inl ?_, e1.symm⟩
    generalize mxl ((List.range j).map (cnt l)) = a
    generalize hb : (ahd l j).length = b at *
    have e2 : (if (a : Int) < (b : Int) then (b : Int) else (a : Int)) = ((max a b : Nat) : Int) := by split <;> omega
    have e3 : (if (b : Int) > (a : Int) then (b : Int) else (a : Int)) = ((max a b : Nat) : Int) := by split <;> omega
    simp (disch := omega) [lb_far_0, g, hb]
    omega)
  have eQ : loopD (dgName 2) lb_far_0 (rngD 0 l.length) [.nd (.lst m) (em itm l), .sc (.int 0), .una] = .nx [.nd (.lst m) (em itm l), .sc (.int (fr l : Nat)), .una] := by
    rw [← fr_cnts]; exact eQ
  refine' f_of (b := dn_far) ?_ rfl
  simp only [List.replicate_succ, List.replicate_zero, List.cons_append, List.nil_append, Nat.reduceSub, Nat.reduceAdd]
  unfold dn_far
  (first | refine' rtp_go ?h0 ?_ | refine' seq_go ?h0 ?_)
  (case h0 => ((simp (disch := omega) [-getElem?_pos, lenOk_s, divOk_s, mulOk_s, rgOk_s, rg1Ok_s, repOk_s]) <;> first | rfl | exact ⟨rfl, rfl⟩))
  (first | refine' rtp_go ?h0 ?_ | refine' seq_go ?h0 ?_)
  (case h0 => ((simp (disch := omega) [-getElem?_pos, lenOk_s, divOk_s, mulOk_s, rgOk_s, rg1Ok_s, repOk_s, eQ]) <;> first | rfl | exact ⟨rfl, rfl⟩))
  refine' rtp_ret ?h0 ?hd ?_
  (case h0 => ((simp (disch := omega) [-getElem?_pos, lenOk_s, divOk_s, mulOk_s, rgOk_s, rg1Ok_s, repOk_s]) <;> first | rfl | exact ⟨rfl, rfl⟩))
  (case hd => first | rfl | simp [])
  simp
theorem set_last {α : Type} (s : List α) (h : 0 < s.length) (v : α) : s.set (s.length - 1) v = s.dropLast ++ [v] := by
  rcases List.eq_nil_or_concat s with rfl | ⟨t, a, rfl⟩
  · cases h
  · simp
theorem nat_st (l : List It2) (s : List (List It2)) (j : Nat) (hj : j < l.length) (hl : l.length ≤ 1000) (hs : s.length ≤ j) (h0 : 0 < j → 0 < s.length ∧ (gR s (s.length - 1)).length ≤ j) : lb_natural_0 [.nd (.lst false) (em itm l), .nd (.lst true) (em (eL true itm) s), .sc (.int j), itm (gI l j)] = .nx [.nd (.lst false) (em itm l), .nd (.lst true) (em (eL true itm) (natS l s j)), .una, .una] := by
  have hiu : ∀ p, isUna (itm p) = false := fun _ => rfl
  unfold natS
  by_cases c0 : j = 0
  · subst c0
    have e1 := gR_at (s ++ [[]]) s.length (by simp)
    have ea : em (eL true itm) s ++ [D.nd (.lst true) []] = em (eL true itm) (s ++ [[]]) := by simp [em]
    have ez : (-1 + ((s.length : Int) + 1)).toNat = s.length := by omega
    have e2 : gR (s ++ [[]]) s.length = [] := by simp [gR]
    rw [e2] at e1
    simp only [true_or, if_true]
    unfold lb_natural_0
    (first | refine' rtp_go ?h0 ?_ | refine' seq_go ?h0 ?_)
    (case h0 => ((simp (disch := omega) [-getElem?_pos, lenOk_s, divOk_s, mulOk_s, rgOk_s, rg1Ok_s, repOk_s, ea]) <;> first | rfl | exact ⟨rfl, rfl⟩))
    simp (disch := omega) [-getElem?_pos, lenOk_s, divOk_s, mulOk_s, rgOk_s, rg1Ok_s, repOk_s, e1, hiu, ez]
    rw [show D.nd (.lst true) [itm (gI l 0)] = eL true itm [gI l 0] from rfl, em_set]
    simp
  · have u := less_ok (gI l j) (gI l (j - 1))
    have ej : (j : Int) - 1 = ((j - 1 : Nat) : Int) := by omega
    have e0 := gI_at l (j - 1) (by omega)
    have c0' : ¬ (j : Int) = 0 := by omega
    obtain ⟨h1, h2⟩ := h0 (by omega)
    cases hb : ltI (gI l j) (gI l (j - 1)) with
    | true =>
      rw [hb] at u
      have e1 := gR_at (s ++ [[]]) s.length (by simp)
      have ea : em (eL true itm) s ++ [D.nd (.lst true) []] = em (eL true itm) (s ++ [[]]) := by simp [em]
      have ez : (-1 + ((s.length : Int) + 1)).toNat = s.length := by omega
      have e2 : gR (s ++ [[]]) s.length = [] := by simp [gR]
      rw [e2] at e1
      simp only [or_true, if_true]
      unfold lb_natural_0
      (first | refine' rtp_go ?h0 ?_ | refine' seq_go ?h0 ?_)
      (case h0 => ((simp (disch := omega) [-getElem?_pos, lenOk_s, divOk_s, mulOk_s, rgOk_s, rg1Ok_s, repOk_s, c0', ej, e0, u, ea]) <;> first | rfl | exact ⟨rfl, rfl⟩))
      simp (disch := omega) [-getElem?_pos, lenOk_s, divOk_s, mulOk_s, rgOk_s, rg1Ok_s, repOk_s, e1, hiu, ez]
      rw [show D.nd (.lst true) [itm (gI l j)] = eL true itm [gI l j] from rfl, em_set]
      simp
    | false =>
      rw [hb] at u
      have e1 := gR_at s (s.length - 1) (by omega)
      unfold lb_natural_0
      (first | refine' rtp_go ?h0 ?_ | refine' seq_go ?h0 ?_)
      (case h0 => ((simp (disch := omega) [-getElem?_pos, lenOk_s, divOk_s, mulOk_s, rgOk_s, rg1Ok_s, repOk_s, c0', ej, e0, u, c0]) <;> first | rfl | exact ⟨rfl, rfl⟩))
      have ez : (-1 + (s.length : Int)).toNat = s.length - 1 := by omega
      simp (disch := omega) [-getElem?_pos, lenOk_s, divOk_s, mulOk_s, rgOk_s, rg1Ok_s, repOk_s, e1, hiu, c0, ez]
      rw [set_last s h1]
theorem nat_okM (m : Bool) (l : List It2) (hl : l.length ≤ 1000) : F_natural [.nd (.lst m) (em itm l)] = .ok (.nd (.lst true) (em (eL true itm) (nat l)), [.nd (.lst false) (em itm l)]) := by
  obtain ⟨s, eQ, rfl⟩ := enum_inv (f := itm) (dg := dgTup [2, 3]) (b := lb_natural_0) (xs := l) (σ := List (List It2)) (s0 := []) (fun s => [.nd (.lst false) (em itm l), .nd (.lst true) (em (eL true itm) s), .una, .una]) (fun j s => s = natR l j) rfl (fun j x s hx e => by
    subst e
    have hj : j < l.length := (List.getElem?_eq_some_iff.mp hx).1
    rw [gI_at l j hj] at hx
    cases hx
    obtain ⟨i1, i2, i3, i4⟩ := natR_inv l j (by omega)
    exact ⟨[.nd (.lst false) (em itm l), .nd (.lst true) (em (eL true itm) (natR l j)), .sc (.int j), itm (gI l j)], _, by simp, .inl (nat_st l (natR l j) j hj hl i3 fun h => by
      obtain ⟨s, r, e⟩ := i4 h
      have hp : 0 < (natR l j).length := by rw [e]; simp
      exact ⟨hp, (i2 _ (gR_mem _ _ (by omega))).2⟩), rfl⟩)
  have eQ : loopD (dgTup [2, 3]) lb_natural_0 (enumFrom 0 (em itm l)) [.nd (.lst false) (em itm l), .nd (.lst true) [], .una, .una] = .nx [.nd (.lst false) (em itm l), .nd (.lst true) (em (eL true itm) (nat l)), .una, .una] := eQ
  have fzz : Fzs (em itm l) = true := by simp
  have fz2 : fzs (em itm l) = em itm l := by simp
  cases m
  · refine' f_of (b := dn_natural) ?_ rfl
    simp only [List.replicate_succ, List.replicate_zero, List.cons_append, List.nil_append, Nat.reduceSub, Nat.reduceAdd]
    unfold dn_natural
    (first | refine' rtp_go ?h0 ?_ | refine' seq_go ?h0 ?_)
    (case h0 => ((simp (disch := omega) [-getElem?_pos, lenOk_s, divOk_s, mulOk_s, rgOk_s, rg1Ok_s, repOk_s]) <;> first | rfl | exact ⟨rfl, rfl⟩))
    (first | refine' rtp_go ?h0 ?_ | refine' seq_go ?h0 ?_)
    (case h0 => ((simp (disch := omega) [-getElem?_pos, lenOk_s, divOk_s, mulOk_s, rgOk_s, rg1Ok_s, repOk_s, eQ, fzz]) <;> first | rfl | exact ⟨rfl, rfl⟩))
    refine' rtp_ret ?h0 ?hd ?_
    (case h0 => ((simp (disch := omega) [-getElem?_pos, lenOk_s, divOk_s, mulOk_s, rgOk_s, rg1Ok_s, repOk_s]) <;> first | rfl | exact ⟨rfl, rfl⟩))
    (case hd => first | rfl | simp [])
    simp
  · refine' f_of (b := dn_natural) ?_ rfl
    simp only [List.replicate_succ, List.replicate_zero, List.cons_append, List.nil_append, Nat.reduceSub, Nat.reduceAdd]
    unfold dn_natural
    (first | refine' rtp_go ?h0 ?_ | refine' seq_go ?h0 ?_)
    (case h0 => ((simp (disch := omega) [-getElem?_pos, lenOk_s, divOk_s, mulOk_s, rgOk_s, rg1Ok_s, repOk_s]) <;> first | rfl | exact ⟨rfl, rfl⟩))
    (first | refine' rtp_go ?h0 ?_ | refine' seq_go ?h0 ?_)
    (case h0 => ((simp (disch := omega) [-getElem?_pos, lenOk_s, divOk_s, mulOk_s, rgOk_s, rg1Ok_s, repOk_s, eQ]) <;> first | rfl | exact ⟨rfl, rfl⟩))
    refine' rtp_ret ?h0 ?hd ?_
    (case h0 => ((simp (disch := omega) [-getElem?_pos, lenOk_s, divOk_s, mulOk_s, rgOk_s, rg1Ok_s, repOk_s]) <;> first | rfl | exact ⟨rfl, rfl⟩))
    (case hd => first | rfl | simp [])
    simp
def numT (ns : List Nat) : Str := Txt.join " " (ns.map fun n : Nat => iTx (n : Int))
theorem num_sum : ∀ ns : List Nat, (∀ n ∈ ns, n < 1000000) → ((ns.map fun n : Nat => iTx (n : Int)).map (·.length)).sum ≤ 41 * ns.length
  | [], _ => by simp
  | n :: ns, h => by
    have ih := num_sum ns fun k hk => h k (by simp [hk])
    have l := iTx_len (i := (n : Int)) (by have := h n (by simp); omega)
    simp only [List.map_cons, List.sum_cons, List.length_cons]
    omega
theorem num_it (n : Nat) (h : n < 1000000) : n.log2 < 1920 := by
  have := log40 (i := (n : Int)) (by omega)
  simpa using this
theorem numt_ok (m : Bool) (ns : List Nat) (hl : ns.length ≤ 1000) (hn : ∀ n ∈ ns, n < 1000000) : F_numbers_text [.nd (.lst m) (em eN ns)] = .ok (.sc (.str (numT ns)), [.nd (.lst false) (em eN ns)]) := by
  have s : strsD (em (fun n : Nat => eS (iTx (n : Int))) ns) = some (ns.map fun n : Nat => iTx (n : Int)) := strsD_map (fun n : Nat => iTx (n : Int)) ns
  have j := num_sum ns hn
  simp only [List.map_map] at j
  have j2 : ((ns.map fun n : Nat => (iTx (n : Int)).length)).sum ≤ 41 * ns.length := j
  have c : ∀ x : D, compL (dgName 1) dYes ce_numbers_text_0 [1] (em eN ns) [x, .una] [] = .ok (em (fun n : Nat => eS (iTx (n : Int))) ns, [x, .una]) := fun x => by
    have h := comp_map' (dg := dgName 1) (de := ce_numbers_text_0) (ws := [1]) (B := [x, .una]) (g := eN) (fun n : Nat => eS (iTx (n : Int))) (xs := ns) (acc := []) (by simp; omega) (fun n hx => by
      have l := num_it n (hn n hx)
      refine ⟨[x, .sc (.int n)], [x, .sc (.int n)], by simp, by simp [ce_numbers_text_0, l], by simp⟩)
    simpa using h
  have jj : (List.map ((fun x => x.length) ∘ fun n : Nat => iTx (n : Int)) ns).sum + ns.length * (" " : Str).length ≤ 16777216 := by
    have e : (" " : Str).length = 1 := rfl
    rw [e]
    omega
  cases m
  · refine' f_of (b := dn_numbers_text) ?_ rfl
    simp only [List.replicate_succ, List.replicate_zero, List.cons_append, List.nil_append, Nat.reduceSub, Nat.reduceAdd]
    unfold dn_numbers_text
    refine' rtp_ret ?h0 ?hd ?_
    (case h0 => ((simp (disch := omega) [-getElem?_pos, lenOk_s, divOk_s, mulOk_s, rgOk_s, rg1Ok_s, repOk_s, c, s, jj, numT]) <;> first | rfl | exact ⟨rfl, rfl⟩))
    (case hd => first | rfl | simp [c, s, jj, numT])
    simp
  · refine' f_of (b := dn_numbers_text) ?_ rfl
    simp only [List.replicate_succ, List.replicate_zero, List.cons_append, List.nil_append, Nat.reduceSub, Nat.reduceAdd]
    unfold dn_numbers_text
    refine' rtp_ret ?h0 ?hd ?_
    (case h0 => ((simp (disch := omega) [-getElem?_pos, lenOk_s, divOk_s, mulOk_s, rgOk_s, rg1Ok_s, repOk_s, c, s, jj, numT]) <;> first | rfl | exact ⟨rfl, rfl⟩))
    (case hd => first | rfl | simp [c, s, jj, numT])
    simp
theorem rises_ok (m : Bool) (l : List It2) (hl : l.length ≤ 1000) : F_rises [.nd (.lst m) (em itm l)] = .ok (.sc (.bl (ris l)), [.nd (.lst m) (em itm l)]) := by
  have hr : rngD 1 (l.length - 1) = em (fun (k : Nat) => D.sc (.int (1 + (k : Int)))) (List.range (l.length - 1)) := rfl
  have hn : ((l.length : Int) - 1).toNat = l.length - 1 := by omega
  rcases loop_chk (f := fun (k : Nat) => D.sc (.int (1 + (k : Int)))) (dg := dgName 1) (b := lb_rises_0) (E := [.nd (.lst m) (em itm l), .una]) (fun k => !ltI (gI l (k + 1)) (gI l k)) (fun _ => .sc (.bl false)) (fun E2 => ∃ a, E2 = [.nd (.lst m) (em itm l), a]) (xs := List.range (l.length - 1)) (fun k hk => by
    have hk : k < l.length - 1 := by simpa using hk
    have e1 := gI_at l k (by omega)
    have e2 := gI_at l (k + 1) (by omega)
    have e3 : (1 + (k : Int)).toNat = k + 1 := by omega
    have e4 : (1 + (k : Int) - 1).toNat = k := by omega
    have u := less_ok (gI l (k + 1)) (gI l k)
    have hfz : ∀ p, Fz (itm p) = true := fun _ => rfl
    have hiu : ∀ p, isUna (itm p) = false := fun _ => rfl
    refine ⟨_, by simp <;> rfl, fun hp => .inl ?_, fun hp => ⟨[.nd (.lst m) (em itm l), .sc (.int (1 + (k : Int)))], ?_, _, rfl⟩⟩
    · have hp' : ltI (gI l (k + 1)) (gI l k) = false := by simpa using hp
      rw [hp'] at u
      simp (disch := omega) [-getElem?_pos, lb_rises_0, e1, e2, e3, e4, u, hfz, hiu]
    · have hp' : ltI (gI l (k + 1)) (gI l k) = true := by simpa using hp
      rw [hp'] at u
      simp (disch := omega) [-getElem?_pos, lb_rises_0, e1, e2, e3, e4, u, hfz, hiu]) with ⟨h1, h2⟩ | ⟨h1, x, E2, -, -, -, h2, a, rfl⟩
  · have hris : ris l = true := h1
    rw [← hr] at h2
    refine' f_of (b := dn_rises) ?_ rfl
    simp only [List.replicate_succ, List.replicate_zero, List.cons_append, List.nil_append, Nat.reduceSub, Nat.reduceAdd]
    unfold dn_rises
    (first | refine' rtp_go ?h0 ?_ | refine' seq_go ?h0 ?_)
    (case h0 => ((simp (disch := omega) [-getElem?_pos, lenOk_s, divOk_s, mulOk_s, rgOk_s, rg1Ok_s, repOk_s, hn, h2]) <;> first | rfl | exact ⟨rfl, rfl⟩))
    refine' rtp_ret ?h0 ?hd ?_
    (case h0 => ((simp (disch := omega) [-getElem?_pos, lenOk_s, divOk_s, mulOk_s, rgOk_s, rg1Ok_s, repOk_s, hris]) <;> first | rfl | exact ⟨rfl, rfl⟩))
    (case hd => first | rfl | simp [hris])
    simp
  · have hris : ris l = false := h1
    rw [← hr] at h2
    refine' f_of (b := dn_rises) ?_ rfl
    simp only [List.replicate_succ, List.replicate_zero, List.cons_append, List.nil_append, Nat.reduceSub, Nat.reduceAdd]
    unfold dn_rises
    refine' rtp_out ?h0 ?hd ?_
    (case h0 => ((simp (disch := omega) [-getElem?_pos, lenOk_s, divOk_s, mulOk_s, rgOk_s, rg1Ok_s, repOk_s, hn, h2, hris]) <;> first | rfl | exact ⟨rfl, rfl⟩))
    (case hd => first | rfl | simp [hn, h2, hris])
    simp
theorem nris_ok (m m' : Bool) (hm : m = true ∨ m' = false) (L : List (List It2)) (hl : L.length ≤ 1000) (h : ∀ l ∈ L, l.length ≤ 1000 ∧ ris l = true) : F_need_rising [.nd (.lst m) (em (eL m' itm) L)] = .ok (.sc .non, [.nd (.lst false) (em (eL false itm) L)]) := by
  obtain ⟨_, eL, -⟩ := enum_inv (f := eL false itm) (dg := dgTup [1, 2]) (b := lb_need_rising_0) (xs := L) (σ := Unit) (s0 := ()) (fun _ => [.nd (.lst false) (em (eL false itm) L), .una, .una]) (fun _ _ => True) trivial (fun j x s hx _ => by
    obtain ⟨h1, h2⟩ := h x (List.mem_of_getElem? hx)
    have r := rises_ok false x h1
    rw [h2] at r
    exact ⟨[.nd (.lst false) (em (eL false itm) L), .sc (.int j), .nd (.lst false) (em itm x)], (), by simp, .inl (by simp [lb_need_rising_0, r]), trivial⟩)
  cases m with
  | true =>
    refine' f_of (b := dn_need_rising) ?_ rfl
    simp only [List.replicate_succ, List.replicate_zero, List.cons_append, List.nil_append, Nat.reduceSub, Nat.reduceAdd]
    unfold dn_need_rising
    refine' rtp_end ?h0 rfl ?_
    (case h0 => ((simp (disch := omega) [-getElem?_pos, lenOk_s, divOk_s, mulOk_s, rgOk_s, rg1Ok_s, repOk_s, eL]) <;> first | rfl | exact ⟨rfl, rfl⟩))
    simp
  | false =>
    have : m' = false := by rcases hm with h | h; cases h; exact h
    subst this
    refine' f_of (b := dn_need_rising) ?_ rfl
    simp only [List.replicate_succ, List.replicate_zero, List.cons_append, List.nil_append, Nat.reduceSub, Nat.reduceAdd]
    unfold dn_need_rising
    refine' rtp_end ?h0 rfl ?_
    (case h0 => ((simp (disch := omega) [-getElem?_pos, lenOk_s, divOk_s, mulOk_s, rgOk_s, rg1Ok_s, repOk_s, eL]) <;> first | rfl | exact ⟨rfl, rfl⟩))
    simp
theorem nrun_st (L : List (List It2)) (g : List Nat) (hg : g.length = L.length) (mg : Bool) (j : Nat) (hj : j < L.length) : lb_next_run_0 [.nd (.lst false) (em (eL false itm) L), .nd (.lst mg) (em eN g), eO (nextTo L g j), .sc (.int j), .nd (.lst false) (em itm (gR L j))] = .nx [.nd (.lst false) (em (eL false itm) L), .nd (.lst mg) (em eN g), eO (nextTo L g (j + 1)), .una, .una] := by
  have e1 := gT_at g j (by omega)
  by_cases c : gT g j < (gR L j).length
  · have e2 := gI_at (gR L j) (gT g j) c
    have c' : (gT g j : Int) < (gR L j).length := by omega
    cases en : nextTo L g j with
    | none =>
      have e3 : nextTo L g (j + 1) = some j := by unfold nextTo; rw [if_pos c, en]
      rw [e3]
      simp (disch := omega) [-getElem?_pos, lb_next_run_0, e1, c, c', e2]
    | some f =>
      obtain ⟨f1, f2⟩ := nextTo_some en
      have e4 := gT_at g f (by omega)
      have e5 := gR_at L f (by omega)
      have e6 := gI_at (gR L f) (gT g f) f2
      have u := less_ok (hd L g j) (hd L g f)
      unfold hd at u
      cases hb : ltI (hd L g j) (hd L g f) with
      | true =>
        have e3 : nextTo L g (j + 1) = some j := by unfold nextTo; rw [if_pos c, en]; dsimp only; rw [hb]; rfl
        rw [e3]
        unfold hd at hb
        rw [hb] at u
        simp (disch := omega) [-getElem?_pos, lb_next_run_0, e1, c, c', e2, e4, e5, e6, u]
      | false =>
        have e3 : nextTo L g (j + 1) = some f := by unfold nextTo; rw [if_pos c, en]; dsimp only; rw [hb]; rfl
        rw [e3]
        unfold hd at hb
        rw [hb] at u
        simp (disch := omega) [-getElem?_pos, lb_next_run_0, e1, c, c', e2, e4, e5, e6, u]
  · have e3 : nextTo L g (j + 1) = nextTo L g j := by conv => lhs; unfold nextTo
                                                      rw [if_neg c]
    have c' : ¬ (gT g j : Int) < (gR L j).length := by omega
    rw [e3]
    simp (disch := omega) [-getElem?_pos, lb_next_run_0, e1, c, c']
theorem nrun_ok (L : List (List It2)) (g : List Nat) (hg : g.length = L.length) (mg : Bool) : F_next_run [.nd (.lst false) (em (eL false itm) L), .nd (.lst mg) (em eN g)] = .ok (eO (next L g), [.nd (.lst false) (em (eL false itm) L), .nd (.lst mg) (em eN g)]) := by
  obtain ⟨s, eQ, rfl⟩ := enum_inv (f := eL false itm) (dg := dgTup [3, 4]) (b := lb_next_run_0) (xs := L) (σ := Option Nat) (s0 := none) (fun s => [.nd (.lst false) (em (eL false itm) L), .nd (.lst mg) (em eN g), eO s, .una, .una]) (fun j s => s = nextTo L g j) rfl (fun j x s hx e => by
    subst e
    have hj : j < L.length := (List.getElem?_eq_some_iff.mp hx).1
    rw [gR_at L j hj] at hx
    cases hx
    exact ⟨[.nd (.lst false) (em (eL false itm) L), .nd (.lst mg) (em eN g), eO (nextTo L g j), .sc (.int j), .nd (.lst false) (em itm (gR L j))], _, by simp, .inl (nrun_st L g hg mg j hj), rfl⟩)
  have eQ : loopD (dgTup [3, 4]) lb_next_run_0 (enumFrom 0 (em (eL false itm) L)) [.nd (.lst false) (em (eL false itm) L), .nd (.lst mg) (em eN g), .sc .non, .una, .una] = .nx [.nd (.lst false) (em (eL false itm) L), .nd (.lst mg) (em eN g), eO (next L g), .una, .una] := eQ
  have hu : isUna (eO (next L g)) = false := by cases next L g <;> rfl
  refine' f_of (b := dn_next_run) ?_ rfl
  simp only [List.replicate_succ, List.replicate_zero, List.cons_append, List.nil_append, Nat.reduceSub, Nat.reduceAdd]
  unfold dn_next_run
  (first | refine' rtp_go ?h0 ?_ | refine' seq_go ?h0 ?_)
  (case h0 => ((simp (disch := omega) [-getElem?_pos, lenOk_s, divOk_s, mulOk_s, rgOk_s, rg1Ok_s, repOk_s]) <;> first | rfl | exact ⟨rfl, rfl⟩))
  (first | refine' rtp_go ?h0 ?_ | refine' seq_go ?h0 ?_)
  (case h0 => ((simp (disch := omega) [-getElem?_pos, lenOk_s, divOk_s, mulOk_s, rgOk_s, rg1Ok_s, repOk_s, eQ]) <;> first | rfl | exact ⟨rfl, rfl⟩))
  refine' rtp_ret ?h0 ?hd ?_
  (case h0 => ((simp (disch := omega) [-getElem?_pos, lenOk_s, divOk_s, mulOk_s, rgOk_s, rg1Ok_s, repOk_s, hu]) <;> first | rfl | exact ⟨rfl, rfl⟩))
  (case hd => first | rfl | simp [hu])
  simp
theorem pour_st (L : List (List It2)) (n : Nat) (hn : n < tot L) (hT : tot L ≤ 1000) (f : Nat) (hf : next L (pst L n).g = some f) : lb_pour_1 [.nd (.lst false) (em (eL false itm) L), .nd (.lst true) (em eN (pst L n).g), .nd (.lst true) (em itm (pst L n).row), .nd (.lst true) (em eN (pst L n).tr), .sc (.int f)] = .nx [.nd (.lst false) (em (eL false itm) L), .nd (.lst true) (em eN (pst L (n + 1)).g), .nd (.lst true) (em itm (pst L (n + 1)).row), .nd (.lst true) (em eN (pst L (n + 1)).tr), eO (next L (pst L (n + 1)).g)] := by
  obtain ⟨h1, h2, h3, h4, h5, h6⟩ := pst_inv L n (by omega)
  obtain ⟨k1, k2, k3, k4, k5, k6⟩ := pst_inv L (n + 1) (by omega)
  obtain ⟨f', e, a1, a2, a3⟩ := pst_next L n hn
  rw [hf] at e
  cases e
  have e1 := gR_at L f a1
  have e2 := gT_at (pst L n).g f (by omega)
  have e3 := gI_at (gR L f) (gT (pst L n).g f) a2
  have en := nrun_ok L (pst L (n + 1)).g k1 true
  have g1 : (pst L (n + 1)).g = (pst L n).g.set f (gT (pst L n).g f + 1) := by rw [a3]; rfl
  have g2 : (pst L (n + 1)).row = (pst L n).row ++ [gI (gR L f) (gT (pst L n).g f)] := by rw [a3]; rfl
  have g3 : (pst L (n + 1)).tr = (pst L n).tr ++ [f] := by rw [a3]; rfl
  rw [g1] at en
  rw [g1, g2, g3]
  have hlt : (gT (pst L n).g f : Int) < (gR L f).length := by omega
  unfold lb_pour_1
  (first | refine' rtp_go ?h0 ?_ | refine' seq_go ?h0 ?_)
  (case h0 => ((simp (disch := omega) [-getElem?_pos, lenOk_s, divOk_s, mulOk_s, rgOk_s, rg1Ok_s, repOk_s, e1, e2, e3]) <;> first | rfl | exact ⟨rfl, rfl⟩))
  (first | refine' rtp_go ?h0 ?_ | refine' seq_go ?h0 ?_)
  (case h0 => ((simp (disch := omega) [-getElem?_pos, lenOk_s, divOk_s, mulOk_s, rgOk_s, rg1Ok_s, repOk_s]) <;> first | rfl | exact ⟨rfl, rfl⟩))
  (first | refine' rtp_go ?h0 ?_ | refine' seq_go ?h0 ?_)
  (case h0 => ((simp (disch := omega) [-getElem?_pos, lenOk_s, divOk_s, mulOk_s, rgOk_s, rg1Ok_s, repOk_s, e1, e2]) <;> first | rfl | exact ⟨rfl, rfl⟩))
  simp (disch := omega) [-getElem?_pos, lenOk_s, divOk_s, mulOk_s, rgOk_s, rg1Ok_s, repOk_s, en]
theorem pour_ok (m m' : Bool) (hm : m = true ∨ m' = false) (L : List (List It2)) (hl : L.length ≤ 1000) (hT : tot L ≤ 1000) (h : ∀ l ∈ L, l.length ≤ 1000 ∧ ris l = true) : F_pour [.nd (.lst m) (em (eL m' itm) L)] = .ok (.nd .tup [.nd (.lst true) (em itm (poured L)), .nd (.lst true) (em eN (traced L))], [.nd (.lst false) (em (eL false itm) L)]) := by
  have nr := nris_ok m m' hm L hl h
  have e0 := nrun_ok L (List.replicate L.length 0) (by simp) true
  have key : ∀ k n, k + n = tot L → dWhile wt_pour_0 lb_pour_1 [.nd (.lst false) (em (eL false itm) L), .nd (.lst true) (em eN (pst L n).g), .nd (.lst true) (em itm (pst L n).row), .nd (.lst true) (em eN (pst L n).tr), eO (next L (pst L n).g)] = .nx [.nd (.lst false) (em (eL false itm) L), .nd (.lst true) (em eN (pst L (tot L)).g), .nd (.lst true) (em itm (poured L)), .nd (.lst true) (em eN (traced L)), .sc .non] := by
    intro k
    induction k with
    | zero =>
      intro n hn
      have : n = tot L := by omega
      subst this
      rw [pst_end L, while_turn]
      simp [wt_pour_0, poured, traced]
    | succ k ih =>
      intro n hn
      obtain ⟨f, e, -⟩ := pst_next L n (by omega)
      have st := pour_st L n (by omega) hT f e
      rw [e, while_turn]
      have et : wt_pour_0 [.nd (.lst false) (em (eL false itm) L), .nd (.lst true) (em eN (pst L n).g), .nd (.lst true) (em itm (pst L n).row), .nd (.lst true) (em eN (pst L n).tr), eO (some f)] = .ok (true, [.nd (.lst false) (em (eL false itm) L), .nd (.lst true) (em eN (pst L n).g), .nd (.lst true) (em itm (pst L n).row), .nd (.lst true) (em eN (pst L n).tr), eO (some f)]) := by
        simp [wt_pour_0]
      rw [et, ev_sok]
      simp only [↓reduceIte, eO_some, st, lk_nx]
      exact ih (n + 1) (by omega)
  have k0 := key (tot L) 0 (by omega)
  have k0 : dWhile wt_pour_0 lb_pour_1 [.nd (.lst false) (em (eL false itm) L), .nd (.lst true) (em eN (List.replicate L.length 0)), .nd (.lst true) [], .nd (.lst true) [], eO (next L (List.replicate L.length 0))] = _ := k0
  have hr : List.replicate L.length (D.sc (.int 0)) = em eN (List.replicate L.length 0) := em_rep eN L.length 0
  refine' f_of (b := dn_pour) ?_ rfl
  simp only [List.replicate_succ, List.replicate_zero, List.cons_append, List.nil_append, Nat.reduceSub, Nat.reduceAdd]
  unfold dn_pour
  (first | refine' rtp_go ?h0 ?_ | refine' seq_go ?h0 ?_)
  (case h0 => ((simp (disch := omega) [-getElem?_pos, lenOk_s, divOk_s, mulOk_s, rgOk_s, rg1Ok_s, repOk_s, nr]) <;> first | rfl | exact ⟨rfl, rfl⟩))
  (first | refine' rtp_go ?h0 ?_ | refine' seq_go ?h0 ?_)
  (case h0 => ((simp (disch := omega) [-getElem?_pos, lenOk_s, divOk_s, mulOk_s, rgOk_s, rg1Ok_s, repOk_s, hr]) <;> first | rfl | exact ⟨rfl, rfl⟩))
  (first | refine' rtp_go ?h0 ?_ | refine' seq_go ?h0 ?_)
  (case h0 => ((simp (disch := omega) [-getElem?_pos, lenOk_s, divOk_s, mulOk_s, rgOk_s, rg1Ok_s, repOk_s]) <;> first | rfl | exact ⟨rfl, rfl⟩))
  (first | refine' rtp_go ?h0 ?_ | refine' seq_go ?h0 ?_)
  (case h0 => ((simp (disch := omega) [-getElem?_pos, lenOk_s, divOk_s, mulOk_s, rgOk_s, rg1Ok_s, repOk_s]) <;> first | rfl | exact ⟨rfl, rfl⟩))
  (first | refine' rtp_go ?h0 ?_ | refine' seq_go ?h0 ?_)
  (case h0 => ((simp (disch := omega) [-getElem?_pos, lenOk_s, divOk_s, mulOk_s, rgOk_s, rg1Ok_s, repOk_s, e0]) <;> first | rfl | exact ⟨rfl, rfl⟩))
  (first | refine' rtp_go ?h0 ?_ | refine' seq_go ?h0 ?_)
  (case h0 => ((simp (disch := omega) [-getElem?_pos, lenOk_s, divOk_s, mulOk_s, rgOk_s, rg1Ok_s, repOk_s, k0]) <;> first | rfl | exact ⟨rfl, rfl⟩))
  refine' rtp_ret ?h0 ?hd ?_
  (case h0 => ((simp (disch := omega) [-getElem?_pos, lenOk_s, divOk_s, mulOk_s, rgOk_s, rg1Ok_s, repOk_s]) <;> first | rfl | exact ⟨rfl, rfl⟩))
  (case hd => first | rfl | simp [])
  simp
theorem nat_in (l : List It2) : ∀ r ∈ nat l, (∀ p ∈ r, p ∈ l) ∧ r.length ≤ l.length := fun r hr => by
  have e := nat_flat l
  refine ⟨fun p hp => by rw [← e]; exact List.mem_flatten.mpr ⟨r, hr, hp⟩, ?_⟩
  have := (List.sublist_flatten_of_mem hr).length_le
  rw [e] at this; exact this
theorem nat_cnt (l : List It2) : (nat l).length ≤ l.length := (natR_inv l l.length (Nat.le_refl _)).2.2.1
theorem nat_tr (l : List It2) : ∀ n ∈ traced (nat l), n < l.length := fun n hn => by
  obtain ⟨i, hi, e⟩ := List.mem_iff_getElem.mp hn
  have ht : i < tot (nat l) := by rw [← traced_len]; exact hi
  have := (traced_at (nat l) i ht).2.1
  have g : gT (traced (nat l)) i = n := by unfold gT; rw [List.getD_eq_getElem?_getD, List.getElem?_eq_getElem hi]; exact e
  rw [g] at this
  have := nat_cnt l
  omega
theorem ttold_ok (m : Bool) (l : List It2) (r w d : Int) (hl : l.length ≤ 16) : F_Desk_trace_told [dkD m l r w d] = .ok (.sc (.str (numT (traced (nat l)))), [dkD false l r w d]) := by
  have n1 := nat_okM m l (by omega)
  have c := nat_cnt l
  have t : tot (nat l) = l.length := by rw [tot_flat, nat_flat]
  have p := pour_ok false false (.inr rfl) (nat l) (by omega) (by omega) fun x hx => ⟨by have := (nat_in l x hx).2; omega, (ris_iff x).mpr (nat_up l x hx)⟩
  have p1 := pour_ok true true (.inl rfl) (nat l) (by omega) (by omega) fun x hx => ⟨by have := (nat_in l x hx).2; omega, (ris_iff x).mpr (nat_up l x hx)⟩
  have tl := traced_len (nat l)
  have nt := numt_ok false (traced (nat l)) (by omega) (fun n hn => by have := nat_tr l n hn; omega)
  have g0 : (em (eL true itm) (nat l)).length = (nat l).length := by simp
  have q : ¬ (16 : Int) < ((nat l).length : Int) := by omega
  have f2 : fzs (em eN (traced (nat l))) = em eN (traced (nat l)) := em_fzs _ _
  have f3 : Fzs (em eN (traced (nat l))) = true := by simp
  unfold dkD
  generalize em eN (traced (nat l)) = ZT at *
  generalize em itm (poured (nat l)) = ZP at *
  generalize em (eL false itm) (nat l) = ZF at *
  generalize em (eL true itm) (nat l) = ZN at *
  cases m
  · refine' f_of (b := dn_Desk_trace_told) ?_ rfl
    simp only [List.replicate_succ, List.replicate_zero, List.cons_append, List.nil_append, Nat.reduceSub, Nat.reduceAdd]
    unfold dn_Desk_trace_told
    (first | refine' rtp_go ?h0 ?_ | refine' seq_go ?h0 ?_)
    (case h0 => ((simp (disch := omega) [-getElem?_pos, lenOk_s, divOk_s, mulOk_s, rgOk_s, rg1Ok_s, repOk_s, n1]) <;> first | rfl | exact ⟨rfl, rfl⟩))
    (first | refine' rtp_go ?h0 ?_ | refine' seq_go ?h0 ?_)
    (case h0 => ((simp (disch := omega) [-getElem?_pos, lenOk_s, divOk_s, mulOk_s, rgOk_s, rg1Ok_s, repOk_s, g0, q]) <;> first | rfl | exact ⟨rfl, rfl⟩))
    refine' rtp_ret ?h0 ?hd ?_
    (case h0 => ((simp (disch := omega) [-getElem?_pos, lenOk_s, divOk_s, mulOk_s, rgOk_s, rg1Ok_s, repOk_s, p, p1, nt, f2, f3]) <;> first | rfl | exact ⟨rfl, rfl⟩))
    (case hd => first | rfl | simp [p, p1, nt, f2, f3])
    simp
  · refine' f_of (b := dn_Desk_trace_told) ?_ rfl
    simp only [List.replicate_succ, List.replicate_zero, List.cons_append, List.nil_append, Nat.reduceSub, Nat.reduceAdd]
    unfold dn_Desk_trace_told
    (first | refine' rtp_go ?h0 ?_ | refine' seq_go ?h0 ?_)
    (case h0 => ((simp (disch := omega) [-getElem?_pos, lenOk_s, divOk_s, mulOk_s, rgOk_s, rg1Ok_s, repOk_s, n1]) <;> first | rfl | exact ⟨rfl, rfl⟩))
    (first | refine' rtp_go ?h0 ?_ | refine' seq_go ?h0 ?_)
    (case h0 => ((simp (disch := omega) [-getElem?_pos, lenOk_s, divOk_s, mulOk_s, rgOk_s, rg1Ok_s, repOk_s, g0, q]) <;> first | rfl | exact ⟨rfl, rfl⟩))
    refine' rtp_ret ?h0 ?hd ?_
    (case h0 => ((simp (disch := omega) [-getElem?_pos, lenOk_s, divOk_s, mulOk_s, rgOk_s, rg1Ok_s, repOk_s, p, p1, nt, f2, f3]) <;> first | rfl | exact ⟨rfl, rfl⟩))
    (case hd => first | rfl | simp [p, p1, nt, f2, f3])
    simp
theorem asked_row (m : Bool) (l : List It2) (r w d : Int) (hl : l.length ≤ 200) (hx : wR l = true) : F_Desk_asked [dkD m l r w d, .sc (.str "row")] = .ok (.sc (.str (rowT l)), [dkD false l r w d, .sc (.str "row")]) := by
  have f0 : fEq [.sc (.str "row"), .sc (.str "row")] = some (.sc (.bl true)) := by rw [fEq_ss (by decide +kernel) (by decide +kernel)]; rfl
  have s := show_ok m l (by omega) hx
  unfold dkD
  cases m
  · refine' f_of (b := dn_Desk_asked) ?_ rfl
    simp only [List.replicate_succ, List.replicate_zero, List.cons_append, List.nil_append, Nat.reduceSub, Nat.reduceAdd]
    unfold dn_Desk_asked
    refine' rtp_out ?h0 ?hd ?_
    (case h0 => ((simp (disch := omega) [-getElem?_pos, lenOk_s, divOk_s, mulOk_s, rgOk_s, rg1Ok_s, repOk_s, f0, s]) <;> first | rfl | exact ⟨rfl, rfl⟩))
    (case hd => first | rfl | simp [f0, s])
    simp
  · refine' f_of (b := dn_Desk_asked) ?_ rfl
    simp only [List.replicate_succ, List.replicate_zero, List.cons_append, List.nil_append, Nat.reduceSub, Nat.reduceAdd]
    unfold dn_Desk_asked
    refine' rtp_out ?h0 ?hd ?_
    (case h0 => ((simp (disch := omega) [-getElem?_pos, lenOk_s, divOk_s, mulOk_s, rgOk_s, rg1Ok_s, repOk_s, f0, s]) <;> first | rfl | exact ⟨rfl, rfl⟩))
    (case hd => first | rfl | simp [f0, s])
    simp
theorem wR_app {l xs : List It2} (h : wR l = true) (hx : wR xs = true) : wR (l ++ xs) = true := by
  simp only [List.all_append, Bool.and_eq_true]; exact ⟨h, hx⟩
theorem say_add (m : Bool) (l xs : List It2) (r w d : Int) (hl : l.length + xs.length ≤ 200) (hx : wR xs = true) (hn : xs ≠ []) : F_Desk_say [dkD m l r w d, .sc (.str (("add " : Str) ++ rowT xs))] = .ok (.sc (.str (iTx (l ++ xs).length)), [dkD true (l ++ xs) r w d, .sc (.str (("add " : Str) ++ rowT xs))]) := by
  have p := put_ok m l xs r w d hl hx hn
  have sp : Txt.split (("add " : Str) ++ rowT xs) " " = ("add" : Str) :: xs.map iT := by
    obtain ⟨x, ys, rfl⟩ := List.exists_cons_of_ne_nil hn
    have e : ("add " : Str) ++ rowT (x :: ys) = Txt.join " " (("add" : Str) :: (x :: ys).map iT) := TL.ext_tl (by
      rw [TL.tl_append, tl_rowT, TL.join_eq, TL.tl_join]; rfl)
    rw [e]
    refine TL.split_join (s := 32) (S := []) rfl (by decide +kernel) (by simp) fun p hp => ?_
    rcases List.mem_cons.mp hp with rfl | hp
    · decide +kernel
    · obtain ⟨y, hy, rfl⟩ := List.mem_map.mp hp
      intro z
      have := iT_sign (List.all_eq_true.mp hx y hy) z
      omega
  have c4 : cutS (("add " : Str) ++ rowT xs) (some 4) none = rowT xs := by
    have e : ("add " : Str) ++ rowT xs = sgT ([97, 100, 100, 32] ++ TL.tl (rowT xs)) := TL.ext_tl (by rw [TL.tl_append, tl_sgT]; rfl)
    rw [e]
    have := cutS_drop (l := [97, 100, 100, 32] ++ TL.tl (rowT xs)) (k := 4)
    refine this.trans (TL.ext_tl ?_)
    rw [tl_sgT]; rfl
  have n := rowT_len hx (by omega)
  have nl : (("add " : Str) ++ rowT xs).length = 4 + (rowT xs).length := by rw [str_app_len]; rfl
  have s1 : (" " : Str).length ≠ 0 ∧ (("add " : Str) ++ rowT xs).length + 2 ≤ sizeLine := ⟨by decide +kernel, by rw [sizeLine_eq, nl]; omega⟩
  have f0 : fEq [.sc (.str "add"), .sc (.str "add")] = some (.sc (.bl true)) := by rw [fEq_ss (by decide +kernel) (by decide +kernel)]; rfl
  have hx0 : 0 < xs.length := by cases xs with | nil => exact absurd rfl hn | cons _ _ => simp
  have q : (1 : Int) < (xs.length : Int) + 1 := by omega
  generalize (("add " : Str) ++ rowT xs) = ln at *
  refine' f_of (b := dn_Desk_say) ?_ rfl
  simp only [List.replicate_succ, List.replicate_zero, List.cons_append, List.nil_append, Nat.reduceSub, Nat.reduceAdd]
  unfold dn_Desk_say
  (first | refine' rtp_go ?h0 ?_ | refine' seq_go ?h0 ?_)
  (case h0 => ((simp (disch := omega) [-getElem?_pos, lenOk_s, divOk_s, mulOk_s, rgOk_s, rg1Ok_s, repOk_s]) <;> first | rfl | exact ⟨rfl, rfl⟩))
  (first | refine' rtp_go ?h0 ?_ | refine' seq_go ?h0 ?_)
  (case h0 => ((simp (disch := omega) [-getElem?_pos, lenOk_s, divOk_s, mulOk_s, rgOk_s, rg1Ok_s, repOk_s, sp, s1]) <;> first | rfl | exact ⟨rfl, rfl⟩))
  refine' rtp_out ?h0 ?hd ?_
  (case h0 => ((simp (disch := omega) [-getElem?_pos, lenOk_s, divOk_s, mulOk_s, rgOk_s, rg1Ok_s, repOk_s, f0, q, nl, c4, p]) <;> first | rfl | exact ⟨rfl, rfl⟩))
  (case hd => first | rfl | simp [f0, q, nl, c4, p])
  simp
theorem split_word (w : Str) (h : 32 ∉ TL.tl w) : Txt.split w " " = [w] := by
  have e : w = Txt.join " " [w] := TL.ext_tl (by rw [TL.join_eq, TL.tl_join]; rfl)
  have := TL.split_join (y := " ") (s := 32) (S := []) rfl (by decide +kernel) (parts := [w]) (by simp) (fun p hp => by rw [List.mem_singleton.mp hp]; exact h)
  rw [← e] at this
  exact this
theorem say_row (m : Bool) (l : List It2) (r w d : Int) (hl : l.length ≤ 200) (hx : wR l = true) : F_Desk_say [dkD m l r w d, .sc (.str "row")] = .ok (.sc (.str (rowT l)), [dkD false l r w d, .sc (.str "row")]) := by
  have a := asked_row m l r w d hl hx
  have sp := split_word "row" (by decide +kernel)
  have s1 : (" " : Str).length ≠ 0 ∧ ("row" : Str).length + 2 ≤ sizeLine := ⟨by decide +kernel, by decide +kernel⟩
  have f0 : fEq [.sc (.str "row"), .sc (.str "add")] = some (.sc (.bl false)) := by rw [fEq_ss (by decide +kernel) (by decide +kernel)]; rfl
  have f1 : fEq [.sc (.str "row"), .sc (.str "clear")] = some (.sc (.bl false)) := by rw [fEq_ss (by decide +kernel) (by decide +kernel)]; rfl
  refine' f_of (b := dn_Desk_say) ?_ rfl
  simp only [List.replicate_succ, List.replicate_zero, List.cons_append, List.nil_append, Nat.reduceSub, Nat.reduceAdd]
  unfold dn_Desk_say
  (first | refine' rtp_go ?h0 ?_ | refine' seq_go ?h0 ?_)
  (case h0 => ((simp (disch := omega) [-getElem?_pos, lenOk_s, divOk_s, mulOk_s, rgOk_s, rg1Ok_s, repOk_s]) <;> first | rfl | exact ⟨rfl, rfl⟩))
  (first | refine' rtp_go ?h0 ?_ | refine' seq_go ?h0 ?_)
  (case h0 => ((simp (disch := omega) [-getElem?_pos, lenOk_s, divOk_s, mulOk_s, rgOk_s, rg1Ok_s, repOk_s, sp, s1]) <;> first | rfl | exact ⟨rfl, rfl⟩))
  (first | refine' rtp_go ?h0 ?_ | refine' seq_go ?h0 ?_)
  (case h0 => ((simp (disch := omega) [-getElem?_pos, lenOk_s, divOk_s, mulOk_s, rgOk_s, rg1Ok_s, repOk_s, f0]) <;> first | rfl | exact ⟨rfl, rfl⟩))
  (first | refine' rtp_go ?h0 ?_ | refine' seq_go ?h0 ?_)
  (case h0 => ((simp (disch := omega) [-getElem?_pos, lenOk_s, divOk_s, mulOk_s, rgOk_s, rg1Ok_s, repOk_s]) <;> first | rfl | exact ⟨rfl, rfl⟩))
  (first | refine' rtp_go ?h0 ?_ | refine' seq_go ?h0 ?_)
  (case h0 => ((simp (disch := omega) [-getElem?_pos, lenOk_s, divOk_s, mulOk_s, rgOk_s, rg1Ok_s, repOk_s, f1]) <;> first | rfl | exact ⟨rfl, rfl⟩))
  refine' rtp_ret ?h0 ?hd ?_
  (case h0 => ((simp (disch := omega) [-getElem?_pos, lenOk_s, divOk_s, mulOk_s, rgOk_s, rg1Ok_s, repOk_s, a]) <;> first | rfl | exact ⟨rfl, rfl⟩))
  (case hd => first | rfl | simp [a])
  simp
theorem say_clear (m : Bool) (l : List It2) (r w d : Int) : F_Desk_say [dkD m l r w d, .sc (.str "clear")] = .ok (.sc (.str "0"), [dkD true [] r w d, .sc (.str "clear")]) := by
  have sp := split_word "clear" (by decide +kernel)
  have s1 : (" " : Str).length ≠ 0 ∧ ("clear" : Str).length + 2 ≤ sizeLine := ⟨by decide +kernel, by decide +kernel⟩
  have f0 : fEq [.sc (.str "clear"), .sc (.str "add")] = some (.sc (.bl false)) := by rw [fEq_ss (by decide +kernel) (by decide +kernel)]; rfl
  have f1 : fEq [.sc (.str "clear"), .sc (.str "clear")] = some (.sc (.bl true)) := by rw [fEq_ss (by decide +kernel) (by decide +kernel)]; rfl
  unfold dkD
  refine' f_of (b := dn_Desk_say) ?_ rfl
  simp only [List.replicate_succ, List.replicate_zero, List.cons_append, List.nil_append, Nat.reduceSub, Nat.reduceAdd]
  unfold dn_Desk_say
  (first | refine' rtp_go ?h0 ?_ | refine' seq_go ?h0 ?_)
  (case h0 => ((simp (disch := omega) [-getElem?_pos, lenOk_s, divOk_s, mulOk_s, rgOk_s, rg1Ok_s, repOk_s]) <;> first | rfl | exact ⟨rfl, rfl⟩))
  (first | refine' rtp_go ?h0 ?_ | refine' seq_go ?h0 ?_)
  (case h0 => ((simp (disch := omega) [-getElem?_pos, lenOk_s, divOk_s, mulOk_s, rgOk_s, rg1Ok_s, repOk_s, sp, s1]) <;> first | rfl | exact ⟨rfl, rfl⟩))
  (first | refine' rtp_go ?h0 ?_ | refine' seq_go ?h0 ?_)
  (case h0 => ((simp (disch := omega) [-getElem?_pos, lenOk_s, divOk_s, mulOk_s, rgOk_s, rg1Ok_s, repOk_s, f0]) <;> first | rfl | exact ⟨rfl, rfl⟩))
  (first | refine' rtp_go ?h0 ?_ | refine' seq_go ?h0 ?_)
  (case h0 => ((simp (disch := omega) [-getElem?_pos, lenOk_s, divOk_s, mulOk_s, rgOk_s, rg1Ok_s, repOk_s]) <;> first | rfl | exact ⟨rfl, rfl⟩))
  refine' rtp_out ?h0 ?hd ?_
  (case h0 => ((simp (disch := omega) [-getElem?_pos, lenOk_s, divOk_s, mulOk_s, rgOk_s, rg1Ok_s, repOk_s, f1, putN, putDs]) <;> first | rfl | exact ⟨rfl, rfl⟩))
  (case hd => first | rfl | simp [f1, putN, putDs])
  simp
theorem classes_TooMany (a : Addr) : F_law_classes_xTooMany a [.sc (.ref a)] = .ok (.nd (.lst true) (em eB (kls 8)), [.sc (.ref a)]) := by
  have e : em eB (kls 8) = (kls 8).map eB := rfl
  have k : kls 8 = kls 8 := rfl
  unfold kls at k
  refine' f_of (b := dn_law_classes_xTooMany a) ?_ rfl
  simp only [List.replicate_succ, List.replicate_zero, List.cons_append, List.nil_append, Nat.reduceSub, Nat.reduceAdd]
  unfold dn_law_classes_xTooMany
  (first | refine' rtp_go ?h0 ?_ | refine' seq_go ?h0 ?_)
  (case h0 => ((simp (disch := omega) [-getElem?_pos, lenOk_s, divOk_s, mulOk_s, rgOk_s, rg1Ok_s, repOk_s]) <;> first | rfl | exact ⟨rfl, rfl⟩))
  (first | refine' rtp_go ?h0 ?_ | refine' seq_go ?h0 ?_)
  (case h0 => ((simp (disch := omega) [-getElem?_pos, lenOk_s, divOk_s, mulOk_s, rgOk_s, rg1Ok_s, repOk_s]) <;> first | rfl | exact ⟨rfl, rfl⟩))
  (first | refine' rtp_go ?h0 ?_ | refine' seq_go ?h0 ?_)
  (case h0 => ((simp (disch := omega) [-getElem?_pos, lenOk_s, divOk_s, mulOk_s, rgOk_s, rg1Ok_s, repOk_s]) <;> first | rfl | exact ⟨rfl, rfl⟩))
  refine' rtp_ret ?h0 ?hd ?_
  (case h0 => ((simp (disch := omega) [-getElem?_pos, lenOk_s, divOk_s, mulOk_s, rgOk_s, rg1Ok_s, repOk_s, e, kls, List.range, List.range.loop]) <;> first | rfl | exact ⟨rfl, rfl⟩))
  (case hd => first | rfl | simp [e, kls, List.range, List.range.loop])
  simp
theorem onlyc_TooMany (a : Addr) (x0 : D) (i : Int) : compL (dgName 2) dYes (ce_law_only_xTooMany_0 a) [2] (em eN (List.range 13)) [x0, .sc (.int i), .una] [] = .ok (em eB ((List.range 13).map fun (k : Nat) => decide ((k : Int) = i)), [x0, .sc (.int i), .una]) := by
  have h := comp_map' (dg := dgName 2) (de := ce_law_only_xTooMany_0 a) (ws := [2]) (B := [x0, .sc (.int i), .una]) (g := eN) (fun k : Nat => eB (decide ((k : Int) = i))) (xs := List.range 13) (acc := []) (by simp) (fun k hk => by
    refine ⟨[x0, .sc (.int i), .sc (.int (k : Int))], [x0, .sc (.int i), .sc (.int (k : Int))], by simp, ?_, by simp⟩
    simp [ce_law_only_xTooMany_0])
  rw [List.nil_append] at h
  rw [h]
  simp only [em, List.map_map]
  rfl
theorem only_TooMany (a : Addr) (i : Int) : F_law_only_xTooMany a [.sc (.ref a), .sc (.int i)] = .ok (.sc (.bl (decide (i = 8))), [.sc (.ref a), .sc (.int i)]) := by
  have c := classes_TooMany a
  have m := onlyc_TooMany a (.sc (.ref a)) i
  have q : fEq [.nd (.lst true) (em eB (kls 8)), .nd (.lst true) (em eB ((List.range 13).map fun (k : Nat) => decide ((k : Int) = i)))] = some (.sc (.bl (decide (i = 8)))) := by
    have := fEq_s (f := eL true eB) (g := eL true eB) (x := kls 8) (y := (List.range 13).map fun (k : Nat) => decide ((k : Int) = i)) (by simp) (by simp) (by omega) (by omega)
    rw [this]
    have := kls_eq 8 (by omega) i
    simp only [this]
    rfl
  have r13 := rng_em 13
  refine' f_of (b := dn_law_only_xTooMany a) ?_ rfl
  simp only [List.replicate_succ, List.replicate_zero, List.cons_append, List.nil_append, Nat.reduceSub, Nat.reduceAdd]
  unfold dn_law_only_xTooMany
  (first | refine' rtp_go ?h0 ?_ | refine' seq_go ?h0 ?_)
  (case h0 => ((simp (disch := omega) [-getElem?_pos, lenOk_s, divOk_s, mulOk_s, rgOk_s, rg1Ok_s, repOk_s]) <;> first | rfl | exact ⟨rfl, rfl⟩))
  refine' rtp_ret ?h0 ?hd ?_
  (case h0 => ((simp (disch := omega) [-getElem?_pos, lenOk_s, divOk_s, mulOk_s, rgOk_s, rg1Ok_s, repOk_s, c, r13, m, q]) <;> first | rfl | exact ⟨rfl, rfl⟩))
  (case hd => first | rfl | simp [c, r13, m, q])
  simp
theorem ans_TooMany (a : Addr) (x0 x1 : D) (dt : DenT) (de : Den) (ht : ∀ i : Int, dt [x0, x1, .sc (.ref a), .sc (.int i)] = .ok (decide (i = 8), [x0, x1, .sc (.ref a), .sc (.int i)])) (he : ∀ i : Int, de [x0, x1, .sc (.ref a), .sc (.int i)] = .ok (.val (.sc (.int i)), [x0, x1, .sc (.ref a), .sc (.int i)])) :
    compL (dgName 3) dt de [3] (em eN (List.range 13)) [x0, x1, .sc (.ref a), .una] [] = .ok ([.sc (.int 8)], [x0, x1, .sc (.ref a), .una]) := by
  have h := comp_filt' (dg := dgName 3) (dt := dt) (de := de) (ws := [3]) (B := [x0, x1, .sc (.ref a), .una]) (g := eN) (fun k : Nat => eN k) (fun k => decide ((k : Int) = 8)) (xs := List.range 13) (acc := []) (by simp) (fun k hk => by
    refine ⟨[x0, x1, .sc (.ref a), .sc (.int (k : Int))], [x0, x1, .sc (.ref a), .sc (.int (k : Int))], by simp, ht k, fun _ => ⟨_, he k, by simp⟩, fun _ => by simp⟩)
  have f := kls_only 8 (by omega)
  have e : (((8 : Nat) : Int)) = (8 : Int) := rfl
  rw [e] at f
  rw [f] at h
  exact h
end K90
end
section
set_option maxRecDepth 100000
set_option exponentiation.threshold 2000
namespace K90
open PySem L2 DL
theorem dTryE_rt {i c0 : Nat} {dh : Addr → DenS} {b : DenS} {E E' : List D} {d : D} (hb : b E = .rt d E') : dTryE i c0 dh b E = .rt d E' := by
  unfold dTryE
  rw [hb]
theorem said_of {x x' ln v : D} {s z : Str} (h : F_Desk_say [x, ln] = .ok (v, [x', ln])) (o : DL.isObj c_Desk "say" (some x) = true) (hl : ln = .sc (.str s)) (hv : v = .sc (.str z)) (u : isUna x = false) (u' : isUna x' = false) : F_law_said [x, ln] = .ok (v, [x', ln]) := by
  subst hl; subst hv
  refine f_rt (b := dn_law_said) (E := [x', .sc (.str s), .una, .una]) ?_ rfl (by simp [u, u'])
  unfold dn_law_said
  refine (dTryE_rt (E' := [x', .sc (.str s), .una, .una]) (d := .sc (.str z)) ?_).trans rfl
  simp [h, o, u]
theorem said_ex {x x' : D} {s : Str} (h : F_Desk_say [x, .sc (.str s)] = .exc c_TooMany [] [x', .sc (.str s)]) (o : DL.isObj c_Desk "say" (some x) = true) (u : isUna x = false) (u' : isUna x' = false) : F_law_said [x, .sc (.str s)] = .ok (.nd (.lst true) [.sc (.int 8)], [x', .sc (.str s)]) := by
  have r13 := rng_em 13
  refine f_rt (b := dn_law_said) (E := [x', .sc (.str s), .una, .una]) ?_ rfl (by simp [u, u'])
  unfold dn_law_said
  refine (dTryE_of (E2 := [x', .sc (.str s), .una, .una]) (E' := [x', .sc (.str s), .una, .una]) (d := .nd (.lst true) [.sc (.int 8)]) ?_ rfl fun a => ?_).trans rfl
  · simp [h, o, u]
  · have k := ans_TooMany a x' (.sc (.str s)) (ct_law_said_1 a) (ce_law_said_0 a) (fun i => by
      have o := only_TooMany a i
      simp [ct_law_said_1, o]) (fun i => by simp [ce_law_said_0])
    simp (disch := omega) [r13, k, rg1Ok_s]
theorem put_exc (m : Bool) (l xs : List It2) (r w d : Int) (hl : l.length ≤ 200) (hxl : xs.length ≤ 200) (hm : 200 < l.length + xs.length) (hx : wR xs = true) (hn : xs ≠ []) : F_Desk_put_items [dkD m l r w d, .sc (.str (rowT xs))] = .exc c_TooMany [] [dkD m l r w d, .sc (.str (rowT xs))] := by
  have rd := read_ok xs hx hxl
  have e0 : xs.isEmpty = false := by cases xs with | nil => exact absurd rfl hn | cons _ _ => rfl
  have ho := wR_ok hx
  have hq : (200 < (l.length : Int) + xs.length) := by omega
  unfold dkD
  refine f_excR (b := dn_Desk_put_items) (E := [.nd (.obj true c_Desk ["row", "room", "width", "drives"]) [.nd (.lst m) (em itm l), .sc (.int r), .sc (.int w), .sc (.int d)], .sc (.str (rowT xs)), .nd (.lst true) (em itm xs)]) ?_ rfl (by simp)
  unfold dn_Desk_put_items
  simp (disch := omega) [rd, ev_dTryN, ho, e0, hq]
theorem say_add_ex (m : Bool) (l xs : List It2) (r w d : Int) (hl : l.length ≤ 200) (hxl : xs.length ≤ 200) (hm : 200 < l.length + xs.length) (hx : wR xs = true) (hn : xs ≠ []) : F_Desk_say [dkD m l r w d, .sc (.str (("add " : Str) ++ rowT xs))] = .exc c_TooMany [] [dkD m l r w d, .sc (.str (("add " : Str) ++ rowT xs))] := by
  have p := put_exc m l xs r w d hl hxl hm hx hn
  have sp : Txt.split (("add " : Str) ++ rowT xs) " " = ("add" : Str) :: xs.map iT := by
    obtain ⟨x, ys, rfl⟩ := List.exists_cons_of_ne_nil hn
    have e : ("add " : Str) ++ rowT (x :: ys) = Txt.join " " (("add" : Str) :: (x :: ys).map iT) := TL.ext_tl (by
      rw [TL.tl_append, tl_rowT, TL.join_eq, TL.tl_join]; rfl)
    rw [e]
    refine TL.split_join (s := 32) (S := []) rfl (by decide +kernel) (by simp) fun p hp => ?_
    rcases List.mem_cons.mp hp with rfl | hp
    · decide +kernel
    · obtain ⟨y, hy, rfl⟩ := List.mem_map.mp hp
      intro z
      have := iT_sign (List.all_eq_true.mp hx y hy) z
      omega
  have c4 : cutS (("add " : Str) ++ rowT xs) (some 4) none = rowT xs := by
    have e : ("add " : Str) ++ rowT xs = sgT ([97, 100, 100, 32] ++ TL.tl (rowT xs)) := TL.ext_tl (by rw [TL.tl_append, tl_sgT]; rfl)
    rw [e]
    have := cutS_drop (l := [97, 100, 100, 32] ++ TL.tl (rowT xs)) (k := 4)
    refine this.trans (TL.ext_tl ?_)
    rw [tl_sgT]; rfl
  have n := rowT_len hx (by omega)
  have nl : (("add " : Str) ++ rowT xs).length = 4 + (rowT xs).length := by rw [str_app_len]; rfl
  have s1 : (" " : Str).length ≠ 0 ∧ (("add " : Str) ++ rowT xs).length + 2 ≤ sizeLine := ⟨by decide +kernel, by rw [sizeLine_eq, nl]; omega⟩
  have f0 : fEq [.sc (.str "add"), .sc (.str "add")] = some (.sc (.bl true)) := by rw [fEq_ss (by decide +kernel) (by decide +kernel)]; rfl
  have hx0 : 0 < xs.length := by cases xs with | nil => exact absurd rfl hn | cons _ _ => simp
  have q : (1 : Int) < (xs.length : Int) + 1 := by omega
  generalize (("add " : Str) ++ rowT xs) = ln at *
  have s2 : 4 + (rowT xs).length + 2 ≤ sizeLine := by rw [sizeLine_eq]; omega
  have nk2 : lenOk (4 + (rowT xs).length) = true := by simp (disch := omega) [lenOk_s]
  have nk : lenOk ln.length = true := by simp (disch := omega) [lenOk_s]
  refine f_excR (b := dn_Desk_say) (E := [dkD m l r w d, .sc (.str ln), .nd (.lst true) ((("add" : Str) :: xs.map iT).map fun z => .sc (.str z))]) ?_ rfl (by simp)
  unfold dn_Desk_say
  simp (disch := omega) [sp, s1, s2, f0, q, nl, c4, p, nk, nk2]
theorem say_word (x x' : D) (s v : Str) (sp : 32 ∉ TL.tl s) (hs : s.length ≤ 1000) (hk : PyData.strOk s = true) (n1 : s ≠ "add") (n3 : s ≠ "clear") (o : DL.isObj c_Desk "asked" (some x) = true) (u : isUna x = false) (a : F_Desk_asked [x, .sc (.str s)] = .ok (.sc (.str v), [x', .sc (.str s)])) : F_Desk_say [x, .sc (.str s)] = .ok (.sc (.str v), [x', .sc (.str s)]) := by
  have sp := split_word s sp
  have s1 : (" " : Str).length ≠ 0 ∧ s.length + 2 ≤ sizeLine := ⟨by decide +kernel, by rw [sizeLine_eq]; omega⟩
  have f0 : fEq [.sc (.str s), .sc (.str "add")] = some (.sc (.bl false)) := by rw [fEq_ss hk (by decide +kernel), decide_eq_false n1]
  have f1 : fEq [.sc (.str s), .sc (.str "clear")] = some (.sc (.bl false)) := by rw [fEq_ss hk (by decide +kernel), decide_eq_false n3]
  refine' f_of (b := dn_Desk_say) ?_ rfl
  simp only [List.replicate_succ, List.replicate_zero, List.cons_append, List.nil_append, Nat.reduceSub, Nat.reduceAdd]
  unfold dn_Desk_say
  (first | refine' rtp_go ?h0 ?_ | refine' seq_go ?h0 ?_)
  (case h0 => ((simp (disch := omega) [-getElem?_pos, lenOk_s, divOk_s, mulOk_s, rgOk_s, rg1Ok_s, repOk_s]) <;> first | rfl | exact ⟨rfl, rfl⟩))
  (first | refine' rtp_go ?h0 ?_ | refine' seq_go ?h0 ?_)
  (case h0 => ((simp (disch := omega) [-getElem?_pos, lenOk_s, divOk_s, mulOk_s, rgOk_s, rg1Ok_s, repOk_s, sp, s1]) <;> first | rfl | exact ⟨rfl, rfl⟩))
  (first | refine' rtp_go ?h0 ?_ | refine' seq_go ?h0 ?_)
  (case h0 => ((simp (disch := omega) [-getElem?_pos, lenOk_s, divOk_s, mulOk_s, rgOk_s, rg1Ok_s, repOk_s, f0]) <;> first | rfl | exact ⟨rfl, rfl⟩))
  (first | refine' rtp_go ?h0 ?_ | refine' seq_go ?h0 ?_)
  (case h0 => ((simp (disch := omega) [-getElem?_pos, lenOk_s, divOk_s, mulOk_s, rgOk_s, rg1Ok_s, repOk_s]) <;> first | rfl | exact ⟨rfl, rfl⟩))
  (first | refine' rtp_go ?h0 ?_ | refine' seq_go ?h0 ?_)
  (case h0 => ((simp (disch := omega) [-getElem?_pos, lenOk_s, divOk_s, mulOk_s, rgOk_s, rg1Ok_s, repOk_s, f1]) <;> first | rfl | exact ⟨rfl, rfl⟩))
  refine' rtp_ret ?h0 ?hd ?_
  (case h0 => ((simp (disch := omega) [-getElem?_pos, lenOk_s, divOk_s, mulOk_s, rgOk_s, rg1Ok_s, repOk_s, a, o, u]) <;> first | rfl | exact ⟨rfl, rfl⟩))
  (case hd => first | rfl | simp [a, o, u])
  simp
theorem say_word_ex (x x' : D) (s : Str) (sp : 32 ∉ TL.tl s) (hs : s.length ≤ 1000) (hk : PyData.strOk s = true) (n1 : s ≠ "add") (n3 : s ≠ "clear") (o : DL.isObj c_Desk "asked" (some x) = true) (u : isUna x = false) (u' : isUna x' = false) (a : F_Desk_asked [x, .sc (.str s)] = .exc c_TooMany [] [x', .sc (.str s)]) : F_Desk_say [x, .sc (.str s)] = .exc c_TooMany [] [x', .sc (.str s)] := by
  have sp := split_word s sp
  have s1 : (" " : Str).length ≠ 0 ∧ s.length + 2 ≤ sizeLine := ⟨by decide +kernel, by rw [sizeLine_eq]; omega⟩
  have f0 : fEq [.sc (.str s), .sc (.str "add")] = some (.sc (.bl false)) := by rw [fEq_ss hk (by decide +kernel), decide_eq_false n1]
  have f1 : fEq [.sc (.str s), .sc (.str "clear")] = some (.sc (.bl false)) := by rw [fEq_ss hk (by decide +kernel), decide_eq_false n3]
  refine f_excR (b := dn_Desk_say) (E := [x', .sc (.str s), .una]) ?_ rfl (by simp [u'])
  unfold dn_Desk_say
  simp (disch := omega) [sp, s1, f0, f1, a, o, u, u']
theorem fS {a b : Str} (ha : PyData.strOk a = true) (hb : PyData.strOk b = true) (h : a ≠ b) : fEq [.sc (.str a), .sc (.str b)] = some (.sc (.bl false)) := by rw [fEq_ss ha hb, decide_eq_false h]
theorem fT {a : Str} (ha : PyData.strOk a = true) : fEq [.sc (.str a), .sc (.str a)] = some (.sc (.bl true)) := by rw [fEq_ss ha ha, decide_eq_true rfl]
theorem mxl_le {b : Nat} : ∀ {L : List Nat}, (∀ n ∈ L, n ≤ b) → mxl L ≤ b
  | [], _ => Nat.zero_le _
  | n :: L, h => by
    have := mxl_le (L := L) fun k hk => h k (by simp [hk])
    have := h n (by simp)
    show max n (mxl L) ≤ b
    omega
theorem fr_le (l : List It2) : fr l ≤ l.length := by
  rw [← fr_cnts]
  refine mxl_le fun n hn => ?_
  obtain ⟨k, hk, rfl⟩ := List.mem_map.mp hn
  have hk : k < l.length := List.mem_range.mp hk
  have : cnt l k ≤ (List.range k).length := List.length_filter_le _ _
  simp at this; omega
theorem asked_far (m : Bool) (l : List It2) (r w d : Int) (hl : l.length ≤ 100) : F_Desk_asked [dkD m l r w d, .sc (.str "far")] = .ok (.sc (.str (iTx (fr l : Nat))), [dkD m l r w d, .sc (.str "far")]) := by
  have f0 := fS (a := "far") (b := "row") (by decide +kernel) (by decide +kernel) (by decide +kernel)
  have f1 := fS (a := "far") (b := "sorted") (by decide +kernel) (by decide +kernel) (by decide +kernel)
  have f2 := fT (a := "far") (by decide +kernel)
  have rt := far_ok l m (by omega)
  have l4 := log40 (i := (fr l : Nat)) (by have := fr_le l; omega)
  have l4 : (fr l).log2 < 1920 := by simpa using l4
  unfold dkD
  refine' f_of (b := dn_Desk_asked) ?_ rfl
  simp only [List.replicate_succ, List.replicate_zero, List.cons_append, List.nil_append, Nat.reduceSub, Nat.reduceAdd]
  unfold dn_Desk_asked
  (first | refine' rtp_go ?h0 ?_ | refine' seq_go ?h0 ?_)
  (case h0 => ((simp (disch := omega) [-getElem?_pos, lenOk_s, divOk_s, mulOk_s, rgOk_s, rg1Ok_s, repOk_s, f0]) <;> first | rfl | exact ⟨rfl, rfl⟩))
  (first | refine' rtp_go ?h0 ?_ | refine' seq_go ?h0 ?_)
  (case h0 => ((simp (disch := omega) [-getElem?_pos, lenOk_s, divOk_s, mulOk_s, rgOk_s, rg1Ok_s, repOk_s, f1]) <;> first | rfl | exact ⟨rfl, rfl⟩))
  (first | refine' rtp_go ?h0 ?_ | refine' seq_go ?h0 ?_)
  (case h0 => ((simp (disch := omega) [-getElem?_pos, lenOk_s, divOk_s, mulOk_s, rgOk_s, rg1Ok_s, repOk_s]) <;> first | rfl | exact ⟨rfl, rfl⟩))
  refine' rtp_out ?h0 ?hd ?_
  (case h0 => ((simp (disch := omega) [-getElem?_pos, lenOk_s, divOk_s, mulOk_s, rgOk_s, rg1Ok_s, repOk_s, f2, rt, l4]) <;> first | rfl | exact ⟨rfl, rfl⟩))
  (case hd => first | rfl | simp [f2, rt, l4])
  simp
theorem asked_pour (m : Bool) (l : List It2) (r w d : Int) (hl : l.length ≤ 16) : F_Desk_asked [dkD m l r w d, .sc (.str "pour")] = .ok (.sc (.str (numT (traced (nat l)))), [dkD false l r w d, .sc (.str "pour")]) := by
  have f0 := fS (a := "pour") (b := "row") (by decide +kernel) (by decide +kernel) (by decide +kernel)
  have f1 := fS (a := "pour") (b := "sorted") (by decide +kernel) (by decide +kernel) (by decide +kernel)
  have f2 := fS (a := "pour") (b := "far") (by decide +kernel) (by decide +kernel) (by decide +kernel)
  have f3 := fT (a := "pour") (by decide +kernel)
  have rt := ttold_ok m l r w d hl
  refine' f_of (b := dn_Desk_asked) ?_ rfl
  simp only [List.replicate_succ, List.replicate_zero, List.cons_append, List.nil_append, Nat.reduceSub, Nat.reduceAdd]
  unfold dn_Desk_asked
  (first | refine' rtp_go ?h0 ?_ | refine' seq_go ?h0 ?_)
  (case h0 => ((simp (disch := omega) [-getElem?_pos, lenOk_s, divOk_s, mulOk_s, rgOk_s, rg1Ok_s, repOk_s, f0]) <;> first | rfl | exact ⟨rfl, rfl⟩))
  (first | refine' rtp_go ?h0 ?_ | refine' seq_go ?h0 ?_)
  (case h0 => ((simp (disch := omega) [-getElem?_pos, lenOk_s, divOk_s, mulOk_s, rgOk_s, rg1Ok_s, repOk_s, f1]) <;> first | rfl | exact ⟨rfl, rfl⟩))
  (first | refine' rtp_go ?h0 ?_ | refine' seq_go ?h0 ?_)
  (case h0 => ((simp (disch := omega) [-getElem?_pos, lenOk_s, divOk_s, mulOk_s, rgOk_s, rg1Ok_s, repOk_s]) <;> first | rfl | exact ⟨rfl, rfl⟩))
  (first | refine' rtp_go ?h0 ?_ | refine' seq_go ?h0 ?_)
  (case h0 => ((simp (disch := omega) [-getElem?_pos, lenOk_s, divOk_s, mulOk_s, rgOk_s, rg1Ok_s, repOk_s, f2]) <;> first | rfl | exact ⟨rfl, rfl⟩))
  refine' rtp_out ?h0 ?hd ?_
  (case h0 => ((simp (disch := omega) [-getElem?_pos, lenOk_s, divOk_s, mulOk_s, rgOk_s, rg1Ok_s, repOk_s, f3, rt]) <;> first | rfl | exact ⟨rfl, rfl⟩))
  (case hd => first | rfl | simp [f3, rt])
  simp
theorem ttold_ex (m : Bool) (l : List It2) (r w d : Int) (hl : l.length ≤ 200) (hm : 16 < (nat l).length) : F_Desk_trace_told [dkD m l r w d] = .exc c_TooMany [] [dkD false l r w d] := by
  have n1 := nat_okM m l (by omega)
  have g0 : (em (eL true itm) (nat l)).length = (nat l).length := by simp
  have q : (16 : Int) < ((nat l).length : Int) := by omega
  unfold dkD
  generalize em (eL true itm) (nat l) = ZN at *
  refine f_excR (b := dn_Desk_trace_told) (E := [.nd (.obj true c_Desk ["row", "room", "width", "drives"]) [.nd (.lst false) (em itm l), .sc (.int r), .sc (.int w), .sc (.int d)], .nd (.lst true) ZN]) ?_ rfl (by simp)
  unfold dn_Desk_trace_told
  cases m
  · simp (disch := omega) [n1, g0, q]
  · simp (disch := omega) [n1, g0, q]
theorem asked_pour_ex (m : Bool) (l : List It2) (r w d : Int) (hl : l.length ≤ 200) (hm : 16 < (nat l).length) : F_Desk_asked [dkD m l r w d, .sc (.str "pour")] = .exc c_TooMany [] [dkD false l r w d, .sc (.str "pour")] := by
  have f0 := fS (a := "pour") (b := "row") (by decide +kernel) (by decide +kernel) (by decide +kernel)
  have f1 := fS (a := "pour") (b := "sorted") (by decide +kernel) (by decide +kernel) (by decide +kernel)
  have f2 := fS (a := "pour") (b := "far") (by decide +kernel) (by decide +kernel) (by decide +kernel)
  have f3 := fT (a := "pour") (by decide +kernel)
  have rt := ttold_ex m l r w d hl hm
  refine f_excR (b := dn_Desk_asked) (E := [dkD false l r w d, .sc (.str "pour")]) ?_ rfl (by simp)
  have g1 : eqV (.str "loads") (.str "pour") = false := by decide +kernel
  have g2 : eqV (.str "natural") (.str "pour") = false := by decide +kernel
  have g3 : eqV (.str "chosen") (.str "pour") = false := by decide +kernel
  unfold dn_Desk_asked
  simp (disch := omega) [f0, f1, f2, f3, rt, g1, g2, g3]
def fallP (f j : Nat) : List It2 := (List.range j).map fun k => ((((f - k : Nat) : Int), ("" : Str)) : It2)
theorem fall_tr : ∀ f ∈ [14, 15, 16], traced (nat (fallP f f)) = (List.range f).map fun k => f - 1 - k := by decide +kernel
theorem fall_fr : ∀ f ∈ [14, 15, 16, 17, 18], fr (fallP f f) = f - 1 := by decide +kernel
theorem fall_nat : ∀ f ∈ [17, 18], (nat (fallP f f)).length = f := by decide +kernel
theorem line_ok : ∀ n ∈ [1, 2, 3, 4, 5, 6, 7, 8], ("add" : Str) ++ Txt.mul " -3:a" ((n : Nat) : Int) = ("add " : Str) ++ rowT (List.replicate n (-3, "a")) := by decide +kernel
theorem line_len : ∀ n ∈ [1, 2, 3, 4, 5, 6, 7, 8], CMulS (" -3:a" : Str) ((n : Nat) : Int) ∧ (Txt.mul (" -3:a" : Str) ((n : Nat) : Int)).length ≤ 1000 := by decide +kernel
theorem wRrep (n : Nat) (p : It2) (h : wIt p = true) : wR (List.replicate n p) = true := List.all_eq_true.mpr fun x hx => by rw [(List.mem_replicate.mp hx).2]; exact h
theorem wR_fall (f j : Nat) (hf : f ≤ 100) : wR (fallP f j) = true := List.all_eq_true.mpr fun x hx => by
  obtain ⟨k, _, rfl⟩ := List.mem_map.mp hx
  have h1 : ∀ n ∈ List.range 101, wIt (((n : Nat) : Int), ("" : Str)) = true := by decide +kernel
  exact h1 _ (List.mem_range.mpr (by omega))
theorem rowT_one (i : Int) : rowT [(i, "")] = iTx i := by
  have e : iT (i, "") = iTx i := if_pos rfl
  unfold rowT
  rw [List.map_cons, List.map_nil, e]
  exact TL.ext_tl (by rw [TL.join_eq, TL.tl_join]; rfl)
theorem fall_turn (x0 x1 x3 x4 x5 x6 x9 : D) (f j : Nat) (m : Bool) (hf : f ≤ 18) (hj : j < f) :
    lb_law_0 [x0, x1, dkD m (fallP f j) 3 2 3, x3, x4, x5, x6, .sc (.int f), .sc (.int j), x9] = .nx [x0, x1, dkD true (fallP f (j + 1)) 3 2 3, x3, x4, x5, x6, .sc (.int f), .una, x9] := by
  have h200 : j + 1 ≤ 200 := by omega
  have h100 : f ≤ 100 := by omega
  have ei : ((f - j : Nat) : Int) = (f : Int) - (j : Int) := by omega
  have l4 := log40 (i := (f : Int) - (j : Int)) (by omega)
  have il := iTx_len (i := (f : Int) - (j : Int)) (by omega)
  have lf : (fallP f j).length = j := by simp [fallP]
  have sa := say_add m (fallP f j) [(((f - j : Nat) : Int), ("" : Str))] 3 2 3 (by rw [lf, List.length_singleton]; exact h200) (by
    have := wR_fall f (j + 1) h100
    have e : fallP f (j + 1) = fallP f j ++ [(((f - j : Nat) : Int), ("" : Str))] := by simp [fallP, List.range_succ]
    rw [e] at this
    exact List.all_eq_true.mpr fun x hx => List.all_eq_true.mp this x (List.mem_append_right _ hx)) (by simp)
  have e : fallP f (j + 1) = fallP f j ++ [(((f - j : Nat) : Int), ("" : Str))] := by simp [fallP, List.range_succ]
  rw [e]
  rw [rowT_one] at sa
  rw [ei] at sa ⊢
  have ea : ("add " : Str).length = 4 := rfl
  generalize fallP f j ++ [((f : Int) - (j : Int), ("" : Str))] = L2 at *
  generalize fallP f j = L at *
  unfold lb_law_0
  simp (disch := omega) [-getElem?_pos, lenOk_s, divOk_s, mulOk_s, rgOk_s, rg1Ok_s, repOk_s, sa, l4, il, ea]
theorem fall_loop (x0 x1 x3 x4 x5 x6 x9 : D) (f : Nat) (hf : f ≤ 18) (hf0 : 1 ≤ f) :
    loopD (dgName 8) lb_law_0 (rngD 0 f) [x0, x1, dkD true [] 3 2 3, x3, x4, x5, x6, .sc (.int f), .una, x9] = .nx [x0, x1, dkD true (fallP f f) 3 2 3, x3, x4, x5, x6, .sc (.int f), .una, x9] := by
  obtain ⟨j, eL, ej⟩ := rng_inv (i := 8) (b := lb_law_0) (lo := 0) (n := f) (σ := Nat) (s0 := 0) (fun j => [x0, x1, dkD true (fallP f j) 3 2 3, x3, x4, x5, x6, .sc (.int f), .una, x9]) (fun j s => s = j) rfl (by simp) (fun j s hj es => by
    subst es
    exact ⟨s + 1, .inl (by simpa using fall_turn x0 x1 x3 x4 x5 x6 x9 f s true hf hj), rfl⟩)
  have ej : j = f := ej
  subst ej
  exact eL
theorem due_c (x0 x1 x2 x3 x4 x5 x6 x8 : D) (f : Nat) (hf : f ≤ 18) (h1 : 14 ≤ f) :
    compL (dgName 9) dYes ce_law_1 [9] (em eN (List.range f)) [x0, x1, x2, x3, x4, x5, x6, .sc (.int f), x8, .una] [] = .ok (em (fun n : Nat => eS (iTx (n : Int))) ((List.range f).map fun k => f - 1 - k), [x0, x1, x2, x3, x4, x5, x6, .sc (.int f), x8, .una]) := by
  have h := comp_map' (dg := dgName 9) (de := ce_law_1) (ws := [9]) (B := [x0, x1, x2, x3, x4, x5, x6, .sc (.int f), x8, .una]) (g := eN) (fun k : Nat => eS (iTx ((f : Int) - 1 - k))) (xs := List.range f) (acc := []) (by simp; omega) (fun k hk => by
    have hk : k < f := List.mem_range.mp hk
    have l4 := log40 (i := (f : Int) - 1 - k) (by omega)
    exact ⟨[x0, x1, x2, x3, x4, x5, x6, .sc (.int f), x8, .sc (.int k)], [x0, x1, x2, x3, x4, x5, x6, .sc (.int f), x8, .sc (.int k)], by simp, by simp [ce_law_1, l4], by simp⟩)
  have e : em (fun n : Nat => eS (iTx (n : Int))) ((List.range f).map fun k => f - 1 - k) = em (fun k : Nat => eS (iTx ((f : Int) - 1 - k))) (List.range f) := by
    simp only [em, List.map_map]
    refine List.map_congr_left fun k hk => ?_
    have hk : k < f := List.mem_range.mp hk
    show eS (iTx ((f - 1 - k : Nat) : Int)) = _
    rw [show ((f - 1 - k : Nat) : Int) = (f : Int) - 1 - k by omega]
  rw [e]
  simpa using h
theorem numT_ok (ns : List Nat) : PyData.strOk (numT ns) = true := ok_signs fun c hc => by
  unfold numT at hc
  rw [TL.join_eq, TL.tl_join] at hc
  rcases joinL_mem hc with hc | ⟨p, hp, hc⟩
  · have : c ∈ [32] := hc
    simp at this; omega
  · rw [List.map_map] at hp
    obtain ⟨n, _, rfl⟩ := List.mem_map.mp hp
    have : c ∈ TL.tl (iTx (n : Int)) := hc
    rw [tl_iTx] at this
    have := nS_sign this
    omega
theorem iTx_ok (i : Int) : PyData.strOk (iTx i) = true := by rw [iTx_eq]; exact nS_ok i
theorem fNe_self {x : Str} (h : PyData.strOk x = true) : fNe [.sc (.str x), .sc (.str x)] = some (.sc (.bl false)) := by rw [fNe_ss h h]; simp
theorem join7 (n : Nat) : Txt.join " " (List.replicate n ("7" : Str)) = rowT (List.replicate n (7, "")) := by
  unfold rowT
  rw [List.map_replicate]
  have : iT (7, "") = "7" := by decide +kernel
  rw [this]
theorem flat7 (M : Nat) : (List.replicate ((M : Nat) : Int).toNat [(.sc (.str "7") : D)]).flatten = (List.replicate M ("7" : Str)).map fun x => .sc (.str x) := by
  rw [Int.toNat_natCast, List.map_replicate]
  induction M with
  | zero => rfl
  | succ M ih => rw [List.replicate_succ, List.replicate_succ, List.flatten_cons, ih]; rfl
theorem sum7 (M : Nat) (h : M ≤ 200) : ((List.replicate M ("7" : Str)).map (·.length)).sum + (List.replicate M ("7" : Str)).length * (" " : Str).length ≤ 16777216 := by
  have e1 : ("7" : Str).length = 1 := rfl
  have e2 : (" " : Str).length = 1 := rfl
  rw [List.map_replicate, e1, e2, List.sum_replicate_nat, List.length_replicate]
  omega
theorem len_row {l : List It2} (hn : l ≠ []) (hw : wR l = true) (hl : l.length ≤ 200) : fSplit [.sc (.str (rowT l)), .sc (.str " ")] = some (.nd (.lst true) ((l.map iT).map fun z => .sc (.str z))) := by
  have sp := rowT_split hn hw
  have n := rowT_len hw (by omega)
  have s1 : (" " : Str).length ≠ 0 ∧ (rowT l).length + 2 ≤ sizeLine := ⟨by decide +kernel, by rw [sizeLine_eq]; omega⟩
  simp [sp, s1]
theorem pour_said (f : Nat) (h1 : 14 ≤ f) (h2 : f ≤ 18) (m : Bool) : ∃ m', F_law_said [dkD m (fallP f f) 3 2 3, .sc (.str "pour")] = .ok (if 16 < f then .nd (.lst true) [.sc (.int 8)] else .sc (.str (numT ((List.range f).map fun k => f - 1 - k))), [dkD m' (fallP f f) 3 2 3, .sc (.str "pour")]) := by
  have lf : (fallP f f).length = f := by simp [fallP]
  refine ⟨false, ?_⟩
  by_cases hf : 16 < f
  · rw [if_pos hf]
    have := fall_nat f (by simp; omega)
    exact said_ex (say_word_ex _ _ "pour" (by decide +kernel) (by decide +kernel) (by decide +kernel) (by decide +kernel) (by decide +kernel) (by simp) rfl rfl (asked_pour_ex m (fallP f f) 3 2 3 (by rw [lf]; omega) (by rw [this]; exact hf))) (by simp) rfl rfl
  · rw [if_neg hf]
    have := fall_tr f (by simp; omega)
    have s := said_of (say_word _ _ "pour" _ (by decide +kernel) (by decide +kernel) (by decide +kernel) (by decide +kernel) (by decide +kernel) (by simp) rfl (asked_pour m (fallP f f) 3 2 3 (by rw [lf]; omega))) (by simp) rfl rfl rfl rfl
    rw [this] at s
    exact s
theorem far_said (f : Nat) (h1 : 14 ≤ f) (h2 : f ≤ 18) (m : Bool) : F_law_said [dkD m (fallP f f) 3 2 3, .sc (.str "far")] = .ok (.sc (.str (iTx ((f : Int) - 1))), [dkD m (fallP f f) 3 2 3, .sc (.str "far")]) := by
  have lf : (fallP f f).length = f := by simp [fallP]
  have := fall_fr f (by simp; omega)
  have s := said_of (say_word _ _ "far" _ (by decide +kernel) (by decide +kernel) (by decide +kernel) (by decide +kernel) (by decide +kernel) (by simp) rfl (asked_far m (fallP f f) 3 2 3 (by rw [lf]; omega))) (by simp) rfl rfl rfl rfl
  rw [this, show ((f - 1 : Nat) : Int) = (f : Int) - 1 by omega] at s
  exact s
theorem law_pure (ns : List Int) (h : ns.length ≤ 63) : ∃ r, F_law [.kl ns] = .ok (.sc (.bl true), r) := by
  obtain ⟨n, eb⟩ := box_ok ns 0 (by omega)
  rw [show ((0 : Nat) : Int) = 0 from rfl] at eb
  have i := dk_init
  obtain ⟨q, n1, hq, tk⟩ := take_n n 6 (by omega) (by omega)
  obtain ⟨p, n2, hp, tk2⟩ := take_n n1 8 (by omega) (by omega)
  obtain ⟨z, n3, hz, tk3⟩ := take_n n2 5 (by omega) (by omega)
  obtain ⟨M, hM⟩ : ∃ M : Nat, M = 195 + q := ⟨_, rfl⟩
  obtain ⟨R, hR⟩ : ∃ R : Nat, R = 1 + p := ⟨_, rfl⟩
  obtain ⟨f, hf⟩ : ∃ f : Nat, f = 14 + z := ⟨_, rfl⟩
  have e1 : (195 : Int) + (q : Int) = (M : Int) := by omega
  have e2 : (1 : Int) + (p : Int) = (R : Int) := by omega
  have e3 : (14 : Int) + (z : Int) = (f : Int) := by omega
  have w7 : wIt (7, "") = true := by decide +kernel
  have w3 : wIt (-3, "a") = true := by decide +kernel
  have wM := wRrep M (7, "") w7
  have wR' := wRrep R (-3, "a") w3
  have lM : (List.replicate M ((7, "") : It2)).length = M := List.length_replicate
  have lR : (List.replicate R ((-3, "a") : It2)).length = R := List.length_replicate
  have nM : List.replicate M ((7, "") : It2) ≠ [] := fun y => by rw [y] at lM; simp at lM; omega
  have nR : List.replicate R ((-3, "a") : It2) ≠ [] := fun y => by rw [y] at lR; simp at lR; omega
  -- the first line
  have j7 := join7 M
  have sA := said_of (say_add true [] (List.replicate M (7, "")) 3 2 3 (by rw [lM]; simp; omega) wM nM) (by simp) rfl rfl rfl rfl
  rw [List.nil_append, lM] at sA
  have rl := rowT_len wM (by rw [lM]; omega)
  have fl := flat7 M
  have s7 := sum7 M (by omega)
  have st7 : strsD ((List.replicate M ("7" : Str)).map fun x => .sc (.str x)) = some (List.replicate M ("7" : Str)) := by
    have := strsD_map id (List.replicate M ("7" : Str))
    simpa [em] using this
  have fe7 : Fzs [(.sc (.str "7") : D)] = true := rfl
  have ea : ("add " : Str).length = 4 := rfl
  have ea2 : ("add" : Str).length = 3 := rfl
  have l4 := log40 (i := (M : Int)) (by omega)
  have l4 : M.log2 < 1920 := by simpa using l4
  have c1 := fNe_self (iTx_ok (M : Int))
  have ln := line_ok R (by simp; omega)
  obtain ⟨cm, cl⟩ := line_len R (by simp; omega)
  have l5 := log40 (i := (M : Int) + (R : Int)) (by omega)
  have rp : repOk 1 (M : Int) = true := repOk_s (by omega) (by omega)
  obtain ⟨m', ps⟩ := pour_said f (by omega) (by omega) true
  have fs := far_said f (by omega) (by omega) m'
  have dc := fun x0 x1 x2 x3 x4 x5 x6 x8 => due_c x0 x1 x2 x3 x4 x5 x6 x8 f (by omega) (by omega)
  have fL := fun x0 x1 x3 x4 x5 x6 x9 => fall_loop x0 x1 x3 x4 x5 x6 x9 f (by omega) (by omega)
  have rngE := rng_em f
  have std : strsD (em (fun n : Nat => eS (iTx (n : Int))) ((List.range f).map fun k => f - 1 - k)) = some (((List.range f).map fun k => f - 1 - k).map fun n : Nat => iTx (n : Int)) := strsD_map (fun n : Nat => iTx (n : Int)) _
  have nsum := num_sum ((List.range f).map fun k => f - 1 - k) (fun n hn => by
    obtain ⟨k, hk, rfl⟩ := List.mem_map.mp hn
    omega)
  have jn : fJoin [.sc (.str " "), .nd (.lst true) (em (fun n : Nat => eS (iTx (n : Int))) ((List.range f).map fun k => f - 1 - k))] = some (.sc (.str (numT ((List.range f).map fun k => f - 1 - k)))) := by
    rw [ev_fJoin, std]
    simp only [Option.bind_some]
    have e2 : (" " : Str).length = 1 := rfl
    rw [if_pos (show (Kd.lst true).seq = true from rfl), if_pos (by rw [e2, List.length_map, List.length_map, List.length_range]; simp only [List.length_map, List.length_range] at nsum; omega)]; rfl
  have numE : Txt.join " " (((List.range f).map fun k => f - 1 - k).map fun n : Nat => iTx (n : Int)) = numT ((List.range f).map fun k => f - 1 - k) := rfl
  have sC := fun (m : Bool) (l : List It2) => said_of (say_clear m l 3 2 3) (by simp) rfl rfl rfl rfl
  have c0 := fNe_self (x := ("0" : Str)) (by decide +kernel)
  have cN := fun N : Nat => fNe_s (f := eI) (g := eI) (x := (N : Int)) (y := (N : Int)) rfl rfl (by omega) (by omega)
  simp only [decide_true, Bool.not_true] at cN
  rw [List.map_replicate] at fl st7
  have jj : fJoin [.sc (.str " "), .nd (.lst true) (List.replicate M (.sc (.str "7")))] = some (.sc (.str (rowT (List.replicate M ((7, "") : It2))))) := by
    rw [ev_fJoin, st7]
    simp only [Option.bind_some]
    rw [if_pos s7, j7]; rfl
  refine ⟨[.kl ns], ?_⟩
  generalize hRep : List.replicate M ((7, "") : It2) = LM at *
  refine' f_of (b := dn_law) ?_ rfl
  simp only [List.replicate_succ, List.replicate_zero, List.cons_append, List.nil_append, Nat.reduceSub, Nat.reduceAdd]
  unfold dn_law
  (first | refine' rtp_go ?h0 ?_ | refine' seq_go ?h0 ?_)
  (case h0 => ((simp (disch := omega) [-getElem?_pos, lenOk_s, divOk_s, mulOk_s, rgOk_s, rg1Ok_s, repOk_s, eb]) <;> first | rfl | exact ⟨rfl, rfl⟩))
  (first | refine' rtp_go ?h0 ?_ | refine' seq_go ?h0 ?_)
  (case h0 => ((simp (disch := omega) [-getElem?_pos, lenOk_s, divOk_s, mulOk_s, rgOk_s, rg1Ok_s, repOk_s, i]) <;> first | rfl | exact ⟨rfl, rfl⟩))
  (first | refine' rtp_go ?h0 ?_ | refine' seq_go ?h0 ?_)
  (case h0 => ((simp (disch := omega) [-getElem?_pos, lenOk_s, divOk_s, mulOk_s, rgOk_s, rg1Ok_s, repOk_s, tk, e1]) <;> first | rfl | exact ⟨rfl, rfl⟩))
  (first | refine' rtp_go ?h0 ?_ | refine' seq_go ?h0 ?_)
  (case h0 => ((simp (disch := omega) [-getElem?_pos, lenOk_s, divOk_s, mulOk_s, rgOk_s, rg1Ok_s, repOk_s, fl, jj, fe7, rp, ea, rl, -ev_fJoin]) <;> first | rfl | exact ⟨rfl, rfl⟩))
  (first | refine' rtp_go ?h0 ?_ | refine' seq_go ?h0 ?_)
  (case h0 => ((simp (disch := omega) [-getElem?_pos, lenOk_s, divOk_s, mulOk_s, rgOk_s, rg1Ok_s, repOk_s, sA, l4, c1]) <;> first | rfl | exact ⟨rfl, rfl⟩))
  (first | refine' rtp_go ?h0 ?_ | refine' seq_go ?h0 ?_)
  (case h0 => ((simp (disch := omega) [-getElem?_pos, lenOk_s, divOk_s, mulOk_s, rgOk_s, rg1Ok_s, repOk_s, tk2, e2]) <;> first | rfl | exact ⟨rfl, rfl⟩))
  (first | refine' rtp_go ?h0 ?_ | refine' seq_go ?h0 ?_)
  (case h0 => ((simp (disch := omega) [-getElem?_pos, lenOk_s, divOk_s, mulOk_s, rgOk_s, rg1Ok_s, repOk_s, l5]) <;> first | rfl | exact ⟨rfl, rfl⟩))
  have n8 : fNe [.nd (.lst true) [.sc (.int 8)], .nd (.lst true) [.sc (.int 8)]] = some (.sc (.bl false)) := by
    have := fNe_s (f := eL true eI) (g := eL true eI) (x := [8]) (y := [8]) rfl rfl (by omega) (by omega)
    rw [decide_eq_true rfl] at this
    exact this
  have n8e : fEq [.nd (.lst true) [.sc (.int 8)], .nd (.lst true) [.sc (.int 8)]] = some (.sc (.bl true)) := by
    have := fEq_s (f := eL true eI) (g := eL true eI) (x := [8]) (y := [8]) rfl rfl (by omega) (by omega)
    rw [decide_eq_true rfl] at this
    exact this
  have l6 := log40 (i := (f : Int) - 1) (by omega)
  have cF : fEq [.sc (.str (iTx ((f : Int) - 1))), .sc (.str (iTx ((f : Int) - 1)))] = some (.sc (.bl true)) := fT (iTx_ok _)
  have cP : fEq [.sc (.str (numT ((List.range f).map fun k => f - 1 - k))), .sc (.str (numT ((List.range f).map fun k => f - 1 - k)))] = some (.sc (.bl true)) := fT (numT_ok _)
  have LMl : LM.length = M := by rw [← hRep]; exact List.length_replicate
  have fm : fMulS [.sc (.str " -3:a"), .sc (.int R)] = some (.sc (.str (Txt.mul " -3:a" (R : Int)))) := by
    rw [ev_fMulS]
    exact if_pos (by simpa using cm)
  by_cases hO : 200 < M + R
  · have hO' : (200 : Int) < (M : Int) + (R : Int) := by omega
    have sR := said_ex (say_add_ex true LM (List.replicate R (-3, "a")) 3 2 3 (by omega) (by rw [lR]; omega) (by rw [lR, LMl]; omega) wR' nR) (by simp) rfl rfl
    have sw := said_of (say_row true LM 3 2 3 (by omega) wM) (by simp) rfl rfl rfl rfl
    have sl := len_row nM wM (by omega)
    have cI := cN M
    (first | refine' rtp_go ?h0 ?_ | refine' seq_go ?h0 ?_)
    (case h0 => ((simp (disch := omega) [-getElem?_pos, lenOk_s, divOk_s, mulOk_s, rgOk_s, rg1Ok_s, repOk_s, hO']) <;> first | rfl | exact ⟨rfl, rfl⟩))
    (first | refine' rtp_go ?h0 ?_ | refine' seq_go ?h0 ?_)
    (case h0 => ((simp (disch := omega) [-getElem?_pos, lenOk_s, divOk_s, mulOk_s, rgOk_s, rg1Ok_s, repOk_s, fm, ln, cl, ea2, sR, n8]) <;> first | rfl | exact ⟨rfl, rfl⟩))
    (first | refine' rtp_go ?h0 ?_ | refine' seq_go ?h0 ?_)
    (case h0 => ((simp (disch := omega) [-getElem?_pos, lenOk_s, divOk_s, mulOk_s, rgOk_s, rg1Ok_s, repOk_s, sw, sl, LMl, -ev_fSplit]) <;> first | rfl | exact ⟨rfl, rfl⟩))
    (first | refine' rtp_go ?h0 ?_ | refine' seq_go ?h0 ?_)
    (case h0 => ((simp (disch := omega) [-getElem?_pos, lenOk_s, divOk_s, mulOk_s, rgOk_s, rg1Ok_s, repOk_s, sC, c0]) <;> first | rfl | exact ⟨rfl, rfl⟩))
    (first | refine' rtp_go ?h0 ?_ | refine' seq_go ?h0 ?_)
    (case h0 => ((simp (disch := omega) [-getElem?_pos, lenOk_s, divOk_s, mulOk_s, rgOk_s, rg1Ok_s, repOk_s, tk3, e3]) <;> first | rfl | exact ⟨rfl, rfl⟩))
    (first | refine' rtp_go ?h0 ?_ | refine' seq_go ?h0 ?_)
    (case h0 => ((simp (disch := omega) [-getElem?_pos, lenOk_s, divOk_s, mulOk_s, rgOk_s, rg1Ok_s, repOk_s, fL]) <;> first | rfl | exact ⟨rfl, rfl⟩))
    (first | refine' rtp_go ?h0 ?_ | refine' seq_go ?h0 ?_)
    (case h0 => ((simp (disch := omega) [-getElem?_pos, lenOk_s, divOk_s, mulOk_s, rgOk_s, rg1Ok_s, repOk_s, rngE, dc, jn, -ev_fJoin]) <;> first | rfl | exact ⟨rfl, rfl⟩))
    by_cases h16 : 16 < f
    · have h16' : (16 : Int) < (f : Int) := by omega
      rw [if_pos h16] at ps
      (first | refine' rtp_go ?h0 ?_ | refine' seq_go ?h0 ?_)
      (case h0 => ((simp (disch := omega) [-getElem?_pos, lenOk_s, divOk_s, mulOk_s, rgOk_s, rg1Ok_s, repOk_s, h16']) <;> first | rfl | exact ⟨rfl, rfl⟩))
      refine' rtp_ret ?h0 ?hd ?_
      (case h0 => ((simp (disch := omega) [-getElem?_pos, lenOk_s, divOk_s, mulOk_s, rgOk_s, rg1Ok_s, repOk_s, ps, fs, n8e, l6, cF]) <;> first | rfl | exact ⟨rfl, rfl⟩))
      (case hd => first | rfl | simp [ps, fs, n8e, l6, cF])
      simp
    · have h16' : ¬ (16 : Int) < (f : Int) := by omega
      rw [if_neg h16] at ps
      (first | refine' rtp_go ?h0 ?_ | refine' seq_go ?h0 ?_)
      (case h0 => ((simp (disch := omega) [-getElem?_pos, lenOk_s, divOk_s, mulOk_s, rgOk_s, rg1Ok_s, repOk_s, h16']) <;> first | rfl | exact ⟨rfl, rfl⟩))
      refine' rtp_ret ?h0 ?hd ?_
      (case h0 => ((simp (disch := omega) [-getElem?_pos, lenOk_s, divOk_s, mulOk_s, rgOk_s, rg1Ok_s, repOk_s, ps, fs, l6, cF, cP]) <;> first | rfl | exact ⟨rfl, rfl⟩))
      (case hd => first | rfl | simp [ps, fs, l6, cF, cP])
      simp
  · have hO' : ¬ (200 : Int) < (M : Int) + (R : Int) := by omega
    have sR := said_of (say_add true LM (List.replicate R (-3, "a")) 3 2 3 (by rw [lR, LMl]; omega) wR' nR) (by simp) rfl rfl rfl rfl
    have wL2 := wR_app wM wR'
    have lL2 : (LM ++ List.replicate R ((-3, "a") : It2)).length = M + R := by rw [List.length_append, lR, LMl]
    have eI2 : (((LM ++ List.replicate R ((-3, "a") : It2)).length : Nat) : Int) = (M : Int) + (R : Int) := by rw [lL2]; omega
    rw [eI2] at sR
    have cR := fNe_self (iTx_ok ((M : Int) + (R : Int)))
    have sw := said_of (say_row true (LM ++ List.replicate R ((-3, "a") : It2)) 3 2 3 (by rw [lL2]; omega) wL2) (by simp) rfl rfl rfl rfl
    have sl := len_row (l := LM ++ List.replicate R ((-3, "a") : It2)) (fun z => by rw [z] at lL2; simp at lL2; omega) wL2 (by rw [lL2]; omega)
    generalize LM ++ List.replicate R ((-3, "a") : It2) = L2 at *
    (first | refine' rtp_go ?h0 ?_ | refine' seq_go ?h0 ?_)
    (case h0 => ((simp (disch := omega) [-getElem?_pos, lenOk_s, divOk_s, mulOk_s, rgOk_s, rg1Ok_s, repOk_s, hO']) <;> first | rfl | exact ⟨rfl, rfl⟩))
    (first | refine' rtp_go ?h0 ?_ | refine' seq_go ?h0 ?_)
    (case h0 => ((simp (disch := omega) [-getElem?_pos, lenOk_s, divOk_s, mulOk_s, rgOk_s, rg1Ok_s, repOk_s, fm, ln, cl, ea2, sR, cR]) <;> first | rfl | exact ⟨rfl, rfl⟩))
    (first | refine' rtp_go ?h0 ?_ | refine' seq_go ?h0 ?_)
    (case h0 => ((simp (disch := omega) [-getElem?_pos, lenOk_s, divOk_s, mulOk_s, rgOk_s, rg1Ok_s, repOk_s, sw, sl, eI2, -ev_fSplit]) <;> first | rfl | exact ⟨rfl, rfl⟩))
    (first | refine' rtp_go ?h0 ?_ | refine' seq_go ?h0 ?_)
    (case h0 => ((simp (disch := omega) [-getElem?_pos, lenOk_s, divOk_s, mulOk_s, rgOk_s, rg1Ok_s, repOk_s, sC, c0]) <;> first | rfl | exact ⟨rfl, rfl⟩))
    (first | refine' rtp_go ?h0 ?_ | refine' seq_go ?h0 ?_)
    (case h0 => ((simp (disch := omega) [-getElem?_pos, lenOk_s, divOk_s, mulOk_s, rgOk_s, rg1Ok_s, repOk_s, tk3, e3]) <;> first | rfl | exact ⟨rfl, rfl⟩))
    (first | refine' rtp_go ?h0 ?_ | refine' seq_go ?h0 ?_)
    (case h0 => ((simp (disch := omega) [-getElem?_pos, lenOk_s, divOk_s, mulOk_s, rgOk_s, rg1Ok_s, repOk_s, fL]) <;> first | rfl | exact ⟨rfl, rfl⟩))
    (first | refine' rtp_go ?h0 ?_ | refine' seq_go ?h0 ?_)
    (case h0 => ((simp (disch := omega) [-getElem?_pos, lenOk_s, divOk_s, mulOk_s, rgOk_s, rg1Ok_s, repOk_s, rngE, dc, jn, -ev_fJoin]) <;> first | rfl | exact ⟨rfl, rfl⟩))
    by_cases h16 : 16 < f
    · have h16' : (16 : Int) < (f : Int) := by omega
      rw [if_pos h16] at ps
      (first | refine' rtp_go ?h0 ?_ | refine' seq_go ?h0 ?_)
      (case h0 => ((simp (disch := omega) [-getElem?_pos, lenOk_s, divOk_s, mulOk_s, rgOk_s, rg1Ok_s, repOk_s, h16']) <;> first | rfl | exact ⟨rfl, rfl⟩))
      refine' rtp_ret ?h0 ?hd ?_
      (case h0 => ((simp (disch := omega) [-getElem?_pos, lenOk_s, divOk_s, mulOk_s, rgOk_s, rg1Ok_s, repOk_s, ps, fs, n8e, l6, cF]) <;> first | rfl | exact ⟨rfl, rfl⟩))
      (case hd => first | rfl | simp [ps, fs, n8e, l6, cF])
      simp
    · have h16' : ¬ (16 : Int) < (f : Int) := by omega
      rw [if_neg h16] at ps
      (first | refine' rtp_go ?h0 ?_ | refine' seq_go ?h0 ?_)
      (case h0 => ((simp (disch := omega) [-getElem?_pos, lenOk_s, divOk_s, mulOk_s, rgOk_s, rg1Ok_s, repOk_s, h16']) <;> first | rfl | exact ⟨rfl, rfl⟩))
      refine' rtp_ret ?h0 ?hd ?_
      (case h0 => ((simp (disch := omega) [-getElem?_pos, lenOk_s, divOk_s, mulOk_s, rgOk_s, rg1Ok_s, repOk_s, ps, fs, l6, cF, cP]) <;> first | rfl | exact ⟨rfl, rfl⟩))
      (case hd => first | rfl | simp [ps, fs, l6, cF, cP])
      simp
end K90
end
section
set_option maxRecDepth 100000
namespace K90
open PySem PySem.Spec PyProof.Rows L2 DL
section
variable {K : PySem.W.Frag} {C P : Addr} {t c : Value} {b : Bool}
theorem k_clsC (h2 : PySem.W.isClsIn K P = true) (h3 : PySem.W.typeIn K (.ref P) = some (.type "type")) (h4 : PySem.W.subIn K t (.ref P) = some b) : PySem.W.kitCls K t (.ref P) = some b := by
  have h2' : (PySem.W.clsIn K P).isSome = true := h2
  have e2 : ((PySem.W.clsIn K P).isSome && PySem.W.typeIn K (.ref P) == some (.type "type")) = true := by rw [h2', h3] <;> rfl
  show (if ((PySem.W.clsIn K P).isSome && PySem.W.typeIn K (.ref P) == some (.type "type")) = true then PySem.W.subIn K t (.ref P) else none) = some b
  rw [if_pos e2]; exact h4
theorem k_exm (h1 : PySem.W.subIn K (.ref P) (.type "BaseException") = some true) (h2 : PySem.W.isClsIn K P = true) (h3 : PySem.W.typeIn K (.ref P) = some (.type "type")) (h4 : PySem.W.subIn K t (.ref P) = some b) : PySem.W.exmOne K t (.ref P) = some b := by
  have e1 : (PySem.W.subIn K (.ref P) (.type "BaseException") == some true) = true := by rw [h1] <;> rfl
  show (if (PySem.W.subIn K (.ref P) (.type "BaseException") == some true) = true then PySem.W.kitCls K t (.ref P) else none) = some b
  rw [if_pos e1]; exact k_clsC h2 h3 h4
theorem k_kit0 : PySem.W.kitOne K (.ref C) (.ref C) = some true := by
  show (if _ then some true else _) = some true
  rw [if_pos (beq_self_eq_true (Value.ref C))]
theorem k_kitC (h0 : C ≠ P) (h2 : PySem.W.isClsIn K P = true) (h3 : PySem.W.typeIn K (.ref P) = some (.type "type")) (h4 : PySem.W.subIn K (.ref C) (.ref P) = some b) : PySem.W.kitOne K (.ref C) (.ref P) = some b := by
  show (if _ then some true else _) = some b
  rw [if_neg (fun z => h0 (by have := beq_iff_eq.mp z; cases this; rfl))]
  exact k_clsC h2 h3 h4
theorem k_kitV (h4 : PySem.W.subIn K (.ref C) (.type "ValueError") = some b) : PySem.W.kitOne K (.ref C) (.type "ValueError") = some b := by
  show (if _ then some true else _) = some b
  rw [if_neg (fun z => by have := beq_iff_eq.mp z; cases this)]
  show (if PySem.W.kitMeta "ValueError" = true then PySem.W.subIn K (.ref C) (.type "ValueError") else none) = some b
  rw [if_pos (by decide +kernel)]; exact h4
end
set_option maxHeartbeats 0 in
theorem all_mk {l : PySem.W.OpenLaw} {w : World} {K : PySem.W.Frag} {h : Heap} {mg : Str → Option Value} {fa : Addr} (X : K.In h) (G : h.Ns mainGlobals mg) (hfa : mg "law" = some (.ref fa))
    {f72 f63 f73 f54 f10 f55 f56 f64 f52 f53 f13 f11 f14 f15 f36 f62 f12 f37 f38 f39 f67 f70 f71 f74 f75 f77 f78 : Addr} {od72 an72 od63 an63 od73 an73 od54 an54 od10 an10 od55 an55 od56 an56 od64 an64 od52 an52 od53 an53 od13 an13 od11 an11 od14 an14 od15 an15 od36 an36 od62 an62 od12 an12 od37 an37 od38 an38 od39 an39 od67 an67 od70 an70 od71 an71 od74 an74 od75 an75 od77 an77 od78 an78 : Option Addr} {sl72 sl63 sl73 sl54 sl10 sl55 sl56 sl64 sl52 sl53 sl13 sl11 sl14 sl15 sl36 sl62 sl12 sl37 sl38 sl39 sl67 sl70 sl71 sl74 sl75 sl77 sl78 : Array (Option Value)} {oc72 kV72 dc72 pm72 cd72 ct72 oc63 kV63 dc63 pm63 cd63 ct63 oc73 kV73 dc73 pm73 cd73 ct73 oc54 kV54 dc54 pm54 cd54 ct54 oc10 kV10 dc10 pm10 cd10 ct10 oc55 kV55 dc55 pm55 cd55 ct55 oc56 kV56 dc56 pm56 cd56 ct56 oc64 kV64 dc64 pm64 cd64 ct64 oc52 kV52 dc52 pm52 cd52 ct52 oc53 kV53 dc53 pm53 cd53 ct53 oc13 kV13 dc13 pm13 cd13 ct13 oc11 kV11 dc11 pm11 cd11 ct11 oc14 kV14 dc14 pm14 cd14 ct14 oc15 kV15 dc15 pm15 cd15 ct15 oc36 kV36 dc36 pm36 cd36 ct36 oc62 kV62 dc62 pm62 cd62 ct62 oc12 kV12 dc12 pm12 cd12 ct12 oc37 kV37 dc37 pm37 cd37 ct37 oc38 kV38 dc38 pm38 cd38 ct38 oc39 kV39 dc39 pm39 cd39 ct39 oc67 kV67 dc67 pm67 cd67 ct67 oc70 kV70 dc70 pm70 cd70 ct70 oc71 kV71 dc71 pm71 cd71 ct71 oc74 kV74 dc74 pm74 cd74 ct74 oc75 kV75 dc75 pm75 cd75 ct75 oc77 kV77 dc77 pm77 cd77 ct77 oc78 kV78 dc78 pm78 cd78 ct78 : Value}
    {C16 C13 C5 C3 C8 C6 C4 C1 C10 C7 C12 C2 C11 C0 C9 : Addr}
    (aC13 : PySem.W.nsIn K mainGlobals "Bare" = some (some (.ref C13)))
    (aC5 : PySem.W.nsIn K mainGlobals "NoDrive" = some (some (.ref C5)))
    (aC3 : PySem.W.nsIn K mainGlobals "NoDrives" = some (some (.ref C3)))
    (aC8 : PySem.W.nsIn K mainGlobals "NoLine" = some (some (.ref C8)))
    (aC6 : PySem.W.nsIn K mainGlobals "NoPhase" = some (some (.ref C6)))
    (aC4 : PySem.W.nsIn K mainGlobals "NoPlace" = some (some (.ref C4)))
    (aC1 : PySem.W.nsIn K mainGlobals "NoRoom" = some (some (.ref C1)))
    (aC10 : PySem.W.nsIn K mainGlobals "NoRow" = some (some (.ref C10)))
    (aC7 : PySem.W.nsIn K mainGlobals "NoShelf" = some (some (.ref C7)))
    (aC12 : PySem.W.nsIn K mainGlobals "NoTrace" = some (some (.ref C12)))
    (aC2 : PySem.W.nsIn K mainGlobals "NoWidth" = some (some (.ref C2)))
    (aC11 : PySem.W.nsIn K mainGlobals "NotRising" = some (some (.ref C11)))
    (aC0 : PySem.W.nsIn K mainGlobals "PourError" = some (some (.ref C0)))
    (aC9 : PySem.W.nsIn K mainGlobals "TooMany" = some (some (.ref C9)))
    (xq9 : PySem.W.excIn K C9 veB "ValueError.__new__" = true) (xk9 : PySem.W.keepIn K (.ref C9) = true) (xs9 : PySem.W.subIn K (.ref C9) (.type "BaseException") = some true) (xt9 : PySem.W.typeIn K (.ref C9) = some (.type "type"))
    (y1_9 : PySem.W.findIn K (.ref C9) "__getattribute__" = some (some (.builtin "BaseException.__getattribute__"))) (y2_9 : PySem.W.findIn K (.ref C9) "__getattr__" = some none) (y3_9 : PySem.W.hasDictIn K C9 = true) (y4_9 : PySem.W.findIn K (.ref C9) "__class__" = some (some (.builtin "object.__class__"))) (y5_9 : PySem.W.mroIn K C9 (.type "object") = some true)
    (w1 : PySem.W.specialIn K (.builtin "object.__class__") "__get__" = some (some (.builtin "getset_descriptor.__get__"))) (w2 : PySem.W.takesIn K (.builtin "object.__class__") = some true)
    (em_TooMany_PourError : PySem.W.exmOne K (.ref C9) (.ref C0) = some true)
    (ki_TooMany_Bare : PySem.W.kitOne K (.ref C9) (.ref C13) = some false)
    (ki_TooMany_NoDrive : PySem.W.kitOne K (.ref C9) (.ref C5) = some false)
    (ki_TooMany_NoDrives : PySem.W.kitOne K (.ref C9) (.ref C3) = some false)
    (ki_TooMany_NoLine : PySem.W.kitOne K (.ref C9) (.ref C8) = some false)
    (ki_TooMany_NoPhase : PySem.W.kitOne K (.ref C9) (.ref C6) = some false)
    (ki_TooMany_NoPlace : PySem.W.kitOne K (.ref C9) (.ref C4) = some false)
    (ki_TooMany_NoRoom : PySem.W.kitOne K (.ref C9) (.ref C1) = some false)
    (ki_TooMany_NoRow : PySem.W.kitOne K (.ref C9) (.ref C10) = some false)
    (ki_TooMany_NoShelf : PySem.W.kitOne K (.ref C9) (.ref C7) = some false)
    (ki_TooMany_NoTrace : PySem.W.kitOne K (.ref C9) (.ref C12) = some false)
    (ki_TooMany_NoWidth : PySem.W.kitOne K (.ref C9) (.ref C2) = some false)
    (ki_TooMany_NotRising : PySem.W.kitOne K (.ref C9) (.ref C11) = some false)
    (ki_TooMany_PourError : PySem.W.kitOne K (.ref C9) (.ref C0) = some true)
    (ki_TooMany_TooMany : PySem.W.kitOne K (.ref C9) (.ref C9) = some true)
    (kv_TooMany : PySem.W.kitOne K (.ref C9) (.type "ValueError") = some true)
    (aC16 : PySem.W.nsIn K mainGlobals "Desk" = some (some (.ref C16))) (pg16 : PySem.W.plainGet K C16 Str.empty = true) (hd16 : PySem.W.hasDictIn K C16 = true) (po16 : PySem.W.plainOver K C16 = true) (sa16 : PySem.W.findIn K (.ref C16) "__setattr__" = some (some (.builtin "object.__setattr__"))) (mk16 : PySem.W.makesIn K C16 = true) (kc16 : PySem.W.keepIn K (.ref C16) = true)
    (a72 : PySem.W.nsIn K mainGlobals "_law_box" = some (some (.ref f72))) (l72 : K.lookup f72 = some ⟨oc72, od72, .func (PySem.W.fnOf "_law_box" "_law_box" (defArgs s_72) (defBody s_72) (defScope s_72) .none kV72 dc72 pm72 an72 cd72 ct72), sl72⟩) (c72 : PySem.W.codeIn K cd72 "_law_box" = true) (k72 : PySem.W.keepIn K (.ref f72) = true)
    (a63 : PySem.W.findIn K (.ref C16) "__init__" = some (some (.ref f63))) (i63 : PySem.W.isFn K (.ref f63) = true) (l63 : K.lookup f63 = some ⟨oc63, od63, .func (PySem.W.fnOf "__init__" "Desk.__init__" (defArgs s_63) (defBody s_63) (defScope s_63) .none kV63 dc63 pm63 an63 cd63 ct63), sl63⟩) (c63 : PySem.W.codeIn K cd63 "Desk.__init__" = true) (k63 : PySem.W.keepIn K (.ref f63) = true)
    (a73 : PySem.W.nsIn K mainGlobals "_law_take" = some (some (.ref f73))) (l73 : K.lookup f73 = some ⟨oc73, od73, .func (PySem.W.fnOf "_law_take" "_law_take" (defArgs s_73) (defBody s_73) (defScope s_73) .none kV73 dc73 pm73 an73 cd73 ct73), sl73⟩) (c73 : PySem.W.codeIn K cd73 "_law_take" = true) (k73 : PySem.W.keepIn K (.ref f73) = true)
    (a54 : PySem.W.nsIn K mainGlobals "key_in" = some (some (.ref f54))) (l54 : K.lookup f54 = some ⟨oc54, od54, .func (PySem.W.fnOf "key_in" "key_in" (defArgs s_54) (defBody s_54) (defScope s_54) .none kV54 dc54 pm54 an54 cd54 ct54), sl54⟩) (c54 : PySem.W.codeIn K cd54 "key_in" = true) (k54 : PySem.W.keepIn K (.ref f54) = true)
    (a10 : PySem.W.nsIn K mainGlobals "is_tag" = some (some (.ref f10))) (l10 : K.lookup f10 = some ⟨oc10, od10, .func (PySem.W.fnOf "is_tag" "is_tag" (defArgs s_10) (defBody s_10) (defScope s_10) .none kV10 dc10 pm10 an10 cd10 ct10), sl10⟩) (c10 : PySem.W.codeIn K cd10 "is_tag" = true) (k10 : PySem.W.keepIn K (.ref f10) = true)
    (a55 : PySem.W.nsIn K mainGlobals "item_in" = some (some (.ref f55))) (l55 : K.lookup f55 = some ⟨oc55, od55, .func (PySem.W.fnOf "item_in" "item_in" (defArgs s_55) (defBody s_55) (defScope s_55) .none kV55 dc55 pm55 an55 cd55 ct55), sl55⟩) (c55 : PySem.W.codeIn K cd55 "item_in" = true) (k55 : PySem.W.keepIn K (.ref f55) = true)
    (a56 : PySem.W.nsIn K mainGlobals "read_row" = some (some (.ref f56))) (l56 : K.lookup f56 = some ⟨oc56, od56, .func (PySem.W.fnOf "read_row" "read_row" (defArgs s_56) (defBody s_56) (defScope s_56) .none kV56 dc56 pm56 an56 cd56 ct56), sl56⟩) (c56 : PySem.W.codeIn K cd56 "read_row" = true) (k56 : PySem.W.keepIn K (.ref f56) = true)
    (a64 : PySem.W.findIn K (.ref C16) "put_items" = some (some (.ref f64))) (i64 : PySem.W.isFn K (.ref f64) = true) (l64 : K.lookup f64 = some ⟨oc64, od64, .func (PySem.W.fnOf "put_items" "Desk.put_items" (defArgs s_64) (defBody s_64) (defScope s_64) .none kV64 dc64 pm64 an64 cd64 ct64), sl64⟩) (c64 : PySem.W.codeIn K cd64 "Desk.put_items" = true) (k64 : PySem.W.keepIn K (.ref f64) = true)
    (a52 : PySem.W.nsIn K mainGlobals "item_text" = some (some (.ref f52))) (l52 : K.lookup f52 = some ⟨oc52, od52, .func (PySem.W.fnOf "item_text" "item_text" (defArgs s_52) (defBody s_52) (defScope s_52) .none kV52 dc52 pm52 an52 cd52 ct52), sl52⟩) (c52 : PySem.W.codeIn K cd52 "item_text" = true) (k52 : PySem.W.keepIn K (.ref f52) = true)
    (a53 : PySem.W.nsIn K mainGlobals "show_row" = some (some (.ref f53))) (l53 : K.lookup f53 = some ⟨oc53, od53, .func (PySem.W.fnOf "show_row" "show_row" (defArgs s_53) (defBody s_53) (defScope s_53) .none kV53 dc53 pm53 an53 cd53 ct53), sl53⟩) (c53 : PySem.W.codeIn K cd53 "show_row" = true) (k53 : PySem.W.keepIn K (.ref f53) = true)
    (a13 : PySem.W.nsIn K mainGlobals "sorted_row" = some (some (.ref f13))) (l13 : K.lookup f13 = some ⟨oc13, od13, .func (PySem.W.fnOf "sorted_row" "sorted_row" (defArgs s_13) (defBody s_13) (defScope s_13) .none kV13 dc13 pm13 an13 cd13 ct13), sl13⟩) (c13 : PySem.W.codeIn K cd13 "sorted_row" = true) (k13 : PySem.W.keepIn K (.ref f13) = true)
    (a11 : PySem.W.nsIn K mainGlobals "less" = some (some (.ref f11))) (l11 : K.lookup f11 = some ⟨oc11, od11, .func (PySem.W.fnOf "less" "less" (defArgs s_11) (defBody s_11) (defScope s_11) .none kV11 dc11 pm11 an11 cd11 ct11), sl11⟩) (c11 : PySem.W.codeIn K cd11 "less" = true) (k11 : PySem.W.keepIn K (.ref f11) = true)
    (a14 : PySem.W.nsIn K mainGlobals "greater_ahead" = some (some (.ref f14))) (l14 : K.lookup f14 = some ⟨oc14, od14, .func (PySem.W.fnOf "greater_ahead" "greater_ahead" (defArgs s_14) (defBody s_14) (defScope s_14) .none kV14 dc14 pm14 an14 cd14 ct14), sl14⟩) (c14 : PySem.W.codeIn K cd14 "greater_ahead" = true) (k14 : PySem.W.keepIn K (.ref f14) = true)
    (a15 : PySem.W.nsIn K mainGlobals "far" = some (some (.ref f15))) (l15 : K.lookup f15 = some ⟨oc15, od15, .func (PySem.W.fnOf "far" "far" (defArgs s_15) (defBody s_15) (defScope s_15) .none kV15 dc15 pm15 an15 cd15 ct15), sl15⟩) (c15 : PySem.W.codeIn K cd15 "far" = true) (k15 : PySem.W.keepIn K (.ref f15) = true)
    (a36 : PySem.W.nsIn K mainGlobals "natural" = some (some (.ref f36))) (l36 : K.lookup f36 = some ⟨oc36, od36, .func (PySem.W.fnOf "natural" "natural" (defArgs s_36) (defBody s_36) (defScope s_36) .none kV36 dc36 pm36 an36 cd36 ct36), sl36⟩) (c36 : PySem.W.codeIn K cd36 "natural" = true) (k36 : PySem.W.keepIn K (.ref f36) = true)
    (a62 : PySem.W.nsIn K mainGlobals "numbers_text" = some (some (.ref f62))) (l62 : K.lookup f62 = some ⟨oc62, od62, .func (PySem.W.fnOf "numbers_text" "numbers_text" (defArgs s_62) (defBody s_62) (defScope s_62) .none kV62 dc62 pm62 an62 cd62 ct62), sl62⟩) (c62 : PySem.W.codeIn K cd62 "numbers_text" = true) (k62 : PySem.W.keepIn K (.ref f62) = true)
    (a12 : PySem.W.nsIn K mainGlobals "rises" = some (some (.ref f12))) (l12 : K.lookup f12 = some ⟨oc12, od12, .func (PySem.W.fnOf "rises" "rises" (defArgs s_12) (defBody s_12) (defScope s_12) .none kV12 dc12 pm12 an12 cd12 ct12), sl12⟩) (c12 : PySem.W.codeIn K cd12 "rises" = true) (k12 : PySem.W.keepIn K (.ref f12) = true)
    (a37 : PySem.W.nsIn K mainGlobals "need_rising" = some (some (.ref f37))) (l37 : K.lookup f37 = some ⟨oc37, od37, .func (PySem.W.fnOf "need_rising" "need_rising" (defArgs s_37) (defBody s_37) (defScope s_37) .none kV37 dc37 pm37 an37 cd37 ct37), sl37⟩) (c37 : PySem.W.codeIn K cd37 "need_rising" = true) (k37 : PySem.W.keepIn K (.ref f37) = true)
    (a38 : PySem.W.nsIn K mainGlobals "next_run" = some (some (.ref f38))) (l38 : K.lookup f38 = some ⟨oc38, od38, .func (PySem.W.fnOf "next_run" "next_run" (defArgs s_38) (defBody s_38) (defScope s_38) .none kV38 dc38 pm38 an38 cd38 ct38), sl38⟩) (c38 : PySem.W.codeIn K cd38 "next_run" = true) (k38 : PySem.W.keepIn K (.ref f38) = true)
    (a39 : PySem.W.nsIn K mainGlobals "pour" = some (some (.ref f39))) (l39 : K.lookup f39 = some ⟨oc39, od39, .func (PySem.W.fnOf "pour" "pour" (defArgs s_39) (defBody s_39) (defScope s_39) .none kV39 dc39 pm39 an39 cd39 ct39), sl39⟩) (c39 : PySem.W.codeIn K cd39 "pour" = true) (k39 : PySem.W.keepIn K (.ref f39) = true)
    (a67 : PySem.W.findIn K (.ref C16) "trace_told" = some (some (.ref f67))) (i67 : PySem.W.isFn K (.ref f67) = true) (l67 : K.lookup f67 = some ⟨oc67, od67, .func (PySem.W.fnOf "trace_told" "Desk.trace_told" (defArgs s_67) (defBody s_67) (defScope s_67) .none kV67 dc67 pm67 an67 cd67 ct67), sl67⟩) (c67 : PySem.W.codeIn K cd67 "Desk.trace_told" = true) (k67 : PySem.W.keepIn K (.ref f67) = true)
    (a70 : PySem.W.findIn K (.ref C16) "asked" = some (some (.ref f70))) (i70 : PySem.W.isFn K (.ref f70) = true) (l70 : K.lookup f70 = some ⟨oc70, od70, .func (PySem.W.fnOf "asked" "Desk.asked" (defArgs s_70) (defBody s_70) (defScope s_70) .none kV70 dc70 pm70 an70 cd70 ct70), sl70⟩) (c70 : PySem.W.codeIn K cd70 "Desk.asked" = true) (k70 : PySem.W.keepIn K (.ref f70) = true)
    (a71 : PySem.W.findIn K (.ref C16) "say" = some (some (.ref f71))) (i71 : PySem.W.isFn K (.ref f71) = true) (l71 : K.lookup f71 = some ⟨oc71, od71, .func (PySem.W.fnOf "say" "Desk.say" (defArgs s_71) (defBody s_71) (defScope s_71) .none kV71 dc71 pm71 an71 cd71 ct71), sl71⟩) (c71 : PySem.W.codeIn K cd71 "Desk.say" = true) (k71 : PySem.W.keepIn K (.ref f71) = true)
    (a74 : PySem.W.nsIn K mainGlobals "_law_classes" = some (some (.ref f74))) (l74 : K.lookup f74 = some ⟨oc74, od74, .func (PySem.W.fnOf "_law_classes" "_law_classes" (defArgs s_74) (defBody s_74) (defScope s_74) .none kV74 dc74 pm74 an74 cd74 ct74), sl74⟩) (c74 : PySem.W.codeIn K cd74 "_law_classes" = true) (k74 : PySem.W.keepIn K (.ref f74) = true)
    (a75 : PySem.W.nsIn K mainGlobals "_law_only" = some (some (.ref f75))) (l75 : K.lookup f75 = some ⟨oc75, od75, .func (PySem.W.fnOf "_law_only" "_law_only" (defArgs s_75) (defBody s_75) (defScope s_75) .none kV75 dc75 pm75 an75 cd75 ct75), sl75⟩) (c75 : PySem.W.codeIn K cd75 "_law_only" = true) (k75 : PySem.W.keepIn K (.ref f75) = true)
    (a77 : PySem.W.nsIn K mainGlobals "_law_said" = some (some (.ref f77))) (l77 : K.lookup f77 = some ⟨oc77, od77, .func (PySem.W.fnOf "_law_said" "_law_said" (defArgs s_77) (defBody s_77) (defScope s_77) .none kV77 dc77 pm77 an77 cd77 ct77), sl77⟩) (c77 : PySem.W.codeIn K cd77 "_law_said" = true) (k77 : PySem.W.keepIn K (.ref f77) = true)
    (a78 : PySem.W.nsIn K mainGlobals "law" = some (some (.ref f78))) (l78 : K.lookup f78 = some ⟨oc78, od78, .func (PySem.W.fnOf "law" "law" (defArgs s_78) (defBody s_78) (defScope s_78) .none kV78 dc78 pm78 an78 cd78 ct78), sl78⟩) (c78 : PySem.W.codeIn K cd78 "law" = true) (k78 : PySem.W.keepIn K (.ref f78) = true)
    (n_Desk_row : PySem.W.findIn K (.ref C16) "row" = some none)
    (n_Desk_room : PySem.W.findIn K (.ref C16) "room" = some none)
    (n_Desk_width : PySem.W.findIn K (.ref C16) "width" = some none)
    (n_Desk_drives : PySem.W.findIn K (.ref C16) "drives" = some none)
    (al_pour_pours : PySem.W.nsIn K mainGlobals "pour_pours" = some (some (.ref f39)))
    {t_FIGURES_texts : Tok} (c_FIGURES_texts : PySem.W.nsIn K mainGlobals "FIGURES_texts" = some (some (.str "0123456789" t_FIGURES_texts)))
    {t_LETTERS : Tok} (c_LETTERS : PySem.W.nsIn K mainGlobals "LETTERS" = some (some (.str "abcdefghijklmnopqrstuvwxyz" t_LETTERS)))
    {t_MOST_FIGURES : Tok} (c_MOST_FIGURES : PySem.W.nsIn K mainGlobals "MOST_FIGURES" = some (some (.int 40 t_MOST_FIGURES)))
    {t_MOST_ITEMS_desk : Tok} (c_MOST_ITEMS_desk : PySem.W.nsIn K mainGlobals "MOST_ITEMS_desk" = some (some (.int 200 t_MOST_ITEMS_desk)))
    {t_MOST_ITEMS_items : Tok} (c_MOST_ITEMS_items : PySem.W.nsIn K mainGlobals "MOST_ITEMS_items" = some (some (.int 200 t_MOST_ITEMS_items)))
    {t_MOST_LETTERS : Tok} (c_MOST_LETTERS : PySem.W.nsIn K mainGlobals "MOST_LETTERS" = some (some (.int 8 t_MOST_LETTERS)))
    {t_MOST_RUNS : Tok} (c_MOST_RUNS : PySem.W.nsIn K mainGlobals "MOST_RUNS" = some (some (.int 16 t_MOST_RUNS)))
    (z_ValueError : PySem.W.nsIn K mainGlobals "ValueError" = some none)
    (z_all : PySem.W.nsIn K mainGlobals "all" = some none)
    (z_divmod : PySem.W.nsIn K mainGlobals "divmod" = some none)
    (z_enumerate : PySem.W.nsIn K mainGlobals "enumerate" = some none)
    (z_int : PySem.W.nsIn K mainGlobals "int" = some none)
    (z_isinstance : PySem.W.nsIn K mainGlobals "isinstance" = some none)
    (z_len : PySem.W.nsIn K mainGlobals "len" = some none)
    (z_max : PySem.W.nsIn K mainGlobals "max" = some none)
    (z_range : PySem.W.nsIn K mainGlobals "range" = some none)
    (z_sorted : PySem.W.nsIn K mainGlobals "sorted" = some none)
    (z_str : PySem.W.nsIn K mainGlobals "str" = some none)
    : ∃ fd : FuncData, (∀ (s : Shared) (v : Value), BindsTo s fd ⟨[v], []⟩ [("script", v)]) ∧ ∀ base : Heap, K.In base → base.Ns mainGlobals mg → FnOk l.prog w K mg base (L2N.CX l.prog w) 9 fa fd ["script"] (fun vs H Q _ => ∃ (a : Addr) (ns : List Int), vs = [.ref a] ∧ SqL K H a (ns.map V.int) ∧ ns.length ≤ 63 ∧ True ∧ ∀ H', Q (.bl true) H') := by
  have e := hfa.symm.trans (PySem.W.mg_of X G a78)
  cases e
  have F72 := fun_mk (st := s_72) l72 c72 k72
  have b72 := F72.binds (ps := ["script", "k"]) fun _ _ _ _ _ _ us hl => match us, hl with | [_, _], _ => rfl
  have F63 := fun_mk (st := s_63) l63 c63 k63
  have b63 := F63.binds (ps := ["self"]) fun _ _ _ _ _ _ us hl => match us, hl with | [_], _ => rfl
  have F73 := fun_mk (st := s_73) l73 c73 k73
  have b73 := F73.binds (ps := ["box", "many"]) fun _ _ _ _ _ _ us hl => match us, hl with | [_, _], _ => rfl
  have F54 := fun_mk (st := s_54) l54 c54 k54
  have b54 := F54.binds (ps := ["text"]) fun _ _ _ _ _ _ us hl => match us, hl with | [_], _ => rfl
  have F10 := fun_mk (st := s_10) l10 c10 k10
  have b10 := F10.binds (ps := ["thing"]) fun _ _ _ _ _ _ us hl => match us, hl with | [_], _ => rfl
  have F55 := fun_mk (st := s_55) l55 c55 k55
  have b55 := F55.binds (ps := ["word"]) fun _ _ _ _ _ _ us hl => match us, hl with | [_], _ => rfl
  have F56 := fun_mk (st := s_56) l56 c56 k56
  have b56 := F56.binds (ps := ["text"]) fun _ _ _ _ _ _ us hl => match us, hl with | [_], _ => rfl
  have F64 := fun_mk (st := s_64) l64 c64 k64
  have b64 := F64.binds (ps := ["self", "text"]) fun _ _ _ _ _ _ us hl => match us, hl with | [_, _], _ => rfl
  have F52 := fun_mk (st := s_52) l52 c52 k52
  have b52 := F52.binds (ps := ["item"]) fun _ _ _ _ _ _ us hl => match us, hl with | [_], _ => rfl
  have F53 := fun_mk (st := s_53) l53 c53 k53
  have b53 := F53.binds (ps := ["row"]) fun _ _ _ _ _ _ us hl => match us, hl with | [_], _ => rfl
  have F13 := fun_mk (st := s_13) l13 c13 k13
  have b13 := F13.binds (ps := ["row"]) fun _ _ _ _ _ _ us hl => match us, hl with | [_], _ => rfl
  have F11 := fun_mk (st := s_11) l11 c11 k11
  have b11 := F11.binds (ps := ["one", "other"]) fun _ _ _ _ _ _ us hl => match us, hl with | [_, _], _ => rfl
  have F14 := fun_mk (st := s_14) l14 c14 k14
  have b14 := F14.binds (ps := ["row", "at"]) fun _ _ _ _ _ _ us hl => match us, hl with | [_, _], _ => rfl
  have F15 := fun_mk (st := s_15) l15 c15 k15
  have b15 := F15.binds (ps := ["row"]) fun _ _ _ _ _ _ us hl => match us, hl with | [_], _ => rfl
  have F36 := fun_mk (st := s_36) l36 c36 k36
  have b36 := F36.binds (ps := ["row"]) fun _ _ _ _ _ _ us hl => match us, hl with | [_], _ => rfl
  have F62 := fun_mk (st := s_62) l62 c62 k62
  have b62 := F62.binds (ps := ["numbers"]) fun _ _ _ _ _ _ us hl => match us, hl with | [_], _ => rfl
  have F12 := fun_mk (st := s_12) l12 c12 k12
  have b12 := F12.binds (ps := ["row"]) fun _ _ _ _ _ _ us hl => match us, hl with | [_], _ => rfl
  have F37 := fun_mk (st := s_37) l37 c37 k37
  have b37 := F37.binds (ps := ["runs"]) fun _ _ _ _ _ _ us hl => match us, hl with | [_], _ => rfl
  have F38 := fun_mk (st := s_38) l38 c38 k38
  have b38 := F38.binds (ps := ["runs", "gone"]) fun _ _ _ _ _ _ us hl => match us, hl with | [_, _], _ => rfl
  have F39 := fun_mk (st := s_39) l39 c39 k39
  have b39 := F39.binds (ps := ["runs"]) fun _ _ _ _ _ _ us hl => match us, hl with | [_], _ => rfl
  have F67 := fun_mk (st := s_67) l67 c67 k67
  have b67 := F67.binds (ps := ["self"]) fun _ _ _ _ _ _ us hl => match us, hl with | [_], _ => rfl
  have F70 := fun_mk (st := s_70) l70 c70 k70
  have b70 := F70.binds (ps := ["self", "word"]) fun _ _ _ _ _ _ us hl => match us, hl with | [_, _], _ => rfl
  have F71 := fun_mk (st := s_71) l71 c71 k71
  have b71 := F71.binds (ps := ["self", "line"]) fun _ _ _ _ _ _ us hl => match us, hl with | [_, _], _ => rfl
  have F74 := fun_mk (st := s_74) l74 c74 k74
  have b74 := F74.binds (ps := ["e"]) fun _ _ _ _ _ _ us hl => match us, hl with | [_], _ => rfl
  have F75 := fun_mk (st := s_75) l75 c75 k75
  have b75 := F75.binds (ps := ["e", "place"]) fun _ _ _ _ _ _ us hl => match us, hl with | [_, _], _ => rfl
  have F77 := fun_mk (st := s_77) l77 c77 k77
  have b77 := F77.binds (ps := ["desk", "line"]) fun _ _ _ _ _ _ us hl => match us, hl with | [_, _], _ => rfl
  have F78 := fun_mk (st := s_78) l78 c78 k78
  have b78 := F78.binds (ps := ["script"]) fun _ _ _ _ _ _ us hl => match us, hl with | [_], _ => rfl
  have T : Tx K mg (fun k => match k with | 72 => f72 | 63 => f63 | 73 => f73 | 54 => f54 | 10 => f10 | 55 => f55 | 56 => f56 | 64 => f64 | 52 => f52 | 53 => f53 | 13 => f13 | 11 => f11 | 14 => f14 | 15 => f15 | 36 => f36 | 62 => f62 | 12 => f12 | 37 => f37 | 38 => f38 | 39 => f39 | 67 => f67 | 70 => f70 | 71 => f71 | 74 => f74 | 75 => f75 | 77 => f77 | _ => fa) (fun k => match k with | 72 => (PySem.W.fnOf "_law_box" "_law_box" (defArgs s_72) (defBody s_72) (defScope s_72) .none kV72 dc72 pm72 an72 cd72 ct72) | 63 => (PySem.W.fnOf "__init__" "Desk.__init__" (defArgs s_63) (defBody s_63) (defScope s_63) .none kV63 dc63 pm63 an63 cd63 ct63) | 73 => (PySem.W.fnOf "_law_take" "_law_take" (defArgs s_73) (defBody s_73) (defScope s_73) .none kV73 dc73 pm73 an73 cd73 ct73) | 54 => (PySem.W.fnOf "key_in" "key_in" (defArgs s_54) (defBody s_54) (defScope s_54) .none kV54 dc54 pm54 an54 cd54 ct54) | 10 => (PySem.W.fnOf "is_tag" "is_tag" (defArgs s_10) (defBody s_10) (defScope s_10) .none kV10 dc10 pm10 an10 cd10 ct10) | 55 => (PySem.W.fnOf "item_in" "item_in" (defArgs s_55) (defBody s_55) (defScope s_55) .none kV55 dc55 pm55 an55 cd55 ct55) | 56 => (PySem.W.fnOf "read_row" "read_row" (defArgs s_56) (defBody s_56) (defScope s_56) .none kV56 dc56 pm56 an56 cd56 ct56) | 64 => (PySem.W.fnOf "put_items" "Desk.put_items" (defArgs s_64) (defBody s_64) (defScope s_64) .none kV64 dc64 pm64 an64 cd64 ct64) | 52 => (PySem.W.fnOf "item_text" "item_text" (defArgs s_52) (defBody s_52) (defScope s_52) .none kV52 dc52 pm52 an52 cd52 ct52) | 53 => (PySem.W.fnOf "show_row" "show_row" (defArgs s_53) (defBody s_53) (defScope s_53) .none kV53 dc53 pm53 an53 cd53 ct53) | 13 => (PySem.W.fnOf "sorted_row" "sorted_row" (defArgs s_13) (defBody s_13) (defScope s_13) .none kV13 dc13 pm13 an13 cd13 ct13) | 11 => (PySem.W.fnOf "less" "less" (defArgs s_11) (defBody s_11) (defScope s_11) .none kV11 dc11 pm11 an11 cd11 ct11) | 14 => (PySem.W.fnOf "greater_ahead" "greater_ahead" (defArgs s_14) (defBody s_14) (defScope s_14) .none kV14 dc14 pm14 an14 cd14 ct14) | 15 => (PySem.W.fnOf "far" "far" (defArgs s_15) (defBody s_15) (defScope s_15) .none kV15 dc15 pm15 an15 cd15 ct15) | 36 => (PySem.W.fnOf "natural" "natural" (defArgs s_36) (defBody s_36) (defScope s_36) .none kV36 dc36 pm36 an36 cd36 ct36) | 62 => (PySem.W.fnOf "numbers_text" "numbers_text" (defArgs s_62) (defBody s_62) (defScope s_62) .none kV62 dc62 pm62 an62 cd62 ct62) | 12 => (PySem.W.fnOf "rises" "rises" (defArgs s_12) (defBody s_12) (defScope s_12) .none kV12 dc12 pm12 an12 cd12 ct12) | 37 => (PySem.W.fnOf "need_rising" "need_rising" (defArgs s_37) (defBody s_37) (defScope s_37) .none kV37 dc37 pm37 an37 cd37 ct37) | 38 => (PySem.W.fnOf "next_run" "next_run" (defArgs s_38) (defBody s_38) (defScope s_38) .none kV38 dc38 pm38 an38 cd38 ct38) | 39 => (PySem.W.fnOf "pour" "pour" (defArgs s_39) (defBody s_39) (defScope s_39) .none kV39 dc39 pm39 an39 cd39 ct39) | 67 => (PySem.W.fnOf "trace_told" "Desk.trace_told" (defArgs s_67) (defBody s_67) (defScope s_67) .none kV67 dc67 pm67 an67 cd67 ct67) | 70 => (PySem.W.fnOf "asked" "Desk.asked" (defArgs s_70) (defBody s_70) (defScope s_70) .none kV70 dc70 pm70 an70 cd70 ct70) | 71 => (PySem.W.fnOf "say" "Desk.say" (defArgs s_71) (defBody s_71) (defScope s_71) .none kV71 dc71 pm71 an71 cd71 ct71) | 74 => (PySem.W.fnOf "_law_classes" "_law_classes" (defArgs s_74) (defBody s_74) (defScope s_74) .none kV74 dc74 pm74 an74 cd74 ct74) | 75 => (PySem.W.fnOf "_law_only" "_law_only" (defArgs s_75) (defBody s_75) (defScope s_75) .none kV75 dc75 pm75 an75 cd75 ct75) | 77 => (PySem.W.fnOf "_law_said" "_law_said" (defArgs s_77) (defBody s_77) (defScope s_77) .none kV77 dc77 pm77 an77 cd77 ct77) | _ => (PySem.W.fnOf "law" "law" (defArgs s_78) (defBody s_78) (defScope s_78) .none kV78 dc78 pm78 an78 cd78 ct78)) (fun k => match k with | 16 => C16 | 13 => C13 | 5 => C5 | 3 => C3 | 8 => C8 | 6 => C6 | 4 => C4 | 1 => C1 | 10 => C10 | 7 => C7 | 12 => C12 | 2 => C2 | 11 => C11 | 0 => C0 | 9 => C9 | _ => fa) := ⟨F72, b72, PySem.W.mg_of X G a72, F63, b63, F73, b73, PySem.W.mg_of X G a73, F54, b54, PySem.W.mg_of X G a54, F10, b10, PySem.W.mg_of X G a10, F55, b55, PySem.W.mg_of X G a55, F56, b56, PySem.W.mg_of X G a56, F64, b64, ⟨a64, i64, k64⟩, F52, b52, PySem.W.mg_of X G a52, F53, b53, PySem.W.mg_of X G a53, F13, b13, PySem.W.mg_of X G a13, F11, b11, PySem.W.mg_of X G a11, F14, b14, PySem.W.mg_of X G a14, F15, b15, PySem.W.mg_of X G a15, F36, b36, PySem.W.mg_of X G a36, F62, b62, PySem.W.mg_of X G a62, F12, b12, PySem.W.mg_of X G a12, F37, b37, PySem.W.mg_of X G a37, F38, b38, PySem.W.mg_of X G a38, F39, b39, PySem.W.mg_of X G a39, F67, b67, ⟨a67, i67, k67⟩, F70, b70, ⟨a70, i70, k70⟩, F71, b71, ⟨a71, i71, k71⟩, F74, b74, PySem.W.mg_of X G a74, F75, b75, PySem.W.mg_of X G a75, F77, b77, PySem.W.mg_of X G a77, F78, b78, PySem.W.mg_of X G a78, ⟨pg16, hd16, po16, sa16⟩, PySem.W.mg_of X G aC16, ⟨mk16, a63, i63, kc16⟩, n_Desk_row, n_Desk_room, n_Desk_width, n_Desk_drives, PySem.W.mg_of X G aC13, PySem.W.mg_of X G aC5, PySem.W.mg_of X G aC3, PySem.W.mg_of X G aC8, PySem.W.mg_of X G aC6, PySem.W.mg_of X G aC4, PySem.W.mg_of X G aC1, PySem.W.mg_of X G aC10, PySem.W.mg_of X G aC7, PySem.W.mg_of X G aC12, PySem.W.mg_of X G aC2, PySem.W.mg_of X G aC11, PySem.W.mg_of X G aC0, PySem.W.mg_of X G aC9, ⟨xq9, xk9, xs9, xt9⟩, ⟨y1_9, y2_9, xs9, y3_9, y4_9, w1, w2, y5_9⟩, em_TooMany_PourError, ki_TooMany_Bare, ki_TooMany_NoDrive, ki_TooMany_NoDrives, ki_TooMany_NoLine, ki_TooMany_NoPhase, ki_TooMany_NoPlace, ki_TooMany_NoRoom, ki_TooMany_NoRow, ki_TooMany_NoShelf, ki_TooMany_NoTrace, ki_TooMany_NoWidth, ki_TooMany_NotRising, ki_TooMany_PourError, ki_TooMany_TooMany, kv_TooMany, PySem.W.mg_of X G al_pour_pours, ⟨_, PySem.W.mg_of X G c_FIGURES_texts⟩, ⟨_, PySem.W.mg_of X G c_LETTERS⟩, ⟨_, PySem.W.mg_of X G c_MOST_FIGURES⟩, ⟨_, PySem.W.mg_of X G c_MOST_ITEMS_desk⟩, ⟨_, PySem.W.mg_of X G c_MOST_ITEMS_items⟩, ⟨_, PySem.W.mg_of X G c_MOST_LETTERS⟩, ⟨_, PySem.W.mg_of X G c_MOST_RUNS⟩, PySem.W.mg_none_of X G z_ValueError, PySem.W.mg_none_of X G z_all, PySem.W.mg_none_of X G z_divmod, PySem.W.mg_none_of X G z_enumerate, PySem.W.mg_none_of X G z_int, PySem.W.mg_none_of X G z_isinstance, PySem.W.mg_none_of X G z_len, PySem.W.mg_none_of X G z_max, PySem.W.mg_none_of X G z_range, PySem.W.mg_none_of X G z_sorted, PySem.W.mg_none_of X G z_str⟩
  exact ⟨(PySem.W.fnOf "law" "law" (defArgs s_78) (defBody s_78) (defScope s_78) .none kV78 dc78 pm78 an78 cd78 ct78), fun s v => .of_eq rfl, fun base _ _ => ok_script (cls := (fun k => match k with | 16 => C16 | 13 => C13 | 5 => C5 | 3 => C3 | 8 => C8 | 6 => C6 | 4 => C4 | 1 => C1 | 10 => C10 | 7 => C7 | 12 => C12 | 2 => C2 | 11 => C11 | 0 => C0 | 9 => C9 | _ => fa)) (ok_78 (cls := (fun k => match k with | 16 => C16 | 13 => C13 | 5 => C5 | 3 => C3 | 8 => C8 | 6 => C6 | 4 => C4 | 1 => C1 | 10 => C10 | 7 => C7 | 12 => C12 | 2 => C2 | 11 => C11 | 0 => C0 | 9 => C9 | _ => fa)) T) fun ns hl _ => law_pure ns hl⟩
end K90
open PySem PySem.W PyProof.Rows
set_option maxHeartbeats 0 in
theorem PySem.Challenge.cw_pourwright_k90_desks_at_their_bounds_holds : PySem.Challenge.rw_pourwright_k90_desks_at_their_bounds.Holds := by
  w_on; o_law; k_head; (case hw => w_witness2)
  k_fill
  refine L2.walk_of (l := PySem.Challenge.rw_pourwright_k90_desks_at_their_bounds) (n := 63) (k := 9) (x := "script") (CX := fun w => L2N.CX PySem.Challenge.pw_pourwright_k90_desks_at_their_bounds w) (sp := fun w vs H Q _ => ∃ (a : Addr) (ns : List Int), vs = [.ref a] ∧ L2.SqL _ H a (ns.map L2.V.int) ∧ ns.length ≤ 63 ∧ True ∧ ∀ H', Q (.bl true) H') rfl (by decide) rfl ⟨rfl, by decide, by decide⟩ (fun w h Y => PySem.W.km_in_of Y) ?F (fun _ _ a ns hl _ hS => ⟨a, ns, rfl, hS, hl, trivial, fun _ => rfl⟩) (fun w H s e s' h => by obtain ⟨_, _, _, _, _, _, _, _, _, _, _, _, z⟩ := h; exact z.elim)
  case F =>
    intro w mg fa h KX G hmg
    refine' K90.all_mk (l := PySem.Challenge.rw_pourwright_k90_desks_at_their_bounds) KX G hmg ?aC13 ?aC5 ?aC3 ?aC8 ?aC6 ?aC4 ?aC1 ?aC10 ?aC7 ?aC12 ?aC2 ?aC11 ?aC0 ?aC9 ?xq9 ?xk9 ?xs9 ?xt9 ?y1_9 ?y2_9 ?y3_9 ?y4_9 ?y5_9 ?w1 ?w2 ?em_TooMany_PourError ?ki_TooMany_Bare ?ki_TooMany_NoDrive ?ki_TooMany_NoDrives ?ki_TooMany_NoLine ?ki_TooMany_NoPhase ?ki_TooMany_NoPlace ?ki_TooMany_NoRoom ?ki_TooMany_NoRow ?ki_TooMany_NoShelf ?ki_TooMany_NoTrace ?ki_TooMany_NoWidth ?ki_TooMany_NotRising ?ki_TooMany_PourError ?ki_TooMany_TooMany ?kv_TooMany ?aC16 ?pg16 ?hd16 ?po16 ?sa16 ?mk16 ?kc16 ?a72 ?l72 ?c72 ?k72 ?a63 ?i63 ?l63 ?c63 ?k63 ?a73 ?l73 ?c73 ?k73 ?a54 ?l54 ?c54 ?k54 ?a10 ?l10 ?c10 ?k10 ?a55 ?l55 ?c55 ?k55 ?a56 ?l56 ?c56 ?k56 ?a64 ?i64 ?l64 ?c64 ?k64 ?a52 ?l52 ?c52 ?k52 ?a53 ?l53 ?c53 ?k53 ?a13 ?l13 ?c13 ?k13 ?a11 ?l11 ?c11 ?k11 ?a14 ?l14 ?c14 ?k14 ?a15 ?l15 ?c15 ?k15 ?a36 ?l36 ?c36 ?k36 ?a62 ?l62 ?c62 ?k62 ?a12 ?l12 ?c12 ?k12 ?a37 ?l37 ?c37 ?k37 ?a38 ?l38 ?c38 ?k38 ?a39 ?l39 ?c39 ?k39 ?a67 ?i67 ?l67 ?c67 ?k67 ?a70 ?i70 ?l70 ?c70 ?k70 ?a71 ?i71 ?l71 ?c71 ?k71 ?a74 ?l74 ?c74 ?k74 ?a75 ?l75 ?c75 ?k75 ?a77 ?l77 ?c77 ?k77 ?a78 ?l78 ?c78 ?k78 ?n_Desk_row ?n_Desk_room ?n_Desk_width ?n_Desk_drives ?al_pour_pours ?c_FIGURES_texts ?c_LETTERS ?c_MOST_FIGURES ?c_MOST_ITEMS_desk ?c_MOST_ITEMS_items ?c_MOST_LETTERS ?c_MOST_RUNS ?z_ValueError ?z_all ?z_divmod ?z_enumerate ?z_int ?z_isinstance ?z_len ?z_max ?z_range ?z_sorted ?z_str
    (case aC13 => k_is)
    (case aC5 => k_is)
    (case aC3 => k_is)
    (case aC8 => k_is)
    (case aC6 => k_is)
    (case aC4 => k_is)
    (case aC1 => k_is)
    (case aC10 => k_is)
    (case aC7 => k_is)
    (case aC12 => k_is)
    (case aC2 => k_is)
    (case aC11 => k_is)
    (case aC0 => k_is)
    (case aC9 => k_is)
    (case xq9 => k_exc)
    (case xk9 => k_is)
    (case xs9 => k_is)
    (case xt9 => k_is)
    (case y1_9 => k_is)
    (case y2_9 => k_is)
    (case y3_9 => k_is)
    (case y4_9 => k_is)
    (case y5_9 => k_is)
    (case w1 => k_is)
    (case w2 => k_is)
    (case em_TooMany_PourError => exact K90.k_exm (by k_is) (by k_is) (by k_is) (by k_is))
    (case ki_TooMany_Bare => first | exact K90.k_kit0 | exact K90.k_kitC (by decide) (by k_is) (by k_is) (by k_is))
    (case ki_TooMany_NoDrive => first | exact K90.k_kit0 | exact K90.k_kitC (by decide) (by k_is) (by k_is) (by k_is))
    (case ki_TooMany_NoDrives => first | exact K90.k_kit0 | exact K90.k_kitC (by decide) (by k_is) (by k_is) (by k_is))
    (case ki_TooMany_NoLine => first | exact K90.k_kit0 | exact K90.k_kitC (by decide) (by k_is) (by k_is) (by k_is))
    (case ki_TooMany_NoPhase => first | exact K90.k_kit0 | exact K90.k_kitC (by decide) (by k_is) (by k_is) (by k_is))
    (case ki_TooMany_NoPlace => first | exact K90.k_kit0 | exact K90.k_kitC (by decide) (by k_is) (by k_is) (by k_is))
    (case ki_TooMany_NoRoom => first | exact K90.k_kit0 | exact K90.k_kitC (by decide) (by k_is) (by k_is) (by k_is))
    (case ki_TooMany_NoRow => first | exact K90.k_kit0 | exact K90.k_kitC (by decide) (by k_is) (by k_is) (by k_is))
    (case ki_TooMany_NoShelf => first | exact K90.k_kit0 | exact K90.k_kitC (by decide) (by k_is) (by k_is) (by k_is))
    (case ki_TooMany_NoTrace => first | exact K90.k_kit0 | exact K90.k_kitC (by decide) (by k_is) (by k_is) (by k_is))
    (case ki_TooMany_NoWidth => first | exact K90.k_kit0 | exact K90.k_kitC (by decide) (by k_is) (by k_is) (by k_is))
    (case ki_TooMany_NotRising => first | exact K90.k_kit0 | exact K90.k_kitC (by decide) (by k_is) (by k_is) (by k_is))
    (case ki_TooMany_PourError => first | exact K90.k_kit0 | exact K90.k_kitC (by decide) (by k_is) (by k_is) (by k_is))
    (case ki_TooMany_TooMany => first | exact K90.k_kit0 | exact K90.k_kitC (by decide) (by k_is) (by k_is) (by k_is))
    (case kv_TooMany => exact K90.k_kitV (by k_is))
    (case aC16 => k_is)
    (case pg16 => k_is)
    (case hd16 => k_is)
    (case po16 => k_is)
    (case sa16 => k_is)
    (case mk16 => k_is)
    (case kc16 => k_is)
    (case a72 => k_is)
    (case l72 => k_is)
    (case c72 => k_is)
    (case k72 => k_is)
    (case a63 => k_is)
    (case i63 => k_is)
    (case l63 => k_is)
    (case c63 => k_is)
    (case k63 => k_is)
    (case a73 => k_is)
    (case l73 => k_is)
    (case c73 => k_is)
    (case k73 => k_is)
    (case a54 => k_is)
    (case l54 => k_is)
    (case c54 => k_is)
    (case k54 => k_is)
    (case a10 => k_is)
    (case l10 => k_is)
    (case c10 => k_is)
    (case k10 => k_is)
    (case a55 => k_is)
    (case l55 => k_is)
    (case c55 => k_is)
    (case k55 => k_is)
    (case a56 => k_is)
    (case l56 => k_is)
    (case c56 => k_is)
    (case k56 => k_is)
    (case a64 => k_is)
    (case i64 => k_is)
    (case l64 => k_is)
    (case c64 => k_is)
    (case k64 => k_is)
    (case a52 => k_is)
    (case l52 => k_is)
    (case c52 => k_is)
    (case k52 => k_is)
    (case a53 => k_is)
    (case l53 => k_is)
    (case c53 => k_is)
    (case k53 => k_is)
    (case a13 => k_is)
    (case l13 => k_is)
    (case c13 => k_is)
    (case k13 => k_is)
    (case a11 => k_is)
    (case l11 => k_is)
    (case c11 => k_is)
    (case k11 => k_is)
    (case a14 => k_is)
    (case l14 => k_is)
    (case c14 => k_is)
    (case k14 => k_is)
    (case a15 => k_is)
    (case l15 => k_is)
    (case c15 => k_is)
    (case k15 => k_is)
    (case a36 => k_is)
    (case l36 => k_is)
    (case c36 => k_is)
    (case k36 => k_is)
    (case a62 => k_is)
    (case l62 => k_is)
    (case c62 => k_is)
    (case k62 => k_is)
    (case a12 => k_is)
    (case l12 => k_is)
    (case c12 => k_is)
    (case k12 => k_is)
    (case a37 => k_is)
    (case l37 => k_is)
    (case c37 => k_is)
    (case k37 => k_is)
    (case a38 => k_is)
    (case l38 => k_is)
    (case c38 => k_is)
    (case k38 => k_is)
    (case a39 => k_is)
    (case l39 => k_is)
    (case c39 => k_is)
    (case k39 => k_is)
    (case a67 => k_is)
    (case i67 => k_is)
    (case l67 => k_is)
    (case c67 => k_is)
    (case k67 => k_is)
    (case a70 => k_is)
    (case i70 => k_is)
    (case l70 => k_is)
    (case c70 => k_is)
    (case k70 => k_is)
    (case a71 => k_is)
    (case i71 => k_is)
    (case l71 => k_is)
    (case c71 => k_is)
    (case k71 => k_is)
    (case a74 => k_is)
    (case l74 => k_is)
    (case c74 => k_is)
    (case k74 => k_is)
    (case a75 => k_is)
    (case l75 => k_is)
    (case c75 => k_is)
    (case k75 => k_is)
    (case a77 => k_is)
    (case l77 => k_is)
    (case c77 => k_is)
    (case k77 => k_is)
    (case a78 => k_is)
    (case l78 => k_is)
    (case c78 => k_is)
    (case k78 => k_is)
    (case n_Desk_row => k_is)
    (case n_Desk_room => k_is)
    (case n_Desk_width => k_is)
    (case n_Desk_drives => k_is)
    (case al_pour_pours => k_is)
    (case c_FIGURES_texts => k_is)
    (case c_LETTERS => k_is)
    (case c_MOST_FIGURES => k_is)
    (case c_MOST_ITEMS_desk => k_is)
    (case c_MOST_ITEMS_items => k_is)
    (case c_MOST_LETTERS => k_is)
    (case c_MOST_RUNS => k_is)
    (case z_ValueError => k_is)
    (case z_all => k_is)
    (case z_divmod => k_is)
    (case z_enumerate => k_is)
    (case z_int => k_is)
    (case z_isinstance => k_is)
    (case z_len => k_is)
    (case z_max => k_is)
    (case z_range => k_is)
    (case z_sorted => k_is)
    (case z_str => k_is)
end
