import PyProof.Rows.All
import Wide.All
import OpenK.AllK
import Wide.FinOn
import HandS.ForMost
import HandS.ForExc
import HandS.Walk
import HandS.Star
import HandS.IsInst
import HandS.HeadHook2
import HandS.TupAny
import HandS.Codes
import HandS.Deep
import HandS.Style
import HandS.Conv
import PyProof.AutoSeq1
import HandS.SortKw
import KE.GoesEnum
import KE.DatumOrd
import KE.KStateDown
import Lean
import HandS.Head0
import HandS.Head1
import HandS.Head2
import HandS.HeadEnd
import HandS.HeadHook1
import PySem.Challenge.RW_pathmarks_k06_trees_with_shared_parts
set_option Elab.async false
set_option linter.all false
set_option autoImplicit false
set_option maxRecDepth 100000
set_option maxHeartbeats 0
/-! Plain data D in the place of values and heap. -/
namespace Qd
open PySem PySem.Spec PyProof.Rows L2

inductive D where
  | non | bl (b : Bool) | int (i : Int) | str (x : Str) | ty (n : String)
  | tup (xs : List D) | lst (xs : List D)
  | obj (c : Str) (fs : List (Str × D))
  | dct (kvs : List (D × D)) | exo (c : Str) (fs : List (Str × D))
  | loc (n : Nat) | cls (c : Str) | scr (ns : List Int)

/-- the world: what never changes any more, where the mutable objects stand -/
structure Wd where
  fz : Addr → Prop
  ro : Nat → Addr
  nx : Nat
  me : Addr
/-- the mutable objects -/
structure S where
  m : Nat → Option D
  nx : Nat

def LsAt (K : PySem.W.Frag) (w : Wd) (H : Hp) (a : Addr) (xs : List V) : Prop := (w.fz a ∧ Rd H a (.lst xs)) ∨ SqL K (fun _ => none) a xs
def TpAt (K : PySem.W.Frag) (w : Wd) (H : Hp) (a : Addr) (xs : List V) : Prop := (w.fz a ∧ Rd H a (.tup xs)) ∨ SqT K (fun _ => none) a xs
/-- read now: frozen, written, or nobody's mutable object -/
def LsR (w : Wd) (H : Hp) (a : Addr) (xs : List V) : Prop := (w.fz a ∨ ∀ n, n < w.nx → a ≠ w.ro n) ∧ H a = some (.lst xs)

theorem sql_none {K : PySem.W.Frag} {H : Hp} {a : Addr} {xs : List V} (h : SqL K (fun _ => none) a xs) : SqL K H a xs := by
  rcases h with (h | ⟨o, h⟩) | h
  · cases h
  · cases h
  · exact .inr h
theorem sqt_none {K : PySem.W.Frag} {H : Hp} {a : Addr} {xs : List V} (h : SqT K (fun _ => none) a xs) : SqT K H a xs := by
  rcases h with (h | ⟨o, h⟩) | h
  · cases h
  · cases h
  · exact .inr h
section
variable {K : PySem.W.Frag} {w : Wd} {H : Hp} {a : Addr} {xs : List V}
theorem LsAt.sq (h : LsAt K w H a xs) : SqL K H a xs := by
  rcases h with ⟨_, h⟩ | h
  · exact .inl h
  · exact sql_none h
theorem TpAt.sq (h : TpAt K w H a xs) : SqT K H a xs := by
  rcases h with ⟨_, h⟩ | h
  · exact .inl h
  · exact sqt_none h
end

/-- what is known of a class of the program's own -/
structure ClsI (K : PySem.W.Frag) (C : Addr) : Prop where
  cl : Cls K C
  ha : PySem.W.findIn K (.ref C) "__class__" = some (some (.builtin "object.__class__"))
  hn : PySem.W.specialIn K (.builtin "object.__class__") "__get__" = some (some (.builtin "getset_descriptor.__get__"))
  htk : PySem.W.takesIn K (.builtin "object.__class__") = some true
  hm : PySem.W.mroIn K C (.type "object") = some true

mutual
def Is (K : PySem.W.Frag) (w : Wd) (H : Hp) : D → V → Prop
  | .non, v => v = .non
  | .bl b, v => v = .bl b
  | .int i, v => v = .int i
  | .str x, v => v = .str x
  | .ty n, v => v = .ty n
  | .tup ds, v => ∃ a xs, v = .ref a ∧ TpAt K w H a xs ∧ IsL K w H ds xs
  | .lst ds, v => ∃ a xs, v = .ref a ∧ w.fz a ∧ H a = some (.lst xs) ∧ IsL K w H ds xs
  | .obj c fs, v => ∃ a dx as, v = .ref a ∧ w.fz a ∧ H a = some (.ins (He.ga K c) dx as) ∧ ClsI K (He.ga K c) ∧ (∀ f u, as.lookup f = some u → NoAttr K (He.ga K c) f) ∧ IsF K w H fs as
  | .dct _, _ => False
  | .exo _ _, _ => False
  | .loc n, v => n < w.nx ∧ v = .ref (w.ro n)
  | .cls c, v => v = .ref (He.ga K c)
  | .scr ns, v => ∃ a, v = .ref a ∧ LsAt K w H a (ns.map V.int)
def IsL (K : PySem.W.Frag) (w : Wd) (H : Hp) : List D → List V → Prop
  | [], xs => xs = []
  | d :: ds, xs => ∃ v r, xs = v :: r ∧ Is K w H d v ∧ IsL K w H ds r
def IsF (K : PySem.W.Frag) (w : Wd) (H : Hp) : List (Str × D) → List (Str × V) → Prop
  | [], _ => True
  | (f, d) :: r, as => (∃ v, as.lookup f = some v ∧ Is K w H d v) ∧ IsF K w H r as
end

/-- read now -/
def IsR (K : PySem.W.Frag) (w : Wd) (H : Hp) : D → V → Prop
  | .lst ds, v => ∃ a xs, v = .ref a ∧ LsR w H a xs ∧ IsL K w H ds xs
  | d, v => Is K w H d v

def Grow (K : PySem.W.Frag) (o o' : HO) : Prop := o' = o ∨ ∃ C dx fs fs', o = .ins C dx fs ∧ o' = .ins C dx fs' ∧ (∀ f v, fs.lookup f = some v → fs'.lookup f = some v) ∧ ∀ f v, fs'.lookup f = some v → fs.lookup f = some v ∨ NoAttr K C f
theorem Grow.refl {K : PySem.W.Frag} (o : HO) : Grow K o o := .inl rfl
theorem Grow.trans {K : PySem.W.Frag} {o o1 o2 : HO} (a : Grow K o o1) (b : Grow K o1 o2) : Grow K o o2 := by
  rcases a with rfl | ⟨C, dx, fs, fs', rfl, rfl, h, n⟩
  · exact b
  · rcases b with rfl | ⟨C2, dx2, gs, gs', e, rfl, h2, n2⟩
    · exact .inr ⟨C, dx, fs, fs', rfl, rfl, h, n⟩
    · cases e
      exact .inr ⟨C, dx, fs, gs', rfl, rfl, fun f v q => h2 f v (h f v q), fun f v q => (n2 f v q).elim (fun z => n f v z) .inr⟩

/-- what is frozen stays -/
structure Up0 (K : PySem.W.Frag) (w : Wd) (H : Hp) (w' : Wd) (H' : Hp) : Prop where
  nx : w.nx ≤ w'.nx
  ro : ∀ n, n < w.nx → w'.ro n = w.ro n
  fz : ∀ a, w.fz a → w'.fz a
  hp : ∀ a o, w.fz a → H a = some o → ∃ o', H' a = some o' ∧ Grow K o o'
/-- .. in the same body -/
structure Up (K : PySem.W.Frag) (w : Wd) (H : Hp) (w' : Wd) (H' : Hp) : Prop where
  me : w'.me = w.me
  nx : w.nx ≤ w'.nx
  ro : ∀ n, n < w.nx → w'.ro n = w.ro n
  fz : ∀ a, w.fz a → w'.fz a
  hp : ∀ a o, w.fz a → H a = some o → ∃ o', H' a = some o' ∧ Grow K o o'
theorem Up.z {K : PySem.W.Frag} {w w' : Wd} {H H' : Hp} (u : Up K w H w' H') : Up0 K w H w' H' := ⟨u.nx, u.ro, u.fz, u.hp⟩
theorem Up.refl {K : PySem.W.Frag} (w : Wd) (H : Hp) : Up K w H w H := ⟨rfl, Nat.le_refl _, fun _ _ => rfl, fun _ h => h, fun _ o _ e => ⟨o, e, Grow.refl o⟩⟩
theorem Up.trans {K : PySem.W.Frag} {w w1 w2 : Wd} {H H1 H2 : Hp} (a : Up K w H w1 H1) (b : Up K w1 H1 w2 H2) : Up K w H w2 H2 where
  me := b.me.trans a.me
  nx := Nat.le_trans a.nx b.nx
  ro := fun n h => (b.ro n (Nat.lt_of_lt_of_le h a.nx)).trans (a.ro n h)
  fz := fun x h => b.fz x (a.fz x h)
  hp := fun x o f e => by
    obtain ⟨o1, e1, g1⟩ := a.hp x o f e
    obtain ⟨o2, e2, g2⟩ := b.hp x o1 (a.fz x f) e1
    exact ⟨o2, e2, g1.trans g2⟩

/-- an expression, a call: nothing that stood changes but the mutable objects -/
structure Le (w : Wd) (H : Hp) (w' : Wd) (H' : Hp) : Prop where
  me : w'.me = w.me
  nx : w.nx ≤ w'.nx
  ro : ∀ n, n < w.nx → w'.ro n = w.ro n
  rn : ∀ n, w.nx ≤ n → n < w'.nx → H (w'.ro n) = none
  fz : ∀ a, w.fz a → w'.fz a
  fn : ∀ a, w'.fz a → w.fz a ∨ H a = none ∨ ∃ n, n < w.nx ∧ a = w.ro n
  hp : ∀ a o, H a = some o → (¬ w.fz a ∧ ∃ n, n < w.nx ∧ a = w.ro n) ∨ H' a = some o
  dm : ∀ a, H' a = none → H a = none
theorem Le.refl (w : Wd) (H : Hp) : Le w H w H := ⟨rfl, Nat.le_refl _, fun _ _ => rfl, fun n a b => absurd b (Nat.not_lt.mpr a), fun _ h => h, fun _ h => .inl h, fun _ _ e => .inr e, fun _ e => e⟩
theorem Le.up {K : PySem.W.Frag} {w w' : Wd} {H H' : Hp} (l : Le w H w' H') : Up K w H w' H' := ⟨l.me, l.nx, l.ro, l.fz, fun a o f e => by
  rcases l.hp a o e with ⟨n, _⟩ | q
  · exact absurd f n
  · exact ⟨o, q, Grow.refl o⟩⟩
theorem Le.trans {w w1 w2 : Wd} {H H1 H2 : Hp} (a : Le w H w1 H1) (b : Le w1 H1 w2 H2) : Le w H w2 H2 where
  me := b.me.trans a.me
  nx := Nat.le_trans a.nx b.nx
  ro := fun n h => (b.ro n (Nat.lt_of_lt_of_le h a.nx)).trans (a.ro n h)
  rn := fun n h1 h2 => by
    by_cases h : n < w1.nx
    · rw [b.ro n h]; exact a.rn n h1 h
    · exact a.dm _ (b.rn n (Nat.not_lt.mp h) h2)
  fz := fun x h => b.fz x (a.fz x h)
  fn := fun x h => by
    rcases b.fn x h with q | q | ⟨n, q, e⟩
    · exact a.fn x q
    · exact .inr (.inl (a.dm x q))
    · by_cases h1 : n < w.nx
      · exact .inr (.inr ⟨n, h1, e.trans (a.ro n h1)⟩)
      · subst e
        exact .inr (.inl (a.rn n (Nat.not_lt.mp h1) q))
  hp := fun x o e => by
    rcases a.hp x o e with q | q
    · exact .inl q
    · rcases b.hp x o q with ⟨nf, n, h, en⟩ | q2
      · by_cases h1 : n < w.nx
        · exact .inl ⟨fun f => nf (a.fz x f), n, h1, en.trans (a.ro n h1)⟩
        · have z := a.rn n (Nat.not_lt.mp h1) h
          rw [← en, e] at z
          cases z
      · exact .inr q2
  dm := fun x e => a.dm x (b.dm x e)

/-! ### what is so stays so -/
section
variable {K : PySem.W.Frag} {w w' : Wd} {H H' : Hp}
theorem Rd.upL {a : Addr} {xs : List V} (u : Up0 K w H w' H') (f : w.fz a) (h : Rd H a (.lst xs)) : Rd H' a (.lst xs) := by
  rcases h with h | ⟨o, h⟩
  · obtain ⟨o', e, g⟩ := u.hp a _ f h
    rcases g with rfl | ⟨_, _, _, _, z, _⟩
    · exact .inl e
    · cases z
  · obtain ⟨o', e, g⟩ := u.hp a _ f h
    rcases g with rfl | ⟨_, _, _, _, z, _⟩
    · exact .inr ⟨o, e⟩
    · cases z
theorem Rd.upT {a : Addr} {xs : List V} (u : Up0 K w H w' H') (f : w.fz a) (h : Rd H a (.tup xs)) : Rd H' a (.tup xs) := by
  rcases h with h | ⟨o, h⟩
  · obtain ⟨o', e, g⟩ := u.hp a _ f h
    rcases g with rfl | ⟨_, _, _, _, z, _⟩
    · exact .inl e
    · cases z
  · obtain ⟨o', e, g⟩ := u.hp a _ f h
    rcases g with rfl | ⟨_, _, _, _, z, _⟩
    · exact .inr ⟨o, e⟩
    · cases z
theorem LsAt.up0 {a : Addr} {xs : List V} (u : Up0 K w H w' H') (h : LsAt K w H a xs) : LsAt K w' H' a xs := by
  rcases h with ⟨f, h⟩ | h
  · exact .inl ⟨u.fz a f, Rd.upL u f h⟩
  · exact .inr h
theorem TpAt.up0 {a : Addr} {xs : List V} (u : Up0 K w H w' H') (h : TpAt K w H a xs) : TpAt K w' H' a xs := by
  rcases h with ⟨f, h⟩ | h
  · exact .inl ⟨u.fz a f, Rd.upT u f h⟩
  · exact .inr h
mutual
theorem Is.up0 (u : Up0 K w H w' H') : ∀ (d : D) (v : V), Is K w H d v → Is K w' H' d v
  | .non, _, h => by simp only [Is] at h ⊢; exact h
  | .bl _, _, h => by simp only [Is] at h ⊢; exact h
  | .int _, _, h => by simp only [Is] at h ⊢; exact h
  | .str _, _, h => by simp only [Is] at h ⊢; exact h
  | .ty _, _, h => by simp only [Is] at h ⊢; exact h
  | .tup ds, v, h => by
    simp only [Is] at h ⊢
    obtain ⟨a, xs, e, q, r⟩ := h
    exact ⟨a, xs, e, q.up0 u, IsL.up0 u ds xs r⟩
  | .lst ds, v, h => by
    simp only [Is] at h ⊢
    obtain ⟨a, xs, e, f, q, r⟩ := h
    obtain ⟨o', e', g⟩ := u.hp a _ f q
    rcases g with rfl | ⟨_, _, _, _, z, _⟩
    · exact ⟨a, xs, e, u.fz a f, e', IsL.up0 u ds xs r⟩
    · cases z
  | .obj c fs, v, h => by
    simp only [Is] at h ⊢
    obtain ⟨a, dx, as, e, f, q, ci, na, r⟩ := h
    obtain ⟨o', e', g⟩ := u.hp a _ f q
    rcases g with rfl | ⟨C, dx2, gs, gs', z, rfl, hl, hn⟩
    · exact ⟨a, dx, as, e, u.fz a f, e', ci, na, IsF.up0 u fs as as (fun _ _ q => q) r⟩
    · cases z
      exact ⟨a, dx, gs', e, u.fz a f, e', ci, fun f v q => (hn f v q).elim (fun z => na f v z) id, IsF.up0 u fs as gs' hl r⟩
  | .dct _, _, h => by simp only [Is] at h
  | .exo _ _, _, h => by simp only [Is] at h
  | .loc n, v, h => by
    simp only [Is] at h ⊢
    exact ⟨Nat.lt_of_lt_of_le h.1 u.nx, by rw [u.ro n h.1]; exact h.2⟩
  | .cls _, _, h => by simp only [Is] at h ⊢; exact h
  | .scr ns, _, h => by
    simp only [Is] at h ⊢
    obtain ⟨a, e, q⟩ := h
    exact ⟨a, e, q.up0 u⟩
theorem IsL.up0 (u : Up0 K w H w' H') : ∀ (ds : List D) (xs : List V), IsL K w H ds xs → IsL K w' H' ds xs
  | [], _, h => by simp only [IsL] at h ⊢; exact h
  | d :: ds, xs, h => by
    simp only [IsL] at h ⊢
    obtain ⟨v, r, e, h1, h2⟩ := h
    exact ⟨v, r, e, Is.up0 u d v h1, IsL.up0 u ds r h2⟩
theorem IsF.up0 (u : Up0 K w H w' H') : ∀ (fs : List (Str × D)) (as bs : List (Str × V)), (∀ f v, as.lookup f = some v → bs.lookup f = some v) → IsF K w H fs as → IsF K w' H' fs bs
  | [], _, _, _, _ => by simp only [IsF]
  | (f, d) :: r, as, bs, hl, h => by
    simp only [IsF] at h ⊢
    obtain ⟨⟨v, e, h1⟩, h2⟩ := h
    exact ⟨⟨v, hl f v e, Is.up0 u d v h1⟩, IsF.up0 u r as bs hl h2⟩
end
theorem LsAt.up {a : Addr} {xs : List V} (u : Up K w H w' H') (h : LsAt K w H a xs) : LsAt K w' H' a xs := h.up0 u.z
theorem TpAt.up {a : Addr} {xs : List V} (u : Up K w H w' H') (h : TpAt K w H a xs) : TpAt K w' H' a xs := h.up0 u.z
theorem Is.up (u : Up K w H w' H') (d : D) (v : V) (h : Is K w H d v) : Is K w' H' d v := Is.up0 u.z d v h
theorem IsL.up (u : Up K w H w' H') (ds : List D) (xs : List V) (h : IsL K w H ds xs) : IsL K w' H' ds xs := IsL.up0 u.z ds xs h
theorem IsF.up (u : Up K w H w' H') (fs : List (Str × D)) (as bs : List (Str × V)) (hl : ∀ f v, as.lookup f = some v → bs.lookup f = some v) (h : IsF K w H fs as) : IsF K w' H' fs bs := IsF.up0 u.z fs as bs hl h
theorem IsR.of (d : D) (v : V) (h : Is K w H d v) : IsR K w H d v := by
  cases d with
  | lst ds =>
    simp only [Is] at h
    obtain ⟨a, xs, e, f, q, r⟩ := h
    exact ⟨a, xs, e, ⟨.inl f, q⟩, r⟩
  | _ => exact h
theorem LsR.le {a : Addr} {xs : List V} (l : Le w H w' H') (h : LsR w H a xs) : LsR w' H' a xs := by
  obtain ⟨f, e⟩ := h
  rcases l.hp a _ e with ⟨nf, n, hn, en⟩ | q
  · rcases f with f | f
    · exact absurd f nf
    · exact absurd en (f n hn)
  · refine ⟨?_, q⟩
    rcases f with f | f
    · exact .inl (l.fz a f)
    · refine .inr fun n hn en => ?_
      by_cases h1 : n < w.nx
      · exact f n h1 (en.trans (l.ro n h1))
      · have z := l.rn n (Nat.not_lt.mp h1) hn
        rw [← en, e] at z
        cases z
theorem IsR.le (l : Le w H w' H') (d : D) (v : V) (h : IsR K w H d v) : IsR K w' H' d v := by
  cases d with
  | lst ds =>
    obtain ⟨a, xs, e, q, r⟩ := h
    exact ⟨a, xs, e, q.le l, IsL.up l.up ds xs r⟩
  | non => exact Is.up l.up _ _ h
  | bl b => exact Is.up l.up _ _ h
  | int i => exact Is.up l.up _ _ h
  | str i => exact Is.up l.up _ _ h
  | ty i => exact Is.up l.up _ _ h
  | tup i => exact Is.up l.up _ _ h
  | obj c i => exact Is.up l.up _ _ h
  | dct i => exact Is.up l.up _ _ h
  | exo c i => exact Is.up l.up _ _ h
  | loc i => exact Is.up l.up _ _ h
  | cls i => exact Is.up l.up _ _ h
  | scr i => exact Is.up l.up _ _ h
end

/-! ### the store, the slots -/
def Cont (K : PySem.W.Frag) (w : Wd) (H : Hp) (a : Addr) : D → Prop
  | .lst ds => ∃ xs, H a = some (.lst xs) ∧ IsL K w H ds xs
  | _ => False
structure StOk (K : PySem.W.Frag) (w : Wd) (s : S) (H : Hp) : Prop where
  nx : s.nx = w.nx
  inj : ∀ n m, n < w.nx → m < w.nx → w.ro n = w.ro m → n = m
  live : ∀ n d, s.m n = some d → n < w.nx ∧ ¬ w.fz (w.ro n) ∧ Cont K w H (w.ro n) d
  df : ∀ a, w.fz a → H a ≠ none
  dl : ∀ n, n < w.nx → H (w.ro n) ≠ none
inductive Sl where
  | un | val (d : D) | own (d : D)
def OwnAt (K : PySem.W.Frag) (w : Wd) (H : Hp) (a : Addr) : D → Prop
  | .obj c fs => w.fz a ∧ (∀ n, n < w.nx → a ≠ w.ro n) ∧ a = w.me ∧ ∃ dx as, H a = some (.ins (He.ga K c) dx as) ∧ ClsI K (He.ga K c) ∧ (∀ f u, as.lookup f = some u → NoAttr K (He.ga K c) f) ∧ IsF K w H fs as ∧ as.map (·.1) = fs.map (·.1)
  | d => ¬ w.fz a ∧ (∀ n, n < w.nx → a ≠ w.ro n) ∧ Cont K w H a d
structure EnvOk (K : PySem.W.Frag) (w : Wd) (H : Hp) (G : List Sl) (σ : L2.St) : Prop where
  val : ∀ (i : Nat) (d : D), G[i]? = some (.val d) → ∃ v, σ[i]? = some (some v) ∧ Is K w H d v
  own : ∀ (i : Nat) (d : D), G[i]? = some (.own d) → ∃ a, σ[i]? = some (some (.ref a)) ∧ OwnAt K w H a d
  sep : ∀ (i j : Nat) (d e : D) (a : Addr), G[i]? = some (.own d) → G[j]? = some (.own e) → σ[i]? = some (some (.ref a)) → σ[j]? = some (some (.ref a)) → i = j
  len : G.length = σ.length
/-- one's own objects were made behind the entry -/
def Fresh (H0 : Hp) (G : List Sl) (σ : L2.St) : Prop := ∀ (i : Nat) (d : D) (a : Addr), G[i]? = some (.own d) → σ[i]? = some (some (.ref a)) → H0 a = none
section
variable {K : PySem.W.Frag} {w w' : Wd} {H H' : Hp} {G : List Sl} {σ : L2.St}
theorem cont_some {a : Addr} {d : D} (h : Cont K w H a d) : ∃ o, H a = some o := by
  cases d <;> first | (obtain ⟨xs, e, _⟩ := h; exact ⟨_, e⟩) | exact absurd h id
theorem notloc_le {a : Addr} {o : HO} (l : Le w H w' H') (e : H a = some o) (f : ∀ n, n < w.nx → a ≠ w.ro n) : ∀ n, n < w'.nx → a ≠ w'.ro n := fun n hn en => by
  by_cases h1 : n < w.nx
  · exact f n h1 (en.trans (l.ro n h1))
  · have z := l.rn n (Nat.not_lt.mp h1) hn
    rw [← en, e] at z
    cases z
theorem kept_le {a : Addr} {o : HO} (l : Le w H w' H') (e : H a = some o) (f : ∀ n, n < w.nx → a ≠ w.ro n) : H' a = some o := by
  rcases l.hp a o e with ⟨_, n, hn, en⟩ | q
  · exact absurd en (f n hn)
  · exact q
theorem nofz_le {a : Addr} {o : HO} (l : Le w H w' H') (e : H a = some o) (f : ∀ n, n < w.nx → a ≠ w.ro n) (nf : ¬ w.fz a) : ¬ w'.fz a := fun q => by
  rcases l.fn a q with q | q | ⟨n, hn, en⟩
  · exact nf q
  · rw [e] at q; cases q
  · exact f n hn en
theorem Cont.le {a : Addr} {d : D} (l : Le w H w' H') (f : ∀ n, n < w.nx → a ≠ w.ro n) (h : Cont K w H a d) : Cont K w' H' a d := by
  cases d with
  | lst ds =>
    obtain ⟨xs, e, r⟩ := h
    exact ⟨xs, kept_le l e f, IsL.up l.up ds xs r⟩
  | _ => exact absurd h id
theorem OwnAt.le {a : Addr} {d : D} (l : Le w H w' H') (h : OwnAt K w H a d) : OwnAt K w' H' a d := by
  cases d with
  | obj c fs =>
    obtain ⟨f, nl, hm, dx, as, e, ci, na, r, q⟩ := h
    exact ⟨l.fz a f, notloc_le l e nl, hm.trans l.me.symm, dx, as, kept_le l e nl, ci, na, IsF.up l.up fs as as (fun _ _ q => q) r, q⟩
  | lst ds =>
    obtain ⟨f, nl, c⟩ := h
    obtain ⟨o, e⟩ := cont_some c
    exact ⟨nofz_le l e nl f, notloc_le l e nl, c.le l nl⟩
  | _ =>
    obtain ⟨_, _, c⟩ := h
    exact absurd c id
theorem EnvOk.le (l : Le w H w' H') (h : EnvOk K w H G σ) : EnvOk K w' H' G σ where
  val := fun i d e => by
    obtain ⟨v, e1, q⟩ := h.val i d e
    exact ⟨v, e1, Is.up l.up d v q⟩
  own := fun i d e => by
    obtain ⟨a, e1, q⟩ := h.own i d e
    exact ⟨a, e1, q.le l⟩
  sep := h.sep
  len := h.len
end
end Qd
namespace Qd
open PySem PySem.Spec PyProof.Rows L2

inductive Out (α : Type) where
  | ok (a : α) (s : S) | exc (c : Str) (fs : List (Str × D)) (s : S) | fail
def Out.bind {α β : Type} (o : Out α) (k : α → S → Out β) : Out β := match o with
  | .ok a s => k a s
  | .exc c f s => .exc c f s
  | .fail => .fail
def Post {α : Type} (o : Out α) (q : α → S → Prop) (e : Str → List (Str × D) → S → Prop) : Prop := match o with
  | .ok a s => q a s
  | .exc c f s => e c f s
  | .fail => False
theorem Post.bind {α β : Type} {o : Out α} {k : α → S → Out β} {q : β → S → Prop} {e : Str → List (Str × D) → S → Prop} (h : Post (o.bind k) q e) : Post o (fun a s => Post (k a s) q e) e := by
  cases o <;> exact h
theorem Post.imp {α : Type} {o : Out α} {q q' : α → S → Prop} {e e' : Str → List (Str × D) → S → Prop} (h : Post o q e) (hq : ∀ a s, q a s → q' a s) (he : ∀ c f s, e c f s → e' c f s) : Post o q' e' := by
  cases o with
  | ok a s => exact hq a s h
  | exc c f s => exact he c f s h
  | fail => exact h
abbrev M (α : Type) := List Sl → S → Out α

/-- the exception's own dict -/
def ExAt (K : PySem.W.Frag) (w : Wd) (H : Hp) (da : Addr) (fs : List (Str × D)) : Prop := ∃ as, H da = some (.xd as) ∧ IsF K w H fs as
def Rais (K : PySem.W.Frag) (w : Wd) (H : Hp) (σ : L2.St) (W : WX) : Str → List (Str × D) → S → Prop :=
  fun c fs s' => ∀ w' H' da, Le w H w' H' → StOk K w' s' H' → ExAt K w' H' da fs → W (.ref (He.ga K c)) (some da) σ H'
def Wish {α β : Type} (K : PySem.W.Frag) (R : Wd → Hp → α → β → Prop) (w : Wd) (H : Hp) (Q : β → Hp → Prop) : α → S → Prop :=
  fun a s' => ∀ w' H' b, Le w H w' H' → StOk K w' s' H' → R w' H' a b → Q b H'
theorem Rais.le {K : PySem.W.Frag} {w w1 : Wd} {H H1 : Hp} {σ : L2.St} {W : WX} (l : Le w H w1 H1) {c : Str} {f : List (Str × D)} {s : S} (h : Rais K w H σ W c f s) : Rais K w1 H1 σ W c f s :=
  fun w' H' da l' => h w' H' da (l.trans l')
theorem Wish.le {α β : Type} {K : PySem.W.Frag} {R : Wd → Hp → α → β → Prop} {w w1 : Wd} {H H1 : Hp} {Q : β → Hp → Prop} (l : Le w H w1 H1) {a : α} {s : S} (h : Wish K R w H Q a s) : Wish K R w1 H1 Q a s :=
  fun w' H' b l' => h w' H' b (l.trans l')
abbrev TR (β : Type) := L2.St → Hp → (β → Hp → Prop) → Prop
def Run {α β : Type} (K : PySem.W.Frag) (R : Wd → Hp → α → β → Prop) (W : WX) (t : TR β) (f : M α) : Prop :=
  ∀ (G : List Sl) (s : S) (w : Wd) (H : Hp) (σ : L2.St) (Q : β → Hp → Prop), StOk K w s H → EnvOk K w H G σ → Post (f G s) (Wish K R w H Q) (Rais K w H σ W) → t σ H Q

/-- one thing behind another -/
theorem Run.seq {α β γ δ : Type} {K : PySem.W.Frag} {R1 : Wd → Hp → α → β → Prop} {R2 : Wd → Hp → γ → δ → Prop} {W : WX} {t1 : TR β} {f1 : M α} {t2 : β → TR δ} {f2 : α → M γ} (h1 : Run K R1 W t1 f1)
    (h2 : ∀ (a : α) (b : β) (G : List Sl) (s : S) (w : Wd) (H : Hp) (σ : L2.St) (Q : δ → Hp → Prop), StOk K w s H → EnvOk K w H G σ → R1 w H a b → Post (f2 a G s) (Wish K R2 w H Q) (Rais K w H σ W) → t2 b σ H Q) :
    Run K R2 W (fun σ H Q => t1 σ H fun b H1 => t2 b σ H1 Q) (fun G s => (f1 G s).bind fun a s1 => f2 a G s1) := by
  intro G s w H σ Q st en hp
  refine h1 G s w H σ _ st en (hp.bind.imp (fun a s1 q w1 H1 b l st1 r => ?_) fun _ _ _ q => q)
  exact h2 a b G s1 w1 H1 σ Q st1 (en.le l) r (q.imp (fun _ _ z => z.le l) fun _ _ _ z => z.le l)
theorem Run.pure {α β : Type} {K : PySem.W.Frag} {R : Wd → Hp → α → β → Prop} {W : WX} {f : M α} {t : TR β} (h : ∀ (G : List Sl) (s : S) (w : Wd) (H : Hp) (σ : L2.St) (Q : β → Hp → Prop), StOk K w s H → EnvOk K w H G σ → Post (f G s) (Wish K R w H Q) (Rais K w H σ W) → t σ H Q) : Run K R W t f := h
/-- a value at once: the world as it is -/
theorem Wish.now {α β : Type} {K : PySem.W.Frag} {R : Wd → Hp → α → β → Prop} {w : Wd} {H : Hp} {Q : β → Hp → Prop} {a : α} {s : S} (h : Wish K R w H Q a s) (st : StOk K w s H) {b : β} (r : R w H a b) : Q b H := h w H b (Le.refl w H) st r

def DE (X : Cx) (W : WX) (e : Expr) (f : M D) : Prop := ∃ t : TE, PE X e t ∧ Run X.K (Is X.K) W t f
def DR (X : Cx) (W : WX) (e : Expr) (f : M D) : Prop := ∃ t : TE, PE X e t ∧ Run X.K (IsR X.K) W t f
def DT (X : Cx) (W : WX) (e : Expr) (f : M Bool) : Prop := ∃ t : TT, PT X e t ∧ Run X.K (fun _ _ a b => a = b) W t f
def DA (X : Cx) (W : WX) (es : List Expr) (f : M (List D)) : Prop := ∃ t : TA, PA X es t ∧ Run X.K (IsL X.K) W t f
/-- a new list: nobody else has it -/
def NewL (K : PySem.W.Frag) (w : Wd) (H : Hp) (p : Addr) (ds : List D) (w' : Wd) (H' : Hp) : Prop :=
  H p = none ∧ ¬ w'.fz p ∧ (∀ n, n < w'.nx → p ≠ w'.ro n) ∧ ∃ xs, H' p = some (.lst xs) ∧ IsL K w' H' ds xs
def RunN (K : PySem.W.Frag) (W : WX) (t : TE) (f : M (List D)) : Prop :=
  ∀ (G : List Sl) (s : S) (w : Wd) (H : Hp) (σ : L2.St) (Q : VK), StOk K w s H → EnvOk K w H G σ → Post (f G s) (fun ds s' => ∀ w' H' p, Le w H w' H' → StOk K w' s' H' → NewL K w H p ds w' H' → Q (.ref p) H') (Rais K w H σ W) → t σ H Q
def DN (X : Cx) (W : WX) (e : Expr) (f : M (List D)) : Prop := ∃ t : TE, PE X e t ∧ RunN X.K W t f

section
variable {X : Cx} {W : WX} {e a b c : Expr} {es : List Expr} {f fa fb fc : M D} {pos : Pos}
theorem DE.r (h : DE X W e f) : DR X W e f := by
  obtain ⟨t, p, r⟩ := h
  refine ⟨t, p, fun G s w H σ Q st en hp => r G s w H σ Q st en (hp.imp (fun d s' q w' H' v l st' i => q w' H' v l st' (IsR.of d v i)) fun _ _ _ q => q)⟩

/-! ### names, constants -/
def xVar (i : Nat) : M D := fun G s => match G[i]? with
  | some (.val d) => .ok d s
  | some (.own (.obj c fs)) => .ok (.obj c fs) s
  | _ => .fail
def xVarR (i : Nat) : M D := fun G s => match G[i]? with
  | some (.val d) => .ok d s
  | some (.own d) => .ok d s
  | _ => .fail
def xC (d : D) : M D := fun _ s => .ok d s
theorem own_is {K : PySem.W.Frag} {w : Wd} {H : Hp} {a : Addr} {c : Str} {fs : List (Str × D)} (h : OwnAt K w H a (.obj c fs)) : Is K w H (.obj c fs) (.ref a) := by
  obtain ⟨f, _, _, dx, as, e, ci, na, r, _⟩ := h
  simp only [Is]
  exact ⟨a, dx, as, rfl, f, e, ci, na, r⟩
theorem own_isR {K : PySem.W.Frag} {w : Wd} {H : Hp} {a : Addr} {d : D} (h : OwnAt K w H a d) : IsR K w H d (.ref a) := by
  cases d with
  | obj c fs => exact own_is h
  | lst ds =>
    obtain ⟨_, nl, xs, e, r⟩ := h
    exact ⟨a, xs, rfl, ⟨.inr nl, e⟩, r⟩
  | _ => exact absurd h.2.2 id
theorem de_var {x : Str} (i : Nat) (hN : X.N[i]? = some x) (hv : Vis X.env.scope x) (hd : (x == ("__debug__" : Str)) = false := by decide) (hcd : (x == ("__classdict__" : Str)) = false := by decide) : DE X W (.Name x pos) (xVar i) := by
  refine ⟨_, pe_var hN hv hd hcd, fun G s w H σ Q st en hp => ?_⟩
  unfold xVar at hp
  cases g : G[i]? with
  | none => rw [g] at hp; exact absurd hp id
  | some z =>
    rw [g] at hp
    cases z with
    | un => exact absurd hp id
    | val d =>
      obtain ⟨v, e, q⟩ := en.val i d g
      exact ⟨v, e, Wish.now hp st q⟩
    | own d =>
      obtain ⟨v, e, q⟩ := en.own i d g
      cases d with
      | obj c fs => exact ⟨_, e, Wish.now hp st (own_is q)⟩
      | _ => exact absurd hp id
theorem dr_var {x : Str} (i : Nat) (hN : X.N[i]? = some x) (hv : Vis X.env.scope x) (hd : (x == ("__debug__" : Str)) = false := by decide) (hcd : (x == ("__classdict__" : Str)) = false := by decide) : DR X W (.Name x pos) (xVarR i) := by
  refine ⟨_, pe_var hN hv hd hcd, fun G s w H σ Q st en hp => ?_⟩
  unfold xVarR at hp
  cases g : G[i]? with
  | none => rw [g] at hp; exact absurd hp id
  | some z =>
    rw [g] at hp
    cases z with
    | un => exact absurd hp id
    | val d =>
      obtain ⟨v, e, q⟩ := en.val i d g
      exact ⟨v, e, Wish.now hp st (IsR.of d v q)⟩
    | own d =>
      obtain ⟨v, e, q⟩ := en.own i d g
      exact ⟨_, e, Wish.now hp st (own_isR q)⟩
theorem run_c {d : D} {v : V} (h : ∀ w H, Is X.K w H d v) : Run X.K (Is X.K) W (tC v) (xC d) := fun G s w H σ Q st en hp => Wish.now (a := d) (s := s) hp st (h w H)
theorem de_int {i j} : DE X W (.Constant (.int i) j pos) (xC (.int i)) := ⟨_, pe_int, run_c fun _ _ => by simp only [Is]⟩
theorem de_bl {i j} : DE X W (.Constant (.bool i) j pos) (xC (.bl i)) := ⟨_, pe_bl, run_c fun _ _ => by simp only [Is]⟩
theorem de_str {i j} : DE X W (.Constant (.str i) j pos) (xC (.str i)) := ⟨_, pe_str, run_c fun _ _ => by simp only [Is]⟩
theorem de_non {j} : DE X W (.Constant .none j pos) (xC .non) := ⟨_, pe_non, run_c fun _ _ => by simp only [Is]⟩
/-- a class of the program's own as a value -/
theorem de_cls {x : Str} (hg : Gl X x) (hm : X.mg x = some (.ref (He.ga X.K x))) (hd : (x == ("__debug__" : Str)) = false := by decide) : DE X W (.Name x pos) (xC (.cls x)) := ⟨_, pe_glob (v := .ref (He.ga X.K x)) hg hm rfl hd, run_c fun _ _ => by simp only [Is]⟩
theorem de_gint {x : Str} {i : Int} (hg : Gl X x) (hm : ∃ t, X.mg x = some (.int i t)) (hd : (x == ("__debug__" : Str)) = false := by decide) : DE X W (.Name x pos) (xC (.int i)) := by
  obtain ⟨t, hm⟩ := hm
  exact ⟨_, pe_glob (v := .int i) hg hm ⟨t, rfl⟩ hd, run_c fun _ _ => by simp only [Is]⟩
theorem de_gstr {x i : Str} (hg : Gl X x) (hm : ∃ t, X.mg x = some (.str i t)) (hd : (x == ("__debug__" : Str)) = false := by decide) : DE X W (.Name x pos) (xC (.str i)) := by
  obtain ⟨t, hm⟩ := hm
  exact ⟨_, pe_glob (v := .str i) hg hm ⟨t, rfl⟩ hd, run_c fun _ _ => by simp only [Is]⟩
theorem de_ty {x : Str} {T : String} (hg : Gl X x) (hm : X.mg x = none) (hv : bootBuiltins x = some (.type T)) (hn : x ≠ "__name__" := by decide) (hd : (x == ("__debug__" : Str)) = false := by decide) : DE X W (.Name x pos) (xC (.ty T)) := ⟨_, pe_bltn (v := .ty T) hg hm hv rfl hn hd, run_c fun _ _ => by simp only [Is]⟩

/-! ### two values -/
def lift {α : Type} (o : Option α) (s : S) : Out α := match o with
  | some d => .ok d s
  | none => .fail
theorem post_lift {α : Type} {o : Option α} {s : S} {q : α → S → Prop} {e : Str → List (Str × D) → S → Prop} (h : Post (lift o s) q e) : ∃ d, o = some d ∧ q d s := by
  cases o with
  | none => exact absurd h id
  | some d => exact ⟨d, rfl, h⟩
def xBin (g : D → D → S → Out D) (fa fb : M D) : M D := fun G s => (fa G s).bind fun a s1 => (fb G s1).bind fun b s2 => g a b s2
/-- an operation on two values and what it is on data -/
def OpD (X : Cx) (W : WX) (o : Value → Value → Sem Value) (g : D → D → S → Out D) : Prop := ∃ r : R2, OpR X o r ∧
  ∀ (a b : D) (x y : V) (s : S) (w : Wd) (H : Hp) (σ : L2.St) (Q : VK), StOk X.K w s H → IsR X.K w H a x → IsR X.K w H b y → Post (g a b s) (Wish X.K (Is X.K) w H Q) (Rais X.K w H σ W) → r x y H Q
theorem run_bin {ta tb : TE} {r : R2} {g : D → D → S → Out D} (ha : Run X.K (IsR X.K) W ta fa) (hb : Run X.K (IsR X.K) W tb fb)
    (hr : ∀ (a b : D) (x y : V) (s : S) (w : Wd) (H : Hp) (σ : L2.St) (Q : VK), StOk X.K w s H → IsR X.K w H a x → IsR X.K w H b y → Post (g a b s) (Wish X.K (Is X.K) w H Q) (Rais X.K w H σ W) → r x y H Q) : Run X.K (Is X.K) W (tOp r ta tb) (xBin g fa fb) := by
  refine Run.seq (f2 := fun a G s1 => (fb G s1).bind fun b s2 => g a b s2) (t2 := fun x σ H Q => tb σ H fun y H2 => r x y H2 Q) ha fun a x G s w H σ Q st en i hp => ?_
  refine hb G s w H σ _ st en (hp.bind.imp (fun b s1 q w1 H1 y l st1 r => ?_) fun _ _ _ q => q)
  exact hr a b x y s1 w1 H1 σ Q st1 (i.le l) r (q.imp (fun _ _ z => z.le l) fun _ _ _ z => z.le l)
theorem de_bin {op : Operator} {g : D → D → S → Out D} (ho : OpD X W (binaryOp op) g) (ha : DR X W a fa) (hb : DR X W b fb) : DE X W (.BinOp a op b pos) (xBin g fa fb) := by
  obtain ⟨ta, pa, ra⟩ := ha
  obtain ⟨tb, pb, rb⟩ := hb
  obtain ⟨r, o, hr⟩ := ho
  exact ⟨_, pe_op o pa pb, run_bin ra rb hr⟩
theorem de_cmp {op : CmpOp} {g : D → D → S → Out D} (ho : OpD X W (compareOp op) g) (ha : DR X W a fa) (hb : DR X W b fb) (hm : behindInMarks op b = false := by first | exact nomark _ (by decide) (by decide) | rfl) : DE X W (.Compare a [op] [b] pos) (xBin g fa fb) := by
  obtain ⟨ta, pa, ra⟩ := ha
  obtain ⟨tb, pb, rb⟩ := hb
  obtain ⟨r, o, hr⟩ := ho
  exact ⟨_, pe_cmpR o pa pb hm, run_bin ra rb hr⟩
theorem OpD.pure {o : Value → Value → Sem Value} {r : R2} {g : D → D → Option D} (ho : OpR X o r)
    (h : ∀ (a b d : D) (x y : V) (w : Wd) (H : Hp) (Q : VK), IsR X.K w H a x → IsR X.K w H b y → g a b = some d → (∀ w' H' v, Le w H w' H' → (∀ s, StOk X.K w s H → StOk X.K w' s H') → Is X.K w' H' d v → Q v H') → r x y H Q) : OpD X W o (fun a b s => lift (g a b) s) :=
  ⟨r, ho, fun a b x y s w H σ Q st i j hp => by
    obtain ⟨d, e, q⟩ := post_lift hp
    exact h a b d x y w H Q i j e fun w' H' v l st' iv => q w' H' v l (st' s st) iv⟩

/-! ### tests -/
def xTest (f : M D) : M Bool := fun G s => (f G s).bind fun d s => match d with
  | .bl b => .ok b s
  | _ => .fail
theorem run_test {t : TE} (h : Run X.K (Is X.K) W t f) : Run X.K (fun _ _ a b => a = b) W (tB t) (xTest f) := by
  refine Run.seq (f2 := fun d _ s => match d with | .bl b => .ok b s | _ => .fail) (t2 := fun x _ H1 Q => ∃ c, x = .bl c ∧ Q c H1) h fun d x G s w H σ Q st en i hp => ?_
  cases d with
  | bl b =>
    simp only [Is] at i
    exact ⟨b, i, Wish.now (a := b) (s := s) hp st rfl⟩
  | _ => exact absurd hp id
theorem dt_val (h : DE X W e f) (he : ∀ whole, isTrue e X.env whole = (do let v ← whole; standAt e.pos; holding [v] (truthy v)) := by intro _; rfl) : DT X W e (xTest f) := by
  obtain ⟨t, p, r⟩ := h
  exact ⟨_, pt_val p he, run_test r⟩
theorem dt_cmp {op : CmpOp} {g : D → D → S → Out D} (ho : OpD X W (compareOp op) g) (ha : DR X W a fa) (hb : DR X W b fb) (hm : behindInMarks op b = false := by first | exact nomark _ (by decide) (by decide) | rfl) : DT X W (.Compare a [op] [b] pos) (xTest (xBin g fa fb)) := by
  obtain ⟨ta, pa, ra⟩ := ha
  obtain ⟨tb, pb, rb⟩ := hb
  obtain ⟨r, o, hr⟩ := ho
  exact ⟨_, pt_cmpR o pa pb hm, run_test (run_bin ra rb hr)⟩
def yNot (f : M Bool) : M Bool := fun G s => (f G s).bind fun b s => .ok (!b) s
def yAnd (f g : M Bool) : M Bool := fun G s => (f G s).bind fun b s => if b = true then g G s else .ok false s
def yOr (f g : M Bool) : M Bool := fun G s => (f G s).bind fun b s => if b = true then .ok true s else g G s
variable {ga gb : M Bool} {rest : List Expr}
theorem dt_not (h : DT X W a ga) : DT X W (.UnaryOp .Not a pos) (yNot ga) := by
  obtain ⟨t, p, r⟩ := h
  refine ⟨_, pt_not p, ?_⟩
  refine Run.seq (f2 := fun b _ s => .ok (!b) s) (t2 := fun c _ H1 Q => Q (!c) H1) r fun b x G s w H σ Q st en i hp => ?_
  cases i
  exact Wish.now (a := !b) (s := s) hp st rfl
/-- and, or as tests -/
def DW (X : Cx) (W : WX) (e : Expr) (f : M Bool) : Prop := ∃ t : TT, PW X e t ∧ Run X.K (fun _ _ a b => a = b) W t f
theorem DW.t (h : DW X W e ga) : DT X W e ga := by
  obtain ⟨t, p, r⟩ := h
  exact ⟨t, p.pt, r⟩
theorem dw_and1 (h : DT X W a ga) : DW X W (.BoolOp .And [a] pos) ga := by
  obtain ⟨t, p, r⟩ := h
  exact ⟨t, pw_and1 p, r⟩
theorem dw_or1 (h : DT X W a ga) : DW X W (.BoolOp .Or [a] pos) ga := by
  obtain ⟨t, p, r⟩ := h
  exact ⟨t, pw_or1 p, r⟩
theorem dw_and (h : DT X W a ga) (h2 : DW X W (.BoolOp .And (b :: rest) pos) gb) : DW X W (.BoolOp .And (a :: b :: rest) pos) (yAnd ga gb) := by
  obtain ⟨t, p, r⟩ := h
  obtain ⟨u, q, r2⟩ := h2
  refine ⟨_, pw_and p q, ?_⟩
  refine Run.seq (f2 := fun b G s => if b = true then gb G s else .ok false s) (t2 := fun c σ H1 Q => if c = true then u σ H1 Q else Q false H1) r fun b x G s w H σ Q st en i hp => ?_
  cases i
  cases b with
  | true => exact r2 G s w H σ Q st en hp
  | false => exact Wish.now (a := false) (s := s) hp st rfl
theorem dw_or (h : DT X W a ga) (h2 : DW X W (.BoolOp .Or (b :: rest) pos) gb) : DW X W (.BoolOp .Or (a :: b :: rest) pos) (yOr ga gb) := by
  obtain ⟨t, p, r⟩ := h
  obtain ⟨u, q, r2⟩ := h2
  refine ⟨_, pw_or p q, ?_⟩
  refine Run.seq (f2 := fun b G s => if b = true then .ok true s else gb G s) (t2 := fun c σ H1 Q => if c = true then Q true H1 else u σ H1 Q) r fun b x G s w H σ Q st en i hp => ?_
  cases i
  cases b with
  | true => exact Wish.now (a := true) (s := s) hp st rfl
  | false => exact r2 G s w H σ Q st en hp
/-! ### the same as values (bools) -/
def xNot (f : M D) : M D := fun G s => (f G s).bind fun d s => match d with
  | .bl b => .ok (.bl (!b)) s
  | _ => .fail
def xAnd (f g : M D) : M D := fun G s => (f G s).bind fun d s => match d with
  | .bl true => g G s
  | .bl false => .ok (.bl false) s
  | _ => .fail
def xOr (f g : M D) : M D := fun G s => (f G s).bind fun d s => match d with
  | .bl false => g G s
  | .bl true => .ok (.bl true) s
  | _ => .fail
theorem de_one {op} (h : DE X W a fa) : DE X W (.BoolOp op [a] pos) fa := by
  obtain ⟨t, p, r⟩ := h
  exact ⟨t, pe_one p, r⟩
theorem de_and (h : DE X W a fa) (h2 : DE X W (.BoolOp .And (b :: rest) pos) fb) : DE X W (.BoolOp .And (a :: b :: rest) pos) (xAnd fa fb) := by
  obtain ⟨t, p, r⟩ := h
  obtain ⟨u, q, r2⟩ := h2
  refine ⟨_, pe_and p q, ?_⟩
  refine Run.seq (f2 := fun d G s => match d with | .bl true => fb G s | .bl false => .ok (.bl false) s | _ => .fail) (t2 := fun x σ H1 Q => ∃ c, x = .bl c ∧ if c = true then u σ H1 Q else Q (.bl false) H1) r fun d x G s w H σ Q st en i hp => ?_
  cases d with
  | bl b =>
    simp only [Is] at i
    refine ⟨b, i, ?_⟩
    cases b with
    | true => exact r2 G s w H σ Q st en hp
    | false => exact Wish.now (a := D.bl false) (s := s) hp st (by simp only [Is])
  | _ => exact absurd hp id
theorem de_or (h : DE X W a fa) (h2 : DE X W (.BoolOp .Or (b :: rest) pos) fb) : DE X W (.BoolOp .Or (a :: b :: rest) pos) (xOr fa fb) := by
  obtain ⟨t, p, r⟩ := h
  obtain ⟨u, q, r2⟩ := h2
  refine ⟨_, pe_or p q, ?_⟩
  refine Run.seq (f2 := fun d G s => match d with | .bl false => fb G s | .bl true => .ok (.bl true) s | _ => .fail) (t2 := fun x σ H1 Q => ∃ c, x = .bl c ∧ if c = true then Q (.bl true) H1 else u σ H1 Q) r fun d x G s w H σ Q st en i hp => ?_
  cases d with
  | bl b =>
    simp only [Is] at i
    refine ⟨b, i, ?_⟩
    cases b with
    | false => exact r2 G s w H σ Q st en hp
    | true => exact Wish.now (a := D.bl true) (s := s) hp st (by simp only [Is])
  | _ => exact absurd hp id
theorem de_not (h : DE X W a fa) : DE X W (.UnaryOp .Not a pos) (xNot fa) := by
  obtain ⟨t, p, r⟩ := h
  refine ⟨_, pe_not p, ?_⟩
  refine Run.seq (f2 := fun d _ s => match d with | .bl b => .ok (D.bl (!b)) s | _ => .fail) (t2 := fun x (σ : L2.St) (H1 : Hp) (Q : VK) => ∃ c, x = V.bl c ∧ Q (V.bl (!c)) H1) r fun d x G s w H σ Q st en i hp => ?_
  cases d with
  | bl b =>
    simp only [Is] at i
    exact ⟨b, i, Wish.now (a := D.bl (!b)) (s := s) hp st (by simp only [Is])⟩
  | _ => exact absurd hp id
def xIf (t : M Bool) (f g : M D) : M D := fun G s => (t G s).bind fun b s => if b = true then f G s else g G s
theorem de_if (hc : DT X W c ga) (ha : DE X W a fa) (hb : DE X W b fb) : DE X W (.IfExp c a b pos) (xIf ga fa fb) := by
  obtain ⟨t, p, r⟩ := hc
  obtain ⟨u, q, r2⟩ := ha
  obtain ⟨v, q', r3⟩ := hb
  refine ⟨_, pe_ifExp p q q', ?_⟩
  refine Run.seq (f2 := fun b G s => if b = true then fa G s else fb G s) (t2 := fun c σ H1 Q => if c = true then u σ H1 Q else v σ H1 Q) r fun b x G s w H σ Q st en i hp => ?_
  cases i
  cases b with
  | true => exact r2 G s w H σ Q st en hp
  | false => exact r3 G s w H σ Q st en hp

/-! ### argument lists, tuples, lists -/
def xNil : M (List D) := fun _ s => .ok [] s
def xCons (f : M D) (g : M (List D)) : M (List D) := fun G s => (f G s).bind fun d s1 => (g G s1).bind fun ds s2 => .ok (d :: ds) s2
variable {fl : M (List D)}
theorem da_nil : DA X W [] xNil := ⟨_, pa_nil, fun G s w H σ Q st en hp => Wish.now (a := ([] : List D)) (s := s) hp st (by simp only [IsL])⟩
theorem da_cons (h : DE X W e f) (h2 : DA X W es fl) (hs : starEach (e :: es) X.env = (false, eval e X.env) :: starEach es X.env := by rfl) : DA X W (e :: es) (xCons f fl) := by
  obtain ⟨t, p, r⟩ := h
  obtain ⟨u, q, r2⟩ := h2
  refine ⟨_, pa_cons p q hs, ?_⟩
  refine Run.seq (f2 := fun d G s1 => (fl G s1).bind fun ds s2 => .ok (d :: ds) s2) (t2 := fun x σ H1 Q => u σ H1 fun xs H2 => Q (x :: xs) H2) r fun d x G s w H σ Q st en i hp => ?_
  refine r2 G s w H σ _ st en (hp.bind.imp (fun ds s1 q w1 H1 xs l st1 il => ?_) fun _ _ _ q => q)
  refine q w1 H1 (x :: xs) l st1 ?_
  simp only [IsL]
  exact ⟨x, xs, rfl, Is.up l.up d x i, il⟩
end

/-! ### new objects -/
section
variable {K : PySem.W.Frag} {w : Wd} {H : Hp} {p : Addr} {o : HO} {s : S}
/-- p is frozen from now on -/
def frz1 (w : Wd) (p : Addr) : Wd := { w with fz := fun a => w.fz a ∨ a = p }
theorem le_new (hp : H p = none) : Le w H (frz1 w p) (upd H p o) where
  me := rfl
  nx := Nat.le_refl _
  ro := fun _ _ => rfl
  rn := fun n h1 h2 => absurd h2 (Nat.not_lt.mpr h1)
  fz := fun _ h => .inl h
  fn := fun a h => by
    rcases h with h | h
    · exact .inl h
    · subst h; exact .inr (.inl hp)
  hp := fun a u e => .inr (by rw [upd_ne (ne_of_none e hp)]; exact e)
  dm := fun a e => by
    by_cases h : a = p
    · subst h; exact hp
    · rw [upd_ne h] at e; exact e
theorem le_newO (hp : H p = none) : Le w H w (upd H p o) where
  me := rfl
  nx := Nat.le_refl _
  ro := fun _ _ => rfl
  rn := fun n h1 h2 => absurd h2 (Nat.not_lt.mpr h1)
  fz := fun _ h => h
  fn := fun a h => .inl h
  hp := fun a u e => .inr (by rw [upd_ne (ne_of_none e hp)]; exact e)
  dm := fun a e => by
    by_cases h : a = p
    · subst h; exact hp
    · rw [upd_ne h] at e; exact e
theorem Cont.up' {w' : Wd} {H' : Hp} {a : Addr} {d : D} (u : Up K w H w' H') (h : Cont K w H a d) (e : ∀ o, H a = some o → H' a = some o) : Cont K w' H' a d := by
  cases d with
  | lst ds =>
    obtain ⟨xs, e1, r⟩ := h
    exact ⟨xs, e _ e1, IsL.up u ds xs r⟩
  | _ => exact absurd h id
theorem upd_dom {a : Addr} (h : H a ≠ none) : upd H p o a ≠ none := by
  unfold upd
  split
  · intro z; cases z
  · exact h
theorem st_new (st : StOk K w s H) (hp : H p = none) : StOk K (frz1 w p) s (upd H p o) where
  nx := st.nx
  inj := st.inj
  live := fun n d e => by
    obtain ⟨h1, h2, h3⟩ := st.live n d e
    obtain ⟨u, hu⟩ := cont_some h3
    refine ⟨h1, fun z => ?_, h3.up' (le_new hp).up fun o' e' => by rw [upd_ne (ne_of_none e' hp)]; exact e'⟩
    rcases z with z | z
    · exact h2 z
    · have z' : w.ro n = p := z
      rw [z', hp] at hu; cases hu
  df := fun a f => by
    rcases f with f | f
    · exact upd_dom (st.df a f)
    · rw [f, upd_same]; intro z; cases z
  dl := fun n hn => upd_dom (st.dl n hn)
theorem st_newO (st : StOk K w s H) (hp : H p = none) : StOk K w s (upd H p o) where
  nx := st.nx
  inj := st.inj
  live := fun n d e => by
    obtain ⟨h1, h2, h3⟩ := st.live n d e
    exact ⟨h1, h2, h3.up' (le_newO hp).up fun o' e' => by rw [upd_ne (ne_of_none e' hp)]; exact e'⟩
  df := fun a f => upd_dom (st.df a f)
  dl := fun n hn => upd_dom (st.dl n hn)
/-- a new list that is one's own -/
theorem newL_of {xs : List V} {ds : List D} (st : StOk K w s H) (hp : H p = none) (i : IsL K w H ds xs) : NewL K w H p ds w (upd H p (.lst xs)) :=
  ⟨hp, fun f => st.df p f hp, fun n hn e => st.dl n hn (e ▸ hp), xs, upd_same, IsL.up (le_newO hp).up ds xs i⟩
/-- one's own list, frozen from now on -/
theorem NewL.freeze {w' : Wd} {H' : Hp} {ds : List D} (h : NewL K w H p ds w' H') (l : Le w H w' H') (st : StOk K w' s H') : Le w H (frz1 w' p) H' ∧ StOk K (frz1 w' p) s H' ∧ Is K (frz1 w' p) H' (.lst ds) (.ref p) := by
  obtain ⟨h0, nf, nl, xs, e, i⟩ := h
  have u : Up K w' H' (frz1 w' p) H' := ⟨rfl, Nat.le_refl _, fun _ _ => rfl, fun _ z => .inl z, fun _ o _ q => ⟨o, q, Grow.refl o⟩⟩
  refine ⟨⟨l.me, l.nx, l.ro, l.rn, fun a z => .inl (l.fz a z), fun a z => ?_, l.hp, l.dm⟩, ⟨st.nx, st.inj, fun n d q => ?_, fun a z => ?_, st.dl⟩, ?_⟩
  · rcases z with z | z
    · exact l.fn a z
    · subst z; exact .inr (.inl h0)
  · obtain ⟨h1, h2, h3⟩ := st.live n d q
    refine ⟨h1, fun z => ?_, h3.up' u fun _ z => z⟩
    rcases z with z | z
    · exact h2 z
    · exact nl n h1 z.symm
  · rcases z with z | z
    · exact st.df a z
    · rw [z, e]; intro q; cases q
  · simp only [Is]
    exact ⟨p, xs, rfl, .inr rfl, e, IsL.up u ds xs i⟩
end
section
variable {X : Cx} {W : WX} {e : Expr} {es : List Expr} {fl : M (List D)} {pos : Pos}
def xLst (f : M (List D)) : M D := fun G s => (f G s).bind fun ds s => .ok (.lst ds) s
def xTup (f : M (List D)) : M D := fun G s => (f G s).bind fun ds s => .ok (.tup ds) s
theorem DN.de (h : DN X W e fl) : DE X W e (xLst fl) := by
  obtain ⟨t, p, r⟩ := h
  refine ⟨t, p, fun G s w H σ Q st en hp => r G s w H σ Q st en (hp.bind.imp (fun ds s' q w' H' p l st' n => ?_) fun _ _ _ q => q)⟩
  obtain ⟨l2, st2, i⟩ := n.freeze l st'
  exact q _ H' _ l2 st2 i
theorem DN.dr (h : DN X W e fl) : DR X W e (xLst fl) := h.de.r
/-- a bound that all lists and texts keep -/
def sz (n : Nat) : Bool := decide (n ≤ 1000000)
theorem sz_line {n : Nat} (h : sz n = true) : n ≤ sizeLine := Nat.le_trans (of_decide_eq_true h) (by decide)
theorem isL_len {K : PySem.W.Frag} {w : Wd} {H : Hp} : ∀ {ds : List D} {xs : List V}, IsL K w H ds xs → xs.length = ds.length
  | [], xs, h => by simp only [IsL] at h; rw [h]; rfl
  | d :: ds, xs, h => by
    simp only [IsL] at h
    obtain ⟨v, r, e, _, h2⟩ := h
    rw [e, List.length_cons, isL_len h2, List.length_cons]
def xSz (f : M (List D)) : M (List D) := fun G s => (f G s).bind fun ds s => if sz ds.length = true then .ok ds s else .fail
theorem dn_lst (h : DA X W es fl) : DN X W (.List es pos) (xSz fl) := by
  obtain ⟨t, p, r⟩ := h
  refine ⟨_, pe_lst p, fun G s w H σ Q st en hp => r G s w H σ _ st en (hp.bind.imp (fun ds s' q w' H' xs l st' i => ?_) fun _ _ _ q => q)⟩
  cases z : sz ds.length with
  | false => rw [z] at q; exact absurd q id
  | true =>
    rw [z] at q
    have hz : xs.length ≤ sizeLine := by rw [isL_len i]; exact sz_line z
    refine ⟨hz, fun p hp => ?_⟩
    have n := newL_of (w := w') st' hp i
    have l2 := l.trans (le_newO (w := w') (o := .lst xs) hp)
    exact q w' _ p l2 (st_newO st' hp) ⟨l.dm p hp, n.2⟩
theorem de_tup {x1} (h : DA X W es fl) : DE X W (.Tuple es x1 pos) (xTup (xSz fl)) := by
  obtain ⟨t, p, r⟩ := h
  refine ⟨_, pe_tup p, fun G s w H σ Q st en hp => r G s w H σ _ st en (hp.bind.bind.imp (fun ds s' q w' H' xs l st' i => ?_) fun _ _ _ q => q)⟩
  cases z : sz ds.length with
  | false => rw [z] at q; exact absurd q id
  | true =>
    rw [z] at q
    have hz : xs.length ≤ sizeLine := by rw [isL_len i]; exact sz_line z
    refine ⟨hz, fun p hp => ?_⟩
    refine q _ _ _ (l.trans (le_new hp)) (st_new st' hp) ?_
    simp only [Is]
    exact ⟨p, xs, rfl, .inl ⟨.inr rfl, .inl upd_same⟩, IsL.up (le_new hp).up ds xs i⟩
/-- a tuple made anew -/
theorem is_tupN {K : PySem.W.Frag} {w : Wd} {H : Hp} {p : Addr} {xs : List V} {ds : List D} (hp : H p = none) (i : IsL K w H ds xs) : Is K (frz1 w p) (upd H p (.tup xs)) (.tup ds) (.ref p) := by
  simp only [Is]
  exact ⟨p, xs, rfl, .inl ⟨.inr rfl, .inl upd_same⟩, IsL.up (le_new hp).up ds xs i⟩
theorem is_lstN {K : PySem.W.Frag} {w : Wd} {H : Hp} {p : Addr} {xs : List V} {ds : List D} (hp : H p = none) (i : IsL K w H ds xs) : Is K (frz1 w p) (upd H p (.lst xs)) (.lst ds) (.ref p) := by
  simp only [Is]
  exact ⟨p, xs, rfl, .inr rfl, upd_same, IsL.up (le_new hp).up ds xs i⟩
end
end Qd
namespace Qd
open PySem PySem.Spec PyProof.Rows L2
section
variable {X : Cx} {W : WX} {K : PySem.W.Frag} {w : Wd} {H : Hp}
/-! ### reading data -/
theorem isR_int {i : Int} {v : V} (h : IsR K w H (.int i) v) : v = .int i := by simp only [IsR, Is] at h; exact h
theorem isR_str {i : Str} {v : V} (h : IsR K w H (.str i) v) : v = .str i := by simp only [IsR, Is] at h; exact h
theorem isR_bl {i : Bool} {v : V} (h : IsR K w H (.bl i) v) : v = .bl i := by simp only [IsR, Is] at h; exact h
theorem isR_non {v : V} (h : IsR K w H .non v) : v = .non := by simp only [IsR, Is] at h; exact h
theorem isR_ty {n : String} {v : V} (h : IsR K w H (.ty n) v) : v = .ty n := by simp only [IsR, Is] at h; exact h
theorem isR_tup {ds : List D} {v : V} (h : IsR K w H (.tup ds) v) : ∃ a xs, v = .ref a ∧ SqT K H a xs ∧ IsL K w H ds xs := by
  simp only [IsR, Is] at h
  obtain ⟨a, xs, e, t, i⟩ := h
  exact ⟨a, xs, e, t.sq, i⟩
theorem isR_lst {ds : List D} {v : V} (h : IsR K w H (.lst ds) v) : ∃ a xs, v = .ref a ∧ H a = some (.lst xs) ∧ IsL K w H ds xs := by
  obtain ⟨a, xs, e, t, i⟩ := h
  exact ⟨a, xs, e, t.2, i⟩
theorem isR_scr {ns : List Int} {v : V} (h : IsR K w H (.scr ns) v) : ∃ a, v = .ref a ∧ SqL K H a (ns.map V.int) := by
  simp only [IsR, Is] at h
  obtain ⟨a, e, i⟩ := h
  exact ⟨a, e, i.sq⟩
theorem isR_obj {c : Str} {fs : List (Str × D)} {v : V} (h : IsR K w H (.obj c fs) v) : ∃ a dx as, v = .ref a ∧ H a = some (.ins (He.ga K c) dx as) ∧ ClsI K (He.ga K c) ∧ (∀ f u, as.lookup f = some u → NoAttr K (He.ga K c) f) ∧ IsF K w H fs as := by
  simp only [IsR, Is] at h
  obtain ⟨a, dx, as, e, _, h, i⟩ := h
  exact ⟨a, dx, as, e, h, i⟩
theorem is_int (i : Int) : Is K w H (.int i) (.int i) := by simp only [Is]
theorem is_str (i : Str) : Is K w H (.str i) (.str i) := by simp only [Is]
theorem is_bl (i : Bool) : Is K w H (.bl i) (.bl i) := by simp only [Is]
theorem is_non : Is K w H .non .non := by simp only [Is]
theorem isL_append : ∀ {ds es : List D} {xs ys : List V}, IsL K w H ds xs → IsL K w H es ys → IsL K w H (ds ++ es) (xs ++ ys)
  | [], _, _, _, h, h2 => by simp only [IsL] at h; subst h; exact h2
  | d :: ds, _, _, _, h, h2 => by
    simp only [IsL] at h
    obtain ⟨v, r, e, i, j⟩ := h
    subst e
    show IsL K w H (d :: (ds ++ _)) (v :: (r ++ _))
    simp only [IsL]
    exact ⟨v, _, rfl, i, isL_append j h2⟩
theorem isL_get : ∀ {ds : List D} {xs : List V} {n : Nat} {d : D}, IsL K w H ds xs → ds[n]? = some d → ∃ v, xs[n]? = some v ∧ Is K w H d v
  | [], _, _, _, _, e => by simp at e
  | d :: ds, _, 0, _, h, e => by
    simp only [IsL] at h
    obtain ⟨v, r, q, i, _⟩ := h
    subst q
    simp at e
    subst e
    exact ⟨v, rfl, i⟩
  | d :: ds, _, n + 1, _, h, e => by
    simp only [IsL] at h
    obtain ⟨v, r, q, _, j⟩ := h
    subst q
    obtain ⟨u, e1, e2⟩ := isL_get (n := n) j (by simpa using e)
    exact ⟨u, by simpa using e1, e2⟩
theorem isL_take : ∀ {ds : List D} {xs : List V} (n : Nat), IsL K w H ds xs → IsL K w H (ds.take n) (xs.take n)
  | _, _, 0, _ => by simp [IsL]
  | [], _, n + 1, h => by simp only [IsL] at h; subst h; simp [IsL]
  | d :: ds, _, n + 1, h => by
    simp only [IsL] at h
    obtain ⟨v, r, q, i, j⟩ := h
    subst q
    show IsL K w H (d :: ds.take n) (v :: r.take n)
    simp only [IsL]
    exact ⟨v, _, rfl, i, isL_take n j⟩
theorem isL_drop : ∀ {ds : List D} {xs : List V} (n : Nat), IsL K w H ds xs → IsL K w H (ds.drop n) (xs.drop n)
  | _, _, 0, h => h
  | [], _, n + 1, h => by simp only [IsL] at h; subst h; simp [IsL]
  | d :: ds, _, n + 1, h => by
    simp only [IsL] at h
    obtain ⟨v, r, q, i, j⟩ := h
    subst q
    exact isL_drop n j
theorem isL_ints (ns : List Int) : IsL K w H (ns.map D.int) (ns.map V.int) := by
  induction ns with
  | nil => simp [IsL]
  | cons n r ih => simp only [List.map_cons, IsL]; exact ⟨_, _, rfl, is_int n, ih⟩
theorem isL_strs (ns : List Str) : IsL K w H (ns.map D.str) (ns.map V.str) := by
  induction ns with
  | nil => simp [IsL]
  | cons n r ih => simp only [List.map_cons, IsL]; exact ⟨_, _, rfl, is_str n, ih⟩
theorem isL_set : ∀ {ds : List D} {xs : List V} {d : D} {v : V} (n : Nat), IsL K w H ds xs → Is K w H d v → IsL K w H (ds.set n d) (xs.set n v)
  | [], _, _, _, n, h, _ => by simp only [IsL] at h; subst h; simp [IsL]
  | d :: ds, _, _, _, 0, h, i => by
    simp only [IsL] at h
    obtain ⟨v, r, q, _, j⟩ := h
    subst q
    simp only [List.set_cons_zero, IsL]
    exact ⟨_, _, rfl, i, j⟩
  | d :: ds, _, _, _, n + 1, h, i => by
    simp only [IsL] at h
    obtain ⟨v, r, q, i', j⟩ := h
    subst q
    simp only [List.set_cons_succ, IsL]
    exact ⟨_, _, rfl, i', isL_set n j i⟩
/-- the ints of data, the texts, the bools -/
def ints? : List D → Option (List Int)
  | [] => some []
  | .int i :: r => (ints? r).map (i :: ·)
  | _ => none
def strs? : List D → Option (List Str)
  | [] => some []
  | .str i :: r => (strs? r).map (i :: ·)
  | _ => none
def bls? : List D → Option (List Bool)
  | [] => some []
  | .bl i :: r => (bls? r).map (i :: ·)
  | _ => none
theorem ints_is : ∀ {ds : List D} {xs : List V} {ns : List Int}, IsL K w H ds xs → ints? ds = some ns → xs = ns.map V.int
  | [], _, _, h, e => by simp only [IsL] at h; simp only [ints?] at e; cases e; rw [h]; rfl
  | d :: ds, _, ns, h, e => by
    simp only [IsL] at h
    obtain ⟨v, r, q, i, j⟩ := h
    cases d with
    | int z =>
      simp only [ints?, Option.map_eq_some_iff] at e
      obtain ⟨ms, e1, e2⟩ := e
      subst e2 q
      simp only [Is] at i
      rw [ints_is j e1, i]; rfl
    | _ => simp [ints?] at e
theorem strs_is : ∀ {ds : List D} {xs : List V} {ns : List Str}, IsL K w H ds xs → strs? ds = some ns → xs = ns.map V.str
  | [], _, _, h, e => by simp only [IsL] at h; simp only [strs?] at e; cases e; rw [h]; rfl
  | d :: ds, _, ns, h, e => by
    simp only [IsL] at h
    obtain ⟨v, r, q, i, j⟩ := h
    cases d with
    | str z =>
      simp only [strs?, Option.map_eq_some_iff] at e
      obtain ⟨ms, e1, e2⟩ := e
      subst e2 q
      simp only [Is] at i
      rw [strs_is j e1, i]; rfl
    | _ => simp [strs?] at e
theorem bls_is : ∀ {ds : List D} {xs : List V} {ns : List Bool}, IsL K w H ds xs → bls? ds = some ns → xs = ns.map V.bl
  | [], _, _, h, e => by simp only [IsL] at h; simp only [bls?] at e; cases e; rw [h]; rfl
  | d :: ds, _, ns, h, e => by
    simp only [IsL] at h
    obtain ⟨v, r, q, i, j⟩ := h
    cases d with
    | bl z =>
      simp only [bls?, Option.map_eq_some_iff] at e
      obtain ⟨ms, e1, e2⟩ := e
      subst e2 q
      simp only [Is] at i
      rw [bls_is j e1, i]; rfl
    | _ => simp [bls?] at e

/-! ### operators -/
/-- a value that needs nothing new -/
theorem wish_now {d : D} {v : V} {Q : VK} (q : ∀ w' H' v, Le w H w' H' → (∀ s, StOk K w s H → StOk K w' s H') → Is K w' H' d v → Q v H') (i : Is K w H d v) : Q v H := q w H v (Le.refl w H) (fun _ z => z) i
def addD (a b : D) : Option D := match a, b with
  | .int i, .int j => some (.int (i + j))
  | .str i, .str j => if sz (i.length + j.length) = true then some (.str (i ++ j)) else none
  | .lst i, .lst j => if sz (i.length + j.length) = true then some (.lst (i ++ j)) else none
  | .tup i, .tup j => if sz (i.length + j.length) = true then some (.tup (i ++ j)) else none
  | _, _ => none
theorem od_add : OpD X W (binaryOp .Add) (fun a b s => lift (addD a b) s) := by
  refine OpD.pure (((op_add.or op_add_str).or op_cat).or op_catA) fun a b d x y w H Q i j e q => ?_
  cases a with
  | int n => cases b with
    | int m =>
      cases e
      exact .inl (.inl (.inl ⟨n, m, isR_int i, isR_int j, wish_now q (is_int _)⟩))
    | _ => cases e
  | str n => cases b with
    | str m =>
      simp only [addD] at e
      split at e
      · cases e
        exact .inl (.inl (.inr ⟨n, m, isR_str i, isR_str j, sz_line (by assumption), wish_now q (is_str _)⟩))
      · cases e
    | _ => cases e
  | lst n => cases b with
    | lst m =>
      simp only [addD] at e
      split at e
      · cases e
        rename_i hz
        obtain ⟨a1, xs, rfl, h1, i1⟩ := isR_lst i
        obtain ⟨b1, ys, rfl, h2, i2⟩ := isR_lst j
        refine .inl (.inr ⟨a1, b1, xs, ys, rfl, rfl, h1, h2, by rw [isL_len i1, isL_len i2]; exact sz_line hz, fun p hp => ?_⟩)
        exact q _ _ _ (le_new hp) (fun s st => st_new st hp) (is_lstN hp (isL_append i1 i2))
      · cases e
    | _ => cases e
  | tup n => cases b with
    | tup m =>
      simp only [addD] at e
      split at e
      · cases e
        rename_i hz
        obtain ⟨a1, xs, rfl, h1, i1⟩ := isR_tup i
        obtain ⟨b1, ys, rfl, h2, i2⟩ := isR_tup j
        have e1 := isL_len i1
        have e2 := isL_len i2
        refine .inr ⟨a1, b1, xs, ys, rfl, rfl, h1, h2, by rw [e1, e2]; exact sz_line hz, fun hx => ?_, fun _ hy => ?_, fun _ _ p hp => ?_⟩
        · have : n = [] := List.eq_nil_of_length_eq_zero (by rw [← e1, hx]; rfl)
          subst this
          exact wish_now q j
        · have : m = [] := List.eq_nil_of_length_eq_zero (by rw [← e2, hy]; rfl)
          subst this
          rw [List.append_nil] at q
          exact wish_now q i
        · exact q _ _ _ (le_new hp) (fun s st => st_new st hp) (is_tupN hp (isL_append i1 i2))
      · cases e
    | _ => cases e
  | _ => cases e
/-- two ints -/
def intD (C : Int → Int → Bool) (g : Int → Int → Int) (a b : D) : Option D := match a, b with
  | .int i, .int j => if C i j = true then some (.int (g i j)) else none
  | _, _ => none
theorem od_int {o : Value → Value → Sem Value} {Cp : Int → Int → Prop} {C : Int → Int → Bool} {g : Int → Int → Int} (ho : OpR X o (rI Cp fun i j => .int (g i j))) (hc : ∀ i j, C i j = true → Cp i j) : OpD X W o (fun a b s => lift (intD C g a b) s) := by
  refine OpD.pure ho fun a b d x y w H Q i j e q => ?_
  cases a with
  | int n => cases b with
    | int m =>
      simp only [intD] at e
      split at e
      · cases e
        exact ⟨n, m, isR_int i, isR_int j, hc n m (by assumption), wish_now q (is_int _)⟩
      · cases e
    | _ => cases e
  | _ => cases e
def yesC (_ _ : Int) : Bool := true
def mulC (i j : Int) : Bool := (decide (-(2 ^ 64) < i) && decide (i < 2 ^ 64)) || (decide (-(2 ^ 64) < j) && decide (j < 2 ^ 64))
def divC (_ j : Int) : Bool := decide (0 < j) && decide (j < 1073741824)
def modC (_ j : Int) : Bool := decide (0 < j)
def powC (i j : Int) : Bool := decide (0 ≤ j) && decide (j ≤ 1000000) && decide (i.natAbs < 2 ^ 64)
abbrev subD := intD yesC fun i j => i - j
abbrev mulD := intD mulC fun i j => i * j
abbrev fdvD := intD divC fun i j => i / j
abbrev modD := intD modC fun i j => i % j
abbrev powD := intD powC fun i j => i ^ j.toNat
theorem opr_yes {o : Value → Value → Sem Value} {g : Int → Int → V} (h : OpR X o (rI0 g)) : OpR X o (rI (fun _ _ => True) g) := by
  intro pins s σ H x y v u Q I rx ry ⟨i, j, e1, e2, _, q⟩
  exact h pins s σ H x y v u Q I rx ry ⟨i, j, e1, e2, q⟩
theorem od_sub : OpD X W (binaryOp .Sub) (fun a b s => lift (subD a b) s) := od_int (opr_yes op_sub) fun _ _ _ => trivial
theorem od_mul : OpD X W (binaryOp .Mult) (fun a b s => lift (mulD a b) s) := od_int op_mul fun i j h => by
  simp only [mulC, Bool.or_eq_true, Bool.and_eq_true, decide_eq_true_eq] at h
  exact h
theorem od_fdv : OpD X W (binaryOp .FloorDiv) (fun a b s => lift (fdvD a b) s) := od_int op_fdiv fun i j h => by
  simp only [divC, Bool.and_eq_true, decide_eq_true_eq] at h
  exact h
theorem od_mod : OpD X W (binaryOp .Mod) (fun a b s => lift (modD a b) s) := od_int op_mod fun i j h => of_decide_eq_true h
theorem od_pow : OpD X W (binaryOp .Pow) (fun a b s => lift (powD a b) s) := od_int op_pow fun i j h => by
  simp only [powC, Bool.and_eq_true, decide_eq_true_eq] at h
  exact ⟨h.1.1, h.1.2, h.2⟩
/-! ### comparisons -/
def cmpD (p : Int → Int → Bool) (a b : D) : Option D := match a, b with
  | .int i, .int j => some (.bl (p i j))
  | _, _ => none
theorem od_cmp {o : Value → Value → Sem Value} {p : Int → Int → Bool} (ho : OpR X o (rI0 fun i j => .bl (p i j))) : OpD X W o (fun a b s => lift (cmpD p a b) s) := by
  refine OpD.pure ho fun a b d x y w H Q i j e q => ?_
  cases a with
  | int n => cases b with
    | int m =>
      cases e
      exact ⟨n, m, isR_int i, isR_int j, wish_now q (is_bl _)⟩
    | _ => cases e
  | _ => cases e
abbrev ltD := cmpD fun i j => decide (i < j)
abbrev leD := cmpD fun i j => decide (i ≤ j)
abbrev gtD := cmpD fun i j => decide (j < i)
abbrev geD := cmpD fun i j => decide (j ≤ i)
theorem od_lt : OpD X W (compareOp .Lt) (fun a b s => lift (ltD a b) s) := od_cmp op_lt
theorem od_le : OpD X W (compareOp .LtE) (fun a b s => lift (leD a b) s) := od_cmp op_le
theorem od_gt : OpD X W (compareOp .Gt) (fun a b s => lift (gtD a b) s) := od_cmp op_gt
theorem od_ge : OpD X W (compareOp .GtE) (fun a b s => lift (geD a b) s) := od_cmp op_ge
/-! ### == of plain data -/
mutual
def toP : D → Option PyData
  | .non => some .none
  | .bl b => some (.bool b)
  | .int i => some (.int i)
  | .str x => some (.str x)
  | .tup ds => (toPs ds).map .tuple
  | .lst ds => (toPs ds).map .list
  | _ => none
def toPs : List D → Option (List PyData)
  | [] => some []
  | d :: ds => (toP d).bind fun p => (toPs ds).map (p :: ·)
end
mutual
theorem dp_of : ∀ (d : D) (v : V) (p : PyData), Is K w H d v → toP d = some p → Dp K H v p
  | .non, v, p, i, e => by simp only [Is] at i; simp only [toP] at e; cases e; subst i; exact .non
  | .bl b, v, p, i, e => by simp only [Is] at i; simp only [toP] at e; cases e; subst i; exact .bl b
  | .int b, v, p, i, e => by simp only [Is] at i; simp only [toP] at e; cases e; subst i; exact .int b
  | .str b, v, p, i, e => by simp only [Is] at i; simp only [toP] at e; cases e; subst i; exact .str b
  | .tup ds, v, p, i, e => by
    simp only [Is] at i
    simp only [toP, Option.map_eq_some_iff] at e
    obtain ⟨a, xs, rfl, t, il⟩ := i
    obtain ⟨ps, e1, rfl⟩ := e
    exact .tup t.sq (dps_of ds xs ps il e1)
  | .lst ds, v, p, i, e => by
    simp only [Is] at i
    simp only [toP, Option.map_eq_some_iff] at e
    obtain ⟨a, xs, rfl, _, t, il⟩ := i
    obtain ⟨ps, e1, rfl⟩ := e
    exact .lst (SqL.of t) (dps_of ds xs ps il e1)
  | .ty _, _, _, _, e => by simp [toP] at e
  | .obj _ _, _, _, _, e => by simp [toP] at e
  | .dct _, _, _, _, e => by simp [toP] at e
  | .exo _ _, _, _, _, e => by simp [toP] at e
  | .loc _, _, _, _, e => by simp [toP] at e
  | .cls _, _, _, _, e => by simp [toP] at e
  | .scr _, _, _, _, e => by simp [toP] at e
theorem dps_of : ∀ (ds : List D) (vs : List V) (ps : List PyData), IsL K w H ds vs → toPs ds = some ps → DpAll K H vs ps
  | [], vs, ps, i, e => by simp only [IsL] at i; simp only [toPs] at e; cases e; subst i; exact .nil
  | d :: ds, vs, ps, i, e => by
    simp only [IsL] at i
    obtain ⟨v, r, rfl, i1, i2⟩ := i
    simp only [toPs, Option.bind_eq_some_iff, Option.map_eq_some_iff] at e
    obtain ⟨p, e1, qs, e2, rfl⟩ := e
    exact .cons (dp_of d v p i1 e1) (dps_of ds r qs i2 e2)
end
theorem dpR_of {d : D} {v : V} {p : PyData} (i : IsR K w H d v) (e : toP d = some p) : Dp K H v p := by
  cases d with
  | lst ds =>
    obtain ⟨a, xs, rfl, t, il⟩ := isR_lst i
    simp only [toP, Option.map_eq_some_iff] at e
    obtain ⟨ps, e1, rfl⟩ := e
    exact .lst (SqL.of t) (dps_of ds xs ps il e1)
  | _ => exact dp_of _ v p i e
def eqB (a b : D) : Option Bool := match a, b with
  | .non, .non => some true
  | .int i, .int j => some (decide (i = j))
  | .str i, .str j => some (decide (i = j))
  | .bl i, .bl j => some (decide (i = j))
  | .non, .int _ => some false | .int _, .non => some false | .non, .str _ => some false | .str _, .non => some false
  | .int _, .str _ => some false | .str _, .int _ => some false
  | a, b => (toP a).bind fun p => (toP b).bind fun q => if SeqAt.shaped p = true ∧ SeqAt.shaped q = true then some (p.eqv q) else none
def eqD (a b : D) : Option D := (eqB a b).map .bl
def neD (a b : D) : Option D := (eqB a b).map fun x => .bl (!x)
theorem dec_sI {i j : Int} : decide (V.int i = V.int j) = decide (i = j) := by simp
theorem dec_sS {i j : Str} : decide (V.str i = V.str j) = decide (i = j) := by simp
theorem dec_sB {i j : Bool} : decide (V.bl i = V.bl j) = decide (i = j) := by simp
/-- what == asks of two values that are such data -/
theorem eq_core {a b : D} {x y : V} {k : Bool} (i : IsR K w H a x) (j : IsR K w H b y) (e : eqB a b = some k) :
    (scal x y = true ∧ decide (x = y) = k) ∨ ∃ p q, Dp K H x p ∧ Dp K H y q ∧ SeqAt.shaped p = true ∧ SeqAt.shaped q = true ∧ p.eqv q = k := by
  have deep : ((toP a).bind fun p => (toP b).bind fun q => if SeqAt.shaped p = true ∧ SeqAt.shaped q = true then some (p.eqv q) else none) = some k → ∃ p q, Dp K H x p ∧ Dp K H y q ∧ SeqAt.shaped p = true ∧ SeqAt.shaped q = true ∧ p.eqv q = k := fun e => by
    simp only [Option.bind_eq_some_iff] at e
    obtain ⟨p, e1, q, e2, e3⟩ := e
    split at e3
    · rename_i hs
      cases e3
      exact ⟨p, q, dpR_of i e1, dpR_of j e2, hs.1, hs.2, rfl⟩
    · cases e3
  unfold eqB at e
  split at e
  · cases e; rw [isR_non i, isR_non j]; exact .inl ⟨rfl, by simp⟩
  · cases e; rw [isR_int i, isR_int j]; exact .inl ⟨rfl, dec_sI⟩
  · cases e; rw [isR_str i, isR_str j]; exact .inl ⟨rfl, dec_sS⟩
  · cases e; rw [isR_bl i, isR_bl j]; exact .inl ⟨rfl, dec_sB⟩
  · cases e; rw [isR_non i, isR_int j]; exact .inl ⟨rfl, by simp⟩
  · cases e; rw [isR_int i, isR_non j]; exact .inl ⟨rfl, by simp⟩
  · cases e; rw [isR_non i, isR_str j]; exact .inl ⟨rfl, by simp⟩
  · cases e; rw [isR_str i, isR_non j]; exact .inl ⟨rfl, by simp⟩
  · cases e; rw [isR_int i, isR_str j]; exact .inl ⟨rfl, by simp⟩
  · cases e; rw [isR_str i, isR_int j]; exact .inl ⟨rfl, by simp⟩
  · exact .inr (deep e)
theorem od_eq (hu : X.A.units + 64 < cLine) : OpD X W (compareOp .Eq) (fun a b s => lift (eqD a b) s) := by
  refine OpD.pure (op_eq.or (op_eqD hu)) fun a b d x y w H Q i j e q => ?_
  simp only [eqD, Option.map_eq_some_iff] at e
  obtain ⟨k, e1, rfl⟩ := e
  have z : Q (.bl k) H := wish_now q (is_bl _)
  rcases eq_core i j e1 with ⟨h1, h2⟩ | ⟨p, q', h1, h2, h3, h4, h5⟩
  · exact .inl ⟨h1, by rw [h2]; exact z⟩
  · exact .inr ⟨p, q', h1, h2, h3, h4, by rw [h5]; exact z⟩
theorem od_ne (hu : X.A.units + 64 < cLine) : OpD X W (compareOp .NotEq) (fun a b s => lift (neD a b) s) := by
  refine OpD.pure (op_ne.or (op_neD hu)) fun a b d x y w H Q i j e q => ?_
  simp only [neD, Option.map_eq_some_iff] at e
  obtain ⟨k, e1, rfl⟩ := e
  have z : Q (.bl (!k)) H := wish_now q (is_bl _)
  rcases eq_core i j e1 with ⟨h1, h2⟩ | ⟨p, q', h1, h2, h3, h4, h5⟩
  · exact .inl ⟨h1, by rw [h2]; exact z⟩
  · exact .inr ⟨p, q', h1, h2, h3, h4, by rw [h5]; exact z⟩
/-! ### is None, is True -/
def isD (neg : Bool) (a b : D) : Option D := match b with
  | .non => (match a with
    | .non => some (.bl (!neg))
    | .dct _ => none | .exo _ _ => none
    | _ => some (.bl neg))
  | .bl k => (match a with
    | .bl j => some (.bl (if neg then !decide (j = k) else decide (j = k)))
    | _ => none)
  | _ => none
theorem non_iff {a : D} {x : V} (i : IsR K w H a x) : a ≠ .non → x ≠ .non := by
  intro h z
  subst z
  cases a with
  | non => exact h rfl
  | lst ds => obtain ⟨_, _, e, _⟩ := isR_lst i; cases e
  | tup ds => obtain ⟨_, _, e, _⟩ := isR_tup i; cases e
  | obj c ds => obtain ⟨_, _, _, e, _⟩ := isR_obj i; cases e
  | scr ds => obtain ⟨_, e, _⟩ := isR_scr i; cases e
  | loc n => simp only [IsR, Is] at i; cases i.2
  | bl b => cases isR_bl i
  | int b => cases isR_int i
  | str b => cases isR_str i
  | ty b => cases isR_ty i
  | dct b => simp only [IsR, Is] at i
  | exo b c => simp only [IsR, Is] at i
  | cls b => simp only [IsR, Is] at i; exact absurd i (by intro z; cases z)
theorem isD_non {neg : Bool} {a d : D} {x : V} (i : IsR K w H a x) (e : isD neg a .non = some d) : d = .bl (if neg then !decide (x = V.non) else decide (x = V.non)) := by
  by_cases h : a = .non
  · subst h
    rw [isR_non i]
    cases e
    cases neg <;> rfl
  · have hx := non_iff i h
    have hd : decide (x = V.non) = false := decide_eq_false hx
    have : d = .bl neg := by
      cases a <;> first | (exact absurd rfl h) | (simp only [isD] at e; first | (cases e; done) | (cases e; rfl))
    rw [this, hd]
    cases neg <;> rfl
theorem od_is : OpD X W (compareOp .Is) (fun a b s => lift (isD false a b) s) := by
  refine OpD.pure (op_isN.or op_isBl) fun a b d x y w H Q i j e q => ?_
  cases b with
  | non =>
    have z := isD_non i e
    subst z
    exact .inl ⟨isR_non j, wish_now q (is_bl _)⟩
  | bl k => cases a with
    | bl l =>
      cases e
      exact .inr ⟨l, k, isR_bl i, isR_bl j, wish_now q (is_bl _)⟩
    | _ => cases e
  | _ => cases e
theorem od_isnot : OpD X W (compareOp .IsNot) (fun a b s => lift (isD true a b) s) := by
  refine OpD.pure (op_notN.or op_notBl) fun a b d x y w H Q i j e q => ?_
  cases b with
  | non =>
    have z := isD_non i e
    subst z
    exact .inl ⟨isR_non j, wish_now q (is_bl _)⟩
  | bl k => cases a with
    | bl l =>
      cases e
      exact .inr ⟨l, k, isR_bl i, isR_bl j, wish_now q (is_bl _)⟩
    | _ => cases e
  | _ => cases e
end
end Qd
namespace Qd
open PySem PySem.Spec PyProof.Rows L2
section
variable {X : Cx} {W : WX} {K : PySem.W.Frag} {w : Wd} {H : Hp} {e a b : Expr} {es : List Expr} {f fa fb : M D} {fl : M (List D)} {pos p : Pos} {x : Str}
/-! ### places -/
theorem isL_atI {ds : List D} {xs : List V} {k : Int} {d : D} (h : IsL K w H ds xs) (e : atI ds k = some d) : ∃ v, atI xs k = some v ∧ Is K w H d v := by
  unfold atI at e ⊢
  rw [isL_len h]
  cases q : ixN ds.length k with
  | none => rw [q] at e; cases e
  | some j =>
    rw [q] at e
    exact isL_get h e
theorem atI_map {α β : Type} (g : α → β) (xs : List α) (k : Int) : atI (xs.map g) k = (atI xs k).map g := by
  unfold atI
  rw [List.length_map]
  cases ixN xs.length k with
  | none => rfl
  | some j => simp
def ixD (a i : D) (s : S) : Option D := match a, i with
  | .lst ds, .int k => atI ds k
  | .tup ds, .int k => atI ds k
  | .str z, .int k => if sz z.length = true then (atI z.cps.toList k).map fun c => .str ⟨#[c]⟩ else none
  | .scr ns, .int k => (atI ns k).map .int
  | .loc n, .int k => (match s.m n with
    | some (.lst ds) => atI ds k
    | _ => none)
  | _, _ => none
theorem loc_lst {s : S} {n : Nat} {ds : List D} {v : V} (st : StOk K w s H) (i : IsR K w H (.loc n) v) (e : s.m n = some (.lst ds)) : v = .ref (w.ro n) ∧ ∃ xs, H (w.ro n) = some (.lst xs) ∧ IsL K w H ds xs := by
  simp only [IsR, Is] at i
  obtain ⟨_, _, c⟩ := st.live n _ e
  exact ⟨i.2, c⟩
theorem de_ix (ha : DR X W a fa) (hb : DR X W b fb) (hs : PlainIx b := by intro _ _; rfl) : DE X W (.Subscript a b pos) (xBin (fun x y s => lift (ixD x y s) s) fa fb) := by
  obtain ⟨ta, pa, ra⟩ := ha
  obtain ⟨tb, pb, rb⟩ := hb
  refine ⟨_, pe_ix ix_seq pa pb hs, run_bin ra rb fun a b x y s w H σ Q st i j hp => ?_⟩
  obtain ⟨d, e, q⟩ := post_lift hp
  have key : ∀ {v : V}, Is X.K w H d v → Q v H := fun i => Wish.now q st i
  cases b with
  | int k =>
    have hy := isR_int j
    cases a with
    | lst ds =>
      obtain ⟨a1, xs, rfl, h1, i1⟩ := isR_lst i
      obtain ⟨v, e1, iv⟩ := isL_atI i1 e
      exact .inl ⟨a1, xs, k, v, rfl, hy, SqL.of h1, e1, key iv⟩
    | tup ds =>
      obtain ⟨a1, xs, rfl, h1, i1⟩ := isR_tup i
      obtain ⟨v, e1, iv⟩ := isL_atI i1 e
      exact .inr (.inl ⟨a1, xs, k, v, rfl, hy, h1, e1, key iv⟩)
    | str z =>
      simp only [ixD] at e
      split at e
      · rename_i hz
        rw [Option.map_eq_some_iff] at e
        obtain ⟨c, e1, rfl⟩ := e
        exact .inr (.inr ⟨z, k, c, isR_str i, hy, sz_line hz, e1, key (is_str _)⟩)
      · cases e
    | scr ns =>
      simp only [ixD, Option.map_eq_some_iff] at e
      obtain ⟨c, e1, rfl⟩ := e
      obtain ⟨a1, rfl, h1⟩ := isR_scr i
      exact .inl ⟨a1, _, k, .int c, rfl, hy, h1, by rw [atI_map, e1]; rfl, key (is_int _)⟩
    | loc n =>
      simp only [ixD] at e
      split at e
      · rename_i ds hm
        obtain ⟨rfl, xs, h1, i1⟩ := loc_lst st i hm
        obtain ⟨v, e1, iv⟩ := isL_atI i1 e
        exact .inl ⟨_, xs, k, v, rfl, hy, SqL.of h1, e1, key iv⟩
      · cases e
    | _ => cases e
  | _ => cases a <;> cases e

/-! ### slices -/
def DO (X : Cx) (W : WX) (e : Option Expr) (f : M (Option Int)) : Prop := ∃ t : TO, PO X e t ∧ Run X.K (fun _ _ a b => a = b) W t f
def xNo : M (Option Int) := fun _ s => .ok none s
def xPart (f : M D) : M (Option Int) := fun G s => (f G s).bind fun d s => match d with
  | .int i => .ok (some i) s
  | _ => .fail
theorem do_none : DO X W none xNo := ⟨_, po_none, fun G s w H σ Q st en hp => Wish.now (a := (none : Option Int)) (s := s) hp st rfl⟩
theorem do_some (h : DE X W e f) : DO X W (some e) (xPart f) := by
  obtain ⟨t, p, r⟩ := h
  refine ⟨_, po_some p, ?_⟩
  refine Run.seq (f2 := fun d _ s => match d with | .int i => .ok (some i) s | _ => .fail) (t2 := fun x (σ : L2.St) (H1 : Hp) (Q : Option Int → Hp → Prop) => ∃ i, x = V.int i ∧ Q (some i) H1) r fun d x G s w H σ Q st en i hp => ?_
  cases d with
  | int k =>
    simp only [Is] at i
    exact ⟨k, i, Wish.now (a := some k) (s := s) hp st rfl⟩
  | _ => exact absurd hp id
def cutG {α : Type} (xs : List α) (lo hi : Option Int) : List α := (xs.drop (HT.sIx xs.length 0 lo)).take (HT.sIx xs.length xs.length hi - HT.sIx xs.length 0 lo)
theorem cutV_eq (xs : List V) (lo hi : Option Int) : cutV xs lo hi = cutG xs lo hi := rfl
theorem isL_cut {ds : List D} {xs : List V} (lo hi : Option Int) (h : IsL K w H ds xs) : IsL K w H (cutG ds lo hi) (cutV xs lo hi) := by
  rw [cutV_eq]
  unfold cutG
  rw [isL_len h]
  exact isL_take _ (isL_drop _ h)
theorem cut_all {α : Type} {xs : List α} {lo hi : Option Int} (h : HT.sIx xs.length 0 lo = 0 ∧ HT.sIx xs.length xs.length hi = xs.length) : cutG xs lo hi = xs := by
  unfold cutG
  rw [h.1, h.2]
  simp
theorem cut_map {α β : Type} (g : α → β) (xs : List α) (lo hi : Option Int) : cutG (xs.map g) lo hi = (cutG xs lo hi).map g := by
  unfold cutG
  rw [List.length_map, ← List.map_drop, ← List.map_take]
def slD (a : D) (lo hi : Option Int) : Option D := match a with
  | .lst ds => some (.lst (cutG ds lo hi))
  | .tup ds => some (.tup (cutG ds lo hi))
  | .scr ns => some (.lst ((cutG ns lo hi).map .int))
  | .str z => if sz z.length = true then some (.str (cutS z lo hi)) else none
  | _ => none
def xSl (fa : M D) (fl fh : M (Option Int)) : M D := fun G s => (fa G s).bind fun a s1 => (fl G s1).bind fun l s2 => (fh G s2).bind fun h s3 => lift (slD a l h) s3
variable {lo hi : Option Expr} {gl gh : M (Option Int)} {p2 : Pos}
theorem de_sl (ha : DR X W e fa) (hl : DO X W lo gl) (hh : DO X W hi gh) : DE X W (.Subscript e (.Slice lo hi none p2) pos) (xSl fa gl gh) := by
  obtain ⟨ta, pa, ra⟩ := ha
  obtain ⟨tl, pl, rl⟩ := hl
  obtain ⟨th, ph, rh⟩ := hh
  refine ⟨_, pe_slice ((sl_list.or sl_tupA).or sl_str) pa pl ph, ?_⟩
  refine Run.seq (f2 := fun a G s1 => (gl G s1).bind fun l s2 => (gh G s2).bind fun h s3 => lift (slD a l h) s3) (t2 := fun x σ H1 Q => tl σ H1 fun l H2 => th σ H2 fun u H3 => (rSlL X.K x l u H3 Q ∨ rSlA X.K x l u H3 Q) ∨ rSlS x l u H3 Q) ra fun a x G s w H σ Q st en i hp => ?_
  refine rl G s w H σ _ st en (hp.bind.imp (fun l s1 q w1 H1 l' le1 st1 el => ?_) fun _ _ _ q => q)
  subst el
  refine rh G s1 w1 H1 σ _ st1 (en.le le1) (q.bind.imp (fun h s2 q w2 H2 h' le2 st2 eh => ?_) fun _ _ _ q => q.le le1)
  subst eh
  have i2 := (i.le le1).le le2
  have le12 := le1.trans le2
  obtain ⟨d, e, q⟩ := post_lift q
  cases a with
  | lst ds =>
    cases e
    obtain ⟨a1, xs, rfl, h1, i1⟩ := isR_lst i2
    exact .inl (.inl ⟨a1, xs, rfl, SqL.of h1, fun p hp => q _ _ _ (le12.trans (le_new hp)) (st_new st2 hp) (is_lstN hp (isL_cut l h i1))⟩)
  | tup ds =>
    cases e
    obtain ⟨a1, xs, rfl, h1, i1⟩ := isR_tup i2
    refine .inl (.inr ⟨a1, xs, rfl, h1, fun hw => ?_, fun _ p hp => q _ _ _ (le12.trans (le_new hp)) (st_new st2 hp) (is_tupN hp (isL_cut l h i1))⟩)
    rw [isL_len i1] at hw
    rw [cut_all hw] at q
    exact q w2 H2 _ le12 st2 i2
  | scr ns =>
    cases e
    obtain ⟨a1, rfl, h1⟩ := isR_scr i2
    refine .inl (.inl ⟨a1, _, rfl, h1, fun p hp => q _ _ _ (le12.trans (le_new hp)) (st_new st2 hp) (is_lstN hp ?_)⟩)
    rw [cutV_eq, cut_map]
    exact isL_ints _
  | str z =>
    simp only [slD] at e
    split at e
    · cases e
      rename_i hz
      exact .inr ⟨z, isR_str i2, sz_line hz, q w2 H2 _ le12 st2 (is_str _)⟩
    · cases e
  | _ => cases e

/-! ### attributes -/
theorem isF_lookup : ∀ {fs : List (Str × D)} {as : List (Str × V)} {n : Str} {d : D}, IsF K w H fs as → fs.lookup n = some d → ∃ v, as.lookup n = some v ∧ Is K w H d v
  | [], _, _, _, _, e => by cases e
  | (f, d) :: r, as, n, d', h, e => by
    simp only [IsF] at h
    rw [List.lookup_cons] at e
    cases q : n == f with
    | true =>
      rw [q] at e
      cases e
      obtain rfl := eq_of_beq q
      exact h.1
    | false =>
      rw [q] at e
      exact isF_lookup h.2 e
def atD (n : Str) (a : D) : Option D := match a with
  | .obj _ fs => fs.lookup n
  | _ => none
def xAttr (n : Str) (fa : M D) : M D := fun G s => (fa G s).bind fun d s => lift (atD n d) s
theorem de_attr {n : Str} (ha : DE X W e fa) (hb : attributeBase e n X.env (eval e X.env) = eval e X.env := by rfl) : DE X W (.Attribute e n pos) (xAttr n fa) := by
  obtain ⟨t, p, r⟩ := ha
  refine ⟨_, pe_fld p hb, ?_⟩
  refine Run.seq (f2 := fun d _ s => lift (atD n d) s) (t2 := fun x (σ : L2.St) (H1 : Hp) (Q : VK) => ∃ a C dx fs v, x = .ref a ∧ H1 a = some (.ins C dx fs) ∧ Cls X.K C ∧ NoAttr X.K C n ∧ fs.lookup n = some v ∧ Q v H1) r fun d x G s w H σ Q st en i hp => ?_
  obtain ⟨d', e, q⟩ := post_lift hp
  cases d with
  | obj c fs =>
    simp only [Is] at i
    obtain ⟨a, dx, as, ex, fz, h1, ci, na, i1⟩ := i
    obtain ⟨v, e1, iv⟩ := isF_lookup i1 e
    exact ⟨a, _, dx, as, v, ex, h1, ci.cl, na n v e1, e1, Wish.now q st iv⟩
  | _ => cases e

/-! ### arguments read now; built-in functions -/
def IsLR (K : PySem.W.Frag) (w : Wd) (H : Hp) : List D → List V → Prop
  | [], xs => xs = []
  | d :: ds, xs => ∃ v r, xs = v :: r ∧ IsR K w H d v ∧ IsLR K w H ds r
def DAR (X : Cx) (W : WX) (es : List Expr) (f : M (List D)) : Prop := ∃ t : TA, PA X es t ∧ Run X.K (IsLR X.K) W t f
theorem dar_nil : DAR X W [] xNil := ⟨_, pa_nil, fun G s w H σ Q st en hp => Wish.now (a := ([] : List D)) (s := s) hp st rfl⟩
theorem dar_cons (h : DR X W e f) (h2 : DAR X W es fl) (hs : starEach (e :: es) X.env = (false, eval e X.env) :: starEach es X.env := by rfl) : DAR X W (e :: es) (xCons f fl) := by
  obtain ⟨t, p, r⟩ := h
  obtain ⟨u, q, r2⟩ := h2
  refine ⟨_, pa_cons p q hs, ?_⟩
  refine Run.seq (f2 := fun d G s1 => (fl G s1).bind fun ds s2 => .ok (d :: ds) s2) (t2 := fun x σ H1 Q => u σ H1 fun xs H2 => Q (x :: xs) H2) r fun d x G s w H σ Q st en i hp => ?_
  refine r2 G s w H σ _ st en (hp.bind.imp (fun ds s1 q w1 H1 xs l st1 il => ?_) fun _ _ _ q => q)
  exact q w1 H1 (x :: xs) l st1 ⟨x, xs, rfl, i.le l, il⟩
/-- a built-in, called on data -/
def CbD (X : Cx) (W : WX) (f : Value) (g : List D → S → Option D) : Prop := ∃ r, CallR X f r ∧
  ∀ (ds : List D) (vs : List V) (s : S) (w : Wd) (H : Hp) (Q : VK) (d : D), StOk X.K w s H → IsLR X.K w H ds vs → g ds s = some d → (∀ w' H' v, Le w H w' H' → StOk X.K w' s H' → Is X.K w' H' d v → Q v H') → r vs H Q
def xCall (g : List D → S → Option D) (fl : M (List D)) : M D := fun G s => (fl G s).bind fun ds s => lift (g ds s) s
theorem run_cb {r : List V → Hp → VK → Prop} {t : TA} {g : List D → S → Option D} (ra : Run X.K (IsLR X.K) W t fl)
    (hr : ∀ (ds : List D) (vs : List V) (s : S) (w : Wd) (H : Hp) (Q : VK) (d : D), StOk X.K w s H → IsLR X.K w H ds vs → g ds s = some d → (∀ w' H' v, Le w H w' H' → StOk X.K w' s H' → Is X.K w' H' d v → Q v H') → r vs H Q) :
    Run X.K (Is X.K) W (tCB r t) (xCall g fl) := by
  refine Run.seq (f2 := fun ds _ s => lift (g ds s) s) (t2 := fun vs (σ : L2.St) (H1 : Hp) (Q : VK) => r vs H1 Q) ra fun ds vs G s w H σ Q st en i hp => ?_
  obtain ⟨d, e, q⟩ := post_lift hp
  exact hr ds vs s w H Q d st i e fun w' H' v l st' iv => q w' H' v l st' iv
theorem de_cb {id : String} {g : List D → S → Option D} (hc : CbD X W (.builtin id) g) (hg : Gl X x) (hm : X.mg x = none) (hv : bootBuiltins x = some (.builtin id)) (ha : DAR X W (e :: es) fl) (hn : x ≠ "__name__" := by decide) (hdb : (x == ("__debug__" : Str)) = false := by decide)
    (he : starEach (e :: es) X.env = (false, eval e X.env) :: starEach es X.env := by rfl) (hpl : (backTo pos (starEach es X.env)).any (·.1) = false := by rfl) : DE X W (.Call (.Name x p) (e :: es) [] pos) (xCall g fl) := by
  obtain ⟨t, pa, ra⟩ := ha
  obtain ⟨r, cr, hr⟩ := hc
  exact ⟨_, pe_callB cr hg hm hv pa hn hdb he hpl, run_cb ra hr⟩
theorem de_cty {T : String} {g : List D → S → Option D} (hc : CbD X W (.type T) g) (hg : Gl X x) (hm : X.mg x = none) (hv : bootBuiltins x = some (.type T)) (ha : DAR X W (e :: es) fl) (hn : x ≠ "__name__" := by decide) (hdb : (x == ("__debug__" : Str)) = false := by decide)
    (he : starEach (e :: es) X.env = (false, eval e X.env) :: starEach es X.env := by rfl) (hpl : (backTo pos (starEach es X.env)).any (·.1) = false := by rfl) : DE X W (.Call (.Name x p) (e :: es) [] pos) (xCall g fl) := by
  obtain ⟨t, pa, ra⟩ := ha
  obtain ⟨r, cr, hr⟩ := hc
  exact ⟨_, pe_callTy cr hg hm hv pa hn hdb he hpl, run_cb ra hr⟩
theorem isLR1 {d : D} {vs : List V} (h : IsLR K w H [d] vs) : ∃ v, vs = [v] ∧ IsR K w H d v := by
  obtain ⟨v, r, e, i, j⟩ := h
  obtain rfl : r = [] := j
  exact ⟨v, e, i⟩
theorem isLR2 {d d' : D} {vs : List V} (h : IsLR K w H [d, d'] vs) : ∃ v v', vs = [v, v'] ∧ IsR K w H d v ∧ IsR K w H d' v' := by
  obtain ⟨v, r, e, i, j⟩ := h
  obtain ⟨v', e', i'⟩ := isLR1 j
  exact ⟨v, v', by rw [e, e'], i, i'⟩
def lenD (ds : List D) (s : S) : Option D := match ds with
  | [.str z] => if sz z.length = true then some (.int z.length) else none
  | [.lst xs] => some (.int xs.length)
  | [.tup xs] => some (.int xs.length)
  | [.scr xs] => some (.int xs.length)
  | [.loc n] => (match s.m n with
    | some (.lst ds) => some (.int ds.length)
    | _ => none)
  | _ => none
theorem cb_len : CbD X W (.builtin "len") lenD := by
  refine ⟨_, call_len, fun ds vs s w H Q d st i e q => ?_⟩
  unfold lenD at e
  split at e
  · split at e
    · cases e
      rename_i z hz
      obtain ⟨v, rfl, iv⟩ := isLR1 i
      rw [isR_str iv]
      exact ⟨_, _, rfl, ⟨sz_line hz, rfl⟩, q w H _ (Le.refl w H) st (is_int _)⟩
    · cases e
  · cases e
    obtain ⟨v, rfl, iv⟩ := isLR1 i
    obtain ⟨a1, xs, rfl, h1, i1⟩ := isR_lst iv
    exact ⟨_, _, rfl, .inl ⟨xs, SqL.of h1, rfl⟩, q w H _ (Le.refl w H) st (by rw [isL_len i1]; exact is_int _)⟩
  · cases e
    obtain ⟨v, rfl, iv⟩ := isLR1 i
    obtain ⟨a1, xs, rfl, h1, i1⟩ := isR_tup iv
    exact ⟨_, _, rfl, .inr ⟨xs, h1, rfl⟩, q w H _ (Le.refl w H) st (by rw [isL_len i1]; exact is_int _)⟩
  · cases e
    obtain ⟨v, rfl, iv⟩ := isLR1 i
    obtain ⟨a1, rfl, h1⟩ := isR_scr iv
    exact ⟨_, _, rfl, .inl ⟨_, h1, rfl⟩, q w H _ (Le.refl w H) st (by rw [List.length_map]; exact is_int _)⟩
  · split at e
    · cases e
      rename_i n ds hm
      obtain ⟨v, rfl, iv⟩ := isLR1 i
      obtain ⟨rfl, xs, h1, i1⟩ := loc_lst st iv hm
      exact ⟨_, _, rfl, .inl ⟨xs, SqL.of h1, rfl⟩, q w H _ (Le.refl w H) st (by rw [isL_len i1]; exact is_int _)⟩
    · cases e
  · cases e
def intC (ds : List D) (_ : S) : Option D := match ds with
  | [.int i] => some (.int i)
  | _ => none
theorem cb_int : CbD X W (.type "int") intC := by
  refine ⟨_, call_int1, fun ds vs s w H Q d st i e q => ?_⟩
  unfold intC at e
  split at e
  · cases e
    obtain ⟨v, rfl, iv⟩ := isLR1 i
    rw [isR_int iv]
    exact .inl ⟨_, rfl, q w H _ (Le.refl w H) st (is_int _)⟩
  · cases e
def absC (ds : List D) (_ : S) : Option D := match ds with
  | [.int i] => some (.int (if i < 0 then -i else i))
  | _ => none
theorem cb_abs : CbD X W (.builtin "abs") absC := by
  refine ⟨_, call_abs, fun ds vs s w H Q d st i e q => ?_⟩
  unfold absC at e
  split at e
  · cases e
    obtain ⟨v, rfl, iv⟩ := isLR1 i
    rw [isR_int iv]
    exact ⟨_, rfl, q w H _ (Le.refl w H) st (is_int _)⟩
  · cases e
def max2C (ds : List D) (_ : S) : Option D := match ds with
  | [.int i, .int j] => some (.int (if j > i then j else i))
  | _ => none
def min2C (ds : List D) (_ : S) : Option D := match ds with
  | [.int i, .int j] => some (.int (if j < i then j else i))
  | _ => none
theorem cb_max2 (hc : X.calm = true) : CbD X W (.builtin "max") max2C := by
  refine ⟨_, call_max2 hc, fun ds vs s w H Q d st i e q => ?_⟩
  unfold max2C at e
  split at e
  · cases e
    obtain ⟨v, v', rfl, iv, iv'⟩ := isLR2 i
    rw [isR_int iv, isR_int iv']
    exact ⟨_, _, rfl, q w H _ (Le.refl w H) st (is_int _)⟩
  · cases e
theorem cb_min2 (hc : X.calm = true) : CbD X W (.builtin "min") min2C := by
  refine ⟨_, call_min2 hc, fun ds vs s w H Q d st i e q => ?_⟩
  unfold min2C at e
  split at e
  · cases e
    obtain ⟨v, v', rfl, iv, iv'⟩ := isLR2 i
    rw [isR_int iv, isR_int iv']
    exact ⟨_, _, rfl, q w H _ (Le.refl w H) st (is_int _)⟩
  · cases e
def sumC (ds : List D) (_ : S) : Option D := match ds with
  | [.lst xs] => (ints? xs).map fun ns => .int ns.sum
  | _ => none
theorem cb_sum (hc : X.calm = true) : CbD X W (.builtin "sum") sumC := by
  refine ⟨_, cr_sum hc, fun ds vs s w H Q d st i e q => ?_⟩
  unfold sumC at e
  split at e
  · rw [Option.map_eq_some_iff] at e
    obtain ⟨ns, e1, rfl⟩ := e
    obtain ⟨v, rfl, iv⟩ := isLR1 i
    obtain ⟨a1, xs, rfl, h1, i1⟩ := isR_lst iv
    rw [ints_is i1 e1] at h1
    exact ⟨a1, ns, rfl, SqL.of h1, q w H _ (Le.refl w H) st (is_int _)⟩
  · cases e
def allC (ds : List D) (_ : S) : Option D := match ds with
  | [.lst xs] => (bls? xs).map fun bs => .bl (bs.all id)
  | _ => none
theorem cb_all (hc : X.calm = true) : CbD X W (.builtin "all") allC := by
  refine ⟨_, cr_all hc, fun ds vs s w H Q d st i e q => ?_⟩
  unfold allC at e
  split at e
  · rw [Option.map_eq_some_iff] at e
    obtain ⟨ns, e1, rfl⟩ := e
    obtain ⟨v, rfl, iv⟩ := isLR1 i
    obtain ⟨a1, xs, rfl, h1, i1⟩ := isR_lst iv
    rw [bls_is i1 e1] at h1
    exact ⟨a1, ns, rfl, SqL.of h1, q w H _ (Le.refl w H) st (is_bl _)⟩
  · cases e
def anyC (ds : List D) (_ : S) : Option D := match ds with
  | [.lst xs] => (bls? xs).map fun bs => .bl (bs.any id)
  | _ => none
theorem cb_any (hc : X.calm = true) : CbD X W (.builtin "any") anyC := by
  refine ⟨_, cr_any hc, fun ds vs s w H Q d st i e q => ?_⟩
  unfold anyC at e
  split at e
  · rw [Option.map_eq_some_iff] at e
    obtain ⟨ns, e1, rfl⟩ := e
    obtain ⟨v, rfl, iv⟩ := isLR1 i
    obtain ⟨a1, xs, rfl, h1, i1⟩ := isR_lst iv
    rw [bls_is i1 e1] at h1
    exact ⟨a1, ns, rfl, SqL.of h1, q w H _ (Le.refl w H) st (is_bl _)⟩
  · cases e
def maxI : List Int → Option Int
  | [] => none
  | i :: r => some (r.foldl (fun m j => if m < j then j else m) i)
theorem fold_max : ∀ (r : List Int) (i : Int), i ≤ r.foldl (fun m j => if m < j then j else m) i ∧ (∀ y ∈ r, y ≤ r.foldl (fun m j => if m < j then j else m) i) ∧ (r.foldl (fun m j => if m < j then j else m) i = i ∨ r.foldl (fun m j => if m < j then j else m) i ∈ r)
  | [], i => by simp
  | j :: r, i => by
    obtain ⟨h1, h2, h3⟩ := fold_max r (if i < j then j else i)
    simp only [List.foldl_cons]
    have h4 : i ≤ (if i < j then j else i) ∧ j ≤ (if i < j then j else i) := by split <;> omega
    refine ⟨Int.le_trans h4.1 h1, fun y hy => ?_, ?_⟩
    · rcases List.mem_cons.mp hy with rfl | hy
      · exact Int.le_trans h4.2 h1
      · exact h2 y hy
    · rcases h3 with h3 | h3
      · rw [h3]
        split
        · exact .inr List.mem_cons_self
        · exact .inl rfl
      · exact .inr (List.mem_cons_of_mem _ h3)
theorem maxI_ok {ns : List Int} {m : Int} (h : maxI ns = some m) : m ∈ ns ∧ ∀ y ∈ ns, y ≤ m := by
  cases ns with
  | nil => cases h
  | cons i r =>
    cases h
    obtain ⟨h1, h2, h3⟩ := fold_max r i
    refine ⟨?_, fun y hy => ?_⟩
    · rcases h3 with h3 | h3
      · rw [h3]; exact List.mem_cons_self
      · exact List.mem_cons_of_mem _ h3
    · rcases List.mem_cons.mp hy with rfl | hy
      · exact h1
      · exact h2 y hy
def maxC (ds : List D) (_ : S) : Option D := match ds with
  | [.lst xs] => (ints? xs).bind fun ns => (maxI ns).map .int
  | _ => none
theorem cb_max (hc : X.calm = true) : CbD X W (.builtin "max") maxC := by
  refine ⟨_, cr_max hc, fun ds vs s w H Q d st i e q => ?_⟩
  unfold maxC at e
  split at e
  · rw [Option.bind_eq_some_iff] at e
    obtain ⟨ns, e1, e2⟩ := e
    rw [Option.map_eq_some_iff] at e2
    obtain ⟨m, e2, rfl⟩ := e2
    obtain ⟨v, rfl, iv⟩ := isLR1 i
    obtain ⟨a1, xs, rfl, h1, i1⟩ := isR_lst iv
    rw [ints_is i1 e1] at h1
    obtain ⟨m1, m2⟩ := maxI_ok e2
    refine ⟨a1, ns, rfl, SqL.of h1, List.length_pos_of_mem m1, fun m' h1' h2' => ?_⟩
    have : m' = m := Int.le_antisymm (m2 m' h1') (h2' m m1)
    rw [this]
    exact q w H _ (Le.refl w H) st (is_int _)
  · cases e
/-- tuple(x), list(x) -/
def tupC (ds : List D) (_ : S) : Option D := match ds with
  | [.lst xs] => some (.tup xs)
  | [.tup xs] => some (.tup xs)
  | _ => none
theorem cb_tup : CbD X W (.type "tuple") tupC := by
  refine ⟨_, call_tuple_of, fun ds vs s w H Q d st i e q => ?_⟩
  unfold tupC at e
  split at e
  · cases e
    obtain ⟨v, rfl, iv⟩ := isLR1 i
    obtain ⟨a1, xs, rfl, h1, i1⟩ := isR_lst iv
    exact ⟨a1, xs, rfl, .inl ⟨SqL.of h1, fun l hl => q _ _ _ (le_new hl) (st_new st hl) (is_tupN hl i1)⟩⟩
  · cases e
    obtain ⟨v, rfl, iv⟩ := isLR1 i
    obtain ⟨a1, xs, rfl, h1, i1⟩ := isR_tup iv
    exact ⟨a1, xs, rfl, .inr ⟨h1, q w H _ (Le.refl w H) st iv⟩⟩
  · cases e
/-! ### isinstance -/
inductive Tg where
  | ty (n : String) | cl (c : Str)
  deriving DecidableEq
def tagD (s : S) : D → Option Tg
  | .non => some (.ty "NoneType")
  | .bl _ => some (.ty "bool")
  | .int _ => some (.ty "int")
  | .str _ => some (.ty "str")
  | .tup _ => some (.ty "tuple")
  | .lst _ => some (.ty "list")
  | .scr _ => some (.ty "list")
  | .loc n => (match s.m n with
    | some (.lst _) => some (.ty "list")
    | _ => none)
  | .obj c _ => some (.cl c)
  | _ => none
def Tg.v (K : PySem.W.Frag) : Tg → Value
  | .ty n => .type n
  | .cl c => .ref (He.ga K c)
theorem tyX_of {s : S} {d : D} {v : V} {t : Tg} (st : StOk K w s H) (i : IsR K w H d v) (e : tagD s d = some t) : TyX K H v (t.v K) := by
  cases d with
  | non => cases e; rw [isR_non i]; exact .base .non
  | bl b => cases e; rw [isR_bl i]; exact .base (.bl b)
  | int b => cases e; rw [isR_int i]; exact .base (.int b)
  | str b => cases e; rw [isR_str i]; exact .base (.str b)
  | tup ds =>
    cases e
    obtain ⟨a, xs, rfl, h, _⟩ := isR_tup i
    rcases h with (h | ⟨o, h⟩) | ⟨o, its, n, h, c, _⟩
    · exact .base (.tup h)
    · exact .fTuple h
    · exact .kTuple h c
  | lst ds =>
    cases e
    obtain ⟨a, xs, rfl, h, _⟩ := isR_lst i
    exact .base (.lst h)
  | scr ds =>
    cases e
    obtain ⟨a, rfl, h⟩ := isR_scr i
    rcases h with (h | ⟨o, h⟩) | ⟨o, its, n, h, c, _⟩
    · exact .base (.lst h)
    · exact .base (.frz h)
    · exact .kList h c
  | loc n =>
    simp only [tagD] at e
    split at e
    · cases e
      rename_i ds hm
      obtain ⟨rfl, xs, h1, _⟩ := loc_lst st i hm
      exact .base (.lst h1)
    · cases e
  | obj c fs =>
    cases e
    obtain ⟨a, dx, as, rfl, h, ci, _, _⟩ := isR_obj i
    exact .base (.ins h ci.cl ci.ha ci.hn ci.htk ci.hm)
  | _ => cases e
/-- a table: which types are of the class u -/
def TabOk (K : PySem.W.Frag) (u : Value) (tb : List (Tg × Bool)) : Prop := ∀ t b, tb.lookup t = some b → PySem.W.kitOne K (t.v K) u = some b
def isiC (tb : List (Tg × Bool)) (ds : List D) (s : S) : Option D := match ds with
  | [d, _] => (tagD s d).bind fun t => (tb.lookup t).map .bl
  | _ => none
theorem isi_core {tb : List (Tg × Bool)} {u : Value} {x c' d : D} {vs : List V} {s : S} {Q : VK} (ht : TabOk K u tb) (hu : ∀ v, IsR K w H c' v → ClsV v u) (st : StOk K w s H) (i : IsLR K w H [x, c'] vs) (h3 : isiC tb [x, c'] s = some d)
    (q : ∀ w' H' v, Le w H w' H' → StOk K w' s H' → Is K w' H' d v → Q v H') : rIsi K vs H Q := by
  obtain ⟨v, v', rfl, iv, iv'⟩ := isLR2 i
  simp only [isiC, Option.bind_eq_some_iff, Option.map_eq_some_iff] at h3
  obtain ⟨t, e1, b, e2, rfl⟩ := h3
  exact ⟨v, v', _, u, b, rfl, hu v' iv', tyX_of st iv e1, ht t b e2, q w H _ (Le.refl w H) st (is_bl _)⟩
def isiT (T : String) (tb : List (Tg × Bool)) (ds : List D) (s : S) : Option D := match ds with
  | [d, .ty n] => if n = T then isiC tb [d, .ty n] s else none
  | _ => none
def isiK (c : Str) (tb : List (Tg × Bool)) (ds : List D) (s : S) : Option D := match ds with
  | [d, .cls n] => if n = c then isiC tb [d, .cls n] s else none
  | _ => none
theorem cb_isiT {T : String} {tb : List (Tg × Bool)} (ht : TabOk X.K (.type T) tb) : CbD X W (.builtin "isinstance") (isiT T tb) := by
  refine ⟨_, call_isi, fun ds vs s w H Q d st i e q => ?_⟩
  unfold isiT at e
  split at e
  · split at e
    · rename_i h
      subst h
      exact isi_core ht (fun v iv => by rw [isR_ty iv]; exact .ty _) st i e q
    · cases e
  · cases e
theorem cb_isiK {c : Str} {tb : List (Tg × Bool)} (ht : TabOk X.K (.ref (He.ga X.K c)) tb) : CbD X W (.builtin "isinstance") (isiK c tb) := by
  refine ⟨_, call_isi, fun ds vs s w H Q d st i e q => ?_⟩
  unfold isiK at e
  split at e
  · split at e
    · rename_i h
      subst h
      exact isi_core ht (fun v iv => by
        simp only [IsR, Is] at iv
        subst iv
        exact .own _) st i e q
    · cases e
  · cases e
/-- isinstance(x, (A, B)) of built-in types -/
def tyNames : List D → Option (List String)
  | [] => some []
  | .ty n :: r => (tyNames r).map (n :: ·)
  | _ => none
def isiM (Ts : List String) (tb : List (Tg × Bool)) (ds : List D) (s : S) : Option D := match ds with
  | [d, .tup cs] => if tyNames cs = some Ts then (tagD s d).bind fun t => (tb.lookup t).map .bl else none
  | _ => none
theorem tyNames_is : ∀ {ds : List D} {xs : List V} {ns : List String}, IsL K w H ds xs → tyNames ds = some ns → xs = ns.map V.ty
  | [], _, _, h, e => by simp only [IsL] at h; simp only [tyNames] at e; cases e; rw [h]; rfl
  | d :: ds, _, ns, h, e => by
    simp only [IsL] at h
    obtain ⟨v, r, q, i, j⟩ := h
    cases d with
    | ty z =>
      simp only [tyNames, Option.map_eq_some_iff] at e
      obtain ⟨ms, e1, e2⟩ := e
      subst e2 q
      simp only [Is] at i
      rw [tyNames_is j e1, i]; rfl
    | _ => simp [tyNames] at e
theorem clsVs : ∀ ns : List String, Paired ClsV (ns.map V.ty) (ns.map Value.type)
  | [] => .nil
  | n :: r => .cons (.ty n) (clsVs r)
/-- the tuple stands there as it was laid -/
theorem de_isiM {Ts : List String} {tb : List (Tg × Bool)} {kk : Nat} {tpos : Pos} (ht : ∀ t b, tb.lookup t = some b → PySem.W.kitAny X.K (t.v X.K) (Ts.map Value.type) = some b) (hg : Gl X "isinstance") (hm : X.mg "isinstance" = none) (ha : DR X W e fa) (hb : DA X W es fl)
    (he : starEach (e :: [.Tuple es kk tpos]) X.env = (false, eval e X.env) :: starEach [.Tuple es kk tpos] X.env := by rfl) (he2 : starEach [.Tuple es kk tpos] X.env = (false, eval (.Tuple es kk tpos) X.env) :: starEach [] X.env := by rfl)
    (hpl : (backTo pos (starEach [.Tuple es kk tpos] X.env)).any (·.1) = false := by rfl) (hTs : sz Ts.length = true := by rfl) :
    DE X W (.Call (.Name "isinstance" p) [e, .Tuple es kk tpos] [] pos) (fun G s => (fa G s).bind fun d s1 => (fl G s1).bind fun cs s2 => lift (isiM Ts tb [d, .tup cs] s2) s2) := by
  obtain ⟨ta, pa, ra⟩ := ha
  obtain ⟨tb', pb, rb⟩ := hb
  refine ⟨_, pe_callB call_isiT hg hm PyProof.Rows.boot_isinstance (pa_cons pa (pa_cons (pe_tup pb) pa_nil he2) he) (by decide) (by decide) he hpl, ?_⟩
  refine Run.seq (f2 := fun d G s1 => (fl G s1).bind fun cs s2 => lift (isiM Ts tb [d, .tup cs] s2) s2) (t2 := fun x σ H1 Q => tb' σ H1 fun xs H2 => xs.length ≤ sizeLine ∧ ∀ p, H2 p = none → rIsiT X.K [x, .ref p] (upd H2 p (.tup xs)) Q) ra fun d x G s w H σ Q st en i hp => ?_
  refine rb G s w H σ _ st en (hp.bind.imp (fun cs s1 q w1 H1 xs l st1 il => ?_) fun _ _ _ q => q)
  obtain ⟨d', e, q⟩ := post_lift q
  simp only [isiM] at e
  split at e
  · rename_i hT
    simp only [Option.bind_eq_some_iff, Option.map_eq_some_iff] at e
    obtain ⟨t, e1, b, e2, rfl⟩ := e
    have ex := tyNames_is il hT
    subst ex
    have hz : (Ts.map V.ty).length ≤ sizeLine := by rw [List.length_map]; exact sz_line hTs
    refine ⟨hz, fun p hp => ?_⟩
    have st2 := st_new (o := .tup (Ts.map V.ty)) st1 hp
    have i2 := (i.le l).le (le_new (o := .tup (Ts.map V.ty)) hp)
    exact ⟨x, p, _, _, _, b, rfl, upd_same, clsVs Ts, tyX_of st2 i2 e1, ht t b e2, q _ _ _ (l.trans (le_new hp)) st2 (is_bl b)⟩
  · cases e
end
end Qd
namespace Qd
open PySem PySem.Spec PyProof.Rows L2 AutoSeq1
theorem ext_tup (l : Addr) (items : Array Value) (n : Nat) (b : Addr) (od : Option Addr) (sl : Array (Option Value)) (items2 : Array Value) (n2 : Nat) (hs0 : ¬(!items.isEmpty && Builtin.List.listTooLong (items.size + items2.size)) = true) (hs1 : items.size ≤ sizeLine) (hs2 : items.size + items2.size ≤ sizeLine + 1) :
    Meets (Builtin.«list.extend» ⟨[.ref l, .ref b], []⟩) (fun _ R s => s.heap.get? l = some { cls := .type "list", dict := none, data := .seq items n, slots := #[] } ∧ s.heap.get? b = some { cls := .type "tuple", dict := od, data := .seq items2 n2, slots := sl } ∧ R (.ok (.ret Value.none)) { s with heap := s.heap.update l (Obj.mapSeq fun x => x ++ items2), toks := s.toks }) :=
  .of_wp fun prog w A R s h => by
    obtain ⟨hp, g, d, tk, os⟩ := s; obtain ⟨hl, hb, h⟩ := h; have f1 := idx_int; have f2 := AutoSeq1.sub_tuple_tuple; have f3 := AutoSeq1.sub_list_list; have f4 := AutoSeq1.sub_tuple_list; have f5 := AutoSeq1.sub_list_tuple;
    have hz' : (items ++ items2).size ≤ sizeLine + 1 := by rw [Array.size_append]; exact hs2
    wp_walk using (wpAny_updateSeq hl rfl (hz := hs1) (_hz' := hz')), wpAny_loadPart' hl, wpAny_loadPart' hb; exact ⟨_, rfl, h⟩
section
variable {X : Cx}
def rExtT (K : PySem.W.Frag) : V → List V → Hp → VK → Prop := fun x vs H Q => ∃ l b xs zs, x = .ref l ∧ vs = [.ref b] ∧ H l = some (.lst xs) ∧ SqT K H b zs ∧ xs.length + zs.length ≤ sizeLine ∧ Q .non (upd H l (.lst (xs ++ zs)))
theorem mt_extT : MtM X "list.extend" (rExtT X.K) := by
  intro pins s σ H x vs v us Q I rx rv h
  obtain ⟨l, b, xs, zs, rfl, rfl, hH, hB, hz, q⟩ := h
  cases rx
  obtain ⟨u, rfl, ru⟩ := rv.one
  cases ru
  obtain ⟨z, its, n, r, hl, e⟩ := I.lstM hH
  obtain ⟨its2, r2, ⟨o2, e2, hc2, n2, hd2⟩, _⟩ := I.tuple hB
  obtain ⟨oc, od, dt, sl⟩ := o2
  simp only at hc2 hd2
  subst hc2 hd2
  have hl2 := r2.length
  have hsz : its.toArray.size + its2.toArray.size ≤ sizeLine := by rw [List.size_toArray, List.size_toArray]; omega
  have hlong : ¬ (!its.toArray.isEmpty && Builtin.List.listTooLong (its.toArray.size + its2.toArray.size)) = true := by
    rw [notLongL hsz, Bool.and_false]
    exact Bool.false_ne_true
  refine call_meets F.slot_list_extend ⟨_, e, rfl⟩ F.entry_list_extend (F.args_list_extend_2 _ _)
    (ext_tup l its.toArray n b od sl its2.toArray n2 hlong (by rw [List.size_toArray]; omega) (by omega)) ⟨e, e2, ?_⟩
  refine ⟨.non, _, I.lset (its' := its ++ its2) hH e (by simp) (r.append r2) ?_, rfl, q⟩
  rw [List.length_append]
  omega
end
end Qd
namespace Qd
open PySem PySem.Spec PyProof.Rows L2
/-! ### what a def promises -/
def spD (K : PySem.W.Frag) (F : List D → S → Out D) : Sp := fun vs H Q E => ∃ w s ds, StOk K w s H ∧ IsL K w H ds vs ∧
  Post (F ds s) (Wish K (Is K) w H Q) (fun c fs s' => ∀ w' H' da, Le w H w' H' → StOk K w' s' H' → ExAt K w' H' da fs → E (.ref (He.ga K c)) (some da) H')
/-- __init__: the fields of the new instance -/
def spI (K : PySem.W.Frag) (c : Str) (F : List D → S → Out (List (Str × D))) : Sp := fun vs H Q E => ∃ x dx vs' H0 w s ds, vs = .ref x :: vs' ∧ H = upd (upd H0 dx (.own x)) x (.ins (He.ga K c) dx []) ∧ H0 x = none ∧ H0 dx = none ∧ dx ≠ x ∧ StOk K w s H0 ∧ IsL K w H0 ds vs' ∧
  Post (F ds s) (fun fs s' => ∀ w' H', Le w H0 w' H' → StOk K w' s' H' → Is K w' H' (.obj c fs) (.ref x) → Q .non H') (fun c' fs s' => ∀ w' H' da, Le w H0 w' H' → StOk K w' s' H' → ExAt K w' H' da fs → E (.ref (He.ga K c')) (some da) H')
abbrev FnD (P : Program) (w : World) (K : PySem.W.Frag) (mg : Str → Option Value) (base : Heap) (k : Nat) (f : Addr) (F : List D → S → Out D) : Prop := FnR P w K mg base (L2.CX P w) k f (spD K F)
abbrev FnI (P : Program) (w : World) (K : PySem.W.Frag) (mg : Str → Option Value) (base : Heap) (k : Nat) (f : Addr) (c : Str) (F : List D → S → Out (List (Str × D))) : Prop := FnR P w K mg base (L2.CX P w) k f (spI K c F)

/-! ### what is called, by values -/
def CalR (X : Cx) (f : Value) (rc : List V → L2.St → Hp → VK → Prop) : Prop := PySem.W.keepIn X.K f = true ∧
  ∀ (pins : List (Addr × Obj)) (s : Shared) (σ : L2.St) (H : Hp) (vs : List V) (us : List Value) (Q : VK), Inv X pins σ H s → Vals vs us → rc vs σ H Q → wpAny (model X.prog X.w) X.A (call f us) (EP X pins σ Q) X.xe s
section
variable {X : Cx} {W : WX} {f : Value} {rc : List V → L2.St → Hp → VK → Prop} {e o : Expr} {es : List Expr} {t : TA} {te : TE} {x m : Str} {p pos apos sp_ : Pos}
theorem pe_cal (hc : CalR X f rc) (hg : Gl X x) (hm : X.mg x = some f) (ha : PA X (e :: es) t) (hdb : (x == ("__debug__" : Str)) = false := by decide) (he : starEach (e :: es) X.env = (false, eval e X.env) :: starEach es X.env := by rfl) (hpl : (backTo pos (starEach es X.env)).any (·.1) = false := by rfl) :
    PE X (.Call (.Name x p) (e :: es) [] pos) (fun σ H Q => t σ H fun vs H1 => rc vs σ H1 Q) := by
  refine ⟨fun pins s σ H Q I h => ?_⟩
  refine wpAny_Call_Name_kw (ld_glob I hg hm ?_ hdb)
  refine PySem.W.callWith_K (h₀ := X.base) I.ok.mod.kin hc.1 (thn (ha.run pos pins s σ H _ I h) fun us s1 ⟨vs, H1, I1, r, q⟩ => ⟨I1.kIn, ?_⟩) he hpl
  exact hc.2 pins s1 σ H1 vs us Q I1 r q
theorem pe_cal0 (hc : CalR X f rc) (hg : Gl X x) (hm : X.mg x = some f) (hdb : (x == ("__debug__" : Str)) = false := by decide) : PE X (.Call (.Name x p) [] [] pos) (fun σ H Q => rc [] σ H Q) := by
  refine ⟨fun pins s σ H Q I h => ?_⟩
  refine wpAny_Call_Name_kw (ld_glob I hg hm ?_ hdb)
  exact PySem.W.callWith_K0 I.kIn hc.1 (hc.2 pins s σ H [] [] Q I .nil h)
/-- f(e, .., *y) -/
theorem pe_calS (hc : CalR X f rc) (hg : Gl X x) (hm : X.mg x = some f) (ha : PA X (e :: es) t) (hdb : (x == ("__debug__" : Str)) = false := by decide) (he : starEach (e :: es) X.env = (false, eval e X.env) :: starEach es X.env := by rfl) (hst : (backTo pos (starEach es X.env)).any (·.1) = true := by rfl) :
    PE X (.Call (.Name x p) (e :: es) [] pos) (fun σ H Q => t σ H fun vs H1 => rc vs σ H1 Q) := by
  refine ⟨fun pins s σ H Q I h => ?_⟩
  refine wpAny_Call_Name_kw (ld_glob I hg hm ?_ hdb)
  refine PySem.W.callWith_S2 (h₀ := X.base) I.ok.mod.kin hc.1 (thn (ha.run pos pins s σ H _ I h) fun us s1 ⟨vs, H1, I1, r, q⟩ => ⟨I1.kIn, ?_⟩) he hst
  exact hc.2 pins s1 σ H1 vs us Q I1 r q
/-- f( *y) -/
theorem pe_calS1 (hc : CalR X f rc) (hg : Gl X x) (hm : X.mg x = some f) (he : PE X e te) (hdb : (x == ("__debug__" : Str)) = false := by decide) (hst : starEach [.Starred e sp_] X.env = [(true, eval e X.env)] := by rfl) :
    PE X (.Call (.Name x p) [.Starred e sp_] [] pos) (fun σ H Q => te σ H fun y H1 => ∃ a xs, y = V.ref a ∧ (SqT X.K H1 a xs ∨ SqL X.K H1 a xs) ∧ rc xs σ H1 Q) := by
  refine ⟨fun pins s σ H Q I h => ?_⟩
  refine wpAny_Call_Name_kw (ld_glob I hg hm ?_ hdb)
  refine PySem.W.callWith_S (h₀ := X.base) I.ok.mod.kin hc.1 (thn (he.run pins s σ H _ I h) fun v s1 ⟨y, H1, I1, ry, a, xs, ey, hxs, q⟩ => ?_) hst
  subst ey
  obtain rfl : v = Value.ref a := ry
  exact StX.star_any I1 hxs fun us s2 I2 rv => ⟨I2.kIn, hc.2 pins s2 σ H1 xs us Q I2 rv q⟩
/-- a def of the text -/
theorem cal_fn {k : Nat} {f : Addr} {sp : Sp} (F : FnR X.prog X.w X.K X.mg X.base (L2.CX X.prog X.w) k f sp) (hr : Room k X.A) (tk : Takes X W) (hk : PySem.W.keepIn X.K (.ref f) = true) : CalR X (.ref f) (fun vs σ H Q => sp vs H Q (fun cls d H' => W cls d σ H')) := by
  refine ⟨hk, fun pins s σ H vs us Q I r h => ?_⟩
  refine wpAny_call (codeAny_mono (F X.A X.stack s H us vs Q _ hr I.env0 r h) fun r s' hq => ?_)
  cases r with
  | error e => exact tk e s' (XE.of_call (E := fun cls d H' => W cls d σ H') I (fun _ _ _ z => z) hq)
  | ok fl =>
    cases fl with
    | ret u => exact I.after hq
    | next => exact False.elim hq
    | brk => exact False.elim hq
    | cont => exact False.elim hq
/-- a class of the text -/
theorem cal_cls {k : Nat} {f C : Addr} {sp : Sp} (M : Mk X.K C f) (F : FnR X.prog X.w X.K X.mg X.base (L2.CX X.prog X.w) k f sp) (hr : Room (k + 1) X.A) (tk : Takes X W) :
    CalR X (.ref C) (fun vs σ H Q => ∀ x dx, H x = none → H dx = none → dx ≠ x → sp (V.ref x :: vs) (upd (upd H dx (.own x)) x (.ins C dx [])) (fun v H2 => v = .non ∧ Q (.ref x) H2) (fun cls d H' => W cls d σ H')) := by
  refine ⟨M.kp, fun pins s σ H vs us Q I r h => ?_⟩
  have hq := h (s.heap.objs.size + 1) s.heap.objs.size (I.hok.fresh (Nat.le_succ _)) (I.hok.fresh (Nat.le_refl _)) (Nat.ne_of_lt (Nat.lt_succ_self _))
  have I2 := Inv.made (C := C) I
  have r2 : Vals (V.ref (s.heap.objs.size + 1) :: vs) (Value.ref (s.heap.objs.size + 1) :: us) := .cons rfl r
  refine wpAny_call (make_map (f := f) I.kIn M.makes M.init (beq_iff_eq.mp M.fn) (codeAny_mono (F _ X.stack _ _ (Value.ref (s.heap.objs.size + 1) :: us) _ _ _ (hr.make C us []) (I2.env0.make C us []) r2 hq) fun r s' hq' => ?_))
  cases r with
  | error e => exact tk e s' (XE.of_call (E := fun cls d H' => W cls d σ H') I2 (fun _ _ _ z => z) hq')
  | ok fl =>
    cases fl with
    | ret u =>
      obtain ⟨v, H', I3, rv, ev, q3⟩ := I2.after hq'
      subst ev
      exact ⟨rv, ⟨V.ref (s.heap.objs.size + 1), H', I3, rfl, q3⟩⟩
    | next => exact False.elim hq'
    | brk => exact False.elim hq'
    | cont => exact False.elim hq'

/-! ### the same on data -/
def CalD (X : Cx) (W : WX) (f : Value) (F : List D → S → Out D) : Prop := ∃ rc, CalR X f rc ∧
  ∀ (ds : List D) (vs : List V) (s : S) (w : Wd) (H : Hp) (σ : L2.St) (Q : VK), StOk X.K w s H → IsL X.K w H ds vs → Post (F ds s) (Wish X.K (Is X.K) w H Q) (Rais X.K w H σ W) → rc vs σ H Q
theorem CalD.fn {k j : Nat} {f : Addr} {F : List D → S → Out D} (h : FnD X.prog X.w X.K X.mg X.base k f F) (hr : Room j X.A) (hj : k ≤ j) (tk : Takes X W) (hk : PySem.W.keepIn X.K (.ref f) = true) : CalD X W (.ref f) F :=
  ⟨_, cal_fn h (hr.mono hj) tk hk, fun ds vs s w H σ Q st i hp => ⟨w, s, ds, st, i, hp⟩⟩
def mkF (c : Str) (F : List D → S → Out (List (Str × D))) : List D → S → Out D := fun ds s => (F ds s).bind fun fs s' => .ok (.obj c fs) s'
theorem CalD.cls {k j : Nat} {f : Addr} {c : Str} {F : List D → S → Out (List (Str × D))} (M : Mk X.K (He.ga X.K c) f) (h : FnI X.prog X.w X.K X.mg X.base k f c F) (hr : Room j X.A) (hj : k + 1 ≤ j) (tk : Takes X W) : CalD X W (.ref (He.ga X.K c)) (mkF c F) := by
  refine ⟨_, cal_cls M h (hr.mono hj) tk, fun ds vs s w H σ Q st i hp x dx hx hdx hne => ?_⟩
  refine ⟨x, dx, vs, H, w, s, ds, rfl, rfl, hx, hdx, hne, st, i, ?_⟩
  exact hp.bind.imp (fun fs s' q w' H' l st' io => ⟨rfl, q w' H' _ l st' io⟩) fun _ _ _ q => q
def xFn (F : List D → S → Out D) (fl : M (List D)) : M D := fun G s => (fl G s).bind fun ds s => F ds s
variable {F : List D → S → Out D} {fl : M (List D)} {fa : M D}
theorem run_cal {t : TA} (ra : Run X.K (IsL X.K) W t fl) (hr : ∀ (ds : List D) (vs : List V) (s : S) (w : Wd) (H : Hp) (σ : L2.St) (Q : VK), StOk X.K w s H → IsL X.K w H ds vs → Post (F ds s) (Wish X.K (Is X.K) w H Q) (Rais X.K w H σ W) → rc vs σ H Q) :
    Run X.K (Is X.K) W (fun σ H Q => t σ H fun vs H1 => rc vs σ H1 Q) (xFn F fl) :=
  Run.seq (f2 := fun ds _ s => F ds s) (t2 := fun vs σ H1 Q => rc vs σ H1 Q) ra fun ds vs G s w H σ Q st en i hp => hr ds vs s w H σ Q st i hp
theorem de_call (hc : CalD X W f F) (hg : Gl X x) (hm : X.mg x = some f) (ha : DA X W (e :: es) fl) (hdb : (x == ("__debug__" : Str)) = false := by decide) (he : starEach (e :: es) X.env = (false, eval e X.env) :: starEach es X.env := by rfl) (hpl : (backTo pos (starEach es X.env)).any (·.1) = false := by rfl) :
    DE X W (.Call (.Name x p) (e :: es) [] pos) (xFn F fl) := by
  obtain ⟨rc, c, hr⟩ := hc
  obtain ⟨t, pa, ra⟩ := ha
  exact ⟨_, pe_cal c hg hm pa hdb he hpl, run_cal ra hr⟩
theorem de_call0 (hc : CalD X W f F) (hg : Gl X x) (hm : X.mg x = some f) (hdb : (x == ("__debug__" : Str)) = false := by decide) : DE X W (.Call (.Name x p) [] [] pos) (xFn F xNil) := by
  obtain ⟨rc, c, hr⟩ := hc
  exact ⟨_, pe_cal0 c hg hm hdb, fun G s w H σ Q st en hp => hr [] [] s w H σ Q st (by simp only [IsL]) hp⟩
theorem de_callS (hc : CalD X W f F) (hg : Gl X x) (hm : X.mg x = some f) (ha : DA X W (e :: es) fl) (hdb : (x == ("__debug__" : Str)) = false := by decide) (he : starEach (e :: es) X.env = (false, eval e X.env) :: starEach es X.env := by rfl) (hst : (backTo pos (starEach es X.env)).any (·.1) = true := by rfl) :
    DE X W (.Call (.Name x p) (e :: es) [] pos) (xFn F fl) := by
  obtain ⟨rc, c, hr⟩ := hc
  obtain ⟨t, pa, ra⟩ := ha
  exact ⟨_, pe_calS c hg hm pa hdb he hst, run_cal ra hr⟩
/-- the items of a starred argument -/
def itemsD (s : S) : D → Option (List D)
  | .lst ds => some ds
  | .tup ds => some ds
  | _ => none
theorem items_is {K : PySem.W.Frag} {w : Wd} {H : Hp} {s : S} {d : D} {ds : List D} {v : V} (i : IsR K w H d v) (e : itemsD s d = some ds) : ∃ a xs, v = .ref a ∧ (SqT K H a xs ∨ SqL K H a xs) ∧ IsL K w H ds xs := by
  cases d with
  | lst l =>
    cases e
    obtain ⟨a, xs, rfl, h, i1⟩ := isR_lst i
    exact ⟨a, xs, rfl, .inr (SqL.of h), i1⟩
  | tup l =>
    cases e
    obtain ⟨a, xs, rfl, h, i1⟩ := isR_tup i
    exact ⟨a, xs, rfl, .inl h, i1⟩
  | _ => cases e
def xStar (f : M D) (g : M (List D)) : M (List D) := fun G s => (f G s).bind fun d s1 => (lift (itemsD s1 d) s1).bind fun xs s1 => (g G s1).bind fun ys s2 => .ok (xs ++ ys) s2
theorem da_star (h : DR X W e fa) (h2 : DA X W es fl) (hs : starEach (.Starred e p :: es) X.env = (true, eval e X.env) :: starEach es X.env := by rfl) : DA X W (.Starred e p :: es) (xStar fa fl) := by
  obtain ⟨t, pe, r⟩ := h
  obtain ⟨u, q, r2⟩ := h2
  refine ⟨_, StX.pa_star pe q hs, ?_⟩
  refine Run.seq (f2 := fun d G s1 => (lift (itemsD s1 d) s1).bind fun xs s1 => (fl G s1).bind fun ys s2 => .ok (xs ++ ys) s2) (t2 := fun x σ H1 Q => ∃ p xs, x = V.ref p ∧ (SqT X.K H1 p xs ∨ SqL X.K H1 p xs) ∧ u σ H1 fun ys H2 => Q (xs ++ ys) H2) r fun d x G s w H σ Q st en i hp => ?_
  obtain ⟨ds, e1, q1⟩ := post_lift hp.bind
  obtain ⟨a, xs, rfl, hx, ix⟩ := items_is i e1
  refine ⟨a, xs, rfl, hx, r2 G s w H σ _ st en (q1.bind.imp (fun es s1 q w1 H1 ys l st1 il => ?_) fun _ _ _ q => q)⟩
  exact q w1 H1 _ l st1 (isL_append (IsL.up l.up ds xs ix) il)
theorem de_callS1 (hc : CalD X W f F) (hg : Gl X x) (hm : X.mg x = some f) (ha : DR X W e fa) (hdb : (x == ("__debug__" : Str)) = false := by decide) (hst : starEach [.Starred e sp_] X.env = [(true, eval e X.env)] := by rfl) :
    DE X W (.Call (.Name x p) [.Starred e sp_] [] pos) (fun G s => (fa G s).bind fun d s => (lift (itemsD s d) s).bind fun ds s => F ds s) := by
  obtain ⟨rc, c, hr⟩ := hc
  obtain ⟨t, pa, ra⟩ := ha
  refine ⟨_, pe_calS1 c hg hm pa hdb hst, ?_⟩
  refine Run.seq (f2 := fun d _ s => (lift (itemsD s d) s).bind fun ds s => F ds s) (t2 := fun y σ H1 Q => ∃ a xs, y = V.ref a ∧ (SqT X.K H1 a xs ∨ SqL X.K H1 a xs) ∧ rc xs σ H1 Q) ra fun d x G s w H σ Q st en i hp => ?_
  obtain ⟨ds, e1, q1⟩ := post_lift hp.bind
  obtain ⟨a, xs, rfl, hx, ix⟩ := items_is i e1
  exact ⟨a, xs, rfl, hx, hr ds xs s w H σ Q st ix q1⟩

/-! ### methods -/
theorem meth_none {K : PySem.W.Frag} {C g : Addr} {m : Str} {as : List (Str × V)} (hm : Meth K C m g) (na : ∀ f u, as.lookup f = some u → NoAttr K C f) : as.lookup m = none := by
  cases q : as.lookup m with
  | none => rfl
  | some v =>
    have z := na m v q
    have y := hm.at_
    unfold NoAttr at z
    rw [z] at y
    cases y
def xMeth (c : Str) (F : List D → S → Out D) (fa : M D) (fl : M (List D)) : M D := fun G s => (fa G s).bind fun d s1 => match d with
  | .obj c' fs => if c' = c then (fl G s1).bind fun ds s2 => F (.obj c' fs :: ds) s2 else .fail
  | _ => .fail
theorem pe_methW {C g : Addr} {ta : TE} {pl : Sem Bool} (he : PE X o ta) (c : Cls X.K C) (hm : Meth X.K C m g) (hc : CalR X (.ref g) rc) (ha : PA X (e :: es) t)
    (hst : starEach (e :: es) X.env = (false, eval e X.env) :: starEach es X.env) (hpl : (backTo pos (starEach es X.env)).any (·.1) = false)
    (ht : eval (.Call (.Attribute o m apos) (e :: es) [] pos) X.env = (do
      let ov ← eval o X.env
      standAt apos.atName
      let (f, first) ← holding [ov] (getMethod ov m pl)
      callWith pos f first (backTo pos (starEach (e :: es) X.env)) (backToKw pos (keywordEach [] X.env)))) :
    PE X (.Call (.Attribute o m apos) (e :: es) [] pos) (fun σ H Q => ta σ H fun x H1 => ∃ a dx fs, x = .ref a ∧ H1 a = some (.ins C dx fs) ∧ fs.lookup m = none ∧ t σ H1 fun vs H2 => rc (x :: vs) σ H2 Q) := by
  refine ⟨fun pins s σ H Q I h => ?_⟩
  refine PySem.W.methodCall_KW (pl := pl) (thn (he.run pins s σ H _ I h) fun u s1 ⟨x, H1, I1, rx, a, dx, fs, ex, ea, l, q⟩ => ?_) ht
  subst ex
  obtain rfl : u = Value.ref a := rx
  refine getmeth_ok I1 ea c hm l ?_
  refine PySem.W.callWith_K (first := [.ref a]) (h₀ := X.base) I.ok.mod.kin hm.kp (thn (ha.run pos pins s1 σ H1 _ I1 q) fun us s2 ⟨vs, H2, I2, r, q2⟩ => ⟨I2.kIn, ?_⟩) hst hpl
  exact hc.2 pins s2 σ H2 (V.ref a :: vs) (.ref a :: us) Q I2 (.cons rfl r) q2
theorem pe_methW0 {C g : Addr} {ta : TE} {pl : Sem Bool} (he : PE X o ta) (c : Cls X.K C) (hm : Meth X.K C m g) (hc : CalR X (.ref g) rc)
    (ht : eval (.Call (.Attribute o m apos) [] [] pos) X.env = (do
      let ov ← eval o X.env
      standAt apos.atName
      let (f, first) ← holding [ov] (getMethod ov m pl)
      callWith pos f first (backTo pos (starEach [] X.env)) (backToKw pos (keywordEach [] X.env)))) :
    PE X (.Call (.Attribute o m apos) [] [] pos) (fun σ H Q => ta σ H fun x H1 => ∃ a dx fs, x = .ref a ∧ H1 a = some (.ins C dx fs) ∧ fs.lookup m = none ∧ rc [x] σ H1 Q) := by
  refine ⟨fun pins s σ H Q I h => ?_⟩
  refine PySem.W.methodCall_KW (pl := pl) (thn (he.run pins s σ H _ I h) fun u s1 ⟨x, H1, I1, rx, a, dx, fs, ex, ea, l, q⟩ => ?_) ht
  subst ex
  obtain rfl : u = Value.ref a := rx
  refine getmeth_ok I1 ea c hm l ?_
  exact PySem.W.callWith_K0 (first := [.ref a]) I1.kIn hm.kp (hc.2 pins s1 σ H1 [V.ref a] [.ref a] Q I1 (.cons rfl .nil) q)
theorem de_meth {c : Str} {g : Addr} {pl : Sem Bool} (he : DE X W o fa) (cl : Cls X.K (He.ga X.K c)) (hm : Meth X.K (He.ga X.K c) m g) (hc : CalD X W (.ref g) F) (ha : DA X W (e :: es) fl)
    (hst : starEach (e :: es) X.env = (false, eval e X.env) :: starEach es X.env := by rfl) (hpl : (backTo pos (starEach es X.env)).any (·.1) = false := by rfl)
    (ht : eval (.Call (.Attribute o m apos) (e :: es) [] pos) X.env = (do
      let ov ← eval o X.env
      standAt apos.atName
      let (f, first) ← holding [ov] (getMethod ov m pl)
      callWith pos f first (backTo pos (starEach (e :: es) X.env)) (backToKw pos (keywordEach [] X.env))) := by rfl) :
    DE X W (.Call (.Attribute o m apos) (e :: es) [] pos) (xMeth c F fa fl) := by
  obtain ⟨rc, cr, hr⟩ := hc
  obtain ⟨ta, pa, ra⟩ := he
  obtain ⟨tb, pb, rb⟩ := ha
  refine ⟨_, pe_methW pa cl hm cr pb hst hpl ht, ?_⟩
  refine Run.seq (f2 := fun d G s1 => match d with | .obj c' fs => if c' = c then (fl G s1).bind fun ds s2 => F (.obj c' fs :: ds) s2 else .fail | _ => .fail)
    (t2 := fun x σ H1 Q => ∃ a dx fs, x = .ref a ∧ H1 a = some (.ins (He.ga X.K c) dx fs) ∧ fs.lookup m = none ∧ tb σ H1 fun vs H2 => rc (x :: vs) σ H2 Q) ra fun d x G s w H σ Q st en i hp => ?_
  cases d with
  | obj c' fs =>
    dsimp only at hp
    split at hp
    · rename_i hcc
      subst hcc
      have i' := i
      simp only [Is] at i'
      obtain ⟨a, dx, as, ex, _, h1, ci, na, _⟩ := i'
      refine ⟨a, dx, as, ex, h1, meth_none hm na, rb G s w H σ _ st en (hp.bind.imp (fun ds s1 q w1 H1 vs l st1 il => ?_) fun _ _ _ q => q)⟩
      refine hr _ _ s1 w1 H1 σ Q st1 ?_ (q.imp (fun _ _ z => z.le l) fun _ _ _ z => z.le l)
      simp only [IsL]
      exact ⟨x, vs, rfl, Is.up l.up _ x i, il⟩
    · exact absurd hp id
  | _ => exact absurd hp id
theorem de_meth0 {c : Str} {g : Addr} {pl : Sem Bool} (he : DE X W o fa) (cl : Cls X.K (He.ga X.K c)) (hm : Meth X.K (He.ga X.K c) m g) (hc : CalD X W (.ref g) F)
    (ht : eval (.Call (.Attribute o m apos) [] [] pos) X.env = (do
      let ov ← eval o X.env
      standAt apos.atName
      let (f, first) ← holding [ov] (getMethod ov m pl)
      callWith pos f first (backTo pos (starEach [] X.env)) (backToKw pos (keywordEach [] X.env))) := by rfl) :
    DE X W (.Call (.Attribute o m apos) [] [] pos) (xMeth c F fa xNil) := by
  obtain ⟨rc, cr, hr⟩ := hc
  obtain ⟨ta, pa, ra⟩ := he
  refine ⟨_, pe_methW0 pa cl hm cr ht, ?_⟩
  refine Run.seq (f2 := fun d G s1 => match d with | .obj c' fs => if c' = c then (xNil G s1).bind fun ds s2 => F (.obj c' fs :: ds) s2 else .fail | _ => .fail)
    (t2 := fun x σ H1 Q => ∃ a dx fs, x = .ref a ∧ H1 a = some (.ins (He.ga X.K c) dx fs) ∧ fs.lookup m = none ∧ rc [x] σ H1 Q) ra fun d x G s w H σ Q st en i hp => ?_
  cases d with
  | obj c' fs =>
    dsimp only at hp
    split at hp
    · rename_i hcc
      subst hcc
      have i' := i
      simp only [Is] at i'
      obtain ⟨a, dx, as, ex, _, h1, ci, na, _⟩ := i'
      refine ⟨a, dx, as, ex, h1, meth_none hm na, hr _ _ s w H σ Q st ?_ hp⟩
      simp only [IsL]
      exact ⟨x, [], rfl, i, rfl⟩
    · exact absurd hp id
  | _ => exact absurd hp id
/-! ### methods of texts -/
def xS1 (g : Str → D → S → Option D) (fo fa : M D) : M D := fun G s => (fo G s).bind fun a s1 => match a with
  | .str z => (fa G s1).bind fun b s2 => lift (g z b s2) s2
  | _ => .fail
def Sm1 (X : Cx) (id : String) (g : Str → D → S → Option D) : Prop := ∃ r, MtR X id r ∧
  ∀ (z : Str) (b : D) (v : V) (s : S) (w : Wd) (H : Hp) (Q : VK) (d : D), StOk X.K w s H → IsR X.K w H b v → g z b s = some d → (∀ w' H' u, Le w H w' H' → StOk X.K w' s H' → Is X.K w' H' d u → Q u H') → r (.str z) [v] H Q
theorem de_s1 {mid : String} {g : Str → D → S → Option D} {fo : M D} (hg : Sm1 X mid g) (slot : Slot "str" m mid) (ty : typeOf (.builtin mid) = pure (.type "method_descriptor")) (ho : DE X W o fo) (he : DR X W e fa)
    (hs : starEach [e] X.env = [(false, eval e X.env)] := by rfl) (hbase : attributeBase o m X.env (eval o X.env) = eval o X.env := by rfl) (hline : (apos.endLine == pos.line) = true := by rfl) :
    DE X W (.Call (.Attribute o m apos) [e] [] pos) (xS1 g fo fa) := by
  obtain ⟨ta, pa, ra⟩ := ho
  obtain ⟨tb, pb, rb⟩ := he
  obtain ⟨r, mr, hr⟩ := hg
  refine ⟨_, pe_m1 slot ty mr pa pb hs hbase hline, ?_⟩
  refine Run.seq (f2 := fun a G s1 => match a with | .str z => (fa G s1).bind fun b s2 => lift (g z b s2) s2 | _ => .fail) (t2 := fun x σ H1 Q => (∃ a, x = .str a) ∧ tb σ H1 fun y H2 => r x [y] H2 Q) ra fun d x G s w H σ Q st en i hp => ?_
  cases d with
  | str z =>
    simp only [Is] at i
    subst i
    refine ⟨⟨z, rfl⟩, rb G s w H σ _ st en (hp.bind.imp (fun b s1 q w1 H1 y l st1 ib => ?_) fun _ _ _ q => q)⟩
    obtain ⟨d', e, q⟩ := post_lift q
    exact hr z b y s1 w1 H1 Q d' st1 ib e fun w' H' u l' st' iu => q w' H' u (l.trans l') st' iu
  | _ => exact absurd hp id
def joinD (z : Str) (b : D) (_ : S) : Option D := match b with
  | .lst xs => (strs? xs).bind fun ys => if (ys.map (·.length)).sum + ys.length * z.length ≤ 16777216 then some (.str (Txt.join z ys)) else none
  | .tup xs => (strs? xs).bind fun ys => if (ys.map (·.length)).sum + ys.length * z.length ≤ 16777216 then some (.str (Txt.join z ys)) else none
  | _ => none
theorem sm_join : Sm1 X "str.join" joinD := by
  refine ⟨_, mt_join, fun z b v s w H Q d st ib e q => ?_⟩
  cases b with
  | lst xs =>
    simp only [joinD, Option.bind_eq_some_iff] at e
    obtain ⟨ys, e1, e2⟩ := e
    split at e2
    · cases e2
      rename_i hz
      obtain ⟨p, vs, rfl, h1, i1⟩ := isR_lst ib
      rw [strs_is i1 e1] at h1
      exact ⟨z, p, ys, rfl, rfl, .inl (SqL.of h1), hz, q w H _ (Le.refl w H) st (is_str _)⟩
    · cases e2
  | tup xs =>
    simp only [joinD, Option.bind_eq_some_iff] at e
    obtain ⟨ys, e1, e2⟩ := e
    split at e2
    · cases e2
      rename_i hz
      obtain ⟨p, vs, rfl, h1, i1⟩ := isR_tup ib
      rw [strs_is i1 e1] at h1
      exact ⟨z, p, ys, rfl, rfl, .inr h1, hz, q w H _ (Le.refl w H) st (is_str _)⟩
    · cases e2
  | _ => cases e
end
end Qd
namespace Qd
open PySem PySem.Spec PyProof.Rows L2

inductive OS where
  | nx (G : List Sl) (s : S) | rt (d : D) (s : S) | bk (G : List Sl) (s : S) | ct (G : List Sl) (s : S)
  | exc (c : Str) (fs : List (Str × D)) (G : List Sl) (s : S) | fail
abbrev MS := List Sl → S → OS

/-- where a body stands: behind its entry (w0, H0) -/
structure Good (K : PySem.W.Frag) (w0 : Wd) (H0 : Hp) (G : List Sl) (s : S) (w : Wd) (H : Hp) (σ : L2.St) : Prop where
  le : Le w0 H0 w H
  st : StOk K w s H
  en : EnvOk K w H G σ
  fr : Fresh H0 G σ
def PostS (K : PySem.W.Frag) (W : WX) (w0 : Wd) (H0 : Hp) (w : Wd) (H : Hp) (Dn : Ends) : OS → Prop
  | .nx G s => ∀ w' H' σ', Up K w H w' H' → Good K w0 H0 G s w' H' σ' → Dn.nx σ' H'
  | .bk G s => ∀ w' H' σ', Up K w H w' H' → Good K w0 H0 G s w' H' σ' → Dn.bk σ' H'
  | .ct G s => ∀ w' H' σ', Up K w H w' H' → Good K w0 H0 G s w' H' σ' → Dn.ct σ' H'
  | .rt d s => ∀ w' H' v, Le w0 H0 w' H' → StOk K w' s H' → Is K w' H' d v → Dn.rt v H'
  | .exc c fs G s => ∀ w' H' σ' da, Up K w H w' H' → Good K w0 H0 G s w' H' σ' → ExAt K w' H' da fs → W (.ref (He.ga K c)) (some da) σ' H'
  | .fail => False
theorem PostS.up {K : PySem.W.Frag} {W : WX} {w0 w w1 : Wd} {H0 H H1 : Hp} {Dn : Ends} {o : OS} (u : Up K w H w1 H1) (h : PostS K W w0 H0 w H Dn o) : PostS K W w0 H0 w1 H1 Dn o := by
  cases o with
  | nx G s => exact fun w' H' σ' u' g => h w' H' σ' (u.trans u') g
  | bk G s => exact fun w' H' σ' u' g => h w' H' σ' (u.trans u') g
  | ct G s => exact fun w' H' σ' u' g => h w' H' σ' (u.trans u') g
  | rt d s => exact h
  | exc c fs G s => exact fun w' H' σ' da u' g => h w' H' σ' da (u.trans u') g
  | fail => exact h
abbrev RunS (K : PySem.W.Frag) (W : WX) (t : TS) (f : MS) : Prop := ∀ (w0 : Wd) (H0 : Hp) (G : List Sl) (s : S) (w : Wd) (H : Hp) (σ : L2.St) (Dn : Ends), Good K w0 H0 G s w H σ → PostS K W w0 H0 w H Dn (f G s) → t Dn σ H
def DS (X : Cx) (W : WX) (st : Stmt) (f : MS) : Prop := ∃ t : TS, PS X st t ∧ RunS X.K W t f
def DSs (X : Cx) (W : WX) (st : List Stmt) (f : MS) : Prop := ∃ t : TS, PSs X st t ∧ RunS X.K W t f
/-- an expression, then on -/
def eS {α : Type} (f : M α) (k : α → MS) : MS := fun G s => match f G s with
  | .ok a s' => k a G s'
  | .exc c fs s' => .exc c fs G s'
  | .fail => .fail
section
variable {K : PySem.W.Frag} {w0 w w' : Wd} {H0 H H' : Hp} {G : List Sl} {s s' : S} {σ : L2.St} {W : WX} {Dn : Ends}
theorem Good.le' (g : Good K w0 H0 G s w H σ) (l : Le w H w' H') (st : StOk K w' s' H') : Good K w0 H0 G s' w' H' σ := ⟨g.le.trans l, st, g.en.le l, g.fr⟩
/-- what an expression is to reach so that the statement goes on -/
theorem eS_post {α β : Type} {R : Wd → Hp → α → β → Prop} {f : M α} {k : α → MS} {Q : β → Hp → Prop} (g : Good K w0 H0 G s w H σ) (hp : PostS K W w0 H0 w H Dn (eS f k G s))
    (hk : ∀ a s' w' H' b, Le w H w' H' → Good K w0 H0 G s' w' H' σ → R w' H' a b → PostS K W w0 H0 w' H' Dn (k a G s') → Q b H') : Post (f G s) (Wish K R w H Q) (Rais K w H σ W) := by
  unfold eS at hp
  cases q : f G s with
  | ok a s1 =>
    rw [q] at hp
    exact fun w1 H1 b l st r => hk a s1 w1 H1 b l (g.le' l st) r (hp.up l.up)
  | exc c fs s1 =>
    rw [q] at hp
    exact fun w1 H1 da l st x => hp w1 H1 σ da l.up (g.le' l st) x
  | fail => rw [q] at hp; exact hp
end
section
variable {X : Cx} {W : WX} {st : Stmt} {rest : List Stmt} {f g : MS} {e : Expr} {fe : M D} {pos : Pos} {x : Str}
/-! ### blocks -/
def sNext : MS := fun G s => .nx G s
def sSeq (f g : MS) : MS := fun G s => match f G s with
  | .nx G s => g G s
  | o => o
theorem dss_nil : DSs X W [] sNext := ⟨_, pss_nil, fun w0 H0 G s w H σ Dn gd hp => hp w H σ (Up.refl w H) gd⟩
theorem seq_post {K : PySem.W.Frag} {w0 w : Wd} {H0 H : Hp} {G : List Sl} {s : S} {Dn : Ends} (h : PostS K W w0 H0 w H Dn (sSeq f g G s)) (nx : L2.St → Hp → Prop)
    (hn : ∀ G' s' w' H' σ', Up K w H w' H' → Good K w0 H0 G' s' w' H' σ' → PostS K W w0 H0 w' H' Dn (g G' s') → nx σ' H') : PostS K W w0 H0 w H { Dn with nx := nx } (f G s) := by
  unfold sSeq at h
  cases q : f G s with
  | nx G1 s1 =>
    rw [q] at h
    exact fun w' H' σ' u gd => hn G1 s1 w' H' σ' u gd (h.up u)
  | rt d s1 => rw [q] at h; exact h
  | bk d s1 => rw [q] at h; exact h
  | ct d s1 => rw [q] at h; exact h
  | exc c fs d s1 => rw [q] at h; exact h
  | fail => rw [q] at h; exact h
theorem dss_cons (h1 : DS X W st f) (h2 : DSs X W rest g) : DSs X W (st :: rest) (sSeq f g) := by
  obtain ⟨t, p, r⟩ := h1
  obtain ⟨u, q, r2⟩ := h2
  refine ⟨_, pss_cons p q, fun w0 H0 G s w H σ Dn gd hp => ?_⟩
  exact r w0 H0 G s w H σ _ gd (seq_post hp _ fun G' s' w' H' σ' _ gd' hp' => r2 w0 H0 G' s' w' H' σ' Dn gd' hp')
theorem dss_one (h1 : DS X W st f) : DSs X W [st] f := by
  obtain ⟨t, p, r⟩ := h1
  exact ⟨_, pss_one p, r⟩
theorem ds_pass : DS X W (.Pass pos) sNext := ⟨_, ps_pass, fun w0 H0 G s w H σ Dn gd hp => hp w H σ (Up.refl w H) gd⟩
def sBrk : MS := fun G s => .bk G s
def sCnt : MS := fun G s => .ct G s
theorem ds_break : DS X W (.Break pos) sBrk := ⟨_, ps_break, fun w0 H0 G s w H σ Dn gd hp => hp w H σ (Up.refl w H) gd⟩
theorem ds_continue : DS X W (.Continue pos) sCnt := ⟨_, ps_continue, fun w0 H0 G s w H σ Dn gd hp => hp w H σ (Up.refl w H) gd⟩
/-- what the proof never comes to -/
def sFail : MS := fun _ _ => .fail
theorem ds_never : DS X W st sFail := ⟨_, ps_never, fun w0 H0 G s w H σ Dn gd hp => hp⟩
def sDrop (f : M D) : MS := eS f fun _ G s => .nx G s
theorem ds_expr (h : DE X W e fe) (hs : swapsWith e none pos.line X.env = pure false := by rfl) : DS X W (.Expr e pos) (sDrop fe) := by
  obtain ⟨t, p, r⟩ := h
  refine ⟨_, ps_expr p hs, fun w0 H0 G s w H σ Dn gd hp => r G s w H σ _ gd.st gd.en (eS_post gd hp fun a s' w' H' v l g' i hp' => ?_)⟩
  exact hp' w' H' σ (Up.refl w' H') g'
def sRet (f : M D) : MS := eS f fun d _ s => .rt d s
theorem ds_ret (h : DE X W e fe) : DS X W (.Return (some e) pos) (sRet fe) := by
  obtain ⟨t, p, r⟩ := h
  refine ⟨_, ps_ret p, fun w0 H0 G s w H σ Dn gd hp => r G s w H σ _ gd.st gd.en (eS_post gd hp fun a s' w' H' v l g' i hp' => ?_)⟩
  exact hp' w' H' v g'.le g'.st i
def sRetN : MS := fun _ s => .rt .non s
theorem ds_retN : DS X W (.Return none pos) sRetN := ⟨_, ps_retN, fun w0 H0 G s w H σ Dn gd hp => hp w H _ gd.le gd.st is_non⟩
def sIf (t : M Bool) (f g : MS) : MS := eS t fun b => if b = true then f else g
theorem ds_if {c : Expr} {a b : List Stmt} {ft : M Bool} (hc : DT X W c ft) (ha : DSs X W a f) (hb : DSs X W b g) : DS X W (.If c a b pos) (sIf ft f g) := by
  obtain ⟨t, p, r⟩ := hc
  obtain ⟨ta, pa, ra⟩ := ha
  obtain ⟨tb, pb, rb⟩ := hb
  refine ⟨_, ps_if p pa pb, fun w0 H0 G s w H σ Dn gd hp => r G s w H σ _ gd.st gd.en (eS_post gd hp fun k s' w' H' v l g' i hp' => ?_)⟩
  cases i
  cases k with
  | true => exact ra w0 H0 G s' w' H' σ Dn g' hp'
  | false => exact rb w0 H0 G s' w' H' σ Dn g' hp'
end

/-! ### slots -/
section
variable {K : PySem.W.Frag} {w0 w w' : Wd} {H0 H H' : Hp} {G : List Sl} {s s' : S} {σ : L2.St}
theorem get_set {α : Type} {l : List α} {i j : Nat} {a b : α} (h : (l.set i a)[j]? = some b) : (j = i ∧ b = a ∧ i < l.length) ∨ (j ≠ i ∧ l[j]? = some b) := by
  by_cases e : i = j
  · subst e
    by_cases hl : i < l.length
    · rw [List.getElem?_set_self hl] at h
      cases h
      exact .inl ⟨rfl, rfl, hl⟩
    · rw [List.getElem?_eq_none (by simpa using Nat.not_lt.mp hl)] at h
      cases h
  · rw [List.getElem?_set_ne e] at h
    exact .inr ⟨fun z => e z.symm, h⟩
theorem EnvOk.setV {i : Nat} {d : D} {v : V} (en : EnvOk K w H G σ) (iv : Is K w H d v) : EnvOk K w H (G.set i (.val d)) (σ.set i (some v)) where
  val := fun j e h => by
    rcases get_set h with ⟨rfl, z, hl⟩ | ⟨ne, h⟩
    · cases z
      exact ⟨v, List.getElem?_set_self (by rw [← en.len]; exact hl), iv⟩
    · obtain ⟨u, e1, i1⟩ := en.val j e h
      exact ⟨u, by rw [List.getElem?_set_ne (Ne.symm ne)]; exact e1, i1⟩
  own := fun j e h => by
    rcases get_set h with ⟨rfl, z, hl⟩ | ⟨ne, h⟩
    · cases z
    · obtain ⟨u, e1, i1⟩ := en.own j e h
      exact ⟨u, by rw [List.getElem?_set_ne (Ne.symm ne)]; exact e1, i1⟩
  sep := fun j k d1 d2 a h1 h2 e1 e2 => by
    rcases get_set h1 with ⟨rfl, z, hl⟩ | ⟨n1, h1⟩
    · cases z
    · rcases get_set h2 with ⟨rfl, z, hl⟩ | ⟨n2, h2⟩
      · cases z
      · rw [List.getElem?_set_ne (Ne.symm n1)] at e1
        rw [List.getElem?_set_ne (Ne.symm n2)] at e2
        exact en.sep j k d1 d2 a h1 h2 e1 e2
  len := by rw [List.length_set, List.length_set]; exact en.len
theorem Fresh.setV {i : Nat} {d : D} {v : V} (fr : Fresh H0 G σ) : Fresh H0 (G.set i (.val d)) (σ.set i (some v)) := fun j e a h1 h2 => by
  rcases get_set h1 with ⟨rfl, z, hl⟩ | ⟨n1, h1⟩
  · cases z
  · rw [List.getElem?_set_ne (Ne.symm n1)] at h2
    exact fr j e a h1 h2
theorem Good.setV {i : Nat} {d : D} {v : V} (g : Good K w0 H0 G s w H σ) (iv : Is K w H d v) : Good K w0 H0 (G.set i (.val d)) s w H (σ.set i (some v)) := ⟨g.le, g.st, g.en.setV iv, g.fr.setV⟩
theorem EnvOk.setO {i : Nat} {d : D} {a : Addr} (en : EnvOk K w H G σ) (o : OwnAt K w H a d) (new : ∀ (j : Nat) e, j ≠ i → G[j]? = some (.own e) → σ[j]? ≠ some (some (.ref a))) : EnvOk K w H (G.set i (.own d)) (σ.set i (some (.ref a))) where
  val := fun j e h => by
    rcases get_set h with ⟨rfl, z, hl⟩ | ⟨ne, h⟩
    · cases z
    · obtain ⟨u, e1, i1⟩ := en.val j e h
      exact ⟨u, by rw [List.getElem?_set_ne (Ne.symm ne)]; exact e1, i1⟩
  own := fun j e h => by
    rcases get_set h with ⟨rfl, z, hl⟩ | ⟨ne, h⟩
    · cases z
      exact ⟨a, List.getElem?_set_self (by rw [← en.len]; exact hl), o⟩
    · obtain ⟨u, e1, i1⟩ := en.own j e h
      exact ⟨u, by rw [List.getElem?_set_ne (Ne.symm ne)]; exact e1, i1⟩
  sep := fun j k d1 d2 b h1 h2 e1 e2 => by
    rcases get_set h1 with ⟨j1, z, hl⟩ | ⟨n1, g1⟩
    · rcases get_set h2 with ⟨j2, z2, hl2⟩ | ⟨n2, g2⟩
      · rw [j1, j2]
      · rw [j1, List.getElem?_set_self (by rw [← en.len]; exact hl)] at e1
        cases e1
        rw [List.getElem?_set_ne (Ne.symm n2)] at e2
        exact absurd e2 (new k d2 n2 g2)
    · rw [List.getElem?_set_ne (Ne.symm n1)] at e1
      rcases get_set h2 with ⟨j2, z2, hl2⟩ | ⟨n2, g2⟩
      · rw [j2, List.getElem?_set_self (by rw [← en.len]; exact hl2)] at e2
        cases e2
        exact absurd e1 (new j d1 n1 g1)
      · rw [List.getElem?_set_ne (Ne.symm n2)] at e2
        exact en.sep j k d1 d2 b g1 g2 e1 e2
  len := by rw [List.length_set, List.length_set]; exact en.len
theorem Fresh.setO {i : Nat} {d : D} {a : Addr} (fr : Fresh H0 G σ) (h : H0 a = none) : Fresh H0 (G.set i (.own d)) (σ.set i (some (.ref a))) := fun j e b h1 h2 => by
  rcases get_set h1 with ⟨rfl, z, hl⟩ | ⟨n1, h1⟩
  · cases q : (σ.set j (some (.ref a)))[j]? with
    | none => rw [q] at h2; cases h2
    | some z2 =>
      rcases get_set q with ⟨_, z3, _⟩ | ⟨n, _⟩
      · rw [q, z3] at h2
        cases h2
        exact h
      · exact absurd rfl n
  · rw [List.getElem?_set_ne (Ne.symm n1)] at h2
    exact fr j e b h1 h2
theorem own_there {a : Addr} {d : D} (o : OwnAt K w H a d) : H a ≠ none := by
  cases d with
  | obj c fs =>
    obtain ⟨_, _, _, dx, as, e, _⟩ := o
    rw [e]; intro z; cases z
  | lst ds =>
    obtain ⟨_, _, xs, e, _⟩ := o
    rw [e]; intro z; cases z
  | _ => exact absurd o.2.2 id
/-- a new list into a slot of one's own -/
theorem Good.newO {i : Nat} {ds : List D} {p : Addr} (g : Good K w0 H0 G s w H σ) (l : Le w H w' H') (st : StOk K w' s' H') (n : NewL K w H p ds w' H') : Good K w0 H0 (G.set i (.own (.lst ds))) s' w' H' (σ.set i (some (.ref p))) := by
  obtain ⟨h0, nf, nl, c⟩ := n
  refine ⟨g.le.trans l, st, (g.en.le l).setO ⟨nf, nl, c⟩ fun j e _ h1 h2 => ?_, g.fr.setO (g.le.dm p h0)⟩
  obtain ⟨a, e1, o⟩ := g.en.own j e h1
  rw [h2] at e1
  cases e1
  exact own_there o h0
/-! ### an object of one's own is changed -/
theorem le_mut {a : Addr} {o : HO} (l : Le w0 H0 w H) (h : H0 a = none) : Le w0 H0 w (upd H a o) := ⟨l.me, l.nx, l.ro, l.rn, l.fz, l.fn, fun b u e => by
  rcases l.hp b u e with q | q
  · exact .inl q
  · exact .inr (by rw [upd_ne (ne_of_none e h)]; exact q), fun b e => by
  by_cases hb : b = a
  · rw [hb]; exact h
  · rw [upd_ne hb] at e; exact l.dm b e⟩
theorem up_mut {a : Addr} {o : HO} (nf : ¬ w.fz a) : Up K w H w (upd H a o) := ⟨rfl, Nat.le_refl _, fun _ _ => rfl, fun _ z => z, fun b u f e => ⟨u, by
  have : b ≠ a := fun z => nf (z ▸ f)
  rw [upd_ne this]; exact e, Grow.refl u⟩⟩
theorem st_mut {a : Addr} {o : HO} (st : StOk K w s H) (nf : ¬ w.fz a) (nl : ∀ n, n < w.nx → a ≠ w.ro n) : StOk K w s (upd H a o) where
  nx := st.nx
  inj := st.inj
  live := fun n d e => by
    obtain ⟨h1, h2, h3⟩ := st.live n d e
    exact ⟨h1, h2, h3.up' (up_mut nf) fun o' e' => by rw [upd_ne (Ne.symm (nl n h1))]; exact e'⟩
  df := fun b f => upd_dom (st.df b f)
  dl := fun n hn => upd_dom (st.dl n hn)
theorem own_mut {a b : Addr} {o : HO} {d : D} (nf : ¬ w.fz a) (h : OwnAt K w H b d) (ne : b ≠ a) : OwnAt K w (upd H a o) b d := by
  cases d with
  | obj c fs =>
    obtain ⟨f, nl, hm, dx, as, e, ci, na, r, q⟩ := h
    exact ⟨f, nl, hm, dx, as, by rw [upd_ne ne]; exact e, ci, na, IsF.up (up_mut nf) fs as as (fun _ _ q => q) r, q⟩
  | lst ds =>
    obtain ⟨f, nl, c⟩ := h
    exact ⟨f, nl, c.up' (up_mut nf) fun o' e' => by rw [upd_ne ne]; exact e'⟩
  | _ => exact absurd h.2.2 id
theorem Good.mutO {i : Nat} {d d' : D} {a : Addr} {o : HO} (g : Good K w0 H0 G s w H σ) (gi : G[i]? = some (.own d)) (si : σ[i]? = some (some (.ref a))) (nf : ¬ w.fz a) (nl : ∀ n, n < w.nx → a ≠ w.ro n) (new : OwnAt K w (upd H a o) a d') :
    Good K w0 H0 (G.set i (.own d')) s w (upd H a o) σ := by
  have hi : i < G.length := (List.getElem?_eq_some_iff.mp gi).1
  refine ⟨le_mut g.le (g.fr i d a gi si), st_mut g.st nf nl, ⟨fun j e h => ?_, fun j e h => ?_, fun j k d1 d2 b h1 h2 e1 e2 => ?_, by rw [List.length_set]; exact g.en.len⟩, fun j e b h1 h2 => ?_⟩
  · rcases get_set h with ⟨rfl, z, hl⟩ | ⟨ne, h⟩
    · cases z
    · obtain ⟨u, e1, i1⟩ := g.en.val j e h
      exact ⟨u, e1, Is.up (up_mut nf) e u i1⟩
  · rcases get_set h with ⟨rfl, z, hl⟩ | ⟨ne, h⟩
    · cases z
      exact ⟨a, si, new⟩
    · obtain ⟨u, e1, i1⟩ := g.en.own j e h
      exact ⟨u, e1, own_mut nf i1 fun z => ne (g.en.sep j i e d a h gi (z ▸ e1) si)⟩
  · rcases get_set h1 with ⟨j1, z, hl⟩ | ⟨n1, g1⟩
    · rcases get_set h2 with ⟨j2, z2, hl2⟩ | ⟨n2, g2⟩
      · rw [j1, j2]
      · exact g.en.sep j k d d2 b (j1 ▸ gi) g2 e1 e2
    · rcases get_set h2 with ⟨j2, z2, hl2⟩ | ⟨n2, g2⟩
      · exact g.en.sep j k d1 d b g1 (j2 ▸ gi) e1 e2
      · exact g.en.sep j k d1 d2 b g1 g2 e1 e2
  · rcases get_set h1 with ⟨rfl, z, hl⟩ | ⟨n1, h1⟩
    · exact g.fr j d b gi h2
    · exact g.fr j e b h1 h2
/-- one's own list is frozen -/
theorem Good.freeze {i : Nat} {ds : List D} (g : Good K w0 H0 G s w H σ) (gi : G[i]? = some (.own (.lst ds))) : ∃ w', Up K w H w' H ∧ Good K w0 H0 (G.set i (.val (.lst ds))) s w' H σ := by
  obtain ⟨a, si, nf, nl, xs, e, r⟩ := g.en.own i _ gi
  have u : Up K w H (frz1 w a) H := ⟨rfl, Nat.le_refl _, fun _ _ => rfl, fun _ z => .inl z, fun _ o _ q => ⟨o, q, Grow.refl o⟩⟩
  have h0 := g.fr i _ a gi si
  refine ⟨frz1 w a, u, ⟨g.le.me, g.le.nx, g.le.ro, g.le.rn, fun b z => .inl (g.le.fz b z), fun b z => ?_, g.le.hp, g.le.dm⟩, ⟨g.st.nx, g.st.inj, fun n d q => ?_, fun b z => ?_, g.st.dl⟩, ⟨fun j d h => ?_, fun j d h => ?_, fun j k d1 d2 b h1 h2 e1 e2 => ?_, by rw [List.length_set]; exact g.en.len⟩, fun j d b h1 h2 => ?_⟩
  · rcases z with z | z
    · exact g.le.fn b z
    · subst z; exact .inr (.inl h0)
  · obtain ⟨h1, h2, h3⟩ := g.st.live n d q
    refine ⟨h1, fun z => ?_, h3.up' u fun _ z => z⟩
    rcases z with z | z
    · exact h2 z
    · exact nl n h1 z.symm
  · rcases z with z | z
    · exact g.st.df b z
    · rw [z, e]; intro q; cases q
  · rcases get_set h with ⟨rfl, z, hl⟩ | ⟨ne, h⟩
    · cases z
      refine ⟨_, si, ?_⟩
      simp only [Is]
      exact ⟨a, xs, rfl, .inr rfl, e, IsL.up u ds xs r⟩
    · obtain ⟨v, e1, i1⟩ := g.en.val j d h
      exact ⟨v, e1, Is.up u d v i1⟩
  · rcases get_set h with ⟨rfl, z, hl⟩ | ⟨ne, h⟩
    · cases z
    · obtain ⟨b, e1, o⟩ := g.en.own j d h
      refine ⟨b, e1, ?_⟩
      have hb : b ≠ a := fun z => ne (g.en.sep j i d _ a h gi (z ▸ e1) si)
      cases d with
      | obj c fs =>
        obtain ⟨f, nl', hm, dx, as, e', ci, na, r', q⟩ := o
        exact ⟨.inl f, nl', hm, dx, as, e', ci, na, IsF.up u fs as as (fun _ _ q => q) r', q⟩
      | lst ds' =>
        obtain ⟨f, nl', c⟩ := o
        refine ⟨fun z => ?_, nl', c.up' u fun _ z => z⟩
        rcases z with z | z
        · exact f z
        · exact hb z
      | _ => exact absurd o.2.2 id
  · rcases get_set h1 with ⟨rfl, z, hl⟩ | ⟨n1, h1⟩
    · cases z
    · rcases get_set h2 with ⟨rfl, z, hl⟩ | ⟨n2, h2⟩
      · cases z
      · exact g.en.sep j k d1 d2 b h1 h2 e1 e2
  · rcases get_set h1 with ⟨rfl, z, hl⟩ | ⟨n1, h1⟩
    · cases z
    · exact g.fr j d b h1 h2
def frzG (i : Nat) (G : List Sl) : List Sl := match G[i]? with
  | some (.own (.lst ds)) => G.set i (.val (.lst ds))
  | _ => G
theorem Good.frzG {i : Nat} (g : Good K w0 H0 G s w H σ) : ∃ w', Up K w H w' H ∧ Good K w0 H0 (frzG i G) s w' H σ := by
  unfold Qd.frzG
  split
  · exact g.freeze (by assumption)
  · exact ⟨w, Up.refl w H, g⟩
end
section
variable {X : Cx} {W : WX} {st : Stmt} {rest : List Stmt} {f g : MS} {e : Expr} {fe : M D} {fl : M (List D)} {pos pos' apos ep : Pos} {x : Str}
/-- freeze slot i ahead of a block -/
def sFrz (i : Nat) (f : MS) : MS := fun G s => f (frzG i G) s
theorem dss_frz (i : Nat) (h : DSs X W rest f) : DSs X W rest (sFrz i f) := by
  obtain ⟨t, p, r⟩ := h
  refine ⟨t, p, fun w0 H0 G s w H σ Dn gd hp => ?_⟩
  obtain ⟨w', u, g'⟩ := gd.frzG (i := i)
  exact r w0 H0 _ s w' H σ Dn g' (hp.up u)
theorem ds_frz (i : Nat) (h : DS X W st f) : DS X W st (sFrz i f) := by
  obtain ⟨t, p, r⟩ := h
  refine ⟨t, p, fun w0 H0 G s w H σ Dn gd hp => ?_⟩
  obtain ⟨w', u, g'⟩ := gd.frzG (i := i)
  exact r w0 H0 _ s w' H σ Dn g' (hp.up u)
/-! ### x = e -/
def sSet (i : Nat) (f : M D) : MS := eS f fun d G s => .nx (G.set i (.val d)) s
theorem ds_set (i : Nat) (hN : X.N.Nodup) (h : DE X W e fe) (hi : X.N[i]? = some x := by rfl) (hx : Loc X.env.scope x := by first | exact .inl rfl | exact .inr rfl) (hs : swapsWith e (some (.Name x pos')) pos.line X.env = pure false := by rfl)
    (hf : X.fn x = true ∨ X.env.scope.names.lookup x = some .local := by first | exact .inl rfl | exact .inr rfl) : DS X W (.Assign [.Name x pos'] e pos) (sSet i fe) := by
  obtain ⟨t, p, r⟩ := h
  refine ⟨_, ps_set (i := i) hN hi hx p hs hf, fun w0 H0 G s w H σ Dn gd hp => r G s w H σ _ gd.st gd.en (eS_post gd hp fun a s' w' H' v l g' iv hp' => ?_)⟩
  exact hp' w' H' _ (Up.refl w' H') (g'.setV iv)
def sSetO (i : Nat) (f : M (List D)) : MS := eS f fun ds G s => .nx (G.set i (.own (.lst ds))) s
theorem ds_setO (i : Nat) (hN : X.N.Nodup) (h : DN X W e fl) (hi : X.N[i]? = some x := by rfl) (hx : Loc X.env.scope x := by first | exact .inl rfl | exact .inr rfl) (hs : swapsWith e (some (.Name x pos')) pos.line X.env = pure false := by rfl)
    (hf : X.fn x = true ∨ X.env.scope.names.lookup x = some .local := by first | exact .inl rfl | exact .inr rfl) : DS X W (.Assign [.Name x pos'] e pos) (sSetO i fl) := by
  obtain ⟨t, p, r⟩ := h
  refine ⟨_, ps_set (i := i) hN hi hx p hs hf, fun w0 H0 G s w H σ Dn gd hp => r G s w H σ _ gd.st gd.en ?_⟩
  unfold sSetO eS at hp
  cases q : fl G s with
  | ok ds s1 =>
    rw [q] at hp
    exact fun w1 H1 p1 l st n => hp w1 H1 _ l.up (gd.newO l st n)
  | exc c fs s1 =>
    rw [q] at hp
    exact fun w1 H1 da l st z => hp w1 H1 σ da l.up (gd.le' l st) z
  | fail => rw [q] at hp; exact hp
/-! ### x.append(e), x.extend(e) of a list of one's own -/
theorem sz_lt {n : Nat} (h : sz (n + 1) = true) : n < sizeLine := sz_line h
theorem ownL {K : PySem.W.Frag} {w : Wd} {H : Hp} {G : List Sl} {σ : L2.St} {i : Nat} {ds : List D} (en : EnvOk K w H G σ) (h : G[i]? = some (.own (.lst ds))) : ∃ a xs, σ[i]? = some (some (.ref a)) ∧ ¬ w.fz a ∧ (∀ n, n < w.nx → a ≠ w.ro n) ∧ H a = some (.lst xs) ∧ IsL K w H ds xs := by
  obtain ⟨a, si, nf, nl, xs, e, r⟩ := en.own i _ h
  exact ⟨a, xs, si, nf, nl, e, r⟩
/-- a method that changes one's own list -/
def sMut (i : Nat) (g : List D → D → S → Option (List D)) (f : M D) : MS := fun G s => match G[i]? with
  | some (.own (.lst _)) => eS f (fun d G s => match G[i]? with
    | some (.own (.lst ds)) => (match g ds d s with
      | some es => .nx (G.set i (.own (.lst es))) s
      | none => .fail)
    | _ => .fail) G s
  | _ => .fail
def MutL (X : Cx) (mid : String) (g : List D → D → S → Option (List D)) : Prop := ∃ r, MtR X mid r ∧
  ∀ (a : Addr) (xs : List V) (ds es : List D) (d : D) (v : V) (s : S) (w : Wd) (H : Hp) (Q : VK), StOk X.K w s H → ¬ w.fz a → (∀ n, n < w.nx → a ≠ w.ro n) → H a = some (.lst xs) → IsL X.K w H ds xs → IsR X.K w H d v → g ds d s = some es →
    (∀ ys, IsL X.K w (upd H a (.lst ys)) es ys → Q .non (upd H a (.lst ys))) → r (.ref a) [v] H Q
theorem ds_mut (i : Nat) {m : Str} {mid : String} {g : List D → D → S → Option (List D)} (hg : MutL X mid g) (slot : Slot "list" m mid) (ty : typeOf (.builtin mid) = pure (.type "method_descriptor")) (h : DR X W e fe)
    (hi : X.N[i]? = some x := by rfl) (hv : Vis X.env.scope x := by first | exact Or.inl rfl | exact Or.inr (Or.inl rfl) | exact Or.inr (Or.inr rfl)) (hd : (x == ("__debug__" : Str)) = false := by decide) (hcd : (x == ("__classdict__" : Str)) = false := by decide)
    (hse : starEach [e] X.env = (false, eval e X.env) :: starEach [] X.env := by rfl) (hb : attributeBase (.Name x pos') m X.env (eval (.Name x pos') X.env) = eval (.Name x pos') X.env := by rfl) (hl : (apos.endLine == pos.line) = true := by rfl)
    (hfew : ((backTo pos (starEach [e] X.env)).all (fun x => !x.1) && (backToKw pos (keywordEach [] X.env)).all (fun x => x.1.isSome)
      && decide ([e].length + ([] : List Keyword).length + (if ([] : List Keyword).isEmpty then 0 else 1) < 30)) = true := by rfl)
    (hs : swapsWith (.Call (.Attribute (.Name x pos') m apos) [e] [] pos) none ep.line X.env = pure false := by rfl) : DS X W (.Expr (.Call (.Attribute (.Name x pos') m apos) [e] [] pos) ep) (sMut i g fe) := by
  obtain ⟨t, p, r⟩ := h
  obtain ⟨rr, mr, hr⟩ := hg
  refine ⟨_, ps_expr (pe_bm PySem.F.plainAttrs_list slot ty mr (pe_var hi hv hd hcd) (pa_cons p pa_nil hse) hb hfew hl hse rfl) hs, fun w0 H0 G s w H σ Dn gd hp => ?_⟩
  unfold sMut at hp
  cases gi : G[i]? with
  | none => rw [gi] at hp; exact absurd hp id
  | some z =>
    rw [gi] at hp
    cases z with
    | un => exact absurd hp id
    | val d => exact absurd hp id
    | own d =>
      cases d with
      | lst ds =>
        obtain ⟨a, xs, si, nf, nl, e1, i1⟩ := ownL gd.en gi
        refine ⟨_, si, .inl ⟨rfl, xs, SqL.of e1⟩, r G s w H σ _ gd.st gd.en (eS_post gd hp fun d s' w' H' v l g' iv hp' => ?_)⟩
        obtain ⟨a', xs', si', nf', nl', e1', i1'⟩ := ownL g'.en gi
        rw [si] at si'
        cases si'
        rw [gi] at hp'
        dsimp only at hp'
        cases q : g ds d s' with
        | none => rw [q] at hp'; exact absurd hp' id
        | some es =>
          rw [q] at hp'
          exact hr a xs' ds es d v s' w' H' _ g'.st nf' nl' e1' i1' iv q fun ys iy => hp' w' _ σ (up_mut nf') (g'.mutO gi si nf' nl' ⟨nf', nl', _, upd_same, iy⟩)
      | _ => exact absurd hp id
def appG (ds : List D) (d : D) (_ : S) : Option (List D) := if sz (ds.length + 1) = true then some (ds ++ [d]) else none
def extG (ds : List D) (d : D) (_ : S) : Option (List D) := match d with
  | .lst es => if sz (ds.length + es.length) = true then some (ds ++ es) else none
  | .tup es => if sz (ds.length + es.length) = true then some (ds ++ es) else none
  | _ => none
theorem ml_ext : MutL X "list.extend" extG := by
  refine ⟨_, MtR.or mt_extend mt_extT, fun a xs ds es d v s w H Q st nf nl e i iv q hq => ?_⟩
  cases d with
  | lst fs =>
    simp only [extG] at q
    split at q
    · cases q
      rename_i hz
      obtain ⟨b, zs, rfl, h1, i1⟩ := isR_lst iv
      exact .inl ⟨a, b, xs, zs, rfl, rfl, e, h1, by rw [isL_len i, isL_len i1]; exact sz_line hz, hq _ (isL_append (IsL.up (up_mut nf) ds xs i) (IsL.up (up_mut nf) fs zs i1))⟩
    · cases q
  | tup fs =>
    simp only [extG] at q
    split at q
    · cases q
      rename_i hz
      obtain ⟨b, zs, rfl, h1, i1⟩ := isR_tup iv
      exact .inr ⟨a, b, xs, zs, rfl, rfl, e, h1, by rw [isL_len i, isL_len i1]; exact sz_line hz, hq _ (isL_append (IsL.up (up_mut nf) ds xs i) (IsL.up (up_mut nf) fs zs i1))⟩
    · cases q
  | _ => cases q
/-- append wants a value that stays -/
def sApp (i : Nat) (f : M D) : MS := sMut i appG f
theorem ds_app (i : Nat) (h : DE X W e fe)
    (hi : X.N[i]? = some x := by rfl) (hv : Vis X.env.scope x := by first | exact Or.inl rfl | exact Or.inr (Or.inl rfl) | exact Or.inr (Or.inr rfl)) (hd : (x == ("__debug__" : Str)) = false := by decide) (hcd : (x == ("__classdict__" : Str)) = false := by decide)
    (hse : starEach [e] X.env = (false, eval e X.env) :: starEach [] X.env := by rfl) (hb : attributeBase (.Name x pos') "append" X.env (eval (.Name x pos') X.env) = eval (.Name x pos') X.env := by rfl) (hl : (apos.endLine == pos.line) = true := by rfl)
    (hfew : ((backTo pos (starEach [e] X.env)).all (fun x => !x.1) && (backToKw pos (keywordEach [] X.env)).all (fun x => x.1.isSome)
      && decide ([e].length + ([] : List Keyword).length + (if ([] : List Keyword).isEmpty then 0 else 1) < 30)) = true := by rfl)
    (hs : swapsWith (.Call (.Attribute (.Name x pos') "append" apos) [e] [] pos) none ep.line X.env = pure false := by rfl) : DS X W (.Expr (.Call (.Attribute (.Name x pos') "append" apos) [e] [] pos) ep) (sApp i fe) := by
  obtain ⟨t, p, r⟩ := h
  refine ⟨_, ps_expr (pe_bm PySem.F.plainAttrs_list PySem.F.slot_list_append PySem.F.type_list_append mt_append (pe_var hi hv hd hcd) (pa_cons p pa_nil hse) hb hfew hl hse rfl) hs, fun w0 H0 G s w H σ Dn gd hp => ?_⟩
  unfold sApp sMut at hp
  cases gi : G[i]? with
  | none => rw [gi] at hp; exact absurd hp id
  | some z =>
    rw [gi] at hp
    cases z with
    | un => exact absurd hp id
    | val d => exact absurd hp id
    | own d =>
      cases d with
      | lst ds =>
        obtain ⟨a, xs, si, nf, nl, e1, i1⟩ := ownL gd.en gi
        refine ⟨_, si, .inl ⟨rfl, xs, SqL.of e1⟩, r G s w H σ _ gd.st gd.en (eS_post gd hp fun d s' w' H' v l g' iv hp' => ?_)⟩
        obtain ⟨a', xs', si', nf', nl', e1', i1'⟩ := ownL g'.en gi
        rw [si] at si'
        cases si'
        rw [gi] at hp'
        dsimp only [appG] at hp'
        cases hz : sz (ds.length + 1) with
        | false => rw [hz] at hp'; exact absurd hp' id
        | true =>
          rw [hz] at hp'
          refine ⟨a, xs', v, rfl, rfl, e1', by rw [isL_len i1']; exact sz_lt hz, ?_⟩
          refine hp' w' _ σ (up_mut nf') (g'.mutO gi si nf' nl' ⟨nf', nl', _, upd_same, ?_⟩)
          refine isL_append (IsL.up (up_mut nf') ds xs' i1') ?_
          simp only [IsL]
          exact ⟨v, [], rfl, Is.up (up_mut nf') d v iv, rfl⟩
      | _ => exact absurd hp id
end
end Qd
namespace Qd
open PySem PySem.Spec PyProof.Rows L2

/-! ### targets -/
theorem wipe_set_out {σ : L2.St} {i : Nat} {x : Option V} : ∀ {vs : List Nat}, i ∉ vs → wipe (σ.set i x) vs = (wipe σ vs).set i x
  | [], _ => rfl
  | v :: vs, h => by
    unfold wipe
    rw [wipe_set_out (fun z => h (List.mem_cons_of_mem _ z)), List.set_comm]
    intro e
    exact h (e ▸ List.mem_cons_self)
theorem wipe_set {σ : L2.St} {i : Nat} {x : Option V} : ∀ {vs : List Nat}, i ∈ vs → wipe (σ.set i x) vs = wipe σ vs
  | [], h => nomatch h
  | v :: vs, h => by
    unfold wipe
    by_cases hv : i ∈ vs
    · rw [wipe_set hv]
    · have e : i = v := by
        rcases List.mem_cons.mp h with z | z
        · exact z
        · exact absurd z hv
      subst e
      rw [wipe_set_out hv, List.set_set]
theorem wipe_wipe (σ : L2.St) : ∀ (vs us : List Nat), (∀ v ∈ vs, v ∈ us) → wipe (wipe σ vs) us = wipe σ us
  | [], _, _ => rfl
  | v :: vs, us, h => by
    show wipe ((wipe σ vs).set v none) us = _
    rw [wipe_set (h v List.mem_cons_self), wipe_wipe σ vs us fun z hz => h z (List.mem_cons_of_mem _ hz)]
/-- js: the slots that it sets -/
def DG (X : Cx) (tg : Expr) (js : List Nat) (g : D → List Sl → Option (List Sl)) : Prop := ∃ t : TG, PG X tg t ∧
  ∀ (d : D) (v : V) (G G' : List Sl) (w : Wd) (H : Hp) (σ : L2.St) (Q : L2.St → Hp → Prop), EnvOk X.K w H G σ → Is X.K w H d v → g d G = some G' →
    (∀ σ', EnvOk X.K w H G' σ' → (∀ H0, Fresh H0 G σ → Fresh H0 G' σ') → (∀ vs : List Nat, (∀ j ∈ js, j ∈ vs) → wipe σ' vs = wipe σ vs) → Q σ' H) → t v σ H Q
def DGs (X : Cx) (ts : List Expr) (js : List Nat) (g : List D → List Sl → Option (List Sl)) : Prop := ∃ t : TGs, PGs X ts t ∧
  ∀ (ds : List D) (vs : List V) (G G' : List Sl) (w : Wd) (H : Hp) (σ : L2.St) (Q : L2.St → Hp → Prop), EnvOk X.K w H G σ → IsL X.K w H ds vs → g ds G = some G' →
    (∀ σ', EnvOk X.K w H G' σ' → (∀ H0, Fresh H0 G σ → Fresh H0 G' σ') → (∀ vs : List Nat, (∀ j ∈ js, j ∈ vs) → wipe σ' vs = wipe σ vs) → Q σ' H) → t vs σ H Q
def pVar (i : Nat) (d : D) (G : List Sl) : Option (List Sl) := some (G.set i (.val d))
def psNil (ds : List D) (G : List Sl) : Option (List Sl) := match ds with
  | [] => some G
  | _ => none
def psCons (g : D → List Sl → Option (List Sl)) (h : List D → List Sl → Option (List Sl)) (ds : List D) (G : List Sl) : Option (List Sl) := match ds with
  | d :: r => (g d G).bind fun G1 => h r G1
  | [] => none
def pTup (n : Nat) (g : List D → List Sl → Option (List Sl)) (d : D) (G : List Sl) : Option (List Sl) := match d with
  | .tup ds => if ds.length = n then g ds G else none
  | _ => none
section
variable {X : Cx} {x : Str} {pos : Pos} {e : Expr} {es : List Expr} {js ks : List Nat} {g : D → List Sl → Option (List Sl)} {h : List D → List Sl → Option (List Sl)}
theorem dg_var (i : Nat) (hN : X.N.Nodup) (hi : X.N[i]? = some x := by rfl) (hx : Loc X.env.scope x := by first | exact .inl rfl | exact .inr rfl) (hf : X.fn x = true ∨ X.env.scope.names.lookup x = some .local := by first | exact .inl rfl | exact .inr rfl) : DG X (.Name x pos) [i] (pVar i) := by
  refine ⟨_, pg_name (i := i) hN hi hx hf, fun d v G G' w H σ Q en iv q k => ?_⟩
  cases q
  exact k _ (en.setV iv) (fun _ z => z.setV) fun vs hj => wipe_set (hj i List.mem_cons_self)
theorem dgs_nil : DGs X [] [] psNil := by
  refine ⟨_, pgs_nil, fun ds vs G G' w H σ Q en iv q k => ?_⟩
  cases ds with
  | nil =>
    cases q
    simp only [IsL] at iv
    exact ⟨iv, k σ en (fun _ z => z) fun _ _ => rfl⟩
  | cons d r => cases q
theorem dgs_cons (h1 : DG X e js g) (h2 : DGs X es ks h) (hs : (assignEach (e :: es) X.env).map (·.2) = assign e X.env :: (assignEach es X.env).map (·.2) := by rfl) : DGs X (e :: es) (js ++ ks) (psCons g h) := by
  obtain ⟨t, p, r⟩ := h1
  obtain ⟨u, q, r2⟩ := h2
  refine ⟨_, pgs_cons p q hs, fun ds vs G G' w H σ Q en iv q k => ?_⟩
  cases ds with
  | nil => cases q
  | cons d ds =>
    simp only [IsL] at iv
    obtain ⟨v, rr, rfl, i1, i2⟩ := iv
    simp only [psCons, Option.bind_eq_some_iff] at q
    obtain ⟨G1, e1, e2⟩ := q
    refine ⟨v, rr, rfl, r d v G G1 w H σ _ en i1 e1 fun σ1 en1 f1 w1 => r2 ds rr G1 G' w H σ1 Q en1 i2 e2 fun σ2 en2 f2 w2 => k σ2 en2 (fun H0 z => f2 H0 (f1 H0 z)) fun vs hv => ?_⟩
    rw [w2 vs fun j hj => hv j (List.mem_append_right _ hj), w1 vs fun j hj => hv j (List.mem_append_left _ hj)]
theorem dg_tup {k n : Nat} (hc : X.calm = true) (h1 : DGs X es js h) (hn : (assignEach es X.env).length = n := by rfl) (hst : (assignEach es X.env).findIdx? (·.1) = none := by rfl) : DG X (.Tuple es k pos) js (pTup n h) := by
  obtain ⟨t, p, r⟩ := h1
  refine ⟨_, pg_tup hc p hn hst, fun d v G G' w H σ Q en iv q kk => ?_⟩
  cases d with
  | tup ds =>
    simp only [pTup] at q
    split at q
    · rename_i hl
      obtain ⟨a, xs, rfl, h1, i1⟩ := isR_tup (IsR.of _ _ iv)
      exact ⟨a, xs, rfl, h1, by rw [isL_len i1]; exact hl, r ds xs G G' w H σ Q en i1 q kk⟩
    · cases q
  | _ => cases q
end

/-! ### what a loop walks -/
def DIg (Rel : PySem.W.Frag → Wd → Hp → Wd → Hp → Prop) (X : Cx) (W : WX) (tg iter : Expr) (f : M (List D)) : Prop := ∃ wi : TI, PI X tg iter wi ∧
  ∀ (G : List Sl) (s : S) (w : Wd) (H : Hp) (σ : L2.St) (R : It → Hp → Prop), StOk X.K w s H → EnvOk X.K w H G σ →
    Post (f G s) (fun ds s' => ∀ w' H' J Gd Y, Le w H w' H' → StOk X.K w' s' H' → Walk J ds.length Gd Y → (∀ w1 H1, Rel X.K w' H' w1 H1 → Gd H1) →
      (∀ i w1 s1 H1 x H2, Rel X.K w' H' w1 H1 → StOk X.K w1 s1 H1 → Y i H1 x H2 → ∃ w2, Le w1 H1 w2 H2 ∧ StOk X.K w2 s1 H2 ∧ ∀ d, ds[i]? = some d → Is X.K w2 H2 d x) → R J H') (Rais X.K w H σ W) → wi σ H R
abbrev DI (X : Cx) (W : WX) (tg iter : Expr) (f : M (List D)) : Prop := DIg Up X W tg iter f
abbrev DIr (X : Cx) (W : WX) (tg iter : Expr) (f : M (List D)) : Prop := DIg (fun _ => Le) X W tg iter f
section
variable {X : Cx} {W : WX} {tg e a b : Expr} {f fa fb : M D} {fl : M (List D)} {p pos : Pos}
theorem DI.r (h : DI X W tg e fl) : DIr X W tg e fl := by
  obtain ⟨wi, p, r⟩ := h
  refine ⟨wi, p, fun G s w H σ R st en hp => r G s w H σ R st en (hp.imp (fun ds s' q w' H' J Gd Y l st' wk h1 h2 => ?_) fun _ _ _ q => q)⟩
  exact q w' H' J Gd Y l st' wk (fun w1 H1 l1 => h1 w1 H1 l1.up) fun i w1 s1 H1 x H2 l1 => h2 i w1 s1 H1 x H2 l1.up
/-- a list, a tuple or a text, whatever comes -/
def wiSeq (K : PySem.W.Frag) (tl : TE) : TI := fun σ H R => tl σ H fun x H1 => (∃ a, x = .ref a ∧ (∃ xs, SqL K H1 a xs) ∧ R (Itl K a) H1) ∨ (∃ a, x = .ref a ∧ (∃ xs, SqT K H1 a xs) ∧ R (Itt K a) H1) ∨ ∃ z, x = .str z ∧ R (Its z) H1
theorem pi_seq {tl : TE} (hl : PE X e tl) : PI X tg e (wiSeq X.K tl) := by
  refine ⟨fun pins s σ H R I h => ?_⟩
  refine thn (hl.run pins s σ H _ I h) fun v s1 ⟨x, H1, I1, r1, q1⟩ => ?_
  rcases q1 with ⟨a, ex, ⟨xs, hq⟩, q⟩ | ⟨a, ex, ⟨xs, hq⟩, q⟩ | ⟨z, ex, q⟩
  · subst ex
    cases r1
    obtain ⟨its, rv, p, hz⟩ := I1.list hq
    refine wpAny_pyIter_list p.isList ?_
    refine ⟨s1.heap.objs.size, [s1.heap.objs.size], _, _, H1, rfl, I1.kept (t' := s1.toks) fun b o e => Heap.get?_push_of_some _ e, turn_list a _, ⟨_, Heap.get?_push_size _ rfl, rfl, rfl⟩, fun b hb => ?_, q⟩
    have e : b = s1.heap.objs.size := by simpa using hb
    subst e
    exact I1.fpOk (Nat.le_refl _) (I1.hok.fresh (Nat.le_refl _))
  · subst ex
    cases r1
    obtain ⟨its, rv, p, hz⟩ := I1.tuple hq
    refine wpAny_pyIter_tuple (show s1.heap.IsTuple a its.toArray from p) ?_
    refine ⟨s1.heap.objs.size, [s1.heap.objs.size], _, _, H1, rfl, I1.kept (t' := s1.toks) fun b o e => Heap.get?_push_of_some _ e, turn_tuple a _, ⟨_, Heap.get?_push_size _ rfl, rfl, rfl⟩, fun b hb => ?_, q⟩
    have e : b = s1.heap.objs.size := by simpa using hb
    subst e
    exact I1.fpOk (Nat.le_refl _) (I1.hok.fresh (Nat.le_refl _))
  · subst ex
    obtain ⟨t, rfl⟩ := r1
    cases ha : z.cps.all (· < 128)
    · exact wpAny_pyIter_wide ha (pi_one (tk := s1.toks) I1 _ (turn_str _ z t "str_iterator" (.inr rfl)) ⟨_, Heap.get?_push_size _ rfl, rfl, rfl⟩ q)
    · exact wpAny_pyIter_ascii ha (pi_one (tk := s1.toks) I1 _ (turn_str _ z t "str_ascii_iterator" (.inl rfl)) ⟨_, Heap.get?_push_size _ rfl, rfl, rfl⟩ q)
/-- the items of a list, a tuple, a text -/
def seqD : D → Option (List D)
  | .lst ds => some ds
  | .tup ds => some ds
  | .scr ns => some (ns.map .int)
  | .str z => some (z.cps.toList.map fun c => .str ⟨#[c]⟩)
  | _ => none
def xSeq (f : M D) : M (List D) := fun G s => (f G s).bind fun d s => lift (seqD d) s
theorem walk_at {K : PySem.W.Frag} {w1 : Wd} {H1 : Hp} {ds : List D} {xs : List V} {i : Nat} {x : V} {d : D} (il : IsL K w1 H1 ds xs) (y : xs[i]? = some x) (h : ds[i]? = some d) : Is K w1 H1 d x := by
  obtain ⟨v, e, iv⟩ := isL_get il h
  rw [y] at e
  cases e
  exact iv
theorem walk_chr {K : PySem.W.Frag} {w1 : Wd} {H1 : Hp} {z : Str} {i c : Nat} {d : D} (h1 : z.cps[i]? = some c) (h2 : (z.cps.toList.map fun c => D.str ⟨#[c]⟩)[i]? = some d) : Is K w1 H1 d (.str ⟨#[c]⟩) := by
  rw [List.getElem?_map, Array.getElem?_toList, h1] at h2
  cases h2
  exact is_str _
theorem di_seq (h : DE X W e f) : DI X W tg e (xSeq f) := by
  obtain ⟨t, p, r⟩ := h
  refine ⟨_, pi_seq p, fun G s w H σ R st en hp => r G s w H σ _ st en (hp.bind.imp (fun d s' q w' H' v l st' iv => ?_) fun _ _ _ q => q)⟩
  obtain ⟨ds, e1, q⟩ := post_lift q
  cases d with
  | lst es =>
    cases e1
    simp only [Is] at iv
    obtain ⟨a, xs, rfl, fz, h1, i1⟩ := iv
    have gd : ∀ w1 H1, Up X.K w' H' w1 H1 → SqL X.K H1 a xs := fun w1 H1 u => by
      obtain ⟨o', e', g⟩ := u.hp a _ fz h1
      rcases g with rfl | ⟨_, _, _, _, z, _⟩
      · exact SqL.of e'
      · cases z
    refine .inl ⟨a, rfl, ⟨xs, SqL.of h1⟩, q w' H' _ _ _ l st' (by rw [← isL_len i1]; exact walk_list) gd fun i w1 s1 H1 x H2 u st1 y => ?_⟩
    obtain ⟨rfl, y⟩ := y
    exact ⟨w1, Le.refl _ _, st1, fun d hd => walk_at (IsL.up u _ _ i1) y hd⟩
  | tup es =>
    cases e1
    simp only [Is] at iv
    obtain ⟨a, xs, rfl, h1, i1⟩ := iv
    refine .inr (.inl ⟨a, rfl, ⟨xs, h1.sq⟩, q w' H' _ _ _ l st' (by rw [← isL_len i1]; exact walk_tup) (fun w1 H1 u => (h1.up u).sq) fun i w1 s1 H1 x H2 u st1 y => ?_⟩)
    obtain ⟨rfl, y⟩ := y
    exact ⟨w1, Le.refl _ _, st1, fun d hd => walk_at (IsL.up u _ _ i1) y hd⟩
  | scr ns =>
    cases e1
    simp only [Is] at iv
    obtain ⟨a, rfl, h1⟩ := iv
    refine .inl ⟨a, rfl, ⟨_, h1.sq⟩, q w' H' _ _ _ l st' (by rw [List.length_map, ← List.length_map (f := V.int)]; exact walk_list) (fun w1 H1 u => (h1.up u).sq) fun i w1 s1 H1 x H2 u st1 y => ?_⟩
    obtain ⟨rfl, y⟩ := y
    exact ⟨w1, Le.refl _ _, st1, fun d hd => walk_at (isL_ints ns) y hd⟩
  | str z =>
    cases e1
    simp only [Is] at iv
    subst iv
    refine .inr (.inr ⟨z, rfl, q w' H' _ _ _ l st' (by rw [List.length_map, Array.length_toList]; exact walk_str) (fun _ _ _ => trivial) fun i w1 s1 H1 x H2 u st1 y => ?_⟩)
    obtain ⟨rfl, c, h1, rfl⟩ := y
    exact ⟨w1, Le.refl _ _, st1, fun d hd => walk_chr h1 hd⟩
  | _ => cases e1
theorem dir_seq (h : DR X W e f) : DIr X W tg e (xSeq f) := by
  obtain ⟨t, p, r⟩ := h
  refine ⟨_, pi_seq p, fun G s w H σ R st en hp => r G s w H σ _ st en (hp.bind.imp (fun d s' q w' H' v l st' iv => ?_) fun _ _ _ q => q)⟩
  obtain ⟨ds, e1, q⟩ := post_lift q
  cases d with
  | lst es =>
    cases e1
    obtain ⟨a, xs, rfl, h1, i1⟩ := iv
    refine .inl ⟨a, rfl, ⟨xs, SqL.of h1.2⟩, q w' H' _ _ _ l st' (by rw [← isL_len i1]; exact walk_list) (fun w1 H1 u => SqL.of (h1.le u).2) fun i w1 s1 H1 x H2 u st1 y => ?_⟩
    obtain ⟨rfl, y⟩ := y
    exact ⟨w1, Le.refl _ _, st1, fun d hd => walk_at (IsL.up u.up _ _ i1) y hd⟩
  | tup es =>
    cases e1
    simp only [IsR, Is] at iv
    obtain ⟨a, xs, rfl, h1, i1⟩ := iv
    refine .inr (.inl ⟨a, rfl, ⟨xs, h1.sq⟩, q w' H' _ _ _ l st' (by rw [← isL_len i1]; exact walk_tup) (fun w1 H1 u => (h1.up u.up).sq) fun i w1 s1 H1 x H2 u st1 y => ?_⟩)
    obtain ⟨rfl, y⟩ := y
    exact ⟨w1, Le.refl _ _, st1, fun d hd => walk_at (IsL.up u.up _ _ i1) y hd⟩
  | scr ns =>
    cases e1
    simp only [IsR, Is] at iv
    obtain ⟨a, rfl, h1⟩ := iv
    refine .inl ⟨a, rfl, ⟨_, h1.sq⟩, q w' H' _ _ _ l st' (by rw [List.length_map, ← List.length_map (f := V.int)]; exact walk_list) (fun w1 H1 u => (h1.up u.up).sq) fun i w1 s1 H1 x H2 u st1 y => ?_⟩
    obtain ⟨rfl, y⟩ := y
    exact ⟨w1, Le.refl _ _, st1, fun d hd => walk_at (isL_ints ns) y hd⟩
  | str z =>
    cases e1
    simp only [IsR, Is] at iv
    subst iv
    refine .inr (.inr ⟨z, rfl, q w' H' _ _ _ l st' (by rw [List.length_map, Array.length_toList]; exact walk_str) (fun _ _ _ => trivial) fun i w1 s1 H1 x H2 u st1 y => ?_⟩)
    obtain ⟨rfl, c, h1, rfl⟩ := y
    exact ⟨w1, Le.refl _ _, st1, fun d hd => walk_chr h1 hd⟩
  | _ => cases e1
/-- range(n), range(a, b) -/
def rngL (lo : Int) (n : Nat) : List D := (List.range n).map fun i => .int (lo + (i : Nat))
def rngD1 (ds : List D) : Option (List D) := match ds with
  | [.int j] => if -(2 ^ 62) ≤ j ∧ j < 2 ^ 62 then some (rngL 0 j.toNat) else none
  | _ => none
def rngD2 (ds : List D) : Option (List D) := match ds with
  | [.int i, .int j] => if -(2 ^ 62) ≤ i ∧ i < 2 ^ 62 ∧ -(2 ^ 62) ≤ j ∧ j < 2 ^ 62 then some (rngL i (j - i).toNat) else none
  | _ => none
def xRng1 (f : M (List D)) : M (List D) := fun G s => (f G s).bind fun ds s => lift (rngD1 ds) s
def xRng2 (f : M (List D)) : M (List D) := fun G s => (f G s).bind fun ds s => lift (rngD2 ds) s
theorem rng_walk {K : PySem.W.Frag} {lo : Int} {n : Nat} : Walk (Itr lo n) (rngL lo n).length (fun _ => True) (YFn fun i => .int (lo + i)) := by
  have : (rngL lo n).length = n := by unfold rngL; rw [List.length_map, List.length_range]
  rw [this]
  exact walk_range
theorem rng_at {K : PySem.W.Frag} {w : Wd} {H : Hp} {lo : Int} {n i : Nat} {d : D} (h : (rngL lo n)[i]? = some d) : Is K w H d (.int (lo + (i : Nat))) := by
  unfold rngL at h
  rw [List.getElem?_map, List.getElem?_range] at h
  · cases h; exact is_int _
  · by_cases hi : i < n
    · exact hi
    · rw [List.getElem?_eq_none (by simpa using Nat.not_lt.mp hi)] at h
      cases h
theorem di_rng1 (hg : Gl X "range") (hm : X.mg "range" = none) (h : DA X W [a] fl) (hs : starEach [a] X.env = [(false, eval a X.env)] := by rfl) : DI X W tg (.Call (.Name "range" p) [a] [] pos) (xRng1 fl) := by
  obtain ⟨t, pa, r⟩ := h
  refine ⟨_, pi_range1 hg hm pa hs, fun G s w H σ R st en hp => r G s w H σ _ st en (hp.bind.imp (fun ds s' q w' H' vs l st' iv => ?_) fun _ _ _ q => q)⟩
  obtain ⟨es, e1, q1⟩ := post_lift q
  unfold rngD1 at e1
  split at e1
  · rename_i j
    split at e1
    · rename_i hj
      cases e1
      simp only [IsL] at iv
      obtain ⟨v, r, rfl, iv, rfl⟩ := iv
      simp only [Is] at iv
      subst iv
      refine ⟨j, rfl, hj.1, hj.2, q1 w' H' _ _ _ l st' (rng_walk (K := X.K)) (fun _ _ _ => trivial) fun i w1 s1 H1 x H2 u st1 y => ?_⟩
      obtain ⟨rfl, rfl⟩ := y
      exact ⟨w1, Le.refl _ _, st1, fun d hd => rng_at hd⟩
    · cases e1
  · cases e1
theorem di_rng2 (hg : Gl X "range") (hm : X.mg "range" = none) (h : DA X W [a, b] fl) (hs : starEach [a, b] X.env = [(false, eval a X.env), (false, eval b X.env)] := by rfl) (hs2 : starEach [b] X.env = [(false, eval b X.env)] := by rfl) : DI X W tg (.Call (.Name "range" p) [a, b] [] pos) (xRng2 fl) := by
  obtain ⟨t, pa, r⟩ := h
  refine ⟨_, pi_range2 hg hm pa hs hs2, fun G s w H σ R st en hp => r G s w H σ _ st en (hp.bind.imp (fun ds s' q w' H' vs l st' iv => ?_) fun _ _ _ q => q)⟩
  obtain ⟨es, e1, q1⟩ := post_lift q
  unfold rngD2 at e1
  split at e1
  · rename_i j k
    split at e1
    · rename_i hj
      cases e1
      simp only [IsL] at iv
      obtain ⟨v, r, rfl, iv, v2, r2, rfl, iv2, rfl⟩ := iv
      simp only [Is] at iv iv2
      subst iv iv2
      refine ⟨j, k, rfl, hj, q1 w' H' _ _ _ l st' (rng_walk (K := X.K)) (fun _ _ _ => trivial) fun i w1 s1 H1 x H2 u st1 y => ?_⟩
      obtain ⟨rfl, rfl⟩ := y
      exact ⟨w1, Le.refl _ _, st1, fun d hd => rng_at hd⟩
    · cases e1
  · cases e1
end

/-! ### for -/
def forL (tg : D → List Sl → Option (List Sl)) (b : MS) : List D → MS
  | [] => fun G s => .nx G s
  | d :: r => fun G s => match tg d G with
    | none => .fail
    | some G1 => (match b G1 s with
      | .nx G2 s2 => forL tg b r G2 s2
      | .ct G2 s2 => forL tg b r G2 s2
      | .bk G2 s2 => .nx G2 s2
      | o => o)
def sFor (it : M (List D)) (tg : D → List Sl → Option (List Sl)) (b : MS) : MS := eS it fun ds => forL tg b ds
theorem post_eS {α : Type} {K : PySem.W.Frag} {W : WX} {w0 w : Wd} {H0 H : Hp} {G : List Sl} {s : S} {σ : L2.St} {Dn : Ends} {f : M α} {k : α → MS} {q : α → S → Prop} (g : Good K w0 H0 G s w H σ) (hp : PostS K W w0 H0 w H Dn (eS f k G s))
    (hk : ∀ a s', PostS K W w0 H0 w H Dn (k a G s') → q a s') : Post (f G s) q (Rais K w H σ W) := by
  unfold eS at hp
  cases z : f G s with
  | ok a s1 => rw [z] at hp; exact hk a s1 hp
  | exc c fs s1 =>
    rw [z] at hp
    exact fun w1 H1 da l st x => hp w1 H1 σ da l.up (g.le' l st) x
  | fail => rw [z] at hp; exact hp
section
variable {X : Cx} {W : WX} {tg iter : Expr} {it : M (List D)} {js : List Nat} {g : D → List Sl → Option (List Sl)} {body : List Stmt} {b : MS} {pos : Pos}
theorem ds_for (po : PassesOwn (model X.prog X.w) X.A X.env X.xe) (hc : X.calm = true) (hi : DI X W tg iter it) (hg : DG X tg js g) (hb : DSs X W body b) (hs : ∀ x, foldedSetIterable iter X.env x = pure x := by intro _; rfl) :
    DS X W (.For tg iter body [] pos) (sFor it g b) := by
  obtain ⟨wi, pi, ri⟩ := hi
  obtain ⟨tg', pg, rg⟩ := hg
  obtain ⟨tb, pb, rb⟩ := hb
  refine ⟨_, ps_for po hc pi pg pb hs, fun w0 H0 G s w H σ Dn gd hp => ri G s w H σ _ gd.st gd.en (post_eS gd hp fun ds s' hp' w' H' J Gd Y l st' wk hgd hy => ?_)⟩
  have gd' := gd.le' l st'
  refine for_it wk (fun i σ1 H1 => ∃ G1 s1 w1, Up X.K w' H' w1 H1 ∧ Good X.K w0 H0 G1 s1 w1 H1 σ1 ∧ PostS X.K W w0 H0 w1 H1 Dn (forL g b (ds.drop i) G1 s1)) ⟨G, s', w', Up.refl _ _, gd', hp'.up l.up⟩ (fun i σ1 H1 _ ⟨G1, s1, w1, u, _, _⟩ => hgd w1 H1 u) (fun i x σ1 H1 H2 hi ⟨G1, s1, w1, u, g1, hp1⟩ y => ?_) fun σ1 H1 ⟨G1, s1, w1, u, g1, hp1⟩ => ?_
  · obtain ⟨w2, l2, st2, id⟩ := hy i w1 s1 H1 x H2 u g1.st y
    have e : ds.drop i = ds[i] :: ds.drop (i + 1) := List.drop_eq_getElem_cons hi
    rw [e] at hp1
    have g2 := g1.le' l2 st2
    have hp2 := hp1.up l2.up
    have ix : Is X.K w2 H2 ds[i] x := id ds[i] (by simp [hi])
    simp only [forL] at hp2
    cases q : g ds[i] G1 with
    | none => rw [q] at hp2; exact absurd hp2 (by exact fun z => z)
    | some G2 =>
      rw [q] at hp2
      refine rg ds[i] x G1 G2 w2 H2 σ1 _ g2.en ix q fun σ2 en2 f2 _ => ?_
      have g3 : Good X.K w0 H0 G2 s1 w2 H2 σ2 := ⟨g2.le, g2.st, en2, f2 H0 g2.fr⟩
      refine rb w0 H0 G2 s1 w2 H2 σ2 _ g3 ?_
      dsimp only at hp2
      cases z : b G2 s1 with
      | nx G3 s3 =>
        rw [z] at hp2
        exact fun w3 H3 σ3 u3 g4 => ⟨G3, s3, w3, (u.trans l2.up).trans u3, g4, hp2.up u3⟩
      | ct G3 s3 =>
        rw [z] at hp2
        exact fun w3 H3 σ3 u3 g4 => ⟨G3, s3, w3, (u.trans l2.up).trans u3, g4, hp2.up u3⟩
      | bk G3 s3 => rw [z] at hp2; exact hp2
      | rt d s3 => rw [z] at hp2; exact hp2
      | exc c fs G3 s3 => rw [z] at hp2; exact hp2
      | fail => rw [z] at hp2; exact hp2
  · rw [List.drop_length] at hp1
    exact hp1 w1 H1 σ1 (Up.refl _ _) g1
end

/-! ### while -/
def whileL (t : M Bool) (b : MS) : Nat → MS
  | 0 => fun _ _ => .fail
  | n + 1 => eS t fun k => if k = true then (fun G s => match b G s with
      | .nx G2 s2 => whileL t b n G2 s2
      | .ct G2 s2 => whileL t b n G2 s2
      | .bk G2 s2 => .nx G2 s2
      | o => o) else fun G s => .nx G s
section
variable {X : Cx} {W : WX} {c : Expr} {t : M Bool} {body : List Stmt} {b : MS} {pos : Pos}
theorem ds_while (n : Nat) (po : PassesOwn (model X.prog X.w) X.A X.env X.xe) (ht : DT X W c t) (hb : DSs X W body b) : DS X W (.While c body [] pos) (whileL t b n) := by
  obtain ⟨tc, pc, rc⟩ := ht
  obtain ⟨tb, pb, rb⟩ := hb
  refine ⟨_, ps_while po pc pb, fun w0 H0 G s w H σ Dn gd hp => ?_⟩
  refine ⟨fun m σ1 H1 => ∃ G1 s1 w1, Good X.K w0 H0 G1 s1 w1 H1 σ1 ∧ PostS X.K W w0 H0 w1 H1 Dn (whileL t b m G1 s1), ⟨n, G, s, w, gd, hp⟩, ?_⟩
  rintro m σ1 H1 ⟨G1, s1, w1, g1, hp1⟩
  cases m with
  | zero => exact absurd hp1 (by exact fun z => z)
  | succ m =>
    refine rc G1 s1 w1 H1 σ1 _ g1.st g1.en (eS_post g1 hp1 fun k s2 w2 H2 k' l g2 e hp2 => ?_)
    subst e
    cases k with
    | false => exact hp2 w2 H2 σ1 (Up.refl _ _) g2
    | true =>
      refine ⟨fun σ' H' => ∃ G1 s1 w1, Good X.K w0 H0 G1 s1 w1 H' σ' ∧ PostS X.K W w0 H0 w1 H' Dn (whileL t b m G1 s1), fun σ' H' z => ⟨m, Nat.lt_succ_self m, z⟩, rb w0 H0 G1 s2 w2 H2 σ1 _ g2 ?_⟩
      rw [if_pos rfl] at hp2
      cases z : b G1 s2 with
      | nx G3 s3 =>
        rw [z] at hp2
        exact fun w3 H3 σ3 u3 g4 => ⟨G3, s3, w3, g4, hp2.up u3⟩
      | ct G3 s3 =>
        rw [z] at hp2
        exact fun w3 H3 σ3 u3 g4 => ⟨G3, s3, w3, g4, hp2.up u3⟩
      | bk G3 s3 => rw [z] at hp2; exact hp2
      | rt d s3 => rw [z] at hp2; exact hp2
      | exc c fs G3 s3 => rw [z] at hp2; exact hp2
      | fail => rw [z] at hp2; exact hp2
end
end Qd
namespace Qd
open PySem PySem.Spec PyProof.Rows L2
/-! ### list comprehensions -/
def wipeG (G : List Sl) : List Nat → List Sl
  | [] => G
  | v :: vs => (wipeG G vs).set v .un
theorem wipeG_len (G : List Sl) : ∀ vs, (wipeG G vs).length = G.length
  | [] => rfl
  | v :: vs => by unfold wipeG; rw [List.length_set, wipeG_len G vs]
theorem wipeG_get {G : List Sl} {j : Nat} {z : Sl} : ∀ {vs : List Nat}, (wipeG G vs)[j]? = some z → (j ∈ vs ∧ z = .un) ∨ (j ∉ vs ∧ G[j]? = some z)
  | [], h => .inr ⟨by simp, h⟩
  | v :: vs, h => by
    unfold wipeG at h
    rcases get_set h with ⟨e, z', _⟩ | ⟨ne, h⟩
    · exact .inl ⟨by rw [e]; exact List.mem_cons_self, z'⟩
    · rcases wipeG_get h with ⟨m, e⟩ | ⟨m, e⟩
      · exact .inl ⟨List.mem_cons_of_mem _ m, e⟩
      · exact .inr ⟨fun z => (List.mem_cons.mp z).elim ne m, e⟩
theorem EnvOk.wipe {K : PySem.W.Frag} {w : Wd} {H : Hp} {G : List Sl} {σ : L2.St} (en : EnvOk K w H G σ) (vs : List Nat) : EnvOk K w H (wipeG G vs) (L2.wipe σ vs) where
  val := fun i d h => by
    rcases wipeG_get h with ⟨_, z⟩ | ⟨m, e⟩
    · cases z
    · obtain ⟨v, e1, i1⟩ := en.val i d e
      exact ⟨v, by rw [wipe_out m]; exact e1, i1⟩
  own := fun i d h => by
    rcases wipeG_get h with ⟨_, z⟩ | ⟨m, e⟩
    · cases z
    · obtain ⟨v, e1, i1⟩ := en.own i d e
      exact ⟨v, by rw [wipe_out m]; exact e1, i1⟩
  sep := fun i j d1 d2 a h1 h2 e1 e2 => by
    rcases wipeG_get h1 with ⟨_, z⟩ | ⟨m1, g1⟩
    · cases z
    · rcases wipeG_get h2 with ⟨_, z⟩ | ⟨m2, g2⟩
      · cases z
      · rw [wipe_out m1] at e1
        rw [wipe_out m2] at e2
        exact en.sep i j d1 d2 a g1 g2 e1 e2
  len := by rw [wipeG_len, wipe_length]; exact en.len
/-- nothing is raised out of a comprehension -/
def Out.bindN {α β : Type} (o : Out α) (k : α → S → Out β) : Out β := match o with
  | .ok a s => k a s
  | _ => .fail
def lcL (tg : D → List Sl → Option (List Sl)) (t : M Bool) (e : M D) (G : List Sl) : List D → S → Out (List D)
  | [], s => .ok [] s
  | d :: r, s => match tg d G with
    | none => .fail
    | some G1 => (t G1 s).bindN fun b s1 => if b = true then (e G1 s1).bindN fun y s2 => (lcL tg t e G r s2).bindN fun ys s3 => .ok (y :: ys) s3 else lcL tg t e G r s1
theorem lcL_noexc {tg : D → List Sl → Option (List Sl)} {t : M Bool} {e : M D} {G : List Sl} : ∀ {r : List D} {s : S} {c : Str} {fs : List (Str × D)} {s' : S}, lcL tg t e G r s ≠ .exc c fs s'
  | [], _, _, _, _ => by intro h; cases h
  | d :: r, s, c, fs, s' => by
    intro h
    simp only [lcL] at h
    cases q : tg d G with
    | none => rw [q] at h; cases h
    | some G1 =>
      rw [q] at h
      dsimp only at h
      cases q2 : t G1 s with
      | ok b s1 =>
        rw [q2] at h
        cases b with
        | true =>
          simp only [Out.bindN, if_true] at h
          cases q3 : e G1 s1 with
          | ok y s2 =>
            rw [q3] at h
            dsimp only at h
            cases q4 : lcL tg t e G r s2 with
            | ok ys s3 => rw [q4] at h; cases h
            | exc c' fs' s3 => rw [q4] at h; cases h
            | fail => rw [q4] at h; cases h
          | exc c' fs' s3 => rw [q3] at h; cases h
          | fail => rw [q3] at h; cases h
        | false => exact lcL_noexc h
      | exc c' fs' s3 => rw [q2] at h; cases h
      | fail => rw [q2] at h; cases h
abbrev noW : WX := fun _ _ _ _ => False
theorem takes_no {X : Cx} : Takes X noW := fun u s' ⟨_, _, _, _, _, _, _, _, _, _, _, _, _, _, _, _, w⟩ => False.elim w
def DTs (X : Cx) (W : WX) (ifs : List Expr) (f : M Bool) : Prop := ∃ t : TT, PTs X ifs t ∧ Run X.K (fun _ _ a b => a = b) W t f
def yYes : M Bool := fun _ s => .ok true s
section
variable {X : Cx} {W : WX} {e : Expr} {t : M Bool}
theorem dts_nil : DTs X W [] yYes := ⟨_, pts_nil, fun G s w H σ Q st en hp => Wish.now (a := true) (s := s) hp st rfl⟩
theorem dts_one (h : DT X W e t) : DTs X W [e] t := by
  obtain ⟨tt, p, r⟩ := h
  exact ⟨_, pts_one p, r⟩
end
def xLc (it : M (List D)) (vs : List Nat) (tg : D → List Sl → Option (List Sl)) (t : M Bool) (e : M D) : M (List D) := fun G s => (it G s).bind fun ds s1 => if sz ds.length = true then lcL tg t e (wipeG G vs) ds s1 else .fail
section
variable {X : Cx} {W : WX} {elt tg iter : Expr} {ifs : List Expr} {scope : Scope} {own : List (Str × Nat)} {pos : Pos} {it : M (List D)} {js : List Nat} {g : D → List Sl → Option (List Sl)} {ft : M Bool} {fe : M D}
/-- the heart: what a comprehension's reading asks -/
theorem run_lc {wi : TI} {tg' : TG} {tt : TT} {te : TE} {K : PySem.W.Frag} {vs : List Nat}
    (ri : ∀ (G : List Sl) (s : S) (w : Wd) (H : Hp) (σ : L2.St) (R : It → Hp → Prop), StOk K w s H → EnvOk K w H G σ →
      Post (it G s) (fun ds s' => ∀ w' H' J Gd Y, Le w H w' H' → StOk K w' s' H' → Walk J ds.length Gd Y → (∀ w1 H1, Le w' H' w1 H1 → Gd H1) →
        (∀ i w1 s1 H1 x H2, Le w' H' w1 H1 → StOk K w1 s1 H1 → Y i H1 x H2 → ∃ w2, Le w1 H1 w2 H2 ∧ StOk K w2 s1 H2 ∧ ∀ d, ds[i]? = some d → Is K w2 H2 d x) → R J H') (Rais K w H σ W) → wi σ H R)
    (rg : ∀ (d : D) (v : V) (G G' : List Sl) (w : Wd) (H : Hp) (σ : L2.St) (Q : L2.St → Hp → Prop), EnvOk K w H G σ → Is K w H d v → g d G = some G' →
      (∀ σ', EnvOk K w H G' σ' → (∀ H0, Fresh H0 G σ → Fresh H0 G' σ') → (∀ vs : List Nat, (∀ j ∈ js, j ∈ vs) → L2.wipe σ' vs = L2.wipe σ vs) → Q σ' H) → tg' v σ H Q)
    (rt : Run K (fun _ _ a b => a = b) noW tt ft) (re : Run K (Is K) noW te fe) (hjs : ∀ j ∈ js, j ∈ vs) : RunN K W (tLc wi tg' tt te vs) (xLc it vs g ft fe) := by
  intro G s w H σ Q st en hp
  refine ri G s w H σ _ st en (hp.bind.imp (fun ds s1 hp1 w1 H1 J Gd Y l1 st1 wk hgd hy => ?_) fun _ _ _ q => q)
  intro D0 hD
  cases hz : sz ds.length with
  | false => rw [hz] at hp1; exact absurd hp1 (fun z => z)
  | true =>
    rw [hz, if_pos rfl] at hp1
    have len1 : ds.length ≤ 1000000 := of_decide_eq_true hz
    have nf1 : ¬ w1.fz D0 := fun f => st1.df D0 f hD
    have nl1 : ∀ n, n < w1.nx → D0 ≠ w1.ro n := fun n hn z => st1.dl n hn (z ▸ hD)
    have hD2 : upd H1 D0 (.lst []) D0 = some (.lst []) := upd_same
    have l2 := le_newO (w := w1) (o := .lst []) hD
    have en1 : EnvOk K w1 H1 (wipeG G vs) (L2.wipe σ vs) := (en.le l1).wipe vs
    refine lc_it wk (fun i H2 => i ≤ ds.length ∧ ∃ w2 s2 acc accD, Le w1 H1 w2 H2 ∧ StOk K w2 s2 H2 ∧ ¬ w2.fz D0 ∧ (∀ n, n < w2.nx → D0 ≠ w2.ro n) ∧ H2 D0 = some (.lst acc) ∧ IsL K w2 H2 accD acc ∧ acc.length ≤ i ∧
      Post (lcL g ft fe (wipeG G vs) (ds.drop i) s2) (fun ys s' => ∀ w' H' p, Le w H w' H' → StOk K w' s' H' → NewL K w H p (accD ++ ys) w' H' → Q (.ref p) H') (Rais K w H σ W))
      ⟨Nat.zero_le _, w1, s1, [], [], l2, st_newO st1 hD, nf1, nl1, hD2, by simp [IsL], Nat.le_refl _, by simpa using hp1⟩ (fun i H2 _ ⟨_, w2, s2, acc, accD, l, _⟩ => hgd w2 H2 l) (fun i x H2 H3 hi ⟨_, w2, s2, acc, accD, l, st2, nf, nl, hacc, iacc, lacc, hp2⟩ y => ?_) fun H2 ⟨_, w2, s2, acc, accD, l, st2, nf, nl, hacc, iacc, lacc, hp2⟩ => ?_
    · obtain ⟨w3, l3, st3, id3⟩ := hy i w2 s2 H2 x H3 l st2 y
      have e : ds.drop i = ds[i] :: ds.drop (i + 1) := List.drop_eq_getElem_cons hi
      rw [e] at hp2
      simp only [lcL] at hp2
      have ix : Is K w3 H3 ds[i] x := id3 ds[i] (by simp [hi])
      cases q : g ds[i] (wipeG G vs) with
      | none => rw [q] at hp2; exact absurd hp2 (fun z => z)
      | some G3 =>
        rw [q] at hp2
        dsimp only at hp2
        have le3 := l.trans l3
        refine rg ds[i] x _ G3 w3 H3 _ _ (en1.le le3) ix q fun σ3 en3 _ hw => ⟨by rw [hw vs hjs, wipe_wipe σ vs vs fun _ z => z], ?_⟩
        have nf3 := nofz_le l3 hacc nl nf
        have nl3 := notloc_le l3 hacc nl
        have hacc3 := kept_le l3 hacc nl
        refine rt G3 s2 w3 H3 σ3 _ st3 en3 ?_
        cases q2 : ft G3 s2 with
        | fail => rw [q2] at hp2; exact absurd hp2 (fun z => z)
        | exc c fs s4 => rw [q2] at hp2; exact absurd hp2 (fun z => z)
        | ok b s4 =>
          rw [q2] at hp2
          intro w4 H4 b' l4 st4 eb
          subst eb
          simp only [Out.bindN] at hp2
          have nf4 := nofz_le l4 hacc3 nl3 nf3
          have nl4 := notloc_le l4 hacc3 nl3
          have hacc4 := kept_le l4 hacc3 nl3
          have le4 := le3.trans l4
          have iacc4 := IsL.up (l3.trans l4).up accD acc iacc
          cases b with
          | false =>
            exact ⟨hi, w4, s4, acc, accD, le4, st4, nf4, nl4, hacc4, iacc4, Nat.le_succ_of_le lacc, hp2⟩
          | true =>
            rw [if_pos rfl] at hp2 ⊢
            refine re G3 s4 w4 H4 σ3 _ st4 (en3.le l4) ?_
            cases q3 : fe G3 s4 with
            | fail => rw [q3] at hp2; exact absurd hp2 (fun z => z)
            | exc c fs s5 => rw [q3] at hp2; exact absurd hp2 (fun z => z)
            | ok yd s5 =>
              rw [q3] at hp2
              intro w5 H5 yv l5 st5 iy
              dsimp only at hp2
              have nf5 := nofz_le l5 hacc4 nl4 nf4
              have nl5 := notloc_le l5 hacc4 nl4
              have hacc5 := kept_le l5 hacc4 nl4
              have le5 := le4.trans l5
              refine ⟨acc, hacc5, Nat.lt_of_le_of_lt lacc (Nat.lt_of_lt_of_le hi (Nat.le_trans len1 (by decide))), hi, w5, s5, acc ++ [yv], accD ++ [yd], le_mut le5 hD, st_mut st5 nf5 nl5, nf5, nl5, upd_same, ?_, by rw [List.length_append]; exact Nat.succ_le_succ lacc, ?_⟩
              · refine isL_append (IsL.up ((Le.up l5).trans (up_mut nf5)) accD acc iacc4) ?_
                simp only [IsL]
                exact ⟨yv, [], rfl, Is.up (up_mut nf5) yd yv iy, rfl⟩
              · cases q4 : lcL g ft fe (wipeG G vs) (ds.drop (i + 1)) s5 with
                | fail => rw [q4] at hp2; exact absurd hp2 (fun z => z)
                | exc c fs s6 => exact absurd q4 lcL_noexc
                | ok ys s6 =>
                  rw [q4] at hp2
                  intro w' H' p lf stf nw
                  exact hp2 w' H' p lf stf (by rw [List.append_assoc] at nw; exact nw)
    · rw [List.drop_length] at hp2
      refine hp2 w2 H2 D0 (l1.trans l) st2 ⟨l1.dm D0 hD, nf, nl, acc, hacc, by simpa using iacc⟩
/-- the block's parts, whatever frame it gets -/
abbrev InBlk (X : Cx) (scope : Scope) (P : Cx → Prop) : Prop := ∀ (s : Shared) (H : Hp) (C : Addr) (cl : List (Str × Addr)) (fp : List Addr), P (X.blk s H scope (compEnvC scope cl C X.env) fp)
def tDE (K : PySem.W.Frag) (W : WX) (f : M D) : TE := fun σ H Q => ∃ G s w, StOk K w s H ∧ EnvOk K w H G σ ∧ Post (f G s) (Wish K (Is K) w H Q) (Rais K w H σ W)
def tDT (K : PySem.W.Frag) (W : WX) (f : M Bool) : TT := fun σ H Q => ∃ G s w, StOk K w s H ∧ EnvOk K w H G σ ∧ Post (f G s) (Wish K (fun _ _ a b => a = b) w H Q) (Rais K w H σ W)
def tDG (K : PySem.W.Frag) (js : List Nat) (g : D → List Sl → Option (List Sl)) : TG := fun v σ H Q => ∃ d G G' w, EnvOk K w H G σ ∧ Is K w H d v ∧ g d G = some G' ∧
  ∀ σ', EnvOk K w H G' σ' → (∀ H0, Fresh H0 G σ → Fresh H0 G' σ') → (∀ vs : List Nat, (∀ j ∈ js, j ∈ vs) → L2.wipe σ' vs = L2.wipe σ vs) → Q σ' H
theorem DE.pe {e : Expr} {f : M D} (h : DE X W e f) : PE X e (tDE X.K W f) := by
  obtain ⟨t, p, r⟩ := h
  exact ⟨fun pins s σ H Q I ⟨G, s', w, st, en, hp⟩ => p.run pins s σ H Q I (r G s' w H σ Q st en hp)⟩
theorem DTs.pe {f : M Bool} (h : DTs X W ifs f) : PTs X ifs (tDT X.K W f) := by
  obtain ⟨t, p, r⟩ := h
  exact ⟨fun pins s σ H Q I ⟨G, s', w, st, en, hp⟩ => p.run pins s σ H Q I (r G s' w H σ Q st en hp)⟩
theorem DG.pe (h : DG X tg js g) : PG X tg (tDG X.K js g) := by
  obtain ⟨t, p, r⟩ := h
  exact ⟨fun pins s σ H v u Q I rv ⟨d, G, G', w, en, iv, q, k⟩ => p.run pins s σ H v u Q I rv (r d v G G' w H σ Q en iv q k)⟩
theorem dn_lc (hc : X.calm = true) (hN : X.N.Nodup) (hi : DIr X W tg iter it) (ok : BlkOk X.N X.env.scope scope own) (hg : InBlk X scope (fun Y => DG Y tg js g)) (ht : InBlk X scope (fun Y => DTs Y noW ifs ft)) (he : InBlk X scope (fun Y => DE Y noW elt fe))
    (hjs : ∀ j ∈ js, j ∈ own.map (·.2) := by decide) (hs : ∀ x, foldedSetIterable iter X.env x = pure x := by intro _; rfl) : DN X W (.ListComp elt [⟨tg, iter, ifs, 0⟩] scope pos) (xLc it (own.map (·.2)) g ft fe) := by
  obtain ⟨wi, pi, ri⟩ := hi
  refine ⟨_, pe_lc (g := tDG X.K js g) (tt := tDT X.K noW ft) (te := tDE X.K noW fe) hc hN pi ok (fun s H C cl fp => (hg s H C cl fp).pe) (fun s H C cl fp => (ht s H C cl fp).pe) (fun s H C cl fp => (he s H C cl fp).pe) hs, ?_⟩
  exact run_lc (js := js) ri (fun d v G G' w H σ Q en iv q k => ⟨d, G, G', w, en, iv, q, k⟩) (fun G s w H σ Q st en hp => ⟨G, s, w, st, en, hp⟩) (fun G s w H σ Q st en hp => ⟨G, s, w, st, en, hp⟩) hjs
/-- x = [..] on one line -/
theorem ds_setLc {y : Str} {py spos : Pos} (i : Nat) (hc : X.calm = true) (hN : X.N.Nodup) (hi : DIr X W tg iter it) (ok : BlkOk X.N X.env.scope scope own) (hg : InBlk X scope (fun Y => DG Y tg js g)) (ht : InBlk X scope (fun Y => DTs Y noW ifs ft)) (he : InBlk X scope (fun Y => DE Y noW elt fe))
    (hsw : swapsWith (.ListComp elt [⟨tg, iter, ifs, 0⟩] scope pos) (some (.Name y py)) spos.line X.env = pure true) (hy : X.N[i]? = some y := by rfl) (hyl : X.env.scope.names.lookup y = some .local := by rfl)
    (hjs : ∀ j ∈ js, j ∈ own.map (·.2) := by decide) (hs : ∀ x, foldedSetIterable iter X.env x = pure x := by intro _; rfl) : DS X W (.Assign [.Name y py] (.ListComp elt [⟨tg, iter, ifs, 0⟩] scope pos) spos) (sSetO i (xLc it (own.map (·.2)) g ft fe)) := by
  obtain ⟨wi, pi, ri⟩ := hi
  refine ⟨_, ps_setLc (g := tDG X.K js g) (tt := tDT X.K noW ft) (te := tDE X.K noW fe) hc hN hy hyl hsw pi ok (fun s H C cl fp => (hg s H C cl fp).pe) (fun s H C cl fp => (ht s H C cl fp).pe) (fun s H C cl fp => (he s H C cl fp).pe) hs, fun w0 H0 G s w H σ Dn gd hp => ?_⟩
  have r := run_lc (js := js) (tg' := tDG X.K js g) (tt := tDT X.K noW ft) (te := tDE X.K noW fe) (vs := own.map (·.2)) ri (fun d v G G' w H σ Q en iv q k => ⟨d, G, G', w, en, iv, q, k⟩) (fun G s w H σ Q st en hp => ⟨G, s, w, st, en, hp⟩) (fun G s w H σ Q st en hp => ⟨G, s, w, st, en, hp⟩) hjs
  refine r G s w H σ _ gd.st gd.en ?_
  unfold sSetO eS at hp
  cases q : xLc it (own.map (·.2)) g ft fe G s with
  | ok ds s1 =>
    rw [q] at hp
    exact fun w1 H1 p1 l st n => hp w1 H1 _ l.up (gd.newO l st n)
  | exc c fs s1 =>
    rw [q] at hp
    exact fun w1 H1 da l st z => hp w1 H1 σ da l.up (gd.le' l st) z
  | fail => rw [q] at hp; exact hp
end

/-! ### objects that others change -/
section
variable {K : PySem.W.Frag} {w : Wd} {H : Hp} {s : S}
def addLoc (s : S) (d : D) : S := ⟨fun j => if j = s.nx then some d else s.m j, s.nx + 1⟩
def addW (w : Wd) (p : Addr) : Wd := { w with ro := fun n => if n = w.nx then p else w.ro n, nx := w.nx + 1 }
theorem NewL.loc {w0 : Wd} {H0 : Hp} {p : Addr} {ds : List D} (h : NewL K w0 H0 p ds w H) (l : Le w0 H0 w H) (st : StOk K w s H) : Le w0 H0 (addW w p) H ∧ StOk K (addW w p) (addLoc s (.lst ds)) H ∧ Is K (addW w p) H (.loc s.nx) (.ref p) := by
  obtain ⟨h0, nf, nl, xs, e, i⟩ := h
  have ro : ∀ n, n < w.nx → (addW w p).ro n = w.ro n := fun n hn => if_neg (Nat.ne_of_lt hn)
  have u : Up K w H (addW w p) H := ⟨rfl, Nat.le_succ _, ro, fun _ z => z, fun _ o _ q => ⟨o, q, Grow.refl o⟩⟩
  have rp : (addW w p).ro w.nx = p := if_pos rfl
  refine ⟨⟨l.me, Nat.le_succ_of_le l.nx, fun n hn => (ro n (Nat.lt_of_lt_of_le hn l.nx)).trans (l.ro n hn), fun n h1 h2 => ?_, l.fz, l.fn, l.hp, l.dm⟩, ⟨congrArg (· + 1) st.nx, fun n m hn hm z => ?_, fun n d q => ?_, st.df, fun n hn => ?_⟩, ?_⟩
  · by_cases hn : n < w.nx
    · rw [ro n hn]; exact l.rn n h1 hn
    · have : n = w.nx := Nat.le_antisymm (Nat.lt_succ_iff.mp h2) (Nat.not_lt.mp hn)
      rw [this, rp]; exact h0
  · have hn' : n ≤ w.nx := Nat.lt_succ_iff.mp hn
    have hm' : m ≤ w.nx := Nat.lt_succ_iff.mp hm
    rcases Nat.lt_or_eq_of_le hn' with a | a
    · rcases Nat.lt_or_eq_of_le hm' with b | b
      · rw [ro n a, ro m b] at z; exact st.inj n m a b z
      · rw [ro n a, b, rp] at z; exact absurd z.symm (nl n a)
    · rcases Nat.lt_or_eq_of_le hm' with b | b
      · rw [a, rp, ro m b] at z; exact absurd z (nl m b)
      · rw [a, b]
  · by_cases hn : n = s.nx
    · have q' : (some (D.lst ds) : Option D) = some d := by
        have : (addLoc s (.lst ds)).m n = some (.lst ds) := if_pos hn
        rw [← this]; exact q
      cases q'
      rw [hn, st.nx, rp]
      exact ⟨Nat.lt_succ_self _, nf, xs, e, IsL.up u ds xs i⟩
    · have q' : s.m n = some d := by
        have : (addLoc s (.lst ds)).m n = s.m n := if_neg hn
        rw [← this]; exact q
      obtain ⟨h1, h2, h3⟩ := st.live n d q'
      rw [ro n h1]
      exact ⟨Nat.lt_succ_of_lt h1, h2, h3.up' u fun _ z => z⟩
  · by_cases hn' : n < w.nx
    · rw [ro n hn']; exact st.dl n hn'
    · have : n = w.nx := Nat.le_antisymm (Nat.lt_succ_iff.mp hn) (Nat.not_lt.mp hn')
      rw [this, rp, e]; intro z; cases z
  · simp only [Is]
    rw [st.nx]
    exact ⟨Nat.lt_succ_self _, by rw [rp]⟩
/-- a mutable list is written -/
def setLoc (s : S) (n : Nat) (d : D) : S := { s with m := fun j => if j = n then some d else s.m j }
theorem loc_write {n : Nat} {d0 : D} {ds : List D} {ys : List V} (st : StOk K w s H) (e : s.m n = some d0) (i : IsL K w H ds ys) : Le w H w (upd H (w.ro n) (.lst ys)) ∧ StOk K w (setLoc s n (.lst ds)) (upd H (w.ro n) (.lst ys)) := by
  obtain ⟨hn, nf, c⟩ := st.live n d0 e
  have u : Up K w H w (upd H (w.ro n) (.lst ys)) := up_mut nf
  refine ⟨⟨rfl, Nat.le_refl _, fun _ _ => rfl, fun m h1 h2 => absurd h2 (Nat.not_lt.mpr h1), fun _ z => z, fun _ z => .inl z, fun a o q => ?_, fun a q => ?_⟩, ⟨st.nx, st.inj, fun m d q => ?_, fun a f => upd_dom (st.df a f), fun m hm => upd_dom (st.dl m hm)⟩⟩
  · by_cases ha : a = w.ro n
    · exact .inl ⟨by rw [ha]; exact nf, n, hn, ha⟩
    · exact .inr (by rw [upd_ne ha]; exact q)
  · by_cases ha : a = w.ro n
    · rw [ha, upd_same] at q; cases q
    · rw [upd_ne ha] at q; exact q
  · by_cases hm : m = n
    · have q' : (some (D.lst ds) : Option D) = some d := by
        have : (setLoc s n (.lst ds)).m m = some (.lst ds) := if_pos hm
        rw [← this]; exact q
      cases q'
      rw [hm]
      exact ⟨hn, nf, ys, upd_same, IsL.up u ds ys i⟩
    · have q' : s.m m = some d := by
        have : (setLoc s n (.lst ds)).m m = s.m m := if_neg hm
        rw [← this]; exact q
      obtain ⟨h1, h2, h3⟩ := st.live m d q'
      refine ⟨h1, h2, h3.up' u fun o' e' => ?_⟩
      rw [upd_ne fun z => hm (st.inj m n h1 hn z)]
      exact e'
end
section
variable {X : Cx} {W : WX} {e o i : Expr} {fl : M (List D)} {fo fi fe : M D} {pos pos' : Pos}
/-- a list that others may change: [..] -/
def xLoc (f : M (List D)) : M D := fun G s => (f G s).bind fun ds s => .ok (.loc s.nx) (addLoc s (.lst ds))
theorem DN.loc (h : DN X W e fl) : DE X W e (xLoc fl) := by
  obtain ⟨t, p, r⟩ := h
  refine ⟨t, p, fun G s w H σ Q st en hp => r G s w H σ Q st en (hp.bind.imp (fun ds s' q w' H' p l st' n => ?_) fun _ _ _ q => q)⟩
  obtain ⟨l2, st2, i⟩ := n.loc l st'
  exact q _ H' _ l2 st2 i
/-- o[i] = e, o such a list -/
def stD (a k v : D) (s : S) : Option S := match a, k with
  | .loc n, .int j => (match s.m n with
    | some (.lst ds) => (ixN ds.length j).map fun m => setLoc s n (.lst (ds.set m v))
    | _ => none)
  | _, _ => none
def sStore (fo fi fe : M D) : MS := eS (fun G s => (fe G s).bind fun v s1 => (fo G s1).bind fun a s2 => (fi G s2).bind fun k s3 => lift (stD a k v s3) s3) fun s' G _ => .nx G s'
theorem ds_store (he : DE X W e fe) (ho : DE X W o fo) (hi : DE X W i fi) (hs : swapsWithSole [.Subscript o i pos'] e pos.line X.env = pure false := by rfl) (hw : swappedStores [.Subscript o i pos'] e X.env = pure none := by rfl)
    (h1 : (assignEach [.Subscript o i pos'] X.env).map (·.2) = [assign (.Subscript o i pos') X.env] := by rfl)
    (ha : ∀ v, assign (.Subscript o i pos') X.env v = (do
      let ov ← holding [v] (eval o X.env)
      let iv ← holding [v, ov] (eval i X.env)
      standAt pos'
      holding [v, ov, iv] (setItem ov iv v)
      release [v, ov, iv] []) := by intro _; rfl) : DS X W (.Assign [.Subscript o i pos'] e pos) (sStore fo fi fe) := by
  obtain ⟨te, pe, re⟩ := he
  obtain ⟨to, po, ro⟩ := ho
  obtain ⟨ti, pi, ri⟩ := hi
  refine ⟨_, ps_asg pe (pg_sub po pi set_list ha) hs hw h1, fun w0 H0 G s w H σ Dn gd hp => ?_⟩
  have hp2 := post_eS (q := fun s' s3 => ∀ w' H' σ', Up X.K w H w' H' → Good X.K w0 H0 G s' w' H' σ' → Dn.nx σ' H') gd hp fun s' s3 z => z
  refine re G s w H σ _ gd.st gd.en (hp2.bind.imp (fun v s1 q1 w1 H1 vv l1 st1 i1 => ?_) fun _ _ _ q => q)
  refine ro G s1 w1 H1 σ _ st1 (gd.en.le l1) (q1.bind.imp (fun a s2 q2 w2 H2 av l2 st2 i2 => ?_) fun _ _ _ q => q.le l1)
  refine ri G s2 w2 H2 σ _ st2 (gd.en.le (l1.trans l2)) (q2.bind.imp (fun k s3 q3 w3 H3 kv l3 st3 i3 => ?_) fun _ _ _ q => q.le (l1.trans l2))
  obtain ⟨s4, e4, q4⟩ := post_lift q3
  unfold stD at e4
  split at e4
  · split at e4
    · rename_i _ _ n j _ ds hm
      rw [Option.map_eq_some_iff] at e4
      obtain ⟨m, em, rfl⟩ := e4
      have i2' := Is.up l3.up _ _ i2
      simp only [Is] at i2' i3
      obtain ⟨hn, rfl⟩ := i2'
      subst i3
      obtain ⟨hn', nf, xs, ex, ix⟩ := st3.live n _ hm
      have iv := Is.up (l2.trans l3).up _ _ i1
      obtain ⟨l4, st4⟩ := loc_write (ds := ds.set m v) (ys := xs.set m vv) st3 hm (isL_set m ix iv)
      have lt := ((l1.trans l2).trans l3).trans l4
      exact ⟨_, xs, j, m, rfl, rfl, ex, by rw [isL_len ix]; exact em, q4 w3 _ σ lt.up (gd.le' lt st4)⟩
    · cases e4
  · cases e4
end
end Qd
namespace Qd
open PySem PySem.Spec PyProof.Rows L2
/-! ### self.f = e, in an __init__ -/
theorem putF_keys (f : Str) (v : V) : ∀ as : List (Str × V), f ∉ as.map (·.1) → (putF f v as).map (·.1) = as.map (·.1) ++ [f]
  | [], _ => rfl
  | (g, x) :: r, h => by
    have hg : g ≠ f := fun z => h (by rw [z]; exact List.mem_cons_self)
    unfold putF
    rw [if_neg hg, List.map_cons, List.map_cons, List.cons_append, putF_keys f v r fun z => h (List.mem_cons_of_mem _ z)]
theorem isF_append {K : PySem.W.Frag} {w : Wd} {H : Hp} {as : List (Str × V)} : ∀ {fs gs : List (Str × D)}, IsF K w H fs as → IsF K w H gs as → IsF K w H (fs ++ gs) as
  | [], _, _, h => h
  | (f, d) :: r, gs, h, h2 => by
    simp only [List.cons_append, IsF] at h ⊢
    exact ⟨h.1, isF_append h.2 h2⟩
section
variable {K : PySem.W.Frag} {w0 w : Wd} {H0 H : Hp} {G : List Sl} {s : S} {σ : L2.St}
theorem st_mutU {a : Addr} {o : HO} (st : StOk K w s H) (u : Up K w H w (upd H a o)) (nl : ∀ n, n < w.nx → a ≠ w.ro n) : StOk K w s (upd H a o) where
  nx := st.nx
  inj := st.inj
  live := fun n d e => by
    obtain ⟨h1, h2, h3⟩ := st.live n d e
    exact ⟨h1, h2, h3.up' u fun o' e' => by rw [upd_ne (Ne.symm (nl n h1))]; exact e'⟩
  df := fun b f => upd_dom (st.df b f)
  dl := fun n hn => upd_dom (st.dl n hn)
theorem own_mutU {a b : Addr} {o : HO} {d : D} (u : Up K w H w (upd H a o)) (h : OwnAt K w H b d) (ne : b ≠ a) : OwnAt K w (upd H a o) b d := by
  cases d with
  | obj c fs =>
    obtain ⟨f, nl, hm, dx, as, e, ci, na, r, q⟩ := h
    exact ⟨f, nl, hm, dx, as, by rw [upd_ne ne]; exact e, ci, na, IsF.up u fs as as (fun _ _ q => q) r, q⟩
  | lst ds =>
    obtain ⟨f, nl, c⟩ := h
    exact ⟨f, nl, c.up' u fun o' e' => by rw [upd_ne ne]; exact e'⟩
  | _ => exact absurd h.2.2 id
theorem Good.mutU {i : Nat} {d d' : D} {a : Addr} {o : HO} (g : Good K w0 H0 G s w H σ) (gi : G[i]? = some (.own d)) (si : σ[i]? = some (some (.ref a))) (u : Up K w H w (upd H a o)) (nl : ∀ n, n < w.nx → a ≠ w.ro n) (new : OwnAt K w (upd H a o) a d') :
    Good K w0 H0 (G.set i (.own d')) s w (upd H a o) σ := by
  refine ⟨le_mut g.le (g.fr i d a gi si), st_mutU g.st u nl, ⟨fun j e h => ?_, fun j e h => ?_, fun j k d1 d2 b h1 h2 e1 e2 => ?_, by rw [List.length_set]; exact g.en.len⟩, fun j e b h1 h2 => ?_⟩
  · rcases get_set h with ⟨rfl, z, hl⟩ | ⟨ne, h⟩
    · cases z
    · obtain ⟨v, e1, i1⟩ := g.en.val j e h
      exact ⟨v, e1, Is.up u e v i1⟩
  · rcases get_set h with ⟨rfl, z, hl⟩ | ⟨ne, h⟩
    · cases z
      exact ⟨a, si, new⟩
    · obtain ⟨b, e1, i1⟩ := g.en.own j e h
      exact ⟨b, e1, own_mutU u i1 fun z => ne (g.en.sep j i e d a h gi (z ▸ e1) si)⟩
  · rcases get_set h1 with ⟨j1, z, hl⟩ | ⟨n1, g1⟩
    · rcases get_set h2 with ⟨j2, z2, hl2⟩ | ⟨n2, g2⟩
      · rw [j1, j2]
      · exact g.en.sep j k d d2 b (j1 ▸ gi) g2 e1 e2
    · rcases get_set h2 with ⟨j2, z2, hl2⟩ | ⟨n2, g2⟩
      · exact g.en.sep j k d1 d b g1 (j2 ▸ gi) e1 e2
      · exact g.en.sep j k d1 d2 b g1 g2 e1 e2
  · rcases get_set h1 with ⟨rfl, z, hl⟩ | ⟨n1, h1⟩
    · exact g.fr j d b gi h2
    · exact g.fr j e b h1 h2
end
section
variable {X : Cx} {W : WX} {e o : Expr} {fe : M D} {pos pos' op : Pos} {x : Str}
def sFld (i : Nat) (c n : Str) (f : M D) : MS := eS f fun d G s => match G[i]? with
  | some (.own (.obj c' fs)) => if c' = c ∧ n ∉ fs.map (·.1) ∧ fs.length < 1000 then .nx (G.set i (.own (.obj c' (fs ++ [(n, d)])))) s else .fail
  | _ => .fail
theorem ds_fld (i : Nat) {c n : Str} (na : NoAttr X.K (He.ga X.K c) n) (h : DE X W e fe) (hi : X.N[i]? = some x := by rfl) (hv : Vis X.env.scope x := by first | exact Or.inl rfl | exact Or.inr (Or.inl rfl) | exact Or.inr (Or.inr rfl)) (hd : (x == ("__debug__" : Str)) = false := by decide) (hcd : (x == ("__classdict__" : Str)) = false := by decide)
    (hs : swapsWith e (some (.Attribute (.Name x op) n pos')) pos.line X.env = pure false := by rfl) : DS X W (.Assign [.Attribute (.Name x op) n pos'] e pos) (sFld i c n fe) := by
  obtain ⟨t, p, r⟩ := h
  refine ⟨_, ps_fld (pe_var hi hv hd hcd) p hs, fun w0 H0 G s w H σ Dn gd hp => r G s w H σ _ gd.st gd.en (eS_post gd hp fun d s' w' H' v l g' iv hp' => ?_)⟩
  split at hp'
  · rename_i c' fs gi
    split at hp'
    · rename_i hc
      obtain ⟨rfl, hn, hl⟩ := hc
      obtain ⟨a, si, fz, nl, hme, dx, as, ea, ci, nas, r', q⟩ := g'.en.own i _ gi
      have hna : n ∉ as.map (·.1) := by rw [q]; exact hn
      have hlk : as.lookup n = none := by
        cases z : as.lookup n with
        | none => rfl
        | some u => exact absurd (List.mem_map.mpr ⟨(n, u), PySem.mem_of_lookup z, rfl⟩) hna
      have lks : ∀ f u, as.lookup f = some u → (putF n v as).lookup f = some u := fun f u z => by
        rw [lookup_putF]
        by_cases hf : f = n
        · subst hf; rw [hlk] at z; cases z
        · rw [if_neg hf]; exact z
      have u : Up X.K w' H' w' (upd H' a (.ins (He.ga X.K c') dx (putF n v as))) := ⟨rfl, Nat.le_refl _, fun _ _ => rfl, fun _ z => z, fun b ob f eb => by
        by_cases hb : b = a
        · subst hb
          rw [ea] at eb
          cases eb
          refine ⟨_, upd_same, .inr ⟨_, _, _, _, rfl, rfl, lks, fun f u z => ?_⟩⟩
          rw [lookup_putF] at z
          by_cases hf : f = n
          · subst hf; exact .inr na
          · rw [if_neg hf] at z; exact .inl z
        · exact ⟨ob, by rw [upd_ne hb]; exact eb, Grow.refl ob⟩⟩
      refine ⟨_, si, a, _, dx, as, rfl, ea, ci.cl, na, by
        have e1 := congrArg List.length q
        rw [List.length_map, List.length_map] at e1
        rw [e1]; exact hl, ?_⟩
      refine hp' w' _ σ u (g'.mutU gi si u nl ⟨fz, nl, hme, dx, _, upd_same, ci, fun f u' z => ?_, ?_, ?_⟩)
      · rw [lookup_putF] at z
        by_cases hf : f = n
        · subst hf; exact na
        · rw [if_neg hf] at z; exact nas f u' z
      · refine isF_append (IsF.up u fs as _ lks r') ?_
        simp only [IsF, and_true]
        exact ⟨v, by rw [lookup_putF, if_pos rfl], Is.up u d v iv⟩
      · rw [putF_keys n v as hna, q, List.map_append] <;> rfl
    · exact absurd hp' id
  · exact absurd hp' id
/-! ### x op= e -/
def sAug (i : Nat) (g : D → D → S → Out D) (f : M D) : MS := fun G s => match G[i]? with
  | some (.val a) => eS (fun G s => (f G s).bind fun b s1 => g a b s1) (fun d G s => .nx (G.set i (.val d)) s) G s
  | _ => .fail
theorem ds_aug (i : Nat) {aop : Operator} {g : D → D → S → Out D} (hN : X.N.Nodup) (ho : OpD X W (inplaceOp aop) g) (h : DE X W e fe) (hi : X.N[i]? = some x := by rfl) (hx : Loc X.env.scope x := by first | exact .inl rfl | exact .inr rfl)
    (hf : X.fn x = true ∨ X.env.scope.names.lookup x = some .local := by first | exact .inl rfl | exact .inr rfl) : DS X W (.AugAssign (.Name x pos') aop e pos) (sAug i g fe) := by
  obtain ⟨t, p, r⟩ := h
  obtain ⟨rr, orr, hr⟩ := ho
  refine ⟨_, ps_aug (i := i) hN hi hx p orr hf, fun w0 H0 G s w H σ Dn gd hp => ?_⟩
  unfold sAug at hp
  cases gi : G[i]? with
  | none => rw [gi] at hp; exact absurd hp (fun z => z)
  | some z =>
    rw [gi] at hp
    cases z with
    | un => exact absurd hp (fun z => z)
    | own d => exact absurd hp (fun z => z)
    | val a =>
      obtain ⟨v, ev, iv⟩ := gd.en.val i a gi
      have hp2 := post_eS (q := fun d s' => ∀ w' H' σ', Up X.K w H w' H' → Good X.K w0 H0 (G.set i (.val d)) s' w' H' σ' → Dn.nx σ' H') gd hp fun d s' z => z
      refine ⟨v, ev, r G s w H σ _ gd.st gd.en (hp2.bind.imp (fun b s1 q w1 H1 bv l st1 ib => ?_) fun _ _ _ q => q)⟩
      refine hr a b v bv s1 w1 H1 σ _ st1 (IsR.of _ _ (Is.up l.up a v iv)) (IsR.of _ _ ib) (q.imp (fun d s2 q w2 H2 dv l2 st2 id => ?_) fun _ _ _ q => q.le l)
      have lt := l.trans l2
      exact q w2 H2 _ lt.up ((gd.le' lt st2).setV id)
theorem oi_add : OpD X W (inplaceOp .Add) (fun a b s => lift (intD yesC (fun i j => i + j) a b) s) := od_int (opr_yes iop_add) fun _ _ _ => trivial
theorem oi_sub : OpD X W (inplaceOp .Sub) (fun a b s => lift (intD yesC (fun i j => i - j) a b) s) := od_int (opr_yes iop_sub) fun _ _ _ => trivial
theorem oi_mul : OpD X W (inplaceOp .Mult) (fun a b s => lift (mulD a b) s) := od_int iop_mul fun i j h => by
  simp only [mulC, Bool.or_eq_true, Bool.and_eq_true, decide_eq_true_eq] at h
  exact h
end
/-! ### several things into slots at once -/
def SlOk (K : PySem.W.Frag) (H0 : Hp) (w : Wd) (H : Hp) : Sl → V → Prop
  | .un, _ => True
  | .val d, v => Is K w H d v
  | .own d, v => ∃ a, v = .ref a ∧ H0 a = none ∧ OwnAt K w H a d
def SlsOk (K : PySem.W.Frag) (H0 : Hp) (w : Wd) (H : Hp) : List Sl → List V → Prop
  | [], vs => vs = []
  | l :: r, vs => ∃ v vr, vs = v :: vr ∧ SlOk K H0 w H l v ∧ SlsOk K H0 w H r vr ∧ (∀ d, l = .own d → ∀ (k : Nat) e, r[k]? = some (.own e) → vr[k]? ≠ some v)
def RunX (K : PySem.W.Frag) (W : WX) (t : TA) (f : M (List Sl)) : Prop := ∀ (G : List Sl) (s : S) (w : Wd) (H : Hp) (σ : L2.St) (Q : List V → Hp → Prop), StOk K w s H → EnvOk K w H G σ →
  Post (f G s) (fun ls s' => ∀ w' H' vs, Le w H w' H' → StOk K w' s' H' → SlsOk K H w' H' ls vs → Q vs H') (Rais K w H σ W) → t σ H Q
def DX (X : Cx) (W : WX) (es : List Expr) (f : M (List Sl)) : Prop := ∃ t : TA, PA X es t ∧ RunX X.K W t f
theorem SlOk.le {K : PySem.W.Frag} {H0 : Hp} {w w' : Wd} {H H' : Hp} {l : Sl} {v : V} (le : Le w H w' H') (h : SlOk K H0 w H l v) : SlOk K H0 w' H' l v := by
  cases l with
  | un => trivial
  | val d => exact Is.up le.up d v h
  | own d =>
    obtain ⟨a, e, h0, o⟩ := h
    exact ⟨a, e, h0, o.le le⟩
theorem SlsOk.back {K : PySem.W.Frag} {H0 H1 : Hp} {w : Wd} {H : Hp} (h : ∀ a, H1 a = none → H0 a = none) : ∀ {ls : List Sl} {vs : List V}, SlsOk K H1 w H ls vs → SlsOk K H0 w H ls vs
  | [], _, z => z
  | l :: r, _, ⟨v, vr, e, a, b, c⟩ => ⟨v, vr, e, by
    cases l with
    | un => trivial
    | val d => exact a
    | own d =>
      obtain ⟨p, e1, e2, e3⟩ := a
      exact ⟨p, e1, h p e2, e3⟩, SlsOk.back h b, c⟩
theorem SlsOk.own_at {K : PySem.W.Frag} {H0 : Hp} {w : Wd} {H : Hp} : ∀ {ls : List Sl} {vs : List V} {k : Nat} {e : D} {v : V}, SlsOk K H0 w H ls vs → ls[k]? = some (.own e) → vs[k]? = some v → ∃ a, v = .ref a ∧ H0 a = none
  | [], _, _, _, _, _, h, _ => by simp at h
  | l :: r, _, 0, e, v, ⟨v', vr, rfl, a, _, _⟩, h, h2 => by
    simp at h h2
    subst h h2
    obtain ⟨p, e1, e2, _⟩ := a
    exact ⟨p, e1, e2⟩
  | l :: r, _, k + 1, e, v, ⟨v', vr, rfl, _, b, _⟩, h, h2 => SlsOk.own_at (k := k) b (by simpa using h) (by simpa using h2)
def xsNil : M (List Sl) := fun _ s => .ok [] s
def xsV (f : M D) (g : M (List Sl)) : M (List Sl) := fun G s => (f G s).bind fun d s1 => (g G s1).bind fun ls s2 => .ok (.val d :: ls) s2
def xsO (f : M (List D)) (g : M (List Sl)) : M (List Sl) := fun G s => (f G s).bind fun d s1 => (g G s1).bind fun ls s2 => .ok (.own (.lst d) :: ls) s2
section
variable {X : Cx} {W : WX} {e : Expr} {es : List Expr} {fe : M D} {fl : M (List D)} {g : M (List Sl)}
theorem dx_nil : DX X W [] xsNil := ⟨_, pa_nil, fun G s w H σ Q st en hp => hp w H [] (Le.refl w H) st rfl⟩
theorem dx_val (h : DE X W e fe) (h2 : DX X W es g) (hs : starEach (e :: es) X.env = (false, eval e X.env) :: starEach es X.env := by rfl) : DX X W (e :: es) (xsV fe g) := by
  obtain ⟨t, p, r⟩ := h
  obtain ⟨u, q, r2⟩ := h2
  refine ⟨_, pa_cons p q hs, fun G s w H σ Q st en hp => r G s w H σ _ st en (hp.bind.imp (fun d s1 q1 w1 H1 v l st1 iv => ?_) fun _ _ _ q => q)⟩
  refine r2 G s1 w1 H1 σ _ st1 (en.le l) (q1.bind.imp (fun ls s2 q2 w2 H2 vs l2 st2 isl => ?_) fun _ _ _ q => q.le l)
  exact q2 w2 H2 _ (l.trans l2) st2 ⟨v, vs, rfl, Is.up l2.up d v iv, isl.back l.dm, fun d h => by cases h⟩
theorem dx_own (h : DN X W e fl) (h2 : DX X W es g) (hs : starEach (e :: es) X.env = (false, eval e X.env) :: starEach es X.env := by rfl) : DX X W (e :: es) (xsO fl g) := by
  obtain ⟨t, p, r⟩ := h
  obtain ⟨u, q, r2⟩ := h2
  refine ⟨_, pa_cons p q hs, fun G s w H σ Q st en hp => r G s w H σ _ st en (hp.bind.imp (fun d s1 q1 w1 H1 v l st1 n => ?_) fun _ _ _ q => q)⟩
  obtain ⟨h0, nf, nl, c⟩ := n
  have o1 : OwnAt X.K w1 H1 v (.lst d) := ⟨nf, nl, c⟩
  refine r2 G s1 w1 H1 σ _ st1 (en.le l) (q1.bind.imp (fun ls s2 q2 w2 H2 vs l2 st2 isl => ?_) fun _ _ _ q => q.le l)
  refine q2 w2 H2 _ (l.trans l2) st2 ⟨_, vs, rfl, ⟨v, rfl, h0, o1.le l2⟩, isl.back l.dm, fun d' _ k e hk hv => ?_⟩
  obtain ⟨a, ea, ha⟩ := isl.own_at hk hv
  cases ea
  exact own_there o1 ha
end
/-- the slots is, one behind another -/
def putS (G : List Sl) : List Nat → List Sl → List Sl
  | i :: is, l :: ls => putS (G.set i l) is ls
  | _, _ => G
def putV (σ : L2.St) : List Nat → List V → L2.St
  | i :: is, v :: vs => putV (σ.set i (some v)) is vs
  | _, _ => σ
section
variable {K : PySem.W.Frag} {w0 w w' : Wd} {H0 Hs H H' : Hp} {G : List Sl} {s s' : S} {σ : L2.St}
theorem Good.put1 {i : Nat} {l : Sl} {v : V} (g : Good K w0 H0 G s w H σ) (h : SlOk K H0 w H l v) (sep : ∀ d, l = .own d → ∀ (j : Nat) e, j ≠ i → G[j]? = some (.own e) → σ[j]? ≠ some (some v)) : Good K w0 H0 (G.set i l) s w H (σ.set i (some v)) := by
  cases l with
  | un =>
    refine ⟨g.le, g.st, ⟨fun j d z => ?_, fun j d z => ?_, fun j k d1 d2 a z1 z2 e1 e2 => ?_, by rw [List.length_set, List.length_set]; exact g.en.len⟩, fun j d a z1 e1 => ?_⟩
    · rcases get_set z with ⟨_, z', _⟩ | ⟨ne, z⟩
      · cases z'
      · obtain ⟨u, e1, i1⟩ := g.en.val j d z
        exact ⟨u, by rw [List.getElem?_set_ne (Ne.symm ne)]; exact e1, i1⟩
    · rcases get_set z with ⟨_, z', _⟩ | ⟨ne, z⟩
      · cases z'
      · obtain ⟨u, e1, i1⟩ := g.en.own j d z
        exact ⟨u, by rw [List.getElem?_set_ne (Ne.symm ne)]; exact e1, i1⟩
    · rcases get_set z1 with ⟨_, z', _⟩ | ⟨n1, z1⟩
      · cases z'
      · rcases get_set z2 with ⟨_, z', _⟩ | ⟨n2, z2⟩
        · cases z'
        · rw [List.getElem?_set_ne (Ne.symm n1)] at e1
          rw [List.getElem?_set_ne (Ne.symm n2)] at e2
          exact g.en.sep j k d1 d2 a z1 z2 e1 e2
    · rcases get_set z1 with ⟨_, z', _⟩ | ⟨n1, z1⟩
      · cases z'
      · rw [List.getElem?_set_ne (Ne.symm n1)] at e1
        exact g.fr j d a z1 e1
  | val d => exact g.setV h
  | own d =>
    obtain ⟨a, rfl, h0, o⟩ := h
    exact ⟨g.le, g.st, g.en.setO o (sep d rfl), g.fr.setO h0⟩
end
section
variable {X : Cx} {W : WX} {a b c : Expr} {g : M (List Sl)} {pos px py pz pt pt2 : Pos} {x y z : Str} {kt k2 : Nat}
def sPar (is : List Nat) (g : M (List Sl)) : MS := eS g fun ls G s => if ls.length = is.length then .nx (putS G is ls) s else .fail
theorem old_sep {K : PySem.W.Frag} {w : Wd} {H : Hp} {G : List Sl} {σ : L2.St} (en : EnvOk K w H G σ) {l : Sl} {v : V} {w' : Wd} {H' : Hp} (h : SlOk K H w' H' l v) : ∀ d, l = .own d → ∀ (j : Nat) e, G[j]? = some (.own e) → σ[j]? ≠ some (some v) := fun d e1 j e gj sj => by
  subst e1
  obtain ⟨a, rfl, h0, _⟩ := h
  obtain ⟨a', e', o⟩ := en.own j e gj
  rw [sj] at e'
  cases e'
  exact own_there o h0
theorem ds_par2 (i j : Nat) (hc : X.calm = true) (hN : X.N.Nodup) (h : DX X W [a, b] g) (hi : X.N[i]? = some x := by rfl) (hj : X.N[j]? = some y := by rfl) (hij : i ≠ j := by decide)
    (hx : X.env.scope.names.lookup x = some .local := by rfl) (hy : X.env.scope.names.lookup y = some .local := by rfl)
    (hw : swappedStores [.Tuple [.Name x px, .Name y py] kt pt] (.Tuple [a, b] k2 pt2) X.env = pure (some [x, y]) := by rfl)
    (hs : swapsWithSole [.Tuple [.Name x px, .Name y py] kt pt] (.Tuple [a, b] k2 pt2) pos.line X.env = pure false := by rfl) :
    DS X W (.Assign [.Tuple [.Name x px, .Name y py] kt pt] (.Tuple [a, b] k2 pt2) pos) (sPar [i, j] g) := by
  obtain ⟨t, p, r⟩ := h
  refine ⟨_, ps_par hc hN hi hj hij hx hy p hw hs, fun w0 H0 G s w H σ Dn gd hp => r G s w H σ _ gd.st gd.en (post_eS gd hp fun ls s' hp' w' H' vs l st' isl => ?_)⟩
  split at hp'
  · rename_i hl
    match ls, hl with
    | [l1, l2], _ =>
      obtain ⟨v1, vr, rfl, a1, ⟨v2, vr2, rfl, a2, e2, _⟩, s1⟩ := isl
      have e2' : vr2 = [] := e2
      subst e2'
      refine ⟨v1, v2, rfl, hp' w' H' _ l.up ?_⟩
      have gd' := gd.le' l st'
      have back : ∀ {l : Sl} {v : V}, SlOk X.K H w' H' l v → SlOk X.K H0 w' H' l v := fun {l v} z => by
        cases l with
        | un => trivial
        | val d => exact z
        | own d => obtain ⟨p, q1, q2, q3⟩ := z; exact ⟨p, q1, gd.le.dm p q2, q3⟩
      have sep0 := fun {l : Sl} {v : V} (z : SlOk X.K H w' H' l v) => old_sep gd.en z
      have g1 := gd'.put1 (i := i) (back a1) fun d e k e' _ gk => sep0 a1 d e k e' gk
      refine g1.put1 (i := j) (back a2) fun d e k e' nk gk sk => ?_
      rcases get_set gk with ⟨rfl, z, hl'⟩ | ⟨ne, gk⟩
      · rw [List.getElem?_set_self (by rw [← gd.en.len]; exact hl')] at sk
        cases sk
        exact s1 e' z.symm 0 d (by rw [e]; rfl) rfl
      · rw [List.getElem?_set_ne (Ne.symm ne)] at sk
        exact sep0 a2 d e k e' gk sk
  · exact absurd hp' (fun z => z)
theorem ds_par3 (i j m : Nat) (hc : X.calm = true) (hN : X.N.Nodup) (h : DX X W [a, b, c] g) (hi : X.N[i]? = some x := by rfl) (hj : X.N[j]? = some y := by rfl) (hm : X.N[m]? = some z := by rfl) (hij : i ≠ j := by decide) (him : i ≠ m := by decide) (hjm : j ≠ m := by decide)
    (hx : X.env.scope.names.lookup x = some .local := by rfl) (hy : X.env.scope.names.lookup y = some .local := by rfl) (hz : X.env.scope.names.lookup z = some .local := by rfl)
    (hw : swappedStores [.Tuple [.Name x px, .Name y py, .Name z pz] kt pt] (.Tuple [a, b, c] k2 pt2) X.env = pure (some [x, y, z]) := by rfl)
    (hs : swapsWithSole [.Tuple [.Name x px, .Name y py, .Name z pz] kt pt] (.Tuple [a, b, c] k2 pt2) pos.line X.env = pure false := by rfl) :
    DS X W (.Assign [.Tuple [.Name x px, .Name y py, .Name z pz] kt pt] (.Tuple [a, b, c] k2 pt2) pos) (sPar [i, j, m] g) := by
  obtain ⟨t, p, r⟩ := h
  refine ⟨_, ps_par3 hc hN hi hj hm hij him hjm hx hy hz p hw hs, fun w0 H0 G s w H σ Dn gd hp => r G s w H σ _ gd.st gd.en (post_eS gd hp fun ls s' hp' w' H' vs l st' isl => ?_)⟩
  split at hp'
  · rename_i hl
    match ls, hl with
    | [l1, l2, l3], _ =>
      obtain ⟨v1, vr, rfl, a1, ⟨v2, vr2, rfl, a2, ⟨v3, vr3, rfl, a3, e3, _⟩, s2⟩, s1⟩ := isl
      have e3' : vr3 = [] := e3
      subst e3'
      refine ⟨v1, v2, v3, rfl, hp' w' H' _ l.up ?_⟩
      have gd' := gd.le' l st'
      have back : ∀ {l : Sl} {v : V}, SlOk X.K H w' H' l v → SlOk X.K H0 w' H' l v := fun {l v} z => by
        cases l with
        | un => trivial
        | val d => exact z
        | own d => obtain ⟨p, q1, q2, q3⟩ := z; exact ⟨p, q1, gd.le.dm p q2, q3⟩
      have sep0 := fun {l : Sl} {v : V} (z : SlOk X.K H w' H' l v) => old_sep gd.en z
      have g1 := gd'.put1 (i := i) (back a1) fun d e k e' _ gk => sep0 a1 d e k e' gk
      have g2 := g1.put1 (i := j) (back a2) fun d e k e' nk gk sk => by
        rcases get_set gk with ⟨rfl, z, hl'⟩ | ⟨ne, gk⟩
        · rw [List.getElem?_set_self (by rw [← gd.en.len]; exact hl')] at sk
          cases sk
          exact s1 e' z.symm 0 d (by rw [e]; rfl) rfl
        · rw [List.getElem?_set_ne (Ne.symm ne)] at sk
          exact sep0 a2 d e k e' gk sk
      refine g2.put1 (i := m) (back a3) fun d e k e' nk gk sk => ?_
      rcases get_set gk with ⟨rfl, z, hl'⟩ | ⟨ne, gk⟩
      · rw [List.getElem?_set_self (by rw [List.length_set, ← gd.en.len]; rw [List.length_set] at hl'; exact hl')] at sk
        cases sk
        exact s2 e' z.symm 0 d (by rw [e]; rfl) rfl
      · rw [List.getElem?_set_ne (Ne.symm ne)] at sk
        rcases get_set gk with ⟨rfl, z, hl'⟩ | ⟨ne', gk⟩
        · rw [List.getElem?_set_self (by rw [← gd.en.len]; exact hl')] at sk
          cases sk
          exact s1 e' z.symm 1 d (by rw [e]; rfl) rfl
        · rw [List.getElem?_set_ne (Ne.symm ne')] at sk
          exact sep0 a3 d e k e' gk sk
  · exact absurd hp' (fun z => z)
end
/-! ### defs -/
def ends (o : OS) : Out D := match o with
  | .rt d s => .ok d s
  | .nx _ s => .ok .non s
  | .exc c fs _ s => .exc c fs s
  | _ => .fail
/-- n parameters, N slots -/
def runF (n N : Nat) (b : MS) : List D → S → Out D := fun ds s => if ds.length = n then ends (b (ds.map .val ++ List.replicate (N - n) .un) s) else .fail
/-- n parameters and a star parameter behind them -/
def starF (n : Nat) (F : List D → S → Out D) : List D → S → Out D := fun ds s => if n ≤ ds.length ∧ sz ds.length = true then F (ds.take n ++ [.tup (ds.drop n)]) s else .fail
def endsI (c : Str) (o : OS) : Out (List (Str × D)) := match o with
  | .nx (.own (.obj c' fs) :: _) s => if c' = c then .ok fs s else .fail
  | .exc e fs _ s => .exc e fs s
  | _ => .fail
/-- __init__(self, n - 1 parameters) -/
def runI (c : Str) (n N : Nat) (b : MS) : List D → S → Out (List (Str × D)) := fun ds s => if ds.length + 1 = n then endsI c (b (.own (.obj c []) :: ds.map .val ++ List.replicate (N - n) .un) s) else .fail
def starI (n : Nat) (F : List D → S → Out (List (Str × D))) : List D → S → Out (List (Str × D)) := fun ds s => if n ≤ ds.length ∧ sz ds.length = true then F (ds.take n ++ [.tup (ds.drop n)]) s else .fail
section
variable {K : PySem.W.Frag} {w : Wd} {H : Hp}
theorem env_start {ds : List D} {vs : List V} {m : Nat} (i : IsL K w H ds vs) : EnvOk K w H (ds.map .val ++ List.replicate m .un) (vs.map some ++ List.replicate m none) where
  val := fun j d h => by
    rw [List.getElem?_append] at h
    split at h
    · rename_i hj
      rw [List.getElem?_map, Option.map_eq_some_iff] at h
      obtain ⟨d', e1, e2⟩ := h
      cases e2
      obtain ⟨v, e3, iv⟩ := isL_get i e1
      refine ⟨v, ?_, iv⟩
      rw [List.length_map] at hj
      rw [List.getElem?_append_left (by rw [List.length_map, isL_len i]; exact hj), List.getElem?_map, e3] <;> rfl
    · rw [List.getElem?_replicate] at h
      split at h <;> cases h
  own := fun j d h => by
    rw [List.getElem?_append] at h
    split at h
    · rw [List.getElem?_map, Option.map_eq_some_iff] at h
      obtain ⟨d', e1, e2⟩ := h
      cases e2
    · rw [List.getElem?_replicate] at h
      split at h <;> cases h
  sep := fun j k d1 d2 a h => by
    rw [List.getElem?_append] at h
    split at h
    · rw [List.getElem?_map, Option.map_eq_some_iff] at h
      obtain ⟨d', e1, e2⟩ := h
      cases e2
    · rw [List.getElem?_replicate] at h
      split at h <;> cases h
  len := by simp [isL_len i]
theorem fresh_start {H0 : Hp} {ds : List D} {m : Nat} {σ : L2.St} : Fresh H0 (ds.map .val ++ List.replicate m .un) σ := fun j d a h => by
  rw [List.getElem?_append] at h
  split at h
  · rw [List.getElem?_map, Option.map_eq_some_iff] at h
    obtain ⟨d', e1, e2⟩ := h
    cases e2
  · rw [List.getElem?_replicate] at h
    split at h <;> cases h
end
section
variable {P : Program} {w : World} {K : PySem.W.Frag} {mg : Str → Option Value} {base : Heap} {name qual : Str} {params : Arguments} {body : List Stmt} {scope : Scope} {f : Addr} {fd : FuncData} {N ps : List Str} {k : Nat} {m : MS}
/-- the wish of a def's body -/
abbrev wE (E : XK) : WX := fun cls d _ H => E cls d H
/-- what a def's body is shown over -/
abbrev Body (P : Program) (w : World) (K : PySem.W.Frag) (mg : Str → Option Value) (base : Heap) (k : Nat) (N : List Str) (qual : Str) (scope : Scope) (f : Addr) (body : List Stmt) (m : MS) : Prop :=
  ∀ (cdv : Value) (A : Around) (outer : List Env) (s : Shared) (H : Hp) (E : XK), Room k (A.deeper (envOfC qual scope s.heap.objs.size f cdv)) → Takes (cxOf (L2.CX P w) P w K mg base N qual scope f cdv A outer s H E) (wE E) →
    PassesOwn (model P w) (A.deeper (envOfC qual scope s.heap.objs.size f cdv)) (envOfC qual scope s.heap.objs.size f cdv) (cxOf (L2.CX P w) P w K mg base N qual scope f cdv A outer s H E).xe →
    DSs (cxOf (L2.CX P w) P w K mg base N qual scope f cdv A outer s H E) (wE E) body m
theorem body_run {w1 : Wd} {s1 : S} {ds : List D} {vs : List V} {H : Hp} {Q : VK} {E : XK} {X : Cx} (hK : X.K = K) (hb : DSs X (wE E) body m) (hl : ds.length = ps.length) (hN : ps.length ≤ N.length) (st : StOk K w1 s1 H) (i : IsL K w1 H ds vs)
    (hp : Post (runF ps.length N.length m ds s1) (Wish K (Is K) w1 H Q) (fun c fs s' => ∀ w' H' da, Le w1 H w' H' → StOk K w' s' H' → ExAt K w' H' da fs → E (.ref (He.ga K c)) (some da) H')) :
    ∃ t, PSs X body t ∧ t { nx := fun _ H' => Q .non H', rt := Q } (start N vs) H := by
  subst hK
  obtain ⟨t, p, r⟩ := hb
  refine ⟨t, p, r w1 H (ds.map .val ++ List.replicate (N.length - ps.length) .un) s1 w1 H _ _ ⟨Le.refl _ _, st, ?_, fresh_start⟩ ?_⟩
  · have e : L2.start N vs = vs.map some ++ List.replicate (N.length - ps.length) none := by
      unfold L2.start
      rw [isL_len i, hl]
    rw [e]
    exact env_start i
  · unfold runF at hp
    rw [if_pos hl] at hp
    cases q : m (ds.map .val ++ List.replicate (N.length - ps.length) .un) s1 with
    | nx G s2 => rw [q] at hp; exact fun w' H' σ' _ g => hp w' H' .non g.le g.st is_non
    | rt d s2 => rw [q] at hp; exact fun w' H' v l st' iv => hp w' H' v l st' iv
    | bk G s2 => rw [q] at hp; exact absurd hp (fun z => z)
    | ct G s2 => rw [q] at hp; exact absurd hp (fun z => z)
    | exc c fs G s2 => rw [q] at hp; exact fun w' H' σ' da _ g x => hp w' H' da g.le g.st x
    | fail => rw [q] at hp; exact absurd hp (fun z => z)
theorem runF_len {w1 : Wd} {s1 : S} {ds : List D} {vs : List V} {n N' : Nat} {H : Hp} {q : D → S → Prop} {e : Str → List (Str × D) → S → Prop} (hp : Post (runF n N' m ds s1) q e) : ds.length = n := by
  unfold runF at hp
  split at hp
  · assumption
  · exact absurd hp (fun z => z)
theorem scope_le {sc : Scope} (S : FnScope N ps sc) : ps.length ≤ N.length := by
  have := congrArg List.length S.pre
  rw [List.length_take] at this
  omega
theorem fnD_of (F : FunD K name qual params body scope [] [] f fd) (S : FnScope N ps scope)
    (hb : ∀ (kV doc pm : Value) (an : Option Addr) (cdv ct : Value) (us : List Value), us.length = ps.length → bindArgs (PySem.W.fnOf name qual params body scope .none kV doc pm an cdv ct) ⟨us, []⟩ = pure (ps.zip us))
    (hbody : Body P w K mg base k N qual scope f body m) : FnD P w K mg base (k + 1) f (runF ps.length N.length m) := by
  have ok : FnOk P w K mg base (L2.CX P w) (k + 1) f fd ps (spD K (runF ps.length N.length m)) := by
    refine F.ok S (fun vs H Q E ⟨w1, s1, ds, st, i, hp⟩ => by rw [isL_len i, runF_len (w1 := w1) (vs := vs) (H := H) hp]) fun cdv A outer s H vs Q E hr ⟨w1, s1, ds, st, i, hp⟩ => ?_
    exact body_run (ps := ps) rfl (hbody cdv A outer s H E hr (takes_of rfl rfl rfl rfl) (passes_of rfl)) (runF_len (w1 := w1) (vs := vs) (H := H) hp) (scope_le S) st i hp
  have r := ok.raw (F.bindsN hb) .nil
  exact r.imp fun vs H Q E h => by rw [List.append_nil]; exact h
theorem fnD_star {pv : Str} (F : FunD K name qual params body scope [] [] f fd) (S : FnScope N (ps ++ [pv]) scope)
    (hb : ∀ (kV doc pm : Value) (an : Option Addr) (cdv ct : Value) (us rest : List Value), us.length = ps.length → bindArgs (PySem.W.fnOf name qual params body scope .none kV doc pm an cdv ct) ⟨us ++ rest, []⟩ = (newTuple rest >>= fun t => pure (ps.zip us ++ [(pv, t)])))
    (hbody : Body P w K mg base k N qual scope f body m) : FnD P w K mg base (k + 1) f (starF ps.length (runF (ps.length + 1) N.length m)) := by
  obtain ⟨oc, od, dV, kV, doc, pm, an, cdv, ct, osl, rfl, lk, hcd, hD, _⟩ := F.ex
  have hd : dV = .none := by
    rcases hD with ⟨_, h⟩ | ⟨e, _⟩
    · exact h
    · exact absurd rfl e
  subst hd
  have r := StX.fn_star (sp := spD K (runF (ps.length + 1) N.length m)) lk hcd S StX.cxUp (hb kV doc pm an cdv ct) fun A outer s H vs Q E hr ⟨w1, s1, ds, st, i, hp⟩ => by
    have hl := runF_len (w1 := w1) (vs := vs) (H := H) hp
    have hl' : ds.length = (ps ++ [pv]).length := by rw [hl, List.length_append] <;> rfl
    refine body_run (ps := ps ++ [pv]) rfl (hbody cdv A outer s H E hr (takes_of rfl rfl rfl rfl) (passes_of rfl)) hl' (scope_le S) st i ?_
    rw [List.length_append]
    exact hp
  refine FnR.imp r fun vs H Q E ⟨w1, s1, ds, st, i, hp⟩ => ?_
  unfold starF at hp
  split at hp
  · rename_i hn
    have hlen := isL_len i
    refine ⟨vs.take ps.length, vs.drop ps.length, (List.take_append_drop _ _).symm, by rw [List.length_take, hlen]; omega, ?_, fun p hp' => ?_⟩
    · have := sz_line hn.2
      rw [List.length_drop, hlen]
      omega
    · have it : Is K (frz1 w1 p) (upd H p (.tup (vs.drop ps.length))) (.tup (ds.drop ps.length)) (.ref p) := is_tupN hp' (isL_drop _ i)
      have l := le_new (w := w1) (o := .tup (vs.drop ps.length)) hp'
      refine ⟨frz1 w1 p, s1, ds.take ps.length ++ [.tup (ds.drop ps.length)], st_new st hp', isL_append (IsL.up l.up _ _ (isL_take _ i)) ?_, hp.imp (fun _ _ z => z.le l) fun _ _ _ z w' H' da l' => z w' H' da (l.trans l')⟩
      simp only [IsL]
      exact ⟨_, [], rfl, it, rfl⟩
  · exact absurd hp (fun z => z)
/-! ### __init__ -/
def reme (w : Wd) (a : Addr) : Wd := { w with me := a }
theorem up_me {K : PySem.W.Frag} {w : Wd} {H : Hp} {a : Addr} : Up0 K w H (reme w a) H := ⟨Nat.le_refl _, fun _ _ => rfl, fun _ z => z, fun _ o _ e => ⟨o, e, Grow.refl o⟩⟩
theorem is_me {K : PySem.W.Frag} {w : Wd} {H : Hp} {a : Addr} {d : D} {v : V} (h : Is K w H d v) : Is K (reme w a) H d v := Is.up0 up_me d v h
theorem isL_me {K : PySem.W.Frag} {w : Wd} {H : Hp} {a : Addr} {d : List D} {v : List V} (h : IsL K w H d v) : IsL K (reme w a) H d v := IsL.up0 up_me d v h
theorem isF_me {K : PySem.W.Frag} {w : Wd} {H : Hp} {a : Addr} {d : List (Str × D)} {v : List (Str × V)} (h : IsF K w H d v) : IsF K (reme w a) H d v := IsF.up0 up_me d v v (fun _ _ z => z) h
theorem cont_me {K : PySem.W.Frag} {w : Wd} {H : Hp} {a b : Addr} {d : D} (h : Cont K w H b d) : Cont K (reme w a) H b d := by
  cases d with
  | lst ds =>
    obtain ⟨xs, e, r⟩ := h
    exact ⟨xs, e, isL_me r⟩
  | _ => exact absurd h id
theorem st_me {K : PySem.W.Frag} {w : Wd} {H : Hp} {s : S} {a : Addr} (st : StOk K w s H) : StOk K (reme w a) s H := ⟨st.nx, st.inj, fun n d e => let ⟨h1, h2, h3⟩ := st.live n d e; ⟨h1, h2, cont_me h3⟩, st.df, st.dl⟩
/-- the fields that a body leaves in slot 0 -/
theorem init_run {c : Str} {w1 : Wd} {s1 : S} {ds : List D} {vs : List V} {x dx : Addr} {H0 : Hp} {Q : VK} {E : XK} {X : Cx} {n : Nat} (hK : X.K = K) (ci : ClsI K (He.ga K c)) (hb : DSs X (wE E) body m) (hl : ds.length + 1 = n) (hN : n ≤ N.length) (st : StOk K w1 s1 H0) (i : IsL K w1 H0 ds vs)
    (hx : H0 x = none) (hdx : H0 dx = none) (hne : dx ≠ x)
    (hp : Post (runI c n N.length m ds s1) (fun fs s' => ∀ w' H', Le w1 H0 w' H' → StOk K w' s' H' → Is K w' H' (.obj c fs) (.ref x) → Q .non H') (fun c' fs s' => ∀ w' H' da, Le w1 H0 w' H' → StOk K w' s' H' → ExAt K w' H' da fs → E (.ref (He.ga K c')) (some da) H')) :
    ∃ t, PSs X body t ∧ t { nx := fun _ H' => Q .non H', rt := Q } (L2.start N (.ref x :: vs)) (upd (upd H0 dx (.own x)) x (.ins (He.ga K c) dx [])) := by
  subst hK
  obtain ⟨t, p, r⟩ := hb
  have hx2 : upd H0 dx (.own x) x = none := by rw [upd_ne (Ne.symm hne)]; exact hx
  have l1 : Le (reme w1 x) H0 (reme w1 x) (upd H0 dx (.own x)) := le_newO hdx
  have st1 : StOk X.K (reme w1 x) s1 (upd H0 dx (.own x)) := st_newO (st_me st) hdx
  have l2 : Le (reme w1 x) (upd H0 dx (.own x)) (frz1 (reme w1 x) x) (upd (upd H0 dx (.own x)) x (.ins (He.ga X.K c) dx [])) := le_new hx2
  have st2 := st_new (o := .ins (He.ga X.K c) dx []) st1 hx2
  have nl : ∀ n, n < w1.nx → x ≠ w1.ro n := fun n hn z => st.dl n hn (z ▸ hx)
  have i2 : IsL X.K (frz1 (reme w1 x) x) (upd (upd H0 dx (.own x)) x (.ins (He.ga X.K c) dx [])) ds vs := IsL.up (l1.trans l2).up ds vs (isL_me i)
  have eN : L2.start N (.ref x :: vs) = some (.ref x) :: (vs.map some ++ List.replicate (N.length - n) none) := by
    unfold L2.start
    rw [List.length_cons, isL_len i, hl] <;> rfl
  have base := env_start (m := N.length - n) i2
  have en : EnvOk X.K (frz1 (reme w1 x) x) (upd (upd H0 dx (.own x)) x (.ins (He.ga X.K c) dx [])) (.own (.obj c []) :: (ds.map .val ++ List.replicate (N.length - n) .un)) (some (.ref x) :: (vs.map some ++ List.replicate (N.length - n) none)) := by
    refine ⟨fun j d h => ?_, fun j d h => ?_, fun j k d1 d2 a h1 h2 e1 e2 => ?_, by rw [List.length_cons, List.length_cons, base.len]⟩
    · cases j with
      | zero => cases h
      | succ j => exact base.val j d h
    · cases j with
      | zero =>
        cases h
        exact ⟨x, rfl, .inr rfl, nl, rfl, dx, [], upd_same, ci, (fun f u z => nomatch z), (by simp only [IsF]), rfl⟩
      | succ j =>
        obtain ⟨a, e1, o⟩ := base.own j d h
        exact ⟨a, e1, o⟩
    · cases j with
      | zero =>
        cases k with
        | zero => rfl
        | succ k =>
          obtain ⟨_, _, o⟩ := base.own k d2 h2
          exfalso
          have z : (ds.map Sl.val ++ List.replicate (N.length - n) Sl.un)[k]? = some (.own d2) := h2
          rw [List.getElem?_append] at z
          split at z
          · rw [List.getElem?_map, Option.map_eq_some_iff] at z
            obtain ⟨_, _, e⟩ := z
            cases e
          · rw [List.getElem?_replicate] at z
            split at z <;> cases z
      | succ j =>
        exfalso
        have z : (ds.map Sl.val ++ List.replicate (N.length - n) Sl.un)[j]? = some (.own d1) := h1
        rw [List.getElem?_append] at z
        split at z
        · rw [List.getElem?_map, Option.map_eq_some_iff] at z
          obtain ⟨_, _, e⟩ := z
          cases e
        · rw [List.getElem?_replicate] at z
          split at z <;> cases z
  have fr : Fresh H0 (.own (.obj c []) :: (ds.map .val ++ List.replicate (N.length - n) .un)) (some (.ref x) :: (vs.map some ++ List.replicate (N.length - n) none)) := fun j d a h1 h2 => by
    cases j with
    | zero => cases h2; exact hx
    | succ j => exact fresh_start (H0 := H0) (σ := vs.map some ++ List.replicate (N.length - n) none) j d a h1 h2
  rw [eN]
  refine ⟨t, p, r (reme w1 x) H0 _ s1 _ _ _ _ ⟨l1.trans l2, st2, en, fr⟩ ?_⟩
  have back : ∀ {w' : Wd} {H' : Hp}, Le (reme w1 x) H0 w' H' → Le w1 H0 (reme w' w1.me) H' := fun {w' H'} l => ⟨rfl, l.nx, l.ro, l.rn, l.fz, l.fn, l.hp, l.dm⟩
  unfold runI at hp
  rw [if_pos hl] at hp
  cases q : m (.own (.obj c []) :: (ds.map .val ++ List.replicate (N.length - n) .un)) s1 with
  | nx G s2 =>
    rw [List.cons_append, q] at hp
    intro w' H' σ' u g
    cases G with
    | nil => exact absurd hp (fun z => z)
    | cons z G =>
      cases z with
      | un => exact absurd hp (fun z => z)
      | val d => exact absurd hp (fun z => z)
      | own d =>
        cases d with
        | obj c' fs =>
          simp only [endsI] at hp
          split at hp
          · rename_i hc
            subst hc
            obtain ⟨a, _, o⟩ := g.en.own 0 _ rfl
            have ha : a = x := by
              obtain ⟨_, _, hm, _⟩ := o
              rw [hm, u.me] <;> rfl
            subst ha
            exact hp (reme w' w1.me) H' (back g.le) (st_me g.st) (is_me (own_is o))
          · exact absurd hp (fun z => z)
        | _ => exact absurd hp (fun z => z)
  | rt d s2 => rw [List.cons_append, q] at hp; exact absurd hp (fun z => z)
  | bk G s2 => rw [List.cons_append, q] at hp; exact absurd hp (fun z => z)
  | ct G s2 => rw [List.cons_append, q] at hp; exact absurd hp (fun z => z)
  | exc c' fs G s2 =>
    rw [List.cons_append, q] at hp
    intro w' H' σ' da _ g ⟨as, e1, e2⟩
    exact hp (reme w' w1.me) H' da (back g.le) (st_me g.st) ⟨as, e1, isF_me e2⟩
  | fail => rw [List.cons_append, q] at hp; exact absurd hp (fun z => z)
theorem runI_len {c : Str} {s1 : S} {ds : List D} {n N' : Nat} {q : List (Str × D) → S → Prop} {e : Str → List (Str × D) → S → Prop} (hp : Post (runI c n N' m ds s1) q e) : ds.length + 1 = n := by
  unfold runI at hp
  split at hp
  · assumption
  · exact absurd hp (fun z => z)
theorem fnI_of {c : Str} (F : FunD K name qual params body scope [] [] f fd) (ci : ClsI K (He.ga K c)) (S : FnScope N ps scope)
    (hb : ∀ (kV doc pm : Value) (an : Option Addr) (cdv ct : Value) (us : List Value), us.length = ps.length → bindArgs (PySem.W.fnOf name qual params body scope .none kV doc pm an cdv ct) ⟨us, []⟩ = pure (ps.zip us))
    (hbody : Body P w K mg base k N qual scope f body m) : FnI P w K mg base (k + 1) f c (runI c ps.length N.length m) := by
  have ok : FnOk P w K mg base (L2.CX P w) (k + 1) f fd ps (spI K c (runI c ps.length N.length m)) := by
    refine F.ok S (fun vs H Q E ⟨x, dx, vs', H0, w1, s1, ds, e1, _, _, _, _, st, i, hp⟩ => by rw [e1, List.length_cons, isL_len i, runI_len hp]) fun cdv A outer s H vs Q E hr ⟨x, dx, vs', H0, w1, s1, ds, e1, e2, hx, hdx, hne, st, i, hp⟩ => ?_
    subst e1 e2
    exact init_run rfl ci (hbody cdv A outer s _ E hr (takes_of rfl rfl rfl rfl) (passes_of rfl)) (runI_len hp) (scope_le S) st i hx hdx hne hp
  have r := ok.raw (F.bindsN hb) .nil
  exact r.imp fun vs H Q E h => by rw [List.append_nil]; exact h
/-- __init__(self, p, .., *v) -/
theorem fnI_star {c pv : Str} (F : FunD K name qual params body scope [] [] f fd) (ci : ClsI K (He.ga K c)) (S : FnScope N (ps ++ [pv]) scope) (h1 : 1 ≤ ps.length)
    (hb : ∀ (kV doc pm : Value) (an : Option Addr) (cdv ct : Value) (us rest : List Value), us.length = ps.length → bindArgs (PySem.W.fnOf name qual params body scope .none kV doc pm an cdv ct) ⟨us ++ rest, []⟩ = (newTuple rest >>= fun t => pure (ps.zip us ++ [(pv, t)])))
    (hbody : Body P w K mg base k N qual scope f body m) : FnI P w K mg base (k + 1) f c (starI (ps.length - 1) (runI c (ps.length + 1) N.length m)) := by
  obtain ⟨oc, od, dV, kV, doc, pm, an, cdv, ct, osl, rfl, lk, hcd, hD, _⟩ := F.ex
  have hd : dV = .none := by
    rcases hD with ⟨_, h⟩ | ⟨e, _⟩
    · exact h
    · exact absurd rfl e
  subst hd
  have r := StX.fn_star (sp := fun vs H Q E => ∃ x dx vs' H0 w1 s1 ds p rest, vs = .ref x :: (vs' ++ [.ref p]) ∧ H = upd (upd (upd H0 dx (.own x)) x (.ins (He.ga K c) dx [])) p (.tup rest) ∧ H0 x = none ∧ H0 dx = none ∧ dx ≠ x ∧ upd (upd H0 dx (.own x)) x (.ins (He.ga K c) dx []) p = none ∧ StOk K w1 s1 H0 ∧ IsL K w1 H0 ds (vs' ++ rest) ∧ vs'.length = ps.length - 1 ∧
    Post (starI (ps.length - 1) (runI c (ps.length + 1) N.length m) ds s1) (fun fs s' => ∀ w' H', Le w1 H0 w' H' → StOk K w' s' H' → Is K w' H' (.obj c fs) (.ref x) → Q .non H') (fun c' fs s' => ∀ w' H' da, Le w1 H0 w' H' → StOk K w' s' H' → ExAt K w' H' da fs → E (.ref (He.ga K c')) (some da) H')) lk hcd S StX.cxUp (hb kV doc pm an cdv ct) fun A outer s H vs Q E hr h => by
    obtain ⟨x, dx, vs', H0, w1, s1, ds, p, rest, rfl, rfl, hx, hdx, hne, hpn, st, i, hv, hp⟩ := h
    have hpx : p ≠ x := fun z => by rw [z, upd_same] at hpn; cases hpn
    have hpd : p ≠ dx := fun z => by rw [z, upd_ne hne, upd_same] at hpn; cases hpn
    have hp0 : H0 p = none := by rw [upd_ne hpx, upd_ne hpd] at hpn; exact hpn
    have eH : upd (upd (upd H0 dx (.own x)) x (.ins (He.ga K c) dx [])) p (.tup rest) = upd (upd (upd H0 p (.tup rest)) dx (.own x)) x (.ins (He.ga K c) dx []) := by
      funext b
      by_cases h1 : b = p
      · rw [h1, upd_same, upd_ne hpx, upd_ne hpd, upd_same]
      · rw [upd_ne h1]
        by_cases h2 : b = x
        · rw [h2, upd_same, upd_same]
        · rw [upd_ne h2, upd_ne h2]
          by_cases h3 : b = dx
          · rw [h3, upd_same, upd_same]
          · rw [upd_ne h3, upd_ne h3, upd_ne h1]
    rw [eH]
    unfold starI at hp
    split at hp
    · rename_i hn
      have hlen := isL_len i
      rw [List.length_append, hv] at hlen
      have i1 : IsL K w1 H0 (ds.take (ps.length - 1)) vs' := by
        have := isL_take (ps.length - 1) i
        have e : (vs' ++ rest).take (ps.length - 1) = vs' := by rw [← hv, List.take_left]
        rw [e] at this
        exact this
      have i2 : IsL K w1 H0 (ds.drop (ps.length - 1)) rest := by
        have := isL_drop (ps.length - 1) i
        rw [← hv, List.drop_left] at this
        rw [← hv]; exact this
      have l := le_new (w := w1) (o := .tup rest) hp0
      refine init_run (n := ps.length + 1) rfl ci (hbody cdv A outer s _ E hr (takes_of rfl rfl rfl rfl) (passes_of rfl)) (runI_len hp) ?_ (st_new st hp0) ?_ (by rw [upd_ne (Ne.symm hpx)]; exact hx) (by rw [upd_ne (Ne.symm hpd)]; exact hdx) hne (hp.imp (fun fs s' z w' H' l' => z w' H' (l.trans l')) fun c' fs s' z w' H' da l' => z w' H' da (l.trans l'))
      · have := scope_le S
        rw [List.length_append] at this
        exact this
      · refine isL_append (IsL.up l.up _ _ i1) ?_
        simp only [IsL]
        exact ⟨_, [], rfl, is_tupN hp0 i2, rfl⟩
    · exact absurd hp (fun z => z)
  refine FnR.imp r fun vs H Q E ⟨x, dx, vs', H0, w1, s1, ds, e1, e2, hx, hdx, hne, st, i, hp⟩ => ?_
  subst e1 e2
  have hn : ps.length - 1 ≤ ds.length := by
    unfold starI at hp
    split at hp
    · rename_i h; exact h.1
    · exact absurd hp (fun z => z)
  have hz : sz ds.length = true := by
    unfold starI at hp
    split at hp
    · rename_i h; exact h.2
    · exact absurd hp (fun z => z)
  have hlen := isL_len i
  refine ⟨.ref x :: vs'.take (ps.length - 1), vs'.drop (ps.length - 1), by rw [List.cons_append, List.take_append_drop], by rw [List.length_cons, List.length_take, hlen]; omega, ?_, fun p hp' => ?_⟩
  · have := sz_line hz
    rw [List.length_drop, hlen]
    omega
  · exact ⟨x, dx, vs'.take (ps.length - 1), H0, w1, s1, ds, p, vs'.drop (ps.length - 1), rfl, rfl, hx, hdx, hne, hp', st, by rw [List.take_append_drop]; exact i, by rw [List.length_take, hlen]; omega, hp⟩
end
end Qd
namespace Qd
open PySem PySem.Spec PyProof.Rows L2 AutoSeq1
/-! ### enumerate of a list or a tuple -/
theorem enum_new1 {v : Value} {ob : Obj} {P : Heap → Prop} (B : Begins v ob P) :
    Meets (Builtin.«enumerate.__new__» ⟨[.type "enumerate", v], []⟩) (fun _ R s => P s.heap ∧
      R (.ok (.ret (.ref (s.heap.push ob).objs.size))) { s with heap := (s.heap.push ob).push { cls := .type "enumerate", data := .fields #[.none, .bool false, .ref s.heap.objs.size, rawInt 0, .none, .none] } }) :=
  .of_wp fun prog w A R s h => by
    obtain ⟨hp, g, d, tk, os⟩ := s
    obtain ⟨h1, h⟩ := h
    have hsub := sub_enumerate
    have qB : ∀ {A' : Around} {E : Value → Shared → Prop} {Q : Value → Shared → Prop}, Q (.ref hp.objs.size) ⟨hp.push ob, g, d, tk, os⟩ → wpAny (model prog w) A' (pyIter v) Q E ⟨hp, g, d, tk, os⟩ := fun q => B.iter prog w _ _ ⟨hp, g, d, tk, os⟩ _ h1 q
    wp_walk using qB
    refine wpAny_stack_any fun st => wpAny_pure ?_
    split
    · rename_i c _ _ _ _ _
      cases (c == Value.type "enumerate") <;> (wp_walk using qB; exact ⟨_, rfl, h⟩)
    · wp_walk using qB
      exact ⟨_, rfl, h⟩
theorem enum_call1 {prog : Program} {w : World} {A : Around} {E : Value → Shared → Prop} {s : Shared} {v : Value} {ob : Obj} {P : Heap → Prop} {Q : Value → Shared → Prop} (B : Begins v ob P) (h1 : P s.heap)
    (h : ∀ h', IsEnum h' (s.heap.objs.size + 1) s.heap.objs.size 0 .none → h'.get? s.heap.objs.size = some ob → h'.objs.size = s.heap.objs.size + 2 → (∀ b o, s.heap.get? b = some o → h'.get? b = some o) → Q (.ref (s.heap.objs.size + 1)) { s with heap := h' }) :
    wpAny (model prog w) A (call (.type "enumerate") [v]) Q E s := by
  refine callType_new F.called_enumerate (by decide) (F.typeCall_enumerate_1 _) (F.newCall_enumerate_1 _) (fun z => F.args_object_init_2 z _) F.entry_enumerate_new (enum_new1 B) ⟨h1, ?_⟩
  have hz : (s.heap.push ob).objs.size = s.heap.objs.size + 1 := Heap.size_push ..
  show _ ∧ _
  rw [hz]
  have he : IsEnum ((s.heap.push ob).push { cls := .type "enumerate", data := .fields #[.none, .bool false, .ref s.heap.objs.size, rawInt 0, .none, .none] }) (s.heap.objs.size + 1) s.heap.objs.size 0 .none := by
    have z := Heap.get?_push_size (s.heap.push ob) (o := { cls := .type "enumerate", data := .fields #[.none, .bool false, .ref s.heap.objs.size, rawInt 0, .none, .none] }) rfl
    rw [hz] at z
    exact z
  exact ⟨⟨_, he, rfl⟩, h _ he (Heap.get?_push_of_some _ (Heap.get?_push_size _ B.free)) (by rw [Heap.size_push, hz]) fun b o z => Heap.get?_push_of_some _ (Heap.get?_push_of_some _ z)⟩
def IteT (K : PySem.W.Frag) (a : Addr) : It where
  go i H := ∃ (xs : List V) (x : V), SqT K H a xs ∧ xs[i]? = some x
  yld i H v H' := ∃ T x, v = .ref T ∧ H T = none ∧ H' = upd H T (.tup [.int (i : Nat), x]) ∧ ∀ xs, SqT K H a xs → xs[i]? = some x
  stop i H := ∃ xs : List V, SqT K H a xs ∧ xs.length = i
theorem walk_enumT {K : PySem.W.Frag} {a : Addr} {xs : List V} : Walk (IteT K a) xs.length (fun H => SqT K H a xs) (YPair (fun i => some (.int (i : Nat))) (fun i => xs[i]?)) where
  goes := fun i _ hi q => ⟨xs, xs[i], q, by simp [hi]⟩
  stops := fun _ q => ⟨xs, q, rfl⟩
  yields := fun i H v H' _ q y => by
    obtain ⟨T, x, e1, e2, e3, e4⟩ := y
    exact ⟨T, _, x, e1, e2, e3, rfl, e4 xs q⟩
theorem turn_enumT {P : Program} {w : World} {K : PySem.W.Frag} {elts : List Expr} {kk : Nat} {tpos : Pos} (a e it : Addr) :
    Turn P w K (.Tuple elts kk tpos) (IteT K a) [e, it] e (fun i h => (∃ old, IsEnum h e it ((i : Nat) : Int) old) ∧ h.IsTupleIter it a i ∧ e ≠ it ∧ a ≠ it ∧ a ≠ e) where
  mem := List.mem_cons_self
  obj := fun i h st b hb => by
    obtain ⟨⟨old, he⟩, ⟨o, ho, hc, hd⟩, _⟩ := st
    rcases List.mem_cons.mp hb with z | z
    · rw [z]; exact ⟨_, he, fun v q => nomatch q⟩
    · rw [List.mem_singleton.mp z]; exact ⟨o, ho, fun v q => by rw [hd] at q; cases q⟩
  keep := fun i h h' st k => by
    obtain ⟨⟨old, he⟩, hi, hne⟩ := st
    exact ⟨⟨old, k e (by simp) _ he⟩, hi.at fun o q => k it (by simp) o q, hne⟩
  item := by
    intro X hP hw hK hc i pins s σ H E I hf st hg
    subst hP hw hK
    obtain ⟨⟨old, he⟩, hit, hne, hai, hae⟩ := st
    obtain ⟨xs, x, hq, hx⟩ := hg
    obtain ⟨its, rv, tp, hz⟩ := I.tuple hq
    obtain ⟨u, hu, ru⟩ := rv.get hx
    have hel : e < s.heap.objs.size := Heap.lt_size he
    have hil : it < s.heap.objs.size := by obtain ⟨_, q, _⟩ := hit; exact Heap.lt_size q
    have hlt : i < its.toArray.size := by
      rw [List.size_toArray]
      exact (List.getElem?_eq_some_iff.mp hu).1
    refine wpAny_pyNext_enum_itemD (Draws.tuple (by exact I.ok.hd hc) it a hai its.toArray) he ⟨hit, tp⟩ hlt hne (by simp [hne, Ne.symm hae]) fun u' h' tk hu' ho hit' hT hsz hk => ?_
    have eu : u' = u := by
      have z : its[i]? = some u' := by simpa using hu'
      rw [hu] at z
      exact (Option.some.inj z).symm
    subst eu
    refine ⟨_, rfl, wpAny_letOwnedTupleGo_enum (s := { s with heap := h', toks := tk + 1 }) ho fun h2 he' sb => ?_⟩
    have hT2 : h2.get? s.heap.objs.size = some { cls := .type "tuple", data := .seq #[.int i tk, u'] } := (sb.2 _ (Nat.ne_of_gt hel)).trans hT
    have new : ObjOk X.prog X.w (upd H s.heap.objs.size (.tup [.int (i : Nat), x])) h2 s.heap.objs.size (.tup [.int (i : Nat), x]) := ⟨by show 2 ≤ sizeLine; decide, [.int i tk, u'], .cons ⟨_, rfl⟩ (.cons ru .nil), ⟨_, hT2, rfl, _, rfl⟩⟩
    have I1 : Inv X pins σ (upd H s.heap.objs.size (.tup [.int (i : Nat), x])) { s with heap := h2, toks := tk + 1 } :=
      I.turnedNew (ch := [e, it]) (fun b ob nb q => (sb.2 b fun z => nb (by simp [z])).trans (hk b ob (fun z => nb (by simp [z])) (fun z => nb (by simp [z])) q)) hf (Nat.le_refl _) new
    refine ⟨.ref s.heap.objs.size, _, I1, rfl, ⟨_, x, rfl, I.hok.fresh (Nat.le_refl _), rfl, fun ys hy => ?_⟩, ⟨⟨u', ?_⟩, hit'.1.at fun o q => (sb.2 it (Ne.symm hne)).trans q, hne, hai, hae⟩, fun b hb => ?_⟩
    · rw [I.tuple_inj hy hq]
      exact hx
    · have e1 : ((i + 1 : Nat) : Int) = (i : Int) + 1 := by omega
      rw [e1]; exact he'
    · have hb' : b < s.heap.objs.size := by
        rcases List.mem_cons.mp hb with z | z
        · rw [z]; exact hel
        · rw [List.mem_singleton.mp z]; exact hil
      rw [upd_ne (Nat.ne_of_lt hb')]
      exact (hf b hb).1
  done := by
    intro X hP hw hK hc i pins s σ H E I hf st hg
    subst hP hw hK
    obtain ⟨⟨old, he⟩, hit, hne, hai, hae⟩ := st
    obtain ⟨xs, hq, hx⟩ := hg
    obtain ⟨its, rv, tp, hz⟩ := I.tuple hq
    obtain ⟨f0, f1, f2, f3, f4, f5⟩ := hf it (by simp)
    have hl := rv.length
    have hn : its.toArray.size = i := by rw [List.size_toArray]; omega
    subst hn
    exact wpAny_pyNext_enum_endD (Draws.tuple (by exact I.ok.hd hc) it a hai its.toArray) he ⟨hit, tp⟩ fun h' eb => ⟨rfl, I.turned (t' := s.toks) (fun b o hb q => eb b o hb q) f0 f1 f3 f4 f5⟩
  self := fun A i s Q E st h => by
    obtain ⟨⟨_, he⟩, _⟩ := st
    exact wpAny_pyIter_enum he h
def iEnumS (K : PySem.W.Frag) (ta : TA) : TI := fun σ H R => ta σ H fun vs H1 => ∃ a xs, vs = [.ref a] ∧ ((SqL K H1 a xs ∧ R (Ite K a) H1) ∨ (SqT K H1 a xs ∧ R (IteT K a) H1))
theorem pi_enumS {X : Cx} {e : Expr} {ta : TA} {p pos tpos : Pos} {elts : List Expr} {kk : Nat} (hg : Gl X "enumerate") (hm : X.mg "enumerate" = none) (ha : PA X [e] ta) (hs : starEach [e] X.env = [(false, eval e X.env)] := by rfl) :
    PI X (.Tuple elts kk tpos) (.Call (.Name "enumerate" p) [e] [] pos) (iEnumS X.K ta) := by
  refine ⟨fun pins s σ H R I h => ?_⟩
  refine Call_ (ld_blt I hg hm boot_enumerate (PyProof.Rows.callWith_type1 (thn (ha.run pos pins s σ H _ I h) fun us s1 z => ?_) hs rfl))
  obtain ⟨vs, H1, I1, r1, q1⟩ := z
  obtain ⟨a, xs, ex, q⟩ := q1
  subst ex
  cases r1 with
  | cons r rr =>
    cases rr
    cases r
    have fp : ∀ b, b ∈ [s1.heap.objs.size + 1, s1.heap.objs.size] → FpOk X pins H1 b := fun b hb => by
      have hle : s1.heap.objs.size ≤ b := by
        rcases List.mem_cons.mp hb with z | z
        · rw [z]; exact Nat.le_add_right _ _
        · rw [List.mem_singleton.mp z]; exact Nat.le_refl _
      exact I1.fpOk hle (I1.hok.fresh hle)
    rcases q with ⟨hq, q⟩ | ⟨hq, q⟩
    · obtain ⟨its, rv, p', hz⟩ := I1.list hq
      refine call_enumerate_list p'.isList fun h' he hit hsz hk => wpAny_pyIter_enum he ?_
      exact ⟨s1.heap.objs.size + 1, [s1.heap.objs.size + 1, s1.heap.objs.size], _, _, H1, rfl, I1.kept (t' := s1.toks) hk, turn_enum a (s1.heap.objs.size + 1) s1.heap.objs.size, ⟨⟨.none, he⟩, hit, Nat.succ_ne_self _⟩, fp, q⟩
    · obtain ⟨its, rv, tp, hz⟩ := I1.tuple hq
      have hal : a < s1.heap.objs.size := by obtain ⟨_, z, _⟩ := tp; exact Heap.lt_size z
      refine enum_call1 (begins_tuple a its.toArray) tp fun h' he hit hsz hk => wpAny_pyIter_enum he ?_
      exact ⟨s1.heap.objs.size + 1, [s1.heap.objs.size + 1, s1.heap.objs.size], _, _, H1, rfl, I1.kept (t' := s1.toks) hk, turn_enumT a (s1.heap.objs.size + 1) s1.heap.objs.size, ⟨⟨.none, he⟩, ⟨_, hit, rfl, rfl⟩, Nat.succ_ne_self _, Nat.ne_of_lt hal, Nat.ne_of_lt (Nat.lt_succ_of_lt hal)⟩, fp, q⟩
def enumL : Nat → List D → List D
  | _, [] => []
  | k, d :: r => .tup [.int (k : Nat), d] :: enumL (k + 1) r
theorem enumL_len : ∀ (k : Nat) (ds : List D), (enumL k ds).length = ds.length
  | _, [] => rfl
  | k, d :: r => by rw [enumL, List.length_cons, List.length_cons, enumL_len]
theorem enumL_get : ∀ (k : Nat) (ds : List D) (i : Nat), (enumL k ds)[i]? = (ds[i]?).map fun d => .tup [.int ((k + i : Nat)), d]
  | _, [], i => by simp [enumL]
  | k, d :: r, 0 => by simp [enumL]
  | k, d :: r, i + 1 => by
    rw [enumL, List.getElem?_cons_succ, List.getElem?_cons_succ, enumL_get]
    have : k + 1 + i = k + (i + 1) := by omega
    rw [this]
def enumD : D → Option (List D)
  | .lst ds => some (enumL 0 ds)
  | .tup ds => some (enumL 0 ds)
  | .scr ns => some (enumL 0 (ns.map .int))
  | _ => none
def xEnum (f : M D) : M (List D) := fun G s => (f G s).bind fun d s => lift (enumD d) s
theorem enum_turn {K : PySem.W.Frag} {w : Wd} {H H2 : Hp} {s : S} {ds : List D} {xs : List V} {i : Nat} {v : V} (st : StOk K w s H) (il : IsL K w H ds xs) (y : YPair (fun i => some (.int (i : Nat))) (fun i => xs[i]?) i H v H2) :
    ∃ w2, Le w H w2 H2 ∧ StOk K w2 s H2 ∧ ∀ d, (enumL 0 ds)[i]? = some d → Is K w2 H2 d v := by
  obtain ⟨T, x, z, e1, e2, e3, e4, e5⟩ := y
  subst e1 e3
  cases e4
  refine ⟨frz1 w T, le_new e2, st_new st e2, fun d hd => ?_⟩
  rw [enumL_get, Option.map_eq_some_iff] at hd
  obtain ⟨d', hd', rfl⟩ := hd
  obtain ⟨u, eu, iu⟩ := isL_get il hd'
  have : u = z := by
    have q : xs[i]? = some z := e5
    rw [eu] at q
    exact Option.some.inj q
  subst this
  refine is_tupN e2 ?_
  simp only [IsL]
  exact ⟨_, _, rfl, by rw [Nat.zero_add]; exact is_int _, _, _, rfl, iu, rfl⟩
section
variable {X : Cx} {W : WX} {e : Expr} {f : M D} {p pos tpos : Pos} {elts : List Expr} {kk : Nat}
theorem di_enum (hg : Gl X "enumerate") (hm : X.mg "enumerate" = none) (h : DE X W e f) (hs : starEach [e] X.env = [(false, eval e X.env)] := by rfl) :
    DI X W (.Tuple elts kk tpos) (.Call (.Name "enumerate" p) [e] [] pos) (xEnum f) := by
  obtain ⟨t, pt, r⟩ := h
  refine ⟨_, pi_enumS hg hm (pa_cons pt pa_nil (by rw [hs] <;> rfl)) hs, fun G s w H σ R st en hp => r G s w H σ _ st en (hp.bind.imp (fun d s' q w' H' v l st' iv => ?_) fun _ _ _ q => q)⟩
  obtain ⟨ds, e1, q⟩ := post_lift q
  cases d with
  | lst es =>
    cases e1
    simp only [Is] at iv
    obtain ⟨a, xs, rfl, fz, h1, i1⟩ := iv
    have gd : ∀ w1 H1, Up X.K w' H' w1 H1 → SqL X.K H1 a xs := fun w1 H1 u => by
      obtain ⟨o', e', g⟩ := u.hp a _ fz h1
      rcases g with rfl | ⟨_, _, _, _, z, _⟩
      · exact SqL.of e'
      · cases z
    refine ⟨a, xs, rfl, .inl ⟨SqL.of h1, q w' H' _ _ _ l st' (by rw [enumL_len, ← isL_len i1]; exact walk_enum) gd fun i w1 s1 H1 x H2 u st1 y => enum_turn st1 (IsL.up u _ _ i1) y⟩⟩
  | tup es =>
    cases e1
    simp only [Is] at iv
    obtain ⟨a, xs, rfl, h1, i1⟩ := iv
    refine ⟨a, xs, rfl, .inr ⟨h1.sq, q w' H' _ _ _ l st' (by rw [enumL_len, ← isL_len i1]; exact walk_enumT) (fun w1 H1 u => (h1.up u).sq) fun i w1 s1 H1 x H2 u st1 y => enum_turn st1 (IsL.up u _ _ i1) y⟩⟩
  | scr ns =>
    cases e1
    simp only [Is] at iv
    obtain ⟨a, rfl, h1⟩ := iv
    refine ⟨a, _, rfl, .inl ⟨h1.sq, q w' H' _ _ _ l st' (by rw [enumL_len, List.length_map, ← List.length_map (f := V.int)]; exact walk_enum) (fun w1 H1 u => (h1.up u).sq) fun i w1 s1 H1 x H2 u st1 y => enum_turn st1 (isL_ints ns) y⟩⟩
  | _ => cases e1
end
/-! ### max(xs, default=d) -/
def rMaxDf (K : PySem.W.Frag) : List V → List V → Hp → VK → Prop := fun vs zs H Q => ∃ (a : Addr) (ns : List Int) (z : V), vs = [.ref a] ∧ zs = [z] ∧ SqL K H a (ns.map V.int) ∧ (ns = [] → Q z H) ∧ ∀ m, maxI ns = some m → Q (.int m) H
theorem holdInts {h : Heap} : ∀ {vs : List Value} {ns : List Int}, IntsAre vs ns → PySem.W.HoldAll h vs ns
  | _, _, .nil => PySem.W.HoldAll.nil
  | _, _, .cons i t r => PySem.W.HoldAll.cons ⟨_, .int _ _⟩ (holdInts r)
theorem maxOf_eq (y : Int) (ys : List Int) : maxI (y :: ys) = some (PySem.W.maxOf y ys) := by
  unfold maxI PySem.W.maxOf
  congr 1
  induction ys generalizing y with
  | nil => rfl
  | cons z zs ih =>
    simp only [List.foldl_cons]
    have : (if y < z then z else y) = (if PySem.W.DatumOrd.lt y z = true then z else y) := by
      have e : PySem.W.DatumOrd.lt y z = decide (y < z) := rfl
      rw [e]
      by_cases hq : y < z <;> simp [hq]
    rw [this]
    exact ih _
theorem cr_maxDf {X : Cx} (hc : X.calm = true) (hu : X.A.units + 64 < cLine) : CallRK X (.builtin "max") [Str.ofString "default"] (rMaxDf X.K) := by
  intro pins s σ H xs zs us ws Q I rx rz h
  obtain ⟨a, ns, z, rfl, rfl, hs, h0, hm⟩ := h
  obtain ⟨its, rv, hl, _⟩ := I.list hs
  rw [Vals.ref1 rx]
  obtain ⟨zv, rfl, rz1⟩ := rz.one
  refine PySem.W.max_list_datum_default (α := Int) (I.ok.hd hc) hl.isList (holdInts (by simpa using rv.ints)) (by show X.A.units + 1 + 0 < cLine; omega) (fun e h' tk hk => ⟨z, H, I.kept hk, rz1, h0 e⟩) fun y ys i v h' tk e hi ho hk => ?_
  obtain ⟨_, ro⟩ := ho
  cases ro with
  | int _ t => exact ⟨.int _, H, I.kept hk, ⟨_, rfl⟩, hm _ (by rw [e]; exact maxOf_eq y ys)⟩
end Qd
namespace Qd
open PySem PySem.Spec PyProof.Rows L2
section
variable {X : Cx} {W : WX} {a b c e d : Expr} {es ts : List Expr} {fa fb fc : M D} {fl : M (List D)} {pos p kp : Pos}
/-! ### a op b op c -/
def xChain (g g' : D → D → S → Out D) (fa fb fc : M D) : M D := fun G s => (fa G s).bind fun a s1 => (fb G s1).bind fun b s2 => (g a b s2).bind fun k s3 => match k with
  | .bl true => (fc G s3).bind fun c s4 => g' b c s4
  | .bl false => .ok (.bl false) s3
  | _ => .fail
theorem run_chain {ta tb tc : TE} {r r' : R2} {g g' : D → D → S → Out D} (ha : Run X.K (IsR X.K) W ta fa) (hb : Run X.K (IsR X.K) W tb fb) (hc : Run X.K (IsR X.K) W tc fc)
    (hr : ∀ (a b : D) (x y : V) (s : S) (w : Wd) (H : Hp) (σ : L2.St) (Q : VK), StOk X.K w s H → IsR X.K w H a x → IsR X.K w H b y → Post (g a b s) (Wish X.K (Is X.K) w H Q) (Rais X.K w H σ W) → r x y H Q)
    (hr' : ∀ (a b : D) (x y : V) (s : S) (w : Wd) (H : Hp) (σ : L2.St) (Q : VK), StOk X.K w s H → IsR X.K w H a x → IsR X.K w H b y → Post (g' a b s) (Wish X.K (Is X.K) w H Q) (Rais X.K w H σ W) → r' x y H Q) :
    Run X.K (Is X.K) W (tChain r r' ta tb tc) (xChain g g' fa fb fc) := by
  refine Run.seq (f2 := fun a G s1 => (fb G s1).bind fun b s2 => (g a b s2).bind fun k s3 => match k with
    | .bl true => (fc G s3).bind fun c s4 => g' b c s4
    | .bl false => .ok (.bl false) s3
    | _ => .fail) (t2 := fun x σ H1 Q => tb σ H1 fun y H2 => r x y H2 fun z H3 => ∃ k, z = .bl k ∧ (if k = true then tc σ H3 fun w' H4 => r' y w' H4 Q else Q (.bl false) H3)) ha fun a x G s w H σ Q st en i hp => ?_
  refine hb G s w H σ _ st en (hp.bind.imp (fun b s1 q w1 H1 y l st1 ib => ?_) fun _ _ _ q => q)
  refine hr a b x y s1 w1 H1 σ _ st1 (i.le l) ib (q.bind.imp (fun k s2 q2 w2 H2 z l2 st2 ik => ?_) fun _ _ _ q => q.le l)
  cases k with
  | bl k =>
    simp only [Is] at ik
    refine ⟨k, ik, ?_⟩
    cases k with
    | false => exact q2 w2 H2 _ (l.trans l2) st2 (is_bl false)
    | true =>
      refine hc G s2 w2 H2 σ _ st2 (en.le (l.trans l2)) (q2.bind.imp (fun c s3 q3 w3 H3 u l3 st3 ic => ?_) fun _ _ _ q => q.le (l.trans l2))
      exact hr' b c y u s3 w3 H3 σ Q st3 ((ib.le l2).le l3) ic (q3.imp (fun _ _ z => z.le ((l.trans l2).trans l3)) fun _ _ _ z => z.le ((l.trans l2).trans l3))
  | _ => exact absurd q2 id
theorem de_chain {op op' : CmpOp} {g g' : D → D → S → Out D} (ho : OpD X W (compareOp op) g) (ho' : OpD X W (compareOp op') g') (ha : DR X W a fa) (hb : DR X W b fb) (hc : DR X W c fc)
    (hm : lastMarks [op, op'] [b, c] = false := by with_unfolding_all rfl) : DE X W (.Compare a [op, op'] [b, c] pos) (xChain g g' fa fb fc) := by
  obtain ⟨ta, pa, ra⟩ := ha
  obtain ⟨tb, pb, rb⟩ := hb
  obtain ⟨tc, pc, rc⟩ := hc
  obtain ⟨r, o, hr⟩ := ho
  obtain ⟨r', o', hr'⟩ := ho'
  exact ⟨_, pe_chain o o' pa pb pc hm, run_chain ra rb rc hr hr'⟩
theorem dt_chain {op op' : CmpOp} {g g' : D → D → S → Out D} (ho : OpD X W (compareOp op) g) (ho' : OpD X W (compareOp op') g') (ha : DR X W a fa) (hb : DR X W b fb) (hc : DR X W c fc)
    (hm : lastMarks [op, op'] [b, c] = false := by with_unfolding_all rfl) : DT X W (.Compare a [op, op'] [b, c] pos) (xTest (xChain g g' fa fb fc)) := by
  obtain ⟨ta, pa, ra⟩ := ha
  obtain ⟨tb, pb, rb⟩ := hb
  obtain ⟨tc, pc, rc⟩ := hc
  obtain ⟨r, o, hr⟩ := ho
  obtain ⟨r', o', hr'⟩ := ho'
  exact ⟨_, pt_chain o o' pa pb pc hm, run_test (run_chain ra rb rc hr hr')⟩
/-! ### a sign in a text -/
def inS (a b : D) : Option D := match a, b with
  | .str i, .str j => (match i.cps.toList with
    | [c] => some (.bl (decide (c ∈ j.cps.toList)))
    | _ => none)
  | _, _ => none
theorem od_inS : OpD X W (compareOp .In) (fun a b s => lift (inS a b) s) := by
  refine OpD.pure op_in_sign fun a b d x y w H Q i j e q => ?_
  unfold inS at e
  split at e
  · split at e
    · rename_i _ _ z1 z2 _ c hc
      cases e
      have : z1 = ⟨#[c]⟩ := by
        cases z1 with
        | mk cps =>
          simp only at hc
          congr 1
          exact Array.toList_inj.mp hc
      subst this
      exact ⟨c, z2, isR_str i, isR_str j, q w H _ (Le.refl w H) (fun _ z => z) (is_bl _)⟩
    · cases e
  · cases e
/-! ### max(xs, default=d) -/
def maxDf (a z : D) : Option D := match a with
  | .lst xs => (ints? xs).bind fun ns => if ns = [] then some z else (maxI ns).map .int
  | _ => none
def xMaxDf (fa fz : M D) : M D := fun G s => (fa G s).bind fun a s1 => (fz G s1).bind fun z s2 => lift (maxDf a z) s2
theorem de_maxDf (hc : X.calm = true) (hu : X.A.units + 64 < cLine) (hg : Gl X "max") (hm : X.mg "max" = none) (ha : DR X W e fa) (hd : DE X W d fb)
    (hs : starEach [e] X.env = [(false, eval e X.env)] := by rfl)
    (hs2 : backTo pos (starEach [e] X.env) = (false, eval e X.env) :: backTo pos (starEach [] X.env) := by rfl) (hpl : (backTo pos (starEach [e] X.env)).any (·.1) = false := by rfl)
    (hall : (backToKw pos (keywordEach [⟨some "default", d, kp⟩] X.env)).all (·.1.isSome) = true := by rfl) (hnone : (backToKw pos (keywordEach [⟨some "default", d, kp⟩] X.env)).any (·.1.isNone) = false := by rfl)
    (hks : (backToKw pos (keywordEach [⟨some "default", d, kp⟩] X.env)).filterMap (·.1) = [Str.ofString "default"] := by rfl) :
    DE X W (.Call (.Name "max" p) [e] [⟨some "default", d, kp⟩] pos) (xMaxDf fa fb) := by
  obtain ⟨ta, pa, ra⟩ := ha
  obtain ⟨td, pd, rd⟩ := hd
  refine ⟨_, pe_callBK (cr_maxDf hc hu) hg hm boot_max (pa_cons pa pa_nil (by rw [hs] <;> rfl)) (pk_cons pd pk_nil) (by decide) (by decide) hs2 hpl hall hnone hks, ?_⟩
  refine Run.seq (f2 := fun a G s1 => (fb G s1).bind fun z s2 => lift (maxDf a z) s2) (t2 := fun x σ H1 Q => td σ H1 fun z H2 => rMaxDf X.K [x] [z] H2 Q) ra fun a x G s w H σ Q st en i hp => ?_
  refine rd G s w H σ _ st en (hp.bind.imp (fun z s1 q w1 H1 zv l st1 iz => ?_) fun _ _ _ q => q)
  obtain ⟨r, er, q⟩ := post_lift q
  unfold maxDf at er
  split at er
  · rename_i xs
    rw [Option.bind_eq_some_iff] at er
    obtain ⟨ns, e1, e2⟩ := er
    obtain ⟨a1, vs, rfl, h1, i1⟩ := isR_lst (i.le l)
    rw [ints_is i1 e1] at h1
    refine ⟨a1, ns, zv, rfl, rfl, SqL.of h1, fun en => ?_, fun m em => ?_⟩
    · rw [if_pos en] at e2
      cases e2
      exact q w1 H1 _ l st1 iz
    · have hn : ns ≠ [] := by intro z; rw [z] at em; cases em
      rw [if_neg hn, em] at e2
      cases e2
      exact q w1 H1 _ l st1 (is_int _)
  · cases er
end
/-! ### (x, y, ..) = (e, f, ..), cells among the names -/
def TgNs (X : Cx) (ts : List Expr) (is : List Nat) : Prop := ∃ t : TGs, PGs X ts t ∧ ∀ vs σ H Q, vs.length = is.length → Q (putV σ is vs) H → t vs σ H Q
section
variable {X : Cx} {W : WX} {es ts : List Expr} {is : List Nat} {x : Str} {pos px pt pt2 : Pos} {g : M (List Sl)} {kt k2 : Nat}
theorem tn_nil : TgNs X [] [] := ⟨_, pgs_nil, fun vs σ H Q hl q => by
  cases vs with
  | nil => exact ⟨rfl, q⟩
  | cons v r => cases hl⟩
theorem tn_cons (i : Nat) (hN : X.N.Nodup) (h : TgNs X ts is) (hi : X.N[i]? = some x := by rfl) (hx : Loc X.env.scope x := by first | exact .inl rfl | exact .inr rfl) (hf : X.fn x = true ∨ X.env.scope.names.lookup x = some .local := by first | exact .inl rfl | exact .inr rfl)
    (hs : (assignEach (.Name x px :: ts) X.env).map (·.2) = assign (.Name x px) X.env :: (assignEach ts X.env).map (·.2) := by rfl) : TgNs X (.Name x px :: ts) (i :: is) := by
  obtain ⟨t, p, r⟩ := h
  refine ⟨_, pgs_cons (pg_name (i := i) hN hi hx hf) p hs, fun vs σ H Q hl q => ?_⟩
  cases vs with
  | nil => cases hl
  | cons v vr => exact ⟨v, vr, rfl, r vr _ H Q (by simpa using hl) q⟩
theorem SlsOk.le {K : PySem.W.Frag} {H0 : Hp} {w w' : Wd} {H H' : Hp} (le : Le w H w' H') : ∀ {ls : List Sl} {vs : List V}, SlsOk K H0 w H ls vs → SlsOk K H0 w' H' ls vs
  | [], _, h => h
  | l :: r, _, ⟨v, vr, e, a, b, c⟩ => ⟨v, vr, e, SlOk.le le a, SlsOk.le le b, c⟩
theorem Good.putAll {K : PySem.W.Frag} {w0 w : Wd} {H0 H : Hp} {s : S} : ∀ {is : List Nat} {ls : List Sl} {vs : List V} {G : List Sl} {σ : L2.St}, Good K w0 H0 G s w H σ → SlsOk K H0 w H ls vs →
    (∀ (j : Nat) e, G[j]? = some (.own e) → ∀ (k : Nat) e', ls[k]? = some (.own e') → ∀ v, vs[k]? = some v → σ[j]? ≠ some (some v)) → Good K w0 H0 (putS G is ls) s w H (putV σ is vs)
  | [], ls, vs, G, σ, g, _, _ => by
    have e1 : putS G [] ls = G := by cases ls <;> rfl
    have e2 : putV σ [] vs = σ := by cases vs <;> rfl
    rw [e1, e2]
    exact g
  | i :: is, [], vs, G, σ, g, h, _ => by
    have : vs = [] := h
    subst this
    exact g
  | i :: is, l :: ls, _, G, σ, g, ⟨v, vr, e, a, b, c⟩, hsep => by
    subst e
    show Good K w0 H0 (putS (G.set i l) is ls) s w H (putV (σ.set i (some v)) is vr)
    refine Good.putAll (g.put1 (i := i) a fun d ed j e nj gj => hsep j e gj 0 d (by rw [ed]; rfl) v rfl) b fun j e gj k e' lk v' vk => ?_
    rcases get_set gj with ⟨ej, el, hl⟩ | ⟨nj, gj⟩
    · subst ej
      rw [List.getElem?_set_self (by rw [← g.en.len]; exact hl)]
      intro z
      cases z
      exact c e el.symm k e' lk vk
    · rw [List.getElem?_set_ne (Ne.symm nj)]
      exact hsep j e gj (k + 1) e' (by simpa using lk) v' (by simpa using vk)
theorem sls_len {K : PySem.W.Frag} {H0 : Hp} {w : Wd} {H : Hp} : ∀ {ls : List Sl} {vs : List V}, SlsOk K H0 w H ls vs → vs.length = ls.length
  | [], _, h => by
    have : _ = [] := h
    rw [this]; rfl
  | l :: r, _, ⟨v, vr, e, a, b, c⟩ => by rw [e, List.length_cons, List.length_cons, sls_len b]
theorem ds_tupX (hc : X.calm = true) (h : DX X W es g) (ht : TgNs X ts is) (hsz : sz is.length = true := by rfl) (hn : (assignEach ts X.env).length = is.length := by rfl) (hst : (assignEach ts X.env).findIdx? (·.1) = none := by rfl)
    (hs : swapsWithSole [.Tuple ts kt pt] (.Tuple es k2 pt2) pos.line X.env = pure false := by rfl) (hw : swappedStores [.Tuple ts kt pt] (.Tuple es k2 pt2) X.env = pure none := by rfl)
    (h1 : (assignEach [.Tuple ts kt pt] X.env).map (·.2) = [assign (.Tuple ts kt pt) X.env] := by rfl) : DS X W (.Assign [.Tuple ts kt pt] (.Tuple es k2 pt2) pos) (sPar is g) := by
  obtain ⟨t, p, r⟩ := h
  obtain ⟨u, pu, ru⟩ := ht
  refine ⟨_, ps_asg (pe_tup p) (pg_tup hc pu hn hst) hs hw h1, fun w0 H0 G s w H σ Dn gd hp => r G s w H σ _ gd.st gd.en (post_eS gd hp fun ls s' hp' w' H' vs l st' isl => ?_)⟩
  split at hp'
  · rename_i hl
    have hvl := sls_len isl
    refine ⟨by rw [hvl, hl]; exact sz_line hsz, fun q hq => ?_⟩
    have l2 := le_newO (w := w') (o := .tup vs) hq
    have st2 := st_newO (o := .tup vs) st' hq
    refine ⟨q, vs, rfl, .inl (.inl upd_same), by rw [hvl, hl], ru vs σ _ _ (by rw [hvl, hl]) ?_⟩
    have gd' := gd.le' (l.trans l2) st2
    have isl2 := (isl.le l2).back gd.le.dm
    refine hp' w' _ _ (l.trans l2).up (gd'.putAll isl2 fun j e gj k e' lk v vk sj => ?_)
    obtain ⟨a, ea, ha⟩ := isl.own_at lk vk
    subst ea
    obtain ⟨a', e2, o⟩ := gd.en.own j e gj
    rw [sj] at e2
    cases e2
    exact own_there o ha
  · exact absurd hp' (fun z => z)
end
end Qd
namespace Qd
open PySem PySem.Spec PyProof.Rows L2
section
variable {X : Cx} {W : WX} {a : Expr} {fa : M D} {pos : Pos}
def rEqLen (K : PySem.W.Frag) : R2 := fun x y H Q => ∃ a b xs ys, x = .ref a ∧ y = .ref b ∧ SqL K H a xs ∧ SqL K H b ys ∧ xs.length ≠ ys.length ∧ Q (.bl false) H
theorem op_eqLen (hu : X.A.units + 64 < cLine) : OpR X (compareOp .Eq) (rEqLen X.K) := by
  intro pins s σ H x y v u Q I rx ry h
  obtain ⟨a, b, xs, ys, rfl, rfl, ha, hb, hne, q⟩ := h
  cases rx
  cases ry
  obtain ⟨us, r1, p1, _⟩ := I.list ha
  obtain ⟨ws, r2, p2, _⟩ := I.list hb
  have hsz : (us.toArray.size != ws.toArray.size) = true := by
    rw [List.size_toArray, List.size_toArray, ← r1.length, ← r2.length]
    simpa using hne
  exact SeqAt.eq_list_lengthsAt p1.isList p2.isList hsz (by omega) ⟨.bl false, H, I, rfl, q⟩
def eqL (a b : D) : Option D := match a, b with
  | .lst x, .lst y => if x.length ≠ y.length then some (.bl false) else eqD (.lst x) (.lst y)
  | a, b => eqD a b
theorem od_eqL (hu : X.A.units + 64 < cLine) : OpD X W (compareOp .Eq) (fun a b s => lift (eqL a b) s) := by
  obtain ⟨r, o, hr⟩ := od_eq (X := X) (W := W) hu
  refine ⟨_, OpR.or o (op_eqLen hu), fun a b x y s w H σ Q st i j hp => ?_⟩
  dsimp only at hp
  unfold eqL at hp
  split at hp
  · rename_i xs ys
    split at hp
    · rename_i hl
      obtain ⟨a1, us, rfl, h1, i1⟩ := isR_lst i
      obtain ⟨b1, ws, rfl, h2, i2⟩ := isR_lst j
      exact .inr ⟨a1, b1, us, ws, rfl, rfl, SqL.of h1, SqL.of h2, by rw [isL_len i1, isL_len i2]; exact hl, Wish.now (a := D.bl false) (s := s) hp st (is_bl false)⟩
    · exact .inl (hr _ _ x y s w H σ Q st i j hp)
  · exact .inl (hr a b x y s w H σ Q st i j hp)
def xNeg (fa : M D) : M D := fun G s => (fa G s).bind fun d s => match d with
  | .int i => .ok (.int (-i)) s
  | _ => .fail
theorem de_neg (h : DE X W a fa) : DE X W (.UnaryOp .USub a pos) (xNeg fa) := by
  obtain ⟨t, p, r⟩ := h
  refine ⟨_, pe_un un_neg p, ?_⟩
  refine Run.seq (f2 := fun d _ s => match d with | .int i => .ok (D.int (-i)) s | _ => .fail) (t2 := fun x (σ : L2.St) (H1 : Hp) (Q : VK) => rU (fun i => .int (-i)) x H1 Q) r fun d x G s w H σ Q st en i hp => ?_
  cases d with
  | int k =>
    simp only [Is] at i
    exact ⟨k, i, Wish.now (a := D.int (-k)) (s := s) hp st (is_int _)⟩
  | _ => exact absurd hp id
end
end Qd
namespace Qd
open PySem PySem.Spec PyProof.Rows L2
/-! ### more facts of the head -/
inductive Fq where
  | ci (c : Str) | tabT (T : String) (tb : List (Tg × Bool)) | tabK (c : Str) (tb : List (Tg × Bool)) | tabM (Ts : List String) (tb : List (Tg × Bool))
def obB (a : Option Bool) (b : Bool) : Bool := decide (a = some b)
def tabB (K : PySem.W.Frag) (u : Value) (tb : List (Tg × Bool)) : Bool := tb.all fun p => obB (PySem.W.kitOne K (p.1.v K) u) p.2
def tabsB (K : PySem.W.Frag) (us : List Value) (tb : List (Tg × Bool)) : Bool := tb.all fun p => obB (PySem.W.kitAny K (p.1.v K) us) p.2
def Fq.ok (K : PySem.W.Frag) : Fq → Bool
  | .ci c => (He.Fa.cls c).ok K && (He.eqO (PySem.W.findIn K (.ref (He.ga K c)) "__class__") (some (some (.builtin "object.__class__"))) && (He.eqO (PySem.W.specialIn K (.builtin "object.__class__") "__get__") (some (some (.builtin "getset_descriptor.__get__"))) && (obB (PySem.W.takesIn K (.builtin "object.__class__")) true && obB (PySem.W.mroIn K (He.ga K c) (.type "object")) true)))
  | .tabT T tb => tabB K (.type T) tb
  | .tabK c tb => tabB K (.ref (He.ga K c)) tb
  | .tabM Ts tb => tabsB K (Ts.map Value.type) tb
theorem lookup_mem {α β : Type} [BEq α] [LawfulBEq α] : ∀ {l : List (α × β)} {a : α} {b : β}, l.lookup a = some b → (a, b) ∈ l
  | [], _, _, h => by cases h
  | (x, y) :: r, a, b, h => by
    rw [List.lookup_cons] at h
    cases q : a == x with
    | true =>
      rw [q] at h
      cases h
      rw [eq_of_beq q]
      exact List.mem_cons_self
    | false =>
      rw [q] at h
      exact List.mem_cons_of_mem _ (lookup_mem h)
theorem Fq.ci_ok {K : PySem.W.Frag} {c : Str} (h : (Fq.ci c).ok K = true) : ClsI K (He.ga K c) := by
  obtain ⟨h1, h2⟩ := He.ba h
  obtain ⟨h2, h3⟩ := He.ba h2
  obtain ⟨h3, h4⟩ := He.ba h3
  obtain ⟨h4, h5⟩ := He.ba h4
  exact ⟨He.cls_ok h1, He.eqO_ok h2, He.eqO_ok h3, of_decide_eq_true h4, of_decide_eq_true h5⟩
theorem tabB_ok {K : PySem.W.Frag} {u : Value} {tb : List (Tg × Bool)} (h : tabB K u tb = true) : TabOk K u tb := fun t b e => of_decide_eq_true (List.all_eq_true.mp h (t, b) (lookup_mem e))
theorem tabsB_ok {K : PySem.W.Frag} {us : List Value} {tb : List (Tg × Bool)} (h : tabsB K us tb = true) : ∀ t b, tb.lookup t = some b → PySem.W.kitAny K (t.v K) us = some b := fun t b e => of_decide_eq_true (List.all_eq_true.mp h (t, b) (lookup_mem e))
abbrev AlQ : Type := He.AlD × Bool
def obsQ (fa : List He.Fa) (fn : List He.DefD) (fq : List Fq) (K : PySem.W.Frag) : AlQ := (He.obsD fa fn K, fq.all fun f => f.ok K)
def valQ (fn : List He.DefD) : AlQ := (He.valD fn, true)
def SaysQ (fa : List He.Fa) (fn : List He.DefD) (fq : List Fq) (K : PySem.W.Frag) : Prop := obsQ fa fn fq K = valQ fn
def obsQG (n : Nat) (fa : List He.Fa) (fn : List He.DefD) (fq : List Fq) (g : Addr → Option Obj) : AlQ := obsQ fa fn fq (He.frG g (He.asD g n))
def hookQ (n : Nat) (fa : List He.Fa) (fn : List He.DefD) (fq : List Fq) : PySem.W.Hook where
  α := AlQ
  obs := fun s => obsQG n fa fn fq s.heap.get?
  val := fun _ => valQ fn
  says := fun _ h => ∃ K : PySem.W.Frag, K.In h ∧ SaysQ fa fn fq K
  of := fun _ _ e => ⟨_, He.frG_in, e⟩
  keeps := fun _ _ _ ⟨K, hK, c⟩ k => ⟨K, PySem.W.Frag.In.keeps hK k, c⟩
theorem obsQG_eq {n : Nat} {fa : List He.Fa} {fn : List He.DefD} {fq : List Fq} {g : Addr → Option Obj} {s : Shared} (h : ∀ a, g a = s.heap.get? a) : obsQG n fa fn fq g = (hookQ n fa fn fq).obs s := by
  have e : g = s.heap.get? := funext h
  rw [e] <;> rfl
theorem SaysQ.d {fa : List He.Fa} {fn : List He.DefD} {fq : List Fq} {K : PySem.W.Frag} (c : SaysQ fa fn fq K) : He.SaysD fa fn K := congrArg (fun z : AlQ => z.1) c
theorem SaysQ.q {fa : List He.Fa} {fn : List He.DefD} {fq : List Fq} {K : PySem.W.Frag} (c : SaysQ fa fn fq K) (i : Nat) {f : Fq} (h : fq[i]? = some f := by rfl) : f.ok K = true := by
  have z : (fq.all fun f => f.ok K) = true := congrArg (fun z : AlQ => z.2) c
  exact List.all_eq_true.mp z f (List.mem_of_getElem? h)
end Qd
namespace Qd
open PySem PySem.Spec PyProof.Rows L2
/-! ### the law itself -/
def spLaw (K : PySem.W.Frag) : Sp := fun vs H Q _ => ∃ (a : Addr) (ns : List Int), vs = [.ref a] ∧ SqL K H a (ns.map V.int) ∧ ns.length ≤ 63 ∧ ∀ H', Q (.bl true) H'
def w0 (fz : Addr → Prop) : Wd := ⟨fz, fun _ => 0, 0, 0⟩
def s0 : S := ⟨fun _ => none, 0⟩
theorem st0 {K : PySem.W.Frag} {H : Hp} {fz : Addr → Prop} (h : ∀ a, fz a → H a ≠ none) : StOk K (w0 fz) s0 H where
  nx := rfl
  inj := fun n m hn => absurd hn (Nat.not_lt_zero n)
  live := fun n d e => by cases e
  df := h
  dl := fun n hn => absurd hn (Nat.not_lt_zero n)
theorem scr0 {K : PySem.W.Frag} {H : Hp} {a : Addr} {ns : List Int} (h : SqL K H a (ns.map V.int)) : ∃ w s, StOk K w s H ∧ s = s0 ∧ IsL K w H [.scr ns] [.ref a] := by
  rcases h with h | h
  · refine ⟨w0 fun b => b = a, s0, st0 fun b e => ?_, rfl, ?_⟩
    · subst e
      rcases h with h | ⟨o, h⟩ <;> (rw [h]; intro z; cases z)
    · simp only [IsL, Is]
      exact ⟨_, [], rfl, ⟨a, rfl, .inl ⟨rfl, h⟩⟩, rfl⟩
  · refine ⟨w0 fun _ => False, s0, st0 fun b e => e.elim, rfl, ?_⟩
    simp only [IsL, Is]
    exact ⟨_, [], rfl, ⟨a, rfl, .inr (.inr h)⟩, rfl⟩
section
variable {P : Program} {w : World} {K : PySem.W.Frag} {mg : Str → Option Value} {base : Heap} {name qual x : Str} {params : Arguments} {body : List Stmt} {scope : Scope} {f : Addr} {fd : FuncData} {N : List Str} {k : Nat} {m : MS}
theorem law_ok (F : FunD K name qual params body scope [] [] f fd) (S : FnScope N [x] scope) (hbody : Body P w K mg base k N qual scope f body m)
    (hp : ∀ ns : List Int, ns.length ≤ 63 → ∃ s', runF 1 N.length m [.scr ns] s0 = .ok (.bl true) s') : FnOk P w K mg base (L2.CX P w) (k + 1) f fd [x] (spLaw K) := by
  refine F.ok S (fun vs H Q E ⟨a, ns, e, _⟩ => by rw [e]; rfl) fun cdv A outer s H vs Q E hr ⟨a, ns, e, hs, hl, hq⟩ => ?_
  subst e
  obtain ⟨w1, s1, st, es, i⟩ := scr0 hs
  subst es
  obtain ⟨s', er⟩ := hp ns hl
  refine body_run (ps := [x]) rfl (hbody cdv A outer s H E hr (takes_of rfl rfl rfl rfl) (passes_of rfl)) rfl (scope_le S) st i ?_
  show Post (runF 1 N.length m [.scr ns] s0) _ _
  rw [er]
  intro w' H' v _ _ iv
  simp only [Is] at iv
  rw [iv]
  exact hq H'
end
theorem cx_no {P : Program} {w : World} (H : Hp) (s : Shared) (e : Value) (s' : Shared) (z : L2.CX P w [] H s (fun _ _ _ => False) e s') : False := by
  obtain ⟨_, _, _, _, _, _, _, _, _, _, _, _, z⟩ := z
  exact z
/-- the end, the exceptions' world with it -/
theorem lawEnd {lw : PySem.W.OpenLaw} {most k : Nat} {pg : Program} {ls : List Str} {XQ : (Str → Option Value) → Heap → Prop} {YQ : World → Heap → Prop} {dr : DefRec} {x : Str} (h1 : lw.most = some most) (h2 : most ≤ sizeLine) (h3 : dr.params.defaults = []) (h4 : Room k callerA)
    (F : ∀ (w : World) (mg : Str → Option Value) (f : Addr) (hp : Heap), YQ w hp → hp.Ns mainGlobals mg → mg dr.name = some (.ref f) → ∃ (K : PySem.W.Frag) (fd : FuncData) (sp : Sp), K.In hp ∧ (∀ (s : Shared) (u : Value), BindsTo s fd ⟨[u], []⟩ [(x, u)]) ∧
      (∀ (H : Hp) (a : Addr) (ns : List Int), ns.length ≤ most → Only H → SqL K H a (ns.map V.int) → sp [.ref a] H (fun v _ => v = .bl true) fun _ _ _ => False) ∧ ∀ bs : Heap, K.In bs → bs.Ns mainGlobals mg → FnOk lw.prog w K mg bs (L2.CX lw.prog w) k f fd [x] sp) :
    PySem.W.WalkO pg ls XQ YQ lw.row.toRowW dr [] (fun f vs => PySem.call f vs) := by
  refine Att.attach_call h1 h3 fun w sA sB mg mb f o pm cd doc a vs ns G Y ho hd hcd hmg hob hin hle hg => ?_
  obtain ⟨K, fd, sp, KX, hb, hsp, hF⟩ := F w mg f _ Y G.T.g hmg
  exact law_call KX G.T.g G.T.b G.T.builtins G.T.nolimit hg hob hin (Nat.le_trans hle h2) h4 hF hb (fun H hO hS => hsp H a ns hle hO hS) fun H e s' z => cx_no H sB e s' z
end Qd
/-! plain tools over the mirrors -/
namespace Qd
open PySem L2
theorem forL_inv {tg : D → List Sl → Option (List Sl)} {b : MS} {I : Nat → List Sl → S → Prop} : ∀ (ds : List D) (k : Nat),
    (∀ i (hi : i < ds.length) G s, I (k + i) G s → ∃ G1, tg ds[i] G = some G1 ∧ ∃ G2 s2, b G1 s = .nx G2 s2 ∧ I (k + i + 1) G2 s2) → ∀ G s, I k G s → ∃ G' s', forL tg b ds G s = .nx G' s' ∧ I (k + ds.length) G' s'
  | [], k, _, G, s, h => ⟨G, s, rfl, h⟩
  | d :: r, k, h, G, s, hi => by
    obtain ⟨G1, e1, G2, s2, e2, h2⟩ := h 0 (Nat.zero_lt_succ _) G s hi
    obtain ⟨G3, s3, e3, h3⟩ := forL_inv r (k + 1) (fun i hi G s z => by
      have e : k + 1 + i = k + (i + 1) := by omega
      rw [e] at z ⊢
      exact h (i + 1) (Nat.succ_lt_succ hi) G s z) G2 s2 h2
    refine ⟨G3, s3, ?_, ?_⟩
    · have e1' : tg d G = some G1 := e1
      simp only [forL, e1', e2]
      exact e3
    · have e : k + (d :: r).length = k + 1 + r.length := by rw [List.length_cons]; omega
      rw [e]
      exact h3
theorem lcL_map {tg : D → List Sl → Option (List Sl)} {t : M Bool} {e : M D} {G : List Sl} {s : S} (f : D → D) : ∀ (ds : List D), (∀ d ∈ ds, ∃ G1, tg d G = some G1 ∧ t G1 s = .ok true s ∧ e G1 s = .ok (f d) s) → lcL tg t e G ds s = .ok (ds.map f) s
  | [], _ => rfl
  | d :: r, h => by
    obtain ⟨G1, e1, e2, e3⟩ := h d List.mem_cons_self
    have ih := lcL_map f r fun d' hd => h d' (List.mem_cons_of_mem _ hd)
    simp only [lcL, e1, e2, e3, ih, Out.bindN, if_true, List.map_cons]
theorem lcL_inv {tg : D → List Sl → Option (List Sl)} {t : M Bool} {e : M D} {G : List Sl} {J : S → Prop} {P : D → Prop} : ∀ (ds : List D), (∀ d ∈ ds, ∀ s, J s → ∃ G1, tg d G = some G1 ∧ t G1 s = .ok true s ∧ ∃ y s', e G1 s = .ok y s' ∧ P y ∧ J s') →
    ∀ s, J s → ∃ ys s', lcL tg t e G ds s = .ok ys s' ∧ ys.length = ds.length ∧ (∀ y ∈ ys, P y) ∧ J s'
  | [], _, s, h => ⟨[], s, rfl, rfl, (fun y hy => (List.not_mem_nil hy).elim), h⟩
  | d :: r, h, s, hj => by
    obtain ⟨G1, e1, e2, y, s2, e3, py, hj2⟩ := h d List.mem_cons_self s hj
    obtain ⟨ys, s3, e4, hl, hP, hj3⟩ := lcL_inv r (fun d' hd => h d' (List.mem_cons_of_mem _ hd)) s2 hj2
    refine ⟨y :: ys, s3, ?_, by rw [List.length_cons, List.length_cons, hl], fun z hz => ?_, hj3⟩
    · simp only [lcL, e1, e2, e3, e4, Out.bindN, if_true]
    · rcases List.mem_cons.mp hz with rfl | hz
      · exact py
      · exact hP z hz
theorem forL_nx {tg : D → List Sl → Option (List Sl)} {b : MS} {d : D} {r : List D} {G G1 G2 : List Sl} {s s2 : S} (h1 : tg d G = some G1) (h2 : b G1 s = .nx G2 s2) : forL tg b (d :: r) G s = forL tg b r G2 s2 := by
  simp only [forL, h1, h2]
theorem sSeq_nx {f g : MS} {G G' : List Sl} {s s' : S} (h : f G s = .nx G' s') : sSeq f g G s = g G' s' := by
  simp only [sSeq, h]
theorem sFor_ok {it : M (List D)} {tg : D → List Sl → Option (List Sl)} {b : MS} {G : List Sl} {s s1 : S} {ds : List D} (h : it G s = .ok ds s1) : sFor it tg b G s = forL tg b ds G s1 := by
  simp only [sFor, eS, h]
theorem runF_rt {n N : Nat} {m : MS} {ds : List D} {s s' : S} {d : D} (hl : ds.length = n) (h : m (ds.map .val ++ List.replicate (N - n) .un) s = .rt d s') : runF n N m ds s = .ok d s' := by
  simp only [runF, hl, if_true, h, ends]
theorem sIf_t {t : M Bool} {f g : MS} {G : List Sl} {s s' : S} (h : t G s = .ok true s') : sIf t f g G s = f G s' := by
  simp only [sIf, eS, h, if_true]
theorem sIf_f {t : M Bool} {f g : MS} {G : List Sl} {s s' : S} (h : t G s = .ok false s') : sIf t f g G s = g G s' := by
  simp [sIf, eS, h]
theorem sRet_ok {f : M D} {G : List Sl} {s s' : S} {d : D} (h : f G s = .ok d s') : sRet f G s = .rt d s' := by
  simp only [sRet, eS, h]
theorem rngL_get {lo : Int} {n i : Nat} (hi : i < (rngL lo n).length) : (rngL lo n)[i] = .int (lo + (i : Nat)) := by
  simp [rngL]
theorem rngL_len {lo : Int} {n : Nat} : (rngL lo n).length = n := by
  unfold rngL
  simp
theorem atI_nat {α : Type} {xs : List α} {i : Nat} (h : i < xs.length) : atI xs (i : Int) = some xs[i] := by
  have h2 : (i : Int) < (xs.length : Int) := by omega
  simp [atI, ixN, h2, h]
theorem atI_pos {α : Type} {xs : List α} {k : Int} (h0 : 0 ≤ k) (h : k < xs.length) : ∃ x, atI xs k = some x ∧ x ∈ xs ∧ xs[k.toNat]? = some x := by
  obtain ⟨i, rfl⟩ := Int.eq_ofNat_of_zero_le h0
  have hi : i < xs.length := by
    have : (i : Int) < xs.length := h
    omega
  exact ⟨xs[i], atI_nat hi, List.getElem_mem hi, by simp [hi]⟩
end Qd
/-! what is wished behind a run: rules that go from the front; what comes later stands in instances, where simp does not look -/
namespace Qd
open PySem L2
abbrev EP := Str → List (Str × D) → S → Prop
class Kn (α : Type) where
  q : α → S → Prop
  e : EP
class Ps where
  nx : List Sl → S → Prop
  rt : D → S → Prop
  bk : List Sl → S → Prop
  ct : List Sl → S → Prop
  ex : Str → List (Str × D) → List Sl → S → Prop
class Kq (α : Type) where
  q : α → Prop
class Kp where
  p : Prop
def Ok {α : Type} (o : Out α) [K : Kn α] : Prop := match o with
  | .ok a s => K.q a s
  | .exc c f s => K.e c f s
  | .fail => False
def OkS (o : OS) [P : Ps] : Prop := match o with
  | .nx G s => P.nx G s
  | .rt d s => P.rt d s
  | .bk G s => P.bk G s
  | .ct G s => P.ct G s
  | .exc c f G s => P.ex c f G s
  | .fail => False
def okSm {α : Type} (o : Option α) [K : Kq α] : Prop := match o with
  | some a => K.q a
  | none => False
def okV (o : Option Sl) [K : Kq D] : Prop := match o with
  | some (.val d) => K.q d
  | some (.own (.obj c fs)) => K.q (.obj c fs)
  | _ => False
def okVR (o : Option Sl) [K : Kq D] : Prop := match o with
  | some (.val d) => K.q d
  | some (.own d) => K.q d
  | _ => False
def okO (o : Option Sl) [K : Kq (List D)] : Prop := match o with
  | some (.own (.lst ds)) => K.q ds
  | _ => False
def okA (o : Option Sl) [K : Kq D] : Prop := match o with
  | some (.val d) => K.q d
  | _ => False
def okJ (o : Option Sl) (c n : Str) [K : Kq (List (Str × D))] : Prop := match o with
  | some (.own (.obj c' fs)) => (c' = c ∧ n ∉ fs.map (·.1) ∧ fs.length < 1000) ∧ K.q fs
  | _ => False
def okB (d : D) [K : Kq Bool] : Prop := match d with
  | .bl b => K.q b
  | _ => False
def okI (d : D) [K : Kq Int] : Prop := match d with
  | .int b => K.q b
  | _ => False
def okStr (d : D) [K : Kq Str] : Prop := match d with
  | .str b => K.q b
  | _ => False
def okC (d : D) (c : Str) [K : Kq (List (Str × D))] : Prop := match d with
  | .obj c' fs => c' = c ∧ K.q fs
  | _ => False
def okIf (b : Bool) (X Y : Kp) : Prop := match b with
  | true => X.p
  | false => Y.p
def okT (b : Bool) [X : Kp] : Prop := match b with
  | true => X.p
  | false => False
def okP (p : Prop) [X : Kp] : Prop := p ∧ X.p
abbrev noE : EP := fun _ _ _ => False
section
variable {α β : Type} {a : α} {s : S} {G : List Sl} {c : Str} {fs : List (Str × D)} {K : Kn α} {P : Ps}
theorem kn_q {q : α → S → Prop} {e : EP} : @Kn.q α ⟨q, e⟩ a s = q a s := rfl
theorem kn_e {q : α → S → Prop} {e : EP} : @Kn.e α ⟨q, e⟩ c fs s = e c fs s := rfl
theorem kq_q {q : α → Prop} : @Kq.q α ⟨q⟩ a = q a := rfl
theorem kp_p {p : Prop} : @Kp.p ⟨p⟩ = p := rfl
theorem ps_nx {n r b c x} : @Ps.nx ⟨n, r, b, c, x⟩ G s = n G s := rfl
theorem ps_rt {n r b c x} {d : D} : @Ps.rt ⟨n, r, b, c, x⟩ d s = r d s := rfl
theorem ps_bk {n r b c x} : @Ps.bk ⟨n, r, b, c, x⟩ G s = b G s := rfl
theorem ps_ct {n r b c x} : @Ps.ct ⟨n, r, b, c, x⟩ G s = c G s := rfl
theorem ps_ex {n r b c' x} : @Ps.ex ⟨n, r, b, c', x⟩ c fs G s = x c fs G s := rfl
theorem ok_ok : Ok (.ok a s) = K.q a s := by unfold Ok; rfl
theorem ok_exc : Ok (α := α) (.exc c fs s) = K.e c fs s := by unfold Ok; rfl
theorem ok_fail : Ok (α := α) .fail = False := by unfold Ok; rfl
theorem oks_nx : OkS (.nx G s) = P.nx G s := by unfold OkS; rfl
theorem oks_rt {d : D} : OkS (.rt d s) = P.rt d s := by unfold OkS; rfl
theorem oks_bk : OkS (.bk G s) = P.bk G s := by unfold OkS; rfl
theorem oks_ct : OkS (.ct G s) = P.ct G s := by unfold OkS; rfl
theorem oks_exc : OkS (.exc c fs G s) = P.ex c fs G s := by unfold OkS; rfl
theorem oks_fail : OkS .fail = False := by unfold OkS; rfl
theorem okSm_some {a : α} {K : Kq α} : okSm (some a) = K.q a := by unfold okSm; rfl
theorem okSm_none {K : Kq α} : okSm (α := α) none = False := by unfold okSm; rfl
theorem okV_val {d : D} {K : Kq D} : okV (some (.val d)) = K.q d := by unfold okV; rfl
theorem okV_own {c : Str} {fs : List (Str × D)} {K : Kq D} : okV (some (.own (.obj c fs))) = K.q (.obj c fs) := by unfold okV; rfl
theorem okVR_val {d : D} {K : Kq D} : okVR (some (.val d)) = K.q d := by unfold okVR; rfl
theorem okVR_own {d : D} {K : Kq D} : okVR (some (.own d)) = K.q d := by unfold okVR; rfl
theorem okO_own {d : List D} {K : Kq (List D)} : okO (some (.own (.lst d))) = K.q d := by unfold okO; rfl
theorem okA_val {d : D} {K : Kq D} : okA (some (.val d)) = K.q d := by unfold okA; rfl
theorem okB_bl {b : Bool} {K : Kq Bool} : okB (.bl b) = K.q b := by unfold okB; rfl
theorem okI_int {b : Int} {K : Kq Int} : okI (.int b) = K.q b := by unfold okI; rfl
theorem okStr_str {b : Str} {K : Kq Str} : okStr (.str b) = K.q b := by unfold okStr; rfl
theorem okIf_t {X Y : Kp} : okIf true X Y = X.p := by unfold okIf; rfl
theorem okIf_f {X Y : Kp} : okIf false X Y = Y.p := by unfold okIf; rfl
theorem okT_t {X : Kp} : okT true = X.p := by unfold okT; rfl
theorem okT_f {X : Kp} : okT false = False := by unfold okT; rfl
theorem okJ_own {c n : Str} {fs : List (Str × D)} {K : Kq (List (Str × D))} : okJ (some (.own (.obj c fs))) c n = okT (X := ⟨K.q fs⟩) (decide (n ∉ fs.map (·.1)) && decide (fs.length < 1000)) := by
  by_cases h1 : n ∈ fs.map (·.1) <;> by_cases h2 : fs.length < 1000 <;> simp [okJ, okT, h1, h2]
theorem okC_obj {c : Str} {fs : List (Str × D)} {K : Kq (List (Str × D))} : okC (.obj c fs) c = K.q fs := by simp [okC]
theorem okSm_map {o : Option α} {f : α → β} {K : Kq β} : okSm (o.map f) = okSm (K := ⟨fun a => K.q (f a)⟩) o := by cases o <;> (first | rfl | (simp only [Ok, OkS, okSm, okV, okVR, okO, okA, okJ, okB, okI, okStr, okC, okIf, okT, okP, Out.bind, Out.bindN, lift, kn_q, kn_e, kq_q, kp_p, ps_nx, ps_rt, ps_bk, ps_ct, ps_ex]; done) | (simp [Ok, OkS, okSm, okV, okVR, okO, okA, okJ, okB, okI, okStr, okC, okIf, okT, okP, Out.bind, Out.bindN, lift]; done))
theorem okSm_bind {o : Option α} {f : α → Option β} {K : Kq β} : okSm (o.bind f) = okSm (K := ⟨fun a => okSm (f a)⟩) o := by cases o <;> (first | rfl | (simp only [Ok, OkS, okSm, okV, okVR, okO, okA, okJ, okB, okI, okStr, okC, okIf, okT, okP, Out.bind, Out.bindN, lift, kn_q, kn_e, kq_q, kp_p, ps_nx, ps_rt, ps_bk, ps_ct, ps_ex]; done) | (simp [Ok, OkS, okSm, okV, okVR, okO, okA, okJ, okB, okI, okStr, okC, okIf, okT, okP, Out.bind, Out.bindN, lift]; done))
theorem okSm_ite {p : Prop} {ip : Decidable p} {o : Option α} {K : Kq α} : okSm (if p then o else none) = okP (X := ⟨okSm o⟩) p := by
  by_cases h : p
  · rw [if_pos h]; simp [okP, h]
  · rw [if_neg h]; simp [okP, h, okSm]
theorem okP_t {X : Kp} : okP True = X.p := by simp [okP]
theorem okP_of {p : Prop} {X : Kp} (h : p) (x : X.p) : okP p := ⟨h, x⟩
theorem okT_of {b : Bool} {X : Kp} (h : b = true) (x : X.p) : okT b := by rw [h]; exact x
theorem okSm_of {o : Option α} {a : α} {K : Kq α} (h : o = some a) (x : K.q a) : okSm o := by rw [h]; exact x
theorem okIf_of {b : Bool} {X Y : Kp} (h1 : b = true → X.p) (h2 : b = false → Y.p) : okIf b X Y := by
  cases b
  · exact h2 rfl
  · exact h1 rfl
theorem okIf_dec {p : Prop} [Decidable p] {X Y : Kp} (h1 : p → X.p) (h2 : ¬ p → Y.p) : okIf (decide p) X Y := by
  by_cases h : p
  · rw [decide_eq_true h]; exact h1 h
  · rw [decide_eq_false h]; exact h2 h
theorem Ok.out {o : Out α} {q : α → S → Prop} (h : Ok (K := ⟨q, noE⟩) o) : ∃ a s, o = .ok a s ∧ q a s := by
  cases o with
  | ok a s => exact ⟨a, s, rfl, h⟩
  | exc c f s => exact absurd h id
  | fail => exact absurd h id
theorem Ok.imp {o : Out α} {K' : Kn α} (h : Ok (K := K) o) (hq : ∀ a s, K.q a s → K'.q a s) (he : ∀ c f s, K.e c f s → K'.e c f s) : Ok (K := K') o := by
  cases o with
  | ok a s => exact hq a s h
  | exc c f s => exact he c f s h
  | fail => exact h
theorem ok_bind {o : Out β} {k : β → S → Out α} : Ok (o.bind k) = Ok (K := ⟨fun a s => Ok (k a s), K.e⟩) o := by
  cases o <;> (first | rfl | (simp only [Ok, OkS, okSm, okV, okVR, okO, okA, okJ, okB, okI, okStr, okC, okIf, okT, okP, Out.bind, Out.bindN, lift, kn_q, kn_e, kq_q, kp_p, ps_nx, ps_rt, ps_bk, ps_ct, ps_ex]; done) | (simp [Ok, OkS, okSm, okV, okVR, okO, okA, okJ, okB, okI, okStr, okC, okIf, okT, okP, Out.bind, Out.bindN, lift]; done))
theorem ok_lift {o : Option α} : Ok (lift o s) = okSm (K := ⟨fun d => K.q d s⟩) o := by cases o <;> (first | rfl | (simp only [Ok, OkS, okSm, okV, okVR, okO, okA, okJ, okB, okI, okStr, okC, okIf, okT, okP, Out.bind, Out.bindN, lift, kn_q, kn_e, kq_q, kp_p, ps_nx, ps_rt, ps_bk, ps_ct, ps_ex]; done) | (simp [Ok, OkS, okSm, okV, okVR, okO, okA, okJ, okB, okI, okStr, okC, okIf, okT, okP, Out.bind, Out.bindN, lift]; done))
theorem oks_eS {f : M β} {k : β → MS} : OkS (eS f k G s) = Ok (K := ⟨fun a s => OkS (k a G s), fun c fs s => P.ex c fs G s⟩) (f G s) := by
  unfold eS
  cases f G s <;> (first | rfl | (simp only [Ok, OkS, okSm, okV, okVR, okO, okA, okJ, okB, okI, okStr, okC, okIf, okT, okP, Out.bind, Out.bindN, lift, kn_q, kn_e, kq_q, kp_p, ps_nx, ps_rt, ps_bk, ps_ct, ps_ex]; done) | (simp [Ok, OkS, okSm, okV, okVR, okO, okA, okJ, okB, okI, okStr, okC, okIf, okT, okP, Out.bind, Out.bindN, lift]; done))
theorem oks_seq {f g : MS} : OkS (sSeq f g G s) = OkS (P := { P with nx := fun G s => OkS (P := P) (g G s) }) (f G s) := by
  unfold sSeq
  cases f G s <;> (first | rfl | (simp only [Ok, OkS, okSm, okV, okVR, okO, okA, okJ, okB, okI, okStr, okC, okIf, okT, okP, Out.bind, Out.bindN, lift, kn_q, kn_e, kq_q, kp_p, ps_nx, ps_rt, ps_bk, ps_ct, ps_ex]; done) | (simp [Ok, OkS, okSm, okV, okVR, okO, okA, okJ, okB, okI, okStr, okC, okIf, okT, okP, Out.bind, Out.bindN, lift]; done))
theorem oks_next : OkS (sNext G s) = P.nx G s := by first | rfl | (simp only [Ok, OkS, okSm, okV, okVR, okO, okA, okJ, okB, okI, okStr, okC, okIf, okT, okP, Out.bind, Out.bindN, lift, kn_q, kn_e, kq_q, kp_p, ps_nx, ps_rt, ps_bk, ps_ct, ps_ex]; done) | (simp [Ok, OkS, okSm, okV, okVR, okO, okA, okJ, okB, okI, okStr, okC, okIf, okT, okP, Out.bind, Out.bindN, lift]; done)
theorem oks_brk : OkS (sBrk G s) = P.bk G s := by first | rfl | (simp only [Ok, OkS, okSm, okV, okVR, okO, okA, okJ, okB, okI, okStr, okC, okIf, okT, okP, Out.bind, Out.bindN, lift, kn_q, kn_e, kq_q, kp_p, ps_nx, ps_rt, ps_bk, ps_ct, ps_ex]; done) | (simp [Ok, OkS, okSm, okV, okVR, okO, okA, okJ, okB, okI, okStr, okC, okIf, okT, okP, Out.bind, Out.bindN, lift]; done)
theorem oks_cnt : OkS (sCnt G s) = P.ct G s := by first | rfl | (simp only [Ok, OkS, okSm, okV, okVR, okO, okA, okJ, okB, okI, okStr, okC, okIf, okT, okP, Out.bind, Out.bindN, lift, kn_q, kn_e, kq_q, kp_p, ps_nx, ps_rt, ps_bk, ps_ct, ps_ex]; done) | (simp [Ok, OkS, okSm, okV, okVR, okO, okA, okJ, okB, okI, okStr, okC, okIf, okT, okP, Out.bind, Out.bindN, lift]; done)
theorem oks_drop {f : M D} : OkS (sDrop f G s) = Ok (K := ⟨fun _ s => P.nx G s, fun c fs s => P.ex c fs G s⟩) (f G s) := oks_eS
theorem oks_ret {f : M D} : OkS (sRet f G s) = Ok (K := ⟨fun d s => P.rt d s, fun c fs s => P.ex c fs G s⟩) (f G s) := oks_eS
theorem oks_retN : OkS (sRetN G s) = P.rt .non s := by first | rfl | (simp only [Ok, OkS, okSm, okV, okVR, okO, okA, okJ, okB, okI, okStr, okC, okIf, okT, okP, Out.bind, Out.bindN, lift, kn_q, kn_e, kq_q, kp_p, ps_nx, ps_rt, ps_bk, ps_ct, ps_ex]; done) | (simp [Ok, OkS, okSm, okV, okVR, okO, okA, okJ, okB, okI, okStr, okC, okIf, okT, okP, Out.bind, Out.bindN, lift]; done)
theorem oks_if {t : M Bool} {f g : MS} : OkS (sIf t f g G s) = Ok (K := ⟨fun b s => okIf b ⟨OkS (f G s)⟩ ⟨OkS (g G s)⟩, fun c fs s => P.ex c fs G s⟩) (t G s) := by
  unfold sIf
  rw [oks_eS]
  congr 2
  funext b s
  cases b <;> (first | rfl | (simp only [Ok, OkS, okSm, okV, okVR, okO, okA, okJ, okB, okI, okStr, okC, okIf, okT, okP, Out.bind, Out.bindN, lift, kn_q, kn_e, kq_q, kp_p, ps_nx, ps_rt, ps_bk, ps_ct, ps_ex]; done) | (simp [Ok, OkS, okSm, okV, okVR, okO, okA, okJ, okB, okI, okStr, okC, okIf, okT, okP, Out.bind, Out.bindN, lift]; done))
theorem oks_frz {i : Nat} {f : MS} : OkS (sFrz i f G s) = OkS (f (frzG i G) s) := by first | rfl | (simp only [Ok, OkS, okSm, okV, okVR, okO, okA, okJ, okB, okI, okStr, okC, okIf, okT, okP, Out.bind, Out.bindN, lift, kn_q, kn_e, kq_q, kp_p, ps_nx, ps_rt, ps_bk, ps_ct, ps_ex]; done) | (simp [Ok, OkS, okSm, okV, okVR, okO, okA, okJ, okB, okI, okStr, okC, okIf, okT, okP, Out.bind, Out.bindN, lift]; done)
theorem oks_set {i : Nat} {f : M D} : OkS (sSet i f G s) = Ok (K := ⟨fun d s => P.nx (G.set i (.val d)) s, fun c fs s => P.ex c fs G s⟩) (f G s) := oks_eS
theorem oks_setO {i : Nat} {f : M (List D)} : OkS (sSetO i f G s) = Ok (K := ⟨fun ds s => P.nx (G.set i (.own (.lst ds))) s, fun c fs s => P.ex c fs G s⟩) (f G s) := oks_eS
theorem oks_par {is : List Nat} {g : M (List Sl)} : OkS (sPar is g G s) = Ok (K := ⟨fun ls s => okT (X := ⟨P.nx (putS G is ls) s⟩) (decide (ls.length = is.length)), fun c fs s => P.ex c fs G s⟩) (g G s) := by
  unfold sPar
  rw [oks_eS]
  congr 2
  funext ls s
  by_cases h : ls.length = is.length
  · simp [h, oks_nx, okT]
  · simp [h, OkS, okT]
theorem oks_mut {i : Nat} {g : List D → D → S → Option (List D)} {f : M D} : OkS (sMut i g f G s) = okO (K := ⟨fun ds => Ok (K := ⟨fun d s => okSm (K := ⟨fun es => P.nx (G.set i (.own (.lst es))) s⟩) (g ds d s), fun c fs s => P.ex c fs G s⟩) (f G s)⟩) G[i]? := by
  unfold sMut
  cases h : G[i]? with
  | none => (first | rfl | (simp only [Ok, OkS, okSm, okV, okVR, okO, okA, okJ, okB, okI, okStr, okC, okIf, okT, okP, Out.bind, Out.bindN, lift, kn_q, kn_e, kq_q, kp_p, ps_nx, ps_rt, ps_bk, ps_ct, ps_ex]; done) | (simp [Ok, OkS, okSm, okV, okVR, okO, okA, okJ, okB, okI, okStr, okC, okIf, okT, okP, Out.bind, Out.bindN, lift]; done))
  | some z =>
    cases z with
    | own d =>
      cases d with
      | lst ds =>
        simp only [okO]
        rw [oks_eS]
        congr 2
        funext d s
        rw [h]
        simp only []
        cases g ds d s <;> (first | rfl | (simp only [Ok, OkS, okSm, okV, okVR, okO, okA, okJ, okB, okI, okStr, okC, okIf, okT, okP, Out.bind, Out.bindN, lift, kn_q, kn_e, kq_q, kp_p, ps_nx, ps_rt, ps_bk, ps_ct, ps_ex]; done) | (simp [Ok, OkS, okSm, okV, okVR, okO, okA, okJ, okB, okI, okStr, okC, okIf, okT, okP, Out.bind, Out.bindN, lift]; done))
      | _ => (first | rfl | (simp only [Ok, OkS, okSm, okV, okVR, okO, okA, okJ, okB, okI, okStr, okC, okIf, okT, okP, Out.bind, Out.bindN, lift, kn_q, kn_e, kq_q, kp_p, ps_nx, ps_rt, ps_bk, ps_ct, ps_ex]; done) | (simp [Ok, OkS, okSm, okV, okVR, okO, okA, okJ, okB, okI, okStr, okC, okIf, okT, okP, Out.bind, Out.bindN, lift]; done))
    | _ => (first | rfl | (simp only [Ok, OkS, okSm, okV, okVR, okO, okA, okJ, okB, okI, okStr, okC, okIf, okT, okP, Out.bind, Out.bindN, lift, kn_q, kn_e, kq_q, kp_p, ps_nx, ps_rt, ps_bk, ps_ct, ps_ex]; done) | (simp [Ok, OkS, okSm, okV, okVR, okO, okA, okJ, okB, okI, okStr, okC, okIf, okT, okP, Out.bind, Out.bindN, lift]; done))
theorem oks_app {i : Nat} {f : M D} : OkS (sApp i f G s) = okO (K := ⟨fun ds => Ok (K := ⟨fun d s => okT (X := ⟨P.nx (G.set i (.own (.lst (ds ++ [d])))) s⟩) (sz (ds.length + 1)), fun c fs s => P.ex c fs G s⟩) (f G s)⟩) G[i]? := by
  unfold sApp
  rw [oks_mut]
  congr 2
  funext ds
  congr 2
  funext d s
  unfold appG
  cases sz (ds.length + 1) <;> (first | rfl | (simp only [Ok, OkS, okSm, okV, okVR, okO, okA, okJ, okB, okI, okStr, okC, okIf, okT, okP, Out.bind, Out.bindN, lift, kn_q, kn_e, kq_q, kp_p, ps_nx, ps_rt, ps_bk, ps_ct, ps_ex]; done) | (simp [Ok, OkS, okSm, okV, okVR, okO, okA, okJ, okB, okI, okStr, okC, okIf, okT, okP, Out.bind, Out.bindN, lift]; done))
theorem oks_store {fo fi fe : M D} : OkS (sStore fo fi fe G s) = Ok (K := ⟨fun v s => Ok (K := ⟨fun a s => Ok (K := ⟨fun k s => okSm (K := ⟨fun s' => P.nx G s'⟩) (stD a k v s), fun c fs s => P.ex c fs G s⟩) (fi G s), fun c fs s => P.ex c fs G s⟩) (fo G s), fun c fs s => P.ex c fs G s⟩) (fe G s) := by
  unfold sStore
  rw [oks_eS, ok_bind]
  congr 2
  funext v s
  rw [ok_bind]
  congr 2
  funext a s
  rw [ok_bind]
  congr 2
  funext k s
  cases stD a k v s <;> (first | rfl | (simp only [Ok, OkS, okSm, okV, okVR, okO, okA, okJ, okB, okI, okStr, okC, okIf, okT, okP, Out.bind, Out.bindN, lift, kn_q, kn_e, kq_q, kp_p, ps_nx, ps_rt, ps_bk, ps_ct, ps_ex]; done) | (simp [Ok, OkS, okSm, okV, okVR, okO, okA, okJ, okB, okI, okStr, okC, okIf, okT, okP, Out.bind, Out.bindN, lift]; done))
theorem oks_fld {i : Nat} {c n : Str} {f : M D} : OkS (sFld i c n f G s) = Ok (K := ⟨fun d s => okJ (K := ⟨fun fs => P.nx (G.set i (.own (.obj c (fs ++ [(n, d)])))) s⟩) G[i]? c n, fun c fs s => P.ex c fs G s⟩) (f G s) := by
  unfold sFld
  rw [oks_eS]
  congr 2
  funext d s
  cases h : G[i]? with
  | none => (first | rfl | (simp only [Ok, OkS, okSm, okV, okVR, okO, okA, okJ, okB, okI, okStr, okC, okIf, okT, okP, Out.bind, Out.bindN, lift, kn_q, kn_e, kq_q, kp_p, ps_nx, ps_rt, ps_bk, ps_ct, ps_ex]; done) | (simp [Ok, OkS, okSm, okV, okVR, okO, okA, okJ, okB, okI, okStr, okC, okIf, okT, okP, Out.bind, Out.bindN, lift]; done))
  | some z =>
    cases z with
    | un => (first | rfl | (simp only [Ok, OkS, okSm, okV, okVR, okO, okA, okJ, okB, okI, okStr, okC, okIf, okT, okP, Out.bind, Out.bindN, lift, kn_q, kn_e, kq_q, kp_p, ps_nx, ps_rt, ps_bk, ps_ct, ps_ex]; done) | (simp [Ok, OkS, okSm, okV, okVR, okO, okA, okJ, okB, okI, okStr, okC, okIf, okT, okP, Out.bind, Out.bindN, lift]; done))
    | val d => (first | rfl | (simp only [Ok, OkS, okSm, okV, okVR, okO, okA, okJ, okB, okI, okStr, okC, okIf, okT, okP, Out.bind, Out.bindN, lift, kn_q, kn_e, kq_q, kp_p, ps_nx, ps_rt, ps_bk, ps_ct, ps_ex]; done) | (simp [Ok, OkS, okSm, okV, okVR, okO, okA, okJ, okB, okI, okStr, okC, okIf, okT, okP, Out.bind, Out.bindN, lift]; done))
    | own d =>
      cases d with
      | obj c' fs =>
        simp only [okJ]
        by_cases h2 : c' = c ∧ n ∉ fs.map (·.1) ∧ fs.length < 1000
        · rw [if_pos h2]
          obtain ⟨rfl, h3, h4⟩ := h2
          simp only [OkS, eq_iff_iff]
          exact ⟨fun q => ⟨⟨trivial, h3, h4⟩, q⟩, fun q => q.2⟩
        · rw [if_neg h2]
          simp only [OkS, eq_iff_iff, false_iff]
          exact fun q => h2 q.1
      | _ => (first | rfl | (simp only [Ok, OkS, okSm, okV, okVR, okO, okA, okJ, okB, okI, okStr, okC, okIf, okT, okP, Out.bind, Out.bindN, lift, kn_q, kn_e, kq_q, kp_p, ps_nx, ps_rt, ps_bk, ps_ct, ps_ex]; done) | (simp [Ok, OkS, okSm, okV, okVR, okO, okA, okJ, okB, okI, okStr, okC, okIf, okT, okP, Out.bind, Out.bindN, lift]; done))
theorem oks_aug {i : Nat} {g : D → D → S → Out D} {f : M D} : OkS (sAug i g f G s) = okA (K := ⟨fun a => Ok (K := ⟨fun b s => Ok (K := ⟨fun d s => P.nx (G.set i (.val d)) s, fun c fs s => P.ex c fs G s⟩) (g a b s), fun c fs s => P.ex c fs G s⟩) (f G s)⟩) G[i]? := by
  unfold sAug
  cases h : G[i]? with
  | none => (first | rfl | (simp only [Ok, OkS, okSm, okV, okVR, okO, okA, okJ, okB, okI, okStr, okC, okIf, okT, okP, Out.bind, Out.bindN, lift, kn_q, kn_e, kq_q, kp_p, ps_nx, ps_rt, ps_bk, ps_ct, ps_ex]; done) | (simp [Ok, OkS, okSm, okV, okVR, okO, okA, okJ, okB, okI, okStr, okC, okIf, okT, okP, Out.bind, Out.bindN, lift]; done))
  | some z =>
    cases z with
    | val a =>
      simp only [okA]
      rw [oks_eS, ok_bind]
      first | rfl | (simp only [Ok, OkS, okSm, okV, okVR, okO, okA, okJ, okB, okI, okStr, okC, okIf, okT, okP, Out.bind, Out.bindN, lift, kn_q, kn_e, kq_q, kp_p, ps_nx, ps_rt, ps_bk, ps_ct, ps_ex]; done) | (simp [Ok, OkS, okSm, okV, okVR, okO, okA, okJ, okB, okI, okStr, okC, okIf, okT, okP, Out.bind, Out.bindN, lift]; done)
    | _ => (first | rfl | (simp only [Ok, OkS, okSm, okV, okVR, okO, okA, okJ, okB, okI, okStr, okC, okIf, okT, okP, Out.bind, Out.bindN, lift, kn_q, kn_e, kq_q, kp_p, ps_nx, ps_rt, ps_bk, ps_ct, ps_ex]; done) | (simp [Ok, OkS, okSm, okV, okVR, okO, okA, okJ, okB, okI, okStr, okC, okIf, okT, okP, Out.bind, Out.bindN, lift]; done))
theorem oks_for {it : M (List D)} {tg : D → List Sl → Option (List Sl)} {b : MS} : OkS (sFor it tg b G s) = Ok (K := ⟨fun ds s => OkS (forL tg b ds G s), fun c fs s => P.ex c fs G s⟩) (it G s) := oks_eS
theorem oks_for0 {tg : D → List Sl → Option (List Sl)} {b : MS} : OkS (forL tg b [] G s) = P.nx G s := rfl
theorem oks_for1 {tg : D → List Sl → Option (List Sl)} {b : MS} {d : D} {ds : List D} : OkS (forL tg b (d :: ds) G s) = okSm (K := ⟨fun G => OkS (P := { P with nx := fun G s => OkS (P := P) (forL tg b ds G s), ct := fun G s => OkS (P := P) (forL tg b ds G s), bk := P.nx }) (b G s)⟩) (tg d G) := by
  simp only [forL]
  cases tg d G with
  | none => (first | rfl | (simp only [Ok, OkS, okSm, okV, okVR, okO, okA, okJ, okB, okI, okStr, okC, okIf, okT, okP, Out.bind, Out.bindN, lift, kn_q, kn_e, kq_q, kp_p, ps_nx, ps_rt, ps_bk, ps_ct, ps_ex]; done) | (simp [Ok, OkS, okSm, okV, okVR, okO, okA, okJ, okB, okI, okStr, okC, okIf, okT, okP, Out.bind, Out.bindN, lift]; done))
  | some G1 =>
    simp only [okSm]
    cases b G1 s <;> (first | rfl | (simp only [Ok, OkS, okSm, okV, okVR, okO, okA, okJ, okB, okI, okStr, okC, okIf, okT, okP, Out.bind, Out.bindN, lift, kn_q, kn_e, kq_q, kp_p, ps_nx, ps_rt, ps_bk, ps_ct, ps_ex]; done) | (simp [Ok, OkS, okSm, okV, okVR, okO, okA, okJ, okB, okI, okStr, okC, okIf, okT, okP, Out.bind, Out.bindN, lift]; done))
end
section
variable {s : S} {G : List Sl} {K : Kn D} {L : Kn (List D)} {B : Kn Bool}
theorem ok_var {i : Nat} : Ok (xVar i G s) = okV (K := ⟨fun d => K.q d s⟩) G[i]? := by
  unfold xVar
  cases h : G[i]? with
  | none => (first | rfl | (simp only [Ok, OkS, okSm, okV, okVR, okO, okA, okJ, okB, okI, okStr, okC, okIf, okT, okP, Out.bind, Out.bindN, lift, kn_q, kn_e, kq_q, kp_p, ps_nx, ps_rt, ps_bk, ps_ct, ps_ex]; done) | (simp [Ok, OkS, okSm, okV, okVR, okO, okA, okJ, okB, okI, okStr, okC, okIf, okT, okP, Out.bind, Out.bindN, lift]; done))
  | some z =>
    cases z with
    | own d => cases d <;> (first | rfl | (simp only [Ok, OkS, okSm, okV, okVR, okO, okA, okJ, okB, okI, okStr, okC, okIf, okT, okP, Out.bind, Out.bindN, lift, kn_q, kn_e, kq_q, kp_p, ps_nx, ps_rt, ps_bk, ps_ct, ps_ex]; done) | (simp [Ok, OkS, okSm, okV, okVR, okO, okA, okJ, okB, okI, okStr, okC, okIf, okT, okP, Out.bind, Out.bindN, lift]; done))
    | _ => (first | rfl | (simp only [Ok, OkS, okSm, okV, okVR, okO, okA, okJ, okB, okI, okStr, okC, okIf, okT, okP, Out.bind, Out.bindN, lift, kn_q, kn_e, kq_q, kp_p, ps_nx, ps_rt, ps_bk, ps_ct, ps_ex]; done) | (simp [Ok, OkS, okSm, okV, okVR, okO, okA, okJ, okB, okI, okStr, okC, okIf, okT, okP, Out.bind, Out.bindN, lift]; done))
theorem ok_varR {i : Nat} : Ok (xVarR i G s) = okVR (K := ⟨fun d => K.q d s⟩) G[i]? := by
  unfold xVarR
  cases h : G[i]? with
  | none => (first | rfl | (simp only [Ok, OkS, okSm, okV, okVR, okO, okA, okJ, okB, okI, okStr, okC, okIf, okT, okP, Out.bind, Out.bindN, lift, kn_q, kn_e, kq_q, kp_p, ps_nx, ps_rt, ps_bk, ps_ct, ps_ex]; done) | (simp [Ok, OkS, okSm, okV, okVR, okO, okA, okJ, okB, okI, okStr, okC, okIf, okT, okP, Out.bind, Out.bindN, lift]; done))
  | some z => cases z <;> (first | rfl | (simp only [Ok, OkS, okSm, okV, okVR, okO, okA, okJ, okB, okI, okStr, okC, okIf, okT, okP, Out.bind, Out.bindN, lift, kn_q, kn_e, kq_q, kp_p, ps_nx, ps_rt, ps_bk, ps_ct, ps_ex]; done) | (simp [Ok, OkS, okSm, okV, okVR, okO, okA, okJ, okB, okI, okStr, okC, okIf, okT, okP, Out.bind, Out.bindN, lift]; done))
theorem ok_c {d : D} : Ok (xC d G s) = K.q d s := by first | rfl | (simp only [Ok, OkS, okSm, okV, okVR, okO, okA, okJ, okB, okI, okStr, okC, okIf, okT, okP, Out.bind, Out.bindN, lift, kn_q, kn_e, kq_q, kp_p, ps_nx, ps_rt, ps_bk, ps_ct, ps_ex]; done) | (simp [Ok, OkS, okSm, okV, okVR, okO, okA, okJ, okB, okI, okStr, okC, okIf, okT, okP, Out.bind, Out.bindN, lift]; done)
theorem ok_bin {g : D → D → S → Out D} {fa fb : M D} : Ok (xBin g fa fb G s) = Ok (K := ⟨fun a s => Ok (K := ⟨fun b s => Ok (g a b s), K.e⟩) (fb G s), K.e⟩) (fa G s) := by
  unfold xBin
  rw [ok_bind]
  congr 2
  funext a s
  rw [ok_bind]
theorem ok_test {f : M D} : Ok (K := B) (xTest f G s) = Ok (K := ⟨fun d s => okB (K := ⟨fun b => B.q b s⟩) d, B.e⟩) (f G s) := by
  unfold xTest
  rw [ok_bind]
  congr 2
  funext d s
  cases d <;> (first | rfl | (simp only [Ok, OkS, okSm, okV, okVR, okO, okA, okJ, okB, okI, okStr, okC, okIf, okT, okP, Out.bind, Out.bindN, lift, kn_q, kn_e, kq_q, kp_p, ps_nx, ps_rt, ps_bk, ps_ct, ps_ex]; done) | (simp [Ok, OkS, okSm, okV, okVR, okO, okA, okJ, okB, okI, okStr, okC, okIf, okT, okP, Out.bind, Out.bindN, lift]; done))
theorem ok_tnot {f : M Bool} : Ok (K := B) (yNot f G s) = Ok (K := ⟨fun b s => B.q (!b) s, B.e⟩) (f G s) := by
  unfold yNot
  rw [ok_bind]
  first | rfl | (simp only [Ok, OkS, okSm, okV, okVR, okO, okA, okJ, okB, okI, okStr, okC, okIf, okT, okP, Out.bind, Out.bindN, lift, kn_q, kn_e, kq_q, kp_p, ps_nx, ps_rt, ps_bk, ps_ct, ps_ex]; done) | (simp [Ok, OkS, okSm, okV, okVR, okO, okA, okJ, okB, okI, okStr, okC, okIf, okT, okP, Out.bind, Out.bindN, lift]; done)
theorem ok_yes : Ok (K := B) (yYes G s) = B.q true s := by first | rfl | (simp only [Ok, OkS, okSm, okV, okVR, okO, okA, okJ, okB, okI, okStr, okC, okIf, okT, okP, Out.bind, Out.bindN, lift, kn_q, kn_e, kq_q, kp_p, ps_nx, ps_rt, ps_bk, ps_ct, ps_ex]; done) | (simp [Ok, OkS, okSm, okV, okVR, okO, okA, okJ, okB, okI, okStr, okC, okIf, okT, okP, Out.bind, Out.bindN, lift]; done)
theorem ok_tand {f g : M Bool} : Ok (K := B) (yAnd f g G s) = Ok (K := ⟨fun b s => okIf b ⟨Ok (g G s)⟩ ⟨B.q false s⟩, B.e⟩) (f G s) := by
  unfold yAnd
  rw [ok_bind]
  congr 2
  funext b s
  cases b <;> (first | rfl | (simp only [Ok, OkS, okSm, okV, okVR, okO, okA, okJ, okB, okI, okStr, okC, okIf, okT, okP, Out.bind, Out.bindN, lift, kn_q, kn_e, kq_q, kp_p, ps_nx, ps_rt, ps_bk, ps_ct, ps_ex]; done) | (simp [Ok, OkS, okSm, okV, okVR, okO, okA, okJ, okB, okI, okStr, okC, okIf, okT, okP, Out.bind, Out.bindN, lift]; done))
theorem ok_tor {f g : M Bool} : Ok (K := B) (yOr f g G s) = Ok (K := ⟨fun b s => okIf b ⟨B.q true s⟩ ⟨Ok (g G s)⟩, B.e⟩) (f G s) := by
  unfold yOr
  rw [ok_bind]
  congr 2
  funext b s
  cases b <;> (first | rfl | (simp only [Ok, OkS, okSm, okV, okVR, okO, okA, okJ, okB, okI, okStr, okC, okIf, okT, okP, Out.bind, Out.bindN, lift, kn_q, kn_e, kq_q, kp_p, ps_nx, ps_rt, ps_bk, ps_ct, ps_ex]; done) | (simp [Ok, OkS, okSm, okV, okVR, okO, okA, okJ, okB, okI, okStr, okC, okIf, okT, okP, Out.bind, Out.bindN, lift]; done))
theorem ok_call {g : List D → S → Option D} {fl : M (List D)} : Ok (xCall g fl G s) = Ok (K := ⟨fun ds s => okSm (K := ⟨fun d => K.q d s⟩) (g ds s), K.e⟩) (fl G s) := by
  unfold xCall
  rw [ok_bind]
  congr 2
  funext ds s
  rw [ok_lift]
theorem ok_fn {F : List D → S → Out D} {fl : M (List D)} : Ok (xFn F fl G s) = Ok (K := ⟨fun ds s => Ok (F ds s), K.e⟩) (fl G s) := by
  unfold xFn
  rw [ok_bind]
theorem ok_mkF {c : Str} {F : List D → S → Out (List (Str × D))} {ds : List D} : Ok (mkF c F ds s) = Ok (K := ⟨fun fs s => K.q (.obj c fs) s, K.e⟩) (F ds s) := by
  unfold mkF
  rw [ok_bind]
  first | rfl | (simp only [Ok, OkS, okSm, okV, okVR, okO, okA, okJ, okB, okI, okStr, okC, okIf, okT, okP, Out.bind, Out.bindN, lift, kn_q, kn_e, kq_q, kp_p, ps_nx, ps_rt, ps_bk, ps_ct, ps_ex]; done) | (simp [Ok, OkS, okSm, okV, okVR, okO, okA, okJ, okB, okI, okStr, okC, okIf, okT, okP, Out.bind, Out.bindN, lift]; done)
theorem ok_nil : Ok (K := L) (xNil G s) = L.q [] s := by first | rfl | (simp only [Ok, OkS, okSm, okV, okVR, okO, okA, okJ, okB, okI, okStr, okC, okIf, okT, okP, Out.bind, Out.bindN, lift, kn_q, kn_e, kq_q, kp_p, ps_nx, ps_rt, ps_bk, ps_ct, ps_ex]; done) | (simp [Ok, OkS, okSm, okV, okVR, okO, okA, okJ, okB, okI, okStr, okC, okIf, okT, okP, Out.bind, Out.bindN, lift]; done)
theorem ok_cons {f : M D} {g : M (List D)} : Ok (K := L) (xCons f g G s) = Ok (K := ⟨fun d s => Ok (K := ⟨fun ds s => L.q (d :: ds) s, L.e⟩) (g G s), L.e⟩) (f G s) := by
  unfold xCons
  rw [ok_bind]
  congr 2
  funext a s
  rw [ok_bind]
  first | rfl | (simp only [Ok, OkS, okSm, okV, okVR, okO, okA, okJ, okB, okI, okStr, okC, okIf, okT, okP, Out.bind, Out.bindN, lift, kn_q, kn_e, kq_q, kp_p, ps_nx, ps_rt, ps_bk, ps_ct, ps_ex]; done) | (simp [Ok, OkS, okSm, okV, okVR, okO, okA, okJ, okB, okI, okStr, okC, okIf, okT, okP, Out.bind, Out.bindN, lift]; done)
theorem ok_attr {n : Str} {f : M D} : Ok (xAttr n f G s) = Ok (K := ⟨fun d s => okSm (K := ⟨fun d => K.q d s⟩) (atD n d), K.e⟩) (f G s) := by
  unfold xAttr
  rw [ok_bind]
  congr 2
  funext ds s
  rw [ok_lift]
theorem ok_meth {c : Str} {F : List D → S → Out D} {fa : M D} {fl : M (List D)} : Ok (xMeth c F fa fl G s) = Ok (K := ⟨fun d s => okC (K := ⟨fun fs => Ok (K := ⟨fun ds s => Ok (F (.obj c fs :: ds) s), K.e⟩) (fl G s)⟩) d c, K.e⟩) (fa G s) := by
  unfold xMeth
  rw [ok_bind]
  congr 2
  funext d s
  cases d with
  | obj c' fs =>
    by_cases h : c' = c
    · subst h
      simp [ok_bind, okC]
    · simp [h, Ok, okC]
  | _ => (first | rfl | (simp only [Ok, OkS, okSm, okV, okVR, okO, okA, okJ, okB, okI, okStr, okC, okIf, okT, okP, Out.bind, Out.bindN, lift, kn_q, kn_e, kq_q, kp_p, ps_nx, ps_rt, ps_bk, ps_ct, ps_ex]; done) | (simp [Ok, OkS, okSm, okV, okVR, okO, okA, okJ, okB, okI, okStr, okC, okIf, okT, okP, Out.bind, Out.bindN, lift]; done))
theorem ok_xif {t : M Bool} {f g : M D} : Ok (xIf t f g G s) = Ok (K := ⟨fun b s => okIf b ⟨Ok (f G s)⟩ ⟨Ok (g G s)⟩, K.e⟩) (t G s) := by
  unfold xIf
  rw [ok_bind]
  congr 2
  funext b s
  cases b <;> (first | rfl | (simp only [Ok, OkS, okSm, okV, okVR, okO, okA, okJ, okB, okI, okStr, okC, okIf, okT, okP, Out.bind, Out.bindN, lift, kn_q, kn_e, kq_q, kp_p, ps_nx, ps_rt, ps_bk, ps_ct, ps_ex]; done) | (simp [Ok, OkS, okSm, okV, okVR, okO, okA, okJ, okB, okI, okStr, okC, okIf, okT, okP, Out.bind, Out.bindN, lift]; done))
theorem ok_seqI {f : M D} : Ok (K := L) (xSeq f G s) = Ok (K := ⟨fun d s => okSm (K := ⟨fun d => L.q d s⟩) (seqD d), L.e⟩) (f G s) := by
  unfold xSeq
  rw [ok_bind]
  congr 2
  funext ds s
  rw [ok_lift]
theorem ok_enum {f : M D} : Ok (K := L) (xEnum f G s) = Ok (K := ⟨fun d s => okSm (K := ⟨fun d => L.q d s⟩) (enumD d), L.e⟩) (f G s) := by
  unfold xEnum
  rw [ok_bind]
  congr 2
  funext ds s
  rw [ok_lift]
theorem ok_rng1 {f : M (List D)} : Ok (K := L) (xRng1 f G s) = Ok (K := ⟨fun d s => okSm (K := ⟨fun d => L.q d s⟩) (rngD1 d), L.e⟩) (f G s) := by
  unfold xRng1
  rw [ok_bind]
  congr 2
  funext ds s
  rw [ok_lift]
theorem ok_rng2 {f : M (List D)} : Ok (K := L) (xRng2 f G s) = Ok (K := ⟨fun d s => okSm (K := ⟨fun d => L.q d s⟩) (rngD2 d), L.e⟩) (f G s) := by
  unfold xRng2
  rw [ok_bind]
  congr 2
  funext ds s
  rw [ok_lift]
theorem ok_loc {f : M (List D)} : Ok (xLoc f G s) = Ok (K := ⟨fun ds s => K.q (.loc s.nx) (addLoc s (.lst ds)), K.e⟩) (f G s) := by
  unfold xLoc
  rw [ok_bind]
  first | rfl | (simp only [Ok, OkS, okSm, okV, okVR, okO, okA, okJ, okB, okI, okStr, okC, okIf, okT, okP, Out.bind, Out.bindN, lift, kn_q, kn_e, kq_q, kp_p, ps_nx, ps_rt, ps_bk, ps_ct, ps_ex]; done) | (simp [Ok, OkS, okSm, okV, okVR, okO, okA, okJ, okB, okI, okStr, okC, okIf, okT, okP, Out.bind, Out.bindN, lift]; done)
theorem ok_lc {it : M (List D)} {vs : List Nat} {tg : D → List Sl → Option (List Sl)} {t : M Bool} {e : M D} : Ok (K := L) (xLc it vs tg t e G s) = Ok (K := ⟨fun ds s => okT (X := ⟨Ok (lcL tg t e (wipeG G vs) ds s)⟩) (sz ds.length), L.e⟩) (it G s) := by
  unfold xLc
  rw [ok_bind]
  congr 2
  funext ds s
  cases h : sz ds.length <;> (first | rfl | (simp only [Ok, OkS, okSm, okV, okVR, okO, okA, okJ, okB, okI, okStr, okC, okIf, okT, okP, Out.bind, Out.bindN, lift, kn_q, kn_e, kq_q, kp_p, ps_nx, ps_rt, ps_bk, ps_ct, ps_ex]; done) | (simp [Ok, OkS, okSm, okV, okVR, okO, okA, okJ, okB, okI, okStr, okC, okIf, okT, okP, Out.bind, Out.bindN, lift]; done))
theorem ok_neg {f : M D} : Ok (xNeg f G s) = Ok (K := ⟨fun d s => okI (K := ⟨fun i => K.q (.int (-i)) s⟩) d, K.e⟩) (f G s) := by
  unfold xNeg
  rw [ok_bind]
  congr 2
  funext d s
  cases d <;> (first | rfl | (simp only [Ok, OkS, okSm, okV, okVR, okO, okA, okJ, okB, okI, okStr, okC, okIf, okT, okP, Out.bind, Out.bindN, lift, kn_q, kn_e, kq_q, kp_p, ps_nx, ps_rt, ps_bk, ps_ct, ps_ex]; done) | (simp [Ok, OkS, okSm, okV, okVR, okO, okA, okJ, okB, okI, okStr, okC, okIf, okT, okP, Out.bind, Out.bindN, lift]; done))
theorem ok_no {L : Kn (Option Int)} : Ok (xNo G s) = L.q none s := by first | rfl | (simp only [Ok, OkS, okSm, okV, okVR, okO, okA, okJ, okB, okI, okStr, okC, okIf, okT, okP, Out.bind, Out.bindN, lift, kn_q, kn_e, kq_q, kp_p, ps_nx, ps_rt, ps_bk, ps_ct, ps_ex]; done) | (simp [Ok, OkS, okSm, okV, okVR, okO, okA, okJ, okB, okI, okStr, okC, okIf, okT, okP, Out.bind, Out.bindN, lift]; done)
theorem ok_part {L : Kn (Option Int)} {f : M D} : Ok (xPart f G s) = Ok (K := ⟨fun d s => okI (K := ⟨fun i => L.q (some i) s⟩) d, L.e⟩) (f G s) := by
  unfold xPart
  rw [ok_bind]
  congr 2
  funext d s
  cases d <;> (first | rfl | (simp only [Ok, OkS, okSm, okV, okVR, okO, okA, okJ, okB, okI, okStr, okC, okIf, okT, okP, Out.bind, Out.bindN, lift, kn_q, kn_e, kq_q, kp_p, ps_nx, ps_rt, ps_bk, ps_ct, ps_ex]; done) | (simp [Ok, OkS, okSm, okV, okVR, okO, okA, okJ, okB, okI, okStr, okC, okIf, okT, okP, Out.bind, Out.bindN, lift]; done))
theorem ok_sl {f : M D} {l h : M (Option Int)} : Ok (xSl f l h G s) = Ok (K := ⟨fun d s => Ok (K := ⟨fun i s => Ok (K := ⟨fun j s => okSm (K := ⟨fun d => K.q d s⟩) (slD d i j), K.e⟩) (h G s), K.e⟩) (l G s), K.e⟩) (f G s) := by
  unfold xSl
  rw [ok_bind]
  congr 2
  funext d s
  rw [ok_bind]
  congr 2
  funext d s
  rw [ok_bind]
  congr 2
  funext d s
  rw [ok_lift]
theorem ok_xsNil {L : Kn (List Sl)} : Ok (xsNil G s) = L.q [] s := by first | rfl | (simp only [Ok, OkS, okSm, okV, okVR, okO, okA, okJ, okB, okI, okStr, okC, okIf, okT, okP, Out.bind, Out.bindN, lift, kn_q, kn_e, kq_q, kp_p, ps_nx, ps_rt, ps_bk, ps_ct, ps_ex]; done) | (simp [Ok, OkS, okSm, okV, okVR, okO, okA, okJ, okB, okI, okStr, okC, okIf, okT, okP, Out.bind, Out.bindN, lift]; done)
theorem ok_xsV {L : Kn (List Sl)} {f : M D} {g : M (List Sl)} : Ok (xsV f g G s) = Ok (K := ⟨fun d s => Ok (K := ⟨fun ls s => L.q (.val d :: ls) s, L.e⟩) (g G s), L.e⟩) (f G s) := by
  unfold xsV
  rw [ok_bind]
  congr 2
  funext a s
  rw [ok_bind]
  first | rfl | (simp only [Ok, OkS, okSm, okV, okVR, okO, okA, okJ, okB, okI, okStr, okC, okIf, okT, okP, Out.bind, Out.bindN, lift, kn_q, kn_e, kq_q, kp_p, ps_nx, ps_rt, ps_bk, ps_ct, ps_ex]; done) | (simp [Ok, OkS, okSm, okV, okVR, okO, okA, okJ, okB, okI, okStr, okC, okIf, okT, okP, Out.bind, Out.bindN, lift]; done)
theorem ok_xsO {L : Kn (List Sl)} {f : M (List D)} {g : M (List Sl)} : Ok (xsO f g G s) = Ok (K := ⟨fun d s => Ok (K := ⟨fun ls s => L.q (.own (.lst d) :: ls) s, L.e⟩) (g G s), L.e⟩) (f G s) := by
  unfold xsO
  rw [ok_bind]
  congr 2
  funext a s
  rw [ok_bind]
  first | rfl | (simp only [Ok, OkS, okSm, okV, okVR, okO, okA, okJ, okB, okI, okStr, okC, okIf, okT, okP, Out.bind, Out.bindN, lift, kn_q, kn_e, kq_q, kp_p, ps_nx, ps_rt, ps_bk, ps_ct, ps_ex]; done) | (simp [Ok, OkS, okSm, okV, okVR, okO, okA, okJ, okB, okI, okStr, okC, okIf, okT, okP, Out.bind, Out.bindN, lift]; done)
theorem ok_xnot {f : M D} : Ok (xNot f G s) = Ok (K := ⟨fun d s => okB (K := ⟨fun b => K.q (.bl (!b)) s⟩) d, K.e⟩) (f G s) := by
  unfold xNot
  rw [ok_bind]
  congr 2
  funext d s
  cases d <;> (first | rfl | (simp only [Ok, OkS, okSm, okV, okVR, okO, okA, okJ, okB, okI, okStr, okC, okIf, okT, okP, Out.bind, Out.bindN, lift, kn_q, kn_e, kq_q, kp_p, ps_nx, ps_rt, ps_bk, ps_ct, ps_ex]; done) | (simp [Ok, OkS, okSm, okV, okVR, okO, okA, okJ, okB, okI, okStr, okC, okIf, okT, okP, Out.bind, Out.bindN, lift]; done))
theorem ok_xand {f g : M D} : Ok (xAnd f g G s) = Ok (K := ⟨fun d s => okB (K := ⟨fun b => okIf b ⟨Ok (g G s)⟩ ⟨K.q (.bl false) s⟩⟩) d, K.e⟩) (f G s) := by
  unfold xAnd
  rw [ok_bind]
  congr 2
  funext d s
  cases d with
  | bl b => cases b <;> (first | rfl | (simp only [Ok, OkS, okSm, okV, okVR, okO, okA, okJ, okB, okI, okStr, okC, okIf, okT, okP, Out.bind, Out.bindN, lift, kn_q, kn_e, kq_q, kp_p, ps_nx, ps_rt, ps_bk, ps_ct, ps_ex]; done) | (simp [Ok, OkS, okSm, okV, okVR, okO, okA, okJ, okB, okI, okStr, okC, okIf, okT, okP, Out.bind, Out.bindN, lift]; done))
  | _ => (first | rfl | (simp only [Ok, OkS, okSm, okV, okVR, okO, okA, okJ, okB, okI, okStr, okC, okIf, okT, okP, Out.bind, Out.bindN, lift, kn_q, kn_e, kq_q, kp_p, ps_nx, ps_rt, ps_bk, ps_ct, ps_ex]; done) | (simp [Ok, OkS, okSm, okV, okVR, okO, okA, okJ, okB, okI, okStr, okC, okIf, okT, okP, Out.bind, Out.bindN, lift]; done))
theorem ok_xor {f g : M D} : Ok (xOr f g G s) = Ok (K := ⟨fun d s => okB (K := ⟨fun b => okIf b ⟨K.q (.bl true) s⟩ ⟨Ok (g G s)⟩⟩) d, K.e⟩) (f G s) := by
  unfold xOr
  rw [ok_bind]
  congr 2
  funext d s
  cases d with
  | bl b => cases b <;> (first | rfl | (simp only [Ok, OkS, okSm, okV, okVR, okO, okA, okJ, okB, okI, okStr, okC, okIf, okT, okP, Out.bind, Out.bindN, lift, kn_q, kn_e, kq_q, kp_p, ps_nx, ps_rt, ps_bk, ps_ct, ps_ex]; done) | (simp [Ok, OkS, okSm, okV, okVR, okO, okA, okJ, okB, okI, okStr, okC, okIf, okT, okP, Out.bind, Out.bindN, lift]; done))
  | _ => (first | rfl | (simp only [Ok, OkS, okSm, okV, okVR, okO, okA, okJ, okB, okI, okStr, okC, okIf, okT, okP, Out.bind, Out.bindN, lift, kn_q, kn_e, kq_q, kp_p, ps_nx, ps_rt, ps_bk, ps_ct, ps_ex]; done) | (simp [Ok, OkS, okSm, okV, okVR, okO, okA, okJ, okB, okI, okStr, okC, okIf, okT, okP, Out.bind, Out.bindN, lift]; done))
theorem ok_lst {f : M (List D)} : Ok (xLst f G s) = Ok (K := ⟨fun ds s => K.q (.lst ds) s, K.e⟩) (f G s) := by
  unfold xLst
  rw [ok_bind]
  first | rfl | (simp only [Ok, OkS, okSm, okV, okVR, okO, okA, okJ, okB, okI, okStr, okC, okIf, okT, okP, Out.bind, Out.bindN, lift, kn_q, kn_e, kq_q, kp_p, ps_nx, ps_rt, ps_bk, ps_ct, ps_ex]; done) | (simp [Ok, OkS, okSm, okV, okVR, okO, okA, okJ, okB, okI, okStr, okC, okIf, okT, okP, Out.bind, Out.bindN, lift]; done)
theorem ok_tup {f : M (List D)} : Ok (xTup f G s) = Ok (K := ⟨fun ds s => K.q (.tup ds) s, K.e⟩) (f G s) := by
  unfold xTup
  rw [ok_bind]
  first | rfl | (simp only [Ok, OkS, okSm, okV, okVR, okO, okA, okJ, okB, okI, okStr, okC, okIf, okT, okP, Out.bind, Out.bindN, lift, kn_q, kn_e, kq_q, kp_p, ps_nx, ps_rt, ps_bk, ps_ct, ps_ex]; done) | (simp [Ok, OkS, okSm, okV, okVR, okO, okA, okJ, okB, okI, okStr, okC, okIf, okT, okP, Out.bind, Out.bindN, lift]; done)
theorem ok_sz {f : M (List D)} : Ok (K := L) (xSz f G s) = Ok (K := ⟨fun ds s => okT (X := ⟨L.q ds s⟩) (sz ds.length), L.e⟩) (f G s) := by
  unfold xSz
  rw [ok_bind]
  congr 2
  funext ds s
  cases h : sz ds.length <;> (first | rfl | (simp only [Ok, OkS, okSm, okV, okVR, okO, okA, okJ, okB, okI, okStr, okC, okIf, okT, okP, Out.bind, Out.bindN, lift, kn_q, kn_e, kq_q, kp_p, ps_nx, ps_rt, ps_bk, ps_ct, ps_ex]; done) | (simp [Ok, OkS, okSm, okV, okVR, okO, okA, okJ, okB, okI, okStr, okC, okIf, okT, okP, Out.bind, Out.bindN, lift]; done))
theorem ok_chain {g g' : D → D → S → Out D} {fa fb fc : M D} : Ok (xChain g g' fa fb fc G s) = Ok (K := ⟨fun a s => Ok (K := ⟨fun b s => Ok (K := ⟨fun k s => okB (K := ⟨fun k => okIf k ⟨Ok (K := ⟨fun c s => Ok (g' b c s), K.e⟩) (fc G s)⟩ ⟨K.q (.bl false) s⟩⟩) k, K.e⟩) (g a b s), K.e⟩) (fb G s), K.e⟩) (fa G s) := by
  unfold xChain
  rw [ok_bind]
  congr 2
  funext a s
  rw [ok_bind]
  congr 2
  funext b s
  rw [ok_bind]
  congr 2
  funext k s
  cases k with
  | bl k =>
    cases k
    · first | rfl | (simp only [Ok, OkS, okSm, okV, okVR, okO, okA, okJ, okB, okI, okStr, okC, okIf, okT, okP, Out.bind, Out.bindN, lift, kn_q, kn_e, kq_q, kp_p, ps_nx, ps_rt, ps_bk, ps_ct, ps_ex]; done) | (simp [Ok, OkS, okSm, okV, okVR, okO, okA, okJ, okB, okI, okStr, okC, okIf, okT, okP, Out.bind, Out.bindN, lift]; done)
    · simp only [okB, okIf]
      rw [ok_bind]
  | _ => (first | rfl | (simp only [Ok, OkS, okSm, okV, okVR, okO, okA, okJ, okB, okI, okStr, okC, okIf, okT, okP, Out.bind, Out.bindN, lift, kn_q, kn_e, kq_q, kp_p, ps_nx, ps_rt, ps_bk, ps_ct, ps_ex]; done) | (simp [Ok, OkS, okSm, okV, okVR, okO, okA, okJ, okB, okI, okStr, okC, okIf, okT, okP, Out.bind, Out.bindN, lift]; done))
theorem ok_s1 {g : Str → D → S → Option D} {fo fa : M D} : Ok (xS1 g fo fa G s) = Ok (K := ⟨fun a s => okStr (K := ⟨fun z => Ok (K := ⟨fun b s => okSm (K := ⟨fun d => K.q d s⟩) (g z b s), K.e⟩) (fa G s)⟩) a, K.e⟩) (fo G s) := by
  unfold xS1
  rw [ok_bind]
  congr 2
  funext a s
  cases a with
  | str z =>
    simp only [okStr, ok_bind]
    congr 2
    funext b s
    rw [ok_lift]
  | _ => (first | rfl | (simp only [Ok, OkS, okSm, okV, okVR, okO, okA, okJ, okB, okI, okStr, okC, okIf, okT, okP, Out.bind, Out.bindN, lift, kn_q, kn_e, kq_q, kp_p, ps_nx, ps_rt, ps_bk, ps_ct, ps_ex]; done) | (simp [Ok, OkS, okSm, okV, okVR, okO, okA, okJ, okB, okI, okStr, okC, okIf, okT, okP, Out.bind, Out.bindN, lift]; done))
theorem ok_maxDf {fa fz : M D} : Ok (xMaxDf fa fz G s) = Ok (K := ⟨fun a s => Ok (K := ⟨fun z s => okSm (K := ⟨fun d => K.q d s⟩) (maxDf a z), K.e⟩) (fz G s), K.e⟩) (fa G s) := by
  unfold xMaxDf
  rw [ok_bind]
  congr 2
  funext a s
  rw [ok_bind]
  congr 2
  funext z s
  rw [ok_lift]
theorem ok_star {f : M D} {g : M (List D)} : Ok (K := L) (xStar f g G s) = Ok (K := ⟨fun d s => okSm (K := ⟨fun xs => Ok (K := ⟨fun ys s => L.q (xs ++ ys) s, L.e⟩) (g G s)⟩) (itemsD s d), L.e⟩) (f G s) := by
  unfold xStar
  rw [ok_bind]
  congr 2
  funext d s
  rw [ok_bind, ok_lift]
  cases itemsD s d with
  | none => (first | rfl | (simp only [Ok, OkS, okSm, okV, okVR, okO, okA, okJ, okB, okI, okStr, okC, okIf, okT, okP, Out.bind, Out.bindN, lift, kn_q, kn_e, kq_q, kp_p, ps_nx, ps_rt, ps_bk, ps_ct, ps_ex]; done) | (simp [Ok, OkS, okSm, okV, okVR, okO, okA, okJ, okB, okI, okStr, okC, okIf, okT, okP, Out.bind, Out.bindN, lift]; done))
  | some xs =>
    simp only [okSm]
    rw [ok_bind]
    first | rfl | (simp only [Ok, OkS, okSm, okV, okVR, okO, okA, okJ, okB, okI, okStr, okC, okIf, okT, okP, Out.bind, Out.bindN, lift, kn_q, kn_e, kq_q, kp_p, ps_nx, ps_rt, ps_bk, ps_ct, ps_ex]; done) | (simp [Ok, OkS, okSm, okV, okVR, okO, okA, okJ, okB, okI, okStr, okC, okIf, okT, okP, Out.bind, Out.bindN, lift]; done)
/-! runs of bodies -/
theorem ok_runF {n N : Nat} {m : MS} {ds : List D} (h : ds.length = n) : Ok (runF n N m ds s) = OkS (P := ⟨fun _ s => K.q .non s, K.q, fun _ _ => False, fun _ _ => False, fun c fs _ s => K.e c fs s⟩) (m (ds.map .val ++ List.replicate (N - n) .un) s) := by
  unfold runF
  rw [if_pos h]
  cases m (ds.map .val ++ List.replicate (N - n) .un) s <;> (first | rfl | (simp only [Ok, OkS, okSm, okV, okVR, okO, okA, okJ, okB, okI, okStr, okC, okIf, okT, okP, Out.bind, Out.bindN, lift, kn_q, kn_e, kq_q, kp_p, ps_nx, ps_rt, ps_bk, ps_ct, ps_ex]; done) | (simp [Ok, OkS, okSm, okV, okVR, okO, okA, okJ, okB, okI, okStr, okC, okIf, okT, okP, Out.bind, Out.bindN, lift]; done))
theorem ok_runI {K : Kn (List (Str × D))} {c : Str} {n N : Nat} {m : MS} {ds : List D} (h : ds.length + 1 = n) : Ok (runI c n N m ds s) = OkS (P := ⟨fun G s => ∃ fs r, G = .own (.obj c fs) :: r ∧ K.q fs s, fun _ _ => False, fun _ _ => False, fun _ _ => False, fun c fs _ s => K.e c fs s⟩) (m (.own (.obj c []) :: ds.map .val ++ List.replicate (N - n) .un) s) := by
  unfold runI
  rw [if_pos h]
  cases m (.own (.obj c []) :: ds.map .val ++ List.replicate (N - n) .un) s with
  | nx G s =>
    cases G with
    | nil => simp [endsI, Ok, OkS]
    | cons z r =>
      cases z with
      | own d =>
        cases d with
        | obj c' fs =>
          by_cases h : c' = c
          · subst h; simp [endsI, Ok, OkS]
          · simp [endsI, Ok, OkS, h]
        | _ => simp [endsI, Ok, OkS]
      | _ => simp [endsI, Ok, OkS]
  | _ => (first | rfl | (simp only [Ok, OkS, okSm, okV, okVR, okO, okA, okJ, okB, okI, okStr, okC, okIf, okT, okP, Out.bind, Out.bindN, lift, kn_q, kn_e, kq_q, kp_p, ps_nx, ps_rt, ps_bk, ps_ct, ps_ex]; done) | (simp [Ok, OkS, okSm, okV, okVR, okO, okA, okJ, okB, okI, okStr, okC, okIf, okT, okP, Out.bind, Out.bindN, lift]; done))
theorem ok_starI {K : Kn (List (Str × D))} {n : Nat} {F : List D → S → Out (List (Str × D))} {ds : List D} (h : n ≤ ds.length ∧ sz ds.length = true) : Ok (starI n F ds s) = Ok (F (ds.take n ++ [.tup (ds.drop n)]) s) := by
  unfold starI
  rw [if_pos h]
theorem ok_starF {n : Nat} {F : List D → S → Out D} {ds : List D} (h : n ≤ ds.length ∧ sz ds.length = true) : Ok (starF n F ds s) = Ok (F (ds.take n ++ [.tup (ds.drop n)]) s) := by
  unfold starF
  rw [if_pos h]
end
theorem in_runF {s : S} {K : Kn D} {n N : Nat} {m : MS} {ds : List D} (h : ds.length = n) (z : OkS (P := ⟨fun _ s => K.q .non s, K.q, fun _ _ => False, fun _ _ => False, fun c fs _ s => K.e c fs s⟩) (m (ds.map .val ++ List.replicate (N - n) .un) s)) : Ok (runF n N m ds s) := by
  rw [ok_runF h]
  exact z
theorem in_runI {s : S} {K : Kn (List (Str × D))} {c : Str} {n N : Nat} {m : MS} {ds : List D} (h : ds.length + 1 = n) (z : OkS (P := ⟨fun G s => ∃ fs r, G = .own (.obj c fs) :: r ∧ K.q fs s, fun _ _ => False, fun _ _ => False, fun _ _ => False, fun c fs _ s => K.e c fs s⟩) (m (.own (.obj c []) :: ds.map .val ++ List.replicate (N - n) .un) s)) : Ok (runI c n N m ds s) := by
  rw [ok_runI h]
  exact z
theorem nc_0 : ((0 : Nat) : Int) = 0 := rfl
theorem nc_1 : ((1 : Nat) : Int) = 1 := rfl
theorem nc_2 : ((2 : Nat) : Int) = 2 := rfl
theorem nc_3 : ((3 : Nat) : Int) = 3 := rfl
theorem nc_4 : ((4 : Nat) : Int) = 4 := rfl
theorem nc_5 : ((5 : Nat) : Int) = 5 := rfl
theorem nc_6 : ((6 : Nat) : Int) = 6 := rfl
theorem nc_7 : ((7 : Nat) : Int) = 7 := rfl
theorem nc_8 : ((8 : Nat) : Int) = 8 := rfl
theorem nc_9 : ((9 : Nat) : Int) = 9 := rfl
theorem nc_10 : ((10 : Nat) : Int) = 10 := rfl
theorem nc_11 : ((11 : Nat) : Int) = 11 := rfl
theorem nc_12 : ((12 : Nat) : Int) = 12 := rfl
theorem nc_13 : ((13 : Nat) : Int) = 13 := rfl
theorem nc_14 : ((14 : Nat) : Int) = 14 := rfl
theorem nc_15 : ((15 : Nat) : Int) = 15 := rfl
theorem nc_16 : ((16 : Nat) : Int) = 16 := rfl
theorem nc_17 : ((17 : Nat) : Int) = 17 := rfl
theorem nc_18 : ((18 : Nat) : Int) = 18 := rfl
theorem nc_19 : ((19 : Nat) : Int) = 19 := rfl
theorem nc_20 : ((20 : Nat) : Int) = 20 := rfl
theorem nc_21 : ((21 : Nat) : Int) = 21 := rfl
theorem nc_22 : ((22 : Nat) : Int) = 22 := rfl
theorem nc_23 : ((23 : Nat) : Int) = 23 := rfl
theorem nc_24 : ((24 : Nat) : Int) = 24 := rfl
theorem nc_25 : ((25 : Nat) : Int) = 25 := rfl
theorem nc_26 : ((26 : Nat) : Int) = 26 := rfl
theorem nc_27 : ((27 : Nat) : Int) = 27 := rfl
theorem nc_28 : ((28 : Nat) : Int) = 28 := rfl
theorem nc_29 : ((29 : Nat) : Int) = 29 := rfl
theorem nc_30 : ((30 : Nat) : Int) = 30 := rfl
theorem sz_of {n : Nat} (h : n ≤ 1000000) : sz n = true := decide_eq_true h
theorem sz_0 : sz 0 = true := rfl
theorem sz_1 : sz 1 = true := rfl
theorem sz_2 : sz 2 = true := rfl
theorem sz_3 : sz 3 = true := rfl
theorem sz_4 : sz 4 = true := rfl
theorem sz_5 : sz 5 = true := rfl
theorem sz_6 : sz 6 = true := rfl
theorem sz_7 : sz 7 = true := rfl
theorem sz_8 : sz 8 = true := rfl
theorem sz_9 : sz 9 = true := rfl
theorem sz_10 : sz 10 = true := rfl
theorem sz_11 : sz 11 = true := rfl
theorem sz_12 : sz 12 = true := rfl
theorem sz_13 : sz 13 = true := rfl
theorem sz_14 : sz 14 = true := rfl
theorem sz_15 : sz 15 = true := rfl
theorem sz_16 : sz 16 = true := rfl
theorem sz_17 : sz 17 = true := rfl
theorem sz_18 : sz 18 = true := rfl
theorem sz_19 : sz 19 = true := rfl
theorem sz_20 : sz 20 = true := rfl
theorem sz_21 : sz 21 = true := rfl
theorem sz_22 : sz 22 = true := rfl
theorem sz_23 : sz 23 = true := rfl
theorem sz_24 : sz 24 = true := rfl
theorem sz_25 : sz 25 = true := rfl
theorem sz_26 : sz 26 = true := rfl
theorem sz_27 : sz 27 = true := rfl
theorem sz_28 : sz 28 = true := rfl
theorem sz_29 : sz 29 = true := rfl
theorem sz_30 : sz 30 = true := rfl
theorem ok_cut {α : Type} {o : Out α} {K : Kn α} (R : α → S → Prop) (h : Ok (K := ⟨R, noE⟩) o) (hq : ∀ a s, R a s → K.q a s) : Ok o := by
  obtain ⟨a, s, rfl, r⟩ := h.out
  exact hq a s r
theorem oks_cut {o : OS} {P : Ps} (R : List Sl → S → Prop) (h : OkS (P := { P with nx := R }) o) (hq : ∀ G s, R G s → P.nx G s) : OkS o := by
  cases o with
  | nx G s => exact hq G s h
  | _ => exact h
theorem rng1_of {j : Int} {K : Kq (List D)} (h0 : -4611686018427387904 ≤ j) (h1 : j < 4611686018427387904) (z : K.q (rngL 0 j.toNat)) : okSm (rngD1 [.int j]) := by
  have h : -(2 ^ 62) ≤ j ∧ j < 2 ^ 62 := ⟨h0, h1⟩
  simp only [rngD1, if_pos h]
  exact z
theorem rng2_of {i j : Int} {K : Kq (List D)} (h0 : -4611686018427387904 ≤ i) (h1 : i < 4611686018427387904) (h2 : -4611686018427387904 ≤ j) (h3 : j < 4611686018427387904) (z : K.q (rngL i (j - i).toNat)) : okSm (rngD2 [.int i, .int j]) := by
  have h : -(2 ^ 62) ≤ i ∧ i < 2 ^ 62 ∧ -(2 ^ 62) ≤ j ∧ j < 2 ^ 62 := ⟨h0, h1, h2, h3⟩
  simp only [rngD2, if_pos h]
  exact z
theorem ixD_lst {ds : List D} {k : Int} {s : S} : ixD (.lst ds) (.int k) s = atI ds k := rfl
theorem ixD_tup {ds : List D} {k : Int} {s : S} : ixD (.tup ds) (.int k) s = atI ds k := rfl
theorem ixD_scr {ds : List Int} {k : Int} {s : S} : ixD (.scr ds) (.int k) s = (atI ds k).map .int := rfl
theorem at_0 {α : Type} {x0 : α} {xs : List α} : atI (x0 :: xs) 0 = some x0 := atI_nat (i := 0) (by simp)
theorem at_1 {α : Type} {x0 x1 : α} {xs : List α} : atI (x0 :: x1 :: xs) 1 = some x1 := atI_nat (i := 1) (by simp)
theorem at_2 {α : Type} {x0 x1 x2 : α} {xs : List α} : atI (x0 :: x1 :: x2 :: xs) 2 = some x2 := atI_nat (i := 2) (by simp)
theorem at_3 {α : Type} {x0 x1 x2 x3 : α} {xs : List α} : atI (x0 :: x1 :: x2 :: x3 :: xs) 3 = some x3 := atI_nat (i := 3) (by simp)
theorem at_4 {α : Type} {x0 x1 x2 x3 x4 : α} {xs : List α} : atI (x0 :: x1 :: x2 :: x3 :: x4 :: xs) 4 = some x4 := atI_nat (i := 4) (by simp)
theorem at_5 {α : Type} {x0 x1 x2 x3 x4 x5 : α} {xs : List α} : atI (x0 :: x1 :: x2 :: x3 :: x4 :: x5 :: xs) 5 = some x5 := atI_nat (i := 5) (by simp)
theorem at_6 {α : Type} {x0 x1 x2 x3 x4 x5 x6 : α} {xs : List α} : atI (x0 :: x1 :: x2 :: x3 :: x4 :: x5 :: x6 :: xs) 6 = some x6 := atI_nat (i := 6) (by simp)
theorem at_7 {α : Type} {x0 x1 x2 x3 x4 x5 x6 x7 : α} {xs : List α} : atI (x0 :: x1 :: x2 :: x3 :: x4 :: x5 :: x6 :: x7 :: xs) 7 = some x7 := atI_nat (i := 7) (by simp)
/-! loops -/
theorem for_inv {tg : D → List Sl → Option (List Sl)} {b : MS} {P : Ps} {G : List Sl} {s : S} {ds : List D} (I : Nat → List Sl → S → Prop) (h0 : I 0 G s)
    (h : ∀ i (hi : i < ds.length) G s, I i G s → okSm (K := ⟨fun G => OkS (P := { P with nx := I (i + 1), ct := I (i + 1), bk := P.nx }) (b G s)⟩) (tg ds[i] G)) (hn : ∀ G s, I ds.length G s → P.nx G s) : OkS (forL tg b ds G s) := by
  suffices z : ∀ (ds : List D) (k : Nat), (∀ i (hi : i < ds.length) G s, I (k + i) G s → okSm (K := ⟨fun G => OkS (P := { P with nx := I (k + i + 1), ct := I (k + i + 1), bk := P.nx }) (b G s)⟩) (tg ds[i] G)) → (∀ G s, I (k + ds.length) G s → P.nx G s) → ∀ G s, I k G s → OkS (forL tg b ds G s) by
    refine z ds 0 (fun i hi G s hI => ?_) (fun G s hI => ?_) G s h0
    · rw [Nat.zero_add] at hI ⊢; exact h i hi G s hI
    · rw [Nat.zero_add] at hI; exact hn G s hI
  intro ds
  induction ds with
  | nil => intro k h hn G s hI; exact hn G s hI
  | cons d r ih =>
    intro k h hn G s hI
    rw [oks_for1]
    have z := h 0 (Nat.zero_lt_succ _) G s hI
    simp only [List.getElem_cons_zero, Nat.add_zero] at z
    cases e : tg d G with
    | none => rw [e] at z; exact z
    | some G1 =>
      rw [e] at z
      simp only [okSm] at z ⊢
      have nx : ∀ G s, I (k + 1) G s → OkS (forL tg b r G s) := fun G s hI => ih (k + 1) (fun i hi G s hI => by
        have e : k + 1 + i = k + (i + 1) := by omega
        rw [e] at hI ⊢
        exact h (i + 1) (Nat.succ_lt_succ hi) G s hI) (fun G s hI => hn G s (by rw [List.length_cons]; rwa [show k + (r.length + 1) = k + 1 + r.length by omega])) G s hI
      cases e2 : b G1 s with
      | nx G s => rw [e2] at z; exact nx G s z
      | ct G s => rw [e2] at z; exact nx G s z
      | _ => rw [e2] at z; exact z
/-- each item, what it gives -/
inductive All2 {α β : Type} (R : α → β → Prop) : List α → List β → Prop where
  | nil : All2 R [] []
  | cons {a : α} {b : β} {as : List α} {bs : List β} : R a b → All2 R as bs → All2 R (a :: as) (b :: bs)
theorem All2.len {α β : Type} {R : α → β → Prop} {as : List α} {bs : List β} (h : All2 R as bs) : bs.length = as.length := by
  induction h with
  | nil => (first | rfl | (simp only [Ok, OkS, okSm, okV, okVR, okO, okA, okJ, okB, okI, okStr, okC, okIf, okT, okP, Out.bind, Out.bindN, lift, kn_q, kn_e, kq_q, kp_p, ps_nx, ps_rt, ps_bk, ps_ct, ps_ex]; done) | (simp [Ok, OkS, okSm, okV, okVR, okO, okA, okJ, okB, okI, okStr, okC, okIf, okT, okP, Out.bind, Out.bindN, lift]; done))
  | cons _ _ ih => rw [List.length_cons, List.length_cons, ih]
theorem All2.mem {α β : Type} {R : α → β → Prop} {as : List α} {bs : List β} (h : All2 R as bs) : ∀ b ∈ bs, ∃ a ∈ as, R a b := by
  induction h with
  | nil => intro b hb; exact (List.not_mem_nil hb).elim
  | cons hr _ ih =>
    intro b hb
    rcases List.mem_cons.mp hb with rfl | hb
    · exact ⟨_, List.mem_cons_self, hr⟩
    · obtain ⟨a, ha, r⟩ := ih b hb
      exact ⟨a, List.mem_cons_of_mem _ ha, r⟩
theorem lc_st {tg : D → List Sl → Option (List Sl)} {e : M D} {G : List Sl} {K : Kn (List D)} (J : S → Prop) (R : D → D → Prop) {ds : List D} {s : S} (h0 : J s)
    (h : ∀ d ∈ ds, ∀ s, J s → okSm (K := ⟨fun G => Ok (K := ⟨fun y s => R d y ∧ J s, noE⟩) (e G s)⟩) (tg d G))
    (hq : ∀ ys s, J s → All2 R ds ys → K.q ys s) : Ok (lcL tg yYes e G ds s) := by
  suffices z : ∃ ys s', lcL tg yYes e G ds s = .ok ys s' ∧ J s' ∧ All2 R ds ys by
    obtain ⟨ys, s', e, j, a⟩ := z
    rw [e]
    exact hq ys s' j a
  clear hq
  induction ds generalizing s with
  | nil => exact ⟨[], s, rfl, h0, .nil⟩
  | cons d r ih =>
    have z := h d List.mem_cons_self s h0
    cases eg : tg d G with
    | none => rw [eg] at z; exact absurd z id
    | some G1 =>
      rw [eg] at z
      obtain ⟨y, s2, e2, hr, hj⟩ := Ok.out z
      obtain ⟨ys, s3, e3, hj3, ha⟩ := ih hj fun d' hd => h d' (List.mem_cons_of_mem _ hd)
      exact ⟨y :: ys, s3, by simp only [lcL, yYes, eg, e2, e3, Out.bindN, if_true], hj3, .cons hr ha⟩
/-- tests and items that change nothing -/
theorem lc_pure {tg : D → List Sl → Option (List Sl)} {t : M Bool} {e : M D} {G : List Sl} {K : Kn (List D)} (p : D → Bool) (f : D → D) {ds : List D} {s : S}
    (h : ∀ d ∈ ds, okSm (K := ⟨fun G => Ok (K := ⟨fun b s1 => b = p d ∧ s1 = s, noE⟩) (t G s) ∧ (p d = true → Ok (K := ⟨fun y s1 => y = f d ∧ s1 = s, noE⟩) (e G s))⟩) (tg d G))
    (hq : K.q ((ds.filter p).map f) s) : Ok (lcL tg t e G ds s) := by
  suffices z : lcL tg t e G ds s = .ok ((ds.filter p).map f) s by
    rw [z]
    exact hq
  clear hq
  induction ds with
  | nil => (first | rfl | (simp only [Ok, OkS, okSm, okV, okVR, okO, okA, okJ, okB, okI, okStr, okC, okIf, okT, okP, Out.bind, Out.bindN, lift, kn_q, kn_e, kq_q, kp_p, ps_nx, ps_rt, ps_bk, ps_ct, ps_ex]; done) | (simp [Ok, OkS, okSm, okV, okVR, okO, okA, okJ, okB, okI, okStr, okC, okIf, okT, okP, Out.bind, Out.bindN, lift]; done))
  | cons d r ih =>
    have z := h d List.mem_cons_self
    have ih := ih fun d' hd => h d' (List.mem_cons_of_mem _ hd)
    cases eg : tg d G with
    | none => rw [eg] at z; exact absurd z id
    | some G1 =>
      rw [eg] at z
      obtain ⟨z1, z2⟩ := z
      obtain ⟨b, s1, e1, rfl, rfl⟩ := z1.out
      by_cases hp : p d = true
      · obtain ⟨y, s2, e2, rfl, rfl⟩ := (z2 hp).out
        simp only [lcL, eg, e1, e2, ih, hp, Out.bindN, if_true, List.filter_cons, List.map_cons]
      · simp only [lcL, eg, e1, ih, hp, Out.bindN, if_false, List.filter_cons]
        simp
theorem lc_map {tg : D → List Sl → Option (List Sl)} {e : M D} {G : List Sl} {K : Kn (List D)} (f : D → D) {ds : List D} {s : S}
    (h : ∀ d ∈ ds, okSm (K := ⟨fun G => Ok (K := ⟨fun y s1 => y = f d ∧ s1 = s, noE⟩) (e G s)⟩) (tg d G))
    (hq : K.q (ds.map f) s) : Ok (lcL tg yYes e G ds s) := by
  refine lc_pure (fun _ => true) f (fun d hd => ?_) ?_
  · have z := h d hd
    cases eg : tg d G with
    | none => rw [eg] at z; exact absurd z id
    | some G1 =>
      rw [eg] at z
      exact ⟨⟨rfl, rfl⟩, fun _ => z⟩
  · rwa [List.filter_eq_self.mpr fun _ _ => rfl]
end Qd
/-! the rules again, over words that are not unfolded -/
namespace Qd
open PySem L2
@[irreducible] def Tk {α : Type} (o : Out α) [K : Kn α] : Prop := Ok o
@[irreducible] def TkS (o : OS) [P : Ps] : Prop := OkS o
@[irreducible] def tkSm {α : Type} (o : Option α) [K : Kq α] : Prop := okSm o
@[irreducible] def tkV (o : Option Sl) [K : Kq D] : Prop := okV o
@[irreducible] def tkVR (o : Option Sl) [K : Kq D] : Prop := okVR o
@[irreducible] def tkO (o : Option Sl) [K : Kq (List D)] : Prop := okO o
@[irreducible] def tkA (o : Option Sl) [K : Kq D] : Prop := okA o
@[irreducible] def tkJ (o : Option Sl) (c n : Str) [K : Kq (List (Str × D))] : Prop := okJ o c n
@[irreducible] def tkB (d : D) [K : Kq Bool] : Prop := okB d
@[irreducible] def tkI (d : D) [K : Kq Int] : Prop := okI d
@[irreducible] def tkStr (d : D) [K : Kq Str] : Prop := okStr d
@[irreducible] def tkC (d : D) (c : Str) [K : Kq (List (Str × D))] : Prop := okC d c
@[irreducible] def tkIf (b : Bool) (X Y : Kp) : Prop := okIf b X Y
@[irreducible] def tkT (b : Bool) [X : Kp] : Prop := okT b
@[irreducible] def tkP (p : Prop) [X : Kp] : Prop := okP p
theorem eTk : @Tk = @Ok := by unfold Tk; rfl
theorem eTkS : @TkS = @OkS := by unfold TkS; rfl
theorem etkSm : @tkSm = @okSm := by unfold tkSm; rfl
theorem etkV : @tkV = @okV := by unfold tkV; rfl
theorem etkVR : @tkVR = @okVR := by unfold tkVR; rfl
theorem etkO : @tkO = @okO := by unfold tkO; rfl
theorem etkA : @tkA = @okA := by unfold tkA; rfl
theorem etkJ : @tkJ = @okJ := by unfold tkJ; rfl
theorem etkB : @tkB = @okB := by unfold tkB; rfl
theorem etkI : @tkI = @okI := by unfold tkI; rfl
theorem etkStr : @tkStr = @okStr := by unfold tkStr; rfl
theorem etkC : @tkC = @okC := by unfold tkC; rfl
theorem etkIf : @tkIf = @okIf := by unfold tkIf; rfl
theorem etkT : @tkT = @okT := by unfold tkT; rfl
theorem etkP : @tkP = @okP := by unfold tkP; rfl
section
variable {α β : Type} {a : α} {s : S} {G : List Sl} {c : Str} {fs : List (Str × D)} {K : Kn α} {P : Ps}
theorem tk_ok : Tk (.ok a s) = K.q a s := by
  (try rw [eTk]); (try rw [eTkS]); (try rw [etkSm]); (try rw [etkV]); (try rw [etkVR]); (try rw [etkO]); (try rw [etkA]); (try rw [etkJ]); (try rw [etkB]); (try rw [etkI]); (try rw [etkStr]); (try rw [etkC]); (try rw [etkIf]); (try rw [etkT]); (try rw [etkP]); first | exact @ok_ok | exact ok_ok | exact @ok_ok _ _ | exact @ok_ok _ | exact @ok_ok _ _ _ | exact @ok_ok _ _ _ _ | exact @ok_ok _ _ _ _ _ | (intros; exact ok_ok) | (intros; apply ok_ok <;> assumption)
theorem tk_exc : Tk (α := α) (.exc c fs s) = K.e c fs s := by
  (try rw [eTk]); (try rw [eTkS]); (try rw [etkSm]); (try rw [etkV]); (try rw [etkVR]); (try rw [etkO]); (try rw [etkA]); (try rw [etkJ]); (try rw [etkB]); (try rw [etkI]); (try rw [etkStr]); (try rw [etkC]); (try rw [etkIf]); (try rw [etkT]); (try rw [etkP]); first | exact @ok_exc | exact ok_exc | exact @ok_exc _ _ | exact @ok_exc _ | exact @ok_exc _ _ _ | exact @ok_exc _ _ _ _ | exact @ok_exc _ _ _ _ _ | (intros; exact ok_exc) | (intros; apply ok_exc <;> assumption)
theorem tk_fail : Tk (α := α) .fail = False := by
  (try rw [eTk]); (try rw [eTkS]); (try rw [etkSm]); (try rw [etkV]); (try rw [etkVR]); (try rw [etkO]); (try rw [etkA]); (try rw [etkJ]); (try rw [etkB]); (try rw [etkI]); (try rw [etkStr]); (try rw [etkC]); (try rw [etkIf]); (try rw [etkT]); (try rw [etkP]); first | exact @ok_fail | exact ok_fail | exact @ok_fail _ _ | exact @ok_fail _ | exact @ok_fail _ _ _ | exact @ok_fail _ _ _ _ | exact @ok_fail _ _ _ _ _ | (intros; exact ok_fail) | (intros; apply ok_fail <;> assumption)
theorem tks_nx : TkS (.nx G s) = P.nx G s := by
  (try rw [eTk]); (try rw [eTkS]); (try rw [etkSm]); (try rw [etkV]); (try rw [etkVR]); (try rw [etkO]); (try rw [etkA]); (try rw [etkJ]); (try rw [etkB]); (try rw [etkI]); (try rw [etkStr]); (try rw [etkC]); (try rw [etkIf]); (try rw [etkT]); (try rw [etkP]); first | exact @oks_nx | exact oks_nx | exact @oks_nx _ _ | exact @oks_nx _ | exact @oks_nx _ _ _ | exact @oks_nx _ _ _ _ | exact @oks_nx _ _ _ _ _ | (intros; exact oks_nx) | (intros; apply oks_nx <;> assumption)
theorem tks_rt : ∀ {d : D}, TkS (.rt d s) = P.rt d s := by
  (try rw [eTk]); (try rw [eTkS]); (try rw [etkSm]); (try rw [etkV]); (try rw [etkVR]); (try rw [etkO]); (try rw [etkA]); (try rw [etkJ]); (try rw [etkB]); (try rw [etkI]); (try rw [etkStr]); (try rw [etkC]); (try rw [etkIf]); (try rw [etkT]); (try rw [etkP]); first | exact @oks_rt | exact oks_rt | exact @oks_rt _ _ | exact @oks_rt _ | exact @oks_rt _ _ _ | exact @oks_rt _ _ _ _ | exact @oks_rt _ _ _ _ _ | (intros; exact oks_rt) | (intros; apply oks_rt <;> assumption)
theorem tks_bk : TkS (.bk G s) = P.bk G s := by
  (try rw [eTk]); (try rw [eTkS]); (try rw [etkSm]); (try rw [etkV]); (try rw [etkVR]); (try rw [etkO]); (try rw [etkA]); (try rw [etkJ]); (try rw [etkB]); (try rw [etkI]); (try rw [etkStr]); (try rw [etkC]); (try rw [etkIf]); (try rw [etkT]); (try rw [etkP]); first | exact @oks_bk | exact oks_bk | exact @oks_bk _ _ | exact @oks_bk _ | exact @oks_bk _ _ _ | exact @oks_bk _ _ _ _ | exact @oks_bk _ _ _ _ _ | (intros; exact oks_bk) | (intros; apply oks_bk <;> assumption)
theorem tks_ct : TkS (.ct G s) = P.ct G s := by
  (try rw [eTk]); (try rw [eTkS]); (try rw [etkSm]); (try rw [etkV]); (try rw [etkVR]); (try rw [etkO]); (try rw [etkA]); (try rw [etkJ]); (try rw [etkB]); (try rw [etkI]); (try rw [etkStr]); (try rw [etkC]); (try rw [etkIf]); (try rw [etkT]); (try rw [etkP]); first | exact @oks_ct | exact oks_ct | exact @oks_ct _ _ | exact @oks_ct _ | exact @oks_ct _ _ _ | exact @oks_ct _ _ _ _ | exact @oks_ct _ _ _ _ _ | (intros; exact oks_ct) | (intros; apply oks_ct <;> assumption)
theorem tks_exc : TkS (.exc c fs G s) = P.ex c fs G s := by
  (try rw [eTk]); (try rw [eTkS]); (try rw [etkSm]); (try rw [etkV]); (try rw [etkVR]); (try rw [etkO]); (try rw [etkA]); (try rw [etkJ]); (try rw [etkB]); (try rw [etkI]); (try rw [etkStr]); (try rw [etkC]); (try rw [etkIf]); (try rw [etkT]); (try rw [etkP]); first | exact @oks_exc | exact oks_exc | exact @oks_exc _ _ | exact @oks_exc _ | exact @oks_exc _ _ _ | exact @oks_exc _ _ _ _ | exact @oks_exc _ _ _ _ _ | (intros; exact oks_exc) | (intros; apply oks_exc <;> assumption)
theorem tks_fail : TkS .fail = False := by
  (try rw [eTk]); (try rw [eTkS]); (try rw [etkSm]); (try rw [etkV]); (try rw [etkVR]); (try rw [etkO]); (try rw [etkA]); (try rw [etkJ]); (try rw [etkB]); (try rw [etkI]); (try rw [etkStr]); (try rw [etkC]); (try rw [etkIf]); (try rw [etkT]); (try rw [etkP]); first | exact @oks_fail | exact oks_fail | exact @oks_fail _ _ | exact @oks_fail _ | exact @oks_fail _ _ _ | exact @oks_fail _ _ _ _ | exact @oks_fail _ _ _ _ _ | (intros; exact oks_fail) | (intros; apply oks_fail <;> assumption)
theorem tkSm_some : ∀ {a : α} {K : Kq α}, tkSm (some a) = K.q a := by
  (try rw [eTk]); (try rw [eTkS]); (try rw [etkSm]); (try rw [etkV]); (try rw [etkVR]); (try rw [etkO]); (try rw [etkA]); (try rw [etkJ]); (try rw [etkB]); (try rw [etkI]); (try rw [etkStr]); (try rw [etkC]); (try rw [etkIf]); (try rw [etkT]); (try rw [etkP]); first | exact @okSm_some | exact okSm_some | exact @okSm_some _ _ | exact @okSm_some _ | exact @okSm_some _ _ _ | exact @okSm_some _ _ _ _ | exact @okSm_some _ _ _ _ _ | (intros; exact okSm_some) | (intros; apply okSm_some <;> assumption)
theorem tkSm_none : ∀ {K : Kq α}, tkSm (α := α) none = False := by
  (try rw [eTk]); (try rw [eTkS]); (try rw [etkSm]); (try rw [etkV]); (try rw [etkVR]); (try rw [etkO]); (try rw [etkA]); (try rw [etkJ]); (try rw [etkB]); (try rw [etkI]); (try rw [etkStr]); (try rw [etkC]); (try rw [etkIf]); (try rw [etkT]); (try rw [etkP]); first | exact @okSm_none | exact okSm_none | exact @okSm_none _ _ | exact @okSm_none _ | exact @okSm_none _ _ _ | exact @okSm_none _ _ _ _ | exact @okSm_none _ _ _ _ _ | (intros; exact okSm_none) | (intros; apply okSm_none <;> assumption)
theorem tkV_val : ∀ {d : D} {K : Kq D}, tkV (some (.val d)) = K.q d := by
  (try rw [eTk]); (try rw [eTkS]); (try rw [etkSm]); (try rw [etkV]); (try rw [etkVR]); (try rw [etkO]); (try rw [etkA]); (try rw [etkJ]); (try rw [etkB]); (try rw [etkI]); (try rw [etkStr]); (try rw [etkC]); (try rw [etkIf]); (try rw [etkT]); (try rw [etkP]); first | exact @okV_val | exact okV_val | exact @okV_val _ _ | exact @okV_val _ | exact @okV_val _ _ _ | exact @okV_val _ _ _ _ | exact @okV_val _ _ _ _ _ | (intros; exact okV_val) | (intros; apply okV_val <;> assumption)
theorem tkV_own : ∀ {c : Str} {fs : List (Str × D)} {K : Kq D}, tkV (some (.own (.obj c fs))) = K.q (.obj c fs) := by
  (try rw [eTk]); (try rw [eTkS]); (try rw [etkSm]); (try rw [etkV]); (try rw [etkVR]); (try rw [etkO]); (try rw [etkA]); (try rw [etkJ]); (try rw [etkB]); (try rw [etkI]); (try rw [etkStr]); (try rw [etkC]); (try rw [etkIf]); (try rw [etkT]); (try rw [etkP]); first | exact @okV_own | exact okV_own | exact @okV_own _ _ | exact @okV_own _ | exact @okV_own _ _ _ | exact @okV_own _ _ _ _ | exact @okV_own _ _ _ _ _ | (intros; exact okV_own) | (intros; apply okV_own <;> assumption)
theorem tkVR_val : ∀ {d : D} {K : Kq D}, tkVR (some (.val d)) = K.q d := by
  (try rw [eTk]); (try rw [eTkS]); (try rw [etkSm]); (try rw [etkV]); (try rw [etkVR]); (try rw [etkO]); (try rw [etkA]); (try rw [etkJ]); (try rw [etkB]); (try rw [etkI]); (try rw [etkStr]); (try rw [etkC]); (try rw [etkIf]); (try rw [etkT]); (try rw [etkP]); first | exact @okVR_val | exact okVR_val | exact @okVR_val _ _ | exact @okVR_val _ | exact @okVR_val _ _ _ | exact @okVR_val _ _ _ _ | exact @okVR_val _ _ _ _ _ | (intros; exact okVR_val) | (intros; apply okVR_val <;> assumption)
theorem tkVR_own : ∀ {d : D} {K : Kq D}, tkVR (some (.own d)) = K.q d := by
  (try rw [eTk]); (try rw [eTkS]); (try rw [etkSm]); (try rw [etkV]); (try rw [etkVR]); (try rw [etkO]); (try rw [etkA]); (try rw [etkJ]); (try rw [etkB]); (try rw [etkI]); (try rw [etkStr]); (try rw [etkC]); (try rw [etkIf]); (try rw [etkT]); (try rw [etkP]); first | exact @okVR_own | exact okVR_own | exact @okVR_own _ _ | exact @okVR_own _ | exact @okVR_own _ _ _ | exact @okVR_own _ _ _ _ | exact @okVR_own _ _ _ _ _ | (intros; exact okVR_own) | (intros; apply okVR_own <;> assumption)
theorem tkO_own : ∀ {d : List D} {K : Kq (List D)}, tkO (some (.own (.lst d))) = K.q d := by
  (try rw [eTk]); (try rw [eTkS]); (try rw [etkSm]); (try rw [etkV]); (try rw [etkVR]); (try rw [etkO]); (try rw [etkA]); (try rw [etkJ]); (try rw [etkB]); (try rw [etkI]); (try rw [etkStr]); (try rw [etkC]); (try rw [etkIf]); (try rw [etkT]); (try rw [etkP]); first | exact @okO_own | exact okO_own | exact @okO_own _ _ | exact @okO_own _ | exact @okO_own _ _ _ | exact @okO_own _ _ _ _ | exact @okO_own _ _ _ _ _ | (intros; exact okO_own) | (intros; apply okO_own <;> assumption)
theorem tkA_val : ∀ {d : D} {K : Kq D}, tkA (some (.val d)) = K.q d := by
  (try rw [eTk]); (try rw [eTkS]); (try rw [etkSm]); (try rw [etkV]); (try rw [etkVR]); (try rw [etkO]); (try rw [etkA]); (try rw [etkJ]); (try rw [etkB]); (try rw [etkI]); (try rw [etkStr]); (try rw [etkC]); (try rw [etkIf]); (try rw [etkT]); (try rw [etkP]); first | exact @okA_val | exact okA_val | exact @okA_val _ _ | exact @okA_val _ | exact @okA_val _ _ _ | exact @okA_val _ _ _ _ | exact @okA_val _ _ _ _ _ | (intros; exact okA_val) | (intros; apply okA_val <;> assumption)
theorem tkB_bl : ∀ {b : Bool} {K : Kq Bool}, tkB (.bl b) = K.q b := by
  (try rw [eTk]); (try rw [eTkS]); (try rw [etkSm]); (try rw [etkV]); (try rw [etkVR]); (try rw [etkO]); (try rw [etkA]); (try rw [etkJ]); (try rw [etkB]); (try rw [etkI]); (try rw [etkStr]); (try rw [etkC]); (try rw [etkIf]); (try rw [etkT]); (try rw [etkP]); first | exact @okB_bl | exact okB_bl | exact @okB_bl _ _ | exact @okB_bl _ | exact @okB_bl _ _ _ | exact @okB_bl _ _ _ _ | exact @okB_bl _ _ _ _ _ | (intros; exact okB_bl) | (intros; apply okB_bl <;> assumption)
theorem tkI_int : ∀ {b : Int} {K : Kq Int}, tkI (.int b) = K.q b := by
  (try rw [eTk]); (try rw [eTkS]); (try rw [etkSm]); (try rw [etkV]); (try rw [etkVR]); (try rw [etkO]); (try rw [etkA]); (try rw [etkJ]); (try rw [etkB]); (try rw [etkI]); (try rw [etkStr]); (try rw [etkC]); (try rw [etkIf]); (try rw [etkT]); (try rw [etkP]); first | exact @okI_int | exact okI_int | exact @okI_int _ _ | exact @okI_int _ | exact @okI_int _ _ _ | exact @okI_int _ _ _ _ | exact @okI_int _ _ _ _ _ | (intros; exact okI_int) | (intros; apply okI_int <;> assumption)
theorem tkStr_str : ∀ {b : Str} {K : Kq Str}, tkStr (.str b) = K.q b := by
  (try rw [eTk]); (try rw [eTkS]); (try rw [etkSm]); (try rw [etkV]); (try rw [etkVR]); (try rw [etkO]); (try rw [etkA]); (try rw [etkJ]); (try rw [etkB]); (try rw [etkI]); (try rw [etkStr]); (try rw [etkC]); (try rw [etkIf]); (try rw [etkT]); (try rw [etkP]); first | exact @okStr_str | exact okStr_str | exact @okStr_str _ _ | exact @okStr_str _ | exact @okStr_str _ _ _ | exact @okStr_str _ _ _ _ | exact @okStr_str _ _ _ _ _ | (intros; exact okStr_str) | (intros; apply okStr_str <;> assumption)
theorem tkIf_t : ∀ {X Y : Kp}, tkIf true X Y = X.p := by
  (try rw [eTk]); (try rw [eTkS]); (try rw [etkSm]); (try rw [etkV]); (try rw [etkVR]); (try rw [etkO]); (try rw [etkA]); (try rw [etkJ]); (try rw [etkB]); (try rw [etkI]); (try rw [etkStr]); (try rw [etkC]); (try rw [etkIf]); (try rw [etkT]); (try rw [etkP]); first | exact @okIf_t | exact okIf_t | exact @okIf_t _ _ | exact @okIf_t _ | exact @okIf_t _ _ _ | exact @okIf_t _ _ _ _ | exact @okIf_t _ _ _ _ _ | (intros; exact okIf_t) | (intros; apply okIf_t <;> assumption)
theorem tkIf_f : ∀ {X Y : Kp}, tkIf false X Y = Y.p := by
  (try rw [eTk]); (try rw [eTkS]); (try rw [etkSm]); (try rw [etkV]); (try rw [etkVR]); (try rw [etkO]); (try rw [etkA]); (try rw [etkJ]); (try rw [etkB]); (try rw [etkI]); (try rw [etkStr]); (try rw [etkC]); (try rw [etkIf]); (try rw [etkT]); (try rw [etkP]); first | exact @okIf_f | exact okIf_f | exact @okIf_f _ _ | exact @okIf_f _ | exact @okIf_f _ _ _ | exact @okIf_f _ _ _ _ | exact @okIf_f _ _ _ _ _ | (intros; exact okIf_f) | (intros; apply okIf_f <;> assumption)
theorem tkT_t : ∀ {X : Kp}, tkT true = X.p := by
  (try rw [eTk]); (try rw [eTkS]); (try rw [etkSm]); (try rw [etkV]); (try rw [etkVR]); (try rw [etkO]); (try rw [etkA]); (try rw [etkJ]); (try rw [etkB]); (try rw [etkI]); (try rw [etkStr]); (try rw [etkC]); (try rw [etkIf]); (try rw [etkT]); (try rw [etkP]); first | exact @okT_t | exact okT_t | exact @okT_t _ _ | exact @okT_t _ | exact @okT_t _ _ _ | exact @okT_t _ _ _ _ | exact @okT_t _ _ _ _ _ | (intros; exact okT_t) | (intros; apply okT_t <;> assumption)
theorem tkT_f : ∀ {X : Kp}, tkT false = False := by
  (try rw [eTk]); (try rw [eTkS]); (try rw [etkSm]); (try rw [etkV]); (try rw [etkVR]); (try rw [etkO]); (try rw [etkA]); (try rw [etkJ]); (try rw [etkB]); (try rw [etkI]); (try rw [etkStr]); (try rw [etkC]); (try rw [etkIf]); (try rw [etkT]); (try rw [etkP]); first | exact @okT_f | exact okT_f | exact @okT_f _ _ | exact @okT_f _ | exact @okT_f _ _ _ | exact @okT_f _ _ _ _ | exact @okT_f _ _ _ _ _ | (intros; exact okT_f) | (intros; apply okT_f <;> assumption)
theorem tkJ_own : ∀ {c n : Str} {fs : List (Str × D)} {K : Kq (List (Str × D))}, tkJ (some (.own (.obj c fs))) c n = tkT (X := ⟨K.q fs⟩) (decide (n ∉ fs.map (·.1)) && decide (fs.length < 1000)) := by
  (try rw [eTk]); (try rw [eTkS]); (try rw [etkSm]); (try rw [etkV]); (try rw [etkVR]); (try rw [etkO]); (try rw [etkA]); (try rw [etkJ]); (try rw [etkB]); (try rw [etkI]); (try rw [etkStr]); (try rw [etkC]); (try rw [etkIf]); (try rw [etkT]); (try rw [etkP]); first | exact @okJ_own | exact okJ_own | exact @okJ_own _ _ | exact @okJ_own _ | exact @okJ_own _ _ _ | exact @okJ_own _ _ _ _ | exact @okJ_own _ _ _ _ _ | (intros; exact okJ_own) | (intros; apply okJ_own <;> assumption)
theorem tkC_obj : ∀ {c : Str} {fs : List (Str × D)} {K : Kq (List (Str × D))}, tkC (.obj c fs) c = K.q fs := by
  (try rw [eTk]); (try rw [eTkS]); (try rw [etkSm]); (try rw [etkV]); (try rw [etkVR]); (try rw [etkO]); (try rw [etkA]); (try rw [etkJ]); (try rw [etkB]); (try rw [etkI]); (try rw [etkStr]); (try rw [etkC]); (try rw [etkIf]); (try rw [etkT]); (try rw [etkP]); first | exact @okC_obj | exact okC_obj | exact @okC_obj _ _ | exact @okC_obj _ | exact @okC_obj _ _ _ | exact @okC_obj _ _ _ _ | exact @okC_obj _ _ _ _ _ | (intros; exact okC_obj) | (intros; apply okC_obj <;> assumption)
theorem tkSm_map : ∀ {o : Option α} {f : α → β} {K : Kq β}, tkSm (o.map f) = tkSm (K := ⟨fun a => K.q (f a)⟩) o := by
  (try rw [eTk]); (try rw [eTkS]); (try rw [etkSm]); (try rw [etkV]); (try rw [etkVR]); (try rw [etkO]); (try rw [etkA]); (try rw [etkJ]); (try rw [etkB]); (try rw [etkI]); (try rw [etkStr]); (try rw [etkC]); (try rw [etkIf]); (try rw [etkT]); (try rw [etkP]); first | exact @okSm_map | exact okSm_map | exact @okSm_map _ _ | exact @okSm_map _ | exact @okSm_map _ _ _ | exact @okSm_map _ _ _ _ | exact @okSm_map _ _ _ _ _ | (intros; exact okSm_map) | (intros; apply okSm_map <;> assumption)
theorem tkSm_bind : ∀ {o : Option α} {f : α → Option β} {K : Kq β}, tkSm (o.bind f) = tkSm (K := ⟨fun a => tkSm (f a)⟩) o := by
  (try rw [eTk]); (try rw [eTkS]); (try rw [etkSm]); (try rw [etkV]); (try rw [etkVR]); (try rw [etkO]); (try rw [etkA]); (try rw [etkJ]); (try rw [etkB]); (try rw [etkI]); (try rw [etkStr]); (try rw [etkC]); (try rw [etkIf]); (try rw [etkT]); (try rw [etkP]); first | exact @okSm_bind | exact okSm_bind | exact @okSm_bind _ _ | exact @okSm_bind _ | exact @okSm_bind _ _ _ | exact @okSm_bind _ _ _ _ | exact @okSm_bind _ _ _ _ _ | (intros; exact okSm_bind) | (intros; apply okSm_bind <;> assumption)
theorem tkSm_ite : ∀ {p : Prop} {ip : Decidable p} {o : Option α} {K : Kq α}, tkSm (if p then o else none) = tkP (X := ⟨tkSm o⟩) p := by
  (try rw [eTk]); (try rw [eTkS]); (try rw [etkSm]); (try rw [etkV]); (try rw [etkVR]); (try rw [etkO]); (try rw [etkA]); (try rw [etkJ]); (try rw [etkB]); (try rw [etkI]); (try rw [etkStr]); (try rw [etkC]); (try rw [etkIf]); (try rw [etkT]); (try rw [etkP]); first | exact @okSm_ite | exact okSm_ite | exact @okSm_ite _ _ | exact @okSm_ite _ | exact @okSm_ite _ _ _ | exact @okSm_ite _ _ _ _ | exact @okSm_ite _ _ _ _ _ | (intros; exact okSm_ite) | (intros; apply okSm_ite <;> assumption)
theorem tkP_t : ∀ {X : Kp}, tkP True = X.p := by
  (try rw [eTk]); (try rw [eTkS]); (try rw [etkSm]); (try rw [etkV]); (try rw [etkVR]); (try rw [etkO]); (try rw [etkA]); (try rw [etkJ]); (try rw [etkB]); (try rw [etkI]); (try rw [etkStr]); (try rw [etkC]); (try rw [etkIf]); (try rw [etkT]); (try rw [etkP]); first | exact @okP_t | exact okP_t | exact @okP_t _ _ | exact @okP_t _ | exact @okP_t _ _ _ | exact @okP_t _ _ _ _ | exact @okP_t _ _ _ _ _ | (intros; exact okP_t) | (intros; apply okP_t <;> assumption)
theorem tkP_of : ∀ {p : Prop} {X : Kp} (h : p) (x : X.p), tkP p := by
  (try rw [eTk]); (try rw [eTkS]); (try rw [etkSm]); (try rw [etkV]); (try rw [etkVR]); (try rw [etkO]); (try rw [etkA]); (try rw [etkJ]); (try rw [etkB]); (try rw [etkI]); (try rw [etkStr]); (try rw [etkC]); (try rw [etkIf]); (try rw [etkT]); (try rw [etkP]); first | exact @okP_of | exact okP_of | exact @okP_of _ _ | exact @okP_of _ | exact @okP_of _ _ _ | exact @okP_of _ _ _ _ | exact @okP_of _ _ _ _ _ | (intros; exact okP_of) | (intros; apply okP_of <;> assumption)
theorem tkT_of : ∀ {b : Bool} {X : Kp} (h : b = true) (x : X.p), tkT b := by
  (try rw [eTk]); (try rw [eTkS]); (try rw [etkSm]); (try rw [etkV]); (try rw [etkVR]); (try rw [etkO]); (try rw [etkA]); (try rw [etkJ]); (try rw [etkB]); (try rw [etkI]); (try rw [etkStr]); (try rw [etkC]); (try rw [etkIf]); (try rw [etkT]); (try rw [etkP]); first | exact @okT_of | exact okT_of | exact @okT_of _ _ | exact @okT_of _ | exact @okT_of _ _ _ | exact @okT_of _ _ _ _ | exact @okT_of _ _ _ _ _ | (intros; exact okT_of) | (intros; apply okT_of <;> assumption)
theorem tkSm_of : ∀ {o : Option α} {a : α} {K : Kq α} (h : o = some a) (x : K.q a), tkSm o := by
  (try rw [eTk]); (try rw [eTkS]); (try rw [etkSm]); (try rw [etkV]); (try rw [etkVR]); (try rw [etkO]); (try rw [etkA]); (try rw [etkJ]); (try rw [etkB]); (try rw [etkI]); (try rw [etkStr]); (try rw [etkC]); (try rw [etkIf]); (try rw [etkT]); (try rw [etkP]); first | exact @okSm_of | exact okSm_of | exact @okSm_of _ _ | exact @okSm_of _ | exact @okSm_of _ _ _ | exact @okSm_of _ _ _ _ | exact @okSm_of _ _ _ _ _ | (intros; exact okSm_of) | (intros; apply okSm_of <;> assumption)
theorem tkIf_of : ∀ {b : Bool} {X Y : Kp} (h1 : b = true → X.p) (h2 : b = false → Y.p), tkIf b X Y := by
  (try rw [eTk]); (try rw [eTkS]); (try rw [etkSm]); (try rw [etkV]); (try rw [etkVR]); (try rw [etkO]); (try rw [etkA]); (try rw [etkJ]); (try rw [etkB]); (try rw [etkI]); (try rw [etkStr]); (try rw [etkC]); (try rw [etkIf]); (try rw [etkT]); (try rw [etkP]); first | exact @okIf_of | exact okIf_of | exact @okIf_of _ _ | exact @okIf_of _ | exact @okIf_of _ _ _ | exact @okIf_of _ _ _ _ | exact @okIf_of _ _ _ _ _ | (intros; exact okIf_of) | (intros; apply okIf_of <;> assumption)
theorem tkIf_dec : ∀ {p : Prop} [Decidable p] {X Y : Kp} (h1 : p → X.p) (h2 : ¬ p → Y.p), tkIf (decide p) X Y := by
  (try rw [eTk]); (try rw [eTkS]); (try rw [etkSm]); (try rw [etkV]); (try rw [etkVR]); (try rw [etkO]); (try rw [etkA]); (try rw [etkJ]); (try rw [etkB]); (try rw [etkI]); (try rw [etkStr]); (try rw [etkC]); (try rw [etkIf]); (try rw [etkT]); (try rw [etkP]); first | exact @okIf_dec | exact okIf_dec | exact @okIf_dec _ _ | exact @okIf_dec _ | exact @okIf_dec _ _ _ | exact @okIf_dec _ _ _ _ | exact @okIf_dec _ _ _ _ _ | (intros; exact okIf_dec) | (intros; apply okIf_dec <;> assumption)
theorem Tk.out : ∀ {o : Out α} {q : α → S → Prop} (h : Tk (K := ⟨q, noE⟩) o), ∃ a s, o = .ok a s ∧ q a s := by
  (try rw [eTk]); (try rw [eTkS]); (try rw [etkSm]); (try rw [etkV]); (try rw [etkVR]); (try rw [etkO]); (try rw [etkA]); (try rw [etkJ]); (try rw [etkB]); (try rw [etkI]); (try rw [etkStr]); (try rw [etkC]); (try rw [etkIf]); (try rw [etkT]); (try rw [etkP]); first | exact @Ok.out | exact Ok.out | exact @Ok.out _ _ | exact @Ok.out _ | exact @Ok.out _ _ _ | exact @Ok.out _ _ _ _ | exact @Ok.out _ _ _ _ _ | (intros; exact Ok.out) | (intros; apply Ok.out <;> assumption)
theorem Tk.imp : ∀ {o : Out α} {K' : Kn α} (h : Tk (K := K) o) (hq : ∀ a s, K.q a s → K'.q a s) (he : ∀ c f s, K.e c f s → K'.e c f s), Tk (K := K') o := by
  (try rw [eTk]); (try rw [eTkS]); (try rw [etkSm]); (try rw [etkV]); (try rw [etkVR]); (try rw [etkO]); (try rw [etkA]); (try rw [etkJ]); (try rw [etkB]); (try rw [etkI]); (try rw [etkStr]); (try rw [etkC]); (try rw [etkIf]); (try rw [etkT]); (try rw [etkP]); first | exact @Ok.imp | exact Ok.imp | exact @Ok.imp _ _ | exact @Ok.imp _ | exact @Ok.imp _ _ _ | exact @Ok.imp _ _ _ _ | exact @Ok.imp _ _ _ _ _ | (intros; exact Ok.imp) | (intros; apply Ok.imp <;> assumption)
theorem tk_bind : ∀ {o : Out β} {k : β → S → Out α}, Tk (o.bind k) = Tk (K := ⟨fun a s => Tk (k a s), K.e⟩) o := by
  (try rw [eTk]); (try rw [eTkS]); (try rw [etkSm]); (try rw [etkV]); (try rw [etkVR]); (try rw [etkO]); (try rw [etkA]); (try rw [etkJ]); (try rw [etkB]); (try rw [etkI]); (try rw [etkStr]); (try rw [etkC]); (try rw [etkIf]); (try rw [etkT]); (try rw [etkP]); first | exact @ok_bind | exact ok_bind | exact @ok_bind _ _ | exact @ok_bind _ | exact @ok_bind _ _ _ | exact @ok_bind _ _ _ _ | exact @ok_bind _ _ _ _ _ | (intros; exact ok_bind) | (intros; apply ok_bind <;> assumption)
theorem tk_lift : ∀ {o : Option α}, Tk (lift o s) = tkSm (K := ⟨fun d => K.q d s⟩) o := by
  (try rw [eTk]); (try rw [eTkS]); (try rw [etkSm]); (try rw [etkV]); (try rw [etkVR]); (try rw [etkO]); (try rw [etkA]); (try rw [etkJ]); (try rw [etkB]); (try rw [etkI]); (try rw [etkStr]); (try rw [etkC]); (try rw [etkIf]); (try rw [etkT]); (try rw [etkP]); first | exact @ok_lift | exact ok_lift | exact @ok_lift _ _ | exact @ok_lift _ | exact @ok_lift _ _ _ | exact @ok_lift _ _ _ _ | exact @ok_lift _ _ _ _ _ | (intros; exact ok_lift) | (intros; apply ok_lift <;> assumption)
theorem tks_eS : ∀ {f : M β} {k : β → MS}, TkS (eS f k G s) = Tk (K := ⟨fun a s => TkS (k a G s), fun c fs s => P.ex c fs G s⟩) (f G s) := by
  (try rw [eTk]); (try rw [eTkS]); (try rw [etkSm]); (try rw [etkV]); (try rw [etkVR]); (try rw [etkO]); (try rw [etkA]); (try rw [etkJ]); (try rw [etkB]); (try rw [etkI]); (try rw [etkStr]); (try rw [etkC]); (try rw [etkIf]); (try rw [etkT]); (try rw [etkP]); first | exact @oks_eS | exact oks_eS | exact @oks_eS _ _ | exact @oks_eS _ | exact @oks_eS _ _ _ | exact @oks_eS _ _ _ _ | exact @oks_eS _ _ _ _ _ | (intros; exact oks_eS) | (intros; apply oks_eS <;> assumption)
theorem tks_seq : ∀ {f g : MS}, TkS (sSeq f g G s) = TkS (P := { P with nx := fun G s => TkS (P := P) (g G s) }) (f G s) := by
  (try rw [eTk]); (try rw [eTkS]); (try rw [etkSm]); (try rw [etkV]); (try rw [etkVR]); (try rw [etkO]); (try rw [etkA]); (try rw [etkJ]); (try rw [etkB]); (try rw [etkI]); (try rw [etkStr]); (try rw [etkC]); (try rw [etkIf]); (try rw [etkT]); (try rw [etkP]); first | exact @oks_seq | exact oks_seq | exact @oks_seq _ _ | exact @oks_seq _ | exact @oks_seq _ _ _ | exact @oks_seq _ _ _ _ | exact @oks_seq _ _ _ _ _ | (intros; exact oks_seq) | (intros; apply oks_seq <;> assumption)
theorem tks_next : TkS (sNext G s) = P.nx G s := by
  (try rw [eTk]); (try rw [eTkS]); (try rw [etkSm]); (try rw [etkV]); (try rw [etkVR]); (try rw [etkO]); (try rw [etkA]); (try rw [etkJ]); (try rw [etkB]); (try rw [etkI]); (try rw [etkStr]); (try rw [etkC]); (try rw [etkIf]); (try rw [etkT]); (try rw [etkP]); first | exact @oks_next | exact oks_next | exact @oks_next _ _ | exact @oks_next _ | exact @oks_next _ _ _ | exact @oks_next _ _ _ _ | exact @oks_next _ _ _ _ _ | (intros; exact oks_next) | (intros; apply oks_next <;> assumption)
theorem tks_brk : TkS (sBrk G s) = P.bk G s := by
  (try rw [eTk]); (try rw [eTkS]); (try rw [etkSm]); (try rw [etkV]); (try rw [etkVR]); (try rw [etkO]); (try rw [etkA]); (try rw [etkJ]); (try rw [etkB]); (try rw [etkI]); (try rw [etkStr]); (try rw [etkC]); (try rw [etkIf]); (try rw [etkT]); (try rw [etkP]); first | exact @oks_brk | exact oks_brk | exact @oks_brk _ _ | exact @oks_brk _ | exact @oks_brk _ _ _ | exact @oks_brk _ _ _ _ | exact @oks_brk _ _ _ _ _ | (intros; exact oks_brk) | (intros; apply oks_brk <;> assumption)
theorem tks_cnt : TkS (sCnt G s) = P.ct G s := by
  (try rw [eTk]); (try rw [eTkS]); (try rw [etkSm]); (try rw [etkV]); (try rw [etkVR]); (try rw [etkO]); (try rw [etkA]); (try rw [etkJ]); (try rw [etkB]); (try rw [etkI]); (try rw [etkStr]); (try rw [etkC]); (try rw [etkIf]); (try rw [etkT]); (try rw [etkP]); first | exact @oks_cnt | exact oks_cnt | exact @oks_cnt _ _ | exact @oks_cnt _ | exact @oks_cnt _ _ _ | exact @oks_cnt _ _ _ _ | exact @oks_cnt _ _ _ _ _ | (intros; exact oks_cnt) | (intros; apply oks_cnt <;> assumption)
theorem tks_drop : ∀ {f : M D}, TkS (sDrop f G s) = Tk (K := ⟨fun _ s => P.nx G s, fun c fs s => P.ex c fs G s⟩) (f G s) := by
  (try rw [eTk]); (try rw [eTkS]); (try rw [etkSm]); (try rw [etkV]); (try rw [etkVR]); (try rw [etkO]); (try rw [etkA]); (try rw [etkJ]); (try rw [etkB]); (try rw [etkI]); (try rw [etkStr]); (try rw [etkC]); (try rw [etkIf]); (try rw [etkT]); (try rw [etkP]); first | exact @oks_drop | exact oks_drop | exact @oks_drop _ _ | exact @oks_drop _ | exact @oks_drop _ _ _ | exact @oks_drop _ _ _ _ | exact @oks_drop _ _ _ _ _ | (intros; exact oks_drop) | (intros; apply oks_drop <;> assumption)
theorem tks_ret : ∀ {f : M D}, TkS (sRet f G s) = Tk (K := ⟨fun d s => P.rt d s, fun c fs s => P.ex c fs G s⟩) (f G s) := by
  (try rw [eTk]); (try rw [eTkS]); (try rw [etkSm]); (try rw [etkV]); (try rw [etkVR]); (try rw [etkO]); (try rw [etkA]); (try rw [etkJ]); (try rw [etkB]); (try rw [etkI]); (try rw [etkStr]); (try rw [etkC]); (try rw [etkIf]); (try rw [etkT]); (try rw [etkP]); first | exact @oks_ret | exact oks_ret | exact @oks_ret _ _ | exact @oks_ret _ | exact @oks_ret _ _ _ | exact @oks_ret _ _ _ _ | exact @oks_ret _ _ _ _ _ | (intros; exact oks_ret) | (intros; apply oks_ret <;> assumption)
theorem tks_retN : TkS (sRetN G s) = P.rt .non s := by
  (try rw [eTk]); (try rw [eTkS]); (try rw [etkSm]); (try rw [etkV]); (try rw [etkVR]); (try rw [etkO]); (try rw [etkA]); (try rw [etkJ]); (try rw [etkB]); (try rw [etkI]); (try rw [etkStr]); (try rw [etkC]); (try rw [etkIf]); (try rw [etkT]); (try rw [etkP]); first | exact @oks_retN | exact oks_retN | exact @oks_retN _ _ | exact @oks_retN _ | exact @oks_retN _ _ _ | exact @oks_retN _ _ _ _ | exact @oks_retN _ _ _ _ _ | (intros; exact oks_retN) | (intros; apply oks_retN <;> assumption)
theorem tks_if : ∀ {t : M Bool} {f g : MS}, TkS (sIf t f g G s) = Tk (K := ⟨fun b s => tkIf b ⟨TkS (f G s)⟩ ⟨TkS (g G s)⟩, fun c fs s => P.ex c fs G s⟩) (t G s) := by
  (try rw [eTk]); (try rw [eTkS]); (try rw [etkSm]); (try rw [etkV]); (try rw [etkVR]); (try rw [etkO]); (try rw [etkA]); (try rw [etkJ]); (try rw [etkB]); (try rw [etkI]); (try rw [etkStr]); (try rw [etkC]); (try rw [etkIf]); (try rw [etkT]); (try rw [etkP]); first | exact @oks_if | exact oks_if | exact @oks_if _ _ | exact @oks_if _ | exact @oks_if _ _ _ | exact @oks_if _ _ _ _ | exact @oks_if _ _ _ _ _ | (intros; exact oks_if) | (intros; apply oks_if <;> assumption)
theorem tks_frz : ∀ {i : Nat} {f : MS}, TkS (sFrz i f G s) = TkS (f (frzG i G) s) := by
  (try rw [eTk]); (try rw [eTkS]); (try rw [etkSm]); (try rw [etkV]); (try rw [etkVR]); (try rw [etkO]); (try rw [etkA]); (try rw [etkJ]); (try rw [etkB]); (try rw [etkI]); (try rw [etkStr]); (try rw [etkC]); (try rw [etkIf]); (try rw [etkT]); (try rw [etkP]); first | exact @oks_frz | exact oks_frz | exact @oks_frz _ _ | exact @oks_frz _ | exact @oks_frz _ _ _ | exact @oks_frz _ _ _ _ | exact @oks_frz _ _ _ _ _ | (intros; exact oks_frz) | (intros; apply oks_frz <;> assumption)
theorem tks_set : ∀ {i : Nat} {f : M D}, TkS (sSet i f G s) = Tk (K := ⟨fun d s => P.nx (G.set i (.val d)) s, fun c fs s => P.ex c fs G s⟩) (f G s) := by
  (try rw [eTk]); (try rw [eTkS]); (try rw [etkSm]); (try rw [etkV]); (try rw [etkVR]); (try rw [etkO]); (try rw [etkA]); (try rw [etkJ]); (try rw [etkB]); (try rw [etkI]); (try rw [etkStr]); (try rw [etkC]); (try rw [etkIf]); (try rw [etkT]); (try rw [etkP]); first | exact @oks_set | exact oks_set | exact @oks_set _ _ | exact @oks_set _ | exact @oks_set _ _ _ | exact @oks_set _ _ _ _ | exact @oks_set _ _ _ _ _ | (intros; exact oks_set) | (intros; apply oks_set <;> assumption)
theorem tks_setO : ∀ {i : Nat} {f : M (List D)}, TkS (sSetO i f G s) = Tk (K := ⟨fun ds s => P.nx (G.set i (.own (.lst ds))) s, fun c fs s => P.ex c fs G s⟩) (f G s) := by
  (try rw [eTk]); (try rw [eTkS]); (try rw [etkSm]); (try rw [etkV]); (try rw [etkVR]); (try rw [etkO]); (try rw [etkA]); (try rw [etkJ]); (try rw [etkB]); (try rw [etkI]); (try rw [etkStr]); (try rw [etkC]); (try rw [etkIf]); (try rw [etkT]); (try rw [etkP]); first | exact @oks_setO | exact oks_setO | exact @oks_setO _ _ | exact @oks_setO _ | exact @oks_setO _ _ _ | exact @oks_setO _ _ _ _ | exact @oks_setO _ _ _ _ _ | (intros; exact oks_setO) | (intros; apply oks_setO <;> assumption)
theorem tks_par : ∀ {is : List Nat} {g : M (List Sl)}, TkS (sPar is g G s) = Tk (K := ⟨fun ls s => tkT (X := ⟨P.nx (putS G is ls) s⟩) (decide (ls.length = is.length)), fun c fs s => P.ex c fs G s⟩) (g G s) := by
  (try rw [eTk]); (try rw [eTkS]); (try rw [etkSm]); (try rw [etkV]); (try rw [etkVR]); (try rw [etkO]); (try rw [etkA]); (try rw [etkJ]); (try rw [etkB]); (try rw [etkI]); (try rw [etkStr]); (try rw [etkC]); (try rw [etkIf]); (try rw [etkT]); (try rw [etkP]); first | exact @oks_par | exact oks_par | exact @oks_par _ _ | exact @oks_par _ | exact @oks_par _ _ _ | exact @oks_par _ _ _ _ | exact @oks_par _ _ _ _ _ | (intros; exact oks_par) | (intros; apply oks_par <;> assumption)
theorem tks_mut : ∀ {i : Nat} {g : List D → D → S → Option (List D)} {f : M D}, TkS (sMut i g f G s) = tkO (K := ⟨fun ds => Tk (K := ⟨fun d s => tkSm (K := ⟨fun es => P.nx (G.set i (.own (.lst es))) s⟩) (g ds d s), fun c fs s => P.ex c fs G s⟩) (f G s)⟩) G[i]? := by
  (try rw [eTk]); (try rw [eTkS]); (try rw [etkSm]); (try rw [etkV]); (try rw [etkVR]); (try rw [etkO]); (try rw [etkA]); (try rw [etkJ]); (try rw [etkB]); (try rw [etkI]); (try rw [etkStr]); (try rw [etkC]); (try rw [etkIf]); (try rw [etkT]); (try rw [etkP]); first | exact @oks_mut | exact oks_mut | exact @oks_mut _ _ | exact @oks_mut _ | exact @oks_mut _ _ _ | exact @oks_mut _ _ _ _ | exact @oks_mut _ _ _ _ _ | (intros; exact oks_mut) | (intros; apply oks_mut <;> assumption)
theorem tks_app : ∀ {i : Nat} {f : M D}, TkS (sApp i f G s) = tkO (K := ⟨fun ds => Tk (K := ⟨fun d s => tkT (X := ⟨P.nx (G.set i (.own (.lst (ds ++ [d])))) s⟩) (sz (ds.length + 1)), fun c fs s => P.ex c fs G s⟩) (f G s)⟩) G[i]? := by
  (try rw [eTk]); (try rw [eTkS]); (try rw [etkSm]); (try rw [etkV]); (try rw [etkVR]); (try rw [etkO]); (try rw [etkA]); (try rw [etkJ]); (try rw [etkB]); (try rw [etkI]); (try rw [etkStr]); (try rw [etkC]); (try rw [etkIf]); (try rw [etkT]); (try rw [etkP]); first | exact @oks_app | exact oks_app | exact @oks_app _ _ | exact @oks_app _ | exact @oks_app _ _ _ | exact @oks_app _ _ _ _ | exact @oks_app _ _ _ _ _ | (intros; exact oks_app) | (intros; apply oks_app <;> assumption)
theorem tks_store : ∀ {fo fi fe : M D}, TkS (sStore fo fi fe G s) = Tk (K := ⟨fun v s => Tk (K := ⟨fun a s => Tk (K := ⟨fun k s => tkSm (K := ⟨fun s' => P.nx G s'⟩) (stD a k v s), fun c fs s => P.ex c fs G s⟩) (fi G s), fun c fs s => P.ex c fs G s⟩) (fo G s), fun c fs s => P.ex c fs G s⟩) (fe G s) := by
  (try rw [eTk]); (try rw [eTkS]); (try rw [etkSm]); (try rw [etkV]); (try rw [etkVR]); (try rw [etkO]); (try rw [etkA]); (try rw [etkJ]); (try rw [etkB]); (try rw [etkI]); (try rw [etkStr]); (try rw [etkC]); (try rw [etkIf]); (try rw [etkT]); (try rw [etkP]); first | exact @oks_store | exact oks_store | exact @oks_store _ _ | exact @oks_store _ | exact @oks_store _ _ _ | exact @oks_store _ _ _ _ | exact @oks_store _ _ _ _ _ | (intros; exact oks_store) | (intros; apply oks_store <;> assumption)
theorem tks_fld : ∀ {i : Nat} {c n : Str} {f : M D}, TkS (sFld i c n f G s) = Tk (K := ⟨fun d s => tkJ (K := ⟨fun fs => P.nx (G.set i (.own (.obj c (fs ++ [(n, d)])))) s⟩) G[i]? c n, fun c fs s => P.ex c fs G s⟩) (f G s) := by
  (try rw [eTk]); (try rw [eTkS]); (try rw [etkSm]); (try rw [etkV]); (try rw [etkVR]); (try rw [etkO]); (try rw [etkA]); (try rw [etkJ]); (try rw [etkB]); (try rw [etkI]); (try rw [etkStr]); (try rw [etkC]); (try rw [etkIf]); (try rw [etkT]); (try rw [etkP]); first | exact @oks_fld | exact oks_fld | exact @oks_fld _ _ | exact @oks_fld _ | exact @oks_fld _ _ _ | exact @oks_fld _ _ _ _ | exact @oks_fld _ _ _ _ _ | (intros; exact oks_fld) | (intros; apply oks_fld <;> assumption)
theorem tks_aug : ∀ {i : Nat} {g : D → D → S → Out D} {f : M D}, TkS (sAug i g f G s) = tkA (K := ⟨fun a => Tk (K := ⟨fun b s => Tk (K := ⟨fun d s => P.nx (G.set i (.val d)) s, fun c fs s => P.ex c fs G s⟩) (g a b s), fun c fs s => P.ex c fs G s⟩) (f G s)⟩) G[i]? := by
  (try rw [eTk]); (try rw [eTkS]); (try rw [etkSm]); (try rw [etkV]); (try rw [etkVR]); (try rw [etkO]); (try rw [etkA]); (try rw [etkJ]); (try rw [etkB]); (try rw [etkI]); (try rw [etkStr]); (try rw [etkC]); (try rw [etkIf]); (try rw [etkT]); (try rw [etkP]); first | exact @oks_aug | exact oks_aug | exact @oks_aug _ _ | exact @oks_aug _ | exact @oks_aug _ _ _ | exact @oks_aug _ _ _ _ | exact @oks_aug _ _ _ _ _ | (intros; exact oks_aug) | (intros; apply oks_aug <;> assumption)
theorem tks_for : ∀ {it : M (List D)} {tg : D → List Sl → Option (List Sl)} {b : MS}, TkS (sFor it tg b G s) = Tk (K := ⟨fun ds s => TkS (forL tg b ds G s), fun c fs s => P.ex c fs G s⟩) (it G s) := by
  (try rw [eTk]); (try rw [eTkS]); (try rw [etkSm]); (try rw [etkV]); (try rw [etkVR]); (try rw [etkO]); (try rw [etkA]); (try rw [etkJ]); (try rw [etkB]); (try rw [etkI]); (try rw [etkStr]); (try rw [etkC]); (try rw [etkIf]); (try rw [etkT]); (try rw [etkP]); first | exact @oks_for | exact oks_for | exact @oks_for _ _ | exact @oks_for _ | exact @oks_for _ _ _ | exact @oks_for _ _ _ _ | exact @oks_for _ _ _ _ _ | (intros; exact oks_for) | (intros; apply oks_for <;> assumption)
theorem tks_for0 : ∀ {tg : D → List Sl → Option (List Sl)} {b : MS}, TkS (forL tg b [] G s) = P.nx G s := by
  (try rw [eTk]); (try rw [eTkS]); (try rw [etkSm]); (try rw [etkV]); (try rw [etkVR]); (try rw [etkO]); (try rw [etkA]); (try rw [etkJ]); (try rw [etkB]); (try rw [etkI]); (try rw [etkStr]); (try rw [etkC]); (try rw [etkIf]); (try rw [etkT]); (try rw [etkP]); first | exact @oks_for0 | exact oks_for0 | exact @oks_for0 _ _ | exact @oks_for0 _ | exact @oks_for0 _ _ _ | exact @oks_for0 _ _ _ _ | exact @oks_for0 _ _ _ _ _ | (intros; exact oks_for0) | (intros; apply oks_for0 <;> assumption)
theorem tks_for1 : ∀ {tg : D → List Sl → Option (List Sl)} {b : MS} {d : D} {ds : List D}, TkS (forL tg b (d :: ds) G s) = tkSm (K := ⟨fun G => TkS (P := { P with nx := fun G s => TkS (P := P) (forL tg b ds G s), ct := fun G s => TkS (P := P) (forL tg b ds G s), bk := P.nx }) (b G s)⟩) (tg d G) := by
  (try rw [eTk]); (try rw [eTkS]); (try rw [etkSm]); (try rw [etkV]); (try rw [etkVR]); (try rw [etkO]); (try rw [etkA]); (try rw [etkJ]); (try rw [etkB]); (try rw [etkI]); (try rw [etkStr]); (try rw [etkC]); (try rw [etkIf]); (try rw [etkT]); (try rw [etkP]); first | exact @oks_for1 | exact oks_for1 | exact @oks_for1 _ _ | exact @oks_for1 _ | exact @oks_for1 _ _ _ | exact @oks_for1 _ _ _ _ | exact @oks_for1 _ _ _ _ _ | (intros; exact oks_for1) | (intros; apply oks_for1 <;> assumption)
end
section
variable {s : S} {G : List Sl} {K : Kn D} {L : Kn (List D)} {B : Kn Bool}
theorem tk_var : ∀ {i : Nat}, Tk (xVar i G s) = tkV (K := ⟨fun d => K.q d s⟩) G[i]? := by
  (try rw [eTk]); (try rw [eTkS]); (try rw [etkSm]); (try rw [etkV]); (try rw [etkVR]); (try rw [etkO]); (try rw [etkA]); (try rw [etkJ]); (try rw [etkB]); (try rw [etkI]); (try rw [etkStr]); (try rw [etkC]); (try rw [etkIf]); (try rw [etkT]); (try rw [etkP]); first | exact @ok_var | exact ok_var | exact @ok_var _ _ | exact @ok_var _ | exact @ok_var _ _ _ | exact @ok_var _ _ _ _ | exact @ok_var _ _ _ _ _ | (intros; exact ok_var) | (intros; apply ok_var <;> assumption)
theorem tk_varR : ∀ {i : Nat}, Tk (xVarR i G s) = tkVR (K := ⟨fun d => K.q d s⟩) G[i]? := by
  (try rw [eTk]); (try rw [eTkS]); (try rw [etkSm]); (try rw [etkV]); (try rw [etkVR]); (try rw [etkO]); (try rw [etkA]); (try rw [etkJ]); (try rw [etkB]); (try rw [etkI]); (try rw [etkStr]); (try rw [etkC]); (try rw [etkIf]); (try rw [etkT]); (try rw [etkP]); first | exact @ok_varR | exact ok_varR | exact @ok_varR _ _ | exact @ok_varR _ | exact @ok_varR _ _ _ | exact @ok_varR _ _ _ _ | exact @ok_varR _ _ _ _ _ | (intros; exact ok_varR) | (intros; apply ok_varR <;> assumption)
theorem tk_c : ∀ {d : D}, Tk (xC d G s) = K.q d s := by
  (try rw [eTk]); (try rw [eTkS]); (try rw [etkSm]); (try rw [etkV]); (try rw [etkVR]); (try rw [etkO]); (try rw [etkA]); (try rw [etkJ]); (try rw [etkB]); (try rw [etkI]); (try rw [etkStr]); (try rw [etkC]); (try rw [etkIf]); (try rw [etkT]); (try rw [etkP]); first | exact @ok_c | exact ok_c | exact @ok_c _ _ | exact @ok_c _ | exact @ok_c _ _ _ | exact @ok_c _ _ _ _ | exact @ok_c _ _ _ _ _ | (intros; exact ok_c) | (intros; apply ok_c <;> assumption)
theorem tk_bin : ∀ {g : D → D → S → Out D} {fa fb : M D}, Tk (xBin g fa fb G s) = Tk (K := ⟨fun a s => Tk (K := ⟨fun b s => Tk (g a b s), K.e⟩) (fb G s), K.e⟩) (fa G s) := by
  (try rw [eTk]); (try rw [eTkS]); (try rw [etkSm]); (try rw [etkV]); (try rw [etkVR]); (try rw [etkO]); (try rw [etkA]); (try rw [etkJ]); (try rw [etkB]); (try rw [etkI]); (try rw [etkStr]); (try rw [etkC]); (try rw [etkIf]); (try rw [etkT]); (try rw [etkP]); first | exact @ok_bin | exact ok_bin | exact @ok_bin _ _ | exact @ok_bin _ | exact @ok_bin _ _ _ | exact @ok_bin _ _ _ _ | exact @ok_bin _ _ _ _ _ | (intros; exact ok_bin) | (intros; apply ok_bin <;> assumption)
theorem tk_test : ∀ {f : M D}, Tk (K := B) (xTest f G s) = Tk (K := ⟨fun d s => tkB (K := ⟨fun b => B.q b s⟩) d, B.e⟩) (f G s) := by
  (try rw [eTk]); (try rw [eTkS]); (try rw [etkSm]); (try rw [etkV]); (try rw [etkVR]); (try rw [etkO]); (try rw [etkA]); (try rw [etkJ]); (try rw [etkB]); (try rw [etkI]); (try rw [etkStr]); (try rw [etkC]); (try rw [etkIf]); (try rw [etkT]); (try rw [etkP]); first | exact @ok_test | exact ok_test | exact @ok_test _ _ | exact @ok_test _ | exact @ok_test _ _ _ | exact @ok_test _ _ _ _ | exact @ok_test _ _ _ _ _ | (intros; exact ok_test) | (intros; apply ok_test <;> assumption)
theorem tk_tnot : ∀ {f : M Bool}, Tk (K := B) (yNot f G s) = Tk (K := ⟨fun b s => B.q (!b) s, B.e⟩) (f G s) := by
  (try rw [eTk]); (try rw [eTkS]); (try rw [etkSm]); (try rw [etkV]); (try rw [etkVR]); (try rw [etkO]); (try rw [etkA]); (try rw [etkJ]); (try rw [etkB]); (try rw [etkI]); (try rw [etkStr]); (try rw [etkC]); (try rw [etkIf]); (try rw [etkT]); (try rw [etkP]); first | exact @ok_tnot | exact ok_tnot | exact @ok_tnot _ _ | exact @ok_tnot _ | exact @ok_tnot _ _ _ | exact @ok_tnot _ _ _ _ | exact @ok_tnot _ _ _ _ _ | (intros; exact ok_tnot) | (intros; apply ok_tnot <;> assumption)
theorem tk_yes : Tk (K := B) (yYes G s) = B.q true s := by
  (try rw [eTk]); (try rw [eTkS]); (try rw [etkSm]); (try rw [etkV]); (try rw [etkVR]); (try rw [etkO]); (try rw [etkA]); (try rw [etkJ]); (try rw [etkB]); (try rw [etkI]); (try rw [etkStr]); (try rw [etkC]); (try rw [etkIf]); (try rw [etkT]); (try rw [etkP]); first | exact @ok_yes | exact ok_yes | exact @ok_yes _ _ | exact @ok_yes _ | exact @ok_yes _ _ _ | exact @ok_yes _ _ _ _ | exact @ok_yes _ _ _ _ _ | (intros; exact ok_yes) | (intros; apply ok_yes <;> assumption)
theorem tk_tand : ∀ {f g : M Bool}, Tk (K := B) (yAnd f g G s) = Tk (K := ⟨fun b s => tkIf b ⟨Tk (g G s)⟩ ⟨B.q false s⟩, B.e⟩) (f G s) := by
  (try rw [eTk]); (try rw [eTkS]); (try rw [etkSm]); (try rw [etkV]); (try rw [etkVR]); (try rw [etkO]); (try rw [etkA]); (try rw [etkJ]); (try rw [etkB]); (try rw [etkI]); (try rw [etkStr]); (try rw [etkC]); (try rw [etkIf]); (try rw [etkT]); (try rw [etkP]); first | exact @ok_tand | exact ok_tand | exact @ok_tand _ _ | exact @ok_tand _ | exact @ok_tand _ _ _ | exact @ok_tand _ _ _ _ | exact @ok_tand _ _ _ _ _ | (intros; exact ok_tand) | (intros; apply ok_tand <;> assumption)
theorem tk_tor : ∀ {f g : M Bool}, Tk (K := B) (yOr f g G s) = Tk (K := ⟨fun b s => tkIf b ⟨B.q true s⟩ ⟨Tk (g G s)⟩, B.e⟩) (f G s) := by
  (try rw [eTk]); (try rw [eTkS]); (try rw [etkSm]); (try rw [etkV]); (try rw [etkVR]); (try rw [etkO]); (try rw [etkA]); (try rw [etkJ]); (try rw [etkB]); (try rw [etkI]); (try rw [etkStr]); (try rw [etkC]); (try rw [etkIf]); (try rw [etkT]); (try rw [etkP]); first | exact @ok_tor | exact ok_tor | exact @ok_tor _ _ | exact @ok_tor _ | exact @ok_tor _ _ _ | exact @ok_tor _ _ _ _ | exact @ok_tor _ _ _ _ _ | (intros; exact ok_tor) | (intros; apply ok_tor <;> assumption)
theorem tk_call : ∀ {g : List D → S → Option D} {fl : M (List D)}, Tk (xCall g fl G s) = Tk (K := ⟨fun ds s => tkSm (K := ⟨fun d => K.q d s⟩) (g ds s), K.e⟩) (fl G s) := by
  (try rw [eTk]); (try rw [eTkS]); (try rw [etkSm]); (try rw [etkV]); (try rw [etkVR]); (try rw [etkO]); (try rw [etkA]); (try rw [etkJ]); (try rw [etkB]); (try rw [etkI]); (try rw [etkStr]); (try rw [etkC]); (try rw [etkIf]); (try rw [etkT]); (try rw [etkP]); first | exact @ok_call | exact ok_call | exact @ok_call _ _ | exact @ok_call _ | exact @ok_call _ _ _ | exact @ok_call _ _ _ _ | exact @ok_call _ _ _ _ _ | (intros; exact ok_call) | (intros; apply ok_call <;> assumption)
theorem tk_fn : ∀ {F : List D → S → Out D} {fl : M (List D)}, Tk (xFn F fl G s) = Tk (K := ⟨fun ds s => Tk (F ds s), K.e⟩) (fl G s) := by
  (try rw [eTk]); (try rw [eTkS]); (try rw [etkSm]); (try rw [etkV]); (try rw [etkVR]); (try rw [etkO]); (try rw [etkA]); (try rw [etkJ]); (try rw [etkB]); (try rw [etkI]); (try rw [etkStr]); (try rw [etkC]); (try rw [etkIf]); (try rw [etkT]); (try rw [etkP]); first | exact @ok_fn | exact ok_fn | exact @ok_fn _ _ | exact @ok_fn _ | exact @ok_fn _ _ _ | exact @ok_fn _ _ _ _ | exact @ok_fn _ _ _ _ _ | (intros; exact ok_fn) | (intros; apply ok_fn <;> assumption)
theorem tk_mkF : ∀ {c : Str} {F : List D → S → Out (List (Str × D))} {ds : List D}, Tk (mkF c F ds s) = Tk (K := ⟨fun fs s => K.q (.obj c fs) s, K.e⟩) (F ds s) := by
  (try rw [eTk]); (try rw [eTkS]); (try rw [etkSm]); (try rw [etkV]); (try rw [etkVR]); (try rw [etkO]); (try rw [etkA]); (try rw [etkJ]); (try rw [etkB]); (try rw [etkI]); (try rw [etkStr]); (try rw [etkC]); (try rw [etkIf]); (try rw [etkT]); (try rw [etkP]); first | exact @ok_mkF | exact ok_mkF | exact @ok_mkF _ _ | exact @ok_mkF _ | exact @ok_mkF _ _ _ | exact @ok_mkF _ _ _ _ | exact @ok_mkF _ _ _ _ _ | (intros; exact ok_mkF) | (intros; apply ok_mkF <;> assumption)
theorem tk_nil : Tk (K := L) (xNil G s) = L.q [] s := by
  (try rw [eTk]); (try rw [eTkS]); (try rw [etkSm]); (try rw [etkV]); (try rw [etkVR]); (try rw [etkO]); (try rw [etkA]); (try rw [etkJ]); (try rw [etkB]); (try rw [etkI]); (try rw [etkStr]); (try rw [etkC]); (try rw [etkIf]); (try rw [etkT]); (try rw [etkP]); first | exact @ok_nil | exact ok_nil | exact @ok_nil _ _ | exact @ok_nil _ | exact @ok_nil _ _ _ | exact @ok_nil _ _ _ _ | exact @ok_nil _ _ _ _ _ | (intros; exact ok_nil) | (intros; apply ok_nil <;> assumption)
theorem tk_cons : ∀ {f : M D} {g : M (List D)}, Tk (K := L) (xCons f g G s) = Tk (K := ⟨fun d s => Tk (K := ⟨fun ds s => L.q (d :: ds) s, L.e⟩) (g G s), L.e⟩) (f G s) := by
  (try rw [eTk]); (try rw [eTkS]); (try rw [etkSm]); (try rw [etkV]); (try rw [etkVR]); (try rw [etkO]); (try rw [etkA]); (try rw [etkJ]); (try rw [etkB]); (try rw [etkI]); (try rw [etkStr]); (try rw [etkC]); (try rw [etkIf]); (try rw [etkT]); (try rw [etkP]); first | exact @ok_cons | exact ok_cons | exact @ok_cons _ _ | exact @ok_cons _ | exact @ok_cons _ _ _ | exact @ok_cons _ _ _ _ | exact @ok_cons _ _ _ _ _ | (intros; exact ok_cons) | (intros; apply ok_cons <;> assumption)
theorem tk_attr : ∀ {n : Str} {f : M D}, Tk (xAttr n f G s) = Tk (K := ⟨fun d s => tkSm (K := ⟨fun d => K.q d s⟩) (atD n d), K.e⟩) (f G s) := by
  (try rw [eTk]); (try rw [eTkS]); (try rw [etkSm]); (try rw [etkV]); (try rw [etkVR]); (try rw [etkO]); (try rw [etkA]); (try rw [etkJ]); (try rw [etkB]); (try rw [etkI]); (try rw [etkStr]); (try rw [etkC]); (try rw [etkIf]); (try rw [etkT]); (try rw [etkP]); first | exact @ok_attr | exact ok_attr | exact @ok_attr _ _ | exact @ok_attr _ | exact @ok_attr _ _ _ | exact @ok_attr _ _ _ _ | exact @ok_attr _ _ _ _ _ | (intros; exact ok_attr) | (intros; apply ok_attr <;> assumption)
theorem tk_meth : ∀ {c : Str} {F : List D → S → Out D} {fa : M D} {fl : M (List D)}, Tk (xMeth c F fa fl G s) = Tk (K := ⟨fun d s => tkC (K := ⟨fun fs => Tk (K := ⟨fun ds s => Tk (F (.obj c fs :: ds) s), K.e⟩) (fl G s)⟩) d c, K.e⟩) (fa G s) := by
  (try rw [eTk]); (try rw [eTkS]); (try rw [etkSm]); (try rw [etkV]); (try rw [etkVR]); (try rw [etkO]); (try rw [etkA]); (try rw [etkJ]); (try rw [etkB]); (try rw [etkI]); (try rw [etkStr]); (try rw [etkC]); (try rw [etkIf]); (try rw [etkT]); (try rw [etkP]); first | exact @ok_meth | exact ok_meth | exact @ok_meth _ _ | exact @ok_meth _ | exact @ok_meth _ _ _ | exact @ok_meth _ _ _ _ | exact @ok_meth _ _ _ _ _ | (intros; exact ok_meth) | (intros; apply ok_meth <;> assumption)
theorem tk_xif : ∀ {t : M Bool} {f g : M D}, Tk (xIf t f g G s) = Tk (K := ⟨fun b s => tkIf b ⟨Tk (f G s)⟩ ⟨Tk (g G s)⟩, K.e⟩) (t G s) := by
  (try rw [eTk]); (try rw [eTkS]); (try rw [etkSm]); (try rw [etkV]); (try rw [etkVR]); (try rw [etkO]); (try rw [etkA]); (try rw [etkJ]); (try rw [etkB]); (try rw [etkI]); (try rw [etkStr]); (try rw [etkC]); (try rw [etkIf]); (try rw [etkT]); (try rw [etkP]); first | exact @ok_xif | exact ok_xif | exact @ok_xif _ _ | exact @ok_xif _ | exact @ok_xif _ _ _ | exact @ok_xif _ _ _ _ | exact @ok_xif _ _ _ _ _ | (intros; exact ok_xif) | (intros; apply ok_xif <;> assumption)
theorem tk_seqI : ∀ {f : M D}, Tk (K := L) (xSeq f G s) = Tk (K := ⟨fun d s => tkSm (K := ⟨fun d => L.q d s⟩) (seqD d), L.e⟩) (f G s) := by
  (try rw [eTk]); (try rw [eTkS]); (try rw [etkSm]); (try rw [etkV]); (try rw [etkVR]); (try rw [etkO]); (try rw [etkA]); (try rw [etkJ]); (try rw [etkB]); (try rw [etkI]); (try rw [etkStr]); (try rw [etkC]); (try rw [etkIf]); (try rw [etkT]); (try rw [etkP]); first | exact @ok_seqI | exact ok_seqI | exact @ok_seqI _ _ | exact @ok_seqI _ | exact @ok_seqI _ _ _ | exact @ok_seqI _ _ _ _ | exact @ok_seqI _ _ _ _ _ | (intros; exact ok_seqI) | (intros; apply ok_seqI <;> assumption)
theorem tk_enum : ∀ {f : M D}, Tk (K := L) (xEnum f G s) = Tk (K := ⟨fun d s => tkSm (K := ⟨fun d => L.q d s⟩) (enumD d), L.e⟩) (f G s) := by
  (try rw [eTk]); (try rw [eTkS]); (try rw [etkSm]); (try rw [etkV]); (try rw [etkVR]); (try rw [etkO]); (try rw [etkA]); (try rw [etkJ]); (try rw [etkB]); (try rw [etkI]); (try rw [etkStr]); (try rw [etkC]); (try rw [etkIf]); (try rw [etkT]); (try rw [etkP]); first | exact @ok_enum | exact ok_enum | exact @ok_enum _ _ | exact @ok_enum _ | exact @ok_enum _ _ _ | exact @ok_enum _ _ _ _ | exact @ok_enum _ _ _ _ _ | (intros; exact ok_enum) | (intros; apply ok_enum <;> assumption)
theorem tk_rng1 : ∀ {f : M (List D)}, Tk (K := L) (xRng1 f G s) = Tk (K := ⟨fun d s => tkSm (K := ⟨fun d => L.q d s⟩) (rngD1 d), L.e⟩) (f G s) := by
  (try rw [eTk]); (try rw [eTkS]); (try rw [etkSm]); (try rw [etkV]); (try rw [etkVR]); (try rw [etkO]); (try rw [etkA]); (try rw [etkJ]); (try rw [etkB]); (try rw [etkI]); (try rw [etkStr]); (try rw [etkC]); (try rw [etkIf]); (try rw [etkT]); (try rw [etkP]); first | exact @ok_rng1 | exact ok_rng1 | exact @ok_rng1 _ _ | exact @ok_rng1 _ | exact @ok_rng1 _ _ _ | exact @ok_rng1 _ _ _ _ | exact @ok_rng1 _ _ _ _ _ | (intros; exact ok_rng1) | (intros; apply ok_rng1 <;> assumption)
theorem tk_rng2 : ∀ {f : M (List D)}, Tk (K := L) (xRng2 f G s) = Tk (K := ⟨fun d s => tkSm (K := ⟨fun d => L.q d s⟩) (rngD2 d), L.e⟩) (f G s) := by
  (try rw [eTk]); (try rw [eTkS]); (try rw [etkSm]); (try rw [etkV]); (try rw [etkVR]); (try rw [etkO]); (try rw [etkA]); (try rw [etkJ]); (try rw [etkB]); (try rw [etkI]); (try rw [etkStr]); (try rw [etkC]); (try rw [etkIf]); (try rw [etkT]); (try rw [etkP]); first | exact @ok_rng2 | exact ok_rng2 | exact @ok_rng2 _ _ | exact @ok_rng2 _ | exact @ok_rng2 _ _ _ | exact @ok_rng2 _ _ _ _ | exact @ok_rng2 _ _ _ _ _ | (intros; exact ok_rng2) | (intros; apply ok_rng2 <;> assumption)
theorem tk_loc : ∀ {f : M (List D)}, Tk (xLoc f G s) = Tk (K := ⟨fun ds s => K.q (.loc s.nx) (addLoc s (.lst ds)), K.e⟩) (f G s) := by
  (try rw [eTk]); (try rw [eTkS]); (try rw [etkSm]); (try rw [etkV]); (try rw [etkVR]); (try rw [etkO]); (try rw [etkA]); (try rw [etkJ]); (try rw [etkB]); (try rw [etkI]); (try rw [etkStr]); (try rw [etkC]); (try rw [etkIf]); (try rw [etkT]); (try rw [etkP]); first | exact @ok_loc | exact ok_loc | exact @ok_loc _ _ | exact @ok_loc _ | exact @ok_loc _ _ _ | exact @ok_loc _ _ _ _ | exact @ok_loc _ _ _ _ _ | (intros; exact ok_loc) | (intros; apply ok_loc <;> assumption)
theorem tk_lc : ∀ {it : M (List D)} {vs : List Nat} {tg : D → List Sl → Option (List Sl)} {t : M Bool} {e : M D}, Tk (K := L) (xLc it vs tg t e G s) = Tk (K := ⟨fun ds s => tkT (X := ⟨Tk (lcL tg t e (wipeG G vs) ds s)⟩) (sz ds.length), L.e⟩) (it G s) := by
  (try rw [eTk]); (try rw [eTkS]); (try rw [etkSm]); (try rw [etkV]); (try rw [etkVR]); (try rw [etkO]); (try rw [etkA]); (try rw [etkJ]); (try rw [etkB]); (try rw [etkI]); (try rw [etkStr]); (try rw [etkC]); (try rw [etkIf]); (try rw [etkT]); (try rw [etkP]); first | exact @ok_lc | exact ok_lc | exact @ok_lc _ _ | exact @ok_lc _ | exact @ok_lc _ _ _ | exact @ok_lc _ _ _ _ | exact @ok_lc _ _ _ _ _ | (intros; exact ok_lc) | (intros; apply ok_lc <;> assumption)
theorem tk_neg : ∀ {f : M D}, Tk (xNeg f G s) = Tk (K := ⟨fun d s => tkI (K := ⟨fun i => K.q (.int (-i)) s⟩) d, K.e⟩) (f G s) := by
  (try rw [eTk]); (try rw [eTkS]); (try rw [etkSm]); (try rw [etkV]); (try rw [etkVR]); (try rw [etkO]); (try rw [etkA]); (try rw [etkJ]); (try rw [etkB]); (try rw [etkI]); (try rw [etkStr]); (try rw [etkC]); (try rw [etkIf]); (try rw [etkT]); (try rw [etkP]); first | exact @ok_neg | exact ok_neg | exact @ok_neg _ _ | exact @ok_neg _ | exact @ok_neg _ _ _ | exact @ok_neg _ _ _ _ | exact @ok_neg _ _ _ _ _ | (intros; exact ok_neg) | (intros; apply ok_neg <;> assumption)
theorem tk_no : ∀ {L : Kn (Option Int)}, Tk (xNo G s) = L.q none s := by
  (try rw [eTk]); (try rw [eTkS]); (try rw [etkSm]); (try rw [etkV]); (try rw [etkVR]); (try rw [etkO]); (try rw [etkA]); (try rw [etkJ]); (try rw [etkB]); (try rw [etkI]); (try rw [etkStr]); (try rw [etkC]); (try rw [etkIf]); (try rw [etkT]); (try rw [etkP]); first | exact @ok_no | exact ok_no | exact @ok_no _ _ | exact @ok_no _ | exact @ok_no _ _ _ | exact @ok_no _ _ _ _ | exact @ok_no _ _ _ _ _ | (intros; exact ok_no) | (intros; apply ok_no <;> assumption)
theorem tk_part : ∀ {L : Kn (Option Int)} {f : M D}, Tk (xPart f G s) = Tk (K := ⟨fun d s => tkI (K := ⟨fun i => L.q (some i) s⟩) d, L.e⟩) (f G s) := by
  (try rw [eTk]); (try rw [eTkS]); (try rw [etkSm]); (try rw [etkV]); (try rw [etkVR]); (try rw [etkO]); (try rw [etkA]); (try rw [etkJ]); (try rw [etkB]); (try rw [etkI]); (try rw [etkStr]); (try rw [etkC]); (try rw [etkIf]); (try rw [etkT]); (try rw [etkP]); first | exact @ok_part | exact ok_part | exact @ok_part _ _ | exact @ok_part _ | exact @ok_part _ _ _ | exact @ok_part _ _ _ _ | exact @ok_part _ _ _ _ _ | (intros; exact ok_part) | (intros; apply ok_part <;> assumption)
theorem tk_sl : ∀ {f : M D} {l h : M (Option Int)}, Tk (xSl f l h G s) = Tk (K := ⟨fun d s => Tk (K := ⟨fun i s => Tk (K := ⟨fun j s => tkSm (K := ⟨fun d => K.q d s⟩) (slD d i j), K.e⟩) (h G s), K.e⟩) (l G s), K.e⟩) (f G s) := by
  (try rw [eTk]); (try rw [eTkS]); (try rw [etkSm]); (try rw [etkV]); (try rw [etkVR]); (try rw [etkO]); (try rw [etkA]); (try rw [etkJ]); (try rw [etkB]); (try rw [etkI]); (try rw [etkStr]); (try rw [etkC]); (try rw [etkIf]); (try rw [etkT]); (try rw [etkP]); first | exact @ok_sl | exact ok_sl | exact @ok_sl _ _ | exact @ok_sl _ | exact @ok_sl _ _ _ | exact @ok_sl _ _ _ _ | exact @ok_sl _ _ _ _ _ | (intros; exact ok_sl) | (intros; apply ok_sl <;> assumption)
theorem tk_xsNil : ∀ {L : Kn (List Sl)}, Tk (xsNil G s) = L.q [] s := by
  (try rw [eTk]); (try rw [eTkS]); (try rw [etkSm]); (try rw [etkV]); (try rw [etkVR]); (try rw [etkO]); (try rw [etkA]); (try rw [etkJ]); (try rw [etkB]); (try rw [etkI]); (try rw [etkStr]); (try rw [etkC]); (try rw [etkIf]); (try rw [etkT]); (try rw [etkP]); first | exact @ok_xsNil | exact ok_xsNil | exact @ok_xsNil _ _ | exact @ok_xsNil _ | exact @ok_xsNil _ _ _ | exact @ok_xsNil _ _ _ _ | exact @ok_xsNil _ _ _ _ _ | (intros; exact ok_xsNil) | (intros; apply ok_xsNil <;> assumption)
theorem tk_xsV : ∀ {L : Kn (List Sl)} {f : M D} {g : M (List Sl)}, Tk (xsV f g G s) = Tk (K := ⟨fun d s => Tk (K := ⟨fun ls s => L.q (.val d :: ls) s, L.e⟩) (g G s), L.e⟩) (f G s) := by
  (try rw [eTk]); (try rw [eTkS]); (try rw [etkSm]); (try rw [etkV]); (try rw [etkVR]); (try rw [etkO]); (try rw [etkA]); (try rw [etkJ]); (try rw [etkB]); (try rw [etkI]); (try rw [etkStr]); (try rw [etkC]); (try rw [etkIf]); (try rw [etkT]); (try rw [etkP]); first | exact @ok_xsV | exact ok_xsV | exact @ok_xsV _ _ | exact @ok_xsV _ | exact @ok_xsV _ _ _ | exact @ok_xsV _ _ _ _ | exact @ok_xsV _ _ _ _ _ | (intros; exact ok_xsV) | (intros; apply ok_xsV <;> assumption)
theorem tk_xsO : ∀ {L : Kn (List Sl)} {f : M (List D)} {g : M (List Sl)}, Tk (xsO f g G s) = Tk (K := ⟨fun d s => Tk (K := ⟨fun ls s => L.q (.own (.lst d) :: ls) s, L.e⟩) (g G s), L.e⟩) (f G s) := by
  (try rw [eTk]); (try rw [eTkS]); (try rw [etkSm]); (try rw [etkV]); (try rw [etkVR]); (try rw [etkO]); (try rw [etkA]); (try rw [etkJ]); (try rw [etkB]); (try rw [etkI]); (try rw [etkStr]); (try rw [etkC]); (try rw [etkIf]); (try rw [etkT]); (try rw [etkP]); first | exact @ok_xsO | exact ok_xsO | exact @ok_xsO _ _ | exact @ok_xsO _ | exact @ok_xsO _ _ _ | exact @ok_xsO _ _ _ _ | exact @ok_xsO _ _ _ _ _ | (intros; exact ok_xsO) | (intros; apply ok_xsO <;> assumption)
theorem tk_xnot : ∀ {f : M D}, Tk (xNot f G s) = Tk (K := ⟨fun d s => tkB (K := ⟨fun b => K.q (.bl (!b)) s⟩) d, K.e⟩) (f G s) := by
  (try rw [eTk]); (try rw [eTkS]); (try rw [etkSm]); (try rw [etkV]); (try rw [etkVR]); (try rw [etkO]); (try rw [etkA]); (try rw [etkJ]); (try rw [etkB]); (try rw [etkI]); (try rw [etkStr]); (try rw [etkC]); (try rw [etkIf]); (try rw [etkT]); (try rw [etkP]); first | exact @ok_xnot | exact ok_xnot | exact @ok_xnot _ _ | exact @ok_xnot _ | exact @ok_xnot _ _ _ | exact @ok_xnot _ _ _ _ | exact @ok_xnot _ _ _ _ _ | (intros; exact ok_xnot) | (intros; apply ok_xnot <;> assumption)
theorem tk_xand : ∀ {f g : M D}, Tk (xAnd f g G s) = Tk (K := ⟨fun d s => tkB (K := ⟨fun b => tkIf b ⟨Tk (g G s)⟩ ⟨K.q (.bl false) s⟩⟩) d, K.e⟩) (f G s) := by
  (try rw [eTk]); (try rw [eTkS]); (try rw [etkSm]); (try rw [etkV]); (try rw [etkVR]); (try rw [etkO]); (try rw [etkA]); (try rw [etkJ]); (try rw [etkB]); (try rw [etkI]); (try rw [etkStr]); (try rw [etkC]); (try rw [etkIf]); (try rw [etkT]); (try rw [etkP]); first | exact @ok_xand | exact ok_xand | exact @ok_xand _ _ | exact @ok_xand _ | exact @ok_xand _ _ _ | exact @ok_xand _ _ _ _ | exact @ok_xand _ _ _ _ _ | (intros; exact ok_xand) | (intros; apply ok_xand <;> assumption)
theorem tk_xor : ∀ {f g : M D}, Tk (xOr f g G s) = Tk (K := ⟨fun d s => tkB (K := ⟨fun b => tkIf b ⟨K.q (.bl true) s⟩ ⟨Tk (g G s)⟩⟩) d, K.e⟩) (f G s) := by
  (try rw [eTk]); (try rw [eTkS]); (try rw [etkSm]); (try rw [etkV]); (try rw [etkVR]); (try rw [etkO]); (try rw [etkA]); (try rw [etkJ]); (try rw [etkB]); (try rw [etkI]); (try rw [etkStr]); (try rw [etkC]); (try rw [etkIf]); (try rw [etkT]); (try rw [etkP]); first | exact @ok_xor | exact ok_xor | exact @ok_xor _ _ | exact @ok_xor _ | exact @ok_xor _ _ _ | exact @ok_xor _ _ _ _ | exact @ok_xor _ _ _ _ _ | (intros; exact ok_xor) | (intros; apply ok_xor <;> assumption)
theorem tk_lst : ∀ {f : M (List D)}, Tk (xLst f G s) = Tk (K := ⟨fun ds s => K.q (.lst ds) s, K.e⟩) (f G s) := by
  (try rw [eTk]); (try rw [eTkS]); (try rw [etkSm]); (try rw [etkV]); (try rw [etkVR]); (try rw [etkO]); (try rw [etkA]); (try rw [etkJ]); (try rw [etkB]); (try rw [etkI]); (try rw [etkStr]); (try rw [etkC]); (try rw [etkIf]); (try rw [etkT]); (try rw [etkP]); first | exact @ok_lst | exact ok_lst | exact @ok_lst _ _ | exact @ok_lst _ | exact @ok_lst _ _ _ | exact @ok_lst _ _ _ _ | exact @ok_lst _ _ _ _ _ | (intros; exact ok_lst) | (intros; apply ok_lst <;> assumption)
theorem tk_tup : ∀ {f : M (List D)}, Tk (xTup f G s) = Tk (K := ⟨fun ds s => K.q (.tup ds) s, K.e⟩) (f G s) := by
  (try rw [eTk]); (try rw [eTkS]); (try rw [etkSm]); (try rw [etkV]); (try rw [etkVR]); (try rw [etkO]); (try rw [etkA]); (try rw [etkJ]); (try rw [etkB]); (try rw [etkI]); (try rw [etkStr]); (try rw [etkC]); (try rw [etkIf]); (try rw [etkT]); (try rw [etkP]); first | exact @ok_tup | exact ok_tup | exact @ok_tup _ _ | exact @ok_tup _ | exact @ok_tup _ _ _ | exact @ok_tup _ _ _ _ | exact @ok_tup _ _ _ _ _ | (intros; exact ok_tup) | (intros; apply ok_tup <;> assumption)
theorem tk_sz : ∀ {f : M (List D)}, Tk (K := L) (xSz f G s) = Tk (K := ⟨fun ds s => tkT (X := ⟨L.q ds s⟩) (sz ds.length), L.e⟩) (f G s) := by
  (try rw [eTk]); (try rw [eTkS]); (try rw [etkSm]); (try rw [etkV]); (try rw [etkVR]); (try rw [etkO]); (try rw [etkA]); (try rw [etkJ]); (try rw [etkB]); (try rw [etkI]); (try rw [etkStr]); (try rw [etkC]); (try rw [etkIf]); (try rw [etkT]); (try rw [etkP]); first | exact @ok_sz | exact ok_sz | exact @ok_sz _ _ | exact @ok_sz _ | exact @ok_sz _ _ _ | exact @ok_sz _ _ _ _ | exact @ok_sz _ _ _ _ _ | (intros; exact ok_sz) | (intros; apply ok_sz <;> assumption)
theorem tk_chain : ∀ {g g' : D → D → S → Out D} {fa fb fc : M D}, Tk (xChain g g' fa fb fc G s) = Tk (K := ⟨fun a s => Tk (K := ⟨fun b s => Tk (K := ⟨fun k s => tkB (K := ⟨fun k => tkIf k ⟨Tk (K := ⟨fun c s => Tk (g' b c s), K.e⟩) (fc G s)⟩ ⟨K.q (.bl false) s⟩⟩) k, K.e⟩) (g a b s), K.e⟩) (fb G s), K.e⟩) (fa G s) := by
  (try rw [eTk]); (try rw [eTkS]); (try rw [etkSm]); (try rw [etkV]); (try rw [etkVR]); (try rw [etkO]); (try rw [etkA]); (try rw [etkJ]); (try rw [etkB]); (try rw [etkI]); (try rw [etkStr]); (try rw [etkC]); (try rw [etkIf]); (try rw [etkT]); (try rw [etkP]); first | exact @ok_chain | exact ok_chain | exact @ok_chain _ _ | exact @ok_chain _ | exact @ok_chain _ _ _ | exact @ok_chain _ _ _ _ | exact @ok_chain _ _ _ _ _ | (intros; exact ok_chain) | (intros; apply ok_chain <;> assumption)
theorem tk_s1 : ∀ {g : Str → D → S → Option D} {fo fa : M D}, Tk (xS1 g fo fa G s) = Tk (K := ⟨fun a s => tkStr (K := ⟨fun z => Tk (K := ⟨fun b s => tkSm (K := ⟨fun d => K.q d s⟩) (g z b s), K.e⟩) (fa G s)⟩) a, K.e⟩) (fo G s) := by
  (try rw [eTk]); (try rw [eTkS]); (try rw [etkSm]); (try rw [etkV]); (try rw [etkVR]); (try rw [etkO]); (try rw [etkA]); (try rw [etkJ]); (try rw [etkB]); (try rw [etkI]); (try rw [etkStr]); (try rw [etkC]); (try rw [etkIf]); (try rw [etkT]); (try rw [etkP]); first | exact @ok_s1 | exact ok_s1 | exact @ok_s1 _ _ | exact @ok_s1 _ | exact @ok_s1 _ _ _ | exact @ok_s1 _ _ _ _ | exact @ok_s1 _ _ _ _ _ | (intros; exact ok_s1) | (intros; apply ok_s1 <;> assumption)
theorem tk_maxDf : ∀ {fa fz : M D}, Tk (xMaxDf fa fz G s) = Tk (K := ⟨fun a s => Tk (K := ⟨fun z s => tkSm (K := ⟨fun d => K.q d s⟩) (maxDf a z), K.e⟩) (fz G s), K.e⟩) (fa G s) := by
  (try rw [eTk]); (try rw [eTkS]); (try rw [etkSm]); (try rw [etkV]); (try rw [etkVR]); (try rw [etkO]); (try rw [etkA]); (try rw [etkJ]); (try rw [etkB]); (try rw [etkI]); (try rw [etkStr]); (try rw [etkC]); (try rw [etkIf]); (try rw [etkT]); (try rw [etkP]); first | exact @ok_maxDf | exact ok_maxDf | exact @ok_maxDf _ _ | exact @ok_maxDf _ | exact @ok_maxDf _ _ _ | exact @ok_maxDf _ _ _ _ | exact @ok_maxDf _ _ _ _ _ | (intros; exact ok_maxDf) | (intros; apply ok_maxDf <;> assumption)
theorem tk_star : ∀ {f : M D} {g : M (List D)}, Tk (K := L) (xStar f g G s) = Tk (K := ⟨fun d s => tkSm (K := ⟨fun xs => Tk (K := ⟨fun ys s => L.q (xs ++ ys) s, L.e⟩) (g G s)⟩) (itemsD s d), L.e⟩) (f G s) := by
  (try rw [eTk]); (try rw [eTkS]); (try rw [etkSm]); (try rw [etkV]); (try rw [etkVR]); (try rw [etkO]); (try rw [etkA]); (try rw [etkJ]); (try rw [etkB]); (try rw [etkI]); (try rw [etkStr]); (try rw [etkC]); (try rw [etkIf]); (try rw [etkT]); (try rw [etkP]); first | exact @ok_star | exact ok_star | exact @ok_star _ _ | exact @ok_star _ | exact @ok_star _ _ _ | exact @ok_star _ _ _ _ | exact @ok_star _ _ _ _ _ | (intros; exact ok_star) | (intros; apply ok_star <;> assumption)
theorem tk_runF : ∀ {n N : Nat} {m : MS} {ds : List D} (h : ds.length = n), Tk (runF n N m ds s) = TkS (P := ⟨fun _ s => K.q .non s, K.q, fun _ _ => False, fun _ _ => False, fun c fs _ s => K.e c fs s⟩) (m (ds.map .val ++ List.replicate (N - n) .un) s) := by
  (try rw [eTk]); (try rw [eTkS]); (try rw [etkSm]); (try rw [etkV]); (try rw [etkVR]); (try rw [etkO]); (try rw [etkA]); (try rw [etkJ]); (try rw [etkB]); (try rw [etkI]); (try rw [etkStr]); (try rw [etkC]); (try rw [etkIf]); (try rw [etkT]); (try rw [etkP]); first | exact @ok_runF | exact ok_runF | exact @ok_runF _ _ | exact @ok_runF _ | exact @ok_runF _ _ _ | exact @ok_runF _ _ _ _ | exact @ok_runF _ _ _ _ _ | (intros; exact ok_runF) | (intros; apply ok_runF <;> assumption)
theorem tk_runI : ∀ {K : Kn (List (Str × D))} {c : Str} {n N : Nat} {m : MS} {ds : List D} (h : ds.length + 1 = n), Tk (runI c n N m ds s) = TkS (P := ⟨fun G s => ∃ fs r, G = .own (.obj c fs) :: r ∧ K.q fs s, fun _ _ => False, fun _ _ => False, fun _ _ => False, fun c fs _ s => K.e c fs s⟩) (m (.own (.obj c []) :: ds.map .val ++ List.replicate (N - n) .un) s) := by
  (try rw [eTk]); (try rw [eTkS]); (try rw [etkSm]); (try rw [etkV]); (try rw [etkVR]); (try rw [etkO]); (try rw [etkA]); (try rw [etkJ]); (try rw [etkB]); (try rw [etkI]); (try rw [etkStr]); (try rw [etkC]); (try rw [etkIf]); (try rw [etkT]); (try rw [etkP]); first | exact @ok_runI | exact ok_runI | exact @ok_runI _ _ | exact @ok_runI _ | exact @ok_runI _ _ _ | exact @ok_runI _ _ _ _ | exact @ok_runI _ _ _ _ _ | (intros; exact ok_runI) | (intros; apply ok_runI <;> assumption)
theorem tk_starI : ∀ {K : Kn (List (Str × D))} {n : Nat} {F : List D → S → Out (List (Str × D))} {ds : List D} (h : n ≤ ds.length ∧ sz ds.length = true), Tk (starI n F ds s) = Tk (F (ds.take n ++ [.tup (ds.drop n)]) s) := by
  (try rw [eTk]); (try rw [eTkS]); (try rw [etkSm]); (try rw [etkV]); (try rw [etkVR]); (try rw [etkO]); (try rw [etkA]); (try rw [etkJ]); (try rw [etkB]); (try rw [etkI]); (try rw [etkStr]); (try rw [etkC]); (try rw [etkIf]); (try rw [etkT]); (try rw [etkP]); first | exact @ok_starI | exact ok_starI | exact @ok_starI _ _ | exact @ok_starI _ | exact @ok_starI _ _ _ | exact @ok_starI _ _ _ _ | exact @ok_starI _ _ _ _ _ | (intros; exact ok_starI) | (intros; apply ok_starI <;> assumption)
theorem tk_starF : ∀ {n : Nat} {F : List D → S → Out D} {ds : List D} (h : n ≤ ds.length ∧ sz ds.length = true), Tk (starF n F ds s) = Tk (F (ds.take n ++ [.tup (ds.drop n)]) s) := by
  (try rw [eTk]); (try rw [eTkS]); (try rw [etkSm]); (try rw [etkV]); (try rw [etkVR]); (try rw [etkO]); (try rw [etkA]); (try rw [etkJ]); (try rw [etkB]); (try rw [etkI]); (try rw [etkStr]); (try rw [etkC]); (try rw [etkIf]); (try rw [etkT]); (try rw [etkP]); first | exact @ok_starF | exact ok_starF | exact @ok_starF _ _ | exact @ok_starF _ | exact @ok_starF _ _ _ | exact @ok_starF _ _ _ _ | exact @ok_starF _ _ _ _ _ | (intros; exact ok_starF) | (intros; apply ok_starF <;> assumption)
end
theorem tin_runF : ∀ {s : S} {K : Kn D} {n N : Nat} {m : MS} {ds : List D} (h : ds.length = n) (z : TkS (P := ⟨fun _ s => K.q .non s, K.q, fun _ _ => False, fun _ _ => False, fun c fs _ s => K.e c fs s⟩) (m (ds.map .val ++ List.replicate (N - n) .un) s)), Tk (runF n N m ds s) := by
  (try rw [eTk]); (try rw [eTkS]); (try rw [etkSm]); (try rw [etkV]); (try rw [etkVR]); (try rw [etkO]); (try rw [etkA]); (try rw [etkJ]); (try rw [etkB]); (try rw [etkI]); (try rw [etkStr]); (try rw [etkC]); (try rw [etkIf]); (try rw [etkT]); (try rw [etkP]); first | exact @in_runF | exact in_runF | exact @in_runF _ _ | exact @in_runF _ | exact @in_runF _ _ _ | exact @in_runF _ _ _ _ | exact @in_runF _ _ _ _ _ | (intros; exact in_runF) | (intros; apply in_runF <;> assumption)
theorem tin_runI : ∀ {s : S} {K : Kn (List (Str × D))} {c : Str} {n N : Nat} {m : MS} {ds : List D} (h : ds.length + 1 = n) (z : TkS (P := ⟨fun G s => ∃ fs r, G = .own (.obj c fs) :: r ∧ K.q fs s, fun _ _ => False, fun _ _ => False, fun _ _ => False, fun c fs _ s => K.e c fs s⟩) (m (.own (.obj c []) :: ds.map .val ++ List.replicate (N - n) .un) s)), Tk (runI c n N m ds s) := by
  (try rw [eTk]); (try rw [eTkS]); (try rw [etkSm]); (try rw [etkV]); (try rw [etkVR]); (try rw [etkO]); (try rw [etkA]); (try rw [etkJ]); (try rw [etkB]); (try rw [etkI]); (try rw [etkStr]); (try rw [etkC]); (try rw [etkIf]); (try rw [etkT]); (try rw [etkP]); first | exact @in_runI | exact in_runI | exact @in_runI _ _ | exact @in_runI _ | exact @in_runI _ _ _ | exact @in_runI _ _ _ _ | exact @in_runI _ _ _ _ _ | (intros; exact in_runI) | (intros; apply in_runI <;> assumption)
theorem tk_cut : ∀ {α : Type} {o : Out α} {K : Kn α} (R : α → S → Prop) (h : Tk (K := ⟨R, noE⟩) o) (hq : ∀ a s, R a s → K.q a s), Tk o := by
  (try rw [eTk]); (try rw [eTkS]); (try rw [etkSm]); (try rw [etkV]); (try rw [etkVR]); (try rw [etkO]); (try rw [etkA]); (try rw [etkJ]); (try rw [etkB]); (try rw [etkI]); (try rw [etkStr]); (try rw [etkC]); (try rw [etkIf]); (try rw [etkT]); (try rw [etkP]); first | exact @ok_cut | exact ok_cut | exact @ok_cut _ _ | exact @ok_cut _ | exact @ok_cut _ _ _ | exact @ok_cut _ _ _ _ | exact @ok_cut _ _ _ _ _ | (intros; exact ok_cut) | (intros; apply ok_cut <;> assumption)
theorem tks_cut : ∀ {o : OS} {P : Ps} (R : List Sl → S → Prop) (h : TkS (P := { P with nx := R }) o) (hq : ∀ G s, R G s → P.nx G s), TkS o := by
  (try rw [eTk]); (try rw [eTkS]); (try rw [etkSm]); (try rw [etkV]); (try rw [etkVR]); (try rw [etkO]); (try rw [etkA]); (try rw [etkJ]); (try rw [etkB]); (try rw [etkI]); (try rw [etkStr]); (try rw [etkC]); (try rw [etkIf]); (try rw [etkT]); (try rw [etkP]); first | exact @oks_cut | exact oks_cut | exact @oks_cut _ _ | exact @oks_cut _ | exact @oks_cut _ _ _ | exact @oks_cut _ _ _ _ | exact @oks_cut _ _ _ _ _ | (intros; exact oks_cut) | (intros; apply oks_cut <;> assumption)
theorem trng1_of : ∀ {j : Int} {K : Kq (List D)} (h0 : -4611686018427387904 ≤ j) (h1 : j < 4611686018427387904) (z : K.q (rngL 0 j.toNat)), tkSm (rngD1 [.int j]) := by
  (try rw [eTk]); (try rw [eTkS]); (try rw [etkSm]); (try rw [etkV]); (try rw [etkVR]); (try rw [etkO]); (try rw [etkA]); (try rw [etkJ]); (try rw [etkB]); (try rw [etkI]); (try rw [etkStr]); (try rw [etkC]); (try rw [etkIf]); (try rw [etkT]); (try rw [etkP]); first | exact @rng1_of | exact rng1_of | exact @rng1_of _ _ | exact @rng1_of _ | exact @rng1_of _ _ _ | exact @rng1_of _ _ _ _ | exact @rng1_of _ _ _ _ _ | (intros; exact rng1_of) | (intros; apply rng1_of <;> assumption)
theorem trng2_of : ∀ {i j : Int} {K : Kq (List D)} (h0 : -4611686018427387904 ≤ i) (h1 : i < 4611686018427387904) (h2 : -4611686018427387904 ≤ j) (h3 : j < 4611686018427387904) (z : K.q (rngL i (j - i).toNat)), tkSm (rngD2 [.int i, .int j]) := by
  (try rw [eTk]); (try rw [eTkS]); (try rw [etkSm]); (try rw [etkV]); (try rw [etkVR]); (try rw [etkO]); (try rw [etkA]); (try rw [etkJ]); (try rw [etkB]); (try rw [etkI]); (try rw [etkStr]); (try rw [etkC]); (try rw [etkIf]); (try rw [etkT]); (try rw [etkP]); first | exact @rng2_of | exact rng2_of | exact @rng2_of _ _ | exact @rng2_of _ | exact @rng2_of _ _ _ | exact @rng2_of _ _ _ _ | exact @rng2_of _ _ _ _ _ | (intros; exact rng2_of) | (intros; apply rng2_of <;> assumption)
theorem tfor_inv : ∀ {tg : D → List Sl → Option (List Sl)} {b : MS} {P : Ps} {G : List Sl} {s : S} {ds : List D} (I : Nat → List Sl → S → Prop) (h0 : I 0 G s) (h : ∀ i (hi : i < ds.length) G s, I i G s → tkSm (K := ⟨fun G => TkS (P := { P with nx := I (i + 1), ct := I (i + 1), bk := P.nx }) (b G s)⟩) (tg ds[i] G)) (hn : ∀ G s, I ds.length G s → P.nx G s), TkS (forL tg b ds G s) := by
  (try rw [eTk]); (try rw [eTkS]); (try rw [etkSm]); (try rw [etkV]); (try rw [etkVR]); (try rw [etkO]); (try rw [etkA]); (try rw [etkJ]); (try rw [etkB]); (try rw [etkI]); (try rw [etkStr]); (try rw [etkC]); (try rw [etkIf]); (try rw [etkT]); (try rw [etkP]); first | exact @for_inv | exact for_inv | exact @for_inv _ _ | exact @for_inv _ | exact @for_inv _ _ _ | exact @for_inv _ _ _ _ | exact @for_inv _ _ _ _ _ | (intros; exact for_inv) | (intros; apply for_inv <;> assumption)
theorem tlc_st : ∀ {tg : D → List Sl → Option (List Sl)} {e : M D} {G : List Sl} {K : Kn (List D)} (J : S → Prop) (R : D → D → Prop) {ds : List D} {s : S} (h0 : J s) (h : ∀ d ∈ ds, ∀ s, J s → tkSm (K := ⟨fun G => Tk (K := ⟨fun y s => R d y ∧ J s, noE⟩) (e G s)⟩) (tg d G)) (hq : ∀ ys s, J s → All2 R ds ys → K.q ys s), Tk (lcL tg yYes e G ds s) := by
  (try rw [eTk]); (try rw [eTkS]); (try rw [etkSm]); (try rw [etkV]); (try rw [etkVR]); (try rw [etkO]); (try rw [etkA]); (try rw [etkJ]); (try rw [etkB]); (try rw [etkI]); (try rw [etkStr]); (try rw [etkC]); (try rw [etkIf]); (try rw [etkT]); (try rw [etkP]); first | exact @lc_st | exact lc_st | exact @lc_st _ _ | exact @lc_st _ | exact @lc_st _ _ _ | exact @lc_st _ _ _ _ | exact @lc_st _ _ _ _ _ | (intros; exact lc_st) | (intros; apply lc_st <;> assumption)
theorem tlc_pure : ∀ {tg : D → List Sl → Option (List Sl)} {t : M Bool} {e : M D} {G : List Sl} {K : Kn (List D)} (p : D → Bool) (f : D → D) {ds : List D} {s : S} (h : ∀ d ∈ ds, tkSm (K := ⟨fun G => Tk (K := ⟨fun b s1 => b = p d ∧ s1 = s, noE⟩) (t G s) ∧ (p d = true → Tk (K := ⟨fun y s1 => y = f d ∧ s1 = s, noE⟩) (e G s))⟩) (tg d G)) (hq : K.q ((ds.filter p).map f) s), Tk (lcL tg t e G ds s) := by
  (try rw [eTk]); (try rw [eTkS]); (try rw [etkSm]); (try rw [etkV]); (try rw [etkVR]); (try rw [etkO]); (try rw [etkA]); (try rw [etkJ]); (try rw [etkB]); (try rw [etkI]); (try rw [etkStr]); (try rw [etkC]); (try rw [etkIf]); (try rw [etkT]); (try rw [etkP]); first | exact @lc_pure | exact lc_pure | exact @lc_pure _ _ | exact @lc_pure _ | exact @lc_pure _ _ _ | exact @lc_pure _ _ _ _ | exact @lc_pure _ _ _ _ _ | (intros; exact lc_pure) | (intros; apply lc_pure <;> assumption)
theorem tlc_map : ∀ {tg : D → List Sl → Option (List Sl)} {e : M D} {G : List Sl} {K : Kn (List D)} (f : D → D) {ds : List D} {s : S} (h : ∀ d ∈ ds, tkSm (K := ⟨fun G => Tk (K := ⟨fun y s1 => y = f d ∧ s1 = s, noE⟩) (e G s)⟩) (tg d G)) (hq : K.q (ds.map f) s), Tk (lcL tg yYes e G ds s) := by
  (try rw [eTk]); (try rw [eTkS]); (try rw [etkSm]); (try rw [etkV]); (try rw [etkVR]); (try rw [etkO]); (try rw [etkA]); (try rw [etkJ]); (try rw [etkB]); (try rw [etkI]); (try rw [etkStr]); (try rw [etkC]); (try rw [etkIf]); (try rw [etkT]); (try rw [etkP]); first | exact @lc_map | exact lc_map | exact @lc_map _ _ | exact @lc_map _ | exact @lc_map _ _ _ | exact @lc_map _ _ _ _ | exact @lc_map _ _ _ _ _ | (intros; exact lc_map) | (intros; apply lc_map <;> assumption)
end Qd
namespace Lw
open PySem PySem.Spec PyProof.Rows L2 Qd
def top (i : Nat) : Stmt := PySem.Challenge.pw_pathmarks_k06_trees_with_shared_parts.main.body.getD i (.Pass ⟨0, 0, 0, 0⟩)
def meth (c : Nat) (i : Nat) : Stmt := match top c with
  | .ClassDef (body := b) .. => b.getD i (.Pass ⟨0, 0, 0, 0⟩)
  | _ => .Pass ⟨0, 0, 0, 0⟩
abbrev s_Treezbelow : Stmt := meth 19 1
abbrev N_Treezbelow : List Str := ["self", "trees", "child"]
abbrev s_iszchild : Stmt := top 14
abbrev N_iszchild : List Str := ["thing", "each"]
abbrev s_iszname : Stmt := top 10
abbrev N_iszname : List Str := ["thing", "sign"]
abbrev s_Treezzzinitzz : Stmt := meth 19 0
abbrev N_Treezzzinitzz : List Str := ["self", "kind", "children", "place", "child", "below", "tree"]
abbrev s_zlawzbag : Stmt := top 21
abbrev N_zlawzbag : List Str := ["_law_script", "_law_at", "_law_number", "_law_mixed", "_law_spot", "_law_each"]
abbrev s_zlawzisznumber : Stmt := top 26
abbrev N_zlawzisznumber : List Str := ["_law_thing", "_law_due"]
abbrev s_zlawztake : Stmt := top 22
abbrev N_zlawztake : List Str := ["_law_bag_here", "_law_many", "_law_digit"]
abbrev s_zlawzof : Stmt := top 23
abbrev N_zlawzof : List Str := ["_law_bag_here", "_law_some"]
abbrev s_zlawznames : Stmt := top 24
abbrev N_zlawznames : List Str := ["_law_bag_here", "_law_many", "_law_letters", "_law_some", "_law_size", "_law_rest", "_law_k", "_law_base", "_law_spot", "_law_start", "_law_signs", "_law_sign"]
abbrev s_zlawzput : Stmt := top 25
abbrev N_zlawzput : List Str := ["_law_kind", "_law_kids"]
abbrev s_law : Stmt := top 27
abbrev N_law : List Str := ["_law_script", "_law_at", "_law_bag_here", "_law_tags", "_law_level", "_law_k", "_law_trees", "_law_sizes", "_law_depths", "_law_turn", "_law_tree", "_law_each", "_law_kids", "_law_flat", "_law_way", "_law_told", "_law_due"]
def tb0 : List (Tg × Bool) := [(.ty "NoneType", false), (.ty "bool", false), (.ty "int", false), (.ty "str", false), (.ty "tuple", false), (.ty "list", true), (.cl "Tree", false)]
theorem tb0_NoneType : tb0.lookup (.ty "NoneType") = some false := by decide +kernel
theorem tb0_bool : tb0.lookup (.ty "bool") = some false := by decide +kernel
theorem tb0_int : tb0.lookup (.ty "int") = some false := by decide +kernel
theorem tb0_str : tb0.lookup (.ty "str") = some false := by decide +kernel
theorem tb0_tuple : tb0.lookup (.ty "tuple") = some false := by decide +kernel
theorem tb0_list : tb0.lookup (.ty "list") = some true := by decide +kernel
theorem tb0_Tree : tb0.lookup (.cl "Tree") = some false := by decide +kernel
def tb1 : List (Tg × Bool) := [(.ty "NoneType", false), (.ty "bool", false), (.ty "int", false), (.ty "str", false), (.ty "tuple", true), (.ty "list", false), (.cl "Tree", false)]
theorem tb1_NoneType : tb1.lookup (.ty "NoneType") = some false := by decide +kernel
theorem tb1_bool : tb1.lookup (.ty "bool") = some false := by decide +kernel
theorem tb1_int : tb1.lookup (.ty "int") = some false := by decide +kernel
theorem tb1_str : tb1.lookup (.ty "str") = some false := by decide +kernel
theorem tb1_tuple : tb1.lookup (.ty "tuple") = some true := by decide +kernel
theorem tb1_list : tb1.lookup (.ty "list") = some false := by decide +kernel
theorem tb1_Tree : tb1.lookup (.cl "Tree") = some false := by decide +kernel
def tb2 : List (Tg × Bool) := [(.ty "NoneType", false), (.ty "bool", false), (.ty "int", false), (.ty "str", false), (.ty "tuple", true), (.ty "list", true), (.cl "Tree", false)]
theorem tb2_NoneType : tb2.lookup (.ty "NoneType") = some false := by decide +kernel
theorem tb2_bool : tb2.lookup (.ty "bool") = some false := by decide +kernel
theorem tb2_int : tb2.lookup (.ty "int") = some false := by decide +kernel
theorem tb2_str : tb2.lookup (.ty "str") = some false := by decide +kernel
theorem tb2_tuple : tb2.lookup (.ty "tuple") = some true := by decide +kernel
theorem tb2_list : tb2.lookup (.ty "list") = some true := by decide +kernel
theorem tb2_Tree : tb2.lookup (.cl "Tree") = some false := by decide +kernel
def tb3 : List (Tg × Bool) := [(.ty "NoneType", false), (.ty "bool", false), (.ty "int", false), (.ty "str", false), (.ty "tuple", false), (.ty "list", false), (.cl "Tree", true)]
theorem tb3_NoneType : tb3.lookup (.ty "NoneType") = some false := by decide +kernel
theorem tb3_bool : tb3.lookup (.ty "bool") = some false := by decide +kernel
theorem tb3_int : tb3.lookup (.ty "int") = some false := by decide +kernel
theorem tb3_str : tb3.lookup (.ty "str") = some false := by decide +kernel
theorem tb3_tuple : tb3.lookup (.ty "tuple") = some false := by decide +kernel
theorem tb3_list : tb3.lookup (.ty "list") = some false := by decide +kernel
theorem tb3_Tree : tb3.lookup (.cl "Tree") = some true := by decide +kernel
def tb4 : List (Tg × Bool) := [(.ty "NoneType", false), (.ty "bool", false), (.ty "int", false), (.ty "str", true), (.ty "tuple", false), (.ty "list", false), (.cl "Tree", false)]
theorem tb4_NoneType : tb4.lookup (.ty "NoneType") = some false := by decide +kernel
theorem tb4_bool : tb4.lookup (.ty "bool") = some false := by decide +kernel
theorem tb4_int : tb4.lookup (.ty "int") = some false := by decide +kernel
theorem tb4_str : tb4.lookup (.ty "str") = some true := by decide +kernel
theorem tb4_tuple : tb4.lookup (.ty "tuple") = some false := by decide +kernel
theorem tb4_list : tb4.lookup (.ty "list") = some false := by decide +kernel
theorem tb4_Tree : tb4.lookup (.cl "Tree") = some false := by decide +kernel
def tb5 : List (Tg × Bool) := [(.ty "NoneType", false), (.ty "bool", true), (.ty "int", true), (.ty "str", false), (.ty "tuple", false), (.ty "list", false), (.cl "Tree", false)]
theorem tb5_NoneType : tb5.lookup (.ty "NoneType") = some false := by decide +kernel
theorem tb5_bool : tb5.lookup (.ty "bool") = some true := by decide +kernel
theorem tb5_int : tb5.lookup (.ty "int") = some true := by decide +kernel
theorem tb5_str : tb5.lookup (.ty "str") = some false := by decide +kernel
theorem tb5_tuple : tb5.lookup (.ty "tuple") = some false := by decide +kernel
theorem tb5_list : tb5.lookup (.ty "list") = some false := by decide +kernel
theorem tb5_Tree : tb5.lookup (.cl "Tree") = some false := by decide +kernel
def tb6 : List (Tg × Bool) := [(.ty "NoneType", false), (.ty "bool", true), (.ty "int", false), (.ty "str", false), (.ty "tuple", false), (.ty "list", false), (.cl "Tree", false)]
theorem tb6_NoneType : tb6.lookup (.ty "NoneType") = some false := by decide +kernel
theorem tb6_bool : tb6.lookup (.ty "bool") = some true := by decide +kernel
theorem tb6_int : tb6.lookup (.ty "int") = some false := by decide +kernel
theorem tb6_str : tb6.lookup (.ty "str") = some false := by decide +kernel
theorem tb6_tuple : tb6.lookup (.ty "tuple") = some false := by decide +kernel
theorem tb6_list : tb6.lookup (.ty "list") = some false := by decide +kernel
theorem tb6_Tree : tb6.lookup (.cl "Tree") = some false := by decide +kernel
structure Fx (K : PySem.W.Frag) (mg : Str → Option Value) : Prop where
  g_Tree : mg "Tree" = some (.ref (He.ga K "Tree"))
  g_zlawzbag : mg "_law_bag" = some (.ref (He.ga K "_law_bag"))
  g_zlawzisznumber : mg "_law_is_number" = some (.ref (He.ga K "_law_is_number"))
  g_zlawznames : mg "_law_names" = some (.ref (He.ga K "_law_names"))
  g_zlawzof : mg "_law_of" = some (.ref (He.ga K "_law_of"))
  g_zlawzput : mg "_law_put" = some (.ref (He.ga K "_law_put"))
  g_zlawztake : mg "_law_take" = some (.ref (He.ga K "_law_take"))
  g_iszchild : mg "is_child" = some (.ref (He.ga K "is_child"))
  g_iszname : mg "is_name" = some (.ref (He.ga K "is_name"))
  n_abs : mg "abs" = none
  n_all : mg "all" = none
  n_bool : mg "bool" = none
  n_enumerate : mg "enumerate" = none
  n_int : mg "int" = none
  n_isinstance : mg "isinstance" = none
  n_len : mg "len" = none
  n_list : mg "list" = none
  n_max : mg "max" = none
  n_min : mg "min" = none
  n_range : mg "range" = none
  n_str : mg "str" = none
  n_sum : mg "sum" = none
  n_tuple : mg "tuple" = none
  i_MOSTzSIGNS : ∃ t, mg "MOST_SIGNS" = some (.int 8 t)
  s_LETTERS : ∃ t, mg "LETTERS" = some (.str "abcdefghijklmnopqrstuvwxyz" t)
  s_SIGNS : ∃ t, mg "SIGNS" = some (.str "abcdefghijklmnopqrstuvwxyz0123456789" t)
  ci_Tree : ClsI K (He.ga K "Tree")
  na_Tree_children : NoAttr K (He.ga K "Tree") "children"
  na_Tree_depth : NoAttr K (He.ga K "Tree") "depth"
  na_Tree_kind : NoAttr K (He.ga K "Tree") "kind"
  na_Tree_size : NoAttr K (He.ga K "Tree") "size"
  me_Treezbelow : Meth K (He.ga K "Tree") "below" (He.ma K (He.ga K "Tree") "below")
  mk_Tree : Mk K (He.ga K "Tree") (He.ma K (He.ga K "Tree") "__init__")
  t0 : TabOk K (.type "list") tb0
  t1 : TabOk K (.type "tuple") tb1
  t2 : ∀ t b, tb2.lookup t = some b → PySem.W.kitAny K (t.v K) ((["list", "tuple"] : List String).map Value.type) = some b
  t3 : TabOk K (.ref (He.ga K "Tree")) tb3
  t4 : TabOk K (.type "str") tb4
  t5 : TabOk K (.type "int") tb5
  t6 : TabOk K (.type "bool") tb6
  d_Treezbelow : ∃ fd, FunD K "below" "Tree.below" (defArgs s_Treezbelow) (defBody s_Treezbelow) (defScope s_Treezbelow) [] [] (He.fAd K ("Tree", some "below")) fd
  k_Treezbelow : PySem.W.keepIn K (.ref (He.fAd K ("Tree", some "below"))) = true
  d_iszchild : ∃ fd, FunD K "is_child" "is_child" (defArgs s_iszchild) (defBody s_iszchild) (defScope s_iszchild) [] [] (He.fAd K ("is_child", none)) fd
  k_iszchild : PySem.W.keepIn K (.ref (He.fAd K ("is_child", none))) = true
  d_iszname : ∃ fd, FunD K "is_name" "is_name" (defArgs s_iszname) (defBody s_iszname) (defScope s_iszname) [] [] (He.fAd K ("is_name", none)) fd
  k_iszname : PySem.W.keepIn K (.ref (He.fAd K ("is_name", none))) = true
  d_Treezzzinitzz : ∃ fd, FunD K "__init__" "Tree.__init__" (defArgs s_Treezzzinitzz) (defBody s_Treezzzinitzz) (defScope s_Treezzzinitzz) [] [] (He.fAd K ("Tree", some "__init__")) fd
  k_Treezzzinitzz : PySem.W.keepIn K (.ref (He.fAd K ("Tree", some "__init__"))) = true
  d_zlawzbag : ∃ fd, FunD K "_law_bag" "_law_bag" (defArgs s_zlawzbag) (defBody s_zlawzbag) (defScope s_zlawzbag) [] [] (He.fAd K ("_law_bag", none)) fd
  k_zlawzbag : PySem.W.keepIn K (.ref (He.fAd K ("_law_bag", none))) = true
  d_zlawzisznumber : ∃ fd, FunD K "_law_is_number" "_law_is_number" (defArgs s_zlawzisznumber) (defBody s_zlawzisznumber) (defScope s_zlawzisznumber) [] [] (He.fAd K ("_law_is_number", none)) fd
  k_zlawzisznumber : PySem.W.keepIn K (.ref (He.fAd K ("_law_is_number", none))) = true
  d_zlawztake : ∃ fd, FunD K "_law_take" "_law_take" (defArgs s_zlawztake) (defBody s_zlawztake) (defScope s_zlawztake) [] [] (He.fAd K ("_law_take", none)) fd
  k_zlawztake : PySem.W.keepIn K (.ref (He.fAd K ("_law_take", none))) = true
  d_zlawzof : ∃ fd, FunD K "_law_of" "_law_of" (defArgs s_zlawzof) (defBody s_zlawzof) (defScope s_zlawzof) [] [] (He.fAd K ("_law_of", none)) fd
  k_zlawzof : PySem.W.keepIn K (.ref (He.fAd K ("_law_of", none))) = true
  d_zlawznames : ∃ fd, FunD K "_law_names" "_law_names" (defArgs s_zlawznames) (defBody s_zlawznames) (defScope s_zlawznames) [] [] (He.fAd K ("_law_names", none)) fd
  k_zlawznames : PySem.W.keepIn K (.ref (He.fAd K ("_law_names", none))) = true
  d_zlawzput : ∃ fd, FunD K "_law_put" "_law_put" (defArgs s_zlawzput) (defBody s_zlawzput) (defScope s_zlawzput) [] [] (He.fAd K ("_law_put", none)) fd
  k_zlawzput : PySem.W.keepIn K (.ref (He.fAd K ("_law_put", none))) = true
  d_law : ∃ fd, FunD K "law" "law" (defArgs s_law) (defBody s_law) (defScope s_law) [] [] (He.fAd K ("law", none)) fd
  k_law : PySem.W.keepIn K (.ref (He.fAd K ("law", none))) = true
theorem sc_Treezbelow : FnScope N_Treezbelow ["self"] (defScope s_Treezbelow) := ⟨rfl, rfl, rfl, by decide +kernel, rfl, by decide +kernel, by decide +kernel⟩
theorem sc_iszchild : FnScope N_iszchild ["thing"] (defScope s_iszchild) := ⟨rfl, rfl, rfl, by decide +kernel, rfl, by decide +kernel, by decide +kernel⟩
theorem sc_iszname : FnScope N_iszname ["thing"] (defScope s_iszname) := ⟨rfl, rfl, rfl, by decide +kernel, rfl, by decide +kernel, by decide +kernel⟩
theorem sc_Treezzzinitzz : FnScope N_Treezzzinitzz ["self", "kind", "children"] (defScope s_Treezzzinitzz) := ⟨rfl, rfl, rfl, by decide +kernel, rfl, by decide +kernel, by decide +kernel⟩
theorem sc_zlawzbag : FnScope N_zlawzbag ["_law_script", "_law_at"] (defScope s_zlawzbag) := ⟨rfl, rfl, rfl, by decide +kernel, rfl, by decide +kernel, by decide +kernel⟩
theorem sc_zlawzisznumber : FnScope N_zlawzisznumber ["_law_thing", "_law_due"] (defScope s_zlawzisznumber) := ⟨rfl, rfl, rfl, by decide +kernel, rfl, by decide +kernel, by decide +kernel⟩
theorem sc_zlawztake : FnScope N_zlawztake ["_law_bag_here", "_law_many"] (defScope s_zlawztake) := ⟨rfl, rfl, rfl, by decide +kernel, rfl, by decide +kernel, by decide +kernel⟩
theorem sc_zlawzof : FnScope N_zlawzof ["_law_bag_here", "_law_some"] (defScope s_zlawzof) := ⟨rfl, rfl, rfl, by decide +kernel, rfl, by decide +kernel, by decide +kernel⟩
theorem sc_zlawznames : FnScope N_zlawznames ["_law_bag_here", "_law_many"] (defScope s_zlawznames) := ⟨rfl, rfl, rfl, by decide +kernel, rfl, by decide +kernel, by decide +kernel⟩
theorem sc_zlawzput : FnScope N_zlawzput ["_law_kind", "_law_kids"] (defScope s_zlawzput) := ⟨rfl, rfl, rfl, by decide +kernel, rfl, by decide +kernel, by decide +kernel⟩
theorem sc_law : FnScope N_law ["_law_script"] (defScope s_law) := ⟨rfl, rfl, rfl, by decide +kernel, rfl, by decide +kernel, by decide +kernel⟩
def L_Treezbelow_1 : MS := (sIf (xTest (xCall (isiT "tuple" tb1) (xCons (xVarR 2) (xCons (xC (.ty "tuple")) xNil)))) (sMut 1 extG (xVarR 2)) (sApp 1 (xVar 2)))
def m_Treezbelow : MS := (sSeq (sSetO 1 (xSz xNil))
  (sSeq (sFor (xSeq (xAttr "children" (xVar 0))) (pVar 2) L_Treezbelow_1)
  (sFrz 1 (sRet (xVar 1)))))
def F_Treezbelow : List D → S → Out D := runF 1 3 m_Treezbelow
def e_iszchild_1 : M D := (xCall (isiK "Tree" tb3) (xCons (xVarR 1) (xCons (xC (.cls "Tree")) xNil)))
def m_iszchild : MS := (sSeq (sIf (xTest (fun G s => ((xVarR 0) G s).bind fun d s1 => ((xCons (xC (.ty "list")) (xCons (xC (.ty "tuple")) xNil)) G s1).bind fun cs s2 => lift (isiM ["list", "tuple"] tb2 [d, .tup cs] s2) s2)) (sRet (xCall allC (xCons (xLst (xLc (xSeq (xVarR 0)) [1] (pVar 1) yYes e_iszchild_1)) xNil))) sNext)
  (sRet (xCall (isiK "Tree" tb3) (xCons (xVarR 0) (xCons (xC (.cls "Tree")) xNil)))))
def F_iszchild : List D → S → Out D := runF 1 2 m_iszchild
def e_iszname_1 : M D := (xBin (fun a b s => lift (inS a b) s) (xVarR 1) (xC (.str "abcdefghijklmnopqrstuvwxyz0123456789")))
def m_iszname : MS := (sSeq (sIf (yOr (yNot (xTest (xCall (isiT "str" tb4) (xCons (xVarR 0) (xCons (xC (.ty "str")) xNil))))) (yNot (xTest (xChain (fun a b s => lift (leD a b) s) (fun a b s => lift (leD a b) s) (xC (.int 1)) (xCall lenD (xCons (xVarR 0) xNil)) (xC (.int 8)))))) (sRet (xC (.bl false))) sNext)
  (sRet (xAnd (xBin (fun a b s => lift (inS a b) s) (xBin (fun x y s => lift (ixD x y s) s) (xVarR 0) (xC (.int 0))) (xC (.str "abcdefghijklmnopqrstuvwxyz"))) (xCall allC (xCons (xLst (xLc (xSeq (xVarR 0)) [1] (pVar 1) yYes e_iszname_1)) xNil)))))
def F_iszname : List D → S → Out D := runF 1 2 m_iszname
def L_Treezzzinitzz_1 : MS := (sIf (yNot (xTest (xFn F_iszchild (xCons (xVar 4) xNil)))) sFail sNext)
def e_Treezzzinitzz_1 : M D := (xIf (xTest (xCall (isiT "list" tb0) (xCons (xVarR 4) (xCons (xC (.ty "list")) xNil)))) (xCall tupC (xCons (xVarR 4) xNil)) (xVar 4))
def e_Treezzzinitzz_2 : M D := (xAttr "size" (xVar 6))
def e_Treezzzinitzz_3 : M D := (xAttr "depth" (xVar 6))
def m_Treezzzinitzz : MS := (sSeq (sIf (yNot (xTest (xFn F_iszname (xCons (xVar 1) xNil)))) sFail sNext)
  (sSeq (sFor (xEnum (xVar 2)) (pTup 2 (psCons (pVar 3) (psCons (pVar 4) psNil))) L_Treezzzinitzz_1)
  (sSeq (sFld 0 "Tree" "kind" (xVar 1))
  (sSeq (sFld 0 "Tree" "children" (xCall tupC (xCons (xLst (xLc (xSeq (xVarR 2)) [4] (pVar 4) yYes e_Treezzzinitzz_1)) xNil)))
  (sSeq (sSet 5 (xMeth "Tree" F_Treezbelow (xVar 0) xNil))
  (sSeq (sFld 0 "Tree" "size" (xBin (fun a b s => lift (addD a b) s) (xC (.int 1)) (xCall sumC (xCons (xLst (xLc (xSeq (xVarR 5)) [6] (pVar 6) yYes e_Treezzzinitzz_2)) xNil))))
  (sFld 0 "Tree" "depth" (xBin (fun a b s => lift (addD a b) s) (xC (.int 1)) (xMaxDf (xLst (xLc (xSeq (xVarR 5)) [6] (pVar 6) yYes e_Treezzzinitzz_3)) (xC (.int 0)))))))))))
def F_Treezzzinitzz : List D → S → Out (List (Str × D)) := starI 1 (runI "Tree" 3 7 m_Treezzzinitzz)
def L_zlawzbag_1 : MS := (sSet 3 (xBin (fun a b s => lift (modD a b) s) (xCall intC (xCons (xBin (fun a b s => lift (addD a b) s) (xBin (fun a b s => lift (addD a b) s) (xBin (fun a b s => lift (addD a b) s) (xBin (fun a b s => lift (mulD a b) s) (xVarR 3) (xC (.int 44497))) (xBin (fun a b s => lift (modD a b) s) (xCall intC (xCons (xVarR 5) xNil)) (xC (.int 2147483543)))) (xBin (fun a b s => lift (mulD a b) s) (xC (.int 61)) (xVarR 4))) (xC (.int 19))) xNil)) (xC (.int 2147483587))))
def m_zlawzbag : MS := (sSeq (sSet 2 (xIf (xTest (xBin (fun a b s => lift (ltD a b) s) (xVarR 1) (xCall lenD (xCons (xVarR 0) xNil)))) (xBin (fun x y s => lift (ixD x y s) s) (xVarR 0) (xVarR 1)) (xC (.int 0))))
  (sSeq (sSet 3 (xBin (fun a b s => lift (addD a b) s) (xBin (fun a b s => lift (mulD a b) s) (xC (.int 1291)) (xVarR 1)) (xC (.int 73))))
  (sSeq (sFor (xEnum (xSl (xVarR 0) xNo (xPart (xC (.int 63))))) (pTup 2 (psCons (pVar 4) (psCons (pVar 5) psNil))) L_zlawzbag_1)
  (sRet (xLoc (xSz (xCons (xIf (xTest (xBin (fun a b s => lift (geD a b) s) (xCall absC (xCons (xVarR 2) xNil)) (xBin (fun a b s => lift (powD a b) s) (xC (.int 10)) (xC (.int 18))))) (xCall absC (xCons (xVarR 2) xNil)) (xC (.int 0))) (xCons (xVar 3) xNil))))))))
def F_zlawzbag : List D → S → Out D := runF 2 6 m_zlawzbag
def m_zlawzisznumber : MS := (sRet (xAnd (xCall (isiT "int" tb5) (xCons (xVarR 0) (xCons (xC (.ty "int")) xNil))) (xAnd (xNot (xCall (isiT "bool" tb6) (xCons (xVarR 0) (xCons (xC (.ty "bool")) xNil)))) (xBin (fun a b s => lift (eqL a b) s) (xVarR 0) (xVarR 1)))))
def F_zlawzisznumber : List D → S → Out D := runF 2 2 m_zlawzisznumber
def m_zlawztake : MS := (sSeq (sIf (xTest (xBin (fun a b s => lift (gtD a b) s) (xBin (fun x y s => lift (ixD x y s) s) (xVarR 0) (xC (.int 0))) (xC (.int 0)))) (sSeq (sSet 2 (xBin (fun a b s => lift (modD a b) s) (xCall intC (xCons (xBin (fun x y s => lift (ixD x y s) s) (xVarR 0) (xC (.int 0))) xNil)) (xVarR 1)))
  (sSeq (sStore (xVar 0) (xC (.int 0)) (xBin (fun a b s => lift (fdvD a b) s) (xBin (fun x y s => lift (ixD x y s) s) (xVarR 0) (xC (.int 0))) (xVarR 1)))
  (sRet (xVar 2)))) sNext)
  (sSeq (sStore (xVar 0) (xC (.int 1)) (xBin (fun a b s => lift (modD a b) s) (xCall intC (xCons (xBin (fun a b s => lift (addD a b) s) (xBin (fun a b s => lift (mulD a b) s) (xBin (fun x y s => lift (ixD x y s) s) (xVarR 0) (xC (.int 1))) (xC (.int 51061))) (xC (.int 4271))) xNil)) (xC (.int 2147483629))))
  (sRet (xBin (fun a b s => lift (modD a b) s) (xCall intC (xCons (xBin (fun a b s => lift (fdvD a b) s) (xBin (fun a b s => lift (modD a b) s) (xCall intC (xCons (xBin (fun a b s => lift (mulD a b) s) (xBin (fun a b s => lift (fdvD a b) s) (xBin (fun x y s => lift (ixD x y s) s) (xVarR 0) (xC (.int 1))) (xC (.int 16))) (xC (.int 37139))) xNil)) (xC (.int 2147483563))) (xC (.int 64))) xNil)) (xVarR 1)))))
def F_zlawztake : List D → S → Out D := runF 2 3 m_zlawztake
def m_zlawzof : MS := (sRet (xBin (fun x y s => lift (ixD x y s) s) (xVarR 1) (xFn F_zlawztake (xCons (xVar 0) (xCons (xCall lenD (xCons (xVarR 1) xNil)) xNil)))))
def F_zlawzof : List D → S → Out D := runF 2 2 m_zlawzof
def e_zlawznames_1 : M D := (xBin (fun x y s => lift (ixD x y s) s) (xVarR 3) (xFn F_zlawztake (xCons (xVar 0) (xCons (xCall lenD (xCons (xVarR 3) xNil)) xNil))))
def e_zlawznames_2 : M D := (xBin (fun x y s => lift (ixD x y s) s) (xVarR 2) (xBin (fun a b s => lift (modD a b) s) (xBin (fun a b s => lift (addD a b) s) (xVarR 9) (xBin (fun a b s => lift (mulD a b) s) (xC (.int 5)) (xVarR 6))) (xC (.int 26))))
def e_zlawznames_3 : M D := (xBin (fun a b s => lift (addD a b) s) (xBin (fun a b s => lift (addD a b) s) (xSl (xVarR 7) xNo (xPart (xVar 8))) (xVarR 11)) (xSl (xVarR 7) (xPart (xVar 8)) (xPart (xVar 4))))
def m_zlawznames : MS := (sSeq (sSet 2 (xC (.str "abcdefghijklmnopqrstuvwxyz")))
  (sSeq (sSet 3 (xIf (xTest (xBin (fun a b s => lift (eqL a b) s) (xFn F_zlawztake (xCons (xVar 0) (xCons (xC (.int 2)) xNil))) (xC (.int 0)))) (xBin (fun a b s => lift (addD a b) s) (xVarR 2) (xC (.str "0123456789"))) (xVar 2)))
  (sSeq (sSet 4 (xFn F_zlawzof (xCons (xVar 0) (xCons (xLst (xSz (xCons (xC (.int 0)) (xCons (xC (.int 0)) (xCons (xC (.int 1)) (xCons (xC (.int 2)) (xCons (xC (.int 5)) (xCons (xC (.int 7)) xNil)))))))) xNil))))
  (sSeq (sSetO 5 (xLc (xRng1 (xCons (xC (.int 7)) xNil)) [6] (pVar 6) yYes e_zlawznames_1))
  (sFrz 5 (sSeq (sSet 7 (xBin (fun a b s => lift (addD a b) s) (xBin (fun x y s => lift (ixD x y s) s) (xVarR 2) (xFn F_zlawztake (xCons (xVar 0) (xCons (xC (.int 26)) xNil)))) (xS1 joinD (xC (.str "")) (xVarR 5))))
  (sSeq (sPar [8, 9] (xsV (xFn F_zlawztake (xCons (xVar 0) (xCons (xBin (fun a b s => lift (addD a b) s) (xVarR 4) (xC (.int 1))) xNil))) (xsV (xFn F_zlawztake (xCons (xVar 0) (xCons (xC (.int 26)) xNil))) xsNil)))
  (sSeq (sSetO 10 (xLc (xRng1 (xCons (xVar 1) xNil)) [6] (pVar 6) yYes e_zlawznames_2))
  (sFrz 10 (sRet (xLst (xLc (xSeq (xVarR 10)) [11] (pVar 11) yYes e_zlawznames_3))))))))))))
def F_zlawznames : List D → S → Out D := runF 2 12 m_zlawznames
def m_zlawzput : MS := (sSeq (sIf (xTest (xBin (fun a b s => lift (eqL a b) s) (xVarR 1) (xLst (xSz xNil)))) (sRet (xFn (mkF "Tree" F_Treezzzinitzz) (xCons (xVar 0) xNil))) sNext)
  (sSeq (sIf (xTest (xBin (fun a b s => lift (eqL a b) s) (xCall lenD (xCons (xVarR 1) xNil)) (xC (.int 1)))) (sRet (xFn (mkF "Tree" F_Treezzzinitzz) (xCons (xVar 0) (xCons (xBin (fun x y s => lift (ixD x y s) s) (xVarR 1) (xC (.int 0))) xNil)))) sNext)
  (sSeq (sIf (xTest (xBin (fun a b s => lift (eqL a b) s) (xCall lenD (xCons (xVarR 1) xNil)) (xC (.int 2)))) (sRet (xFn (mkF "Tree" F_Treezzzinitzz) (xCons (xVar 0) (xCons (xBin (fun x y s => lift (ixD x y s) s) (xVarR 1) (xC (.int 0))) (xCons (xBin (fun x y s => lift (ixD x y s) s) (xVarR 1) (xC (.int 1))) xNil))))) sNext)
  (sSeq (sIf (xTest (xBin (fun a b s => lift (eqL a b) s) (xCall lenD (xCons (xVarR 1) xNil)) (xC (.int 3)))) (sRet (xFn (mkF "Tree" F_Treezzzinitzz) (xCons (xVar 0) (xCons (xBin (fun x y s => lift (ixD x y s) s) (xVarR 1) (xC (.int 0))) (xCons (xBin (fun x y s => lift (ixD x y s) s) (xVarR 1) (xC (.int 1))) (xCons (xBin (fun x y s => lift (ixD x y s) s) (xVarR 1) (xC (.int 2))) xNil)))))) sNext)
  (sSeq (sIf (xTest (xBin (fun a b s => lift (eqL a b) s) (xCall lenD (xCons (xVarR 1) xNil)) (xC (.int 4)))) (sRet (xFn (mkF "Tree" F_Treezzzinitzz) (xCons (xVar 0) (xCons (xBin (fun x y s => lift (ixD x y s) s) (xVarR 1) (xC (.int 0))) (xCons (xBin (fun x y s => lift (ixD x y s) s) (xVarR 1) (xC (.int 1))) (xCons (xBin (fun x y s => lift (ixD x y s) s) (xVarR 1) (xC (.int 2))) (xCons (xBin (fun x y s => lift (ixD x y s) s) (xVarR 1) (xC (.int 3))) xNil))))))) sNext)
  (sRet (xFn (mkF "Tree" F_Treezzzinitzz) (xCons (xVar 0) (xCons (xBin (fun x y s => lift (ixD x y s) s) (xVarR 1) (xC (.int 0))) (xCons (xBin (fun x y s => lift (ixD x y s) s) (xVarR 1) (xC (.int 1))) (xCons (xBin (fun x y s => lift (ixD x y s) s) (xVarR 1) (xC (.int 2))) (xCons (xBin (fun x y s => lift (ixD x y s) s) (xVarR 1) (xC (.int 3))) (xCons (xBin (fun x y s => lift (ixD x y s) s) (xVarR 1) (xC (.int 4))) xNil)))))))))))))
def F_zlawzput : List D → S → Out D := runF 2 2 m_zlawzput
def e_law_1 : M D := (xBin (fun x y s => lift (ixD x y s) s) (xVarR 7) (xVarR 11))
def L_law_1 : MS := (sSeq (sSet 5 (xIf (xTest (xBin (fun a b s => lift (eqL a b) s) (xVarR 9) (xC (.int 0)))) (xBin (fun a b s => lift (subD a b) s) (xCall lenD (xCons (xVarR 6) xNil)) (xC (.int 1))) (xCall max2C (xCons (xC (.int 0)) (xCons (xBin (fun a b s => lift (subD a b) s) (xBin (fun a b s => lift (subD a b) s) (xCall lenD (xCons (xVarR 6) xNil)) (xC (.int 1))) (xFn F_zlawztake (xCons (xVar 2) (xCons (xC (.int 3)) xNil)))) xNil)))))
  (sSeq (sSet 14 (xFn F_zlawztake (xCons (xVar 2) (xCons (xC (.int 3)) xNil))))
  (sIf (xTest (xBin (fun a b s => lift (ltD a b) s) (xBin (fun a b s => lift (addD a b) s) (xCall sumC (xCons (xLst (xLc (xSeq (xVarR 13)) [11] (pVar 11) yYes e_law_1)) xNil)) (xBin (fun x y s => lift (ixD x y s) s) (xVarR 7) (xVarR 5))) (xC (.int 30000)))) (sSeq (sApp 12 (xBin (fun x y s => lift (ixD x y s) s) (xLst (xSz (xCons (xBin (fun x y s => lift (ixD x y s) s) (xVarR 6) (xVarR 5)) (xCons (xLst (xSz (xCons (xBin (fun x y s => lift (ixD x y s) s) (xVarR 6) (xVarR 5)) xNil))) (xCons (xTup (xSz (xCons (xBin (fun x y s => lift (ixD x y s) s) (xVarR 6) (xVarR 5)) xNil))) xNil))))) (xVarR 14)))
  (sApp 13 (xVar 5))) sNext)))
def e_law_2 : M D := (xBin (fun x y s => lift (ixD x y s) s) (xVarR 8) (xVarR 11))
def e_law_3 : M D := (xTup (xSz (xCons (xBin (fun x y s => lift (ixD x y s) s) (xVarR 7) (xVarR 11)) (xCons (xBin (fun x y s => lift (ixD x y s) s) (xVarR 8) (xVarR 11)) xNil))))
def L_law_2 : MS := (sApp 15 (xTup (xSz (xCons (xAttr "size" (xVar 11)) (xCons (xAttr "depth" (xVar 11)) xNil)))))
def L_law_3 : MS := (sSeq (sPar [12, 13] (xsO (xSz xNil) (xsO (xSz xNil) xsNil)))
  (sSeq (sFor (xRng1 (xCons (xBin (fun a b s => lift (addD a b) s) (xC (.int 1)) (xFn F_zlawztake (xCons (xVar 2) (xCons (xC (.int 3)) xNil)))) xNil)) (pVar 9) L_law_1)
  (sSeq (sApp 12 (xFn F_zlawzof (xCons (xVar 2) (xCons (xLst (xSz (xCons (xTup (xSz xNil)) (xCons (xLst (xSz xNil)) xNil)))) xNil))))
  (sSeq (sFrz 12 (sSet 10 (xFn F_zlawzput (xCons (xFn F_zlawzof (xCons (xVar 2) (xCons (xVar 3) xNil))) (xCons (xVar 12) xNil)))))
  (sSeq (sApp 7 (xBin (fun a b s => lift (addD a b) s) (xC (.int 1)) (xCall sumC (xCons (xLst (xLc (xSeq (xVarR 13)) [11] (pVar 11) yYes e_law_1)) xNil))))
  (sSeq (sApp 8 (xBin (fun a b s => lift (addD a b) s) (xC (.int 1)) (xCall maxC (xCons (xBin (fun a b s => lift (addD a b) s) (xLst (xLc (xSeq (xVarR 13)) [11] (pVar 11) yYes e_law_2)) (xLst (xSz (xCons (xC (.int 0)) xNil)))) xNil))))
  (sSeq (sIf (yOr (yNot (xTest (xFn F_zlawzisznumber (xCons (xAttr "size" (xVar 10)) (xCons (xBin (fun x y s => lift (ixD x y s) s) (xVarR 7) (xNeg (xC (.int 1)))) xNil))))) (yNot (xTest (xFn F_zlawzisznumber (xCons (xAttr "depth" (xVar 10)) (xCons (xBin (fun x y s => lift (ixD x y s) s) (xVarR 8) (xNeg (xC (.int 1)))) xNil)))))) (sRet (xC (.bl false))) sNext)
  (sSeq (sPar [15, 16] (xsO (xSz xNil) (xsO (xLc (xSeq (xVarR 13)) [11] (pVar 11) yYes e_law_3) xsNil)))
  (sFrz 16 (sSeq (sFor (xSeq (xMeth "Tree" F_Treezbelow (xVar 10) xNil)) (pVar 11) L_law_2)
  (sSeq (sIf (yOr (xTest (xBin (fun a b s => lift (neD a b) s) (xVarR 15) (xVarR 16))) (xTest (xBin (fun a b s => lift (neD a b) s) (xCall lenD (xCons (xAttr "children" (xVar 10)) xNil)) (xCall lenD (xCons (xVarR 12) xNil))))) (sRet (xC (.bl false))) sNext)
  (sApp 6 (xVar 10)))))))))))))
def L_law_4 : MS := (sIf (yOr (xTest (xBin (fun a b s => lift (neD a b) s) (xAttr "size" (xBin (fun x y s => lift (ixD x y s) s) (xVarR 6) (xVarR 5))) (xBin (fun x y s => lift (ixD x y s) s) (xVarR 7) (xVarR 5)))) (xTest (xBin (fun a b s => lift (neD a b) s) (xAttr "depth" (xBin (fun x y s => lift (ixD x y s) s) (xVarR 6) (xVarR 5))) (xBin (fun x y s => lift (ixD x y s) s) (xVarR 8) (xVarR 5))))) (sRet (xC (.bl false))) sNext)
def L_law_5 : MS := (sSeq (sSet 2 (xFn F_zlawzbag (xCons (xVar 0) (xCons (xVar 1) xNil))))
  (sSeq (sSet 3 (xFn F_zlawznames (xCons (xVar 2) (xCons (xC (.int 3)) xNil))))
  (sSeq (sPar [6, 7, 8] (xsO (xSz (xCons (xFn (mkF "Tree" F_Treezzzinitzz) (xCons (xBin (fun x y s => lift (ixD x y s) s) (xVarR 3) (xC (.int 0))) xNil)) xNil)) (xsO (xSz (xCons (xC (.int 1)) xNil)) (xsO (xSz (xCons (xC (.int 1)) xNil)) xsNil))))
  (sSeq (sFor (xRng1 (xCons (xFn F_zlawztake (xCons (xVar 2) (xCons (xC (.int 11)) xNil))) xNil)) (pVar 4) L_law_3)
  (sFor (xRng1 (xCons (xCall lenD (xCons (xVarR 6) xNil)) xNil)) (pVar 5) L_law_4)))))
def m_law : MS := (sSeq (sFor (xRng1 (xCons (xCall max2C (xCons (xC (.int 2)) (xCons (xCall min2C (xCons (xC (.int 4)) (xCons (xCall lenD (xCons (xVarR 0) xNil)) xNil))) xNil))) xNil)) (pVar 1) L_law_5)
  (sRet (xC (.bl true))))
def F_law : List D → S → Out D := runF 1 17 m_law
section
variable {P : Program} {w : World} {K : PySem.W.Frag} {mg : Str → Option Value} {base : Heap}
theorem b_Treezbelow (h : Fx K mg) : Body P w K mg base 0 N_Treezbelow "Tree.below" (defScope s_Treezbelow) (He.fAd K ("Tree", some "below")) (defBody s_Treezbelow) m_Treezbelow := by
  intro cdv A outer s H E hr tk po
  exact (dss_cons (ds_setO 1 sc_Treezbelow.nd (dn_lst da_nil))
  (dss_cons (ds_for po rfl (di_seq (de_attr (de_var 0 rfl (by first | exact .inl rfl | exact .inr (.inl rfl) | exact .inr (.inr rfl))))) (dg_var 2 sc_Treezbelow.nd) (dss_one (ds_if (dt_val (de_cb (cb_isiT h.t1) rfl h.n_isinstance boot_isinstance (dar_cons (dr_var 2 rfl (by first | exact .inl rfl | exact .inr (.inl rfl) | exact .inr (.inr rfl))) (dar_cons (DE.r (de_ty rfl h.n_tuple boot_tuple)) dar_nil)))) (dss_one (ds_mut 1 ml_ext PySem.F.slot_list_extend PySem.F.type_list_extend (dr_var 2 rfl (by first | exact .inl rfl | exact .inr (.inl rfl) | exact .inr (.inr rfl))))) (dss_one (ds_app 1 (de_var 2 rfl (by first | exact .inl rfl | exact .inr (.inl rfl) | exact .inr (.inr rfl))))))))
  (dss_one (ds_frz 1 (ds_ret (de_var 1 rfl (by first | exact .inl rfl | exact .inr (.inl rfl) | exact .inr (.inr rfl))))))))
theorem ok_Treezbelow (h : Fx K mg) : FnD P w K mg base 1 (He.fAd K ("Tree", some "below")) F_Treezbelow := by
  obtain ⟨fd, F⟩ := h.d_Treezbelow
  exact fnD_of (ps := ["self"]) F sc_Treezbelow (fun _ _ _ _ _ _ us hl => match us, hl with | [_], _ => rfl) (b_Treezbelow h)
theorem b_iszchild (h : Fx K mg) : Body P w K mg base 0 N_iszchild "is_child" (defScope s_iszchild) (He.fAd K ("is_child", none)) (defBody s_iszchild) m_iszchild := by
  intro cdv A outer s H E hr tk po
  exact (dss_cons (ds_if (dt_val (de_isiM (Ts := ["list", "tuple"]) (tb := tb2) h.t2 rfl h.n_isinstance (dr_var 0 rfl (by first | exact .inl rfl | exact .inr (.inl rfl) | exact .inr (.inr rfl))) (da_cons (de_ty rfl h.n_list boot_list) (da_cons (de_ty rfl h.n_tuple boot_tuple) da_nil)))) (dss_one (ds_ret (de_cb (cb_all rfl) rfl h.n_all boot_all (dar_cons (DE.r (DN.de (dn_lc (own := [("each", 1)]) rfl sc_iszchild.nd (dir_seq (dr_var 0 rfl (by first | exact .inl rfl | exact .inr (.inl rfl) | exact .inr (.inr rfl)))) (blkOk_by (own := [("each", 1)]) (N := N_iszchild) (sc := defScope s_iszchild) (by decide +kernel)) (fun _ _ _ _ _ => (dg_var 1 sc_iszchild.nd)) (fun _ _ _ _ _ => dts_nil) (fun _ _ _ _ _ => (de_cb (cb_isiK h.t3) rfl h.n_isinstance boot_isinstance (dar_cons (dr_var 1 rfl (by first | exact .inl rfl | exact .inr (.inl rfl) | exact .inr (.inr rfl))) (dar_cons (DE.r (de_cls rfl h.g_Tree)) dar_nil))))))) dar_nil)))) dss_nil)
  (dss_one (ds_ret (de_cb (cb_isiK h.t3) rfl h.n_isinstance boot_isinstance (dar_cons (dr_var 0 rfl (by first | exact .inl rfl | exact .inr (.inl rfl) | exact .inr (.inr rfl))) (dar_cons (DE.r (de_cls rfl h.g_Tree)) dar_nil))))))
theorem ok_iszchild (h : Fx K mg) : FnD P w K mg base 1 (He.fAd K ("is_child", none)) F_iszchild := by
  obtain ⟨fd, F⟩ := h.d_iszchild
  exact fnD_of (ps := ["thing"]) F sc_iszchild (fun _ _ _ _ _ _ us hl => match us, hl with | [_], _ => rfl) (b_iszchild h)
theorem b_iszname (h : Fx K mg) : Body P w K mg base 0 N_iszname "is_name" (defScope s_iszname) (He.fAd K ("is_name", none)) (defBody s_iszname) m_iszname := by
  intro cdv A outer s H E hr tk po
  exact (dss_cons (ds_if (DW.t (dw_or (dt_not (dt_val (de_cb (cb_isiT h.t4) rfl h.n_isinstance boot_isinstance (dar_cons (dr_var 0 rfl (by first | exact .inl rfl | exact .inr (.inl rfl) | exact .inr (.inr rfl))) (dar_cons (DE.r (de_ty rfl h.n_str boot_str)) dar_nil))))) (dw_or1 (dt_not (dt_chain od_le od_le (DE.r de_int) (DE.r (de_cb cb_len rfl h.n_len boot_len (dar_cons (dr_var 0 rfl (by first | exact .inl rfl | exact .inr (.inl rfl) | exact .inr (.inr rfl))) dar_nil))) (DE.r (de_gint rfl h.i_MOSTzSIGNS))))))) (dss_one (ds_ret de_bl)) dss_nil)
  (dss_one (ds_ret (de_and (de_cmp od_inS (DE.r (de_ix (dr_var 0 rfl (by first | exact .inl rfl | exact .inr (.inl rfl) | exact .inr (.inr rfl))) (DE.r de_int))) (DE.r (de_gstr rfl h.s_LETTERS))) (de_one (de_cb (cb_all rfl) rfl h.n_all boot_all (dar_cons (DE.r (DN.de (dn_lc (own := [("sign", 1)]) rfl sc_iszname.nd (dir_seq (dr_var 0 rfl (by first | exact .inl rfl | exact .inr (.inl rfl) | exact .inr (.inr rfl)))) (blkOk_by (own := [("sign", 1)]) (N := N_iszname) (sc := defScope s_iszname) (by decide +kernel)) (fun _ _ _ _ _ => (dg_var 1 sc_iszname.nd)) (fun _ _ _ _ _ => dts_nil) (fun _ _ _ _ _ => (de_cmp od_inS (dr_var 1 rfl (by first | exact .inl rfl | exact .inr (.inl rfl) | exact .inr (.inr rfl))) (DE.r (de_gstr rfl h.s_SIGNS))))))) dar_nil)))))))
theorem ok_iszname (h : Fx K mg) : FnD P w K mg base 1 (He.fAd K ("is_name", none)) F_iszname := by
  obtain ⟨fd, F⟩ := h.d_iszname
  exact fnD_of (ps := ["thing"]) F sc_iszname (fun _ _ _ _ _ _ us hl => match us, hl with | [_], _ => rfl) (b_iszname h)
theorem b_Treezzzinitzz (h : Fx K mg) : Body P w K mg base 1 N_Treezzzinitzz "Tree.__init__" (defScope s_Treezzzinitzz) (He.fAd K ("Tree", some "__init__")) (defBody s_Treezzzinitzz) m_Treezzzinitzz := by
  intro cdv A outer s H E hr tk po
  exact (dss_cons (ds_if (dt_not (dt_val (de_call (CalD.fn (ok_iszname h) hr (by decide) tk h.k_iszname) rfl h.g_iszname (da_cons (de_var 1 rfl (by first | exact .inl rfl | exact .inr (.inl rfl) | exact .inr (.inr rfl))) da_nil)))) (dss_one ds_never) dss_nil)
  (dss_cons (ds_for po rfl (di_enum rfl h.n_enumerate (de_var 2 rfl (by first | exact .inl rfl | exact .inr (.inl rfl) | exact .inr (.inr rfl)))) (dg_tup rfl (dgs_cons (dg_var 3 sc_Treezzzinitzz.nd) (dgs_cons (dg_var 4 sc_Treezzzinitzz.nd) dgs_nil))) (dss_one (ds_if (dt_not (dt_val (de_call (CalD.fn (ok_iszchild h) hr (by decide) tk h.k_iszchild) rfl h.g_iszchild (da_cons (de_var 4 rfl (by first | exact .inl rfl | exact .inr (.inl rfl) | exact .inr (.inr rfl))) da_nil)))) (dss_one ds_never) dss_nil)))
  (dss_cons (ds_fld 0 h.na_Tree_kind (de_var 1 rfl (by first | exact .inl rfl | exact .inr (.inl rfl) | exact .inr (.inr rfl))))
  (dss_cons (ds_fld 0 h.na_Tree_children (de_cty cb_tup rfl h.n_tuple boot_tuple (dar_cons (DE.r (DN.de (dn_lc (own := [("child", 4)]) rfl sc_Treezzzinitzz.nd (dir_seq (dr_var 2 rfl (by first | exact .inl rfl | exact .inr (.inl rfl) | exact .inr (.inr rfl)))) (blkOk_by (own := [("child", 4)]) (N := N_Treezzzinitzz) (sc := defScope s_Treezzzinitzz) (by decide +kernel)) (fun _ _ _ _ _ => (dg_var 4 sc_Treezzzinitzz.nd)) (fun _ _ _ _ _ => dts_nil) (fun _ _ _ _ _ => (de_if (dt_val (de_cb (cb_isiT h.t0) rfl h.n_isinstance boot_isinstance (dar_cons (dr_var 4 rfl (by first | exact .inl rfl | exact .inr (.inl rfl) | exact .inr (.inr rfl))) (dar_cons (DE.r (de_ty rfl h.n_list boot_list)) dar_nil)))) (de_cty cb_tup rfl h.n_tuple boot_tuple (dar_cons (dr_var 4 rfl (by first | exact .inl rfl | exact .inr (.inl rfl) | exact .inr (.inr rfl))) dar_nil)) (de_var 4 rfl (by first | exact .inl rfl | exact .inr (.inl rfl) | exact .inr (.inr rfl)))))))) dar_nil)))
  (dss_cons (ds_set 5 sc_Treezzzinitzz.nd (de_meth0 (de_var 0 rfl (by first | exact .inl rfl | exact .inr (.inl rfl) | exact .inr (.inr rfl))) h.ci_Tree.cl h.me_Treezbelow (CalD.fn (ok_Treezbelow h) hr (by decide) tk h.k_Treezbelow)))
  (dss_cons (ds_fld 0 h.na_Tree_size (de_bin od_add (DE.r de_int) (DE.r (de_cb (cb_sum rfl) rfl h.n_sum boot_sum (dar_cons (DE.r (DN.de (dn_lc (own := [("tree", 6)]) rfl sc_Treezzzinitzz.nd (dir_seq (dr_var 5 rfl (by first | exact .inl rfl | exact .inr (.inl rfl) | exact .inr (.inr rfl)))) (blkOk_by (own := [("tree", 6)]) (N := N_Treezzzinitzz) (sc := defScope s_Treezzzinitzz) (by decide +kernel)) (fun _ _ _ _ _ => (dg_var 6 sc_Treezzzinitzz.nd)) (fun _ _ _ _ _ => dts_nil) (fun _ _ _ _ _ => (de_attr (de_var 6 rfl (by first | exact .inl rfl | exact .inr (.inl rfl) | exact .inr (.inr rfl)))))))) dar_nil)))))
  (dss_one (ds_fld 0 h.na_Tree_depth (de_bin od_add (DE.r de_int) (DE.r (de_maxDf rfl hr.units rfl h.n_max (DE.r (DN.de (dn_lc (own := [("tree", 6)]) rfl sc_Treezzzinitzz.nd (dir_seq (dr_var 5 rfl (by first | exact .inl rfl | exact .inr (.inl rfl) | exact .inr (.inr rfl)))) (blkOk_by (own := [("tree", 6)]) (N := N_Treezzzinitzz) (sc := defScope s_Treezzzinitzz) (by decide +kernel)) (fun _ _ _ _ _ => (dg_var 6 sc_Treezzzinitzz.nd)) (fun _ _ _ _ _ => dts_nil) (fun _ _ _ _ _ => (de_attr (de_var 6 rfl (by first | exact .inl rfl | exact .inr (.inl rfl) | exact .inr (.inr rfl)))))))) de_int)))))))))))
theorem ok_Treezzzinitzz (h : Fx K mg) : FnI P w K mg base 2 (He.fAd K ("Tree", some "__init__")) "Tree" F_Treezzzinitzz := by
  obtain ⟨fd, F⟩ := h.d_Treezzzinitzz
  exact fnI_star (ps := ["self", "kind"]) F h.ci_Tree sc_Treezzzinitzz (by decide) (fun _ _ _ _ _ _ us rest hl => match us, hl, rest with | [_, _], _, [] => rfl | [_, _], _, _ :: _ => rfl) (b_Treezzzinitzz h)
theorem b_zlawzbag (h : Fx K mg) : Body P w K mg base 0 N_zlawzbag "_law_bag" (defScope s_zlawzbag) (He.fAd K ("_law_bag", none)) (defBody s_zlawzbag) m_zlawzbag := by
  intro cdv A outer s H E hr tk po
  exact (dss_cons (ds_set 2 sc_zlawzbag.nd (de_if (dt_cmp od_lt (dr_var 1 rfl (by first | exact .inl rfl | exact .inr (.inl rfl) | exact .inr (.inr rfl))) (DE.r (de_cb cb_len rfl h.n_len boot_len (dar_cons (dr_var 0 rfl (by first | exact .inl rfl | exact .inr (.inl rfl) | exact .inr (.inr rfl))) dar_nil)))) (de_ix (dr_var 0 rfl (by first | exact .inl rfl | exact .inr (.inl rfl) | exact .inr (.inr rfl))) (dr_var 1 rfl (by first | exact .inl rfl | exact .inr (.inl rfl) | exact .inr (.inr rfl)))) de_int))
  (dss_cons (ds_set 3 sc_zlawzbag.nd (de_bin od_add (DE.r (de_bin od_mul (DE.r de_int) (dr_var 1 rfl (by first | exact .inl rfl | exact .inr (.inl rfl) | exact .inr (.inr rfl))))) (DE.r de_int)))
  (dss_cons (ds_for po rfl (di_enum rfl h.n_enumerate (de_sl (dr_var 0 rfl (by first | exact .inl rfl | exact .inr (.inl rfl) | exact .inr (.inr rfl))) do_none (do_some de_int))) (dg_tup rfl (dgs_cons (dg_var 4 sc_zlawzbag.nd) (dgs_cons (dg_var 5 sc_zlawzbag.nd) dgs_nil))) (dss_one (ds_set 3 sc_zlawzbag.nd (de_bin od_mod (DE.r (de_cty cb_int rfl h.n_int boot_int (dar_cons (DE.r (de_bin od_add (DE.r (de_bin od_add (DE.r (de_bin od_add (DE.r (de_bin od_mul (dr_var 3 rfl (by first | exact .inl rfl | exact .inr (.inl rfl) | exact .inr (.inr rfl))) (DE.r de_int))) (DE.r (de_bin od_mod (DE.r (de_cty cb_int rfl h.n_int boot_int (dar_cons (dr_var 5 rfl (by first | exact .inl rfl | exact .inr (.inl rfl) | exact .inr (.inr rfl))) dar_nil))) (DE.r de_int))))) (DE.r (de_bin od_mul (DE.r de_int) (dr_var 4 rfl (by first | exact .inl rfl | exact .inr (.inl rfl) | exact .inr (.inr rfl))))))) (DE.r de_int))) dar_nil))) (DE.r de_int)))))
  (dss_one (ds_ret (DN.loc (dn_lst (da_cons (de_if (dt_cmp od_ge (DE.r (de_cb cb_abs rfl h.n_abs boot_abs (dar_cons (dr_var 2 rfl (by first | exact .inl rfl | exact .inr (.inl rfl) | exact .inr (.inr rfl))) dar_nil))) (DE.r (de_bin od_pow (DE.r de_int) (DE.r de_int)))) (de_cb cb_abs rfl h.n_abs boot_abs (dar_cons (dr_var 2 rfl (by first | exact .inl rfl | exact .inr (.inl rfl) | exact .inr (.inr rfl))) dar_nil)) de_int) (da_cons (de_var 3 rfl (by first | exact .inl rfl | exact .inr (.inl rfl) | exact .inr (.inr rfl))) da_nil)))))))))
theorem ok_zlawzbag (h : Fx K mg) : FnD P w K mg base 1 (He.fAd K ("_law_bag", none)) F_zlawzbag := by
  obtain ⟨fd, F⟩ := h.d_zlawzbag
  exact fnD_of (ps := ["_law_script", "_law_at"]) F sc_zlawzbag (fun _ _ _ _ _ _ us hl => match us, hl with | [_, _], _ => rfl) (b_zlawzbag h)
theorem b_zlawzisznumber (h : Fx K mg) : Body P w K mg base 0 N_zlawzisznumber "_law_is_number" (defScope s_zlawzisznumber) (He.fAd K ("_law_is_number", none)) (defBody s_zlawzisznumber) m_zlawzisznumber := by
  intro cdv A outer s H E hr tk po
  exact (dss_one (ds_ret (de_and (de_cb (cb_isiT h.t5) rfl h.n_isinstance boot_isinstance (dar_cons (dr_var 0 rfl (by first | exact .inl rfl | exact .inr (.inl rfl) | exact .inr (.inr rfl))) (dar_cons (DE.r (de_ty rfl h.n_int boot_int)) dar_nil))) (de_and (de_not (de_cb (cb_isiT h.t6) rfl h.n_isinstance boot_isinstance (dar_cons (dr_var 0 rfl (by first | exact .inl rfl | exact .inr (.inl rfl) | exact .inr (.inr rfl))) (dar_cons (DE.r (de_ty rfl h.n_bool boot_bool)) dar_nil)))) (de_one (de_cmp (od_eqL hr.units) (dr_var 0 rfl (by first | exact .inl rfl | exact .inr (.inl rfl) | exact .inr (.inr rfl))) (dr_var 1 rfl (by first | exact .inl rfl | exact .inr (.inl rfl) | exact .inr (.inr rfl)))))))))
theorem ok_zlawzisznumber (h : Fx K mg) : FnD P w K mg base 1 (He.fAd K ("_law_is_number", none)) F_zlawzisznumber := by
  obtain ⟨fd, F⟩ := h.d_zlawzisznumber
  exact fnD_of (ps := ["_law_thing", "_law_due"]) F sc_zlawzisznumber (fun _ _ _ _ _ _ us hl => match us, hl with | [_, _], _ => rfl) (b_zlawzisznumber h)
theorem b_zlawztake (h : Fx K mg) : Body P w K mg base 0 N_zlawztake "_law_take" (defScope s_zlawztake) (He.fAd K ("_law_take", none)) (defBody s_zlawztake) m_zlawztake := by
  intro cdv A outer s H E hr tk po
  exact (dss_cons (ds_if (dt_cmp od_gt (DE.r (de_ix (dr_var 0 rfl (by first | exact .inl rfl | exact .inr (.inl rfl) | exact .inr (.inr rfl))) (DE.r de_int))) (DE.r de_int)) (dss_cons (ds_set 2 sc_zlawztake.nd (de_bin od_mod (DE.r (de_cty cb_int rfl h.n_int boot_int (dar_cons (DE.r (de_ix (dr_var 0 rfl (by first | exact .inl rfl | exact .inr (.inl rfl) | exact .inr (.inr rfl))) (DE.r de_int))) dar_nil))) (dr_var 1 rfl (by first | exact .inl rfl | exact .inr (.inl rfl) | exact .inr (.inr rfl)))))
  (dss_cons (ds_store (de_bin od_fdv (DE.r (de_ix (dr_var 0 rfl (by first | exact .inl rfl | exact .inr (.inl rfl) | exact .inr (.inr rfl))) (DE.r de_int))) (dr_var 1 rfl (by first | exact .inl rfl | exact .inr (.inl rfl) | exact .inr (.inr rfl)))) (de_var 0 rfl (by first | exact .inl rfl | exact .inr (.inl rfl) | exact .inr (.inr rfl))) de_int)
  (dss_one (ds_ret (de_var 2 rfl (by first | exact .inl rfl | exact .inr (.inl rfl) | exact .inr (.inr rfl))))))) dss_nil)
  (dss_cons (ds_store (de_bin od_mod (DE.r (de_cty cb_int rfl h.n_int boot_int (dar_cons (DE.r (de_bin od_add (DE.r (de_bin od_mul (DE.r (de_ix (dr_var 0 rfl (by first | exact .inl rfl | exact .inr (.inl rfl) | exact .inr (.inr rfl))) (DE.r de_int))) (DE.r de_int))) (DE.r de_int))) dar_nil))) (DE.r de_int)) (de_var 0 rfl (by first | exact .inl rfl | exact .inr (.inl rfl) | exact .inr (.inr rfl))) de_int)
  (dss_one (ds_ret (de_bin od_mod (DE.r (de_cty cb_int rfl h.n_int boot_int (dar_cons (DE.r (de_bin od_fdv (DE.r (de_bin od_mod (DE.r (de_cty cb_int rfl h.n_int boot_int (dar_cons (DE.r (de_bin od_mul (DE.r (de_bin od_fdv (DE.r (de_ix (dr_var 0 rfl (by first | exact .inl rfl | exact .inr (.inl rfl) | exact .inr (.inr rfl))) (DE.r de_int))) (DE.r de_int))) (DE.r de_int))) dar_nil))) (DE.r de_int))) (DE.r de_int))) dar_nil))) (dr_var 1 rfl (by first | exact .inl rfl | exact .inr (.inl rfl) | exact .inr (.inr rfl))))))))
theorem ok_zlawztake (h : Fx K mg) : FnD P w K mg base 1 (He.fAd K ("_law_take", none)) F_zlawztake := by
  obtain ⟨fd, F⟩ := h.d_zlawztake
  exact fnD_of (ps := ["_law_bag_here", "_law_many"]) F sc_zlawztake (fun _ _ _ _ _ _ us hl => match us, hl with | [_, _], _ => rfl) (b_zlawztake h)
theorem b_zlawzof (h : Fx K mg) : Body P w K mg base 1 N_zlawzof "_law_of" (defScope s_zlawzof) (He.fAd K ("_law_of", none)) (defBody s_zlawzof) m_zlawzof := by
  intro cdv A outer s H E hr tk po
  exact (dss_one (ds_ret (de_ix (dr_var 1 rfl (by first | exact .inl rfl | exact .inr (.inl rfl) | exact .inr (.inr rfl))) (DE.r (de_call (CalD.fn (ok_zlawztake h) hr (by decide) tk h.k_zlawztake) rfl h.g_zlawztake (da_cons (de_var 0 rfl (by first | exact .inl rfl | exact .inr (.inl rfl) | exact .inr (.inr rfl))) (da_cons (de_cb cb_len rfl h.n_len boot_len (dar_cons (dr_var 1 rfl (by first | exact .inl rfl | exact .inr (.inl rfl) | exact .inr (.inr rfl))) dar_nil)) da_nil)))))))
theorem ok_zlawzof (h : Fx K mg) : FnD P w K mg base 2 (He.fAd K ("_law_of", none)) F_zlawzof := by
  obtain ⟨fd, F⟩ := h.d_zlawzof
  exact fnD_of (ps := ["_law_bag_here", "_law_some"]) F sc_zlawzof (fun _ _ _ _ _ _ us hl => match us, hl with | [_, _], _ => rfl) (b_zlawzof h)
theorem b_zlawznames (h : Fx K mg) : Body P w K mg base 2 N_zlawznames "_law_names" (defScope s_zlawznames) (He.fAd K ("_law_names", none)) (defBody s_zlawznames) m_zlawznames := by
  intro cdv A outer s H E hr tk po
  exact (dss_cons (ds_set 2 sc_zlawznames.nd de_str)
  (dss_cons (ds_set 3 sc_zlawznames.nd (de_if (dt_cmp (od_eqL hr.units) (DE.r (de_call (CalD.fn (ok_zlawztake h) hr (by decide) tk h.k_zlawztake) rfl h.g_zlawztake (da_cons (de_var 0 rfl (by first | exact .inl rfl | exact .inr (.inl rfl) | exact .inr (.inr rfl))) (da_cons de_int da_nil)))) (DE.r de_int)) (de_bin od_add (dr_var 2 rfl (by first | exact .inl rfl | exact .inr (.inl rfl) | exact .inr (.inr rfl))) (DE.r de_str)) (de_var 2 rfl (by first | exact .inl rfl | exact .inr (.inl rfl) | exact .inr (.inr rfl)))))
  (dss_cons (ds_set 4 sc_zlawznames.nd (de_call (CalD.fn (ok_zlawzof h) hr (by decide) tk h.k_zlawzof) rfl h.g_zlawzof (da_cons (de_var 0 rfl (by first | exact .inl rfl | exact .inr (.inl rfl) | exact .inr (.inr rfl))) (da_cons (DN.de (dn_lst (da_cons de_int (da_cons de_int (da_cons de_int (da_cons de_int (da_cons de_int (da_cons de_int da_nil)))))))) da_nil))))
  (dss_cons (ds_setLc (own := [("_law_k", 6)]) 5 rfl sc_zlawznames.nd (DI.r (di_rng1 rfl h.n_range (da_cons de_int da_nil))) (blkOk_by (own := [("_law_k", 6)]) (N := N_zlawznames) (sc := defScope s_zlawznames) (by decide +kernel)) (fun _ _ _ _ _ => (dg_var 6 sc_zlawznames.nd)) (fun _ _ _ _ _ => dts_nil) (fun _ _ _ _ _ => (de_ix (dr_var 3 rfl (by first | exact .inl rfl | exact .inr (.inl rfl) | exact .inr (.inr rfl))) (DE.r (de_call (CalD.fn (ok_zlawztake h) hr (by decide) takes_no h.k_zlawztake) rfl h.g_zlawztake (da_cons (de_var 0 rfl (by first | exact .inl rfl | exact .inr (.inl rfl) | exact .inr (.inr rfl))) (da_cons (de_cb cb_len rfl h.n_len boot_len (dar_cons (dr_var 3 rfl (by first | exact .inl rfl | exact .inr (.inl rfl) | exact .inr (.inr rfl))) dar_nil)) da_nil)))))) (sw_true rfl rfl rfl rfl))
  (dss_frz 5 (dss_cons (ds_set 7 sc_zlawznames.nd (de_bin od_add (DE.r (de_ix (dr_var 2 rfl (by first | exact .inl rfl | exact .inr (.inl rfl) | exact .inr (.inr rfl))) (DE.r (de_call (CalD.fn (ok_zlawztake h) hr (by decide) tk h.k_zlawztake) rfl h.g_zlawztake (da_cons (de_var 0 rfl (by first | exact .inl rfl | exact .inr (.inl rfl) | exact .inr (.inr rfl))) (da_cons de_int da_nil)))))) (DE.r (de_s1 sm_join PySem.F.slot_str_join PySem.F.type_str_join de_str (dr_var 5 rfl (by first | exact .inl rfl | exact .inr (.inl rfl) | exact .inr (.inr rfl)))))))
  (dss_cons (ds_tupX rfl (dx_val (de_call (CalD.fn (ok_zlawztake h) hr (by decide) tk h.k_zlawztake) rfl h.g_zlawztake (da_cons (de_var 0 rfl (by first | exact .inl rfl | exact .inr (.inl rfl) | exact .inr (.inr rfl))) (da_cons (de_bin od_add (dr_var 4 rfl (by first | exact .inl rfl | exact .inr (.inl rfl) | exact .inr (.inr rfl))) (DE.r de_int)) da_nil))) (dx_val (de_call (CalD.fn (ok_zlawztake h) hr (by decide) tk h.k_zlawztake) rfl h.g_zlawztake (da_cons (de_var 0 rfl (by first | exact .inl rfl | exact .inr (.inl rfl) | exact .inr (.inr rfl))) (da_cons de_int da_nil))) dx_nil)) (tn_cons 8 sc_zlawznames.nd (tn_cons 9 sc_zlawznames.nd tn_nil)))
  (dss_cons (ds_setLc (own := [("_law_k", 6)]) 10 rfl sc_zlawznames.nd (DI.r (di_rng1 rfl h.n_range (da_cons (de_var 1 rfl (by first | exact .inl rfl | exact .inr (.inl rfl) | exact .inr (.inr rfl))) da_nil))) (blkOk_by (own := [("_law_k", 6)]) (N := N_zlawznames) (sc := defScope s_zlawznames) (by decide +kernel)) (fun _ _ _ _ _ => (dg_var 6 sc_zlawznames.nd)) (fun _ _ _ _ _ => dts_nil) (fun _ _ _ _ _ => (de_ix (dr_var 2 rfl (by first | exact .inl rfl | exact .inr (.inl rfl) | exact .inr (.inr rfl))) (DE.r (de_bin od_mod (DE.r (de_bin od_add (dr_var 9 rfl (by first | exact .inl rfl | exact .inr (.inl rfl) | exact .inr (.inr rfl))) (DE.r (de_bin od_mul (DE.r de_int) (dr_var 6 rfl (by first | exact .inl rfl | exact .inr (.inl rfl) | exact .inr (.inr rfl))))))) (DE.r de_int))))) (sw_true rfl rfl rfl rfl))
  (dss_frz 10 (dss_one (ds_ret (DN.de (dn_lc (own := [("_law_sign", 11)]) rfl sc_zlawznames.nd (dir_seq (dr_var 10 rfl (by first | exact .inl rfl | exact .inr (.inl rfl) | exact .inr (.inr rfl)))) (blkOk_by (own := [("_law_sign", 11)]) (N := N_zlawznames) (sc := defScope s_zlawznames) (by decide +kernel)) (fun _ _ _ _ _ => (dg_var 11 sc_zlawznames.nd)) (fun _ _ _ _ _ => dts_nil) (fun _ _ _ _ _ => (de_bin od_add (DE.r (de_bin od_add (DE.r (de_sl (dr_var 7 rfl (by first | exact .inl rfl | exact .inr (.inl rfl) | exact .inr (.inr rfl))) do_none (do_some (de_var 8 rfl (by first | exact .inl rfl | exact .inr (.inl rfl) | exact .inr (.inr rfl)))))) (dr_var 11 rfl (by first | exact .inl rfl | exact .inr (.inl rfl) | exact .inr (.inr rfl))))) (DE.r (de_sl (dr_var 7 rfl (by first | exact .inl rfl | exact .inr (.inl rfl) | exact .inr (.inr rfl))) (do_some (de_var 8 rfl (by first | exact .inl rfl | exact .inr (.inl rfl) | exact .inr (.inr rfl)))) (do_some (de_var 4 rfl (by first | exact .inl rfl | exact .inr (.inl rfl) | exact .inr (.inr rfl)))))))))))))))))))))
theorem ok_zlawznames (h : Fx K mg) : FnD P w K mg base 3 (He.fAd K ("_law_names", none)) F_zlawznames := by
  obtain ⟨fd, F⟩ := h.d_zlawznames
  exact fnD_of (ps := ["_law_bag_here", "_law_many"]) F sc_zlawznames (fun _ _ _ _ _ _ us hl => match us, hl with | [_, _], _ => rfl) (b_zlawznames h)
theorem b_zlawzput (h : Fx K mg) : Body P w K mg base 3 N_zlawzput "_law_put" (defScope s_zlawzput) (He.fAd K ("_law_put", none)) (defBody s_zlawzput) m_zlawzput := by
  intro cdv A outer s H E hr tk po
  exact (dss_cons (ds_if (dt_cmp (od_eqL hr.units) (dr_var 1 rfl (by first | exact .inl rfl | exact .inr (.inl rfl) | exact .inr (.inr rfl))) (DE.r (DN.de (dn_lst da_nil)))) (dss_one (ds_ret (de_call (CalD.cls h.mk_Tree (ok_Treezzzinitzz h) hr (by decide) tk) rfl h.g_Tree (da_cons (de_var 0 rfl (by first | exact .inl rfl | exact .inr (.inl rfl) | exact .inr (.inr rfl))) da_nil)))) dss_nil)
  (dss_cons (ds_if (dt_cmp (od_eqL hr.units) (DE.r (de_cb cb_len rfl h.n_len boot_len (dar_cons (dr_var 1 rfl (by first | exact .inl rfl | exact .inr (.inl rfl) | exact .inr (.inr rfl))) dar_nil))) (DE.r de_int)) (dss_one (ds_ret (de_call (CalD.cls h.mk_Tree (ok_Treezzzinitzz h) hr (by decide) tk) rfl h.g_Tree (da_cons (de_var 0 rfl (by first | exact .inl rfl | exact .inr (.inl rfl) | exact .inr (.inr rfl))) (da_cons (de_ix (dr_var 1 rfl (by first | exact .inl rfl | exact .inr (.inl rfl) | exact .inr (.inr rfl))) (DE.r de_int)) da_nil))))) dss_nil)
  (dss_cons (ds_if (dt_cmp (od_eqL hr.units) (DE.r (de_cb cb_len rfl h.n_len boot_len (dar_cons (dr_var 1 rfl (by first | exact .inl rfl | exact .inr (.inl rfl) | exact .inr (.inr rfl))) dar_nil))) (DE.r de_int)) (dss_one (ds_ret (de_call (CalD.cls h.mk_Tree (ok_Treezzzinitzz h) hr (by decide) tk) rfl h.g_Tree (da_cons (de_var 0 rfl (by first | exact .inl rfl | exact .inr (.inl rfl) | exact .inr (.inr rfl))) (da_cons (de_ix (dr_var 1 rfl (by first | exact .inl rfl | exact .inr (.inl rfl) | exact .inr (.inr rfl))) (DE.r de_int)) (da_cons (de_ix (dr_var 1 rfl (by first | exact .inl rfl | exact .inr (.inl rfl) | exact .inr (.inr rfl))) (DE.r de_int)) da_nil)))))) dss_nil)
  (dss_cons (ds_if (dt_cmp (od_eqL hr.units) (DE.r (de_cb cb_len rfl h.n_len boot_len (dar_cons (dr_var 1 rfl (by first | exact .inl rfl | exact .inr (.inl rfl) | exact .inr (.inr rfl))) dar_nil))) (DE.r de_int)) (dss_one (ds_ret (de_call (CalD.cls h.mk_Tree (ok_Treezzzinitzz h) hr (by decide) tk) rfl h.g_Tree (da_cons (de_var 0 rfl (by first | exact .inl rfl | exact .inr (.inl rfl) | exact .inr (.inr rfl))) (da_cons (de_ix (dr_var 1 rfl (by first | exact .inl rfl | exact .inr (.inl rfl) | exact .inr (.inr rfl))) (DE.r de_int)) (da_cons (de_ix (dr_var 1 rfl (by first | exact .inl rfl | exact .inr (.inl rfl) | exact .inr (.inr rfl))) (DE.r de_int)) (da_cons (de_ix (dr_var 1 rfl (by first | exact .inl rfl | exact .inr (.inl rfl) | exact .inr (.inr rfl))) (DE.r de_int)) da_nil))))))) dss_nil)
  (dss_cons (ds_if (dt_cmp (od_eqL hr.units) (DE.r (de_cb cb_len rfl h.n_len boot_len (dar_cons (dr_var 1 rfl (by first | exact .inl rfl | exact .inr (.inl rfl) | exact .inr (.inr rfl))) dar_nil))) (DE.r de_int)) (dss_one (ds_ret (de_call (CalD.cls h.mk_Tree (ok_Treezzzinitzz h) hr (by decide) tk) rfl h.g_Tree (da_cons (de_var 0 rfl (by first | exact .inl rfl | exact .inr (.inl rfl) | exact .inr (.inr rfl))) (da_cons (de_ix (dr_var 1 rfl (by first | exact .inl rfl | exact .inr (.inl rfl) | exact .inr (.inr rfl))) (DE.r de_int)) (da_cons (de_ix (dr_var 1 rfl (by first | exact .inl rfl | exact .inr (.inl rfl) | exact .inr (.inr rfl))) (DE.r de_int)) (da_cons (de_ix (dr_var 1 rfl (by first | exact .inl rfl | exact .inr (.inl rfl) | exact .inr (.inr rfl))) (DE.r de_int)) (da_cons (de_ix (dr_var 1 rfl (by first | exact .inl rfl | exact .inr (.inl rfl) | exact .inr (.inr rfl))) (DE.r de_int)) da_nil)))))))) dss_nil)
  (dss_one (ds_ret (de_call (CalD.cls h.mk_Tree (ok_Treezzzinitzz h) hr (by decide) tk) rfl h.g_Tree (da_cons (de_var 0 rfl (by first | exact .inl rfl | exact .inr (.inl rfl) | exact .inr (.inr rfl))) (da_cons (de_ix (dr_var 1 rfl (by first | exact .inl rfl | exact .inr (.inl rfl) | exact .inr (.inr rfl))) (DE.r de_int)) (da_cons (de_ix (dr_var 1 rfl (by first | exact .inl rfl | exact .inr (.inl rfl) | exact .inr (.inr rfl))) (DE.r de_int)) (da_cons (de_ix (dr_var 1 rfl (by first | exact .inl rfl | exact .inr (.inl rfl) | exact .inr (.inr rfl))) (DE.r de_int)) (da_cons (de_ix (dr_var 1 rfl (by first | exact .inl rfl | exact .inr (.inl rfl) | exact .inr (.inr rfl))) (DE.r de_int)) (da_cons (de_ix (dr_var 1 rfl (by first | exact .inl rfl | exact .inr (.inl rfl) | exact .inr (.inr rfl))) (DE.r de_int)) da_nil))))))))))))))
theorem ok_zlawzput (h : Fx K mg) : FnD P w K mg base 4 (He.fAd K ("_law_put", none)) F_zlawzput := by
  obtain ⟨fd, F⟩ := h.d_zlawzput
  exact fnD_of (ps := ["_law_kind", "_law_kids"]) F sc_zlawzput (fun _ _ _ _ _ _ us hl => match us, hl with | [_, _], _ => rfl) (b_zlawzput h)
theorem b_law (h : Fx K mg) : Body P w K mg base 4 N_law "law" (defScope s_law) (He.fAd K ("law", none)) (defBody s_law) m_law := by
  intro cdv A outer s H E hr tk po
  exact (dss_cons (ds_for po rfl (di_rng1 rfl h.n_range (da_cons (de_cb (cb_max2 rfl) rfl h.n_max boot_max (dar_cons (DE.r de_int) (dar_cons (DE.r (de_cb (cb_min2 rfl) rfl h.n_min boot_min (dar_cons (DE.r de_int) (dar_cons (DE.r (de_cb cb_len rfl h.n_len boot_len (dar_cons (dr_var 0 rfl (by first | exact .inl rfl | exact .inr (.inl rfl) | exact .inr (.inr rfl))) dar_nil))) dar_nil)))) dar_nil))) da_nil)) (dg_var 1 sc_law.nd) (dss_cons (ds_set 2 sc_law.nd (de_call (CalD.fn (ok_zlawzbag h) hr (by decide) tk h.k_zlawzbag) rfl h.g_zlawzbag (da_cons (de_var 0 rfl (by first | exact .inl rfl | exact .inr (.inl rfl) | exact .inr (.inr rfl))) (da_cons (de_var 1 rfl (by first | exact .inl rfl | exact .inr (.inl rfl) | exact .inr (.inr rfl))) da_nil))))
  (dss_cons (ds_set 3 sc_law.nd (de_call (CalD.fn (ok_zlawznames h) hr (by decide) tk h.k_zlawznames) rfl h.g_zlawznames (da_cons (de_var 2 rfl (by first | exact .inl rfl | exact .inr (.inl rfl) | exact .inr (.inr rfl))) (da_cons de_int da_nil))))
  (dss_cons (ds_tupX rfl (dx_own (dn_lst (da_cons (de_call (CalD.cls h.mk_Tree (ok_Treezzzinitzz h) hr (by decide) tk) rfl h.g_Tree (da_cons (de_ix (dr_var 3 rfl (by first | exact .inl rfl | exact .inr (.inl rfl) | exact .inr (.inr rfl))) (DE.r de_int)) da_nil)) da_nil)) (dx_own (dn_lst (da_cons de_int da_nil)) (dx_own (dn_lst (da_cons de_int da_nil)) dx_nil))) (tn_cons 6 sc_law.nd (tn_cons 7 sc_law.nd (tn_cons 8 sc_law.nd tn_nil))))
  (dss_cons (ds_for po rfl (di_rng1 rfl h.n_range (da_cons (de_call (CalD.fn (ok_zlawztake h) hr (by decide) tk h.k_zlawztake) rfl h.g_zlawztake (da_cons (de_var 2 rfl (by first | exact .inl rfl | exact .inr (.inl rfl) | exact .inr (.inr rfl))) (da_cons de_int da_nil))) da_nil)) (dg_var 4 sc_law.nd) (dss_cons (ds_par2 12 13 rfl sc_law.nd (dx_own (dn_lst da_nil) (dx_own (dn_lst da_nil) dx_nil)))
  (dss_cons (ds_for po rfl (di_rng1 rfl h.n_range (da_cons (de_bin od_add (DE.r de_int) (DE.r (de_call (CalD.fn (ok_zlawztake h) hr (by decide) tk h.k_zlawztake) rfl h.g_zlawztake (da_cons (de_var 2 rfl (by first | exact .inl rfl | exact .inr (.inl rfl) | exact .inr (.inr rfl))) (da_cons de_int da_nil))))) da_nil)) (dg_var 9 sc_law.nd) (dss_cons (ds_set 5 sc_law.nd (de_if (dt_cmp (od_eqL hr.units) (dr_var 9 rfl (by first | exact .inl rfl | exact .inr (.inl rfl) | exact .inr (.inr rfl))) (DE.r de_int)) (de_bin od_sub (DE.r (de_cb cb_len rfl h.n_len boot_len (dar_cons (dr_var 6 rfl (by first | exact .inl rfl | exact .inr (.inl rfl) | exact .inr (.inr rfl))) dar_nil))) (DE.r de_int)) (de_cb (cb_max2 rfl) rfl h.n_max boot_max (dar_cons (DE.r de_int) (dar_cons (DE.r (de_bin od_sub (DE.r (de_bin od_sub (DE.r (de_cb cb_len rfl h.n_len boot_len (dar_cons (dr_var 6 rfl (by first | exact .inl rfl | exact .inr (.inl rfl) | exact .inr (.inr rfl))) dar_nil))) (DE.r de_int))) (DE.r (de_call (CalD.fn (ok_zlawztake h) hr (by decide) tk h.k_zlawztake) rfl h.g_zlawztake (da_cons (de_var 2 rfl (by first | exact .inl rfl | exact .inr (.inl rfl) | exact .inr (.inr rfl))) (da_cons de_int da_nil)))))) dar_nil)))))
  (dss_cons (ds_set 14 sc_law.nd (de_call (CalD.fn (ok_zlawztake h) hr (by decide) tk h.k_zlawztake) rfl h.g_zlawztake (da_cons (de_var 2 rfl (by first | exact .inl rfl | exact .inr (.inl rfl) | exact .inr (.inr rfl))) (da_cons de_int da_nil))))
  (dss_one (ds_if (dt_cmp od_lt (DE.r (de_bin od_add (DE.r (de_cb (cb_sum rfl) rfl h.n_sum boot_sum (dar_cons (DE.r (DN.de (dn_lc (own := [("_law_each", 11)]) rfl sc_law.nd (dir_seq (dr_var 13 rfl (by first | exact .inl rfl | exact .inr (.inl rfl) | exact .inr (.inr rfl)))) (blkOk_by (own := [("_law_each", 11)]) (N := N_law) (sc := defScope s_law) (by decide +kernel)) (fun _ _ _ _ _ => (dg_var 11 sc_law.nd)) (fun _ _ _ _ _ => dts_nil) (fun _ _ _ _ _ => (de_ix (dr_var 7 rfl (by first | exact .inl rfl | exact .inr (.inl rfl) | exact .inr (.inr rfl))) (dr_var 11 rfl (by first | exact .inl rfl | exact .inr (.inl rfl) | exact .inr (.inr rfl)))))))) dar_nil))) (DE.r (de_ix (dr_var 7 rfl (by first | exact .inl rfl | exact .inr (.inl rfl) | exact .inr (.inr rfl))) (dr_var 5 rfl (by first | exact .inl rfl | exact .inr (.inl rfl) | exact .inr (.inr rfl))))))) (DE.r de_int)) (dss_cons (ds_app 12 (de_ix (DE.r (DN.de (dn_lst (da_cons (de_ix (dr_var 6 rfl (by first | exact .inl rfl | exact .inr (.inl rfl) | exact .inr (.inr rfl))) (dr_var 5 rfl (by first | exact .inl rfl | exact .inr (.inl rfl) | exact .inr (.inr rfl)))) (da_cons (DN.de (dn_lst (da_cons (de_ix (dr_var 6 rfl (by first | exact .inl rfl | exact .inr (.inl rfl) | exact .inr (.inr rfl))) (dr_var 5 rfl (by first | exact .inl rfl | exact .inr (.inl rfl) | exact .inr (.inr rfl)))) da_nil))) (da_cons (de_tup (da_cons (de_ix (dr_var 6 rfl (by first | exact .inl rfl | exact .inr (.inl rfl) | exact .inr (.inr rfl))) (dr_var 5 rfl (by first | exact .inl rfl | exact .inr (.inl rfl) | exact .inr (.inr rfl)))) da_nil)) da_nil)))))) (dr_var 14 rfl (by first | exact .inl rfl | exact .inr (.inl rfl) | exact .inr (.inr rfl)))))
  (dss_one (ds_app 13 (de_var 5 rfl (by first | exact .inl rfl | exact .inr (.inl rfl) | exact .inr (.inr rfl)))))) dss_nil)))))
  (dss_cons (ds_app 12 (de_call (CalD.fn (ok_zlawzof h) hr (by decide) tk h.k_zlawzof) rfl h.g_zlawzof (da_cons (de_var 2 rfl (by first | exact .inl rfl | exact .inr (.inl rfl) | exact .inr (.inr rfl))) (da_cons (DN.de (dn_lst (da_cons (de_tup da_nil) (da_cons (DN.de (dn_lst da_nil)) da_nil)))) da_nil))))
  (dss_cons (ds_frz 12 (ds_set 10 sc_law.nd (de_call (CalD.fn (ok_zlawzput h) hr (by decide) tk h.k_zlawzput) rfl h.g_zlawzput (da_cons (de_call (CalD.fn (ok_zlawzof h) hr (by decide) tk h.k_zlawzof) rfl h.g_zlawzof (da_cons (de_var 2 rfl (by first | exact .inl rfl | exact .inr (.inl rfl) | exact .inr (.inr rfl))) (da_cons (de_var 3 rfl (by first | exact .inl rfl | exact .inr (.inl rfl) | exact .inr (.inr rfl))) da_nil))) (da_cons (de_var 12 rfl (by first | exact .inl rfl | exact .inr (.inl rfl) | exact .inr (.inr rfl))) da_nil)))))
  (dss_cons (ds_app 7 (de_bin od_add (DE.r de_int) (DE.r (de_cb (cb_sum rfl) rfl h.n_sum boot_sum (dar_cons (DE.r (DN.de (dn_lc (own := [("_law_each", 11)]) rfl sc_law.nd (dir_seq (dr_var 13 rfl (by first | exact .inl rfl | exact .inr (.inl rfl) | exact .inr (.inr rfl)))) (blkOk_by (own := [("_law_each", 11)]) (N := N_law) (sc := defScope s_law) (by decide +kernel)) (fun _ _ _ _ _ => (dg_var 11 sc_law.nd)) (fun _ _ _ _ _ => dts_nil) (fun _ _ _ _ _ => (de_ix (dr_var 7 rfl (by first | exact .inl rfl | exact .inr (.inl rfl) | exact .inr (.inr rfl))) (dr_var 11 rfl (by first | exact .inl rfl | exact .inr (.inl rfl) | exact .inr (.inr rfl)))))))) dar_nil)))))
  (dss_cons (ds_app 8 (de_bin od_add (DE.r de_int) (DE.r (de_cb (cb_max rfl) rfl h.n_max boot_max (dar_cons (DE.r (de_bin od_add (DE.r (DN.de (dn_lc (own := [("_law_each", 11)]) rfl sc_law.nd (dir_seq (dr_var 13 rfl (by first | exact .inl rfl | exact .inr (.inl rfl) | exact .inr (.inr rfl)))) (blkOk_by (own := [("_law_each", 11)]) (N := N_law) (sc := defScope s_law) (by decide +kernel)) (fun _ _ _ _ _ => (dg_var 11 sc_law.nd)) (fun _ _ _ _ _ => dts_nil) (fun _ _ _ _ _ => (de_ix (dr_var 8 rfl (by first | exact .inl rfl | exact .inr (.inl rfl) | exact .inr (.inr rfl))) (dr_var 11 rfl (by first | exact .inl rfl | exact .inr (.inl rfl) | exact .inr (.inr rfl)))))))) (DE.r (DN.de (dn_lst (da_cons de_int da_nil)))))) dar_nil)))))
  (dss_cons (ds_if (DW.t (dw_or (dt_not (dt_val (de_call (CalD.fn (ok_zlawzisznumber h) hr (by decide) tk h.k_zlawzisznumber) rfl h.g_zlawzisznumber (da_cons (de_attr (de_var 10 rfl (by first | exact .inl rfl | exact .inr (.inl rfl) | exact .inr (.inr rfl)))) (da_cons (de_ix (dr_var 7 rfl (by first | exact .inl rfl | exact .inr (.inl rfl) | exact .inr (.inr rfl))) (DE.r (de_neg de_int))) da_nil))))) (dw_or1 (dt_not (dt_val (de_call (CalD.fn (ok_zlawzisznumber h) hr (by decide) tk h.k_zlawzisznumber) rfl h.g_zlawzisznumber (da_cons (de_attr (de_var 10 rfl (by first | exact .inl rfl | exact .inr (.inl rfl) | exact .inr (.inr rfl)))) (da_cons (de_ix (dr_var 8 rfl (by first | exact .inl rfl | exact .inr (.inl rfl) | exact .inr (.inr rfl))) (DE.r (de_neg de_int))) da_nil)))))))) (dss_one (ds_ret de_bl)) dss_nil)
  (dss_cons (ds_par2 15 16 rfl sc_law.nd (dx_own (dn_lst da_nil) (dx_own (dn_lc (own := [("_law_each", 11)]) rfl sc_law.nd (dir_seq (dr_var 13 rfl (by first | exact .inl rfl | exact .inr (.inl rfl) | exact .inr (.inr rfl)))) (blkOk_by (own := [("_law_each", 11)]) (N := N_law) (sc := defScope s_law) (by decide +kernel)) (fun _ _ _ _ _ => (dg_var 11 sc_law.nd)) (fun _ _ _ _ _ => dts_nil) (fun _ _ _ _ _ => (de_tup (da_cons (de_ix (dr_var 7 rfl (by first | exact .inl rfl | exact .inr (.inl rfl) | exact .inr (.inr rfl))) (dr_var 11 rfl (by first | exact .inl rfl | exact .inr (.inl rfl) | exact .inr (.inr rfl)))) (da_cons (de_ix (dr_var 8 rfl (by first | exact .inl rfl | exact .inr (.inl rfl) | exact .inr (.inr rfl))) (dr_var 11 rfl (by first | exact .inl rfl | exact .inr (.inl rfl) | exact .inr (.inr rfl)))) da_nil))))) dx_nil)))
  (dss_frz 16 (dss_cons (ds_for po rfl (di_seq (de_meth0 (de_var 10 rfl (by first | exact .inl rfl | exact .inr (.inl rfl) | exact .inr (.inr rfl))) h.ci_Tree.cl h.me_Treezbelow (CalD.fn (ok_Treezbelow h) hr (by decide) tk h.k_Treezbelow))) (dg_var 11 sc_law.nd) (dss_one (ds_app 15 (de_tup (da_cons (de_attr (de_var 11 rfl (by first | exact .inl rfl | exact .inr (.inl rfl) | exact .inr (.inr rfl)))) (da_cons (de_attr (de_var 11 rfl (by first | exact .inl rfl | exact .inr (.inl rfl) | exact .inr (.inr rfl)))) da_nil))))))
  (dss_cons (ds_if (DW.t (dw_or (dt_cmp (od_ne hr.units) (dr_var 15 rfl (by first | exact .inl rfl | exact .inr (.inl rfl) | exact .inr (.inr rfl))) (dr_var 16 rfl (by first | exact .inl rfl | exact .inr (.inl rfl) | exact .inr (.inr rfl)))) (dw_or1 (dt_cmp (od_ne hr.units) (DE.r (de_cb cb_len rfl h.n_len boot_len (dar_cons (DE.r (de_attr (de_var 10 rfl (by first | exact .inl rfl | exact .inr (.inl rfl) | exact .inr (.inr rfl))))) dar_nil))) (DE.r (de_cb cb_len rfl h.n_len boot_len (dar_cons (dr_var 12 rfl (by first | exact .inl rfl | exact .inr (.inl rfl) | exact .inr (.inr rfl))) dar_nil))))))) (dss_one (ds_ret de_bl)) dss_nil)
  (dss_one (ds_app 6 (de_var 10 rfl (by first | exact .inl rfl | exact .inr (.inl rfl) | exact .inr (.inr rfl)))))))))))))))))
  (dss_one (ds_for po rfl (di_rng1 rfl h.n_range (da_cons (de_cb cb_len rfl h.n_len boot_len (dar_cons (dr_var 6 rfl (by first | exact .inl rfl | exact .inr (.inl rfl) | exact .inr (.inr rfl))) dar_nil)) da_nil)) (dg_var 5 sc_law.nd) (dss_one (ds_if (DW.t (dw_or (dt_cmp (od_ne hr.units) (DE.r (de_attr (de_ix (dr_var 6 rfl (by first | exact .inl rfl | exact .inr (.inl rfl) | exact .inr (.inr rfl))) (dr_var 5 rfl (by first | exact .inl rfl | exact .inr (.inl rfl) | exact .inr (.inr rfl)))))) (DE.r (de_ix (dr_var 7 rfl (by first | exact .inl rfl | exact .inr (.inl rfl) | exact .inr (.inr rfl))) (dr_var 5 rfl (by first | exact .inl rfl | exact .inr (.inl rfl) | exact .inr (.inr rfl)))))) (dw_or1 (dt_cmp (od_ne hr.units) (DE.r (de_attr (de_ix (dr_var 6 rfl (by first | exact .inl rfl | exact .inr (.inl rfl) | exact .inr (.inr rfl))) (dr_var 5 rfl (by first | exact .inl rfl | exact .inr (.inl rfl) | exact .inr (.inr rfl)))))) (DE.r (de_ix (dr_var 8 rfl (by first | exact .inl rfl | exact .inr (.inl rfl) | exact .inr (.inr rfl))) (dr_var 5 rfl (by first | exact .inl rfl | exact .inr (.inl rfl) | exact .inr (.inr rfl))))))))) (dss_one (ds_ret de_bl)) dss_nil)))))))))
  (dss_one (ds_ret de_bl)))
theorem ok_law (h : Fx K mg) : FnD P w K mg base 5 (He.fAd K ("law", none)) F_law := by
  obtain ⟨fd, F⟩ := h.d_law
  exact fnD_of (ps := ["_law_script"]) F sc_law (fun _ _ _ _ _ _ us hl => match us, hl with | [_], _ => rfl) (b_law h)
end
end Lw
namespace Lw
open PySem PySem.Spec PyProof.Rows L2 Qd
def fa : List He.Fa := [.glo "Tree", .glo "_law_bag", .glo "_law_is_number", .glo "_law_names", .glo "_law_of", .glo "_law_put", .glo "_law_take", .glo "is_child", .glo "is_name", .free "abs", .free "all", .free "bool", .free "enumerate", .free "int", .free "isinstance", .free "len", .free "list", .free "max", .free "min", .free "range", .free "str", .free "sum", .free "tuple", .int "MOST_SIGNS" 8, .str "LETTERS" "abcdefghijklmnopqrstuvwxyz", .str "SIGNS" "abcdefghijklmnopqrstuvwxyz0123456789", .noat "Tree" "children", .noat "Tree" "depth", .noat "Tree" "kind", .noat "Tree" "size", .meth "Tree" "below", .mkr "Tree", .glo "law"]
def fn : List He.DefD := [⟨("Tree", some "below"), "below", "Tree.below", defArgs s_Treezbelow, defBody s_Treezbelow, defScope s_Treezbelow, [], []⟩, ⟨("is_child", none), "is_child", "is_child", defArgs s_iszchild, defBody s_iszchild, defScope s_iszchild, [], []⟩, ⟨("is_name", none), "is_name", "is_name", defArgs s_iszname, defBody s_iszname, defScope s_iszname, [], []⟩, ⟨("Tree", some "__init__"), "__init__", "Tree.__init__", defArgs s_Treezzzinitzz, defBody s_Treezzzinitzz, defScope s_Treezzzinitzz, [], []⟩, ⟨("_law_bag", none), "_law_bag", "_law_bag", defArgs s_zlawzbag, defBody s_zlawzbag, defScope s_zlawzbag, [], []⟩, ⟨("_law_is_number", none), "_law_is_number", "_law_is_number", defArgs s_zlawzisznumber, defBody s_zlawzisznumber, defScope s_zlawzisznumber, [], []⟩, ⟨("_law_take", none), "_law_take", "_law_take", defArgs s_zlawztake, defBody s_zlawztake, defScope s_zlawztake, [], []⟩, ⟨("_law_of", none), "_law_of", "_law_of", defArgs s_zlawzof, defBody s_zlawzof, defScope s_zlawzof, [], []⟩, ⟨("_law_names", none), "_law_names", "_law_names", defArgs s_zlawznames, defBody s_zlawznames, defScope s_zlawznames, [], []⟩, ⟨("_law_put", none), "_law_put", "_law_put", defArgs s_zlawzput, defBody s_zlawzput, defScope s_zlawzput, [], []⟩, ⟨("law", none), "law", "law", defArgs s_law, defBody s_law, defScope s_law, [], []⟩]
def fq : List Fq := [.ci "Tree", .tabT "list" tb0, .tabT "tuple" tb1, .tabM ["list", "tuple"] tb2, .tabK "Tree" tb3, .tabT "str" tb4, .tabT "int" tb5, .tabT "bool" tb6]
abbrev R : PySem.W.OpenRow := PySem.W.OpenLaw.row PySem.Challenge.rw_pathmarks_k06_trees_with_shared_parts
abbrev hk : PySem.W.Hook := hookQ 5 fa fn fq
def ob (s : PySem.W.SharedT) : AlQ := obsQG 5 fa fn fq (HandSHeadRun.getT s)
theorem ob_eq (s : PySem.W.SharedT) : ob s = hk.obs s.abs := obsQG_eq (HandSHeadRun.getT_eq s)
def names : List PySem.Str := ["_wall", "BadName", "BadText", "BadChild", "NoNode", "LETTERS", "SIGNS", "MOST_SIGNS", "is_name", "is_number", "MOST_OPEN", "is_child", "text_of", "open_at_once", "tree_at", "row_at", "Tree", "_law_bag", "_law_take", "_law_of", "_law_names", "_law_put", "_law_is_number"]
theorem run (w : World) : HandSHeadRun.RunEq R (PySem.W.view R.prog [27]) hk ob 20000 names w := by
  intro os
  kernel_rfl
theorem facts {K : PySem.W.Frag} {h : Heap} {mg : Str → Option Value} (X : K.In h) (G : h.Ns mainGlobals mg) (c : SaysQ fa fn fq K) : Fx K mg where
  g_Tree := He.glo_ok X G (c.d.fact 0 (f := .glo "Tree"))
  g_zlawzbag := He.glo_ok X G (c.d.fact 1 (f := .glo "_law_bag"))
  g_zlawzisznumber := He.glo_ok X G (c.d.fact 2 (f := .glo "_law_is_number"))
  g_zlawznames := He.glo_ok X G (c.d.fact 3 (f := .glo "_law_names"))
  g_zlawzof := He.glo_ok X G (c.d.fact 4 (f := .glo "_law_of"))
  g_zlawzput := He.glo_ok X G (c.d.fact 5 (f := .glo "_law_put"))
  g_zlawztake := He.glo_ok X G (c.d.fact 6 (f := .glo "_law_take"))
  g_iszchild := He.glo_ok X G (c.d.fact 7 (f := .glo "is_child"))
  g_iszname := He.glo_ok X G (c.d.fact 8 (f := .glo "is_name"))
  n_abs := He.free_ok X G (c.d.fact 9 (f := .free "abs"))
  n_all := He.free_ok X G (c.d.fact 10 (f := .free "all"))
  n_bool := He.free_ok X G (c.d.fact 11 (f := .free "bool"))
  n_enumerate := He.free_ok X G (c.d.fact 12 (f := .free "enumerate"))
  n_int := He.free_ok X G (c.d.fact 13 (f := .free "int"))
  n_isinstance := He.free_ok X G (c.d.fact 14 (f := .free "isinstance"))
  n_len := He.free_ok X G (c.d.fact 15 (f := .free "len"))
  n_list := He.free_ok X G (c.d.fact 16 (f := .free "list"))
  n_max := He.free_ok X G (c.d.fact 17 (f := .free "max"))
  n_min := He.free_ok X G (c.d.fact 18 (f := .free "min"))
  n_range := He.free_ok X G (c.d.fact 19 (f := .free "range"))
  n_str := He.free_ok X G (c.d.fact 20 (f := .free "str"))
  n_sum := He.free_ok X G (c.d.fact 21 (f := .free "sum"))
  n_tuple := He.free_ok X G (c.d.fact 22 (f := .free "tuple"))
  i_MOSTzSIGNS := He.int_ok X G (c.d.fact 23 (f := .int "MOST_SIGNS" 8))
  s_LETTERS := He.str_ok X G (c.d.fact 24 (f := .str "LETTERS" "abcdefghijklmnopqrstuvwxyz"))
  s_SIGNS := He.str_ok X G (c.d.fact 25 (f := .str "SIGNS" "abcdefghijklmnopqrstuvwxyz0123456789"))
  ci_Tree := Fq.ci_ok (c.q 0 (f := .ci "Tree"))
  na_Tree_children := He.noat_ok (c.d.fact 26 (f := .noat "Tree" "children"))
  na_Tree_depth := He.noat_ok (c.d.fact 27 (f := .noat "Tree" "depth"))
  na_Tree_kind := He.noat_ok (c.d.fact 28 (f := .noat "Tree" "kind"))
  na_Tree_size := He.noat_ok (c.d.fact 29 (f := .noat "Tree" "size"))
  me_Treezbelow := He.meth_ok (c.d.fact 30 (f := .meth "Tree" "below"))
  mk_Tree := He.mkr_ok (c.d.fact 31 (f := .mkr "Tree"))
  t0 := tabB_ok (c.q 1 (f := .tabT "list" tb0))
  t1 := tabB_ok (c.q 2 (f := .tabT "tuple" tb1))
  t2 := tabsB_ok (c.q 3 (f := .tabM ["list", "tuple"] tb2))
  t3 := tabB_ok (c.q 4 (f := .tabK "Tree" tb3))
  t4 := tabB_ok (c.q 5 (f := .tabT "str" tb4))
  t5 := tabB_ok (c.q 6 (f := .tabT "int" tb5))
  t6 := tabB_ok (c.q 7 (f := .tabT "bool" tb6))
  d_Treezbelow := c.d.def_ 0
  k_Treezbelow := by
    obtain ⟨fd, F⟩ := c.d.def_ 0
    exact F.kp
  d_iszchild := c.d.def_ 1
  k_iszchild := by
    obtain ⟨fd, F⟩ := c.d.def_ 1
    exact F.kp
  d_iszname := c.d.def_ 2
  k_iszname := by
    obtain ⟨fd, F⟩ := c.d.def_ 2
    exact F.kp
  d_Treezzzinitzz := c.d.def_ 3
  k_Treezzzinitzz := by
    obtain ⟨fd, F⟩ := c.d.def_ 3
    exact F.kp
  d_zlawzbag := c.d.def_ 4
  k_zlawzbag := by
    obtain ⟨fd, F⟩ := c.d.def_ 4
    exact F.kp
  d_zlawzisznumber := c.d.def_ 5
  k_zlawzisznumber := by
    obtain ⟨fd, F⟩ := c.d.def_ 5
    exact F.kp
  d_zlawztake := c.d.def_ 6
  k_zlawztake := by
    obtain ⟨fd, F⟩ := c.d.def_ 6
    exact F.kp
  d_zlawzof := c.d.def_ 7
  k_zlawzof := by
    obtain ⟨fd, F⟩ := c.d.def_ 7
    exact F.kp
  d_zlawznames := c.d.def_ 8
  k_zlawznames := by
    obtain ⟨fd, F⟩ := c.d.def_ 8
    exact F.kp
  d_zlawzput := c.d.def_ 9
  k_zlawzput := by
    obtain ⟨fd, F⟩ := c.d.def_ 9
    exact F.kp
  d_law := c.d.def_ 10
  k_law := by
    obtain ⟨fd, F⟩ := c.d.def_ 10
    exact F.kp
theorem lawFacts {P : Program} {w : World} {K : PySem.W.Frag} {h : Heap} {mg : Str → Option Value} {f : Addr} (hp : ∀ ns : List Int, ns.length ≤ 63 → ∃ s', F_law [.scr ns] s0 = .ok (.bl true) s') (X : K.In h) (G : h.Ns mainGlobals mg) (hfa : mg ("law" : Str) = some (.ref f)) (c : SaysQ fa fn fq K) :
    ∃ fd : FuncData, (∀ (s : Shared) (v : Value), BindsTo s fd ⟨[v], []⟩ [("_law_script", v)]) ∧ ∀ base : Heap, K.In base → base.Ns mainGlobals mg → FnOk P w K mg base (L2.CX P w) 5 f fd ["_law_script"] (spLaw K) := by
  obtain ⟨fd, F⟩ := c.d.def_ 10
  have e := hfa.symm.trans (He.glo_ok X G (c.d.fact 32 (f := .glo "law")))
  cases e
  have b := FunD.bindsA (ps := ["_law_script"]) F fun _ _ _ _ _ _ us hl => match us, hl with | [_], _ => rfl
  exact ⟨fd, fun s v => b s [v] rfl, fun base _ _ => law_ok F sc_law (b_law (facts X G c)) hp⟩
end Lw
section
open PySem PySem.W PySem.Calls PyProof.Rows
theorem kept (hp : ∀ ns : List Int, ns.length ≤ 63 → ∃ s', Lw.F_law [.scr ns] Qd.s0 = .ok (.bl true) s') : PySem.Challenge.rw_pathmarks_k06_trees_with_shared_parts.Holds := by
  w_on; o_law
  refine HandSHeadRun.head_any (r := OpenLaw.row PySem.Challenge.rw_pathmarks_k06_trees_with_shared_parts) (q := view (OpenLaw.row PySem.Challenge.rw_pathmarks_k06_trees_with_shared_parts).prog [27]) (H := Lw.hk) (ob := Lw.ob) (M := 20000) (loose := Lw.names) (d := HandSHeadRun.topDef (OpenLaw.row PySem.Challenge.rw_pathmarks_k06_trees_with_shared_parts).prog 27) (kwd := []) Lw.ob_eq
    (by kernel_rfl) (fun s => by kernel_rfl) Lw.run (by kernel_rfl) (by kernel_rfl) (by kernel_rfl) (by rfl) (by first | assumption | decide +kernel) (by decide +kernel) ⟨rfl, rfl, rfl, rfl, rfl, by decide +kernel⟩ ?hw ?hc
  case hw => w_witness2
  case hc =>
    refine Qd.lawEnd (lw := PySem.Challenge.rw_pathmarks_k06_trees_with_shared_parts) (most := 63) (k := 5) (x := "_law_script") rfl (by decide) (by kernel_rfl) ⟨rfl, by decide, by decide⟩ ?F
    intro w mg fa h Y G hmg0
    obtain ⟨K, KX, c⟩ := Y
    have hmg : mg ("law" : PySem.Str) = some (.ref fa) := by
      have e : (HandSHeadRun.topDef (OpenLaw.row PySem.Challenge.rw_pathmarks_k06_trees_with_shared_parts).prog 27).name = ("law" : PySem.Str) := by kernel_rfl
      rw [← e]
      exact hmg0
    obtain ⟨fd, hb, hF⟩ := Lw.lawFacts (P := (PySem.Challenge.rw_pathmarks_k06_trees_with_shared_parts).prog) (w := w) hp KX G hmg c
    exact ⟨K, fd, Qd.spLaw K, KX, hb, fun H a ns hl _ hS => ⟨a, ns, rfl, hS, hl, fun _ => rfl⟩, hF⟩
end
namespace Pl
open PySem L2 Qd Lw
def Bg (s : S) (n : Nat) : Prop := ∃ a b : Int, s.m n = some (.lst [.int a, .int b])
theorem bg_set (s : S) (n : Nat) (a b : Int) : Bg (setLoc s n (.lst [.int a, .int b])) n := ⟨a, b, by simp [setLoc]⟩
theorem setLoc_at (s : S) (n : Nat) (d : D) : (setLoc s n d).m n = some d := by simp [setLoc]
theorem setLoc2 (s : S) (n : Nat) (d e : D) : setLoc (setLoc s n d) n e = setLoc s n e := by
  simp only [setLoc]
  congr 1
  funext j
  split <;> rfl
theorem at0 {α : Type} (x : α) (xs : List α) : atI (x :: xs) 0 = some x := by
  simp [atI, ixN]
theorem at1 {α : Type} (x y : α) (xs : List α) : atI (x :: y :: xs) 1 = some y := by
  have h : (1 : Int) < (xs.length : Int) + 1 + 1 := by omega
  simp [atI, ixN, h]
theorem take_ok {s : S} {n : Nat} {k : Int} (h : Bg s n) (h0 : 0 < k) (h1 : k < 1073741824) : ∃ d s', F_zlawztake [.loc n, .int k] s = .ok (.int d) s' ∧ 0 ≤ d ∧ d < k ∧ Bg s' n := by
  obtain ⟨a, b, e⟩ := h
  by_cases ha : 0 < a
  · refine ⟨a % k, _, ?_, Int.emod_nonneg _ (by omega), Int.emod_lt_of_pos _ h0, bg_set s n (a / k) b⟩
    simp [F_zlawztake, m_zlawztake, runF, ends, sSeq, sIf, eS, sSet, sSetO, sStore, stD, sRet, sRetN, sDrop, sPar, putS, sFrz, frzG, sApp, sMut, appG, extG, Qd.sFld, sAug, sNext, xTest, yNot, yAnd, yOr, yYes, xNot, xAnd, xOr, xIf, xBin, xVarR, xVar, xC, xCall, xCons, xNil, xSz, xLst, xTup, xLoc, xsNil, xsV, xsO, lift, Out.bind, xSeq, seqD, xEnum, enumD, xFn, mkF, xAttr, atD, xMeth, xChain, xNeg, xSl, xNo, xPart, slD, xLc, wipeG, ixD, lenD, intC, absC, max2C, min2C, sumC, allC, anyC, tupC, gtD, ltD, leD, geD, cmpD, modD, fdvD, mulD, subD, powD, intD, modC, divC, mulC, yesC, powC, addD, inS, pVar, psNil, psCons, pTup, e, at0, ixN, ha, h0, h1]
  · refine ⟨((((b * 51061 + 4271) % 2147483629) / 16 * 37139 % 2147483563) / 64) % k, _, ?_, Int.emod_nonneg _ (by omega), Int.emod_lt_of_pos _ h0, bg_set s n a ((b * 51061 + 4271) % 2147483629)⟩
    simp [F_zlawztake, m_zlawztake, runF, ends, sSeq, sIf, eS, sSet, sSetO, sStore, stD, sRet, sRetN, sDrop, sPar, putS, sFrz, frzG, sApp, sMut, appG, extG, Qd.sFld, sAug, sNext, xTest, yNot, yAnd, yOr, yYes, xNot, xAnd, xOr, xIf, xBin, xVarR, xVar, xC, xCall, xCons, xNil, xSz, xLst, xTup, xLoc, xsNil, xsV, xsO, lift, Out.bind, xSeq, seqD, xEnum, enumD, xFn, mkF, xAttr, atD, xMeth, xChain, xNeg, xSl, xNo, xPart, slD, xLc, wipeG, ixD, lenD, intC, absC, max2C, min2C, sumC, allC, anyC, tupC, gtD, ltD, leD, geD, cmpD, modD, fdvD, mulD, subD, powD, intD, modC, divC, mulC, yesC, powC, addD, inS, pVar, psNil, psCons, pTup, e, at0, at1, ixN, ha, h0, h1, setLoc_at]
theorem of_ok {s : S} {n : Nat} {xs : List D} (h : Bg s n) (h0 : xs ≠ []) (h1 : xs.length < 1000) : ∃ x s', F_zlawzof [.loc n, .lst xs] s = .ok x s' ∧ x ∈ xs ∧ Bg s' n := by
  have hl : 0 < xs.length := List.length_pos_iff.mpr h0
  obtain ⟨d, s', e, d0, d1, b⟩ := take_ok (k := (xs.length : Int)) h (by omega) (by omega)
  obtain ⟨x, ex, hx, _⟩ := atI_pos (xs := xs) d0 d1
  refine ⟨x, s', ?_, hx, b⟩
  simp [F_zlawzof, m_zlawzof, runF, ends, sSeq, sIf, eS, sSet, sSetO, sStore, stD, sRet, sRetN, sDrop, sPar, putS, sFrz, frzG, sApp, sMut, appG, extG, Qd.sFld, sAug, sNext, xTest, yNot, yAnd, yOr, yYes, xNot, xAnd, xOr, xIf, xBin, xVarR, xVar, xC, xCall, xCons, xNil, xSz, xLst, xTup, xLoc, xsNil, xsV, xsO, lift, Out.bind, xSeq, seqD, xEnum, enumD, xFn, mkF, xAttr, atD, xMeth, xChain, xNeg, xSl, xNo, xPart, slD, xLc, wipeG, ixD, lenD, intC, absC, max2C, min2C, sumC, allC, anyC, tupC, gtD, ltD, leD, geD, cmpD, modD, fdvD, mulD, subD, powD, intD, modC, divC, mulC, yesC, powC, addD, inS, pVar, psNil, psCons, pTup, e, ex]
theorem bag_step {A B C : Sl} {s : S} {m k x : Int} : L_zlawzbag_1 [A, B, C, .val (.int m), .val (.int k), .val (.int x)] s = .nx [A, B, C, .val (.int ((m * 44497 + x % 2147483543 + 61 * k + 19) % 2147483587)), .val (.int k), .val (.int x)] s := by
  simp [L_zlawzbag_1, runF, ends, sSeq, sIf, eS, sSet, sSetO, sStore, stD, sRet, sRetN, sDrop, sPar, putS, sFrz, frzG, sApp, sMut, appG, extG, Qd.sFld, sAug, sNext, xTest, yNot, yAnd, yOr, yYes, xNot, xAnd, xOr, xIf, xBin, xVarR, xVar, xC, xCall, xCons, xNil, xSz, xLst, xTup, xLoc, xsNil, xsV, xsO, lift, Out.bind, xSeq, seqD, xEnum, enumD, xFn, mkF, xAttr, atD, xMeth, xChain, xNeg, xSl, xNo, xPart, slD, xLc, wipeG, ixD, lenD, intC, absC, max2C, min2C, sumC, allC, anyC, tupC, gtD, ltD, leD, geD, cmpD, modD, fdvD, mulD, subD, powD, intD, modC, divC, mulC, yesC, powC, addD, inS, pVar, psNil, psCons, pTup]
theorem bag_loop {A B C : Sl} {s : S} : ∀ (xs : List Int) (k : Nat) (m0 : Int) (u v : Sl), ∃ m x y, forL (pTup 2 (psCons (pVar 4) (psCons (pVar 5) psNil))) L_zlawzbag_1 (enumL k (xs.map .int)) [A, B, C, .val (.int m0), u, v] s = .nx [A, B, C, .val (.int m), x, y] s
  | [], k, m0, u, v => ⟨m0, u, v, rfl⟩
  | x :: xs, k, m0, u, v => by
    obtain ⟨m, p, q, e⟩ := bag_loop xs (k + 1) ((m0 * 44497 + x % 2147483543 + 61 * (k : Int) + 19) % 2147483587) (.val (.int k)) (.val (.int x))
    exact ⟨m, p, q, (forL_nx rfl bag_step).trans e⟩
theorem bag_ok {s : S} {ns : List Int} {at_ : Int} (h0 : 0 ≤ at_) : ∃ s', F_zlawzbag [.scr ns, .int at_] s = .ok (.loc s.nx) s' ∧ Bg s' s.nx := by
  have hb : ∀ a b : Int, Bg (addLoc s (.lst [.int a, .int b])) s.nx := fun a b => ⟨a, b, by simp [addLoc]⟩
  have num : ∃ num : Int, (if at_ < ns.length then (atI ns at_).map D.int else some (.int 0)) = some (.int num) := by
    by_cases hl : at_ < ns.length
    · obtain ⟨x, ex, _⟩ := atI_pos (xs := ns) h0 hl
      exact ⟨x, by simp [hl, ex]⟩
    · exact ⟨0, by simp [hl]⟩
  obtain ⟨num, en⟩ := num
  obtain ⟨m, x, y, ek⟩ := bag_loop (A := .val (.scr ns)) (B := .val (.int at_)) (C := .val (.int num)) (s := s) (cutG ns none (some 63)) 0 (1291 * at_ + 73) .un .un
  have e1 : sSet 2 (xIf (xTest (xBin (fun a b s => lift (ltD a b) s) (xVarR 1) (xCall lenD (xCons (xVarR 0) xNil)))) (xBin (fun x y s => lift (ixD x y s) s) (xVarR 0) (xVarR 1)) (xC (.int 0))) [.val (.scr ns), .val (.int at_), .un, .un, .un, .un] s = .nx [.val (.scr ns), .val (.int at_), .val (.int num), .un, .un, .un] s := by
    by_cases hl : at_ < ns.length
    · rw [if_pos hl] at en
      simp [runF, ends, sSeq, sIf, eS, sSet, sSetO, sStore, stD, sRet, sRetN, sDrop, sPar, putS, sFrz, frzG, sApp, sMut, appG, extG, Qd.sFld, sAug, sNext, xTest, yNot, yAnd, yOr, yYes, xNot, xAnd, xOr, xIf, xBin, xVarR, xVar, xC, xCall, xCons, xNil, xSz, xLst, xTup, xLoc, xsNil, xsV, xsO, lift, Out.bind, xSeq, seqD, xEnum, enumD, xFn, mkF, xAttr, atD, xMeth, xChain, xNeg, xSl, xNo, xPart, slD, xLc, wipeG, ixD, lenD, intC, absC, max2C, min2C, sumC, allC, anyC, tupC, gtD, ltD, leD, geD, cmpD, modD, fdvD, mulD, subD, powD, intD, modC, divC, mulC, yesC, powC, addD, inS, pVar, psNil, psCons, pTup, hl, en]
    · rw [if_neg hl] at en
      cases en
      simp [runF, ends, sSeq, sIf, eS, sSet, sSetO, sStore, stD, sRet, sRetN, sDrop, sPar, putS, sFrz, frzG, sApp, sMut, appG, extG, Qd.sFld, sAug, sNext, xTest, yNot, yAnd, yOr, yYes, xNot, xAnd, xOr, xIf, xBin, xVarR, xVar, xC, xCall, xCons, xNil, xSz, xLst, xTup, xLoc, xsNil, xsV, xsO, lift, Out.bind, xSeq, seqD, xEnum, enumD, xFn, mkF, xAttr, atD, xMeth, xChain, xNeg, xSl, xNo, xPart, slD, xLc, wipeG, ixD, lenD, intC, absC, max2C, min2C, sumC, allC, anyC, tupC, gtD, ltD, leD, geD, cmpD, modD, fdvD, mulD, subD, powD, intD, modC, divC, mulC, yesC, powC, addD, inS, pVar, psNil, psCons, pTup, hl]
  have e2 : sFor (xEnum (xSl (xVarR 0) xNo (xPart (xC (.int 63))))) (pTup 2 (psCons (pVar 4) (psCons (pVar 5) psNil))) L_zlawzbag_1 [.val (.scr ns), .val (.int at_), .val (.int num), .val (.int (1291 * at_ + 73)), .un, .un] s = .nx [.val (.scr ns), .val (.int at_), .val (.int num), .val (.int m), x, y] s := (sFor_ok (by simp [runF, ends, sSeq, sIf, eS, sSet, sSetO, sStore, stD, sRet, sRetN, sDrop, sPar, putS, sFrz, frzG, sApp, sMut, appG, extG, Qd.sFld, sAug, sNext, xTest, yNot, yAnd, yOr, yYes, xNot, xAnd, xOr, xIf, xBin, xVarR, xVar, xC, xCall, xCons, xNil, xSz, xLst, xTup, xLoc, xsNil, xsV, xsO, lift, Out.bind, xSeq, seqD, xEnum, enumD, xFn, mkF, xAttr, atD, xMeth, xChain, xNeg, xSl, xNo, xPart, slD, xLc, wipeG, ixD, lenD, intC, absC, max2C, min2C, sumC, allC, anyC, tupC, gtD, ltD, leD, geD, cmpD, modD, fdvD, mulD, subD, powD, intD, modC, divC, mulC, yesC, powC, addD, inS, pVar, psNil, psCons, pTup])).trans ek
  have e3 : ∀ z : Int, z = (if 10 ^ 18 ≤ (if num < 0 then -num else num) then (if num < 0 then -num else num) else 0) → m_zlawzbag [.val (.scr ns), .val (.int at_), .un, .un, .un, .un] s = .rt (.loc s.nx) (addLoc s (.lst [.int z, .int m])) := by
    intro z hz
    unfold m_zlawzbag
    rw [sSeq_nx e1, sSeq_nx (G' := [.val (.scr ns), .val (.int at_), .val (.int num), .val (.int (1291 * at_ + 73)), .un, .un]) (s' := s) (by simp [runF, ends, sSeq, sIf, eS, sSet, sSetO, sStore, stD, sRet, sRetN, sDrop, sPar, putS, sFrz, frzG, sApp, sMut, appG, extG, Qd.sFld, sAug, sNext, xTest, yNot, yAnd, yOr, yYes, xNot, xAnd, xOr, xIf, xBin, xVarR, xVar, xC, xCall, xCons, xNil, xSz, xLst, xTup, xLoc, xsNil, xsV, xsO, lift, Out.bind, xSeq, seqD, xEnum, enumD, xFn, mkF, xAttr, atD, xMeth, xChain, xNeg, xSl, xNo, xPart, slD, xLc, wipeG, ixD, lenD, intC, absC, max2C, min2C, sumC, allC, anyC, tupC, gtD, ltD, leD, geD, cmpD, modD, fdvD, mulD, subD, powD, intD, modC, divC, mulC, yesC, powC, addD, inS, pVar, psNil, psCons, pTup]), sSeq_nx e2]
    by_cases hn : 10 ^ 18 ≤ (if num < 0 then -num else num)
    · rw [if_pos hn] at hz
      subst hz
      simp [runF, ends, sSeq, sIf, eS, sSet, sSetO, sStore, stD, sRet, sRetN, sDrop, sPar, putS, sFrz, frzG, sApp, sMut, appG, extG, Qd.sFld, sAug, sNext, xTest, yNot, yAnd, yOr, yYes, xNot, xAnd, xOr, xIf, xBin, xVarR, xVar, xC, xCall, xCons, xNil, xSz, xLst, xTup, xLoc, xsNil, xsV, xsO, lift, Out.bind, xSeq, seqD, xEnum, enumD, xFn, mkF, xAttr, atD, xMeth, xChain, xNeg, xSl, xNo, xPart, slD, xLc, wipeG, ixD, lenD, intC, absC, max2C, min2C, sumC, allC, anyC, tupC, gtD, ltD, leD, geD, cmpD, modD, fdvD, mulD, subD, powD, intD, modC, divC, mulC, yesC, powC, addD, inS, pVar, psNil, psCons, pTup, sz] at hn ⊢
      simp [hn]
    · rw [if_neg hn] at hz
      subst hz
      simp [runF, ends, sSeq, sIf, eS, sSet, sSetO, sStore, stD, sRet, sRetN, sDrop, sPar, putS, sFrz, frzG, sApp, sMut, appG, extG, Qd.sFld, sAug, sNext, xTest, yNot, yAnd, yOr, yYes, xNot, xAnd, xOr, xIf, xBin, xVarR, xVar, xC, xCall, xCons, xNil, xSz, xLst, xTup, xLoc, xsNil, xsV, xsO, lift, Out.bind, xSeq, seqD, xEnum, enumD, xFn, mkF, xAttr, atD, xMeth, xChain, xNeg, xSl, xNo, xPart, slD, xLc, wipeG, ixD, lenD, intC, absC, max2C, min2C, sumC, allC, anyC, tupC, gtD, ltD, leD, geD, cmpD, modD, fdvD, mulD, subD, powD, intD, modC, divC, mulC, yesC, powC, addD, inS, pVar, psNil, psCons, pTup, sz] at hn ⊢
      simp [Int.not_le.mpr hn]
  exact ⟨_, runF_rt rfl (e3 _ rfl), hb _ _⟩
/-! ### names -/
abbrev LET : Str := "abcdefghijklmnopqrstuvwxyz"
abbrev SGN : Str := "abcdefghijklmnopqrstuvwxyz0123456789"
theorem let_list : LET.cps.toList = (List.range 26).map (· + 97) := by decide +kernel
theorem sgn_list : SGN.cps.toList = (List.range 26).map (· + 97) ++ (List.range 10).map (· + 48) := by decide +kernel
theorem let_sgn {c : Nat} (h : c ∈ LET.cps.toList) : c ∈ SGN.cps.toList := by
  rw [let_list] at h
  rw [sgn_list]
  exact List.mem_append_left _ h
structure Nm (t : Str) : Prop where
  lo : 1 ≤ t.cps.size
  hi : t.cps.size ≤ 8
  fst : ∀ c, t.cps.toList[0]? = some c → c ∈ LET.cps.toList
  all : ∀ c ∈ t.cps.toList, c ∈ SGN.cps.toList
theorem bls_rep : ∀ n : Nat, bls? (List.replicate n (.bl true)) = some (List.replicate n true)
  | 0 => rfl
  | n + 1 => by simp [List.replicate_succ, bls?, bls_rep n]
theorem map_rep {α β : Type} (x : β) (l : List α) : l.map (fun _ => x) = List.replicate l.length x := List.map_const' ..
theorem name_ok {t : Str} {s : S} (h : Nm t) : F_iszname [.str t] s = .ok (.bl true) s := by
  have hl : t.length = t.cps.size := rfl
  have lo := h.lo
  have hi := h.hi
  obtain ⟨c, ec⟩ : ∃ c, t.cps.toList[0]? = some c := by
    cases q : t.cps.toList with
    | nil =>
      have z : t.cps.toList.length = 0 := by rw [q]; rfl
      rw [Array.length_toList] at z
      omega
    | cons c r => exact ⟨c, rfl⟩
  have e0 : atI t.cps.toList 0 = some c := by
    have z : (0 : Int) < t.cps.toList.length := by rw [Array.length_toList]; omega
    obtain ⟨x, ex, _, e2⟩ := atI_pos (xs := t.cps.toList) (k := 0) (by omega) z
    rw [ex]
    have z2 : t.cps.toList[0]? = some x := e2
    rw [ec] at z2
    exact z2.symm
  have hc := h.fst c ec
  have el : lcL (pVar 1) yYes e_iszname_1 [.val (.str t), .un] (t.cps.toList.map fun c => .str ⟨#[c]⟩) s = .ok (List.replicate t.cps.size (.bl true)) s := by
    have er : List.replicate t.cps.size (D.bl true) = (t.cps.toList.map fun c => D.str ⟨#[c]⟩).map fun _ => .bl true := by rw [map_rep, List.length_map, Array.length_toList]
    rw [er]
    refine lcL_map (fun _ => .bl true) _ fun d hd => ?_
    obtain ⟨c, hc, rfl⟩ := List.mem_map.mp hd
    have z := h.all c hc
    exact ⟨_, rfl, rfl, by simp [e_iszname_1, runF, ends, sSeq, sIf, eS, sSet, sSetO, sStore, stD, sRet, sRetN, sDrop, sPar, putS, sFrz, frzG, sApp, sMut, appG, extG, Qd.sFld, sAug, sNext, xTest, yNot, yAnd, yOr, yYes, xNot, xAnd, xOr, xIf, xBin, xVarR, xVar, xC, xCall, xCons, xNil, xSz, xLst, xTup, xLoc, xsNil, xsV, xsO, lift, Out.bind, xSeq, seqD, xEnum, enumD, xFn, mkF, xAttr, atD, xMeth, xChain, xNeg, xSl, xNo, xPart, slD, xLc, wipeG, ixD, lenD, intC, absC, max2C, min2C, sumC, allC, anyC, tupC, gtD, ltD, leD, geD, cmpD, modD, fdvD, mulD, subD, powD, intD, modC, divC, mulC, yesC, powC, addD, inS, pVar, psNil, psCons, pTup, z]⟩
  refine runF_rt rfl ?_
  unfold m_iszname
  rw [sSeq_nx (G' := [.val (.str t), .un]) (s' := s)]
  · refine sRet_ok ?_
    simp [runF, ends, sSeq, sIf, eS, sSet, sSetO, sStore, stD, sRet, sRetN, sDrop, sPar, putS, sFrz, frzG, sApp, sMut, appG, extG, Qd.sFld, sAug, sNext, xTest, yNot, yAnd, yOr, yYes, xNot, xAnd, xOr, xIf, xBin, xVarR, xVar, xC, xCall, xCons, xNil, xSz, xLst, xTup, xLoc, xsNil, xsV, xsO, lift, Out.bind, xSeq, seqD, xEnum, enumD, xFn, mkF, xAttr, atD, xMeth, xChain, xNeg, xSl, xNo, xPart, slD, xLc, wipeG, ixD, lenD, intC, absC, max2C, min2C, sumC, allC, anyC, tupC, gtD, ltD, leD, geD, cmpD, modD, fdvD, mulD, subD, powD, intD, modC, divC, mulC, yesC, powC, addD, inS, pVar, psNil, psCons, pTup, e0, hc, hl, el, bls_rep, sz, show t.cps.size ≤ 1000000 by omega]
  · refine (sIf_f (s' := s) ?_).trans rfl
    simp [runF, ends, sSeq, sIf, eS, sSet, sSetO, sStore, stD, sRet, sRetN, sDrop, sPar, putS, sFrz, frzG, sApp, sMut, appG, extG, Qd.sFld, sAug, sNext, xTest, yNot, yAnd, yOr, yYes, xNot, xAnd, xOr, xIf, xBin, xVarR, xVar, xC, xCall, xCons, xNil, xSz, xLst, xTup, xLoc, xsNil, xsV, xsO, lift, Out.bind, xSeq, seqD, xEnum, enumD, xFn, mkF, xAttr, atD, xMeth, xChain, xNeg, xSl, xNo, xPart, slD, xLc, wipeG, ixD, lenD, intC, absC, max2C, min2C, sumC, allC, anyC, tupC, gtD, ltD, leD, geD, cmpD, modD, fdvD, mulD, subD, powD, intD, modC, divC, mulC, yesC, powC, addD, inS, pVar, psNil, psCons, pTup, isiT, isiC, tagD, tb4_str, hl, sz, show t.cps.size ≤ 1000000 by omega, show (1 : Int) ≤ t.cps.size by omega, show (t.cps.size : Int) ≤ 8 by omega]
/-- one sign -/
def P1 (A : Str) (d : D) : Prop := ∃ c, d = .str ⟨#[c]⟩ ∧ c ∈ A.cps.toList
theorem signs_of {A : Str} : ∀ {ys : List D}, (∀ y ∈ ys, P1 A y) → ∃ cs : List Nat, ys = cs.map (fun c => D.str ⟨#[c]⟩) ∧ ∀ c ∈ cs, c ∈ A.cps.toList
  | [], _ => ⟨[], rfl, fun c hc => (List.not_mem_nil hc).elim⟩
  | y :: ys, h => by
    obtain ⟨c, rfl, hc⟩ := h y List.mem_cons_self
    obtain ⟨cs, rfl, hcs⟩ := signs_of (ys := ys) fun z hz => h z (List.mem_cons_of_mem _ hz)
    refine ⟨c :: cs, rfl, fun z hz => ?_⟩
    rcases List.mem_cons.mp hz with rfl | hz
    · exact hc
    · exact hcs z hz
theorem strs_signs : ∀ cs : List Nat, strs? (cs.map fun c => D.str ⟨#[c]⟩) = some (cs.map fun c => (⟨#[c]⟩ : Str))
  | [] => rfl
  | c :: cs => by simp [strs?, strs_signs cs]
theorem join_signs : ∀ cs : List Nat, TL.joinL [] (cs.map fun c => [c]) = cs
  | [] => rfl
  | [c] => rfl
  | c :: d :: cs => by
    have := join_signs (d :: cs)
    simp only [List.map_cons, TL.joinL, List.nil_append, List.singleton_append] at this ⊢
    rw [this]
theorem ix_sign {A : Str} {k : Int} {s : S} (h0 : 0 ≤ k) (h1 : k < A.cps.size) (h2 : A.cps.size ≤ 1000000) : ∃ c, ixD (.str A) (.int k) s = some (.str ⟨#[c]⟩) ∧ c ∈ A.cps.toList := by
  have h1' : k < A.cps.toList.length := by rw [Array.length_toList]; exact h1
  obtain ⟨c, ec, hc, _⟩ := atI_pos (xs := A.cps.toList) h0 h1'
  have hl : A.length = A.cps.size := rfl
  exact ⟨c, by simp [ixD, hl, sz, h2, ec], hc⟩

theorem take_spec {s : S} {n : Nat} {k : Int} {K : Kn D} (h : Bg s n) (h0 : 0 < k) (h1 : k < 1073741824) (hq : ∀ d s', 0 ≤ d → d < k → Bg s' n → K.q (.int d) s') : Tk (F_zlawztake [.loc n, .int k] s) := by
  obtain ⟨d, s', e, d0, d1, b⟩ := take_ok h h0 h1
  rw [e, tk_ok]
  exact hq d s' d0 d1 b
theorem of_spec {s : S} {n : Nat} {xs : List D} {K : Kn D} (h : Bg s n) (h0 : xs ≠ []) (h1 : xs.length < 1000) (hq : ∀ x s', x ∈ xs → Bg s' n → K.q x s') : Tk (F_zlawzof [.loc n, .lst xs] s) := by
  obtain ⟨x, s', e, m, b⟩ := of_ok h h0 h1
  rw [e, tk_ok]
  exact hq x s' m b
theorem atI_mem {α : Type} {xs : List α} {k : Int} {x : α} (h : atI xs k = some x) : x ∈ xs := by
  unfold atI at h
  cases e : ixN xs.length k with
  | none => rw [e] at h; cases h
  | some i => rw [e] at h; exact List.mem_of_getElem? h
theorem tk_sign {A : Str} {k : Int} {s : S} {K : Kq D} (h0 : 0 ≤ k) (h1 : k < A.cps.size) (h2 : A.cps.size ≤ 1000000) (hq : ∀ c, c ∈ A.cps.toList → K.q (.str ⟨#[c]⟩)) : tkSm (ixD (.str A) (.int k) s) := by
  obtain ⟨c, e, m⟩ := ix_sign (s := s) h0 h1 h2
  rw [e, tkSm_some]
  exact hq c m
theorem cut_nat {xs : List Nat} {i j : Nat} (h : i ≤ j) (hj : j ≤ xs.length) (z : Str) (hz : z.cps.toList = xs) : (cutS z (some (i : Int)) (some (j : Int))).cps.toList = (xs.drop i).take (j - i) := by
  have hl : z.length = xs.length := by rw [← hz, Array.length_toList]; rfl
  unfold cutS
  rw [HT.sIx_nat, HT.sIx_nat, hl, hz, Nat.min_eq_left hj, Nat.min_eq_left (Nat.le_trans h hj)]
theorem cut_nat0 {xs : List Nat} {j : Nat} (hj : j ≤ xs.length) (z : Str) (hz : z.cps.toList = xs) : (cutS z none (some (j : Int))).cps.toList = xs.take j := by
  have hl : z.length = xs.length := by rw [← hz, Array.length_toList]; rfl
  unfold cutS
  rw [HT.sIx_nat, HT.sIx_none, hl, hz, Nat.min_eq_left hj]
  simp
theorem nm_of {t : Str} {xs : List Nat} (h : t.cps.toList = xs) (lo : 1 ≤ xs.length) (hi : xs.length ≤ 8) (hf : ∀ c, xs[0]? = some c → c ∈ LET.cps.toList) (ha : ∀ c ∈ xs, c ∈ SGN.cps.toList) : Nm t := by
  subst h
  exact ⟨by rw [Array.length_toList] at lo; exact lo, by rw [Array.length_toList] at hi; exact hi, hf, ha⟩
theorem name_made {B : Str} {bs : List Nat} {c0 c : Nat} (hB : B.cps.toList = c0 :: bs) (hl : bs.length = 7) (h0 : c0 ∈ LET.cps.toList) (hb : ∀ c ∈ bs, c ∈ SGN.cps.toList) (hc : c ∈ LET.cps.toList) {i j : Nat} (hij : i ≤ j) (hj : j ≤ 7) : Nm (cutS B none (some (i : Int)) ++ ⟨#[c]⟩ ++ cutS B (some (i : Int)) (some (j : Int))) := by
  have hn : (c0 :: bs).length = 8 := by rw [List.length_cons, hl]
  have e : (cutS B none (some (i : Int)) ++ ⟨#[c]⟩ ++ cutS B (some (i : Int)) (some (j : Int))).cps.toList = (c0 :: bs).take i ++ [c] ++ ((c0 :: bs).drop i).take (j - i) := by
    rw [PyProof.Rows.cps_toList_append, PyProof.Rows.cps_toList_append, cut_nat0 (by omega) B hB, cut_nat hij (by omega) B hB]
  have hall : ∀ d ∈ c0 :: bs, d ∈ SGN.cps.toList := fun d hd => by
    rcases List.mem_cons.mp hd with rfl | hd
    · exact let_sgn h0
    · exact hb d hd
  refine nm_of e ?_ ?_ ?_ ?_
  · simp only [List.length_append, List.length_cons, List.length_nil]; omega
  · simp only [List.length_append, List.length_cons, List.length_nil, List.length_take, List.length_drop, hl]; omega
  · intro d hd
    cases i with
    | zero =>
      have z : c = d := by simpa using hd
      exact z ▸ hc
    | succ i =>
      have z : c0 = d := by simpa using hd
      exact z ▸ h0
  · intro d hd
    simp only [List.mem_append, List.mem_cons, List.not_mem_nil, or_false] at hd
    rcases hd with (hd | rfl) | hd
    · exact hall d (List.mem_of_mem_take hd)
    · exact let_sgn hc
    · exact hall d (List.mem_of_mem_drop (List.mem_of_mem_take hd))
theorem rng_mem {lo : Int} {n : Nat} {d : D} (h : d ∈ rngL lo n) : ∃ i : Nat, i < n ∧ d = .int (lo + (i : Nat)) := by
  obtain ⟨i, hi, rfl⟩ := List.mem_map.mp h
  exact ⟨i, List.mem_range.mp hi, rfl⟩
theorem len_app (a b : Str) : (a ++ b).length = a.length + b.length := Array.size_append ..
theorem names_spec {s : S} {n : Nat} {m : Nat} {K : Kn D} (h : Bg s n) (hm : m ≤ 1000) (hq : ∀ ys s', (∀ y ∈ ys, ∃ t, y = .str t ∧ Nm t) → ys.length = m → Bg s' n → K.q (.lst ys) s') : Tk (F_zlawznames [.loc n, .int (m : Int)] s) := by
  unfold F_zlawznames
  refine tin_runF rfl ?_
  unfold m_zlawznames
  simp only [↓kn_q, ↓kn_e, ↓kq_q, ↓kp_p, ↓ps_nx, ↓ps_rt, ↓ps_bk, ↓ps_ct, ↓ps_ex, ↓tkV_val, ↓tkV_own, ↓tkVR_val, ↓tkVR_own, ↓tkO_own, ↓tkA_val, ↓tkB_bl, ↓tkI_int, ↓tkStr_str, ↓tkC_obj, ↓tkSm_some, ↓tkSm_map, ↓tkSm_bind, ↓tkSm_ite, ↓tkP_t, ↓tkIf_t, ↓tkIf_f, ↓tkT_t, ↓tk_ok, ↓tk_exc, ↓tk_bind, ↓tk_lift, ↓tks_nx, ↓tks_rt, ↓tks_eS, ↓tks_seq, ↓tks_next, ↓tks_brk, ↓tks_cnt, ↓tks_drop, ↓tks_ret, ↓tks_retN, ↓tks_if, ↓tks_frz, ↓tks_set, ↓tks_setO, ↓tks_par, ↓tks_mut, ↓tks_app, ↓tks_store, ↓tks_fld, ↓tks_aug, ↓tks_for, ↓tks_for0, ↓tk_var, ↓tk_varR, ↓tk_c, ↓tk_bin, ↓tk_test, ↓tk_tnot, ↓tk_yes, ↓tk_tand, ↓tk_tor, ↓tk_call, ↓tk_fn, ↓tk_mkF, ↓tk_nil, ↓tk_cons, ↓tk_attr, ↓tk_meth, ↓tk_seqI, ↓tk_enum, ↓tk_rng1, ↓tk_rng2, ↓tk_loc, ↓tk_lc, ↓tk_neg, ↓tk_no, ↓tk_part, ↓tk_sl, ↓tk_xsNil, ↓tk_xsV, ↓tk_xsO, ↓tk_xnot, ↓tk_xand, ↓tk_xor, ↓tk_lst, ↓tk_tup, ↓tk_sz, ↓tk_chain, ↓tk_s1, ↓tk_maxDf, ↓tk_star, List.getElem?_cons_zero, List.getElem?_cons_succ, List.set_cons_zero, List.set_cons_succ, List.map_cons, List.map_nil, List.cons_append, List.nil_append, List.append_assoc, tkJ_own, frzG, putS, wipeG, pVar, pTup, psCons, psNil, atD, ixD_lst, ixD_tup, ixD_scr, at_0, at_1, at_2, at_3, at_4, at_5, at_6, at_7, lenD, intC, absC, max2C, min2C, addD, intD, cmpD, yesC, slD, seqD, enumD, stD, sumC, allC, anyC, tupC, maxC, Option.bind_some, Option.map_some, List.lookup_cons, List.lookup_nil, List.length_cons, List.length_nil, Bool.not_true, Bool.not_false, Bool.and_self, Bool.true_and, Bool.and_true, Bool.false_and, Bool.and_false, Bool.or_true, Bool.true_or, Bool.false_or, Bool.or_false, reduceIte, decide_true, decide_false, if_true, if_false, List.replicate_succ, List.replicate_zero, Nat.reduceAdd, Nat.reduceSub, Nat.zero_add, List.mem_cons, List.not_mem_nil, or_false, false_or, not_false_eq_true, reduceCtorEq, ne_eq, and_self, and_true, true_and, Nat.reduceLT, Nat.reduceLeDiff, beq_self_eq_true, Nat.reduceEqDiff, Nat.add_one_ne_zero, modC, divC, mulC, powC, Int.reduceLT, Int.reduceLE, Int.reduceNeg, Int.reducePow, Int.reduceToNat, Int.reduceEq, Nat.reducePow, Int.zero_add, eqL, eqD, eqB, neD, isD, sz_0, sz_1, sz_2, sz_3, sz_4, sz_5, sz_6, sz_7, sz_8, sz_9, sz_10, sz_11, sz_12, sz_13, sz_14, sz_15, sz_16, sz_17, sz_18, sz_19, sz_20, sz_21, sz_22, sz_23, sz_24, sz_25, sz_26, sz_27, sz_28, sz_29, sz_30, nc_0, nc_1, nc_2, nc_3, nc_4, nc_5, nc_6, nc_7, nc_8, nc_9, nc_10, nc_11, nc_12, nc_13, nc_14, nc_15, nc_16, nc_17, nc_18, nc_19, nc_20, nc_21, nc_22, nc_23, nc_24, nc_25, nc_26, nc_27, nc_28, nc_29, nc_30, isiT, isiK, isiC, isiM, tyNames, tagD, tb0_NoneType, tb0_bool, tb0_int, tb0_str, tb0_tuple, tb0_list, tb0_Tree, tb1_NoneType, tb1_bool, tb1_int, tb1_str, tb1_tuple, tb1_list, tb1_Tree, tb2_NoneType, tb2_bool, tb2_int, tb2_str, tb2_tuple, tb2_list, tb2_Tree, tb3_NoneType, tb3_bool, tb3_int, tb3_str, tb3_tuple, tb3_list, tb3_Tree, tb4_NoneType, tb4_bool, tb4_int, tb4_str, tb4_tuple, tb4_list, tb4_Tree, tb5_NoneType, tb5_bool, tb5_int, tb5_str, tb5_tuple, tb5_list, tb5_Tree, tb6_NoneType, tb6_bool, tb6_int, tb6_str, tb6_tuple, tb6_list, tb6_Tree]
  refine tk_cut (fun d s => ∃ A : Str, d = .str A ∧ 26 ≤ A.cps.size ∧ A.cps.size ≤ 36 ∧ (∀ c ∈ A.cps.toList, c ∈ SGN.cps.toList) ∧ Bg s n) ?_ ?_
  · simp only [↓kn_q, ↓kn_e, ↓kq_q, ↓kp_p, ↓ps_nx, ↓ps_rt, ↓ps_bk, ↓ps_ct, ↓ps_ex, ↓tkV_val, ↓tkV_own, ↓tkVR_val, ↓tkVR_own, ↓tkO_own, ↓tkA_val, ↓tkB_bl, ↓tkI_int, ↓tkStr_str, ↓tkC_obj, ↓tkSm_some, ↓tkSm_map, ↓tkSm_bind, ↓tkSm_ite, ↓tkP_t, ↓tkIf_t, ↓tkIf_f, ↓tkT_t, ↓tk_ok, ↓tk_exc, ↓tk_bind, ↓tk_lift, ↓tks_nx, ↓tks_rt, ↓tks_eS, ↓tks_seq, ↓tks_next, ↓tks_brk, ↓tks_cnt, ↓tks_drop, ↓tks_ret, ↓tks_retN, ↓tks_if, ↓tks_frz, ↓tks_set, ↓tks_setO, ↓tks_par, ↓tks_mut, ↓tks_app, ↓tks_store, ↓tks_fld, ↓tks_aug, ↓tks_for, ↓tks_for0, ↓tk_var, ↓tk_varR, ↓tk_c, ↓tk_bin, ↓tk_test, ↓tk_tnot, ↓tk_yes, ↓tk_tand, ↓tk_tor, ↓tk_call, ↓tk_fn, ↓tk_mkF, ↓tk_nil, ↓tk_cons, ↓tk_attr, ↓tk_meth, ↓tk_xif, ↓tk_seqI, ↓tk_enum, ↓tk_rng1, ↓tk_rng2, ↓tk_loc, ↓tk_lc, ↓tk_neg, ↓tk_no, ↓tk_part, ↓tk_sl, ↓tk_xsNil, ↓tk_xsV, ↓tk_xsO, ↓tk_xnot, ↓tk_xand, ↓tk_xor, ↓tk_lst, ↓tk_tup, ↓tk_sz, ↓tk_chain, ↓tk_s1, ↓tk_maxDf, ↓tk_star, List.getElem?_cons_zero, List.getElem?_cons_succ, List.set_cons_zero, List.set_cons_succ, List.map_cons, List.map_nil, List.cons_append, List.nil_append, List.append_assoc, tkJ_own, frzG, putS, wipeG, pVar, pTup, psCons, psNil, atD, ixD_lst, ixD_tup, ixD_scr, at_0, at_1, at_2, at_3, at_4, at_5, at_6, at_7, lenD, intC, absC, max2C, min2C, addD, intD, cmpD, yesC, slD, seqD, enumD, stD, sumC, allC, anyC, tupC, maxC, Option.bind_some, Option.map_some, List.lookup_cons, List.lookup_nil, List.length_cons, List.length_nil, Bool.not_true, Bool.not_false, Bool.and_self, Bool.true_and, Bool.and_true, Bool.false_and, Bool.and_false, Bool.or_true, Bool.true_or, Bool.false_or, Bool.or_false, reduceIte, decide_true, decide_false, if_true, if_false, List.replicate_succ, List.replicate_zero, Nat.reduceAdd, Nat.reduceSub, Nat.zero_add, List.mem_cons, List.not_mem_nil, or_false, false_or, not_false_eq_true, reduceCtorEq, ne_eq, and_self, and_true, true_and, Nat.reduceLT, Nat.reduceLeDiff, beq_self_eq_true, Nat.reduceEqDiff, Nat.add_one_ne_zero, modC, divC, mulC, powC, Int.reduceLT, Int.reduceLE, Int.reduceNeg, Int.reducePow, Int.reduceToNat, Int.reduceEq, Nat.reducePow, Int.zero_add, eqL, eqD, eqB, neD, isD, sz_0, sz_1, sz_2, sz_3, sz_4, sz_5, sz_6, sz_7, sz_8, sz_9, sz_10, sz_11, sz_12, sz_13, sz_14, sz_15, sz_16, sz_17, sz_18, sz_19, sz_20, sz_21, sz_22, sz_23, sz_24, sz_25, sz_26, sz_27, sz_28, sz_29, sz_30, nc_0, nc_1, nc_2, nc_3, nc_4, nc_5, nc_6, nc_7, nc_8, nc_9, nc_10, nc_11, nc_12, nc_13, nc_14, nc_15, nc_16, nc_17, nc_18, nc_19, nc_20, nc_21, nc_22, nc_23, nc_24, nc_25, nc_26, nc_27, nc_28, nc_29, nc_30, isiT, isiK, isiC, isiM, tyNames, tagD, tb0_NoneType, tb0_bool, tb0_int, tb0_str, tb0_tuple, tb0_list, tb0_Tree, tb1_NoneType, tb1_bool, tb1_int, tb1_str, tb1_tuple, tb1_list, tb1_Tree, tb2_NoneType, tb2_bool, tb2_int, tb2_str, tb2_tuple, tb2_list, tb2_Tree, tb3_NoneType, tb3_bool, tb3_int, tb3_str, tb3_tuple, tb3_list, tb3_Tree, tb4_NoneType, tb4_bool, tb4_int, tb4_str, tb4_tuple, tb4_list, tb4_Tree, tb5_NoneType, tb5_bool, tb5_int, tb5_str, tb5_tuple, tb5_list, tb5_Tree, tb6_NoneType, tb6_bool, tb6_int, tb6_str, tb6_tuple, tb6_list, tb6_Tree]
    refine take_spec h (by decide) (by decide) fun d s1 d0 d1 h1 => ?_
    simp only [↓kn_q, ↓kn_e, ↓kq_q, ↓kp_p, ↓ps_nx, ↓ps_rt, ↓ps_bk, ↓ps_ct, ↓ps_ex, ↓tkV_val, ↓tkV_own, ↓tkVR_val, ↓tkVR_own, ↓tkO_own, ↓tkA_val, ↓tkB_bl, ↓tkI_int, ↓tkStr_str, ↓tkC_obj, ↓tkSm_some, ↓tkSm_map, ↓tkSm_bind, ↓tkSm_ite, ↓tkP_t, ↓tkIf_t, ↓tkIf_f, ↓tkT_t, ↓tk_ok, ↓tk_exc, ↓tk_bind, ↓tk_lift, ↓tks_nx, ↓tks_rt, ↓tks_eS, ↓tks_seq, ↓tks_next, ↓tks_brk, ↓tks_cnt, ↓tks_drop, ↓tks_ret, ↓tks_retN, ↓tks_if, ↓tks_frz, ↓tks_set, ↓tks_setO, ↓tks_par, ↓tks_mut, ↓tks_app, ↓tks_store, ↓tks_fld, ↓tks_aug, ↓tks_for, ↓tks_for0, ↓tk_var, ↓tk_varR, ↓tk_c, ↓tk_bin, ↓tk_test, ↓tk_tnot, ↓tk_yes, ↓tk_tand, ↓tk_tor, ↓tk_call, ↓tk_fn, ↓tk_mkF, ↓tk_nil, ↓tk_cons, ↓tk_attr, ↓tk_meth, ↓tk_xif, ↓tk_seqI, ↓tk_enum, ↓tk_rng1, ↓tk_rng2, ↓tk_loc, ↓tk_lc, ↓tk_neg, ↓tk_no, ↓tk_part, ↓tk_sl, ↓tk_xsNil, ↓tk_xsV, ↓tk_xsO, ↓tk_xnot, ↓tk_xand, ↓tk_xor, ↓tk_lst, ↓tk_tup, ↓tk_sz, ↓tk_chain, ↓tk_s1, ↓tk_maxDf, ↓tk_star, List.getElem?_cons_zero, List.getElem?_cons_succ, List.set_cons_zero, List.set_cons_succ, List.map_cons, List.map_nil, List.cons_append, List.nil_append, List.append_assoc, tkJ_own, frzG, putS, wipeG, pVar, pTup, psCons, psNil, atD, ixD_lst, ixD_tup, ixD_scr, at_0, at_1, at_2, at_3, at_4, at_5, at_6, at_7, lenD, intC, absC, max2C, min2C, addD, intD, cmpD, yesC, slD, seqD, enumD, stD, sumC, allC, anyC, tupC, maxC, Option.bind_some, Option.map_some, List.lookup_cons, List.lookup_nil, List.length_cons, List.length_nil, Bool.not_true, Bool.not_false, Bool.and_self, Bool.true_and, Bool.and_true, Bool.false_and, Bool.and_false, Bool.or_true, Bool.true_or, Bool.false_or, Bool.or_false, reduceIte, decide_true, decide_false, if_true, if_false, List.replicate_succ, List.replicate_zero, Nat.reduceAdd, Nat.reduceSub, Nat.zero_add, List.mem_cons, List.not_mem_nil, or_false, false_or, not_false_eq_true, reduceCtorEq, ne_eq, and_self, and_true, true_and, Nat.reduceLT, Nat.reduceLeDiff, beq_self_eq_true, Nat.reduceEqDiff, Nat.add_one_ne_zero, modC, divC, mulC, powC, Int.reduceLT, Int.reduceLE, Int.reduceNeg, Int.reducePow, Int.reduceToNat, Int.reduceEq, Nat.reducePow, Int.zero_add, eqL, eqD, eqB, neD, isD, sz_0, sz_1, sz_2, sz_3, sz_4, sz_5, sz_6, sz_7, sz_8, sz_9, sz_10, sz_11, sz_12, sz_13, sz_14, sz_15, sz_16, sz_17, sz_18, sz_19, sz_20, sz_21, sz_22, sz_23, sz_24, sz_25, sz_26, sz_27, sz_28, sz_29, sz_30, nc_0, nc_1, nc_2, nc_3, nc_4, nc_5, nc_6, nc_7, nc_8, nc_9, nc_10, nc_11, nc_12, nc_13, nc_14, nc_15, nc_16, nc_17, nc_18, nc_19, nc_20, nc_21, nc_22, nc_23, nc_24, nc_25, nc_26, nc_27, nc_28, nc_29, nc_30, isiT, isiK, isiC, isiM, tyNames, tagD, tb0_NoneType, tb0_bool, tb0_int, tb0_str, tb0_tuple, tb0_list, tb0_Tree, tb1_NoneType, tb1_bool, tb1_int, tb1_str, tb1_tuple, tb1_list, tb1_Tree, tb2_NoneType, tb2_bool, tb2_int, tb2_str, tb2_tuple, tb2_list, tb2_Tree, tb3_NoneType, tb3_bool, tb3_int, tb3_str, tb3_tuple, tb3_list, tb3_Tree, tb4_NoneType, tb4_bool, tb4_int, tb4_str, tb4_tuple, tb4_list, tb4_Tree, tb5_NoneType, tb5_bool, tb5_int, tb5_str, tb5_tuple, tb5_list, tb5_Tree, tb6_NoneType, tb6_bool, tb6_int, tb6_str, tb6_tuple, tb6_list, tb6_Tree]
    refine tkIf_dec (fun _ => ?_) fun _ => ?_
    · simp only [↓kn_q, ↓kn_e, ↓kq_q, ↓kp_p, ↓ps_nx, ↓ps_rt, ↓ps_bk, ↓ps_ct, ↓ps_ex, ↓tkV_val, ↓tkV_own, ↓tkVR_val, ↓tkVR_own, ↓tkO_own, ↓tkA_val, ↓tkB_bl, ↓tkI_int, ↓tkStr_str, ↓tkC_obj, ↓tkSm_some, ↓tkSm_map, ↓tkSm_bind, ↓tkSm_ite, ↓tkP_t, ↓tkIf_t, ↓tkIf_f, ↓tkT_t, ↓tk_ok, ↓tk_exc, ↓tk_bind, ↓tk_lift, ↓tks_nx, ↓tks_rt, ↓tks_eS, ↓tks_seq, ↓tks_next, ↓tks_brk, ↓tks_cnt, ↓tks_drop, ↓tks_ret, ↓tks_retN, ↓tks_if, ↓tks_frz, ↓tks_set, ↓tks_setO, ↓tks_par, ↓tks_mut, ↓tks_app, ↓tks_store, ↓tks_fld, ↓tks_aug, ↓tks_for, ↓tks_for0, ↓tk_var, ↓tk_varR, ↓tk_c, ↓tk_bin, ↓tk_test, ↓tk_tnot, ↓tk_yes, ↓tk_tand, ↓tk_tor, ↓tk_call, ↓tk_fn, ↓tk_mkF, ↓tk_nil, ↓tk_cons, ↓tk_attr, ↓tk_meth, ↓tk_xif, ↓tk_seqI, ↓tk_enum, ↓tk_rng1, ↓tk_rng2, ↓tk_loc, ↓tk_lc, ↓tk_neg, ↓tk_no, ↓tk_part, ↓tk_sl, ↓tk_xsNil, ↓tk_xsV, ↓tk_xsO, ↓tk_xnot, ↓tk_xand, ↓tk_xor, ↓tk_lst, ↓tk_tup, ↓tk_sz, ↓tk_chain, ↓tk_s1, ↓tk_maxDf, ↓tk_star, List.getElem?_cons_zero, List.getElem?_cons_succ, List.set_cons_zero, List.set_cons_succ, List.map_cons, List.map_nil, List.cons_append, List.nil_append, List.append_assoc, tkJ_own, frzG, putS, wipeG, pVar, pTup, psCons, psNil, atD, ixD_lst, ixD_tup, ixD_scr, at_0, at_1, at_2, at_3, at_4, at_5, at_6, at_7, lenD, intC, absC, max2C, min2C, addD, intD, cmpD, yesC, slD, seqD, enumD, stD, sumC, allC, anyC, tupC, maxC, Option.bind_some, Option.map_some, List.lookup_cons, List.lookup_nil, List.length_cons, List.length_nil, Bool.not_true, Bool.not_false, Bool.and_self, Bool.true_and, Bool.and_true, Bool.false_and, Bool.and_false, Bool.or_true, Bool.true_or, Bool.false_or, Bool.or_false, reduceIte, decide_true, decide_false, if_true, if_false, List.replicate_succ, List.replicate_zero, Nat.reduceAdd, Nat.reduceSub, Nat.zero_add, List.mem_cons, List.not_mem_nil, or_false, false_or, not_false_eq_true, reduceCtorEq, ne_eq, and_self, and_true, true_and, Nat.reduceLT, Nat.reduceLeDiff, beq_self_eq_true, Nat.reduceEqDiff, Nat.add_one_ne_zero, modC, divC, mulC, powC, Int.reduceLT, Int.reduceLE, Int.reduceNeg, Int.reducePow, Int.reduceToNat, Int.reduceEq, Nat.reducePow, Int.zero_add, eqL, eqD, eqB, neD, isD, sz_0, sz_1, sz_2, sz_3, sz_4, sz_5, sz_6, sz_7, sz_8, sz_9, sz_10, sz_11, sz_12, sz_13, sz_14, sz_15, sz_16, sz_17, sz_18, sz_19, sz_20, sz_21, sz_22, sz_23, sz_24, sz_25, sz_26, sz_27, sz_28, sz_29, sz_30, nc_0, nc_1, nc_2, nc_3, nc_4, nc_5, nc_6, nc_7, nc_8, nc_9, nc_10, nc_11, nc_12, nc_13, nc_14, nc_15, nc_16, nc_17, nc_18, nc_19, nc_20, nc_21, nc_22, nc_23, nc_24, nc_25, nc_26, nc_27, nc_28, nc_29, nc_30, isiT, isiK, isiC, isiM, tyNames, tagD, tb0_NoneType, tb0_bool, tb0_int, tb0_str, tb0_tuple, tb0_list, tb0_Tree, tb1_NoneType, tb1_bool, tb1_int, tb1_str, tb1_tuple, tb1_list, tb1_Tree, tb2_NoneType, tb2_bool, tb2_int, tb2_str, tb2_tuple, tb2_list, tb2_Tree, tb3_NoneType, tb3_bool, tb3_int, tb3_str, tb3_tuple, tb3_list, tb3_Tree, tb4_NoneType, tb4_bool, tb4_int, tb4_str, tb4_tuple, tb4_list, tb4_Tree, tb5_NoneType, tb5_bool, tb5_int, tb5_str, tb5_tuple, tb5_list, tb5_Tree, tb6_NoneType, tb6_bool, tb6_int, tb6_str, tb6_tuple, tb6_list, tb6_Tree]
      refine tkP_of (by decide +kernel) ?_
      simp only [↓kn_q, ↓kn_e, ↓kq_q, ↓kp_p, ↓ps_nx, ↓ps_rt, ↓ps_bk, ↓ps_ct, ↓ps_ex, ↓tkV_val, ↓tkV_own, ↓tkVR_val, ↓tkVR_own, ↓tkO_own, ↓tkA_val, ↓tkB_bl, ↓tkI_int, ↓tkStr_str, ↓tkC_obj, ↓tkSm_some, ↓tkSm_map, ↓tkSm_bind, ↓tkSm_ite, ↓tkP_t, ↓tkIf_t, ↓tkIf_f, ↓tkT_t, ↓tk_ok, ↓tk_exc, ↓tk_bind, ↓tk_lift, ↓tks_nx, ↓tks_rt, ↓tks_eS, ↓tks_seq, ↓tks_next, ↓tks_brk, ↓tks_cnt, ↓tks_drop, ↓tks_ret, ↓tks_retN, ↓tks_if, ↓tks_frz, ↓tks_set, ↓tks_setO, ↓tks_par, ↓tks_mut, ↓tks_app, ↓tks_store, ↓tks_fld, ↓tks_aug, ↓tks_for, ↓tks_for0, ↓tk_var, ↓tk_varR, ↓tk_c, ↓tk_bin, ↓tk_test, ↓tk_tnot, ↓tk_yes, ↓tk_tand, ↓tk_tor, ↓tk_call, ↓tk_fn, ↓tk_mkF, ↓tk_nil, ↓tk_cons, ↓tk_attr, ↓tk_meth, ↓tk_xif, ↓tk_seqI, ↓tk_enum, ↓tk_rng1, ↓tk_rng2, ↓tk_loc, ↓tk_lc, ↓tk_neg, ↓tk_no, ↓tk_part, ↓tk_sl, ↓tk_xsNil, ↓tk_xsV, ↓tk_xsO, ↓tk_xnot, ↓tk_xand, ↓tk_xor, ↓tk_lst, ↓tk_tup, ↓tk_sz, ↓tk_chain, ↓tk_s1, ↓tk_maxDf, ↓tk_star, List.getElem?_cons_zero, List.getElem?_cons_succ, List.set_cons_zero, List.set_cons_succ, List.map_cons, List.map_nil, List.cons_append, List.nil_append, List.append_assoc, tkJ_own, frzG, putS, wipeG, pVar, pTup, psCons, psNil, atD, ixD_lst, ixD_tup, ixD_scr, at_0, at_1, at_2, at_3, at_4, at_5, at_6, at_7, lenD, intC, absC, max2C, min2C, addD, intD, cmpD, yesC, slD, seqD, enumD, stD, sumC, allC, anyC, tupC, maxC, Option.bind_some, Option.map_some, List.lookup_cons, List.lookup_nil, List.length_cons, List.length_nil, Bool.not_true, Bool.not_false, Bool.and_self, Bool.true_and, Bool.and_true, Bool.false_and, Bool.and_false, Bool.or_true, Bool.true_or, Bool.false_or, Bool.or_false, reduceIte, decide_true, decide_false, if_true, if_false, List.replicate_succ, List.replicate_zero, Nat.reduceAdd, Nat.reduceSub, Nat.zero_add, List.mem_cons, List.not_mem_nil, or_false, false_or, not_false_eq_true, reduceCtorEq, ne_eq, and_self, and_true, true_and, Nat.reduceLT, Nat.reduceLeDiff, beq_self_eq_true, Nat.reduceEqDiff, Nat.add_one_ne_zero, modC, divC, mulC, powC, Int.reduceLT, Int.reduceLE, Int.reduceNeg, Int.reducePow, Int.reduceToNat, Int.reduceEq, Nat.reducePow, Int.zero_add, eqL, eqD, eqB, neD, isD, sz_0, sz_1, sz_2, sz_3, sz_4, sz_5, sz_6, sz_7, sz_8, sz_9, sz_10, sz_11, sz_12, sz_13, sz_14, sz_15, sz_16, sz_17, sz_18, sz_19, sz_20, sz_21, sz_22, sz_23, sz_24, sz_25, sz_26, sz_27, sz_28, sz_29, sz_30, nc_0, nc_1, nc_2, nc_3, nc_4, nc_5, nc_6, nc_7, nc_8, nc_9, nc_10, nc_11, nc_12, nc_13, nc_14, nc_15, nc_16, nc_17, nc_18, nc_19, nc_20, nc_21, nc_22, nc_23, nc_24, nc_25, nc_26, nc_27, nc_28, nc_29, nc_30, isiT, isiK, isiC, isiM, tyNames, tagD, tb0_NoneType, tb0_bool, tb0_int, tb0_str, tb0_tuple, tb0_list, tb0_Tree, tb1_NoneType, tb1_bool, tb1_int, tb1_str, tb1_tuple, tb1_list, tb1_Tree, tb2_NoneType, tb2_bool, tb2_int, tb2_str, tb2_tuple, tb2_list, tb2_Tree, tb3_NoneType, tb3_bool, tb3_int, tb3_str, tb3_tuple, tb3_list, tb3_Tree, tb4_NoneType, tb4_bool, tb4_int, tb4_str, tb4_tuple, tb4_list, tb4_Tree, tb5_NoneType, tb5_bool, tb5_int, tb5_str, tb5_tuple, tb5_list, tb5_Tree, tb6_NoneType, tb6_bool, tb6_int, tb6_str, tb6_tuple, tb6_list, tb6_Tree]
      exact ⟨_, rfl, by decide +kernel, by decide +kernel, by decide +kernel, h1⟩
    · simp only [↓kn_q, ↓kn_e, ↓kq_q, ↓kp_p, ↓ps_nx, ↓ps_rt, ↓ps_bk, ↓ps_ct, ↓ps_ex, ↓tkV_val, ↓tkV_own, ↓tkVR_val, ↓tkVR_own, ↓tkO_own, ↓tkA_val, ↓tkB_bl, ↓tkI_int, ↓tkStr_str, ↓tkC_obj, ↓tkSm_some, ↓tkSm_map, ↓tkSm_bind, ↓tkSm_ite, ↓tkP_t, ↓tkIf_t, ↓tkIf_f, ↓tkT_t, ↓tk_ok, ↓tk_exc, ↓tk_bind, ↓tk_lift, ↓tks_nx, ↓tks_rt, ↓tks_eS, ↓tks_seq, ↓tks_next, ↓tks_brk, ↓tks_cnt, ↓tks_drop, ↓tks_ret, ↓tks_retN, ↓tks_if, ↓tks_frz, ↓tks_set, ↓tks_setO, ↓tks_par, ↓tks_mut, ↓tks_app, ↓tks_store, ↓tks_fld, ↓tks_aug, ↓tks_for, ↓tks_for0, ↓tk_var, ↓tk_varR, ↓tk_c, ↓tk_bin, ↓tk_test, ↓tk_tnot, ↓tk_yes, ↓tk_tand, ↓tk_tor, ↓tk_call, ↓tk_fn, ↓tk_mkF, ↓tk_nil, ↓tk_cons, ↓tk_attr, ↓tk_meth, ↓tk_xif, ↓tk_seqI, ↓tk_enum, ↓tk_rng1, ↓tk_rng2, ↓tk_loc, ↓tk_lc, ↓tk_neg, ↓tk_no, ↓tk_part, ↓tk_sl, ↓tk_xsNil, ↓tk_xsV, ↓tk_xsO, ↓tk_xnot, ↓tk_xand, ↓tk_xor, ↓tk_lst, ↓tk_tup, ↓tk_sz, ↓tk_chain, ↓tk_s1, ↓tk_maxDf, ↓tk_star, List.getElem?_cons_zero, List.getElem?_cons_succ, List.set_cons_zero, List.set_cons_succ, List.map_cons, List.map_nil, List.cons_append, List.nil_append, List.append_assoc, tkJ_own, frzG, putS, wipeG, pVar, pTup, psCons, psNil, atD, ixD_lst, ixD_tup, ixD_scr, at_0, at_1, at_2, at_3, at_4, at_5, at_6, at_7, lenD, intC, absC, max2C, min2C, addD, intD, cmpD, yesC, slD, seqD, enumD, stD, sumC, allC, anyC, tupC, maxC, Option.bind_some, Option.map_some, List.lookup_cons, List.lookup_nil, List.length_cons, List.length_nil, Bool.not_true, Bool.not_false, Bool.and_self, Bool.true_and, Bool.and_true, Bool.false_and, Bool.and_false, Bool.or_true, Bool.true_or, Bool.false_or, Bool.or_false, reduceIte, decide_true, decide_false, if_true, if_false, List.replicate_succ, List.replicate_zero, Nat.reduceAdd, Nat.reduceSub, Nat.zero_add, List.mem_cons, List.not_mem_nil, or_false, false_or, not_false_eq_true, reduceCtorEq, ne_eq, and_self, and_true, true_and, Nat.reduceLT, Nat.reduceLeDiff, beq_self_eq_true, Nat.reduceEqDiff, Nat.add_one_ne_zero, modC, divC, mulC, powC, Int.reduceLT, Int.reduceLE, Int.reduceNeg, Int.reducePow, Int.reduceToNat, Int.reduceEq, Nat.reducePow, Int.zero_add, eqL, eqD, eqB, neD, isD, sz_0, sz_1, sz_2, sz_3, sz_4, sz_5, sz_6, sz_7, sz_8, sz_9, sz_10, sz_11, sz_12, sz_13, sz_14, sz_15, sz_16, sz_17, sz_18, sz_19, sz_20, sz_21, sz_22, sz_23, sz_24, sz_25, sz_26, sz_27, sz_28, sz_29, sz_30, nc_0, nc_1, nc_2, nc_3, nc_4, nc_5, nc_6, nc_7, nc_8, nc_9, nc_10, nc_11, nc_12, nc_13, nc_14, nc_15, nc_16, nc_17, nc_18, nc_19, nc_20, nc_21, nc_22, nc_23, nc_24, nc_25, nc_26, nc_27, nc_28, nc_29, nc_30, isiT, isiK, isiC, isiM, tyNames, tagD, tb0_NoneType, tb0_bool, tb0_int, tb0_str, tb0_tuple, tb0_list, tb0_Tree, tb1_NoneType, tb1_bool, tb1_int, tb1_str, tb1_tuple, tb1_list, tb1_Tree, tb2_NoneType, tb2_bool, tb2_int, tb2_str, tb2_tuple, tb2_list, tb2_Tree, tb3_NoneType, tb3_bool, tb3_int, tb3_str, tb3_tuple, tb3_list, tb3_Tree, tb4_NoneType, tb4_bool, tb4_int, tb4_str, tb4_tuple, tb4_list, tb4_Tree, tb5_NoneType, tb5_bool, tb5_int, tb5_str, tb5_tuple, tb5_list, tb5_Tree, tb6_NoneType, tb6_bool, tb6_int, tb6_str, tb6_tuple, tb6_list, tb6_Tree]
      exact ⟨_, rfl, by decide +kernel, by decide +kernel, fun c hc => let_sgn hc, h1⟩
  rintro _ s1 ⟨A, rfl, lo, hi, hA, h1⟩
  simp only [↓kn_q, ↓kn_e, ↓kq_q, ↓kp_p, ↓ps_nx, ↓ps_rt, ↓ps_bk, ↓ps_ct, ↓ps_ex, ↓tkV_val, ↓tkV_own, ↓tkVR_val, ↓tkVR_own, ↓tkO_own, ↓tkA_val, ↓tkB_bl, ↓tkI_int, ↓tkStr_str, ↓tkC_obj, ↓tkSm_some, ↓tkSm_map, ↓tkSm_bind, ↓tkSm_ite, ↓tkP_t, ↓tkIf_t, ↓tkIf_f, ↓tkT_t, ↓tk_ok, ↓tk_exc, ↓tk_bind, ↓tk_lift, ↓tks_nx, ↓tks_rt, ↓tks_eS, ↓tks_seq, ↓tks_next, ↓tks_brk, ↓tks_cnt, ↓tks_drop, ↓tks_ret, ↓tks_retN, ↓tks_if, ↓tks_frz, ↓tks_set, ↓tks_setO, ↓tks_par, ↓tks_mut, ↓tks_app, ↓tks_store, ↓tks_fld, ↓tks_aug, ↓tks_for, ↓tks_for0, ↓tk_var, ↓tk_varR, ↓tk_c, ↓tk_bin, ↓tk_test, ↓tk_tnot, ↓tk_yes, ↓tk_tand, ↓tk_tor, ↓tk_call, ↓tk_fn, ↓tk_mkF, ↓tk_nil, ↓tk_cons, ↓tk_attr, ↓tk_meth, ↓tk_xif, ↓tk_seqI, ↓tk_enum, ↓tk_rng1, ↓tk_rng2, ↓tk_loc, ↓tk_lc, ↓tk_neg, ↓tk_no, ↓tk_part, ↓tk_sl, ↓tk_xsNil, ↓tk_xsV, ↓tk_xsO, ↓tk_xnot, ↓tk_xand, ↓tk_xor, ↓tk_lst, ↓tk_tup, ↓tk_sz, ↓tk_chain, ↓tk_s1, ↓tk_maxDf, ↓tk_star, List.getElem?_cons_zero, List.getElem?_cons_succ, List.set_cons_zero, List.set_cons_succ, List.map_cons, List.map_nil, List.cons_append, List.nil_append, List.append_assoc, tkJ_own, frzG, putS, wipeG, pVar, pTup, psCons, psNil, atD, ixD_lst, ixD_tup, ixD_scr, at_0, at_1, at_2, at_3, at_4, at_5, at_6, at_7, lenD, intC, absC, max2C, min2C, addD, intD, cmpD, yesC, slD, seqD, enumD, stD, sumC, allC, anyC, tupC, maxC, Option.bind_some, Option.map_some, List.lookup_cons, List.lookup_nil, List.length_cons, List.length_nil, Bool.not_true, Bool.not_false, Bool.and_self, Bool.true_and, Bool.and_true, Bool.false_and, Bool.and_false, Bool.or_true, Bool.true_or, Bool.false_or, Bool.or_false, reduceIte, decide_true, decide_false, if_true, if_false, List.replicate_succ, List.replicate_zero, Nat.reduceAdd, Nat.reduceSub, Nat.zero_add, List.mem_cons, List.not_mem_nil, or_false, false_or, not_false_eq_true, reduceCtorEq, ne_eq, and_self, and_true, true_and, Nat.reduceLT, Nat.reduceLeDiff, beq_self_eq_true, Nat.reduceEqDiff, Nat.add_one_ne_zero, modC, divC, mulC, powC, Int.reduceLT, Int.reduceLE, Int.reduceNeg, Int.reducePow, Int.reduceToNat, Int.reduceEq, Nat.reducePow, Int.zero_add, eqL, eqD, eqB, neD, isD, sz_0, sz_1, sz_2, sz_3, sz_4, sz_5, sz_6, sz_7, sz_8, sz_9, sz_10, sz_11, sz_12, sz_13, sz_14, sz_15, sz_16, sz_17, sz_18, sz_19, sz_20, sz_21, sz_22, sz_23, sz_24, sz_25, sz_26, sz_27, sz_28, sz_29, sz_30, nc_0, nc_1, nc_2, nc_3, nc_4, nc_5, nc_6, nc_7, nc_8, nc_9, nc_10, nc_11, nc_12, nc_13, nc_14, nc_15, nc_16, nc_17, nc_18, nc_19, nc_20, nc_21, nc_22, nc_23, nc_24, nc_25, nc_26, nc_27, nc_28, nc_29, nc_30, isiT, isiK, isiC, isiM, tyNames, tagD, tb0_NoneType, tb0_bool, tb0_int, tb0_str, tb0_tuple, tb0_list, tb0_Tree, tb1_NoneType, tb1_bool, tb1_int, tb1_str, tb1_tuple, tb1_list, tb1_Tree, tb2_NoneType, tb2_bool, tb2_int, tb2_str, tb2_tuple, tb2_list, tb2_Tree, tb3_NoneType, tb3_bool, tb3_int, tb3_str, tb3_tuple, tb3_list, tb3_Tree, tb4_NoneType, tb4_bool, tb4_int, tb4_str, tb4_tuple, tb4_list, tb4_Tree, tb5_NoneType, tb5_bool, tb5_int, tb5_str, tb5_tuple, tb5_list, tb5_Tree, tb6_NoneType, tb6_bool, tb6_int, tb6_str, tb6_tuple, tb6_list, tb6_Tree]
  refine of_spec h1 (by simp) (by simp) fun x s2 hx h2 => ?_
  obtain ⟨z, rfl, z7⟩ : ∃ z : Nat, x = .int (z : Int) ∧ z ≤ 7 := by
    simp only [List.mem_cons, List.not_mem_nil, or_false] at hx
    rcases hx with rfl | rfl | rfl | rfl | rfl | rfl
    · exact ⟨0, rfl, by decide⟩
    · exact ⟨0, rfl, by decide⟩
    · exact ⟨1, rfl, by decide⟩
    · exact ⟨2, rfl, by decide⟩
    · exact ⟨5, rfl, by decide⟩
    · exact ⟨7, rfl, by decide⟩
  clear hx
  simp only [↓kn_q, ↓kn_e, ↓kq_q, ↓kp_p, ↓ps_nx, ↓ps_rt, ↓ps_bk, ↓ps_ct, ↓ps_ex, ↓tkV_val, ↓tkV_own, ↓tkVR_val, ↓tkVR_own, ↓tkO_own, ↓tkA_val, ↓tkB_bl, ↓tkI_int, ↓tkStr_str, ↓tkC_obj, ↓tkSm_some, ↓tkSm_map, ↓tkSm_bind, ↓tkSm_ite, ↓tkP_t, ↓tkIf_t, ↓tkIf_f, ↓tkT_t, ↓tk_ok, ↓tk_exc, ↓tk_bind, ↓tk_lift, ↓tks_nx, ↓tks_rt, ↓tks_eS, ↓tks_seq, ↓tks_next, ↓tks_brk, ↓tks_cnt, ↓tks_drop, ↓tks_ret, ↓tks_retN, ↓tks_if, ↓tks_frz, ↓tks_set, ↓tks_setO, ↓tks_par, ↓tks_mut, ↓tks_app, ↓tks_store, ↓tks_fld, ↓tks_aug, ↓tks_for, ↓tks_for0, ↓tk_var, ↓tk_varR, ↓tk_c, ↓tk_bin, ↓tk_test, ↓tk_tnot, ↓tk_yes, ↓tk_tand, ↓tk_tor, ↓tk_call, ↓tk_fn, ↓tk_mkF, ↓tk_nil, ↓tk_cons, ↓tk_attr, ↓tk_meth, ↓tk_xif, ↓tk_seqI, ↓tk_enum, ↓tk_rng1, ↓tk_rng2, ↓tk_loc, ↓tk_lc, ↓tk_neg, ↓tk_no, ↓tk_part, ↓tk_sl, ↓tk_xsNil, ↓tk_xsV, ↓tk_xsO, ↓tk_xnot, ↓tk_xand, ↓tk_xor, ↓tk_lst, ↓tk_tup, ↓tk_sz, ↓tk_chain, ↓tk_s1, ↓tk_maxDf, ↓tk_star, List.getElem?_cons_zero, List.getElem?_cons_succ, List.set_cons_zero, List.set_cons_succ, List.map_cons, List.map_nil, List.cons_append, List.nil_append, List.append_assoc, tkJ_own, frzG, putS, wipeG, pVar, pTup, psCons, psNil, atD, ixD_lst, ixD_tup, ixD_scr, at_0, at_1, at_2, at_3, at_4, at_5, at_6, at_7, lenD, intC, absC, max2C, min2C, addD, intD, cmpD, yesC, slD, seqD, enumD, stD, sumC, allC, anyC, tupC, maxC, Option.bind_some, Option.map_some, List.lookup_cons, List.lookup_nil, List.length_cons, List.length_nil, Bool.not_true, Bool.not_false, Bool.and_self, Bool.true_and, Bool.and_true, Bool.false_and, Bool.and_false, Bool.or_true, Bool.true_or, Bool.false_or, Bool.or_false, reduceIte, decide_true, decide_false, if_true, if_false, List.replicate_succ, List.replicate_zero, Nat.reduceAdd, Nat.reduceSub, Nat.zero_add, List.mem_cons, List.not_mem_nil, or_false, false_or, not_false_eq_true, reduceCtorEq, ne_eq, and_self, and_true, true_and, Nat.reduceLT, Nat.reduceLeDiff, beq_self_eq_true, Nat.reduceEqDiff, Nat.add_one_ne_zero, modC, divC, mulC, powC, Int.reduceLT, Int.reduceLE, Int.reduceNeg, Int.reducePow, Int.reduceToNat, Int.reduceEq, Nat.reducePow, Int.zero_add, eqL, eqD, eqB, neD, isD, sz_0, sz_1, sz_2, sz_3, sz_4, sz_5, sz_6, sz_7, sz_8, sz_9, sz_10, sz_11, sz_12, sz_13, sz_14, sz_15, sz_16, sz_17, sz_18, sz_19, sz_20, sz_21, sz_22, sz_23, sz_24, sz_25, sz_26, sz_27, sz_28, sz_29, sz_30, nc_0, nc_1, nc_2, nc_3, nc_4, nc_5, nc_6, nc_7, nc_8, nc_9, nc_10, nc_11, nc_12, nc_13, nc_14, nc_15, nc_16, nc_17, nc_18, nc_19, nc_20, nc_21, nc_22, nc_23, nc_24, nc_25, nc_26, nc_27, nc_28, nc_29, nc_30, isiT, isiK, isiC, isiM, tyNames, tagD, tb0_NoneType, tb0_bool, tb0_int, tb0_str, tb0_tuple, tb0_list, tb0_Tree, tb1_NoneType, tb1_bool, tb1_int, tb1_str, tb1_tuple, tb1_list, tb1_Tree, tb2_NoneType, tb2_bool, tb2_int, tb2_str, tb2_tuple, tb2_list, tb2_Tree, tb3_NoneType, tb3_bool, tb3_int, tb3_str, tb3_tuple, tb3_list, tb3_Tree, tb4_NoneType, tb4_bool, tb4_int, tb4_str, tb4_tuple, tb4_list, tb4_Tree, tb5_NoneType, tb5_bool, tb5_int, tb5_str, tb5_tuple, tb5_list, tb5_Tree, tb6_NoneType, tb6_bool, tb6_int, tb6_str, tb6_tuple, tb6_list, tb6_Tree]
  refine trng1_of (by decide) (by decide) ?_
  simp only [↓kn_q, ↓kn_e, ↓kq_q, ↓kp_p, ↓ps_nx, ↓ps_rt, ↓ps_bk, ↓ps_ct, ↓ps_ex, ↓tkV_val, ↓tkV_own, ↓tkVR_val, ↓tkVR_own, ↓tkO_own, ↓tkA_val, ↓tkB_bl, ↓tkI_int, ↓tkStr_str, ↓tkC_obj, ↓tkSm_some, ↓tkSm_map, ↓tkSm_bind, ↓tkSm_ite, ↓tkP_t, ↓tkIf_t, ↓tkIf_f, ↓tkT_t, ↓tk_ok, ↓tk_exc, ↓tk_bind, ↓tk_lift, ↓tks_nx, ↓tks_rt, ↓tks_eS, ↓tks_seq, ↓tks_next, ↓tks_brk, ↓tks_cnt, ↓tks_drop, ↓tks_ret, ↓tks_retN, ↓tks_if, ↓tks_frz, ↓tks_set, ↓tks_setO, ↓tks_par, ↓tks_mut, ↓tks_app, ↓tks_store, ↓tks_fld, ↓tks_aug, ↓tks_for, ↓tks_for0, ↓tk_var, ↓tk_varR, ↓tk_c, ↓tk_bin, ↓tk_test, ↓tk_tnot, ↓tk_yes, ↓tk_tand, ↓tk_tor, ↓tk_call, ↓tk_fn, ↓tk_mkF, ↓tk_nil, ↓tk_cons, ↓tk_attr, ↓tk_meth, ↓tk_xif, ↓tk_seqI, ↓tk_enum, ↓tk_rng1, ↓tk_rng2, ↓tk_loc, ↓tk_lc, ↓tk_neg, ↓tk_no, ↓tk_part, ↓tk_sl, ↓tk_xsNil, ↓tk_xsV, ↓tk_xsO, ↓tk_xnot, ↓tk_xand, ↓tk_xor, ↓tk_lst, ↓tk_tup, ↓tk_sz, ↓tk_chain, ↓tk_s1, ↓tk_maxDf, ↓tk_star, List.getElem?_cons_zero, List.getElem?_cons_succ, List.set_cons_zero, List.set_cons_succ, List.map_cons, List.map_nil, List.cons_append, List.nil_append, List.append_assoc, tkJ_own, frzG, putS, wipeG, pVar, pTup, psCons, psNil, atD, ixD_lst, ixD_tup, ixD_scr, at_0, at_1, at_2, at_3, at_4, at_5, at_6, at_7, lenD, intC, absC, max2C, min2C, addD, intD, cmpD, yesC, slD, seqD, enumD, stD, sumC, allC, anyC, tupC, maxC, Option.bind_some, Option.map_some, List.lookup_cons, List.lookup_nil, List.length_cons, List.length_nil, Bool.not_true, Bool.not_false, Bool.and_self, Bool.true_and, Bool.and_true, Bool.false_and, Bool.and_false, Bool.or_true, Bool.true_or, Bool.false_or, Bool.or_false, reduceIte, decide_true, decide_false, if_true, if_false, List.replicate_succ, List.replicate_zero, Nat.reduceAdd, Nat.reduceSub, Nat.zero_add, List.mem_cons, List.not_mem_nil, or_false, false_or, not_false_eq_true, reduceCtorEq, ne_eq, and_self, and_true, true_and, Nat.reduceLT, Nat.reduceLeDiff, beq_self_eq_true, Nat.reduceEqDiff, Nat.add_one_ne_zero, modC, divC, mulC, powC, Int.reduceLT, Int.reduceLE, Int.reduceNeg, Int.reducePow, Int.reduceToNat, Int.reduceEq, Nat.reducePow, Int.zero_add, eqL, eqD, eqB, neD, isD, sz_0, sz_1, sz_2, sz_3, sz_4, sz_5, sz_6, sz_7, sz_8, sz_9, sz_10, sz_11, sz_12, sz_13, sz_14, sz_15, sz_16, sz_17, sz_18, sz_19, sz_20, sz_21, sz_22, sz_23, sz_24, sz_25, sz_26, sz_27, sz_28, sz_29, sz_30, nc_0, nc_1, nc_2, nc_3, nc_4, nc_5, nc_6, nc_7, nc_8, nc_9, nc_10, nc_11, nc_12, nc_13, nc_14, nc_15, nc_16, nc_17, nc_18, nc_19, nc_20, nc_21, nc_22, nc_23, nc_24, nc_25, nc_26, nc_27, nc_28, nc_29, nc_30, isiT, isiK, isiC, isiM, tyNames, tagD, tb0_NoneType, tb0_bool, tb0_int, tb0_str, tb0_tuple, tb0_list, tb0_Tree, tb1_NoneType, tb1_bool, tb1_int, tb1_str, tb1_tuple, tb1_list, tb1_Tree, tb2_NoneType, tb2_bool, tb2_int, tb2_str, tb2_tuple, tb2_list, tb2_Tree, tb3_NoneType, tb3_bool, tb3_int, tb3_str, tb3_tuple, tb3_list, tb3_Tree, tb4_NoneType, tb4_bool, tb4_int, tb4_str, tb4_tuple, tb4_list, tb4_Tree, tb5_NoneType, tb5_bool, tb5_int, tb5_str, tb5_tuple, tb5_list, tb5_Tree, tb6_NoneType, tb6_bool, tb6_int, tb6_str, tb6_tuple, tb6_list, tb6_Tree]
  refine tkT_of (by decide +kernel) ?_
  simp only [↓kn_q, ↓kn_e, ↓kq_q, ↓kp_p, ↓ps_nx, ↓ps_rt, ↓ps_bk, ↓ps_ct, ↓ps_ex, ↓tkV_val, ↓tkV_own, ↓tkVR_val, ↓tkVR_own, ↓tkO_own, ↓tkA_val, ↓tkB_bl, ↓tkI_int, ↓tkStr_str, ↓tkC_obj, ↓tkSm_some, ↓tkSm_map, ↓tkSm_bind, ↓tkSm_ite, ↓tkP_t, ↓tkIf_t, ↓tkIf_f, ↓tkT_t, ↓tk_ok, ↓tk_exc, ↓tk_bind, ↓tk_lift, ↓tks_nx, ↓tks_rt, ↓tks_eS, ↓tks_seq, ↓tks_next, ↓tks_brk, ↓tks_cnt, ↓tks_drop, ↓tks_ret, ↓tks_retN, ↓tks_if, ↓tks_frz, ↓tks_set, ↓tks_setO, ↓tks_par, ↓tks_mut, ↓tks_app, ↓tks_store, ↓tks_fld, ↓tks_aug, ↓tks_for, ↓tks_for0, ↓tk_var, ↓tk_varR, ↓tk_c, ↓tk_bin, ↓tk_test, ↓tk_tnot, ↓tk_yes, ↓tk_tand, ↓tk_tor, ↓tk_call, ↓tk_fn, ↓tk_mkF, ↓tk_nil, ↓tk_cons, ↓tk_attr, ↓tk_meth, ↓tk_xif, ↓tk_seqI, ↓tk_enum, ↓tk_rng1, ↓tk_rng2, ↓tk_loc, ↓tk_lc, ↓tk_neg, ↓tk_no, ↓tk_part, ↓tk_sl, ↓tk_xsNil, ↓tk_xsV, ↓tk_xsO, ↓tk_xnot, ↓tk_xand, ↓tk_xor, ↓tk_lst, ↓tk_tup, ↓tk_sz, ↓tk_chain, ↓tk_s1, ↓tk_maxDf, ↓tk_star, List.getElem?_cons_zero, List.getElem?_cons_succ, List.set_cons_zero, List.set_cons_succ, List.map_cons, List.map_nil, List.cons_append, List.nil_append, List.append_assoc, tkJ_own, frzG, putS, wipeG, pVar, pTup, psCons, psNil, atD, ixD_lst, ixD_tup, ixD_scr, at_0, at_1, at_2, at_3, at_4, at_5, at_6, at_7, lenD, intC, absC, max2C, min2C, addD, intD, cmpD, yesC, slD, seqD, enumD, stD, sumC, allC, anyC, tupC, maxC, Option.bind_some, Option.map_some, List.lookup_cons, List.lookup_nil, List.length_cons, List.length_nil, Bool.not_true, Bool.not_false, Bool.and_self, Bool.true_and, Bool.and_true, Bool.false_and, Bool.and_false, Bool.or_true, Bool.true_or, Bool.false_or, Bool.or_false, reduceIte, decide_true, decide_false, if_true, if_false, List.replicate_succ, List.replicate_zero, Nat.reduceAdd, Nat.reduceSub, Nat.zero_add, List.mem_cons, List.not_mem_nil, or_false, false_or, not_false_eq_true, reduceCtorEq, ne_eq, and_self, and_true, true_and, Nat.reduceLT, Nat.reduceLeDiff, beq_self_eq_true, Nat.reduceEqDiff, Nat.add_one_ne_zero, modC, divC, mulC, powC, Int.reduceLT, Int.reduceLE, Int.reduceNeg, Int.reducePow, Int.reduceToNat, Int.reduceEq, Nat.reducePow, Int.zero_add, eqL, eqD, eqB, neD, isD, sz_0, sz_1, sz_2, sz_3, sz_4, sz_5, sz_6, sz_7, sz_8, sz_9, sz_10, sz_11, sz_12, sz_13, sz_14, sz_15, sz_16, sz_17, sz_18, sz_19, sz_20, sz_21, sz_22, sz_23, sz_24, sz_25, sz_26, sz_27, sz_28, sz_29, sz_30, nc_0, nc_1, nc_2, nc_3, nc_4, nc_5, nc_6, nc_7, nc_8, nc_9, nc_10, nc_11, nc_12, nc_13, nc_14, nc_15, nc_16, nc_17, nc_18, nc_19, nc_20, nc_21, nc_22, nc_23, nc_24, nc_25, nc_26, nc_27, nc_28, nc_29, nc_30, isiT, isiK, isiC, isiM, tyNames, tagD, tb0_NoneType, tb0_bool, tb0_int, tb0_str, tb0_tuple, tb0_list, tb0_Tree, tb1_NoneType, tb1_bool, tb1_int, tb1_str, tb1_tuple, tb1_list, tb1_Tree, tb2_NoneType, tb2_bool, tb2_int, tb2_str, tb2_tuple, tb2_list, tb2_Tree, tb3_NoneType, tb3_bool, tb3_int, tb3_str, tb3_tuple, tb3_list, tb3_Tree, tb4_NoneType, tb4_bool, tb4_int, tb4_str, tb4_tuple, tb4_list, tb4_Tree, tb5_NoneType, tb5_bool, tb5_int, tb5_str, tb5_tuple, tb5_list, tb5_Tree, tb6_NoneType, tb6_bool, tb6_int, tb6_str, tb6_tuple, tb6_list, tb6_Tree]
  have hAl : A.length = A.cps.size := rfl
  refine tlc_st (fun s => Bg s n) (fun _ y => P1 A y) h2 (fun d hd s hs => ?_) fun ys s3 h3 a3 => ?_
  · unfold e_zlawznames_1
    simp only [↓kn_q, ↓kn_e, ↓kq_q, ↓kp_p, ↓ps_nx, ↓ps_rt, ↓ps_bk, ↓ps_ct, ↓ps_ex, ↓tkV_val, ↓tkV_own, ↓tkVR_val, ↓tkVR_own, ↓tkO_own, ↓tkA_val, ↓tkB_bl, ↓tkI_int, ↓tkStr_str, ↓tkC_obj, ↓tkSm_some, ↓tkSm_map, ↓tkSm_bind, ↓tkSm_ite, ↓tkP_t, ↓tkIf_t, ↓tkIf_f, ↓tkT_t, ↓tk_ok, ↓tk_exc, ↓tk_bind, ↓tk_lift, ↓tks_nx, ↓tks_rt, ↓tks_eS, ↓tks_seq, ↓tks_next, ↓tks_brk, ↓tks_cnt, ↓tks_drop, ↓tks_ret, ↓tks_retN, ↓tks_if, ↓tks_frz, ↓tks_set, ↓tks_setO, ↓tks_par, ↓tks_mut, ↓tks_app, ↓tks_store, ↓tks_fld, ↓tks_aug, ↓tks_for, ↓tks_for0, ↓tk_var, ↓tk_varR, ↓tk_c, ↓tk_bin, ↓tk_test, ↓tk_tnot, ↓tk_yes, ↓tk_tand, ↓tk_tor, ↓tk_call, ↓tk_fn, ↓tk_mkF, ↓tk_nil, ↓tk_cons, ↓tk_attr, ↓tk_meth, ↓tk_xif, ↓tk_seqI, ↓tk_enum, ↓tk_rng1, ↓tk_rng2, ↓tk_loc, ↓tk_lc, ↓tk_neg, ↓tk_no, ↓tk_part, ↓tk_sl, ↓tk_xsNil, ↓tk_xsV, ↓tk_xsO, ↓tk_xnot, ↓tk_xand, ↓tk_xor, ↓tk_lst, ↓tk_tup, ↓tk_sz, ↓tk_chain, ↓tk_s1, ↓tk_maxDf, ↓tk_star, List.getElem?_cons_zero, List.getElem?_cons_succ, List.set_cons_zero, List.set_cons_succ, List.map_cons, List.map_nil, List.cons_append, List.nil_append, List.append_assoc, tkJ_own, frzG, putS, wipeG, pVar, pTup, psCons, psNil, atD, ixD_lst, ixD_tup, ixD_scr, at_0, at_1, at_2, at_3, at_4, at_5, at_6, at_7, lenD, intC, absC, max2C, min2C, addD, intD, cmpD, yesC, slD, seqD, enumD, stD, sumC, allC, anyC, tupC, maxC, Option.bind_some, Option.map_some, List.lookup_cons, List.lookup_nil, List.length_cons, List.length_nil, Bool.not_true, Bool.not_false, Bool.and_self, Bool.true_and, Bool.and_true, Bool.false_and, Bool.and_false, Bool.or_true, Bool.true_or, Bool.false_or, Bool.or_false, reduceIte, decide_true, decide_false, if_true, if_false, List.replicate_succ, List.replicate_zero, Nat.reduceAdd, Nat.reduceSub, Nat.zero_add, List.mem_cons, List.not_mem_nil, or_false, false_or, not_false_eq_true, reduceCtorEq, ne_eq, and_self, and_true, true_and, Nat.reduceLT, Nat.reduceLeDiff, beq_self_eq_true, Nat.reduceEqDiff, Nat.add_one_ne_zero, modC, divC, mulC, powC, Int.reduceLT, Int.reduceLE, Int.reduceNeg, Int.reducePow, Int.reduceToNat, Int.reduceEq, Nat.reducePow, Int.zero_add, eqL, eqD, eqB, neD, isD, sz_0, sz_1, sz_2, sz_3, sz_4, sz_5, sz_6, sz_7, sz_8, sz_9, sz_10, sz_11, sz_12, sz_13, sz_14, sz_15, sz_16, sz_17, sz_18, sz_19, sz_20, sz_21, sz_22, sz_23, sz_24, sz_25, sz_26, sz_27, sz_28, sz_29, sz_30, nc_0, nc_1, nc_2, nc_3, nc_4, nc_5, nc_6, nc_7, nc_8, nc_9, nc_10, nc_11, nc_12, nc_13, nc_14, nc_15, nc_16, nc_17, nc_18, nc_19, nc_20, nc_21, nc_22, nc_23, nc_24, nc_25, nc_26, nc_27, nc_28, nc_29, nc_30, isiT, isiK, isiC, isiM, tyNames, tagD, tb0_NoneType, tb0_bool, tb0_int, tb0_str, tb0_tuple, tb0_list, tb0_Tree, tb1_NoneType, tb1_bool, tb1_int, tb1_str, tb1_tuple, tb1_list, tb1_Tree, tb2_NoneType, tb2_bool, tb2_int, tb2_str, tb2_tuple, tb2_list, tb2_Tree, tb3_NoneType, tb3_bool, tb3_int, tb3_str, tb3_tuple, tb3_list, tb3_Tree, tb4_NoneType, tb4_bool, tb4_int, tb4_str, tb4_tuple, tb4_list, tb4_Tree, tb5_NoneType, tb5_bool, tb5_int, tb5_str, tb5_tuple, tb5_list, tb5_Tree, tb6_NoneType, tb6_bool, tb6_int, tb6_str, tb6_tuple, tb6_list, tb6_Tree]
    refine tkP_of (sz_of (by omega)) ?_
    simp only [↓kn_q, ↓kn_e, ↓kq_q, ↓kp_p, ↓ps_nx, ↓ps_rt, ↓ps_bk, ↓ps_ct, ↓ps_ex, ↓tkV_val, ↓tkV_own, ↓tkVR_val, ↓tkVR_own, ↓tkO_own, ↓tkA_val, ↓tkB_bl, ↓tkI_int, ↓tkStr_str, ↓tkC_obj, ↓tkSm_some, ↓tkSm_map, ↓tkSm_bind, ↓tkSm_ite, ↓tkP_t, ↓tkIf_t, ↓tkIf_f, ↓tkT_t, ↓tk_ok, ↓tk_exc, ↓tk_bind, ↓tk_lift, ↓tks_nx, ↓tks_rt, ↓tks_eS, ↓tks_seq, ↓tks_next, ↓tks_brk, ↓tks_cnt, ↓tks_drop, ↓tks_ret, ↓tks_retN, ↓tks_if, ↓tks_frz, ↓tks_set, ↓tks_setO, ↓tks_par, ↓tks_mut, ↓tks_app, ↓tks_store, ↓tks_fld, ↓tks_aug, ↓tks_for, ↓tks_for0, ↓tk_var, ↓tk_varR, ↓tk_c, ↓tk_bin, ↓tk_test, ↓tk_tnot, ↓tk_yes, ↓tk_tand, ↓tk_tor, ↓tk_call, ↓tk_fn, ↓tk_mkF, ↓tk_nil, ↓tk_cons, ↓tk_attr, ↓tk_meth, ↓tk_xif, ↓tk_seqI, ↓tk_enum, ↓tk_rng1, ↓tk_rng2, ↓tk_loc, ↓tk_lc, ↓tk_neg, ↓tk_no, ↓tk_part, ↓tk_sl, ↓tk_xsNil, ↓tk_xsV, ↓tk_xsO, ↓tk_xnot, ↓tk_xand, ↓tk_xor, ↓tk_lst, ↓tk_tup, ↓tk_sz, ↓tk_chain, ↓tk_s1, ↓tk_maxDf, ↓tk_star, List.getElem?_cons_zero, List.getElem?_cons_succ, List.set_cons_zero, List.set_cons_succ, List.map_cons, List.map_nil, List.cons_append, List.nil_append, List.append_assoc, tkJ_own, frzG, putS, wipeG, pVar, pTup, psCons, psNil, atD, ixD_lst, ixD_tup, ixD_scr, at_0, at_1, at_2, at_3, at_4, at_5, at_6, at_7, lenD, intC, absC, max2C, min2C, addD, intD, cmpD, yesC, slD, seqD, enumD, stD, sumC, allC, anyC, tupC, maxC, Option.bind_some, Option.map_some, List.lookup_cons, List.lookup_nil, List.length_cons, List.length_nil, Bool.not_true, Bool.not_false, Bool.and_self, Bool.true_and, Bool.and_true, Bool.false_and, Bool.and_false, Bool.or_true, Bool.true_or, Bool.false_or, Bool.or_false, reduceIte, decide_true, decide_false, if_true, if_false, List.replicate_succ, List.replicate_zero, Nat.reduceAdd, Nat.reduceSub, Nat.zero_add, List.mem_cons, List.not_mem_nil, or_false, false_or, not_false_eq_true, reduceCtorEq, ne_eq, and_self, and_true, true_and, Nat.reduceLT, Nat.reduceLeDiff, beq_self_eq_true, Nat.reduceEqDiff, Nat.add_one_ne_zero, modC, divC, mulC, powC, Int.reduceLT, Int.reduceLE, Int.reduceNeg, Int.reducePow, Int.reduceToNat, Int.reduceEq, Nat.reducePow, Int.zero_add, eqL, eqD, eqB, neD, isD, sz_0, sz_1, sz_2, sz_3, sz_4, sz_5, sz_6, sz_7, sz_8, sz_9, sz_10, sz_11, sz_12, sz_13, sz_14, sz_15, sz_16, sz_17, sz_18, sz_19, sz_20, sz_21, sz_22, sz_23, sz_24, sz_25, sz_26, sz_27, sz_28, sz_29, sz_30, nc_0, nc_1, nc_2, nc_3, nc_4, nc_5, nc_6, nc_7, nc_8, nc_9, nc_10, nc_11, nc_12, nc_13, nc_14, nc_15, nc_16, nc_17, nc_18, nc_19, nc_20, nc_21, nc_22, nc_23, nc_24, nc_25, nc_26, nc_27, nc_28, nc_29, nc_30, isiT, isiK, isiC, isiM, tyNames, tagD, tb0_NoneType, tb0_bool, tb0_int, tb0_str, tb0_tuple, tb0_list, tb0_Tree, tb1_NoneType, tb1_bool, tb1_int, tb1_str, tb1_tuple, tb1_list, tb1_Tree, tb2_NoneType, tb2_bool, tb2_int, tb2_str, tb2_tuple, tb2_list, tb2_Tree, tb3_NoneType, tb3_bool, tb3_int, tb3_str, tb3_tuple, tb3_list, tb3_Tree, tb4_NoneType, tb4_bool, tb4_int, tb4_str, tb4_tuple, tb4_list, tb4_Tree, tb5_NoneType, tb5_bool, tb5_int, tb5_str, tb5_tuple, tb5_list, tb5_Tree, tb6_NoneType, tb6_bool, tb6_int, tb6_str, tb6_tuple, tb6_list, tb6_Tree]
    refine take_spec hs (by omega) (by omega) fun d s1 d0 d1 h1 => ?_
    simp only [↓kn_q, ↓kn_e, ↓kq_q, ↓kp_p, ↓ps_nx, ↓ps_rt, ↓ps_bk, ↓ps_ct, ↓ps_ex, ↓tkV_val, ↓tkV_own, ↓tkVR_val, ↓tkVR_own, ↓tkO_own, ↓tkA_val, ↓tkB_bl, ↓tkI_int, ↓tkStr_str, ↓tkC_obj, ↓tkSm_some, ↓tkSm_map, ↓tkSm_bind, ↓tkSm_ite, ↓tkP_t, ↓tkIf_t, ↓tkIf_f, ↓tkT_t, ↓tk_ok, ↓tk_exc, ↓tk_bind, ↓tk_lift, ↓tks_nx, ↓tks_rt, ↓tks_eS, ↓tks_seq, ↓tks_next, ↓tks_brk, ↓tks_cnt, ↓tks_drop, ↓tks_ret, ↓tks_retN, ↓tks_if, ↓tks_frz, ↓tks_set, ↓tks_setO, ↓tks_par, ↓tks_mut, ↓tks_app, ↓tks_store, ↓tks_fld, ↓tks_aug, ↓tks_for, ↓tks_for0, ↓tk_var, ↓tk_varR, ↓tk_c, ↓tk_bin, ↓tk_test, ↓tk_tnot, ↓tk_yes, ↓tk_tand, ↓tk_tor, ↓tk_call, ↓tk_fn, ↓tk_mkF, ↓tk_nil, ↓tk_cons, ↓tk_attr, ↓tk_meth, ↓tk_xif, ↓tk_seqI, ↓tk_enum, ↓tk_rng1, ↓tk_rng2, ↓tk_loc, ↓tk_lc, ↓tk_neg, ↓tk_no, ↓tk_part, ↓tk_sl, ↓tk_xsNil, ↓tk_xsV, ↓tk_xsO, ↓tk_xnot, ↓tk_xand, ↓tk_xor, ↓tk_lst, ↓tk_tup, ↓tk_sz, ↓tk_chain, ↓tk_s1, ↓tk_maxDf, ↓tk_star, List.getElem?_cons_zero, List.getElem?_cons_succ, List.set_cons_zero, List.set_cons_succ, List.map_cons, List.map_nil, List.cons_append, List.nil_append, List.append_assoc, tkJ_own, frzG, putS, wipeG, pVar, pTup, psCons, psNil, atD, ixD_lst, ixD_tup, ixD_scr, at_0, at_1, at_2, at_3, at_4, at_5, at_6, at_7, lenD, intC, absC, max2C, min2C, addD, intD, cmpD, yesC, slD, seqD, enumD, stD, sumC, allC, anyC, tupC, maxC, Option.bind_some, Option.map_some, List.lookup_cons, List.lookup_nil, List.length_cons, List.length_nil, Bool.not_true, Bool.not_false, Bool.and_self, Bool.true_and, Bool.and_true, Bool.false_and, Bool.and_false, Bool.or_true, Bool.true_or, Bool.false_or, Bool.or_false, reduceIte, decide_true, decide_false, if_true, if_false, List.replicate_succ, List.replicate_zero, Nat.reduceAdd, Nat.reduceSub, Nat.zero_add, List.mem_cons, List.not_mem_nil, or_false, false_or, not_false_eq_true, reduceCtorEq, ne_eq, and_self, and_true, true_and, Nat.reduceLT, Nat.reduceLeDiff, beq_self_eq_true, Nat.reduceEqDiff, Nat.add_one_ne_zero, modC, divC, mulC, powC, Int.reduceLT, Int.reduceLE, Int.reduceNeg, Int.reducePow, Int.reduceToNat, Int.reduceEq, Nat.reducePow, Int.zero_add, eqL, eqD, eqB, neD, isD, sz_0, sz_1, sz_2, sz_3, sz_4, sz_5, sz_6, sz_7, sz_8, sz_9, sz_10, sz_11, sz_12, sz_13, sz_14, sz_15, sz_16, sz_17, sz_18, sz_19, sz_20, sz_21, sz_22, sz_23, sz_24, sz_25, sz_26, sz_27, sz_28, sz_29, sz_30, nc_0, nc_1, nc_2, nc_3, nc_4, nc_5, nc_6, nc_7, nc_8, nc_9, nc_10, nc_11, nc_12, nc_13, nc_14, nc_15, nc_16, nc_17, nc_18, nc_19, nc_20, nc_21, nc_22, nc_23, nc_24, nc_25, nc_26, nc_27, nc_28, nc_29, nc_30, isiT, isiK, isiC, isiM, tyNames, tagD, tb0_NoneType, tb0_bool, tb0_int, tb0_str, tb0_tuple, tb0_list, tb0_Tree, tb1_NoneType, tb1_bool, tb1_int, tb1_str, tb1_tuple, tb1_list, tb1_Tree, tb2_NoneType, tb2_bool, tb2_int, tb2_str, tb2_tuple, tb2_list, tb2_Tree, tb3_NoneType, tb3_bool, tb3_int, tb3_str, tb3_tuple, tb3_list, tb3_Tree, tb4_NoneType, tb4_bool, tb4_int, tb4_str, tb4_tuple, tb4_list, tb4_Tree, tb5_NoneType, tb5_bool, tb5_int, tb5_str, tb5_tuple, tb5_list, tb5_Tree, tb6_NoneType, tb6_bool, tb6_int, tb6_str, tb6_tuple, tb6_list, tb6_Tree]
    refine tk_sign d0 (by omega) (by omega) fun c hc => ?_
    simp only [↓kn_q, ↓kn_e, ↓kq_q, ↓kp_p, ↓ps_nx, ↓ps_rt, ↓ps_bk, ↓ps_ct, ↓ps_ex, ↓tkV_val, ↓tkV_own, ↓tkVR_val, ↓tkVR_own, ↓tkO_own, ↓tkA_val, ↓tkB_bl, ↓tkI_int, ↓tkStr_str, ↓tkC_obj, ↓tkSm_some, ↓tkSm_map, ↓tkSm_bind, ↓tkSm_ite, ↓tkP_t, ↓tkIf_t, ↓tkIf_f, ↓tkT_t, ↓tk_ok, ↓tk_exc, ↓tk_bind, ↓tk_lift, ↓tks_nx, ↓tks_rt, ↓tks_eS, ↓tks_seq, ↓tks_next, ↓tks_brk, ↓tks_cnt, ↓tks_drop, ↓tks_ret, ↓tks_retN, ↓tks_if, ↓tks_frz, ↓tks_set, ↓tks_setO, ↓tks_par, ↓tks_mut, ↓tks_app, ↓tks_store, ↓tks_fld, ↓tks_aug, ↓tks_for, ↓tks_for0, ↓tk_var, ↓tk_varR, ↓tk_c, ↓tk_bin, ↓tk_test, ↓tk_tnot, ↓tk_yes, ↓tk_tand, ↓tk_tor, ↓tk_call, ↓tk_fn, ↓tk_mkF, ↓tk_nil, ↓tk_cons, ↓tk_attr, ↓tk_meth, ↓tk_xif, ↓tk_seqI, ↓tk_enum, ↓tk_rng1, ↓tk_rng2, ↓tk_loc, ↓tk_lc, ↓tk_neg, ↓tk_no, ↓tk_part, ↓tk_sl, ↓tk_xsNil, ↓tk_xsV, ↓tk_xsO, ↓tk_xnot, ↓tk_xand, ↓tk_xor, ↓tk_lst, ↓tk_tup, ↓tk_sz, ↓tk_chain, ↓tk_s1, ↓tk_maxDf, ↓tk_star, List.getElem?_cons_zero, List.getElem?_cons_succ, List.set_cons_zero, List.set_cons_succ, List.map_cons, List.map_nil, List.cons_append, List.nil_append, List.append_assoc, tkJ_own, frzG, putS, wipeG, pVar, pTup, psCons, psNil, atD, ixD_lst, ixD_tup, ixD_scr, at_0, at_1, at_2, at_3, at_4, at_5, at_6, at_7, lenD, intC, absC, max2C, min2C, addD, intD, cmpD, yesC, slD, seqD, enumD, stD, sumC, allC, anyC, tupC, maxC, Option.bind_some, Option.map_some, List.lookup_cons, List.lookup_nil, List.length_cons, List.length_nil, Bool.not_true, Bool.not_false, Bool.and_self, Bool.true_and, Bool.and_true, Bool.false_and, Bool.and_false, Bool.or_true, Bool.true_or, Bool.false_or, Bool.or_false, reduceIte, decide_true, decide_false, if_true, if_false, List.replicate_succ, List.replicate_zero, Nat.reduceAdd, Nat.reduceSub, Nat.zero_add, List.mem_cons, List.not_mem_nil, or_false, false_or, not_false_eq_true, reduceCtorEq, ne_eq, and_self, and_true, true_and, Nat.reduceLT, Nat.reduceLeDiff, beq_self_eq_true, Nat.reduceEqDiff, Nat.add_one_ne_zero, modC, divC, mulC, powC, Int.reduceLT, Int.reduceLE, Int.reduceNeg, Int.reducePow, Int.reduceToNat, Int.reduceEq, Nat.reducePow, Int.zero_add, eqL, eqD, eqB, neD, isD, sz_0, sz_1, sz_2, sz_3, sz_4, sz_5, sz_6, sz_7, sz_8, sz_9, sz_10, sz_11, sz_12, sz_13, sz_14, sz_15, sz_16, sz_17, sz_18, sz_19, sz_20, sz_21, sz_22, sz_23, sz_24, sz_25, sz_26, sz_27, sz_28, sz_29, sz_30, nc_0, nc_1, nc_2, nc_3, nc_4, nc_5, nc_6, nc_7, nc_8, nc_9, nc_10, nc_11, nc_12, nc_13, nc_14, nc_15, nc_16, nc_17, nc_18, nc_19, nc_20, nc_21, nc_22, nc_23, nc_24, nc_25, nc_26, nc_27, nc_28, nc_29, nc_30, isiT, isiK, isiC, isiM, tyNames, tagD, tb0_NoneType, tb0_bool, tb0_int, tb0_str, tb0_tuple, tb0_list, tb0_Tree, tb1_NoneType, tb1_bool, tb1_int, tb1_str, tb1_tuple, tb1_list, tb1_Tree, tb2_NoneType, tb2_bool, tb2_int, tb2_str, tb2_tuple, tb2_list, tb2_Tree, tb3_NoneType, tb3_bool, tb3_int, tb3_str, tb3_tuple, tb3_list, tb3_Tree, tb4_NoneType, tb4_bool, tb4_int, tb4_str, tb4_tuple, tb4_list, tb4_Tree, tb5_NoneType, tb5_bool, tb5_int, tb5_str, tb5_tuple, tb5_list, tb5_Tree, tb6_NoneType, tb6_bool, tb6_int, tb6_str, tb6_tuple, tb6_list, tb6_Tree]
    exact ⟨⟨c, rfl, hc⟩, h1⟩
  have hl := a3.len
  rw [rngL_len] at hl
  have hl : ys.length = 7 := hl
  obtain ⟨cs, rfl, hcs⟩ := signs_of (A := A) (ys := ys) fun y hy => by
    obtain ⟨_, _, p⟩ := a3.mem y hy
    exact p
  rw [List.length_map] at hl
  simp only [↓kn_q, ↓kn_e, ↓kq_q, ↓kp_p, ↓ps_nx, ↓ps_rt, ↓ps_bk, ↓ps_ct, ↓ps_ex, ↓tkV_val, ↓tkV_own, ↓tkVR_val, ↓tkVR_own, ↓tkO_own, ↓tkA_val, ↓tkB_bl, ↓tkI_int, ↓tkStr_str, ↓tkC_obj, ↓tkSm_some, ↓tkSm_map, ↓tkSm_bind, ↓tkSm_ite, ↓tkP_t, ↓tkIf_t, ↓tkIf_f, ↓tkT_t, ↓tk_ok, ↓tk_exc, ↓tk_bind, ↓tk_lift, ↓tks_nx, ↓tks_rt, ↓tks_eS, ↓tks_seq, ↓tks_next, ↓tks_brk, ↓tks_cnt, ↓tks_drop, ↓tks_ret, ↓tks_retN, ↓tks_if, ↓tks_frz, ↓tks_set, ↓tks_setO, ↓tks_par, ↓tks_mut, ↓tks_app, ↓tks_store, ↓tks_fld, ↓tks_aug, ↓tks_for, ↓tks_for0, ↓tk_var, ↓tk_varR, ↓tk_c, ↓tk_bin, ↓tk_test, ↓tk_tnot, ↓tk_yes, ↓tk_tand, ↓tk_tor, ↓tk_call, ↓tk_fn, ↓tk_mkF, ↓tk_nil, ↓tk_cons, ↓tk_attr, ↓tk_meth, ↓tk_xif, ↓tk_seqI, ↓tk_enum, ↓tk_rng1, ↓tk_rng2, ↓tk_loc, ↓tk_lc, ↓tk_neg, ↓tk_no, ↓tk_part, ↓tk_sl, ↓tk_xsNil, ↓tk_xsV, ↓tk_xsO, ↓tk_xnot, ↓tk_xand, ↓tk_xor, ↓tk_lst, ↓tk_tup, ↓tk_sz, ↓tk_chain, ↓tk_s1, ↓tk_maxDf, ↓tk_star, List.getElem?_cons_zero, List.getElem?_cons_succ, List.set_cons_zero, List.set_cons_succ, List.map_cons, List.map_nil, List.cons_append, List.nil_append, List.append_assoc, tkJ_own, frzG, putS, wipeG, pVar, pTup, psCons, psNil, atD, ixD_lst, ixD_tup, ixD_scr, at_0, at_1, at_2, at_3, at_4, at_5, at_6, at_7, lenD, intC, absC, max2C, min2C, addD, intD, cmpD, yesC, slD, seqD, enumD, stD, sumC, allC, anyC, tupC, maxC, Option.bind_some, Option.map_some, List.lookup_cons, List.lookup_nil, List.length_cons, List.length_nil, Bool.not_true, Bool.not_false, Bool.and_self, Bool.true_and, Bool.and_true, Bool.false_and, Bool.and_false, Bool.or_true, Bool.true_or, Bool.false_or, Bool.or_false, reduceIte, decide_true, decide_false, if_true, if_false, List.replicate_succ, List.replicate_zero, Nat.reduceAdd, Nat.reduceSub, Nat.zero_add, List.mem_cons, List.not_mem_nil, or_false, false_or, not_false_eq_true, reduceCtorEq, ne_eq, and_self, and_true, true_and, Nat.reduceLT, Nat.reduceLeDiff, beq_self_eq_true, Nat.reduceEqDiff, Nat.add_one_ne_zero, modC, divC, mulC, powC, Int.reduceLT, Int.reduceLE, Int.reduceNeg, Int.reducePow, Int.reduceToNat, Int.reduceEq, Nat.reducePow, Int.zero_add, eqL, eqD, eqB, neD, isD, sz_0, sz_1, sz_2, sz_3, sz_4, sz_5, sz_6, sz_7, sz_8, sz_9, sz_10, sz_11, sz_12, sz_13, sz_14, sz_15, sz_16, sz_17, sz_18, sz_19, sz_20, sz_21, sz_22, sz_23, sz_24, sz_25, sz_26, sz_27, sz_28, sz_29, sz_30, nc_0, nc_1, nc_2, nc_3, nc_4, nc_5, nc_6, nc_7, nc_8, nc_9, nc_10, nc_11, nc_12, nc_13, nc_14, nc_15, nc_16, nc_17, nc_18, nc_19, nc_20, nc_21, nc_22, nc_23, nc_24, nc_25, nc_26, nc_27, nc_28, nc_29, nc_30, isiT, isiK, isiC, isiM, tyNames, tagD, tb0_NoneType, tb0_bool, tb0_int, tb0_str, tb0_tuple, tb0_list, tb0_Tree, tb1_NoneType, tb1_bool, tb1_int, tb1_str, tb1_tuple, tb1_list, tb1_Tree, tb2_NoneType, tb2_bool, tb2_int, tb2_str, tb2_tuple, tb2_list, tb2_Tree, tb3_NoneType, tb3_bool, tb3_int, tb3_str, tb3_tuple, tb3_list, tb3_Tree, tb4_NoneType, tb4_bool, tb4_int, tb4_str, tb4_tuple, tb4_list, tb4_Tree, tb5_NoneType, tb5_bool, tb5_int, tb5_str, tb5_tuple, tb5_list, tb5_Tree, tb6_NoneType, tb6_bool, tb6_int, tb6_str, tb6_tuple, tb6_list, tb6_Tree]
  refine take_spec h3 (by decide) (by decide) fun d s4 d0 d1 h4 => ?_
  have hLl : (Str.ofString "abcdefghijklmnopqrstuvwxyz").cps.size = 26 := by decide +kernel
  simp only [↓kn_q, ↓kn_e, ↓kq_q, ↓kp_p, ↓ps_nx, ↓ps_rt, ↓ps_bk, ↓ps_ct, ↓ps_ex, ↓tkV_val, ↓tkV_own, ↓tkVR_val, ↓tkVR_own, ↓tkO_own, ↓tkA_val, ↓tkB_bl, ↓tkI_int, ↓tkStr_str, ↓tkC_obj, ↓tkSm_some, ↓tkSm_map, ↓tkSm_bind, ↓tkSm_ite, ↓tkP_t, ↓tkIf_t, ↓tkIf_f, ↓tkT_t, ↓tk_ok, ↓tk_exc, ↓tk_bind, ↓tk_lift, ↓tks_nx, ↓tks_rt, ↓tks_eS, ↓tks_seq, ↓tks_next, ↓tks_brk, ↓tks_cnt, ↓tks_drop, ↓tks_ret, ↓tks_retN, ↓tks_if, ↓tks_frz, ↓tks_set, ↓tks_setO, ↓tks_par, ↓tks_mut, ↓tks_app, ↓tks_store, ↓tks_fld, ↓tks_aug, ↓tks_for, ↓tks_for0, ↓tk_var, ↓tk_varR, ↓tk_c, ↓tk_bin, ↓tk_test, ↓tk_tnot, ↓tk_yes, ↓tk_tand, ↓tk_tor, ↓tk_call, ↓tk_fn, ↓tk_mkF, ↓tk_nil, ↓tk_cons, ↓tk_attr, ↓tk_meth, ↓tk_xif, ↓tk_seqI, ↓tk_enum, ↓tk_rng1, ↓tk_rng2, ↓tk_loc, ↓tk_lc, ↓tk_neg, ↓tk_no, ↓tk_part, ↓tk_sl, ↓tk_xsNil, ↓tk_xsV, ↓tk_xsO, ↓tk_xnot, ↓tk_xand, ↓tk_xor, ↓tk_lst, ↓tk_tup, ↓tk_sz, ↓tk_chain, ↓tk_s1, ↓tk_maxDf, ↓tk_star, List.getElem?_cons_zero, List.getElem?_cons_succ, List.set_cons_zero, List.set_cons_succ, List.map_cons, List.map_nil, List.cons_append, List.nil_append, List.append_assoc, tkJ_own, frzG, putS, wipeG, pVar, pTup, psCons, psNil, atD, ixD_lst, ixD_tup, ixD_scr, at_0, at_1, at_2, at_3, at_4, at_5, at_6, at_7, lenD, intC, absC, max2C, min2C, addD, intD, cmpD, yesC, slD, seqD, enumD, stD, sumC, allC, anyC, tupC, maxC, Option.bind_some, Option.map_some, List.lookup_cons, List.lookup_nil, List.length_cons, List.length_nil, Bool.not_true, Bool.not_false, Bool.and_self, Bool.true_and, Bool.and_true, Bool.false_and, Bool.and_false, Bool.or_true, Bool.true_or, Bool.false_or, Bool.or_false, reduceIte, decide_true, decide_false, if_true, if_false, List.replicate_succ, List.replicate_zero, Nat.reduceAdd, Nat.reduceSub, Nat.zero_add, List.mem_cons, List.not_mem_nil, or_false, false_or, not_false_eq_true, reduceCtorEq, ne_eq, and_self, and_true, true_and, Nat.reduceLT, Nat.reduceLeDiff, beq_self_eq_true, Nat.reduceEqDiff, Nat.add_one_ne_zero, modC, divC, mulC, powC, Int.reduceLT, Int.reduceLE, Int.reduceNeg, Int.reducePow, Int.reduceToNat, Int.reduceEq, Nat.reducePow, Int.zero_add, eqL, eqD, eqB, neD, isD, sz_0, sz_1, sz_2, sz_3, sz_4, sz_5, sz_6, sz_7, sz_8, sz_9, sz_10, sz_11, sz_12, sz_13, sz_14, sz_15, sz_16, sz_17, sz_18, sz_19, sz_20, sz_21, sz_22, sz_23, sz_24, sz_25, sz_26, sz_27, sz_28, sz_29, sz_30, nc_0, nc_1, nc_2, nc_3, nc_4, nc_5, nc_6, nc_7, nc_8, nc_9, nc_10, nc_11, nc_12, nc_13, nc_14, nc_15, nc_16, nc_17, nc_18, nc_19, nc_20, nc_21, nc_22, nc_23, nc_24, nc_25, nc_26, nc_27, nc_28, nc_29, nc_30, isiT, isiK, isiC, isiM, tyNames, tagD, tb0_NoneType, tb0_bool, tb0_int, tb0_str, tb0_tuple, tb0_list, tb0_Tree, tb1_NoneType, tb1_bool, tb1_int, tb1_str, tb1_tuple, tb1_list, tb1_Tree, tb2_NoneType, tb2_bool, tb2_int, tb2_str, tb2_tuple, tb2_list, tb2_Tree, tb3_NoneType, tb3_bool, tb3_int, tb3_str, tb3_tuple, tb3_list, tb3_Tree, tb4_NoneType, tb4_bool, tb4_int, tb4_str, tb4_tuple, tb4_list, tb4_Tree, tb5_NoneType, tb5_bool, tb5_int, tb5_str, tb5_tuple, tb5_list, tb5_Tree, tb6_NoneType, tb6_bool, tb6_int, tb6_str, tb6_tuple, tb6_list, tb6_Tree]
  refine tk_sign d0 (by omega) (by omega) fun c0 hc0 => ?_
  simp only [↓kn_q, ↓kn_e, ↓kq_q, ↓kp_p, ↓ps_nx, ↓ps_rt, ↓ps_bk, ↓ps_ct, ↓ps_ex, ↓tkV_val, ↓tkV_own, ↓tkVR_val, ↓tkVR_own, ↓tkO_own, ↓tkA_val, ↓tkB_bl, ↓tkI_int, ↓tkStr_str, ↓tkC_obj, ↓tkSm_some, ↓tkSm_map, ↓tkSm_bind, ↓tkSm_ite, ↓tkP_t, ↓tkIf_t, ↓tkIf_f, ↓tkT_t, ↓tk_ok, ↓tk_exc, ↓tk_bind, ↓tk_lift, ↓tks_nx, ↓tks_rt, ↓tks_eS, ↓tks_seq, ↓tks_next, ↓tks_brk, ↓tks_cnt, ↓tks_drop, ↓tks_ret, ↓tks_retN, ↓tks_if, ↓tks_frz, ↓tks_set, ↓tks_setO, ↓tks_par, ↓tks_mut, ↓tks_app, ↓tks_store, ↓tks_fld, ↓tks_aug, ↓tks_for, ↓tks_for0, ↓tk_var, ↓tk_varR, ↓tk_c, ↓tk_bin, ↓tk_test, ↓tk_tnot, ↓tk_yes, ↓tk_tand, ↓tk_tor, ↓tk_call, ↓tk_fn, ↓tk_mkF, ↓tk_nil, ↓tk_cons, ↓tk_attr, ↓tk_meth, ↓tk_xif, ↓tk_seqI, ↓tk_enum, ↓tk_rng1, ↓tk_rng2, ↓tk_loc, ↓tk_lc, ↓tk_neg, ↓tk_no, ↓tk_part, ↓tk_sl, ↓tk_xsNil, ↓tk_xsV, ↓tk_xsO, ↓tk_xnot, ↓tk_xand, ↓tk_xor, ↓tk_lst, ↓tk_tup, ↓tk_sz, ↓tk_chain, ↓tk_s1, ↓tk_maxDf, ↓tk_star, List.getElem?_cons_zero, List.getElem?_cons_succ, List.set_cons_zero, List.set_cons_succ, List.map_cons, List.map_nil, List.cons_append, List.nil_append, List.append_assoc, tkJ_own, frzG, putS, wipeG, pVar, pTup, psCons, psNil, atD, ixD_lst, ixD_tup, ixD_scr, at_0, at_1, at_2, at_3, at_4, at_5, at_6, at_7, lenD, intC, absC, max2C, min2C, addD, intD, cmpD, yesC, slD, seqD, enumD, stD, sumC, allC, anyC, tupC, maxC, Option.bind_some, Option.map_some, List.lookup_cons, List.lookup_nil, List.length_cons, List.length_nil, Bool.not_true, Bool.not_false, Bool.and_self, Bool.true_and, Bool.and_true, Bool.false_and, Bool.and_false, Bool.or_true, Bool.true_or, Bool.false_or, Bool.or_false, reduceIte, decide_true, decide_false, if_true, if_false, List.replicate_succ, List.replicate_zero, Nat.reduceAdd, Nat.reduceSub, Nat.zero_add, List.mem_cons, List.not_mem_nil, or_false, false_or, not_false_eq_true, reduceCtorEq, ne_eq, and_self, and_true, true_and, Nat.reduceLT, Nat.reduceLeDiff, beq_self_eq_true, Nat.reduceEqDiff, Nat.add_one_ne_zero, modC, divC, mulC, powC, Int.reduceLT, Int.reduceLE, Int.reduceNeg, Int.reducePow, Int.reduceToNat, Int.reduceEq, Nat.reducePow, Int.zero_add, eqL, eqD, eqB, neD, isD, sz_0, sz_1, sz_2, sz_3, sz_4, sz_5, sz_6, sz_7, sz_8, sz_9, sz_10, sz_11, sz_12, sz_13, sz_14, sz_15, sz_16, sz_17, sz_18, sz_19, sz_20, sz_21, sz_22, sz_23, sz_24, sz_25, sz_26, sz_27, sz_28, sz_29, sz_30, nc_0, nc_1, nc_2, nc_3, nc_4, nc_5, nc_6, nc_7, nc_8, nc_9, nc_10, nc_11, nc_12, nc_13, nc_14, nc_15, nc_16, nc_17, nc_18, nc_19, nc_20, nc_21, nc_22, nc_23, nc_24, nc_25, nc_26, nc_27, nc_28, nc_29, nc_30, isiT, isiK, isiC, isiM, tyNames, tagD, tb0_NoneType, tb0_bool, tb0_int, tb0_str, tb0_tuple, tb0_list, tb0_Tree, tb1_NoneType, tb1_bool, tb1_int, tb1_str, tb1_tuple, tb1_list, tb1_Tree, tb2_NoneType, tb2_bool, tb2_int, tb2_str, tb2_tuple, tb2_list, tb2_Tree, tb3_NoneType, tb3_bool, tb3_int, tb3_str, tb3_tuple, tb3_list, tb3_Tree, tb4_NoneType, tb4_bool, tb4_int, tb4_str, tb4_tuple, tb4_list, tb4_Tree, tb5_NoneType, tb5_bool, tb5_int, tb5_str, tb5_tuple, tb5_list, tb5_Tree, tb6_NoneType, tb6_bool, tb6_int, tb6_str, tb6_tuple, tb6_list, tb6_Tree, joinD, strs_signs]
  refine tkP_of ?_ ?_
  · simp only [List.map_map, Function.comp_def, List.length_map]
    have : ∀ l : List Nat, (l.map fun c => (⟨#[c]⟩ : Str).length).sum = l.length := by
      intro l
      induction l with
      | nil => rfl
      | cons c l ih =>
        rw [List.map_cons, List.sum_cons, ih, List.length_cons]
        have : (⟨#[c]⟩ : Str).length = 1 := rfl
        omega
    rw [this, hl]
    decide +kernel
  simp only [↓kn_q, ↓kn_e, ↓kq_q, ↓kp_p, ↓ps_nx, ↓ps_rt, ↓ps_bk, ↓ps_ct, ↓ps_ex, ↓tkV_val, ↓tkV_own, ↓tkVR_val, ↓tkVR_own, ↓tkO_own, ↓tkA_val, ↓tkB_bl, ↓tkI_int, ↓tkStr_str, ↓tkC_obj, ↓tkSm_some, ↓tkSm_map, ↓tkSm_bind, ↓tkSm_ite, ↓tkP_t, ↓tkIf_t, ↓tkIf_f, ↓tkT_t, ↓tk_ok, ↓tk_exc, ↓tk_bind, ↓tk_lift, ↓tks_nx, ↓tks_rt, ↓tks_eS, ↓tks_seq, ↓tks_next, ↓tks_brk, ↓tks_cnt, ↓tks_drop, ↓tks_ret, ↓tks_retN, ↓tks_if, ↓tks_frz, ↓tks_set, ↓tks_setO, ↓tks_par, ↓tks_mut, ↓tks_app, ↓tks_store, ↓tks_fld, ↓tks_aug, ↓tks_for, ↓tks_for0, ↓tk_var, ↓tk_varR, ↓tk_c, ↓tk_bin, ↓tk_test, ↓tk_tnot, ↓tk_yes, ↓tk_tand, ↓tk_tor, ↓tk_call, ↓tk_fn, ↓tk_mkF, ↓tk_nil, ↓tk_cons, ↓tk_attr, ↓tk_meth, ↓tk_xif, ↓tk_seqI, ↓tk_enum, ↓tk_rng1, ↓tk_rng2, ↓tk_loc, ↓tk_lc, ↓tk_neg, ↓tk_no, ↓tk_part, ↓tk_sl, ↓tk_xsNil, ↓tk_xsV, ↓tk_xsO, ↓tk_xnot, ↓tk_xand, ↓tk_xor, ↓tk_lst, ↓tk_tup, ↓tk_sz, ↓tk_chain, ↓tk_s1, ↓tk_maxDf, ↓tk_star, List.getElem?_cons_zero, List.getElem?_cons_succ, List.set_cons_zero, List.set_cons_succ, List.map_cons, List.map_nil, List.cons_append, List.nil_append, List.append_assoc, tkJ_own, frzG, putS, wipeG, pVar, pTup, psCons, psNil, atD, ixD_lst, ixD_tup, ixD_scr, at_0, at_1, at_2, at_3, at_4, at_5, at_6, at_7, lenD, intC, absC, max2C, min2C, addD, intD, cmpD, yesC, slD, seqD, enumD, stD, sumC, allC, anyC, tupC, maxC, Option.bind_some, Option.map_some, List.lookup_cons, List.lookup_nil, List.length_cons, List.length_nil, Bool.not_true, Bool.not_false, Bool.and_self, Bool.true_and, Bool.and_true, Bool.false_and, Bool.and_false, Bool.or_true, Bool.true_or, Bool.false_or, Bool.or_false, reduceIte, decide_true, decide_false, if_true, if_false, List.replicate_succ, List.replicate_zero, Nat.reduceAdd, Nat.reduceSub, Nat.zero_add, List.mem_cons, List.not_mem_nil, or_false, false_or, not_false_eq_true, reduceCtorEq, ne_eq, and_self, and_true, true_and, Nat.reduceLT, Nat.reduceLeDiff, beq_self_eq_true, Nat.reduceEqDiff, Nat.add_one_ne_zero, modC, divC, mulC, powC, Int.reduceLT, Int.reduceLE, Int.reduceNeg, Int.reducePow, Int.reduceToNat, Int.reduceEq, Nat.reducePow, Int.zero_add, eqL, eqD, eqB, neD, isD, sz_0, sz_1, sz_2, sz_3, sz_4, sz_5, sz_6, sz_7, sz_8, sz_9, sz_10, sz_11, sz_12, sz_13, sz_14, sz_15, sz_16, sz_17, sz_18, sz_19, sz_20, sz_21, sz_22, sz_23, sz_24, sz_25, sz_26, sz_27, sz_28, sz_29, sz_30, nc_0, nc_1, nc_2, nc_3, nc_4, nc_5, nc_6, nc_7, nc_8, nc_9, nc_10, nc_11, nc_12, nc_13, nc_14, nc_15, nc_16, nc_17, nc_18, nc_19, nc_20, nc_21, nc_22, nc_23, nc_24, nc_25, nc_26, nc_27, nc_28, nc_29, nc_30, isiT, isiK, isiC, isiM, tyNames, tagD, tb0_NoneType, tb0_bool, tb0_int, tb0_str, tb0_tuple, tb0_list, tb0_Tree, tb1_NoneType, tb1_bool, tb1_int, tb1_str, tb1_tuple, tb1_list, tb1_Tree, tb2_NoneType, tb2_bool, tb2_int, tb2_str, tb2_tuple, tb2_list, tb2_Tree, tb3_NoneType, tb3_bool, tb3_int, tb3_str, tb3_tuple, tb3_list, tb3_Tree, tb4_NoneType, tb4_bool, tb4_int, tb4_str, tb4_tuple, tb4_list, tb4_Tree, tb5_NoneType, tb5_bool, tb5_int, tb5_str, tb5_tuple, tb5_list, tb5_Tree, tb6_NoneType, tb6_bool, tb6_int, tb6_str, tb6_tuple, tb6_list, tb6_Tree]
  have hB : ((⟨#[c0]⟩ : Str) ++ Txt.join (Str.ofString "") (cs.map fun c => (⟨#[c]⟩ : Str))).cps.toList = c0 :: cs := by
    rw [PyProof.Rows.cps_toList_append, TL.join_eq]
    have := TL.tl_join (Str.ofString "") (cs.map fun c => (⟨#[c]⟩ : Str))
    unfold TL.tl at this
    rw [this, List.map_map]
    exact congrArg (c0 :: ·) (join_signs cs)
  have e8 : (⟨#[c0]⟩ : Str).length + (Txt.join (Str.ofString "") (cs.map fun c => (⟨#[c]⟩ : Str))).length = 8 := by
    have := congrArg List.length hB
    rw [Array.length_toList, List.length_cons, hl] at this
    exact (Array.size_append ..).symm.trans this
  refine tkP_of (by rw [e8]; rfl) ?_
  clear e8
  simp only [↓kn_q, ↓kn_e, ↓kq_q, ↓kp_p, ↓ps_nx, ↓ps_rt, ↓ps_bk, ↓ps_ct, ↓ps_ex, ↓tkV_val, ↓tkV_own, ↓tkVR_val, ↓tkVR_own, ↓tkO_own, ↓tkA_val, ↓tkB_bl, ↓tkI_int, ↓tkStr_str, ↓tkC_obj, ↓tkSm_some, ↓tkSm_map, ↓tkSm_bind, ↓tkSm_ite, ↓tkP_t, ↓tkIf_t, ↓tkIf_f, ↓tkT_t, ↓tk_ok, ↓tk_exc, ↓tk_bind, ↓tk_lift, ↓tks_nx, ↓tks_rt, ↓tks_eS, ↓tks_seq, ↓tks_next, ↓tks_brk, ↓tks_cnt, ↓tks_drop, ↓tks_ret, ↓tks_retN, ↓tks_if, ↓tks_frz, ↓tks_set, ↓tks_setO, ↓tks_par, ↓tks_mut, ↓tks_app, ↓tks_store, ↓tks_fld, ↓tks_aug, ↓tks_for, ↓tks_for0, ↓tk_var, ↓tk_varR, ↓tk_c, ↓tk_bin, ↓tk_test, ↓tk_tnot, ↓tk_yes, ↓tk_tand, ↓tk_tor, ↓tk_call, ↓tk_fn, ↓tk_mkF, ↓tk_nil, ↓tk_cons, ↓tk_attr, ↓tk_meth, ↓tk_xif, ↓tk_seqI, ↓tk_enum, ↓tk_rng1, ↓tk_rng2, ↓tk_loc, ↓tk_lc, ↓tk_neg, ↓tk_no, ↓tk_part, ↓tk_sl, ↓tk_xsNil, ↓tk_xsV, ↓tk_xsO, ↓tk_xnot, ↓tk_xand, ↓tk_xor, ↓tk_lst, ↓tk_tup, ↓tk_sz, ↓tk_chain, ↓tk_s1, ↓tk_maxDf, ↓tk_star, List.getElem?_cons_zero, List.getElem?_cons_succ, List.set_cons_zero, List.set_cons_succ, List.map_cons, List.map_nil, List.cons_append, List.nil_append, List.append_assoc, tkJ_own, frzG, putS, wipeG, pVar, pTup, psCons, psNil, atD, ixD_lst, ixD_tup, ixD_scr, at_0, at_1, at_2, at_3, at_4, at_5, at_6, at_7, lenD, intC, absC, max2C, min2C, addD, intD, cmpD, yesC, slD, seqD, enumD, stD, sumC, allC, anyC, tupC, maxC, Option.bind_some, Option.map_some, List.lookup_cons, List.lookup_nil, List.length_cons, List.length_nil, Bool.not_true, Bool.not_false, Bool.and_self, Bool.true_and, Bool.and_true, Bool.false_and, Bool.and_false, Bool.or_true, Bool.true_or, Bool.false_or, Bool.or_false, reduceIte, decide_true, decide_false, if_true, if_false, List.replicate_succ, List.replicate_zero, Nat.reduceAdd, Nat.reduceSub, Nat.zero_add, List.mem_cons, List.not_mem_nil, or_false, false_or, not_false_eq_true, reduceCtorEq, ne_eq, and_self, and_true, true_and, Nat.reduceLT, Nat.reduceLeDiff, beq_self_eq_true, Nat.reduceEqDiff, Nat.add_one_ne_zero, modC, divC, mulC, powC, Int.reduceLT, Int.reduceLE, Int.reduceNeg, Int.reducePow, Int.reduceToNat, Int.reduceEq, Nat.reducePow, Int.zero_add, eqL, eqD, eqB, neD, isD, sz_0, sz_1, sz_2, sz_3, sz_4, sz_5, sz_6, sz_7, sz_8, sz_9, sz_10, sz_11, sz_12, sz_13, sz_14, sz_15, sz_16, sz_17, sz_18, sz_19, sz_20, sz_21, sz_22, sz_23, sz_24, sz_25, sz_26, sz_27, sz_28, sz_29, sz_30, nc_0, nc_1, nc_2, nc_3, nc_4, nc_5, nc_6, nc_7, nc_8, nc_9, nc_10, nc_11, nc_12, nc_13, nc_14, nc_15, nc_16, nc_17, nc_18, nc_19, nc_20, nc_21, nc_22, nc_23, nc_24, nc_25, nc_26, nc_27, nc_28, nc_29, nc_30, isiT, isiK, isiC, isiM, tyNames, tagD, tb0_NoneType, tb0_bool, tb0_int, tb0_str, tb0_tuple, tb0_list, tb0_Tree, tb1_NoneType, tb1_bool, tb1_int, tb1_str, tb1_tuple, tb1_list, tb1_Tree, tb2_NoneType, tb2_bool, tb2_int, tb2_str, tb2_tuple, tb2_list, tb2_Tree, tb3_NoneType, tb3_bool, tb3_int, tb3_str, tb3_tuple, tb3_list, tb3_Tree, tb4_NoneType, tb4_bool, tb4_int, tb4_str, tb4_tuple, tb4_list, tb4_Tree, tb5_NoneType, tb5_bool, tb5_int, tb5_str, tb5_tuple, tb5_list, tb5_Tree, tb6_NoneType, tb6_bool, tb6_int, tb6_str, tb6_tuple, tb6_list, tb6_Tree]
  generalize ((⟨#[c0]⟩ : Str) ++ Txt.join (Str.ofString "") (cs.map fun c => (⟨#[c]⟩ : Str))) = B at hB ⊢
  refine take_spec h4 (by omega) (by omega) fun p s5 p0 p1 h5 => ?_
  simp only [↓kn_q, ↓kn_e, ↓kq_q, ↓kp_p, ↓ps_nx, ↓ps_rt, ↓ps_bk, ↓ps_ct, ↓ps_ex, ↓tkV_val, ↓tkV_own, ↓tkVR_val, ↓tkVR_own, ↓tkO_own, ↓tkA_val, ↓tkB_bl, ↓tkI_int, ↓tkStr_str, ↓tkC_obj, ↓tkSm_some, ↓tkSm_map, ↓tkSm_bind, ↓tkSm_ite, ↓tkP_t, ↓tkIf_t, ↓tkIf_f, ↓tkT_t, ↓tk_ok, ↓tk_exc, ↓tk_bind, ↓tk_lift, ↓tks_nx, ↓tks_rt, ↓tks_eS, ↓tks_seq, ↓tks_next, ↓tks_brk, ↓tks_cnt, ↓tks_drop, ↓tks_ret, ↓tks_retN, ↓tks_if, ↓tks_frz, ↓tks_set, ↓tks_setO, ↓tks_par, ↓tks_mut, ↓tks_app, ↓tks_store, ↓tks_fld, ↓tks_aug, ↓tks_for, ↓tks_for0, ↓tk_var, ↓tk_varR, ↓tk_c, ↓tk_bin, ↓tk_test, ↓tk_tnot, ↓tk_yes, ↓tk_tand, ↓tk_tor, ↓tk_call, ↓tk_fn, ↓tk_mkF, ↓tk_nil, ↓tk_cons, ↓tk_attr, ↓tk_meth, ↓tk_xif, ↓tk_seqI, ↓tk_enum, ↓tk_rng1, ↓tk_rng2, ↓tk_loc, ↓tk_lc, ↓tk_neg, ↓tk_no, ↓tk_part, ↓tk_sl, ↓tk_xsNil, ↓tk_xsV, ↓tk_xsO, ↓tk_xnot, ↓tk_xand, ↓tk_xor, ↓tk_lst, ↓tk_tup, ↓tk_sz, ↓tk_chain, ↓tk_s1, ↓tk_maxDf, ↓tk_star, List.getElem?_cons_zero, List.getElem?_cons_succ, List.set_cons_zero, List.set_cons_succ, List.map_cons, List.map_nil, List.cons_append, List.nil_append, List.append_assoc, tkJ_own, frzG, putS, wipeG, pVar, pTup, psCons, psNil, atD, ixD_lst, ixD_tup, ixD_scr, at_0, at_1, at_2, at_3, at_4, at_5, at_6, at_7, lenD, intC, absC, max2C, min2C, addD, intD, cmpD, yesC, slD, seqD, enumD, stD, sumC, allC, anyC, tupC, maxC, Option.bind_some, Option.map_some, List.lookup_cons, List.lookup_nil, List.length_cons, List.length_nil, Bool.not_true, Bool.not_false, Bool.and_self, Bool.true_and, Bool.and_true, Bool.false_and, Bool.and_false, Bool.or_true, Bool.true_or, Bool.false_or, Bool.or_false, reduceIte, decide_true, decide_false, if_true, if_false, List.replicate_succ, List.replicate_zero, Nat.reduceAdd, Nat.reduceSub, Nat.zero_add, List.mem_cons, List.not_mem_nil, or_false, false_or, not_false_eq_true, reduceCtorEq, ne_eq, and_self, and_true, true_and, Nat.reduceLT, Nat.reduceLeDiff, beq_self_eq_true, Nat.reduceEqDiff, Nat.add_one_ne_zero, modC, divC, mulC, powC, Int.reduceLT, Int.reduceLE, Int.reduceNeg, Int.reducePow, Int.reduceToNat, Int.reduceEq, Nat.reducePow, Int.zero_add, eqL, eqD, eqB, neD, isD, sz_0, sz_1, sz_2, sz_3, sz_4, sz_5, sz_6, sz_7, sz_8, sz_9, sz_10, sz_11, sz_12, sz_13, sz_14, sz_15, sz_16, sz_17, sz_18, sz_19, sz_20, sz_21, sz_22, sz_23, sz_24, sz_25, sz_26, sz_27, sz_28, sz_29, sz_30, nc_0, nc_1, nc_2, nc_3, nc_4, nc_5, nc_6, nc_7, nc_8, nc_9, nc_10, nc_11, nc_12, nc_13, nc_14, nc_15, nc_16, nc_17, nc_18, nc_19, nc_20, nc_21, nc_22, nc_23, nc_24, nc_25, nc_26, nc_27, nc_28, nc_29, nc_30, isiT, isiK, isiC, isiM, tyNames, tagD, tb0_NoneType, tb0_bool, tb0_int, tb0_str, tb0_tuple, tb0_list, tb0_Tree, tb1_NoneType, tb1_bool, tb1_int, tb1_str, tb1_tuple, tb1_list, tb1_Tree, tb2_NoneType, tb2_bool, tb2_int, tb2_str, tb2_tuple, tb2_list, tb2_Tree, tb3_NoneType, tb3_bool, tb3_int, tb3_str, tb3_tuple, tb3_list, tb3_Tree, tb4_NoneType, tb4_bool, tb4_int, tb4_str, tb4_tuple, tb4_list, tb4_Tree, tb5_NoneType, tb5_bool, tb5_int, tb5_str, tb5_tuple, tb5_list, tb5_Tree, tb6_NoneType, tb6_bool, tb6_int, tb6_str, tb6_tuple, tb6_list, tb6_Tree]
  refine take_spec h5 (by omega) (by omega) fun q s6 q0 q1 h6 => ?_
  simp only [↓kn_q, ↓kn_e, ↓kq_q, ↓kp_p, ↓ps_nx, ↓ps_rt, ↓ps_bk, ↓ps_ct, ↓ps_ex, ↓tkV_val, ↓tkV_own, ↓tkVR_val, ↓tkVR_own, ↓tkO_own, ↓tkA_val, ↓tkB_bl, ↓tkI_int, ↓tkStr_str, ↓tkC_obj, ↓tkSm_some, ↓tkSm_map, ↓tkSm_bind, ↓tkSm_ite, ↓tkP_t, ↓tkIf_t, ↓tkIf_f, ↓tkT_t, ↓tk_ok, ↓tk_exc, ↓tk_bind, ↓tk_lift, ↓tks_nx, ↓tks_rt, ↓tks_eS, ↓tks_seq, ↓tks_next, ↓tks_brk, ↓tks_cnt, ↓tks_drop, ↓tks_ret, ↓tks_retN, ↓tks_if, ↓tks_frz, ↓tks_set, ↓tks_setO, ↓tks_par, ↓tks_mut, ↓tks_app, ↓tks_store, ↓tks_fld, ↓tks_aug, ↓tks_for, ↓tks_for0, ↓tk_var, ↓tk_varR, ↓tk_c, ↓tk_bin, ↓tk_test, ↓tk_tnot, ↓tk_yes, ↓tk_tand, ↓tk_tor, ↓tk_call, ↓tk_fn, ↓tk_mkF, ↓tk_nil, ↓tk_cons, ↓tk_attr, ↓tk_meth, ↓tk_xif, ↓tk_seqI, ↓tk_enum, ↓tk_rng1, ↓tk_rng2, ↓tk_loc, ↓tk_lc, ↓tk_neg, ↓tk_no, ↓tk_part, ↓tk_sl, ↓tk_xsNil, ↓tk_xsV, ↓tk_xsO, ↓tk_xnot, ↓tk_xand, ↓tk_xor, ↓tk_lst, ↓tk_tup, ↓tk_sz, ↓tk_chain, ↓tk_s1, ↓tk_maxDf, ↓tk_star, List.getElem?_cons_zero, List.getElem?_cons_succ, List.set_cons_zero, List.set_cons_succ, List.map_cons, List.map_nil, List.cons_append, List.nil_append, List.append_assoc, tkJ_own, frzG, putS, wipeG, pVar, pTup, psCons, psNil, atD, ixD_lst, ixD_tup, ixD_scr, at_0, at_1, at_2, at_3, at_4, at_5, at_6, at_7, lenD, intC, absC, max2C, min2C, addD, intD, cmpD, yesC, slD, seqD, enumD, stD, sumC, allC, anyC, tupC, maxC, Option.bind_some, Option.map_some, List.lookup_cons, List.lookup_nil, List.length_cons, List.length_nil, Bool.not_true, Bool.not_false, Bool.and_self, Bool.true_and, Bool.and_true, Bool.false_and, Bool.and_false, Bool.or_true, Bool.true_or, Bool.false_or, Bool.or_false, reduceIte, decide_true, decide_false, if_true, if_false, List.replicate_succ, List.replicate_zero, Nat.reduceAdd, Nat.reduceSub, Nat.zero_add, List.mem_cons, List.not_mem_nil, or_false, false_or, not_false_eq_true, reduceCtorEq, ne_eq, and_self, and_true, true_and, Nat.reduceLT, Nat.reduceLeDiff, beq_self_eq_true, Nat.reduceEqDiff, Nat.add_one_ne_zero, modC, divC, mulC, powC, Int.reduceLT, Int.reduceLE, Int.reduceNeg, Int.reducePow, Int.reduceToNat, Int.reduceEq, Nat.reducePow, Int.zero_add, eqL, eqD, eqB, neD, isD, sz_0, sz_1, sz_2, sz_3, sz_4, sz_5, sz_6, sz_7, sz_8, sz_9, sz_10, sz_11, sz_12, sz_13, sz_14, sz_15, sz_16, sz_17, sz_18, sz_19, sz_20, sz_21, sz_22, sz_23, sz_24, sz_25, sz_26, sz_27, sz_28, sz_29, sz_30, nc_0, nc_1, nc_2, nc_3, nc_4, nc_5, nc_6, nc_7, nc_8, nc_9, nc_10, nc_11, nc_12, nc_13, nc_14, nc_15, nc_16, nc_17, nc_18, nc_19, nc_20, nc_21, nc_22, nc_23, nc_24, nc_25, nc_26, nc_27, nc_28, nc_29, nc_30, isiT, isiK, isiC, isiM, tyNames, tagD, tb0_NoneType, tb0_bool, tb0_int, tb0_str, tb0_tuple, tb0_list, tb0_Tree, tb1_NoneType, tb1_bool, tb1_int, tb1_str, tb1_tuple, tb1_list, tb1_Tree, tb2_NoneType, tb2_bool, tb2_int, tb2_str, tb2_tuple, tb2_list, tb2_Tree, tb3_NoneType, tb3_bool, tb3_int, tb3_str, tb3_tuple, tb3_list, tb3_Tree, tb4_NoneType, tb4_bool, tb4_int, tb4_str, tb4_tuple, tb4_list, tb4_Tree, tb5_NoneType, tb5_bool, tb5_int, tb5_str, tb5_tuple, tb5_list, tb5_Tree, tb6_NoneType, tb6_bool, tb6_int, tb6_str, tb6_tuple, tb6_list, tb6_Tree]
  refine trng1_of (by omega) (by omega) ?_
  simp only [↓kn_q, ↓kn_e, ↓kq_q, ↓kp_p, ↓ps_nx, ↓ps_rt, ↓ps_bk, ↓ps_ct, ↓ps_ex, ↓tkV_val, ↓tkV_own, ↓tkVR_val, ↓tkVR_own, ↓tkO_own, ↓tkA_val, ↓tkB_bl, ↓tkI_int, ↓tkStr_str, ↓tkC_obj, ↓tkSm_some, ↓tkSm_map, ↓tkSm_bind, ↓tkSm_ite, ↓tkP_t, ↓tkIf_t, ↓tkIf_f, ↓tkT_t, ↓tk_ok, ↓tk_exc, ↓tk_bind, ↓tk_lift, ↓tks_nx, ↓tks_rt, ↓tks_eS, ↓tks_seq, ↓tks_next, ↓tks_brk, ↓tks_cnt, ↓tks_drop, ↓tks_ret, ↓tks_retN, ↓tks_if, ↓tks_frz, ↓tks_set, ↓tks_setO, ↓tks_par, ↓tks_mut, ↓tks_app, ↓tks_store, ↓tks_fld, ↓tks_aug, ↓tks_for, ↓tks_for0, ↓tk_var, ↓tk_varR, ↓tk_c, ↓tk_bin, ↓tk_test, ↓tk_tnot, ↓tk_yes, ↓tk_tand, ↓tk_tor, ↓tk_call, ↓tk_fn, ↓tk_mkF, ↓tk_nil, ↓tk_cons, ↓tk_attr, ↓tk_meth, ↓tk_xif, ↓tk_seqI, ↓tk_enum, ↓tk_rng1, ↓tk_rng2, ↓tk_loc, ↓tk_lc, ↓tk_neg, ↓tk_no, ↓tk_part, ↓tk_sl, ↓tk_xsNil, ↓tk_xsV, ↓tk_xsO, ↓tk_xnot, ↓tk_xand, ↓tk_xor, ↓tk_lst, ↓tk_tup, ↓tk_sz, ↓tk_chain, ↓tk_s1, ↓tk_maxDf, ↓tk_star, List.getElem?_cons_zero, List.getElem?_cons_succ, List.set_cons_zero, List.set_cons_succ, List.map_cons, List.map_nil, List.cons_append, List.nil_append, List.append_assoc, tkJ_own, frzG, putS, wipeG, pVar, pTup, psCons, psNil, atD, ixD_lst, ixD_tup, ixD_scr, at_0, at_1, at_2, at_3, at_4, at_5, at_6, at_7, lenD, intC, absC, max2C, min2C, addD, intD, cmpD, yesC, slD, seqD, enumD, stD, sumC, allC, anyC, tupC, maxC, Option.bind_some, Option.map_some, List.lookup_cons, List.lookup_nil, List.length_cons, List.length_nil, Bool.not_true, Bool.not_false, Bool.and_self, Bool.true_and, Bool.and_true, Bool.false_and, Bool.and_false, Bool.or_true, Bool.true_or, Bool.false_or, Bool.or_false, reduceIte, decide_true, decide_false, if_true, if_false, List.replicate_succ, List.replicate_zero, Nat.reduceAdd, Nat.reduceSub, Nat.zero_add, List.mem_cons, List.not_mem_nil, or_false, false_or, not_false_eq_true, reduceCtorEq, ne_eq, and_self, and_true, true_and, Nat.reduceLT, Nat.reduceLeDiff, beq_self_eq_true, Nat.reduceEqDiff, Nat.add_one_ne_zero, modC, divC, mulC, powC, Int.reduceLT, Int.reduceLE, Int.reduceNeg, Int.reducePow, Int.reduceToNat, Int.reduceEq, Nat.reducePow, Int.zero_add, eqL, eqD, eqB, neD, isD, sz_0, sz_1, sz_2, sz_3, sz_4, sz_5, sz_6, sz_7, sz_8, sz_9, sz_10, sz_11, sz_12, sz_13, sz_14, sz_15, sz_16, sz_17, sz_18, sz_19, sz_20, sz_21, sz_22, sz_23, sz_24, sz_25, sz_26, sz_27, sz_28, sz_29, sz_30, nc_0, nc_1, nc_2, nc_3, nc_4, nc_5, nc_6, nc_7, nc_8, nc_9, nc_10, nc_11, nc_12, nc_13, nc_14, nc_15, nc_16, nc_17, nc_18, nc_19, nc_20, nc_21, nc_22, nc_23, nc_24, nc_25, nc_26, nc_27, nc_28, nc_29, nc_30, isiT, isiK, isiC, isiM, tyNames, tagD, tb0_NoneType, tb0_bool, tb0_int, tb0_str, tb0_tuple, tb0_list, tb0_Tree, tb1_NoneType, tb1_bool, tb1_int, tb1_str, tb1_tuple, tb1_list, tb1_Tree, tb2_NoneType, tb2_bool, tb2_int, tb2_str, tb2_tuple, tb2_list, tb2_Tree, tb3_NoneType, tb3_bool, tb3_int, tb3_str, tb3_tuple, tb3_list, tb3_Tree, tb4_NoneType, tb4_bool, tb4_int, tb4_str, tb4_tuple, tb4_list, tb4_Tree, tb5_NoneType, tb5_bool, tb5_int, tb5_str, tb5_tuple, tb5_list, tb5_Tree, tb6_NoneType, tb6_bool, tb6_int, tb6_str, tb6_tuple, tb6_list, tb6_Tree]
  refine tkT_of (sz_of (by rw [rngL_len]; omega)) ?_
  simp only [↓kn_q, ↓kn_e, ↓kq_q, ↓kp_p, ↓ps_nx, ↓ps_rt, ↓ps_bk, ↓ps_ct, ↓ps_ex, ↓tkV_val, ↓tkV_own, ↓tkVR_val, ↓tkVR_own, ↓tkO_own, ↓tkA_val, ↓tkB_bl, ↓tkI_int, ↓tkStr_str, ↓tkC_obj, ↓tkSm_some, ↓tkSm_map, ↓tkSm_bind, ↓tkSm_ite, ↓tkP_t, ↓tkIf_t, ↓tkIf_f, ↓tkT_t, ↓tk_ok, ↓tk_exc, ↓tk_bind, ↓tk_lift, ↓tks_nx, ↓tks_rt, ↓tks_eS, ↓tks_seq, ↓tks_next, ↓tks_brk, ↓tks_cnt, ↓tks_drop, ↓tks_ret, ↓tks_retN, ↓tks_if, ↓tks_frz, ↓tks_set, ↓tks_setO, ↓tks_par, ↓tks_mut, ↓tks_app, ↓tks_store, ↓tks_fld, ↓tks_aug, ↓tks_for, ↓tks_for0, ↓tk_var, ↓tk_varR, ↓tk_c, ↓tk_bin, ↓tk_test, ↓tk_tnot, ↓tk_yes, ↓tk_tand, ↓tk_tor, ↓tk_call, ↓tk_fn, ↓tk_mkF, ↓tk_nil, ↓tk_cons, ↓tk_attr, ↓tk_meth, ↓tk_xif, ↓tk_seqI, ↓tk_enum, ↓tk_rng1, ↓tk_rng2, ↓tk_loc, ↓tk_lc, ↓tk_neg, ↓tk_no, ↓tk_part, ↓tk_sl, ↓tk_xsNil, ↓tk_xsV, ↓tk_xsO, ↓tk_xnot, ↓tk_xand, ↓tk_xor, ↓tk_lst, ↓tk_tup, ↓tk_sz, ↓tk_chain, ↓tk_s1, ↓tk_maxDf, ↓tk_star, List.getElem?_cons_zero, List.getElem?_cons_succ, List.set_cons_zero, List.set_cons_succ, List.map_cons, List.map_nil, List.cons_append, List.nil_append, List.append_assoc, tkJ_own, frzG, putS, wipeG, pVar, pTup, psCons, psNil, atD, ixD_lst, ixD_tup, ixD_scr, at_0, at_1, at_2, at_3, at_4, at_5, at_6, at_7, lenD, intC, absC, max2C, min2C, addD, intD, cmpD, yesC, slD, seqD, enumD, stD, sumC, allC, anyC, tupC, maxC, Option.bind_some, Option.map_some, List.lookup_cons, List.lookup_nil, List.length_cons, List.length_nil, Bool.not_true, Bool.not_false, Bool.and_self, Bool.true_and, Bool.and_true, Bool.false_and, Bool.and_false, Bool.or_true, Bool.true_or, Bool.false_or, Bool.or_false, reduceIte, decide_true, decide_false, if_true, if_false, List.replicate_succ, List.replicate_zero, Nat.reduceAdd, Nat.reduceSub, Nat.zero_add, List.mem_cons, List.not_mem_nil, or_false, false_or, not_false_eq_true, reduceCtorEq, ne_eq, and_self, and_true, true_and, Nat.reduceLT, Nat.reduceLeDiff, beq_self_eq_true, Nat.reduceEqDiff, Nat.add_one_ne_zero, modC, divC, mulC, powC, Int.reduceLT, Int.reduceLE, Int.reduceNeg, Int.reducePow, Int.reduceToNat, Int.reduceEq, Nat.reducePow, Int.zero_add, eqL, eqD, eqB, neD, isD, sz_0, sz_1, sz_2, sz_3, sz_4, sz_5, sz_6, sz_7, sz_8, sz_9, sz_10, sz_11, sz_12, sz_13, sz_14, sz_15, sz_16, sz_17, sz_18, sz_19, sz_20, sz_21, sz_22, sz_23, sz_24, sz_25, sz_26, sz_27, sz_28, sz_29, sz_30, nc_0, nc_1, nc_2, nc_3, nc_4, nc_5, nc_6, nc_7, nc_8, nc_9, nc_10, nc_11, nc_12, nc_13, nc_14, nc_15, nc_16, nc_17, nc_18, nc_19, nc_20, nc_21, nc_22, nc_23, nc_24, nc_25, nc_26, nc_27, nc_28, nc_29, nc_30, isiT, isiK, isiC, isiM, tyNames, tagD, tb0_NoneType, tb0_bool, tb0_int, tb0_str, tb0_tuple, tb0_list, tb0_Tree, tb1_NoneType, tb1_bool, tb1_int, tb1_str, tb1_tuple, tb1_list, tb1_Tree, tb2_NoneType, tb2_bool, tb2_int, tb2_str, tb2_tuple, tb2_list, tb2_Tree, tb3_NoneType, tb3_bool, tb3_int, tb3_str, tb3_tuple, tb3_list, tb3_Tree, tb4_NoneType, tb4_bool, tb4_int, tb4_str, tb4_tuple, tb4_list, tb4_Tree, tb5_NoneType, tb5_bool, tb5_int, tb5_str, tb5_tuple, tb5_list, tb5_Tree, tb6_NoneType, tb6_bool, tb6_int, tb6_str, tb6_tuple, tb6_list, tb6_Tree]
  refine tlc_st (fun s => Bg s n) (fun _ y => P1 LET y) h6 (fun d hd s hs => ?_) fun zs s7 h7 a7 => ?_
  · obtain ⟨i, hi, rfl⟩ := rng_mem hd
    unfold e_zlawznames_2
    simp only [↓kn_q, ↓kn_e, ↓kq_q, ↓kp_p, ↓ps_nx, ↓ps_rt, ↓ps_bk, ↓ps_ct, ↓ps_ex, ↓tkV_val, ↓tkV_own, ↓tkVR_val, ↓tkVR_own, ↓tkO_own, ↓tkA_val, ↓tkB_bl, ↓tkI_int, ↓tkStr_str, ↓tkC_obj, ↓tkSm_some, ↓tkSm_map, ↓tkSm_bind, ↓tkSm_ite, ↓tkP_t, ↓tkIf_t, ↓tkIf_f, ↓tkT_t, ↓tk_ok, ↓tk_exc, ↓tk_bind, ↓tk_lift, ↓tks_nx, ↓tks_rt, ↓tks_eS, ↓tks_seq, ↓tks_next, ↓tks_brk, ↓tks_cnt, ↓tks_drop, ↓tks_ret, ↓tks_retN, ↓tks_if, ↓tks_frz, ↓tks_set, ↓tks_setO, ↓tks_par, ↓tks_mut, ↓tks_app, ↓tks_store, ↓tks_fld, ↓tks_aug, ↓tks_for, ↓tks_for0, ↓tk_var, ↓tk_varR, ↓tk_c, ↓tk_bin, ↓tk_test, ↓tk_tnot, ↓tk_yes, ↓tk_tand, ↓tk_tor, ↓tk_call, ↓tk_fn, ↓tk_mkF, ↓tk_nil, ↓tk_cons, ↓tk_attr, ↓tk_meth, ↓tk_xif, ↓tk_seqI, ↓tk_enum, ↓tk_rng1, ↓tk_rng2, ↓tk_loc, ↓tk_lc, ↓tk_neg, ↓tk_no, ↓tk_part, ↓tk_sl, ↓tk_xsNil, ↓tk_xsV, ↓tk_xsO, ↓tk_xnot, ↓tk_xand, ↓tk_xor, ↓tk_lst, ↓tk_tup, ↓tk_sz, ↓tk_chain, ↓tk_s1, ↓tk_maxDf, ↓tk_star, List.getElem?_cons_zero, List.getElem?_cons_succ, List.set_cons_zero, List.set_cons_succ, List.map_cons, List.map_nil, List.cons_append, List.nil_append, List.append_assoc, tkJ_own, frzG, putS, wipeG, pVar, pTup, psCons, psNil, atD, ixD_lst, ixD_tup, ixD_scr, at_0, at_1, at_2, at_3, at_4, at_5, at_6, at_7, lenD, intC, absC, max2C, min2C, addD, intD, cmpD, yesC, slD, seqD, enumD, stD, sumC, allC, anyC, tupC, maxC, Option.bind_some, Option.map_some, List.lookup_cons, List.lookup_nil, List.length_cons, List.length_nil, Bool.not_true, Bool.not_false, Bool.and_self, Bool.true_and, Bool.and_true, Bool.false_and, Bool.and_false, Bool.or_true, Bool.true_or, Bool.false_or, Bool.or_false, reduceIte, decide_true, decide_false, if_true, if_false, List.replicate_succ, List.replicate_zero, Nat.reduceAdd, Nat.reduceSub, Nat.zero_add, List.mem_cons, List.not_mem_nil, or_false, false_or, not_false_eq_true, reduceCtorEq, ne_eq, and_self, and_true, true_and, Nat.reduceLT, Nat.reduceLeDiff, beq_self_eq_true, Nat.reduceEqDiff, Nat.add_one_ne_zero, modC, divC, mulC, powC, Int.reduceLT, Int.reduceLE, Int.reduceNeg, Int.reducePow, Int.reduceToNat, Int.reduceEq, Nat.reducePow, Int.zero_add, eqL, eqD, eqB, neD, isD, sz_0, sz_1, sz_2, sz_3, sz_4, sz_5, sz_6, sz_7, sz_8, sz_9, sz_10, sz_11, sz_12, sz_13, sz_14, sz_15, sz_16, sz_17, sz_18, sz_19, sz_20, sz_21, sz_22, sz_23, sz_24, sz_25, sz_26, sz_27, sz_28, sz_29, sz_30, nc_0, nc_1, nc_2, nc_3, nc_4, nc_5, nc_6, nc_7, nc_8, nc_9, nc_10, nc_11, nc_12, nc_13, nc_14, nc_15, nc_16, nc_17, nc_18, nc_19, nc_20, nc_21, nc_22, nc_23, nc_24, nc_25, nc_26, nc_27, nc_28, nc_29, nc_30, isiT, isiK, isiC, isiM, tyNames, tagD, tb0_NoneType, tb0_bool, tb0_int, tb0_str, tb0_tuple, tb0_list, tb0_Tree, tb1_NoneType, tb1_bool, tb1_int, tb1_str, tb1_tuple, tb1_list, tb1_Tree, tb2_NoneType, tb2_bool, tb2_int, tb2_str, tb2_tuple, tb2_list, tb2_Tree, tb3_NoneType, tb3_bool, tb3_int, tb3_str, tb3_tuple, tb3_list, tb3_Tree, tb4_NoneType, tb4_bool, tb4_int, tb4_str, tb4_tuple, tb4_list, tb4_Tree, tb5_NoneType, tb5_bool, tb5_int, tb5_str, tb5_tuple, tb5_list, tb5_Tree, tb6_NoneType, tb6_bool, tb6_int, tb6_str, tb6_tuple, tb6_list, tb6_Tree]
    refine tk_sign (A := LET) (Int.emod_nonneg _ (by decide)) ?_ (by decide +kernel) fun c hc => ?_
    · rw [hLl]
      exact Int.emod_lt_of_pos _ (by decide)
    simp only [↓kn_q, ↓kn_e, ↓kq_q, ↓kp_p, ↓ps_nx, ↓ps_rt, ↓ps_bk, ↓ps_ct, ↓ps_ex, ↓tkV_val, ↓tkV_own, ↓tkVR_val, ↓tkVR_own, ↓tkO_own, ↓tkA_val, ↓tkB_bl, ↓tkI_int, ↓tkStr_str, ↓tkC_obj, ↓tkSm_some, ↓tkSm_map, ↓tkSm_bind, ↓tkSm_ite, ↓tkP_t, ↓tkIf_t, ↓tkIf_f, ↓tkT_t, ↓tk_ok, ↓tk_exc, ↓tk_bind, ↓tk_lift, ↓tks_nx, ↓tks_rt, ↓tks_eS, ↓tks_seq, ↓tks_next, ↓tks_brk, ↓tks_cnt, ↓tks_drop, ↓tks_ret, ↓tks_retN, ↓tks_if, ↓tks_frz, ↓tks_set, ↓tks_setO, ↓tks_par, ↓tks_mut, ↓tks_app, ↓tks_store, ↓tks_fld, ↓tks_aug, ↓tks_for, ↓tks_for0, ↓tk_var, ↓tk_varR, ↓tk_c, ↓tk_bin, ↓tk_test, ↓tk_tnot, ↓tk_yes, ↓tk_tand, ↓tk_tor, ↓tk_call, ↓tk_fn, ↓tk_mkF, ↓tk_nil, ↓tk_cons, ↓tk_attr, ↓tk_meth, ↓tk_xif, ↓tk_seqI, ↓tk_enum, ↓tk_rng1, ↓tk_rng2, ↓tk_loc, ↓tk_lc, ↓tk_neg, ↓tk_no, ↓tk_part, ↓tk_sl, ↓tk_xsNil, ↓tk_xsV, ↓tk_xsO, ↓tk_xnot, ↓tk_xand, ↓tk_xor, ↓tk_lst, ↓tk_tup, ↓tk_sz, ↓tk_chain, ↓tk_s1, ↓tk_maxDf, ↓tk_star, List.getElem?_cons_zero, List.getElem?_cons_succ, List.set_cons_zero, List.set_cons_succ, List.map_cons, List.map_nil, List.cons_append, List.nil_append, List.append_assoc, tkJ_own, frzG, putS, wipeG, pVar, pTup, psCons, psNil, atD, ixD_lst, ixD_tup, ixD_scr, at_0, at_1, at_2, at_3, at_4, at_5, at_6, at_7, lenD, intC, absC, max2C, min2C, addD, intD, cmpD, yesC, slD, seqD, enumD, stD, sumC, allC, anyC, tupC, maxC, Option.bind_some, Option.map_some, List.lookup_cons, List.lookup_nil, List.length_cons, List.length_nil, Bool.not_true, Bool.not_false, Bool.and_self, Bool.true_and, Bool.and_true, Bool.false_and, Bool.and_false, Bool.or_true, Bool.true_or, Bool.false_or, Bool.or_false, reduceIte, decide_true, decide_false, if_true, if_false, List.replicate_succ, List.replicate_zero, Nat.reduceAdd, Nat.reduceSub, Nat.zero_add, List.mem_cons, List.not_mem_nil, or_false, false_or, not_false_eq_true, reduceCtorEq, ne_eq, and_self, and_true, true_and, Nat.reduceLT, Nat.reduceLeDiff, beq_self_eq_true, Nat.reduceEqDiff, Nat.add_one_ne_zero, modC, divC, mulC, powC, Int.reduceLT, Int.reduceLE, Int.reduceNeg, Int.reducePow, Int.reduceToNat, Int.reduceEq, Nat.reducePow, Int.zero_add, eqL, eqD, eqB, neD, isD, sz_0, sz_1, sz_2, sz_3, sz_4, sz_5, sz_6, sz_7, sz_8, sz_9, sz_10, sz_11, sz_12, sz_13, sz_14, sz_15, sz_16, sz_17, sz_18, sz_19, sz_20, sz_21, sz_22, sz_23, sz_24, sz_25, sz_26, sz_27, sz_28, sz_29, sz_30, nc_0, nc_1, nc_2, nc_3, nc_4, nc_5, nc_6, nc_7, nc_8, nc_9, nc_10, nc_11, nc_12, nc_13, nc_14, nc_15, nc_16, nc_17, nc_18, nc_19, nc_20, nc_21, nc_22, nc_23, nc_24, nc_25, nc_26, nc_27, nc_28, nc_29, nc_30, isiT, isiK, isiC, isiM, tyNames, tagD, tb0_NoneType, tb0_bool, tb0_int, tb0_str, tb0_tuple, tb0_list, tb0_Tree, tb1_NoneType, tb1_bool, tb1_int, tb1_str, tb1_tuple, tb1_list, tb1_Tree, tb2_NoneType, tb2_bool, tb2_int, tb2_str, tb2_tuple, tb2_list, tb2_Tree, tb3_NoneType, tb3_bool, tb3_int, tb3_str, tb3_tuple, tb3_list, tb3_Tree, tb4_NoneType, tb4_bool, tb4_int, tb4_str, tb4_tuple, tb4_list, tb4_Tree, tb5_NoneType, tb5_bool, tb5_int, tb5_str, tb5_tuple, tb5_list, tb5_Tree, tb6_NoneType, tb6_bool, tb6_int, tb6_str, tb6_tuple, tb6_list, tb6_Tree]
    exact ⟨⟨c, rfl, hc⟩, hs⟩
  have zl := a7.len
  rw [rngL_len] at zl
  have hz : ∀ y ∈ zs, P1 LET y := fun y hy => by
    obtain ⟨_, _, p⟩ := a7.mem y hy
    exact p
  clear a7
  simp only [↓kn_q, ↓kn_e, ↓kq_q, ↓kp_p, ↓ps_nx, ↓ps_rt, ↓ps_bk, ↓ps_ct, ↓ps_ex, ↓tkV_val, ↓tkV_own, ↓tkVR_val, ↓tkVR_own, ↓tkO_own, ↓tkA_val, ↓tkB_bl, ↓tkI_int, ↓tkStr_str, ↓tkC_obj, ↓tkSm_some, ↓tkSm_map, ↓tkSm_bind, ↓tkSm_ite, ↓tkP_t, ↓tkIf_t, ↓tkIf_f, ↓tkT_t, ↓tk_ok, ↓tk_exc, ↓tk_bind, ↓tk_lift, ↓tks_nx, ↓tks_rt, ↓tks_eS, ↓tks_seq, ↓tks_next, ↓tks_brk, ↓tks_cnt, ↓tks_drop, ↓tks_ret, ↓tks_retN, ↓tks_if, ↓tks_frz, ↓tks_set, ↓tks_setO, ↓tks_par, ↓tks_mut, ↓tks_app, ↓tks_store, ↓tks_fld, ↓tks_aug, ↓tks_for, ↓tks_for0, ↓tk_var, ↓tk_varR, ↓tk_c, ↓tk_bin, ↓tk_test, ↓tk_tnot, ↓tk_yes, ↓tk_tand, ↓tk_tor, ↓tk_call, ↓tk_fn, ↓tk_mkF, ↓tk_nil, ↓tk_cons, ↓tk_attr, ↓tk_meth, ↓tk_xif, ↓tk_seqI, ↓tk_enum, ↓tk_rng1, ↓tk_rng2, ↓tk_loc, ↓tk_lc, ↓tk_neg, ↓tk_no, ↓tk_part, ↓tk_sl, ↓tk_xsNil, ↓tk_xsV, ↓tk_xsO, ↓tk_xnot, ↓tk_xand, ↓tk_xor, ↓tk_lst, ↓tk_tup, ↓tk_sz, ↓tk_chain, ↓tk_s1, ↓tk_maxDf, ↓tk_star, List.getElem?_cons_zero, List.getElem?_cons_succ, List.set_cons_zero, List.set_cons_succ, List.map_cons, List.map_nil, List.cons_append, List.nil_append, List.append_assoc, tkJ_own, frzG, putS, wipeG, pVar, pTup, psCons, psNil, atD, ixD_lst, ixD_tup, ixD_scr, at_0, at_1, at_2, at_3, at_4, at_5, at_6, at_7, lenD, intC, absC, max2C, min2C, addD, intD, cmpD, yesC, slD, seqD, enumD, stD, sumC, allC, anyC, tupC, maxC, Option.bind_some, Option.map_some, List.lookup_cons, List.lookup_nil, List.length_cons, List.length_nil, Bool.not_true, Bool.not_false, Bool.and_self, Bool.true_and, Bool.and_true, Bool.false_and, Bool.and_false, Bool.or_true, Bool.true_or, Bool.false_or, Bool.or_false, reduceIte, decide_true, decide_false, if_true, if_false, List.replicate_succ, List.replicate_zero, Nat.reduceAdd, Nat.reduceSub, Nat.zero_add, List.mem_cons, List.not_mem_nil, or_false, false_or, not_false_eq_true, reduceCtorEq, ne_eq, and_self, and_true, true_and, Nat.reduceLT, Nat.reduceLeDiff, beq_self_eq_true, Nat.reduceEqDiff, Nat.add_one_ne_zero, modC, divC, mulC, powC, Int.reduceLT, Int.reduceLE, Int.reduceNeg, Int.reducePow, Int.reduceToNat, Int.reduceEq, Nat.reducePow, Int.zero_add, eqL, eqD, eqB, neD, isD, sz_0, sz_1, sz_2, sz_3, sz_4, sz_5, sz_6, sz_7, sz_8, sz_9, sz_10, sz_11, sz_12, sz_13, sz_14, sz_15, sz_16, sz_17, sz_18, sz_19, sz_20, sz_21, sz_22, sz_23, sz_24, sz_25, sz_26, sz_27, sz_28, sz_29, sz_30, nc_0, nc_1, nc_2, nc_3, nc_4, nc_5, nc_6, nc_7, nc_8, nc_9, nc_10, nc_11, nc_12, nc_13, nc_14, nc_15, nc_16, nc_17, nc_18, nc_19, nc_20, nc_21, nc_22, nc_23, nc_24, nc_25, nc_26, nc_27, nc_28, nc_29, nc_30, isiT, isiK, isiC, isiM, tyNames, tagD, tb0_NoneType, tb0_bool, tb0_int, tb0_str, tb0_tuple, tb0_list, tb0_Tree, tb1_NoneType, tb1_bool, tb1_int, tb1_str, tb1_tuple, tb1_list, tb1_Tree, tb2_NoneType, tb2_bool, tb2_int, tb2_str, tb2_tuple, tb2_list, tb2_Tree, tb3_NoneType, tb3_bool, tb3_int, tb3_str, tb3_tuple, tb3_list, tb3_Tree, tb4_NoneType, tb4_bool, tb4_int, tb4_str, tb4_tuple, tb4_list, tb4_Tree, tb5_NoneType, tb5_bool, tb5_int, tb5_str, tb5_tuple, tb5_list, tb5_Tree, tb6_NoneType, tb6_bool, tb6_int, tb6_str, tb6_tuple, tb6_list, tb6_Tree]
  refine tkT_of (sz_of (by omega)) ?_
  simp only [↓kn_q, ↓kn_e, ↓kq_q, ↓kp_p, ↓ps_nx, ↓ps_rt, ↓ps_bk, ↓ps_ct, ↓ps_ex, ↓tkV_val, ↓tkV_own, ↓tkVR_val, ↓tkVR_own, ↓tkO_own, ↓tkA_val, ↓tkB_bl, ↓tkI_int, ↓tkStr_str, ↓tkC_obj, ↓tkSm_some, ↓tkSm_map, ↓tkSm_bind, ↓tkSm_ite, ↓tkP_t, ↓tkIf_t, ↓tkIf_f, ↓tkT_t, ↓tk_ok, ↓tk_exc, ↓tk_bind, ↓tk_lift, ↓tks_nx, ↓tks_rt, ↓tks_eS, ↓tks_seq, ↓tks_next, ↓tks_brk, ↓tks_cnt, ↓tks_drop, ↓tks_ret, ↓tks_retN, ↓tks_if, ↓tks_frz, ↓tks_set, ↓tks_setO, ↓tks_par, ↓tks_mut, ↓tks_app, ↓tks_store, ↓tks_fld, ↓tks_aug, ↓tks_for, ↓tks_for0, ↓tk_var, ↓tk_varR, ↓tk_c, ↓tk_bin, ↓tk_test, ↓tk_tnot, ↓tk_yes, ↓tk_tand, ↓tk_tor, ↓tk_call, ↓tk_fn, ↓tk_mkF, ↓tk_nil, ↓tk_cons, ↓tk_attr, ↓tk_meth, ↓tk_xif, ↓tk_seqI, ↓tk_enum, ↓tk_rng1, ↓tk_rng2, ↓tk_loc, ↓tk_lc, ↓tk_neg, ↓tk_no, ↓tk_part, ↓tk_sl, ↓tk_xsNil, ↓tk_xsV, ↓tk_xsO, ↓tk_xnot, ↓tk_xand, ↓tk_xor, ↓tk_lst, ↓tk_tup, ↓tk_sz, ↓tk_chain, ↓tk_s1, ↓tk_maxDf, ↓tk_star, List.getElem?_cons_zero, List.getElem?_cons_succ, List.set_cons_zero, List.set_cons_succ, List.map_cons, List.map_nil, List.cons_append, List.nil_append, List.append_assoc, tkJ_own, frzG, putS, wipeG, pVar, pTup, psCons, psNil, atD, ixD_lst, ixD_tup, ixD_scr, at_0, at_1, at_2, at_3, at_4, at_5, at_6, at_7, lenD, intC, absC, max2C, min2C, addD, intD, cmpD, yesC, slD, seqD, enumD, stD, sumC, allC, anyC, tupC, maxC, Option.bind_some, Option.map_some, List.lookup_cons, List.lookup_nil, List.length_cons, List.length_nil, Bool.not_true, Bool.not_false, Bool.and_self, Bool.true_and, Bool.and_true, Bool.false_and, Bool.and_false, Bool.or_true, Bool.true_or, Bool.false_or, Bool.or_false, reduceIte, decide_true, decide_false, if_true, if_false, List.replicate_succ, List.replicate_zero, Nat.reduceAdd, Nat.reduceSub, Nat.zero_add, List.mem_cons, List.not_mem_nil, or_false, false_or, not_false_eq_true, reduceCtorEq, ne_eq, and_self, and_true, true_and, Nat.reduceLT, Nat.reduceLeDiff, beq_self_eq_true, Nat.reduceEqDiff, Nat.add_one_ne_zero, modC, divC, mulC, powC, Int.reduceLT, Int.reduceLE, Int.reduceNeg, Int.reducePow, Int.reduceToNat, Int.reduceEq, Nat.reducePow, Int.zero_add, eqL, eqD, eqB, neD, isD, sz_0, sz_1, sz_2, sz_3, sz_4, sz_5, sz_6, sz_7, sz_8, sz_9, sz_10, sz_11, sz_12, sz_13, sz_14, sz_15, sz_16, sz_17, sz_18, sz_19, sz_20, sz_21, sz_22, sz_23, sz_24, sz_25, sz_26, sz_27, sz_28, sz_29, sz_30, nc_0, nc_1, nc_2, nc_3, nc_4, nc_5, nc_6, nc_7, nc_8, nc_9, nc_10, nc_11, nc_12, nc_13, nc_14, nc_15, nc_16, nc_17, nc_18, nc_19, nc_20, nc_21, nc_22, nc_23, nc_24, nc_25, nc_26, nc_27, nc_28, nc_29, nc_30, isiT, isiK, isiC, isiM, tyNames, tagD, tb0_NoneType, tb0_bool, tb0_int, tb0_str, tb0_tuple, tb0_list, tb0_Tree, tb1_NoneType, tb1_bool, tb1_int, tb1_str, tb1_tuple, tb1_list, tb1_Tree, tb2_NoneType, tb2_bool, tb2_int, tb2_str, tb2_tuple, tb2_list, tb2_Tree, tb3_NoneType, tb3_bool, tb3_int, tb3_str, tb3_tuple, tb3_list, tb3_Tree, tb4_NoneType, tb4_bool, tb4_int, tb4_str, tb4_tuple, tb4_list, tb4_Tree, tb5_NoneType, tb5_bool, tb5_int, tb5_str, tb5_tuple, tb5_list, tb5_Tree, tb6_NoneType, tb6_bool, tb6_int, tb6_str, tb6_tuple, tb6_list, tb6_Tree]
  obtain ⟨p, rfl⟩ := Int.eq_ofNat_of_zero_le p0
  refine tlc_st (fun s => Bg s n) (fun _ y => ∃ t, y = .str t ∧ Nm t) h7 (fun d hd s hs => ?_) fun us s8 h8 a8 => ?_
  · obtain ⟨c, rfl, hc⟩ := hz d hd
    unfold e_zlawznames_3
    have hBl : B.length = 8 := by
      have := congrArg List.length hB
      rw [Array.length_toList, List.length_cons, hl] at this
      exact this
    simp only [↓kn_q, ↓kn_e, ↓kq_q, ↓kp_p, ↓ps_nx, ↓ps_rt, ↓ps_bk, ↓ps_ct, ↓ps_ex, ↓tkV_val, ↓tkV_own, ↓tkVR_val, ↓tkVR_own, ↓tkO_own, ↓tkA_val, ↓tkB_bl, ↓tkI_int, ↓tkStr_str, ↓tkC_obj, ↓tkSm_some, ↓tkSm_map, ↓tkSm_bind, ↓tkSm_ite, ↓tkP_t, ↓tkIf_t, ↓tkIf_f, ↓tkT_t, ↓tk_ok, ↓tk_exc, ↓tk_bind, ↓tk_lift, ↓tks_nx, ↓tks_rt, ↓tks_eS, ↓tks_seq, ↓tks_next, ↓tks_brk, ↓tks_cnt, ↓tks_drop, ↓tks_ret, ↓tks_retN, ↓tks_if, ↓tks_frz, ↓tks_set, ↓tks_setO, ↓tks_par, ↓tks_mut, ↓tks_app, ↓tks_store, ↓tks_fld, ↓tks_aug, ↓tks_for, ↓tks_for0, ↓tk_var, ↓tk_varR, ↓tk_c, ↓tk_bin, ↓tk_test, ↓tk_tnot, ↓tk_yes, ↓tk_tand, ↓tk_tor, ↓tk_call, ↓tk_fn, ↓tk_mkF, ↓tk_nil, ↓tk_cons, ↓tk_attr, ↓tk_meth, ↓tk_xif, ↓tk_seqI, ↓tk_enum, ↓tk_rng1, ↓tk_rng2, ↓tk_loc, ↓tk_lc, ↓tk_neg, ↓tk_no, ↓tk_part, ↓tk_sl, ↓tk_xsNil, ↓tk_xsV, ↓tk_xsO, ↓tk_xnot, ↓tk_xand, ↓tk_xor, ↓tk_lst, ↓tk_tup, ↓tk_sz, ↓tk_chain, ↓tk_s1, ↓tk_maxDf, ↓tk_star, List.getElem?_cons_zero, List.getElem?_cons_succ, List.set_cons_zero, List.set_cons_succ, List.map_cons, List.map_nil, List.cons_append, List.nil_append, List.append_assoc, tkJ_own, frzG, putS, wipeG, pVar, pTup, psCons, psNil, atD, ixD_lst, ixD_tup, ixD_scr, at_0, at_1, at_2, at_3, at_4, at_5, at_6, at_7, lenD, intC, absC, max2C, min2C, addD, intD, cmpD, yesC, slD, seqD, enumD, stD, sumC, allC, anyC, tupC, maxC, Option.bind_some, Option.map_some, List.lookup_cons, List.lookup_nil, List.length_cons, List.length_nil, Bool.not_true, Bool.not_false, Bool.and_self, Bool.true_and, Bool.and_true, Bool.false_and, Bool.and_false, Bool.or_true, Bool.true_or, Bool.false_or, Bool.or_false, reduceIte, decide_true, decide_false, if_true, if_false, List.replicate_succ, List.replicate_zero, Nat.reduceAdd, Nat.reduceSub, Nat.zero_add, List.mem_cons, List.not_mem_nil, or_false, false_or, not_false_eq_true, reduceCtorEq, ne_eq, and_self, and_true, true_and, Nat.reduceLT, Nat.reduceLeDiff, beq_self_eq_true, Nat.reduceEqDiff, Nat.add_one_ne_zero, modC, divC, mulC, powC, Int.reduceLT, Int.reduceLE, Int.reduceNeg, Int.reducePow, Int.reduceToNat, Int.reduceEq, Nat.reducePow, Int.zero_add, eqL, eqD, eqB, neD, isD, sz_0, sz_1, sz_2, sz_3, sz_4, sz_5, sz_6, sz_7, sz_8, sz_9, sz_10, sz_11, sz_12, sz_13, sz_14, sz_15, sz_16, sz_17, sz_18, sz_19, sz_20, sz_21, sz_22, sz_23, sz_24, sz_25, sz_26, sz_27, sz_28, sz_29, sz_30, nc_0, nc_1, nc_2, nc_3, nc_4, nc_5, nc_6, nc_7, nc_8, nc_9, nc_10, nc_11, nc_12, nc_13, nc_14, nc_15, nc_16, nc_17, nc_18, nc_19, nc_20, nc_21, nc_22, nc_23, nc_24, nc_25, nc_26, nc_27, nc_28, nc_29, nc_30, isiT, isiK, isiC, isiM, tyNames, tagD, tb0_NoneType, tb0_bool, tb0_int, tb0_str, tb0_tuple, tb0_list, tb0_Tree, tb1_NoneType, tb1_bool, tb1_int, tb1_str, tb1_tuple, tb1_list, tb1_Tree, tb2_NoneType, tb2_bool, tb2_int, tb2_str, tb2_tuple, tb2_list, tb2_Tree, tb3_NoneType, tb3_bool, tb3_int, tb3_str, tb3_tuple, tb3_list, tb3_Tree, tb4_NoneType, tb4_bool, tb4_int, tb4_str, tb4_tuple, tb4_list, tb4_Tree, tb5_NoneType, tb5_bool, tb5_int, tb5_str, tb5_tuple, tb5_list, tb5_Tree, tb6_NoneType, tb6_bool, tb6_int, tb6_str, tb6_tuple, tb6_list, tb6_Tree]
    have nm := name_made hB hl hc0 (fun c hc => hA c (hcs c hc)) hc (i := p) (j := z) (by omega) z7
    have l1 := cutS_length B none (some (p : Int))
    have l2 := cutS_length B (some (p : Int)) (some (z : Int))
    have l3 : (⟨#[c]⟩ : Str).length = 1 := rfl
    refine tkP_of (sz_of (by omega)) ?_
    simp only [↓kn_q, ↓kn_e, ↓kq_q, ↓kp_p, ↓ps_nx, ↓ps_rt, ↓ps_bk, ↓ps_ct, ↓ps_ex, ↓tkV_val, ↓tkV_own, ↓tkVR_val, ↓tkVR_own, ↓tkO_own, ↓tkA_val, ↓tkB_bl, ↓tkI_int, ↓tkStr_str, ↓tkC_obj, ↓tkSm_some, ↓tkSm_map, ↓tkSm_bind, ↓tkSm_ite, ↓tkP_t, ↓tkIf_t, ↓tkIf_f, ↓tkT_t, ↓tk_ok, ↓tk_exc, ↓tk_bind, ↓tk_lift, ↓tks_nx, ↓tks_rt, ↓tks_eS, ↓tks_seq, ↓tks_next, ↓tks_brk, ↓tks_cnt, ↓tks_drop, ↓tks_ret, ↓tks_retN, ↓tks_if, ↓tks_frz, ↓tks_set, ↓tks_setO, ↓tks_par, ↓tks_mut, ↓tks_app, ↓tks_store, ↓tks_fld, ↓tks_aug, ↓tks_for, ↓tks_for0, ↓tk_var, ↓tk_varR, ↓tk_c, ↓tk_bin, ↓tk_test, ↓tk_tnot, ↓tk_yes, ↓tk_tand, ↓tk_tor, ↓tk_call, ↓tk_fn, ↓tk_mkF, ↓tk_nil, ↓tk_cons, ↓tk_attr, ↓tk_meth, ↓tk_xif, ↓tk_seqI, ↓tk_enum, ↓tk_rng1, ↓tk_rng2, ↓tk_loc, ↓tk_lc, ↓tk_neg, ↓tk_no, ↓tk_part, ↓tk_sl, ↓tk_xsNil, ↓tk_xsV, ↓tk_xsO, ↓tk_xnot, ↓tk_xand, ↓tk_xor, ↓tk_lst, ↓tk_tup, ↓tk_sz, ↓tk_chain, ↓tk_s1, ↓tk_maxDf, ↓tk_star, List.getElem?_cons_zero, List.getElem?_cons_succ, List.set_cons_zero, List.set_cons_succ, List.map_cons, List.map_nil, List.cons_append, List.nil_append, List.append_assoc, tkJ_own, frzG, putS, wipeG, pVar, pTup, psCons, psNil, atD, ixD_lst, ixD_tup, ixD_scr, at_0, at_1, at_2, at_3, at_4, at_5, at_6, at_7, lenD, intC, absC, max2C, min2C, addD, intD, cmpD, yesC, slD, seqD, enumD, stD, sumC, allC, anyC, tupC, maxC, Option.bind_some, Option.map_some, List.lookup_cons, List.lookup_nil, List.length_cons, List.length_nil, Bool.not_true, Bool.not_false, Bool.and_self, Bool.true_and, Bool.and_true, Bool.false_and, Bool.and_false, Bool.or_true, Bool.true_or, Bool.false_or, Bool.or_false, reduceIte, decide_true, decide_false, if_true, if_false, List.replicate_succ, List.replicate_zero, Nat.reduceAdd, Nat.reduceSub, Nat.zero_add, List.mem_cons, List.not_mem_nil, or_false, false_or, not_false_eq_true, reduceCtorEq, ne_eq, and_self, and_true, true_and, Nat.reduceLT, Nat.reduceLeDiff, beq_self_eq_true, Nat.reduceEqDiff, Nat.add_one_ne_zero, modC, divC, mulC, powC, Int.reduceLT, Int.reduceLE, Int.reduceNeg, Int.reducePow, Int.reduceToNat, Int.reduceEq, Nat.reducePow, Int.zero_add, eqL, eqD, eqB, neD, isD, sz_0, sz_1, sz_2, sz_3, sz_4, sz_5, sz_6, sz_7, sz_8, sz_9, sz_10, sz_11, sz_12, sz_13, sz_14, sz_15, sz_16, sz_17, sz_18, sz_19, sz_20, sz_21, sz_22, sz_23, sz_24, sz_25, sz_26, sz_27, sz_28, sz_29, sz_30, nc_0, nc_1, nc_2, nc_3, nc_4, nc_5, nc_6, nc_7, nc_8, nc_9, nc_10, nc_11, nc_12, nc_13, nc_14, nc_15, nc_16, nc_17, nc_18, nc_19, nc_20, nc_21, nc_22, nc_23, nc_24, nc_25, nc_26, nc_27, nc_28, nc_29, nc_30, isiT, isiK, isiC, isiM, tyNames, tagD, tb0_NoneType, tb0_bool, tb0_int, tb0_str, tb0_tuple, tb0_list, tb0_Tree, tb1_NoneType, tb1_bool, tb1_int, tb1_str, tb1_tuple, tb1_list, tb1_Tree, tb2_NoneType, tb2_bool, tb2_int, tb2_str, tb2_tuple, tb2_list, tb2_Tree, tb3_NoneType, tb3_bool, tb3_int, tb3_str, tb3_tuple, tb3_list, tb3_Tree, tb4_NoneType, tb4_bool, tb4_int, tb4_str, tb4_tuple, tb4_list, tb4_Tree, tb5_NoneType, tb5_bool, tb5_int, tb5_str, tb5_tuple, tb5_list, tb5_Tree, tb6_NoneType, tb6_bool, tb6_int, tb6_str, tb6_tuple, tb6_list, tb6_Tree]
    refine tkP_of (sz_of (by omega)) ?_
    simp only [↓kn_q, ↓kn_e, ↓kq_q, ↓kp_p, ↓ps_nx, ↓ps_rt, ↓ps_bk, ↓ps_ct, ↓ps_ex, ↓tkV_val, ↓tkV_own, ↓tkVR_val, ↓tkVR_own, ↓tkO_own, ↓tkA_val, ↓tkB_bl, ↓tkI_int, ↓tkStr_str, ↓tkC_obj, ↓tkSm_some, ↓tkSm_map, ↓tkSm_bind, ↓tkSm_ite, ↓tkP_t, ↓tkIf_t, ↓tkIf_f, ↓tkT_t, ↓tk_ok, ↓tk_exc, ↓tk_bind, ↓tk_lift, ↓tks_nx, ↓tks_rt, ↓tks_eS, ↓tks_seq, ↓tks_next, ↓tks_brk, ↓tks_cnt, ↓tks_drop, ↓tks_ret, ↓tks_retN, ↓tks_if, ↓tks_frz, ↓tks_set, ↓tks_setO, ↓tks_par, ↓tks_mut, ↓tks_app, ↓tks_store, ↓tks_fld, ↓tks_aug, ↓tks_for, ↓tks_for0, ↓tk_var, ↓tk_varR, ↓tk_c, ↓tk_bin, ↓tk_test, ↓tk_tnot, ↓tk_yes, ↓tk_tand, ↓tk_tor, ↓tk_call, ↓tk_fn, ↓tk_mkF, ↓tk_nil, ↓tk_cons, ↓tk_attr, ↓tk_meth, ↓tk_xif, ↓tk_seqI, ↓tk_enum, ↓tk_rng1, ↓tk_rng2, ↓tk_loc, ↓tk_lc, ↓tk_neg, ↓tk_no, ↓tk_part, ↓tk_sl, ↓tk_xsNil, ↓tk_xsV, ↓tk_xsO, ↓tk_xnot, ↓tk_xand, ↓tk_xor, ↓tk_lst, ↓tk_tup, ↓tk_sz, ↓tk_chain, ↓tk_s1, ↓tk_maxDf, ↓tk_star, List.getElem?_cons_zero, List.getElem?_cons_succ, List.set_cons_zero, List.set_cons_succ, List.map_cons, List.map_nil, List.cons_append, List.nil_append, List.append_assoc, tkJ_own, frzG, putS, wipeG, pVar, pTup, psCons, psNil, atD, ixD_lst, ixD_tup, ixD_scr, at_0, at_1, at_2, at_3, at_4, at_5, at_6, at_7, lenD, intC, absC, max2C, min2C, addD, intD, cmpD, yesC, slD, seqD, enumD, stD, sumC, allC, anyC, tupC, maxC, Option.bind_some, Option.map_some, List.lookup_cons, List.lookup_nil, List.length_cons, List.length_nil, Bool.not_true, Bool.not_false, Bool.and_self, Bool.true_and, Bool.and_true, Bool.false_and, Bool.and_false, Bool.or_true, Bool.true_or, Bool.false_or, Bool.or_false, reduceIte, decide_true, decide_false, if_true, if_false, List.replicate_succ, List.replicate_zero, Nat.reduceAdd, Nat.reduceSub, Nat.zero_add, List.mem_cons, List.not_mem_nil, or_false, false_or, not_false_eq_true, reduceCtorEq, ne_eq, and_self, and_true, true_and, Nat.reduceLT, Nat.reduceLeDiff, beq_self_eq_true, Nat.reduceEqDiff, Nat.add_one_ne_zero, modC, divC, mulC, powC, Int.reduceLT, Int.reduceLE, Int.reduceNeg, Int.reducePow, Int.reduceToNat, Int.reduceEq, Nat.reducePow, Int.zero_add, eqL, eqD, eqB, neD, isD, sz_0, sz_1, sz_2, sz_3, sz_4, sz_5, sz_6, sz_7, sz_8, sz_9, sz_10, sz_11, sz_12, sz_13, sz_14, sz_15, sz_16, sz_17, sz_18, sz_19, sz_20, sz_21, sz_22, sz_23, sz_24, sz_25, sz_26, sz_27, sz_28, sz_29, sz_30, nc_0, nc_1, nc_2, nc_3, nc_4, nc_5, nc_6, nc_7, nc_8, nc_9, nc_10, nc_11, nc_12, nc_13, nc_14, nc_15, nc_16, nc_17, nc_18, nc_19, nc_20, nc_21, nc_22, nc_23, nc_24, nc_25, nc_26, nc_27, nc_28, nc_29, nc_30, isiT, isiK, isiC, isiM, tyNames, tagD, tb0_NoneType, tb0_bool, tb0_int, tb0_str, tb0_tuple, tb0_list, tb0_Tree, tb1_NoneType, tb1_bool, tb1_int, tb1_str, tb1_tuple, tb1_list, tb1_Tree, tb2_NoneType, tb2_bool, tb2_int, tb2_str, tb2_tuple, tb2_list, tb2_Tree, tb3_NoneType, tb3_bool, tb3_int, tb3_str, tb3_tuple, tb3_list, tb3_Tree, tb4_NoneType, tb4_bool, tb4_int, tb4_str, tb4_tuple, tb4_list, tb4_Tree, tb5_NoneType, tb5_bool, tb5_int, tb5_str, tb5_tuple, tb5_list, tb5_Tree, tb6_NoneType, tb6_bool, tb6_int, tb6_str, tb6_tuple, tb6_list, tb6_Tree]
    refine tkP_of (sz_of (by omega)) ?_
    simp only [↓kn_q, ↓kn_e, ↓kq_q, ↓kp_p, ↓ps_nx, ↓ps_rt, ↓ps_bk, ↓ps_ct, ↓ps_ex, ↓tkV_val, ↓tkV_own, ↓tkVR_val, ↓tkVR_own, ↓tkO_own, ↓tkA_val, ↓tkB_bl, ↓tkI_int, ↓tkStr_str, ↓tkC_obj, ↓tkSm_some, ↓tkSm_map, ↓tkSm_bind, ↓tkSm_ite, ↓tkP_t, ↓tkIf_t, ↓tkIf_f, ↓tkT_t, ↓tk_ok, ↓tk_exc, ↓tk_bind, ↓tk_lift, ↓tks_nx, ↓tks_rt, ↓tks_eS, ↓tks_seq, ↓tks_next, ↓tks_brk, ↓tks_cnt, ↓tks_drop, ↓tks_ret, ↓tks_retN, ↓tks_if, ↓tks_frz, ↓tks_set, ↓tks_setO, ↓tks_par, ↓tks_mut, ↓tks_app, ↓tks_store, ↓tks_fld, ↓tks_aug, ↓tks_for, ↓tks_for0, ↓tk_var, ↓tk_varR, ↓tk_c, ↓tk_bin, ↓tk_test, ↓tk_tnot, ↓tk_yes, ↓tk_tand, ↓tk_tor, ↓tk_call, ↓tk_fn, ↓tk_mkF, ↓tk_nil, ↓tk_cons, ↓tk_attr, ↓tk_meth, ↓tk_xif, ↓tk_seqI, ↓tk_enum, ↓tk_rng1, ↓tk_rng2, ↓tk_loc, ↓tk_lc, ↓tk_neg, ↓tk_no, ↓tk_part, ↓tk_sl, ↓tk_xsNil, ↓tk_xsV, ↓tk_xsO, ↓tk_xnot, ↓tk_xand, ↓tk_xor, ↓tk_lst, ↓tk_tup, ↓tk_sz, ↓tk_chain, ↓tk_s1, ↓tk_maxDf, ↓tk_star, List.getElem?_cons_zero, List.getElem?_cons_succ, List.set_cons_zero, List.set_cons_succ, List.map_cons, List.map_nil, List.cons_append, List.nil_append, List.append_assoc, tkJ_own, frzG, putS, wipeG, pVar, pTup, psCons, psNil, atD, ixD_lst, ixD_tup, ixD_scr, at_0, at_1, at_2, at_3, at_4, at_5, at_6, at_7, lenD, intC, absC, max2C, min2C, addD, intD, cmpD, yesC, slD, seqD, enumD, stD, sumC, allC, anyC, tupC, maxC, Option.bind_some, Option.map_some, List.lookup_cons, List.lookup_nil, List.length_cons, List.length_nil, Bool.not_true, Bool.not_false, Bool.and_self, Bool.true_and, Bool.and_true, Bool.false_and, Bool.and_false, Bool.or_true, Bool.true_or, Bool.false_or, Bool.or_false, reduceIte, decide_true, decide_false, if_true, if_false, List.replicate_succ, List.replicate_zero, Nat.reduceAdd, Nat.reduceSub, Nat.zero_add, List.mem_cons, List.not_mem_nil, or_false, false_or, not_false_eq_true, reduceCtorEq, ne_eq, and_self, and_true, true_and, Nat.reduceLT, Nat.reduceLeDiff, beq_self_eq_true, Nat.reduceEqDiff, Nat.add_one_ne_zero, modC, divC, mulC, powC, Int.reduceLT, Int.reduceLE, Int.reduceNeg, Int.reducePow, Int.reduceToNat, Int.reduceEq, Nat.reducePow, Int.zero_add, eqL, eqD, eqB, neD, isD, sz_0, sz_1, sz_2, sz_3, sz_4, sz_5, sz_6, sz_7, sz_8, sz_9, sz_10, sz_11, sz_12, sz_13, sz_14, sz_15, sz_16, sz_17, sz_18, sz_19, sz_20, sz_21, sz_22, sz_23, sz_24, sz_25, sz_26, sz_27, sz_28, sz_29, sz_30, nc_0, nc_1, nc_2, nc_3, nc_4, nc_5, nc_6, nc_7, nc_8, nc_9, nc_10, nc_11, nc_12, nc_13, nc_14, nc_15, nc_16, nc_17, nc_18, nc_19, nc_20, nc_21, nc_22, nc_23, nc_24, nc_25, nc_26, nc_27, nc_28, nc_29, nc_30, isiT, isiK, isiC, isiM, tyNames, tagD, tb0_NoneType, tb0_bool, tb0_int, tb0_str, tb0_tuple, tb0_list, tb0_Tree, tb1_NoneType, tb1_bool, tb1_int, tb1_str, tb1_tuple, tb1_list, tb1_Tree, tb2_NoneType, tb2_bool, tb2_int, tb2_str, tb2_tuple, tb2_list, tb2_Tree, tb3_NoneType, tb3_bool, tb3_int, tb3_str, tb3_tuple, tb3_list, tb3_Tree, tb4_NoneType, tb4_bool, tb4_int, tb4_str, tb4_tuple, tb4_list, tb4_Tree, tb5_NoneType, tb5_bool, tb5_int, tb5_str, tb5_tuple, tb5_list, tb5_Tree, tb6_NoneType, tb6_bool, tb6_int, tb6_str, tb6_tuple, tb6_list, tb6_Tree]
    refine tkP_of (sz_of (by rw [len_app]; omega)) ?_
    simp only [↓kn_q, ↓kn_e, ↓kq_q, ↓kp_p, ↓ps_nx, ↓ps_rt, ↓ps_bk, ↓ps_ct, ↓ps_ex, ↓tkV_val, ↓tkV_own, ↓tkVR_val, ↓tkVR_own, ↓tkO_own, ↓tkA_val, ↓tkB_bl, ↓tkI_int, ↓tkStr_str, ↓tkC_obj, ↓tkSm_some, ↓tkSm_map, ↓tkSm_bind, ↓tkSm_ite, ↓tkP_t, ↓tkIf_t, ↓tkIf_f, ↓tkT_t, ↓tk_ok, ↓tk_exc, ↓tk_bind, ↓tk_lift, ↓tks_nx, ↓tks_rt, ↓tks_eS, ↓tks_seq, ↓tks_next, ↓tks_brk, ↓tks_cnt, ↓tks_drop, ↓tks_ret, ↓tks_retN, ↓tks_if, ↓tks_frz, ↓tks_set, ↓tks_setO, ↓tks_par, ↓tks_mut, ↓tks_app, ↓tks_store, ↓tks_fld, ↓tks_aug, ↓tks_for, ↓tks_for0, ↓tk_var, ↓tk_varR, ↓tk_c, ↓tk_bin, ↓tk_test, ↓tk_tnot, ↓tk_yes, ↓tk_tand, ↓tk_tor, ↓tk_call, ↓tk_fn, ↓tk_mkF, ↓tk_nil, ↓tk_cons, ↓tk_attr, ↓tk_meth, ↓tk_xif, ↓tk_seqI, ↓tk_enum, ↓tk_rng1, ↓tk_rng2, ↓tk_loc, ↓tk_lc, ↓tk_neg, ↓tk_no, ↓tk_part, ↓tk_sl, ↓tk_xsNil, ↓tk_xsV, ↓tk_xsO, ↓tk_xnot, ↓tk_xand, ↓tk_xor, ↓tk_lst, ↓tk_tup, ↓tk_sz, ↓tk_chain, ↓tk_s1, ↓tk_maxDf, ↓tk_star, List.getElem?_cons_zero, List.getElem?_cons_succ, List.set_cons_zero, List.set_cons_succ, List.map_cons, List.map_nil, List.cons_append, List.nil_append, List.append_assoc, tkJ_own, frzG, putS, wipeG, pVar, pTup, psCons, psNil, atD, ixD_lst, ixD_tup, ixD_scr, at_0, at_1, at_2, at_3, at_4, at_5, at_6, at_7, lenD, intC, absC, max2C, min2C, addD, intD, cmpD, yesC, slD, seqD, enumD, stD, sumC, allC, anyC, tupC, maxC, Option.bind_some, Option.map_some, List.lookup_cons, List.lookup_nil, List.length_cons, List.length_nil, Bool.not_true, Bool.not_false, Bool.and_self, Bool.true_and, Bool.and_true, Bool.false_and, Bool.and_false, Bool.or_true, Bool.true_or, Bool.false_or, Bool.or_false, reduceIte, decide_true, decide_false, if_true, if_false, List.replicate_succ, List.replicate_zero, Nat.reduceAdd, Nat.reduceSub, Nat.zero_add, List.mem_cons, List.not_mem_nil, or_false, false_or, not_false_eq_true, reduceCtorEq, ne_eq, and_self, and_true, true_and, Nat.reduceLT, Nat.reduceLeDiff, beq_self_eq_true, Nat.reduceEqDiff, Nat.add_one_ne_zero, modC, divC, mulC, powC, Int.reduceLT, Int.reduceLE, Int.reduceNeg, Int.reducePow, Int.reduceToNat, Int.reduceEq, Nat.reducePow, Int.zero_add, eqL, eqD, eqB, neD, isD, sz_0, sz_1, sz_2, sz_3, sz_4, sz_5, sz_6, sz_7, sz_8, sz_9, sz_10, sz_11, sz_12, sz_13, sz_14, sz_15, sz_16, sz_17, sz_18, sz_19, sz_20, sz_21, sz_22, sz_23, sz_24, sz_25, sz_26, sz_27, sz_28, sz_29, sz_30, nc_0, nc_1, nc_2, nc_3, nc_4, nc_5, nc_6, nc_7, nc_8, nc_9, nc_10, nc_11, nc_12, nc_13, nc_14, nc_15, nc_16, nc_17, nc_18, nc_19, nc_20, nc_21, nc_22, nc_23, nc_24, nc_25, nc_26, nc_27, nc_28, nc_29, nc_30, isiT, isiK, isiC, isiM, tyNames, tagD, tb0_NoneType, tb0_bool, tb0_int, tb0_str, tb0_tuple, tb0_list, tb0_Tree, tb1_NoneType, tb1_bool, tb1_int, tb1_str, tb1_tuple, tb1_list, tb1_Tree, tb2_NoneType, tb2_bool, tb2_int, tb2_str, tb2_tuple, tb2_list, tb2_Tree, tb3_NoneType, tb3_bool, tb3_int, tb3_str, tb3_tuple, tb3_list, tb3_Tree, tb4_NoneType, tb4_bool, tb4_int, tb4_str, tb4_tuple, tb4_list, tb4_Tree, tb5_NoneType, tb5_bool, tb5_int, tb5_str, tb5_tuple, tb5_list, tb5_Tree, tb6_NoneType, tb6_bool, tb6_int, tb6_str, tb6_tuple, tb6_list, tb6_Tree]
    exact ⟨⟨_, rfl, nm⟩, hs⟩
  simp only [↓kn_q, ↓kn_e, ↓kq_q, ↓kp_p, ↓ps_nx, ↓ps_rt, ↓ps_bk, ↓ps_ct, ↓ps_ex, ↓tkV_val, ↓tkV_own, ↓tkVR_val, ↓tkVR_own, ↓tkO_own, ↓tkA_val, ↓tkB_bl, ↓tkI_int, ↓tkStr_str, ↓tkC_obj, ↓tkSm_some, ↓tkSm_map, ↓tkSm_bind, ↓tkSm_ite, ↓tkP_t, ↓tkIf_t, ↓tkIf_f, ↓tkT_t, ↓tk_ok, ↓tk_exc, ↓tk_bind, ↓tk_lift, ↓tks_nx, ↓tks_rt, ↓tks_eS, ↓tks_seq, ↓tks_next, ↓tks_brk, ↓tks_cnt, ↓tks_drop, ↓tks_ret, ↓tks_retN, ↓tks_if, ↓tks_frz, ↓tks_set, ↓tks_setO, ↓tks_par, ↓tks_mut, ↓tks_app, ↓tks_store, ↓tks_fld, ↓tks_aug, ↓tks_for, ↓tks_for0, ↓tk_var, ↓tk_varR, ↓tk_c, ↓tk_bin, ↓tk_test, ↓tk_tnot, ↓tk_yes, ↓tk_tand, ↓tk_tor, ↓tk_call, ↓tk_fn, ↓tk_mkF, ↓tk_nil, ↓tk_cons, ↓tk_attr, ↓tk_meth, ↓tk_xif, ↓tk_seqI, ↓tk_enum, ↓tk_rng1, ↓tk_rng2, ↓tk_loc, ↓tk_lc, ↓tk_neg, ↓tk_no, ↓tk_part, ↓tk_sl, ↓tk_xsNil, ↓tk_xsV, ↓tk_xsO, ↓tk_xnot, ↓tk_xand, ↓tk_xor, ↓tk_lst, ↓tk_tup, ↓tk_sz, ↓tk_chain, ↓tk_s1, ↓tk_maxDf, ↓tk_star, List.getElem?_cons_zero, List.getElem?_cons_succ, List.set_cons_zero, List.set_cons_succ, List.map_cons, List.map_nil, List.cons_append, List.nil_append, List.append_assoc, tkJ_own, frzG, putS, wipeG, pVar, pTup, psCons, psNil, atD, ixD_lst, ixD_tup, ixD_scr, at_0, at_1, at_2, at_3, at_4, at_5, at_6, at_7, lenD, intC, absC, max2C, min2C, addD, intD, cmpD, yesC, slD, seqD, enumD, stD, sumC, allC, anyC, tupC, maxC, Option.bind_some, Option.map_some, List.lookup_cons, List.lookup_nil, List.length_cons, List.length_nil, Bool.not_true, Bool.not_false, Bool.and_self, Bool.true_and, Bool.and_true, Bool.false_and, Bool.and_false, Bool.or_true, Bool.true_or, Bool.false_or, Bool.or_false, reduceIte, decide_true, decide_false, if_true, if_false, List.replicate_succ, List.replicate_zero, Nat.reduceAdd, Nat.reduceSub, Nat.zero_add, List.mem_cons, List.not_mem_nil, or_false, false_or, not_false_eq_true, reduceCtorEq, ne_eq, and_self, and_true, true_and, Nat.reduceLT, Nat.reduceLeDiff, beq_self_eq_true, Nat.reduceEqDiff, Nat.add_one_ne_zero, modC, divC, mulC, powC, Int.reduceLT, Int.reduceLE, Int.reduceNeg, Int.reducePow, Int.reduceToNat, Int.reduceEq, Nat.reducePow, Int.zero_add, eqL, eqD, eqB, neD, isD, sz_0, sz_1, sz_2, sz_3, sz_4, sz_5, sz_6, sz_7, sz_8, sz_9, sz_10, sz_11, sz_12, sz_13, sz_14, sz_15, sz_16, sz_17, sz_18, sz_19, sz_20, sz_21, sz_22, sz_23, sz_24, sz_25, sz_26, sz_27, sz_28, sz_29, sz_30, nc_0, nc_1, nc_2, nc_3, nc_4, nc_5, nc_6, nc_7, nc_8, nc_9, nc_10, nc_11, nc_12, nc_13, nc_14, nc_15, nc_16, nc_17, nc_18, nc_19, nc_20, nc_21, nc_22, nc_23, nc_24, nc_25, nc_26, nc_27, nc_28, nc_29, nc_30, isiT, isiK, isiC, isiM, tyNames, tagD, tb0_NoneType, tb0_bool, tb0_int, tb0_str, tb0_tuple, tb0_list, tb0_Tree, tb1_NoneType, tb1_bool, tb1_int, tb1_str, tb1_tuple, tb1_list, tb1_Tree, tb2_NoneType, tb2_bool, tb2_int, tb2_str, tb2_tuple, tb2_list, tb2_Tree, tb3_NoneType, tb3_bool, tb3_int, tb3_str, tb3_tuple, tb3_list, tb3_Tree, tb4_NoneType, tb4_bool, tb4_int, tb4_str, tb4_tuple, tb4_list, tb4_Tree, tb5_NoneType, tb5_bool, tb5_int, tb5_str, tb5_tuple, tb5_list, tb5_Tree, tb6_NoneType, tb6_bool, tb6_int, tb6_str, tb6_tuple, tb6_list, tb6_Tree]
  refine hq us s8 (fun y hy => ?_) ?_ h8
  · obtain ⟨_, _, p⟩ := a8.mem y hy
    exact p
  · rw [a8.len, zl]
    rfl
/-! ### trees -/
theorem nq_kind_children : ((Str.ofString "kind") = (Str.ofString "children")) = False := eq_false (by decide +kernel)
theorem nb_kind_children : ((Str.ofString "kind") == (Str.ofString "children")) = false := by decide +kernel
theorem nq_kind_size : ((Str.ofString "kind") = (Str.ofString "size")) = False := eq_false (by decide +kernel)
theorem nb_kind_size : ((Str.ofString "kind") == (Str.ofString "size")) = false := by decide +kernel
theorem nq_kind_depth : ((Str.ofString "kind") = (Str.ofString "depth")) = False := eq_false (by decide +kernel)
theorem nb_kind_depth : ((Str.ofString "kind") == (Str.ofString "depth")) = false := by decide +kernel
theorem nq_children_kind : ((Str.ofString "children") = (Str.ofString "kind")) = False := eq_false (by decide +kernel)
theorem nb_children_kind : ((Str.ofString "children") == (Str.ofString "kind")) = false := by decide +kernel
theorem nq_children_size : ((Str.ofString "children") = (Str.ofString "size")) = False := eq_false (by decide +kernel)
theorem nb_children_size : ((Str.ofString "children") == (Str.ofString "size")) = false := by decide +kernel
theorem nq_children_depth : ((Str.ofString "children") = (Str.ofString "depth")) = False := eq_false (by decide +kernel)
theorem nb_children_depth : ((Str.ofString "children") == (Str.ofString "depth")) = false := by decide +kernel
theorem nq_size_kind : ((Str.ofString "size") = (Str.ofString "kind")) = False := eq_false (by decide +kernel)
theorem nb_size_kind : ((Str.ofString "size") == (Str.ofString "kind")) = false := by decide +kernel
theorem nq_size_children : ((Str.ofString "size") = (Str.ofString "children")) = False := eq_false (by decide +kernel)
theorem nb_size_children : ((Str.ofString "size") == (Str.ofString "children")) = false := by decide +kernel
theorem nq_size_depth : ((Str.ofString "size") = (Str.ofString "depth")) = False := eq_false (by decide +kernel)
theorem nb_size_depth : ((Str.ofString "size") == (Str.ofString "depth")) = false := by decide +kernel
theorem nq_depth_kind : ((Str.ofString "depth") = (Str.ofString "kind")) = False := eq_false (by decide +kernel)
theorem nb_depth_kind : ((Str.ofString "depth") == (Str.ofString "kind")) = false := by decide +kernel
theorem nq_depth_children : ((Str.ofString "depth") = (Str.ofString "children")) = False := eq_false (by decide +kernel)
theorem nb_depth_children : ((Str.ofString "depth") == (Str.ofString "children")) = false := by decide +kernel
theorem nq_depth_size : ((Str.ofString "depth") = (Str.ofString "size")) = False := eq_false (by decide +kernel)
theorem nb_depth_size : ((Str.ofString "depth") == (Str.ofString "size")) = false := by decide +kernel
structure Tre (d : D) (n m : Int) : Prop where
  ob : ∃ fs, d = .obj "Tree" fs ∧ fs.lookup ("size" : Str) = some (.int n) ∧ fs.lookup ("depth" : Str) = some (.int m)
  pos : 0 ≤ m
/-- a child: a tree, or a row of trees; the trees below with sizes and depths -/
inductive Ch : D → List (D × Int × Int) → Prop where
  | tree {d : D} {n m : Int} : Tre d n m → Ch d [(d, n, m)]
  | lst {xs : List (D × Int × Int)} : (∀ x ∈ xs, Tre x.1 x.2.1 x.2.2) → xs.length ≤ 1000 → Ch (.lst (xs.map (·.1))) xs
  | tup {xs : List (D × Int × Int)} : (∀ x ∈ xs, Tre x.1 x.2.1 x.2.2) → xs.length ≤ 1000 → Ch (.tup (xs.map (·.1))) xs
theorem child_spec {d : D} {xs : List (D × Int × Int)} {s : S} {K : Kn D} (h : Ch d xs) (hq : K.q (.bl true) s) : Tk (F_iszchild [d] s) := by
  unfold F_iszchild
  refine tin_runF rfl ?_
  unfold m_iszchild
  have row : ∀ (c : D) (ys : List (D × Int × Int)), (∀ x ∈ ys, Tre x.1 x.2.1 x.2.2) → Tk (K := ⟨fun ds s' => ds = List.replicate ys.length (.bl true) ∧ s' = s, noE⟩) (lcL (pVar 1) yYes e_iszchild_1 [.val c, .un] (ys.map (·.1)) s) := by
    intro c ys hy
    refine tlc_map (fun _ => .bl true) (fun d hd => ?_) ?_
    · obtain ⟨x, hx, rfl⟩ := List.mem_map.mp hd
      obtain ⟨⟨fs, e, _, _⟩, _⟩ := hy x hx
      rw [e]
      unfold e_iszchild_1
      simp only [↓kn_q, ↓kn_e, ↓kq_q, ↓kp_p, ↓ps_nx, ↓ps_rt, ↓ps_bk, ↓ps_ct, ↓ps_ex, ↓tkV_val, ↓tkV_own, ↓tkVR_val, ↓tkVR_own, ↓tkO_own, ↓tkA_val, ↓tkB_bl, ↓tkI_int, ↓tkStr_str, ↓tkC_obj, ↓tkSm_some, ↓tkSm_map, ↓tkSm_bind, ↓tkSm_ite, ↓tkP_t, ↓tkIf_t, ↓tkIf_f, ↓tkT_t, ↓tk_ok, ↓tk_exc, ↓tk_bind, ↓tk_lift, ↓tks_nx, ↓tks_rt, ↓tks_eS, ↓tks_seq, ↓tks_next, ↓tks_brk, ↓tks_cnt, ↓tks_drop, ↓tks_ret, ↓tks_retN, ↓tks_if, ↓tks_frz, ↓tks_set, ↓tks_setO, ↓tks_par, ↓tks_mut, ↓tks_app, ↓tks_store, ↓tks_fld, ↓tks_aug, ↓tks_for, ↓tks_for0, ↓tk_var, ↓tk_varR, ↓tk_c, ↓tk_bin, ↓tk_test, ↓tk_tnot, ↓tk_yes, ↓tk_tand, ↓tk_tor, ↓tk_call, ↓tk_fn, ↓tk_mkF, ↓tk_nil, ↓tk_cons, ↓tk_attr, ↓tk_meth, ↓tk_xif, ↓tk_seqI, ↓tk_enum, ↓tk_rng1, ↓tk_rng2, ↓tk_loc, ↓tk_lc, ↓tk_neg, ↓tk_no, ↓tk_part, ↓tk_sl, ↓tk_xsNil, ↓tk_xsV, ↓tk_xsO, ↓tk_xnot, ↓tk_xand, ↓tk_xor, ↓tk_lst, ↓tk_tup, ↓tk_sz, ↓tk_chain, ↓tk_s1, ↓tk_maxDf, ↓tk_star, List.getElem?_cons_zero, List.getElem?_cons_succ, List.set_cons_zero, List.set_cons_succ, List.map_cons, List.map_nil, List.cons_append, List.nil_append, List.append_assoc, tkJ_own, frzG, putS, wipeG, pVar, pTup, psCons, psNil, atD, ixD_lst, ixD_tup, ixD_scr, at_0, at_1, at_2, at_3, at_4, at_5, at_6, at_7, lenD, intC, absC, max2C, min2C, addD, intD, cmpD, yesC, slD, seqD, enumD, stD, sumC, allC, anyC, tupC, maxC, Option.bind_some, Option.map_some, List.lookup_cons, List.lookup_nil, List.length_cons, List.length_nil, Bool.not_true, Bool.not_false, Bool.and_self, Bool.true_and, Bool.and_true, Bool.false_and, Bool.and_false, Bool.or_true, Bool.true_or, Bool.false_or, Bool.or_false, reduceIte, decide_true, decide_false, if_true, if_false, List.replicate_succ, List.replicate_zero, Nat.reduceAdd, Nat.reduceSub, Nat.zero_add, List.mem_cons, List.not_mem_nil, or_false, false_or, not_false_eq_true, reduceCtorEq, ne_eq, and_self, and_true, true_and, Nat.reduceLT, Nat.reduceLeDiff, beq_self_eq_true, Nat.reduceEqDiff, Nat.add_one_ne_zero, modC, divC, mulC, powC, Int.reduceLT, Int.reduceLE, Int.reduceNeg, Int.reducePow, Int.reduceToNat, Int.reduceEq, Nat.reducePow, Int.zero_add, eqL, eqD, eqB, neD, isD, sz_0, sz_1, sz_2, sz_3, sz_4, sz_5, sz_6, sz_7, sz_8, sz_9, sz_10, sz_11, sz_12, sz_13, sz_14, sz_15, sz_16, sz_17, sz_18, sz_19, sz_20, sz_21, sz_22, sz_23, sz_24, sz_25, sz_26, sz_27, sz_28, sz_29, sz_30, nc_0, nc_1, nc_2, nc_3, nc_4, nc_5, nc_6, nc_7, nc_8, nc_9, nc_10, nc_11, nc_12, nc_13, nc_14, nc_15, nc_16, nc_17, nc_18, nc_19, nc_20, nc_21, nc_22, nc_23, nc_24, nc_25, nc_26, nc_27, nc_28, nc_29, nc_30, isiT, isiK, isiC, isiM, tyNames, tagD, tb0_NoneType, tb0_bool, tb0_int, tb0_str, tb0_tuple, tb0_list, tb0_Tree, tb1_NoneType, tb1_bool, tb1_int, tb1_str, tb1_tuple, tb1_list, tb1_Tree, tb2_NoneType, tb2_bool, tb2_int, tb2_str, tb2_tuple, tb2_list, tb2_Tree, tb3_NoneType, tb3_bool, tb3_int, tb3_str, tb3_tuple, tb3_list, tb3_Tree, tb4_NoneType, tb4_bool, tb4_int, tb4_str, tb4_tuple, tb4_list, tb4_Tree, tb5_NoneType, tb5_bool, tb5_int, tb5_str, tb5_tuple, tb5_list, tb5_Tree, tb6_NoneType, tb6_bool, tb6_int, tb6_str, tb6_tuple, tb6_list, tb6_Tree, nq_kind_children, nb_kind_children, nq_kind_size, nb_kind_size, nq_kind_depth, nb_kind_depth, nq_children_kind, nb_children_kind, nq_children_size, nb_children_size, nq_children_depth, nb_children_depth, nq_size_kind, nb_size_kind, nq_size_children, nb_size_children, nq_size_depth, nb_size_depth, nq_depth_kind, nb_depth_kind, nq_depth_children, nb_depth_children, nq_depth_size, nb_depth_size]
    · rw [map_rep, List.length_map]
      exact ⟨rfl, rfl⟩
  cases h with
  | tree ht =>
    obtain ⟨⟨fs, rfl, _, _⟩, _⟩ := ht
    simp only [↓kn_q, ↓kn_e, ↓kq_q, ↓kp_p, ↓ps_nx, ↓ps_rt, ↓ps_bk, ↓ps_ct, ↓ps_ex, ↓tkV_val, ↓tkV_own, ↓tkVR_val, ↓tkVR_own, ↓tkO_own, ↓tkA_val, ↓tkB_bl, ↓tkI_int, ↓tkStr_str, ↓tkC_obj, ↓tkSm_some, ↓tkSm_map, ↓tkSm_bind, ↓tkSm_ite, ↓tkP_t, ↓tkIf_t, ↓tkIf_f, ↓tkT_t, ↓tk_ok, ↓tk_exc, ↓tk_bind, ↓tk_lift, ↓tks_nx, ↓tks_rt, ↓tks_eS, ↓tks_seq, ↓tks_next, ↓tks_brk, ↓tks_cnt, ↓tks_drop, ↓tks_ret, ↓tks_retN, ↓tks_if, ↓tks_frz, ↓tks_set, ↓tks_setO, ↓tks_par, ↓tks_mut, ↓tks_app, ↓tks_store, ↓tks_fld, ↓tks_aug, ↓tks_for, ↓tks_for0, ↓tk_var, ↓tk_varR, ↓tk_c, ↓tk_bin, ↓tk_test, ↓tk_tnot, ↓tk_yes, ↓tk_tand, ↓tk_tor, ↓tk_call, ↓tk_fn, ↓tk_mkF, ↓tk_nil, ↓tk_cons, ↓tk_attr, ↓tk_meth, ↓tk_xif, ↓tk_seqI, ↓tk_enum, ↓tk_rng1, ↓tk_rng2, ↓tk_loc, ↓tk_lc, ↓tk_neg, ↓tk_no, ↓tk_part, ↓tk_sl, ↓tk_xsNil, ↓tk_xsV, ↓tk_xsO, ↓tk_xnot, ↓tk_xand, ↓tk_xor, ↓tk_lst, ↓tk_tup, ↓tk_sz, ↓tk_chain, ↓tk_s1, ↓tk_maxDf, ↓tk_star, List.getElem?_cons_zero, List.getElem?_cons_succ, List.set_cons_zero, List.set_cons_succ, List.map_cons, List.map_nil, List.cons_append, List.nil_append, List.append_assoc, tkJ_own, frzG, putS, wipeG, pVar, pTup, psCons, psNil, atD, ixD_lst, ixD_tup, ixD_scr, at_0, at_1, at_2, at_3, at_4, at_5, at_6, at_7, lenD, intC, absC, max2C, min2C, addD, intD, cmpD, yesC, slD, seqD, enumD, stD, sumC, allC, anyC, tupC, maxC, Option.bind_some, Option.map_some, List.lookup_cons, List.lookup_nil, List.length_cons, List.length_nil, Bool.not_true, Bool.not_false, Bool.and_self, Bool.true_and, Bool.and_true, Bool.false_and, Bool.and_false, Bool.or_true, Bool.true_or, Bool.false_or, Bool.or_false, reduceIte, decide_true, decide_false, if_true, if_false, List.replicate_succ, List.replicate_zero, Nat.reduceAdd, Nat.reduceSub, Nat.zero_add, List.mem_cons, List.not_mem_nil, or_false, false_or, not_false_eq_true, reduceCtorEq, ne_eq, and_self, and_true, true_and, Nat.reduceLT, Nat.reduceLeDiff, beq_self_eq_true, Nat.reduceEqDiff, Nat.add_one_ne_zero, modC, divC, mulC, powC, Int.reduceLT, Int.reduceLE, Int.reduceNeg, Int.reducePow, Int.reduceToNat, Int.reduceEq, Nat.reducePow, Int.zero_add, eqL, eqD, eqB, neD, isD, sz_0, sz_1, sz_2, sz_3, sz_4, sz_5, sz_6, sz_7, sz_8, sz_9, sz_10, sz_11, sz_12, sz_13, sz_14, sz_15, sz_16, sz_17, sz_18, sz_19, sz_20, sz_21, sz_22, sz_23, sz_24, sz_25, sz_26, sz_27, sz_28, sz_29, sz_30, nc_0, nc_1, nc_2, nc_3, nc_4, nc_5, nc_6, nc_7, nc_8, nc_9, nc_10, nc_11, nc_12, nc_13, nc_14, nc_15, nc_16, nc_17, nc_18, nc_19, nc_20, nc_21, nc_22, nc_23, nc_24, nc_25, nc_26, nc_27, nc_28, nc_29, nc_30, isiT, isiK, isiC, isiM, tyNames, tagD, tb0_NoneType, tb0_bool, tb0_int, tb0_str, tb0_tuple, tb0_list, tb0_Tree, tb1_NoneType, tb1_bool, tb1_int, tb1_str, tb1_tuple, tb1_list, tb1_Tree, tb2_NoneType, tb2_bool, tb2_int, tb2_str, tb2_tuple, tb2_list, tb2_Tree, tb3_NoneType, tb3_bool, tb3_int, tb3_str, tb3_tuple, tb3_list, tb3_Tree, tb4_NoneType, tb4_bool, tb4_int, tb4_str, tb4_tuple, tb4_list, tb4_Tree, tb5_NoneType, tb5_bool, tb5_int, tb5_str, tb5_tuple, tb5_list, tb5_Tree, tb6_NoneType, tb6_bool, tb6_int, tb6_str, tb6_tuple, tb6_list, tb6_Tree, nq_kind_children, nb_kind_children, nq_kind_size, nb_kind_size, nq_kind_depth, nb_kind_depth, nq_children_kind, nb_children_kind, nq_children_size, nb_children_size, nq_children_depth, nb_children_depth, nq_size_kind, nb_size_kind, nq_size_children, nb_size_children, nq_size_depth, nb_size_depth, nq_depth_kind, nb_depth_kind, nq_depth_children, nb_depth_children, nq_depth_size, nb_depth_size]
    exact hq
  | lst hx hl =>
    simp only [↓kn_q, ↓kn_e, ↓kq_q, ↓kp_p, ↓ps_nx, ↓ps_rt, ↓ps_bk, ↓ps_ct, ↓ps_ex, ↓tkV_val, ↓tkV_own, ↓tkVR_val, ↓tkVR_own, ↓tkO_own, ↓tkA_val, ↓tkB_bl, ↓tkI_int, ↓tkStr_str, ↓tkC_obj, ↓tkSm_some, ↓tkSm_map, ↓tkSm_bind, ↓tkSm_ite, ↓tkP_t, ↓tkIf_t, ↓tkIf_f, ↓tkT_t, ↓tk_ok, ↓tk_exc, ↓tk_bind, ↓tk_lift, ↓tks_nx, ↓tks_rt, ↓tks_eS, ↓tks_seq, ↓tks_next, ↓tks_brk, ↓tks_cnt, ↓tks_drop, ↓tks_ret, ↓tks_retN, ↓tks_if, ↓tks_frz, ↓tks_set, ↓tks_setO, ↓tks_par, ↓tks_mut, ↓tks_app, ↓tks_store, ↓tks_fld, ↓tks_aug, ↓tks_for, ↓tks_for0, ↓tk_var, ↓tk_varR, ↓tk_c, ↓tk_bin, ↓tk_test, ↓tk_tnot, ↓tk_yes, ↓tk_tand, ↓tk_tor, ↓tk_call, ↓tk_fn, ↓tk_mkF, ↓tk_nil, ↓tk_cons, ↓tk_attr, ↓tk_meth, ↓tk_xif, ↓tk_seqI, ↓tk_enum, ↓tk_rng1, ↓tk_rng2, ↓tk_loc, ↓tk_lc, ↓tk_neg, ↓tk_no, ↓tk_part, ↓tk_sl, ↓tk_xsNil, ↓tk_xsV, ↓tk_xsO, ↓tk_xnot, ↓tk_xand, ↓tk_xor, ↓tk_lst, ↓tk_tup, ↓tk_sz, ↓tk_chain, ↓tk_s1, ↓tk_maxDf, ↓tk_star, List.getElem?_cons_zero, List.getElem?_cons_succ, List.set_cons_zero, List.set_cons_succ, List.map_cons, List.map_nil, List.cons_append, List.nil_append, List.append_assoc, tkJ_own, frzG, putS, wipeG, pVar, pTup, psCons, psNil, atD, ixD_lst, ixD_tup, ixD_scr, at_0, at_1, at_2, at_3, at_4, at_5, at_6, at_7, lenD, intC, absC, max2C, min2C, addD, intD, cmpD, yesC, slD, seqD, enumD, stD, sumC, allC, anyC, tupC, maxC, Option.bind_some, Option.map_some, List.lookup_cons, List.lookup_nil, List.length_cons, List.length_nil, Bool.not_true, Bool.not_false, Bool.and_self, Bool.true_and, Bool.and_true, Bool.false_and, Bool.and_false, Bool.or_true, Bool.true_or, Bool.false_or, Bool.or_false, reduceIte, decide_true, decide_false, if_true, if_false, List.replicate_succ, List.replicate_zero, Nat.reduceAdd, Nat.reduceSub, Nat.zero_add, List.mem_cons, List.not_mem_nil, or_false, false_or, not_false_eq_true, reduceCtorEq, ne_eq, and_self, and_true, true_and, Nat.reduceLT, Nat.reduceLeDiff, beq_self_eq_true, Nat.reduceEqDiff, Nat.add_one_ne_zero, modC, divC, mulC, powC, Int.reduceLT, Int.reduceLE, Int.reduceNeg, Int.reducePow, Int.reduceToNat, Int.reduceEq, Nat.reducePow, Int.zero_add, eqL, eqD, eqB, neD, isD, sz_0, sz_1, sz_2, sz_3, sz_4, sz_5, sz_6, sz_7, sz_8, sz_9, sz_10, sz_11, sz_12, sz_13, sz_14, sz_15, sz_16, sz_17, sz_18, sz_19, sz_20, sz_21, sz_22, sz_23, sz_24, sz_25, sz_26, sz_27, sz_28, sz_29, sz_30, nc_0, nc_1, nc_2, nc_3, nc_4, nc_5, nc_6, nc_7, nc_8, nc_9, nc_10, nc_11, nc_12, nc_13, nc_14, nc_15, nc_16, nc_17, nc_18, nc_19, nc_20, nc_21, nc_22, nc_23, nc_24, nc_25, nc_26, nc_27, nc_28, nc_29, nc_30, isiT, isiK, isiC, isiM, tyNames, tagD, tb0_NoneType, tb0_bool, tb0_int, tb0_str, tb0_tuple, tb0_list, tb0_Tree, tb1_NoneType, tb1_bool, tb1_int, tb1_str, tb1_tuple, tb1_list, tb1_Tree, tb2_NoneType, tb2_bool, tb2_int, tb2_str, tb2_tuple, tb2_list, tb2_Tree, tb3_NoneType, tb3_bool, tb3_int, tb3_str, tb3_tuple, tb3_list, tb3_Tree, tb4_NoneType, tb4_bool, tb4_int, tb4_str, tb4_tuple, tb4_list, tb4_Tree, tb5_NoneType, tb5_bool, tb5_int, tb5_str, tb5_tuple, tb5_list, tb5_Tree, tb6_NoneType, tb6_bool, tb6_int, tb6_str, tb6_tuple, tb6_list, tb6_Tree, nq_kind_children, nb_kind_children, nq_kind_size, nb_kind_size, nq_kind_depth, nb_kind_depth, nq_children_kind, nb_children_kind, nq_children_size, nb_children_size, nq_children_depth, nb_children_depth, nq_size_kind, nb_size_kind, nq_size_children, nb_size_children, nq_size_depth, nb_size_depth, nq_depth_kind, nb_depth_kind, nq_depth_children, nb_depth_children, nq_depth_size, nb_depth_size]
    refine tkT_of (sz_of (by rw [List.length_map]; omega)) ?_
    simp only [↓kn_q, ↓kn_e, ↓kq_q, ↓kp_p, ↓ps_nx, ↓ps_rt, ↓ps_bk, ↓ps_ct, ↓ps_ex, ↓tkV_val, ↓tkV_own, ↓tkVR_val, ↓tkVR_own, ↓tkO_own, ↓tkA_val, ↓tkB_bl, ↓tkI_int, ↓tkStr_str, ↓tkC_obj, ↓tkSm_some, ↓tkSm_map, ↓tkSm_bind, ↓tkSm_ite, ↓tkP_t, ↓tkIf_t, ↓tkIf_f, ↓tkT_t, ↓tk_ok, ↓tk_exc, ↓tk_bind, ↓tk_lift, ↓tks_nx, ↓tks_rt, ↓tks_eS, ↓tks_seq, ↓tks_next, ↓tks_brk, ↓tks_cnt, ↓tks_drop, ↓tks_ret, ↓tks_retN, ↓tks_if, ↓tks_frz, ↓tks_set, ↓tks_setO, ↓tks_par, ↓tks_mut, ↓tks_app, ↓tks_store, ↓tks_fld, ↓tks_aug, ↓tks_for, ↓tks_for0, ↓tk_var, ↓tk_varR, ↓tk_c, ↓tk_bin, ↓tk_test, ↓tk_tnot, ↓tk_yes, ↓tk_tand, ↓tk_tor, ↓tk_call, ↓tk_fn, ↓tk_mkF, ↓tk_nil, ↓tk_cons, ↓tk_attr, ↓tk_meth, ↓tk_xif, ↓tk_seqI, ↓tk_enum, ↓tk_rng1, ↓tk_rng2, ↓tk_loc, ↓tk_lc, ↓tk_neg, ↓tk_no, ↓tk_part, ↓tk_sl, ↓tk_xsNil, ↓tk_xsV, ↓tk_xsO, ↓tk_xnot, ↓tk_xand, ↓tk_xor, ↓tk_lst, ↓tk_tup, ↓tk_sz, ↓tk_chain, ↓tk_s1, ↓tk_maxDf, ↓tk_star, List.getElem?_cons_zero, List.getElem?_cons_succ, List.set_cons_zero, List.set_cons_succ, List.map_cons, List.map_nil, List.cons_append, List.nil_append, List.append_assoc, tkJ_own, frzG, putS, wipeG, pVar, pTup, psCons, psNil, atD, ixD_lst, ixD_tup, ixD_scr, at_0, at_1, at_2, at_3, at_4, at_5, at_6, at_7, lenD, intC, absC, max2C, min2C, addD, intD, cmpD, yesC, slD, seqD, enumD, stD, sumC, allC, anyC, tupC, maxC, Option.bind_some, Option.map_some, List.lookup_cons, List.lookup_nil, List.length_cons, List.length_nil, Bool.not_true, Bool.not_false, Bool.and_self, Bool.true_and, Bool.and_true, Bool.false_and, Bool.and_false, Bool.or_true, Bool.true_or, Bool.false_or, Bool.or_false, reduceIte, decide_true, decide_false, if_true, if_false, List.replicate_succ, List.replicate_zero, Nat.reduceAdd, Nat.reduceSub, Nat.zero_add, List.mem_cons, List.not_mem_nil, or_false, false_or, not_false_eq_true, reduceCtorEq, ne_eq, and_self, and_true, true_and, Nat.reduceLT, Nat.reduceLeDiff, beq_self_eq_true, Nat.reduceEqDiff, Nat.add_one_ne_zero, modC, divC, mulC, powC, Int.reduceLT, Int.reduceLE, Int.reduceNeg, Int.reducePow, Int.reduceToNat, Int.reduceEq, Nat.reducePow, Int.zero_add, eqL, eqD, eqB, neD, isD, sz_0, sz_1, sz_2, sz_3, sz_4, sz_5, sz_6, sz_7, sz_8, sz_9, sz_10, sz_11, sz_12, sz_13, sz_14, sz_15, sz_16, sz_17, sz_18, sz_19, sz_20, sz_21, sz_22, sz_23, sz_24, sz_25, sz_26, sz_27, sz_28, sz_29, sz_30, nc_0, nc_1, nc_2, nc_3, nc_4, nc_5, nc_6, nc_7, nc_8, nc_9, nc_10, nc_11, nc_12, nc_13, nc_14, nc_15, nc_16, nc_17, nc_18, nc_19, nc_20, nc_21, nc_22, nc_23, nc_24, nc_25, nc_26, nc_27, nc_28, nc_29, nc_30, isiT, isiK, isiC, isiM, tyNames, tagD, tb0_NoneType, tb0_bool, tb0_int, tb0_str, tb0_tuple, tb0_list, tb0_Tree, tb1_NoneType, tb1_bool, tb1_int, tb1_str, tb1_tuple, tb1_list, tb1_Tree, tb2_NoneType, tb2_bool, tb2_int, tb2_str, tb2_tuple, tb2_list, tb2_Tree, tb3_NoneType, tb3_bool, tb3_int, tb3_str, tb3_tuple, tb3_list, tb3_Tree, tb4_NoneType, tb4_bool, tb4_int, tb4_str, tb4_tuple, tb4_list, tb4_Tree, tb5_NoneType, tb5_bool, tb5_int, tb5_str, tb5_tuple, tb5_list, tb5_Tree, tb6_NoneType, tb6_bool, tb6_int, tb6_str, tb6_tuple, tb6_list, tb6_Tree, nq_kind_children, nb_kind_children, nq_kind_size, nb_kind_size, nq_kind_depth, nb_kind_depth, nq_children_kind, nb_children_kind, nq_children_size, nb_children_size, nq_children_depth, nb_children_depth, nq_size_kind, nb_size_kind, nq_size_children, nb_size_children, nq_size_depth, nb_size_depth, nq_depth_kind, nb_depth_kind, nq_depth_children, nb_depth_children, nq_depth_size, nb_depth_size]
    refine tk_cut _ (row _ xs hx) ?_
    rintro _ _ ⟨rfl, rfl⟩
    simp only [↓kn_q, ↓kn_e, ↓kq_q, ↓kp_p, ↓ps_nx, ↓ps_rt, ↓ps_bk, ↓ps_ct, ↓ps_ex, ↓tkV_val, ↓tkV_own, ↓tkVR_val, ↓tkVR_own, ↓tkO_own, ↓tkA_val, ↓tkB_bl, ↓tkI_int, ↓tkStr_str, ↓tkC_obj, ↓tkSm_some, ↓tkSm_map, ↓tkSm_bind, ↓tkSm_ite, ↓tkP_t, ↓tkIf_t, ↓tkIf_f, ↓tkT_t, ↓tk_ok, ↓tk_exc, ↓tk_bind, ↓tk_lift, ↓tks_nx, ↓tks_rt, ↓tks_eS, ↓tks_seq, ↓tks_next, ↓tks_brk, ↓tks_cnt, ↓tks_drop, ↓tks_ret, ↓tks_retN, ↓tks_if, ↓tks_frz, ↓tks_set, ↓tks_setO, ↓tks_par, ↓tks_mut, ↓tks_app, ↓tks_store, ↓tks_fld, ↓tks_aug, ↓tks_for, ↓tks_for0, ↓tk_var, ↓tk_varR, ↓tk_c, ↓tk_bin, ↓tk_test, ↓tk_tnot, ↓tk_yes, ↓tk_tand, ↓tk_tor, ↓tk_call, ↓tk_fn, ↓tk_mkF, ↓tk_nil, ↓tk_cons, ↓tk_attr, ↓tk_meth, ↓tk_xif, ↓tk_seqI, ↓tk_enum, ↓tk_rng1, ↓tk_rng2, ↓tk_loc, ↓tk_lc, ↓tk_neg, ↓tk_no, ↓tk_part, ↓tk_sl, ↓tk_xsNil, ↓tk_xsV, ↓tk_xsO, ↓tk_xnot, ↓tk_xand, ↓tk_xor, ↓tk_lst, ↓tk_tup, ↓tk_sz, ↓tk_chain, ↓tk_s1, ↓tk_maxDf, ↓tk_star, List.getElem?_cons_zero, List.getElem?_cons_succ, List.set_cons_zero, List.set_cons_succ, List.map_cons, List.map_nil, List.cons_append, List.nil_append, List.append_assoc, tkJ_own, frzG, putS, wipeG, pVar, pTup, psCons, psNil, atD, ixD_lst, ixD_tup, ixD_scr, at_0, at_1, at_2, at_3, at_4, at_5, at_6, at_7, lenD, intC, absC, max2C, min2C, addD, intD, cmpD, yesC, slD, seqD, enumD, stD, sumC, allC, anyC, tupC, maxC, Option.bind_some, Option.map_some, List.lookup_cons, List.lookup_nil, List.length_cons, List.length_nil, Bool.not_true, Bool.not_false, Bool.and_self, Bool.true_and, Bool.and_true, Bool.false_and, Bool.and_false, Bool.or_true, Bool.true_or, Bool.false_or, Bool.or_false, reduceIte, decide_true, decide_false, if_true, if_false, List.replicate_succ, List.replicate_zero, Nat.reduceAdd, Nat.reduceSub, Nat.zero_add, List.mem_cons, List.not_mem_nil, or_false, false_or, not_false_eq_true, reduceCtorEq, ne_eq, and_self, and_true, true_and, Nat.reduceLT, Nat.reduceLeDiff, beq_self_eq_true, Nat.reduceEqDiff, Nat.add_one_ne_zero, modC, divC, mulC, powC, Int.reduceLT, Int.reduceLE, Int.reduceNeg, Int.reducePow, Int.reduceToNat, Int.reduceEq, Nat.reducePow, Int.zero_add, eqL, eqD, eqB, neD, isD, sz_0, sz_1, sz_2, sz_3, sz_4, sz_5, sz_6, sz_7, sz_8, sz_9, sz_10, sz_11, sz_12, sz_13, sz_14, sz_15, sz_16, sz_17, sz_18, sz_19, sz_20, sz_21, sz_22, sz_23, sz_24, sz_25, sz_26, sz_27, sz_28, sz_29, sz_30, nc_0, nc_1, nc_2, nc_3, nc_4, nc_5, nc_6, nc_7, nc_8, nc_9, nc_10, nc_11, nc_12, nc_13, nc_14, nc_15, nc_16, nc_17, nc_18, nc_19, nc_20, nc_21, nc_22, nc_23, nc_24, nc_25, nc_26, nc_27, nc_28, nc_29, nc_30, isiT, isiK, isiC, isiM, tyNames, tagD, tb0_NoneType, tb0_bool, tb0_int, tb0_str, tb0_tuple, tb0_list, tb0_Tree, tb1_NoneType, tb1_bool, tb1_int, tb1_str, tb1_tuple, tb1_list, tb1_Tree, tb2_NoneType, tb2_bool, tb2_int, tb2_str, tb2_tuple, tb2_list, tb2_Tree, tb3_NoneType, tb3_bool, tb3_int, tb3_str, tb3_tuple, tb3_list, tb3_Tree, tb4_NoneType, tb4_bool, tb4_int, tb4_str, tb4_tuple, tb4_list, tb4_Tree, tb5_NoneType, tb5_bool, tb5_int, tb5_str, tb5_tuple, tb5_list, tb5_Tree, tb6_NoneType, tb6_bool, tb6_int, tb6_str, tb6_tuple, tb6_list, tb6_Tree, nq_kind_children, nb_kind_children, nq_kind_size, nb_kind_size, nq_kind_depth, nb_kind_depth, nq_children_kind, nb_children_kind, nq_children_size, nb_children_size, nq_children_depth, nb_children_depth, nq_size_kind, nb_size_kind, nq_size_children, nb_size_children, nq_size_depth, nb_size_depth, nq_depth_kind, nb_depth_kind, nq_depth_children, nb_depth_children, nq_depth_size, nb_depth_size, bls_rep]
    simpa using hq
  | tup hx hl =>
    simp only [↓kn_q, ↓kn_e, ↓kq_q, ↓kp_p, ↓ps_nx, ↓ps_rt, ↓ps_bk, ↓ps_ct, ↓ps_ex, ↓tkV_val, ↓tkV_own, ↓tkVR_val, ↓tkVR_own, ↓tkO_own, ↓tkA_val, ↓tkB_bl, ↓tkI_int, ↓tkStr_str, ↓tkC_obj, ↓tkSm_some, ↓tkSm_map, ↓tkSm_bind, ↓tkSm_ite, ↓tkP_t, ↓tkIf_t, ↓tkIf_f, ↓tkT_t, ↓tk_ok, ↓tk_exc, ↓tk_bind, ↓tk_lift, ↓tks_nx, ↓tks_rt, ↓tks_eS, ↓tks_seq, ↓tks_next, ↓tks_brk, ↓tks_cnt, ↓tks_drop, ↓tks_ret, ↓tks_retN, ↓tks_if, ↓tks_frz, ↓tks_set, ↓tks_setO, ↓tks_par, ↓tks_mut, ↓tks_app, ↓tks_store, ↓tks_fld, ↓tks_aug, ↓tks_for, ↓tks_for0, ↓tk_var, ↓tk_varR, ↓tk_c, ↓tk_bin, ↓tk_test, ↓tk_tnot, ↓tk_yes, ↓tk_tand, ↓tk_tor, ↓tk_call, ↓tk_fn, ↓tk_mkF, ↓tk_nil, ↓tk_cons, ↓tk_attr, ↓tk_meth, ↓tk_xif, ↓tk_seqI, ↓tk_enum, ↓tk_rng1, ↓tk_rng2, ↓tk_loc, ↓tk_lc, ↓tk_neg, ↓tk_no, ↓tk_part, ↓tk_sl, ↓tk_xsNil, ↓tk_xsV, ↓tk_xsO, ↓tk_xnot, ↓tk_xand, ↓tk_xor, ↓tk_lst, ↓tk_tup, ↓tk_sz, ↓tk_chain, ↓tk_s1, ↓tk_maxDf, ↓tk_star, List.getElem?_cons_zero, List.getElem?_cons_succ, List.set_cons_zero, List.set_cons_succ, List.map_cons, List.map_nil, List.cons_append, List.nil_append, List.append_assoc, tkJ_own, frzG, putS, wipeG, pVar, pTup, psCons, psNil, atD, ixD_lst, ixD_tup, ixD_scr, at_0, at_1, at_2, at_3, at_4, at_5, at_6, at_7, lenD, intC, absC, max2C, min2C, addD, intD, cmpD, yesC, slD, seqD, enumD, stD, sumC, allC, anyC, tupC, maxC, Option.bind_some, Option.map_some, List.lookup_cons, List.lookup_nil, List.length_cons, List.length_nil, Bool.not_true, Bool.not_false, Bool.and_self, Bool.true_and, Bool.and_true, Bool.false_and, Bool.and_false, Bool.or_true, Bool.true_or, Bool.false_or, Bool.or_false, reduceIte, decide_true, decide_false, if_true, if_false, List.replicate_succ, List.replicate_zero, Nat.reduceAdd, Nat.reduceSub, Nat.zero_add, List.mem_cons, List.not_mem_nil, or_false, false_or, not_false_eq_true, reduceCtorEq, ne_eq, and_self, and_true, true_and, Nat.reduceLT, Nat.reduceLeDiff, beq_self_eq_true, Nat.reduceEqDiff, Nat.add_one_ne_zero, modC, divC, mulC, powC, Int.reduceLT, Int.reduceLE, Int.reduceNeg, Int.reducePow, Int.reduceToNat, Int.reduceEq, Nat.reducePow, Int.zero_add, eqL, eqD, eqB, neD, isD, sz_0, sz_1, sz_2, sz_3, sz_4, sz_5, sz_6, sz_7, sz_8, sz_9, sz_10, sz_11, sz_12, sz_13, sz_14, sz_15, sz_16, sz_17, sz_18, sz_19, sz_20, sz_21, sz_22, sz_23, sz_24, sz_25, sz_26, sz_27, sz_28, sz_29, sz_30, nc_0, nc_1, nc_2, nc_3, nc_4, nc_5, nc_6, nc_7, nc_8, nc_9, nc_10, nc_11, nc_12, nc_13, nc_14, nc_15, nc_16, nc_17, nc_18, nc_19, nc_20, nc_21, nc_22, nc_23, nc_24, nc_25, nc_26, nc_27, nc_28, nc_29, nc_30, isiT, isiK, isiC, isiM, tyNames, tagD, tb0_NoneType, tb0_bool, tb0_int, tb0_str, tb0_tuple, tb0_list, tb0_Tree, tb1_NoneType, tb1_bool, tb1_int, tb1_str, tb1_tuple, tb1_list, tb1_Tree, tb2_NoneType, tb2_bool, tb2_int, tb2_str, tb2_tuple, tb2_list, tb2_Tree, tb3_NoneType, tb3_bool, tb3_int, tb3_str, tb3_tuple, tb3_list, tb3_Tree, tb4_NoneType, tb4_bool, tb4_int, tb4_str, tb4_tuple, tb4_list, tb4_Tree, tb5_NoneType, tb5_bool, tb5_int, tb5_str, tb5_tuple, tb5_list, tb5_Tree, tb6_NoneType, tb6_bool, tb6_int, tb6_str, tb6_tuple, tb6_list, tb6_Tree, nq_kind_children, nb_kind_children, nq_kind_size, nb_kind_size, nq_kind_depth, nb_kind_depth, nq_children_kind, nb_children_kind, nq_children_size, nb_children_size, nq_children_depth, nb_children_depth, nq_size_kind, nb_size_kind, nq_size_children, nb_size_children, nq_size_depth, nb_size_depth, nq_depth_kind, nb_depth_kind, nq_depth_children, nb_depth_children, nq_depth_size, nb_depth_size]
    refine tkT_of (sz_of (by rw [List.length_map]; omega)) ?_
    simp only [↓kn_q, ↓kn_e, ↓kq_q, ↓kp_p, ↓ps_nx, ↓ps_rt, ↓ps_bk, ↓ps_ct, ↓ps_ex, ↓tkV_val, ↓tkV_own, ↓tkVR_val, ↓tkVR_own, ↓tkO_own, ↓tkA_val, ↓tkB_bl, ↓tkI_int, ↓tkStr_str, ↓tkC_obj, ↓tkSm_some, ↓tkSm_map, ↓tkSm_bind, ↓tkSm_ite, ↓tkP_t, ↓tkIf_t, ↓tkIf_f, ↓tkT_t, ↓tk_ok, ↓tk_exc, ↓tk_bind, ↓tk_lift, ↓tks_nx, ↓tks_rt, ↓tks_eS, ↓tks_seq, ↓tks_next, ↓tks_brk, ↓tks_cnt, ↓tks_drop, ↓tks_ret, ↓tks_retN, ↓tks_if, ↓tks_frz, ↓tks_set, ↓tks_setO, ↓tks_par, ↓tks_mut, ↓tks_app, ↓tks_store, ↓tks_fld, ↓tks_aug, ↓tks_for, ↓tks_for0, ↓tk_var, ↓tk_varR, ↓tk_c, ↓tk_bin, ↓tk_test, ↓tk_tnot, ↓tk_yes, ↓tk_tand, ↓tk_tor, ↓tk_call, ↓tk_fn, ↓tk_mkF, ↓tk_nil, ↓tk_cons, ↓tk_attr, ↓tk_meth, ↓tk_xif, ↓tk_seqI, ↓tk_enum, ↓tk_rng1, ↓tk_rng2, ↓tk_loc, ↓tk_lc, ↓tk_neg, ↓tk_no, ↓tk_part, ↓tk_sl, ↓tk_xsNil, ↓tk_xsV, ↓tk_xsO, ↓tk_xnot, ↓tk_xand, ↓tk_xor, ↓tk_lst, ↓tk_tup, ↓tk_sz, ↓tk_chain, ↓tk_s1, ↓tk_maxDf, ↓tk_star, List.getElem?_cons_zero, List.getElem?_cons_succ, List.set_cons_zero, List.set_cons_succ, List.map_cons, List.map_nil, List.cons_append, List.nil_append, List.append_assoc, tkJ_own, frzG, putS, wipeG, pVar, pTup, psCons, psNil, atD, ixD_lst, ixD_tup, ixD_scr, at_0, at_1, at_2, at_3, at_4, at_5, at_6, at_7, lenD, intC, absC, max2C, min2C, addD, intD, cmpD, yesC, slD, seqD, enumD, stD, sumC, allC, anyC, tupC, maxC, Option.bind_some, Option.map_some, List.lookup_cons, List.lookup_nil, List.length_cons, List.length_nil, Bool.not_true, Bool.not_false, Bool.and_self, Bool.true_and, Bool.and_true, Bool.false_and, Bool.and_false, Bool.or_true, Bool.true_or, Bool.false_or, Bool.or_false, reduceIte, decide_true, decide_false, if_true, if_false, List.replicate_succ, List.replicate_zero, Nat.reduceAdd, Nat.reduceSub, Nat.zero_add, List.mem_cons, List.not_mem_nil, or_false, false_or, not_false_eq_true, reduceCtorEq, ne_eq, and_self, and_true, true_and, Nat.reduceLT, Nat.reduceLeDiff, beq_self_eq_true, Nat.reduceEqDiff, Nat.add_one_ne_zero, modC, divC, mulC, powC, Int.reduceLT, Int.reduceLE, Int.reduceNeg, Int.reducePow, Int.reduceToNat, Int.reduceEq, Nat.reducePow, Int.zero_add, eqL, eqD, eqB, neD, isD, sz_0, sz_1, sz_2, sz_3, sz_4, sz_5, sz_6, sz_7, sz_8, sz_9, sz_10, sz_11, sz_12, sz_13, sz_14, sz_15, sz_16, sz_17, sz_18, sz_19, sz_20, sz_21, sz_22, sz_23, sz_24, sz_25, sz_26, sz_27, sz_28, sz_29, sz_30, nc_0, nc_1, nc_2, nc_3, nc_4, nc_5, nc_6, nc_7, nc_8, nc_9, nc_10, nc_11, nc_12, nc_13, nc_14, nc_15, nc_16, nc_17, nc_18, nc_19, nc_20, nc_21, nc_22, nc_23, nc_24, nc_25, nc_26, nc_27, nc_28, nc_29, nc_30, isiT, isiK, isiC, isiM, tyNames, tagD, tb0_NoneType, tb0_bool, tb0_int, tb0_str, tb0_tuple, tb0_list, tb0_Tree, tb1_NoneType, tb1_bool, tb1_int, tb1_str, tb1_tuple, tb1_list, tb1_Tree, tb2_NoneType, tb2_bool, tb2_int, tb2_str, tb2_tuple, tb2_list, tb2_Tree, tb3_NoneType, tb3_bool, tb3_int, tb3_str, tb3_tuple, tb3_list, tb3_Tree, tb4_NoneType, tb4_bool, tb4_int, tb4_str, tb4_tuple, tb4_list, tb4_Tree, tb5_NoneType, tb5_bool, tb5_int, tb5_str, tb5_tuple, tb5_list, tb5_Tree, tb6_NoneType, tb6_bool, tb6_int, tb6_str, tb6_tuple, tb6_list, tb6_Tree, nq_kind_children, nb_kind_children, nq_kind_size, nb_kind_size, nq_kind_depth, nb_kind_depth, nq_children_kind, nb_children_kind, nq_children_size, nb_children_size, nq_children_depth, nb_children_depth, nq_size_kind, nb_size_kind, nq_size_children, nb_size_children, nq_size_depth, nb_size_depth, nq_depth_kind, nb_depth_kind, nq_depth_children, nb_depth_children, nq_depth_size, nb_depth_size]
    refine tk_cut _ (row _ xs hx) ?_
    rintro _ _ ⟨rfl, rfl⟩
    simp only [↓kn_q, ↓kn_e, ↓kq_q, ↓kp_p, ↓ps_nx, ↓ps_rt, ↓ps_bk, ↓ps_ct, ↓ps_ex, ↓tkV_val, ↓tkV_own, ↓tkVR_val, ↓tkVR_own, ↓tkO_own, ↓tkA_val, ↓tkB_bl, ↓tkI_int, ↓tkStr_str, ↓tkC_obj, ↓tkSm_some, ↓tkSm_map, ↓tkSm_bind, ↓tkSm_ite, ↓tkP_t, ↓tkIf_t, ↓tkIf_f, ↓tkT_t, ↓tk_ok, ↓tk_exc, ↓tk_bind, ↓tk_lift, ↓tks_nx, ↓tks_rt, ↓tks_eS, ↓tks_seq, ↓tks_next, ↓tks_brk, ↓tks_cnt, ↓tks_drop, ↓tks_ret, ↓tks_retN, ↓tks_if, ↓tks_frz, ↓tks_set, ↓tks_setO, ↓tks_par, ↓tks_mut, ↓tks_app, ↓tks_store, ↓tks_fld, ↓tks_aug, ↓tks_for, ↓tks_for0, ↓tk_var, ↓tk_varR, ↓tk_c, ↓tk_bin, ↓tk_test, ↓tk_tnot, ↓tk_yes, ↓tk_tand, ↓tk_tor, ↓tk_call, ↓tk_fn, ↓tk_mkF, ↓tk_nil, ↓tk_cons, ↓tk_attr, ↓tk_meth, ↓tk_xif, ↓tk_seqI, ↓tk_enum, ↓tk_rng1, ↓tk_rng2, ↓tk_loc, ↓tk_lc, ↓tk_neg, ↓tk_no, ↓tk_part, ↓tk_sl, ↓tk_xsNil, ↓tk_xsV, ↓tk_xsO, ↓tk_xnot, ↓tk_xand, ↓tk_xor, ↓tk_lst, ↓tk_tup, ↓tk_sz, ↓tk_chain, ↓tk_s1, ↓tk_maxDf, ↓tk_star, List.getElem?_cons_zero, List.getElem?_cons_succ, List.set_cons_zero, List.set_cons_succ, List.map_cons, List.map_nil, List.cons_append, List.nil_append, List.append_assoc, tkJ_own, frzG, putS, wipeG, pVar, pTup, psCons, psNil, atD, ixD_lst, ixD_tup, ixD_scr, at_0, at_1, at_2, at_3, at_4, at_5, at_6, at_7, lenD, intC, absC, max2C, min2C, addD, intD, cmpD, yesC, slD, seqD, enumD, stD, sumC, allC, anyC, tupC, maxC, Option.bind_some, Option.map_some, List.lookup_cons, List.lookup_nil, List.length_cons, List.length_nil, Bool.not_true, Bool.not_false, Bool.and_self, Bool.true_and, Bool.and_true, Bool.false_and, Bool.and_false, Bool.or_true, Bool.true_or, Bool.false_or, Bool.or_false, reduceIte, decide_true, decide_false, if_true, if_false, List.replicate_succ, List.replicate_zero, Nat.reduceAdd, Nat.reduceSub, Nat.zero_add, List.mem_cons, List.not_mem_nil, or_false, false_or, not_false_eq_true, reduceCtorEq, ne_eq, and_self, and_true, true_and, Nat.reduceLT, Nat.reduceLeDiff, beq_self_eq_true, Nat.reduceEqDiff, Nat.add_one_ne_zero, modC, divC, mulC, powC, Int.reduceLT, Int.reduceLE, Int.reduceNeg, Int.reducePow, Int.reduceToNat, Int.reduceEq, Nat.reducePow, Int.zero_add, eqL, eqD, eqB, neD, isD, sz_0, sz_1, sz_2, sz_3, sz_4, sz_5, sz_6, sz_7, sz_8, sz_9, sz_10, sz_11, sz_12, sz_13, sz_14, sz_15, sz_16, sz_17, sz_18, sz_19, sz_20, sz_21, sz_22, sz_23, sz_24, sz_25, sz_26, sz_27, sz_28, sz_29, sz_30, nc_0, nc_1, nc_2, nc_3, nc_4, nc_5, nc_6, nc_7, nc_8, nc_9, nc_10, nc_11, nc_12, nc_13, nc_14, nc_15, nc_16, nc_17, nc_18, nc_19, nc_20, nc_21, nc_22, nc_23, nc_24, nc_25, nc_26, nc_27, nc_28, nc_29, nc_30, isiT, isiK, isiC, isiM, tyNames, tagD, tb0_NoneType, tb0_bool, tb0_int, tb0_str, tb0_tuple, tb0_list, tb0_Tree, tb1_NoneType, tb1_bool, tb1_int, tb1_str, tb1_tuple, tb1_list, tb1_Tree, tb2_NoneType, tb2_bool, tb2_int, tb2_str, tb2_tuple, tb2_list, tb2_Tree, tb3_NoneType, tb3_bool, tb3_int, tb3_str, tb3_tuple, tb3_list, tb3_Tree, tb4_NoneType, tb4_bool, tb4_int, tb4_str, tb4_tuple, tb4_list, tb4_Tree, tb5_NoneType, tb5_bool, tb5_int, tb5_str, tb5_tuple, tb5_list, tb5_Tree, tb6_NoneType, tb6_bool, tb6_int, tb6_str, tb6_tuple, tb6_list, tb6_Tree, nq_kind_children, nb_kind_children, nq_kind_size, nb_kind_size, nq_kind_depth, nb_kind_depth, nq_children_kind, nb_children_kind, nq_children_size, nb_children_size, nq_children_depth, nb_children_depth, nq_size_kind, nb_size_kind, nq_size_children, nb_size_children, nq_size_depth, nb_size_depth, nq_depth_kind, nb_depth_kind, nq_depth_children, nb_depth_children, nq_depth_size, nb_depth_size, bls_rep]
    simpa using hq
/-- a row as a tuple -/
def tz : D → D
  | .lst xs => .tup xs
  | d => d
abbrev Row := List (D × List (D × Int × Int))
abbrev trs (ps : Row) : List (D × Int × Int) := ps.flatMap (·.2)
theorem below_loop {self : D} {s : S} {P : Ps} : ∀ (ps : Row) (acc : List D) (x : Sl), (∀ p ∈ ps, Ch p.1 p.2) → acc.length + (trs ps).length ≤ 1000 →
    (∀ x, P.nx [.val self, .own (.lst (acc ++ (trs ps).map (·.1))), x] s) → TkS (forL (pVar 2) L_Treezbelow_1 (ps.map fun p => tz p.1) [.val self, .own (.lst acc), x] s)
  | [], acc, x, _, _, hq => by
    have := hq x
    simp only [trs, List.flatMap_nil, List.map_nil, List.append_nil] at this
    rw [List.map_nil, tks_for0]
    exact this
  | p :: ps, acc, x, hp, hl, hq => by
    have hc := hp p List.mem_cons_self
    have e : trs (p :: ps) = p.2 ++ trs ps := by simp [trs]
    rw [e, List.length_append] at hl
    rw [e] at hq
    have rec_ : ∀ x, TkS (forL (pVar 2) L_Treezbelow_1 (ps.map fun p => tz p.1) [.val self, .own (.lst (acc ++ p.2.map (·.1))), x] s) := fun x =>
      below_loop ps (acc ++ p.2.map (·.1)) x (fun q h => hp q (List.mem_cons_of_mem _ h)) (by rw [List.length_append, List.length_map]; omega) fun x => by
        have := hq x
        rw [List.map_append, ← List.append_assoc] at this
        exact this
    obtain ⟨c, xs⟩ := p
    replace hc : Ch c xs := hc
    rw [List.map_cons, tks_for1]
    unfold L_Treezbelow_1
    cases hc with
    | tree ht =>
      obtain ⟨⟨fs, rfl, _, _⟩, _⟩ := ht
      simp only [↓kn_q, ↓kn_e, ↓kq_q, ↓kp_p, ↓ps_nx, ↓ps_rt, ↓ps_bk, ↓ps_ct, ↓ps_ex, ↓tkV_val, ↓tkV_own, ↓tkVR_val, ↓tkVR_own, ↓tkO_own, ↓tkA_val, ↓tkB_bl, ↓tkI_int, ↓tkStr_str, ↓tkC_obj, ↓tkSm_some, ↓tkSm_map, ↓tkSm_bind, ↓tkSm_ite, ↓tkP_t, ↓tkIf_t, ↓tkIf_f, ↓tkT_t, ↓tk_ok, ↓tk_exc, ↓tk_bind, ↓tk_lift, ↓tks_nx, ↓tks_rt, ↓tks_eS, ↓tks_seq, ↓tks_next, ↓tks_brk, ↓tks_cnt, ↓tks_drop, ↓tks_ret, ↓tks_retN, ↓tks_if, ↓tks_frz, ↓tks_set, ↓tks_setO, ↓tks_par, ↓tks_mut, ↓tks_app, ↓tks_store, ↓tks_fld, ↓tks_aug, ↓tks_for, ↓tks_for0, ↓tk_var, ↓tk_varR, ↓tk_c, ↓tk_bin, ↓tk_test, ↓tk_tnot, ↓tk_yes, ↓tk_tand, ↓tk_tor, ↓tk_call, ↓tk_fn, ↓tk_mkF, ↓tk_nil, ↓tk_cons, ↓tk_attr, ↓tk_meth, ↓tk_xif, ↓tk_seqI, ↓tk_enum, ↓tk_rng1, ↓tk_rng2, ↓tk_loc, ↓tk_lc, ↓tk_neg, ↓tk_no, ↓tk_part, ↓tk_sl, ↓tk_xsNil, ↓tk_xsV, ↓tk_xsO, ↓tk_xnot, ↓tk_xand, ↓tk_xor, ↓tk_lst, ↓tk_tup, ↓tk_sz, ↓tk_chain, ↓tk_s1, ↓tk_maxDf, ↓tk_star, List.getElem?_cons_zero, List.getElem?_cons_succ, List.set_cons_zero, List.set_cons_succ, List.map_cons, List.map_nil, List.cons_append, List.nil_append, List.append_assoc, tkJ_own, frzG, putS, wipeG, pVar, pTup, psCons, psNil, atD, ixD_lst, ixD_tup, ixD_scr, at_0, at_1, at_2, at_3, at_4, at_5, at_6, at_7, lenD, intC, absC, max2C, min2C, addD, intD, cmpD, yesC, slD, seqD, enumD, stD, sumC, allC, anyC, tupC, maxC, Option.bind_some, Option.map_some, List.lookup_cons, List.lookup_nil, List.length_cons, List.length_nil, Bool.not_true, Bool.not_false, Bool.and_self, Bool.true_and, Bool.and_true, Bool.false_and, Bool.and_false, Bool.or_true, Bool.true_or, Bool.false_or, Bool.or_false, reduceIte, decide_true, decide_false, if_true, if_false, List.replicate_succ, List.replicate_zero, Nat.reduceAdd, Nat.reduceSub, Nat.zero_add, List.mem_cons, List.not_mem_nil, or_false, false_or, not_false_eq_true, reduceCtorEq, ne_eq, and_self, and_true, true_and, Nat.reduceLT, Nat.reduceLeDiff, beq_self_eq_true, Nat.reduceEqDiff, Nat.add_one_ne_zero, modC, divC, mulC, powC, Int.reduceLT, Int.reduceLE, Int.reduceNeg, Int.reducePow, Int.reduceToNat, Int.reduceEq, Nat.reducePow, Int.zero_add, eqL, eqD, eqB, neD, isD, sz_0, sz_1, sz_2, sz_3, sz_4, sz_5, sz_6, sz_7, sz_8, sz_9, sz_10, sz_11, sz_12, sz_13, sz_14, sz_15, sz_16, sz_17, sz_18, sz_19, sz_20, sz_21, sz_22, sz_23, sz_24, sz_25, sz_26, sz_27, sz_28, sz_29, sz_30, nc_0, nc_1, nc_2, nc_3, nc_4, nc_5, nc_6, nc_7, nc_8, nc_9, nc_10, nc_11, nc_12, nc_13, nc_14, nc_15, nc_16, nc_17, nc_18, nc_19, nc_20, nc_21, nc_22, nc_23, nc_24, nc_25, nc_26, nc_27, nc_28, nc_29, nc_30, isiT, isiK, isiC, isiM, tyNames, tagD, tb0_NoneType, tb0_bool, tb0_int, tb0_str, tb0_tuple, tb0_list, tb0_Tree, tb1_NoneType, tb1_bool, tb1_int, tb1_str, tb1_tuple, tb1_list, tb1_Tree, tb2_NoneType, tb2_bool, tb2_int, tb2_str, tb2_tuple, tb2_list, tb2_Tree, tb3_NoneType, tb3_bool, tb3_int, tb3_str, tb3_tuple, tb3_list, tb3_Tree, tb4_NoneType, tb4_bool, tb4_int, tb4_str, tb4_tuple, tb4_list, tb4_Tree, tb5_NoneType, tb5_bool, tb5_int, tb5_str, tb5_tuple, tb5_list, tb5_Tree, tb6_NoneType, tb6_bool, tb6_int, tb6_str, tb6_tuple, tb6_list, tb6_Tree, nq_kind_children, nb_kind_children, nq_kind_size, nb_kind_size, nq_kind_depth, nb_kind_depth, nq_children_kind, nb_children_kind, nq_children_size, nb_children_size, nq_children_depth, nb_children_depth, nq_size_kind, nb_size_kind, nq_size_children, nb_size_children, nq_size_depth, nb_size_depth, nq_depth_kind, nb_depth_kind, nq_depth_children, nb_depth_children, nq_depth_size, nb_depth_size, tz]
      refine tkT_of (sz_of (by simp at hl ⊢; omega)) ?_
      simp only [↓kn_q, ↓kn_e, ↓kq_q, ↓kp_p, ↓ps_nx, ↓ps_rt, ↓ps_bk, ↓ps_ct, ↓ps_ex, ↓tkV_val, ↓tkV_own, ↓tkVR_val, ↓tkVR_own, ↓tkO_own, ↓tkA_val, ↓tkB_bl, ↓tkI_int, ↓tkStr_str, ↓tkC_obj, ↓tkSm_some, ↓tkSm_map, ↓tkSm_bind, ↓tkSm_ite, ↓tkP_t, ↓tkIf_t, ↓tkIf_f, ↓tkT_t, ↓tk_ok, ↓tk_exc, ↓tk_bind, ↓tk_lift, ↓tks_nx, ↓tks_rt, ↓tks_eS, ↓tks_seq, ↓tks_next, ↓tks_brk, ↓tks_cnt, ↓tks_drop, ↓tks_ret, ↓tks_retN, ↓tks_if, ↓tks_frz, ↓tks_set, ↓tks_setO, ↓tks_par, ↓tks_mut, ↓tks_app, ↓tks_store, ↓tks_fld, ↓tks_aug, ↓tks_for, ↓tks_for0, ↓tk_var, ↓tk_varR, ↓tk_c, ↓tk_bin, ↓tk_test, ↓tk_tnot, ↓tk_yes, ↓tk_tand, ↓tk_tor, ↓tk_call, ↓tk_fn, ↓tk_mkF, ↓tk_nil, ↓tk_cons, ↓tk_attr, ↓tk_meth, ↓tk_xif, ↓tk_seqI, ↓tk_enum, ↓tk_rng1, ↓tk_rng2, ↓tk_loc, ↓tk_lc, ↓tk_neg, ↓tk_no, ↓tk_part, ↓tk_sl, ↓tk_xsNil, ↓tk_xsV, ↓tk_xsO, ↓tk_xnot, ↓tk_xand, ↓tk_xor, ↓tk_lst, ↓tk_tup, ↓tk_sz, ↓tk_chain, ↓tk_s1, ↓tk_maxDf, ↓tk_star, List.getElem?_cons_zero, List.getElem?_cons_succ, List.set_cons_zero, List.set_cons_succ, List.map_cons, List.map_nil, List.cons_append, List.nil_append, List.append_assoc, tkJ_own, frzG, putS, wipeG, pVar, pTup, psCons, psNil, atD, ixD_lst, ixD_tup, ixD_scr, at_0, at_1, at_2, at_3, at_4, at_5, at_6, at_7, lenD, intC, absC, max2C, min2C, addD, intD, cmpD, yesC, slD, seqD, enumD, stD, sumC, allC, anyC, tupC, maxC, Option.bind_some, Option.map_some, List.lookup_cons, List.lookup_nil, List.length_cons, List.length_nil, Bool.not_true, Bool.not_false, Bool.and_self, Bool.true_and, Bool.and_true, Bool.false_and, Bool.and_false, Bool.or_true, Bool.true_or, Bool.false_or, Bool.or_false, reduceIte, decide_true, decide_false, if_true, if_false, List.replicate_succ, List.replicate_zero, Nat.reduceAdd, Nat.reduceSub, Nat.zero_add, List.mem_cons, List.not_mem_nil, or_false, false_or, not_false_eq_true, reduceCtorEq, ne_eq, and_self, and_true, true_and, Nat.reduceLT, Nat.reduceLeDiff, beq_self_eq_true, Nat.reduceEqDiff, Nat.add_one_ne_zero, modC, divC, mulC, powC, Int.reduceLT, Int.reduceLE, Int.reduceNeg, Int.reducePow, Int.reduceToNat, Int.reduceEq, Nat.reducePow, Int.zero_add, eqL, eqD, eqB, neD, isD, sz_0, sz_1, sz_2, sz_3, sz_4, sz_5, sz_6, sz_7, sz_8, sz_9, sz_10, sz_11, sz_12, sz_13, sz_14, sz_15, sz_16, sz_17, sz_18, sz_19, sz_20, sz_21, sz_22, sz_23, sz_24, sz_25, sz_26, sz_27, sz_28, sz_29, sz_30, nc_0, nc_1, nc_2, nc_3, nc_4, nc_5, nc_6, nc_7, nc_8, nc_9, nc_10, nc_11, nc_12, nc_13, nc_14, nc_15, nc_16, nc_17, nc_18, nc_19, nc_20, nc_21, nc_22, nc_23, nc_24, nc_25, nc_26, nc_27, nc_28, nc_29, nc_30, isiT, isiK, isiC, isiM, tyNames, tagD, tb0_NoneType, tb0_bool, tb0_int, tb0_str, tb0_tuple, tb0_list, tb0_Tree, tb1_NoneType, tb1_bool, tb1_int, tb1_str, tb1_tuple, tb1_list, tb1_Tree, tb2_NoneType, tb2_bool, tb2_int, tb2_str, tb2_tuple, tb2_list, tb2_Tree, tb3_NoneType, tb3_bool, tb3_int, tb3_str, tb3_tuple, tb3_list, tb3_Tree, tb4_NoneType, tb4_bool, tb4_int, tb4_str, tb4_tuple, tb4_list, tb4_Tree, tb5_NoneType, tb5_bool, tb5_int, tb5_str, tb5_tuple, tb5_list, tb5_Tree, tb6_NoneType, tb6_bool, tb6_int, tb6_str, tb6_tuple, tb6_list, tb6_Tree, nq_kind_children, nb_kind_children, nq_kind_size, nb_kind_size, nq_kind_depth, nb_kind_depth, nq_children_kind, nb_children_kind, nq_children_size, nb_children_size, nq_children_depth, nb_children_depth, nq_size_kind, nb_size_kind, nq_size_children, nb_size_children, nq_size_depth, nb_size_depth, nq_depth_kind, nb_depth_kind, nq_depth_children, nb_depth_children, nq_depth_size, nb_depth_size]
      exact rec_ _
    | lst hx hx2 =>
      simp only [↓kn_q, ↓kn_e, ↓kq_q, ↓kp_p, ↓ps_nx, ↓ps_rt, ↓ps_bk, ↓ps_ct, ↓ps_ex, ↓tkV_val, ↓tkV_own, ↓tkVR_val, ↓tkVR_own, ↓tkO_own, ↓tkA_val, ↓tkB_bl, ↓tkI_int, ↓tkStr_str, ↓tkC_obj, ↓tkSm_some, ↓tkSm_map, ↓tkSm_bind, ↓tkSm_ite, ↓tkP_t, ↓tkIf_t, ↓tkIf_f, ↓tkT_t, ↓tk_ok, ↓tk_exc, ↓tk_bind, ↓tk_lift, ↓tks_nx, ↓tks_rt, ↓tks_eS, ↓tks_seq, ↓tks_next, ↓tks_brk, ↓tks_cnt, ↓tks_drop, ↓tks_ret, ↓tks_retN, ↓tks_if, ↓tks_frz, ↓tks_set, ↓tks_setO, ↓tks_par, ↓tks_mut, ↓tks_app, ↓tks_store, ↓tks_fld, ↓tks_aug, ↓tks_for, ↓tks_for0, ↓tk_var, ↓tk_varR, ↓tk_c, ↓tk_bin, ↓tk_test, ↓tk_tnot, ↓tk_yes, ↓tk_tand, ↓tk_tor, ↓tk_call, ↓tk_fn, ↓tk_mkF, ↓tk_nil, ↓tk_cons, ↓tk_attr, ↓tk_meth, ↓tk_xif, ↓tk_seqI, ↓tk_enum, ↓tk_rng1, ↓tk_rng2, ↓tk_loc, ↓tk_lc, ↓tk_neg, ↓tk_no, ↓tk_part, ↓tk_sl, ↓tk_xsNil, ↓tk_xsV, ↓tk_xsO, ↓tk_xnot, ↓tk_xand, ↓tk_xor, ↓tk_lst, ↓tk_tup, ↓tk_sz, ↓tk_chain, ↓tk_s1, ↓tk_maxDf, ↓tk_star, List.getElem?_cons_zero, List.getElem?_cons_succ, List.set_cons_zero, List.set_cons_succ, List.map_cons, List.map_nil, List.cons_append, List.nil_append, List.append_assoc, tkJ_own, frzG, putS, wipeG, pVar, pTup, psCons, psNil, atD, ixD_lst, ixD_tup, ixD_scr, at_0, at_1, at_2, at_3, at_4, at_5, at_6, at_7, lenD, intC, absC, max2C, min2C, addD, intD, cmpD, yesC, slD, seqD, enumD, stD, sumC, allC, anyC, tupC, maxC, Option.bind_some, Option.map_some, List.lookup_cons, List.lookup_nil, List.length_cons, List.length_nil, Bool.not_true, Bool.not_false, Bool.and_self, Bool.true_and, Bool.and_true, Bool.false_and, Bool.and_false, Bool.or_true, Bool.true_or, Bool.false_or, Bool.or_false, reduceIte, decide_true, decide_false, if_true, if_false, List.replicate_succ, List.replicate_zero, Nat.reduceAdd, Nat.reduceSub, Nat.zero_add, List.mem_cons, List.not_mem_nil, or_false, false_or, not_false_eq_true, reduceCtorEq, ne_eq, and_self, and_true, true_and, Nat.reduceLT, Nat.reduceLeDiff, beq_self_eq_true, Nat.reduceEqDiff, Nat.add_one_ne_zero, modC, divC, mulC, powC, Int.reduceLT, Int.reduceLE, Int.reduceNeg, Int.reducePow, Int.reduceToNat, Int.reduceEq, Nat.reducePow, Int.zero_add, eqL, eqD, eqB, neD, isD, sz_0, sz_1, sz_2, sz_3, sz_4, sz_5, sz_6, sz_7, sz_8, sz_9, sz_10, sz_11, sz_12, sz_13, sz_14, sz_15, sz_16, sz_17, sz_18, sz_19, sz_20, sz_21, sz_22, sz_23, sz_24, sz_25, sz_26, sz_27, sz_28, sz_29, sz_30, nc_0, nc_1, nc_2, nc_3, nc_4, nc_5, nc_6, nc_7, nc_8, nc_9, nc_10, nc_11, nc_12, nc_13, nc_14, nc_15, nc_16, nc_17, nc_18, nc_19, nc_20, nc_21, nc_22, nc_23, nc_24, nc_25, nc_26, nc_27, nc_28, nc_29, nc_30, isiT, isiK, isiC, isiM, tyNames, tagD, tb0_NoneType, tb0_bool, tb0_int, tb0_str, tb0_tuple, tb0_list, tb0_Tree, tb1_NoneType, tb1_bool, tb1_int, tb1_str, tb1_tuple, tb1_list, tb1_Tree, tb2_NoneType, tb2_bool, tb2_int, tb2_str, tb2_tuple, tb2_list, tb2_Tree, tb3_NoneType, tb3_bool, tb3_int, tb3_str, tb3_tuple, tb3_list, tb3_Tree, tb4_NoneType, tb4_bool, tb4_int, tb4_str, tb4_tuple, tb4_list, tb4_Tree, tb5_NoneType, tb5_bool, tb5_int, tb5_str, tb5_tuple, tb5_list, tb5_Tree, tb6_NoneType, tb6_bool, tb6_int, tb6_str, tb6_tuple, tb6_list, tb6_Tree, nq_kind_children, nb_kind_children, nq_kind_size, nb_kind_size, nq_kind_depth, nb_kind_depth, nq_children_kind, nb_children_kind, nq_children_size, nb_children_size, nq_children_depth, nb_children_depth, nq_size_kind, nb_size_kind, nq_size_children, nb_size_children, nq_size_depth, nb_size_depth, nq_depth_kind, nb_depth_kind, nq_depth_children, nb_depth_children, nq_depth_size, nb_depth_size, tz, extG]
      refine tkP_of (sz_of (by simp at hl ⊢; omega)) ?_
      simp only [↓kn_q, ↓kn_e, ↓kq_q, ↓kp_p, ↓ps_nx, ↓ps_rt, ↓ps_bk, ↓ps_ct, ↓ps_ex, ↓tkV_val, ↓tkV_own, ↓tkVR_val, ↓tkVR_own, ↓tkO_own, ↓tkA_val, ↓tkB_bl, ↓tkI_int, ↓tkStr_str, ↓tkC_obj, ↓tkSm_some, ↓tkSm_map, ↓tkSm_bind, ↓tkSm_ite, ↓tkP_t, ↓tkIf_t, ↓tkIf_f, ↓tkT_t, ↓tk_ok, ↓tk_exc, ↓tk_bind, ↓tk_lift, ↓tks_nx, ↓tks_rt, ↓tks_eS, ↓tks_seq, ↓tks_next, ↓tks_brk, ↓tks_cnt, ↓tks_drop, ↓tks_ret, ↓tks_retN, ↓tks_if, ↓tks_frz, ↓tks_set, ↓tks_setO, ↓tks_par, ↓tks_mut, ↓tks_app, ↓tks_store, ↓tks_fld, ↓tks_aug, ↓tks_for, ↓tks_for0, ↓tk_var, ↓tk_varR, ↓tk_c, ↓tk_bin, ↓tk_test, ↓tk_tnot, ↓tk_yes, ↓tk_tand, ↓tk_tor, ↓tk_call, ↓tk_fn, ↓tk_mkF, ↓tk_nil, ↓tk_cons, ↓tk_attr, ↓tk_meth, ↓tk_xif, ↓tk_seqI, ↓tk_enum, ↓tk_rng1, ↓tk_rng2, ↓tk_loc, ↓tk_lc, ↓tk_neg, ↓tk_no, ↓tk_part, ↓tk_sl, ↓tk_xsNil, ↓tk_xsV, ↓tk_xsO, ↓tk_xnot, ↓tk_xand, ↓tk_xor, ↓tk_lst, ↓tk_tup, ↓tk_sz, ↓tk_chain, ↓tk_s1, ↓tk_maxDf, ↓tk_star, List.getElem?_cons_zero, List.getElem?_cons_succ, List.set_cons_zero, List.set_cons_succ, List.map_cons, List.map_nil, List.cons_append, List.nil_append, List.append_assoc, tkJ_own, frzG, putS, wipeG, pVar, pTup, psCons, psNil, atD, ixD_lst, ixD_tup, ixD_scr, at_0, at_1, at_2, at_3, at_4, at_5, at_6, at_7, lenD, intC, absC, max2C, min2C, addD, intD, cmpD, yesC, slD, seqD, enumD, stD, sumC, allC, anyC, tupC, maxC, Option.bind_some, Option.map_some, List.lookup_cons, List.lookup_nil, List.length_cons, List.length_nil, Bool.not_true, Bool.not_false, Bool.and_self, Bool.true_and, Bool.and_true, Bool.false_and, Bool.and_false, Bool.or_true, Bool.true_or, Bool.false_or, Bool.or_false, reduceIte, decide_true, decide_false, if_true, if_false, List.replicate_succ, List.replicate_zero, Nat.reduceAdd, Nat.reduceSub, Nat.zero_add, List.mem_cons, List.not_mem_nil, or_false, false_or, not_false_eq_true, reduceCtorEq, ne_eq, and_self, and_true, true_and, Nat.reduceLT, Nat.reduceLeDiff, beq_self_eq_true, Nat.reduceEqDiff, Nat.add_one_ne_zero, modC, divC, mulC, powC, Int.reduceLT, Int.reduceLE, Int.reduceNeg, Int.reducePow, Int.reduceToNat, Int.reduceEq, Nat.reducePow, Int.zero_add, eqL, eqD, eqB, neD, isD, sz_0, sz_1, sz_2, sz_3, sz_4, sz_5, sz_6, sz_7, sz_8, sz_9, sz_10, sz_11, sz_12, sz_13, sz_14, sz_15, sz_16, sz_17, sz_18, sz_19, sz_20, sz_21, sz_22, sz_23, sz_24, sz_25, sz_26, sz_27, sz_28, sz_29, sz_30, nc_0, nc_1, nc_2, nc_3, nc_4, nc_5, nc_6, nc_7, nc_8, nc_9, nc_10, nc_11, nc_12, nc_13, nc_14, nc_15, nc_16, nc_17, nc_18, nc_19, nc_20, nc_21, nc_22, nc_23, nc_24, nc_25, nc_26, nc_27, nc_28, nc_29, nc_30, isiT, isiK, isiC, isiM, tyNames, tagD, tb0_NoneType, tb0_bool, tb0_int, tb0_str, tb0_tuple, tb0_list, tb0_Tree, tb1_NoneType, tb1_bool, tb1_int, tb1_str, tb1_tuple, tb1_list, tb1_Tree, tb2_NoneType, tb2_bool, tb2_int, tb2_str, tb2_tuple, tb2_list, tb2_Tree, tb3_NoneType, tb3_bool, tb3_int, tb3_str, tb3_tuple, tb3_list, tb3_Tree, tb4_NoneType, tb4_bool, tb4_int, tb4_str, tb4_tuple, tb4_list, tb4_Tree, tb5_NoneType, tb5_bool, tb5_int, tb5_str, tb5_tuple, tb5_list, tb5_Tree, tb6_NoneType, tb6_bool, tb6_int, tb6_str, tb6_tuple, tb6_list, tb6_Tree, nq_kind_children, nb_kind_children, nq_kind_size, nb_kind_size, nq_kind_depth, nb_kind_depth, nq_children_kind, nb_children_kind, nq_children_size, nb_children_size, nq_children_depth, nb_children_depth, nq_size_kind, nb_size_kind, nq_size_children, nb_size_children, nq_size_depth, nb_size_depth, nq_depth_kind, nb_depth_kind, nq_depth_children, nb_depth_children, nq_depth_size, nb_depth_size]
      exact rec_ _
    | tup hx hx2 =>
      simp only [↓kn_q, ↓kn_e, ↓kq_q, ↓kp_p, ↓ps_nx, ↓ps_rt, ↓ps_bk, ↓ps_ct, ↓ps_ex, ↓tkV_val, ↓tkV_own, ↓tkVR_val, ↓tkVR_own, ↓tkO_own, ↓tkA_val, ↓tkB_bl, ↓tkI_int, ↓tkStr_str, ↓tkC_obj, ↓tkSm_some, ↓tkSm_map, ↓tkSm_bind, ↓tkSm_ite, ↓tkP_t, ↓tkIf_t, ↓tkIf_f, ↓tkT_t, ↓tk_ok, ↓tk_exc, ↓tk_bind, ↓tk_lift, ↓tks_nx, ↓tks_rt, ↓tks_eS, ↓tks_seq, ↓tks_next, ↓tks_brk, ↓tks_cnt, ↓tks_drop, ↓tks_ret, ↓tks_retN, ↓tks_if, ↓tks_frz, ↓tks_set, ↓tks_setO, ↓tks_par, ↓tks_mut, ↓tks_app, ↓tks_store, ↓tks_fld, ↓tks_aug, ↓tks_for, ↓tks_for0, ↓tk_var, ↓tk_varR, ↓tk_c, ↓tk_bin, ↓tk_test, ↓tk_tnot, ↓tk_yes, ↓tk_tand, ↓tk_tor, ↓tk_call, ↓tk_fn, ↓tk_mkF, ↓tk_nil, ↓tk_cons, ↓tk_attr, ↓tk_meth, ↓tk_xif, ↓tk_seqI, ↓tk_enum, ↓tk_rng1, ↓tk_rng2, ↓tk_loc, ↓tk_lc, ↓tk_neg, ↓tk_no, ↓tk_part, ↓tk_sl, ↓tk_xsNil, ↓tk_xsV, ↓tk_xsO, ↓tk_xnot, ↓tk_xand, ↓tk_xor, ↓tk_lst, ↓tk_tup, ↓tk_sz, ↓tk_chain, ↓tk_s1, ↓tk_maxDf, ↓tk_star, List.getElem?_cons_zero, List.getElem?_cons_succ, List.set_cons_zero, List.set_cons_succ, List.map_cons, List.map_nil, List.cons_append, List.nil_append, List.append_assoc, tkJ_own, frzG, putS, wipeG, pVar, pTup, psCons, psNil, atD, ixD_lst, ixD_tup, ixD_scr, at_0, at_1, at_2, at_3, at_4, at_5, at_6, at_7, lenD, intC, absC, max2C, min2C, addD, intD, cmpD, yesC, slD, seqD, enumD, stD, sumC, allC, anyC, tupC, maxC, Option.bind_some, Option.map_some, List.lookup_cons, List.lookup_nil, List.length_cons, List.length_nil, Bool.not_true, Bool.not_false, Bool.and_self, Bool.true_and, Bool.and_true, Bool.false_and, Bool.and_false, Bool.or_true, Bool.true_or, Bool.false_or, Bool.or_false, reduceIte, decide_true, decide_false, if_true, if_false, List.replicate_succ, List.replicate_zero, Nat.reduceAdd, Nat.reduceSub, Nat.zero_add, List.mem_cons, List.not_mem_nil, or_false, false_or, not_false_eq_true, reduceCtorEq, ne_eq, and_self, and_true, true_and, Nat.reduceLT, Nat.reduceLeDiff, beq_self_eq_true, Nat.reduceEqDiff, Nat.add_one_ne_zero, modC, divC, mulC, powC, Int.reduceLT, Int.reduceLE, Int.reduceNeg, Int.reducePow, Int.reduceToNat, Int.reduceEq, Nat.reducePow, Int.zero_add, eqL, eqD, eqB, neD, isD, sz_0, sz_1, sz_2, sz_3, sz_4, sz_5, sz_6, sz_7, sz_8, sz_9, sz_10, sz_11, sz_12, sz_13, sz_14, sz_15, sz_16, sz_17, sz_18, sz_19, sz_20, sz_21, sz_22, sz_23, sz_24, sz_25, sz_26, sz_27, sz_28, sz_29, sz_30, nc_0, nc_1, nc_2, nc_3, nc_4, nc_5, nc_6, nc_7, nc_8, nc_9, nc_10, nc_11, nc_12, nc_13, nc_14, nc_15, nc_16, nc_17, nc_18, nc_19, nc_20, nc_21, nc_22, nc_23, nc_24, nc_25, nc_26, nc_27, nc_28, nc_29, nc_30, isiT, isiK, isiC, isiM, tyNames, tagD, tb0_NoneType, tb0_bool, tb0_int, tb0_str, tb0_tuple, tb0_list, tb0_Tree, tb1_NoneType, tb1_bool, tb1_int, tb1_str, tb1_tuple, tb1_list, tb1_Tree, tb2_NoneType, tb2_bool, tb2_int, tb2_str, tb2_tuple, tb2_list, tb2_Tree, tb3_NoneType, tb3_bool, tb3_int, tb3_str, tb3_tuple, tb3_list, tb3_Tree, tb4_NoneType, tb4_bool, tb4_int, tb4_str, tb4_tuple, tb4_list, tb4_Tree, tb5_NoneType, tb5_bool, tb5_int, tb5_str, tb5_tuple, tb5_list, tb5_Tree, tb6_NoneType, tb6_bool, tb6_int, tb6_str, tb6_tuple, tb6_list, tb6_Tree, nq_kind_children, nb_kind_children, nq_kind_size, nb_kind_size, nq_kind_depth, nb_kind_depth, nq_children_kind, nb_children_kind, nq_children_size, nb_children_size, nq_children_depth, nb_children_depth, nq_size_kind, nb_size_kind, nq_size_children, nb_size_children, nq_size_depth, nb_size_depth, nq_depth_kind, nb_depth_kind, nq_depth_children, nb_depth_children, nq_depth_size, nb_depth_size, tz, extG]
      refine tkP_of (sz_of (by simp at hl ⊢; omega)) ?_
      simp only [↓kn_q, ↓kn_e, ↓kq_q, ↓kp_p, ↓ps_nx, ↓ps_rt, ↓ps_bk, ↓ps_ct, ↓ps_ex, ↓tkV_val, ↓tkV_own, ↓tkVR_val, ↓tkVR_own, ↓tkO_own, ↓tkA_val, ↓tkB_bl, ↓tkI_int, ↓tkStr_str, ↓tkC_obj, ↓tkSm_some, ↓tkSm_map, ↓tkSm_bind, ↓tkSm_ite, ↓tkP_t, ↓tkIf_t, ↓tkIf_f, ↓tkT_t, ↓tk_ok, ↓tk_exc, ↓tk_bind, ↓tk_lift, ↓tks_nx, ↓tks_rt, ↓tks_eS, ↓tks_seq, ↓tks_next, ↓tks_brk, ↓tks_cnt, ↓tks_drop, ↓tks_ret, ↓tks_retN, ↓tks_if, ↓tks_frz, ↓tks_set, ↓tks_setO, ↓tks_par, ↓tks_mut, ↓tks_app, ↓tks_store, ↓tks_fld, ↓tks_aug, ↓tks_for, ↓tks_for0, ↓tk_var, ↓tk_varR, ↓tk_c, ↓tk_bin, ↓tk_test, ↓tk_tnot, ↓tk_yes, ↓tk_tand, ↓tk_tor, ↓tk_call, ↓tk_fn, ↓tk_mkF, ↓tk_nil, ↓tk_cons, ↓tk_attr, ↓tk_meth, ↓tk_xif, ↓tk_seqI, ↓tk_enum, ↓tk_rng1, ↓tk_rng2, ↓tk_loc, ↓tk_lc, ↓tk_neg, ↓tk_no, ↓tk_part, ↓tk_sl, ↓tk_xsNil, ↓tk_xsV, ↓tk_xsO, ↓tk_xnot, ↓tk_xand, ↓tk_xor, ↓tk_lst, ↓tk_tup, ↓tk_sz, ↓tk_chain, ↓tk_s1, ↓tk_maxDf, ↓tk_star, List.getElem?_cons_zero, List.getElem?_cons_succ, List.set_cons_zero, List.set_cons_succ, List.map_cons, List.map_nil, List.cons_append, List.nil_append, List.append_assoc, tkJ_own, frzG, putS, wipeG, pVar, pTup, psCons, psNil, atD, ixD_lst, ixD_tup, ixD_scr, at_0, at_1, at_2, at_3, at_4, at_5, at_6, at_7, lenD, intC, absC, max2C, min2C, addD, intD, cmpD, yesC, slD, seqD, enumD, stD, sumC, allC, anyC, tupC, maxC, Option.bind_some, Option.map_some, List.lookup_cons, List.lookup_nil, List.length_cons, List.length_nil, Bool.not_true, Bool.not_false, Bool.and_self, Bool.true_and, Bool.and_true, Bool.false_and, Bool.and_false, Bool.or_true, Bool.true_or, Bool.false_or, Bool.or_false, reduceIte, decide_true, decide_false, if_true, if_false, List.replicate_succ, List.replicate_zero, Nat.reduceAdd, Nat.reduceSub, Nat.zero_add, List.mem_cons, List.not_mem_nil, or_false, false_or, not_false_eq_true, reduceCtorEq, ne_eq, and_self, and_true, true_and, Nat.reduceLT, Nat.reduceLeDiff, beq_self_eq_true, Nat.reduceEqDiff, Nat.add_one_ne_zero, modC, divC, mulC, powC, Int.reduceLT, Int.reduceLE, Int.reduceNeg, Int.reducePow, Int.reduceToNat, Int.reduceEq, Nat.reducePow, Int.zero_add, eqL, eqD, eqB, neD, isD, sz_0, sz_1, sz_2, sz_3, sz_4, sz_5, sz_6, sz_7, sz_8, sz_9, sz_10, sz_11, sz_12, sz_13, sz_14, sz_15, sz_16, sz_17, sz_18, sz_19, sz_20, sz_21, sz_22, sz_23, sz_24, sz_25, sz_26, sz_27, sz_28, sz_29, sz_30, nc_0, nc_1, nc_2, nc_3, nc_4, nc_5, nc_6, nc_7, nc_8, nc_9, nc_10, nc_11, nc_12, nc_13, nc_14, nc_15, nc_16, nc_17, nc_18, nc_19, nc_20, nc_21, nc_22, nc_23, nc_24, nc_25, nc_26, nc_27, nc_28, nc_29, nc_30, isiT, isiK, isiC, isiM, tyNames, tagD, tb0_NoneType, tb0_bool, tb0_int, tb0_str, tb0_tuple, tb0_list, tb0_Tree, tb1_NoneType, tb1_bool, tb1_int, tb1_str, tb1_tuple, tb1_list, tb1_Tree, tb2_NoneType, tb2_bool, tb2_int, tb2_str, tb2_tuple, tb2_list, tb2_Tree, tb3_NoneType, tb3_bool, tb3_int, tb3_str, tb3_tuple, tb3_list, tb3_Tree, tb4_NoneType, tb4_bool, tb4_int, tb4_str, tb4_tuple, tb4_list, tb4_Tree, tb5_NoneType, tb5_bool, tb5_int, tb5_str, tb5_tuple, tb5_list, tb5_Tree, tb6_NoneType, tb6_bool, tb6_int, tb6_str, tb6_tuple, tb6_list, tb6_Tree, nq_kind_children, nb_kind_children, nq_kind_size, nb_kind_size, nq_kind_depth, nb_kind_depth, nq_children_kind, nb_children_kind, nq_children_size, nb_children_size, nq_children_depth, nb_children_depth, nq_size_kind, nb_size_kind, nq_size_children, nb_size_children, nq_size_depth, nb_size_depth, nq_depth_kind, nb_depth_kind, nq_depth_children, nb_depth_children, nq_depth_size, nb_depth_size]
      exact rec_ _
theorem below_spec {fs : List (Str × D)} {ps : Row} {s : S} {K : Kn D} (he : fs.lookup ("children" : Str) = some (.tup (ps.map fun p => tz p.1))) (hp : ∀ p ∈ ps, Ch p.1 p.2) (hl : (trs ps).length ≤ 1000) (hq : K.q (.lst ((trs ps).map (·.1))) s) : Tk (F_Treezbelow [.obj "Tree" fs] s) := by
  unfold F_Treezbelow
  refine tin_runF rfl ?_
  unfold m_Treezbelow
  simp only [↓kn_q, ↓kn_e, ↓kq_q, ↓kp_p, ↓ps_nx, ↓ps_rt, ↓ps_bk, ↓ps_ct, ↓ps_ex, ↓tkV_val, ↓tkV_own, ↓tkVR_val, ↓tkVR_own, ↓tkO_own, ↓tkA_val, ↓tkB_bl, ↓tkI_int, ↓tkStr_str, ↓tkC_obj, ↓tkSm_some, ↓tkSm_map, ↓tkSm_bind, ↓tkSm_ite, ↓tkP_t, ↓tkIf_t, ↓tkIf_f, ↓tkT_t, ↓tk_ok, ↓tk_exc, ↓tk_bind, ↓tk_lift, ↓tks_nx, ↓tks_rt, ↓tks_eS, ↓tks_seq, ↓tks_next, ↓tks_brk, ↓tks_cnt, ↓tks_drop, ↓tks_ret, ↓tks_retN, ↓tks_if, ↓tks_frz, ↓tks_set, ↓tks_setO, ↓tks_par, ↓tks_mut, ↓tks_app, ↓tks_store, ↓tks_fld, ↓tks_aug, ↓tks_for, ↓tks_for0, ↓tk_var, ↓tk_varR, ↓tk_c, ↓tk_bin, ↓tk_test, ↓tk_tnot, ↓tk_yes, ↓tk_tand, ↓tk_tor, ↓tk_call, ↓tk_fn, ↓tk_mkF, ↓tk_nil, ↓tk_cons, ↓tk_attr, ↓tk_meth, ↓tk_xif, ↓tk_seqI, ↓tk_enum, ↓tk_rng1, ↓tk_rng2, ↓tk_loc, ↓tk_lc, ↓tk_neg, ↓tk_no, ↓tk_part, ↓tk_sl, ↓tk_xsNil, ↓tk_xsV, ↓tk_xsO, ↓tk_xnot, ↓tk_xand, ↓tk_xor, ↓tk_lst, ↓tk_tup, ↓tk_sz, ↓tk_chain, ↓tk_s1, ↓tk_maxDf, ↓tk_star, List.getElem?_cons_zero, List.getElem?_cons_succ, List.set_cons_zero, List.set_cons_succ, List.map_cons, List.map_nil, List.cons_append, List.nil_append, List.append_assoc, tkJ_own, frzG, putS, wipeG, pVar, pTup, psCons, psNil, atD, ixD_lst, ixD_tup, ixD_scr, at_0, at_1, at_2, at_3, at_4, at_5, at_6, at_7, lenD, intC, absC, max2C, min2C, addD, intD, cmpD, yesC, slD, seqD, enumD, stD, sumC, allC, anyC, tupC, maxC, Option.bind_some, Option.map_some, List.lookup_cons, List.lookup_nil, List.length_cons, List.length_nil, Bool.not_true, Bool.not_false, Bool.and_self, Bool.true_and, Bool.and_true, Bool.false_and, Bool.and_false, Bool.or_true, Bool.true_or, Bool.false_or, Bool.or_false, reduceIte, decide_true, decide_false, if_true, if_false, List.replicate_succ, List.replicate_zero, Nat.reduceAdd, Nat.reduceSub, Nat.zero_add, List.mem_cons, List.not_mem_nil, or_false, false_or, not_false_eq_true, reduceCtorEq, ne_eq, and_self, and_true, true_and, Nat.reduceLT, Nat.reduceLeDiff, beq_self_eq_true, Nat.reduceEqDiff, Nat.add_one_ne_zero, modC, divC, mulC, powC, Int.reduceLT, Int.reduceLE, Int.reduceNeg, Int.reducePow, Int.reduceToNat, Int.reduceEq, Nat.reducePow, Int.zero_add, eqL, eqD, eqB, neD, isD, sz_0, sz_1, sz_2, sz_3, sz_4, sz_5, sz_6, sz_7, sz_8, sz_9, sz_10, sz_11, sz_12, sz_13, sz_14, sz_15, sz_16, sz_17, sz_18, sz_19, sz_20, sz_21, sz_22, sz_23, sz_24, sz_25, sz_26, sz_27, sz_28, sz_29, sz_30, nc_0, nc_1, nc_2, nc_3, nc_4, nc_5, nc_6, nc_7, nc_8, nc_9, nc_10, nc_11, nc_12, nc_13, nc_14, nc_15, nc_16, nc_17, nc_18, nc_19, nc_20, nc_21, nc_22, nc_23, nc_24, nc_25, nc_26, nc_27, nc_28, nc_29, nc_30, isiT, isiK, isiC, isiM, tyNames, tagD, tb0_NoneType, tb0_bool, tb0_int, tb0_str, tb0_tuple, tb0_list, tb0_Tree, tb1_NoneType, tb1_bool, tb1_int, tb1_str, tb1_tuple, tb1_list, tb1_Tree, tb2_NoneType, tb2_bool, tb2_int, tb2_str, tb2_tuple, tb2_list, tb2_Tree, tb3_NoneType, tb3_bool, tb3_int, tb3_str, tb3_tuple, tb3_list, tb3_Tree, tb4_NoneType, tb4_bool, tb4_int, tb4_str, tb4_tuple, tb4_list, tb4_Tree, tb5_NoneType, tb5_bool, tb5_int, tb5_str, tb5_tuple, tb5_list, tb5_Tree, tb6_NoneType, tb6_bool, tb6_int, tb6_str, tb6_tuple, tb6_list, tb6_Tree, nq_kind_children, nb_kind_children, nq_kind_size, nb_kind_size, nq_kind_depth, nb_kind_depth, nq_children_kind, nb_children_kind, nq_children_size, nb_children_size, nq_children_depth, nb_children_depth, nq_size_kind, nb_size_kind, nq_size_children, nb_size_children, nq_size_depth, nb_size_depth, nq_depth_kind, nb_depth_kind, nq_depth_children, nb_depth_children, nq_depth_size, nb_depth_size, he]
  refine below_loop ps [] .un hp (by simpa using hl) fun x => ?_
  simp only [↓kn_q, ↓kn_e, ↓kq_q, ↓kp_p, ↓ps_nx, ↓ps_rt, ↓ps_bk, ↓ps_ct, ↓ps_ex, ↓tkV_val, ↓tkV_own, ↓tkVR_val, ↓tkVR_own, ↓tkO_own, ↓tkA_val, ↓tkB_bl, ↓tkI_int, ↓tkStr_str, ↓tkC_obj, ↓tkSm_some, ↓tkSm_map, ↓tkSm_bind, ↓tkSm_ite, ↓tkP_t, ↓tkIf_t, ↓tkIf_f, ↓tkT_t, ↓tk_ok, ↓tk_exc, ↓tk_bind, ↓tk_lift, ↓tks_nx, ↓tks_rt, ↓tks_eS, ↓tks_seq, ↓tks_next, ↓tks_brk, ↓tks_cnt, ↓tks_drop, ↓tks_ret, ↓tks_retN, ↓tks_if, ↓tks_frz, ↓tks_set, ↓tks_setO, ↓tks_par, ↓tks_mut, ↓tks_app, ↓tks_store, ↓tks_fld, ↓tks_aug, ↓tks_for, ↓tks_for0, ↓tk_var, ↓tk_varR, ↓tk_c, ↓tk_bin, ↓tk_test, ↓tk_tnot, ↓tk_yes, ↓tk_tand, ↓tk_tor, ↓tk_call, ↓tk_fn, ↓tk_mkF, ↓tk_nil, ↓tk_cons, ↓tk_attr, ↓tk_meth, ↓tk_xif, ↓tk_seqI, ↓tk_enum, ↓tk_rng1, ↓tk_rng2, ↓tk_loc, ↓tk_lc, ↓tk_neg, ↓tk_no, ↓tk_part, ↓tk_sl, ↓tk_xsNil, ↓tk_xsV, ↓tk_xsO, ↓tk_xnot, ↓tk_xand, ↓tk_xor, ↓tk_lst, ↓tk_tup, ↓tk_sz, ↓tk_chain, ↓tk_s1, ↓tk_maxDf, ↓tk_star, List.getElem?_cons_zero, List.getElem?_cons_succ, List.set_cons_zero, List.set_cons_succ, List.map_cons, List.map_nil, List.cons_append, List.nil_append, List.append_assoc, tkJ_own, frzG, putS, wipeG, pVar, pTup, psCons, psNil, atD, ixD_lst, ixD_tup, ixD_scr, at_0, at_1, at_2, at_3, at_4, at_5, at_6, at_7, lenD, intC, absC, max2C, min2C, addD, intD, cmpD, yesC, slD, seqD, enumD, stD, sumC, allC, anyC, tupC, maxC, Option.bind_some, Option.map_some, List.lookup_cons, List.lookup_nil, List.length_cons, List.length_nil, Bool.not_true, Bool.not_false, Bool.and_self, Bool.true_and, Bool.and_true, Bool.false_and, Bool.and_false, Bool.or_true, Bool.true_or, Bool.false_or, Bool.or_false, reduceIte, decide_true, decide_false, if_true, if_false, List.replicate_succ, List.replicate_zero, Nat.reduceAdd, Nat.reduceSub, Nat.zero_add, List.mem_cons, List.not_mem_nil, or_false, false_or, not_false_eq_true, reduceCtorEq, ne_eq, and_self, and_true, true_and, Nat.reduceLT, Nat.reduceLeDiff, beq_self_eq_true, Nat.reduceEqDiff, Nat.add_one_ne_zero, modC, divC, mulC, powC, Int.reduceLT, Int.reduceLE, Int.reduceNeg, Int.reducePow, Int.reduceToNat, Int.reduceEq, Nat.reducePow, Int.zero_add, eqL, eqD, eqB, neD, isD, sz_0, sz_1, sz_2, sz_3, sz_4, sz_5, sz_6, sz_7, sz_8, sz_9, sz_10, sz_11, sz_12, sz_13, sz_14, sz_15, sz_16, sz_17, sz_18, sz_19, sz_20, sz_21, sz_22, sz_23, sz_24, sz_25, sz_26, sz_27, sz_28, sz_29, sz_30, nc_0, nc_1, nc_2, nc_3, nc_4, nc_5, nc_6, nc_7, nc_8, nc_9, nc_10, nc_11, nc_12, nc_13, nc_14, nc_15, nc_16, nc_17, nc_18, nc_19, nc_20, nc_21, nc_22, nc_23, nc_24, nc_25, nc_26, nc_27, nc_28, nc_29, nc_30, isiT, isiK, isiC, isiM, tyNames, tagD, tb0_NoneType, tb0_bool, tb0_int, tb0_str, tb0_tuple, tb0_list, tb0_Tree, tb1_NoneType, tb1_bool, tb1_int, tb1_str, tb1_tuple, tb1_list, tb1_Tree, tb2_NoneType, tb2_bool, tb2_int, tb2_str, tb2_tuple, tb2_list, tb2_Tree, tb3_NoneType, tb3_bool, tb3_int, tb3_str, tb3_tuple, tb3_list, tb3_Tree, tb4_NoneType, tb4_bool, tb4_int, tb4_str, tb4_tuple, tb4_list, tb4_Tree, tb5_NoneType, tb5_bool, tb5_int, tb5_str, tb5_tuple, tb5_list, tb5_Tree, tb6_NoneType, tb6_bool, tb6_int, tb6_str, tb6_tuple, tb6_list, tb6_Tree, nq_kind_children, nb_kind_children, nq_kind_size, nb_kind_size, nq_kind_depth, nb_kind_depth, nq_children_kind, nb_children_kind, nq_children_size, nb_children_size, nq_children_depth, nb_children_depth, nq_size_kind, nb_size_kind, nq_size_children, nb_size_children, nq_size_depth, nb_size_depth, nq_depth_kind, nb_depth_kind, nq_depth_children, nb_depth_children, nq_depth_size, nb_depth_size]
  exact hq
def mx (ns : List Int) : Int := if ns = [] then 0 else (maxI ns).getD 0
theorem mx_some (ns : List Int) : (if ns = [] then some (D.int 0) else (maxI ns).map D.int) = some (.int (mx ns)) := by
  unfold mx
  cases ns with
  | nil => rfl
  | cons n ns => simp [maxI]
theorem init_loop {A B C : Sl} {s : S} {P : Ps} : ∀ (ps : Row) (k : Nat) (x y a b : Sl), (∀ p ∈ ps, Ch p.1 p.2) → (∀ x y, P.nx [A, B, C, x, y, a, b] s) → TkS (forL (pTup 2 (psCons (pVar 3) (psCons (pVar 4) psNil))) L_Treezzzinitzz_1 (enumL k (ps.map (·.1))) [A, B, C, x, y, a, b] s)
  | [], k, x, y, a, b, _, hq => by
    rw [List.map_nil, enumL, tks_for0]
    exact hq x y
  | p :: ps, k, x, y, a, b, hp, hq => by
    rw [List.map_cons, enumL, tks_for1]
    unfold L_Treezzzinitzz_1
    simp only [↓kn_q, ↓kn_e, ↓kq_q, ↓kp_p, ↓ps_nx, ↓ps_rt, ↓ps_bk, ↓ps_ct, ↓ps_ex, ↓tkV_val, ↓tkV_own, ↓tkVR_val, ↓tkVR_own, ↓tkO_own, ↓tkA_val, ↓tkB_bl, ↓tkI_int, ↓tkStr_str, ↓tkC_obj, ↓tkSm_some, ↓tkSm_map, ↓tkSm_bind, ↓tkSm_ite, ↓tkP_t, ↓tkIf_t, ↓tkIf_f, ↓tkT_t, ↓tk_ok, ↓tk_exc, ↓tk_bind, ↓tk_lift, ↓tks_nx, ↓tks_rt, ↓tks_eS, ↓tks_seq, ↓tks_next, ↓tks_brk, ↓tks_cnt, ↓tks_drop, ↓tks_ret, ↓tks_retN, ↓tks_if, ↓tks_frz, ↓tks_set, ↓tks_setO, ↓tks_par, ↓tks_mut, ↓tks_app, ↓tks_store, ↓tks_fld, ↓tks_aug, ↓tks_for, ↓tks_for0, ↓tk_var, ↓tk_varR, ↓tk_c, ↓tk_bin, ↓tk_test, ↓tk_tnot, ↓tk_yes, ↓tk_tand, ↓tk_tor, ↓tk_call, ↓tk_fn, ↓tk_mkF, ↓tk_nil, ↓tk_cons, ↓tk_attr, ↓tk_meth, ↓tk_xif, ↓tk_seqI, ↓tk_enum, ↓tk_rng1, ↓tk_rng2, ↓tk_loc, ↓tk_lc, ↓tk_neg, ↓tk_no, ↓tk_part, ↓tk_sl, ↓tk_xsNil, ↓tk_xsV, ↓tk_xsO, ↓tk_xnot, ↓tk_xand, ↓tk_xor, ↓tk_lst, ↓tk_tup, ↓tk_sz, ↓tk_chain, ↓tk_s1, ↓tk_maxDf, ↓tk_star, List.getElem?_cons_zero, List.getElem?_cons_succ, List.set_cons_zero, List.set_cons_succ, List.map_cons, List.map_nil, List.cons_append, List.nil_append, List.append_assoc, tkJ_own, frzG, putS, wipeG, pVar, pTup, psCons, psNil, atD, ixD_lst, ixD_tup, ixD_scr, at_0, at_1, at_2, at_3, at_4, at_5, at_6, at_7, lenD, intC, absC, max2C, min2C, addD, intD, cmpD, yesC, slD, seqD, enumD, stD, sumC, allC, anyC, tupC, maxC, Option.bind_some, Option.map_some, List.lookup_cons, List.lookup_nil, List.length_cons, List.length_nil, Bool.not_true, Bool.not_false, Bool.and_self, Bool.true_and, Bool.and_true, Bool.false_and, Bool.and_false, Bool.or_true, Bool.true_or, Bool.false_or, Bool.or_false, reduceIte, decide_true, decide_false, if_true, if_false, List.replicate_succ, List.replicate_zero, Nat.reduceAdd, Nat.reduceSub, Nat.zero_add, List.mem_cons, List.not_mem_nil, or_false, false_or, not_false_eq_true, reduceCtorEq, ne_eq, and_self, and_true, true_and, Nat.reduceLT, Nat.reduceLeDiff, beq_self_eq_true, Nat.reduceEqDiff, Nat.add_one_ne_zero, modC, divC, mulC, powC, Int.reduceLT, Int.reduceLE, Int.reduceNeg, Int.reducePow, Int.reduceToNat, Int.reduceEq, Nat.reducePow, Int.zero_add, eqL, eqD, eqB, neD, isD, sz_0, sz_1, sz_2, sz_3, sz_4, sz_5, sz_6, sz_7, sz_8, sz_9, sz_10, sz_11, sz_12, sz_13, sz_14, sz_15, sz_16, sz_17, sz_18, sz_19, sz_20, sz_21, sz_22, sz_23, sz_24, sz_25, sz_26, sz_27, sz_28, sz_29, sz_30, nc_0, nc_1, nc_2, nc_3, nc_4, nc_5, nc_6, nc_7, nc_8, nc_9, nc_10, nc_11, nc_12, nc_13, nc_14, nc_15, nc_16, nc_17, nc_18, nc_19, nc_20, nc_21, nc_22, nc_23, nc_24, nc_25, nc_26, nc_27, nc_28, nc_29, nc_30, isiT, isiK, isiC, isiM, tyNames, tagD, tb0_NoneType, tb0_bool, tb0_int, tb0_str, tb0_tuple, tb0_list, tb0_Tree, tb1_NoneType, tb1_bool, tb1_int, tb1_str, tb1_tuple, tb1_list, tb1_Tree, tb2_NoneType, tb2_bool, tb2_int, tb2_str, tb2_tuple, tb2_list, tb2_Tree, tb3_NoneType, tb3_bool, tb3_int, tb3_str, tb3_tuple, tb3_list, tb3_Tree, tb4_NoneType, tb4_bool, tb4_int, tb4_str, tb4_tuple, tb4_list, tb4_Tree, tb5_NoneType, tb5_bool, tb5_int, tb5_str, tb5_tuple, tb5_list, tb5_Tree, tb6_NoneType, tb6_bool, tb6_int, tb6_str, tb6_tuple, tb6_list, tb6_Tree, nq_kind_children, nb_kind_children, nq_kind_size, nb_kind_size, nq_kind_depth, nb_kind_depth, nq_children_kind, nb_children_kind, nq_children_size, nb_children_size, nq_children_depth, nb_children_depth, nq_size_kind, nb_size_kind, nq_size_children, nb_size_children, nq_size_depth, nb_size_depth, nq_depth_kind, nb_depth_kind, nq_depth_children, nb_depth_children, nq_depth_size, nb_depth_size]
    refine child_spec (hp p List.mem_cons_self) ?_
    simp only [↓kn_q, ↓kn_e, ↓kq_q, ↓kp_p, ↓ps_nx, ↓ps_rt, ↓ps_bk, ↓ps_ct, ↓ps_ex, ↓tkV_val, ↓tkV_own, ↓tkVR_val, ↓tkVR_own, ↓tkO_own, ↓tkA_val, ↓tkB_bl, ↓tkI_int, ↓tkStr_str, ↓tkC_obj, ↓tkSm_some, ↓tkSm_map, ↓tkSm_bind, ↓tkSm_ite, ↓tkP_t, ↓tkIf_t, ↓tkIf_f, ↓tkT_t, ↓tk_ok, ↓tk_exc, ↓tk_bind, ↓tk_lift, ↓tks_nx, ↓tks_rt, ↓tks_eS, ↓tks_seq, ↓tks_next, ↓tks_brk, ↓tks_cnt, ↓tks_drop, ↓tks_ret, ↓tks_retN, ↓tks_if, ↓tks_frz, ↓tks_set, ↓tks_setO, ↓tks_par, ↓tks_mut, ↓tks_app, ↓tks_store, ↓tks_fld, ↓tks_aug, ↓tks_for, ↓tks_for0, ↓tk_var, ↓tk_varR, ↓tk_c, ↓tk_bin, ↓tk_test, ↓tk_tnot, ↓tk_yes, ↓tk_tand, ↓tk_tor, ↓tk_call, ↓tk_fn, ↓tk_mkF, ↓tk_nil, ↓tk_cons, ↓tk_attr, ↓tk_meth, ↓tk_xif, ↓tk_seqI, ↓tk_enum, ↓tk_rng1, ↓tk_rng2, ↓tk_loc, ↓tk_lc, ↓tk_neg, ↓tk_no, ↓tk_part, ↓tk_sl, ↓tk_xsNil, ↓tk_xsV, ↓tk_xsO, ↓tk_xnot, ↓tk_xand, ↓tk_xor, ↓tk_lst, ↓tk_tup, ↓tk_sz, ↓tk_chain, ↓tk_s1, ↓tk_maxDf, ↓tk_star, List.getElem?_cons_zero, List.getElem?_cons_succ, List.set_cons_zero, List.set_cons_succ, List.map_cons, List.map_nil, List.cons_append, List.nil_append, List.append_assoc, tkJ_own, frzG, putS, wipeG, pVar, pTup, psCons, psNil, atD, ixD_lst, ixD_tup, ixD_scr, at_0, at_1, at_2, at_3, at_4, at_5, at_6, at_7, lenD, intC, absC, max2C, min2C, addD, intD, cmpD, yesC, slD, seqD, enumD, stD, sumC, allC, anyC, tupC, maxC, Option.bind_some, Option.map_some, List.lookup_cons, List.lookup_nil, List.length_cons, List.length_nil, Bool.not_true, Bool.not_false, Bool.and_self, Bool.true_and, Bool.and_true, Bool.false_and, Bool.and_false, Bool.or_true, Bool.true_or, Bool.false_or, Bool.or_false, reduceIte, decide_true, decide_false, if_true, if_false, List.replicate_succ, List.replicate_zero, Nat.reduceAdd, Nat.reduceSub, Nat.zero_add, List.mem_cons, List.not_mem_nil, or_false, false_or, not_false_eq_true, reduceCtorEq, ne_eq, and_self, and_true, true_and, Nat.reduceLT, Nat.reduceLeDiff, beq_self_eq_true, Nat.reduceEqDiff, Nat.add_one_ne_zero, modC, divC, mulC, powC, Int.reduceLT, Int.reduceLE, Int.reduceNeg, Int.reducePow, Int.reduceToNat, Int.reduceEq, Nat.reducePow, Int.zero_add, eqL, eqD, eqB, neD, isD, sz_0, sz_1, sz_2, sz_3, sz_4, sz_5, sz_6, sz_7, sz_8, sz_9, sz_10, sz_11, sz_12, sz_13, sz_14, sz_15, sz_16, sz_17, sz_18, sz_19, sz_20, sz_21, sz_22, sz_23, sz_24, sz_25, sz_26, sz_27, sz_28, sz_29, sz_30, nc_0, nc_1, nc_2, nc_3, nc_4, nc_5, nc_6, nc_7, nc_8, nc_9, nc_10, nc_11, nc_12, nc_13, nc_14, nc_15, nc_16, nc_17, nc_18, nc_19, nc_20, nc_21, nc_22, nc_23, nc_24, nc_25, nc_26, nc_27, nc_28, nc_29, nc_30, isiT, isiK, isiC, isiM, tyNames, tagD, tb0_NoneType, tb0_bool, tb0_int, tb0_str, tb0_tuple, tb0_list, tb0_Tree, tb1_NoneType, tb1_bool, tb1_int, tb1_str, tb1_tuple, tb1_list, tb1_Tree, tb2_NoneType, tb2_bool, tb2_int, tb2_str, tb2_tuple, tb2_list, tb2_Tree, tb3_NoneType, tb3_bool, tb3_int, tb3_str, tb3_tuple, tb3_list, tb3_Tree, tb4_NoneType, tb4_bool, tb4_int, tb4_str, tb4_tuple, tb4_list, tb4_Tree, tb5_NoneType, tb5_bool, tb5_int, tb5_str, tb5_tuple, tb5_list, tb5_Tree, tb6_NoneType, tb6_bool, tb6_int, tb6_str, tb6_tuple, tb6_list, tb6_Tree, nq_kind_children, nb_kind_children, nq_kind_size, nb_kind_size, nq_kind_depth, nb_kind_depth, nq_children_kind, nb_children_kind, nq_children_size, nb_children_size, nq_children_depth, nb_children_depth, nq_size_kind, nb_size_kind, nq_size_children, nb_size_children, nq_size_depth, nb_size_depth, nq_depth_kind, nb_depth_kind, nq_depth_children, nb_depth_children, nq_depth_size, nb_depth_size]
    exact init_loop ps (k + 1) _ _ a b (fun q h => hp q (List.mem_cons_of_mem _ h)) hq
theorem ints_map : ∀ ns : List Int, ints? (ns.map .int) = some ns
  | [] => rfl
  | n :: ns => by rw [List.map_cons, ints?, ints_map ns]; rfl
theorem init_spec {k : Str} {ps : Row} {s : S} {K : Kn (List (Str × D))} (hk : Nm k) (hp : ∀ p ∈ ps, Ch p.1 p.2) (hn : ps.length ≤ 20) (hl : (trs ps).length ≤ 1000)
    (hq : K.q [("kind", .str k), ("children", .tup (ps.map fun p => tz p.1)), ("size", .int (1 + ((trs ps).map (·.2.1)).sum)), ("depth", .int (1 + mx ((trs ps).map (·.2.2))))] s) : Tk (F_Treezzzinitzz (.str k :: ps.map (·.1)) s) := by
  have htr : ∀ x ∈ trs ps, Tre x.1 x.2.1 x.2.2 := fun x hx => by
    obtain ⟨p, hpm, hx⟩ := List.mem_flatMap.mp hx
    have := hp p hpm
    generalize p.1 = c at this
    generalize p.2 = xs at this hx
    cases this with
    | tree ht => rcases List.mem_cons.mp hx with rfl | hx; exact ht; exact (List.not_mem_nil hx).elim
    | lst h _ => exact h x hx
    | tup h _ => exact h x hx
  unfold F_Treezzzinitzz
  rw [tk_starI ⟨by simp, sz_of (by simp; omega)⟩]
  refine tin_runI rfl ?_
  unfold m_Treezzzinitzz
  simp only [List.take_succ_cons, List.take_zero, List.drop_succ_cons, List.drop_zero]
  simp only [↓kn_q, ↓kn_e, ↓kq_q, ↓kp_p, ↓ps_nx, ↓ps_rt, ↓ps_bk, ↓ps_ct, ↓ps_ex, ↓tkV_val, ↓tkV_own, ↓tkVR_val, ↓tkVR_own, ↓tkO_own, ↓tkA_val, ↓tkB_bl, ↓tkI_int, ↓tkStr_str, ↓tkC_obj, ↓tkSm_some, ↓tkSm_map, ↓tkSm_bind, ↓tkSm_ite, ↓tkP_t, ↓tkIf_t, ↓tkIf_f, ↓tkT_t, ↓tk_ok, ↓tk_exc, ↓tk_bind, ↓tk_lift, ↓tks_nx, ↓tks_rt, ↓tks_eS, ↓tks_seq, ↓tks_next, ↓tks_brk, ↓tks_cnt, ↓tks_drop, ↓tks_ret, ↓tks_retN, ↓tks_if, ↓tks_frz, ↓tks_set, ↓tks_setO, ↓tks_par, ↓tks_mut, ↓tks_app, ↓tks_store, ↓tks_fld, ↓tks_aug, ↓tks_for, ↓tks_for0, ↓tk_var, ↓tk_varR, ↓tk_c, ↓tk_bin, ↓tk_test, ↓tk_tnot, ↓tk_yes, ↓tk_tand, ↓tk_tor, ↓tk_call, ↓tk_fn, ↓tk_mkF, ↓tk_nil, ↓tk_cons, ↓tk_attr, ↓tk_meth, ↓tk_xif, ↓tk_seqI, ↓tk_enum, ↓tk_rng1, ↓tk_rng2, ↓tk_loc, ↓tk_lc, ↓tk_neg, ↓tk_no, ↓tk_part, ↓tk_sl, ↓tk_xsNil, ↓tk_xsV, ↓tk_xsO, ↓tk_xnot, ↓tk_xand, ↓tk_xor, ↓tk_lst, ↓tk_tup, ↓tk_sz, ↓tk_chain, ↓tk_s1, ↓tk_maxDf, ↓tk_star, List.getElem?_cons_zero, List.getElem?_cons_succ, List.set_cons_zero, List.set_cons_succ, List.map_cons, List.map_nil, List.cons_append, List.nil_append, List.append_assoc, tkJ_own, frzG, putS, wipeG, pVar, pTup, psCons, psNil, atD, ixD_lst, ixD_tup, ixD_scr, at_0, at_1, at_2, at_3, at_4, at_5, at_6, at_7, lenD, intC, absC, max2C, min2C, addD, intD, cmpD, yesC, slD, seqD, enumD, stD, sumC, allC, anyC, tupC, maxC, Option.bind_some, Option.map_some, List.lookup_cons, List.lookup_nil, List.length_cons, List.length_nil, Bool.not_true, Bool.not_false, Bool.and_self, Bool.true_and, Bool.and_true, Bool.false_and, Bool.and_false, Bool.or_true, Bool.true_or, Bool.false_or, Bool.or_false, reduceIte, decide_true, decide_false, if_true, if_false, List.replicate_succ, List.replicate_zero, Nat.reduceAdd, Nat.reduceSub, Nat.zero_add, List.mem_cons, List.not_mem_nil, or_false, false_or, not_false_eq_true, reduceCtorEq, ne_eq, and_self, and_true, true_and, Nat.reduceLT, Nat.reduceLeDiff, beq_self_eq_true, Nat.reduceEqDiff, Nat.add_one_ne_zero, modC, divC, mulC, powC, Int.reduceLT, Int.reduceLE, Int.reduceNeg, Int.reducePow, Int.reduceToNat, Int.reduceEq, Nat.reducePow, Int.zero_add, eqL, eqD, eqB, neD, isD, sz_0, sz_1, sz_2, sz_3, sz_4, sz_5, sz_6, sz_7, sz_8, sz_9, sz_10, sz_11, sz_12, sz_13, sz_14, sz_15, sz_16, sz_17, sz_18, sz_19, sz_20, sz_21, sz_22, sz_23, sz_24, sz_25, sz_26, sz_27, sz_28, sz_29, sz_30, nc_0, nc_1, nc_2, nc_3, nc_4, nc_5, nc_6, nc_7, nc_8, nc_9, nc_10, nc_11, nc_12, nc_13, nc_14, nc_15, nc_16, nc_17, nc_18, nc_19, nc_20, nc_21, nc_22, nc_23, nc_24, nc_25, nc_26, nc_27, nc_28, nc_29, nc_30, isiT, isiK, isiC, isiM, tyNames, tagD, tb0_NoneType, tb0_bool, tb0_int, tb0_str, tb0_tuple, tb0_list, tb0_Tree, tb1_NoneType, tb1_bool, tb1_int, tb1_str, tb1_tuple, tb1_list, tb1_Tree, tb2_NoneType, tb2_bool, tb2_int, tb2_str, tb2_tuple, tb2_list, tb2_Tree, tb3_NoneType, tb3_bool, tb3_int, tb3_str, tb3_tuple, tb3_list, tb3_Tree, tb4_NoneType, tb4_bool, tb4_int, tb4_str, tb4_tuple, tb4_list, tb4_Tree, tb5_NoneType, tb5_bool, tb5_int, tb5_str, tb5_tuple, tb5_list, tb5_Tree, tb6_NoneType, tb6_bool, tb6_int, tb6_str, tb6_tuple, tb6_list, tb6_Tree, nq_kind_children, nb_kind_children, nq_kind_size, nb_kind_size, nq_kind_depth, nb_kind_depth, nq_children_kind, nb_children_kind, nq_children_size, nb_children_size, nq_children_depth, nb_children_depth, nq_size_kind, nb_size_kind, nq_size_children, nb_size_children, nq_size_depth, nb_size_depth, nq_depth_kind, nb_depth_kind, nq_depth_children, nb_depth_children, nq_depth_size, nb_depth_size]
  rw [name_ok hk]
  simp only [↓kn_q, ↓kn_e, ↓kq_q, ↓kp_p, ↓ps_nx, ↓ps_rt, ↓ps_bk, ↓ps_ct, ↓ps_ex, ↓tkV_val, ↓tkV_own, ↓tkVR_val, ↓tkVR_own, ↓tkO_own, ↓tkA_val, ↓tkB_bl, ↓tkI_int, ↓tkStr_str, ↓tkC_obj, ↓tkSm_some, ↓tkSm_map, ↓tkSm_bind, ↓tkSm_ite, ↓tkP_t, ↓tkIf_t, ↓tkIf_f, ↓tkT_t, ↓tk_ok, ↓tk_exc, ↓tk_bind, ↓tk_lift, ↓tks_nx, ↓tks_rt, ↓tks_eS, ↓tks_seq, ↓tks_next, ↓tks_brk, ↓tks_cnt, ↓tks_drop, ↓tks_ret, ↓tks_retN, ↓tks_if, ↓tks_frz, ↓tks_set, ↓tks_setO, ↓tks_par, ↓tks_mut, ↓tks_app, ↓tks_store, ↓tks_fld, ↓tks_aug, ↓tks_for, ↓tks_for0, ↓tk_var, ↓tk_varR, ↓tk_c, ↓tk_bin, ↓tk_test, ↓tk_tnot, ↓tk_yes, ↓tk_tand, ↓tk_tor, ↓tk_call, ↓tk_fn, ↓tk_mkF, ↓tk_nil, ↓tk_cons, ↓tk_attr, ↓tk_meth, ↓tk_xif, ↓tk_seqI, ↓tk_enum, ↓tk_rng1, ↓tk_rng2, ↓tk_loc, ↓tk_lc, ↓tk_neg, ↓tk_no, ↓tk_part, ↓tk_sl, ↓tk_xsNil, ↓tk_xsV, ↓tk_xsO, ↓tk_xnot, ↓tk_xand, ↓tk_xor, ↓tk_lst, ↓tk_tup, ↓tk_sz, ↓tk_chain, ↓tk_s1, ↓tk_maxDf, ↓tk_star, List.getElem?_cons_zero, List.getElem?_cons_succ, List.set_cons_zero, List.set_cons_succ, List.map_cons, List.map_nil, List.cons_append, List.nil_append, List.append_assoc, tkJ_own, frzG, putS, wipeG, pVar, pTup, psCons, psNil, atD, ixD_lst, ixD_tup, ixD_scr, at_0, at_1, at_2, at_3, at_4, at_5, at_6, at_7, lenD, intC, absC, max2C, min2C, addD, intD, cmpD, yesC, slD, seqD, enumD, stD, sumC, allC, anyC, tupC, maxC, Option.bind_some, Option.map_some, List.lookup_cons, List.lookup_nil, List.length_cons, List.length_nil, Bool.not_true, Bool.not_false, Bool.and_self, Bool.true_and, Bool.and_true, Bool.false_and, Bool.and_false, Bool.or_true, Bool.true_or, Bool.false_or, Bool.or_false, reduceIte, decide_true, decide_false, if_true, if_false, List.replicate_succ, List.replicate_zero, Nat.reduceAdd, Nat.reduceSub, Nat.zero_add, List.mem_cons, List.not_mem_nil, or_false, false_or, not_false_eq_true, reduceCtorEq, ne_eq, and_self, and_true, true_and, Nat.reduceLT, Nat.reduceLeDiff, beq_self_eq_true, Nat.reduceEqDiff, Nat.add_one_ne_zero, modC, divC, mulC, powC, Int.reduceLT, Int.reduceLE, Int.reduceNeg, Int.reducePow, Int.reduceToNat, Int.reduceEq, Nat.reducePow, Int.zero_add, eqL, eqD, eqB, neD, isD, sz_0, sz_1, sz_2, sz_3, sz_4, sz_5, sz_6, sz_7, sz_8, sz_9, sz_10, sz_11, sz_12, sz_13, sz_14, sz_15, sz_16, sz_17, sz_18, sz_19, sz_20, sz_21, sz_22, sz_23, sz_24, sz_25, sz_26, sz_27, sz_28, sz_29, sz_30, nc_0, nc_1, nc_2, nc_3, nc_4, nc_5, nc_6, nc_7, nc_8, nc_9, nc_10, nc_11, nc_12, nc_13, nc_14, nc_15, nc_16, nc_17, nc_18, nc_19, nc_20, nc_21, nc_22, nc_23, nc_24, nc_25, nc_26, nc_27, nc_28, nc_29, nc_30, isiT, isiK, isiC, isiM, tyNames, tagD, tb0_NoneType, tb0_bool, tb0_int, tb0_str, tb0_tuple, tb0_list, tb0_Tree, tb1_NoneType, tb1_bool, tb1_int, tb1_str, tb1_tuple, tb1_list, tb1_Tree, tb2_NoneType, tb2_bool, tb2_int, tb2_str, tb2_tuple, tb2_list, tb2_Tree, tb3_NoneType, tb3_bool, tb3_int, tb3_str, tb3_tuple, tb3_list, tb3_Tree, tb4_NoneType, tb4_bool, tb4_int, tb4_str, tb4_tuple, tb4_list, tb4_Tree, tb5_NoneType, tb5_bool, tb5_int, tb5_str, tb5_tuple, tb5_list, tb5_Tree, tb6_NoneType, tb6_bool, tb6_int, tb6_str, tb6_tuple, tb6_list, tb6_Tree, nq_kind_children, nb_kind_children, nq_kind_size, nb_kind_size, nq_kind_depth, nb_kind_depth, nq_children_kind, nb_children_kind, nq_children_size, nb_children_size, nq_children_depth, nb_children_depth, nq_size_kind, nb_size_kind, nq_size_children, nb_size_children, nq_size_depth, nb_size_depth, nq_depth_kind, nb_depth_kind, nq_depth_children, nb_depth_children, nq_depth_size, nb_depth_size]
  refine init_loop ps 0 _ _ _ _ hp fun x y => ?_
  simp only [↓kn_q, ↓kn_e, ↓kq_q, ↓kp_p, ↓ps_nx, ↓ps_rt, ↓ps_bk, ↓ps_ct, ↓ps_ex, ↓tkV_val, ↓tkV_own, ↓tkVR_val, ↓tkVR_own, ↓tkO_own, ↓tkA_val, ↓tkB_bl, ↓tkI_int, ↓tkStr_str, ↓tkC_obj, ↓tkSm_some, ↓tkSm_map, ↓tkSm_bind, ↓tkSm_ite, ↓tkP_t, ↓tkIf_t, ↓tkIf_f, ↓tkT_t, ↓tk_ok, ↓tk_exc, ↓tk_bind, ↓tk_lift, ↓tks_nx, ↓tks_rt, ↓tks_eS, ↓tks_seq, ↓tks_next, ↓tks_brk, ↓tks_cnt, ↓tks_drop, ↓tks_ret, ↓tks_retN, ↓tks_if, ↓tks_frz, ↓tks_set, ↓tks_setO, ↓tks_par, ↓tks_mut, ↓tks_app, ↓tks_store, ↓tks_fld, ↓tks_aug, ↓tks_for, ↓tks_for0, ↓tk_var, ↓tk_varR, ↓tk_c, ↓tk_bin, ↓tk_test, ↓tk_tnot, ↓tk_yes, ↓tk_tand, ↓tk_tor, ↓tk_call, ↓tk_fn, ↓tk_mkF, ↓tk_nil, ↓tk_cons, ↓tk_attr, ↓tk_meth, ↓tk_xif, ↓tk_seqI, ↓tk_enum, ↓tk_rng1, ↓tk_rng2, ↓tk_loc, ↓tk_lc, ↓tk_neg, ↓tk_no, ↓tk_part, ↓tk_sl, ↓tk_xsNil, ↓tk_xsV, ↓tk_xsO, ↓tk_xnot, ↓tk_xand, ↓tk_xor, ↓tk_lst, ↓tk_tup, ↓tk_sz, ↓tk_chain, ↓tk_s1, ↓tk_maxDf, ↓tk_star, List.getElem?_cons_zero, List.getElem?_cons_succ, List.set_cons_zero, List.set_cons_succ, List.map_cons, List.map_nil, List.cons_append, List.nil_append, List.append_assoc, tkJ_own, frzG, putS, wipeG, pVar, pTup, psCons, psNil, atD, ixD_lst, ixD_tup, ixD_scr, at_0, at_1, at_2, at_3, at_4, at_5, at_6, at_7, lenD, intC, absC, max2C, min2C, addD, intD, cmpD, yesC, slD, seqD, enumD, stD, sumC, allC, anyC, tupC, maxC, Option.bind_some, Option.map_some, List.lookup_cons, List.lookup_nil, List.length_cons, List.length_nil, Bool.not_true, Bool.not_false, Bool.and_self, Bool.true_and, Bool.and_true, Bool.false_and, Bool.and_false, Bool.or_true, Bool.true_or, Bool.false_or, Bool.or_false, reduceIte, decide_true, decide_false, if_true, if_false, List.replicate_succ, List.replicate_zero, Nat.reduceAdd, Nat.reduceSub, Nat.zero_add, List.mem_cons, List.not_mem_nil, or_false, false_or, not_false_eq_true, reduceCtorEq, ne_eq, and_self, and_true, true_and, Nat.reduceLT, Nat.reduceLeDiff, beq_self_eq_true, Nat.reduceEqDiff, Nat.add_one_ne_zero, modC, divC, mulC, powC, Int.reduceLT, Int.reduceLE, Int.reduceNeg, Int.reducePow, Int.reduceToNat, Int.reduceEq, Nat.reducePow, Int.zero_add, eqL, eqD, eqB, neD, isD, sz_0, sz_1, sz_2, sz_3, sz_4, sz_5, sz_6, sz_7, sz_8, sz_9, sz_10, sz_11, sz_12, sz_13, sz_14, sz_15, sz_16, sz_17, sz_18, sz_19, sz_20, sz_21, sz_22, sz_23, sz_24, sz_25, sz_26, sz_27, sz_28, sz_29, sz_30, nc_0, nc_1, nc_2, nc_3, nc_4, nc_5, nc_6, nc_7, nc_8, nc_9, nc_10, nc_11, nc_12, nc_13, nc_14, nc_15, nc_16, nc_17, nc_18, nc_19, nc_20, nc_21, nc_22, nc_23, nc_24, nc_25, nc_26, nc_27, nc_28, nc_29, nc_30, isiT, isiK, isiC, isiM, tyNames, tagD, tb0_NoneType, tb0_bool, tb0_int, tb0_str, tb0_tuple, tb0_list, tb0_Tree, tb1_NoneType, tb1_bool, tb1_int, tb1_str, tb1_tuple, tb1_list, tb1_Tree, tb2_NoneType, tb2_bool, tb2_int, tb2_str, tb2_tuple, tb2_list, tb2_Tree, tb3_NoneType, tb3_bool, tb3_int, tb3_str, tb3_tuple, tb3_list, tb3_Tree, tb4_NoneType, tb4_bool, tb4_int, tb4_str, tb4_tuple, tb4_list, tb4_Tree, tb5_NoneType, tb5_bool, tb5_int, tb5_str, tb5_tuple, tb5_list, tb5_Tree, tb6_NoneType, tb6_bool, tb6_int, tb6_str, tb6_tuple, tb6_list, tb6_Tree, nq_kind_children, nb_kind_children, nq_kind_size, nb_kind_size, nq_kind_depth, nb_kind_depth, nq_children_kind, nb_children_kind, nq_children_size, nb_children_size, nq_children_depth, nb_children_depth, nq_size_kind, nb_size_kind, nq_size_children, nb_size_children, nq_size_depth, nb_size_depth, nq_depth_kind, nb_depth_kind, nq_depth_children, nb_depth_children, nq_depth_size, nb_depth_size]
  refine tkT_of (sz_of (by simp; omega)) ?_
  simp only [↓kn_q, ↓kn_e, ↓kq_q, ↓kp_p, ↓ps_nx, ↓ps_rt, ↓ps_bk, ↓ps_ct, ↓ps_ex, ↓tkV_val, ↓tkV_own, ↓tkVR_val, ↓tkVR_own, ↓tkO_own, ↓tkA_val, ↓tkB_bl, ↓tkI_int, ↓tkStr_str, ↓tkC_obj, ↓tkSm_some, ↓tkSm_map, ↓tkSm_bind, ↓tkSm_ite, ↓tkP_t, ↓tkIf_t, ↓tkIf_f, ↓tkT_t, ↓tk_ok, ↓tk_exc, ↓tk_bind, ↓tk_lift, ↓tks_nx, ↓tks_rt, ↓tks_eS, ↓tks_seq, ↓tks_next, ↓tks_brk, ↓tks_cnt, ↓tks_drop, ↓tks_ret, ↓tks_retN, ↓tks_if, ↓tks_frz, ↓tks_set, ↓tks_setO, ↓tks_par, ↓tks_mut, ↓tks_app, ↓tks_store, ↓tks_fld, ↓tks_aug, ↓tks_for, ↓tks_for0, ↓tk_var, ↓tk_varR, ↓tk_c, ↓tk_bin, ↓tk_test, ↓tk_tnot, ↓tk_yes, ↓tk_tand, ↓tk_tor, ↓tk_call, ↓tk_fn, ↓tk_mkF, ↓tk_nil, ↓tk_cons, ↓tk_attr, ↓tk_meth, ↓tk_xif, ↓tk_seqI, ↓tk_enum, ↓tk_rng1, ↓tk_rng2, ↓tk_loc, ↓tk_lc, ↓tk_neg, ↓tk_no, ↓tk_part, ↓tk_sl, ↓tk_xsNil, ↓tk_xsV, ↓tk_xsO, ↓tk_xnot, ↓tk_xand, ↓tk_xor, ↓tk_lst, ↓tk_tup, ↓tk_sz, ↓tk_chain, ↓tk_s1, ↓tk_maxDf, ↓tk_star, List.getElem?_cons_zero, List.getElem?_cons_succ, List.set_cons_zero, List.set_cons_succ, List.map_cons, List.map_nil, List.cons_append, List.nil_append, List.append_assoc, tkJ_own, frzG, putS, wipeG, pVar, pTup, psCons, psNil, atD, ixD_lst, ixD_tup, ixD_scr, at_0, at_1, at_2, at_3, at_4, at_5, at_6, at_7, lenD, intC, absC, max2C, min2C, addD, intD, cmpD, yesC, slD, seqD, enumD, stD, sumC, allC, anyC, tupC, maxC, Option.bind_some, Option.map_some, List.lookup_cons, List.lookup_nil, List.length_cons, List.length_nil, Bool.not_true, Bool.not_false, Bool.and_self, Bool.true_and, Bool.and_true, Bool.false_and, Bool.and_false, Bool.or_true, Bool.true_or, Bool.false_or, Bool.or_false, reduceIte, decide_true, decide_false, if_true, if_false, List.replicate_succ, List.replicate_zero, Nat.reduceAdd, Nat.reduceSub, Nat.zero_add, List.mem_cons, List.not_mem_nil, or_false, false_or, not_false_eq_true, reduceCtorEq, ne_eq, and_self, and_true, true_and, Nat.reduceLT, Nat.reduceLeDiff, beq_self_eq_true, Nat.reduceEqDiff, Nat.add_one_ne_zero, modC, divC, mulC, powC, Int.reduceLT, Int.reduceLE, Int.reduceNeg, Int.reducePow, Int.reduceToNat, Int.reduceEq, Nat.reducePow, Int.zero_add, eqL, eqD, eqB, neD, isD, sz_0, sz_1, sz_2, sz_3, sz_4, sz_5, sz_6, sz_7, sz_8, sz_9, sz_10, sz_11, sz_12, sz_13, sz_14, sz_15, sz_16, sz_17, sz_18, sz_19, sz_20, sz_21, sz_22, sz_23, sz_24, sz_25, sz_26, sz_27, sz_28, sz_29, sz_30, nc_0, nc_1, nc_2, nc_3, nc_4, nc_5, nc_6, nc_7, nc_8, nc_9, nc_10, nc_11, nc_12, nc_13, nc_14, nc_15, nc_16, nc_17, nc_18, nc_19, nc_20, nc_21, nc_22, nc_23, nc_24, nc_25, nc_26, nc_27, nc_28, nc_29, nc_30, isiT, isiK, isiC, isiM, tyNames, tagD, tb0_NoneType, tb0_bool, tb0_int, tb0_str, tb0_tuple, tb0_list, tb0_Tree, tb1_NoneType, tb1_bool, tb1_int, tb1_str, tb1_tuple, tb1_list, tb1_Tree, tb2_NoneType, tb2_bool, tb2_int, tb2_str, tb2_tuple, tb2_list, tb2_Tree, tb3_NoneType, tb3_bool, tb3_int, tb3_str, tb3_tuple, tb3_list, tb3_Tree, tb4_NoneType, tb4_bool, tb4_int, tb4_str, tb4_tuple, tb4_list, tb4_Tree, tb5_NoneType, tb5_bool, tb5_int, tb5_str, tb5_tuple, tb5_list, tb5_Tree, tb6_NoneType, tb6_bool, tb6_int, tb6_str, tb6_tuple, tb6_list, tb6_Tree, nq_kind_children, nb_kind_children, nq_kind_size, nb_kind_size, nq_kind_depth, nb_kind_depth, nq_children_kind, nb_children_kind, nq_children_size, nb_children_size, nq_children_depth, nb_children_depth, nq_size_kind, nb_size_kind, nq_size_children, nb_size_children, nq_size_depth, nb_size_depth, nq_depth_kind, nb_depth_kind, nq_depth_children, nb_depth_children, nq_depth_size, nb_depth_size]
  refine tlc_map tz (fun d hd => ?_) ?_
  · obtain ⟨p, hpm, rfl⟩ := List.mem_map.mp hd
    have := hp p hpm
    generalize p.1 = c at this
    generalize p.2 = xs at this
    unfold e_Treezzzinitzz_1
    cases this with
    | tree ht =>
      obtain ⟨⟨fs, rfl, _, _⟩, _⟩ := ht
      simp only [↓kn_q, ↓kn_e, ↓kq_q, ↓kp_p, ↓ps_nx, ↓ps_rt, ↓ps_bk, ↓ps_ct, ↓ps_ex, ↓tkV_val, ↓tkV_own, ↓tkVR_val, ↓tkVR_own, ↓tkO_own, ↓tkA_val, ↓tkB_bl, ↓tkI_int, ↓tkStr_str, ↓tkC_obj, ↓tkSm_some, ↓tkSm_map, ↓tkSm_bind, ↓tkSm_ite, ↓tkP_t, ↓tkIf_t, ↓tkIf_f, ↓tkT_t, ↓tk_ok, ↓tk_exc, ↓tk_bind, ↓tk_lift, ↓tks_nx, ↓tks_rt, ↓tks_eS, ↓tks_seq, ↓tks_next, ↓tks_brk, ↓tks_cnt, ↓tks_drop, ↓tks_ret, ↓tks_retN, ↓tks_if, ↓tks_frz, ↓tks_set, ↓tks_setO, ↓tks_par, ↓tks_mut, ↓tks_app, ↓tks_store, ↓tks_fld, ↓tks_aug, ↓tks_for, ↓tks_for0, ↓tk_var, ↓tk_varR, ↓tk_c, ↓tk_bin, ↓tk_test, ↓tk_tnot, ↓tk_yes, ↓tk_tand, ↓tk_tor, ↓tk_call, ↓tk_fn, ↓tk_mkF, ↓tk_nil, ↓tk_cons, ↓tk_attr, ↓tk_meth, ↓tk_xif, ↓tk_seqI, ↓tk_enum, ↓tk_rng1, ↓tk_rng2, ↓tk_loc, ↓tk_lc, ↓tk_neg, ↓tk_no, ↓tk_part, ↓tk_sl, ↓tk_xsNil, ↓tk_xsV, ↓tk_xsO, ↓tk_xnot, ↓tk_xand, ↓tk_xor, ↓tk_lst, ↓tk_tup, ↓tk_sz, ↓tk_chain, ↓tk_s1, ↓tk_maxDf, ↓tk_star, List.getElem?_cons_zero, List.getElem?_cons_succ, List.set_cons_zero, List.set_cons_succ, List.map_cons, List.map_nil, List.cons_append, List.nil_append, List.append_assoc, tkJ_own, frzG, putS, wipeG, pVar, pTup, psCons, psNil, atD, ixD_lst, ixD_tup, ixD_scr, at_0, at_1, at_2, at_3, at_4, at_5, at_6, at_7, lenD, intC, absC, max2C, min2C, addD, intD, cmpD, yesC, slD, seqD, enumD, stD, sumC, allC, anyC, tupC, maxC, Option.bind_some, Option.map_some, List.lookup_cons, List.lookup_nil, List.length_cons, List.length_nil, Bool.not_true, Bool.not_false, Bool.and_self, Bool.true_and, Bool.and_true, Bool.false_and, Bool.and_false, Bool.or_true, Bool.true_or, Bool.false_or, Bool.or_false, reduceIte, decide_true, decide_false, if_true, if_false, List.replicate_succ, List.replicate_zero, Nat.reduceAdd, Nat.reduceSub, Nat.zero_add, List.mem_cons, List.not_mem_nil, or_false, false_or, not_false_eq_true, reduceCtorEq, ne_eq, and_self, and_true, true_and, Nat.reduceLT, Nat.reduceLeDiff, beq_self_eq_true, Nat.reduceEqDiff, Nat.add_one_ne_zero, modC, divC, mulC, powC, Int.reduceLT, Int.reduceLE, Int.reduceNeg, Int.reducePow, Int.reduceToNat, Int.reduceEq, Nat.reducePow, Int.zero_add, eqL, eqD, eqB, neD, isD, sz_0, sz_1, sz_2, sz_3, sz_4, sz_5, sz_6, sz_7, sz_8, sz_9, sz_10, sz_11, sz_12, sz_13, sz_14, sz_15, sz_16, sz_17, sz_18, sz_19, sz_20, sz_21, sz_22, sz_23, sz_24, sz_25, sz_26, sz_27, sz_28, sz_29, sz_30, nc_0, nc_1, nc_2, nc_3, nc_4, nc_5, nc_6, nc_7, nc_8, nc_9, nc_10, nc_11, nc_12, nc_13, nc_14, nc_15, nc_16, nc_17, nc_18, nc_19, nc_20, nc_21, nc_22, nc_23, nc_24, nc_25, nc_26, nc_27, nc_28, nc_29, nc_30, isiT, isiK, isiC, isiM, tyNames, tagD, tb0_NoneType, tb0_bool, tb0_int, tb0_str, tb0_tuple, tb0_list, tb0_Tree, tb1_NoneType, tb1_bool, tb1_int, tb1_str, tb1_tuple, tb1_list, tb1_Tree, tb2_NoneType, tb2_bool, tb2_int, tb2_str, tb2_tuple, tb2_list, tb2_Tree, tb3_NoneType, tb3_bool, tb3_int, tb3_str, tb3_tuple, tb3_list, tb3_Tree, tb4_NoneType, tb4_bool, tb4_int, tb4_str, tb4_tuple, tb4_list, tb4_Tree, tb5_NoneType, tb5_bool, tb5_int, tb5_str, tb5_tuple, tb5_list, tb5_Tree, tb6_NoneType, tb6_bool, tb6_int, tb6_str, tb6_tuple, tb6_list, tb6_Tree, nq_kind_children, nb_kind_children, nq_kind_size, nb_kind_size, nq_kind_depth, nb_kind_depth, nq_children_kind, nb_children_kind, nq_children_size, nb_children_size, nq_children_depth, nb_children_depth, nq_size_kind, nb_size_kind, nq_size_children, nb_size_children, nq_size_depth, nb_size_depth, nq_depth_kind, nb_depth_kind, nq_depth_children, nb_depth_children, nq_depth_size, nb_depth_size, tz]
    | lst h _ => simp only [↓kn_q, ↓kn_e, ↓kq_q, ↓kp_p, ↓ps_nx, ↓ps_rt, ↓ps_bk, ↓ps_ct, ↓ps_ex, ↓tkV_val, ↓tkV_own, ↓tkVR_val, ↓tkVR_own, ↓tkO_own, ↓tkA_val, ↓tkB_bl, ↓tkI_int, ↓tkStr_str, ↓tkC_obj, ↓tkSm_some, ↓tkSm_map, ↓tkSm_bind, ↓tkSm_ite, ↓tkP_t, ↓tkIf_t, ↓tkIf_f, ↓tkT_t, ↓tk_ok, ↓tk_exc, ↓tk_bind, ↓tk_lift, ↓tks_nx, ↓tks_rt, ↓tks_eS, ↓tks_seq, ↓tks_next, ↓tks_brk, ↓tks_cnt, ↓tks_drop, ↓tks_ret, ↓tks_retN, ↓tks_if, ↓tks_frz, ↓tks_set, ↓tks_setO, ↓tks_par, ↓tks_mut, ↓tks_app, ↓tks_store, ↓tks_fld, ↓tks_aug, ↓tks_for, ↓tks_for0, ↓tk_var, ↓tk_varR, ↓tk_c, ↓tk_bin, ↓tk_test, ↓tk_tnot, ↓tk_yes, ↓tk_tand, ↓tk_tor, ↓tk_call, ↓tk_fn, ↓tk_mkF, ↓tk_nil, ↓tk_cons, ↓tk_attr, ↓tk_meth, ↓tk_xif, ↓tk_seqI, ↓tk_enum, ↓tk_rng1, ↓tk_rng2, ↓tk_loc, ↓tk_lc, ↓tk_neg, ↓tk_no, ↓tk_part, ↓tk_sl, ↓tk_xsNil, ↓tk_xsV, ↓tk_xsO, ↓tk_xnot, ↓tk_xand, ↓tk_xor, ↓tk_lst, ↓tk_tup, ↓tk_sz, ↓tk_chain, ↓tk_s1, ↓tk_maxDf, ↓tk_star, List.getElem?_cons_zero, List.getElem?_cons_succ, List.set_cons_zero, List.set_cons_succ, List.map_cons, List.map_nil, List.cons_append, List.nil_append, List.append_assoc, tkJ_own, frzG, putS, wipeG, pVar, pTup, psCons, psNil, atD, ixD_lst, ixD_tup, ixD_scr, at_0, at_1, at_2, at_3, at_4, at_5, at_6, at_7, lenD, intC, absC, max2C, min2C, addD, intD, cmpD, yesC, slD, seqD, enumD, stD, sumC, allC, anyC, tupC, maxC, Option.bind_some, Option.map_some, List.lookup_cons, List.lookup_nil, List.length_cons, List.length_nil, Bool.not_true, Bool.not_false, Bool.and_self, Bool.true_and, Bool.and_true, Bool.false_and, Bool.and_false, Bool.or_true, Bool.true_or, Bool.false_or, Bool.or_false, reduceIte, decide_true, decide_false, if_true, if_false, List.replicate_succ, List.replicate_zero, Nat.reduceAdd, Nat.reduceSub, Nat.zero_add, List.mem_cons, List.not_mem_nil, or_false, false_or, not_false_eq_true, reduceCtorEq, ne_eq, and_self, and_true, true_and, Nat.reduceLT, Nat.reduceLeDiff, beq_self_eq_true, Nat.reduceEqDiff, Nat.add_one_ne_zero, modC, divC, mulC, powC, Int.reduceLT, Int.reduceLE, Int.reduceNeg, Int.reducePow, Int.reduceToNat, Int.reduceEq, Nat.reducePow, Int.zero_add, eqL, eqD, eqB, neD, isD, sz_0, sz_1, sz_2, sz_3, sz_4, sz_5, sz_6, sz_7, sz_8, sz_9, sz_10, sz_11, sz_12, sz_13, sz_14, sz_15, sz_16, sz_17, sz_18, sz_19, sz_20, sz_21, sz_22, sz_23, sz_24, sz_25, sz_26, sz_27, sz_28, sz_29, sz_30, nc_0, nc_1, nc_2, nc_3, nc_4, nc_5, nc_6, nc_7, nc_8, nc_9, nc_10, nc_11, nc_12, nc_13, nc_14, nc_15, nc_16, nc_17, nc_18, nc_19, nc_20, nc_21, nc_22, nc_23, nc_24, nc_25, nc_26, nc_27, nc_28, nc_29, nc_30, isiT, isiK, isiC, isiM, tyNames, tagD, tb0_NoneType, tb0_bool, tb0_int, tb0_str, tb0_tuple, tb0_list, tb0_Tree, tb1_NoneType, tb1_bool, tb1_int, tb1_str, tb1_tuple, tb1_list, tb1_Tree, tb2_NoneType, tb2_bool, tb2_int, tb2_str, tb2_tuple, tb2_list, tb2_Tree, tb3_NoneType, tb3_bool, tb3_int, tb3_str, tb3_tuple, tb3_list, tb3_Tree, tb4_NoneType, tb4_bool, tb4_int, tb4_str, tb4_tuple, tb4_list, tb4_Tree, tb5_NoneType, tb5_bool, tb5_int, tb5_str, tb5_tuple, tb5_list, tb5_Tree, tb6_NoneType, tb6_bool, tb6_int, tb6_str, tb6_tuple, tb6_list, tb6_Tree, nq_kind_children, nb_kind_children, nq_kind_size, nb_kind_size, nq_kind_depth, nb_kind_depth, nq_children_kind, nb_children_kind, nq_children_size, nb_children_size, nq_children_depth, nb_children_depth, nq_size_kind, nb_size_kind, nq_size_children, nb_size_children, nq_size_depth, nb_size_depth, nq_depth_kind, nb_depth_kind, nq_depth_children, nb_depth_children, nq_depth_size, nb_depth_size, tz]
    | tup h _ => simp only [↓kn_q, ↓kn_e, ↓kq_q, ↓kp_p, ↓ps_nx, ↓ps_rt, ↓ps_bk, ↓ps_ct, ↓ps_ex, ↓tkV_val, ↓tkV_own, ↓tkVR_val, ↓tkVR_own, ↓tkO_own, ↓tkA_val, ↓tkB_bl, ↓tkI_int, ↓tkStr_str, ↓tkC_obj, ↓tkSm_some, ↓tkSm_map, ↓tkSm_bind, ↓tkSm_ite, ↓tkP_t, ↓tkIf_t, ↓tkIf_f, ↓tkT_t, ↓tk_ok, ↓tk_exc, ↓tk_bind, ↓tk_lift, ↓tks_nx, ↓tks_rt, ↓tks_eS, ↓tks_seq, ↓tks_next, ↓tks_brk, ↓tks_cnt, ↓tks_drop, ↓tks_ret, ↓tks_retN, ↓tks_if, ↓tks_frz, ↓tks_set, ↓tks_setO, ↓tks_par, ↓tks_mut, ↓tks_app, ↓tks_store, ↓tks_fld, ↓tks_aug, ↓tks_for, ↓tks_for0, ↓tk_var, ↓tk_varR, ↓tk_c, ↓tk_bin, ↓tk_test, ↓tk_tnot, ↓tk_yes, ↓tk_tand, ↓tk_tor, ↓tk_call, ↓tk_fn, ↓tk_mkF, ↓tk_nil, ↓tk_cons, ↓tk_attr, ↓tk_meth, ↓tk_xif, ↓tk_seqI, ↓tk_enum, ↓tk_rng1, ↓tk_rng2, ↓tk_loc, ↓tk_lc, ↓tk_neg, ↓tk_no, ↓tk_part, ↓tk_sl, ↓tk_xsNil, ↓tk_xsV, ↓tk_xsO, ↓tk_xnot, ↓tk_xand, ↓tk_xor, ↓tk_lst, ↓tk_tup, ↓tk_sz, ↓tk_chain, ↓tk_s1, ↓tk_maxDf, ↓tk_star, List.getElem?_cons_zero, List.getElem?_cons_succ, List.set_cons_zero, List.set_cons_succ, List.map_cons, List.map_nil, List.cons_append, List.nil_append, List.append_assoc, tkJ_own, frzG, putS, wipeG, pVar, pTup, psCons, psNil, atD, ixD_lst, ixD_tup, ixD_scr, at_0, at_1, at_2, at_3, at_4, at_5, at_6, at_7, lenD, intC, absC, max2C, min2C, addD, intD, cmpD, yesC, slD, seqD, enumD, stD, sumC, allC, anyC, tupC, maxC, Option.bind_some, Option.map_some, List.lookup_cons, List.lookup_nil, List.length_cons, List.length_nil, Bool.not_true, Bool.not_false, Bool.and_self, Bool.true_and, Bool.and_true, Bool.false_and, Bool.and_false, Bool.or_true, Bool.true_or, Bool.false_or, Bool.or_false, reduceIte, decide_true, decide_false, if_true, if_false, List.replicate_succ, List.replicate_zero, Nat.reduceAdd, Nat.reduceSub, Nat.zero_add, List.mem_cons, List.not_mem_nil, or_false, false_or, not_false_eq_true, reduceCtorEq, ne_eq, and_self, and_true, true_and, Nat.reduceLT, Nat.reduceLeDiff, beq_self_eq_true, Nat.reduceEqDiff, Nat.add_one_ne_zero, modC, divC, mulC, powC, Int.reduceLT, Int.reduceLE, Int.reduceNeg, Int.reducePow, Int.reduceToNat, Int.reduceEq, Nat.reducePow, Int.zero_add, eqL, eqD, eqB, neD, isD, sz_0, sz_1, sz_2, sz_3, sz_4, sz_5, sz_6, sz_7, sz_8, sz_9, sz_10, sz_11, sz_12, sz_13, sz_14, sz_15, sz_16, sz_17, sz_18, sz_19, sz_20, sz_21, sz_22, sz_23, sz_24, sz_25, sz_26, sz_27, sz_28, sz_29, sz_30, nc_0, nc_1, nc_2, nc_3, nc_4, nc_5, nc_6, nc_7, nc_8, nc_9, nc_10, nc_11, nc_12, nc_13, nc_14, nc_15, nc_16, nc_17, nc_18, nc_19, nc_20, nc_21, nc_22, nc_23, nc_24, nc_25, nc_26, nc_27, nc_28, nc_29, nc_30, isiT, isiK, isiC, isiM, tyNames, tagD, tb0_NoneType, tb0_bool, tb0_int, tb0_str, tb0_tuple, tb0_list, tb0_Tree, tb1_NoneType, tb1_bool, tb1_int, tb1_str, tb1_tuple, tb1_list, tb1_Tree, tb2_NoneType, tb2_bool, tb2_int, tb2_str, tb2_tuple, tb2_list, tb2_Tree, tb3_NoneType, tb3_bool, tb3_int, tb3_str, tb3_tuple, tb3_list, tb3_Tree, tb4_NoneType, tb4_bool, tb4_int, tb4_str, tb4_tuple, tb4_list, tb4_Tree, tb5_NoneType, tb5_bool, tb5_int, tb5_str, tb5_tuple, tb5_list, tb5_Tree, tb6_NoneType, tb6_bool, tb6_int, tb6_str, tb6_tuple, tb6_list, tb6_Tree, nq_kind_children, nb_kind_children, nq_kind_size, nb_kind_size, nq_kind_depth, nb_kind_depth, nq_children_kind, nb_children_kind, nq_children_size, nb_children_size, nq_children_depth, nb_children_depth, nq_size_kind, nb_size_kind, nq_size_children, nb_size_children, nq_size_depth, nb_size_depth, nq_depth_kind, nb_depth_kind, nq_depth_children, nb_depth_children, nq_depth_size, nb_depth_size, tz]
  simp only [↓kn_q, ↓kn_e, ↓kq_q, ↓kp_p, ↓ps_nx, ↓ps_rt, ↓ps_bk, ↓ps_ct, ↓ps_ex, ↓tkV_val, ↓tkV_own, ↓tkVR_val, ↓tkVR_own, ↓tkO_own, ↓tkA_val, ↓tkB_bl, ↓tkI_int, ↓tkStr_str, ↓tkC_obj, ↓tkSm_some, ↓tkSm_map, ↓tkSm_bind, ↓tkSm_ite, ↓tkP_t, ↓tkIf_t, ↓tkIf_f, ↓tkT_t, ↓tk_ok, ↓tk_exc, ↓tk_bind, ↓tk_lift, ↓tks_nx, ↓tks_rt, ↓tks_eS, ↓tks_seq, ↓tks_next, ↓tks_brk, ↓tks_cnt, ↓tks_drop, ↓tks_ret, ↓tks_retN, ↓tks_if, ↓tks_frz, ↓tks_set, ↓tks_setO, ↓tks_par, ↓tks_mut, ↓tks_app, ↓tks_store, ↓tks_fld, ↓tks_aug, ↓tks_for, ↓tks_for0, ↓tk_var, ↓tk_varR, ↓tk_c, ↓tk_bin, ↓tk_test, ↓tk_tnot, ↓tk_yes, ↓tk_tand, ↓tk_tor, ↓tk_call, ↓tk_fn, ↓tk_mkF, ↓tk_nil, ↓tk_cons, ↓tk_attr, ↓tk_meth, ↓tk_xif, ↓tk_seqI, ↓tk_enum, ↓tk_rng1, ↓tk_rng2, ↓tk_loc, ↓tk_lc, ↓tk_neg, ↓tk_no, ↓tk_part, ↓tk_sl, ↓tk_xsNil, ↓tk_xsV, ↓tk_xsO, ↓tk_xnot, ↓tk_xand, ↓tk_xor, ↓tk_lst, ↓tk_tup, ↓tk_sz, ↓tk_chain, ↓tk_s1, ↓tk_maxDf, ↓tk_star, List.getElem?_cons_zero, List.getElem?_cons_succ, List.set_cons_zero, List.set_cons_succ, List.map_cons, List.map_nil, List.cons_append, List.nil_append, List.append_assoc, tkJ_own, frzG, putS, wipeG, pVar, pTup, psCons, psNil, atD, ixD_lst, ixD_tup, ixD_scr, at_0, at_1, at_2, at_3, at_4, at_5, at_6, at_7, lenD, intC, absC, max2C, min2C, addD, intD, cmpD, yesC, slD, seqD, enumD, stD, sumC, allC, anyC, tupC, maxC, Option.bind_some, Option.map_some, List.lookup_cons, List.lookup_nil, List.length_cons, List.length_nil, Bool.not_true, Bool.not_false, Bool.and_self, Bool.true_and, Bool.and_true, Bool.false_and, Bool.and_false, Bool.or_true, Bool.true_or, Bool.false_or, Bool.or_false, reduceIte, decide_true, decide_false, if_true, if_false, List.replicate_succ, List.replicate_zero, Nat.reduceAdd, Nat.reduceSub, Nat.zero_add, List.mem_cons, List.not_mem_nil, or_false, false_or, not_false_eq_true, reduceCtorEq, ne_eq, and_self, and_true, true_and, Nat.reduceLT, Nat.reduceLeDiff, beq_self_eq_true, Nat.reduceEqDiff, Nat.add_one_ne_zero, modC, divC, mulC, powC, Int.reduceLT, Int.reduceLE, Int.reduceNeg, Int.reducePow, Int.reduceToNat, Int.reduceEq, Nat.reducePow, Int.zero_add, eqL, eqD, eqB, neD, isD, sz_0, sz_1, sz_2, sz_3, sz_4, sz_5, sz_6, sz_7, sz_8, sz_9, sz_10, sz_11, sz_12, sz_13, sz_14, sz_15, sz_16, sz_17, sz_18, sz_19, sz_20, sz_21, sz_22, sz_23, sz_24, sz_25, sz_26, sz_27, sz_28, sz_29, sz_30, nc_0, nc_1, nc_2, nc_3, nc_4, nc_5, nc_6, nc_7, nc_8, nc_9, nc_10, nc_11, nc_12, nc_13, nc_14, nc_15, nc_16, nc_17, nc_18, nc_19, nc_20, nc_21, nc_22, nc_23, nc_24, nc_25, nc_26, nc_27, nc_28, nc_29, nc_30, isiT, isiK, isiC, isiM, tyNames, tagD, tb0_NoneType, tb0_bool, tb0_int, tb0_str, tb0_tuple, tb0_list, tb0_Tree, tb1_NoneType, tb1_bool, tb1_int, tb1_str, tb1_tuple, tb1_list, tb1_Tree, tb2_NoneType, tb2_bool, tb2_int, tb2_str, tb2_tuple, tb2_list, tb2_Tree, tb3_NoneType, tb3_bool, tb3_int, tb3_str, tb3_tuple, tb3_list, tb3_Tree, tb4_NoneType, tb4_bool, tb4_int, tb4_str, tb4_tuple, tb4_list, tb4_Tree, tb5_NoneType, tb5_bool, tb5_int, tb5_str, tb5_tuple, tb5_list, tb5_Tree, tb6_NoneType, tb6_bool, tb6_int, tb6_str, tb6_tuple, tb6_list, tb6_Tree, nq_kind_children, nb_kind_children, nq_kind_size, nb_kind_size, nq_kind_depth, nb_kind_depth, nq_children_kind, nb_children_kind, nq_children_size, nb_children_size, nq_children_depth, nb_children_depth, nq_size_kind, nb_size_kind, nq_size_children, nb_size_children, nq_size_depth, nb_size_depth, nq_depth_kind, nb_depth_kind, nq_depth_children, nb_depth_children, nq_depth_size, nb_depth_size]
  refine below_spec (ps := ps) (by rw [List.map_map]; rfl) hp hl ?_
  simp only [↓kn_q, ↓kn_e, ↓kq_q, ↓kp_p, ↓ps_nx, ↓ps_rt, ↓ps_bk, ↓ps_ct, ↓ps_ex, ↓tkV_val, ↓tkV_own, ↓tkVR_val, ↓tkVR_own, ↓tkO_own, ↓tkA_val, ↓tkB_bl, ↓tkI_int, ↓tkStr_str, ↓tkC_obj, ↓tkSm_some, ↓tkSm_map, ↓tkSm_bind, ↓tkSm_ite, ↓tkP_t, ↓tkIf_t, ↓tkIf_f, ↓tkT_t, ↓tk_ok, ↓tk_exc, ↓tk_bind, ↓tk_lift, ↓tks_nx, ↓tks_rt, ↓tks_eS, ↓tks_seq, ↓tks_next, ↓tks_brk, ↓tks_cnt, ↓tks_drop, ↓tks_ret, ↓tks_retN, ↓tks_if, ↓tks_frz, ↓tks_set, ↓tks_setO, ↓tks_par, ↓tks_mut, ↓tks_app, ↓tks_store, ↓tks_fld, ↓tks_aug, ↓tks_for, ↓tks_for0, ↓tk_var, ↓tk_varR, ↓tk_c, ↓tk_bin, ↓tk_test, ↓tk_tnot, ↓tk_yes, ↓tk_tand, ↓tk_tor, ↓tk_call, ↓tk_fn, ↓tk_mkF, ↓tk_nil, ↓tk_cons, ↓tk_attr, ↓tk_meth, ↓tk_xif, ↓tk_seqI, ↓tk_enum, ↓tk_rng1, ↓tk_rng2, ↓tk_loc, ↓tk_lc, ↓tk_neg, ↓tk_no, ↓tk_part, ↓tk_sl, ↓tk_xsNil, ↓tk_xsV, ↓tk_xsO, ↓tk_xnot, ↓tk_xand, ↓tk_xor, ↓tk_lst, ↓tk_tup, ↓tk_sz, ↓tk_chain, ↓tk_s1, ↓tk_maxDf, ↓tk_star, List.getElem?_cons_zero, List.getElem?_cons_succ, List.set_cons_zero, List.set_cons_succ, List.map_cons, List.map_nil, List.cons_append, List.nil_append, List.append_assoc, tkJ_own, frzG, putS, wipeG, pVar, pTup, psCons, psNil, atD, ixD_lst, ixD_tup, ixD_scr, at_0, at_1, at_2, at_3, at_4, at_5, at_6, at_7, lenD, intC, absC, max2C, min2C, addD, intD, cmpD, yesC, slD, seqD, enumD, stD, sumC, allC, anyC, tupC, maxC, Option.bind_some, Option.map_some, List.lookup_cons, List.lookup_nil, List.length_cons, List.length_nil, Bool.not_true, Bool.not_false, Bool.and_self, Bool.true_and, Bool.and_true, Bool.false_and, Bool.and_false, Bool.or_true, Bool.true_or, Bool.false_or, Bool.or_false, reduceIte, decide_true, decide_false, if_true, if_false, List.replicate_succ, List.replicate_zero, Nat.reduceAdd, Nat.reduceSub, Nat.zero_add, List.mem_cons, List.not_mem_nil, or_false, false_or, not_false_eq_true, reduceCtorEq, ne_eq, and_self, and_true, true_and, Nat.reduceLT, Nat.reduceLeDiff, beq_self_eq_true, Nat.reduceEqDiff, Nat.add_one_ne_zero, modC, divC, mulC, powC, Int.reduceLT, Int.reduceLE, Int.reduceNeg, Int.reducePow, Int.reduceToNat, Int.reduceEq, Nat.reducePow, Int.zero_add, eqL, eqD, eqB, neD, isD, sz_0, sz_1, sz_2, sz_3, sz_4, sz_5, sz_6, sz_7, sz_8, sz_9, sz_10, sz_11, sz_12, sz_13, sz_14, sz_15, sz_16, sz_17, sz_18, sz_19, sz_20, sz_21, sz_22, sz_23, sz_24, sz_25, sz_26, sz_27, sz_28, sz_29, sz_30, nc_0, nc_1, nc_2, nc_3, nc_4, nc_5, nc_6, nc_7, nc_8, nc_9, nc_10, nc_11, nc_12, nc_13, nc_14, nc_15, nc_16, nc_17, nc_18, nc_19, nc_20, nc_21, nc_22, nc_23, nc_24, nc_25, nc_26, nc_27, nc_28, nc_29, nc_30, isiT, isiK, isiC, isiM, tyNames, tagD, tb0_NoneType, tb0_bool, tb0_int, tb0_str, tb0_tuple, tb0_list, tb0_Tree, tb1_NoneType, tb1_bool, tb1_int, tb1_str, tb1_tuple, tb1_list, tb1_Tree, tb2_NoneType, tb2_bool, tb2_int, tb2_str, tb2_tuple, tb2_list, tb2_Tree, tb3_NoneType, tb3_bool, tb3_int, tb3_str, tb3_tuple, tb3_list, tb3_Tree, tb4_NoneType, tb4_bool, tb4_int, tb4_str, tb4_tuple, tb4_list, tb4_Tree, tb5_NoneType, tb5_bool, tb5_int, tb5_str, tb5_tuple, tb5_list, tb5_Tree, tb6_NoneType, tb6_bool, tb6_int, tb6_str, tb6_tuple, tb6_list, tb6_Tree, nq_kind_children, nb_kind_children, nq_kind_size, nb_kind_size, nq_kind_depth, nb_kind_depth, nq_children_kind, nb_children_kind, nq_children_size, nb_children_size, nq_children_depth, nb_children_depth, nq_size_kind, nb_size_kind, nq_size_children, nb_size_children, nq_size_depth, nb_size_depth, nq_depth_kind, nb_depth_kind, nq_depth_children, nb_depth_children, nq_depth_size, nb_depth_size]
  have es : ∀ (n : Str) (sel : D × Int × Int → Int), (∀ x ∈ trs ps, atD n x.1 = some (.int (sel x))) → ((trs ps).map (·.1)).map (fun d => (atD n d).getD .non) = ((trs ps).map sel).map .int := by
    intro n sel h
    rw [List.map_map, List.map_map]
    refine List.map_congr_left fun x hx => ?_
    simp only [Function.comp, h x hx, Option.getD_some]
  have esz : ∀ x ∈ trs ps, atD "size" x.1 = some (.int x.2.1) := fun x hx => by
    obtain ⟨⟨fs, e, h, _⟩, _⟩ := htr x hx
    rw [e]
    exact h
  have edp : ∀ x ∈ trs ps, atD "depth" x.1 = some (.int x.2.2) := fun x hx => by
    obtain ⟨⟨fs, e, _, h⟩, _⟩ := htr x hx
    rw [e]
    exact h
  refine tkT_of (sz_of (by simp only [List.length_map]; omega)) ?_
  simp only [↓kn_q, ↓kn_e, ↓kq_q, ↓kp_p, ↓ps_nx, ↓ps_rt, ↓ps_bk, ↓ps_ct, ↓ps_ex, ↓tkV_val, ↓tkV_own, ↓tkVR_val, ↓tkVR_own, ↓tkO_own, ↓tkA_val, ↓tkB_bl, ↓tkI_int, ↓tkStr_str, ↓tkC_obj, ↓tkSm_some, ↓tkSm_map, ↓tkSm_bind, ↓tkSm_ite, ↓tkP_t, ↓tkIf_t, ↓tkIf_f, ↓tkT_t, ↓tk_ok, ↓tk_exc, ↓tk_bind, ↓tk_lift, ↓tks_nx, ↓tks_rt, ↓tks_eS, ↓tks_seq, ↓tks_next, ↓tks_brk, ↓tks_cnt, ↓tks_drop, ↓tks_ret, ↓tks_retN, ↓tks_if, ↓tks_frz, ↓tks_set, ↓tks_setO, ↓tks_par, ↓tks_mut, ↓tks_app, ↓tks_store, ↓tks_fld, ↓tks_aug, ↓tks_for, ↓tks_for0, ↓tk_var, ↓tk_varR, ↓tk_c, ↓tk_bin, ↓tk_test, ↓tk_tnot, ↓tk_yes, ↓tk_tand, ↓tk_tor, ↓tk_call, ↓tk_fn, ↓tk_mkF, ↓tk_nil, ↓tk_cons, ↓tk_attr, ↓tk_meth, ↓tk_xif, ↓tk_seqI, ↓tk_enum, ↓tk_rng1, ↓tk_rng2, ↓tk_loc, ↓tk_lc, ↓tk_neg, ↓tk_no, ↓tk_part, ↓tk_sl, ↓tk_xsNil, ↓tk_xsV, ↓tk_xsO, ↓tk_xnot, ↓tk_xand, ↓tk_xor, ↓tk_lst, ↓tk_tup, ↓tk_sz, ↓tk_chain, ↓tk_s1, ↓tk_maxDf, ↓tk_star, List.getElem?_cons_zero, List.getElem?_cons_succ, List.set_cons_zero, List.set_cons_succ, List.map_cons, List.map_nil, List.cons_append, List.nil_append, List.append_assoc, tkJ_own, frzG, putS, wipeG, pVar, pTup, psCons, psNil, atD, ixD_lst, ixD_tup, ixD_scr, at_0, at_1, at_2, at_3, at_4, at_5, at_6, at_7, lenD, intC, absC, max2C, min2C, addD, intD, cmpD, yesC, slD, seqD, enumD, stD, sumC, allC, anyC, tupC, maxC, Option.bind_some, Option.map_some, List.lookup_cons, List.lookup_nil, List.length_cons, List.length_nil, Bool.not_true, Bool.not_false, Bool.and_self, Bool.true_and, Bool.and_true, Bool.false_and, Bool.and_false, Bool.or_true, Bool.true_or, Bool.false_or, Bool.or_false, reduceIte, decide_true, decide_false, if_true, if_false, List.replicate_succ, List.replicate_zero, Nat.reduceAdd, Nat.reduceSub, Nat.zero_add, List.mem_cons, List.not_mem_nil, or_false, false_or, not_false_eq_true, reduceCtorEq, ne_eq, and_self, and_true, true_and, Nat.reduceLT, Nat.reduceLeDiff, beq_self_eq_true, Nat.reduceEqDiff, Nat.add_one_ne_zero, modC, divC, mulC, powC, Int.reduceLT, Int.reduceLE, Int.reduceNeg, Int.reducePow, Int.reduceToNat, Int.reduceEq, Nat.reducePow, Int.zero_add, eqL, eqD, eqB, neD, isD, sz_0, sz_1, sz_2, sz_3, sz_4, sz_5, sz_6, sz_7, sz_8, sz_9, sz_10, sz_11, sz_12, sz_13, sz_14, sz_15, sz_16, sz_17, sz_18, sz_19, sz_20, sz_21, sz_22, sz_23, sz_24, sz_25, sz_26, sz_27, sz_28, sz_29, sz_30, nc_0, nc_1, nc_2, nc_3, nc_4, nc_5, nc_6, nc_7, nc_8, nc_9, nc_10, nc_11, nc_12, nc_13, nc_14, nc_15, nc_16, nc_17, nc_18, nc_19, nc_20, nc_21, nc_22, nc_23, nc_24, nc_25, nc_26, nc_27, nc_28, nc_29, nc_30, isiT, isiK, isiC, isiM, tyNames, tagD, tb0_NoneType, tb0_bool, tb0_int, tb0_str, tb0_tuple, tb0_list, tb0_Tree, tb1_NoneType, tb1_bool, tb1_int, tb1_str, tb1_tuple, tb1_list, tb1_Tree, tb2_NoneType, tb2_bool, tb2_int, tb2_str, tb2_tuple, tb2_list, tb2_Tree, tb3_NoneType, tb3_bool, tb3_int, tb3_str, tb3_tuple, tb3_list, tb3_Tree, tb4_NoneType, tb4_bool, tb4_int, tb4_str, tb4_tuple, tb4_list, tb4_Tree, tb5_NoneType, tb5_bool, tb5_int, tb5_str, tb5_tuple, tb5_list, tb5_Tree, tb6_NoneType, tb6_bool, tb6_int, tb6_str, tb6_tuple, tb6_list, tb6_Tree, nq_kind_children, nb_kind_children, nq_kind_size, nb_kind_size, nq_kind_depth, nb_kind_depth, nq_children_kind, nb_children_kind, nq_children_size, nb_children_size, nq_children_depth, nb_children_depth, nq_size_kind, nb_size_kind, nq_size_children, nb_size_children, nq_size_depth, nb_size_depth, nq_depth_kind, nb_depth_kind, nq_depth_children, nb_depth_children, nq_depth_size, nb_depth_size]
  refine tlc_map (fun d => (atD "size" d).getD .non) (fun d hd => ?_) ?_
  · obtain ⟨x, hx, rfl⟩ := List.mem_map.mp hd
    unfold e_Treezzzinitzz_2
    simp only [↓kn_q, ↓kn_e, ↓kq_q, ↓kp_p, ↓ps_nx, ↓ps_rt, ↓ps_bk, ↓ps_ct, ↓ps_ex, ↓tkV_val, ↓tkV_own, ↓tkVR_val, ↓tkVR_own, ↓tkO_own, ↓tkA_val, ↓tkB_bl, ↓tkI_int, ↓tkStr_str, ↓tkC_obj, ↓tkSm_some, ↓tkSm_map, ↓tkSm_bind, ↓tkSm_ite, ↓tkP_t, ↓tkIf_t, ↓tkIf_f, ↓tkT_t, ↓tk_ok, ↓tk_exc, ↓tk_bind, ↓tk_lift, ↓tks_nx, ↓tks_rt, ↓tks_eS, ↓tks_seq, ↓tks_next, ↓tks_brk, ↓tks_cnt, ↓tks_drop, ↓tks_ret, ↓tks_retN, ↓tks_if, ↓tks_frz, ↓tks_set, ↓tks_setO, ↓tks_par, ↓tks_mut, ↓tks_app, ↓tks_store, ↓tks_fld, ↓tks_aug, ↓tks_for, ↓tks_for0, ↓tk_var, ↓tk_varR, ↓tk_c, ↓tk_bin, ↓tk_test, ↓tk_tnot, ↓tk_yes, ↓tk_tand, ↓tk_tor, ↓tk_call, ↓tk_fn, ↓tk_mkF, ↓tk_nil, ↓tk_cons, ↓tk_attr, ↓tk_meth, ↓tk_xif, ↓tk_seqI, ↓tk_enum, ↓tk_rng1, ↓tk_rng2, ↓tk_loc, ↓tk_lc, ↓tk_neg, ↓tk_no, ↓tk_part, ↓tk_sl, ↓tk_xsNil, ↓tk_xsV, ↓tk_xsO, ↓tk_xnot, ↓tk_xand, ↓tk_xor, ↓tk_lst, ↓tk_tup, ↓tk_sz, ↓tk_chain, ↓tk_s1, ↓tk_maxDf, ↓tk_star, List.getElem?_cons_zero, List.getElem?_cons_succ, List.set_cons_zero, List.set_cons_succ, List.map_cons, List.map_nil, List.cons_append, List.nil_append, List.append_assoc, tkJ_own, frzG, putS, wipeG, pVar, pTup, psCons, psNil, ixD_lst, ixD_tup, ixD_scr, at_0, at_1, at_2, at_3, at_4, at_5, at_6, at_7, lenD, intC, absC, max2C, min2C, addD, intD, cmpD, yesC, slD, seqD, enumD, stD, sumC, allC, anyC, tupC, maxC, Option.bind_some, Option.map_some, List.lookup_cons, List.lookup_nil, List.length_cons, List.length_nil, Bool.not_true, Bool.not_false, Bool.and_self, Bool.true_and, Bool.and_true, Bool.false_and, Bool.and_false, Bool.or_true, Bool.true_or, Bool.false_or, Bool.or_false, reduceIte, decide_true, decide_false, if_true, if_false, List.replicate_succ, List.replicate_zero, Nat.reduceAdd, Nat.reduceSub, Nat.zero_add, List.mem_cons, List.not_mem_nil, or_false, false_or, not_false_eq_true, reduceCtorEq, ne_eq, and_self, and_true, true_and, Nat.reduceLT, Nat.reduceLeDiff, beq_self_eq_true, Nat.reduceEqDiff, Nat.add_one_ne_zero, modC, divC, mulC, powC, Int.reduceLT, Int.reduceLE, Int.reduceNeg, Int.reducePow, Int.reduceToNat, Int.reduceEq, Nat.reducePow, Int.zero_add, eqL, eqD, eqB, neD, isD, sz_0, sz_1, sz_2, sz_3, sz_4, sz_5, sz_6, sz_7, sz_8, sz_9, sz_10, sz_11, sz_12, sz_13, sz_14, sz_15, sz_16, sz_17, sz_18, sz_19, sz_20, sz_21, sz_22, sz_23, sz_24, sz_25, sz_26, sz_27, sz_28, sz_29, sz_30, nc_0, nc_1, nc_2, nc_3, nc_4, nc_5, nc_6, nc_7, nc_8, nc_9, nc_10, nc_11, nc_12, nc_13, nc_14, nc_15, nc_16, nc_17, nc_18, nc_19, nc_20, nc_21, nc_22, nc_23, nc_24, nc_25, nc_26, nc_27, nc_28, nc_29, nc_30, isiT, isiK, isiC, isiM, tyNames, tagD, tb0_NoneType, tb0_bool, tb0_int, tb0_str, tb0_tuple, tb0_list, tb0_Tree, tb1_NoneType, tb1_bool, tb1_int, tb1_str, tb1_tuple, tb1_list, tb1_Tree, tb2_NoneType, tb2_bool, tb2_int, tb2_str, tb2_tuple, tb2_list, tb2_Tree, tb3_NoneType, tb3_bool, tb3_int, tb3_str, tb3_tuple, tb3_list, tb3_Tree, tb4_NoneType, tb4_bool, tb4_int, tb4_str, tb4_tuple, tb4_list, tb4_Tree, tb5_NoneType, tb5_bool, tb5_int, tb5_str, tb5_tuple, tb5_list, tb5_Tree, tb6_NoneType, tb6_bool, tb6_int, tb6_str, tb6_tuple, tb6_list, tb6_Tree, nq_kind_children, nb_kind_children, nq_kind_size, nb_kind_size, nq_kind_depth, nb_kind_depth, nq_children_kind, nb_children_kind, nq_children_size, nb_children_size, nq_children_depth, nb_children_depth, nq_size_kind, nb_size_kind, nq_size_children, nb_size_children, nq_size_depth, nb_size_depth, nq_depth_kind, nb_depth_kind, nq_depth_children, nb_depth_children, nq_depth_size, nb_depth_size, esz x hx, Option.getD_some]
  rw [es "size" (·.2.1) esz]
  simp only [↓kn_q, ↓kn_e, ↓kq_q, ↓kp_p, ↓ps_nx, ↓ps_rt, ↓ps_bk, ↓ps_ct, ↓ps_ex, ↓tkV_val, ↓tkV_own, ↓tkVR_val, ↓tkVR_own, ↓tkO_own, ↓tkA_val, ↓tkB_bl, ↓tkI_int, ↓tkStr_str, ↓tkC_obj, ↓tkSm_some, ↓tkSm_map, ↓tkSm_bind, ↓tkSm_ite, ↓tkP_t, ↓tkIf_t, ↓tkIf_f, ↓tkT_t, ↓tk_ok, ↓tk_exc, ↓tk_bind, ↓tk_lift, ↓tks_nx, ↓tks_rt, ↓tks_eS, ↓tks_seq, ↓tks_next, ↓tks_brk, ↓tks_cnt, ↓tks_drop, ↓tks_ret, ↓tks_retN, ↓tks_if, ↓tks_frz, ↓tks_set, ↓tks_setO, ↓tks_par, ↓tks_mut, ↓tks_app, ↓tks_store, ↓tks_fld, ↓tks_aug, ↓tks_for, ↓tks_for0, ↓tk_var, ↓tk_varR, ↓tk_c, ↓tk_bin, ↓tk_test, ↓tk_tnot, ↓tk_yes, ↓tk_tand, ↓tk_tor, ↓tk_call, ↓tk_fn, ↓tk_mkF, ↓tk_nil, ↓tk_cons, ↓tk_attr, ↓tk_meth, ↓tk_xif, ↓tk_seqI, ↓tk_enum, ↓tk_rng1, ↓tk_rng2, ↓tk_loc, ↓tk_lc, ↓tk_neg, ↓tk_no, ↓tk_part, ↓tk_sl, ↓tk_xsNil, ↓tk_xsV, ↓tk_xsO, ↓tk_xnot, ↓tk_xand, ↓tk_xor, ↓tk_lst, ↓tk_tup, ↓tk_sz, ↓tk_chain, ↓tk_s1, ↓tk_maxDf, ↓tk_star, List.getElem?_cons_zero, List.getElem?_cons_succ, List.set_cons_zero, List.set_cons_succ, List.map_cons, List.map_nil, List.cons_append, List.nil_append, List.append_assoc, tkJ_own, frzG, putS, wipeG, pVar, pTup, psCons, psNil, atD, ixD_lst, ixD_tup, ixD_scr, at_0, at_1, at_2, at_3, at_4, at_5, at_6, at_7, lenD, intC, absC, max2C, min2C, addD, intD, cmpD, yesC, slD, seqD, enumD, stD, sumC, allC, anyC, tupC, maxC, Option.bind_some, Option.map_some, List.lookup_cons, List.lookup_nil, List.length_cons, List.length_nil, Bool.not_true, Bool.not_false, Bool.and_self, Bool.true_and, Bool.and_true, Bool.false_and, Bool.and_false, Bool.or_true, Bool.true_or, Bool.false_or, Bool.or_false, reduceIte, decide_true, decide_false, if_true, if_false, List.replicate_succ, List.replicate_zero, Nat.reduceAdd, Nat.reduceSub, Nat.zero_add, List.mem_cons, List.not_mem_nil, or_false, false_or, not_false_eq_true, reduceCtorEq, ne_eq, and_self, and_true, true_and, Nat.reduceLT, Nat.reduceLeDiff, beq_self_eq_true, Nat.reduceEqDiff, Nat.add_one_ne_zero, modC, divC, mulC, powC, Int.reduceLT, Int.reduceLE, Int.reduceNeg, Int.reducePow, Int.reduceToNat, Int.reduceEq, Nat.reducePow, Int.zero_add, eqL, eqD, eqB, neD, isD, sz_0, sz_1, sz_2, sz_3, sz_4, sz_5, sz_6, sz_7, sz_8, sz_9, sz_10, sz_11, sz_12, sz_13, sz_14, sz_15, sz_16, sz_17, sz_18, sz_19, sz_20, sz_21, sz_22, sz_23, sz_24, sz_25, sz_26, sz_27, sz_28, sz_29, sz_30, nc_0, nc_1, nc_2, nc_3, nc_4, nc_5, nc_6, nc_7, nc_8, nc_9, nc_10, nc_11, nc_12, nc_13, nc_14, nc_15, nc_16, nc_17, nc_18, nc_19, nc_20, nc_21, nc_22, nc_23, nc_24, nc_25, nc_26, nc_27, nc_28, nc_29, nc_30, isiT, isiK, isiC, isiM, tyNames, tagD, tb0_NoneType, tb0_bool, tb0_int, tb0_str, tb0_tuple, tb0_list, tb0_Tree, tb1_NoneType, tb1_bool, tb1_int, tb1_str, tb1_tuple, tb1_list, tb1_Tree, tb2_NoneType, tb2_bool, tb2_int, tb2_str, tb2_tuple, tb2_list, tb2_Tree, tb3_NoneType, tb3_bool, tb3_int, tb3_str, tb3_tuple, tb3_list, tb3_Tree, tb4_NoneType, tb4_bool, tb4_int, tb4_str, tb4_tuple, tb4_list, tb4_Tree, tb5_NoneType, tb5_bool, tb5_int, tb5_str, tb5_tuple, tb5_list, tb5_Tree, tb6_NoneType, tb6_bool, tb6_int, tb6_str, tb6_tuple, tb6_list, tb6_Tree, nq_kind_children, nb_kind_children, nq_kind_size, nb_kind_size, nq_kind_depth, nb_kind_depth, nq_children_kind, nb_children_kind, nq_children_size, nb_children_size, nq_children_depth, nb_children_depth, nq_size_kind, nb_size_kind, nq_size_children, nb_size_children, nq_size_depth, nb_size_depth, nq_depth_kind, nb_depth_kind, nq_depth_children, nb_depth_children, nq_depth_size, nb_depth_size, ints_map]
  refine tkT_of (sz_of (by simp only [List.length_map]; omega)) ?_
  simp only [↓kn_q, ↓kn_e, ↓kq_q, ↓kp_p, ↓ps_nx, ↓ps_rt, ↓ps_bk, ↓ps_ct, ↓ps_ex, ↓tkV_val, ↓tkV_own, ↓tkVR_val, ↓tkVR_own, ↓tkO_own, ↓tkA_val, ↓tkB_bl, ↓tkI_int, ↓tkStr_str, ↓tkC_obj, ↓tkSm_some, ↓tkSm_map, ↓tkSm_bind, ↓tkSm_ite, ↓tkP_t, ↓tkIf_t, ↓tkIf_f, ↓tkT_t, ↓tk_ok, ↓tk_exc, ↓tk_bind, ↓tk_lift, ↓tks_nx, ↓tks_rt, ↓tks_eS, ↓tks_seq, ↓tks_next, ↓tks_brk, ↓tks_cnt, ↓tks_drop, ↓tks_ret, ↓tks_retN, ↓tks_if, ↓tks_frz, ↓tks_set, ↓tks_setO, ↓tks_par, ↓tks_mut, ↓tks_app, ↓tks_store, ↓tks_fld, ↓tks_aug, ↓tks_for, ↓tks_for0, ↓tk_var, ↓tk_varR, ↓tk_c, ↓tk_bin, ↓tk_test, ↓tk_tnot, ↓tk_yes, ↓tk_tand, ↓tk_tor, ↓tk_call, ↓tk_fn, ↓tk_mkF, ↓tk_nil, ↓tk_cons, ↓tk_attr, ↓tk_meth, ↓tk_xif, ↓tk_seqI, ↓tk_enum, ↓tk_rng1, ↓tk_rng2, ↓tk_loc, ↓tk_lc, ↓tk_neg, ↓tk_no, ↓tk_part, ↓tk_sl, ↓tk_xsNil, ↓tk_xsV, ↓tk_xsO, ↓tk_xnot, ↓tk_xand, ↓tk_xor, ↓tk_lst, ↓tk_tup, ↓tk_sz, ↓tk_chain, ↓tk_s1, ↓tk_maxDf, ↓tk_star, List.getElem?_cons_zero, List.getElem?_cons_succ, List.set_cons_zero, List.set_cons_succ, List.map_cons, List.map_nil, List.cons_append, List.nil_append, List.append_assoc, tkJ_own, frzG, putS, wipeG, pVar, pTup, psCons, psNil, atD, ixD_lst, ixD_tup, ixD_scr, at_0, at_1, at_2, at_3, at_4, at_5, at_6, at_7, lenD, intC, absC, max2C, min2C, addD, intD, cmpD, yesC, slD, seqD, enumD, stD, sumC, allC, anyC, tupC, maxC, Option.bind_some, Option.map_some, List.lookup_cons, List.lookup_nil, List.length_cons, List.length_nil, Bool.not_true, Bool.not_false, Bool.and_self, Bool.true_and, Bool.and_true, Bool.false_and, Bool.and_false, Bool.or_true, Bool.true_or, Bool.false_or, Bool.or_false, reduceIte, decide_true, decide_false, if_true, if_false, List.replicate_succ, List.replicate_zero, Nat.reduceAdd, Nat.reduceSub, Nat.zero_add, List.mem_cons, List.not_mem_nil, or_false, false_or, not_false_eq_true, reduceCtorEq, ne_eq, and_self, and_true, true_and, Nat.reduceLT, Nat.reduceLeDiff, beq_self_eq_true, Nat.reduceEqDiff, Nat.add_one_ne_zero, modC, divC, mulC, powC, Int.reduceLT, Int.reduceLE, Int.reduceNeg, Int.reducePow, Int.reduceToNat, Int.reduceEq, Nat.reducePow, Int.zero_add, eqL, eqD, eqB, neD, isD, sz_0, sz_1, sz_2, sz_3, sz_4, sz_5, sz_6, sz_7, sz_8, sz_9, sz_10, sz_11, sz_12, sz_13, sz_14, sz_15, sz_16, sz_17, sz_18, sz_19, sz_20, sz_21, sz_22, sz_23, sz_24, sz_25, sz_26, sz_27, sz_28, sz_29, sz_30, nc_0, nc_1, nc_2, nc_3, nc_4, nc_5, nc_6, nc_7, nc_8, nc_9, nc_10, nc_11, nc_12, nc_13, nc_14, nc_15, nc_16, nc_17, nc_18, nc_19, nc_20, nc_21, nc_22, nc_23, nc_24, nc_25, nc_26, nc_27, nc_28, nc_29, nc_30, isiT, isiK, isiC, isiM, tyNames, tagD, tb0_NoneType, tb0_bool, tb0_int, tb0_str, tb0_tuple, tb0_list, tb0_Tree, tb1_NoneType, tb1_bool, tb1_int, tb1_str, tb1_tuple, tb1_list, tb1_Tree, tb2_NoneType, tb2_bool, tb2_int, tb2_str, tb2_tuple, tb2_list, tb2_Tree, tb3_NoneType, tb3_bool, tb3_int, tb3_str, tb3_tuple, tb3_list, tb3_Tree, tb4_NoneType, tb4_bool, tb4_int, tb4_str, tb4_tuple, tb4_list, tb4_Tree, tb5_NoneType, tb5_bool, tb5_int, tb5_str, tb5_tuple, tb5_list, tb5_Tree, tb6_NoneType, tb6_bool, tb6_int, tb6_str, tb6_tuple, tb6_list, tb6_Tree, nq_kind_children, nb_kind_children, nq_kind_size, nb_kind_size, nq_kind_depth, nb_kind_depth, nq_children_kind, nb_children_kind, nq_children_size, nb_children_size, nq_children_depth, nb_children_depth, nq_size_kind, nb_size_kind, nq_size_children, nb_size_children, nq_size_depth, nb_size_depth, nq_depth_kind, nb_depth_kind, nq_depth_children, nb_depth_children, nq_depth_size, nb_depth_size]
  refine tlc_map (fun d => (atD "depth" d).getD .non) (fun d hd => ?_) ?_
  · obtain ⟨x, hx, rfl⟩ := List.mem_map.mp hd
    unfold e_Treezzzinitzz_3
    simp only [↓kn_q, ↓kn_e, ↓kq_q, ↓kp_p, ↓ps_nx, ↓ps_rt, ↓ps_bk, ↓ps_ct, ↓ps_ex, ↓tkV_val, ↓tkV_own, ↓tkVR_val, ↓tkVR_own, ↓tkO_own, ↓tkA_val, ↓tkB_bl, ↓tkI_int, ↓tkStr_str, ↓tkC_obj, ↓tkSm_some, ↓tkSm_map, ↓tkSm_bind, ↓tkSm_ite, ↓tkP_t, ↓tkIf_t, ↓tkIf_f, ↓tkT_t, ↓tk_ok, ↓tk_exc, ↓tk_bind, ↓tk_lift, ↓tks_nx, ↓tks_rt, ↓tks_eS, ↓tks_seq, ↓tks_next, ↓tks_brk, ↓tks_cnt, ↓tks_drop, ↓tks_ret, ↓tks_retN, ↓tks_if, ↓tks_frz, ↓tks_set, ↓tks_setO, ↓tks_par, ↓tks_mut, ↓tks_app, ↓tks_store, ↓tks_fld, ↓tks_aug, ↓tks_for, ↓tks_for0, ↓tk_var, ↓tk_varR, ↓tk_c, ↓tk_bin, ↓tk_test, ↓tk_tnot, ↓tk_yes, ↓tk_tand, ↓tk_tor, ↓tk_call, ↓tk_fn, ↓tk_mkF, ↓tk_nil, ↓tk_cons, ↓tk_attr, ↓tk_meth, ↓tk_xif, ↓tk_seqI, ↓tk_enum, ↓tk_rng1, ↓tk_rng2, ↓tk_loc, ↓tk_lc, ↓tk_neg, ↓tk_no, ↓tk_part, ↓tk_sl, ↓tk_xsNil, ↓tk_xsV, ↓tk_xsO, ↓tk_xnot, ↓tk_xand, ↓tk_xor, ↓tk_lst, ↓tk_tup, ↓tk_sz, ↓tk_chain, ↓tk_s1, ↓tk_maxDf, ↓tk_star, List.getElem?_cons_zero, List.getElem?_cons_succ, List.set_cons_zero, List.set_cons_succ, List.map_cons, List.map_nil, List.cons_append, List.nil_append, List.append_assoc, tkJ_own, frzG, putS, wipeG, pVar, pTup, psCons, psNil, ixD_lst, ixD_tup, ixD_scr, at_0, at_1, at_2, at_3, at_4, at_5, at_6, at_7, lenD, intC, absC, max2C, min2C, addD, intD, cmpD, yesC, slD, seqD, enumD, stD, sumC, allC, anyC, tupC, maxC, Option.bind_some, Option.map_some, List.lookup_cons, List.lookup_nil, List.length_cons, List.length_nil, Bool.not_true, Bool.not_false, Bool.and_self, Bool.true_and, Bool.and_true, Bool.false_and, Bool.and_false, Bool.or_true, Bool.true_or, Bool.false_or, Bool.or_false, reduceIte, decide_true, decide_false, if_true, if_false, List.replicate_succ, List.replicate_zero, Nat.reduceAdd, Nat.reduceSub, Nat.zero_add, List.mem_cons, List.not_mem_nil, or_false, false_or, not_false_eq_true, reduceCtorEq, ne_eq, and_self, and_true, true_and, Nat.reduceLT, Nat.reduceLeDiff, beq_self_eq_true, Nat.reduceEqDiff, Nat.add_one_ne_zero, modC, divC, mulC, powC, Int.reduceLT, Int.reduceLE, Int.reduceNeg, Int.reducePow, Int.reduceToNat, Int.reduceEq, Nat.reducePow, Int.zero_add, eqL, eqD, eqB, neD, isD, sz_0, sz_1, sz_2, sz_3, sz_4, sz_5, sz_6, sz_7, sz_8, sz_9, sz_10, sz_11, sz_12, sz_13, sz_14, sz_15, sz_16, sz_17, sz_18, sz_19, sz_20, sz_21, sz_22, sz_23, sz_24, sz_25, sz_26, sz_27, sz_28, sz_29, sz_30, nc_0, nc_1, nc_2, nc_3, nc_4, nc_5, nc_6, nc_7, nc_8, nc_9, nc_10, nc_11, nc_12, nc_13, nc_14, nc_15, nc_16, nc_17, nc_18, nc_19, nc_20, nc_21, nc_22, nc_23, nc_24, nc_25, nc_26, nc_27, nc_28, nc_29, nc_30, isiT, isiK, isiC, isiM, tyNames, tagD, tb0_NoneType, tb0_bool, tb0_int, tb0_str, tb0_tuple, tb0_list, tb0_Tree, tb1_NoneType, tb1_bool, tb1_int, tb1_str, tb1_tuple, tb1_list, tb1_Tree, tb2_NoneType, tb2_bool, tb2_int, tb2_str, tb2_tuple, tb2_list, tb2_Tree, tb3_NoneType, tb3_bool, tb3_int, tb3_str, tb3_tuple, tb3_list, tb3_Tree, tb4_NoneType, tb4_bool, tb4_int, tb4_str, tb4_tuple, tb4_list, tb4_Tree, tb5_NoneType, tb5_bool, tb5_int, tb5_str, tb5_tuple, tb5_list, tb5_Tree, tb6_NoneType, tb6_bool, tb6_int, tb6_str, tb6_tuple, tb6_list, tb6_Tree, nq_kind_children, nb_kind_children, nq_kind_size, nb_kind_size, nq_kind_depth, nb_kind_depth, nq_children_kind, nb_children_kind, nq_children_size, nb_children_size, nq_children_depth, nb_children_depth, nq_size_kind, nb_size_kind, nq_size_children, nb_size_children, nq_size_depth, nb_size_depth, nq_depth_kind, nb_depth_kind, nq_depth_children, nb_depth_children, nq_depth_size, nb_depth_size, edp x hx, Option.getD_some]
  rw [es "depth" (·.2.2) edp]
  simp only [↓kn_q, ↓kn_e, ↓kq_q, ↓kp_p, ↓ps_nx, ↓ps_rt, ↓ps_bk, ↓ps_ct, ↓ps_ex, ↓tkV_val, ↓tkV_own, ↓tkVR_val, ↓tkVR_own, ↓tkO_own, ↓tkA_val, ↓tkB_bl, ↓tkI_int, ↓tkStr_str, ↓tkC_obj, ↓tkSm_some, ↓tkSm_map, ↓tkSm_bind, ↓tkSm_ite, ↓tkP_t, ↓tkIf_t, ↓tkIf_f, ↓tkT_t, ↓tk_ok, ↓tk_exc, ↓tk_bind, ↓tk_lift, ↓tks_nx, ↓tks_rt, ↓tks_eS, ↓tks_seq, ↓tks_next, ↓tks_brk, ↓tks_cnt, ↓tks_drop, ↓tks_ret, ↓tks_retN, ↓tks_if, ↓tks_frz, ↓tks_set, ↓tks_setO, ↓tks_par, ↓tks_mut, ↓tks_app, ↓tks_store, ↓tks_fld, ↓tks_aug, ↓tks_for, ↓tks_for0, ↓tk_var, ↓tk_varR, ↓tk_c, ↓tk_bin, ↓tk_test, ↓tk_tnot, ↓tk_yes, ↓tk_tand, ↓tk_tor, ↓tk_call, ↓tk_fn, ↓tk_mkF, ↓tk_nil, ↓tk_cons, ↓tk_attr, ↓tk_meth, ↓tk_xif, ↓tk_seqI, ↓tk_enum, ↓tk_rng1, ↓tk_rng2, ↓tk_loc, ↓tk_lc, ↓tk_neg, ↓tk_no, ↓tk_part, ↓tk_sl, ↓tk_xsNil, ↓tk_xsV, ↓tk_xsO, ↓tk_xnot, ↓tk_xand, ↓tk_xor, ↓tk_lst, ↓tk_tup, ↓tk_sz, ↓tk_chain, ↓tk_s1, ↓tk_maxDf, ↓tk_star, List.getElem?_cons_zero, List.getElem?_cons_succ, List.set_cons_zero, List.set_cons_succ, List.map_cons, List.map_nil, List.cons_append, List.nil_append, List.append_assoc, tkJ_own, frzG, putS, wipeG, pVar, pTup, psCons, psNil, atD, ixD_lst, ixD_tup, ixD_scr, at_0, at_1, at_2, at_3, at_4, at_5, at_6, at_7, lenD, intC, absC, max2C, min2C, addD, intD, cmpD, yesC, slD, seqD, enumD, stD, sumC, allC, anyC, tupC, maxC, Option.bind_some, Option.map_some, List.lookup_cons, List.lookup_nil, List.length_cons, List.length_nil, Bool.not_true, Bool.not_false, Bool.and_self, Bool.true_and, Bool.and_true, Bool.false_and, Bool.and_false, Bool.or_true, Bool.true_or, Bool.false_or, Bool.or_false, reduceIte, decide_true, decide_false, if_true, if_false, List.replicate_succ, List.replicate_zero, Nat.reduceAdd, Nat.reduceSub, Nat.zero_add, List.mem_cons, List.not_mem_nil, or_false, false_or, not_false_eq_true, reduceCtorEq, ne_eq, and_self, and_true, true_and, Nat.reduceLT, Nat.reduceLeDiff, beq_self_eq_true, Nat.reduceEqDiff, Nat.add_one_ne_zero, modC, divC, mulC, powC, Int.reduceLT, Int.reduceLE, Int.reduceNeg, Int.reducePow, Int.reduceToNat, Int.reduceEq, Nat.reducePow, Int.zero_add, eqL, eqD, eqB, neD, isD, sz_0, sz_1, sz_2, sz_3, sz_4, sz_5, sz_6, sz_7, sz_8, sz_9, sz_10, sz_11, sz_12, sz_13, sz_14, sz_15, sz_16, sz_17, sz_18, sz_19, sz_20, sz_21, sz_22, sz_23, sz_24, sz_25, sz_26, sz_27, sz_28, sz_29, sz_30, nc_0, nc_1, nc_2, nc_3, nc_4, nc_5, nc_6, nc_7, nc_8, nc_9, nc_10, nc_11, nc_12, nc_13, nc_14, nc_15, nc_16, nc_17, nc_18, nc_19, nc_20, nc_21, nc_22, nc_23, nc_24, nc_25, nc_26, nc_27, nc_28, nc_29, nc_30, isiT, isiK, isiC, isiM, tyNames, tagD, tb0_NoneType, tb0_bool, tb0_int, tb0_str, tb0_tuple, tb0_list, tb0_Tree, tb1_NoneType, tb1_bool, tb1_int, tb1_str, tb1_tuple, tb1_list, tb1_Tree, tb2_NoneType, tb2_bool, tb2_int, tb2_str, tb2_tuple, tb2_list, tb2_Tree, tb3_NoneType, tb3_bool, tb3_int, tb3_str, tb3_tuple, tb3_list, tb3_Tree, tb4_NoneType, tb4_bool, tb4_int, tb4_str, tb4_tuple, tb4_list, tb4_Tree, tb5_NoneType, tb5_bool, tb5_int, tb5_str, tb5_tuple, tb5_list, tb5_Tree, tb6_NoneType, tb6_bool, tb6_int, tb6_str, tb6_tuple, tb6_list, tb6_Tree, nq_kind_children, nb_kind_children, nq_kind_size, nb_kind_size, nq_kind_depth, nb_kind_depth, nq_children_kind, nb_children_kind, nq_children_size, nb_children_size, nq_children_depth, nb_children_depth, nq_size_kind, nb_size_kind, nq_size_children, nb_size_children, nq_size_depth, nb_size_depth, nq_depth_kind, nb_depth_kind, nq_depth_children, nb_depth_children, nq_depth_size, nb_depth_size, ints_map, maxDf]
  rw [mx_some, tkSm_some]
  simp only [↓kn_q, ↓kn_e, ↓kq_q, ↓kp_p, ↓ps_nx, ↓ps_rt, ↓ps_bk, ↓ps_ct, ↓ps_ex, ↓tkV_val, ↓tkV_own, ↓tkVR_val, ↓tkVR_own, ↓tkO_own, ↓tkA_val, ↓tkB_bl, ↓tkI_int, ↓tkStr_str, ↓tkC_obj, ↓tkSm_some, ↓tkSm_map, ↓tkSm_bind, ↓tkSm_ite, ↓tkP_t, ↓tkIf_t, ↓tkIf_f, ↓tkT_t, ↓tk_ok, ↓tk_exc, ↓tk_bind, ↓tk_lift, ↓tks_nx, ↓tks_rt, ↓tks_eS, ↓tks_seq, ↓tks_next, ↓tks_brk, ↓tks_cnt, ↓tks_drop, ↓tks_ret, ↓tks_retN, ↓tks_if, ↓tks_frz, ↓tks_set, ↓tks_setO, ↓tks_par, ↓tks_mut, ↓tks_app, ↓tks_store, ↓tks_fld, ↓tks_aug, ↓tks_for, ↓tks_for0, ↓tk_var, ↓tk_varR, ↓tk_c, ↓tk_bin, ↓tk_test, ↓tk_tnot, ↓tk_yes, ↓tk_tand, ↓tk_tor, ↓tk_call, ↓tk_fn, ↓tk_mkF, ↓tk_nil, ↓tk_cons, ↓tk_attr, ↓tk_meth, ↓tk_xif, ↓tk_seqI, ↓tk_enum, ↓tk_rng1, ↓tk_rng2, ↓tk_loc, ↓tk_lc, ↓tk_neg, ↓tk_no, ↓tk_part, ↓tk_sl, ↓tk_xsNil, ↓tk_xsV, ↓tk_xsO, ↓tk_xnot, ↓tk_xand, ↓tk_xor, ↓tk_lst, ↓tk_tup, ↓tk_sz, ↓tk_chain, ↓tk_s1, ↓tk_maxDf, ↓tk_star, List.getElem?_cons_zero, List.getElem?_cons_succ, List.set_cons_zero, List.set_cons_succ, List.map_cons, List.map_nil, List.cons_append, List.nil_append, List.append_assoc, tkJ_own, frzG, putS, wipeG, pVar, pTup, psCons, psNil, atD, ixD_lst, ixD_tup, ixD_scr, at_0, at_1, at_2, at_3, at_4, at_5, at_6, at_7, lenD, intC, absC, max2C, min2C, addD, intD, cmpD, yesC, slD, seqD, enumD, stD, sumC, allC, anyC, tupC, maxC, Option.bind_some, Option.map_some, List.lookup_cons, List.lookup_nil, List.length_cons, List.length_nil, Bool.not_true, Bool.not_false, Bool.and_self, Bool.true_and, Bool.and_true, Bool.false_and, Bool.and_false, Bool.or_true, Bool.true_or, Bool.false_or, Bool.or_false, reduceIte, decide_true, decide_false, if_true, if_false, List.replicate_succ, List.replicate_zero, Nat.reduceAdd, Nat.reduceSub, Nat.zero_add, List.mem_cons, List.not_mem_nil, or_false, false_or, not_false_eq_true, reduceCtorEq, ne_eq, and_self, and_true, true_and, Nat.reduceLT, Nat.reduceLeDiff, beq_self_eq_true, Nat.reduceEqDiff, Nat.add_one_ne_zero, modC, divC, mulC, powC, Int.reduceLT, Int.reduceLE, Int.reduceNeg, Int.reducePow, Int.reduceToNat, Int.reduceEq, Nat.reducePow, Int.zero_add, eqL, eqD, eqB, neD, isD, sz_0, sz_1, sz_2, sz_3, sz_4, sz_5, sz_6, sz_7, sz_8, sz_9, sz_10, sz_11, sz_12, sz_13, sz_14, sz_15, sz_16, sz_17, sz_18, sz_19, sz_20, sz_21, sz_22, sz_23, sz_24, sz_25, sz_26, sz_27, sz_28, sz_29, sz_30, nc_0, nc_1, nc_2, nc_3, nc_4, nc_5, nc_6, nc_7, nc_8, nc_9, nc_10, nc_11, nc_12, nc_13, nc_14, nc_15, nc_16, nc_17, nc_18, nc_19, nc_20, nc_21, nc_22, nc_23, nc_24, nc_25, nc_26, nc_27, nc_28, nc_29, nc_30, isiT, isiK, isiC, isiM, tyNames, tagD, tb0_NoneType, tb0_bool, tb0_int, tb0_str, tb0_tuple, tb0_list, tb0_Tree, tb1_NoneType, tb1_bool, tb1_int, tb1_str, tb1_tuple, tb1_list, tb1_Tree, tb2_NoneType, tb2_bool, tb2_int, tb2_str, tb2_tuple, tb2_list, tb2_Tree, tb3_NoneType, tb3_bool, tb3_int, tb3_str, tb3_tuple, tb3_list, tb3_Tree, tb4_NoneType, tb4_bool, tb4_int, tb4_str, tb4_tuple, tb4_list, tb4_Tree, tb5_NoneType, tb5_bool, tb5_int, tb5_str, tb5_tuple, tb5_list, tb5_Tree, tb6_NoneType, tb6_bool, tb6_int, tb6_str, tb6_tuple, tb6_list, tb6_Tree, nq_kind_children, nb_kind_children, nq_kind_size, nb_kind_size, nq_kind_depth, nb_kind_depth, nq_children_kind, nb_children_kind, nq_children_size, nb_children_size, nq_children_depth, nb_children_depth, nq_size_kind, nb_size_kind, nq_size_children, nb_size_children, nq_size_depth, nb_size_depth, nq_depth_kind, nb_depth_kind, nq_depth_children, nb_depth_children, nq_depth_size, nb_depth_size]
  rw [List.map_map]
  exact ⟨_, _, rfl, hq⟩
abbrev treeOf (k : Str) (ps : Row) : D := .obj "Tree" [("kind", .str k), ("children", .tup (ps.map fun p => tz p.1)), ("size", .int (1 + ((trs ps).map (·.2.1)).sum)), ("depth", .int (1 + mx ((trs ps).map (·.2.2))))]
theorem put_spec {k : Str} {ps : Row} {s : S} {K : Kn D} (hk : Nm k) (hp : ∀ p ∈ ps, Ch p.1 p.2) (hn : ps.length ≤ 5) (h0 : 1 ≤ ps.length) (hl : (trs ps).length ≤ 1000) (hq : K.q (treeOf k ps) s) : Tk (F_zlawzput [.str k, .lst (ps.map (·.1))] s) := by
  have go : ∀ (K : Kn D), K.q (treeOf k ps) s → Tk (mkF "Tree" F_Treezzzinitzz (.str k :: ps.map (·.1)) s) := by
    intro K hq
    rw [tk_mkF]
    exact init_spec hk hp (by omega) hl hq
  unfold F_zlawzput
  refine tin_runF rfl ?_
  unfold m_zlawzput
  match ps, go, hn, h0, hq with
  | [a], go, _, _, hq =>
    simp only [↓kn_q, ↓kn_e, ↓kq_q, ↓kp_p, ↓ps_nx, ↓ps_rt, ↓ps_bk, ↓ps_ct, ↓ps_ex, ↓tkV_val, ↓tkV_own, ↓tkVR_val, ↓tkVR_own, ↓tkO_own, ↓tkA_val, ↓tkB_bl, ↓tkI_int, ↓tkStr_str, ↓tkC_obj, ↓tkSm_some, ↓tkSm_map, ↓tkSm_bind, ↓tkSm_ite, ↓tkP_t, ↓tkIf_t, ↓tkIf_f, ↓tkT_t, ↓tk_ok, ↓tk_exc, ↓tk_bind, ↓tk_lift, ↓tks_nx, ↓tks_rt, ↓tks_eS, ↓tks_seq, ↓tks_next, ↓tks_brk, ↓tks_cnt, ↓tks_drop, ↓tks_ret, ↓tks_retN, ↓tks_if, ↓tks_frz, ↓tks_set, ↓tks_setO, ↓tks_par, ↓tks_mut, ↓tks_app, ↓tks_store, ↓tks_fld, ↓tks_aug, ↓tks_for, ↓tks_for0, ↓tk_var, ↓tk_varR, ↓tk_c, ↓tk_bin, ↓tk_test, ↓tk_tnot, ↓tk_yes, ↓tk_tand, ↓tk_tor, ↓tk_call, ↓tk_fn, ↓tk_nil, ↓tk_cons, ↓tk_attr, ↓tk_meth, ↓tk_xif, ↓tk_seqI, ↓tk_enum, ↓tk_rng1, ↓tk_rng2, ↓tk_loc, ↓tk_lc, ↓tk_neg, ↓tk_no, ↓tk_part, ↓tk_sl, ↓tk_xsNil, ↓tk_xsV, ↓tk_xsO, ↓tk_xnot, ↓tk_xand, ↓tk_xor, ↓tk_lst, ↓tk_tup, ↓tk_sz, ↓tk_chain, ↓tk_s1, ↓tk_maxDf, ↓tk_star, List.getElem?_cons_zero, List.getElem?_cons_succ, List.set_cons_zero, List.set_cons_succ, List.map_cons, List.map_nil, List.cons_append, List.nil_append, List.append_assoc, tkJ_own, frzG, putS, wipeG, pVar, pTup, psCons, psNil, atD, ixD_lst, ixD_tup, ixD_scr, at_0, at_1, at_2, at_3, at_4, at_5, at_6, at_7, lenD, intC, absC, max2C, min2C, addD, intD, cmpD, yesC, slD, seqD, enumD, stD, sumC, allC, anyC, tupC, maxC, Option.bind_some, Option.map_some, List.lookup_cons, List.lookup_nil, List.length_cons, List.length_nil, Bool.not_true, Bool.not_false, Bool.and_self, Bool.true_and, Bool.and_true, Bool.false_and, Bool.and_false, Bool.or_true, Bool.true_or, Bool.false_or, Bool.or_false, reduceIte, decide_true, decide_false, if_true, if_false, List.replicate_succ, List.replicate_zero, Nat.reduceAdd, Nat.reduceSub, Nat.zero_add, List.mem_cons, List.not_mem_nil, or_false, false_or, not_false_eq_true, reduceCtorEq, ne_eq, and_self, and_true, true_and, Nat.reduceLT, Nat.reduceLeDiff, beq_self_eq_true, Nat.reduceEqDiff, Nat.add_one_ne_zero, modC, divC, mulC, powC, Int.reduceLT, Int.reduceLE, Int.reduceNeg, Int.reducePow, Int.reduceToNat, Int.reduceEq, Nat.reducePow, Int.zero_add, eqL, eqD, eqB, neD, isD, sz_0, sz_1, sz_2, sz_3, sz_4, sz_5, sz_6, sz_7, sz_8, sz_9, sz_10, sz_11, sz_12, sz_13, sz_14, sz_15, sz_16, sz_17, sz_18, sz_19, sz_20, sz_21, sz_22, sz_23, sz_24, sz_25, sz_26, sz_27, sz_28, sz_29, sz_30, nc_0, nc_1, nc_2, nc_3, nc_4, nc_5, nc_6, nc_7, nc_8, nc_9, nc_10, nc_11, nc_12, nc_13, nc_14, nc_15, nc_16, nc_17, nc_18, nc_19, nc_20, nc_21, nc_22, nc_23, nc_24, nc_25, nc_26, nc_27, nc_28, nc_29, nc_30, isiT, isiK, isiC, isiM, tyNames, tagD, tb0_NoneType, tb0_bool, tb0_int, tb0_str, tb0_tuple, tb0_list, tb0_Tree, tb1_NoneType, tb1_bool, tb1_int, tb1_str, tb1_tuple, tb1_list, tb1_Tree, tb2_NoneType, tb2_bool, tb2_int, tb2_str, tb2_tuple, tb2_list, tb2_Tree, tb3_NoneType, tb3_bool, tb3_int, tb3_str, tb3_tuple, tb3_list, tb3_Tree, tb4_NoneType, tb4_bool, tb4_int, tb4_str, tb4_tuple, tb4_list, tb4_Tree, tb5_NoneType, tb5_bool, tb5_int, tb5_str, tb5_tuple, tb5_list, tb5_Tree, tb6_NoneType, tb6_bool, tb6_int, tb6_str, tb6_tuple, tb6_list, tb6_Tree, nq_kind_children, nb_kind_children, nq_kind_size, nb_kind_size, nq_kind_depth, nb_kind_depth, nq_children_kind, nb_children_kind, nq_children_size, nb_children_size, nq_children_depth, nb_children_depth, nq_size_kind, nb_size_kind, nq_size_children, nb_size_children, nq_size_depth, nb_size_depth, nq_depth_kind, nb_depth_kind, nq_depth_children, nb_depth_children, nq_depth_size, nb_depth_size]
    exact go _ hq
  | [a, b], go, _, _, hq =>
    simp only [↓kn_q, ↓kn_e, ↓kq_q, ↓kp_p, ↓ps_nx, ↓ps_rt, ↓ps_bk, ↓ps_ct, ↓ps_ex, ↓tkV_val, ↓tkV_own, ↓tkVR_val, ↓tkVR_own, ↓tkO_own, ↓tkA_val, ↓tkB_bl, ↓tkI_int, ↓tkStr_str, ↓tkC_obj, ↓tkSm_some, ↓tkSm_map, ↓tkSm_bind, ↓tkSm_ite, ↓tkP_t, ↓tkIf_t, ↓tkIf_f, ↓tkT_t, ↓tk_ok, ↓tk_exc, ↓tk_bind, ↓tk_lift, ↓tks_nx, ↓tks_rt, ↓tks_eS, ↓tks_seq, ↓tks_next, ↓tks_brk, ↓tks_cnt, ↓tks_drop, ↓tks_ret, ↓tks_retN, ↓tks_if, ↓tks_frz, ↓tks_set, ↓tks_setO, ↓tks_par, ↓tks_mut, ↓tks_app, ↓tks_store, ↓tks_fld, ↓tks_aug, ↓tks_for, ↓tks_for0, ↓tk_var, ↓tk_varR, ↓tk_c, ↓tk_bin, ↓tk_test, ↓tk_tnot, ↓tk_yes, ↓tk_tand, ↓tk_tor, ↓tk_call, ↓tk_fn, ↓tk_nil, ↓tk_cons, ↓tk_attr, ↓tk_meth, ↓tk_xif, ↓tk_seqI, ↓tk_enum, ↓tk_rng1, ↓tk_rng2, ↓tk_loc, ↓tk_lc, ↓tk_neg, ↓tk_no, ↓tk_part, ↓tk_sl, ↓tk_xsNil, ↓tk_xsV, ↓tk_xsO, ↓tk_xnot, ↓tk_xand, ↓tk_xor, ↓tk_lst, ↓tk_tup, ↓tk_sz, ↓tk_chain, ↓tk_s1, ↓tk_maxDf, ↓tk_star, List.getElem?_cons_zero, List.getElem?_cons_succ, List.set_cons_zero, List.set_cons_succ, List.map_cons, List.map_nil, List.cons_append, List.nil_append, List.append_assoc, tkJ_own, frzG, putS, wipeG, pVar, pTup, psCons, psNil, atD, ixD_lst, ixD_tup, ixD_scr, at_0, at_1, at_2, at_3, at_4, at_5, at_6, at_7, lenD, intC, absC, max2C, min2C, addD, intD, cmpD, yesC, slD, seqD, enumD, stD, sumC, allC, anyC, tupC, maxC, Option.bind_some, Option.map_some, List.lookup_cons, List.lookup_nil, List.length_cons, List.length_nil, Bool.not_true, Bool.not_false, Bool.and_self, Bool.true_and, Bool.and_true, Bool.false_and, Bool.and_false, Bool.or_true, Bool.true_or, Bool.false_or, Bool.or_false, reduceIte, decide_true, decide_false, if_true, if_false, List.replicate_succ, List.replicate_zero, Nat.reduceAdd, Nat.reduceSub, Nat.zero_add, List.mem_cons, List.not_mem_nil, or_false, false_or, not_false_eq_true, reduceCtorEq, ne_eq, and_self, and_true, true_and, Nat.reduceLT, Nat.reduceLeDiff, beq_self_eq_true, Nat.reduceEqDiff, Nat.add_one_ne_zero, modC, divC, mulC, powC, Int.reduceLT, Int.reduceLE, Int.reduceNeg, Int.reducePow, Int.reduceToNat, Int.reduceEq, Nat.reducePow, Int.zero_add, eqL, eqD, eqB, neD, isD, sz_0, sz_1, sz_2, sz_3, sz_4, sz_5, sz_6, sz_7, sz_8, sz_9, sz_10, sz_11, sz_12, sz_13, sz_14, sz_15, sz_16, sz_17, sz_18, sz_19, sz_20, sz_21, sz_22, sz_23, sz_24, sz_25, sz_26, sz_27, sz_28, sz_29, sz_30, nc_0, nc_1, nc_2, nc_3, nc_4, nc_5, nc_6, nc_7, nc_8, nc_9, nc_10, nc_11, nc_12, nc_13, nc_14, nc_15, nc_16, nc_17, nc_18, nc_19, nc_20, nc_21, nc_22, nc_23, nc_24, nc_25, nc_26, nc_27, nc_28, nc_29, nc_30, isiT, isiK, isiC, isiM, tyNames, tagD, tb0_NoneType, tb0_bool, tb0_int, tb0_str, tb0_tuple, tb0_list, tb0_Tree, tb1_NoneType, tb1_bool, tb1_int, tb1_str, tb1_tuple, tb1_list, tb1_Tree, tb2_NoneType, tb2_bool, tb2_int, tb2_str, tb2_tuple, tb2_list, tb2_Tree, tb3_NoneType, tb3_bool, tb3_int, tb3_str, tb3_tuple, tb3_list, tb3_Tree, tb4_NoneType, tb4_bool, tb4_int, tb4_str, tb4_tuple, tb4_list, tb4_Tree, tb5_NoneType, tb5_bool, tb5_int, tb5_str, tb5_tuple, tb5_list, tb5_Tree, tb6_NoneType, tb6_bool, tb6_int, tb6_str, tb6_tuple, tb6_list, tb6_Tree, nq_kind_children, nb_kind_children, nq_kind_size, nb_kind_size, nq_kind_depth, nb_kind_depth, nq_children_kind, nb_children_kind, nq_children_size, nb_children_size, nq_children_depth, nb_children_depth, nq_size_kind, nb_size_kind, nq_size_children, nb_size_children, nq_size_depth, nb_size_depth, nq_depth_kind, nb_depth_kind, nq_depth_children, nb_depth_children, nq_depth_size, nb_depth_size]
    exact go _ hq
  | [a, b, c], go, _, _, hq =>
    simp only [↓kn_q, ↓kn_e, ↓kq_q, ↓kp_p, ↓ps_nx, ↓ps_rt, ↓ps_bk, ↓ps_ct, ↓ps_ex, ↓tkV_val, ↓tkV_own, ↓tkVR_val, ↓tkVR_own, ↓tkO_own, ↓tkA_val, ↓tkB_bl, ↓tkI_int, ↓tkStr_str, ↓tkC_obj, ↓tkSm_some, ↓tkSm_map, ↓tkSm_bind, ↓tkSm_ite, ↓tkP_t, ↓tkIf_t, ↓tkIf_f, ↓tkT_t, ↓tk_ok, ↓tk_exc, ↓tk_bind, ↓tk_lift, ↓tks_nx, ↓tks_rt, ↓tks_eS, ↓tks_seq, ↓tks_next, ↓tks_brk, ↓tks_cnt, ↓tks_drop, ↓tks_ret, ↓tks_retN, ↓tks_if, ↓tks_frz, ↓tks_set, ↓tks_setO, ↓tks_par, ↓tks_mut, ↓tks_app, ↓tks_store, ↓tks_fld, ↓tks_aug, ↓tks_for, ↓tks_for0, ↓tk_var, ↓tk_varR, ↓tk_c, ↓tk_bin, ↓tk_test, ↓tk_tnot, ↓tk_yes, ↓tk_tand, ↓tk_tor, ↓tk_call, ↓tk_fn, ↓tk_nil, ↓tk_cons, ↓tk_attr, ↓tk_meth, ↓tk_xif, ↓tk_seqI, ↓tk_enum, ↓tk_rng1, ↓tk_rng2, ↓tk_loc, ↓tk_lc, ↓tk_neg, ↓tk_no, ↓tk_part, ↓tk_sl, ↓tk_xsNil, ↓tk_xsV, ↓tk_xsO, ↓tk_xnot, ↓tk_xand, ↓tk_xor, ↓tk_lst, ↓tk_tup, ↓tk_sz, ↓tk_chain, ↓tk_s1, ↓tk_maxDf, ↓tk_star, List.getElem?_cons_zero, List.getElem?_cons_succ, List.set_cons_zero, List.set_cons_succ, List.map_cons, List.map_nil, List.cons_append, List.nil_append, List.append_assoc, tkJ_own, frzG, putS, wipeG, pVar, pTup, psCons, psNil, atD, ixD_lst, ixD_tup, ixD_scr, at_0, at_1, at_2, at_3, at_4, at_5, at_6, at_7, lenD, intC, absC, max2C, min2C, addD, intD, cmpD, yesC, slD, seqD, enumD, stD, sumC, allC, anyC, tupC, maxC, Option.bind_some, Option.map_some, List.lookup_cons, List.lookup_nil, List.length_cons, List.length_nil, Bool.not_true, Bool.not_false, Bool.and_self, Bool.true_and, Bool.and_true, Bool.false_and, Bool.and_false, Bool.or_true, Bool.true_or, Bool.false_or, Bool.or_false, reduceIte, decide_true, decide_false, if_true, if_false, List.replicate_succ, List.replicate_zero, Nat.reduceAdd, Nat.reduceSub, Nat.zero_add, List.mem_cons, List.not_mem_nil, or_false, false_or, not_false_eq_true, reduceCtorEq, ne_eq, and_self, and_true, true_and, Nat.reduceLT, Nat.reduceLeDiff, beq_self_eq_true, Nat.reduceEqDiff, Nat.add_one_ne_zero, modC, divC, mulC, powC, Int.reduceLT, Int.reduceLE, Int.reduceNeg, Int.reducePow, Int.reduceToNat, Int.reduceEq, Nat.reducePow, Int.zero_add, eqL, eqD, eqB, neD, isD, sz_0, sz_1, sz_2, sz_3, sz_4, sz_5, sz_6, sz_7, sz_8, sz_9, sz_10, sz_11, sz_12, sz_13, sz_14, sz_15, sz_16, sz_17, sz_18, sz_19, sz_20, sz_21, sz_22, sz_23, sz_24, sz_25, sz_26, sz_27, sz_28, sz_29, sz_30, nc_0, nc_1, nc_2, nc_3, nc_4, nc_5, nc_6, nc_7, nc_8, nc_9, nc_10, nc_11, nc_12, nc_13, nc_14, nc_15, nc_16, nc_17, nc_18, nc_19, nc_20, nc_21, nc_22, nc_23, nc_24, nc_25, nc_26, nc_27, nc_28, nc_29, nc_30, isiT, isiK, isiC, isiM, tyNames, tagD, tb0_NoneType, tb0_bool, tb0_int, tb0_str, tb0_tuple, tb0_list, tb0_Tree, tb1_NoneType, tb1_bool, tb1_int, tb1_str, tb1_tuple, tb1_list, tb1_Tree, tb2_NoneType, tb2_bool, tb2_int, tb2_str, tb2_tuple, tb2_list, tb2_Tree, tb3_NoneType, tb3_bool, tb3_int, tb3_str, tb3_tuple, tb3_list, tb3_Tree, tb4_NoneType, tb4_bool, tb4_int, tb4_str, tb4_tuple, tb4_list, tb4_Tree, tb5_NoneType, tb5_bool, tb5_int, tb5_str, tb5_tuple, tb5_list, tb5_Tree, tb6_NoneType, tb6_bool, tb6_int, tb6_str, tb6_tuple, tb6_list, tb6_Tree, nq_kind_children, nb_kind_children, nq_kind_size, nb_kind_size, nq_kind_depth, nb_kind_depth, nq_children_kind, nb_children_kind, nq_children_size, nb_children_size, nq_children_depth, nb_children_depth, nq_size_kind, nb_size_kind, nq_size_children, nb_size_children, nq_size_depth, nb_size_depth, nq_depth_kind, nb_depth_kind, nq_depth_children, nb_depth_children, nq_depth_size, nb_depth_size]
    exact go _ hq
  | [a, b, c, d], go, _, _, hq =>
    simp only [↓kn_q, ↓kn_e, ↓kq_q, ↓kp_p, ↓ps_nx, ↓ps_rt, ↓ps_bk, ↓ps_ct, ↓ps_ex, ↓tkV_val, ↓tkV_own, ↓tkVR_val, ↓tkVR_own, ↓tkO_own, ↓tkA_val, ↓tkB_bl, ↓tkI_int, ↓tkStr_str, ↓tkC_obj, ↓tkSm_some, ↓tkSm_map, ↓tkSm_bind, ↓tkSm_ite, ↓tkP_t, ↓tkIf_t, ↓tkIf_f, ↓tkT_t, ↓tk_ok, ↓tk_exc, ↓tk_bind, ↓tk_lift, ↓tks_nx, ↓tks_rt, ↓tks_eS, ↓tks_seq, ↓tks_next, ↓tks_brk, ↓tks_cnt, ↓tks_drop, ↓tks_ret, ↓tks_retN, ↓tks_if, ↓tks_frz, ↓tks_set, ↓tks_setO, ↓tks_par, ↓tks_mut, ↓tks_app, ↓tks_store, ↓tks_fld, ↓tks_aug, ↓tks_for, ↓tks_for0, ↓tk_var, ↓tk_varR, ↓tk_c, ↓tk_bin, ↓tk_test, ↓tk_tnot, ↓tk_yes, ↓tk_tand, ↓tk_tor, ↓tk_call, ↓tk_fn, ↓tk_nil, ↓tk_cons, ↓tk_attr, ↓tk_meth, ↓tk_xif, ↓tk_seqI, ↓tk_enum, ↓tk_rng1, ↓tk_rng2, ↓tk_loc, ↓tk_lc, ↓tk_neg, ↓tk_no, ↓tk_part, ↓tk_sl, ↓tk_xsNil, ↓tk_xsV, ↓tk_xsO, ↓tk_xnot, ↓tk_xand, ↓tk_xor, ↓tk_lst, ↓tk_tup, ↓tk_sz, ↓tk_chain, ↓tk_s1, ↓tk_maxDf, ↓tk_star, List.getElem?_cons_zero, List.getElem?_cons_succ, List.set_cons_zero, List.set_cons_succ, List.map_cons, List.map_nil, List.cons_append, List.nil_append, List.append_assoc, tkJ_own, frzG, putS, wipeG, pVar, pTup, psCons, psNil, atD, ixD_lst, ixD_tup, ixD_scr, at_0, at_1, at_2, at_3, at_4, at_5, at_6, at_7, lenD, intC, absC, max2C, min2C, addD, intD, cmpD, yesC, slD, seqD, enumD, stD, sumC, allC, anyC, tupC, maxC, Option.bind_some, Option.map_some, List.lookup_cons, List.lookup_nil, List.length_cons, List.length_nil, Bool.not_true, Bool.not_false, Bool.and_self, Bool.true_and, Bool.and_true, Bool.false_and, Bool.and_false, Bool.or_true, Bool.true_or, Bool.false_or, Bool.or_false, reduceIte, decide_true, decide_false, if_true, if_false, List.replicate_succ, List.replicate_zero, Nat.reduceAdd, Nat.reduceSub, Nat.zero_add, List.mem_cons, List.not_mem_nil, or_false, false_or, not_false_eq_true, reduceCtorEq, ne_eq, and_self, and_true, true_and, Nat.reduceLT, Nat.reduceLeDiff, beq_self_eq_true, Nat.reduceEqDiff, Nat.add_one_ne_zero, modC, divC, mulC, powC, Int.reduceLT, Int.reduceLE, Int.reduceNeg, Int.reducePow, Int.reduceToNat, Int.reduceEq, Nat.reducePow, Int.zero_add, eqL, eqD, eqB, neD, isD, sz_0, sz_1, sz_2, sz_3, sz_4, sz_5, sz_6, sz_7, sz_8, sz_9, sz_10, sz_11, sz_12, sz_13, sz_14, sz_15, sz_16, sz_17, sz_18, sz_19, sz_20, sz_21, sz_22, sz_23, sz_24, sz_25, sz_26, sz_27, sz_28, sz_29, sz_30, nc_0, nc_1, nc_2, nc_3, nc_4, nc_5, nc_6, nc_7, nc_8, nc_9, nc_10, nc_11, nc_12, nc_13, nc_14, nc_15, nc_16, nc_17, nc_18, nc_19, nc_20, nc_21, nc_22, nc_23, nc_24, nc_25, nc_26, nc_27, nc_28, nc_29, nc_30, isiT, isiK, isiC, isiM, tyNames, tagD, tb0_NoneType, tb0_bool, tb0_int, tb0_str, tb0_tuple, tb0_list, tb0_Tree, tb1_NoneType, tb1_bool, tb1_int, tb1_str, tb1_tuple, tb1_list, tb1_Tree, tb2_NoneType, tb2_bool, tb2_int, tb2_str, tb2_tuple, tb2_list, tb2_Tree, tb3_NoneType, tb3_bool, tb3_int, tb3_str, tb3_tuple, tb3_list, tb3_Tree, tb4_NoneType, tb4_bool, tb4_int, tb4_str, tb4_tuple, tb4_list, tb4_Tree, tb5_NoneType, tb5_bool, tb5_int, tb5_str, tb5_tuple, tb5_list, tb5_Tree, tb6_NoneType, tb6_bool, tb6_int, tb6_str, tb6_tuple, tb6_list, tb6_Tree, nq_kind_children, nb_kind_children, nq_kind_size, nb_kind_size, nq_kind_depth, nb_kind_depth, nq_children_kind, nb_children_kind, nq_children_size, nb_children_size, nq_children_depth, nb_children_depth, nq_size_kind, nb_size_kind, nq_size_children, nb_size_children, nq_size_depth, nb_size_depth, nq_depth_kind, nb_depth_kind, nq_depth_children, nb_depth_children, nq_depth_size, nb_depth_size]
    exact go _ hq
  | [a, b, c, d, e], go, _, _, hq =>
    simp only [↓kn_q, ↓kn_e, ↓kq_q, ↓kp_p, ↓ps_nx, ↓ps_rt, ↓ps_bk, ↓ps_ct, ↓ps_ex, ↓tkV_val, ↓tkV_own, ↓tkVR_val, ↓tkVR_own, ↓tkO_own, ↓tkA_val, ↓tkB_bl, ↓tkI_int, ↓tkStr_str, ↓tkC_obj, ↓tkSm_some, ↓tkSm_map, ↓tkSm_bind, ↓tkSm_ite, ↓tkP_t, ↓tkIf_t, ↓tkIf_f, ↓tkT_t, ↓tk_ok, ↓tk_exc, ↓tk_bind, ↓tk_lift, ↓tks_nx, ↓tks_rt, ↓tks_eS, ↓tks_seq, ↓tks_next, ↓tks_brk, ↓tks_cnt, ↓tks_drop, ↓tks_ret, ↓tks_retN, ↓tks_if, ↓tks_frz, ↓tks_set, ↓tks_setO, ↓tks_par, ↓tks_mut, ↓tks_app, ↓tks_store, ↓tks_fld, ↓tks_aug, ↓tks_for, ↓tks_for0, ↓tk_var, ↓tk_varR, ↓tk_c, ↓tk_bin, ↓tk_test, ↓tk_tnot, ↓tk_yes, ↓tk_tand, ↓tk_tor, ↓tk_call, ↓tk_fn, ↓tk_nil, ↓tk_cons, ↓tk_attr, ↓tk_meth, ↓tk_xif, ↓tk_seqI, ↓tk_enum, ↓tk_rng1, ↓tk_rng2, ↓tk_loc, ↓tk_lc, ↓tk_neg, ↓tk_no, ↓tk_part, ↓tk_sl, ↓tk_xsNil, ↓tk_xsV, ↓tk_xsO, ↓tk_xnot, ↓tk_xand, ↓tk_xor, ↓tk_lst, ↓tk_tup, ↓tk_sz, ↓tk_chain, ↓tk_s1, ↓tk_maxDf, ↓tk_star, List.getElem?_cons_zero, List.getElem?_cons_succ, List.set_cons_zero, List.set_cons_succ, List.map_cons, List.map_nil, List.cons_append, List.nil_append, List.append_assoc, tkJ_own, frzG, putS, wipeG, pVar, pTup, psCons, psNil, atD, ixD_lst, ixD_tup, ixD_scr, at_0, at_1, at_2, at_3, at_4, at_5, at_6, at_7, lenD, intC, absC, max2C, min2C, addD, intD, cmpD, yesC, slD, seqD, enumD, stD, sumC, allC, anyC, tupC, maxC, Option.bind_some, Option.map_some, List.lookup_cons, List.lookup_nil, List.length_cons, List.length_nil, Bool.not_true, Bool.not_false, Bool.and_self, Bool.true_and, Bool.and_true, Bool.false_and, Bool.and_false, Bool.or_true, Bool.true_or, Bool.false_or, Bool.or_false, reduceIte, decide_true, decide_false, if_true, if_false, List.replicate_succ, List.replicate_zero, Nat.reduceAdd, Nat.reduceSub, Nat.zero_add, List.mem_cons, List.not_mem_nil, or_false, false_or, not_false_eq_true, reduceCtorEq, ne_eq, and_self, and_true, true_and, Nat.reduceLT, Nat.reduceLeDiff, beq_self_eq_true, Nat.reduceEqDiff, Nat.add_one_ne_zero, modC, divC, mulC, powC, Int.reduceLT, Int.reduceLE, Int.reduceNeg, Int.reducePow, Int.reduceToNat, Int.reduceEq, Nat.reducePow, Int.zero_add, eqL, eqD, eqB, neD, isD, sz_0, sz_1, sz_2, sz_3, sz_4, sz_5, sz_6, sz_7, sz_8, sz_9, sz_10, sz_11, sz_12, sz_13, sz_14, sz_15, sz_16, sz_17, sz_18, sz_19, sz_20, sz_21, sz_22, sz_23, sz_24, sz_25, sz_26, sz_27, sz_28, sz_29, sz_30, nc_0, nc_1, nc_2, nc_3, nc_4, nc_5, nc_6, nc_7, nc_8, nc_9, nc_10, nc_11, nc_12, nc_13, nc_14, nc_15, nc_16, nc_17, nc_18, nc_19, nc_20, nc_21, nc_22, nc_23, nc_24, nc_25, nc_26, nc_27, nc_28, nc_29, nc_30, isiT, isiK, isiC, isiM, tyNames, tagD, tb0_NoneType, tb0_bool, tb0_int, tb0_str, tb0_tuple, tb0_list, tb0_Tree, tb1_NoneType, tb1_bool, tb1_int, tb1_str, tb1_tuple, tb1_list, tb1_Tree, tb2_NoneType, tb2_bool, tb2_int, tb2_str, tb2_tuple, tb2_list, tb2_Tree, tb3_NoneType, tb3_bool, tb3_int, tb3_str, tb3_tuple, tb3_list, tb3_Tree, tb4_NoneType, tb4_bool, tb4_int, tb4_str, tb4_tuple, tb4_list, tb4_Tree, tb5_NoneType, tb5_bool, tb5_int, tb5_str, tb5_tuple, tb5_list, tb5_Tree, tb6_NoneType, tb6_bool, tb6_int, tb6_str, tb6_tuple, tb6_list, tb6_Tree, nq_kind_children, nb_kind_children, nq_kind_size, nb_kind_size, nq_kind_depth, nb_kind_depth, nq_children_kind, nb_children_kind, nq_children_size, nb_children_size, nq_children_depth, nb_children_depth, nq_size_kind, nb_size_kind, nq_size_children, nb_size_children, nq_size_depth, nb_size_depth, nq_depth_kind, nb_depth_kind, nq_depth_children, nb_depth_children, nq_depth_size, nb_depth_size]
    exact go _ hq
  | _ :: _ :: _ :: _ :: _ :: _ :: _, _, hn, _, _ => simp at hn
/-! ### the law -/
abbrev Tab := List (D × Int × Int)
def pk (tb : Tab) (i : Nat) : D × Int × Int := tb.getD i (.non, 0, 0)
theorem at_pk {tb : Tab} {f : D × Int × Int → D} {i : Nat} (h : i < tb.length) : atI (tb.map f) (i : Int) = some (f (pk tb i)) := by
  rw [Qd.atI_nat (by rwa [List.length_map])]
  simp [pk, h]
theorem at_last {α : Type} {xs : List α} {x : α} : atI (xs ++ [x]) (-1) = some x := by
  have h : ixN (xs ++ [x]).length (-1) = some xs.length := by
    unfold ixN
    rw [if_neg (by decide), List.length_append, if_pos (by simp; omega)]
    congr 1
    simp
    omega
  unfold atI
  rw [h]
  simp
/-- a comprehension over the places -/
theorem lc_fl {tb : Tab} {sel : D × Int × Int → D} {fl : List Nat} {G : List Sl} {s : S} {e : M D} {K : Kn (List D)} (hf : ∀ i ∈ fl, i < tb.length)
    (he : ∀ i < tb.length, tkSm (K := ⟨fun G => Tk (K := ⟨fun y s1 => y = sel (pk tb i) ∧ s1 = s, noE⟩) (e G s)⟩) (pVar 11 (.int (i : Int)) G)) (hq : K.q ((fl.map (pk tb)).map sel) s) : Tk (lcL (pVar 11) yYes e G (fl.map fun (i : Nat) => D.int (i : Int)) s) := by
  refine tlc_map (fun d => match d with | .int k => sel (pk tb k.toNat) | d => d) (fun d hd => ?_) ?_
  · obtain ⟨i, hi, rfl⟩ := List.mem_map.mp hd
    exact he i (hf i hi)
  · rw [List.map_map]
    rw [List.map_map] at hq
    exact hq
structure TbOk (tb : Tab) : Prop where
  all : ∀ x ∈ tb, Tre x.1 x.2.1 x.2.2
  lo : 1 ≤ tb.length
  hi : tb.length ≤ 100
theorem TbOk.pk {tb : Tab} (h : TbOk tb) {i : Nat} (hi : i < tb.length) : Tre (Pl.pk tb i).1 (Pl.pk tb i).2.1 (Pl.pk tb i).2.2 := by
  refine h.all _ ?_
  unfold Pl.pk
  rw [List.getD_eq_getElem?_getD, List.getElem?_eq_getElem hi]
  exact List.getElem_mem hi
structure KidOk (tb : Tab) (ps : Row) (fl : List Nat) : Prop where
  ch : ∀ p ∈ ps, Ch p.1 p.2
  tr : trs ps = fl.map (pk tb)
  fi : ∀ i ∈ fl, i < tb.length
  ln : ps.length = fl.length
theorem KidOk.snoc {tb : Tab} {ps : Row} {fl : List Nat} (h : KidOk tb ps fl) {d : D} {k : Nat} (hk : k < tb.length) (hd : Ch d [Pl.pk tb k]) : KidOk tb (ps ++ [(d, [Pl.pk tb k])]) (fl ++ [k]) where
  ch := fun p hp => by
    rcases List.mem_append.mp hp with hp | hp
    · exact h.ch p hp
    · rw [List.mem_singleton] at hp
      rw [hp]
      exact hd
  tr := by
    have e : trs (ps ++ [(d, [Pl.pk tb k])]) = trs ps ++ [Pl.pk tb k] := by simp [trs]
    rw [e, h.tr, List.map_append]
    rfl
  fi := fun i hi => by
    rcases List.mem_append.mp hi with hi | hi
    · exact h.fi i hi
    · rw [List.mem_singleton] at hi
      rw [hi]
      exact hk
  ln := by simp [h.ln]
abbrev tD (tb : Tab) : List D := tb.map (·.1)
abbrev tS (tb : Tab) : List D := tb.map fun x => .int x.2.1
abbrev tH (tb : Tab) : List D := tb.map fun x => .int x.2.2
abbrev fD (fl : List Nat) : List D := fl.map fun (i : Nat) => .int (i : Int)
theorem ints_sel {l : List (D × Int × Int)} (f : D × Int × Int → Int) : ints? (l.map fun x => .int (f x)) = some (l.map f) := by
  have : (l.map fun x => D.int (f x)) = (l.map f).map .int := by rw [List.map_map]; rfl
  rw [this, ints_map]
theorem turn_spec {A0 A1 A3 A4 x5 x10 x11 x14 x15 x16 : Sl} {n : Nat} {tb : Tab} {ps : Row} {fl : List Nat} {t : Nat} {s : S} {P : Ps} (ht : TbOk tb) (hk : KidOk tb ps fl) (hn : ps.length ≤ 10) (hb : Bg s n)
    (hq : ∀ ps' fl' s' x5 x11 x14, KidOk tb ps' fl' → ps'.length ≤ ps.length + 1 → Bg s' n → P.nx [A0, A1, .val (.loc n), A3, A4, x5, .own (.lst (tD tb)), .own (.lst (tS tb)), .own (.lst (tH tb)), .val (.int (t : Int)), x10, x11, .own (.lst (ps'.map (·.1))), .own (.lst (fD fl')), x14, x15, x16] s') :
    TkS (L_law_1 [A0, A1, .val (.loc n), A3, A4, x5, .own (.lst (tD tb)), .own (.lst (tS tb)), .own (.lst (tH tb)), .val (.int (t : Int)), x10, x11, .own (.lst (ps.map (·.1))), .own (.lst (fD fl)), x14, x15, x16] s) := by
  have lo := ht.lo
  unfold L_law_1
  simp only [↓kn_q, ↓kn_e, ↓kq_q, ↓kp_p, ↓ps_nx, ↓ps_rt, ↓ps_bk, ↓ps_ct, ↓ps_ex, ↓tkV_val, ↓tkV_own, ↓tkVR_val, ↓tkVR_own, ↓tkO_own, ↓tkA_val, ↓tkB_bl, ↓tkI_int, ↓tkStr_str, ↓tkC_obj, ↓tkSm_some, ↓tkSm_map, ↓tkSm_bind, ↓tkSm_ite, ↓tkP_t, ↓tkIf_t, ↓tkIf_f, ↓tkT_t, ↓tk_ok, ↓tk_exc, ↓tk_bind, ↓tk_lift, ↓tks_nx, ↓tks_rt, ↓tks_eS, ↓tks_seq, ↓tks_next, ↓tks_brk, ↓tks_cnt, ↓tks_drop, ↓tks_ret, ↓tks_retN, ↓tks_if, ↓tks_frz, ↓tks_set, ↓tks_setO, ↓tks_par, ↓tks_mut, ↓tks_app, ↓tks_store, ↓tks_fld, ↓tks_aug, ↓tks_for, ↓tks_for0, ↓tk_var, ↓tk_varR, ↓tk_c, ↓tk_bin, ↓tk_test, ↓tk_tnot, ↓tk_yes, ↓tk_tand, ↓tk_tor, ↓tk_call, ↓tk_fn, ↓tk_mkF, ↓tk_nil, ↓tk_cons, ↓tk_attr, ↓tk_meth, ↓tk_seqI, ↓tk_enum, ↓tk_rng1, ↓tk_rng2, ↓tk_loc, ↓tk_lc, ↓tk_neg, ↓tk_no, ↓tk_part, ↓tk_sl, ↓tk_xsNil, ↓tk_xsV, ↓tk_xsO, ↓tk_xnot, ↓tk_xand, ↓tk_xor, ↓tk_lst, ↓tk_tup, ↓tk_sz, ↓tk_chain, ↓tk_s1, ↓tk_maxDf, ↓tk_star, List.getElem?_cons_zero, List.getElem?_cons_succ, List.set_cons_zero, List.set_cons_succ, List.map_cons, List.map_nil, List.cons_append, List.nil_append, List.append_assoc, tkJ_own, frzG, putS, wipeG, pVar, pTup, psCons, psNil, atD, ixD_lst, ixD_tup, ixD_scr, at_0, at_1, at_2, at_3, at_4, at_5, at_6, at_7, lenD, intC, absC, max2C, min2C, addD, intD, cmpD, yesC, slD, seqD, enumD, stD, sumC, allC, anyC, tupC, maxC, Option.bind_some, Option.map_some, List.lookup_cons, List.lookup_nil, List.length_cons, List.length_nil, Bool.not_true, Bool.not_false, Bool.and_self, Bool.true_and, Bool.and_true, Bool.false_and, Bool.and_false, Bool.or_true, Bool.true_or, Bool.false_or, Bool.or_false, reduceIte, decide_true, decide_false, if_true, if_false, List.replicate_succ, List.replicate_zero, Nat.reduceAdd, Nat.reduceSub, Nat.zero_add, List.mem_cons, List.not_mem_nil, or_false, false_or, not_false_eq_true, reduceCtorEq, ne_eq, and_self, and_true, true_and, Nat.reduceLT, Nat.reduceLeDiff, beq_self_eq_true, Nat.reduceEqDiff, Nat.add_one_ne_zero, modC, divC, mulC, powC, Int.reduceLT, Int.reduceLE, Int.reduceNeg, Int.reducePow, Int.reduceToNat, Int.reduceEq, Nat.reducePow, Int.zero_add, eqL, eqD, eqB, neD, isD, sz_0, sz_1, sz_2, sz_3, sz_4, sz_5, sz_6, sz_7, sz_8, sz_9, sz_10, sz_11, sz_12, sz_13, sz_14, sz_15, sz_16, sz_17, sz_18, sz_19, sz_20, sz_21, sz_22, sz_23, sz_24, sz_25, sz_26, sz_27, sz_28, sz_29, sz_30, nc_0, nc_1, nc_2, nc_3, nc_4, nc_5, nc_6, nc_7, nc_8, nc_9, nc_10, nc_11, nc_12, nc_13, nc_14, nc_15, nc_16, nc_17, nc_18, nc_19, nc_20, nc_21, nc_22, nc_23, nc_24, nc_25, nc_26, nc_27, nc_28, nc_29, nc_30, isiT, isiK, isiC, isiM, tyNames, tagD, tb0_NoneType, tb0_bool, tb0_int, tb0_str, tb0_tuple, tb0_list, tb0_Tree, tb1_NoneType, tb1_bool, tb1_int, tb1_str, tb1_tuple, tb1_list, tb1_Tree, tb2_NoneType, tb2_bool, tb2_int, tb2_str, tb2_tuple, tb2_list, tb2_Tree, tb3_NoneType, tb3_bool, tb3_int, tb3_str, tb3_tuple, tb3_list, tb3_Tree, tb4_NoneType, tb4_bool, tb4_int, tb4_str, tb4_tuple, tb4_list, tb4_Tree, tb5_NoneType, tb5_bool, tb5_int, tb5_str, tb5_tuple, tb5_list, tb5_Tree, tb6_NoneType, tb6_bool, tb6_int, tb6_str, tb6_tuple, tb6_list, tb6_Tree, nq_kind_children, nb_kind_children, nq_kind_size, nb_kind_size, nq_kind_depth, nb_kind_depth, nq_children_kind, nb_children_kind, nq_children_size, nb_children_size, nq_children_depth, nb_children_depth, nq_size_kind, nb_size_kind, nq_size_children, nb_size_children, nq_size_depth, nb_size_depth, nq_depth_kind, nb_depth_kind, nq_depth_children, nb_depth_children, nq_depth_size, nb_depth_size]
  refine tk_cut (fun d s => ∃ k : Nat, d = .int (k : Int) ∧ k < tb.length ∧ Bg s n) ?_ ?_
  · simp only [↓kn_q, ↓kn_e, ↓kq_q, ↓kp_p, ↓ps_nx, ↓ps_rt, ↓ps_bk, ↓ps_ct, ↓ps_ex, ↓tkV_val, ↓tkV_own, ↓tkVR_val, ↓tkVR_own, ↓tkO_own, ↓tkA_val, ↓tkB_bl, ↓tkI_int, ↓tkStr_str, ↓tkC_obj, ↓tkSm_some, ↓tkSm_map, ↓tkSm_bind, ↓tkSm_ite, ↓tkP_t, ↓tkIf_t, ↓tkIf_f, ↓tkT_t, ↓tk_ok, ↓tk_exc, ↓tk_bind, ↓tk_lift, ↓tks_nx, ↓tks_rt, ↓tks_eS, ↓tks_seq, ↓tks_next, ↓tks_brk, ↓tks_cnt, ↓tks_drop, ↓tks_ret, ↓tks_retN, ↓tks_if, ↓tks_frz, ↓tks_set, ↓tks_setO, ↓tks_par, ↓tks_mut, ↓tks_app, ↓tks_store, ↓tks_fld, ↓tks_aug, ↓tks_for, ↓tks_for0, ↓tk_var, ↓tk_varR, ↓tk_c, ↓tk_bin, ↓tk_test, ↓tk_tnot, ↓tk_yes, ↓tk_tand, ↓tk_tor, ↓tk_call, ↓tk_fn, ↓tk_mkF, ↓tk_nil, ↓tk_cons, ↓tk_attr, ↓tk_meth, ↓tk_xif, ↓tk_seqI, ↓tk_enum, ↓tk_rng1, ↓tk_rng2, ↓tk_loc, ↓tk_lc, ↓tk_neg, ↓tk_no, ↓tk_part, ↓tk_sl, ↓tk_xsNil, ↓tk_xsV, ↓tk_xsO, ↓tk_xnot, ↓tk_xand, ↓tk_xor, ↓tk_lst, ↓tk_tup, ↓tk_sz, ↓tk_chain, ↓tk_s1, ↓tk_maxDf, ↓tk_star, List.getElem?_cons_zero, List.getElem?_cons_succ, List.set_cons_zero, List.set_cons_succ, List.map_cons, List.map_nil, List.cons_append, List.nil_append, List.append_assoc, tkJ_own, frzG, putS, wipeG, pVar, pTup, psCons, psNil, atD, ixD_lst, ixD_tup, ixD_scr, at_0, at_1, at_2, at_3, at_4, at_5, at_6, at_7, lenD, intC, absC, max2C, min2C, addD, intD, cmpD, yesC, slD, seqD, enumD, stD, sumC, allC, anyC, tupC, maxC, Option.bind_some, Option.map_some, List.lookup_cons, List.lookup_nil, List.length_cons, List.length_nil, Bool.not_true, Bool.not_false, Bool.and_self, Bool.true_and, Bool.and_true, Bool.false_and, Bool.and_false, Bool.or_true, Bool.true_or, Bool.false_or, Bool.or_false, reduceIte, decide_true, decide_false, if_true, if_false, List.replicate_succ, List.replicate_zero, Nat.reduceAdd, Nat.reduceSub, Nat.zero_add, List.mem_cons, List.not_mem_nil, or_false, false_or, not_false_eq_true, reduceCtorEq, ne_eq, and_self, and_true, true_and, Nat.reduceLT, Nat.reduceLeDiff, beq_self_eq_true, Nat.reduceEqDiff, Nat.add_one_ne_zero, modC, divC, mulC, powC, Int.reduceLT, Int.reduceLE, Int.reduceNeg, Int.reducePow, Int.reduceToNat, Int.reduceEq, Nat.reducePow, Int.zero_add, eqL, eqD, eqB, neD, isD, sz_0, sz_1, sz_2, sz_3, sz_4, sz_5, sz_6, sz_7, sz_8, sz_9, sz_10, sz_11, sz_12, sz_13, sz_14, sz_15, sz_16, sz_17, sz_18, sz_19, sz_20, sz_21, sz_22, sz_23, sz_24, sz_25, sz_26, sz_27, sz_28, sz_29, sz_30, nc_0, nc_1, nc_2, nc_3, nc_4, nc_5, nc_6, nc_7, nc_8, nc_9, nc_10, nc_11, nc_12, nc_13, nc_14, nc_15, nc_16, nc_17, nc_18, nc_19, nc_20, nc_21, nc_22, nc_23, nc_24, nc_25, nc_26, nc_27, nc_28, nc_29, nc_30, isiT, isiK, isiC, isiM, tyNames, tagD, tb0_NoneType, tb0_bool, tb0_int, tb0_str, tb0_tuple, tb0_list, tb0_Tree, tb1_NoneType, tb1_bool, tb1_int, tb1_str, tb1_tuple, tb1_list, tb1_Tree, tb2_NoneType, tb2_bool, tb2_int, tb2_str, tb2_tuple, tb2_list, tb2_Tree, tb3_NoneType, tb3_bool, tb3_int, tb3_str, tb3_tuple, tb3_list, tb3_Tree, tb4_NoneType, tb4_bool, tb4_int, tb4_str, tb4_tuple, tb4_list, tb4_Tree, tb5_NoneType, tb5_bool, tb5_int, tb5_str, tb5_tuple, tb5_list, tb5_Tree, tb6_NoneType, tb6_bool, tb6_int, tb6_str, tb6_tuple, tb6_list, tb6_Tree, nq_kind_children, nb_kind_children, nq_kind_size, nb_kind_size, nq_kind_depth, nb_kind_depth, nq_children_kind, nb_children_kind, nq_children_size, nb_children_size, nq_children_depth, nb_children_depth, nq_size_kind, nb_size_kind, nq_size_children, nb_size_children, nq_size_depth, nb_size_depth, nq_depth_kind, nb_depth_kind, nq_depth_children, nb_depth_children, nq_depth_size, nb_depth_size]
    refine tkIf_dec (fun e => ?_) fun e => ?_
    · simp only [↓kn_q, ↓kn_e, ↓kq_q, ↓kp_p, ↓ps_nx, ↓ps_rt, ↓ps_bk, ↓ps_ct, ↓ps_ex, ↓tkV_val, ↓tkV_own, ↓tkVR_val, ↓tkVR_own, ↓tkO_own, ↓tkA_val, ↓tkB_bl, ↓tkI_int, ↓tkStr_str, ↓tkC_obj, ↓tkSm_some, ↓tkSm_map, ↓tkSm_bind, ↓tkSm_ite, ↓tkP_t, ↓tkIf_t, ↓tkIf_f, ↓tkT_t, ↓tk_ok, ↓tk_exc, ↓tk_bind, ↓tk_lift, ↓tks_nx, ↓tks_rt, ↓tks_eS, ↓tks_seq, ↓tks_next, ↓tks_brk, ↓tks_cnt, ↓tks_drop, ↓tks_ret, ↓tks_retN, ↓tks_if, ↓tks_frz, ↓tks_set, ↓tks_setO, ↓tks_par, ↓tks_mut, ↓tks_app, ↓tks_store, ↓tks_fld, ↓tks_aug, ↓tks_for, ↓tks_for0, ↓tk_var, ↓tk_varR, ↓tk_c, ↓tk_bin, ↓tk_test, ↓tk_tnot, ↓tk_yes, ↓tk_tand, ↓tk_tor, ↓tk_call, ↓tk_fn, ↓tk_mkF, ↓tk_nil, ↓tk_cons, ↓tk_attr, ↓tk_meth, ↓tk_xif, ↓tk_seqI, ↓tk_enum, ↓tk_rng1, ↓tk_rng2, ↓tk_loc, ↓tk_lc, ↓tk_neg, ↓tk_no, ↓tk_part, ↓tk_sl, ↓tk_xsNil, ↓tk_xsV, ↓tk_xsO, ↓tk_xnot, ↓tk_xand, ↓tk_xor, ↓tk_lst, ↓tk_tup, ↓tk_sz, ↓tk_chain, ↓tk_s1, ↓tk_maxDf, ↓tk_star, List.getElem?_cons_zero, List.getElem?_cons_succ, List.set_cons_zero, List.set_cons_succ, List.map_cons, List.map_nil, List.cons_append, List.nil_append, List.append_assoc, tkJ_own, frzG, putS, wipeG, pVar, pTup, psCons, psNil, atD, ixD_lst, ixD_tup, ixD_scr, at_0, at_1, at_2, at_3, at_4, at_5, at_6, at_7, lenD, intC, absC, max2C, min2C, addD, intD, cmpD, yesC, slD, seqD, enumD, stD, sumC, allC, anyC, tupC, maxC, Option.bind_some, Option.map_some, List.lookup_cons, List.lookup_nil, List.length_cons, List.length_nil, Bool.not_true, Bool.not_false, Bool.and_self, Bool.true_and, Bool.and_true, Bool.false_and, Bool.and_false, Bool.or_true, Bool.true_or, Bool.false_or, Bool.or_false, reduceIte, decide_true, decide_false, if_true, if_false, List.replicate_succ, List.replicate_zero, Nat.reduceAdd, Nat.reduceSub, Nat.zero_add, List.mem_cons, List.not_mem_nil, or_false, false_or, not_false_eq_true, reduceCtorEq, ne_eq, and_self, and_true, true_and, Nat.reduceLT, Nat.reduceLeDiff, beq_self_eq_true, Nat.reduceEqDiff, Nat.add_one_ne_zero, modC, divC, mulC, powC, Int.reduceLT, Int.reduceLE, Int.reduceNeg, Int.reducePow, Int.reduceToNat, Int.reduceEq, Nat.reducePow, Int.zero_add, eqL, eqD, eqB, neD, isD, sz_0, sz_1, sz_2, sz_3, sz_4, sz_5, sz_6, sz_7, sz_8, sz_9, sz_10, sz_11, sz_12, sz_13, sz_14, sz_15, sz_16, sz_17, sz_18, sz_19, sz_20, sz_21, sz_22, sz_23, sz_24, sz_25, sz_26, sz_27, sz_28, sz_29, sz_30, nc_0, nc_1, nc_2, nc_3, nc_4, nc_5, nc_6, nc_7, nc_8, nc_9, nc_10, nc_11, nc_12, nc_13, nc_14, nc_15, nc_16, nc_17, nc_18, nc_19, nc_20, nc_21, nc_22, nc_23, nc_24, nc_25, nc_26, nc_27, nc_28, nc_29, nc_30, isiT, isiK, isiC, isiM, tyNames, tagD, tb0_NoneType, tb0_bool, tb0_int, tb0_str, tb0_tuple, tb0_list, tb0_Tree, tb1_NoneType, tb1_bool, tb1_int, tb1_str, tb1_tuple, tb1_list, tb1_Tree, tb2_NoneType, tb2_bool, tb2_int, tb2_str, tb2_tuple, tb2_list, tb2_Tree, tb3_NoneType, tb3_bool, tb3_int, tb3_str, tb3_tuple, tb3_list, tb3_Tree, tb4_NoneType, tb4_bool, tb4_int, tb4_str, tb4_tuple, tb4_list, tb4_Tree, tb5_NoneType, tb5_bool, tb5_int, tb5_str, tb5_tuple, tb5_list, tb5_Tree, tb6_NoneType, tb6_bool, tb6_int, tb6_str, tb6_tuple, tb6_list, tb6_Tree, nq_kind_children, nb_kind_children, nq_kind_size, nb_kind_size, nq_kind_depth, nb_kind_depth, nq_children_kind, nb_children_kind, nq_children_size, nb_children_size, nq_children_depth, nb_children_depth, nq_size_kind, nb_size_kind, nq_size_children, nb_size_children, nq_size_depth, nb_size_depth, nq_depth_kind, nb_depth_kind, nq_depth_children, nb_depth_children, nq_depth_size, nb_depth_size]
      exact ⟨tb.length - 1, by rw [List.length_map]; congr 1; omega, by omega, hb⟩
    · simp only [↓kn_q, ↓kn_e, ↓kq_q, ↓kp_p, ↓ps_nx, ↓ps_rt, ↓ps_bk, ↓ps_ct, ↓ps_ex, ↓tkV_val, ↓tkV_own, ↓tkVR_val, ↓tkVR_own, ↓tkO_own, ↓tkA_val, ↓tkB_bl, ↓tkI_int, ↓tkStr_str, ↓tkC_obj, ↓tkSm_some, ↓tkSm_map, ↓tkSm_bind, ↓tkSm_ite, ↓tkP_t, ↓tkIf_t, ↓tkIf_f, ↓tkT_t, ↓tk_ok, ↓tk_exc, ↓tk_bind, ↓tk_lift, ↓tks_nx, ↓tks_rt, ↓tks_eS, ↓tks_seq, ↓tks_next, ↓tks_brk, ↓tks_cnt, ↓tks_drop, ↓tks_ret, ↓tks_retN, ↓tks_if, ↓tks_frz, ↓tks_set, ↓tks_setO, ↓tks_par, ↓tks_mut, ↓tks_app, ↓tks_store, ↓tks_fld, ↓tks_aug, ↓tks_for, ↓tks_for0, ↓tk_var, ↓tk_varR, ↓tk_c, ↓tk_bin, ↓tk_test, ↓tk_tnot, ↓tk_yes, ↓tk_tand, ↓tk_tor, ↓tk_call, ↓tk_fn, ↓tk_mkF, ↓tk_nil, ↓tk_cons, ↓tk_attr, ↓tk_meth, ↓tk_xif, ↓tk_seqI, ↓tk_enum, ↓tk_rng1, ↓tk_rng2, ↓tk_loc, ↓tk_lc, ↓tk_neg, ↓tk_no, ↓tk_part, ↓tk_sl, ↓tk_xsNil, ↓tk_xsV, ↓tk_xsO, ↓tk_xnot, ↓tk_xand, ↓tk_xor, ↓tk_lst, ↓tk_tup, ↓tk_sz, ↓tk_chain, ↓tk_s1, ↓tk_maxDf, ↓tk_star, List.getElem?_cons_zero, List.getElem?_cons_succ, List.set_cons_zero, List.set_cons_succ, List.map_cons, List.map_nil, List.cons_append, List.nil_append, List.append_assoc, tkJ_own, frzG, putS, wipeG, pVar, pTup, psCons, psNil, atD, ixD_lst, ixD_tup, ixD_scr, at_0, at_1, at_2, at_3, at_4, at_5, at_6, at_7, lenD, intC, absC, max2C, min2C, addD, intD, cmpD, yesC, slD, seqD, enumD, stD, sumC, allC, anyC, tupC, maxC, Option.bind_some, Option.map_some, List.lookup_cons, List.lookup_nil, List.length_cons, List.length_nil, Bool.not_true, Bool.not_false, Bool.and_self, Bool.true_and, Bool.and_true, Bool.false_and, Bool.and_false, Bool.or_true, Bool.true_or, Bool.false_or, Bool.or_false, reduceIte, decide_true, decide_false, if_true, if_false, List.replicate_succ, List.replicate_zero, Nat.reduceAdd, Nat.reduceSub, Nat.zero_add, List.mem_cons, List.not_mem_nil, or_false, false_or, not_false_eq_true, reduceCtorEq, ne_eq, and_self, and_true, true_and, Nat.reduceLT, Nat.reduceLeDiff, beq_self_eq_true, Nat.reduceEqDiff, Nat.add_one_ne_zero, modC, divC, mulC, powC, Int.reduceLT, Int.reduceLE, Int.reduceNeg, Int.reducePow, Int.reduceToNat, Int.reduceEq, Nat.reducePow, Int.zero_add, eqL, eqD, eqB, neD, isD, sz_0, sz_1, sz_2, sz_3, sz_4, sz_5, sz_6, sz_7, sz_8, sz_9, sz_10, sz_11, sz_12, sz_13, sz_14, sz_15, sz_16, sz_17, sz_18, sz_19, sz_20, sz_21, sz_22, sz_23, sz_24, sz_25, sz_26, sz_27, sz_28, sz_29, sz_30, nc_0, nc_1, nc_2, nc_3, nc_4, nc_5, nc_6, nc_7, nc_8, nc_9, nc_10, nc_11, nc_12, nc_13, nc_14, nc_15, nc_16, nc_17, nc_18, nc_19, nc_20, nc_21, nc_22, nc_23, nc_24, nc_25, nc_26, nc_27, nc_28, nc_29, nc_30, isiT, isiK, isiC, isiM, tyNames, tagD, tb0_NoneType, tb0_bool, tb0_int, tb0_str, tb0_tuple, tb0_list, tb0_Tree, tb1_NoneType, tb1_bool, tb1_int, tb1_str, tb1_tuple, tb1_list, tb1_Tree, tb2_NoneType, tb2_bool, tb2_int, tb2_str, tb2_tuple, tb2_list, tb2_Tree, tb3_NoneType, tb3_bool, tb3_int, tb3_str, tb3_tuple, tb3_list, tb3_Tree, tb4_NoneType, tb4_bool, tb4_int, tb4_str, tb4_tuple, tb4_list, tb4_Tree, tb5_NoneType, tb5_bool, tb5_int, tb5_str, tb5_tuple, tb5_list, tb5_Tree, tb6_NoneType, tb6_bool, tb6_int, tb6_str, tb6_tuple, tb6_list, tb6_Tree, nq_kind_children, nb_kind_children, nq_kind_size, nb_kind_size, nq_kind_depth, nb_kind_depth, nq_children_kind, nb_children_kind, nq_children_size, nb_children_size, nq_children_depth, nb_children_depth, nq_size_kind, nb_size_kind, nq_size_children, nb_size_children, nq_size_depth, nb_size_depth, nq_depth_kind, nb_depth_kind, nq_depth_children, nb_depth_children, nq_depth_size, nb_depth_size]
      refine take_spec hb (by decide) (by decide) fun d s1 d0 d1 h1 => ?_
      simp only [↓kn_q, ↓kn_e, ↓kq_q, ↓kp_p, ↓ps_nx, ↓ps_rt, ↓ps_bk, ↓ps_ct, ↓ps_ex, ↓tkV_val, ↓tkV_own, ↓tkVR_val, ↓tkVR_own, ↓tkO_own, ↓tkA_val, ↓tkB_bl, ↓tkI_int, ↓tkStr_str, ↓tkC_obj, ↓tkSm_some, ↓tkSm_map, ↓tkSm_bind, ↓tkSm_ite, ↓tkP_t, ↓tkIf_t, ↓tkIf_f, ↓tkT_t, ↓tk_ok, ↓tk_exc, ↓tk_bind, ↓tk_lift, ↓tks_nx, ↓tks_rt, ↓tks_eS, ↓tks_seq, ↓tks_next, ↓tks_brk, ↓tks_cnt, ↓tks_drop, ↓tks_ret, ↓tks_retN, ↓tks_if, ↓tks_frz, ↓tks_set, ↓tks_setO, ↓tks_par, ↓tks_mut, ↓tks_app, ↓tks_store, ↓tks_fld, ↓tks_aug, ↓tks_for, ↓tks_for0, ↓tk_var, ↓tk_varR, ↓tk_c, ↓tk_bin, ↓tk_test, ↓tk_tnot, ↓tk_yes, ↓tk_tand, ↓tk_tor, ↓tk_call, ↓tk_fn, ↓tk_mkF, ↓tk_nil, ↓tk_cons, ↓tk_attr, ↓tk_meth, ↓tk_xif, ↓tk_seqI, ↓tk_enum, ↓tk_rng1, ↓tk_rng2, ↓tk_loc, ↓tk_lc, ↓tk_neg, ↓tk_no, ↓tk_part, ↓tk_sl, ↓tk_xsNil, ↓tk_xsV, ↓tk_xsO, ↓tk_xnot, ↓tk_xand, ↓tk_xor, ↓tk_lst, ↓tk_tup, ↓tk_sz, ↓tk_chain, ↓tk_s1, ↓tk_maxDf, ↓tk_star, List.getElem?_cons_zero, List.getElem?_cons_succ, List.set_cons_zero, List.set_cons_succ, List.map_cons, List.map_nil, List.cons_append, List.nil_append, List.append_assoc, tkJ_own, frzG, putS, wipeG, pVar, pTup, psCons, psNil, atD, ixD_lst, ixD_tup, ixD_scr, at_0, at_1, at_2, at_3, at_4, at_5, at_6, at_7, lenD, intC, absC, max2C, min2C, addD, intD, cmpD, yesC, slD, seqD, enumD, stD, sumC, allC, anyC, tupC, maxC, Option.bind_some, Option.map_some, List.lookup_cons, List.lookup_nil, List.length_cons, List.length_nil, Bool.not_true, Bool.not_false, Bool.and_self, Bool.true_and, Bool.and_true, Bool.false_and, Bool.and_false, Bool.or_true, Bool.true_or, Bool.false_or, Bool.or_false, reduceIte, decide_true, decide_false, if_true, if_false, List.replicate_succ, List.replicate_zero, Nat.reduceAdd, Nat.reduceSub, Nat.zero_add, List.mem_cons, List.not_mem_nil, or_false, false_or, not_false_eq_true, reduceCtorEq, ne_eq, and_self, and_true, true_and, Nat.reduceLT, Nat.reduceLeDiff, beq_self_eq_true, Nat.reduceEqDiff, Nat.add_one_ne_zero, modC, divC, mulC, powC, Int.reduceLT, Int.reduceLE, Int.reduceNeg, Int.reducePow, Int.reduceToNat, Int.reduceEq, Nat.reducePow, Int.zero_add, eqL, eqD, eqB, neD, isD, sz_0, sz_1, sz_2, sz_3, sz_4, sz_5, sz_6, sz_7, sz_8, sz_9, sz_10, sz_11, sz_12, sz_13, sz_14, sz_15, sz_16, sz_17, sz_18, sz_19, sz_20, sz_21, sz_22, sz_23, sz_24, sz_25, sz_26, sz_27, sz_28, sz_29, sz_30, nc_0, nc_1, nc_2, nc_3, nc_4, nc_5, nc_6, nc_7, nc_8, nc_9, nc_10, nc_11, nc_12, nc_13, nc_14, nc_15, nc_16, nc_17, nc_18, nc_19, nc_20, nc_21, nc_22, nc_23, nc_24, nc_25, nc_26, nc_27, nc_28, nc_29, nc_30, isiT, isiK, isiC, isiM, tyNames, tagD, tb0_NoneType, tb0_bool, tb0_int, tb0_str, tb0_tuple, tb0_list, tb0_Tree, tb1_NoneType, tb1_bool, tb1_int, tb1_str, tb1_tuple, tb1_list, tb1_Tree, tb2_NoneType, tb2_bool, tb2_int, tb2_str, tb2_tuple, tb2_list, tb2_Tree, tb3_NoneType, tb3_bool, tb3_int, tb3_str, tb3_tuple, tb3_list, tb3_Tree, tb4_NoneType, tb4_bool, tb4_int, tb4_str, tb4_tuple, tb4_list, tb4_Tree, tb5_NoneType, tb5_bool, tb5_int, tb5_str, tb5_tuple, tb5_list, tb5_Tree, tb6_NoneType, tb6_bool, tb6_int, tb6_str, tb6_tuple, tb6_list, tb6_Tree, nq_kind_children, nb_kind_children, nq_kind_size, nb_kind_size, nq_kind_depth, nb_kind_depth, nq_children_kind, nb_children_kind, nq_children_size, nb_children_size, nq_children_depth, nb_children_depth, nq_size_kind, nb_size_kind, nq_size_children, nb_size_children, nq_size_depth, nb_size_depth, nq_depth_kind, nb_depth_kind, nq_depth_children, nb_depth_children, nq_depth_size, nb_depth_size]
      rw [List.length_map]
      by_cases hz : (tb.length : Int) - 1 - d > 0
      · rw [if_pos hz]
        exact ⟨((tb.length : Int) - 1 - d).toNat, by congr 1; omega, by omega, h1⟩
      · rw [if_neg hz]
        exact ⟨0, rfl, by omega, h1⟩
  rintro _ s1 ⟨k, rfl, hkl, h1⟩
  simp only [↓kn_q, ↓kn_e, ↓kq_q, ↓kp_p, ↓ps_nx, ↓ps_rt, ↓ps_bk, ↓ps_ct, ↓ps_ex, ↓tkV_val, ↓tkV_own, ↓tkVR_val, ↓tkVR_own, ↓tkO_own, ↓tkA_val, ↓tkB_bl, ↓tkI_int, ↓tkStr_str, ↓tkC_obj, ↓tkSm_some, ↓tkSm_map, ↓tkSm_bind, ↓tkSm_ite, ↓tkP_t, ↓tkIf_t, ↓tkIf_f, ↓tkT_t, ↓tk_ok, ↓tk_exc, ↓tk_bind, ↓tk_lift, ↓tks_nx, ↓tks_rt, ↓tks_eS, ↓tks_seq, ↓tks_next, ↓tks_brk, ↓tks_cnt, ↓tks_drop, ↓tks_ret, ↓tks_retN, ↓tks_if, ↓tks_frz, ↓tks_set, ↓tks_setO, ↓tks_par, ↓tks_mut, ↓tks_app, ↓tks_store, ↓tks_fld, ↓tks_aug, ↓tks_for, ↓tks_for0, ↓tk_var, ↓tk_varR, ↓tk_c, ↓tk_bin, ↓tk_test, ↓tk_tnot, ↓tk_yes, ↓tk_tand, ↓tk_tor, ↓tk_call, ↓tk_fn, ↓tk_mkF, ↓tk_nil, ↓tk_cons, ↓tk_attr, ↓tk_meth, ↓tk_xif, ↓tk_seqI, ↓tk_enum, ↓tk_rng1, ↓tk_rng2, ↓tk_loc, ↓tk_lc, ↓tk_neg, ↓tk_no, ↓tk_part, ↓tk_sl, ↓tk_xsNil, ↓tk_xsV, ↓tk_xsO, ↓tk_xnot, ↓tk_xand, ↓tk_xor, ↓tk_lst, ↓tk_tup, ↓tk_sz, ↓tk_chain, ↓tk_s1, ↓tk_maxDf, ↓tk_star, List.getElem?_cons_zero, List.getElem?_cons_succ, List.set_cons_zero, List.set_cons_succ, List.map_cons, List.map_nil, List.cons_append, List.nil_append, List.append_assoc, tkJ_own, frzG, putS, wipeG, pVar, pTup, psCons, psNil, atD, ixD_lst, ixD_tup, ixD_scr, at_0, at_1, at_2, at_3, at_4, at_5, at_6, at_7, lenD, intC, absC, max2C, min2C, addD, intD, cmpD, yesC, slD, seqD, enumD, stD, sumC, allC, anyC, tupC, maxC, Option.bind_some, Option.map_some, List.lookup_cons, List.lookup_nil, List.length_cons, List.length_nil, Bool.not_true, Bool.not_false, Bool.and_self, Bool.true_and, Bool.and_true, Bool.false_and, Bool.and_false, Bool.or_true, Bool.true_or, Bool.false_or, Bool.or_false, reduceIte, decide_true, decide_false, if_true, if_false, List.replicate_succ, List.replicate_zero, Nat.reduceAdd, Nat.reduceSub, Nat.zero_add, List.mem_cons, List.not_mem_nil, or_false, false_or, not_false_eq_true, reduceCtorEq, ne_eq, and_self, and_true, true_and, Nat.reduceLT, Nat.reduceLeDiff, beq_self_eq_true, Nat.reduceEqDiff, Nat.add_one_ne_zero, modC, divC, mulC, powC, Int.reduceLT, Int.reduceLE, Int.reduceNeg, Int.reducePow, Int.reduceToNat, Int.reduceEq, Nat.reducePow, Int.zero_add, eqL, eqD, eqB, neD, isD, sz_0, sz_1, sz_2, sz_3, sz_4, sz_5, sz_6, sz_7, sz_8, sz_9, sz_10, sz_11, sz_12, sz_13, sz_14, sz_15, sz_16, sz_17, sz_18, sz_19, sz_20, sz_21, sz_22, sz_23, sz_24, sz_25, sz_26, sz_27, sz_28, sz_29, sz_30, nc_0, nc_1, nc_2, nc_3, nc_4, nc_5, nc_6, nc_7, nc_8, nc_9, nc_10, nc_11, nc_12, nc_13, nc_14, nc_15, nc_16, nc_17, nc_18, nc_19, nc_20, nc_21, nc_22, nc_23, nc_24, nc_25, nc_26, nc_27, nc_28, nc_29, nc_30, isiT, isiK, isiC, isiM, tyNames, tagD, tb0_NoneType, tb0_bool, tb0_int, tb0_str, tb0_tuple, tb0_list, tb0_Tree, tb1_NoneType, tb1_bool, tb1_int, tb1_str, tb1_tuple, tb1_list, tb1_Tree, tb2_NoneType, tb2_bool, tb2_int, tb2_str, tb2_tuple, tb2_list, tb2_Tree, tb3_NoneType, tb3_bool, tb3_int, tb3_str, tb3_tuple, tb3_list, tb3_Tree, tb4_NoneType, tb4_bool, tb4_int, tb4_str, tb4_tuple, tb4_list, tb4_Tree, tb5_NoneType, tb5_bool, tb5_int, tb5_str, tb5_tuple, tb5_list, tb5_Tree, tb6_NoneType, tb6_bool, tb6_int, tb6_str, tb6_tuple, tb6_list, tb6_Tree, nq_kind_children, nb_kind_children, nq_kind_size, nb_kind_size, nq_kind_depth, nb_kind_depth, nq_children_kind, nb_children_kind, nq_children_size, nb_children_size, nq_children_depth, nb_children_depth, nq_size_kind, nb_size_kind, nq_size_children, nb_size_children, nq_size_depth, nb_size_depth, nq_depth_kind, nb_depth_kind, nq_depth_children, nb_depth_children, nq_depth_size, nb_depth_size]
  refine take_spec h1 (by decide) (by decide) fun w s2 w0 w1 h2 => ?_
  simp only [↓kn_q, ↓kn_e, ↓kq_q, ↓kp_p, ↓ps_nx, ↓ps_rt, ↓ps_bk, ↓ps_ct, ↓ps_ex, ↓tkV_val, ↓tkV_own, ↓tkVR_val, ↓tkVR_own, ↓tkO_own, ↓tkA_val, ↓tkB_bl, ↓tkI_int, ↓tkStr_str, ↓tkC_obj, ↓tkSm_some, ↓tkSm_map, ↓tkSm_bind, ↓tkSm_ite, ↓tkP_t, ↓tkIf_t, ↓tkIf_f, ↓tkT_t, ↓tk_ok, ↓tk_exc, ↓tk_bind, ↓tk_lift, ↓tks_nx, ↓tks_rt, ↓tks_eS, ↓tks_seq, ↓tks_next, ↓tks_brk, ↓tks_cnt, ↓tks_drop, ↓tks_ret, ↓tks_retN, ↓tks_if, ↓tks_frz, ↓tks_set, ↓tks_setO, ↓tks_par, ↓tks_mut, ↓tks_app, ↓tks_store, ↓tks_fld, ↓tks_aug, ↓tks_for, ↓tks_for0, ↓tk_var, ↓tk_varR, ↓tk_c, ↓tk_bin, ↓tk_test, ↓tk_tnot, ↓tk_yes, ↓tk_tand, ↓tk_tor, ↓tk_call, ↓tk_fn, ↓tk_mkF, ↓tk_nil, ↓tk_cons, ↓tk_attr, ↓tk_meth, ↓tk_xif, ↓tk_seqI, ↓tk_enum, ↓tk_rng1, ↓tk_rng2, ↓tk_loc, ↓tk_lc, ↓tk_neg, ↓tk_no, ↓tk_part, ↓tk_sl, ↓tk_xsNil, ↓tk_xsV, ↓tk_xsO, ↓tk_xnot, ↓tk_xand, ↓tk_xor, ↓tk_lst, ↓tk_tup, ↓tk_sz, ↓tk_chain, ↓tk_s1, ↓tk_maxDf, ↓tk_star, List.getElem?_cons_zero, List.getElem?_cons_succ, List.set_cons_zero, List.set_cons_succ, List.map_cons, List.map_nil, List.cons_append, List.nil_append, List.append_assoc, tkJ_own, frzG, putS, wipeG, pVar, pTup, psCons, psNil, atD, ixD_lst, ixD_tup, ixD_scr, at_0, at_1, at_2, at_3, at_4, at_5, at_6, at_7, lenD, intC, absC, max2C, min2C, addD, intD, cmpD, yesC, slD, seqD, enumD, stD, sumC, allC, anyC, tupC, maxC, Option.bind_some, Option.map_some, List.lookup_cons, List.lookup_nil, List.length_cons, List.length_nil, Bool.not_true, Bool.not_false, Bool.and_self, Bool.true_and, Bool.and_true, Bool.false_and, Bool.and_false, Bool.or_true, Bool.true_or, Bool.false_or, Bool.or_false, reduceIte, decide_true, decide_false, if_true, if_false, List.replicate_succ, List.replicate_zero, Nat.reduceAdd, Nat.reduceSub, Nat.zero_add, List.mem_cons, List.not_mem_nil, or_false, false_or, not_false_eq_true, reduceCtorEq, ne_eq, and_self, and_true, true_and, Nat.reduceLT, Nat.reduceLeDiff, beq_self_eq_true, Nat.reduceEqDiff, Nat.add_one_ne_zero, modC, divC, mulC, powC, Int.reduceLT, Int.reduceLE, Int.reduceNeg, Int.reducePow, Int.reduceToNat, Int.reduceEq, Nat.reducePow, Int.zero_add, eqL, eqD, eqB, neD, isD, sz_0, sz_1, sz_2, sz_3, sz_4, sz_5, sz_6, sz_7, sz_8, sz_9, sz_10, sz_11, sz_12, sz_13, sz_14, sz_15, sz_16, sz_17, sz_18, sz_19, sz_20, sz_21, sz_22, sz_23, sz_24, sz_25, sz_26, sz_27, sz_28, sz_29, sz_30, nc_0, nc_1, nc_2, nc_3, nc_4, nc_5, nc_6, nc_7, nc_8, nc_9, nc_10, nc_11, nc_12, nc_13, nc_14, nc_15, nc_16, nc_17, nc_18, nc_19, nc_20, nc_21, nc_22, nc_23, nc_24, nc_25, nc_26, nc_27, nc_28, nc_29, nc_30, isiT, isiK, isiC, isiM, tyNames, tagD, tb0_NoneType, tb0_bool, tb0_int, tb0_str, tb0_tuple, tb0_list, tb0_Tree, tb1_NoneType, tb1_bool, tb1_int, tb1_str, tb1_tuple, tb1_list, tb1_Tree, tb2_NoneType, tb2_bool, tb2_int, tb2_str, tb2_tuple, tb2_list, tb2_Tree, tb3_NoneType, tb3_bool, tb3_int, tb3_str, tb3_tuple, tb3_list, tb3_Tree, tb4_NoneType, tb4_bool, tb4_int, tb4_str, tb4_tuple, tb4_list, tb4_Tree, tb5_NoneType, tb5_bool, tb5_int, tb5_str, tb5_tuple, tb5_list, tb5_Tree, tb6_NoneType, tb6_bool, tb6_int, tb6_str, tb6_tuple, tb6_list, tb6_Tree, nq_kind_children, nb_kind_children, nq_kind_size, nb_kind_size, nq_kind_depth, nb_kind_depth, nq_children_kind, nb_children_kind, nq_children_size, nb_children_size, nq_children_depth, nb_children_depth, nq_size_kind, nb_size_kind, nq_size_children, nb_size_children, nq_size_depth, nb_size_depth, nq_depth_kind, nb_depth_kind, nq_depth_children, nb_depth_children, nq_depth_size, nb_depth_size]
  have fll := hk.ln
  refine tkT_of (sz_of (by rw [List.length_map]; omega)) ?_
  simp only [↓kn_q, ↓kn_e, ↓kq_q, ↓kp_p, ↓ps_nx, ↓ps_rt, ↓ps_bk, ↓ps_ct, ↓ps_ex, ↓tkV_val, ↓tkV_own, ↓tkVR_val, ↓tkVR_own, ↓tkO_own, ↓tkA_val, ↓tkB_bl, ↓tkI_int, ↓tkStr_str, ↓tkC_obj, ↓tkSm_some, ↓tkSm_map, ↓tkSm_bind, ↓tkSm_ite, ↓tkP_t, ↓tkIf_t, ↓tkIf_f, ↓tkT_t, ↓tk_ok, ↓tk_exc, ↓tk_bind, ↓tk_lift, ↓tks_nx, ↓tks_rt, ↓tks_eS, ↓tks_seq, ↓tks_next, ↓tks_brk, ↓tks_cnt, ↓tks_drop, ↓tks_ret, ↓tks_retN, ↓tks_if, ↓tks_frz, ↓tks_set, ↓tks_setO, ↓tks_par, ↓tks_mut, ↓tks_app, ↓tks_store, ↓tks_fld, ↓tks_aug, ↓tks_for, ↓tks_for0, ↓tk_var, ↓tk_varR, ↓tk_c, ↓tk_bin, ↓tk_test, ↓tk_tnot, ↓tk_yes, ↓tk_tand, ↓tk_tor, ↓tk_call, ↓tk_fn, ↓tk_mkF, ↓tk_nil, ↓tk_cons, ↓tk_attr, ↓tk_meth, ↓tk_xif, ↓tk_seqI, ↓tk_enum, ↓tk_rng1, ↓tk_rng2, ↓tk_loc, ↓tk_lc, ↓tk_neg, ↓tk_no, ↓tk_part, ↓tk_sl, ↓tk_xsNil, ↓tk_xsV, ↓tk_xsO, ↓tk_xnot, ↓tk_xand, ↓tk_xor, ↓tk_lst, ↓tk_tup, ↓tk_sz, ↓tk_chain, ↓tk_s1, ↓tk_maxDf, ↓tk_star, List.getElem?_cons_zero, List.getElem?_cons_succ, List.set_cons_zero, List.set_cons_succ, List.map_cons, List.map_nil, List.cons_append, List.nil_append, List.append_assoc, tkJ_own, frzG, putS, wipeG, pVar, pTup, psCons, psNil, atD, ixD_lst, ixD_tup, ixD_scr, at_0, at_1, at_2, at_3, at_4, at_5, at_6, at_7, lenD, intC, absC, max2C, min2C, addD, intD, cmpD, yesC, slD, seqD, enumD, stD, sumC, allC, anyC, tupC, maxC, Option.bind_some, Option.map_some, List.lookup_cons, List.lookup_nil, List.length_cons, List.length_nil, Bool.not_true, Bool.not_false, Bool.and_self, Bool.true_and, Bool.and_true, Bool.false_and, Bool.and_false, Bool.or_true, Bool.true_or, Bool.false_or, Bool.or_false, reduceIte, decide_true, decide_false, if_true, if_false, List.replicate_succ, List.replicate_zero, Nat.reduceAdd, Nat.reduceSub, Nat.zero_add, List.mem_cons, List.not_mem_nil, or_false, false_or, not_false_eq_true, reduceCtorEq, ne_eq, and_self, and_true, true_and, Nat.reduceLT, Nat.reduceLeDiff, beq_self_eq_true, Nat.reduceEqDiff, Nat.add_one_ne_zero, modC, divC, mulC, powC, Int.reduceLT, Int.reduceLE, Int.reduceNeg, Int.reducePow, Int.reduceToNat, Int.reduceEq, Nat.reducePow, Int.zero_add, eqL, eqD, eqB, neD, isD, sz_0, sz_1, sz_2, sz_3, sz_4, sz_5, sz_6, sz_7, sz_8, sz_9, sz_10, sz_11, sz_12, sz_13, sz_14, sz_15, sz_16, sz_17, sz_18, sz_19, sz_20, sz_21, sz_22, sz_23, sz_24, sz_25, sz_26, sz_27, sz_28, sz_29, sz_30, nc_0, nc_1, nc_2, nc_3, nc_4, nc_5, nc_6, nc_7, nc_8, nc_9, nc_10, nc_11, nc_12, nc_13, nc_14, nc_15, nc_16, nc_17, nc_18, nc_19, nc_20, nc_21, nc_22, nc_23, nc_24, nc_25, nc_26, nc_27, nc_28, nc_29, nc_30, isiT, isiK, isiC, isiM, tyNames, tagD, tb0_NoneType, tb0_bool, tb0_int, tb0_str, tb0_tuple, tb0_list, tb0_Tree, tb1_NoneType, tb1_bool, tb1_int, tb1_str, tb1_tuple, tb1_list, tb1_Tree, tb2_NoneType, tb2_bool, tb2_int, tb2_str, tb2_tuple, tb2_list, tb2_Tree, tb3_NoneType, tb3_bool, tb3_int, tb3_str, tb3_tuple, tb3_list, tb3_Tree, tb4_NoneType, tb4_bool, tb4_int, tb4_str, tb4_tuple, tb4_list, tb4_Tree, tb5_NoneType, tb5_bool, tb5_int, tb5_str, tb5_tuple, tb5_list, tb5_Tree, tb6_NoneType, tb6_bool, tb6_int, tb6_str, tb6_tuple, tb6_list, tb6_Tree, nq_kind_children, nb_kind_children, nq_kind_size, nb_kind_size, nq_kind_depth, nb_kind_depth, nq_children_kind, nb_children_kind, nq_children_size, nb_children_size, nq_children_depth, nb_children_depth, nq_size_kind, nb_size_kind, nq_size_children, nb_size_children, nq_size_depth, nb_size_depth, nq_depth_kind, nb_depth_kind, nq_depth_children, nb_depth_children, nq_depth_size, nb_depth_size]
  refine lc_fl (tb := tb) (sel := fun x => .int x.2.1) hk.fi (fun i hi => ?_) ?_
  · unfold e_law_1
    simp only [↓kn_q, ↓kn_e, ↓kq_q, ↓kp_p, ↓ps_nx, ↓ps_rt, ↓ps_bk, ↓ps_ct, ↓ps_ex, ↓tkV_val, ↓tkV_own, ↓tkVR_val, ↓tkVR_own, ↓tkO_own, ↓tkA_val, ↓tkB_bl, ↓tkI_int, ↓tkStr_str, ↓tkC_obj, ↓tkSm_some, ↓tkSm_map, ↓tkSm_bind, ↓tkSm_ite, ↓tkP_t, ↓tkIf_t, ↓tkIf_f, ↓tkT_t, ↓tk_ok, ↓tk_exc, ↓tk_bind, ↓tk_lift, ↓tks_nx, ↓tks_rt, ↓tks_eS, ↓tks_seq, ↓tks_next, ↓tks_brk, ↓tks_cnt, ↓tks_drop, ↓tks_ret, ↓tks_retN, ↓tks_if, ↓tks_frz, ↓tks_set, ↓tks_setO, ↓tks_par, ↓tks_mut, ↓tks_app, ↓tks_store, ↓tks_fld, ↓tks_aug, ↓tks_for, ↓tks_for0, ↓tk_var, ↓tk_varR, ↓tk_c, ↓tk_bin, ↓tk_test, ↓tk_tnot, ↓tk_yes, ↓tk_tand, ↓tk_tor, ↓tk_call, ↓tk_fn, ↓tk_mkF, ↓tk_nil, ↓tk_cons, ↓tk_attr, ↓tk_meth, ↓tk_xif, ↓tk_seqI, ↓tk_enum, ↓tk_rng1, ↓tk_rng2, ↓tk_loc, ↓tk_lc, ↓tk_neg, ↓tk_no, ↓tk_part, ↓tk_sl, ↓tk_xsNil, ↓tk_xsV, ↓tk_xsO, ↓tk_xnot, ↓tk_xand, ↓tk_xor, ↓tk_lst, ↓tk_tup, ↓tk_sz, ↓tk_chain, ↓tk_s1, ↓tk_maxDf, ↓tk_star, List.getElem?_cons_zero, List.getElem?_cons_succ, List.set_cons_zero, List.set_cons_succ, List.map_cons, List.map_nil, List.cons_append, List.nil_append, List.append_assoc, tkJ_own, frzG, putS, wipeG, pVar, pTup, psCons, psNil, atD, ixD_lst, ixD_tup, ixD_scr, at_0, at_1, at_2, at_3, at_4, at_5, at_6, at_7, lenD, intC, absC, max2C, min2C, addD, intD, cmpD, yesC, slD, seqD, enumD, stD, sumC, allC, anyC, tupC, maxC, Option.bind_some, Option.map_some, List.lookup_cons, List.lookup_nil, List.length_cons, List.length_nil, Bool.not_true, Bool.not_false, Bool.and_self, Bool.true_and, Bool.and_true, Bool.false_and, Bool.and_false, Bool.or_true, Bool.true_or, Bool.false_or, Bool.or_false, reduceIte, decide_true, decide_false, if_true, if_false, List.replicate_succ, List.replicate_zero, Nat.reduceAdd, Nat.reduceSub, Nat.zero_add, List.mem_cons, List.not_mem_nil, or_false, false_or, not_false_eq_true, reduceCtorEq, ne_eq, and_self, and_true, true_and, Nat.reduceLT, Nat.reduceLeDiff, beq_self_eq_true, Nat.reduceEqDiff, Nat.add_one_ne_zero, modC, divC, mulC, powC, Int.reduceLT, Int.reduceLE, Int.reduceNeg, Int.reducePow, Int.reduceToNat, Int.reduceEq, Nat.reducePow, Int.zero_add, eqL, eqD, eqB, neD, isD, sz_0, sz_1, sz_2, sz_3, sz_4, sz_5, sz_6, sz_7, sz_8, sz_9, sz_10, sz_11, sz_12, sz_13, sz_14, sz_15, sz_16, sz_17, sz_18, sz_19, sz_20, sz_21, sz_22, sz_23, sz_24, sz_25, sz_26, sz_27, sz_28, sz_29, sz_30, nc_0, nc_1, nc_2, nc_3, nc_4, nc_5, nc_6, nc_7, nc_8, nc_9, nc_10, nc_11, nc_12, nc_13, nc_14, nc_15, nc_16, nc_17, nc_18, nc_19, nc_20, nc_21, nc_22, nc_23, nc_24, nc_25, nc_26, nc_27, nc_28, nc_29, nc_30, isiT, isiK, isiC, isiM, tyNames, tagD, tb0_NoneType, tb0_bool, tb0_int, tb0_str, tb0_tuple, tb0_list, tb0_Tree, tb1_NoneType, tb1_bool, tb1_int, tb1_str, tb1_tuple, tb1_list, tb1_Tree, tb2_NoneType, tb2_bool, tb2_int, tb2_str, tb2_tuple, tb2_list, tb2_Tree, tb3_NoneType, tb3_bool, tb3_int, tb3_str, tb3_tuple, tb3_list, tb3_Tree, tb4_NoneType, tb4_bool, tb4_int, tb4_str, tb4_tuple, tb4_list, tb4_Tree, tb5_NoneType, tb5_bool, tb5_int, tb5_str, tb5_tuple, tb5_list, tb5_Tree, tb6_NoneType, tb6_bool, tb6_int, tb6_str, tb6_tuple, tb6_list, tb6_Tree, nq_kind_children, nb_kind_children, nq_kind_size, nb_kind_size, nq_kind_depth, nb_kind_depth, nq_children_kind, nb_children_kind, nq_children_size, nb_children_size, nq_children_depth, nb_children_depth, nq_size_kind, nb_size_kind, nq_size_children, nb_size_children, nq_size_depth, nb_size_depth, nq_depth_kind, nb_depth_kind, nq_depth_children, nb_depth_children, nq_depth_size, nb_depth_size, at_pk hi]
  simp only [↓kn_q, ↓kn_e, ↓kq_q, ↓kp_p, ↓ps_nx, ↓ps_rt, ↓ps_bk, ↓ps_ct, ↓ps_ex, ↓tkV_val, ↓tkV_own, ↓tkVR_val, ↓tkVR_own, ↓tkO_own, ↓tkA_val, ↓tkB_bl, ↓tkI_int, ↓tkStr_str, ↓tkC_obj, ↓tkSm_some, ↓tkSm_map, ↓tkSm_bind, ↓tkSm_ite, ↓tkP_t, ↓tkIf_t, ↓tkIf_f, ↓tkT_t, ↓tk_ok, ↓tk_exc, ↓tk_bind, ↓tk_lift, ↓tks_nx, ↓tks_rt, ↓tks_eS, ↓tks_seq, ↓tks_next, ↓tks_brk, ↓tks_cnt, ↓tks_drop, ↓tks_ret, ↓tks_retN, ↓tks_if, ↓tks_frz, ↓tks_set, ↓tks_setO, ↓tks_par, ↓tks_mut, ↓tks_app, ↓tks_store, ↓tks_fld, ↓tks_aug, ↓tks_for, ↓tks_for0, ↓tk_var, ↓tk_varR, ↓tk_c, ↓tk_bin, ↓tk_test, ↓tk_tnot, ↓tk_yes, ↓tk_tand, ↓tk_tor, ↓tk_call, ↓tk_fn, ↓tk_mkF, ↓tk_nil, ↓tk_cons, ↓tk_attr, ↓tk_meth, ↓tk_xif, ↓tk_seqI, ↓tk_enum, ↓tk_rng1, ↓tk_rng2, ↓tk_loc, ↓tk_lc, ↓tk_neg, ↓tk_no, ↓tk_part, ↓tk_sl, ↓tk_xsNil, ↓tk_xsV, ↓tk_xsO, ↓tk_xnot, ↓tk_xand, ↓tk_xor, ↓tk_lst, ↓tk_tup, ↓tk_sz, ↓tk_chain, ↓tk_s1, ↓tk_maxDf, ↓tk_star, List.getElem?_cons_zero, List.getElem?_cons_succ, List.set_cons_zero, List.set_cons_succ, List.map_cons, List.map_nil, List.cons_append, List.nil_append, List.append_assoc, tkJ_own, frzG, putS, wipeG, pVar, pTup, psCons, psNil, atD, ixD_lst, ixD_tup, ixD_scr, at_0, at_1, at_2, at_3, at_4, at_5, at_6, at_7, lenD, intC, absC, max2C, min2C, addD, intD, cmpD, yesC, slD, seqD, enumD, stD, sumC, allC, anyC, tupC, maxC, Option.bind_some, Option.map_some, List.lookup_cons, List.lookup_nil, List.length_cons, List.length_nil, Bool.not_true, Bool.not_false, Bool.and_self, Bool.true_and, Bool.and_true, Bool.false_and, Bool.and_false, Bool.or_true, Bool.true_or, Bool.false_or, Bool.or_false, reduceIte, decide_true, decide_false, if_true, if_false, List.replicate_succ, List.replicate_zero, Nat.reduceAdd, Nat.reduceSub, Nat.zero_add, List.mem_cons, List.not_mem_nil, or_false, false_or, not_false_eq_true, reduceCtorEq, ne_eq, and_self, and_true, true_and, Nat.reduceLT, Nat.reduceLeDiff, beq_self_eq_true, Nat.reduceEqDiff, Nat.add_one_ne_zero, modC, divC, mulC, powC, Int.reduceLT, Int.reduceLE, Int.reduceNeg, Int.reducePow, Int.reduceToNat, Int.reduceEq, Nat.reducePow, Int.zero_add, eqL, eqD, eqB, neD, isD, sz_0, sz_1, sz_2, sz_3, sz_4, sz_5, sz_6, sz_7, sz_8, sz_9, sz_10, sz_11, sz_12, sz_13, sz_14, sz_15, sz_16, sz_17, sz_18, sz_19, sz_20, sz_21, sz_22, sz_23, sz_24, sz_25, sz_26, sz_27, sz_28, sz_29, sz_30, nc_0, nc_1, nc_2, nc_3, nc_4, nc_5, nc_6, nc_7, nc_8, nc_9, nc_10, nc_11, nc_12, nc_13, nc_14, nc_15, nc_16, nc_17, nc_18, nc_19, nc_20, nc_21, nc_22, nc_23, nc_24, nc_25, nc_26, nc_27, nc_28, nc_29, nc_30, isiT, isiK, isiC, isiM, tyNames, tagD, tb0_NoneType, tb0_bool, tb0_int, tb0_str, tb0_tuple, tb0_list, tb0_Tree, tb1_NoneType, tb1_bool, tb1_int, tb1_str, tb1_tuple, tb1_list, tb1_Tree, tb2_NoneType, tb2_bool, tb2_int, tb2_str, tb2_tuple, tb2_list, tb2_Tree, tb3_NoneType, tb3_bool, tb3_int, tb3_str, tb3_tuple, tb3_list, tb3_Tree, tb4_NoneType, tb4_bool, tb4_int, tb4_str, tb4_tuple, tb4_list, tb4_Tree, tb5_NoneType, tb5_bool, tb5_int, tb5_str, tb5_tuple, tb5_list, tb5_Tree, tb6_NoneType, tb6_bool, tb6_int, tb6_str, tb6_tuple, tb6_list, tb6_Tree, nq_kind_children, nb_kind_children, nq_kind_size, nb_kind_size, nq_kind_depth, nb_kind_depth, nq_children_kind, nb_children_kind, nq_children_size, nb_children_size, nq_children_depth, nb_children_depth, nq_size_kind, nb_size_kind, nq_size_children, nb_size_children, nq_size_depth, nb_size_depth, nq_depth_kind, nb_depth_kind, nq_depth_children, nb_depth_children, nq_depth_size, nb_depth_size, ints_sel, at_pk hkl]
  refine tkIf_dec (fun _ => ?_) fun _ => ?_
  · simp only [↓kn_q, ↓kn_e, ↓kq_q, ↓kp_p, ↓ps_nx, ↓ps_rt, ↓ps_bk, ↓ps_ct, ↓ps_ex, ↓tkV_val, ↓tkV_own, ↓tkVR_val, ↓tkVR_own, ↓tkO_own, ↓tkA_val, ↓tkB_bl, ↓tkI_int, ↓tkStr_str, ↓tkC_obj, ↓tkSm_some, ↓tkSm_map, ↓tkSm_bind, ↓tkSm_ite, ↓tkP_t, ↓tkIf_t, ↓tkIf_f, ↓tkT_t, ↓tk_ok, ↓tk_exc, ↓tk_bind, ↓tk_lift, ↓tks_nx, ↓tks_rt, ↓tks_eS, ↓tks_seq, ↓tks_next, ↓tks_brk, ↓tks_cnt, ↓tks_drop, ↓tks_ret, ↓tks_retN, ↓tks_if, ↓tks_frz, ↓tks_set, ↓tks_setO, ↓tks_par, ↓tks_mut, ↓tks_app, ↓tks_store, ↓tks_fld, ↓tks_aug, ↓tks_for, ↓tks_for0, ↓tk_var, ↓tk_varR, ↓tk_c, ↓tk_bin, ↓tk_test, ↓tk_tnot, ↓tk_yes, ↓tk_tand, ↓tk_tor, ↓tk_call, ↓tk_fn, ↓tk_mkF, ↓tk_nil, ↓tk_cons, ↓tk_attr, ↓tk_meth, ↓tk_xif, ↓tk_seqI, ↓tk_enum, ↓tk_rng1, ↓tk_rng2, ↓tk_loc, ↓tk_lc, ↓tk_neg, ↓tk_no, ↓tk_part, ↓tk_sl, ↓tk_xsNil, ↓tk_xsV, ↓tk_xsO, ↓tk_xnot, ↓tk_xand, ↓tk_xor, ↓tk_lst, ↓tk_tup, ↓tk_sz, ↓tk_chain, ↓tk_s1, ↓tk_maxDf, ↓tk_star, List.getElem?_cons_zero, List.getElem?_cons_succ, List.set_cons_zero, List.set_cons_succ, List.map_cons, List.map_nil, List.cons_append, List.nil_append, List.append_assoc, tkJ_own, frzG, putS, wipeG, pVar, pTup, psCons, psNil, atD, ixD_lst, ixD_tup, ixD_scr, at_0, at_1, at_2, at_3, at_4, at_5, at_6, at_7, lenD, intC, absC, max2C, min2C, addD, intD, cmpD, yesC, slD, seqD, enumD, stD, sumC, allC, anyC, tupC, maxC, Option.bind_some, Option.map_some, List.lookup_cons, List.lookup_nil, List.length_cons, List.length_nil, Bool.not_true, Bool.not_false, Bool.and_self, Bool.true_and, Bool.and_true, Bool.false_and, Bool.and_false, Bool.or_true, Bool.true_or, Bool.false_or, Bool.or_false, reduceIte, decide_true, decide_false, if_true, if_false, List.replicate_succ, List.replicate_zero, Nat.reduceAdd, Nat.reduceSub, Nat.zero_add, List.mem_cons, List.not_mem_nil, or_false, false_or, not_false_eq_true, reduceCtorEq, ne_eq, and_self, and_true, true_and, Nat.reduceLT, Nat.reduceLeDiff, beq_self_eq_true, Nat.reduceEqDiff, Nat.add_one_ne_zero, modC, divC, mulC, powC, Int.reduceLT, Int.reduceLE, Int.reduceNeg, Int.reducePow, Int.reduceToNat, Int.reduceEq, Nat.reducePow, Int.zero_add, eqL, eqD, eqB, neD, isD, sz_0, sz_1, sz_2, sz_3, sz_4, sz_5, sz_6, sz_7, sz_8, sz_9, sz_10, sz_11, sz_12, sz_13, sz_14, sz_15, sz_16, sz_17, sz_18, sz_19, sz_20, sz_21, sz_22, sz_23, sz_24, sz_25, sz_26, sz_27, sz_28, sz_29, sz_30, nc_0, nc_1, nc_2, nc_3, nc_4, nc_5, nc_6, nc_7, nc_8, nc_9, nc_10, nc_11, nc_12, nc_13, nc_14, nc_15, nc_16, nc_17, nc_18, nc_19, nc_20, nc_21, nc_22, nc_23, nc_24, nc_25, nc_26, nc_27, nc_28, nc_29, nc_30, isiT, isiK, isiC, isiM, tyNames, tagD, tb0_NoneType, tb0_bool, tb0_int, tb0_str, tb0_tuple, tb0_list, tb0_Tree, tb1_NoneType, tb1_bool, tb1_int, tb1_str, tb1_tuple, tb1_list, tb1_Tree, tb2_NoneType, tb2_bool, tb2_int, tb2_str, tb2_tuple, tb2_list, tb2_Tree, tb3_NoneType, tb3_bool, tb3_int, tb3_str, tb3_tuple, tb3_list, tb3_Tree, tb4_NoneType, tb4_bool, tb4_int, tb4_str, tb4_tuple, tb4_list, tb4_Tree, tb5_NoneType, tb5_bool, tb5_int, tb5_str, tb5_tuple, tb5_list, tb5_Tree, tb6_NoneType, tb6_bool, tb6_int, tb6_str, tb6_tuple, tb6_list, tb6_Tree, nq_kind_children, nb_kind_children, nq_kind_size, nb_kind_size, nq_kind_depth, nb_kind_depth, nq_children_kind, nb_children_kind, nq_children_size, nb_children_size, nq_children_depth, nb_children_depth, nq_size_kind, nb_size_kind, nq_size_children, nb_size_children, nq_size_depth, nb_size_depth, nq_depth_kind, nb_depth_kind, nq_depth_children, nb_depth_children, nq_depth_size, nb_depth_size, at_pk hkl]
    have tr := ht.pk hkl
    have fin : ∀ d s', Ch d [pk tb k] → Bg s' n → ∀ x5 x11 x14, P.nx [A0, A1, .val (.loc n), A3, A4, x5, .own (.lst (tD tb)), .own (.lst (tS tb)), .own (.lst (tH tb)), .val (.int (t : Int)), x10, x11, .own (.lst (ps.map (·.1) ++ [d])), .own (.lst (fD fl ++ [.int (k : Int)])), x14, x15, x16] s' := by
      intro d s' hd hb x5 x11 x14
      have := hq _ _ s' x5 x11 x14 (hk.snoc hkl hd) (by simp) hb
      rw [List.map_append] at this
      unfold fD at this
      rw [List.map_append] at this
      exact this
    have hw : w = 0 ∨ w = 1 ∨ w = 2 := by omega
    rcases hw with rfl | rfl | rfl
    · simp only [↓kn_q, ↓kn_e, ↓kq_q, ↓kp_p, ↓ps_nx, ↓ps_rt, ↓ps_bk, ↓ps_ct, ↓ps_ex, ↓tkV_val, ↓tkV_own, ↓tkVR_val, ↓tkVR_own, ↓tkO_own, ↓tkA_val, ↓tkB_bl, ↓tkI_int, ↓tkStr_str, ↓tkC_obj, ↓tkSm_some, ↓tkSm_map, ↓tkSm_bind, ↓tkSm_ite, ↓tkP_t, ↓tkIf_t, ↓tkIf_f, ↓tkT_t, ↓tk_ok, ↓tk_exc, ↓tk_bind, ↓tk_lift, ↓tks_nx, ↓tks_rt, ↓tks_eS, ↓tks_seq, ↓tks_next, ↓tks_brk, ↓tks_cnt, ↓tks_drop, ↓tks_ret, ↓tks_retN, ↓tks_if, ↓tks_frz, ↓tks_set, ↓tks_setO, ↓tks_par, ↓tks_mut, ↓tks_app, ↓tks_store, ↓tks_fld, ↓tks_aug, ↓tks_for, ↓tks_for0, ↓tk_var, ↓tk_varR, ↓tk_c, ↓tk_bin, ↓tk_test, ↓tk_tnot, ↓tk_yes, ↓tk_tand, ↓tk_tor, ↓tk_call, ↓tk_fn, ↓tk_mkF, ↓tk_nil, ↓tk_cons, ↓tk_attr, ↓tk_meth, ↓tk_xif, ↓tk_seqI, ↓tk_enum, ↓tk_rng1, ↓tk_rng2, ↓tk_loc, ↓tk_lc, ↓tk_neg, ↓tk_no, ↓tk_part, ↓tk_sl, ↓tk_xsNil, ↓tk_xsV, ↓tk_xsO, ↓tk_xnot, ↓tk_xand, ↓tk_xor, ↓tk_lst, ↓tk_tup, ↓tk_sz, ↓tk_chain, ↓tk_s1, ↓tk_maxDf, ↓tk_star, List.getElem?_cons_zero, List.getElem?_cons_succ, List.set_cons_zero, List.set_cons_succ, List.map_cons, List.map_nil, List.cons_append, List.nil_append, List.append_assoc, tkJ_own, frzG, putS, wipeG, pVar, pTup, psCons, psNil, atD, ixD_lst, ixD_tup, ixD_scr, at_0, at_1, at_2, at_3, at_4, at_5, at_6, at_7, lenD, intC, absC, max2C, min2C, addD, intD, cmpD, yesC, slD, seqD, enumD, stD, sumC, allC, anyC, tupC, maxC, Option.bind_some, Option.map_some, List.lookup_cons, List.lookup_nil, List.length_cons, List.length_nil, Bool.not_true, Bool.not_false, Bool.and_self, Bool.true_and, Bool.and_true, Bool.false_and, Bool.and_false, Bool.or_true, Bool.true_or, Bool.false_or, Bool.or_false, reduceIte, decide_true, decide_false, if_true, if_false, List.replicate_succ, List.replicate_zero, Nat.reduceAdd, Nat.reduceSub, Nat.zero_add, List.mem_cons, List.not_mem_nil, or_false, false_or, not_false_eq_true, reduceCtorEq, ne_eq, and_self, and_true, true_and, Nat.reduceLT, Nat.reduceLeDiff, beq_self_eq_true, Nat.reduceEqDiff, Nat.add_one_ne_zero, modC, divC, mulC, powC, Int.reduceLT, Int.reduceLE, Int.reduceNeg, Int.reducePow, Int.reduceToNat, Int.reduceEq, Nat.reducePow, Int.zero_add, eqL, eqD, eqB, neD, isD, sz_0, sz_1, sz_2, sz_3, sz_4, sz_5, sz_6, sz_7, sz_8, sz_9, sz_10, sz_11, sz_12, sz_13, sz_14, sz_15, sz_16, sz_17, sz_18, sz_19, sz_20, sz_21, sz_22, sz_23, sz_24, sz_25, sz_26, sz_27, sz_28, sz_29, sz_30, nc_0, nc_1, nc_2, nc_3, nc_4, nc_5, nc_6, nc_7, nc_8, nc_9, nc_10, nc_11, nc_12, nc_13, nc_14, nc_15, nc_16, nc_17, nc_18, nc_19, nc_20, nc_21, nc_22, nc_23, nc_24, nc_25, nc_26, nc_27, nc_28, nc_29, nc_30, isiT, isiK, isiC, isiM, tyNames, tagD, tb0_NoneType, tb0_bool, tb0_int, tb0_str, tb0_tuple, tb0_list, tb0_Tree, tb1_NoneType, tb1_bool, tb1_int, tb1_str, tb1_tuple, tb1_list, tb1_Tree, tb2_NoneType, tb2_bool, tb2_int, tb2_str, tb2_tuple, tb2_list, tb2_Tree, tb3_NoneType, tb3_bool, tb3_int, tb3_str, tb3_tuple, tb3_list, tb3_Tree, tb4_NoneType, tb4_bool, tb4_int, tb4_str, tb4_tuple, tb4_list, tb4_Tree, tb5_NoneType, tb5_bool, tb5_int, tb5_str, tb5_tuple, tb5_list, tb5_Tree, tb6_NoneType, tb6_bool, tb6_int, tb6_str, tb6_tuple, tb6_list, tb6_Tree, nq_kind_children, nb_kind_children, nq_kind_size, nb_kind_size, nq_kind_depth, nb_kind_depth, nq_children_kind, nb_children_kind, nq_children_size, nb_children_size, nq_children_depth, nb_children_depth, nq_size_kind, nb_size_kind, nq_size_children, nb_size_children, nq_size_depth, nb_size_depth, nq_depth_kind, nb_depth_kind, nq_depth_children, nb_depth_children, nq_depth_size, nb_depth_size]
      refine tkT_of (sz_of (by rw [List.length_map]; omega)) ?_
      simp only [↓kn_q, ↓kn_e, ↓kq_q, ↓kp_p, ↓ps_nx, ↓ps_rt, ↓ps_bk, ↓ps_ct, ↓ps_ex, ↓tkV_val, ↓tkV_own, ↓tkVR_val, ↓tkVR_own, ↓tkO_own, ↓tkA_val, ↓tkB_bl, ↓tkI_int, ↓tkStr_str, ↓tkC_obj, ↓tkSm_some, ↓tkSm_map, ↓tkSm_bind, ↓tkSm_ite, ↓tkP_t, ↓tkIf_t, ↓tkIf_f, ↓tkT_t, ↓tk_ok, ↓tk_exc, ↓tk_bind, ↓tk_lift, ↓tks_nx, ↓tks_rt, ↓tks_eS, ↓tks_seq, ↓tks_next, ↓tks_brk, ↓tks_cnt, ↓tks_drop, ↓tks_ret, ↓tks_retN, ↓tks_if, ↓tks_frz, ↓tks_set, ↓tks_setO, ↓tks_par, ↓tks_mut, ↓tks_app, ↓tks_store, ↓tks_fld, ↓tks_aug, ↓tks_for, ↓tks_for0, ↓tk_var, ↓tk_varR, ↓tk_c, ↓tk_bin, ↓tk_test, ↓tk_tnot, ↓tk_yes, ↓tk_tand, ↓tk_tor, ↓tk_call, ↓tk_fn, ↓tk_mkF, ↓tk_nil, ↓tk_cons, ↓tk_attr, ↓tk_meth, ↓tk_xif, ↓tk_seqI, ↓tk_enum, ↓tk_rng1, ↓tk_rng2, ↓tk_loc, ↓tk_lc, ↓tk_neg, ↓tk_no, ↓tk_part, ↓tk_sl, ↓tk_xsNil, ↓tk_xsV, ↓tk_xsO, ↓tk_xnot, ↓tk_xand, ↓tk_xor, ↓tk_lst, ↓tk_tup, ↓tk_sz, ↓tk_chain, ↓tk_s1, ↓tk_maxDf, ↓tk_star, List.getElem?_cons_zero, List.getElem?_cons_succ, List.set_cons_zero, List.set_cons_succ, List.map_cons, List.map_nil, List.cons_append, List.nil_append, List.append_assoc, tkJ_own, frzG, putS, wipeG, pVar, pTup, psCons, psNil, atD, ixD_lst, ixD_tup, ixD_scr, at_0, at_1, at_2, at_3, at_4, at_5, at_6, at_7, lenD, intC, absC, max2C, min2C, addD, intD, cmpD, yesC, slD, seqD, enumD, stD, sumC, allC, anyC, tupC, maxC, Option.bind_some, Option.map_some, List.lookup_cons, List.lookup_nil, List.length_cons, List.length_nil, Bool.not_true, Bool.not_false, Bool.and_self, Bool.true_and, Bool.and_true, Bool.false_and, Bool.and_false, Bool.or_true, Bool.true_or, Bool.false_or, Bool.or_false, reduceIte, decide_true, decide_false, if_true, if_false, List.replicate_succ, List.replicate_zero, Nat.reduceAdd, Nat.reduceSub, Nat.zero_add, List.mem_cons, List.not_mem_nil, or_false, false_or, not_false_eq_true, reduceCtorEq, ne_eq, and_self, and_true, true_and, Nat.reduceLT, Nat.reduceLeDiff, beq_self_eq_true, Nat.reduceEqDiff, Nat.add_one_ne_zero, modC, divC, mulC, powC, Int.reduceLT, Int.reduceLE, Int.reduceNeg, Int.reducePow, Int.reduceToNat, Int.reduceEq, Nat.reducePow, Int.zero_add, eqL, eqD, eqB, neD, isD, sz_0, sz_1, sz_2, sz_3, sz_4, sz_5, sz_6, sz_7, sz_8, sz_9, sz_10, sz_11, sz_12, sz_13, sz_14, sz_15, sz_16, sz_17, sz_18, sz_19, sz_20, sz_21, sz_22, sz_23, sz_24, sz_25, sz_26, sz_27, sz_28, sz_29, sz_30, nc_0, nc_1, nc_2, nc_3, nc_4, nc_5, nc_6, nc_7, nc_8, nc_9, nc_10, nc_11, nc_12, nc_13, nc_14, nc_15, nc_16, nc_17, nc_18, nc_19, nc_20, nc_21, nc_22, nc_23, nc_24, nc_25, nc_26, nc_27, nc_28, nc_29, nc_30, isiT, isiK, isiC, isiM, tyNames, tagD, tb0_NoneType, tb0_bool, tb0_int, tb0_str, tb0_tuple, tb0_list, tb0_Tree, tb1_NoneType, tb1_bool, tb1_int, tb1_str, tb1_tuple, tb1_list, tb1_Tree, tb2_NoneType, tb2_bool, tb2_int, tb2_str, tb2_tuple, tb2_list, tb2_Tree, tb3_NoneType, tb3_bool, tb3_int, tb3_str, tb3_tuple, tb3_list, tb3_Tree, tb4_NoneType, tb4_bool, tb4_int, tb4_str, tb4_tuple, tb4_list, tb4_Tree, tb5_NoneType, tb5_bool, tb5_int, tb5_str, tb5_tuple, tb5_list, tb5_Tree, tb6_NoneType, tb6_bool, tb6_int, tb6_str, tb6_tuple, tb6_list, tb6_Tree, nq_kind_children, nb_kind_children, nq_kind_size, nb_kind_size, nq_kind_depth, nb_kind_depth, nq_children_kind, nb_children_kind, nq_children_size, nb_children_size, nq_children_depth, nb_children_depth, nq_size_kind, nb_size_kind, nq_size_children, nb_size_children, nq_size_depth, nb_size_depth, nq_depth_kind, nb_depth_kind, nq_depth_children, nb_depth_children, nq_depth_size, nb_depth_size]
      refine tkT_of (sz_of (by rw [List.length_map]; omega)) ?_
      exact fin _ s2 (.tree tr) h2 _ _ _
    · simp only [↓kn_q, ↓kn_e, ↓kq_q, ↓kp_p, ↓ps_nx, ↓ps_rt, ↓ps_bk, ↓ps_ct, ↓ps_ex, ↓tkV_val, ↓tkV_own, ↓tkVR_val, ↓tkVR_own, ↓tkO_own, ↓tkA_val, ↓tkB_bl, ↓tkI_int, ↓tkStr_str, ↓tkC_obj, ↓tkSm_some, ↓tkSm_map, ↓tkSm_bind, ↓tkSm_ite, ↓tkP_t, ↓tkIf_t, ↓tkIf_f, ↓tkT_t, ↓tk_ok, ↓tk_exc, ↓tk_bind, ↓tk_lift, ↓tks_nx, ↓tks_rt, ↓tks_eS, ↓tks_seq, ↓tks_next, ↓tks_brk, ↓tks_cnt, ↓tks_drop, ↓tks_ret, ↓tks_retN, ↓tks_if, ↓tks_frz, ↓tks_set, ↓tks_setO, ↓tks_par, ↓tks_mut, ↓tks_app, ↓tks_store, ↓tks_fld, ↓tks_aug, ↓tks_for, ↓tks_for0, ↓tk_var, ↓tk_varR, ↓tk_c, ↓tk_bin, ↓tk_test, ↓tk_tnot, ↓tk_yes, ↓tk_tand, ↓tk_tor, ↓tk_call, ↓tk_fn, ↓tk_mkF, ↓tk_nil, ↓tk_cons, ↓tk_attr, ↓tk_meth, ↓tk_xif, ↓tk_seqI, ↓tk_enum, ↓tk_rng1, ↓tk_rng2, ↓tk_loc, ↓tk_lc, ↓tk_neg, ↓tk_no, ↓tk_part, ↓tk_sl, ↓tk_xsNil, ↓tk_xsV, ↓tk_xsO, ↓tk_xnot, ↓tk_xand, ↓tk_xor, ↓tk_lst, ↓tk_tup, ↓tk_sz, ↓tk_chain, ↓tk_s1, ↓tk_maxDf, ↓tk_star, List.getElem?_cons_zero, List.getElem?_cons_succ, List.set_cons_zero, List.set_cons_succ, List.map_cons, List.map_nil, List.cons_append, List.nil_append, List.append_assoc, tkJ_own, frzG, putS, wipeG, pVar, pTup, psCons, psNil, atD, ixD_lst, ixD_tup, ixD_scr, at_0, at_1, at_2, at_3, at_4, at_5, at_6, at_7, lenD, intC, absC, max2C, min2C, addD, intD, cmpD, yesC, slD, seqD, enumD, stD, sumC, allC, anyC, tupC, maxC, Option.bind_some, Option.map_some, List.lookup_cons, List.lookup_nil, List.length_cons, List.length_nil, Bool.not_true, Bool.not_false, Bool.and_self, Bool.true_and, Bool.and_true, Bool.false_and, Bool.and_false, Bool.or_true, Bool.true_or, Bool.false_or, Bool.or_false, reduceIte, decide_true, decide_false, if_true, if_false, List.replicate_succ, List.replicate_zero, Nat.reduceAdd, Nat.reduceSub, Nat.zero_add, List.mem_cons, List.not_mem_nil, or_false, false_or, not_false_eq_true, reduceCtorEq, ne_eq, and_self, and_true, true_and, Nat.reduceLT, Nat.reduceLeDiff, beq_self_eq_true, Nat.reduceEqDiff, Nat.add_one_ne_zero, modC, divC, mulC, powC, Int.reduceLT, Int.reduceLE, Int.reduceNeg, Int.reducePow, Int.reduceToNat, Int.reduceEq, Nat.reducePow, Int.zero_add, eqL, eqD, eqB, neD, isD, sz_0, sz_1, sz_2, sz_3, sz_4, sz_5, sz_6, sz_7, sz_8, sz_9, sz_10, sz_11, sz_12, sz_13, sz_14, sz_15, sz_16, sz_17, sz_18, sz_19, sz_20, sz_21, sz_22, sz_23, sz_24, sz_25, sz_26, sz_27, sz_28, sz_29, sz_30, nc_0, nc_1, nc_2, nc_3, nc_4, nc_5, nc_6, nc_7, nc_8, nc_9, nc_10, nc_11, nc_12, nc_13, nc_14, nc_15, nc_16, nc_17, nc_18, nc_19, nc_20, nc_21, nc_22, nc_23, nc_24, nc_25, nc_26, nc_27, nc_28, nc_29, nc_30, isiT, isiK, isiC, isiM, tyNames, tagD, tb0_NoneType, tb0_bool, tb0_int, tb0_str, tb0_tuple, tb0_list, tb0_Tree, tb1_NoneType, tb1_bool, tb1_int, tb1_str, tb1_tuple, tb1_list, tb1_Tree, tb2_NoneType, tb2_bool, tb2_int, tb2_str, tb2_tuple, tb2_list, tb2_Tree, tb3_NoneType, tb3_bool, tb3_int, tb3_str, tb3_tuple, tb3_list, tb3_Tree, tb4_NoneType, tb4_bool, tb4_int, tb4_str, tb4_tuple, tb4_list, tb4_Tree, tb5_NoneType, tb5_bool, tb5_int, tb5_str, tb5_tuple, tb5_list, tb5_Tree, tb6_NoneType, tb6_bool, tb6_int, tb6_str, tb6_tuple, tb6_list, tb6_Tree, nq_kind_children, nb_kind_children, nq_kind_size, nb_kind_size, nq_kind_depth, nb_kind_depth, nq_children_kind, nb_children_kind, nq_children_size, nb_children_size, nq_children_depth, nb_children_depth, nq_size_kind, nb_size_kind, nq_size_children, nb_size_children, nq_size_depth, nb_size_depth, nq_depth_kind, nb_depth_kind, nq_depth_children, nb_depth_children, nq_depth_size, nb_depth_size]
      refine tkT_of (sz_of (by rw [List.length_map]; omega)) ?_
      simp only [↓kn_q, ↓kn_e, ↓kq_q, ↓kp_p, ↓ps_nx, ↓ps_rt, ↓ps_bk, ↓ps_ct, ↓ps_ex, ↓tkV_val, ↓tkV_own, ↓tkVR_val, ↓tkVR_own, ↓tkO_own, ↓tkA_val, ↓tkB_bl, ↓tkI_int, ↓tkStr_str, ↓tkC_obj, ↓tkSm_some, ↓tkSm_map, ↓tkSm_bind, ↓tkSm_ite, ↓tkP_t, ↓tkIf_t, ↓tkIf_f, ↓tkT_t, ↓tk_ok, ↓tk_exc, ↓tk_bind, ↓tk_lift, ↓tks_nx, ↓tks_rt, ↓tks_eS, ↓tks_seq, ↓tks_next, ↓tks_brk, ↓tks_cnt, ↓tks_drop, ↓tks_ret, ↓tks_retN, ↓tks_if, ↓tks_frz, ↓tks_set, ↓tks_setO, ↓tks_par, ↓tks_mut, ↓tks_app, ↓tks_store, ↓tks_fld, ↓tks_aug, ↓tks_for, ↓tks_for0, ↓tk_var, ↓tk_varR, ↓tk_c, ↓tk_bin, ↓tk_test, ↓tk_tnot, ↓tk_yes, ↓tk_tand, ↓tk_tor, ↓tk_call, ↓tk_fn, ↓tk_mkF, ↓tk_nil, ↓tk_cons, ↓tk_attr, ↓tk_meth, ↓tk_xif, ↓tk_seqI, ↓tk_enum, ↓tk_rng1, ↓tk_rng2, ↓tk_loc, ↓tk_lc, ↓tk_neg, ↓tk_no, ↓tk_part, ↓tk_sl, ↓tk_xsNil, ↓tk_xsV, ↓tk_xsO, ↓tk_xnot, ↓tk_xand, ↓tk_xor, ↓tk_lst, ↓tk_tup, ↓tk_sz, ↓tk_chain, ↓tk_s1, ↓tk_maxDf, ↓tk_star, List.getElem?_cons_zero, List.getElem?_cons_succ, List.set_cons_zero, List.set_cons_succ, List.map_cons, List.map_nil, List.cons_append, List.nil_append, List.append_assoc, tkJ_own, frzG, putS, wipeG, pVar, pTup, psCons, psNil, atD, ixD_lst, ixD_tup, ixD_scr, at_0, at_1, at_2, at_3, at_4, at_5, at_6, at_7, lenD, intC, absC, max2C, min2C, addD, intD, cmpD, yesC, slD, seqD, enumD, stD, sumC, allC, anyC, tupC, maxC, Option.bind_some, Option.map_some, List.lookup_cons, List.lookup_nil, List.length_cons, List.length_nil, Bool.not_true, Bool.not_false, Bool.and_self, Bool.true_and, Bool.and_true, Bool.false_and, Bool.and_false, Bool.or_true, Bool.true_or, Bool.false_or, Bool.or_false, reduceIte, decide_true, decide_false, if_true, if_false, List.replicate_succ, List.replicate_zero, Nat.reduceAdd, Nat.reduceSub, Nat.zero_add, List.mem_cons, List.not_mem_nil, or_false, false_or, not_false_eq_true, reduceCtorEq, ne_eq, and_self, and_true, true_and, Nat.reduceLT, Nat.reduceLeDiff, beq_self_eq_true, Nat.reduceEqDiff, Nat.add_one_ne_zero, modC, divC, mulC, powC, Int.reduceLT, Int.reduceLE, Int.reduceNeg, Int.reducePow, Int.reduceToNat, Int.reduceEq, Nat.reducePow, Int.zero_add, eqL, eqD, eqB, neD, isD, sz_0, sz_1, sz_2, sz_3, sz_4, sz_5, sz_6, sz_7, sz_8, sz_9, sz_10, sz_11, sz_12, sz_13, sz_14, sz_15, sz_16, sz_17, sz_18, sz_19, sz_20, sz_21, sz_22, sz_23, sz_24, sz_25, sz_26, sz_27, sz_28, sz_29, sz_30, nc_0, nc_1, nc_2, nc_3, nc_4, nc_5, nc_6, nc_7, nc_8, nc_9, nc_10, nc_11, nc_12, nc_13, nc_14, nc_15, nc_16, nc_17, nc_18, nc_19, nc_20, nc_21, nc_22, nc_23, nc_24, nc_25, nc_26, nc_27, nc_28, nc_29, nc_30, isiT, isiK, isiC, isiM, tyNames, tagD, tb0_NoneType, tb0_bool, tb0_int, tb0_str, tb0_tuple, tb0_list, tb0_Tree, tb1_NoneType, tb1_bool, tb1_int, tb1_str, tb1_tuple, tb1_list, tb1_Tree, tb2_NoneType, tb2_bool, tb2_int, tb2_str, tb2_tuple, tb2_list, tb2_Tree, tb3_NoneType, tb3_bool, tb3_int, tb3_str, tb3_tuple, tb3_list, tb3_Tree, tb4_NoneType, tb4_bool, tb4_int, tb4_str, tb4_tuple, tb4_list, tb4_Tree, tb5_NoneType, tb5_bool, tb5_int, tb5_str, tb5_tuple, tb5_list, tb5_Tree, tb6_NoneType, tb6_bool, tb6_int, tb6_str, tb6_tuple, tb6_list, tb6_Tree, nq_kind_children, nb_kind_children, nq_kind_size, nb_kind_size, nq_kind_depth, nb_kind_depth, nq_children_kind, nb_children_kind, nq_children_size, nb_children_size, nq_children_depth, nb_children_depth, nq_size_kind, nb_size_kind, nq_size_children, nb_size_children, nq_size_depth, nb_size_depth, nq_depth_kind, nb_depth_kind, nq_depth_children, nb_depth_children, nq_depth_size, nb_depth_size]
      refine tkT_of (sz_of (by rw [List.length_map]; omega)) ?_
      exact fin _ s2 (.lst (xs := [pk tb k]) (by simpa using tr) (by simp)) h2 _ _ _
    · simp only [↓kn_q, ↓kn_e, ↓kq_q, ↓kp_p, ↓ps_nx, ↓ps_rt, ↓ps_bk, ↓ps_ct, ↓ps_ex, ↓tkV_val, ↓tkV_own, ↓tkVR_val, ↓tkVR_own, ↓tkO_own, ↓tkA_val, ↓tkB_bl, ↓tkI_int, ↓tkStr_str, ↓tkC_obj, ↓tkSm_some, ↓tkSm_map, ↓tkSm_bind, ↓tkSm_ite, ↓tkP_t, ↓tkIf_t, ↓tkIf_f, ↓tkT_t, ↓tk_ok, ↓tk_exc, ↓tk_bind, ↓tk_lift, ↓tks_nx, ↓tks_rt, ↓tks_eS, ↓tks_seq, ↓tks_next, ↓tks_brk, ↓tks_cnt, ↓tks_drop, ↓tks_ret, ↓tks_retN, ↓tks_if, ↓tks_frz, ↓tks_set, ↓tks_setO, ↓tks_par, ↓tks_mut, ↓tks_app, ↓tks_store, ↓tks_fld, ↓tks_aug, ↓tks_for, ↓tks_for0, ↓tk_var, ↓tk_varR, ↓tk_c, ↓tk_bin, ↓tk_test, ↓tk_tnot, ↓tk_yes, ↓tk_tand, ↓tk_tor, ↓tk_call, ↓tk_fn, ↓tk_mkF, ↓tk_nil, ↓tk_cons, ↓tk_attr, ↓tk_meth, ↓tk_xif, ↓tk_seqI, ↓tk_enum, ↓tk_rng1, ↓tk_rng2, ↓tk_loc, ↓tk_lc, ↓tk_neg, ↓tk_no, ↓tk_part, ↓tk_sl, ↓tk_xsNil, ↓tk_xsV, ↓tk_xsO, ↓tk_xnot, ↓tk_xand, ↓tk_xor, ↓tk_lst, ↓tk_tup, ↓tk_sz, ↓tk_chain, ↓tk_s1, ↓tk_maxDf, ↓tk_star, List.getElem?_cons_zero, List.getElem?_cons_succ, List.set_cons_zero, List.set_cons_succ, List.map_cons, List.map_nil, List.cons_append, List.nil_append, List.append_assoc, tkJ_own, frzG, putS, wipeG, pVar, pTup, psCons, psNil, atD, ixD_lst, ixD_tup, ixD_scr, at_0, at_1, at_2, at_3, at_4, at_5, at_6, at_7, lenD, intC, absC, max2C, min2C, addD, intD, cmpD, yesC, slD, seqD, enumD, stD, sumC, allC, anyC, tupC, maxC, Option.bind_some, Option.map_some, List.lookup_cons, List.lookup_nil, List.length_cons, List.length_nil, Bool.not_true, Bool.not_false, Bool.and_self, Bool.true_and, Bool.and_true, Bool.false_and, Bool.and_false, Bool.or_true, Bool.true_or, Bool.false_or, Bool.or_false, reduceIte, decide_true, decide_false, if_true, if_false, List.replicate_succ, List.replicate_zero, Nat.reduceAdd, Nat.reduceSub, Nat.zero_add, List.mem_cons, List.not_mem_nil, or_false, false_or, not_false_eq_true, reduceCtorEq, ne_eq, and_self, and_true, true_and, Nat.reduceLT, Nat.reduceLeDiff, beq_self_eq_true, Nat.reduceEqDiff, Nat.add_one_ne_zero, modC, divC, mulC, powC, Int.reduceLT, Int.reduceLE, Int.reduceNeg, Int.reducePow, Int.reduceToNat, Int.reduceEq, Nat.reducePow, Int.zero_add, eqL, eqD, eqB, neD, isD, sz_0, sz_1, sz_2, sz_3, sz_4, sz_5, sz_6, sz_7, sz_8, sz_9, sz_10, sz_11, sz_12, sz_13, sz_14, sz_15, sz_16, sz_17, sz_18, sz_19, sz_20, sz_21, sz_22, sz_23, sz_24, sz_25, sz_26, sz_27, sz_28, sz_29, sz_30, nc_0, nc_1, nc_2, nc_3, nc_4, nc_5, nc_6, nc_7, nc_8, nc_9, nc_10, nc_11, nc_12, nc_13, nc_14, nc_15, nc_16, nc_17, nc_18, nc_19, nc_20, nc_21, nc_22, nc_23, nc_24, nc_25, nc_26, nc_27, nc_28, nc_29, nc_30, isiT, isiK, isiC, isiM, tyNames, tagD, tb0_NoneType, tb0_bool, tb0_int, tb0_str, tb0_tuple, tb0_list, tb0_Tree, tb1_NoneType, tb1_bool, tb1_int, tb1_str, tb1_tuple, tb1_list, tb1_Tree, tb2_NoneType, tb2_bool, tb2_int, tb2_str, tb2_tuple, tb2_list, tb2_Tree, tb3_NoneType, tb3_bool, tb3_int, tb3_str, tb3_tuple, tb3_list, tb3_Tree, tb4_NoneType, tb4_bool, tb4_int, tb4_str, tb4_tuple, tb4_list, tb4_Tree, tb5_NoneType, tb5_bool, tb5_int, tb5_str, tb5_tuple, tb5_list, tb5_Tree, tb6_NoneType, tb6_bool, tb6_int, tb6_str, tb6_tuple, tb6_list, tb6_Tree, nq_kind_children, nb_kind_children, nq_kind_size, nb_kind_size, nq_kind_depth, nb_kind_depth, nq_children_kind, nb_children_kind, nq_children_size, nb_children_size, nq_children_depth, nb_children_depth, nq_size_kind, nb_size_kind, nq_size_children, nb_size_children, nq_size_depth, nb_size_depth, nq_depth_kind, nb_depth_kind, nq_depth_children, nb_depth_children, nq_depth_size, nb_depth_size]
      refine tkT_of (sz_of (by rw [List.length_map]; omega)) ?_
      simp only [↓kn_q, ↓kn_e, ↓kq_q, ↓kp_p, ↓ps_nx, ↓ps_rt, ↓ps_bk, ↓ps_ct, ↓ps_ex, ↓tkV_val, ↓tkV_own, ↓tkVR_val, ↓tkVR_own, ↓tkO_own, ↓tkA_val, ↓tkB_bl, ↓tkI_int, ↓tkStr_str, ↓tkC_obj, ↓tkSm_some, ↓tkSm_map, ↓tkSm_bind, ↓tkSm_ite, ↓tkP_t, ↓tkIf_t, ↓tkIf_f, ↓tkT_t, ↓tk_ok, ↓tk_exc, ↓tk_bind, ↓tk_lift, ↓tks_nx, ↓tks_rt, ↓tks_eS, ↓tks_seq, ↓tks_next, ↓tks_brk, ↓tks_cnt, ↓tks_drop, ↓tks_ret, ↓tks_retN, ↓tks_if, ↓tks_frz, ↓tks_set, ↓tks_setO, ↓tks_par, ↓tks_mut, ↓tks_app, ↓tks_store, ↓tks_fld, ↓tks_aug, ↓tks_for, ↓tks_for0, ↓tk_var, ↓tk_varR, ↓tk_c, ↓tk_bin, ↓tk_test, ↓tk_tnot, ↓tk_yes, ↓tk_tand, ↓tk_tor, ↓tk_call, ↓tk_fn, ↓tk_mkF, ↓tk_nil, ↓tk_cons, ↓tk_attr, ↓tk_meth, ↓tk_xif, ↓tk_seqI, ↓tk_enum, ↓tk_rng1, ↓tk_rng2, ↓tk_loc, ↓tk_lc, ↓tk_neg, ↓tk_no, ↓tk_part, ↓tk_sl, ↓tk_xsNil, ↓tk_xsV, ↓tk_xsO, ↓tk_xnot, ↓tk_xand, ↓tk_xor, ↓tk_lst, ↓tk_tup, ↓tk_sz, ↓tk_chain, ↓tk_s1, ↓tk_maxDf, ↓tk_star, List.getElem?_cons_zero, List.getElem?_cons_succ, List.set_cons_zero, List.set_cons_succ, List.map_cons, List.map_nil, List.cons_append, List.nil_append, List.append_assoc, tkJ_own, frzG, putS, wipeG, pVar, pTup, psCons, psNil, atD, ixD_lst, ixD_tup, ixD_scr, at_0, at_1, at_2, at_3, at_4, at_5, at_6, at_7, lenD, intC, absC, max2C, min2C, addD, intD, cmpD, yesC, slD, seqD, enumD, stD, sumC, allC, anyC, tupC, maxC, Option.bind_some, Option.map_some, List.lookup_cons, List.lookup_nil, List.length_cons, List.length_nil, Bool.not_true, Bool.not_false, Bool.and_self, Bool.true_and, Bool.and_true, Bool.false_and, Bool.and_false, Bool.or_true, Bool.true_or, Bool.false_or, Bool.or_false, reduceIte, decide_true, decide_false, if_true, if_false, List.replicate_succ, List.replicate_zero, Nat.reduceAdd, Nat.reduceSub, Nat.zero_add, List.mem_cons, List.not_mem_nil, or_false, false_or, not_false_eq_true, reduceCtorEq, ne_eq, and_self, and_true, true_and, Nat.reduceLT, Nat.reduceLeDiff, beq_self_eq_true, Nat.reduceEqDiff, Nat.add_one_ne_zero, modC, divC, mulC, powC, Int.reduceLT, Int.reduceLE, Int.reduceNeg, Int.reducePow, Int.reduceToNat, Int.reduceEq, Nat.reducePow, Int.zero_add, eqL, eqD, eqB, neD, isD, sz_0, sz_1, sz_2, sz_3, sz_4, sz_5, sz_6, sz_7, sz_8, sz_9, sz_10, sz_11, sz_12, sz_13, sz_14, sz_15, sz_16, sz_17, sz_18, sz_19, sz_20, sz_21, sz_22, sz_23, sz_24, sz_25, sz_26, sz_27, sz_28, sz_29, sz_30, nc_0, nc_1, nc_2, nc_3, nc_4, nc_5, nc_6, nc_7, nc_8, nc_9, nc_10, nc_11, nc_12, nc_13, nc_14, nc_15, nc_16, nc_17, nc_18, nc_19, nc_20, nc_21, nc_22, nc_23, nc_24, nc_25, nc_26, nc_27, nc_28, nc_29, nc_30, isiT, isiK, isiC, isiM, tyNames, tagD, tb0_NoneType, tb0_bool, tb0_int, tb0_str, tb0_tuple, tb0_list, tb0_Tree, tb1_NoneType, tb1_bool, tb1_int, tb1_str, tb1_tuple, tb1_list, tb1_Tree, tb2_NoneType, tb2_bool, tb2_int, tb2_str, tb2_tuple, tb2_list, tb2_Tree, tb3_NoneType, tb3_bool, tb3_int, tb3_str, tb3_tuple, tb3_list, tb3_Tree, tb4_NoneType, tb4_bool, tb4_int, tb4_str, tb4_tuple, tb4_list, tb4_Tree, tb5_NoneType, tb5_bool, tb5_int, tb5_str, tb5_tuple, tb5_list, tb5_Tree, tb6_NoneType, tb6_bool, tb6_int, tb6_str, tb6_tuple, tb6_list, tb6_Tree, nq_kind_children, nb_kind_children, nq_kind_size, nb_kind_size, nq_kind_depth, nb_kind_depth, nq_children_kind, nb_children_kind, nq_children_size, nb_children_size, nq_children_depth, nb_children_depth, nq_size_kind, nb_size_kind, nq_size_children, nb_size_children, nq_size_depth, nb_size_depth, nq_depth_kind, nb_depth_kind, nq_depth_children, nb_depth_children, nq_depth_size, nb_depth_size]
      refine tkT_of (sz_of (by rw [List.length_map]; omega)) ?_
      exact fin _ s2 (.tup (xs := [pk tb k]) (by simpa using tr) (by simp)) h2 _ _ _
  · simp only [↓kn_q, ↓kn_e, ↓kq_q, ↓kp_p, ↓ps_nx, ↓ps_rt, ↓ps_bk, ↓ps_ct, ↓ps_ex, ↓tkV_val, ↓tkV_own, ↓tkVR_val, ↓tkVR_own, ↓tkO_own, ↓tkA_val, ↓tkB_bl, ↓tkI_int, ↓tkStr_str, ↓tkC_obj, ↓tkSm_some, ↓tkSm_map, ↓tkSm_bind, ↓tkSm_ite, ↓tkP_t, ↓tkIf_t, ↓tkIf_f, ↓tkT_t, ↓tk_ok, ↓tk_exc, ↓tk_bind, ↓tk_lift, ↓tks_nx, ↓tks_rt, ↓tks_eS, ↓tks_seq, ↓tks_next, ↓tks_brk, ↓tks_cnt, ↓tks_drop, ↓tks_ret, ↓tks_retN, ↓tks_if, ↓tks_frz, ↓tks_set, ↓tks_setO, ↓tks_par, ↓tks_mut, ↓tks_app, ↓tks_store, ↓tks_fld, ↓tks_aug, ↓tks_for, ↓tks_for0, ↓tk_var, ↓tk_varR, ↓tk_c, ↓tk_bin, ↓tk_test, ↓tk_tnot, ↓tk_yes, ↓tk_tand, ↓tk_tor, ↓tk_call, ↓tk_fn, ↓tk_mkF, ↓tk_nil, ↓tk_cons, ↓tk_attr, ↓tk_meth, ↓tk_xif, ↓tk_seqI, ↓tk_enum, ↓tk_rng1, ↓tk_rng2, ↓tk_loc, ↓tk_lc, ↓tk_neg, ↓tk_no, ↓tk_part, ↓tk_sl, ↓tk_xsNil, ↓tk_xsV, ↓tk_xsO, ↓tk_xnot, ↓tk_xand, ↓tk_xor, ↓tk_lst, ↓tk_tup, ↓tk_sz, ↓tk_chain, ↓tk_s1, ↓tk_maxDf, ↓tk_star, List.getElem?_cons_zero, List.getElem?_cons_succ, List.set_cons_zero, List.set_cons_succ, List.map_cons, List.map_nil, List.cons_append, List.nil_append, List.append_assoc, tkJ_own, frzG, putS, wipeG, pVar, pTup, psCons, psNil, atD, ixD_lst, ixD_tup, ixD_scr, at_0, at_1, at_2, at_3, at_4, at_5, at_6, at_7, lenD, intC, absC, max2C, min2C, addD, intD, cmpD, yesC, slD, seqD, enumD, stD, sumC, allC, anyC, tupC, maxC, Option.bind_some, Option.map_some, List.lookup_cons, List.lookup_nil, List.length_cons, List.length_nil, Bool.not_true, Bool.not_false, Bool.and_self, Bool.true_and, Bool.and_true, Bool.false_and, Bool.and_false, Bool.or_true, Bool.true_or, Bool.false_or, Bool.or_false, reduceIte, decide_true, decide_false, if_true, if_false, List.replicate_succ, List.replicate_zero, Nat.reduceAdd, Nat.reduceSub, Nat.zero_add, List.mem_cons, List.not_mem_nil, or_false, false_or, not_false_eq_true, reduceCtorEq, ne_eq, and_self, and_true, true_and, Nat.reduceLT, Nat.reduceLeDiff, beq_self_eq_true, Nat.reduceEqDiff, Nat.add_one_ne_zero, modC, divC, mulC, powC, Int.reduceLT, Int.reduceLE, Int.reduceNeg, Int.reducePow, Int.reduceToNat, Int.reduceEq, Nat.reducePow, Int.zero_add, eqL, eqD, eqB, neD, isD, sz_0, sz_1, sz_2, sz_3, sz_4, sz_5, sz_6, sz_7, sz_8, sz_9, sz_10, sz_11, sz_12, sz_13, sz_14, sz_15, sz_16, sz_17, sz_18, sz_19, sz_20, sz_21, sz_22, sz_23, sz_24, sz_25, sz_26, sz_27, sz_28, sz_29, sz_30, nc_0, nc_1, nc_2, nc_3, nc_4, nc_5, nc_6, nc_7, nc_8, nc_9, nc_10, nc_11, nc_12, nc_13, nc_14, nc_15, nc_16, nc_17, nc_18, nc_19, nc_20, nc_21, nc_22, nc_23, nc_24, nc_25, nc_26, nc_27, nc_28, nc_29, nc_30, isiT, isiK, isiC, isiM, tyNames, tagD, tb0_NoneType, tb0_bool, tb0_int, tb0_str, tb0_tuple, tb0_list, tb0_Tree, tb1_NoneType, tb1_bool, tb1_int, tb1_str, tb1_tuple, tb1_list, tb1_Tree, tb2_NoneType, tb2_bool, tb2_int, tb2_str, tb2_tuple, tb2_list, tb2_Tree, tb3_NoneType, tb3_bool, tb3_int, tb3_str, tb3_tuple, tb3_list, tb3_Tree, tb4_NoneType, tb4_bool, tb4_int, tb4_str, tb4_tuple, tb4_list, tb4_Tree, tb5_NoneType, tb5_bool, tb5_int, tb5_str, tb5_tuple, tb5_list, tb5_Tree, tb6_NoneType, tb6_bool, tb6_int, tb6_str, tb6_tuple, tb6_list, tb6_Tree, nq_kind_children, nb_kind_children, nq_kind_size, nb_kind_size, nq_kind_depth, nb_kind_depth, nq_children_kind, nb_children_kind, nq_children_size, nb_children_size, nq_children_depth, nb_children_depth, nq_size_kind, nb_size_kind, nq_size_children, nb_size_children, nq_size_depth, nb_size_depth, nq_depth_kind, nb_depth_kind, nq_depth_children, nb_depth_children, nq_depth_size, nb_depth_size]
    exact hq ps fl s2 _ _ _ hk (by omega) h2
theorem isnum_spec {i : Int} {s : S} {K : Kn D} (hq : K.q (.bl true) s) : Tk (F_zlawzisznumber [.int i, .int i] s) := by
  unfold F_zlawzisznumber
  refine tin_runF rfl ?_
  unfold m_zlawzisznumber
  simp only [↓kn_q, ↓kn_e, ↓kq_q, ↓kp_p, ↓ps_nx, ↓ps_rt, ↓ps_bk, ↓ps_ct, ↓ps_ex, ↓tkV_val, ↓tkV_own, ↓tkVR_val, ↓tkVR_own, ↓tkO_own, ↓tkA_val, ↓tkB_bl, ↓tkI_int, ↓tkStr_str, ↓tkC_obj, ↓tkSm_some, ↓tkSm_map, ↓tkSm_bind, ↓tkSm_ite, ↓tkP_t, ↓tkIf_t, ↓tkIf_f, ↓tkT_t, ↓tk_ok, ↓tk_exc, ↓tk_bind, ↓tk_lift, ↓tks_nx, ↓tks_rt, ↓tks_eS, ↓tks_seq, ↓tks_next, ↓tks_brk, ↓tks_cnt, ↓tks_drop, ↓tks_ret, ↓tks_retN, ↓tks_if, ↓tks_frz, ↓tks_set, ↓tks_setO, ↓tks_par, ↓tks_mut, ↓tks_app, ↓tks_store, ↓tks_fld, ↓tks_aug, ↓tks_for, ↓tks_for0, ↓tk_var, ↓tk_varR, ↓tk_c, ↓tk_bin, ↓tk_test, ↓tk_tnot, ↓tk_yes, ↓tk_tand, ↓tk_tor, ↓tk_call, ↓tk_fn, ↓tk_mkF, ↓tk_nil, ↓tk_cons, ↓tk_attr, ↓tk_meth, ↓tk_xif, ↓tk_seqI, ↓tk_enum, ↓tk_rng1, ↓tk_rng2, ↓tk_loc, ↓tk_lc, ↓tk_neg, ↓tk_no, ↓tk_part, ↓tk_sl, ↓tk_xsNil, ↓tk_xsV, ↓tk_xsO, ↓tk_xnot, ↓tk_xand, ↓tk_xor, ↓tk_lst, ↓tk_tup, ↓tk_sz, ↓tk_chain, ↓tk_s1, ↓tk_maxDf, ↓tk_star, List.getElem?_cons_zero, List.getElem?_cons_succ, List.set_cons_zero, List.set_cons_succ, List.map_cons, List.map_nil, List.cons_append, List.nil_append, List.append_assoc, tkJ_own, frzG, putS, wipeG, pVar, pTup, psCons, psNil, atD, ixD_lst, ixD_tup, ixD_scr, at_0, at_1, at_2, at_3, at_4, at_5, at_6, at_7, lenD, intC, absC, max2C, min2C, addD, intD, cmpD, yesC, slD, seqD, enumD, stD, sumC, allC, anyC, tupC, maxC, Option.bind_some, Option.map_some, List.lookup_cons, List.lookup_nil, List.length_cons, List.length_nil, Bool.not_true, Bool.not_false, Bool.and_self, Bool.true_and, Bool.and_true, Bool.false_and, Bool.and_false, Bool.or_true, Bool.true_or, Bool.false_or, Bool.or_false, reduceIte, decide_true, decide_false, if_true, if_false, List.replicate_succ, List.replicate_zero, Nat.reduceAdd, Nat.reduceSub, Nat.zero_add, List.mem_cons, List.not_mem_nil, or_false, false_or, not_false_eq_true, reduceCtorEq, ne_eq, and_self, and_true, true_and, Nat.reduceLT, Nat.reduceLeDiff, beq_self_eq_true, Nat.reduceEqDiff, Nat.add_one_ne_zero, modC, divC, mulC, powC, Int.reduceLT, Int.reduceLE, Int.reduceNeg, Int.reducePow, Int.reduceToNat, Int.reduceEq, Nat.reducePow, Int.zero_add, eqL, eqD, eqB, neD, isD, sz_0, sz_1, sz_2, sz_3, sz_4, sz_5, sz_6, sz_7, sz_8, sz_9, sz_10, sz_11, sz_12, sz_13, sz_14, sz_15, sz_16, sz_17, sz_18, sz_19, sz_20, sz_21, sz_22, sz_23, sz_24, sz_25, sz_26, sz_27, sz_28, sz_29, sz_30, nc_0, nc_1, nc_2, nc_3, nc_4, nc_5, nc_6, nc_7, nc_8, nc_9, nc_10, nc_11, nc_12, nc_13, nc_14, nc_15, nc_16, nc_17, nc_18, nc_19, nc_20, nc_21, nc_22, nc_23, nc_24, nc_25, nc_26, nc_27, nc_28, nc_29, nc_30, isiT, isiK, isiC, isiM, tyNames, tagD, tb0_NoneType, tb0_bool, tb0_int, tb0_str, tb0_tuple, tb0_list, tb0_Tree, tb1_NoneType, tb1_bool, tb1_int, tb1_str, tb1_tuple, tb1_list, tb1_Tree, tb2_NoneType, tb2_bool, tb2_int, tb2_str, tb2_tuple, tb2_list, tb2_Tree, tb3_NoneType, tb3_bool, tb3_int, tb3_str, tb3_tuple, tb3_list, tb3_Tree, tb4_NoneType, tb4_bool, tb4_int, tb4_str, tb4_tuple, tb4_list, tb4_Tree, tb5_NoneType, tb5_bool, tb5_int, tb5_str, tb5_tuple, tb5_list, tb5_Tree, tb6_NoneType, tb6_bool, tb6_int, tb6_str, tb6_tuple, tb6_list, tb6_Tree, nq_kind_children, nb_kind_children, nq_kind_size, nb_kind_size, nq_kind_depth, nb_kind_depth, nq_children_kind, nb_children_kind, nq_children_size, nb_children_size, nq_children_depth, nb_children_depth, nq_size_kind, nb_size_kind, nq_size_children, nb_size_children, nq_size_depth, nb_size_depth, nq_depth_kind, nb_depth_kind, nq_depth_children, nb_depth_children, nq_depth_size, nb_depth_size]
  exact hq
theorem told_loop {A0 A1 A2 A3 A4 A5 A6 A7 A8 A9 A10 A12 A13 A14 A16 : Sl} {s : S} {P : Ps} : ∀ (xs : Tab) (acc : List D) (x : Sl), (∀ x ∈ xs, Tre x.1 x.2.1 x.2.2) → acc.length + xs.length ≤ 1000 →
    (∀ x, P.nx [A0, A1, A2, A3, A4, A5, A6, A7, A8, A9, A10, x, A12, A13, A14, .own (.lst (acc ++ xs.map fun x => .tup [.int x.2.1, .int x.2.2])), A16] s) →
    TkS (forL (pVar 11) L_law_2 (xs.map (·.1)) [A0, A1, A2, A3, A4, A5, A6, A7, A8, A9, A10, x, A12, A13, A14, .own (.lst acc), A16] s)
  | [], acc, x, _, _, hq => by
    have := hq x
    rw [List.map_nil, List.append_nil] at this
    rw [List.map_nil, tks_for0]
    exact this
  | y :: xs, acc, x, ht, hl, hq => by
    obtain ⟨⟨fs, e, h1, h2⟩, _⟩ := ht y List.mem_cons_self
    rw [List.length_cons] at hl
    rw [List.map_cons, tks_for1, e]
    unfold L_law_2
    simp only [↓kn_q, ↓kn_e, ↓kq_q, ↓kp_p, ↓ps_nx, ↓ps_rt, ↓ps_bk, ↓ps_ct, ↓ps_ex, ↓tkV_val, ↓tkV_own, ↓tkVR_val, ↓tkVR_own, ↓tkO_own, ↓tkA_val, ↓tkB_bl, ↓tkI_int, ↓tkStr_str, ↓tkC_obj, ↓tkSm_some, ↓tkSm_map, ↓tkSm_bind, ↓tkSm_ite, ↓tkP_t, ↓tkIf_t, ↓tkIf_f, ↓tkT_t, ↓tk_ok, ↓tk_exc, ↓tk_bind, ↓tk_lift, ↓tks_nx, ↓tks_rt, ↓tks_eS, ↓tks_seq, ↓tks_next, ↓tks_brk, ↓tks_cnt, ↓tks_drop, ↓tks_ret, ↓tks_retN, ↓tks_if, ↓tks_frz, ↓tks_set, ↓tks_setO, ↓tks_par, ↓tks_mut, ↓tks_app, ↓tks_store, ↓tks_fld, ↓tks_aug, ↓tks_for, ↓tks_for0, ↓tk_var, ↓tk_varR, ↓tk_c, ↓tk_bin, ↓tk_test, ↓tk_tnot, ↓tk_yes, ↓tk_tand, ↓tk_tor, ↓tk_call, ↓tk_fn, ↓tk_mkF, ↓tk_nil, ↓tk_cons, ↓tk_attr, ↓tk_meth, ↓tk_xif, ↓tk_seqI, ↓tk_enum, ↓tk_rng1, ↓tk_rng2, ↓tk_loc, ↓tk_lc, ↓tk_neg, ↓tk_no, ↓tk_part, ↓tk_sl, ↓tk_xsNil, ↓tk_xsV, ↓tk_xsO, ↓tk_xnot, ↓tk_xand, ↓tk_xor, ↓tk_lst, ↓tk_tup, ↓tk_sz, ↓tk_chain, ↓tk_s1, ↓tk_maxDf, ↓tk_star, List.getElem?_cons_zero, List.getElem?_cons_succ, List.set_cons_zero, List.set_cons_succ, List.map_cons, List.map_nil, List.cons_append, List.nil_append, List.append_assoc, tkJ_own, frzG, putS, wipeG, pVar, pTup, psCons, psNil, atD, ixD_lst, ixD_tup, ixD_scr, at_0, at_1, at_2, at_3, at_4, at_5, at_6, at_7, lenD, intC, absC, max2C, min2C, addD, intD, cmpD, yesC, slD, seqD, enumD, stD, sumC, allC, anyC, tupC, maxC, Option.bind_some, Option.map_some, List.lookup_cons, List.lookup_nil, List.length_cons, List.length_nil, Bool.not_true, Bool.not_false, Bool.and_self, Bool.true_and, Bool.and_true, Bool.false_and, Bool.and_false, Bool.or_true, Bool.true_or, Bool.false_or, Bool.or_false, reduceIte, decide_true, decide_false, if_true, if_false, List.replicate_succ, List.replicate_zero, Nat.reduceAdd, Nat.reduceSub, Nat.zero_add, List.mem_cons, List.not_mem_nil, or_false, false_or, not_false_eq_true, reduceCtorEq, ne_eq, and_self, and_true, true_and, Nat.reduceLT, Nat.reduceLeDiff, beq_self_eq_true, Nat.reduceEqDiff, Nat.add_one_ne_zero, modC, divC, mulC, powC, Int.reduceLT, Int.reduceLE, Int.reduceNeg, Int.reducePow, Int.reduceToNat, Int.reduceEq, Nat.reducePow, Int.zero_add, eqL, eqD, eqB, neD, isD, sz_0, sz_1, sz_2, sz_3, sz_4, sz_5, sz_6, sz_7, sz_8, sz_9, sz_10, sz_11, sz_12, sz_13, sz_14, sz_15, sz_16, sz_17, sz_18, sz_19, sz_20, sz_21, sz_22, sz_23, sz_24, sz_25, sz_26, sz_27, sz_28, sz_29, sz_30, nc_0, nc_1, nc_2, nc_3, nc_4, nc_5, nc_6, nc_7, nc_8, nc_9, nc_10, nc_11, nc_12, nc_13, nc_14, nc_15, nc_16, nc_17, nc_18, nc_19, nc_20, nc_21, nc_22, nc_23, nc_24, nc_25, nc_26, nc_27, nc_28, nc_29, nc_30, isiT, isiK, isiC, isiM, tyNames, tagD, tb0_NoneType, tb0_bool, tb0_int, tb0_str, tb0_tuple, tb0_list, tb0_Tree, tb1_NoneType, tb1_bool, tb1_int, tb1_str, tb1_tuple, tb1_list, tb1_Tree, tb2_NoneType, tb2_bool, tb2_int, tb2_str, tb2_tuple, tb2_list, tb2_Tree, tb3_NoneType, tb3_bool, tb3_int, tb3_str, tb3_tuple, tb3_list, tb3_Tree, tb4_NoneType, tb4_bool, tb4_int, tb4_str, tb4_tuple, tb4_list, tb4_Tree, tb5_NoneType, tb5_bool, tb5_int, tb5_str, tb5_tuple, tb5_list, tb5_Tree, tb6_NoneType, tb6_bool, tb6_int, tb6_str, tb6_tuple, tb6_list, tb6_Tree, nq_kind_children, nb_kind_children, nq_kind_size, nb_kind_size, nq_kind_depth, nb_kind_depth, nq_children_kind, nb_children_kind, nq_children_size, nb_children_size, nq_children_depth, nb_children_depth, nq_size_kind, nb_size_kind, nq_size_children, nb_size_children, nq_size_depth, nb_size_depth, nq_depth_kind, nb_depth_kind, nq_depth_children, nb_depth_children, nq_depth_size, nb_depth_size, h1, h2]
    refine tkT_of (sz_of (by omega)) ?_
    simp only [↓kn_q, ↓kn_e, ↓kq_q, ↓kp_p, ↓ps_nx, ↓ps_rt, ↓ps_bk, ↓ps_ct, ↓ps_ex, ↓tkV_val, ↓tkV_own, ↓tkVR_val, ↓tkVR_own, ↓tkO_own, ↓tkA_val, ↓tkB_bl, ↓tkI_int, ↓tkStr_str, ↓tkC_obj, ↓tkSm_some, ↓tkSm_map, ↓tkSm_bind, ↓tkSm_ite, ↓tkP_t, ↓tkIf_t, ↓tkIf_f, ↓tkT_t, ↓tk_ok, ↓tk_exc, ↓tk_bind, ↓tk_lift, ↓tks_nx, ↓tks_rt, ↓tks_eS, ↓tks_seq, ↓tks_next, ↓tks_brk, ↓tks_cnt, ↓tks_drop, ↓tks_ret, ↓tks_retN, ↓tks_if, ↓tks_frz, ↓tks_set, ↓tks_setO, ↓tks_par, ↓tks_mut, ↓tks_app, ↓tks_store, ↓tks_fld, ↓tks_aug, ↓tks_for, ↓tks_for0, ↓tk_var, ↓tk_varR, ↓tk_c, ↓tk_bin, ↓tk_test, ↓tk_tnot, ↓tk_yes, ↓tk_tand, ↓tk_tor, ↓tk_call, ↓tk_fn, ↓tk_mkF, ↓tk_nil, ↓tk_cons, ↓tk_attr, ↓tk_meth, ↓tk_xif, ↓tk_seqI, ↓tk_enum, ↓tk_rng1, ↓tk_rng2, ↓tk_loc, ↓tk_lc, ↓tk_neg, ↓tk_no, ↓tk_part, ↓tk_sl, ↓tk_xsNil, ↓tk_xsV, ↓tk_xsO, ↓tk_xnot, ↓tk_xand, ↓tk_xor, ↓tk_lst, ↓tk_tup, ↓tk_sz, ↓tk_chain, ↓tk_s1, ↓tk_maxDf, ↓tk_star, List.getElem?_cons_zero, List.getElem?_cons_succ, List.set_cons_zero, List.set_cons_succ, List.map_cons, List.map_nil, List.cons_append, List.nil_append, List.append_assoc, tkJ_own, frzG, putS, wipeG, pVar, pTup, psCons, psNil, atD, ixD_lst, ixD_tup, ixD_scr, at_0, at_1, at_2, at_3, at_4, at_5, at_6, at_7, lenD, intC, absC, max2C, min2C, addD, intD, cmpD, yesC, slD, seqD, enumD, stD, sumC, allC, anyC, tupC, maxC, Option.bind_some, Option.map_some, List.lookup_cons, List.lookup_nil, List.length_cons, List.length_nil, Bool.not_true, Bool.not_false, Bool.and_self, Bool.true_and, Bool.and_true, Bool.false_and, Bool.and_false, Bool.or_true, Bool.true_or, Bool.false_or, Bool.or_false, reduceIte, decide_true, decide_false, if_true, if_false, List.replicate_succ, List.replicate_zero, Nat.reduceAdd, Nat.reduceSub, Nat.zero_add, List.mem_cons, List.not_mem_nil, or_false, false_or, not_false_eq_true, reduceCtorEq, ne_eq, and_self, and_true, true_and, Nat.reduceLT, Nat.reduceLeDiff, beq_self_eq_true, Nat.reduceEqDiff, Nat.add_one_ne_zero, modC, divC, mulC, powC, Int.reduceLT, Int.reduceLE, Int.reduceNeg, Int.reducePow, Int.reduceToNat, Int.reduceEq, Nat.reducePow, Int.zero_add, eqL, eqD, eqB, neD, isD, sz_0, sz_1, sz_2, sz_3, sz_4, sz_5, sz_6, sz_7, sz_8, sz_9, sz_10, sz_11, sz_12, sz_13, sz_14, sz_15, sz_16, sz_17, sz_18, sz_19, sz_20, sz_21, sz_22, sz_23, sz_24, sz_25, sz_26, sz_27, sz_28, sz_29, sz_30, nc_0, nc_1, nc_2, nc_3, nc_4, nc_5, nc_6, nc_7, nc_8, nc_9, nc_10, nc_11, nc_12, nc_13, nc_14, nc_15, nc_16, nc_17, nc_18, nc_19, nc_20, nc_21, nc_22, nc_23, nc_24, nc_25, nc_26, nc_27, nc_28, nc_29, nc_30, isiT, isiK, isiC, isiM, tyNames, tagD, tb0_NoneType, tb0_bool, tb0_int, tb0_str, tb0_tuple, tb0_list, tb0_Tree, tb1_NoneType, tb1_bool, tb1_int, tb1_str, tb1_tuple, tb1_list, tb1_Tree, tb2_NoneType, tb2_bool, tb2_int, tb2_str, tb2_tuple, tb2_list, tb2_Tree, tb3_NoneType, tb3_bool, tb3_int, tb3_str, tb3_tuple, tb3_list, tb3_Tree, tb4_NoneType, tb4_bool, tb4_int, tb4_str, tb4_tuple, tb4_list, tb4_Tree, tb5_NoneType, tb5_bool, tb5_int, tb5_str, tb5_tuple, tb5_list, tb5_Tree, tb6_NoneType, tb6_bool, tb6_int, tb6_str, tb6_tuple, tb6_list, tb6_Tree, nq_kind_children, nb_kind_children, nq_kind_size, nb_kind_size, nq_kind_depth, nb_kind_depth, nq_children_kind, nb_children_kind, nq_children_size, nb_children_size, nq_children_depth, nb_children_depth, nq_size_kind, nb_size_kind, nq_size_children, nb_size_children, nq_size_depth, nb_size_depth, nq_depth_kind, nb_depth_kind, nq_depth_children, nb_depth_children, nq_depth_size, nb_depth_size]
    refine told_loop xs _ _ (fun z hz => ht z (List.mem_cons_of_mem _ hz)) (by simp; omega) fun x => ?_
    have := hq x
    rw [List.map_cons] at this
    simpa using this
theorem maxI_ge : ∀ (l : List Int) (a : Int), a ≤ l.foldl (fun m j => if m < j then j else m) a
  | [], a => Int.le_refl a
  | b :: l, a => by
    rw [List.foldl_cons]
    have := maxI_ge l (if a < b then b else a)
    split at this <;> split <;> omega
theorem ne_int {i j : Int} : neD (.int i) (.int j) = some (.bl (!decide (i = j))) := rfl
theorem maxI_zero {ns : List Int} (h : ∀ x ∈ ns, 0 ≤ x) : maxI (ns ++ [0]) = some (mx ns) := by
  cases ns with
  | nil => rfl
  | cons n ns =>
    have ge : ∀ (l : List Int) (a : Int), a ≤ l.foldl (fun m j => if m < j then j else m) a := by
      intro l
      induction l with
      | nil => intro a; exact Int.le_refl a
      | cons b l ih =>
        intro a
        rw [List.foldl_cons]
        have := ih (if a < b then b else a)
        split at this <;> split <;> omega
    have h0 := h n List.mem_cons_self
    have := ge ns n
    simp only [List.cons_append, maxI, List.foldl_append, List.foldl_cons, List.foldl_nil, mx, reduceCtorEq, if_false, Option.getD_some]
    rw [if_neg (by omega)]
theorem toP_pairs : ∀ xs : Tab, toPs (xs.map fun x => .tup [.int x.2.1, .int x.2.2]) = some (xs.map fun x => .tuple [.int x.2.1, .int x.2.2])
  | [] => by simp [toPs]
  | x :: xs => by simp [toPs, toP, toP_pairs xs]
theorem lay_pairs : ∀ xs : Tab, PyData.canLayAll0 (xs.map fun x => .tuple [.int x.2.1, .int x.2.2]) = true
  | [] => by simp [PyData.canLayAll0]
  | x :: xs => by simp [PyData.canLayAll0, PyData.canLay0, lay_pairs xs]
theorem dep_pairs : ∀ xs : Tab, PyData.depthAll (xs.map fun x => .tuple [.int x.2.1, .int x.2.2]) ≤ 1
  | [] => by simp [PyData.depthAll]
  | x :: xs => by
    have := dep_pairs xs
    simp [PyData.depthAll, PyData.depth]
    exact Nat.max_le.mpr ⟨Nat.le_refl 1, this⟩
theorem ne_pairs (xs : Tab) : neD (.lst (xs.map fun x => .tup [.int x.2.1, .int x.2.2])) (.lst (xs.map fun x => .tup [.int x.2.1, .int x.2.2])) = some (.bl false) := by
  have hc : PyData.canLay0 (.list (xs.map fun x => .tuple [.int x.2.1, .int x.2.2])) = true := by
    simp only [PyData.canLay0]
    exact lay_pairs xs
  have hs : SeqAt.shaped (.list (xs.map fun x => .tuple [.int x.2.1, .int x.2.2])) = true := by
    unfold SeqAt.shaped
    have := dep_pairs xs
    rw [hc, Bool.true_and, decide_eq_true_eq, PyData.depth]
    omega
  simp only [neD, eqB, toP, toP_pairs, Option.map_some, Option.bind_some, hs, and_self, if_true, SeqAt.eqv_refl _ hc, Bool.not_true]
theorem ints_app0 {l : List (D × Int × Int)} (f : D × Int × Int → Int) : ints? ((l.map fun x => .int (f x)) ++ [.int 0]) = some (l.map f ++ [0]) := by
  have : ((l.map fun x => D.int (f x)) ++ [.int 0]) = (l.map f ++ [0]).map .int := by simp
  rw [this, ints_map]
theorem at_app {tb : Tab} {f : D × Int × Int → D} {i : Nat} {x : D} (h : i < tb.length) : atI (tb.map f ++ [x]) (i : Int) = some (f (pk tb i)) := by
  rw [Qd.atI_nat (by simp; omega)]
  have h2 : i < (tb.map f).length := by simpa using h
  rw [List.getElem_append_left h2]
  simp [pk, h]
theorem level_spec {A0 A1 : Sl} {n : Nat} {tags : List D} {tb : Tab} {x4 x5 x9 x10 x11 x12 x13 x14 x15 x16 : Sl} {s : S} {P : Ps} (ht : TbOk tb) (h99 : tb.length ≤ 90) (hg : ∀ y ∈ tags, ∃ t, y = .str t ∧ Nm t) (hg3 : tags.length = 3) (hb : Bg s n)
    (hq : ∀ tb' s' x5 x9 x10 x11 x12 x13 x14 x15 x16, TbOk tb' → tb'.length = tb.length + 1 → Bg s' n → P.nx [A0, A1, .val (.loc n), .val (.lst tags), x4, x5, .own (.lst (tD tb')), .own (.lst (tS tb')), .own (.lst (tH tb')), x9, x10, x11, x12, x13, x14, x15, x16] s') :
    TkS (L_law_3 [A0, A1, .val (.loc n), .val (.lst tags), x4, x5, .own (.lst (tD tb)), .own (.lst (tS tb)), .own (.lst (tH tb)), x9, x10, x11, x12, x13, x14, x15, x16] s) := by
  unfold L_law_3
  simp only [↓kn_q, ↓kn_e, ↓kq_q, ↓kp_p, ↓ps_nx, ↓ps_rt, ↓ps_bk, ↓ps_ct, ↓ps_ex, ↓tkV_val, ↓tkV_own, ↓tkVR_val, ↓tkVR_own, ↓tkO_own, ↓tkA_val, ↓tkB_bl, ↓tkI_int, ↓tkStr_str, ↓tkC_obj, ↓tkSm_some, ↓tkSm_map, ↓tkSm_bind, ↓tkSm_ite, ↓tkP_t, ↓tkIf_t, ↓tkIf_f, ↓tkT_t, ↓tk_ok, ↓tk_exc, ↓tk_bind, ↓tk_lift, ↓tks_nx, ↓tks_rt, ↓tks_eS, ↓tks_seq, ↓tks_next, ↓tks_brk, ↓tks_cnt, ↓tks_drop, ↓tks_ret, ↓tks_retN, ↓tks_if, ↓tks_frz, ↓tks_set, ↓tks_setO, ↓tks_par, ↓tks_mut, ↓tks_app, ↓tks_store, ↓tks_fld, ↓tks_aug, ↓tks_for, ↓tks_for0, ↓tk_var, ↓tk_varR, ↓tk_c, ↓tk_bin, ↓tk_test, ↓tk_tnot, ↓tk_yes, ↓tk_tand, ↓tk_tor, ↓tk_call, ↓tk_fn, ↓tk_mkF, ↓tk_nil, ↓tk_cons, ↓tk_attr, ↓tk_meth, ↓tk_xif, ↓tk_seqI, ↓tk_enum, ↓tk_rng1, ↓tk_rng2, ↓tk_loc, ↓tk_lc, ↓tk_neg, ↓tk_no, ↓tk_part, ↓tk_sl, ↓tk_xsNil, ↓tk_xsV, ↓tk_xsO, ↓tk_xnot, ↓tk_xand, ↓tk_xor, ↓tk_lst, ↓tk_tup, ↓tk_sz, ↓tk_chain, ↓tk_s1, ↓tk_maxDf, ↓tk_star, List.getElem?_cons_zero, List.getElem?_cons_succ, List.set_cons_zero, List.set_cons_succ, List.map_cons, List.map_nil, List.cons_append, List.nil_append, List.append_assoc, tkJ_own, frzG, putS, wipeG, pVar, pTup, psCons, psNil, atD, ixD_lst, ixD_tup, ixD_scr, at_0, at_1, at_2, at_3, at_4, at_5, at_6, at_7, lenD, intC, absC, max2C, min2C, addD, intD, cmpD, yesC, slD, seqD, enumD, stD, sumC, allC, anyC, tupC, maxC, Option.bind_some, Option.map_some, List.lookup_cons, List.lookup_nil, List.length_cons, List.length_nil, Bool.not_true, Bool.not_false, Bool.and_self, Bool.true_and, Bool.and_true, Bool.false_and, Bool.and_false, Bool.or_true, Bool.true_or, Bool.false_or, Bool.or_false, reduceIte, decide_true, decide_false, if_true, if_false, List.replicate_succ, List.replicate_zero, Nat.reduceAdd, Nat.reduceSub, Nat.zero_add, List.mem_cons, List.not_mem_nil, or_false, false_or, not_false_eq_true, reduceCtorEq, ne_eq, and_self, and_true, true_and, Nat.reduceLT, Nat.reduceLeDiff, beq_self_eq_true, Nat.reduceEqDiff, Nat.add_one_ne_zero, modC, divC, mulC, powC, Int.reduceLT, Int.reduceLE, Int.reduceNeg, Int.reducePow, Int.reduceToNat, Int.reduceEq, Nat.reducePow, Int.zero_add, eqL, eqD, eqB, neD, isD, sz_0, sz_1, sz_2, sz_3, sz_4, sz_5, sz_6, sz_7, sz_8, sz_9, sz_10, sz_11, sz_12, sz_13, sz_14, sz_15, sz_16, sz_17, sz_18, sz_19, sz_20, sz_21, sz_22, sz_23, sz_24, sz_25, sz_26, sz_27, sz_28, sz_29, sz_30, nc_0, nc_1, nc_2, nc_3, nc_4, nc_5, nc_6, nc_7, nc_8, nc_9, nc_10, nc_11, nc_12, nc_13, nc_14, nc_15, nc_16, nc_17, nc_18, nc_19, nc_20, nc_21, nc_22, nc_23, nc_24, nc_25, nc_26, nc_27, nc_28, nc_29, nc_30, isiT, isiK, isiC, isiM, tyNames, tagD, tb0_NoneType, tb0_bool, tb0_int, tb0_str, tb0_tuple, tb0_list, tb0_Tree, tb1_NoneType, tb1_bool, tb1_int, tb1_str, tb1_tuple, tb1_list, tb1_Tree, tb2_NoneType, tb2_bool, tb2_int, tb2_str, tb2_tuple, tb2_list, tb2_Tree, tb3_NoneType, tb3_bool, tb3_int, tb3_str, tb3_tuple, tb3_list, tb3_Tree, tb4_NoneType, tb4_bool, tb4_int, tb4_str, tb4_tuple, tb4_list, tb4_Tree, tb5_NoneType, tb5_bool, tb5_int, tb5_str, tb5_tuple, tb5_list, tb5_Tree, tb6_NoneType, tb6_bool, tb6_int, tb6_str, tb6_tuple, tb6_list, tb6_Tree, nq_kind_children, nb_kind_children, nq_kind_size, nb_kind_size, nq_kind_depth, nb_kind_depth, nq_children_kind, nb_children_kind, nq_children_size, nb_children_size, nq_children_depth, nb_children_depth, nq_size_kind, nb_size_kind, nq_size_children, nb_size_children, nq_size_depth, nb_size_depth, nq_depth_kind, nb_depth_kind, nq_depth_children, nb_depth_children, nq_depth_size, nb_depth_size]
  refine take_spec hb (by decide) (by decide) fun d s1 d0 d1 h1 => ?_
  simp only [↓kn_q, ↓kn_e, ↓kq_q, ↓kp_p, ↓ps_nx, ↓ps_rt, ↓ps_bk, ↓ps_ct, ↓ps_ex, ↓tkV_val, ↓tkV_own, ↓tkVR_val, ↓tkVR_own, ↓tkO_own, ↓tkA_val, ↓tkB_bl, ↓tkI_int, ↓tkStr_str, ↓tkC_obj, ↓tkSm_some, ↓tkSm_map, ↓tkSm_bind, ↓tkSm_ite, ↓tkP_t, ↓tkIf_t, ↓tkIf_f, ↓tkT_t, ↓tk_ok, ↓tk_exc, ↓tk_bind, ↓tk_lift, ↓tks_nx, ↓tks_rt, ↓tks_eS, ↓tks_seq, ↓tks_next, ↓tks_brk, ↓tks_cnt, ↓tks_drop, ↓tks_ret, ↓tks_retN, ↓tks_if, ↓tks_frz, ↓tks_set, ↓tks_setO, ↓tks_par, ↓tks_mut, ↓tks_app, ↓tks_store, ↓tks_fld, ↓tks_aug, ↓tks_for, ↓tks_for0, ↓tk_var, ↓tk_varR, ↓tk_c, ↓tk_bin, ↓tk_test, ↓tk_tnot, ↓tk_yes, ↓tk_tand, ↓tk_tor, ↓tk_call, ↓tk_fn, ↓tk_mkF, ↓tk_nil, ↓tk_cons, ↓tk_attr, ↓tk_meth, ↓tk_xif, ↓tk_seqI, ↓tk_enum, ↓tk_rng1, ↓tk_rng2, ↓tk_loc, ↓tk_lc, ↓tk_neg, ↓tk_no, ↓tk_part, ↓tk_sl, ↓tk_xsNil, ↓tk_xsV, ↓tk_xsO, ↓tk_xnot, ↓tk_xand, ↓tk_xor, ↓tk_lst, ↓tk_tup, ↓tk_sz, ↓tk_chain, ↓tk_s1, ↓tk_maxDf, ↓tk_star, List.getElem?_cons_zero, List.getElem?_cons_succ, List.set_cons_zero, List.set_cons_succ, List.map_cons, List.map_nil, List.cons_append, List.nil_append, List.append_assoc, tkJ_own, frzG, putS, wipeG, pVar, pTup, psCons, psNil, atD, ixD_lst, ixD_tup, ixD_scr, at_0, at_1, at_2, at_3, at_4, at_5, at_6, at_7, lenD, intC, absC, max2C, min2C, addD, intD, cmpD, yesC, slD, seqD, enumD, stD, sumC, allC, anyC, tupC, maxC, Option.bind_some, Option.map_some, List.lookup_cons, List.lookup_nil, List.length_cons, List.length_nil, Bool.not_true, Bool.not_false, Bool.and_self, Bool.true_and, Bool.and_true, Bool.false_and, Bool.and_false, Bool.or_true, Bool.true_or, Bool.false_or, Bool.or_false, reduceIte, decide_true, decide_false, if_true, if_false, List.replicate_succ, List.replicate_zero, Nat.reduceAdd, Nat.reduceSub, Nat.zero_add, List.mem_cons, List.not_mem_nil, or_false, false_or, not_false_eq_true, reduceCtorEq, ne_eq, and_self, and_true, true_and, Nat.reduceLT, Nat.reduceLeDiff, beq_self_eq_true, Nat.reduceEqDiff, Nat.add_one_ne_zero, modC, divC, mulC, powC, Int.reduceLT, Int.reduceLE, Int.reduceNeg, Int.reducePow, Int.reduceToNat, Int.reduceEq, Nat.reducePow, Int.zero_add, eqL, eqD, eqB, neD, isD, sz_0, sz_1, sz_2, sz_3, sz_4, sz_5, sz_6, sz_7, sz_8, sz_9, sz_10, sz_11, sz_12, sz_13, sz_14, sz_15, sz_16, sz_17, sz_18, sz_19, sz_20, sz_21, sz_22, sz_23, sz_24, sz_25, sz_26, sz_27, sz_28, sz_29, sz_30, nc_0, nc_1, nc_2, nc_3, nc_4, nc_5, nc_6, nc_7, nc_8, nc_9, nc_10, nc_11, nc_12, nc_13, nc_14, nc_15, nc_16, nc_17, nc_18, nc_19, nc_20, nc_21, nc_22, nc_23, nc_24, nc_25, nc_26, nc_27, nc_28, nc_29, nc_30, isiT, isiK, isiC, isiM, tyNames, tagD, tb0_NoneType, tb0_bool, tb0_int, tb0_str, tb0_tuple, tb0_list, tb0_Tree, tb1_NoneType, tb1_bool, tb1_int, tb1_str, tb1_tuple, tb1_list, tb1_Tree, tb2_NoneType, tb2_bool, tb2_int, tb2_str, tb2_tuple, tb2_list, tb2_Tree, tb3_NoneType, tb3_bool, tb3_int, tb3_str, tb3_tuple, tb3_list, tb3_Tree, tb4_NoneType, tb4_bool, tb4_int, tb4_str, tb4_tuple, tb4_list, tb4_Tree, tb5_NoneType, tb5_bool, tb5_int, tb5_str, tb5_tuple, tb5_list, tb5_Tree, tb6_NoneType, tb6_bool, tb6_int, tb6_str, tb6_tuple, tb6_list, tb6_Tree, nq_kind_children, nb_kind_children, nq_kind_size, nb_kind_size, nq_kind_depth, nb_kind_depth, nq_children_kind, nb_children_kind, nq_children_size, nb_children_size, nq_children_depth, nb_children_depth, nq_size_kind, nb_size_kind, nq_size_children, nb_size_children, nq_size_depth, nb_size_depth, nq_depth_kind, nb_depth_kind, nq_depth_children, nb_depth_children, nq_depth_size, nb_depth_size]
  refine trng1_of (by omega) (by omega) ?_
  simp only [↓kn_q, ↓kn_e, ↓kq_q, ↓kp_p, ↓ps_nx, ↓ps_rt, ↓ps_bk, ↓ps_ct, ↓ps_ex, ↓tkV_val, ↓tkV_own, ↓tkVR_val, ↓tkVR_own, ↓tkO_own, ↓tkA_val, ↓tkB_bl, ↓tkI_int, ↓tkStr_str, ↓tkC_obj, ↓tkSm_some, ↓tkSm_map, ↓tkSm_bind, ↓tkSm_ite, ↓tkP_t, ↓tkIf_t, ↓tkIf_f, ↓tkT_t, ↓tk_ok, ↓tk_exc, ↓tk_bind, ↓tk_lift, ↓tks_nx, ↓tks_rt, ↓tks_eS, ↓tks_seq, ↓tks_next, ↓tks_brk, ↓tks_cnt, ↓tks_drop, ↓tks_ret, ↓tks_retN, ↓tks_if, ↓tks_frz, ↓tks_set, ↓tks_setO, ↓tks_par, ↓tks_mut, ↓tks_app, ↓tks_store, ↓tks_fld, ↓tks_aug, ↓tks_for, ↓tks_for0, ↓tk_var, ↓tk_varR, ↓tk_c, ↓tk_bin, ↓tk_test, ↓tk_tnot, ↓tk_yes, ↓tk_tand, ↓tk_tor, ↓tk_call, ↓tk_fn, ↓tk_mkF, ↓tk_nil, ↓tk_cons, ↓tk_attr, ↓tk_meth, ↓tk_xif, ↓tk_seqI, ↓tk_enum, ↓tk_rng1, ↓tk_rng2, ↓tk_loc, ↓tk_lc, ↓tk_neg, ↓tk_no, ↓tk_part, ↓tk_sl, ↓tk_xsNil, ↓tk_xsV, ↓tk_xsO, ↓tk_xnot, ↓tk_xand, ↓tk_xor, ↓tk_lst, ↓tk_tup, ↓tk_sz, ↓tk_chain, ↓tk_s1, ↓tk_maxDf, ↓tk_star, List.getElem?_cons_zero, List.getElem?_cons_succ, List.set_cons_zero, List.set_cons_succ, List.map_cons, List.map_nil, List.cons_append, List.nil_append, List.append_assoc, tkJ_own, frzG, putS, wipeG, pVar, pTup, psCons, psNil, atD, ixD_lst, ixD_tup, ixD_scr, at_0, at_1, at_2, at_3, at_4, at_5, at_6, at_7, lenD, intC, absC, max2C, min2C, addD, intD, cmpD, yesC, slD, seqD, enumD, stD, sumC, allC, anyC, tupC, maxC, Option.bind_some, Option.map_some, List.lookup_cons, List.lookup_nil, List.length_cons, List.length_nil, Bool.not_true, Bool.not_false, Bool.and_self, Bool.true_and, Bool.and_true, Bool.false_and, Bool.and_false, Bool.or_true, Bool.true_or, Bool.false_or, Bool.or_false, reduceIte, decide_true, decide_false, if_true, if_false, List.replicate_succ, List.replicate_zero, Nat.reduceAdd, Nat.reduceSub, Nat.zero_add, List.mem_cons, List.not_mem_nil, or_false, false_or, not_false_eq_true, reduceCtorEq, ne_eq, and_self, and_true, true_and, Nat.reduceLT, Nat.reduceLeDiff, beq_self_eq_true, Nat.reduceEqDiff, Nat.add_one_ne_zero, modC, divC, mulC, powC, Int.reduceLT, Int.reduceLE, Int.reduceNeg, Int.reducePow, Int.reduceToNat, Int.reduceEq, Nat.reducePow, Int.zero_add, eqL, eqD, eqB, neD, isD, sz_0, sz_1, sz_2, sz_3, sz_4, sz_5, sz_6, sz_7, sz_8, sz_9, sz_10, sz_11, sz_12, sz_13, sz_14, sz_15, sz_16, sz_17, sz_18, sz_19, sz_20, sz_21, sz_22, sz_23, sz_24, sz_25, sz_26, sz_27, sz_28, sz_29, sz_30, nc_0, nc_1, nc_2, nc_3, nc_4, nc_5, nc_6, nc_7, nc_8, nc_9, nc_10, nc_11, nc_12, nc_13, nc_14, nc_15, nc_16, nc_17, nc_18, nc_19, nc_20, nc_21, nc_22, nc_23, nc_24, nc_25, nc_26, nc_27, nc_28, nc_29, nc_30, isiT, isiK, isiC, isiM, tyNames, tagD, tb0_NoneType, tb0_bool, tb0_int, tb0_str, tb0_tuple, tb0_list, tb0_Tree, tb1_NoneType, tb1_bool, tb1_int, tb1_str, tb1_tuple, tb1_list, tb1_Tree, tb2_NoneType, tb2_bool, tb2_int, tb2_str, tb2_tuple, tb2_list, tb2_Tree, tb3_NoneType, tb3_bool, tb3_int, tb3_str, tb3_tuple, tb3_list, tb3_Tree, tb4_NoneType, tb4_bool, tb4_int, tb4_str, tb4_tuple, tb4_list, tb4_Tree, tb5_NoneType, tb5_bool, tb5_int, tb5_str, tb5_tuple, tb5_list, tb5_Tree, tb6_NoneType, tb6_bool, tb6_int, tb6_str, tb6_tuple, tb6_list, tb6_Tree, nq_kind_children, nb_kind_children, nq_kind_size, nb_kind_size, nq_kind_depth, nb_kind_depth, nq_children_kind, nb_children_kind, nq_children_size, nb_children_size, nq_children_depth, nb_children_depth, nq_size_kind, nb_size_kind, nq_size_children, nb_size_children, nq_size_depth, nb_size_depth, nq_depth_kind, nb_depth_kind, nq_depth_children, nb_depth_children, nq_depth_size, nb_depth_size]
  refine tfor_inv (fun i G s => ∃ ps fl x5 x9 x11 x14, KidOk tb ps fl ∧ ps.length ≤ i ∧ Bg s n ∧ G = [A0, A1, .val (.loc n), .val (.lst tags), x4, x5, .own (.lst (tD tb)), .own (.lst (tS tb)), .own (.lst (tH tb)), x9, x10, x11, .own (.lst (ps.map (·.1))), .own (.lst (fD fl)), x14, x15, x16]) ?_ ?_ ?_
  · exact ⟨[], [], _, _, _, _, ⟨fun _ h => (List.not_mem_nil h).elim, rfl, fun _ h => (List.not_mem_nil h).elim, rfl⟩, Nat.le_refl 0, h1, rfl⟩
  · rintro i hi _ s2 ⟨ps, fl, y5, y9, y11, y14, hk, hpl, h2, rfl⟩
    rw [rngL_get hi]
    rw [rngL_len] at hi
    simp only [↓kn_q, ↓kn_e, ↓kq_q, ↓kp_p, ↓ps_nx, ↓ps_rt, ↓ps_bk, ↓ps_ct, ↓ps_ex, ↓tkV_val, ↓tkV_own, ↓tkVR_val, ↓tkVR_own, ↓tkO_own, ↓tkA_val, ↓tkB_bl, ↓tkI_int, ↓tkStr_str, ↓tkC_obj, ↓tkSm_some, ↓tkSm_map, ↓tkSm_bind, ↓tkSm_ite, ↓tkP_t, ↓tkIf_t, ↓tkIf_f, ↓tkT_t, ↓tk_ok, ↓tk_exc, ↓tk_bind, ↓tk_lift, ↓tks_nx, ↓tks_rt, ↓tks_eS, ↓tks_seq, ↓tks_next, ↓tks_brk, ↓tks_cnt, ↓tks_drop, ↓tks_ret, ↓tks_retN, ↓tks_if, ↓tks_frz, ↓tks_set, ↓tks_setO, ↓tks_par, ↓tks_mut, ↓tks_app, ↓tks_store, ↓tks_fld, ↓tks_aug, ↓tks_for, ↓tks_for0, ↓tk_var, ↓tk_varR, ↓tk_c, ↓tk_bin, ↓tk_test, ↓tk_tnot, ↓tk_yes, ↓tk_tand, ↓tk_tor, ↓tk_call, ↓tk_fn, ↓tk_mkF, ↓tk_nil, ↓tk_cons, ↓tk_attr, ↓tk_meth, ↓tk_xif, ↓tk_seqI, ↓tk_enum, ↓tk_rng1, ↓tk_rng2, ↓tk_loc, ↓tk_lc, ↓tk_neg, ↓tk_no, ↓tk_part, ↓tk_sl, ↓tk_xsNil, ↓tk_xsV, ↓tk_xsO, ↓tk_xnot, ↓tk_xand, ↓tk_xor, ↓tk_lst, ↓tk_tup, ↓tk_sz, ↓tk_chain, ↓tk_s1, ↓tk_maxDf, ↓tk_star, List.getElem?_cons_zero, List.getElem?_cons_succ, List.set_cons_zero, List.set_cons_succ, List.map_cons, List.map_nil, List.cons_append, List.nil_append, List.append_assoc, tkJ_own, frzG, putS, wipeG, pVar, pTup, psCons, psNil, atD, ixD_lst, ixD_tup, ixD_scr, at_0, at_1, at_2, at_3, at_4, at_5, at_6, at_7, lenD, intC, absC, max2C, min2C, addD, intD, cmpD, yesC, slD, seqD, enumD, stD, sumC, allC, anyC, tupC, maxC, Option.bind_some, Option.map_some, List.lookup_cons, List.lookup_nil, List.length_cons, List.length_nil, Bool.not_true, Bool.not_false, Bool.and_self, Bool.true_and, Bool.and_true, Bool.false_and, Bool.and_false, Bool.or_true, Bool.true_or, Bool.false_or, Bool.or_false, reduceIte, decide_true, decide_false, if_true, if_false, List.replicate_succ, List.replicate_zero, Nat.reduceAdd, Nat.reduceSub, Nat.zero_add, List.mem_cons, List.not_mem_nil, or_false, false_or, not_false_eq_true, reduceCtorEq, ne_eq, and_self, and_true, true_and, Nat.reduceLT, Nat.reduceLeDiff, beq_self_eq_true, Nat.reduceEqDiff, Nat.add_one_ne_zero, modC, divC, mulC, powC, Int.reduceLT, Int.reduceLE, Int.reduceNeg, Int.reducePow, Int.reduceToNat, Int.reduceEq, Nat.reducePow, Int.zero_add, eqL, eqD, eqB, neD, isD, sz_0, sz_1, sz_2, sz_3, sz_4, sz_5, sz_6, sz_7, sz_8, sz_9, sz_10, sz_11, sz_12, sz_13, sz_14, sz_15, sz_16, sz_17, sz_18, sz_19, sz_20, sz_21, sz_22, sz_23, sz_24, sz_25, sz_26, sz_27, sz_28, sz_29, sz_30, nc_0, nc_1, nc_2, nc_3, nc_4, nc_5, nc_6, nc_7, nc_8, nc_9, nc_10, nc_11, nc_12, nc_13, nc_14, nc_15, nc_16, nc_17, nc_18, nc_19, nc_20, nc_21, nc_22, nc_23, nc_24, nc_25, nc_26, nc_27, nc_28, nc_29, nc_30, isiT, isiK, isiC, isiM, tyNames, tagD, tb0_NoneType, tb0_bool, tb0_int, tb0_str, tb0_tuple, tb0_list, tb0_Tree, tb1_NoneType, tb1_bool, tb1_int, tb1_str, tb1_tuple, tb1_list, tb1_Tree, tb2_NoneType, tb2_bool, tb2_int, tb2_str, tb2_tuple, tb2_list, tb2_Tree, tb3_NoneType, tb3_bool, tb3_int, tb3_str, tb3_tuple, tb3_list, tb3_Tree, tb4_NoneType, tb4_bool, tb4_int, tb4_str, tb4_tuple, tb4_list, tb4_Tree, tb5_NoneType, tb5_bool, tb5_int, tb5_str, tb5_tuple, tb5_list, tb5_Tree, tb6_NoneType, tb6_bool, tb6_int, tb6_str, tb6_tuple, tb6_list, tb6_Tree, nq_kind_children, nb_kind_children, nq_kind_size, nb_kind_size, nq_kind_depth, nb_kind_depth, nq_children_kind, nb_children_kind, nq_children_size, nb_children_size, nq_children_depth, nb_children_depth, nq_size_kind, nb_size_kind, nq_size_children, nb_size_children, nq_size_depth, nb_size_depth, nq_depth_kind, nb_depth_kind, nq_depth_children, nb_depth_children, nq_depth_size, nb_depth_size]
    refine turn_spec ht hk (by omega) h2 fun ps' fl' s' z5 z11 z14 hk' hl' hb' => ?_
    simp only [↓kn_q, ↓kn_e, ↓kq_q, ↓kp_p, ↓ps_nx, ↓ps_rt, ↓ps_bk, ↓ps_ct, ↓ps_ex, ↓tkV_val, ↓tkV_own, ↓tkVR_val, ↓tkVR_own, ↓tkO_own, ↓tkA_val, ↓tkB_bl, ↓tkI_int, ↓tkStr_str, ↓tkC_obj, ↓tkSm_some, ↓tkSm_map, ↓tkSm_bind, ↓tkSm_ite, ↓tkP_t, ↓tkIf_t, ↓tkIf_f, ↓tkT_t, ↓tk_ok, ↓tk_exc, ↓tk_bind, ↓tk_lift, ↓tks_nx, ↓tks_rt, ↓tks_eS, ↓tks_seq, ↓tks_next, ↓tks_brk, ↓tks_cnt, ↓tks_drop, ↓tks_ret, ↓tks_retN, ↓tks_if, ↓tks_frz, ↓tks_set, ↓tks_setO, ↓tks_par, ↓tks_mut, ↓tks_app, ↓tks_store, ↓tks_fld, ↓tks_aug, ↓tks_for, ↓tks_for0, ↓tk_var, ↓tk_varR, ↓tk_c, ↓tk_bin, ↓tk_test, ↓tk_tnot, ↓tk_yes, ↓tk_tand, ↓tk_tor, ↓tk_call, ↓tk_fn, ↓tk_mkF, ↓tk_nil, ↓tk_cons, ↓tk_attr, ↓tk_meth, ↓tk_xif, ↓tk_seqI, ↓tk_enum, ↓tk_rng1, ↓tk_rng2, ↓tk_loc, ↓tk_lc, ↓tk_neg, ↓tk_no, ↓tk_part, ↓tk_sl, ↓tk_xsNil, ↓tk_xsV, ↓tk_xsO, ↓tk_xnot, ↓tk_xand, ↓tk_xor, ↓tk_lst, ↓tk_tup, ↓tk_sz, ↓tk_chain, ↓tk_s1, ↓tk_maxDf, ↓tk_star, List.getElem?_cons_zero, List.getElem?_cons_succ, List.set_cons_zero, List.set_cons_succ, List.map_cons, List.map_nil, List.cons_append, List.nil_append, List.append_assoc, tkJ_own, frzG, putS, wipeG, pVar, pTup, psCons, psNil, atD, ixD_lst, ixD_tup, ixD_scr, at_0, at_1, at_2, at_3, at_4, at_5, at_6, at_7, lenD, intC, absC, max2C, min2C, addD, intD, cmpD, yesC, slD, seqD, enumD, stD, sumC, allC, anyC, tupC, maxC, Option.bind_some, Option.map_some, List.lookup_cons, List.lookup_nil, List.length_cons, List.length_nil, Bool.not_true, Bool.not_false, Bool.and_self, Bool.true_and, Bool.and_true, Bool.false_and, Bool.and_false, Bool.or_true, Bool.true_or, Bool.false_or, Bool.or_false, reduceIte, decide_true, decide_false, if_true, if_false, List.replicate_succ, List.replicate_zero, Nat.reduceAdd, Nat.reduceSub, Nat.zero_add, List.mem_cons, List.not_mem_nil, or_false, false_or, not_false_eq_true, reduceCtorEq, ne_eq, and_self, and_true, true_and, Nat.reduceLT, Nat.reduceLeDiff, beq_self_eq_true, Nat.reduceEqDiff, Nat.add_one_ne_zero, modC, divC, mulC, powC, Int.reduceLT, Int.reduceLE, Int.reduceNeg, Int.reducePow, Int.reduceToNat, Int.reduceEq, Nat.reducePow, Int.zero_add, eqL, eqD, eqB, neD, isD, sz_0, sz_1, sz_2, sz_3, sz_4, sz_5, sz_6, sz_7, sz_8, sz_9, sz_10, sz_11, sz_12, sz_13, sz_14, sz_15, sz_16, sz_17, sz_18, sz_19, sz_20, sz_21, sz_22, sz_23, sz_24, sz_25, sz_26, sz_27, sz_28, sz_29, sz_30, nc_0, nc_1, nc_2, nc_3, nc_4, nc_5, nc_6, nc_7, nc_8, nc_9, nc_10, nc_11, nc_12, nc_13, nc_14, nc_15, nc_16, nc_17, nc_18, nc_19, nc_20, nc_21, nc_22, nc_23, nc_24, nc_25, nc_26, nc_27, nc_28, nc_29, nc_30, isiT, isiK, isiC, isiM, tyNames, tagD, tb0_NoneType, tb0_bool, tb0_int, tb0_str, tb0_tuple, tb0_list, tb0_Tree, tb1_NoneType, tb1_bool, tb1_int, tb1_str, tb1_tuple, tb1_list, tb1_Tree, tb2_NoneType, tb2_bool, tb2_int, tb2_str, tb2_tuple, tb2_list, tb2_Tree, tb3_NoneType, tb3_bool, tb3_int, tb3_str, tb3_tuple, tb3_list, tb3_Tree, tb4_NoneType, tb4_bool, tb4_int, tb4_str, tb4_tuple, tb4_list, tb4_Tree, tb5_NoneType, tb5_bool, tb5_int, tb5_str, tb5_tuple, tb5_list, tb5_Tree, tb6_NoneType, tb6_bool, tb6_int, tb6_str, tb6_tuple, tb6_list, tb6_Tree, nq_kind_children, nb_kind_children, nq_kind_size, nb_kind_size, nq_kind_depth, nb_kind_depth, nq_children_kind, nb_children_kind, nq_children_size, nb_children_size, nq_children_depth, nb_children_depth, nq_size_kind, nb_size_kind, nq_size_children, nb_size_children, nq_size_depth, nb_size_depth, nq_depth_kind, nb_depth_kind, nq_depth_children, nb_depth_children, nq_depth_size, nb_depth_size]
    exact ⟨ps', fl', _, _, _, _, hk', by omega, hb', rfl⟩
  rintro _ s2 ⟨ps, fl, y5, y9, y11, y14, hk, hpl, h2, rfl⟩
  rw [rngL_len] at hpl
  simp only [↓kn_q, ↓kn_e, ↓kq_q, ↓kp_p, ↓ps_nx, ↓ps_rt, ↓ps_bk, ↓ps_ct, ↓ps_ex, ↓tkV_val, ↓tkV_own, ↓tkVR_val, ↓tkVR_own, ↓tkO_own, ↓tkA_val, ↓tkB_bl, ↓tkI_int, ↓tkStr_str, ↓tkC_obj, ↓tkSm_some, ↓tkSm_map, ↓tkSm_bind, ↓tkSm_ite, ↓tkP_t, ↓tkIf_t, ↓tkIf_f, ↓tkT_t, ↓tk_ok, ↓tk_exc, ↓tk_bind, ↓tk_lift, ↓tks_nx, ↓tks_rt, ↓tks_eS, ↓tks_seq, ↓tks_next, ↓tks_brk, ↓tks_cnt, ↓tks_drop, ↓tks_ret, ↓tks_retN, ↓tks_if, ↓tks_frz, ↓tks_set, ↓tks_setO, ↓tks_par, ↓tks_mut, ↓tks_app, ↓tks_store, ↓tks_fld, ↓tks_aug, ↓tks_for, ↓tks_for0, ↓tk_var, ↓tk_varR, ↓tk_c, ↓tk_bin, ↓tk_test, ↓tk_tnot, ↓tk_yes, ↓tk_tand, ↓tk_tor, ↓tk_call, ↓tk_fn, ↓tk_mkF, ↓tk_nil, ↓tk_cons, ↓tk_attr, ↓tk_meth, ↓tk_xif, ↓tk_seqI, ↓tk_enum, ↓tk_rng1, ↓tk_rng2, ↓tk_loc, ↓tk_lc, ↓tk_neg, ↓tk_no, ↓tk_part, ↓tk_sl, ↓tk_xsNil, ↓tk_xsV, ↓tk_xsO, ↓tk_xnot, ↓tk_xand, ↓tk_xor, ↓tk_lst, ↓tk_tup, ↓tk_sz, ↓tk_chain, ↓tk_s1, ↓tk_maxDf, ↓tk_star, List.getElem?_cons_zero, List.getElem?_cons_succ, List.set_cons_zero, List.set_cons_succ, List.map_cons, List.map_nil, List.cons_append, List.nil_append, List.append_assoc, tkJ_own, frzG, putS, wipeG, pVar, pTup, psCons, psNil, atD, ixD_lst, ixD_tup, ixD_scr, at_0, at_1, at_2, at_3, at_4, at_5, at_6, at_7, lenD, intC, absC, max2C, min2C, addD, intD, cmpD, yesC, slD, seqD, enumD, stD, sumC, allC, anyC, tupC, maxC, Option.bind_some, Option.map_some, List.lookup_cons, List.lookup_nil, List.length_cons, List.length_nil, Bool.not_true, Bool.not_false, Bool.and_self, Bool.true_and, Bool.and_true, Bool.false_and, Bool.and_false, Bool.or_true, Bool.true_or, Bool.false_or, Bool.or_false, reduceIte, decide_true, decide_false, if_true, if_false, List.replicate_succ, List.replicate_zero, Nat.reduceAdd, Nat.reduceSub, Nat.zero_add, List.mem_cons, List.not_mem_nil, or_false, false_or, not_false_eq_true, reduceCtorEq, ne_eq, and_self, and_true, true_and, Nat.reduceLT, Nat.reduceLeDiff, beq_self_eq_true, Nat.reduceEqDiff, Nat.add_one_ne_zero, modC, divC, mulC, powC, Int.reduceLT, Int.reduceLE, Int.reduceNeg, Int.reducePow, Int.reduceToNat, Int.reduceEq, Nat.reducePow, Int.zero_add, eqL, eqD, eqB, neD, isD, sz_0, sz_1, sz_2, sz_3, sz_4, sz_5, sz_6, sz_7, sz_8, sz_9, sz_10, sz_11, sz_12, sz_13, sz_14, sz_15, sz_16, sz_17, sz_18, sz_19, sz_20, sz_21, sz_22, sz_23, sz_24, sz_25, sz_26, sz_27, sz_28, sz_29, sz_30, nc_0, nc_1, nc_2, nc_3, nc_4, nc_5, nc_6, nc_7, nc_8, nc_9, nc_10, nc_11, nc_12, nc_13, nc_14, nc_15, nc_16, nc_17, nc_18, nc_19, nc_20, nc_21, nc_22, nc_23, nc_24, nc_25, nc_26, nc_27, nc_28, nc_29, nc_30, isiT, isiK, isiC, isiM, tyNames, tagD, tb0_NoneType, tb0_bool, tb0_int, tb0_str, tb0_tuple, tb0_list, tb0_Tree, tb1_NoneType, tb1_bool, tb1_int, tb1_str, tb1_tuple, tb1_list, tb1_Tree, tb2_NoneType, tb2_bool, tb2_int, tb2_str, tb2_tuple, tb2_list, tb2_Tree, tb3_NoneType, tb3_bool, tb3_int, tb3_str, tb3_tuple, tb3_list, tb3_Tree, tb4_NoneType, tb4_bool, tb4_int, tb4_str, tb4_tuple, tb4_list, tb4_Tree, tb5_NoneType, tb5_bool, tb5_int, tb5_str, tb5_tuple, tb5_list, tb5_Tree, tb6_NoneType, tb6_bool, tb6_int, tb6_str, tb6_tuple, tb6_list, tb6_Tree, nq_kind_children, nb_kind_children, nq_kind_size, nb_kind_size, nq_kind_depth, nb_kind_depth, nq_children_kind, nb_children_kind, nq_children_size, nb_children_size, nq_children_depth, nb_children_depth, nq_size_kind, nb_size_kind, nq_size_children, nb_size_children, nq_size_depth, nb_size_depth, nq_depth_kind, nb_depth_kind, nq_depth_children, nb_depth_children, nq_depth_size, nb_depth_size]
  refine of_spec h2 (by simp) (by simp) fun x s3 hx h3 => ?_
  have hx : Ch x [] := by
    simp only [List.mem_cons, List.not_mem_nil, or_false] at hx
    rcases hx with rfl | rfl
    · exact .tup (xs := []) (fun _ h => (List.not_mem_nil h).elim) (by simp)
    · exact .lst (xs := []) (fun _ h => (List.not_mem_nil h).elim) (by simp)
  simp only [↓kn_q, ↓kn_e, ↓kq_q, ↓kp_p, ↓ps_nx, ↓ps_rt, ↓ps_bk, ↓ps_ct, ↓ps_ex, ↓tkV_val, ↓tkV_own, ↓tkVR_val, ↓tkVR_own, ↓tkO_own, ↓tkA_val, ↓tkB_bl, ↓tkI_int, ↓tkStr_str, ↓tkC_obj, ↓tkSm_some, ↓tkSm_map, ↓tkSm_bind, ↓tkSm_ite, ↓tkP_t, ↓tkIf_t, ↓tkIf_f, ↓tkT_t, ↓tk_ok, ↓tk_exc, ↓tk_bind, ↓tk_lift, ↓tks_nx, ↓tks_rt, ↓tks_eS, ↓tks_seq, ↓tks_next, ↓tks_brk, ↓tks_cnt, ↓tks_drop, ↓tks_ret, ↓tks_retN, ↓tks_if, ↓tks_frz, ↓tks_set, ↓tks_setO, ↓tks_par, ↓tks_mut, ↓tks_app, ↓tks_store, ↓tks_fld, ↓tks_aug, ↓tks_for, ↓tks_for0, ↓tk_var, ↓tk_varR, ↓tk_c, ↓tk_bin, ↓tk_test, ↓tk_tnot, ↓tk_yes, ↓tk_tand, ↓tk_tor, ↓tk_call, ↓tk_fn, ↓tk_mkF, ↓tk_nil, ↓tk_cons, ↓tk_attr, ↓tk_meth, ↓tk_xif, ↓tk_seqI, ↓tk_enum, ↓tk_rng1, ↓tk_rng2, ↓tk_loc, ↓tk_lc, ↓tk_neg, ↓tk_no, ↓tk_part, ↓tk_sl, ↓tk_xsNil, ↓tk_xsV, ↓tk_xsO, ↓tk_xnot, ↓tk_xand, ↓tk_xor, ↓tk_lst, ↓tk_tup, ↓tk_sz, ↓tk_chain, ↓tk_s1, ↓tk_maxDf, ↓tk_star, List.getElem?_cons_zero, List.getElem?_cons_succ, List.set_cons_zero, List.set_cons_succ, List.map_cons, List.map_nil, List.cons_append, List.nil_append, List.append_assoc, tkJ_own, frzG, putS, wipeG, pVar, pTup, psCons, psNil, atD, ixD_lst, ixD_tup, ixD_scr, at_0, at_1, at_2, at_3, at_4, at_5, at_6, at_7, lenD, intC, absC, max2C, min2C, addD, intD, cmpD, yesC, slD, seqD, enumD, stD, sumC, allC, anyC, tupC, maxC, Option.bind_some, Option.map_some, List.lookup_cons, List.lookup_nil, List.length_cons, List.length_nil, Bool.not_true, Bool.not_false, Bool.and_self, Bool.true_and, Bool.and_true, Bool.false_and, Bool.and_false, Bool.or_true, Bool.true_or, Bool.false_or, Bool.or_false, reduceIte, decide_true, decide_false, if_true, if_false, List.replicate_succ, List.replicate_zero, Nat.reduceAdd, Nat.reduceSub, Nat.zero_add, List.mem_cons, List.not_mem_nil, or_false, false_or, not_false_eq_true, reduceCtorEq, ne_eq, and_self, and_true, true_and, Nat.reduceLT, Nat.reduceLeDiff, beq_self_eq_true, Nat.reduceEqDiff, Nat.add_one_ne_zero, modC, divC, mulC, powC, Int.reduceLT, Int.reduceLE, Int.reduceNeg, Int.reducePow, Int.reduceToNat, Int.reduceEq, Nat.reducePow, Int.zero_add, eqL, eqD, eqB, neD, isD, sz_0, sz_1, sz_2, sz_3, sz_4, sz_5, sz_6, sz_7, sz_8, sz_9, sz_10, sz_11, sz_12, sz_13, sz_14, sz_15, sz_16, sz_17, sz_18, sz_19, sz_20, sz_21, sz_22, sz_23, sz_24, sz_25, sz_26, sz_27, sz_28, sz_29, sz_30, nc_0, nc_1, nc_2, nc_3, nc_4, nc_5, nc_6, nc_7, nc_8, nc_9, nc_10, nc_11, nc_12, nc_13, nc_14, nc_15, nc_16, nc_17, nc_18, nc_19, nc_20, nc_21, nc_22, nc_23, nc_24, nc_25, nc_26, nc_27, nc_28, nc_29, nc_30, isiT, isiK, isiC, isiM, tyNames, tagD, tb0_NoneType, tb0_bool, tb0_int, tb0_str, tb0_tuple, tb0_list, tb0_Tree, tb1_NoneType, tb1_bool, tb1_int, tb1_str, tb1_tuple, tb1_list, tb1_Tree, tb2_NoneType, tb2_bool, tb2_int, tb2_str, tb2_tuple, tb2_list, tb2_Tree, tb3_NoneType, tb3_bool, tb3_int, tb3_str, tb3_tuple, tb3_list, tb3_Tree, tb4_NoneType, tb4_bool, tb4_int, tb4_str, tb4_tuple, tb4_list, tb4_Tree, tb5_NoneType, tb5_bool, tb5_int, tb5_str, tb5_tuple, tb5_list, tb5_Tree, tb6_NoneType, tb6_bool, tb6_int, tb6_str, tb6_tuple, tb6_list, tb6_Tree, nq_kind_children, nb_kind_children, nq_kind_size, nb_kind_size, nq_kind_depth, nb_kind_depth, nq_children_kind, nb_children_kind, nq_children_size, nb_children_size, nq_children_depth, nb_children_depth, nq_size_kind, nb_size_kind, nq_size_children, nb_size_children, nq_size_depth, nb_size_depth, nq_depth_kind, nb_depth_kind, nq_depth_children, nb_depth_children, nq_depth_size, nb_depth_size]
  refine tkT_of (sz_of (by rw [List.length_map]; omega)) ?_
  simp only [↓kn_q, ↓kn_e, ↓kq_q, ↓kp_p, ↓ps_nx, ↓ps_rt, ↓ps_bk, ↓ps_ct, ↓ps_ex, ↓tkV_val, ↓tkV_own, ↓tkVR_val, ↓tkVR_own, ↓tkO_own, ↓tkA_val, ↓tkB_bl, ↓tkI_int, ↓tkStr_str, ↓tkC_obj, ↓tkSm_some, ↓tkSm_map, ↓tkSm_bind, ↓tkSm_ite, ↓tkP_t, ↓tkIf_t, ↓tkIf_f, ↓tkT_t, ↓tk_ok, ↓tk_exc, ↓tk_bind, ↓tk_lift, ↓tks_nx, ↓tks_rt, ↓tks_eS, ↓tks_seq, ↓tks_next, ↓tks_brk, ↓tks_cnt, ↓tks_drop, ↓tks_ret, ↓tks_retN, ↓tks_if, ↓tks_frz, ↓tks_set, ↓tks_setO, ↓tks_par, ↓tks_mut, ↓tks_app, ↓tks_store, ↓tks_fld, ↓tks_aug, ↓tks_for, ↓tks_for0, ↓tk_var, ↓tk_varR, ↓tk_c, ↓tk_bin, ↓tk_test, ↓tk_tnot, ↓tk_yes, ↓tk_tand, ↓tk_tor, ↓tk_call, ↓tk_fn, ↓tk_mkF, ↓tk_nil, ↓tk_cons, ↓tk_attr, ↓tk_meth, ↓tk_xif, ↓tk_seqI, ↓tk_enum, ↓tk_rng1, ↓tk_rng2, ↓tk_loc, ↓tk_lc, ↓tk_neg, ↓tk_no, ↓tk_part, ↓tk_sl, ↓tk_xsNil, ↓tk_xsV, ↓tk_xsO, ↓tk_xnot, ↓tk_xand, ↓tk_xor, ↓tk_lst, ↓tk_tup, ↓tk_sz, ↓tk_chain, ↓tk_s1, ↓tk_maxDf, ↓tk_star, List.getElem?_cons_zero, List.getElem?_cons_succ, List.set_cons_zero, List.set_cons_succ, List.map_cons, List.map_nil, List.cons_append, List.nil_append, List.append_assoc, tkJ_own, frzG, putS, wipeG, pVar, pTup, psCons, psNil, atD, ixD_lst, ixD_tup, ixD_scr, at_0, at_1, at_2, at_3, at_4, at_5, at_6, at_7, lenD, intC, absC, max2C, min2C, addD, intD, cmpD, yesC, slD, seqD, enumD, stD, sumC, allC, anyC, tupC, maxC, Option.bind_some, Option.map_some, List.lookup_cons, List.lookup_nil, List.length_cons, List.length_nil, Bool.not_true, Bool.not_false, Bool.and_self, Bool.true_and, Bool.and_true, Bool.false_and, Bool.and_false, Bool.or_true, Bool.true_or, Bool.false_or, Bool.or_false, reduceIte, decide_true, decide_false, if_true, if_false, List.replicate_succ, List.replicate_zero, Nat.reduceAdd, Nat.reduceSub, Nat.zero_add, List.mem_cons, List.not_mem_nil, or_false, false_or, not_false_eq_true, reduceCtorEq, ne_eq, and_self, and_true, true_and, Nat.reduceLT, Nat.reduceLeDiff, beq_self_eq_true, Nat.reduceEqDiff, Nat.add_one_ne_zero, modC, divC, mulC, powC, Int.reduceLT, Int.reduceLE, Int.reduceNeg, Int.reducePow, Int.reduceToNat, Int.reduceEq, Nat.reducePow, Int.zero_add, eqL, eqD, eqB, neD, isD, sz_0, sz_1, sz_2, sz_3, sz_4, sz_5, sz_6, sz_7, sz_8, sz_9, sz_10, sz_11, sz_12, sz_13, sz_14, sz_15, sz_16, sz_17, sz_18, sz_19, sz_20, sz_21, sz_22, sz_23, sz_24, sz_25, sz_26, sz_27, sz_28, sz_29, sz_30, nc_0, nc_1, nc_2, nc_3, nc_4, nc_5, nc_6, nc_7, nc_8, nc_9, nc_10, nc_11, nc_12, nc_13, nc_14, nc_15, nc_16, nc_17, nc_18, nc_19, nc_20, nc_21, nc_22, nc_23, nc_24, nc_25, nc_26, nc_27, nc_28, nc_29, nc_30, isiT, isiK, isiC, isiM, tyNames, tagD, tb0_NoneType, tb0_bool, tb0_int, tb0_str, tb0_tuple, tb0_list, tb0_Tree, tb1_NoneType, tb1_bool, tb1_int, tb1_str, tb1_tuple, tb1_list, tb1_Tree, tb2_NoneType, tb2_bool, tb2_int, tb2_str, tb2_tuple, tb2_list, tb2_Tree, tb3_NoneType, tb3_bool, tb3_int, tb3_str, tb3_tuple, tb3_list, tb3_Tree, tb4_NoneType, tb4_bool, tb4_int, tb4_str, tb4_tuple, tb4_list, tb4_Tree, tb5_NoneType, tb5_bool, tb5_int, tb5_str, tb5_tuple, tb5_list, tb5_Tree, tb6_NoneType, tb6_bool, tb6_int, tb6_str, tb6_tuple, tb6_list, tb6_Tree, nq_kind_children, nb_kind_children, nq_kind_size, nb_kind_size, nq_kind_depth, nb_kind_depth, nq_children_kind, nb_children_kind, nq_children_size, nb_children_size, nq_children_depth, nb_children_depth, nq_size_kind, nb_size_kind, nq_size_children, nb_size_children, nq_size_depth, nb_size_depth, nq_depth_kind, nb_depth_kind, nq_depth_children, nb_depth_children, nq_depth_size, nb_depth_size]
  refine of_spec h3 (by intro h; rw [h] at hg3; cases hg3) (by omega) fun tg s4 htg h4 => ?_
  obtain ⟨t, rfl, nm⟩ := hg tg htg
  simp only [↓kn_q, ↓kn_e, ↓kq_q, ↓kp_p, ↓ps_nx, ↓ps_rt, ↓ps_bk, ↓ps_ct, ↓ps_ex, ↓tkV_val, ↓tkV_own, ↓tkVR_val, ↓tkVR_own, ↓tkO_own, ↓tkA_val, ↓tkB_bl, ↓tkI_int, ↓tkStr_str, ↓tkC_obj, ↓tkSm_some, ↓tkSm_map, ↓tkSm_bind, ↓tkSm_ite, ↓tkP_t, ↓tkIf_t, ↓tkIf_f, ↓tkT_t, ↓tk_ok, ↓tk_exc, ↓tk_bind, ↓tk_lift, ↓tks_nx, ↓tks_rt, ↓tks_eS, ↓tks_seq, ↓tks_next, ↓tks_brk, ↓tks_cnt, ↓tks_drop, ↓tks_ret, ↓tks_retN, ↓tks_if, ↓tks_frz, ↓tks_set, ↓tks_setO, ↓tks_par, ↓tks_mut, ↓tks_app, ↓tks_store, ↓tks_fld, ↓tks_aug, ↓tks_for, ↓tks_for0, ↓tk_var, ↓tk_varR, ↓tk_c, ↓tk_bin, ↓tk_test, ↓tk_tnot, ↓tk_yes, ↓tk_tand, ↓tk_tor, ↓tk_call, ↓tk_fn, ↓tk_mkF, ↓tk_nil, ↓tk_cons, ↓tk_attr, ↓tk_meth, ↓tk_xif, ↓tk_seqI, ↓tk_enum, ↓tk_rng1, ↓tk_rng2, ↓tk_loc, ↓tk_lc, ↓tk_neg, ↓tk_no, ↓tk_part, ↓tk_sl, ↓tk_xsNil, ↓tk_xsV, ↓tk_xsO, ↓tk_xnot, ↓tk_xand, ↓tk_xor, ↓tk_lst, ↓tk_tup, ↓tk_sz, ↓tk_chain, ↓tk_s1, ↓tk_maxDf, ↓tk_star, List.getElem?_cons_zero, List.getElem?_cons_succ, List.set_cons_zero, List.set_cons_succ, List.map_cons, List.map_nil, List.cons_append, List.nil_append, List.append_assoc, tkJ_own, frzG, putS, wipeG, pVar, pTup, psCons, psNil, atD, ixD_lst, ixD_tup, ixD_scr, at_0, at_1, at_2, at_3, at_4, at_5, at_6, at_7, lenD, intC, absC, max2C, min2C, addD, intD, cmpD, yesC, slD, seqD, enumD, stD, sumC, allC, anyC, tupC, maxC, Option.bind_some, Option.map_some, List.lookup_cons, List.lookup_nil, List.length_cons, List.length_nil, Bool.not_true, Bool.not_false, Bool.and_self, Bool.true_and, Bool.and_true, Bool.false_and, Bool.and_false, Bool.or_true, Bool.true_or, Bool.false_or, Bool.or_false, reduceIte, decide_true, decide_false, if_true, if_false, List.replicate_succ, List.replicate_zero, Nat.reduceAdd, Nat.reduceSub, Nat.zero_add, List.mem_cons, List.not_mem_nil, or_false, false_or, not_false_eq_true, reduceCtorEq, ne_eq, and_self, and_true, true_and, Nat.reduceLT, Nat.reduceLeDiff, beq_self_eq_true, Nat.reduceEqDiff, Nat.add_one_ne_zero, modC, divC, mulC, powC, Int.reduceLT, Int.reduceLE, Int.reduceNeg, Int.reducePow, Int.reduceToNat, Int.reduceEq, Nat.reducePow, Int.zero_add, eqL, eqD, eqB, neD, isD, sz_0, sz_1, sz_2, sz_3, sz_4, sz_5, sz_6, sz_7, sz_8, sz_9, sz_10, sz_11, sz_12, sz_13, sz_14, sz_15, sz_16, sz_17, sz_18, sz_19, sz_20, sz_21, sz_22, sz_23, sz_24, sz_25, sz_26, sz_27, sz_28, sz_29, sz_30, nc_0, nc_1, nc_2, nc_3, nc_4, nc_5, nc_6, nc_7, nc_8, nc_9, nc_10, nc_11, nc_12, nc_13, nc_14, nc_15, nc_16, nc_17, nc_18, nc_19, nc_20, nc_21, nc_22, nc_23, nc_24, nc_25, nc_26, nc_27, nc_28, nc_29, nc_30, isiT, isiK, isiC, isiM, tyNames, tagD, tb0_NoneType, tb0_bool, tb0_int, tb0_str, tb0_tuple, tb0_list, tb0_Tree, tb1_NoneType, tb1_bool, tb1_int, tb1_str, tb1_tuple, tb1_list, tb1_Tree, tb2_NoneType, tb2_bool, tb2_int, tb2_str, tb2_tuple, tb2_list, tb2_Tree, tb3_NoneType, tb3_bool, tb3_int, tb3_str, tb3_tuple, tb3_list, tb3_Tree, tb4_NoneType, tb4_bool, tb4_int, tb4_str, tb4_tuple, tb4_list, tb4_Tree, tb5_NoneType, tb5_bool, tb5_int, tb5_str, tb5_tuple, tb5_list, tb5_Tree, tb6_NoneType, tb6_bool, tb6_int, tb6_str, tb6_tuple, tb6_list, tb6_Tree, nq_kind_children, nb_kind_children, nq_kind_size, nb_kind_size, nq_kind_depth, nb_kind_depth, nq_children_kind, nb_children_kind, nq_children_size, nb_children_size, nq_children_depth, nb_children_depth, nq_size_kind, nb_size_kind, nq_size_children, nb_size_children, nq_size_depth, nb_size_depth, nq_depth_kind, nb_depth_kind, nq_depth_children, nb_depth_children, nq_depth_size, nb_depth_size]
  have er : ps.map (·.1) ++ [x] = (ps ++ [(x, [])] : Row).map (·.1) := by simp
  have et : trs (ps ++ [(x, [])] : Row) = fl.map (pk tb) := by
    have := hk.tr
    simp [trs] at this ⊢
    exact this
  have fll := hk.ln
  rw [er]
  refine put_spec nm (fun p hp => ?_) (by simp; omega) (by simp) (by rw [et, List.length_map]; omega) ?_
  · rcases List.mem_append.mp hp with hp | hp
    · exact hk.ch p hp
    · rw [List.mem_singleton] at hp
      rw [hp]
      exact hx
  simp only [↓kn_q, ↓kn_e, ↓kq_q, ↓kp_p, ↓ps_nx, ↓ps_rt, ↓ps_bk, ↓ps_ct, ↓ps_ex, ↓tkV_val, ↓tkV_own, ↓tkVR_val, ↓tkVR_own, ↓tkO_own, ↓tkA_val, ↓tkB_bl, ↓tkI_int, ↓tkStr_str, ↓tkC_obj, ↓tkSm_some, ↓tkSm_map, ↓tkSm_bind, ↓tkSm_ite, ↓tkP_t, ↓tkIf_t, ↓tkIf_f, ↓tkT_t, ↓tk_ok, ↓tk_exc, ↓tk_bind, ↓tk_lift, ↓tks_nx, ↓tks_rt, ↓tks_eS, ↓tks_seq, ↓tks_next, ↓tks_brk, ↓tks_cnt, ↓tks_drop, ↓tks_ret, ↓tks_retN, ↓tks_if, ↓tks_frz, ↓tks_set, ↓tks_setO, ↓tks_par, ↓tks_mut, ↓tks_app, ↓tks_store, ↓tks_fld, ↓tks_aug, ↓tks_for, ↓tks_for0, ↓tk_var, ↓tk_varR, ↓tk_c, ↓tk_bin, ↓tk_test, ↓tk_tnot, ↓tk_yes, ↓tk_tand, ↓tk_tor, ↓tk_call, ↓tk_fn, ↓tk_mkF, ↓tk_nil, ↓tk_cons, ↓tk_attr, ↓tk_meth, ↓tk_xif, ↓tk_seqI, ↓tk_enum, ↓tk_rng1, ↓tk_rng2, ↓tk_loc, ↓tk_lc, ↓tk_neg, ↓tk_no, ↓tk_part, ↓tk_sl, ↓tk_xsNil, ↓tk_xsV, ↓tk_xsO, ↓tk_xnot, ↓tk_xand, ↓tk_xor, ↓tk_lst, ↓tk_tup, ↓tk_sz, ↓tk_chain, ↓tk_s1, ↓tk_maxDf, ↓tk_star, List.getElem?_cons_zero, List.getElem?_cons_succ, List.set_cons_zero, List.set_cons_succ, List.map_cons, List.map_nil, List.cons_append, List.nil_append, List.append_assoc, tkJ_own, frzG, putS, wipeG, pVar, pTup, psCons, psNil, atD, ixD_lst, ixD_tup, ixD_scr, at_0, at_1, at_2, at_3, at_4, at_5, at_6, at_7, lenD, intC, absC, max2C, min2C, addD, intD, cmpD, yesC, slD, seqD, enumD, stD, sumC, allC, anyC, tupC, maxC, Option.bind_some, Option.map_some, List.lookup_cons, List.lookup_nil, List.length_cons, List.length_nil, Bool.not_true, Bool.not_false, Bool.and_self, Bool.true_and, Bool.and_true, Bool.false_and, Bool.and_false, Bool.or_true, Bool.true_or, Bool.false_or, Bool.or_false, reduceIte, decide_true, decide_false, if_true, if_false, List.replicate_succ, List.replicate_zero, Nat.reduceAdd, Nat.reduceSub, Nat.zero_add, List.mem_cons, List.not_mem_nil, or_false, false_or, not_false_eq_true, reduceCtorEq, ne_eq, and_self, and_true, true_and, Nat.reduceLT, Nat.reduceLeDiff, beq_self_eq_true, Nat.reduceEqDiff, Nat.add_one_ne_zero, modC, divC, mulC, powC, Int.reduceLT, Int.reduceLE, Int.reduceNeg, Int.reducePow, Int.reduceToNat, Int.reduceEq, Nat.reducePow, Int.zero_add, eqL, eqD, eqB, neD, isD, sz_0, sz_1, sz_2, sz_3, sz_4, sz_5, sz_6, sz_7, sz_8, sz_9, sz_10, sz_11, sz_12, sz_13, sz_14, sz_15, sz_16, sz_17, sz_18, sz_19, sz_20, sz_21, sz_22, sz_23, sz_24, sz_25, sz_26, sz_27, sz_28, sz_29, sz_30, nc_0, nc_1, nc_2, nc_3, nc_4, nc_5, nc_6, nc_7, nc_8, nc_9, nc_10, nc_11, nc_12, nc_13, nc_14, nc_15, nc_16, nc_17, nc_18, nc_19, nc_20, nc_21, nc_22, nc_23, nc_24, nc_25, nc_26, nc_27, nc_28, nc_29, nc_30, isiT, isiK, isiC, isiM, tyNames, tagD, tb0_NoneType, tb0_bool, tb0_int, tb0_str, tb0_tuple, tb0_list, tb0_Tree, tb1_NoneType, tb1_bool, tb1_int, tb1_str, tb1_tuple, tb1_list, tb1_Tree, tb2_NoneType, tb2_bool, tb2_int, tb2_str, tb2_tuple, tb2_list, tb2_Tree, tb3_NoneType, tb3_bool, tb3_int, tb3_str, tb3_tuple, tb3_list, tb3_Tree, tb4_NoneType, tb4_bool, tb4_int, tb4_str, tb4_tuple, tb4_list, tb4_Tree, tb5_NoneType, tb5_bool, tb5_int, tb5_str, tb5_tuple, tb5_list, tb5_Tree, tb6_NoneType, tb6_bool, tb6_int, tb6_str, tb6_tuple, tb6_list, tb6_Tree, nq_kind_children, nb_kind_children, nq_kind_size, nb_kind_size, nq_kind_depth, nb_kind_depth, nq_children_kind, nb_children_kind, nq_children_size, nb_children_size, nq_children_depth, nb_children_depth, nq_size_kind, nb_size_kind, nq_size_children, nb_size_children, nq_size_depth, nb_size_depth, nq_depth_kind, nb_depth_kind, nq_depth_children, nb_depth_children, nq_depth_size, nb_depth_size]
  refine tkT_of (sz_of (by rw [List.length_map]; omega)) ?_
  simp only [↓kn_q, ↓kn_e, ↓kq_q, ↓kp_p, ↓ps_nx, ↓ps_rt, ↓ps_bk, ↓ps_ct, ↓ps_ex, ↓tkV_val, ↓tkV_own, ↓tkVR_val, ↓tkVR_own, ↓tkO_own, ↓tkA_val, ↓tkB_bl, ↓tkI_int, ↓tkStr_str, ↓tkC_obj, ↓tkSm_some, ↓tkSm_map, ↓tkSm_bind, ↓tkSm_ite, ↓tkP_t, ↓tkIf_t, ↓tkIf_f, ↓tkT_t, ↓tk_ok, ↓tk_exc, ↓tk_bind, ↓tk_lift, ↓tks_nx, ↓tks_rt, ↓tks_eS, ↓tks_seq, ↓tks_next, ↓tks_brk, ↓tks_cnt, ↓tks_drop, ↓tks_ret, ↓tks_retN, ↓tks_if, ↓tks_frz, ↓tks_set, ↓tks_setO, ↓tks_par, ↓tks_mut, ↓tks_app, ↓tks_store, ↓tks_fld, ↓tks_aug, ↓tks_for, ↓tks_for0, ↓tk_var, ↓tk_varR, ↓tk_c, ↓tk_bin, ↓tk_test, ↓tk_tnot, ↓tk_yes, ↓tk_tand, ↓tk_tor, ↓tk_call, ↓tk_fn, ↓tk_mkF, ↓tk_nil, ↓tk_cons, ↓tk_attr, ↓tk_meth, ↓tk_xif, ↓tk_seqI, ↓tk_enum, ↓tk_rng1, ↓tk_rng2, ↓tk_loc, ↓tk_lc, ↓tk_neg, ↓tk_no, ↓tk_part, ↓tk_sl, ↓tk_xsNil, ↓tk_xsV, ↓tk_xsO, ↓tk_xnot, ↓tk_xand, ↓tk_xor, ↓tk_lst, ↓tk_tup, ↓tk_sz, ↓tk_chain, ↓tk_s1, ↓tk_maxDf, ↓tk_star, List.getElem?_cons_zero, List.getElem?_cons_succ, List.set_cons_zero, List.set_cons_succ, List.map_cons, List.map_nil, List.cons_append, List.nil_append, List.append_assoc, tkJ_own, frzG, putS, wipeG, pVar, pTup, psCons, psNil, atD, ixD_lst, ixD_tup, ixD_scr, at_0, at_1, at_2, at_3, at_4, at_5, at_6, at_7, lenD, intC, absC, max2C, min2C, addD, intD, cmpD, yesC, slD, seqD, enumD, stD, sumC, allC, anyC, tupC, maxC, Option.bind_some, Option.map_some, List.lookup_cons, List.lookup_nil, List.length_cons, List.length_nil, Bool.not_true, Bool.not_false, Bool.and_self, Bool.true_and, Bool.and_true, Bool.false_and, Bool.and_false, Bool.or_true, Bool.true_or, Bool.false_or, Bool.or_false, reduceIte, decide_true, decide_false, if_true, if_false, List.replicate_succ, List.replicate_zero, Nat.reduceAdd, Nat.reduceSub, Nat.zero_add, List.mem_cons, List.not_mem_nil, or_false, false_or, not_false_eq_true, reduceCtorEq, ne_eq, and_self, and_true, true_and, Nat.reduceLT, Nat.reduceLeDiff, beq_self_eq_true, Nat.reduceEqDiff, Nat.add_one_ne_zero, modC, divC, mulC, powC, Int.reduceLT, Int.reduceLE, Int.reduceNeg, Int.reducePow, Int.reduceToNat, Int.reduceEq, Nat.reducePow, Int.zero_add, eqL, eqD, eqB, neD, isD, sz_0, sz_1, sz_2, sz_3, sz_4, sz_5, sz_6, sz_7, sz_8, sz_9, sz_10, sz_11, sz_12, sz_13, sz_14, sz_15, sz_16, sz_17, sz_18, sz_19, sz_20, sz_21, sz_22, sz_23, sz_24, sz_25, sz_26, sz_27, sz_28, sz_29, sz_30, nc_0, nc_1, nc_2, nc_3, nc_4, nc_5, nc_6, nc_7, nc_8, nc_9, nc_10, nc_11, nc_12, nc_13, nc_14, nc_15, nc_16, nc_17, nc_18, nc_19, nc_20, nc_21, nc_22, nc_23, nc_24, nc_25, nc_26, nc_27, nc_28, nc_29, nc_30, isiT, isiK, isiC, isiM, tyNames, tagD, tb0_NoneType, tb0_bool, tb0_int, tb0_str, tb0_tuple, tb0_list, tb0_Tree, tb1_NoneType, tb1_bool, tb1_int, tb1_str, tb1_tuple, tb1_list, tb1_Tree, tb2_NoneType, tb2_bool, tb2_int, tb2_str, tb2_tuple, tb2_list, tb2_Tree, tb3_NoneType, tb3_bool, tb3_int, tb3_str, tb3_tuple, tb3_list, tb3_Tree, tb4_NoneType, tb4_bool, tb4_int, tb4_str, tb4_tuple, tb4_list, tb4_Tree, tb5_NoneType, tb5_bool, tb5_int, tb5_str, tb5_tuple, tb5_list, tb5_Tree, tb6_NoneType, tb6_bool, tb6_int, tb6_str, tb6_tuple, tb6_list, tb6_Tree, nq_kind_children, nb_kind_children, nq_kind_size, nb_kind_size, nq_kind_depth, nb_kind_depth, nq_children_kind, nb_children_kind, nq_children_size, nb_children_size, nq_children_depth, nb_children_depth, nq_size_kind, nb_size_kind, nq_size_children, nb_size_children, nq_size_depth, nb_size_depth, nq_depth_kind, nb_depth_kind, nq_depth_children, nb_depth_children, nq_depth_size, nb_depth_size]
  refine lc_fl (tb := tb) (sel := fun x => .int x.2.1) hk.fi (fun i hi => ?_) ?_
  · unfold e_law_1
    simp only [↓kn_q, ↓kn_e, ↓kq_q, ↓kp_p, ↓ps_nx, ↓ps_rt, ↓ps_bk, ↓ps_ct, ↓ps_ex, ↓tkV_val, ↓tkV_own, ↓tkVR_val, ↓tkVR_own, ↓tkO_own, ↓tkA_val, ↓tkB_bl, ↓tkI_int, ↓tkStr_str, ↓tkC_obj, ↓tkSm_some, ↓tkSm_map, ↓tkSm_bind, ↓tkSm_ite, ↓tkP_t, ↓tkIf_t, ↓tkIf_f, ↓tkT_t, ↓tk_ok, ↓tk_exc, ↓tk_bind, ↓tk_lift, ↓tks_nx, ↓tks_rt, ↓tks_eS, ↓tks_seq, ↓tks_next, ↓tks_brk, ↓tks_cnt, ↓tks_drop, ↓tks_ret, ↓tks_retN, ↓tks_if, ↓tks_frz, ↓tks_set, ↓tks_setO, ↓tks_par, ↓tks_mut, ↓tks_app, ↓tks_store, ↓tks_fld, ↓tks_aug, ↓tks_for, ↓tks_for0, ↓tk_var, ↓tk_varR, ↓tk_c, ↓tk_bin, ↓tk_test, ↓tk_tnot, ↓tk_yes, ↓tk_tand, ↓tk_tor, ↓tk_call, ↓tk_fn, ↓tk_mkF, ↓tk_nil, ↓tk_cons, ↓tk_attr, ↓tk_meth, ↓tk_xif, ↓tk_seqI, ↓tk_enum, ↓tk_rng1, ↓tk_rng2, ↓tk_loc, ↓tk_lc, ↓tk_neg, ↓tk_no, ↓tk_part, ↓tk_sl, ↓tk_xsNil, ↓tk_xsV, ↓tk_xsO, ↓tk_xnot, ↓tk_xand, ↓tk_xor, ↓tk_lst, ↓tk_tup, ↓tk_sz, ↓tk_chain, ↓tk_s1, ↓tk_maxDf, ↓tk_star, List.getElem?_cons_zero, List.getElem?_cons_succ, List.set_cons_zero, List.set_cons_succ, List.map_cons, List.map_nil, List.cons_append, List.nil_append, List.append_assoc, tkJ_own, frzG, putS, wipeG, pVar, pTup, psCons, psNil, atD, ixD_lst, ixD_tup, ixD_scr, at_0, at_1, at_2, at_3, at_4, at_5, at_6, at_7, lenD, intC, absC, max2C, min2C, addD, intD, cmpD, yesC, slD, seqD, enumD, stD, sumC, allC, anyC, tupC, maxC, Option.bind_some, Option.map_some, List.lookup_cons, List.lookup_nil, List.length_cons, List.length_nil, Bool.not_true, Bool.not_false, Bool.and_self, Bool.true_and, Bool.and_true, Bool.false_and, Bool.and_false, Bool.or_true, Bool.true_or, Bool.false_or, Bool.or_false, reduceIte, decide_true, decide_false, if_true, if_false, List.replicate_succ, List.replicate_zero, Nat.reduceAdd, Nat.reduceSub, Nat.zero_add, List.mem_cons, List.not_mem_nil, or_false, false_or, not_false_eq_true, reduceCtorEq, ne_eq, and_self, and_true, true_and, Nat.reduceLT, Nat.reduceLeDiff, beq_self_eq_true, Nat.reduceEqDiff, Nat.add_one_ne_zero, modC, divC, mulC, powC, Int.reduceLT, Int.reduceLE, Int.reduceNeg, Int.reducePow, Int.reduceToNat, Int.reduceEq, Nat.reducePow, Int.zero_add, eqL, eqD, eqB, neD, isD, sz_0, sz_1, sz_2, sz_3, sz_4, sz_5, sz_6, sz_7, sz_8, sz_9, sz_10, sz_11, sz_12, sz_13, sz_14, sz_15, sz_16, sz_17, sz_18, sz_19, sz_20, sz_21, sz_22, sz_23, sz_24, sz_25, sz_26, sz_27, sz_28, sz_29, sz_30, nc_0, nc_1, nc_2, nc_3, nc_4, nc_5, nc_6, nc_7, nc_8, nc_9, nc_10, nc_11, nc_12, nc_13, nc_14, nc_15, nc_16, nc_17, nc_18, nc_19, nc_20, nc_21, nc_22, nc_23, nc_24, nc_25, nc_26, nc_27, nc_28, nc_29, nc_30, isiT, isiK, isiC, isiM, tyNames, tagD, tb0_NoneType, tb0_bool, tb0_int, tb0_str, tb0_tuple, tb0_list, tb0_Tree, tb1_NoneType, tb1_bool, tb1_int, tb1_str, tb1_tuple, tb1_list, tb1_Tree, tb2_NoneType, tb2_bool, tb2_int, tb2_str, tb2_tuple, tb2_list, tb2_Tree, tb3_NoneType, tb3_bool, tb3_int, tb3_str, tb3_tuple, tb3_list, tb3_Tree, tb4_NoneType, tb4_bool, tb4_int, tb4_str, tb4_tuple, tb4_list, tb4_Tree, tb5_NoneType, tb5_bool, tb5_int, tb5_str, tb5_tuple, tb5_list, tb5_Tree, tb6_NoneType, tb6_bool, tb6_int, tb6_str, tb6_tuple, tb6_list, tb6_Tree, nq_kind_children, nb_kind_children, nq_kind_size, nb_kind_size, nq_kind_depth, nb_kind_depth, nq_children_kind, nb_children_kind, nq_children_size, nb_children_size, nq_children_depth, nb_children_depth, nq_size_kind, nb_size_kind, nq_size_children, nb_size_children, nq_size_depth, nb_size_depth, nq_depth_kind, nb_depth_kind, nq_depth_children, nb_depth_children, nq_depth_size, nb_depth_size, at_pk hi]
  simp only [↓kn_q, ↓kn_e, ↓kq_q, ↓kp_p, ↓ps_nx, ↓ps_rt, ↓ps_bk, ↓ps_ct, ↓ps_ex, ↓tkV_val, ↓tkV_own, ↓tkVR_val, ↓tkVR_own, ↓tkO_own, ↓tkA_val, ↓tkB_bl, ↓tkI_int, ↓tkStr_str, ↓tkC_obj, ↓tkSm_some, ↓tkSm_map, ↓tkSm_bind, ↓tkSm_ite, ↓tkP_t, ↓tkIf_t, ↓tkIf_f, ↓tkT_t, ↓tk_ok, ↓tk_exc, ↓tk_bind, ↓tk_lift, ↓tks_nx, ↓tks_rt, ↓tks_eS, ↓tks_seq, ↓tks_next, ↓tks_brk, ↓tks_cnt, ↓tks_drop, ↓tks_ret, ↓tks_retN, ↓tks_if, ↓tks_frz, ↓tks_set, ↓tks_setO, ↓tks_par, ↓tks_mut, ↓tks_app, ↓tks_store, ↓tks_fld, ↓tks_aug, ↓tks_for, ↓tks_for0, ↓tk_var, ↓tk_varR, ↓tk_c, ↓tk_bin, ↓tk_test, ↓tk_tnot, ↓tk_yes, ↓tk_tand, ↓tk_tor, ↓tk_call, ↓tk_fn, ↓tk_mkF, ↓tk_nil, ↓tk_cons, ↓tk_attr, ↓tk_meth, ↓tk_xif, ↓tk_seqI, ↓tk_enum, ↓tk_rng1, ↓tk_rng2, ↓tk_loc, ↓tk_lc, ↓tk_neg, ↓tk_no, ↓tk_part, ↓tk_sl, ↓tk_xsNil, ↓tk_xsV, ↓tk_xsO, ↓tk_xnot, ↓tk_xand, ↓tk_xor, ↓tk_lst, ↓tk_tup, ↓tk_sz, ↓tk_chain, ↓tk_s1, ↓tk_maxDf, ↓tk_star, List.getElem?_cons_zero, List.getElem?_cons_succ, List.set_cons_zero, List.set_cons_succ, List.map_cons, List.map_nil, List.cons_append, List.nil_append, List.append_assoc, tkJ_own, frzG, putS, wipeG, pVar, pTup, psCons, psNil, atD, ixD_lst, ixD_tup, ixD_scr, at_0, at_1, at_2, at_3, at_4, at_5, at_6, at_7, lenD, intC, absC, max2C, min2C, addD, intD, cmpD, yesC, slD, seqD, enumD, stD, sumC, allC, anyC, tupC, maxC, Option.bind_some, Option.map_some, List.lookup_cons, List.lookup_nil, List.length_cons, List.length_nil, Bool.not_true, Bool.not_false, Bool.and_self, Bool.true_and, Bool.and_true, Bool.false_and, Bool.and_false, Bool.or_true, Bool.true_or, Bool.false_or, Bool.or_false, reduceIte, decide_true, decide_false, if_true, if_false, List.replicate_succ, List.replicate_zero, Nat.reduceAdd, Nat.reduceSub, Nat.zero_add, List.mem_cons, List.not_mem_nil, or_false, false_or, not_false_eq_true, reduceCtorEq, ne_eq, and_self, and_true, true_and, Nat.reduceLT, Nat.reduceLeDiff, beq_self_eq_true, Nat.reduceEqDiff, Nat.add_one_ne_zero, modC, divC, mulC, powC, Int.reduceLT, Int.reduceLE, Int.reduceNeg, Int.reducePow, Int.reduceToNat, Int.reduceEq, Nat.reducePow, Int.zero_add, eqL, eqD, eqB, neD, isD, sz_0, sz_1, sz_2, sz_3, sz_4, sz_5, sz_6, sz_7, sz_8, sz_9, sz_10, sz_11, sz_12, sz_13, sz_14, sz_15, sz_16, sz_17, sz_18, sz_19, sz_20, sz_21, sz_22, sz_23, sz_24, sz_25, sz_26, sz_27, sz_28, sz_29, sz_30, nc_0, nc_1, nc_2, nc_3, nc_4, nc_5, nc_6, nc_7, nc_8, nc_9, nc_10, nc_11, nc_12, nc_13, nc_14, nc_15, nc_16, nc_17, nc_18, nc_19, nc_20, nc_21, nc_22, nc_23, nc_24, nc_25, nc_26, nc_27, nc_28, nc_29, nc_30, isiT, isiK, isiC, isiM, tyNames, tagD, tb0_NoneType, tb0_bool, tb0_int, tb0_str, tb0_tuple, tb0_list, tb0_Tree, tb1_NoneType, tb1_bool, tb1_int, tb1_str, tb1_tuple, tb1_list, tb1_Tree, tb2_NoneType, tb2_bool, tb2_int, tb2_str, tb2_tuple, tb2_list, tb2_Tree, tb3_NoneType, tb3_bool, tb3_int, tb3_str, tb3_tuple, tb3_list, tb3_Tree, tb4_NoneType, tb4_bool, tb4_int, tb4_str, tb4_tuple, tb4_list, tb4_Tree, tb5_NoneType, tb5_bool, tb5_int, tb5_str, tb5_tuple, tb5_list, tb5_Tree, tb6_NoneType, tb6_bool, tb6_int, tb6_str, tb6_tuple, tb6_list, tb6_Tree, nq_kind_children, nb_kind_children, nq_kind_size, nb_kind_size, nq_kind_depth, nb_kind_depth, nq_children_kind, nb_children_kind, nq_children_size, nb_children_size, nq_children_depth, nb_children_depth, nq_size_kind, nb_size_kind, nq_size_children, nb_size_children, nq_size_depth, nb_size_depth, nq_depth_kind, nb_depth_kind, nq_depth_children, nb_depth_children, nq_depth_size, nb_depth_size, ints_sel]
  have hi := ht.hi
  refine tkT_of (sz_of (by rw [List.length_map]; omega)) ?_
  simp only [↓kn_q, ↓kn_e, ↓kq_q, ↓kp_p, ↓ps_nx, ↓ps_rt, ↓ps_bk, ↓ps_ct, ↓ps_ex, ↓tkV_val, ↓tkV_own, ↓tkVR_val, ↓tkVR_own, ↓tkO_own, ↓tkA_val, ↓tkB_bl, ↓tkI_int, ↓tkStr_str, ↓tkC_obj, ↓tkSm_some, ↓tkSm_map, ↓tkSm_bind, ↓tkSm_ite, ↓tkP_t, ↓tkIf_t, ↓tkIf_f, ↓tkT_t, ↓tk_ok, ↓tk_exc, ↓tk_bind, ↓tk_lift, ↓tks_nx, ↓tks_rt, ↓tks_eS, ↓tks_seq, ↓tks_next, ↓tks_brk, ↓tks_cnt, ↓tks_drop, ↓tks_ret, ↓tks_retN, ↓tks_if, ↓tks_frz, ↓tks_set, ↓tks_setO, ↓tks_par, ↓tks_mut, ↓tks_app, ↓tks_store, ↓tks_fld, ↓tks_aug, ↓tks_for, ↓tks_for0, ↓tk_var, ↓tk_varR, ↓tk_c, ↓tk_bin, ↓tk_test, ↓tk_tnot, ↓tk_yes, ↓tk_tand, ↓tk_tor, ↓tk_call, ↓tk_fn, ↓tk_mkF, ↓tk_nil, ↓tk_cons, ↓tk_attr, ↓tk_meth, ↓tk_xif, ↓tk_seqI, ↓tk_enum, ↓tk_rng1, ↓tk_rng2, ↓tk_loc, ↓tk_lc, ↓tk_neg, ↓tk_no, ↓tk_part, ↓tk_sl, ↓tk_xsNil, ↓tk_xsV, ↓tk_xsO, ↓tk_xnot, ↓tk_xand, ↓tk_xor, ↓tk_lst, ↓tk_tup, ↓tk_sz, ↓tk_chain, ↓tk_s1, ↓tk_maxDf, ↓tk_star, List.getElem?_cons_zero, List.getElem?_cons_succ, List.set_cons_zero, List.set_cons_succ, List.map_cons, List.map_nil, List.cons_append, List.nil_append, List.append_assoc, tkJ_own, frzG, putS, wipeG, pVar, pTup, psCons, psNil, atD, ixD_lst, ixD_tup, ixD_scr, at_0, at_1, at_2, at_3, at_4, at_5, at_6, at_7, lenD, intC, absC, max2C, min2C, addD, intD, cmpD, yesC, slD, seqD, enumD, stD, sumC, allC, anyC, tupC, maxC, Option.bind_some, Option.map_some, List.lookup_cons, List.lookup_nil, List.length_cons, List.length_nil, Bool.not_true, Bool.not_false, Bool.and_self, Bool.true_and, Bool.and_true, Bool.false_and, Bool.and_false, Bool.or_true, Bool.true_or, Bool.false_or, Bool.or_false, reduceIte, decide_true, decide_false, if_true, if_false, List.replicate_succ, List.replicate_zero, Nat.reduceAdd, Nat.reduceSub, Nat.zero_add, List.mem_cons, List.not_mem_nil, or_false, false_or, not_false_eq_true, reduceCtorEq, ne_eq, and_self, and_true, true_and, Nat.reduceLT, Nat.reduceLeDiff, beq_self_eq_true, Nat.reduceEqDiff, Nat.add_one_ne_zero, modC, divC, mulC, powC, Int.reduceLT, Int.reduceLE, Int.reduceNeg, Int.reducePow, Int.reduceToNat, Int.reduceEq, Nat.reducePow, Int.zero_add, eqL, eqD, eqB, neD, isD, sz_0, sz_1, sz_2, sz_3, sz_4, sz_5, sz_6, sz_7, sz_8, sz_9, sz_10, sz_11, sz_12, sz_13, sz_14, sz_15, sz_16, sz_17, sz_18, sz_19, sz_20, sz_21, sz_22, sz_23, sz_24, sz_25, sz_26, sz_27, sz_28, sz_29, sz_30, nc_0, nc_1, nc_2, nc_3, nc_4, nc_5, nc_6, nc_7, nc_8, nc_9, nc_10, nc_11, nc_12, nc_13, nc_14, nc_15, nc_16, nc_17, nc_18, nc_19, nc_20, nc_21, nc_22, nc_23, nc_24, nc_25, nc_26, nc_27, nc_28, nc_29, nc_30, isiT, isiK, isiC, isiM, tyNames, tagD, tb0_NoneType, tb0_bool, tb0_int, tb0_str, tb0_tuple, tb0_list, tb0_Tree, tb1_NoneType, tb1_bool, tb1_int, tb1_str, tb1_tuple, tb1_list, tb1_Tree, tb2_NoneType, tb2_bool, tb2_int, tb2_str, tb2_tuple, tb2_list, tb2_Tree, tb3_NoneType, tb3_bool, tb3_int, tb3_str, tb3_tuple, tb3_list, tb3_Tree, tb4_NoneType, tb4_bool, tb4_int, tb4_str, tb4_tuple, tb4_list, tb4_Tree, tb5_NoneType, tb5_bool, tb5_int, tb5_str, tb5_tuple, tb5_list, tb5_Tree, tb6_NoneType, tb6_bool, tb6_int, tb6_str, tb6_tuple, tb6_list, tb6_Tree, nq_kind_children, nb_kind_children, nq_kind_size, nb_kind_size, nq_kind_depth, nb_kind_depth, nq_children_kind, nb_children_kind, nq_children_size, nb_children_size, nq_children_depth, nb_children_depth, nq_size_kind, nb_size_kind, nq_size_children, nb_size_children, nq_size_depth, nb_size_depth, nq_depth_kind, nb_depth_kind, nq_depth_children, nb_depth_children, nq_depth_size, nb_depth_size]
  refine tkT_of (sz_of (by rw [List.length_map]; omega)) ?_
  simp only [↓kn_q, ↓kn_e, ↓kq_q, ↓kp_p, ↓ps_nx, ↓ps_rt, ↓ps_bk, ↓ps_ct, ↓ps_ex, ↓tkV_val, ↓tkV_own, ↓tkVR_val, ↓tkVR_own, ↓tkO_own, ↓tkA_val, ↓tkB_bl, ↓tkI_int, ↓tkStr_str, ↓tkC_obj, ↓tkSm_some, ↓tkSm_map, ↓tkSm_bind, ↓tkSm_ite, ↓tkP_t, ↓tkIf_t, ↓tkIf_f, ↓tkT_t, ↓tk_ok, ↓tk_exc, ↓tk_bind, ↓tk_lift, ↓tks_nx, ↓tks_rt, ↓tks_eS, ↓tks_seq, ↓tks_next, ↓tks_brk, ↓tks_cnt, ↓tks_drop, ↓tks_ret, ↓tks_retN, ↓tks_if, ↓tks_frz, ↓tks_set, ↓tks_setO, ↓tks_par, ↓tks_mut, ↓tks_app, ↓tks_store, ↓tks_fld, ↓tks_aug, ↓tks_for, ↓tks_for0, ↓tk_var, ↓tk_varR, ↓tk_c, ↓tk_bin, ↓tk_test, ↓tk_tnot, ↓tk_yes, ↓tk_tand, ↓tk_tor, ↓tk_call, ↓tk_fn, ↓tk_mkF, ↓tk_nil, ↓tk_cons, ↓tk_attr, ↓tk_meth, ↓tk_xif, ↓tk_seqI, ↓tk_enum, ↓tk_rng1, ↓tk_rng2, ↓tk_loc, ↓tk_lc, ↓tk_neg, ↓tk_no, ↓tk_part, ↓tk_sl, ↓tk_xsNil, ↓tk_xsV, ↓tk_xsO, ↓tk_xnot, ↓tk_xand, ↓tk_xor, ↓tk_lst, ↓tk_tup, ↓tk_sz, ↓tk_chain, ↓tk_s1, ↓tk_maxDf, ↓tk_star, List.getElem?_cons_zero, List.getElem?_cons_succ, List.set_cons_zero, List.set_cons_succ, List.map_cons, List.map_nil, List.cons_append, List.nil_append, List.append_assoc, tkJ_own, frzG, putS, wipeG, pVar, pTup, psCons, psNil, atD, ixD_lst, ixD_tup, ixD_scr, at_0, at_1, at_2, at_3, at_4, at_5, at_6, at_7, lenD, intC, absC, max2C, min2C, addD, intD, cmpD, yesC, slD, seqD, enumD, stD, sumC, allC, anyC, tupC, maxC, Option.bind_some, Option.map_some, List.lookup_cons, List.lookup_nil, List.length_cons, List.length_nil, Bool.not_true, Bool.not_false, Bool.and_self, Bool.true_and, Bool.and_true, Bool.false_and, Bool.and_false, Bool.or_true, Bool.true_or, Bool.false_or, Bool.or_false, reduceIte, decide_true, decide_false, if_true, if_false, List.replicate_succ, List.replicate_zero, Nat.reduceAdd, Nat.reduceSub, Nat.zero_add, List.mem_cons, List.not_mem_nil, or_false, false_or, not_false_eq_true, reduceCtorEq, ne_eq, and_self, and_true, true_and, Nat.reduceLT, Nat.reduceLeDiff, beq_self_eq_true, Nat.reduceEqDiff, Nat.add_one_ne_zero, modC, divC, mulC, powC, Int.reduceLT, Int.reduceLE, Int.reduceNeg, Int.reducePow, Int.reduceToNat, Int.reduceEq, Nat.reducePow, Int.zero_add, eqL, eqD, eqB, neD, isD, sz_0, sz_1, sz_2, sz_3, sz_4, sz_5, sz_6, sz_7, sz_8, sz_9, sz_10, sz_11, sz_12, sz_13, sz_14, sz_15, sz_16, sz_17, sz_18, sz_19, sz_20, sz_21, sz_22, sz_23, sz_24, sz_25, sz_26, sz_27, sz_28, sz_29, sz_30, nc_0, nc_1, nc_2, nc_3, nc_4, nc_5, nc_6, nc_7, nc_8, nc_9, nc_10, nc_11, nc_12, nc_13, nc_14, nc_15, nc_16, nc_17, nc_18, nc_19, nc_20, nc_21, nc_22, nc_23, nc_24, nc_25, nc_26, nc_27, nc_28, nc_29, nc_30, isiT, isiK, isiC, isiM, tyNames, tagD, tb0_NoneType, tb0_bool, tb0_int, tb0_str, tb0_tuple, tb0_list, tb0_Tree, tb1_NoneType, tb1_bool, tb1_int, tb1_str, tb1_tuple, tb1_list, tb1_Tree, tb2_NoneType, tb2_bool, tb2_int, tb2_str, tb2_tuple, tb2_list, tb2_Tree, tb3_NoneType, tb3_bool, tb3_int, tb3_str, tb3_tuple, tb3_list, tb3_Tree, tb4_NoneType, tb4_bool, tb4_int, tb4_str, tb4_tuple, tb4_list, tb4_Tree, tb5_NoneType, tb5_bool, tb5_int, tb5_str, tb5_tuple, tb5_list, tb5_Tree, tb6_NoneType, tb6_bool, tb6_int, tb6_str, tb6_tuple, tb6_list, tb6_Tree, nq_kind_children, nb_kind_children, nq_kind_size, nb_kind_size, nq_kind_depth, nb_kind_depth, nq_children_kind, nb_children_kind, nq_children_size, nb_children_size, nq_children_depth, nb_children_depth, nq_size_kind, nb_size_kind, nq_size_children, nb_size_children, nq_size_depth, nb_size_depth, nq_depth_kind, nb_depth_kind, nq_depth_children, nb_depth_children, nq_depth_size, nb_depth_size]
  refine lc_fl (tb := tb) (sel := fun x => .int x.2.2) hk.fi (fun i hi => ?_) ?_
  · unfold e_law_2
    simp only [↓kn_q, ↓kn_e, ↓kq_q, ↓kp_p, ↓ps_nx, ↓ps_rt, ↓ps_bk, ↓ps_ct, ↓ps_ex, ↓tkV_val, ↓tkV_own, ↓tkVR_val, ↓tkVR_own, ↓tkO_own, ↓tkA_val, ↓tkB_bl, ↓tkI_int, ↓tkStr_str, ↓tkC_obj, ↓tkSm_some, ↓tkSm_map, ↓tkSm_bind, ↓tkSm_ite, ↓tkP_t, ↓tkIf_t, ↓tkIf_f, ↓tkT_t, ↓tk_ok, ↓tk_exc, ↓tk_bind, ↓tk_lift, ↓tks_nx, ↓tks_rt, ↓tks_eS, ↓tks_seq, ↓tks_next, ↓tks_brk, ↓tks_cnt, ↓tks_drop, ↓tks_ret, ↓tks_retN, ↓tks_if, ↓tks_frz, ↓tks_set, ↓tks_setO, ↓tks_par, ↓tks_mut, ↓tks_app, ↓tks_store, ↓tks_fld, ↓tks_aug, ↓tks_for, ↓tks_for0, ↓tk_var, ↓tk_varR, ↓tk_c, ↓tk_bin, ↓tk_test, ↓tk_tnot, ↓tk_yes, ↓tk_tand, ↓tk_tor, ↓tk_call, ↓tk_fn, ↓tk_mkF, ↓tk_nil, ↓tk_cons, ↓tk_attr, ↓tk_meth, ↓tk_xif, ↓tk_seqI, ↓tk_enum, ↓tk_rng1, ↓tk_rng2, ↓tk_loc, ↓tk_lc, ↓tk_neg, ↓tk_no, ↓tk_part, ↓tk_sl, ↓tk_xsNil, ↓tk_xsV, ↓tk_xsO, ↓tk_xnot, ↓tk_xand, ↓tk_xor, ↓tk_lst, ↓tk_tup, ↓tk_sz, ↓tk_chain, ↓tk_s1, ↓tk_maxDf, ↓tk_star, List.getElem?_cons_zero, List.getElem?_cons_succ, List.set_cons_zero, List.set_cons_succ, List.map_cons, List.map_nil, List.cons_append, List.nil_append, List.append_assoc, tkJ_own, frzG, putS, wipeG, pVar, pTup, psCons, psNil, atD, ixD_lst, ixD_tup, ixD_scr, at_0, at_1, at_2, at_3, at_4, at_5, at_6, at_7, lenD, intC, absC, max2C, min2C, addD, intD, cmpD, yesC, slD, seqD, enumD, stD, sumC, allC, anyC, tupC, maxC, Option.bind_some, Option.map_some, List.lookup_cons, List.lookup_nil, List.length_cons, List.length_nil, Bool.not_true, Bool.not_false, Bool.and_self, Bool.true_and, Bool.and_true, Bool.false_and, Bool.and_false, Bool.or_true, Bool.true_or, Bool.false_or, Bool.or_false, reduceIte, decide_true, decide_false, if_true, if_false, List.replicate_succ, List.replicate_zero, Nat.reduceAdd, Nat.reduceSub, Nat.zero_add, List.mem_cons, List.not_mem_nil, or_false, false_or, not_false_eq_true, reduceCtorEq, ne_eq, and_self, and_true, true_and, Nat.reduceLT, Nat.reduceLeDiff, beq_self_eq_true, Nat.reduceEqDiff, Nat.add_one_ne_zero, modC, divC, mulC, powC, Int.reduceLT, Int.reduceLE, Int.reduceNeg, Int.reducePow, Int.reduceToNat, Int.reduceEq, Nat.reducePow, Int.zero_add, eqL, eqD, eqB, neD, isD, sz_0, sz_1, sz_2, sz_3, sz_4, sz_5, sz_6, sz_7, sz_8, sz_9, sz_10, sz_11, sz_12, sz_13, sz_14, sz_15, sz_16, sz_17, sz_18, sz_19, sz_20, sz_21, sz_22, sz_23, sz_24, sz_25, sz_26, sz_27, sz_28, sz_29, sz_30, nc_0, nc_1, nc_2, nc_3, nc_4, nc_5, nc_6, nc_7, nc_8, nc_9, nc_10, nc_11, nc_12, nc_13, nc_14, nc_15, nc_16, nc_17, nc_18, nc_19, nc_20, nc_21, nc_22, nc_23, nc_24, nc_25, nc_26, nc_27, nc_28, nc_29, nc_30, isiT, isiK, isiC, isiM, tyNames, tagD, tb0_NoneType, tb0_bool, tb0_int, tb0_str, tb0_tuple, tb0_list, tb0_Tree, tb1_NoneType, tb1_bool, tb1_int, tb1_str, tb1_tuple, tb1_list, tb1_Tree, tb2_NoneType, tb2_bool, tb2_int, tb2_str, tb2_tuple, tb2_list, tb2_Tree, tb3_NoneType, tb3_bool, tb3_int, tb3_str, tb3_tuple, tb3_list, tb3_Tree, tb4_NoneType, tb4_bool, tb4_int, tb4_str, tb4_tuple, tb4_list, tb4_Tree, tb5_NoneType, tb5_bool, tb5_int, tb5_str, tb5_tuple, tb5_list, tb5_Tree, tb6_NoneType, tb6_bool, tb6_int, tb6_str, tb6_tuple, tb6_list, tb6_Tree, nq_kind_children, nb_kind_children, nq_kind_size, nb_kind_size, nq_kind_depth, nb_kind_depth, nq_children_kind, nb_children_kind, nq_children_size, nb_children_size, nq_children_depth, nb_children_depth, nq_size_kind, nb_size_kind, nq_size_children, nb_size_children, nq_size_depth, nb_size_depth, nq_depth_kind, nb_depth_kind, nq_depth_children, nb_depth_children, nq_depth_size, nb_depth_size, at_pk hi]
  simp only [↓kn_q, ↓kn_e, ↓kq_q, ↓kp_p, ↓ps_nx, ↓ps_rt, ↓ps_bk, ↓ps_ct, ↓ps_ex, ↓tkV_val, ↓tkV_own, ↓tkVR_val, ↓tkVR_own, ↓tkO_own, ↓tkA_val, ↓tkB_bl, ↓tkI_int, ↓tkStr_str, ↓tkC_obj, ↓tkSm_some, ↓tkSm_map, ↓tkSm_bind, ↓tkSm_ite, ↓tkP_t, ↓tkIf_t, ↓tkIf_f, ↓tkT_t, ↓tk_ok, ↓tk_exc, ↓tk_bind, ↓tk_lift, ↓tks_nx, ↓tks_rt, ↓tks_eS, ↓tks_seq, ↓tks_next, ↓tks_brk, ↓tks_cnt, ↓tks_drop, ↓tks_ret, ↓tks_retN, ↓tks_if, ↓tks_frz, ↓tks_set, ↓tks_setO, ↓tks_par, ↓tks_mut, ↓tks_app, ↓tks_store, ↓tks_fld, ↓tks_aug, ↓tks_for, ↓tks_for0, ↓tk_var, ↓tk_varR, ↓tk_c, ↓tk_bin, ↓tk_test, ↓tk_tnot, ↓tk_yes, ↓tk_tand, ↓tk_tor, ↓tk_call, ↓tk_fn, ↓tk_mkF, ↓tk_nil, ↓tk_cons, ↓tk_attr, ↓tk_meth, ↓tk_xif, ↓tk_seqI, ↓tk_enum, ↓tk_rng1, ↓tk_rng2, ↓tk_loc, ↓tk_lc, ↓tk_neg, ↓tk_no, ↓tk_part, ↓tk_sl, ↓tk_xsNil, ↓tk_xsV, ↓tk_xsO, ↓tk_xnot, ↓tk_xand, ↓tk_xor, ↓tk_lst, ↓tk_tup, ↓tk_sz, ↓tk_chain, ↓tk_s1, ↓tk_maxDf, ↓tk_star, List.getElem?_cons_zero, List.getElem?_cons_succ, List.set_cons_zero, List.set_cons_succ, List.map_cons, List.map_nil, List.cons_append, List.nil_append, List.append_assoc, tkJ_own, frzG, putS, wipeG, pVar, pTup, psCons, psNil, atD, ixD_lst, ixD_tup, ixD_scr, at_0, at_1, at_2, at_3, at_4, at_5, at_6, at_7, lenD, intC, absC, max2C, min2C, addD, intD, cmpD, yesC, slD, seqD, enumD, stD, sumC, allC, anyC, tupC, maxC, Option.bind_some, Option.map_some, List.lookup_cons, List.lookup_nil, List.length_cons, List.length_nil, Bool.not_true, Bool.not_false, Bool.and_self, Bool.true_and, Bool.and_true, Bool.false_and, Bool.and_false, Bool.or_true, Bool.true_or, Bool.false_or, Bool.or_false, reduceIte, decide_true, decide_false, if_true, if_false, List.replicate_succ, List.replicate_zero, Nat.reduceAdd, Nat.reduceSub, Nat.zero_add, List.mem_cons, List.not_mem_nil, or_false, false_or, not_false_eq_true, reduceCtorEq, ne_eq, and_self, and_true, true_and, Nat.reduceLT, Nat.reduceLeDiff, beq_self_eq_true, Nat.reduceEqDiff, Nat.add_one_ne_zero, modC, divC, mulC, powC, Int.reduceLT, Int.reduceLE, Int.reduceNeg, Int.reducePow, Int.reduceToNat, Int.reduceEq, Nat.reducePow, Int.zero_add, eqL, eqD, eqB, neD, isD, sz_0, sz_1, sz_2, sz_3, sz_4, sz_5, sz_6, sz_7, sz_8, sz_9, sz_10, sz_11, sz_12, sz_13, sz_14, sz_15, sz_16, sz_17, sz_18, sz_19, sz_20, sz_21, sz_22, sz_23, sz_24, sz_25, sz_26, sz_27, sz_28, sz_29, sz_30, nc_0, nc_1, nc_2, nc_3, nc_4, nc_5, nc_6, nc_7, nc_8, nc_9, nc_10, nc_11, nc_12, nc_13, nc_14, nc_15, nc_16, nc_17, nc_18, nc_19, nc_20, nc_21, nc_22, nc_23, nc_24, nc_25, nc_26, nc_27, nc_28, nc_29, nc_30, isiT, isiK, isiC, isiM, tyNames, tagD, tb0_NoneType, tb0_bool, tb0_int, tb0_str, tb0_tuple, tb0_list, tb0_Tree, tb1_NoneType, tb1_bool, tb1_int, tb1_str, tb1_tuple, tb1_list, tb1_Tree, tb2_NoneType, tb2_bool, tb2_int, tb2_str, tb2_tuple, tb2_list, tb2_Tree, tb3_NoneType, tb3_bool, tb3_int, tb3_str, tb3_tuple, tb3_list, tb3_Tree, tb4_NoneType, tb4_bool, tb4_int, tb4_str, tb4_tuple, tb4_list, tb4_Tree, tb5_NoneType, tb5_bool, tb5_int, tb5_str, tb5_tuple, tb5_list, tb5_Tree, tb6_NoneType, tb6_bool, tb6_int, tb6_str, tb6_tuple, tb6_list, tb6_Tree, nq_kind_children, nb_kind_children, nq_kind_size, nb_kind_size, nq_kind_depth, nb_kind_depth, nq_children_kind, nb_children_kind, nq_children_size, nb_children_size, nq_children_depth, nb_children_depth, nq_size_kind, nb_size_kind, nq_size_children, nb_size_children, nq_size_depth, nb_size_depth, nq_depth_kind, nb_depth_kind, nq_depth_children, nb_depth_children, nq_depth_size, nb_depth_size]
  refine tkP_of (sz_of (by rw [List.length_map, List.length_map]; omega)) ?_
  have hge : ∀ y ∈ (fl.map (pk tb)).map (·.2.2), (0 : Int) ≤ y := fun y hy => by
    obtain ⟨z, hz, rfl⟩ := List.mem_map.mp hy
    obtain ⟨i, hi, rfl⟩ := List.mem_map.mp hz
    exact (ht.pk (hk.fi i hi)).pos
  simp only [↓kn_q, ↓kn_e, ↓kq_q, ↓kp_p, ↓ps_nx, ↓ps_rt, ↓ps_bk, ↓ps_ct, ↓ps_ex, ↓tkV_val, ↓tkV_own, ↓tkVR_val, ↓tkVR_own, ↓tkO_own, ↓tkA_val, ↓tkB_bl, ↓tkI_int, ↓tkStr_str, ↓tkC_obj, ↓tkSm_some, ↓tkSm_map, ↓tkSm_bind, ↓tkSm_ite, ↓tkP_t, ↓tkIf_t, ↓tkIf_f, ↓tkT_t, ↓tk_ok, ↓tk_exc, ↓tk_bind, ↓tk_lift, ↓tks_nx, ↓tks_rt, ↓tks_eS, ↓tks_seq, ↓tks_next, ↓tks_brk, ↓tks_cnt, ↓tks_drop, ↓tks_ret, ↓tks_retN, ↓tks_if, ↓tks_frz, ↓tks_set, ↓tks_setO, ↓tks_par, ↓tks_mut, ↓tks_app, ↓tks_store, ↓tks_fld, ↓tks_aug, ↓tks_for, ↓tks_for0, ↓tk_var, ↓tk_varR, ↓tk_c, ↓tk_bin, ↓tk_test, ↓tk_tnot, ↓tk_yes, ↓tk_tand, ↓tk_tor, ↓tk_call, ↓tk_fn, ↓tk_mkF, ↓tk_nil, ↓tk_cons, ↓tk_attr, ↓tk_meth, ↓tk_xif, ↓tk_seqI, ↓tk_enum, ↓tk_rng1, ↓tk_rng2, ↓tk_loc, ↓tk_lc, ↓tk_neg, ↓tk_no, ↓tk_part, ↓tk_sl, ↓tk_xsNil, ↓tk_xsV, ↓tk_xsO, ↓tk_xnot, ↓tk_xand, ↓tk_xor, ↓tk_lst, ↓tk_tup, ↓tk_sz, ↓tk_chain, ↓tk_s1, ↓tk_maxDf, ↓tk_star, List.getElem?_cons_zero, List.getElem?_cons_succ, List.set_cons_zero, List.set_cons_succ, List.map_cons, List.map_nil, List.cons_append, List.nil_append, List.append_assoc, tkJ_own, frzG, putS, wipeG, pVar, pTup, psCons, psNil, atD, ixD_lst, ixD_tup, ixD_scr, at_0, at_1, at_2, at_3, at_4, at_5, at_6, at_7, lenD, intC, absC, max2C, min2C, addD, intD, cmpD, yesC, slD, seqD, enumD, stD, sumC, allC, anyC, tupC, maxC, Option.bind_some, Option.map_some, List.lookup_cons, List.lookup_nil, List.length_cons, List.length_nil, Bool.not_true, Bool.not_false, Bool.and_self, Bool.true_and, Bool.and_true, Bool.false_and, Bool.and_false, Bool.or_true, Bool.true_or, Bool.false_or, Bool.or_false, reduceIte, decide_true, decide_false, if_true, if_false, List.replicate_succ, List.replicate_zero, Nat.reduceAdd, Nat.reduceSub, Nat.zero_add, List.mem_cons, List.not_mem_nil, or_false, false_or, not_false_eq_true, reduceCtorEq, ne_eq, and_self, and_true, true_and, Nat.reduceLT, Nat.reduceLeDiff, beq_self_eq_true, Nat.reduceEqDiff, Nat.add_one_ne_zero, modC, divC, mulC, powC, Int.reduceLT, Int.reduceLE, Int.reduceNeg, Int.reducePow, Int.reduceToNat, Int.reduceEq, Nat.reducePow, Int.zero_add, eqL, eqD, eqB, neD, isD, sz_0, sz_1, sz_2, sz_3, sz_4, sz_5, sz_6, sz_7, sz_8, sz_9, sz_10, sz_11, sz_12, sz_13, sz_14, sz_15, sz_16, sz_17, sz_18, sz_19, sz_20, sz_21, sz_22, sz_23, sz_24, sz_25, sz_26, sz_27, sz_28, sz_29, sz_30, nc_0, nc_1, nc_2, nc_3, nc_4, nc_5, nc_6, nc_7, nc_8, nc_9, nc_10, nc_11, nc_12, nc_13, nc_14, nc_15, nc_16, nc_17, nc_18, nc_19, nc_20, nc_21, nc_22, nc_23, nc_24, nc_25, nc_26, nc_27, nc_28, nc_29, nc_30, isiT, isiK, isiC, isiM, tyNames, tagD, tb0_NoneType, tb0_bool, tb0_int, tb0_str, tb0_tuple, tb0_list, tb0_Tree, tb1_NoneType, tb1_bool, tb1_int, tb1_str, tb1_tuple, tb1_list, tb1_Tree, tb2_NoneType, tb2_bool, tb2_int, tb2_str, tb2_tuple, tb2_list, tb2_Tree, tb3_NoneType, tb3_bool, tb3_int, tb3_str, tb3_tuple, tb3_list, tb3_Tree, tb4_NoneType, tb4_bool, tb4_int, tb4_str, tb4_tuple, tb4_list, tb4_Tree, tb5_NoneType, tb5_bool, tb5_int, tb5_str, tb5_tuple, tb5_list, tb5_Tree, tb6_NoneType, tb6_bool, tb6_int, tb6_str, tb6_tuple, tb6_list, tb6_Tree, nq_kind_children, nb_kind_children, nq_kind_size, nb_kind_size, nq_kind_depth, nb_kind_depth, nq_children_kind, nb_children_kind, nq_children_size, nb_children_size, nq_children_depth, nb_children_depth, nq_size_kind, nb_size_kind, nq_size_children, nb_size_children, nq_size_depth, nb_size_depth, nq_depth_kind, nb_depth_kind, nq_depth_children, nb_depth_children, nq_depth_size, nb_depth_size, ints_app0, maxI_zero hge]
  refine tkT_of (sz_of (by rw [List.length_map]; omega)) ?_
  simp only [↓kn_q, ↓kn_e, ↓kq_q, ↓kp_p, ↓ps_nx, ↓ps_rt, ↓ps_bk, ↓ps_ct, ↓ps_ex, ↓tkV_val, ↓tkV_own, ↓tkVR_val, ↓tkVR_own, ↓tkO_own, ↓tkA_val, ↓tkB_bl, ↓tkI_int, ↓tkStr_str, ↓tkC_obj, ↓tkSm_some, ↓tkSm_map, ↓tkSm_bind, ↓tkSm_ite, ↓tkP_t, ↓tkIf_t, ↓tkIf_f, ↓tkT_t, ↓tk_ok, ↓tk_exc, ↓tk_bind, ↓tk_lift, ↓tks_nx, ↓tks_rt, ↓tks_eS, ↓tks_seq, ↓tks_next, ↓tks_brk, ↓tks_cnt, ↓tks_drop, ↓tks_ret, ↓tks_retN, ↓tks_if, ↓tks_frz, ↓tks_set, ↓tks_setO, ↓tks_par, ↓tks_mut, ↓tks_app, ↓tks_store, ↓tks_fld, ↓tks_aug, ↓tks_for, ↓tks_for0, ↓tk_var, ↓tk_varR, ↓tk_c, ↓tk_bin, ↓tk_test, ↓tk_tnot, ↓tk_yes, ↓tk_tand, ↓tk_tor, ↓tk_call, ↓tk_fn, ↓tk_mkF, ↓tk_nil, ↓tk_cons, ↓tk_attr, ↓tk_meth, ↓tk_xif, ↓tk_seqI, ↓tk_enum, ↓tk_rng1, ↓tk_rng2, ↓tk_loc, ↓tk_lc, ↓tk_neg, ↓tk_no, ↓tk_part, ↓tk_sl, ↓tk_xsNil, ↓tk_xsV, ↓tk_xsO, ↓tk_xnot, ↓tk_xand, ↓tk_xor, ↓tk_lst, ↓tk_tup, ↓tk_sz, ↓tk_chain, ↓tk_s1, ↓tk_maxDf, ↓tk_star, List.getElem?_cons_zero, List.getElem?_cons_succ, List.set_cons_zero, List.set_cons_succ, List.map_cons, List.map_nil, List.cons_append, List.nil_append, List.append_assoc, tkJ_own, frzG, putS, wipeG, pVar, pTup, psCons, psNil, atD, ixD_lst, ixD_tup, ixD_scr, at_0, at_1, at_2, at_3, at_4, at_5, at_6, at_7, lenD, intC, absC, max2C, min2C, addD, intD, cmpD, yesC, slD, seqD, enumD, stD, sumC, allC, anyC, tupC, maxC, Option.bind_some, Option.map_some, List.lookup_cons, List.lookup_nil, List.length_cons, List.length_nil, Bool.not_true, Bool.not_false, Bool.and_self, Bool.true_and, Bool.and_true, Bool.false_and, Bool.and_false, Bool.or_true, Bool.true_or, Bool.false_or, Bool.or_false, reduceIte, decide_true, decide_false, if_true, if_false, List.replicate_succ, List.replicate_zero, Nat.reduceAdd, Nat.reduceSub, Nat.zero_add, List.mem_cons, List.not_mem_nil, or_false, false_or, not_false_eq_true, reduceCtorEq, ne_eq, and_self, and_true, true_and, Nat.reduceLT, Nat.reduceLeDiff, beq_self_eq_true, Nat.reduceEqDiff, Nat.add_one_ne_zero, modC, divC, mulC, powC, Int.reduceLT, Int.reduceLE, Int.reduceNeg, Int.reducePow, Int.reduceToNat, Int.reduceEq, Nat.reducePow, Int.zero_add, eqL, eqD, eqB, neD, isD, sz_0, sz_1, sz_2, sz_3, sz_4, sz_5, sz_6, sz_7, sz_8, sz_9, sz_10, sz_11, sz_12, sz_13, sz_14, sz_15, sz_16, sz_17, sz_18, sz_19, sz_20, sz_21, sz_22, sz_23, sz_24, sz_25, sz_26, sz_27, sz_28, sz_29, sz_30, nc_0, nc_1, nc_2, nc_3, nc_4, nc_5, nc_6, nc_7, nc_8, nc_9, nc_10, nc_11, nc_12, nc_13, nc_14, nc_15, nc_16, nc_17, nc_18, nc_19, nc_20, nc_21, nc_22, nc_23, nc_24, nc_25, nc_26, nc_27, nc_28, nc_29, nc_30, isiT, isiK, isiC, isiM, tyNames, tagD, tb0_NoneType, tb0_bool, tb0_int, tb0_str, tb0_tuple, tb0_list, tb0_Tree, tb1_NoneType, tb1_bool, tb1_int, tb1_str, tb1_tuple, tb1_list, tb1_Tree, tb2_NoneType, tb2_bool, tb2_int, tb2_str, tb2_tuple, tb2_list, tb2_Tree, tb3_NoneType, tb3_bool, tb3_int, tb3_str, tb3_tuple, tb3_list, tb3_Tree, tb4_NoneType, tb4_bool, tb4_int, tb4_str, tb4_tuple, tb4_list, tb4_Tree, tb5_NoneType, tb5_bool, tb5_int, tb5_str, tb5_tuple, tb5_list, tb5_Tree, tb6_NoneType, tb6_bool, tb6_int, tb6_str, tb6_tuple, tb6_list, tb6_Tree, nq_kind_children, nb_kind_children, nq_kind_size, nb_kind_size, nq_kind_depth, nb_kind_depth, nq_children_kind, nb_children_kind, nq_children_size, nb_children_size, nq_children_depth, nb_children_depth, nq_size_kind, nb_size_kind, nq_size_children, nb_size_children, nq_size_depth, nb_size_depth, nq_depth_kind, nb_depth_kind, nq_depth_children, nb_depth_children, nq_depth_size, nb_depth_size, et, at_last]
  refine isnum_spec ?_
  simp only [↓kn_q, ↓kn_e, ↓kq_q, ↓kp_p, ↓ps_nx, ↓ps_rt, ↓ps_bk, ↓ps_ct, ↓ps_ex, ↓tkV_val, ↓tkV_own, ↓tkVR_val, ↓tkVR_own, ↓tkO_own, ↓tkA_val, ↓tkB_bl, ↓tkI_int, ↓tkStr_str, ↓tkC_obj, ↓tkSm_some, ↓tkSm_map, ↓tkSm_bind, ↓tkSm_ite, ↓tkP_t, ↓tkIf_t, ↓tkIf_f, ↓tkT_t, ↓tk_ok, ↓tk_exc, ↓tk_bind, ↓tk_lift, ↓tks_nx, ↓tks_rt, ↓tks_eS, ↓tks_seq, ↓tks_next, ↓tks_brk, ↓tks_cnt, ↓tks_drop, ↓tks_ret, ↓tks_retN, ↓tks_if, ↓tks_frz, ↓tks_set, ↓tks_setO, ↓tks_par, ↓tks_mut, ↓tks_app, ↓tks_store, ↓tks_fld, ↓tks_aug, ↓tks_for, ↓tks_for0, ↓tk_var, ↓tk_varR, ↓tk_c, ↓tk_bin, ↓tk_test, ↓tk_tnot, ↓tk_yes, ↓tk_tand, ↓tk_tor, ↓tk_call, ↓tk_fn, ↓tk_mkF, ↓tk_nil, ↓tk_cons, ↓tk_attr, ↓tk_meth, ↓tk_xif, ↓tk_seqI, ↓tk_enum, ↓tk_rng1, ↓tk_rng2, ↓tk_loc, ↓tk_lc, ↓tk_neg, ↓tk_no, ↓tk_part, ↓tk_sl, ↓tk_xsNil, ↓tk_xsV, ↓tk_xsO, ↓tk_xnot, ↓tk_xand, ↓tk_xor, ↓tk_lst, ↓tk_tup, ↓tk_sz, ↓tk_chain, ↓tk_s1, ↓tk_maxDf, ↓tk_star, List.getElem?_cons_zero, List.getElem?_cons_succ, List.set_cons_zero, List.set_cons_succ, List.map_cons, List.map_nil, List.cons_append, List.nil_append, List.append_assoc, tkJ_own, frzG, putS, wipeG, pVar, pTup, psCons, psNil, atD, ixD_lst, ixD_tup, ixD_scr, at_0, at_1, at_2, at_3, at_4, at_5, at_6, at_7, lenD, intC, absC, max2C, min2C, addD, intD, cmpD, yesC, slD, seqD, enumD, stD, sumC, allC, anyC, tupC, maxC, Option.bind_some, Option.map_some, List.lookup_cons, List.lookup_nil, List.length_cons, List.length_nil, Bool.not_true, Bool.not_false, Bool.and_self, Bool.true_and, Bool.and_true, Bool.false_and, Bool.and_false, Bool.or_true, Bool.true_or, Bool.false_or, Bool.or_false, reduceIte, decide_true, decide_false, if_true, if_false, List.replicate_succ, List.replicate_zero, Nat.reduceAdd, Nat.reduceSub, Nat.zero_add, List.mem_cons, List.not_mem_nil, or_false, false_or, not_false_eq_true, reduceCtorEq, ne_eq, and_self, and_true, true_and, Nat.reduceLT, Nat.reduceLeDiff, beq_self_eq_true, Nat.reduceEqDiff, Nat.add_one_ne_zero, modC, divC, mulC, powC, Int.reduceLT, Int.reduceLE, Int.reduceNeg, Int.reducePow, Int.reduceToNat, Int.reduceEq, Nat.reducePow, Int.zero_add, eqL, eqD, eqB, neD, isD, sz_0, sz_1, sz_2, sz_3, sz_4, sz_5, sz_6, sz_7, sz_8, sz_9, sz_10, sz_11, sz_12, sz_13, sz_14, sz_15, sz_16, sz_17, sz_18, sz_19, sz_20, sz_21, sz_22, sz_23, sz_24, sz_25, sz_26, sz_27, sz_28, sz_29, sz_30, nc_0, nc_1, nc_2, nc_3, nc_4, nc_5, nc_6, nc_7, nc_8, nc_9, nc_10, nc_11, nc_12, nc_13, nc_14, nc_15, nc_16, nc_17, nc_18, nc_19, nc_20, nc_21, nc_22, nc_23, nc_24, nc_25, nc_26, nc_27, nc_28, nc_29, nc_30, isiT, isiK, isiC, isiM, tyNames, tagD, tb0_NoneType, tb0_bool, tb0_int, tb0_str, tb0_tuple, tb0_list, tb0_Tree, tb1_NoneType, tb1_bool, tb1_int, tb1_str, tb1_tuple, tb1_list, tb1_Tree, tb2_NoneType, tb2_bool, tb2_int, tb2_str, tb2_tuple, tb2_list, tb2_Tree, tb3_NoneType, tb3_bool, tb3_int, tb3_str, tb3_tuple, tb3_list, tb3_Tree, tb4_NoneType, tb4_bool, tb4_int, tb4_str, tb4_tuple, tb4_list, tb4_Tree, tb5_NoneType, tb5_bool, tb5_int, tb5_str, tb5_tuple, tb5_list, tb5_Tree, tb6_NoneType, tb6_bool, tb6_int, tb6_str, tb6_tuple, tb6_list, tb6_Tree, nq_kind_children, nb_kind_children, nq_kind_size, nb_kind_size, nq_kind_depth, nb_kind_depth, nq_children_kind, nb_children_kind, nq_children_size, nb_children_size, nq_children_depth, nb_children_depth, nq_size_kind, nb_size_kind, nq_size_children, nb_size_children, nq_size_depth, nb_size_depth, nq_depth_kind, nb_depth_kind, nq_depth_children, nb_depth_children, nq_depth_size, nb_depth_size, et, at_last]
  refine isnum_spec ?_
  simp only [↓kn_q, ↓kn_e, ↓kq_q, ↓kp_p, ↓ps_nx, ↓ps_rt, ↓ps_bk, ↓ps_ct, ↓ps_ex, ↓tkV_val, ↓tkV_own, ↓tkVR_val, ↓tkVR_own, ↓tkO_own, ↓tkA_val, ↓tkB_bl, ↓tkI_int, ↓tkStr_str, ↓tkC_obj, ↓tkSm_some, ↓tkSm_map, ↓tkSm_bind, ↓tkSm_ite, ↓tkP_t, ↓tkIf_t, ↓tkIf_f, ↓tkT_t, ↓tk_ok, ↓tk_exc, ↓tk_bind, ↓tk_lift, ↓tks_nx, ↓tks_rt, ↓tks_eS, ↓tks_seq, ↓tks_next, ↓tks_brk, ↓tks_cnt, ↓tks_drop, ↓tks_ret, ↓tks_retN, ↓tks_if, ↓tks_frz, ↓tks_set, ↓tks_setO, ↓tks_par, ↓tks_mut, ↓tks_app, ↓tks_store, ↓tks_fld, ↓tks_aug, ↓tks_for, ↓tks_for0, ↓tk_var, ↓tk_varR, ↓tk_c, ↓tk_bin, ↓tk_test, ↓tk_tnot, ↓tk_yes, ↓tk_tand, ↓tk_tor, ↓tk_call, ↓tk_fn, ↓tk_mkF, ↓tk_nil, ↓tk_cons, ↓tk_attr, ↓tk_meth, ↓tk_xif, ↓tk_seqI, ↓tk_enum, ↓tk_rng1, ↓tk_rng2, ↓tk_loc, ↓tk_lc, ↓tk_neg, ↓tk_no, ↓tk_part, ↓tk_sl, ↓tk_xsNil, ↓tk_xsV, ↓tk_xsO, ↓tk_xnot, ↓tk_xand, ↓tk_xor, ↓tk_lst, ↓tk_tup, ↓tk_sz, ↓tk_chain, ↓tk_s1, ↓tk_maxDf, ↓tk_star, List.getElem?_cons_zero, List.getElem?_cons_succ, List.set_cons_zero, List.set_cons_succ, List.map_cons, List.map_nil, List.cons_append, List.nil_append, List.append_assoc, tkJ_own, frzG, putS, wipeG, pVar, pTup, psCons, psNil, atD, ixD_lst, ixD_tup, ixD_scr, at_0, at_1, at_2, at_3, at_4, at_5, at_6, at_7, lenD, intC, absC, max2C, min2C, addD, intD, cmpD, yesC, slD, seqD, enumD, stD, sumC, allC, anyC, tupC, maxC, Option.bind_some, Option.map_some, List.lookup_cons, List.lookup_nil, List.length_cons, List.length_nil, Bool.not_true, Bool.not_false, Bool.and_self, Bool.true_and, Bool.and_true, Bool.false_and, Bool.and_false, Bool.or_true, Bool.true_or, Bool.false_or, Bool.or_false, reduceIte, decide_true, decide_false, if_true, if_false, List.replicate_succ, List.replicate_zero, Nat.reduceAdd, Nat.reduceSub, Nat.zero_add, List.mem_cons, List.not_mem_nil, or_false, false_or, not_false_eq_true, reduceCtorEq, ne_eq, and_self, and_true, true_and, Nat.reduceLT, Nat.reduceLeDiff, beq_self_eq_true, Nat.reduceEqDiff, Nat.add_one_ne_zero, modC, divC, mulC, powC, Int.reduceLT, Int.reduceLE, Int.reduceNeg, Int.reducePow, Int.reduceToNat, Int.reduceEq, Nat.reducePow, Int.zero_add, eqL, eqD, eqB, neD, isD, sz_0, sz_1, sz_2, sz_3, sz_4, sz_5, sz_6, sz_7, sz_8, sz_9, sz_10, sz_11, sz_12, sz_13, sz_14, sz_15, sz_16, sz_17, sz_18, sz_19, sz_20, sz_21, sz_22, sz_23, sz_24, sz_25, sz_26, sz_27, sz_28, sz_29, sz_30, nc_0, nc_1, nc_2, nc_3, nc_4, nc_5, nc_6, nc_7, nc_8, nc_9, nc_10, nc_11, nc_12, nc_13, nc_14, nc_15, nc_16, nc_17, nc_18, nc_19, nc_20, nc_21, nc_22, nc_23, nc_24, nc_25, nc_26, nc_27, nc_28, nc_29, nc_30, isiT, isiK, isiC, isiM, tyNames, tagD, tb0_NoneType, tb0_bool, tb0_int, tb0_str, tb0_tuple, tb0_list, tb0_Tree, tb1_NoneType, tb1_bool, tb1_int, tb1_str, tb1_tuple, tb1_list, tb1_Tree, tb2_NoneType, tb2_bool, tb2_int, tb2_str, tb2_tuple, tb2_list, tb2_Tree, tb3_NoneType, tb3_bool, tb3_int, tb3_str, tb3_tuple, tb3_list, tb3_Tree, tb4_NoneType, tb4_bool, tb4_int, tb4_str, tb4_tuple, tb4_list, tb4_Tree, tb5_NoneType, tb5_bool, tb5_int, tb5_str, tb5_tuple, tb5_list, tb5_Tree, tb6_NoneType, tb6_bool, tb6_int, tb6_str, tb6_tuple, tb6_list, tb6_Tree, nq_kind_children, nb_kind_children, nq_kind_size, nb_kind_size, nq_kind_depth, nb_kind_depth, nq_children_kind, nb_children_kind, nq_children_size, nb_children_size, nq_children_depth, nb_children_depth, nq_size_kind, nb_size_kind, nq_size_children, nb_size_children, nq_size_depth, nb_size_depth, nq_depth_kind, nb_depth_kind, nq_depth_children, nb_depth_children, nq_depth_size, nb_depth_size]
  refine tkT_of (sz_of (by rw [List.length_map]; omega)) ?_
  simp only [↓kn_q, ↓kn_e, ↓kq_q, ↓kp_p, ↓ps_nx, ↓ps_rt, ↓ps_bk, ↓ps_ct, ↓ps_ex, ↓tkV_val, ↓tkV_own, ↓tkVR_val, ↓tkVR_own, ↓tkO_own, ↓tkA_val, ↓tkB_bl, ↓tkI_int, ↓tkStr_str, ↓tkC_obj, ↓tkSm_some, ↓tkSm_map, ↓tkSm_bind, ↓tkSm_ite, ↓tkP_t, ↓tkIf_t, ↓tkIf_f, ↓tkT_t, ↓tk_ok, ↓tk_exc, ↓tk_bind, ↓tk_lift, ↓tks_nx, ↓tks_rt, ↓tks_eS, ↓tks_seq, ↓tks_next, ↓tks_brk, ↓tks_cnt, ↓tks_drop, ↓tks_ret, ↓tks_retN, ↓tks_if, ↓tks_frz, ↓tks_set, ↓tks_setO, ↓tks_par, ↓tks_mut, ↓tks_app, ↓tks_store, ↓tks_fld, ↓tks_aug, ↓tks_for, ↓tks_for0, ↓tk_var, ↓tk_varR, ↓tk_c, ↓tk_bin, ↓tk_test, ↓tk_tnot, ↓tk_yes, ↓tk_tand, ↓tk_tor, ↓tk_call, ↓tk_fn, ↓tk_mkF, ↓tk_nil, ↓tk_cons, ↓tk_attr, ↓tk_meth, ↓tk_xif, ↓tk_seqI, ↓tk_enum, ↓tk_rng1, ↓tk_rng2, ↓tk_loc, ↓tk_lc, ↓tk_neg, ↓tk_no, ↓tk_part, ↓tk_sl, ↓tk_xsNil, ↓tk_xsV, ↓tk_xsO, ↓tk_xnot, ↓tk_xand, ↓tk_xor, ↓tk_lst, ↓tk_tup, ↓tk_sz, ↓tk_chain, ↓tk_s1, ↓tk_maxDf, ↓tk_star, List.getElem?_cons_zero, List.getElem?_cons_succ, List.set_cons_zero, List.set_cons_succ, List.map_cons, List.map_nil, List.cons_append, List.nil_append, List.append_assoc, tkJ_own, frzG, putS, wipeG, pVar, pTup, psCons, psNil, atD, ixD_lst, ixD_tup, ixD_scr, at_0, at_1, at_2, at_3, at_4, at_5, at_6, at_7, lenD, intC, absC, max2C, min2C, addD, intD, cmpD, yesC, slD, seqD, enumD, stD, sumC, allC, anyC, tupC, maxC, Option.bind_some, Option.map_some, List.lookup_cons, List.lookup_nil, List.length_cons, List.length_nil, Bool.not_true, Bool.not_false, Bool.and_self, Bool.true_and, Bool.and_true, Bool.false_and, Bool.and_false, Bool.or_true, Bool.true_or, Bool.false_or, Bool.or_false, reduceIte, decide_true, decide_false, if_true, if_false, List.replicate_succ, List.replicate_zero, Nat.reduceAdd, Nat.reduceSub, Nat.zero_add, List.mem_cons, List.not_mem_nil, or_false, false_or, not_false_eq_true, reduceCtorEq, ne_eq, and_self, and_true, true_and, Nat.reduceLT, Nat.reduceLeDiff, beq_self_eq_true, Nat.reduceEqDiff, Nat.add_one_ne_zero, modC, divC, mulC, powC, Int.reduceLT, Int.reduceLE, Int.reduceNeg, Int.reducePow, Int.reduceToNat, Int.reduceEq, Nat.reducePow, Int.zero_add, eqL, eqD, eqB, neD, isD, sz_0, sz_1, sz_2, sz_3, sz_4, sz_5, sz_6, sz_7, sz_8, sz_9, sz_10, sz_11, sz_12, sz_13, sz_14, sz_15, sz_16, sz_17, sz_18, sz_19, sz_20, sz_21, sz_22, sz_23, sz_24, sz_25, sz_26, sz_27, sz_28, sz_29, sz_30, nc_0, nc_1, nc_2, nc_3, nc_4, nc_5, nc_6, nc_7, nc_8, nc_9, nc_10, nc_11, nc_12, nc_13, nc_14, nc_15, nc_16, nc_17, nc_18, nc_19, nc_20, nc_21, nc_22, nc_23, nc_24, nc_25, nc_26, nc_27, nc_28, nc_29, nc_30, isiT, isiK, isiC, isiM, tyNames, tagD, tb0_NoneType, tb0_bool, tb0_int, tb0_str, tb0_tuple, tb0_list, tb0_Tree, tb1_NoneType, tb1_bool, tb1_int, tb1_str, tb1_tuple, tb1_list, tb1_Tree, tb2_NoneType, tb2_bool, tb2_int, tb2_str, tb2_tuple, tb2_list, tb2_Tree, tb3_NoneType, tb3_bool, tb3_int, tb3_str, tb3_tuple, tb3_list, tb3_Tree, tb4_NoneType, tb4_bool, tb4_int, tb4_str, tb4_tuple, tb4_list, tb4_Tree, tb5_NoneType, tb5_bool, tb5_int, tb5_str, tb5_tuple, tb5_list, tb5_Tree, tb6_NoneType, tb6_bool, tb6_int, tb6_str, tb6_tuple, tb6_list, tb6_Tree, nq_kind_children, nb_kind_children, nq_kind_size, nb_kind_size, nq_kind_depth, nb_kind_depth, nq_children_kind, nb_children_kind, nq_children_size, nb_children_size, nq_children_depth, nb_children_depth, nq_size_kind, nb_size_kind, nq_size_children, nb_size_children, nq_size_depth, nb_size_depth, nq_depth_kind, nb_depth_kind, nq_depth_children, nb_depth_children, nq_depth_size, nb_depth_size]
  refine lc_fl (tb := tb) (sel := fun x => .tup [.int x.2.1, .int x.2.2]) hk.fi (fun i hi => ?_) ?_
  · unfold e_law_3
    simp only [↓kn_q, ↓kn_e, ↓kq_q, ↓kp_p, ↓ps_nx, ↓ps_rt, ↓ps_bk, ↓ps_ct, ↓ps_ex, ↓tkV_val, ↓tkV_own, ↓tkVR_val, ↓tkVR_own, ↓tkO_own, ↓tkA_val, ↓tkB_bl, ↓tkI_int, ↓tkStr_str, ↓tkC_obj, ↓tkSm_some, ↓tkSm_map, ↓tkSm_bind, ↓tkSm_ite, ↓tkP_t, ↓tkIf_t, ↓tkIf_f, ↓tkT_t, ↓tk_ok, ↓tk_exc, ↓tk_bind, ↓tk_lift, ↓tks_nx, ↓tks_rt, ↓tks_eS, ↓tks_seq, ↓tks_next, ↓tks_brk, ↓tks_cnt, ↓tks_drop, ↓tks_ret, ↓tks_retN, ↓tks_if, ↓tks_frz, ↓tks_set, ↓tks_setO, ↓tks_par, ↓tks_mut, ↓tks_app, ↓tks_store, ↓tks_fld, ↓tks_aug, ↓tks_for, ↓tks_for0, ↓tk_var, ↓tk_varR, ↓tk_c, ↓tk_bin, ↓tk_test, ↓tk_tnot, ↓tk_yes, ↓tk_tand, ↓tk_tor, ↓tk_call, ↓tk_fn, ↓tk_mkF, ↓tk_nil, ↓tk_cons, ↓tk_attr, ↓tk_meth, ↓tk_xif, ↓tk_seqI, ↓tk_enum, ↓tk_rng1, ↓tk_rng2, ↓tk_loc, ↓tk_lc, ↓tk_neg, ↓tk_no, ↓tk_part, ↓tk_sl, ↓tk_xsNil, ↓tk_xsV, ↓tk_xsO, ↓tk_xnot, ↓tk_xand, ↓tk_xor, ↓tk_lst, ↓tk_tup, ↓tk_sz, ↓tk_chain, ↓tk_s1, ↓tk_maxDf, ↓tk_star, List.getElem?_cons_zero, List.getElem?_cons_succ, List.set_cons_zero, List.set_cons_succ, List.map_cons, List.map_nil, List.cons_append, List.nil_append, List.append_assoc, tkJ_own, frzG, putS, wipeG, pVar, pTup, psCons, psNil, atD, ixD_lst, ixD_tup, ixD_scr, at_0, at_1, at_2, at_3, at_4, at_5, at_6, at_7, lenD, intC, absC, max2C, min2C, addD, intD, cmpD, yesC, slD, seqD, enumD, stD, sumC, allC, anyC, tupC, maxC, Option.bind_some, Option.map_some, List.lookup_cons, List.lookup_nil, List.length_cons, List.length_nil, Bool.not_true, Bool.not_false, Bool.and_self, Bool.true_and, Bool.and_true, Bool.false_and, Bool.and_false, Bool.or_true, Bool.true_or, Bool.false_or, Bool.or_false, reduceIte, decide_true, decide_false, if_true, if_false, List.replicate_succ, List.replicate_zero, Nat.reduceAdd, Nat.reduceSub, Nat.zero_add, List.mem_cons, List.not_mem_nil, or_false, false_or, not_false_eq_true, reduceCtorEq, ne_eq, and_self, and_true, true_and, Nat.reduceLT, Nat.reduceLeDiff, beq_self_eq_true, Nat.reduceEqDiff, Nat.add_one_ne_zero, modC, divC, mulC, powC, Int.reduceLT, Int.reduceLE, Int.reduceNeg, Int.reducePow, Int.reduceToNat, Int.reduceEq, Nat.reducePow, Int.zero_add, eqL, eqD, eqB, neD, isD, sz_0, sz_1, sz_2, sz_3, sz_4, sz_5, sz_6, sz_7, sz_8, sz_9, sz_10, sz_11, sz_12, sz_13, sz_14, sz_15, sz_16, sz_17, sz_18, sz_19, sz_20, sz_21, sz_22, sz_23, sz_24, sz_25, sz_26, sz_27, sz_28, sz_29, sz_30, nc_0, nc_1, nc_2, nc_3, nc_4, nc_5, nc_6, nc_7, nc_8, nc_9, nc_10, nc_11, nc_12, nc_13, nc_14, nc_15, nc_16, nc_17, nc_18, nc_19, nc_20, nc_21, nc_22, nc_23, nc_24, nc_25, nc_26, nc_27, nc_28, nc_29, nc_30, isiT, isiK, isiC, isiM, tyNames, tagD, tb0_NoneType, tb0_bool, tb0_int, tb0_str, tb0_tuple, tb0_list, tb0_Tree, tb1_NoneType, tb1_bool, tb1_int, tb1_str, tb1_tuple, tb1_list, tb1_Tree, tb2_NoneType, tb2_bool, tb2_int, tb2_str, tb2_tuple, tb2_list, tb2_Tree, tb3_NoneType, tb3_bool, tb3_int, tb3_str, tb3_tuple, tb3_list, tb3_Tree, tb4_NoneType, tb4_bool, tb4_int, tb4_str, tb4_tuple, tb4_list, tb4_Tree, tb5_NoneType, tb5_bool, tb5_int, tb5_str, tb5_tuple, tb5_list, tb5_Tree, tb6_NoneType, tb6_bool, tb6_int, tb6_str, tb6_tuple, tb6_list, tb6_Tree, nq_kind_children, nb_kind_children, nq_kind_size, nb_kind_size, nq_kind_depth, nb_kind_depth, nq_children_kind, nb_children_kind, nq_children_size, nb_children_size, nq_children_depth, nb_children_depth, nq_size_kind, nb_size_kind, nq_size_children, nb_size_children, nq_size_depth, nb_size_depth, nq_depth_kind, nb_depth_kind, nq_depth_children, nb_depth_children, nq_depth_size, nb_depth_size, at_app hi]
  simp only [↓kn_q, ↓kn_e, ↓kq_q, ↓kp_p, ↓ps_nx, ↓ps_rt, ↓ps_bk, ↓ps_ct, ↓ps_ex, ↓tkV_val, ↓tkV_own, ↓tkVR_val, ↓tkVR_own, ↓tkO_own, ↓tkA_val, ↓tkB_bl, ↓tkI_int, ↓tkStr_str, ↓tkC_obj, ↓tkSm_some, ↓tkSm_map, ↓tkSm_bind, ↓tkSm_ite, ↓tkP_t, ↓tkIf_t, ↓tkIf_f, ↓tkT_t, ↓tk_ok, ↓tk_exc, ↓tk_bind, ↓tk_lift, ↓tks_nx, ↓tks_rt, ↓tks_eS, ↓tks_seq, ↓tks_next, ↓tks_brk, ↓tks_cnt, ↓tks_drop, ↓tks_ret, ↓tks_retN, ↓tks_if, ↓tks_frz, ↓tks_set, ↓tks_setO, ↓tks_par, ↓tks_mut, ↓tks_app, ↓tks_store, ↓tks_fld, ↓tks_aug, ↓tks_for, ↓tks_for0, ↓tk_var, ↓tk_varR, ↓tk_c, ↓tk_bin, ↓tk_test, ↓tk_tnot, ↓tk_yes, ↓tk_tand, ↓tk_tor, ↓tk_call, ↓tk_fn, ↓tk_mkF, ↓tk_nil, ↓tk_cons, ↓tk_attr, ↓tk_meth, ↓tk_xif, ↓tk_seqI, ↓tk_enum, ↓tk_rng1, ↓tk_rng2, ↓tk_loc, ↓tk_lc, ↓tk_neg, ↓tk_no, ↓tk_part, ↓tk_sl, ↓tk_xsNil, ↓tk_xsV, ↓tk_xsO, ↓tk_xnot, ↓tk_xand, ↓tk_xor, ↓tk_lst, ↓tk_tup, ↓tk_sz, ↓tk_chain, ↓tk_s1, ↓tk_maxDf, ↓tk_star, List.getElem?_cons_zero, List.getElem?_cons_succ, List.set_cons_zero, List.set_cons_succ, List.map_cons, List.map_nil, List.cons_append, List.nil_append, List.append_assoc, tkJ_own, frzG, putS, wipeG, pVar, pTup, psCons, psNil, atD, ixD_lst, ixD_tup, ixD_scr, at_0, at_1, at_2, at_3, at_4, at_5, at_6, at_7, lenD, intC, absC, max2C, min2C, addD, intD, cmpD, yesC, slD, seqD, enumD, stD, sumC, allC, anyC, tupC, maxC, Option.bind_some, Option.map_some, List.lookup_cons, List.lookup_nil, List.length_cons, List.length_nil, Bool.not_true, Bool.not_false, Bool.and_self, Bool.true_and, Bool.and_true, Bool.false_and, Bool.and_false, Bool.or_true, Bool.true_or, Bool.false_or, Bool.or_false, reduceIte, decide_true, decide_false, if_true, if_false, List.replicate_succ, List.replicate_zero, Nat.reduceAdd, Nat.reduceSub, Nat.zero_add, List.mem_cons, List.not_mem_nil, or_false, false_or, not_false_eq_true, reduceCtorEq, ne_eq, and_self, and_true, true_and, Nat.reduceLT, Nat.reduceLeDiff, beq_self_eq_true, Nat.reduceEqDiff, Nat.add_one_ne_zero, modC, divC, mulC, powC, Int.reduceLT, Int.reduceLE, Int.reduceNeg, Int.reducePow, Int.reduceToNat, Int.reduceEq, Nat.reducePow, Int.zero_add, eqL, eqD, eqB, neD, isD, sz_0, sz_1, sz_2, sz_3, sz_4, sz_5, sz_6, sz_7, sz_8, sz_9, sz_10, sz_11, sz_12, sz_13, sz_14, sz_15, sz_16, sz_17, sz_18, sz_19, sz_20, sz_21, sz_22, sz_23, sz_24, sz_25, sz_26, sz_27, sz_28, sz_29, sz_30, nc_0, nc_1, nc_2, nc_3, nc_4, nc_5, nc_6, nc_7, nc_8, nc_9, nc_10, nc_11, nc_12, nc_13, nc_14, nc_15, nc_16, nc_17, nc_18, nc_19, nc_20, nc_21, nc_22, nc_23, nc_24, nc_25, nc_26, nc_27, nc_28, nc_29, nc_30, isiT, isiK, isiC, isiM, tyNames, tagD, tb0_NoneType, tb0_bool, tb0_int, tb0_str, tb0_tuple, tb0_list, tb0_Tree, tb1_NoneType, tb1_bool, tb1_int, tb1_str, tb1_tuple, tb1_list, tb1_Tree, tb2_NoneType, tb2_bool, tb2_int, tb2_str, tb2_tuple, tb2_list, tb2_Tree, tb3_NoneType, tb3_bool, tb3_int, tb3_str, tb3_tuple, tb3_list, tb3_Tree, tb4_NoneType, tb4_bool, tb4_int, tb4_str, tb4_tuple, tb4_list, tb4_Tree, tb5_NoneType, tb5_bool, tb5_int, tb5_str, tb5_tuple, tb5_list, tb5_Tree, tb6_NoneType, tb6_bool, tb6_int, tb6_str, tb6_tuple, tb6_list, tb6_Tree, nq_kind_children, nb_kind_children, nq_kind_size, nb_kind_size, nq_kind_depth, nb_kind_depth, nq_children_kind, nb_children_kind, nq_children_size, nb_children_size, nq_children_depth, nb_children_depth, nq_size_kind, nb_size_kind, nq_size_children, nb_size_children, nq_size_depth, nb_size_depth, nq_depth_kind, nb_depth_kind, nq_depth_children, nb_depth_children, nq_depth_size, nb_depth_size]
  have hpc : ∀ p ∈ (ps ++ [(x, [])] : Row), Ch p.1 p.2 := fun p hp => by
    rcases List.mem_append.mp hp with hp | hp
    · exact hk.ch p hp
    · rw [List.mem_singleton] at hp
      rw [hp]
      exact hx
  refine below_spec (ps := ps ++ [(x, [])]) rfl hpc (by rw [et, List.length_map]; omega) ?_
  rw [et]
  simp only [↓kn_q, ↓kn_e, ↓kq_q, ↓kp_p, ↓ps_nx, ↓ps_rt, ↓ps_bk, ↓ps_ct, ↓ps_ex, ↓tkV_val, ↓tkV_own, ↓tkVR_val, ↓tkVR_own, ↓tkO_own, ↓tkA_val, ↓tkB_bl, ↓tkI_int, ↓tkStr_str, ↓tkC_obj, ↓tkSm_some, ↓tkSm_map, ↓tkSm_bind, ↓tkSm_ite, ↓tkP_t, ↓tkIf_t, ↓tkIf_f, ↓tkT_t, ↓tk_ok, ↓tk_exc, ↓tk_bind, ↓tk_lift, ↓tks_nx, ↓tks_rt, ↓tks_eS, ↓tks_seq, ↓tks_next, ↓tks_brk, ↓tks_cnt, ↓tks_drop, ↓tks_ret, ↓tks_retN, ↓tks_if, ↓tks_frz, ↓tks_set, ↓tks_setO, ↓tks_par, ↓tks_mut, ↓tks_app, ↓tks_store, ↓tks_fld, ↓tks_aug, ↓tks_for, ↓tks_for0, ↓tk_var, ↓tk_varR, ↓tk_c, ↓tk_bin, ↓tk_test, ↓tk_tnot, ↓tk_yes, ↓tk_tand, ↓tk_tor, ↓tk_call, ↓tk_fn, ↓tk_mkF, ↓tk_nil, ↓tk_cons, ↓tk_attr, ↓tk_meth, ↓tk_xif, ↓tk_seqI, ↓tk_enum, ↓tk_rng1, ↓tk_rng2, ↓tk_loc, ↓tk_lc, ↓tk_neg, ↓tk_no, ↓tk_part, ↓tk_sl, ↓tk_xsNil, ↓tk_xsV, ↓tk_xsO, ↓tk_xnot, ↓tk_xand, ↓tk_xor, ↓tk_lst, ↓tk_tup, ↓tk_sz, ↓tk_chain, ↓tk_s1, ↓tk_maxDf, ↓tk_star, List.getElem?_cons_zero, List.getElem?_cons_succ, List.set_cons_zero, List.set_cons_succ, List.map_cons, List.map_nil, List.cons_append, List.nil_append, List.append_assoc, tkJ_own, frzG, putS, wipeG, pVar, pTup, psCons, psNil, atD, ixD_lst, ixD_tup, ixD_scr, at_0, at_1, at_2, at_3, at_4, at_5, at_6, at_7, lenD, intC, absC, max2C, min2C, addD, intD, cmpD, yesC, slD, seqD, enumD, stD, sumC, allC, anyC, tupC, maxC, Option.bind_some, Option.map_some, List.lookup_cons, List.lookup_nil, List.length_cons, List.length_nil, Bool.not_true, Bool.not_false, Bool.and_self, Bool.true_and, Bool.and_true, Bool.false_and, Bool.and_false, Bool.or_true, Bool.true_or, Bool.false_or, Bool.or_false, reduceIte, decide_true, decide_false, if_true, if_false, List.replicate_succ, List.replicate_zero, Nat.reduceAdd, Nat.reduceSub, Nat.zero_add, List.mem_cons, List.not_mem_nil, or_false, false_or, not_false_eq_true, reduceCtorEq, ne_eq, and_self, and_true, true_and, Nat.reduceLT, Nat.reduceLeDiff, beq_self_eq_true, Nat.reduceEqDiff, Nat.add_one_ne_zero, modC, divC, mulC, powC, Int.reduceLT, Int.reduceLE, Int.reduceNeg, Int.reducePow, Int.reduceToNat, Int.reduceEq, Nat.reducePow, Int.zero_add, eqL, eqD, eqB, neD, isD, sz_0, sz_1, sz_2, sz_3, sz_4, sz_5, sz_6, sz_7, sz_8, sz_9, sz_10, sz_11, sz_12, sz_13, sz_14, sz_15, sz_16, sz_17, sz_18, sz_19, sz_20, sz_21, sz_22, sz_23, sz_24, sz_25, sz_26, sz_27, sz_28, sz_29, sz_30, nc_0, nc_1, nc_2, nc_3, nc_4, nc_5, nc_6, nc_7, nc_8, nc_9, nc_10, nc_11, nc_12, nc_13, nc_14, nc_15, nc_16, nc_17, nc_18, nc_19, nc_20, nc_21, nc_22, nc_23, nc_24, nc_25, nc_26, nc_27, nc_28, nc_29, nc_30, isiT, isiK, isiC, isiM, tyNames, tagD, tb0_NoneType, tb0_bool, tb0_int, tb0_str, tb0_tuple, tb0_list, tb0_Tree, tb1_NoneType, tb1_bool, tb1_int, tb1_str, tb1_tuple, tb1_list, tb1_Tree, tb2_NoneType, tb2_bool, tb2_int, tb2_str, tb2_tuple, tb2_list, tb2_Tree, tb3_NoneType, tb3_bool, tb3_int, tb3_str, tb3_tuple, tb3_list, tb3_Tree, tb4_NoneType, tb4_bool, tb4_int, tb4_str, tb4_tuple, tb4_list, tb4_Tree, tb5_NoneType, tb5_bool, tb5_int, tb5_str, tb5_tuple, tb5_list, tb5_Tree, tb6_NoneType, tb6_bool, tb6_int, tb6_str, tb6_tuple, tb6_list, tb6_Tree, nq_kind_children, nb_kind_children, nq_kind_size, nb_kind_size, nq_kind_depth, nb_kind_depth, nq_children_kind, nb_children_kind, nq_children_size, nb_children_size, nq_children_depth, nb_children_depth, nq_size_kind, nb_size_kind, nq_size_children, nb_size_children, nq_size_depth, nb_size_depth, nq_depth_kind, nb_depth_kind, nq_depth_children, nb_depth_children, nq_depth_size, nb_depth_size]
  refine told_loop (fl.map (pk tb)) [] _ (fun z hz => ?_) (by simp; omega) fun x11 => ?_
  · obtain ⟨i, hi, rfl⟩ := List.mem_map.mp hz
    exact ht.pk (hk.fi i hi)
  simp only [↓kn_q, ↓kn_e, ↓kq_q, ↓kp_p, ↓ps_nx, ↓ps_rt, ↓ps_bk, ↓ps_ct, ↓ps_ex, ↓tkV_val, ↓tkV_own, ↓tkVR_val, ↓tkVR_own, ↓tkO_own, ↓tkA_val, ↓tkB_bl, ↓tkI_int, ↓tkStr_str, ↓tkC_obj, ↓tkSm_some, ↓tkSm_map, ↓tkSm_bind, ↓tkSm_ite, ↓tkP_t, ↓tkIf_t, ↓tkIf_f, ↓tkT_t, ↓tk_ok, ↓tk_exc, ↓tk_bind, ↓tk_lift, ↓tks_nx, ↓tks_rt, ↓tks_eS, ↓tks_seq, ↓tks_next, ↓tks_brk, ↓tks_cnt, ↓tks_drop, ↓tks_ret, ↓tks_retN, ↓tks_if, ↓tks_frz, ↓tks_set, ↓tks_setO, ↓tks_par, ↓tks_mut, ↓tks_app, ↓tks_store, ↓tks_fld, ↓tks_aug, ↓tks_for, ↓tks_for0, ↓tk_var, ↓tk_varR, ↓tk_c, ↓tk_bin, ↓tk_test, ↓tk_tnot, ↓tk_yes, ↓tk_tand, ↓tk_tor, ↓tk_call, ↓tk_fn, ↓tk_mkF, ↓tk_nil, ↓tk_cons, ↓tk_attr, ↓tk_meth, ↓tk_xif, ↓tk_seqI, ↓tk_enum, ↓tk_rng1, ↓tk_rng2, ↓tk_loc, ↓tk_lc, ↓tk_neg, ↓tk_no, ↓tk_part, ↓tk_sl, ↓tk_xsNil, ↓tk_xsV, ↓tk_xsO, ↓tk_xnot, ↓tk_xand, ↓tk_xor, ↓tk_lst, ↓tk_tup, ↓tk_sz, ↓tk_chain, ↓tk_s1, ↓tk_maxDf, ↓tk_star, List.getElem?_cons_zero, List.getElem?_cons_succ, List.set_cons_zero, List.set_cons_succ, List.map_cons, List.map_nil, List.cons_append, List.nil_append, List.append_assoc, tkJ_own, frzG, putS, wipeG, pVar, pTup, psCons, psNil, atD, ixD_lst, ixD_tup, ixD_scr, at_0, at_1, at_2, at_3, at_4, at_5, at_6, at_7, lenD, intC, absC, max2C, min2C, addD, intD, cmpD, yesC, slD, seqD, enumD, stD, sumC, allC, anyC, tupC, maxC, Option.bind_some, Option.map_some, List.lookup_cons, List.lookup_nil, List.length_cons, List.length_nil, Bool.not_true, Bool.not_false, Bool.and_self, Bool.true_and, Bool.and_true, Bool.false_and, Bool.and_false, Bool.or_true, Bool.true_or, Bool.false_or, Bool.or_false, reduceIte, decide_true, decide_false, if_true, if_false, List.replicate_succ, List.replicate_zero, Nat.reduceAdd, Nat.reduceSub, Nat.zero_add, List.mem_cons, List.not_mem_nil, or_false, false_or, not_false_eq_true, reduceCtorEq, ne_eq, and_self, and_true, true_and, Nat.reduceLT, Nat.reduceLeDiff, beq_self_eq_true, Nat.reduceEqDiff, Nat.add_one_ne_zero, modC, divC, mulC, powC, Int.reduceLT, Int.reduceLE, Int.reduceNeg, Int.reducePow, Int.reduceToNat, Int.reduceEq, Nat.reducePow, Int.zero_add, eqL, eqD, eqB, isD, sz_0, sz_1, sz_2, sz_3, sz_4, sz_5, sz_6, sz_7, sz_8, sz_9, sz_10, sz_11, sz_12, sz_13, sz_14, sz_15, sz_16, sz_17, sz_18, sz_19, sz_20, sz_21, sz_22, sz_23, sz_24, sz_25, sz_26, sz_27, sz_28, sz_29, sz_30, nc_0, nc_1, nc_2, nc_3, nc_4, nc_5, nc_6, nc_7, nc_8, nc_9, nc_10, nc_11, nc_12, nc_13, nc_14, nc_15, nc_16, nc_17, nc_18, nc_19, nc_20, nc_21, nc_22, nc_23, nc_24, nc_25, nc_26, nc_27, nc_28, nc_29, nc_30, isiT, isiK, isiC, isiM, tyNames, tagD, tb0_NoneType, tb0_bool, tb0_int, tb0_str, tb0_tuple, tb0_list, tb0_Tree, tb1_NoneType, tb1_bool, tb1_int, tb1_str, tb1_tuple, tb1_list, tb1_Tree, tb2_NoneType, tb2_bool, tb2_int, tb2_str, tb2_tuple, tb2_list, tb2_Tree, tb3_NoneType, tb3_bool, tb3_int, tb3_str, tb3_tuple, tb3_list, tb3_Tree, tb4_NoneType, tb4_bool, tb4_int, tb4_str, tb4_tuple, tb4_list, tb4_Tree, tb5_NoneType, tb5_bool, tb5_int, tb5_str, tb5_tuple, tb5_list, tb5_Tree, tb6_NoneType, tb6_bool, tb6_int, tb6_str, tb6_tuple, tb6_list, tb6_Tree, nq_kind_children, nb_kind_children, nq_kind_size, nb_kind_size, nq_kind_depth, nb_kind_depth, nq_children_kind, nb_children_kind, nq_children_size, nb_children_size, nq_children_depth, nb_children_depth, nq_size_kind, nb_size_kind, nq_size_children, nb_size_children, nq_size_depth, nb_size_depth, nq_depth_kind, nb_depth_kind, nq_depth_children, nb_depth_children, nq_depth_size, nb_depth_size, ne_pairs, ne_int, List.length_map]
  refine tkT_of (sz_of (by omega)) ?_
  simp only [↓kn_q, ↓kn_e, ↓kq_q, ↓kp_p, ↓ps_nx, ↓ps_rt, ↓ps_bk, ↓ps_ct, ↓ps_ex, ↓tkV_val, ↓tkV_own, ↓tkVR_val, ↓tkVR_own, ↓tkO_own, ↓tkA_val, ↓tkB_bl, ↓tkI_int, ↓tkStr_str, ↓tkC_obj, ↓tkSm_some, ↓tkSm_map, ↓tkSm_bind, ↓tkSm_ite, ↓tkP_t, ↓tkIf_t, ↓tkIf_f, ↓tkT_t, ↓tk_ok, ↓tk_exc, ↓tk_bind, ↓tk_lift, ↓tks_nx, ↓tks_rt, ↓tks_eS, ↓tks_seq, ↓tks_next, ↓tks_brk, ↓tks_cnt, ↓tks_drop, ↓tks_ret, ↓tks_retN, ↓tks_if, ↓tks_frz, ↓tks_set, ↓tks_setO, ↓tks_par, ↓tks_mut, ↓tks_app, ↓tks_store, ↓tks_fld, ↓tks_aug, ↓tks_for, ↓tks_for0, ↓tk_var, ↓tk_varR, ↓tk_c, ↓tk_bin, ↓tk_test, ↓tk_tnot, ↓tk_yes, ↓tk_tand, ↓tk_tor, ↓tk_call, ↓tk_fn, ↓tk_mkF, ↓tk_nil, ↓tk_cons, ↓tk_attr, ↓tk_meth, ↓tk_xif, ↓tk_seqI, ↓tk_enum, ↓tk_rng1, ↓tk_rng2, ↓tk_loc, ↓tk_lc, ↓tk_neg, ↓tk_no, ↓tk_part, ↓tk_sl, ↓tk_xsNil, ↓tk_xsV, ↓tk_xsO, ↓tk_xnot, ↓tk_xand, ↓tk_xor, ↓tk_lst, ↓tk_tup, ↓tk_sz, ↓tk_chain, ↓tk_s1, ↓tk_maxDf, ↓tk_star, List.getElem?_cons_zero, List.getElem?_cons_succ, List.set_cons_zero, List.set_cons_succ, List.map_cons, List.map_nil, List.cons_append, List.nil_append, List.append_assoc, tkJ_own, frzG, putS, wipeG, pVar, pTup, psCons, psNil, atD, ixD_lst, ixD_tup, ixD_scr, at_0, at_1, at_2, at_3, at_4, at_5, at_6, at_7, lenD, intC, absC, max2C, min2C, addD, intD, cmpD, yesC, slD, seqD, enumD, stD, sumC, allC, anyC, tupC, maxC, Option.bind_some, Option.map_some, List.lookup_cons, List.lookup_nil, List.length_cons, List.length_nil, Bool.not_true, Bool.not_false, Bool.and_self, Bool.true_and, Bool.and_true, Bool.false_and, Bool.and_false, Bool.or_true, Bool.true_or, Bool.false_or, Bool.or_false, reduceIte, decide_true, decide_false, if_true, if_false, List.replicate_succ, List.replicate_zero, Nat.reduceAdd, Nat.reduceSub, Nat.zero_add, List.mem_cons, List.not_mem_nil, or_false, false_or, not_false_eq_true, reduceCtorEq, ne_eq, and_self, and_true, true_and, Nat.reduceLT, Nat.reduceLeDiff, beq_self_eq_true, Nat.reduceEqDiff, Nat.add_one_ne_zero, modC, divC, mulC, powC, Int.reduceLT, Int.reduceLE, Int.reduceNeg, Int.reducePow, Int.reduceToNat, Int.reduceEq, Nat.reducePow, Int.zero_add, eqL, eqD, eqB, neD, isD, sz_0, sz_1, sz_2, sz_3, sz_4, sz_5, sz_6, sz_7, sz_8, sz_9, sz_10, sz_11, sz_12, sz_13, sz_14, sz_15, sz_16, sz_17, sz_18, sz_19, sz_20, sz_21, sz_22, sz_23, sz_24, sz_25, sz_26, sz_27, sz_28, sz_29, sz_30, nc_0, nc_1, nc_2, nc_3, nc_4, nc_5, nc_6, nc_7, nc_8, nc_9, nc_10, nc_11, nc_12, nc_13, nc_14, nc_15, nc_16, nc_17, nc_18, nc_19, nc_20, nc_21, nc_22, nc_23, nc_24, nc_25, nc_26, nc_27, nc_28, nc_29, nc_30, isiT, isiK, isiC, isiM, tyNames, tagD, tb0_NoneType, tb0_bool, tb0_int, tb0_str, tb0_tuple, tb0_list, tb0_Tree, tb1_NoneType, tb1_bool, tb1_int, tb1_str, tb1_tuple, tb1_list, tb1_Tree, tb2_NoneType, tb2_bool, tb2_int, tb2_str, tb2_tuple, tb2_list, tb2_Tree, tb3_NoneType, tb3_bool, tb3_int, tb3_str, tb3_tuple, tb3_list, tb3_Tree, tb4_NoneType, tb4_bool, tb4_int, tb4_str, tb4_tuple, tb4_list, tb4_Tree, tb5_NoneType, tb5_bool, tb5_int, tb5_str, tb5_tuple, tb5_list, tb5_Tree, tb6_NoneType, tb6_bool, tb6_int, tb6_str, tb6_tuple, tb6_list, tb6_Tree, nq_kind_children, nb_kind_children, nq_kind_size, nb_kind_size, nq_kind_depth, nb_kind_depth, nq_children_kind, nb_children_kind, nq_children_size, nb_children_size, nq_children_depth, nb_children_depth, nq_size_kind, nb_size_kind, nq_size_children, nb_size_children, nq_size_depth, nb_size_depth, nq_depth_kind, nb_depth_kind, nq_depth_children, nb_depth_children, nq_depth_size, nb_depth_size]
  have tre : Tre (treeOf t (ps ++ [(x, [])])) (1 + ((fl.map (pk tb)).map (·.2.1)).sum) (1 + mx ((fl.map (pk tb)).map (·.2.2))) := by
    refine ⟨⟨_, rfl, ?_, ?_⟩, ?_⟩
    · rw [et]; rfl
    · rw [et]; rfl
    · have : 0 ≤ mx ((fl.map (pk tb)).map (·.2.2)) := by
        have e := maxI_zero hge
        unfold mx
        split
        · exact Int.le_refl 0
        · rename_i hne
          cases z : (fl.map (pk tb)).map (·.2.2) with
          | nil => exact absurd z hne
          | cons a r =>
            rw [z] at hge
            have h0 := hge a List.mem_cons_self
            have ge := maxI_ge r a
            simp only [maxI, Option.getD_some]
            omega
      omega
  have := hq (tb ++ [(treeOf t (ps ++ [(x, [])]), 1 + ((fl.map (pk tb)).map (·.2.1)).sum, 1 + mx ((fl.map (pk tb)).map (·.2.2)))]) s4
  unfold tD tS tH at this
  simp only [List.map_append, List.map_cons, List.map_nil] at this
  refine this _ _ _ _ _ _ _ _ _ ⟨fun z hz => ?_, by simp, by simp; omega⟩ (by simp) h4
  rcases List.mem_append.mp hz with hz | hz
  · exact ht.all z hz
  · rw [List.mem_singleton] at hz
    rw [hz]
    exact tre
theorem check_spec {A0 A1 A2 A3 A4 A9 A10 A11 A12 A13 A14 A15 A16 : Sl} {tb : Tab} {k : Nat} {s : S} {P : Ps} (ht : TbOk tb) (hk : k < tb.length)
    (hq : P.nx [A0, A1, A2, A3, A4, .val (.int (k : Int)), .own (.lst (tD tb)), .own (.lst (tS tb)), .own (.lst (tH tb)), A9, A10, A11, A12, A13, A14, A15, A16] s) :
    TkS (L_law_4 [A0, A1, A2, A3, A4, .val (.int (k : Int)), .own (.lst (tD tb)), .own (.lst (tS tb)), .own (.lst (tH tb)), A9, A10, A11, A12, A13, A14, A15, A16] s) := by
  obtain ⟨⟨fs, e, h1, h2⟩, _⟩ := ht.pk hk
  unfold L_law_4
  simp only [↓kn_q, ↓kn_e, ↓kq_q, ↓kp_p, ↓ps_nx, ↓ps_rt, ↓ps_bk, ↓ps_ct, ↓ps_ex, ↓tkV_val, ↓tkV_own, ↓tkVR_val, ↓tkVR_own, ↓tkO_own, ↓tkA_val, ↓tkB_bl, ↓tkI_int, ↓tkStr_str, ↓tkC_obj, ↓tkSm_some, ↓tkSm_map, ↓tkSm_bind, ↓tkSm_ite, ↓tkP_t, ↓tkIf_t, ↓tkIf_f, ↓tkT_t, ↓tk_ok, ↓tk_exc, ↓tk_bind, ↓tk_lift, ↓tks_nx, ↓tks_rt, ↓tks_eS, ↓tks_seq, ↓tks_next, ↓tks_brk, ↓tks_cnt, ↓tks_drop, ↓tks_ret, ↓tks_retN, ↓tks_if, ↓tks_frz, ↓tks_set, ↓tks_setO, ↓tks_par, ↓tks_mut, ↓tks_app, ↓tks_store, ↓tks_fld, ↓tks_aug, ↓tks_for, ↓tks_for0, ↓tk_var, ↓tk_varR, ↓tk_c, ↓tk_bin, ↓tk_test, ↓tk_tnot, ↓tk_yes, ↓tk_tand, ↓tk_tor, ↓tk_call, ↓tk_fn, ↓tk_mkF, ↓tk_nil, ↓tk_cons, ↓tk_attr, ↓tk_meth, ↓tk_xif, ↓tk_seqI, ↓tk_enum, ↓tk_rng1, ↓tk_rng2, ↓tk_loc, ↓tk_lc, ↓tk_neg, ↓tk_no, ↓tk_part, ↓tk_sl, ↓tk_xsNil, ↓tk_xsV, ↓tk_xsO, ↓tk_xnot, ↓tk_xand, ↓tk_xor, ↓tk_lst, ↓tk_tup, ↓tk_sz, ↓tk_chain, ↓tk_s1, ↓tk_maxDf, ↓tk_star, List.getElem?_cons_zero, List.getElem?_cons_succ, List.set_cons_zero, List.set_cons_succ, List.map_cons, List.map_nil, List.cons_append, List.nil_append, List.append_assoc, tkJ_own, frzG, putS, wipeG, pVar, pTup, psCons, psNil, atD, ixD_lst, ixD_tup, ixD_scr, at_0, at_1, at_2, at_3, at_4, at_5, at_6, at_7, lenD, intC, absC, max2C, min2C, addD, intD, cmpD, yesC, slD, seqD, enumD, stD, sumC, allC, anyC, tupC, maxC, Option.bind_some, Option.map_some, List.lookup_cons, List.lookup_nil, List.length_cons, List.length_nil, Bool.not_true, Bool.not_false, Bool.and_self, Bool.true_and, Bool.and_true, Bool.false_and, Bool.and_false, Bool.or_true, Bool.true_or, Bool.false_or, Bool.or_false, reduceIte, decide_true, decide_false, if_true, if_false, List.replicate_succ, List.replicate_zero, Nat.reduceAdd, Nat.reduceSub, Nat.zero_add, List.mem_cons, List.not_mem_nil, or_false, false_or, not_false_eq_true, reduceCtorEq, ne_eq, and_self, and_true, true_and, Nat.reduceLT, Nat.reduceLeDiff, beq_self_eq_true, Nat.reduceEqDiff, Nat.add_one_ne_zero, modC, divC, mulC, powC, Int.reduceLT, Int.reduceLE, Int.reduceNeg, Int.reducePow, Int.reduceToNat, Int.reduceEq, Nat.reducePow, Int.zero_add, eqL, eqD, eqB, isD, sz_0, sz_1, sz_2, sz_3, sz_4, sz_5, sz_6, sz_7, sz_8, sz_9, sz_10, sz_11, sz_12, sz_13, sz_14, sz_15, sz_16, sz_17, sz_18, sz_19, sz_20, sz_21, sz_22, sz_23, sz_24, sz_25, sz_26, sz_27, sz_28, sz_29, sz_30, nc_0, nc_1, nc_2, nc_3, nc_4, nc_5, nc_6, nc_7, nc_8, nc_9, nc_10, nc_11, nc_12, nc_13, nc_14, nc_15, nc_16, nc_17, nc_18, nc_19, nc_20, nc_21, nc_22, nc_23, nc_24, nc_25, nc_26, nc_27, nc_28, nc_29, nc_30, isiT, isiK, isiC, isiM, tyNames, tagD, tb0_NoneType, tb0_bool, tb0_int, tb0_str, tb0_tuple, tb0_list, tb0_Tree, tb1_NoneType, tb1_bool, tb1_int, tb1_str, tb1_tuple, tb1_list, tb1_Tree, tb2_NoneType, tb2_bool, tb2_int, tb2_str, tb2_tuple, tb2_list, tb2_Tree, tb3_NoneType, tb3_bool, tb3_int, tb3_str, tb3_tuple, tb3_list, tb3_Tree, tb4_NoneType, tb4_bool, tb4_int, tb4_str, tb4_tuple, tb4_list, tb4_Tree, tb5_NoneType, tb5_bool, tb5_int, tb5_str, tb5_tuple, tb5_list, tb5_Tree, tb6_NoneType, tb6_bool, tb6_int, tb6_str, tb6_tuple, tb6_list, tb6_Tree, nq_kind_children, nb_kind_children, nq_kind_size, nb_kind_size, nq_kind_depth, nb_kind_depth, nq_children_kind, nb_children_kind, nq_children_size, nb_children_size, nq_children_depth, nb_children_depth, nq_size_kind, nb_size_kind, nq_size_children, nb_size_children, nq_size_depth, nb_size_depth, nq_depth_kind, nb_depth_kind, nq_depth_children, nb_depth_children, nq_depth_size, nb_depth_size, at_pk hk, e, h1, h2, ne_int]
  exact hq
theorem at_spec {ns : List Int} {k : Nat} {x2 x3 x4 x5 x6 x7 x8 x9 x10 x11 x12 x13 x14 x15 x16 : Sl} {s : S} {P : Ps}
    (hq : ∀ s' x2 x3 x4 x5 x6 x7 x8 x9 x10 x11 x12 x13 x14 x15 x16, P.nx [.val (.scr ns), .val (.int (k : Int)), x2, x3, x4, x5, x6, x7, x8, x9, x10, x11, x12, x13, x14, x15, x16] s') :
    TkS (L_law_5 [.val (.scr ns), .val (.int (k : Int)), x2, x3, x4, x5, x6, x7, x8, x9, x10, x11, x12, x13, x14, x15, x16] s) := by
  unfold L_law_5
  simp only [↓kn_q, ↓kn_e, ↓kq_q, ↓kp_p, ↓ps_nx, ↓ps_rt, ↓ps_bk, ↓ps_ct, ↓ps_ex, ↓tkV_val, ↓tkV_own, ↓tkVR_val, ↓tkVR_own, ↓tkO_own, ↓tkA_val, ↓tkB_bl, ↓tkI_int, ↓tkStr_str, ↓tkC_obj, ↓tkSm_some, ↓tkSm_map, ↓tkSm_bind, ↓tkSm_ite, ↓tkP_t, ↓tkIf_t, ↓tkIf_f, ↓tkT_t, ↓tk_ok, ↓tk_exc, ↓tk_bind, ↓tk_lift, ↓tks_nx, ↓tks_rt, ↓tks_eS, ↓tks_seq, ↓tks_next, ↓tks_brk, ↓tks_cnt, ↓tks_drop, ↓tks_ret, ↓tks_retN, ↓tks_if, ↓tks_frz, ↓tks_set, ↓tks_setO, ↓tks_par, ↓tks_mut, ↓tks_app, ↓tks_store, ↓tks_fld, ↓tks_aug, ↓tks_for, ↓tks_for0, ↓tk_var, ↓tk_varR, ↓tk_c, ↓tk_bin, ↓tk_test, ↓tk_tnot, ↓tk_yes, ↓tk_tand, ↓tk_tor, ↓tk_call, ↓tk_fn, ↓tk_mkF, ↓tk_nil, ↓tk_cons, ↓tk_attr, ↓tk_meth, ↓tk_xif, ↓tk_seqI, ↓tk_enum, ↓tk_rng1, ↓tk_rng2, ↓tk_loc, ↓tk_lc, ↓tk_neg, ↓tk_no, ↓tk_part, ↓tk_sl, ↓tk_xsNil, ↓tk_xsV, ↓tk_xsO, ↓tk_xnot, ↓tk_xand, ↓tk_xor, ↓tk_lst, ↓tk_tup, ↓tk_sz, ↓tk_chain, ↓tk_s1, ↓tk_maxDf, ↓tk_star, List.getElem?_cons_zero, List.getElem?_cons_succ, List.set_cons_zero, List.set_cons_succ, List.map_cons, List.map_nil, List.cons_append, List.nil_append, List.append_assoc, tkJ_own, frzG, putS, wipeG, pVar, pTup, psCons, psNil, atD, ixD_lst, ixD_tup, ixD_scr, at_0, at_1, at_2, at_3, at_4, at_5, at_6, at_7, lenD, intC, absC, max2C, min2C, addD, intD, cmpD, yesC, slD, seqD, enumD, stD, sumC, allC, anyC, tupC, maxC, Option.bind_some, Option.map_some, List.lookup_cons, List.lookup_nil, List.length_cons, List.length_nil, Bool.not_true, Bool.not_false, Bool.and_self, Bool.true_and, Bool.and_true, Bool.false_and, Bool.and_false, Bool.or_true, Bool.true_or, Bool.false_or, Bool.or_false, reduceIte, decide_true, decide_false, if_true, if_false, List.replicate_succ, List.replicate_zero, Nat.reduceAdd, Nat.reduceSub, Nat.zero_add, List.mem_cons, List.not_mem_nil, or_false, false_or, not_false_eq_true, reduceCtorEq, ne_eq, and_self, and_true, true_and, Nat.reduceLT, Nat.reduceLeDiff, beq_self_eq_true, Nat.reduceEqDiff, Nat.add_one_ne_zero, modC, divC, mulC, powC, Int.reduceLT, Int.reduceLE, Int.reduceNeg, Int.reducePow, Int.reduceToNat, Int.reduceEq, Nat.reducePow, Int.zero_add, eqL, eqD, eqB, neD, isD, sz_0, sz_1, sz_2, sz_3, sz_4, sz_5, sz_6, sz_7, sz_8, sz_9, sz_10, sz_11, sz_12, sz_13, sz_14, sz_15, sz_16, sz_17, sz_18, sz_19, sz_20, sz_21, sz_22, sz_23, sz_24, sz_25, sz_26, sz_27, sz_28, sz_29, sz_30, nc_0, nc_1, nc_2, nc_3, nc_4, nc_5, nc_6, nc_7, nc_8, nc_9, nc_10, nc_11, nc_12, nc_13, nc_14, nc_15, nc_16, nc_17, nc_18, nc_19, nc_20, nc_21, nc_22, nc_23, nc_24, nc_25, nc_26, nc_27, nc_28, nc_29, nc_30, isiT, isiK, isiC, isiM, tyNames, tagD, tb0_NoneType, tb0_bool, tb0_int, tb0_str, tb0_tuple, tb0_list, tb0_Tree, tb1_NoneType, tb1_bool, tb1_int, tb1_str, tb1_tuple, tb1_list, tb1_Tree, tb2_NoneType, tb2_bool, tb2_int, tb2_str, tb2_tuple, tb2_list, tb2_Tree, tb3_NoneType, tb3_bool, tb3_int, tb3_str, tb3_tuple, tb3_list, tb3_Tree, tb4_NoneType, tb4_bool, tb4_int, tb4_str, tb4_tuple, tb4_list, tb4_Tree, tb5_NoneType, tb5_bool, tb5_int, tb5_str, tb5_tuple, tb5_list, tb5_Tree, tb6_NoneType, tb6_bool, tb6_int, tb6_str, tb6_tuple, tb6_list, tb6_Tree, nq_kind_children, nb_kind_children, nq_kind_size, nb_kind_size, nq_kind_depth, nb_kind_depth, nq_children_kind, nb_children_kind, nq_children_size, nb_children_size, nq_children_depth, nb_children_depth, nq_size_kind, nb_size_kind, nq_size_children, nb_size_children, nq_size_depth, nb_size_depth, nq_depth_kind, nb_depth_kind, nq_depth_children, nb_depth_children, nq_depth_size, nb_depth_size]
  obtain ⟨s1, e1, hb⟩ := bag_ok (s := s) (ns := ns) (at_ := (k : Int)) (by omega)
  generalize s.nx = n at e1 hb
  rw [e1, tk_ok]
  simp only [↓kn_q, ↓kn_e, ↓kq_q, ↓kp_p, ↓ps_nx, ↓ps_rt, ↓ps_bk, ↓ps_ct, ↓ps_ex, ↓tkV_val, ↓tkV_own, ↓tkVR_val, ↓tkVR_own, ↓tkO_own, ↓tkA_val, ↓tkB_bl, ↓tkI_int, ↓tkStr_str, ↓tkC_obj, ↓tkSm_some, ↓tkSm_map, ↓tkSm_bind, ↓tkSm_ite, ↓tkP_t, ↓tkIf_t, ↓tkIf_f, ↓tkT_t, ↓tk_ok, ↓tk_exc, ↓tk_bind, ↓tk_lift, ↓tks_nx, ↓tks_rt, ↓tks_eS, ↓tks_seq, ↓tks_next, ↓tks_brk, ↓tks_cnt, ↓tks_drop, ↓tks_ret, ↓tks_retN, ↓tks_if, ↓tks_frz, ↓tks_set, ↓tks_setO, ↓tks_par, ↓tks_mut, ↓tks_app, ↓tks_store, ↓tks_fld, ↓tks_aug, ↓tks_for, ↓tks_for0, ↓tk_var, ↓tk_varR, ↓tk_c, ↓tk_bin, ↓tk_test, ↓tk_tnot, ↓tk_yes, ↓tk_tand, ↓tk_tor, ↓tk_call, ↓tk_fn, ↓tk_mkF, ↓tk_nil, ↓tk_cons, ↓tk_attr, ↓tk_meth, ↓tk_xif, ↓tk_seqI, ↓tk_enum, ↓tk_rng1, ↓tk_rng2, ↓tk_loc, ↓tk_lc, ↓tk_neg, ↓tk_no, ↓tk_part, ↓tk_sl, ↓tk_xsNil, ↓tk_xsV, ↓tk_xsO, ↓tk_xnot, ↓tk_xand, ↓tk_xor, ↓tk_lst, ↓tk_tup, ↓tk_sz, ↓tk_chain, ↓tk_s1, ↓tk_maxDf, ↓tk_star, List.getElem?_cons_zero, List.getElem?_cons_succ, List.set_cons_zero, List.set_cons_succ, List.map_cons, List.map_nil, List.cons_append, List.nil_append, List.append_assoc, tkJ_own, frzG, putS, wipeG, pVar, pTup, psCons, psNil, atD, ixD_lst, ixD_tup, ixD_scr, at_0, at_1, at_2, at_3, at_4, at_5, at_6, at_7, lenD, intC, absC, max2C, min2C, addD, intD, cmpD, yesC, slD, seqD, enumD, stD, sumC, allC, anyC, tupC, maxC, Option.bind_some, Option.map_some, List.lookup_cons, List.lookup_nil, List.length_cons, List.length_nil, Bool.not_true, Bool.not_false, Bool.and_self, Bool.true_and, Bool.and_true, Bool.false_and, Bool.and_false, Bool.or_true, Bool.true_or, Bool.false_or, Bool.or_false, reduceIte, decide_true, decide_false, if_true, if_false, List.replicate_succ, List.replicate_zero, Nat.reduceAdd, Nat.reduceSub, Nat.zero_add, List.mem_cons, List.not_mem_nil, or_false, false_or, not_false_eq_true, reduceCtorEq, ne_eq, and_self, and_true, true_and, Nat.reduceLT, Nat.reduceLeDiff, beq_self_eq_true, Nat.reduceEqDiff, Nat.add_one_ne_zero, modC, divC, mulC, powC, Int.reduceLT, Int.reduceLE, Int.reduceNeg, Int.reducePow, Int.reduceToNat, Int.reduceEq, Nat.reducePow, Int.zero_add, eqL, eqD, eqB, neD, isD, sz_0, sz_1, sz_2, sz_3, sz_4, sz_5, sz_6, sz_7, sz_8, sz_9, sz_10, sz_11, sz_12, sz_13, sz_14, sz_15, sz_16, sz_17, sz_18, sz_19, sz_20, sz_21, sz_22, sz_23, sz_24, sz_25, sz_26, sz_27, sz_28, sz_29, sz_30, nc_0, nc_1, nc_2, nc_3, nc_4, nc_5, nc_6, nc_7, nc_8, nc_9, nc_10, nc_11, nc_12, nc_13, nc_14, nc_15, nc_16, nc_17, nc_18, nc_19, nc_20, nc_21, nc_22, nc_23, nc_24, nc_25, nc_26, nc_27, nc_28, nc_29, nc_30, isiT, isiK, isiC, isiM, tyNames, tagD, tb0_NoneType, tb0_bool, tb0_int, tb0_str, tb0_tuple, tb0_list, tb0_Tree, tb1_NoneType, tb1_bool, tb1_int, tb1_str, tb1_tuple, tb1_list, tb1_Tree, tb2_NoneType, tb2_bool, tb2_int, tb2_str, tb2_tuple, tb2_list, tb2_Tree, tb3_NoneType, tb3_bool, tb3_int, tb3_str, tb3_tuple, tb3_list, tb3_Tree, tb4_NoneType, tb4_bool, tb4_int, tb4_str, tb4_tuple, tb4_list, tb4_Tree, tb5_NoneType, tb5_bool, tb5_int, tb5_str, tb5_tuple, tb5_list, tb5_Tree, tb6_NoneType, tb6_bool, tb6_int, tb6_str, tb6_tuple, tb6_list, tb6_Tree, nq_kind_children, nb_kind_children, nq_kind_size, nb_kind_size, nq_kind_depth, nb_kind_depth, nq_children_kind, nb_children_kind, nq_children_size, nb_children_size, nq_children_depth, nb_children_depth, nq_size_kind, nb_size_kind, nq_size_children, nb_size_children, nq_size_depth, nb_size_depth, nq_depth_kind, nb_depth_kind, nq_depth_children, nb_depth_children, nq_depth_size, nb_depth_size]
  refine names_spec (m := 3) hb (by decide) fun ys s2 hy hl h2 => ?_
  simp only [↓kn_q, ↓kn_e, ↓kq_q, ↓kp_p, ↓ps_nx, ↓ps_rt, ↓ps_bk, ↓ps_ct, ↓ps_ex, ↓tkV_val, ↓tkV_own, ↓tkVR_val, ↓tkVR_own, ↓tkO_own, ↓tkA_val, ↓tkB_bl, ↓tkI_int, ↓tkStr_str, ↓tkC_obj, ↓tkSm_some, ↓tkSm_map, ↓tkSm_bind, ↓tkSm_ite, ↓tkP_t, ↓tkIf_t, ↓tkIf_f, ↓tkT_t, ↓tk_ok, ↓tk_exc, ↓tk_bind, ↓tk_lift, ↓tks_nx, ↓tks_rt, ↓tks_eS, ↓tks_seq, ↓tks_next, ↓tks_brk, ↓tks_cnt, ↓tks_drop, ↓tks_ret, ↓tks_retN, ↓tks_if, ↓tks_frz, ↓tks_set, ↓tks_setO, ↓tks_par, ↓tks_mut, ↓tks_app, ↓tks_store, ↓tks_fld, ↓tks_aug, ↓tks_for, ↓tks_for0, ↓tk_var, ↓tk_varR, ↓tk_c, ↓tk_bin, ↓tk_test, ↓tk_tnot, ↓tk_yes, ↓tk_tand, ↓tk_tor, ↓tk_call, ↓tk_fn, ↓tk_mkF, ↓tk_nil, ↓tk_cons, ↓tk_attr, ↓tk_meth, ↓tk_xif, ↓tk_seqI, ↓tk_enum, ↓tk_rng1, ↓tk_rng2, ↓tk_loc, ↓tk_lc, ↓tk_neg, ↓tk_no, ↓tk_part, ↓tk_sl, ↓tk_xsNil, ↓tk_xsV, ↓tk_xsO, ↓tk_xnot, ↓tk_xand, ↓tk_xor, ↓tk_lst, ↓tk_tup, ↓tk_sz, ↓tk_chain, ↓tk_s1, ↓tk_maxDf, ↓tk_star, List.getElem?_cons_zero, List.getElem?_cons_succ, List.set_cons_zero, List.set_cons_succ, List.map_cons, List.map_nil, List.cons_append, List.nil_append, List.append_assoc, tkJ_own, frzG, putS, wipeG, pVar, pTup, psCons, psNil, atD, ixD_lst, ixD_tup, ixD_scr, at_0, at_1, at_2, at_3, at_4, at_5, at_6, at_7, lenD, intC, absC, max2C, min2C, addD, intD, cmpD, yesC, slD, seqD, enumD, stD, sumC, allC, anyC, tupC, maxC, Option.bind_some, Option.map_some, List.lookup_cons, List.lookup_nil, List.length_cons, List.length_nil, Bool.not_true, Bool.not_false, Bool.and_self, Bool.true_and, Bool.and_true, Bool.false_and, Bool.and_false, Bool.or_true, Bool.true_or, Bool.false_or, Bool.or_false, reduceIte, decide_true, decide_false, if_true, if_false, List.replicate_succ, List.replicate_zero, Nat.reduceAdd, Nat.reduceSub, Nat.zero_add, List.mem_cons, List.not_mem_nil, or_false, false_or, not_false_eq_true, reduceCtorEq, ne_eq, and_self, and_true, true_and, Nat.reduceLT, Nat.reduceLeDiff, beq_self_eq_true, Nat.reduceEqDiff, Nat.add_one_ne_zero, modC, divC, mulC, powC, Int.reduceLT, Int.reduceLE, Int.reduceNeg, Int.reducePow, Int.reduceToNat, Int.reduceEq, Nat.reducePow, Int.zero_add, eqL, eqD, eqB, neD, isD, sz_0, sz_1, sz_2, sz_3, sz_4, sz_5, sz_6, sz_7, sz_8, sz_9, sz_10, sz_11, sz_12, sz_13, sz_14, sz_15, sz_16, sz_17, sz_18, sz_19, sz_20, sz_21, sz_22, sz_23, sz_24, sz_25, sz_26, sz_27, sz_28, sz_29, sz_30, nc_0, nc_1, nc_2, nc_3, nc_4, nc_5, nc_6, nc_7, nc_8, nc_9, nc_10, nc_11, nc_12, nc_13, nc_14, nc_15, nc_16, nc_17, nc_18, nc_19, nc_20, nc_21, nc_22, nc_23, nc_24, nc_25, nc_26, nc_27, nc_28, nc_29, nc_30, isiT, isiK, isiC, isiM, tyNames, tagD, tb0_NoneType, tb0_bool, tb0_int, tb0_str, tb0_tuple, tb0_list, tb0_Tree, tb1_NoneType, tb1_bool, tb1_int, tb1_str, tb1_tuple, tb1_list, tb1_Tree, tb2_NoneType, tb2_bool, tb2_int, tb2_str, tb2_tuple, tb2_list, tb2_Tree, tb3_NoneType, tb3_bool, tb3_int, tb3_str, tb3_tuple, tb3_list, tb3_Tree, tb4_NoneType, tb4_bool, tb4_int, tb4_str, tb4_tuple, tb4_list, tb4_Tree, tb5_NoneType, tb5_bool, tb5_int, tb5_str, tb5_tuple, tb5_list, tb5_Tree, tb6_NoneType, tb6_bool, tb6_int, tb6_str, tb6_tuple, tb6_list, tb6_Tree, nq_kind_children, nb_kind_children, nq_kind_size, nb_kind_size, nq_kind_depth, nb_kind_depth, nq_children_kind, nb_children_kind, nq_children_size, nb_children_size, nq_children_depth, nb_children_depth, nq_size_kind, nb_size_kind, nq_size_children, nb_size_children, nq_size_depth, nb_size_depth, nq_depth_kind, nb_depth_kind, nq_depth_children, nb_depth_children, nq_depth_size, nb_depth_size]
  match ys, hl, hy with
  | [a, b, c], _, hy =>
    obtain ⟨ta, rfl, na⟩ := hy a (by simp)
    simp only [↓kn_q, ↓kn_e, ↓kq_q, ↓kp_p, ↓ps_nx, ↓ps_rt, ↓ps_bk, ↓ps_ct, ↓ps_ex, ↓tkV_val, ↓tkV_own, ↓tkVR_val, ↓tkVR_own, ↓tkO_own, ↓tkA_val, ↓tkB_bl, ↓tkI_int, ↓tkStr_str, ↓tkC_obj, ↓tkSm_some, ↓tkSm_map, ↓tkSm_bind, ↓tkSm_ite, ↓tkP_t, ↓tkIf_t, ↓tkIf_f, ↓tkT_t, ↓tk_ok, ↓tk_exc, ↓tk_bind, ↓tk_lift, ↓tks_nx, ↓tks_rt, ↓tks_eS, ↓tks_seq, ↓tks_next, ↓tks_brk, ↓tks_cnt, ↓tks_drop, ↓tks_ret, ↓tks_retN, ↓tks_if, ↓tks_frz, ↓tks_set, ↓tks_setO, ↓tks_par, ↓tks_mut, ↓tks_app, ↓tks_store, ↓tks_fld, ↓tks_aug, ↓tks_for, ↓tks_for0, ↓tk_var, ↓tk_varR, ↓tk_c, ↓tk_bin, ↓tk_test, ↓tk_tnot, ↓tk_yes, ↓tk_tand, ↓tk_tor, ↓tk_call, ↓tk_fn, ↓tk_mkF, ↓tk_nil, ↓tk_cons, ↓tk_attr, ↓tk_meth, ↓tk_xif, ↓tk_seqI, ↓tk_enum, ↓tk_rng1, ↓tk_rng2, ↓tk_loc, ↓tk_lc, ↓tk_neg, ↓tk_no, ↓tk_part, ↓tk_sl, ↓tk_xsNil, ↓tk_xsV, ↓tk_xsO, ↓tk_xnot, ↓tk_xand, ↓tk_xor, ↓tk_lst, ↓tk_tup, ↓tk_sz, ↓tk_chain, ↓tk_s1, ↓tk_maxDf, ↓tk_star, List.getElem?_cons_zero, List.getElem?_cons_succ, List.set_cons_zero, List.set_cons_succ, List.map_cons, List.map_nil, List.cons_append, List.nil_append, List.append_assoc, tkJ_own, frzG, putS, wipeG, pVar, pTup, psCons, psNil, atD, ixD_lst, ixD_tup, ixD_scr, at_0, at_1, at_2, at_3, at_4, at_5, at_6, at_7, lenD, intC, absC, max2C, min2C, addD, intD, cmpD, yesC, slD, seqD, enumD, stD, sumC, allC, anyC, tupC, maxC, Option.bind_some, Option.map_some, List.lookup_cons, List.lookup_nil, List.length_cons, List.length_nil, Bool.not_true, Bool.not_false, Bool.and_self, Bool.true_and, Bool.and_true, Bool.false_and, Bool.and_false, Bool.or_true, Bool.true_or, Bool.false_or, Bool.or_false, reduceIte, decide_true, decide_false, if_true, if_false, List.replicate_succ, List.replicate_zero, Nat.reduceAdd, Nat.reduceSub, Nat.zero_add, List.mem_cons, List.not_mem_nil, or_false, false_or, not_false_eq_true, reduceCtorEq, ne_eq, and_self, and_true, true_and, Nat.reduceLT, Nat.reduceLeDiff, beq_self_eq_true, Nat.reduceEqDiff, Nat.add_one_ne_zero, modC, divC, mulC, powC, Int.reduceLT, Int.reduceLE, Int.reduceNeg, Int.reducePow, Int.reduceToNat, Int.reduceEq, Nat.reducePow, Int.zero_add, eqL, eqD, eqB, neD, isD, sz_0, sz_1, sz_2, sz_3, sz_4, sz_5, sz_6, sz_7, sz_8, sz_9, sz_10, sz_11, sz_12, sz_13, sz_14, sz_15, sz_16, sz_17, sz_18, sz_19, sz_20, sz_21, sz_22, sz_23, sz_24, sz_25, sz_26, sz_27, sz_28, sz_29, sz_30, nc_0, nc_1, nc_2, nc_3, nc_4, nc_5, nc_6, nc_7, nc_8, nc_9, nc_10, nc_11, nc_12, nc_13, nc_14, nc_15, nc_16, nc_17, nc_18, nc_19, nc_20, nc_21, nc_22, nc_23, nc_24, nc_25, nc_26, nc_27, nc_28, nc_29, nc_30, isiT, isiK, isiC, isiM, tyNames, tagD, tb0_NoneType, tb0_bool, tb0_int, tb0_str, tb0_tuple, tb0_list, tb0_Tree, tb1_NoneType, tb1_bool, tb1_int, tb1_str, tb1_tuple, tb1_list, tb1_Tree, tb2_NoneType, tb2_bool, tb2_int, tb2_str, tb2_tuple, tb2_list, tb2_Tree, tb3_NoneType, tb3_bool, tb3_int, tb3_str, tb3_tuple, tb3_list, tb3_Tree, tb4_NoneType, tb4_bool, tb4_int, tb4_str, tb4_tuple, tb4_list, tb4_Tree, tb5_NoneType, tb5_bool, tb5_int, tb5_str, tb5_tuple, tb5_list, tb5_Tree, tb6_NoneType, tb6_bool, tb6_int, tb6_str, tb6_tuple, tb6_list, tb6_Tree, nq_kind_children, nb_kind_children, nq_kind_size, nb_kind_size, nq_kind_depth, nb_kind_depth, nq_children_kind, nb_children_kind, nq_children_size, nb_children_size, nq_children_depth, nb_children_depth, nq_size_kind, nb_size_kind, nq_size_children, nb_size_children, nq_size_depth, nb_size_depth, nq_depth_kind, nb_depth_kind, nq_depth_children, nb_depth_children, nq_depth_size, nb_depth_size]
    refine init_spec (ps := []) na (fun _ h => (List.not_mem_nil h).elim) (by simp) (by simp [trs]) ?_
    simp only [↓kn_q, ↓kn_e, ↓kq_q, ↓kp_p, ↓ps_nx, ↓ps_rt, ↓ps_bk, ↓ps_ct, ↓ps_ex, ↓tkV_val, ↓tkV_own, ↓tkVR_val, ↓tkVR_own, ↓tkO_own, ↓tkA_val, ↓tkB_bl, ↓tkI_int, ↓tkStr_str, ↓tkC_obj, ↓tkSm_some, ↓tkSm_map, ↓tkSm_bind, ↓tkSm_ite, ↓tkP_t, ↓tkIf_t, ↓tkIf_f, ↓tkT_t, ↓tk_ok, ↓tk_exc, ↓tk_bind, ↓tk_lift, ↓tks_nx, ↓tks_rt, ↓tks_eS, ↓tks_seq, ↓tks_next, ↓tks_brk, ↓tks_cnt, ↓tks_drop, ↓tks_ret, ↓tks_retN, ↓tks_if, ↓tks_frz, ↓tks_set, ↓tks_setO, ↓tks_par, ↓tks_mut, ↓tks_app, ↓tks_store, ↓tks_fld, ↓tks_aug, ↓tks_for, ↓tks_for0, ↓tk_var, ↓tk_varR, ↓tk_c, ↓tk_bin, ↓tk_test, ↓tk_tnot, ↓tk_yes, ↓tk_tand, ↓tk_tor, ↓tk_call, ↓tk_fn, ↓tk_mkF, ↓tk_nil, ↓tk_cons, ↓tk_attr, ↓tk_meth, ↓tk_xif, ↓tk_seqI, ↓tk_enum, ↓tk_rng1, ↓tk_rng2, ↓tk_loc, ↓tk_lc, ↓tk_neg, ↓tk_no, ↓tk_part, ↓tk_sl, ↓tk_xsNil, ↓tk_xsV, ↓tk_xsO, ↓tk_xnot, ↓tk_xand, ↓tk_xor, ↓tk_lst, ↓tk_tup, ↓tk_sz, ↓tk_chain, ↓tk_s1, ↓tk_maxDf, ↓tk_star, List.getElem?_cons_zero, List.getElem?_cons_succ, List.set_cons_zero, List.set_cons_succ, List.map_cons, List.map_nil, List.cons_append, List.nil_append, List.append_assoc, tkJ_own, frzG, putS, wipeG, pVar, pTup, psCons, psNil, atD, ixD_lst, ixD_tup, ixD_scr, at_0, at_1, at_2, at_3, at_4, at_5, at_6, at_7, lenD, intC, absC, max2C, min2C, addD, intD, cmpD, yesC, slD, seqD, enumD, stD, sumC, allC, anyC, tupC, maxC, Option.bind_some, Option.map_some, List.lookup_cons, List.lookup_nil, List.length_cons, List.length_nil, Bool.not_true, Bool.not_false, Bool.and_self, Bool.true_and, Bool.and_true, Bool.false_and, Bool.and_false, Bool.or_true, Bool.true_or, Bool.false_or, Bool.or_false, reduceIte, decide_true, decide_false, if_true, if_false, List.replicate_succ, List.replicate_zero, Nat.reduceAdd, Nat.reduceSub, Nat.zero_add, List.mem_cons, List.not_mem_nil, or_false, false_or, not_false_eq_true, reduceCtorEq, ne_eq, and_self, and_true, true_and, Nat.reduceLT, Nat.reduceLeDiff, beq_self_eq_true, Nat.reduceEqDiff, Nat.add_one_ne_zero, modC, divC, mulC, powC, Int.reduceLT, Int.reduceLE, Int.reduceNeg, Int.reducePow, Int.reduceToNat, Int.reduceEq, Nat.reducePow, Int.zero_add, eqL, eqD, eqB, neD, isD, sz_0, sz_1, sz_2, sz_3, sz_4, sz_5, sz_6, sz_7, sz_8, sz_9, sz_10, sz_11, sz_12, sz_13, sz_14, sz_15, sz_16, sz_17, sz_18, sz_19, sz_20, sz_21, sz_22, sz_23, sz_24, sz_25, sz_26, sz_27, sz_28, sz_29, sz_30, nc_0, nc_1, nc_2, nc_3, nc_4, nc_5, nc_6, nc_7, nc_8, nc_9, nc_10, nc_11, nc_12, nc_13, nc_14, nc_15, nc_16, nc_17, nc_18, nc_19, nc_20, nc_21, nc_22, nc_23, nc_24, nc_25, nc_26, nc_27, nc_28, nc_29, nc_30, isiT, isiK, isiC, isiM, tyNames, tagD, tb0_NoneType, tb0_bool, tb0_int, tb0_str, tb0_tuple, tb0_list, tb0_Tree, tb1_NoneType, tb1_bool, tb1_int, tb1_str, tb1_tuple, tb1_list, tb1_Tree, tb2_NoneType, tb2_bool, tb2_int, tb2_str, tb2_tuple, tb2_list, tb2_Tree, tb3_NoneType, tb3_bool, tb3_int, tb3_str, tb3_tuple, tb3_list, tb3_Tree, tb4_NoneType, tb4_bool, tb4_int, tb4_str, tb4_tuple, tb4_list, tb4_Tree, tb5_NoneType, tb5_bool, tb5_int, tb5_str, tb5_tuple, tb5_list, tb5_Tree, tb6_NoneType, tb6_bool, tb6_int, tb6_str, tb6_tuple, tb6_list, tb6_Tree, nq_kind_children, nb_kind_children, nq_kind_size, nb_kind_size, nq_kind_depth, nb_kind_depth, nq_children_kind, nb_children_kind, nq_children_size, nb_children_size, nq_children_depth, nb_children_depth, nq_size_kind, nb_size_kind, nq_size_children, nb_size_children, nq_size_depth, nb_size_depth, nq_depth_kind, nb_depth_kind, nq_depth_children, nb_depth_children, nq_depth_size, nb_depth_size]
    have tb0 : TbOk [(treeOf ta [], 1, 1)] := ⟨fun z hz => by
      rw [List.mem_singleton] at hz
      rw [hz]
      exact ⟨⟨_, rfl, rfl, rfl⟩, (by decide : (0 : Int) ≤ 1)⟩, by simp, by simp⟩
    refine take_spec h2 (by decide) (by decide) fun d s3 d0 d1 h3 => ?_
    simp only [↓kn_q, ↓kn_e, ↓kq_q, ↓kp_p, ↓ps_nx, ↓ps_rt, ↓ps_bk, ↓ps_ct, ↓ps_ex, ↓tkV_val, ↓tkV_own, ↓tkVR_val, ↓tkVR_own, ↓tkO_own, ↓tkA_val, ↓tkB_bl, ↓tkI_int, ↓tkStr_str, ↓tkC_obj, ↓tkSm_some, ↓tkSm_map, ↓tkSm_bind, ↓tkSm_ite, ↓tkP_t, ↓tkIf_t, ↓tkIf_f, ↓tkT_t, ↓tk_ok, ↓tk_exc, ↓tk_bind, ↓tk_lift, ↓tks_nx, ↓tks_rt, ↓tks_eS, ↓tks_seq, ↓tks_next, ↓tks_brk, ↓tks_cnt, ↓tks_drop, ↓tks_ret, ↓tks_retN, ↓tks_if, ↓tks_frz, ↓tks_set, ↓tks_setO, ↓tks_par, ↓tks_mut, ↓tks_app, ↓tks_store, ↓tks_fld, ↓tks_aug, ↓tks_for, ↓tks_for0, ↓tk_var, ↓tk_varR, ↓tk_c, ↓tk_bin, ↓tk_test, ↓tk_tnot, ↓tk_yes, ↓tk_tand, ↓tk_tor, ↓tk_call, ↓tk_fn, ↓tk_mkF, ↓tk_nil, ↓tk_cons, ↓tk_attr, ↓tk_meth, ↓tk_xif, ↓tk_seqI, ↓tk_enum, ↓tk_rng1, ↓tk_rng2, ↓tk_loc, ↓tk_lc, ↓tk_neg, ↓tk_no, ↓tk_part, ↓tk_sl, ↓tk_xsNil, ↓tk_xsV, ↓tk_xsO, ↓tk_xnot, ↓tk_xand, ↓tk_xor, ↓tk_lst, ↓tk_tup, ↓tk_sz, ↓tk_chain, ↓tk_s1, ↓tk_maxDf, ↓tk_star, List.getElem?_cons_zero, List.getElem?_cons_succ, List.set_cons_zero, List.set_cons_succ, List.map_cons, List.map_nil, List.cons_append, List.nil_append, List.append_assoc, tkJ_own, frzG, putS, wipeG, pVar, pTup, psCons, psNil, atD, ixD_lst, ixD_tup, ixD_scr, at_0, at_1, at_2, at_3, at_4, at_5, at_6, at_7, lenD, intC, absC, max2C, min2C, addD, intD, cmpD, yesC, slD, seqD, enumD, stD, sumC, allC, anyC, tupC, maxC, Option.bind_some, Option.map_some, List.lookup_cons, List.lookup_nil, List.length_cons, List.length_nil, Bool.not_true, Bool.not_false, Bool.and_self, Bool.true_and, Bool.and_true, Bool.false_and, Bool.and_false, Bool.or_true, Bool.true_or, Bool.false_or, Bool.or_false, reduceIte, decide_true, decide_false, if_true, if_false, List.replicate_succ, List.replicate_zero, Nat.reduceAdd, Nat.reduceSub, Nat.zero_add, List.mem_cons, List.not_mem_nil, or_false, false_or, not_false_eq_true, reduceCtorEq, ne_eq, and_self, and_true, true_and, Nat.reduceLT, Nat.reduceLeDiff, beq_self_eq_true, Nat.reduceEqDiff, Nat.add_one_ne_zero, modC, divC, mulC, powC, Int.reduceLT, Int.reduceLE, Int.reduceNeg, Int.reducePow, Int.reduceToNat, Int.reduceEq, Nat.reducePow, Int.zero_add, eqL, eqD, eqB, neD, isD, sz_0, sz_1, sz_2, sz_3, sz_4, sz_5, sz_6, sz_7, sz_8, sz_9, sz_10, sz_11, sz_12, sz_13, sz_14, sz_15, sz_16, sz_17, sz_18, sz_19, sz_20, sz_21, sz_22, sz_23, sz_24, sz_25, sz_26, sz_27, sz_28, sz_29, sz_30, nc_0, nc_1, nc_2, nc_3, nc_4, nc_5, nc_6, nc_7, nc_8, nc_9, nc_10, nc_11, nc_12, nc_13, nc_14, nc_15, nc_16, nc_17, nc_18, nc_19, nc_20, nc_21, nc_22, nc_23, nc_24, nc_25, nc_26, nc_27, nc_28, nc_29, nc_30, isiT, isiK, isiC, isiM, tyNames, tagD, tb0_NoneType, tb0_bool, tb0_int, tb0_str, tb0_tuple, tb0_list, tb0_Tree, tb1_NoneType, tb1_bool, tb1_int, tb1_str, tb1_tuple, tb1_list, tb1_Tree, tb2_NoneType, tb2_bool, tb2_int, tb2_str, tb2_tuple, tb2_list, tb2_Tree, tb3_NoneType, tb3_bool, tb3_int, tb3_str, tb3_tuple, tb3_list, tb3_Tree, tb4_NoneType, tb4_bool, tb4_int, tb4_str, tb4_tuple, tb4_list, tb4_Tree, tb5_NoneType, tb5_bool, tb5_int, tb5_str, tb5_tuple, tb5_list, tb5_Tree, tb6_NoneType, tb6_bool, tb6_int, tb6_str, tb6_tuple, tb6_list, tb6_Tree, nq_kind_children, nb_kind_children, nq_kind_size, nb_kind_size, nq_kind_depth, nb_kind_depth, nq_children_kind, nb_children_kind, nq_children_size, nb_children_size, nq_children_depth, nb_children_depth, nq_size_kind, nb_size_kind, nq_size_children, nb_size_children, nq_size_depth, nb_size_depth, nq_depth_kind, nb_depth_kind, nq_depth_children, nb_depth_children, nq_depth_size, nb_depth_size]
    refine trng1_of (by omega) (by omega) ?_
    simp only [↓kn_q, ↓kn_e, ↓kq_q, ↓kp_p, ↓ps_nx, ↓ps_rt, ↓ps_bk, ↓ps_ct, ↓ps_ex, ↓tkV_val, ↓tkV_own, ↓tkVR_val, ↓tkVR_own, ↓tkO_own, ↓tkA_val, ↓tkB_bl, ↓tkI_int, ↓tkStr_str, ↓tkC_obj, ↓tkSm_some, ↓tkSm_map, ↓tkSm_bind, ↓tkSm_ite, ↓tkP_t, ↓tkIf_t, ↓tkIf_f, ↓tkT_t, ↓tk_ok, ↓tk_exc, ↓tk_bind, ↓tk_lift, ↓tks_nx, ↓tks_rt, ↓tks_eS, ↓tks_seq, ↓tks_next, ↓tks_brk, ↓tks_cnt, ↓tks_drop, ↓tks_ret, ↓tks_retN, ↓tks_if, ↓tks_frz, ↓tks_set, ↓tks_setO, ↓tks_par, ↓tks_mut, ↓tks_app, ↓tks_store, ↓tks_fld, ↓tks_aug, ↓tks_for, ↓tks_for0, ↓tk_var, ↓tk_varR, ↓tk_c, ↓tk_bin, ↓tk_test, ↓tk_tnot, ↓tk_yes, ↓tk_tand, ↓tk_tor, ↓tk_call, ↓tk_fn, ↓tk_mkF, ↓tk_nil, ↓tk_cons, ↓tk_attr, ↓tk_meth, ↓tk_xif, ↓tk_seqI, ↓tk_enum, ↓tk_rng1, ↓tk_rng2, ↓tk_loc, ↓tk_lc, ↓tk_neg, ↓tk_no, ↓tk_part, ↓tk_sl, ↓tk_xsNil, ↓tk_xsV, ↓tk_xsO, ↓tk_xnot, ↓tk_xand, ↓tk_xor, ↓tk_lst, ↓tk_tup, ↓tk_sz, ↓tk_chain, ↓tk_s1, ↓tk_maxDf, ↓tk_star, List.getElem?_cons_zero, List.getElem?_cons_succ, List.set_cons_zero, List.set_cons_succ, List.map_cons, List.map_nil, List.cons_append, List.nil_append, List.append_assoc, tkJ_own, frzG, putS, wipeG, pVar, pTup, psCons, psNil, atD, ixD_lst, ixD_tup, ixD_scr, at_0, at_1, at_2, at_3, at_4, at_5, at_6, at_7, lenD, intC, absC, max2C, min2C, addD, intD, cmpD, yesC, slD, seqD, enumD, stD, sumC, allC, anyC, tupC, maxC, Option.bind_some, Option.map_some, List.lookup_cons, List.lookup_nil, List.length_cons, List.length_nil, Bool.not_true, Bool.not_false, Bool.and_self, Bool.true_and, Bool.and_true, Bool.false_and, Bool.and_false, Bool.or_true, Bool.true_or, Bool.false_or, Bool.or_false, reduceIte, decide_true, decide_false, if_true, if_false, List.replicate_succ, List.replicate_zero, Nat.reduceAdd, Nat.reduceSub, Nat.zero_add, List.mem_cons, List.not_mem_nil, or_false, false_or, not_false_eq_true, reduceCtorEq, ne_eq, and_self, and_true, true_and, Nat.reduceLT, Nat.reduceLeDiff, beq_self_eq_true, Nat.reduceEqDiff, Nat.add_one_ne_zero, modC, divC, mulC, powC, Int.reduceLT, Int.reduceLE, Int.reduceNeg, Int.reducePow, Int.reduceToNat, Int.reduceEq, Nat.reducePow, Int.zero_add, eqL, eqD, eqB, neD, isD, sz_0, sz_1, sz_2, sz_3, sz_4, sz_5, sz_6, sz_7, sz_8, sz_9, sz_10, sz_11, sz_12, sz_13, sz_14, sz_15, sz_16, sz_17, sz_18, sz_19, sz_20, sz_21, sz_22, sz_23, sz_24, sz_25, sz_26, sz_27, sz_28, sz_29, sz_30, nc_0, nc_1, nc_2, nc_3, nc_4, nc_5, nc_6, nc_7, nc_8, nc_9, nc_10, nc_11, nc_12, nc_13, nc_14, nc_15, nc_16, nc_17, nc_18, nc_19, nc_20, nc_21, nc_22, nc_23, nc_24, nc_25, nc_26, nc_27, nc_28, nc_29, nc_30, isiT, isiK, isiC, isiM, tyNames, tagD, tb0_NoneType, tb0_bool, tb0_int, tb0_str, tb0_tuple, tb0_list, tb0_Tree, tb1_NoneType, tb1_bool, tb1_int, tb1_str, tb1_tuple, tb1_list, tb1_Tree, tb2_NoneType, tb2_bool, tb2_int, tb2_str, tb2_tuple, tb2_list, tb2_Tree, tb3_NoneType, tb3_bool, tb3_int, tb3_str, tb3_tuple, tb3_list, tb3_Tree, tb4_NoneType, tb4_bool, tb4_int, tb4_str, tb4_tuple, tb4_list, tb4_Tree, tb5_NoneType, tb5_bool, tb5_int, tb5_str, tb5_tuple, tb5_list, tb5_Tree, tb6_NoneType, tb6_bool, tb6_int, tb6_str, tb6_tuple, tb6_list, tb6_Tree, nq_kind_children, nb_kind_children, nq_kind_size, nb_kind_size, nq_kind_depth, nb_kind_depth, nq_children_kind, nb_children_kind, nq_children_size, nb_children_size, nq_children_depth, nb_children_depth, nq_size_kind, nb_size_kind, nq_size_children, nb_size_children, nq_size_depth, nb_size_depth, nq_depth_kind, nb_depth_kind, nq_depth_children, nb_depth_children, nq_depth_size, nb_depth_size]
    refine tfor_inv (fun i G s => ∃ tb x4 x5 x9 x10 x11 x12 x13 x14 x15 x16, TbOk tb ∧ tb.length ≤ i + 1 ∧ Bg s n ∧ G = [.val (.scr ns), .val (.int (k : Int)), .val (.loc n), .val (.lst [.str ta, b, c]), x4, x5, .own (.lst (tD tb)), .own (.lst (tS tb)), .own (.lst (tH tb)), x9, x10, x11, x12, x13, x14, x15, x16]) ?_ ?_ ?_
    · exact ⟨[(treeOf ta [], 1, 1)], _, _, _, _, _, _, _, _, _, _, tb0, Nat.le_refl _, h3, rfl⟩
    · rintro i hi _ s4 ⟨tb, y4, y5, y9, y10, y11, y12, y13, y14, y15, y16, ht, hl, h4, rfl⟩
      rw [rngL_len] at hi
      simp only [↓kn_q, ↓kn_e, ↓kq_q, ↓kp_p, ↓ps_nx, ↓ps_rt, ↓ps_bk, ↓ps_ct, ↓ps_ex, ↓tkV_val, ↓tkV_own, ↓tkVR_val, ↓tkVR_own, ↓tkO_own, ↓tkA_val, ↓tkB_bl, ↓tkI_int, ↓tkStr_str, ↓tkC_obj, ↓tkSm_some, ↓tkSm_map, ↓tkSm_bind, ↓tkSm_ite, ↓tkP_t, ↓tkIf_t, ↓tkIf_f, ↓tkT_t, ↓tk_ok, ↓tk_exc, ↓tk_bind, ↓tk_lift, ↓tks_nx, ↓tks_rt, ↓tks_eS, ↓tks_seq, ↓tks_next, ↓tks_brk, ↓tks_cnt, ↓tks_drop, ↓tks_ret, ↓tks_retN, ↓tks_if, ↓tks_frz, ↓tks_set, ↓tks_setO, ↓tks_par, ↓tks_mut, ↓tks_app, ↓tks_store, ↓tks_fld, ↓tks_aug, ↓tks_for, ↓tks_for0, ↓tk_var, ↓tk_varR, ↓tk_c, ↓tk_bin, ↓tk_test, ↓tk_tnot, ↓tk_yes, ↓tk_tand, ↓tk_tor, ↓tk_call, ↓tk_fn, ↓tk_mkF, ↓tk_nil, ↓tk_cons, ↓tk_attr, ↓tk_meth, ↓tk_xif, ↓tk_seqI, ↓tk_enum, ↓tk_rng1, ↓tk_rng2, ↓tk_loc, ↓tk_lc, ↓tk_neg, ↓tk_no, ↓tk_part, ↓tk_sl, ↓tk_xsNil, ↓tk_xsV, ↓tk_xsO, ↓tk_xnot, ↓tk_xand, ↓tk_xor, ↓tk_lst, ↓tk_tup, ↓tk_sz, ↓tk_chain, ↓tk_s1, ↓tk_maxDf, ↓tk_star, List.getElem?_cons_zero, List.getElem?_cons_succ, List.set_cons_zero, List.set_cons_succ, List.map_cons, List.map_nil, List.cons_append, List.nil_append, List.append_assoc, tkJ_own, frzG, putS, wipeG, pVar, pTup, psCons, psNil, atD, ixD_lst, ixD_tup, ixD_scr, at_0, at_1, at_2, at_3, at_4, at_5, at_6, at_7, lenD, intC, absC, max2C, min2C, addD, intD, cmpD, yesC, slD, seqD, enumD, stD, sumC, allC, anyC, tupC, maxC, Option.bind_some, Option.map_some, List.lookup_cons, List.lookup_nil, List.length_cons, List.length_nil, Bool.not_true, Bool.not_false, Bool.and_self, Bool.true_and, Bool.and_true, Bool.false_and, Bool.and_false, Bool.or_true, Bool.true_or, Bool.false_or, Bool.or_false, reduceIte, decide_true, decide_false, if_true, if_false, List.replicate_succ, List.replicate_zero, Nat.reduceAdd, Nat.reduceSub, Nat.zero_add, List.mem_cons, List.not_mem_nil, or_false, false_or, not_false_eq_true, reduceCtorEq, ne_eq, and_self, and_true, true_and, Nat.reduceLT, Nat.reduceLeDiff, beq_self_eq_true, Nat.reduceEqDiff, Nat.add_one_ne_zero, modC, divC, mulC, powC, Int.reduceLT, Int.reduceLE, Int.reduceNeg, Int.reducePow, Int.reduceToNat, Int.reduceEq, Nat.reducePow, Int.zero_add, eqL, eqD, eqB, neD, isD, sz_0, sz_1, sz_2, sz_3, sz_4, sz_5, sz_6, sz_7, sz_8, sz_9, sz_10, sz_11, sz_12, sz_13, sz_14, sz_15, sz_16, sz_17, sz_18, sz_19, sz_20, sz_21, sz_22, sz_23, sz_24, sz_25, sz_26, sz_27, sz_28, sz_29, sz_30, nc_0, nc_1, nc_2, nc_3, nc_4, nc_5, nc_6, nc_7, nc_8, nc_9, nc_10, nc_11, nc_12, nc_13, nc_14, nc_15, nc_16, nc_17, nc_18, nc_19, nc_20, nc_21, nc_22, nc_23, nc_24, nc_25, nc_26, nc_27, nc_28, nc_29, nc_30, isiT, isiK, isiC, isiM, tyNames, tagD, tb0_NoneType, tb0_bool, tb0_int, tb0_str, tb0_tuple, tb0_list, tb0_Tree, tb1_NoneType, tb1_bool, tb1_int, tb1_str, tb1_tuple, tb1_list, tb1_Tree, tb2_NoneType, tb2_bool, tb2_int, tb2_str, tb2_tuple, tb2_list, tb2_Tree, tb3_NoneType, tb3_bool, tb3_int, tb3_str, tb3_tuple, tb3_list, tb3_Tree, tb4_NoneType, tb4_bool, tb4_int, tb4_str, tb4_tuple, tb4_list, tb4_Tree, tb5_NoneType, tb5_bool, tb5_int, tb5_str, tb5_tuple, tb5_list, tb5_Tree, tb6_NoneType, tb6_bool, tb6_int, tb6_str, tb6_tuple, tb6_list, tb6_Tree, nq_kind_children, nb_kind_children, nq_kind_size, nb_kind_size, nq_kind_depth, nb_kind_depth, nq_children_kind, nb_children_kind, nq_children_size, nb_children_size, nq_children_depth, nb_children_depth, nq_size_kind, nb_size_kind, nq_size_children, nb_size_children, nq_size_depth, nb_size_depth, nq_depth_kind, nb_depth_kind, nq_depth_children, nb_depth_children, nq_depth_size, nb_depth_size]
      refine level_spec ht (by omega) hy rfl h4 fun tb' s' z5 z9 z10 z11 z12 z13 z14 z15 z16 ht' hl' hb' => ?_
      simp only [↓kn_q, ↓kn_e, ↓kq_q, ↓kp_p, ↓ps_nx, ↓ps_rt, ↓ps_bk, ↓ps_ct, ↓ps_ex, ↓tkV_val, ↓tkV_own, ↓tkVR_val, ↓tkVR_own, ↓tkO_own, ↓tkA_val, ↓tkB_bl, ↓tkI_int, ↓tkStr_str, ↓tkC_obj, ↓tkSm_some, ↓tkSm_map, ↓tkSm_bind, ↓tkSm_ite, ↓tkP_t, ↓tkIf_t, ↓tkIf_f, ↓tkT_t, ↓tk_ok, ↓tk_exc, ↓tk_bind, ↓tk_lift, ↓tks_nx, ↓tks_rt, ↓tks_eS, ↓tks_seq, ↓tks_next, ↓tks_brk, ↓tks_cnt, ↓tks_drop, ↓tks_ret, ↓tks_retN, ↓tks_if, ↓tks_frz, ↓tks_set, ↓tks_setO, ↓tks_par, ↓tks_mut, ↓tks_app, ↓tks_store, ↓tks_fld, ↓tks_aug, ↓tks_for, ↓tks_for0, ↓tk_var, ↓tk_varR, ↓tk_c, ↓tk_bin, ↓tk_test, ↓tk_tnot, ↓tk_yes, ↓tk_tand, ↓tk_tor, ↓tk_call, ↓tk_fn, ↓tk_mkF, ↓tk_nil, ↓tk_cons, ↓tk_attr, ↓tk_meth, ↓tk_xif, ↓tk_seqI, ↓tk_enum, ↓tk_rng1, ↓tk_rng2, ↓tk_loc, ↓tk_lc, ↓tk_neg, ↓tk_no, ↓tk_part, ↓tk_sl, ↓tk_xsNil, ↓tk_xsV, ↓tk_xsO, ↓tk_xnot, ↓tk_xand, ↓tk_xor, ↓tk_lst, ↓tk_tup, ↓tk_sz, ↓tk_chain, ↓tk_s1, ↓tk_maxDf, ↓tk_star, List.getElem?_cons_zero, List.getElem?_cons_succ, List.set_cons_zero, List.set_cons_succ, List.map_cons, List.map_nil, List.cons_append, List.nil_append, List.append_assoc, tkJ_own, frzG, putS, wipeG, pVar, pTup, psCons, psNil, atD, ixD_lst, ixD_tup, ixD_scr, at_0, at_1, at_2, at_3, at_4, at_5, at_6, at_7, lenD, intC, absC, max2C, min2C, addD, intD, cmpD, yesC, slD, seqD, enumD, stD, sumC, allC, anyC, tupC, maxC, Option.bind_some, Option.map_some, List.lookup_cons, List.lookup_nil, List.length_cons, List.length_nil, Bool.not_true, Bool.not_false, Bool.and_self, Bool.true_and, Bool.and_true, Bool.false_and, Bool.and_false, Bool.or_true, Bool.true_or, Bool.false_or, Bool.or_false, reduceIte, decide_true, decide_false, if_true, if_false, List.replicate_succ, List.replicate_zero, Nat.reduceAdd, Nat.reduceSub, Nat.zero_add, List.mem_cons, List.not_mem_nil, or_false, false_or, not_false_eq_true, reduceCtorEq, ne_eq, and_self, and_true, true_and, Nat.reduceLT, Nat.reduceLeDiff, beq_self_eq_true, Nat.reduceEqDiff, Nat.add_one_ne_zero, modC, divC, mulC, powC, Int.reduceLT, Int.reduceLE, Int.reduceNeg, Int.reducePow, Int.reduceToNat, Int.reduceEq, Nat.reducePow, Int.zero_add, eqL, eqD, eqB, neD, isD, sz_0, sz_1, sz_2, sz_3, sz_4, sz_5, sz_6, sz_7, sz_8, sz_9, sz_10, sz_11, sz_12, sz_13, sz_14, sz_15, sz_16, sz_17, sz_18, sz_19, sz_20, sz_21, sz_22, sz_23, sz_24, sz_25, sz_26, sz_27, sz_28, sz_29, sz_30, nc_0, nc_1, nc_2, nc_3, nc_4, nc_5, nc_6, nc_7, nc_8, nc_9, nc_10, nc_11, nc_12, nc_13, nc_14, nc_15, nc_16, nc_17, nc_18, nc_19, nc_20, nc_21, nc_22, nc_23, nc_24, nc_25, nc_26, nc_27, nc_28, nc_29, nc_30, isiT, isiK, isiC, isiM, tyNames, tagD, tb0_NoneType, tb0_bool, tb0_int, tb0_str, tb0_tuple, tb0_list, tb0_Tree, tb1_NoneType, tb1_bool, tb1_int, tb1_str, tb1_tuple, tb1_list, tb1_Tree, tb2_NoneType, tb2_bool, tb2_int, tb2_str, tb2_tuple, tb2_list, tb2_Tree, tb3_NoneType, tb3_bool, tb3_int, tb3_str, tb3_tuple, tb3_list, tb3_Tree, tb4_NoneType, tb4_bool, tb4_int, tb4_str, tb4_tuple, tb4_list, tb4_Tree, tb5_NoneType, tb5_bool, tb5_int, tb5_str, tb5_tuple, tb5_list, tb5_Tree, tb6_NoneType, tb6_bool, tb6_int, tb6_str, tb6_tuple, tb6_list, tb6_Tree, nq_kind_children, nb_kind_children, nq_kind_size, nb_kind_size, nq_kind_depth, nb_kind_depth, nq_children_kind, nb_children_kind, nq_children_size, nb_children_size, nq_children_depth, nb_children_depth, nq_size_kind, nb_size_kind, nq_size_children, nb_size_children, nq_size_depth, nb_size_depth, nq_depth_kind, nb_depth_kind, nq_depth_children, nb_depth_children, nq_depth_size, nb_depth_size]
      exact ⟨tb', _, _, _, _, _, _, _, _, _, _, ht', by omega, hb', rfl⟩
    rintro _ s4 ⟨tb, y4, y5, y9, y10, y11, y12, y13, y14, y15, y16, ht, hl, h4, rfl⟩
    have hi := ht.hi
    simp only [↓kn_q, ↓kn_e, ↓kq_q, ↓kp_p, ↓ps_nx, ↓ps_rt, ↓ps_bk, ↓ps_ct, ↓ps_ex, ↓tkV_val, ↓tkV_own, ↓tkVR_val, ↓tkVR_own, ↓tkO_own, ↓tkA_val, ↓tkB_bl, ↓tkI_int, ↓tkStr_str, ↓tkC_obj, ↓tkSm_some, ↓tkSm_map, ↓tkSm_bind, ↓tkSm_ite, ↓tkP_t, ↓tkIf_t, ↓tkIf_f, ↓tkT_t, ↓tk_ok, ↓tk_exc, ↓tk_bind, ↓tk_lift, ↓tks_nx, ↓tks_rt, ↓tks_eS, ↓tks_seq, ↓tks_next, ↓tks_brk, ↓tks_cnt, ↓tks_drop, ↓tks_ret, ↓tks_retN, ↓tks_if, ↓tks_frz, ↓tks_set, ↓tks_setO, ↓tks_par, ↓tks_mut, ↓tks_app, ↓tks_store, ↓tks_fld, ↓tks_aug, ↓tks_for, ↓tks_for0, ↓tk_var, ↓tk_varR, ↓tk_c, ↓tk_bin, ↓tk_test, ↓tk_tnot, ↓tk_yes, ↓tk_tand, ↓tk_tor, ↓tk_call, ↓tk_fn, ↓tk_mkF, ↓tk_nil, ↓tk_cons, ↓tk_attr, ↓tk_meth, ↓tk_xif, ↓tk_seqI, ↓tk_enum, ↓tk_rng1, ↓tk_rng2, ↓tk_loc, ↓tk_lc, ↓tk_neg, ↓tk_no, ↓tk_part, ↓tk_sl, ↓tk_xsNil, ↓tk_xsV, ↓tk_xsO, ↓tk_xnot, ↓tk_xand, ↓tk_xor, ↓tk_lst, ↓tk_tup, ↓tk_sz, ↓tk_chain, ↓tk_s1, ↓tk_maxDf, ↓tk_star, List.getElem?_cons_zero, List.getElem?_cons_succ, List.set_cons_zero, List.set_cons_succ, List.map_cons, List.map_nil, List.cons_append, List.nil_append, List.append_assoc, tkJ_own, frzG, putS, wipeG, pVar, pTup, psCons, psNil, atD, ixD_lst, ixD_tup, ixD_scr, at_0, at_1, at_2, at_3, at_4, at_5, at_6, at_7, lenD, intC, absC, max2C, min2C, addD, intD, cmpD, yesC, slD, seqD, enumD, stD, sumC, allC, anyC, tupC, maxC, Option.bind_some, Option.map_some, List.lookup_cons, List.lookup_nil, List.length_cons, List.length_nil, Bool.not_true, Bool.not_false, Bool.and_self, Bool.true_and, Bool.and_true, Bool.false_and, Bool.and_false, Bool.or_true, Bool.true_or, Bool.false_or, Bool.or_false, reduceIte, decide_true, decide_false, if_true, if_false, List.replicate_succ, List.replicate_zero, Nat.reduceAdd, Nat.reduceSub, Nat.zero_add, List.mem_cons, List.not_mem_nil, or_false, false_or, not_false_eq_true, reduceCtorEq, ne_eq, and_self, and_true, true_and, Nat.reduceLT, Nat.reduceLeDiff, beq_self_eq_true, Nat.reduceEqDiff, Nat.add_one_ne_zero, modC, divC, mulC, powC, Int.reduceLT, Int.reduceLE, Int.reduceNeg, Int.reducePow, Int.reduceToNat, Int.reduceEq, Nat.reducePow, Int.zero_add, eqL, eqD, eqB, neD, isD, sz_0, sz_1, sz_2, sz_3, sz_4, sz_5, sz_6, sz_7, sz_8, sz_9, sz_10, sz_11, sz_12, sz_13, sz_14, sz_15, sz_16, sz_17, sz_18, sz_19, sz_20, sz_21, sz_22, sz_23, sz_24, sz_25, sz_26, sz_27, sz_28, sz_29, sz_30, nc_0, nc_1, nc_2, nc_3, nc_4, nc_5, nc_6, nc_7, nc_8, nc_9, nc_10, nc_11, nc_12, nc_13, nc_14, nc_15, nc_16, nc_17, nc_18, nc_19, nc_20, nc_21, nc_22, nc_23, nc_24, nc_25, nc_26, nc_27, nc_28, nc_29, nc_30, isiT, isiK, isiC, isiM, tyNames, tagD, tb0_NoneType, tb0_bool, tb0_int, tb0_str, tb0_tuple, tb0_list, tb0_Tree, tb1_NoneType, tb1_bool, tb1_int, tb1_str, tb1_tuple, tb1_list, tb1_Tree, tb2_NoneType, tb2_bool, tb2_int, tb2_str, tb2_tuple, tb2_list, tb2_Tree, tb3_NoneType, tb3_bool, tb3_int, tb3_str, tb3_tuple, tb3_list, tb3_Tree, tb4_NoneType, tb4_bool, tb4_int, tb4_str, tb4_tuple, tb4_list, tb4_Tree, tb5_NoneType, tb5_bool, tb5_int, tb5_str, tb5_tuple, tb5_list, tb5_Tree, tb6_NoneType, tb6_bool, tb6_int, tb6_str, tb6_tuple, tb6_list, tb6_Tree, nq_kind_children, nb_kind_children, nq_kind_size, nb_kind_size, nq_kind_depth, nb_kind_depth, nq_children_kind, nb_children_kind, nq_children_size, nb_children_size, nq_children_depth, nb_children_depth, nq_size_kind, nb_size_kind, nq_size_children, nb_size_children, nq_size_depth, nb_size_depth, nq_depth_kind, nb_depth_kind, nq_depth_children, nb_depth_children, nq_depth_size, nb_depth_size]
    refine trng1_of (by rw [List.length_map]; omega) (by rw [List.length_map]; omega) ?_
    simp only [↓kn_q, ↓kn_e, ↓kq_q, ↓kp_p, ↓ps_nx, ↓ps_rt, ↓ps_bk, ↓ps_ct, ↓ps_ex, ↓tkV_val, ↓tkV_own, ↓tkVR_val, ↓tkVR_own, ↓tkO_own, ↓tkA_val, ↓tkB_bl, ↓tkI_int, ↓tkStr_str, ↓tkC_obj, ↓tkSm_some, ↓tkSm_map, ↓tkSm_bind, ↓tkSm_ite, ↓tkP_t, ↓tkIf_t, ↓tkIf_f, ↓tkT_t, ↓tk_ok, ↓tk_exc, ↓tk_bind, ↓tk_lift, ↓tks_nx, ↓tks_rt, ↓tks_eS, ↓tks_seq, ↓tks_next, ↓tks_brk, ↓tks_cnt, ↓tks_drop, ↓tks_ret, ↓tks_retN, ↓tks_if, ↓tks_frz, ↓tks_set, ↓tks_setO, ↓tks_par, ↓tks_mut, ↓tks_app, ↓tks_store, ↓tks_fld, ↓tks_aug, ↓tks_for, ↓tks_for0, ↓tk_var, ↓tk_varR, ↓tk_c, ↓tk_bin, ↓tk_test, ↓tk_tnot, ↓tk_yes, ↓tk_tand, ↓tk_tor, ↓tk_call, ↓tk_fn, ↓tk_mkF, ↓tk_nil, ↓tk_cons, ↓tk_attr, ↓tk_meth, ↓tk_xif, ↓tk_seqI, ↓tk_enum, ↓tk_rng1, ↓tk_rng2, ↓tk_loc, ↓tk_lc, ↓tk_neg, ↓tk_no, ↓tk_part, ↓tk_sl, ↓tk_xsNil, ↓tk_xsV, ↓tk_xsO, ↓tk_xnot, ↓tk_xand, ↓tk_xor, ↓tk_lst, ↓tk_tup, ↓tk_sz, ↓tk_chain, ↓tk_s1, ↓tk_maxDf, ↓tk_star, List.getElem?_cons_zero, List.getElem?_cons_succ, List.set_cons_zero, List.set_cons_succ, List.map_cons, List.map_nil, List.cons_append, List.nil_append, List.append_assoc, tkJ_own, frzG, putS, wipeG, pVar, pTup, psCons, psNil, atD, ixD_lst, ixD_tup, ixD_scr, at_0, at_1, at_2, at_3, at_4, at_5, at_6, at_7, lenD, intC, absC, max2C, min2C, addD, intD, cmpD, yesC, slD, seqD, enumD, stD, sumC, allC, anyC, tupC, maxC, Option.bind_some, Option.map_some, List.lookup_cons, List.lookup_nil, List.length_cons, List.length_nil, Bool.not_true, Bool.not_false, Bool.and_self, Bool.true_and, Bool.and_true, Bool.false_and, Bool.and_false, Bool.or_true, Bool.true_or, Bool.false_or, Bool.or_false, reduceIte, decide_true, decide_false, if_true, if_false, List.replicate_succ, List.replicate_zero, Nat.reduceAdd, Nat.reduceSub, Nat.zero_add, List.mem_cons, List.not_mem_nil, or_false, false_or, not_false_eq_true, reduceCtorEq, ne_eq, and_self, and_true, true_and, Nat.reduceLT, Nat.reduceLeDiff, beq_self_eq_true, Nat.reduceEqDiff, Nat.add_one_ne_zero, modC, divC, mulC, powC, Int.reduceLT, Int.reduceLE, Int.reduceNeg, Int.reducePow, Int.reduceToNat, Int.reduceEq, Nat.reducePow, Int.zero_add, eqL, eqD, eqB, neD, isD, sz_0, sz_1, sz_2, sz_3, sz_4, sz_5, sz_6, sz_7, sz_8, sz_9, sz_10, sz_11, sz_12, sz_13, sz_14, sz_15, sz_16, sz_17, sz_18, sz_19, sz_20, sz_21, sz_22, sz_23, sz_24, sz_25, sz_26, sz_27, sz_28, sz_29, sz_30, nc_0, nc_1, nc_2, nc_3, nc_4, nc_5, nc_6, nc_7, nc_8, nc_9, nc_10, nc_11, nc_12, nc_13, nc_14, nc_15, nc_16, nc_17, nc_18, nc_19, nc_20, nc_21, nc_22, nc_23, nc_24, nc_25, nc_26, nc_27, nc_28, nc_29, nc_30, isiT, isiK, isiC, isiM, tyNames, tagD, tb0_NoneType, tb0_bool, tb0_int, tb0_str, tb0_tuple, tb0_list, tb0_Tree, tb1_NoneType, tb1_bool, tb1_int, tb1_str, tb1_tuple, tb1_list, tb1_Tree, tb2_NoneType, tb2_bool, tb2_int, tb2_str, tb2_tuple, tb2_list, tb2_Tree, tb3_NoneType, tb3_bool, tb3_int, tb3_str, tb3_tuple, tb3_list, tb3_Tree, tb4_NoneType, tb4_bool, tb4_int, tb4_str, tb4_tuple, tb4_list, tb4_Tree, tb5_NoneType, tb5_bool, tb5_int, tb5_str, tb5_tuple, tb5_list, tb5_Tree, tb6_NoneType, tb6_bool, tb6_int, tb6_str, tb6_tuple, tb6_list, tb6_Tree, nq_kind_children, nb_kind_children, nq_kind_size, nb_kind_size, nq_kind_depth, nb_kind_depth, nq_children_kind, nb_children_kind, nq_children_size, nb_children_size, nq_children_depth, nb_children_depth, nq_size_kind, nb_size_kind, nq_size_children, nb_size_children, nq_size_depth, nb_size_depth, nq_depth_kind, nb_depth_kind, nq_depth_children, nb_depth_children, nq_depth_size, nb_depth_size]
    refine tfor_inv (fun i G s => ∃ x5, G = [.val (.scr ns), .val (.int (k : Int)), .val (.loc n), .val (.lst [.str ta, b, c]), y4, x5, .own (.lst (tD tb)), .own (.lst (tS tb)), .own (.lst (tH tb)), y9, y10, y11, y12, y13, y14, y15, y16]) ?_ ?_ ?_
    · exact ⟨_, rfl⟩
    · rintro i hi _ s5 ⟨x5, rfl⟩
      rw [rngL_get hi]
      rw [rngL_len, List.length_map] at hi
      simp only [↓kn_q, ↓kn_e, ↓kq_q, ↓kp_p, ↓ps_nx, ↓ps_rt, ↓ps_bk, ↓ps_ct, ↓ps_ex, ↓tkV_val, ↓tkV_own, ↓tkVR_val, ↓tkVR_own, ↓tkO_own, ↓tkA_val, ↓tkB_bl, ↓tkI_int, ↓tkStr_str, ↓tkC_obj, ↓tkSm_some, ↓tkSm_map, ↓tkSm_bind, ↓tkSm_ite, ↓tkP_t, ↓tkIf_t, ↓tkIf_f, ↓tkT_t, ↓tk_ok, ↓tk_exc, ↓tk_bind, ↓tk_lift, ↓tks_nx, ↓tks_rt, ↓tks_eS, ↓tks_seq, ↓tks_next, ↓tks_brk, ↓tks_cnt, ↓tks_drop, ↓tks_ret, ↓tks_retN, ↓tks_if, ↓tks_frz, ↓tks_set, ↓tks_setO, ↓tks_par, ↓tks_mut, ↓tks_app, ↓tks_store, ↓tks_fld, ↓tks_aug, ↓tks_for, ↓tks_for0, ↓tk_var, ↓tk_varR, ↓tk_c, ↓tk_bin, ↓tk_test, ↓tk_tnot, ↓tk_yes, ↓tk_tand, ↓tk_tor, ↓tk_call, ↓tk_fn, ↓tk_mkF, ↓tk_nil, ↓tk_cons, ↓tk_attr, ↓tk_meth, ↓tk_xif, ↓tk_seqI, ↓tk_enum, ↓tk_rng1, ↓tk_rng2, ↓tk_loc, ↓tk_lc, ↓tk_neg, ↓tk_no, ↓tk_part, ↓tk_sl, ↓tk_xsNil, ↓tk_xsV, ↓tk_xsO, ↓tk_xnot, ↓tk_xand, ↓tk_xor, ↓tk_lst, ↓tk_tup, ↓tk_sz, ↓tk_chain, ↓tk_s1, ↓tk_maxDf, ↓tk_star, List.getElem?_cons_zero, List.getElem?_cons_succ, List.set_cons_zero, List.set_cons_succ, List.map_cons, List.map_nil, List.cons_append, List.nil_append, List.append_assoc, tkJ_own, frzG, putS, wipeG, pVar, pTup, psCons, psNil, atD, ixD_lst, ixD_tup, ixD_scr, at_0, at_1, at_2, at_3, at_4, at_5, at_6, at_7, lenD, intC, absC, max2C, min2C, addD, intD, cmpD, yesC, slD, seqD, enumD, stD, sumC, allC, anyC, tupC, maxC, Option.bind_some, Option.map_some, List.lookup_cons, List.lookup_nil, List.length_cons, List.length_nil, Bool.not_true, Bool.not_false, Bool.and_self, Bool.true_and, Bool.and_true, Bool.false_and, Bool.and_false, Bool.or_true, Bool.true_or, Bool.false_or, Bool.or_false, reduceIte, decide_true, decide_false, if_true, if_false, List.replicate_succ, List.replicate_zero, Nat.reduceAdd, Nat.reduceSub, Nat.zero_add, List.mem_cons, List.not_mem_nil, or_false, false_or, not_false_eq_true, reduceCtorEq, ne_eq, and_self, and_true, true_and, Nat.reduceLT, Nat.reduceLeDiff, beq_self_eq_true, Nat.reduceEqDiff, Nat.add_one_ne_zero, modC, divC, mulC, powC, Int.reduceLT, Int.reduceLE, Int.reduceNeg, Int.reducePow, Int.reduceToNat, Int.reduceEq, Nat.reducePow, Int.zero_add, eqL, eqD, eqB, neD, isD, sz_0, sz_1, sz_2, sz_3, sz_4, sz_5, sz_6, sz_7, sz_8, sz_9, sz_10, sz_11, sz_12, sz_13, sz_14, sz_15, sz_16, sz_17, sz_18, sz_19, sz_20, sz_21, sz_22, sz_23, sz_24, sz_25, sz_26, sz_27, sz_28, sz_29, sz_30, nc_0, nc_1, nc_2, nc_3, nc_4, nc_5, nc_6, nc_7, nc_8, nc_9, nc_10, nc_11, nc_12, nc_13, nc_14, nc_15, nc_16, nc_17, nc_18, nc_19, nc_20, nc_21, nc_22, nc_23, nc_24, nc_25, nc_26, nc_27, nc_28, nc_29, nc_30, isiT, isiK, isiC, isiM, tyNames, tagD, tb0_NoneType, tb0_bool, tb0_int, tb0_str, tb0_tuple, tb0_list, tb0_Tree, tb1_NoneType, tb1_bool, tb1_int, tb1_str, tb1_tuple, tb1_list, tb1_Tree, tb2_NoneType, tb2_bool, tb2_int, tb2_str, tb2_tuple, tb2_list, tb2_Tree, tb3_NoneType, tb3_bool, tb3_int, tb3_str, tb3_tuple, tb3_list, tb3_Tree, tb4_NoneType, tb4_bool, tb4_int, tb4_str, tb4_tuple, tb4_list, tb4_Tree, tb5_NoneType, tb5_bool, tb5_int, tb5_str, tb5_tuple, tb5_list, tb5_Tree, tb6_NoneType, tb6_bool, tb6_int, tb6_str, tb6_tuple, tb6_list, tb6_Tree, nq_kind_children, nb_kind_children, nq_kind_size, nb_kind_size, nq_kind_depth, nb_kind_depth, nq_children_kind, nb_children_kind, nq_children_size, nb_children_size, nq_children_depth, nb_children_depth, nq_size_kind, nb_size_kind, nq_size_children, nb_size_children, nq_size_depth, nb_size_depth, nq_depth_kind, nb_depth_kind, nq_depth_children, nb_depth_children, nq_depth_size, nb_depth_size]
      refine check_spec ht (by omega) ?_
      simp only [↓kn_q, ↓kn_e, ↓kq_q, ↓kp_p, ↓ps_nx, ↓ps_rt, ↓ps_bk, ↓ps_ct, ↓ps_ex, ↓tkV_val, ↓tkV_own, ↓tkVR_val, ↓tkVR_own, ↓tkO_own, ↓tkA_val, ↓tkB_bl, ↓tkI_int, ↓tkStr_str, ↓tkC_obj, ↓tkSm_some, ↓tkSm_map, ↓tkSm_bind, ↓tkSm_ite, ↓tkP_t, ↓tkIf_t, ↓tkIf_f, ↓tkT_t, ↓tk_ok, ↓tk_exc, ↓tk_bind, ↓tk_lift, ↓tks_nx, ↓tks_rt, ↓tks_eS, ↓tks_seq, ↓tks_next, ↓tks_brk, ↓tks_cnt, ↓tks_drop, ↓tks_ret, ↓tks_retN, ↓tks_if, ↓tks_frz, ↓tks_set, ↓tks_setO, ↓tks_par, ↓tks_mut, ↓tks_app, ↓tks_store, ↓tks_fld, ↓tks_aug, ↓tks_for, ↓tks_for0, ↓tk_var, ↓tk_varR, ↓tk_c, ↓tk_bin, ↓tk_test, ↓tk_tnot, ↓tk_yes, ↓tk_tand, ↓tk_tor, ↓tk_call, ↓tk_fn, ↓tk_mkF, ↓tk_nil, ↓tk_cons, ↓tk_attr, ↓tk_meth, ↓tk_xif, ↓tk_seqI, ↓tk_enum, ↓tk_rng1, ↓tk_rng2, ↓tk_loc, ↓tk_lc, ↓tk_neg, ↓tk_no, ↓tk_part, ↓tk_sl, ↓tk_xsNil, ↓tk_xsV, ↓tk_xsO, ↓tk_xnot, ↓tk_xand, ↓tk_xor, ↓tk_lst, ↓tk_tup, ↓tk_sz, ↓tk_chain, ↓tk_s1, ↓tk_maxDf, ↓tk_star, List.getElem?_cons_zero, List.getElem?_cons_succ, List.set_cons_zero, List.set_cons_succ, List.map_cons, List.map_nil, List.cons_append, List.nil_append, List.append_assoc, tkJ_own, frzG, putS, wipeG, pVar, pTup, psCons, psNil, atD, ixD_lst, ixD_tup, ixD_scr, at_0, at_1, at_2, at_3, at_4, at_5, at_6, at_7, lenD, intC, absC, max2C, min2C, addD, intD, cmpD, yesC, slD, seqD, enumD, stD, sumC, allC, anyC, tupC, maxC, Option.bind_some, Option.map_some, List.lookup_cons, List.lookup_nil, List.length_cons, List.length_nil, Bool.not_true, Bool.not_false, Bool.and_self, Bool.true_and, Bool.and_true, Bool.false_and, Bool.and_false, Bool.or_true, Bool.true_or, Bool.false_or, Bool.or_false, reduceIte, decide_true, decide_false, if_true, if_false, List.replicate_succ, List.replicate_zero, Nat.reduceAdd, Nat.reduceSub, Nat.zero_add, List.mem_cons, List.not_mem_nil, or_false, false_or, not_false_eq_true, reduceCtorEq, ne_eq, and_self, and_true, true_and, Nat.reduceLT, Nat.reduceLeDiff, beq_self_eq_true, Nat.reduceEqDiff, Nat.add_one_ne_zero, modC, divC, mulC, powC, Int.reduceLT, Int.reduceLE, Int.reduceNeg, Int.reducePow, Int.reduceToNat, Int.reduceEq, Nat.reducePow, Int.zero_add, eqL, eqD, eqB, neD, isD, sz_0, sz_1, sz_2, sz_3, sz_4, sz_5, sz_6, sz_7, sz_8, sz_9, sz_10, sz_11, sz_12, sz_13, sz_14, sz_15, sz_16, sz_17, sz_18, sz_19, sz_20, sz_21, sz_22, sz_23, sz_24, sz_25, sz_26, sz_27, sz_28, sz_29, sz_30, nc_0, nc_1, nc_2, nc_3, nc_4, nc_5, nc_6, nc_7, nc_8, nc_9, nc_10, nc_11, nc_12, nc_13, nc_14, nc_15, nc_16, nc_17, nc_18, nc_19, nc_20, nc_21, nc_22, nc_23, nc_24, nc_25, nc_26, nc_27, nc_28, nc_29, nc_30, isiT, isiK, isiC, isiM, tyNames, tagD, tb0_NoneType, tb0_bool, tb0_int, tb0_str, tb0_tuple, tb0_list, tb0_Tree, tb1_NoneType, tb1_bool, tb1_int, tb1_str, tb1_tuple, tb1_list, tb1_Tree, tb2_NoneType, tb2_bool, tb2_int, tb2_str, tb2_tuple, tb2_list, tb2_Tree, tb3_NoneType, tb3_bool, tb3_int, tb3_str, tb3_tuple, tb3_list, tb3_Tree, tb4_NoneType, tb4_bool, tb4_int, tb4_str, tb4_tuple, tb4_list, tb4_Tree, tb5_NoneType, tb5_bool, tb5_int, tb5_str, tb5_tuple, tb5_list, tb5_Tree, tb6_NoneType, tb6_bool, tb6_int, tb6_str, tb6_tuple, tb6_list, tb6_Tree, nq_kind_children, nb_kind_children, nq_kind_size, nb_kind_size, nq_kind_depth, nb_kind_depth, nq_children_kind, nb_children_kind, nq_children_size, nb_children_size, nq_children_depth, nb_children_depth, nq_size_kind, nb_size_kind, nq_size_children, nb_size_children, nq_size_depth, nb_size_depth, nq_depth_kind, nb_depth_kind, nq_depth_children, nb_depth_children, nq_depth_size, nb_depth_size]
      exact ⟨_, rfl⟩
    rintro _ s5 ⟨x5, rfl⟩
    exact hq _ _ _ _ _ _ _ _ _ _ _ _ _ _ _ _
theorem law_true (ns : List Int) (hn : ns.length ≤ 63) : ∃ s', F_law [.scr ns] s0 = .ok (.bl true) s' := by
  have z : Tk (K := ⟨fun d _ => d = .bl true, noE⟩) (F_law [.scr ns] s0) := by
    unfold F_law
    refine tin_runF rfl ?_
    unfold m_law
    simp only [↓kn_q, ↓kn_e, ↓kq_q, ↓kp_p, ↓ps_nx, ↓ps_rt, ↓ps_bk, ↓ps_ct, ↓ps_ex, ↓tkV_val, ↓tkV_own, ↓tkVR_val, ↓tkVR_own, ↓tkO_own, ↓tkA_val, ↓tkB_bl, ↓tkI_int, ↓tkStr_str, ↓tkC_obj, ↓tkSm_some, ↓tkSm_map, ↓tkSm_bind, ↓tkSm_ite, ↓tkP_t, ↓tkIf_t, ↓tkIf_f, ↓tkT_t, ↓tk_ok, ↓tk_exc, ↓tk_bind, ↓tk_lift, ↓tks_nx, ↓tks_rt, ↓tks_eS, ↓tks_seq, ↓tks_next, ↓tks_brk, ↓tks_cnt, ↓tks_drop, ↓tks_ret, ↓tks_retN, ↓tks_if, ↓tks_frz, ↓tks_set, ↓tks_setO, ↓tks_par, ↓tks_mut, ↓tks_app, ↓tks_store, ↓tks_fld, ↓tks_aug, ↓tks_for, ↓tks_for0, ↓tk_var, ↓tk_varR, ↓tk_c, ↓tk_bin, ↓tk_test, ↓tk_tnot, ↓tk_yes, ↓tk_tand, ↓tk_tor, ↓tk_call, ↓tk_fn, ↓tk_mkF, ↓tk_nil, ↓tk_cons, ↓tk_attr, ↓tk_meth, ↓tk_xif, ↓tk_seqI, ↓tk_enum, ↓tk_rng1, ↓tk_rng2, ↓tk_loc, ↓tk_lc, ↓tk_neg, ↓tk_no, ↓tk_part, ↓tk_sl, ↓tk_xsNil, ↓tk_xsV, ↓tk_xsO, ↓tk_xnot, ↓tk_xand, ↓tk_xor, ↓tk_lst, ↓tk_tup, ↓tk_sz, ↓tk_chain, ↓tk_s1, ↓tk_maxDf, ↓tk_star, List.getElem?_cons_zero, List.getElem?_cons_succ, List.set_cons_zero, List.set_cons_succ, List.map_cons, List.map_nil, List.cons_append, List.nil_append, List.append_assoc, tkJ_own, frzG, putS, wipeG, pVar, pTup, psCons, psNil, atD, ixD_lst, ixD_tup, ixD_scr, at_0, at_1, at_2, at_3, at_4, at_5, at_6, at_7, lenD, intC, absC, max2C, min2C, addD, intD, cmpD, yesC, slD, seqD, enumD, stD, sumC, allC, anyC, tupC, maxC, Option.bind_some, Option.map_some, List.lookup_cons, List.lookup_nil, List.length_cons, List.length_nil, Bool.not_true, Bool.not_false, Bool.and_self, Bool.true_and, Bool.and_true, Bool.false_and, Bool.and_false, Bool.or_true, Bool.true_or, Bool.false_or, Bool.or_false, reduceIte, decide_true, decide_false, if_true, if_false, List.replicate_succ, List.replicate_zero, Nat.reduceAdd, Nat.reduceSub, Nat.zero_add, List.mem_cons, List.not_mem_nil, or_false, false_or, not_false_eq_true, reduceCtorEq, ne_eq, and_self, and_true, true_and, Nat.reduceLT, Nat.reduceLeDiff, beq_self_eq_true, Nat.reduceEqDiff, Nat.add_one_ne_zero, modC, divC, mulC, powC, Int.reduceLT, Int.reduceLE, Int.reduceNeg, Int.reducePow, Int.reduceToNat, Int.reduceEq, Nat.reducePow, Int.zero_add, eqL, eqD, eqB, neD, isD, sz_0, sz_1, sz_2, sz_3, sz_4, sz_5, sz_6, sz_7, sz_8, sz_9, sz_10, sz_11, sz_12, sz_13, sz_14, sz_15, sz_16, sz_17, sz_18, sz_19, sz_20, sz_21, sz_22, sz_23, sz_24, sz_25, sz_26, sz_27, sz_28, sz_29, sz_30, nc_0, nc_1, nc_2, nc_3, nc_4, nc_5, nc_6, nc_7, nc_8, nc_9, nc_10, nc_11, nc_12, nc_13, nc_14, nc_15, nc_16, nc_17, nc_18, nc_19, nc_20, nc_21, nc_22, nc_23, nc_24, nc_25, nc_26, nc_27, nc_28, nc_29, nc_30, isiT, isiK, isiC, isiM, tyNames, tagD, tb0_NoneType, tb0_bool, tb0_int, tb0_str, tb0_tuple, tb0_list, tb0_Tree, tb1_NoneType, tb1_bool, tb1_int, tb1_str, tb1_tuple, tb1_list, tb1_Tree, tb2_NoneType, tb2_bool, tb2_int, tb2_str, tb2_tuple, tb2_list, tb2_Tree, tb3_NoneType, tb3_bool, tb3_int, tb3_str, tb3_tuple, tb3_list, tb3_Tree, tb4_NoneType, tb4_bool, tb4_int, tb4_str, tb4_tuple, tb4_list, tb4_Tree, tb5_NoneType, tb5_bool, tb5_int, tb5_str, tb5_tuple, tb5_list, tb5_Tree, tb6_NoneType, tb6_bool, tb6_int, tb6_str, tb6_tuple, tb6_list, tb6_Tree, nq_kind_children, nb_kind_children, nq_kind_size, nb_kind_size, nq_kind_depth, nb_kind_depth, nq_children_kind, nb_children_kind, nq_children_size, nb_children_size, nq_children_depth, nb_children_depth, nq_size_kind, nb_size_kind, nq_size_children, nb_size_children, nq_size_depth, nb_size_depth, nq_depth_kind, nb_depth_kind, nq_depth_children, nb_depth_children, nq_depth_size, nb_depth_size]
    refine trng1_of (by split <;> split <;> omega) (by split <;> split <;> omega) ?_
    simp only [↓kn_q, ↓kn_e, ↓kq_q, ↓kp_p, ↓ps_nx, ↓ps_rt, ↓ps_bk, ↓ps_ct, ↓ps_ex, ↓tkV_val, ↓tkV_own, ↓tkVR_val, ↓tkVR_own, ↓tkO_own, ↓tkA_val, ↓tkB_bl, ↓tkI_int, ↓tkStr_str, ↓tkC_obj, ↓tkSm_some, ↓tkSm_map, ↓tkSm_bind, ↓tkSm_ite, ↓tkP_t, ↓tkIf_t, ↓tkIf_f, ↓tkT_t, ↓tk_ok, ↓tk_exc, ↓tk_bind, ↓tk_lift, ↓tks_nx, ↓tks_rt, ↓tks_eS, ↓tks_seq, ↓tks_next, ↓tks_brk, ↓tks_cnt, ↓tks_drop, ↓tks_ret, ↓tks_retN, ↓tks_if, ↓tks_frz, ↓tks_set, ↓tks_setO, ↓tks_par, ↓tks_mut, ↓tks_app, ↓tks_store, ↓tks_fld, ↓tks_aug, ↓tks_for, ↓tks_for0, ↓tk_var, ↓tk_varR, ↓tk_c, ↓tk_bin, ↓tk_test, ↓tk_tnot, ↓tk_yes, ↓tk_tand, ↓tk_tor, ↓tk_call, ↓tk_fn, ↓tk_mkF, ↓tk_nil, ↓tk_cons, ↓tk_attr, ↓tk_meth, ↓tk_xif, ↓tk_seqI, ↓tk_enum, ↓tk_rng1, ↓tk_rng2, ↓tk_loc, ↓tk_lc, ↓tk_neg, ↓tk_no, ↓tk_part, ↓tk_sl, ↓tk_xsNil, ↓tk_xsV, ↓tk_xsO, ↓tk_xnot, ↓tk_xand, ↓tk_xor, ↓tk_lst, ↓tk_tup, ↓tk_sz, ↓tk_chain, ↓tk_s1, ↓tk_maxDf, ↓tk_star, List.getElem?_cons_zero, List.getElem?_cons_succ, List.set_cons_zero, List.set_cons_succ, List.map_cons, List.map_nil, List.cons_append, List.nil_append, List.append_assoc, tkJ_own, frzG, putS, wipeG, pVar, pTup, psCons, psNil, atD, ixD_lst, ixD_tup, ixD_scr, at_0, at_1, at_2, at_3, at_4, at_5, at_6, at_7, lenD, intC, absC, max2C, min2C, addD, intD, cmpD, yesC, slD, seqD, enumD, stD, sumC, allC, anyC, tupC, maxC, Option.bind_some, Option.map_some, List.lookup_cons, List.lookup_nil, List.length_cons, List.length_nil, Bool.not_true, Bool.not_false, Bool.and_self, Bool.true_and, Bool.and_true, Bool.false_and, Bool.and_false, Bool.or_true, Bool.true_or, Bool.false_or, Bool.or_false, reduceIte, decide_true, decide_false, if_true, if_false, List.replicate_succ, List.replicate_zero, Nat.reduceAdd, Nat.reduceSub, Nat.zero_add, List.mem_cons, List.not_mem_nil, or_false, false_or, not_false_eq_true, reduceCtorEq, ne_eq, and_self, and_true, true_and, Nat.reduceLT, Nat.reduceLeDiff, beq_self_eq_true, Nat.reduceEqDiff, Nat.add_one_ne_zero, modC, divC, mulC, powC, Int.reduceLT, Int.reduceLE, Int.reduceNeg, Int.reducePow, Int.reduceToNat, Int.reduceEq, Nat.reducePow, Int.zero_add, eqL, eqD, eqB, neD, isD, sz_0, sz_1, sz_2, sz_3, sz_4, sz_5, sz_6, sz_7, sz_8, sz_9, sz_10, sz_11, sz_12, sz_13, sz_14, sz_15, sz_16, sz_17, sz_18, sz_19, sz_20, sz_21, sz_22, sz_23, sz_24, sz_25, sz_26, sz_27, sz_28, sz_29, sz_30, nc_0, nc_1, nc_2, nc_3, nc_4, nc_5, nc_6, nc_7, nc_8, nc_9, nc_10, nc_11, nc_12, nc_13, nc_14, nc_15, nc_16, nc_17, nc_18, nc_19, nc_20, nc_21, nc_22, nc_23, nc_24, nc_25, nc_26, nc_27, nc_28, nc_29, nc_30, isiT, isiK, isiC, isiM, tyNames, tagD, tb0_NoneType, tb0_bool, tb0_int, tb0_str, tb0_tuple, tb0_list, tb0_Tree, tb1_NoneType, tb1_bool, tb1_int, tb1_str, tb1_tuple, tb1_list, tb1_Tree, tb2_NoneType, tb2_bool, tb2_int, tb2_str, tb2_tuple, tb2_list, tb2_Tree, tb3_NoneType, tb3_bool, tb3_int, tb3_str, tb3_tuple, tb3_list, tb3_Tree, tb4_NoneType, tb4_bool, tb4_int, tb4_str, tb4_tuple, tb4_list, tb4_Tree, tb5_NoneType, tb5_bool, tb5_int, tb5_str, tb5_tuple, tb5_list, tb5_Tree, tb6_NoneType, tb6_bool, tb6_int, tb6_str, tb6_tuple, tb6_list, tb6_Tree, nq_kind_children, nb_kind_children, nq_kind_size, nb_kind_size, nq_kind_depth, nb_kind_depth, nq_children_kind, nb_children_kind, nq_children_size, nb_children_size, nq_children_depth, nb_children_depth, nq_size_kind, nb_size_kind, nq_size_children, nb_size_children, nq_size_depth, nb_size_depth, nq_depth_kind, nb_depth_kind, nq_depth_children, nb_depth_children, nq_depth_size, nb_depth_size]
    refine tfor_inv (fun i G s => ∃ x1 x2 x3 x4 x5 x6 x7 x8 x9 x10 x11 x12 x13 x14 x15 x16, G = [.val (.scr ns), x1, x2, x3, x4, x5, x6, x7, x8, x9, x10, x11, x12, x13, x14, x15, x16]) ?_ ?_ ?_
    · exact ⟨_, _, _, _, _, _, _, _, _, _, _, _, _, _, _, _, rfl⟩
    · rintro i hi _ s5 ⟨x1, x2, x3, x4, x5, x6, x7, x8, x9, x10, x11, x12, x13, x14, x15, x16, rfl⟩
      rw [rngL_get hi]
      simp only [↓kn_q, ↓kn_e, ↓kq_q, ↓kp_p, ↓ps_nx, ↓ps_rt, ↓ps_bk, ↓ps_ct, ↓ps_ex, ↓tkV_val, ↓tkV_own, ↓tkVR_val, ↓tkVR_own, ↓tkO_own, ↓tkA_val, ↓tkB_bl, ↓tkI_int, ↓tkStr_str, ↓tkC_obj, ↓tkSm_some, ↓tkSm_map, ↓tkSm_bind, ↓tkSm_ite, ↓tkP_t, ↓tkIf_t, ↓tkIf_f, ↓tkT_t, ↓tk_ok, ↓tk_exc, ↓tk_bind, ↓tk_lift, ↓tks_nx, ↓tks_rt, ↓tks_eS, ↓tks_seq, ↓tks_next, ↓tks_brk, ↓tks_cnt, ↓tks_drop, ↓tks_ret, ↓tks_retN, ↓tks_if, ↓tks_frz, ↓tks_set, ↓tks_setO, ↓tks_par, ↓tks_mut, ↓tks_app, ↓tks_store, ↓tks_fld, ↓tks_aug, ↓tks_for, ↓tks_for0, ↓tk_var, ↓tk_varR, ↓tk_c, ↓tk_bin, ↓tk_test, ↓tk_tnot, ↓tk_yes, ↓tk_tand, ↓tk_tor, ↓tk_call, ↓tk_fn, ↓tk_mkF, ↓tk_nil, ↓tk_cons, ↓tk_attr, ↓tk_meth, ↓tk_xif, ↓tk_seqI, ↓tk_enum, ↓tk_rng1, ↓tk_rng2, ↓tk_loc, ↓tk_lc, ↓tk_neg, ↓tk_no, ↓tk_part, ↓tk_sl, ↓tk_xsNil, ↓tk_xsV, ↓tk_xsO, ↓tk_xnot, ↓tk_xand, ↓tk_xor, ↓tk_lst, ↓tk_tup, ↓tk_sz, ↓tk_chain, ↓tk_s1, ↓tk_maxDf, ↓tk_star, List.getElem?_cons_zero, List.getElem?_cons_succ, List.set_cons_zero, List.set_cons_succ, List.map_cons, List.map_nil, List.cons_append, List.nil_append, List.append_assoc, tkJ_own, frzG, putS, wipeG, pVar, pTup, psCons, psNil, atD, ixD_lst, ixD_tup, ixD_scr, at_0, at_1, at_2, at_3, at_4, at_5, at_6, at_7, lenD, intC, absC, max2C, min2C, addD, intD, cmpD, yesC, slD, seqD, enumD, stD, sumC, allC, anyC, tupC, maxC, Option.bind_some, Option.map_some, List.lookup_cons, List.lookup_nil, List.length_cons, List.length_nil, Bool.not_true, Bool.not_false, Bool.and_self, Bool.true_and, Bool.and_true, Bool.false_and, Bool.and_false, Bool.or_true, Bool.true_or, Bool.false_or, Bool.or_false, reduceIte, decide_true, decide_false, if_true, if_false, List.replicate_succ, List.replicate_zero, Nat.reduceAdd, Nat.reduceSub, Nat.zero_add, List.mem_cons, List.not_mem_nil, or_false, false_or, not_false_eq_true, reduceCtorEq, ne_eq, and_self, and_true, true_and, Nat.reduceLT, Nat.reduceLeDiff, beq_self_eq_true, Nat.reduceEqDiff, Nat.add_one_ne_zero, modC, divC, mulC, powC, Int.reduceLT, Int.reduceLE, Int.reduceNeg, Int.reducePow, Int.reduceToNat, Int.reduceEq, Nat.reducePow, Int.zero_add, eqL, eqD, eqB, neD, isD, sz_0, sz_1, sz_2, sz_3, sz_4, sz_5, sz_6, sz_7, sz_8, sz_9, sz_10, sz_11, sz_12, sz_13, sz_14, sz_15, sz_16, sz_17, sz_18, sz_19, sz_20, sz_21, sz_22, sz_23, sz_24, sz_25, sz_26, sz_27, sz_28, sz_29, sz_30, nc_0, nc_1, nc_2, nc_3, nc_4, nc_5, nc_6, nc_7, nc_8, nc_9, nc_10, nc_11, nc_12, nc_13, nc_14, nc_15, nc_16, nc_17, nc_18, nc_19, nc_20, nc_21, nc_22, nc_23, nc_24, nc_25, nc_26, nc_27, nc_28, nc_29, nc_30, isiT, isiK, isiC, isiM, tyNames, tagD, tb0_NoneType, tb0_bool, tb0_int, tb0_str, tb0_tuple, tb0_list, tb0_Tree, tb1_NoneType, tb1_bool, tb1_int, tb1_str, tb1_tuple, tb1_list, tb1_Tree, tb2_NoneType, tb2_bool, tb2_int, tb2_str, tb2_tuple, tb2_list, tb2_Tree, tb3_NoneType, tb3_bool, tb3_int, tb3_str, tb3_tuple, tb3_list, tb3_Tree, tb4_NoneType, tb4_bool, tb4_int, tb4_str, tb4_tuple, tb4_list, tb4_Tree, tb5_NoneType, tb5_bool, tb5_int, tb5_str, tb5_tuple, tb5_list, tb5_Tree, tb6_NoneType, tb6_bool, tb6_int, tb6_str, tb6_tuple, tb6_list, tb6_Tree, nq_kind_children, nb_kind_children, nq_kind_size, nb_kind_size, nq_kind_depth, nb_kind_depth, nq_children_kind, nb_children_kind, nq_children_size, nb_children_size, nq_children_depth, nb_children_depth, nq_size_kind, nb_size_kind, nq_size_children, nb_size_children, nq_size_depth, nb_size_depth, nq_depth_kind, nb_depth_kind, nq_depth_children, nb_depth_children, nq_depth_size, nb_depth_size]
      refine at_spec fun s' x2 x3 x4 x5 x6 x7 x8 x9 x10 x11 x12 x13 x14 x15 x16 => ?_
      simp only [↓kn_q, ↓kn_e, ↓kq_q, ↓kp_p, ↓ps_nx, ↓ps_rt, ↓ps_bk, ↓ps_ct, ↓ps_ex, ↓tkV_val, ↓tkV_own, ↓tkVR_val, ↓tkVR_own, ↓tkO_own, ↓tkA_val, ↓tkB_bl, ↓tkI_int, ↓tkStr_str, ↓tkC_obj, ↓tkSm_some, ↓tkSm_map, ↓tkSm_bind, ↓tkSm_ite, ↓tkP_t, ↓tkIf_t, ↓tkIf_f, ↓tkT_t, ↓tk_ok, ↓tk_exc, ↓tk_bind, ↓tk_lift, ↓tks_nx, ↓tks_rt, ↓tks_eS, ↓tks_seq, ↓tks_next, ↓tks_brk, ↓tks_cnt, ↓tks_drop, ↓tks_ret, ↓tks_retN, ↓tks_if, ↓tks_frz, ↓tks_set, ↓tks_setO, ↓tks_par, ↓tks_mut, ↓tks_app, ↓tks_store, ↓tks_fld, ↓tks_aug, ↓tks_for, ↓tks_for0, ↓tk_var, ↓tk_varR, ↓tk_c, ↓tk_bin, ↓tk_test, ↓tk_tnot, ↓tk_yes, ↓tk_tand, ↓tk_tor, ↓tk_call, ↓tk_fn, ↓tk_mkF, ↓tk_nil, ↓tk_cons, ↓tk_attr, ↓tk_meth, ↓tk_xif, ↓tk_seqI, ↓tk_enum, ↓tk_rng1, ↓tk_rng2, ↓tk_loc, ↓tk_lc, ↓tk_neg, ↓tk_no, ↓tk_part, ↓tk_sl, ↓tk_xsNil, ↓tk_xsV, ↓tk_xsO, ↓tk_xnot, ↓tk_xand, ↓tk_xor, ↓tk_lst, ↓tk_tup, ↓tk_sz, ↓tk_chain, ↓tk_s1, ↓tk_maxDf, ↓tk_star, List.getElem?_cons_zero, List.getElem?_cons_succ, List.set_cons_zero, List.set_cons_succ, List.map_cons, List.map_nil, List.cons_append, List.nil_append, List.append_assoc, tkJ_own, frzG, putS, wipeG, pVar, pTup, psCons, psNil, atD, ixD_lst, ixD_tup, ixD_scr, at_0, at_1, at_2, at_3, at_4, at_5, at_6, at_7, lenD, intC, absC, max2C, min2C, addD, intD, cmpD, yesC, slD, seqD, enumD, stD, sumC, allC, anyC, tupC, maxC, Option.bind_some, Option.map_some, List.lookup_cons, List.lookup_nil, List.length_cons, List.length_nil, Bool.not_true, Bool.not_false, Bool.and_self, Bool.true_and, Bool.and_true, Bool.false_and, Bool.and_false, Bool.or_true, Bool.true_or, Bool.false_or, Bool.or_false, reduceIte, decide_true, decide_false, if_true, if_false, List.replicate_succ, List.replicate_zero, Nat.reduceAdd, Nat.reduceSub, Nat.zero_add, List.mem_cons, List.not_mem_nil, or_false, false_or, not_false_eq_true, reduceCtorEq, ne_eq, and_self, and_true, true_and, Nat.reduceLT, Nat.reduceLeDiff, beq_self_eq_true, Nat.reduceEqDiff, Nat.add_one_ne_zero, modC, divC, mulC, powC, Int.reduceLT, Int.reduceLE, Int.reduceNeg, Int.reducePow, Int.reduceToNat, Int.reduceEq, Nat.reducePow, Int.zero_add, eqL, eqD, eqB, neD, isD, sz_0, sz_1, sz_2, sz_3, sz_4, sz_5, sz_6, sz_7, sz_8, sz_9, sz_10, sz_11, sz_12, sz_13, sz_14, sz_15, sz_16, sz_17, sz_18, sz_19, sz_20, sz_21, sz_22, sz_23, sz_24, sz_25, sz_26, sz_27, sz_28, sz_29, sz_30, nc_0, nc_1, nc_2, nc_3, nc_4, nc_5, nc_6, nc_7, nc_8, nc_9, nc_10, nc_11, nc_12, nc_13, nc_14, nc_15, nc_16, nc_17, nc_18, nc_19, nc_20, nc_21, nc_22, nc_23, nc_24, nc_25, nc_26, nc_27, nc_28, nc_29, nc_30, isiT, isiK, isiC, isiM, tyNames, tagD, tb0_NoneType, tb0_bool, tb0_int, tb0_str, tb0_tuple, tb0_list, tb0_Tree, tb1_NoneType, tb1_bool, tb1_int, tb1_str, tb1_tuple, tb1_list, tb1_Tree, tb2_NoneType, tb2_bool, tb2_int, tb2_str, tb2_tuple, tb2_list, tb2_Tree, tb3_NoneType, tb3_bool, tb3_int, tb3_str, tb3_tuple, tb3_list, tb3_Tree, tb4_NoneType, tb4_bool, tb4_int, tb4_str, tb4_tuple, tb4_list, tb4_Tree, tb5_NoneType, tb5_bool, tb5_int, tb5_str, tb5_tuple, tb5_list, tb5_Tree, tb6_NoneType, tb6_bool, tb6_int, tb6_str, tb6_tuple, tb6_list, tb6_Tree, nq_kind_children, nb_kind_children, nq_kind_size, nb_kind_size, nq_kind_depth, nb_kind_depth, nq_children_kind, nb_children_kind, nq_children_size, nb_children_size, nq_children_depth, nb_children_depth, nq_size_kind, nb_size_kind, nq_size_children, nb_size_children, nq_size_depth, nb_size_depth, nq_depth_kind, nb_depth_kind, nq_depth_children, nb_depth_children, nq_depth_size, nb_depth_size]
      exact ⟨_, _, _, _, _, _, _, _, _, _, _, _, _, _, _, _, rfl⟩
    rintro _ s5 ⟨x1, x2, x3, x4, x5, x6, x7, x8, x9, x10, x11, x12, x13, x14, x15, x16, rfl⟩
    simp only [↓kn_q, ↓kn_e, ↓kq_q, ↓kp_p, ↓ps_nx, ↓ps_rt, ↓ps_bk, ↓ps_ct, ↓ps_ex, ↓tkV_val, ↓tkV_own, ↓tkVR_val, ↓tkVR_own, ↓tkO_own, ↓tkA_val, ↓tkB_bl, ↓tkI_int, ↓tkStr_str, ↓tkC_obj, ↓tkSm_some, ↓tkSm_map, ↓tkSm_bind, ↓tkSm_ite, ↓tkP_t, ↓tkIf_t, ↓tkIf_f, ↓tkT_t, ↓tk_ok, ↓tk_exc, ↓tk_bind, ↓tk_lift, ↓tks_nx, ↓tks_rt, ↓tks_eS, ↓tks_seq, ↓tks_next, ↓tks_brk, ↓tks_cnt, ↓tks_drop, ↓tks_ret, ↓tks_retN, ↓tks_if, ↓tks_frz, ↓tks_set, ↓tks_setO, ↓tks_par, ↓tks_mut, ↓tks_app, ↓tks_store, ↓tks_fld, ↓tks_aug, ↓tks_for, ↓tks_for0, ↓tk_var, ↓tk_varR, ↓tk_c, ↓tk_bin, ↓tk_test, ↓tk_tnot, ↓tk_yes, ↓tk_tand, ↓tk_tor, ↓tk_call, ↓tk_fn, ↓tk_mkF, ↓tk_nil, ↓tk_cons, ↓tk_attr, ↓tk_meth, ↓tk_xif, ↓tk_seqI, ↓tk_enum, ↓tk_rng1, ↓tk_rng2, ↓tk_loc, ↓tk_lc, ↓tk_neg, ↓tk_no, ↓tk_part, ↓tk_sl, ↓tk_xsNil, ↓tk_xsV, ↓tk_xsO, ↓tk_xnot, ↓tk_xand, ↓tk_xor, ↓tk_lst, ↓tk_tup, ↓tk_sz, ↓tk_chain, ↓tk_s1, ↓tk_maxDf, ↓tk_star, List.getElem?_cons_zero, List.getElem?_cons_succ, List.set_cons_zero, List.set_cons_succ, List.map_cons, List.map_nil, List.cons_append, List.nil_append, List.append_assoc, tkJ_own, frzG, putS, wipeG, pVar, pTup, psCons, psNil, atD, ixD_lst, ixD_tup, ixD_scr, at_0, at_1, at_2, at_3, at_4, at_5, at_6, at_7, lenD, intC, absC, max2C, min2C, addD, intD, cmpD, yesC, slD, seqD, enumD, stD, sumC, allC, anyC, tupC, maxC, Option.bind_some, Option.map_some, List.lookup_cons, List.lookup_nil, List.length_cons, List.length_nil, Bool.not_true, Bool.not_false, Bool.and_self, Bool.true_and, Bool.and_true, Bool.false_and, Bool.and_false, Bool.or_true, Bool.true_or, Bool.false_or, Bool.or_false, reduceIte, decide_true, decide_false, if_true, if_false, List.replicate_succ, List.replicate_zero, Nat.reduceAdd, Nat.reduceSub, Nat.zero_add, List.mem_cons, List.not_mem_nil, or_false, false_or, not_false_eq_true, reduceCtorEq, ne_eq, and_self, and_true, true_and, Nat.reduceLT, Nat.reduceLeDiff, beq_self_eq_true, Nat.reduceEqDiff, Nat.add_one_ne_zero, modC, divC, mulC, powC, Int.reduceLT, Int.reduceLE, Int.reduceNeg, Int.reducePow, Int.reduceToNat, Int.reduceEq, Nat.reducePow, Int.zero_add, eqL, eqD, eqB, neD, isD, sz_0, sz_1, sz_2, sz_3, sz_4, sz_5, sz_6, sz_7, sz_8, sz_9, sz_10, sz_11, sz_12, sz_13, sz_14, sz_15, sz_16, sz_17, sz_18, sz_19, sz_20, sz_21, sz_22, sz_23, sz_24, sz_25, sz_26, sz_27, sz_28, sz_29, sz_30, nc_0, nc_1, nc_2, nc_3, nc_4, nc_5, nc_6, nc_7, nc_8, nc_9, nc_10, nc_11, nc_12, nc_13, nc_14, nc_15, nc_16, nc_17, nc_18, nc_19, nc_20, nc_21, nc_22, nc_23, nc_24, nc_25, nc_26, nc_27, nc_28, nc_29, nc_30, isiT, isiK, isiC, isiM, tyNames, tagD, tb0_NoneType, tb0_bool, tb0_int, tb0_str, tb0_tuple, tb0_list, tb0_Tree, tb1_NoneType, tb1_bool, tb1_int, tb1_str, tb1_tuple, tb1_list, tb1_Tree, tb2_NoneType, tb2_bool, tb2_int, tb2_str, tb2_tuple, tb2_list, tb2_Tree, tb3_NoneType, tb3_bool, tb3_int, tb3_str, tb3_tuple, tb3_list, tb3_Tree, tb4_NoneType, tb4_bool, tb4_int, tb4_str, tb4_tuple, tb4_list, tb4_Tree, tb5_NoneType, tb5_bool, tb5_int, tb5_str, tb5_tuple, tb5_list, tb5_Tree, tb6_NoneType, tb6_bool, tb6_int, tb6_str, tb6_tuple, tb6_list, tb6_Tree, nq_kind_children, nb_kind_children, nq_kind_size, nb_kind_size, nq_kind_depth, nb_kind_depth, nq_children_kind, nb_children_kind, nq_children_size, nb_children_size, nq_children_depth, nb_children_depth, nq_size_kind, nb_size_kind, nq_size_children, nb_size_children, nq_size_depth, nb_size_depth, nq_depth_kind, nb_depth_kind, nq_depth_children, nb_depth_children, nq_depth_size, nb_depth_size]
  obtain ⟨d, s', e, rfl⟩ := z.out
  exact ⟨s', e⟩
end Pl
theorem PySem.Challenge.cw_pathmarks_k06_trees_with_shared_parts_holds : PySem.Challenge.rw_pathmarks_k06_trees_with_shared_parts.Holds := by
  exact kept Pl.law_true
