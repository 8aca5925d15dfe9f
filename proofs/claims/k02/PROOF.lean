import PyProof.Rows.All
import Wide.All
import OpenK.AllK
import Wide.FinOn
import KE.KStateDown
import HandS.ForMost
import HandS.Exc
import HandS.ExcOwn
import HandS.ExcIs
import HandS.ExcCtx
import HandS.Hot
import HandS.HotCalls
import HandS.IsInst
import HandS.TryOnly
import HandS.WordsExc
import HandS.Wide
import HandS.Style
import HandS.Evl
import HandS.EndBits
import HandS.Defaults
import HandS.Walk
import HandS.Flow
import HandS.Head0
import HandS.Head1
import HandS.Head2
import HandS.HeadEnd
import HandS.HeadHook1
import HandS.HeadHook2
import HandS.Lambda
import HandS.EndTab
import HandS.HeadWalk
import KE.DataAny
import HandS.Conv
import HandS.New0
import HandS.Nested
import HandS.HeadHook4
import HandS.Flt
import PySem.Challenge.RW_powerrows_k02_whole_inside
set_option Elab.async false
set_option linter.all false
set_option maxRecDepth 100000
set_option maxHeartbeats 4000000
namespace Px
open PySem PySem.Spec PyProof.Rows L2

/-! ### heaps that grow: code objects' tables change -/
class Tb where
  T : List (Addr × Str)
/-- all but tables stay -/
def Vx (H H' : Hp) : Prop := ∀ b o, H b = some o → (∀ ps, o ≠ .tbl ps) → H' b = some o
theorem Vx.refl (H : Hp) : Vx H H := fun _ _ h _ => h
theorem Vx.trans {H H1 H2 : Hp} (a : Vx H H1) (b : Vx H1 H2) : Vx H H2 := fun c o h n => b c o (a c o h n) n
theorem Vx.at {H H' : Hp} (e : Vx H H') {b : Addr} {o : HO} (h : H b = some o) (hn : ∀ ps, o ≠ .tbl ps := by intro _ z; cases z) : H' b = some o := e b o h hn
theorem Vx.of {H H' : Hp} (e : ∀ b o, H b = some o → H' b = some o) : Vx H H' := fun b o h _ => e b o h
structure Ex [Tb] (H H' : Hp) : Prop where
  v : Vx H H'
  t : ∀ b ps, H b = some (.tbl ps) → ∃ ps', H' b = some (.tbl ps')
  g : LamX.Tabs Tb.T H → LamX.Tabs Tb.T H'
variable [Tb]
theorem Ex.refl (H : Hp) : Ex H H := ⟨Vx.refl H, fun _ ps h => ⟨ps, h⟩, fun h => h⟩
theorem Ex.trans {H H1 H2 : Hp} (a : Ex H H1) (b : Ex H1 H2) : Ex H H2 := ⟨a.v.trans b.v, fun c ps h => by
  obtain ⟨ps', h1⟩ := a.t c ps h
  exact b.t c ps' h1, fun h => b.g (a.g h)⟩
theorem Ex.at {H H' : Hp} (e : Ex H H') {b : Addr} {o : HO} (h : H b = some o) (hn : ∀ ps, o ≠ .tbl ps := by intro _ z; cases z) : H' b = some o := e.v b o h hn
theorem Ex.some {H H' : Hp} (e : Ex H H') {b : Addr} {o : HO} (h : H b = some o) : ∃ o', H' b = some o' := by
  by_cases z : ∃ ps, o = .tbl ps
  · obtain ⟨ps, rfl⟩ := z
    obtain ⟨ps', h1⟩ := e.t b ps h
    exact ⟨_, h1⟩
  · exact ⟨o, e.at h fun ps y => z ⟨ps, y⟩⟩
instance {H H' : Hp} : Coe (Ex H H') (Vx H H') := ⟨Ex.v⟩
theorem Ex.back {H H' : Hp} (e : Ex H H') {b : Addr} (h : H' b = none) : H b = none := by
  cases z : H b with
  | none => rfl
  | some o =>
    obtain ⟨o', h1⟩ := e.some z
    rw [h] at h1
    cases h1
theorem Ex.new {H : Hp} {p : Addr} {o : HO} (hp : H p = none) : Ex H (upd H p o) := by
  have k : ∀ b u, H b = Option.some u → upd H p o b = Option.some u := fun b u h => by
    rw [upd_ne (ne_of_none h hp)]
    exact h
  exact ⟨Vx.of k, fun b ps h => ⟨ps, k _ _ h⟩, fun h => h.ext k⟩
theorem Ex.mut {He H : Hp} {p : Addr} {o o' : HO} (e : Ex He H) (hp : He p = none) (ho : H p = Option.some o) (hn : ∀ ps, o ≠ .tbl ps := by intro _ z; cases z) (hc : ∀ q, o ≠ LamX.CodeO p q := by intro _ z; unfold LamX.CodeO at z; cases z) : Ex He (upd H p o') := by
  refine ⟨fun b u h n => ?_, fun b ps h => ?_, fun h => ?_⟩
  · rw [upd_ne (ne_of_none h hp)]
    exact e.at h n
  · obtain ⟨ps', h1⟩ := e.t b ps h
    exact ⟨ps', by rw [upd_ne (ne_of_none h hp)]; exact h1⟩
  · intro x hx
    obtain ⟨ps, h1, h2, h3⟩ := e.g h x hx
    refine ⟨ps, ?_, h2, fun pos cv hcv => ?_⟩
    · have : x.1 ≠ p := fun z => by
        rw [z, ho] at h1
        exact hn ps (Option.some.inj h1)
      rw [upd_ne this]
      exact h1
    · obtain ⟨c, e1, e2⟩ := h3 pos cv hcv
      have : c ≠ p := fun z => by
        rw [z, ho] at e2
        exact hc x.2 (Option.some.inj e2)
      exact ⟨c, e1, by rw [upd_ne this]; exact e2⟩

theorem tabs_mut {T : List (Addr × Str)} {H : Hp} {p : Addr} {o o' : HO} (t : LamX.Tabs T H) (ho : H p = Option.some o) (hn : ∀ ps, o ≠ .tbl ps := by intro _ z; cases z) (hc : ∀ q, o ≠ LamX.CodeO p q := by intro _ z; unfold LamX.CodeO at z; cases z) : LamX.Tabs T (upd H p o') := fun x hx => by
  obtain ⟨ps, h1, h2, h3⟩ := t x hx
  refine ⟨ps, ?_, h2, fun pos cv hcv => ?_⟩
  · have : x.1 ≠ p := fun z => by
      rw [z, ho] at h1
      exact hn ps (Option.some.inj h1)
    rw [upd_ne this]
    exact h1
  · obtain ⟨c, e1, e2⟩ := h3 pos cv hcv
    have : c ≠ p := fun z => by
      rw [z, ho] at e2
      exact hc x.2 (Option.some.inj e2)
    exact ⟨c, e1, by rw [upd_ne this]; exact e2⟩
/-! ### lambdas: what they captured stands in cells -/
structure Lam where
  qual : Str
  params : Arguments
  body : Expr
  scope : Scope
  cl : List (Str × Addr)
  fr : List Str
/-- the object at f is the lambda L, its code object at c -/
def LamO (f : Addr) (L : Lam) (c : Addr) : HO := .ext fun h => ∃ pm ctv : Value, h.get? f = Option.some (PySem.W.kla_obj "<lambda>" L.qual L.params L.body L.scope L.cl pm c ctv)
/-- an object that is known whole -/
def pin (o : Obj) : HO := .frz o (.own 0)
/-- the cells of L are known, what they hold are the values vs -/
structure CapV (H : Hp) (L : Lam) (vs : List V) : Prop where
  len : vs.length = L.fr.length
  inj : ∀ x y c, L.cl.lookup x = some c → L.cl.lookup y = some c → x = y
  sub : ∀ y c, (y, c) ∈ L.cl → y ∈ L.fr ∧ L.cl.lookup y = Option.some c
  has : ∀ (i : Nat) (y : Str), L.fr[i]? = Option.some y → ∃ a o u v, L.cl.lookup y = Option.some a ∧ H a = Option.some (pin o) ∧ o.data = .cell (Option.some u) ∧ vs[i]? = Option.some v ∧ L2.RelV v u
theorem CapV.mono {H H' : Hp} {L : Lam} {vs : List V} (e : Vx H H') (h : CapV H L vs) : CapV H' L vs := ⟨h.len, h.inj, h.sub, fun i y q => by
  obtain ⟨a, o, u, v, h1, h2, h3⟩ := h.has i y q
  exact ⟨a, o, u, v, h1, e.at h2 (by intro _ z; cases z), h3⟩⟩
theorem capV_nil {H : Hp} {L : Lam} (h1 : L.cl = []) (h2 : L.fr = []) : CapV H L [] := by
  refine ⟨by simp [h2], fun x y c e => ?_, fun y c e => ?_, fun i y e => ?_⟩
  · rw [h1] at e
    cases e
  · rw [h1] at e
    cases e
  · rw [h2] at e
    cases i <;> cases e
/-! ### data -/
inductive D where
  | non
  | bl (b : Bool)
  | int (i : Int)
  | str (s : Str)
  | ty (n : String)
  | lst (l : List D)
  | tup (l : List D)
  | fz (l : List Int)
  | kt (l : List Int)
  | cl (C : Addr)
  | ob (C : Addr) (ns : List Str) (l : List D)
  | emp
  | lam (L : Lam) (l : List D)
  | lmf (L : Lam)

/-- without p -/
def Hd (p : Addr) (H : Hp) : Hp := fun b => if b = p then none else H b
theorem hd_some {H : Hp} {p b : Addr} {o : HO} : Hd p H b = some o ↔ b ≠ p ∧ H b = some o := by
  unfold Hd
  by_cases hb : b = p
  · rw [if_pos hb]
    exact ⟨fun z => (by cases z), fun z => absurd hb z.1⟩
  · rw [if_neg hb]
    exact ⟨fun z => ⟨hb, z⟩, fun z => z.2⟩
theorem ExHd {H H' : Hp} {p : Addr} (e : Vx H H') : Vx (Hd p H) (Hd p H') := fun b o h n => by
  rw [hd_some] at h ⊢
  exact ⟨h.1, e.at h.2 n⟩
theorem ex_hd {H : Hp} {p : Addr} : Vx (Hd p H) H := fun b o h _ => (hd_some.mp h).2
/-! value v is the data d in the heap H; a list's content lies apart from it -/
mutual
def Is (K : PySem.W.Frag) : Hp → D → V → Prop
  | _, .non, v => v = .non
  | _, .bl b, v => v = .bl b
  | _, .int i, v => v = .int i
  | _, .str s, v => v = .str s
  | _, .ty n, v => v = .ty n
  | H, .lst l, v => ∃ a vs, v = .ref a ∧ H a = some (.lst vs) ∧ IsL K (Hd a H) l vs
  | H, .tup l, v => ∃ a vs, v = .ref a ∧ H a = some (.tup vs) ∧ IsL K H l vs
  | H, .fz l, v => ∃ a, v = .ref a ∧ SqL K H a (l.map V.int)
  | _, .kt l, v => ∃ a, v = .ref a ∧ ∀ H', SqT K H' a (l.map V.int)
  | _, .cl C, v => v = .ref C
  | H, .emp, v => ∃ a, v = .ref a ∧ H a = some (.dK [])
  | H, .lam L l, v => ∃ f c vs, v = .ref f ∧ H f = some (LamO f L c) ∧ H c = some (LamX.CodeO c L.qual) ∧ CapV H L vs ∧ IsL K H l vs
  | H, .lmf L, v => ∃ f c, v = .ref f ∧ H f = some (LamO f L c) ∧ H c = some (LamX.CodeO c L.qual)
  | H, .ob C ns l, v => ∃ a dx vs, v = .ref a ∧ H a = some (.ins C dx (ns.zip vs)) ∧ vs.length = ns.length ∧ IsL K H l vs
def IsL (K : PySem.W.Frag) : Hp → List D → List V → Prop
  | _, [], vs => vs = []
  | H, d :: l, vs => ∃ v r, vs = v :: r ∧ Is K H d v ∧ IsL K H l r
end

section
variable {K : PySem.W.Frag}
mutual
theorem Is.mono : ∀ {H H' : Hp} {d : D} {v : V}, Vx H H' → Is K H d v → Is K H' d v
  | _, _, .non, _, e, h => by simpa only [Is] using h
  | _, _, .bl _, _, e, h => by simpa only [Is] using h
  | _, _, .int _, _, e, h => by simpa only [Is] using h
  | _, _, .str _, _, e, h => by simpa only [Is] using h
  | _, _, .ty _, _, e, h => by simpa only [Is] using h
  | _, _, .cl _, _, e, h => by simpa only [Is] using h
  | _, _, .kt _, _, e, h => by simpa only [Is] using h
  | _, _, .emp, _, e, h => by
    simp only [Is] at h ⊢
    obtain ⟨a, h1, h2⟩ := h
    exact ⟨a, h1, e.at h2⟩
  | _, _, .lam L l, _, e, h => by
    simp only [Is] at h ⊢
    obtain ⟨f, c, vs, h1, h2, h3, h4, h5⟩ := h
    exact ⟨f, c, vs, h1, e.at h2 (by intro _ z; unfold LamO at z; cases z), e.at h3 (by intro _ z; unfold LamX.CodeO at z; cases z), h4.mono e, IsL.mono e h5⟩
  | _, _, .lmf L, _, e, h => by
    simp only [Is] at h ⊢
    obtain ⟨f, c, h1, h2, h3⟩ := h
    exact ⟨f, c, h1, e.at h2 (by intro _ z; unfold LamO at z; cases z), e.at h3 (by intro _ z; unfold LamX.CodeO at z; cases z)⟩
  | _, _, .lst l, _, e, h => by
    simp only [Is] at h ⊢
    obtain ⟨a, vs, h1, h2, h3⟩ := h
    exact ⟨a, vs, h1, e.at h2, IsL.mono (ExHd e) h3⟩
  | _, _, .tup l, _, e, h => by
    simp only [Is] at h ⊢
    obtain ⟨a, vs, h1, h2, h3⟩ := h
    exact ⟨a, vs, h1, e.at h2, IsL.mono e h3⟩
  | _, _, .fz l, _, e, h => by
    simp only [Is] at h ⊢
    obtain ⟨a, h1, h2⟩ := h
    refine ⟨a, h1, ?_⟩
    rcases h2 with (h2 | ⟨o, h2⟩) | h2
    · exact .inl (.inl (e.at h2))
    · exact .inl (.inr ⟨o, e.at h2⟩)
    · exact .inr h2
  | _, _, .ob C ns l, _, e, h => by
    simp only [Is] at h ⊢
    obtain ⟨a, dx, vs, h1, h2, h3, h4⟩ := h
    exact ⟨a, dx, vs, h1, e.at h2, h3, IsL.mono e h4⟩
theorem IsL.mono : ∀ {H H' : Hp} {l : List D} {vs : List V}, Vx H H' → IsL K H l vs → IsL K H' l vs
  | _, _, [], _, e, h => by simpa only [IsL] using h
  | _, _, d :: l, _, e, h => by
    simp only [IsL] at h ⊢
    obtain ⟨v, r, h1, h2, h3⟩ := h
    exact ⟨v, r, h1, Is.mono e h2, IsL.mono e h3⟩
end
end
section
variable {K : PySem.W.Frag} {H H' H1 H2 He : Hp} {d : D} {l : List D} {v : V} {vs : List V}
theorem IsL.nil : IsL K H [] [] := by simp only [IsL]
theorem IsL.cons (h : Is K H d v) (t : IsL K H l vs) : IsL K H (d :: l) (v :: vs) := by
  simp only [IsL]
  exact ⟨v, vs, rfl, h, t⟩
theorem IsL.length : ∀ {l : List D} {vs : List V}, IsL K H l vs → vs.length = l.length
  | [], _, h => by
    simp only [IsL] at h
    rw [h]
    rfl
  | d :: l, _, h => by
    simp only [IsL] at h
    obtain ⟨v, r, rfl, _, h3⟩ := h
    rw [List.length_cons, List.length_cons, IsL.length h3]
theorem IsL.get : ∀ {l : List D} {vs : List V} {i : Nat} {d : D}, IsL K H l vs → l[i]? = some d → ∃ v, vs[i]? = some v ∧ Is K H d v
  | [], _, _, _, _, e => by simp at e
  | d :: l, _, 0, d', h, e => by
    simp only [IsL] at h
    obtain ⟨v, r, rfl, h2, _⟩ := h
    have e2 : d = d' := Option.some.inj e
    subst e2
    exact ⟨v, rfl, h2⟩
  | d :: l, _, i + 1, d', h, e => by
    simp only [IsL] at h
    obtain ⟨v, r, rfl, _, h3⟩ := h
    exact IsL.get (i := i) (d := d') h3 (by simpa using e)
theorem IsL.getV {i : Nat} (h : IsL K H l vs) (e : vs[i]? = some v) : ∃ d, l[i]? = some d ∧ Is K H d v := by
  have hl := h.length
  obtain ⟨hi, _⟩ := List.getElem?_eq_some_iff.mp e
  have hi2 : i < l.length := by omega
  obtain ⟨v', e', q⟩ := h.get (i := i) (d := l[i]) (List.getElem?_eq_getElem hi2)
  rw [e] at e'
  cases e'
  exact ⟨l[i], List.getElem?_eq_getElem hi2, q⟩
theorem IsL.append : ∀ {l l' : List D} {vs vs' : List V}, IsL K H l vs → IsL K H l' vs' → IsL K H (l ++ l') (vs ++ vs')
  | [], _, _, _, h, h' => by
    simp only [IsL] at h
    subst h
    exact h'
  | d :: l, _, _, _, h, h' => by
    simp only [IsL] at h
    obtain ⟨v, r, rfl, h2, h3⟩ := h
    exact IsL.cons h2 (IsL.append h3 h')
theorem IsL.set (h2 : Is K H d v) : ∀ {l : List D} {vs : List V} {i : Nat}, IsL K H l vs → IsL K H (l.set i d) (vs.set i v)
  | [], _, _, h => by
    simp only [IsL] at h
    subst h
    exact IsL.nil
  | d' :: l, _, 0, h => by
    simp only [IsL] at h
    obtain ⟨v', r, rfl, _, h3⟩ := h
    exact IsL.cons h2 h3
  | d' :: l, _, i + 1, h => by
    simp only [IsL] at h
    obtain ⟨v', r, rfl, h4, h3⟩ := h
    exact IsL.cons h4 (IsL.set h2 h3)
theorem IsL.drop : ∀ {n : Nat} {l : List D} {vs : List V}, IsL K H l vs → IsL K H (l.drop n) (vs.drop n)
  | 0, _, _, h => h
  | n + 1, [], _, h => by
    simp only [IsL] at h
    subst h
    exact IsL.nil
  | n + 1, d :: l, _, h => by
    simp only [IsL] at h
    obtain ⟨v, r, rfl, _, h3⟩ := h
    exact IsL.drop (n := n) h3
theorem IsL.take : ∀ {n : Nat} {l : List D} {vs : List V}, IsL K H l vs → IsL K H (l.take n) (vs.take n)
  | 0, _, _, _ => IsL.nil
  | n + 1, [], _, h => by
    simp only [IsL] at h
    subst h
    exact IsL.nil
  | n + 1, d :: l, _, h => by
    simp only [IsL] at h
    obtain ⟨v, r, rfl, h2, h3⟩ := h
    exact IsL.cons h2 (IsL.take (n := n) h3)
theorem IsL.reverse : ∀ {l : List D} {vs : List V}, IsL K H l vs → IsL K H l.reverse vs.reverse
  | [], _, h => by
    simp only [IsL] at h
    subst h
    exact IsL.nil
  | d :: l, _, h => by
    simp only [IsL] at h
    obtain ⟨v, r, rfl, h2, h3⟩ := h
    rw [List.reverse_cons, List.reverse_cons]
    exact IsL.append (IsL.reverse h3) (IsL.cons h2 IsL.nil)

/-! ### ints -/
abbrev li (ns : List Int) : D := .lst (ns.map D.int)
theorem isL_ints : ∀ {ns : List Int} {vs : List V}, IsL K H (ns.map D.int) vs ↔ vs = ns.map V.int
  | [], vs => by simp only [List.map_nil, IsL]
  | n :: ns, vs => by
    constructor
    · intro h
      simp only [List.map_cons, IsL, Is] at h
      obtain ⟨v, r, rfl, rfl, h3⟩ := h
      rw [isL_ints.mp h3, List.map_cons]
    · rintro rfl
      rw [List.map_cons]
      exact IsL.cons (by simp only [Is]) (isL_ints.mpr rfl)
theorem isL_bls : ∀ {ns : List Bool} {vs : List V}, IsL K H (ns.map D.bl) vs ↔ vs = ns.map V.bl
  | [], vs => by simp only [List.map_nil, IsL]
  | n :: ns, vs => by
    constructor
    · intro h
      simp only [List.map_cons, IsL, Is] at h
      obtain ⟨v, r, rfl, rfl, h3⟩ := h
      rw [isL_bls.mp h3, List.map_cons]
    · rintro rfl
      rw [List.map_cons]
      exact IsL.cons (by simp only [Is]) (isL_bls.mpr rfl)
theorem is_int {i : Int} : Is K H (.int i) v ↔ v = .int i := by simp only [Is]
theorem is_bl {b : Bool} : Is K H (.bl b) v ↔ v = .bl b := by simp only [Is]
theorem is_non : Is K H .non v ↔ v = .non := by simp only [Is]
theorem is_str {s : Str} : Is K H (.str s) v ↔ v = .str s := by simp only [Is]
theorem is_ty {n : String} : Is K H (.ty n) v ↔ v = .ty n := by simp only [Is]
theorem is_cl {C : Addr} : Is K H (.cl C) v ↔ v = .ref C := by simp only [Is]
theorem is_lst : Is K H (.lst l) v ↔ ∃ a vs, v = .ref a ∧ H a = some (.lst vs) ∧ IsL K (Hd a H) l vs := by simp only [Is]
theorem is_tup : Is K H (.tup l) v ↔ ∃ a vs, v = .ref a ∧ H a = some (.tup vs) ∧ IsL K H l vs := by simp only [Is]
theorem is_li {ns : List Int} : Is K H (li ns) v ↔ ∃ a, v = .ref a ∧ H a = some (.lst (ns.map V.int)) := by
  rw [is_lst]
  constructor
  · rintro ⟨a, vs, h1, h2, h3⟩
    rw [isL_ints.mp h3] at h2
    exact ⟨a, h1, h2⟩
  · rintro ⟨a, h1, h2⟩
    exact ⟨a, _, h1, h2, isL_ints.mpr rfl⟩

/-- no heap in it -/
def flat : D → Bool
  | .non => true
  | .bl _ => true
  | .int _ => true
  | .str _ => true
  | .ty _ => true
  | .cl _ => true
  | .kt _ => true
  | _ => false
theorem Is.flat (hf : flat d = true) (h : Is K H d v) : Is K H' d v := by
  cases d <;> first | (simp only [Is] at h ⊢; exact h) | (cases hf)
theorem IsL.flat : ∀ {l : List D} {vs : List V}, (l.all Px.flat = true) → IsL K H l vs → IsL K H' l vs
  | [], _, _, h => by simpa only [IsL] using h
  | d :: l, _, hf, h => by
    rw [List.all_cons, Bool.and_eq_true] at hf
    simp only [IsL] at h ⊢
    obtain ⟨v, r, h1, h2, h3⟩ := h
    exact ⟨v, r, h1, h2.flat hf.1, IsL.flat hf.2 h3⟩

/-! ### views of a heap -/
/-- without the owned -/
def Hm (O : List Addr) (H : Hp) : Hp := fun b => if b ∈ O then none else H b
/-- without the owned and what was there at the entry -/
def Hn (He : Hp) (O : List Addr) (H : Hp) : Hp := fun b => if b ∈ O then none else if (He b).isSome then none else H b
/-- what is new since H0 -/
def Nw (H0 H : Hp) : Hp := fun b => if (H0 b).isSome then none else H b
theorem isSome_none {o : Option HO} (h : o = none) : ¬ o.isSome = true := by
  rw [h]
  exact Bool.false_ne_true
theorem none_of_isSome {o : Option HO} (h : ¬ o.isSome = true) : o = none := by
  cases o with
  | none => rfl
  | some x => exact absurd rfl h
theorem hm_some {O : List Addr} {b : Addr} {o : HO} : Hm O H b = some o ↔ b ∉ O ∧ H b = some o := by
  unfold Hm
  by_cases hb : b ∈ O
  · rw [if_pos hb]
    exact ⟨fun z => (by cases z), fun z => absurd hb z.1⟩
  · rw [if_neg hb]
    exact ⟨fun z => ⟨hb, z⟩, fun z => z.2⟩
theorem nw_some {b : Addr} {o : HO} : Nw H H' b = some o ↔ H b = none ∧ H' b = some o := by
  unfold Nw
  by_cases hb : (H b).isSome = true
  · rw [if_pos hb]
    exact ⟨fun z => (by cases z), fun z => absurd hb (isSome_none z.1)⟩
  · rw [if_neg hb]
    exact ⟨fun z => ⟨none_of_isSome hb, z⟩, fun z => z.2⟩
theorem hn_some {O : List Addr} {b : Addr} {o : HO} : Hn He O H b = some o ↔ b ∉ O ∧ He b = none ∧ H b = some o := by
  unfold Hn
  by_cases hb : b ∈ O
  · rw [if_pos hb]
    exact ⟨fun z => (by cases z), fun z => absurd hb z.1⟩
  · rw [if_neg hb]
    by_cases h2 : (He b).isSome = true
    · rw [if_pos h2]
      exact ⟨fun z => (by cases z), fun z => absurd h2 (isSome_none z.2.1)⟩
    · rw [if_neg h2]
      exact ⟨fun z => ⟨hb, none_of_isSome h2, z⟩, fun z => z.2.2⟩
theorem Ex.hm {O : List Addr} (e : Vx H H') : Vx (Hm O H) (Hm O H') := fun b o h n => by
  rw [hm_some] at h ⊢
  exact ⟨h.1, e.at h.2 n⟩
theorem Ex.hn {O : List Addr} (e : Vx H H') : Vx (Hn He O H) (Hn He O H') := fun b o h n => by
  rw [hn_some] at h ⊢
  exact ⟨h.1, h.2.1, e.at h.2.2 n⟩
theorem Ex.nw (e : Vx H1 H2) : Vx (Nw H H1) (Nw H H2) := fun b o h n => by
  rw [nw_some] at h ⊢
  exact ⟨h.1, e.at h.2 n⟩
theorem ex_hm {O : List Addr} : Vx (Hm O H) H := fun b o h _ => (hm_some.mp h).2
theorem ex_hn {O : List Addr} : Vx (Hn He O H) (Hm O H) := fun b o h _ => hm_some.mpr ⟨(hn_some.mp h).1, (hn_some.mp h).2.2⟩
theorem ex_nw : Vx (Nw H H') H' := fun b o h _ => (nw_some.mp h).2
/-- new since a later heap is new since an earlier one -/
theorem Ex.nwL (e : Ex H H1) : Vx (Nw H1 H2) (Nw H H2) := fun b o h _ => by
  rw [nw_some] at h ⊢
  exact ⟨Ex.back e h.1, h.2⟩

end
end Px

namespace Px
open PySem PySem.Spec PyProof.Rows L2
variable [Tb]

/-! ### slots, states -/
inductive Slot where
  | no
  | ar (d : D)
  | nw (d : D)
  | ow (l : List D)
  /-- the list at p is this slot's to change; b: the slot's value is that list -/
  | ce (b : Bool) (p : Addr) (ns : List Int)
def rd : Slot → Option D
  | .no => none
  | .ar d => some d
  | .nw d => some d
  | .ow l => some (.lst l)
  | .ce true _ ns => some (li ns)
  | .ce false _ _ => none
/-- an argument's slot -/
def argS (d : D) : Slot := match flat d with
  | true => .nw d
  | false => .ar d

structure Env (K : PySem.W.Frag) (He : Hp) (ex : List (V × D)) (O : List Addr) (H : Hp) (σ : L2.St) (ds : List Slot) : Prop where
  ext : Ex He H
  fr : ∀ p ∈ O, He p = none
  thr : ∀ p ∈ O, ∃ o, H p = some o
  len : σ.length = ds.length
  ar : ∀ (i : Nat) d, ds[i]? = some (.ar d) → ∃ v, σ[i]? = some (some v) ∧ Is K (Hm O H) d v
  nw : ∀ (i : Nat) d, ds[i]? = some (.nw d) → ∃ v, σ[i]? = some (some v) ∧ Is K (Hn He O H) d v
  ow : ∀ (i : Nat) l, ds[i]? = some (.ow l) → ∃ p vs, σ[i]? = some (some (.ref p)) ∧ p ∈ O ∧ H p = some (.lst vs) ∧ IsL K (Hn He O H) l vs
  dj : ∀ (i j : Nat) li lj p, ds[i]? = some (.ow li) → ds[j]? = some (.ow lj) → σ[i]? = some (some (.ref p)) → σ[j]? = some (some (.ref p)) → i = j
  xs : ∀ q ∈ ex, Is K (Hm O H) q.2 q.1
  ce : ∀ (i : Nat) b p ns, ds[i]? = some (.ce b p ns) → p ∈ O ∧ (b = true → σ[i]? = some (some (.ref p))) ∧ H p = some (.lst (ns.map V.int))
  cj : ∀ (i j : Nat) b p ns lj, ds[i]? = some (.ce b p ns) → ds[j]? = some (.ow lj) → σ[j]? ≠ some (some (.ref p))
  ck : ∀ (i j : Nat) b b' p ns ns', ds[i]? = some (.ce b p ns) → ds[j]? = some (.ce b' p ns') → i = j
  tb : LamX.Tabs Tb.T H

section
variable {K : PySem.W.Frag} {He H H1 H2 H' : Hp} {ex : List (V × D)} {O : List Addr} {σ : L2.St} {ds : List Slot} {d : D} {l : List D} {v : V} {vs : List V}
theorem Env.mono (I : Env K He ex O H σ ds) (e : Ex H H') : Env K He ex O H' σ ds := by
  refine ⟨I.ext.trans e, I.fr, fun p hp => ?_, I.len, fun i d h => ?_, fun i d h => ?_, fun i l h => ?_, I.dj, fun q hq => (I.xs q hq).mono (Ex.hm e), fun i b p ns h => ?_, I.cj, I.ck, e.g I.tb⟩
  · obtain ⟨o, h⟩ := I.thr p hp
    exact e.some h
  · obtain ⟨v, h1, h2⟩ := I.ar i d h
    exact ⟨v, h1, h2.mono (Ex.hm e)⟩
  · obtain ⟨v, h1, h2⟩ := I.nw i d h
    exact ⟨v, h1, h2.mono (Ex.hn e)⟩
  · obtain ⟨p, vs, h1, h2, h3, h4⟩ := I.ow i l h
    exact ⟨p, vs, h1, h2, e.at h3, h4.mono (Ex.hn e)⟩
  · obtain ⟨h1, h2, h3⟩ := I.ce i b p ns h
    exact ⟨h1, h2, e.at h3⟩
theorem Env.notO (I : Env K He ex O H σ ds) {p : Addr} (h : H p = none) : p ∉ O := fun hp => by
  obtain ⟨o, e⟩ := I.thr p hp
  rw [h] at e
  cases e

/-! ### how a result stands: readable; not owned; new since the entry; new since the evaluation began -/
inductive Md where
  | I | S | M | N
def vw (He H : Hp) (O : List Addr) (H2 : Hp) : Md → Hp
  | .I => H2
  | .S => Hm O H2
  | .M => Hn He O H2
  | .N => Nw H H2
theorem vw_mono {m : Md} (e : Vx H1 H2) : Vx (vw He H O H1 m) (vw He H O H2 m) := by
  cases m with
  | I => exact e
  | S => exact Ex.hm e
  | M => exact Ex.hn e
  | N => exact Ex.nw e
theorem vw_in {m : Md} : Vx (vw He H O H2 m) H2 := by
  cases m with
  | I => exact Vx.refl _
  | S => exact ex_hm
  | M => exact Vx.trans ex_hn ex_hm
  | N => exact ex_nw
/-- from a later start -/
theorem vw_later {m : Md} (e : Ex H H1) : Vx (vw He H1 O H2 m) (vw He H O H2 m) := by
  cases m with
  | I => exact Vx.refl _
  | S => exact Vx.refl _
  | M => exact Vx.refl _
  | N => exact Ex.nwL e
theorem nw_hn (I : Env K He ex O H σ ds) : Vx (Nw H H2) (Hn He O H2) := fun b o h _ => by
  obtain ⟨h1, h2⟩ := nw_some.mp h
  exact hn_some.mpr ⟨I.notO h1, Ex.back I.ext h1, h2⟩
theorem nw_vw (I : Env K He ex O H σ ds) (m : Md) : Vx (Nw H H2) (vw He H O H2 m) := by
  cases m with
  | I => exact ex_nw
  | S => exact Vx.trans (nw_hn I) ex_hn
  | M => exact nw_hn I
  | N => exact Vx.refl _

def Ev (K : PySem.W.Frag) (m : Md) (te : TE) (ds : List Slot) (d : D) : Prop :=
  ∀ He ex O H σ, Env K He ex O H σ ds → ∀ Q : VK, (∀ v H2, Ex H H2 → Is K (vw He H O H2 m) d v → Q v H2) → te σ H Q
def EvT (K : PySem.W.Frag) (tt : TT) (ds : List Slot) (b : Bool) : Prop :=
  ∀ He ex O H σ, Env K He ex O H σ ds → ∀ Q : Bool → Hp → Prop, (∀ H2, Ex H H2 → Q b H2) → tt σ H Q
def EvA (K : PySem.W.Frag) (m : Md) (ta : TA) (ds : List Slot) (l : List D) : Prop :=
  ∀ He ex O H σ, Env K He ex O H σ ds → ∀ Q : List V → Hp → Prop, (∀ vs H2, Ex H H2 → IsL K (vw He H O H2 m) l vs → Q vs H2) → ta σ H Q
def EvO (K : PySem.W.Frag) (to : TO) (ds : List Slot) (o : Option Int) : Prop :=
  ∀ He ex O H σ, Env K He ex O H σ ds → ∀ Q : Option Int → Hp → Prop, (∀ H2, Ex H H2 → Q o H2) → to σ H Q

variable {m : Md} {te ta tb tx tc : TE} {t u : TT} {r : R2} {i j : Int} {b c : Bool}
theorem Ev.wkN (h : Ev K .N te ds d) (m : Md) : Ev K m te ds d := fun He ex O H σ I Q q => h He ex O H σ I Q fun v H2 e z => q v H2 e (z.mono (nw_vw I m))
theorem Ev.wkM (h : Ev K .M te ds d) : Ev K .S te ds d := fun He ex O H σ I Q q => h He ex O H σ I Q fun v H2 e z => q v H2 e (z.mono ex_hn)
theorem Ev.wkI (h : Ev K m te ds d) : Ev K .I te ds d := fun He ex O H σ I Q q => h He ex O H σ I Q fun v H2 e z => q v H2 e (z.mono vw_in)
theorem Ev.fl (hf : flat d = true) (h : Ev K .I te ds d) (m : Md) : Ev K m te ds d := fun He ex O H σ I Q q => h He ex O H σ I Q fun v H2 e z => q v H2 e (z.flat hf)
theorem Ev.is {d' : D} (h : Ev K m te ds d) (e : d = d') : Ev K m te ds d' := e ▸ h
theorem EvT.is {b' : Bool} (h : EvT K t ds b) (e : b = b') : EvT K t ds b' := e ▸ h

/-! ### names, constants -/
theorem ev_var {n : Nat} (h : (ds[n]?).bind rd = some d) : Ev K .I (tVar n) ds d := fun He ex O H σ I Q q => by
  cases e : ds[n]? with
  | none =>
    rw [e] at h
    cases h
  | some s =>
    rw [e] at h
    have h : rd s = some d := h
    cases s with
    | no => cases h
    | ar d' =>
      cases h
      obtain ⟨v, h1, h2⟩ := I.ar n _ e
      exact ⟨v, h1, q v H (Ex.refl H) (h2.mono ex_hm)⟩
    | nw d' =>
      cases h
      obtain ⟨v, h1, h2⟩ := I.nw n _ e
      exact ⟨v, h1, q v H (Ex.refl H) (h2.mono (Vx.trans ex_hn ex_hm))⟩
    | ow l =>
      cases h
      obtain ⟨p, vs, h1, h2, h3, h4⟩ := I.ow n _ e
      refine ⟨_, h1, q _ H (Ex.refl H) ?_⟩
      show Is K H (.lst l) (.ref p)
      refine is_lst.mpr ⟨p, vs, rfl, h3, h4.mono fun b o z _ => ?_⟩
      obtain ⟨z1, _, z2⟩ := hn_some.mp z
      exact hd_some.mpr ⟨fun y => z1 (y ▸ h2), z2⟩
    | ce b p ns =>
      cases b with
      | false => cases h
      | true =>
        cases h
        obtain ⟨h1, h2, h3⟩ := I.ce n _ _ _ e
        exact ⟨_, h2 rfl, q _ H (Ex.refl H) (is_li.mpr ⟨p, rfl, h3⟩)⟩
theorem ev_varS {n : Nat} (h : ds[n]? = some (.ar d)) : Ev K .S (tVar n) ds d := fun He ex O H σ I Q q => by
  obtain ⟨v, h1, h2⟩ := I.ar n _ h
  exact ⟨v, h1, q v H (Ex.refl H) h2⟩
theorem ev_varM {n : Nat} (h : ds[n]? = some (.nw d)) : Ev K .M (tVar n) ds d := fun He ex O H σ I Q q => by
  obtain ⟨v, h1, h2⟩ := I.nw n _ h
  exact ⟨v, h1, q v H (Ex.refl H) h2⟩
theorem ev_int : Ev K m (tC (.int i)) ds (.int i) := fun He ex O H σ I Q q => q _ H (Ex.refl H) (is_int.mpr rfl)
theorem ev_bl : Ev K m (tC (.bl b)) ds (.bl b) := fun He ex O H σ I Q q => q _ H (Ex.refl H) (is_bl.mpr rfl)
theorem ev_non : Ev K m (tC .non) ds .non := fun He ex O H σ I Q q => q _ H (Ex.refl H) (is_non.mpr rfl)
theorem ev_str {s : Str} : Ev K m (tC (.str s)) ds (.str s) := fun He ex O H σ I Q q => q _ H (Ex.refl H) (is_str.mpr rfl)
theorem ev_ty {n : String} : Ev K m (tC (.ty n)) ds (.ty n) := fun He ex O H σ I Q q => q _ H (Ex.refl H) (is_ty.mpr rfl)
theorem ev_cl {C : Addr} : Ev K m (tC (.ref C)) ds (.cl C) := fun He ex O H σ I Q q => q _ H (Ex.refl H) (is_cl.mpr rfl)
theorem ev_kt {a : Addr} {ns : List Int} (h : ∀ H', SqT K H' a (ns.map V.int)) : Ev K m (tC (.ref a)) ds (.kt ns) := fun He ex O H σ I Q q => q _ H (Ex.refl H) (by
  simp only [Is]
  exact ⟨a, rfl, h⟩)

/-! ### two in a row -/
theorem Ev.two {e1 e2 : D} {m1 m2 : Md} (ha : Ev K m1 ta ds e1) (hb : Ev K m2 tb ds e2) (I : Env K He ex O H σ ds) {R : V → V → Hp → Prop}
    (k : ∀ x y H2, Ex H H2 → Is K (vw He H O H2 m1) e1 x → Is K (vw He H O H2 m2) e2 y → R x y H2) : ta σ H fun x H1 => tb σ H1 fun y H2 => R x y H2 :=
  ha He ex O H σ I _ fun x H1 e1 z1 => hb He ex O H1 σ (I.mono e1) _ fun y H2 e2 z2 => k x y H2 (e1.trans e2) (z1.mono (vw_mono e2)) (z2.mono (vw_later e1))
/-- an operation on two ints -/
theorem ev_op (ha : Ev K .I ta ds (.int i)) (hb : Ev K .I tb ds (.int j)) (hr : ∀ H (Q : VK), (∀ v, Is K H d v → Q v H) → r (.int i) (.int j) H Q) (hf : flat d = true) : Ev K m (tOp r ta tb) ds d := by
  refine Ev.fl hf (fun He ex O H σ I Q q => ?_) m
  refine ha.two hb I fun x y H2 e z1 z2 => ?_
  rw [is_int.mp z1, is_int.mp z2]
  exact hr H2 Q fun v hv => q v H2 e hv

/-! ### operators -/
def rAddX : R2 := fun x y H Q => rI0 (fun i j => .int (i + j)) x y H Q ∨ rCat x y H Q
theorem oAdd {X : Cx} : OpR X (binaryOp .Add) rAddX := op_add.or op_cat
def rSubX : R2 := rI0 fun i j => .int (i - j)
theorem oSub {X : Cx} : OpR X (binaryOp .Sub) rSubX := op_sub
def CMulX (i j : Int) : Prop := CMul i j ∨ i.natAbs.log2 + j.natAbs.log2 < 100000000
theorem CMulX.ok {i j : Int} (h : CMulX i j) : IntMulOk i j := by
  rcases h with h | h
  · exact CMul.ok h
  have b : ∀ x : Int, Builtin.Int.intBits x ≤ x.natAbs.log2 + 1 := fun x => by
    unfold Builtin.Int.intBits
    split <;> omega
  have h1 := b i
  have h2 := b j
  have e : bitsLine = 134217728 := by decide
  unfold IntMulOk
  intro z
  rw [Bool.and_eq_true] at z
  have z2 := z.2
  unfold Builtin.Int.intTooBig at z2
  have z3 := of_decide_eq_true z2
  rw [e] at z3
  omega
def rMulX : R2 := fun x y H Q => rI CMulX (fun i j => .int (i * j)) x y H Q ∨ rRep x y H Q
theorem oMul {X : Cx} : OpR X (binaryOp .Mult) rMulX := OpR.or (opI fun _ _ _ _ _ _ _ hc q => mul_int q hc.ok) op_rep
def rModX : R2 := rI (fun _ j => 0 < j) fun i j => .int (i % j)
theorem oMod {X : Cx} : OpR X (binaryOp .Mod) rModX := op_mod
def rDivX : R2 := rI CDivW fun i j => .int (i / j)
theorem oDiv {X : Cx} : OpR X (binaryOp .FloorDiv) rDivX := op_fdivW
def rPowX : R2 := rI CPow fun i j => .int (i ^ j.toNat)
theorem oPow {X : Cx} : OpR X (binaryOp .Pow) rPowX := op_pow
def rLtX : R2 := rI0 fun i j => .bl (decide (i < j))
def rLeX : R2 := rI0 fun i j => .bl (decide (i ≤ j))
def rGtX : R2 := rI0 fun i j => .bl (decide (j < i))
def rGeX : R2 := rI0 fun i j => .bl (decide (j ≤ i))
theorem oLt {X : Cx} : OpR X (compareOp .Lt) rLtX := op_lt
theorem oLe {X : Cx} : OpR X (compareOp .LtE) rLeX := op_le
theorem oGt {X : Cx} : OpR X (compareOp .Gt) rGtX := op_gt
theorem oGe {X : Cx} : OpR X (compareOp .GtE) rGeX := op_ge
def rEqX (K : PySem.W.Frag) : R2 := fun x y H Q => rEq x y H Q ∨ rEqD K x y H Q
def rNeX (K : PySem.W.Frag) : R2 := fun x y H Q => rNe x y H Q ∨ rNeD K x y H Q
theorem oEq {X : Cx} (hu : X.A.units + 64 < cLine) : OpR X (compareOp .Eq) (rEqX X.K) := op_eq.or (op_eqD hu)
theorem oNe {X : Cx} (hu : X.A.units + 64 < cLine) : OpR X (compareOp .NotEq) (rNeX X.K) := op_ne.or (op_neD hu)
def rIxX (K : PySem.W.Frag) : R2 := fun x y H Q => rIxL K x y H Q ∨ rIxT K x y H Q
theorem oIx {X : Cx} : IxR X (rIxX X.K) := ix_list.or ix_tup
def rNegX : V → Hp → VK → Prop := rU fun i => .int (-i)
theorem oNeg {X : Cx} : UnR X (unaryOp .USub) rNegX := un_neg

theorem ev_add (ha : Ev K .I ta ds (.int i)) (hb : Ev K .I tb ds (.int j)) : Ev K m (tOp rAddX ta tb) ds (.int (i + j)) := ev_op ha hb (fun _ _ q => .inl ⟨_, _, rfl, rfl, q _ (is_int.mpr rfl)⟩) rfl
theorem ev_sub (ha : Ev K .I ta ds (.int i)) (hb : Ev K .I tb ds (.int j)) : Ev K m (tOp rSubX ta tb) ds (.int (i - j)) := ev_op ha hb (fun _ _ q => ⟨_, _, rfl, rfl, q _ (is_int.mpr rfl)⟩) rfl
theorem ev_mul (ha : Ev K .I ta ds (.int i)) (hb : Ev K .I tb ds (.int j)) (hc : CMulX i j) : Ev K m (tOp rMulX ta tb) ds (.int (i * j)) := ev_op ha hb (fun _ _ q => .inl ⟨_, _, rfl, rfl, hc, q _ (is_int.mpr rfl)⟩) rfl
theorem ev_mod (ha : Ev K .I ta ds (.int i)) (hb : Ev K .I tb ds (.int j)) (hc : 0 < j) : Ev K m (tOp rModX ta tb) ds (.int (i % j)) := ev_op ha hb (fun _ _ q => ⟨_, _, rfl, rfl, hc, q _ (is_int.mpr rfl)⟩) rfl
theorem ev_div (ha : Ev K .I ta ds (.int i)) (hb : Ev K .I tb ds (.int j)) (hc : CDivW i j) : Ev K m (tOp rDivX ta tb) ds (.int (i / j)) := ev_op ha hb (fun _ _ q => ⟨_, _, rfl, rfl, hc, q _ (is_int.mpr rfl)⟩) rfl
theorem ev_pow (ha : Ev K .I ta ds (.int i)) (hb : Ev K .I tb ds (.int j)) (hc : CPow i j) : Ev K m (tOp rPowX ta tb) ds (.int (i ^ j.toNat)) := ev_op ha hb (fun _ _ q => ⟨_, _, rfl, rfl, hc, q _ (is_int.mpr rfl)⟩) rfl
theorem ev_lt (ha : Ev K .I ta ds (.int i)) (hb : Ev K .I tb ds (.int j)) : Ev K m (tOp rLtX ta tb) ds (.bl (decide (i < j))) := ev_op ha hb (fun _ _ q => ⟨_, _, rfl, rfl, q _ (is_bl.mpr rfl)⟩) rfl
theorem ev_le (ha : Ev K .I ta ds (.int i)) (hb : Ev K .I tb ds (.int j)) : Ev K m (tOp rLeX ta tb) ds (.bl (decide (i ≤ j))) := ev_op ha hb (fun _ _ q => ⟨_, _, rfl, rfl, q _ (is_bl.mpr rfl)⟩) rfl
theorem ev_gt (ha : Ev K .I ta ds (.int i)) (hb : Ev K .I tb ds (.int j)) : Ev K m (tOp rGtX ta tb) ds (.bl (decide (j < i))) := ev_op ha hb (fun _ _ q => ⟨_, _, rfl, rfl, q _ (is_bl.mpr rfl)⟩) rfl
theorem ev_ge (ha : Ev K .I ta ds (.int i)) (hb : Ev K .I tb ds (.int j)) : Ev K m (tOp rGeX ta tb) ds (.bl (decide (j ≤ i))) := ev_op ha hb (fun _ _ q => ⟨_, _, rfl, rfl, q _ (is_bl.mpr rfl)⟩) rfl
theorem ev_eqI (ha : Ev K .I ta ds (.int i)) (hb : Ev K .I tb ds (.int j)) : Ev K m (tOp (rEqX K) ta tb) ds (.bl (decide (i = j))) := ev_op ha hb (fun _ _ q => .inl ⟨rfl, q _ (is_bl.mpr (by
  rw [dec_int, Bool.beq_eq_decide_eq]))⟩) rfl
theorem ev_neI (ha : Ev K .I ta ds (.int i)) (hb : Ev K .I tb ds (.int j)) : Ev K m (tOp (rNeX K) ta tb) ds (.bl (!decide (i = j))) := ev_op ha hb (fun _ _ q => .inl ⟨rfl, q _ (is_bl.mpr (by
  rw [dec_int, Bool.beq_eq_decide_eq]))⟩) rfl
theorem ev_neg (ha : Ev K .I ta ds (.int i)) : Ev K m (tUn rNegX ta) ds (.int (-i)) := by
  refine Ev.fl rfl (fun He ex O H σ I Q q => ?_) m
  refine ha He ex O H σ I _ fun x H1 e1 z1 => ?_
  rw [is_int.mp z1]
  exact ⟨_, rfl, q _ H1 e1 (is_int.mpr rfl)⟩

/-! ### equality of data -/
mutual
def py : D → PyData
  | .non => .none
  | .bl b => .bool b
  | .int i => .int i
  | .str s => .str s
  | .lst l => .list (pyL l)
  | .tup l => .tuple (pyL l)
  | .fz l => .list (l.map PyData.int)
  | _ => .none
def pyL : List D → List PyData
  | [] => []
  | d :: l => py d :: pyL l
end
mutual
def pyOk : D → Bool
  | .non => true
  | .bl _ => true
  | .int _ => true
  | .str _ => true
  | .lst l => pyOkL l
  | .tup l => pyOkL l
  | .fz _ => true
  | _ => false
def pyOkL : List D → Bool
  | [] => true
  | d :: l => pyOk d && pyOkL l
end
theorem dpAll_ints {K : PySem.W.Frag} {H : Hp} : ∀ ns : List Int, DpAll K H (ns.map V.int) (ns.map PyData.int)
  | [] => .nil
  | n :: r => .cons (.int n) (dpAll_ints r)
mutual
theorem dp_of : ∀ {H : Hp} {d : D} {v : V}, pyOk d = true → Is K H d v → Dp K H v (py d)
  | H, .non, v, h, z => by
    rw [is_non.mp z]
    simp only [py]
    exact .non
  | H, .bl b, v, h, z => by
    rw [is_bl.mp z]
    simp only [py]
    exact .bl b
  | H, .int b, v, h, z => by
    rw [is_int.mp z]
    simp only [py]
    exact .int b
  | H, .str b, v, h, z => by
    rw [is_str.mp z]
    simp only [py]
    exact .str b
  | H, .lst l, v, h, z => by
    obtain ⟨a, vs, rfl, h2, h3⟩ := is_lst.mp z
    simp only [py]
    exact .lst (SqL.of h2) (dpL_of (by simpa only [pyOk] using h) (h3.mono ex_hd))
  | H, .tup l, v, h, z => by
    obtain ⟨a, vs, rfl, h2, h3⟩ := is_tup.mp z
    simp only [py]
    exact .tup (SqT.of h2) (dpL_of (by simpa only [pyOk] using h) h3)
  | H, .fz l, v, h, z => by
    simp only [Is] at z
    obtain ⟨a, rfl, h2⟩ := z
    simp only [py]
    exact .lst h2 (dpAll_ints l)
  | H, .ty _, v, h, z => by simp [pyOk] at h
  | H, .kt _, v, h, z => by simp [pyOk] at h
  | H, .cl _, v, h, z => by simp [pyOk] at h
  | H, .emp, v, h, z => by simp [pyOk] at h
  | H, .ob _ _ _, v, h, z => by simp [pyOk] at h
  | H, .lam _ _, v, h, z => by simp [pyOk] at h
  | H, .lmf _, v, h, z => by simp [pyOk] at h
theorem dpL_of : ∀ {H : Hp} {l : List D} {vs : List V}, pyOkL l = true → IsL K H l vs → DpAll K H vs (pyL l)
  | H, [], vs, h, z => by
    simp only [IsL] at z
    rw [z]
    simp only [pyL]
    exact .nil
  | H, d :: l, vs, h, z => by
    simp only [IsL] at z
    obtain ⟨v, r, rfl, h2, h3⟩ := z
    simp only [pyOkL, Bool.and_eq_true] at h
    simp only [pyL]
    exact .cons (dp_of h.1 h2) (dpL_of h.2 h3)
end
theorem ev_eqD {e1 e2 : D} (ha : Ev K .I ta ds e1) (hb : Ev K .I tb ds e2) (h1 : pyOk e1 = true) (h2 : pyOk e2 = true) (s1 : SeqAt.shaped (py e1) = true) (s2 : SeqAt.shaped (py e2) = true) :
    Ev K m (tOp (rEqX K) ta tb) ds (.bl (PyData.eqv (py e1) (py e2))) := by
  refine Ev.fl rfl (fun He ex O H σ I Q q => ?_) m
  exact ha.two hb I fun x y H2 e z1 z2 => .inr ⟨_, _, dp_of h1 z1, dp_of h2 z2, s1, s2, q _ H2 e (is_bl.mpr rfl)⟩
theorem ev_neD {e1 e2 : D} (ha : Ev K .I ta ds e1) (hb : Ev K .I tb ds e2) (h1 : pyOk e1 = true) (h2 : pyOk e2 = true) (s1 : SeqAt.shaped (py e1) = true) (s2 : SeqAt.shaped (py e2) = true) :
    Ev K m (tOp (rNeX K) ta tb) ds (.bl (!PyData.eqv (py e1) (py e2))) := by
  refine Ev.fl rfl (fun He ex O H σ I Q q => ?_) m
  exact ha.two hb I fun x y H2 e z1 z2 => .inr ⟨_, _, dp_of h1 z1, dp_of h2 z2, s1, s2, q _ H2 e (is_bl.mpr rfl)⟩
theorem pyL_ints : ∀ ns : List Int, pyL (ns.map D.int) = ns.map PyData.int
  | [] => rfl
  | n :: r => by simp only [List.map_cons, pyL, py, pyL_ints r]
theorem pyOkL_ints : ∀ ns : List Int, pyOkL (ns.map D.int) = true
  | [] => rfl
  | n :: r => by simp only [List.map_cons, pyOkL, pyOk, pyOkL_ints r, Bool.and_self]
theorem eqvAll_ints : ∀ ns ms : List Int, PyData.eqvAll (ns.map PyData.int) (ms.map PyData.int) = decide (ns = ms)
  | [], [] => rfl
  | [], m :: r => by simp [PyData.eqvAll]
  | n :: r, [] => by simp [PyData.eqvAll]
  | n :: r, m :: s => by
    simp only [List.map_cons, PyData.eqvAll, PyData.eqv, eqvAll_ints r s]
    rw [Bool.eq_iff_iff]
    simp
theorem eqv_li (ns ms : List Int) : PyData.eqv (py (li ns)) (py (li ms)) = decide (ns = ms) := by
  simp only [py, pyL_ints, PyData.eqv, eqvAll_ints]
end
end Px

namespace Px
open PySem PySem.Spec PyProof.Rows L2
variable [Tb]
section
variable {K : PySem.W.Frag} {He H H1 H2 H' : Hp} {ex : List (V × D)} {O : List Addr} {σ : L2.St} {ds : List Slot} {d d' e1 e2 : D} {l l1 l2 : List D} {v : V} {vs : List V}
variable {m m1 m2 : Md} {te ta tb tx tc : TE} {t u : TT} {r : R2} {i j n : Int} {b c : Bool} {ns ms : List Int} {tA : TA}

theorem sz_of {n : Nat} (h : n ≤ 100000) : n ≤ sizeLine := Nat.le_trans h (by decide)
theorem sz_lt {n : Nat} (h : n < 100000) : n < sizeLine := Nat.lt_of_lt_of_le h (by decide)
/-! ### new objects -/
theorem vw_new (I : Env K He ex O H σ ds) (e : Ex H H2) {p : Addr} {o : HO} (hp : H2 p = none) : vw He H O (upd H2 p o) m p = some o := by
  have h0 := Ex.back e hp
  cases m with
  | I => exact upd_same
  | S => exact hm_some.mpr ⟨I.notO h0, upd_same⟩
  | M => exact hn_some.mpr ⟨I.notO h0, Ex.back I.ext h0, upd_same⟩
  | N => exact nw_some.mpr ⟨h0, upd_same⟩
theorem vw_hd {p : Addr} {o : HO} (hp : H2 p = none) : Vx (vw He H O H2 m) (Hd p (vw He H O (upd H2 p o) m)) := fun b o' h n => by
  have h2 := vw_in.at h n
  refine hd_some.mpr ⟨fun z => ?_, (vw_mono (Ex.new hp).v).at h n⟩
  rw [z, hp] at h2
  cases h2
theorem new_lst (I : Env K He ex O H σ ds) (e : Ex H H2) {p : Addr} (hp : H2 p = none) (hl : IsL K (vw He H O H2 m) l vs) : Is K (vw He H O (upd H2 p (.lst vs)) m) (.lst l) (.ref p) :=
  is_lst.mpr ⟨p, vs, rfl, vw_new I e hp, hl.mono (vw_hd hp)⟩
theorem new_tup (I : Env K He ex O H σ ds) (e : Ex H H2) {p : Addr} (hp : H2 p = none) (hl : IsL K (vw He H O H2 m) l vs) : Is K (vw He H O (upd H2 p (.tup vs)) m) (.tup l) (.ref p) :=
  is_tup.mpr ⟨p, vs, rfl, vw_new I e hp, hl.mono (vw_mono (Ex.new hp).v)⟩
theorem all_flat_ints : ∀ ns : List Int, (ns.map D.int).all flat = true
  | [] => rfl
  | n :: r => by
    rw [List.map_cons, List.all_cons, all_flat_ints r] <;> rfl

/-! ### arguments, displays -/
theorem ea_nil : EvA K m tNil ds [] := fun He ex O H σ I Q q => q [] H (Ex.refl H) IsL.nil
theorem ea_cons (h : Ev K m te ds d) (hr : EvA K m tA ds l) : EvA K m (tCons te tA) ds (d :: l) := fun He ex O H σ I Q q =>
  h He ex O H σ I _ fun v H1 e1 z1 => hr He ex O H1 σ (I.mono e1) _ fun vs H2 e2 z2 => q (v :: vs) H2 (e1.trans e2) (IsL.cons (z1.mono (vw_mono e2)) (z2.mono (vw_later e1)))
theorem EvA.fl (hf : l.all flat = true) (h : EvA K .I tA ds l) (m : Md) : EvA K m tA ds l := fun He ex O H σ I Q q => h He ex O H σ I Q fun v H2 e z => q v H2 e (z.flat hf)
theorem ev_tup (h : EvA K m tA ds l) (hz : l.length ≤ 100000) : Ev K m (tTup tA) ds (.tup l) := fun He ex O H σ I Q q =>
  h He ex O H σ I _ fun vs H2 e z => ⟨by rw [z.length]; exact sz_of hz, fun p hp => q _ _ (e.trans (Ex.new hp)) (new_tup I e hp z)⟩
theorem ev_lst (h : EvA K m tA ds l) (hz : l.length ≤ 100000) : Ev K m (tLst tA) ds (.lst l) := fun He ex O H σ I Q q =>
  h He ex O H σ I _ fun vs H2 e z => ⟨by rw [z.length]; exact sz_of hz, fun p hp => q _ _ (e.trans (Ex.new hp)) (new_lst I e hp z)⟩
/-- a display of ints -/
theorem ev_lstI (h : EvA K .I tA ds (ns.map D.int)) (hz : ns.length ≤ 100000) : Ev K m (tLst tA) ds (li ns) := ev_lst (h.fl (all_flat_ints ns) m) (by rw [List.length_map]; exact hz)
/-- xs + ys -/
theorem ev_cat (ha : Ev K m ta ds (.lst l1)) (hb : Ev K m tb ds (.lst l2)) (hz : l1.length + l2.length ≤ 100000) : Ev K m (tOp rAddX ta tb) ds (.lst (l1 ++ l2)) := fun He ex O H σ I Q q =>
  ha.two hb I fun x y H2 e z1 z2 => by
    obtain ⟨a, xs, rfl, h1, h2⟩ := is_lst.mp z1
    obtain ⟨c, ys, rfl, h3, h4⟩ := is_lst.mp z2
    refine .inr ⟨a, c, xs, ys, rfl, rfl, (vw_in.at h1), (vw_in.at h3), by rw [h2.length, h4.length]; exact sz_of hz, fun p hp => q _ _ (e.trans (Ex.new hp)) (new_lst I e hp ((h2.mono ex_hd).append (h4.mono ex_hd)))⟩
theorem ev_catI (ha : Ev K .I ta ds (li ns)) (hb : Ev K .I tb ds (li ms)) (hz : ns.length + ms.length ≤ 100000) : Ev K m (tOp rAddX ta tb) ds (li (ns ++ ms)) := fun He ex O H σ I Q q =>
  ha.two hb I fun x y H2 e z1 z2 => by
    obtain ⟨a, rfl, h1⟩ := is_li.mp z1
    obtain ⟨c, rfl, h3⟩ := is_li.mp z2
    refine .inr ⟨a, c, _, _, rfl, rfl, h1, h3, by rw [List.length_map, List.length_map]; exact sz_of hz, fun p hp => q _ _ (e.trans (Ex.new hp)) (new_lst I e hp (isL_ints.mpr (by rw [List.map_append])))⟩
/-- xs * k -/
theorem ev_rep (ha : Ev K .I ta ds (li ns)) (hb : Ev K .I tb ds (.int j)) (h1 : -100000 ≤ j) (h2 : j ≤ 100000) (hz : ns.length * j.toNat ≤ 100000) : Ev K m (tOp rMulX ta tb) ds (li (List.replicate j.toNat ns).flatten) := fun He ex O H σ I Q q =>
  ha.two hb I fun x y H2 e z1 z2 => by
    obtain ⟨a, rfl, h3⟩ := is_li.mp z1
    rw [is_int.mp z2]
    refine .inr ⟨a, j, _, rfl, rfl, h3, by omega, by omega, by rw [List.length_map]; exact sz_of hz, fun p hp => q _ _ (e.trans (Ex.new hp)) (new_lst I e hp (isL_ints.mpr ?_))⟩
    rw [List.map_flatten, List.map_replicate]
/-- [x] * k -/
theorem ev_rep1 {x : Int} (ha : Ev K .I ta ds (li [x])) (hb : Ev K .I tb ds (.int j)) (h1 : -100000 ≤ j) (h2 : j ≤ 100000) : Ev K m (tOp rMulX ta tb) ds (li (List.replicate j.toNat x)) := by
  refine Ev.is (ev_rep ha hb h1 h2 (by simp only [List.length_cons, List.length_nil]; omega)) ?_
  have e : (List.replicate j.toNat [x]).flatten = List.replicate j.toNat x := by
    generalize j.toNat = k
    induction k with
    | zero => rfl
    | succ k ih => rw [List.replicate_succ, List.flatten_cons, ih, List.replicate_succ]; rfl
  rw [e]

/-! ### items -/
theorem atI_of {α : Type} {xs : List α} {j : Int} {x : α} (h0 : 0 ≤ j) (h : xs[j.toNat]? = some x) : atI xs j = some x := by
  have e := atI_nat (xs := xs) (j := j.toNat) h
  rw [show ((j.toNat : Nat) : Int) = j by omega] at e
  exact e
theorem ev_ixL (ha : Ev K m ta ds (.lst l)) (hb : Ev K .I tb ds (.int j)) (h0 : 0 ≤ j) (h : l[j.toNat]? = some d) : Ev K m (tOp (rIxX K) ta tb) ds d := fun He ex O H σ I Q q =>
  ha.two hb I fun x y H2 e z1 z2 => by
    obtain ⟨a, xs, rfl, h1, h2⟩ := is_lst.mp z1
    rw [is_int.mp z2]
    obtain ⟨v, hv, hd⟩ := h2.get h
    exact .inl ⟨a, xs, j, v, rfl, rfl, SqL.of (vw_in.at h1), atI_of h0 hv, q v H2 e (hd.mono ex_hd)⟩
theorem ev_ixT (ha : Ev K m ta ds (.tup l)) (hb : Ev K .I tb ds (.int j)) (h0 : 0 ≤ j) (h : l[j.toNat]? = some d) : Ev K m (tOp (rIxX K) ta tb) ds d := fun He ex O H σ I Q q =>
  ha.two hb I fun x y H2 e z1 z2 => by
    obtain ⟨a, xs, rfl, h1, h2⟩ := is_tup.mp z1
    rw [is_int.mp z2]
    obtain ⟨v, hv, hd⟩ := h2.get h
    exact .inr ⟨a, xs, j, v, rfl, rfl, SqT.of (vw_in.at h1), atI_of h0 hv, q v H2 e hd⟩
theorem getD_some {ns : List Int} {k : Nat} (h : k < ns.length) : ns[k]? = some (ns.getD k 0) := by
  rw [List.getD_eq_getElem?_getD, List.getElem?_eq_getElem h] <;> rfl
theorem ev_ixI (ha : Ev K .I ta ds (li ns)) (hb : Ev K .I tb ds (.int j)) (h0 : 0 ≤ j) (h : j < (ns.length : Int)) : Ev K m (tOp (rIxX K) ta tb) ds (.int (ns.getD j.toNat 0)) := by
  refine Ev.fl rfl (ev_ixL ha hb h0 ?_) m
  rw [List.getElem?_map, getD_some (by omega)] <;> rfl
theorem ev_ixTI (ha : Ev K .I ta ds (.tup (ns.map D.int))) (hb : Ev K .I tb ds (.int j)) (h0 : 0 ≤ j) (h : j < (ns.length : Int)) : Ev K m (tOp (rIxX K) ta tb) ds (.int (ns.getD j.toNat 0)) := by
  refine Ev.fl rfl (ev_ixT ha hb h0 ?_) m
  rw [List.getElem?_map, getD_some (by omega)] <;> rfl

/-! ### slices -/
def cut {α : Type} (xs : List α) (lo hi : Option Int) : List α := (xs.drop (HT.sIx xs.length 0 lo)).take (HT.sIx xs.length xs.length hi - HT.sIx xs.length 0 lo)
theorem cutV_map (ns : List Int) (lo hi : Option Int) : cutV (ns.map V.int) lo hi = (cut ns lo hi).map V.int := by
  unfold cutV cut
  rw [List.length_map, List.map_take, List.map_drop]
theorem cut_to {α : Type} (xs : List α) (k : Nat) : cut xs none (some (k : Int)) = xs.take k := by
  unfold cut
  rw [HT.sIx_nat, HT.sIx_none, List.drop_zero, Nat.sub_zero]
  by_cases h : k ≤ xs.length
  · rw [Nat.min_eq_left h]
  · rw [Nat.min_eq_right (by omega), List.take_of_length_le (Nat.le_refl _), List.take_of_length_le (by omega)]
theorem cut_from {α : Type} (xs : List α) (k : Nat) : cut xs (some (k : Int)) none = xs.drop k := by
  unfold cut
  rw [HT.sIx_nat, HT.sIx_none]
  by_cases h : k ≤ xs.length
  · rw [Nat.min_eq_left h]
    exact List.take_of_length_le (by rw [List.length_drop]; exact Nat.le_refl _)
  · rw [Nat.min_eq_right (by omega), Nat.sub_self, List.take_zero, List.drop_of_length_le (by omega)]
theorem eo_none : EvO K tNoPart ds none := fun He ex O H σ I Q q => q H (Ex.refl H)
theorem eo_some (h : Ev K .I te ds (.int i)) : EvO K (tPart te) ds (some i) := fun He ex O H σ I Q q => h He ex O H σ I _ fun v H2 e z => ⟨i, is_int.mp z, q H2 e⟩
theorem ev_sl {tl th : TO} {lo hi : Option Int} (ha : Ev K .I ta ds (li ns)) (hl : EvO K tl ds lo) (hh : EvO K th ds hi) : Ev K m (tSl (rSlL K) ta tl th) ds (li (cut ns lo hi)) := fun He ex O H σ I Q q =>
  ha He ex O H σ I _ fun x H1 e1 z1 => hl He ex O H1 σ (I.mono e1) _ fun H2 e2 => hh He ex O H2 σ (I.mono (e1.trans e2)) _ fun H3 e3 => by
    obtain ⟨a, rfl, h1⟩ := is_li.mp z1
    refine ⟨a, _, rfl, SqL.of (e3.at (e2.at h1)), fun p hp => q _ _ (((e1.trans e2).trans e3).trans (Ex.new hp)) (new_lst I ((e1.trans e2).trans e3) hp (isL_ints.mpr (cutV_map ns lo hi)))⟩
/-- .. of the script -/
theorem ev_slF {tl th : TO} {lo hi : Option Int} (ha : Ev K .I ta ds (.fz ns)) (hl : EvO K tl ds lo) (hh : EvO K th ds hi) : Ev K m (tSl (rSlL K) ta tl th) ds (li (cut ns lo hi)) := fun He ex O H σ I Q q =>
  ha He ex O H σ I _ fun x H1 e1 z1 => hl He ex O H1 σ (I.mono e1) _ fun H2 e2 => hh He ex O H2 σ (I.mono (e1.trans e2)) _ fun H3 e3 => by
    have z1 : Is K H3 (.fz ns) x := z1.mono (e2.trans e3).v
    simp only [Is] at z1
    obtain ⟨a, rfl, h2⟩ := z1
    refine ⟨a, _, rfl, h2, fun p hp => q _ _ (((e1.trans e2).trans e3).trans (Ex.new hp)) (new_lst I ((e1.trans e2).trans e3) hp (isL_ints.mpr (cutV_map ns lo hi)))⟩
/-- .. of any list, as its items stand -/
theorem isL_cut {lo hi : Option Int} (h : IsL K H l vs) : IsL K H (cut l lo hi) (cutV vs lo hi) := by
  unfold cutV cut
  rw [h.length]
  exact (h.drop).take
theorem ev_slD {tl th : TO} {lo hi : Option Int} (ha : Ev K m ta ds (.lst l)) (hl : EvO K tl ds lo) (hh : EvO K th ds hi) : Ev K m (tSl (rSlL K) ta tl th) ds (.lst (cut l lo hi)) := fun He ex O H σ I Q q =>
  ha He ex O H σ I _ fun x H1 e1 z1 => hl He ex O H1 σ (I.mono e1) _ fun H2 e2 => hh He ex O H2 σ (I.mono (e1.trans e2)) _ fun H3 e3 => by
    obtain ⟨a, xs, rfl, h1, h2⟩ := is_lst.mp (z1.mono (vw_mono (e2.trans e3).v))
    refine ⟨a, _, rfl, SqL.of (vw_in.at h1), fun p hp => q _ _ (((e1.trans e2).trans e3).trans (Ex.new hp)) (new_lst I ((e1.trans e2).trans e3) hp (isL_cut (h2.mono ex_hd)))⟩

/-! ### tests -/
theorem et_test (h : Ev K .I te ds (.bl b)) : EvT K (tTest te) ds b := fun He ex O H σ I Q q => h He ex O H σ I _ fun v H2 e z => ⟨b, is_bl.mp z, q H2 e⟩
theorem et_B (h : Ev K .I te ds (.bl b)) : EvT K (tB te) ds b := fun He ex O H σ I Q q => h He ex O H σ I _ fun v H2 e z => ⟨b, is_bl.mp z, q H2 e⟩
theorem et_and (h1 : EvT K t ds b) (h2 : b = true → EvT K u ds c) : EvT K (tAnd t u) ds (b && c) := fun He ex O H σ I Q q => h1 He ex O H σ I _ fun H1 e1 => by
  cases b with
  | true => exact iteT (h2 rfl He ex O H1 σ (I.mono e1) _ fun H2 e2 => q H2 (e1.trans e2))
  | false => exact iteF (q H1 e1)
theorem et_or (h1 : EvT K t ds b) (h2 : b = false → EvT K u ds c) : EvT K (tOr t u) ds (b || c) := fun He ex O H σ I Q q => h1 He ex O H σ I _ fun H1 e1 => by
  cases b with
  | true => exact iteT (q H1 e1)
  | false => exact iteF (h2 rfl He ex O H1 σ (I.mono e1) _ fun H2 e2 => q H2 (e1.trans e2))
theorem et_not (h1 : EvT K t ds b) : EvT K (tNot t) ds (!b) := fun He ex O H σ I Q q => h1 He ex O H σ I _ fun H1 e1 => q H1 e1
theorem et_yes : EvT K tYes ds true := fun He ex O H σ I Q q => q H (Ex.refl H)
theorem ev_andV (h1 : Ev K .I ta ds (.bl b)) (h2 : b = true → Ev K .I tb ds (.bl c)) : Ev K m (tAndV ta tb) ds (.bl (b && c)) := by
  refine Ev.fl rfl (fun He ex O H σ I Q q => h1 He ex O H σ I _ fun v H1 e1 z1 => ⟨b, is_bl.mp z1, ?_⟩) m
  cases b with
  | true => exact iteT (h2 rfl He ex O H1 σ (I.mono e1) _ fun v H2 e2 z2 => q v H2 (e1.trans e2) z2)
  | false => exact iteF (q _ H1 e1 (is_bl.mpr rfl))
theorem ev_orV (h1 : Ev K .I ta ds (.bl b)) (h2 : b = false → Ev K .I tb ds (.bl c)) : Ev K m (tOrV ta tb) ds (.bl (b || c)) := by
  refine Ev.fl rfl (fun He ex O H σ I Q q => h1 He ex O H σ I _ fun v H1 e1 z1 => ⟨b, is_bl.mp z1, ?_⟩) m
  cases b with
  | true => exact iteT (q _ H1 e1 (is_bl.mpr rfl))
  | false => exact iteF (h2 rfl He ex O H1 σ (I.mono e1) _ fun v H2 e2 z2 => q v H2 (e1.trans e2) z2)
theorem ev_notV (h1 : Ev K .I ta ds (.bl b)) : Ev K m (tNotV ta) ds (.bl (!b)) := by
  refine Ev.fl rfl (fun He ex O H σ I Q q => h1 He ex O H σ I _ fun v H1 e1 z1 => ⟨b, is_bl.mp z1, q _ H1 e1 (is_bl.mpr rfl)⟩) m
theorem ev_if (h : EvT K t ds b) (h1 : b = true → Ev K m ta ds d) (h2 : b = false → Ev K m tb ds d) : Ev K m (tIf t ta tb) ds d := fun He ex O H σ I Q q => h He ex O H σ I _ fun H1 e1 => by
  cases b with
  | true => exact iteT (h1 rfl He ex O H1 σ (I.mono e1) _ fun v H2 e2 z => q v H2 (e1.trans e2) (z.mono (vw_later e1)))
  | false => exact iteF (h2 rfl He ex O H1 σ (I.mono e1) _ fun v H2 e2 z => q v H2 (e1.trans e2) (z.mono (vw_later e1)))
/-- .. where both are ints: the value as an if -/
theorem ev_ifI (h : EvT K t ds b) (h1 : b = true → Ev K .I ta ds (.int i)) (h2 : b = false → Ev K .I tb ds (.int j)) : Ev K m (tIf t ta tb) ds (.int (if b = true then i else j)) := by
  refine ev_if h (fun e => ?_) (fun e => ?_)
  · rw [if_pos e]
    exact Ev.fl rfl (h1 e) m
  · rw [if_neg (by rw [e]; exact Bool.false_ne_true)]
    exact Ev.fl rfl (h2 e) m
/-- a < b < c -/
theorem ev_chain {r r' : R2} {i j k : Int} (ha : Ev K .I ta ds (.int i)) (hb : Ev K .I tb ds (.int j)) (hc : Ev K .I tc ds (.int k)) (h1 : ∀ H (Q : VK), Q (.bl b) H → r (.int i) (.int j) H Q) (h2 : ∀ H (Q : VK), Q (.bl c) H → r' (.int j) (.int k) H Q) :
    Ev K m (tChain r r' ta tb tc) ds (.bl (b && c)) := by
  refine Ev.fl rfl (fun He ex O H σ I Q q => ?_) m
  refine ha.two hb I fun x y H2 e z1 z2 => ?_
  rw [is_int.mp z1, is_int.mp z2]
  refine h1 _ _ ⟨b, rfl, ?_⟩
  cases b with
  | true => exact iteT (hc He ex O H2 σ (I.mono e) _ fun v H3 e3 z3 => by
      rw [is_int.mp z3]
      exact h2 _ _ (q _ H3 (e.trans e3) (is_bl.mpr rfl)))
  | false => exact iteF (q _ H2 e (is_bl.mpr rfl))
theorem rLt_b {i j : Int} {H : Hp} {Q : VK} (q : Q (.bl (decide (i < j))) H) : rLtX (.int i) (.int j) H Q := ⟨_, _, rfl, rfl, q⟩
theorem rLe_b {i j : Int} {H : Hp} {Q : VK} (q : Q (.bl (decide (i ≤ j))) H) : rLeX (.int i) (.int j) H Q := ⟨_, _, rfl, rfl, q⟩

/-! ### built-ins -/
def rLenX (K : PySem.W.Frag) : List V → Hp → VK → Prop := fun xs H Q => ∃ p ys, xs = [.ref p] ∧ (SqL K H p ys ∨ SqT K H p ys) ∧ Q (.int ys.length) H
theorem cLen {X : Cx} : CallR X (.builtin "len") (rLenX X.K) := call_len_seq
def rMinX : List V → Hp → VK → Prop := fun xs H Q => ∃ i j, xs = [.int i, .int j] ∧ Q (.int (if j < i then j else i)) H
def rMaxX : List V → Hp → VK → Prop := fun xs H Q => ∃ i j, xs = [.int i, .int j] ∧ Q (.int (if j > i then j else i)) H
theorem cMin {X : Cx} (hc : X.calm = true) : CallR X (.builtin "min") rMinX := call_min2 hc
theorem cMax {X : Cx} (hc : X.calm = true) : CallR X (.builtin "max") rMaxX := call_max2 hc
def rAbsX : List V → Hp → VK → Prop := fun xs H Q => ∃ i, xs = [.int i] ∧ Q (.int (if i < 0 then -i else i)) H
theorem cAbs {X : Cx} : CallR X (.builtin "abs") rAbsX := call_abs
def rListX (K : PySem.W.Frag) : List V → Hp → VK → Prop := fun xs H Q => ∃ p ys, xs = [.ref p] ∧ (SqL K H p ys ∨ SqT K H p ys) ∧ ∀ l, H l = none → Q (.ref l) (upd H l (.lst ys))
theorem cList {X : Cx} : CallR X (.type "list") (rListX X.K) := call_list_of
def rIntX : List V → Hp → VK → Prop := fun xs H Q => (∃ i, xs = [.int i] ∧ Q (.int i) H) ∨ ∃ k, xs = [.bl k] ∧ Q (.int (if k then 1 else 0)) H
theorem cInt {X : Cx} : CallR X (.type "int") rIntX := call_int1
theorem isL1 (h : IsL K H [d] vs) : ∃ v, vs = [v] ∧ Is K H d v := by
  simp only [IsL] at h
  obtain ⟨v, r, rfl, h1, rfl⟩ := h
  exact ⟨v, rfl, h1⟩
theorem isL2 (h : IsL K H [d, d'] vs) : ∃ v w, vs = [v, w] ∧ Is K H d v ∧ Is K H d' w := by
  simp only [IsL] at h
  obtain ⟨v, r, rfl, h1, w, r2, rfl, h2, rfl⟩ := h
  exact ⟨v, w, rfl, h1, h2⟩
theorem ev_cb {rr : List V → Hp → VK → Prop} (h : EvA K .I tA ds l) (hf : flat d = true) (hr : ∀ vs H (Q : VK), IsL K H l vs → (∀ v, Is K H d v → Q v H) → rr vs H Q) : Ev K m (tCB rr tA) ds d := by
  refine Ev.fl hf (fun He ex O H σ I Q q => h He ex O H σ I _ fun vs H2 e z => hr vs H2 Q z fun v hv => q v H2 e hv) m
theorem ev_len (h : Ev K .I te ds (.lst l)) : Ev K m (tCB (rLenX K) (tCons te tNil)) ds (.int (l.length : Int)) := ev_cb (ea_cons h ea_nil) rfl fun vs H Q z q => by
  obtain ⟨v, rfl, h1⟩ := isL1 z
  obtain ⟨a, xs, rfl, h2, h3⟩ := is_lst.mp h1
  exact ⟨a, xs, rfl, .inl (SqL.of h2), q _ (is_int.mpr (by rw [h3.length]))⟩
theorem ev_lenI (h : Ev K .I te ds (li ns)) : Ev K m (tCB (rLenX K) (tCons te tNil)) ds (.int (ns.length : Int)) := (ev_len h).is (by rw [List.length_map])
theorem ev_lenT (h : Ev K .I te ds (.tup l)) : Ev K m (tCB (rLenX K) (tCons te tNil)) ds (.int (l.length : Int)) := ev_cb (ea_cons h ea_nil) rfl fun vs H Q z q => by
  obtain ⟨v, rfl, h1⟩ := isL1 z
  obtain ⟨a, xs, rfl, h2, h3⟩ := is_tup.mp h1
  exact ⟨a, xs, rfl, .inr (SqT.of h2), q _ (is_int.mpr (by rw [h3.length]))⟩
theorem fz_sq (h : Is K H (.fz ns) v) : ∃ a, v = .ref a ∧ SqL K H a (ns.map V.int) := by
  simp only [Is] at h
  exact h
theorem ev_lenF (h : Ev K .I te ds (.fz ns)) : Ev K m (tCB (rLenX K) (tCons te tNil)) ds (.int (ns.length : Int)) := ev_cb (ea_cons h ea_nil) rfl fun vs H Q z q => by
  obtain ⟨v, rfl, h1⟩ := isL1 z
  obtain ⟨a, rfl, h2⟩ := fz_sq h1
  exact ⟨a, _, rfl, .inl h2, q _ (is_int.mpr (by rw [List.length_map]))⟩
theorem ev_min (ha : Ev K .I ta ds (.int i)) (hb : Ev K .I tb ds (.int j)) : Ev K m (tCB rMinX (tCons ta (tCons tb tNil))) ds (.int (min i j)) := ev_cb (ea_cons ha (ea_cons hb ea_nil)) rfl fun vs H Q z q => by
  obtain ⟨v, w, rfl, h1, h2⟩ := isL2 z
  rw [is_int.mp h1, is_int.mp h2]
  refine ⟨i, j, rfl, q _ (is_int.mpr ?_)⟩
  congr 1
  by_cases h : j < i
  · rw [if_pos h]
    omega
  · rw [if_neg h]
    omega
theorem ev_max (ha : Ev K .I ta ds (.int i)) (hb : Ev K .I tb ds (.int j)) : Ev K m (tCB rMaxX (tCons ta (tCons tb tNil))) ds (.int (max i j)) := ev_cb (ea_cons ha (ea_cons hb ea_nil)) rfl fun vs H Q z q => by
  obtain ⟨v, w, rfl, h1, h2⟩ := isL2 z
  rw [is_int.mp h1, is_int.mp h2]
  refine ⟨i, j, rfl, q _ (is_int.mpr ?_)⟩
  congr 1
  by_cases h : j > i
  · rw [if_pos h]
    omega
  · rw [if_neg h]
    omega
theorem ev_abs (ha : Ev K .I ta ds (.int i)) : Ev K m (tCB rAbsX (tCons ta tNil)) ds (.int (i.natAbs : Int)) := ev_cb (ea_cons ha ea_nil) rfl fun vs H Q z q => by
  obtain ⟨v, rfl, h1⟩ := isL1 z
  rw [is_int.mp h1]
  refine ⟨i, rfl, q _ (is_int.mpr ?_)⟩
  congr 1
  by_cases h : i < 0
  · rw [if_pos h]
    omega
  · rw [if_neg h]
    omega
theorem ev_intB (ha : Ev K .I ta ds (.bl b)) : Ev K m (tCB rIntX (tCons ta tNil)) ds (.int (if b then 1 else 0)) := ev_cb (ea_cons ha ea_nil) rfl fun vs H Q z q => by
  obtain ⟨v, rfl, h1⟩ := isL1 z
  rw [is_bl.mp h1]
  exact .inr ⟨b, rfl, q _ (is_int.mpr rfl)⟩
theorem ev_sum (ha : Ev K .I ta ds (li ns)) : Ev K m (tCB (rSum K) (tCons ta tNil)) ds (.int ns.sum) := ev_cb (ea_cons ha ea_nil) rfl fun vs H Q z q => by
  obtain ⟨v, rfl, h1⟩ := isL1 z
  obtain ⟨a, rfl, h2⟩ := is_li.mp h1
  exact ⟨a, ns, rfl, SqL.of h2, q _ (is_int.mpr rfl)⟩
theorem ev_any {bs : List Bool} (ha : Ev K .I ta ds (.lst (bs.map D.bl))) : Ev K m (tCB (rAny K) (tCons ta tNil)) ds (.bl (bs.any id)) := ev_cb (ea_cons ha ea_nil) rfl fun vs H Q z q => by
  obtain ⟨v, rfl, h1⟩ := isL1 z
  obtain ⟨a, xs, rfl, h2, h3⟩ := is_lst.mp h1
  rw [isL_bls.mp h3] at h2
  exact ⟨a, bs, rfl, SqL.of h2, q _ (is_bl.mpr rfl)⟩
theorem ev_all {bs : List Bool} (ha : Ev K .I ta ds (.lst (bs.map D.bl))) : Ev K m (tCB (rAll K) (tCons ta tNil)) ds (.bl (bs.all id)) := ev_cb (ea_cons ha ea_nil) rfl fun vs H Q z q => by
  obtain ⟨v, rfl, h1⟩ := isL1 z
  obtain ⟨a, xs, rfl, h2, h3⟩ := is_lst.mp h1
  rw [isL_bls.mp h3] at h2
  exact ⟨a, bs, rfl, SqL.of h2, q _ (is_bl.mpr rfl)⟩
/-- list(xs) -/
theorem ev_list (ha : Ev K m ta ds (.lst l)) : Ev K m (tCB (rListX K) (tCons ta tNil)) ds (.lst l) := fun He ex O H σ I Q q =>
  ha He ex O H σ I _ fun x H1 e1 z1 => by
    obtain ⟨a, xs, rfl, h1, h2⟩ := is_lst.mp z1
    exact ⟨a, xs, rfl, .inl (SqL.of (vw_in.at h1)), fun p hp => q _ _ (e1.trans (Ex.new hp)) (new_lst I e1 hp (h2.mono ex_hd))⟩
theorem ev_listI (ha : Ev K .I ta ds (li ns)) : Ev K m (tCB (rListX K) (tCons ta tNil)) ds (li ns) := fun He ex O H σ I Q q =>
  ha He ex O H σ I _ fun x H1 e1 z1 => by
    obtain ⟨a, rfl, h1⟩ := is_li.mp z1
    exact ⟨a, _, rfl, .inl (SqL.of h1), fun p hp => q _ _ (e1.trans (Ex.new hp)) (new_lst I e1 hp (isL_ints.mpr rfl))⟩
/-- isinstance(x, T) of built-in T -/
def tyN : D → String
  | .non => "NoneType"
  | .bl _ => "bool"
  | .int _ => "int"
  | .str _ => "str"
  | .lst _ => "list"
  | .fz _ => "list"
  | .tup _ => "tuple"
  | .emp => "dict"
  | _ => ""
theorem tyX_of (h : Is K H d v) (hn : tyN d ≠ "") (hz : ∀ l, d ≠ .fz l) : TyX K H v (.type (tyN d)) := by
  cases d with
  | non => rw [is_non.mp h]; exact .base .non
  | bl b => rw [is_bl.mp h]; exact .base (.bl b)
  | int b => rw [is_int.mp h]; exact .base (.int b)
  | str b => rw [is_str.mp h]; exact .base (.str b)
  | lst l =>
    obtain ⟨a, xs, rfl, h2, _⟩ := is_lst.mp h
    exact .base (.lst h2)
  | tup l =>
    obtain ⟨a, xs, rfl, h2, _⟩ := is_tup.mp h
    exact .base (.tup h2)
  | fz l => exact absurd rfl (hz l)
  | emp =>
    simp only [Is] at h
    obtain ⟨a, rfl, h2⟩ := h
    exact .base (.dK h2)
  | _ => exact absurd rfl hn
theorem ev_isi {nm : String} (ha : Ev K .I ta ds d) (hb : Ev K .I tb ds (.ty nm)) (hk : kitB (tyN d) nm = some b) (hn : tyN d ≠ "") (hz : ∀ l, d ≠ .fz l) : Ev K m (tCB (rIsi K) (tCons ta (tCons tb tNil))) ds (.bl b) :=
  ev_cb (ea_cons ha (ea_cons hb ea_nil)) rfl fun vs H Q z q => by
    obtain ⟨v, w, rfl, h1, h2⟩ := isL2 z
    rw [is_ty.mp h2]
    exact ⟨v, .ty nm, _, _, b, rfl, .ty nm, tyX_of h1 hn hz, kit_ty hk, q _ (is_bl.mpr rfl)⟩
/-- x in a written tuple of ints -/
theorem inV_ints : ∀ (ns : List Int) (i : Int), inV (.int i) (ns.map V.int) = decide (i ∈ ns)
  | [], i => rfl
  | n :: r, i => by
    unfold inV
    rw [List.map_cons, List.any_cons]
    have ih := inV_ints r i
    unfold inV at ih
    rw [ih]
    show (n == i || decide (i ∈ r)) = decide (i ∈ n :: r)
    by_cases h : n = i
    · subst h
      rw [decide_eq_true (List.mem_cons_self)]
      rw [show (n == n) = true from beq_self_eq_true n, Bool.true_or]
    · rw [show (n == i) = false from beq_eq_false_iff_ne.mpr h, Bool.false_or]
      by_cases h2 : i ∈ r
      · rw [decide_eq_true h2, decide_eq_true (List.mem_cons_of_mem _ h2)]
      · rw [decide_eq_false h2, decide_eq_false (fun z => (List.mem_cons.mp z).elim (fun y => h y.symm) h2)]
theorem all_flatV : ∀ ns : List Int, (ns.map V.int).all flatV = true
  | [] => rfl
  | n :: r => by
    rw [List.map_cons, List.all_cons, all_flatV r] <;> rfl
theorem ev_inK (ha : Ev K .I ta ds (.int i)) (hb : Ev K .I tb ds (.kt ns)) : Ev K m (tOp (rIn K false) ta tb) ds (.bl (decide (i ∈ ns))) := by
  refine Ev.fl rfl (fun He ex O H σ I Q q => ?_) m
  refine ha.two hb I fun x y H2 e z1 z2 => ?_
  simp only [vw, Is] at z2
  obtain ⟨a, rfl, h2⟩ := z2
  rw [is_int.mp z1]
  exact ⟨a, _, rfl, .inr (h2 H2), rfl, all_flatV ns, q _ H2 e (is_bl.mpr (by rw [if_neg Bool.false_ne_true, inV_ints]))⟩
theorem ev_ninK (ha : Ev K .I ta ds (.int i)) (hb : Ev K .I tb ds (.kt ns)) : Ev K m (tOp (rIn K true) ta tb) ds (.bl (!decide (i ∈ ns))) := by
  refine Ev.fl rfl (fun He ex O H σ I Q q => ?_) m
  refine ha.two hb I fun x y H2 e z1 z2 => ?_
  simp only [vw, Is] at z2
  obtain ⟨a, rfl, h2⟩ := z2
  rw [is_int.mp z1]
  exact ⟨a, _, rfl, .inr (h2 H2), rfl, all_flatV ns, q _ H2 e (is_bl.mpr (by rw [if_pos rfl, inV_ints]))⟩
theorem ev_ninL (ha : Ev K .I ta ds (.int i)) (hb : Ev K .I tb ds (li ns)) : Ev K m (tOp (rIn K true) ta tb) ds (.bl (!decide (i ∈ ns))) := by
  refine Ev.fl rfl (fun He ex O H σ I Q q => ?_) m
  refine ha.two hb I fun x y H2 e z1 z2 => ?_
  obtain ⟨a, rfl, h2⟩ := is_li.mp z2
  rw [is_int.mp z1]
  exact ⟨a, _, rfl, .inl (SqL.of h2), rfl, all_flatV ns, q _ H2 e (is_bl.mpr (by rw [if_pos rfl, inV_ints]))⟩
/-- == of lists of ints -/
theorem sh_ints : ∀ ns : List Int, PyData.canLayAll0 (ns.map PyData.int) = true ∧ PyData.depthAll (ns.map PyData.int) ≤ 2
  | [] => ⟨rfl, by simp [PyData.depthAll]⟩
  | n :: r => by
    obtain ⟨h1, h2⟩ := sh_ints r
    refine ⟨by simp only [List.map_cons, PyData.canLayAll0, PyData.canLay0, h1, Bool.and_self], ?_⟩
    simp only [List.map_cons, PyData.depthAll, PyData.depth] at h2 ⊢
    omega
theorem shaped_li (ns : List Int) : SeqAt.shaped (py (li ns)) = true := by
  obtain ⟨h1, h2⟩ := sh_ints ns
  unfold SeqAt.shaped
  simp only [py, pyL_ints, PyData.canLay0, PyData.depth, h1, Bool.true_and]
  exact decide_eq_true (by omega)
theorem ev_eqLi (ha : Ev K .I ta ds (li ns)) (hb : Ev K .I tb ds (li ms)) : Ev K m (tOp (rEqX K) ta tb) ds (.bl (decide (ns = ms))) :=
  (ev_eqD ha hb (by simp only [pyOk]; exact pyOkL_ints ns) (by simp only [pyOk]; exact pyOkL_ints ms) (shaped_li ns) (shaped_li ms)).is (by rw [eqv_li])
theorem ev_neLi (ha : Ev K .I ta ds (li ns)) (hb : Ev K .I tb ds (li ms)) : Ev K m (tOp (rNeX K) ta tb) ds (.bl (!decide (ns = ms))) :=
  (ev_neD ha hb (by simp only [pyOk]; exact pyOkL_ints ns) (by simp only [pyOk]; exact pyOkL_ints ms) (shaped_li ns) (shaped_li ms)).is (by rw [eqv_li])
theorem ev_neF (ha : Ev K .I ta ds (.fz ns)) (hb : Ev K .I tb ds (li ms)) : Ev K m (tOp (rNeX K) ta tb) ds (.bl (!decide (ns = ms))) := by
  have e : py (.fz ns) = py (li ns) := by simp only [py, pyL_ints]
  have h := ev_neD (m := m) ha hb (by simp only [pyOk]) (by simp only [pyOk]; exact pyOkL_ints ms) (by rw [e]; exact shaped_li ns) (shaped_li ms)
  rw [e, eqv_li] at h
  exact h
end
end Px

namespace Px
open PySem PySem.Spec PyProof.Rows L2
variable [Tb]

/-! ### states grow -/
structure Grow (O : List Addr) (H : Hp) (O2 : List Addr) (H2 : Hp) : Prop where
  ex : Ex H H2
  sub : ∀ p ∈ O, p ∈ O2
  new : ∀ p ∈ O2, p ∈ O ∨ H p = none
section
variable {K : PySem.W.Frag} {He H H1 H2 H' : Hp} {ex : List (V × D)} {O O1 O2 : List Addr} {σ : L2.St} {ds : List Slot} {d d' e1 e2 : D} {l l1 l2 : List D} {v : V} {vs : List V}
variable {m m1 m2 : Md} {te ta tb tx tc : TE} {t u : TT} {r : R2} {i j n : Int} {b c : Bool} {ns ms : List Int} {tA : TA}
theorem Grow.refl : Grow O H O H := ⟨Ex.refl H, fun _ h => h, fun _ h => .inl h⟩
theorem Grow.trans (a : Grow O H O1 H1) (b : Grow O1 H1 O2 H2) : Grow O H O2 H2 :=
  ⟨a.ex.trans b.ex, fun p h => b.sub p (a.sub p h), fun p h => (b.new p h).elim (fun z => a.new p z) fun z => .inr (Ex.back a.ex z)⟩
theorem Grow.of (e : Ex H H2) : Grow O H O H2 := ⟨e, fun _ h => h, fun _ h => .inl h⟩
theorem Grow.hm (g : Grow O H O2 H2) : Vx (Hm O H) (Hm O2 H2) := fun b o h n => by
  obtain ⟨h1, h2⟩ := hm_some.mp h
  refine hm_some.mpr ⟨fun z => ?_, g.ex.at h2 n⟩
  rcases g.new b z with z | z
  · exact h1 z
  · rw [h2] at z
    cases z
theorem Grow.hn (g : Grow O H O2 H2) : Vx (Hn He O H) (Hn He O2 H2) := fun b o h n => by
  obtain ⟨h1, h3, h2⟩ := hn_some.mp h
  refine hn_some.mpr ⟨fun z => ?_, h3, g.ex.at h2 n⟩
  rcases g.new b z with z | z
  · exact h1 z
  · rw [h2] at z
    cases z
/-- the same slots, more owned, more objects -/
theorem Env.grow (I : Env K He ex O H σ ds) (g : Grow O H O2 H2) (hfr : ∀ p ∈ O2, He p = none) (hth : ∀ p ∈ O2, ∃ o, H2 p = some o) : Env K He ex O2 H2 σ ds := by
  refine ⟨I.ext.trans g.ex, hfr, hth, I.len, fun i d h => ?_, fun i d h => ?_, fun i l h => ?_, I.dj, fun q hq => (I.xs q hq).mono g.hm, fun i b p ns h => ?_, I.cj, I.ck, g.ex.g I.tb⟩
  · obtain ⟨v, h1, h2⟩ := I.ar i d h
    exact ⟨v, h1, h2.mono g.hm⟩
  · obtain ⟨v, h1, h2⟩ := I.nw i d h
    exact ⟨v, h1, h2.mono g.hn⟩
  · obtain ⟨p, vs, h1, h2, h3, h4⟩ := I.ow i l h
    exact ⟨p, vs, h1, g.sub p h2, g.ex.at h3, h4.mono g.hn⟩
  · obtain ⟨h1, h2, h3⟩ := I.ce i b p ns h
    exact ⟨g.sub p h1, h2, g.ex.at h3⟩
theorem Env.own (I : Env K He ex O H σ ds) (e : Ex H H2) {p : Addr} (hp : H p = none) (h2 : ∃ o, H2 p = some o) : Env K He ex (p :: O) H2 σ ds ∧ Grow O H (p :: O) H2 := by
  have g : Grow O H (p :: O) H2 := ⟨e, fun q hq => List.mem_cons_of_mem _ hq, fun q hq => by
    rcases List.mem_cons.mp hq with z | z
    · rw [z]
      exact .inr hp
    · exact .inl z⟩
  refine ⟨I.grow g (fun q hq => ?_) fun q hq => ?_, g⟩
  · rcases List.mem_cons.mp hq with z | z
    · rw [z]
      exact Ex.back I.ext hp
    · exact I.fr q z
  · rcases List.mem_cons.mp hq with z | z
    · rw [z]
      exact h2
    · obtain ⟨o, h⟩ := I.thr q z
      exact e.some h
theorem Env.dropEx {pins : List (V × D)} (I : Env K He (pins ++ ex) O H σ ds) : Env K He ex O H σ ds :=
  ⟨I.ext, I.fr, I.thr, I.len, I.ar, I.nw, I.ow, I.dj, fun q hq => I.xs q (List.mem_append_right _ hq), I.ce, I.cj, I.ck, I.tb⟩
theorem Env.addEx {pins : List (V × D)} (I : Env K He ex O H σ ds) (h : ∀ q ∈ pins, Is K (Hm O H) q.2 q.1) : Env K He (pins ++ ex) O H σ ds :=
  ⟨I.ext, I.fr, I.thr, I.len, I.ar, I.nw, I.ow, I.dj, fun q hq => (List.mem_append.mp hq).elim (h q) (I.xs q), I.ce, I.cj, I.ck, I.tb⟩

/-! ### a value stands as a slot says -/
/-- F: addresses that may not be the slot's own -/
def Fits (K : PySem.W.Frag) (He : Hp) (O : List Addr) (H : Hp) (F : Addr → Prop) : Slot → V → Prop
  | .no, _ => False
  | .ar d, v => Is K (Hm O H) d v
  | .nw d, v => Is K (Hn He O H) d v
  | .ow l, v => ∃ p vs, v = .ref p ∧ p ∈ O ∧ ¬ F p ∧ H p = some (.lst vs) ∧ IsL K (Hn He O H) l vs
  | .ce _ _ _, _ => False
theorem Fits.grow {F : Addr → Prop} {s : Slot} (h : Fits K He O H F s v) (g : Grow O H O2 H2) : Fits K He O2 H2 F s v := by
  cases s with
  | no => exact h
  | ar d => exact Is.mono g.hm h
  | nw d => exact Is.mono g.hn h
  | ow l =>
    obtain ⟨p, vs, h1, h2, h3, h4, h5⟩ := h
    exact ⟨p, vs, h1, g.sub _ h2, h3, g.ex.at h4, h5.mono g.hn⟩
  | ce b p ns => exact h
theorem Fits.mono {F F' : Addr → Prop} {s : Slot} (h : Fits K He O H F s v) (hf : ∀ p, F' p → F p) : Fits K He O H F' s v := by
  cases s with
  | no => exact h
  | ar d => exact h
  | nw d => exact h
  | ow l =>
    obtain ⟨p, vs, h1, h2, h3, h4, h5⟩ := h
    exact ⟨p, vs, h1, h2, fun z => h3 (hf p z), h4, h5⟩
  | ce b p ns => exact h
/-- the addresses that slots own -/
def Held (σ : L2.St) (ds : List Slot) (p : Addr) : Prop := (∃ (i : Nat) (l : List D), ds[i]? = some (.ow l) ∧ σ[i]? = some (some (.ref p))) ∨ ∃ (i : Nat) (b : Bool) (ns : List Int), ds[i]? = some (.ce b p ns)
theorem set_get {α : Type} {l : List α} {i j : Nat} {x y : α} (h : (l.set i x)[j]? = some y) : (i = j ∧ x = y ∧ i < l.length) ∨ (i ≠ j ∧ l[j]? = some y) := by
  by_cases e : i = j
  · subst e
    by_cases hi : i < l.length
    · rw [List.getElem?_set_self hi] at h
      exact .inl ⟨rfl, Option.some.inj h, hi⟩
    · rw [List.set_eq_of_length_le (by omega)] at h
      rw [List.getElem?_eq_none (by omega)] at h
      cases h
  · rw [List.getElem?_set_ne e] at h
    exact .inr ⟨e, h⟩
/-- a slot is stored -/
theorem Env.put (I : Env K He ex O H σ ds) {i : Nat} {s : Slot} (h : Fits K He O H (Held σ ds) s v) : Env K He ex O H (σ.set i (some v)) (ds.set i s) := by
  refine ⟨I.ext, I.fr, I.thr, by rw [List.length_set, List.length_set]; exact I.len, fun j d hj => ?_, fun j d hj => ?_, fun j l hj => ?_, fun a b la lb p ha hb hx hy => ?_, I.xs, fun j b p ns hj => ?_, fun a b bb p ns lj ha hb => ?_, fun a b bb bb' p ns ns' ha hb => ?_, I.tb⟩
  · rcases set_get hj with ⟨rfl, rfl, hi⟩ | ⟨ne, hj⟩
    · exact ⟨v, by rw [List.getElem?_set_self (by rw [I.len]; exact hi)], h⟩
    · obtain ⟨w, h1, h2⟩ := I.ar j d hj
      exact ⟨w, by rw [List.getElem?_set_ne ne]; exact h1, h2⟩
  · rcases set_get hj with ⟨rfl, rfl, hi⟩ | ⟨ne, hj⟩
    · exact ⟨v, by rw [List.getElem?_set_self (by rw [I.len]; exact hi)], h⟩
    · obtain ⟨w, h1, h2⟩ := I.nw j d hj
      exact ⟨w, by rw [List.getElem?_set_ne ne]; exact h1, h2⟩
  · rcases set_get hj with ⟨rfl, rfl, hi⟩ | ⟨ne, hj⟩
    · obtain ⟨p, vs, h1, h2, h3, h4, h5⟩ := h
      exact ⟨p, vs, by rw [List.getElem?_set_self (by rw [I.len]; exact hi), h1], h2, h4, h5⟩
    · obtain ⟨p, vs, h1, h2⟩ := I.ow j l hj
      exact ⟨p, vs, by rw [List.getElem?_set_ne ne]; exact h1, h2⟩
  · rcases set_get ha with ⟨rfl, ea, hi⟩ | ⟨na, ha2⟩
    · rcases set_get hb with ⟨rfl, eb, hi2⟩ | ⟨nb, hb2⟩
      · rfl
      · subst ea
        obtain ⟨q, vs, h1, h2, h3, h4, h5⟩ := h
        rw [List.getElem?_set_self (by rw [I.len]; exact hi)] at hx
        rw [List.getElem?_set_ne nb] at hy
        have e1 : v = .ref p := Option.some.inj (Option.some.inj hx)
        rw [h1] at e1
        cases e1
        exact absurd (.inl ⟨b, lb, hb2, hy⟩) h3
    · rcases set_get hb with ⟨rfl, eb, hi2⟩ | ⟨nb, hb⟩
      · subst eb
        obtain ⟨q, vs, h1, h2, h3, h4, h5⟩ := h
        rw [List.getElem?_set_self (by rw [I.len]; exact hi2)] at hy
        rw [List.getElem?_set_ne na] at hx
        have e1 : v = .ref p := Option.some.inj (Option.some.inj hy)
        rw [h1] at e1
        cases e1
        exact absurd (.inl ⟨a, la, ha2, hx⟩) h3
      · rw [List.getElem?_set_ne na] at hx
        rw [List.getElem?_set_ne nb] at hy
        exact I.dj a b la lb p ha2 hb hx hy
  · rcases set_get hj with ⟨rfl, rfl, hi⟩ | ⟨ne, hj⟩
    · exact h.elim
    · obtain ⟨h1, h2, h3⟩ := I.ce j b p ns hj
      exact ⟨h1, fun z => by rw [List.getElem?_set_ne ne]; exact h2 z, h3⟩
  · rcases set_get ha with ⟨rfl, rfl, hi⟩ | ⟨na, ha2⟩
    · exact h.elim
    · rcases set_get hb with ⟨rfl, rfl, hi⟩ | ⟨nb, hb⟩
      · obtain ⟨q, vs, h1, h2, h3, h4, h5⟩ := h
        rw [List.getElem?_set_self (by rw [I.len]; exact hi), h1]
        intro e
        cases e
        exact h3 (.inr ⟨a, bb, ns, ha2⟩)
      · rw [List.getElem?_set_ne nb]
        exact I.cj a b bb p ns lj ha2 hb
  · rcases set_get ha with ⟨rfl, rfl, hi⟩ | ⟨na, ha⟩
    · exact h.elim
    · rcases set_get hb with ⟨rfl, rfl, hi⟩ | ⟨nb, hb⟩
      · exact h.elim
      · exact I.ck a b bb bb' p ns ns' ha hb
/-- a slot is forgotten -/
theorem Env.gone (I : Env K He ex O H σ ds) {i : Nat} {x : Option V} : Env K He ex O H (σ.set i x) (ds.set i .no) := by
  refine ⟨I.ext, I.fr, I.thr, by rw [List.length_set, List.length_set]; exact I.len, fun j d hj => ?_, fun j d hj => ?_, fun j l hj => ?_, fun a b la lb p ha hb hx hy => ?_, I.xs, fun j b p ns hj => ?_, fun a b bb p ns lj ha hb => ?_, fun a b bb bb' p ns ns' ha hb => ?_, I.tb⟩
  · rcases set_get hj with ⟨rfl, e, hi⟩ | ⟨ne, hj⟩
    · cases e
    · obtain ⟨w, h1, h2⟩ := I.ar j d hj
      exact ⟨w, by rw [List.getElem?_set_ne ne]; exact h1, h2⟩
  · rcases set_get hj with ⟨rfl, e, hi⟩ | ⟨ne, hj⟩
    · cases e
    · obtain ⟨w, h1, h2⟩ := I.nw j d hj
      exact ⟨w, by rw [List.getElem?_set_ne ne]; exact h1, h2⟩
  · rcases set_get hj with ⟨rfl, e, hi⟩ | ⟨ne, hj⟩
    · cases e
    · obtain ⟨p, vs, h1, h2⟩ := I.ow j l hj
      exact ⟨p, vs, by rw [List.getElem?_set_ne ne]; exact h1, h2⟩
  · rcases set_get ha with ⟨rfl, e, hi⟩ | ⟨na, ha⟩
    · cases e
    · rcases set_get hb with ⟨rfl, e, hi⟩ | ⟨nb, hb⟩
      · cases e
      · rw [List.getElem?_set_ne na] at hx
        rw [List.getElem?_set_ne nb] at hy
        exact I.dj a b la lb p ha hb hx hy
  · rcases set_get hj with ⟨rfl, e, hi⟩ | ⟨ne, hj⟩
    · cases e
    · obtain ⟨h1, h2, h3⟩ := I.ce j b p ns hj
      exact ⟨h1, fun z => by rw [List.getElem?_set_ne ne]; exact h2 z, h3⟩
  · rcases set_get ha with ⟨rfl, e, hi⟩ | ⟨na, ha⟩
    · cases e
    · rcases set_get hb with ⟨rfl, e, hi⟩ | ⟨nb, hb⟩
      · cases e
      · rw [List.getElem?_set_ne nb]
        exact I.cj a b bb p ns lj ha hb
  · rcases set_get ha with ⟨rfl, e, hi⟩ | ⟨na, ha⟩
    · cases e
    · rcases set_get hb with ⟨rfl, e, hi⟩ | ⟨nb, hb⟩
      · cases e
      · exact I.ck a b bb bb' p ns ns' ha hb
theorem fits_arg {F : Addr → Prop} (h : Is K (Hm O H) d v) : Fits K He O H F (argS d) v := by
  unfold argS
  cases hf : flat d with
  | true => exact h.flat hf
  | false => exact h

/-! ### an expression's value, to be stored as a slot -/
def Sto (K : PySem.W.Frag) (te : TE) (ds : List Slot) (s : Slot) : Prop :=
  ∀ He ex O H σ, Env K He ex O H σ ds → ∀ Q : VK, (∀ v O2 H2, Grow O H O2 H2 → Env K He ex O2 H2 σ ds → Fits K He O2 H2 (fun p => (H p).isSome = true) s v → Q v H2) → te σ H Q
theorem sto_ar (h : Ev K .S te ds d) : Sto K te ds (.ar d) := fun He ex O H σ I Q q => h He ex O H σ I Q fun v H2 e z => q v O H2 (Grow.of e) (I.mono e) z
theorem sto_nw (h : Ev K .M te ds d) : Sto K te ds (.nw d) := fun He ex O H σ I Q q => h He ex O H σ I Q fun v H2 e z => q v O H2 (Grow.of e) (I.mono e) z
theorem sto_ow (h : Ev K .N te ds (.lst l)) : Sto K te ds (.ow l) := fun He ex O H σ I Q q => h He ex O H σ I Q fun v H2 e z => by
  obtain ⟨p, vs, rfl, h1, h2⟩ := is_lst.mp z
  obtain ⟨h3, h4⟩ := nw_some.mp h1
  obtain ⟨I2, g⟩ := I.own e h3 ⟨_, h4⟩
  refine q _ (p :: O) H2 g I2 ⟨p, vs, rfl, List.mem_cons_self, isSome_none h3, h4, h2.mono fun b o y _ => ?_⟩
  obtain ⟨y1, y2⟩ := hd_some.mp y
  obtain ⟨y3, y4⟩ := nw_some.mp y2
  refine hn_some.mpr ⟨fun z => ?_, Ex.back I.ext y3, y4⟩
  rcases List.mem_cons.mp z with z | z
  · exact y1 z
  · exact I.notO y3 z
theorem held_old (I : Env K He ex O H σ ds) : ∀ p, Held σ ds p → (H p).isSome = true := fun p h => by
  rcases h with ⟨i, l, h1, h2⟩ | ⟨i, b, ns, h1⟩
  · obtain ⟨q, vs, h3, h4, h5, _⟩ := I.ow i l h1
    rw [h2] at h3
    cases h3
    rw [h5] <;> rfl
  · rw [(I.ce i b p ns h1).2.2] <;> rfl
theorem Sto.put {i : Nat} {s : Slot} (h : Sto K te ds s) (I : Env K He ex O H σ ds) {Q : VK} (q : ∀ v O2 H2, Grow O H O2 H2 → Env K He ex O2 H2 (σ.set i (some v)) (ds.set i s) → Q v H2) : te σ H Q :=
  h He ex O H σ I Q fun v O2 H2 g I2 f => q v O2 H2 g (I2.put (f.mono (held_old I)))

def isOw : Slot → Bool
  | .ow _ => true
  | _ => false
/-- arguments to be stored -/
def FitsL (K : PySem.W.Frag) (He : Hp) (O : List Addr) (H : Hp) : (Addr → Prop) → List Slot → List V → Prop
  | _, [], vs => vs = []
  | F, s :: ss, vs => ∃ v r, vs = v :: r ∧ Fits K He O H F s v ∧ FitsL K He O H (fun p => F p ∨ (isOw s = true ∧ v = .ref p)) ss r
theorem FitsL.grow : ∀ {F : Addr → Prop} {ss : List Slot} {vs : List V}, FitsL K He O H F ss vs → Grow O H O2 H2 → FitsL K He O2 H2 F ss vs
  | _, [], _, h, _ => h
  | _, s :: ss, _, h, g => by
    obtain ⟨v, r, h1, h2, h3⟩ := h
    exact ⟨v, r, h1, h2.grow g, FitsL.grow h3 g⟩
theorem FitsL.mono : ∀ {F F' : Addr → Prop} {ss : List Slot} {vs : List V}, FitsL K He O H F ss vs → (∀ p, F' p → F p) → FitsL K He O H F' ss vs
  | _, _, [], _, h, _ => h
  | _, _, s :: ss, _, h, g => by
    obtain ⟨v, r, h1, h2, h3⟩ := h
    exact ⟨v, r, h1, h2.mono g, FitsL.mono h3 fun p z => z.imp (g p) fun y => y⟩
def StA (K : PySem.W.Frag) (ta : TA) (ds : List Slot) (ss : List Slot) : Prop :=
  ∀ He ex O H σ, Env K He ex O H σ ds → ∀ Q : List V → Hp → Prop, (∀ vs O2 H2, Grow O H O2 H2 → Env K He ex O2 H2 σ ds → FitsL K He O2 H2 (fun p => (H p).isSome = true) ss vs → Q vs H2) → ta σ H Q
theorem sta_nil : StA K tNil ds [] := fun He ex O H σ I Q q => q [] O H Grow.refl I rfl
theorem sta_cons {s : Slot} {ss : List Slot} (h : Sto K te ds s) (hr : StA K tA ds ss) : StA K (tCons te tA) ds (s :: ss) := fun He ex O H σ I Q q =>
  h He ex O H σ I _ fun v O1 H1 g1 I1 f1 => hr He ex O1 H1 σ I1 _ fun vs O2 H2 g2 I2 f2 => q (v :: vs) O2 H2 (g1.trans g2) I2 ⟨v, vs, rfl, f1.grow g2, f2.mono fun p z => by
    rcases z with z | z
    · obtain ⟨o, ho⟩ := Option.isSome_iff_exists.mp z
      obtain ⟨o', ho'⟩ := g1.ex.some ho
      rw [ho'] <;> rfl
    · obtain ⟨z1, z⟩ := z
      subst z
      cases s with
      | no => exact f1.elim
      | ar d => cases z1
      | nw d => cases z1
      | ce b p ns => exact f1.elim
      | ow l =>
        obtain ⟨p', vs', e, _, _, h4, _⟩ := f1
        cases e
        rw [h4] <;> rfl⟩
end
end Px

namespace Px
open PySem PySem.Spec PyProof.Rows L2
variable [Tb]
section
variable {K : PySem.W.Frag} {He H H1 H2 H' : Hp} {ex : List (V × D)} {O O1 O2 : List Addr} {σ : L2.St} {ds ds' : List Slot} {d d' e1 e2 : D} {l l1 l2 items : List D} {v : V} {vs : List V}
variable {m m1 m2 : Md} {te ta tb tx tc : TE} {t u : TT} {r : R2} {i j n : Int} {b c : Bool} {ns ms : List Int} {tA : TA}

/-! ### what is walked -/
def WalkD (K : PySem.W.Frag) (J : It) (items : List D) (pins : List (V × D)) : Prop :=
  ∀ (O : List Addr) (H : Hp), (∀ p ∈ O, ∃ o, H p = some o) → (∀ q ∈ pins, Is K (Hm O H) q.2 q.1) →
    (∀ i, i < items.length → J.go i H) ∧ J.stop items.length H ∧ ∀ i x H', i < items.length → J.yld i H x H' → Ex H H' ∧ ∃ d, items[i]? = some d ∧ Is K (Hm O H') d x
def ItD (K : PySem.W.Frag) (wi : TI) (ds : List Slot) (items : List D) : Prop :=
  ∀ He ex O H σ, Env K He ex O H σ ds → ∀ R : It → Hp → Prop, (∀ J H1 pins, Ex H H1 → Env K He (pins ++ ex) O H1 σ ds → WalkD K J items pins → R J H1) → wi σ H R
theorem it_list (h : Ev K .S te ds (.lst l)) : ItD K (iList K te) ds l := fun He ex O H σ I R q => h He ex O H σ I _ fun v H1 e z => by
  obtain ⟨a, xs, rfl, h1, h2⟩ := is_lst.mp z
  refine ⟨a, rfl, ⟨xs, SqL.of (((vw_in (m := .S)).at h1))⟩, q _ H1 [(.ref a, .lst l)] e ((I.mono e).addEx fun q hq => by
    rw [List.mem_singleton.mp hq]
    exact z) fun O' H' ht hp => ?_⟩
  obtain ⟨a', ys, e', h3, h4⟩ := is_lst.mp (hp _ (List.mem_singleton.mpr rfl))
  cases e'
  have h5 := (hm_some.mp h3).2
  have hl := h4.length
  refine ⟨fun i hi => ⟨ys, ys[i]'(by omega), SqL.of h5, List.getElem?_eq_getElem (by omega)⟩, ⟨ys, SqL.of h5, by omega⟩, fun i x H'' hi y => ?_⟩
  obtain ⟨rfl, y2⟩ := y
  obtain ⟨d, h6, h7⟩ := h4.getV (y2 _ (SqL.of h5))
  exact ⟨Ex.refl _, d, h6, h7.mono ex_hd⟩
theorem it_tup (h : Ev K .S te ds (.tup l)) : ItD K (iTup K te) ds l := fun He ex O H σ I R q => h He ex O H σ I _ fun v H1 e z => by
  obtain ⟨a, xs, rfl, h1, h2⟩ := is_tup.mp z
  refine ⟨a, rfl, ⟨xs, SqT.of (((vw_in (m := .S)).at h1))⟩, q _ H1 [(.ref a, .tup l)] e ((I.mono e).addEx fun q hq => by
    rw [List.mem_singleton.mp hq]
    exact z) fun O' H' ht hp => ?_⟩
  obtain ⟨a', ys, e', h3, h4⟩ := is_tup.mp (hp _ (List.mem_singleton.mpr rfl))
  cases e'
  have h5 := (hm_some.mp h3).2
  have hl := h4.length
  refine ⟨fun i hi => ⟨ys, ys[i]'(by omega), SqT.of h5, List.getElem?_eq_getElem (by omega)⟩, ⟨ys, SqT.of h5, by omega⟩, fun i x H'' hi y => ?_⟩
  obtain ⟨rfl, y2⟩ := y
  obtain ⟨d, h6, h7⟩ := h4.getV (y2 _ (SqT.of h5))
  exact ⟨Ex.refl _, d, h6, h7⟩
/-- the numbers from lo, n of them -/
def rngD (lo : Int) (n : Nat) : List D := (List.range n).map fun (k : Nat) => .int (lo + (k : Int))
theorem rngD_len (lo : Int) (n : Nat) : (rngD lo n).length = n := by
  unfold rngD
  rw [List.length_map, List.length_range]
theorem rngD_get {lo : Int} {n k : Nat} (h : k < n) : (rngD lo n)[k]? = some (.int (lo + (k : Int))) := by
  unfold rngD
  rw [List.getElem?_map, List.getElem?_range h] <;> rfl
theorem walk_rng (lo : Int) (n : Nat) : WalkD K (Itr lo n) (rngD lo n) [] := fun O H _ _ => by
  rw [rngD_len]
  refine ⟨fun i hi => hi, Nat.le_refl _, fun i x H' hi y => ?_⟩
  obtain ⟨rfl, rfl⟩ := y
  exact ⟨Ex.refl _, _, rngD_get hi, is_int.mpr rfl⟩
theorem it_range1 (h : Ev K .I te ds (.int i)) (h1 : -100000 ≤ i) (h2 : i ≤ 100000) : ItD K (iRng1 (tCons te tNil)) ds (rngD 0 i.toNat) := fun He ex O H σ I R q =>
  h He ex O H σ I _ fun v H1 e z => ⟨i, by rw [is_int.mp z], by omega, by omega, q _ H1 [] e (I.mono e) (walk_rng 0 i.toNat)⟩
theorem it_range2 (ha : Ev K .I ta ds (.int i)) (hb : Ev K .I tb ds (.int j)) (h : -100000 ≤ i ∧ i ≤ 100000 ∧ -100000 ≤ j ∧ j ≤ 100000) : ItD K (iRng2 (tCons ta (tCons tb tNil))) ds (rngD i (j - i).toNat) := fun He ex O H σ I R q =>
  ha.two hb I fun x y H1 e z1 z2 => ⟨i, j, by rw [is_int.mp z1, is_int.mp z2], ⟨by omega, by omega, by omega, by omega⟩, q _ H1 [] e (I.mono e) (walk_rng i (j - i).toNat)⟩
/-- lo, lo + c, .. -/
def stpD (lo c : Int) (n : Nat) : List D := (List.range n).map fun (k : Nat) => .int (lo + (k : Int) * c)
theorem stpD_len (lo c : Int) (n : Nat) : (stpD lo c n).length = n := by
  unfold stpD
  rw [List.length_map, List.length_range]
theorem stpD_get {lo c : Int} {n k : Nat} (h : k < n) : (stpD lo c n)[k]? = some (.int (lo + (k : Int) * c)) := by
  unfold stpD
  rw [List.getElem?_map, List.getElem?_range h] <;> rfl
theorem walk_stp (lo c : Int) (n : Nat) : WalkD K (Itc lo c n) (stpD lo c n) [] := fun O H _ _ => by
  rw [stpD_len]
  refine ⟨fun i hi => hi, Nat.le_refl _, fun i x H' hi y => ?_⟩
  obtain ⟨rfl, rfl⟩ := y
  exact ⟨Ex.refl _, _, stpD_get hi, is_int.mpr rfl⟩
theorem it_range3 {c : Int} {n : Nat} (ha : Ev K .I ta ds (.int i)) (hb : Ev K .I tb ds (.int j)) (hc : Ev K .I tc ds (.int c)) (h : RgC i j c n) : ItD K (iRng3 (tCons ta (tCons tb (tCons tc tNil)))) ds (stpD i c n) := fun He ex O H σ I R q =>
  ha He ex O H σ I _ fun x H1 e1 z1 => hb He ex O H1 σ (I.mono e1) _ fun y H2 e2 z2 => hc He ex O H2 σ (I.mono (e1.trans e2)) _ fun w H3 e3 z3 =>
    ⟨i, j, c, n, by rw [is_int.mp z1, is_int.mp z2, is_int.mp z3], h, q _ H3 [] ((e1.trans e2).trans e3) (I.mono ((e1.trans e2).trans e3)) (walk_stp i c n)⟩
/-- the items with their places -/
def enD (l : List D) : List D := (List.range l.length).map fun (k : Nat) => .tup [.int (k : Int), l.getD k .non]
theorem enD_len (l : List D) : (enD l).length = l.length := by
  unfold enD
  rw [List.length_map, List.length_range]
theorem enD_get {k : Nat} (h : l[k]? = some d) : (enD l)[k]? = some (.tup [.int (k : Int), d]) := by
  have hk := (List.getElem?_eq_some_iff.mp h).1
  unfold enD
  rw [List.getElem?_map, List.getElem?_range hk]
  simp only [Option.map_some, List.getD_eq_getElem?_getD, h, Option.getD_some]
theorem it_enum (h : Ev K .S te ds (.lst l)) : ItD K (iEnum K (tCons te tNil)) ds (enD l) := fun He ex O H σ I R q => h He ex O H σ I _ fun v H1 e z => by
  obtain ⟨a, xs, rfl, h1, h2⟩ := is_lst.mp z
  refine ⟨a, xs, rfl, SqL.of (((vw_in (m := .S)).at h1)), q _ H1 [(.ref a, .lst l)] e ((I.mono e).addEx fun q hq => by
    rw [List.mem_singleton.mp hq]
    exact z) fun O' H' ht hp => ?_⟩
  obtain ⟨a', ys, e', h3, h4⟩ := is_lst.mp (hp _ (List.mem_singleton.mpr rfl))
  cases e'
  have h5 := (hm_some.mp h3).2
  have hl := h4.length
  rw [enD_len]
  refine ⟨fun i hi => ⟨ys, ys[i]'(by omega), SqL.of h5, List.getElem?_eq_getElem (by omega)⟩, ⟨ys, SqL.of h5, by omega⟩, fun i x H'' hi y => ?_⟩
  obtain ⟨T, y1, rfl, nT, rfl, y2⟩ := y
  obtain ⟨d, h6, h7⟩ := h4.getV (y2 _ (SqL.of h5))
  refine ⟨Ex.new nT, _, enD_get h6, is_tup.mpr ⟨T, _, rfl, hm_some.mpr ⟨fun z => ?_, upd_same⟩, IsL.cons (is_int.mpr rfl) (IsL.cons ((h7.mono ex_hd).mono (Ex.hm (Ex.new nT).v)) IsL.nil)⟩⟩
  obtain ⟨o, ho⟩ := ht _ z
  rw [nT] at ho
  cases ho
/-- two lists side by side -/
def zpD (l l' : List D) : List D := (List.range (min l.length l'.length)).map fun (k : Nat) => .tup [l.getD k .non, l'.getD k .non]
theorem zpD_len (l l' : List D) : (zpD l l').length = min l.length l'.length := by
  unfold zpD
  rw [List.length_map, List.length_range]
theorem zpD_get {k : Nat} (h : l1[k]? = some d) (h' : l2[k]? = some d') : (zpD l1 l2)[k]? = some (.tup [d, d']) := by
  have hk := (List.getElem?_eq_some_iff.mp h).1
  have hk' := (List.getElem?_eq_some_iff.mp h').1
  unfold zpD
  rw [List.getElem?_map, List.getElem?_range (by omega)]
  simp only [Option.map_some, List.getD_eq_getElem?_getD, h, h', Option.getD_some]
theorem it_zip (ha : Ev K .S ta ds (.lst l1)) (hb : Ev K .S tb ds (.lst l2)) : ItD K (iZip K (tCons ta (tCons tb tNil))) ds (zpD l1 l2) := fun He ex O H σ I R q => ha.two hb I fun x y H1 e z1 z2 => by
  obtain ⟨a, xs, rfl, h1, h2⟩ := is_lst.mp z1
  obtain ⟨c, ys, rfl, h3, h4⟩ := is_lst.mp z2
  refine ⟨a, c, xs, ys, rfl, SqL.of (((vw_in (m := .S)).at h1)), SqL.of (((vw_in (m := .S)).at h3)), q _ H1 [(.ref a, .lst l1), (.ref c, .lst l2)] e ((I.mono e).addEx fun q hq => by
    rcases List.mem_cons.mp hq with hq | hq
    · rw [hq]
      exact z1
    · rw [List.mem_singleton.mp hq]
      exact z2) fun O' H' ht hp => ?_⟩
  obtain ⟨a', xs', e', g3, g4⟩ := is_lst.mp (hp _ List.mem_cons_self)
  cases e'
  obtain ⟨c', ys', e', k3, k4⟩ := is_lst.mp (hp _ (List.mem_cons_of_mem _ (List.mem_singleton.mpr rfl)))
  cases e'
  have g5 := (hm_some.mp g3).2
  have k5 := (hm_some.mp k3).2
  have gl := g4.length
  have kl := k4.length
  rw [zpD_len]
  refine ⟨fun i hi => ⟨xs', ys', xs'[i]'(by omega), ys'[i]'(by omega), SqL.of g5, SqL.of k5, List.getElem?_eq_getElem (by omega), List.getElem?_eq_getElem (by omega)⟩, ⟨xs', ys', SqL.of g5, SqL.of k5, by omega⟩, fun i x H'' hi y => ?_⟩
  obtain ⟨T, y1, y2, rfl, nT, rfl, y3, y4⟩ := y
  obtain ⟨d, h6, h7⟩ := g4.getV (y3 _ (SqL.of g5))
  obtain ⟨d', h8, h9⟩ := k4.getV (y4 _ (SqL.of k5))
  refine ⟨Ex.new nT, _, zpD_get h6 h8, is_tup.mpr ⟨T, _, rfl, hm_some.mpr ⟨fun z => ?_, upd_same⟩, IsL.cons ((h7.mono ex_hd).mono (Ex.hm (Ex.new nT).v)) (IsL.cons ((h9.mono ex_hd).mono (Ex.hm (Ex.new nT).v)) IsL.nil)⟩⟩
  obtain ⟨o, ho⟩ := ht _ z
  rw [nT] at ho
  cases ho

/-! ### targets -/
def TgD (K : PySem.W.Frag) (g : TG) (d : D) (ds ds' : List Slot) : Prop :=
  ∀ He ex O H σ v, Env K He ex O H σ ds → Is K (Hm O H) d v → ∀ Q : L2.St → Hp → Prop, (∀ σ', Env K He ex O H σ' ds' → Q σ' H) → g v σ H Q
def TgsD (K : PySem.W.Frag) (g : TGs) (l : List D) (ds ds' : List Slot) : Prop :=
  ∀ He ex O H σ vs, Env K He ex O H σ ds → IsL K (Hm O H) l vs → ∀ Q : L2.St → Hp → Prop, (∀ σ', Env K He ex O H σ' ds' → Q σ' H) → g vs σ H Q
theorem tg_name {k : Nat} : TgD K (gName k) d ds (ds.set k (argS d)) := fun He ex O H σ v I h Q q => q _ (I.put (fits_arg h))
theorem tgs_nil : TgsD K gNil [] ds ds := fun He ex O H σ vs I h Q q => ⟨by simpa only [IsL] using h, q _ I⟩
theorem tgs_cons {g : TG} {gs : TGs} {ds1 : List Slot} (h1 : TgD K g d ds ds1) (h2 : TgsD K gs l ds1 ds') : TgsD K (gCons g gs) (d :: l) ds ds' := fun He ex O H σ vs I h Q q => by
  simp only [IsL] at h
  obtain ⟨v, r, rfl, z1, z2⟩ := h
  exact ⟨v, r, rfl, h1 He ex O H σ v I z1 _ fun σ' I' => h2 He ex O H σ' r I' z2 Q q⟩
theorem tg_tup {k : Nat} {gs : TGs} (h : TgsD K gs l ds ds') (hk : l.length = k) : TgD K (gTup K k gs) (.tup l) ds ds' := fun He ex O H σ v I z Q q => by
  obtain ⟨a, xs, rfl, h1, h2⟩ := is_tup.mp z
  exact ⟨a, xs, rfl, SqT.of (hm_some.mp h1).2, by rw [h2.length, hk], h He ex O H σ xs I h2 Q q⟩
/-- for a, b in .. -/
theorem tg_pair {k1 k2 : Nat} : TgD K (gTup K 2 (gCons (gName k1) (gCons (gName k2) gNil))) (.tup [d, d']) ds ((ds.set k1 (argS d)).set k2 (argS d')) :=
  tg_tup (tgs_cons tg_name (tgs_cons tg_name tgs_nil)) rfl

/-! ### comprehensions -/
def wipeD (ds : List Slot) : List Nat → List Slot
  | [] => ds
  | v :: vs => (wipeD ds vs).set v .no
theorem Env.wipe (I : Env K He ex O H σ ds) : ∀ vs : List Nat, Env K He ex O H (L2.wipe σ vs) (wipeD ds vs)
  | [] => I
  | v :: vs => (Env.wipe I vs).gone
/-- one turn: what it gives (none: nothing) -/
def TurnD (K : PySem.W.Frag) (g : TG) (tt : TT) (te : TE) (ds : List Slot) (d : D) (o : Option D) : Prop :=
  ∃ ds2 b, TgD K g d ds ds2 ∧ EvT K tt ds2 b ∧ match o with
    | some e => b = true ∧ Ev K .N te ds2 e
    | none => b = false
theorem upd_hd {p : Addr} {o : HO} : Vx (Hd p H) (upd H p o) := fun b o' h _ => by
  obtain ⟨h1, h2⟩ := hd_some.mp h
  rw [upd_ne h1]
  exact h2
theorem hd_upd {p : Addr} {o : HO} : Vx (Hd p H) (Hd p (upd H p o)) := fun b o' h _ => by
  obtain ⟨h1, h2⟩ := hd_some.mp h
  refine hd_some.mpr ⟨h1, ?_⟩
  rw [upd_ne h1]
  exact h2
/-- [e for target in iter if test] -/
theorem ev_lc {wi : TI} {g : TG} {tt : TT} {own : List Nat} {os : Nat → Option D} (hi : ItD K wi ds items) (hz : items.length ≤ 50000)
    (hw : ∀ σ σ2 : L2.St, ∀ v H Q, g v (L2.wipe σ own) H Q → g v (L2.wipe σ own) H fun σ2 H2 => L2.wipe σ2 own = L2.wipe σ own ∧ Q σ2 H2)
    (ht : ∀ i d, items[i]? = some d → TurnD K g tt te (wipeD ds own) d (os i)) : Ev K .N (tLc wi g tt te own) ds (.lst ((List.range items.length).filterMap os)) := fun He ex O H0 σ I Q q =>
  hi He ex O H0 σ I _ fun J H1 pins e1 I1 w => fun Dl hD => by
    have h0 : ∀ {P : Addr → Prop}, True := trivial
    have key : ∀ (i m : Nat) (Hc : Hp), (m = items.length - i ∧ i ≤ items.length ∧ Ex H1 Hc ∧ ∃ acc, Hc Dl = some (.lst acc) ∧ IsL K (Nw H1 (Hd Dl Hc)) ((List.range i).filterMap os) acc) →
        (J.stop i Hc ∧ Q (.ref Dl) Hc) ∨ (J.go i Hc ∧ ∃ Nx : Hp → Prop, (∀ H', Nx H' → ∃ m', m' < m ∧ (m' = items.length - (i + 1) ∧ i + 1 ≤ items.length ∧ Ex H1 H' ∧ ∃ acc, H' Dl = some (.lst acc) ∧ IsL K (Nw H1 (Hd Dl H')) ((List.range (i + 1)).filterMap os) acc)) ∧ ∀ x H', J.yld i Hc x H' → g x (L2.wipe σ own) H' fun σ2 H2 => L2.wipe σ2 own = L2.wipe σ own ∧ tt σ2 H2 fun b H3 =>
          if b = true then te σ2 H3 fun y H4 => ∃ acc, H4 Dl = some (.lst acc) ∧ acc.length < sizeLine ∧ Nx (upd H4 Dl (.lst (acc ++ [y]))) else Nx H3) := by
      rintro i m Hc ⟨rfl, hi, ea, acc, ha, hl⟩
      have Ic : Env K He (pins ++ ex) O Hc σ ds := I1.mono ea
      obtain ⟨wg, ws, wy⟩ := w O Hc Ic.thr fun q hq => Ic.xs q (List.mem_append_left _ hq)
      by_cases hlt : i < items.length
      · refine .inr ⟨wg i hlt, fun H' => Ex H1 H' ∧ ∃ acc, H' Dl = some (.lst acc) ∧ IsL K (Nw H1 (Hd Dl H')) ((List.range (i + 1)).filterMap os) acc, fun H' hN => ⟨_, by omega, rfl, hlt, hN⟩, fun x Hy hy => ?_⟩
        obtain ⟨ey, d, hd, zd⟩ := wy i x Hy hlt hy
        obtain ⟨ds2, b, hg, hb, hos⟩ := ht i d hd
        refine hw σ σ x Hy _ (hg He (pins ++ ex) O Hy (L2.wipe σ own) x ((Ic.mono ey).wipe own) zd _ fun σ2 I2 => ?_)
        refine hb He (pins ++ ex) O Hy σ2 I2 _ fun H3 e3 => ?_
        have h13 : Ex H1 H3 := ea.trans (ey.trans e3)
        have ha3 : H3 Dl = some (.lst acc) := e3.at (ey.at ha)
        have hl3 : IsL K (Nw H1 (Hd Dl H3)) ((List.range i).filterMap os) acc := hl.mono (Ex.nw (ExHd (ey.trans e3).v))
        have hlen : acc.length ≤ items.length := by
          rw [hl.length]
          exact Nat.le_trans (List.length_filterMap_le _ _) (by rw [List.length_range]; exact hi)
        cases ho : os i with
        | some e =>
          rw [ho] at hos
          obtain ⟨rfl, he⟩ := hos
          refine iteT (he He (pins ++ ex) O H3 σ2 (I2.mono e3) _ fun y H4 e4 z4 => ⟨acc, e4.at ha3, sz_lt (by omega), Ex.mut (h13.trans e4) hD (e4.at ha3), acc ++ [y], upd_same, ?_⟩)
          rw [List.range_succ, List.filterMap_append, show ([i] : List Nat).filterMap os = [e] by simp [ho]]
          refine IsL.append (hl3.mono (Ex.nw ((ExHd e4.v).trans hd_upd))) (IsL.cons (Is.mono (fun a o z _ => ?_) z4) IsL.nil)
          obtain ⟨z1, z2⟩ := nw_some.mp z
          have hne : a ≠ Dl := fun y => by
            rw [y, ha3] at z1
            cases z1
          refine nw_some.mpr ⟨?_, hd_some.mpr ⟨hne, by rw [upd_ne hne]; exact z2⟩⟩
          exact Ex.back h13 z1
        | none =>
          rw [ho] at hos
          subst hos
          refine iteF ⟨h13, acc, ha3, ?_⟩
          rw [List.range_succ, List.filterMap_append, show ([i] : List Nat).filterMap os = [] by simp [ho], List.append_nil]
          exact hl3
      · have ei : i = items.length := by omega
        subst ei
        refine .inl ⟨ws, q _ Hc (e1.trans ea) ?_⟩
        have hD0 : H0 Dl = none := Ex.back e1 hD
        refine is_lst.mpr ⟨Dl, acc, rfl, nw_some.mpr ⟨hD0, ha⟩, hl.mono fun a o z _ => ?_⟩
        obtain ⟨z1, z2⟩ := nw_some.mp z
        obtain ⟨z3, z4⟩ := hd_some.mp z2
        exact hd_some.mpr ⟨z3, nw_some.mpr ⟨Ex.back e1 z1, z4⟩⟩
    refine ⟨fun i m Hc => m = items.length - i ∧ i ≤ items.length ∧ Ex H1 Hc ∧ ∃ acc, Hc Dl = some (.lst acc) ∧ IsL K (Nw H1 (Hd Dl Hc)) ((List.range i).filterMap os) acc, ⟨_, rfl, Nat.zero_le _, Ex.new hD, [], upd_same, IsL.nil⟩, key⟩
end
end Px

namespace Px
open PySem PySem.Spec PyProof.Rows L2
variable [Tb]

/-! ### targets within a comprehension -/
theorem set_at {α : Type} (l : List α) (v : Nat) (x : α) : (l.set v x)[v]? = (l[v]?).map fun _ => x := by
  by_cases hl : v < l.length
  · rw [List.getElem?_set_self hl, List.getElem?_eq_getElem hl] <;> rfl
  · rw [List.set_eq_of_length_le (by omega), List.getElem?_eq_none (by omega)] <;> rfl
theorem wipe_getD (σ : L2.St) : ∀ (own : List Nat) (i : Nat), (L2.wipe σ own)[i]? = if i ∈ own then (σ[i]?).map fun _ => none else σ[i]?
  | [], i => by simp [L2.wipe]
  | v :: vs, i => by
    unfold L2.wipe
    have ih := wipe_getD σ vs i
    by_cases hv : v = i
    · subst hv
      rw [if_pos List.mem_cons_self, set_at, ih]
      by_cases h : v ∈ vs
      · rw [if_pos h]
        cases σ[v]? <;> rfl
      · rw [if_neg h]
    · rw [List.getElem?_set_ne hv, ih]
      by_cases h2 : i ∈ vs
      · rw [if_pos h2, if_pos (List.mem_cons_of_mem _ h2)]
      · rw [if_neg h2, if_neg (fun z => (List.mem_cons.mp z).elim (fun y => hv y.symm) h2)]
theorem wipe_set {σ : L2.St} {own : List Nat} {j : Nat} {x : Option V} (h : j ∈ own) : L2.wipe (σ.set j x) own = L2.wipe σ own := by
  refine List.ext_getElem? fun i => ?_
  rw [wipe_getD, wipe_getD]
  by_cases hi : i ∈ own
  · rw [if_pos hi, if_pos hi]
    by_cases e : j = i
    · subst e
      rw [set_at]
      cases σ[j]? <;> rfl
    · rw [List.getElem?_set_ne e]
  · have hne : j ≠ i := fun e => hi (by rw [← e]; exact h)
    rw [if_neg hi, if_neg hi, List.getElem?_set_ne hne]
theorem wipe_wipe {σ : L2.St} {own : List Nat} : L2.wipe (L2.wipe σ own) own = L2.wipe σ own := by
  refine List.ext_getElem? fun i => ?_
  rw [wipe_getD, wipe_getD]
  by_cases hi : i ∈ own
  · rw [if_pos hi, if_pos hi]
    cases σ[i]? <;> rfl
  · rw [if_neg hi, if_neg hi]
/-- the target stores among own -/
def Wg (g : TG) (own : List Nat) : Prop := ∀ (σ0 σ : L2.St) v H Q, L2.wipe σ own = L2.wipe σ0 own → g v σ H Q → g v σ H fun σ2 H2 => L2.wipe σ2 own = L2.wipe σ0 own ∧ Q σ2 H2
def Wgs (g : TGs) (own : List Nat) : Prop := ∀ (σ0 σ : L2.St) vs H Q, L2.wipe σ own = L2.wipe σ0 own → g vs σ H Q → g vs σ H fun σ2 H2 => L2.wipe σ2 own = L2.wipe σ0 own ∧ Q σ2 H2
theorem wg_name {own : List Nat} {j : Nat} (h : j ∈ own) : Wg (gName j) own := fun σ0 σ v H Q e q => ⟨(wipe_set h).trans e, q⟩
theorem wgs_nil {own : List Nat} : Wgs gNil own := fun σ0 σ vs H Q e q => ⟨q.1, e, q.2⟩
/-- monotone in what follows -/
def Mg (g : TG) : Prop := ∀ v σ H (Q Q' : L2.St → Hp → Prop), (∀ a b, Q a b → Q' a b) → g v σ H Q → g v σ H Q'
def Mgs (g : TGs) : Prop := ∀ v σ H (Q Q' : L2.St → Hp → Prop), (∀ a b, Q a b → Q' a b) → g v σ H Q → g v σ H Q'
theorem mg_name {j : Nat} : Mg (gName j) := fun v σ H Q Q' h q => h _ _ q
theorem mgs_nil : Mgs gNil := fun v σ H Q Q' h q => ⟨q.1, h _ _ q.2⟩
theorem mgs_cons {g : TG} {gs : TGs} (h : Mg g) (hs : Mgs gs) : Mgs (gCons g gs) := fun vs σ H Q Q' hq ⟨v, r, e, q⟩ => ⟨v, r, e, h _ _ _ _ _ (fun _ _ z => hs _ _ _ _ _ hq z) q⟩
theorem wgs_cons {own : List Nat} {g : TG} {gs : TGs} (m : Mg g) (h : Wg g own) (hs : Wgs gs own) : Wgs (gCons g gs) own := fun σ0 σ vs H Q e ⟨v, r, ev, q⟩ =>
  ⟨v, r, ev, m v σ H _ _ (fun σ1 H1 ⟨z1, z2⟩ => hs σ0 σ1 r H1 Q z1 z2) (h σ0 σ v H _ e q)⟩
theorem wg_tup {own : List Nat} {K : PySem.W.Frag} {n : Nat} {gs : TGs} (hs : Wgs gs own) : Wg (gTup K n gs) own := fun σ0 σ v H Q e ⟨a, xs, h1, h2, h3, q⟩ => ⟨a, xs, h1, h2, h3, hs σ0 σ xs H Q e q⟩
theorem wg_pair {own : List Nat} {K : PySem.W.Frag} {j k : Nat} (h1 : j ∈ own) (h2 : k ∈ own) : Wg (gTup K 2 (gCons (gName j) (gCons (gName k) gNil))) own :=
  wg_tup (wgs_cons mg_name (wg_name h1) (wgs_cons mg_name (wg_name h2) wgs_nil))
section
variable {K : PySem.W.Frag} {He H H1 H2 H' : Hp} {ex : List (V × D)} {O O1 O2 : List Addr} {σ : L2.St} {ds ds' : List Slot} {d d' e1 e2 : D} {l l1 l2 items : List D} {v : V} {vs : List V}
variable {m m1 m2 : Md} {te ta tb tx tc : TE} {t u : TT} {r : R2} {i j n : Int} {b c : Bool} {ns ms : List Int} {tA : TA} {wi : TI} {g : TG} {tt : TT} {own : List Nat}
theorem ev_lc' {os : Nat → Option D} (hi : ItD K wi ds items) (hz : items.length ≤ 50000) (hw : Wg g own) (ht : ∀ i d, items[i]? = some d → TurnD K g tt te (wipeD ds own) d (os i)) :
    Ev K .N (tLc wi g tt te own) ds (.lst ((List.range items.length).filterMap os)) :=
  ev_lc hi hz (fun σ σ2 v H Q q => by
    have z := hw σ (L2.wipe σ own) v H Q wipe_wipe q
    exact z) ht
/-- without a test: each turn gives f of its place -/
theorem ev_map {f : Nat → D} (hi : ItD K wi ds items) (hz : items.length ≤ 50000) (hw : Wg g own) (ht : ∀ i d, items[i]? = some d → ∃ ds2, TgD K g d (wipeD ds own) ds2 ∧ Ev K .N te ds2 (f i)) :
    Ev K .N (tLc wi g tYes te own) ds (.lst ((List.range items.length).map f)) := by
  have h := ev_lc' (te := te) (tt := tYes) (os := fun i => some (f i)) hi hz hw fun i d e => by
    obtain ⟨ds2, h1, h2⟩ := ht i d e
    exact ⟨ds2, true, h1, et_yes, rfl, h2⟩
  refine h.is ?_
  congr 1
  exact congrFun List.filterMap_eq_map _
/-- over n numbers from lo -/
theorem ev_mapR {f : Nat → D} {lo : Int} {n k : Nat} (hi : ItD K wi ds (rngD lo n)) (hz : n ≤ 50000) (hk : k ∈ own) (ht : ∀ i, i < n → Ev K .N te ((wipeD ds own).set k (.nw (.int (lo + (i : Int))))) (f i)) :
    Ev K .N (tLc wi (gName k) tYes te own) ds (.lst ((List.range n).map f)) := by
  have h := ev_map (te := te) (f := f) hi (by rw [rngD_len]; exact hz) (wg_name hk) fun i d e => by
    have hl := (List.getElem?_eq_some_iff.mp e).1
    rw [rngD_len] at hl
    rw [rngD_get hl] at e
    cases e
    exact ⟨_, tg_name, ht i hl⟩
  rw [rngD_len] at h
  exact h
/-- .. ints of them -/
theorem ev_mapRI {f : Nat → Int} {lo : Int} {n k : Nat} (hi : ItD K wi ds (rngD lo n)) (hz : n ≤ 50000) (hk : k ∈ own) (ht : ∀ i, i < n → Ev K .I te ((wipeD ds own).set k (.nw (.int (lo + (i : Int))))) (.int (f i))) :
    Ev K .N (tLc wi (gName k) tYes te own) ds (li ((List.range n).map f)) :=
  (ev_mapR (f := fun i => .int (f i)) hi hz hk fun i h => Ev.fl rfl (ht i h) .N).is (by rw [li, List.map_map] <;> rfl)
/-- over a list's items -/
theorem ev_mapL {f : Nat → D} {k : Nat} (hi : ItD K wi ds items) (hz : items.length ≤ 50000) (hk : k ∈ own) (ht : ∀ i d, items[i]? = some d → Ev K .N te ((wipeD ds own).set k (argS d)) (f i)) :
    Ev K .N (tLc wi (gName k) tYes te own) ds (.lst ((List.range items.length).map f)) := ev_map hi hz (wg_name hk) fun i d e => ⟨_, tg_name, ht i d e⟩
theorem getD_of {ns : List Int} {k : Nat} {x : Int} (h : ns[k]? = some x) : ns.getD k 0 = x := by
  rw [List.getD_eq_getElem?_getD, h] <;> rfl
theorem map_int_get {ns : List Int} {i : Nat} {d : D} (h : (ns.map D.int)[i]? = some d) : i < ns.length ∧ d = .int (ns.getD i 0) := by
  have hl := (List.getElem?_eq_some_iff.mp h).1
  rw [List.length_map] at hl
  rw [List.getElem?_map, getD_some hl] at h
  exact ⟨hl, (Option.some.inj h).symm⟩
theorem map_range_get {α : Type} (f : Int → α) : ∀ ns : List Int, (List.range ns.length).map (fun i => f (ns.getD i 0)) = ns.map f := fun ns => by
  refine List.ext_getElem? fun i => ?_
  rw [List.getElem?_map, List.getElem?_map]
  by_cases h : i < ns.length
  · rw [List.getElem?_range h, getD_some h] <;> rfl
  · rw [List.getElem?_eq_none (by rw [List.length_range]; omega), List.getElem?_eq_none (by omega)] <;> rfl
/-- over a list of ints: f of each -/
theorem ev_mapI {f : Int → D} {k : Nat} (hi : ItD K wi ds (ns.map D.int)) (hz : ns.length ≤ 50000) (hk : k ∈ own) (ht : ∀ x, x ∈ ns → Ev K .N te ((wipeD ds own).set k (.nw (.int x))) (f x)) :
    Ev K .N (tLc wi (gName k) tYes te own) ds (.lst (ns.map f)) := by
  have h := ev_mapL (te := te) (own := own) (k := k) (f := fun i => f (ns.getD i 0)) hi (by rw [List.length_map]; exact hz) hk fun i d e => by
    obtain ⟨h1, rfl⟩ := map_int_get e
    exact ht _ (List.mem_of_getElem? (getD_some h1))
  rw [List.length_map] at h
  rw [map_range_get f ns] at h
  exact h
theorem ev_mapII {f : Int → Int} {k : Nat} (hi : ItD K wi ds (ns.map D.int)) (hz : ns.length ≤ 50000) (hk : k ∈ own) (ht : ∀ x, x ∈ ns → Ev K .I te ((wipeD ds own).set k (.nw (.int x))) (.int (f x))) :
    Ev K .N (tLc wi (gName k) tYes te own) ds (li (ns.map f)) :=
  (ev_mapI (f := fun x => .int (f x)) hi hz hk fun i h => Ev.fl rfl (ht i h) .N).is (by rw [li, List.map_map] <;> rfl)
theorem ev_mapIB {f : Int → Bool} {k : Nat} (hi : ItD K wi ds (ns.map D.int)) (hz : ns.length ≤ 50000) (hk : k ∈ own) (ht : ∀ x, x ∈ ns → Ev K .I te ((wipeD ds own).set k (.nw (.int x))) (.bl (f x))) :
    Ev K .N (tLc wi (gName k) tYes te own) ds (.lst ((ns.map f).map D.bl)) :=
  (ev_mapI (f := fun x => .bl (f x)) hi hz hk fun i h => Ev.fl rfl (ht i h) .N).is (by rw [List.map_map] <;> rfl)
/-- over two lists of ints side by side -/
theorem ev_mapZ {f : Int → Int → Int} {k1 k2 : Nat} (hi : ItD K wi ds (zpD (ns.map D.int) (ms.map D.int))) (hz : ns.length ≤ 50000) (hk1 : k1 ∈ own) (hk2 : k2 ∈ own)
    (ht : ∀ x y, x ∈ ns → y ∈ ms → Ev K .I te (((wipeD ds own).set k1 (.nw (.int x))).set k2 (.nw (.int y))) (.int (f x y))) :
    Ev K .N (tLc wi (gTup K 2 (gCons (gName k1) (gCons (gName k2) gNil))) tYes te own) ds (li (List.zipWith f ns ms)) := by
  have h := ev_map (te := te) (own := own) (f := fun i => .int (f (ns.getD i 0) (ms.getD i 0))) hi (by rw [zpD_len, List.length_map]; omega) (wg_pair hk1 hk2) fun i d e => by
    have hl := (List.getElem?_eq_some_iff.mp e).1
    rw [zpD_len, List.length_map, List.length_map] at hl
    have g1 : (ns.map D.int)[i]? = some (.int (ns.getD i 0)) := by
      rw [List.getElem?_map, getD_some (by omega)] <;> rfl
    have g2 : (ms.map D.int)[i]? = some (.int (ms.getD i 0)) := by
      rw [List.getElem?_map, getD_some (by omega)] <;> rfl
    rw [zpD_get g1 g2] at e
    cases e
    exact ⟨_, tg_pair, Ev.fl rfl (ht _ _ (List.mem_of_getElem? (getD_some (by omega))) (List.mem_of_getElem? (getD_some (by omega)))) .N⟩
  refine h.is ?_
  rw [zpD_len, List.length_map, List.length_map, li]
  congr 1
  refine List.ext_getElem? fun i => ?_
  rw [List.getElem?_map, List.getElem?_map, List.getElem?_zipWith]
  by_cases hi : i < min ns.length ms.length
  · rw [List.getElem?_range hi, getD_some (show i < ns.length by omega), getD_some (show i < ms.length by omega)] <;> rfl
  · rw [List.getElem?_eq_none (by rw [List.length_range]; omega)]
    by_cases h1 : i < ns.length
    · rw [getD_some h1, List.getElem?_eq_none (show ms.length ≤ i by omega)] <;> rfl
    · rw [List.getElem?_eq_none (show ns.length ≤ i by omega)] <;> rfl
/-- over a list of ints with their places -/
theorem ev_mapE {f : Nat → Int → Int} {k1 k2 : Nat} (hi : ItD K wi ds (enD (ns.map D.int))) (hz : ns.length ≤ 50000) (hk1 : k1 ∈ own) (hk2 : k2 ∈ own)
    (ht : ∀ i, i < ns.length → Ev K .I te (((wipeD ds own).set k1 (.nw (.int (i : Int)))).set k2 (.nw (.int (ns.getD i 0)))) (.int (f i (ns.getD i 0)))) :
    Ev K .N (tLc wi (gTup K 2 (gCons (gName k1) (gCons (gName k2) gNil))) tYes te own) ds (li ((List.range ns.length).map fun i => f i (ns.getD i 0))) := by
  have h := ev_map (te := te) (own := own) (f := fun i => .int (f i (ns.getD i 0))) hi (by rw [enD_len, List.length_map]; omega) (wg_pair hk1 hk2) fun i d e => by
    have hl := (List.getElem?_eq_some_iff.mp e).1
    rw [enD_len, List.length_map] at hl
    have g1 : (ns.map D.int)[i]? = some (.int (ns.getD i 0)) := by
      rw [List.getElem?_map, getD_some (by omega)] <;> rfl
    rw [enD_get g1] at e
    cases e
    exact ⟨_, tg_pair, Ev.fl rfl (ht i hl) .N⟩
  refine h.is ?_
  rw [enD_len, List.length_map, li, List.map_map] <;> rfl
end

/-! ### statements -/
structure Post where
  nx : List Slot → Prop
  rt : D → Prop := fun _ => False
  bk : List Slot → Prop := fun _ => False
  ct : List Slot → Prop := fun _ => False
  xc : Addr → List Slot → Prop := fun _ _ => False
structure Cn (K : PySem.W.Frag) (W : WX) (He : Hp) (ex : List (V × D)) (P : Post) (D : Ends) : Prop where
  nx : ∀ O H σ ds, Env K He ex O H σ ds → P.nx ds → D.nx σ H
  rt : ∀ v H d, Ex He H → Is K (Nw He H) d v → P.rt d → D.rt v H
  bk : ∀ O H σ ds, Env K He ex O H σ ds → P.bk ds → D.bk σ H
  ct : ∀ O H σ ds, Env K He ex O H σ ds → P.ct ds → D.ct σ H
  xc : ∀ C O H σ ds, Env K He ex O H σ ds → P.xc C ds → W (.ref C) none σ H
def SW (K : PySem.W.Frag) (W : WX) (t : TS) (ds : List Slot) (P : Post) : Prop :=
  ∀ He ex O H σ, Env K He ex O H σ ds → ∀ D : Ends, Cn K W He ex P D → t D σ H
section
variable {K : PySem.W.Frag} {W : WX} {He H H1 H2 H' : Hp} {ex : List (V × D)} {O O1 O2 : List Addr} {σ : L2.St} {ds ds' : List Slot} {d d' e1 e2 : D} {l l1 l2 items : List D} {v : V} {vs : List V} {P P' : Post}
variable {m m1 m2 : Md} {te ta tb tx tc : TE} {t u : TS} {tt : TT} {r : R2} {i j n : Int} {b c : Bool} {ns ms : List Int} {tA : TA} {wi : TI} {g : TG} {own : List Nat} {s s1 s2 s3 : Slot}
theorem q_nx (h : P.nx ds) : SW K W tNext ds P := fun He ex O H σ I D c => c.nx _ _ _ _ I h
theorem q_mono (h : SW K W t ds P) (h1 : ∀ ds, P.nx ds → P'.nx ds) (h2 : ∀ d, P.rt d → P'.rt d) (h3 : ∀ ds, P.bk ds → P'.bk ds) (h4 : ∀ ds, P.ct ds → P'.ct ds) (h5 : ∀ C ds, P.xc C ds → P'.xc C ds) : SW K W t ds P' :=
  fun He ex O H σ I D c => h He ex O H σ I D ⟨fun _ _ _ _ I z => c.nx _ _ _ _ I (h1 _ z), fun _ _ _ e z y => c.rt _ _ _ e z (h2 _ y), fun _ _ _ _ I z => c.bk _ _ _ _ I (h3 _ z), fun _ _ _ _ I z => c.ct _ _ _ _ I (h4 _ z), fun _ _ _ _ _ I z => c.xc _ _ _ _ _ I (h5 _ _ z)⟩
theorem Cn.seq (c : Cn K W He ex P D0) (u : TS) : Cn K W He ex { P with nx := fun ds => SW K W u ds P } { D0 with nx := u D0 } :=
  ⟨fun O H σ ds I h => h He ex O H σ I D0 c, c.rt, c.bk, c.ct, c.xc⟩
/-- one after another -/
theorem q_seq (h : SW K W t ds { P with nx := fun ds => SW K W u ds P }) : SW K W (tSeq t u) ds P := fun He ex O H σ I D c => h He ex O H σ I _ (c.seq u)
theorem q_set {k : Nat} (h : Sto K te ds s) (q : SW K W u (ds.set k s) P) : SW K W (tSeq (tAsg te (gName k)) u) ds P := fun He ex O H σ I D c =>
  h.put I fun v O2 H2 g2 I2 => q He ex O2 H2 _ I2 D c
theorem held_set {k : Nat} {F F' : Addr → Prop} (hF : ∀ p, Held σ ds p → F p) (I : σ.length = ds.length) (hs : Fits K He O H F' s v) : ∀ p, Held (σ.set k (some v)) (ds.set k s) p → F p ∨ (isOw s = true ∧ v = .ref p) := fun p h => by
  rcases h with ⟨a, la, h1, h2⟩ | ⟨a, b, ns, h1⟩
  · rcases set_get h1 with ⟨rfl, e, hl⟩ | ⟨ne, h1⟩
    · subst e
      rw [List.getElem?_set_self (by rw [I]; exact hl)] at h2
      exact .inr ⟨rfl, Option.some.inj (Option.some.inj h2)⟩
    · rw [List.getElem?_set_ne ne] at h2
      exact .inl (hF _ (.inl ⟨a, la, h1, h2⟩))
  · rcases set_get h1 with ⟨rfl, e, hl⟩ | ⟨ne, h1⟩
    · subst e
      exact hs.elim
    · exact .inl (hF _ (.inr ⟨a, b, ns, h1⟩))
/-- one list of values, name by name -/
theorem q_par {k1 k2 : Nat} (h : StA K tA ds [s1, s2]) (q : SW K W u ((ds.set k1 s1).set k2 s2) P) (hne : k1 ≠ k2) : SW K W (tSeq (tPar k1 k2 tA) u) ds P := fun He ex O H σ I D c =>
  h He ex O H σ I _ fun vs O2 H2 g2 I2 f => by
    obtain ⟨v, r, rfl, f1, w, r2, rfl, f2, rfl⟩ := f
    exact ⟨v, w, rfl, q He ex O2 H2 _ ((I2.put (f1.mono (held_old I))).put (f2.mono (held_set (held_old I) I.len f1))) D c⟩
theorem q_par3 {k1 k2 k3 : Nat} (h : StA K tA ds [s1, s2, s3]) (q : SW K W u (((ds.set k1 s1).set k2 s2).set k3 s3) P) : SW K W (tSeq (tPar3 k1 k2 k3 tA) u) ds P := fun He ex O H σ I D c =>
  h He ex O H σ I _ fun vs O2 H2 g2 I2 f => by
    obtain ⟨v, r, rfl, f1, w, r2, rfl, f2, y, r3, rfl, f3, rfl⟩ := f
    have a1 := held_old I
    have a2 := held_set (k := k1) (v := v) (s := s1) a1 I.len f1
    have a3 := held_set (k := k2) (v := w) (s := s2) a2 (by rw [List.length_set, List.length_set]; exact I.len) f2
    exact ⟨v, w, y, rfl, q He ex O2 H2 _ (((I2.put (f1.mono a1)).put (f2.mono a2)).put (f3.mono a3)) D c⟩
/-- names from a new tuple: the values stored one by one -/
def PutL (K : PySem.W.Frag) : TGs → List Slot → List Slot → List Slot → Prop := fun gs ss ds ds' =>
  ∀ He ex O H σ vs (F : Addr → Prop), Env K He ex O H σ ds → (∀ p, Held σ ds p → F p) → FitsL K He O H F ss vs → ∀ Q : L2.St → Hp → Prop, (∀ σ', Env K He ex O H σ' ds' → Q σ' H) → gs vs σ H Q
theorem put_nil : PutL K gNil [] ds ds := fun He ex O H σ vs F I hF f Q q => ⟨f, q σ I⟩
theorem put_cons {k : Nat} {gs : TGs} {ss : List Slot} (h : PutL K gs ss (ds.set k s) ds') : PutL K (gCons (gName k) gs) (s :: ss) ds ds' := fun He ex O H σ vs F I hF f Q q => by
  obtain ⟨v, r, rfl, f1, f2⟩ := f
  exact ⟨v, r, rfl, h He ex O H _ r _ (I.put (f1.mono hF)) (held_set hF I.len f1) f2 Q q⟩
theorem fitsL_len : ∀ {F : Addr → Prop} {ss : List Slot} {vs : List V}, FitsL K He O H F ss vs → vs.length = ss.length
  | _, [], _, h => by
    have h : _ = _ := h
    rw [h]
    rfl
  | _, s :: ss, _, h => by
    obtain ⟨v, r, rfl, _, h2⟩ := h
    rw [List.length_cons, List.length_cons, fitsL_len h2]
theorem q_tup {k : Nat} {gs : TGs} {ss : List Slot} (h : StA K tA ds ss) (hp : PutL K gs ss ds ds') (hk : ss.length = k) (hz : k ≤ 1000) (q : SW K W u ds' P) : SW K W (tSeq (tAsg (tTup tA) (gTup K k gs)) u) ds P := fun He ex O H σ I D c =>
  h He ex O H σ I _ fun vs O2 H2 g2 I2 f => by
    have hl := fitsL_len f
    refine ⟨by rw [hl, hk]; exact sz_of (by omega), fun p hp0 => ⟨p, vs, rfl, SqT.of upd_same, by rw [hl, hk], ?_⟩⟩
    exact hp He ex O2 _ σ vs _ (I2.mono (Ex.new hp0)) (held_old I) (f.grow (Grow.of (Ex.new hp0))) _ fun σ' I' => q He ex O2 _ σ' I' D c
/-- names from a tuple that stands -/
theorem q_unpack {k : Nat} {gs : TGs} (h : Ev K .S te ds (.tup l)) (ht : TgsD K gs l ds ds') (hk : l.length = k) (q : SW K W u ds' P) : SW K W (tSeq (tAsg te (gTup K k gs)) u) ds P := fun He ex O H σ I D c =>
  h He ex O H σ I _ fun v H2 e z => by
    obtain ⟨a, xs, rfl, h1, h2⟩ := is_tup.mp z
    exact ⟨a, xs, rfl, SqT.of (hm_some.mp h1).2, by rw [h2.length, hk], ht He ex O H2 σ xs (I.mono e) h2 _ fun σ' I' => q He ex O H2 σ' I' D c⟩
theorem q_drop (h : Ev K .I te ds d) (q : SW K W u ds P) : SW K W (tSeq (tDrop te) u) ds P := fun He ex O H σ I D c => h He ex O H σ I _ fun v H2 e z => q He ex O H2 σ (I.mono e) D c
theorem q_ret (h : Ev K .M te ds d) (q : P.rt d) : SW K W (tSeq (tRet te) u) ds P := fun He ex O H σ I D c => h He ex O H σ I _ fun v H2 e z =>
  c.rt v H2 d (I.ext.trans e) (z.mono fun b o y _ => by
    obtain ⟨y1, y2, y3⟩ := hn_some.mp y
    exact nw_some.mpr ⟨y2, y3⟩) q
/-- return x, x an owned list -/
theorem q_retO {k : Nat} (h : ds[k]? = some (.ow l)) (q : P.rt (.lst l)) : SW K W (tSeq (tRet (tVar k)) u) ds P := fun He ex O H σ I D c => by
  obtain ⟨p, vs, h1, h2, h3, h4⟩ := I.ow k l h
  refine ⟨_, h1, c.rt _ H _ I.ext (is_lst.mpr ⟨p, vs, rfl, nw_some.mpr ⟨I.fr p h2, h3⟩, h4.mono fun b o y _ => ?_⟩) q⟩
  obtain ⟨y1, y2, y3⟩ := hn_some.mp y
  exact hd_some.mpr ⟨fun z => y1 (z ▸ h2), nw_some.mpr ⟨y2, y3⟩⟩
theorem q_if {t1 t2 : TS} (h : EvT K tt ds b) (h1 : b = true → SW K W t1 ds { P with nx := fun ds => SW K W u ds P }) (h2 : b = false → SW K W t2 ds { P with nx := fun ds => SW K W u ds P }) : SW K W (tSeq (tIfS tt t1 t2) u) ds P :=
  fun He ex O H σ I D c => h He ex O H σ I _ fun H2 e => by
    cases b with
    | true => exact iteT (h1 rfl He ex O H2 σ (I.mono e) _ (c.seq u))
    | false => exact iteF (h2 rfl He ex O H2 σ (I.mono e) _ (c.seq u))
/-- an if without else -/
theorem q_when {t1 : TS} (h : EvT K tt ds b) (h1 : b = true → SW K W t1 ds { P with nx := fun ds => SW K W u ds P }) (h2 : b = false → SW K W u ds P) : SW K W (tSeq (tIfS tt t1 tNext) u) ds P := q_if h h1 fun e => q_nx (h2 e)
/-- a test known false -/
theorem q_no {t1 : TS} (h : EvT K tt ds false) (q : SW K W u ds P) : SW K W (tSeq (tIfS tt t1 tNext) u) ds P := q_when h (fun e => nomatch e) fun _ => q
theorem q_yes {t1 t2 : TS} (h : EvT K tt ds true) (q : SW K W t1 ds { P with nx := fun ds => SW K W u ds P }) : SW K W (tSeq (tIfS tt t1 t2) u) ds P := q_if h (fun _ => q) fun e => nomatch e
theorem q_nol {t1 t2 : TS} (h : EvT K tt ds false) (q : SW K W t2 ds { P with nx := fun ds => SW K W u ds P }) : SW K W (tSeq (tIfS tt t1 t2) u) ds P := q_if h (fun e => nomatch e) fun _ => q
/-- the owned list at slot k is changed -/
theorem Env.write (I : Env K He ex O H σ ds) {k : Nat} (h : ds[k]? = some (.ow l)) {p : Addr} (hp : σ[k]? = some (some (.ref p))) (hl : IsL K (Hn He O H) l2 vs) : Env K He ex O (upd H p (.lst vs)) σ (ds.set k (.ow l2)) := by
  obtain ⟨p', vs0, h1, h2, h3, h4⟩ := I.ow k l h
  rw [hp] at h1
  cases h1
  have hm : Vx (Hm O H) (Hm O (upd H p (.lst vs))) := fun b o z _ => by
    obtain ⟨z1, z2⟩ := hm_some.mp z
    refine hm_some.mpr ⟨z1, ?_⟩
    have hne : b ≠ p := fun y => z1 (by rw [y]; exact h2)
    rw [upd_ne hne]
    exact z2
  have hn : Vx (Hn He O H) (Hn He O (upd H p (.lst vs))) := fun b o z _ => by
    obtain ⟨z1, z3, z2⟩ := hn_some.mp z
    refine hn_some.mpr ⟨z1, z3, ?_⟩
    have hne : b ≠ p := fun y => z1 (by rw [y]; exact h2)
    rw [upd_ne hne]
    exact z2
  have hk : k < ds.length := (List.getElem?_eq_some_iff.mp h).1
  refine ⟨Ex.mut I.ext (I.fr p h2) h3, I.fr, fun q hq => ?_, by rw [List.length_set]; exact I.len, fun j d hj => ?_, fun j d hj => ?_, fun j l hj => ?_, fun a b la lb q ha hb hx hy => ?_, fun q hq => (I.xs q hq).mono hm, fun j b q ns hj => ?_, fun a b bb q ns lj ha hb => ?_, fun a b bb bb' q ns ns' ha hb => ?_, tabs_mut I.tb h3⟩
  · by_cases e : q = p
    · subst e
      exact ⟨_, upd_same⟩
    · obtain ⟨o, ho⟩ := I.thr q hq
      exact ⟨o, by rw [upd_ne e]; exact ho⟩
  · rcases set_get hj with ⟨rfl, e, hi⟩ | ⟨ne, hj⟩
    · cases e
    · obtain ⟨w, g1, g2⟩ := I.ar j d hj
      exact ⟨w, g1, g2.mono hm⟩
  · rcases set_get hj with ⟨rfl, e, hi⟩ | ⟨ne, hj⟩
    · cases e
    · obtain ⟨w, g1, g2⟩ := I.nw j d hj
      exact ⟨w, g1, g2.mono hn⟩
  · rcases set_get hj with ⟨rfl, e, hi⟩ | ⟨ne, hj⟩
    · cases e
      exact ⟨p, vs, hp, h2, upd_same, hl.mono hn⟩
    · obtain ⟨q, ws, g1, g2, g3, g4⟩ := I.ow j l hj
      have hne : q ≠ p := fun e => by
        subst e
        exact ne (I.dj k j _ _ q h hj hp g1)
      exact ⟨q, ws, g1, g2, by rw [upd_ne hne]; exact g3, g4.mono hn⟩
  · have ga : ∃ la', ds[a]? = some (.ow la') := by
      rcases set_get ha with ⟨rfl, e, hi⟩ | ⟨ne, ha⟩
      · exact ⟨_, h⟩
      · exact ⟨_, ha⟩
    have gb : ∃ lb', ds[b]? = some (.ow lb') := by
      rcases set_get hb with ⟨rfl, e, hi⟩ | ⟨ne, hb⟩
      · exact ⟨_, h⟩
      · exact ⟨_, hb⟩
    obtain ⟨la', ga⟩ := ga
    obtain ⟨lb', gb⟩ := gb
    exact I.dj a b _ _ q ga gb hx hy
  · rcases set_get hj with ⟨rfl, e, hi⟩ | ⟨ne, hj⟩
    · cases e
    · obtain ⟨g1, g2, g3⟩ := I.ce j b q ns hj
      have hne : q ≠ p := fun e => by
        subst e
        exact I.cj j k b q ns l hj h hp
      exact ⟨g1, g2, by rw [upd_ne hne]; exact g3⟩
  · rcases set_get ha with ⟨rfl, e, hi⟩ | ⟨na, ha⟩
    · cases e
    · rcases set_get hb with ⟨rfl, e, hi⟩ | ⟨nb, hb⟩
      · exact I.cj a k bb q ns l ha h
      · exact I.cj a b bb q ns lj ha hb
  · rcases set_get ha with ⟨rfl, e, hi⟩ | ⟨na, ha⟩
    · cases e
    · rcases set_get hb with ⟨rfl, e, hi⟩ | ⟨nb, hb⟩
      · cases e
      · exact I.ck a b bb bb' q ns ns' ha hb
/-- x.append(e) -/
theorem q_app {k : Nat} (h : ds[k]? = some (.ow l)) (he : Ev K .M te ds d) (hz : l.length < 100000) (q : SW K W u (ds.set k (.ow (l ++ [d]))) P) : SW K W (tSeq (tDrop (tBM K "list" rAppend (tVar k) (tCons te tNil))) u) ds P := fun He ex O H σ I D c => by
  obtain ⟨p, vs, h1, h2, h3, h4⟩ := I.ow k l h
  refine ⟨_, h1, .inl ⟨rfl, vs, SqL.of h3⟩, he He ex O H σ I _ fun v H2 e z => ?_⟩
  refine ⟨p, vs, v, rfl, rfl, e.at h3, by rw [h4.length]; exact sz_lt hz, ?_⟩
  exact q He ex O _ σ ((I.mono e).write h h1 (IsL.append (h4.mono (Ex.hn e)) (IsL.cons z IsL.nil))) D c
/-- x[j] = e -/
theorem q_setI {k : Nat} (h : ds[k]? = some (.ow l)) (he : Ev K .M te ds d) (hj : Ev K .I tx ds (.int j)) (h0 : 0 ≤ j) (hz : j < (l.length : Int)) (q : SW K W u (ds.set k (.ow (l.set j.toNat d))) P) : SW K W (tSeq (tAsg te (gSub (tVar k) tx rSetL)) u) ds P := fun He ex O H σ I D c => by
  obtain ⟨p, vs, h1, h2, h3, h4⟩ := I.ow k l h
  refine he He ex O H σ I _ fun v H2 e z => ⟨_, h1, hj He ex O H2 σ (I.mono e) _ fun w H3 e3 z3 => ?_⟩
  rw [is_int.mp z3]
  have hl := h4.length
  refine ⟨p, vs, j, j.toNat, rfl, rfl, e3.at (e.at h3), ?_, ?_⟩
  · unfold ixN
    rw [if_pos h0, if_pos (by omega)]
  · exact q He ex O _ σ ((I.mono (e.trans e3)).write h h1 (IsL.set (z.mono (vw_mono (m := .M) e3)) (h4.mono (Ex.hn (e.trans e3).v)))) D c
/-- an owned list is owned no more -/
theorem Env.freeze (I : Env K He ex O H σ ds) {k : Nat} (h : ds[k]? = some (.ow l)) : ∃ O', Env K He ex O' H σ (ds.set k (.nw (.lst l))) := by
  obtain ⟨p, vs, h1, h2, h3, h4⟩ := I.ow k l h
  refine ⟨O.filter fun q => decide (q ≠ p), ?_⟩
  have hin : ∀ q, q ∈ O.filter (fun q => decide (q ≠ p)) ↔ q ∈ O ∧ q ≠ p := fun q => by rw [List.mem_filter, decide_eq_true_eq]
  have hm : Vx (Hm O H) (Hm (O.filter fun q => decide (q ≠ p)) H) := fun b o z _ => by
    obtain ⟨z1, z2⟩ := hm_some.mp z
    exact hm_some.mpr ⟨fun y => z1 ((hin b).mp y).1, z2⟩
  have hn : Vx (Hn He O H) (Hn He (O.filter fun q => decide (q ≠ p)) H) := fun b o z _ => by
    obtain ⟨z1, z3, z2⟩ := hn_some.mp z
    exact hn_some.mpr ⟨fun y => z1 ((hin b).mp y).1, z3, z2⟩
  refine ⟨I.ext, fun q hq => I.fr q ((hin q).mp hq).1, fun q hq => I.thr q ((hin q).mp hq).1, by rw [List.length_set]; exact I.len, fun j d hj => ?_, fun j d hj => ?_, fun j l hj => ?_, fun a b la lb q ha hb hx hy => ?_, fun q hq => (I.xs q hq).mono hm, fun j b q ns hj => ?_, fun a b bb q ns lj ha hb => ?_, fun a b bb bb' q ns ns' ha hb => ?_, I.tb⟩
  · rcases set_get hj with ⟨rfl, e, hi⟩ | ⟨ne, hj⟩
    · cases e
    · obtain ⟨w, g1, g2⟩ := I.ar j d hj
      exact ⟨w, g1, g2.mono hm⟩
  · rcases set_get hj with ⟨rfl, e, hi⟩ | ⟨ne, hj⟩
    · cases e
      refine ⟨_, h1, is_lst.mpr ⟨p, vs, rfl, hn_some.mpr ⟨fun y => ((hin p).mp y).2 rfl, I.fr p h2, h3⟩, h4.mono fun b o z n => ?_⟩⟩
      exact hd_some.mpr ⟨fun y => (hn_some.mp z).1 (y ▸ h2), hn.at z n⟩
    · obtain ⟨w, g1, g2⟩ := I.nw j d hj
      exact ⟨w, g1, g2.mono hn⟩
  · rcases set_get hj with ⟨rfl, e, hi⟩ | ⟨ne, hj⟩
    · cases e
    · obtain ⟨q, ws, g1, g2, g3, g4⟩ := I.ow j l hj
      have hne : q ≠ p := fun e => by
        subst e
        exact ne (I.dj k j _ _ q h hj h1 g1)
      exact ⟨q, ws, g1, (hin q).mpr ⟨g2, hne⟩, g3, g4.mono hn⟩
  · rcases set_get ha with ⟨rfl, e, hi⟩ | ⟨ne, ha⟩
    · cases e
    · rcases set_get hb with ⟨rfl, e, hi⟩ | ⟨ne2, hb⟩
      · cases e
      · exact I.dj a b _ _ q ha hb hx hy
  · rcases set_get hj with ⟨rfl, e, hi⟩ | ⟨ne, hj⟩
    · cases e
    · obtain ⟨g1, g2, g3⟩ := I.ce j b q ns hj
      have hne : q ≠ p := fun e => by
        subst e
        exact I.cj j k b q ns l hj h h1
      exact ⟨(hin q).mpr ⟨g1, hne⟩, g2, g3⟩
  · rcases set_get ha with ⟨rfl, e, hi⟩ | ⟨na, ha⟩
    · cases e
    · rcases set_get hb with ⟨rfl, e, hi⟩ | ⟨nb, hb⟩
      · cases e
      · exact I.cj a b bb q ns lj ha hb
  · rcases set_get ha with ⟨rfl, e, hi⟩ | ⟨na, ha⟩
    · cases e
    · rcases set_get hb with ⟨rfl, e, hi⟩ | ⟨nb, hb⟩
      · cases e
      · exact I.ck a b bb bb' q ns ns' ha hb
theorem q_freeze {k : Nat} (h : ds[k]? = some (.ow l)) (q : SW K W t (ds.set k (.nw (.lst l))) P) : SW K W t ds P := fun He ex O H σ I D c => by
  obtain ⟨O', I'⟩ := I.freeze h
  exact q He ex O' H σ I' D c
/-- a for: M i ds tells the slots ahead of turn i -/
theorem q_for {tb0 : TS} (hi : ItD K wi ds items) (M : Nat → List Slot → Prop) (h0 : M 0 ds)
    (hs : ∀ i d ds1, items[i]? = some d → M i ds1 → ∃ ds2, TgD K g d ds1 ds2 ∧ SW K W tb0 ds2 { P with nx := M (i + 1), ct := M (i + 1), bk := fun ds => SW K W u ds P })
    (hd : ∀ ds', M items.length ds' → SW K W u ds' P) : SW K W (tSeq (tFor wi g tb0) u) ds P := fun He ex O H σ I D c =>
  hi He ex O H σ I _ fun J H1 pins e1 I1 w => by
    refine ⟨fun i m σ' H' => m = items.length - i ∧ i ≤ items.length ∧ ∃ O' ds1, Env K He (pins ++ ex) O' H' σ' ds1 ∧ M i ds1, ⟨items.length, by simp, Nat.zero_le _, O, ds, I1, h0⟩, ?_⟩
    rintro i m σ' H' ⟨rfl, hi, O', ds1, I', hM⟩
    obtain ⟨wg, ws, wy⟩ := w O' H' I'.thr fun q hq => I'.xs q (List.mem_append_left _ hq)
    by_cases hlt : i < items.length
    · refine .inr ⟨wg i hlt, fun σ2 H2 => ∃ O' ds1, Env K He (pins ++ ex) O' H2 σ2 ds1 ∧ M (i + 1) ds1, fun σ2 H2 h => ⟨_, by omega, rfl, hlt, h⟩, fun x Hy hy => ?_⟩
      obtain ⟨ey, d, hd1, zd⟩ := wy i x Hy hlt hy
      obtain ⟨ds2, hg, hb⟩ := hs i d ds1 hd1 hM
      refine hg He (pins ++ ex) O' Hy σ' x (I'.mono ey) zd _ fun σ2 I2 => ?_
      refine hb He (pins ++ ex) O' Hy σ2 I2 _ ⟨fun O3 H3 σ3 ds3 I3 z => ⟨O3, ds3, I3, z⟩, c.rt, fun O3 H3 σ3 ds3 I3 z => z He ex O3 H3 σ3 I3.dropEx D c, fun O3 H3 σ3 ds3 I3 z => ⟨O3, ds3, I3, z⟩, fun C O3 H3 σ3 ds3 I3 z => c.xc C O3 H3 σ3 ds3 I3.dropEx z⟩
    · have ei : i = items.length := by omega
      subst ei
      exact .inl ⟨ws, hd ds1 hM He ex O' H' σ' I'.dropEx D c⟩
/-- a while: M n ds, n falls -/
theorem q_while {tb0 : TS} (M : Nat → List Slot → Prop) (n0 : Nat) (h0 : M n0 ds)
    (hs : ∀ n ds1, M n ds1 → ∃ b, EvT K tt ds1 b ∧ (b = true → SW K W tb0 ds1 { P with nx := fun ds2 => ∃ n', n' < n ∧ M n' ds2, ct := fun ds2 => ∃ n', n' < n ∧ M n' ds2, bk := fun ds => SW K W u ds P }) ∧ (b = false → SW K W u ds1 P)) :
    SW K W (tSeq (tWhile tt tb0) u) ds P := fun He ex O H σ I D c => by
  refine ⟨fun m σ' H' => ∃ O' ds1, Env K He ex O' H' σ' ds1 ∧ M m ds1, ⟨n0, O, ds, I, h0⟩, ?_⟩
  rintro m σ' H' ⟨O', ds1, I', hM⟩
  obtain ⟨b, hb, h1, h2⟩ := hs m ds1 hM
  refine hb He ex O' H' σ' I' _ fun H2 e => ?_
  cases b with
  | true =>
    refine ⟨fun σ2 H2 => ∃ m', m' < m ∧ ∃ O' ds1, Env K He ex O' H2 σ2 ds1 ∧ M m' ds1, fun _ _ z => z, ?_⟩
    refine h1 rfl He ex O' H2 σ' (I'.mono e) _ ⟨fun O3 H3 σ3 ds3 I3 ⟨n', hn, z⟩ => ⟨n', hn, O3, ds3, I3, z⟩, c.rt, fun O3 H3 σ3 ds3 I3 z => z He ex O3 H3 σ3 I3 D c, fun O3 H3 σ3 ds3 I3 ⟨n', hn, z⟩ => ⟨n', hn, O3, ds3, I3, z⟩, c.xc⟩
  | false => exact h2 rfl He ex O' H2 σ' (I'.mono e) D c
end
end Px

namespace Px
open PySem PySem.Spec PyProof.Rows L2
variable [Tb]

/-! ### a def's promise over data -/
abbrev SpF := List D → (D → Prop) → (Addr → Prop) → Prop
def spD (K : PySem.W.Frag) (S : SpF) : Sp := fun vs H Q E => LamX.Tabs Tb.T H ∧ ∃ ds R X, IsL K H ds vs ∧ S ds R X ∧ (∀ v H' d, Ex H H' → R d → Is K (Nw H H') d v → Q v H') ∧ ∀ C H', Ex H H' → X C → E (.ref C) none H'
def W0 : WX := fun _ _ _ _ => False
/-- the slots at a def's entry -/
def startD (N : List Str) (ds : List D) : List Slot := ds.map argS ++ List.replicate (N.length - ds.length) .no
section
variable {K : PySem.W.Frag} {W : WX} {He H H1 H2 H' : Hp} {ex : List (V × D)} {O O1 O2 : List Addr} {σ : L2.St} {ds ds' : List Slot} {d d' e1 e2 : D} {l l1 l2 items args : List D} {v : V} {vs : List V} {P P' : Post}
variable {m m1 m2 : Md} {te ta tb0 tx tc : TE} {t u : TS} {tt : TT} {r : R2} {i j n : Int} {b c : Bool} {ns ms : List Int} {tA : TA} {wi : TI} {g : TG} {own : List Nat} {s s1 s2 s3 : Slot} {S : SpF} {C : Addr}
theorem hm_nil : Hm [] H = H := by
  funext b
  exact if_neg List.not_mem_nil
theorem env_start {N : List Str} {ds : List D} (ht : LamX.Tabs Tb.T H) (h : IsL K H ds vs) (hl : ds.length ≤ N.length) : Env K H [] [] H (L2.start N vs) (startD N ds) := by
  have hv := h.length
  have cases_ : ∀ {i : Nat} {s : Slot}, (startD N ds)[i]? = some s → s = .no ∨ ∃ d v, ds[i]? = some d ∧ s = argS d ∧ (L2.start N vs)[i]? = some (some v) ∧ Is K H d v := fun {i s} e => by
    unfold startD at e
    by_cases hi : i < ds.length
    · rw [List.getElem?_append_left (by rw [List.length_map]; exact hi), List.getElem?_map, List.getElem?_eq_getElem hi] at e
      obtain ⟨v, e1, e2⟩ := h.get (List.getElem?_eq_getElem hi)
      refine .inr ⟨ds[i], v, List.getElem?_eq_getElem hi, (Option.some.inj e).symm, ?_, e2⟩
      unfold L2.start
      rw [List.getElem?_append_left (by rw [List.length_map]; omega), List.getElem?_map, e1] <;> rfl
    · rw [List.getElem?_append_right (by rw [List.length_map]; omega), List.getElem?_replicate] at e
      split at e
      · exact .inl (Option.some.inj e).symm
      · cases e
  have flt : ∀ {d : D} {s : Slot}, argS d = s → (flat d = true ∧ s = .nw d) ∨ (flat d = false ∧ s = .ar d) := fun {d s} e => by
    unfold argS at e
    cases hf : flat d with
    | true =>
      rw [hf] at e
      exact .inl ⟨rfl, e.symm⟩
    | false =>
      rw [hf] at e
      exact .inr ⟨rfl, e.symm⟩
  have noce : ∀ {i : Nat} {b : Bool} {p : Addr} {ns : List Int}, (startD N ds)[i]? = some (.ce b p ns) → False := fun {i b p ns} e => by
    rcases cases_ e with z | ⟨d0, v, _, z, hv, hs⟩
    · cases z
    · rcases flt z.symm with ⟨_, y⟩ | ⟨_, y⟩ <;> cases y
  refine ⟨Ex.refl H, fun p hp => (by cases hp), fun p hp => (by cases hp), ?_, fun i d e => ?_, fun i d e => ?_, fun i l e => ?_, fun i j li lj p e => ?_, fun q hq => (by cases hq), fun i b p ns e => (noce e).elim, fun i j b p ns lj e => (noce e).elim, fun i j b b' p ns ns' e => (noce e).elim, ht⟩
  · unfold L2.start startD
    simp only [List.length_append, List.length_map, List.length_replicate]
    omega
  · rcases cases_ e with z | ⟨d0, v, _, z, hv, hs⟩
    · cases z
    · rcases flt z.symm with ⟨_, y⟩ | ⟨_, y⟩
      · cases y
      · cases y
        exact ⟨v, hv, by rw [hm_nil]; exact hs⟩
  · rcases cases_ e with z | ⟨d0, v, _, z, hv, hs⟩
    · cases z
    · rcases flt z.symm with ⟨f, y⟩ | ⟨_, y⟩
      · cases y
        exact ⟨v, hv, hs.flat f⟩
      · cases y
  · rcases cases_ e with z | ⟨d0, v, _, z, hv, hs⟩
    · cases z
    · rcases flt z.symm with ⟨_, y⟩ | ⟨_, y⟩ <;> cases y
  · rcases cases_ e with z | ⟨d0, v, _, z, hv, hs⟩
    · cases z
    · rcases flt z.symm with ⟨_, y⟩ | ⟨_, y⟩ <;> cases y
/-- the body's rule -/
theorem body_of {N : List Str} {R : D → Prop} {X : Addr → Prop} {dsA : List D} {Q : VK} {E : XK} (ht : LamX.Tabs Tb.T H) (h : IsL K H dsA vs) (hl : dsA.length ≤ N.length) (hQ : ∀ v H' d, Ex H H' → R d → Is K (Nw H H') d v → Q v H') (hE : ∀ C H', Ex H H' → X C → E (.ref C) none H')
    (hp : SW K (fun cls d _ H => E cls d H) t (startD N dsA) { nx := fun _ => R .non, rt := R, xc := fun C _ => X C }) : t { nx := fun _ H' => Q .non H', rt := Q } (L2.start N vs) H :=
  hp H [] [] H _ (env_start ht h hl) _ ⟨fun O H' σ ds I z => hQ _ H' _ I.ext z (is_non.mpr rfl), fun v H' d e z y => hQ v H' d e y z, fun O H' σ ds I z => z, fun O H' σ ds I z => z, fun C O H' σ ds I z => hE C H' I.ext z⟩

/-! ### calls -/
theorem ev_call (ha : EvA K .I tA ds args) (hS : S args (fun r => r = d) (fun _ => False)) : Ev K .N (tCallS (spD K S) (WE W) tA) ds d := fun He ex O H σ I Q q =>
  ha He ex O H σ I _ fun vs H2 e z => ⟨(I.mono e).tb, args, _, _, z, hS, fun v H' d' e' rd hv => by
    subst rd
    exact q v H' (e.trans e') (hv.mono (Ex.nwL e)), fun C H' e' z => z.elim⟩
/-- .. of no arguments, nothing let out -/
theorem ev_call0 (hS : S [] (fun r => r = d) (fun _ => False)) : Ev K .N (tCall (spD K S) [] E0 tNil) ds d := fun He ex O H σ I Q q => ⟨I.tb, [], _, _, IsL.nil, hS, fun v H' d' e' rd hv => by
    subst rd
    exact q v H' e' hv, fun C H' e' z => z.elim⟩
theorem ev_callI (ha : EvA K .I tA ds args) (hS : S args (fun r => r = d) (fun _ => False)) : Ev K m (tCallS (spD K S) (WE W) tA) ds d := (ev_call ha hS).wkN m
/-- a call for its effects (what it lets out goes on) -/
theorem q_call (ha : EvA K .I tA ds args) (hS : S args (fun _ => SW K W u ds P) (fun C => P.xc C ds)) : SW K W (tSeq (tDrop (tCallS (spD K S) (WE W) tA)) u) ds P := fun He ex O H σ I D c =>
  ha He ex O H σ I _ fun vs H2 e z => ⟨(I.mono e).tb, args, _, _, z, hS, fun v H' d' e' rd hv => rd He ex O H' σ (I.mono (e.trans e')) D c, fun C H' e' z => c.xc C O H' σ ds (I.mono (e.trans e')) z⟩
theorem q_retCall (ha : EvA K .I tA ds args) (hS : S args P.rt (fun C => P.xc C ds)) : SW K W (tSeq (tRet (tCallS (spD K S) (WE W) tA)) u) ds P := fun He ex O H σ I D c =>
  ha He ex O H σ I _ fun vs H2 e z => ⟨(I.mono e).tb, args, _, _, z, hS, fun v H' d' e' rd hv => c.rt v H' d' (I.ext.trans (e.trans e')) (hv.mono (Ex.nwL (I.ext.trans e))) rd, fun C H' e' z => c.xc C O H' σ ds (I.mono (e.trans e')) z⟩
theorem q_setCall {k : Nat} (ha : EvA K .I tA ds args) (hS : S args (fun d => SW K W u (ds.set k (.nw d)) P) (fun C => P.xc C ds)) : SW K W (tSeq (tAsg (tCallS (spD K S) (WE W) tA) (gName k)) u) ds P := fun He ex O H σ I D c =>
  ha He ex O H σ I _ fun vs H2 e z => ⟨(I.mono e).tb, args, _, _, z, hS, fun v H' d' e' rd hv => rd He ex O H' _ ((I.mono (e.trans e')).put (s := .nw d') (hv.mono (Vx.trans (Ex.nwL e) (nw_hn I)))) D c, fun C H' e' z => c.xc C O H' σ ds (I.mono (e.trans e')) z⟩
/-- raise C(..) -/
def tRs (W : WX) (C : Addr) : TS := fun _ σ H => W (.ref C) none σ H
theorem q_raise (h : P.xc C ds) : SW K W (tSeq (tRs W C) u) ds P := fun He ex O H σ I D c => c.xc C O H σ ds I h
/-- try: .. except X as n: .. -/
def tTryAs (K : PySem.W.Frag) (c : Value) (i : Nat) (tb : WX → TS) (ts : Addr → Value → Option Addr → TS) (W : WX) : TS := fun D σ H => tb (wAs K c i ts W D) D σ H
theorem q_try {tb : WX → TS} {ts : Addr → Value → Option Addr → TS} {cv : Value} {k : Nat}
    (hb : ∀ W', SW K W' (tb W') ds { P with nx := fun ds => SW K W u ds P, xc := fun C ds1 => ∃ b, PySem.W.exmOne K (.ref C) cv = some b ∧
      (b = true → ∀ a, SW K W0 (ts a (.ref C) none) (ds1.set k (.nw (.cl a))) { nx := fun ds2 => SW K W u (ds2.set k .no) P, rt := P.rt, bk := fun ds2 => P.bk (ds2.set k .no), ct := fun ds2 => P.ct (ds2.set k .no) }) ∧ (b = false → P.xc C ds1) }) :
    SW K W (tSeq (tTryAs K cv k tb ts W) u) ds P := fun He ex O H σ I D c => by
  refine hb _ He ex O H σ I _ ⟨fun O1 H1 σ1 ds1 I1 z => z He ex O1 H1 σ1 I1 D c, c.rt, c.bk, c.ct, fun C O1 H1 σ1 ds1 I1 z => ?_⟩
  obtain ⟨b, e, h1, h2⟩ := z
  refine ⟨b, e, fun hb a ha => ?_, fun hb => c.xc C O1 H1 σ1 ds1 I1 (h2 hb)⟩
  refine h1 hb a He ex O1 H1 _ (I1.put (s := .nw (.cl a)) (v := .ref a) (show Is K (Hn He O1 H1) (.cl a) (.ref a) from is_cl.mpr rfl)) _ ⟨fun O2 H2 σ2 ds2 I2 z => z He ex O2 H2 _ I2.gone D c, c.rt, fun O2 H2 σ2 ds2 I2 z => c.bk O2 H2 _ _ I2.gone z, fun O2 H2 σ2 ds2 I2 z => c.ct O2 H2 _ _ I2.gone z, fun C O2 H2 σ2 ds2 I2 z => z.elim⟩
/-- isinstance(e, X), e the exception that is handled -/
def rIsEX (K : PySem.W.Frag) (a : Addr) (cls : Value) (d : Option Addr) : List V → Hp → VK → Prop := fun xs H Q => ∃ D, cls = .ref D ∧ d = none ∧ ExcC K D ∧ rIsE K D a xs H Q
theorem call_isEX {X : Cx} {a : Addr} {cls : Value} {d : Option Addr} {oe : Obj} {pn : List (Addr × Obj)} (hz : L2N.Zn cls d oe) (hf : ∃ vs, oe.data = .fields vs) : CallR (X.suite a ((a, oe) :: pn)) (.builtin "isinstance") (rIsEX X.K a cls d) := by
  intro pins s σ H xs us Q I r h
  obtain ⟨D, rfl, rfl, hC, q⟩ := h
  exact call_isE hC hz.zc hf pins s σ H xs us Q I r q
theorem ev_isE {a : Addr} {C X : Addr} {tX : TE} (hx : Ev K .I te ds (.cl a)) (hX : Ev K .I tX ds (.cl X)) (hC : ExcC K C) (hk : PySem.W.kitOne K (.ref C) (.ref X) = some b) : Ev K m (tCB (rIsEX K a (.ref C) none) (tCons te (tCons tX tNil))) ds (.bl b) :=
  ev_cb (ea_cons hx (ea_cons hX ea_nil)) rfl fun vs H Q z q => by
    obtain ⟨v, w, rfl, h1, h2⟩ := isL2 z
    rw [is_cl.mp h1, is_cl.mp h2]
    exact ⟨C, rfl, rfl, hC, .ref X, .ref X, b, rfl, fun u hu => hu, hk, q _ (is_bl.mpr rfl)⟩
end

/-! ### a def that keeps its promise -/
def Good (P : Program) (w : World) (K : PySem.W.Frag) (mg : Str → Option Value) (base : Heap) (x : Str) (k : Nat) (ps : List Str) (S : SpF) : Prop :=
  ∃ f fd, mg x = some (.ref f) ∧ PySem.W.keepIn K (.ref f) = true ∧ Binds K fd ps [] ∧ FnOk P w K mg base (L2N.CX P w) k f fd ps (spD K S)
theorem pe_cal {X : Cx} {x : Str} {k j : Nat} {ps : List Str} {S : SpF} {W : WX} {e : Expr} {es : List Expr} {t : TA} {p pos : Pos} (G : Good X.prog X.w X.K X.mg X.base x k ps S) (hr : Room j X.A) (hk : k ≤ j) (hg : Gl X x) (tk : L2N.Takes X W) (ha : PA X (e :: es) t)
    (hdb : (x == ("__debug__" : Str)) = false := by decide) (he : starEach (e :: es) X.env = (false, eval e X.env) :: starEach es X.env := by rfl) (hpl : (backTo pos (starEach es X.env)).any (·.1) = false := by rfl) :
    PE X (.Call (.Name x p) (e :: es) [] pos) (tCallS (spD X.K S) (WE W) t) := by
  obtain ⟨f, fd, hm, hk2, hb, F⟩ := G
  exact pe_callS F (hr.mono hk) hg hm hk2 hb (fun σ => L2N.passAt tk σ) ha hdb he hpl
theorem passN {X : Cx} : Passes (L2N.CX X.prog X.w) X E0 := fun _ _ _ _ _ _ _ h => by
  obtain ⟨_, _, _, _, _, _, _, _, _, _, _, _, z⟩ := h
  exact z.elim
theorem takesN {X : Cx} : L2N.Takes X W0 := fun _ _ x => by
  obtain ⟨_, _, _, _, _, _, _, _, _, _, _, _, _, _, _, _, z⟩ := x
  exact z.elim
theorem pe_cal0 {X : Cx} {x : Str} {k j : Nat} {S : SpF} {p pos : Pos} (G : Good X.prog X.w X.K X.mg X.base x k [] S) (hr : Room j X.A) (hk : k ≤ j) (hg : Gl X x) (hdb : (x == ("__debug__" : Str)) = false := by decide) :
    PE X (.Call (.Name x p) [] [] pos) (tCall (spD X.K S) [] E0 tNil) := by
  obtain ⟨f, fd, hm, hk2, hb, F⟩ := G
  exact pe_call0 F (hr.mono hk) hg hm hk2 hb .nil passN hdb
theorem good_mk {P : Program} {w : World} {K : PySem.W.Frag} {mg : Str → Option Value} {base : Heap} {x : Str} {params : Arguments} {body : List Stmt} {scope : Scope} {f : Addr} {fd : FuncData} {N ps : List Str} {k : Nat} {S : SpF} {t : WX → TS}
    (F : FunD K x x params body scope [] [] f fd) (hm : mg x = some (.ref f)) (sc : FnScope N ps scope)
    (hb : ∀ (kV doc pm : Value) (an : Option Addr) (cdv ct : Value) (us : List Value), us.length = ps.length → bindArgs (PySem.W.fnOf x x params body scope .none kV doc pm an cdv ct) ⟨us, []⟩ = pure (ps.zip us))
    (hlen : ∀ ds R X, S ds R X → ds.length = ps.length) (hN : ps.length ≤ N.length)
    (hd : ∀ (cdv : Value) (A : Around) (outer : List PySem.Env) (s : Shared) (H : Hp) (E : XK), Room k (A.deeper (envOfC x scope s.heap.objs.size f cdv)) → PSs (cxOf (L2N.CX P w) P w K mg base N x scope f cdv A outer s H E) body (t fun cls d _ H => E cls d H))
    (hp : ∀ W ds R X, S ds R X → SW K W (t W) (startD N ds) { nx := fun _ => R .non, rt := R, xc := fun C _ => X C }) : Good P w K mg base x (k + 1) ps S := by
  refine ⟨f, fd, hm, F.kp, FunD.bindsN (ps := ps) F hb, F.ok sc (fun vs H Q E h => ?_) fun cdv A outer s H vs Q E hr h => ?_⟩
  · obtain ⟨_, ds, R, X, h1, h2, _⟩ := h
    rw [h1.length, hlen ds R X h2]
  · obtain ⟨ht, ds, R, X, h1, h2, hQ, hE⟩ := h
    exact ⟨_, hd cdv A outer s H E hr, body_of ht h1 (by rw [hlen ds R X h2]; exact hN) hQ hE (hp _ ds R X h2)⟩
/-- the exceptions' facts -/
structure ExcG (K : PySem.W.Frag) (mg : Str → Option Value) (x : Str) (C : Addr) : Prop where
  g : mg x = some (.ref C)
  ex : PySem.W.excIn K C He.veBase "ValueError.__new__" = true
  kp : PySem.W.keepIn K (.ref C) = true
  sb : PySem.W.subIn K (.ref C) (.type "BaseException") = some true
  ty : PySem.W.typeIn K (.ref C) = some (.type "type")
theorem ps_rs {X : Cx} {W : WX} {C : Addr} {x m : Str} {j : Nat} {p p2 p3 pos : Pos} (hc : X.calm = true) (tk : L2N.Takes X W) (G : ExcG X.K X.mg x C) (hg : Gl X x) (hdb : (x == ("__debug__" : Str)) = false := by decide) :
    PS X (.Raise (some (.Call (.Name x p) [.Constant (.str m) j p2] [] p3)) none pos) (tRs W C) :=
  L2N.ps_raise hc tk (L2N.pmk_own PySem.F.excBase_ValueError G.ex G.g G.kp (raises_own G.sb G.ty) hg hdb)

/-! ### any of a list within an except suite -/
section
variable {prog : Program} {w : World} {A : Around} {E : Value → Shared → Prop} {s : Shared}
theorem list_end_hot {it l : Addr} {i : Nat} {items : Array Value} {x1 : Addr} {Q : Option Value → Shared → Prop} (hot : HotX.HotAt A x1 s.heap) (hne : x1 ≠ it)
    (hit : s.heap.IsListIter it l i) (hl : s.heap.IsList l items) (hx : items[i]? = none)
    (hQ : ∀ h', (∀ b o, b ≠ it → s.heap.get? b = some o → h'.get? b = some o) → Q none { s with heap := h' }) : wpAny (model prog w) A (pyNext (.ref it)) Q E s := by
  obtain ⟨hh, o1, vs1, h1, d1, c1⟩ := hot
  obtain ⟨o, ho, hc, hd⟩ := id hit
  obtain ⟨ol, hol, _, nl, hdl⟩ := hl
  unfold pyNext
  refine wpAny_bind (wpAny_attempt (wpAny_callSpecial?_slot (name := Str.ofString "__next__") hit.typeIs slot_listiter_next
    (wpAny_call_entry slot_listiter_next hit.typeIs entry_listiter_next ?_ (args_listiter_next _))))
  show wpAny _ _ (field (.ref it) 0 >>= _) _ _ s
  refine wpAny_bind (wpAny_field ho hd (x := .ref l) rfl ?_)
  show wpAny _ _ (if (Value.ref l == Value.none) = true then _ else _) _ _ s
  rw [if_neg (show ¬ ((Value.ref l == Value.none) = true) from Bool.false_ne_true)]
  show wpAny _ _ (field (.ref it) 1 >>= _) _ _ s
  refine wpAny_bind (wpAny_field ho hd (x := .int i 0) rfl ?_)
  show wpAny _ _ (seqItems? (.ref l) >>= _) _ _ s
  refine wpAny_bind (wpAny_seqItems hol hdl ?_)
  simp only [Int.toNat_natCast, hx]
  refine wpAny_bind (wpAny_rule (wpAny_bind (wpAny_setField ho hd (by simp) ?_)))
  show wpAny _ _ (newExc (.type "StopIteration") [] >>= _) _ _ _
  refine wpAny_bind ?_
  simp only [newExc, newTuple]
  refine wpAny_bind (wpAny_newObj_type ?_ (by size_fits))
  refine wpAny_bind (m := firstArgMember _ _) (wpAny_of_eq (a := Value.none) (by first | rfl | (simp only [firstArgMember]; rfl)) ?_)
  refine wpAny_newObj_type ?_ (by size_fits)
  refine HotX.raiseNew_hot ⟨hh, o1, vs1, Heap.get?_push_of_some _ (Heap.get?_push_of_some _ ((Heap.get?_update_other _ _ hne.symm).trans h1)), d1, c1⟩ (Nat.ne_of_lt (Heap.lt_size (Heap.get?_push_of_some _ ((Heap.get?_update_other _ _ hne.symm).trans h1)))) (Heap.get?_push_size _ rfl) rfl (by first | (simp; done) | (simp; omega) | (simp only [Array.size_append]; simp; omega)) ?_
  refine wpAny_bind (wpAny_isInstance (T := "StopIteration") (b := true) ⟨_, Heap.get?_update_self _ (Heap.get?_push_size _ rfl) rfl, rfl⟩ isSubtype_stop ?_)
  refine wpAny_pure (hQ _ fun b ob hb e => ?_)
  have e1 : (s.heap.update it (Obj.mapFields (·.setIfInBounds 0 .none))).get? b = some ob := (Heap.get?_update_other _ _ hb.symm).trans e
  have e2 := Heap.get?_push_of_some { cls := .type "tuple", data := .seq #[] } e1
  have e3 := Heap.get?_push_of_some { cls := .type "StopIteration", data := .fields #[.ref (s.heap.update it (Obj.mapFields (·.setIfInBounds 0 .none))).objs.size, .none, .none, .none, .bool false, .none, .none] } e2
  rw [Heap.get?_update_other _ _ (Nat.ne_of_gt (Heap.lt_size e2))]
  exact Heap.get?_push_of_some _ e2
theorem walks_list_hot {x1 : Addr} {o1 : Obj} {vs1 : Array Value} (hh : A.handled = some (.ref x1)) (d1 : o1.data = .fields vs1) (c1 : vs1[2]? = some .none) (I ax : Addr) (hne : ax ≠ I) (hx : x1 ≠ I) (items : Array Value) :
    Walks prog w A I [I, ax, x1] [I] items.size (fun i v => items[i]? = some v) (fun i h => h.IsListIter I ax i ∧ h.IsList ax items ∧ h.get? x1 = some o1) where
  sub := fun b hb => by simp at hb; simp [hb]
  frame := fun _ _ _ st hk => ⟨st.1.at fun o e => hk I (by simp) o e, st.2.1.at fun o e => hk ax (by simp) o e, hk x1 (by simp) o1 st.2.2⟩
  item := fun i s Q E hi st hQ => by
    refine wpAny_pyNext_list_item st.1 st.2.1 (x := items[i]) (by simp [hi]) fun h' hit' hs' => ?_
    exact hQ _ h' s.toks (by simp [hi]) ⟨hit', st.2.1.extBut hs'.extBut hne, hs'.extBut x1 o1 hx st.2.2⟩ fun b o hb e => hs'.extBut b o (fun h => hb (by simp [h])) e
  done := fun s Q E st hQ => list_end_hot ⟨hh, o1, vs1, st.2.2, d1, c1⟩ hx st.1 st.2.1 (by simp) fun h' he' => hQ h' s.toks fun b o hb e => he' b o (fun h => hb (by simp [h])) e
  self := fun _ _ _ _ st hQ => wpAny_pyIter_listiter st.1 hQ
end
/-- any(xs) where an exception is handled -/
theorem cr_anyH {X : Cx} (hc : L2H.HotC X) : CallR X (.builtin "any") (rAny X.K) := by
  intro pins s σ H vs us Q I r h
  obtain ⟨a, bs, rfl, hs, q⟩ := h
  obtain ⟨its, rv, hl, _⟩ := I.list hs
  rw [Vals.ref1 r]
  have hb := rv.bls
  obtain ⟨x1, hh, o1, vs1, h1, d1, c1⟩ := hc.at I
  refine call_any_walk (iter_any hl.isList fun s₂ e2 st hne => ?_)
  subst e2
  refine ⟨_, _, _, _, _, _, _, rfl, walks_list_hot (A := X.A.in1) hh d1 c1 _ a hne (Nat.ne_of_lt (Heap.lt_size h1)) its.toArray, ⟨st.1, st.2, Heap.get?_push_of_some _ h1⟩, truth_bools hb, fun h' tk hk => ?_⟩
  refine ⟨.bl _, H, I.kept fun b o eo => hk b o (fun hmem => ?_) (Heap.get?_push_of_some _ eo), ?_, q⟩
  · rcases List.mem_cons.mp hmem with e1 | hmem
    · exact absurd (e1 ▸ Heap.lt_size eo) (Nat.lt_irrefl _)
    · cases hmem
  · show Value.bool _ = Value.bool _
    rw [← L2.any_range, hb, List.size_toArray, List.length_map]
theorem hot_suite {X : Cx} {a : Addr} {cls : Value} {d : Option Addr} {oe : Obj} {pn : List (Addr × Obj)} (hz : L2N.Zn cls d oe) (hf : ∃ vs, oe.data = .fields vs) : L2H.HotC (X.suite a ((a, oe) :: pn)) := by
  obtain ⟨vs, hv⟩ := hf
  exact ⟨(a, oe), ⟨rfl, vs, hv, hz.2.2 vs hv⟩, List.mem_cons_self⟩
end Px

namespace Px
open PySem PySem.Spec PyProof.Rows L2
variable [Tb]
def rIsiX (K : PySem.W.Frag) : List V → Hp → VK → Prop := rIsi K
theorem cIsi {X : Cx} : CallR X (.builtin "isinstance") (rIsiX X.K) := call_isi
/-- any of ints -/
def rAnyI (K : PySem.W.Frag) : List V → Hp → VK → Prop := fun vs H Q => ∃ (a : Addr) (ns : List Int), vs = [V.ref a] ∧ SqL K H a (ns.map V.int) ∧ Q (.bl (ns.any fun n => n != 0)) H
theorem plainAll_ints : ∀ ns : List Int, PyData.plainAll (ns.map PyData.int) = true
  | [] => rfl
  | n :: r => by rw [List.map_cons, PyData.plainAll, plainAll_ints r] <;> rfl
theorem readsAll_ints {s : Shared} : ∀ {ns : List Int} {us : List Value}, Vals (ns.map V.int) us → ∃ as, ReadsAll s.heap us (ns.map PyData.int) as
  | [], _, h => by
    cases h
    exact ⟨_, .nil⟩
  | n :: r, _, h => by
    cases h with
    | cons h1 h2 =>
      obtain ⟨t, rfl⟩ := h1
      obtain ⟨as, ih⟩ := readsAll_ints (s := s) (ns := r) h2
      exact ⟨_, .cons (Reads.int n t) ih⟩
theorem cAnyI {X : Cx} (hc : X.calm = true) : CallR X (.builtin "any") (rAnyI X.K) := by
  intro pins s σ H vs us Q I r h
  obtain ⟨a, ns, rfl, hs, q⟩ := h
  obtain ⟨its, rv, hl, _⟩ := I.list hs
  rw [Vals.ref1 r]
  obtain ⟨as, hr⟩ := readsAll_ints (s := s) rv
  refine PySem.W.any_list_data (xs := ns.map PyData.int) (I.ok.hd hc) hl.isList (by simpa using hr) (plainAll_ints ns) (fun x hx => ?_) fun h' tk hk => ?_
  · obtain ⟨n, _, rfl⟩ := List.mem_map.mp hx
    trivial
  · refine ⟨.bl _, H, I.kept hk, ?_, q⟩
    show Value.bool _ = Value.bool _
    rw [List.any_map] <;> rfl
def rAnyX (K : PySem.W.Frag) : List V → Hp → VK → Prop := fun vs H Q => rAny K vs H Q ∨ rAnyI K vs H Q
theorem cAny {X : Cx} (hc : X.calm = true) : CallR X (.builtin "any") (rAnyX X.K) := (cr_any hc).or (cAnyI hc)
section
variable {K : PySem.W.Frag} {ds : List Slot} {m : Md} {ta : TE} {ns : List Int}
theorem ev_anyB {bs : List Bool} (ha : Ev K .I ta ds (.lst (bs.map D.bl))) : Ev K m (tCB (rAnyX K) (tCons ta tNil)) ds (.bl (bs.any id)) := ev_cb (ea_cons ha ea_nil) rfl fun vs H Q z q => by
  obtain ⟨v, rfl, h1⟩ := isL1 z
  obtain ⟨a, xs, rfl, h2, h3⟩ := is_lst.mp h1
  rw [isL_bls.mp h3] at h2
  exact .inl ⟨a, bs, rfl, SqL.of h2, q _ (is_bl.mpr rfl)⟩
theorem ev_anyI (ha : Ev K .I ta ds (li ns)) : Ev K m (tCB (rAnyX K) (tCons ta tNil)) ds (.bl (ns.any fun n => n != 0)) := ev_cb (ea_cons ha ea_nil) rfl fun vs H Q z q => by
  obtain ⟨v, rfl, h1⟩ := isL1 z
  obtain ⟨a, rfl, h2⟩ := is_li.mp h1
  exact .inr ⟨a, ns, rfl, SqL.of h2, q _ (is_bl.mpr rfl)⟩
end
end Px

namespace Px
variable [Tb]
/-! ### sums -/
def sumN (n : Nat) (f : Nat → Int) : Int := ((List.range n).map f).sum
theorem sumN_zero (f : Nat → Int) : sumN 0 f = 0 := rfl
theorem sumN_succ (n : Nat) (f : Nat → Int) : sumN (n + 1) f = sumN n f + f n := by
  unfold sumN
  rw [List.range_succ, List.map_append, List.sum_append]
  simp
theorem sumN_congr {n : Nat} {f g : Nat → Int} (h : ∀ i, i < n → f i = g i) : sumN n f = sumN n g := by
  induction n with
  | zero => rfl
  | succ n ih => rw [sumN_succ, sumN_succ, ih fun i hi => h i (by omega), h n (by omega)]
theorem sumN_add (n : Nat) (f g : Nat → Int) : sumN n (fun i => f i + g i) = sumN n f + sumN n g := by
  induction n with
  | zero => rfl
  | succ n ih =>
    rw [sumN_succ, sumN_succ, sumN_succ, ih]
    omega
theorem sumN_sub (n : Nat) (f g : Nat → Int) : sumN n (fun i => f i - g i) = sumN n f - sumN n g := by
  induction n with
  | zero => rfl
  | succ n ih =>
    rw [sumN_succ, sumN_succ, sumN_succ, ih]
    omega
theorem sumN_mul (n : Nat) (c : Int) (f : Nat → Int) : sumN n (fun i => c * f i) = c * sumN n f := by
  induction n with
  | zero => rw [sumN_zero, sumN_zero, Int.mul_zero]
  | succ n ih => rw [sumN_succ, sumN_succ, ih, Int.mul_add]
theorem sumN_mulR (n : Nat) (c : Int) (f : Nat → Int) : sumN n (fun i => f i * c) = sumN n f * c := by
  rw [Int.mul_comm, ← sumN_mul]
  exact sumN_congr fun i _ => Int.mul_comm _ _
theorem sumN_zeros (n : Nat) {f : Nat → Int} (h : ∀ i, i < n → f i = 0) : sumN n f = 0 := by
  rw [sumN_congr (g := fun _ => 0) h]
  induction n with
  | zero => rfl
  | succ n ih => rw [sumN_succ, ih fun i hi => h i (by omega)] <;> rfl
theorem sumN_first (n : Nat) (f : Nat → Int) : sumN (n + 1) f = f 0 + sumN n fun i => f (i + 1) := by
  induction n with
  | zero => rw [sumN_succ, sumN_zero, sumN_zero]; omega
  | succ n ih => rw [sumN_succ, ih, sumN_succ n fun i => f (i + 1)]; omega
theorem sumN_rev : ∀ (n : Nat) (f : Nat → Int), sumN n f = sumN n fun i => f (n - 1 - i)
  | 0, f => rfl
  | n + 1, f => by
    rw [sumN_first n fun i => f (n + 1 - 1 - i), sumN_succ, sumN_rev n f]
    have e : (sumN n fun i => f (n - 1 - i)) = sumN n fun i => f (n + 1 - 1 - (i + 1)) := sumN_congr fun i _ => by
      congr 1
      omega
    rw [e]
    show _ + f n = f (n + 1 - 1 - 0) + _
    rw [show n + 1 - 1 - 0 = n by omega]
    omega
/-- a double sum over a triangle, by columns -/
theorem sumN_swap (n m : Nat) (f : Nat → Nat → Int) : sumN n (fun i => sumN m fun j => f i j) = sumN m fun j => sumN n fun i => f i j := by
  induction n with
  | zero => rw [sumN_zero]; exact (sumN_zeros m fun _ _ => rfl).symm
  | succ n ih =>
    rw [sumN_succ, ih, ← sumN_add]
    exact sumN_congr fun j _ => (sumN_succ n fun i => f i j).symm
theorem sumN_more {n m : Nat} (h : n ≤ m) {f : Nat → Int} (hz : ∀ i, n ≤ i → i < m → f i = 0) : sumN m f = sumN n f := by
  induction m with
  | zero => rw [show n = 0 by omega]
  | succ m ih =>
    by_cases e : n = m + 1
    · rw [e]
    · rw [sumN_succ, ih (by omega) (fun i h1 h2 => hz i h1 (by omega)), hz m (by omega) (by omega)]
      omega
/-! ### rests -/
theorem emod_congr_add {a b c d p : Int} (h : a % p = b % p) (h' : c % p = d % p) : (a + c) % p = (b + d) % p := by
  rw [Int.add_emod, h, h', ← Int.add_emod]
theorem emod_congr_sub {a b c d p : Int} (h : a % p = b % p) (h' : c % p = d % p) : (a - c) % p = (b - d) % p := by
  rw [Int.sub_emod, h, h', ← Int.sub_emod]
theorem emod_congr_mul {a b c d p : Int} (h : a % p = b % p) (h' : c % p = d % p) : (a * c) % p = (b * d) % p := by
  rw [Int.mul_emod, h, h', ← Int.mul_emod]
theorem sumN_emod {n : Nat} {f g : Nat → Int} {p : Int} (h : ∀ i, i < n → f i % p = g i % p) : sumN n f % p = sumN n g % p := by
  induction n with
  | zero => rfl
  | succ n ih =>
    rw [sumN_succ, sumN_succ]
    exact emod_congr_add (ih fun i hi => h i (by omega)) (h n (by omega))
/-- congruent by p -/
def Eqv (p a b : Int) : Prop := a % p = b % p
theorem Eqv.refl {p a : Int} : Eqv p a a := rfl
theorem Eqv.symm {p a b : Int} (h : Eqv p a b) : Eqv p b a := Eq.symm h
theorem Eqv.trans {p a b c : Int} (h : Eqv p a b) (h' : Eqv p b c) : Eqv p a c := Eq.trans h h'
theorem Eqv.of {p a b : Int} (h : a = b) : Eqv p a b := by rw [h]; rfl
theorem Eqv.add {p a b c d : Int} (h : Eqv p a b) (h' : Eqv p c d) : Eqv p (a + c) (b + d) := emod_congr_add h h'
theorem Eqv.sub {p a b c d : Int} (h : Eqv p a b) (h' : Eqv p c d) : Eqv p (a - c) (b - d) := emod_congr_sub h h'
theorem Eqv.mul {p a b c d : Int} (h : Eqv p a b) (h' : Eqv p c d) : Eqv p (a * c) (b * d) := emod_congr_mul h h'
theorem Eqv.neg {p a b : Int} (h : Eqv p a b) : Eqv p (-a) (-b) := by
  have := Eqv.sub (Eqv.refl (p := p) (a := 0)) h
  rwa [Int.zero_sub, Int.zero_sub] at this
theorem Eqv.sum {p : Int} {n : Nat} {f g : Nat → Int} (h : ∀ i, i < n → Eqv p (f i) (g i)) : Eqv p (sumN n f) (sumN n g) := sumN_emod h
theorem Eqv.mod {p a : Int} : Eqv p (a % p) a := Int.emod_emod_of_dvd a (Int.dvd_refl p)
theorem Eqv.iff {p a b : Int} (ha : 0 ≤ a ∧ a < p) (hb : 0 ≤ b ∧ b < p) (h : Eqv p a b) : a = b := by
  have h : a % p = b % p := h
  rwa [Int.emod_eq_of_lt ha.1 ha.2, Int.emod_eq_of_lt hb.1 hb.2] at h
theorem Eqv.zero_of {p a : Int} (h : Eqv p a 0) : a % p = 0 := by
  have h : a % p = 0 % p := h
  rwa [Int.zero_emod] at h
theorem mod_rest {p a : Int} (hp : 0 < p) : 0 ≤ a % p ∧ a % p < p := ⟨Int.emod_nonneg _ (by omega), Int.emod_lt_of_pos _ hp⟩

/-! ### primes to 97 -/
def primesL : List Int := [2, 3, 5, 7, 11, 13, 17, 19, 23, 29, 31, 37, 41, 43, 47, 53, 59, 61, 67, 71, 73, 79, 83, 89, 97]
theorem prime_bd {p : Int} (h : p ∈ primesL) : 2 ≤ p ∧ p ≤ 97 := by
  have k : ∀ p ∈ primesL, 2 ≤ p ∧ p ≤ 97 := by decide +kernel
  exact k p h
/-- by what a rest but 0 is to be multiplied to come to 1 -/
def inv (p n : Int) : Int := ((n.toNat ^ (p.toNat - 2) % p.toNat : Nat) : Int)
theorem inv_all : ∀ p ∈ ([2, 3, 5, 7, 11, 13, 17, 19, 23, 29, 31, 37, 41, 43, 47, 53, 59, 61, 67, 71, 73, 79, 83, 89, 97] : List Nat), ∀ n < p, n ≠ 0 → n * (n ^ (p - 2) % p) % p = 1 := by decide +kernel
theorem primes_nat {p : Int} (h : p ∈ primesL) : p.toNat ∈ ([2, 3, 5, 7, 11, 13, 17, 19, 23, 29, 31, 37, 41, 43, 47, 53, 59, 61, 67, 71, 73, 79, 83, 89, 97] : List Nat) := by
  have k : ∀ p ∈ primesL, p.toNat ∈ ([2, 3, 5, 7, 11, 13, 17, 19, 23, 29, 31, 37, 41, 43, 47, 53, 59, 61, 67, 71, 73, 79, 83, 89, 97] : List Nat) := by decide +kernel
  exact k p h
theorem inv_mul {p n : Int} (hp : p ∈ primesL) (h0 : 0 < n) (h1 : n < p) : n * inv p n % p = 1 := by
  have hb := prime_bd hp
  have h := inv_all p.toNat (primes_nat hp) n.toNat (by omega) (by omega)
  unfold inv
  have e : n * ((n.toNat ^ (p.toNat - 2) % p.toNat : Nat) : Int) % p = ((n.toNat * (n.toNat ^ (p.toNat - 2) % p.toNat) % p.toNat : Nat) : Int) := by
    generalize n.toNat ^ (p.toNat - 2) = z
    simp only [Int.natCast_emod, Int.natCast_mul, Int.toNat_of_nonneg (by omega : 0 ≤ n), Int.toNat_of_nonneg (by omega : 0 ≤ p)]
  rw [e, h] <;> rfl
theorem inv_bd {p n : Int} (hp : p ∈ primesL) (h0 : 0 < n) (h1 : n < p) : 0 < inv p n ∧ inv p n < p := by
  have hb := prime_bd hp
  have h := inv_mul hp h0 h1
  have h2 : inv p n < p := by
    unfold inv
    have : n.toNat ^ (p.toNat - 2) % p.toNat < p.toNat := Nat.mod_lt _ (by omega)
    omega
  have h3 : 0 ≤ inv p n := by
    unfold inv
    omega
  refine ⟨?_, h2⟩
  by_cases e : inv p n = 0
  · rw [e, Int.mul_zero, Int.zero_emod] at h
    omega
  · omega
/-- what is cancelled -/
theorem cancel {p n a b : Int} (hp : p ∈ primesL) (h0 : 0 < n) (h1 : n < p) (h : Eqv p (n * a) (n * b)) : Eqv p a b := by
  have hb := prime_bd hp
  have k : ∀ x : Int, Eqv p (inv p n * (n * x)) x := fun x => by
    have e : inv p n * (n * x) = (n * inv p n) * x := by rw [← Int.mul_assoc, Int.mul_comm (inv p n) n]
    rw [e]
    have h2 : Eqv p (n * inv p n) 1 := by
      show n * inv p n % p = 1 % p
      rw [inv_mul hp h0 h1, Int.emod_eq_of_lt (by omega) (by omega)]
    have h3 := Eqv.mul h2 (Eqv.refl (p := p) (a := x))
    rwa [Int.one_mul] at h3
  exact (k a).symm.trans ((Eqv.mul Eqv.refl h).trans (k b))
/-- a product that is 0 has a factor that is -/
theorem no_zero {p a b : Int} (hp : p ∈ primesL) (h : Eqv p (a * b) 0) (ha : ¬ Eqv p a 0) : Eqv p b 0 := by
  have hb := prime_bd hp
  have hr := mod_rest (p := p) (a := a) (by omega)
  have h0 : 0 < a % p := by
    by_cases e : a % p = 0
    · exact absurd (show a % p = 0 % p by rw [e, Int.zero_emod]) ha
    · omega
  refine cancel (n := a % p) hp h0 hr.2 ?_
  refine (Eqv.mul Eqv.mod Eqv.refl).trans (h.trans ?_)
  rw [Int.mul_zero] <;> exact Eqv.refl
/-- only one such rest -/
theorem inv_only {p n f : Int} (hp : p ∈ primesL) (h0 : 0 < n) (h1 : n < p) (hf : 0 < f) (hf2 : f < p) (h : n * f % p = 1) : f = inv p n := by
  have hb := inv_bd hp h0 h1
  exact Eqv.iff ⟨by omega, hf2⟩ ⟨by omega, hb.2⟩ (cancel hp h0 h1 (show n * f % p = n * inv p n % p by rw [h, inv_mul hp h0 h1]))

/-! ### rows -/
def Rests (p : Int) (xs : List Int) : Prop := ∀ x ∈ xs, 0 ≤ x ∧ x < p
theorem Rests.get {p : Int} {xs : List Int} (h : Rests p xs) (hp : 0 < p) (k : Nat) : 0 ≤ xs.getD k 0 ∧ xs.getD k 0 < p := by
  by_cases hk : k < xs.length
  · exact h _ (List.mem_of_getElem? (getD_some hk))
  · rw [List.getD_eq_getElem?_getD, List.getElem?_eq_none (by omega)]
    exact ⟨Int.le_refl 0, hp⟩
theorem rests_map {p : Int} {n : Nat} {f : Nat → Int} (h : ∀ i, i < n → 0 ≤ f i ∧ f i < p) : Rests p ((List.range n).map f) := fun x hx => by
  obtain ⟨i, hi, rfl⟩ := List.mem_map.mp hx
  exact h i (List.mem_range.mp hi)
theorem getD_map {n : Nat} {f : Nat → Int} {k : Nat} (h : k < n) : ((List.range n).map f).getD k 0 = f k := by
  rw [List.getD_eq_getElem?_getD, List.getElem?_map, List.getElem?_range h] <;> rfl
theorem ext_getD {xs ys : List Int} (h : xs.length = ys.length) (k : ∀ i, i < xs.length → xs.getD i 0 = ys.getD i 0) : xs = ys := by
  refine List.ext_getElem? fun i => ?_
  by_cases hi : i < xs.length
  · rw [getD_some hi, getD_some (by omega), k i hi]
  · rw [List.getElem?_eq_none (by omega), List.getElem?_eq_none (by omega)]
/-- the place k of a product -/
def cv (f g : Nat → Int) (k : Nat) : Int := sumN (k + 1) fun a => f a * g (k - a)
def at0 (xs : List Int) (k : Nat) : Int := xs.getD k 0
def timesL (p : Int) (xs ys : List Int) : List Int := (List.range (min xs.length ys.length)).map fun k => cv (at0 xs) (at0 ys) k % p
theorem timesL_len (p : Int) (xs ys : List Int) : (timesL p xs ys).length = min xs.length ys.length := by
  unfold timesL
  rw [List.length_map, List.length_range]
theorem timesL_at {p : Int} {xs ys : List Int} {k : Nat} (h : k < min xs.length ys.length) : at0 (timesL p xs ys) k = cv (at0 xs) (at0 ys) k % p := getD_map h
theorem timesL_rests {p : Int} {xs ys : List Int} (hp : 0 < p) : Rests p (timesL p xs ys) := rests_map fun i _ => mod_rest hp
theorem cv_comm (f g : Nat → Int) (k : Nat) : cv f g k = cv g f k := by
  unfold cv
  rw [sumN_rev]
  refine sumN_congr fun i hi => ?_
  rw [Int.mul_comm, show k + 1 - 1 - i = k - i by omega, show k - (k - i) = i by omega]
theorem cv_congr {p : Int} {f f' g g' : Nat → Int} {k : Nat} (h : ∀ i, i ≤ k → Eqv p (f i) (f' i)) (h' : ∀ i, i ≤ k → Eqv p (g i) (g' i)) : Eqv p (cv f g k) (cv f' g' k) :=
  Eqv.sum fun i hi => (h i (by omega)).mul (h' (k - i) (by omega))
/-- parted, place by place -/
def partF (p y0 : Int) (f g : Nat → Int) : Nat → List Int
  | 0 => []
  | n + 1 => partF p y0 f g n ++ [(f n - sumN n fun a => at0 (partF p y0 f g n) a * g (n - a)) * inv p y0 % p]
theorem partF_len (p y0 : Int) (f g : Nat → Int) : ∀ n, (partF p y0 f g n).length = n
  | 0 => rfl
  | n + 1 => by
    unfold partF
    rw [List.length_append, partF_len p y0 f g n] <;> rfl
theorem at0_append_left {xs ys : List Int} {k : Nat} (h : k < xs.length) : at0 (xs ++ ys) k = at0 xs k := by
  unfold at0
  rw [List.getD_eq_getElem?_getD, List.getD_eq_getElem?_getD, List.getElem?_append_left h]
theorem at0_last {xs : List Int} {y : Int} {k : Nat} (h : k = xs.length) : at0 (xs ++ [y]) k = y := by
  unfold at0
  rw [List.getD_eq_getElem?_getD, h, List.getElem?_append_right (Nat.le_refl _), Nat.sub_self] <;> rfl
theorem partF_mono (p y0 : Int) (f g : Nat → Int) {k n m : Nat} (h : k < n) (hm : n ≤ m) : at0 (partF p y0 f g m) k = at0 (partF p y0 f g n) k := by
  induction m with
  | zero => omega
  | succ m ih =>
    by_cases e : n = m + 1
    · rw [e]
    · rw [← ih (by omega)]
      show at0 (partF p y0 f g m ++ _) k = _
      exact at0_append_left (by rw [partF_len]; omega)
theorem partF_at (p y0 : Int) (f g : Nat → Int) {k n : Nat} (h : k < n) : at0 (partF p y0 f g n) k = (f k - sumN k fun a => at0 (partF p y0 f g n) a * g (k - a)) * inv p y0 % p := by
  rw [partF_mono p y0 f g (n := k + 1) (by omega) (by omega)]
  show at0 (partF p y0 f g k ++ _) k = _
  rw [at0_last (partF_len p y0 f g k).symm]
  congr 3
  exact sumN_congr fun a ha => by rw [partF_mono p y0 f g ha (by omega : k ≤ n)]
theorem partF_rests {p y0 : Int} {f g : Nat → Int} (hp : 0 < p) : ∀ n, Rests p (partF p y0 f g n)
  | 0 => fun x hx => by cases hx
  | n + 1 => fun x hx => by
    unfold partF at hx
    rcases List.mem_append.mp hx with h | h
    · exact partF_rests hp n x h
    · rw [List.mem_singleton.mp h]
      exact mod_rest hp
/-- what is parted, multiplied again -/
theorem partF_back {p : Int} {f g : Nat → Int} {k n : Nat} (hp : p ∈ primesL) (h0 : 0 < g 0) (h1 : g 0 < p) (h : k < n) : Eqv p (cv (at0 (partF p (g 0) f g n)) g k) (f k) := by
  unfold cv
  rw [sumN_succ, Nat.sub_self, partF_at p (g 0) f g h]
  generalize hs : (sumN k fun a => at0 (partF p (g 0) f g n) a * g (k - a)) = s
  have e : Eqv p ((f k - s) * inv p (g 0) % p * g 0) (f k - s) := by
    refine (Eqv.mul Eqv.mod Eqv.refl).trans ?_
    have h2 : Eqv p (g 0 * inv p (g 0)) 1 := by
      have hb := prime_bd hp
      show g 0 * inv p (g 0) % p = 1 % p
      rw [inv_mul hp h0 h1, Int.emod_eq_of_lt (by omega) (by omega)]
    have e3 : (f k - s) * inv p (g 0) * g 0 = (f k - s) * (g 0 * inv p (g 0)) := by rw [Int.mul_assoc, Int.mul_comm (inv p (g 0))]
    rw [e3]
    have h4 := Eqv.mul (Eqv.refl (p := p) (a := f k - s)) h2
    rwa [Int.mul_one] at h4
  have h5 := Eqv.add (Eqv.refl (p := p) (a := s)) e
  rwa [show s + (f k - s) = f k by omega] at h5
end Px

namespace Px
open PySem PySem.Spec PyProof.Rows L2
variable [Tb]
theorem cmul_l {i j : Int} (h : -1000000000000000000 < i ∧ i < 1000000000000000000) : CMulX i j := .inl (.inl ⟨by omega, by omega⟩)
theorem cmul_r {i j : Int} (h : -1000000000000000000 < j ∧ j < 1000000000000000000) : CMulX i j := .inl (.inr ⟨by omega, by omega⟩)
theorem cmul_at {p : Int} {xs : List Int} {k : Nat} {j : Int} (h : Rests p xs) (hp : 0 < p ∧ p ≤ 1000000) : CMulX (xs.getD k 0) j := cmul_l (by
  have := h.get hp.1 k
  omega)
theorem cmul_atR {p : Int} {xs : List Int} {k : Nat} {j : Int} (h : Rests p xs) (hp : 0 < p ∧ p ≤ 1000000) : CMulX j (xs.getD k 0) := cmul_r (by
  have := h.get hp.1 k
  omega)
theorem log2_small {n : Nat} (h : n < 1000000000) : n.log2 < 9000 := by
  by_cases h0 : n = 0
  · rw [h0]
    decide
  · have := (Nat.log2_lt h0 (k := 30)).mpr (by omega)
    omega
theorem cdiv_small {i j : Int} (h : 0 < j ∧ j < 1000000000) : CDivW i j := ⟨h.1, log2_small (by omega)⟩
theorem cpow_small {i j : Int} (h : -1000000000 < i ∧ i < 1000000000 ∧ 0 ≤ j ∧ j ≤ 1000) : CPow i j := ⟨by omega, by omega, by omega⟩

end Px
namespace Px
open PySem PySem.Spec PyProof.Rows L2
variable [Tb]
theorem it_range1_is {K : PySem.W.Frag} {te : TE} {ds : List Slot} {i : Int} {n : Nat} (h : Ev K .I te ds (.int i)) (h1 : i = (n : Int)) (h2 : n ≤ 100000) : ItD K (iRng1 (tCons te tNil)) ds (rngD 0 n) := by
  have := it_range1 h (by omega) (by omega)
  rwa [show i.toNat = n by omega] at this
end Px

namespace Px
open PySem PySem.Spec PyProof.Rows L2
variable [Tb]
/-! ### great numbers -/
theorem big_add {x y : Int} {n k : Nat} (hx : x.natAbs < 2 ^ n) (hy : y.natAbs < 2 ^ k) : (x + y).natAbs < 2 ^ (n + k + 1) := by
  have h1 : (x + y).natAbs ≤ x.natAbs + y.natAbs := Int.natAbs_add_le x y
  have h2 : 2 ^ n ≤ 2 ^ (n + k) := Nat.pow_le_pow_right (by decide) (by omega)
  have h3 : 2 ^ k ≤ 2 ^ (n + k) := Nat.pow_le_pow_right (by decide) (by omega)
  rw [Nat.pow_succ]
  omega
theorem big_mul {x y : Int} {n k : Nat} (hx : x.natAbs < 2 ^ n) (hy : y.natAbs < 2 ^ k) : (x * y).natAbs < 2 ^ (n + k) := by
  rw [Int.natAbs_mul, Nat.pow_add]
  exact Nat.mul_lt_mul'' hx hy
theorem big_le {x : Int} {n k : Nat} (hx : x.natAbs < 2 ^ n) (h : n ≤ k) : x.natAbs < 2 ^ k := Nat.lt_of_lt_of_le hx (Nat.pow_le_pow_right (by decide) h)
theorem cmul_big {x y : Int} {n k : Nat} (hx : x.natAbs < 2 ^ n) (hy : y.natAbs < 2 ^ k) (h : n + k ≤ 50000000) : CMulX x y := by
  have h1 : x.natAbs.log2 < n + 1 := PySem.Flt.log2_lt_of (Nat.succ_pos n) (big_le hx (Nat.le_succ n))
  have h2 : y.natAbs.log2 < k + 1 := PySem.Flt.log2_lt_of (Nat.succ_pos k) (big_le hy (Nat.le_succ k))
  exact .inr (by omega)
theorem set_map_range {n k : Nat} {f : Nat → Int} {v : Int} : ((List.range n).map f).set k v = (List.range n).map fun i => if i = k then v else f i := by
  refine List.ext_getElem? fun i => ?_
  rw [List.getElem?_set, List.getElem?_map, List.getElem?_map, List.length_map, List.length_range]
  by_cases hi : i < n
  · rw [List.getElem?_range hi]
    by_cases e : k = i
    · subst e
      simp [hi]
    · have e2 : i ≠ k := fun z => e z.symm
      simp [e, e2]
  · rw [List.getElem?_eq_none (by rw [List.length_range]; omega)]
    by_cases e : k = i
    · subst e
      simp [hi]
    · simp [e]
theorem map_set_int {ns : List Int} {k : Nat} {v : Int} : (ns.map D.int).set k (.int v) = (ns.set k v).map D.int := by
  rw [List.map_set]
theorem replicate_map {n : Nat} {x : Int} : List.replicate n x = (List.range n).map fun _ => x := by
  refine List.ext_getElem? fun i => ?_
  rw [List.getElem?_replicate, List.getElem?_map]
  by_cases hi : i < n
  · rw [List.getElem?_range hi, if_pos hi] <;> rfl
  · rw [List.getElem?_eq_none (by rw [List.length_range]; omega), if_neg hi] <;> rfl
end Px
namespace Px
variable [Tb]
theorem cut_m1 {α : Type} (xs : List α) (y : α) : cut (xs ++ [y]) none (some (-1)) = xs := by
  unfold cut
  rw [HT.sIx_none, List.drop_zero, Nat.sub_zero]
  have e : HT.sIx (xs ++ [y]).length (xs ++ [y]).length (some (-1)) = xs.length := by
    show (if (-1 : Int) < 0 then ((-1 : Int) + ((xs ++ [y]).length : Int)).toNat else min (-1 : Int).toNat (xs ++ [y]).length) = _
    rw [if_pos (by decide), List.length_append, List.length_singleton]
    omega
  rw [e, List.take_left' rfl]
end Px

namespace Px
open PySem PySem.Spec PyProof.Rows L2 He
variable [Tb]
/-! ### the head's facts, with one more Bool -/
def obsB (fa : List Fa) (ex : PySem.W.Frag → Bool) (fn : List DefD) (K : PySem.W.Frag) : AlD := (((fa.all fun f => f.ok K) && ex K) && fn.all fun d => d.ok K, fn.map fun d => fnW K d.at_)
def SaysB (fa : List Fa) (ex : PySem.W.Frag → Bool) (fn : List DefD) (K : PySem.W.Frag) : Prop := obsB fa ex fn K = valD fn
def obsBG (n : Nat) (fa : List Fa) (ex : PySem.W.Frag → Bool) (fn : List DefD) (g : Addr → Option Obj) : AlD := obsB fa ex fn (frG g (asD g n))
def hookB (n : Nat) (fa : List Fa) (ex : PySem.W.Frag → Bool) (fn : List DefD) : PySem.W.Hook where
  α := AlD
  obs := fun s => obsBG n fa ex fn s.heap.get?
  val := fun _ => valD fn
  says := fun _ h => ∃ K : PySem.W.Frag, K.In h ∧ SaysB fa ex fn K
  of := fun _ _ e => ⟨_, frG_in, e⟩
  keeps := fun _ _ _ ⟨K, hK, c⟩ k => ⟨K, PySem.W.Frag.In.keeps hK k, c⟩
theorem obsBG_eq {n : Nat} {fa : List Fa} {ex : PySem.W.Frag → Bool} {fn : List DefD} {g : Addr → Option Obj} {s : Shared} (h : ∀ a, g a = s.heap.get? a) : obsBG n fa ex fn g = (hookB n fa ex fn).obs s := by
  have e : g = s.heap.get? := funext h
  rw [e] <;> rfl
section
variable {fa : List Fa} {ex : PySem.W.Frag → Bool} {fn : List DefD} {K : PySem.W.Frag}
theorem SaysB.all (c : SaysB fa ex fn K) : (((fa.all fun f => f.ok K) && ex K) && (fn.all fun d => d.ok K)) = true := congrArg (fun z : AlD => z.1) c
theorem SaysB.fact (c : SaysB fa ex fn K) (i : Nat) {f : Fa} (h : fa[i]? = some f := by rfl) : f.ok K = true :=
  List.all_eq_true.mp (ba (ba c.all).1).1 f (List.mem_of_getElem? h)
theorem SaysB.more (c : SaysB fa ex fn K) : ex K = true := (ba (ba c.all).1).2
theorem SaysB.def_ (c : SaysB fa ex fn K) (i : Nat) {d : DefD} (h : fn[i]? = some d := by rfl) : ∃ fd, FunD K d.name d.qual d.params d.body d.scope (d.dvs K) (d.kws K) (fAd K d.at_) fd := by
  have e : fn.map (fun d => fnW K d.at_) = fn.map DefD.val := congrArg (fun z : AlD => z.2) c
  have e2 : (fn.map fun d => fnW K d.at_)[i]? = (fn.map DefD.val)[i]? := by rw [e]
  rw [List.getElem?_map, List.getElem?_map, h] at e2
  exact DefD.funD (Option.some.inj e2) (List.all_eq_true.mp (ba c.all).2 d (List.mem_of_getElem? h))
end
theorem excG_of {K : PySem.W.Frag} {h : Heap} {mg : Str → Option Value} (X : K.In h) (G : h.Ns mainGlobals mg) {x : Str} (c : (Fa.exc x).ok K = true) (g : (Fa.glo x).ok K = true) : ExcG K mg x (ga K x) := by
  obtain ⟨h1, h2, h3, h4⟩ := exc_ok c
  exact ⟨glo_ok X G g, h1, h2, h3, h4⟩
/-- more facts, by names -/
inductive Fx where
  | kit (x y : Str) (b : Bool)
  | excC (x : Str)
  | tup (x : Str) (ns : List Int)
  | mk0 (x : Str)
  | insC (x : Str)
def Fx.ok (K : PySem.W.Frag) : Fx → Bool
  | .kit x y b => decide (PySem.W.kitOne K (.ref (ga K x)) (.ref (ga K y)) = some b)
  | .excC x => eqO (PySem.W.findIn K (.ref (ga K x)) "__getattribute__") (some (some (.builtin "BaseException.__getattribute__"))) && (eqO (PySem.W.findIn K (.ref (ga K x)) "__getattr__") (some none) && (decide (PySem.W.subIn K (.ref (ga K x)) (.type "BaseException") = some true) && (PySem.W.hasDictIn K (ga K x) &&
      (eqO (PySem.W.findIn K (.ref (ga K x)) "__class__") (some (some (.builtin "object.__class__"))) && (eqO (PySem.W.specialIn K (.builtin "object.__class__") "__get__") (some (some (.builtin "getset_descriptor.__get__"))) && (decide (PySem.W.takesIn K (.builtin "object.__class__") = some true) &&
      decide (PySem.W.mroIn K (ga K x) (.type "object") = some true)))))))
  | .tup x ns => tupB K x (ns.map Dv.int)
  | .mk0 x => PySem.W.makesIn K (ga K x) && (eqO (PySem.W.findIn K (.ref (ga K x)) "__init__") (some (some (.builtin "object.__init__"))) && (decide (PySem.W.mroIn K (ga K x) (.type "object") = some true) && PySem.W.keepIn K (.ref (ga K x))))
  | .insC x => eqO (PySem.W.findIn K (.ref (ga K x)) "__class__") (some (some (.builtin "object.__class__"))) && (eqO (PySem.W.specialIn K (.builtin "object.__class__") "__get__") (some (some (.builtin "getset_descriptor.__get__"))) && (decide (PySem.W.takesIn K (.builtin "object.__class__") = some true) && decide (PySem.W.mroIn K (ga K x) (.type "object") = some true)))
theorem kit_ok {K : PySem.W.Frag} {x y : Str} {b : Bool} (h : (Fx.kit x y b).ok K = true) : PySem.W.kitOne K (.ref (ga K x)) (.ref (ga K y)) = some b := of_decide_eq_true h
theorem excC_ok {K : PySem.W.Frag} {x : Str} (h : (Fx.excC x).ok K = true) : ExcC K (ga K x) := by
  obtain ⟨h1, h⟩ := ba h
  obtain ⟨h2, h⟩ := ba h
  obtain ⟨h3, h⟩ := ba h
  obtain ⟨h4, h⟩ := ba h
  obtain ⟨h5, h⟩ := ba h
  obtain ⟨h6, h⟩ := ba h
  obtain ⟨h7, h8⟩ := ba h
  exact ⟨eqO_ok h1, eqO_ok h2, of_decide_eq_true h3, h4, eqO_ok h5, eqO_ok h6, of_decide_eq_true h7, of_decide_eq_true h8⟩
theorem tup_ok {K : PySem.W.Frag} {x : Str} {ns : List Int} (h : (Fx.tup x ns).ok K = true) : ∀ H', SqT K H' (ga K x) (ns.map V.int) := fun H' => by
  have e := tupB_ok (show tupB K x (ns.map Dv.int) = true from h) H'
  rwa [List.map_map] at e
def exF (fx : List Fx) (K : PySem.W.Frag) : Bool := fx.all fun f => f.ok K
theorem exF_at {fx : List Fx} {K : PySem.W.Frag} (h : exF fx K = true) (i : Nat) {f : Fx} (e : fx[i]? = some f := by rfl) : f.ok K = true := List.all_eq_true.mp h f (List.mem_of_getElem? e)
/-! ### a def's promise by its own object -/
theorem fn_mk {P : Program} {w : World} {K : PySem.W.Frag} {mg : Str → Option Value} {base : Heap} {x : Str} {params : Arguments} {body : List Stmt} {scope : Scope} {f : Addr} {fd : FuncData} {N ps : List Str} {k : Nat} {S : SpF} {t : WX → TS}
    (F : FunD K x x params body scope [] [] f fd) (sc : FnScope N ps scope) (hlen : ∀ ds R X, S ds R X → ds.length = ps.length) (hN : ps.length ≤ N.length)
    (hd : ∀ (cdv : Value) (A : Around) (outer : List PySem.Env) (s : Shared) (H : Hp) (E : XK), Room k (A.deeper (envOfC x scope s.heap.objs.size f cdv)) → PSs (cxOf (L2N.CX P w) P w K mg base N x scope f cdv A outer s H E) body (t fun cls d _ H => E cls d H))
    (hp : ∀ W ds R X, S ds R X → SW K W (t W) (startD N ds) { nx := fun _ => R .non, rt := R, xc := fun C _ => X C }) : FnOk P w K mg base (L2N.CX P w) (k + 1) f fd ps (spD K S) := by
  refine F.ok sc (fun vs H Q E h => ?_) fun cdv A outer s H vs Q E hr h => ?_
  · obtain ⟨_, ds, R, X, h1, h2, _⟩ := h
    rw [h1.length, hlen ds R X h2]
  · obtain ⟨ht, ds, R, X, h1, h2, hQ, hE⟩ := h
    exact ⟨_, hd cdv A outer s H E hr, body_of ht h1 (by rw [hlen ds R X h2]; exact hN) hQ hE (hp _ ds R X h2)⟩
/-! ### a law's end, the script's bits told -/
theorem walk_ofEB {l : PySem.W.OpenLaw} {n k : Nat} {q : Program} {loose : List Str} {XP : (Str → Option Value) → Heap → Prop} {YP : World → Heap → Prop} {d : DefRec} {CX : World → CXT} {x : Str}
    (hn : l.most = some n) (hn2 : n ≤ sizeLine) (hdf : d.params.defaults = []) (hr : Room k callerA)
    (F : ∀ (w : World) (mg : Str → Option Value) (fa : Addr) (h : Heap), YP w h → h.Ns mainGlobals mg → mg d.name = some (.ref fa) →
      ∃ (K : PySem.W.Frag) (fd : FuncData) (sp : Sp), K.In h ∧ (∀ (s : Shared) (u : Value), BindsTo s fd ⟨[u], []⟩ [(x, u)]) ∧
        (∀ (H : Hp) (a : Addr) (ns : List Int), ns.length ≤ n → (∀ z ∈ ns, Builtin.Int.intBits z ≤ 1048576) → Only H → SqL K H a (ns.map V.int) → sp [.ref a] H (fun v _ => v = .bl true) fun _ _ _ => False) ∧
        ∀ base : Heap, K.In base → base.Ns mainGlobals mg → FnOk l.prog w K mg base (CX w) k fa fd [x] sp)
    (hCX : ∀ (w : World) (H : Hp) (s : Shared) (e : Value) (s' : Shared), CX w [] H s (fun _ _ _ => False) e s' → False) :
    PySem.W.WalkO q loose XP YP l.row.toRowW d [] (fun f vs => PySem.call f vs) := by
  refine Att.attach_callB hn hdf fun w s₀ s₁ mg mb fa o pm cd doc a vs ns G Y ho hd hcd hmg hobj hints hlen hbits hg => ?_
  obtain ⟨K, fd, sp, KX, hb, hsp, hF⟩ := F w mg fa _ Y G.T.g hmg
  exact law_call KX G.T.g G.T.b G.T.builtins G.T.nolimit hg hobj hints (Nat.le_trans hlen hn2) hr hF hb (fun H hO hS => hsp H a ns hlen hbits hO hS) fun H e s' => hCX w H s₁ e s'
def bitN : Nat := 1048577
theorem bitN_bd : 3 ≤ bitN ∧ bitN ≤ 1999999 := by
  unfold bitN
  omega
theorem bits_of {z : Int} (h : Builtin.Int.intBits z ≤ 1048576) : z.natAbs < 2 ^ bitN := by
  have hb : bitN = 1048577 := rfl
  generalize bitN = n at hb ⊢
  unfold Builtin.Int.intBits at h
  split at h
  · rename_i h0
    have e : z = 0 := by simpa using h0
    rw [e]
    exact Nat.two_pow_pos n
  · have h1 : z.natAbs.log2 < n := by omega
    by_cases h0 : z.natAbs = 0
    · rw [h0]
      exact Nat.two_pow_pos n
    · exact (Nat.log2_lt h0).mp h1
theorem fz_of {K : PySem.W.Frag} {H : Hp} {a : Addr} {ns : List Int} (h : SqL K H a (ns.map V.int)) : Is K H (.fz ns) (.ref a) := by
  simp only [Is]
  exact ⟨a, rfl, h⟩
/-- the law's own promise -/
theorem law_sp {K : PySem.W.Frag} {H : Hp} {a : Addr} {ns : List Int} {S : SpF} (ht : LamX.Tabs Tb.T H) (h : SqL K H a (ns.map V.int)) (hS : S [.fz ns] (fun d => d = .bl true) (fun _ => False)) : spD K S [.ref a] H (fun v _ => v = .bl true) fun _ _ _ => False :=
  ⟨ht, [.fz ns], _, _, IsL.cons (fz_of h) IsL.nil, hS, fun v H' d _ hd hv => by
    rw [hd] at hv
    exact is_bl.mp hv, fun _ _ _ z => z.elim⟩
end Px

namespace Px
open PySem PySem.Spec PyProof.Rows L2
variable [Tb]
mutual
theorem plain_py : ∀ d : D, (py d).plain = true
  | .non => by simp only [py]; rfl
  | .bl b => by simp only [py]; rfl
  | .int b => by simp only [py]; rfl
  | .str b => by simp only [py]; rfl
  | .lst l => by simp only [py, PyData.plain]; exact plain_pyL l
  | .tup l => by simp only [py, PyData.plain]; exact plain_pyL l
  | .fz l => by simp only [py, PyData.plain]; exact plainAll_ints l
  | .ty _ => by simp only [py]; rfl
  | .kt _ => by simp only [py]; rfl
  | .cl _ => by simp only [py]; rfl
  | .emp => by simp only [py]; rfl
  | .ob _ _ _ => by simp only [py]; rfl
  | .lam _ _ => by simp only [py]; rfl
  | .lmf _ => by simp only [py]; rfl
theorem plain_pyL : ∀ l : List D, PyData.plainAll (pyL l) = true
  | [] => by simp only [pyL]; rfl
  | d :: l => by simp only [pyL, PyData.plainAll, plain_py d, plain_pyL l, Bool.and_self]
end
theorem eqv_self (d : D) : PyData.eqv (py d) (py d) = true := PySem.SeqAt.eqv_refl_plain _ (plain_py d)
section
variable {K : PySem.W.Frag} {ds : List Slot} {m : Md} {ta tb : TE} {d : D}
theorem ev_neS (ha : Ev K .I ta ds d) (hb : Ev K .I tb ds d) (h1 : pyOk d = true) (s1 : SeqAt.shaped (py d) = true) : Ev K m (tOp (rNeX K) ta tb) ds (.bl false) :=
  (ev_neD ha hb h1 h1 s1 s1).is (by rw [eqv_self] <;> rfl)
theorem ev_eqS (ha : Ev K .I ta ds d) (hb : Ev K .I tb ds d) (h1 : pyOk d = true) (s1 : SeqAt.shaped (py d) = true) : Ev K m (tOp (rEqX K) ta tb) ds (.bl true) :=
  (ev_eqD ha hb h1 h1 s1 s1).is (by rw [eqv_self] <;> rfl)
theorem pyOkL_map {α : Type} {f : α → D} {l : List α} (h : ∀ x, pyOk (f x) = true) : pyOkL (l.map f) = true := by
  induction l with
  | nil => rfl
  | cons x r ih => simp only [List.map_cons, pyOkL, h x, ih, Bool.and_self]
end
theorem at0_take {xs : List Int} {n k : Nat} (h : k < n) : at0 (xs.take n) k = at0 xs k := by
  unfold at0
  rw [List.getD_eq_getElem?_getD, List.getD_eq_getElem?_getD, List.getElem?_take_of_lt h]
def DepD (n : Nat) (d : D) : Prop := (py d).canLay0 = true ∧ (py d).depth ≤ n
theorem dep_int (i : Int) : DepD 1 (.int i) := by unfold DepD; simp [py, PyData.depth, PyData.canLay0]
theorem dep_bl (b : Bool) : DepD 1 (.bl b) := by unfold DepD; simp [py, PyData.depth, PyData.canLay0]
theorem depAll_of {n : Nat} : ∀ {l : List D}, (∀ e ∈ l, DepD n e) → PyData.canLayAll0 (pyL l) = true ∧ PyData.depthAll (pyL l) ≤ n
  | [], _ => by simp [pyL, PyData.depthAll, PyData.canLayAll0]
  | d :: l, h => by
    obtain ⟨h1, h1'⟩ := h d List.mem_cons_self
    obtain ⟨h2, h2'⟩ := depAll_of (fun e he => h e (List.mem_cons_of_mem _ he))
    simp only [pyL, PyData.depthAll, PyData.canLayAll0, h1, h2, Bool.and_self, true_and]
    omega
theorem dep_lst {n : Nat} {l : List D} (h : ∀ e ∈ l, DepD n e) : DepD (n + 1) (.lst l) := by
  obtain ⟨h1, h2⟩ := depAll_of h
  unfold DepD
  simp only [py, PyData.depth, PyData.canLay0]
  exact ⟨h1, by omega⟩
theorem dep_tup {n : Nat} {l : List D} (h : ∀ e ∈ l, DepD n e) : DepD (n + 1) (.tup l) := by
  obtain ⟨h1, h2⟩ := depAll_of h
  unfold DepD
  simp only [py, PyData.depth, PyData.canLay0]
  exact ⟨h1, by omega⟩
theorem dep_li (ns : List Int) : DepD 2 (li ns) := dep_lst fun e he => by
  obtain ⟨i, _, rfl⟩ := List.mem_map.mp he
  exact dep_int i
theorem shaped_dep {n : Nat} {d : D} (h : DepD n d) (hn : n ≤ 64) : SeqAt.shaped (py d) = true := by
  unfold SeqAt.shaped
  rw [h.1, Bool.true_and]
  exact decide_eq_true (Nat.le_trans h.2 hn)
theorem Ev.frz {K : PySem.W.Frag} {m : Md} {ds : List Slot} {te : TE} {d : D} {l : List D} {k : Nat} (hf : flat d = true) (h : ds[k]? = some (.ow l)) (hE : Ev K .I te (ds.set k (.nw (.lst l))) d) : Ev K m te ds d := fun He ex O H σ I Q q => by
  obtain ⟨O', I'⟩ := I.freeze h
  exact hE He ex O' H σ I' Q fun v H2 e z => q v H2 e (z.flat hf)
end Px

namespace Px
variable [Tb]
/-! ### rows of 0, of 1; powers -/
def zs (m : Nat) : List Int := (List.range m).map fun _ => 0
def oneL (m : Nat) : List Int := (List.range m).map fun k => if k = 0 then 1 else 0
theorem rep_zs (m : Nat) : List.replicate m (0 : Int) = zs m := replicate_map
theorem zs_len (m : Nat) : (zs m).length = m := by
  unfold zs
  rw [List.length_map, List.length_range]
theorem oneL_len (m : Nat) : (oneL m).length = m := by
  unfold oneL
  rw [List.length_map, List.length_range]
theorem zs_rests {p : Int} (hp : 0 < p) (m : Nat) : Rests p (zs m) := rests_map fun i _ => ⟨Int.le_refl 0, hp⟩
theorem oneL_rests {p : Int} (hp : 1 < p) (m : Nat) : Rests p (oneL m) := rests_map fun i _ => by
  by_cases h : i = 0
  · rw [if_pos h]; omega
  · rw [if_neg h]; omega
theorem one_cat {m : Nat} (h : 1 ≤ m) : [(1 : Int)] ++ List.replicate (m - 1) 0 = oneL m := by
  obtain ⟨k, rfl⟩ : ∃ k, m = k + 1 := ⟨m - 1, by omega⟩
  unfold oneL
  rw [List.range_succ_eq_map, List.map_cons, List.map_map, Nat.add_sub_cancel, replicate_map]
  rfl
theorem zs_at (m k : Nat) : at0 (zs m) k = 0 := by
  unfold at0 zs
  rw [← replicate_map, List.getD_eq_getElem?_getD, List.getElem?_replicate]
  split <;> rfl
theorem oneL_at {m k : Nat} (h : k < m) : at0 (oneL m) k = if k = 0 then 1 else 0 := getD_map h
def pw (p : Int) (m : Nat) (here : List Int) : Nat → List Int
  | 0 => oneL m
  | n + 1 => timesL p (pw p m here n) here
theorem pw_len {p : Int} {m : Nat} {here : List Int} (h : here.length = m) : ∀ n, (pw p m here n).length = m
  | 0 => oneL_len m
  | n + 1 => by
    show (timesL p (pw p m here n) here).length = m
    rw [timesL_len, pw_len h n, h, Nat.min_self]
theorem pw_rests {p : Int} {m : Nat} {here : List Int} (hp : 1 < p) : ∀ n, Rests p (pw p m here n)
  | 0 => oneL_rests hp m
  | n + 1 => timesL_rests (by omega)
theorem sumN_from (b : Nat) (f : Nat → Int) : ∀ n, sumN n (fun a => if b ≤ a then f a else 0) = sumN (n - b) fun c => f (b + c)
  | 0 => by rw [Nat.zero_sub, sumN_zero, sumN_zero]
  | n + 1 => by
    rw [sumN_succ, sumN_from b f n]
    by_cases h : b ≤ n
    · rw [if_pos h, show n + 1 - b = (n - b) + 1 by omega, sumN_succ, show b + (n - b) = n by omega]
    · rw [if_neg h, show n + 1 - b = n - b by omega, Int.add_zero]
theorem sumN_to {b n : Nat} (h : b ≤ n) (f : Nat → Int) : sumN n (fun a => if a < b then f a else 0) = sumN b f := by
  rw [sumN_more h fun i h1 _ => by rw [if_neg (by omega)]]
  exact sumN_congr fun i hi => by rw [if_pos hi]
theorem cv_assoc (f g h : Nat → Int) (k : Nat) : cv (cv f g) h k = cv f (cv g h) k := by
  have e1 : cv (cv f g) h k = sumN (k + 1) fun a => sumN (k + 1) fun b => if b < a + 1 then f b * g (a - b) * h (k - a) else 0 := by
    unfold cv
    refine sumN_congr fun a ha => ?_
    rw [sumN_to (b := a + 1) (by omega), sumN_mulR]
  have e2 : cv f (cv g h) k = sumN (k + 1) fun b => sumN (k + 1) fun a => if b ≤ a then f b * g (a - b) * h (k - a) else 0 := by
    unfold cv
    refine sumN_congr fun b hb => ?_
    rw [sumN_from b, ← sumN_mul, show k + 1 - b = k - b + 1 by omega]
    refine sumN_congr fun c hc => ?_
    rw [show b + c - b = c by omega, show k - (b + c) = k - b - c by omega, Int.mul_assoc]
  rw [e1, e2, sumN_swap]
  refine sumN_congr fun b hb => sumN_congr fun a ha => ?_
  by_cases z : b ≤ a
  · rw [if_pos z, if_pos (by omega)]
  · rw [if_neg z, if_neg (by omega)]
theorem timesL_comm (p : Int) (xs ys : List Int) : timesL p xs ys = timesL p ys xs := by
  unfold timesL
  rw [Nat.min_comm]
  refine List.map_congr_left fun k _ => ?_
  rw [cv_comm]
theorem timesL_assoc {p : Int} {m : Nat} {xs ys ws : List Int} (hx : xs.length = m) (hy : ys.length = m) (hw : ws.length = m) : timesL p (timesL p xs ys) ws = timesL p xs (timesL p ys ws) := by
  have l1 : (timesL p xs ys).length = m := by rw [timesL_len, hx, hy, Nat.min_self]
  have l2 : (timesL p ys ws).length = m := by rw [timesL_len, hy, hw, Nat.min_self]
  have e1 : (timesL p (timesL p xs ys) ws).length = m := by rw [timesL_len, l1, hw, Nat.min_self]
  have e2 : (timesL p xs (timesL p ys ws)).length = m := by rw [timesL_len, l2, hx, Nat.min_self]
  refine ext_getD (by rw [e1, e2]) fun k hk => ?_
  rw [e1] at hk
  show at0 _ k = at0 _ k
  rw [timesL_at (by rw [l1, hw]; omega), timesL_at (by rw [hx, l2]; omega)]
  have h1 : Eqv p (cv (at0 (timesL p xs ys)) (at0 ws) k) (cv (cv (at0 xs) (at0 ys)) (at0 ws) k) := cv_congr (fun i hi => by
    rw [timesL_at (by rw [hx, hy]; omega)]
    exact Eqv.mod) fun _ _ => Eqv.refl
  have h2 : Eqv p (cv (at0 xs) (at0 (timesL p ys ws)) k) (cv (at0 xs) (cv (at0 ys) (at0 ws)) k) := cv_congr (fun _ _ => Eqv.refl) fun i hi => by
    rw [timesL_at (by rw [hy, hw]; omega)]
    exact Eqv.mod
  rw [cv_assoc] at h1
  exact h1.trans h2.symm
theorem cv_one {m k : Nat} (h : k < m) (f : Nat → Int) : cv (at0 (oneL m)) f k = f k := by
  unfold cv
  rw [sumN_first, oneL_at (by omega), if_pos rfl, Int.one_mul, sumN_zeros k fun i hi => by rw [oneL_at (by omega), if_neg (by omega), Int.zero_mul], Nat.sub_zero, Int.add_zero]
theorem timesL_one {p : Int} {m : Nat} {xs : List Int} (hx : xs.length = m) (hr : Rests p xs) (hp : 0 < p) : timesL p (oneL m) xs = xs := by
  refine ext_getD (by rw [timesL_len, oneL_len, hx, Nat.min_self]) fun k hk => ?_
  rw [timesL_len, oneL_len, hx, Nat.min_self] at hk
  show at0 _ k = at0 xs k
  rw [timesL_at (by rw [oneL_len, hx]; omega), cv_one hk]
  have := hr.get hp k
  exact Int.emod_eq_of_lt this.1 this.2
theorem pw_one {p : Int} {m : Nat} {xs : List Int} (hx : xs.length = m) (hr : Rests p xs) (hp : 0 < p) : pw p m xs 1 = xs := timesL_one hx hr hp
theorem pw_add {p : Int} {m : Nat} {xs : List Int} (hx : xs.length = m) (hp : 1 < p) (a : Nat) : ∀ b, pw p m xs (a + b) = timesL p (pw p m xs a) (pw p m xs b)
  | 0 => by
    show pw p m xs a = timesL p (pw p m xs a) (oneL m)
    rw [timesL_comm, timesL_one (pw_len hx a) (pw_rests hp a) (by omega)]
  | b + 1 => by
    show timesL p (pw p m xs (a + b)) xs = timesL p (pw p m xs a) (timesL p (pw p m xs b) xs)
    rw [pw_add hx hp a b, timesL_assoc (pw_len hx a) (pw_len hx b) hx]
theorem pw_sq {p : Int} {m : Nat} {xs : List Int} (hx : xs.length = m) : ∀ n, pw p m (timesL p xs xs) n = pw p m xs (2 * n)
  | 0 => rfl
  | n + 1 => by
    show timesL p (pw p m (timesL p xs xs) n) (timesL p xs xs) = timesL p (timesL p (pw p m xs (2 * n)) xs) xs
    rw [pw_sq hx n, timesL_assoc (pw_len hx _) hx hx]
theorem pw_mul {p : Int} {m : Nat} {xs : List Int} (hx : xs.length = m) (hp : 1 < p) (a : Nat) : ∀ b, pw p m xs (a * b) = pw p m (pw p m xs a) b
  | 0 => rfl
  | b + 1 => by
    show pw p m xs (a * b + a) = timesL p (pw p m (pw p m xs a) b) (pw p m xs a)
    rw [pw_add hx hp, pw_mul hx hp a b]
/-- one step of raising by squares -/
theorem raise_step {p : Int} {m : Nat} {f h : List Int} (hf : f.length = m) (hh : h.length = m) (n : Nat) :
    timesL p (if n % 2 = 1 then timesL p f h else f) (pw p m (timesL p h h) (n / 2)) = timesL p f (pw p m h n) := by
  rw [pw_sq hh]
  by_cases z : n % 2 = 1
  · rw [if_pos z, timesL_assoc hf hh (pw_len hh _)]
    have e : pw p m h n = timesL p h (pw p m h (2 * (n / 2))) := by
      rw [timesL_comm]
      show _ = pw p m h (2 * (n / 2) + 1)
      rw [show 2 * (n / 2) + 1 = n by omega]
    rw [e]
  · rw [if_neg z, show 2 * (n / 2) = n by omega]
/-- 1 and 0 to the place k -/
def Flat (k : Nat) (xs : List Int) : Prop := at0 xs 0 = 1 ∧ ∀ j, 0 < j → j < k → at0 xs j = 0
theorem pw_at_zero {p : Int} {m : Nat} {xs : List Int} (hx : xs.length = m) (hm : 1 ≤ m) (hp : 1 < p) (h : at0 xs 0 = 1) : ∀ n, at0 (pw p m xs n) 0 = 1
  | 0 => by
    show at0 (oneL m) 0 = 1
    rw [oneL_at (by omega), if_pos rfl]
  | n + 1 => by
    show at0 (timesL p (pw p m xs n) xs) 0 = 1
    rw [timesL_at (by rw [pw_len hx, hx]; omega)]
    show sumN 1 _ % p = 1
    rw [sumN_succ, sumN_zero, pw_at_zero hx hm hp h n, Nat.sub_self, h]
    exact Int.emod_eq_of_lt (by decide) hp
theorem pw_flat {p : Int} {m k : Nat} {xs : List Int} (hx : xs.length = m) (hm : 1 ≤ m) (hp : 1 < p) (h : Flat k xs) : ∀ n j, 0 < j → j < 2 * k → j < m → Eqv p (at0 (pw p m xs n) j) ((n : Int) * at0 xs j)
  | 0, j, h0, _, h2 => by
    show Eqv p (at0 (oneL m) j) _
    rw [oneL_at h2, if_neg (by omega)]
    exact Eqv.of (by simp)
  | n + 1, j, h0, h1, h2 => by
    show Eqv p (at0 (timesL p (pw p m xs n) xs) j) _
    rw [timesL_at (by rw [pw_len hx, hx]; omega)]
    refine Eqv.mod.trans ?_
    obtain ⟨i, rfl⟩ : ∃ i, j = i + 1 := ⟨j - 1, by omega⟩
    unfold cv
    rw [sumN_succ, sumN_first, pw_at_zero hx hm hp h.1 n, Nat.sub_self, h.1, Nat.sub_zero, Int.one_mul, Int.mul_one]
    have mid : Eqv p (sumN i fun a => at0 (pw p m xs n) (a + 1) * at0 xs (i + 1 - (a + 1))) 0 := by
      have e : sumN i (fun _ => (0 : Int)) = 0 := sumN_zeros i fun _ _ => rfl
      rw [← e]
      refine Eqv.sum fun a ha => ?_
      by_cases z : a + 1 < k
      · have := pw_flat hx hm hp h n (a + 1) (by omega) (by omega) (by omega)
        rw [h.2 (a + 1) (by omega) z, Int.mul_zero] at this
        have t := Eqv.mul this (Eqv.refl (p := p) (a := at0 xs (i + 1 - (a + 1))))
        rwa [Int.zero_mul] at t
      · rw [h.2 (i + 1 - (a + 1)) (by omega) (by omega), Int.mul_zero]
        exact Eqv.refl
    have last := pw_flat hx hm hp h n (i + 1) h0 h1 h2
    refine ((Eqv.add (Eqv.add (Eqv.refl (a := at0 xs (i + 1))) mid) last)).trans (Eqv.of ?_)
    push_cast
    rw [Int.add_mul, Int.one_mul]
    omega
theorem pw_twice {p : Int} {m k : Nat} {xs : List Int} (hx : xs.length = m) (hm : 1 ≤ m) (hp : 1 < p) (h : Flat k xs) : Flat (2 * k) (pw p m xs p.toNat) := by
  refine ⟨pw_at_zero hx hm hp h.1 _, fun j h0 h1 => ?_⟩
  by_cases hj : j < m
  · have e := pw_flat hx hm hp h p.toNat j h0 h1 hj
    have r := (pw_rests (m := m) (here := xs) hp p.toNat).get (by omega) j
    refine Eqv.iff r ⟨Int.le_refl 0, by omega⟩ (e.trans ?_)
    show _ % p = 0 % p
    rw [Int.toNat_of_nonneg (by omega), Int.mul_comm, Int.mul_emod_left, Int.zero_emod]
  · unfold at0
    rw [List.getD_eq_getElem?_getD, List.getElem?_eq_none (by rw [pw_len hx]; omega)] <;> rfl
theorem pw_five {p : Int} {m : Nat} {xs : List Int} (hx : xs.length = m) (hm : 1 ≤ m) (hm2 : m ≤ 32) (hp : 1 < p) (h : at0 xs 0 = 1) : pw p m xs (p.toNat ^ 5) = oneL m := by
  have f0 : Flat 1 xs := ⟨h, fun j _ _ => by omega⟩
  have f1 := pw_twice hx hm hp f0
  have f2 := pw_twice (pw_len hx _) hm hp f1
  have f3 := pw_twice (pw_len (pw_len hx _) _) hm hp f2
  have f4 := pw_twice (pw_len (pw_len (pw_len hx _) _) _) hm hp f3
  have f5 := pw_twice (pw_len (pw_len (pw_len (pw_len hx _) _) _) _) hm hp f4
  rw [show p.toNat ^ 5 = p.toNat * p.toNat * p.toNat * p.toNat * p.toNat by rw [Nat.pow_succ, Nat.pow_succ, Nat.pow_succ, Nat.pow_succ, Nat.pow_one], pw_mul hx hp, pw_mul hx hp, pw_mul hx hp, pw_mul hx hp]
  have hl := pw_len (p := p) (pw_len (p := p) (pw_len (p := p) (pw_len (p := p) (pw_len (p := p) hx p.toNat) p.toNat) p.toNat) p.toNat) p.toNat
  refine ext_getD (by rw [oneL_len]; exact hl) fun k hk => ?_
  rw [hl] at hk
  show at0 _ k = at0 (oneL m) k
  rw [oneL_at hk]
  by_cases z : k = 0
  · rw [if_pos z, z]
    exact f5.1
  · rw [if_neg z]
    exact f5.2 k (by omega) (by omega)
/-! ### roots -/
def firstsL (p x : Int) : List Int := (List.range (p - 1).toNat).filterMap fun (i : Nat) => if (1 + (i : Int)) * (1 + (i : Int)) % p = x then some (1 + (i : Int)) else none
def sqL (p : Int) : List Int := (List.range (p - 1).toNat).map fun (i : Nat) => (1 + (i : Int)) * (1 + (i : Int)) % p
def firstOk (p x : Int) : Bool := match firstsL p x with
  | [] => !(sqL p).contains x
  | r :: _ => (sqL p).contains x && decide (0 < r) && decide (2 * r ≤ p ∨ p = 2) && decide (r < p) && decide (r * r % p = x)
theorem first_all : ∀ p ∈ primesL, ∀ x : Nat, x < p.toNat → firstOk p (x : Int) = true := by decide +kernel
theorem first_none {p x : Int} (hp : p ∈ primesL) (h0 : 0 ≤ x) (h1 : x < p) : (x ∈ sqL p) ↔ firstsL p x ≠ [] := by
  have h := first_all p hp x.toNat (by omega)
  rw [Int.toNat_of_nonneg h0] at h
  unfold firstOk at h
  cases e : firstsL p x with
  | nil => rw [e] at h; simpa using h
  | cons r s => rw [e] at h; simp at h; simpa using h.1.1.1.1
theorem first_is {p x r : Int} {s : List Int} (hp : p ∈ primesL) (h0 : 0 ≤ x) (h1 : x < p) (e : firstsL p x = r :: s) : 0 < r ∧ (2 * r ≤ p ∨ p = 2) ∧ r < p ∧ r * r % p = x := by
  have h := first_all p hp x.toNat (by omega)
  rw [Int.toNat_of_nonneg h0] at h
  unfold firstOk at h
  rw [e] at h
  simp only [Bool.and_eq_true, decide_eq_true_eq] at h
  exact ⟨h.1.1.1.2, h.1.1.2, h.1.2, h.2⟩
theorem prime_odd {p : Int} (hp : p ∈ primesL) (h2 : p ≠ 2) : p % 2 = 1 := by
  have k : ∀ p ∈ primesL, p ≠ 2 → p % 2 = 1 := by decide +kernel
  exact k p hp h2
def rootF (p r b : Int) (f : Nat → Int) : Nat → List Int
  | 0 => [r]
  | n + 1 => rootF p r b f n ++ [(f (n + 1) - sumN n fun a => at0 (rootF p r b f n) (a + 1) * at0 (rootF p r b f n) (n - a)) * b % p]
theorem rootF_len (p r b : Int) (f : Nat → Int) : ∀ n, (rootF p r b f n).length = n + 1
  | 0 => rfl
  | n + 1 => by
    unfold rootF
    rw [List.length_append, rootF_len p r b f n] <;> rfl
theorem rootF_rests {p r b : Int} {f : Nat → Int} (hr : 0 ≤ r ∧ r < p) : ∀ n, Rests p (rootF p r b f n)
  | 0 => fun x hx => by rw [List.mem_singleton.mp hx]; exact hr
  | n + 1 => fun x hx => by
    unfold rootF at hx
    rcases List.mem_append.mp hx with h | h
    · exact rootF_rests hr n x h
    · rw [List.mem_singleton.mp h]
      exact mod_rest (by omega)
theorem rootF_mono (p r b : Int) (f : Nat → Int) {k n m : Nat} (h : k ≤ n) (hm : n ≤ m) : at0 (rootF p r b f m) k = at0 (rootF p r b f n) k := by
  induction m with
  | zero => rw [show n = 0 by omega]
  | succ m ih =>
    by_cases e : n = m + 1
    · rw [e]
    · rw [← ih (by omega)]
      show at0 (rootF p r b f m ++ _) k = _
      exact at0_append_left (by rw [rootF_len]; omega)
theorem rootF_zero (p r b : Int) (f : Nat → Int) (n : Nat) : at0 (rootF p r b f n) 0 = r := by
  rw [rootF_mono p r b f (n := 0) (by omega) (by omega)] <;> rfl
theorem rootF_at (p r b : Int) (f : Nat → Int) {k n : Nat} (h : k + 1 ≤ n) : at0 (rootF p r b f n) (k + 1) = (f (k + 1) - sumN k fun a => at0 (rootF p r b f n) (a + 1) * at0 (rootF p r b f n) (k - a)) * b % p := by
  rw [rootF_mono p r b f (n := k + 1) (by omega) (by omega)]
  show at0 (rootF p r b f k ++ _) (k + 1) = _
  rw [at0_last (rootF_len p r b f k).symm]
  congr 3
  exact sumN_congr fun a ha => by rw [rootF_mono p r b f (k := a + 1) (n := k) (m := n) (by omega) (by omega), rootF_mono p r b f (k := k - a) (n := k) (m := n) (by omega) (by omega)]
def rootL (p : Int) (xs : List Int) : List Int := rootF p ((firstsL p (at0 xs 0)).getD 0 0) (inv p (2 * (firstsL p (at0 xs 0)).getD 0 0 % p)) (at0 xs) (xs.length - 1)
theorem rootL_len {p : Int} {xs : List Int} (h : 1 ≤ xs.length) : (rootL p xs).length = xs.length := by
  unfold rootL
  rw [rootF_len]
  omega
theorem root_sq {p : Int} {xs : List Int} {r : Int} {s : List Int} (hp : p ∈ primesL) (h2 : p ≠ 2) (hx : Rests p xs) (hl : 1 ≤ xs.length) (e : firstsL p (at0 xs 0) = r :: s) : timesL p (rootL p xs) (rootL p xs) = xs := by
  have hb := prime_bd hp
  have ho := prime_odd hp h2
  have x0 : 0 ≤ at0 xs 0 ∧ at0 xs 0 < p := hx.get (by omega) 0
  obtain ⟨f1, f2, f3, f4⟩ := first_is hp x0.1 x0.2 e
  have em : 2 * r % p = 2 * r := Int.emod_eq_of_lt (by omega) (by omega)
  have hL : rootL p xs = rootF p r (inv p (2 * r)) (at0 xs) (xs.length - 1) := by
    unfold rootL
    rw [e]
    show rootF p r (inv p (2 * r % p)) _ _ = _
    rw [em]
  rw [hL]
  have hrl := rootF_len p r (inv p (2 * r)) (at0 xs) (xs.length - 1)
  refine ext_getD (by rw [timesL_len, hrl]; omega) fun k hk => ?_
  rw [timesL_len, hrl] at hk
  show at0 _ k = at0 xs k
  rw [timesL_at (by rw [hrl]; omega)]
  have xk : 0 ≤ at0 xs k ∧ at0 xs k < p := hx.get (by omega) k
  have key : Eqv p (cv (at0 (rootF p r (inv p (2 * r)) (at0 xs) (xs.length - 1))) (at0 (rootF p r (inv p (2 * r)) (at0 xs) (xs.length - 1))) k) (at0 xs k) := by
    cases k with
    | zero =>
      unfold cv
      rw [sumN_succ, sumN_zero, rootF_zero, Int.zero_add]
      show r * r % p = _ % p
      rw [f4, Int.emod_eq_of_lt xk.1 xk.2]
    | succ k =>
      unfold cv
      rw [sumN_succ, sumN_first, Nat.sub_self, Nat.sub_zero, rootF_zero, rootF_at p r (inv p (2 * r)) (at0 xs) (k := k) (n := xs.length - 1) (by omega)]
      have es : (sumN k fun i => at0 (rootF p r (inv p (2 * r)) (at0 xs) (xs.length - 1)) (i + 1) * at0 (rootF p r (inv p (2 * r)) (at0 xs) (xs.length - 1)) (k + 1 - (i + 1))) = sumN k fun a => at0 (rootF p r (inv p (2 * r)) (at0 xs) (xs.length - 1)) (a + 1) * at0 (rootF p r (inv p (2 * r)) (at0 xs) (xs.length - 1)) (k - a) := sumN_congr fun a _ => by rw [show k + 1 - (a + 1) = k - a by omega]
      rw [es]
      generalize (sumN k fun a => at0 (rootF p r (inv p (2 * r)) (at0 xs) (xs.length - 1)) (a + 1) * at0 (rootF p r (inv p (2 * r)) (at0 xs) (xs.length - 1)) (k - a)) = sm
      generalize hy : at0 xs (k + 1) - sm = y
      have hi : Eqv p (2 * r * inv p (2 * r)) 1 := by
        show _ % p = 1 % p
        rw [inv_mul hp (by omega) (by omega), Int.emod_eq_of_lt (by omega) (by omega)]
      have e1 : r * (y * inv p (2 * r) % p) + sm + y * inv p (2 * r) % p * r = 2 * r * (y * inv p (2 * r) % p) + sm := by
        rw [Int.mul_comm (y * inv p (2 * r) % p) r, Int.mul_assoc 2 r]
        omega
      rw [e1]
      have e2 : Eqv p (2 * r * (y * inv p (2 * r) % p)) y := by
        refine (Eqv.mul Eqv.refl Eqv.mod).trans ?_
        have e3 : 2 * r * (y * inv p (2 * r)) = 2 * r * inv p (2 * r) * y := by rw [Int.mul_comm y, Int.mul_assoc (2 * r)]
        rw [e3]
        have := Eqv.mul hi (Eqv.refl (p := p) (a := y))
        rwa [Int.one_mul] at this
      have e4 := Eqv.add e2 (Eqv.refl (p := p) (a := sm))
      rwa [show y + sm = at0 xs (k + 1) by omega] at e4
  have h3 : _ % p = _ % p := key
  rw [h3, Int.emod_eq_of_lt xk.1 xk.2]
end Px

namespace Px
open PySem PySem.Spec PyProof.Rows L2
variable [Tb]
/-! ### every other item from a place on -/
def stepL {α : Type} (l : List α) (lo : Nat) : List α := (List.range ((l.length + 1 - lo) / 2)).filterMap fun (k : Nat) => l[lo + 2 * k]?
theorem step_pick (l : List Value) (o : Option Int) (lo : Nat) (h : o.getD 0 = (lo : Int)) : slicePick l.toArray o none (some 2) = (stepL l lo).toArray := by
  have hb : sliceBounds o none (some 2) l.length = (((min lo l.length : Nat) : Int), (l.length : Int), 2) := by
    cases o with
    | none =>
      have : lo = 0 := by simpa using h.symm
      subst this
      rfl
    | some v =>
      have hv : v = lo := by simpa using h
      subst hv
      show ((max 0 (min (if ((lo : Int)) < 0 then (lo : Int) + l.length else lo) (l.length : Int))), (l.length : Int), (2 : Int)) = _
      rw [if_neg (by omega)]
      congr 1
      omega
  have hs : sliceRange (((min lo l.length : Nat) : Int)) (l.length : Int) 2 = (List.range ((l.length + 1 - lo) / 2)).map fun (k : Nat) => lo + 2 * k := by
    unfold sliceRange
    by_cases z : lo < l.length
    · have e : (((if (2 : Int) > 0 then (if (((min lo l.length : Nat) : Int)) < (l.length : Int) then ((l.length : Int) - ((min lo l.length : Nat) : Int) + 2 - 1) / 2 else 0) else (if (((min lo l.length : Nat) : Int)) > (l.length : Int) then (((min lo l.length : Nat) : Int) - (l.length : Int) - 2 - 1) / (-2) else 0)) : Int)).toNat = (l.length + 1 - lo) / 2 := by
        rw [if_pos (by decide), if_pos (by omega)]
        omega
      simp only [e]
      refine List.map_congr_left fun k hk => ?_
      omega
    · have e : (((if (2 : Int) > 0 then (if (((min lo l.length : Nat) : Int)) < (l.length : Int) then ((l.length : Int) - ((min lo l.length : Nat) : Int) + 2 - 1) / 2 else 0) else (if (((min lo l.length : Nat) : Int)) > (l.length : Int) then (((min lo l.length : Nat) : Int) - (l.length : Int) - 2 - 1) / (-2) else 0)) : Int)).toNat = 0 := by
        rw [if_pos (by decide), if_neg (by omega)]
        rfl
      simp only [e]
      rw [show (l.length + 1 - lo) / 2 = 0 by omega] <;> rfl
  unfold slicePick
  rw [List.size_toArray, hb]
  simp only
  rw [hs, List.filterMap_map]
  unfold stepL
  congr 2
  funext k
  show l.toArray[lo + 2 * k]? = l[lo + 2 * k]?
  rw [List.getElem?_toArray]
theorem stepL_len {α : Type} (l : List α) (lo : Nat) : (stepL l lo).length ≤ l.length := by
  unfold stepL
  refine Nat.le_trans (List.length_filterMap_le _ _) ?_
  rw [List.length_range]
  omega
theorem vals_fm {xs : List V} {us : List Value} (r : Vals xs us) (f : Nat → Nat) : ∀ l : List Nat, Vals (l.filterMap fun k => xs[f k]?) (l.filterMap fun k => us[f k]?)
  | [] => .nil
  | k :: rest => by
    have ih := vals_fm r f rest
    rw [List.filterMap_cons, List.filterMap_cons]
    cases e : xs[f k]? with
    | none =>
      rw [r.none_of e]
      exact ih
    | some x =>
      obtain ⟨u, h1, h2⟩ := r.get e
      rw [h1]
      exact .cons h2 ih
theorem vals_step {xs : List V} {us : List Value} (r : Vals xs us) (lo : Nat) : Vals (stepL xs lo) (stepL us lo) := by
  unfold stepL
  rw [r.length]
  exact vals_fm r (fun k => lo + 2 * k) _
def tStepL (K : PySem.W.Frag) (te : TE) (tl : TO) : TE := fun σ H Q => te σ H fun x H1 => tl σ H1 fun o H2 => ∃ (a : Addr) (xs : List V) (lo : Nat), x = .ref a ∧ SqL K H2 a xs ∧ o.getD 0 = (lo : Int) ∧ ∀ p, H2 p = none → Q (.ref p) (upd H2 p (.lst (stepL xs lo)))
theorem pe_stepL {X : Cx} {e : Expr} {eo : Option Expr} {te : TE} {tl : TO} {k : Nat} {p1 p3 pos : Pos} (he : PE X e te) (hl : PO X eo tl) : PE X (.Subscript e (.Slice eo none (some (.Constant (.int 2) k p1)) p3) pos) (tStepL X.K te tl) := by
  refine ⟨fun pins s0 σ H0 Q0 J0 w0 => ?_⟩
  refine Subscript_ (thn (he.run pins s0 σ H0 _ J0 w0) fun vx s1 ⟨x, H1, J1, r1, w1⟩ => ?_)
  refine wpAny_Slice (thn (hl.run pins s1 σ H1 _ J1 w1) fun vl s2 ⟨o, H2, J2, pl, w2⟩ => ?_)
  obtain ⟨a, xs, lo, ex, hx, ho, w⟩ := w2
  subst ex
  cases r1
  refine thn (po_none.run pins s2 σ H2 (fun n G => n = none ∧ G = H2) J2 ⟨rfl, rfl⟩) fun vu s3 ⟨n, H3, J3, pu, en, eG⟩ => ?_
  subst en eG
  refine thn ((po_some pe_int).run pins s3 σ H3 (fun n G => n = some 2 ∧ G = H3) J3 ⟨2, rfl, rfl, rfl⟩) fun vs s4 ⟨n, H4, J4, ps, en, eG⟩ => ?_
  subst en eG
  have J5 : Inv X pins σ H4 { s4 with heap := s4.heap.push { cls := .type "slice", data := .fields #[vl, vu, vs] } } := J4.kept (t' := s4.toks) fun _ _ z => Heap.get?_push_of_some _ z
  obtain ⟨us, r, pt, hz⟩ := J5.list hx
  have hlen := r.length
  show wpAny (model X.prog X.w) X.A (subscriptTail e (.Slice eo none (some (.Constant (.int 2) k p1)) p3) (.ref a) (.ref s4.heap.objs.size)) _ _ _
  refine tail_any (ops := [.ref a, .ref s4.heap.objs.size]) pt.isList.typeIs (slot_list_getitem.lookup) ?_ (by with_unfolding_all rfl)
  refine wpAny_getItem_list_slice pt.isList (Heap.IsSliceOf.new _ vl vu vs) pl pu ps (by decide) ?_ (by rw [List.size_toArray]; omega)
  rw [step_pick us o lo ho]
  refine ⟨.ref _, _, J5.laid (t' := s4.toks) (o := .lst (stepL xs lo)) (fun _ _ z => Heap.get?_push_of_some _ z) (Nat.le_refl _) ?_, rfl, w _ (J5.hok.fresh (Nat.le_refl _))⟩
  exact ⟨Nat.le_trans (stepL_len xs lo) hz, _, 0, vals_step r lo, Heap.get?_push_size _ rfl⟩
def stepD (ns : List Int) (lo : Nat) : List Int := (List.range ((ns.length + 1 - lo) / 2)).map fun (k : Nat) => ns.getD (lo + 2 * k) 0
theorem fm_congr {α β : Type} {f g : α → Option β} : ∀ l : List α, (∀ x, x ∈ l → f x = g x) → l.filterMap f = l.filterMap g
  | [], _ => rfl
  | x :: r, h => by rw [List.filterMap_cons, List.filterMap_cons, h x List.mem_cons_self, fm_congr r fun y hy => h y (List.mem_cons_of_mem _ hy)]
theorem step_map (ns : List Int) (lo : Nat) : stepL (ns.map V.int) lo = (stepD ns lo).map V.int := by
  unfold stepL stepD
  rw [List.length_map, List.map_map]
  refine Eq.trans (fm_congr (g := some ∘ (V.int ∘ fun (k : Nat) => ns.getD (lo + 2 * k) 0)) _ fun k hk => ?_) (congrFun List.filterMap_eq_map _)
  have := List.mem_range.mp hk
  rw [List.getElem?_map, getD_some (show lo + 2 * k < ns.length by omega)] <;> rfl
section
variable {K : PySem.W.Frag} {ds : List Slot} {m : Md} {ta : TE} {tl : TO} {ns : List Int} {o : Option Int}
theorem ev_step (lo : Nat) (ha : Ev K .I ta ds (li ns)) (hl : EvO K tl ds o) (ho : o.getD 0 = (lo : Int)) : Ev K m (tStepL K ta tl) ds (li (stepD ns lo)) := fun He ex O H σ I Q q =>
  ha He ex O H σ I _ fun x H1 e1 z1 => hl He ex O H1 σ (I.mono e1) _ fun H2 e2 => by
    obtain ⟨a, rfl, h1⟩ := is_li.mp z1
    refine ⟨a, _, lo, rfl, SqL.of (e2.at h1), ho, fun p hp => q _ _ ((e1.trans e2).trans (Ex.new hp)) (new_lst I (e1.trans e2) hp (isL_ints.mpr (step_map ns lo)))⟩
theorem ev_listRg {n : Nat} (h : Ev K .I ta ds (.int (n : Int))) (hn : n ≤ 100000) : Ev K m (tLstRg (tRg1 ta)) ds (li ((List.range n).map fun (k : Nat) => (k : Int))) := fun He ex O H σ I Q q =>
  h He ex O H σ I _ fun x H1 e1 z1 => ⟨(n : Int), is_int.mp z1, RgOk.of_le (by decide) (by omega) (by decide) (by omega), fun p hp => q _ _ (e1.trans (Ex.new hp)) (new_lst I e1 hp (isL_ints.mpr (by
    unfold rgV
    rw [List.map_map, show ((n : Int) - 0).toNat = n by omega]
    refine List.map_congr_left fun k _ => ?_
    show V.int (0 + (k : Int)) = V.int (k : Int)
    rw [Int.zero_add])))⟩
end
theorem it_range2_is {K : PySem.W.Frag} {ds : List Slot} {ta tb : TE} {i j : Int} {n : Nat} (ha : Ev K .I ta ds (.int i)) (hb : Ev K .I tb ds (.int j)) (h : -100000 ≤ i ∧ i ≤ 100000 ∧ -100000 ≤ j ∧ j ≤ 100000) (hn : (j - i).toNat = n) : ItD K (iRng2 (tCons ta (tCons tb tNil))) ds (rngD i n) := hn ▸ it_range2 ha hb h
end Px

namespace Px
variable [Tb]
/-! ### rules: a top parted by a bottom -/
def RuleOk (p : Int) (t b : List Int) : Prop := Rests p t ∧ Rests p b ∧ t.length ≤ 8 ∧ (1 ≤ b.length ∧ b.length ≤ 8) ∧ at0 b 0 = 1
def opL (p : Int) (t b : List Int) (n : Nat) : List Int := partF p 1 (at0 t) (at0 b) n
def serF (p : Int) (t b : List Int) (k : Nat) : Int := at0 (opL p t b (k + 1)) k
structure Ser (p : Int) (f g a : Nat → Int) : Prop where
  rest : ∀ k, 0 ≤ a k ∧ a k < p
  law : ∀ k, Eqv p (cv g a k) (f k)
theorem inv_one {p : Int} (hp : 2 ≤ p) : inv p 1 = 1 := by
  unfold inv
  show (((1 : Nat) ^ (p.toNat - 2) % p.toNat : Nat) : Int) = 1
  rw [Nat.one_pow, Nat.mod_eq_of_lt (by omega)] <;> rfl
theorem opL_len (p : Int) (t b : List Int) (n : Nat) : (opL p t b n).length = n := partF_len _ _ _ _ _
theorem opL_rests {p : Int} (hp : 0 < p) (t b : List Int) (n : Nat) : Rests p (opL p t b n) := partF_rests hp n
theorem opL_at (p : Int) (t b : List Int) {k n : Nat} (h : k < n) : at0 (opL p t b n) k = serF p t b k := partF_mono _ _ _ _ (n := k + 1) (by omega) (by omega)
theorem at0_out {xs : List Int} {k : Nat} (h : xs.length ≤ k) : at0 xs k = 0 := by
  unfold at0
  rw [List.getD_eq_getElem?_getD, List.getElem?_eq_none h] <;> rfl
theorem opL_take (p : Int) (t b : List Int) {n m : Nat} (h : n ≤ m) : opL p t b n = (opL p t b m).take n := by
  refine ext_getD (by rw [List.length_take, opL_len, opL_len]; omega) fun k hk => ?_
  rw [opL_len] at hk
  show at0 _ k = at0 _ k
  rw [at0_take hk, opL_at p t b hk, opL_at p t b (by omega)]
theorem ser_op {p : Int} {t b : List Int} (hp : p ∈ primesL) (h0 : at0 b 0 = 1) : Ser p (at0 t) (at0 b) (serF p t b) := by
  have hb := prime_bd hp
  refine ⟨fun k => (opL_rests (by omega) t b (k + 1)).get (by omega) k, fun k => ?_⟩
  have h := partF_back (p := p) (f := at0 t) (g := at0 b) (k := k) (n := k + 1) hp (by omega) (by omega) (by omega)
  rw [cv_comm] at h
  refine (Eqv.of ?_).trans h
  unfold cv
  refine sumN_congr fun i hi => ?_
  rw [h0]
  congr 1
  exact (opL_at p t b (n := k + 1) (k := k - i) (by omega)).symm
theorem ser_one {p : Int} {f g a a' : Nat → Int} (h0 : g 0 = 1) (h : Ser p f g a) (h' : Ser p f g a') : ∀ n k, k < n → a k = a' k
  | 0, k, hk => by omega
  | n + 1, k, hk => by
    have ih := ser_one h0 h h' n
    by_cases z : k < n
    · exact ih k z
    · have e : Eqv p (cv g a k) (cv g a' k) := (h.law k).trans (h'.law k).symm
      unfold cv at e
      rw [sumN_first, sumN_first, Nat.sub_zero, h0, Int.one_mul, Int.one_mul] at e
      have es : (sumN k fun i => g (i + 1) * a (k - (i + 1))) = sumN k fun i => g (i + 1) * a' (k - (i + 1)) := sumN_congr fun i hi => by rw [ih (k - (i + 1)) (by omega)]
      rw [es] at e
      have e2 := Eqv.sub e (Eqv.refl (p := p) (a := sumN k fun i => g (i + 1) * a' (k - (i + 1))))
      rw [Int.add_sub_cancel, Int.add_sub_cancel] at e2
      exact Eqv.iff (h.rest k) (h'.rest k) e2
theorem ser_is {p : Int} {t b : List Int} {a : Nat → Int} (hp : p ∈ primesL) (h0 : at0 b 0 = 1) (h : Ser p (at0 t) (at0 b) a) (k : Nat) : serF p t b k = a k := ser_one h0 (ser_op hp h0) h (k + 1) k (by omega)
/-! ### the sum in a step of opening -/
theorem open_sum (F : Nat → Int) (b : List Int) (n : Nat) : (sumN n fun a => F a * at0 b (n - a)) = sumN (min (n + 1) b.length - 1) fun j => at0 b (1 + j) * F (n - (1 + j)) := by
  rw [sumN_rev]
  have e : (sumN n fun i => F (n - 1 - i) * at0 b (n - (n - 1 - i))) = sumN n fun j => at0 b (1 + j) * F (n - (1 + j)) := sumN_congr fun i hi => by
    rw [Int.mul_comm, show n - (n - 1 - i) = 1 + i by omega, show n - 1 - i = n - (1 + i) by omega]
  rw [e]
  exact sumN_more (by omega) fun i h1 h2 => by rw [at0_out (by omega), Int.zero_mul]
theorem open_sum2 (F : Nat → Int) (b : List Int) (n : Nat) : (sumN n fun a => F a * at0 b (n - a)) = sumN b.length fun j => if 0 < j ∧ j ≤ n then at0 b j * F (n - j) else 0 := by
  have e1 : (sumN (n + 1) fun j => if 0 < j ∧ j ≤ n then at0 b j * F (n - j) else 0) = sumN n fun a => F a * at0 b (n - a) := by
    rw [sumN_first, if_neg (by omega), Int.zero_add, sumN_rev n fun a => F a * at0 b (n - a)]
    refine sumN_congr fun i hi => ?_
    rw [if_pos (by omega), Int.mul_comm, show n - 1 - i = n - (i + 1) by omega, show n - (n - (i + 1)) = i + 1 by omega]
  rw [← e1]
  by_cases z : n + 1 ≤ b.length
  · exact (sumN_more z fun i h1 _ => by rw [if_neg (by omega)]).symm
  · refine sumN_more (by omega) fun i h1 _ => ?_
    split
    · rw [at0_out h1, Int.zero_mul]
    · rfl
/-! ### whole products -/
def wtL (p : Int) (xs ys : List Int) : List Int := if xs = [] ∨ ys = [] then [] else (List.range (xs.length + ys.length - 1)).map fun k => cv (at0 xs) (at0 ys) k % p
theorem cv_zero {f g : Nat → Int} {k : Nat} (h : ∀ i, i ≤ k → f i * g (k - i) = 0) : cv f g k = 0 := sumN_zeros _ fun i hi => h i (by omega)
theorem wt_at {p : Int} (xs ys : List Int) (k : Nat) : Eqv p (at0 (wtL p xs ys) k) (cv (at0 xs) (at0 ys) k) := by
  unfold wtL
  by_cases z : xs = [] ∨ ys = []
  · rw [if_pos z, cv_zero fun i _ => ?_]
    · exact Eqv.refl
    · rcases z with z | z
      · rw [z, at0_out (by rw [List.length_nil]; omega), Int.zero_mul]
      · rw [z, at0_out (xs := []) (by rw [List.length_nil]; omega), Int.mul_zero]
  · rw [if_neg z]
    by_cases hk : k < xs.length + ys.length - 1
    · show Eqv p (at0 _ k) _
      unfold at0
      rw [getD_map hk]
      exact Eqv.mod
    · rw [at0_out (by rw [List.length_map, List.length_range]; omega), cv_zero fun i hi => ?_]
      · exact Eqv.refl
      · by_cases h1 : i < xs.length
        · rw [at0_out (xs := ys) (by
            have : xs ≠ [] := fun e => z (.inl e)
            have : ys ≠ [] := fun e => z (.inr e)
            omega), Int.mul_zero]
        · rw [at0_out (by omega), Int.zero_mul]
theorem wt_rests {p : Int} (hp : 0 < p) (xs ys : List Int) : Rests p (wtL p xs ys) := by
  unfold wtL
  split
  · exact fun x hx => nomatch hx
  · exact rests_map fun i _ => mod_rest hp
theorem wt_len {p : Int} {xs ys : List Int} : (wtL p xs ys).length ≤ xs.length + ys.length - 1 := by
  unfold wtL
  split
  · exact Nat.zero_le _
  · rw [List.length_map, List.length_range]
    exact Nat.le_refl _
def sgL (p : Int) (b : List Int) : List Int := (List.range b.length).map fun i => if i % 2 = 0 then at0 b i else -(at0 b i) % p
def sg (b : List Int) (j : Nat) : Int := if j % 2 = 0 then at0 b j else -(at0 b j)
theorem sgL_at {p : Int} (b : List Int) (j : Nat) : Eqv p (at0 (sgL p b) j) (sg b j) := by
  unfold sg
  by_cases h : j < b.length
  · have e : at0 (sgL p b) j = if j % 2 = 0 then at0 b j else -(at0 b j) % p := getD_map h
    rw [e]
    split
    · exact Eqv.refl
    · exact Eqv.mod
  · rw [at0_out (by unfold sgL; rw [List.length_map, List.length_range]; omega), at0_out (by omega)]
    split <;> exact Eqv.refl
theorem sgL_rests {p : Int} {b : List Int} (hp : 0 < p) (hb : Rests p b) : Rests p (sgL p b) := rests_map fun i _ => by
  split
  · exact hb.get hp i
  · exact mod_rest hp
theorem sgL_len (p : Int) (b : List Int) : (sgL p b).length = b.length := by
  unfold sgL
  rw [List.length_map, List.length_range]
theorem cv_odd (b : List Int) {k : Nat} (h : k % 2 = 1) : cv (at0 b) (sg b) k = 0 := by
  have e : cv (at0 b) (sg b) k = -cv (at0 b) (sg b) k := by
    have e1 : -cv (at0 b) (sg b) k = (-1) * cv (at0 b) (sg b) k := by omega
    rw [e1]
    unfold cv
    rw [← sumN_mul, sumN_rev]
    refine sumN_congr fun i hi => ?_
    rw [show k + 1 - 1 - i = k - i by omega, show k - (k - i) = i by omega]
    unfold sg
    by_cases z : i % 2 = 0
    · rw [if_pos z, if_neg (by omega), Int.mul_comm, Int.mul_neg]
      omega
    · rw [if_neg z, if_pos (by omega), Int.mul_neg, Int.mul_comm]
      omega
  omega
theorem sum_even {p : Int} {f : Nat → Int} (h : ∀ i, Eqv p (f (2 * i + 1)) 0) {e : Nat} (he : e < 2) : ∀ n, Eqv p (sumN (2 * n + e + 1) f) (sumN (n + 1) fun i => f (2 * i))
  | 0 => by
    rw [sumN_succ, sumN_succ, sumN_zero, Int.zero_add, Nat.mul_zero, Nat.zero_add]
    match e, he with
    | 0, _ => rw [sumN_zero, Int.zero_add]; exact Eqv.refl
    | 1, _ =>
      rw [sumN_succ, sumN_zero, Int.zero_add]
      have := Eqv.add (Eqv.refl (p := p) (a := f 0)) (h 0)
      rwa [Int.add_zero] at this
  | n + 1 => by
    have ih := sum_even h he n
    rw [show 2 * (n + 1) + e + 1 = 2 * n + e + 1 + 1 + 1 by omega, sumN_succ, sumN_succ, sumN_succ (n + 1)]
    match e, he with
    | 0, _ =>
      have h1 := Eqv.add (Eqv.add ih (h n)) (Eqv.refl (p := p) (a := f (2 * (n + 1))))
      rw [Int.add_zero] at h1
      exact h1
    | 1, _ =>
      have h1 := Eqv.add (Eqv.add ih (Eqv.refl (p := p) (a := f (2 * (n + 1))))) (h (n + 1))
      rw [Int.add_zero] at h1
      exact h1
theorem step_at (ns : List Int) (lo k : Nat) : at0 (stepD ns lo) k = at0 ns (lo + 2 * k) := by
  unfold stepD
  by_cases h : k < (ns.length + 1 - lo) / 2
  · exact getD_map h
  · rw [at0_out (by rw [List.length_map, List.length_range]; omega), at0_out (by omega)]
theorem step_rests {p : Int} (hp : 0 < p) {ns : List Int} (h : Rests p ns) (lo : Nat) : Rests p (stepD ns lo) := rests_map fun i _ => h.get hp _
theorem step_len (ns : List Int) (lo : Nat) : (stepD ns lo).length = (ns.length + 1 - lo) / 2 := by
  unfold stepD
  rw [List.length_map, List.length_range]
/-- a turn of going far -/
theorem ser_step {p : Int} {t b : List Int} {a : Nat → Int} (hp : 1 < p) (h0 : at0 b 0 = 1) (h : Ser p (at0 t) (at0 b) a) {e : Nat} (he : e < 2) :
    Ser p (at0 (stepD (wtL p t (sgL p b)) e)) (at0 (stepD (wtL p b (sgL p b)) 0)) (fun n => a (2 * n + e)) := by
  refine ⟨fun k => h.rest _, fun n => ?_⟩
  have hV : ∀ k, Eqv p (at0 (wtL p b (sgL p b)) k) (cv (at0 b) (sg b) k) := fun k => (wt_at b (sgL p b) k).trans (cv_congr (fun _ _ => Eqv.refl) fun i _ => sgL_at b i)
  have hU : ∀ k, Eqv p (at0 (wtL p t (sgL p b)) k) (cv (at0 t) (sg b) k) := fun k => (wt_at t (sgL p b) k).trans (cv_congr (fun _ _ => Eqv.refl) fun i _ => sgL_at b i)
  have main : Eqv p (cv (at0 (wtL p b (sgL p b))) a (2 * n + e)) (at0 (wtL p t (sgL p b)) (2 * n + e)) := by
    refine (cv_congr (g' := a) (fun i _ => hV i) fun _ _ => Eqv.refl).trans ?_
    rw [show cv (at0 b) (sg b) = cv (sg b) (at0 b) from funext fun k => cv_comm _ _ k, cv_assoc]
    refine (cv_congr (f' := sg b) (fun _ _ => Eqv.refl) fun i _ => h.law i).trans ?_
    rw [cv_comm]
    exact (hU _).symm
  rw [step_at, show e + 2 * n = 2 * n + e by omega]
  refine Eqv.trans ?_ main
  refine Eqv.symm ?_
  unfold cv
  refine (sum_even (fun i => ?_) he n).trans (Eqv.of (sumN_congr fun i hi => ?_))
  · have z := (hV (2 * i + 1)).trans (Eqv.of (cv_odd b (by omega)))
    have := Eqv.mul z (Eqv.refl (p := p) (a := a (2 * n + e - (2 * i + 1))))
    rwa [Int.zero_mul] at this
  · rw [step_at, show 0 + 2 * i = 2 * i by omega, show 2 * n + e - 2 * i = 2 * (n - i) + e by omega]
theorem step_zero {p : Int} {b : List Int} (hp : 1 < p) (h0 : at0 b 0 = 1) (hl : 1 ≤ b.length) : at0 (stepD (wtL p b (sgL p b)) 0) 0 = 1 := by
  rw [step_at]
  have h := wt_at (p := p) b (sgL p b) 0
  have e : cv (at0 b) (at0 (sgL p b)) 0 = 1 := by
    unfold cv
    rw [sumN_succ, sumN_zero, Nat.sub_zero, h0]
    have : at0 (sgL p b) 0 = at0 b 0 := by
      have e : at0 (sgL p b) 0 = if 0 % 2 = 0 then at0 b 0 else -(at0 b 0) % p := getD_map (by omega)
      rw [e, if_pos rfl]
    rw [this, h0] <;> rfl
  rw [e] at h
  have r := (wt_rests (p := p) (by omega) b (sgL p b)).get (by omega) 0
  exact Eqv.iff r ⟨by decide, hp⟩ h
theorem ser_zero {p : Int} {t b : List Int} {a : Nat → Int} (hp : 0 < p) (h0 : at0 b 0 = 1) (ht : Rests p t) (h : Ser p (at0 t) (at0 b) a) : a 0 = at0 t 0 := by
  have e := h.law 0
  unfold cv at e
  rw [sumN_succ, sumN_zero, Nat.sub_zero, h0, Int.zero_add, Int.one_mul] at e
  exact Eqv.iff (h.rest 0) (ht.get hp 0) e
/-! ### far places by the rule -/
theorem far_sum {p : Int} {t b : List Int} {N : Nat} (hp : p ∈ primesL) (h0 : at0 b 0 = 1) (hN : t.length ≤ N) (hN2 : b.length ≤ N + 1) : (sumN b.length fun j => at0 b j * serF p t b (N - j)) % p = 0 := by
  have h := (ser_op (t := t) hp h0).law N
  rw [at0_out hN] at h
  unfold cv at h
  rw [sumN_more hN2 fun i h1 _ => by rw [at0_out h1, Int.zero_mul]] at h
  exact h.zero_of
theorem sumN_one {n i : Nat} (h : i < n) (f : Nat → Int) : (sumN n fun j => if j = i then f j else 0) = f i := by
  induction n with
  | zero => omega
  | succ n ih =>
    rw [sumN_succ]
    by_cases e : i = n
    · subst e
      rw [if_pos rfl, sumN_zeros i fun j hj => by rw [if_neg (by omega)], Int.zero_add]
    · rw [ih (by omega), if_neg (by omega), Int.add_zero]
/-- 1 - x^s below a number -/
theorem ser_turn {p r : Int} {s : Nat} {t b : List Int} (hp : 1 < p) (hs : 1 ≤ s) (hr : 0 ≤ r ∧ r < p) (ht : ∀ k, at0 t k = if k = 0 then r else 0) (hb : ∀ k, at0 b k = if k = 0 then 1 else if k = s then p - 1 else 0) :
    Ser p (at0 t) (at0 b) (fun k => if k % s = 0 then r else 0) := by
  refine ⟨fun k => ?_, fun k => ?_⟩
  · show 0 ≤ (if k % s = 0 then r else 0) ∧ (if k % s = 0 then r else 0) < p
    split <;> omega
  · rw [ht]
    unfold cv
    have e : (sumN (k + 1) fun j => at0 b j * (if (k - j) % s = 0 then r else 0)) = (sumN (k + 1) fun j => if j = 0 then (if (k - j) % s = 0 then r else 0) else 0) + sumN (k + 1) fun j => if j = s then (p - 1) * (if (k - j) % s = 0 then r else 0) else 0 := by
      rw [← sumN_add]
      refine sumN_congr fun j _ => ?_
      rw [hb]
      by_cases z : j = 0
      · rw [if_pos z, if_pos z, if_neg (show ¬ j = s by omega), Int.one_mul, Int.add_zero]
      · rw [if_neg z, if_neg z, Int.zero_add]
        by_cases w : j = s
        · rw [if_pos w, if_pos w]
        · rw [if_neg w, if_neg w, Int.zero_mul]
    rw [e, sumN_one (by omega), Nat.sub_zero]
    by_cases z : k < s
    · rw [sumN_zeros _ fun j hj => by rw [if_neg (by omega)], Int.add_zero]
      rw [Nat.mod_eq_of_lt z]
      exact Eqv.refl
    · rw [sumN_one (i := s) (by omega), if_neg (show ¬ k = 0 by omega)]
      have em : (k - s) % s = k % s := by
        have := Nat.add_mod_right (k - s) s
        rw [← this, show k - s + s = k by omega]
      rw [em]
      generalize (if k % s = 0 then r else 0) = c
      show (c + (p - 1) * c) % p = 0 % p
      rw [Int.sub_mul, Int.one_mul, show c + (p * c - c) = p * c by omega, Int.mul_emod_right, Int.zero_emod]
end Px

namespace Px
open PySem PySem.Spec PyProof.Rows L2
variable [Tb]
/-! ### instances of own classes -/
section
variable {K : PySem.W.Frag} {W : WX} {He H H1 H2 H' : Hp} {ex : List (V × D)} {O O1 O2 : List Addr} {σ : L2.St} {ds ds' : List Slot} {d d' : D} {l args : List D} {v : V} {vs : List V} {P : Post}
variable {m : Md} {te ta tb : TE} {t u : TS} {i j : Int} {b : Bool} {ns : List Str} {tA : TA} {S : SpF} {C : Addr} {f : Str}
theorem is_ob : Is K H (.ob C ns l) v ↔ ∃ a dx vs, v = .ref a ∧ H a = some (.ins C dx (ns.zip vs)) ∧ vs.length = ns.length ∧ IsL K H l vs := by simp only [Is]
theorem lookup_zip : ∀ {ns : List Str} {l : List D} {vs : List V}, IsL K H l vs → (ns.zip l).lookup f = some d → ∃ v, (ns.zip vs).lookup f = some v ∧ Is K H d v
  | [], _, _, _, h => by simp at h
  | _ :: _, [], _, _, h => by simp at h
  | n :: ns, e :: l, vs, z, h => by
    simp only [IsL] at z
    obtain ⟨v, r, rfl, z1, z2⟩ := z
    rw [List.zip_cons_cons] at h ⊢
    by_cases q : (f == n) = true
    · simp only [List.lookup, q] at h ⊢
      cases h
      exact ⟨v, rfl, z1⟩
    · have q : (f == n) = false := by simpa using q
      simp only [List.lookup, q] at h ⊢
      exact lookup_zip z2 h
theorem ev_fld (h : Ev K m te ds (.ob C ns l)) (c : Cls K C) (n : NoAttr K C f) (hf : (ns.zip l).lookup f = some d) : Ev K m (tFld K te f) ds d := fun He ex O H σ I Q q =>
  h He ex O H σ I _ fun x H1 e1 z1 => by
    obtain ⟨a, dx, vs, rfl, h1, h2, h3⟩ := is_ob.mp z1
    obtain ⟨v, h4, h5⟩ := lookup_zip h3 hf
    exact ⟨a, C, dx, _, v, rfl, (vw_in (m := m)).at h1, c, n, h4, q v H1 e1 h5⟩
/-! o.m(..) -/
theorem lookup_none : ∀ {ns : List Str} {vs : List V}, f ∉ ns → (ns.zip vs).lookup f = none
  | [], _, _ => by simp
  | _ :: _, [], _ => by simp
  | n :: ns, v :: vs, h => by
    have h1 : (f == n) = false := by
      have : f ≠ n := fun e => h (by rw [e]; exact List.mem_cons_self)
      simpa using this
    rw [List.zip_cons_cons]
    simp only [List.lookup, h1]
    exact lookup_none fun z => h (List.mem_cons_of_mem _ z)
theorem ev_meth (h : Ev K .I te ds (.ob C ns l)) (hn : f ∉ ns) (ha : EvA K .I tA ds args) (hS : S (.ob C ns l :: args) (fun r => r = d) (fun _ => False)) : Ev K .N (tMeth C f (spD K S) [] E0 te tA) ds d := fun He ex O H σ I Q q =>
  h He ex O H σ I _ fun x H1 e1 z1 => by
    obtain ⟨a, dx, vs, rfl, h1, h2, h3⟩ := is_ob.mp z1
    refine ⟨a, dx, _, rfl, (vw_in (m := .I)).at h1, lookup_none hn, ha He ex O H1 σ (I.mono e1) _ fun ws H2 e2 z2 => ⟨(I.mono (e1.trans e2)).tb, _, _, _, ?_, hS, fun v H' d' e' rd hv => ?_, fun C H' e' z => z.elim⟩⟩
    · rw [List.append_nil]
      exact IsL.cons (show Is K H2 _ _ from Is.mono e2.v z1) z2
    · subst rd
      exact q v H' ((e1.trans e2).trans e') (hv.mono (Ex.nwL (e1.trans e2)))
/-! C() of a class whose __init__ is object's -/
structure Mk0 (K : PySem.W.Frag) (C : Addr) : Prop where
  makes : PySem.W.makesIn K C = true
  init : PySem.W.findIn K (.ref C) "__init__" = some (some (.builtin "object.__init__"))
  top : PySem.W.mroIn K C (.type "object") = some true
  kp : PySem.W.keepIn K (.ref C) = true
def tMake0 (C : Addr) : TE := fun _ H Q => ∀ x dx, H x = none → H dx = none → dx ≠ x → Q (.ref x) (upd (upd H dx (.own x)) x (.ins C dx []))
theorem pe_make00 {X : Cx} {C : Addr} {x : Str} {p pos : Pos} (M : Mk0 X.K C) (hg : Gl X x) (hm : X.mg x = some (.ref C)) (hdb : (x == ("__debug__" : Str)) = false := by decide) : PE X (.Call (.Name x p) [] [] pos) (tMake0 C) := by
  refine ⟨fun pins s σ H Q I h => ?_⟩
  refine wpAny_Call_Name_kw (ld_glob I hg hm ?_ hdb)
  refine PySem.W.callWith_K0 I.kIn M.kp ?_
  have hq := h (s.heap.objs.size + 1) s.heap.objs.size (I.hok.fresh (Nat.le_succ _)) (I.hok.fresh (Nat.le_refl _)) (Nat.ne_of_lt (Nat.lt_succ_self _))
  have I2 := Inv.made (C := C) I
  refine wpAny_call (make_map0 I.kIn M.makes M.init (fun self => PySem.W.Looks.of_pure (PySem.W.oi_bind self)) ?_)
  have h0 : ((s.heap.push PySem.W.emptyDict).push (PySem.W.instObj C s.heap.objs.size)).get? (s.heap.objs.size + 1) = some (PySem.W.instObj C s.heap.objs.size) := by
    have := Heap.get?_push_size (s.heap.push PySem.W.emptyDict) (o := PySem.W.instObj C s.heap.objs.size) rfl
    rwa [Heap.size_push] at this
  have ty : PySem.W.Looks (model X.prog X.w) ((s.heap.push PySem.W.emptyDict).push (PySem.W.instObj C s.heap.objs.size)) (typeOf (.ref (s.heap.objs.size + 1))) (.ref C) := (PySem.W.Looks.ld h0).andThen .now
  have top : PySem.W.Looks (model X.prog X.w) ((s.heap.push PySem.W.emptyDict).push (PySem.W.instObj C s.heap.objs.size)) (isInstance (.ref (s.heap.objs.size + 1)) (.type "object")) true := ty.andThen (PySem.W.looks_mroIn I2.kIn M.top)
  refine codeAny_call_builtin PySem.W.oi_plain PySem.W.entry_oi (@PySem.W.check_slot (model X.prog X.w) _ _ _ "object.__init__" "object" "__init__" (.ref (s.heap.objs.size + 1)) [] [] _ PySem.W.oi_kind PySem.W.oi_split top (PySem.W.oi_args (.ref (s.heap.objs.size + 1))) ?_)
  rw [PySem.W.oi_run]
  exact wpAny_pure ⟨rfl, V.ref (s.heap.objs.size + 1), _, I2, rfl, hq⟩
theorem ins_new {H : Hp} {x dx : Addr} {o o2 : HO} (hx : H x = none) (hd : H dx = none) (hne : dx ≠ x) : Ex H (upd (upd H dx o) x o2) :=
  (Ex.new hd).trans (Ex.new (by rw [upd_ne fun z => hne z.symm]; exact hx))
theorem vw_fresh {a : Addr} {o : HO} (I : Env K He ex O H σ ds) (h0 : H a = none) (ha : H2 a = some o) : vw He H O H2 m a = some o := by
  cases m with
  | I => exact ha
  | S => exact hm_some.mpr ⟨I.notO h0, ha⟩
  | M => exact hn_some.mpr ⟨I.notO h0, Ex.back I.ext h0, ha⟩
  | N => exact nw_some.mpr ⟨h0, ha⟩
theorem ev_make0 : Ev K m (tMake0 C) ds (.ob C [] []) := fun He ex O H σ I Q q => fun x dx hx hd hne => q _ _ (ins_new hx hd hne) (is_ob.mpr ⟨x, dx, [], rfl, vw_fresh I hx upd_same, rfl, IsL.nil⟩)
end
/-! ### methods that keep their promises -/
def GoodM (P : Program) (w : World) (K : PySem.W.Frag) (mg : Str → Option Value) (base : Heap) (C : Addr) (x : Str) (k : Nat) (ps : List Str) (S : SpF) : Prop :=
  ∃ f fd, Cls K C ∧ Meth K C x f ∧ Binds K fd ps [] ∧ FnOk P w K mg base (L2N.CX P w) k f fd ps (spD K S)
theorem pe_mcal {X : Cx} {C : Addr} {x : Str} {k j : Nat} {ps : List Str} {S : SpF} {o e : Expr} {es : List Expr} {to : TE} {t : TA} {apos pos : Pos} {pl : Sem Bool} (he : PE X o to) (G : GoodM X.prog X.w X.K X.mg X.base C x k ps S) (hr : Room j X.A) (hk : k ≤ j) (ha : PA X (e :: es) t)
    (hst : starEach (e :: es) X.env = (false, eval e X.env) :: starEach es X.env := by rfl) (hpl : (backTo pos (starEach es X.env)).any (·.1) = false := by rfl)
    (ht : eval (.Call (.Attribute o x apos) (e :: es) [] pos) X.env = (do
      let ov ← eval o X.env
      standAt apos.atName
      let (f, first) ← holding [ov] (getMethod ov x pl)
      callWith pos f first (backTo pos (starEach (e :: es) X.env)) (backToKw pos (keywordEach [] X.env))) := by rfl) :
    PE X (.Call (.Attribute o x apos) (e :: es) [] pos) (tMeth C x (spD X.K S) [] E0 to t) := by
  obtain ⟨f, fd, c, hm, hb, F⟩ := G
  exact pe_meth he c hm F (hr.mono hk) hb .nil passN ha hst hpl ht
theorem goodM_mk {P : Program} {w : World} {K : PySem.W.Frag} {mg : Str → Option Value} {base : Heap} {C : Addr} {x qual : Str} {params : Arguments} {body : List Stmt} {scope : Scope} {f : Addr} {fd : FuncData} {N ps : List Str} {k : Nat} {S : SpF} {t : WX → TS}
    (F : FunD K x qual params body scope [] [] f fd) (c : Cls K C) (hm : Meth K C x f) (sc : FnScope N ps scope)
    (hb : ∀ (kV doc pm : Value) (an : Option Addr) (cdv ct : Value) (us : List Value), us.length = ps.length → bindArgs (PySem.W.fnOf x qual params body scope .none kV doc pm an cdv ct) ⟨us, []⟩ = pure (ps.zip us))
    (hlen : ∀ ds R X, S ds R X → ds.length = ps.length) (hN : ps.length ≤ N.length)
    (hd : ∀ (cdv : Value) (A : Around) (outer : List PySem.Env) (s : Shared) (H : Hp) (E : XK), Room k (A.deeper (envOfC qual scope s.heap.objs.size f cdv)) → PSs (cxOf (L2N.CX P w) P w K mg base N qual scope f cdv A outer s H E) body (t fun cls d _ H => E cls d H))
    (hp : ∀ W ds R X, S ds R X → SW K W (t W) (startD N ds) { nx := fun _ => R .non, rt := R, xc := fun C _ => X C }) : GoodM P w K mg base C x (k + 1) ps S := by
  refine ⟨f, fd, c, hm, FunD.bindsN (ps := ps) F hb, F.ok sc (fun vs H Q E h => ?_) fun cdv A outer s H vs Q E hr h => ?_⟩
  · obtain ⟨_, ds, R, X, h1, h2, _⟩ := h
    rw [h1.length, hlen ds R X h2]
  · obtain ⟨ht, ds, R, X, h1, h2, hQ, hE⟩ := h
    exact ⟨_, hd cdv A outer s H E hr, body_of ht h1 (by rw [hlen ds R X h2]; exact hN) hQ hE (hp _ ds R X h2)⟩
/-! ### making -/
def GoodI (P : Program) (w : World) (K : PySem.W.Frag) (mg : Str → Option Value) (base : Heap) (C : Addr) (k : Nat) (ps : List Str) (sp : Sp) : Prop :=
  ∃ f fd, Mk K C f ∧ Binds K fd ps [] ∧ FnOk P w K mg base (L2N.CX P w) k f fd ps sp
theorem pe_mkI {X : Cx} {C : Addr} {x : Str} {k j : Nat} {ps : List Str} {sp : Sp} {e : Expr} {es : List Expr} {t : TA} {p pos : Pos} (G : GoodI X.prog X.w X.K X.mg X.base C k ps sp) (hr : Room j X.A) (hk : k + 1 ≤ j) (hg : Gl X x) (hm : X.mg x = some (.ref C)) (ha : PA X (e :: es) t)
    (hdb : (x == ("__debug__" : Str)) = false := by decide) (he : starEach (e :: es) X.env = (false, eval e X.env) :: starEach es X.env := by rfl) (hpl : (backTo pos (starEach es X.env)).any (·.1) = false := by rfl) :
    PE X (.Call (.Name x p) (e :: es) [] pos) (tMake C sp [] E0 t) := by
  obtain ⟨f, fd, M, hb, F⟩ := G
  exact pe_make M F (hr.mono hk) hg hm hb .nil passN ha hdb he hpl
/-- self.f = list(x) -/
def inL (K : PySem.W.Frag) (C : Addr) (f : Str) : Sp := fun vs H Q _ => ∃ (x dx a : Addr) (xs : List V), vs = [.ref x, .ref a] ∧ H x = some (.ins C dx []) ∧ SqL K H a xs ∧ ∀ p, H p = none → Q .non (upd (upd H p (.lst xs)) x (.ins C dx [(f, .ref p)]))
/-- self.f = x -/
def inV (C : Addr) (f : Str) : Sp := fun vs H Q _ => ∃ (x dx : Addr) (v : V), vs = [.ref x, v] ∧ H x = some (.ins C dx []) ∧ Q .non (upd H x (.ins C dx [(f, v)]))
theorem goodI_L {P : Program} {w : World} {K : PySem.W.Frag} {mg : Str → Option Value} {base : Heap} {C : Addr} {fl qual a1 a2 : Str} {params : Arguments} {body : List Stmt} {scope : Scope} {f : Addr} {fd : FuncData} {k : Nat}
    (F : FunD K "__init__" qual params body scope [] [] f fd) (c : Cls K C) (M : Mk K C f) (na : NoAttr K C fl) (sc : FnScope [a1, a2] [a1, a2] scope)
    (hb : ∀ (kV doc pm : Value) (an : Option Addr) (cdv ct : Value) (us : List Value), us.length = [a1, a2].length → bindArgs (PySem.W.fnOf "__init__" qual params body scope .none kV doc pm an cdv ct) ⟨us, []⟩ = pure ([a1, a2].zip us))
    (hd : ∀ (cdv : Value) (A : Around) (outer : List PySem.Env) (s : Shared) (H : Hp) (E : XK), Room k (A.deeper (envOfC qual scope s.heap.objs.size f cdv)) → PSs (cxOf (L2N.CX P w) P w K mg base [a1, a2] qual scope f cdv A outer s H E) body (tSeq (sFld K (tVar 0) (tCB (rListX K) (tCons (tVar 1) tNil)) fl) tNext)) :
    GoodI P w K mg base C (k + 1) [a1, a2] (inL K C fl) := by
  refine ⟨f, fd, M, FunD.bindsN (ps := [a1, a2]) F hb, F.ok sc (fun vs H Q E h => ?_) fun cdv A outer s H vs Q E hr h => ?_⟩
  · obtain ⟨x, dx, a, xs, rfl, _⟩ := h
    rfl
  · obtain ⟨x, dx, a, xs, rfl, hx, hs, q⟩ := h
    refine ⟨_, hd cdv A outer s H E hr, ?_⟩
    refine ⟨_, rfl, a, xs, rfl, .inl hs, fun p hp => ⟨_, rfl, x, C, dx, [], rfl, ?_, c, na, by decide, q p hp⟩⟩
    rw [upd_ne (fun z => by rw [z, hp] at hx; cases hx)]
    exact hx
theorem goodI_V {P : Program} {w : World} {K : PySem.W.Frag} {mg : Str → Option Value} {base : Heap} {C : Addr} {fl qual a1 a2 : Str} {params : Arguments} {body : List Stmt} {scope : Scope} {f : Addr} {fd : FuncData} {k : Nat}
    (F : FunD K "__init__" qual params body scope [] [] f fd) (c : Cls K C) (M : Mk K C f) (na : NoAttr K C fl) (sc : FnScope [a1, a2] [a1, a2] scope)
    (hb : ∀ (kV doc pm : Value) (an : Option Addr) (cdv ct : Value) (us : List Value), us.length = [a1, a2].length → bindArgs (PySem.W.fnOf "__init__" qual params body scope .none kV doc pm an cdv ct) ⟨us, []⟩ = pure ([a1, a2].zip us))
    (hd : ∀ (cdv : Value) (A : Around) (outer : List PySem.Env) (s : Shared) (H : Hp) (E : XK), Room k (A.deeper (envOfC qual scope s.heap.objs.size f cdv)) → PSs (cxOf (L2N.CX P w) P w K mg base [a1, a2] qual scope f cdv A outer s H E) body (tSeq (sFld K (tVar 0) (tVar 1) fl) tNext)) :
    GoodI P w K mg base C (k + 1) [a1, a2] (inV C fl) := by
  refine ⟨f, fd, M, FunD.bindsN (ps := [a1, a2]) F hb, F.ok sc (fun vs H Q E h => ?_) fun cdv A outer s H vs Q E hr h => ?_⟩
  · obtain ⟨x, dx, v, rfl, _⟩ := h
    rfl
  · obtain ⟨x, dx, v, rfl, hx, q⟩ := h
    exact ⟨_, hd cdv A outer s H E hr, _, rfl, _, rfl, x, C, dx, [], rfl, hx, c, na, by decide, q⟩
section
variable {K : PySem.W.Frag} {ds : List Slot} {m : Md} {te : TE} {ns : List Int} {i : Int} {C : Addr} {f : Str}
theorem ev_mkL (h : Ev K .I te ds (li ns)) : Ev K m (tMake C (inL K C f) [] E0 (tCons te tNil)) ds (.ob C [f] [li ns]) := fun He ex O H σ I Q q =>
  h He ex O H σ I _ fun v H1 e1 z1 => fun x dx hx hd hne => by
    obtain ⟨a, rfl, h1⟩ := is_li.mp z1
    have e2 := ins_new (o := .own x) (o2 := .ins C dx []) hx hd hne
    refine ⟨x, dx, a, ns.map V.int, rfl, upd_same, SqL.of (e2.at h1), fun p hp => ⟨rfl, ?_⟩⟩
    have px : p ≠ x := fun z => by rw [z, upd_same] at hp; cases hp
    have hp1 : H1 p = none := Ex.back e2 hp
    have e3 : Ex H1 (upd (upd (upd (upd H1 dx (.own x)) x (.ins C dx [])) p (.lst (ns.map V.int))) x (.ins C dx [(f, .ref p)])) :=
      Ex.mut (e2.trans (Ex.new hp)) hx (o := .ins C dx []) (by rw [upd_ne fun z => px z.symm, upd_same])
    refine q _ _ (e1.trans e3) (is_ob.mpr ⟨x, dx, [.ref p], rfl, vw_fresh I (Ex.back e1 hx) upd_same, rfl, IsL.cons (is_li.mpr ⟨p, rfl, vw_fresh I (Ex.back e1 hp1) ?_⟩) IsL.nil⟩)
    rw [upd_ne px, upd_same]
theorem ev_mkV (h : Ev K .I te ds (.int i)) : Ev K m (tMake C (inV C f) [] E0 (tCons te tNil)) ds (.ob C [f] [.int i]) := fun He ex O H σ I Q q =>
  h He ex O H σ I _ fun v H1 e1 z1 => fun x dx hx hd hne => by
    have e2 := ins_new (o := .own x) (o2 := .ins C dx []) hx hd hne
    refine ⟨x, dx, v, rfl, upd_same, rfl, ?_⟩
    have e3 : Ex H1 (upd (upd (upd H1 dx (.own x)) x (.ins C dx [])) x (.ins C dx [(f, v)])) := Ex.mut e2 hx upd_same
    refine q _ _ (e1.trans e3) (is_ob.mpr ⟨x, dx, [v], rfl, vw_fresh I (Ex.back e1 hx) upd_same, rfl, IsL.cons (z1.flat rfl) IsL.nil⟩)
end
/-! ### isinstance of an instance -/
structure InsC (K : PySem.W.Frag) (C : Addr) : Prop where
  cls : Cls K C
  ca : PySem.W.findIn K (.ref C) "__class__" = some (some (.builtin "object.__class__"))
  cg : PySem.W.specialIn K (.builtin "object.__class__") "__get__" = some (some (.builtin "getset_descriptor.__get__"))
  ct : PySem.W.takesIn K (.builtin "object.__class__") = some true
  cm : PySem.W.mroIn K C (.type "object") = some true
section
variable {K : PySem.W.Frag} {ds : List Slot} {m : Md} {ta tb : TE} {b c : Bool} {C X : Addr} {ns : List Str} {l : List D}
theorem ev_isC (h : Ev K .I ta ds (.ob C ns l)) (hX : Ev K .I tb ds (.cl X)) (hC : InsC K C) (hk : PySem.W.kitOne K (.ref C) (.ref X) = some b) : Ev K m (tCB (rIsi K) (tCons ta (tCons tb tNil))) ds (.bl b) :=
  ev_cb (ea_cons h (ea_cons hX ea_nil)) rfl fun vs H Q z q => by
    obtain ⟨v, w, rfl, h1, h2⟩ := isL2 z
    rw [is_cl.mp h2]
    obtain ⟨a, dx, ws, rfl, h3, _⟩ := is_ob.mp h1
    exact ⟨_, _, _, _, b, rfl, .own X, .base (.ins h3 hC.cls hC.ca hC.cg hC.ct hC.cm), hk, q _ (is_bl.mpr rfl)⟩
/-! is of truths -/
theorem ev_isB (ha : Ev K .I ta ds (.bl b)) (hb : Ev K .I tb ds (.bl c)) : Ev K m (tOp rIsB ta tb) ds (.bl (decide (b = c))) := Ev.fl rfl (fun He ex O H σ I Q q => ha.two hb I fun x y H2 e z1 z2 => ⟨b, c, is_bl.mp z1, is_bl.mp z2, q _ H2 e (is_bl.mpr rfl)⟩) m
theorem ev_notB (ha : Ev K .I ta ds (.bl b)) (hb : Ev K .I tb ds (.bl c)) : Ev K m (tOp rNotB ta tb) ds (.bl (!decide (b = c))) := Ev.fl rfl (fun He ex O H σ I Q q => ha.two hb I fun x y H2 e z1 z2 => ⟨b, c, is_bl.mp z1, is_bl.mp z2, q _ H2 e (is_bl.mpr rfl)⟩) m
end
/-- one of two readings -/
def tOrE (t1 t2 : TE) : TE := fun σ H Q => t1 σ H Q ∨ t2 σ H Q
theorem pe_orE {X : Cx} {e : Expr} {t1 t2 : TE} (h1 : PE X e t1) (h2 : PE X e t2) : PE X e (tOrE t1 t2) := ⟨fun pins s σ H Q I h => h.elim (h1.run pins s σ H Q I) (h2.run pins s σ H Q I)⟩
theorem ev_orL {K : PySem.W.Frag} {m : Md} {ds : List Slot} {d : D} {t1 t2 : TE} (h : Ev K m t1 ds d) : Ev K m (tOrE t1 t2) ds d := fun He ex O H σ I Q q => .inl (h He ex O H σ I Q q)
theorem ev_orR {K : PySem.W.Frag} {m : Md} {ds : List Slot} {d : D} {t1 t2 : TE} (h : Ev K m t2 ds d) : Ev K m (tOrE t1 t2) ds d := fun He ex O H σ I Q q => .inr (h He ex O H σ I Q q)
/-! ### classes' facts -/
theorem mk0_ok {K : PySem.W.Frag} {x : Str} (h : (Fx.mk0 x).ok K = true) : Mk0 K (He.ga K x) := by
  obtain ⟨h1, h⟩ := He.ba h
  obtain ⟨h2, h⟩ := He.ba h
  obtain ⟨h3, h4⟩ := He.ba h
  exact ⟨h1, He.eqO_ok h2, of_decide_eq_true h3, h4⟩
theorem insC_ok {K : PySem.W.Frag} {x : Str} (c : Cls K (He.ga K x)) (h : (Fx.insC x).ok K = true) : InsC K (He.ga K x) := by
  obtain ⟨h1, h⟩ := He.ba h
  obtain ⟨h2, h⟩ := He.ba h
  obtain ⟨h3, h4⟩ := He.ba h
  exact ⟨c, He.eqO_ok h1, He.eqO_ok h2, of_decide_eq_true h3, of_decide_eq_true h4⟩
end Px

namespace Px
variable [Tb]
/-! ### two rules crossed -/
def crF (t b t' b' : List Int) (k : Nat) : Int := cv (at0 t) (at0 b') k - cv (at0 t') (at0 b) k
def crN (t b t' b' : List Int) : Nat := max t.length t'.length + max b.length b'.length
def crossL (p : Int) (t b t' b' : List Int) : List Int := (List.range (crN t b t' b')).map fun k => crF t b t' b' k % p
theorem cross_len (p : Int) (t b t' b' : List Int) : (crossL p t b t' b').length = crN t b t' b' := by
  unfold crossL
  rw [List.length_map, List.length_range]
theorem cv_out {xs ys : List Int} {k : Nat} (h : xs.length + ys.length ≤ k + 1) : cv (at0 xs) (at0 ys) k = 0 := cv_zero fun i hi => by
  by_cases h1 : i < xs.length
  · rw [at0_out (xs := ys) (by omega), Int.mul_zero]
  · rw [at0_out (by omega), Int.zero_mul]
theorem cross_at {p : Int} (t b t' b' : List Int) (k : Nat) : at0 (crossL p t b t' b') k = crF t b t' b' k % p := by
  by_cases h : k < crN t b t' b'
  · exact getD_map h
  · have h2 : crN t b t' b' ≤ k := by omega
    rw [at0_out (by rw [cross_len]; exact h2)]
    unfold crN at h2
    unfold crF
    rw [cv_out (by omega), cv_out (by omega)]
    exact (Int.zero_emod p).symm
theorem cv_sub (f g h : Nat → Int) (k : Nat) : cv f (fun i => g i - h i) k = cv f g k - cv f h k := by
  unfold cv
  rw [← sumN_sub]
  exact sumN_congr fun i _ => Int.mul_sub _ _ _
/-- B B' times the difference of the rows is what is crossed -/
theorem cross_ser {p : Int} {t b t' b' : List Int} {a a' : Nat → Int} (h : Ser p (at0 t) (at0 b) a) (h' : Ser p (at0 t') (at0 b') a') (k : Nat) : Eqv p (cv (cv (at0 b) (at0 b')) (fun i => a i - a' i) k) (crF t b t' b' k) := by
  rw [cv_sub]
  unfold crF
  refine Eqv.sub ?_ ?_
  · rw [show cv (at0 b) (at0 b') = cv (at0 b') (at0 b) from funext fun k => cv_comm _ _ k, cv_assoc, cv_comm]
    exact cv_congr (fun i _ => h.law i) fun _ _ => Eqv.refl
  · rw [cv_assoc, cv_comm]
    exact cv_congr (fun i _ => h'.law i) fun _ _ => Eqv.refl
/-- what begins with 1 times a row: the same first place but 0 -/
theorem first_same {p : Int} {g d c : Nat → Int} (g0 : Eqv p (g 0) 1) (h : ∀ k, Eqv p (cv g d k) (c k)) (n : Nat) (hc : ∀ k, k < n → Eqv p (c k) 0) : (∀ k, k < n → Eqv p (d k) 0) ∧ Eqv p (d n) (c n) := by
  have step : ∀ m, (∀ k, k < m → Eqv p (d k) 0) → Eqv p (d m) (c m) := fun m hm => by
    refine Eqv.trans ?_ (h m)
    unfold cv
    rw [sumN_first, Nat.sub_zero]
    have z : Eqv p (sumN m fun i => g (i + 1) * d (m - (i + 1))) 0 := by
      have e : sumN m (fun _ => (0 : Int)) = 0 := sumN_zeros m fun _ _ => rfl
      rw [← e]
      refine Eqv.sum fun i hi => ?_
      have := Eqv.mul (Eqv.refl (p := p) (a := g (i + 1))) (hm (m - (i + 1)) (by omega))
      rwa [Int.mul_zero] at this
    have e2 := Eqv.add (Eqv.mul g0 (Eqv.refl (p := p) (a := d m))) z
    rw [Int.one_mul, Int.add_zero] at e2
    exact e2.symm
  have low : ∀ m, m ≤ n → ∀ k, k < m → Eqv p (d k) 0 := fun m => by
    induction m with
    | zero => intro _ k hk; omega
    | succ m ih =>
      intro hm k hk
      by_cases z : k < m
      · exact ih (by omega) k z
      · rw [show k = m by omega]
        exact (step m (ih (by omega))).trans (hc m (by omega))
  exact ⟨low n (Nat.le_refl n), step n (low n (Nat.le_refl n))⟩
theorem rest_eq {p x y : Int} (hx : 0 ≤ x ∧ x < p) (hy : 0 ≤ y ∧ y < p) : Eqv p (x - y) 0 ↔ x = y := by
  constructor
  · intro h
    have := Eqv.add h (Eqv.refl (p := p) (a := y))
    rw [Int.sub_add_cancel, Int.zero_add] at this
    exact Eqv.iff hx hy this
  · intro h
    rw [h, Int.sub_self]
    exact Eqv.refl
/-- the first place that is not 0 among those of a list -/
def firstN (xs : List Int) : Option Nat := xs.findIdx? fun n => n != 0
/-- the places of a and a' are alike up to n just where the crossed places are 0 up to n -/
theorem cross_first {p : Int} {t b t' b' : List Int} (hp : p ∈ primesL) (h0 : at0 b 0 = 1) (h0' : at0 b' 0 = 1) (n : Nat) :
    (∀ k, k < n → at0 (crossL p t b t' b') k = 0) ↔ ∀ k, k < n → serF p t b k = serF p t' b' k := by
  have hb := prime_bd hp
  have s1 := ser_op (t := t) hp h0
  have s2 := ser_op (t := t') hp h0'
  have hser := fun k => cross_ser s1 s2 k
  have g0 : Eqv p (cv (at0 b) (at0 b') 0) 1 := by
    unfold cv
    rw [sumN_succ, sumN_zero, h0, Nat.sub_zero, h0'] <;> exact Eqv.refl
  constructor
  · intro h k hk
    have := (first_same g0 hser n fun k hk => by
      have e := h k hk
      rw [cross_at] at e
      show _ % p = 0 % p
      rw [e, Int.zero_emod]).1 k hk
    exact (rest_eq (s1.rest k) (s2.rest k)).mp this
  · intro h k hk
    rw [cross_at]
    have e : Eqv p (crF t b t' b' k) 0 := by
      refine (hser k).symm.trans ?_
      unfold cv
      have e : sumN (k + 1) (fun _ => (0 : Int)) = 0 := sumN_zeros _ fun _ _ => rfl
      rw [← e]
      refine Eqv.sum fun i hi => ?_
      have := h (k - i) (by omega)
      show Eqv p (_ * (serF p t b (k - i) - serF p t' b' (k - i))) 0
      rw [this, Int.sub_self, Int.mul_zero]
      exact Eqv.refl
    exact e.zero_of
end Px

namespace Px
variable [Tb]
/-! ### series put together, multiplied, shifted -/
theorem cv_four (b1 b2 a1 a2 : Nat → Int) : cv (cv b1 b2) (cv a1 a2) = cv (cv b1 a1) (cv b2 a2) := by
  have e1 : cv (cv b1 b2) (cv a1 a2) = cv b1 (cv b2 (cv a1 a2)) := funext fun k => cv_assoc _ _ _ k
  have e2 : cv b2 (cv a1 a2) = cv (cv b2 a1) a2 := funext fun k => (cv_assoc _ _ _ k).symm
  have e3 : cv b2 a1 = cv a1 b2 := funext fun k => cv_comm _ _ k
  have e4 : cv (cv a1 b2) a2 = cv a1 (cv b2 a2) := funext fun k => cv_assoc _ _ _ k
  have e5 : cv b1 (cv a1 (cv b2 a2)) = cv (cv b1 a1) (cv b2 a2) := funext fun k => (cv_assoc _ _ _ k).symm
  rw [e1, e2, e3, e4, e5]
theorem ser_prod {p : Int} {f1 g1 a1 f2 g2 a2 f g : Nat → Int} (hp : 0 < p) (h1 : Ser p f1 g1 a1) (h2 : Ser p f2 g2 a2) (hf : ∀ k, Eqv p (f k) (cv f1 f2 k)) (hg : ∀ k, Eqv p (g k) (cv g1 g2 k)) : Ser p f g (fun k => cv a1 a2 k % p) := by
  refine ⟨fun k => mod_rest hp, fun k => ?_⟩
  refine (cv_congr (f' := cv g1 g2) (g' := cv a1 a2) (fun i _ => hg i) fun i _ => Eqv.mod).trans ?_
  rw [cv_four]
  exact (cv_congr (fun i _ => h1.law i) fun i _ => h2.law i).trans (hf k).symm
theorem cv_addR (f g h : Nat → Int) (k : Nat) : cv f (fun i => g i + h i) k = cv f g k + cv f h k := by
  unfold cv
  rw [← sumN_add]
  exact sumN_congr fun i _ => Int.mul_add _ _ _
theorem ser_sum {p : Int} {f1 g1 a1 f2 g2 a2 f g : Nat → Int} (hp : 0 < p) (h1 : Ser p f1 g1 a1) (h2 : Ser p f2 g2 a2) (hf : ∀ k, Eqv p (f k) (cv f1 g2 k + cv f2 g1 k)) (hg : ∀ k, Eqv p (g k) (cv g1 g2 k)) : Ser p f g (fun k => (a1 k + a2 k) % p) := by
  refine ⟨fun k => mod_rest hp, fun k => ?_⟩
  refine (cv_congr (f' := cv g1 g2) (g' := fun i => a1 i + a2 i) (fun i _ => hg i) fun i _ => Eqv.mod).trans ?_
  rw [cv_addR]
  refine (Eqv.add ?_ ?_).trans (hf k).symm
  · rw [show cv g1 g2 = cv g2 g1 from funext fun k => cv_comm _ _ k, cv_assoc, cv_comm]
    exact cv_congr (fun i _ => h1.law i) fun _ _ => Eqv.refl
  · rw [cv_assoc, cv_comm]
    exact cv_congr (fun i _ => h2.law i) fun _ _ => Eqv.refl
/-- a place more ahead -/
def sh (a : Nat → Int) : Nat → Int
  | 0 => 0
  | k + 1 => a k
theorem cv_sh (g a : Nat → Int) : ∀ k, cv g (sh a) k = sh (cv g a) k
  | 0 => by
    unfold cv
    rw [sumN_succ, sumN_zero]
    show 0 + g 0 * 0 = 0
    omega
  | k + 1 => by
    show cv g (sh a) (k + 1) = cv g a k
    unfold cv
    rw [sumN_succ]
    show _ + g (k + 1) * sh a (k + 1 - (k + 1)) = _
    rw [Nat.sub_self]
    show _ + g (k + 1) * 0 = _
    rw [Int.mul_zero, Int.add_zero]
    refine sumN_congr fun i hi => ?_
    rw [show k + 1 - i = (k - i) + 1 by omega] <;> rfl
theorem ser_sh {p : Int} {f g a f' : Nat → Int} (hp : 0 < p) (h : Ser p f g a) (hf : ∀ k, f' k = sh f k) : Ser p f' g (sh a) := by
  refine ⟨fun k => ?_, fun k => ?_⟩
  · cases k with
    | zero => exact ⟨Int.le_refl 0, hp⟩
    | succ k => exact h.rest k
  · rw [cv_sh, hf]
    cases k with
    | zero => exact Eqv.refl
    | succ k => exact h.law k
/-- what the bottom tells of a place behind the top -/
theorem ser_taps {p : Int} {t b : List Int} {a : Nat → Int} {N : Nat} (h0 : at0 b 0 = 1) (h : Ser p (at0 t) (at0 b) a) (hN : t.length ≤ N) (hN2 : b.length ≤ N + 1) : Eqv p (sumN (b.length - 1) fun i => -(at0 b (i + 1)) * a (N - 1 - i)) (a N) := by
  have e := h.law N
  rw [at0_out hN] at e
  unfold cv at e
  rw [sumN_first, Nat.sub_zero, h0, Int.one_mul] at e
  have e2 : (sumN N fun i => at0 b (i + 1) * a (N - (i + 1))) = sumN (b.length - 1) fun i => at0 b (i + 1) * a (N - 1 - i) := by
    rw [sumN_more (n := b.length - 1) (by omega) fun i h1 _ => by rw [at0_out (by omega), Int.zero_mul]]
    exact sumN_congr fun i hi => by rw [show N - (i + 1) = N - 1 - i by omega]
  rw [e2] at e
  have e3 : (sumN (b.length - 1) fun i => -(at0 b (i + 1)) * a (N - 1 - i)) = -(sumN (b.length - 1) fun i => at0 b (i + 1) * a (N - 1 - i)) := by
    have : ∀ s : Int, -s = (-1) * s := fun s => by omega
    rw [this, ← sumN_mul]
    exact sumN_congr fun i _ => by rw [Int.neg_mul, this]
  rw [e3]
  have e4 := Eqv.sub (Eqv.refl (p := p) (a := a N)) e
  rw [Int.sub_zero] at e4
  rwa [show a N - (a N + (sumN (b.length - 1) fun i => at0 b (i + 1) * a (N - 1 - i))) = -(sumN (b.length - 1) fun i => at0 b (i + 1) * a (N - 1 - i)) by omega] at e4
end Px

namespace Px
variable [Tb]
/-! ### binomials -/
def rowC : Nat → List Nat
  | 0 => [1]
  | n + 1 => List.zipWith (fun x y => x + y) (0 :: rowC n) (rowC n ++ [0])
def bC (n j : Nat) : Nat := (rowC n).getD j 0
theorem rowC_len : ∀ n, (rowC n).length = n + 1
  | 0 => rfl
  | n + 1 => by
    unfold rowC
    rw [List.length_zipWith, List.length_cons, List.length_append, List.length_singleton, rowC_len n]
    omega
theorem getD_zip (xs ys : List Nat) (h : xs.length = ys.length) (j : Nat) : (List.zipWith (fun x y => x + y) xs ys).getD j 0 = xs.getD j 0 + ys.getD j 0 := by
  rw [List.getD_eq_getElem?_getD, List.getD_eq_getElem?_getD, List.getD_eq_getElem?_getD, List.getElem?_zipWith]
  by_cases z : j < xs.length
  · rw [List.getElem?_eq_getElem z, List.getElem?_eq_getElem (show j < ys.length by omega)] <;> rfl
  · rw [List.getElem?_eq_none (show xs.length ≤ j by omega), List.getElem?_eq_none (show ys.length ≤ j by omega)] <;> rfl
theorem bC_app (n j : Nat) : (rowC n ++ [0]).getD j 0 = bC n j := by
  unfold bC
  rw [List.getD_eq_getElem?_getD, List.getD_eq_getElem?_getD]
  by_cases z : j < (rowC n).length
  · rw [List.getElem?_append_left z]
  · rw [List.getElem?_append_right (by omega), List.getElem?_eq_none (show (rowC n).length ≤ j by omega)]
    cases e : j - (rowC n).length with
    | zero => rfl
    | succ q => rw [List.getElem?_eq_none (by rw [List.length_singleton]; omega)]
theorem bC_zero (n : Nat) : bC (n + 1) 0 = bC n 0 := by
  show (List.zipWith (fun x y => x + y) (0 :: rowC n) (rowC n ++ [0])).getD 0 0 = _
  rw [getD_zip _ _ (by rw [List.length_cons, List.length_append, List.length_singleton]), bC_app]
  show 0 + bC n 0 = bC n 0
  omega
theorem bC_succ (n j : Nat) : bC (n + 1) (j + 1) = bC n j + bC n (j + 1) := by
  show (List.zipWith (fun x y => x + y) (0 :: rowC n) (rowC n ++ [0])).getD (j + 1) 0 = _
  rw [getD_zip _ _ (by rw [List.length_cons, List.length_append, List.length_singleton]), bC_app] <;> rfl
theorem bC_out (n j : Nat) (h : n < j) : bC n j = 0 := by
  unfold bC
  rw [List.getD_eq_getElem?_getD, List.getElem?_eq_none (by rw [rowC_len]; omega)] <;> rfl
theorem bC_prime : ∀ p ∈ primesL, ((rowC p.toNat).getD 0 0 = 1 ∧ (rowC p.toNat).getD p.toNat 0 = 1) ∧ ∀ j, j < p.toNat → j ≠ 0 → (rowC p.toNat).getD j 0 % p.toNat = 0 := by decide +kernel
theorem little : ∀ p ∈ primesL, ∀ c, c < p.toNat → c ^ p.toNat % p.toNat = c := by decide +kernel
/-! ### powers of series -/
def oneF : Nat → Int := fun k => if k = 0 then 1 else 0
def pwf (f : Nat → Int) : Nat → Nat → Int
  | 0 => oneF
  | n + 1 => cv (pwf f n) f
theorem cv_oneF (f : Nat → Int) : cv oneF f = f := funext fun k => by
  unfold cv
  rw [sumN_first, sumN_zeros k fun i _ => by
    show (if i + 1 = 0 then (1 : Int) else 0) * _ = 0
    rw [if_neg (by omega), Int.zero_mul], Nat.sub_zero]
  show (if 0 = 0 then (1 : Int) else 0) * f k + 0 = f k
  rw [if_pos rfl, Int.one_mul, Int.add_zero]
theorem cv_sumL {n : Nat} {u : Nat → Nat → Int} {c : Nat → Int} (g : Nat → Int) (k : Nat) : cv (fun k => sumN n fun j => c j * u j k) g k = sumN n fun j => c j * cv (u j) g k := by
  unfold cv
  have e : (sumN (k + 1) fun a => (sumN n fun j => c j * u j a) * g (k - a)) = sumN (k + 1) fun a => sumN n fun j => c j * u j a * g (k - a) := sumN_congr fun a _ => by rw [sumN_mulR]
  rw [e, sumN_swap]
  refine sumN_congr fun j _ => ?_
  rw [← sumN_mul]
  exact sumN_congr fun a _ => Int.mul_assoc _ _ _
theorem binom (f g : Nat → Int) : ∀ n k, pwf (fun i => f i + g i) n k = sumN (n + 1) fun j => (bC n j : Int) * cv (pwf f (n - j)) (pwf g j) k
  | 0, k => by
    rw [sumN_succ, sumN_zero]
    show oneF k = 0 + ((1 : Nat) : Int) * cv oneF oneF k
    rw [cv_oneF]
    omega
  | n + 1, k => by
    show cv (pwf (fun i => f i + g i) n) (fun i => f i + g i) k = _
    rw [cv_addR, show pwf (fun i => f i + g i) n = fun k => sumN (n + 1) fun j => (bC n j : Int) * cv (pwf f (n - j)) (pwf g j) k from funext fun k => binom f g n k, cv_sumL, cv_sumL]
    have e1 : ∀ j, j < n + 1 → cv (cv (pwf f (n - j)) (pwf g j)) f k = cv (pwf f (n + 1 - j)) (pwf g j) k := fun j hj => by
      have a1 : cv (cv (pwf f (n - j)) (pwf g j)) f = cv (cv (pwf f (n - j)) f) (pwf g j) := funext fun k => by
        rw [cv_assoc, show cv (pwf g j) f = cv f (pwf g j) from funext fun k => cv_comm _ _ k, ← cv_assoc]
      rw [a1, show n + 1 - j = (n - j) + 1 by omega] <;> rfl
    have e2 : ∀ j, cv (cv (pwf f (n - j)) (pwf g j)) g k = cv (pwf f (n - j)) (pwf g (j + 1)) k := fun j => by
      rw [cv_assoc] <;> rfl
    have s1 : (sumN (n + 1) fun j => (bC n j : Int) * cv (cv (pwf f (n - j)) (pwf g j)) f k) = sumN (n + 1) fun j => (bC n j : Int) * cv (pwf f (n + 1 - j)) (pwf g j) k := sumN_congr fun j hj => by rw [e1 j hj]
    have s2 : (sumN (n + 1) fun j => (bC n j : Int) * cv (cv (pwf f (n - j)) (pwf g j)) g k) = sumN (n + 1) fun j => (bC n j : Int) * cv (pwf f (n - j)) (pwf g (j + 1)) k := sumN_congr fun j _ => by rw [e2 j]
    have s3 : (sumN (n + 1) fun j => (bC n j : Int) * cv (pwf f (n + 1 - j)) (pwf g j) k) = (bC n 0 : Int) * cv (pwf f (n + 1)) (pwf g 0) k + sumN (n + 1) fun j => (bC n (j + 1) : Int) * cv (pwf f (n - j)) (pwf g (j + 1)) k := by
      have z : (sumN (n + 1) fun j => (bC n (j + 1) : Int) * cv (pwf f (n - j)) (pwf g (j + 1)) k) = sumN n fun j => (bC n (j + 1) : Int) * cv (pwf f (n - j)) (pwf g (j + 1)) k := by
        rw [sumN_succ, bC_out n (n + 1) (by omega)]
        omega
      rw [z, sumN_first]
      congr 1
      exact sumN_congr fun j _ => by rw [show n + 1 - (j + 1) = n - j by omega]
    rw [s1, s2, s3, sumN_first (n + 1), bC_zero, Nat.sub_zero, Int.add_assoc, ← sumN_add]
    congr 1
    refine sumN_congr fun j hj => ?_
    rw [bC_succ, show n + 1 - (j + 1) = n - j by omega, Int.natCast_add, Int.add_mul]
    omega
/-- put together, raised to the prime -/
theorem frob_add {p : Int} (hp : p ∈ primesL) (f g : Nat → Int) (k : Nat) : Eqv p (pwf (fun i => f i + g i) p.toNat k) (pwf f p.toNat k + pwf g p.toNat k) := by
  have hb := prime_bd hp
  obtain ⟨⟨b0, bn⟩, bm⟩ := bC_prime p hp
  obtain ⟨n, hn⟩ : ∃ n, p.toNat = n + 1 := ⟨p.toNat - 1, by omega⟩
  rw [binom, hn, sumN_succ, sumN_first]
  have mid : Eqv p (sumN n fun j => (bC (n + 1) (j + 1) : Int) * cv (pwf f (n + 1 - (j + 1))) (pwf g (j + 1)) k) 0 := by
    have e : sumN n (fun _ => (0 : Int)) = 0 := sumN_zeros n fun _ _ => rfl
    rw [← e]
    refine Eqv.sum fun j hj => ?_
    have h := bm (j + 1) (by omega) (by omega)
    rw [hn] at h
    have h2 : Eqv p (bC (n + 1) (j + 1) : Int) 0 := by
      show (((rowC (n + 1)).getD (j + 1) 0 : Nat) : Int) % p = 0 % p
      have hpn : p = ((n + 1 : Nat) : Int) := by omega
      rw [hpn, ← Int.natCast_emod, h] <;> rfl
    have := Eqv.mul h2 (Eqv.refl (p := p) (a := cv (pwf f (n + 1 - (j + 1))) (pwf g (j + 1)) k))
    rwa [Int.zero_mul] at this
  rw [hn] at b0 bn
  have c0 : (bC (n + 1) 0 : Int) = 1 := by
    show (((rowC (n + 1)).getD 0 0 : Nat) : Int) = 1
    rw [b0] <;> rfl
  have cn : (bC (n + 1) (n + 1) : Int) = 1 := by
    show (((rowC (n + 1)).getD (n + 1) 0 : Nat) : Int) = 1
    rw [bn] <;> rfl
  rw [c0, cn, Nat.sub_self, Nat.sub_zero, Int.one_mul, Int.one_mul]
  have f0 : cv (pwf f (n + 1)) (pwf g 0) k = pwf f (n + 1) k := by
    rw [cv_comm]
    show cv oneF _ k = _
    rw [cv_oneF]
  have g0 : cv (pwf f 0) (pwf g (n + 1)) k = pwf g (n + 1) k := by
    show cv oneF _ k = _
    rw [cv_oneF]
  rw [f0, g0]
  have := Eqv.add (Eqv.add (Eqv.refl (p := p) (a := pwf f (n + 1) k)) mid) (Eqv.refl (p := p) (a := pwf g (n + 1) k))
  rwa [Int.add_zero] at this
/-! ### one number alone -/
def mono (c : Int) (i : Nat) : Nat → Int := fun k => if k = i then c else 0
theorem cv_mono (c d : Int) (i j : Nat) : cv (mono c i) (mono d j) = mono (c * d) (i + j) := funext fun k => by
  unfold cv
  have e : (sumN (k + 1) fun a => mono c i a * mono d j (k - a)) = sumN (k + 1) fun a => if a = i then c * mono d j (k - a) else 0 := sumN_congr fun a _ => by
    unfold mono
    by_cases z : a = i
    · rw [if_pos z, if_pos z]
    · rw [if_neg z, if_neg z, Int.zero_mul]
  rw [e]
  by_cases z : i < k + 1
  · rw [sumN_one z]
    unfold mono
    by_cases w : k = i + j
    · rw [if_pos w, if_pos (by omega)]
    · rw [if_neg w, if_neg (by omega), Int.mul_zero]
  · rw [sumN_zeros _ fun a ha => by rw [if_neg (by omega)]]
    unfold mono
    rw [if_neg (by omega)]
theorem pwf_mono (c : Int) (i : Nat) : ∀ n, pwf (mono c i) n = mono (c ^ n) (i * n)
  | 0 => funext fun k => by
    show oneF k = _
    unfold oneF mono
    rw [Nat.mul_zero, Int.pow_zero]
  | n + 1 => by
    show cv (pwf (mono c i) n) (mono c i) = _
    rw [pwf_mono c i n, cv_mono, Int.pow_succ, Nat.mul_succ]
/-- spread by p -/
def spr (q : Nat) (f : Nat → Int) (k : Nat) : Int := if k % q = 0 then f (k / q) else 0
def cutF (f : Nat → Int) (n k : Nat) : Int := if k < n then f k else 0
theorem pwf_zero : ∀ n, pwf (fun _ => 0) (n + 1) = fun _ => 0 := fun n => funext fun k => by
  show cv _ _ k = 0
  exact cv_zero fun i _ => Int.mul_zero _
theorem frob_cut {p : Int} (hp : p ∈ primesL) {f : Nat → Int} (hf : ∀ k, 0 ≤ f k ∧ f k < p) : ∀ n k, Eqv p (pwf (cutF f n) p.toNat k) (spr p.toNat (cutF f n) k)
  | 0, k => by
    have hb := prime_bd hp
    have e : cutF f 0 = fun _ => 0 := funext fun k => by
      unfold cutF
      rw [if_neg (by omega)]
    obtain ⟨n, hn⟩ : ∃ n, p.toNat = n + 1 := ⟨p.toNat - 1, by omega⟩
    rw [e, hn, pwf_zero]
    unfold spr
    split <;> exact Eqv.refl
  | n + 1, k => by
    have hb := prime_bd hp
    have e : cutF f (n + 1) = fun i => cutF f n i + mono (f n) n i := funext fun i => by
      unfold cutF mono
      by_cases z : i < n
      · rw [if_pos z, if_pos (by omega), if_neg (by omega), Int.add_zero]
      · by_cases w : i = n
        · subst w
          rw [if_pos (by omega), if_neg (by omega), if_pos rfl, Int.zero_add]
        · rw [if_neg (by omega), if_neg z, if_neg w, Int.add_zero]
    rw [e]
    refine (frob_add hp _ _ k).trans ?_
    refine (Eqv.add (frob_cut hp hf n k) Eqv.refl).trans ?_
    rw [pwf_mono]
    have hl : Eqv p (f n ^ p.toNat) (f n) := by
      have h := little p hp (f n).toNat (by have := hf n; omega)
      have e1 : f n = (((f n).toNat : Nat) : Int) := by have := hf n; omega
      have e2 : p = ((p.toNat : Nat) : Int) := by omega
      show f n ^ p.toNat % p = f n % p
      generalize hq : p.toNat = q at h e2
      generalize (f n).toNat = c at h e1
      rw [e1, e2, ← Int.natCast_pow, ← Int.natCast_emod, h, ← Int.natCast_emod, Nat.mod_eq_of_lt]
      have := hf n
      omega
    have hs : Eqv p (mono (f n ^ p.toNat) (n * p.toNat) k) (spr p.toNat (mono (f n) n) k) := by
      unfold mono spr
      by_cases z : k = n * p.toNat
      · subst z
        rw [if_pos rfl, if_pos (Nat.mul_mod_left n p.toNat)]
        show Eqv p _ (if n * p.toNat / p.toNat = n then f n else 0)
        rw [if_pos (Nat.mul_div_cancel n (by omega))]
        exact hl
      · rw [if_neg z]
        by_cases w : k % p.toNat = 0
        · rw [if_pos w]
          show Eqv p 0 (if k / p.toNat = n then f n else 0)
          rw [if_neg fun y => z (by
            rw [← y]
            have := Nat.div_add_mod k p.toNat
            rw [w, Nat.add_zero, Nat.mul_comm] at this
            exact this.symm)]
          exact Eqv.refl
        · rw [if_neg w]
          exact Eqv.refl
    refine (Eqv.add Eqv.refl hs).trans (Eqv.of ?_)
    unfold spr
    split
    · rfl
    · rfl
theorem pw_pwf {p : Int} {m : Nat} {xs : List Int} (hx : xs.length = m) : ∀ n k, k < m → Eqv p (at0 (pw p m xs n) k) (pwf (at0 xs) n k)
  | 0, k, hk => by
    show Eqv p (at0 (oneL m) k) (oneF k)
    rw [oneL_at hk]
    exact Eqv.refl
  | n + 1, k, hk => by
    show Eqv p (at0 (timesL p (pw p m xs n) xs) k) (cv (pwf (at0 xs) n) (at0 xs) k)
    rw [timesL_at (by rw [pw_len hx, hx]; omega)]
    exact Eqv.mod.trans (cv_congr (fun i hi => pw_pwf hx n i (by omega)) fun _ _ => Eqv.refl)
/-- raised to the prime, each rest stands that many times farther -/
theorem frob {p : Int} {m : Nat} {xs : List Int} (hp : p ∈ primesL) (hx : xs.length = m) (hr : Rests p xs) {k : Nat} (hk : k < m) : at0 (pw p m xs p.toNat) k = spr p.toNat (at0 xs) k := by
  have hb := prime_bd hp
  have e : cutF (at0 xs) m = at0 xs := funext fun i => by
    unfold cutF
    by_cases z : i < m
    · rw [if_pos z]
    · rw [if_neg z, at0_out (by omega)]
  have h := frob_cut hp (f := at0 xs) (fun k => hr.get (by omega) k) m k
  rw [e] at h
  have h2 := (pw_pwf (p := p) hx p.toNat k hk).trans h
  refine Eqv.iff ((pw_rests (by omega) _).get (by omega) k) ?_ h2
  unfold spr
  split
  · exact hr.get (by omega) _
  · exact ⟨Int.le_refl 0, by omega⟩
end Px

namespace Px
open PySem PySem.Spec PyProof.Rows L2
variable [Tb]
/-! ### a, b = a list -/
theorem q_unpackL {K : PySem.W.Frag} {W : WX} {P : Post} {u : TS} {ds ds' : List Slot} {te : TE} {l : List D} {k : Nat} {gs : TGs} (h : Ev K .S te ds (.lst l)) (ht : TgsD K gs l ds ds') (hk : l.length = k) (q : SW K W u ds' P) : SW K W (tSeq (tAsg te (gLst K k gs)) u) ds P := fun He ex O H σ I D c =>
  h He ex O H σ I _ fun v H2 e z => by
    obtain ⟨a, xs, rfl, h1, h2⟩ := is_lst.mp z
    exact ⟨a, xs, rfl, SqL.of ((vw_in (m := .S)).at h1), by rw [h2.length, hk], ht He ex O H2 σ xs (I.mono e) (h2.mono ex_hd) _ fun σ' I' => q He ex O H2 σ' I' D c⟩
end Px

namespace Px
open PySem PySem.Spec PyProof.Rows L2
variable [Tb]
section
variable {K : PySem.W.Frag} {W : WX} {P : Post} {u : TS} {ds ds' : List Slot} {m : Md} {ta tb tx : TE} {tA : TA} {i j : Int} {k : Nat} {l : List D} {d d' : D}
/-! ### list(range(a, b)) -/
def rngI (lo : Int) (n : Nat) : List Int := (List.range n).map fun (k : Nat) => lo + (k : Int)
theorem rngI_D (lo : Int) (n : Nat) : (rngI lo n).map D.int = rngD lo n := by
  unfold rngI rngD
  rw [List.map_map] <;> rfl
theorem ev_listRg2 {n : Nat} (ha : Ev K .I ta ds (.int i)) (hb : Ev K .I tb ds (.int j)) (h : 0 ≤ i ∧ i ≤ 100000 ∧ 0 ≤ j ∧ j ≤ 100000) (hn : (j - i).toNat = n) : Ev K m (tLstRg (tRg2 ta tb)) ds (li (rngI i n)) := fun He ex O H σ I Q q =>
  ha.two hb I fun x y H2 e z1 z2 => ⟨i, j, is_int.mp z1, is_int.mp z2, RgOk.of_le (by omega) (by omega) (by omega) (by omega), fun p hp => q _ _ (e.trans (Ex.new hp)) (new_lst I e hp (isL_ints.mpr (by
    unfold rgV rngI
    rw [hn, List.map_map]
    exact List.map_congr_left fun k _ => rfl)))⟩
/-! ### xs[::-1] -/
theorem ev_rev {ns : List Int} (ha : Ev K .I ta ds (li ns)) : Ev K m (tRevL K ta) ds (li ns.reverse) := fun He ex O H σ I Q q =>
  ha He ex O H σ I _ fun x H1 e1 z1 => by
    obtain ⟨a, rfl, h1⟩ := is_li.mp z1
    exact ⟨a, _, rfl, SqL.of h1, fun p hp => q _ _ (e1.trans (Ex.new hp)) (new_lst I e1 hp (isL_ints.mpr (by rw [List.map_reverse])))⟩
/-! ### an item of an owned list -/
theorem ev_ixO (h : ds[k]? = some (.ow l)) (hb : Ev K .I tb ds (.int j)) (h0 : 0 ≤ j) (hd : l[j.toNat]? = some d) : Ev K .M (tOp (rIxX K) (tVar k) tb) ds d := fun He ex O H σ I Q q => by
  obtain ⟨p, vs, h1, h2, h3, h4⟩ := I.ow k l h
  refine ⟨_, h1, hb He ex O H σ I _ fun v H2 e z => ?_⟩
  rw [is_int.mp z]
  obtain ⟨v, hv, hd⟩ := h4.get hd
  exact .inl ⟨p, vs, j, v, rfl, rfl, SqL.of (e.at h3), atI_of h0 hv, q v H2 e (hd.mono (Ex.hn e))⟩
/-! ### targets that are items of owned lists -/
def PutM (K : PySem.W.Frag) (gs : TGs) (l : List D) (ds ds' : List Slot) : Prop :=
  ∀ He ex O H σ vs, Env K He ex O H σ ds → IsL K (Hn He O H) l vs → ∀ Q : L2.St → Hp → Prop, (∀ σ' H', Env K He ex O H' σ' ds' → Q σ' H') → gs vs σ H Q
theorem putm_nil : PutM K gNil [] ds ds := fun He ex O H σ vs I h Q q => ⟨by simpa only [IsL] using h, q σ H I⟩
theorem putm_sub {gs : TGs} (h : ds[k]? = some (.ow l)) (hx : Ev K .I tx ds (.int j)) (h0 : 0 ≤ j) (hz : j < (l.length : Int)) {ls : List D} (hr : PutM K gs ls (ds.set k (.ow (l.set j.toNat d))) ds') : PutM K (gCons (gSub (tVar k) tx rSetL) gs) (d :: ls) ds ds' := fun He ex O H σ vs I hv Q q => by
  simp only [IsL] at hv
  obtain ⟨v, r, rfl, z1, z2⟩ := hv
  obtain ⟨p, ws, h1, h2, h3, h4⟩ := I.ow k l h
  refine ⟨v, r, rfl, _, h1, hx He ex O H σ I _ fun w H3 e3 z3 => ?_⟩
  rw [is_int.mp z3]
  have hl := h4.length
  refine ⟨p, ws, j, j.toNat, rfl, rfl, e3.at h3, ?_, ?_⟩
  · unfold ixN
    rw [if_pos h0, if_pos (by omega)]
  have hn : Vx (Hn He O H3) (Hn He O (upd H3 p (.lst (ws.set j.toNat v)))) := fun b o z _ => by
    obtain ⟨y1, y3, y2⟩ := hn_some.mp z
    refine hn_some.mpr ⟨y1, y3, ?_⟩
    have hne : b ≠ p := fun y => y1 (by rw [y]; exact h2)
    rw [upd_ne hne]
    exact y2
  exact hr He ex O _ σ r ((I.mono e3).write h h1 (IsL.set (z1.mono (Ex.hn e3)) (h4.mono (Ex.hn e3)))) ((z2.mono (Ex.hn e3)).mono hn) Q q
theorem q_tupM {gs : TGs} {n : Nat} (ha : EvA K .M tA ds l) (hp : PutM K gs l ds ds') (hk : l.length = n) (hz : n ≤ 1000) (q : SW K W u ds' P) : SW K W (tSeq (tAsg (tTup tA) (gTup K n gs)) u) ds P := fun He ex O H σ I D c =>
  ha He ex O H σ I _ fun vs H2 e z => by
    have hl := z.length
    refine ⟨by rw [hl, hk]; exact sz_of (by omega), fun p hp0 => ⟨p, vs, rfl, SqT.of upd_same, by rw [hl, hk], ?_⟩⟩
    exact hp He ex O _ σ vs ((I.mono e).mono (Ex.new hp0)) ((show IsL K (Hn He O H2) l vs from z).mono (Ex.hn (Ex.new hp0).v)) _ fun σ' H' I' => q He ex O H' σ' I' D c
end
theorem ev_eqB {K : PySem.W.Frag} {ds : List Slot} {m : Md} {ta tb : TE} {a b : Bool} (ha : Ev K .I ta ds (.bl a)) (hb : Ev K .I tb ds (.bl b)) : Ev K m (tOp (rEqX K) ta tb) ds (.bl (decide (a = b))) :=
  (ev_eqD ha hb (by simp only [pyOk]) (by simp only [pyOk]) (shaped_dep (dep_bl a) (by decide)) (shaped_dep (dep_bl b) (by decide))).is (by simp only [py]; cases a <;> cases b <;> rfl)
theorem ev_neB {K : PySem.W.Frag} {ds : List Slot} {m : Md} {ta tb : TE} {a b : Bool} (ha : Ev K .I ta ds (.bl a)) (hb : Ev K .I tb ds (.bl b)) : Ev K m (tOp (rNeX K) ta tb) ds (.bl (!decide (a = b))) :=
  (ev_neD ha hb (by simp only [pyOk]) (by simp only [pyOk]) (shaped_dep (dep_bl a) (by decide)) (shaped_dep (dep_bl b) (by decide))).is (by simp only [py]; cases a <;> cases b <;> rfl)
/-! ### from n - 1 down to 0 -/
theorem rg_down (n : Nat) (h : n ≤ 100000) : RgC ((n : Int) - 1) (-1) (-1) n := by
  have := RgC.neg (i := (n : Int) - 1) (j := -1) (by omega) (by omega) (by decide) (by decide)
  rwa [show ((n : Int) - 1 - -1).toNat = n by omega] at this
/-! ### rows of rows -/
def matD (n m : Nat) (R : Nat → Nat → Int) : List D := (List.range n).map fun i => li ((List.range m).map (R i))
theorem matD_len (n m : Nat) (R : Nat → Nat → Int) : (matD n m R).length = n := by
  unfold matD
  rw [List.length_map, List.length_range]
theorem matD_get {n m : Nat} {R : Nat → Nat → Int} {i : Nat} (h : i < n) : (matD n m R)[i]? = some (li ((List.range m).map (R i))) := by
  unfold matD
  rw [List.getElem?_map, List.getElem?_range h] <;> rfl
theorem matD_set {n m : Nat} {R : Nat → Nat → Int} {a : Nat} {r : Nat → Int} : (matD n m R).set a (li ((List.range m).map r)) = matD n m fun i => if i = a then r else R i := by
  unfold matD
  refine List.ext_getElem? fun i => ?_
  rw [List.getElem?_set, List.getElem?_map, List.getElem?_map, List.length_map, List.length_range]
  by_cases hi : i < n
  · rw [List.getElem?_range hi]
    by_cases e : a = i
    · subst e
      simp [hi]
    · have e2 : i ≠ a := fun z => e z.symm
      simp [e, e2]
  · rw [List.getElem?_eq_none (by rw [List.length_range]; omega)]
    by_cases e : a = i
    · subst e
      simp [hi]
    · simp [e]
theorem matD_succ (n m : Nat) (R : Nat → Nat → Int) : matD (n + 1) m R = matD n m R ++ [li ((List.range m).map (R n))] := by
  unfold matD
  rw [List.range_succ, List.map_append] <;> rfl
theorem matD_congr {n m : Nat} {R R' : Nat → Nat → Int} (h : ∀ i k, i < n → k < m → R i k = R' i k) : matD n m R = matD n m R' := by
  unfold matD
  refine List.map_congr_left fun i hi => ?_
  have e : (List.range m).map (R i) = (List.range m).map (R' i) := List.map_congr_left fun k hk => h i k (List.mem_range.mp hi) (List.mem_range.mp hk)
  rw [e]
end Px

namespace Px
open PySem PySem.Spec PyProof.Rows L2
variable [Tb]
/-! ### lists that answers hold, changed behind them -/
section
variable {K : PySem.W.Frag} {W : WX} {P : Post} {He H H1 H2 : Hp} {ex : List (V × D)} {O : List Addr} {σ : L2.St} {u : TS} {ds ds' : List Slot} {m : Md} {te ta tb tx tv : TE} {tA : TA} {i j : Int} {k kc : Nat} {l args : List D} {d d' : D} {ns : List Int} {p C : Addr} {f : Str} {S : SpF} {b : Bool}
/-- a cell is laid into a slot -/
theorem Env.lay (I : Env K He ex O H σ ds) {x : Option V} (hp : p ∈ O) (hH : H p = some (.lst (ns.map V.int))) (hx : b = true → x = some (.ref p)) (hn : ∀ (j : Nat) lj, ds[j]? = some (.ow lj) → σ[j]? ≠ some (some (.ref p))) (hc : ∀ (j : Nat) b' ns', j ≠ k → ds[j]? ≠ some (.ce b' p ns')) :
    Env K He ex O H (σ.set k x) (ds.set k (.ce b p ns)) := by
  refine ⟨I.ext, I.fr, I.thr, by rw [List.length_set, List.length_set]; exact I.len, fun j d hj => ?_, fun j d hj => ?_, fun j l hj => ?_, fun a c la lb q ha hb hx hy => ?_, I.xs, fun j b' q ns' hj => ?_, fun a c b' q ns' lj ha hb => ?_, fun a c b1 b2 q n1 n2 ha hb => ?_, I.tb⟩
  · rcases set_get hj with ⟨rfl, e, hi⟩ | ⟨ne, hj⟩
    · cases e
    · obtain ⟨w, h1, h2⟩ := I.ar j d hj
      exact ⟨w, by rw [List.getElem?_set_ne ne]; exact h1, h2⟩
  · rcases set_get hj with ⟨rfl, e, hi⟩ | ⟨ne, hj⟩
    · cases e
    · obtain ⟨w, h1, h2⟩ := I.nw j d hj
      exact ⟨w, by rw [List.getElem?_set_ne ne]; exact h1, h2⟩
  · rcases set_get hj with ⟨rfl, e, hi⟩ | ⟨ne, hj⟩
    · cases e
    · obtain ⟨q, vs, h1, h2⟩ := I.ow j l hj
      exact ⟨q, vs, by rw [List.getElem?_set_ne ne]; exact h1, h2⟩
  · rcases set_get ha with ⟨rfl, e, hi⟩ | ⟨na, ha⟩
    · cases e
    · rcases set_get hb with ⟨rfl, e, hi⟩ | ⟨nb, hb⟩
      · cases e
      · rw [List.getElem?_set_ne na] at hx
        rw [List.getElem?_set_ne nb] at hy
        exact I.dj a c la lb q ha hb hx hy
  · rcases set_get hj with ⟨rfl, e, hi⟩ | ⟨ne, hj⟩
    · cases e
      exact ⟨hp, fun z => by rw [List.getElem?_set_self (by rw [I.len]; exact hi), hx z], hH⟩
    · obtain ⟨h1, h2, h3⟩ := I.ce j b' q ns' hj
      exact ⟨h1, fun z => by rw [List.getElem?_set_ne ne]; exact h2 z, h3⟩
  · rcases set_get hb with ⟨rfl, e, hi⟩ | ⟨nb, hb⟩
    · cases e
    · rw [List.getElem?_set_ne nb]
      rcases set_get ha with ⟨rfl, e, hi⟩ | ⟨na, ha⟩
      · cases e
        exact hn c lj hb
      · exact I.cj a c b' q ns' lj ha hb
  · rcases set_get ha with ⟨ea, e, hi⟩ | ⟨na, ha⟩
    · rcases set_get hb with ⟨eb, e2, hi2⟩ | ⟨nb, hb⟩
      · rw [← ea, ← eb]
      · cases e
        exact absurd hb (hc c b2 n2 fun z => nb z.symm)
    · rcases set_get hb with ⟨eb, e2, hi2⟩ | ⟨nb, hb⟩
      · cases e2
        exact absurd ha (hc a b1 n1 fun z => na z.symm)
      · exact I.ck a c b1 b2 q n1 n2 ha hb
/-- the answer of a call, its own list to be changed -/
theorem q_setCallC (ha : EvA K .I tA ds args) (hS : S args (fun d => ∃ (C : Addr) (f : Str) (ns : List Int), d = .ob C [f] [li ns] ∧ ∀ p, SW K W u ((ds.set k (.nw (.ob C [f] [.cl p]))).set kc (.ce false p ns)) P) (fun C => P.xc C ds)) :
    SW K W (tSeq (tAsg (tCallS (spD K S) (WE W) tA) (gName k)) u) ds P := fun He ex O H σ I D c =>
  ha He ex O H σ I _ fun vs H2 e z => ⟨(I.mono e).tb, args, _, _, z, hS, fun v H' d' e' rd hv => by
    obtain ⟨C, f, ns, rfl, q⟩ := rd
    obtain ⟨a, dx, ws, rfl, h1, h2, h3⟩ := is_ob.mp hv
    obtain ⟨w, rfl, h4⟩ := isL1 h3
    obtain ⟨p, rfl, h5⟩ := is_li.mp h4
    obtain ⟨n1, g1⟩ := nw_some.mp h1
    obtain ⟨n2, g2⟩ := nw_some.mp h5
    have n2' : H p = none := Ex.back e n2
    have e2 := e.trans e'
    obtain ⟨I2, g⟩ := I.own (p := p) e2 n2' ⟨_, g2⟩
    have hap : a ≠ p := fun z => by
      rw [z, g2] at g1
      cases g1
    have I3 := I2.put (i := k) (s := .nw (.ob C [f] [.cl p])) (v := .ref a) (is_ob.mpr ⟨a, dx, [.ref p], rfl, hn_some.mpr ⟨fun z => ?_, Ex.back I.ext (Ex.back e n1), g1⟩, rfl, IsL.cons (is_cl.mpr rfl) IsL.nil⟩)
    · have hno : ∀ (j : Nat) lj, (ds.set k (.nw (.ob C [f] [.cl p])))[j]? = some (.ow lj) → (σ.set k (some (.ref a)))[j]? ≠ some (some (.ref p)) := fun j lj hj hs => by
        rcases set_get hj with ⟨_, e3, _⟩ | ⟨ne, hj⟩
        · cases e3
        · rw [List.getElem?_set_ne ne] at hs
          obtain ⟨q2, vs2, x1, x2, x3, _⟩ := I.ow j lj hj
          rw [hs] at x1
          cases x1
          rw [n2'] at x3
          cases x3
      have hnc : ∀ (j : Nat) b' ns', j ≠ kc → (ds.set k (.nw (.ob C [f] [.cl p])))[j]? ≠ some (.ce b' p ns') := fun j b' ns' _ hj => by
        rcases set_get hj with ⟨_, e3, _⟩ | ⟨ne, hj⟩
        · cases e3
        · have := (I.ce j b' p ns' hj).2.2
          rw [n2'] at this
          cases this
      have I4 := I3.lay (k := kc) (b := false) (x := (σ.set k (some (.ref a)))[kc]?.getD none) List.mem_cons_self g2 (fun z => nomatch z) hno hnc
      have es : (σ.set k (some (.ref a))).set kc ((σ.set k (some (.ref a)))[kc]?.getD none) = σ.set k (some (.ref a)) := by
        refine List.ext_getElem? fun i => ?_
        by_cases z : kc = i
        · subst z
          by_cases y : kc < (σ.set k (some (.ref a))).length
          · rw [List.getElem?_set_self y, List.getElem?_eq_getElem y] <;> rfl
          · rw [List.set_eq_of_length_le (by omega)]
        · rw [List.getElem?_set_ne z]
      rw [es] at I4
      exact q p He ex _ _ _ I4 D c
    · rcases List.mem_cons.mp z with z | z
      · exact hap z
      · exact I.notO (Ex.back e n1) z, fun C H' e' z => c.xc C O H' σ ds (I.mono (e.trans e')) z⟩
/-- such an answer, with its list as it is -/
theorem ev_res (h : ds[k]? = some (.nw (.ob C [f] [.cl p]))) (hc : ds[kc]? = some (.ce b p ns)) : Ev K .I (tVar k) ds (.ob C [f] [li ns]) := fun He ex O H σ I Q q => by
  obtain ⟨v, h1, h2⟩ := I.nw k _ h
  obtain ⟨a, dx, ws, rfl, h3, h4, h5⟩ := is_ob.mp h2
  obtain ⟨w, rfl, h6⟩ := isL1 h5
  rw [is_cl.mp h6] at h3
  refine ⟨_, h1, q _ H (Ex.refl H) (is_ob.mpr ⟨a, dx, [.ref p], rfl, (hn_some.mp h3).2.2, rfl, IsL.cons (is_li.mpr ⟨p, rfl, (I.ce kc b p ns hc).2.2⟩) IsL.nil⟩)⟩
/-- the cell's own name -/
theorem ev_varP (hc : ds[k]? = some (.ce true p ns)) : Ev K m (tVar k) ds (.cl p) := fun He ex O H σ I Q q => ⟨_, (I.ce k true p ns hc).2.1 rfl, q _ H (Ex.refl H) (is_cl.mpr rfl)⟩
/-- a name for the cell -/
theorem q_setC (h : Ev K .I te ds (.cl p)) (hc : ds[k]? = some (.ce b p ns)) (q : SW K W u (ds.set k (.ce true p ns)) P) : SW K W (tSeq (tAsg te (gName k)) u) ds P := fun He ex O H σ I D c =>
  h He ex O H σ I _ fun v H2 e z => by
    rw [is_cl.mp z]
    have I2 := I.mono e
    obtain ⟨g1, g2, g3⟩ := I2.ce k b p ns hc
    exact q He ex O H2 _ (I2.lay (k := k) (b := true) g1 g3 (fun _ => rfl) (fun j lj hj => I2.cj k j b p ns lj hc hj) fun j b' ns' hne hj => hne (I2.ck k j b b' p ns ns' hc hj).symm) D c
/-- the cell is changed -/
theorem Env.writeC {ms : List Int} (I : Env K He ex O H σ ds) (h : ds[k]? = some (.ce b p ns)) : Env K He ex O (upd H p (.lst (ms.map V.int))) σ (ds.set k (.ce b p ms)) := by
  obtain ⟨h2, h1, h3⟩ := I.ce k b p ns h
  have hm : Vx (Hm O H) (Hm O (upd H p (.lst (ms.map V.int)))) := fun b o z _ => by
    obtain ⟨z1, z2⟩ := hm_some.mp z
    refine hm_some.mpr ⟨z1, ?_⟩
    have hne : b ≠ p := fun y => z1 (by rw [y]; exact h2)
    rw [upd_ne hne]
    exact z2
  have hn : Vx (Hn He O H) (Hn He O (upd H p (.lst (ms.map V.int)))) := fun b o z _ => by
    obtain ⟨z1, z3, z2⟩ := hn_some.mp z
    refine hn_some.mpr ⟨z1, z3, ?_⟩
    have hne : b ≠ p := fun y => z1 (by rw [y]; exact h2)
    rw [upd_ne hne]
    exact z2
  refine ⟨Ex.mut I.ext (I.fr p h2) h3, I.fr, fun q hq => ?_, by rw [List.length_set]; exact I.len, fun j d hj => ?_, fun j d hj => ?_, fun j l hj => ?_, fun a c la lb q ha hb hx hy => ?_, fun q hq => (I.xs q hq).mono hm, fun j b' q n' hj => ?_, fun a c b' q n' lj ha hb => ?_, fun a c b1 b2 q n1 n2 ha hb => ?_, tabs_mut I.tb h3⟩
  · by_cases e : q = p
    · subst e
      exact ⟨_, upd_same⟩
    · obtain ⟨o, ho⟩ := I.thr q hq
      exact ⟨o, by rw [upd_ne e]; exact ho⟩
  · rcases set_get hj with ⟨rfl, e, hi⟩ | ⟨ne, hj⟩
    · cases e
    · obtain ⟨w, g1, g2⟩ := I.ar j d hj
      exact ⟨w, g1, g2.mono hm⟩
  · rcases set_get hj with ⟨rfl, e, hi⟩ | ⟨ne, hj⟩
    · cases e
    · obtain ⟨w, g1, g2⟩ := I.nw j d hj
      exact ⟨w, g1, g2.mono hn⟩
  · rcases set_get hj with ⟨rfl, e, hi⟩ | ⟨ne, hj2⟩
    · cases e
    · obtain ⟨q, ws, g1, g2, g3, g4⟩ := I.ow j l hj2
      have hne : q ≠ p := fun e => by
        subst e
        exact I.cj k j b q ns l h hj2 g1
      exact ⟨q, ws, g1, g2, by rw [upd_ne hne]; exact g3, g4.mono hn⟩
  · rcases set_get ha with ⟨rfl, e, hi⟩ | ⟨na, ha⟩
    · cases e
    · rcases set_get hb with ⟨rfl, e, hi⟩ | ⟨nb, hb⟩
      · cases e
      · exact I.dj a c la lb q ha hb hx hy
  · rcases set_get hj with ⟨rfl, e, hi⟩ | ⟨ne, hj2⟩
    · cases e
      exact ⟨h2, h1, upd_same⟩
    · obtain ⟨g1, g2, g3⟩ := I.ce j b' q n' hj2
      have hne : q ≠ p := fun e => by
        subst e
        exact ne (I.ck k j b b' q ns n' h hj2)
      exact ⟨g1, g2, by rw [upd_ne hne]; exact g3⟩
  · rcases set_get hb with ⟨rfl, e, hi⟩ | ⟨nb, hb⟩
    · cases e
    · rcases set_get ha with ⟨rfl, e, hi⟩ | ⟨na, ha⟩
      · cases e
        exact I.cj k c b p ns lj h hb
      · exact I.cj a c b' q n' lj ha hb
  · rcases set_get ha with ⟨rfl, e, hi⟩ | ⟨na, ha⟩
    · cases e
      rcases set_get hb with ⟨rfl, e, hi⟩ | ⟨nb, hb⟩
      · rfl
      · exact I.ck k c b b2 p ns n2 h hb
    · rcases set_get hb with ⟨rfl, e, hi⟩ | ⟨nb, hb⟩
      · cases e
        exact I.ck a k b1 b p n1 ns ha h
      · exact I.ck a c b1 b2 q n1 n2 ha hb
/-- .append(e) -/
theorem q_appC (he : Ev K .I te ds (.cl p)) (hc : ds[kc]? = some (.ce b p ns)) (hv : Ev K .I tv ds (.int i)) (hz : ns.length < 100000) (q : SW K W u (ds.set kc (.ce b p (ns ++ [i]))) P) : SW K W (tSeq (tDrop (tBM K "list" rAppend te (tCons tv tNil))) u) ds P := fun He ex O H σ I D c => by
  refine he He ex O H σ I _ fun o H1 e1 z1 => ?_
  rw [is_cl.mp z1]
  have I1 := I.mono e1
  obtain ⟨g1, g2, g3⟩ := I1.ce kc b p ns hc
  refine ⟨.inl ⟨rfl, _, SqL.of g3⟩, ?_⟩
  refine hv He ex O H1 σ I1 _ fun v H2 e2 z2 => ?_
  rw [is_int.mp z2]
  have I2 := I1.mono e2
  obtain ⟨k1, k2, k3⟩ := I2.ce kc b p ns hc
  refine ⟨p, ns.map V.int, .int i, rfl, rfl, k3, by rw [List.length_map]; exact sz_lt hz, ?_⟩
  have e : ns.map V.int ++ [V.int i] = (ns ++ [i]).map V.int := by rw [List.map_append] <;> rfl
  rw [e]
  exact q He ex O _ σ (I2.writeC hc) D c
/-- ..[j] = e -/
theorem q_setIC (he : Ev K .I te ds (.cl p)) (hc : ds[kc]? = some (.ce b p ns)) (hv : Ev K .I tv ds (.int i)) (hj : Ev K .I tx ds (.int j)) (h0 : 0 ≤ j) (hz : j < (ns.length : Int)) (q : SW K W u (ds.set kc (.ce b p (ns.set j.toNat i))) P) : SW K W (tSeq (tAsg tv (gSub te tx rSetL)) u) ds P := fun He ex O H σ I D c => by
  refine hv He ex O H σ I _ fun v H1 e1 z1 => ?_
  rw [is_int.mp z1]
  refine he He ex O H1 σ (I.mono e1) _ fun o H2 e2 z2 => ?_
  rw [is_cl.mp z2]
  refine hj He ex O H2 σ (I.mono (e1.trans e2)) _ fun w H3 e3 z3 => ?_
  rw [is_int.mp z3]
  have I3 := I.mono ((e1.trans e2).trans e3)
  obtain ⟨k1, k2, k3⟩ := I3.ce kc b p ns hc
  refine ⟨p, ns.map V.int, j, j.toNat, rfl, rfl, k3, ?_, ?_⟩
  · unfold ixN
    rw [if_pos h0, List.length_map, if_pos (by omega)]
  · have e : (ns.map V.int).set j.toNat (.int i) = (ns.set j.toNat i).map V.int := by rw [List.map_set]
    rw [e]
    exact q He ex O _ σ (I3.writeC hc) D c
/-- a cell is a plain list, within an expression -/
theorem Env.freezeC (I : Env K He ex O H σ ds) (h : ds[k]? = some (.ce true p ns)) : ∃ O', Env K He ex O' H σ (ds.set k (.nw (li ns))) := by
  obtain ⟨h2, h1, h3⟩ := I.ce k true p ns h
  have h1 := h1 rfl
  refine ⟨O.filter fun q => decide (q ≠ p), ?_⟩
  have hin : ∀ q, q ∈ O.filter (fun q => decide (q ≠ p)) ↔ q ∈ O ∧ q ≠ p := fun q => by rw [List.mem_filter, decide_eq_true_eq]
  have hm : Vx (Hm O H) (Hm (O.filter fun q => decide (q ≠ p)) H) := fun b o z _ => by
    obtain ⟨z1, z2⟩ := hm_some.mp z
    exact hm_some.mpr ⟨fun y => z1 ((hin b).mp y).1, z2⟩
  have hn : Vx (Hn He O H) (Hn He (O.filter fun q => decide (q ≠ p)) H) := fun b o z _ => by
    obtain ⟨z1, z3, z2⟩ := hn_some.mp z
    exact hn_some.mpr ⟨fun y => z1 ((hin b).mp y).1, z3, z2⟩
  refine ⟨I.ext, fun q hq => I.fr q ((hin q).mp hq).1, fun q hq => I.thr q ((hin q).mp hq).1, by rw [List.length_set]; exact I.len, fun j d hj => ?_, fun j d hj => ?_, fun j l hj => ?_, fun a c la lb q ha hb hx hy => ?_, fun q hq => (I.xs q hq).mono hm, fun j b' q n' hj => ?_, fun a c b' q n' lj ha hb => ?_, fun a c b1 b2 q n1 n2 ha hb => ?_, I.tb⟩
  · rcases set_get hj with ⟨rfl, e, hi⟩ | ⟨ne, hj⟩
    · cases e
    · obtain ⟨w, g1, g2⟩ := I.ar j d hj
      exact ⟨w, g1, g2.mono hm⟩
  · rcases set_get hj with ⟨rfl, e, hi⟩ | ⟨ne, hj⟩
    · cases e
      exact ⟨_, h1, is_li.mpr ⟨p, rfl, hn_some.mpr ⟨fun y => ((hin p).mp y).2 rfl, I.fr p h2, h3⟩⟩⟩
    · obtain ⟨w, g1, g2⟩ := I.nw j d hj
      exact ⟨w, g1, g2.mono hn⟩
  · rcases set_get hj with ⟨rfl, e, hi⟩ | ⟨ne, hj2⟩
    · cases e
    · obtain ⟨q, ws, g1, g2, g3, g4⟩ := I.ow j l hj2
      have hne : q ≠ p := fun e => by
        subst e
        exact I.cj k j true q ns l h hj2 g1
      exact ⟨q, ws, g1, (hin q).mpr ⟨g2, hne⟩, g3, g4.mono hn⟩
  · rcases set_get ha with ⟨rfl, e, hi⟩ | ⟨na, ha⟩
    · cases e
    · rcases set_get hb with ⟨rfl, e, hi⟩ | ⟨nb, hb⟩
      · cases e
      · exact I.dj a c la lb q ha hb hx hy
  · rcases set_get hj with ⟨rfl, e, hi⟩ | ⟨ne, hj2⟩
    · cases e
    · obtain ⟨g1, g2, g3⟩ := I.ce j b' q n' hj2
      have hne : q ≠ p := fun e => by
        subst e
        exact ne (I.ck k j true b' q ns n' h hj2)
      exact ⟨(hin q).mpr ⟨g1, hne⟩, g2, g3⟩
  · rcases set_get ha with ⟨rfl, e, hi⟩ | ⟨na, ha⟩
    · cases e
    · rcases set_get hb with ⟨rfl, e, hi⟩ | ⟨nb, hb⟩
      · cases e
      · exact I.cj a c b' q n' lj ha hb
  · rcases set_get ha with ⟨rfl, e, hi⟩ | ⟨na, ha⟩
    · cases e
    · rcases set_get hb with ⟨rfl, e, hi⟩ | ⟨nb, hb⟩
      · cases e
      · exact I.ck a c b1 b2 q n1 n2 ha hb
theorem Ev.frzC (hf : flat d = true) (h : ds[k]? = some (.ce true p ns)) (hE : Ev K .I te (ds.set k (.nw (li ns))) d) : Ev K m te ds d := fun He ex O H σ I Q q => by
  obtain ⟨O', I'⟩ := I.freezeC h
  exact hE He ex O' H σ I' Q fun v H2 e z => q v H2 e (z.flat hf)
end
end Px

namespace Px
open PySem PySem.Spec PyProof.Rows L2
variable [Tb]
/-! ### a lambda is made -/
theorem lamO_ne {f c : Addr} {L : Lam} : ∀ ps, LamO f L c ≠ .tbl ps := by
  intro _ z
  unfold LamO at z
  cases z
theorem codeO_ne' {c : Addr} {q : Str} : ∀ ps, LamX.CodeO c q ≠ .tbl ps := fun ps => LamX.codeO_ne ps
section
variable {X : Cx} {pins : List (Addr × Obj)} {σ : L2.St} {H : Hp} {s : Shared}
theorem inv_lam {L : Lam} {c : Addr} {o : Obj} {t' : Nat} {pm ctv : Value} (I : Inv X pins σ H s) (ho : o = PySem.W.kla_obj "<lambda>" L.qual L.params L.body L.scope L.cl pm c ctv) :
    Inv X pins σ (upd H s.heap.objs.size (LamO s.heap.objs.size L c)) { s with heap := s.heap.push o, toks := t' } := by
  subst ho
  refine I.laid (a := s.heap.objs.size) (fun b u e => Heap.get?_push_of_some _ e) (Nat.le_refl _) ?_
  have e : (s.heap.push (PySem.W.kla_obj "<lambda>" L.qual L.params L.body L.scope L.cl pm c ctv)).get? s.heap.objs.size = some (PySem.W.kla_obj "<lambda>" L.qual L.params L.body L.scope L.cl pm c ctv) := Heap.get?_push_size _ rfl
  exact ⟨⟨pm, ctv, e⟩, ⟨_, e⟩, fun h1 h2 ⟨p, t, z⟩ st => ⟨p, t, st _ z⟩⟩
theorem lam_makeT {c P : Addr} {L : Lam} {pos : Pos} {E : Value → Shared → Prop} {Q : Value → Shared → Prop} (I : Inv X pins σ H s) (TB : LamX.TabB X.base X.mg c P) (hcode : X.env.code = .ref c) (hq : X.env.qual ++ "<lambda>" = L.qual)
    (hm : (P, L.qual) ∈ Tb.T) (hu : ∀ p ∈ Tb.T, p.1 = P → p.2 = L.qual) (hT : LamX.Tabs Tb.T H) (hdef : defaultsOf L.params X.env = ([], [])) (hfree : ∀ y ∈ L.scope.names, y.2 = .free → ∃ c, X.env.cells.lookup y.1 = some c) (hcl : cloFrom X.env.cells L.scope.names [] = L.cl)
    (h : ∀ (f c' : Addr) (H1 : Hp) (s' : Shared), Inv X pins σ H1 s' → Ex H H1 → H f = none → H1 f = some (LamO f L c') → H1 c' = some (LamX.CodeO c' L.qual) → Q (.ref f) s') :
    wpAny (model X.prog X.w) X.A (eval (.Lambda L.params L.body L.scope pos) X.env) Q E s := by
  obtain ⟨ps, hP, ht, ha⟩ := hT _ hm
  refine PySem.W.kla_eval hdef ?_
  have bP : s.heap.BuiltinsAt X.mg P := TB.bm.keeps I.bk
  have hP' : s.heap.get? P = some { cls := .none, data := .fields ps } := I.hok P _ hP
  have hfr := hfree
  cases hc : codeAmong pos ps.toList with
  | none =>
    refine PySem.W.kla_makeFunction (mg := X.mg) (c := c) (P := P) (ps := ps) (closure_ok hfr) I.ok.glob (I.mod.glob.keeps I.bk) hcode (TB.code.keeps I.bk) hP' ht hc TB.gP bP fun c' ctv h' tk hx hge hlt hrec htb => ?_
    obtain ⟨c2, oc, vs, t, e2, hoc, hd, hv⟩ := hrec
    cases e2
    rw [hq] at hv ⊢
    rw [hcl]
    have nC : H c' = none := I.hok.fresh hge
    have I1 := LamX.inv_table (t' := tk) (q := L.qual) (more := #[rawInt pos.line, rawInt pos.col, .ref c']) (h' := h') I hP (fun b o hb e => hx b o hb e) htb hge ⟨oc, vs, t, hoc, hd, hv⟩
    have eL : (ps ++ #[rawInt pos.line, rawInt pos.col, .ref c']).toList = ps.toList ++ [rawInt pos.line, rawInt pos.col, .ref c'] := by simp
    have hE : Vx H (upd (upd H P (.tbl (ps ++ #[rawInt pos.line, rawInt pos.col, .ref c']))) c' (LamX.CodeO c' L.qual)) := fun b o e n => by
      rw [upd_ne (ne_of_none e nC), upd_ne (fun z => n ps (Option.some.inj (e.symm.trans (by rw [z]; exact hP))))]
      exact e
    have T1 : LamX.Tabs Tb.T H → LamX.Tabs Tb.T (upd (upd H P (.tbl (ps ++ #[rawInt pos.line, rawInt pos.col, .ref c']))) c' (LamX.CodeO c' L.qual)) := fun hT' p hp => by
      by_cases hb : p.1 = P
      · rw [hu p hp hb, hb]
        refine ⟨_, by rw [upd_ne (ne_of_none hP nC), upd_same], by rw [eL]; exact PySem.TriplesOk_snoc _ _ _ _ ht, fun p' cv hcv => ?_⟩
        rw [eL] at hcv
        rcases LamX.among_app _ ht hcv with z | z
        · obtain ⟨c0, e1, e2⟩ := ha p' cv z
          exact ⟨c0, e1, hE.at e2 codeO_ne'⟩
        · exact ⟨c', z, upd_same⟩
      · obtain ⟨ps', a1, a2, a3⟩ := hT' p hp
        refine ⟨ps', by rw [upd_ne (ne_of_none a1 nC), upd_ne hb]; exact a1, a2, fun p' cv hcv => ?_⟩
        obtain ⟨c0, e1, e2⟩ := a3 p' cv hcv
        exact ⟨c0, e1, hE.at e2 codeO_ne'⟩
    have X1 : Ex H (upd (upd H P (.tbl (ps ++ #[rawInt pos.line, rawInt pos.col, .ref c']))) c' (LamX.CodeO c' L.qual)) := ⟨hE, fun b qs e => by
      by_cases hb : b = P
      · exact ⟨_, by rw [hb, upd_ne (ne_of_none hP nC), upd_same]⟩
      · exact ⟨qs, by rw [upd_ne (ne_of_none e nC), upd_ne hb]; exact e⟩, T1⟩
    have nF := I1.hok.fresh (Nat.le_refl _)
    have I2 := inv_lam (L := L) (c := c') (t' := tk) (pm := (X.mg "__name__").getD .none) (ctv := ctv) I1 rfl
    refine h h'.objs.size c' _ _ I2 (X1.trans (Ex.new nF)) (Ex.back X1 nF) upd_same ?_
    exact (upd_ne (Nat.ne_of_lt hlt)).trans upd_same
  | some cv =>
    obtain ⟨c', e, hco⟩ := ha pos cv hc
    subst e
    refine PySem.W.kla_makeFunctionHit (mg := X.mg) (c := c) (P := P) (ps := ps) (closure_ok hfr) I.ok.glob (I.mod.glob.keeps I.bk) hcode (TB.code.keeps I.bk) hP' ht hc bP fun ctv h' tk hx hsz => ?_
    rw [hq, hcl]
    have I1 : Inv X pins σ H { s with heap := h', toks := tk } := I.kept hx
    have nF : H h'.objs.size = none := I1.hok.fresh (Nat.le_refl _)
    have I2 := inv_lam (L := L) (c := c') (t' := tk) (pm := (X.mg "__name__").getD .none) (ctv := ctv) I1 rfl
    refine h h'.objs.size c' _ _ I2 (Ex.new nF) nF upd_same ?_
    exact (upd_ne (ne_of_none hco nF)).trans hco
end
/-- the reading of a lambda -/
def tLamE (L : Lam) : TE := fun σ H Q => LamX.Tabs Tb.T H ∧ ∀ (f c' : Addr) (H1 : Hp), Ex H H1 → H f = none → H1 f = some (LamO f L c') → H1 c' = some (LamX.CodeO c' L.qual) → Q (.ref f) H1
/-- what the making of a lambda asks of its maker -/
structure Maker (base : Heap) (mg : Str → Option Value) (cdv : Value) (q : Str) : Prop where
  ex : ∃ c P, cdv = .ref c ∧ LamX.TabB base mg c P ∧ (P, q) ∈ Tb.T ∧ ∀ p ∈ Tb.T, p.1 = P → p.2 = q
theorem pe_lam {X : Cx} {L : Lam} {pos : Pos} (M : Maker X.base X.mg X.env.code L.qual) (hq : X.env.qual ++ "<lambda>" = L.qual) (hdef : defaultsOf L.params X.env = ([], [])) (hfree : ∀ y ∈ L.scope.names, y.2 = .free → X.env.scope.names.lookup y.1 = some .cell ∨ X.env.scope.names.lookup y.1 = some .free)
    (hcl : cloFrom X.env.cells L.scope.names [] = L.cl) : PE X (.Lambda L.params L.body L.scope pos) (tLamE L) := by
  refine ⟨fun pins s σ H Q I h => ?_⟩
  obtain ⟨hT, h⟩ := h
  obtain ⟨c, P, e, TB, hm, hu⟩ := M.ex
  exact lam_makeT I TB e hq hm hu hT hdef (fun y hy k => (hfree y hy k).elim (fun z => I.ok.has _ (.inl z)) fun z => I.ok.has _ (.inr z)) hcl fun f c' H1 s' I1 e1 n1 h1 h2 => ⟨.ref f, H1, I1, rfl, h f c' H1 e1 n1 h1 h2⟩
theorem ev_lmf {K : PySem.W.Frag} {ds : List Slot} {L : Lam} : Ev K .I (tLamE L) ds (.lmf L) := fun He ex O H σ I Q q =>
  ⟨I.tb, fun f c' H1 e n h1 h2 => q _ H1 e (by
    simp only [vw, Is]
    exact ⟨f, c', rfl, h1, h2⟩)⟩
theorem ev_lam {K : PySem.W.Frag} {ds : List Slot} {L : Lam} (z1 : L.cl = []) (z2 : L.fr = []) : Ev K .I (tLamE L) ds (.lam L []) := fun He ex O H σ I Q q =>
  ⟨I.tb, fun f c' H1 e n h1 h2 => q _ H1 e (by
    simp only [vw, Is]
    exact ⟨f, c', [], rfl, h1, h2, capV_nil z1 z2, IsL.nil⟩)⟩
/-! ### views: cells lent, cells taken back -/
/-- the objects of G are known whole -/
def Pin (G : Addr → Option Obj) (H : Hp) : Hp := fun b => match G b with
  | some o => some (pin o)
  | none => H b
/-- .. are not known any more -/
def Dr (G : Addr → Option Obj) (H : Hp) : Hp := fun b => match G b with
  | some _ => none
  | none => H b
/-- .. as in H -/
def Bk (G : Addr → Option Obj) (H H' : Hp) : Hp := fun b => match G b with
  | some _ => H b
  | none => H' b
section
variable {G : Addr → Option Obj} {H H' : Hp} {b : Addr} {o : Obj} {P : Program} {w : World} {h h' B : Heap} {fs : List Addr} {K : PySem.W.Frag} {mg : Str → Option Value} {base : Heap} {A : Around} {outer : List PySem.Env} {s : Shared}
theorem pin_at (e : G b = some o) : Pin G H b = some (pin o) := by simp only [Pin, e]
theorem pin_ne (e : G b = none) : Pin G H b = H b := by simp only [Pin, e]
theorem dr_at (e : G b = some o) : Dr G H b = none := by simp only [Dr, e]
theorem dr_ne (e : G b = none) : Dr G H b = H b := by simp only [Dr, e]
theorem bk_at (e : G b = some o) : Bk G H H' b = H b := by simp only [Bk, e]
theorem bk_ne (e : G b = none) : Bk G H H' b = H' b := by simp only [Bk, e]
theorem pin_ne' {u : HO} (g : ∀ b o, G b = some o → H b = none) (e : H b = some u) : G b = none := by
  cases z : G b with
  | none => rfl
  | some o =>
    rw [g b o z] at e
    cases e
theorem dr_ne' {u : HO} (g : ∀ b o, G b = some o → H b = some (pin o)) (e : H b = some u) (n : ∀ o, u ≠ pin o) : G b = none := by
  cases z : G b with
  | none => rfl
  | some o =>
    rw [g b o z] at e
    exact absurd (Option.some.inj e).symm (n o)
theorem own_pin {x : Addr} : ∀ o, HO.own x ≠ pin o := fun o z => by
  unfold pin at z
  cases z
theorem tup_pin {x : List V} : ∀ o, HO.tup x ≠ pin o := fun o z => by
  unfold pin at z
  cases z
theorem tbl_pin {x : Array Value} : ∀ o, HO.tbl x ≠ pin o := fun o z => by
  unfold pin at z
  cases z
theorem code_pin {c : Addr} {q : Str} : ∀ o, LamX.CodeO c q ≠ pin o := fun o z => by
  unfold pin LamX.CodeO at z
  cases z
theorem tabs_map {T : List (Addr × Str)} (t : LamX.Tabs T H) (h1 : ∀ b ps, H b = some (.tbl ps) → H' b = some (.tbl ps)) (h2 : ∀ c q, H c = some (LamX.CodeO c q) → H' c = some (LamX.CodeO c q)) : LamX.Tabs T H' := fun x hx => by
  obtain ⟨ps, a, b, c⟩ := t x hx
  refine ⟨ps, h1 _ _ a, b, fun pos cv hcv => ?_⟩
  obtain ⟨c', e1, e2⟩ := c pos cv hcv
  exact ⟨c', e1, h2 _ _ e2⟩
theorem hok_pin (hok : HOk P w H h) (g : ∀ b o, G b = some o → h.get? b = some o ∧ H b = none) : HOk P w (Pin G H) h := fun a u e => by
  cases z : G a with
  | some o =>
    rw [pin_at z] at e
    cases e
    exact ⟨(g a o z).1, o, (g a o z).1⟩
  | none =>
    rw [pin_ne z] at e
    exact (hok a u e).stay (fun _ _ _ q => q) (fun c q => by rw [pin_ne (pin_ne' (fun b o e => (g b o e).2) q)]; exact q) fun c xs q => by rw [pin_ne (pin_ne' (fun b o e => (g b o e).2) q)]; exact q
theorem hok_dr (hok : HOk P w H h) (g : ∀ b o, G b = some o → H b = some (pin o)) : HOk P w (Dr G H) h := fun a u e => by
  cases z : G a with
  | some o =>
    rw [dr_at z] at e
    cases e
  | none =>
    rw [dr_ne z] at e
    exact (hok a u e).stay (fun _ _ _ q => q) (fun c q => by rw [dr_ne (dr_ne' g q own_pin)]; exact q) fun c xs q => by rw [dr_ne (dr_ne' g q tup_pin)]; exact q
theorem hok_bk (hok : HOk P w H' h') (g : ∀ b o, G b = some o → H b = some (pin o) ∧ h'.get? b = some o) (g' : ∀ b o, G b = some o → H' b = none) : HOk P w (Bk G H H') h' := fun a u e => by
  cases z : G a with
  | some o =>
    rw [bk_at z, (g a o z).1] at e
    cases e
    exact ⟨(g a o z).2, o, (g a o z).2⟩
  | none =>
    rw [bk_ne z] at e
    exact (hok a u e).stay (fun _ _ _ q => q) (fun c q => by rw [bk_ne (pin_ne' g' q)]; exact q) fun c xs q => by rw [bk_ne (pin_ne' g' q)]; exact q
theorem pin_get (hok : HOk P w H h) (e : H b = some (pin o)) : h.get? b = some o := (hok b _ e).1
theorem env0_pin (e0 : Env0 P w K mg base A outer s H) (g : ∀ b o, G b = some o → s.heap.get? b = some o ∧ H b = none ∧ b ∉ frs outer ∧ base.get? b = none) : Env0 P w K mg base A outer s (Pin G H) :=
  ⟨e0.frames, e0.mod, fun b o e => ⟨(e0.bs b o e).1, by
    cases z : G b with
    | some u =>
      rw [(g b u z).2.2.2] at e
      cases e
    | none =>
      rw [pin_ne z]
      exact (e0.bs b o e).2⟩, e0.bsz, e0.funs, fun b hb => by
    cases z : G b with
    | some u => exact absurd hb (g b u z).2.2.1
    | none =>
      rw [pin_ne z]
      exact e0.frf b hb, hok_pin e0.hok fun b o e => ⟨(g b o e).1, (g b o e).2.1⟩, e0.bare⟩
theorem dr_none (e : H b = none) : Dr G H b = none := by
  cases z : G b with
  | some u => exact dr_at z
  | none =>
    rw [dr_ne z]
    exact e
theorem env0_dr (e0 : Env0 P w K mg base A outer s H) (g : ∀ b o, G b = some o → H b = some (pin o)) : Env0 P w K mg base A outer s (Dr G H) :=
  ⟨e0.frames, e0.mod, fun b o e => ⟨(e0.bs b o e).1, dr_none (e0.bs b o e).2⟩, e0.bsz, e0.funs, fun b hb => dr_none (e0.frf b hb), hok_dr e0.hok g, e0.bare⟩
/-! back from a lent view -/
theorem un_pin (u : Un fs [] (Pin G H) H' h h') (hok : HOk P w H' h') (g : ∀ b o, G b = some o → h.get? b = some o ∧ H b = none ∧ b ∉ fs) : (∀ b o, G b = some o → H' b = some (pin o)) ∧ Un fs [] H (Dr G H') h h' := by
  have gH : ∀ b o, G b = some o → H b = none := fun b o e => (g b o e).2.1
  have g' : ∀ b o, G b = some o → H' b = some (pin o) := fun b o e => u.frzs b o _ (pin_at e)
  refine ⟨g', ⟨fun b o e n hf hx => ?_, fun b o e n hf hx => ?_, fun b o e n hx => ?_, u.there, fun b xs e => ?_, fun b o x e => ?_, fun b ps e => ?_⟩⟩
  · cases z : G b with
    | some ob =>
      have q := (g b ob z).1
      rw [e] at q
      cases q
      exact pin_get hok (g' b o z)
    | none => exact u.keep b o e (by rw [pin_ne z]; exact n) hf hx
  · cases z : G b with
    | some ob => exact absurd hf (g b ob z).2.2
    | none => exact u.slot b o e (by rw [pin_ne z]; exact n) hf hx
  · cases z : G b with
    | some ob => exact dr_at z
    | none =>
      rw [dr_ne z]
      exact u.free b o e (by rw [pin_ne z]; exact n) hx
  · have z := pin_ne' gH e
    rw [dr_ne z]
    exact u.tups b xs (by rw [pin_ne z]; exact e)
  · have z := pin_ne' gH e
    rw [dr_ne z]
    exact u.frzs b o x (by rw [pin_ne z]; exact e)
  · have z := pin_ne' gH e
    rw [dr_ne z]
    exact u.tbls b ps (by rw [pin_ne z]; exact e)
theorem ub_pin (u : UB fs (Pin G H) H' h B h') (hok : HOk P w H' B) (g : ∀ b o, G b = some o → h.get? b = some o ∧ H b = none ∧ b ∉ fs) : (∀ b o, G b = some o → H' b = some (pin o)) ∧ UB fs H (Dr G H') h B h' := by
  have gH : ∀ b o, G b = some o → H b = none := fun b o e => (g b o e).2.1
  have g' : ∀ b o, G b = some o → H' b = some (pin o) := fun b o e => u.frzs b o _ (pin_at e)
  refine ⟨g', ⟨fun b o e n hf => ?_, u.slot, fun b o e n => ?_, u.there, fun b xs e => ?_, fun b o x e => ?_, fun b ps e => ?_⟩⟩
  · cases z : G b with
    | some ob =>
      have q := (g b ob z).1
      rw [e] at q
      cases q
      exact pin_get hok (g' b o z)
    | none => exact u.keep b o e (by rw [pin_ne z]; exact n) hf
  · cases z : G b with
    | some ob => exact dr_at z
    | none =>
      rw [dr_ne z]
      exact u.free b o e (by rw [pin_ne z]; exact n)
  · have z := pin_ne' gH e
    rw [dr_ne z]
    exact u.tups b xs (by rw [pin_ne z]; exact e)
  · have z := pin_ne' gH e
    rw [dr_ne z]
    exact u.frzs b o x (by rw [pin_ne z]; exact e)
  · have z := pin_ne' gH e
    rw [dr_ne z]
    exact u.tbls b ps (by rw [pin_ne z]; exact e)
theorem cr_pin {Q Q' : VK} {E E' : XK} {r : Result} {s' : Shared} (g : ∀ b o, G b = some o → s.heap.get? b = some o ∧ H b = none ∧ b ∉ frs outer) (hQ : ∀ v H', (∀ b o, G b = some o → H' b = some (pin o)) → Q' v H' → Q v (Dr G H')) (hE : ∀ c d H', (∀ b o, G b = some o → H' b = some (pin o)) → E' c d H' → E c d (Dr G H'))
    (h : CR (L2N.CX P w) outer P w (Pin G H) s Q' E' r s') : CR (L2N.CX P w) outer P w H s Q E r s' := by
  cases r with
  | ok fl =>
    cases fl with
    | ret u =>
      obtain ⟨v, H', a1, a2, a3, a4, a5, a6⟩ := h
      obtain ⟨g', un⟩ := un_pin a3 a4 g
      exact ⟨v, Dr G H', a1, a2, un, hok_dr a4 g', a5, hQ v H' g' a6⟩
    | next => exact h
    | brk => exact h
    | cont => exact h
  | error e =>
    obtain ⟨a, B, H', c, d, a0, a1, a2, a3, a4, a5, a6, a7⟩ := h
    obtain ⟨g', un⟩ := ub_pin a3 a2 g
    exact ⟨a, B, Dr G H', c, d, a0, a1, hok_dr a2 g', un, dr_none a4, a5, a6, hE c d H' g' a7⟩
/-! back from a view without the cells -/
theorem un_dr (u : Un fs [] (Dr G H) H' h h') (g : ∀ b o, G b = some o → h.get? b = some o ∧ H b = some (pin o)) : (∀ b o, G b = some o → H' b = none) ∧ Un fs [] H (Bk G H H') h h' := by
  have g' : ∀ b o, G b = some o → H' b = none := fun b o e => u.free b o (g b o e).1 (dr_at e) (by simp)
  have ne : ∀ {b : Addr}, H b = none → G b = none := fun {b} n => by
    cases z : G b with
    | none => rfl
    | some o =>
      rw [(g b o z).2] at n
      cases n
  have gp : ∀ b o, G b = some o → H b = some (pin o) := fun b o e => (g b o e).2
  refine ⟨g', ⟨fun b o e n hf hx => u.keep b o e (by rw [dr_ne (ne n)]; exact n) hf hx, fun b o e n hf hx => u.slot b o e (by rw [dr_ne (ne n)]; exact n) hf hx, fun b o e n hx => ?_, u.there, fun b xs e => ?_, fun b o x e => ?_, fun b ps e => ?_⟩⟩
  · rw [bk_ne (ne n)]
    exact u.free b o e (by rw [dr_ne (ne n)]; exact n) hx
  · have z := dr_ne' gp e tup_pin
    rw [bk_ne z]
    exact u.tups b xs (by rw [dr_ne z]; exact e)
  · cases z : G b with
    | some ob =>
      rw [bk_at z]
      exact e
    | none =>
      rw [bk_ne z]
      exact u.frzs b o x (by rw [dr_ne z]; exact e)
  · have z := dr_ne' gp e tbl_pin
    rw [bk_ne z]
    exact u.tbls b ps (by rw [dr_ne z]; exact e)
theorem ub_dr (u : UB fs (Dr G H) H' h B h') (g : ∀ b o, G b = some o → h.get? b = some o ∧ H b = some (pin o)) : (∀ b o, G b = some o → H' b = none) ∧ UB fs H (Bk G H H') h B h' := by
  have g' : ∀ b o, G b = some o → H' b = none := fun b o e => u.free b o (g b o e).1 (dr_at e)
  have ne : ∀ {b : Addr}, H b = none → G b = none := fun {b} n => by
    cases z : G b with
    | none => rfl
    | some o =>
      rw [(g b o z).2] at n
      cases n
  have gp : ∀ b o, G b = some o → H b = some (pin o) := fun b o e => (g b o e).2
  refine ⟨g', ⟨fun b o e n hf => u.keep b o e (by rw [dr_ne (ne n)]; exact n) hf, u.slot, fun b o e n => ?_, u.there, fun b xs e => ?_, fun b o x e => ?_, fun b ps e => ?_⟩⟩
  · rw [bk_ne (ne n)]
    exact u.free b o e (by rw [dr_ne (ne n)]; exact n)
  · have z := dr_ne' gp e tup_pin
    rw [bk_ne z]
    exact u.tups b xs (by rw [dr_ne z]; exact e)
  · cases z : G b with
    | some ob =>
      rw [bk_at z]
      exact e
    | none =>
      rw [bk_ne z]
      exact u.frzs b o x (by rw [dr_ne z]; exact e)
  · have z := dr_ne' gp e tbl_pin
    rw [bk_ne z]
    exact u.tbls b ps (by rw [dr_ne z]; exact e)
theorem cr_dr {Q Q' : VK} {E E' : XK} {r : Result} {s' : Shared} (g : ∀ b o, G b = some o → s.heap.get? b = some o ∧ H b = some (pin o) ∧ b ∉ frs outer) (hQ : ∀ v H', (∀ b o, G b = some o → H' b = none) → Q' v H' → Q v (Bk G H H')) (hE : ∀ c d H', (∀ b o, G b = some o → H' b = none) → E' c d H' → E c d (Bk G H H'))
    (h : CR (L2N.CX P w) outer P w (Dr G H) s Q' E' r s') : CR (L2N.CX P w) outer P w H s Q E r s' := by
  have g2 : ∀ b o, G b = some o → s.heap.get? b = some o ∧ H b = some (pin o) := fun b o e => ⟨(g b o e).1, (g b o e).2.1⟩
  cases r with
  | ok fl =>
    cases fl with
    | ret u =>
      obtain ⟨v, H', a1, a2, a3, a4, a5, a6⟩ := h
      obtain ⟨g', un⟩ := un_dr a3 g2
      exact ⟨v, Bk G H H', a1, a2, un, hok_bk a4 (fun b o e => ⟨(g b o e).2.1, a3.keep b o (g b o e).1 (dr_at e) (g b o e).2.2 (by simp)⟩) g', a5, hQ v H' g' a6⟩
    | next => exact h
    | brk => exact h
    | cont => exact h
  | error e =>
    obtain ⟨a, B, H', c, d, a0, a1, a2, a3, a4, a5, a6, a7⟩ := h
    obtain ⟨g', un⟩ := ub_dr a3 g2
    have gB : ∀ b o, G b = some o → H b = some (pin o) ∧ B.get? b = some o := fun b o e => ⟨(g b o e).2.1, a3.keep b o (g b o e).1 (dr_at e) (g b o e).2.2⟩
    refine ⟨a, B, Bk G H H', c, d, a0, a1, hok_bk a2 gB g', un, ?_, a5, a6, hE c d H' g' a7⟩
    cases z : G a with
    | none =>
      rw [bk_ne z]
      exact a4
    | some o =>
      have q : B.get? a = none := a1.2.1
      rw [(gB a o z).2] at q
      cases q
/-! what grows -/
theorem ex_pinH (g : ∀ b o, G b = some o → H b = none) : ∀ b u, H b = some u → Pin G H b = some u := fun b u e => by
  rw [pin_ne (pin_ne' g e)]
  exact e
theorem ex_pin (g : ∀ b o, G b = some o → H b = none) (g' : ∀ b o, G b = some o → H' b = some (pin o)) (e : Ex (Pin G H) H') : Ex H (Dr G H') := by
  refine ⟨fun b o h n => ?_, fun b ps h => ?_, fun t => ?_⟩
  · rw [dr_ne (pin_ne' g h)]
    exact e.at (ex_pinH g b o h) n
  · obtain ⟨ps', h1⟩ := e.t b ps (ex_pinH g b _ h)
    exact ⟨ps', by rw [dr_ne (pin_ne' g h)]; exact h1⟩
  · exact tabs_map (e.g (t.ext (ex_pinH g))) (fun b ps h => by rw [dr_ne (dr_ne' g' h tbl_pin)]; exact h) fun b q h => by rw [dr_ne (dr_ne' g' h code_pin)]; exact h
theorem nw_pin (g : ∀ b o, G b = some o → H b = none) : Vx (Nw (Pin G H) H') (Nw H (Dr G H')) := fun b u h _ => by
  rw [nw_some] at h ⊢
  have z : G b = none := by
    cases z : G b with
    | none => rfl
    | some o =>
      rw [pin_at z] at h
      cases h.1
  rw [pin_ne z] at h
  rw [dr_ne z]
  exact h
theorem ex_dr (g : ∀ b o, G b = some o → H b = some (pin o)) (g' : ∀ b o, G b = some o → H' b = none) (e : Ex (Dr G H) H') : Ex H (Bk G H H') := by
  refine ⟨fun b o h n => ?_, fun b ps h => ?_, fun t => ?_⟩
  · cases z : G b with
    | some ob =>
      rw [bk_at z]
      exact h
    | none =>
      rw [bk_ne z]
      exact e.at (by rw [dr_ne z]; exact h) n
  · have z := dr_ne' g h tbl_pin
    rw [bk_ne z]
    exact e.t b ps (by rw [dr_ne z]; exact h)
  · have t1 : LamX.Tabs Tb.T (Dr G H) := tabs_map t (fun b ps h => by rw [dr_ne (dr_ne' g h tbl_pin)]; exact h) fun b q h => by rw [dr_ne (dr_ne' g h code_pin)]; exact h
    exact (e.g t1).ext fun b u h => by
      rw [bk_ne (pin_ne' g' h)]
      exact h
theorem nw_dr (g' : ∀ b o, G b = some o → H' b = none) : Vx (Nw (Dr G H) H') (Nw H (Bk G H H')) := fun b u h _ => by
  rw [nw_some] at h ⊢
  have z := pin_ne' g' h.2
  rw [dr_ne z] at h
  rw [bk_ne z]
  exact h
theorem tabs_dr (g : ∀ b o, G b = some o → H b = some (pin o)) (t : LamX.Tabs Tb.T H) : LamX.Tabs Tb.T (Dr G H) := tabs_map t (fun b ps h => by rw [dr_ne (dr_ne' g h tbl_pin)]; exact h) fun b q h => by rw [dr_ne (dr_ne' g h code_pin)]; exact h
end
end Px

namespace Px
open PySem PySem.Spec PyProof.Rows L2
variable [Tb]
/-! ### data that leans on no cell -/
mutual
def noLam : D → Bool
  | .lam _ _ => false
  | .lst l => noLamL l
  | .tup l => noLamL l
  | .ob _ _ l => noLamL l
  | _ => true
def noLamL : List D → Bool
  | [] => true
  | d :: l => noLam d && noLamL l
end
theorem noLam_ints : ∀ (ns : List Int), noLamL (ns.map D.int) = true
  | [] => rfl
  | n :: ns => by
    rw [List.map_cons, noLamL, noLam, noLam_ints ns]
    · rfl
    all_goals (intros; rename_i z; cases z)
/-- all but tables and what is known whole stay -/
def Wx (H H' : Hp) : Prop := ∀ b o, H b = some o → (∀ ps, o ≠ .tbl ps) → (∀ x, o ≠ pin x) → H' b = some o
theorem Wx.at {H H' : Hp} (e : Wx H H') {b : Addr} {o : HO} (h : H b = some o) (hn : ∀ ps, o ≠ .tbl ps := by intro _ z; cases z) (hp : ∀ x, o ≠ pin x := by intro _ z; unfold pin at z; cases z) : H' b = some o := e b o h hn hp
theorem WxHd {H H' : Hp} {p : Addr} (e : Wx H H') : Wx (Hd p H) (Hd p H') := fun b o h n k => by
  rw [hd_some] at h ⊢
  exact ⟨h.1, e.at h.2 n k⟩
section
variable {K : PySem.W.Frag}
mutual
theorem Is.monoW : ∀ {H H' : Hp} {d : D} {v : V}, noLam d = true → Wx H H' → Is K H d v → Is K H' d v
  | _, _, .non, _, _, e, h => by simpa only [Is] using h
  | _, _, .bl _, _, _, e, h => by simpa only [Is] using h
  | _, _, .int _, _, _, e, h => by simpa only [Is] using h
  | _, _, .str _, _, _, e, h => by simpa only [Is] using h
  | _, _, .ty _, _, _, e, h => by simpa only [Is] using h
  | _, _, .cl _, _, _, e, h => by simpa only [Is] using h
  | _, _, .kt _, _, _, e, h => by simpa only [Is] using h
  | _, _, .emp, _, _, e, h => by
    simp only [Is] at h ⊢
    obtain ⟨a, h1, h2⟩ := h
    exact ⟨a, h1, e.at h2⟩
  | _, _, .lam L l, _, n, e, h => by simp [noLam] at n
  | _, _, .lmf L, _, _, e, h => by
    simp only [Is] at h ⊢
    obtain ⟨f, c, h1, h2, h3⟩ := h
    exact ⟨f, c, h1, e.at h2 (by intro _ z; unfold LamO at z; cases z) (by intro _ z; unfold LamO pin at z; cases z), e.at h3 (by intro _ z; unfold LamX.CodeO at z; cases z) (by intro _ z; unfold LamX.CodeO pin at z; cases z)⟩
  | _, _, .lst l, _, n, e, h => by
    simp only [Is] at h ⊢
    obtain ⟨a, vs, h1, h2, h3⟩ := h
    exact ⟨a, vs, h1, e.at h2, IsL.monoW (by simpa [noLam] using n) (WxHd e) h3⟩
  | _, _, .tup l, _, n, e, h => by
    simp only [Is] at h ⊢
    obtain ⟨a, vs, h1, h2, h3⟩ := h
    exact ⟨a, vs, h1, e.at h2, IsL.monoW (by simpa [noLam] using n) e h3⟩
  | _, _, .fz l, _, _, e, h => by
    simp only [Is] at h ⊢
    obtain ⟨a, h1, h2⟩ := h
    refine ⟨a, h1, ?_⟩
    rcases h2 with (h2 | ⟨o, h2⟩) | h2
    · exact .inl (.inl (e.at h2))
    · exact .inl (.inr ⟨o, e.at h2⟩)
    · exact .inr h2
  | _, _, .ob C ns l, _, n, e, h => by
    simp only [Is] at h ⊢
    obtain ⟨a, dx, vs, h1, h2, h3, h4⟩ := h
    exact ⟨a, dx, vs, h1, e.at h2, h3, IsL.monoW (by simpa [noLam] using n) e h4⟩
theorem IsL.monoW : ∀ {H H' : Hp} {l : List D} {vs : List V}, noLamL l = true → Wx H H' → IsL K H l vs → IsL K H' l vs
  | _, _, [], _, _, e, h => by simpa only [IsL] using h
  | _, _, d :: l, _, n, e, h => by
    simp only [IsL] at h ⊢
    obtain ⟨v, r, h1, h2, h3⟩ := h
    have n' : noLam d = true ∧ noLamL l = true := by simpa [noLamL] using n
    exact ⟨v, r, h1, Is.monoW n'.1 e h2, IsL.monoW n'.2 e h3⟩
end
end
theorem wx_dr {G : Addr → Option Obj} {H : Hp} (g : ∀ b o, G b = some o → H b = some (pin o)) : Wx H (Dr G H) := fun b u e _ n => by
  rw [dr_ne (dr_ne' g e n)]
  exact e
/-! ### a lambda that keeps its promise -/
/-- S tells of the arguments and, behind them, of what was captured -/
structure LamOk (P : Program) (w : World) (K : PySem.W.Frag) (mg : Str → Option Value) (base : Heap) (k : Nat) (L : Lam) (np : Nat) (S : SpF) : Prop where
  len : ∀ ds R X, S ds R X → ds.length = np + L.fr.length
  run : ∀ (A : Around) (outer : List PySem.Env) (s : Shared) (H : Hp) (us : List Value) (vs wv : List V) (Q : VK) (E : XK) (f c' : Addr), Room k A → Env0 P w K mg base A outer s H → H f = some (LamO f L c') → H c' = some (LamX.CodeO c' L.qual) → Vals vs us → CapV H L wv → spD K S (vs ++ wv) H Q E →
    codeAny (model P w) A (.call (.ref f) ⟨us, []⟩) (CR (L2N.CX P w) outer P w H s Q E) s
theorem LamOk.mono {P : Program} {w : World} {K : PySem.W.Frag} {mg : Str → Option Value} {base : Heap} {j k : Nat} {L : Lam} {np : Nat} {S : SpF} (o : LamOk P w K mg base j L np S) (h : j ≤ k) : LamOk P w K mg base k L np S :=
  ⟨o.len, fun A outer s H us vs wv Q E f c' hr => o.run A outer s H us vs wv Q E f c' (hr.mono h)⟩
abbrev NFL (L : Lam) (c : Addr) : NdefX.NF := ⟨"<lambda>", L.qual, L.params, [], L.scope, L.cl, c⟩
theorem startF_eq {N : List Str} {vs wv : List V} : NdefX.startF N vs (wv.map some) = L2.start N (vs ++ wv) := by
  unfold NdefX.startF L2.start
  rw [List.map_append, List.append_assoc, List.length_append, List.length_map, Nat.sub_sub]
theorem lam_of {P : Program} {w : World} {K : PySem.W.Frag} {mg : Str → Option Value} {base : Heap} {k : Nat} {L : Lam} {N ps : List Str} {S : SpF} {t : WX → TE} (sc : NdefX.NScope N ps L.fr L.scope)
    (hb : ∀ (pm cv ctv : Value) (us : List Value), us.length = ps.length → bindArgs (PySem.W.kla_fn "<lambda>" L.qual L.params L.body L.scope L.cl pm cv ctv) ⟨us, []⟩ = pure (ps.zip us)) (hlen : ∀ ds R X, S ds R X → ds.length = ps.length + L.fr.length) (hN : ps.length + L.fr.length ≤ N.length)
    (hnl : L.cl = [] ∨ ∀ ds R X, S ds R X → noLamL ds = true)
    (hd : ∀ (f c' : Addr) (A : Around) (outer : List PySem.Env) (s : Shared) (H : Hp) (E : XK), Room k (A.deeper (NdefX.envF (NFL L c') f s.heap.objs.size)) → PE (NdefX.ncx (L2N.CX P w) P w K mg base N (NFL L c') f A outer s H E) L.body (t fun cls d _ H => E cls d H))
    (hp : ∀ W ds R X, S ds R X → SW K W (tSeq (tRet (t W)) tNext) (startD N ds) { nx := fun _ => False, rt := R, xc := fun C _ => X C }) : LamOk P w K mg base (k + 1) L ps.length S := by
  refine ⟨hlen, fun A outer s H us vs wv Q E f c' hr e0 hf hc r hcap hsp => ?_⟩
  obtain ⟨hT, ds, R, X, h1, h2, hQ, hE⟩ := hsp
  have hl : vs.length = ps.length := by
    have z := h1.length
    rw [List.length_append, hlen ds R X h2, hcap.len] at z
    omega
  obtain ⟨G, hG⟩ : ∃ G : Addr → Option Obj, G = fun b => if L.cl.any (fun p => p.2 == b) then s.heap.get? b else none := ⟨_, rfl⟩
  have gIn : ∀ b o, G b = some o → s.heap.get? b = some o ∧ H b = some (pin o) := fun b o e => by
    rw [hG] at e
    dsimp only at e
    split at e
    · rename_i z
      obtain ⟨⟨y, a⟩, hm, hb'⟩ := List.any_eq_true.mp z
      have ab : a = b := by simpa using hb'
      subst ab
      obtain ⟨hy, hl'⟩ := hcap.sub y a hm
      obtain ⟨i, hi⟩ := List.mem_iff_getElem?.mp hy
      obtain ⟨a', o', u, v, q1, q2, _⟩ := hcap.has i y hi
      rw [hl'] at q1
      cases q1
      have z2 := pin_get e0.hok q2
      rw [e] at z2
      cases z2
      exact ⟨e, q2⟩
    · cases e
  have gAt : ∀ y c o, L.cl.lookup y = some c → s.heap.get? c = some o → G c = some o := fun y c o e q => by
    rw [hG]
    dsimp only
    rw [if_pos (List.any_eq_true.mpr ⟨(y, c), PySem.mem_of_lookup e, by simp⟩)]
    exact q
  have gp : ∀ b o, G b = some o → H b = some (pin o) := fun b o e => (gIn b o e).2
  have e0' := env0_dr e0 gp
  have lim : s.heap.NoLimit := e0.mod.nolimit.keeps fun b o e => (e0.bs b o e).1
  have hasC : ∀ y c, L.cl.lookup y = some c → ∃ i o u v, L.fr[i]? = some y ∧ H c = some (pin o) ∧ s.heap.get? c = some o ∧ o.data = .cell (some u) ∧ wv[i]? = some v ∧ L2.RelV v u := fun y c e => by
    obtain ⟨hy, _⟩ := hcap.sub y c (PySem.mem_of_lookup e)
    obtain ⟨i, hi⟩ := List.mem_iff_getElem?.mp hy
    obtain ⟨a', o', u, v, q1, q2, q3, q4, q5⟩ := hcap.has i y hi
    rw [e] at q1
    cases q1
    exact ⟨i, o', u, v, hi, q2, pin_get e0.hok q2, q3, q4, q5⟩
  have C : NdefX.CellsAt L.cl L.fr (wv.map some) s.heap (Dr G H) := by
    refine ⟨by rw [List.length_map]; exact hcap.len, fun y c e => ?_, hcap.inj, fun i y e => ?_⟩
    · obtain ⟨i, o, u, v, _, _, q3, q4, _⟩ := hasC y c e
      exact ⟨dr_at (gAt y c o e q3), some u, o, q3, q4⟩
    · obtain ⟨a, o, u, v, q1, q2, q3, q4, q5⟩ := hcap.has i y e
      refine ⟨a, q1, fun v' ev => ⟨u, ?_, o, pin_get e0.hok q2, q3⟩⟩
      rw [List.getElem?_map, q4] at ev
      cases ev
      exact q5
  have iW : IsL K (Dr G H) ds (vs ++ wv) := by
    rcases hnl with z | z
    · have e : Dr G H = H := by
        funext b
        refine dr_ne ?_
        rw [hG]
        dsimp only
        rw [z]
        rfl
      rw [e]
      exact h1
    · exact h1.monoW (z ds R X h2) (wx_dr gp)
  refine codeAny_mono (R := CR (L2N.CX P w) outer P w (Dr G H) s (fun v H' => ∃ d, Ex (Dr G H) H' ∧ R d ∧ Is K (Nw (Dr G H) H') d v) (fun cls d H' => ∃ C, cls = .ref C ∧ d = none ∧ Ex (Dr G H) H' ∧ X C)) ?_
    fun r' s' hq => cr_dr (fun b o e => ⟨(gIn b o e).1, (gIn b o e).2, fun hm => by
      have z := e0.frf b hm
      rw [(gIn b o e).2] at z
      cases z⟩) (fun v H' g' ⟨d, a, b, c⟩ => hQ v _ d (ex_dr gp g' a) b (c.mono (nw_dr g'))) (fun cls d H' g' ⟨C, q1, q2, a, b⟩ => by
        subst q1 q2
        exact hE C _ (ex_dr gp g' a) b) hq
  obtain ⟨⟨pm, ctv, ho⟩, _, _⟩ := e0.hok f _ hf
  have hrec := NdefX.codeO_at e0.hok hc
  refine PySem.W.kla_callFunE hr.depth ho rfl sc.co sc.gen rfl hrec ?_
  rw [hb _ _ _ _ (by rw [← r.length]; exact hl)]
  refine wpAny_pure (wpAny_newFunctionEnv sc.nocell (fun ⟨n, _⟩ hy => sc.par n (List.of_mem_zip hy).1) (fun h₁ hns hsb => ⟨lim.fresh _ hsb, ?_⟩) sc.kind)
  show codeAny _ _ (.expr L.body (NdefX.envF (NFL L c') f s.heap.objs.size)) _ _
  have kp : ∀ b o, s.heap.get? b = some o → h₁.get? b = some o := fun b o e => hsb.extBut b o (Nat.ne_of_lt (Heap.lt_size e)) (Heap.get?_push_of_some _ e)
  have I := NdefX.inv_startN (CX := L2N.CX P w) (N := N) (F := NFL L c') (f := f) (E := fun cls d H' => ∃ C, cls = .ref C ∧ d = none ∧ Ex (Dr G H) H' ∧ X C) (tk := s.toks + (ps.zip us).length) sc hr.hd e0' hl r C hns kp
  rw [startF_eq] at I
  have ht := hd f c' A outer s (Dr G H) (fun cls d H' => ∃ C, cls = .ref C ∧ d = none ∧ Ex (Dr G H) H' ∧ X C) (hr.deeper _)
  have hpl : t (fun cls d _ H' => ∃ C, cls = .ref C ∧ d = none ∧ Ex (Dr G H) H' ∧ X C) (L2.start N (vs ++ wv)) (Dr G H) fun v H1 => ∃ d, Ex (Dr G H) H1 ∧ R d ∧ Is K (Nw (Dr G H) H1) d v := by
    have hps := hp (fun cls d _ H' => ∃ C, cls = .ref C ∧ d = none ∧ Ex (Dr G H) H' ∧ X C) ds R X h2
    exact hps (Dr G H) [] [] (Dr G H) _ (env_start (tabs_dr gp hT) iW (by rw [hlen ds R X h2]; exact hN)) { nx := fun _ _ => False, rt := fun v H1 => ∃ d, Ex (Dr G H) H1 ∧ R d ∧ Is K (Nw (Dr G H) H1) d v, bk := fun _ _ => False, ct := fun _ _ => False }
      ⟨fun O H' σ ds I z => z, fun v H' d e z y => ⟨d, e, y, z⟩, fun O H' σ ds I z => z, fun O H' σ ds I z => z, fun C O H' σ ds I z => ⟨C, rfl, rfl, I.ext, z⟩⟩
  refine PySem.W.kla_codeExpr (wpAny_mono (ht.run [] _ _ _ _ I hpl) (fun v s' hs => ?_) fun e s' hs => hs)
  obtain ⟨w', H', J, rv, q⟩ := hs
  exact ⟨w', H', J.os, J.bare, J.base, J.hok, rv, q⟩
/-! ### a name that holds a lambda is called -/
def tCallM (K : PySem.W.Frag) (i : Nat) (SL : Lam → SpF) (W : WX) (t : TA) : TE := fun σ H Q => ∃ f c' L, σ[i]? = some (some (.ref f)) ∧ H f = some (LamO f L c') ∧ H c' = some (LamX.CodeO c' L.qual) ∧
  t σ H fun vs H1 => Ex H H1 ∧ ∃ wv, CapV H1 L wv ∧ spD K (SL L) (vs ++ wv) H1 Q (WE W σ)
theorem fnAt_lam {X : Cx} {pins : List (Addr × Obj)} {σ : L2.St} {H : Hp} {s : Shared} {f c' : Addr} {L : Lam} (I : Inv X pins σ H s) (e : H f = some (LamO f L c')) : PySem.W.FnAt f s.heap := by
  obtain ⟨⟨pm, ctv, ho⟩, _, _⟩ := I.hok f _ e
  exact ⟨_, _, _, _, ho⟩
def LamsOk (P : Program) (w : World) (K : PySem.W.Frag) (mg : Str → Option Value) (base : Heap) (k : Nat) (SL : Lam → SpF) : Prop := ∀ L ds R X, SL L ds R X → ∃ np S, LamOk P w K mg base k L np S ∧ S ds R X
theorem pe_callM {X : Cx} {SL : Lam → SpF} {W : WX} {i k j : Nat} {x : Str} {p pos : Pos} {e : Expr} {es : List Expr} {t : TA} (A : LamsOk X.prog X.w X.K X.mg X.base k SL) (hr : Room j X.A) (hk : k ≤ j) (hN : X.N[i]? = some x) (hv : Vis X.env.scope x) (tk : L2N.Takes X W) (ha : PA X (e :: es) t)
    (hdb : (x == ("__debug__" : Str)) = false := by decide) (hcd : (x == ("__classdict__" : Str)) = false := by decide)
    (he : starEach (e :: es) X.env = (false, eval e X.env) :: starEach es X.env := by rfl) (hpl : (backTo pos (starEach es X.env)).any (·.1) = false := by rfl) : PE X (.Call (.Name x p) (e :: es) [] pos) (tCallM X.K i SL W t) := by
  refine ⟨fun pins s σ H Q I h => ?_⟩
  obtain ⟨f, c', L, hs, hf, hc, ht⟩ := h
  refine wpAny_Call_Name_kw (thn ((pe_var (pos := p) hN hv hdb hcd).run pins s σ H (fun v H1 => v = .ref f ∧ H1 = H) I ⟨.ref f, hs, rfl, rfl⟩) fun u s1 ⟨v, H1, I1, r1, q1⟩ => ?_)
  obtain ⟨rfl, rfl⟩ := q1
  cases r1
  refine PySem.W.callWith_F (first := []) (fnAt_lam I1 hf) (thn (ha.run pos pins s1 σ _ _ I1 ht) fun us s2 ⟨vs, H2, I2, r, e2, q⟩ => ⟨fnAt_lam I2 (e2.at hf lamO_ne), ?_⟩) he hpl
  obtain ⟨wv, hw, q⟩ := q
  obtain ⟨hT, ds, R, X', q1, q2, q3, q4⟩ := q
  obtain ⟨np, S', F, q2'⟩ := A L ds R X' q2
  have q : spD X.K S' (vs ++ wv) H2 Q (WE W σ) := ⟨hT, ds, R, X', q1, q2', q3, q4⟩
  refine wpAny_call (codeAny_mono (F.run X.A X.stack s2 H2 us vs wv Q (WE W σ) f c' (hr.mono hk) I2.env0 (e2.at hf lamO_ne) (e2.at hc codeO_ne') r hw q) fun r s' hq => ?_)
  cases r with
  | error e => exact L2N.passAt tk σ pins H2 s2 e s' I2 hq
  | ok fl =>
    cases fl with
    | ret u => exact I2.after hq
    | next => exact False.elim hq
    | brk => exact False.elim hq
    | cont => exact False.elim hq
section
variable {K : PySem.W.Frag} {W : WX} {P : Post} {u : TS} {ds : List Slot} {m : Md} {tA : TA} {args cs : List D} {SL : Lam → SpF} {L : Lam} {i : Nat} {d : D}
theorem is_lam {H : Hp} {v : V} {l : List D} : Is K H (.lam L l) v ↔ ∃ f c vs, v = .ref f ∧ H f = some (LamO f L c) ∧ H c = some (LamX.CodeO c L.qual) ∧ CapV H L vs ∧ IsL K H l vs := by simp only [Is]
/-- ask(..) for its effects -/
theorem q_callM (hi : ds[i]? = some (.ar (.lam L cs))) (ha : EvA K .I tA ds args) (hS : SL L (args ++ cs) (fun _ => SW K W u ds P) (fun C => P.xc C ds)) : SW K W (tSeq (tDrop (tCallM K i SL W tA)) u) ds P := fun He ex O H σ I D c => by
  obtain ⟨v, h1, h2⟩ := I.ar i _ hi
  obtain ⟨f, c', wv, rfl, h3, h4, h5, h6⟩ := is_lam.mp h2
  exact ⟨f, c', L, h1, (hm_some.mp h3).2, (hm_some.mp h4).2, ha He ex O H σ I _ fun vs H2 e z => ⟨e, wv, (h5.mono ex_hm).mono e.v, (I.mono e).tb, args ++ cs, _, _, z.append ((h6.mono ex_hm).mono e.v), hS, fun v H' d' e' rd hv => rd He ex O H' σ (I.mono (e.trans e')) D c, fun C H' e' z => c.xc C O H' σ ds (I.mono (e.trans e')) z⟩⟩
/-- .. for its result -/
theorem q_setCallM {k : Nat} (hi : ds[i]? = some (.ar (.lam L cs))) (ha : EvA K .I tA ds args) (hS : SL L (args ++ cs) (fun d => SW K W u (ds.set k (.nw d)) P) (fun C => P.xc C ds)) : SW K W (tSeq (tAsg (tCallM K i SL W tA) (gName k)) u) ds P := fun He ex O H σ I D c => by
  obtain ⟨v, h1, h2⟩ := I.ar i _ hi
  obtain ⟨f, c', wv, rfl, h3, h4, h5, h6⟩ := is_lam.mp h2
  exact ⟨f, c', L, h1, (hm_some.mp h3).2, (hm_some.mp h4).2, ha He ex O H σ I _ fun vs H2 e z => ⟨e, wv, (h5.mono ex_hm).mono e.v, (I.mono e).tb, args ++ cs, _, _, z.append ((h6.mono ex_hm).mono e.v), hS, fun v H' d' e' rd hv => rd He ex O H' _ ((I.mono (e.trans e')).put (s := .nw d') (hv.mono (Vx.trans (Ex.nwL e) (nw_hn I)))) D c, fun C H' e' z => c.xc C O H' σ ds (I.mono (e.trans e')) z⟩⟩
end
/-! ### cells lent to a callee -/
structure LentC (ce : List (Str × Addr)) (fr : List Str) (wv : List V) (G : Addr → Option Obj) (H : Hp) : Prop where
  free : ∀ b o, G b = some o → H b = none
  inj : ∀ x y c, ce.lookup x = some c → ce.lookup y = some c → x = y
  has : ∀ (i : Nat) (y : Str), fr[i]? = some y → ∃ a o u v, ce.lookup y = some a ∧ G a = some o ∧ o.data = .cell (some u) ∧ wv[i]? = some v ∧ L2.RelV v u
def tCallL (K : PySem.W.Frag) (ce : List (Str × Addr)) (fr : List Str) (js : List Nat) (S : SpF) (W : WX) (t : TA) : TE := fun σ H Q => t σ H fun vs H2 =>
  LamX.Tabs Tb.T H2 ∧ ∃ wv : List V, wv.length = js.length ∧ (∀ (i j : Nat), js[i]? = some j → ∃ v, wv[i]? = some v ∧ σ[j]? = some (some v)) ∧ ∀ G : Addr → Option Obj, LentC ce fr wv G H2 →
    ∃ ds R X, IsL K (Pin G H2) ds vs ∧ S ds R X ∧ (∀ v H' d, Ex H2 H' → R d → Is K (Nw H2 H') d v → Q v H') ∧ ∀ C H', Ex H2 H' → X C → WE W σ (.ref C) none H'
theorem pe_callL {X : Cx} {x : Str} {ce : List (Str × Addr)} {fr : List Str} {js : List Nat} {k j : Nat} {ps : List Str} {S : SpF} {W : WX} {e : Expr} {es : List Expr} {t : TA} {p pos : Pos} (Gd : Good X.prog X.w X.K X.mg X.base x k ps S) (hr : Room j X.A) (hk : k ≤ j) (hg : Gl X x) (tk : L2N.Takes X W) (ha : PA X (e :: es) t)
    (hce : X.env.cells = ce) (hfn : ∀ y ∈ fr, X.fn y = true) (hkin : ∀ y ∈ fr, X.env.scope.names.lookup y = some .cell) (hjs : js.map (fun j => X.N[j]?) = fr.map some)
    (hdb : (x == ("__debug__" : Str)) = false := by decide) (he : starEach (e :: es) X.env = (false, eval e X.env) :: starEach es X.env := by rfl) (hpl : (backTo pos (starEach es X.env)).any (·.1) = false := by rfl) :
    PE X (.Call (.Name x p) (e :: es) [] pos) (tCallL X.K ce fr js S W t) := by
  obtain ⟨f, fd, hm, hk2, hb, F⟩ := Gd
  refine ⟨fun pins s σ H Q I h => ?_⟩
  unfold tCallL at h
  refine wpAny_Call_Name_kw (ld_glob I hg hm ?_ hdb)
  refine PySem.W.callWith_K (h₀ := X.base) I.ok.mod.kin hk2 (thn (ha.run pos pins s σ H _ I h) fun us s1 ⟨vs, H1, I1, r, q⟩ => ⟨I1.kIn, ?_⟩) he hpl
  obtain ⟨hT, wv, hwl, hwv, hG⟩ := q
  subst hce
  obtain ⟨G, hGd⟩ : ∃ G : Addr → Option Obj, G = fun b => if fr.any (fun y => X.env.cells.lookup y == some b) then s1.heap.get? b else none := ⟨_, rfl⟩
  have gA : ∀ b o, G b = some o → s1.heap.get? b = some o ∧ H1 b = none ∧ b ∉ frs X.stack ∧ X.base.get? b = none := fun b o e => by
    rw [hGd] at e
    dsimp only at e
    split at e
    · rename_i z
      obtain ⟨y, hy, hb'⟩ := List.any_eq_true.mp z
      have hl : X.env.cells.lookup y = some b := by simpa using hb'
      have hab := I1.ok.cab y b (hfn y hy) hl
      refine ⟨e, I1.freeC y b hl, fun hm' => ?_, Heap.get?_none_of_le (Nat.le_trans I1.ok.bsz hab)⟩
      rcases List.mem_cons.mp (I1.stkSub b hm') with z1 | z1
      · obtain ⟨v, oc, hoc, hdc⟩ := I1.cell y b hl
        obtain ⟨m, ⟨ol, es', ep, hol, hdl, _⟩, _⟩ := I1.loc
        rw [z1, hol] at hoc
        cases hoc
        rw [hdl] at hdc
        cases hdc
      · obtain ⟨_, o', ho', _⟩ := I1.ok.funs.mem z1
        exact absurd (Heap.lt_size ho') (Nat.not_lt.mpr hab)
    · cases e
  have lent : LentC X.env.cells fr wv G H1 := by
    refine ⟨fun b o e => (gA b o e).2.1, I1.ok.inj, fun i y e => ?_⟩
    have hy := List.mem_of_getElem? e
    have e2 : (js.map fun j => X.N[j]?)[i]? = some (some y) := by
      rw [hjs, List.getElem?_map, e] <;> rfl
    rw [List.getElem?_map] at e2
    cases ej : js[i]? with
    | none =>
      rw [ej] at e2
      cases e2
    | some j =>
      rw [ej] at e2
      have hj : X.N[j]? = some y := Option.some.inj (show some (X.N[j]?) = some (some y) from e2)
      obtain ⟨v, hv, hs⟩ := hwv i j ej
      obtain ⟨m, hn, hl⟩ := I1.loc
      obtain ⟨u, ru, l⟩ := hl j y v hj hs (.inr (.inl (hkin y hy)))
      rcases l with ⟨z, _⟩ | ⟨_, a, ha', o, ho, hdo⟩
      · have z' : X.env.scope.names.lookup y = some .local := z
        rw [hkin y hy] at z'
        cases z'
      · refine ⟨a, o, u, v, ha', ?_, hdo, hv, ru⟩
        rw [hGd]
        dsimp only
        rw [if_pos (List.any_eq_true.mpr ⟨y, hy, by rw [ha']; simp⟩)]
        exact ho
  have gfree : ∀ b o, G b = some o → H1 b = none := fun b o e => (gA b o e).2.1
  obtain ⟨ds, R, Xc, h1, h2, hQ, hE⟩ := hG G lent
  have hsp : spD X.K S vs (Pin G H1) (fun v H' => ∃ d, Ex (Pin G H1) H' ∧ R d ∧ Is X.K (Nw (Pin G H1) H') d v) (fun cls d H' => ∃ C, cls = .ref C ∧ d = none ∧ Ex (Pin G H1) H' ∧ Xc C) :=
    ⟨hT.ext (ex_pinH gfree), ds, R, Xc, h1, h2, fun v H' d a b c => ⟨d, a, b, c⟩, fun C H' a b => ⟨C, rfl, rfl, a, b⟩⟩
  have hl : us.length = ps.length := by rw [← r.length]; exact F.len _ _ _ _ hsp
  have b := hb s1 us I1.kIn (by rw [List.append_nil]; exact hl)
  rw [List.append_nil] at b
  refine wpAny_call (codeAny_mono (F.run X.A X.stack s1 (Pin G H1) ⟨us, []⟩ us vs _ _ (hr.mono hk) (env0_pin I1.env0 gA) b r hsp) fun rr s' hq => ?_)
  have hq2 := cr_pin (Q := Q) (E := WE W σ) (fun b o e => ⟨(gA b o e).1, (gA b o e).2.1, (gA b o e).2.2.1⟩) (fun v H' g' ⟨d, a, b, c⟩ => hQ v _ d (ex_pin gfree g' a) b (c.mono (nw_pin gfree))) (fun cls d H' g' ⟨C, q1, q2, a, b⟩ => by
    subst q1 q2
    exact hE C _ (ex_pin gfree g' a) b) hq
  cases rr with
  | error e => exact L2N.passAt tk σ pins H1 s1 e s' I1 hq2
  | ok fl =>
    cases fl with
    | ret u => exact I1.after hq2
    | next => exact False.elim hq2
    | brk => exact False.elim hq2
    | cont => exact False.elim hq2
/-- the lambda L captured the names fr of a frame whose cells are ce -/
structure LamCl (L : Lam) (ce : List (Str × Addr)) (fr : List Str) : Prop where
  frE : L.fr = fr
  cl : L.cl = cloFrom ce L.scope.names []
  free : ∀ y ∈ L.scope.names, y.2 = .free → y.1 ∈ fr
  mem : ∀ y ∈ fr, (y, NameKind.free) ∈ L.scope.names
theorem capV_of {L : Lam} {ce : List (Str × Addr)} {fr : List Str} {wv : List V} {G : Addr → Option Obj} {H : Hp} (c : LamCl L ce fr) (l : LentC ce fr wv G H) (hw : wv.length = fr.length) : CapV (Pin G H) L wv := by
  have hf : ∀ y ∈ L.scope.names, y.2 = .free → ∃ c, ce.lookup y.1 = some c := fun y hy k => by
    obtain ⟨i, hi⟩ := List.mem_iff_getElem?.mp (c.free y hy k)
    obtain ⟨a, _, _, _, e, _⟩ := l.has i y.1 hi
    exact ⟨a, e⟩
  refine ⟨by rw [c.frE]; exact hw, fun x y a e1 e2 => ?_, fun y a hm => ?_, fun i y e => ?_⟩
  · rw [c.cl] at e1 e2
    exact l.inj x y a (NdefX.clo_cm hf e1) (NdefX.clo_cm hf e2)
  · rw [c.cl] at hm ⊢
    rcases cloFrom_mem hm with z | ⟨z1, z2⟩
    · cases z
    · obtain ⟨a', e⟩ := hf _ z1 rfl
      have e : ce.lookup y = some a' := e
      have : a = a' := by
        rw [z2, e] <;> rfl
      subst this
      exact ⟨by rw [c.frE]; exact c.free _ z1 rfl, NdefX.clo_has hf z1 e⟩
  · rw [c.frE] at e
    obtain ⟨a, o, u, v, e1, e2, e3, e4, e5⟩ := l.has i y e
    exact ⟨a, o, u, v, by rw [c.cl]; exact NdefX.clo_has hf (c.mem y (List.mem_of_getElem? e)) e1, pin_at e2, e3, e4, e5⟩
def CapD (ds : List Slot) : List Nat → List D → Prop
  | [], [] => True
  | j :: js, d :: cs => (ds[j]? = some (.nw d) ∨ ds[j]? = some (.ar d)) ∧ CapD ds js cs
  | _, _ => False
section
variable {K : PySem.W.Frag} {He H : Hp} {ex : List (V × D)} {O : List Addr} {σ : L2.St} {W : WX} {ds : List Slot} {m : Md} {tA : TA} {rest : List D} {S : SpF} {L : Lam} {d : D} {ce : List (Str × Addr)} {fr : List Str}
theorem capD_of (I : Env K He ex O H σ ds) : ∀ {js : List Nat} {cs : List D}, CapD ds js cs → ∃ wv : List V, wv.length = js.length ∧ (∀ (i j : Nat), js[i]? = some j → ∃ v, wv[i]? = some v ∧ σ[j]? = some (some v)) ∧ IsL K H cs wv
  | [], [], _ => ⟨[], rfl, fun i j e => by simp at e, IsL.nil⟩
  | j :: js, d :: cs, h => by
    obtain ⟨h1, h2⟩ := h
    obtain ⟨wv, a, b, c⟩ := capD_of I h2
    obtain ⟨v, e1, e2⟩ : ∃ v, σ[j]? = some (some v) ∧ Is K H d v := by
      rcases h1 with h1 | h1
      · obtain ⟨v, e1, e2⟩ := I.nw j d h1
        exact ⟨v, e1, (e2.mono ex_hn).mono ex_hm⟩
      · obtain ⟨v, e1, e2⟩ := I.ar j d h1
        exact ⟨v, e1, e2.mono ex_hm⟩
    refine ⟨v :: wv, by simp [a], fun i j' e => ?_, IsL.cons e2 c⟩
    cases i with
    | zero =>
      have : j = j' := by simpa using e
      subst this
      exact ⟨v, rfl, e1⟩
    | succ i => exact b i j' (by simpa using e)
  | [], _ :: _, h => h.elim
  | _ :: _, [], h => h.elim
theorem CapD.len : ∀ {js : List Nat} {cs : List D}, CapD ds js cs → cs.length = js.length
  | [], [], _ => rfl
  | _ :: _, _ :: _, h => by simp [CapD.len h.2]
  | [], _ :: _, h => h.elim
  | _ :: _, [], h => h.elim
/-- f(lambda.., ..): the lambda's cells are lent -/
theorem ev_callL {js : List Nat} {cs : List D} (ha : EvA K .I tA ds (.lmf L :: rest)) (hL : LamCl L ce fr) (hc : CapD ds js cs) (hj : js.length = fr.length) (hS : S (.lam L cs :: rest) (fun r => r = d) (fun _ => False)) : Ev K .N (tCallL K ce fr js S W tA) ds d := fun He ex O H σ I Q q => by
  obtain ⟨wv, a, b, c⟩ := capD_of I hc
  refine ha He ex O H σ I _ fun vs H2 e z => ⟨(I.mono e).tb, wv, a, b, fun G l => ?_⟩
  have up : Vx H2 (Pin G H2) := Vx.of (ex_pinH l.free)
  refine ⟨.lam L cs :: rest, _, _, ?_, hS, fun v H' d' e' rd hv => ?_, fun C H' e' z => z.elim⟩
  · simp only [IsL] at z
    obtain ⟨v, r, rfl, z1, z2⟩ := z
    refine IsL.cons ?_ (IsL.mono up z2)
    simp only [Is] at z1
    obtain ⟨f, c', rfl, y1, y2⟩ := z1
    exact is_lam.mpr ⟨f, c', wv, rfl, ex_pinH l.free _ _ y1, ex_pinH l.free _ _ y2, capV_of hL l (a.trans hj), (IsL.mono e.v c).mono up⟩
  · subst rd
    exact q v H' (e.trans e') (hv.mono (Ex.nwL e))
end
end Px

namespace Px
open PySem PySem.Spec PyProof.Rows L2 He
variable [Tb]
/-! ### the least of three -/
theorem nuMin2_int (i j : Int) : nuMin2 (.int i) (.int j) = some (.int (min i j)) := by
  show some (if decide (j < i) = true then V.int j else V.int i) = _
  by_cases h : j < i
  · rw [decide_eq_true h, if_pos rfl, show min i j = j by omega]
  · rw [decide_eq_false h, if_neg Bool.false_ne_true, show min i j = i by omega]
theorem ev_min3 {K : PySem.W.Frag} {ds : List Slot} {m : Md} {ta tb tc : TE} {i j k : Int} (ha : Ev K .I ta ds (.int i)) (hb : Ev K .I tb ds (.int j)) (hc : Ev K .I tc ds (.int k)) : Ev K m (tCB (rNuC3 nuMin3) (tCons ta (tCons tb (tCons tc tNil)))) ds (.int (min (min i j) k)) := ev_cb (ea_cons ha (ea_cons hb (ea_cons hc ea_nil))) rfl fun vs H Q z q => by
  simp only [IsL] at z
  obtain ⟨v, _, rfl, h1, w, _, rfl, h2, u, _, rfl, h3, rfl⟩ := z
  rw [is_int.mp h1, is_int.mp h2, is_int.mp h3]
  refine ⟨.int i, .int j, .int k, .int (min (min i j) k), rfl, ?_, q _ (is_int.mpr rfl)⟩
  show (nuMin2 (.int i) (.int j)).bind (fun m => nuMin2 m (.int k)) = _
  rw [nuMin2_int]
  exact nuMin2_int _ _
theorem ev_callLI {K : PySem.W.Frag} {W : WX} {ds : List Slot} {m : Md} {tA : TA} {rest : List D} {S : SpF} {L : Lam} {d : D} {ce : List (Str × Addr)} {fr : List Str} {js : List Nat} {cs : List D} (ha : EvA K .I tA ds (.lmf L :: rest)) (hL : LamCl L ce fr) (hc : CapD ds js cs) (hj : js.length = fr.length) (hS : S (.lam L cs :: rest) (fun r => r = d) (fun _ => False)) : Ev K m (tCallL K ce fr js S W tA) ds d :=
  (ev_callL ha hL hc hj hS).wkN m
/-! ### parts of a text -/
def dE : Expr := .Name "_" ⟨0, 0, 0, 0⟩
def dS : Stmt := .Pass ⟨0, 0, 0, 0⟩
def eK : Expr → Nat → Expr
  | .BoolOp _ vs _, i => vs.getD i dE
  | .BinOp l _ _ _, 0 => l
  | .BinOp _ _ r _, _ => r
  | .UnaryOp _ e _, _ => e
  | .Lambda _ b _ _, _ => b
  | .IfExp t _ _ _, 0 => t
  | .IfExp _ b _ _, 1 => b
  | .IfExp _ _ o _, _ => o
  | .ListComp e _ _ _, 0 => e
  | .ListComp _ gs _ _, i + 1 => match gs with
    | g :: _ => (match i with
      | 0 => g.iter
      | n + 1 => g.ifs.getD n dE)
    | [] => dE
  | .Compare l _ _ _, 0 => l
  | .Compare _ _ cs _, i + 1 => cs.getD i dE
  | .Call f _ _ _, 0 => f
  | .Call _ es _ _, i + 1 => es.getD i dE
  | .Attribute v _ _, _ => v
  | .Subscript v _ _, 0 => v
  | .Subscript _ s _, _ => s
  | .List es _, i => es.getD i dE
  | .Tuple es _ _, i => es.getD i dE
  | _, _ => dE
def sE : Stmt → Expr
  | .Return (some e) _ => e
  | .Assign _ v _ => v
  | .For _ it _ _ _ => it
  | .While t _ _ _ => t
  | .If t _ _ _ => t
  | .Expr v _ => v
  | _ => dE
def sB : Stmt → Nat → List Stmt
  | .For _ _ b _ _, 0 => b
  | .For _ _ _ o _, _ => o
  | .While _ b _ _, 0 => b
  | .While _ _ o _, _ => o
  | .If _ b _ _, 0 => b
  | .If _ _ o _, _ => o
  | .Try b _ _ _ _, 0 => b
  | .Try _ hs _ _ _, _ => match hs with
    | .ExceptHandler _ _ b _ :: _ => b
    | [] => []
  | _, _ => []
def qlam (x : Str) : Str := (x ++ ".<locals>.") ++ "<lambda>"
def mkLam (e : Expr) (x : Str) (ce : List (Str × Addr)) (fr : List Str) : Lam := match e with
  | .Lambda ps b sc _ => ⟨qlam x, ps, b, sc, cloFrom ce sc.names [], fr⟩
  | _ => ⟨qlam x, ⟨[], [], none, [], [], none, []⟩, dE, default, [], fr⟩
/-! ### the makers' tables -/
def tabT (tf : List Defn) (K : PySem.W.Frag) : List (Addr × Str) := tf.map fun p => ((cT K p).2, qlam p.1)
structure TabF (tf : List Defn) (K : PySem.W.Frag) (base : Heap) (mg : Str → Option Value) : Prop where
  hT : Tb.T = tabT tf K
  nd : (tf.map fun p => (cT K p).2).Nodup
  tb : ∀ p ∈ tf.map (cT K), LamX.TabB base mg p.1 p.2
theorem nodup_at {α β : Type} {f : α → β} : ∀ {l : List α} {a b : α}, (l.map f).Nodup → a ∈ l → b ∈ l → f a = f b → a = b
  | x :: l, a, b, h, ha, hb, e => by
    rw [List.map_cons, List.nodup_cons] at h
    rcases List.mem_cons.mp ha with za | za
    · rcases List.mem_cons.mp hb with zb | zb
      · rw [za, zb]
      · exact absurd (List.mem_map.mpr ⟨b, zb, by rw [← e, za]⟩) h.1
    · rcases List.mem_cons.mp hb with zb | zb
      · exact absurd (List.mem_map.mpr ⟨a, za, by rw [e, zb]⟩) h.1
      · exact nodup_at h.2 za zb e
theorem maker_of {tf : List Defn} {K : PySem.W.Frag} {base : Heap} {mg : Str → Option Value} {p : Defn} {cdv : Value} (M : TabF tf K base mg) (hp : p ∈ tf) (hc : cdv = .ref (codeOf K p)) : Maker base mg cdv (qlam p.1) := by
  refine ⟨(cT K p).1, (cT K p).2, hc, M.tb _ (List.mem_map.mpr ⟨p, hp, rfl⟩), ?_, fun r hr e => ?_⟩
  · rw [M.hT]
    exact List.mem_map.mpr ⟨p, hp, rfl⟩
  · rw [M.hT] at hr
    obtain ⟨p', hp', rfl⟩ := List.mem_map.mp hr
    rw [nodup_at M.nd hp' hp e]
theorem fn_mkL {P : Program} {w : World} {K : PySem.W.Frag} {mg : Str → Option Value} {base : Heap} {x : Str} {params : Arguments} {body : List Stmt} {scope : Scope} {f : Addr} {fd : FuncData} {N ps : List Str} {k : Nat} {S : SpF} {t : List (Str × Addr) → WX → TS} {tf : List Defn} {p : Defn}
    (F : FunD K x x params body scope [] [] f fd) (M : TabF tf K base mg) (hp0 : p ∈ tf) (hf : fAd K p = f) (sc : FnScope N ps scope) (hlen : ∀ ds R X, S ds R X → ds.length = ps.length) (hN : ps.length ≤ N.length)
    (hd : ∀ (cdv : Value), Maker base mg cdv (qlam p.1) → ∀ (A : Around) (outer : List PySem.Env) (s : Shared) (H : Hp) (E : XK), Room k (A.deeper (envOfC x scope s.heap.objs.size f cdv)) → PSs (cxOf (L2N.CX P w) P w K mg base N x scope f cdv A outer s H E) body (t (cellsFrom (s.heap.objs.size + 1) scope.names []) fun cls d _ H => E cls d H))
    (hp : ∀ ce W ds R X, S ds R X → SW K W (t ce W) (startD N ds) { nx := fun _ => R .non, rt := R, xc := fun C _ => X C }) : FnOk P w K mg base (L2N.CX P w) (k + 1) f fd ps (spD K S) := by
  obtain ⟨oc, od, dV, kV, doc, pm, an, cdv, ct, osl, rfl, lk, hcd, _, _⟩ := F.ex
  obtain ⟨c, hc⟩ := codeIn_ref hcd
  subst hf
  have Mk : Maker base mg cdv (qlam p.1) := maker_of M hp0 (by rw [codeOf_eq lk hc]; exact hc)
  refine fn_of lk hcd sc (fun vs H Q E h => ?_) fun A outer s H vs Q E hr h => ?_
  · obtain ⟨_, ds, R, X, h1, h2, _⟩ := h
    rw [h1.length, hlen ds R X h2]
  · obtain ⟨ht, ds, R, X, h1, h2, hQ, hE⟩ := h
    exact ⟨_, hd cdv Mk A outer s H E hr, body_of ht h1 (by rw [hlen ds R X h2]; exact hN) hQ hE (hp _ _ ds R X h2)⟩
theorem good_mkL {P : Program} {w : World} {K : PySem.W.Frag} {mg : Str → Option Value} {base : Heap} {x : Str} {params : Arguments} {body : List Stmt} {scope : Scope} {f : Addr} {fd : FuncData} {N ps : List Str} {k : Nat} {S : SpF} {t : List (Str × Addr) → WX → TS} {tf : List Defn} {p : Defn}
    (F : FunD K x x params body scope [] [] f fd) (hm : mg x = some (.ref f)) (M : TabF tf K base mg) (hp0 : p ∈ tf) (hf : fAd K p = f) (sc : FnScope N ps scope)
    (hb : ∀ (kV doc pm : Value) (an : Option Addr) (cdv ct : Value) (us : List Value), us.length = ps.length → bindArgs (PySem.W.fnOf x x params body scope .none kV doc pm an cdv ct) ⟨us, []⟩ = pure (ps.zip us))
    (hlen : ∀ ds R X, S ds R X → ds.length = ps.length) (hN : ps.length ≤ N.length)
    (hd : ∀ (cdv : Value), Maker base mg cdv (qlam p.1) → ∀ (A : Around) (outer : List PySem.Env) (s : Shared) (H : Hp) (E : XK), Room k (A.deeper (envOfC x scope s.heap.objs.size f cdv)) → PSs (cxOf (L2N.CX P w) P w K mg base N x scope f cdv A outer s H E) body (t (cellsFrom (s.heap.objs.size + 1) scope.names []) fun cls d _ H => E cls d H))
    (hp : ∀ ce W ds R X, S ds R X → SW K W (t ce W) (startD N ds) { nx := fun _ => R .non, rt := R, xc := fun C _ => X C }) : Good P w K mg base x (k + 1) ps S :=
  ⟨f, fd, hm, F.kp, FunD.bindsN (ps := ps) F hb, fn_mkL F M hp0 hf sc hlen hN hd hp⟩
/-! ### the head: tables left out of what is known -/
def tabsL (g : Addr → Option Obj) (tf : List Defn) (K : PySem.W.Frag) : Bool := tabsB g tf K && decide ((tf.map fun p => (cT K p).2).Nodup)
def obsLG (n : Nat) (fa : List Fa) (ex : PySem.W.Frag → Bool) (fn : List DefD) (tf : List Defn) (g : Addr → Option Obj) : AlD := obsB fa (fun K => ex K && tabsL g tf K) fn (frT g (asD g n))
structure SaysL (fa : List Fa) (ex : PySem.W.Frag → Bool) (fn : List DefD) (tf : List Defn) (h : Heap) (K : PySem.W.Frag) : Prop where
  b : SaysB fa ex fn K
  hd : ∀ p ∈ tf, PySem.W.codeHdIn K (cT K p).1 (cT K p).2 = true
  out : ∀ p ∈ tf, K.lookup (cT K p).2 = none
  empty : ∀ p ∈ tf, h.get? (cT K p).2 = some { cls := .none, data := .fields #[] }
  nd : (tf.map fun p => (cT K p).2).Nodup
theorem saysL_of {n : Nat} {fa : List Fa} {ex : PySem.W.Frag → Bool} {fn : List DefD} {tf : List Defn} {h : Heap} (e : obsLG n fa ex fn tf h.get? = valD fn) : SaysL fa ex fn tf h (frT h.get? (asD h.get? n)) := by
  have e1 : (((fa.all fun f => f.ok (frT h.get? (asD h.get? n))) && (ex (frT h.get? (asD h.get? n)) && tabsL h.get? tf (frT h.get? (asD h.get? n)))) && fn.all fun d => d.ok (frT h.get? (asD h.get? n))) = true := congrArg (fun z : AlD => z.1) e
  have e2 : (fn.map fun d => fnW (frT h.get? (asD h.get? n)) d.at_) = fn.map DefD.val := congrArg (fun z : AlD => z.2) e
  obtain ⟨h1, h2⟩ := ba e1
  obtain ⟨h3, h4⟩ := ba h1
  obtain ⟨h5, h6⟩ := ba h4
  obtain ⟨h7, h8⟩ := ba h6
  have key : ∀ p ∈ tf, PySem.W.codeHdIn (frT h.get? (asD h.get? n)) (cT (frT h.get? (asD h.get? n)) p).1 (cT (frT h.get? (asD h.get? n)) p).2 = true ∧ ∃ o, h.get? (cT (frT h.get? (asD h.get? n)) p).2 = some o ∧ emptyTab o = true := fun p hp => by
    obtain ⟨h3, h4⟩ := ba (List.all_eq_true.mp h7 p hp)
    refine ⟨h3, ?_⟩
    cases q : h.get? (cT (frT h.get? (asD h.get? n)) p).2 with
    | none =>
      rw [q] at h4
      cases h4
    | some o =>
      rw [q] at h4
      exact ⟨o, rfl, h4⟩
  refine ⟨?_, fun p hp => (key p hp).1, fun p hp => ?_, fun p hp => ?_, of_decide_eq_true h8⟩
  · show ((((fa.all fun f => f.ok (frT h.get? (asD h.get? n))) && ex (frT h.get? (asD h.get? n))) && fn.all fun d => d.ok (frT h.get? (asD h.get? n))), fn.map fun d => fnW (frT h.get? (asD h.get? n)) d.at_) = (true, fn.map DefD.val)
    rw [h3, h5, h2, e2] <;> rfl
  · obtain ⟨_, o, q, z⟩ := key p hp
    exact frT_none q z
  · obtain ⟨_, o, q, z⟩ := key p hp
    rw [q, emptyTab_eq z]
def hookL (n : Nat) (fa : List Fa) (ex : PySem.W.Frag → Bool) (fn : List DefD) (tf : List Defn) : PySem.W.Hook where
  α := AlD
  obs := fun s => obsLG n fa ex fn tf s.heap.get?
  val := fun _ => valD fn
  says := fun _ h => ∃ K : PySem.W.Frag, K.In h ∧ SaysL fa ex fn tf h K
  of := fun _ _ e => ⟨_, frT_in, saysL_of e⟩
  keeps := fun _ _ _ ⟨K, hK, c⟩ k => ⟨K, PySem.W.Frag.In.keeps hK k, ⟨c.b, c.hd, c.out, fun p hp => k _ _ (c.empty p hp), c.nd⟩⟩
theorem obsLG_eq {n : Nat} {fa : List Fa} {ex : PySem.W.Frag → Bool} {fn : List DefD} {tf : List Defn} {g : Addr → Option Obj} {s : Shared} (h : ∀ a, g a = s.heap.get? a) : obsLG n fa ex fn tf g = (hookL n fa ex fn tf).obs s := by
  have e : g = s.heap.get? := funext h
  rw [e] <;> rfl
theorem law_atL {l : PySem.W.OpenLaw} {w : World} {K : PySem.W.Frag} {CX : CXT} {k n : Nat} {x : Str} {mg : Str → Option Value} {fa : Addr} {h : Heap} {fs : List Fa} {ex : PySem.W.Frag → Bool} {fn : List DefD} {tf : List Defn} {fd : FuncData} {S : SpF} (hT : Tb.T = tabT tf K) (KX : K.In h) (c : SaysL fs ex fn tf h K)
    (hb : ∀ (s : Shared) (v : Value), BindsTo s fd ⟨[v], []⟩ [(x, v)]) (hS : ∀ ns : List Int, ns.length ≤ n → (∀ z ∈ ns, Builtin.Int.intBits z ≤ 1048576) → S [.fz ns] (fun d => d = .bl true) fun _ => False)
    (hF : ∀ base : Heap, TabF tf K base mg → FnOk l.prog w K mg base CX k fa fd [x] (spD K S)) : LamX.LawAtS l w K CX k n x mg fa h := by
  refine ⟨fd, tf.map (cT K), spD K S, fun p hp => ?_, fun p hp => ?_, fun p hp => ?_, hb, fun H a ns hl hbits hH hSq => ?_, fun base _ _ tb => hF base ⟨hT, c.nd, tb⟩⟩
  · obtain ⟨q, hq, rfl⟩ := List.mem_map.mp hp
    exact c.empty q hq
  · obtain ⟨q, hq, rfl⟩ := List.mem_map.mp hp
    exact c.out q hq
  · obtain ⟨q, hq, rfl⟩ := List.mem_map.mp hp
    exact PySem.W.codeHd_of_K KX (c.hd q hq)
  · refine law_sp (fun r hr => ?_) hSq (hS ns hl hbits)
    rw [hT] at hr
    obtain ⟨q, hq, rfl⟩ := List.mem_map.mp hr
    exact LamX.TabS.nil (hH _ (List.mem_map.mpr ⟨q, hq, rfl⟩))
end Px

namespace Px
variable [Tb]
/-! ### rows made lesser: Gauss -/
abbrev Mat := Nat → Nat → Int
structure Pr (p : Int) (M : Mat) (n q : Nat) (R : Mat) : Prop where
  rest : ∀ i k, 0 ≤ R i k ∧ R i k < p
  wt : ∀ i, i < n → ∀ c, c ≤ q → Eqv p (R i c) (sumN n fun k => R i (q + 1 + k) * M k c)
  sol : ∀ x : Nat → Int, (∀ i, i < n → Eqv p (sumN (q + 1) fun c => R i c * x c) 0) → ∀ i, i < n → Eqv p (sumN (q + 1) fun c => M i c * x c) 0
def mSwap (d a : Nat) (R : Mat) : Mat := fun i k => if i = d then R a k else if i = a then R d k else R i k
def mScale (p : Int) (d : Nat) (b : Int) (R : Mat) : Mat := fun i k => if i = d then R d k * b % p else R i k
/-- the first m rows made lesser by the row d at the column col -/
def mLess (p : Int) (d col m : Nat) (R : Mat) : Mat := fun i k => if i ≠ d ∧ i < m then (R i k - R i col * R d k) % p else R i k
section
variable {p : Int} {M R : Mat} {n q d a col : Nat}
theorem Pr.swap (h : Pr p M n q R) (hd : d < n) (ha : a < n) : Pr p M n q (mSwap d a R) := by
  refine ⟨fun i k => ?_, fun i hi c hc => ?_, fun x hx => h.sol x fun i hi => ?_⟩
  · unfold mSwap
    split
    · exact h.rest _ _
    · split
      · exact h.rest _ _
      · exact h.rest _ _
  · unfold mSwap
    by_cases h1 : i = d
    · simp only [if_pos h1]
      exact h.wt a ha c hc
    · simp only [if_neg h1]
      by_cases h2 : i = a
      · simp only [if_pos h2]
        exact h.wt d hd c hc
      · simp only [if_neg h2]
        exact h.wt i hi c hc
  · by_cases h1 : i = a
    · have := hx d hd
      unfold mSwap at this
      simp only [if_true] at this
      rw [h1]
      exact this
    · by_cases h2 : i = d
      · have := hx a ha
        unfold mSwap at this
        rw [h2]
        by_cases h3 : a = d
        · simp only [if_pos h3] at this
          rw [h3] at this
          exact this
        · simp only [if_neg h3, if_true] at this
          exact this
      · have := hx i hi
        unfold mSwap at this
        simp only [if_neg h1, if_neg h2] at this
        exact this
theorem Pr.scale (h : Pr p M n q R) (hp : 0 < p) (hd : d < n) {b u : Int} (hb : Eqv p (b * u) 1) : Pr p M n q (mScale p d b R) := by
  refine ⟨fun i k => ?_, fun i hi c hc => ?_, fun x hx => h.sol x fun i hi => ?_⟩
  · unfold mScale
    split
    · exact mod_rest hp
    · exact h.rest _ _
  · unfold mScale
    by_cases h1 : i = d
    · simp only [if_pos h1]
      have e1 := h.wt d hd c hc
      have e2 : Eqv p (R d c * b) (sumN n fun k => R d (q + 1 + k) * M k c * b) := by
        rw [sumN_mulR]
        exact Eqv.mul e1 Eqv.refl
      refine Eqv.trans Eqv.mod (e2.trans (Eqv.sum fun k _ => ?_))
      rw [Int.mul_right_comm]
      exact Eqv.mul Eqv.mod.symm Eqv.refl
    · simp only [if_neg h1]
      exact h.wt i hi c hc
  · by_cases h1 : i = d
    · subst h1
      have e1 := hx i hi
      unfold mScale at e1
      simp only [if_true] at e1
      have e2 : Eqv p (sumN (q + 1) fun c => R i c * b % p * x c) (b * sumN (q + 1) fun c => R i c * x c) := by
        rw [← sumN_mul]
        refine Eqv.sum fun c _ => ?_
        rw [← Int.mul_assoc, Int.mul_comm b]
        exact Eqv.mul Eqv.mod Eqv.refl
      have e3 : Eqv p (u * (b * sumN (q + 1) fun c => R i c * x c)) (u * 0) := Eqv.mul Eqv.refl (e2.symm.trans e1)
      rw [Int.mul_zero, ← Int.mul_assoc, Int.mul_comm u b] at e3
      refine Eqv.trans ?_ e3
      have := Eqv.mul hb.symm (Eqv.refl (p := p) (a := sumN (q + 1) fun c => R i c * x c))
      rw [Int.one_mul] at this
      exact this
    · have e1 := hx i hi
      unfold mScale at e1
      simp only [if_neg h1] at e1
      exact e1
theorem Pr.less (h : Pr p M n q R) (hp : 0 < p) (hd : d < n) (m : Nat) : Pr p M n q (mLess p d col m R) := by
  refine ⟨fun i k => ?_, fun i hi c hc => ?_, fun x hx => h.sol x fun i hi => ?_⟩
  · unfold mLess
    split
    · exact mod_rest hp
    · exact h.rest _ _
  · unfold mLess
    by_cases h1 : i ≠ d ∧ i < m
    · simp only [if_pos h1]
      refine Eqv.trans Eqv.mod ((Eqv.sub (h.wt i hi c hc) (Eqv.mul Eqv.refl (h.wt d hd c hc))).trans ?_)
      rw [← sumN_mul, ← sumN_sub]
      refine Eqv.sum fun k _ => ?_
      rw [← Int.mul_assoc, ← Int.sub_mul]
      exact Eqv.mul Eqv.mod.symm Eqv.refl
    · simp only [if_neg h1]
      exact h.wt i hi c hc
  · have ed : Eqv p (sumN (q + 1) fun c => R d c * x c) 0 := by
      have := hx d hd
      unfold mLess at this
      simp only [if_neg (show ¬ (d ≠ d ∧ d < m) from fun z => z.1 rfl)] at this
      exact this
    have e1 := hx i hi
    unfold mLess at e1
    by_cases h1 : i ≠ d ∧ i < m
    · simp only [if_pos h1] at e1
      have e2 : Eqv p (sumN (q + 1) fun c => (R i c - R i col * R d c) % p * x c) ((sumN (q + 1) fun c => R i c * x c) - R i col * sumN (q + 1) fun c => R d c * x c) := by
        rw [← sumN_mul, ← sumN_sub]
        refine Eqv.sum fun c _ => ?_
        rw [← Int.mul_assoc, ← Int.sub_mul]
        exact Eqv.mul Eqv.mod Eqv.refl
      have e3 := e2.symm.trans e1
      have e4 : Eqv p (R i col * sumN (q + 1) fun c => R d c * x c) (R i col * 0) := Eqv.mul Eqv.refl ed
      rw [Int.mul_zero] at e4
      have e5 := Eqv.add e3 e4
      rw [Int.sub_add_cancel, Int.add_zero] at e5
      exact e5
    · simp only [if_neg h1] at e1
      exact e1
end
/-- a lead's row: 1 there, 0 in all other rows -/
structure El (p : Int) (M : Mat) (n q col : Nat) (leads : List Nat) (R : Mat) : Prop where
  pr : Pr p M n q R
  len : leads.length ≤ n
  lead : ∀ (i c : Nat), leads[i]? = some c → c < col ∧ R i c = 1 ∧ ∀ j, j < n → j ≠ i → R j c = 0
  low : ∀ j, leads.length ≤ j → j < n → ∀ c, c < col → R j c = 0
section
variable {p : Int} {M R : Mat} {n q col : Nat} {leads : List Nat}
theorem El.skip (h : El p M n q col leads R) (hz : ∀ j, leads.length ≤ j → j < n → R j col = 0) : El p M n q (col + 1) leads R :=
  ⟨h.pr, h.len, fun i c e => by
    obtain ⟨h1, h2⟩ := h.lead i c e
    exact ⟨by omega, h2⟩, fun j h1 h2 c hc => by
    by_cases e : c = col
    · rw [e]
      exact hz j h1 h2
    · exact h.low j h1 h2 c (by omega)⟩
theorem El.step (h : El p M n q col leads R) (hp : p ∈ primesL) {a : Nat} (h1 : leads.length ≤ a) (h2 : a < n) (h3 : R a col ≠ 0) :
    El p M n q (col + 1) (leads ++ [col]) (mLess p leads.length col n (mScale p leads.length (inv p (R a col)) (mSwap leads.length a R))) := by
  have hb := prime_bd hp
  obtain ⟨d, hd⟩ : ∃ d, d = leads.length := ⟨_, rfl⟩
  rw [← hd] at h1 ⊢
  have hdn : d < n := by omega
  have r0 := h.pr.rest a col
  have hi : R a col * inv p (R a col) % p = 1 := inv_mul hp (by omega) r0.2
  have e1 : (1 : Int) % p = 1 := Int.emod_eq_of_lt (by omega) (by omega)
  have pS := h.pr.swap hdn h2
  have pC := pS.scale (b := inv p (R a col)) (u := R a col) (by omega) hdn (by
    show _ % p = _ % p
    rw [Int.mul_comm, hi, e1])
  -- columns ahead
  have old : ∀ c, c < col → ∀ i, mScale p d (inv p (R a col)) (mSwap d a R) i c = R i c := fun c hc i => by
    have zd := h.low d (by omega) hdn c hc
    have za := h.low a (by omega) h2 c hc
    unfold mScale mSwap
    by_cases y : i = d
    · rw [if_pos y, if_pos rfl, y, zd, za, Int.zero_mul, Int.zero_emod]
    · rw [if_neg y, if_neg y]
      by_cases y2 : i = a
      · rw [if_pos y2, y2, zd, za]
      · rw [if_neg y2]
  have sd : ∀ c, c < col → mScale p d (inv p (R a col)) (mSwap d a R) d c = 0 := fun c hc => by
    rw [old c hc]
    exact h.low d (by omega) hdn c hc
  have scol : mScale p d (inv p (R a col)) (mSwap d a R) d col = 1 := by
    unfold mScale mSwap
    rw [if_pos rfl, if_pos rfl, hi]
  generalize mScale p d (inv p (R a col)) (mSwap d a R) = S at pC old sd scol
  have pL := pC.less (col := col) (by omega) hdn n
  have keep : ∀ c, c < col → ∀ i, mLess p d col n S i c = R i c := fun c hc i => by
    unfold mLess
    by_cases y : i ≠ d ∧ i < n
    · have rr := h.pr.rest i c
      rw [if_pos y, sd c hc, Int.mul_zero, Int.sub_zero, old c hc, Int.emod_eq_of_lt rr.1 rr.2]
    · rw [if_neg y, old c hc]
  have at_d : mLess p d col n S d col = 1 := by
    unfold mLess
    rw [if_neg (fun z => z.1 rfl), scol]
  have off : ∀ j, j < n → j ≠ d → mLess p d col n S j col = 0 := fun j hj hne => by
    unfold mLess
    rw [if_pos ⟨hne, hj⟩, scol, Int.mul_one, Int.sub_self, Int.zero_emod]
  refine ⟨pL, by rw [List.length_append, List.length_singleton]; omega, fun i c e => ?_, fun j hj1 hj2 c hc => ?_⟩
  · by_cases y : i < leads.length
    · rw [List.getElem?_append_left y] at e
      obtain ⟨g1, g2, g3⟩ := h.lead i c e
      exact ⟨by omega, by rw [keep c g1]; exact g2, fun j hj hne => by rw [keep c g1]; exact g3 j hj hne⟩
    · rw [List.getElem?_append_right (by omega)] at e
      have ei : i = leads.length := by
        by_cases y2 : i = leads.length
        · exact y2
        · rw [List.getElem?_eq_none (by rw [List.length_singleton]; omega)] at e
          cases e
      rw [ei, Nat.sub_self] at e
      have ec : col = c := Option.some.inj e
      subst ec
      rw [← hd] at ei
      rw [ei]
      exact ⟨by omega, at_d, off⟩
  · rw [List.length_append, List.length_singleton] at hj1
    by_cases y : c = col
    · rw [y]
      exact off j hj2 (by omega)
    · rw [keep c (by omega)]
      exact h.low j (by omega) hj2 c (by omega)
/-! the end -/
theorem El.barred (h : El p M n q q leads R) {j : Nat} (h1 : leads.length ≤ j) (h2 : j < n) (h3 : R j q ≠ 0) :
    (∀ c, c < q → Eqv p (sumN n fun k => R j (q + 1 + k) * M k c) 0) ∧ ¬ Eqv p (sumN n fun k => R j (q + 1 + k) * M k q) 0 := by
  have rr := h.pr.rest j q
  refine ⟨fun c hc => ?_, fun z => ?_⟩
  · have := h.pr.wt j h2 c (by omega)
    rw [h.low j h1 h2 c hc] at this
    exact this.symm
  · have := (h.pr.wt j h2 q (by omega)).trans z
    exact h3 (Eqv.iff rr (by omega) this)
def tapsF (R : Mat) (q : Nat) (leads : List Nat) : Nat → Nat → Int
  | 0, _ => 0
  | m + 1, c => if leads[m]? = some c then R m q else tapsF R q leads m c
theorem El.only (h : El p M n q col leads R) {i j c : Nat} (hi : leads[i]? = some c) (hj : leads[j]? = some c) : i = j := by
  by_cases e : j = i
  · exact e.symm
  · have hjl := (List.getElem?_eq_some_iff.mp hj).1
    have l := h.len
    have := (h.lead i c hi).2.2 j (by omega) e
    rw [(h.lead j c hj).2.1] at this
    cases this
theorem El.taps_at (h : El p M n q col leads R) {i c : Nat} (hi : leads[i]? = some c) : ∀ m, i < m → tapsF R q leads m c = R i q
  | 0, hm => by omega
  | m + 1, hm => by
    unfold tapsF
    by_cases e : leads[m]? = some c
    · rw [if_pos e, h.only hi e]
    · rw [if_neg e]
      refine El.taps_at h hi m ?_
      by_cases y : i = m
      · rw [y] at hi
        exact absurd hi e
      · omega
theorem taps_no {c : Nat} (h : ∀ i : Nat, leads[i]? ≠ some c) : ∀ m, tapsF R q leads m c = 0
  | 0 => rfl
  | m + 1 => by
    unfold tapsF
    rw [if_neg (h m)]
    exact taps_no h m
theorem taps_rest (hp : 0 < p) (h : ∀ i k, 0 ≤ R i k ∧ R i k < p) (c : Nat) : ∀ m, 0 ≤ tapsF R q leads m c ∧ tapsF R q leads m c < p
  | 0 => ⟨Int.le_refl 0, hp⟩
  | m + 1 => by
    unfold tapsF
    split
    · exact h _ _
    · exact taps_rest hp h c m
theorem El.ruled (h : El p M n q q leads R) (hz : ∀ j, leads.length ≤ j → j < n → R j q = 0) (k : Nat) (hk : k < n) :
    Eqv p (sumN q fun c => tapsF R q leads leads.length c * M k c) (M k q) := by
  have hs := h.pr.sol (fun c => if c = q then -1 else tapsF R q leads leads.length c) (fun i hi => ?_) k hk
  · rw [sumN_succ, if_pos rfl] at hs
    have e : sumN q (fun c => M k c * if c = q then -1 else tapsF R q leads leads.length c) = sumN q fun c => tapsF R q leads leads.length c * M k c := sumN_congr fun c hc => by
      rw [if_neg (by omega), Int.mul_comm]
    rw [e] at hs
    have := Eqv.add hs (Eqv.refl (p := p) (a := M k q))
    rw [Int.zero_add, Int.mul_neg, Int.mul_one, Int.neg_add_cancel_right] at this
    exact this
  · rw [sumN_succ, if_pos rfl]
    by_cases hl : i < leads.length
    · have hc := List.getElem?_eq_getElem hl
      generalize leads[i] = c0 at hc
      obtain ⟨g1, g2, g3⟩ := h.lead i c0 hc
      have e : sumN q (fun c => R i c * if c = q then -1 else tapsF R q leads leads.length c) = sumN q fun c => if c = c0 then R i q else 0 := sumN_congr fun c hcq => by
        rw [if_neg (by omega)]
        by_cases y : c = c0
        · rw [if_pos y, y, g2, Int.one_mul, h.taps_at hc _ hl]
        · rw [if_neg y]
          by_cases y2 : ∃ j : Nat, leads[j]? = some c
          · obtain ⟨j, hj⟩ := y2
            have := (h.lead j c hj).2.2 i hi (fun z => by
              rw [z, hj] at hc
              exact y (Option.some.inj hc))
            rw [this, Int.zero_mul]
          · rw [taps_no (fun i hi => y2 ⟨i, hi⟩), Int.mul_zero]
      rw [e, sumN_one g1 (fun _ => R i q)]
      refine Eqv.of ?_
      omega
    · rw [hz i (by omega) hi, sumN_zeros q fun c hc => by rw [h.low i (by omega) hi c hc, Int.zero_mul]]
      exact Eqv.of (by omega)
/-- weights that bar leave no taps -/
theorem bar_no {p : Int} {n q : Nat} {M : Mat} {w t : Nat → Int} (ht : ∀ k, k < n → Eqv p (sumN q fun c => t c * M k c) (M k q)) (hw : ∀ c, c < q → Eqv p (sumN n fun k => w k * M k c) 0) : Eqv p (sumN n fun k => w k * M k q) 0 := by
  have e1 : Eqv p (sumN n fun k => w k * M k q) (sumN n fun k => w k * sumN q fun c => t c * M k c) := Eqv.sum fun k hk => Eqv.mul Eqv.refl (ht k hk).symm
  have e2 : (sumN n fun k => w k * sumN q fun c => t c * M k c) = sumN q fun c => t c * sumN n fun k => w k * M k c := by
    have : ∀ k, (w k * sumN q fun c => t c * M k c) = sumN q fun c => t c * (w k * M k c) := fun k => by
      rw [← sumN_mul]
      exact sumN_congr fun c _ => Int.mul_left_comm _ _ _
    rw [sumN_congr fun k _ => this k, sumN_swap]
    exact sumN_congr fun c _ => sumN_mul n _ _
  rw [e2] at e1
  refine e1.trans (Eqv.trans (Eqv.sum fun c hc => Eqv.mul (Eqv.refl (a := t c)) (hw c hc)) ?_)
  rw [sumN_zeros q fun c _ => Int.mul_zero _]
  exact Eqv.refl
end
end Px

namespace Px
variable [Tb]
/-! ### rows put in one another -/
def cpF (f g : Nat → Int) (k : Nat) : Int := sumN (k + 1) fun j => f j * pwf g j k
def xF : Nat → Int := fun k => if k = 1 then 1 else 0
theorem pwf_congr {p : Int} {g g' : Nat → Int} : ∀ (n : Nat) {k : Nat}, (∀ i, i ≤ k → Eqv p (g i) (g' i)) → Eqv p (pwf g n k) (pwf g' n k)
  | 0, _, _ => Eqv.refl
  | n + 1, k, h => cv_congr (fun i hi => pwf_congr n fun j hj => h j (by omega)) fun i hi => h i hi
theorem pwf_same {g g' : Nat → Int} : ∀ (n : Nat) {k : Nat}, (∀ i, i ≤ k → g i = g' i) → pwf g n k = pwf g' n k
  | 0, _, _ => rfl
  | n + 1, k, h => by
    show cv (pwf g n) g k = cv (pwf g' n) g' k
    unfold cv
    exact sumN_congr fun i hi => by rw [pwf_same n fun j hj => h j (by omega), h (k - i) (by omega)]
theorem pwf_low {g : Nat → Int} (g0 : g 0 = 0) : ∀ {n k : Nat}, k < n → pwf g n k = 0
  | 0, _, h => by omega
  | n + 1, k, h => by
    show cv (pwf g n) g k = 0
    refine sumN_zeros _ fun i hi => ?_
    by_cases e : i = k
    · rw [e, Nat.sub_self, g0, Int.mul_zero]
    · rw [pwf_low g0 (by omega), Int.zero_mul]
theorem pwf_one (g : Nat → Int) : pwf g 1 = g := cv_oneF g
theorem pwf_add (g : Nat → Int) (i : Nat) : ∀ j, pwf g (i + j) = cv (pwf g i) (pwf g j)
  | 0 => funext fun k => by
    show pwf g i k = cv (pwf g i) oneF k
    rw [cv_comm, cv_oneF]
  | j + 1 => funext fun k => by
    show cv (pwf g (i + j)) g k = cv (pwf g i) (cv (pwf g j) g) k
    rw [pwf_add g i j, cv_assoc]
theorem cp_more {f g : Nat → Int} (g0 : g 0 = 0) {k N : Nat} (h : k < N) : (sumN N fun j => f j * pwf g j k) = cpF f g k :=
  sumN_more (by omega) fun i h1 _ => by rw [pwf_low g0 (by omega), Int.mul_zero]
theorem cp_congr {p : Int} {f f' g g' : Nat → Int} {k : Nat} (h : ∀ i, i ≤ k → Eqv p (f i) (f' i)) (h' : ∀ i, i ≤ k → Eqv p (g i) (g' i)) : Eqv p (cpF f g k) (cpF f' g' k) :=
  Eqv.sum fun i hi => (h i (by omega)).mul (pwf_congr i h')
/-- Σ Σ over a square, 0 behind the diagonal -/
theorem sum_diag (N : Nat) (F : Nat → Nat → Int) (hF : ∀ i j, N ≤ i + j → F i j = 0) : (sumN N fun i => sumN N fun j => F i j) = sumN N fun n => sumN (n + 1) fun i => F i (n - i) := by
  have e1 : ∀ i, i < N → (sumN N fun j => F i j) = sumN N fun n => if i ≤ n then F i (n - i) else 0 := fun i hi => by
    rw [sumN_from i, sumN_more (show N - i ≤ N by omega) fun j h1 _ => hF i j (by omega)]
    exact sumN_congr fun j hj => by rw [show i + j - i = j by omega]
  rw [sumN_congr e1, sumN_swap]
  refine sumN_congr fun n hn => ?_
  rw [← sumN_to (show n + 1 ≤ N by omega)]
  refine sumN_congr fun i hi => ?_
  by_cases z : i ≤ n
  · rw [if_pos z, if_pos (by omega)]
  · rw [if_neg z, if_neg (by omega)]
theorem cp_mul {a b h : Nat → Int} (h0 : h 0 = 0) (k : Nat) : cpF (cv a b) h k = cv (cpF a h) (cpF b h) k := by
  have eR : cv (cpF a h) (cpF b h) k = sumN (k + 1) fun i => sumN (k + 1) fun j => a i * b j * pwf h (i + j) k := by
    unfold cv
    have e1 : ∀ s, s < k + 1 → cpF a h s * cpF b h (k - s) = sumN (k + 1) fun i => sumN (k + 1) fun j => a i * b j * (pwf h i s * pwf h j (k - s)) := fun s hs => by
      rw [← cp_more h0 (show s < k + 1 by omega), ← cp_more h0 (show k - s < k + 1 by omega), ← sumN_mulR]
      refine sumN_congr fun i _ => ?_
      rw [← sumN_mul]
      refine sumN_congr fun j _ => ?_
      rw [Int.mul_assoc, Int.mul_assoc, Int.mul_left_comm (pwf h i s)]
    rw [sumN_congr e1, sumN_swap]
    refine sumN_congr fun i _ => ?_
    rw [sumN_swap]
    refine sumN_congr fun j _ => ?_
    rw [sumN_mul, pwf_add]
    rfl
  rw [eR, sum_diag (k + 1) _ fun i j hij => by rw [pwf_low h0 (by omega), Int.mul_zero]]
  unfold cpF
  refine sumN_congr fun n hn => ?_
  unfold cv
  rw [← sumN_mulR]
  refine sumN_congr fun i hi => ?_
  rw [show i + (n - i) = n by omega]
theorem cp_oneF (h : Nat → Int) (k : Nat) : cpF oneF h k = oneF k := by
  unfold cpF
  rw [sumN_first, sumN_zeros k fun i _ => by
    show (if i + 1 = 0 then (1 : Int) else 0) * _ = 0
    rw [if_neg (by omega), Int.zero_mul]]
  show (1 : Int) * oneF k + 0 = oneF k
  rw [Int.one_mul, Int.add_zero]
theorem cp_pw {f h : Nat → Int} (h0 : h 0 = 0) : ∀ n, cpF (pwf f n) h = pwf (cpF f h) n
  | 0 => funext fun k => cp_oneF h k
  | n + 1 => funext fun k => by
    show cpF (cv (pwf f n) f) h k = cv (pwf (cpF f h) n) (cpF f h) k
    rw [cp_mul h0, cp_pw h0 n]
theorem cp_zero {f g : Nat → Int} (f0 : f 0 = 0) : cpF f g 0 = 0 := by
  unfold cpF
  rw [sumN_succ, sumN_zero, f0, Int.zero_mul] <;> rfl
theorem cp_assoc {f g h : Nat → Int} (g0 : g 0 = 0) (h0 : h 0 = 0) (k : Nat) : cpF (cpF f g) h k = cpF f (cpF g h) k := by
  have e1 : cpF (cpF f g) h k = sumN (k + 1) fun j => sumN (k + 1) fun i => f i * (pwf g i j * pwf h j k) := by
    show (sumN (k + 1) fun j => cpF f g j * pwf h j k) = _
    refine sumN_congr fun j hj => ?_
    rw [← cp_more g0 (show j < k + 1 by omega), ← sumN_mulR]
    exact sumN_congr fun i _ => Int.mul_assoc _ _ _
  rw [e1, sumN_swap]
  show _ = sumN (k + 1) fun i => f i * pwf (cpF g h) i k
  refine sumN_congr fun i _ => ?_
  rw [sumN_mul, ← cp_pw h0]
  rfl
theorem cp_xL {g : Nat → Int} (g0 : g 0 = 0) (k : Nat) : cpF xF g k = g k := by
  rw [← cp_more g0 (show k < k + 2 by omega)]
  have e : (sumN (k + 2) fun j => xF j * pwf g j k) = sumN (k + 2) fun j => if j = 1 then pwf g j k else 0 := sumN_congr fun j _ => by
    unfold xF
    by_cases z : j = 1
    · rw [if_pos z, if_pos z, Int.one_mul]
    · rw [if_neg z, if_neg z, Int.zero_mul]
  rw [e, sumN_one (by omega) fun j => pwf g j k, pwf_one]
theorem pwf_x (n k : Nat) : pwf xF n k = if k = n then 1 else 0 := by
  have e : xF = mono 1 1 := rfl
  rw [e, pwf_mono, Int.one_pow, Nat.one_mul] <;> rfl
theorem cp_xR (f : Nat → Int) (k : Nat) : cpF f xF k = f k := by
  have e : cpF f xF k = sumN (k + 1) fun j => if j = k then f j else 0 := sumN_congr fun j _ => by
    rw [pwf_x]
    by_cases z : j = k
    · rw [if_pos z, if_pos z.symm, Int.mul_one]
    · rw [if_neg z, if_neg (fun y => z y.symm), Int.mul_zero]
  rw [e, sumN_one (by omega) f]
/-! Horner -/
def hF (f g : Nat → Int) (N s k : Nat) : Int := sumN s fun j => f (N - s + j) * pwf g j k
theorem hF_step (f g : Nat → Int) {N s : Nat} (h : s < N) (k : Nat) : hF f g N (s + 1) k = cv (hF f g N s) g k + f (N - (s + 1)) * oneF k := by
  have e : cv (hF f g N s) g k = sumN s fun j => f (N - s + j) * cv (pwf g j) g k := cv_sumL g k
  rw [e]
  unfold hF
  rw [sumN_first, Int.add_comm, Nat.add_zero]
  congr 1
  refine sumN_congr fun j hj => ?_
  rw [show N - (s + 1) + (j + 1) = N - s + j by omega] <;> rfl
theorem hF_all {f g : Nat → Int} (g0 : g 0 = 0) {N k : Nat} (h : k < N) : hF f g N N k = cpF f g k := by
  rw [← cp_more g0 h]
  unfold hF
  exact sumN_congr fun j _ => by rw [show N - N + j = j by omega]
/-! ### turned inside out -/
/-- the places below n -/
def toF (p b : Int) (f : Nat → Int) : Nat → Nat → Int
  | 0 => fun k => if k = 1 then b else 0
  | n + 1 => fun k => if k = n + 2 then -(cpF f (toF p b f n) (n + 2) % p) * b % p else toF p b f n k
theorem to_low (p b : Int) (f : Nat → Int) : ∀ n, toF p b f n 0 = 0 ∧ toF p b f n 1 = b ∧ ∀ k, n + 2 ≤ k → toF p b f n k = 0
  | 0 => ⟨rfl, rfl, fun k hk => if_neg (by omega)⟩
  | n + 1 => by
    obtain ⟨h1, h2, h3⟩ := to_low p b f n
    refine ⟨?_, ?_, fun k hk => ?_⟩
    · unfold toF
      rw [if_neg (by omega), h1]
    · unfold toF
      rw [if_neg (by omega), h2]
    · unfold toF
      rw [if_neg (by omega), h3 k (by omega)]
theorem to_rest {p b : Int} {f : Nat → Int} (hp : 0 < p) (hb : 0 ≤ b ∧ b < p) : ∀ n k, 0 ≤ toF p b f n k ∧ toF p b f n k < p
  | 0, k => by
    show 0 ≤ (if k = 1 then b else 0) ∧ (if k = 1 then b else 0) < p
    split
    · exact hb
    · exact ⟨Int.le_refl 0, hp⟩
  | n + 1, k => by
    unfold toF
    split
    · exact mod_rest hp
    · exact to_rest hp hb n k
theorem cp_bump {f g g' : Nat → Int} {n : Nat} {c : Int} (hn : 1 ≤ n) (g0 : g 0 = 0) (gn : g n = 0) (h : ∀ k, k < n → g' k = g k) (hc : g' n = c) : cpF f g' n = cpF f g n + f 1 * c := by
  have g0' : g' 0 = 0 := by rw [h 0 (by omega), g0]
  have e : ∀ j, j < n + 1 → f j * pwf g' j n = f j * pwf g j n + if j = 1 then f 1 * c else 0 := fun j hj => by
    match j with
    | 0 => rw [if_neg (by omega), Int.add_zero] <;> rfl
    | 1 => rw [if_pos rfl, pwf_one, pwf_one, hc, gn, Int.mul_zero, Int.zero_add]
    | m + 2 =>
      rw [if_neg (by omega), Int.add_zero]
      congr 1
      show cv (pwf g' (m + 1)) g' n = cv (pwf g (m + 1)) g n
      unfold cv
      refine sumN_congr fun a ha => ?_
      by_cases z : a = 0
      · rw [z, pwf_low g0' (by omega), pwf_low g0 (by omega), Int.zero_mul, Int.zero_mul]
      · by_cases z2 : a = n
        · rw [z2, Nat.sub_self, g0, g0', Int.mul_zero, Int.mul_zero]
        · rw [pwf_same (m + 1) fun i hi => h i (by omega), h (n - a) (by omega)]
  unfold cpF
  rw [sumN_congr e, sumN_add, sumN_one (show 1 < n + 1 by omega) fun _ => f 1 * c]
theorem to_in {p b : Int} {f : Nat → Int} (f0 : f 0 = 0) (hb : Eqv p (f 1 * b) 1) : ∀ n k, k < n + 2 → Eqv p (cpF f (toF p b f n) k) (xF k)
  | 0, 0, _ => Eqv.of (cp_zero f0)
  | 0, 1, _ => by
    have e : cpF f (toF p b f 0) 1 = f 0 * oneF 1 + f 1 * b := by
      unfold cpF
      rw [sumN_succ, sumN_succ, sumN_zero, pwf_one, Int.zero_add] <;> rfl
    rw [e, f0, Int.zero_mul, Int.zero_add]
    exact hb
  | 0, k + 2, h => by omega
  | n + 1, k, h => by
    obtain ⟨l1, l2, l3⟩ := to_low p b f n
    by_cases z : k = n + 2
    · subst z
      have e := cp_bump (f := f) (g := toF p b f n) (g' := toF p b f (n + 1)) (n := n + 2) (c := -(cpF f (toF p b f n) (n + 2) % p) * b % p) (by omega) l1 (l3 _ (by omega)) (fun k hk => if_neg (by omega)) (if_pos rfl)
      rw [e]
      have e2 : xF (n + 2) = 0 := if_neg (by omega)
      rw [e2]
      have e3 : Eqv p (f 1 * (-(cpF f (toF p b f n) (n + 2) % p) * b % p)) (-(cpF f (toF p b f n) (n + 2))) := by
        refine (Eqv.mul Eqv.refl Eqv.mod).trans ?_
        rw [show f 1 * (-(cpF f (toF p b f n) (n + 2) % p) * b) = (f 1 * b) * -(cpF f (toF p b f n) (n + 2) % p) by rw [Int.mul_assoc, Int.mul_comm b]]
        refine (Eqv.mul hb (Eqv.neg Eqv.mod)).trans ?_
        rw [Int.one_mul]
        exact Eqv.refl
      refine (Eqv.add Eqv.refl e3).trans (Eqv.of ?_)
      omega
    · refine (cp_congr (fun _ _ => Eqv.refl) fun i hi => Eqv.of ?_).trans (to_in f0 hb n k (by omega))
      exact if_neg (by omega)
/-- turned twice it comes again -/
theorem to_twice {p b b' : Int} {f : Nat → Int} (f0 : f 0 = 0) (hb : Eqv p (f 1 * b) 1) (hb' : Eqv p (b * b') 1) {n k : Nat} (hk : k < n + 2) : Eqv p (toF p b' (toF p b f n) n k) (f k) := by
  obtain ⟨l1, l2, l3⟩ := to_low p b f n
  obtain ⟨m1, m2, m3⟩ := to_low p b' (toF p b f n) n
  have h1 := to_in (p := p) f0 hb n
  have h2 := to_in (p := p) (b := b') (f := toF p b f n) l1 (by rw [l2]; exact hb') n
  generalize toF p b' (toF p b f n) n = h at m1 h2
  generalize toF p b f n = g at l1 h1 h2
  have a1 : Eqv p (cpF f (cpF g h) k) (f k) := by
    have := cp_congr (p := p) (f := f) (f' := f) (g := cpF g h) (g' := xF) (k := k) (fun _ _ => Eqv.refl) fun i hi => h2 i (by omega)
    rw [cp_xR] at this
    exact this
  have a2 : Eqv p (cpF (cpF f g) h k) (h k) := by
    have := cp_congr (p := p) (f := cpF f g) (f' := xF) (g := h) (g' := h) (k := k) (fun i hi => h1 i (by omega)) fun _ _ => Eqv.refl
    rw [cp_xL m1] at this
    exact this
  rw [cp_assoc l1 m1] at a2
  exact a2.symm.trans a1
/-- either way round -/
theorem to_back {p b b' : Int} {f : Nat → Int} (f0 : f 0 = 0) (hb : Eqv p (f 1 * b) 1) (hb' : Eqv p (b * b') 1) {n k : Nat} (hk : k < n + 2) : Eqv p (cpF (toF p b f n) f k) (xF k) := by
  obtain ⟨l1, l2, l3⟩ := to_low p b f n
  have h2 := to_in (p := p) (b := b') (f := toF p b f n) l1 (by rw [l2]; exact hb') n k hk
  refine Eqv.trans (cp_congr (fun _ _ => Eqv.refl) fun i hi => ?_) h2
  exact (to_twice f0 hb hb' (by omega)).symm
/-! ### rows -/
def putL (p : Int) (xs ys : List Int) : List Int := (List.range (min xs.length ys.length)).map fun k => cpF (at0 xs) (at0 ys) k % p
def outL (p : Int) (xs : List Int) : List Int := (List.range xs.length).map (toF p (inv p (at0 xs 1)) (at0 xs) (xs.length - 2))
theorem putL_len (p : Int) (xs ys : List Int) : (putL p xs ys).length = min xs.length ys.length := by
  unfold putL
  rw [List.length_map, List.length_range]
theorem putL_at {p : Int} {xs ys : List Int} {k : Nat} (h : k < min xs.length ys.length) : at0 (putL p xs ys) k = cpF (at0 xs) (at0 ys) k % p := getD_map h
theorem putL_rests {p : Int} {xs ys : List Int} (hp : 0 < p) : Rests p (putL p xs ys) := rests_map fun i _ => mod_rest hp
theorem outL_len (p : Int) (xs : List Int) : (outL p xs).length = xs.length := by
  unfold outL
  rw [List.length_map, List.length_range]
theorem outL_at {p : Int} {xs : List Int} {k : Nat} (h : k < xs.length) : at0 (outL p xs) k = toF p (inv p (at0 xs 1)) (at0 xs) (xs.length - 2) k := getD_map h
/-- can be turned inside out -/
structure OutOk (p : Int) (xs : List Int) : Prop where
  r : Rests p xs
  l : 2 ≤ xs.length
  z : at0 xs 0 = 0
  o : at0 xs 1 ≠ 0
section
variable {p : Int} {xs ys ws : List Int}
theorem OutOk.inv (h : OutOk p xs) (hp : p ∈ primesL) : Eqv p (at0 xs 1 * inv p (at0 xs 1)) 1 ∧ 0 < Px.inv p (at0 xs 1) ∧ Px.inv p (at0 xs 1) < p := by
  have hb := prime_bd hp
  have r : 0 ≤ at0 xs 1 ∧ at0 xs 1 < p := h.r.get (by omega) 1
  have o := h.o
  refine ⟨?_, inv_bd hp (by omega) r.2⟩
  show _ % p = 1 % p
  rw [inv_mul hp (by omega) r.2, Int.emod_eq_of_lt (by omega) (by omega)]
theorem outL_rests (h : OutOk p xs) (hp : p ∈ primesL) : Rests p (outL p xs) := rests_map fun i _ => to_rest (by have := prime_bd hp; omega) (by have := h.inv hp; omega) _ _
theorem outL_ok (h : OutOk p xs) (hp : p ∈ primesL) : OutOk p (outL p xs) := by
  have hl := h.l
  obtain ⟨l1, l2, _⟩ := to_low p (Px.inv p (at0 xs 1)) (at0 xs) (xs.length - 2)
  refine ⟨outL_rests h hp, by rw [outL_len]; exact hl, ?_, ?_⟩
  · rw [outL_at (by omega), l1]
  · rw [outL_at (by omega), l2]
    have := h.inv hp
    omega
theorem plainL_at {m k : Nat} (h : k < m + 2) : at0 ([0, 1] ++ (List.range m).map fun _ => (0 : Int)) k = xF k := by
  match k with
  | 0 => rfl
  | 1 => rfl
  | k + 2 =>
    show at0 ((List.range m).map fun _ => (0 : Int)) k = xF (k + 2)
    rw [show at0 ((List.range m).map fun _ => (0 : Int)) k = 0 from getD_map (by omega)]
    exact (if_neg (by omega)).symm
theorem xF_rest (hp : 1 < p) (k : Nat) : 0 ≤ xF k ∧ xF k < p := by
  unfold xF
  split <;> omega
theorem put_out (h : OutOk p xs) (hp : p ∈ primesL) : putL p xs (outL p xs) = [0, 1] ++ (List.range (xs.length - 2)).map fun _ => (0 : Int) := by
  have hb := prime_bd hp
  have hl := h.l
  refine ext_getD (by rw [putL_len, outL_len, List.length_append, List.length_map, List.length_range]; simp only [List.length_cons, List.length_nil]; omega) fun k hk => ?_
  rw [putL_len, outL_len] at hk
  show at0 _ k = at0 _ k
  rw [putL_at (by rw [outL_len]; exact hk), plainL_at (by omega)]
  refine Eqv.iff (mod_rest (by omega)) (xF_rest (by omega) k) (Eqv.mod.trans ?_)
  refine Eqv.trans (cp_congr (fun _ _ => Eqv.refl) fun i hi => Eqv.of (outL_at (by omega))) (to_in h.z (h.inv hp).1 (xs.length - 2) k (by omega))
theorem out_twice (h : OutOk p xs) (hp : p ∈ primesL) : outL p (outL p xs) = xs := by
  have hb := prime_bd hp
  have hl := h.l
  have h2 := outL_ok h hp
  refine ext_getD (by rw [outL_len, outL_len]) fun k hk => ?_
  rw [outL_len, outL_len] at hk
  show at0 _ k = at0 _ k
  have r2 := outL_rests h2 hp
  refine Eqv.iff (r2.get (by omega) k) (h.r.get (by omega) k) ?_
  have e1 : at0 (outL p xs) 1 = Px.inv p (at0 xs 1) := by
    rw [outL_at (by omega)]
    exact (to_low p _ _ _).2.1
  have hb2 := (h2.inv hp).1
  rw [outL_at (by rw [outL_len]; exact hk), outL_len]
  rw [e1] at hb2 ⊢
  have key := to_twice h.z (h.inv hp).1 hb2 (n := xs.length - 2) (k := k) (by omega)
  refine Eqv.trans (Eqv.of ?_) key
  -- only places below the length are looked at
  have cong : ∀ n, n + 2 ≤ xs.length → ∀ k, toF p (Px.inv p (Px.inv p (at0 xs 1))) (at0 (outL p xs)) n k = toF p (Px.inv p (Px.inv p (at0 xs 1))) (toF p (Px.inv p (at0 xs 1)) (at0 xs) (xs.length - 2)) n k := fun n => by
    induction n with
    | zero => intro _ k; rfl
    | succ n ih =>
      intro hn k
      have ih := ih (by omega)
      show (if k = n + 2 then _ else _) = (if k = n + 2 then _ else _)
      rw [ih k]
      have e : cpF (at0 (outL p xs)) (toF p (Px.inv p (Px.inv p (at0 xs 1))) (at0 (outL p xs)) n) (n + 2) = cpF (toF p (Px.inv p (at0 xs 1)) (at0 xs) (xs.length - 2)) (toF p (Px.inv p (Px.inv p (at0 xs 1))) (toF p (Px.inv p (at0 xs 1)) (at0 xs) (xs.length - 2)) n) (n + 2) := by
        unfold cpF
        refine sumN_congr fun j hj => ?_
        rw [outL_at (by omega), show toF p (Px.inv p (Px.inv p (at0 xs 1))) (at0 (outL p xs)) n = _ from funext ih]
      rw [e]
  exact cong _ (by omega) k
theorem out_put (h : OutOk p xs) (hp : p ∈ primesL) : putL p (outL p xs) xs = [0, 1] ++ (List.range (xs.length - 2)).map fun _ => (0 : Int) := by
  have := put_out (outL_ok h hp) hp
  rw [out_twice h hp, outL_len] at this
  exact this
theorem cp_L0 (hz : at0 ys 0 = 0) (hp : 1 < p) (h : 1 ≤ min xs.length ys.length) (hx : at0 xs 0 = 0) : at0 (putL p xs ys) 0 = 0 := by
  rw [putL_at (by omega), cp_zero hx, Int.zero_emod]
/-- three rows -/
theorem put_assoc (hp : 0 < p) (hy : at0 ys 0 = 0) (hw : at0 ws 0 = 0) {k : Nat} (hk : k < xs.length ∧ k < ys.length ∧ k < ws.length) : at0 (putL p (putL p xs ys) ws) k = at0 (putL p xs (putL p ys ws)) k := by
  rw [putL_at (by rw [putL_len]; omega), putL_at (by rw [putL_len]; omega)]
  have e1 : Eqv p (cpF (at0 (putL p xs ys)) (at0 ws) k) (cpF (cpF (at0 xs) (at0 ys)) (at0 ws) k) := cp_congr (fun i hi => by
    rw [putL_at (by omega)]
    exact Eqv.mod) fun _ _ => Eqv.refl
  have e2 : Eqv p (cpF (at0 xs) (at0 (putL p ys ws)) k) (cpF (at0 xs) (cpF (at0 ys) (at0 ws)) k) := cp_congr (fun _ _ => Eqv.refl) fun i hi => by
    rw [putL_at (by omega)]
    exact Eqv.mod
  rw [cp_assoc hy hw] at e1
  exact e1.trans e2.symm
end
end Px

namespace Px
open PySem PySem.Spec PyProof.Rows L2
variable [Tb]
/-! ### the words: ev finds a value, sd a side condition -/
local macro_rules | `(tactic| walk_at "sd") => `(tactic| first
  | omega
  | assumption
  | rfl
  | exact cmul_l (by omega)
  | exact cmul_r (by omega)
  | exact cmul_at (by assumption) (by omega)
  | exact cmul_atR (by assumption) (by omega)
  | exact cdiv_small (by omega)
  | exact cpow_small (by omega)
  | decide
  | (simp only [List.length_map, List.length_range, List.length_append, List.length_cons, List.length_nil, List.length_replicate, Int.toNat_natCast] at *; omega))
local macro_rules | `(tactic| walk_at "ev") => `(tactic| first
  | exact ev_int
  | exact ev_var rfl
  | exact ev_varM rfl
  | exact ev_varS rfl
  | exact (ev_varM rfl).wkM
  | (with_reducible apply ev_add) <;> walk_at "ev"
  | (with_reducible apply ev_sub) <;> walk_at "ev"
  | (with_reducible apply ev_mul) <;> walk_at "ev"
  | (with_reducible apply ev_mod) <;> walk_at "ev"
  | (with_reducible apply ev_div) <;> walk_at "ev"
  | (with_reducible apply ev_pow) <;> walk_at "ev"
  | (with_reducible apply ev_neg) <;> walk_at "ev"
  | (with_reducible apply ev_lt) <;> walk_at "ev"
  | (with_reducible apply ev_le) <;> walk_at "ev"
  | (with_reducible apply ev_gt) <;> walk_at "ev"
  | (with_reducible apply ev_ge) <;> walk_at "ev"
  | (with_reducible apply ev_eqI) <;> walk_at "ev"
  | (with_reducible apply ev_neI) <;> walk_at "ev"
  | (with_reducible apply ev_eqLi) <;> walk_at "ev"
  | (with_reducible apply ev_neLi) <;> walk_at "ev"
  | (with_reducible apply ev_ixI) <;> walk_at "ev"
  | (with_reducible apply ev_lenI) <;> walk_at "ev"
  | (with_reducible apply ev_len) <;> walk_at "ev"
  | (with_reducible apply ev_min) <;> walk_at "ev"
  | (with_reducible apply ev_max) <;> walk_at "ev"
  | (with_reducible apply ev_abs) <;> walk_at "ev"
  | (with_reducible apply ev_sum) <;> walk_at "ev"
  | (with_reducible apply et_test) <;> walk_at "ev"
  | (with_reducible apply et_B) <;> walk_at "ev"
  | (with_reducible apply et_not) <;> walk_at "ev"
  | exact ev_bl
  | exact ev_non
  | exact ev_str
  | exact ev_ty
  | exact ev_cl
  | (with_reducible apply sto_nw) <;> walk_at "ev"
  | exact ea_nil
  | (with_reducible apply ea_cons) <;> walk_at "ev"
  | walk_at "sd")
local macro_rules | `(tactic| walk_at "is") => `(tactic| (refine' Ev.is ?_ ?_; walk_at "ev"))

/-! ### what is asked of things -/
/-- a thing whose type isinstance tells -/
def Ty (d : D) : Prop := tyN d ≠ "" ∧ ∀ l, d ≠ .fz l
def isInt : D → Bool
  | .int _ => true
  | _ => false
def S_is_whole (K : PySem.W.Frag) : SpF := fun ds R X => ∃ d, ds = [d] ∧ Ty d ∧ R (.bl (isInt d))
theorem len_is_whole {K : PySem.W.Frag} : ∀ ds R X, S_is_whole K ds R X → ds.length = ["thing"].length := by
  rintro _ R X ⟨d, rfl, _⟩
  rfl
@[reducible] def t_is_whole (K : PySem.W.Frag) (W : WX) : TS :=
  (tSeq (tRet (tAndV (tCB (rIsiX K) (tCons (tVar 0) (tCons (tC (.ty "int")) tNil))) (tNotV (tCB (rIsiX K) (tCons (tVar 0) (tCons (tC (.ty "bool")) tNil))))))
    tNext)
theorem kit_int (d : D) (h : Ty d) : ∃ a b, kitB (tyN d) "int" = some a ∧ kitB (tyN d) "bool" = some b ∧ (a && !b) = isInt d := by
  cases d with
  | non => exact ⟨false, false, (by show kitB "NoneType" "int" = _; decide +kernel), (by show kitB "NoneType" "bool" = _; decide +kernel), rfl⟩
  | bl b => exact ⟨true, true, (by show kitB "bool" "int" = _; decide +kernel), (by show kitB "bool" "bool" = _; decide +kernel), rfl⟩
  | int b => exact ⟨true, false, (by show kitB "int" "int" = _; decide +kernel), (by show kitB "int" "bool" = _; decide +kernel), rfl⟩
  | str b => exact ⟨false, false, (by show kitB "str" "int" = _; decide +kernel), (by show kitB "str" "bool" = _; decide +kernel), rfl⟩
  | lst b => exact ⟨false, false, (by show kitB "list" "int" = _; decide +kernel), (by show kitB "list" "bool" = _; decide +kernel), rfl⟩
  | tup b => exact ⟨false, false, (by show kitB "tuple" "int" = _; decide +kernel), (by show kitB "tuple" "bool" = _; decide +kernel), rfl⟩
  | emp => exact ⟨false, false, (by show kitB "dict" "int" = _; decide +kernel), (by show kitB "dict" "bool" = _; decide +kernel), rfl⟩
  | fz l => exact absurd rfl (h.2 l)
  | _ => exact absurd rfl h.1
theorem startS1 (d : D) (n : Nat) : startD (List.replicate (n + 1) "") [d] = argS d :: List.replicate n .no := by
  unfold startD
  simp
theorem rd_argS (d : D) : rd (argS d) = some d := by
  unfold argS
  cases flat d <;> rfl
theorem pure_is_whole {K : PySem.W.Frag} : ∀ W ds R X, S_is_whole K ds R X → SW K W (t_is_whole K W) (startD ["thing"] ds) { nx := fun _ => R .non, rt := R, xc := fun C _ => X C } := by
  rintro W _ R X ⟨d, rfl, hT, r⟩
  show SW K W (t_is_whole K W) [argS d] _
  obtain ⟨a, b, h1, h2, h3⟩ := kit_int d hT
  have hv : Ev K .I (tVar 0) [argS d] d := ev_var (rd_argS d)
  refine q_ret (d := .bl (isInt d)) (Ev.is (ev_andV (c := !b) (ev_isi hv ev_ty h1 hT.1 hT.2) fun _ => ev_notV (ev_isi hv ev_ty h2 hT.1 hT.2)) (by rw [h3])) r
/-- a prime to 97 -/
def primeB : D → Bool
  | .int p => decide (p ∈ primesL)
  | _ => false
def PrimesK (K : PySem.W.Frag) : Prop := ∀ H', SqT K H' (He.ga K "PRIMES") (primesL.map V.int)
def S_asked_prime (K : PySem.W.Frag) : SpF := fun ds R X => ∃ d, ds = [d] ∧ Ty d ∧ PrimesK K ∧ (if primeB d = true then R .non else X (He.ga K "BadPrime"))
theorem len_asked_prime {K : PySem.W.Frag} : ∀ ds R X, S_asked_prime K ds R X → ds.length = ["prime"].length := by
  rintro _ R X ⟨d, rfl, _⟩
  rfl
@[reducible] def t_asked_prime (K : PySem.W.Frag) (W : WX) : TS :=
  (tSeq (tIfS (tOr (tNot (tB (tCallS (spD K (S_is_whole K)) (WE W) (tCons (tVar 0) tNil)))) (tTest (tOp (rIn K true) (tVar 0) (tC (.ref (He.ga K "PRIMES")))))) (tSeq (tRs W (He.ga K "BadPrime"))
    tNext) tNext)
    tNext)
theorem pure_asked_prime {K : PySem.W.Frag} : ∀ W ds R X, S_asked_prime K ds R X → SW K W (t_asked_prime K W) (startD ["prime"] ds) { nx := fun _ => R .non, rt := R, xc := fun C _ => X C } := by
  rintro W _ R X ⟨d, rfl, hT, hK, r⟩
  show SW K W (t_asked_prime K W) [argS d] _
  have hv : Ev K .I (tVar 0) [argS d] d := ev_var (rd_argS d)
  have h1 : EvT K (tNot (tB (tCallS (spD K (S_is_whole K)) (WE W) (tCons (tVar 0) tNil)))) [argS d] (!isInt d) := et_not (et_B (ev_callI (ea_cons hv ea_nil) ⟨d, rfl, hT, rfl⟩))
  have h2 : EvT K _ [argS d] (!isInt d || !primeB d) := et_or h1 fun hi => by
    cases d with
    | int p => exact et_test (ev_ninK hv (ev_kt hK))
    | _ => cases hi
  have e : (!isInt d || !primeB d) = !primeB d := by
    cases d with
    | int p => rfl
    | _ => rfl
  rw [e] at h2
  refine q_when h2 (fun h => ?_) (fun h => ?_)
  · refine q_raise ?_
    rw [if_neg (by intro z; rw [z] at h; cases h)] at r
    exact r
  · rw [if_pos (by cases z : primeB d with | true => rfl | false => rw [z] at h; cases h)] at r
    exact q_nx r
/-- a rest by p -/
def restB (p : Int) : D → Bool
  | .int x => decide (0 ≤ x) && decide (x < p)
  | _ => false
def restsB (p : Int) (d : D) (most : Int) : Bool := match d with
  | .lst l => decide ((l.length : Int) ≤ most) && l.all (restB p)
  | _ => false
def S_are_rests (K : PySem.W.Frag) : SpF := fun ds R X => ∃ p d most, ds = [.int p, d, .int most] ∧ Ty d ∧ (∀ l, d = .lst l → (∀ e ∈ l, Ty e) ∧ l.length ≤ 50000) ∧ R (.bl (restsB p d most))
theorem len_are_rests {K : PySem.W.Frag} : ∀ ds R X, S_are_rests K ds R X → ds.length = ["prime", "thing", "most"].length := by
  rintro _ R X ⟨p, d, most, rfl, _⟩
  rfl
@[reducible] def t_are_rests (K : PySem.W.Frag) (W : WX) : TS :=
  (tSeq (tIfS (tOr (tNot (tB (tCB (rIsiX K) (tCons (tVar 1) (tCons (tC (.ty "list")) tNil))))) (tTest (tOp rGtX (tCB (rLenX K) (tCons (tVar 1) tNil)) (tVar 2)))) (tSeq (tRet (tC (.bl false)))
    tNext) tNext)
    (tSeq (tRet (tCB (rAll K) (tCons (tLc (iList K (tVar 1)) (gName 3) tYes (tAndV (tCallS (spD K (S_is_whole K)) (WE W0) (tCons (tVar 3) tNil)) (tChain rLeX rLtX (tC (.int 0)) (tVar 3) (tVar 0))) [3]) tNil)))
    tNext))
theorem kit_list (d : D) (h : Ty d) : ∃ a, kitB (tyN d) "list" = some a ∧ (a = true ↔ ∃ l, d = .lst l) := by
  cases d with
  | non => exact ⟨false, (by show kitB "NoneType" "list" = _; decide +kernel), (by simp)⟩
  | bl b => exact ⟨false, (by show kitB "bool" "list" = _; decide +kernel), (by simp)⟩
  | int b => exact ⟨false, (by show kitB "int" "list" = _; decide +kernel), (by simp)⟩
  | str b => exact ⟨false, (by show kitB "str" "list" = _; decide +kernel), (by simp)⟩
  | lst b => exact ⟨true, (by show kitB "list" "list" = _; decide +kernel), (by simp)⟩
  | tup b => exact ⟨false, (by show kitB "tuple" "list" = _; decide +kernel), (by simp)⟩
  | emp => exact ⟨false, (by show kitB "dict" "list" = _; decide +kernel), (by simp)⟩
  | fz l => exact absurd rfl (h.2 l)
  | _ => exact absurd rfl h.1
theorem ev_all_map {K : PySem.W.Frag} {ds : List Slot} {m : Md} {ta : TE} {l : List D} {f : D → Bool} (h : Ev K .I ta ds (.lst ((List.range l.length).map fun i => .bl (f (l.getD i .non))))) : Ev K m (tCB (rAll K) (tCons ta tNil)) ds (.bl (l.all f)) := by
  have e : (List.range l.length).map (fun i => D.bl (f (l.getD i .non))) = (l.map f).map D.bl := by
    refine List.ext_getElem? fun i => ?_
    rw [List.getElem?_map, List.getElem?_map, List.getElem?_map]
    by_cases hi : i < l.length
    · rw [List.getElem?_range hi, List.getElem?_eq_getElem hi]
      simp only [Option.map_some, List.getD_eq_getElem?_getD, List.getElem?_eq_getElem hi, Option.getD_some]
    · rw [List.getElem?_eq_none (by rw [List.length_range]; omega), List.getElem?_eq_none (by omega)] <;> rfl
  rw [e] at h
  refine (ev_all h).is ?_
  rw [List.all_map] <;> rfl
theorem pure_are_rests {K : PySem.W.Frag} : ∀ W ds R X, S_are_rests K ds R X → SW K W (t_are_rests K W) (startD ["prime", "thing", "most", "one"] ds) { nx := fun _ => R .non, rt := R, xc := fun C _ => X C } := by
  rintro W _ R X ⟨p, d, most, rfl, hT, hl, r⟩
  show SW K W (t_are_rests K W) [.nw (.int p), argS d, .nw (.int most), .no] _
  have hv : Ev K .I (tVar 1) [.nw (.int p), argS d, .nw (.int most), .no] d := ev_var (rd_argS d)
  obtain ⟨a, h1, h2⟩ := kit_list d hT
  have hi : EvT K _ [.nw (.int p), argS d, .nw (.int most), .no] (!a) := et_not (et_B (ev_isi hv ev_ty h1 hT.1 hT.2))
  cases a with
  | false =>
    have e : restsB p d most = false := by
      cases d with
      | lst l => exact absurd (h2.mpr ⟨l, rfl⟩) Bool.false_ne_true
      | _ => rfl
    rw [e] at r
    refine q_yes (et_or (c := false) hi fun z => nomatch z) (q_ret ev_bl r)
  | true =>
    obtain ⟨l, rfl⟩ := h2.mp rfl
    obtain ⟨hl1, hl2⟩ := hl l rfl
    have hc : EvT K _ [.nw (.int p), .ar (.lst l), .nw (.int most), .no] (!true || decide (most < (l.length : Int))) := et_or hi fun _ => et_test (ev_gt (ev_len hv) (ev_var (n := 2) rfl))
    refine q_when hc (fun z => ?_) (fun z => ?_)
    · refine q_ret ev_bl ?_
      have z1 : most < (l.length : Int) := by simpa using z
      have e : restsB p (.lst l) most = false := by
        show (decide ((l.length : Int) ≤ most) && l.all (restB p)) = false
        rw [decide_eq_false (by omega), Bool.false_and]
      rw [e] at r
      exact r
    · have z1 : ¬ most < (l.length : Int) := by simpa using z
      have e : restsB p (.lst l) most = l.all (restB p) := by
        show (decide ((l.length : Int) ≤ most) && l.all (restB p)) = _
        rw [decide_eq_true (by omega), Bool.true_and]
      rw [e] at r
      refine q_ret (ev_all_map (f := restB p) (Ev.wkN (ev_mapL (it_list (ev_varS rfl)) hl2 (by decide) fun i d hd => ?_) .I)) r
      have hdm : Ty d := hl1 d (List.mem_of_getElem? hd)
      have eg : l.getD i .non = d := by rw [List.getD_eq_getElem?_getD, hd] <;> rfl
      rw [eg]
      have hv3 : Ev K .I (tVar 3) [.nw (.int p), .ar (.lst l), .nw (.int most), argS d] d := ev_var (rd_argS d)
      cases d with
      | int x => exact Ev.is (ev_andV (ev_callI (ea_cons hv3 ea_nil) ⟨.int x, rfl, hdm, rfl⟩) fun _ => ev_chain ev_int (ev_var rfl) (ev_var rfl) (fun _ _ => rLe_b) (fun _ _ => rLt_b)) (by show D.bl (true && _) = _; rw [Bool.true_and]; rfl)
      | non => exact Ev.is (ev_andV (c := false) (ev_callI (ea_cons hv3 ea_nil) ⟨_, rfl, hdm, rfl⟩) fun z => nomatch z) rfl
      | bl b => exact Ev.is (ev_andV (c := false) (ev_callI (ea_cons hv3 ea_nil) ⟨_, rfl, hdm, rfl⟩) fun z => nomatch z) rfl
      | str b => exact Ev.is (ev_andV (c := false) (ev_callI (ea_cons hv3 ea_nil) ⟨_, rfl, hdm, rfl⟩) fun z => nomatch z) rfl
      | lst b => exact Ev.is (ev_andV (c := false) (ev_callI (ea_cons hv3 ea_nil) ⟨_, rfl, hdm, rfl⟩) fun z => nomatch z) rfl
      | tup b => exact Ev.is (ev_andV (c := false) (ev_callI (ea_cons hv3 ea_nil) ⟨_, rfl, hdm, rfl⟩) fun z => nomatch z) rfl
      | emp => exact Ev.is (ev_andV (c := false) (ev_callI (ea_cons hv3 ea_nil) ⟨_, rfl, hdm, rfl⟩) fun z => nomatch z) rfl
      | fz b => exact absurd rfl (hdm.2 b)
      | ty b => exact absurd rfl hdm.1
      | kt b => exact absurd rfl hdm.1
      | cl b => exact absurd rfl hdm.1
      | ob _ _ _ => exact absurd rfl hdm.1
      | lam _ _ => exact absurd rfl hdm.1
      | lmf _ => exact absurd rfl hdm.1
end Px

namespace Px
open PySem PySem.Spec PyProof.Rows L2
variable [Tb]
/-! ### the words: ev finds a value, sd a side condition -/
local macro_rules | `(tactic| walk_at "sd") => `(tactic| first
  | omega
  | assumption
  | rfl
  | exact cmul_l (by omega)
  | exact cmul_r (by omega)
  | exact cmul_at (by assumption) (by omega)
  | exact cmul_atR (by assumption) (by omega)
  | exact cdiv_small (by omega)
  | exact cpow_small (by omega)
  | decide
  | (simp only [List.length_map, List.length_range, List.length_append, List.length_cons, List.length_nil, List.length_replicate, Int.toNat_natCast] at *; omega))
local macro_rules | `(tactic| walk_at "ev") => `(tactic| first
  | exact ev_int
  | exact ev_var rfl
  | exact ev_varM rfl
  | exact ev_varS rfl
  | exact (ev_varM rfl).wkM
  | (with_reducible apply ev_add) <;> walk_at "ev"
  | (with_reducible apply ev_sub) <;> walk_at "ev"
  | (with_reducible apply ev_mul) <;> walk_at "ev"
  | (with_reducible apply ev_mod) <;> walk_at "ev"
  | (with_reducible apply ev_div) <;> walk_at "ev"
  | (with_reducible apply ev_pow) <;> walk_at "ev"
  | (with_reducible apply ev_neg) <;> walk_at "ev"
  | (with_reducible apply ev_lt) <;> walk_at "ev"
  | (with_reducible apply ev_le) <;> walk_at "ev"
  | (with_reducible apply ev_gt) <;> walk_at "ev"
  | (with_reducible apply ev_ge) <;> walk_at "ev"
  | (with_reducible apply ev_eqI) <;> walk_at "ev"
  | (with_reducible apply ev_neI) <;> walk_at "ev"
  | (with_reducible apply ev_eqLi) <;> walk_at "ev"
  | (with_reducible apply ev_neLi) <;> walk_at "ev"
  | (with_reducible apply ev_ixI) <;> walk_at "ev"
  | (with_reducible apply ev_lenI) <;> walk_at "ev"
  | (with_reducible apply ev_len) <;> walk_at "ev"
  | (with_reducible apply ev_min) <;> walk_at "ev"
  | (with_reducible apply ev_max) <;> walk_at "ev"
  | (with_reducible apply ev_abs) <;> walk_at "ev"
  | (with_reducible apply ev_sum) <;> walk_at "ev"
  | (with_reducible apply et_test) <;> walk_at "ev"
  | (with_reducible apply et_B) <;> walk_at "ev"
  | (with_reducible apply et_not) <;> walk_at "ev"
  | exact ev_bl
  | exact ev_non
  | exact ev_str
  | exact ev_ty
  | exact ev_cl
  | (with_reducible apply sto_nw) <;> walk_at "ev"
  | exact ea_nil
  | (with_reducible apply ea_cons) <;> walk_at "ev"
  | walk_at "sd")
local macro_rules | `(tactic| walk_at "is") => `(tactic| (refine' Ev.is ?_ ?_; walk_at "ev"))

def TyL (d : D) : Prop := Ty d ∧ ∀ l, d = .lst l → (∀ e ∈ l, Ty e) ∧ l.length ≤ 50000
def iv : D → Int
  | .int i => i
  | _ => 0
def intsD : D → List Int
  | .lst l => l.map iv
  | _ => []
theorem intsD_li (xs : List Int) : intsD (li xs) = xs := by
  show (xs.map D.int).map iv = xs
  rw [List.map_map]
  exact List.map_id' xs
theorem ty_int (i : Int) : Ty (.int i) := ⟨(by show ("int" : String) ≠ ""; decide), fun l h => nomatch h⟩
theorem ty_li (xs : List Int) : Ty (li xs) := ⟨(by show ("list" : String) ≠ ""; decide), fun l h => nomatch h⟩
theorem tyL_li {xs : List Int} (h : xs.length ≤ 50000) : TyL (li xs) := ⟨ty_li xs, fun l e => by
  injection e with e
  subst e
  refine ⟨fun d hd => ?_, by rw [List.length_map]; exact h⟩
  obtain ⟨i, _, rfl⟩ := List.mem_map.mp hd
  exact ty_int i⟩
def rowB (p : Int) (d : D) : Bool := restsB p d 20 && match d with
  | .lst [] => false
  | _ => true
def RowOk (p : Int) (xs : List Int) : Prop := Rests p xs ∧ 1 ≤ xs.length ∧ xs.length ≤ 20
theorem all_rests {p : Int} : ∀ {l : List D}, l.all (restB p) = true → ∃ xs, l = xs.map D.int ∧ Rests p xs
  | [], _ => ⟨[], rfl, fun x hx => by cases hx⟩
  | d :: l, h => by
    rw [List.all_cons, Bool.and_eq_true] at h
    obtain ⟨xs, rfl, hx⟩ := all_rests h.2
    cases d with
    | int x =>
      have h1 : (decide (0 ≤ x) && decide (x < p)) = true := h.1
      rw [Bool.and_eq_true, decide_eq_true_eq, decide_eq_true_eq] at h1
      exact ⟨x :: xs, rfl, fun y hy => (List.mem_cons.mp hy).elim (fun e => by rw [e]; exact h1) (hx y)⟩
    | _ => cases h.1
theorem all_rests_of {p : Int} : ∀ {xs : List Int}, Rests p xs → (xs.map D.int).all (restB p) = true
  | [], _ => rfl
  | x :: xs, h => by
    rw [List.map_cons, List.all_cons, all_rests_of fun y hy => h y (List.mem_cons_of_mem _ hy), Bool.and_true]
    have h1 := h x List.mem_cons_self
    show (decide (0 ≤ x) && decide (x < p)) = true
    rw [decide_eq_true h1.1, decide_eq_true h1.2] <;> rfl
theorem restsB_of {p most : Int} {d : D} (h : restsB p d most = true) : ∃ xs, d = li xs ∧ Rests p xs ∧ (xs.length : Int) ≤ most := by
  cases d with
  | lst l =>
    have h1 : (decide ((l.length : Int) ≤ most) && l.all (restB p)) = true := h
    rw [Bool.and_eq_true, decide_eq_true_eq] at h1
    obtain ⟨xs, rfl, hx⟩ := all_rests h1.2
    exact ⟨xs, rfl, hx, by simpa using h1.1⟩
  | _ => cases h
theorem restsB_li {p most : Int} {xs : List Int} (h : Rests p xs) (hm : (xs.length : Int) ≤ most) : restsB p (li xs) most = true := by
  show (decide (((xs.map D.int).length : Int) ≤ most) && (xs.map D.int).all (restB p)) = true
  rw [all_rests_of h, List.length_map, decide_eq_true hm] <;> rfl
theorem rowB_of {p : Int} {d : D} (h : rowB p d = true) : ∃ xs, d = li xs ∧ RowOk p xs := by
  have h1 := (Bool.and_eq_true_iff.mp h).1
  have h2 := (Bool.and_eq_true_iff.mp h).2
  obtain ⟨xs, rfl, hx, hm⟩ := restsB_of h1
  refine ⟨xs, rfl, hx, ?_, by omega⟩
  cases xs with
  | nil => cases h2
  | cons x r => simp
theorem rowB_li {p : Int} {xs : List Int} (h : RowOk p xs) : rowB p (li xs) = true := by
  show (restsB p (li xs) 20 && _) = true
  rw [restsB_li h.1 (by have := h.2.2; omega), Bool.true_and]
  cases xs with
  | nil => have := h.2.1; simp at this
  | cons x r => rfl
abbrev cBadPrime (K : PySem.W.Frag) : Addr := He.ga K "BadPrime"
abbrev cBadRow (K : PySem.W.Frag) : Addr := He.ga K "BadRow"
def Ask1 (K : PySem.W.Frag) (X : Addr → Prop) (d1 d2 : D) (G : Prop) : Prop := if primeB d1 = true then (if rowB (iv d1) d2 = true then G else X (cBadRow K)) else X (cBadPrime K)
def S_asked_row (K : PySem.W.Frag) : SpF := fun ds R X => ∃ d1 d2, ds = [d1, d2] ∧ Ty d1 ∧ TyL d2 ∧ PrimesK K ∧ Ask1 K X d1 d2 (R .non)
theorem len_asked_row {K : PySem.W.Frag} : ∀ ds R X, S_asked_row K ds R X → ds.length = ["prime", "row"].length := by
  rintro _ R X ⟨d1, d2, rfl, _⟩
  rfl
@[reducible] def t_asked_row (K : PySem.W.Frag) (W : WX) : TS :=
  (tSeq (tDrop (tCallS (spD K (S_asked_prime K)) (WE W) (tCons (tVar 0) tNil)))
    (tSeq (tIfS (tOr (tNot (tB (tCallS (spD K (S_are_rests K)) (WE W) (tCons (tVar 0) (tCons (tVar 1) (tCons (tC (.int 20)) tNil)))))) (tTest (tOp (rEqX K) (tVar 1) (tLst tNil)))) (tSeq (tRs W (He.ga K "BadRow"))
    tNext) tNext)
    tNext))
theorem rd_argS' (d : D) : (some (argS d)).bind rd = some d := rd_argS d
theorem primeB_int {d : D} (h : primeB d = true) : ∃ p, d = .int p ∧ p ∈ primesL := by
  cases d with
  | int p => exact ⟨p, rfl, of_decide_eq_true h⟩
  | _ => cases h
theorem primeB_of {p : Int} (h : p ∈ primesL) : primeB (.int p) = true := decide_eq_true h
theorem pure_asked_row {K : PySem.W.Frag} : ∀ W ds R X, S_asked_row K ds R X → SW K W (t_asked_row K W) (startD ["prime", "row"] ds) { nx := fun _ => R .non, rt := R, xc := fun C _ => X C } := by
  rintro W _ R X ⟨d1, d2, rfl, h1, h2, hK, r⟩
  show SW K W (t_asked_row K W) [argS d1, argS d2] _
  have v1 : Ev K .I (tVar 0) [argS d1, argS d2] d1 := ev_var (rd_argS d1)
  have v2 : Ev K .I (tVar 1) [argS d1, argS d2] d2 := ev_var (rd_argS d2)
  unfold Ask1 at r
  refine q_call (ea_cons v1 ea_nil) ⟨d1, rfl, h1, hK, ?_⟩
  cases hp : primeB d1 with
  | false =>
    rw [hp, if_neg Bool.false_ne_true] at r
    rw [if_neg Bool.false_ne_true]
    exact r
  | true =>
    rw [hp, if_pos rfl] at r
    rw [if_pos rfl]
    obtain ⟨p, rfl, hpp⟩ := primeB_int hp
    have r : if rowB p d2 = true then R .non else X (cBadRow K) := r
    have c1 : EvT K (tNot (tB (tCallS (spD K (S_are_rests K)) (WE W) (tCons (tVar 0) (tCons (tVar 1) (tCons (tC (.int 20)) tNil)))))) [argS (.int p), argS d2] (!restsB p d2 20) :=
      et_not (et_B (ev_callI (ea_cons v1 (ea_cons v2 (ea_cons ev_int ea_nil))) ⟨p, d2, 20, rfl, h2.1, h2.2, rfl⟩))
    have e : (!restsB p d2 20 || (restsB p d2 20 && !rowB p d2)) = !rowB p d2 := by
      unfold rowB
      cases restsB p d2 20 <;> rfl
    have c2 : EvT K _ [argS (.int p), argS d2] (!restsB p d2 20 || (restsB p d2 20 && !rowB p d2)) := et_or c1 fun z => by
      have z1 : restsB p d2 20 = true := by cases y : restsB p d2 20 with | true => rfl | false => rw [y] at z; cases z
      obtain ⟨xs, rfl, hx, hm⟩ := restsB_of z1
      have e2 : (restsB p (li xs) 20 && !rowB p (li xs)) = decide (xs = []) := by
        unfold rowB
        rw [z1]
        cases xs <;> rfl
      rw [e2]
      exact et_test (ev_eqLi v2 (ev_lstI (ns := []) ea_nil (by decide)))
    rw [e] at c2
    refine q_when c2 (fun z => ?_) (fun z => ?_)
    · refine q_raise ?_
      rw [if_neg (by intro y; rw [y] at z; cases z)] at r
      exact r
    · rw [if_pos (by cases y : rowB p d2 with | true => rfl | false => rw [y] at z; cases z)] at r
      exact q_nx r
/-! ### partner -/
def S_partner (K : PySem.W.Frag) : SpF := fun ds R X => ∃ p n, ds = [.int p, .int n] ∧ p ∈ primesL ∧ 0 < n ∧ n < p ∧ R (.int (inv p n))
theorem len_partner {K : PySem.W.Frag} : ∀ ds R X, S_partner K ds R X → ds.length = ["prime", "number"].length := by
  rintro _ R X ⟨p, n, rfl, _⟩
  rfl
@[reducible] def t_partner (K : PySem.W.Frag) (W : WX) : TS :=
  (tSeq (tAsg (tC (.int 1)) (gName 2))
    (tSeq (tWhile (tTest (tOp (rNeX K) (tOp rModX (tOp rMulX (tVar 1) (tVar 2)) (tVar 0)) (tC (.int 1)))) (tSeq (tAsg (tOp rAddX (tVar 2) (tC (.int 1))) (gName 2))
    tNext))
    (tSeq (tRet (tVar 2))
    tNext)))
theorem pure_partner {K : PySem.W.Frag} : ∀ W ds R X, S_partner K ds R X → SW K W (t_partner K W) (startD ["prime", "number", "found"] ds) { nx := fun _ => R .non, rt := R, xc := fun C _ => X C } := by
  rintro W _ R X ⟨p, n, rfl, hp, h0, h1, r⟩
  show SW K W (t_partner K W) [.nw (.int p), .nw (.int n), .no] _
  have hb := prime_bd hp
  have hi := inv_bd hp h0 h1
  refine q_set (sto_nw ev_int) ?_
  refine q_while (fun k ds => ∃ f : Int, ds = [.nw (.int p), .nw (.int n), .nw (.int f)] ∧ 1 ≤ f ∧ f + k = inv p n) (inv p n - 1).toNat ⟨1, rfl, by omega, by omega⟩ ?_
  rintro k _ ⟨f, rfl, h2, h3⟩
  refine ⟨!decide (n * f % p = 1), by walk_at "ev", fun z => ?_, fun z => ?_⟩
  · have z1 : ¬ n * f % p = 1 := by simpa using z
    have hk : k ≠ 0 := fun e => z1 (by
      have e1 : f = inv p n := by omega
      rw [e1]
      exact inv_mul hp h0 h1)
    refine q_set (sto_nw (by walk_at "ev")) (q_nx ⟨k - 1, by omega, f + 1, rfl, by omega, by omega⟩)
  · have z1 : n * f % p = 1 := by simpa using z
    have e1 := inv_only hp h0 h1 (by omega) (by omega) z1
    subst e1
    exact q_ret (ev_varM rfl) r
/-! ### times, plus, parted -/
def S_times_of (K : PySem.W.Frag) : SpF := fun ds R X => ∃ p xs ys, ds = [.int p, li xs, li ys] ∧ (0 < p ∧ p ≤ 1000) ∧ Rests p xs ∧ Rests p ys ∧ xs.length ≤ 1000 ∧ ys.length ≤ 1000 ∧ R (li (timesL p xs ys))
theorem len_times_of {K : PySem.W.Frag} : ∀ ds R X, S_times_of K ds R X → ds.length = ["prime", "one", "other"].length := by
  rintro _ R X ⟨p, xs, ys, rfl, _⟩
  rfl
@[reducible] def t_times_of (K : PySem.W.Frag) (W : WX) : TS :=
  (tSeq (tAsg (tCB rMinX (tCons (tCB (rLenX K) (tCons (tVar 1) tNil)) (tCons (tCB (rLenX K) (tCons (tVar 2) tNil)) tNil))) (gName 3))
    (tSeq (tRet (tLc (iRng1 (tCons (tVar 3) tNil)) (gName 4) tYes (tOp rModX (tCB (rSum K) (tCons (tLc (iRng1 (tCons (tOp rAddX (tVar 4) (tC (.int 1))) tNil)) (gName 5) tYes (tOp rMulX (tOp (rIxX K) (tVar 1) (tVar 5)) (tOp (rIxX K) (tVar 2) (tOp rSubX (tVar 4) (tVar 5)))) [5]) tNil)) (tVar 0)) [4]))
    tNext))
theorem pure_times_of {K : PySem.W.Frag} : ∀ W ds R X, S_times_of K ds R X → SW K W (t_times_of K W) (startD ["prime", "one", "other", "many", "place", "at"] ds) { nx := fun _ => R .non, rt := R, xc := fun C _ => X C } := by
  rintro W _ R X ⟨p, xs, ys, rfl, hp, hx, hy, lx, ly, r⟩
  show SW K W (t_times_of K W) [.nw (.int p), .ar (li xs), .ar (li ys), .no, .no, .no] _
  refine q_set (sto_nw (by walk_at "ev")) ?_
  refine q_ret (Ev.wkN (ev_mapRI (f := fun k => cv (at0 xs) (at0 ys) k % p) (it_range1 (ev_var rfl) (by omega) (by omega)) (by omega) (by decide) fun k hk => ?_) .M) ?_
  · refine ev_mod (ev_sum (Ev.wkN (ev_mapRI (f := fun a => at0 xs a * at0 ys (k - a)) (n := k + 1) (it_range1_is (ev_add (ev_var rfl) ev_int) (by omega) (by omega)) (by omega) (by decide) fun a ha => ?_) .I)) (ev_var rfl) hp.1
    have h := ev_mul (m := .I) (ev_ixI (m := .I) (K := K) (ta := tVar 1) (tb := tVar 5) (ds := [.nw (.int p), .ar (li xs), .ar (li ys), .nw (.int (min (xs.length : Int) ys.length)), .nw (.int (0 + (k : Int))), .nw (.int (0 + (a : Int)))]) (ev_var rfl) (ev_var rfl) (by omega) (by omega))
      (ev_ixI (m := .I) (ta := tVar 2) (tb := tOp rSubX (tVar 4) (tVar 5)) (ev_var rfl) (ev_sub (ev_var rfl) (ev_var rfl)) (by omega) (by omega)) (cmul_at hx (by omega))
    refine Ev.is h ?_
    congr 1
    rw [show (0 + (a : Int)).toNat = a by omega, show ((0 + (k : Int)) - (0 + (a : Int))).toNat = k - a by omega] <;> rfl
  · have e : (min (xs.length : Int) ys.length).toNat = min xs.length ys.length := by omega
    rw [e]
    exact r
end Px

namespace Px
open PySem PySem.Spec PyProof.Rows L2
variable [Tb]
/-! ### the words: ev finds a value, sd a side condition -/
local macro_rules | `(tactic| walk_at "sd") => `(tactic| first
  | omega
  | assumption
  | rfl
  | exact cmul_l (by omega)
  | exact cmul_r (by omega)
  | exact cmul_at (by assumption) (by omega)
  | exact cmul_atR (by assumption) (by omega)
  | exact cdiv_small (by omega)
  | exact cpow_small (by omega)
  | decide
  | (simp only [List.length_map, List.length_range, List.length_append, List.length_cons, List.length_nil, List.length_replicate, Int.toNat_natCast] at *; omega))
local macro_rules | `(tactic| walk_at "ev") => `(tactic| first
  | exact ev_int
  | exact ev_var rfl
  | exact ev_varM rfl
  | exact ev_varS rfl
  | exact (ev_varM rfl).wkM
  | (with_reducible apply ev_add) <;> walk_at "ev"
  | (with_reducible apply ev_sub) <;> walk_at "ev"
  | (with_reducible apply ev_mul) <;> walk_at "ev"
  | (with_reducible apply ev_mod) <;> walk_at "ev"
  | (with_reducible apply ev_div) <;> walk_at "ev"
  | (with_reducible apply ev_pow) <;> walk_at "ev"
  | (with_reducible apply ev_neg) <;> walk_at "ev"
  | (with_reducible apply ev_lt) <;> walk_at "ev"
  | (with_reducible apply ev_le) <;> walk_at "ev"
  | (with_reducible apply ev_gt) <;> walk_at "ev"
  | (with_reducible apply ev_ge) <;> walk_at "ev"
  | (with_reducible apply ev_eqI) <;> walk_at "ev"
  | (with_reducible apply ev_neI) <;> walk_at "ev"
  | (with_reducible apply ev_eqLi) <;> walk_at "ev"
  | (with_reducible apply ev_neLi) <;> walk_at "ev"
  | (with_reducible apply ev_ixI) <;> walk_at "ev"
  | (with_reducible apply ev_lenI) <;> walk_at "ev"
  | (with_reducible apply ev_len) <;> walk_at "ev"
  | (with_reducible apply ev_min) <;> walk_at "ev"
  | (with_reducible apply ev_max) <;> walk_at "ev"
  | (with_reducible apply ev_abs) <;> walk_at "ev"
  | (with_reducible apply ev_sum) <;> walk_at "ev"
  | (with_reducible apply et_test) <;> walk_at "ev"
  | (with_reducible apply et_B) <;> walk_at "ev"
  | (with_reducible apply et_not) <;> walk_at "ev"
  | exact ev_bl
  | exact ev_non
  | exact ev_str
  | exact ev_ty
  | exact ev_cl
  | (with_reducible apply sto_nw) <;> walk_at "ev"
  | exact ea_nil
  | (with_reducible apply ea_cons) <;> walk_at "ev"
  | walk_at "sd")
local macro_rules | `(tactic| walk_at "is") => `(tactic| (refine' Ev.is ?_ ?_; walk_at "ev"))

def plusL (p : Int) (xs ys : List Int) : List Int := List.zipWith (fun x y => (x + y) % p) xs ys
def Ask2 (K : PySem.W.Frag) (X : Addr → Prop) (d1 d2 d3 : D) (G : Prop) : Prop := Ask1 K X d1 d2 (Ask1 K X d1 d3 G)
theorem ask1_ok {K : PySem.W.Frag} {X : Addr → Prop} {p : Int} {xs : List Int} {G : Prop} (hp : p ∈ primesL) (hx : RowOk p xs) (h : G) : Ask1 K X (.int p) (li xs) G := by
  unfold Ask1
  rw [if_pos (primeB_of hp)]
  exact (if_pos (rowB_li hx)).mpr h
theorem ask2_ok {K : PySem.W.Frag} {X : Addr → Prop} {p : Int} {xs ys : List Int} {G : Prop} (hp : p ∈ primesL) (hx : RowOk p xs) (hy : RowOk p ys) (h : G) : Ask2 K X (.int p) (li xs) (li ys) G := ask1_ok hp hx (ask1_ok hp hy h)
/-- the two ways of asked_row in front of the rest -/
theorem ask1_call {K : PySem.W.Frag} {X X' : Addr → Prop} {d1 d2 : D} {G G' : Prop} (h : Ask1 K X d1 d2 G) (hx : ∀ C, X C → X' C) (hg : ∀ p xs, d1 = .int p → d2 = li xs → p ∈ primesL → RowOk p xs → G → G') : Ask1 K X' d1 d2 G' := by
  unfold Ask1 at h ⊢
  cases hp : primeB d1 with
  | false =>
    rw [hp, if_neg Bool.false_ne_true] at h
    rw [if_neg Bool.false_ne_true]
    exact hx _ h
  | true =>
    rw [hp, if_pos rfl] at h
    rw [if_pos rfl]
    cases hr : rowB (iv d1) d2 with
    | false =>
      rw [hr, if_neg Bool.false_ne_true] at h
      rw [if_neg Bool.false_ne_true]
      exact hx _ h
    | true =>
      rw [hr, if_pos rfl] at h
      rw [if_pos rfl]
      obtain ⟨p, rfl, hpp⟩ := primeB_int hp
      obtain ⟨xs, rfl, hx⟩ := rowB_of hr
      exact hg p xs rfl rfl hpp hx h
theorem q_asked {K : PySem.W.Frag} {W : WX} {P : Post} {u : TS} {ds : List Slot} {d1 d2 : D} {ta tb : TE} {G : Prop} (v1 : Ev K .I ta ds d1) (v2 : Ev K .I tb ds d2) (h1 : Ty d1) (h2 : TyL d2) (hK : PrimesK K) (h : Ask1 K (fun C => P.xc C ds) d1 d2 G)
    (hg : ∀ p xs, d1 = .int p → d2 = li xs → p ∈ primesL → RowOk p xs → G → SW K W u ds P) : SW K W (tSeq (tDrop (tCallS (spD K (S_asked_row K)) (WE W) (tCons ta (tCons tb tNil)))) u) ds P :=
  q_call (ea_cons v1 (ea_cons v2 ea_nil)) ⟨d1, d2, rfl, h1, h2, hK, ask1_call h (fun _ z => z) hg⟩
def S_plus (K : PySem.W.Frag) : SpF := fun ds R X => ∃ d1 d2 d3, ds = [d1, d2, d3] ∧ Ty d1 ∧ TyL d2 ∧ TyL d3 ∧ PrimesK K ∧ Ask2 K X d1 d2 d3 (R (li (plusL (iv d1) (intsD d2) (intsD d3))))
theorem len_plus {K : PySem.W.Frag} : ∀ ds R X, S_plus K ds R X → ds.length = ["prime", "one", "other"].length := by
  rintro _ R X ⟨d1, d2, d3, rfl, _⟩
  rfl
@[reducible] def t_plus (K : PySem.W.Frag) (W : WX) : TS :=
  (tSeq (tDrop (tCallS (spD K (S_asked_row K)) (WE W) (tCons (tVar 0) (tCons (tVar 1) tNil))))
    (tSeq (tDrop (tCallS (spD K (S_asked_row K)) (WE W) (tCons (tVar 0) (tCons (tVar 2) tNil))))
    (tSeq (tRet (tLc (iZip K (tCons (tVar 1) (tCons (tVar 2) tNil))) (gTup K 2 (gCons (gName 3) (gCons (gName 4) gNil))) tYes (tOp rModX (tOp rAddX (tVar 3) (tVar 4)) (tVar 0)) [3, 4]))
    tNext)))
theorem pure_plus {K : PySem.W.Frag} : ∀ W ds R X, S_plus K ds R X → SW K W (t_plus K W) (startD ["prime", "one", "other", "mine", "theirs"] ds) { nx := fun _ => R .non, rt := R, xc := fun C _ => X C } := by
  rintro W _ R X ⟨d1, d2, d3, rfl, h1, h2, h3, hK, r⟩
  show SW K W (t_plus K W) [argS d1, argS d2, argS d3, .no, .no] _
  refine q_asked (ev_var (rd_argS d1)) (ev_var (rd_argS d2)) h1 h2 hK r ?_
  rintro p xs rfl rfl hp hx r
  refine q_asked (ev_var (rd_argS (.int p))) (ev_var (rd_argS d3)) h1 h3 hK r ?_
  rintro q ys e rfl _ hy r
  cases e
  have hb := prime_bd hp
  rw [intsD_li, intsD_li] at r
  refine q_ret (Ev.wkN (ev_mapZ (f := fun x y => (x + y) % p) (it_zip (ev_varS rfl) (ev_varS rfl)) (by have := hx.2.2; omega) (by decide) (by decide) fun x y _ _ => ?_) .M) r
  walk_at "ev"
def S_times (K : PySem.W.Frag) : SpF := fun ds R X => ∃ d1 d2 d3, ds = [d1, d2, d3] ∧ Ty d1 ∧ TyL d2 ∧ TyL d3 ∧ PrimesK K ∧ Ask2 K X d1 d2 d3 (R (li (timesL (iv d1) (intsD d2) (intsD d3))))
theorem len_times {K : PySem.W.Frag} : ∀ ds R X, S_times K ds R X → ds.length = ["prime", "one", "other"].length := by
  rintro _ R X ⟨d1, d2, d3, rfl, _⟩
  rfl
@[reducible] def t_times (K : PySem.W.Frag) (W : WX) : TS :=
  (tSeq (tDrop (tCallS (spD K (S_asked_row K)) (WE W) (tCons (tVar 0) (tCons (tVar 1) tNil))))
    (tSeq (tDrop (tCallS (spD K (S_asked_row K)) (WE W) (tCons (tVar 0) (tCons (tVar 2) tNil))))
    (tSeq (tRet (tCallS (spD K (S_times_of K)) (WE W) (tCons (tVar 0) (tCons (tVar 1) (tCons (tVar 2) tNil)))))
    tNext)))
theorem pure_times {K : PySem.W.Frag} : ∀ W ds R X, S_times K ds R X → SW K W (t_times K W) (startD ["prime", "one", "other"] ds) { nx := fun _ => R .non, rt := R, xc := fun C _ => X C } := by
  rintro W _ R X ⟨d1, d2, d3, rfl, h1, h2, h3, hK, r⟩
  show SW K W (t_times K W) [argS d1, argS d2, argS d3] _
  refine q_asked (ev_var (rd_argS d1)) (ev_var (rd_argS d2)) h1 h2 hK r ?_
  rintro p xs rfl rfl hp hx r
  refine q_asked (ev_var (rd_argS (.int p))) (ev_var (rd_argS d3)) h1 h3 hK r ?_
  rintro q ys e rfl _ hy r
  cases e
  have hb := prime_bd hp
  rw [intsD_li, intsD_li] at r
  refine q_retCall (ea_cons (ev_var rfl) (ea_cons (ev_var rfl) (ea_cons (ev_var rfl) ea_nil))) ⟨p, xs, ys, rfl, ⟨by omega, by omega⟩, hx.1, hy.1, by have := hx.2.2; omega, by have := hy.2.2; omega, r⟩
/-- parted -/
def partL (p : Int) (xs ys : List Int) : List Int := partF p (at0 ys 0) (at0 xs) (at0 ys) (min xs.length ys.length)
def S_parted_of (K : PySem.W.Frag) : SpF := fun ds R X => ∃ p xs ys, ds = [.int p, li xs, li ys] ∧ p ∈ primesL ∧ RowOk p xs ∧ RowOk p ys ∧ at0 ys 0 ≠ 0 ∧ R (li (partL p xs ys))
theorem len_parted_of {K : PySem.W.Frag} : ∀ ds R X, S_parted_of K ds R X → ds.length = ["prime", "one", "other"].length := by
  rintro _ R X ⟨p, xs, ys, rfl, _⟩
  rfl
@[reducible] def t_parted_of (K : PySem.W.Frag) (W : WX) : TS :=
  (tSeq (tAsg (tTup (tCons (tCB rMinX (tCons (tCB (rLenX K) (tCons (tVar 1) tNil)) (tCons (tCB (rLenX K) (tCons (tVar 2) tNil)) tNil))) (tCons (tCallS (spD K (S_partner K)) (WE W) (tCons (tVar 0) (tCons (tOp (rIxX K) (tVar 2) (tC (.int 0))) tNil))) (tCons (tLst tNil) tNil)))) (gTup K 3 (gCons (gName 3) (gCons (gName 4) (gCons (gName 5) gNil)))))
    (tSeq (tFor (iRng1 (tCons (tVar 3) tNil)) (gName 6) (tSeq (tAsg (tOp rSubX (tOp (rIxX K) (tVar 1) (tVar 6)) (tCB (rSum K) (tCons (tLc (iRng1 (tCons (tVar 6) tNil)) (gName 8) tYes (tOp rMulX (tOp (rIxX K) (tVar 5) (tVar 8)) (tOp (rIxX K) (tVar 2) (tOp rSubX (tVar 6) (tVar 8)))) [8]) tNil))) (gName 7))
    (tSeq (tDrop (tBM K "list" rAppend (tVar 5) (tCons (tOp rModX (tOp rMulX (tVar 7) (tVar 4)) (tVar 0)) tNil)))
    tNext)))
    (tSeq (tRet (tVar 5))
    tNext)))
theorem pure_parted_of {K : PySem.W.Frag} : ∀ W ds R X, S_parted_of K ds R X → SW K W (t_parted_of K W) (startD ["prime", "one", "other", "many", "back", "found", "place", "rest", "at"] ds) { nx := fun _ => R .non, rt := R, xc := fun C _ => X C } := by
  rintro W _ R X ⟨p, xs, ys, rfl, hp, hx, hy, h0, r⟩
  show SW K W (t_parted_of K W) [.nw (.int p), .ar (li xs), .ar (li ys), .no, .no, .no, .no, .no, .no] _
  have hb := prime_bd hp
  have hx2 := hx.2
  have hy2 := hy.2
  have hy0 := hy.1.get (by omega) 0
  have hy00 : 0 < at0 ys 0 := by
    have : at0 ys 0 = ys.getD 0 0 := rfl
    omega
  unfold t_parted_of
  refine q_tup (ss := [.nw (.int (min (xs.length : Int) ys.length)), .nw (.int (inv p (at0 ys 0))), .ow []]) ?_ (put_cons (put_cons (put_cons put_nil))) rfl (by decide) ?_
  · refine sta_cons (sto_nw (by walk_at "ev")) (sta_cons (sto_nw ?_) (sta_cons (sto_ow (ev_lstI (ns := []) ea_nil (by decide))) sta_nil))
    exact ev_callI (ea_cons (ev_var rfl) (ea_cons (ev_ixI (ev_var rfl) ev_int (by decide) (by omega)) ea_nil)) ⟨p, at0 ys 0, rfl, hp, hy00, hy0.2, rfl⟩
  have e : (min (xs.length : Int) ys.length).toNat = min xs.length ys.length := by omega
  refine q_for (it_range1_is (n := min xs.length ys.length) (ev_var rfl) (by omega) (by omega)) (fun i ds => ∃ s6 s7, ds = [.nw (.int p), .ar (li xs), .ar (li ys), .nw (.int (min (xs.length : Int) ys.length)), .nw (.int (inv p (at0 ys 0))), .ow ((partF p (at0 ys 0) (at0 xs) (at0 ys) i).map D.int), s6, s7, .no]) ⟨_, _, rfl⟩ ?_ ?_
  · rintro i d _ hd ⟨s6, s7, rfl⟩
    have hi := (List.getElem?_eq_some_iff.mp hd).1
    rw [rngD_len] at hi
    rw [rngD_get hi] at hd
    cases hd
    refine ⟨_, tg_name, ?_⟩
    have hpl := partF_len p (at0 ys 0) (at0 xs) (at0 ys) i
    refine q_set (s := .nw (.int (at0 xs i - sumN i fun a => at0 (partF p (at0 ys 0) (at0 xs) (at0 ys) i) a * at0 ys (i - a)))) (sto_nw ?_) ?_
    · refine Ev.is (ev_sub (ev_ixI (ev_var rfl) (ev_var rfl) (by omega) (by omega)) (ev_sum (Ev.wkN (ev_mapRI (f := fun a => at0 (partF p (at0 ys 0) (at0 xs) (at0 ys) i) a * at0 ys (i - a)) (n := i) (it_range1_is (ev_var rfl) (by omega) (by omega)) (by omega) (by decide) fun a ha => ?_) .I))) ?_
      · refine Ev.is (ev_mul (ev_ixI (ns := partF p (at0 ys 0) (at0 xs) (at0 ys) i) (ev_var rfl) (ev_var rfl) (by omega) (by omega)) (ev_ixI (ev_var rfl) (ev_sub (ev_var rfl) (ev_var rfl)) (by omega) (by omega)) (cmul_at (partF_rests (by omega) i) (by omega))) ?_
        congr 1
        rw [show (0 + (a : Int)).toNat = a by omega, show ((0 + (i : Int)) - (0 + (a : Int))).toNat = i - a by omega] <;> rfl
      · congr 1
        rw [show (0 + (i : Int)).toNat = i by omega] <;> rfl
    · have hr := inv_bd hp hy00 hy0.2
      have em : (partF p (at0 ys 0) (at0 xs) (at0 ys) (i + 1)).map D.int = (partF p (at0 ys 0) (at0 xs) (at0 ys) i).map D.int ++ [.int ((at0 xs i - sumN i fun a => at0 (partF p (at0 ys 0) (at0 xs) (at0 ys) i) a * at0 ys (i - a)) * inv p (at0 ys 0) % p)] := by
        show List.map D.int (partF p (at0 ys 0) (at0 xs) (at0 ys) i ++ [_]) = _
        rw [List.map_append] <;> rfl
      refine q_app rfl (ev_mod (ev_mul (ev_var rfl) (ev_var rfl) (cmul_r (by omega))) (ev_var rfl) (by omega)) (by rw [List.length_map]; omega) (q_nx ?_)
      rw [em]
      exact ⟨_, _, rfl⟩
  · rintro _ ⟨s6, s7, rfl⟩
    rw [rngD_len]
    exact q_retO rfl r
abbrev cNoPart (K : PySem.W.Frag) : Addr := He.ga K "NoPart"
def S_parted (K : PySem.W.Frag) : SpF := fun ds R X => ∃ d1 d2 d3, ds = [d1, d2, d3] ∧ Ty d1 ∧ TyL d2 ∧ TyL d3 ∧ PrimesK K ∧ Ask2 K X d1 d2 d3 (if at0 (intsD d3) 0 = 0 then X (cNoPart K) else R (li (partL (iv d1) (intsD d2) (intsD d3))))
theorem len_parted {K : PySem.W.Frag} : ∀ ds R X, S_parted K ds R X → ds.length = ["prime", "one", "other"].length := by
  rintro _ R X ⟨d1, d2, d3, rfl, _⟩
  rfl
@[reducible] def t_parted (K : PySem.W.Frag) (W : WX) : TS :=
  (tSeq (tDrop (tCallS (spD K (S_asked_row K)) (WE W) (tCons (tVar 0) (tCons (tVar 1) tNil))))
    (tSeq (tDrop (tCallS (spD K (S_asked_row K)) (WE W) (tCons (tVar 0) (tCons (tVar 2) tNil))))
    (tSeq (tIfS (tTest (tOp (rEqX K) (tOp (rIxX K) (tVar 2) (tC (.int 0))) (tC (.int 0)))) (tSeq (tRs W (He.ga K "NoPart"))
    tNext) tNext)
    (tSeq (tRet (tCallS (spD K (S_parted_of K)) (WE W) (tCons (tVar 0) (tCons (tVar 1) (tCons (tVar 2) tNil)))))
    tNext))))
theorem pure_parted {K : PySem.W.Frag} : ∀ W ds R X, S_parted K ds R X → SW K W (t_parted K W) (startD ["prime", "one", "other"] ds) { nx := fun _ => R .non, rt := R, xc := fun C _ => X C } := by
  rintro W _ R X ⟨d1, d2, d3, rfl, h1, h2, h3, hK, r⟩
  show SW K W (t_parted K W) [argS d1, argS d2, argS d3] _
  refine q_asked (ev_var (rd_argS d1)) (ev_var (rd_argS d2)) h1 h2 hK r ?_
  rintro p xs rfl rfl hp hx r
  refine q_asked (ev_var (rd_argS (.int p))) (ev_var (rd_argS d3)) h1 h3 hK r ?_
  rintro q ys e rfl _ hy r
  cases e
  have hb := prime_bd hp
  have hy2 := hy.2
  rw [intsD_li, intsD_li] at r
  refine q_when (b := decide (at0 ys 0 = 0)) (et_test (ev_eqI (ev_ixI (ev_var rfl) ev_int (by decide) (by omega)) ev_int)) (fun z => ?_) (fun z => ?_)
  · refine q_raise ?_
    rw [if_pos (of_decide_eq_true z)] at r
    exact r
  · have z1 := of_decide_eq_false z
    rw [if_neg z1] at r
    exact q_retCall (ea_cons (ev_var rfl) (ea_cons (ev_var rfl) (ea_cons (ev_var rfl) ea_nil))) ⟨p, xs, ys, rfl, hp, hx, hy, z1, r⟩
end Px

namespace Px
open PySem PySem.Spec PyProof.Rows L2
variable [Tb]
/-! ### the words: ev finds a value, sd a side condition -/
local macro_rules | `(tactic| walk_at "sd") => `(tactic| first
  | omega
  | assumption
  | rfl
  | exact cmul_l (by omega)
  | exact cmul_r (by omega)
  | exact cmul_at (by assumption) (by omega)
  | exact cmul_atR (by assumption) (by omega)
  | exact cdiv_small (by omega)
  | exact cpow_small (by omega)
  | decide
  | (simp only [List.length_map, List.length_range, List.length_append, List.length_cons, List.length_nil, List.length_replicate, Int.toNat_natCast] at *; omega))
local macro_rules | `(tactic| walk_at "ev") => `(tactic| first
  | exact ev_int
  | exact ev_var rfl
  | exact ev_varM rfl
  | exact ev_varS rfl
  | exact (ev_varM rfl).wkM
  | (with_reducible apply ev_add) <;> walk_at "ev"
  | (with_reducible apply ev_sub) <;> walk_at "ev"
  | (with_reducible apply ev_mul) <;> walk_at "ev"
  | (with_reducible apply ev_mod) <;> walk_at "ev"
  | (with_reducible apply ev_div) <;> walk_at "ev"
  | (with_reducible apply ev_pow) <;> walk_at "ev"
  | (with_reducible apply ev_neg) <;> walk_at "ev"
  | (with_reducible apply ev_lt) <;> walk_at "ev"
  | (with_reducible apply ev_le) <;> walk_at "ev"
  | (with_reducible apply ev_gt) <;> walk_at "ev"
  | (with_reducible apply ev_ge) <;> walk_at "ev"
  | (with_reducible apply ev_eqI) <;> walk_at "ev"
  | (with_reducible apply ev_neI) <;> walk_at "ev"
  | (with_reducible apply ev_eqLi) <;> walk_at "ev"
  | (with_reducible apply ev_neLi) <;> walk_at "ev"
  | (with_reducible apply ev_ixI) <;> walk_at "ev"
  | (with_reducible apply ev_lenI) <;> walk_at "ev"
  | (with_reducible apply ev_len) <;> walk_at "ev"
  | (with_reducible apply ev_min) <;> walk_at "ev"
  | (with_reducible apply ev_max) <;> walk_at "ev"
  | (with_reducible apply ev_abs) <;> walk_at "ev"
  | (with_reducible apply ev_sum) <;> walk_at "ev"
  | (with_reducible apply et_test) <;> walk_at "ev"
  | (with_reducible apply et_B) <;> walk_at "ev"
  | (with_reducible apply et_not) <;> walk_at "ev"
  | exact ev_bl
  | exact ev_non
  | exact ev_str
  | exact ev_ty
  | exact ev_cl
  | (with_reducible apply sto_nw) <;> walk_at "ev"
  | exact ea_nil
  | (with_reducible apply ea_cons) <;> walk_at "ev"
  | walk_at "sd")
local macro_rules | `(tactic| walk_at "is") => `(tactic| (refine' Ev.is ?_ ?_; walk_at "ev"))

/-! ### the laws' draws -/
def numL (c a w : Int) : Int :=
  if (10 : Int) ^ ((18 : Int).toNat) ≤ c then c / (1 + a % 7) else
    let b := ((c + 977 * a) * 48271 + w) % 2147483647
    b * (c + 31 * a + 7) * (b + c + 5) * (b * b + 11) / (1009 + a)
def S_law_number (K : PySem.W.Frag) : SpF := fun ds R X => ∃ c a w n, ds = [.int c, .int a, .int w] ∧ n ≤ 2000000 ∧ c.natAbs < 2 ^ n ∧ 0 ≤ a ∧ a ≤ 1000 ∧ R (.int (numL c a w))
theorem len_law_number {K : PySem.W.Frag} : ∀ ds R X, S_law_number K ds R X → ds.length = ["_law_cell", "_law_at", "_law_whole"].length := by
  rintro _ R X ⟨p, xs, ys, n, rfl, _⟩
  rfl
@[reducible] def t_law_number (K : PySem.W.Frag) (W : WX) : TS :=
  (tSeq (tIfS (tTest (tOp rGeX (tVar 0) (tOp rPowX (tC (.int 10)) (tC (.int 18))))) (tSeq (tRet (tOp rDivX (tVar 0) (tOp rAddX (tC (.int 1)) (tOp rModX (tVar 1) (tC (.int 7))))))
    tNext) tNext)
    (tSeq (tAsg (tOp rModX (tOp rAddX (tOp rMulX (tOp rAddX (tVar 0) (tOp rMulX (tC (.int 977)) (tVar 1))) (tC (.int 48271))) (tVar 2)) (tC (.int 2147483647))) (gName 3))
    (tSeq (tAsg (tOp rMulX (tVar 3) (tOp rAddX (tOp rAddX (tVar 0) (tOp rMulX (tC (.int 31)) (tVar 1))) (tC (.int 7)))) (gName 4))
    (tSeq (tRet (tOp rDivX (tOp rMulX (tOp rMulX (tVar 4) (tOp rAddX (tOp rAddX (tVar 3) (tVar 0)) (tC (.int 5)))) (tOp rAddX (tOp rMulX (tVar 3) (tVar 3)) (tC (.int 11)))) (tOp rAddX (tC (.int 1009)) (tVar 1))))
    tNext))))
theorem pure_law_number {K : PySem.W.Frag} : ∀ W ds R X, S_law_number K ds R X → SW K W (t_law_number K W) (startD ["_law_cell", "_law_at", "_law_whole", "_law_blend", "_law_more"] ds) { nx := fun _ => R .non, rt := R, xc := fun C _ => X C } := by
  rintro W _ R X ⟨c, a, w, n, rfl, hn, hc, h0, h1, r⟩
  show SW K W (t_law_number K W) [.nw (.int c), .nw (.int a), .nw (.int w), .no, .no] _
  refine q_when (b := decide ((10 : Int) ^ ((18 : Int).toNat) ≤ c)) (et_test (ev_ge (ev_var rfl) (ev_pow ev_int ev_int (cpow_small (by omega))))) (fun z => ?_) (fun z => ?_)
  · have z1 := of_decide_eq_true z
    have e : numL c a w = c / (1 + a % 7) := if_pos z1
    rw [e] at r
    exact q_ret (by walk_at "ev") r
  · have z1 := of_decide_eq_false z
    have e : numL c a w = _ := if_neg z1
    rw [e] at r
    refine q_set (sto_nw (by walk_at "ev")) ?_
    generalize hb : ((c + 977 * a) * 48271 + w) % 2147483647 = b at r
    have b0 : 0 ≤ b ∧ b < 2147483647 := by rw [← hb]; exact mod_rest (by decide)
    have bb : 0 ≤ b * b ∧ b * b ≤ 2147483647 * 2147483647 := ⟨Int.mul_nonneg b0.1 b0.1, Int.mul_le_mul (by omega) (by omega) b0.1 (by decide)⟩
    have k1 : (c + 31 * a + 7).natAbs < 2 ^ (n + 20 + 1) := by
      rw [Int.add_assoc]
      exact big_add hc (by omega)
    have k2 : b.natAbs < 2 ^ 31 := by omega
    have k3 : (b + c + 5).natAbs < 2 ^ (31 + n + 1 + 3 + 1) := big_add (n := 31 + n + 1) (k := 3) (big_add k2 hc) (by decide)
    refine q_set (sto_nw (ev_mul (ev_var rfl) (ev_add (ev_add (ev_var rfl) (ev_mul ev_int (ev_var rfl) (cmul_l (by omega)))) ev_int) (cmul_l (by omega)))) ?_
    refine q_ret (ev_div (ev_mul (ev_mul (ev_var rfl) (ev_add (ev_add (ev_var rfl) (ev_var rfl)) ev_int) (cmul_big (big_mul k2 k1) k3 (by omega))) (ev_add (ev_mul (ev_var rfl) (ev_var rfl) (cmul_l (by omega))) ev_int) (.inl (.inr ⟨by omega, by omega⟩))) (ev_add ev_int (ev_var rfl)) (cdiv_small (by omega))) r
abbrev wholeL (ns : List Int) : Int := ((ns.take 63).sum.natAbs : Int)
def primeL (ns : List Int) (b : Int) : Int := if (wholeL ns + b) / 60 % 2 = 0 then primesL.getD ((wholeL ns + b) / 120 % 25).toNat 0 else primesL.getD ((wholeL ns + b) / 120 % 5).toNat 0
theorem primeL_mem (ns : List Int) (b : Int) : primeL ns b ∈ primesL := by
  have k : ∀ j : Nat, j < 25 → primesL.getD j 0 ∈ primesL := by decide +kernel
  unfold primeL
  by_cases h : (wholeL ns + b) / 60 % 2 = 0
  · rw [if_pos h]
    exact k _ (by omega)
  · rw [if_neg h]
    exact k _ (by omega)
def S_law_prime (K : PySem.W.Frag) : SpF := fun ds R X => ∃ ns b, ds = [.fz ns, .int b] ∧ 0 ≤ b ∧ R (.int (primeL ns b))
theorem len_law_prime {K : PySem.W.Frag} : ∀ ds R X, S_law_prime K ds R X → ds.length = ["_law_script", "_law_by"].length := by
  rintro _ R X ⟨p, xs, rfl, _⟩
  rfl
@[reducible] def t_law_prime (K : PySem.W.Frag) (W : WX) : TS :=
  (tSeq (tAsg (tTup (tCons (tC (.int 2)) (tCons (tC (.int 3)) (tCons (tC (.int 5)) (tCons (tC (.int 7)) (tCons (tC (.int 11)) (tCons (tC (.int 13)) (tCons (tC (.int 17)) (tCons (tC (.int 19)) (tCons (tC (.int 23)) (tCons (tC (.int 29)) (tCons (tC (.int 31)) (tCons (tC (.int 37)) (tCons (tC (.int 41)) (tCons (tC (.int 43)) (tCons (tC (.int 47)) (tCons (tC (.int 53)) (tCons (tC (.int 59)) (tCons (tC (.int 61)) (tCons (tC (.int 67)) (tCons (tC (.int 71)) (tCons (tC (.int 73)) (tCons (tC (.int 79)) (tCons (tC (.int 83)) (tCons (tC (.int 89)) (tCons (tC (.int 97)) tNil)))))))))))))))))))))))))) (gName 2))
    (tSeq (tAsg (tOp rAddX (tCB rAbsX (tCons (tCB (rSum K) (tCons (tSl (rSlL K) (tVar 0) tNoPart (tPart (tC (.int 63)))) tNil)) tNil)) (tVar 1)) (gName 3))
    (tSeq (tRet (tIf (tTest (tOp (rEqX K) (tOp rModX (tOp rDivX (tVar 3) (tC (.int 60))) (tC (.int 2))) (tC (.int 0)))) (tOp (rIxX K) (tVar 2) (tOp rModX (tOp rDivX (tVar 3) (tC (.int 120))) (tC (.int 25)))) (tOp (rIxX K) (tVar 2) (tOp rModX (tOp rDivX (tVar 3) (tC (.int 120))) (tC (.int 5))))))
    tNext)))
theorem ev_sl63 {K : PySem.W.Frag} {ds : List Slot} {m : Md} {te : TE} {ns : List Int} (h : Ev K .I te ds (.fz ns)) : Ev K m (tSl (rSlL K) te tNoPart (tPart (tC (.int 63)))) ds (li (ns.take 63)) := by
  refine (ev_slF h eo_none (eo_some ev_int)).is ?_
  rw [show ((63 : Int)) = ((63 : Nat) : Int) from rfl, cut_to]
theorem pure_law_prime {K : PySem.W.Frag} : ∀ W ds R X, S_law_prime K ds R X → SW K W (t_law_prime K W) (startD ["_law_script", "_law_by", "_law_primes", "_law_whole"] ds) { nx := fun _ => R .non, rt := R, xc := fun C _ => X C } := by
  rintro W _ R X ⟨ns, b, rfl, hb, r⟩
  show SW K W (t_law_prime K W) [.ar (.fz ns), .nw (.int b), .no, .no] _
  refine q_set (s := .nw (.tup (primesL.map D.int))) (sto_nw (ev_tup (by simp only [primesL, List.map_cons, List.map_nil]; walk_at "ev") (by decide))) ?_
  refine q_set (s := .nw (.int (wholeL ns + b))) (sto_nw (ev_add (ev_abs (ev_sum (ev_sl63 (ev_var rfl)))) (ev_var rfl))) ?_
  refine q_ret (ev_if (b := decide ((wholeL ns + b) / 60 % 2 = 0)) (by walk_at "ev") (fun z => ?_) fun z => ?_) r
  · have z1 := of_decide_eq_true z
    have e : primeL ns b = _ := if_pos z1
    rw [e]
    exact ev_ixTI (ev_var rfl) (by walk_at "ev") (by omega) (by show _ < (25 : Int); omega)
  · have z1 := of_decide_eq_false z
    have e : primeL ns b = _ := if_neg z1
    rw [e]
    exact ev_ixTI (ev_var rfl) (by walk_at "ev") (by omega) (by show _ < (25 : Int); omega)
def cellsL (ns : List Int) : List Int := if ns = [] then [5] else ns.take 63
abbrev wholeC (ns : List Int) (b : Int) : Int := ((cellsL ns).sum.natAbs : Int) + 7 * b
def rowAt (ns : List Int) (b p : Int) (k : Nat) : Int :=
  let nm := numL ((cellsL ns).getD (((k : Int) + b) % (cellsL ns).length).toNat 0) (k + 5 * b) (wholeC ns b) / 3
  [nm % p, if decide (nm / 5 % 4 = 0) = true then nm % p else 0, wholeC ns b % p].getD (wholeC ns b / 3 % 3).toNat 0
def rowN (ns : List Int) (b most : Int) : Nat := (1 + wholeC ns b % most).toNat
def rowL (ns : List Int) (b p most : Int) : List Int := (List.range (rowN ns b most)).map (rowAt ns b p)
def Bits (n : Nat) (ns : List Int) : Prop := 3 ≤ n ∧ n ≤ 1999999 ∧ ∀ c ∈ ns, c.natAbs < 2 ^ n
theorem cellsL_pos (ns : List Int) : 1 ≤ (cellsL ns).length ∧ (cellsL ns).length ≤ 63 := by
  unfold cellsL
  split
  · decide
  · rename_i h
    rw [List.length_take]
    cases ns with
    | nil => exact absurd rfl h
    | cons x r => rw [List.length_cons]; omega
theorem cellsL_bits {n : Nat} {ns : List Int} (h : Bits n ns) : ∀ c ∈ cellsL ns, c.natAbs < 2 ^ n := fun c hc => by
  unfold cellsL at hc
  split at hc
  · rw [List.mem_singleton.mp hc]
    exact Nat.lt_of_lt_of_le (by decide) (Nat.pow_le_pow_right (by decide) h.1)
  · exact h.2.2 c (List.mem_of_mem_take hc)
theorem wholeC_nn (ns : List Int) {b : Int} (h : 0 ≤ b) : 0 ≤ wholeC ns b := by
  unfold wholeC
  omega
theorem rowAt_rest {ns : List Int} {b p : Int} (hp : 0 < p) (k : Nat) : 0 ≤ rowAt ns b p k ∧ rowAt ns b p k < p := by
  unfold rowAt
  generalize numL _ _ _ / 3 = nm
  have h1 := mod_rest (p := p) (a := nm) hp
  have h2 := mod_rest (p := p) (a := wholeC ns b) hp
  have k3 : ∀ x y z : Int, (0 ≤ x ∧ x < p) → (0 ≤ y ∧ y < p) → (0 ≤ z ∧ z < p) → ∀ j : Nat, 0 ≤ [x, y, z].getD j 0 ∧ [x, y, z].getD j 0 < p := fun x y z a b c j => by
    match j with
    | 0 => exact a
    | 1 => exact b
    | 2 => exact c
    | j + 3 => exact ⟨Int.le_refl 0, hp⟩
  refine k3 _ _ _ h1 ?_ h2 _
  split
  · exact h1
  · exact ⟨Int.le_refl 0, hp⟩
theorem rowL_rests {ns : List Int} {b p most : Int} (hp : 0 < p) : Rests p (rowL ns b p most) := rests_map fun i _ => rowAt_rest hp i
theorem rowL_len (ns : List Int) (b p most : Int) : (rowL ns b p most).length = rowN ns b most := by
  unfold rowL
  rw [List.length_map, List.length_range]
theorem rowN_bd (ns : List Int) (b : Int) {most : Int} (h : 0 < most) : 1 ≤ rowN ns b most ∧ (rowN ns b most : Int) ≤ most := by
  have := mod_rest (p := most) (a := wholeC ns b) h
  unfold rowN
  omega
theorem rowL_ok {ns : List Int} {b p most : Int} (hp : 0 < p) (h : 0 < most) (h2 : most ≤ 20) : RowOk p (rowL ns b p most) := by
  have := rowN_bd ns b h
  refine ⟨rowL_rests hp, ?_, ?_⟩ <;> (rw [rowL_len]; omega)
def S_law_row (K : PySem.W.Frag) : SpF := fun ds R X => ∃ ns b p most n, ds = [.fz ns, .int b, .int p, .int most] ∧ 0 ≤ b ∧ b ≤ 100 ∧ 0 < p ∧ p ≤ 1000 ∧ 0 < most ∧ most ≤ 100 ∧ Bits n ns ∧ R (li (rowL ns b p most))
theorem len_law_row {K : PySem.W.Frag} : ∀ ds R X, S_law_row K ds R X → ds.length = ["_law_script", "_law_by", "_law_prime_here", "_law_most"].length := by
  rintro _ R X ⟨ns, b, p, most, n, rfl, _⟩
  rfl
@[reducible] def t_law_row (K : PySem.W.Frag) (W : WX) : TS :=
  (tSeq (tAsg (tIf (tTest (tOp (rNeX K) (tVar 0) (tLst tNil))) (tSl (rSlL K) (tVar 0) tNoPart (tPart (tC (.int 63)))) (tLst (tCons (tC (.int 5)) tNil))) (gName 4))
    (tSeq (tPar 5 6 (tCons (tOp rAddX (tCB rAbsX (tCons (tCB (rSum K) (tCons (tVar 4) tNil)) tNil)) (tOp rMulX (tC (.int 7)) (tVar 1))) (tCons (tLst tNil) tNil)))
    (tSeq (tFor (iRng1 (tCons (tOp rAddX (tC (.int 1)) (tOp rModX (tVar 5) (tVar 3))) tNil)) (gName 7) (tSeq (tAsg (tOp rDivX (tCallS (spD K (S_law_number K)) (WE W) (tCons (tOp (rIxX K) (tVar 4) (tOp rModX (tOp rAddX (tVar 7) (tVar 1)) (tCB (rLenX K) (tCons (tVar 4) tNil)))) (tCons (tOp rAddX (tVar 7) (tOp rMulX (tC (.int 5)) (tVar 1))) (tCons (tVar 5) tNil)))) (tC (.int 3))) (gName 8))
    (tSeq (tAsg (tOp rModX (tVar 8) (tVar 2)) (gName 9))
    (tSeq (tDrop (tBM K "list" rAppend (tVar 6) (tCons (tOp (rIxX K) (tTup (tCons (tVar 9) (tCons (tIf (tTest (tOp (rEqX K) (tOp rModX (tOp rDivX (tVar 8) (tC (.int 5))) (tC (.int 4))) (tC (.int 0)))) (tVar 9) (tC (.int 0))) (tCons (tOp rModX (tVar 5) (tVar 2)) tNil)))) (tOp rModX (tOp rDivX (tVar 5) (tC (.int 3))) (tC (.int 3)))) tNil)))
    tNext))))
    (tSeq (tRet (tVar 6))
    tNext))))
theorem pure_law_row {K : PySem.W.Frag} : ∀ W ds R X, S_law_row K ds R X → SW K W (t_law_row K W) (startD ["_law_script", "_law_by", "_law_prime_here", "_law_most", "_law_cells", "_law_whole", "_law_found", "_law_at", "_law_number_here", "_law_rest"] ds) { nx := fun _ => R .non, rt := R, xc := fun C _ => X C } := by
  rintro W _ R X ⟨ns, b, p, most, n, rfl, b0, b1, p0, p1, m0, m1, hn, r⟩
  show SW K W (t_law_row K W) [.ar (.fz ns), .nw (.int b), .nw (.int p), .nw (.int most), .no, .no, .no, .no, .no, .no] _
  have hc := cellsL_pos ns
  have hw := wholeC_nn ns b0
  refine q_set (s := .nw (li (cellsL ns))) (sto_nw (ev_if (b := !decide (ns = [])) (et_test (ev_neF (ev_var rfl) (ev_lstI (ns := []) ea_nil (by decide)))) (fun z => ?_) fun z => ?_)) ?_
  · have z1 : ns ≠ [] := by simpa using z
    have e : cellsL ns = _ := if_neg z1
    rw [e]
    exact ev_sl63 (ev_var rfl)
  · have z1 : ns = [] := by simpa using z
    have e : cellsL ns = _ := if_pos z1
    rw [e]
    exact ev_lstI (ns := [5]) (by simp only [List.map_cons, List.map_nil]; walk_at "ev") (by decide)
  refine q_par (s1 := .nw (.int (wholeC ns b))) (s2 := .ow []) (sta_cons (sto_nw (by walk_at "ev")) (sta_cons (sto_ow (ev_lstI (ns := []) ea_nil (by decide))) sta_nil)) ?_ (by decide)
  have hN := rowN_bd ns b m0
  have hN2 : 1 + wholeC ns b % most = (rowN ns b most : Int) := by
    have := mod_rest (p := most) (a := wholeC ns b) m0
    unfold rowN
    omega
  refine q_for (it_range1_is (n := rowN ns b most) (by walk_at "ev") hN2 (by omega)) (fun i ds => ∃ s7 s8 s9, ds = [.ar (.fz ns), .nw (.int b), .nw (.int p), .nw (.int most), .nw (li (cellsL ns)), .nw (.int (wholeC ns b)), .ow (((List.range i).map (rowAt ns b p)).map D.int), s7, s8, s9]) ⟨_, _, _, rfl⟩ ?_ ?_
  · rintro i d _ hd ⟨s7, s8, s9, rfl⟩
    have hi := (List.getElem?_eq_some_iff.mp hd).1
    rw [rngD_len] at hi
    rw [rngD_get hi, Int.zero_add] at hd
    cases hd
    refine ⟨_, tg_name, ?_⟩
    have hm := mod_rest (p := ((cellsL ns).length : Int)) (a := (i : Int) + b) (by omega)
    generalize hnm : numL ((cellsL ns).getD (((i : Int) + b) % (cellsL ns).length).toNat 0) (i + 5 * b) (wholeC ns b) = nm
    refine q_set (s := .nw (.int (nm / 3))) (sto_nw (ev_div (ev_callI (ea_cons (ev_ixI (ev_var rfl) (ev_mod (ev_add (ev_var rfl) (ev_var rfl)) (ev_lenI (ev_var rfl)) (by omega)) hm.1 hm.2) (ea_cons (ev_add (ev_var rfl) (ev_mul ev_int (ev_var rfl) (cmul_l (by omega)))) (ea_cons (ev_var rfl) ea_nil))) ⟨_, _, _, n, rfl, ?_, ?_, ?_, ?_, ?_⟩) ev_int (cdiv_small (by omega)))) ?_
    · have := hn.2.1
      omega
    · exact cellsL_bits hn _ (List.mem_of_getElem? (getD_some (by omega)))
    · omega
    · omega
    · rw [hnm]
    refine q_set (sto_nw (by walk_at "ev")) ?_
    have em : ((List.range (i + 1)).map (rowAt ns b p)).map D.int = ((List.range i).map (rowAt ns b p)).map D.int ++ [.int (rowAt ns b p i)] := by
      rw [List.range_succ, List.map_append, List.map_append] <;> rfl
    refine q_app rfl (d := .int (rowAt ns b p i)) ?_ (by rw [List.length_map, List.length_map, List.length_range]; omega) (q_nx ?_)
    · have er : rowAt ns b p i = [nm / 3 % p, if decide (nm / 3 / 5 % 4 = 0) = true then nm / 3 % p else 0, wholeC ns b % p].getD (wholeC ns b / 3 % 3).toNat 0 := by
        unfold rowAt
        rw [hnm]
      rw [er]
      exact ev_ixTI (ev_tup (ea_cons (ev_var rfl) (ea_cons (ev_ifI (by walk_at "ev") (fun _ => ev_var rfl) fun _ => ev_int) (ea_cons (by walk_at "ev") ea_nil))) (by show 3 ≤ 100000; decide)) (by walk_at "ev") (by omega) (by show _ < (3 : Int); omega)
    · rw [em]
      exact ⟨_, _, _, rfl⟩
  · rintro _ ⟨s7, s8, s9, rfl⟩
    rw [rngD_len]
    exact q_retO rfl r
end Px

namespace Px
open PySem PySem.Spec PyProof.Rows L2
variable [Tb]
/-! ### the words: ev finds a value, sd a side condition -/
local macro_rules | `(tactic| walk_at "sd") => `(tactic| first
  | omega
  | assumption
  | rfl
  | exact cmul_l (by omega)
  | exact cmul_r (by omega)
  | exact cmul_at (by assumption) (by omega)
  | exact cmul_atR (by assumption) (by omega)
  | exact cdiv_small (by omega)
  | exact cpow_small (by omega)
  | decide
  | (simp only [List.length_map, List.length_range, List.length_append, List.length_cons, List.length_nil, List.length_replicate, Int.toNat_natCast] at *; omega))
local macro_rules | `(tactic| walk_at "ev") => `(tactic| first
  | exact ev_int
  | exact ev_var rfl
  | exact ev_varM rfl
  | exact ev_varS rfl
  | exact (ev_varM rfl).wkM
  | (with_reducible apply ev_add) <;> walk_at "ev"
  | (with_reducible apply ev_sub) <;> walk_at "ev"
  | (with_reducible apply ev_mul) <;> walk_at "ev"
  | (with_reducible apply ev_mod) <;> walk_at "ev"
  | (with_reducible apply ev_div) <;> walk_at "ev"
  | (with_reducible apply ev_pow) <;> walk_at "ev"
  | (with_reducible apply ev_neg) <;> walk_at "ev"
  | (with_reducible apply ev_lt) <;> walk_at "ev"
  | (with_reducible apply ev_le) <;> walk_at "ev"
  | (with_reducible apply ev_gt) <;> walk_at "ev"
  | (with_reducible apply ev_ge) <;> walk_at "ev"
  | (with_reducible apply ev_eqI) <;> walk_at "ev"
  | (with_reducible apply ev_neI) <;> walk_at "ev"
  | (with_reducible apply ev_eqLi) <;> walk_at "ev"
  | (with_reducible apply ev_neLi) <;> walk_at "ev"
  | (with_reducible apply ev_ixI) <;> walk_at "ev"
  | (with_reducible apply ev_lenI) <;> walk_at "ev"
  | (with_reducible apply ev_len) <;> walk_at "ev"
  | (with_reducible apply ev_min) <;> walk_at "ev"
  | (with_reducible apply ev_max) <;> walk_at "ev"
  | (with_reducible apply ev_abs) <;> walk_at "ev"
  | (with_reducible apply ev_sum) <;> walk_at "ev"
  | (with_reducible apply et_test) <;> walk_at "ev"
  | (with_reducible apply et_B) <;> walk_at "ev"
  | (with_reducible apply et_not) <;> walk_at "ev"
  | exact ev_bl
  | exact ev_non
  | exact ev_str
  | exact ev_ty
  | exact ev_cl
  | (with_reducible apply sto_nw) <;> walk_at "ev"
  | exact ea_nil
  | (with_reducible apply ea_cons) <;> walk_at "ev"
  | walk_at "sd")
local macro_rules | `(tactic| walk_at "is") => `(tactic| (refine' Ev.is ?_ ?_; walk_at "ev"))

/-! ### the laws' own product -/
def S_law_times (K : PySem.W.Frag) : SpF := fun ds R X => ∃ p xs ys, ds = [.int p, li xs, li ys] ∧ (0 < p ∧ p ≤ 1000) ∧ Rests p xs ∧ Rests p ys ∧ xs.length ≤ 1000 ∧ ys.length ≤ 1000 ∧ R (li (timesL p xs ys))
theorem len_law_times {K : PySem.W.Frag} : ∀ ds R X, S_law_times K ds R X → ds.length = ["_law_prime_here", "_law_one", "_law_other"].length := by
  rintro _ R X ⟨p, xs, ys, rfl, _⟩
  rfl
@[reducible] def t_law_times (K : PySem.W.Frag) (W : WX) : TS :=
  (tSeq (tAsg (tCB rMinX (tCons (tCB (rLenX K) (tCons (tVar 1) tNil)) (tCons (tCB (rLenX K) (tCons (tVar 2) tNil)) tNil))) (gName 3))
    (tSeq (tAsg (tOp rMulX (tLst (tCons (tC (.int 0)) tNil)) (tVar 3)) (gName 4))
    (tSeq (tFor (iRng1 (tCons (tVar 3) tNil)) (gName 5) (tSeq (tFor (iRng1 (tCons (tOp rSubX (tVar 3) (tVar 5)) tNil)) (gName 6) (tSeq (tAsg (tOp rAddX (tOp (rIxX K) (tVar 4) (tOp rAddX (tVar 5) (tVar 6))) (tOp rMulX (tOp (rIxX K) (tVar 1) (tVar 5)) (tOp (rIxX K) (tVar 2) (tVar 6)))) (gName 7))
    (tSeq (tAsg (tOp rModX (tVar 7) (tVar 0)) (gSub (tVar 4) (tOp rAddX (tVar 5) (tVar 6)) rSetL))
    tNext)))
    tNext))
    (tSeq (tRet (tVar 4))
    tNext))))
/-- place k behind i turns of the outer loop -/
def tmF (p : Int) (f g : Nat → Int) (i k : Nat) : Int := (sumN (min i (k + 1)) fun a => f a * g (k - a)) % p
theorem tmF_step {p : Int} {f g : Nat → Int} {i j : Nat} : (tmF p f g i (i + j) + f i * g j) % p = tmF p f g (i + 1) (i + j) := by
  unfold tmF
  rw [show min i (i + j + 1) = i by omega, show min (i + 1) (i + j + 1) = i + 1 by omega, sumN_succ, show i + j - i = j by omega]
  exact Eqv.add Eqv.mod Eqv.refl
theorem tmF_low {p : Int} {f g : Nat → Int} {i k : Nat} (h : k < i) : tmF p f g (i + 1) k = tmF p f g i k := by
  unfold tmF
  rw [show min i (k + 1) = k + 1 by omega, show min (i + 1) (k + 1) = k + 1 by omega]
theorem pure_law_times {K : PySem.W.Frag} : ∀ W ds R X, S_law_times K ds R X → SW K W (t_law_times K W) (startD ["_law_prime_here", "_law_one", "_law_other", "_law_many", "_law_found", "_law_at", "_law_far", "_law_here"] ds) { nx := fun _ => R .non, rt := R, xc := fun C _ => X C } := by
  rintro W _ R X ⟨p, xs, ys, rfl, hp, hx, hy, lx, ly, r⟩
  show SW K W (t_law_times K W) [.nw (.int p), .ar (li xs), .ar (li ys), .no, .no, .no, .no, .no] _
  generalize hm : min xs.length ys.length = mm
  refine q_set (s := .nw (.int mm)) (sto_nw ((ev_min (ev_lenI (ev_var rfl)) (ev_lenI (ev_var rfl))).is (by congr 1; omega))) ?_
  refine q_set (s := .ow (((List.range mm).map (tmF p (at0 xs) (at0 ys) 0)).map D.int)) (sto_ow ((ev_rep1 (ev_lstI (ns := [0]) (by simp only [List.map_cons, List.map_nil]; walk_at "ev") (by decide)) (ev_var rfl) (by omega) (by omega)).is ?_)) ?_
  · rw [li, show (mm : Int).toNat = mm by omega, replicate_map]
    congr 2
  refine q_for (it_range1_is (n := mm) (ev_var rfl) rfl (by omega)) (fun i ds => ∃ s5 s6 s7, ds = [.nw (.int p), .ar (li xs), .ar (li ys), .nw (.int mm), .ow (((List.range mm).map (tmF p (at0 xs) (at0 ys) i)).map D.int), s5, s6, s7]) ⟨_, _, _, rfl⟩ ?_ ?_
  · rintro i d _ hd ⟨s5, s6, s7, rfl⟩
    have hi := (List.getElem?_eq_some_iff.mp hd).1
    rw [rngD_len] at hi
    rw [rngD_get hi, Int.zero_add] at hd
    cases hd
    refine ⟨_, tg_name, ?_⟩
    refine q_for (it_range1_is (n := mm - i) (ev_sub (ev_var rfl) (ev_var rfl)) (by omega) (by omega))
      (fun j ds => ∃ s6 s7, ds = [.nw (.int p), .ar (li xs), .ar (li ys), .nw (.int mm), .ow (((List.range mm).map fun k => if k < i + j then tmF p (at0 xs) (at0 ys) (i + 1) k else tmF p (at0 xs) (at0 ys) i k).map D.int), .nw (.int i), s6, s7]) ?_ ?_ ?_
    · have e : ((List.range mm).map fun k => if k < i + 0 then tmF p (at0 xs) (at0 ys) (i + 1) k else tmF p (at0 xs) (at0 ys) i k) = (List.range mm).map (tmF p (at0 xs) (at0 ys) i) := by
        refine List.map_congr_left fun k hk => ?_
        by_cases h : k < i + 0
        · rw [if_pos h, tmF_low (by omega)]
        · rw [if_neg h]
      rw [e]
      exact ⟨_, _, rfl⟩
    · rintro j d _ hd ⟨s6, s7, rfl⟩
      have hj := (List.getElem?_eq_some_iff.mp hd).1
      rw [rngD_len] at hj
      rw [rngD_get hj, Int.zero_add] at hd
      cases hd
      refine ⟨_, tg_name, ?_⟩
      refine q_set (s := .nw (.int (tmF p (at0 xs) (at0 ys) i (i + j) + at0 xs i * at0 ys j))) (sto_nw ?_) ?_
      · refine Ev.is (ev_add (ev_ixI (ev_var rfl) (ev_add (ev_var rfl) (ev_var rfl)) (by omega) (by rw [List.length_map, List.length_range]; omega)) (ev_mul (ev_ixI (ev_var rfl) (ev_var rfl) (by omega) (by omega)) (ev_ixI (ev_var rfl) (ev_var rfl) (by omega) (by omega)) (cmul_at hx (by omega)))) ?_
        congr 1
        rw [show ((i : Int) + (j : Int)).toNat = i + j by omega, getD_map (by omega), if_neg (by omega)] <;> rfl
      · refine q_setI rfl (ev_mod (ev_var rfl) (ev_var rfl) hp.1) (ev_add (ev_var rfl) (ev_var rfl)) (by omega) (by rw [List.length_map, List.length_map, List.length_range]; omega) (q_nx ?_)
        have e : (((List.range mm).map fun k => if k < i + j then tmF p (at0 xs) (at0 ys) (i + 1) k else tmF p (at0 xs) (at0 ys) i k).map D.int).set ((i : Int) + (j : Int)).toNat (.int ((tmF p (at0 xs) (at0 ys) i (i + j) + at0 xs i * at0 ys j) % p)) = ((List.range mm).map fun k => if k < i + (j + 1) then tmF p (at0 xs) (at0 ys) (i + 1) k else tmF p (at0 xs) (at0 ys) i k).map D.int := by
          rw [map_set_int, set_map_range, show ((i : Int) + (j : Int)).toNat = i + j by omega, tmF_step]
          congr 1
          refine List.map_congr_left fun k hk => ?_
          by_cases h : k = i + j
          · subst h
            rw [if_pos rfl, if_pos (by omega)]
          · rw [if_neg h]
            by_cases h2 : k < i + j
            · rw [if_pos h2, if_pos (by omega)]
            · rw [if_neg h2, if_neg (by omega)]
        rw [← e]
        exact ⟨_, _, rfl⟩
    · rintro _ ⟨s6, s7, rfl⟩
      rw [rngD_len]
      refine q_nx ?_
      have e : ((List.range mm).map fun k => if k < i + (mm - i) then tmF p (at0 xs) (at0 ys) (i + 1) k else tmF p (at0 xs) (at0 ys) i k) = (List.range mm).map (tmF p (at0 xs) (at0 ys) (i + 1)) := by
        refine List.map_congr_left fun k hk => ?_
        have := List.mem_range.mp hk
        rw [if_pos (by omega)]
      rw [e]
      exact ⟨_, _, _, rfl⟩
  · rintro _ ⟨s5, s6, s7, rfl⟩
    rw [rngD_len]
    refine q_retO rfl ?_
    have e : (List.range mm).map (tmF p (at0 xs) (at0 ys) mm) = timesL p xs ys := by
      unfold timesL
      rw [hm]
      refine List.map_congr_left fun k hk => ?_
      have := List.mem_range.mp hk
      unfold tmF cv
      rw [show min mm (k + 1) = k + 1 by omega]
    rw [e]
    exact r
end Px

namespace Px
open PySem PySem.Spec PyProof.Rows L2
variable [Tb]
/-! ### the words: ev finds a value, sd a side condition -/
local macro_rules | `(tactic| walk_at "sd") => `(tactic| first
  | omega
  | assumption
  | rfl
  | exact cmul_l (by omega)
  | exact cmul_r (by omega)
  | exact cmul_at (by assumption) (by omega)
  | exact cmul_atR (by assumption) (by omega)
  | exact cdiv_small (by omega)
  | exact cpow_small (by omega)
  | decide
  | (simp only [List.length_map, List.length_range, List.length_append, List.length_cons, List.length_nil, List.length_replicate, Int.toNat_natCast] at *; omega))
local macro_rules | `(tactic| walk_at "ev") => `(tactic| first
  | exact ev_int
  | exact ev_var rfl
  | exact ev_varM rfl
  | exact ev_varS rfl
  | exact (ev_varM rfl).wkM
  | (with_reducible apply ev_add) <;> walk_at "ev"
  | (with_reducible apply ev_sub) <;> walk_at "ev"
  | (with_reducible apply ev_mul) <;> walk_at "ev"
  | (with_reducible apply ev_mod) <;> walk_at "ev"
  | (with_reducible apply ev_div) <;> walk_at "ev"
  | (with_reducible apply ev_pow) <;> walk_at "ev"
  | (with_reducible apply ev_neg) <;> walk_at "ev"
  | (with_reducible apply ev_lt) <;> walk_at "ev"
  | (with_reducible apply ev_le) <;> walk_at "ev"
  | (with_reducible apply ev_gt) <;> walk_at "ev"
  | (with_reducible apply ev_ge) <;> walk_at "ev"
  | (with_reducible apply ev_eqI) <;> walk_at "ev"
  | (with_reducible apply ev_neI) <;> walk_at "ev"
  | (with_reducible apply ev_eqLi) <;> walk_at "ev"
  | (with_reducible apply ev_neLi) <;> walk_at "ev"
  | (with_reducible apply ev_ixI) <;> walk_at "ev"
  | (with_reducible apply ev_lenI) <;> walk_at "ev"
  | (with_reducible apply ev_len) <;> walk_at "ev"
  | (with_reducible apply ev_min) <;> walk_at "ev"
  | (with_reducible apply ev_max) <;> walk_at "ev"
  | (with_reducible apply ev_abs) <;> walk_at "ev"
  | (with_reducible apply ev_sum) <;> walk_at "ev"
  | (with_reducible apply et_test) <;> walk_at "ev"
  | (with_reducible apply et_B) <;> walk_at "ev"
  | (with_reducible apply et_not) <;> walk_at "ev"
  | exact ev_bl
  | exact ev_non
  | exact ev_str
  | exact ev_ty
  | exact ev_cl
  | (with_reducible apply sto_nw) <;> walk_at "ev"
  | exact ea_nil
  | (with_reducible apply ea_cons) <;> walk_at "ev"
  | walk_at "sd")
local macro_rules | `(tactic| walk_at "is") => `(tactic| (refine' Ev.is ?_ ?_; walk_at "ev"))

/-! ### put in, turned out -/
def S_put_of (K : PySem.W.Frag) : SpF := fun ds R X => ∃ p xs ys, ds = [.int p, li xs, li ys] ∧ (1 < p ∧ p ≤ 1000) ∧ Rests p xs ∧ Rests p ys ∧ xs.length ≤ 1000 ∧ ys.length ≤ 1000 ∧ at0 ys 0 = 0 ∧ R (li (putL p xs ys))
theorem len_put_of {K : PySem.W.Frag} : ∀ ds R X, S_put_of K ds R X → ds.length = ["prime", "outer", "inner"].length := by
  rintro _ R X ⟨p, xs, ys, rfl, _⟩
  rfl
@[reducible] def t_put_of (K : PySem.W.Frag) (W : WX) : TS :=
  (tSeq (tAsg (tCB rMinX (tCons (tCB (rLenX K) (tCons (tVar 1) tNil)) (tCons (tCB (rLenX K) (tCons (tVar 2) tNil)) tNil))) (gName 3))
    (tSeq (tAsg (tOp rMulX (tLst (tCons (tC (.int 0)) tNil)) (tVar 3)) (gName 4))
    (tSeq (tFor (iRng3 (tCons (tOp rSubX (tVar 3) (tC (.int 1))) (tCons (tUn rNegX (tC (.int 1))) (tCons (tUn rNegX (tC (.int 1))) tNil)))) (gName 5) (tSeq (tAsg (tCallS (spD K (S_times_of K)) (WE W) (tCons (tVar 0) (tCons (tVar 4) (tCons (tSl (rSlL K) (tVar 2) tNoPart (tPart (tVar 3))) tNil)))) (gName 4))
    (tSeq (tAsg (tOp rModX (tOp rAddX (tOp (rIxX K) (tVar 4) (tC (.int 0))) (tOp (rIxX K) (tVar 1) (tVar 5))) (tVar 0)) (gSub (tVar 4) (tC (.int 0)) rSetL))
    tNext)))
    (tSeq (tRet (tVar 4))
    tNext))))
theorem cut_all {xs : List Int} {k : Nat} : cut xs none (some (k : Int)) = xs.take k := cut_to xs k
theorem at0_takeC {xs : List Int} {N : Nat} {k : Nat} (h : k < N) : at0 (xs.take N) k = at0 xs k := at0_take h
theorem pure_put_of {K : PySem.W.Frag} : ∀ W ds R X, S_put_of K ds R X → SW K W (t_put_of K W) (startD ["prime", "outer", "inner", "many", "found", "place"] ds) { nx := fun _ => R .non, rt := R, xc := fun C _ => X C } := by
  rintro W _ R X ⟨p, xs, ys, rfl, hp, hx, hy, lx, ly, y0, r⟩
  show SW K W (t_put_of K W) [.nw (.int p), .ar (li xs), .ar (li ys), .no, .no, .no] _
  obtain ⟨N, hN⟩ : ∃ N, N = min xs.length ys.length := ⟨_, rfl⟩
  refine q_set (s := .nw (.int (N : Int))) (sto_nw (Ev.is (ev_min (ev_lenI (ev_var rfl)) (ev_lenI (ev_var rfl))) (by congr 1; omega))) ?_
  refine q_set (s := .ow (((List.range N).map fun k => hF (at0 xs) (at0 ys) N 0 k % p).map D.int)) (sto_ow (Ev.is (ev_rep1 (ev_lstI (ns := [0]) (by simp only [List.map_cons, List.map_nil]; walk_at "ev") (by decide)) (ev_var rfl) (by omega) (by omega)) ?_)) ?_
  · rw [Int.toNat_natCast, replicate_map]
    show D.lst _ = D.lst _
    congr 2
  refine q_for (it_range3 (i := (N : Int) - 1) (j := -1) (c := -1) (n := N) (ev_sub (ev_var rfl) ev_int) (ev_neg ev_int) (ev_neg ev_int) (rg_down N (by omega))) (fun s ds => ∃ s5, ds = [.nw (.int p), .ar (li xs), .ar (li ys), .nw (.int (N : Int)), .ow (((List.range N).map fun k => hF (at0 xs) (at0 ys) N s k % p).map D.int), s5]) ⟨_, rfl⟩ ?_ ?_
  · rintro s d _ hd ⟨s5, rfl⟩
    have hs := (List.getElem?_eq_some_iff.mp hd).1
    rw [stpD_len] at hs
    rw [stpD_get hs] at hd
    have hpl : (N : Int) - 1 + (s : Int) * -1 = ((N - 1 - s : Nat) : Int) := by omega
    rw [hpl] at hd
    cases hd
    refine ⟨_, tg_name, ?_⟩
    have hfr : Rests p ((List.range N).map fun k => hF (at0 xs) (at0 ys) N s k % p) := rests_map fun k _ => mod_rest (by omega)
    have ht : timesL p ((List.range N).map fun k => hF (at0 xs) (at0 ys) N s k % p) (ys.take N) = (List.range N).map fun k => cv (hF (at0 xs) (at0 ys) N s) (at0 ys) k % p := by
      unfold timesL
      rw [List.length_map, List.length_range, List.length_take, show min N (min N ys.length) = N by omega]
      refine List.map_congr_left fun k hk => ?_
      have hk := List.mem_range.mp hk
      refine cv_congr (p := p) (fun i hi => ?_) fun i hi => Eqv.of ?_
      · rw [show at0 ((List.range N).map fun k => hF (at0 xs) (at0 ys) N s k % p) i = hF (at0 xs) (at0 ys) N s i % p from getD_map (by omega)]
        exact Eqv.mod
      · rw [at0_take (by omega)]
    refine q_set (s := .ow (((List.range N).map fun k => cv (hF (at0 xs) (at0 ys) N s) (at0 ys) k % p).map D.int)) (sto_ow (ev_call (args := [.int p, li ((List.range N).map fun k => hF (at0 xs) (at0 ys) N s k % p), li (ys.take N)]) (ea_cons (ev_var rfl) (ea_cons (ev_var rfl) (ea_cons ((ev_sl (ns := ys) (ev_var rfl) eo_none (eo_some (ev_var rfl))).is (by rw [cut_to])) ea_nil))) ⟨p, _, _, rfl, by omega, hfr, fun x hx => hy x (List.mem_of_mem_take hx), by rw [List.length_map, List.length_range]; omega, by rw [List.length_take]; omega, by rw [ht]⟩)) ?_
    refine q_setI (j := 0) (d := .int ((cv (hF (at0 xs) (at0 ys) N s) (at0 ys) 0 % p + at0 xs (N - 1 - s)) % p)) rfl (Ev.is (ev_mod (ev_add (ev_ixI (ns := (List.range N).map fun k => cv (hF (at0 xs) (at0 ys) N s) (at0 ys) k % p) (ev_var rfl) ev_int (by decide) (by rw [List.length_map, List.length_range]; omega)) (ev_ixI (ns := xs) (ev_var rfl) (ev_var rfl) (by omega) (by omega))) (ev_var rfl) (by omega)) ?_) ev_int (by decide) (by rw [List.length_map, List.length_map, List.length_range]; omega) (q_nx ?_)
    · rw [Int.toNat_natCast, show ((List.range N).map fun k => cv (hF (at0 xs) (at0 ys) N s) (at0 ys) k % p).getD (0 : Int).toNat 0 = cv (hF (at0 xs) (at0 ys) N s) (at0 ys) 0 % p from getD_map (by omega)] <;> rfl
    · have em : (((List.range N).map fun k => cv (hF (at0 xs) (at0 ys) N s) (at0 ys) k % p).map D.int).set (0 : Int).toNat (.int ((cv (hF (at0 xs) (at0 ys) N s) (at0 ys) 0 % p + at0 xs (N - 1 - s)) % p)) = ((List.range N).map fun k => hF (at0 xs) (at0 ys) N (s + 1) k % p).map D.int := by
        rw [map_set_int, show (0 : Int).toNat = 0 from rfl, set_map_range]
        congr 1
        refine List.map_congr_left fun k _ => ?_
        rw [hF_step _ _ hs, show N - (s + 1) = N - 1 - s by omega]
        by_cases z : k = 0
        · rw [if_pos z, z]
          refine Eqv.trans (Eqv.add Eqv.mod Eqv.refl) (Eqv.of ?_)
          show _ = _ + at0 xs (N - 1 - s) * 1
          rw [Int.mul_one]
        · rw [if_neg z, show oneF k = 0 from if_neg z, Int.mul_zero, Int.add_zero]
      rw [← em]
      exact ⟨_, rfl⟩
  · rintro _ ⟨s5, rfl⟩
    rw [stpD_len]
    refine q_retO rfl ?_
    have e : (List.range N).map (fun k => hF (at0 xs) (at0 ys) N N k % p) = putL p xs ys := by
      unfold putL
      rw [← hN]
      refine List.map_congr_left fun k hk => ?_
      rw [hF_all y0 (List.mem_range.mp hk)]
    rw [e]
    exact r
abbrev cNoInside (K : PySem.W.Frag) : Addr := He.ga K "NoInside"
def S_put_in (K : PySem.W.Frag) : SpF := fun ds R X => ∃ d1 d2 d3, ds = [d1, d2, d3] ∧ Ty d1 ∧ TyL d2 ∧ TyL d3 ∧ PrimesK K ∧ Ask2 K X d1 d2 d3 (if at0 (intsD d3) 0 = 0 then R (li (putL (iv d1) (intsD d2) (intsD d3))) else X (cNoInside K))
theorem len_put_in {K : PySem.W.Frag} : ∀ ds R X, S_put_in K ds R X → ds.length = ["prime", "outer", "inner"].length := by
  rintro _ R X ⟨d1, d2, d3, rfl, _⟩
  rfl
@[reducible] def t_put_in (K : PySem.W.Frag) (W : WX) : TS :=
  (tSeq (tDrop (tCallS (spD K (S_asked_row K)) (WE W) (tCons (tVar 0) (tCons (tVar 1) tNil))))
    (tSeq (tDrop (tCallS (spD K (S_asked_row K)) (WE W) (tCons (tVar 0) (tCons (tVar 2) tNil))))
    (tSeq (tIfS (tTest (tOp (rNeX K) (tOp (rIxX K) (tVar 2) (tC (.int 0))) (tC (.int 0)))) (tSeq (tRs W (He.ga K "NoInside"))
    tNext) tNext)
    (tSeq (tRet (tCallS (spD K (S_put_of K)) (WE W) (tCons (tVar 0) (tCons (tVar 1) (tCons (tVar 2) tNil)))))
    tNext))))
theorem pure_put_in {K : PySem.W.Frag} : ∀ W ds R X, S_put_in K ds R X → SW K W (t_put_in K W) (startD ["prime", "outer", "inner"] ds) { nx := fun _ => R .non, rt := R, xc := fun C _ => X C } := by
  rintro W _ R X ⟨d1, d2, d3, rfl, h1, h2, h3, hK, r⟩
  show SW K W (t_put_in K W) [argS d1, argS d2, argS d3] _
  refine q_asked (ev_var (rd_argS d1)) (ev_var (rd_argS d2)) h1 h2 hK r ?_
  rintro p xs rfl rfl hp hx r
  refine q_asked (ev_var (rd_argS (.int p))) (ev_var (rd_argS d3)) h1 h3 hK r ?_
  rintro q ys e rfl _ hy r
  cases e
  have hb := prime_bd hp
  have hy2 := hy.2
  have hx2 := hx.2
  rw [intsD_li, intsD_li] at r
  refine q_when (b := !decide (at0 ys 0 = 0)) (et_test (ev_neI (ev_ixI (ev_var rfl) ev_int (by decide) (by omega)) ev_int)) (fun z => ?_) (fun z => ?_)
  · refine q_raise ?_
    rw [if_neg (fun y => by rw [decide_eq_true y] at z; cases z)] at r
    exact r
  · have z1 : at0 ys 0 = 0 := by
      by_cases y : at0 ys 0 = 0
      · exact y
      · rw [decide_eq_false y] at z
        cases z
    rw [if_pos z1] at r
    exact q_retCall (ea_cons (ev_var rfl) (ea_cons (ev_var rfl) (ea_cons (ev_var rfl) ea_nil))) ⟨p, xs, ys, rfl, by omega, hx.1, hy.1, by omega, by omega, z1, r⟩
/-- can be turned inside out -/
def outB (xs : List Int) : Bool := decide (2 ≤ xs.length) && (decide (at0 xs 0 = 0) && !decide (at0 xs 1 = 0))
theorem outB_ok {p : Int} {xs : List Int} (h : outB xs = true) (hx : Rests p xs) : OutOk p xs := by
  unfold outB at h
  simp only [Bool.and_eq_true, decide_eq_true_eq, Bool.not_eq_true', decide_eq_false_iff_not] at h
  exact ⟨hx, h.1, h.2.1, h.2.2⟩
theorem outB_of {p : Int} {xs : List Int} (h : OutOk p xs) : outB xs = true := by
  unfold outB
  rw [decide_eq_true h.l, decide_eq_true h.z, decide_eq_false h.o] <;> rfl
def S_turned_out (K : PySem.W.Frag) : SpF := fun ds R X => ∃ d1 d2, ds = [d1, d2] ∧ Ty d1 ∧ TyL d2 ∧ PrimesK K ∧ Ask1 K X d1 d2 (if outB (intsD d2) = true then R (li (outL (iv d1) (intsD d2))) else X (cNoInside K))
theorem len_turned_out {K : PySem.W.Frag} : ∀ ds R X, S_turned_out K ds R X → ds.length = ["prime", "row"].length := by
  rintro _ R X ⟨d1, d2, rfl, _⟩
  rfl
@[reducible] def t_turned_out (K : PySem.W.Frag) (W : WX) : TS :=
  (tSeq (tDrop (tCallS (spD K (S_asked_row K)) (WE W) (tCons (tVar 0) (tCons (tVar 1) tNil))))
    (tSeq (tIfS (tOr (tTest (tOp rLtX (tCB (rLenX K) (tCons (tVar 1) tNil)) (tC (.int 2)))) (tOr (tTest (tOp (rNeX K) (tOp (rIxX K) (tVar 1) (tC (.int 0))) (tC (.int 0)))) (tTest (tOp (rEqX K) (tOp (rIxX K) (tVar 1) (tC (.int 1))) (tC (.int 0)))))) (tSeq (tRs W (He.ga K "NoInside"))
    tNext) tNext)
    (tSeq (tAsg (tCallS (spD K (S_partner K)) (WE W) (tCons (tVar 0) (tCons (tOp (rIxX K) (tVar 1) (tC (.int 1))) tNil))) (gName 2))
    (tSeq (tAsg (tOp rAddX (tLst (tCons (tC (.int 0)) (tCons (tVar 2) tNil))) (tOp rMulX (tLst (tCons (tC (.int 0)) tNil)) (tOp rSubX (tCB (rLenX K) (tCons (tVar 1) tNil)) (tC (.int 2))))) (gName 3))
    (tSeq (tFor (iRng2 (tCons (tC (.int 2)) (tCons (tCB (rLenX K) (tCons (tVar 1) tNil)) tNil))) (gName 4) (tSeq (tAsg (tCallS (spD K (S_put_of K)) (WE W) (tCons (tVar 0) (tCons (tSl (rSlL K) (tVar 1) tNoPart (tPart (tOp rAddX (tVar 4) (tC (.int 1))))) (tCons (tSl (rSlL K) (tVar 3) tNoPart (tPart (tOp rAddX (tVar 4) (tC (.int 1))))) tNil)))) (gName 5))
    (tSeq (tAsg (tOp rModX (tOp rMulX (tUn rNegX (tOp (rIxX K) (tVar 5) (tVar 4))) (tVar 2)) (tVar 0)) (gSub (tVar 3) (tVar 4) rSetL))
    tNext)))
    (tSeq (tRet (tVar 3))
    tNext))))))
theorem toF_keep {p b : Int} {f : Nat → Int} {n m k : Nat} (h : k < n + 2) (hm : n ≤ m) : toF p b f m k = toF p b f n k := by
  induction m with
  | zero => rw [show n = 0 by omega]
  | succ m ih =>
    by_cases z : n ≤ m
    · show (if k = m + 2 then _ else toF p b f m k) = _
      rw [if_neg (by omega), ih z]
    · rw [show n = m + 1 by omega]
theorem pure_turned_out {K : PySem.W.Frag} : ∀ W ds R X, S_turned_out K ds R X → SW K W (t_turned_out K W) (startD ["prime", "row", "back", "found", "place", "told"] ds) { nx := fun _ => R .non, rt := R, xc := fun C _ => X C } := by
  rintro W _ R X ⟨d1, d2, rfl, h1, h2, hK, r⟩
  show SW K W (t_turned_out K W) [argS d1, argS d2, .no, .no, .no, .no] _
  refine q_asked (ev_var (rd_argS d1)) (ev_var (rd_argS d2)) h1 h2 hK r ?_
  rintro p xs rfl rfl hp hx r
  have hb := prime_bd hp
  have hx2 := hx.2
  rw [intsD_li] at r
  have r : if outB xs = true then R (li (outL p xs)) else X (cNoInside K) := r
  refine q_when (b := !outB xs) (EvT.is (et_or (b := decide ((xs.length : Int) < 2)) (c := decide (2 ≤ xs.length) && !(decide (at0 xs 0 = 0) && !decide (at0 xs 1 = 0))) (et_test (ev_lt (ev_lenI (ev_var rfl)) ev_int)) fun z => ?_) ?_) (fun z => ?_) fun z => ?_
  · have z1 := of_decide_eq_false z
    refine EvT.is (et_or (et_test (ev_neI (ev_ixI (ns := xs) (ev_var rfl) ev_int (by decide) (by omega)) ev_int)) fun _ => et_test (ev_eqI (ev_ixI (ns := xs) (ev_var rfl) ev_int (by decide) (by omega)) ev_int)) ?_
    rw [decide_eq_true (show 2 ≤ xs.length by omega), Bool.true_and]
    show (!decide (at0 xs 0 = 0) || decide (at0 xs 1 = 0)) = _
    cases decide (at0 xs 0 = 0) <;> cases decide (at0 xs 1 = 0) <;> rfl
  · unfold outB
    by_cases y : 2 ≤ xs.length
    · rw [decide_eq_true y, decide_eq_false (show ¬ (xs.length : Int) < 2 by omega), Bool.false_or, Bool.true_and, Bool.true_and]
    · rw [decide_eq_false y, decide_eq_true (show (xs.length : Int) < 2 by omega)] <;> rfl
  · refine q_raise ?_
    rw [if_neg (fun y => by rw [y] at z; cases z)] at r
    exact r
  have z1 : outB xs = true := by
    cases y : outB xs with
    | true => rfl
    | false =>
      rw [y] at z
      cases z
  rw [if_pos z1] at r
  have ho := outB_ok z1 hx.1
  obtain ⟨hr, hl, h0, h1'⟩ := id ho
  have hi := ho.inv hp
  have r1 : 0 ≤ at0 xs 1 ∧ at0 xs 1 < p := hr.get (by omega) 1
  refine q_set (s := .nw (.int (inv p (at0 xs 1)))) (sto_nw (ev_callI (args := [.int p, .int (at0 xs 1)]) (ea_cons (ev_var rfl) (ea_cons (ev_ixI (ns := xs) (ev_var rfl) ev_int (by decide) (by omega)) ea_nil)) ⟨p, at0 xs 1, rfl, hp, by omega, r1.2, rfl⟩)) ?_
  obtain ⟨b, hbe⟩ : ∃ b, b = inv p (at0 xs 1) := ⟨_, rfl⟩
  have hout : outL p xs = (List.range xs.length).map (toF p b (at0 xs) (xs.length - 2)) := by
    unfold outL
    rw [hbe]
  rw [hout] at r
  rw [← hbe] at hi ⊢
  have tr := to_rest (p := p) (b := b) (f := at0 xs) (by omega) (by omega)
  refine q_set (s := .ow (((List.range xs.length).map (toF p b (at0 xs) 0)).map D.int)) (sto_ow (Ev.is (ev_catI (ns := [0, b]) (ms := List.replicate ((xs.length : Int) - 2).toNat 0) (ev_lstI (by simp only [List.map_cons, List.map_nil]; walk_at "ev") (by show 2 ≤ 100000; decide)) (ev_rep1 (ev_lstI (ns := [0]) (by simp only [List.map_cons, List.map_nil]; walk_at "ev") (by decide)) (ev_sub (ev_lenI (ev_var rfl)) ev_int) (by omega) (by omega)) (by rw [List.length_replicate]; simp only [List.length_cons, List.length_nil]; omega)) ?_)) ?_
  · have e : [0, b] ++ List.replicate ((xs.length : Int) - 2).toNat 0 = (List.range xs.length).map (toF p b (at0 xs) 0) := by
      rw [replicate_map, show ((xs.length : Int) - 2).toNat = xs.length - 2 by omega]
      refine ext_getD (by simp only [List.length_append, List.length_cons, List.length_nil, List.length_map, List.length_range]; omega) fun k hk => ?_
      simp only [List.length_append, List.length_cons, List.length_nil, List.length_map, List.length_range] at hk
      rw [getD_map (by omega)]
      match k with
      | 0 => rfl
      | 1 => rfl
      | k + 2 =>
        show ((List.range (xs.length - 2)).map fun _ => (0 : Int)).getD k 0 = if k + 2 = 1 then b else 0
        rw [getD_map (by omega), if_neg (by omega)]
    rw [e]
  refine q_for (it_range2_is (n := xs.length - 2) ev_int (ev_lenI (ev_var rfl)) ⟨by decide, by decide, by omega, by omega⟩ (by omega)) (fun n ds => ∃ s4 s5, ds = [.nw (.int p), .ar (li xs), .nw (.int b), .ow (((List.range xs.length).map (toF p b (at0 xs) n)).map D.int), s4, s5]) ⟨_, _, rfl⟩ ?_ ?_
  · rintro n d _ hd ⟨s4, s5, rfl⟩
    have hn := (List.getElem?_eq_some_iff.mp hd).1
    rw [rngD_len] at hn
    rw [rngD_get hn] at hd
    cases hd
    refine ⟨_, tg_name, ?_⟩
    have c1 : ∀ zs : List Int, cut zs none (some ((n + 3 : Nat) : Int)) = zs.take (n + 3) := fun zs => cut_to zs _
    have htk : ((List.range xs.length).map (toF p b (at0 xs) n)).take (n + 3) = (List.range (n + 3)).map (toF p b (at0 xs) n) := by
      rw [← List.map_take, List.take_range, show min (n + 3) xs.length = n + 3 by omega]
    have hplace : Ev K .I (tOp rAddX (tVar 4) (tC (.int 1))) [.nw (.int p), .ar (li xs), .nw (.int b), .ow (((List.range xs.length).map (toF p b (at0 xs) n)).map D.int), .nw (.int (2 + (n : Int))), s5] (.int ((n + 3 : Nat) : Int)) := Ev.is (ev_add (ev_var rfl) ev_int) (by congr 1; omega)
    refine q_set (s := .nw (li (putL p (xs.take (n + 3)) ((List.range (n + 3)).map (toF p b (at0 xs) n))))) (sto_nw (ev_callI (args := [.int p, li (xs.take (n + 3)), li ((List.range (n + 3)).map (toF p b (at0 xs) n))]) (ea_cons (ev_var rfl) (ea_cons ((ev_sl (ns := xs) (ev_var rfl) eo_none (eo_some hplace)).is (by rw [c1])) (ea_cons ((ev_sl (ns := (List.range xs.length).map (toF p b (at0 xs) n)) (ev_var rfl) eo_none (eo_some hplace)).is (by rw [c1, htk])) ea_nil))) ⟨p, _, _, rfl, by omega, fun x hx => hr x (List.mem_of_mem_take hx), rests_map fun k _ => tr n k, by rw [List.length_take]; omega, by rw [List.length_map, List.length_range]; omega, by
      rw [show at0 ((List.range (n + 3)).map (toF p b (at0 xs) n)) 0 = toF p b (at0 xs) n 0 from getD_map (by omega)]
      exact (to_low p b (at0 xs) n).1, rfl⟩)) ?_
    have hat : (putL p (xs.take (n + 3)) ((List.range (n + 3)).map (toF p b (at0 xs) n))).getD (n + 2) 0 = cpF (at0 xs) (toF p b (at0 xs) n) (n + 2) % p := by
      show at0 _ _ = _
      rw [putL_at (by rw [List.length_take, List.length_map, List.length_range]; omega)]
      exact cp_congr (p := p) (fun i hi => Eqv.of (at0_take (by omega))) fun i hi => Eqv.of (getD_map (by omega))
    have hlp : (putL p (xs.take (n + 3)) ((List.range (n + 3)).map (toF p b (at0 xs) n))).length = n + 3 := by
      rw [putL_len, List.length_take, List.length_map, List.length_range]
      omega
    generalize putL p (xs.take (n + 3)) ((List.range (n + 3)).map (toF p b (at0 xs) n)) = told at hat hlp
    have mr := mod_rest (p := p) (a := cpF (at0 xs) (toF p b (at0 xs) n) (n + 2)) (by omega)
    refine q_setI (j := 2 + (n : Int)) (d := .int (-(cpF (at0 xs) (toF p b (at0 xs) n) (n + 2) % p) * b % p)) rfl (Ev.is (ev_mod (ev_mul (ev_neg (Ev.is (d' := .int (cpF (at0 xs) (toF p b (at0 xs) n) (n + 2) % p)) (ev_ixI (ns := told) (ev_var rfl) (ev_var rfl) (by omega) (by omega)) (by rw [show (2 + (n : Int)).toNat = n + 2 by omega, hat]))) (ev_var rfl) (cmul_l (by omega))) (ev_var rfl) (by omega)) rfl) (ev_var rfl) (by omega) (by rw [List.length_map, List.length_map, List.length_range]; omega) (q_nx ?_)
    have em : (((List.range xs.length).map (toF p b (at0 xs) n)).map D.int).set (2 + (n : Int)).toNat (.int (-(cpF (at0 xs) (toF p b (at0 xs) n) (n + 2) % p) * b % p)) = ((List.range xs.length).map (toF p b (at0 xs) (n + 1))).map D.int := by
      rw [map_set_int, show (2 + (n : Int)).toNat = n + 2 by omega, set_map_range]
      rfl
    rw [← em]
    exact ⟨_, _, rfl⟩
  · rintro _ ⟨s4, s5, rfl⟩
    rw [rngD_len]
    exact q_retO rfl r
/-! ### the law's powers -/
def S_law_put (K : PySem.W.Frag) : SpF := fun ds R X => ∃ p xs ys, ds = [.int p, li xs, li ys] ∧ (1 < p ∧ p ≤ 1000) ∧ Rests p xs ∧ Rests p ys ∧ xs.length ≤ 1000 ∧ ys.length ≤ 1000 ∧ 1 ≤ min xs.length ys.length ∧ at0 ys 0 = 0 ∧ R (li (putL p xs ys))
theorem len_law_put {K : PySem.W.Frag} : ∀ ds R X, S_law_put K ds R X → ds.length = ["_law_prime_here", "_law_outer", "_law_inner"].length := by
  rintro _ R X ⟨p, xs, ys, rfl, _⟩
  rfl
@[reducible] def t_law_put (K : PySem.W.Frag) (W : WX) : TS :=
  (tSeq (tAsg (tCB rMinX (tCons (tCB (rLenX K) (tCons (tVar 1) tNil)) (tCons (tCB (rLenX K) (tCons (tVar 2) tNil)) tNil))) (gName 3))
    (tSeq (tPar 4 5 (tCons (tOp rMulX (tLst (tCons (tC (.int 0)) tNil)) (tVar 3)) (tCons (tOp rAddX (tLst (tCons (tC (.int 1)) tNil)) (tOp rMulX (tLst (tCons (tC (.int 0)) tNil)) (tOp rSubX (tVar 3) (tC (.int 1))))) tNil)))
    (tSeq (tFor (iRng1 (tCons (tVar 3) tNil)) (gName 6) (tSeq (tAsg (tLc (iZip K (tCons (tVar 4) (tCons (tVar 5) tNil))) (gTup K 2 (gCons (gName 7) (gCons (gName 8) gNil))) tYes (tOp rModX (tOp rAddX (tVar 7) (tOp rMulX (tOp (rIxX K) (tVar 1) (tVar 6)) (tVar 8))) (tVar 0)) [7, 8]) (gName 4))
    (tSeq (tAsg (tCallS (spD K (S_law_times K)) (WE W) (tCons (tVar 0) (tCons (tVar 5) (tCons (tSl (rSlL K) (tVar 2) tNoPart (tPart (tVar 3))) tNil)))) (gName 5))
    tNext)))
    (tSeq (tRet (tVar 4))
    tNext))))
theorem zip_range {m : Nat} {f : Nat → Int} {xs : List Int} {h : Int → Int → Int} (hl : xs.length = m) : List.zipWith h ((List.range m).map f) xs = (List.range m).map fun k => h (f k) (at0 xs k) := by
  have e : xs = (List.range m).map (at0 xs) := ext_getD (by rw [List.length_map, List.length_range, hl]) fun k hk => by
    rw [getD_map (by omega)] <;> rfl
  conv => lhs; rw [e]
  rw [List.zipWith_map, List.zipWith_self]
theorem pure_law_put {K : PySem.W.Frag} : ∀ W ds R X, S_law_put K ds R X → SW K W (t_law_put K W) (startD ["_law_prime_here", "_law_outer", "_law_inner", "_law_many", "_law_found", "_law_here", "_law_at", "_law_mine", "_law_theirs"] ds) { nx := fun _ => R .non, rt := R, xc := fun C _ => X C } := by
  rintro W _ R X ⟨p, xs, ys, rfl, hp, hx, hy, lx, ly, l1, y0, r⟩
  show SW K W (t_law_put K W) [.nw (.int p), .ar (li xs), .ar (li ys), .no, .no, .no, .no, .no, .no] _
  obtain ⟨N, hN⟩ : ∃ N, N = min xs.length ys.length := ⟨_, rfl⟩
  have tl : (ys.take N).length = N := by rw [List.length_take]; omega
  have hpl := fun s => pw_len (p := p) tl s
  have hpr := fun s => pw_rests (p := p) (m := N) (here := ys.take N) (by omega) s
  have hpw := fun s k (hk : k < N) => (pw_pwf (p := p) tl s k hk).trans (pwf_congr (p := p) s fun i hi => Eqv.of (at0_take (xs := ys) (n := N) (by omega)))
  refine q_set (s := .nw (.int (N : Int))) (sto_nw (Ev.is (ev_min (ev_lenI (ev_var rfl)) (ev_lenI (ev_var rfl))) (by congr 1; omega))) ?_
  refine q_par (s1 := .nw (li ((List.range N).map fun k => (sumN 0 fun j => at0 xs j * pwf (at0 ys) j k) % p))) (s2 := .nw (li (pw p N (ys.take N) 0))) (sta_cons (sto_nw (Ev.is (ev_rep1 (ev_lstI (ns := [0]) (by simp only [List.map_cons, List.map_nil]; walk_at "ev") (by decide)) (ev_var rfl) (by omega) (by omega)) ?_)) (sta_cons (sto_nw (Ev.is (ev_catI (ns := [1]) (ms := List.replicate ((N : Int) - 1).toNat 0) (ev_lstI (ns := [1]) (by simp only [List.map_cons, List.map_nil]; walk_at "ev") (by show 1 ≤ 100000; decide)) (ev_rep1 (ev_lstI (ns := [0]) (by simp only [List.map_cons, List.map_nil]; walk_at "ev") (by decide)) (ev_sub (ev_var rfl) ev_int) (by omega) (by omega)) (by rw [List.length_replicate, List.length_singleton]; omega)) ?_)) sta_nil)) ?_ (by decide)
  · rw [Int.toNat_natCast, replicate_map]
    show D.lst _ = D.lst _
    congr 2
  · rw [show ((N : Int) - 1).toNat = N - 1 by omega, one_cat (by omega)] <;> rfl
  refine q_for (it_range1_is (n := N) (ev_var rfl) rfl (by omega)) (fun s ds => ∃ s6, ds = [.nw (.int p), .ar (li xs), .ar (li ys), .nw (.int (N : Int)), .nw (li ((List.range N).map fun k => (sumN s fun j => at0 xs j * pwf (at0 ys) j k) % p)), .nw (li (pw p N (ys.take N) s)), s6, .no, .no]) ⟨_, rfl⟩ ?_ ?_
  · rintro s d _ hd ⟨s6, rfl⟩
    have hs := (List.getElem?_eq_some_iff.mp hd).1
    rw [rngD_len] at hs
    rw [rngD_get hs, Int.zero_add] at hd
    cases hd
    refine ⟨_, tg_name, ?_⟩
    have pl := hpl s
    have pr := hpr s
    have pa := hpw s
    have x1 : 0 ≤ at0 xs s ∧ at0 xs s < p := hx.get (by omega) s
    have pn : pw p N (ys.take N) (s + 1) = timesL p (pw p N (ys.take N) s) (ys.take N) := rfl
    rw [pn]
    generalize pw p N (ys.take N) s = h at pl pr pa
    refine q_set (s := .nw (li ((List.range N).map fun k => (sumN (s + 1) fun j => at0 xs j * pwf (at0 ys) j k) % p))) (sto_nw (Ev.wkN (Ev.is (ev_mapZ (ns := (List.range N).map fun k => (sumN s fun j => at0 xs j * pwf (at0 ys) j k) % p) (ms := h) (f := fun x y => (x + at0 xs s * y) % p) (it_zip (Ev.wkM (ev_varM rfl)) (Ev.wkM (ev_varM rfl))) (by rw [List.length_map, List.length_range]; omega) (by decide) (by decide) fun x y _ _ => ev_mod (ev_add (ev_var rfl) (ev_mul (Ev.is (d' := .int (at0 xs s)) (ev_ixI (ns := xs) (ev_var rfl) (ev_var rfl) (by omega) (by omega)) (by rw [Int.toNat_natCast] <;> rfl)) (ev_var rfl) (cmul_l (by omega)))) (ev_var rfl) (by omega)) ?_) .M)) ?_
    · rw [zip_range pl]
      congr 1
      rw [List.map_congr_left fun k hk => ?_]
      have hk := List.mem_range.mp hk
      show _ % p = _ % p
      rw [sumN_succ]
      exact Eqv.add Eqv.mod (Eqv.mul Eqv.refl (pa k hk))
    refine q_set (s := .nw (li (timesL p h (ys.take N)))) (sto_nw (ev_callI (args := [.int p, li h, li (ys.take N)]) (ea_cons (ev_var rfl) (ea_cons (ev_var rfl) (ea_cons ((ev_sl (ns := ys) (ev_var rfl) eo_none (eo_some (ev_var rfl))).is (by rw [cut_to])) ea_nil))) ⟨p, h, ys.take N, rfl, by omega, pr, fun x hx => hy x (List.mem_of_mem_take hx), by omega, by omega, rfl⟩)) (q_nx ⟨_, rfl⟩)
  · rintro _ ⟨s6, rfl⟩
    rw [rngD_len]
    refine q_ret (ev_varM rfl) ?_
    have e : (List.range N).map (fun k => (sumN N fun j => at0 xs j * pwf (at0 ys) j k) % p) = putL p xs ys := by
      unfold putL
      rw [← hN]
      refine List.map_congr_left fun k hk => ?_
      rw [cp_more y0 (List.mem_range.mp hk)]
    rw [e]
    exact r
end Px

namespace K02
open PySem PySem.Spec PyProof.Rows L2 Px
variable [Tb]
/-! ### the words: ev finds a value, sd a side condition -/
local macro_rules | `(tactic| walk_at "sd") => `(tactic| first
  | omega
  | assumption
  | rfl
  | exact cmul_l (by omega)
  | exact cmul_r (by omega)
  | exact cmul_at (by assumption) (by omega)
  | exact cmul_atR (by assumption) (by omega)
  | exact cdiv_small (by omega)
  | exact cpow_small (by omega)
  | decide
  | (simp only [List.length_map, List.length_range, List.length_append, List.length_cons, List.length_nil, List.length_replicate, Int.toNat_natCast] at *; omega))
local macro_rules | `(tactic| walk_at "ev") => `(tactic| first
  | exact ev_int
  | exact ev_var rfl
  | exact ev_varM rfl
  | exact ev_varS rfl
  | exact (ev_varM rfl).wkM
  | (with_reducible apply ev_add) <;> walk_at "ev"
  | (with_reducible apply ev_sub) <;> walk_at "ev"
  | (with_reducible apply ev_mul) <;> walk_at "ev"
  | (with_reducible apply ev_mod) <;> walk_at "ev"
  | (with_reducible apply ev_div) <;> walk_at "ev"
  | (with_reducible apply ev_pow) <;> walk_at "ev"
  | (with_reducible apply ev_neg) <;> walk_at "ev"
  | (with_reducible apply ev_lt) <;> walk_at "ev"
  | (with_reducible apply ev_le) <;> walk_at "ev"
  | (with_reducible apply ev_gt) <;> walk_at "ev"
  | (with_reducible apply ev_ge) <;> walk_at "ev"
  | (with_reducible apply ev_eqI) <;> walk_at "ev"
  | (with_reducible apply ev_neI) <;> walk_at "ev"
  | (with_reducible apply ev_eqLi) <;> walk_at "ev"
  | (with_reducible apply ev_neLi) <;> walk_at "ev"
  | (with_reducible apply ev_ixI) <;> walk_at "ev"
  | (with_reducible apply ev_lenI) <;> walk_at "ev"
  | (with_reducible apply ev_len) <;> walk_at "ev"
  | (with_reducible apply ev_min) <;> walk_at "ev"
  | (with_reducible apply ev_max) <;> walk_at "ev"
  | (with_reducible apply ev_abs) <;> walk_at "ev"
  | (with_reducible apply ev_sum) <;> walk_at "ev"
  | (with_reducible apply et_test) <;> walk_at "ev"
  | (with_reducible apply et_B) <;> walk_at "ev"
  | (with_reducible apply et_not) <;> walk_at "ev"
  | exact ev_bl
  | exact ev_non
  | exact ev_str
  | exact ev_ty
  | exact ev_cl
  | (with_reducible apply sto_nw) <;> walk_at "ev"
  | exact ea_nil
  | (with_reducible apply ea_cons) <;> walk_at "ev"
  | walk_at "sd")
local macro_rules | `(tactic| walk_at "is") => `(tactic| (refine' Ev.is ?_ ?_; walk_at "ev"))

def top (i : Nat) : Stmt := PySem.Challenge.pw_powerrows_k02_whole_inside.main.body.getD i (.Pass ⟨0, 0, 0, 0⟩)
theorem sc_is_whole : FnScope ["thing"] ["thing"] (defScope (top 9)) := ⟨rfl, rfl, rfl, by decide +kernel, rfl, by decide +kernel, by decide +kernel⟩
theorem sc_asked_prime : FnScope ["prime"] ["prime"] (defScope (top 10)) := ⟨rfl, rfl, rfl, by decide +kernel, rfl, by decide +kernel, by decide +kernel⟩
theorem sc_are_rests : FnScope ["prime", "thing", "most", "one"] ["prime", "thing", "most"] (defScope (top 11)) := ⟨rfl, rfl, rfl, by decide +kernel, rfl, by decide +kernel, by decide +kernel⟩
theorem sc_asked_row : FnScope ["prime", "row"] ["prime", "row"] (defScope (top 12)) := ⟨rfl, rfl, rfl, by decide +kernel, rfl, by decide +kernel, by decide +kernel⟩
theorem sc_partner : FnScope ["prime", "number", "found"] ["prime", "number"] (defScope (top 13)) := ⟨rfl, rfl, rfl, by decide +kernel, rfl, by decide +kernel, by decide +kernel⟩
theorem sc_times_of : FnScope ["prime", "one", "other", "many", "place", "at"] ["prime", "one", "other"] (defScope (top 15)) := ⟨rfl, rfl, rfl, by decide +kernel, rfl, by decide +kernel, by decide +kernel⟩
theorem sc_put_of : FnScope ["prime", "outer", "inner", "many", "found", "place"] ["prime", "outer", "inner"] (defScope (top 17)) := ⟨rfl, rfl, rfl, by decide +kernel, rfl, by decide +kernel, by decide +kernel⟩
theorem sc_put_in : FnScope ["prime", "outer", "inner"] ["prime", "outer", "inner"] (defScope (top 18)) := ⟨rfl, rfl, rfl, by decide +kernel, rfl, by decide +kernel, by decide +kernel⟩
theorem sc_turned_out : FnScope ["prime", "row", "back", "found", "place", "told"] ["prime", "row"] (defScope (top 19)) := ⟨rfl, rfl, rfl, by decide +kernel, rfl, by decide +kernel, by decide +kernel⟩
theorem sc_law_number : FnScope ["_law_cell", "_law_at", "_law_whole", "_law_blend", "_law_more"] ["_law_cell", "_law_at", "_law_whole"] (defScope (top 21)) := ⟨rfl, rfl, rfl, by decide +kernel, rfl, by decide +kernel, by decide +kernel⟩
theorem sc_law_prime : FnScope ["_law_script", "_law_by", "_law_primes", "_law_whole"] ["_law_script", "_law_by"] (defScope (top 22)) := ⟨rfl, rfl, rfl, by decide +kernel, rfl, by decide +kernel, by decide +kernel⟩
theorem sc_law_row : FnScope ["_law_script", "_law_by", "_law_prime_here", "_law_most", "_law_cells", "_law_whole", "_law_found", "_law_at", "_law_number_here", "_law_rest"] ["_law_script", "_law_by", "_law_prime_here", "_law_most"] (defScope (top 23)) := ⟨rfl, rfl, rfl, by decide +kernel, rfl, by decide +kernel, by decide +kernel⟩
theorem sc_law_times : FnScope ["_law_prime_here", "_law_one", "_law_other", "_law_many", "_law_found", "_law_at", "_law_far", "_law_here"] ["_law_prime_here", "_law_one", "_law_other"] (defScope (top 24)) := ⟨rfl, rfl, rfl, by decide +kernel, rfl, by decide +kernel, by decide +kernel⟩
theorem sc_law_put : FnScope ["_law_prime_here", "_law_outer", "_law_inner", "_law_many", "_law_found", "_law_here", "_law_at", "_law_mine", "_law_theirs"] ["_law_prime_here", "_law_outer", "_law_inner"] (defScope (top 25)) := ⟨rfl, rfl, rfl, by decide +kernel, rfl, by decide +kernel, by decide +kernel⟩
theorem sc_law_none : FnScope ["_law_ask", "_law_what", "error", "_law_wrong"] ["_law_ask", "_law_what"] (defScope (top 26)) := ⟨rfl, rfl, rfl, by decide +kernel, rfl, by decide +kernel, by decide +kernel⟩
theorem sc_law_out_right : FnScope ["_law_prime_here", "_law_row_here", "_law_plain", "_law_handed", "_law_again", "_law_back"] ["_law_prime_here", "_law_row_here"] (defScope (top 27)) := ⟨rfl, rfl, rfl, by decide +kernel, rfl, by decide +kernel, by decide +kernel⟩
theorem sc_law : FnScope ["_law_script", "_law_whole", "_law_by", "_law_prime_here", "_law_most", "_law_outer", "_law_inner", "_law_far", "_law_handed", "_law_mine", "_law_again", "_law_found", "_law_many", "_law_once", "_law_one"] ["_law_script"] (defScope (top 28)) := ⟨rfl, rfl, rfl, by decide +kernel, rfl, by decide +kernel, by decide +kernel⟩
def lam_law_0 (ce : List (Str × Addr)) : Lam := mkLam (eK (eK (sE ((sB ((defBody (top 28)).getD 1 dS) 0).getD 9 dS)) 0) 1) "law" ce ["_law_prime_here", "_law_outer"]
theorem nsc_lam_law_0 : ∀ ce, NdefX.NScope ["_law_this", "_law_prime_here", "_law_outer"] ["_law_this"] (lam_law_0 ce).fr (lam_law_0 ce).scope := fun _ => (NdefX.nscope_by (by decide +kernel) : NdefX.NScope ["_law_this", "_law_prime_here", "_law_outer"] ["_law_this"] (lam_law_0 []).fr (lam_law_0 []).scope)
theorem fre_lam_law_0 : ∀ ce, ∀ y ∈ (lam_law_0 ce).scope.names, y.2 = .free → (defScope (top 28)).names.lookup y.1 = some .cell ∨ (defScope (top 28)).names.lookup y.1 = some .free := fun _ => (NdefX.ndef_free (fr := ["_law_prime_here", "_law_outer"]) (by decide +kernel) : ∀ y ∈ (lam_law_0 []).scope.names, y.2 = .free → (defScope (top 28)).names.lookup y.1 = some .cell ∨ (defScope (top 28)).names.lookup y.1 = some .free)
theorem kin_lam_law_0 : ∀ y ∈ (["_law_prime_here", "_law_outer"] : List Str), (defScope (top 28)).names.lookup y = some .cell := by decide +kernel
theorem lcl_lam_law_0 : ∀ ce, LamCl (lam_law_0 ce) ce ["_law_prime_here", "_law_outer"] := fun ce => ⟨rfl, rfl, (by decide +kernel : ∀ y ∈ (lam_law_0 []).scope.names, y.2 = .free → y.1 ∈ (["_law_prime_here", "_law_outer"] : List Str)), (by decide +kernel : ∀ y ∈ (["_law_prime_here", "_law_outer"] : List Str), (y, NameKind.free) ∈ (lam_law_0 []).scope.names)⟩
def lam_law_1 (ce : List (Str × Addr)) : Lam := mkLam (eK (eK (sE ((sB ((defBody (top 28)).getD 1 dS) 0).getD 10 dS)) 0) 1) "law" ce ["_law_prime_here"]
theorem nsc_lam_law_1 : ∀ ce, NdefX.NScope ["_law_this", "_law_prime_here"] ["_law_this"] (lam_law_1 ce).fr (lam_law_1 ce).scope := fun _ => (NdefX.nscope_by (by decide +kernel) : NdefX.NScope ["_law_this", "_law_prime_here"] ["_law_this"] (lam_law_1 []).fr (lam_law_1 []).scope)
theorem fre_lam_law_1 : ∀ ce, ∀ y ∈ (lam_law_1 ce).scope.names, y.2 = .free → (defScope (top 28)).names.lookup y.1 = some .cell ∨ (defScope (top 28)).names.lookup y.1 = some .free := fun _ => (NdefX.ndef_free (fr := ["_law_prime_here"]) (by decide +kernel) : ∀ y ∈ (lam_law_1 []).scope.names, y.2 = .free → (defScope (top 28)).names.lookup y.1 = some .cell ∨ (defScope (top 28)).names.lookup y.1 = some .free)
theorem kin_lam_law_1 : ∀ y ∈ (["_law_prime_here"] : List Str), (defScope (top 28)).names.lookup y = some .cell := by decide +kernel
theorem lcl_lam_law_1 : ∀ ce, LamCl (lam_law_1 ce) ce ["_law_prime_here"] := fun ce => ⟨rfl, rfl, (by decide +kernel : ∀ y ∈ (lam_law_1 []).scope.names, y.2 = .free → y.1 ∈ (["_law_prime_here"] : List Str)), (by decide +kernel : ∀ y ∈ (["_law_prime_here"] : List Str), (y, NameKind.free) ∈ (lam_law_1 []).scope.names)⟩
def lam_law_2 (ce : List (Str × Addr)) : Lam := mkLam (eK (eK (sE ((sB ((defBody (top 28)).getD 1 dS) 0).getD 11 dS)) 0) 1) "law" ce ["_law_prime_here"]
theorem nsc_lam_law_2 : ∀ ce, NdefX.NScope ["_law_this", "_law_prime_here"] ["_law_this"] (lam_law_2 ce).fr (lam_law_2 ce).scope := fun _ => (NdefX.nscope_by (by decide +kernel) : NdefX.NScope ["_law_this", "_law_prime_here"] ["_law_this"] (lam_law_2 []).fr (lam_law_2 []).scope)
theorem fre_lam_law_2 : ∀ ce, ∀ y ∈ (lam_law_2 ce).scope.names, y.2 = .free → (defScope (top 28)).names.lookup y.1 = some .cell ∨ (defScope (top 28)).names.lookup y.1 = some .free := fun _ => (NdefX.ndef_free (fr := ["_law_prime_here"]) (by decide +kernel) : ∀ y ∈ (lam_law_2 []).scope.names, y.2 = .free → (defScope (top 28)).names.lookup y.1 = some .cell ∨ (defScope (top 28)).names.lookup y.1 = some .free)
theorem kin_lam_law_2 : ∀ y ∈ (["_law_prime_here"] : List Str), (defScope (top 28)).names.lookup y = some .cell := by decide +kernel
theorem lcl_lam_law_2 : ∀ ce, LamCl (lam_law_2 ce) ce ["_law_prime_here"] := fun ce => ⟨rfl, rfl, (by decide +kernel : ∀ y ∈ (lam_law_2 []).scope.names, y.2 = .free → y.1 ∈ (["_law_prime_here"] : List Str)), (by decide +kernel : ∀ y ∈ (["_law_prime_here"] : List Str), (y, NameKind.free) ∈ (lam_law_2 []).scope.names)⟩
def tf : List He.Defn := [("law", none)]
structure Txt (K : PySem.W.Frag) (mg : Str → Option Value) : Prop where
  c_MOST : ∃ t, mg "MOST" = some (.int 20 t)
  c_PRIMES : mg "PRIMES" = some (.ref (He.ga K "PRIMES"))
  x_BadPrime : ExcG K mg "BadPrime" (He.ga K "BadPrime")
  x_BadRow : ExcG K mg "BadRow" (He.ga K "BadRow")
  x_NoInside : ExcG K mg "NoInside" (He.ga K "NoInside")
  x_NoPart : ExcG K mg "NoPart" (He.ga K "NoPart")
  x_PowerError : ExcG K mg "PowerError" (He.ga K "PowerError")
  m_abs : mg "abs" = none
  m_all : mg "all" = none
  m_any : mg "any" = none
  m_bool : mg "bool" = none
  m_int : mg "int" = none
  m_isinstance : mg "isinstance" = none
  m_len : mg "len" = none
  m_list : mg "list" = none
  m_min : mg "min" = none
  m_range : mg "range" = none
  m_sum : mg "sum" = none
  m_zip : mg "zip" = none
  f_is_whole : (∃ fd, FunD K "is_whole" "is_whole" (defArgs (top 9)) (defBody (top 9)) (defScope (top 9)) [] [] (He.ga K "is_whole") fd) ∧ mg "is_whole" = some (.ref (He.ga K "is_whole"))
  f_asked_prime : (∃ fd, FunD K "asked_prime" "asked_prime" (defArgs (top 10)) (defBody (top 10)) (defScope (top 10)) [] [] (He.ga K "asked_prime") fd) ∧ mg "asked_prime" = some (.ref (He.ga K "asked_prime"))
  f_are_rests : (∃ fd, FunD K "are_rests" "are_rests" (defArgs (top 11)) (defBody (top 11)) (defScope (top 11)) [] [] (He.ga K "are_rests") fd) ∧ mg "are_rests" = some (.ref (He.ga K "are_rests"))
  f_asked_row : (∃ fd, FunD K "asked_row" "asked_row" (defArgs (top 12)) (defBody (top 12)) (defScope (top 12)) [] [] (He.ga K "asked_row") fd) ∧ mg "asked_row" = some (.ref (He.ga K "asked_row"))
  f_partner : (∃ fd, FunD K "partner" "partner" (defArgs (top 13)) (defBody (top 13)) (defScope (top 13)) [] [] (He.ga K "partner") fd) ∧ mg "partner" = some (.ref (He.ga K "partner"))
  f_times_of : (∃ fd, FunD K "times_of" "times_of" (defArgs (top 15)) (defBody (top 15)) (defScope (top 15)) [] [] (He.ga K "times_of") fd) ∧ mg "times_of" = some (.ref (He.ga K "times_of"))
  f_put_of : (∃ fd, FunD K "put_of" "put_of" (defArgs (top 17)) (defBody (top 17)) (defScope (top 17)) [] [] (He.ga K "put_of") fd) ∧ mg "put_of" = some (.ref (He.ga K "put_of"))
  f_put_in : (∃ fd, FunD K "put_in" "put_in" (defArgs (top 18)) (defBody (top 18)) (defScope (top 18)) [] [] (He.ga K "put_in") fd) ∧ mg "put_in" = some (.ref (He.ga K "put_in"))
  f_turned_out : (∃ fd, FunD K "turned_out" "turned_out" (defArgs (top 19)) (defBody (top 19)) (defScope (top 19)) [] [] (He.ga K "turned_out") fd) ∧ mg "turned_out" = some (.ref (He.ga K "turned_out"))
  f_law_number : (∃ fd, FunD K "_law_number" "_law_number" (defArgs (top 21)) (defBody (top 21)) (defScope (top 21)) [] [] (He.ga K "_law_number") fd) ∧ mg "_law_number" = some (.ref (He.ga K "_law_number"))
  f_law_prime : (∃ fd, FunD K "_law_prime" "_law_prime" (defArgs (top 22)) (defBody (top 22)) (defScope (top 22)) [] [] (He.ga K "_law_prime") fd) ∧ mg "_law_prime" = some (.ref (He.ga K "_law_prime"))
  f_law_row : (∃ fd, FunD K "_law_row" "_law_row" (defArgs (top 23)) (defBody (top 23)) (defScope (top 23)) [] [] (He.ga K "_law_row") fd) ∧ mg "_law_row" = some (.ref (He.ga K "_law_row"))
  f_law_times : (∃ fd, FunD K "_law_times" "_law_times" (defArgs (top 24)) (defBody (top 24)) (defScope (top 24)) [] [] (He.ga K "_law_times") fd) ∧ mg "_law_times" = some (.ref (He.ga K "_law_times"))
  f_law_put : (∃ fd, FunD K "_law_put" "_law_put" (defArgs (top 25)) (defBody (top 25)) (defScope (top 25)) [] [] (He.ga K "_law_put") fd) ∧ mg "_law_put" = some (.ref (He.ga K "_law_put"))
  f_law_none : (∃ fd, FunD K "_law_none" "_law_none" (defArgs (top 26)) (defBody (top 26)) (defScope (top 26)) [] [] (He.ga K "_law_none") fd) ∧ mg "_law_none" = some (.ref (He.ga K "_law_none"))
  f_law_out_right : (∃ fd, FunD K "_law_out_right" "_law_out_right" (defArgs (top 27)) (defBody (top 27)) (defScope (top 27)) [] [] (He.ga K "_law_out_right") fd) ∧ mg "_law_out_right" = some (.ref (He.ga K "_law_out_right"))
  f_law : (∃ fd, FunD K "law" "law" (defArgs (top 28)) (defBody (top 28)) (defScope (top 28)) [] [] (He.ga K "law") fd) ∧ mg "law" = some (.ref (He.ga K "law"))
structure KF (K : PySem.W.Frag) : Prop where
  t_PRIMES : ∀ H', SqT K H' (He.ga K "PRIMES") (([2, 3, 5, 7, 11, 13, 17, 19, 23, 29, 31, 37, 41, 43, 47, 53, 59, 61, 67, 71, 73, 79, 83, 89, 97] : List Int).map V.int)
  e_PowerError : ExcC K (He.ga K "PowerError")
  p_PowerError : PySem.W.exmOne K (.ref (He.ga K "PowerError")) (.ref (He.ga K "PowerError")) = some true
  i_PowerError_PowerError : PySem.W.kitOne K (.ref (He.ga K "PowerError")) (.ref (He.ga K "PowerError")) = some true
  i_PowerError_BadPrime : PySem.W.kitOne K (.ref (He.ga K "PowerError")) (.ref (He.ga K "BadPrime")) = some false
  i_PowerError_BadRow : PySem.W.kitOne K (.ref (He.ga K "PowerError")) (.ref (He.ga K "BadRow")) = some false
  i_PowerError_NoPart : PySem.W.kitOne K (.ref (He.ga K "PowerError")) (.ref (He.ga K "NoPart")) = some false
  i_PowerError_NoInside : PySem.W.kitOne K (.ref (He.ga K "PowerError")) (.ref (He.ga K "NoInside")) = some false
  e_BadPrime : ExcC K (He.ga K "BadPrime")
  p_BadPrime : PySem.W.exmOne K (.ref (He.ga K "BadPrime")) (.ref (He.ga K "PowerError")) = some true
  i_BadPrime_PowerError : PySem.W.kitOne K (.ref (He.ga K "BadPrime")) (.ref (He.ga K "PowerError")) = some true
  i_BadPrime_BadPrime : PySem.W.kitOne K (.ref (He.ga K "BadPrime")) (.ref (He.ga K "BadPrime")) = some true
  i_BadPrime_BadRow : PySem.W.kitOne K (.ref (He.ga K "BadPrime")) (.ref (He.ga K "BadRow")) = some false
  i_BadPrime_NoPart : PySem.W.kitOne K (.ref (He.ga K "BadPrime")) (.ref (He.ga K "NoPart")) = some false
  i_BadPrime_NoInside : PySem.W.kitOne K (.ref (He.ga K "BadPrime")) (.ref (He.ga K "NoInside")) = some false
  e_BadRow : ExcC K (He.ga K "BadRow")
  p_BadRow : PySem.W.exmOne K (.ref (He.ga K "BadRow")) (.ref (He.ga K "PowerError")) = some true
  i_BadRow_PowerError : PySem.W.kitOne K (.ref (He.ga K "BadRow")) (.ref (He.ga K "PowerError")) = some true
  i_BadRow_BadPrime : PySem.W.kitOne K (.ref (He.ga K "BadRow")) (.ref (He.ga K "BadPrime")) = some false
  i_BadRow_BadRow : PySem.W.kitOne K (.ref (He.ga K "BadRow")) (.ref (He.ga K "BadRow")) = some true
  i_BadRow_NoPart : PySem.W.kitOne K (.ref (He.ga K "BadRow")) (.ref (He.ga K "NoPart")) = some false
  i_BadRow_NoInside : PySem.W.kitOne K (.ref (He.ga K "BadRow")) (.ref (He.ga K "NoInside")) = some false
  e_NoPart : ExcC K (He.ga K "NoPart")
  p_NoPart : PySem.W.exmOne K (.ref (He.ga K "NoPart")) (.ref (He.ga K "PowerError")) = some true
  i_NoPart_PowerError : PySem.W.kitOne K (.ref (He.ga K "NoPart")) (.ref (He.ga K "PowerError")) = some true
  i_NoPart_BadPrime : PySem.W.kitOne K (.ref (He.ga K "NoPart")) (.ref (He.ga K "BadPrime")) = some false
  i_NoPart_BadRow : PySem.W.kitOne K (.ref (He.ga K "NoPart")) (.ref (He.ga K "BadRow")) = some false
  i_NoPart_NoPart : PySem.W.kitOne K (.ref (He.ga K "NoPart")) (.ref (He.ga K "NoPart")) = some true
  i_NoPart_NoInside : PySem.W.kitOne K (.ref (He.ga K "NoPart")) (.ref (He.ga K "NoInside")) = some false
  e_NoInside : ExcC K (He.ga K "NoInside")
  p_NoInside : PySem.W.exmOne K (.ref (He.ga K "NoInside")) (.ref (He.ga K "PowerError")) = some true
  i_NoInside_PowerError : PySem.W.kitOne K (.ref (He.ga K "NoInside")) (.ref (He.ga K "PowerError")) = some true
  i_NoInside_BadPrime : PySem.W.kitOne K (.ref (He.ga K "NoInside")) (.ref (He.ga K "BadPrime")) = some false
  i_NoInside_BadRow : PySem.W.kitOne K (.ref (He.ga K "NoInside")) (.ref (He.ga K "BadRow")) = some false
  i_NoInside_NoPart : PySem.W.kitOne K (.ref (He.ga K "NoInside")) (.ref (He.ga K "NoPart")) = some false
  i_NoInside_NoInside : PySem.W.kitOne K (.ref (He.ga K "NoInside")) (.ref (He.ga K "NoInside")) = some true
theorem lit_rests {xs : List Int} {p : Int} (h : (xs.all fun x => decide (0 ≤ x) && decide (x < p)) = true) : Rests p xs := fun x hx => by
  have := List.all_eq_true.mp h x hx
  simpa using this
theorem cons_rests {p a : Int} {xs : List Int} (ha : 0 ≤ a ∧ a < p) (h : Rests p xs) : Rests p ([a] ++ xs) := fun x hx => by
  rcases List.mem_append.mp hx with z | z
  · rw [List.mem_singleton.mp z]
    exact ha
  · exact h x z
theorem put_ok {p : Int} {xs ys : List Int} {A : Prop} (h : at0 ys 0 = 0) : if at0 (intsD (li ys)) 0 = 0 then li (putL (iv (.int p)) (intsD (li xs)) (intsD (li ys))) = li (putL p xs ys) else A := by
  rw [intsD_li, intsD_li, if_pos h] <;> rfl
theorem out_ok {p : Int} {xs : List Int} {A : Prop} (h : outB xs = true) : if outB (intsD (li xs)) = true then li (outL (iv (.int p)) (intsD (li xs))) = li (outL p xs) else A := by
  rw [intsD_li, if_pos h] <;> rfl
section
variable {K : PySem.W.Frag} {W : WX} {ds : List Slot} {md : Md} {t1 t2 t3 : TE} {p : Int} {xs ys : List Int}
theorem ev_put (hK : PrimesK K) (hp : p ∈ primesL) (h1 : Ev K .I t1 ds (.int p)) (h2 : Ev K .I t2 ds (li xs)) (h3 : Ev K .I t3 ds (li ys)) (hx : RowOk p xs) (hy : RowOk p ys) (h0 : at0 ys 0 = 0) : Ev K md (tCallS (spD K (S_put_in K)) (WE W) (tCons t1 (tCons t2 (tCons t3 tNil)))) ds (li (putL p xs ys)) :=
  ev_callI (ea_cons h1 (ea_cons h2 (ea_cons h3 ea_nil))) ⟨.int p, li xs, li ys, rfl, ty_int p, tyL_li (by have := hx.2; omega), tyL_li (by have := hy.2; omega), hK, ask2_ok hp hx hy (put_ok h0)⟩
theorem ev_out (hK : PrimesK K) (hp : p ∈ primesL) (h1 : Ev K .I t1 ds (.int p)) (h2 : Ev K .I t2 ds (li xs)) (hx : OutOk p xs) (hl : xs.length ≤ 20) : Ev K md (tCallS (spD K (S_turned_out K)) (WE W) (tCons t1 (tCons t2 tNil))) ds (li (outL p xs)) :=
  ev_callI (ea_cons h1 (ea_cons h2 ea_nil)) ⟨.int p, li xs, rfl, ty_int p, tyL_li (by omega), hK, ask1_ok hp ⟨hx.r, by have := hx.l; omega, hl⟩ (out_ok (outB_of hx))⟩
theorem ev_lput (h1 : Ev K .I t1 ds (.int p)) (h2 : Ev K .I t2 ds (li xs)) (h3 : Ev K .I t3 ds (li ys)) (hp : p ∈ primesL) (hx : RowOk p xs) (hy : RowOk p ys) (h0 : at0 ys 0 = 0) : Ev K md (tCallS (spD K (S_law_put K)) (WE W) (tCons t1 (tCons t2 (tCons t3 tNil)))) ds (li (putL p xs ys)) :=
  ev_callI (ea_cons h1 (ea_cons h2 (ea_cons h3 ea_nil))) ⟨p, xs, ys, rfl, by have := prime_bd hp; omega, hx.1, hy.1, by have := hx.2; omega, by have := hy.2; omega, by have := hx.2; have := hy.2; omega, h0, rfl⟩
end
/-! ### the lambdas -/
def S_lam_law_0 (K : PySem.W.Frag) : SpF := fun ds R X => ∃ zs p xs, ds = [li zs, .int p, li xs] ∧ S_put_in K [.int p, li xs, li zs] R X
theorem len_lam_law_0 {K : PySem.W.Frag} : ∀ ds R X, S_lam_law_0 K ds R X → ds.length = 3 := by
  rintro _ R X ⟨zs, p, xs, rfl, _⟩
  rfl
theorem nol_lam_law_0 {K : PySem.W.Frag} : ∀ ds R X, S_lam_law_0 K ds R X → noLamL ds = true := by
  rintro _ R X ⟨zs, p, xs, rfl, _⟩
  simp only [noLamL, noLam, noLam_ints, Bool.and_true]
def S_lam_law_1 (K : PySem.W.Frag) : SpF := fun ds R X => ∃ zs p, ds = [li zs, .int p] ∧ S_turned_out K [.int p, li zs] R X
theorem len_lam_law_1 {K : PySem.W.Frag} : ∀ ds R X, S_lam_law_1 K ds R X → ds.length = 2 := by
  rintro _ R X ⟨zs, p, rfl, _⟩
  rfl
theorem nol_lam_law_1 {K : PySem.W.Frag} : ∀ ds R X, S_lam_law_1 K ds R X → noLamL ds = true := by
  rintro _ R X ⟨zs, p, rfl, _⟩
  simp only [noLamL, noLam, noLam_ints, Bool.and_true]
abbrev S_lam_law_2 (K : PySem.W.Frag) : SpF := S_lam_law_1 K
theorem len_lam_law_2 {K : PySem.W.Frag} : ∀ ds R X, S_lam_law_2 K ds R X → ds.length = 2 := len_lam_law_1
theorem nol_lam_law_2 {K : PySem.W.Frag} : ∀ ds R X, S_lam_law_2 K ds R X → noLamL ds = true := nol_lam_law_1
@[reducible] def t_lam_law_0 (K : PySem.W.Frag) (W : WX) : TE :=
  (tCallS (spD K (S_put_in K)) (WE W) (tCons (tVar 1) (tCons (tVar 2) (tCons (tVar 0) tNil))))
@[reducible] def t_lam_law_1 (K : PySem.W.Frag) (W : WX) : TE :=
  (tCallS (spD K (S_turned_out K)) (WE W) (tCons (tVar 1) (tCons (tVar 0) tNil)))
@[reducible] def t_lam_law_2 (K : PySem.W.Frag) (W : WX) : TE :=
  (tCallS (spD K (S_turned_out K)) (WE W) (tCons (tVar 1) (tCons (tVar 0) tNil)))
def SL (K : PySem.W.Frag) : Lam → SpF := fun L ds R X => (∃ ce, L = lam_law_0 ce ∧ S_lam_law_0 K ds R X) ∨ (∃ ce, L = lam_law_1 ce ∧ S_lam_law_1 K ds R X) ∨ (∃ ce, L = lam_law_2 ce ∧ S_lam_law_2 K ds R X)
theorem pure_lam_law_0 {K : PySem.W.Frag} : ∀ W ds R X, S_lam_law_0 K ds R X → SW K W (tSeq (tRet (t_lam_law_0 K W)) tNext) (startD ["_law_this", "_law_prime_here", "_law_outer"] ds) { nx := fun _ => False, rt := R, xc := fun C _ => X C } := by
  rintro W _ R X ⟨zs, p, xs, rfl, h⟩
  show SW K W (tSeq (tRet (t_lam_law_0 K W)) tNext) [.ar (li zs), .nw (.int p), .ar (li xs)] _
  exact q_retCall (ea_cons (ev_var rfl) (ea_cons (ev_var rfl) (ea_cons (ev_var rfl) ea_nil))) h
theorem pure_lam_law_1 {K : PySem.W.Frag} : ∀ W ds R X, S_lam_law_1 K ds R X → SW K W (tSeq (tRet (t_lam_law_1 K W)) tNext) (startD ["_law_this", "_law_prime_here"] ds) { nx := fun _ => False, rt := R, xc := fun C _ => X C } := by
  rintro W _ R X ⟨zs, p, rfl, h⟩
  show SW K W (tSeq (tRet (t_lam_law_1 K W)) tNext) [.ar (li zs), .nw (.int p)] _
  exact q_retCall (ea_cons (ev_var rfl) (ea_cons (ev_var rfl) ea_nil)) h
theorem pure_lam_law_2 {K : PySem.W.Frag} : ∀ W ds R X, S_lam_law_2 K ds R X → SW K W (tSeq (tRet (t_lam_law_2 K W)) tNext) (startD ["_law_this", "_law_prime_here"] ds) { nx := fun _ => False, rt := R, xc := fun C _ => X C } := pure_lam_law_1
/-! ### _law_none -/
def S_law_none (K : PySem.W.Frag) : SpF := fun ds R X => ∃ L cs zs, ds = [.lam L cs, li zs] ∧ (∀ R' X', X' (cNoInside K) → SL K L (li zs :: cs) R' X') ∧ KF K ∧ R (.bl true)
theorem len_law_none {K : PySem.W.Frag} : ∀ ds R X, S_law_none K ds R X → ds.length = ["_law_ask", "_law_what"].length := by
  rintro _ R X ⟨L, cs, zs, rfl, _⟩
  rfl
@[reducible] def t_law_none (K : PySem.W.Frag) (W : WX) : TS :=
  (tSeq (tTryAs K (.ref (He.ga K "PowerError")) 2 (fun W' => (tSeq (tDrop (tCallM K 0 (SL K) W' (tCons (tVar 1) tNil)))
    tNext)) (fun a cls d => (tSeq (tAsg (tLst (tCons (tCB (rIsEX K a cls d) (tCons (tVar 2) (tCons (tC (.ref (He.ga K "BadRow"))) tNil))) (tCons (tCB (rIsEX K a cls d) (tCons (tVar 2) (tCons (tC (.ref (He.ga K "BadPrime"))) tNil))) (tCons (tCB (rIsEX K a cls d) (tCons (tVar 2) (tCons (tC (.ref (He.ga K "NoPart"))) tNil))) tNil)))) (gName 3))
    (tSeq (tRet (tAndV (tCB (rIsEX K a cls d) (tCons (tVar 2) (tCons (tC (.ref (He.ga K "NoInside"))) tNil))) (tNotV (tCB (rAny K) (tCons (tVar 3) tNil)))))
    tNext))) W)
    (tSeq (tRet (tC (.bl false)))
    tNext))
theorem pure_law_none {K : PySem.W.Frag} : ∀ W ds R X, S_law_none K ds R X → SW K W (t_law_none K W) (startD ["_law_ask", "_law_what", "error", "_law_wrong"] ds) { nx := fun _ => R .non, rt := R, xc := fun C _ => X C } := by
  rintro W _ R X ⟨L, cs, zs, rfl, hL, kf, r⟩
  show SW K W (t_law_none K W) [.ar (.lam L cs), .ar (li zs), .no, .no] _
  refine q_try fun W' => ?_
  refine q_callM rfl (ea_cons (ev_var rfl) ea_nil) (hL _ _ ?_)
  refine ⟨true, kf.p_NoInside, fun _ a => ?_, fun z => nomatch z⟩
  refine q_set (s := .nw (.lst ([false, false, false].map D.bl))) (sto_nw (ev_lst (ea_cons (ev_isE (ev_var rfl) ev_cl kf.e_NoInside kf.i_NoInside_BadRow) (ea_cons (ev_isE (ev_var rfl) ev_cl kf.e_NoInside kf.i_NoInside_BadPrime) (ea_cons (ev_isE (ev_var rfl) ev_cl kf.e_NoInside kf.i_NoInside_NoPart) ea_nil))) (by decide))) ?_
  exact q_ret ((ev_andV (c := true) (ev_isE (ev_var rfl) ev_cl kf.e_NoInside kf.i_NoInside_NoInside) fun _ => (ev_notV (ev_any (bs := [false, false, false]) (ev_var rfl))).is rfl).is rfl) r
/-! ### _law_out_right -/
def S_law_out_right (K : PySem.W.Frag) : SpF := fun ds R X => ∃ p xs, ds = [.int p, li xs] ∧ p ∈ primesL ∧ OutOk p xs ∧ xs.length ≤ 20 ∧ KF K ∧ R (.bl true)
theorem len_law_out_right {K : PySem.W.Frag} : ∀ ds R X, S_law_out_right K ds R X → ds.length = ["_law_prime_here", "_law_row_here"].length := by
  rintro _ R X ⟨p, xs, rfl, _⟩
  rfl
@[reducible] def t_law_out_right (K : PySem.W.Frag) (W : WX) : TS :=
  (tSeq (tAsg (tOp rAddX (tLst (tCons (tC (.int 0)) (tCons (tC (.int 1)) tNil))) (tOp rMulX (tLst (tCons (tC (.int 0)) tNil)) (tOp rSubX (tCB (rLenX K) (tCons (tVar 1) tNil)) (tC (.int 2))))) (gName 2))
    (tSeq (tAsg (tCB (rListX K) (tCons (tVar 1) tNil)) (gName 3))
    (tSeq (tFor (iRng1 (tCons (tC (.int 2)) tNil)) (gName 4) (tSeq (tAsg (tCallS (spD K (S_turned_out K)) (WE W) (tCons (tVar 0) (tCons (tVar 3) tNil))) (gName 5))
    (tSeq (tIfS (tOr (tNot (tB (tCB (rIsiX K) (tCons (tVar 5) (tCons (tC (.ty "list")) tNil))))) (tOr (tTest (tOp (rNeX K) (tCB (rLenX K) (tCons (tVar 5) tNil)) (tCB (rLenX K) (tCons (tVar 1) tNil)))) (tTest (tOp (rNeX K) (tVar 3) (tVar 1))))) (tSeq (tRet (tC (.bl false)))
    tNext) tNext)
    (tSeq (tIfS (tOr (tTest (tOp (rNeX K) (tCallS (spD K (S_law_put K)) (WE W) (tCons (tVar 0) (tCons (tVar 1) (tCons (tVar 5) tNil)))) (tVar 2))) (tTest (tOp (rNeX K) (tCallS (spD K (S_law_put K)) (WE W) (tCons (tVar 0) (tCons (tVar 5) (tCons (tVar 1) tNil)))) (tVar 2)))) (tSeq (tRet (tC (.bl false)))
    tNext) tNext)
    (tSeq (tIfS (tTest (tOp (rNeX K) (tCallS (spD K (S_turned_out K)) (WE W) (tCons (tVar 0) (tCons (tVar 5) tNil))) (tVar 1))) (tSeq (tRet (tC (.bl false)))
    tNext) tNext)
    (tSeq (tDrop (tBM K "list" rAppend (tVar 5) (tCons (tC (.int 0)) tNil)))
    tNext))))))
    (tSeq (tRet (tC (.bl true)))
    tNext))))
theorem pure_law_out_right {K : PySem.W.Frag} : ∀ W ds R X, S_law_out_right K ds R X → SW K W (t_law_out_right K W) (startD ["_law_prime_here", "_law_row_here", "_law_plain", "_law_handed", "_law_again", "_law_back"] ds) { nx := fun _ => R .non, rt := R, xc := fun C _ => X C } := by
  rintro W _ R X ⟨p, xs, rfl, hp, hx, hl, kf, r⟩
  show SW K W (t_law_out_right K W) [.nw (.int p), .ar (li xs), .no, .no, .no, .no] _
  have hK : PrimesK K := kf.t_PRIMES
  have hb := prime_bd hp
  have x2 := hx.l
  have e1 := put_out hx hp
  have e2 := out_put hx hp
  have e3 := out_twice hx hp
  have ho := outL_ok hx hp
  have hol := outL_len p xs
  refine q_set (s := .nw (li ([0, 1] ++ (List.range (xs.length - 2)).map fun _ => (0 : Int)))) (sto_nw (ev_catI (ev_lstI (ns := [0, 1]) (by simp only [List.map_cons, List.map_nil]; walk_at "ev") (by decide)) (Ev.is (ev_rep1 (ev_lstI (ns := [0]) (by simp only [List.map_cons, List.map_nil]; walk_at "ev") (by decide)) (ev_sub (ev_lenI (ev_var rfl)) ev_int) (by omega) (by omega)) (by rw [replicate_map, show ((xs.length : Int) - 2).toNat = xs.length - 2 by omega] <;> rfl)) (by rw [List.length_map, List.length_range]; simp only [List.length_cons, List.length_nil]; omega))) ?_
  generalize hpl : ([0, 1] ++ (List.range (xs.length - 2)).map fun _ => (0 : Int)) = pl at e1 e2
  refine q_set (s := .nw (li xs)) (sto_nw (ev_listI (ev_var rfl))) ?_
  refine q_for (it_range1_is (n := 2) ev_int rfl (by decide)) (fun j ds => ∃ s4 s5, ds = [.nw (.int p), .ar (li xs), .nw (li pl), .nw (li xs), s4, s5]) ⟨_, _, rfl⟩ ?_ ?_
  · rintro j d _ hd ⟨s4, s5, rfl⟩
    refine ⟨_, tg_name, ?_⟩
    have xr : RowOk p xs := ⟨hx.r, by omega, hl⟩
    have br : RowOk p (outL p xs) := ⟨ho.r, by omega, by omega⟩
    refine q_set (s := .ow ((outL p xs).map D.int)) (sto_ow (Ev.wkN (ev_out hK hp (ev_var rfl) (ev_var rfl) hx hl) .N)) ?_
    generalize outL p xs = B at e1 e2 e3 ho hol br
    refine q_no (EvT.is (et_or (et_not (et_B (ev_isi (ev_var rfl) ev_ty (b := true) (by show kitB "list" "list" = _; decide +kernel) (ty_li B).1 (ty_li B).2))) fun _ => et_or (et_test (ev_neI (ev_lenI (ns := B) (ev_var rfl)) (ev_lenI (ns := xs) (ev_var rfl)))) fun _ => et_test (ev_neLi (ev_var rfl) (ev_var rfl))) (by rw [hol, decide_eq_true rfl, decide_eq_true rfl] <;> rfl)) ?_
    refine q_no (EvT.is (et_or (et_test (ev_neLi (ns := putL p xs B) (ms := pl) (ev_lput (ev_var rfl) (ev_var rfl) (ev_var rfl) hp xr br ho.z) (ev_var rfl))) fun _ => et_test (ev_neLi (ns := putL p B xs) (ms := pl) (ev_lput (ev_var rfl) (ev_var rfl) (ev_var rfl) hp br xr hx.z) (ev_var rfl))) (by rw [e1, e2, decide_eq_true rfl] <;> rfl)) ?_
    refine q_no (EvT.is (et_test (ev_neLi (ns := outL p B) (ms := xs) (ev_out hK hp (ev_var rfl) (ev_var rfl) ho (by omega)) (ev_var rfl))) (by rw [e3, decide_eq_true rfl] <;> rfl)) ?_
    refine q_app rfl ev_int (by rw [List.length_map]; omega) ?_
    exact q_nx ⟨_, _, rfl⟩
  · rintro _ ⟨s4, s5, rfl⟩
    exact q_ret ev_bl r
/-! ### the law -/
def S_law (K : PySem.W.Frag) : SpF := fun ds R X => ∃ ns n, ds = [.fz ns] ∧ Bits n ns ∧ KF K ∧ R (.bl true)
theorem len_law {K : PySem.W.Frag} : ∀ ds R X, S_law K ds R X → ds.length = ["_law_script"].length := by
  rintro _ R X ⟨p, n, rfl, _⟩
  rfl
theorem law_start {K : PySem.W.Frag} {ns : List Int} (kf : KF K) (hl : ns.length ≤ 63) (hb : ∀ z ∈ ns, z.natAbs < 2 ^ bitN) : S_law K [.fz ns] (fun d => d = .bl true) (fun _ => False) :=
  ⟨ns, bitN, rfl, ⟨bitN_bd.1, bitN_bd.2, hb⟩, kf, rfl⟩
theorem rowM (ns : List Int) (b p : Int) {most : Int} (h : 0 < most) : ((rowL ns b p most).length : Int) ≤ most := by
  have := rowN_bd ns b (most := most) h
  rw [rowL_len]
  omega
@[reducible] def t_law (K : PySem.W.Frag) (ce : List (Str × Addr)) (W : WX) : TS :=
  (tSeq (tAsg (tCB rAbsX (tCons (tCB (rSum K) (tCons (tSl (rSlL K) (tVar 0) tNoPart (tPart (tC (.int 63)))) tNil)) tNil)) (gName 1))
    (tSeq (tFor (iList K (tLst (tCons (tC (.int 0)) (tCons (tC (.int 1)) tNil)))) (gName 2) (tSeq (tAsg (tTup (tCons (tCallS (spD K (S_law_prime K)) (WE W) (tCons (tVar 0) (tCons (tVar 2) tNil))) (tCons (tIf (tTest (tOp (rEqX K) (tOp rModX (tVar 1) (tC (.int 32))) (tVar 2))) (tC (.int 18)) (tC (.int 8))) tNil))) (gTup K 2 (gCons (gName 3) (gCons (gName 4) gNil))))
    (tSeq (tAsg (tTup (tCons (tCallS (spD K (S_law_row K)) (WE W) (tCons (tVar 0) (tCons (tVar 2) (tCons (tVar 3) (tCons (tVar 4) tNil))))) (tCons (tOp rAddX (tLst (tCons (tC (.int 0)) tNil)) (tCallS (spD K (S_law_row K)) (WE W) (tCons (tVar 0) (tCons (tOp rAddX (tVar 2) (tC (.int 2))) (tCons (tVar 3) (tCons (tVar 4) tNil)))))) tNil))) (gTup K 2 (gCons (gName 5) (gCons (gName 6) gNil))))
    (tSeq (tAsg (tOp rAddX (tLst (tCons (tC (.int 0)) tNil)) (tCallS (spD K (S_law_row K)) (WE W) (tCons (tVar 0) (tCons (tOp rAddX (tVar 2) (tC (.int 3))) (tCons (tVar 3) (tCons (tVar 4) tNil)))))) (gName 7))
    (tSeq (tPar 8 9 (tCons (tCB (rListX K) (tCons (tVar 5) tNil)) (tCons (tCB (rListX K) (tCons (tVar 6) tNil)) tNil)))
    (tSeq (tFor (iRng1 (tCons (tC (.int 2)) tNil)) (gName 10) (tSeq (tAsg (tCallS (spD K (S_put_in K)) (WE W) (tCons (tVar 3) (tCons (tVar 8) (tCons (tVar 9) tNil)))) (gName 11))
    (tSeq (tIfS (tOr (tNot (tB (tCB (rIsiX K) (tCons (tVar 11) (tCons (tC (.ty "list")) tNil))))) (tTest (tOp (rNeX K) (tVar 11) (tCallS (spD K (S_law_put K)) (WE W) (tCons (tVar 3) (tCons (tVar 5) (tCons (tVar 6) tNil))))))) (tSeq (tRet (tC (.bl false)))
    tNext) tNext)
    (tSeq (tIfS (tOr (tTest (tOp (rNeX K) (tVar 8) (tVar 5))) (tTest (tOp (rNeX K) (tVar 9) (tVar 6)))) (tSeq (tRet (tC (.bl false)))
    tNext) tNext)
    (tSeq (tIfS (tB (tCB (rAnyX K) (tCons (tLc (iList K (tVar 11)) (gName 14) tYes (tCB (rIsiX K) (tCons (tVar 14) (tCons (tC (.ty "bool")) tNil))) [14]) tNil))) (tSeq (tRet (tC (.bl false)))
    tNext) tNext)
    (tSeq (tDrop (tBM K "list" rAppend (tVar 11) (tCons (tC (.int 0)) tNil)))
    tNext))))))
    (tSeq (tAsg (tCB (rNuC3 nuMin3) (tCons (tCB (rLenX K) (tCons (tVar 5) tNil)) (tCons (tCB (rLenX K) (tCons (tVar 6) tNil)) (tCons (tCB (rLenX K) (tCons (tVar 7) tNil)) tNil)))) (gName 12))
    (tSeq (tAsg (tCallS (spD K (S_put_in K)) (WE W) (tCons (tVar 3) (tCons (tCallS (spD K (S_put_in K)) (WE W) (tCons (tVar 3) (tCons (tVar 5) (tCons (tVar 6) tNil)))) (tCons (tVar 7) tNil)))) (gName 13))
    (tSeq (tIfS (tTest (tOp (rNeX K) (tSl (rSlL K) (tVar 13) tNoPart (tPart (tVar 12))) (tSl (rSlL K) (tCallS (spD K (S_put_in K)) (WE W) (tCons (tVar 3) (tCons (tVar 5) (tCons (tCallS (spD K (S_put_in K)) (WE W) (tCons (tVar 3) (tCons (tVar 6) (tCons (tVar 7) tNil)))) tNil)))) tNoPart (tPart (tVar 12))))) (tSeq (tRet (tC (.bl false)))
    tNext) tNext)
    (tSeq (tIfS (tNot (tB (tCallS (spD K (S_law_out_right K)) (WE W) (tCons (tVar 3) (tCons (tOp rAddX (tLst (tCons (tC (.int 0)) (tCons (tOp rAddX (tC (.int 1)) (tOp rModX (tVar 1) (tOp rSubX (tVar 3) (tC (.int 1))))) tNil))) (tVar 5)) tNil))))) (tSeq (tRet (tC (.bl false)))
    tNext) tNext)
    (tSeq (tIfS (tNot (tB (tCallL K ce ["_law_prime_here", "_law_outer"] [3, 5] (S_law_none K) W (tCons (tLamE (lam_law_0 ce)) (tCons (tOp rAddX (tLst (tCons (tOp rAddX (tC (.int 1)) (tOp rModX (tVar 1) (tOp rSubX (tVar 3) (tC (.int 1))))) tNil)) (tVar 5)) tNil))))) (tSeq (tRet (tC (.bl false)))
    tNext) tNext)
    (tSeq (tIfS (tNot (tB (tCallL K ce ["_law_prime_here"] [3] (S_law_none K) W (tCons (tLamE (lam_law_1 ce)) (tCons (tOp rAddX (tLst (tCons (tC (.int 0)) (tCons (tC (.int 0)) tNil))) (tVar 5)) tNil))))) (tSeq (tRet (tC (.bl false)))
    tNext) tNext)
    (tSeq (tIfS (tNot (tB (tCallL K ce ["_law_prime_here"] [3] (S_law_none K) W (tCons (tLamE (lam_law_2 ce)) (tCons (tOp (rIxX K) (tLst (tCons (tLst (tCons (tC (.int 0)) tNil)) (tCons (tLst (tCons (tC (.int 1)) (tCons (tC (.int 1)) tNil))) (tCons (tLst (tCons (tC (.int 1)) tNil)) (tCons (tLst (tCons (tC (.int 0)) (tCons (tC (.int 0)) tNil))) tNil))))) (tOp rModX (tVar 1) (tC (.int 4)))) tNil))))) (tSeq (tRet (tC (.bl false)))
    tNext) tNext)
    tNext)))))))))))))
    (tSeq (tRet (tAndV (tOp (rEqX K) (tCallS (spD K (S_turned_out K)) (WE W) (tCons (tC (.int 7)) (tCons (tLst (tCons (tC (.int 0)) (tCons (tC (.int 1)) (tCons (tC (.int 1)) (tCons (tC (.int 0)) tNil))))) tNil))) (tLst (tCons (tC (.int 0)) (tCons (tC (.int 1)) (tCons (tC (.int 6)) (tCons (tC (.int 2)) tNil)))))) (tOp (rEqX K) (tCallS (spD K (S_put_in K)) (WE W) (tCons (tC (.int 5)) (tCons (tLst (tCons (tC (.int 1)) (tCons (tC (.int 1)) (tCons (tC (.int 1)) tNil)))) (tCons (tLst (tCons (tC (.int 0)) (tCons (tC (.int 2)) (tCons (tC (.int 0)) tNil)))) tNil)))) (tLst (tCons (tC (.int 1)) (tCons (tC (.int 2)) (tCons (tC (.int 4)) tNil)))))))
    tNext)))
theorem pure_law {K : PySem.W.Frag} : ∀ ce W ds R X, S_law K ds R X → SW K W (t_law K ce W) (startD ["_law_script", "_law_whole", "_law_by", "_law_prime_here", "_law_most", "_law_outer", "_law_inner", "_law_far", "_law_handed", "_law_mine", "_law_again", "_law_found", "_law_many", "_law_once", "_law_one"] ds) { nx := fun _ => R .non, rt := R, xc := fun C _ => X C } := by
  rintro ce W _ R X ⟨ns, n, rfl, hn, kf, r⟩
  show SW K W (t_law K ce W) [.ar (.fz ns), .no, .no, .no, .no, .no, .no, .no, .no, .no, .no, .no, .no, .no, .no] _
  have hK : PrimesK K := kf.t_PRIMES
  refine q_set (s := .nw (.int (wholeL ns))) (sto_nw (ev_abs (ev_sum (ev_sl63 (ev_var rfl))))) ?_
  have hw0 : 0 ≤ wholeL ns := by
    unfold wholeL
    omega
  generalize wholeL ns = w at hw0
  refine q_for (items := [.int 0, .int 1]) (it_list ((ev_lst (ea_cons ev_int (ea_cons ev_int ea_nil)) (by decide)))) (fun i ds => ∃ s2 s3 s4 s5 s6 s7 s8 s9 s10 s11 s12 s13, ds = [.ar (.fz ns), .nw (.int w), s2, s3, s4, s5, s6, s7, s8, s9, s10, s11, s12, s13, .no]) ⟨_, _, _, _, _, _, _, _, _, _, _, _, rfl⟩ ?_ ?_
  · rintro i d _ hd ⟨s2, s3, s4, s5, s6, s7, s8, s9, s10, s11, s12, s13, rfl⟩
    obtain ⟨bb, rfl, hb0, hb1⟩ : ∃ b : Int, d = .int b ∧ 0 ≤ b ∧ b ≤ 1 := by
      match i, hd with
      | 0, hd => exact ⟨0, (Option.some.inj hd).symm, by decide, by decide⟩
      | 1, hd => exact ⟨1, (Option.some.inj hd).symm, by decide, by decide⟩
    refine ⟨_, tg_name, ?_⟩
    have hp := primeL_mem ns bb
    generalize hpe : primeL ns bb = p at hp
    have hpb := prime_bd hp
    obtain ⟨mo, hmo, hm0, hm1⟩ : ∃ mo : Int, (if w % 32 = bb then (18 : Int) else 8) = mo ∧ 0 < mo ∧ mo ≤ 18 := ⟨_, rfl, by split <;> decide, by split <;> decide⟩
    refine q_tup (ss := [.nw (.int p), .nw (.int mo)]) (sta_cons (sto_nw (ev_callI (ea_cons (ev_var rfl) (ea_cons (ev_var rfl) ea_nil)) ⟨ns, bb, rfl, hb0, by rw [hpe]⟩)) (sta_cons (sto_nw (ev_if (b := decide (w % 32 = bb)) (et_test (ev_eqI (ev_mod (ev_var rfl) ev_int (by decide)) (ev_var rfl))) (fun z => Ev.is ev_int (by rw [← hmo, if_pos (of_decide_eq_true z)])) fun z => Ev.is ev_int (by rw [← hmo, if_neg (of_decide_eq_false z)]))) sta_nil)) (put_cons (put_cons put_nil)) rfl (by decide) ?_
    have hrow : ∀ (b0 : Int) (tb : TE) (ds : List Slot), 0 ≤ b0 → b0 ≤ 10 → ds[0]? = some (.ar (.fz ns)) → ds[3]? = some (.nw (.int p)) → ds[4]? = some (.nw (.int mo)) → Ev K .I tb ds (.int b0) → ∀ md, Ev K md (tCallS (spD K (S_law_row K)) (WE W) (tCons (tVar 0) (tCons tb (tCons (tVar 3) (tCons (tVar 4) tNil))))) ds (li (rowL ns b0 p mo)) := fun b0 tb ds h1 h2 i0 i3 i4 h md => ev_callI (args := [.fz ns, .int b0, .int p, .int mo]) (ea_cons (ev_var (by rw [i0] <;> rfl)) (ea_cons h (ea_cons (ev_var (by rw [i3] <;> rfl)) (ea_cons (ev_var (by rw [i4] <;> rfl)) ea_nil)))) ⟨ns, b0, p, mo, n, rfl, by omega, by omega, by omega, by omega, by omega, by omega, hn, rfl⟩
    have l0 : ∀ {ds : List Slot} {md : Md}, Ev K md (tLst (tCons (tC (.int 0)) tNil)) ds (li [0]) := ev_lstI (ns := [0]) (by simp only [List.map_cons, List.map_nil]; walk_at "ev") (by decide)
    have hx := rowL_ok (ns := ns) (b := bb) (p := p) (most := mo) (by omega) hm0 (by omega)
    have hy := rowL_ok (ns := ns) (b := bb + 2) (p := p) (most := mo) (by omega) hm0 (by omega)
    have hz := rowL_ok (ns := ns) (b := bb + 3) (p := p) (most := mo) (by omega) hm0 (by omega)
    have lx := rowM ns bb p hm0
    have ly := rowM ns (bb + 2) p hm0
    have lz := rowM ns (bb + 3) p hm0
    refine q_tup (ss := [.nw (li (rowL ns bb p mo)), .nw (li ([0] ++ rowL ns (bb + 2) p mo))]) (sta_cons (sto_nw (hrow bb _ _ (by omega) (by omega) rfl rfl rfl (ev_var rfl) _)) (sta_cons (sto_nw (ev_catI l0 (hrow (bb + 2) _ _ (by omega) (by omega) rfl rfl rfl (ev_add (ev_var rfl) ev_int) _) (by rw [List.length_singleton]; omega))) sta_nil)) (put_cons (put_cons put_nil)) rfl (by decide) ?_
    refine q_set (s := .nw (li ([0] ++ rowL ns (bb + 3) p mo))) (sto_nw (ev_catI l0 (hrow (bb + 3) _ _ (by omega) (by omega) rfl rfl rfl (ev_add (ev_var rfl) ev_int) _) (by rw [List.length_singleton]; omega))) ?_
    clear hrow
    generalize rowL ns bb p mo = xs at hx lx
    obtain ⟨ys, hys⟩ : ∃ ys, ys = [0] ++ rowL ns (bb + 2) p mo := ⟨_, rfl⟩
    obtain ⟨ws, hws⟩ : ∃ ws, ws = [0] ++ rowL ns (bb + 3) p mo := ⟨_, rfl⟩
    have yl : ys.length = (rowL ns (bb + 2) p mo).length + 1 := by rw [hys, List.length_append, List.length_singleton]; omega
    have wl : ws.length = (rowL ns (bb + 3) p mo).length + 1 := by rw [hws, List.length_append, List.length_singleton]; omega
    have yo : RowOk p ys := ⟨by rw [hys]; exact cons_rests (by omega) hy.1, by omega, by omega⟩
    have wo : RowOk p ws := ⟨by rw [hws]; exact cons_rests (by omega) hz.1, by omega, by omega⟩
    have y0 : at0 ys 0 = 0 := by rw [hys] <;> rfl
    have w0 : at0 ws 0 = 0 := by rw [hws] <;> rfl
    have x2 := hx.2
    have y2 := yo.2
    have w2 := wo.2
    rw [← hys, ← hws]
    clear hys hws hy hz ly lz yl wl
    refine q_par (s1 := .nw (li xs)) (s2 := .nw (li ys)) (sta_cons (sto_nw (ev_listI (ev_var rfl))) (sta_cons (sto_nw (ev_listI (ev_var rfl))) sta_nil)) ?_ (by decide)
    show SW K W _ [.ar (.fz ns), .nw (.int w), .nw (.int bb), .nw (.int p), .nw (.int mo), .nw (li xs), .nw (li ys), .nw (li ws), .nw (li xs), .nw (li ys), s10, s11, s12, s13, .no] _
    have pl := putL_len p xs ys
    have po : RowOk p (putL p xs ys) := ⟨putL_rests (by omega), by omega, by omega⟩
    refine q_for (it_range1_is (n := 2) ev_int rfl (by decide)) (fun j ds => ∃ s10 s11, ds = [.ar (.fz ns), .nw (.int w), .nw (.int bb), .nw (.int p), .nw (.int mo), .nw (li xs), .nw (li ys), .nw (li ws), .nw (li xs), .nw (li ys), s10, s11, s12, s13, .no]) ⟨_, _, rfl⟩ ?_ ?_
    · rintro j d _ hd ⟨s10, s11, rfl⟩
      refine ⟨_, tg_name, ?_⟩
      refine q_set (s := .ow ((putL p xs ys).map D.int)) (sto_ow (Ev.wkN (ev_put hK hp (ev_var rfl) (ev_var rfl) (ev_var rfl) hx yo y0) .N)) ?_
      refine q_no (EvT.is (et_or (et_not (et_B (ev_isi (ev_var rfl) ev_ty (b := true) (by show kitB "list" "list" = _; decide +kernel) (ty_li (putL p xs ys)).1 (ty_li (putL p xs ys)).2))) fun _ => et_test (ev_neLi (ns := putL p xs ys) (ms := putL p xs ys) (ev_var rfl) (ev_lput (ev_var rfl) (ev_var rfl) (ev_var rfl) hp hx yo y0))) (by rw [decide_eq_true rfl] <;> rfl)) ?_
      generalize putL p xs ys = B at pl po
      refine q_no (EvT.is (et_or (et_test (ev_neLi (ev_var rfl) (ev_var rfl))) fun _ => et_test (ev_neLi (ev_var rfl) (ev_var rfl))) (by rw [decide_eq_true rfl, decide_eq_true rfl] <;> rfl)) ?_
      refine q_no (EvT.is (et_B (Ev.frz (k := 11) rfl rfl (ev_anyB (bs := B.map fun _ => false) (Ev.wkN (ev_mapIB (ns := B) (f := fun _ => false) (it_list (l := B.map D.int) (Ev.wkM (ev_varM rfl))) (by omega) (by decide) fun x hx2 => ev_isi (ev_var rfl) ev_ty (b := false) (by show kitB "int" "bool" = _; decide +kernel) (ty_int x).1 (ty_int x).2) .I)))) (by simp)) ?_
      refine q_app rfl ev_int (by rw [List.length_map]; omega) ?_
      exact q_nx ⟨_, _, rfl⟩
    rintro _ ⟨s10, s11, rfl⟩
    obtain ⟨M, hM⟩ : ∃ M : Nat, M = min (min xs.length ys.length) ws.length := ⟨_, rfl⟩
    refine q_set (s := .nw (.int (M : Int))) (sto_nw (Ev.is (ev_min3 (ev_lenI (ev_var rfl)) (ev_lenI (ev_var rfl)) (ev_lenI (ev_var rfl))) (by rw [hM]; congr 1; omega))) ?_
    have ql := putL_len p ys ws
    have qo : RowOk p (putL p ys ws) := ⟨putL_rests (by omega), by omega, by omega⟩
    have q0 : at0 (putL p ys ws) 0 = 0 := cp_L0 w0 (by omega) (by omega) y0
    refine q_set (s := .nw (li (putL p (putL p xs ys) ws))) (sto_nw (ev_put hK hp (ev_var rfl) (ev_put hK hp (ev_var rfl) (ev_var rfl) (ev_var rfl) hx yo y0) (ev_var rfl) po wo w0)) ?_
    have hass : (putL p (putL p xs ys) ws).take M = (putL p xs (putL p ys ws)).take M := by
      have q1 := putL_len p (putL p xs ys) ws
      have q2 := putL_len p xs (putL p ys ws)
      refine ext_getD (by rw [List.length_take, List.length_take]; omega) fun k hk => ?_
      rw [List.length_take] at hk
      show at0 _ k = at0 _ k
      unfold at0
      rw [List.getD_eq_getElem?_getD, List.getD_eq_getElem?_getD, List.getElem?_take_of_lt (by omega), List.getElem?_take_of_lt (by omega), ← List.getD_eq_getElem?_getD, ← List.getD_eq_getElem?_getD]
      exact put_assoc (by omega) y0 w0 (by omega)
    refine q_no (EvT.is (et_test (ev_neLi (ns := (putL p (putL p xs ys) ws).take M) (ms := (putL p xs (putL p ys ws)).take M) ((ev_sl (ns := putL p (putL p xs ys) ws) (ev_var rfl) eo_none (eo_some (ev_var rfl))).is (by rw [cut_to])) ((ev_sl (ns := putL p xs (putL p ys ws)) (ev_put hK hp (ev_var rfl) (ev_var rfl) (ev_put hK hp (ev_var rfl) (ev_var rfl) (ev_var rfl) yo wo w0) hx qo q0) eo_none (eo_some (ev_var rfl))).is (by rw [cut_to])))) (by rw [hass, decide_eq_true rfl] <;> rfl)) ?_
    clear hass
    generalize putL p (putL p xs ys) ws = Z
    show SW K W _ [.ar (.fz ns), .nw (.int w), .nw (.int bb), .nw (.int p), .nw (.int mo), .nw (li xs), .nw (li ys), .nw (li ws), .nw (li xs), .nw (li ys), s10, s11, .nw (.int (M : Int)), .nw (li Z), .no] _
    have m1 := mod_rest (p := p - 1) (a := w) (by omega)
    have hu : ∀ {md : Md}, Ev K md (tOp rAddX (tC (.int 1)) (tOp rModX (tVar 1) (tOp rSubX (tVar 3) (tC (.int 1))))) [.ar (.fz ns), .nw (.int w), .nw (.int bb), .nw (.int p), .nw (.int mo), .nw (li xs), .nw (li ys), .nw (li ws), .nw (li xs), .nw (li ys), s10, s11, .nw (.int (M : Int)), .nw (li Z), .no] (.int (1 + w % (p - 1))) := ev_add ev_int (ev_mod (ev_var rfl) (ev_sub (ev_var rfl) ev_int) (by omega))
    generalize hf : 1 + w % (p - 1) = f at hu
    have f1 : 0 < f ∧ f < p := by omega
    have ro2 : ∀ a b : Int, 0 ≤ a ∧ a < p → 0 ≤ b ∧ b < p → RowOk p ([a, b] ++ xs) := fun a b ha hb => ⟨cons_rests (p := p) (a := a) ha (cons_rests (p := p) (a := b) hb hx.1), by rw [List.length_append]; simp only [List.length_cons, List.length_nil]; omega, by rw [List.length_append]; simp only [List.length_cons, List.length_nil]; omega⟩
    refine q_no (EvT.is (et_not (et_B (ev_callI (args := [.int p, li ([0, f] ++ xs)]) (ea_cons (ev_var rfl) (ea_cons (ev_catI (ns := [0, f]) (ms := xs) (ev_lstI (ns := [0, f]) (ea_cons ev_int (ea_cons hu ea_nil)) (by show 2 ≤ 100000; decide)) (ev_var rfl) (by simp only [List.length_cons, List.length_nil]; omega)) ea_nil)) ⟨p, [0, f] ++ xs, rfl, hp, ⟨(ro2 0 f (by omega) (by omega)).1, by rw [List.length_append]; simp only [List.length_cons, List.length_nil]; omega, rfl, by show f ≠ 0; omega⟩, (ro2 0 f (by omega) (by omega)).2.2, kf, rfl⟩))) rfl) ?_
    refine q_no (EvT.is (et_not (et_B (ev_callLI (js := [3, 5]) (cs := [.int p, li xs]) (rest := [li ([f] ++ xs)]) (ea_cons ev_lmf (ea_cons (ev_catI (ns := [f]) (ms := xs) (ev_lstI (ns := [f]) (ea_cons hu ea_nil) (by show 1 ≤ 100000; decide)) (ev_var rfl) (by rw [List.length_singleton]; omega)) ea_nil)) (lcl_lam_law_0 ce) ⟨.inl rfl, .inl rfl, trivial⟩ rfl ⟨_, _, _, rfl, fun R' X' h => .inl ⟨ce, rfl, [f] ++ xs, p, xs, rfl, .int p, li xs, li ([f] ++ xs), rfl, ty_int p, tyL_li (by omega), tyL_li (by rw [List.length_append, List.length_singleton]; omega), hK, ask2_ok hp hx ⟨cons_rests (by omega) hx.1, by rw [List.length_append, List.length_singleton]; omega, by rw [List.length_append, List.length_singleton]; omega⟩ (by
      rw [intsD_li, if_neg (show ¬ at0 ([f] ++ xs) 0 = 0 from fun z => by
        have z : f = 0 := z
        omega)]
      exact h)⟩, kf, rfl⟩))) rfl) ?_
    have outNo : ∀ (zs : List Int) (R' : D → Prop) (X' : Addr → Prop), RowOk p zs → outB zs = false → X' (cNoInside K) → S_turned_out K [.int p, li zs] R' X' := fun zs R' X' h1 h2 h3 => ⟨.int p, li zs, rfl, ty_int p, tyL_li (by have := h1.2; omega), hK, ask1_ok hp h1 (by
      rw [intsD_li, h2, if_neg Bool.false_ne_true]
      exact h3)⟩
    refine q_no (EvT.is (et_not (et_B (ev_callLI (js := [3]) (cs := [.int p]) (rest := [li ([0, 0] ++ xs)]) (ea_cons ev_lmf (ea_cons (ev_catI (ns := [0, 0]) (ms := xs) (ev_lstI (ns := [0, 0]) (by simp only [List.map_cons, List.map_nil]; walk_at "ev") (by decide)) (ev_var rfl) (by simp only [List.length_cons, List.length_nil]; omega)) ea_nil)) (lcl_lam_law_1 ce) ⟨.inl rfl, trivial⟩ rfl ⟨_, _, _, rfl, fun R' X' h => .inr (.inl ⟨ce, rfl, [0, 0] ++ xs, p, rfl, outNo _ _ _ (ro2 0 0 (by omega) (by omega)) rfl h⟩), kf, rfl⟩))) rfl) ?_
    have m4 := mod_rest (p := 4) (a := w) (by decide)
    obtain ⟨zs, hzs, hzo, hzb⟩ : ∃ zs : List Int, ([li [0], li [1, 1], li [1], li [0, 0]] : List D)[(w % 4).toNat]? = some (li zs) ∧ RowOk p zs ∧ outB zs = false := by
      obtain ⟨k, hk⟩ : ∃ k : Nat, (w % 4).toNat = k := ⟨_, rfl⟩
      rw [hk]
      have hk4 : k < 4 := by omega
      have mk : ∀ zs : List Int, (zs.all fun x => decide (0 ≤ x) && decide (x < 2)) = true → 1 ≤ zs.length → zs.length ≤ 20 → RowOk p zs := fun zs h a b => ⟨fun x hx => by
        have := lit_rests h x hx
        omega, a, b⟩
      match k, hk4 with
      | 0, _ => exact ⟨[0], rfl, mk _ (by decide) (by decide) (by decide), by decide⟩
      | 1, _ => exact ⟨[1, 1], rfl, mk _ (by decide) (by decide) (by decide), by decide⟩
      | 2, _ => exact ⟨[1], rfl, mk _ (by decide) (by decide) (by decide), by decide⟩
      | 3, _ => exact ⟨[0, 0], rfl, mk _ (by decide) (by decide) (by decide), by decide⟩
    refine q_no (EvT.is (et_not (et_B (ev_callLI (js := [3]) (cs := [.int p]) (rest := [li zs]) (ea_cons ev_lmf (ea_cons (ev_ixL (l := [li [0], li [1, 1], li [1], li [0, 0]]) (ev_lst (ea_cons (ev_lstI (ns := [0]) (by simp only [List.map_cons, List.map_nil]; walk_at "ev") (by decide)) (ea_cons (ev_lstI (ns := [1, 1]) (by simp only [List.map_cons, List.map_nil]; walk_at "ev") (by decide)) (ea_cons (ev_lstI (ns := [1]) (by simp only [List.map_cons, List.map_nil]; walk_at "ev") (by decide)) (ea_cons (ev_lstI (ns := [0, 0]) (by simp only [List.map_cons, List.map_nil]; walk_at "ev") (by decide)) ea_nil)))) (by show 4 ≤ 100000; decide)) (ev_mod (ev_var rfl) ev_int (by decide)) (by omega) hzs) ea_nil)) (lcl_lam_law_2 ce) ⟨.inl rfl, trivial⟩ rfl ⟨_, _, _, rfl, fun R' X' h => .inr (.inr ⟨ce, rfl, zs, p, rfl, outNo _ _ _ hzo hzb h⟩), kf, rfl⟩))) rfl) ?_
    exact q_nx ⟨_, _, _, _, _, _, _, _, _, _, _, _, rfl⟩
  · rintro _ ⟨s2, s3, s4, s5, s6, s7, s8, s9, s10, s11, s12, s13, rfl⟩
    have l1 : outL 7 [0, 1, 1, 0] = [0, 1, 6, 2] := by decide +kernel
    have l2 : putL 5 [1, 1, 1] [0, 2, 0] = [1, 2, 4] := by decide +kernel
    refine q_ret (Ev.is (ev_andV (b := true) (c := true) (Ev.is (ev_eqLi (ns := outL 7 [0, 1, 1, 0]) (ms := [0, 1, 6, 2]) (ev_out hK (by decide) ev_int (ev_lstI (ns := [0, 1, 1, 0]) (by simp only [List.map_cons, List.map_nil]; walk_at "ev") (by decide)) ⟨lit_rests (by decide), by decide, rfl, by decide⟩ (by decide)) (ev_lstI (by simp only [List.map_cons, List.map_nil]; walk_at "ev") (by decide))) (by rw [l1, decide_eq_true rfl])) fun _ => Ev.is (ev_eqLi (ns := putL 5 [1, 1, 1] [0, 2, 0]) (ms := [1, 2, 4]) (ev_put hK (by decide) ev_int (ev_lstI (ns := [1, 1, 1]) (by simp only [List.map_cons, List.map_nil]; walk_at "ev") (by decide)) (ev_lstI (ns := [0, 2, 0]) (by simp only [List.map_cons, List.map_nil]; walk_at "ev") (by decide)) ⟨lit_rests (by decide), by decide, by decide⟩ ⟨lit_rests (by decide), by decide, by decide⟩ rfl) (ev_lstI (by simp only [List.map_cons, List.map_nil]; walk_at "ev") (by decide))) (by rw [l2, decide_eq_true rfl])) rfl) r
theorem good_is_whole {P : Program} {w : World} {K : PySem.W.Frag} {mg : Str → Option Value} {base : Heap} (T : Txt K mg)  : Good P w K mg base "is_whole" 1 ["thing"] (S_is_whole K) := by
  obtain ⟨⟨fd, F⟩, hm⟩ := T.f_is_whole
  refine good_mk (t := t_is_whole K) F hm sc_is_whole (fun _ _ _ _ _ _ us hl => match us, hl with | [_], _ => rfl) len_is_whole (by decide) (fun cdv A outer s H E hr => ?_) pure_is_whole
  exact (pss_cons (ps_ret (pe_and (pe_callB cIsi rfl T.m_isinstance (by decide +kernel) (pa_cons (pv 0) (pa_cons (pe_bltn (v := .ty "int") rfl T.m_int (by decide +kernel) rfl) pa_nil))) (pe_one (pe_not (pe_callB cIsi rfl T.m_isinstance (by decide +kernel) (pa_cons (pv 0) (pa_cons (pe_bltn (v := .ty "bool") rfl T.m_bool (by decide +kernel) rfl) pa_nil)))))))
      pss_nil)
theorem good_asked_prime {P : Program} {w : World} {K : PySem.W.Frag} {mg : Str → Option Value} {base : Heap} (T : Txt K mg) (G_is_whole : Good P w K mg base "is_whole" 1 ["thing"] (S_is_whole K)) : Good P w K mg base "asked_prime" 3 ["prime"] (S_asked_prime K) := by
  obtain ⟨⟨fd, F⟩, hm⟩ := T.f_asked_prime
  refine good_mk (t := t_asked_prime K) F hm sc_asked_prime (fun _ _ _ _ _ _ us hl => match us, hl with | [_], _ => rfl) len_asked_prime (by decide) (fun cdv A outer s H E hr => ?_) pure_asked_prime
  exact (pss_cons (ps_if (PW.pt (pw_or (pt_not (pt_val (pe_cal G_is_whole hr (by decide) rfl (L2N.takes_of rfl rfl rfl rfl) (pa_cons (pv 0) pa_nil)))) (pw_or1 (pt_cmpR op_notIn_seq (pv 0) (pe_glob rfl T.c_PRIMES rfl) (by rfl))))) (pss_cons (ps_rs rfl (L2N.takes_of rfl rfl rfl rfl) T.x_BadPrime rfl)
      pss_nil) pss_nil)
      pss_nil)
theorem good_are_rests {P : Program} {w : World} {K : PySem.W.Frag} {mg : Str → Option Value} {base : Heap} (T : Txt K mg) (G_is_whole : Good P w K mg base "is_whole" 1 ["thing"] (S_is_whole K)) : Good P w K mg base "are_rests" 2 ["prime", "thing", "most"] (S_are_rests K) := by
  obtain ⟨⟨fd, F⟩, hm⟩ := T.f_are_rests
  refine good_mk (t := t_are_rests K) F hm sc_are_rests (fun _ _ _ _ _ _ us hl => match us, hl with | [_, _, _], _ => rfl) len_are_rests (by decide) (fun cdv A outer s H E hr => ?_) pure_are_rests
  exact (pss_cons (ps_if (PW.pt (pw_or (pt_not (pt_val (pe_callB cIsi rfl T.m_isinstance (by decide +kernel) (pa_cons (pv 1) (pa_cons (pe_bltn (v := .ty "list") rfl T.m_list (by decide +kernel) rfl) pa_nil))))) (pw_or1 (pt_cmpR oGt (pe_callB cLen rfl T.m_len (by decide +kernel) (pa_cons (pv 1) pa_nil)) (pv 2) (nomark _))))) (pss_cons (ps_ret pe_bl)
      pss_nil) pss_nil)
      (pss_cons (ps_ret (pe_callB (cr_all rfl) rfl T.m_all (by decide +kernel) (pa_cons (pe_lc (own := [("one", 3)]) (g := (gName 3)) (tt := tYes) rfl sc_are_rests.nd (pi_list (pv 1)) (blkOk_by (by kernel_rfl)) (fun _ _ _ _ _ => (pg_name (i := 3) sc_are_rests.nd rfl (by first | exact Or.inl rfl | exact Or.inr rfl))) (fun _ _ _ _ _ => pts_nil) (fun _ _ _ _ _ => (pe_and (pe_cal G_is_whole hr (by decide) rfl takesN (pa_cons (pv 3) pa_nil)) (pe_one (pe_chain oLe oLt pe_int (pv 3) (pv 0)))))) pa_nil)))
      pss_nil))
theorem good_asked_row {P : Program} {w : World} {K : PySem.W.Frag} {mg : Str → Option Value} {base : Heap} (T : Txt K mg) (G_are_rests : Good P w K mg base "are_rests" 2 ["prime", "thing", "most"] (S_are_rests K)) (G_asked_prime : Good P w K mg base "asked_prime" 3 ["prime"] (S_asked_prime K)) : Good P w K mg base "asked_row" 4 ["prime", "row"] (S_asked_row K) := by
  obtain ⟨⟨fd, F⟩, hm⟩ := T.f_asked_row
  refine good_mk (t := t_asked_row K) F hm sc_asked_row (fun _ _ _ _ _ _ us hl => match us, hl with | [_, _], _ => rfl) len_asked_row (by decide) (fun cdv A outer s H E hr => ?_) pure_asked_row
  exact (pss_cons (ps_expr (pe_cal G_asked_prime hr (by decide) rfl (L2N.takes_of rfl rfl rfl rfl) (pa_cons (pv 0) pa_nil)))
      (pss_cons (ps_if (PW.pt (pw_or (pt_not (pt_val (pe_cal G_are_rests hr (by decide) rfl (L2N.takes_of rfl rfl rfl rfl) (pa_cons (pv 0) (pa_cons (pv 1) (pa_cons (by obtain ⟨tt, ht⟩ := T.c_MOST; exact pe_glob rfl ht ⟨tt, rfl⟩) pa_nil)))))) (pw_or1 (pt_cmpR (oEq hr.units) (pv 1) (pe_lst pa_nil) (nomark _))))) (pss_cons (ps_rs rfl (L2N.takes_of rfl rfl rfl rfl) T.x_BadRow rfl)
      pss_nil) pss_nil)
      pss_nil))
theorem good_partner {P : Program} {w : World} {K : PySem.W.Frag} {mg : Str → Option Value} {base : Heap} (T : Txt K mg)  : Good P w K mg base "partner" 1 ["prime", "number"] (S_partner K) := by
  obtain ⟨⟨fd, F⟩, hm⟩ := T.f_partner
  refine good_mk (t := t_partner K) F hm sc_partner (fun _ _ _ _ _ _ us hl => match us, hl with | [_, _], _ => rfl) len_partner (by decide) (fun cdv A outer s H E hr => ?_) pure_partner
  exact (pss_cons (ps_set (i := 2) sc_partner.nd rfl (by first | exact Or.inl rfl | exact Or.inr rfl) pe_int)
      (pss_cons (ps_while (L2.passes_of rfl) (pt_cmpR (oNe hr.units) (pe_op oMod (pe_op oMul (pv 1) (pv 2)) (pv 0)) pe_int (nomark _)) (pss_cons (ps_set (i := 2) sc_partner.nd rfl (by first | exact Or.inl rfl | exact Or.inr rfl) (pe_op oAdd (pv 2) pe_int))
      pss_nil))
      (pss_cons (ps_ret (pv 2))
      pss_nil)))
theorem good_times_of {P : Program} {w : World} {K : PySem.W.Frag} {mg : Str → Option Value} {base : Heap} (T : Txt K mg)  : Good P w K mg base "times_of" 1 ["prime", "one", "other"] (S_times_of K) := by
  obtain ⟨⟨fd, F⟩, hm⟩ := T.f_times_of
  refine good_mk (t := t_times_of K) F hm sc_times_of (fun _ _ _ _ _ _ us hl => match us, hl with | [_, _, _], _ => rfl) len_times_of (by decide) (fun cdv A outer s H E hr => ?_) pure_times_of
  exact (pss_cons (ps_set (i := 3) sc_times_of.nd rfl (by first | exact Or.inl rfl | exact Or.inr rfl) (pe_callB (cMin rfl) rfl T.m_min (by decide +kernel) (pa_cons (pe_callB cLen rfl T.m_len (by decide +kernel) (pa_cons (pv 1) pa_nil)) (pa_cons (pe_callB cLen rfl T.m_len (by decide +kernel) (pa_cons (pv 2) pa_nil)) pa_nil))))
      (pss_cons (ps_ret (pe_lc (own := [("place", 4)]) (g := (gName 4)) (tt := tYes) rfl sc_times_of.nd (pi_range1 (by rfl) T.m_range (pa_cons (pv 3) pa_nil)) (blkOk_by (by kernel_rfl)) (fun _ _ _ _ _ => (pg_name (i := 4) sc_times_of.nd rfl (by first | exact Or.inl rfl | exact Or.inr rfl))) (fun _ _ _ _ _ => pts_nil) (fun _ _ _ _ _ => (pe_op oMod (pe_callB (cr_sum rfl) rfl T.m_sum (by decide +kernel) (pa_cons (pe_lc (own := [("at", 5)]) (g := (gName 5)) (tt := tYes) rfl sc_times_of.nd (pi_range1 (by rfl) T.m_range (pa_cons (pe_op oAdd (pv 4) pe_int) pa_nil)) (blkOk_by (by kernel_rfl)) (fun _ _ _ _ _ => (pg_name (i := 5) sc_times_of.nd rfl (by first | exact Or.inl rfl | exact Or.inr rfl))) (fun _ _ _ _ _ => pts_nil) (fun _ _ _ _ _ => (pe_op oMul (pe_ix oIx (pv 1) (pv 5) (fun _ _ => rfl)) (pe_ix oIx (pv 2) (pe_op oSub (pv 4) (pv 5)) (fun _ _ => rfl))))) pa_nil)) (pv 0)))))
      pss_nil))
theorem good_put_of {P : Program} {w : World} {K : PySem.W.Frag} {mg : Str → Option Value} {base : Heap} (T : Txt K mg) (G_times_of : Good P w K mg base "times_of" 1 ["prime", "one", "other"] (S_times_of K)) : Good P w K mg base "put_of" 2 ["prime", "outer", "inner"] (S_put_of K) := by
  obtain ⟨⟨fd, F⟩, hm⟩ := T.f_put_of
  refine good_mk (t := t_put_of K) F hm sc_put_of (fun _ _ _ _ _ _ us hl => match us, hl with | [_, _, _], _ => rfl) len_put_of (by decide) (fun cdv A outer s H E hr => ?_) pure_put_of
  exact (pss_cons (ps_set (i := 3) sc_put_of.nd rfl (by first | exact Or.inl rfl | exact Or.inr rfl) (pe_callB (cMin rfl) rfl T.m_min (by decide +kernel) (pa_cons (pe_callB cLen rfl T.m_len (by decide +kernel) (pa_cons (pv 1) pa_nil)) (pa_cons (pe_callB cLen rfl T.m_len (by decide +kernel) (pa_cons (pv 2) pa_nil)) pa_nil))))
      (pss_cons (ps_set (i := 4) sc_put_of.nd rfl (by first | exact Or.inl rfl | exact Or.inr rfl) (pe_op oMul (pe_lst (pa_cons pe_int pa_nil)) (pv 3)))
      (pss_cons (ps_for (L2.passes_of rfl) rfl (pi_range3 (by rfl) T.m_range (pa_cons (pe_op oSub (pv 3) pe_int) (pa_cons (pe_un oNeg pe_int) (pa_cons (pe_un oNeg pe_int) pa_nil)))) (pg_name (i := 5) sc_put_of.nd rfl (by first | exact Or.inl rfl | exact Or.inr rfl)) (pss_cons (ps_set (i := 4) sc_put_of.nd rfl (by first | exact Or.inl rfl | exact Or.inr rfl) (pe_cal G_times_of hr (by decide) rfl (L2N.takes_of rfl rfl rfl rfl) (pa_cons (pv 0) (pa_cons (pv 4) (pa_cons (pe_slice sl_list (pv 2) po_none (po_some (pv 3))) pa_nil)))))
      (pss_cons (ps_asg (pe_op oMod (pe_op oAdd (pe_ix oIx (pv 4) pe_int (fun _ _ => rfl)) (pe_ix oIx (pv 1) (pv 5) (fun _ _ => rfl))) (pv 0)) (pg_sub (pv 4) pe_int set_list))
      pss_nil)))
      (pss_cons (ps_ret (pv 4))
      pss_nil))))
theorem good_put_in {P : Program} {w : World} {K : PySem.W.Frag} {mg : Str → Option Value} {base : Heap} (T : Txt K mg) (G_put_of : Good P w K mg base "put_of" 2 ["prime", "outer", "inner"] (S_put_of K)) (G_asked_row : Good P w K mg base "asked_row" 4 ["prime", "row"] (S_asked_row K)) : Good P w K mg base "put_in" 5 ["prime", "outer", "inner"] (S_put_in K) := by
  obtain ⟨⟨fd, F⟩, hm⟩ := T.f_put_in
  refine good_mk (t := t_put_in K) F hm sc_put_in (fun _ _ _ _ _ _ us hl => match us, hl with | [_, _, _], _ => rfl) len_put_in (by decide) (fun cdv A outer s H E hr => ?_) pure_put_in
  exact (pss_cons (ps_expr (pe_cal G_asked_row hr (by decide) rfl (L2N.takes_of rfl rfl rfl rfl) (pa_cons (pv 0) (pa_cons (pv 1) pa_nil))))
      (pss_cons (ps_expr (pe_cal G_asked_row hr (by decide) rfl (L2N.takes_of rfl rfl rfl rfl) (pa_cons (pv 0) (pa_cons (pv 2) pa_nil))))
      (pss_cons (ps_if (pt_cmpR (oNe hr.units) (pe_ix oIx (pv 2) pe_int (fun _ _ => rfl)) pe_int (nomark _)) (pss_cons (ps_rs rfl (L2N.takes_of rfl rfl rfl rfl) T.x_NoInside rfl)
      pss_nil) pss_nil)
      (pss_cons (ps_ret (pe_cal G_put_of hr (by decide) rfl (L2N.takes_of rfl rfl rfl rfl) (pa_cons (pv 0) (pa_cons (pv 1) (pa_cons (pv 2) pa_nil)))))
      pss_nil))))
theorem good_turned_out {P : Program} {w : World} {K : PySem.W.Frag} {mg : Str → Option Value} {base : Heap} (T : Txt K mg) (G_put_of : Good P w K mg base "put_of" 2 ["prime", "outer", "inner"] (S_put_of K)) (G_partner : Good P w K mg base "partner" 1 ["prime", "number"] (S_partner K)) (G_asked_row : Good P w K mg base "asked_row" 4 ["prime", "row"] (S_asked_row K)) : Good P w K mg base "turned_out" 5 ["prime", "row"] (S_turned_out K) := by
  obtain ⟨⟨fd, F⟩, hm⟩ := T.f_turned_out
  refine good_mk (t := t_turned_out K) F hm sc_turned_out (fun _ _ _ _ _ _ us hl => match us, hl with | [_, _], _ => rfl) len_turned_out (by decide) (fun cdv A outer s H E hr => ?_) pure_turned_out
  exact (pss_cons (ps_expr (pe_cal G_asked_row hr (by decide) rfl (L2N.takes_of rfl rfl rfl rfl) (pa_cons (pv 0) (pa_cons (pv 1) pa_nil))))
      (pss_cons (ps_if (PW.pt (pw_or (pt_cmpR oLt (pe_callB cLen rfl T.m_len (by decide +kernel) (pa_cons (pv 1) pa_nil)) pe_int (nomark _)) (pw_or (pt_cmpR (oNe hr.units) (pe_ix oIx (pv 1) pe_int (fun _ _ => rfl)) pe_int (nomark _)) (pw_or1 (pt_cmpR (oEq hr.units) (pe_ix oIx (pv 1) pe_int (fun _ _ => rfl)) pe_int (nomark _)))))) (pss_cons (ps_rs rfl (L2N.takes_of rfl rfl rfl rfl) T.x_NoInside rfl)
      pss_nil) pss_nil)
      (pss_cons (ps_set (i := 2) sc_turned_out.nd rfl (by first | exact Or.inl rfl | exact Or.inr rfl) (pe_cal G_partner hr (by decide) rfl (L2N.takes_of rfl rfl rfl rfl) (pa_cons (pv 0) (pa_cons (pe_ix oIx (pv 1) pe_int (fun _ _ => rfl)) pa_nil))))
      (pss_cons (ps_set (i := 3) sc_turned_out.nd rfl (by first | exact Or.inl rfl | exact Or.inr rfl) (pe_op oAdd (pe_lst (pa_cons pe_int (pa_cons (pv 2) pa_nil))) (pe_op oMul (pe_lst (pa_cons pe_int pa_nil)) (pe_op oSub (pe_callB cLen rfl T.m_len (by decide +kernel) (pa_cons (pv 1) pa_nil)) pe_int))))
      (pss_cons (ps_for (L2.passes_of rfl) rfl (pi_range2 (by rfl) T.m_range (pa_cons pe_int (pa_cons (pe_callB cLen rfl T.m_len (by decide +kernel) (pa_cons (pv 1) pa_nil)) pa_nil))) (pg_name (i := 4) sc_turned_out.nd rfl (by first | exact Or.inl rfl | exact Or.inr rfl)) (pss_cons (ps_set (i := 5) sc_turned_out.nd rfl (by first | exact Or.inl rfl | exact Or.inr rfl) (pe_cal G_put_of hr (by decide) rfl (L2N.takes_of rfl rfl rfl rfl) (pa_cons (pv 0) (pa_cons (pe_slice sl_list (pv 1) po_none (po_some (pe_op oAdd (pv 4) pe_int))) (pa_cons (pe_slice sl_list (pv 3) po_none (po_some (pe_op oAdd (pv 4) pe_int))) pa_nil)))))
      (pss_cons (ps_asg (pe_op oMod (pe_op oMul (pe_un oNeg (pe_ix oIx (pv 5) (pv 4) (fun _ _ => rfl))) (pv 2)) (pv 0)) (pg_sub (pv 3) (pv 4) set_list))
      pss_nil)))
      (pss_cons (ps_ret (pv 3))
      pss_nil))))))
theorem good_law_number {P : Program} {w : World} {K : PySem.W.Frag} {mg : Str → Option Value} {base : Heap} (T : Txt K mg)  : Good P w K mg base "_law_number" 1 ["_law_cell", "_law_at", "_law_whole"] (S_law_number K) := by
  obtain ⟨⟨fd, F⟩, hm⟩ := T.f_law_number
  refine good_mk (t := t_law_number K) F hm sc_law_number (fun _ _ _ _ _ _ us hl => match us, hl with | [_, _, _], _ => rfl) len_law_number (by decide) (fun cdv A outer s H E hr => ?_) pure_law_number
  exact (pss_cons (ps_if (pt_cmpR oGe (pv 0) (pe_op oPow pe_int pe_int) (nomark _)) (pss_cons (ps_ret (pe_op oDiv (pv 0) (pe_op oAdd pe_int (pe_op oMod (pv 1) pe_int))))
      pss_nil) pss_nil)
      (pss_cons (ps_set (i := 3) sc_law_number.nd rfl (by first | exact Or.inl rfl | exact Or.inr rfl) (pe_op oMod (pe_op oAdd (pe_op oMul (pe_op oAdd (pv 0) (pe_op oMul pe_int (pv 1))) pe_int) (pv 2)) pe_int))
      (pss_cons (ps_set (i := 4) sc_law_number.nd rfl (by first | exact Or.inl rfl | exact Or.inr rfl) (pe_op oMul (pv 3) (pe_op oAdd (pe_op oAdd (pv 0) (pe_op oMul pe_int (pv 1))) pe_int)))
      (pss_cons (ps_ret (pe_op oDiv (pe_op oMul (pe_op oMul (pv 4) (pe_op oAdd (pe_op oAdd (pv 3) (pv 0)) pe_int)) (pe_op oAdd (pe_op oMul (pv 3) (pv 3)) pe_int)) (pe_op oAdd pe_int (pv 1))))
      pss_nil))))
theorem good_law_prime {P : Program} {w : World} {K : PySem.W.Frag} {mg : Str → Option Value} {base : Heap} (T : Txt K mg)  : Good P w K mg base "_law_prime" 1 ["_law_script", "_law_by"] (S_law_prime K) := by
  obtain ⟨⟨fd, F⟩, hm⟩ := T.f_law_prime
  refine good_mk (t := t_law_prime K) F hm sc_law_prime (fun _ _ _ _ _ _ us hl => match us, hl with | [_, _], _ => rfl) len_law_prime (by decide) (fun cdv A outer s H E hr => ?_) pure_law_prime
  exact (pss_cons (ps_set (i := 2) sc_law_prime.nd rfl (by first | exact Or.inl rfl | exact Or.inr rfl) (pe_tup (pa_cons pe_int (pa_cons pe_int (pa_cons pe_int (pa_cons pe_int (pa_cons pe_int (pa_cons pe_int (pa_cons pe_int (pa_cons pe_int (pa_cons pe_int (pa_cons pe_int (pa_cons pe_int (pa_cons pe_int (pa_cons pe_int (pa_cons pe_int (pa_cons pe_int (pa_cons pe_int (pa_cons pe_int (pa_cons pe_int (pa_cons pe_int (pa_cons pe_int (pa_cons pe_int (pa_cons pe_int (pa_cons pe_int (pa_cons pe_int (pa_cons pe_int pa_nil)))))))))))))))))))))))))))
      (pss_cons (ps_set (i := 3) sc_law_prime.nd rfl (by first | exact Or.inl rfl | exact Or.inr rfl) (pe_op oAdd (pe_callB cAbs rfl T.m_abs (by decide +kernel) (pa_cons (pe_callB (cr_sum rfl) rfl T.m_sum (by decide +kernel) (pa_cons (pe_slice sl_list (pv 0) po_none (po_some pe_int)) pa_nil)) pa_nil)) (pv 1)))
      (pss_cons (ps_ret (pe_ifExp (pt_cmpR (oEq hr.units) (pe_op oMod (pe_op oDiv (pv 3) pe_int) pe_int) pe_int (nomark _)) (pe_ix oIx (pv 2) (pe_op oMod (pe_op oDiv (pv 3) pe_int) pe_int) (fun _ _ => rfl)) (pe_ix oIx (pv 2) (pe_op oMod (pe_op oDiv (pv 3) pe_int) pe_int) (fun _ _ => rfl))))
      pss_nil)))
theorem good_law_row {P : Program} {w : World} {K : PySem.W.Frag} {mg : Str → Option Value} {base : Heap} (T : Txt K mg) (G_law_number : Good P w K mg base "_law_number" 1 ["_law_cell", "_law_at", "_law_whole"] (S_law_number K)) : Good P w K mg base "_law_row" 2 ["_law_script", "_law_by", "_law_prime_here", "_law_most"] (S_law_row K) := by
  obtain ⟨⟨fd, F⟩, hm⟩ := T.f_law_row
  refine good_mk (t := t_law_row K) F hm sc_law_row (fun _ _ _ _ _ _ us hl => match us, hl with | [_, _, _, _], _ => rfl) len_law_row (by decide) (fun cdv A outer s H E hr => ?_) pure_law_row
  exact (pss_cons (ps_set (i := 4) sc_law_row.nd rfl (by first | exact Or.inl rfl | exact Or.inr rfl) (pe_ifExp (pt_cmpR (oNe hr.units) (pv 0) (pe_lst pa_nil) (nomark _)) (pe_slice sl_list (pv 0) po_none (po_some pe_int)) (pe_lst (pa_cons pe_int pa_nil))))
      (pss_cons (ps_par (i := 5) (j := 6) rfl sc_law_row.nd rfl rfl (by decide) rfl rfl (pa_cons (pe_op oAdd (pe_callB cAbs rfl T.m_abs (by decide +kernel) (pa_cons (pe_callB (cr_sum rfl) rfl T.m_sum (by decide +kernel) (pa_cons (pv 4) pa_nil)) pa_nil)) (pe_op oMul pe_int (pv 1))) (pa_cons (pe_lst pa_nil) pa_nil)) (by rfl))
      (pss_cons (ps_for (L2.passes_of rfl) rfl (pi_range1 (by rfl) T.m_range (pa_cons (pe_op oAdd pe_int (pe_op oMod (pv 5) (pv 3))) pa_nil)) (pg_name (i := 7) sc_law_row.nd rfl (by first | exact Or.inl rfl | exact Or.inr rfl)) (pss_cons (ps_set (i := 8) sc_law_row.nd rfl (by first | exact Or.inl rfl | exact Or.inr rfl) (pe_op oDiv (pe_cal G_law_number hr (by decide) rfl (L2N.takes_of rfl rfl rfl rfl) (pa_cons (pe_ix oIx (pv 4) (pe_op oMod (pe_op oAdd (pv 7) (pv 1)) (pe_callB cLen rfl T.m_len (by decide +kernel) (pa_cons (pv 4) pa_nil))) (fun _ _ => rfl)) (pa_cons (pe_op oAdd (pv 7) (pe_op oMul pe_int (pv 1))) (pa_cons (pv 5) pa_nil)))) pe_int))
      (pss_cons (ps_set (i := 9) sc_law_row.nd rfl (by first | exact Or.inl rfl | exact Or.inr rfl) (pe_op oMod (pv 8) (pv 2)))
      (pss_cons (ps_expr (pe_bm PySem.F.plainAttrs_list PySem.F.slot_list_append PySem.F.type_list_append mt_append (pv 6) (pa_cons (pe_ix oIx (pe_tup (pa_cons (pv 9) (pa_cons (pe_ifExp (pt_cmpR (oEq hr.units) (pe_op oMod (pe_op oDiv (pv 8) pe_int) pe_int) pe_int (nomark _)) (pv 9) pe_int) (pa_cons (pe_op oMod (pv 5) (pv 2)) pa_nil)))) (pe_op oMod (pe_op oDiv (pv 5) pe_int) pe_int) (fun _ _ => rfl)) pa_nil)))
      pss_nil))))
      (pss_cons (ps_ret (pv 6))
      pss_nil))))
theorem good_law_times {P : Program} {w : World} {K : PySem.W.Frag} {mg : Str → Option Value} {base : Heap} (T : Txt K mg)  : Good P w K mg base "_law_times" 1 ["_law_prime_here", "_law_one", "_law_other"] (S_law_times K) := by
  obtain ⟨⟨fd, F⟩, hm⟩ := T.f_law_times
  refine good_mk (t := t_law_times K) F hm sc_law_times (fun _ _ _ _ _ _ us hl => match us, hl with | [_, _, _], _ => rfl) len_law_times (by decide) (fun cdv A outer s H E hr => ?_) pure_law_times
  exact (pss_cons (ps_set (i := 3) sc_law_times.nd rfl (by first | exact Or.inl rfl | exact Or.inr rfl) (pe_callB (cMin rfl) rfl T.m_min (by decide +kernel) (pa_cons (pe_callB cLen rfl T.m_len (by decide +kernel) (pa_cons (pv 1) pa_nil)) (pa_cons (pe_callB cLen rfl T.m_len (by decide +kernel) (pa_cons (pv 2) pa_nil)) pa_nil))))
      (pss_cons (ps_set (i := 4) sc_law_times.nd rfl (by first | exact Or.inl rfl | exact Or.inr rfl) (pe_op oMul (pe_lst (pa_cons pe_int pa_nil)) (pv 3)))
      (pss_cons (ps_for (L2.passes_of rfl) rfl (pi_range1 (by rfl) T.m_range (pa_cons (pv 3) pa_nil)) (pg_name (i := 5) sc_law_times.nd rfl (by first | exact Or.inl rfl | exact Or.inr rfl)) (pss_cons (ps_for (L2.passes_of rfl) rfl (pi_range1 (by rfl) T.m_range (pa_cons (pe_op oSub (pv 3) (pv 5)) pa_nil)) (pg_name (i := 6) sc_law_times.nd rfl (by first | exact Or.inl rfl | exact Or.inr rfl)) (pss_cons (ps_set (i := 7) sc_law_times.nd rfl (by first | exact Or.inl rfl | exact Or.inr rfl) (pe_op oAdd (pe_ix oIx (pv 4) (pe_op oAdd (pv 5) (pv 6)) (fun _ _ => rfl)) (pe_op oMul (pe_ix oIx (pv 1) (pv 5) (fun _ _ => rfl)) (pe_ix oIx (pv 2) (pv 6) (fun _ _ => rfl)))))
      (pss_cons (ps_asg (pe_op oMod (pv 7) (pv 0)) (pg_sub (pv 4) (pe_op oAdd (pv 5) (pv 6)) set_list))
      pss_nil)))
      pss_nil))
      (pss_cons (ps_ret (pv 4))
      pss_nil))))
theorem good_law_put {P : Program} {w : World} {K : PySem.W.Frag} {mg : Str → Option Value} {base : Heap} (T : Txt K mg) (G_law_times : Good P w K mg base "_law_times" 1 ["_law_prime_here", "_law_one", "_law_other"] (S_law_times K)) : Good P w K mg base "_law_put" 2 ["_law_prime_here", "_law_outer", "_law_inner"] (S_law_put K) := by
  obtain ⟨⟨fd, F⟩, hm⟩ := T.f_law_put
  refine good_mk (t := t_law_put K) F hm sc_law_put (fun _ _ _ _ _ _ us hl => match us, hl with | [_, _, _], _ => rfl) len_law_put (by decide) (fun cdv A outer s H E hr => ?_) pure_law_put
  exact (pss_cons (ps_set (i := 3) sc_law_put.nd rfl (by first | exact Or.inl rfl | exact Or.inr rfl) (pe_callB (cMin rfl) rfl T.m_min (by decide +kernel) (pa_cons (pe_callB cLen rfl T.m_len (by decide +kernel) (pa_cons (pv 1) pa_nil)) (pa_cons (pe_callB cLen rfl T.m_len (by decide +kernel) (pa_cons (pv 2) pa_nil)) pa_nil))))
      (pss_cons (ps_par (i := 4) (j := 5) rfl sc_law_put.nd rfl rfl (by decide) rfl rfl (pa_cons (pe_op oMul (pe_lst (pa_cons pe_int pa_nil)) (pv 3)) (pa_cons (pe_op oAdd (pe_lst (pa_cons pe_int pa_nil)) (pe_op oMul (pe_lst (pa_cons pe_int pa_nil)) (pe_op oSub (pv 3) pe_int))) pa_nil)) (by rfl))
      (pss_cons (ps_for (L2.passes_of rfl) rfl (pi_range1 (by rfl) T.m_range (pa_cons (pv 3) pa_nil)) (pg_name (i := 6) sc_law_put.nd rfl (by first | exact Or.inl rfl | exact Or.inr rfl)) (pss_cons (ps_setLc (i := 4) (own := [("_law_mine", 7), ("_law_theirs", 8)]) (g := (gTup K 2 (gCons (gName 7) (gCons (gName 8) gNil)))) (tt := tYes) rfl sc_law_put.nd rfl rfl (sw_true rfl rfl rfl (by decide +kernel)) (pi_zip (by rfl) T.m_zip (pa_cons (pv 4) (pa_cons (pv 5) pa_nil))) (blkOk_by (by kernel_rfl)) (fun _ _ _ _ _ => (pg_tup rfl (pgs_cons (pg_name (i := 7) sc_law_put.nd rfl (by first | exact Or.inl rfl | exact Or.inr rfl)) (pgs_cons (pg_name (i := 8) sc_law_put.nd rfl (by first | exact Or.inl rfl | exact Or.inr rfl)) pgs_nil)))) (fun _ _ _ _ _ => pts_nil) (fun _ _ _ _ _ => (pe_op oMod (pe_op oAdd (pv 7) (pe_op oMul (pe_ix oIx (pv 1) (pv 6) (fun _ _ => rfl)) (pv 8))) (pv 0))))
      (pss_cons (ps_set (i := 5) sc_law_put.nd rfl (by first | exact Or.inl rfl | exact Or.inr rfl) (pe_cal G_law_times hr (by decide) rfl (L2N.takes_of rfl rfl rfl rfl) (pa_cons (pv 0) (pa_cons (pv 5) (pa_cons (pe_slice sl_list (pv 2) po_none (po_some (pv 3))) pa_nil)))))
      pss_nil)))
      (pss_cons (ps_ret (pv 4))
      pss_nil))))
theorem good_law_out_right {P : Program} {w : World} {K : PySem.W.Frag} {mg : Str → Option Value} {base : Heap} (T : Txt K mg) (G_turned_out : Good P w K mg base "turned_out" 5 ["prime", "row"] (S_turned_out K)) (G_law_put : Good P w K mg base "_law_put" 2 ["_law_prime_here", "_law_outer", "_law_inner"] (S_law_put K)) : Good P w K mg base "_law_out_right" 6 ["_law_prime_here", "_law_row_here"] (S_law_out_right K) := by
  obtain ⟨⟨fd, F⟩, hm⟩ := T.f_law_out_right
  refine good_mk (t := t_law_out_right K) F hm sc_law_out_right (fun _ _ _ _ _ _ us hl => match us, hl with | [_, _], _ => rfl) len_law_out_right (by decide) (fun cdv A outer s H E hr => ?_) pure_law_out_right
  exact (pss_cons (ps_set (i := 2) sc_law_out_right.nd rfl (by first | exact Or.inl rfl | exact Or.inr rfl) (pe_op oAdd (pe_lst (pa_cons pe_int (pa_cons pe_int pa_nil))) (pe_op oMul (pe_lst (pa_cons pe_int pa_nil)) (pe_op oSub (pe_callB cLen rfl T.m_len (by decide +kernel) (pa_cons (pv 1) pa_nil)) pe_int))))
      (pss_cons (ps_set (i := 3) sc_law_out_right.nd rfl (by first | exact Or.inl rfl | exact Or.inr rfl) (pe_callTy cList rfl T.m_list (by decide +kernel) (pa_cons (pv 1) pa_nil)))
      (pss_cons (ps_for (L2.passes_of rfl) rfl (pi_range1 (by rfl) T.m_range (pa_cons pe_int pa_nil)) (pg_name (i := 4) sc_law_out_right.nd rfl (by first | exact Or.inl rfl | exact Or.inr rfl)) (pss_cons (ps_set (i := 5) sc_law_out_right.nd rfl (by first | exact Or.inl rfl | exact Or.inr rfl) (pe_cal G_turned_out hr (by decide) rfl (L2N.takes_of rfl rfl rfl rfl) (pa_cons (pv 0) (pa_cons (pv 3) pa_nil))))
      (pss_cons (ps_if (PW.pt (pw_or (pt_not (pt_val (pe_callB cIsi rfl T.m_isinstance (by decide +kernel) (pa_cons (pv 5) (pa_cons (pe_bltn (v := .ty "list") rfl T.m_list (by decide +kernel) rfl) pa_nil))))) (pw_or (pt_cmpR (oNe hr.units) (pe_callB cLen rfl T.m_len (by decide +kernel) (pa_cons (pv 5) pa_nil)) (pe_callB cLen rfl T.m_len (by decide +kernel) (pa_cons (pv 1) pa_nil)) (nomark _)) (pw_or1 (pt_cmpR (oNe hr.units) (pv 3) (pv 1) (nomark _)))))) (pss_cons (ps_ret pe_bl)
      pss_nil) pss_nil)
      (pss_cons (ps_if (PW.pt (pw_or (pt_cmpR (oNe hr.units) (pe_cal G_law_put hr (by decide) rfl (L2N.takes_of rfl rfl rfl rfl) (pa_cons (pv 0) (pa_cons (pv 1) (pa_cons (pv 5) pa_nil)))) (pv 2) (nomark _)) (pw_or1 (pt_cmpR (oNe hr.units) (pe_cal G_law_put hr (by decide) rfl (L2N.takes_of rfl rfl rfl rfl) (pa_cons (pv 0) (pa_cons (pv 5) (pa_cons (pv 1) pa_nil)))) (pv 2) (nomark _))))) (pss_cons (ps_ret pe_bl)
      pss_nil) pss_nil)
      (pss_cons (ps_if (pt_cmpR (oNe hr.units) (pe_cal G_turned_out hr (by decide) rfl (L2N.takes_of rfl rfl rfl rfl) (pa_cons (pv 0) (pa_cons (pv 5) pa_nil))) (pv 1) (nomark _)) (pss_cons (ps_ret pe_bl)
      pss_nil) pss_nil)
      (pss_cons (ps_expr (pe_bm PySem.F.plainAttrs_list PySem.F.slot_list_append PySem.F.type_list_append mt_append (pv 5) (pa_cons pe_int pa_nil)))
      pss_nil))))))
      (pss_cons (ps_ret pe_bl)
      pss_nil))))
theorem lamok_lam_law_0 {P : Program} {w : World} {K : PySem.W.Frag} {mg : Str → Option Value} {base : Heap} (T : Txt K mg) (G_put_in : Good P w K mg base "put_in" 5 ["prime", "outer", "inner"] (S_put_in K)) (ce : List (Str × Addr)) : LamOk P w K mg base 6 (lam_law_0 ce) 1 (S_lam_law_0 K) := by
  refine lam_of (k := 5) (t := t_lam_law_0 K) (nsc_lam_law_0 ce) (fun _ _ _ us hl => match us, hl with | [_], _ => rfl) len_lam_law_0 (Nat.le_refl 3) (.inr nol_lam_law_0) (fun f c' A outer s H E hr => ?_) pure_lam_law_0
  exact (pe_cal G_put_in hr (by decide) rfl (L2N.takes_of rfl rfl rfl rfl) (pa_cons (pv 1) (pa_cons (pv 2) (pa_cons (pv 0) pa_nil))))
theorem lamok_lam_law_1 {P : Program} {w : World} {K : PySem.W.Frag} {mg : Str → Option Value} {base : Heap} (T : Txt K mg) (G_turned_out : Good P w K mg base "turned_out" 5 ["prime", "row"] (S_turned_out K)) (ce : List (Str × Addr)) : LamOk P w K mg base 6 (lam_law_1 ce) 1 (S_lam_law_1 K) := by
  refine lam_of (k := 5) (t := t_lam_law_1 K) (nsc_lam_law_1 ce) (fun _ _ _ us hl => match us, hl with | [_], _ => rfl) len_lam_law_1 (Nat.le_refl 2) (.inr nol_lam_law_1) (fun f c' A outer s H E hr => ?_) pure_lam_law_1
  exact (pe_cal G_turned_out hr (by decide) rfl (L2N.takes_of rfl rfl rfl rfl) (pa_cons (pv 1) (pa_cons (pv 0) pa_nil)))
theorem lamok_lam_law_2 {P : Program} {w : World} {K : PySem.W.Frag} {mg : Str → Option Value} {base : Heap} (T : Txt K mg) (G_turned_out : Good P w K mg base "turned_out" 5 ["prime", "row"] (S_turned_out K)) (ce : List (Str × Addr)) : LamOk P w K mg base 6 (lam_law_2 ce) 1 (S_lam_law_2 K) := by
  refine lam_of (k := 5) (t := t_lam_law_2 K) (nsc_lam_law_2 ce) (fun _ _ _ us hl => match us, hl with | [_], _ => rfl) len_lam_law_2 (Nat.le_refl 2) (.inr nol_lam_law_2) (fun f c' A outer s H E hr => ?_) pure_lam_law_2
  exact (pe_cal G_turned_out hr (by decide) rfl (L2N.takes_of rfl rfl rfl rfl) (pa_cons (pv 1) (pa_cons (pv 0) pa_nil)))
theorem lams_ok {P : Program} {w : World} {K : PySem.W.Frag} {mg : Str → Option Value} {base : Heap} (T : Txt K mg) (G_put_in : Good P w K mg base "put_in" 5 ["prime", "outer", "inner"] (S_put_in K)) (G_turned_out : Good P w K mg base "turned_out" 5 ["prime", "row"] (S_turned_out K)) : LamsOk P w K mg base 6 (SL K) := by
  intro L ds R X h
  rcases h with ⟨ce, rfl, h⟩ | ⟨ce, rfl, h⟩ | ⟨ce, rfl, h⟩
  · exact ⟨_, _, lamok_lam_law_0 T G_put_in ce, h⟩
  · exact ⟨_, _, lamok_lam_law_1 T G_turned_out ce, h⟩
  · exact ⟨_, _, lamok_lam_law_2 T G_turned_out ce, h⟩
theorem good_law_none {P : Program} {w : World} {K : PySem.W.Frag} {mg : Str → Option Value} {base : Heap} (T : Txt K mg)  (AL : LamsOk P w K mg base 6 (SL K)) : Good P w K mg base "_law_none" 7 ["_law_ask", "_law_what"] (S_law_none K) := by
  obtain ⟨⟨fd, F⟩, hm⟩ := T.f_law_none
  refine good_mk (t := t_law_none K) F hm sc_law_none (fun _ _ _ _ _ _ us hl => match us, hl with | [_, _], _ => rfl) len_law_none (by decide) (fun cdv A outer s H E hr => ?_) pure_law_none
  exact (pss_cons (L2N.ps_try_as (i := 2) (tb := fun W' => (tSeq (tDrop (tCallM K 0 (SL K) W' (tCons (tVar 1) tNil)))
    tNext)) (ts := fun a cls d => (tSeq (tAsg (tLst (tCons (tCB (rIsEX K a cls d) (tCons (tVar 2) (tCons (tC (.ref (He.ga K "BadRow"))) tNil))) (tCons (tCB (rIsEX K a cls d) (tCons (tVar 2) (tCons (tC (.ref (He.ga K "BadPrime"))) tNil))) (tCons (tCB (rIsEX K a cls d) (tCons (tVar 2) (tCons (tC (.ref (He.ga K "NoPart"))) tNil))) tNil)))) (gName 3))
    (tSeq (tRet (tAndV (tCB (rIsEX K a cls d) (tCons (tVar 2) (tCons (tC (.ref (He.ga K "NoInside"))) tNil))) (tNotV (tCB (rAny K) (tCons (tVar 3) tNil)))))
    tNext))) rfl rfl sc_law_none.nd rfl rfl ⟨rfl, by decide, Or.inl T.x_PowerError.g⟩ (L2N.takes_of rfl rfl rfl rfl) (fun W' pn xe tk pas => (pss_cons (ps_expr (pe_callM (i := 0) AL hr (by decide) rfl (by first | exact Or.inl rfl | exact Or.inr (Or.inl rfl) | exact Or.inr (Or.inr rfl)) tk (pa_cons (pv 1) pa_nil)))
      pss_nil)) (fun a oe cls d pn hz hf => (pss_cons (ps_set (i := 3) sc_law_none.nd rfl (by first | exact Or.inl rfl | exact Or.inr rfl) (pe_lst (pa_cons (pe_callB (call_isEX hz hf) rfl T.m_isinstance (by decide +kernel) (pa_cons (pv 2) (pa_cons (pe_glob rfl T.x_BadRow.g rfl) pa_nil))) (pa_cons (pe_callB (call_isEX hz hf) rfl T.m_isinstance (by decide +kernel) (pa_cons (pv 2) (pa_cons (pe_glob rfl T.x_BadPrime.g rfl) pa_nil))) (pa_cons (pe_callB (call_isEX hz hf) rfl T.m_isinstance (by decide +kernel) (pa_cons (pv 2) (pa_cons (pe_glob rfl T.x_NoPart.g rfl) pa_nil))) pa_nil)))))
      (pss_cons (ps_ret (pe_and (pe_callB (call_isEX hz hf) rfl T.m_isinstance (by decide +kernel) (pa_cons (pv 2) (pa_cons (pe_glob rfl T.x_NoInside.g rfl) pa_nil))) (pe_one (pe_not (pe_callB (cr_anyH (hot_suite hz hf)) rfl T.m_any (by decide +kernel) (pa_cons (pv 3) pa_nil))))))
      pss_nil))))
      (pss_cons (ps_ret pe_bl)
      pss_nil))
theorem fnok_law {P : Program} {w : World} {K : PySem.W.Frag} {mg : Str → Option Value} {base : Heap} {fd : FuncData} (T : Txt K mg) (F : FunD K "law" "law" (defArgs (top 28)) (defBody (top 28)) (defScope (top 28)) [] [] (He.ga K "law") fd) (M : TabF tf K base mg) (G_turned_out : Good P w K mg base "turned_out" 5 ["prime", "row"] (S_turned_out K)) (G_put_in : Good P w K mg base "put_in" 5 ["prime", "outer", "inner"] (S_put_in K)) (G_law_none : Good P w K mg base "_law_none" 7 ["_law_ask", "_law_what"] (S_law_none K)) (G_law_out_right : Good P w K mg base "_law_out_right" 6 ["_law_prime_here", "_law_row_here"] (S_law_out_right K)) (G_law_put : Good P w K mg base "_law_put" 2 ["_law_prime_here", "_law_outer", "_law_inner"] (S_law_put K)) (G_law_row : Good P w K mg base "_law_row" 2 ["_law_script", "_law_by", "_law_prime_here", "_law_most"] (S_law_row K)) (G_law_prime : Good P w K mg base "_law_prime" 1 ["_law_script", "_law_by"] (S_law_prime K)) : FnOk P w K mg base (L2N.CX P w) 8 (He.ga K "law") fd ["_law_script"] (spD K (S_law K)) := by
  refine fn_mkL (t := t_law K) (p := ("law", none)) F M (by decide) rfl sc_law len_law (by decide) (fun cdv Mk A outer s H E hr => ?_) pure_law
  exact (pss_cons (ps_set (i := 1) sc_law.nd rfl (by first | exact Or.inl rfl | exact Or.inr rfl) (pe_callB cAbs rfl T.m_abs (by decide +kernel) (pa_cons (pe_callB (cr_sum rfl) rfl T.m_sum (by decide +kernel) (pa_cons (pe_slice sl_list (pv 0) po_none (po_some pe_int)) pa_nil)) pa_nil)))
      (pss_cons (ps_for (L2.passes_of rfl) rfl (pi_list (pe_lst (pa_cons pe_int (pa_cons pe_int pa_nil)))) (pg_name (i := 2) sc_law.nd rfl (by first | exact Or.inl rfl | exact Or.inr rfl)) (pss_cons (ps_asg (pe_tup (pa_cons (pe_cal G_law_prime hr (by decide) rfl (L2N.takes_of rfl rfl rfl rfl) (pa_cons (pv 0) (pa_cons (pv 2) pa_nil))) (pa_cons (pe_ifExp (pt_cmpR (oEq hr.units) (pe_op oMod (pv 1) pe_int) (pv 2) (nomark _)) pe_int pe_int) pa_nil))) (pg_tup rfl (pgs_cons (pg_name (i := 3) sc_law.nd rfl (by first | exact Or.inl rfl | exact Or.inr rfl)) (pgs_cons (pg_name (i := 4) sc_law.nd rfl (by first | exact Or.inl rfl | exact Or.inr rfl)) pgs_nil))))
      (pss_cons (ps_asg (pe_tup (pa_cons (pe_cal G_law_row hr (by decide) rfl (L2N.takes_of rfl rfl rfl rfl) (pa_cons (pv 0) (pa_cons (pv 2) (pa_cons (pv 3) (pa_cons (pv 4) pa_nil))))) (pa_cons (pe_op oAdd (pe_lst (pa_cons pe_int pa_nil)) (pe_cal G_law_row hr (by decide) rfl (L2N.takes_of rfl rfl rfl rfl) (pa_cons (pv 0) (pa_cons (pe_op oAdd (pv 2) pe_int) (pa_cons (pv 3) (pa_cons (pv 4) pa_nil)))))) pa_nil))) (pg_tup rfl (pgs_cons (pg_name (i := 5) sc_law.nd rfl (by first | exact Or.inl rfl | exact Or.inr rfl)) (pgs_cons (pg_name (i := 6) sc_law.nd rfl (by first | exact Or.inl rfl | exact Or.inr rfl)) pgs_nil))))
      (pss_cons (ps_set (i := 7) sc_law.nd rfl (by first | exact Or.inl rfl | exact Or.inr rfl) (pe_op oAdd (pe_lst (pa_cons pe_int pa_nil)) (pe_cal G_law_row hr (by decide) rfl (L2N.takes_of rfl rfl rfl rfl) (pa_cons (pv 0) (pa_cons (pe_op oAdd (pv 2) pe_int) (pa_cons (pv 3) (pa_cons (pv 4) pa_nil)))))))
      (pss_cons (ps_par (i := 8) (j := 9) rfl sc_law.nd rfl rfl (by decide) rfl rfl (pa_cons (pe_callTy cList rfl T.m_list (by decide +kernel) (pa_cons (pv 5) pa_nil)) (pa_cons (pe_callTy cList rfl T.m_list (by decide +kernel) (pa_cons (pv 6) pa_nil)) pa_nil)) (by rfl))
      (pss_cons (ps_for (L2.passes_of rfl) rfl (pi_range1 (by rfl) T.m_range (pa_cons pe_int pa_nil)) (pg_name (i := 10) sc_law.nd rfl (by first | exact Or.inl rfl | exact Or.inr rfl)) (pss_cons (ps_set (i := 11) sc_law.nd rfl (by first | exact Or.inl rfl | exact Or.inr rfl) (pe_cal G_put_in hr (by decide) rfl (L2N.takes_of rfl rfl rfl rfl) (pa_cons (pv 3) (pa_cons (pv 8) (pa_cons (pv 9) pa_nil)))))
      (pss_cons (ps_if (PW.pt (pw_or (pt_not (pt_val (pe_callB cIsi rfl T.m_isinstance (by decide +kernel) (pa_cons (pv 11) (pa_cons (pe_bltn (v := .ty "list") rfl T.m_list (by decide +kernel) rfl) pa_nil))))) (pw_or1 (pt_cmpR (oNe hr.units) (pv 11) (pe_cal G_law_put hr (by decide) rfl (L2N.takes_of rfl rfl rfl rfl) (pa_cons (pv 3) (pa_cons (pv 5) (pa_cons (pv 6) pa_nil)))) (nomark _))))) (pss_cons (ps_ret pe_bl)
      pss_nil) pss_nil)
      (pss_cons (ps_if (PW.pt (pw_or (pt_cmpR (oNe hr.units) (pv 8) (pv 5) (nomark _)) (pw_or1 (pt_cmpR (oNe hr.units) (pv 9) (pv 6) (nomark _))))) (pss_cons (ps_ret pe_bl)
      pss_nil) pss_nil)
      (pss_cons (ps_if (pt_val (pe_callB (cAny rfl) rfl T.m_any (by decide +kernel) (pa_cons (pe_lc (own := [("_law_one", 14)]) (g := (gName 14)) (tt := tYes) rfl sc_law.nd (pi_list (pv 11)) (blkOk_by (by kernel_rfl)) (fun _ _ _ _ _ => (pg_name (i := 14) sc_law.nd rfl (by first | exact Or.inl rfl | exact Or.inr rfl))) (fun _ _ _ _ _ => pts_nil) (fun _ _ _ _ _ => (pe_callB cIsi rfl T.m_isinstance (by decide +kernel) (pa_cons (pv 14) (pa_cons (pe_bltn (v := .ty "bool") rfl T.m_bool (by decide +kernel) rfl) pa_nil))))) pa_nil))) (pss_cons (ps_ret pe_bl)
      pss_nil) pss_nil)
      (pss_cons (ps_expr (pe_bm PySem.F.plainAttrs_list PySem.F.slot_list_append PySem.F.type_list_append mt_append (pv 11) (pa_cons pe_int pa_nil)))
      pss_nil))))))
      (pss_cons (ps_set (i := 12) sc_law.nd rfl (by first | exact Or.inl rfl | exact Or.inr rfl) (pe_callB (call_min3Nu rfl) rfl T.m_min (by decide +kernel) (pa_cons (pe_callB cLen rfl T.m_len (by decide +kernel) (pa_cons (pv 5) pa_nil)) (pa_cons (pe_callB cLen rfl T.m_len (by decide +kernel) (pa_cons (pv 6) pa_nil)) (pa_cons (pe_callB cLen rfl T.m_len (by decide +kernel) (pa_cons (pv 7) pa_nil)) pa_nil)))))
      (pss_cons (ps_set (i := 13) sc_law.nd rfl (by first | exact Or.inl rfl | exact Or.inr rfl) (pe_cal G_put_in hr (by decide) rfl (L2N.takes_of rfl rfl rfl rfl) (pa_cons (pv 3) (pa_cons (pe_cal G_put_in hr (by decide) rfl (L2N.takes_of rfl rfl rfl rfl) (pa_cons (pv 3) (pa_cons (pv 5) (pa_cons (pv 6) pa_nil)))) (pa_cons (pv 7) pa_nil)))))
      (pss_cons (ps_if (pt_cmpR (oNe hr.units) (pe_slice sl_list (pv 13) po_none (po_some (pv 12))) (pe_slice sl_list (pe_cal G_put_in hr (by decide) rfl (L2N.takes_of rfl rfl rfl rfl) (pa_cons (pv 3) (pa_cons (pv 5) (pa_cons (pe_cal G_put_in hr (by decide) rfl (L2N.takes_of rfl rfl rfl rfl) (pa_cons (pv 3) (pa_cons (pv 6) (pa_cons (pv 7) pa_nil)))) pa_nil)))) po_none (po_some (pv 12))) (nomark _)) (pss_cons (ps_ret pe_bl)
      pss_nil) pss_nil)
      (pss_cons (ps_if (pt_not (pt_val (pe_cal G_law_out_right hr (by decide) rfl (L2N.takes_of rfl rfl rfl rfl) (pa_cons (pv 3) (pa_cons (pe_op oAdd (pe_lst (pa_cons pe_int (pa_cons (pe_op oAdd pe_int (pe_op oMod (pv 1) (pe_op oSub (pv 3) pe_int))) pa_nil))) (pv 5)) pa_nil))))) (pss_cons (ps_ret pe_bl)
      pss_nil) pss_nil)
      (pss_cons (ps_if (pt_not (pt_val (pe_callL (ce := (cellsFrom (s.heap.objs.size + 1) (defScope (top 28)).names [])) (fr := ["_law_prime_here", "_law_outer"]) (js := [3, 5]) G_law_none hr (by decide) rfl (L2N.takes_of rfl rfl rfl rfl) (pa_cons (pe_lam (L := lam_law_0 (cellsFrom (s.heap.objs.size + 1) (defScope (top 28)).names [])) Mk rfl rfl (fre_lam_law_0 _) rfl) (pa_cons (pe_op oAdd (pe_lst (pa_cons (pe_op oAdd pe_int (pe_op oMod (pv 1) (pe_op oSub (pv 3) pe_int))) pa_nil)) (pv 5)) pa_nil)) rfl (fun _ _ => rfl) kin_lam_law_0 rfl))) (pss_cons (ps_ret pe_bl)
      pss_nil) pss_nil)
      (pss_cons (ps_if (pt_not (pt_val (pe_callL (ce := (cellsFrom (s.heap.objs.size + 1) (defScope (top 28)).names [])) (fr := ["_law_prime_here"]) (js := [3]) G_law_none hr (by decide) rfl (L2N.takes_of rfl rfl rfl rfl) (pa_cons (pe_lam (L := lam_law_1 (cellsFrom (s.heap.objs.size + 1) (defScope (top 28)).names [])) Mk rfl rfl (fre_lam_law_1 _) rfl) (pa_cons (pe_op oAdd (pe_lst (pa_cons pe_int (pa_cons pe_int pa_nil))) (pv 5)) pa_nil)) rfl (fun _ _ => rfl) kin_lam_law_1 rfl))) (pss_cons (ps_ret pe_bl)
      pss_nil) pss_nil)
      (pss_cons (ps_if (pt_not (pt_val (pe_callL (ce := (cellsFrom (s.heap.objs.size + 1) (defScope (top 28)).names [])) (fr := ["_law_prime_here"]) (js := [3]) G_law_none hr (by decide) rfl (L2N.takes_of rfl rfl rfl rfl) (pa_cons (pe_lam (L := lam_law_2 (cellsFrom (s.heap.objs.size + 1) (defScope (top 28)).names [])) Mk rfl rfl (fre_lam_law_2 _) rfl) (pa_cons (pe_ix oIx (pe_lst (pa_cons (pe_lst (pa_cons pe_int pa_nil)) (pa_cons (pe_lst (pa_cons pe_int (pa_cons pe_int pa_nil))) (pa_cons (pe_lst (pa_cons pe_int pa_nil)) (pa_cons (pe_lst (pa_cons pe_int (pa_cons pe_int pa_nil))) pa_nil))))) (pe_op oMod (pv 1) pe_int) (fun _ _ => rfl)) pa_nil)) rfl (fun _ _ => rfl) kin_lam_law_2 rfl))) (pss_cons (ps_ret pe_bl)
      pss_nil) pss_nil)
      pss_nil)))))))))))))
      (pss_cons (ps_ret (pe_and (pe_cmpR (oEq hr.units) (pe_cal G_turned_out hr (by decide) rfl (L2N.takes_of rfl rfl rfl rfl) (pa_cons pe_int (pa_cons (pe_lst (pa_cons pe_int (pa_cons pe_int (pa_cons pe_int (pa_cons pe_int pa_nil))))) pa_nil))) (pe_lst (pa_cons pe_int (pa_cons pe_int (pa_cons pe_int (pa_cons pe_int pa_nil))))) (nomark _)) (pe_one (pe_cmpR (oEq hr.units) (pe_cal G_put_in hr (by decide) rfl (L2N.takes_of rfl rfl rfl rfl) (pa_cons pe_int (pa_cons (pe_lst (pa_cons pe_int (pa_cons pe_int (pa_cons pe_int pa_nil)))) (pa_cons (pe_lst (pa_cons pe_int (pa_cons pe_int (pa_cons pe_int pa_nil)))) pa_nil)))) (pe_lst (pa_cons pe_int (pa_cons pe_int (pa_cons pe_int pa_nil)))) (nomark _)))))
      pss_nil)))
def mkD (x : Str) (i : Nat) : He.DefD := ⟨(x, none), x, x, defArgs (top i), defBody (top i), defScope (top i), [], []⟩
def fn : List He.DefD := [mkD "is_whole" 9, mkD "asked_prime" 10, mkD "are_rests" 11, mkD "asked_row" 12, mkD "partner" 13, mkD "times_of" 15, mkD "put_of" 17, mkD "put_in" 18, mkD "turned_out" 19, mkD "_law_number" 21, mkD "_law_prime" 22, mkD "_law_row" 23, mkD "_law_times" 24, mkD "_law_put" 25, mkD "_law_none" 26, mkD "_law_out_right" 27, mkD "law" 28]
def fa : List He.Fa := ([.free "abs", .free "all", .free "any", .free "bool", .free "int", .free "isinstance", .free "len", .free "list", .free "min", .free "range", .free "sum", .free "zip", .exc "PowerError", .glo "PowerError", .exc "BadPrime", .glo "BadPrime", .exc "BadRow", .glo "BadRow", .exc "NoPart", .glo "NoPart", .exc "NoInside", .glo "NoInside", .int "MOST" 20, .glo "PRIMES", .glo "is_whole", .glo "asked_prime", .glo "are_rests", .glo "asked_row", .glo "partner", .glo "times_of"] : List He.Fa) ++ ([.glo "put_of", .glo "put_in", .glo "turned_out", .glo "_law_number", .glo "_law_prime", .glo "_law_row", .glo "_law_times", .glo "_law_put", .glo "_law_none", .glo "_law_out_right", .glo "law", .exm "PowerError" "PowerError" true, .exm "BadPrime" "PowerError" true, .exm "BadRow" "PowerError" true, .exm "NoPart" "PowerError" true, .exm "NoInside" "PowerError" true] : List He.Fa)
def fx : List Fx := ([.tup "PRIMES" [2, 3, 5, 7, 11, 13, 17, 19, 23, 29, 31, 37, 41, 43, 47, 53, 59, 61, 67, 71, 73, 79, 83, 89, 97], .excC "PowerError", .excC "BadPrime", .excC "BadRow", .excC "NoPart", .excC "NoInside", .kit "PowerError" "PowerError" true, .kit "PowerError" "BadPrime" false, .kit "PowerError" "BadRow" false, .kit "PowerError" "NoPart" false, .kit "PowerError" "NoInside" false, .kit "BadPrime" "PowerError" true, .kit "BadPrime" "BadPrime" true, .kit "BadPrime" "BadRow" false, .kit "BadPrime" "NoPart" false, .kit "BadPrime" "NoInside" false, .kit "BadRow" "PowerError" true, .kit "BadRow" "BadPrime" false, .kit "BadRow" "BadRow" true, .kit "BadRow" "NoPart" false, .kit "BadRow" "NoInside" false, .kit "NoPart" "PowerError" true, .kit "NoPart" "BadPrime" false, .kit "NoPart" "BadRow" false, .kit "NoPart" "NoPart" true, .kit "NoPart" "NoInside" false, .kit "NoInside" "PowerError" true, .kit "NoInside" "BadPrime" false, .kit "NoInside" "BadRow" false, .kit "NoInside" "NoPart" false] : List Fx) ++ ([.kit "NoInside" "NoInside" true] : List Fx)
abbrev R : PySem.W.OpenRow := PySem.W.OpenLaw.row PySem.Challenge.rw_powerrows_k02_whole_inside
abbrev hk : PySem.W.Hook := hookL 4 fa (exF fx) fn tf
def ob (s : PySem.W.SharedT) : He.AlD := obsLG 4 fa (exF fx) fn tf (HandSHeadRun.getT s)
theorem ob_eq (s : PySem.W.SharedT) : ob s = hk.obs s.abs := obsLG_eq (HandSHeadRun.getT_eq s)
def loose : List PySem.Str := ["PowerError", "BadPrime", "BadRow", "NoPart", "NoInside", "PRIMES", "MOST", "is_whole", "asked_prime", "are_rests", "asked_row", "partner", "times_of", "put_of", "put_in", "turned_out", "_law_number", "_law_prime", "_law_row", "_law_times", "_law_put", "_law_none", "_law_out_right"]
theorem run (w : World) : HandSHeadRun.RunEq R (PySem.W.view R.prog [28]) hk ob 12000 loose w := by
  intro os
  kernel_rfl
theorem txt_of {K : PySem.W.Frag} {h : Heap} {mg : Str → Option Value} (X : K.In h) (G : h.Ns mainGlobals mg) (c : SaysB fa (exF fx) fn K) : Txt K mg where
  c_MOST := He.int_ok X G (c.fact 22 (f := .int "MOST" 20) rfl)
  c_PRIMES := He.glo_ok X G (c.fact 23 (f := .glo "PRIMES") rfl)
  x_BadPrime := excG_of X G (c.fact 14 (f := .exc "BadPrime") rfl) (c.fact 15 (f := .glo "BadPrime") rfl)
  x_BadRow := excG_of X G (c.fact 16 (f := .exc "BadRow") rfl) (c.fact 17 (f := .glo "BadRow") rfl)
  x_NoInside := excG_of X G (c.fact 20 (f := .exc "NoInside") rfl) (c.fact 21 (f := .glo "NoInside") rfl)
  x_NoPart := excG_of X G (c.fact 18 (f := .exc "NoPart") rfl) (c.fact 19 (f := .glo "NoPart") rfl)
  x_PowerError := excG_of X G (c.fact 12 (f := .exc "PowerError") rfl) (c.fact 13 (f := .glo "PowerError") rfl)
  m_abs := He.free_ok X G (c.fact 0 (f := .free "abs") rfl)
  m_all := He.free_ok X G (c.fact 1 (f := .free "all") rfl)
  m_any := He.free_ok X G (c.fact 2 (f := .free "any") rfl)
  m_bool := He.free_ok X G (c.fact 3 (f := .free "bool") rfl)
  m_int := He.free_ok X G (c.fact 4 (f := .free "int") rfl)
  m_isinstance := He.free_ok X G (c.fact 5 (f := .free "isinstance") rfl)
  m_len := He.free_ok X G (c.fact 6 (f := .free "len") rfl)
  m_list := He.free_ok X G (c.fact 7 (f := .free "list") rfl)
  m_min := He.free_ok X G (c.fact 8 (f := .free "min") rfl)
  m_range := He.free_ok X G (c.fact 9 (f := .free "range") rfl)
  m_sum := He.free_ok X G (c.fact 10 (f := .free "sum") rfl)
  m_zip := He.free_ok X G (c.fact 11 (f := .free "zip") rfl)
  f_is_whole := ⟨c.def_ 0 (d := mkD "is_whole" 9) rfl, He.glo_ok X G (c.fact 24 (f := .glo "is_whole") rfl)⟩
  f_asked_prime := ⟨c.def_ 1 (d := mkD "asked_prime" 10) rfl, He.glo_ok X G (c.fact 25 (f := .glo "asked_prime") rfl)⟩
  f_are_rests := ⟨c.def_ 2 (d := mkD "are_rests" 11) rfl, He.glo_ok X G (c.fact 26 (f := .glo "are_rests") rfl)⟩
  f_asked_row := ⟨c.def_ 3 (d := mkD "asked_row" 12) rfl, He.glo_ok X G (c.fact 27 (f := .glo "asked_row") rfl)⟩
  f_partner := ⟨c.def_ 4 (d := mkD "partner" 13) rfl, He.glo_ok X G (c.fact 28 (f := .glo "partner") rfl)⟩
  f_times_of := ⟨c.def_ 5 (d := mkD "times_of" 15) rfl, He.glo_ok X G (c.fact 29 (f := .glo "times_of") rfl)⟩
  f_put_of := ⟨c.def_ 6 (d := mkD "put_of" 17) rfl, He.glo_ok X G (c.fact 30 (f := .glo "put_of") rfl)⟩
  f_put_in := ⟨c.def_ 7 (d := mkD "put_in" 18) rfl, He.glo_ok X G (c.fact 31 (f := .glo "put_in") rfl)⟩
  f_turned_out := ⟨c.def_ 8 (d := mkD "turned_out" 19) rfl, He.glo_ok X G (c.fact 32 (f := .glo "turned_out") rfl)⟩
  f_law_number := ⟨c.def_ 9 (d := mkD "_law_number" 21) rfl, He.glo_ok X G (c.fact 33 (f := .glo "_law_number") rfl)⟩
  f_law_prime := ⟨c.def_ 10 (d := mkD "_law_prime" 22) rfl, He.glo_ok X G (c.fact 34 (f := .glo "_law_prime") rfl)⟩
  f_law_row := ⟨c.def_ 11 (d := mkD "_law_row" 23) rfl, He.glo_ok X G (c.fact 35 (f := .glo "_law_row") rfl)⟩
  f_law_times := ⟨c.def_ 12 (d := mkD "_law_times" 24) rfl, He.glo_ok X G (c.fact 36 (f := .glo "_law_times") rfl)⟩
  f_law_put := ⟨c.def_ 13 (d := mkD "_law_put" 25) rfl, He.glo_ok X G (c.fact 37 (f := .glo "_law_put") rfl)⟩
  f_law_none := ⟨c.def_ 14 (d := mkD "_law_none" 26) rfl, He.glo_ok X G (c.fact 38 (f := .glo "_law_none") rfl)⟩
  f_law_out_right := ⟨c.def_ 15 (d := mkD "_law_out_right" 27) rfl, He.glo_ok X G (c.fact 39 (f := .glo "_law_out_right") rfl)⟩
  f_law := ⟨c.def_ 16 (d := mkD "law" 28) rfl, He.glo_ok X G (c.fact 40 (f := .glo "law") rfl)⟩
theorem kf_of {K : PySem.W.Frag} (c : SaysB fa (exF fx) fn K) : KF K where
  t_PRIMES := tup_ok (exF_at c.more 0 (f := .tup "PRIMES" [2, 3, 5, 7, 11, 13, 17, 19, 23, 29, 31, 37, 41, 43, 47, 53, 59, 61, 67, 71, 73, 79, 83, 89, 97]) rfl)
  e_PowerError := excC_ok (exF_at c.more 1 (f := .excC "PowerError") rfl)
  p_PowerError := He.exm_ok (c.fact 41 (f := .exm "PowerError" "PowerError" true) rfl)
  i_PowerError_PowerError := kit_ok (exF_at c.more 6 (f := .kit "PowerError" "PowerError" true) rfl)
  i_PowerError_BadPrime := kit_ok (exF_at c.more 7 (f := .kit "PowerError" "BadPrime" false) rfl)
  i_PowerError_BadRow := kit_ok (exF_at c.more 8 (f := .kit "PowerError" "BadRow" false) rfl)
  i_PowerError_NoPart := kit_ok (exF_at c.more 9 (f := .kit "PowerError" "NoPart" false) rfl)
  i_PowerError_NoInside := kit_ok (exF_at c.more 10 (f := .kit "PowerError" "NoInside" false) rfl)
  e_BadPrime := excC_ok (exF_at c.more 2 (f := .excC "BadPrime") rfl)
  p_BadPrime := He.exm_ok (c.fact 42 (f := .exm "BadPrime" "PowerError" true) rfl)
  i_BadPrime_PowerError := kit_ok (exF_at c.more 11 (f := .kit "BadPrime" "PowerError" true) rfl)
  i_BadPrime_BadPrime := kit_ok (exF_at c.more 12 (f := .kit "BadPrime" "BadPrime" true) rfl)
  i_BadPrime_BadRow := kit_ok (exF_at c.more 13 (f := .kit "BadPrime" "BadRow" false) rfl)
  i_BadPrime_NoPart := kit_ok (exF_at c.more 14 (f := .kit "BadPrime" "NoPart" false) rfl)
  i_BadPrime_NoInside := kit_ok (exF_at c.more 15 (f := .kit "BadPrime" "NoInside" false) rfl)
  e_BadRow := excC_ok (exF_at c.more 3 (f := .excC "BadRow") rfl)
  p_BadRow := He.exm_ok (c.fact 43 (f := .exm "BadRow" "PowerError" true) rfl)
  i_BadRow_PowerError := kit_ok (exF_at c.more 16 (f := .kit "BadRow" "PowerError" true) rfl)
  i_BadRow_BadPrime := kit_ok (exF_at c.more 17 (f := .kit "BadRow" "BadPrime" false) rfl)
  i_BadRow_BadRow := kit_ok (exF_at c.more 18 (f := .kit "BadRow" "BadRow" true) rfl)
  i_BadRow_NoPart := kit_ok (exF_at c.more 19 (f := .kit "BadRow" "NoPart" false) rfl)
  i_BadRow_NoInside := kit_ok (exF_at c.more 20 (f := .kit "BadRow" "NoInside" false) rfl)
  e_NoPart := excC_ok (exF_at c.more 4 (f := .excC "NoPart") rfl)
  p_NoPart := He.exm_ok (c.fact 44 (f := .exm "NoPart" "PowerError" true) rfl)
  i_NoPart_PowerError := kit_ok (exF_at c.more 21 (f := .kit "NoPart" "PowerError" true) rfl)
  i_NoPart_BadPrime := kit_ok (exF_at c.more 22 (f := .kit "NoPart" "BadPrime" false) rfl)
  i_NoPart_BadRow := kit_ok (exF_at c.more 23 (f := .kit "NoPart" "BadRow" false) rfl)
  i_NoPart_NoPart := kit_ok (exF_at c.more 24 (f := .kit "NoPart" "NoPart" true) rfl)
  i_NoPart_NoInside := kit_ok (exF_at c.more 25 (f := .kit "NoPart" "NoInside" false) rfl)
  e_NoInside := excC_ok (exF_at c.more 5 (f := .excC "NoInside") rfl)
  p_NoInside := He.exm_ok (c.fact 45 (f := .exm "NoInside" "PowerError" true) rfl)
  i_NoInside_PowerError := kit_ok (exF_at c.more 26 (f := .kit "NoInside" "PowerError" true) rfl)
  i_NoInside_BadPrime := kit_ok (exF_at c.more 27 (f := .kit "NoInside" "BadPrime" false) rfl)
  i_NoInside_BadRow := kit_ok (exF_at c.more 28 (f := .kit "NoInside" "BadRow" false) rfl)
  i_NoInside_NoPart := kit_ok (exF_at c.more 29 (f := .kit "NoInside" "NoPart" false) rfl)
  i_NoInside_NoInside := kit_ok (exF_at c.more 30 (f := .kit "NoInside" "NoInside" true) rfl)
theorem facts {P : Program} {w : World} {K : PySem.W.Frag} {h : Heap} {mg : Str → Option Value} {f : Addr} (hT : Tb.T = tabT tf K) (X : K.In h) (G : h.Ns mainGlobals mg) (hfa : mg ("law" : Str) = some (.ref f)) (c : SaysB fa (exF fx) fn K) :
    ∃ fd : FuncData, (∀ (s : Shared) (v : Value), BindsTo s fd ⟨[v], []⟩ [("_law_script", v)]) ∧ ∀ base : Heap, TabF tf K base mg → FnOk P w K mg base (L2N.CX P w) 8 f fd ["_law_script"] (spD K (S_law K)) := by
  have T := txt_of X G c
  obtain ⟨⟨fd, F⟩, hm⟩ := T.f_law
  have e := hfa.symm.trans hm
  cases e
  have b := FunD.bindsA (ps := ["_law_script"]) F fun _ _ _ _ _ _ us hl => match us, hl with | [_], _ => rfl
  refine ⟨fd, fun s v => b s [v] rfl, fun base M => ?_⟩
  have G_times_of := good_times_of (P := P) (w := w) (base := base) T
  have G_put_of := good_put_of (P := P) (w := w) (base := base) T G_times_of
  have G_partner := good_partner (P := P) (w := w) (base := base) T
  have G_is_whole := good_is_whole (P := P) (w := w) (base := base) T
  have G_are_rests := good_are_rests (P := P) (w := w) (base := base) T G_is_whole
  have G_asked_prime := good_asked_prime (P := P) (w := w) (base := base) T G_is_whole
  have G_asked_row := good_asked_row (P := P) (w := w) (base := base) T G_are_rests G_asked_prime
  have G_turned_out := good_turned_out (P := P) (w := w) (base := base) T G_put_of G_partner G_asked_row
  have G_put_in := good_put_in (P := P) (w := w) (base := base) T G_put_of G_asked_row
  have AL := lams_ok (P := P) (w := w) (base := base) T G_put_in G_turned_out
  have G_law_none := good_law_none (P := P) (w := w) (base := base) T AL
  have G_law_times := good_law_times (P := P) (w := w) (base := base) T
  have G_law_put := good_law_put (P := P) (w := w) (base := base) T G_law_times
  have G_law_out_right := good_law_out_right (P := P) (w := w) (base := base) T G_turned_out G_law_put
  have G_law_number := good_law_number (P := P) (w := w) (base := base) T
  have G_law_row := good_law_row (P := P) (w := w) (base := base) T G_law_number
  have G_law_prime := good_law_prime (P := P) (w := w) (base := base) T
  exact fnok_law (P := P) (w := w) (base := base) T F M G_turned_out G_put_in G_law_none G_law_out_right G_law_put G_law_row G_law_prime
end K02
open PySem PySem.W PySem.Calls PyProof.Rows
set_option maxRecDepth 100000 in
set_option maxHeartbeats 0 in
theorem PySem.Challenge.cw_powerrows_k02_whole_inside_holds : PySem.Challenge.rw_powerrows_k02_whole_inside.Holds := by
  w_on; o_law
  letI : Px.Tb := ⟨[]⟩
  refine HandSHeadRun.head_any (r := OpenLaw.row PySem.Challenge.rw_powerrows_k02_whole_inside) (q := view (OpenLaw.row PySem.Challenge.rw_powerrows_k02_whole_inside).prog [28]) (H := K02.hk) (ob := K02.ob) (M := 12000) (loose := K02.loose) (d := HandSHeadRun.topDef (OpenLaw.row PySem.Challenge.rw_powerrows_k02_whole_inside).prog 28) (kwd := []) K02.ob_eq
    (by kernel_rfl) (fun s => by kernel_rfl) K02.run (by kernel_rfl) (by kernel_rfl) (by kernel_rfl) (by rfl) (by first | assumption | decide +kernel) (by decide +kernel) ⟨rfl, rfl, rfl, rfl, rfl, by decide +kernel⟩ ?hw ?hc
  case hw => w_witness2
  case hc =>
    refine LamX.walk_ofTsE (l := PySem.Challenge.rw_powerrows_k02_whole_inside) (n := 63) (k := 8) (x := "_law_script") (CX := fun w => L2N.CX (PySem.Challenge.rw_powerrows_k02_whole_inside).prog w) rfl (by decide) (by kernel_rfl) ⟨rfl, by decide, by decide⟩ ?F (fun w H s e s' h => by
      obtain ⟨_, _, _, _, _, _, _, _, _, _, _, _, z⟩ := h
      exact z.elim)
    intro w mg fa h Y G hmg0
    obtain ⟨K, KX, c⟩ := Y
    have hmg : mg ("law" : PySem.Str) = some (.ref fa) := by
      have e : (HandSHeadRun.topDef (OpenLaw.row PySem.Challenge.rw_powerrows_k02_whole_inside).prog 28).name = ("law" : PySem.Str) := by kernel_rfl
      rw [← e]
      exact hmg0
    letI : Px.Tb := ⟨Px.tabT K02.tf K⟩
    obtain ⟨fd, hb, hF⟩ := K02.facts (P := (PySem.Challenge.rw_powerrows_k02_whole_inside).prog) (w := w) rfl KX G hmg c.b
    exact ⟨K, KX, Px.law_atL rfl KX c hb (fun ns hl hbits => K02.law_start (K02.kf_of c.b) hl fun z hz => Px.bits_of (hbits z hz)) hF⟩
